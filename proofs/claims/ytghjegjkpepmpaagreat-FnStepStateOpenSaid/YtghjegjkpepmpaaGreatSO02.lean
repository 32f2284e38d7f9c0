/- Part of a proof. -/
import Derived.Test.YtghjegjkpepmpaaGreatSO01
set_option linter.all false
set_option maxHeartbeats 8000000
set_option maxRecDepth 100000
namespace Go.Proofs.YtghjegjkpepmpaaGreat
open Go.Vc
section
variable{a c:Nat}
def Jk(a b:Nat):a*a+b*b<=(a+b)*(a+b):=by
 rw[gT,Nat.mul_add,Nat.mul_add];omega
def Qu{b:Nat}(h:a<=b):a*a<=b*b:=MO h h
structure CN(ds:List bB)(c:Nat)(S:List Nat)(m2 M:E)(a:Nat)(aE:List cZ)(k:Nat)(st run:O)(lo lr:List cZ)(P:Nat):Prop where
 x:J m2 M
 gs:GS (run.D::S) m2 M st lo
 gr:GS [st.D] m2 M run lr
 wl:WL ds c True a lo
 XO:dc lo=dc (aE.take k)
 sws:sw lo<=P*P
 P':P+2*lr.length<=sw (aE.take k)
 lY:XJ lr
 XV:∀o,zJ lr o->0<=o/\o<((a+dc (aE.take k):Nat):Int)
 ne:st.D≠run.D
def Qo{f:List bB}{l b:List cZ}(h:VO l b)(e:∀o,zJ l o->0<=o/\o<(a:Int)):WL f c True a b/\dc b=0/\sw b<=(2*l.length)*(2*l.length):=by
 obtain⟨k,j,rfl,g,i,m⟩:=h;refine⟨(sk V λo d=>e o (g o d)).append ?_,?_,?_⟩
 .rw[j9 V];exact sk V λo d=>e o (i o d)
 .rw[da,j9 V,j9 V]
 .rw[dH,oP,oP];have:(2*l.length)*(2*l.length)=4*(l.length*l.length):=by
   rw[Nat.mul_mul_mul_comm]
  omega
def ZO(e:List bB)(c:Nat)(b:Bk):Prop:=∀(S:List Nat)(m:E),(∀d∈S,d<m.size)->∀(t:O)(a:Nat),eR m t b.aE->WB e c True a b->b.w<=400000->nK 199 [.agg #[O.v t,vi b.aT]] m S λd=>WB e c True a d/\d.w<=b.w*b.w
def EK{K:List bB}:∀g:Bk,ZO K c g:=by
 refine Bk.ind ?_;intro aE bg ih s I hS bU a hs a_ hw;have aJ:=a_.aU;rw[Bk.qW]at hw⊢;simp only[Bk.j8,Bk.jE]at*;apply xI;simp -zeta only[aD,aC];intro j k Q m3;let⟨x1,hl⟩:=dI (a:=j) (c:=k) rfl rfl;have s0:j.size=I.size+1:=by simp[j]
 have s1:k.size=I.size+2:=by simp[k,s0]
 have bk:J k m3:=(J.push k _).trans (J.push Q _);have s2:Q.size=k.size+1:=by simp[Q]
 have a2:∀u,GS u k m3 (.mk k.size 0 0 0) []:=λu=>(GS.new u k).ext gK.mono (J.push Q _);have a1:∀u,GS u k m3 (.mk Q.size 0 0 0) []:=λu=>(GS.new u Q).cA gK.mono (λg m=>Or.inl m) V;clear_value m3;clear_value k;have a9:=hs.len;have aH:=BV aE;have bz:=gB aE;have ay:∀e∈j.size::s,e<k.size:=bR hS x1.size (hl _ aN);refine xt (n:=aE.length) (a9▸hs.gX) (λv G z q=>∃Z t P,CN K c (j.size::s) k q a aE v G z Z t P) ⟨[],[],0,bk,a2 _,a1 _,WL.nil _ _ _ _,rfl,aN,aN,λ_ h=>by simp at h,λaf⟨_,h,_⟩=>by simp at h,bG⟩ ?_;rintro v G z y bm μ hk ⟨Z,t,P,C⟩ aL
 have T:=C.x;have R:=x1.trans T;have bM:=C.gs.bq;have bL:=C.gr.bq;have z4:=T.size;have av:=C.P';have bA:=aH v;have bo:P*P<=160000000000:=bJ (Qu (b:=400000) V) bn;have bx:=gB Z;have a7:=C.sws;have aF:=C.ne;have L:∀{q:E}{u:List Nat},y.size<=q.size->(∀e∈u,e<q.size)->∀e∈u++j.size::s,e<q.size:=λh m e f=>by
  rcases List.mem_append.1 f with h|h
  .exact m e h
  .have:=ay e h;omega
 have aG:∀{q:E},J y q->eR q z t:=λh=>eR.le (bD _ _) ((C.gr.ext gK.mono h).nV gK.mono (by simpa using aF.symm) bn V);refine dit (λh=>?_) λh=>?_
 .let⟨d,X⟩:=cL aE v;let⟨pa,pk,ha,ab,g0,g1,g2,g3,g4⟩:=hs.aF X;refine⟨V,V,_,R.af g0,_,R.af g1,_,R.af g2,_,R.af g3,_,R.af g4,?_⟩;intro m5 F;have x6:J y F:=(J.push y _).ai (ad _) _ _;have s6:F.size=y.size+1:=by simp[F,m5,ax]
  clear_value F;have O:∀{q:E},F.size<=q.size->∀g∈[y.size,j.size,I.size],g<q.size:=λh g m=>by
   rcases List.mem_cons.1 m with i|i
   .omega
   .have:=hl g i;omega
  have bF:=qu X;have bE:=rf X;have ba:=cZ.mJ d;have W:=aJ.1 v d X;have bC:=aH (v+1);have br:=qG d.bF;refine(Bh pa pk F).aJ (J.aA F) (O (ad _)) λbp m7 a4 x7 _=>⟨_,rfl,λhp=>?_,λhp=>?_⟩
  · -- a pair goes to the run
   have hp:=a4.1 hp;have D:d.args.length=1:=W.fj.lY V;have N:dn d=0:=ae λh:pG d.op=>by have:=h.2;omega
   have A:=x6.trans x7;intro m8;have r:Le I (bI (z.D::[G.D]) m7):=(Ap I).trans (((R.trans A).fz []).bI aN λe f=>by simp at f;have:=x1.size;exact Or.inr V);refine GS.kY (x:=d) (C.gr.ext gK.mono A) ((T.trans A).fz []) (ha.le r) (ab.le r) V λa0 M' U B l w=>⟨λe f=>?_,aL V _ _ _ ⟨Z,t++[d],P,B.ext,(C.gs.ext gK.mono A).re gK.mono (Y:=[z.D]) ⟨l.1,λe f o=>w e f (by simpa using o)⟩ aN (by simpa using aF) (λe f=>?_),U,C.wl,by rw[C.XO];omega,a7,bG,λak o=>?_,λaf H=>?_,?_⟩⟩
   .have:=O (q:=m7) x7.size e f;rw[w e this (by simp at f;omega),(J.push m7 _).same e this]
   .rcases List.mem_cons.1 f with i|i
    .rcases l.2 with p|p
     .exact Or.inl (by rw[i,p];exact aZ)
     .exact Or.inr V
    .exact Or.inl (ah _ i)
   .rcases List.mem_append.1 o with o|o
    .exact C.lY ak o
    .simp at o;subst o;exact D
   .let⟨ak,o,p⟩:=H;have i:dc (aE.take (v+1))=dc (aE.take v):=V;rw[i];rcases List.mem_append.1 o with o|o
    .exact C.XV af ⟨ak,o,p⟩
    .simp at o;subst o;exact W.fj.args af p
   .have:=(C.gs.ext gK.mono A).bq;rcases l.2 with i|i<;>omega
  · -- another step ends the run
   have A:=x6.trans x7;have aS:=A.size;refine(yC (b:=[G.D,z.D]++j.size::s) (L aS bG) (aG A) C.lY V).aJ (J.aA m7) (O x7.size) λbS bb bN aW be aO _=>⟨_,rfl,?_⟩;let⟨an,ag,bi⟩:=Qo (f:=K) (c:=c) be C.XV;have bu:=gB bb;have vQ:=aO.size;have z7:=x7.size;have a3:(2*t.length)*(2*t.length)<=160000000000:=bJ (Qu (b:=400000) V) bn;have aQ:=A.trans aO;refine GS.all (C.gs.ext gK.mono aQ) ((T.trans aQ).fz []) (aW.done gK.mono (L (u:=[G.D,z.D]) aS bG) bn V) V λw l au aU aR bf=>⟨λe f=>bf e (O V e f) (by simp at f;omega),?_⟩;have ap:J k l:=aU.ext;have bV:=aR.1;have bH:=au.bq;have bq:w.D=G.D\/F.size<=w.D:=by have:=aR.2;omega
   intro p am;have aP:J l p:=J.push l _;have bT:p.size=l.size+1:=by simp[p]
   have bj:J p am:=J.push p _;have ar:=ap.trans aP;have gn:GS [w.D] k p (.mk l.size 0 0 0) []:=(GS.new _ l).cA gK.mono (λg m=>Or.inl m) ap.size;have gk:GB ([w.D,l.size]++j.size::s) p am (.mk p.size 0 0 0) []:=GB.new _ p;have aY:GS ([l.size]++j.size::s) k p w _:=au.re gK.mono (Y:=[]) (aP.fz []) aN aN λe f=>by
    rcases List.mem_cons.1 f with i|i
    .exact Or.inr V
    .exact Or.inl (ah _ i)
   clear_value am;clear_value p;have al:=ab.len;have bs:=KV d.bF;have bt:bw d.bF<=400000:=V;refine eB (n:=d.bF.length) (al▸ab.gX) (λD bh q=>J p q/\∃r,GB ([w.D,l.size]++j.size::s) p q bh r/\r.length=D/\(∀(B:Nat)(g:Bk),r[B]? =some g->WB K c True (a+dc (aE.take v)+Ch K d.op d.bS B) g)/\bw r<=bw (d.bF.take D)*bw (d.bF.take D)) ⟨bj,[],gk,rfl,aN,aN⟩ ?_;rintro D ks ac I2 μ2 hj ⟨aa,r,U,bv,aB,a5⟩ bd;have ai:=x1.trans (ar.trans aa);have bW:=aa.size;have bK:=U.bq;have N:∀g∈[y.size,j.size,I.size],g<ac.size:=O V;refine dit (λh2=>?_) λh2=>?_
   .let⟨g,m⟩:=cL d.bF D;let⟨tb,aV,f0,f1⟩:=ab.aF m;have a6:=xk m;have aM:=uP m;refine⟨V,V,_,ai.af f0,_,ai.af f1,?_⟩;refine(ih d (aq X) g (aq m) ([ks.D,w.D,l.size]++j.size::s) ac (L V bG) tb _ (aV.le ai.le) (W.bF D g m) V).aJ (J.aA ac) N λss b' a8 aT aA ao _=>⟨_,_,rfl,?_⟩;refine GB.kY (c:=b') (U.ext rZ.mono ao) ((aa.trans ao).fz []) aT V λa0 M' g2 f2 z2 q2=>⟨J.oV ((aa.trans ao).aL _) f2.ext (λe f=>oh (O (q:=p) V e f)),bd V _ _ ⟨f2.ext,_,g2,bG,λB b2 H=>?_,?_⟩⟩
    .rcases aX B r.length with aj|aj
     .rw[az aj]at H;exact aB B b2 H
     .rw[aK aj]at H;have:B -r.length=0:=by have:=aw H;simp at this;omega
      rw[this]at H;simp at H;subst H;have:B=D:=V;subst this;exact aA.1
    .rw[pp,uO,zT,aM];have h3:=Jk (bw (d.bF.take D)) g.w;have:=aA.2;omega
   .have a6:r.length=d.bF.length:=V;rw[bZ V]at a5;refine(bQ ([w.D,l.size]++j.size::s) (ha.ext ai) V).aJ (J.aA ac) N λs' l' bc ga i H _=>⟨_,rfl,aI (H.same _ (N _ aN)) _,aI (H.same _ (N _ aN)) _,aI (H.same _ (N _ aN)) _,?_⟩;subst i;intro bO;have aj:=aa.trans H;have bX:=H.size;have ao:∀e∈[w.D,l.size]++j.size::s,e<p.size:=L V bG;have a8:w.D≠l.size:=V;refine GS.kY (x:=⟨d.op,d.bS,d.cg,d.args,r⟩) (aY.ext gK.mono aj) ((ar.trans aj).fz []) (ga.done (λe f=>oh (ao e f)) V) (nT.le (H.dj _) (U.done rZ.mono ao bn (by show r.length<=_;omega))) bG λaM bP a0 aV bl aA=>⟨λe f=>?_,aL V _ _ _ ⟨_,[],P+2*t.length+d.w,aV.ext,a0,?_,((C.wl.append (by rw[C.XO];exact an)).yV (W.P9 id W.fj.cg a6 aB|>λh=>by rw[da,C.XO,ag,jN];exact h)),?_,?_,bG,λ_ h=>by simp at h,λaf⟨_,h,_⟩=>by simp at h,?_⟩⟩
    .have h3:=N e f;rw[aA e V (by simp at f;omega),(J.push bc _).same e V]
    · -- the new run is empty
     have i:=gn.ext gK.mono aj;let⟨p0,aT,p1,p2⟩:=i;refine⟨p0,aT,p1.congr (aA _ (by have:=aj.size;show l.size<_;omega) (kT a8)),p2.len,p2.size,λB cs ak _ o=>by simp at o⟩
    .rw[da,da,C.XO,ag,k8,tA];have i:dn (⟨d.op,d.bS,d.cg,d.args,r⟩:cZ)=dn d:=rfl;omega
    .rw[dH,dH,mW,vJ];have h3:=Jk P (2*t.length);have h4:=Jk (P+2*t.length) d.w;have h5:(⟨d.op,d.bS,d.cg,d.args,r⟩:cZ).w=1+d.args.length+bw r:=cZ.mJ _;have o:=Jk (1+d.args.length) (bw d.bF);have h7:1+d.args.length<=(1+d.args.length)*(1+d.args.length):=Nat.le_mul_of_pos_left _ V;rw[<-ba]at o;omega
    .rcases bl.2 with i|i
     .show aM.D≠l.size;omega
     .show aM.D≠l.size;omega
 .have al:v=aE.length:=V;subst al;rw[fB]at av;have hd:dc (aE.take aE.length)=dc aE:=by rw[fB]
  have i:∀g∈[j.size,I.size],g<y.size:=λg m=>T.lt (hl g m);refine(yC (b:=[G.D,z.D]++j.size::s) (L (ad _) bG) (aG (J.aA _)) C.lY V).aJ (J.aA y) i λO l F r A d _=>⟨_,rfl,aI (d.same _ (i _ aN)) _,?_⟩;let⟨an,ag,bi⟩:=Qo (f:=K) (c:=c) A C.XV;have D:=gB l;have a3:(2*t.length)*(2*t.length)<=160000000000:=bJ (Qu (b:=400000) V) bn;have U:=d.size;refine GS.all (C.gs.ext gK.mono d) ((T.trans d).fz []) (r.done gK.mono (L (u:=[G.D,z.D]) (ad _) bG) bn V) V λB H w p W o=>⟨λe f=>o e (d.lt (i e f)) (oh (hl e f)),aI (o _ (d.lt (i _ aN)) V) _,?_⟩;intro N;refine⟨B,.mk (Z++l) bg,rfl,eR.le (cD aN λe f=>ah _ f) ((w.re gK.mono (S':=j.size::s) (Y:=[]) (Fz.aA _ _) aN aN (λe f=>Or.inl (ah _ f))).done gK.mono ay bn bG),⟨WB.of (C.wl.append (by rw[C.XO];exact an)) ?_,?_⟩,(x1.trans p.ext).ai V _ _⟩
  .rw[da,C.XO,ag,hd];exact aJ.2
  .rw[Bk.qW,dH];have h3:=Jk P (2*t.length);have h4:=Qu av;have h5:=Jk 1 (sw aE);omega
end
section
variable{e:List Nat}{c:E}{d f:O}{g:List gU}{W:Nat}
def IC(F:∀a∈e,a<c.size){j:List bB}(p:eM c d f j g)(hW:W<=400000)(Z:yH j g True W):vr 169 [.agg #[O.v d,O.v f]] c e j λw=>yH j w True (W*W):=by
 apply AO;simp -zeta only[aD,aC];intro b a2;let⟨z,u⟩:=dI (a:=b) (c:=a2) rfl rfl;have s1:b.size=c.size+1:=by simp[b]
 clear_value a2;have ai:=p.jg.len;have ar:=p.oQ;refine(fX (b:=b.size::e) (bR F z.size (u _ aN)) (p.le z.le).br p.types).mono λ_ K⟨ab,k,ad,A⟩=>?_;subst k;refine⟨A.dz u,_,rfl,?_⟩;intro L am aa;have u2:=z.trans A;let⟨x5,B0,g0,s3,s5⟩:=lC (b:=L.size::b.size::e) jc.mono (d:=K) (a:=L) (c:=am) (h:=aa) rfl rfl rfl;clear_value aa;have v:∀a∈[b.size,c.size],a<K.size:=λa i=>A.lt (u a i);have H:∀a∈b.size::e,a<K.size:=λa i=>A.lt (bR F z.size (u _ aN) a i);refine lz (R:=λh o M=>∃d f w,Value.agg #[O.v h,O.v o]=.agg #[O.v d,O.v f]/\eM (bI e M) d f j w/\yH j w True (W*W)/\J c M) (r:=g.length) (f:=c) (b:=e) jc.mono bn bn F ⟨V,v _ aN⟩ u2 s3 ad ai V x5 B0 g0 (λ_ q=>q.params.length<=3/\q.cY.length<=3/\WB j g.length True q.params.length q.body/\q.body.w<=W*W) (λh t I x U X o r s=>⟨h,t,I,rfl,⟨U,X,p.types,V⟩,Ik Z.jm o r,s⟩) λal M st I ao μ ae ap B T C an=>?_
 let⟨q,hq⟩:=cL g al ae;let⟨ah,ag,ak,hw⟩:=Z.dD q (aq hq);have y:=u2.trans B;let⟨au,av,h,c1,c2,c3,N,P,Q,D,E⟩:=p.jg.aF hq;have G:∀{x:Value}{h r:Nat},af c h r=some x->af M h r=some x:=λt=>y.af t;refine⟨st,C.cq 1,V,V,_,G N,_,G P,_,G Q,_,G D,_,G E,V,V,_,G D,_,G E,?_⟩;have hy:=T.bq;have ac:=C.lt;have zM:=B.size;refine(EK q.body (st.D::L.size::b.size::e) M (λa i=>?_) h q.params.length (c3.le y.le) ak V).aJ B v λss b' M1 aj Y o u1=>⟨_,_,rfl,?_⟩
 .simp only[aW]at i;rcases i with k|k|k|k
  .omega
  .omega
  .have:=H a (by simp[k]);omega
  .have:=H a (by simp[k]);omega
 have s:∀{x:Value}{h r:Nat},af c h r=some x->af M1 h r=af M h r:=λt=>by rw[o.af (G t),G t]
 refine⟨s N,s P,s Q,s D,s E,aI (o.same _ (B.lt (v _ aN))) _,aI (o.same _ ac) _,?_⟩;exact wz (b:=b.size::e) (v:=ab) (x:=I) H (λa i=>by have U:=v a i;have X:=u1.size;omega) u1 (T.ext jc.mono o) (C.ext o) V (c1.ext (y.trans o)) (c2.ext (y.trans o)) aj ⟨V,V⟩ V λs' X g' U x'=>an s' X _ g' U x' ⟨ah,ag,Y.1,bJ Y.2 (Qu hw)⟩
def Yc(b:Bk):Prop:=∀(e:List Nat)(c:E),(∀a∈e,a<c.size)->∀t:O,eR c t b.aE->b.w<=10^12->nK 257 [.agg #[O.v t,vi b.aT]] c e (b=·)
def yA(H:∀i∈e,i<c.size){z B:O}{x:cZ}(I:ap c z x.args)(u:nT c B x.bF)(hw:x.w<=10^12)(P:∀h∈x.bF,Yc h):KI 288 [pD x z B] c e (x=·):=by
 apply CS;simp -zeta only[aD,aC];intro d a y;let⟨D,v⟩:=dI (a:=d) (c:=a) rfl rfl;have R:d.size=c.size+1:=by simp[d]
 have s1:a.size=c.size+2:=by simp[a,R]
 have S:J a y:=J.push _ _;have F:GB (d.size::e) a y (.mk a.size 0 0 0) []:=GB.new _ a;clear_value y;clear_value a;have r:∀i∈d.size::e,i<a.size:=bR H D.size (v _ aN);have K:=u.len;have aa:=cZ.mJ x;have Y:=qG x.bF;refine eB (n:=x.bF.length) (K▸u.gX) (λw s M=>J a M/\GB (d.size::e) a M s (x.bF.take w)) ⟨S,F⟩ ?_;rintro w s p U μ hj ⟨m,o⟩ Q
 have l:=D.trans m;have k:∀h∈[d.size,c.size],h<p.size:=λh j=>m.lt (v h j);have N:=o.bq;have T:=m.size;refine dit (λG=>?_) λG=>?_
 .let⟨h,j⟩:=cL x.bF w;let⟨tb,M,A,E⟩:=u.aF j;have Z:=xk j;refine⟨V,V,_,l.af A,_,l.af E,?_⟩;refine(P h (aq j) (s.D::d.size::e) p (bR r T N.2) tb (M.le l.le) V).aJ (J.aA p) k λss X C L q g _=>⟨_,_,rfl,?_⟩;subst q;refine GB.kY (c:=h) (o.ext rZ.mono g) ((m.trans g).fz []) L bG λf W g2 t z2 q2=>⟨J.oV ((m.trans g).aL _) t.ext v,Q V _ _ ⟨t.ext,?_⟩⟩;rw[aV j];exact g2
 .rw[bZ V]at o;refine(bQ (d.size::e) (I.ext l) V).aJ (J.aA p) k λM W C E q g _=>⟨_,rfl,aI (g.same _ (k _ aN)) _,aI (g.same _ (k _ aN)) _,aI (g.same _ (k _ aN)) _,?_⟩;subst q;intro L;have A:Le (bI (d.size::e) C) (bI e L):=cD aN λi t=>ah _ t;exact⟨M,s,x,rfl,(E.done (λi t=>oh (r i t)) V).le A,nT.le A ((o.ext rZ.mono g).done rZ.mono r bn V),rfl,(l.trans g).ai V _ _⟩
def wH:∀j:Bk,Yc j:=by
 refine Bk.ind ?_;intro aE h ih e c W al z hw;rw[Bk.qW]at hw;simp only[Bk.j8,Bk.jE]at*;apply rS;simp -zeta only[aD,aC];intro f b d C q;let⟨I,y⟩:=dI (a:=f) (c:=b) rfl rfl;have s0:f.size=c.size+1:=by simp[f]
 have s1:b.size=c.size+2:=by simp[b,s0]
 have s2:d.size=b.size+1:=by simp[d]
 have s3:C.size=d.size+1:=by simp[C]
 have K:J d q:=(J.push d _).ai (ad _) _ _;have ag:J b q:=(J.push b _).trans K;have x:GS (d.size::f.size::e) b q (.mk b.size 0 0 0) []:=(GS.new _ b).ext gK.mono K;have N:cK q d.size dp [.s (.mk b.size 0 0 0),.i h]:=cK.ai (m:=C) (o:=0) (r:=[.s (.mk b.size 0 0 0),.i h]) (cK.push d _ _);clear_value q;have F:∀u∈f.size::e,u<b.size:=bR W I.size (y _ aN);have ae:=z.len;have aj:=gB aE;refine dW (n:=aE.length) (ae▸z.gX) (λA M=>J b M/\∃s,GS (d.size::f.size::e) b M s (aE.take A)/\cK M d.size dp [.s s,.i h]) ⟨ag,_,x,N⟩ ?_;rintro A D ai μ hk ⟨w,s,l,B⟩ af
 have g:=I.trans w;have ac:∀j∈[f.size,c.size],j<D.size:=λj Y=>w.lt (y j Y);have hy:=l.bq;have z5:=w.size;have E:=B.lt;refine dit (λU=>?_) λU=>?_
 .let⟨H,v⟩:=cL aE A;let⟨pa,pk,X,ab,x,g1,g2,R,T⟩:=z.aF v;have ak:=Pl v;refine⟨s,B.cq 0,V,V,_,g.af x,_,g.af g1,_,g.af g2,_,g.af R,_,g.af T,?_⟩;refine(yA (e:=s.D::d.size::f.size::e) (bR (bR F z5 E) (ad _) hy.2) (X.ext g) (ab.le g.le) V (ih H (aq v))).aJ (J.aA D) ac λM O x' G Z aa k t _=>⟨_,_,_,_,_,rfl,aI (t.same _ E) _,?_⟩;subst k;intro m7;refine Gr.box (g:=[.i 0,.i 0,.i 0,.s .nil,.s .nil]) (j:=0) (i:=[.s s,.i h]) (w:=H) gK.mono bn (l.ext gK.mono t) ((w.trans t).fz []) ⟨M,O,rfl,Z,aa⟩ bG (B.ext t) aN bn ⟨V,aN⟩ (λu p=>by have L:=y u p;have P:=t.size;omega) λr' m' Q L P z' q'=>af V _ ⟨P.ext,r',?_,L⟩
  rw[aV v];exact Q
 .rw[bZ V]at l;refine⟨s,B.cq 0,h,B.cq 1,?_⟩;intro G;have v:=l.ne B bn;have t:Le (bI (d.size::f.size::e) D) (bI e G):=cD aN λu p=>ah _ (ah _ p);refine⟨s,.mk aE h,rfl,eR.le t (l.nV gK.mono (λp=>?_) bn (by show aE.length<=_;omega)),rfl,g.ai V _ _⟩;rcases List.mem_cons.1 p with k|k
  .exact v k
  .have:=F _ k;omega
def ZM(b:Bk):Prop:=∀(c:E)(t:O)(f:Int),eR c t b.aE->pb 289 [.agg #[O.v t,vi b.aT],vi f] c
def J1:∀b:Bk,ZM b:=by
 refine Bk.ind ?_;intro aE Y G c t s m;simp only[Bk.j8,Bk.jE]at*;apply CP;simp -zeta only[aD,aC];intro g;have A:J c g:=J.push _ _;have D:∀b∈[c.size],b<g.size:=by simp[g]
 clear_value g;have F:=m.len;refine dW (n:=aE.length) (F▸m.gX) (λ_ M=>J g M) (J.aA _) ?_;rintro k o I μ X r N
 have h:=A.trans r;refine⟨λj=>?_,λ_=>rA h⟩;simp only[ar]at j;let⟨x,v⟩:=cL aE k;let⟨pa,w,U,l,B,g1,g2,T,u⟩:=m.aF v;have C:=l.len;have L:∃(i:Int->E->Prop)(μ0_1:Int->E->Nat),i (0:Int) o/\(∀(a:Int)(M:E),i a M->
  (0:Int)<=(k:Int)/\(k:Int)<(t.len:Int)/\∃q:O,af M t.D (t.off+Int.toNat (k:Int)*5+4)=some (O.v q)/\
  ((decide (a<(q.len:Int)))=true->(0:Int)<=(k:Int)/\(k:Int)<(t.len:Int)/\∃d:O,af M t.D (t.off+Int.toNat (k:Int)*5+4)=some (O.v d)/\
   (0:Int)<=a/\a<(d.len:Int)/\∃y:O,af M d.D (d.off+Int.toNat a*2)=some (O.v y)/\∃z:Int,af M d.D (d.off+Int.toNat a*2+1)=some (vi z)/\
   aO cp 289 [.agg #[O.v y,vi z],vi s] M λf e=>eF [c.size] M e/\∃p:Bool,f=vb p/\(p=true->∃b:Bool,vb true=.bool b/\J c e)/\(p=false->i (cG (a+(1:Int))) e/\μ0_1 (cG (a+(1:Int))) e<μ0_1 a M))/\
  ((decide (a<(q.len:Int)))=false->I (cG ((k:Int)+(1:Int))) M/\μ (cG ((k:Int)+(1:Int))) M<μ k o)):=by
  refine dW (n:=x.bF.length) (C▸l.gX) (λ_ M=>J o M) (J.aA _) ?_
  rintro H M R μ2 W d K
  have a:=h.trans d
  refine⟨V,V,w,a.af u,λj=>?_,λ_=>N V _ (r.trans d)⟩
  simp only[ar]at j
  let⟨b,p⟩:=cL x.bF H
  let⟨tb,z,q,y⟩:=l.aF p
  refine⟨V,V,w,a.af u,V,V,_,a.af q,_,a.af y,?_⟩
  exact(G x (aq v) b (aq p) M tb s (z.le a.le)).aJ (r.trans d) D λS e Q P=>⟨_,rfl,λ_=>rA (A.trans P),λ_=>K V _ (d.trans Q)⟩
 exact⟨V,V,_,h.af B,λ_=>⟨V,V,_,h.af g1,λ_=>rA h,λ_=>L⟩,λ_=>L⟩
def J8{o:List bB}(h:eM c d f o g)(i:Int):pb 258 [.agg #[O.v d,O.v f],vi i] c:=by
 apply Dc;simp -zeta only[aD,aC];intro a;have k:J c a:=J.push _ _;have s:∀e∈[c.size],e<a.size:=by simp[a]
 clear_value a;have H:=h.jg.len;have G:=h.oQ;refine dW (n:=g.length) V (λ_ M=>J a M) (J.aA _) ?_;rintro u v I μ F l w
 have b:=k.trans l;refine⟨λr=>?_,λ_=>rA b⟩;simp only[ar]at r;let⟨x,t⟩:=cL g u;let⟨K,L,e,A,B,m,C,D,E,p,q⟩:=h.jg.aF t;exact⟨V,V,_,b.af p,_,b.af q,(J1 x.body v e i (m.le b.le)).aJ l s λz y M j=>⟨_,rfl,λ_=>rA (k.trans j),λ_=>w V _ j⟩⟩
abbrev Zy(e:List Nat)(a c:E)(s:O)(l:List (List Int)):Prop:=Gr e a c yl 1 nh s l
def GN(Z:∀a∈e,a<c.size){R:List bB}(o:eM c d f R g)(hp:∀y∈g,y.params.length<=3):
 aO cp 223 [.agg #[O.v d,O.v f]] c λae G=>∃s l,ae=O.v s/\pF (bI e G) s l/\l.length=g.length/\(∀a∈l,a.length<=3)/\J c G:=by
 apply yZ
 simp -zeta only[aD,aC]
 intro b x
 have N:J c b:=J.push _ _
 have v:∀z∈[c.size],z<b.size:=by simp[b]
 have af:J b x:=J.push _ _
 have W:Zy e b x (.mk b.size 0 0 0) []:=Gr.new e (ad _) _ _ _
 clear_value x
 clear_value b
 have aj:=o.jg.len;have ai:=o.oQ
 have C:∀a∈e,a<b.size:=λa u=>N.lt (Z a u)
 refine eB (n:=g.length) V (λk s M=>J b M/\∃l,Zy e b M s l/\l.length=k/\∀a∈l,a.length<=3) ⟨af,[],W,rfl,aN⟩ ?_
 rintro k s H P μ hk ⟨r,l,t,ag,B⟩ aa
 have q:=N.trans r
 have h:=t.bq
 refine dit (λY=>?_) λY=>?_
 .let⟨y,D⟩:=cL g k
  let⟨ab,ak,z,Q,c2,c3,T,e1,e2,e3,e4⟩:=o.jg.aF D
  have ah:=hp y (aq D)
  have iS:∀(M:E)(i:O)(a:List Int),J H M->ap (bI (s.D::e) M) i a->a.length<=3->jT (M.push (.cells (bz [.s i]) yl)) yl [.s O.nil] 24 s (O.mk M.size 0 1 1) λK m=>eF [c.size] (M.push (.cells (bz [.s i]) yl)) m/\P K (cG ((k:Int)+(1:Int))) m/\μ K (cG ((k:Int)+(1:Int))) m<μ s k H:=λM i a w hf u=>
   Gr.kY (g:=[.s .nil]) nh.mono bn (t.ext nh.mono w) ((r.trans w).fz []) ⟨i,rfl,hf⟩ V λr' m U A _ _=>⟨J.oV ((r.trans w).aL _) A.ext v,aa V _ _ ⟨A.ext,_,U,bG,λj h=>by
    rcases List.mem_append.1 h with h|h
    .exact B j h
    .simp at h;subst h;exact u⟩⟩
  refine(J8 (o.le q.le) k).aJ r v λa m4 j L=>⟨_,rfl,λ_=>?_,λ_=>⟨V,V,ab,(q.trans j).af T,?_⟩⟩
  .intro p m6
   exact iS p _ [] (j.aL _) (mR _ _ _ _ _ _) aN
  .refine(sB (S:=[]) aN (a:=0) ((Q.ext (q.trans j)).le (Ap _)) V).aJ L v λac F p X I x5 u5=>⟨_,rfl,?_⟩
   intro m6
   have hg:GI (s.D::e) m4 p ac F:=X.any
   exact iS p _ F (j.trans x5) (hg.done (bR C L.size (oh j.size)) (oh I.2)) (oh I.2)
 .exact⟨s,l,rfl,t.done nh.mono C bn V,V,B,q⟩
def ZN(a:List bB)(g:List gU)(b:Bk):Prop:=∀(c:E)(d f t:O)(v:Int)(h:Prop)(e:Nat),eM c d f a g->eR c t b.aE->WB a g.length h e b->pb 259 [.agg #[O.v d,O.v f],.agg #[O.v t,vi b.aT],vi v] c
def AQ{C:List bB}:∀b:Bk,ZN C g b:=by
 refine Bk.ind ?_;intro aE ah ih c d f ai ae m ag E t Z;have aa:=Z.aU.1;simp only[Bk.j8,Bk.jE]at*;apply vC;simp -zeta only[aD,aC];intro K v;let⟨O,W⟩:=dI (a:=K) (c:=v) rfl rfl;clear_value v;have X:=t.len;refine⟨λ_=>rA O,λ_=>?_⟩;refine dW (n:=aE.length) (X▸t.gX) (λ_ M=>J v M) (J.aA _) ?_;rintro I p af μ hk A ac
 have e:=O.trans A;refine⟨λj=>?_,λ_=>rA e⟩;simp only[ar]at j;let⟨x,u⟩:=cL aE I;let⟨pa,pk,o,r,Q,g1,g2,R,S⟩:=t.aF u;have F:=aa I x u;have T:=o.len;have U:=r.len;refine⟨V,V,_,e.af Q,_,e.af g1,_,e.af g2,_,e.af R,_,e.af S,?_⟩;intro m3 h;have B:J p h:=(J.push p _).ai (ad _) _ _;have s4:h.size=p.size+1:=by simp[h,m3,ax]
 clear_value h;have s:∀b∈[p.size,K.size,c.size],b<h.size:=λb k=>by
  rcases List.mem_cons.1 k with D|D
  .omega
  .exact(A.trans B).lt (W b D)
 refine dW (n:=x.args.length) (T▸o.gX) (λ_ M=>J h M) (J.aA _) ?_;rintro H L I1 μ1 hj l y;have z:=(e.trans B).trans l;refine⟨λj=>?_,λ_=>?_⟩
 .simp only[ar]at j;let⟨Y,P⟩:=cL x.args H;refine⟨V,V,Y,(o.ext z).aF P,λ_=>?_,λ_=>y V _ l⟩;refine(yz x.op L).aJ l s λm w i G=>⟨_,rfl,λ_=>?_,λ_=>y V _ G⟩;have a:=z.trans i;exact(oA (⟨E.le a.le,o.ext a,F.fj.call⟩:At w d f pa pk C g x) H).aJ G s λm m7 q N=>⟨_,rfl,λ_=>rA (a.trans q),λ_=>y V _ N⟩
 .refine dW (n:=x.bF.length) (U▸r.gX) (λ_ M=>J L M) (J.aA _) ?_;rintro G w I2 μ2 hi i ab;have a:=z.trans i;refine⟨λj=>?_,λ_=>ac V _ (((A.trans B).trans l).trans i)⟩;simp only[ar]at j;let⟨b,k⟩:=cL x.bF G;let⟨tb,Y,M,P⟩:=r.aF k;refine⟨V,V,_,a.af M,_,a.af P,?_⟩;exact(ih x (aq u) b (aq k) w d f tb ae m _ (E.le a.le) (Y.le a.le) (F.bF G b k)).aJ (l.trans i) s λm m7 q N=>⟨_,rfl,λ_=>rA (a.trans q),λ_=>ab V _ (i.trans q)⟩
def Ka(P:∀h∈e,h<c.size){A:List bB}(r:eM c d f A g){h:Prop}(Q:yH A g h W){B:Nat}{q:gU}(s:g[B]? =some q):lE 224 [.agg #[O.v d,O.v f],vi B] c e λl=>l.length<=q.cY.length:=by
 apply Dd;simp -zeta only[aD,aC];intro a u;have y:J c a:=J.push _ _;have E:∀k∈[c.size],k<a.size:=by simp[a]
 have T:J a u:=J.push _ _;have N:GI e a u (.mk a.size 0 0 0) []:=GI.nil e a;clear_value u;clear_value a;have af:=r.jg.len;have aa:=aw s;let⟨ae,ac,R,hw⟩:=Q.dD q (aq s);let⟨ah,w,k,X,m,I,Z,o,e2,K,L⟩:=r.jg.aF s;have ag:=m.len;refine eB (n:=q.cY.length) V (λt v M=>J a M/\∃l,GI e a M v l/\l.length<=t) ⟨T,[],N,ad _⟩ ?_;rintro t v S U μ ab ⟨H,l,p,D⟩ G
 have b:=y.trans H;refine⟨V,V,w,b.af o,λi=>?_,λi=>⟨v,l,rfl,p.cA (λ_ i=>i) y.size,V,b⟩⟩;simp only[ar]at i;let⟨z,F⟩:=cL q.cY t;refine⟨V,V,_,b.af K,_,b.af L,V,V,w,b.af o,V,V,z,(m.ext b).aF F,?_⟩;refine(AQ q.body S d f k z h _ (r.le b.le) (I.le b.le) R).aJ H E λY m4 j x=>⟨_,rfl,λ_=>⟨V,V,w,(b.trans j).af o,V,V,z,(m.ext (b.trans j)).aF F,?_⟩,λ_=>G V _ _ ⟨x,l,p.ext j,V⟩⟩;intro m5;exact GI.kY (p.ext j) (x.fz []) (λh D=>y.lt (P h D)) V λf m6 M C _ _=>⟨J.oV (x.aL _) C.ext E,G V _ _ ⟨C.ext,_,M,bG⟩⟩
end
section
variable{b:List Nat}{e:E}{d g:O}{f:List gU}{c:Prop}{W:Nat}
def yE(Q:∀c∈b,c<e.size){lt:O}{v:List bB}{H:List (List Int)}(y:eM e d g v f)(hW:W<=1000000)(hk:yH v f c W)(ag:pF e lt H)(aQ:H.length=f.length)(av:∀c∈H,c.length<=3):
 vr 222 [.agg #[O.v d,O.v g],O.v lt] e b v λz=>yH v z c W/\z.length=f.length:=by
 apply DA
 simp -zeta only[aD,aC]
 intro j a2
 let⟨K,D⟩:=dI (a:=j) (c:=a2) rfl rfl
 have s1:j.size=e.size+1:=by simp[j]
 clear_value a2
 have az:=y.jg.len;have aS:=y.oQ
 refine(fX (b:=j.size::b) (bR Q K.size (D _ aN)) (y.le K.le).br y.types).mono λ_ Y⟨dd,h,ar,L⟩=>?_
 subst h
 refine⟨L.dz D,_,rfl,?_⟩
 intro s aJ al
 have u2:=K.trans L
 let⟨x5,B0,g0,s3,s5⟩:=lC (b:=s.size::j.size::b) jc.mono (d:=Y) (a:=s) (c:=aJ) (h:=al) rfl rfl rfl
 clear_value al
 have U:∀c∈[j.size,e.size],c<Y.size:=λc k=>L.lt (D c k)
 have ae:∀c∈j.size::b,c<Y.size:=λc k=>L.lt (bR Q K.size (D _ aN) c k)
 refine lz (R:=λl o M=>∃d g z,Value.agg #[O.v l,O.v o]=.agg #[O.v d,O.v g]/\eM (bI b M) d g v z/\(yH v z c W/\z.length=f.length)/\J e M) (r:=f.length) (f:=e) (b:=b) jc.mono bn bn Q ⟨V,U _ aN⟩ u2 s3 ar az V x5 B0 g0 (λ_ q=>q.params.length<=3/\q.cY.length<=3/\WB v f.length c q.params.length q.body/\q.body.w<=W) (λo Z aj m' h1 C l p r=>⟨o,Z,aj,rfl,⟨h1,C,y.types,V⟩,⟨Ik hk.jm l p,l⟩,r⟩) λai M t aj aL μ au aP xM ac N aK=>?_
 let⟨q,hq⟩:=cL f ai au
 let⟨ay,aO,aE,hw⟩:=hk.dD q (aq hq)
 have v6:=u2.trans xM
 let⟨aU,aV,p,c1,c2,c3,e0,e1,e2,e3,e4⟩:=y.jg.aF hq
 have G:∀{am:Value}{p x:Nat},af e p x=some am->af M p x=some am:=λB=>v6.af B
 refine⟨V,V,_,G e0,_,G e1,_,G e2,_,G e3,_,G e4,?_⟩
 intro m7 l
 have hy:=ac.bq
 have aM:=N.lt
 have zM:=xM.size
 have x8:J M l:=(J.push M _).ai (ad _) _ _
 have s8:l.size=M.size+1:=by simp[l,m7,ax]
 clear_value l
 have F:∀c∈[M.size,j.size,e.size],c<l.size:=λc k=>by
  rcases List.mem_cons.1 k with h|h
  .omega
  .have:=U c h;omega
 have A:=v6.trans x8
 have r:∀{M1 M2:E},J l M1->J l M2->∀p,p<l.size->∀x,af M2 p x=af M1 p x:=λB h' p hb x=>aI (by rw[h'.same p hb,B.same p hb]) x
 have w:M.size<l.size:=V
 have X:s.size<l.size:=V
 let⟨ab,ah⟩:=cL H ai
 let⟨yt,aG,P⟩:=ag.aF ah
 have aF:=av ab (aq ah)
 have aR:=ag.len
 have T:∀{M':E},l.size<=M'.size->∀c∈t.D::s.size::j.size::b,c<M'.size:=λB c k=>by
  simp only[aW]at k;rcases k with h|h|h|h
  .omega
  .omega
  .have:=ae c (by simp[h]);omega
  .have:=ae c (by simp[h]);omega
 refine⟨t,(N.ext x8).cq 1,V,V,yt,A.af P,?_⟩
 refine(bQ (t.D::s.size::j.size::b) (c1.ext A) V).aJ (J.aA l) F λp' _ m9 gp h o _=>⟨_,rfl,r (J.aA _) o _ w _,r (J.aA _) o _ w _,r (J.aA _) o _ w _,((A.trans o).af P).trans (A.af P).symm,r (J.aA _) o _ X _,?_⟩
 subst h
 refine(bQ (t.D::s.size::j.size::b) (aG.ext (A.trans o)) V).aJ o F λt' _ aH gt h an u=>⟨_,rfl,r o u _ w _,r o u _ w _,r o u _ w _,r o u _ X _,?_⟩
 subst h
 have z9:=o.size;have vQ:=an.size
 refine(wH q.body (t.D::s.size::j.size::b) aH (T V) p (c3.le (A.trans u).le) V).aJ u F λss b' ak aA h ao I=>⟨_,_,rfl,r u I _ w _,r u I _ X _,?_⟩
 subst h
 intro aT
 have aa:=x8.trans I
 have aX:=I.size
 have aw:ap (bI (t.D::s.size::j.size::b) ak) p' q.params:=(gp.done (T V) V).le ((an.trans ao).dj _)
 have aB:ap (bI (t.D::s.size::j.size::b) ak) t' ab:=(gt.done (T V) V).le (ao.dj _)
 exact Gr.box (g:=[.s .nil,.s .nil,.i 0,.s .nil,.i 0]) (j:=1) (y:=88) (i:=[.s dd,.s t]) (w:=⟨q.params,ab,q.aT,q.body⟩) jc.mono bn (ac.ext jc.mono aa) ((xM.trans aa).fz []) ⟨p',t',ss,rfl,aw,aB,aA⟩ V (N.ext aa) aN bn ⟨V,aN⟩ (λc k=>by have h1:=F c k;have C:=U c;simp only[aW]at k C;rcases k with h|h|h|h<;>first|omega|(have:=C (by simp[h]);omega)|simp at h) λZ m' g' C f' z' q'=>aK Z m' _ g' C f'.ext ⟨ay,aF,aE,hw⟩
def Kf(hS:∀c∈b,c<e.size){A:List bB}(Z:eM e d g A f)(hW:W<=1000000)(hk:yH A f c W):vr 208 [.agg #[O.v d,O.v g]] e b A λt=>yH A t c W:=by
 apply Dg;simp -zeta only[aD,aC];intro i a2;let⟨x2,G⟩:=dI (a:=i) (c:=a2) rfl rfl;have s1:i.size=e.size+1:=by simp[i]
 have s2:a2.size=e.size+2:=by simp[a2,s1]
 clear_value a2;have aG:=Z.jg.len;have aE:=Z.oQ;have aj:∀c∈i.size::b,c<a2.size:=bR hS x2.size (G _ aN);have p:∀{M q:E},J a2 M->J a2 q->∀ac,af q e.size ac=af M e.size ac:=λu h' ac=>aI (by rw[h'.same _ (G _ aN),u.same _ (G _ aN)]) ac;have tail:∀(Q:E)(a:Nat)(z y:O)(C:List gU),J a2 Q->a2.size<=a->cK Q a nB [.s z,.s y]->eM (bI (a::i.size::b) Q) z y A C->yH A C c W->
  ∃(I0:Int->E->Prop)(μ0:Int->E->Nat),I0 (0:Int) Q/\(∀(l:Int)(v:E),I0 l v->
   ((decide (l<=(12:Int)))=true->
    let U:E:=v.push (.cells (bz []) yl)
    ∃(w:O->Int->E->Prop)(μ1:O->Int->E->Nat),w (O.mk v.size 0 0 0) (0:Int) U/\(∀(s:O)(x:Int)(h:E),w s x h->
     ∃D:O,af h a 1=some (O.v D)/\
     ((decide (x<(D.len:Int)))=true->∃j:O,af h a 0=some (O.v j)/\∃k:O,af h a 1=some (O.v k)/\
      aO cp 224 [.agg #[O.v j,O.v k],vi x] h λY P=>eF [i.size,e.size] h P/\∃aa:O,Y=O.v aa/\
       let ae:E:=P.push (.cells (bz [.s aa]) yl)
       jT ae yl [.s O.nil] 24 s (O.mk P.size 0 1 1) λF B=>eF [i.size,e.size] ae B/\w F (cG (x+(1:Int))) B/\μ1 F (cG (x+(1:Int))) B<μ1 s x h)/\
     ((decide (x<(D.len:Int)))=false->∃j:O,af h a 0=some (O.v j)/\∃k:O,af h a 1=some (O.v k)/\
      aO cp 222 [.agg #[O.v j,O.v k],O.v s] h λH I=>eF [i.size,e.size] h I/\∃B:O,∃F:O,H=.agg #[O.v B,O.v F]/\fO I a 0 2/\
       let L:E:=ai I a 0 [.s B,.s F]
       eF [i.size,e.size] I L/\I0 (cG (l+(1:Int))) L/\μ0 (cG (l+(1:Int))) L<μ0 l v)))/\
   ((decide (l<=(12:Int)))=false->∃j:O,af v a 0=some (O.v j)/\∃k:O,af v a 1=some (O.v k)/\
    let ag:E:=ai v i.size 0 [.s j,.s k]
    ∃d g t,Value.agg #[O.v j,O.v k]=.agg #[O.v d,O.v g]/\eM (bI b ag) d g A t/\yH A t c W/\J e ag)):=by
  intro Q a z y C T au hB hN R
  refine dW (n:=13) V (λ_ M=>J a2 M/\∃z y C,cK M a nB [.s z,.s y]/\eM (bI (a::i.size::b) M) z y A C/\yH A C c W) ⟨T,z,y,C,hB,hN,R⟩ ?_
  rintro aJ v az μ aB ⟨x6,z,y,C,H,N,K⟩ ay
  have aA:=H.lt
  have aH:=N.jg.len
  have aF:=N.oQ
  refine⟨λu=>?_,λu=>?_⟩
  .simp only[ar]at u
   intro U
   have ao:J v U:=J.push _ _
   have g0:Zy [] v U (.mk v.size 0 0 0) []:=Gr.new _ (ad _) _ _ _
   refine eB (n:=C.length) V (λx s M=>J v M/\∃l,Zy [] v M s l/\l.length=x/\∀c∈l,c.length<=3) ⟨ao,[],g0,rfl,aN⟩ ?_
   rintro x s h I2 μ2 hf ⟨D,l,ab,ap,B⟩ am
   have u8:=x6.trans D
   have N8:=N.le (D.dj _)
   refine⟨y,(H.ext D).cq 1,dit (λF=>?_) λF=>?_⟩
   .let⟨X,hq⟩:=cL C x
    have an:=(K.dD X (aq hq)).2.1
    have j:=ab.bq
    refine⟨z,(H.ext D).cq 0,y,(H.ext D).cq 1,?_⟩
    refine(Ka (e:=[s.D]) bG (N8.le (bD _ _)) K hq).aJ u8 G λaa av P ak aw x9 u9=>⟨_,rfl,?_⟩
    intro ae
    refine Gr.kY (g:=[.s .nil]) nh.mono bn (ab.ext nh.mono x9) ((D.trans x9).fz []) ⟨aa,rfl,ak.done bG V⟩ V λw q g' k _ _=>⟨J.oV (u9.aL _) (x6.trans k.ext) G,am V _ _ ⟨k.ext,_,g',bG,λal j=>?_⟩⟩
    rcases List.mem_append.1 j with j|j
    .exact B al j
    .simp at j;subst j;omega
   .refine⟨z,(H.ext D).cq 0,y,(H.ext D).cq 1,?_⟩
    have ak:pF h s l:=eV.le (ab.done nh.mono aN bn V) (bD _ _) (nh.le (bD _ _))
    have z8:=D.size;have z6:=x6.size
    refine(yE (b:=a::i.size::b) (λc k=>?_) (N8.le (bD _ _)) hW K ak V B).mono λ_ I⟨d2,Y,an,j,N2,⟨K2,_⟩,aa⟩=>?_
    .rcases List.mem_cons.1 k with j|j
     .omega
     .have:=aj c j;omega
    subst j
    have ae:=(H.ext D).ext aa
    refine⟨u8.VA G aa,_,_,rfl,ae.fO aN,?_⟩
    intro L
    have al:∀P,P≠a->L[P]? =I[P]? :=λP hb=>bg _ _ _ _ hb
    refine⟨λc k=>al c (oh (G c k)),ay V _ ⟨(u8.trans aa).ai au _ _,d2,Y,an,cK.ai (m:=I) (o:=0) (r:=[.s d2,.s Y]) ae,N2.le (cD aN λ_ u=>u),K2⟩⟩
  .refine⟨z,H.cq 0,y,H.cq 1,?_⟩
   intro ag
   exact⟨z,y,C,rfl,(N.le (je v λc k=>ah _ k)).le (cD aN λc k=>ah _ k),K,(x2.trans x6).ai V _ _⟩
 have av:∀X∈f,X.params.length<=3:=λX hq=>(hk.dD X hq).1;have al:∀(M:E)(L:List Nat)(K:Value->E->Prop),J a2 M->(∀c∈L,c<M.size)->(∀s l q,pF q s l->l.length=f.length->(∀c∈l,c.length<=3)->J M q->K (O.v s) q)->aO cp 223 [.agg #[O.v d,O.v g]] M λak U=>eF L M U/\K ak U:=λM L K T hL R=>
  (GN (e:=[]) aN (Z.le (x2.trans T).le) av).mono λ_ q⟨s,l,j,I,F,B,Y⟩=>⟨Y.dz hL,j▸R s l q (eV.le I (bD _ _) (nh.le (bD _ _))) F B Y⟩
 have cY:∀(M:E)(S' L:List Nat)(K:Value->E->Prop)(s:O)(l:List (List Int)),J a2 M->(∀c∈L,c<M.size)->(∀c∈S',c<M.size)->pF M s l->l.length=f.length->(∀c∈l,c.length<=3)->(∀x w t q,eM (bI S' q) x w A t->yH A t c W->J M q->K (.agg #[O.v x,O.v w]) q)->aO cp 222 [.agg #[O.v d,O.v g],O.v s] M λak U=>eF L M U/\K ak U:=λM S' L K s l T hL ap I F B R=>
  (yE ap (Z.le (x2.trans T).le) hW hk I F B).mono λ_ q⟨x,w,t,j,N,⟨K1,_⟩,Y⟩=>⟨Y.dz hL,j▸R x w t q N K1 Y⟩
 have am:∀{M:E}{a:Nat},J a2 M->a<M.size->∀c∈a::i.size::b,c<M.size:=λu hb c k=>by
  have:=u.size;rcases List.mem_cons.1 k with j|j
  .omega
  .have:=aj c j;omega
 have ag:∀{M:E}{a:Nat},J a2 M->a<M.size->∀c∈[a,i.size,e.size],c<M.size:=λu hb c k=>by
  rcases List.mem_cons.1 k with j|j
  .omega
  .exact u.lt (G c j)
 refine⟨al a2 _ _ (J.aA _) G λs l ab I F B h=>⟨_,rfl,p (J.aA _) h _,p (J.aA _) h _,⟨?_,?_⟩⟩,?_⟩
 .refine cY ab (i.size::b) _ _ s l h (λc k=>h.lt (G c k)) (λc k=>h.lt (aj c k)) I F B λx w t m3 N K P=>⟨_,_,rfl,?_⟩;have D:=h.trans P;intro m4;have u4:J a2 m4:=D.aL _;refine⟨p D u4 _,p D u4 _,p D u4 _,p D u4 _,?_⟩;intro m5;have aa:J m3 m5:=(J.push m3 _).ai (ad _) _ _;exact tail m5 m3.size x w t (D.trans aa) D.size (cK.ai (m:=m4) (o:=0) (r:=[.s x,.s w]) (cK.push m3 _ _)) (N.le (aa.bI λc k=>by
   rcases List.mem_cons.1 k with j|j
   .exact Or.inr V
   .exact Or.inl j)) K
 .intro aa;have D:J a2 aa:=h.aL _;refine⟨p h D _,p h D _,p h D _,p h D _,?_⟩;refine cY aa (ab.size::i.size::b) _ _ s l D (ag D (by simp[aa])) (am D (by simp[aa])) (pF.ext (J.push _ _) I) F B λx w t ae N K P=>⟨_,_,rfl,?_⟩;intro an;exact tail an ab.size x w t ((D.trans P).ai h.size _ _) h.size (cK.ai (m:=ae) (o:=0) (r:=[.s x,.s w]) ((cK.push ab _ _).ext P)) (N.le (cD aN λ_ u=>u)) K
 .intro aa;have D:J a2 aa:=J.push _ _;refine⟨p (J.aA _) D _,p (J.aA _) D _,p (J.aA _) D _,p (J.aA _) D _,?_⟩;refine al aa _ _ D (ag D (by simp[aa])) λs l ao I F B h=>⟨_,rfl,p D (D.trans h) _,p D (D.trans h) _,?_⟩;have ae:=D.trans h;have an:a2.size<ao.size:=h.lt (by simp[aa]);refine cY ao (a2.size::i.size::b) _ _ s l ae (ag ae an) (am ae an) I F B λx w t aw N K P=>⟨_,_,rfl,?_⟩;intro ax;exact tail ax a2.size x w t ((ae.trans P).ai (ad _) _ _) (ad _) (cK.ai (m:=aw) (o:=0) (r:=[.s x,.s w]) ((cK.push a2 _ _).ext (h.trans P))) (N.le (cD aN λ_ u=>u)) K
end
section
variable{w:Int}{r:List Int}
structure bK where
 aQ:Int
 kE:Int
 aH:List Int
structure aY where
 fw:Int
 pc:Int
 dst:Int
 ak:List Int
 aS:List Int
 ba:List Int
structure St where
 cw:Int
 value:Int
 bA:Int
 dX:Int
 aU:List Int
 heap:List bK
 an:List aY
def aF(l:List Int)(i:Int):Int:=l.getD i.toNat 0
def gA(l:List Int)(i:Int)(v:Int):List Int:=l.set i.toNat v
def ix(w:Int):Nat:=(w -1000).toNat
def gS(w:Int):Prop:=-999<=w/\w<=999
def eQ(h:List bK)(a:Nat):Prop:=∃c,h[a]? =some c/\0<c.aQ
def fQ(h:List bK)(w:Int):Prop:=1000<=w/\eQ h (ix w)
def qP(h:List bK)(w:Int):Prop:=gS w\/fQ h w
def jd:bK:=⟨0,0,[]⟩
def aM(h:List bK)(w:Int):bK:=(h[ix w]?).getD jd
def aad:dC:=⟨[],[],0,0,[]⟩
def dR(a:cV)(n:Int):dC:=(a.cE[n.toNat]?).getD aad
def cv(a:cV):Int:=(eU a.br).length
def eD:List Int->Nat->Int
 |[],_=>0
 |w::b,a=>(if w=1000+(a:Int)then 1 else 0)+eD b a
def eA:List bK->Nat->Int
 |[],_=>0
 |c::h,a=>eD c.aH a+eA h a
def di:List Int->List Int->Nat->Int
 |r::c,o::b,a=>(if r=1000+(a:Int)then o else 0)+di c b a
 |_,_,_=>0
def fD:List aY->Nat->Int
 |[],_=>0
 |f::b,a=>di f.ak f.aS a+fD b a
def holds:List aY->Nat->Int
 |[],_=>0
 |f::b,a=>eD f.ba a+holds b a
def nM(a:cV)(x:Instr)(k:Nat):Bool:=(dR a x.bS).cY.any (λy=>y==(k:Int))
def iP(a:cV)(x:Instr):Nat->List Int->List Int
 |_,[]=>[]
 |k,r::b=>if nM a x k then iP a x (k+1) b else r::iP a x (k+1) b
def fJ(a:cV)(x:Instr):Nat->List Int->List Int
 |_,[]=>[]
 |k,r::b=>if nM a x k then r::fJ a x (k+1) b else fJ a x (k+1) b
def bU(a:cV)(x:Instr):List Int:=
 if x.op=15\/x.op=6\/x.op=10\/x.op=11\/x.op=18\/x.op=23 then x.args
 else if x.op=16\/x.op=17 then x.args.take 1
 else if x.op=9\/x.op=24 then iP a x 0 x.args
 else[]
def bC(ak aS:List Int):List Int->List Int
 |[]=>aS
 |r::a=>bC ak (if 1000<=aF ak r then gA aS r (aF aS r -1)else aS) a
def cQ(f:aY)(a:List Int):List Int:=a.map (aF f.ak)
def lx(l:List Int):List Int:=l.filter (λw=>decide (1000<=w))
def lJ(h:List bK)(a:List Int):Prop:=∀w∈a,1000<=w->(aM h w).aQ+eD a (ix w)<=999999
def Cd(h:List bK)(f:aY)(x:Instr):Prop:=
 let w:=aF f.ak (aF x.args 0)
 fQ h w/\lx (aM h w).aH=cQ f (x.args.drop 1)/\((aM h w).aQ=1\/lJ h (aM h w).aH)/\(x.op=17->aF f.ba (aF x.args 0)=0)
def vT(a:cV)(h:List bK)(w:Int):Prop:=
 fQ h w/\0<=(aM h w).kE -cv a/\(aM h w).kE -cv a<a.cE.length/\
  (dR a ((aM h w).kE -cv a)).params.length=(aM h w).aH.length+1/\(dR a ((aM h w).kE -cv a)).cY.length=0/\
  ((aM h w).aQ=1\/lJ h (aM h w).aH)
def FI(h:List bK)(f:aY)(x:Instr):Prop:=
 x.cg≠0->aF f.ba (x.cg -1)≠0->(aM h (aF f.ba (x.cg -1))).aH.length=x.args.length
def KK(a:cV)(h:List bK)(f:aY)(x:Instr):Prop:=∀r∈fJ a x 0 x.args,1000<=aF f.ak r->fQ h (aF f.ak r)
def SC(l:List Int):Prop:=∀n∈l,n=0
structure lA(im:cV)(s:St)(f:aY)(x:Instr)(aS:List Int):Prop where
 nn:∀o∈aS,0<=o
 dst:mg x.op->aF aS x.dst<=0
 nX:(x.op=1\/x.op=2\/x.op=3\/x.op=4\/x.op=5\/x.op=20)->∀r∈x.args,aF f.ak r<1000
 jv:x.op=6->FI s.heap f x
 cY:(x.op=9\/x.op=24)->KK im s.heap f x
 zero:(x.op=24\/x.op=23)->SC aS/\SC f.ba
 ret:x.op=23->1<s.an.length\/aF f.ak (aF x.args 0)<1000
 apply:x.op=11->vT im s.heap (aF f.ak (aF x.args 0))
 Xl:x.op=14->fQ s.heap (aF f.ak (aF x.args 0))/\(aM s.heap (aF f.ak (aF x.args 0))).aQ<999999
 drop:x.op=15->1000<=aF f.ak (aF x.args 0)
 LN:(x.op=16\/x.op=17)->Cd s.heap f x
 load:x.op=19->fQ s.heap (aF f.ak (aF x.args 0))/\x.bS<(aM s.heap (aF f.ak (aF x.args 0))).aH.length
 Fy:x.op=21->fQ s.heap (aF f.ak (aF x.args 0))/\(aM s.heap (aF f.ak (aF x.args 0))).kE∈cB im.br x.bS
def FT(n:Int):Int:=if n< -999 then -999 else if 999<n then 999 else n
def O9(c a b:Int):Int:=
 if c=1 then FT (a+b)else if c=2 then FT (a -b)else if c=3 then FT (a*b)else if c=4/\a<b then 1 else 0
def dJ:List bK->Nat
 |[]=>0
 |c::h=>if c.aQ=0 then 0 else dJ h+1
def jv(h:List bK)(a:Nat)(c:bK):List bK:=if a=h.length then h++[c]else h.set a c
def mP(h:List bK)(w:Int):List bK:=h.set (ix w) {aM h w with aQ:=(aM h w).aQ+1}
def fu(h:List bK)(w:Int):List bK:=h.set (ix w) {aM h w with aQ:=(aM h w).aQ -1}
def iW(h:List bK):List Int->List bK
 |[]=>h
 |w::a=>iW (mP h w) a
def jy(h:List bK):Nat->Nat
 |0=>0
 |n+1=>match h[n]? with
  |some c=>if c.aQ=0 then jy h n else n+1
  |none=>jy h n
def mZ(h:List bK):List bK:=h.take (jy h h.length)
def Cx:List bK->Nat
 |[]=>0
 |c::h=>(if 0<c.aQ then c.aQ.toNat+c.aH.length else 0)+Cx h
def kK:∀{e:List bK}{f:Nat}{b d:bK},e[f]? =some b->Cx (e.set f d)+(if 0<b.aQ then b.aQ.toNat+b.aH.length else 0)=Cx e+(if 0<d.aQ then d.aQ.toNat+d.aH.length else 0)
 |[],f,b,d,e=>by simp at e
 |i::e,0,b,d,g=>by simp at g;subst g;simp only[iJ,Cx];omega
 |i::e,f+1,b,d,g=>by
  have:=kK (e:=e) (f:=f) (b:=b) (d:=d) (by simpa using g);simp only[jA,Cx];omega
def bP{h:List bK}(b:fQ h w):h[ix w]? =some (aM h w)/\0<(aM h w).aQ:=by
 obtain⟨_,d,a,c⟩:=b;simp[aM,a,c]
open Classical in
noncomputable def iz (h:List bK) (c:List Int):List bK:=
 match c with
 |[]=>h
 |w::r=>
  if b:fQ h w then
   if a:(aM h w).aQ=1 then iz (h.set (ix w) jd) ((aM h w).aH.reverse++r)
   else iz (fu h w) r
  else iz h r
termination_by Cx h+c.length
decreasing_by
 .let⟨e,a⟩:=bP b
  have:=kK (d:=jd) e
  simp only[jd,ao a]at this
  simp[jd]
  simp at this
  omega
 .let⟨e,a⟩:=bP b
  have b:=kK (d:={aM h w with aQ:=(aM h w).aQ -1}) e
  simp only[ao a]at b
  rw[ao V]at b
  simp[fu]
  omega
 .simp
def tn(h:List bK):iz h []=h:=by rw[iz]
def tp{h:List bK}(b:fQ h w)(a:(aM h w).aQ=1):iz h (w::r)=iz (h.set (ix w) jd) ((aM h w).aH.reverse++r):=by
 rw[iz,Tn b,Tn a]
def qI{h:List bK}(b:fQ h w)(a:(aM h w).aQ≠1):iz h (w::r)=iz (fu h w) r:=by
 rw[iz,Tn b,dif_neg a]
def qJ{h:List bK}(a:¬fQ h w):iz h (w::r)=iz h r:=by
 rw[iz,dif_neg a]
def aY.put(f:aY)(r w o:Int):aY:={f with ak:=gA f.ak r w,aS:=gA f.aS r o}
def gP(w:Int):Int:=if 1000<=w then 1 else 0
def dw(aS:List Int):List Int->List Int
 |[]=>aS
 |r::a=>dw (gA aS r (aF aS r+1)) a
def dt(n:Nat):List Int:=List.replicate n 0
def dP(cY:List Int):Nat->List Int->List Int
 |_,[]=>[]
 |k,w::a=>(if cY.any (λy=>y==(k:Int))then 0 else gP w)::dP cY (k+1) a
def bY(a:cV)(g c:Int)(b:List Int):aY:=
 ⟨g,0,c,b++dt ((dR a g).ak.toNat -b.length),dP (dR a g).cY 0 b++dt ((dR a g).ak.toNat -b.length),dt (dR a g).ak.toNat⟩
open Classical in
noncomputable def apart (h:List bK) (w:Int):List bK:=
 if(aM h w).aQ=1 then mZ (h.set (ix w) jd)else iW (fu h w) (lx (aM h w).aH)
def tD(l:List Int)(n:Int):Nat:=l.findIdx (λy=>y==n)
open Classical in
noncomputable def fH (b:cV) (s:St) (a:List aY) (f:aY) (x:Instr) (aS:List Int):St:=
 let g:aY:={f with aS:=aS,pc:=f.pc+1}
 let c:=aF x.args 0
 let w:=aF f.ak c
 if x.op=0 then{s with an:=a++[g.put x.dst x.bS 0]}
 else if x.op=1\/x.op=2\/x.op=3\/x.op=4 then{s with an:=a++[g.put x.dst (O9 x.op w (aF f.ak (aF x.args 1))) 0]}
 else if x.op=5 then{s with aU:=s.aU++[w],an:=a++[g.put x.dst w 0]}
 else if x.op=6 then
  if x.cg≠0/\aF f.ba (x.cg -1)≠0 then
   {s with heap:=s.heap.set (ix (aF f.ba (x.cg -1))) ⟨1,x.bS,cQ f x.args⟩,an:=a++[{g with ba:=gA f.ba (x.cg -1) 0}.put x.dst (aF f.ba (x.cg -1)) 1]}
  else{s with heap:=jv s.heap (dJ s.heap) ⟨1,x.bS,cQ f x.args⟩,an:=a++[g.put x.dst (1000+dJ s.heap) 1]}
 else if x.op=10 then{s with heap:=jv s.heap (dJ s.heap) ⟨1,cv b+x.bS,cQ f x.args⟩,an:=a++[g.put x.dst (1000+dJ s.heap) 1]}
 else if x.op=14 then{s with heap:=mP s.heap w,an:=a++[{g with aS:=gA aS c (aF aS c+1)}]}
 else if x.op=15 then{s with heap:=mZ (iz s.heap [w]),an:=a++[g]}
 else if x.op=16\/x.op=17 then
  let d:={g with aS:=dw aS (x.args.drop 1)}
  if(aM s.heap w).aQ=1/\x.op=17 then{s with heap:=s.heap.set (ix w) ⟨-1,0,dt (aM s.heap w).aH.length⟩,an:=a++[{d with ba:=gA f.ba c w}]}
  else{s with heap:=apart s.heap w,an:=a++[d]}
 else if x.op=18 then{s with an:=a++[g.put x.dst w (gP w)]}
 else if x.op=19 then{s with an:=a++[g.put x.dst (aF (aM s.heap w).aH x.bS) 0]}
 else if x.op=20 then{s with an:=a++[{g with pc:=if w=0 then x.bS else f.pc+1}]}
 else if x.op=21 then{s with an:=a++[{g with pc:=aF x.eN (tD (cB b.br x.bS) (aM s.heap w).kE)}]}
 else if x.op=22 then{s with an:=a++[{g with pc:=x.bS}]}
 else if x.op=9 then{s with bA:=s.bA+1,an:=a++[g,bY b x.bS x.dst (cQ f x.args)]}
 else if x.op=24 then{s with bA:=s.bA+1,an:=a++[bY b x.bS f.dst (cQ f x.args)]}
 else if x.op=11 then
  {s with bA:=s.bA+1,heap:=apart s.heap w,an:=a++[g,bY b ((aM s.heap w).kE -cv b) x.dst ((aM s.heap w).aH++[aF f.ak (aF x.args 1)])]}
 else -- 23
  match a.getLast? with
  |none=>{s with cw:=0,value:=w,an:=[]}
  |some p=>{s with an:=a.dropLast++[p.put f.dst w (gP w)]}
def ns(a:Int):Prop:=a=9\/a=11\/a=24
instance(a:Int):Decidable (ns a):=by unfold ns;infer_instance
def cR(a:cV)(f:aY):Instr:=((dR a f.fw).dk[f.pc.toNat]?).getD ⟨0,0,0,0,[],[]⟩
open Classical in
noncomputable def j7 (a:cV) (s:St):St:=
 if s.cw≠3 then s else
 match s.an.getLast? with
 |none=>s
 |some f=>
  if ns (cR a f).op/\s.bA=s.dX then{s with cw:=1}
  else if lA a s f (cR a f) (bC f.ak f.aS (bU a (cR a f)))then
   fH a s s.an.dropLast f (cR a f) (bC f.ak f.aS (bU a (cR a f)))
  else{s with cw:=2}
end
section
variable{f b:Nat}{h g:List bK}{e e':Nat->Int}{w:Int}{c d:bK}
def mq:∀(l r:List Int)(f:Nat),eD (l++r) f=eD l f+eD r f
 |[],r,f=>by simp[eD]
 |w::l,r,f=>by simp only[df,eD,mq l r f];omega
def Aq:∀(l:List Int)(f:Nat),eD l.reverse f=eD l f
 |[],f=>rfl
 |w::l,f=>by simp only[QJ,mq,Aq l f,eD];omega
def iO:∀(l:List Int)(f:Nat),0<=eD l f
 |[],f=>by simp[eD]
 |w::l,f=>by have:=iO l f;simp only[eD];split<;>omega
def od:∀{l:List Int}{f:Nat},(1000+(f:Int))∉l->eD l f=0
 |[],f,_=>rfl
 |w::l,f,h=>by
  simp only[aW,vP]at h;simp only[eD,od h.2];rw[ae (λe=>h.1 e.symm)];rfl
def uU:∀{l:List Int}{f:Nat},(1000+(f:Int))∈l->1<=eD l f
 |[],f,h=>by simp at h
 |w::l,f,h=>by
  simp only[eD];rcases List.mem_cons.1 h with rfl|h
  .rw[ao rfl];have:=iO l f;omega
  .have:=uU h;split<;>omega
def O2{l:List Int}(h:0<eD l f):(1000+(f:Int))∈l:=
 dE λa=>by rw[od a]at h;omega
def SX(n:Nat)(f:Nat):eD (dt n) f=0:=od λh=>by have:=VL h;omega
def wA:∀(l:List Int)(f:Nat),eD (lx l) f=eD l f
 |[],f=>rfl
 |w::l,f=>by
  have:=wA l f;simp only[lx]at this⊢;rw[List.filter_cons];split
  .simp only[eD,this]
  .rename_i h;simp only[eD,this];rw[ae (λe=>h bG)];omega
def kL:∀(l:List Int)(f:Nat),eD l f<=l.length
 |[],f=>by simp[eD]
 |w::l,f=>by have:=kL l f;simp only[eD,be];split<;>omega
def uW:∀(h k:List bK)(f:Nat),eA (h++k) f=eA h f+eA k f
 |[],k,f=>by simp[eA]
 |c::h,k,f=>by simp only[df,eA,uW h k f];omega
def ru:∀(h:List bK)(f:Nat),0<=eA h f
 |[],f=>by simp[eA]
 |c::h,f=>by have:=ru h f;have:=iO c.aH f;simp only[eA];omega
def Aw:∀{h:List bK}{f:Nat}{c:bK}(e:bK)(_:h[f]? =some c)(b:Nat),eA (h.set f e) b=eA h b -eD c.aH b+eD e.aH b
 |[],f,c,e,h,b=>by simp at h
 |d::h,0,c,e,g,b=>by simp at g;subst g;simp only[iJ,eA];omega
 |d::h,f+1,c,e,g,b=>by
  have:=Aw (h:=h) (f:=f) e (by simpa using g) b;simp only[jA,eA,this];omega
def LV:∀{h:List bK}{f:Nat},0<eA h f->∃c∈h,(1000+(f:Int))∈c.aH
 |[],f,h=>by simp[eA]at h
 |c::h,f,e=>by
  simp only[eA]at e;rcases dT (0<eD c.aH f)with b|b
  .exact⟨c,aZ,O2 b⟩
  .let⟨d,hd,g⟩:=LV (h:=h) (f:=f) (oh (iO c.aH f));exact⟨d,ah _ hd,g⟩
def Sn:∀{h:List bK}{c:bK}(_:c∈h)(f:Nat),eD c.aH f<=eA h f
 |[],c,a,f=>by simp at a
 |d::h,c,a,f=>by
  simp only[eA];rcases List.mem_cons.1 a with rfl|a
  .have:=ru h f;omega
  .have:=Sn a f;have:=iO d.aH f;omega
structure oL(h:List bK)(c:bK):Prop where
 fl:c.aH.length<=3
 lo: -1<=c.aQ
 hi:c.aQ<=999999
 xp:c.aQ<1->c.kE=0/\(∀w∈c.aH,w=0)/\(c.aQ=0->c.aH=[])
 ph:0<c.aQ->(∀w∈c.aH,qP h w)/\0<=c.kE/\c.kE<=99
def Tp(h:List bK):Prop:=∃a:Nat->Nat,∀(i:Nat)(c:bK),h[i]? =some c->∀w∈c.aH,1000<=w->a (ix w)<a i
structure fL(h:List bK)(e:Nat->Int):Prop where
 cell:∀c∈h,oL h c
 KN:Tp h
 ex:∀(f:Nat)(c:bK),h[f]? =some c->0<c.aQ->c.aQ=eA h f+e f
 nn:∀f,0<=e f
 lv:∀f,0<e f->eQ h f
def fL.congr(c:fL h e)(a:∀b,e' b=e b):fL h e':=by
 have:e'=e:=funext a;rw[this];exact c
def lP(f:Nat):ix (1000+(f:Int))=f:=by unfold ix;omega
def iv(h:1000<=w):1000+((ix w:Nat):Int)=w:=by unfold ix;omega
def Rj{v:Int}(a:1000<=v)(b:1000<=w)(h:ix v=ix w):v=w:=by rw[<-iv a,<-iv b,h]
def fL.field(i:fL h e)(g:c∈h)(f:w∈c.aH)(j:1000<=w):fQ h w:=by
 have d:=i.cell c g;rcases dT (0<c.aQ)with b|b
 .rcases(d.ph b).1 w f with a|a
  .have:=a.2;omega
  .exact a
 .have:=(d.xp V).2.1 w f;omega
def fL.Xs(d:fL h e)(g:¬eQ h f):eA h f=0:=by
 rcases dT (0<eA h f)with a|a
 .let⟨c,b,i⟩:=LV a;have:=(d.field b i V).2;rw[lP]at this;exact absurd this g
 .have:=ru h f;omega
def fL.YR(a:fL h e)(c:¬eQ h f):e f=0:=by
 have:=a.nn f;rcases dT (0<e f)with b|b
 .exact absurd (a.lv f b) c
 .omega
def iN(a:b≠f):(h.set f c)[b]? =h[b]? :=by rw[cx (λe=>a e.symm)]
def eK(hd:h[f]? =some d):(h.set f c)[f]? =some c:=by
 rw[dB (aw hd)]
def eQ.ne(a:b≠f):eQ (h.set f c) b<->eQ h b:=by unfold eQ;rw[iN a]
def eQ.uz(hd:h[f]? =some d):eQ (h.set f c) f<->0<c.aQ:=by
 unfold eQ;rw[eK hd];simp
def qP.mono(c:qP h w)(b:1000<=w->eQ h (ix w)->eQ g (ix w)):qP g w:=by
 rcases c with a|a
 .exact Or.inl a
 .exact Or.inr ⟨a.1,b a.1 a.2⟩
def oL.mono{h g:List bK}{c:bK}(a:oL h c)(e:0<c.aQ->∀w∈c.aH,1000<=w->eQ h (ix w)->eQ g (ix w)):oL g c:=
 ⟨a.fl,a.lo,a.hi,a.xp,λb=>⟨λw d=>((a.ph b).1 w d).mono (e b w d),(a.ph b).2⟩⟩
def nZ{x:bK}(i:x∈h.set f c):x=c\/∃b,b≠f/\h[b]? =some x:=by
 let⟨b,a⟩:=List.mem_iff_getElem?.1 i;by_cases e:b=f
 .subst e;rw[List.getElem?_set_self']at a;cases g:h[b]? with
  |none=>simp[g]at a
  |some d=>simp[g]at a;exact Or.inl a.symm
 .rw[iN e]at a;exact Or.inr ⟨b,e,a⟩
def fL.KC(j:fL h e)(g:h[f]? =some c)(i:0<c.aQ){n:Int}(v:0<n)(u:n<=999999)
 (m:∀b,e' b=e b+if b=f then n -c.aQ else 0)(s:0<=e' f):fL (h.set f {c with aQ:=n}) e':=by
 have p:∀b,eQ (h.set f {c with aQ:=n}) b<->eQ h b:=λb=>by
  by_cases a:b=f
  .subst a;rw[eQ.uz g];exact⟨λ_=>⟨c,g,i⟩,λ_=>v⟩
  .exact eQ.ne a
 have x:∀b,eA (h.set f {c with aQ:=n}) b=eA h b:=λb=>by rw[Aw _ g];simp only[];omega
 refine⟨λA y=>?_,?_,λb d hd t=>?_,λb=>?_,λb l=>?_⟩
 .rcases nZ y with rfl|⟨b,_,l⟩
  .have q:=j.cell c (aq g)
   exact⟨q.fl,by simp only[];omega,u,λr=>by simp only[]at r;omega,λ_=>⟨λw k=>((q.ph i).1 w k).mono λ_ o=>(p _).2 o,(q.ph i).2⟩⟩
  .exact(j.cell A (aq l)).mono λ_ w _ _ o=>(p _).2 o
 .let⟨z,r⟩:=j.KN
  refine⟨z,λo d hd w k i=>?_⟩
  by_cases q:o=f
  .subst q;rw[eK g]at hd;simp at hd;subst hd;exact r o c g w k i
  .rw[iN q]at hd;exact r o d hd w k i
 .rw[x,m]
  by_cases a:b=f
  .subst a;rw[eK g]at hd;simp at hd;subst hd
   have:=j.ex b c g i
   simp only[ao];omega
  .rw[iN a]at hd
   have:=j.ex b d hd t
   rw[ae a];omega
 .by_cases a:b=f
  .subst a;exact s
  .rw[m,ae a];have:=j.nn b;omega
 .rw[p]
  by_cases a:b=f
  .subst a;exact⟨c,g,i⟩
  .rw[m,ae a]at l;exact j.lv b V
def fL.Gc(j:fL h e)(m:h[f]? =some c)(I:c.aQ=1)(J:0<e f){c':bK}(C: -1<=c'.aQ)(L:c'.aQ<1)(G:c'.kE=0)
 (r:∀w∈c'.aH,w=0)(B:c'.aH.length<=3)(A:c'.aQ=0->c'.aH=[])
 (p:∀b,e' b=e b -(if b=f then 1 else 0)+eD c.aH b):fL (h.set f c') e':=by
 have o:=j.ex f c m V
 have O:=ru h f
 have N:eA h f=0:=V
 have K:e f=1:=V
 have u:∀x∈h,(1000+(f:Int))∉x.aH:=λx o g=>by
  have:=Sn o f;have:=uU g;omega
 have M:eD c.aH f=0:=od (u c (aq m))
 have E:∀b,eD c'.aH b=0:=λb=>od λg=>by have:=r _ g;omega
 have t:∀b,b≠f->eQ h b->eQ (h.set f c') b:=λb i q=>(eQ.ne i).2 q
 have D:∀x∈h,∀w∈x.aH,1000<=w->ix w≠f:=λx o w g n y=>by
  have:=iv n;rw[y]at this;rw[<-this]at g;exact u x o g
 refine⟨λx o=>?_,?_,λb d hd z=>?_,λb=>?_,λb k=>?_⟩
 .rcases nZ o with rfl|⟨b,_,k⟩
  .exact⟨B,C,V,λ_=>⟨G,r,A⟩,λn=>V⟩
  .exact(j.cell x (aq k)).mono λ_ w g n q=>t _ (D x (aq k) w g n) q
 .let⟨H,F⟩:=j.KN
  refine⟨H,λv d hd w g n=>?_⟩
  by_cases s:v=f
  .subst s;rw[eK m]at hd;simp at hd;subst hd;have:=r w g;omega
  .rw[iN s]at hd;exact F v d hd w g n
 .rw[Aw _ m,E,p]
  by_cases i:b=f
  .subst i;rw[eK m]at hd;simp at hd;subst hd;omega
  .rw[iN i]at hd
   have:=j.ex b d hd z
   rw[ae i];omega
 .rw[p]
  have:=j.nn b
  have:=iO c.aH b
  split
  .rename_i i;subst i;omega
  .omega
 .rw[p]at k
  by_cases i:b=f
  .subst i;rw[ao rfl]at k;omega
  .rw[ae i]at k
   refine t b i ?_
   rcases dT (0<e b)with s|s
   .exact j.lv b s
   .have:=j.nn b
    have g:=O2 (l:=c.aH) (f:=b) V
    have:=(j.field (aq m) g V).2
    rwa[lP]at this
def fL.make(l:fL h e){v:Int}{c:List Int}(r:¬eQ h f)(p:g[f]? =some ⟨1,v,c⟩)(o:∀b,b≠f->g[b]? =h[b]?)
 (E:∀b,eA g b=eA h b+eD c b)(z:∀w∈c,qP h w)(C:c.length<=3)(G:0<=v/\v<=99)(x:∀b,eD c b<=e b)
 (t:∀b,e' b=e b -eD c b+if b=f then 1 else 0):fL g e':=by
 have u:∀b,eQ h b->eQ g b:=λb i=>by
  by_cases a:b=f
  .subst a;exact absurd i r
  .unfold eQ;rw[o b a];exact i
 have L:=l.YR r
 have N:=l.Xs r
 have M:eD c f=0:=by have:=iO c f;have:=x f;omega
 refine⟨λK I=>?_,?_,λb d hd B=>?_,λb=>?_,λb j=>?_⟩
 .let⟨b,j⟩:=List.mem_iff_getElem?.1 I
  by_cases a:b=f
  .subst a;rw[p]at j;simp at j;subst j
   exact⟨C,aN,aN,sx,λ_=>⟨λw n=>(z w n).mono λ_ i=>u _ i,G⟩⟩
  .rw[o b a]at j
   exact(l.cell K (aq j)).mono λ_ w _ _ i=>u _ i
 .let⟨s,F⟩:=l.KN
  refine⟨λk=>if k=f then(c.map λw=>s (ix w)).sum+1 else s k,λk d hd w n y=>?_⟩
  have H:ix w≠f:=λA=>by
   have D:fQ h w:=by
    by_cases m:k=f
    .subst m;rw[p]at hd;simp at hd;subst hd;rcases z w n with q|q
     .have:=q.2;omega
     .exact q
    .rw[o k m]at hd;exact l.field (aq hd) n y
   exact r (A▸D.2)
  simp only[ae H]
  by_cases m:k=f
  .subst m;rw[p]at hd;simp at hd;subst hd
   rw[ao rfl]
   have:∀(q:List Int),w∈q->s (ix w)<=(q.map λw=>s (ix w)).sum:=by
    intro q i;induction q with
    |nil=>simp at i
    |cons O q J=>
     simp only[cO,List.sum_cons];rcases List.mem_cons.1 i with rfl|i
     .omega
     .have:=J i;omega
   have:=this c n;omega
  .rw[ae m];rw[o k m]at hd;exact F k d hd w n y
 .rw[E,t]
  by_cases a:b=f
  .subst a;rw[p]at hd;simp at hd;subst hd
   rw[ao rfl];simp only[];omega
  .rw[o b a]at hd
   have:=l.ex b d hd B
   rw[ae a];omega
 .rw[t];have:=x b;split<;>omega
 .rw[t]at j
  by_cases a:b=f
  .subst a;exact⟨_,p,aN⟩
  .rw[ae a]at j
   exact u b (l.lv b (oh (iO c b)))
def fL.iz:∀(n:Nat)(h:List bK)(o:List Int)(e:Nat->Int),Cx h+o.length<=n->fL h (λb=>e b+eD o b)->(∀b,0<=e b)->fL (iz h o) e
 |n,h,[],e,_,a,_=>by rw[tn];exact a.congr λb=>by simp[eD]
 |n,h,w::r,e,f,a,d=>by
  rcases dT (fQ h w)with c|c
  .let⟨g,m⟩:=bP c;have s:=iv c.1;have l:∀b,eD (w::r) b=(if b=ix w then 1 else 0)+eD r b:=λb=>by
    simp only[eD];congr 1;by_cases k:b=ix w
    .subst k;rw[ao s.symm,ao rfl]
    .rw[ae k,ae (λi=>k (by rw[i,lP]))]
   have p:=kK (d:=jd) g;by_cases j:(aM h w).aQ=1
   .rw[tp c j];simp only[ao m,jd]at p;simp at p;cases n with
    |zero=>simp at f
    |succ n=>
    refine fL.iz n _ _ e ?_ (fL.Gc a g j ?_ bn bn rfl (by simp[jd]) (by simp[jd]) (λ_=>rfl) λb=>?_) d
    .simp[jd]at f⊢;omega
    .simp only[l,ao];have:=d (ix w);have:=iO r (ix w);omega
    .simp only[l,mq,Aq];omega
   .rw[qI c j];have q:=kK (d:={aM h w with aQ:=(aM h w).aQ -1}) g;simp only[ao m]at q;rw[ao V]at q;have t:=(a.cell _ (aq g)).hi;cases n with
    |zero=>simp at f
    |succ n=>
    refine fL.iz n _ _ e ?_ (fL.KC a g m V V (λb=>?_) ?_) d
    .simp only[be]at f;simp only[fu];omega
    .simp only[l];split<;>omega
    .have:=d (ix w);have:=iO r (ix w);omega
  .rw[qJ c];cases n with
   |zero=>simp at f
   |succ n=>
   refine fL.iz n _ _ e (by simp at f;omega) (a.congr λb=>?_) d;simp only[eD];rw[ae]
   .omega
   .intro i;have:=a.lv b (by simp only[eD,ao i];have:=d b;have:=iO r b;omega);exact c ⟨V,by rw[i,lP];exact this⟩
def ue(h:List bK):∀n,jy h n<=n
 |0=>ad _
 |n+1=>by
  simp only[jy];have:=ue h n;split
  .split<;>omega
  .omega
def ud(h:List bK):∀(n k:Nat)(c:bK),jy h n<=k->k<n->h[k]? =some c->c.aQ=0
 |0,k,c,_,d,_=>V
 |n+1,k,c,a,e,b=>by
  simp only[jy]at a;by_cases d:k=n
  .subst d;rw[b]at a;simp only[]at a;split at a
   .assumption
   .omega
  .split at a
   .split at a
    .exact ud h n k c a V b
    .omega
   .exact ud h n k c a V b
def MG(h:List bK):∀(n:Nat)(c:bK),n<=h.length->h[jy h n -1]? =some c->0<jy h n->c.aQ≠0
 |0,c,_,_,b=>by simp[jy]at b
 |n+1,c,f,a,b=>by
  simp only[jy]at a b;let⟨d,hd⟩:=cL h n;rw[hd]at a b;simp only[]at a b;split at a
  .rename_i e;rw[ao e]at b;exact MG h n c V a b
  .rename_i e;simp at a;rw[hd]at a;simp at a;subst a;exact e
def oD(h:List bK):Prop:=∀c,h[h.length -1]? =some c->c.aQ≠0
def Hz(h:List bK):oD (mZ h):=by
 intro c a;have d:=ue h h.length;unfold mZ at a;rw[gQ,ju d]at a;rcases ku (jy h h.length)with b|b
 .rw[b]at a;simp at a
 .rw[dK V]at a;exact MG h _ c (ad _) a b
def Oe:∀{h:List bK},(∀c∈h,c.aH=[])->∀f,eA h f=0
 |[],_,f=>rfl
 |c::h,a,f=>by simp only[eA,a c aZ,eD,Oe (λd hd=>a d (ah _ hd)) f];rfl
def fL.mZ{h:List bK}{e:Nat->Int}(d:fL h e):fL (mZ h) e:=by
 have u:=ue h h.length;have q:∀(b:Nat)(c:bK),h[b]? =some c->c.aQ≠0->b<jy h h.length:=λb c a i=>
  dE λv=>i (ud h h.length b c V (aw a) a)
 have k:∀(b:Nat)(c:bK),(Go.Proofs.YtghjegjkpepmpaaGreat.mZ h)[b]? =some c->h[b]? =some c:=λb c a=>by
  unfold Go.Proofs.YtghjegjkpepmpaaGreat.mZ at a;have:=aw a;rw[gQ]at this;rwa[dK V]at a
 have l:∀b,eQ h b->eQ (Go.Proofs.YtghjegjkpepmpaaGreat.mZ h) b:=λb⟨c,a,j⟩=>⟨c,by
  unfold Go.Proofs.YtghjegjkpepmpaaGreat.mZ;rw[dK (q b c a V)];exact a,j⟩
 have s:∀b,eA (Go.Proofs.YtghjegjkpepmpaaGreat.mZ h) b=eA h b:=λb=>by
  have m:h=Go.Proofs.YtghjegjkpepmpaaGreat.mZ h++h.drop (jy h h.length):=(dv _ _).symm;have n:eA (h.drop (jy h h.length)) b=0:=Oe (λc a=>by
   let⟨o,g⟩:=List.mem_iff_getElem?.1 a;rw[sH]at g;have i:=ud h h.length _ c V (aw g) g;exact((d.cell c (aq g)).xp V).2.2 i) b
  have o:=nE (λg=>eA g b) m;simp only[uW,n]at o;omega
 refine⟨λc a=>?_,?_,λf c a j=>?_,d.nn,λf p=>l f (d.lv f p)⟩
 .let⟨b,g⟩:=List.mem_iff_getElem?.1 a;exact(d.cell c (aq (k b c g))).mono λ_ w _ _ r=>l _ r
 .let⟨t,r⟩:=d.KN;exact⟨t,λg c a=>r g c (k g c a)⟩
 .rw[s];exact d.ex f c (k f c a) j
end
section
variable{l:List Int}{i x v r:Int}{b:Nat}{c:cV}{f:aY}{s:St}
def kV(b:0<=i)(c:i<l.length):l[i.toNat]? =some (aF l i):=by
 let⟨x,a⟩:=cL l i.toNat;simp[aF,a]
def Yq(h:l[b]? =some x):aF l b=x:=by simp[aF,h]
def HU(h:l[i.toNat]? =some x):aF l i=x:=by simp[aF,h]
def fq(a:0<=i)(b:i<l.length):aF l i∈l:=gJ (kV a b)
def gZ(l:List Int)(i v:Int):(gA l i v).length=l.length:=by simp[gA]
def pU(h:x∈gA l i v):x=v\/x∈l:=by
 rcases cF h with h|h
 .exact Or.inr h
 .exact Or.inl h
def AA(l:List Int)(i v:Int)(b:Nat):(gA l i v)[b]? =if b=i.toNat/\b<l.length then some v else l[b]? :=by
 unfold gA;by_cases h:b=i.toNat
 .subst h;by_cases a:i.toNat<l.length
  .rw[dB a,ao ⟨rfl,a⟩]
  .rw[ae V,rX V]
 .rw[ae V,cx (λe=>h e.symm)]
def Cf(a:0<=i)(b:i<l.length)(j:Int)(c:0<=j):aF (gA l i v) j=if j=i then v else aF l j:=by
 unfold aF;rw[fV,fV,AA];by_cases h:j=i
 .subst h;rw[ao rfl,ao ⟨rfl,V⟩];rfl
 .rw[ae h,ae V]
def Io:∀(ak aS:List Int)(b:Nat)(w o f e:Int)(a:Nat),ak[b]? =some f->aS[b]? =some e->
 di (ak.set b w) (aS.set b o) a=di ak aS a -(if f=1000+(a:Int)then e else 0)+(if w=1000+(a:Int)then o else 0)
 |[],aS,b,w,o,f,e,a,c,d=>by simp at c
 |r::g,[],b,w,o,f,e,a,c,d=>by simp at d
 |r::g,q::h,0,w,o,f,e,a,c,d=>by
  simp at c d;subst c;subst d;simp only[iJ,di];omega
 |r::g,q::h,b+1,w,o,f,e,a,c,d=>by
  have:=Io g h b w o f e a (by simpa using c) (by simpa using d);simp only[jA,di,this];omega
def Uy(h:l[b]? =some x):l.set b x=l:=by
 apply ic;intro i;by_cases a:b=i
 .subst a;rw[dB (aw h),h]
 .rw[cx a]
def Im{ak aS:List Int}(c:0<=r)(d:r<ak.length)(e:r<aS.length)(o:Int)(a:Nat):
 di ak (gA aS r o) a=di ak aS a+(if aF ak r=1000+(a:Int)then o -aF aS r else 0):=by
 have b:=kV c d
 have:=Io ak aS r.toNat (aF ak r) o _ _ a b (kV c e)
 rw[Uy b]at this
 rw[gA,this];split<;>omega
def N4{ak aS:List Int}(b:0<=r)(c:r<ak.length)(d:r<aS.length)(e:aF aS r=0)(w o:Int)(a:Nat):
 di (gA ak r w) (gA aS r o) a=di ak aS a+(if w=1000+(a:Int)then o else 0):=by
 have:=Io ak aS r.toNat w o _ _ a (kV b c) (kV b d)
 rw[gA,gA,this,e];split<;>omega
def tK:∀{ak aS:List Int},(∀o∈aS,0<=o)->∀a,0<=di ak aS a
 |[],aS,h,a=>by cases aS<;>simp[di]
 |r::b,[],h,a=>by simp[di]
 |r::b,o::d,h,a=>by
  have:=tK (ak:=b) (aS:=d) (λx c=>h x (ah _ c)) a;have:=h o aZ;simp only[di];split<;>omega
def tO:∀{ak aS:List Int},SC aS->∀a,di ak aS a=0
 |[],aS,h,a=>by cases aS<;>simp[di]
 |r::b,[],h,a=>by simp[di]
 |r::b,o::d,h,a=>by
  have:=tO (ak:=b) (aS:=d) (λx c=>h x (ah _ c)) a;have:=h o aZ;simp only[di,this];split<;>omega
def Gx:∀{c o1:List Int}(b o2:List Int),c.length=o1.length->∀a,di (c++b) (o1++o2) a=di c o1 a+di b o2 a
 |[],[],b,o2,_,a=>by simp[di]
 |[],_::_,_,_,h,_=>by simp at h
 |_::_,[],_,_,h,_=>by simp at h
 |r::e,o::d,b,o2,h,a=>by
  have:=Gx (c:=e) (o1:=d) b o2 (by simpa using h) a;simp only[df,di,this];omega
def LO:∀{ak aS:List Int}{b:Nat}{w o:Int}(_:∀o∈aS,0<=o)(_:ak[b]? =some w)(_:aS[b]? =some o){d:Nat}(_:w=1000+(d:Int)),o<=di ak aS d
 |[],_,_,_,_,_,a,_,_,_=>by simp at a
 |_::_,[],_,_,_,_,_,c,_,_=>by simp at c
 |r::i,q::h,0,w,o,e,a,c,d,f=>by
  simp at a c;subst a;subst c;have:=tK (ak:=i) (aS:=h) (λx g=>e x (ah _ g)) d;simp only[di,ao f];omega
 |r::i,q::h,b+1,w,o,e,a,c,d,f=>by
  have:=LO (ak:=i) (aS:=h) (b:=b) (λx g=>e x (ah _ g)) (by simpa using a) (by simpa using c) f;have:=e q aZ;simp only[di];split<;>omega
def fZ:∀(l r:List aY)(a:Nat),fD (l++r) a=fD l a+fD r a
 |[],r,a=>by simp[fD]
 |f::l,r,a=>by simp only[df,fD,fZ l r a];omega
def ln(f:aY)(a:Nat):fD [f] a=di f.ak f.aS a:=by simp[fD]
def eL:∀(l r:List aY)(a:Nat),holds (l++r) a=holds l a+holds r a
 |[],r,a=>by simp[holds]
 |f::l,r,a=>by simp only[df,holds,eL l r a];omega
def js(f:aY)(a:Nat):holds [f] a=eD f.ba a:=by simp[holds]
def wa:∀(l:List aY)(a:Nat),0<=holds l a
 |[],a=>by simp[holds]
 |f::l,a=>by have:=wa l a;have:=iO f.ba a;simp only[holds];omega
def kC(ak:List Int):∀(a aS:List Int),(bC ak aS a).length=aS.length
 |[],aS=>rfl
 |r::a,aS=>by simp only[bC];rw[kC ak a];split<;>simp[gZ]
def yi{ak:List Int}:∀(b aS:List Int),(∀r∈b,0<=r/\r<ak.length)->ak.length=aS.length->∀a,di ak (bC ak aS b) a=di ak aS a -eD (b.map (aF ak)) a
 |[],aS,_,_,a=>by simp[bC,eD]
 |r::b,aS,h,c,a=>by
  have e:=h r aZ;have f:=λaS c=>yi (ak:=ak) b aS (λx d=>h x (ah _ d)) c a;simp only[bC,cO,eD];by_cases d:1000<=aF ak r
  .rw[ao d,f _ (by rw[gZ];exact c),Im e.1 e.2 V];split<;>omega
  .rw[ae d,f _ c,ae V];omega
def lD{ak:List Int}:∀(c aS:List Int)(b:Nat)(o:Int),(bC ak aS c)[b]? =some o->∃q,aS[b]? =some q/\o<=q
 |[],aS,b,o,h=>⟨o,h,de _⟩
 |r::c,aS,b,o,h=>by
  simp only[bC]at h;let⟨q,a,e⟩:=lD c _ b o h;split at a
  .rw[AA]at a;split at a
   .rename_i d;let⟨y,f⟩:=dG d.2;have g:aF aS r=y:=by rw[aF,fV,<-d.1,f];rfl
    simp at a;exact⟨y,f,V⟩
   .exact⟨q,a,e⟩
  .exact⟨q,a,e⟩
def kA:∀(a aS:List Int),(dw aS a).length=aS.length
 |[],aS=>rfl
 |r::a,aS=>by simp only[dw];rw[kA a,gZ]
def FQ{ak:List Int}:∀(b aS:List Int),(∀r∈b,0<=r/\r<ak.length)->ak.length=aS.length->∀a,di ak (dw aS b) a=di ak aS a+eD (b.map (aF ak)) a
 |[],aS,_,_,a=>by simp[dw,eD]
 |r::b,aS,h,d,a=>by
  have c:=h r aZ;simp only[dw,cO,eD];rw[FQ (ak:=ak) b _ (λx e=>h x (ah _ e)) (by rw[gZ];exact d) a,Im c.1 c.2 V];split<;>omega
def KU{ak:List Int}:∀(d aS:List Int),(∀r∈d,0<=r/\r<aS.length/\1000<=aF ak r)->
 (∀(b:Nat)(o w:Int),aS[b]? =some o->ak[b]? =some w->0<=o/\(0<o->1000<=w))->∀(b:Nat)(o w:Int),(dw aS d)[b]? =some o->ak[b]? =some w->0<=o/\(0<o->1000<=w)
 |[],aS,_,h,b,o,w,a,c=>h b o w a c
 |r::d,aS,g,h,b,o,w,a,c=>by
  refine KU (ak:=ak) d (gA aS r (aF aS r+1)) (λx e=>by rw[gZ];exact g x (ah _ e)) (λb o w a c=>?_) b o w a c;rw[AA]at a;split at a
  .rename_i f;have e:=g r aZ;have i:aF ak r=w:=by rw[aF,fV,<-f.1,c];rfl
   have j:=h b (aF aS r) w (by rw[f.1];exact kV e.1 e.2.1) c;simp at a;exact⟨V,λ_=>V⟩
  .exact h b o w a c
def fR(h:List bK)(a:Nat):Prop:=∃c,h[a]? =some c/\c.aQ<0
structure iy(c:cV)(f:aY):Prop where
 fw:0<=f.fw/\f.fw<c.cE.length
 pc:0<=f.pc/\f.pc<(dR c f.fw).dk.length
 lr:(f.ak.length:Int)=(dR c f.fw).ak
 lo:(f.aS.length:Int)=(dR c f.fw).ak
 lh:(f.ba.length:Int)=(dR c f.fw).ak
 So:∀w∈f.ak,gS w\/1000<=w
 aS:∀(b:Nat)(o w:Int),f.aS[b]? =some o->f.ak[b]? =some w->0<=o/\(0<o->1000<=w)
 ba:∀w∈f.ba,w=0\/1000<=w
structure cW(c:cV)(s:St):Prop where
 fm:nF c
 cw:0<=s.cw/\s.cw<=3
 done:s.cw=0<->s.an=[]
 value:gS s.value
 ug:s.value≠0->s.cw=0
 dX:0<=s.dX/\s.dX<=40
 bA:0<=s.bA/\s.bA<=s.dX
 depth:(s.an.length:Int)<=s.bA+1
 aU:∀n∈s.aU,gS n
 heap:fL s.heap (fD s.an)
 jH:oD s.heap
 an:∀f∈s.an,iy c f
 first:∀f,s.an[0]? =some f->f.dst=0
 chain:∀(b:Nat)(f g:aY),s.an[b]? =some f->s.an[b+1]? =some g->0<=g.dst/\g.dst<f.aS.length/\aF f.aS g.dst=0
 lH:∀a,fR s.heap a->holds s.an a=1
 nC:∀a,¬fR s.heap a->holds s.an a=0
def iy.Qd(h:iy c f):∀o∈f.aS,0<=o:=λo d=>by
 let⟨b,a⟩:=List.mem_iff_getElem?.1 d;have g:=aw a;have:=h.lo;have:=h.lr;let⟨w,e⟩:=cL f.ak b;exact(h.aS b o w a e).1
def KB{c:cV}:∀{b:List aY},(∀f∈b,iy c f)->∀a,0<=fD b a
 |[],_,a=>by simp[fD]
 |f::b,h,a=>by
  have:=KB (λg d=>h g (ah _ d)) a;have:=tK (ak:=f.ak) (h f aZ).Qd a;simp only[fD];omega
def cW.split(h:cW c s)(b:s.cw=3):∃a f,s.an=a++[f]:=by
 have:s.an≠[]:=λe=>by have:=h.done.2 e;omega
 exact⟨s.an.dropLast,s.an.getLast this,(fy this).symm⟩
def iy.Al(j:nF c)(h:iy c f):∃p,c.cE[f.fw.toNat]? =some p/\dR c f.fw=p/\HP c p/\p.dk[f.pc.toNat]? =some (cR c f)/\iZ c p f.pc.toNat (cR c f):=by
 let⟨p,b⟩:=cL c.cE f.fw.toNat (oh h.fw);have e:dR c f.fw=p:=by simp[dR,b]
 have g:=j.dD p (aq b);have k:=h.pc;rw[e]at k;let⟨i,a⟩:=cL p.dk f.pc.toNat;have d:cR c f=i:=by simp[cR,e,a]
 exact⟨p,b,e,g,d▸a,d▸g.dD _ _ a⟩
def cW.fW(h:cW c s)(A:s.cw=3){e:List aY}{g:aY}(k:s.an=e++[f]){d:List bK}{aU:List Int}(o:iy c g)(hd:g.dst=f.dst)
 (r:fL d (fD (e++[g])))(w:oD d)(t:∀a,fR d a->holds (e++[g]) a=1)(x:∀a,¬fR d a->holds (e++[g]) a=0)(v:∀n∈aU,gS n){bA:Int}(n:s.bA<=bA/\bA<=s.dX):
 cW c {s with heap:=d,aU:=aU,bA:=bA,an:=e++[g]}:=by
 have z:=h.bA
 have m:=h.depth
 rw[k]at m
 refine⟨h.fm,h.cw,⟨λj=>by simp at j;omega,sx⟩,h.value,h.ug,h.dX,⟨by simp only[];omega,n.2⟩,by simp at m⊢;omega,v,r,w,λq a=>?_,λq a=>?_,λb p q d a=>?_,t,x⟩
 .rcases List.mem_append.1 a with a|a
  .exact h.an q (by rw[k];exact bL _ a)
  .simp at a;subst a;exact o
 .have i:=h.first
  rw[k]at i
  cases e with
  |nil=>simp at a;subst a;rw[hd];exact i f aN
  |cons y l=>simp at a;subst a;exact i y aN
 .have l:=h.chain b
  rw[k]at l
  simp only[]at d a
  have u:=aw a
  simp at u
  rw[az V]at d
  rcases aX (b+1) e.length with i|i
  .rw[az i]at a
   exact l p q (by rw[az V];exact d) (by rw[az i];exact a)
  .rw[aK i]at a
   have j:b+1 -e.length=0:=V
   rw[j]at a;simp at a;subst a
   rw[hd]
   exact l p f (by rw[az V];exact d) (by rw[aK i,j];rfl)
end
section
variable{h:List bK}{a:Nat}{c d:bK}{w:Int}{e e':Nat->Int}
def fR.ne{b:Nat}(d:b≠a):fR (h.set a c) b<->fR h b:=by unfold fR;rw[iN d]
def fR.uz(hd:h[a]? =some d):fR (h.set a c) a<->c.aQ<0:=by unfold fR;rw[eK hd];simp
def fR.set(hd:h[a]? =some d)(i:0<=d.aQ)(j:0<=c.aQ)(b:Nat):fR (h.set a c) b<->fR h b:=by
 by_cases g:b=a
 .subst g;rw[fR.uz hd];refine⟨λk=>V,λ⟨e,f,l⟩=>?_⟩;rw[hd]at f;simp at f;subst f;omega
 .exact fR.ne g
def fR.UD(e:fR h a):¬eQ h a:=λ⟨c,b,g⟩=>by
 let⟨d,hd,f⟩:=e;rw[b]at hd;simp at hd;subst hd;omega
def fR.fu(c:fQ h w)(b:Nat):fR (fu h w) b<->fR h b:=by
 let⟨a,d⟩:=bP c;exact fR.set a V (by simp only[];omega) b
def fR.mP(c:fQ h w)(b:Nat):fR (mP h w) b<->fR h b:=by
 let⟨a,d⟩:=bP c;exact fR.set a V (by simp only[];omega) b
def fR.Gc(c:fQ h w)(b:Nat):fR (h.set (ix w) jd) b<->fR h b:=by
 let⟨a,d⟩:=bP c;exact fR.set a V (by simp[jd]) b
def fR.iz:∀(n:Nat)(h:List bK)(i:List Int),Cx h+i.length<=n->∀b,fR (iz h i) b<->fR h b
 |n,h,[],_,b=>by rw[tn]
 |0,h,w::r,c,b=>by simp at c
 |n+1,h,w::r,c,b=>by
  simp only[be]at c;rcases dT (fQ h w)with a|a
  .let⟨f,g⟩:=bP a;by_cases d:(aM h w).aQ=1
   .have e:=kK (d:=jd) f;simp only[ao g,jd]at e;simp at e;rw[tp a d,fR.iz n _ _ (by simp[jd];omega) b,fR.Gc a]
   .have e:=kK (d:={aM h w with aQ:=(aM h w).aQ -1}) f;simp only[ao g]at e;rw[ao V]at e;rw[qI a d,fR.iz n _ _ (by simp only[Go.Proofs.YtghjegjkpepmpaaGreat.fu];omega) b,fR.fu a]
  .rw[qJ a,fR.iz n _ _ V b]
def fR.mZ{h:List bK}(b:Nat):fR (mZ h) b<->fR h b:=by
 have f:=ue h h.length;unfold fR Go.Proofs.YtghjegjkpepmpaaGreat.mZ;constructor
 .rintro⟨c,a,d⟩;have:=aw a;rw[gQ]at this;rw[dK V]at a;exact⟨c,a,d⟩
 .rintro⟨c,a,d⟩;refine⟨c,?_,d⟩;rw[dK]
  .exact a
  .exact dE λe=>by have:=ud h h.length b c V (aw a) a;omega
def fL.mP(c:fL h e)(f:fQ h w)(i:(aM h w).aQ<999999)(a:∀b,e' b=e b+if b=ix w then 1 else 0):fL (mP h w) e':=by
 let⟨d,g⟩:=bP f;refine c.KC d g V V (λb=>?_) ?_
 .rw[a];split<;>omega
 .rw[a];have:=c.nn (ix w);split<;>omega
def PL(a:fQ h w){v:Int}(d:1000<=v):(aM (mP h w) v).aQ=(aM h v).aQ+(if v=w then 1 else 0):=by
 let⟨c,f⟩:=bP a;unfold mP;by_cases e:v=w
 .subst e;rw[ao rfl];conv=>lhs;unfold aM
  rw[eK c];rfl
 .rw[ae e];conv=>lhs;unfold aM
  rw[iN (λb=>e (Rj d a.1 b))];simp[aM]
def eQ.mP{h:List bK}{w:Int}(a:fQ h w)(b:Nat):eQ (mP h w) b<->eQ h b:=by
 let⟨c,d⟩:=bP a;by_cases e:b=ix w
 .subst e;unfold Go.Proofs.YtghjegjkpepmpaaGreat.mP;rw[eQ.uz c];exact⟨λ_=>a.2,λ_=>by simp only[];omega⟩
 .exact eQ.ne e
def jf(d:1000<=w)(r:List Int)(b:Nat):eD (w::r) b=(if b=ix w then 1 else 0)+eD r b:=by
 simp only[eD];congr 1;have e:=iv d;by_cases a:b=ix w
 .subst a;rw[ao e.symm,ao rfl]
 .rw[ae a,ae (λc=>a (by rw[c,lP]))]
def fL.iW:∀(a:List Int)(h:List bK)(e e':Nat->Int),fL h e->(∀w∈a,fQ h w/\(aM h w).aQ+eD a (ix w)<=999999)->(∀b,e' b=e b+eD a b)->fL (iW h a) e'/\(∀b,fR (iW h a) b<->fR h b)/\(iW h a).length=h.length
 |[],h,e,e',i,_,g=>⟨i.congr λb=>by rw[g];simp[eD],λ_=>QH,rfl⟩
 |w::a,h,e,e',i,k,g=>by
  let⟨c,p⟩:=k w aZ;rw[jf c.1,ao rfl]at p;have:=iO a (ix w);let⟨m,n,o⟩:=fL.iW a (Go.Proofs.YtghjegjkpepmpaaGreat.mP h w) (λb=>e b+if b=ix w then 1 else 0) e' (i.mP c V λb=>rfl) (λv q=>by
   let⟨d,j⟩:=k v (ah _ q);refine⟨⟨d.1,(eQ.mP c _).2 d.2⟩,?_⟩;rw[PL c d.1];rw[jf c.1]at j;split
   .rename_i f;subst f;rw[ao rfl]at j;omega
   .rename_i f;rw[ae (λl=>f (Rj d.1 c.1 l))]at j;omega) (λb=>by rw[g,jf c.1];omega)
  refine⟨m,λb=>by rw[Go.Proofs.YtghjegjkpepmpaaGreat.iW,n,fR.mP c],by rw[Go.Proofs.YtghjegjkpepmpaaGreat.iW,o];simp[Go.Proofs.YtghjegjkpepmpaaGreat.mP]⟩
def kM{l:List Int}:w∈lx l<->w∈l/\1000<=w:=by simp[lx]
def fL.apart{h:List bK}{e e':Nat->Int}(j:fL h e){w:Int}(o:fQ h w)(H:0<e (ix w))(t:(aM h w).aQ=1\/lJ h (aM h w).aH)
 (A:∀b,e' b=e b -(if b=ix w then 1 else 0)+eD (aM h w).aH b)(K:oD h):fL (apart h w) e'/\(∀b,fR (apart h w) b<->fR h b)/\oD (apart h w):=by
 let⟨g,J⟩:=bP o
 unfold Go.Proofs.YtghjegjkpepmpaaGreat.apart
 by_cases r:(aM h w).aQ=1
 .rw[ao r]
  exact⟨(j.Gc g r H (c':=jd) bn bn rfl (by simp[jd]) (by simp[jd]) (λ_=>rfl) A).mZ,λb=>by rw[fR.mZ,fR.Gc o],Hz _⟩
 .rw[ae r]
  have t:lJ h (aM h w).aH:=by rcases t with m|m;exact absurd m r;exact m
  have Q:=(j.cell _ (aq g)).hi
  have I:fL (Go.Proofs.YtghjegjkpepmpaaGreat.fu h w) (λb=>e b -if b=ix w then 1 else 0):=j.KC g J V V (λb=>by split<;>omega) bG
  have u:∀b,eQ h b->eQ (Go.Proofs.YtghjegjkpepmpaaGreat.fu h w) b:=λb f=>by
   by_cases k:b=ix w
   .subst k;unfold Go.Proofs.YtghjegjkpepmpaaGreat.fu;rw[eQ.uz g];simp only[];omega
   .exact(eQ.ne k).2 f
  let⟨m,y,z⟩:=fL.iW (lx (aM h w).aH) _ _ e' I (λv x=>by
   let⟨s,p⟩:=kM.1 x;have a:=j.field (aq g) s p;refine⟨⟨a.1,u _ a.2⟩,?_⟩;have:=t v s p;rw[wA];have O:(aM (Go.Proofs.YtghjegjkpepmpaaGreat.fu h w) v).aQ<=(aM h v).aQ:=by
    by_cases k:ix v=ix w
    .have i:=Rj p o.1 k;subst i;unfold Go.Proofs.YtghjegjkpepmpaaGreat.fu;conv=>lhs;unfold aM
     rw[eK g];show(aM h v).aQ -1<=(aM h v).aQ;omega
    .unfold Go.Proofs.YtghjegjkpepmpaaGreat.fu;conv=>lhs;unfold aM
     rw[iN k];exact de _
   omega) (λb=>by rw[A,wA])
  refine⟨m,λb=>by rw[y,fR.fu o],λc n=>?_⟩
  intro M
  rw[z]at n
  have B:(Go.Proofs.YtghjegjkpepmpaaGreat.fu h w).length=h.length:=by simp[Go.Proofs.YtghjegjkpepmpaaGreat.fu]
  rw[B]at n
  have f:=aw n
  rw[z,B]at f
  let⟨d,hd⟩:=cL h (h.length -1)
  have N:=K d hd
  have G:=j.cell d (aq hd)
  have P:=G.lo
  rcases dT (0<d.aQ)with C|C
  .have F:∀(q:List Int)(l:List bK),(∀v∈q,fQ l v)->∀b,eQ l b->eQ (Go.Proofs.YtghjegjkpepmpaaGreat.iW l q) b:=by
    intro q;induction q with
    |nil=>intro l _ b f;exact f
    |cons v q L=>
     intro l i b f;have a:=i v aZ;exact L _ (λE D=>⟨(i E (ah _ D)).1,(eQ.mP a _).2 (i E (ah _ D)).2⟩) b ((eQ.mP a _).2 f)
   let⟨D,i,E⟩:=F (lx (aM h w).aH) (Go.Proofs.YtghjegjkpepmpaaGreat.fu h w) (λv x=>by
    let⟨s,p⟩:=kM.1 x;have a:=j.field (aq g) s p;exact⟨a.1,u _ a.2⟩) _ (u _ ⟨d,hd,C⟩)
   rw[n]at i;simp at i;subst i;omega
  .have l:fR h (h.length -1):=⟨d,hd,V⟩
   let⟨D,i,q⟩:=(y (h.length -1)).2 ((fR.fu o _).2 l)
   rw[n]at i;simp at i;subst i;omega
def qL:∀(h:List bK),dJ h<=h.length
 |[]=>ad _
 |c::h=>by have:=qL h;simp only[dJ,be];split<;>omega
def Eg:∀(h:List bK)(c:bK),h[dJ h]? =some c->c.aQ=0
 |[],c,a=>by simp[dJ]at a
 |d::h,c,a=>by
  simp only[dJ]at a;split at a
  .rename_i b;simp at a;subst a;exact b
  .exact Eg h c (by simpa using a)
def fL.alloc(k:fL h e){t:Int}{f:List Int}(s:∀w∈f,qP h w)(m:f.length<=3)(r:0<=t/\t<=99)(n:∀b,eD f b<=e b)
 (l:∀b,e' b=e b -eD f b+if b=dJ h then 1 else 0)(u:oD h):
 fL (jv h (dJ h) ⟨1,t,f⟩) e'/\(∀b,fR (jv h (dJ h) ⟨1,t,f⟩) b<->fR h b)/\oD (jv h (dJ h) ⟨1,t,f⟩):=by
 unfold jv
 have o:¬eQ h (dJ h):=λ⟨c,a,v⟩=>by have:=Eg h c a;omega
 by_cases i:dJ h=h.length
 .rw[ao i]
  have q:(h++[⟨1,t,f⟩])[dJ h]? =some ⟨1,t,f⟩:=by rw[i];simp
  have p:∀b,b≠dJ h->(h++[⟨1,t,f⟩])[b]? =h[b]? :=λb g=>by
   rcases aX b h.length with j|j
   .rw[az j]
   .rw[cT bG,cT j]
  refine⟨k.make o q p (λb=>by rw[uW];simp[eA]) s m r n l,λb=>?_,λc a=>?_⟩
  .by_cases g:b=dJ h
   .rw[g];unfold fR;rw[q,i];simp
   .unfold fR;rw[p b g]
  .simp at a;subst a;simp
 .rw[ae i]
  have q:dJ h<h.length:=by have:=qL h;omega
  let⟨d,hd⟩:=dG q
  have j:=Eg h d hd
  have p:=((k.cell d (aq hd)).xp V).2.2 j
  refine⟨k.make o (eK hd) (λb g=>iN g) (λb=>by rw[Aw _ hd,p];simp[eD]) s m r n l,λb=>fR.set hd V aN b,λc a=>?_⟩
  rw[ez]at a
  by_cases g:h.length -1=dJ h
  .rw[g,eK hd]at a;simp at a;subst a;simp
  .rw[iN g]at a;exact u c a
end
section
variable{b:cV}{w:Int}{s:St}{f g:aY}
def FA{b:cV}{x:Instr}:∀{l:List Int}{k:Nat}{r:Int},r∈iP b x k l->r∈l
 |[],k,r,h=>by simp[iP]at h
 |y::l,k,r,h=>by
  simp only[iP]at h;split at h
  .exact ah _ (FA h)
  .rcases List.mem_cons.1 h with rfl|h
   .exact aZ
   .exact ah _ (FA h)
def Cu{x:Instr}{r:Int}(h:r∈bU b x):r∈x.args:=by
 unfold bU at h;split at h
 .exact h
 split at h
 .exact dF h
 split at h
 .exact FA h
 .simp at h
def Jv{a:List bB}(h:dV a)(c:Int):(cJ a c).length<=3:=by
 unfold cJ;split
 .cases g:(eU a)[c.toNat]? with
  |none=>simp
  |some f=>
   have d:=aq g;unfold eU at d;let⟨e,hd,b⟩:=List.mem_flatMap.1 d;let⟨k,i⟩:=List.mem_iff_getElem?.1 hd;have:=(h.dD k e i).jm (List.length_pos_of_mem b);exact(this.2.2.2 f b).1
 .simp
def iy.put{b:cV}{g:aY}(h:iy b g){r w o:Int}(i:0<=r)(f:gS w\/1000<=w)(d:0<=o)(e:0<o->1000<=w):iy b (g.put r w o):=by
 refine⟨h.fw,h.pc,by simp only[aY.put,gZ];exact h.lr,by simp only[aY.put,gZ];exact h.lo,h.lh,λy a=>?_,λk q y c a=>?_,h.ba⟩
 .rcases pU a with rfl|a
  .exact f
  .exact h.So y a
 .simp only[aY.put]at c a;rw[AA]at c a;have:=h.lr;have:=h.lo;split at c<;>split at a
  .simp at c a;subst c;subst a;exact⟨d,e⟩
  .omega
  .omega
  .exact h.aS k q y c a
def Iq(w:Int):0<=gP w:=by unfold gP;split<;>omega
def Ev(h:0<gP w):1000<=w:=by unfold gP at h;split at h<;>omega
def xE(w:Int)(b:Nat):(if w=1000+(b:Int)then gP w else 0)=eD [w] b:=by
 simp only[eD,gP];split
 .rw[ao V];rfl
 .rfl
def HW(n:Int):gS (FT n):=by unfold FT gS;split<;>(try split)<;>omega
def Qg(c a b:Int):gS (O9 c a b):=by
 unfold O9;split
 .exact HW _
 split
 .exact HW _
 split
 .exact HW _
 split<;>(unfold gS;omega)
def mr(cY:List Int):∀(a:List Int)(k:Nat),(dP cY k a).length=a.length
 |[],k=>rfl
 |w::a,k=>by simp only[dP,be,mr cY a]
def JI(cY:List Int):∀(b:List Int)(k j:Nat)(o w:Int),(dP cY k b)[j]? =some o->b[j]? =some w->0<=o/\(0<o->1000<=w)
 |[],k,j,o,w,_,h=>by simp at h
 |v::b,k,0,o,w,a,c=>by
  simp[dP]at a c;subst c;split at a
  .subst a;omega
  .subst a;exact⟨Iq _,Ev⟩
 |v::b,k,j+1,o,w,a,c=>JI cY b (k+1) j o w (by simpa[dP]using a) (by simpa using c)
def kH(n:Nat):(dt n).length=n:=by simp[dt]
def qQ{n:Nat}(h:w∈dt n):w=0:=VL h
def uT{g j:Int}{d:List Int}{p:dC}(m:nF b)(l:0<=g)(h:b.cE[g.toNat]? =some p)(q:d.length=p.params.length)(n:∀w∈d,gS w\/1000<=w):iy b (bY b g j d):=by
 have e:dR b g=p:=by simp[dR,h]
 have i:=m.dD p (aq h);have t:=i.ak;have r:=i.len;have s:=aw h;refine⟨⟨l,by simp only[bY];omega⟩,⟨by simp[bY],by simp only[bY,e];omega⟩,?_,?_,?_,λw a=>?_,λk o w c a=>?_,λw a=>Or.inl (qQ a)⟩
 .simp only[bY,e,bh,kH];omega
 .simp only[bY,e,bh,kH,mr];omega
 .simp only[bY,e,kH];omega
 .simp only[bY]at a;rcases List.mem_append.1 a with a|a
  .exact n w a
  .rw[qQ a];exact Or.inl (by unfold gS;omega)
 .simp only[bY]at c a;rcases aX k d.length with f|f
  .rw[az (by rw[mr];exact f)]at c;rw[az f]at a;exact JI _ d 0 k o w c a
  .rw[aK (by rw[mr];exact f)]at c;rw[qQ (gJ c)];omega
def rp(b:cV)(g d:Int)(a:List Int)(c:Nat):di (bY b g d a).ak (bY b g d a).aS c=di a (dP (dR b g).cY 0 a) c:=by
 simp only[bY];rw[Gx _ _ (mr _ _ _).symm,tO (λn e=>qQ e)];omega
def pV(b:cV)(g c:Int)(d:List Int)(a:Nat):holds [bY b g c d] a=0:=by
 rw[js];exact SX _ _
def Ip{b:cV}{d:Instr}(f:aY):∀(e:List Int)(k:Nat)(a:Nat),di (cQ f e) (dP (dR b d.bS).cY k (cQ f e)) a=eD ((iP b d k e).map (aF f.ak)) a
 |[],k,a=>by simp[cQ,di,iP,eD]
 |r::h,k,a=>by
  have g:=Ip (b:=b) (d:=d) f h (k+1) a;simp only[cQ,cO,dP,di,iP]at g⊢;rw[g];by_cases c:nM b d k=true
  .rw[ao c];unfold nM at c;rw[ao c];split<;>omega
  .rw[ae c];unfold nM at c;rw[ae c];simp only[cO,eD];have:=xE (aF f.ak r) a;simp only[eD]at this;omega
def JJ:∀(a:List Int)(k:Nat)(b:Nat),di a (dP [] k a) b=eD a b
 |[],k,b=>by simp[di,eD]
 |w::a,k,b=>by
  have:=JJ a (k+1) b;have c:=xE w b;simp only[eD]at c;simp only[dP,di,eD,this,QI,jz,rY];omega
def cW.qM{e:List bK}{c:List aY}(i:cW b s)(l:s.an=c++[f])(m:g.ba=f.ba)(j:∀a,fR e a<->fR s.heap a):
 (∀a,fR e a->holds (c++[g]) a=1)/\(∀a,¬fR e a->holds (c++[g]) a=0):=by
 have h:∀a,holds (c++[g]) a=holds s.an a:=λa=>by rw[l,eL,eL,js,js,m]
 exact⟨λa d=>by rw[h];exact i.lH a ((j a).1 d),λa d=>by rw[h];exact i.nC a λk=>d ((j a).2 k)⟩
def cW.push(h:cW b s)(C:s.cw=3){d:List aY}(e:s.an=d++[f])(p:iy b g)(hd:0<=g.dst/\g.dst<f.aS.length/\aF f.aS g.dst=0){c:List bK}{bA:Int}
 (r:fL c (fD (d++[f,g])))(v:oD c)(t:∀a,fR c a->holds (d++[f,g]) a=1)(w:∀a,¬fR c a->holds (d++[f,g]) a=0)(z:bA=s.bA+1)(B:s.bA<s.dX):
 cW b {s with heap:=c,bA:=bA,an:=d++[f,g]}:=by
 have A:=h.bA
 have m:=h.depth
 rw[e]at m
 refine⟨h.fm,h.cw,⟨λi=>by simp at i;omega,sx⟩,h.value,h.ug,h.dX,⟨by simp only[];omega,by simp only[];omega⟩,by simp at m⊢;omega,h.aU,r,v,λq a=>?_,λq a=>?_,λk x q c a=>?_,t,w⟩
 .rcases List.mem_append.1 a with a|a
  .exact h.an q (by rw[e];exact bL _ a)
  .simp at a
   rcases a with rfl|rfl
   .exact h.an _ (by rw[e];simp)
   .exact p
 .have j:=h.first
  rw[e]at j
  cases d with
  |nil=>simp at a;subst a;exact j f aN
  |cons y l=>simp at a;subst a;exact j y aN
 .have l:=h.chain k
  rw[e]at l
  simp only[]at c a
  have i:d++[f,g]=(d++[f])++[g]:=aN
  rw[i]at c a
  have u:=aw a
  simp at u
  rw[az bG]at c
  rcases aX (k+1) (d++[f]).length with j|j
  .rw[az j]at a
   exact l x q c a
  .simp at j
   rw[aK bG]at a
   have n:k+1 -(d++[f]).length=0:=bG
   rw[n]at a;simp at a;subst a
   rw[aK V]at c
   have o:k -d.length=0:=V
   rw[o]at c;simp at c;subst c;exact hd
def Rn{m:List aY}(d:cW b s)(R:s.cw=3)(p:s.an=m++[f])
 (M:lA b s f (cR b f) (bC f.ak f.aS (bU b (cR b f))))(bi:¬(ns (cR b f).op/\s.bA=s.dX)):
 cW b (fH b s m f (cR b f) (bC f.ak f.aS (bU b (cR b f)))):=by
 have I:iy b f:=d.an f (by rw[p];simp)
 let⟨ac,hp,aB,hP,a5,hI⟩:=I.Al d.fm
 generalize cR b f=x at*
 have⟨lr,lo,lh⟩:(f.ak.length:Int)=ac.ak/\(f.aS.length:Int)=ac.ak/\(f.ba.length:Int)=ac.ak:=⟨aB▸I.lr,aB▸I.lo,aB▸I.lh⟩
 have al:∀q∈x.args,0<=q/\q<f.ak.length:=λq u=>by have:=hI.args q u;omega
 have a3:∀r∈bU b x,0<=r/\r<f.ak.length:=λr R=>al r (Cu R)
 have bp:=yi (ak:=f.ak) (bU b x) f.aS a3 V
 have bo:=kC f.ak (bU b x) f.aS
 have bn:=lD (ak:=f.ak) (bU b x) f.aS
 generalize bC f.ak f.aS (bU b x)=aS at*
 have aH:∀D∈m,iy b D:=λD j=>d.an D (by rw[p];exact bL _ j)
 have am:∀c,0<=fD m c+di f.ak aS c:=λc=>by
  have:=KB aH c;have:=tK (ak:=f.ak) M.nn c;omega
 have E:fL s.heap (λc=>fD m c+di f.ak aS c+eD ((bU b x).map (aF f.ak)) c):=d.heap.congr λc=>by
  rw[p,fZ,ln,bp];omega
 have bc:∀O:Int,0<=O->O<ac.dk.length->iy b {f with aS:=aS,pc:=O}:=λO h0 e=>
  ⟨I.fw,⟨h0,by rw[aB];exact e⟩,I.lr,by simp only[bo];exact I.lo,I.lh,I.So,λy ab w W n=>by
   let⟨D,j,o⟩:=bn y ab W;have B:=I.aS y D w j n;exact⟨M.nn ab (gJ W),λk=>B.2 V⟩,I.ba⟩
 have bq:=I.pc
 rw[aB]at bq
 have bb:x.op≠23->x.op≠24->f.pc+1<ac.dk.length:=λe B=>by
  rcases dT (f.pc+1<ac.dk.length)with A|A
  .exact A
  .have T:f.pc.toNat=ac.dk.length -1:=V;rw[T]at a5;have:=hP.Ng x a5;omega
 have Z:x.op≠23->x.op≠24->iy b {f with aS:=aS,pc:=f.pc+1}:=λe B=>bc _ V (bb e B)
 have ar:∀r:Int,0<=r->r<f.ak.length->gS (aF f.ak r)\/1000<=aF f.ak r:=λr h0 e=>I.So _ (fq h0 e)
 have a8:∀r:Int,0<=r->r<f.ak.length->aF f.ak r<1000->gS (aF f.ak r):=λr h0 e B=>by rcases ar r h0 e with A|A;exact A;omega
 have ah:=hI.dst
 have a6:mg x.op->aF aS x.dst=0:=λN=>by
  have e:=M.dst N;have B:=M.nn _ (fq (l:=aS) ah.1 V);omega
 have br:∀r∈bU b x,qP s.heap (aF f.ak r):=λr bd=>by
  have be:=a3 r bd;rcases ar r be.1 be.2 with A|A
  .exact Or.inl A
  .refine Or.inr ⟨A,E.lv _ ?_⟩;have:=am (ix (aF f.ak r));have:=uU (l:=(bU b x).map (aF f.ak)) (f:=ix (aF f.ak r)) (by rw[iv A];exact List.mem_map.2 ⟨r,bd,rfl⟩);omega
 have aI:∀(O:Int)(a7:List Int)(w ab:Int),mg x.op->∀c,fD (m++[aY.put {f with aS:=aS,pc:=O,ba:=a7} x.dst w ab]) c=fD m c+di f.ak aS c+(if w=1000+(c:Int)then ab else 0):=λO a7 w ab N c=>by
  rw[fZ,ln];simp only[aY.put];rw[N4 ah.1 V V (a6 N)];omega
 have aO:∀(w:Int)(aU:List Int),mg x.op->x.op≠23->x.op≠24->bU b x=[]->(gS w\/1000<=w)->(∀k∈aU,gS k)->cW b {s with aU:=aU,an:=m++[aY.put {f with aS:=aS,pc:=f.pc+1} x.dst w 0]}:=λw aU N e B v n W=>by
  let⟨z,P⟩:=d.qM p (g:=aY.put {f with aS:=aS,pc:=f.pc+1} x.dst w 0) rfl (λc=>QH);refine d.fW R p (hd:=rfl) ((Z e B).put ah.1 n (de _) (λA=>V)) (E.congr λc=>?_) d.jH z P W (bA:=s.bA) ⟨de _,d.bA.2⟩;rw[aI _ _ _ _ N,v];simp[eD]
 have aQ:∀O:Int,0<=O->O<ac.dk.length->bU b x=[]->cW b {s with an:=m++[{f with aS:=aS,pc:=O}]}:=λO h0 e v=>by
  let⟨z,P⟩:=d.qM p (g:={f with aS:=aS,pc:=O}) rfl (λc=>QH);refine d.fW R p (hd:=rfl) (bc O h0 e) (E.congr λc=>?_) d.jH z P d.aU (bA:=s.bA) ⟨de _,d.bA.2⟩;rw[fZ,ln,v];simp[eD]
 have o:=hI.op
 unfold mf at o
 unfold fH
 simp only[]
 by_cases e0:x.op=0
 .rw[ao e0]at o⊢
  exact aO _ _ (by unfold mg;omega) V V (by simp[bU,e0]) (Or.inl o.2) d.aU
 rw[ae e0]at o⊢
 by_cases e1:x.op=1\/x.op=2\/x.op=3\/x.op=4
 .rw[ao e1]
  exact aO _ _ (by unfold mg;omega) V V (by unfold bU;rw[ae V,ae V,ae V]) (Or.inl (Qg _ _ _)) d.aU
 rw[ae e1]
 have au:1<=x.args.length->0<=aF x.args 0/\aF x.args 0<f.ak.length:=λe=>al _ (fq V V)
 by_cases e5:x.op=5
 .rw[ao e5]
  rw[ae V,ao V]at o
  have u:=au V
  have ay:gS (aF f.ak (aF x.args 0)):=a8 _ u.1 u.2 (M.nX V _ (fq V V))
  refine aO _ _ (by unfold mg;omega) V V (by simp[bU,e5]) (Or.inl ay) λk F=>?_
  rcases List.mem_append.1 F with F|F
  .exact d.aU k F
  .simp at F;subst F;exact ay
 rw[ae e5]
 have bf:(bU b x=x.args)->∀w∈cQ f x.args,qP s.heap w:=λv w n=>by
  obtain⟨r,Y,rfl⟩:=List.mem_map.1 n;exact br r (v▸Y)
 have a0:∀aC,bU b x=x.args->x.op≠23->x.op≠24->mg x.op->x.args.length<=3->0<=aC/\aC<=99->cW b {s with heap:=jv s.heap (dJ s.heap) ⟨1,aC,cQ f x.args⟩,an:=m++[aY.put {f with aS:=aS,pc:=f.pc+1} x.dst (1000+dJ s.heap) 1]}:=λaC v e B N A aW=>by
  let⟨S,k2,k3⟩:=E.alloc (t:=aC) (f:=cQ f x.args) (e':=fD (m++[aY.put {f with aS:=aS,pc:=f.pc+1} x.dst (1000+dJ s.heap) 1])) (bf v) (by simpa[cQ]using A) aW (λc=>by rw[v];have:=am c;simp only[cQ];omega) (λc=>by
   rw[aI _ _ _ _ N,v];simp only[cQ];have:(if(1000+(dJ s.heap:Int))=1000+(c:Int)then(1:Int)else 0)=if c=dJ s.heap then 1 else 0:=by
    by_cases k:c=dJ s.heap
    .rw[ao k,ao V]
    .rw[ae k,ae V]
   rw[this];omega) d.jH
  let⟨z,P⟩:=d.qM p (g:=aY.put {f with aS:=aS,pc:=f.pc+1} x.dst (1000+dJ s.heap) 1) rfl k2;exact d.fW R p (hd:=rfl) ((Z e B).put ah.1 (Or.inr V) V (λ_=>V)) S k3 z P d.aU (bA:=s.bA) ⟨de _,d.bA.2⟩
 have bs:(eU b.br).length<=12:=by
  have:=rE d.fm.ov.types b.br.length;rw[nk _ _ (ad _)]at this;exact this
 have bu:=d.fm.ov.len
 by_cases Q:x.op=6
 .rw[ao Q]
  rw[ae V,ae V,ao Q]at o
  have v:bU b x=x.args:=by unfold bU;rw[ao V]
  have N:mg x.op:=by unfold mg;omega
  have aa:x.args.length<=3:=by rw[o.2.1];exact Jv d.fm.ov.types _
  split
  .rename_i aE
   have J:0<=x.cg -1/\x.cg -1<f.ba.length:=V
   have hv:=I.ba _ (fq (l:=f.ba) J.1 J.2)
   have K:1000<=aF f.ba (x.cg -1):=V
   have aD:0<holds s.an (ix (aF f.ba (x.cg -1))):=by
    rw[p,eL,js];have:=wa m (ix (aF f.ba (x.cg -1)));have:=uU (l:=f.ba) (f:=ix (aF f.ba (x.cg -1))) (by rw[iv K];exact fq J.1 J.2);omega
   have X:fR s.heap (ix (aF f.ba (x.cg -1))):=dE λF=>by have:=d.nC _ F;omega
   have aj:=d.lH _ X
   let⟨U,hd,av⟩:=X
   have ax:∀c,eD U.aH c=0:=λc=>od λn=>by
    have:=((E.cell U (aq hd)).xp V).2.1 _ n;omega
   have S:=E.make (v:=x.bS) (c:=cQ f x.args) (e':=fD (m++[aY.put {f with aS:=aS,pc:=f.pc+1,ba:=gA f.ba (x.cg -1) 0} x.dst (aF f.ba (x.cg -1)) 1])) (f:=ix (aF f.ba (x.cg -1))) (g:=s.heap.set (ix (aF f.ba (x.cg -1))) ⟨1,x.bS,cQ f x.args⟩)
    (fR.UD ⟨U,hd,av⟩) (eK hd) (λc k=>iN k) (λc=>by rw[Aw _ hd,ax];simp only[];omega) (bf v) (by simpa[cQ]using aa) V (λc=>by rw[v];have:=am c;simp only[cQ];omega) (λc=>by
     rw[aI _ _ _ _ N,v];simp only[cQ];have:(if aF f.ba (x.cg -1)=1000+(c:Int)then(1:Int)else 0)=if c=ix (aF f.ba (x.cg -1))then 1 else 0:=by
      by_cases k:c=ix (aF f.ba (x.cg -1))
      .rw[ao k,ao (by rw[k,iv K])]
      .rw[ae k,ae (λH=>k (by rw[H,lP]))]
     rw[this];omega)
   have aA:∀c,eD (gA f.ba (x.cg -1) 0) c=eD f.ba c -(if c=ix (aF f.ba (x.cg -1))then 1 else 0):=by
    intro c;have ai:∀(C:List Int)(y:Nat)(w:Int),C[y]? =some w->eD (C.set y 0) c=eD C c -(if w=1000+(c:Int)then 1 else 0):=by
     intro C;induction C with
     |nil=>intro y w z;simp at z
     |cons af C ih=>
      intro y w z;cases y with
      |zero=>simp at z;subst z;simp only[iJ,eD];rw[ae V];omega
      |succ y=>have:=ih y w (by simpa using z);simp only[jA,eD,this];omega
    rw[gA,ai _ _ _ (kV J.1 J.2)];by_cases k:c=ix (aF f.ba (x.cg -1))
    .rw[ao k,ao (by rw[k,iv K])]
    .rw[ae k,ae (λH=>k (by rw[H,lP]))]
   have L:∀c,holds (m++[aY.put {f with aS:=aS,pc:=f.pc+1,ba:=gA f.ba (x.cg -1) 0} x.dst (aF f.ba (x.cg -1)) 1]) c=holds s.an c -(if c=ix (aF f.ba (x.cg -1))then 1 else 0):=λc=>by
    rw[p,eL,eL,js,js];simp only[aY.put];rw[aA];omega
   have ap:iy b {f with aS:=aS,pc:=f.pc+1,ba:=gA f.ba (x.cg -1) 0}:=by
    have e:=Z V V;exact⟨e.fw,e.pc,e.lr,e.lo,by simp only[gZ];exact e.lh,e.So,e.aS,λw n=>by rcases pU n with n|n;exact Or.inl n;exact e.ba w n⟩
   refine d.fW R p (hd:=rfl) (ap.put ah.1 (Or.inr K) V (λ_=>K)) S ?_ (λq u=>?_) (λq u=>?_) d.aU (bA:=s.bA) ⟨de _,d.bA.2⟩
   .intro ag G
    rw[ez]at G
    by_cases k:s.heap.length -1=ix (aF f.ba (x.cg -1))
    .rw[k,eK hd]at G;simp at G;subst G;simp
    .rw[iN k]at G;exact d.jH ag G
   .rw[L]
    by_cases k:q=ix (aF f.ba (x.cg -1))
    .subst k;rw[fR.uz hd]at u;simp at u
    .rw[ae k];rw[fR.ne k]at u;have:=d.lH q u;omega
   .rw[L]
    by_cases k:q=ix (aF f.ba (x.cg -1))
    .subst k;rw[ao rfl];omega
    .rw[ae k];rw[fR.ne k]at u;have:=d.nC q u;omega
  .exact a0 _ v V V N aa V
 rw[ae Q]
 by_cases X:x.op=10
 .rw[ao X]
  rw[ae V,ae V,ae Q,ae V,ao X]at o
  obtain⟨⟨D,aG,ap,aJ⟩,_⟩:=o
  have A:=(d.fm.ov.dD D (aq ap)).1
  have:=aw ap
  exact a0 _ (by unfold bU;rw[ao V]) V V (by unfold mg;omega) V (by unfold cv;omega)
 rw[ae X]
 by_cases aD:x.op=14
 .rw[ao aD]
  rw[ae V,ao V]at o
  have u:=au V
  have v:bU b x=[]:=by simp[bU,aD]
  let⟨F,U⟩:=M.Xl aD
  let⟨z,P⟩:=d.qM p (g:={f with aS:=gA aS (aF x.args 0) (aF aS (aF x.args 0)+1),pc:=f.pc+1}) rfl (λc=>fR.mP F c)
  have e:=Z V V
  refine d.fW R p (hd:=rfl) (g:={f with aS:=gA aS (aF x.args 0) (aF aS (aF x.args 0)+1),pc:=f.pc+1}) ⟨e.fw,e.pc,e.lr,by simp only[gZ];exact e.lo,e.lh,e.So,λy ab w W n=>?_,e.ba⟩ (E.mP F U λc=>?_) ?_ z P d.aU (bA:=s.bA) ⟨de _,d.bA.2⟩
  .simp only[]at W n
   rw[AA]at W
   split at W
   .rename_i J
    simp at W
    have T:aF f.ak (aF x.args 0)=w:=by rw[aF,fV,<-J.1,n];rfl
    have:=M.nn _ (fq (l:=aS) u.1 V)
    have:=F.1
    exact⟨V,λ_=>V⟩
   .exact e.aS y ab w W n
  .rw[fZ,ln,v]
   simp only[]
   rw[Im u.1 u.2 V]
   have J:=iv F.1
   simp only[fG,eD]
   by_cases k:c=ix (aF f.ak (aF x.args 0))
   .rw[ao k,ao (by rw[k,J])];omega
   .rw[ae k,ae (λH=>k (by rw[H,lP]))];omega
  .let⟨G,aA⟩:=bP F
   intro ag K
   unfold mP at K
   rw[ez]at K
   by_cases k:s.heap.length -1=ix (aF f.ak (aF x.args 0))
   .rw[k,eK G]at K;simp at K;subst K;simp only[];omega
   .rw[iN k]at K;exact d.jH ag K
 rw[ae aD]
 have aP:x.args.length=1->x.args=[aF x.args 0]:=λe=>by
  cases hx:x.args with
  |nil=>rw[hx]at e;simp at e
  |cons af C=>cases C with
   |nil=>rfl
   |cons a_ C=>rw[hx]at e;simp at e
 by_cases a1:x.op=15
 .rw[ao a1]
  rw[ae V,ao V]at o
  have v:bU b x=[aF x.args 0]:=by unfold bU;rw[ao V];exact aP V
  rw[v]at E
  have S:=fL.iz _ s.heap [aF f.ak (aF x.args 0)] (λc=>fD m c+di f.ak aS c) (ad _) (E.congr λc=>rfl) am
  let⟨z,P⟩:=d.qM p (g:={f with aS:=aS,pc:=f.pc+1}) rfl (λc=>(fR.mZ (h:=iz s.heap [aF f.ak (aF x.args 0)]) c).trans (fR.iz _ _ _ (ad _) c))
  exact d.fW R p (hd:=rfl) (Z V V) (S.mZ.congr λc=>by rw[fZ,ln]) (Hz _) z P d.aU (bA:=s.bA) ⟨de _,d.bA.2⟩
 rw[ae a1]
 by_cases U:x.op=16\/x.op=17
 .rw[ao U]
  rw[ae V,ae V,ae Q,ae V,ae X,ao U]at o
  have u:=au V
  have v:bU b x=[aF x.args 0]:=by
   unfold bU;rw[ae V,ao U];cases hx:x.args with
   |nil=>rw[hx]at o;simp at o
   |cons af C=>rfl
  let⟨F,aL,aR,a2⟩:=M.LN U
  let⟨G,aA⟩:=bP F
  have aT:∀r∈x.args.drop 1,0<=r/\r<aS.length/\1000<=aF f.ak r:=λr Y=>by
   have e:=al r (xe Y);have B:aF f.ak r∈lx (aM s.heap (aF f.ak (aF x.args 0))).aH:=by rw[aL];exact List.mem_map.2 ⟨r,Y,rfl⟩
   exact⟨e.1,V,(kM.1 B).2⟩
  have e:=Z V V
  have aa:iy b {f with aS:=dw aS (x.args.drop 1),pc:=f.pc+1}:=⟨e.fw,e.pc,e.lr,by simp only[kA];exact e.lo,e.lh,e.So,KU (ak:=f.ak) _ aS aT e.aS,e.ba⟩
  have a9:∀c,di f.ak (dw aS (x.args.drop 1)) c=di f.ak aS c+eD (aM s.heap (aF f.ak (aF x.args 0))).aH c:=λc=>by
   rw[FQ (ak:=f.ak) _ _ (λr Y=>oh (aT r Y)) V,<-wA (aM s.heap _).aH,aL];rfl
  have ax:0<fD m (ix (aF f.ak (aF x.args 0)))+di f.ak aS (ix (aF f.ak (aF x.args 0)))+eD ((bU b x).map (aF f.ak)) (ix (aF f.ak (aF x.args 0))):=by
   rw[v];have:=am (ix (aF f.ak (aF x.args 0)));simp only[cO,fG,jf F.1,ao,eD];omega
  have av:∀c,fD m c+di f.ak (dw aS (x.args.drop 1)) c=(fD m c+di f.ak aS c+eD ((bU b x).map (aF f.ak)) c) -(if c=ix (aF f.ak (aF x.args 0))then 1 else 0)+eD (aM s.heap (aF f.ak (aF x.args 0))).aH c:=λc=>by
   rw[a9,v];simp only[cO,fG,jf F.1,eD];omega
  split
  .rename_i aj
   have aZ:=a2 aj.2
   have S:=E.Gc G aj.1 ax (c':=⟨-1,0,dt (aM s.heap (aF f.ak (aF x.args 0))).aH.length⟩) aN aN rfl (λw n=>qQ n) (by simp only[kH];exact(E.cell _ (aq G)).fl) (sx) (e':=fD (m++[{f with aS:=dw aS (x.args.drop 1),pc:=f.pc+1,ba:=gA f.ba (aF x.args 0) (aF f.ak (aF x.args 0))}])) (λc=>by rw[fZ,ln];exact av c)
   have ai:∀(c:Nat)(w:Int)(C:List Int)(y:Nat),C[y]? =some 0->eD (C.set y w) c=eD C c+(if w=1000+(c:Int)then 1 else 0):=by
    intro c w C;induction C with
    |nil=>intro y z;simp at z
    |cons af C ih=>
     intro y z;cases y with
     |zero=>simp at z;subst z;simp only[iJ,eD];split<;>simp_all<;>omega
     |succ y=>have:=ih y (by simpa using z);simp only[jA,eD,this];omega
   have aV:aF x.args 0<f.ba.length:=V
   have L:∀c,holds (m++[{f with aS:=dw aS (x.args.drop 1),pc:=f.pc+1,ba:=gA f.ba (aF x.args 0) (aF f.ak (aF x.args 0))}]) c=holds s.an c+(if c=ix (aF f.ak (aF x.args 0))then 1 else 0):=λc=>by
    rw[p,eL,eL,js,js];have aE:=kV (l:=f.ba) u.1 aV;rw[aZ]at aE;simp only[gA];rw[ai c _ _ _ aE];by_cases k:c=ix (aF f.ak (aF x.args 0))
    .rw[ao k,ao (by rw[k,iv F.1])];omega
    .rw[ae k,ae (λH=>k (by rw[H,lP]))];omega
   have a4:¬fR s.heap (ix (aF f.ak (aF x.args 0))):=λz=>z.UD F.2
   refine d.fW R p (hd:=rfl) (g:={f with aS:=dw aS (x.args.drop 1),pc:=f.pc+1,ba:=gA f.ba (aF x.args 0) (aF f.ak (aF x.args 0))}) ⟨aa.fw,aa.pc,aa.lr,aa.lo,by simp only[gZ];exact aa.lh,aa.So,aa.aS,λw n=>?_⟩ S ?_ (λq J=>?_) (λq J=>?_) d.aU (bA:=s.bA) ⟨de _,d.bA.2⟩
   .rcases pU n with n|n
    .rw[n];exact Or.inr F.1
    .exact I.ba w n
   .intro ag K
    rw[ez]at K
    by_cases k:s.heap.length -1=ix (aF f.ak (aF x.args 0))
    .rw[k,eK G]at K;simp at K;subst K;simp
    .rw[iN k]at K;exact d.jH ag K
   .rw[L]
    by_cases k:q=ix (aF f.ak (aF x.args 0))
    .rw[ao k,k,d.nC _ a4];rfl
    .rw[ae k];rw[fR.ne k]at J;have:=d.lH q J;omega
   .rw[L]
    by_cases k:q=ix (aF f.ak (aF x.args 0))
    .subst k;rw[fR.uz G]at J;simp at J
    .rw[ae k];rw[fR.ne k]at J;have:=d.nC q J;omega
  .let⟨S,k2,k3⟩:=E.apart F ax aR (e':=fD (m++[{f with aS:=dw aS (x.args.drop 1),pc:=f.pc+1}])) (λc=>by rw[fZ,ln];exact av c) d.jH
   let⟨z,P⟩:=d.qM p (g:={f with aS:=dw aS (x.args.drop 1),pc:=f.pc+1}) rfl k2
   exact d.fW R p (hd:=rfl) aa S k3 z P d.aU (bA:=s.bA) ⟨de _,d.bA.2⟩
 rw[ae U]
 by_cases a2:x.op=18
 .rw[ao a2]
  rw[ae V,ao V]at o
  have u:=au V
  have v:bU b x=[aF x.args 0]:=by unfold bU;rw[ao V];exact aP V
  have N:mg x.op:=by unfold mg;omega
  let⟨z,P⟩:=d.qM p (g:=aY.put {f with aS:=aS,pc:=f.pc+1} x.dst (aF f.ak (aF x.args 0)) (gP (aF f.ak (aF x.args 0)))) rfl (λc=>QH)
  refine d.fW R p (hd:=rfl) ((Z V V).put ah.1 (ar _ u.1 u.2) (Iq _) Ev) (E.congr λc=>?_) d.jH z P d.aU (bA:=s.bA) ⟨de _,d.bA.2⟩
  rw[aI _ _ _ _ N,v,xE];rfl
 rw[ae a2]
 by_cases K:x.op=19
 .rw[ao K]
  rw[ae V,ae V,ae Q,ae V,ae X,ae U,ao K]at o
  let⟨F,k⟩:=M.load K
  let⟨G,aA⟩:=bP F
  refine aO _ _ (by unfold mg;omega) V V (by simp[bU,K]) ?_ d.aU
  rcases((E.cell _ (aq G)).ph aA).1 _ (fq o.2.1 k)with B|B
  .exact Or.inl B
  .exact Or.inr B.1
 rw[ae K]
 by_cases aa:x.op=20
 .rw[ao aa]
  rw[ae V,ae V,ae Q,ae V,ae X,ae U,ae K,ao aa]at o
  have:=bb V V
  exact aQ _ (by split<;>omega) (by split<;>omega) (by simp[bU,aa])
 rw[ae aa]
 by_cases aj:x.op=21
 .rw[ao aj]
  rw[ae V,ae V,ae Q,ae V,ae X,ae U,ae K,ae aa,ae V,ao aj]at o
  let⟨F,aW⟩:=M.Fy aj
  have ag:tD (cB b.br x.bS) (aM s.heap (aF f.ak (aF x.args 0))).kE<(cB b.br x.bS).length:=uo ⟨_,aW,aN⟩
  let⟨ai,k⟩:=o.2.2
  have:=k _ (fq (l:=x.eN) (i:=(tD (cB b.br x.bS) (aM s.heap (aF f.ak (aF x.args 0))).kE:Nat)) V V)
  exact aQ _ V V (by simp[bU,aj])
 rw[ae aj]
 by_cases av:x.op=22
 .rw[ao av]
  rw[ae V,ae V,ae Q,ae V,ae X,ae U,ae K,ae aa,ao av]at o
  exact aQ _ V V (by simp[bU,av])
 rw[ae av]
 have bg:∀w∈cQ f x.args,gS w\/1000<=w:=λw n=>by
  obtain⟨r,Y,rfl⟩:=List.mem_map.1 n;exact ar r (al r Y).1 (al r Y).2
 have aV:ns x.op->s.bA<s.dX:=λG=>by
  have:=d.bA;have:s.bA≠s.dX:=λT=>bi ⟨G,T⟩;omega
 have a9:∀(hp:List bK),s.bA<s.dX->x.op≠23->x.op≠24->∀(g:aY),iy b g->mg x.op->g.dst=x.dst->fL hp (fD (m++[{f with aS:=aS,pc:=f.pc+1},g]))->oD hp->(∀c,fR hp c<->fR s.heap c)->(∀c,holds [g] c=0)->
  cW b {s with bA:=s.bA+1,heap:=hp,an:=m++[{f with aS:=aS,pc:=f.pc+1},g]}:=λhp bt e B g hg N bl hH hT hK bm=>by
  have a4:=d.bA
  have ax:=d.depth
  rw[p]at ax
  have ee:m++[{f with aS:=aS,pc:=f.pc+1},g]=(m++[{f with aS:=aS,pc:=f.pc+1}])++[g]:=aN
  have L:∀c,holds (m++[{f with aS:=aS,pc:=f.pc+1},g]) c=holds s.an c:=λc=>by
   rw[ee,eL,bm,p,eL,eL,js,js];simp
  refine⟨d.fm,d.cw,⟨λT=>by simp at T;omega,sx⟩,d.value,d.ug,d.dX,⟨by simp only[];omega,by simp only[];omega⟩,by simp at ax⊢;omega,d.aU,hH,hT,λD j=>?_,λD j=>?_,λy p1 D k j=>?_,λq u=>?_,λq u=>?_⟩
  .rcases List.mem_append.1 j with j|j
   .exact aH D j
   .simp at j
    rcases j with rfl|rfl
    .exact Z e B
    .exact hg
  .have ai:=d.first
   rw[p]at ai
   cases m with
   |nil=>simp at j;subst j;exact ai f aN
   |cons af ys=>simp at j;subst j;exact ai af aN
  .have ag:=d.chain y
   rw[p]at ag
   simp only[]at k j
   rw[ee]at k j
   have aT:=aw j
   simp at aT
   rw[az bG]at k
   rcases aX (y+1) (m.length+1)with A|A
   .rw[az bG]at j
    rw[az V]at k
    rcases aX (y+1) m.length with h4|h4
    .rw[az h4]at j
     exact ag p1 D (by rw[az V];exact k) (by rw[az h4];exact j)
    .rw[aK h4]at j
     have H:y+1 -m.length=0:=V
     rw[H]at j;simp at j;subst j
     exact ag p1 f (by rw[az V];exact k) (by rw[aK h4,H];rfl)
   .rw[aK bG]at j
    have H:y+1 -(m++[{f with aS:=aS,pc:=f.pc+1}]).length=0:=bG
    rw[H]at j;simp at j;subst j
    rw[aK V]at k
    have e3:y -m.length=0:=V
    rw[e3]at k;simp at k;subst k
    rw[bl]
    exact⟨ah.1,by simp only[];omega,a6 N⟩
  .rw[L];exact d.lH q ((hK q).1 u)
  .rw[L];exact d.nC q λA=>u ((hK q).2 A)
 by_cases e9:x.op=9
 .rw[ao e9]
  rw[ae V,ae V,ae Q,ao V]at o
  let⟨D,aG,ap,aJ⟩:=o
  have v:bU b x=iP b x 0 x.args:=by unfold bU;rw[ae V,ae V,ao V]
  refine a9 s.heap (aV (Or.inl e9)) V V (bY b x.bS x.dst (cQ f x.args)) (uT d.fm aG ap (by simp[cQ,aJ]) bg) (by unfold mg;omega) rfl (E.congr λc=>?_) d.jH (λ_=>QH) (pV _ _ _ _)
  rw[fZ,v]
  simp only[fD]
  rw[rp,Ip];omega
 rw[ae e9]
 by_cases aE:x.op=24
 .rw[ao aE]
  rw[ae V,ae V,ae Q,ao V]at o
  let⟨D,aG,ap,aJ⟩:=o
  have v:bU b x=iP b x 0 x.args:=by unfold bU;rw[ae V,ae V,ao V]
  let⟨aL,aZ⟩:=M.zero (Or.inl aE)
  have L:∀c,holds (m++[bY b x.bS f.dst (cQ f x.args)]) c=holds s.an c:=λc=>by
   rw[p,eL,eL,pV,js,od (λn=>oh (aZ _ n))]
  have bh:=aV (Or.inr (Or.inr aE))
  refine d.fW R p (hd:=rfl) (uT d.fm aG ap (by simp[cQ,aJ]) bg) (E.congr λc=>?_) d.jH (λq u=>by rw[L];exact d.lH q u) (λq u=>by rw[L];exact d.nC q u) d.aU (bA:=s.bA+1) V
  rw[fZ,ln,rp,Ip,v,tO aL];omega
 rw[ae aE]
 by_cases ap:x.op=11
 .rw[ao ap]
  rw[ao V]at o
  have v:bU b x=x.args:=by unfold bU;rw[ao V]
  have bh:x.args=[aF x.args 0,aF x.args 1]:=by
   cases hx:x.args with
   |nil=>rw[hx]at o;simp at o
   |cons af C=>cases C with
    |nil=>rw[hx]at o;simp at o
    |cons a_ C=>cases C with
     |nil=>rfl
     |cons _ _=>rw[hx]at o;simp at o
  have aG:0<=aF x.args 1/\aF x.args 1<f.ak.length:=al _ (fq V V)
  let⟨F,bk,bv,bj,aJ,aR⟩:=M.apply ap
  let⟨G,aA⟩:=bP F
  let⟨D,j⟩:=cL b.cE (((aM s.heap (aF f.ak (aF x.args 0))).kE -cv b).toNat)
  have a_:dR b ((aM s.heap (aF f.ak (aF x.args 0))).kE -cv b)=D:=by simp[dR,j]
  rw[a_]at bj aJ
  have C:∀c,eD ((bU b x).map (aF f.ak)) c=(if c=ix (aF f.ak (aF x.args 0))then 1 else 0)+eD [aF f.ak (aF x.args 1)] c:=λc=>by
   rw[v,bh];simp only[cO,fG];rw[jf]
   .rfl
   .exact F.1
  let⟨S,k2,k3⟩:=E.apart F (by simp only[C,ao];have:=am (ix (aF f.ak (aF x.args 0)));have:=iO [aF f.ak (aF x.args 1)] (ix (aF f.ak (aF x.args 0)));omega) aR
   (e':=fD (m++[{f with aS:=aS,pc:=f.pc+1},bY b ((aM s.heap (aF f.ak (aF x.args 0))).kE -cv b) x.dst ((aM s.heap (aF f.ak (aF x.args 0))).aH++[aF f.ak (aF x.args 1)])])) (λc=>by
    rw[fZ,C];simp only[fD];rw[rp,a_,List.length_eq_zero_iff.1 aJ,JJ,mq];omega) d.jH
  refine a9 _ (aV (Or.inr (Or.inl ap))) V V _ (uT d.fm bk j bG λw n=>?_) (by unfold mg;omega) rfl S k3 k2 (pV _ _ _ _)
  rcases List.mem_append.1 n with n|n
  .rcases((E.cell _ (aq G)).ph aA).1 w n with B|B
   .exact Or.inl B
   .exact Or.inr B.1
  .simp at n;subst n;exact ar _ aG.1 aG.2
 rw[ae ap]
 have aA:x.op=23:=by
  rw[ae V]at o;by_cases aA:x.op=23
  .exact aA
  .rw[ae V,ae Q,ae V,ae X,ae U,ae K,ae aa,ae av,ae aj]at o;exact o.elim
 rw[ae V,ao V]at o
 have u:=au V
 have v:bU b x=[aF x.args 0]:=by unfold bU;rw[ao V];exact aP V
 let⟨aL,aZ⟩:=M.zero (Or.inr aA)
 have aR:∀c,holds [f] c=0:=λc=>by rw[js];exact od (λn=>oh (aZ _ n))
 split
 .rename_i F
  have aG:m=[]:=List.getLast?_eq_none_iff.1 F
  subst aG
  have C:=M.ret aA
  have ay:=a8 _ u.1 u.2 (by rcases C with e|e;(rw[p]at e;simp at e);exact e)
  have a4:=d.bA
  refine⟨d.fm,⟨aN,aN⟩,aN,ay,aN,d.dX,d.bA,bG,d.aU,E.congr λc=>?_,d.jH,aN,aN,aN,λq J=>?_,λq J=>?_⟩
  .rw[v,tO aL]
   simp only[fD,cO,fG]
   rw[od (by simp;have:=ay.2;omega)];rfl
  .have e:=d.lH q J
   rw[p]at e
   have B:=aR q
   simp only[eH]at e
   omega
  .simp[holds]
 .rename_i C F
  have aG:m=m.dropLast++[C]:=by
   have a_:m≠[]:=λT=>by rw[T]at F;simp at F
   rw[gH a_]at F;simp at F;rw[<-F];exact(fy a_).symm
  generalize m.dropLast=fs' at aG
  subst aG
  have ay:iy b C:=aH C aN
  let⟨aJ,bh,bj⟩:=d.chain fs'.length C f (by rw[p];simp) (by rw[p];simp)
  have bk:f.dst<C.ak.length:=by have:=ay.lr;have:=ay.lo;omega
  have a4:=d.bA
  have ax:=d.depth
  rw[p]at ax
  have L:∀c,holds (fs'++[C.put f.dst (aF f.ak (aF x.args 0)) (gP (aF f.ak (aF x.args 0)))]) c=holds s.an c:=λc=>by
   rw[p,eL,eL,aR,eL,js,js];simp[aY.put]
  refine⟨d.fm,d.cw,⟨λT=>by simp at T;omega,sx⟩,d.value,d.ug,d.dX,d.bA,by simp at ax⊢;omega,d.aU,E.congr λc=>?_,d.jH,λD j=>?_,λD j=>?_,λy p1 D k j=>?_,λq J=>by rw[L];exact d.lH q J,λq J=>by rw[L];exact d.nC q J⟩
  .rw[fZ,ln,fZ,ln,v,tO aL]
   simp only[aY.put,cO,fG]
   rw[N4 aJ bk bh bj,xE];omega
  .rcases List.mem_append.1 j with j|j
   .exact aH D (bL _ j)
   .simp at j;subst j
    exact ay.put aJ (ar _ u.1 u.2) (Iq _) Ev
  .have ai:=d.first
   rw[p]at ai
   cases fs' with
   |nil=>simp at j;subst j;exact ai C aN
   |cons af ys=>simp at j;subst j;exact ai af aN
  .have ag:=d.chain y
   rw[p]at ag
   simp only[]at k j
   have aT:=aw j
   simp at aT
   rw[az V]at k
   have e1:(fs'++[C]++[f])[y]? =some p1:=by rw[az bG,az V];exact k
   rcases aX (y+1) fs'.length with A|A
   .rw[az A]at j
    exact ag p1 D e1 (by rw[az bG,az A];exact j)
   .rw[aK A]at j
    have H:y+1 -fs'.length=0:=V
    rw[H]at j;simp at j;subst j
    exact ag p1 C e1 (by rw[az bG,aK A,H];rfl)
def Sq(h:cW b s):cW b (j7 b s):=by
 unfold j7;by_cases c:s.cw=3
 .rw[ae (by simpa using c)];let⟨j,f,a⟩:=h.split c;have g:s.an.getLast?=some f:=by rw[a];simp
  have i:s.an.dropLast=j:=by rw[a];simp
  rw[g,i];simp only[];have d:∀n,1<=n->n<=2->cW b {s with cw:=n}:=λn l m=>
   ⟨h.fm,⟨by simp only[];omega,by simp only[];omega⟩,⟨λe=>by simp only[]at e;omega,λe=>by simp only[]at e;rw[a]at e;simp at e⟩,h.value,λe=>oh (h.ug e),h.dX,h.bA,h.depth,h.aU,h.heap,h.jH,h.an,h.first,h.chain,h.lH,h.nC⟩
  split
  .exact d 1 V V
  .rename_i e;split
   .rename_i k;exact Rn h c a k e
   .exact d 2 V V
 .rw[ao (by simpa using c)];exact h
end
section
variable{a:cV}
def rem(a:cV):List aY->Int
 |[]=>0
 |f::b=>((dR a f.fw).dk.length -f.pc)+rem a b
noncomputable def aE (a:cV):Nat->St->St
 |0,s=>s
 |n+1,s=>aE a n (j7 a s)
def MB(a:cV):∀(n:Nat)(s:St),aE a (n+1) s=j7 a (aE a n s)
 |0,s=>rfl
 |n+1,s=>by rw[aE,MB a n,aE]
def wY{a:cV}:∀(n:Nat){s:St},cW a s->cW a (aE a n s)
 |0,s,h=>h
 |n+1,s,h=>wY n (Sq h)
def th{s:St}(h:s.cw≠3):j7 a s=s:=by unfold j7;rw[ao h]
def DU{a:cV}:∀(n:Nat){s:St},s.cw≠3->aE a n s=s
 |0,s,_=>rfl
 |n+1,s,h=>by rw[aE,th h,DU n h]
def me(a:cV)(dX:Int):St:=⟨3,0,0,dX,[],[],[bY a 0 0 []]⟩
def Mz{dX:Int}(c:nF a)(n:0<=dX/\dX<=40):cW a (me a dX):=by
 have q:=c.ov.len;let⟨p,i⟩:=cL a.cE 0;have l:=c.ov.first p i;have k:=uT (j:=0) (d:=[]) c (de 0) i (by simp[l.1]) aN;have h:∀f,fD [bY a 0 0 []] f=0:=λf=>by rw[ln,rp];simp[di]
 refine⟨c,by simp[me],by simp[me],by simp[me,gS],by simp[me],n,by simp[me];omega,by simp[me],by simp[me],⟨by simp[me],⟨λ_=>0,by simp[me]⟩,by simp[me],λd=>by simp only[me];rw[h];omega,λd b=>by simp only[me]at b;rw[h]at b;omega⟩,?_,?_,?_,?_,λd⟨j,e,_⟩=>by simp[me]at e,λd _=>pV _ _ _ _ _⟩
 .intro j e;simp[me]at e
 .intro g b;simp[me]at b;subst b;exact k
 .intro g b;simp[me]at b;subst b;rfl
 .intro r g o b m;simp[me]at m
end
section
variable{k:Nat}{m:E}
def mh{b:List bB}{d:bB}:HK b k d<->((zK b.length d.tq/\zK b.length d.to/\d.cons.length<=3/\(0<d.cons.length->d.tq=0/\d.to=0))/\
 (∀h∈d.cons,h.length<=3/\FE b.length h)/\∀e∈b.take k,¬(d.cons.length=0/\e.cons.length=0/\e.tq=d.tq/\e.to=d.to)):=by
 constructor
 .intro l
  rcases ku d.cons.length with a|a
  .let⟨c,f,g⟩:=l.Si a
   refine⟨⟨f,g,V,λl=>V⟩,λh m=>?_,λe i j=>c e i j.2⟩
   rw[List.length_eq_zero_iff.1 a]at m;cases m
  .let⟨c,f,g,h⟩:=l.jm a
   exact⟨⟨by unfold zK;omega,by unfold zK;omega,c,λ_=>⟨f,g⟩⟩,h,λe i j=>V⟩
 .rintro⟨⟨c,f,g,h⟩,l,m⟩
  exact⟨λa=>⟨g,(h a).1,(h a).2,l⟩,λa=>⟨λe i j=>m e i ⟨a,j⟩,c,f⟩⟩
def Ej{br:O}{c:List bB}(hd:cz m br c):dy cp 181 [O.v br] m (dV c):=by
 apply yL;simp -zeta only[aD,aC];have v:=hd.len;have an:=hd.cap;refine dit (λaa=>?_) λaa=>?_
 .exact bX (λa=>oh a.len) (J.aA _)
 refine dW (n:=c.length) V (λk f=>J m f/\∀(j:Nat)(d:bB),j<k->c[j]? =some d->HK c j d) ⟨J.aA _,aN⟩ ?_;rintro j w al μ hj ⟨H,S⟩ ak
 refine dit (λh1=>?_) λh1=>?_
 .let⟨d,D⟩:=cL c j;let⟨A,F,g0,g1,g2⟩:=(cz.ext H hd).aF D;have ar:=F.len;refine⟨V,V,_,g0,_,g1,A,g2,?_⟩;intro m2 q;have I:J w q:=((J.aA w).aL _).ai (ad _) _ _;have G:∀r∈[w.size],r<q.size:=by simp[q,m2,ax]
  clear_value q;have K:=H.trans I;have i:∀{f:E},J q f->¬HK c j d->∃M:Bool,vb false=.bool M/\(M=true<->dV c)/\J m f:=λag af=>bX (λa=>af (a.dD j d D)) (K.trans ag);refine⟨λf=>J q f/\zK c.length d.tq/\zK c.length d.to/\d.cons.length<=3/\(0<d.cons.length->d.tq=0/\d.to=0),?_,?_⟩
  .refine(pS _ _ _).aJ (J.aA _) G λr m4 g N s=>⟨_,rfl,λe=>i s λa=>nb g e (v▸(mh.1 a).1.1),λe=>?_⟩;have p:=yb g e;refine(pS _ _ _).aJ s G λr u g t b=>⟨_,rfl,λh=>i b λa=>nb g h (v▸(mh.1 a).1.2.1),λh=>?_⟩;have x:=yb g h;rw[v]at p x;refine dit (λy=>?_) λy=>?_
   .exact i b λa=>by have:=(mh.1 a).1.2.2.1;omega
   refine dit (λz=>?_) λz=>?_
   .refine⟨λl=>?_,λl=>?_⟩
    .simp only[qA]at l;exact i b λa=>l ((mh.1 a).1.2.2.2 V).1
    simp only[iU]at l;refine⟨λo=>?_,λo=>?_⟩
    .simp only[qA]at o;exact i b λa=>o ((mh.1 a).1.2.2.2 V).2
    simp only[iU]at o;exact⟨b,p,x,V,λ_=>⟨l,o⟩⟩
   .exact⟨b,p,x,V,λl=>V⟩
  .rintro m4 ⟨W,ae⟩;have ap:=pF.ext (I.trans W) F;refine dW (n:=d.cons.length) V (λk f=>J q f/\∀A∈d.cons.take k,A.length<=3/\FE c.length A) ⟨W,aN⟩ ?_;rintro L u I2 μ2 hi ⟨l,T⟩ ah;refine dit (λN=>?_) λN=>?_
   .let⟨B,o⟩:=cL d.cons L;let⟨P,C,Q⟩:=(pF.ext (I.trans l) F).aF o;have U:=C.len;refine⟨V,V,P,Q,?_⟩;intro x y;have p:J u y:=((J.aA u).aL _).ai (ad _) _ _;have R:∀r∈[u.size,w.size],r<y.size:=by
     have:=l.lt (G w.size aN);simp[y,x,ax];omega
    clear_value y;refine dit (λs=>?_) λs=>?_
    .exact i (l.trans p) λa=>by have:=((mh.1 a).2.1 B (aq o)).1;omega
    exact(wc (C.ext p) _).aJ (J.aA _) R λr z g e t=>⟨_,rfl,λb=>i ((l.trans p).trans e) λa=>nb g b (v▸((mh.1 a).2.1 B (aq o)).2),λb=>ah V _ ⟨(l.trans p).trans e,bE o T ⟨V,v▸yb g b⟩⟩⟩
   .have ab:=dh V T;refine⟨V,V,V,?_⟩;have P:cz u (br.cut 0 j 3) (c.take j):=eV.TS (cz.ext (K.trans l) hd) V;have am:(br.cut 0 j 3).len=j:=by rw[P.len];simp;omega
    simp -zeta only[um,Int.toNat_zero];refine dW (n:=j) V (λk f=>J u f/\∀g∈c.take k,¬(d.cons.length=0/\g.cons.length=0/\g.tq=d.tq/\g.to=d.to)) ⟨J.aA _,aN⟩ ?_;rintro p x Y μ3 av ⟨C,U⟩ ai;refine dit (λs=>?_) λs=>?_
    .let⟨g,Q⟩:=cL c p;have R:(c.take j)[p]? =some g:=by rw[lT,ao V];exact Q
     let⟨Z,ac,q0,q1,q2⟩:=(cz.ext C P).aF R;have au:=ac.len;refine⟨V,V,_,q0,_,q1,Z,q2,?_⟩;intro y z;have X:J x z:=((J.aA x).aL _).ai (ad _) _ _;clear_value z;have B:¬(d.cons.length=0/\g.cons.length=0/\g.tq=d.tq/\g.to=d.to)->Y (cG ((p:Int)+1)) z/\μ3 (cG ((p:Int)+1)) z<μ3 p x:=λo=>ai V _ ⟨C.trans X,bE Q U o⟩;refine⟨λe=>?_,λe=>?_⟩
     .simp only[aG]at e;refine⟨λt=>?_,λt=>?_⟩
      .simp only[aG]at t;refine⟨λb=>?_,λb=>?_⟩
       .simp only[aG]at b;refine⟨λh=>?_,λh=>?_⟩
        .simp only[aG]at h;exact i ((l.trans C).trans X) λa=>(mh.1 a).2.2 g (aq R) ⟨V,V,b,h⟩
        .simp only[aj]at h;exact B λo=>h o.2.2.2
       .simp only[aj]at b;exact B λo=>b o.2.2.1
      .simp only[aj]at t;exact B λo=>t V
     .simp only[aj]at e;exact B λo=>e V
    .have:p=j:=V;subst this;refine ak V _ ⟨(K.trans l).trans C,λb e h a=>?_⟩
     by_cases g:b=p
     .subst g;rw[D]at a;simp at a;subst a;exact mh.2 ⟨ae,ab,U⟩
     .exact S b e V a
 .exact iY ⟨V,λL d bI=>S L d (oh (aw bI)) bI⟩ H
def OC(m:E)(b:List Ce)(p:dC):Prop:=∃a l,b=[.s a,.s l,.i p.aT]/\ap m a p.params/\ap m l p.cY
def OC.ext{m d:E}(b:J m d)(a:List Ce)(c:dC):OC m a c->OC d a c:=λ⟨f,g,e,h,i⟩=>⟨f,g,e,h.ext b,i.ext b⟩
abbrev pM(m:E)(s:O)(l:List dC):Prop:=eV m 3 (OC m) s l
def pM.ext{m b:E}(a:J m b){s:O}{l:List dC}(h:pM m s l):pM b s l:=h.mono a (OC.ext a)
def pM.aF{s:O}{l:List dC}(h:pM m s l){x:dC}(f:l[k]? =some x):
 ∃a b,ap m a x.params/\ap m b x.cY/\af m s.D (s.off+k*3)=some (O.v a)/\af m s.D (s.off+k*3+1)=some (O.v b)/\af m s.D (s.off+k*3+2)=some (vi x.aT):=by
 obtain⟨g,⟨a,b,rfl,d,e⟩,c⟩:=h.iL k x f
 exact⟨a,b,d,e,c 0 (.s a) rfl,c 1 (.s b) rfl,c 2 (.i x.aT) rfl⟩
def Gn{Y Z:O}{q:List bB}{c:List dC}(hd:cz m Y q)(P:pM m Z c):
 dy cp 130 [O.v Y,O.v Z] m (KL q c/\∀p∈c,Ec p.params p.cY):=by
 apply Aj
 simp -zeta only[aD,aC]
 have N:=hd.len
 have aA:=P.len
 refine(Ej hd).then λu m1 e f=>⟨_,rfl,λG=>bX (λa=>nb e G a.1.types) f,λG=>?_⟩
 have ht:=yb e G
 refine dit (λh2=>?_) λh2=>?_
 .exact bX (λa=>oh a.1.len) f
 refine dit (λh3=>?_) λh3=>?_
 .exact bX (λa=>oh a.1.len) f
 let⟨p0,A⟩:=cL c 0
 let⟨a0,l0,al,aB,g0,g1,g2⟩:=(pM.ext f P).aF A
 have ay:=al.len
 refine⟨V,V,a0,g0,dit (λh4=>?_) λh4=>?_⟩
 .exact bX (λa=>oh ((a.1.first p0 A).1)) f
 refine⟨V,V,_,g2,λs=>?_,λs=>?_⟩
 .simp only[qA]at s
  exact bX (λa=>s (a.1.first p0 A).2) f
 simp only[iU]at s
 refine dW (n:=c.length) V (λj U=>J m U/\∀p∈c.take j,(p.params.length<=3/\FE q.length p.params/\zK q.length p.aT)/\Ec p.params p.cY) ⟨f,aN⟩ ?_
 rintro j C au μ hj ⟨l,hn⟩ ap
 refine dit (λh6=>?_) λh6=>?_
 .let⟨p,i⟩:=cL c j
  let⟨ah,ao,M,z,q0,q1,q2⟩:=(pM.ext l P).aF i
  have az:=M.len
  have aF:=z.len
  have aE:=z.gX
  refine⟨V,V,ah,q0,ao,q1,_,q2,?_⟩
  intro m3 D
  have o:J C D:=((J.aA C).aL _).ai (ad _) _ _
  have aa:∀u∈[C.size],u<D.size:=by simp[D,m3,ax]
  clear_value D
  refine dit (λh7=>?_) λh7=>?_
  .exact bX (λa=>oh ((a.1.dD p (aq i)).1)) (l.trans o)
  refine(wc (M.ext o) _).aJ (J.aA _) aa λu m5 e h8 h9=>⟨_,rfl,λH=>bX (λa=>nb e H (N▸(a.1.dD p (aq i)).2.1)) ((l.trans o).trans h8),λH=>?_⟩
  have ac:=yb e H
  refine(pS _ _ _).aJ h9 aa λu W e av I=>⟨_,rfl,λK=>bX (λa=>nb e K (N▸(a.1.dD p (aq i)).2.2)) ((l.trans o).trans I),λK=>?_⟩
  have ab:=yb e K
  rw[N]at ac ab
  have ae:J m W:=(l.trans o).trans I
  have S:J C W:=o.trans I
  refine dW (n:=p.cY.length) V (λk U=>U=W/\∀(j:Nat)(v:Int),j<k->p.cY[j]? =some v->(∃t,0<=v/\p.params[v.toNat]? =some t/\t≠0)/\(∀E:Int,0<j->p.cY[j -1]? =some E->E<v)) ⟨rfl,aN⟩ ?_
  rintro k m7 I2 μ2 hk ⟨rfl,Q⟩ af
  have w:¬Ec p.params p.cY->∃X:Bool,vb false=.bool X/\(X=true<->KL q c/\∀p∈c,Ec p.params p.cY)/\J m m7:=λan=>bX (λa=>an (a.2 p (aq i))) ae
  refine dit (λai=>?_) λai=>?_
  .let⟨x,g⟩:=cL p.cY k
   refine⟨V,V,x,by simpa using S.af (z.aF g),dit (λak=>?_) λak=>?_⟩
   .exact w λa=>by obtain⟨⟨t,y,_⟩,_⟩:=a k x g;omega
   refine⟨λy=>?_,λy=>?_⟩
   .simp only[oK,ar]at y
    refine w λa=>?_
    obtain⟨⟨t,_,d,_⟩,_⟩:=a k x g
    have:=aw d;omega
   simp only[oK,bO]at y
   let⟨t,B⟩:=cL p.params x.toNat
   refine⟨V,V,t,by simpa using S.af (M.aF B),λd=>?_,λd=>?_⟩
   .simp only[aG]at d
    refine w λa=>?_
    obtain⟨⟨b,_,r,L⟩,_⟩:=a k x g
    rw[B]at r;simp at r;exact L (r▸d)
   simp only[aj]at d
   refine dit (λr=>?_) λr=>?_
   .have e2:cG ((k:Int) -1)=((k -1:Nat):Int):=by rw[aR V V];omega
    let⟨ag,T⟩:=cL p.cY (k -1)
    rw[e2]
    refine⟨V,V,ag,by simpa using S.af (z.aF T),dit (λL=>?_) λL=>?_⟩
    .exact w λa=>by have:=(a k x g).2 ag V T;omega
    .refine af V _ ⟨rfl,λh v am b=>?_⟩
     by_cases F:h=k
     .subst F
      rw[g]at b;simp at b;subst b
      refine⟨⟨t,V,B,d⟩,λE _ R=>?_⟩
      rw[T]at R;simp at R;subst R;omega
     .exact Q h v V b
   .refine af V _ ⟨rfl,λh v am b=>?_⟩
    by_cases F:h=k
    .subst F
     rw[g]at b;simp at b;subst b
     exact⟨⟨t,V,B,d⟩,λE L _=>V⟩
    .exact Q h v V b
  .exact ap V _ ⟨ae,bE i hn ⟨⟨V,ac,ab⟩,λh v b=>Q h v (oh (aw b)) b⟩⟩
 .have b:=dh V hn
  refine iY ⟨⟨ht,V,λp a=>(b p a).1,λp a=>?_⟩,λp a=>(b p a).2⟩ l
  rw[A]at a;simp at a;subst a
  exact⟨V,s⟩
end
section
variable{c:E}{d f a j:O}{b:cV}{i:Instr}
def Gk{H:O}(D:fC c d H b):
 aO cp 57 [.agg #[O.v d,O.v H]] c λan t=>∃T f e,an=.tuple #[.agg #[O.v T,O.v f],vb e]/\(e=true<->KL b.br b.cE/\∀H∈b.cE,Ec H.params H.cY)/\
  (e=true->T=d/\pM t f b.cE)/\J c t:=by
 apply Ai
 simp -zeta only[aD,aC]
 intro G h
 have aq:=D.cE.len
 have s1:G.size=c.size+1:=by simp[G]
 have s2:h.size=c.size+2:=by simp[h,G]
 have ab:J c h:=((J.aA c).aL _).aL _
 refine dit (λh1=>?_) λh1=>?_
 .intro g
  exact⟨_,_,_,rfl,⟨sx,λD=>oh D.1.len⟩,sx,ab.ai V _ _⟩
 intro m4 C
 have s5:C.size=c.size+3:=by simp[C,m4,ax,s2]
 have al:J c C:=(ab.aL _).ai V _ _
 have ah:cK C h.size mz [.s d,.s .nil]:=cK.ai (m:=m4) (o:=0) (r:=[.s d,.s .nil]) (cK.push h _ _)
 clear_value C
 refine dW (n:=b.cE.length) V (λM t=>J c t/\C.size<=t.size/\∃g w,cK t h.size mz [.s d,.s g]/\ig c t qv 3 g w.flatten/\gV 3 (OC c) w (b.cE.take M)/\(g≠.nil->h.size<g.D)/\g.len=M)
  ⟨al,ad _,.nil,[],ah,ig.nil _ _ _ _,by simpa using gV.nil 3 (OC c),aN,rfl⟩ ?_
 rintro M i ao μ hk ⟨l,ar,g,w,s,K,L,Q,aa⟩ am
 refine dit (λh2=>?_) λh2=>?_
 .let⟨N,Y⟩:=cL b.cE M
  let⟨a,e,ac,ha,p,y,g0,g1,g2,g3,g4⟩:=D.cE.aF Y
  refine⟨V,V,a,by simpa using l.af g0,e,by simpa using l.af g1,_,by simpa using l.af g2,_,by simpa using l.af g3,ac,by simpa using l.af g4,?_⟩
  intro S j
  have F:J i j:=((J.aA i).aL _).ai (ad _) _ _
  have s8:j.size=i.size+1:=by simp[j,S,ax]
  clear_value j
  refine⟨g,(s.ext F).cq 1,?_⟩
  intro u
  have R:J i u:=F.aL _
  have s9:u.size=i.size+2:=by simp[u,s8]
  have jD:fS u j.size 0 [.s a,.s e,.i N.aT]:=(cK.push j _ _).iL
  clear_value u
  refine ig.append (zs:=[.s .nil,.s .nil,.i 0]) (d:=[.s a,.s e,.i N.aT]) (K.ext R) (l.trans R) rfl jD (by simp[aa];omega) ?_
  intro v A h7 h8 U ap ae af
  have Z:v≠.nil->h.size<v.D:=by
   intro z;rcases af with⟨_,x⟩|⟨aj,x,_⟩|x
   .exact absurd x z
   .have:=Q aj;omega
   .omega
  have I:∀k,k<u.size->k<=h.size\/k=i.size/\(g=.nil\/g.D<i.size)->A[k]? =u[k]? :=by
   intro k q y;refine ae k q λz=>?_;have:=Q z;rcases y with y|⟨rfl,y|y⟩
   .omega
   .exact absurd y z
   .omega
  have ai:g=.nil\/g.D<i.size:=K.lt
  have W:cK A h.size mz [.s d,.s g]:=(s.ext R).congr (I _ V (Or.inl (ad _)))
  refine⟨λk q=>?_,W.fO aN,?_⟩
  .simp at q
   rcases q with rfl|rfl|rfl
   .exact I _ V (Or.inr ⟨rfl,ai⟩)
   .exact I _ V (Or.inl V)
   .exact I _ V (Or.inl V)
  intro B
  have au:B.size=A.size:=by simp[B,ax]
  have ag:cK B h.size mz [.s d,.s v]:=cK.ai (m:=A) (o:=1) (r:=[.s v]) W
  have X:∀e,e≠h.size->B[e]? =A[e]? :=λe p=>bg _ _ _ _ p
  have ak:J c B:=h8.ai V _ _
  clear_value B
  refine⟨λk q=>?_,?_⟩
  .simp at q
   rcases q with rfl|rfl|rfl<;>exact X _ V
  refine am V _ ⟨ak,V,v,w++[[.s a,.s e,.i N.aT]],ag,?_,?_,Z,by simp[U,aa]⟩
  .rw[qX]
   have P:ig c A qv 3 v (w.flatten++[[.s a,.s e,.i N.aT]].flatten):=by simpa using h7
   rcases P.lt with x|x
   .subst x;exact⟨P.len,Or.inl rfl⟩
   .refine P.congr (X _ λe2=>?_)
    by_cases E:v=.nil
    .subst E
     have:=U
     simp at this
    .have:=Z E;omega
  .rw[aV Y]
   exact L.yV rfl ⟨a,e,rfl,ha,p⟩
 .rw[bZ V]at L
  have x:pM i g b.cE:=(eV.gC K L V V).mono (J.aA _) (OC.ext l)
  refine⟨d,s.cq 0,g,s.cq 1,g,s.cq 1,?_⟩
  have u:∀e∈[G.size,c.size],e<i.size:=bG
  refine(Gn (cz.ext l D.br) x).aJ (J.aA _) u λe S p k _=>⟨_,rfl,k.dg (s.cq 0),k.dg (s.cq 1),?_⟩
  intro j
  have z:∀e,e≠G.size->j[e]? =S[e]? :=λe p=>bg _ _ _ _ p
  have F:J c j:=(l.trans k).ai V _ _
  refine⟨d,g,e,rfl,p,λ_=>⟨rfl,?_⟩,F⟩
  have q:=K.ext k
  have v:ig c j qv 3 g w.flatten:=by
   by_cases E:g=.nil
   .subst E;exact⟨q.len,Or.inl rfl⟩
   .exact q.congr (z _ (oh (Q E)))
  exact(eV.gC v L V V).mono (J.aA _) (OC.ext F)
def gR(b:cV)(i:Instr)(a:Int->Prop):Prop:=
 if i.op=0 then -999<=i.bS/\i.bS<=999
 else if i.op=6 then 0<=i.bS/\i.bS<(eU b.br).length
 else if i.op=9\/i.op=24 then 0<=i.bS/\i.bS<b.cE.length
 else if i.op=10 then 0<=i.bS/\∃q,b.cE[i.bS.toNat]? =some q/\q.cY.length=0
 else if i.op=19 then 0<=i.bS/\i.bS<3
 else if i.op=20\/i.op=22 then a i.bS
 else if i.op=21 then 0<(cB b.br i.bS).length/\i.eN.length=(cB b.br i.bS).length
 else i.bS=0
def Ig(hd:cz c d b.br)(x:dV b.br)(A:pM c f b.cE)(N:ap c a i.args)(E:ap c j i.eN)(t:Nat)(v u:Array Value)(D:GL.elem t=true)(l:Int->Prop)
 (G:∀e,J c e->dy cp t (v.toList++[vi i.bS]++u.toList) e (l i.bS)):
 dy cp 133 [.agg #[O.v d,O.v f],.agg #[vi i.op,vi i.dst,vi i.bS,vi i.cg,O.v a,O.v j],.func (.func t) v u] c (gR b i l):=by
 apply qO d f i.op i.dst i.bS i.cg a j (.func t,v,u)
 simp -zeta only[aD,aC]
 intro y r
 have e:J c r:=((J.aA c).aL _).aL _
 have w:∀z∈[y.size,c.size],z<r.size:=by simp[r,y];omega
 have Q:=A.len
 have R:=E.len
 have C:cK r y.size dZ [.i i.op,.i i.dst,.i i.bS,.i i.cg,.s a,.s j]:=cK.push _ _ _
 clear_value r
 refine⟨λk=>?_,λk=>?_⟩
 .simp only[aG]at k
  rw[show gR b i l<->-999<=i.bS/\i.bS<=999 by rw[gR,ao k]]
  refine⟨λh=>eW ?_ e,λh=>bX ?_ e⟩<;>simp at h
  .simp;omega
  .omega
 simp only[aj]at k
 refine⟨λm=>?_,λm=>?_⟩
 .simp only[aG]at m
  rw[show gR b i l<->0<=i.bS/\i.bS<(eU b.br).length by rw[gR,ae k,ao m]]
  refine⟨λh=>?_,λh=>bX ?_ e⟩<;>simp at h
  .refine(qN (cz.ext e hd) x.len (OK x)).aJ (J.aA _) w λB g _=>⟨_,rfl,g.dg (C.cq 2),eW ?_ (e.trans g)⟩
   simp;omega
  .omega
 simp only[aj]at m
 refine⟨λn=>?_,λn=>?_⟩
 .simp only[bT,aG]at n
  rw[show gR b i l<->0<=i.bS/\i.bS<b.cE.length by rw[gR,ae k,ae m,ao n]]
  refine⟨λh=>eW ?_ e,λh=>bX ?_ e⟩<;>simp at h
  .simp;omega
  .omega
 simp only[bu,aj]at n
 replace n:¬(i.op=9\/i.op=24):=V
 refine⟨λo=>?_,λo=>?_⟩
 .simp only[aG]at o
  rw[show gR b i l<->0<=i.bS/\∃q,b.cE[i.bS.toNat]? =some q/\q.cY.length=0 by rw[gR,ae k,ae m,ae n,ao o]]
  refine⟨λh=>⟨λp=>?_,λp=>?_⟩,λh=>bX ?_ e⟩<;>simp at h
  .simp at p
   let⟨q,s⟩:=cL b.cE i.bS.toNat
   let⟨I,H,P,F,K,g1,g2⟩:=(pM.ext e A).aF s
   have:=F.len
   refine⟨V,V,H,g1,eW ?_ e⟩
   simp only[aG]
   refine⟨λL=>⟨h,q,s,V⟩,λ⟨_,S,g,M⟩=>?_⟩
   rw[s]at g;simp at g;subst g;omega
  .simp at p
   exact bX (λ⟨_,q,g,_⟩=>oh (aw g)) e
  .omega
 simp only[aj]at o
 refine⟨λp=>?_,λp=>?_⟩
 .simp only[aG]at p
  rw[show gR b i l<->0<=i.bS/\i.bS<3 by rw[gR,ae k,ae m,ae n,ae o,ao p]]
  refine⟨λh=>eW ?_ e,λh=>bX ?_ e⟩<;>simp at h
  .simp;omega
  .omega
 simp only[aj]at p
 refine⟨λq=>?_,λq=>?_⟩
 .simp only[bT,aG]at q
  rw[show gR b i l<->l i.bS by rw[gR,ae k,ae m,ae n,ae o,ae p,ao q]]
  exact⟨t,rfl,D,(G r e).aJ (J.aA _) w λz B s g _=>⟨_,rfl,eW s (e.trans g)⟩⟩
 simp only[bu,aj]at q
 replace q:¬(i.op=20\/i.op=22):=V
 refine⟨λs=>?_,λs=>?_⟩
 .simp only[aG]at s
  rw[show gR b i l<->0<(cB b.br i.bS).length/\i.eN.length=(cB b.br i.bS).length by rw[gR,ae k,ae m,ae n,ae o,ae p,ae q,ao s]]
  refine(tE (cz.ext e hd) x _).aJ (J.aA _) w ?_
  rintro _ B ⟨H,rfl,F,g⟩
  have:=F.len
  refine⟨g,_,rfl,λh=>eW ?_ (e.trans g),λh=>bX ?_ (e.trans g)⟩<;>simp at h
  .simp only[aG];omega
  .omega
 .simp only[aj]at s
  rw[show gR b i l<->i.bS=0 by rw[gR,ae k,ae m,ae n,ae o,ae p,ae q,ae s]]
  exact eW aN e
def il(b:cV)(i:Instr)(c a:Int):Prop:=
 if i.op=0\/i.op=22 then c=0/\a=0
 else if i.op=1\/i.op=2\/i.op=3\/i.op=4\/i.op=11 then c=2/\a=2
 else if i.op=6 then c=(cJ b.br i.bS).length/\a=(cJ b.br i.bS).length
 else if i.op=9\/i.op=24 then∃q,b.cE[i.bS.toNat]? =some q/\c=q.params.length/\a=q.params.length
 else if i.op=10 then∃q,b.cE[i.bS.toNat]? =some q/\c=(q.params.length:Int) -1/\a=(q.params.length:Int) -1
 else if i.op=16\/i.op=17 then c=1/\a=4
 else c=1/\a=1
def Lt(hd:cz c d b.br)(A:dV b.br)(x:pM c f b.cE){H:Int->Prop}(t:gR b i H):
 aO cp 134 [.agg #[O.v d,O.v f],.agg #[vi i.op,vi i.dst,vi i.bS,vi i.cg,O.v a,O.v j]] c λK I=>∃B z:Int,K=.tuple #[vi B,vi z]/\il b i B z/\J c I:=by
 apply sA
 simp -zeta only[aD,aC]
 intro C u
 have g:J c u:=((J.aA c).aL _).aL _
 have E:∀D∈[C.size,c.size],D<u.size:=by simp[u,C];omega
 have M:=x.len
 clear_value u
 refine⟨λh=>?_,λh=>?_⟩
 .simp only[bT,aG]at h
  exact⟨_,_,rfl,by rw[il,ao h];exact⟨rfl,rfl⟩,g⟩
 simp only[bu,aj]at h
 have l:¬(i.op=0\/i.op=22):=V
 refine⟨λq=>?_,λq=>?_⟩
 .simp only[bT,aG]at q
  exact⟨_,_,rfl,by rw[il,ae l,ao q];exact⟨rfl,rfl⟩,g⟩
 simp only[bu,aj]at q
 have n:¬(i.op=1\/i.op=2\/i.op=3\/i.op=4\/i.op=11):=V
 refine⟨λe=>?_,λe=>?_⟩
 .simp only[aG]at e
  rw[gR,ae h.1,ao e]at t
  have m:=rE A b.br.length
  rw[nk _ _ (ad _)]at m
  refine(Ia (cz.ext g hd) A _ V).aJ (J.aA _) E ?_
  rintro _ p ⟨s,rfl,o,k⟩
  have:=o.len
  exact⟨k,_,rfl,_,_,rfl,by rw[il,ae l,ae n,ao e];omega,g.trans k⟩
 simp only[aj]at e
 refine⟨λo=>?_,λo=>?_⟩
 .simp only[bT,aG]at o
  rw[gR,ae h.1,ae e,ao o]at t
  let⟨v,m⟩:=cL b.cE i.bS.toNat
  let⟨p,G,s,F,w,g1,g2⟩:=(pM.ext g x).aF m
  have:=s.len
  exact⟨V,V,p,w,_,_,rfl,by rw[il,ae l,ae n,ae e,ao o];exact⟨v,m,V,V⟩,g⟩
 simp only[bu,aj]at o
 have r:¬(i.op=9\/i.op=24):=V
 refine⟨λk=>?_,λk=>?_⟩
 .simp only[aG]at k
  rw[gR,ae h.1,ae e,ae r,ao k]at t
  obtain⟨L,v,m,_⟩:=t
  let⟨p,G,s,F,w,g1,g2⟩:=(pM.ext g x).aF m
  have:=s.len
  have:=s.gX
  have:=aw m
  have y:cG ((p.len:Int) -1)=(v.params.length:Int) -1:=by rw[aR V V];omega
  exact⟨V,V,p,w,_,_,rfl,by rw[il,ae l,ae n,ae e,ae r,ao k];exact⟨v,m,y,y⟩,g⟩
 simp only[aj]at k
 refine⟨λm=>?_,λm=>?_⟩
 .simp only[bT,aG]at m
  exact⟨_,_,rfl,by rw[il,ae l,ae n,ae e,ae r,ae k,ao m];exact⟨rfl,rfl⟩,g⟩
 .simp only[bu,aj]at m
  have p:¬(i.op=16\/i.op=17):=V
  exact⟨_,_,rfl,by rw[il,ae l,ae n,ae e,ae r,ae k,ae p];exact⟨rfl,rfl⟩,g⟩
end
section
variable{m:E}{x k:Int}{a b1:Nat}{c:O}
def yr(b:af m a 0=some (vi k))(d:af m b1 4=some (O.v c)):
 dy cp 131 [vi x,vp a 0,vp b1 0] m (k+1<=x/\x<=(c.len:Int) -1):=by
 apply oR (a,0) (b1,0)
 refine⟨k,b,λh=>⟨c,d,eW ?_ (J.aA _)⟩,λh=>bX ?_ (J.aA _)⟩<;>simp at h
 .simp;omega
 .omega
def JW{b2:Nat}(b:af m a 0=some (vi k))(d:af m b1 4=some (O.v c))
 (e:af m b2 0=some (.func (.func 131) #[] #[vp a 0,vp b1 0])):
 dy cp 132 [vi x,vp b2 0] m (¬(k+1<=x/\x<=(c.len:Int) -1)):=by
 apply oT (b2,0)
 refine⟨(.func 131,#[],#[vp a 0,vp b1 0]),e,_,rfl,rfl,?_⟩
 refine(yr b d).then λh i f g=>⟨_,rfl,eW ?_ g⟩
 rw[<-f];simp
def Jz{u:cV}{p:dC}{k:Nat}{i:Instr}(N:p.ak<=2000)(L:u.cE.length<=4)(F:∀q∈u.cE,q.params.length<=3):
 iZ u p k i<->((0<=i.op/\i.op<=24/\i.op≠7/\i.op≠8/\i.op≠12/\i.op≠13)/\(0<=i.dst/\i.dst<p.ak/\(i.dst=0\/mg i.op)/\0<=i.cg/\i.cg<=p.ak/\(i.cg=0\/i.op=6))/\
  (∀n∈i.args,0<=n/\n<p.ak)/\(i.eN.length=0\/i.op=21)/\(∀t∈i.eN,(k:Int)+1<=t/\t<=(p.dk.length:Int) -1)/\
  gR u i (λt=>(k:Int)+1<=t/\t<=(p.dk.length:Int) -1)/\∀j h,il u i j h->j<=i.args.length/\(i.args.length:Int)<=h):=by
 have M:(0<=i.dst/\i.dst<p.ak)->0<p.ak:=λw=>V
 constructor
 .intro w
  have b:=w.op
  have hd:=w.dst
  have C:∀n∈i.args,0<=n/\n<p.ak:=λn f=>by have:=w.args n f;omega
  have s:i.op≠21->∀t∈i.eN,(k:Int)+1<=t/\t<=(p.dk.length:Int) -1:=λH t I=>by
   rcases w.eN with o|o
   .exact absurd o H
   .rw[List.length_eq_zero_iff.1 o]at I;cases I
  have D:i.eN.length=0\/i.op=21:=w.eN.symm
  have G:0<=i.dst/\i.dst<p.ak:=V
  have iS:∀(_:0<=i.op/\i.op<=24/\i.op≠7/\i.op≠8/\i.op≠12/\i.op≠13)(_:0<=i.cg/\i.cg<=p.ak)(_:∀t∈i.eN,(k:Int)+1<=t/\t<=(p.dk.length:Int) -1)
   (_:gR u i (λt=>(k:Int)+1<=t/\t<=(p.dk.length:Int) -1))(_:∀j h,il u i j h->j<=i.args.length/\(i.args.length:Int)<=h),_:=
   λE B F K o=>(⟨E,⟨G.1,G.2,w.Yw,B.1,B.2,w.cg⟩,C,D,F,K,o⟩:(0<=i.op/\i.op<=24/\i.op≠7/\i.op≠8/\i.op≠12/\i.op≠13)/\(0<=i.dst/\i.dst<p.ak/\(i.dst=0\/mg i.op)/\0<=i.cg/\i.cg<=p.ak/\(i.cg=0\/i.op=6))/\
   (∀n∈i.args,0<=n/\n<p.ak)/\(i.eN.length=0\/i.op=21)/\(∀t∈i.eN,(k:Int)+1<=t/\t<=(p.dk.length:Int) -1)/\
   gR u i (λt=>(k:Int)+1<=t/\t<=(p.dk.length:Int) -1)/\∀j h,il u i j h->j<=i.args.length/\(i.args.length:Int)<=h)
  have r:i.op≠6->0<=i.cg/\i.cg<=p.ak:=λH=>by rcases w.cg with o|o<;>omega
  unfold mf at b
  by_cases c:i.op=0
  .rw[ao c]at b
   refine iS V (r V) (s V) (by rw[gR,ao c];exact b.2) (λj h f=>?_)
   rw[il,ao (Or.inl c)]at f;omega
  rw[ae c]at b
  by_cases g:i.op=1\/i.op=2\/i.op=3\/i.op=4\/i.op=11
  .rw[ao g]at b
   refine iS V (r V) (s V) ?_ (λj h f=>?_)
   .rw[gR,ae c,ae V,ae V,ae V,ae V,ae V,ae V];exact b.2
   .rw[il,ae V,ao g]at f;omega
  rw[ae g]at b
  by_cases A:i.op=5\/i.op=14\/i.op=15\/i.op=18\/i.op=23
  .rw[ao A]at b
   refine iS V (r V) (s V) ?_ (λj h f=>?_)
   .rw[gR,ae c,ae V,ae V,ae V,ae V,ae V,ae V];exact b.2
   .rw[il,ae V,ae g,ae V,ae V,ae V,ae V]at f;omega
  rw[ae A]at b
  by_cases a:i.op=6
  .rw[ao a]at b
   refine iS V b.2.2 (s V) ?_ (λj h f=>?_)
   .rw[gR,ae c,ao a];exact b.1
   .rw[il,ae V,ae g,ao a]at f;omega
  rw[ae a]at b
  by_cases d:i.op=9\/i.op=24
  .rw[ao d]at b
   let⟨q,o,x,v⟩:=b
   have:=aw x
   refine iS V (r V) (s V) ?_ (λj h f=>?_)
   .rw[gR,ae c,ae a,ao d];omega
   .rw[il,ae V,ae g,ae a,ao d]at f
    let⟨J,l,y,m⟩:=f
    rw[x]at l;simp at l;subst l;omega
  rw[ae d]at b
  by_cases e:i.op=10
  .rw[ao e]at b
   let⟨⟨q,o,x,v⟩,l⟩:=b
   have:=aw x
   refine iS V (r V) (s V) ?_ (λj h f=>?_)
   .rw[gR,ae c,ae a,ae d,ao e];exact⟨o,q,x,l q x⟩
   .rw[il,ae V,ae g,ae a,ae d,ao e]at f
    let⟨J,l,y,m⟩:=f
    rw[x]at l;simp at l;subst l;omega
  rw[ae e]at b
  by_cases l:i.op=16\/i.op=17
  .rw[ao l]at b
   refine iS V (r V) (s V) ?_ (λj h f=>?_)
   .rw[gR,ae c,ae a,ae d,ae e,ae V,ae V,ae V];exact b.2
   .rw[il,ae V,ae g,ae a,ae d,ae e,ao l]at f;omega
  rw[ae l]at b
  by_cases m:i.op=19
  .rw[ao m]at b
   refine iS V (r V) (s V) ?_ (λj h f=>?_)
   .rw[gR,ae c,ae a,ae d,ae e,ao m];omega
   .rw[il,ae V,ae g,ae a,ae d,ae e,ae l]at f;omega
  rw[ae m]at b
  by_cases z:i.op=20
  .rw[ao z]at b
   refine iS V (r V) (s V) ?_ (λj h f=>?_)
   .rw[gR,ae c,ae a,ae d,ae e,ae m,ao (Or.inl z)];exact b.2
   .rw[il,ae V,ae g,ae a,ae d,ae e,ae l]at f;omega
  rw[ae z]at b
  by_cases v:i.op=22
  .rw[ao v]at b
   refine iS V (r V) (s V) ?_ (λj h f=>?_)
   .rw[gR,ae c,ae a,ae d,ae e,ae m,ao (Or.inr v)];exact b.2
   .rw[il,ao (Or.inr v)]at f;omega
  rw[ae v]at b
  by_cases y:i.op=21
  .rw[ao y]at b
   refine iS V (r V) b.2.2.2 ?_ (λj h f=>?_)
   .rw[gR,ae c,ae a,ae d,ae e,ae m,ae V,ao y]
    have:=b.2.2.1
    exact⟨b.2.1,V⟩
   .rw[il,ae V,ae g,ae a,ae d,ae e,ae l]at f;omega
  rw[ae y]at b
  exact b.elim
 .rintro⟨E,B,C,D,s,b,h⟩
  refine⟨λn f=>oh (C n f),V,B.2.2.1,B.2.2.2.2.2,D.symm,?_⟩
  unfold mf
  by_cases c:i.op=0
  .rw[ao c]
   rw[gR,ao c]at b
   have:=h 0 0 (by rw[il,ao (Or.inl c)];exact⟨rfl,rfl⟩)
   exact⟨V,b⟩
  rw[ae c]
  by_cases g:i.op=1\/i.op=2\/i.op=3\/i.op=4\/i.op=11
  .rw[ao g]
   rw[gR,ae c,ae V,ae V,ae V,ae V,ae V,ae V]at b
   have:=h 2 2 (by rw[il,ae V,ao g];exact⟨rfl,rfl⟩)
   exact⟨V,b⟩
  rw[ae g]
  by_cases A:i.op=5\/i.op=14\/i.op=15\/i.op=18\/i.op=23
  .rw[ao A]
   rw[gR,ae c,ae V,ae V,ae V,ae V,ae V,ae V]at b
   have:=h 1 1 (by rw[il,ae V,ae g,ae V,ae V,ae V,ae V];exact⟨rfl,rfl⟩)
   exact⟨V,b⟩
  rw[ae A]
  by_cases a:i.op=6
  .rw[ao a]
   rw[gR,ae c,ao a]at b
   have:=h _ _ (by rw[il,ae V,ae g,ao a];exact⟨rfl,rfl⟩)
   exact⟨b,V,V⟩
  rw[ae a]
  by_cases d:i.op=9\/i.op=24
  .rw[ao d]
   rw[gR,ae c,ae a,ao d]at b
   let⟨q,j⟩:=cL u.cE i.bS.toNat
   have:=h _ _ (by rw[il,ae V,ae g,ae a,ao d];exact⟨q,j,rfl,rfl⟩)
   exact⟨q,b.1,j,V⟩
  rw[ae d]
  by_cases e:i.op=10
  .rw[ao e]
   rw[gR,ae c,ae a,ae d,ao e]at b
   let⟨o,q,j,x⟩:=b
   have:=h _ _ (by rw[il,ae V,ae g,ae a,ae d,ao e];exact⟨q,j,rfl,rfl⟩)
   refine⟨⟨q,o,j,V⟩,λJ r=>?_⟩
   rw[j]at r;simp at r;subst r;exact x
  rw[ae e]
  by_cases l:i.op=16\/i.op=17
  .rw[ao l]
   rw[gR,ae c,ae a,ae d,ae e,ae V,ae V,ae V]at b
   have:=h 1 4 (by rw[il,ae V,ae g,ae a,ae d,ae e,ao l];exact⟨rfl,rfl⟩)
   exact⟨V,b⟩
  have j:i.op≠22->∀(c:¬i.op=0)(g:¬(i.op=1\/i.op=2\/i.op=3\/i.op=4\/i.op=11))(a:¬i.op=6)(d:¬(i.op=9\/i.op=24))(e:¬i.op=10)(l:¬(i.op=16\/i.op=17)),i.args.length=1:=λo c g a d e l=>by
   have:=h 1 1 (by rw[il,ae V,ae g,ae a,ae d,ae e,ae l];exact⟨rfl,rfl⟩);omega
  rw[ae l]
  by_cases m:i.op=19
  .rw[ao m]
   rw[gR,ae c,ae a,ae d,ae e,ao m]at b
   exact⟨j V c g a d e l,V,V⟩
  rw[ae m]
  by_cases z:i.op=20
  .rw[ao z]
   rw[gR,ae c,ae a,ae d,ae e,ae m,ao (Or.inl z)]at b
   exact⟨j V c g a d e l,b⟩
  rw[ae z]
  by_cases v:i.op=22
  .rw[ao v]
   rw[gR,ae c,ae a,ae d,ae e,ae m,ao (Or.inr v)]at b
   have:=h 0 0 (by rw[il,ao (Or.inr v)];exact⟨rfl,rfl⟩)
   exact⟨V,b⟩
  rw[ae v]
  by_cases y:i.op=21
  .rw[ao y]
   rw[gR,ae c,ae a,ae d,ae e,ae m,ae V,ao y]at b
   exact⟨j V c g a d e l,b.1,V,s⟩
  rw[ae y]
  omega
end
section
variable{b:E}{d:O}{c:cV}
def Eo{W ah aw Q:O}(hd:cz b d c.br)(ht:dV c.br)(hf:pM b W c.cE)(aI:c.cE.length<=4)(h3:∀q∈c.cE,q.params.length<=3)
 {q:dC}(hc:ft b Q q.dk)(hr:q.ak<=2000){l:Nat}{e:Instr}{K P:O}(X:ap b K e.args)(hj:ap b P e.eN):
 dy cp 58 [.agg #[O.v d,O.v W],.agg #[O.v ah,O.v aw,vi q.aT,vi q.ak,O.v Q],vi l,.agg #[vi e.op,vi e.dst,vi e.bS,vi e.cg,O.v K,O.v P]] b (iZ c q l e):=by
 apply pT
 simp -zeta only[aD,aC]
 intro B A E w
 have s1:B.size=b.size+1:=by simp[B]
 have s2:A.size=b.size+2:=by simp[A,s1]
 have s3:E.size=b.size+3:=by simp[E,s2]
 have s4:w.size=b.size+4:=by simp[w,s3]
 have z:J b w:=((((J.aA b).aL _).aL _).aL _).aL _
 have am:cK w A.size aB [.i l]:=(cK.push A _ _).ext (J.push _ _)
 have an:cK w B.size jI [.s ah,.s aw,.i q.aT,.i q.ak,.s Q]:=(cK.push B _ _).ext ((J.push A _).aL _)
 have u:=Jz (u:=c) (p:=q) (k:=l) (i:=e) hr aI h3
 have aE:=hc.len
 have aR:=X.len
 have aS:=hj.len
 clear_value w
 clear_value E
 clear_value A
 clear_value B
 refine⟨λh=>bX (λf=>?_) z,λc0=>⟨λh=>bX (λf=>?_) z,λc1=>⟨λh=>bX (λf=>?_) z,λc2=>⟨λh=>bX (λf=>?_) z,λc3=>⟨λh=>bX (λf=>?_) z,λc4=>⟨λh=>bX (λf=>?_) z,λc5=>?_⟩⟩⟩⟩⟩⟩
 any_goals (have:=(u.1 f).1;simp at h;omega)
 simp at c0 c1 c2 c3 c4 c5
 have f1:0<=e.op/\e.op<=24/\e.op≠7/\e.op≠8/\e.op≠12/\e.op≠13:=V
 refine⟨λx=>J w x/\(0<=e.dst/\e.dst<q.ak/\(e.dst=0\/mg e.op)/\0<=e.cg/\e.cg<=q.ak/\(e.cg=0\/e.op=6)),?_,?_⟩
 .refine⟨λh=>bX (λf=>?_) z,λG=>⟨λh=>bX (λf=>?_) z,λI=>?_⟩⟩
  .have:=(u.1 f).2.1;simp at h;omega
  .have:=(u.1 f).2.1;simp at h;omega
  simp at G I
  have tail:∀x,J w x->(e.dst=0\/mg e.op)->((decide (e.cg<(0:Int)))=true->∃g:Bool,Value.bool false=.bool g/\(g=true<->iZ c q l e)/\J b x)/\((decide (e.cg<(0:Int)))=false->
   ((decide (e.cg>q.ak))=true->∃g:Bool,Value.bool false=.bool g/\(g=true<->iZ c q l e)/\J b x)/\((decide (e.cg>q.ak))=false->
   ((e.cg !=(0:Int))=true->((e.op !=(6:Int))=true->∃g:Bool,Value.bool false=.bool g/\(g=true<->iZ c q l e)/\J b x)/\((e.op !=(6:Int))=false->J w x/\(0<=e.dst/\e.dst<q.ak/\(e.dst=0\/mg e.op)/\0<=e.cg/\e.cg<=q.ak/\(e.cg=0\/e.op=6))))/\
   ((e.cg !=(0:Int))=false->J w x/\(0<=e.dst/\e.dst<q.ak/\(e.dst=0\/mg e.op)/\0<=e.cg/\e.cg<=q.ak/\(e.cg=0\/e.op=6))))):=by
   intro x H N
   have L:=z.trans H
   refine⟨λh=>bX (λf=>?_) L,λC=>⟨λh=>bX (λf=>?_) L,λF=>⟨λt=>⟨λh=>bX (λf=>?_) L,λM=>⟨H,?_⟩⟩,λt=>⟨H,?_⟩⟩⟩⟩
   .have:=(u.1 f).2.1;simp at h;omega
   .have:=(u.1 f).2.1;simp at h;omega
   .have:=(u.1 f).2.1.2.2.2.2.2;simp at h t;omega
   .simp at C F M;exact⟨G,I,N,C,F,Or.inr M⟩
   .simp at C F t;exact⟨G,I,N,C,F,Or.inl t⟩
  refine⟨λh=>?_,λh=>tail w (J.aA _) (Or.inl (by simpa using h))⟩
  refine(rJ e.op w ⟨V,V⟩).aJ (J.aA _) bG λv x D H _=>⟨v,rfl,λy=>bX (λf=>?_) (z.trans H),λy=>tail x H (Or.inr (yb D y))⟩
  have:=(u.1 f).2.1.2.2.1
  simp at h
  rcases this with s|s
  .exact h s
  .exact nb D y s
 .rintro x ⟨H,f2⟩
  refine dW (n:=e.args.length) (oh X.gX) (λae R=>J w R/\∀G∈e.args.take ae,0<=G/\G<q.ak) ⟨H,aN⟩ ?_
  rintro ae I aQ μ hn ⟨y,aj⟩ aM
  have aa:=z.trans y
  refine dit (λh=>?_) λh=>?_
  .let⟨G,t⟩:=cL e.args ae
   refine⟨V,V,G,by simpa using(X.ext aa).aF t,λs=>bX (λf=>?_) aa,λs=>⟨λC=>bX (λf=>?_) aa,λC=>aM V _ ⟨y,bE t aj ?_⟩⟩⟩
   .have:=(u.1 f).2.2.1 G (aq t);simp at s;omega
   .have:=(u.1 f).2.2.1 G (aq t);simp at C;omega
   .simp at s C;omega
  .have ay:∀G∈e.args,0<=G/\G<q.ak:=dh V aj
   intro m7 F
   have s8:F.size=I.size+1:=by simp[F,m7,ax]
   have C:J I F:=((J.aA I).aL _).ai (ad _) _ _
   have ac:=aa.trans C
   have al:af F I.size 0=some (.func (.func 131) #[] #[vp A.size 0,vp B.size 0]):=
    (cK.ai (m:=m7) (o:=0) (r:=[.fn (.func 131) #[] #[vp A.size 0,vp B.size 0]]) (cK.push I _ _)).cq 0
   have aT:=y.size
   clear_value F
   have aK:∀N,J F N->∀t,dy cp 131 [vi t,vp A.size 0,vp B.size 0] N ((l:Int)+1<=t/\t<=(q.dk.length:Int) -1):=λN s t=>by
    rw[<-aE];exact yr (am.ext (y.trans (C.trans s))|>.cq 0) (an.ext (y.trans (C.trans s))|>.cq 4)
   have jV:(e.eN.length=0\/e.op=21)->aO cp 61 [O.v P,.func (.func 132) #[] #[vp I.size 0]] F λaP U=>
    eF [E.size,b.size] F U/\∃ag:Bool,aP=vb ag/\(ag=true->∃g:Bool,Value.bool false=.bool g/\(g=true<->iZ c q l e)/\J b U)/\
    (ag=false->∃L:Fn×Array Value×Array Value,af U I.size 0=some (.func L.1 L.2.1 L.2.2)/\
    aO cp 133 [.agg #[O.v d,O.v W],.agg #[vi e.op,vi e.dst,vi e.bS,vi e.cg,O.v K,O.v P],.func L.1 L.2.1 L.2.2] U λab M=>
    eF [E.size,b.size] U M/\∃T:Bool,ab=vb T/\((!T)=true->∃g:Bool,Value.bool false=.bool g/\(g=true<->iZ c q l e)/\J b M)/\
    ((!T)=false->aO cp 134 [.agg #[O.v d,O.v W],.agg #[vi e.op,vi e.dst,vi e.bS,vi e.cg,O.v K,O.v P]] M λai S=>
    eF [E.size,b.size] M S/\∃Y:Int,∃Z:Int,ai=.tuple #[vi Y,vi Z]/\
    ((decide ((K.len:Int)>=Y))=true->∃g:Bool,Value.bool (decide ((K.len:Int)<=Z))=.bool g/\(g=true<->iZ c q l e)/\J b S)/\
    ((decide ((K.len:Int)>=Y))=false->∃g:Bool,Value.bool false=.bool g/\(g=true<->iZ c q l e)/\J b S))):=by
    intro aF
    have hl:∀v∈[E.size,b.size],v<F.size:=bG
    refine(ji (hj.ext ac) 132 #[] #[vp I.size 0] bn (λt=>¬((l:Int)+1<=t/\t<=(Q.len:Int) -1)) (λt _ N s=>JW (am.ext (y.trans (C.trans s))|>.cq 0) (an.ext (y.trans (C.trans s))|>.cq 4) (s.af al))).aJ (J.aA _) hl ?_
    intro v N D s _
    have M:=ac.trans s
    refine⟨v,rfl,λaA=>bX (λf=>?_) M,λaz=>?_⟩
    .let⟨t,ab,g⟩:=D.1 aA
     have:=(u.1 f).2.2.2.2.1 t ab
     exact g V
    have aG:∀t∈e.eN,(l:Int)+1<=t/\t<=(q.dk.length:Int) -1:=λt ab=>by
     rcases dT ((l:Int)+1<=t/\t<=(Q.len:Int) -1)with h|h
     .omega
     .exact absurd (D.2 ⟨t,ab,h⟩) (by simp[az])
    refine⟨(.func 131,#[],#[vp A.size 0,vp B.size 0]),s.af al,?_⟩
    have ao:∀v∈[E.size,b.size],v<N.size:=λv D=>s.lt (hl v D)
    refine(Ig (cz.ext M hd) ht (pM.ext M hf) (X.ext M) (hj.ext M) 131 #[] #[vp A.size 0,vp B.size 0] bn (λt=>(l:Int)+1<=t/\t<=(q.dk.length:Int) -1) (λR g=>by simpa using aK R (s.trans g) e.bS)).aJ (J.aA _) ao ?_
    intro b2 aL ak L _
    have Z:=M.trans L
    refine⟨b2,rfl,λh=>bX (λf=>nb ak h (u.1 f).2.2.2.2.2.1) Z,λh=>?_⟩
    have au:=yb ak h
    have aH:∀v∈[E.size,b.size],v<aL.size:=λv D=>L.lt (ao v D)
    refine(Lt (cz.ext Z hd) ht (pM.ext Z hf) (a:=K) (j:=P) au).aJ (J.aA _) aH ?_
    rintro _ aU ⟨lo,Y,rfl,R,ai⟩
    have av:=Z.trans ai
    have aJ:∀T S,il c e T S->T=lo/\S=Y:=λT S g=>by
     unfold il at R g;repeat' (split at R)
     all_goals simp_all
     all_goals (obtain⟨q1,e1,e2,e3⟩:=R;simp_all)
    refine⟨ai,lo,Y,rfl,λh=>eW ?_ av,λh=>bX (λf=>?_) av⟩
    .rw[u]
     simp only[ar]at h⊢
     refine⟨λg=>⟨f1,f2,ay,aF,aG,au,λT S h2=>?_⟩,λg=>?_⟩
     .obtain⟨rfl,rfl⟩:=aJ T S h2;omega
     .have:=g.2.2.2.2.2.2 lo Y R;omega
    .have:=(u.1 f).2.2.2.2.2.2 lo Y R
     simp at h;omega
   refine⟨λs=>⟨λL=>bX (λf=>?_) ac,λL=>jV (Or.inr (by simpa using L))⟩,λs=>jV (Or.inl (by simp at s;omega))⟩
   have:=(u.1 f).2.2.2.1
   simp at s L;omega
def Eh{ah:O}(v:fC b d ah c):dy cp 24 [.agg #[O.v d,O.v ah]] b (nF c):=by
 apply yJ;simp -zeta only[aD,aC];intro F;have ac:J b F:=(J.aA b).aL _;have s1:F.size=b.size+1:=by simp[F]
 clear_value F;refine(Gk (v.ext ac)).aJ (J.aA _) bG ?_;rintro _ M ⟨d',aj,ai,rfl,Y,an,H⟩;refine⟨H,d',aj,ai,rfl,?_⟩;intro m3 t;have s4:t.size=M.size+1:=by simp[t,m3,ax]
 have W:J M t:=((J.aA M).aL _).ai (ad _) _ _;have af:J b t:=(ac.trans H).trans W;have:=H.size;have aI:=v.cE.len;have aJ:=v.cE.gX;clear_value t;refine⟨λhn=>bX (λf=>nb Y hn ⟨f.ov,λq x=>(f.dD q x).cY⟩) af,λhy=>?_⟩;let⟨D,am⟩:=yb Y hy;obtain⟨rfl,hf⟩:=an (by simpa using hy);refine dW (n:=c.cE.length) V (λQ z=>J t z/\∀q∈c.cE.take Q,HP c q) ⟨J.aA _,aN⟩ ?_;rintro Q N ay μ hn ⟨A,X⟩ av
 have K:=af.trans A;refine dit (λaG=>?_) λaE=>?_
 .let⟨q,x⟩:=cL c.cE Q;let⟨R,ag,S,ha,hl,w,g0,g1,g2,g3,g4⟩:=(v.ext K).cE.aF x;refine⟨V,V,R,by simpa using g0,ag,by simpa using g1,_,by simpa using g2,_,by simpa using g3,S,by simpa using g4,?_⟩;intro m6 u;have s7:u.size=N.size+1:=by simp[u,m6,ax]
  have r:J N u:=((J.aA N).aL _).ai (ad _) _ _;have s:=K.trans r;have az:=ha.len;have aA:=w.len;have aB:=w.gX;have o:=aq x;clear_value u;refine⟨λe=>bX (λf=>?_) s,λT=>⟨λe=>bX (λf=>?_) s,λe2=>⟨λe=>bX (λf=>?_) s,λe3=>⟨λe=>bX (λf=>?_) s,λe4=>?_⟩⟩⟩⟩
  .have:=(f.dD q o).ak;simp at e;split at e<;>omega
  .have:=(f.dD q o).ak;simp at e;omega
  .have:=(f.dD q o).len;simp at e;omega
  .have:=(f.dD q o).len;simp at e;omega
  have ab:(q.params.length:Int)<=q.ak/\1<=q.ak/\q.ak<=2000:=by
   simp at T e2;split at T<;>omega
  have al:1<=q.dk.length/\q.dk.length<=2000:=by simp at e3 e4;omega
  let⟨E,I⟩:=cL q.dk (q.dk.length -1);obtain⟨a0,j0,_,_,L,_⟩:=(ft.ext r w).aF I;refine⟨λz=>J u z/\(E.op=23\/E.op=24),?_,?_⟩
  .have e:cG ((S.len:Int) -1)=((q.dk.length -1:Nat):Int):=by rw[aR V V];omega
   rw[e];refine⟨V,V,E.op,by simpa using L,λg=>⟨λh=>bX (λf=>?_) s,λh=>⟨J.aA _,Or.inr (by simpa using h)⟩⟩,λg=>⟨J.aA _,Or.inl (by simpa using g)⟩⟩;have:=(f.dD q o).Ng E I;simp at g h;omega
  .rintro m8 ⟨h8,ak⟩;refine dW (n:=q.dk.length) V (λy z=>J u z/\∀(j:Nat)(h:Instr),j<y->q.dk[j]? =some h->iZ c q j h) ⟨h8,λj h C=>V⟩ ?_;rintro y P I2 μ2 hk ⟨m,aa⟩ au;refine dit (λaH=>?_) λaF=>?_
   .let⟨h,g⟩:=cL q.dk y;let⟨xa,xj,ao,ap,L,k1,k2,k3,k4,k5⟩:=(ft.ext (r.trans m) w).aF g;refine⟨V,V,_,by simpa using L,_,by simpa using k1,_,by simpa using k2,_,by simpa using k3,xa,by simpa using k4,xj,by simpa using k5,?_⟩;intro ar G;have aL:G.size=P.size+1:=by simp[G,ar,ax]
    have p:J P G:=((J.aA P).aL _).ai (ad _) _ _;have ae:=(s.trans m).trans p;have q1:=m.size;have q2:=A.size;clear_value G;refine(Eo (ah:=R) (aw:=ag) (cz.ext ae v.br) D.types (pM.ext (W.trans (A.trans (r.trans (m.trans p)))) hf) D.len.2 (λU B=>(D.dD U B).1) (ft.ext (r.trans (m.trans p)) w) ab.2.2 (l:=y) (e:=h) (ao.ext p) (ap.ext p)).aJ (J.aA _) bG ?_;intro b' aK Z U _;refine⟨b',rfl,λe=>bX (λf=>nb Z e ((f.dD q o).dD y h g)) (ae.trans U),λe=>au V _ ⟨m.trans (p.trans U),λj i' C B=>?_⟩⟩;rcases Nat.lt_succ_iff_lt_or_eq.1 C with C|rfl
    .exact aa j i' C B
    .rw[g]at B;simp at B;subst B;exact yb Z e
   .refine av V _ ⟨A.trans (r.trans m),bE x X ⟨am q o,ab,al,λj h g=>aa j h (oh (aw g)) g,λh g=>?_⟩⟩
    rw[I]at g;simp at g;subst g;exact ak
 .exact iY ⟨D,dh V X⟩ K
end
section
variable{m:E}{s:O}{k:Nat}{γ σ:Type}
def Py(m:E)(a:List Ce)(c:bK):Prop:=∃f,a=[.i c.aQ,.i c.kE,.s f]/\ap m f c.aH
def KE(m:E)(a:List Ce)(f:aY):Prop:=∃r o h,a=[.i f.fw,.i f.pc,.i f.dst,.s r,.s o,.s h]/\ap m r f.ak/\ap m o f.aS/\ap m h f.ba
abbrev cU(m:E)(s:O)(l:List bK):Prop:=eV m 3 (Py m) s l
abbrev iK(m:E)(s:O)(l:List aY):Prop:=eV m 6 (KE m) s l
def Py.ext{m b:E}(g:J m b)(a:List Ce)(c:bK):Py m a c->Py b a c:=λ⟨f,d,e⟩=>⟨f,d,e.ext g⟩
def cU.ext{m b:E}(a:J m b){s:O}{l:List bK}(h:cU m s l):cU b s l:=h.mono a (Py.ext a)
def KE.ext{m d:E}(a:J m d)(b:List Ce)(c:aY):KE m b c->KE d b c:=λ⟨r,o,h,e,f,g,i⟩=>⟨r,o,h,e,f.ext a,g.ext a,i.ext a⟩
def iK.ext{m b:E}(a:J m b){s:O}{l:List aY}(h:iK m s l):iK b s l:=h.mono a (KE.ext a)
def cU.aF{l:List bK}(h:cU m s l){x:bK}(c:l[k]? =some x):
 ∃f,ap m f x.aH/\af m s.D (s.off+k*3)=some (vi x.aQ)/\af m s.D (s.off+k*3+1)=some (vi x.kE)/\af m s.D (s.off+k*3+2)=some (O.v f):=by
 obtain⟨d,⟨f,rfl,b⟩,a⟩:=h.iL k x c
 exact⟨f,b,a 0 (.i x.aQ) rfl,a 1 (.i x.kE) rfl,a 2 (.s f) rfl⟩
def iK.aF{l:List aY}(h:iK m s l){x:aY}(b:l[k]? =some x):
 ∃r o e,ap m r x.ak/\ap m o x.aS/\ap m e x.ba/\af m s.D (s.off+k*6)=some (vi x.fw)/\af m s.D (s.off+k*6+1)=some (vi x.pc)/\af m s.D (s.off+k*6+2)=some (vi x.dst)/\
  af m s.D (s.off+k*6+3)=some (O.v r)/\af m s.D (s.off+k*6+4)=some (O.v o)/\af m s.D (s.off+k*6+5)=some (O.v e):=by
 obtain⟨f,⟨r,o,e,rfl,d,c,a⟩,jD⟩:=h.iL k x b
 exact⟨r,o,e,d,c,a,jD 0 (.i x.fw) rfl,jD 1 (.i x.pc) rfl,jD 2 (.i x.dst) rfl,jD 3 (.s r) rfl,jD 4 (.s o) rfl,jD 5 (.s e) rfl⟩
def _root_.Go.Vc.eV.pO{l:List Int}(h:eV m 1 U6 s l){i:Int}(a:0<=i)(b:i<l.length):af m s.D (s.off+i.toNat*1)=some (vi (aF l i)):=ap.aF h (kV a b)
structure RV(m:E)(mb o:Nat)(d p aU hp fr:O)(im:cV)(s:St):Prop where
 fm:fC m d p im
 br:af m mb 0=some (O.v d)
 cE:af m mb 1=some (O.v p)
 cw:af m mb o=some (vi s.cw)
 value:af m mb (o+1)=some (vi s.value)
 bA:af m mb (o+2)=some (vi s.bA)
 dX:af m mb (o+3)=some (vi s.dX)
 aac:af m mb (o+4)=some (O.v aU)
 rG:af m mb (o+5)=some (O.v hp)
 OS:af m mb (o+6)=some (O.v fr)
 aU:ap m aU s.aU
 heap:cU m hp s.heap
 an:iK m fr s.an
def RV.ext{m f:E}{g o:Nat}{d p aU c b:O}{e:cV}{s:St}(h:RV m g o d p aU c b e s)(a:J m f):RV f g o d p aU c b e s:=
 ⟨h.fm.ext a,a.af h.br,a.af h.cE,a.af h.cw,a.af h.value,a.af h.bA,a.af h.dX,a.af h.aac,a.af h.rG,a.af h.OS,h.aU.ext a,cU.ext a h.heap,iK.ext a h.an⟩
def Xr(P:Nat->Prop):∀(n:Nat),P n->∃k,P k/\∀j,P j->k<=j:=by
 intro n;induction n using Nat.strongRecOn with
 |_ n e=>
  intro b;rcases dT (∃j,j<n/\P j)with⟨j,a,d⟩|c
  .exact e j a d
  .exact⟨n,b,λj a=>dE λh=>c ⟨j,V,a⟩⟩
def Pp{p:σ}{j:(σ->E->Prop)->(σ->E->Nat)->σ->E->Prop}(J:γ->σ->E->Prop)(ν:γ->Nat)(l:γ)(r:J l p m)
 (q:∀(g:γ)(s:σ)(a:E)(I:σ->E->Prop)(μ:σ->E->Nat),J g s a->(∀b d c,J b d c->ν b<ν g->I d c/\μ d c<μ s a)->j I μ s a):
 ∃(I:σ->E->Prop)(μ:σ->E->Nat),I p m/\∀s a,I s a->j I μ s a:=by
 classical
 let I:σ->E->Prop:=λs m=>∃g,J g s m
 have h:∀s m,I s m->∃k,(∃g,J g s m/\ν g=k)/\∀o,(∃g,J g s m/\ν g=o)->k<=o:=λs m⟨g,i⟩=>Xr _ (ν g) ⟨g,i,rfl⟩
 let μ:σ->E->Nat:=λs m=>if e:I s m then Classical.choose (h s m e)else 0
 refine⟨I,μ,⟨l,r⟩,λs a e=>?_⟩
 let⟨g,i,u⟩:=(fP (h s a e)).1
 refine q g s a I μ i λb d c f t=>⟨⟨b,f⟩,?_⟩
 have n:I d c:=⟨b,f⟩
 simp only[μ,Tn e,Tn n]
 exact nR ((fP (h d c n)).2 _ ⟨b,f,rfl⟩) (u▸t)
def Su{τ:Type}{i:σ}{j:τ}{h:(σ->τ->E->Prop)->(σ->τ->E->Nat)->σ->τ->E->Prop}(J:γ->σ->τ->E->Prop)(ν:γ->Nat)(k:γ)(n:J k i j m)
 (l:∀(g:γ)(s:σ)(t:τ)(a:E)(I:σ->τ->E->Prop)(μ:σ->τ->E->Nat),J g s t a->(∀f d e c,J f d e c->ν f<ν g->I d e c/\μ d e c<μ s t a)->h I μ s t a):
 ∃(I:σ->τ->E->Prop)(μ:σ->τ->E->Nat),I i j m/\∀s t a,I s t a->h I μ s t a:=by
 let⟨I,μ,o,p⟩:=Pp (σ:=σ×τ) (p:=(i,j)) (j:=λI μ b a=>h (λs t=>I (s,t)) (λs t=>μ (s,t)) b.1 b.2 a) (λg b m=>J g b.1 b.2 m) ν k n (λg b a I μ q r=>l g b.1 b.2 a (λs t=>I (s,t)) (λs t=>μ (s,t)) q λf d e c=>r f (d,e) c)
 exact⟨λs t=>I (s,t),λs t=>μ (s,t),o,λs t=>p (s,t)⟩
end
section
variable{m g:E}{s d p a j t o e:O}{b r:List Int}{f:Nat}{K:Value->E->Prop}{c:cV}{x:Instr}
def _root_.Go.Vc.eV.Iv(h:eV m 1 U6 s b):fS m s.D s.off (b.map Ce.i):=λi d a=>by
 rw[cN]at a;obtain⟨x,c,rfl⟩:=Option.map_eq_some_iff.1 a;have:=ap.aF h c;rw[eT]at this;exact this
def oN(f:Nat)(c:List Value)(m:E)(b:List Int):Prop:=aO cp f c m λv a=>∃s,v=O.v s/\ig m a aB 1 s (b.map Ce.i)/\J m a
def oN.then{c:List Value}(h:oN f c m b)(i:b.length<=1000000000)(e:∀s a,ig m a aB 1 s (b.map Ce.i)->ap a s b->J m a->K (O.v s) a):aO cp f c m K:=
 h.mono λ_ _⟨s,d,a,g⟩=>d▸e s _ a (ap.gC a V) g
def oN.aJ{c:List Value}{d:List Nat}(h:oN f c m b)(l:b.length<=1000000000)(i:∀a∈d,a<m.size)(k:∀s a,ig m a aB 1 s (b.map Ce.i)->ap a s b->J m a->K (O.v s) a):aO cp f c m λv a=>eF d m a/\K v a:=
 h.mono λ_ _⟨s,j,e,g⟩=>⟨g.dz i,j▸k s _ e (ap.gC e V) g⟩
def dY(w:Int)(m:E):dy cp 90 [vi w] m (1000<=w):=by
 apply Bi;exact eW aN (J.aA _)
def jq{a:O}{h:List bK}(j:cU m a h){w:Int}(C: -9223372036854775808<=w/\w<=9223372036854775807):dy cp 101 [O.v a,vi w] m (fQ h w):=by
 apply Hb;have z:=j.len;have A:=j.gX;have o:cG ((a.len:Int) -1)=(a.len:Int) -1:=aR V V;rw[o];have x:cG (w -1000)=w -1000\/(w<1000/\¬(0<=cG (w -1000)/\cG (w -1000)<=(a.len:Int) -1))\/(w<1000/\cG (w -1000)=w -1000+18446744073709551616):=by
  rcases dT (-9223372036854775808<=w -1000)with b|b
  .exact Or.inl (aR b V)
  .refine Or.inr (Or.inr ⟨V,?_⟩);simp only[cG,IntKind.wrap,IntKind.signed,IntKind.bits];simp;omega
 refine(bd _ _ _ _).then λn D i b=>⟨n,rfl,λu=>?_,λt=>?_⟩
 .refine(dY _ _).then λb2 E l g=>⟨b2,rfl,λs=>?_,λr=>bX (λc=>fb l r c.1) (b.trans g)⟩;have k:=l.1 s;have p:cG (w -1000)=w -1000:=aR V V;rw[p]at i⊢;have B:=i.1 u;let⟨e,c⟩:=cL h ((w -1000).toNat);obtain⟨f,y,q,_⟩:=(cU.ext (b.trans g) j).aF c;refine⟨V,V,e.aQ,q,eW ?_ (b.trans g)⟩;simp only[kU,ar];refine⟨λa=>⟨k,e,c,a⟩,λ⟨_,v,d,a⟩=>?_⟩;unfold ix at d;rw[c]at d;simp at d;subst d;exact a
 .refine bX (λ⟨k,e,c,_⟩=>fb i t ?_) b;have:=aw c;unfold ix at this;rw[aR V V];omega
def Mq(a:Int)(m:E):dy cp 39 [vi a] m (ns a):=by
 apply Ha;refine⟨λh=>iY ?_ (J.aA _),λh=>⟨λb=>iY ?_ (J.aA _),λb=>eW ?_ (J.aA _)⟩⟩<;>simp[ns]at* <;>omega
def LA{q:dC}(a:c.cE[x.bS.toNat]? =some q)(k:Nat):nM c x k=true<->(k:Int)∈q.cY:=by
 simp[nM,dR,a,List.any_eq_true]
def zH(c:cV)(x:Instr):Prop:=(x.op=9\/x.op=24)->0<=x.bS/\∃q,c.cE[x.bS.toNat]? =some q
def iZ.call{p:dC}{k:Nat}(h:iZ c p k x):zH c x:=λe=>by
 have a:=h.op;unfold mf at a;rw[ae V,ae V,ae V,ae V,ao e]at a;obtain⟨q,b,d,_⟩:=a;exact⟨b,q,d⟩
def sC(h:fC m d p c)(z:zH c x)(a j:O)(k:Nat):
 dy cp 93 [.agg #[O.v d,O.v p],.agg #[vi x.op,vi x.dst,vi x.bS,vi x.cg,O.v a,O.v j],vi k] m ((x.op=9\/x.op=24)/\nM c x k=true):=by
 apply EZ
 simp -zeta only[aD,aC]
 intro o b
 have n:J m b:=((J.aA m).aL _).aL _
 have A:∀f∈[o.size,m.size],f<b.size:=by simp[b,o];omega
 have L:=h.cE.len
 clear_value b
 have q:∀e:x.op=9\/x.op=24,(0:Int)<=x.bS/\x.bS<(p.len:Int)/\∃u:O,af b p.D (p.off+Int.toNat x.bS*5+1)=some (O.v u)/\
  aO cp 104 [O.v u,vi k] b λr s=>eF [o.size,m.size] b s/\∃t:Bool,r=vb t/\∃f:Bool,vb t=.bool f/\(f=true<->((x.op=9\/x.op=24)/\nM c x k=true))/\J m s:=λe=>by
  let⟨v,N,l⟩:=z e
  let⟨D,C,E,I,B,K,F,g1,g2,G,H⟩:=(h.ext n).cE.aF l
  have:=aw l
  refine⟨v,V,C,g1,(dA B _).aJ (J.aA _) A λf M y w _=>⟨f,rfl,eW ?_ (n.trans w)⟩⟩
  rw[y,LA l]
  exact⟨λh=>⟨e,h⟩,λh=>h.2⟩
 refine⟨λi=>q (Or.inl (by simpa using i)),λi=>⟨λg=>q (Or.inr (by simpa using g)),λg=>bX (λ⟨e,_⟩=>?_) n⟩⟩
 simp at i g;omega
def IF(a:Int)(m:E):dy cp 92 [vi a] m (a=6\/a=9\/a=10\/a=11):=by
 apply sK;refine⟨λh=>iY ?_ (J.aA _),λh=>⟨λb=>iY ?_ (J.aA _),λb=>⟨λc=>iY ?_ (J.aA _),λc=>eW ?_ (J.aA _)⟩⟩⟩<;>simp at* <;>omega
def jB(c:cV)(x:Instr)(n:Nat):List Int:=iP c x 0 (x.args.take n)
def vL(c:cV)(x:Instr):∀(b r:List Int)(k:Nat),iP c x k (b++r)=iP c x k b++iP c x (k+b.length) r
 |[],r,k=>by simp[iP]
 |a::b,r,k=>by
  have:=vL c x b r (k+1);simp only[df,iP,this,be];have e:k+(b.length+1)=k+1+b.length:=V;rw[e];split<;>simp
def uf(c:cV)(x:Instr):∀(b:List Int)(k:Nat),(iP c x k b).length<=b.length
 |[],k=>ad _
 |a::b,k=>by
  have:=uf c x b (k+1);simp only[iP];split<;>simp<;>omega
def Jm(c:cV)(x:Instr):(bU c x).length<=x.args.length:=by
 unfold bU;split
 .exact ad _
 split
 .simp;omega
 split
 .exact uf _ _ _ _
 .simp
def J.tQ{a c:E}(f:J g a)(h:J g c){b:List Nat}(d:∀x∈b,x<g.size):eF b a c:=λx e=>by rw[f.same x (d x e),h.same x (d x e)]
def om{v:Int}{K:O->E->Prop}(c:ig g m aB 1 s (b.map Ce.i))(h:J g m)(n:b.length<1000000000)
 (f:∀r a,ig g a aB 1 r ((b++[v]).map Ce.i)->J g a->K r a):
 jT (m.push (.cells (bz [.i v]) aB)) aB [.i (0:Int)] 8 s (O.mk m.size 0 1 1) K:=by
 have o:s.len=b.length:=by have:=c.len;simp at this;omega
 refine ig.append (zs:=[.i 0]) (d:=[.i v]) (c.ext (J.push _ _)) (h.aL _) rfl (cK.push m _ _).iL bG λr a d e i j k l=>?_
 exact f r a (by simpa using d) e
def Ku(aa:fC m d p c)(hc:zH c x)(I:ap m a x.args)(ak:x.args.length<=1000000)(ab:(x.op=16\/x.op=17)->1<=x.args.length):
 oN 41 [.agg #[O.v d,O.v p],.agg #[vi x.op,vi x.dst,vi x.bS,vi x.cg,O.v a,O.v j]] m (bU c x):=by
 apply Fl
 simp -zeta only[aD,aC]
 intro C f Q
 have B:J m f:=((J.aA m).aL _).aL _
 have s2:f.size=m.size+2:=by simp[f,C]
 have h3:J f Q:=(J.aA f).aL _
 have u:ig f Q aB 1 (.mk f.size 0 0 0) []:=ig.new (J.aA f) aB 1 [] 0 aN
 have s1:C.size=m.size+1:=by simp[C]
 have ah:=I.len
 have w:∀v∈[C.size,m.size],v<f.size:=λv t=>by simp at t;omega
 clear_value Q
 clear_value f
 have K:∀{o s b},ig f o aB 1 s b->ig m o aB 1 s b:=λu=>u.cA B.size
 refine⟨λZ o=>J f o/\ig f o aB 1 (.mk f.size 0 0 0) []/\(Z=true<->(x.op=15\/x.op=6\/x.op=10\/x.op=11\/x.op=18\/x.op=23\/x.op=9\/x.op=24)),?_,?_⟩
 .refine(IF _ _).aJ h3 w λv D t g i=>⟨v,rfl,λM=>⟨i,u.ext g,by have:=t.1 M;simp;omega⟩,λL=>?_⟩
  have h:=fb t L
  refine⟨λe=>⟨i,u.ext g,by simp at e;simp;omega⟩,λH=>⟨λe=>⟨i,u.ext g,by simp at e;simp;omega⟩,λq=>⟨λe=>⟨i,u.ext g,by simp at e;simp;omega⟩,λA=>⟨i,u.ext g,by simp at H q A;simp;omega⟩⟩⟩⟩
 .rintro Z D ⟨g,N,W⟩
  refine⟨λad=>?_,λac=>?_⟩
  .have hT:=W.1 ad
   refine eB (n:=x.args.length) V (λk s o=>J f o/\ig f o aB 1 s ((if x.op=9\/x.op=24 then jB c x k else x.args.take k).map Ce.i)) ⟨g,by simpa[jB,iP]using N⟩ ?_
   rintro k s m5 ag μ hk ⟨R,P⟩ Y
   have X:=B.trans R
   refine dit (λaj=>?_) λai=>?_
   .let⟨y,h⟩:=cL x.args k
    have U:jB c x (k+1)=jB c x k++iP c x k [y]:=by
     unfold jB;rw[aV h,vL];simp;congr 2;omega
    refine(sC (aa.ext X) hc a j k).aJ R w λv m6 t S F=>⟨v,rfl,λM=>?_,λL=>?_⟩
    .have G:=nb t M
     refine⟨V,V,y,by simpa using(I.ext (B.trans F)).aF h,?_⟩
     intro m7
     have T:(if x.op=9\/x.op=24 then jB c x k else x.args.take k).length<=k:=by
      split
      .refine bJ (uf _ _ _ _) ?_;simp;omega
      .simp;omega
     refine om (P.ext S) F V λr m8 z E=>?_
     refine⟨J.tQ (F.aL _) E w,Y V _ _ ⟨E,?_⟩⟩
     by_cases e:x.op=9\/x.op=24
     .rw[ao e]at z⊢
      rw[U]
      have:iP c x k [y]=[y]:=by
       simp only[iP];rw[ae (λw=>G ⟨e,w⟩)]
      rw[this];exact z
     .rw[ae e]at z⊢
      rw[aV h];exact z
    .have G:=yb t L
     refine Y V _ _ ⟨F,?_⟩
     have T:=P.ext S
     rw[ao G.1]at T⊢
     rw[U]
     have:iP c x k [y]=[]:=by
      simp only[iP];rw[ao G.2]
     rw[this,eg];exact T
   .refine⟨s,rfl,?_,X⟩
    have q:bU c x=if x.op=9\/x.op=24 then jB c x k else x.args.take k:=by
     have A:x.args.take k=x.args:=bZ V;unfold bU jB;rw[A];by_cases e:x.op=9\/x.op=24
     .rw[ae V,ae V,ao e,ao e]
     .rw[ao V,ae e]
    rw[q];exact K P
  .have hT:¬(x.op=15\/x.op=6\/x.op=10\/x.op=11\/x.op=18\/x.op=23\/x.op=9\/x.op=24):=λe=>by have:=W.2 e;rw[ac]at this;simp at this
   have i:=B.trans g
   have lY:∀e:x.op=16\/x.op=17,(0:Int)<=(0:Int)/\(0:Int)<(a.len:Int)/\∃F:Int,af D a.D (a.off+Int.toNat (0:Int)*1)=some (vi F)/\
    jT (D.push (.cells (bz [.i F]) 3)) 3 [.i (0:Int)] 8 (O.mk f.size 0 0 0) (O.mk D.size 0 1 1) λL k=>eF [C.size,m.size] (D.push (.cells (bz [.i F]) 3)) k/\∃s,O.v L=O.v s/\ig m k aB 1 s ((bU c x).map Ce.i)/\J m k:=λe=>by
    have M:=ab e
    let⟨y,h⟩:=cL x.args 0
    refine⟨V,V,y,by simpa using(I.ext i).aF h,om (b:=[]) N g aN λr m8 z E=>⟨J.tQ (g.aL _) E w,r,rfl,?_,B.trans E⟩⟩
    have q:bU c x=[y]:=by
     unfold bU;rw[ae V,ao e];cases G:x.args with
     |nil=>rw[G]at h;simp at h
     |cons P b=>rw[G]at h;simp at h;subst h;rfl
    rw[q];exact K z
   refine⟨λe=>lY (Or.inl (by simpa using e)),λH=>⟨λe=>lY (Or.inr (by simpa using e)),λq=>⟨_,rfl,?_,i⟩⟩⟩
   have A:bU c x=[]:=by
    simp at H q;unfold bU;rw[ae V,ae V,ae V]
   rw[A];exact K N
def gW(c:ap m s b)(l:b.length<=1000000000):oN 37 [O.v s] m b:=by
 apply nO;intro d;have a:J m d:=(J.aA m).aL _;have g:ig m d aB 1 (.mk m.size 0 0 0) []:=ig.new (J.aA m) aB 1 [] 0 aN;have f:=c.len;refine ig.append (zs:=[.i 0]) (d:=b.map Ce.i) g a (by simp[f]) (c.ext a).Iv bG λr n a e h i j k=>⟨r,rfl,by simpa using a,e⟩
def Ml(h:ap m s b)(c:ap m t r)(p:b.length+r.length<=1000000000):oN 157 [O.v s,O.v t] m (b++r):=by
 apply vd;refine(gW h V).then V λq w d e a=>⟨q,rfl,?_⟩;have i:=c.len;have o:=e.len;refine ig.append (zs:=[.i 0]) (d:=r.map Ce.i) d a (by simp[i]) (c.ext a).Iv V λu v f g j k l n=>⟨u,rfl,by simpa using f,g⟩
def mF(d:ap m s b):dy cp 99 [O.v s] m (SC b):=by
 apply EG;have g:=d.len;refine dW (n:=b.length) (g▸d.gX) (λk a=>J m a/\∀y∈b.take k,y=0) ⟨J.aA _,aN⟩ ?_;rintro k o I μ l ⟨a,f⟩ j
 refine⟨λh=>?_,λh=>iY (dh (by simp at h;omega) f) a⟩;simp only[ar]at h;let⟨x,e⟩:=cL b k;refine⟨V,V,x,by simpa using a.af (d.aF e),λc=>bX (λi=>?_) a,λc=>j V _ ⟨a,bE e f (by simpa using c)⟩⟩;have:=i x (aq e);simp at c;omega
def Bt(d:ap m s b):dy cp 94 [O.v s] m (∀o∈b,0<=o):=by
 apply wT;have g:=d.len;refine dW (n:=b.length) (g▸d.gX) (λk a=>J m a/\∀y∈b.take k,0<=y) ⟨J.aA _,aN⟩ ?_;rintro k p I μ l ⟨a,f⟩ j
 refine⟨λh=>?_,λh=>iY (dh (by simp at h;omega) f) a⟩;simp only[ar]at h;let⟨x,e⟩:=cL b k;refine⟨V,V,x,by simpa using a.af (d.aF e),λc=>bX (λi=>?_) a,λc=>j V _ ⟨a,bE e f (by simpa using c)⟩⟩;have:=i x (aq e);simp at c;omega
def qU(f:ap m s b)(j:ap m t r):dy cp 152 [O.v s,O.v t] m (b=r):=by
 apply Dr;have l:=f.len;have q:=j.len;refine⟨λh=>bX (λe=>by subst e;simp at h;omega) (J.aA _),λh=>?_⟩;simp at h;refine dW (n:=b.length) (l▸f.gX) (λk a=>J m a/\b.take k=r.take k) ⟨J.aA _,aN⟩ ?_;rintro k u I μ p ⟨c,i⟩ o
 refine⟨λh=>?_,λh=>iY (by simp at h;rwa[bZ V,bZ V]at i) c⟩;simp only[ar]at h;let⟨x,g⟩:=cL b k;let⟨y,d⟩:=cL r k;refine⟨V,V,x,by simpa using c.af (f.aF g),V,V,y,by simpa using c.af (j.aF d),λa=>bX (λe=>?_) c,λa=>o V _ ⟨c,?_⟩⟩
 .subst e;rw[g]at d;simp at d;simp at a;exact a d
 .rw[aV g,aV d,i];simp at a;rw[a]
abbrev fv(f:aY)(r o h:O):Value:=.agg #[vi f.fw,vi f.pc,vi f.dst,O.v r,O.v o,O.v h]
abbrev xv(x:Instr)(a j:O):Value:=.agg #[vi x.op,vi x.dst,vi x.bS,vi x.cg,O.v a,O.v j]
def EF{f:aY}{r:O}(t:ap m r f.ak)(g:ap m a x.args)(C:∀y∈x.args,0<=y/\y<f.ak.length):
 dy cp 96 [fv f r o e,xv x a j] m (∀y∈x.args,aF f.ak y<1000):=by
 apply yX
 simp -zeta only[aD,aC]
 intro w b
 have v:J m b:=((J.aA m).aL _).aL _
 have D:∀d∈[w.size,m.size],d<b.size:=by simp[b,w];omega
 have z:=g.len
 have K:=t.len
 clear_value b
 refine dW (n:=x.args.length) (z▸g.gX) (λl c=>J b c/\∀y∈x.args.take l,aF f.ak y<1000) ⟨J.aA _,aN⟩ ?_
 rintro l L I μ H ⟨u,s⟩ F
 have i:=v.trans u
 refine⟨λh=>?_,λh=>iY (dh (by simp at h;omega) s) i⟩
 simp only[ar]at h
 let⟨y,c⟩:=cL x.args l
 have k:=C y (aq c)
 refine⟨V,V,y,by simpa using i.af (g.aF c),k.1,V,aF f.ak y,by simpa using i.af (t.pO k.1 k.2),?_⟩
 refine(dY _ _).aJ u D λd M q G p=>⟨d,rfl,λB=>bX (λE=>?_) (v.trans p),λA=>F V _ ⟨p,bE c s ?_⟩⟩
 .have:=E y (aq c);have:=q.1 B;omega
 .have:=fb q A;omega
def pw(b r:List Int):lx (b++r)=lx b++lx r:=by simp[lx]
def ou(b:List Int):(lx b).length<=b.length:=List.length_filter_le _ _
def oW(f:ap m s b)(A:b.length<=100000000):oN 151 [O.v s] m (lx b):=by
 apply zj;intro g;have p:J m g:=(J.aA m).aL _;have u:ig m g aB 1 (.mk m.size 0 0 0) []:=ig.new (J.aA m) aB 1 [] 0 aN;have z:=f.len;clear_value g;refine eB (n:=b.length) V (λk s a=>J m a/\ig m a aB 1 s ((lx (b.take k)).map Ce.i)) ⟨p,by simpa[lx]using u⟩ ?_;rintro k s B I μ y ⟨d,c⟩ j
 refine dit (λo=>?_) λo=>?_
 .let⟨x,e⟩:=cL b k;refine⟨V,V,x,by simpa using d.af (f.aF e),?_⟩;refine(dY _ _).then λl C h a=>⟨l,rfl,λt=>?_,λq=>?_⟩
  .have i:=d.trans a;refine⟨V,V,x,by simpa using i.af (f.aF e),?_⟩;intro D;refine om (c.ext a) i (by have:=ou (b.take k);simp at this;omega) λr E v w=>j V _ _ ⟨w,?_⟩
   rw[aV e,pw];have:lx [x]=[x]:=by simp[lx,h.1 t]
   rw[this];exact v
  .refine j V _ _ ⟨d.trans a,?_⟩
   rw[aV e,pw];have:lx [x]=[]:=by simp[lx];have:=fb h q;omega
   rw[this,eg];exact c.ext a
 .rw[bZ V]at c;exact⟨s,rfl,c,d⟩
def sF{f:aY}{r:O}(l:ap m r f.ak)(p:ap m s b)(x:∀y∈b,0<=y/\y<f.ak.length)(G:b.length<=100000000):
 oN 153 [fv f r o e,O.v s] m (cQ f b):=by
 apply Fw
 simp -zeta only[aD,aC]
 intro a j
 have q:J m a:=(J.aA m).aL _
 have w:J a j:=(J.aA a).aL _
 have A:ig a j aB 1 (.mk a.size 0 0 0) []:=ig.new (J.aA a) aB 1 [] 0 aN
 have z:∀u∈[m.size],u<a.size:=by simp[a]
 have F:=p.len
 have E:=l.len
 clear_value j
 clear_value a
 refine eB (n:=b.length) V (λk s c=>J a c/\ig a c aB 1 s ((cQ f (b.take k)).map Ce.i)) ⟨w,by simpa[cQ]using A⟩ ?_
 rintro k s H I μ D ⟨d,c⟩ B
 have g:=q.trans d
 refine dit (λv=>?_) λv=>?_
 .let⟨y,h⟩:=cL b k
  have i:=x y (aq h)
  refine⟨V,V,y,by simpa using g.af (p.aF h),i.1,V,aF f.ak y,by simpa using g.af (l.pO i.1 i.2),?_⟩
  intro K
  refine om c d (by simp[cQ];omega) λM L C t=>⟨J.tQ (d.aL _) t z,B V _ _ ⟨t,?_⟩⟩
  rw[aV h]
  simpa[cQ]using C
 .rw[bZ V]at c
  exact⟨s,rfl,c.cA q.size,g⟩
end
section
variable{g:E}{b:aY}{t v d p h u j:O}{s:St}{c:List Int}{q:Nat}{k:cV}{w:Int}{e:Nat->Int}{x:Instr}
def I8{e:O}(Q:ap g t b.ak)(ho:ap g v b.aS){s:O}(D:ap g s c)(ad:∀y∈c,0<=y/\y<b.ak.length)(am:b.ak.length=b.aS.length)(ay:b.aS.length<=1000000)(aw:c.length<=1000000)
 (M:∀w∈b.aS,-1000000000<=w/\w<=1000000000):oN 40 [fv b t v e,O.v s] g (bC b.ak b.aS c):=by
 apply Dl
 simp -zeta only[aD,aC]
 intro p
 have E:J g p:=(J.aA g).aL _
 have H:∀G∈[g.size],G<p.size:=by simp[p]
 have ax:=D.len
 have av:=Q.len
 clear_value p
 refine(gW (ho.ext E) V).aJ V H λx m2 o2 i2 Y=>⟨x,rfl,?_⟩
 have P:=i2.len
 have kY:∀(d F aS:List Int),bC b.ak aS (d++F)=bC b.ak (bC b.ak aS d) F:=by
  intro d;induction d with
  |nil=>intro F aS;rfl
  |cons y d k=>intro F aS;simp only[df,bC,k]
 have lo:∀(d aS:List Int)(A:Int),(∀w∈aS,A<=w)->∀w∈bC b.ak aS d,A -d.length<=w:=by
  intro d;induction d with
  |nil=>intro aS A h w q;have:=h w q;simp;omega
  |cons y d k=>
   intro aS A h w q;simp only[bC]at q;have:=k _ (A -1) (λu j=>by
    split at j
    .rcases dT (y.toNat<aS.length)with B|B
     .rcases pU j with j|j
      .have:=h _ (gJ (i:=y.toNat) (a:=aF aS y) (by obtain⟨C,z⟩:=dG B;rw[HU z];exact z));omega
      .have:=h u j;omega
     .have z:gA aS y (aF aS y -1)=aS:=by unfold gA;rw[rX V]
      rw[z]at j;have:=h u j;omega
    .have:=h u j;omega) w q
   simp only[be];omega
 refine dW (n:=c.length) V (λk j=>J p j/\ig p j aB 1 x ((bC b.ak b.aS (c.take k)).map Ce.i)) ⟨Y,o2⟩ ?_
 rintro k m3 aj μ hk ⟨R,C⟩ U
 have K:=E.trans R
 refine dit (λh=>?_) λh=>?_
 .let⟨y,u⟩:=cL c k
  have j:=ad y (aq u)
  have an:=kC b.ak (c.take k) b.aS
  refine⟨V,V,y,by simpa using K.af (D.aF u),j.1,V,aF b.ak y,by simpa using K.af (Q.pO j.1 j.2),?_⟩
  refine(dY _ _).aJ R H λG T N L B=>⟨G,rfl,λab=>?_,λZ=>?_⟩
  .have S:=E.trans B
   have I:=C.ext L
   have i4:ap T x (bC b.ak b.aS (c.take k)):=ap.gC I V
   refine⟨V,V,y,by simpa using S.af (D.aF u),V,V,y,by simpa using S.af (D.aF u),j.1,V,aF (bC b.ak b.aS (c.take k)) y,i4.pO j.1 V,j.1,V,?_⟩
   have au:=lo (c.take k) b.aS (-1000000000) (λw q=>(M w q).1) _ (fq (l:=bC b.ak b.aS (c.take k)) j.1 V)
   have ak:aF (bC b.ak b.aS (c.take k)) y<=1000000000:=by
    let⟨q',ai,al⟩:=lD (c.take k) b.aS y.toNat _ (kV (l:=bC b.ak b.aS (c.take k)) j.1 V);have:=(M q' (aq ai)).2;omega
   have ar:(c.take k).length<=1000000:=bG
   rw[aR V V]
   rcases I.aF with ag|⟨q,X,tail,z,e2,e3,e4,e5⟩
   .rw[ag]at P;simp at P;omega
   .have ah:x.off=0:=by rw[z];rfl
    have aa:x.D=q:=by rw[z];rfl
    rw[ah,aa]
    have ac:0+y.toNat*1=y.toNat:=V
    rw[ac]
    have af:y.toNat<((bC b.ak b.aS (c.take k)).map Ce.i).length:=bG
    refine⟨e3.fO (by simp only[bh];omega),?_⟩
    intro m5
    have W:J p m5:=B.ai e2 _ _
    refine⟨J.tQ B W H,U V _ ⟨W,?_⟩⟩
    rw[aV u,kY]
    simp only[bC,ao (N.1 ab)]
    refine⟨by rw[eu,gZ,<-eu (f:=Ce.i)];exact I.len,Or.inr ⟨q,X,tail,z,e2,?_,?_,e5⟩⟩
    .have:=cK.ai (m:=T) (o:=y.toNat) (r:=[.i (aF (bC b.ak b.aS (c.take k)) y -1)]) e3
     have z:jt ((bC b.ak b.aS (c.take k)).map Ce.i++tail) y.toNat [.i (aF (bC b.ak b.aS (c.take k)) y -1)]=(gA (bC b.ak b.aS (c.take k)) y (aF (bC b.ak b.aS (c.take k)) y -1)).map Ce.i++tail:=by
      simp only[jt,gA,uq];rw[MM _ _ af]
     rw[z]at this;exact this
    .simp only[bh,eu,gZ]at e4⊢;exact e4
  .refine U V _ ⟨B,?_⟩
   rw[aV u,kY]
   simp only[bC,ae (fb N Z)]
   exact C.ext L
 .rw[bZ V]at C
  exact⟨x,rfl,C.cA E.size,K⟩
def fU{aU t x:O}(a:RV g q 2 d p aU t x k s)(L:1000<=w){c:bK}(j:s.heap[ix w]? =some c):
 aO cp 102 [vp q 0,vi w] g λD v=>∃b,D=.agg #[vi c.aQ,vi c.kE,O.v b]/\ap v b c.aH/\J g v:=by
 apply uE (q,0)
 simp -zeta only[aD,aC]
 intro B
 have f:J g B:=(J.aA g).aL _
 have l:=cU.ext f a.heap
 let⟨b,G,r,g1,g2⟩:=l.aF j
 have I:=l.len
 have K:=l.gX
 have A:=aw j
 unfold ix at A r g1 g2
 have e:cG (w -1000)=w -1000:=aR V V
 rw[e]
 refine⟨t,f.af a.rG,V,V,c.aQ,r,c.kE,g1,b,g2,?_⟩
 intro C
 have m:J g C:=f.ai (ad _) _ _
 let⟨o,y,M,N,u⟩:=(cU.ext m a.heap).aF j
 unfold ix at u
 have z:o=b:=by
  have F:=f.af (a.rG);obtain⟨E,H,_,_,n⟩:=a.heap.aF j;unfold ix at n;have h:=f.af n;have i:=m.af n;rw[g2]at h;rw[u]at i;simp at h i;rw[O.BY]at h i;rw[h,i]
 subst z
 exact⟨o,rfl,y,m⟩
def va{aU L D:O}(C:RV g q 2 d p aU L D k s)(G:fL s.heap e){B:O}(o:ap g B c)(I:∀w∈c,fQ s.heap w)(Y:c.length<=1000000):
 dy cp 150 [vp q 0,O.v B] g (lJ s.heap c):=by
 apply sE (q,0)
 have X:=o.len
 refine dW (n:=c.length) V (λr a=>J g a/\∀w∈c.take r,1000<=w->(aM s.heap w).aQ+eD c (ix w)<=999999) ⟨J.aA _,aN⟩ ?_
 rintro r Z P μ T ⟨y,v⟩ N
 refine⟨λh=>?_,λh=>iY (dh (by simp at h;omega) v) y⟩
 simp only[ar]at h
 let⟨x,l⟩:=cL c r
 have m:=I x (aq l)
 have M:=iv m.1
 refine eB (n:=c.length) V (λj(z:Int) a=>J g a/\z=eD (c.take j) (ix x)) ⟨y,by simp[eD]⟩ ?_
 rintro j z m2 Q μ2 S ⟨f,rfl⟩ A
 refine dit (λE=>?_) λE=>?_
 .let⟨u,t⟩:=cL c j
  have K:=kL (c.take j) (ix x)
  have H:=iO (c.take j) (ix x)
  have F:(c.take j).length<=1000000:=bG
  have i:eD (c.take (j+1)) (ix x)=eD (c.take j) (ix x)+if u=x then 1 else 0:=by
   rw[aV t,mq];simp only[eD,M];omega
  refine⟨V,V,u,by simpa using f.af (o.aF t),V,V,x,by simpa using f.af (o.aF l),λa=>A V _ _ ⟨f,?_⟩,λa=>A V _ _ ⟨f,?_⟩⟩
  .simp at a;rw[i,ao a];exact aR V V
  .simp at a;rw[i,ae a];omega
 .rw[bZ V]
  have K:=kL c (ix x)
  have H:=iO c (ix x)
  let⟨u,W⟩:=bP m
  have U:=(G.cell _ (aq u)).hi
  refine⟨V,V,x,by simpa using f.af (o.aF l),?_⟩
  refine(fU (C.ext f) m.1 u).mono ?_
  rintro _ m3 ⟨b,rfl,R,a⟩
  have t:cG ((aM s.heap x).aQ+eD c (ix x))=(aM s.heap x).aQ+eD c (ix x):=aR V V
  refine⟨_,_,_,rfl,λi=>bX (λF=>?_) (f.trans a),λi=>N V _ ⟨f.trans a,bE l v λ_=>?_⟩⟩
  .have:=F x (aq l) m.1
   rw[t]at i;simp at i;omega
  .rw[t]at i;simp at i;omega
def tx{h:List bK}:lJ h (lx c)<->lJ h c:=by
 unfold lJ;constructor
 .intro b w d a;have:=b w (kM.2 ⟨d,a⟩) a;rwa[wA]at this
 .intro b w d a;rw[wA];exact b w (kM.1 d).1 a
def Vl{s:O}(h:ap g s c)(p:1<=c.length):ap g (O.cut s 1 s.len 1) (c.drop 1):=by
 have b:=h.len;have i:=h.cap;have l:=h.gX;cases s with
 |nil=>simp at b;omega
 |zX d v a=>simp at b;omega
 |mk d v r o=>
  simp at b i l;refine⟨by simp[O.cut];omega,by simp[O.cut];omega,by simp[O.cut];omega,λn x a=>?_⟩;rw[sH]at a;have q:=aw a;let⟨f,j,jD⟩:=h.iL (1+n) x a;refine⟨f,j,λm e k=>?_⟩;have:=jD m e k;simp only[O.cut,O.jJ,O.nt]at this⊢;rw[ae V];rw[<-this];congr 1;omega
def iy.pY(h:iy k b){t:Int}(d:0<=t)(e:t<b.ak.length)(f:∀w∈b.ak,w<=9223372036854775807): -9223372036854775808<=aF b.ak t/\aF b.ak t<=9223372036854775807:=by
 have c:=fq (l:=b.ak) d e;refine⟨?_,f _ c⟩;rcases h.So _ c with a|a
 .have:=a.1;omega
 .omega
def Kh{aU hp fr:O}(z:RV g q 2 d p aU hp fr k s)(M:fL s.heap e)(P:ap g t b.ak)(N:ap g h b.ba)(r:ap g u x.args)
 (L:iy k b)(ai:∀w∈b.ak,w<=9223372036854775807)(Z:∀l∈x.args,0<=l/\l<b.ak.length)(ax:1<=x.args.length/\x.args.length<=4)(ay:x.op=16\/x.op=17):
 dy cp 103 [vp q 0,fv b t v h,xv x u j] g (Cd s.heap b x):=by
 apply tW (q,0)
 simp -zeta only[aD,aC]
 intro m1 F
 have a:J g F:=((J.aA g).aL _).aL _
 have m:∀i∈[m1.size,g.size],i<F.size:=by simp[F,m1];omega
 have ar:=r.len
 have aA:=P.len
 have aw:=N.len
 have ao:=r.cap
 clear_value F
 have c:0<=aF x.args 0/\aF x.args 0<b.ak.length:=Z _ (fq V V)
 have R:aF x.args 0<b.ba.length:=by have:=L.lr;have:=L.lh;omega
 have al:=L.pY c.1 c.2 ai
 refine⟨V,V,aF x.args 0,(r.ext a).pO V V,c.1,V,aF b.ak (aF x.args 0),(P.ext a).pO c.1 c.2,hp,a.af z.rG,?_⟩
 unfold Cd
 simp only[]
 generalize aB:aF b.ak (aF x.args 0)=w at*
 refine(jq (cU.ext a z.heap) al).aJ (J.aA _) m λi m3 y B _=>⟨i,rfl,λah=>bX (λf=>nb y ah f.1) (a.trans B),λag=>?_⟩
 have n:=yb y ag
 let⟨C,az⟩:=bP n
 have au:=(M.cell _ (aq C)).fl
 have am:=a.trans B
 refine((fU (z.ext am) n.1 C)).aJ B m ?_
 rintro _ m4 ⟨fl,rfl,ak,U⟩
 have S:=B.trans U
 refine⟨U,_,_,_,rfl,(oW ak V).aJ (oh (ou (aM s.heap w).aH)) (λi y=>S.lt (m i y)) λps m5 o5 i5 h5=>⟨ps,rfl,V,V,V,?_⟩⟩
 have G:=S.trans h5
 have aa:=a.trans G
 have e1:(Int.toNat (1:Int))=1:=rfl
 have e2:(Int.toNat (u.len:Int))=u.len:=V
 rw[e1,e2]
 refine(sF (P.ext aa) (Vl (r.ext aa) V) (λl o=>Z l (xe o)) bG).aJ (by simp[cQ];omega) (λi y=>G.lt (m i y)) λqs m6 o6 i6 I=>⟨qs,rfl,?_⟩
 have ab:=G.trans I
 refine(qU (i5.ext I) i6).aJ ab m λb2 m7 W h7 A=>⟨b2,rfl,λad=>?_,λac=>bX (λf=>fb W ac f.2.1) (a.trans A)⟩
 have D:=W.1 ad
 refine(fU (z.ext (a.trans A)) n.1 C).aJ A m ?_
 rintro _ m8 ⟨an,rfl,av,K⟩
 have H:=A.trans K
 refine⟨K,_,_,_,rfl,λo=>?_,λo=>?_⟩
 .simp at o
  have E:=a.trans H
  refine⟨λl=>iY ⟨n,D,Or.inl o,λe=>by simp at l;omega⟩ E,λl=>⟨V,V,aF x.args 0,(r.ext E).pO V V,c.1,V,aF b.ba (aF x.args 0),(N.ext E).pO c.1 R,eW ?_ E⟩⟩
  simp only[aG,aj,ne_eq]at l⊢
  exact⟨λQ=>⟨n,D,Or.inl o,λ_=>Q⟩,λf=>f.2.2.2 V⟩
 .simp at o
  refine(va (z.ext (a.trans H)) M (i5.ext ((I.trans h7).trans K)) (λT E=>M.field (aq C) (kM.1 E).1 (kM.1 E).2) (oh (ou (aM s.heap w).aH))).aJ H m λb3 m9 X h9 T=>⟨b3,rfl,λaf=>?_,λae=>bX (λf=>?_) (a.trans T)⟩
  .have Y:=tx.1 (X.1 af)
   have E:=a.trans T
   refine⟨λl=>iY ⟨n,D,Or.inr Y,λe=>by simp at l;omega⟩ E,λl=>⟨V,V,aF x.args 0,(r.ext E).pO V V,c.1,V,aF b.ba (aF x.args 0),(N.ext E).pO c.1 R,eW ?_ E⟩⟩
   simp only[aG,aj,ne_eq]at l⊢
   exact⟨λQ=>⟨n,D,Or.inr Y,λ_=>Q⟩,λf=>f.2.2.2 V⟩
  .rcases f.2.2.1 with l|l
   .exact o l
   .exact fb X ae (tx.2 l)
def IS{aU P Z:O}(b:RV g q 2 d p aU P Z k s)(G:nF k)(D:fL s.heap e)(hw: -9223372036854775808<=w/\w<=9223372036854775807):
 dy cp 100 [vp q 0,vi w] g (vT k s.heap w):=by
 apply ta (q,0)
 simp -zeta only[aD,aC]
 refine⟨P,b.rG,(jq b.heap hw).then λi m1 x C=>⟨i,rfl,λai=>bX (λa=>nb x ai a.1) C,λah=>?_⟩⟩
 have z:=yb x ah
 let⟨F,al⟩:=bP z
 have K:=D.cell _ (aq F)
 have aE:=(K.ph al).2
 refine(fU (b.ext C) z.1 F).mono ?_
 rintro _ f ⟨B,rfl,N,j⟩
 refine⟨_,_,_,rfl,?_⟩
 intro T h
 have an:=C.trans j
 have H:J f h:=((J.aA f).aL _).ai (ad _) _ _
 have s4:h.size=f.size+1:=by simp[h,T,ax]
 have hB:af h f.size 1=some (vi (aM s.heap w).kE):=(cK.ai (m:=T) (o:=0) (r:=[.i (aM s.heap w).aQ,.i (aM s.heap w).kE,.s B]) (cK.push f _ _)).cq 1
 have y:∀i∈[f.size],i<h.size:=by simp[s4]
 clear_value h
 have c:=an.trans H
 have L:=b.ext c
 have aB:=b.fm.cE.len
 have aA:=G.ov.len
 have ar:(eU k.br).length<=12:=by
  have:=rE G.ov.types k.br.length;rw[nk _ _ (ad _)]at this;exact this
 refine⟨d,L.br,(qS L.fm.br G.ov.types).aJ (J.aA _) y λm5 t _=>⟨_,rfl,t.dg hB,p,(b.ext (c.trans t)).cE,?_⟩⟩
 have aF:=c.trans t
 have W:cG ((aM s.heap w).kE -((eU k.br).length:Int))=(aM s.heap w).kE -cv k:=aR V V
 have X:cG ((p.len:Int) -1)=(p.len:Int) -1:=aR V V
 rw[W,X]
 refine(bd _ _ _ _).aJ t y λb2 m6 M h6 l=>⟨b2,rfl,λae=>?_,λac=>bX (λa=>fb M ac ⟨a.2.1,oh a.2.2.1⟩) (c.trans l)⟩
 have R:=M.1 ae
 have A:=c.trans l
 have E:=b.ext A
 let⟨ao,Q⟩:=cL k.cE (((aM s.heap w).kE -cv k).toNat)
 have am:dR k ((aM s.heap w).kE -cv k)=ao:=by simp[dR,Q]
 obtain⟨U,l',c',ab,ak,av,g0,g1,_⟩:=E.fm.cE.aF Q
 have au:=ab.len
 have az:=ak.len
 have ay:=N.len
 have aw:=K.fl
 have Y:cG ((B.len:Int)+1)=(B.len:Int)+1:=aR V V
 rw[Y]
 unfold vT
 rw[am]
 refine⟨p,E.cE,V,V,U,g0,λu=>⟨p,E.cE,V,V,l',g1,λv=>⟨λn=>?_,λn=>?_⟩,λv=>bX (λa=>?_) A⟩,λu=>bX (λa=>?_) A⟩
 .simp at u v n
  exact iY ⟨z,R.1,V,V,V,Or.inl n⟩ A
 .simp at u v n
  refine(oW (N.ext (H.trans l)) V).aJ (oh (ou (aM s.heap w).aH)) (λi x=>l.lt (y i x)) λps m7 o7 i7 aa=>⟨ps,rfl,?_⟩
  have I:=l.trans aa
  refine(va (b.ext (c.trans I)) D i7 (λag S=>D.field (aq F) (kM.1 S).1 (kM.1 S).2) (oh (ou (aM s.heap w).aH))).aJ I y λb3 m8 ag ap S=>⟨b3,rfl,eW ?_ (c.trans S)⟩
  rw[ag,tx]
  refine⟨λaj=>⟨z,R.1,V,V,V,Or.inr aj⟩,λa=>?_⟩
  rcases a.2.2.2.2.2 with j|j
  .exact absurd j n
  .exact j
 .have:=a.2.2.2.2.1;simp at v;omega
 .have:=a.2.2.2.1;simp at u;omega
def IU{aU M E:O}(C:RV g q 2 d p aU M E k s)(B:ap g h b.ba)(G:ap g u x.args)(T:0<=x.cg/\x.cg<=b.ba.length)(U:b.ba.length<=1000000)
 (K:∀w∈b.ba,w≠0->1000<=w/\∃o,s.heap[ix w]? =some o):
 dy cp 97 [vp q 0,fv b t v h,xv x u j] g (FI s.heap b x):=by
 apply tc (q,0)
 simp -zeta only[aD,aC]
 intro n f
 have c:J g f:=((J.aA g).aL _).aL _
 have L:∀D∈[n.size,g.size],D<f.size:=by simp[f,n];omega
 have F:af f n.size 4=some (O.v u):=(cK.push n _ _).cq 4
 have Q:=G.len
 have S:=B.len
 clear_value f
 unfold FI
 refine⟨λm=>iY (λr=>absurd (by simpa using m) r) c,λm=>?_⟩
 simp at m
 have e:cG (x.cg -1)=x.cg -1:=aR V V
 rw[e]
 have A:=(B.ext c).pO (i:=x.cg -1) V V
 refine⟨V,V,aF b.ba (x.cg -1),A,λa=>iY (λ_ r=>absurd (by simpa using a) r) c,λa=>?_⟩
 simp at a
 let⟨N,o,z⟩:=K _ (fq (l:=b.ba) (i:=x.cg -1) V V) a
 refine⟨V,V,aF b.ba (x.cg -1),A,(fU (C.ext c) N z).aJ (J.aA _) L ?_⟩
 rintro _ W ⟨P,rfl,I,r⟩
 have R:=I.len
 have H:aM s.heap (aF b.ba (x.cg -1))=o:=by simp[aM,z]
 refine⟨r,_,_,_,rfl,r.dg F,eW ?_ (c.trans r)⟩
 rw[H]
 simp
 exact⟨λy _ _=>V,λy=>oh (y m a)⟩
def rm(k:cV)(x:Instr):∀(c t:List Int)(a:Nat),fJ k x a (c++t)=fJ k x a c++fJ k x (a+c.length) t
 |[],t,a=>by simp[fJ]
 |u::c,t,a=>by
  have:=rm k x c t (a+1);simp only[df,fJ,this,be];have e:a+(c.length+1)=a+1+c.length:=V;rw[e];split<;>simp
def wP{aU l Y:O}(o:RV g q 2 d p aU l Y k s)(R:ap g t b.ak)(D:ap g u x.args)(Z:iy k b)(af:∀w∈b.ak,w<=9223372036854775807)
 (ag:∀y∈x.args,0<=y/\y<b.ak.length)(hc:zH k x)(ai:x.op=9\/x.op=24):
 dy cp 98 [vp q 0,fv b t v h,xv x u j] g (KK k s.heap b x):=by
 apply sZ (q,0)
 simp -zeta only[aD,aC]
 intro W i
 have G:J g i:=((J.aA g).aL _).aL _
 have F:∀r∈[W.size,g.size],r<i.size:=by simp[i,W];omega
 have aa:=D.len
 have ak:=R.len
 clear_value i
 refine dW (n:=x.args.length) (aa▸D.gX) (λa c=>J i c/\∀y∈fJ k x 0 (x.args.take a),1000<=aF b.ak y->fQ s.heap (aF b.ak y)) ⟨J.aA _,by simp[fJ]⟩ ?_
 rintro a m3 aj μ hk ⟨T,Q⟩ I
 have m:=G.trans T
 refine⟨λh=>?_,λh=>iY (by simp at h;rwa[bZ V]at Q) m⟩
 simp only[ar]at h
 let⟨y,H⟩:=cL x.args a
 have f:=ag y (aq H)
 have C:=o.ext m
 have S:fJ k x 0 (x.args.take (a+1))=fJ k x 0 (x.args.take a)++fJ k x a [y]:=by
  rw[aV H,rm];congr 2;simp;omega
 have E:(nM k x a=true->1000<=aF b.ak y->fQ s.heap (aF b.ak y))->∀z∈fJ k x 0 (x.args.take (a+1)),1000<=aF b.ak z->fQ s.heap (aF b.ak z):=λhh z c=>by
  rw[S]at c;rcases List.mem_append.1 c with c|c
  .exact Q z c
  .simp only[fJ]at c;split at c
   .rename_i e;simp at c;subst c;exact hh e
   .simp at c
 have ah:nM k x a=true->y∈fJ k x 0 x.args:=λe=>by
  have X:x.args=x.args.take (a+1)++x.args.drop (a+1):=(dv _ _).symm;rw[X,rm,S];refine bL _ (eG _ ?_);simp only[fJ];rw[ao e];simp
 refine⟨V,V,y,by simpa using m.af (D.aF H),f.1,V,aF b.ak y,by simpa using m.af (R.pO f.1 f.2),d,C.br,p,C.cE,?_⟩
 refine(sC C.fm hc u j a).aJ T F λr m4 M h4 K=>⟨r,rfl,λae=>?_,λad=>I V _ ⟨K,E λe=>absurd ⟨ai,e⟩ (fb M ad)⟩⟩
 have e:=(M.1 ae).2
 refine(dY _ _).aJ K F λb2 m5 N h5 A=>⟨b2,rfl,λac=>?_,λab=>I V _ ⟨A,E λ_ l=>absurd l (fb N ab)⟩⟩
 have U:=G.trans A
 refine⟨l,(o.ext U).rG,(jq (cU.ext U o.heap) (Z.pY f.1 f.2 af)).aJ A F λb3 m6 P h6 L=>⟨b3,rfl,λB=>bX (λhM=>nb P B (hM y (ah e) (N.1 ac))) (G.trans L),λB=>I V _ ⟨L,E λ_ _=>yb P B⟩⟩⟩
end
section
structure zE(im:cV)(s:St)(fs:List aY)(f:aY)(x:Instr):Prop where
 ok:cW im s
 run:s.cw=3
 fr:s.an=fs++[f]
 cur:cR im f=x
 uQ:∀g∈s.an,∀w∈g.ak,w<=9223372036854775807
section
variable{b:cV}{s:St}{c:List aY}{f:aY}{x:Instr}
def zE.F(a:zE b s c f x):iy b f:=a.ok.an f (by rw[a.fr];simp)
def zE.MV(a:zE b s c f x):∀w∈f.ak,w<=9223372036854775807:=a.uQ f (by rw[a.fr];simp)
def zE.I(a:zE b s c f x):∃p,b.cE[f.fw.toNat]? =some p/\dR b f.fw=p/\HP b p/\p.dk[f.pc.toNat]? =some x/\iZ b p f.pc.toNat x:=by
 have:=a.F.Al a.ok.fm;rwa[a.cur]at this
def zE.Gu(a:zE b s c f x):f.ak.length=f.aS.length/\f.ba.length=f.aS.length/\1<=f.aS.length/\f.aS.length<=2000:=by
 obtain⟨p,_,e,i,_,_⟩:=a.I;have d:=a.F.lr;have g:=a.F.lo;have h:=a.F.lh;rw[e]at d g h;have:=i.ak;omega
def zE.arg(a:zE b s c f x):∀y∈x.args,0<=y/\y<f.ak.length:=λy h=>by
 obtain⟨p,_,e,_,_,g⟩:=a.I;have d:=a.F.lr;rw[e]at d;have:=g.args y h;omega
def zE.dst(a:zE b s c f x):0<=x.dst/\x.dst<f.aS.length:=by
 obtain⟨p,_,e,_,_,g⟩:=a.I;have d:=a.F.lo;rw[e]at d;have:=g.dst;omega
def zE.call(a:zE b s c f x):zH b x:=let⟨_,_,_,_,_,d⟩:=a.I;d.call
def zE.ZG(a:zE b s c f x):0<=x.op/\x.op<=24/\x.op≠7/\x.op≠8/\x.op≠12/\x.op≠13:=by
 obtain⟨p,_,_,e,_,d⟩:=a.I;exact((Jz e.ak.2.2 a.ok.fm.ov.len.2 λq g=>(a.ok.fm.ov.dD q g).1).1 d).1
def zE.lL(g:zE b s c f x):x.args.length<=4/\((x.op=5\/x.op=14\/x.op=15\/x.op=18\/x.op=23\/x.op=19\/x.op=20\/x.op=21)->x.args.length=1)/\((x.op=1\/x.op=2\/x.op=3\/x.op=4\/x.op=11)->x.args.length=2)/\
 ((x.op=16\/x.op=17)->1<=x.args.length)/\(x.op=6->0<=x.cg/\x.cg<=f.ba.length/\0<=x.bS/\x.bS<12/\x.args.length<=3)/\(x.op=10->0<=x.bS/\x.bS<4/\x.args.length<=3)/\(x.op=0->-999<=x.bS/\x.bS<=999):=by
 obtain⟨z,_,r,y,_,u⟩:=g.I
 have a:=u.op
 have t:=g.F.lh
 rw[r]at t
 have d:=g.ok.fm.ov
 have v:(eU b.br).length<=12:=by
  have:=rE d.types b.br.length;rw[nk _ _ (ad _)]at this;exact this
 have w:=Jv d.types x.bS
 unfold mf at a
 by_cases h:x.op=0
 .rw[ao h]at a;omega
 rw[ae h]at a
 by_cases i:x.op=1\/x.op=2\/x.op=3\/x.op=4\/x.op=11
 .rw[ao i]at a;omega
 rw[ae i]at a
 by_cases j:x.op=5\/x.op=14\/x.op=15\/x.op=18\/x.op=23
 .rw[ao j]at a;omega
 rw[ae j]at a
 by_cases k:x.op=6
 .rw[ao k]at a;omega
 rw[ae k]at a
 by_cases l:x.op=9\/x.op=24
 .rw[ao l]at a
  let⟨q,n,e,o⟩:=a
  have:=(d.dD q (aq e)).1;omega
 rw[ae l]at a
 by_cases m:x.op=10
 .rw[ao m]at a
  obtain⟨⟨q,n,e,o⟩,_⟩:=a
  have:=(d.dD q (aq e)).1
  have:=aw e
  have:=d.len;omega
 rw[ae m]at a
 by_cases n:x.op=16\/x.op=17
 .rw[ao n]at a;omega
 rw[ae n]at a
 by_cases o:x.op=19
 .rw[ao o]at a;omega
 rw[ae o]at a
 by_cases p:x.op=20
 .rw[ao p]at a;omega
 rw[ae p]at a
 by_cases q:x.op=22
 .rw[ao q]at a;omega
 rw[ae q]at a
 by_cases e:x.op=21
 .rw[ao e]at a
  have:=a.1;omega
 rw[ae e]at a;exact a.elim
def zE.Lz(d:zE b s c f x):∀w∈f.ba,w≠0->1000<=w/\∃e,s.heap[ix w]? =some e/\e.aQ<0:=λw h k=>by
 have g:1000<=w:=by have:=d.F.ba w h;omega
 refine⟨g,?_⟩;have j:0<holds s.an (ix w):=by
  rw[d.fr,eL,js];have:=wa c (ix w);have:=uU (l:=f.ba) (f:=ix w) (by rw[iv g];exact h);omega
 exact dE λi=>by have:=d.ok.nC (ix w) i;omega
def zE.O8(d:zE b s c f x):∀o∈f.aS,0<=o/\o<=999999:=λo h=>by
 refine⟨(d.F.Qd o h),?_⟩;rcases dT (0<o)with i|i
 .let⟨k,e⟩:=List.mem_iff_getElem?.1 h;have:=d.Gu;let⟨w,j⟩:=cL f.ak k (oh (aw e));have m:=LO d.F.Qd j e (d:=ix w) (by rw[iv ((d.F.aS k o w e j).2 i)]);have n:o<=fD s.an (ix w):=by
   rw[d.fr,fZ,ln];have:=KB (b:=c) (λg l=>d.ok.an g (by rw[d.fr];exact bL _ l)) (ix w);omega
  let⟨g,hd,l⟩:=d.ok.heap.lv (ix w) V;have p:=d.ok.heap.ex _ g hd l;have q:=ru s.heap (ix w);have r:=(d.ok.heap.cell g (aq hd)).hi;omega
 .omega
def zE.KD(a:zE b s c f x):∀r∈bU b x,0<=r/\r<f.ak.length:=λr d=>a.arg r (Cu d)
end
def Mt{o:E}{mb:Nat}{ah aw aU d fr:O}{M:cV}{K:St}(Q:RV o mb 2 ah aw aU d fr M K){fs:List aY}{m:aY}{x:Instr}(C:zE M K fs m x){Z ac h S am ow:O}(R:ap o Z m.ak)(U:ap o h m.ba)(L:ap o S x.args){aS:List Int}(X:ap o ow aS)(aA:aS.length=m.aS.length):
 dy cp 42 [vp mb 0,fv m Z ac h,xv x S am,O.v ow] o (lA M K m x aS):=by
 apply uF (mb,0)
 simp -zeta only[aD,aC]
 intro Y P
 have b:J o P:=((J.aA o).aL _).aL _
 have i:∀g∈[Y.size,o.size],g<P.size:=by simp[P,Y];omega
 have ai:cK P Y.size dZ [.i x.op,.i x.dst,.i x.bS,.i x.cg,.s S,.s am]:=cK.push Y _ _
 have ao:cK P o.size dS [.i m.fw,.i m.pc,.i m.dst,.s Z,.s ac,.s h]:=(cK.push o _ _).ext (J.push Y _)
 have ax:=L.len
 have aE:=R.len
 have ay:=U.len
 have aB:=X.len
 have hd:=C.dst
 have az:=C.Gu
 have G:=C.lL
 have hI:=C.ok.heap
 clear_value P
 refine⟨λN=>J P N/\(∀ac∈aS,0<=ac)/\(mg x.op->aF aS x.dst<=0),?_,?_⟩
 .refine(Bt (X.ext b)).aJ (J.aA _) i λg m3 c n _=>⟨g,rfl,λu=>bX (λl=>nb c u l.nn) (b.trans n),λz=>?_⟩
  refine(xY _ _).aJ n i λb2 A y w a=>⟨b2,rfl,λu=>?_,λv=>⟨a,yb c z,λe=>absurd e (fb y v)⟩⟩
  refine⟨hd.1,V,aF aS x.dst,(X.ext (b.trans a)).pO hd.1 V,λk=>bX (λl=>?_) (b.trans a),λk=>⟨a,yb c z,λ_=>by simpa using k⟩⟩
  have:=l.dst (y.1 u);simp at k;omega
 .rintro m3 ⟨n,q,p⟩
  have f:=b.trans n
  have t:=Q.ext f
  have mk:∀{ad:Prop},(lA M K m x aS->ad)->(ad->lA M K m x aS)->(lA M K m x aS<->ad):=λI h2=>⟨I,h2⟩
  have B:1<=x.args.length->0<=aF x.args 0/\aF x.args 0<m.ak.length:=λI=>C.arg _ (fq V V)
  have D:∀{N},J o N->1<=x.args.length->af N S.D (S.off+Int.toNat (0:Int)*1)=some (vi (aF x.args 0)):=λhx I=>(L.ext hx).pO V V
  have F:∀{N},J o N->1<=x.args.length->af N Z.D (Z.off+Int.toNat (aF x.args 0)*1)=some (vi (aF m.ak (aF x.args 0))):=λhx I=>(R.ext hx).pO (B I).1 (B I).2
  refine⟨λe=>?_,λe1=>?_⟩
  .simp only[bT,aG]at e
   refine(EF (R.ext f) (L.ext f) C.arg).aJ n i λg A c w a=>⟨g,rfl,eW (c.trans ?_) (b.trans a)⟩
   refine⟨λd=>?_,λh=>h.nX V⟩
   refine⟨q,p,?_,?_,?_,?_,?_,?_,?_,?_,?_,?_,?_⟩<;>intro r<;>first|(exfalso;omega)|exact d
  simp only[bu,aj]at e1
  refine⟨λe=>?_,λe2=>?_⟩
  .simp only[aG]at e
   have j:=G.2.2.2.2.1 e
   refine(IU t (U.ext f) (L.ext f) ⟨j.1,j.2.1⟩ V (λaa W T=>by obtain⟨I,s,H,_⟩:=C.Lz aa W T;exact⟨I,s,H⟩)).aJ n i λg A c w a=>⟨g,rfl,eW (c.trans ?_) (b.trans a)⟩
   refine⟨λd=>?_,λh=>h.jv e⟩
   refine⟨q,p,?_,?_,?_,?_,?_,?_,?_,?_,?_,?_,?_⟩<;>intro r<;>first|(exfalso;omega)|exact d
  simp only[aj]at e2
  refine⟨λe=>?_,λe3=>?_⟩
  .simp only[aG]at e
   refine(wP t (R.ext f) (L.ext f) C.F C.MV C.arg C.call (Or.inl e)).aJ n i λg A c w a=>⟨g,rfl,eW (c.trans ?_) (b.trans a)⟩
   refine⟨λd=>?_,λh=>h.cY (Or.inl e)⟩
   refine⟨q,p,?_,?_,?_,?_,?_,?_,?_,?_,?_,?_,?_⟩<;>intro r<;>first|(exfalso;omega)|exact d
  simp only[aj]at e3
  refine⟨λe=>?_,λe4=>?_⟩
  .simp only[aG]at e
   refine(wP t (R.ext f) (L.ext f) C.F C.MV C.arg C.call (Or.inr e)).aJ n i λg A c w a=>⟨g,rfl,λu=>?_,λz=>bX (λl=>fb c z (l.cY (Or.inr e))) (b.trans a)⟩
   refine(mF (X.ext (b.trans a))).aJ a i λb2 m5 y k s=>⟨b2,rfl,λag=>?_,λv=>bX (λl=>fb y v (l.zero (Or.inl e)).1) (b.trans s)⟩
   refine(mF (U.ext (b.trans s))).aJ s i λb3 m6 H T j=>⟨b3,rfl,eW (H.trans ?_) (b.trans j)⟩
   refine⟨λd=>?_,λh=>(h.zero (Or.inl e)).2⟩
   refine⟨q,p,?_,?_,?_,?_,?_,?_,?_,?_,?_,?_,?_⟩<;>intro r<;>first|(exfalso;omega)|exact c.1 u|exact⟨y.1 ag,d⟩
  simp only[aj]at e4
  refine⟨λe=>?_,λe5=>?_⟩
  .simp only[aG]at e
   have W:=G.2.1 V
   refine(mF (X.ext f)).aJ n i λb2 m5 y k s=>⟨b2,rfl,λag=>?_,λv=>bX (λl=>fb y v (l.zero (Or.inr e)).1) (b.trans s)⟩
   refine(mF (U.ext (b.trans s))).aJ s i λb3 m6 H T j=>⟨b3,rfl,λau=>?_,λaq=>bX (λl=>fb H aq (l.zero (Or.inr e)).2) (b.trans j)⟩
   have ab:=b.trans j
   have ak:=Q.ext ab
   have aa:=ak.an.len
   have iS:∀d:1<K.an.length\/aF m.ak (aF x.args 0)<1000,lA M K m x aS:=λd=>by
    refine⟨q,p,?_,?_,?_,?_,?_,?_,?_,?_,?_,?_,?_⟩<;>intro r<;>first|(exfalso;omega)|exact⟨y.1 ag,H.1 au⟩|exact d
   refine⟨fr,ak.OS,λh8=>iY (iS (Or.inl (by simp at h8;omega))) ab,λh8=>?_⟩
   refine⟨V,V,_,D ab V,(B V).1,oh ((B V).2),_,F ab V,(dY _ _).aJ j i λb4 m7 al h9 ae=>⟨b4,rfl,eW ?_ (b.trans ae)⟩⟩
   simp at h8
   constructor
   .intro an
    exact iS (Or.inr (oh (nb al an)))
   .intro l
    rcases l.ret e with an|an
    .omega
    .have:¬b4=true:=λav=>by have:=al.1 av;omega
     simpa using this
  simp only[aj]at e5
  refine⟨λe=>?_,λe6=>?_⟩
  .simp only[aG]at e
   have W:=G.2.2.1 V
   have j:=B V
   refine⟨V,V,_,D f V,j.1,V,_,F f V,(IS t C.ok.fm hI (C.F.pY j.1 j.2 C.MV)).aJ n i λg A c w a=>⟨g,rfl,eW (c.trans ?_) (b.trans a)⟩⟩
   refine⟨λd=>?_,λh=>h.apply e⟩
   refine⟨q,p,?_,?_,?_,?_,?_,?_,?_,?_,?_,?_,?_⟩<;>intro r<;>first|(exfalso;omega)|exact d
  simp only[aj]at e6
  refine⟨λe=>?_,λe7=>?_⟩
  .simp only[aG]at e
   have W:=G.2.1 V
   have j:=B V
   refine⟨V,V,_,D f V,j.1,V,_,F f V,d,t.rG,(jq t.heap (C.F.pY j.1 j.2 C.MV)).aJ n i λg A c w a=>⟨g,rfl,λu=>?_,λz=>bX (λl=>fb c z (l.Xl e).1) (b.trans a)⟩⟩
   have v:=c.1 u
   refine(fU (Q.ext (b.trans a)) v.1 (bP v).1).aJ a i ?_
   rintro _ m5 ⟨fl,rfl,aa,k⟩
   refine⟨k,_,_,_,rfl,eW ?_ (b.trans (a.trans k))⟩
   simp only[ar]
   refine⟨λd=>?_,λh=>(h.Xl e).2⟩
   refine⟨q,p,?_,?_,?_,?_,?_,?_,?_,?_,?_,?_,?_⟩<;>intro r<;>first|(exfalso;omega)|exact⟨v,d⟩
  simp only[aj]at e7
  refine⟨λe=>?_,λe8=>?_⟩
  .simp only[aG]at e
   have W:=G.2.1 V
   have j:=B V
   refine⟨V,V,_,D f V,j.1,V,_,F f V,(dY _ _).aJ n i λg A c w a=>⟨g,rfl,eW (c.trans ?_) (b.trans a)⟩⟩
   refine⟨λd=>?_,λh=>h.drop e⟩
   refine⟨q,p,?_,?_,?_,?_,?_,?_,?_,?_,?_,?_,?_⟩<;>intro r<;>first|(exfalso;omega)|exact d
  simp only[aj]at e8
  refine⟨λe=>?_,λe9=>?_⟩
  .simp only[bT,aG]at e
   refine(Kh t hI (R.ext f) (U.ext f) (L.ext f) C.F C.MV C.arg ⟨G.2.2.2.1 e,G.1⟩ e).aJ n i λg A c w a=>⟨g,rfl,eW (c.trans ?_) (b.trans a)⟩
   refine⟨λd=>?_,λh=>h.LN e⟩
   refine⟨q,p,?_,?_,?_,?_,?_,?_,?_,?_,?_,?_,?_⟩<;>intro r<;>first|(exfalso;omega)|exact d
  simp only[bu,aj]at e9
  refine⟨λe=>?_,λab=>?_⟩
  .simp only[aG]at e
   have W:=G.2.1 V
   have j:=B V
   refine⟨d,t.rG,V,V,_,D f V,j.1,V,_,F f V,(jq t.heap (C.F.pY j.1 j.2 C.MV)).aJ n i λg A c w a=>⟨g,rfl,λu=>?_,λz=>bX (λl=>fb c z (l.load e).1) (b.trans a)⟩⟩
   have v:=c.1 u
   have H:=b.trans a
   refine⟨V,V,_,D H V,j.1,V,_,F H V,(fU (Q.ext H) v.1 (bP v).1).aJ a i ?_⟩
   rintro _ m5 ⟨fl,rfl,aa,k⟩
   have ag:=aa.len
   refine⟨k,_,_,_,rfl,k.dg ((ai.ext a).cq 2),eW ?_ (b.trans (a.trans k))⟩
   simp only[ar]
   refine⟨λd=>?_,λh=>oh ((h.load e).2)⟩
   refine⟨q,p,?_,?_,?_,?_,?_,?_,?_,?_,?_,?_,?_⟩<;>intro r<;>first|(exfalso;omega)|exact⟨v,V⟩
  simp only[aj]at ab
  refine⟨λe=>?_,λag=>?_⟩
  .simp only[aG]at e
   have W:=G.2.1 V
   have j:=B V
   refine⟨d,t.rG,V,V,_,D f V,j.1,V,_,F f V,(jq t.heap (C.F.pY j.1 j.2 C.MV)).aJ n i λg A c w a=>⟨g,rfl,λu=>?_,λz=>bX (λl=>fb c z (l.Fy e).1) (b.trans a)⟩⟩
   have v:=c.1 u
   have H:=b.trans a
   have l:=Q.ext H
   refine⟨ah,l.br,V,V,_,D H V,j.1,V,_,F H V,(AP l.fm.br C.ok.fm.ov.types _).aJ a i ?_⟩
   rintro _ m5 ⟨cs,rfl,ak,k⟩
   have s:=a.trans k
   refine⟨k,cs,rfl,k.dg (F H V),k.dg (D H V),k.dg ((ai.ext a).cq 4),k.dg ((ao.ext a).cq 3),(fU (Q.ext (b.trans s)) v.1 (bP v).1).aJ s i ?_⟩
   rintro _ m6 ⟨fl,rfl,aa,T⟩
   refine⟨T,_,_,_,rfl,(dA (ak.ext T) _).aJ (s.trans T) i λb2 m7 y h8 ae=>⟨b2,rfl,eW (y.trans ?_) (b.trans ae)⟩⟩
   refine⟨λd=>?_,λh=>(h.Fy e).2⟩
   refine⟨q,p,?_,?_,?_,?_,?_,?_,?_,?_,?_,?_,?_⟩<;>intro r<;>first|(exfalso;omega)|exact⟨v,d⟩
  .simp only[aj]at ag
   refine iY ?_ f
   refine⟨q,p,?_,?_,?_,?_,?_,?_,?_,?_,?_,?_,?_⟩<;>intro r<;>exfalso<;>omega
end
section
variable{p:Nat->Prop}{o n:Nat}{i:Int}{f:O}
structure dx(p:Nat->Prop)(ro:Nat->Nat)(m:E)(ro':Nat->Nat)(m':E):Prop where
 size:m.size<=m'.size
 gY:∀b,b<m.size->ro' b=ro b
 new:∀b,m'.size<=b->ro' b=0
 eC:∀b,b<m.size->¬p (ro b)->m'[b]? =m[b]?
def dx.aA(p:Nat->Prop){a:Nat->Nat}{m:E}(h:∀b,m.size<=b->a b=0):dx p a m a m:=⟨ad _,λ_ _=>rfl,h,λ_ _ _=>rfl⟩
def dx.trans{g i j:Nat->Nat}{d e f:E}(h:dx p g d i e)(k:dx p i e j f):dx p g d j f:=
 ⟨bJ h.size k.size,λb a=>by rw[k.gY b (aP a h.size),h.gY b a],k.new,λb a c=>by
  rw[k.eC b (aP a h.size) (by rw[h.gY b a];exact c),h.eC b a c]⟩
def dx.mono{q:Nat->Prop}{b c:Nat->Nat}{m a:E}(h:dx p b m c a)(g:∀k,p k->q k):dx q b m c a:=⟨h.size,h.gY,h.new,λd e i=>h.eC d e λf=>i (g _ f)⟩
def dx.eI(p:Nat->Prop){c:Nat->Nat}{m d:E}(h:J m d)(e:∀b,m.size<=b->c b=0):dx p c m c d:=⟨h.size,λ_ _=>rfl,λb a=>e b (bJ h.size a),λb a _=>h.same b a⟩
def dx.ai{a:Nat->Nat}{m:E}(g:∀b,m.size<=b->a b=0){b:Nat}(f:p (a b))(o:Nat)(l:List Ce):dx p a m a (ai m b o l):=
 ⟨ur (ax _ _ _ _).symm,λ_ _=>rfl,λc d=>g c (by rw[ax]at d;exact d),λc _ h=>bg _ _ _ _ λe=>h (e▸f)⟩
abbrev HC:=dx (λk=>k=3\/k=5\/k=6)
abbrev To:=dx (λk=>k≠0/\k≠9)
def dx.cA{g i:Nat->Nat}{c m f:E}(h:To g m i f)(e:J c m)(d:∀b,b<c.size->g b=0):J c f/\∀b,b<c.size->i b=0:=by
 have j:=e.size;exact⟨⟨bJ j h.size,λb a=>by rw[h.eC b V (by simp[d b a]),e.same b a]⟩,λb a=>by rw[h.gY b V,d b a]⟩
def dx.dz{e f:Nat->Nat}{m d:E}(h:To e m f d){l:List Nat}(c:∀b∈l,b<m.size/\e b=0):eF l m d:=λb a=>h.eC b (c b a).1 (by simp[(c b a).2])
structure iR(ro:Nat->Nat)(m:E)(e sz k:Nat)(s:O)(l:List Ce):Prop where
 len:l.length=s.len*sz
 le:s.len<=s.cap
 aF:s.cap=0\/∃b c tail,s=.mk b 0 s.len c/\ro b=k/\cK m b e (l++tail)/\(l++tail).length=c*sz
section
variable{c g:Nat->Nat}{b d:E}{e a k:Nat}{s:O}{l:List Ce}
def iR.DF(h:iR c b e a k s l)(f:s.cap=0):l=[]/\s.len=0:=by
 have:=h.le;have d:s.len=0:=V;exact⟨List.length_eq_zero_iff.1 (by rw[h.len,d];simp),d⟩
def iR.iL(h:iR c b e a k s l):fS b s.D s.off l:=by
 rcases h.aF with f|⟨j,d,tail,h1,h2,h3,h4⟩
 .rw[(h.DF f).1];intro i d g;simp at g
 .rw[h1];exact h3.iL.Nj
def iR.wr(h:iR c b e a k s l)(d:o+n<=l.length):fO b s.D (s.off+o) n:=by
 rcases h.aF with f|⟨g,i,tail,h1,h2,h3,h4⟩
 .rw[(h.DF f).1]at d;intro m j;simp at d;omega
 .rw[h1];simp only[O.jJ,O.nt,bW];exact h3.fO bG
def iR.eC(h:iR c b e a k s l)(p:s.cap≠0->d[s.D]? =b[s.D]?)(q:s.cap≠0->g s.D=c s.D):iR g d e a k s l:=by
 refine⟨h.len,h.le,?_⟩;rcases h.aF with o|⟨m,n,tail,h1,h2,h3,h4⟩
 .exact Or.inl o
 .by_cases f:s.cap=0
  .exact Or.inl f
  .have i:=p f;have j:=q f;rw[h1]at i j;exact Or.inr ⟨m,n,tail,h1,j.trans h2,h3.congr i,h4⟩
def iR.D(h:iR c b e a k s l)(f:s.cap≠0):s.D<b.size/\c s.D=k:=by
 rcases h.aF with d|⟨g,i,tail,h1,h2,h3,h4⟩
 .exact absurd d f
 .rw[h1];exact⟨h3.lt,h2⟩
def iR.eJ(h:iR c b e a k s l)(i:dx p c b g d)(j:¬p k):iR g d e a k s l:=
 h.eC (λf=>i.eC _ (h.D f).1 (by rw[(h.D f).2];exact j)) (λf=>i.gY _ (h.D f).1)
def iR.set(h:iR c b e a k s l){new:List Ce}(w:o+new.length<=l.length):iR c (ai b s.D (s.off+o) new) e a k s (jt l o new):=by
 refine⟨by rw[ly];exact h.len,h.le,?_⟩;rcases h.aF with u|⟨j,n,tail,h1,h2,h3,h4⟩
 .exact Or.inl u
 .refine Or.inr ⟨j,n,tail,h1,h2,?_,by simp only[bh,ly]at h4⊢;exact h4⟩;have p:s.D=j:=by rw[h1];rfl
  have q:s.off=0:=by rw[h1];rfl
  rw[p,q,bW];have:=cK.ai (m:=b) (o:=o) (r:=new) h3;have t:jt (l++tail) o new=jt l o new++tail:=by
   have f:(jt l o new).length=l.length:=ly _ _ _;apply ic;intro i;rcases aX i l.length with d|d
   .have g:(jt l o new++tail)[i]? =(jt l o new)[i]? :=az (by rw[f];exact d);rw[g,wD,wD];simp only[bh];by_cases v:o<=i/\i<o+new.length
    .rw[ao V,ao V]
    .rw[ae V,ae V,az d]
   .have g:(jt l o new++tail)[i]? =tail[i -l.length]? :=by rw[aK (by rw[f];exact d),f]
    rw[g,wD,ae V,aK d]
  rw[t]at this;exact this
def iR.cut(h:iR c b e a k s l){n:Nat}(m:n<=s.len):iR c b e a k (s.cut 0 n a) (l.take (n*a)):=by
 have j:=h.le;have q:=h.len;rcases h.aF with i|⟨f,g,tail,h1,h2,h3,h4⟩
 .have d:n=0:=V;cases s with
  |nil=>exact⟨by simp[d,O.cut],by simp[O.cut],Or.inl rfl⟩
  |zX f o p=>exact⟨by simp[d,O.cut],by simp[O.cut],Or.inl rfl⟩
  |mk f o r p=>simp at i;subst i;exact⟨by simp[d,O.cut],by simp[d,O.cut],Or.inl (by simp[O.cut])⟩
 .rw[h1];have d:s.len<=g:=by rw[h1]at j;exact j
  refine⟨?_,by simp[O.cut];omega,Or.inr ⟨f,g,l.drop (n*a)++tail,?_,h2,?_,?_⟩⟩
  .simp only[O.cut,O.gL,gQ,XI];have:n*a<=s.len*a:=dm _ m;omega
  .simp[O.cut]
  .rw[<-fF,dv];exact h3
  .rw[<-fF,dv];exact h4
end
def iR.append{g:Nat->Nat}{f:E}{j l:Nat}{zs:List Ce}{u:Nat}{s x:O}{n c:List Ce}{K:O->E->Prop}(h:iR g f j zs.length l s n)(t:∀a,f.size<=a->g a=0)
 (k:c.length=x.len*zs.length)(B:fS f x.D x.off c)(i:(s.len+x.len)*u<=140737488355328)
 (q:∀v p d,iR v d j zs.length l p (n++c)->dx (λy=>y=l) g f v d->K p d):jT f j zs u s x K:=by
 have G:=h.le
 refine⟨c,k,B,λD=>?_,λF=>⟨i,n,h.len,h.iL,λd v=>?_⟩⟩
 .rcases h.aF with C|⟨a,d,tail,h1,h2,h3,h4⟩
  .have w:x.len=0:=V
   have A:c=[]:=List.length_eq_zero_iff.1 (by rw[k,w];simp)
   subst A
   refine⟨λy z=>by simp at z,?_⟩
   have p:=q g s _ (by rw[eg];exact h) (dx.aA _ t)
   cases s with
   |nil=>exact p
   |zX a o H=>exact p
   |mk a o H d=>simp only[w,jN];exact p
  .have w:=h.len
   have A:s.cap=d:=by rw[h1];rfl
   rw[h1]
   simp only[O.jJ,O.nt,O.gL,bW]
   simp only[bh]at h4
   have z:c.length<=tail.length:=by
    have y:(s.len+x.len)*zs.length<=d*zs.length:=dm _ V;rw[gT]at y;omega
   refine⟨h3.fO (by simp only[bh];omega),?_⟩
   have p:=cK.ai (m:=f) (b:=a) (e:=j) (r:=c) (o:=s.len*zs.length) h3
   rw[<-w,Cs n c tail z]at p
   refine q g _ _ ⟨?_,?_,Or.inr ⟨a,d,tail.drop c.length,rfl,h2,?_,?_⟩⟩ (dx.ai t h2 _ _)
   .simp only[bh,O.gL,gT];omega
   .simp only[O.gL,O.OI];omega
   .rw[<-w];exact p
   .simp only[bh,List.length_drop];omega
 .refine q (λa=>if a=f.size then l else g a) _ _ ⟨?_,?_,Or.inr ⟨f.size,d,mT zs (d -(s.len+x.len)),rfl,aN,cK.push _ _ _,?_⟩⟩ ⟨aN,λa i=>ae V,λa i=>?_,λa i _=>by rw[na,ae V]⟩
  .simp only[bh,O.gL,gT,h.len,k]
  .simpa using v
  .simp only[bh,rW,h.len,k]
   rw[Nat.sub_mul,<-gT]
   have:(s.len+x.len)*zs.length<=d*zs.length:=dm _ v
   omega
  .simp at i;rw[ae V];exact t a V
def iR.gC{d:Nat->Nat}{i m:E}{e f k:Nat}{s:O}{l:List Ce}(h:ig i m e f s l)(g:s≠.nil->d s.D=k):iR d m e f k s l:=by
 refine⟨h.len,?_,?_⟩
 .rcases h.aF with a|⟨b,c,tail,a,h2,h3,h4,h5⟩
  .rw[a];exact ad _
  .rw[a];exact h5
 .rcases h.aF with a|⟨b,c,tail,a,h2,h3,h4,h5⟩
  .rw[a];exact Or.inl rfl
  .refine Or.inr ⟨b,c,tail,a,?_,h3,h4⟩;have:=g (by rw[a];simp);rw[a]at this;exact this
def iR.nX{e:Nat->Nat}{m:E}{k:Nat}{s:O}{l:List Int}(h:iR e m aB 1 k s (l.map Ce.i))(g:l.length<=9223372036854775807):ap m s l:=by
 have d:s.len=l.length:=by have:=h.len;simp at this;omega
 refine⟨d,h.le,V,λj x c=>⟨[.i x],rfl,λi f a=>?_⟩⟩;have b:i=0:=by have:=aw a;simp at this;omega
 subst b;simp at a;subst a;have:=h.iL j (.i x) (by simp[c]);simpa using this
def AB(l:List Int)(i:Nat)(v:Int):jt (l.map Ce.i) i [.i v]=(l.set i v).map Ce.i:=by simp[jt,uq]
def iR.gA{a:Nat->Nat}{m:E}{k:Nat}{s:O}{l:List Int}(h:iR a m aB 1 k s (l.map Ce.i))(b:0<=i)(c:i<l.length)(v:Int):iR a (ai m s.D (s.off+i.toNat*1) [.i v]) aB 1 k s ((Go.Proofs.YtghjegjkpepmpaaGreat.gA l i v).map Ce.i):=by
 have:=h.set (o:=i.toNat) (new:=[.i v]) bG;rw[AB]at this;rw[eT];exact this
def iR.Om{a:Nat->Nat}{m:E}{k:Nat}{s:O}{l:List Int}(h:iR a m aB 1 k s (l.map Ce.i))(b:0<=i)(c:i<l.length):fO m s.D (s.off+i.toNat*1) 1:=by
 rw[eT];exact h.wr bG
def FB(m:E)(f:O)(l:List Int):Prop:=∃c tail,f=.mk f.D 0 f.len c/\cK m f.D aB (l.map Ce.i++tail)
def FN(N:Nat)(a:Nat->Nat)(m:E)(f:O)(l:List Int):Prop:=l≠[]->a f.D=0/\N<=f.D/\FB m f l
def ym(N:Nat)(b:Nat->Nat)(m:E)(a:List Ce)(c:bK):Prop:=∃f,a=[.i c.aQ,.i c.kE,.s f]/\ap m f c.aH/\FN N b m f c.aH
def XK(e:List (List Ce)):Prop:=∀(i j:Nat)(c d:List Ce)(a b:O),e[i]? =some c->e[j]? =some d->c[2]? =some (.s a)->d[2]? =some (.s b)->i≠j->a.len≠0->b.len≠0->a.D≠b.D
def XK.nil:XK []:=λi j c d a b h=>by simp at h
def dO(N:Nat)(b:Nat->Nat)(m:E)(c:O)(h:List bK):Prop:=∃a,iR b m my 3 3 c a.flatten/\gV 3 (ym N b m) a h/\XK a
def Tt(a:Nat->Nat)(m:E)(i:Nat)(b:List Ce)(f:aY):Prop:=
 ∃r o h,b=[.i f.fw,.i f.pc,.i f.dst,.s r,.s o,.s h]/\iR a m aB 1 (10+3*i) r (f.ak.map Ce.i)/\iR a m aB 1 (11+3*i) o (f.aS.map Ce.i)/\iR a m aB 1 (12+3*i) h (f.ba.map Ce.i)
structure ZS(ro:Nat->Nat)(m:E)(fr:O)(fs:List aY)(css:List (List Ce)):Prop where
 qD:iR ro m dS 6 4 fr css.flatten
 len:css.length=fs.length
 size:∀cs∈css,cs.length=6
 dD:∀(i:Nat)(cs:List Ce)(f:aY),css[i]? =some cs->fs[i]? =some f->Tt ro m i cs f
def nU(d:Nat->Nat)(m:E)(b:O)(c:List aY):Prop:=∃a,ZS d m b c a
def jb{m b:E}{l:List Int}(h:ap m f l)(j:l≠[]->b[f.D]? =m[f.D]?):ap b f l:=by
 by_cases a:l=[]
 .subst a;exact⟨h.len,h.cap,h.gX,aN⟩
 .exact⟨h.len,h.cap,h.gX,λo x n=>let⟨d,e,g⟩:=h.iL o x n;⟨d,e,λi c k=>by rw[aI (j a)];exact g i c k⟩⟩
def iQ{m:E}{l:List Int}(h:ap m f l)(a:l≠[]):f.D<m.size:=by
 cases l with
 |nil=>exact absurd rfl a
 |cons b l=>exact mC (h.aF (k:=0) (x:=b) rfl)
def ym.eJ{N:Nat}{k l:Nat->Nat}{m j:E}(c:dx p k m l j)(h:¬p 0)(e:List Ce)(d:bK):ym N k m e d->ym N l j e d:=λ⟨f,q,b,i⟩=>
 ⟨f,q,jb b λa=>c.eC _ (iQ b a) (by rw[(i a).1];exact h),λa=>by
  let⟨g1,g2,n,tail,o,g⟩:=i a;exact⟨by rw[c.gY _ (iQ b a)];exact g1,g2,n,tail,o,g.congr (c.eC _ g.lt (by rw[g1];exact h))⟩⟩
def dO.eJ{N:Nat}{p:Nat->Prop}{d e:Nat->Nat}{m c:E}{b:O}{h:List bK}(n:dO N d m b h)(a:dx p d m e c)(g:¬p 0)(k:¬p 3):dO N e c b h:=by
 let⟨f,i,j,l⟩:=n;exact⟨f,i.eJ a k,j.mono (ym.eJ a g),l⟩
def Tt.eJ{p:Nat->Prop}{e g:Nat->Nat}{m d:E}(a:dx p e m g d){i:Nat}(b:∀k,10+3*i<=k->k<=12+3*i->¬p k){c:List Ce}{f:aY}:Tt e m i c f->Tt g d i c f:=λ⟨r,o,h,j,k,l,n⟩=>
 ⟨r,o,h,j,k.eJ a (b _ V V),l.eJ a (b _ V V),n.eJ a (b _ V V)⟩
def nU.eJ{p:Nat->Prop}{g j:Nat->Nat}{m e:E}{a:O}{b:List aY}(r:nU g m a b)(c:dx p g m j e)(d:∀k,(k=4\/10<=k)->¬p k):nU j e a b:=by
 let⟨n,h⟩:=r;exact⟨n,h.qD.eJ c (d 4 V),h.len,h.size,λi l f o q=>(h.dD i l f o q).eJ c λk s _=>d k V⟩
structure vS(m0:E)(ro:Nat->Nat)(m:E)(mb e:Nat)(bx:List Ce)(aU hp fr:O)(lo:List Int)(lh:List bK)(lf:List aY):Prop where
 cA:J m0 m
 jZ:∀b,b<m0.size->ro b=0
 new:∀b,m.size<=b->ro b=0
 box:cK m mb e bx
 QN:ro mb=1
 aU:iR ro m aB 1 2 aU (lo.map Ce.i)
 heap:dO m0.size ro m hp lh
 an:nU ro m fr lf
section
variable{j:E}{b g:Nat->Nat}{a c:E}{d e:Nat}{h:List Ce}{aU l k:O}{r:List Int}{q:List bK}{o:List aY}
def vS.ext(L:vS j b a d e h aU l k r q o)(g:J a c):vS j b c d e h aU l k r q o/\To b a b c:=by
 have f:∀p,dx p b a b c:=λp=>dx.eI p g L.new;exact⟨⟨L.cA.trans g,L.jZ,(f (λ_=>False)).new,L.box.ext g,L.QN,L.aU.eJ (f (λ_=>False)) id,L.heap.eJ (f (λ_=>False)) id id,L.an.eJ (f (λ_=>False)) λ_ _=>id⟩,f _⟩
def vS.jF(L:vS j b a d e h aU l k r q o)(i:Nat)(c:List Ce):vS j b (ai a d i c) d e (jt h i c) aU l k r q o/\To b a b (ai a d i c):=by
 have f:dx (λg=>g=1) b a b (ai a d i c):=dx.ai L.new L.QN _ _;have n:To b a b (ai a d i c):=f.mono λg p=>V;let⟨b1,b2⟩:=n.cA L.cA L.jZ;exact⟨⟨b1,b2,f.new,cK.ai (m:=a) L.box,L.QN,L.aU.eJ f bn,L.heap.eJ f bn bn,L.an.eJ f λg p=>V⟩,n⟩
def vS.mK(L:vS j b a d e h aU l k r q o){i:Nat}(c:i+n<=h.length):fO a d i n:=L.box.fO c
def vS.gD(L:vS j b a d e h aU l k r q o)(f:dx (λi=>i=3\/i=5\/i=6) b a g c){m:O}{p:List bK}(s:dO j.size g c m p):vS j g c d e h aU m k r p o/\To b a g c:=by
 have n:To b a g c:=f.mono λi t=>V;let⟨b1,b2⟩:=n.cA L.cA L.jZ;exact⟨⟨b1,b2,f.new,L.box.congr (f.eC _ L.box.lt (by rw[L.QN];decide)),by rw[f.gY _ L.box.lt];exact L.QN,L.aU.eJ f bn,s,L.an.eJ f λi t=>V⟩,n⟩
def vS.Ix(L:vS j b a d e h aU l k r q o)(f:dx (λi=>i=2) b a g c){p:O}{n:List Int}(s:iR g c aB 1 2 p (n.map Ce.i)):vS j g c d e h p l k n q o/\To b a g c:=by
 have m:To b a g c:=f.mono λi t=>V;let⟨b1,b2⟩:=m.cA L.cA L.jZ;exact⟨⟨b1,b2,f.new,L.box.congr (f.eC _ L.box.lt (by rw[L.QN];decide)),by rw[f.gY _ L.box.lt];exact L.QN,s,L.heap.eJ f bn bn,L.an.eJ f λi t=>V⟩,m⟩
def vS.jR(L:vS j b a d e h aU l k r q o)(f:dx (λi=>4<=i/\i≠9) b a g c){m:O}{p:List aY}(s:nU g c m p):vS j g c d e h aU l m r q p/\To b a g c:=by
 have n:To b a g c:=f.mono λi t=>V;let⟨b1,b2⟩:=n.cA L.cA L.jZ;exact⟨⟨b1,b2,f.new,L.box.congr (f.eC _ L.box.lt (by rw[L.QN];decide)),by rw[f.gY _ L.box.lt];exact L.QN,L.aU.eJ f bn,L.heap.eJ f bn bn,s⟩,n⟩
end
end
section
variable{α:Type}{k:Nat}
def up{α:Type}(f:Nat->α)(k:Nat)(x:α):Nat->α:=λj=>if j=k then x else f j
@[simp] theorem HB (f:Nat->α) (k:Nat) (x:α):up f k x k=x:=ao rfl
def QB(f:Nat->α)(k:Nat)(x:α){j:Nat}(h:j≠k):up f k x j=f j:=ae h
def Qp(a:Nat->O):List Ce:=[.s (a 0),.s (a 1),.s (a 2),.s (a 3),.s (a 4),.s (a 5),.s (a 6)]
def Tb(a:Nat->O)(b:k<7):(Qp a)[k]? =some (.s (a k)):=by
 rcases k with _|_|_|_|_|_|_|k<;>first|rfl|omega
def Oj(a:Nat->O)(b:k<7)(r:O):jt (Qp a) k [.s r]=Qp (up a k r):=by
 rcases k with _|_|_|_|_|_|_|k<;>first|rfl|omega
structure jC(ro:Nat->Nat)(m:E)(lb:Nat)(sl:Nat->O)(L:Nat->List Int):Prop where
 new:∀b,m.size<=b->ro b=0
 gY:ro lb=8
 box:cK m lb BW (Qp sl)
 qD:∀k,k<7->iR ro m aB 1 (k+1) (sl k) ((L k).map Ce.i)
section
variable{f j:Nat->Nat}{a h:E}{d:Nat}{b:Nat->O}{L:Nat->List Int}
def jC.cq(h:jC f a d b L){k:Nat}(c:k<7):af a d k=some (O.v (b k)):=by
 rw[h.box.cq,Tb b c];rfl
def jC.nX(h:jC f a d b L){k:Nat}(c:k<7)(e:(L k).length<=10^12):ap a (b k) (L k):=(h.qD k c).nX V
def jC.len(h:jC f a d b L){k:Nat}(c:k<7):(b k).len=(L k).length:=by have:=(h.qD k c).len;simp at this;omega
def jC.to(h:jC f a d b L):To f a f a:=dx.aA _ h.new
def jC.ext(c:jC f a d b L)(e:J a h):jC f h d b L:=
 ⟨λi l=>c.new i (bJ e.size l),c.gY,c.box.congr (e.same d c.box.lt),λk g=>(c.qD k g).eC (λj=>e.same _ ((c.qD k g).D j).1) λ_=>rfl⟩
def jC.kY(p:jC f a d b L)(s:k<7)(C:(L k).length<=10^12)(i:Int){K:O->E->Prop}
 (B:∀j r h,To f a j (ai h d k [.s r])->jC j (ai h d k [.s r]) d (up b k r) (up L k (L k++[i]))->K r h):
 jT (a.push (.cells (bz [.i i]) aB)) aB [.i 0] 8 (b k) (.mk a.size 0 1 1) λr h=>fO h d k 1/\K r h:=by
 have z:=J.push a (.cells (bz [.i i]) aB)
 have c:=p.ext z
 have D:=p.len s
 refine iR.append (zs:=[.i 0]) (c:=[.i i]) (c.qD k s) c.new aN ((cK.push a (e:=aB) (l:=[.i i])).iL) (by simp only[O.gL];omega) λj r h v n=>?_
 have x:cK h d BW (Qp b):=c.box.congr (n.eC d c.box.lt (by simp only[c.gY];omega))
 have o:j d=8:=by rw[n.gY d c.box.lt,c.gY]
 have A:To f a j h:=(dx.eI _ z p.new).trans (n.mono λt y=>V)
 have u:To f a j (ai h d k [.s r]):=A.trans (dx.ai n.new (by simp only[o];omega) _ _)
 refine⟨x.fO (by show k+1<=7;omega),B j r h u ⟨u.new,o,Oj b s r▸cK.ai (m:=h) x,λt y=>?_⟩⟩
 by_cases g:t=k
 .subst g
  rw[HB,HB,fA]
  refine v.eC (λq=>bg _ _ _ _ λg=>?_) λ_=>rfl
  have:=(v.D q).2
  rw[g,o]at this;omega
 .rw[QB _ _ _ g,QB _ _ _ g]
  have w:=(c.qD t y).eJ n V
  refine w.eC (λq=>bg _ _ _ _ λg=>?_) λ_=>rfl
  have:=(w.D q).2
  rw[g,o]at this;omega
def jC.put(h:jC f a d b L){i:Nat}(r:k<7)(n:i<(L k).length)(x:Int):
 fO a (b k).D ((b k).off+i*1) 1/\jC f (ai a (b k).D ((b k).off+i*1) [.i x]) d b (up L k ((L k).set i x))/\To f a f (ai a (b k).D ((b k).off+i*1) [.i x]):=by
 have g:=h.qD k r
 have s:(L k).map Ce.i≠[]:=λe=>by simp at e;rw[e]at n;simp at n
 have j:(b k).cap≠0:=λj=>s (g.DF j).1
 let⟨t,l⟩:=g.D j
 have c:To f a f (ai a (b k).D ((b k).off+i*1) [.i x]):=dx.ai h.new (by simp only[l];omega) _ _
 refine⟨g.wr bG,⟨c.new,h.gY,h.box.congr (bg _ _ _ _ λe=>by have:=h.gY;rw[e,l]at this;omega),λp q=>?_⟩,c⟩
 by_cases e:p=k
 .subst e
  rw[HB]
  have:=g.set (o:=i*1) (new:=[.i x]) bG
  rw[AB,eT]at this
  rw[eT];exact this
 .rw[QB _ _ _ e]
  have m:=h.qD p q
  refine m.eC (λj=>bg _ _ _ _ λe=>?_) λ_=>rfl
  have:=(m.D j).2
  rw[e,l]at this;omega
def jC.Xw(h:jC f a d b L)(j:k<7){r:O}{l:List Int}(o:iR f a aB 1 (k+1) r (l.map Ce.i)):
 fO a d k 1/\jC f (ai a d k [.s r]) d (up b k r) (up L k l)/\To f a f (ai a d k [.s r]):=by
 have c:To f a f (ai a d k [.s r]):=dx.ai h.new (by simp only[h.gY];omega) _ _
 refine⟨h.box.fO (by show k+1<=7;omega),⟨c.new,h.gY,Oj b j r▸cK.ai (m:=a) h.box,λn g=>?_⟩,c⟩
 have K:∀{i s l},iR f a aB 1 (i+1) s l->i<7->iR f (ai a d k [.s r]) aB 1 (i+1) s l:=λ{i s l} g' hk'=>by
  refine g'.eC (λp=>bg _ _ _ _ λe=>?_) λ_=>rfl;have:=(g'.D p).2;rw[e,h.gY]at this;omega
 by_cases e:n=k
 .subst e
  rw[HB,HB];exact K o j
 .rw[QB _ _ _ e,QB _ _ _ e];exact K (h.qD n g) g
def jC.cut(h:jC f a d b L){k n:Nat}(c:k<7)(l:n<=(L k).length):
 n<=(b k).cap/\fO a d k 1/\jC f (ai a d k [.s ((b k).cut 0 n 1)]) d (up b k ((b k).cut 0 n 1)) (up L k ((L k).take n))/\To f a f (ai a d k [.s ((b k).cut 0 n 1)]):=by
 have g:=h.qD k c
 have i:=h.len c
 have j:=g.le
 have e:=g.cut (n:=n) V
 rw[eT,<-Ou]at e
 exact⟨V,h.Xw c e⟩
end
structure qC(ds:List bB)(n b:Nat)(L:Nat->List Int):Prop where
 len:∀k,k<6->(L k).length=n
 Xu:∀(v:Nat)(p:Int),(L 2)[v]? =some p->p<v
 Pu:∀(v:Nat)(c f:Int),(L 3)[v]? =some c->(L 4)[v]? =some f->0<=c->0<=f/\f+((cJ ds c).length:Int)<=b
 cY:(L 6).length<=10^12
abbrev sP(a:List bB)(n:Nat)(L:Nat->List Int):Prop:=qC a n n L
def Lm(L:Nat->List Int)(t o p:Int):Nat->List Int:=up (up (up (up (up (up L 0 (L 0++[t])) 1 (L 1++[o])) 2 (L 2++[p])) 3 (L 3++[-1])) 4 (L 4++[-1])) 5 (L 5++[-1])
def Be{j:Nat->Nat}{m:E}{b:Nat}{x:Nat->O}{L:Nat->List Int}(h:jC j m b x L)(a:∀k,k<6->(L k).length<=10^12)(t o p:Int):
 aO cp 234 [vp b 0,vi t,vi o,vi p] m λ_ i=>∃l y,To j m l i/\jC l i b y (Lm L t o p):=by
 apply xQ (b,0)
 simp -zeta only[bW]
 refine⟨_,h.cq (k:=0) bn,?_⟩
 intro z
 refine h.kY (k:=0) bn (a 0 bn) t λN U G n c=>⟨_,c.cq (k:=1) bn,?_⟩
 intro A
 refine c.kY (k:=1) bn (a 1 bn) o λP V H q d=>⟨_,d.cq (k:=2) bn,?_⟩
 intro B
 refine d.kY (k:=2) bn (a 2 bn) p λQ W I r e=>⟨_,e.cq (k:=3) bn,?_⟩
 intro C
 refine e.kY (k:=3) bn (a 3 bn) (-1) λR X J s f=>⟨_,f.cq (k:=4) bn,?_⟩
 intro D
 refine f.kY (k:=4) bn (a 4 bn) (-1) λS Y K u g=>⟨_,g.cq (k:=5) bn,?_⟩
 intro F
 exact g.kY (k:=5) bn (a 5 bn) (-1) λT Z M v w=>⟨_,_,((((n.trans q).trans r).trans s).trans u).trans v,w⟩
end
section
variable{l:List Int}{d:Nat->Nat}{a:E}{P:(Nat->List Int)->Prop}{b:Nat}{v:Int}
def GI.aU{S:List Nat}{n m:E}{s:O}(h:GI S n m s l):ig n m aB 1 s (l.map Ce.i):=by
 have u:=h.len bn;let⟨r,d,o,a⟩:=h;have t:d.flatten.length=l.length:=by rw[cy a.size,a.len];omega
 have q:d.flatten=l.map Ce.i:=by
  apply ic;intro e;rcases aX e l.length with b|b
  .let⟨x,k⟩:=dG b;let⟨f,j⟩:=cL d e (by rw[a.len];exact b);have p:f=[.i x]:=a.dD e f x j k;have g:=fY (g:=1) a.size j (i:=0) (c:=.i x) (by rw[p];rfl);simp only[eT,jN]at g;rw[g];simp[k]
  .rw[cT V,cT (by simpa using b)]
 rw[<-q];exact o
def Cw(f:Nat->Nat)(m:E)(e:Nat)(P:(Nat->List Int)->Prop)(v:Value)(a:E):Prop:=∃(b:Bool)(d:Nat->Nat),v=vb b/\To f m d a/\(b=true->∃g c,jC d a e g c/\P c)
def Cw.no{b:Nat->Nat}{m:E}{c:Nat}(h:To b m d a):Cw b m c P (vb false) a:=⟨false,d,rfl,h,aN⟩
def Cw.Pv{c:Nat->Nat}{m:E}{b:Nat}{e:Nat->O}{L:Nat->List Int}(h:To c m d a)(f:jC d a b e L)(g:P L):Cw c m b P (vb true) a:=⟨true,d,rfl,h,λ_=>⟨e,L,f,g⟩⟩
def Cw.mono{e:Nat->Nat}{m:E}{c:Nat}{Q:(Nat->List Int)->Prop}{v:Value}(h:Cw e m c P v a)(n:∀L,P L->Q L):Cw e m c Q v a:=let⟨b,d,f,g,i⟩:=h;⟨b,d,f,g,λl=>let⟨o,L,j,k⟩:=i l;⟨o,L,j,n L k⟩⟩
def qC.aS{a:List bB}{n:Nat}{L:Nat->List Int}(h:qC a n b L)(g:l.length=n):qC a n b (up L 1 l):=
 ⟨λk d=>by by_cases e:k=1<;>simp_all [up,h.len k],λv p=>by simpa[up]using h.Xu v p,λv c f=>by simpa[up]using h.Pu v c f,by simpa[up]using h.cY⟩
def qC.tok{a:List bB}{n:Nat}{L:Nat->List Int}(h:qC a n b L)(g:l.length=n):qC a n b (up L 5 l):=
 ⟨λk d=>by by_cases e:k=5<;>simp_all [up,h.len k],λv p=>by simpa[up]using h.Xu v p,λv c f=>by simpa[up]using h.Pu v c f,by simpa[up]using h.cY⟩
def Lk{b x:Int}{v:Nat}(h:(l++[b])[v]? =some x):l[v]? =some x\/v=l.length/\x=b:=by
 rcases aX v l.length with a|a
 .rw[az a]at h;exact Or.inl h
 .rw[aK a]at h;have:=aw h;simp at this;have e:v=l.length:=V;subst e;simp at h;exact Or.inr ⟨rfl,h.symm⟩
def qC.DW{c:List bB}{n a:Nat}{L:Nat->List Int}(h:qC c n b L)(j:b<=a):qC c n a L:=
 ⟨h.len,h.Xu,λv d f g i e=>oh (h.Pu v d f g i e),h.cY⟩
def qC.OU{f:List bB}{n:Nat}{L:Nat->List Int}(h:qC f n b L)(u t:Int){p:Int}(r:p<n):qC f (n+1) b (Lm L u t p):=by
 have a:=h.len;refine⟨λk w=>?_,λv q s=>?_,λv e g j m i=>?_,by simpa[Lm,up]using h.cY⟩
 .rcases k with _|_|_|_|_|_|k<;>first|omega|(simp[Lm,up,a])
 .have d:(L 2++[p])[v]? =some q:=by simpa[Lm,up]using s
  rcases Lk d with c|⟨rfl,rfl⟩
  .exact h.Xu v q c
  .rw[a 2 bn];exact r
 .have l:(L 3++[-1])[v]? =some e:=by simpa[Lm,up]using j
  have o:(L 4++[-1])[v]? =some g:=by simpa[Lm,up]using m
  rcases Lk l with c|⟨rfl,rfl⟩
  .rcases Lk o with d|⟨d,rfl⟩
   .have:=h.Pu v e g c d i;omega
   .have:=aw c;rw[a 4 bn]at d;rw[a 3 bn]at this;omega
  .omega
section
variable{f:Nat->Nat}{m:E}{e:Nat}{g:Nat->O}{L:Nat->List Int}{h:List bB}{c:Nat}
def jC.aF(h:jC f m e g L){k:Nat}(b:k<7)(c:(L k).length<=10^12){i:Nat}{x:Int}(a:(L k)[i]? =some x):af m (g k).D ((g k).off+i*1)=some (vi x):=(h.nX b c).aF a
def vf(a:jC f m e g L)(q:sP h c L)(u:c<=10^12)(b:0<=v)(s:v<c):aO cp 235 [vp e 0,vi v] m (Cw f m e λd=>∃l:List Int,l.length=c/\d=up L 1 l):=by
 apply xT (e,0);simp -zeta only[bW];have o:=q.len 1 bn;have t:=a.len (k:=1) bn;let⟨x,r⟩:=cL (L 1) v.toNat;have j:=a.aF bn V r;have d:=a.cq (k:=1) bn;let⟨w,p,n⟩:=a.put (k:=1) (i:=v.toNat) bn V (cG (x -1));exact⟨_,d,b,V,x,j,λ_=>.no a.to,λ_=>⟨_,d,_,d,b,V,x,j,b,V,w,.Pv n p ⟨_,by simp[o],rfl⟩⟩⟩
def sY(q:jC f m e g L)(j:sP h c L)(t:c<=10^12)(i:0<=v)(o:v<c):pb 194 [vp e 0,vi v] m:=by
 apply wN (e,0);refine⟨λv a=>0<=v/\v<(c:Int)/\J m a,λv _=>v.toNat,⟨i,o,J.aA _⟩,?_⟩;rintro v A ⟨i,o,d⟩;have H:=q.ext d;have w:=H.len (k:=1) bn;have z:=H.len (k:=2) bn;have C:=j.len 1 bn;have D:=j.len 2 bn;let⟨x,s⟩:=cL (L 1) v.toNat;let⟨y,p⟩:=cL (L 2) v.toNat;have u:=j.Xu _ _ p;refine⟨_,H.cq (k:=1) bn,i,V,x,H.aF bn V s,λ_=>⟨_,H.cq (k:=6) bn,?_⟩,λ_=>rA d⟩;refine(dA (H.nX (k:=6) bn j.cY) v).then λb B _ l=>⟨_,rfl,λ_=>?_,λ_=>rA (d.trans l)⟩;have n:=H.ext l;refine⟨_,n.cq (k:=2) bn,i,V,y,n.aF bn V p,λ_=>rA (d.trans l),λr=>?_⟩;simp only[bO]at r;exact⟨⟨V,V,d.trans l⟩,by show y.toNat<v.toNat;omega⟩
def Mi(i:jC f m e g L)(u:sP h c L)(R:c<=10^12){b:Nat}(H:b<=c):aO cp 308 [vp e 0,vi b] m (Cw f m e λd=>(∀j,j<6->(d j).length=b)/\(d 6).length<=10^12):=by
 apply zg (e,0);simp -zeta only[bW];refine⟨λv a=>(b:Int)<=v/\v<=c/\a=m,λv _=>((c:Int) -v).toNat,⟨V,V,rfl⟩,?_⟩;rintro v W ⟨P,p,rfl⟩;have o:=λj(G:j<6)=>i.len (k:=j) V;have d:=u.len;have S:=o 0 bn;have T:=o 1 bn;have U:=o 5 bn;have n0:=d 0 bn;have n1:=d 1 bn;have n5:=d 5 bn;refine⟨_,i.cq (k:=0) bn,λw=>?_,λw=>?_⟩
 .simp only[ar]at w;let⟨x,q⟩:=cL (L 1) v.toNat;let⟨y,r⟩:=cL (L 5) v.toNat;refine⟨_,i.cq (k:=1) bn,V,V,x,i.aF bn V q,λ_=>.no i.to,λ_=>⟨_,i.cq (k:=5) bn,V,V,y,i.aF bn V r,λ_=>.no i.to,λ_=>?_⟩⟩;rw[aR V V];exact⟨⟨V,V,rfl⟩,by show((c:Int) -(v+1)).toNat<((c:Int) -v).toNat;omega⟩
 .have tk:∀{l:List Int},l.length=c->(l.take b).length=b:=λQ=>bG;have D:Int.toNat (0:Int)=0:=rfl;have E:Int.toNat (b:Int)=b:=V;rw[D,E];let⟨p1,I,p,x⟩:=i.cut (k:=0) (n:=b) bn (by rw[d 0 bn];exact H);refine⟨_,i.cq (k:=0) bn,V,V,V,I,?_⟩;intro X;let⟨p2,J,q,y⟩:=p.cut (k:=1) (n:=b) bn (by simp[up,d];omega);refine⟨_,p.cq (k:=1) bn,V,V,V,J,?_⟩;intro Y;let⟨p3,K,r,z⟩:=q.cut (k:=2) (n:=b) bn (by simp[up,d];omega);refine⟨_,q.cq (k:=2) bn,V,V,V,K,?_⟩;intro Z;let⟨p4,M,s,A⟩:=r.cut (k:=3) (n:=b) bn (by simp[up,d];omega);refine⟨_,r.cq (k:=3) bn,V,V,V,M,?_⟩;intro m5;let⟨p5,N,t,B⟩:=s.cut (k:=4) (n:=b) bn (by simp[up,d];omega);refine⟨_,s.cq (k:=4) bn,V,V,V,N,?_⟩;intro m6;let⟨p6,O,F,C⟩:=t.cut (k:=5) (n:=b) bn (by simp[up,d];omega);refine⟨_,t.cq (k:=5) bn,V,V,V,O,?_⟩;intro m7;refine Cw.Pv (((((x.trans y).trans z).trans A).trans B).trans C) F ⟨λj G=>?_,?_⟩
  .rcases j with _|_|_|_|_|_|j<;>first|omega|(simp[up,d];omega)
  .simpa[up]using u.cY
end
end
section
variable{a:Nat->Nat}{m d c:E}{X:List Nat}
def Yi(m:E)(P:(Nat->List Int)->Prop)(v:Value)(c:E):Prop:=∃d,v=vp d 0/\J m c/\∃a e L,(∀b,b<m.size->a b=0)/\jC a c d e L/\P L
def No{t:Nat}{sl:Nat->O}{L:Nat->List Int}(h:jC a m t sl L)(S:∀b,b<7->(L b).length<=10^12):
 aO cp 295 [vp t 0] m (Yi m λc=>∀b,b<7->c b=L b):=by
 apply vF (t,0)
 simp -zeta only[bW]
 refine⟨_,h.cq (k:=0) bn,_,h.cq (k:=1) bn,_,h.cq (k:=2) bn,_,h.cq (k:=3) bn,_,h.cq (k:=4) bn,_,h.cq (k:=5) bn,_,h.cq (k:=6) bn,?_⟩
 have C:∀{M:E}(b:Nat),b<7->J m M->lE 37 [O.v (sl b)] M [] (L b=·):=λb z y=>bQ [] ((h.ext y).nX z (S b z)) (S b z)
 have c:∀{M H:E},J m M->J M H->∀B,af H t B=af M t B:=λy x' B=>aI (x'.same t (y.lt h.box.lt)) B
 have i:=J.aA m
 refine(C 0 bn i).then λU _ m1 I e d=>⟨_,rfl,c i d _,c i d _,c i d _,c i d _,c i d _,c i d _,?_⟩
 subst e
 refine(C 1 bn d).then λW _ m2 g1 e j=>⟨_,rfl,c d j _,c d j _,c d j _,c d j _,c d j _,?_⟩
 subst e
 have u:=d.trans j
 refine(C 2 bn u).then λX _ m3 g2 e l=>⟨_,rfl,c u l _,c u l _,c u l _,c u l _,?_⟩
 subst e
 have x:=u.trans l
 refine(C 3 bn x).then λY _ m4 K e n=>⟨_,rfl,c x n _,c x n _,c x n _,?_⟩
 subst e
 have D:=x.trans n
 refine(C 4 bn D).then λZ _ m5 N e o=>⟨_,rfl,c D o _,c D o _,?_⟩
 subst e
 have G:=D.trans o
 refine(C 5 bn G).then λs5 _ m6 P e p=>⟨_,rfl,c G p _,?_⟩
 subst e
 have u6:=G.trans p
 refine(C 6 bn u6).then λs6 _ v Q e q=>⟨_,rfl,?_⟩
 subst e
 intro w
 have r:J v w:=J.push _ _
 have z0:=i.size;have z1:=d.size;have z2:=j.size;have z3:=l.size;have z4:=n.size;have z5:=o.size;have z6:=p.size;have z7:=q.size
 have s8:w.size=v.size+1:=by simp[w]
 have y0:=I.bq;have y1:=g1.bq;have y2:=g2.bq;have y3:=K.bq;have y4:=N.bq;have y5:=P.bq;have y6:=Q.bq
 let f:Nat->Nat:=λg=>if g<m.size then 0 else if g<m1.size then 1 else if g<m2.size then 2 else if g<m3.size then 3 else if g<m4.size then 4 else if g<m5.size then 5 else if g<m6.size then 6 else if g<v.size then 7 else if g=v.size then 8 else 0
 let ab:Nat->O:=λb=>if b=0 then U else if b=1 then W else if b=2 then X else if b=3 then Y else if b=4 then Z else if b=5 then s5 else s6
 have A:∀{m0 M:E}{F:O}{T:List Int}{b:Nat},GI [] m0 M F T->J M w->f F.D=b->iR f w aB 1 b F (T.map Ce.i):=λaa y hr=>iR.gC (aa.aU.ext y) λ_=>hr
 refine⟨v.size,rfl,u6.trans (q.trans r),f,ab,L,λg R=>ao R,⟨λg R=>?_,?_,cK.push _ _ _,λb z=>?_⟩,λ_ _=>rfl⟩
 .simp only[f]
  repeat rw[ae V]
 .simp only[f]
  repeat rw[ae V]
  simp
 .rcases b with _|_|_|_|_|_|_|b
  .exact A (F:=U) (b:=1) I (j.trans (l.trans (n.trans (o.trans (p.trans (q.trans r)))))) (by simp only[f];rw[ae V,ao V])
  .exact A (F:=W) (b:=2) g1 (l.trans (n.trans (o.trans (p.trans (q.trans r))))) (by simp only[f];rw[ae V,ae V,ao V])
  .exact A (F:=X) (b:=3) g2 (n.trans (o.trans (p.trans (q.trans r)))) (by simp only[f];rw[ae V,ae V,ae V,ao V])
  .exact A (F:=Y) (b:=4) K (o.trans (p.trans (q.trans r))) (by simp only[f];rw[ae V,ae V,ae V,ae V,ao V])
  .exact A (F:=Z) (b:=5) N (p.trans (q.trans r)) (by simp only[f];rw[ae V,ae V,ae V,ae V,ae V,ao V])
  .exact A (F:=s5) (b:=6) P (q.trans r) (by simp only[f];rw[ae V,ae V,ae V,ae V,ae V,ae V,ao V])
  .exact A (F:=s6) (b:=7) Q r (by simp only[f];rw[ae V,ae V,ae V,ae V,ae V,ae V,ae V,ao V])
  .omega
structure HN(d:E)(X:List Nat)(a:Nat->Nat)(m:E):Prop where
 ext:J d m
 gN:∀b,b<d.size->a b=0
 box:∀b∈X,b<m.size/\a b=0
def HN.to{g:Nat->Nat}(h:HN d X a m)(e:To a m g c):HN d X g c:=by
 let⟨i,j⟩:=e.cA h.ext h.gN;exact⟨i,j,λb f=>⟨aP (h.box b f).1 e.size,by rw[e.gY b (h.box b f).1];exact(h.box b f).2⟩⟩
def HN.dz{d m c:E}{X:List Nat}{a e:Nat->Nat}(h:HN d X a m)(b:To a m e c):eF X m c:=b.dz h.box
def HN.iu(h:HN d X a m)(x:J m c):HN d X a c:=⟨h.ext.trans x,h.gN,λb e=>⟨x.lt (h.box b e).1,(h.box b e).2⟩⟩
def IW{p I aa:O}{q:gU}(s:ap m p q.params)(F:ap m I q.cY)(ad:q.params.length<=3)(ac:q.cY.length<=3)(w:List bB):
 aO cp 213 [.agg #[O.v p,O.v I,vi q.aT,O.v aa,vi q.body.aT]] m (Yi m (sP w q.params.length)):=by
 apply Bo
 simp -zeta only[aD,aC]
 intro e
 have v:J m e:=J.push _ _
 have s1:e.size=m.size+1:=by simp[e]
 have W:∀b∈[m.size],b<e.size:=by simp[e]
 clear_value e
 refine(bQ [] (F.ext v) V).aJ (J.aA e) W λs6 _ f D o K _=>⟨_,rfl,?_⟩
 subst o
 intro t
 have P:J f t:=J.push _ _
 have s3:t.size=f.size+1:=by simp[t]
 have z2:=K.size
 have y6:=D.bq
 let h:Nat->Nat:=λb=>if b<e.size then 0 else if b<f.size then 7 else if b=f.size then 8 else 0
 let d:Nat->List Int:=λk=>if k<6 then[]else q.cY
 let r:Nat->O:=λk=>if k<6 then .nil else s6
 have R:jC h t f.size r d:=by
  refine⟨λb l=>?_,?_,cK.push _ _ _,λk B=>?_⟩
  .simp only[h];repeat rw[ae V]
  .simp only[h];repeat rw[ae V]
   simp
  .by_cases g:k<6
   .simp only[r,d,ao g];exact⟨aN,aN,Or.inl rfl⟩
   .have o:k=6:=V;subst o;simp only[r,d,ae g];refine iR.gC (D.aU.ext P) λ_=>?_;simp only[h];rw[ae V,ao V]
 have T:sP w 0 d:=by
  refine⟨λk B=>by simp only[d,ao B];rfl,λg p s=>by simp[d]at s,λg j i z=>by simp[d]at z,by simp[d];omega⟩
 have gN:∀b,b<e.size->h b=0:=λb l=>ao l
 clear_value h d r
 have ag:=s.len
 refine dW (n:=q.params.length) V (λk M=>∃a C L,HN e [m.size] a M/\jC a M f.size C L/\sP w k L) ⟨h,r,d,⟨K.trans P,gN,λb l=>by simp at l;subst l;exact⟨V,gN _ V⟩⟩,R,T⟩ ?_
 rintro k M S μ B ⟨a,C,L,i,H,A⟩ Z
 refine dit (λU=>?_) λU=>?_
 .let⟨y,X⟩:=cL q.params k
  have N:∀(u:Int){g:E},J M g->aO cp 234 [vp f.size 0,vi y,vi u,vi (-1:Int)] g λ_ c=>eF [m.size] g c/\S (cG ((k:Int)+1)) c/\μ (cG ((k:Int)+1)) c<μ k M:=λu g x=>
   (Be (H.ext x) (λY Q=>by rw[A.len Y Q];omega) y u (-1)).mono λ_ c⟨Y,ab,j,Q⟩=>⟨(i.iu x).dz j,Z V _ ⟨Y,ab,_,(i.iu x).to j,Q,(A.OU y u V).DW V⟩⟩
  have G:∀{g:E},J M g->af g p.D (p.off+Int.toNat (k:Int)*1)=some (vi y):=λx=>(s.ext (v.trans (i.ext.trans x))).aF X
  refine⟨V,V,y,G (J.aA _),λ_=>?_,λ_=>⟨V,V,y,G (J.aA _),N 0 (J.aA _)⟩⟩
  refine(dA (F.ext (v.trans i.ext)) (k:Int)).then λb M2 _ x=>⟨λj z=>x.same j (i.box j z).1,_,rfl,λ_=>⟨V,V,y,G x,N 1 x⟩,λ_=>⟨V,V,y,G x,N 0 x⟩⟩
 .have o:k=q.params.length:=V
  subst o
  exact⟨f.size,rfl,v.trans i.ext,a,C,L,λb l=>i.gN b V,H,A⟩
end
section
def jC.VP{b:Nat->Nat}{m f:E}{q:Nat}{a:Nat->O}{L:Nat->List Int}(h:jC b m q a L)(gN:∀c,c<f.size->b c=0){k p:Nat}(l:k<7)(c:p<(L k).length):f.size<=(a k).D/\(a k).D<m.size/\b (a k).D=k+1:=by
 have g:=h.qD k l;have o:(L k).map Ce.i≠[]:=λe=>by simp at e;rw[e]at c;simp at c
 let⟨j,d⟩:=g.D λi=>o (g.DF i).1;refine⟨HI λn=>?_,j,d⟩;rw[gN _ n]at d;omega
def HN.TO{c m a g:E}{d:Nat->Nat}{o1 o2:Obj}(j:J c m)(gN:∀b,b<c.size->d b=0)(k:∀b,m.size<=b->d b=0)(e:a=m.push o1)(h:g=a.push o2):HN c [a.size,m.size] d g:=by
 let⟨l,i⟩:=dI e h;subst e;exact⟨j.trans l,gN,λb f=>⟨i b f,k b (by simp at f;omega)⟩⟩
section
variable{e:Nat->Nat}{m b:E}{g:Nat}{p:Nat->O}{L:Nat->List Int}{f:List bB}{l:List gU}{h:Nat}{d r a o:O}{x:cZ}{c:Prop}{q:Nat}
def Qs(hx:J b m)(gN:∀u,u<b.size->e u=0)(K:jC e m g p L)(N:sP f h L)(hn:h<=10^12)(hN:eM b d r f l)(ha:ap b a x.args)(hf:U0 f q c h x)(an:14<=x.op):
 aO cp 236 [vp g 0,.agg #[O.v d,O.v r],pD x a o] m (Cw e m g (sP f h)):=by
 apply xR (g,0)
 simp -zeta only[aD,aC,bW]
 intro P Q
 have st:=HN.TO (a:=P) (g:=Q) hx gN K.new rfl rfl
 have x2:J m Q:=(dI (a:=P) (c:=Q) rfl rfl).1
 have W:To e m e Q:=dx.eI _ x2 K.new
 clear_value Q
 clear_value P
 have D:=K.ext x2
 have aA:=ha.len
 have az:=hf.lY (Or.inl an)
 let⟨A,hy⟩:=cL x.args 0
 let⟨G,y1⟩:=hf.args A (aq hy)
 have U:=N.len
 have n1:=U 1 bn;have n3:=U 3 bn;have n4:=U 4 bn;have n5:=U 5 bn
 have l3:=D.len (k:=3) bn;have l5:=D.len (k:=5) bn
 let⟨B,ae⟩:=cL (L 3) A.toNat
 let⟨v,ag⟩:=cL (L 4) A.toNat
 let⟨tk,au⟩:=cL (L 5) A.toNat
 refine⟨bn,V,A,(ha.ext st.ext).aF hy,?_⟩
 refine⟨λM=>0<=B/\∃R af s,s.length=h/\To e m R M/\HN b [P.size,m.size] R M/\jC R M g af (up L 1 s),?_,?_⟩
 .refine⟨_,D.cq (k:=3) bn,G,V,B,D.aF bn V ae,λ_=>.no W,λw=>?_⟩
  simp only[bO]at w
  refine⟨λ_=>⟨_,D.cq (k:=5) bn,G,V,tk,D.aF bn V au,λ_=>.no W,λ_=>?_⟩,λ_=>?_⟩<;>
  .refine(vf D N hn G y1).mono λax m3⟨u,R,ac,H,y⟩=>⟨st.dz H,u,ac,λC=>.no (W.trans H),λC=>?_⟩
   obtain⟨af,z,t,s,hl,rfl⟩:=y (by simpa using C)
   exact⟨V,R,af,s,hl,W.trans H,st.to H,t⟩
 .rintro m3 ⟨al,aa,F,s,hl,H,S,y⟩
  have e3:(up L 1 s) 3=L 3:=rfl
  have e4:(up L 1 s) 4=L 4:=rfl
  have e5:(up L 1 s) 5=L 5:=rfl
  have e1:(up L 1 s) 1=s:=rfl
  have av:=y.len (k:=3) bn
  rw[e3]at av
  let⟨f0,f1⟩:=N.Pu A.toNat B v ae ag al
  refine⟨_,y.cq (k:=3) bn,G,V,B,y.aF bn (by rw[e3];omega) ae,?_⟩
  have A1:=y.VP (f:=b) S.gN (k:=1) (p:=A.toNat) bn (by rw[e1];omega)
  have A5:=y.VP (f:=b) S.gN (k:=5) (p:=A.toNat) bn (by rw[e5];omega)
  have hS:∀u∈[(F 1).D,(F 5).D],u<m3.size:=λu C=>by simp at C;omega
  have ak:∀{M:E},J b M->Le b (bI [(F 1).D,(F 5).D] M):=λxx=>(Ap b).trans (xx.bI λu C=>Or.inr (by simp at C;omega))
  refine(dN hS (hN.br.le (ak S.ext)) hN.types B).mono λax m4⟨aj,fl,ac,hs,am,x4⟩=>⟨λu C=>x4.same u (S.box u C).1,aj,ac,?_⟩
  subst am
  have c4:To e m aa m4:=H.trans (dx.eI _ x4 y.new)
  have aE:=hs.len
  have f3:=FZ hN.types B
  refine dW (n:=(cJ f B).length) V (λz M=>∃s,s.length=h/\To e m aa M/\HN b [P.size,m.size] aa M/\jC aa M g F (up L 1 s)/\Fz [(F 1).D,(F 5).D] m4 M) ⟨s,hl,c4,(S.iu x4),(y.ext x4),Fz.aA _ _⟩ ?_
  rintro z M ay μ aB ⟨w,Z,X,ab,t,ad⟩ ai
  have ao:=hs.le (ad.dj λ_ K=>K)
  refine⟨λah=>?_,λah=>?_⟩
  .simp only[ar]at ah
   let⟨aw,hz⟩:=cL (cJ f B) z
   refine⟨V,V,aw,(ao.le (bD _ _)).aF hz,λ_=>?_,λ_=>ai V _ ⟨w,Z,X,ab,t,ad⟩⟩
   have E3:(up L 1 w) 4=L 4:=rfl
   have E1:(up L 1 w) 1=w:=rfl
   have G1:=t.cq (k:=1) bn
   have G4:=t.cq (k:=4) bn
   have l4:=t.len (k:=4) bn
   have l1:=t.len (k:=1) bn
   rw[E3]at l4;rw[E1]at l1
   have V4:=t.aF (k:=4) bn (by rw[E3];omega) ag
   have ew:cG (v+(z:Int))=v+z:=aR V V
   let⟨T,hw⟩:=cL w ((v+(z:Int)).toNat)
   let⟨wr,Y,I⟩:=t.put (k:=1) (i:=(v+(z:Int)).toNat) bn (by rw[E1];omega) (cG (T+1))
   refine⟨_,G1,_,G4,G,V,v,V4,_,G1,_,G4,G,V,v,V4,?_⟩
   rw[ew]
   refine⟨V,V,T,t.aF (k:=1) bn (by rw[E1];omega) hw,V,V,wr,ab.dz I,ai V _ ⟨w.set (v+(z:Int)).toNat (cG (T+1)),by simp[Z],X.trans I,ab.to I,?_,ad.ai (Or.inl aN) _ _⟩⟩
   have:up (up L 1 w) 1 ((up L 1 w) 1|>.set (v+(z:Int)).toNat (cG (T+1)))=up L 1 (w.set (v+(z:Int)).toNat (cG (T+1))):=by funext j;simp only[up];split<;>rfl
   rw[this]at Y;exact Y
  .refine⟨λ_=>?_,λ_=>.Pv X t (N.aS Z)⟩
   have T:(up L 1 w) 5=L 5:=rfl
   have aw:=t.len (k:=5) bn
   rw[T]at aw
   let⟨wr,Y,I⟩:=t.put (k:=5) (i:=A.toNat) bn (by rw[T];omega) (aj.len:Int)
   exact⟨_,t.cq (k:=5) bn,G,V,wr,ab.dz I,.Pv (X.trans I) Y ((N.aS Z).tok (by rw[T];simp[n5]))⟩
def J6(hx:J b m)(gN:∀j,j<b.size->e j=0)(Q:jC e m g p L)(hi:sP f h L)(hn:h<=10^12)(hN:eM b d r f l)(B:ap b a x.args)(D:U0 f l.length c h x):
 aO cp 238 [vp g 0,.agg #[O.v d,O.v r],pD x a o] m (Cw e m g (sP f h)):=by
 apply tV (g,0)
 simp -zeta only[aD,aC,bW]
 intro K H
 have st:=HN.TO (a:=K) (g:=H) hx gN Q.new rfl rfl
 have x2:J m H:=(dI (a:=K) (c:=H) rfl rfl).1
 have c2:To e m e H:=dx.eI _ x2 Q.new
 clear_value H
 clear_value K
 have aa:=B.len
 have Z:∀{M:E},J b M->At M d r a o f l x:=λxx=>⟨hN.le xx.le,B.ext xx,D.call⟩
 refine dW (n:=x.args.length) (aa▸B.gX) (λ_ M=>∃t T N,sP f h N/\To e m t M/\HN b [K.size,m.size] t M/\jC t M g T N) ⟨e,p,L,hi,c2,st,(Q.ext x2)⟩ ?_
 rintro ab M ag μ ah ⟨S,af,Y,v,P,C,s⟩ ad
 refine⟨λF=>?_,λF=>?_⟩
 .simp only[ar]at F
  let⟨I,G⟩:=cL x.args ab
  let⟨W,X⟩:=D.args I (aq G)
  have N0:=v.len 0 bn
  refine⟨_,s.cq (k:=0) bn,?_⟩
  refine(mV (Z C.ext) (s.nX (k:=0) bn V) (by rw[N0];exact D.args) (h:=ab) V).mono λU m4⟨j,z,q⟩=>⟨λj u=>q.same j (C.box j u).1,j,z,λ_=>⟨V,V,I,(B.ext (C.ext.trans q)).aF G,?_⟩,λ_=>ad V _ ⟨S,af,Y,v,P.trans (dx.eI _ q s.new),C.iu q,s.ext q⟩⟩
  have w:=C.iu q
  have y:To e m S m4:=P.trans (dx.eI _ q s.new)
  refine(vf (s.ext q) v hn W X).mono λU m5⟨j,t,z,A,h5⟩=>⟨w.dz A,j,z,λu=>.no (y.trans A),λu=>?_⟩
  obtain⟨T,N,R,ac,hl,rfl⟩:=h5 (by simpa using u)
  exact ad V _ ⟨t,T,_,v.aS hl,y.trans A,w.to A,R⟩
 .refine dW (n:=x.args.length) (aa▸B.gX) (λ_ t=>J M t) (J.aA _) ?_
  rintro T M4 I4 μ4 ai q ac
  have w:=C.iu q
  have y:To e m S M4:=P.trans (dx.eI _ q s.new)
  have t:=s.ext q
  refine⟨λF=>?_,λF=>⟨λae=>?_,λ_=>.Pv y t v⟩⟩
  .simp only[ar]at F
   let⟨I,G⟩:=cL x.args T
   let⟨W,X⟩:=D.args I (aq G)
   refine(oA (Z w.ext) (T:Int)).mono λU m5⟨j,z,A⟩=>⟨λj u=>A.same j (w.box j u).1,j,z,λ_=>⟨V,V,I,(B.ext (w.ext.trans A)).aF G,?_⟩,λ_=>ac V _ (q.trans A)⟩
   refine(sY (t.ext A) v hn W X).mono λU m6⟨j,z,N⟩=>⟨λj u=>N.same j (A.lt (w.box j u).1),j,z,λ_=>.no (y.trans (dx.eI _ (A.trans N) t.new)),λ_=>ac V _ ((q.trans A).trans N)⟩
  .simp only[ar]at ae
   have I:=D.cg
   have u:=v.len 5 bn
   have N:=t.len (k:=5) bn
   have z:cG (x.cg -1)=x.cg -1:=aR V V
   let⟨G,A⟩:=cL (Y 5) ((x.cg -1).toNat)
   let⟨wr,R,j⟩:=t.put (k:=5) (i:=(x.cg -1).toNat) bn V (-1)
   rw[z]
   exact⟨_,t.cq (k:=5) bn,V,V,G,t.aF (k:=5) bn V A,λ_=>.no y,λ_=>⟨_,t.cq (k:=5) bn,V,V,wr,w.dz j,.Pv (y.trans j) R (v.tok (by simp[u]))⟩⟩
end
end
section
variable{M:E}
def Og(a:Nat->Nat)(m:E):List Nat:=(List.range m.size).filter λb=>a b≠0
def Qk(c:Nat->Nat)(m:E):∀b∈Og c m,b<m.size:=λb a=>by simp[Og]at a;exact a.1
def Ta{d:Nat->Nat}{m a:E}(gN:∀b,b<a.size->d b=0)(e:J a M):Le a (bI (Og d m) M):=
 (Ap a).trans (e.bI λb c=>Or.inr (by
  simp[Og]at c;exact HI λh=>c.2 (gN b h)))
def dx.aaa{a l:Nat->Nat}{m f:E}(h:To a f l M)(k:∀b,m.size<=b->a b=0):Le (bI (Og a m) f) M:=λb o v j=>by
 let⟨d,e⟩:=eS.1 j;have i:=mC e;have g:a b=0:=by
  rcases aX b m.size with c|c
  .simp[Og]at d;exact d c
  .exact k b c
 rw[aI (h.eC b i (by simp[g]))];exact e
def RI(c:List bB)(h:List gU)(i:Prop)(b:Bk):Prop:=∀(e:Nat->Nat)(m a:E)(d:Nat)(l:Nat->O)(L:Nat->List Int)(n k:Nat)(g r t:O),J a m->(∀b,b<a.size->e b=0)->jC e m d l L->sP c n L->WB c h.length i n b->n+4*b.w<=10^12->k<=n->eM a g r c h->eR a t b.aE->
 aO cp 296 [vp d 0,.agg #[O.v g,O.v r],.agg #[O.v t,vi b.aT],vi k] m (Cw e m d λf=>(∀j,j<6->(f j).length=k)/\(f 6).length<=10^12)
def Xd(m:E)(n:Nat)(v:Value)(c:E):Prop:=∃(a:Nat)(d:Bool),v=.tuple #[vp a 0,vb d]/\J m c/\(d=true->∃e f L,(∀b,b<m.size->e b=0)/\jC e c a f L/\∀j,j<6->(L j).length=n)
def qC.same{c:List bB}{n b:Nat}{L a:Nat->List Int}(h:qC c n b L)(e:∀k,k<7->a k=L k):qC c n b a:=
 ⟨λk d=>by rw[e k V];exact h.len k d,by rw[e 2 bn];exact h.Xu,by rw[e 3 bn,e 4 bn];exact h.Pu,by rw[e 6 bn];exact h.cY⟩
section
variable{o:Nat->Nat}{m g:E}{j:Nat}{f:Nat->O}{L:Nat->List Int}{e:List bB}{h:List gU}{b:Nat}{d r a l:O}{x:cZ}{c:Prop}
def RB(hx:J g m)(aE:jC o m j f L)(hi:sP e b L)(P:eM g d r e h)(ha:ap g a x.args)(hk:nT g l x.bF)(hw:WS e h.length c b x)(t:b+4*x.w<=10^12){ab:Nat}{p:Bk}(aa:x.bF[ab]? =some p)(ih:RI e h c p):
 aO cp 277 [vp j 0,.agg #[O.v d,O.v r],pD x a l,vi ab] m (Xd m b):=by
 apply zh (j,0)
 simp -zeta only[aD,aC,bW]
 intro I D
 let⟨x2,hl⟩:=dI (a:=I) (c:=D) rfl rfl
 clear_value D
 clear_value I
 have h2:=aE.ext x2
 have ao:=hi.len
 have l0:=h2.len (k:=0) bn
 have n0:=ao 0 bn
 have aY:=aw aa
 have aZ:=hk.len
 have aX:=xk aa
 have a2:=cZ.mJ x
 have Y:=hw.bF ab p aa
 have w:=hx.trans x2
 let⟨ae,ht,f0,f1⟩:=hk.aF aa
 refine⟨_,h2.cq (k:=0) bn,?_⟩
 refine(No h2 (λu hj=>by
  by_cases A:u<6
  .rw[ao u A];omega
  .have:u=6:=V;subst this;exact hi.cY)).mono λv m3⟨C,z,H,K,aR,s,q,h3,y⟩=>⟨H.VA hl (J.aA _)|>λ_=>λp t=>H.same p (hl p t),(C,0),z,?_⟩
 have R:sP e b s:=hi.same y
 have ai:HN D [I.size,m.size] K m3:=⟨H,q,λp t=>⟨H.lt (hl p t),q p (hl p t)⟩⟩
 have iS:∀(M:E)(ac:Nat->Nat)(ah:Nat->O)(X:Nat->List Int)(F:Nat),HN D [I.size,m.size] ac M->jC ac M C ah X->sP e F X->WB e h.length c F p->F<=b+3->b<=F->
  aO cp 296 [vp C 0,.agg #[O.v d,O.v r],.agg #[O.v ae,vi p.aT],vi ((f 0).len:Int)] M λv m'=>eF [I.size,m.size] M m'/\∃S:Bool,v=vb S/\Xd m b (.tuple #[vp C 0,vb S]) m':=λM ac ah X F U aA an aF a1 aH=>by
  have e0:(f 0).len=b:=V
  rw[e0]
  refine(ih ac M D C ah X F b d r ae U.ext U.gN aA an aF V aH (P.le w.le) (ht.le w.le)).mono λv m'⟨S,G,z,c5,N⟩=>⟨U.dz c5,S,z,C,S,rfl,x2.trans (U.to c5).ext,λaJ=>?_⟩
  obtain⟨T,W,A,h7,_⟩:=N aJ
  exact⟨G,T,W,λp t=>(U.to c5).gN p (x2.lt t),A,h7⟩
 refine⟨λB=>?_,λB=>?_⟩
 .simp only[aG]at B
  have ax:=P.br.le w.le
  obtain⟨aW,_⟩:=hw.fj.all B
  refine(iH (Qk K m3) (ax.le H.le) P.types x.bS).mono λv m4⟨s4,l4,z,aK,e4,x4⟩=>⟨λp t=>x4.same p (ai.box p t).1,s4,z,?_⟩
  subst e4
  let⟨q,av⟩:=cL (cB e x.bS) ab
  have ay:=aK.le (bD _ _)
  have l4:=ay.len
  refine⟨V,V,q,ay.aF av,?_⟩
  have ad:=ai.iu x4
  have h4:=h3.ext x4
  refine(dN (Qk K m4) (ax.le (Ta ad.gN ad.ext)) P.types q).mono λv m5⟨s5,l5,z,az,e5,x5⟩=>⟨λp t=>x5.same p (ad.box p t).1,s5,z,?_⟩
  subst e5
  have ak:=ad.iu x5
  have N:=h4.ext x5
  have aU:=hw.fj.lY (Or.inr (Or.inr B))
  let⟨y,hy⟩:=cL x.args 0
  let⟨y0,y1⟩:=hw.fj.args y (aq hy)
  have aV:=ha.len
  have N5:=R.len
  have a3:=N.len (k:=3) bn
  have F:=N5 3 bn;have n4:=N5 4 bn
  have ag:∀{M:E},J D M->af M a.D (a.off+Int.toNat (0:Int)*1)=some (vi y):=λxx=>(ha.ext (w.trans xx)).aF hy
  let⟨w6,A,c6⟩:=N.put (k:=3) (i:=y.toNat) bn V q
  refine⟨_,N.cq (k:=3) bn,V,V,y,ag ak.ext,y0,V,w6,?_⟩
  intro m6
  have al:=ak.to c6
  let⟨w7,h7,c7⟩:=A.put (k:=4) (i:=y.toNat) bn (by show _<(s 4).length;omega) ((f 0).len:Int)
  have aL:=A.len (k:=4) bn
  have aB:up s 3 ((s 3).set y.toNat q) 4=s 4:=rfl
  rw[aB]at aL
  refine⟨ak.dz c6,_,A.cq (k:=4) bn,V,V,y,ag al.ext,y0,V,w7,?_⟩
  intro m7
  have aT:=al.to c7
  have F3:=FZ P.types q
  have e0:((f 0).len:Int)=b:=V
  have i7:qC e b (b+(cJ e q).length) (up (up s 3 ((s 3).set y.toNat q)) 4 ((s 4).set y.toNat ((f 0).len:Int))):=by
   refine⟨λu hj=>?_,λv aN hp=>R.Xu v aN (by simpa[up]using hp),λv c ar hc hf h1=>?_,by simpa[up]using R.cY⟩
   .rcases u with _|_|_|_|_|_|u<;>first|omega|(simp[up,N5])
   .have Q:((s 3).set y.toNat q)[v]? =some c:=by simpa[up]using hc
    have Z:((s 4).set y.toNat ((f 0).len:Int))[v]? =some ar:=by simpa[up]using hf
    by_cases ev:y.toNat=v
    .subst ev;rw[dB V]at Q Z;simp at Q Z;subst Q;omega
    .rw[cx ev]at Q Z;have:=R.Pu v c ar Q Z h1;omega
  have a0:=az.len
  refine⟨al.dz c7,?_⟩
  refine dW (n:=(cJ e q).length) V (λu M=>∃G T W,qC e (b+u) (b+(cJ e q).length) W/\To K m5 G M/\HN D [I.size,m.size] G M/\jC G M C T W) ⟨K,_,_,i7,c6.trans c7,aT,h7⟩ ?_
  rintro u M an μ hj ⟨aQ,aS,L8,Z,c8,C,au⟩ aM
  refine dit (λaI=>?_) λaI=>?_
  .let⟨am,hz⟩:=cL (cJ e q) u
   refine⟨V,V,am,(az.le (c8.aaa h4.new)).aF hz,V,V,y,ag C.ext,?_⟩
   exact(Be au (λaP Q=>by rw[Z.len aP Q];omega) am 0 y).mono λv M'⟨G,T,Q,h9⟩=>⟨C.dz Q,aM V _ ⟨G,T,_,by rw[<-dq];exact Z.OU am 0 V,c8.trans Q,C.to Q,h9⟩⟩
  .have Q:u=(cJ e q).length:=V
   subst Q
   rw[KP B av]at Y
   exact⟨V,V,ae,(w.trans C.ext).af f0,p.aT,(w.trans C.ext).af f1,iS M aQ aS L8 _ C au Z Y V V⟩
 .simp only[aj]at B
  rw[KQ B]at Y
  exact⟨V,V,ae,(w.trans H).af f0,p.aT,(w.trans H).af f1,iS m3 K aR s b ai h3 R Y V V⟩
end
end
section
def _root_.Go.Vc.Wa{n b:Nat}(g:b<=n)(o:n<=9223372036854775807){m:E}{e:(Int->E->Prop)->(Int->E->Nat)->Int->E->Prop}(Q:Nat->E->Prop)(f:Q b m)
 (h:∀(k:Nat)(a:E)(I:Int->E->Prop)(μ:Int->E->Nat),b<=k->k<=n->Q k a->
  (k<n->∀c,Q (k+1) c->I (cG ((k:Int)+1)) c/\μ (cG ((k:Int)+1)) c<μ k a)->e I μ k a):
 ∃(I:Int->E->Prop)(μ:Int->E->Nat),I b m/\∀i a,I i a->e I μ i a:=by
 refine⟨λi c=>∃k:Nat,i=k/\b<=k/\k<=n/\Q k c,λi _=>(n -i).toNat,⟨b,rfl,ad _,g,f⟩,?_⟩
 rintro i a ⟨k,rfl,j,l,p⟩
 refine h k a _ _ j l p λd c q=>?_
 rw[kQ d o]
 exact⟨⟨k+1,rfl,V,d,q⟩,DM d⟩
section
variable{b:Nat->Nat}{m f:E}{e:Nat}{o:Nat->O}{L:Nat->List Int}{g:List bB}{l:List gU}{h:Nat}{d r i j:O}{x:cZ}{c:Prop}
def Nm(hx:J f m)(gN:∀p,p<f.size->b p=0)(t:jC b m e o L)(hi:sP g h L)(hN:eM f d r g l)(ha:ap f i x.args)(hk:nT f j x.bF)(P:WS g l.length c h x)(q:h+4*x.w<=10^12)(au:x.op=7\/x.op=8)(ih:∀p∈x.bF,RI g l c p):
 aO cp 237 [vp e 0,.agg #[O.v d,O.v r],pD x i j] m (Cw b m e (sP g h)):=by
 apply vE (e,0)
 simp -zeta only[aD,aC,bW]
 intro X I
 have st:=HN.TO (a:=X) (g:=I) hx gN t.new rfl rfl
 let⟨Q,D⟩:=dI (a:=X) (c:=I) rfl rfl
 clear_value I
 clear_value X
 have al:=hk.len
 have aG:=ha.len
 have aE:=P.fj.lY V
 have am:0<x.bF.length:=by
  rcases au with U|h8
  .have:=P.fj.Kw U;omega
  .exact(P.fj.all h8).2
 have N:∀{M:E},J I M->To b m b M:=λz=>dx.eI _ (Q.trans z) t.new
 have ag:∀(M:E)(H:Nat)(p:Bk),J I M->x.bF[H]? =some p->aO cp 277 [vp e 0,.agg #[O.v d,O.v r],pD x i j,vi H] M (Xd M h):=λM H p z ah=>
  RB (hx.trans (Q.trans z)) (t.ext (Q.trans z)) hi hN ha hk P q ah (ih p (aq ah))
 refine⟨λM=>J I M,⟨λ_=>?_,λ_=>J.aA _⟩,?_⟩
 .let⟨y,u⟩:=cL x.args 0
  let⟨w,A⟩:=P.fj.args y (aq u)
  refine⟨bn,V,y,(ha.ext st.ext).aF u,?_⟩
  exact(sY (t.ext Q) hi V w A).mono λZ Y⟨p,s,v⟩=>⟨λp q=>v.same p (D p q),p,s,λ_=>.no (N v),λ_=>v⟩
 .intro Y v
  let⟨b0,ak⟩:=dG am
  refine(ag Y 0 b0 v ak).mono λZ m4⟨ac,ay,s,R,h1⟩=>⟨λp q=>R.same p (v.lt (D p q)),(ac,0),ay,s,λ_=>.no (N (v.trans R)),λab=>?_⟩
  let⟨az,ad,L1,ai,h1,n1⟩:=h1 (by simpa using ab)
  have av:=n1 1 bn;have aw:=n1 5 bn
  refine Wa (n:=x.bF.length) (b:=1) V (al▸hk.gX) (λ_ M=>J m4 M) (J.aA _) ?_
  rintro H M aA μ aF aH S ax
  have y:=(v.trans R).trans S
  have A:=h1.ext S
  refine⟨λW=>?_,λW=>?_⟩
  .simp only[ar]at W
   let⟨p,q⟩:=cL x.bF H
   refine(ag M H p y q).mono λZ m6⟨aa,aj,s,u,C⟩=>⟨λp q=>u.same p (y.lt (D p q)),(aa,0),aj,s,λ_=>.no (N (y.trans u)),λab=>?_⟩
   let⟨aL,aM,L2,aK,C,n2⟩:=C (by simpa using ab)
   have an:=n2 1 bn;have aJ:=n2 5 bn
   have B:=A.ext u
   refine⟨_,B.cq (k:=1) bn,_,C.cq (k:=1) bn,?_⟩
   refine(qU (B.nX (k:=1) bn V) (C.nX (k:=1) bn V)).mono λZ m7⟨F,s,_,w⟩=>⟨λp q=>w.same p (u.lt (y.lt (D p q))),F,s,λ_=>.no (N (y.trans (u.trans w))),λ_=>?_⟩
   have T:=B.ext w
   have U:=C.ext w
   refine⟨_,T.cq (k:=5) bn,_,U.cq (k:=5) bn,?_⟩
   refine(qU (T.nX (k:=5) bn V) (U.nX (k:=5) bn V)).mono λZ m8⟨F,s,_,K⟩=>⟨λp q=>K.same p (w.lt (u.lt (y.lt (D p q)))),F,s,λ_=>.no (N (y.trans (u.trans (w.trans K)))),λ_=>?_⟩
   exact ax V _ (S.trans (u.trans (w.trans K)))
  .let w:Nat->Nat:=λp=>if p<Y.size then b p else az p
   have uu:=Q.trans v
   have z:=uu.trans (R.trans S)
   have z4:=R.size;have zM:=S.size;have T:=uu.size
   have K:∀p,p<Y.size->w p=b p:=λp q=>ao q
   have H0:jC w M e o L:=by
    refine⟨λp q=>?_,by rw[K _ (aP t.box.lt T)];exact t.gY,(t.ext z).box,λu F=>(t.qD u F).eC (λB=>z.same _ ((t.qD u F).D B).1) λB=>K _ (aP ((t.qD u F).D B).1 T)⟩;simp only[w];rw[ae V];exact A.new p q
   have aa:∀u,u<7->iR w M aB 1 (u+1) (ad u) ((L1 u).map Ce.i):=λu F=>(A.qD u F).eC (λ_=>rfl) λB=>by
    have C:=((A.qD u F).D B).2;simp only[w];rw[ae λW=>by rw[ai _ W]at C;omega]
   have c3:To b m w M:=⟨z.size,λp q=>K p (aP q T),H0.new,λp q _=>z.same p q⟩
   have aj:HN f [X.size,m.size] w M:=⟨st.ext.trans y,λp q=>by rw[K p (aP (aP q hx.size) T)];exact gN p q,λp q=>⟨y.lt (D p q),by rw[K p (v.lt (D p q))];exact(st.box p q).2⟩⟩
   clear_value w
   refine⟨_,A.cq (k:=1) bn,?_⟩
   let⟨w5,h5,c5⟩:=H0.Xw (k:=1) bn (aa 1 bn)
   refine⟨w5,?_⟩
   intro m9
   have an:ac≠e:=λs=>by
    have h8:=A.gY;rw[s,ai _ (aP t.box.lt T)]at h8;omega
   have G:af m9 ac 5=some (O.v (ad 5)):=(aI (bg _ _ _ _ an) _).trans (A.cq (k:=5) bn)
   have A5:iR w m9 aB 1 (5+1) (ad 5) ((L1 5).map Ce.i):=by
    refine(aa 5 bn).eC (λB=>bg _ _ _ _ λs=>?_) λ_=>rfl;have:=((aa 5 bn).D B).2;rw[s,H0.gY]at this;omega
   let⟨w6,h6,c6⟩:=h5.Xw (k:=5) bn A5
   exact⟨aj.dz c5,_,G,w6,(aj.to c5).dz c6,.Pv ((c3.trans c5).trans c6) h6 ((hi.aS av).tok aw)⟩
end
end
section
section
variable{b:Nat->Nat}{m g:E}{f:Nat}{l:Nat->O}{L:Nat->List Int}{e:List bB}{h:List gU}{n:Nat}{d r a j:O}{x:cZ}{c:Prop}
def Hf(hx:J g m)(gN:∀o,o<g.size->b o=0)(aa:jC b m f l L)(w:sP e n L)(U:eM g d r e h)(D:ap g a x.args)(hk:nT g j x.bF)(F:WS e h.length c n x)(u:n+4*x.w<=10^12)(ih:∀o∈x.bF,RI e h c o):
 aO cp 214 [vp f 0,.agg #[O.v d,O.v r],pD x a j] m (Cw b m f (sP e (n+dn x))):=by
 apply xS (f,0)
 simp -zeta only[aD,aC,bW]
 intro R X
 have S:=HN.TO (a:=R) (g:=X) hx gN aa.new rfl rfl
 have x2:J m X:=(dI (a:=R) (c:=X) rfl rfl).1
 clear_value X
 clear_value R
 have h2:=aa.ext x2
 have an:=D.len
 have ar:=cZ.mJ x
 have N0:=w.len 0 bn
 refine⟨_,h2.cq (k:=0) bn,?_⟩
 refine(oF (U.le S.ext.le) (h2.nX (k:=0) bn V) (D.ext S.ext) (hk.le S.ext.le) V (λo _=>nG o)).mono λA m3⟨G,t,_,x3⟩=>⟨λo u=>x3.same o (S.box o u).1,G,t,?_⟩
 have s:=S.iu x3
 have C:=h2.ext x3
 have P:To b m b m3:=dx.eI _ (x2.trans x3) aa.new
 have lY:14<=x.op\/x.op=7\/x.op=8->∃y:Int,x.args[0]? =some y/\0<=y/\y<(n:Int):=λho=>by
  have:=F.fj.lY ho;let⟨y,K⟩:=cL x.args 0;exact⟨y,K,F.fj.args y (aq K)⟩
 refine⟨λok M=>∃v,To b m v M/\HN g [R.size,m.size] v M/\(ok=true->∃Z N,jC v M f Z N/\sP e n N),⟨λai=>?_,λau=>⟨λaj=>?_,λav=>⟨λak=>?_,λaw=>⟨λh7=>?_,λn7=>?_⟩⟩⟩⟩,?_⟩
 .simp only[aG]at ai
  let⟨y,K,B,W⟩:=lY V
  have ac:=F.fj.lY V
  have Y:∀{M:E},J g M->af M a.D (a.off+Int.toNat (0:Int)*1)=some (vi y):=λT=>(D.ext T).aF K
  refine⟨bn,V,y,Y s.ext,?_⟩
  refine(sY C w V B W).mono λA H⟨o,t,q⟩=>⟨λo u=>q.same o (s.box o u).1,o,t,?_⟩
  have p:=C.ext q
  have z:=s.iu q
  have N1:=w.len 1 bn
  have l1:=p.len (k:=1) bn
  let⟨ab,ad⟩:=cL (L 1) y.toNat
  let⟨wr,Q,I⟩:=p.put (k:=1) (i:=y.toNat) bn V (cG (ab+1))
  exact⟨_,p.cq (k:=1) bn,bn,V,y,Y z.ext,_,p.cq (k:=1) bn,bn,V,y,Y z.ext,B,V,ab,p.aF bn V ad,B,V,wr,z.dz I,b,(P.trans (dx.eI _ q C.new)).trans I,z.to I,λ_=>⟨l,_,Q,w.aS (by simp[N1])⟩⟩
 .simp only[aG]at aj
  let⟨y,K,B,W⟩:=lY V
  have ac:=F.fj.lY V
  refine⟨bn,V,y,(D.ext s.ext).aF K,?_⟩
  refine(vf C w V B W).mono λA H⟨o,v,t,q,p⟩=>⟨s.dz q,o,t,v,P.trans q,s.to q,λu=>?_⟩
  obtain⟨Z,N,Q,ab,Y,rfl⟩:=p u
  exact⟨Z,_,Q,w.aS Y⟩
 .simp only[bT,aG]at ak
  refine(Qs s.ext s.gN C w V U D F.fj V).mono λA H⟨o,v,t,q,p⟩=>⟨s.dz q,o,t,v,P.trans q,s.to q,p⟩
 .simp only[bT,aG]at h7
  refine(Nm s.ext s.gN C w U D hk F u h7 ih).mono λA H⟨o,v,t,q,p⟩=>⟨s.dz q,o,t,v,P.trans q,s.to q,p⟩
 .refine(J6 s.ext s.gN C w V U D F.fj).mono λA H⟨o,v,t,q,p⟩=>⟨s.dz q,o,t,v,P.trans q,s.to q,p⟩
 .rintro ok M ⟨ax,q,z,p⟩
  refine⟨λ_=>.no q,λam=>?_⟩
  let⟨ay,L4,p,i4⟩:=p (by simpa using am)
  have gr:∀{M':E}(G Y:Int),J M M'->dn x=1->aO cp 234 [vp f 0,vi G,vi Y,vi (-1:Int)] M' λ_ m'=>eF [R.size,m.size] M' m'/\Cw b m f (sP e (n+dn x)) (vb true) m':=λG Y T hd=>
   (Be (p.ext T) (λH B=>by rw[i4.len H B];omega) G Y (-1)).mono λ_ m'⟨v,Z,I,Q⟩=>⟨(z.iu T).dz I,.Pv ((q.trans (dx.eI _ T p.new)).trans I) Q (by rw[hd];exact(i4.OU G Y V).DW V)⟩
  refine(jW x.op M).mono λA m5⟨o,t,ab,B⟩=>⟨λo u=>B.same o (z.box o u).1,o,t,λag=>⟨λ_=>gr G 1 B (by have:=tB x o ab;rw[ao ag]at this;exact this),λ_=>?_⟩,λal=>?_⟩
  .refine(jW x.op m5).mono λA m6⟨N,t,W,H⟩=>⟨λo u=>H.same o (B.lt (z.box o u).1),N,t,λad=>gr 0 0 (B.trans H) (by have:=tB x N W;rw[ao ad]at this;exact this),λac=>?_⟩
   have:=W.2 (ab.1 ag);rw[this]at ac;simp at ac
  .have ah:=tB x o ab
   rw[ae (by simp[al])]at ah
   exact(jW x.op m5).mono λA m6⟨N,t,W,H⟩=>⟨λo u=>H.same o (B.lt (z.box o u).1),N,t,λad=>gr 0 0 (B.trans H) (by have:=tB x N W;rw[ao ad]at this;exact this),λac=>.Pv (q.trans (dx.eI _ (B.trans H) p.new)) (p.ext (B.trans H)) (by rw[ah];exact i4)⟩
end
def Ns{B:List bB}{rs:List gU}{H:Prop}:∀b:Bk,RI B rs H b:=by
 refine Bk.ind ?_;intro aE ac ih r p mb E sl L aa D af am ap Y gN t Q W o hk O x;simp only[Bk.j8,Bk.jE,Bk.qW]at*;apply wO (E,0);simp -zeta only[aD,aC,bW];intro q m;have st:=HN.TO (a:=q) (g:=m) Y gN t.new rfl rfl;have F:J p m:=(dI (a:=q) (c:=m) rfl rfl).1;have I:To r p r m:=dx.eI _ F t.new;clear_value m;clear_value q;let⟨C,y,r1⟩:=W.aU;simp only[Bk.j8,Bk.jE]at C y r1;have U:=x.len;have T:=BV aE;refine dW (n:=aE.length) (U▸x.gX) (λi M=>∃g s h,sP B (aa+dc (aE.take i)) h/\To r p g M/\HN mb [q.size,p.size] g M/\jC g M E s h) ⟨r,sl,L,by simpa using Q,I,st,t.ext F⟩ ?_;rintro i M ad μ ah ⟨an,ao,G,f,j,c,d⟩ ab
 have ag:=tz (aE.take i);have ai:=qY i aE;have aj:=gB (aE.take i);refine dit (λS=>?_) λS=>?_
 .let⟨w,l⟩:=cL aE i;let⟨ae,kk,P,R,z,g1,g2,K,N⟩:=x.aF l;have al:=qu l;have ak:=T (i+1);have X:=c.ext;refine⟨V,V,_,X.af z,_,X.af g1,_,X.af g2,_,X.af K,_,X.af N,?_⟩;refine(Hf X c.gN d f O P R (C i w l) V (ih w (aq l))).mono λA m4⟨b,g,e,a,u⟩=>⟨c.dz a,b,e,λ_=>.no (j.trans a),λo=>?_⟩;let⟨s,h,v,Z⟩:=u (by simpa using o);exact ab V _ ⟨g,s,h,by rw[(rf l),<-dq];exact Z,j.trans a,c.to a,v⟩
 .have K:i=aE.length:=V;rw[K,fB]at f;have ae:=tz aE;have ak:=gB aE;have Z:=f.len 0 bn;have l0:=d.len (k:=0) bn;let⟨X,P⟩:=cL (G 0) ac.toNat;refine⟨_,d.cq (k:=0) bn,y,V,X,d.aF bn V P,λ_=>?_,λ_=>?_⟩
  .refine(vf d f V y V).mono λA m4⟨b,g,e,a,u⟩=>⟨c.dz a,b,e,λ_=>.no (j.trans a),λo=>?_⟩;obtain⟨s,h,v,al,N,rfl⟩:=u (by simpa using o);refine(Mi v (f.aS N) V (b:=D) V).mono λA R⟨b,z,e,l,w⟩=>⟨(c.to a).dz l,b,e,b,z,rfl,(j.trans a).trans l,w⟩
  .refine(Mi d f V (b:=D) V).mono λA R⟨b,z,e,l,w⟩=>⟨c.dz l,b,e,b,z,rfl,j.trans l,w⟩
def Yb(m:E)(f:List bB)(q:gU)(j:Int)(v:Value)(c:E):Prop:=∃(a:Nat)(d:Bool),v=.tuple #[vp a 0,vb d]/\J m c/\(d=true->0<=j/\j<=q.body.aE.length/\∃e g L,(∀b,b<m.size->e b=0)/\jC e c a g L/\sP f (q.params.length+dc (q.body.aE.take j.toNat)) L)
def EY{m:E}{I T:O}{f:List bB}{z:List gU}{ab:Prop}{W:Nat}(h:eM m I T f z)(P:yH f z ab W)(hW:W<=200000000000){K:Nat}{a:gU}(w:z[K]? =some a){j:Int}(hj: -9000000000000000000<=j/\j<=9000000000000000000):
 aO cp 193 [.agg #[O.v I,O.v T],vi K,vi j] m (Yb m f a j):=by
 apply xP
 simp -zeta only[aD,aC]
 intro k
 have D:J m k:=J.push _ _
 have g:∀b∈[m.size],b<k.size:=by simp[k]
 clear_value k
 have aH:=h.jg.len;have aG:=h.oQ
 have aE:=aw w
 let⟨ah,af,ak,hw⟩:=P.dD a (aq w)
 let⟨aL,aM,b,c1,c2,H,e0,e1,e2,v,e4⟩:=h.jg.aF w
 have x:∀{M:E}{an:Obj},J m M->Yb m f a j (.tuple #[vp M.size 0,vb false]) (M.push an):=λxx=>⟨_,false,rfl,xx.aL _,aN⟩
 refine(Fq (h.le D.le) (λd c=>oh (P.dD d c))).aJ (J.aA k) g λv1 m2 F _=>⟨_,rfl,λ_=>x (D.trans F),λ_=>?_⟩
 have Y:=D.trans F
 refine(bd _ _ _ _).aJ F g λv2 m3 _ Z v3=>⟨_,rfl,λ_=>x (Y.trans Z),λ_=>?_⟩
 have B:=Y.trans Z
 have az:=H.len
 refine⟨V,V,_,B.af v,?_⟩
 refine(bd _ _ _ _).aJ v3 g λv4 R ac x4 C=>⟨_,rfl,λ_=>x (B.trans x4),λaj=>?_⟩
 have c:=B.trans x4
 have hr:=ac.1 (by simpa using aj)
 refine⟨V,V,_,c.af e0,_,c.af e1,_,c.af e2,_,c.af v,_,c.af e4,?_⟩
 refine(IW (q:=a) (c1.ext c) (c2.ext c) ah af f).mono λau S⟨t,u,G,y,sl,aa,gN,L,i5⟩=>⟨λb d=>G.same b (C.lt (g b d)),(t,0),u,?_⟩
 obtain⟨al,_,_⟩:=ak.aU
 have aA:=Bk.mJ a.body
 have ai:=BV a.body.aE
 have ar:HN R [m.size] y S:=⟨G,gN,λb d=>⟨G.lt (C.lt (g b d)),gN b (C.lt (g b d))⟩⟩
 have e6:j=((j.toNat:Nat):Int):=V
 obtain⟨s,ad⟩:∃s:Nat,j=s:=⟨j.toNat,e6⟩
 subst ad
 simp only[um]
 refine dW (n:=s) V (λi M=>∃l A o,sP f (a.params.length+dc (a.body.aE.take i)) o/\To y S l M/\HN R [m.size] l M/\jC l M t A o) ⟨y,sl,aa,by simpa using i5,L.to,ar,L⟩ ?_
 rintro i M ax μ aF ⟨ao,ap,L6,Q,c6,e,N⟩ am
 have U:J m M:=c.trans e.ext
 refine dit (λag=>?_) λag=>?_
 .let⟨av,r⟩:=cL a.body.aE i
  let⟨ay,kk,ha,ae,g0,g1,g2,g3,g4⟩:=(H.le c.le).aF r
  have X:=e.ext
  have aK:=qu r
  have aJ:=ai (i+1)
  have aB:=tz (a.body.aE.take i)
  have aI:=gB (a.body.aE.take i)
  refine⟨V,V,_,U.af v,V,V,_,X.af g0,_,X.af g1,_,X.af g2,_,X.af g3,_,X.af g4,?_⟩
  refine(Hf X e.gN N Q (h.le c.le) ha ae (al i av r) V (λb _=>Ns b)).mono λau m7⟨b,l,u,p,h7⟩=>⟨e.dz p,b,u,λ_=>⟨t,false,rfl,c.trans (e.to p).ext,aN⟩,λd=>?_⟩
  let⟨A,o,h8,i8⟩:=h7 (by simpa using d)
  exact am V _ ⟨l,A,o,by rw[rf r,<-dq];exact i8,c6.trans p,e.to p,h8⟩
 .have l:i=s:=V
  subst l
  exact⟨t,true,rfl,U,λ_=>⟨V,V,ao,ap,L6,λb d=>e.gN b (c.lt d),N,by simpa using Q⟩⟩
end
section
variable{f d:Int}{c P:Nat}{m:E}
def Ss(a:0<=f)(b:0<d):0<=f.tmod d/\f.tmod d<d:=⟨Int.tmod_nonneg _ a,Int.tmod_lt_of_pos _ b⟩
def Ol(a:0<=f)(b:0<d):0<=f.tdiv d/\f.tdiv d<=f:=by
 rw[qy a];exact⟨Int.ediv_nonneg a V,Int.ediv_le_self _ a⟩
def VH{b:Int}(e:0<=f/\f<4611686018427387904)(g:0<=b/\b<4611686018427387904):0<=VG f b:=by
 unfold VG;have a:(f%18446744073709551616).toNat<2^62:=V;have c:(b%18446744073709551616).toNat<2^62:=V;have d:=Nat.xor_lt_two_pow a c;rw[aR V V];omega
def Rd(c:Nat)(a:O)(P:Nat)(m:E):Prop:=(∃p:Int,cK m c qx [.s a,.i p]/\0<=p/\p<=P)/\a.len<=a.cap/\∀k:Nat,k<a.len->∃v:Int,0<=v/\v<=255/\af (bI [c] m) a.D (a.off+k*1)=some (.int .u8 v)
def Rd.mono{Q:Nat}{a:O}(h:Rd c a P m)(g:P<=Q):Rd c a Q m:=let⟨⟨p,b,d,f⟩,e⟩:=h;⟨⟨p,b,d,V⟩,e⟩
def Rd.lt{c P:Nat}{a:O}{m:E}(h:Rd c a P m):c<m.size:=let⟨⟨_,b,_⟩,_⟩:=h;b.lt
def Rd.Nd{f:Nat}{b:O}{e M a:E}(d:Rd c b f e)(h:Rd c b P M)(l:Fz [c] e a)(k:a[c]? =M[c]?):Rd c b P a:=by
 obtain⟨⟨p,g,i,j⟩,_⟩:=h;exact⟨⟨p,g.congr k,i,j⟩,d.2.1,λo m=>let⟨v,q,r,n⟩:=d.2.2 o m;⟨v,q,r,l.dj (λ_ h=>h) _ _ _ n⟩⟩
def Rd.ext{a:O}{d:E}(h:Rd c a P m)(b:J m d):Rd c a P d:=h.Nd h (b.fz _) (b.same _ h.lt)
def Rd.ai{c g P:Nat}{a:O}{d M:E}(f:Rd c a g d)(h:Rd c a P M)(j:Fz [c] d M){b:Nat}(i:d.size<=b)(o:Nat)(l:List Ce):Rd c a P (ai M b o l):=
 f.Nd h (j.ai (Or.inr i) o l) (bg _ _ _ _ λe=>oh f.lt)
def Yj(c:Nat)(b:O)(P:Nat)(m:E)(d:Int)(v:Value)(a:E):Prop:=∃k:Int,v=vi k/\0<=k/\(k<d\/k=0)/\Rd c b (P+1) a/\Fz [c] m a
def cr{e:O}(s:Rd c e P m)(hP:P<=10^16)(d:Int):aO cp 47 [vp c 0,vi d] m (Yj c e P m d):=by
 let⟨⟨p,t,q,p1⟩,X,E⟩:=s;apply xW (c,0);simp -zeta only[bW];have g1:af m c 1=some (vi p):=t.cq 1;refine⟨p,g1,t.fO aN,?_⟩;intro g;have U:cG (p+1)=p+1:=aR V V;have T:cG (p+1 -1)=p:=by rw[show p+1 -1=p by omega];exact aR V V
 have w:cK g c qx [.s e,.i (p+1)]:=by rw[<-U];exact cK.ai (m:=m) (r:=[.i (cG (p+1))]) (o:=1) t
 have A:Fz [c] m g:=(Fz.aA [c] m).ai (Or.inl aN) _ _;have F:Le (bI [c] m) (bI [c] g):=A.dj λ_ s=>s;clear_value g;have R:∀k:Int,0<=k->(k<d\/k=0)->Yj c e P m d (vi k) g:=λk C D=>⟨k,rfl,C,D,⟨⟨p+1,w,V,V⟩,X,λj f=>let⟨v,i,l,h⟩:=E j f;⟨v,i,l,F _ _ _ h⟩⟩,A⟩;have f:af g c 0=some (O.v e):=w.cq 0;have g1:af g c 1=some (vi (p+1)):=w.cq 1;have B:∀j:Int,0<=j->j<(e.len:Int)->∃v:Int,0<=v/\v<=255/\af g e.D (e.off+j.toNat*1)=some (.int .u8 v):=λj C D=>by
  let⟨v,i,l,h⟩:=E j.toNat V;exact⟨v,i,l,(eS.1 (F _ _ _ h)).2⟩
 refine⟨λ_=>R 0 (de _) (Or.inr rfl),λZ=>⟨_,f,λ_=>R 0 (de _) (Or.inr rfl),λY=>?_⟩⟩;simp only[bO]at Z;simp only[aj]at Y;have G:0<d:=V;refine⟨_,g1,_,f,?_⟩;rw[T];refine⟨λz=>?_,λ_=>?_⟩
 .simp only[ar]at z;let⟨v,i,l,h⟩:=B p q z;refine⟨_,f,q,z,v,h,V,?_⟩;rw[aR V V];have:=Ss i G;exact R _ this.1 (Or.inl this.2)
 .have y:(0:Int)<(e.len:Int):=V;let⟨I,J⟩:=Ss q y;let⟨v,i,l,h⟩:=B _ I J;have S:cG (cG (p*7)+3)=p*7+3:=by rw[aR (b:=p*7) V V,aR V V]
  let⟨K,L⟩:=Ss (f:=p*7+3) V y;let⟨u,u0,u1,hu⟩:=B _ K L;let⟨d0,d1⟩:=Ol q y;rw[S];refine⟨_,f,_,f,V,I,J,v,h,_,f,_,f,V,K,L,u,hu,_,f,V,bn,V,?_⟩;have M:cG (cG v*131)=v*131:=by rw[aR (b:=v) V V,aR V V]
  have N:cG (cG u*1117)=u*1117:=by rw[aR (b:=u) V V,aR V V]
  have E3:cG (p*29)=p*29:=aR V V;have Q:cG (cG (p.tdiv e.len)*53)=p.tdiv e.len*53:=by rw[aR (b:=p.tdiv e.len) V V,aR V V]
  rw[M,N,E3,Q,aR (b:=v*131+u*1117) V V,aR (b:=v*131+u*1117+p*29) V V,aR (b:=v*131+u*1117+p*29+p.tdiv e.len*53) V V];have H:0<=v*131+u*1117+p*29+p.tdiv e.len*53:=V;let⟨q0,q1⟩:=Ol (d:=64) H bn;rw[aR (b:=Int.tdiv _ 64) V V];have W:=VH (f:=v*131+u*1117+p*29+p.tdiv e.len*53) (b:=(v*131+u*1117+p*29+p.tdiv e.len*53).tdiv 64) ⟨H,V⟩ ⟨q0,V⟩;let⟨z0,z1⟩:=Ss W G;exact R _ z0 (Or.inl z1)
def kO{a:O}(h:Rd c a P m)(j:P<=10^16){s:O}{l:List Int}(d:ap (bI [c] m) s l)(o:0<l.length):
 aO cp 53 [vp c 0,O.v s] m λv f=>∃k:Int,v=vi k/\k∈l/\Rd c a (P+1) f/\Fz [c] m f:=by
 apply zk (c,0)
 have p:=d.len
 refine(cr h j (s.len:Int)).mono λv r⟨k,g,n,q,i,b⟩=>⟨k,g,n,V,?_⟩
 let⟨x,e⟩:=cL l k.toNat
 exact⟨x,(eS.1 ((b.dj (λ_ h=>h)) _ _ _ (d.aF e))).2,x,rfl,aq e,i,b⟩
end
section
variable{d:List Nat}{c:E}
def _root_.Go.Vc.Gr.set{α:Type}{d X:List Nat}{t c:E}{z f:Nat}{R:E->List Ce->α->Prop}{s:O}{y:List α}(w:oO f R)(h:Gr d t c z f R s y)(hf:Fz X t c){k:Nat}(I:k<y.length){cs:List Ce}{a:α}(F:R (bI (s.D::d) c) cs a):
 fO c s.D (s.off+k*f) f/\Gr d t (ai c s.D (s.off+k*f) cs) z f R s (y.set k a)/\Fz X t (ai c s.D (s.off+k*f) cs)/\(∀g,g≠s.D->(ai c s.D (s.off+k*f) cs)[g]? =c[g]?):=by
 have hy:=h.bq
 let⟨C,e,D,j⟩:=h
 have ab:∀g,g≠s.D->(ai c s.D (s.off+k*f) cs)[g]? =c[g]? :=λg Z=>bg _ _ _ _ Z
 let⟨g,i,tail,u,Q,A,S,T⟩:=D.aF.resolve_left C
 have H:=w.len F
 let⟨l,x⟩:=cL e k (by rw[j.len];exact I)
 have af:=j.size l (aq x)
 have M:s.off+k*f=k*f:=by rw[u];simp
 have G:s.D=g:=by rw[u];rfl
 have J:=aw x
 have N:e=e.take k++l::e.drop (k+1):=by
  have v:=List.getElem?_eq_some_iff.1 x;let⟨W,Y⟩:=v;rw[<-Y,<-qE W,dv]
 have ad:(e.take k).flatten.length=k*f:=by rw[cy λi n=>j.size i (dF n),gQ,ju V]
 have ac:e.set k cs=e.take k++cs::e.drop (k+1):=by
  rw[Pw,ao J]
 have aa:jt (e.flatten++tail) (k*f) cs=(e.set k cs).flatten++tail:=by
  have U:e.flatten++tail=(e.take k).flatten++(l++((e.drop (k+1)).flatten++tail)):=by
   conv=>lhs;rw[N]
   simp
  rw[U,<-ad,Cs _ _ _ bG,ac];rw[show cs.length=l.length by omega,List.drop_left];simp
 have L:(e.set k cs).flatten.length=e.flatten.length:=by
  rw[cy (b:=f) λi n=>?_,cy j.size,ez];rcases cF n with h|h
  .exact j.size i h
  .rw[h];exact H
 have K:Le (bI (s.D::d) c) (bI (s.D::d) (ai c s.D (s.off+k*f) cs)):=cD aN λ_ h=>h
 refine⟨?_,⟨C,e.set k cs,⟨by rw[L];exact D.len,Or.inr ⟨g,i,tail,u,Q,?_,?_,T⟩⟩,⟨by simp[j.len],λi n=>?_,λP i ae p q=>?_⟩⟩,hf.ai (Or.inr hy.1) _ _,ab⟩
 .rw[M,G]
  refine A.fO ?_
  have:(e.take k).flatten.length+l.length<=e.flatten.length:=by
   conv=>rhs;rw[N]
   simp
  simp only[bh];omega
 .have v:=cK.ai (m:=c) (b:=g) (r:=cs) (o:=k*f) A
  rw[M,G,<-aa];exact v
 .rw[<-S,bh,bh,L]
 .rcases cF n with h|h
  .exact j.size i h
  .rw[h];exact H
 .by_cases B:k=P
  .subst B
   rw[dB J]at p
   rw[dB I]at q
   simp at p q;subst p q
   exact w.le K F
  .rw[cx B]at p q
   exact w.le K (j.dD P i ae p q)
def By(hS:∀a∈d,a<c.size){g C L:O}{S:Int}{aE:List cZ}{q:cZ}{f:Nat}(s:eR (bI d c) g aE)(ha:ap (bI d c) C q.args)(hk:nT (bI d c) L q.bF)(hj:f<=aE.length)(hb:aE.length<=900000000000):
 aO cp 195 [.agg #[O.v g,vi S],vi f,pD q C L] c λai N=>∃W,ai=.agg #[O.v W,vi S]/\eR (bI d N) W (aE.take f++[q]++aE.drop f)/\J c N:=by
 apply Ff
 simp -zeta only[aD,aC]
 intro P h e k
 let⟨r,m,s1,s2,s3⟩:=qF (a:=P) (b:=h) (c:=e) rfl rfl rfl
 have z:J e k:=J.push _ _
 have s4:k.size=e.size+1:=by simp[k]
 have g0:GS (h.size::d) e k (.mk e.size 0 0 0) []:=GS.new _ _
 clear_value k
 clear_value e
 have u4:=r.trans z
 have K:=s.len
 have ak:=s.cap
 have I:∀a∈[h.size,P.size,c.size],a<k.size:=λa b=>z.lt (m a b)
 have H:∀{M:E}{D:Nat},J c M->c.size<=D->Le (bI d c) (bI (D::h.size::d) M):=λxx aj=>xx.bI λa b=>by
  simp only[aW]at b;rcases b with l|l|l
  .exact Or.inr V
  .exact Or.inr V
  .exact Or.inl l
 have X:Int.toNat (0:Int)=0:=rfl
 have Y:Int.toNat (f:Int)=f:=V
 have Z:Int.toNat (g.len:Int)=g.len:=V
 rw[X,Y,Z]
 refine⟨V,V,V,?_⟩
 have ac:eR (bI (e.size::h.size::d) k) (g.cut 0 f 5) (aE.take f):=by simpa using(s.le (H (D:=e.size) u4 V)).La (i:=0) (dQ _) hj
 refine GS.all g0 (z.fz []) ac bG λT y g1 F z1 q1=>⟨λa b=>q1 a (I a b) (by have:=m a b;simp;omega),V,V,V,?_⟩
 intro Q
 have t:J y Q:=J.push _ _
 have y1:=g1.bq
 have n:J e y:=F.ext
 have A:∀o,af Q c.size o=af y c.size o:=λo=>aI (t.same _ (oh (I c.size aN))) o
 refine⟨A 1,A 0,?_⟩
 refine GS.kY (x:=q) g1 F (ha.le (H (D:=T.D) (r.trans n) V)) (hk.le (H (D:=T.D) (r.trans n) V)) bG λU R g2 v z2 q2=>⟨J.oV (n.trans t) v.ext (λa b=>oh (m a b)),?_⟩
 have p:J e R:=v.ext
 have y2:=g2.bq
 have u:∀{M B:E},J e M->J e B->∀o,af B c.size o=af M c.size o:=λaa h' o=>aI (by rw[h'.same _ (m _ aN),aa.same _ (m _ aN)]) o
 refine⟨u (n.trans t) p 1,u (n.trans t) p 0,?_⟩
 have ae:eR (bI (U.D::h.size::d) R) (g.cut f g.len 5) (aE.drop f):=by
  have:=(s.le (H (D:=U.D) (r.trans p) V)).La (i:=f) (j:=g.len) V V;rwa[K,bZ (ad _),<-K]at this
 refine GS.all g2 v ae bG λr3 m8 G w z3 q3=>⟨J.oV p w.ext m,u p w.ext 1,?_⟩
 intro m9
 have y3:=G.bq
 have ab:∀a∈h.size::d,a<e.size:=λa b=>by
  rcases List.mem_cons.1 b with l|l
  .omega
  .have:=hS a l;omega
 refine⟨r3,rfl,?_,(r.trans w.ext).ai V _ _⟩
 have hD:=G.done gK.mono ab bn bG
 have ag:Le (bI (h.size::d) m8) (bI d m9):=cD aN λa b=>ah _ b
 exact eR.le ag (by simpa[fF]using hD)
def Fu(C:∀b∈d,b<c.size){u L p:O}{A:List bB}{w:List gU}{q:gU}{n:Nat}{l:Bk}(i:eM (bI d c) u L A w)(D:w[n]? =some q)(h3:q.params.length<=3/\q.cY.length<=3)(ag:eR (bI d c) p l.aE):
 vr 197 [.agg #[O.v u,O.v L],vi n,.agg #[O.v p,vi l.aT]] c d A λai=>ai=w.set n ⟨q.params,q.cY,q.aT,l⟩:=by
 apply yh
 simp -zeta only[aD,aC]
 intro F h g j
 let⟨r,o,s1,s2,s3⟩:=qF (a:=F) (b:=h) (c:=g) rfl rfl rfl
 have y:J g j:=J.push _ _
 have s4:j.size=g.size+1:=by simp[j]
 have g0:GR (h.size::d) g j (.mk g.size 0 0 0) []:=Gr.new _ (ad _) _ _ _
 clear_value j
 clear_value g
 have u4:=r.trans y
 have an:=i.jg.len;have am:=i.oQ
 have ak:=aw D
 have ac:∀b∈[h.size,F.size,c.size],b<j.size:=λb e=>y.lt (o b e)
 have H:∀{M:E}{z:Nat},J c M->c.size<=z->Le (bI d c) (bI (z::h.size::d) M):=λxx aj=>xx.bI λb e=>by
  simp only[aW]at e;rcases e with f|f|f
  .exact Or.inr V
  .exact Or.inr V
  .exact Or.inl f
 refine Gr.all (g:=[.s .nil,.s .nil,.i 0,.s .nil,.i 0]) jc.mono bn g0 (y.fz []) (i.jg.le (H (z:=g.size) u4 V)) bG λm v g1 B z1 q1=>⟨λb e=>q1 b (ac b e) (by have:=o b e;simp;omega),V,V,?_⟩
 simp only[eH]at g1
 have x:J g v:=B.ext
 have y1:=g1.bq
 let⟨ao,ap,t,R,T,c3,U,W,X,Y,Z⟩:=(i.jg.le (H (z:=m.D) (r.trans x) V)).aF D
 have gN:∀{P:Value}{t I:Nat},af (bI (m.D::h.size::d) v) t I=some P->af v t I=some P:=λaa=>(eS.1 aa).2
 refine⟨_,gN U,_,gN W,_,gN X,_,gN Y,_,gN Z,?_⟩
 have z5:=x.size
 refine(yD (b:=m.D::h.size::d) (λb e=>?_) (R.le (bD _ _)) (T.le (bD _ _)) V).mono λrv m6⟨K,N,f,h1,h2,s⟩=>?_
 .simp only[aW]at e
  rcases e with f|f|f
  .omega
  .omega
  .have:=C b f;omega
 subst f
 have g2:=g1.ext jc.mono s
 have al:=g2.len bn
 let⟨wr,g3,f3,q3⟩:=Gr.set (k:=n) (cs:=[.s K,.s N,.i q.aT,.s p,.i l.aT]) (a:=⟨q.params,q.cY,q.aT,l⟩) jc.mono g2 (B.then s) V ⟨K,N,p,rfl,h1,h2,ag.le (H (z:=m.D) ((r.trans x).trans s) V)⟩
 refine⟨λb e=>s.same b (oh (o b e)),_,_,_,_,_,rfl,V,V,wr,?_⟩
 intro m7
 refine⟨λb e=>q3 b (oh (o b e)),?_⟩
 intro G
 have ab:∀b∈h.size::d,b<g.size:=λb e=>by
  rcases List.mem_cons.1 e with f|f
  .omega
  .have:=C b f;omega
 have ae:Le (bI (h.size::d) m7) (bI d G):=cD aN λb e=>ah _ e
 have Q:J c G:=(r.trans f3.ext).ai V _ _
 exact⟨u,m,_,rfl,⟨i.br.le (Q.dj _),zL.le ae (g3.done jc.mono ab bn bG),i.types,bG⟩,rfl,Q⟩
end
def UK{c:List bB}{f b:Nat}{l:List cZ}(h:WL c f True b l){j:Nat}{a v:Int}(e:14<=a/\a<=17)(m:0<=v/\v<((b+dc (l.take j):Nat):Int)):
 WL c f True b (l.take j++[fg a v]++l.drop j)/\dc (l.take j++[fg a v]++l.drop j)=dc l/\sw (l.take j++[fg a v]++l.drop j)=sw l+2:=by
 have d:dc [fg a v]=0:=j9 e.1 [v]
 have g:sw [fg a v]=2:=oP a [v]
 have i:=da (l.take j) (l.drop j)
 have k:=dH (l.take j) (l.drop j)
 rw[dv]at i k
 refine⟨((h.take j).yV (Ee e m)).append ?_,?_,?_⟩
 .rw[da,d];exact h.drop j
 .rw[da,da,d];omega
 .rw[dH,dH,g];omega
def Tw(h:Nat)(e:List Value)(m:E)(S:List Nat)(b:Nat)(f:O)(P:Nat)(g:List bB)(Q:List gU->Prop):Prop:=
 aO cp h e m λv a=>∃d r c,v=.agg #[O.v d,O.v r]/\eM (bI S a) d r g c/\Q c/\Rd b f P a/\Fz [b] m a
def Qq{h:List Nat}{m:E}(hS:∀l∈h,l<m.size){d P:Nat}{Q:O}(aw:d∈h)(h0:Rd d Q P m)(hP:P+4<=10^16){y t:O}{B:List bB}{L:List gU}(hn:eM (bI h m) y t B L){aa:Nat}(R:yH B L True aa)(hW:aa<=200000000000):
 Tw 168 [vp d 0,.agg #[O.v y,O.v t]] m h d Q (P+4) B λW=>yH B W True (aa+4):=by
 apply J7 (d,0)
 simp -zeta only[aD,aC,bW]
 intro f ag
 let⟨x2,hl⟩:=dI (a:=f) (c:=ag) rfl rfl
 have s1:f.size=m.size+1:=by simp[f]
 have s2:ag.size=m.size+2:=by simp[ag,s1]
 clear_value ag
 have bZ:=hn.jg.len;have bY:=hn.oQ
 have b0:=h0.lt
 have nb:∀a∈[f.size,m.size],a<ag.size/\a∉[d]:=λa c=>⟨hl a c,by have:=hl a c;simp at c⊢;omega⟩
 have uz:yH B L True (aa+4):=⟨R.jm,λq F=>let⟨g,a,l,e⟩:=R.dD q F;⟨g,a,l,V⟩⟩
 refine(cr (h0.ext x2) V (t.len:Int)).mono λo g⟨ab,e,f0,f1,h3,z3⟩=>⟨z3.dz nb,ab,e,?_⟩
 have u3:Fz [d] m g:=(x2.fz _).trans z3
 have bQ:ab<(L.length:Int):=by have:=R.jm;omega
 let⟨q,F⟩:=cL L ab.toNat
 let⟨aH,aG,bk,hw⟩:=R.dD q (aq F)
 have Hn:∀{M:E},Fz [d] m M->eM (bI h M) y t B L:=λp=>hn.le (p.dj λa c=>by simp at c;subst c;exact aw)
 have HS:∀{M:E}(bb:Nat),m.size<=bb->Fz [d] m M->Le (bI h m) (bI (bb::f.size::h) M):=λbb bL gg=>gg.bI (λa c=>by simp at c;subst c;exact aw) λl s=>by
  simp only[aW]at s;rcases s with e|e|e
  .exact Or.inr V
  .exact Or.inr V
  .exact Or.inl e
 have ch:=z3.size
 let⟨ca,cc,a,c1,c2,c3,e0,e1,e2,e3,e4⟩:=(hn.le (HS g.size V u3)).jg.aF F
 have gN:∀{M:E}{h:List Nat}{o:Value}{a I:Nat},af (bI h M) a I=some o->af M a I=some o:=λD=>(eS.1 D).2
 refine⟨f0,V,a,gN e3,q.body.aT,gN e4,?_⟩
 intro m4 m5
 have x5:J g m5:=(J.push g _).ai (ad _) _ _
 have s5:m5.size=g.size+1:=by simp[m5,m4,ax]
 clear_value m5
 have bM:=c3.len
 have bV:=c3.gX
 have bN:=Bk.mJ q.body
 have b1:=gB q.body.aE
 have av:∀a∈[g.size,f.size,m.size],a<m5.size/\a∉[d]:=λa c=>by simp at c⊢;omega
 rw[aR V V]
 refine(cr (h3.ext x5) V _).mono λo m6⟨G,e,j0,j1,h6,z6⟩=>⟨z6.dz av,G,e,?_⟩
 have u6:Fz [d] m m6:=(u3.then x5).trans z6
 have bC:=z6.size
 have ba:=(Hn u6).le (bD _ _)
 obtain⟨fn,a3⟩:∃fn:Nat,ab=fn:=⟨ab.toNat,V⟩
 subst a3
 simp only[um]at F
 have al:∀a∈[g.size,f.size,m.size],a<m6.size/\a∉[d]:=λa c=>⟨aP (av a c).1 bC,(av a c).2⟩
 have aM:∀{M:E},Rd d Q (P+4) M->Fz [d] m M->∃d' U W,Value.agg #[O.v y,O.v t]=.agg #[O.v d',O.v U]/\eM (bI h (ai M f.size 0 [.s y,.s t])) d' U B W/\yH B W True (aa+4)/\Rd d Q (P+4) (ai M f.size 0 [.s y,.s t])/\Fz [d] m (ai M f.size 0 [.s y,.s t]):=λhr p=>
  have g':=p.ai (b:=f.size) (Or.inr V) 0 [.s y,.s t]
  ⟨y,t,L,rfl,Hn g',uz,h0.ai hr p V _ _,g'⟩
 refine(EY ba R hW F V).mono λo C⟨lb,ok,e,A,hA⟩=>⟨A.dz λa c=>(al a c).1,(lb,0),ok,e,λ_=>?_,λbd=>?_⟩
 .intro m8
  exact aM ((h6.ext A).mono V) (u6.then A)
 obtain⟨_,jl,ro,sl,au,b6,h7,i7⟩:=hA (by simpa using bd)
 intro m8
 have x8:J C m8:=J.push _ _
 have g8:GI h C m8 (.mk C.size 0 0 0) []:=GI.nil h C
 clear_value m8
 have z7:=A.size
 have bO:=tz q.body.aE
 have a2:=TU q.body.aE G.toNat
 have N0:=i7.len 0 bn
 have u7:Fz [d] m C:=u6.then A
 have aE:∀l∈h,l<C.size:=λl s=>aP (hS l s) u7.size
 refine eB (n:=(au 0).length) V (λan X M=>J C M/\∃H,GI h C M X H/\H.length<=an/\∀z∈H,0<=z/\z<(((au 0).length:Nat):Int)) ⟨x8,[],g8,ad _,aN⟩ ?_
 rintro an X m9 bH μ bT ⟨u,H,p,bX,ah⟩ aA
 have h9:=h7.ext u
 have l0:=h9.len (k:=0) bn
 have am:∀a∈[g.size,f.size,m.size],a<m9.size/\a∉[d]:=λa c=>⟨u.lt (A.lt (al a c).1),(al a c).2⟩
 refine⟨_,h9.cq (k:=0) bn,λa9=>?_,λbR=>?_⟩
 .simp only[ar]at a9
  let⟨z,i⟩:=cL (au 0) an
  refine⟨_,h9.cq (k:=0) bn,V,V,z,h9.aF bn V i,λ_=>?_,λ_=>aA V _ _ ⟨u,H,p,V,ah⟩⟩
  refine(sY h9 i7 V (v:=(an:Int)) V V).mono λo az⟨bb,e,w⟩=>⟨w.dz λa c=>(am a c).1,bb,e,λ_=>?_,λ_=>aA V _ _ ⟨u.trans w,H,p.ext w,V,ah⟩⟩
  intro T
  have gy:=p.bq
  refine GI.kY (p.ext w) ((u.trans w).fz []) aE V λU bm N K _ Y=>⟨J.oV ((u.trans w).aL _) K.ext (λa c=>A.lt (al a c).1),aA V _ _ ⟨K.ext,_,N,bG,λz i=>?_⟩⟩
  rcases List.mem_append.1 i with i|i
  .exact ah z i
  .simp at i;omega
 .have bS:=p.len bn
  have u9:Fz [d] m m9:=u7.then u
  have r9:Rd d Q (P+2) m9:=(h6.ext (A.trans u)).mono V
  refine⟨λ_=>?_,λbc=>?_⟩
  .intro az
   exact aM (r9.mono V) u9
  simp only[aj]at bc
  have gy:=p.bq
  have gb:X.D∉[d]:=by simp;have:=u7.size;omega
  refine(cr r9 V (X.len:Int)).mono λo az⟨ay,e,i0,i1,aX,vQ⟩=>⟨vQ.dz am,ay,e,i0,V,?_⟩
  let⟨w,aL⟩:=cL H ay.toNat
  let⟨w0,w1⟩:=ah w (aq aL)
  have a4:af m9 X.D (X.off+ay.toNat*1)=some (vi w):=((p.done aE V).le (bD _ _)).aF aL
  refine⟨w,(aI (vQ.same _ gy.2 gb) _).trans a4,?_⟩
  have br:=u9.trans vQ
  have ci:=u.size;have bE:=vQ.size
  have aF:∀a∈[g.size,f.size,m.size],a<az.size/\a∉[d]:=λa c=>⟨aP (am a c).1 bE,(am a c).2⟩
  have ew:cG (cG ((a.len:Int) -G)+1)=(a.len:Int) -G+1:=by rw[aR (b:=(a.len:Int) -G) V V,aR V V]
  rw[ew]
  refine(cr aX V _).mono λo T⟨i2,e,b2,b3,aY,ap⟩=>⟨ap.dz aF,i2,e,?_⟩
  have aO:=br.trans ap
  have bF:=ap.size
  have ak:∀a∈[g.size,f.size,m.size],a<T.size:=λa c=>aP (aF a c).1 bF
  have ac:∀{M:E},T.size<=M.size->∀l∈g.size::f.size::h,l<M.size:=λhz l s=>by
   simp only[aW]at s;have h1:=ak g.size aN;have h2:=ak f.size aN;rcases s with e|e|e
   .omega
   .omega
   .have:=hS l e;have:=aO.size;omega
  have bt:Fz [d] g T:=(((((x5.fz _).trans z6).then A).then u).trans vQ).trans ap
  have a1:=c3.le (bt.dj λl s=>by simp at s;subst s;simp[aw])
  obtain⟨i,a5⟩:∃i:Nat,G=i:=⟨G.toNat,V⟩
  obtain⟨kn,a8⟩:∃kn:Nat,i2=kn:=⟨i2.toNat,V⟩
  subst a5 a8
  have bj:i+kn<=q.body.aE.length:=V
  have aV:cG ((i:Int)+(kn:Int))=((i+kn:Nat):Int):=by rw[aR V V];omega
  simp only[um]at N0 a2
  let⟨bl,r0,r1⟩:=bk.aU
  have bP:dc (q.body.aE.take i)<=dc (q.body.aE.take (i+kn)):=by
   have:=TU (q.body.aE.take (i+kn)) i;rwa[MN,ju V]at this
  let⟨bw,bu,bz⟩:=UK (j:=i+kn) (a:=15) (v:=w) bl bn ⟨w0,V⟩
  have bi:(q.body.aE.take (i+kn)++[fg 15 w]++q.body.aE.drop (i+kn)).take i=q.body.aE.take i:=by
   rw[fF,nJ bG,MN,ju V]
  let⟨bx,bv,bA⟩:=UK (j:=i) (a:=14) (v:=w) bw bn ⟨w0,by rw[bi];omega⟩
  generalize aK:q.body.aE.take (i+kn)++[fg 15 w]++q.body.aE.drop (i+kn)=st1 at*
  have bU:st1.length=q.body.aE.length+1:=by rw[<-aK];simp;omega
  have K:∀{M Z:E},J M Z->T.size<=M.size->∀a∈[g.size,f.size,m.size],∀I,af Z a I=af M a I:=λxx hz a c I=>aI (xx.same a (aP (ak a c) hz)) I
  have kS:∀{M Z:E},J M Z->T.size<=M.size->eF [g.size,f.size,m.size] M Z:=λxx hz a c=>xx.same a (aP (ak a c) hz)
  rw[aV]
  refine(jx (c:=g.size::f.size::h) (ac (ad _)) 15 w).mono λo bm⟨bJ,b4,e,aZ,a6,N⟩=>⟨kS N (ad _),_,_,_,_,_,e,K N (ad _) _ aN _,K N (ad _) _ aN _,?_⟩
  have aU:=N.size
  refine(By (d:=g.size::f.size::h) (S:=q.body.aT) (q:=fg 15 w) (ac aU) (a1.le (N.dj _)) aZ a6 bj V).mono λo bo⟨bq,e,aJ,ao⟩=>⟨kS ao aU,_,_,e,?_⟩
  rw[aK]at aJ
  intro ae
  have cd:=ao.size
  have ce:ae.size=bo.size:=ax _ _ _ _
  have aQ:=(aO.then N).then ao
  have bs:Fz [d] m ae:=aQ.ai (Or.inr V) _ _
  have bp:Rd d Q (P+2+1+1) ae:=h0.ai ((aY.ext N).ext ao) aQ V _ _
  have bg:eR (bI (g.size::f.size::h) ae) bq st1:=aJ.le (cD aN λ_ D=>D)
  clear_value ae
  refine(jx (c:=g.size::f.size::h) (ac V) 14 w).mono λo b7⟨bK,b5,e,a0,a7,z⟩=>⟨kS z V,_,_,_,_,_,e,K z V _ aN _,K z V _ aN _,K z V _ aN _,K z V _ aN _,?_⟩
  have cf:=z.size
  refine(By (d:=g.size::f.size::h) (S:=q.body.aT) (q:=fg 14 w) (ac V) (bg.le (z.dj _)) a0 a7 (f:=i) V V).mono λo b8⟨cb,e,bh,Y⟩=>⟨kS Y V,_,_,e,K Y V _ aN _,K Y V _ aN _,?_⟩
  have cg:=Y.size
  have aS:=(bs.then z).then Y
  refine(Fu (d:=g.size::f.size::h) (ac V) (l:=.mk (st1.take i++[fg 14 w]++st1.drop i) q.body.aT) (hn.le (HS g.size V aS)) F ⟨aH,aG⟩ bh).mono λo b9⟨d',U,W,e,a_,bf,aB⟩=>⟨kS aB V,d',U,e,?_⟩
  intro b_
  have aT:=aS.then aB
  refine⟨d',U,W,rfl,a_.le (cD aN λl s=>by simp[s]),?_,h0.ai (((bp.ext z).ext Y).ext aB) aT V _ _,aT.ai (Or.inr V) _ _⟩
  subst bf
  refine⟨by simp;exact R.jm,λq' be=>?_⟩
  rw[ez]
  rcases cF be with D|D
  .exact uz.dD q' D
  .subst D
   refine⟨aH,aG,.of bx ⟨r0,by rw[bv,bu];exact r1⟩,?_⟩
   show Bk.w (.mk _ _)<=_
   rw[Bk.qW,bA,bz];omega
section
variable{f:E}{t:O}{d:Bk}{j e:Int}{g:List Nat}{l h c:Nat}
def qt(l:eR f t d.aE):tr 245 [.agg #[O.v t,vi d.aT]] f λc=>0<=c/\c<=d.aE.length/\∀(i:Nat)(e:cZ),d.aE[i]? =some e->(i:Int)<c->14<=e.op/\e.op<=17:=by
 apply zf;simp -zeta only[aD,aC];intro a;have B:J f a:=J.push _ _;have w:∀q∈[f.size],q<a.size:=by simp[a]
 clear_value a;have x:=l.len;refine dW (n:=d.aE.length) (x▸l.gX) (λc M=>J a M/\∀(i:Nat)(e:cZ),d.aE[i]? =some e->i<c->14<=e.op/\e.op<=17) ⟨J.aA _,λi e _ b=>V⟩ ?_;rintro c M I μ L ⟨p,o⟩ z
 have u:=B.trans p;have R:∀{m:E},J f m->∃k:Int,vi (c:Int)=vi k/\(0<=k/\k<=d.aE.length/\∀(i:Nat)(e:cZ),d.aE[i]? =some e->(i:Int)<k->14<=e.op/\e.op<=17)/\J f m:=λD=>⟨c,rfl,⟨V,V,λi e g b=>o i e g V⟩,D⟩;refine⟨λb=>?_,λb=>R u⟩;simp only[ar]at b;let⟨e,g⟩:=cL d.aE c;obtain⟨h,P,H,N,s,_⟩:=l.aF g;refine⟨V,V,_,u.af s,?_⟩;refine(tU e.op M).aJ p w λG Q v C A=>⟨_,rfl,λy=>z V _ ⟨A,λi F j K=>?_⟩,λ_=>R (u.trans C)⟩;by_cases r:i=c
 .subst r;rw[g]at j;simp at j;subst j;exact v.1 y
 .exact o i F j V
def DR(b:eR f t d.aE){w:Int}(K:0<=j/\j<=d.aE.length)(z:∀(r:Nat)(s:cZ),d.aE[r]? =some s->(r:Int)<j->0<s.args.length):
 tr 246 [.agg #[O.v t,vi d.aT],vi j,vi w,vi e] f λc=>-1<=c/\(0<=c->c<j/\∃s:cZ,d.aE[c.toNat]? =some s/\s.op=w/\s.args[0]? =some e):=by
 apply Ho
 simp -zeta only[aD,aC]
 intro i
 have B:J f i:=J.push _ _
 clear_value i
 have L:=b.len
 have H:=b.gX
 obtain⟨k,A⟩:∃k:Nat,j=k:=⟨j.toNat,V⟩
 subst A
 refine dW (n:=k) V (λc M=>J i M) (J.aA _) ?_
 rintro c M I μ F l v
 have u:=B.trans l
 refine⟨λa=>?_,λa=>⟨-1,rfl,⟨V,λa=>V⟩,u⟩⟩
 simp only[ar]at a
 let⟨s,g⟩:=cL d.aE c
 let⟨h,N,m,G,x,g1,g2,y,D⟩:=b.aF g
 have E:=m.len
 have:=z c s g V
 let⟨C,q⟩:=cL s.args 0
 refine⟨V,V,_,u.af x,λo=>⟨V,V,_,u.af y,bn,V,C,(m.ext u).aF q,λp=>?_,λ_=>v V _ l⟩,λ_=>v V _ l⟩
 simp only[aG]at o p
 refine⟨c,rfl,⟨V,λ_=>⟨V,s,?_,o,by rw[<-p];exact q⟩⟩,u⟩
 simpa using g
def Pf(g:eR f t d.aE){b:Int}(A:0<=b/\b<=d.aE.length):tr 279 [.agg #[O.v t,vi d.aT],vi b,vi j] f λc=>-1<=c/\c<d.aE.length:=by
 apply IE;simp -zeta only[aD,aC];intro i;have v:J f i:=J.push _ _;clear_value i;have q:=g.len;obtain⟨e,p⟩:∃e:Nat,b=e:=⟨b.toNat,V⟩;subst p;refine Wa (n:=d.aE.length) (b:=e) V (q▸g.gX) (λc M=>J i M) (J.aA _) ?_;rintro c M I μ _ y l s
 have u:=v.trans l;refine⟨λk=>?_,λk=>⟨-1,rfl,⟨V,V⟩,u⟩⟩;simp only[ar]at k;let⟨C,r⟩:=cL d.aE c;let⟨h,B,x,z,m,g1,g2,o,w⟩:=g.aF r;have N:=s V _ l
 exact⟨V,V,_,u.af m,λ_=>⟨V,V,_,u.af g2,λ_=>⟨V,V,_,u.af o,λ_=>⟨c,rfl,⟨V,V⟩,u⟩,λ_=>N⟩,λ_=>N⟩,λ_=>N⟩
def IG(d:Bk)(Z:∀l∈g,l<f.size)(C:eR f t d.aE)(hw:d.w<=10^12):aO cp 257 [.agg #[O.v t,vi d.aT]] f λai E=>∃s,ai=.agg #[O.v s,vi d.aT]/\GS g f E s d.aE/\J f E:=by
 let⟨aE,q⟩:=d;rw[Bk.qW]at hw;simp only[Bk.j8,Bk.jE]at*;apply rS;simp -zeta only[aD,aC];intro j b h F p;let⟨K,A⟩:=dI (a:=j) (c:=b) rfl rfl;have s0:j.size=f.size+1:=by simp[j]
 have s1:b.size=f.size+2:=by simp[b,s0]
 have s2:h.size=b.size+1:=by simp[h]
 have s3:F.size=h.size+1:=by simp[F]
 have L:J h p:=(J.push h _).ai (ad _) _ _;have aj:J b p:=(J.push b _).trans L;have x:GS (h.size::j.size::g) b p (.mk b.size 0 0 0) []:=(GS.new _ b).ext gK.mono L;have N:cK p h.size dp [.s (.mk b.size 0 0 0),.i q]:=cK.ai (m:=F) (o:=0) (r:=[.s (.mk b.size 0 0 0),.i q]) (cK.push h _ _);clear_value p;have aa:∀l∈j.size::g,l<b.size:=bR Z K.size (A _ aN);have ag:=C.len;have al:=gB aE;refine dW (n:=aE.length) (ag▸C.gX) (λc M=>J b M/\∃s,GS (h.size::j.size::g) b M s (aE.take c)/\cK M h.size dp [.s s,.i q]) ⟨aj,_,x,N⟩ ?_;rintro c G ak μ hk ⟨w,s,v,B⟩ ah
 have k:=K.trans w;have af:∀d∈[j.size,f.size],d<G.size:=λd y=>w.lt (A d y);have hy:=v.bq;have z5:=w.size;have I:=B.lt;refine dit (λY=>?_) λY=>?_
 .let⟨e,D⟩:=cL aE c;let⟨pa,pk,ha,ae,x,g1,g2,W,X⟩:=C.aF D;have am:=Pl D;refine⟨s,B.cq 0,V,V,_,k.af x,_,k.af g1,_,k.af g2,_,k.af W,_,k.af X,?_⟩;refine(yA (e:=s.D::h.size::j.size::g) (bR (bR aa z5 I) (ad _) hy.2) (ha.ext k) (ae.le k.le) V (λd _=>wH d)).aJ (J.aA G) af λP Q x' H ab ac R u _=>⟨_,_,_,_,_,rfl,aI (u.same _ I) _,?_⟩;subst R;intro m7;refine Gr.box (g:=[.i 0,.i 0,.i 0,.s .nil,.s .nil]) (j:=0) (i:=[.s s,.i q]) (w:=e) gK.mono bn (v.ext gK.mono u) ((w.trans u).fz []) ⟨P,Q,rfl,ab,ac⟩ bG (B.ext u) aN bn ⟨V,aN⟩ (λl z=>by have M:=A l z;have T:=u.size;omega) λr' E U M T z' q'=>ah V _ ⟨T.ext,r',?_,M⟩
  rw[aV D];exact U
 .rw[bZ V]at v;refine⟨s,B.cq 0,q,B.cq 1,?_⟩;intro H;have u:Fz [j.size] G H:=(Fz.aA _ _).ai (Or.inl aN) _ _;have D:GS g b H s aE:=v.re gK.mono u aN bG λl z=>Or.inl (by simp[z]);exact⟨s,rfl,Gr.cA gK.mono D (λd y=>Or.inl y) V,k.ai V _ _⟩
def UL{f:List bB}{d:Prop}{a:List cZ}(j:WL f l d h a){e b:cZ}(g:a[c]? =some e)(p:WS f l d (h+dc (a.take c)) b)(hd:dn b=dn e):
 WL f l d h (a.set c b)/\dc (a.set c b)=dc a/\sw (a.set c b)+e.w=sw a+b.w:=by
 have o:=aw g
 have k:a.set c b=a.take c++([b]++a.drop (c+1)):=by rw[Pw,ao o];rfl
 have i:a=a.take c++([e]++a.drop (c+1)):=by
  let⟨m,n⟩:=List.getElem?_eq_some_iff.1 g;rw[<-n];show a=a.take c++(a[c]::a.drop (c+1));rw[<-qE m,dv]
 have q:dc a=dc (a.take c)+(dn e+dc (a.drop (c+1))):=by
  conv=>lhs;rw[i]
  rw[da,da,k8,tA];omega
 have r:sw a=sw (a.take c)+(e.w+sw (a.drop (c+1))):=by
  conv=>lhs;rw[i]
  rw[dH,dH,mW,vJ];omega
 rw[k]
 refine⟨(j.take c).append ((WL.lY p).append ?_),?_,?_⟩
 .have:=j.drop (c+1)
  rw[rf g]at this
  rw[k8,tA,hd,jN,dq];exact this
 .rw[da,da,k8,tA];omega
 .rw[dH,dH,mW,vJ];omega
def _root_.Go.Vc.Gr.cells{α:Type}{r:E}{m d:Nat}{R:E->List Ce->α->Prop}{s:O}{l:List α}(n:Gr g r f m d R s l){e:α}(i:l[c]? =some e):∃a,R (bI (s.D::g) f) a e/\fS f s.D (s.off+c*d) a:=by
 let⟨t,k,o,b⟩:=n;let⟨a,h⟩:=cL k c (by rw[b.len];exact aw i);refine⟨a,b.dD c a e h i,λq j p=>?_⟩;have:=o.iL (c*d+q) j (fY b.size h p);rwa[<-dq]at this
def Kn(hS:∀c∈g,c<f.size)(w:eR f t d.aE){Q:List bB}(ao:WB Q l True h d)(hw:d.w<=10^12)(hx:0<=e/\e<(h:Int))(a6:h<=10^12)(j:Int):
 aO cp 244 [.agg #[O.v t,vi d.aT],vi e,vi j] f λaa Z=>∃s o,aa=.agg #[O.v s,vi o.aT]/\eR Z s o.aE/\(eR (bI g f) t d.aE->eR (bI g Z) s o.aE)/\(WB Q l True h o/\o.w<=d.w)/\J f Z:=by
 apply Dp
 simp -zeta only[aD,aC]
 intro m u
 let⟨C,q⟩:=dI (a:=m) (c:=u) rfl rfl
 have s1:m.size=f.size+1:=by simp[m]
 have s2:u.size=f.size+2:=by simp[u,s1]
 clear_value u
 let⟨X,aU⟩:=ao.aU
 have D:∀{ac M':E},J u ac->J u M'->∀I,af M' f.size I=af ac f.size I:=λp h' I=>aI (by rw[h'.same _ (q _ aN),p.same _ (q _ aN)]) I
 refine(qt (w.le C.le)).aJ (J.aA u) q λn1 m3 U P _=>⟨_,rfl,D (J.aA _) P _,D (J.aA _) P _,?_⟩
 refine(DR (w.le (C.trans P).le) (w:=16) (e:=e) ⟨U.1,U.2.1⟩ λaq s hi aM=>?_).aJ P q λn2 m4 aP x4 L=>⟨_,rfl,?_⟩
 .have:=U.2.2 aq s hi aM
  have:=(X aq s hi).fj.lY V
  omega
 refine(qt (w.le (C.trans L).le)).aJ L q λn3 m5 an x5 M=>⟨_,rfl,D L M _,D L M _,?_⟩
 refine(Pf (w.le (C.trans M).le) (j:=j) ⟨an.1,an.2.1⟩).aJ M q λn4 z bb x6 v6=>⟨_,rfl,?_⟩
 have u6:=C.trans v6
 have ay:∃s o,Value.agg #[O.v t,vi d.aT]=.agg #[O.v s,vi o.aT]/\eR (ai z m.size 0 [.s t,.i d.aT]) s o.aE/\(eR (bI g f) t d.aE->eR (bI g (ai z m.size 0 [.s t,.i d.aT])) s o.aE)/\(WB Q l True h o/\o.w<=d.w)/\J f (ai z m.size 0 [.s t,.i d.aT]):=
  have R:=u6.ai (b:=m.size) V 0 [.s t,.i d.aT]
  ⟨t,d,rfl,w.le R.le,λp=>p.le (R.dj _),⟨ao,ad _⟩,R⟩
 refine⟨λ_=>ay,λh2=>⟨λ_=>ay,λh4=>?_⟩⟩
 simp only[bO]at h2 h4
 have z6:=v6.size
 have ak:∀c∈m.size::g,c<z.size:=λc i=>by
  rcases List.mem_cons.1 i with n|n
  .omega
  .have:=hS c n;omega
 refine(IG d ak (w.le u6.le) hw).mono λaa H⟨K,n,g7,x7⟩=>⟨λc i=>x7.same c (oh (q c i)),_,_,n,?_⟩
 intro m8 A
 have x9:J H A:=(J.push H _).ai (ad _) _ _
 have s9:A.size=H.size+1:=by simp[A,m8,ax]
 clear_value A
 have y7:=g7.bq
 have z7:=x7.size
 have g9:=g7.ext gK.mono x9
 have am:∀c∈[H.size,m.size,f.size],c<A.size/\c≠K.D:=λc i=>by simp at i;omega
 refine(jx (c:=K.D::m.size::g) (λc i=>?_) 17 e).mono λaa au⟨ag,ar,n,aK,aL,B⟩=>⟨λc i=>B.same c (am c i).1,_,_,_,_,_,n,aI (B.same _ V) _,?_⟩
 .rcases List.mem_cons.1 i with n|n
  .omega
  .have:=ak c n;omega
 have aj:=g9.ext gK.mono B
 have bg:=aj.len bn
 let⟨ba,so,W,bc,a7⟩:=aP.2 V
 have aA:J z au:=(x7.trans x9).trans B
 have aQ:=aw W
 let⟨a0,T,aF,aY⟩:=Gr.set (k:=n2.toNat) (cs:=[.i 17,.i 0,.i 0,.s ag,.s ar]) (a:=fg 17 e) gK.mono aj (aA.fz []) aQ ⟨ag,ar,rfl,aK,aL⟩
 refine⟨V,V,a0,?_⟩
 intro F
 have vQ:=B.size
 have bh:F.size=au.size:=ax _ _ _ _
 refine⟨λc i=>aY c (am c i).2,V,V,?_⟩
 have aV:=X _ so W
 have w1:=aV.fj.lY (Or.inl V)
 have d1:dn (fg 17 e)=dn so:=by
  unfold dn;rw[ae (λp:pG _=>by have:=p.2;simp only[fg]at this;omega),ae (λp:pG _=>oh p.2)]
 let⟨az,a2,bj⟩:=UL X W (Ee (c:=17) (v:=e) bn ⟨hx.1,V⟩) d1
 have be:=cZ.mJ so
 have a9:(fg 17 e).w=2:=rfl
 let⟨y,Y⟩:=cL (d.aE.set n2.toNat (fg 17 e)) n4.toNat bG
 have a_:=T.len bn
 obtain⟨a5,⟨pa,pk,rfl,aS,aT⟩,jD⟩:=T.cells Y
 have e0:=jD 0 _ rfl;have e1:=jD 1 _ rfl;have e2:=jD 2 _ rfl;have e3:=jD 3 _ rfl;have e4:=jD 4 _ rfl
 refine⟨_,e0,_,e1,_,e2,_,e3,_,e4,?_⟩
 intro aW G
 have N:J F G:=(J.push F _).ai (ad _) _ _
 have bi:G.size=F.size+1:=by simp[G,aW,ax]
 clear_value G
 have aH:=T.ext gK.mono N
 have aE:cG (1+e)=1+e:=aR V V
 rw[aE]
 have aB:=(aF.then N)
 let⟨a1,aJ,aG,aZ⟩:=Gr.set (k:=n4.toNat) (cs:=[.i y.op,.i y.bS,.i (1+e),.s pa,.s pk]) (a:=⟨y.op,y.bS,1+e,y.args,y.bF⟩) gK.mono aH aB bG ⟨pa,pk,rfl,ap.le (N.dj _) aS,nT.le (N.dj _) aT⟩
 refine⟨V,V,a1,?_⟩
 intro av
 have r:=az _ y Y
 let⟨a4,a3,bk⟩:=UL (b:=⟨y.op,y.bS,1+e,y.args,y.bF⟩) az Y ⟨⟨r.fj.op,r.fj.args,r.fj.lY,⟨by show 0<=1+e;omega,by show 1+e<=_;omega⟩,r.fj.Kw,r.fj.all,r.fj.call⟩,r.bF⟩ rfl
 refine⟨λc i=>aZ c (by simp at i;omega),?_⟩
 intro aX
 have bf:(⟨y.op,y.bS,1+e,y.args,y.bF⟩:cZ).w=y.w:=rfl
 have a8:=Bk.mJ d
 have bd:=gB d.aE
 have ab:eR (bI (m.size::g) av) K _:=aJ.nV gK.mono (S:=m.size::g) (λi=>by
  rcases List.mem_cons.1 i with n|n
  .omega
  .have:=hS _ n;omega) bn bG
 have al:Le (bI (m.size::g) av) (bI g aX):=cD aN λc i=>ah _ i
 refine⟨K,.mk _ d.aT,rfl,(ab.le al).le (bD _ _),λ_=>ab.le al,⟨.of a4 (by rw[a3,a2];exact aU),?_⟩,(u6.trans aG.ext).ai V _ _⟩
 rw[Bk.qW];omega
end
def TC(c:List bB)(d:List gU)(N:Nat):Prop:=∀(b:Bk),b.w<=N->∀(S:List Nat)(m:E),(∀a∈S,a<m.size)->∀(f r t lH:O)(l:List Int)(a:Nat),eM m f r c d->eR m t b.aE->ap m lH l->WB c d.length True a b->a+4*b.w<=10^12->l.length+4*b.w<=10^12->
 nK 201 [.agg #[O.v f,O.v r],.agg #[O.v t,vi b.aT],O.v lH] m S λe=>WB c d.length True a e/\e.w<=b.w
def Ko{D:List Nat}{m:E}(hS:∀c∈D,c<m.size){R ac pa pk lH:O}{j:List bB}{A:List gU}{a:cZ}{y:List Int}{F:Nat}(q:eM m R ac j A)(ha:ap m pa a.args)(hk:nT m pk a.bF)(I:ap m lH y)(Y:WS j A.length True F a)(hb:F+4*a.w<=10^12)(a2:y.length+4*a.w<=10^12){l:Nat}{i:Bk}(U:a.bF[l]? =some i)(ih:TC j A i.w):
 nK 218 [.agg #[O.v R,O.v ac],pD a pa pk,vi l,O.v lH] m D λk=>WB j A.length True (F+Ch j a.op a.bS l) k/\k.w<=i.w:=by
 apply Dq
 simp -zeta only[aD,aC]
 intro aa s b
 let⟨f,hl,s1,h,s3⟩:=qF (a:=aa) (b:=s) (c:=b) rfl rfl rfl
 clear_value b
 let⟨aj,ht,f0,f1⟩:=hk.aF U
 have a0:=aw U
 have a1:=hk.len
 have aW:=ha.len
 have a5:=cZ.mJ a
 have aY:=xk U
 have ae:=Y.bF l i U
 have aZ:=i.HD
 have aF:∀{M:E},J b M->∀c∈s.size::D,c<M.size:=λxx c d=>by
  have:=xx.size;rcases List.mem_cons.1 d with e|e
  .omega
  .have:=hS c e;omega
 have iS:∀(M:E)(Z u:O)(l':List Int)(k:Bk)(Lx:List Nat),J m M->J b M->(∀c∈Lx,c<M.size)->eR M u k.aE->ap M Z l'->l'.length<=y.length+1->WB j A.length True (F+Ch j a.op a.bS l) k->k.w<=i.w->
  aO cp 201 [.agg #[O.v R,O.v ac],.agg #[O.v u,vi k.aT],O.v Z] M λv r=>eF Lx M r/\∃(h:O)(b2:Bk),v=.agg #[O.v h,vi b2.aT]/\∀g,g=ai r s.size 0 [.s h,.i b2.aT]->∃s3 b3,(Value.agg #[O.v h,vi b2.aT])=.agg #[O.v s3,vi b3.aT]/\eR (bI D g) s3 b3.aE/\(WB j A.length True (F+Ch j a.op a.bS l) b3/\b3.w<=i.w)/\J m g:=λM Z u l' k Lx xm aU aE hs aK a3 aR aQ=>by
  have h3:=QX q.types a.op a.bS l
  refine(ih k aQ (s.size::D) M (aF aU) R ac u Z l' _ (q.le xm.le) hs aK aR V V).mono λv r⟨h,b2,e,aM,aG,x'⟩=>⟨x'.dz aE,h,b2,e,λg am=>⟨h,b2,rfl,?_,⟨aG.1,V⟩,?_⟩⟩
  .rw[am];exact aM.le (cD aN λc d=>ah _ d)
  .rw[am];exact(xm.trans x').ai V _ _
 refine⟨λG=>?_,λG=>?_⟩
 .refine⟨V,V,_,f.af f0,_,f.af f1,?_⟩
  refine(iS b lH aj y i _ f (J.aA _) hl (ht.le f.le) (I.ext f) V ae (ad _)).mono λv r⟨o,h,b2,e,p⟩=>⟨o,_,_,e,?_⟩
  intro g
  exact p g rfl
 .have G:a.op=8:=by simpa using G
  obtain⟨aX,_⟩:=Y.fj.all G
  have aV:=Y.fj.lY (Or.inr (Or.inr G))
  let⟨B,hy⟩:=cL a.args 0
  let⟨y0,y1⟩:=Y.fj.args B (aq hy)
  refine⟨bn,V,B,(ha.ext f).aF hy,V,V,_,f.af f0,_,f.af f1,?_⟩
  intro m4 t
  have x5:J b t:=(J.push b _).ai (ad _) _ _
  have s5:t.size=b.size+1:=by simp[t,m4,ax]
  clear_value t
  have L:=f.trans x5
  have w:∀{M:E},J t M->∀c∈[b.size,s.size,aa.size,m.size],c<M.size:=λxx c d=>by have:=xx.size;simp at d;omega
  refine(dA (I.ext L) B).any.aJ (J.aA t) (w (J.aA _)) λbb m6 n _=>⟨_,rfl,λ_=>?_,λ_=>?_⟩
  .have N:=L.trans n
   let⟨cn,aH⟩:=cL (cB j a.bS) l
   have C:∀{M M':E},J t M->J M M'->∀c∈[b.size,s.size,aa.size,m.size],∀ab,af M' c ab=af M c ab:=λT h' c d ab=>aI (h'.same c (w T c d)) ab
   refine(iH (e:=[]) aN (q.br.le N.le) q.types a.bS).aJ n (w (J.aA _)) λs7 l7 m7 X e x7 v7=>⟨_,rfl,C n x7 _ aN _,C n x7 _ aN _,C n x7 _ aN _,?_⟩
   subst e
   have X:=X.le (bD _ _)
   have l7:=X.len
   refine⟨V,V,cn,X.aF aH,?_⟩
   refine(dN (e:=[]) aN (q.br.le ((L.trans v7).le.trans (Ap _))) q.types cn).aJ v7 (w (J.aA _)) λs8 l8 m8 a4 e x8 v8=>⟨_,rfl,C v7 x8 _ aN _,C v7 x8 _ aN _,?_⟩
   subst e
   have z8:=v8.size
   have h3:=QX q.types a.op a.bS l
   have an:eR (bI [b.size] m8) aj i.aE:=ht.le ((Ap m).trans ((L.trans v8).bI λc d=>Or.inr (by simp at d;omega)))
   refine(Kn (g:=[b.size]) bG (an.le (bD _ _)) ae V (e:=B) ⟨y0,V⟩ V (s8.len:Int)).mono λv m9⟨s9,b9,e,_,aP,H,x9⟩=>⟨λc d=>x9.same c (w v8 c d),_,_,e,?_⟩
   intro z
   have v9:=v8.trans x9
   have al:J b z:=(x5.trans v9).ai V _ _
   have W:eR z s9 b9.aE:=((aP an).le (cD (a:=[b.size]) aN λ_ T=>T)).le (bD _ _)
   have a9:z.size=m9.size:=ax _ _ _ _
   have z9:=v9.size
   have K:∀{M:E},z.size<=M.size->∀c∈[b.size,s.size,aa.size,m.size],c<M.size:=λT c d=>by simp at d;omega
   clear_value z
   refine(qt W).aJ (J.aA z) (K (ad _)) λa7 a6 ag aA _=>⟨_,rfl,?_⟩
   obtain⟨aS,_⟩:=H.1.aU
   refine(DR (W.le aA.le) (w:=17) (e:=B) ⟨ag.1,ag.2.1⟩ λao u hj aL=>?_).aJ aA (K (ad _)) λa8 aT _ a_ P=>⟨_,rfl,λ_=>?_,λ_=>?_⟩
   .have:=ag.2.2 ao u hj aL
    have:=(aS ao u hj).fj.lY V
    omega
   .have Q:=al.trans P
    refine(mN (S:=[]) aN ((I.ext (f.trans Q)).le (Ap _)) B V).aJ P (K (ad _)) λay ar au aB av ba ak=>⟨_,rfl,?_⟩
    have az:=al.trans ak
    have aJ:ap au ay ar:=(aB.done aN (oh av.2)).le (bD _ _)
    refine(iS au ay s9 ar b9 _ (f.trans az) az (K ak.size) (W.le ak.le) aJ av.2 H.1 H.2).mono λv r⟨o,h,b2,e,p⟩=>⟨o,_,_,e,?_⟩
    intro g
    exact p g rfl
   .have Q:=al.trans P
    refine(iS aT lH s9 y b9 _ (f.trans Q) Q (K P.size) (W.le P.le) (I.ext (f.trans Q)) V H.1 H.2).mono λv r⟨o,h,b2,e,p⟩=>⟨o,_,_,e,?_⟩
    intro g
    exact p g rfl
  .have N:=L.trans n
   refine(iS m6 lH aj y i _ N (x5.trans n) (w n) (ht.le N.le) (I.ext N) V ae (ad _)).mono λv r⟨o,h,b2,e,p⟩=>⟨o,_,_,e,?_⟩
   intro g
   exact p g rfl
section
variable{c:List gU}
def TC.fu{b:List bB}{N a:Nat}(h:TC b c N)(e:a<=N):TC b c a:=λd f=>h d (bJ f e)
def Hi{K:List bB}:∀N:Nat,TC K c N:=by
 intro N;induction N with
 |zero=>intro v hb;have:=v.HD;omega
 |succ N t=>
 intro v hb p Q hS aG a5 a6 lH a3 ae hn hs ao av aJ aR;let⟨aE,A⟩:=v;have ai:=av.aU;rw[Bk.qW]at*;simp only[Bk.j8,Bk.jE]at*;apply zl;simp -zeta only[aD,aC];intro R j h f m5 G;let⟨x3,hl,s1,s2,s3⟩:=qF (a:=R) (b:=j) (c:=h) rfl rfl rfl;have s4:f.size=h.size+1:=by simp[f]
 have aj:J f G:=(J.push f _).ai (ad _) _ _;have aB:J h G:=(J.push h _).trans aj;have g0:GS (f.size::j.size::p) h G (.mk h.size 0 0 0) []:=(GS.new _ h).ext gK.mono aj;have B0:cK G f.size dp [.s (.mk h.size 0 0 0),.i A]:=cK.ai (m:=m5) (o:=0) (r:=[.s (.mk h.size 0 0 0),.i A]) (cK.push f _ _);have al:∀d∈j.size::p,d<h.size:=bR hS x3.size (hl _ aN);clear_value G;clear_value h;have ap:=hs.len;have ar:=BV aE;have aV:=gB aE;refine dW (n:=aE.length) (ap▸hs.gX) (λl M=>J h M/\∃s u,GS (f.size::j.size::p) h M s u/\cK M f.size dp [.s s,.i A]/\u.length=l/\WL K c.length True ae u/\dc u=dc (aE.take l)/\sw u<=sw (aE.take l)) ⟨aB,_,[],g0,B0,rfl,WL.nil _ _ _ _,aN,aN⟩ ?_;rintro l M aF μ hk ⟨xM,s,u,O,B,aT,wl,P,au⟩ aA
 have y:=x3.trans xM;have aQ:∀{q:E},h.size<=q.size->∀d∈[j.size,R.size,Q.size],d<q.size:=λz d e=>aP (hl d e) z;have hy:=O.bq;have zM:=xM.size;have aH:=B.lt;refine dit (λz=>?_) λz=>?_
 .let⟨x,D⟩:=cL aE l;let⟨pa,pk,ha,Y,e0,e1,e2,e3,e4⟩:=hs.aF D;have a0:=Pl D;have a2:=cZ.mJ x;have aL:=qG x.bF;have a1:=qu D;have aZ:=rf D;have ab:=ai.1 l x D;have aO:=tz (aE.take l);have aU:=gB (aE.take l);have aY:=ar (l+1);refine⟨V,V,_,y.af e0,_,y.af e1,_,y.af e2,_,y.af e3,_,y.af e4,?_⟩;intro m7 k m9;have x8:J M k:=(J.push M _).ai (ad _) _ _;have s8:k.size=M.size+1:=by simp[k,m7,ax]
  have x9:J k m9:=J.push _ _;have ak:GB (s.D::f.size::j.size::p) k m9 (.mk k.size 0 0 0) []:=GB.new _ k;clear_value m9;clear_value k;have X:∀d∈s.D::f.size::j.size::p,d<k.size:=λd e=>by
   simp only[aW]at e;rcases e with g|g|g|g
   .omega
   .omega
   .omega
   .have:=hS d g;omega
  have Z:=Y.len;refine eB (n:=x.bF.length) (Z▸Y.gX) (λF ks q=>J k q/\∃lk,GB (s.D::f.size::j.size::p) k q ks lk/\lk.length=F/\(∀(w:Nat)(v:Bk),lk[w]? =some v->WB K c.length True (ae+dc (aE.take l)+Ch K x.op x.bS w) v)/\bw lk<=bw (x.bF.take F)) ⟨x9,[],ak,rfl,aN,aN⟩ ?_;rintro F ks I I2 μ2 hj ⟨H,lk,W,aS,ag,an⟩ ay;have C:J Q I:=y.trans (x8.trans H);have yk:=W.bq;have z2:=H.size;have aa:∀{q:E},k.size<=q.size->∀d∈[M.size,j.size,R.size,Q.size],d<q.size:=λz d e=>by simp at e;omega
  refine dit (λh2=>?_) λh2=>?_
  .let⟨v,T⟩:=cL x.bF F;have aM:=xk T;have am:=uP T;refine(Ko (D:=ks.D::s.D::f.size::j.size::p) (λd e=>?_) (hn.le C.le) (ha.ext C) (Y.le C.le) (ao.ext C) ab V V T (t.fu V)).aJ (J.aA I) (aa z2) λss b' a4 aq af ac _=>⟨_,_,rfl,?_⟩
   .rcases List.mem_cons.1 e with g|g
    .omega
    .have:=X d g;omega
   refine GB.kY (c:=b') (W.ext rZ.mono ac) ((H.trans ac).fz []) aq V λr' q g2 f2 a7 q2=>⟨J.oV ((H.trans ac).aL _) f2.ext (aa (ad _)),ay V _ _ ⟨f2.ext,_,g2,bG,λw b2 t=>?_,?_⟩⟩
   .rcases aX w lk.length with U|U
    .rw[az U]at t;exact ag w b2 t
    .rw[aK U]at t;have:w -lk.length=0:=by have:=aw t;simp at this;omega
     rw[this]at t;simp at t;subst t;have:w=F:=V;subst this;exact af.1
   .rw[pp,uO,zT,am];have:=af.2;omega
  .have ac:lk.length=x.bF.length:=V;rw[bZ V]at an;have U:J M I:=x8.trans H;have T:=B.ext U;have G2:=O.ext gK.mono U;refine⟨s,T.cq 0,?_⟩;refine(bQ (s.D::f.size::j.size::p) (ha.ext C) V).aJ (J.aA I) (aa z2) λs' l' af ga g t _=>⟨_,rfl,aI (t.same _ V) _,aI (t.same _ V) _,aI (t.same _ V) _,aI (t.same _ T.lt) _,?_⟩;subst g;intro am;refine Gr.box (g:=[.i 0,.i 0,.i 0,.s .nil,.s .nil]) (L:=[M.size,j.size,R.size,Q.size]) (j:=0) (y:=72) (i:=[.s s,.i A]) (w:=⟨x.op,x.bS,x.cg,x.args,lk⟩) gK.mono bn (G2.ext gK.mono t) (((xM.trans U).trans t).fz []) ⟨s',ks,rfl,(ga.done (λd e=>oh (X d e)) V),nT.le (t.dj _) (W.done rZ.mono X bn (by show lk.length<=_;omega))⟩ V (T.ext t) aN bn ⟨V,aN⟩ (λd e=>by have h1:=t.size;simp at e;omega) λr' m' g' B' f' z' q'=>aA V _ ⟨f'.ext,r',_,g',B',bG,wl.yV (ab.P9 id ab.fj.cg ac ag|>λz=>by rw[P];exact z),?_,?_⟩
   .rw[da,k8,tA,P];have g:dn (⟨x.op,x.bS,x.cg,x.args,lk⟩:cZ)=dn x:=rfl;omega
   .rw[dH,mW,vJ];have h5:(⟨x.op,x.bS,x.cg,x.args,lk⟩:cZ).w=1+x.args.length+bw lk:=cZ.mJ _;omega
 .have Z:l=aE.length:=V;subst Z;rw[fB]at P au;refine⟨s,B.cq 0,A,B.cq 1,?_⟩;intro m7;have k:Le (bI (f.size::j.size::p) M) (bI p m7):=cD aN λd e=>ah _ (ah _ e);have t:=O.ne B bn;refine⟨s,.mk u A,rfl,eR.le k (O.nV gK.mono (λe=>?_) bn (by show u.length<=_;omega)),⟨.of wl (by rw[P];exact ai.2),by rw[Bk.qW];omega⟩,y.ai V _ _⟩;rcases List.mem_cons.1 e with g|g
  .exact t g
  .have:=al _ g;omega
def Nw{f:List Nat}{e:E}(U:∀a∈f,a<e.size){u v:O}{p:List bB}(s:eM e u v p c){W:Nat}(hW:W<=200000000000)(hk:yH p c True W):vr 171 [.agg #[O.v u,O.v v]] e f p λH=>yH p H True W:=by
 apply Hj;simp -zeta only[aD,aC];intro g a2;let⟨I,D⟩:=dI (a:=g) (c:=a2) rfl rfl;have s1:g.size=e.size+1:=by simp[g]
 clear_value a2;have an:=s.jg.len;have az:=s.oQ;refine(fX (b:=g.size::f) (bR U I.size (D _ aN)) (s.le I.le).br s.types).mono λ_ Z⟨ah,r,ai,K⟩=>?_;subst r;refine⟨K.dz D,_,rfl,?_⟩;intro aa av ag;have u2:=I.trans K;let⟨x5,B0,g0,s3,s5⟩:=lC (b:=aa.size::g.size::f) jc.mono (d:=Z) (a:=aa) (c:=av) (h:=ag) rfl rfl rfl;clear_value ag;have F:∀a∈[g.size,e.size],a<Z.size:=λa j=>K.lt (D a j);have X:∀a∈g.size::f,a<Z.size:=λa j=>K.lt (bR U I.size (D _ aN) a j);refine lz (R:=λb d M=>∃u v H,Value.agg #[O.v b,O.v d]=.agg #[O.v u,O.v v]/\eM (bI f M) u v p H/\yH p H True W/\J e M) (r:=c.length) (f:=e) (b:=f) jc.mono bn bn U ⟨V,F _ aN⟩ u2 s3 ai an V x5 B0 g0 (λ_ q=>q.params.length<=3/\q.cY.length<=3/\WB p c.length True q.params.length q.body/\q.body.w<=W) (λb k Y o h1 h2 d h i=>⟨b,k,Y,rfl,⟨h1,h2,s.types,V⟩,Ik hk.jm d h,i⟩) λau M st Y ax μ aj ay L ab N aw=>?_
 let⟨q,hq⟩:=cL c au aj;let⟨am,al,ar,hw⟩:=hk.dD q (aq hq);have B:=u2.trans L;let⟨aA,aB,b,c1,c2,c3,P,Q,T,y,z⟩:=s.jg.aF hq;have G:∀{w:Value}{b o:Nat},af e b o=some w->af M b o=some w:=λh=>B.af h;refine⟨st,N.cq 1,V,V,_,G P,_,G Q,_,G T,_,G y,_,G z,V,V,_,G y,_,G z,?_⟩;intro i;have hy:=ab.bq;have ac:=N.lt;have zM:=L.size;have d:J M i:=J.push _ _;have s7:i.size=M.size+1:=by simp[i]
 have ak:ap i (.mk M.size 0 0 0) []:=mR _ _ _ _ _ _;clear_value i;have k:∀{w:Value}{b o:Nat},af e b o=some w->af i b o=af M b o:=λh=>by rw[d.af (G h),G h]
 have C:∀{b o:Nat},b<M.size->af i b o=af M b o:=λh=>aI (d.same _ h) _;have A:e.size<M.size:=L.lt (F _ aN);refine⟨k y,k z,C A,C A,C A,k P,k Q,k T,k y,k z,C A,C ac,?_⟩;refine(Hi q.body.w q.body (ad _) (st.D::aa.size::g.size::f) i (λa j=>?_) u v b (.mk M.size 0 0 0) [] q.params.length (s.le (B.trans d).le) (c3.le (B.trans d).le) ak ar V bG).aJ (L.trans d) F λss b' M1 ao ae t u1=>⟨_,_,rfl,?_⟩
 .simp only[aW]at j;rcases j with r|r|r|r
  .omega
  .omega
  .have:=X a (by simp[r]);omega
  .have:=X a (by simp[r]);omega
 have x:∀{w:Value}{b o:Nat},af e b o=some w->af M1 b o=af i b o:=λh=>by rw[t.af (d.af (G h)),d.af (G h)]
 refine⟨x P,x Q,x T,x y,x z,aI (t.same _ (d.lt A)) _,aI (t.same _ (d.lt ac)) _,?_⟩;exact wz (b:=g.size::f) (v:=ah) (x:=Y) X (λa j=>by have h1:=F a j;have h2:=u1.size;omega) u1 (ab.ext jc.mono (d.trans t)) (N.ext (d.trans t)) V (c1.ext (B.trans (d.trans t))) (c2.ext (B.trans (d.trans t))) ao ⟨V,V⟩ V λs' M' g' B' x'=>aw s' M' _ g' B' x' ⟨am,al,ae.1,bJ ae.2 hw⟩
end
end Go.Proofs.YtghjegjkpepmpaaGreat
