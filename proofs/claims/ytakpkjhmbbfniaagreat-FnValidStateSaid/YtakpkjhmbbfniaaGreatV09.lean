/- Part of a proof, joined by a program. -/
import Derived.Test.YtakpkjhmbbfniaaGreatV08
set_option linter.unusedVariables false
set_option linter.unusedSimpArgs false
set_option linter.defProp false
set_option maxHeartbeats 8000000
set_option maxRecDepth 100000
namespace Go.Proofs.YtakpkjhmbbfniaaGreat
open Go.Vc
theorem acw{a b c:ah}{k:Nat}(h:af a b)(f:Fz [k] b c)(hk:a.size<=k):af a c:=Fz.ext (((h.fz [k]).trans f).By λe he=>Or.inr (by simp at he;omega))
theorem _root_.Go.Vc.Fz.Oo{k:Nat}{b M M':ah}{s:Sl}(f:Fz [k] b M)(hs:s.ao=k\/b.size<=s.ao)(hz:M.size<=M'.size)(q:∀c,c<M.size->c≠s.ao->M'[c]? =M[c]?):Fz [k] b M':=
 f.pA ⟨hz,λc hc hn=>q c hc (by simpa using hn)⟩ (Y:=[s.ao]) (λy hy=>by simp at hy⊢;omega)
theorem GI.aoV{S X:List Nat}{m0 m:ah}{s x:Sl}{l l':List Int}{K:Sl->ah->Prop}(h:GI S m0 m s l)(hf:Fz X m0 m)(hx:aj m x l')(hb:l.length+l'.length<=1000000000000)
 (hk:∀r m',GI S m0 m' r (l++l')->Fz X m0 m'->(m.size<=m'.size/\(r.ao=s.ao\/m.size<=r.ao))->(∀b,b<m.size->b≠s.ao->m'[b]? =m[b]?)->K r m'):gA m au [.i 0] 8 s x K:=by
 obtain⟨css,h1,h2,h3⟩:=hx.abP (sz:=1) λ_ _ h=>by rw[h];rfl
 exact Gr.next (zs:=[.i 0]) rP.mono aO h hf h1 h2 h3 ab hk
theorem ba(S:List Nat){m:ah}{list:Sl}{l:List Int}(hl:aj m list l)(hb:l.length<=1000000000000):iV 72 [Sl.v list] m S (l=·):=by
 apply kZ;intro m1;have hx:af m m1:=af.push m _;exact GI.aoV (l:=[]) (X:=[]) (GI.nil S m) (hx.fz []) (hl.ext hx) (by simpa using hb) λr m' g f _ _=>⟨r,l,rfl,by simpa using g,rfl,f.ext⟩
abbrev GB(S:List Nat)(m0 m:ah)(s:Sl)(l:List Bk):Prop:=Gr S m0 m bU 2 pv s l
theorem GB.new(S:List Nat)(m:ah):GB S m (m.push (.cells (aU []) bU)) (.mk m.size 0 0 0) []:=Gr.new S (aFR _) _ _ _
theorem GB.iN{S X:List Nat}{m0 m:ah}{s a:Sl}{l:List Bk}{b:Bk}{K:Sl->ah->Prop}(h:GB S m0 m s l)(hf:Fz X m0 m)(ha:cU (aY (s.ao::S) m) a b.ar)(hb:l.length<=1000000000000)
 (hK:∀r m',GB S m0 m' r (l++[b])->Fz X m0 m'->m.size<=m'.size/\(r.ao=s.ao\/m.size<=r.ao)->(∀c,c<m.size->c≠s.ao->m'[c]? =m[c]?)->K r m'):
 gA (m.push (.cells (aU [.s a,.i b.aH]) bU)) bU [.s .nil,.i 0] 32 s (.mk m.size 0 1 1) K:=
 Gr.iN (zs:=[.s .nil,.i 0]) pv.mono aO h hf (by cases b;exact pv.of ha) ab hK
theorem J9{ds:List aS}{op bh:Int}{i:Nat}{y:Int}(h:op=8)(hy:(bB ds bh)[i]? =some y):zT ds op bh i=(bz ds y).length:=by unfold zT;rw[aFW h,hy];rfl
theorem Ka{ds:List aS}{op bh:Int}{i:Nat}(h:op≠8):zT ds op bh i=0:=by unfold zT;rw[aFS h]
theorem _root_.Go.Vc.WS.PU{ds:List aS}{nr:Nat}{c c':Prop}{a:Nat}{x:bu}(h:WS ds nr c a x)(hc:c->c'){bA:Int}(hi:0<=bA/\bA<=(a:Int)){aW:List Bk}(hk:aW.length=x.aW.length)(hw:∀(k:Nat)(b:Bk),aW[k]? =some b->WB ds nr c' (a+zT ds x.op x.bh k) b):WS ds nr c' a ⟨x.op,x.bh,bA,x.args,aW⟩:=
 ⟨⟨h.db.op.imp id λh=>⟨hc h.1,h.2⟩,h.db.args,h.db.jm,hi,λe=>hk.trans (h.db.IC e),λe=>hk▸h.db.all e,h.db.call⟩,hw⟩
theorem Gt{S:List Nat}{m:ah}(hS:∀c∈S,c<m.size){d r vars a k owned dV:Sl}{ds:List aS}{rs:List di}{v lo la:List Int}{x:bu}(hn:cR m d r ds rs)(hv:aj m vars v)(ha:aj m a x.args)(hk:lA m k x.aW)(ho:aj m owned lo)(hla:aj m dV la)
 (pN:∀o∈lo,0<=o/\o<(v.length:Int))(lo5:lo.length+5*x.w<=500)(laN:la.length+1000*x.w<=1000000)(vN:v.length+5*x.w<=1000000)(oA:WS ds rs.length False v.length x)(ih:∀b∈x.aW,afb ds rs b):
 J8 223 [.agg #[Sl.v d,Sl.v r],Sl.v vars,mJ x a k,Sl.v owned,Sl.v dV] m S λx'=>WS ds rs.length True v.length x'/\x'.op=x.op/\x'.w<=1+x.args.length+1100*bw x.aW:=by
 apply yF
 simp -zeta only[aw,ax]
 intro m0 m1 m2 m3
 obtain⟨x2,hl,s0,s1,s2⟩:=nX (m1:=m0) (m2:=m1) (m3:=m2) rfl rfl rfl
 have OW:af m2 m3:=af.push _ _
 have gk:=GB.new (m1.size::S) m2
 clear_value m2
 have jK:=ha.len;have jk:=hk.len;have hw:=bu.jD x;have NF:=J3 x.aW
 refine(eL (S:=[m2.size]) (by simp[m3]) (hn.le (x2.trans OW).le).aI hn.types x.bh).ay OW hl λc cl m4 hc q x4 u4=>⟨_,rfl,?_⟩
 subst q
 have pt:=hc.len
 refine cN (n:=x.aW.length) (jk▸hk.eP) (λj s M=>Fz [m2.size] m4 M/\(s.ao=m2.size\/m4.size<=s.ao)/\∃l,GB (m1.size::S) m2 M s l/\l.length=j/\(∀(i:Nat)(b:Bk),l[i]? =some b->WB ds rs.length True (v.length+zT ds x.op x.bh i) b)/\bw l<=1100*bw (x.aW.take j)) ⟨Fz.av _ _,Or.inl rfl,[],gk.ext pv.mono x4,rfl,az,az⟩ ?_
 rintro j s m5 I μ hj ⟨f5,hsb,l,g,hlen,lP,Ln⟩ next
 have u5:=acw u4 f5 (aFR _)
 have hy:=g.aN
 refine⟨λh=>?_,λh=>?_⟩
 ·simp only[aFP]at h
  intro m6
  have x6:af m5 m6:=af.push _ _
  obtain⟨b,hb⟩:=ae (l:=x.aW) (k:=j) ab
  have hbm:=vx hb
  have nH:=sJ hb
  have Sv:∀{M:ah},af m5 M->∀c∈s.ao::m1.size::S,c<M.size:=λh=>bd (bd hS x2.size (hl _ az)) (u5.trans h).size (by have:=h.size;omega)
  have fG:∀(M:ah)(f:Sl)(fl:List Int)(t:Sl),af m5 M->aj M f fl->fl.length=zT ds x.op x.bh j->cU M t b.ar->
   aD Tryz.prog 252 [.agg #[Sl.v d,Sl.v r],Sl.v vars,Sl.v f,.agg #[Sl.v t,vi b.aH],Sl.v owned,Sl.v dV] M λrv M'=>da [m1.size,m0.size,m.size] M M'/\∃Bl:Sl,∃zC:Int,rv=.agg #[Sl.v Bl,vi zC]/\
    let M1:ah:=M'.push (.cells (aU [.s Bl,.i zC]) bU)
    gA M1 bU [.s Sl.nil,.i (0:Int)] 32 s (Sl.mk M'.size 0 1 1) λr52 M2=>da [m1.size,m0.size,m.size] M1 M2/\I r52 (bS ((j:Int)+(1:Int))) M2/\μ r52 (bS ((j:Int)+(1:Int))) M2<μ s j m5:=by
   intro M f fl t hM hf gL hs
   have uM:=x2.trans (u5.trans hM)
   have b3:=RD hn.types x.op x.bh j
   refine(IE (S:=s.ao::m1.size::S) (Sv hM) (hn.le uM.le) (hv.ext uM) hf hs (ho.ext uM) (hla.ext uM) ⟨pN,ab,ab,ab,ab,gL▸oA.aW j b hb⟩ (ih b (ak hb))).ay (u5.trans hM) hl λss b' M' sk q x' u'=>⟨_,_,rfl,?_⟩
   refine GB.iN (b:=b') (g.ext pv.mono (hM.trans x')) (u'.fz []) sk (by have:=nW x.aW;omega) λr M2 g2 f2 z2 q2=>⟨af.me (u'.aC _) f2.ext hl,next ab _ _ ⟨(f5.then (hM.trans x')).Oo hsb z2.1 q2,?_,_,g2,bg,λi b2 hi=>?_,?_⟩⟩
   ·have h1:=(f5.then (hM.trans x')).size
    rcases z2.2 with e|e<;>omega
   ·rcases aF1 i l.length with iy|iy
    ·rw[aFV iy]at hi;exact lP i b2 hi
    ·rw[aFX iy]at hi
     have:i -l.length=0:=by have:=ap hi;simp at this;omega
     rw[this]at hi;simp at hi;subst hi
     have:i=j:=ab
     subst this
     rw[<-gL];exact q.1
   ·rw[mz,sI,yO]
    have:=q.2;omega
  refine⟨λh8=>?_,λh8=>?_⟩
  ·simp only[aFZ]at h8
   have hka:=(oA.db.all h8).1
   obtain⟨y,lj⟩:=ae (l:=bB ds x.bh) (k:=j) ab
   refine⟨ab,ab,y,(cT.1 ((hc.le ((f5.then x6).bO az)).aE lj)).2,?_⟩
   have u6:=u5.trans x6
   refine(cw (S:=[]) az ((hn.le (x2.trans u6).le).aI.le (yS _)) hn.types y).ay u6 hl λf fl m7 hf q x7 u7=>⟨_,rfl,?_⟩
   subst q
   obtain⟨t,hs,e0,e1⟩:=(hk.le (x2.trans u7).le).aE hb
   exact⟨ab,ab,_,e0,_,e1,fG m7 f _ t (x6.trans x7) (hf.le (aV _ _)) (J9 h8 lj).symm hs⟩
  ·simp only[aFU]at h8
   obtain⟨t,hs,e0,e1⟩:=(hk.le (x2.trans (u5.trans x6)).le).aE hb
   exact⟨ab,ab,_,e0,_,e1,fG m6 _ [] t x6 (jM _ _ _ _ _ _) (Ka h8).symm hs⟩
 ·simp only[aFQ]at h
  have Pf:l.length=x.aW.length:=ab
  rw[bL ab]at Ln
  refine(ba (m1.size::S) (ha.ext (x2.trans u5)) ab).ay u5 hl λs' l' m6 ga e x6 u6=>⟨_,rfl,aA (x6.same _ (u5.lt (hl _ az))) _,aA (x6.same _ (u5.lt (hl _ az))) _,?_⟩
  subst e
  intro m7
  have hy6:=(g.ext pv.mono x6).aN
  have YS:∀c∈m1.size::S,c<m2.size:=bd hS x2.size ab
  refine⟨s',s,⟨x.op,x.bh,0,x.args,l⟩,rfl,?_,?_,⟨oA.PU (λh=>h.elim) ⟨ab,ab⟩ Pf lP,rfl,?_⟩,(x2.trans u6).ag ab _ _⟩
  ·exact(ga.done (λc hc=>aFY (YS c hc) u5.size) ab).le (bt az λc hc=>aFT _ hc)
  ·exact lA.le (bt az λc hc=>aFT _ hc) ((g.ext pv.mono x6).done pv.mono YS aO (by have:=nW x.aW;show l.length<=_;omega))
  ·rw[bu.jD]
   simp only
   omega
theorem _root_.Go.Vc.Tp{σ τ ρ:Type}{n:Nat}(hn:n<=9223372036854775807){m:ah}{s0:σ}{t0:τ}{r0:ρ}{Body:(σ->τ->ρ->Int->ah->Prop)->(σ->τ->ρ->Int->ah->Nat)->σ->τ->ρ->Int->ah->Prop}(Q:Nat->σ->τ->ρ->ah->Prop)(h0:Q 0 s0 t0 r0 m)
 (h:∀(k:Nat)(s:σ)(t:τ)(r:ρ)(m1:ah)(I:σ->τ->ρ->Int->ah->Prop)(μ:σ->τ->ρ->Int->ah->Nat),k<=n->Q k s t r m1->
  (k<n->∀s' t' r' m',Q (k+1) s' t' r' m'->I s' t' r' (bS ((k:Int)+1)) m'/\μ s' t' r' (bS ((k:Int)+1)) m'<μ s t r k m1)->Body I μ s t r k m1):
 ∃(I:σ->τ->ρ->Int->ah->Prop)(μ:σ->τ->ρ->Int->ah->Nat),I s0 t0 r0 0 m/\∀s t r i m1,I s t r i m1->Body I μ s t r i m1:=by
 refine⟨λs t r i m'=>∃k:Nat,i=k/\k<=n/\Q k s t r m',λ_ _ _ i _=>(n -i).toNat,⟨0,rfl,aGq _,h0⟩,?_⟩
 rintro s t r i m1 ⟨k,rfl,hk,hq⟩
 refine h k s t r m1 _ _ hk hq λcA s' t' r' m' zB=>?_
 rw[iG cA hn]
 exact⟨⟨k+1,rfl,cA,zB⟩,Bw cA⟩
structure CB(ds:List aS)(nr:Nat)(S:List Nat)(m2 M:ah)(v lo:List Int)(ar:List bu)(k:Nat)(st jP mn:Sl):Prop where
 x:af m2 M
 hs:∃l,GS (jP.ao::mn.ao::S) m2 M st l/\WL ds nr True v.length l/\dc l=dc (ar.take k)/\sw l<=1100*sw (ar.take k)
 hi:∃l,GI S m2 M jP l/\l.length=v.length+dc (ar.take k)
 hm:∃l,GI S m2 M mn l/\l.length<=lo.length+k/\∀o∈l,0<=o/\o<((v.length+dc (ar.take k):Nat):Int)
 ne:jP.ao≠mn.ao
theorem dn1{ds:List aS}{nr a:Nat}{x:bu}(h:WS ds nr False a x):dn x=1:=aFW (h.db.op.resolve_right λh=>h.1)
theorem Ev{ds:List aS}{rs:List di}:∀b:Bk,afb ds rs b:=by
 refine Bk.ind ?_;intro ar kV ih S m hS d r vars t owned after v lo la hn hv hs ho hla hp;have lP:=hp.wb.aT;have hw:=Bk.nV ar kV;simp only[Bk.gH,Bk.fH]at*;have lo5:=hp.lo5;have laN:=hp.laN;have vN:=hp.vN;rw[hw]at lo5 laN vN;apply wR;simp -zeta only[aw,ax];intro m0 m1 m2 m3;obtain⟨x2,hl,s0,s1,s2⟩:=nX (m1:=m0) (m2:=m1) (m3:=m2) rfl rfl rfl;have OW:af m2 m3:=af.push _ _;have gs0:∀S',GS S' m2 m3 (.mk m2.size 0 0 0) []:=λS'=>GS.new S' m2;have s3:m3.size=m2.size+1:=by simp[m3]
 clear_value m3;clear_value m2;have kQ:=hs.len;have Jj:=yP ar;have QF:=dN ar;refine(ba S (hv.ext (x2.trans OW)) ab).ay OW hl λjP _ m4 gi e x4 u4=>⟨_,rfl,?_⟩;subst e;refine(ba S (ho.ext (x2.trans u4)) ab).ay u4 hl λmn _ m5 gm e x5 u5=>⟨_,rfl,?_⟩;subst e;have hyi:=gi.aN;have hym:=gm.aN;refine Tp (n:=ar.length) (kQ▸hs.eP) (λk st jP mn M=>CB ds rs.length (m1.size::S) m2 M v lo ar k st jP mn) ⟨u5,⟨[],((gs0 _).ext eu.mono x4).ext eu.mono x5,WL.nil _ _ _ _,rfl,az⟩,⟨v,((gi.ext x5).bN (λ_ h=>h) OW.size).any,az⟩,⟨lo,(gm.bN (λ_ h=>h) u4.size).any,ab,by simpa using hp.aL⟩,ab⟩ ?_;clear gi gm hyi hym gs0;rintro k st jP mn m6 I μ hk ⟨x6,⟨ls,gs,uB,Hx,aqb⟩,⟨li,gi,cli⟩,⟨lm,gm,clm,VP⟩,cx⟩ next
 have v6:=x2.trans x6;have aky:=gi.len aO;have hdk:=qQ (ar.take k);have Pf:=aHj k ar;have lG:∀c∈m1.size::S,c<m2.size:=bd hS x2.size (hl _ az);have hi6:aj m6 jP li:=(gi.done lG ab).le (aV _ _);have hm6:aj m6 mn lm:=(gm.done lG ab).le (aV _ _);have hys:=gs.aN;have hyi:=gi.aN;have hym:=gm.aN;have afS:=dN (ar.take k);have hkt:k<=sw (ar.take k):=by rw[aGH]at afS;omega
 refine⟨λh=>?_,λh=>?_⟩
 ·simp only[aFP]at h;obtain⟨x,hx⟩:=ae (l:=ar) (k:=k) ab;obtain⟨a,kk,ha,oO,g0,g1,g2,g3,g4⟩:=hs.aE hx;refine⟨ab,ab,_,v6.ad g0,_,v6.ad g1,_,v6.ad g2,_,v6.ad g3,_,v6.ad g4,?_⟩;intro m7 m8;have x8:af m6 m8:=(af.push m6 _).ag (aFR _) _ _;have s8:m8.size=m6.size+1:=by simp[m8,m7,aq]
  clear_value m8;have u8:=x6.trans x8;have z6:=x6.size;have mG:∀{M:ah},m8.size<=M.size->∀b∈[m6.size,m1.size,m0.size,m.size],b<M.size:=λh b hb=>by
   rcases List.mem_cons.1 hb with e|e
   ·omega
   ·have:=u8.lt (hl b e);omega
  have Ua:=nh hx;have hxd:=oG hx;have hxs:=bu.jD x;have oA:WS ds rs.length False li.length x:=by rw[cli];exact lP.1 k x hx
  have Vo:=dn1 oA;have afT:=Jj (k+1);have Ln:=nW x.aW;have hls:=dN ls;have FF:∀{M:ah},af m2 M->At M d r a kk ds rs x:=λh=>⟨hn.le (x2.trans h).le,ha.ext (x2.trans h),oA.db.call⟩;have hgi:∀{M:ah},GI (m1.size::S) m2 M jP li->aj M jP li:=λg=>(g.done lG ab).le (aV _ _);have hgm:∀{M:ah},GI (m1.size::S) m2 M mn lm->aj M mn lm:=λg=>(g.done lG ab).le (aV _ _);have Jx:∀{M:ah}{S':List Nat},m8.size<=M.size->(∀c∈S',c<M.size)->∀c∈S'++m1.size::S,c<M.size:=λh hb c hc=>by
   rcases List.mem_append.1 hc with h|h
   ·exact hb c h
   ·have:=lG c h;omega
  refine(lJ (FF u8).RE (hgi (gi.ext x8)) (FF u8).args (oO.le (x2.trans u8).le) ab λb _=>kO b).ay (af.av m8) (mG (aFR _)) λty m9 x9 _=>⟨_,rfl,?_⟩;intro cK;have cO:af m8 cK:=x9.aC _;have e0:aj (aY [] cK) (.mk m9.size 0 0 0) []:=jM _ _ _ _ _ _;clear_value cK;rw[iG (k:=k) (n:=ar.length) ab (kQ▸hs.eP)]at next⊢
  refine(yV (.mk ar kV) [] cK az t _ _ _ (k+1) (hs.le (x2.trans (u8.trans cO)).le) e0 (by simp only[Bk.gH];omega) (by simp only[Bk.nV,aGv];omega)).ay cO (mG (aFR _)) λus ul dm hu hul eB Pg=>⟨_,rfl,?_⟩;rw[Bk.nV,aGv]at hul;refine(Ol (S:=[]) az hu ((hla.ext (x2.trans (u8.trans Pg))).le (yS _)) ab).ay Pg (mG (aFR _)) λlt ll df glt VR fW VQ=>⟨_,rfl,?_⟩;have YT:∀{M:ah},GI [] dm M lt ll->aj M lt ll:=λg=>(g.done az (by have:=VR.2;omega)).le (aV _ _);have NH:=u8.trans VQ;have YU:=gi.ext (x8.trans VQ);have YP:=gm.ext (x8.trans VQ);have aqe:=gs.ext eu.mono (x8.trans VQ);refine(Eu (S:=[]) az (FF NH) (hgi YU) oA.db.args (hgm YP) (YT glt) ab).ay (af.av df) (mG VQ.size) λdu dl iC gdu q13 fF _=>⟨_,rfl,?_⟩;have c13:=q13.2;have MH:=VQ.size;have Sw:=fF.size;have xw:=Pg.size;have aym:=fW.size;refine(cZ (S:=[st.ao,jP.ao,mn.ao]++m1.size::S) (Jx ab bg) 14 ((gdu.done az ab).le (aV _ _)) ab).ay (af.av iC) (mG ab) λr60 _ gK g60 e eU _=>⟨_,rfl,?_⟩;subst e;have Uc:=(NH.trans fF).trans eU;have Sx:=eU.size;refine GS.all (aqe.ext eu.mono (fF.trans eU)) (Uc.fz []) (g60.done eu.mono (Jx (S':=[st.ao,jP.ao,mn.ao]) ab bg) aO bg) bg λJv kT g61 f15 MI ZK=>⟨λc hc=>ZK c (mG ab c hc) ?_,?_⟩
  ·simp at hc;omega
  have X15:af m2 kT:=f15.ext;have hil:jP.ao<gK.size:=ab;have hml:mn.ao<gK.size:=ab;have afW:st.ao≠jP.ao:=gs.JZ gi aO;have aa3:st.ao≠mn.ao:=gs.JZ gm aO;have Hw:=glt.aN;have YV:=(YU.ext (fF.trans eU)).fK (ZK _ hil afW.symm);have akA:=(YP.ext (fF.trans eU)).fK (ZK _ hml aa3.symm);have akB:=(glt.ext (fF.trans eU)).fK (ZK _ ab ab);have ayn:Jv.ao=st.ao\/gK.size<=Jv.ao:=MI.2;have ayo:=g61.aN;have aqh:=MI.1;refine(Gt (S:=[Jv.ao,jP.ao,mn.ao]++m1.size::S) (Jx ab bg) (FF X15).RE (hgi YV) (FF X15).args (oO.le (x2.trans X15).le) (hgm akA) (YT akB) (by rw[cli];exact VP) ab (by have:=VR.2;omega) ab oA (ih x (ak hx))).ay (af.av kT) (mG ab) λca ck x' pV VS BT q16 kW _=>⟨_,_,_,_,_,rfl,?_⟩;obtain⟨afX,afY,rJ⟩:=q16;have X16:=X15.trans kW;have z16:=kW.size;refine GS.iN (x:=x') (g61.ext eu.mono kW) (X16.fz []) VS BT bg λr70 sY g70 f18 z18 q18=>⟨λc hc=>?_,?_⟩
  ·have:=mG (M:=pV) ab c hc;rw[q18 c this (by simp at hc;omega),(af.push pV _).same c this]
  have X18:af m2 sY:=f18.ext;have akE:=(YV.ext kW).fK (q18 _ ab ab);have aqi:=(akA.ext kW).fK (q18 _ ab ab);have af0:=(akB.ext kW).fK (q18 _ ab ab);have ayr:r70.ao=st.ao\/gK.size<=r70.ao:=by have:=z18.2;omega
  have ays:=z18.1;refine(Gq (S:=[]) az (FF X18) (hgi akE) oA.db.args (hgm aqi) (YT af0) ab).ay (af.av sY) (mG ab) λYW lf Pj gf q19 Sy _=>⟨_,rfl,?_⟩;have X19:=X18.trans Sy;have z19:=Sy.size;have hgf:∀{M:ah},GI [] sY M YW lf->aj M YW lf:=λg=>(g.done az (by have:=q19.2;omega)).le (aV _ _);refine(Gs (S:=[]) az (FF X19) (hgf gf) (YT (af0.ext Sy)) ab).ay (af.av Pj) (mG ab) λr81 ld Jy gd q20 Ud _=>⟨_,rfl,?_⟩;have z20:=Ud.size;have c20:=q20.2;have c19:=q19.2;have hyf:=gf.aN;have hyd:=gd.aN;have ayw:=g70.aN;refine(cZ (S:=[r70.ao,YW.ao,jP.ao]++m1.size::S) (Jx ab bg) 15 ((gd.done az ab).le (aV _ _)) ab).ay (af.av Jy) (mG ab) λr84 _ NI g84 e LR _=>⟨_,rfl,?_⟩;subst e;have X21:=(X19.trans Ud).trans LR;have z21:=LR.size;have aqm:GS ([YW.ao,jP.ao]++m1.size::S) m2 NI r70 _:=g70.re eu.mono (Y:=[]) (((Sy.trans Ud).trans LR).fz []) az az λc hc=>by
   simp only[aGg,aGp,aF0]at hc⊢;rcases hc with h|h|h
   ·exact Or.inr ab
   ·exact Or.inl (Or.inl h)
   ·exact Or.inl (Or.inr (Or.inr h))
  refine GS.all aqm (X21.fz []) (g84.done eu.mono (Jx (S':=[r70.ao,YW.ao,jP.ao]) ab bg) aO bg) bg λZL QG g85 f22 z22 q22=>⟨λc hc=>q22 c (mG ab c hc) ?_,?_⟩
  ·simp at hc;omega
  have X22:af m2 QG:=f22.ext;have ayz:=z22.1;have aqo:=((akE.ext Sy).ext (Ud.trans LR)).fK (q22 _ ab ab);have aqp:=(gf.ext (Ud.trans LR)).fK (q22 _ ab ab);have aqq:=(gd.ext LR).fK (q22 _ ab ab);have aqr:=((af0.ext Sy).ext (Ud.trans LR)).fK (q22 _ ab ab);have kU:aj QG r81 ld:=(aqq.done az ab).le (aV _ _);have aqs:=kU.len;have gf0:GI (m1.size::S) m2 QG YW lf:=(aqp.bN (λ_ h=>h) X18.size).any;refine cN (n:=ld.length) (aqs▸kU.eP) (λ_ s M=>af QG M/\∃l,GI (m1.size::S) m2 M s l/\GS ([s.ao,jP.ao]++m1.size::S) m2 M ZL (ls++dl.map (de 14)++[x']++ld.map (de 15))/\ng lf l/\jP.ao≠s.ao/\m8.size<=s.ao) ⟨af.av _,lf,gf0,g85,⟨λ_ h=>h,aFR _⟩,ab,ab⟩ ?_;rintro i s Vp I2 μ2 hi ⟨Vq,l,gl,gst,tA,QD,ayB⟩ eN;have X23:=X22.trans Vq;have z23:=Vq.size;have hyl:=gl.aN;refine⟨λh2=>?_,λh2=>?_⟩
  ·simp only[aFP]at h2;obtain⟨y,hy⟩:=ae (l:=ld) (k:=i) ab;refine⟨ab,ab,y,(kU.ext Vq).aE hy,?_⟩;refine(yN (S:=[]) az (((gl.done lG (by have:=tA.2;omega)).le (aV _ _)).le (yS _)) y (by have:=tA.2;omega)).ay (af.av Vp) (mG ab) λr97 l2 Ph g2 q24 Lr _=>⟨_,rfl,eN ab _ _ ⟨Vq.trans Lr,l2,(g2.bN (λ_ h=>h) X23.size).any,?_,⟨λz hz=>tA.1 z (q24.1 z hz),aF8 q24.2 tA.2⟩,?_,?_⟩⟩
   ·have hy2:=g2.aN;refine gst.re eu.mono (Y:=[]) (Lr.fz []) az az λc hc=>?_;simp only[aGg,aGp,aF0]at hc⊢;rcases hc with h|h|h
    ·exact Or.inr ab
    ·exact Or.inl (Or.inr (Or.inl h))
    ·exact Or.inl (Or.inr (Or.inr h))
   ·have:=g2.aN;omega
   ·have:=g2.aN;omega
  simp only[aFQ]at h2;intro Jk;have akI:=aqo.ext Vq;refine GI.iN akI (X23.fz []) lG ab λQH NG VT f26 z26 q26=>⟨λc hc=>?_,?_⟩
  ·have:=mG (M:=Vp) ab c hc;rw[q26 c this (by simp at hc;omega),(af.push Vp _).same c this]
  have X26:af m2 NG:=f26.ext;have aqv:=z26.1;have af1:ZL.ao≠jP.ao:=gst.JZ akI aO;have YX:=gl.fK (q26 _ hyl.2 QD.symm);have aeg:=z26.2;have Lt:GS ([s.ao,QH.ao]++m1.size::S) m2 NG ZL _:=gst.re eu.mono (Y:=[jP.ao]) ⟨aqv,λc hc hn=>q26 c hc (by simpa using hn)⟩ az (by simpa using af1) λc hc=>by
   simp only[aGg,aGp,aF0]at hc⊢;rcases hc with h|h|h
   ·exact Or.inl (Or.inl h)
   ·rcases aeg with e|e
    ·exact Or.inl (Or.inr (Or.inl (h.trans e)))
    ·exact Or.inr ab
   ·exact Or.inl (Or.inr (Or.inr h))
  have ne4:QH.ao≠s.ao:=by rcases aeg with e|e<;>omega
  have B1:WL ds rs.length True v.length (ls++dl.map (de 14)++[x']++ld.map (de 15))/\dc (ls++dl.map (de 14)++[x']++ld.map (de 15))=dc (ar.take (k+1))/\sw (ls++dl.map (de 14)++[x']++ld.map (de 15))+2<=1100*sw (ar.take (k+1)):=by
   have aqx:dn x'=1:=by unfold dn at Vo⊢;rw[afY];exact Vo
   have d1:dc (dl.map (de 14))=0:=gS ab _;have d2:dc (ld.map (de 15))=0:=gS ab _;refine⟨((uB.append (pF ab λo ho=>?_)).xI ?_).append (pF ab λo ho=>?_),?_,?_⟩
   ·rw[Hx,<-cli];exact oA.db.args o (q13.1 o ho)
   ·rw[bD,d1,Hx,aGX,<-cli];exact afX
   ·have:=oA.db.args o (q20.1 o ho);rw[bD,bD,d1,Hx,iH,qP];omega
   ·rw[bD,bD,bD,d1,d2,Hx,iH,qP];omega
   ·rw[cb,cb,cb,mf,mf,jR,tv];omega
  have hlr:∀o∈l,0<=o/\o<((v.length+dc (ar.take (k+1)):Nat):Int):=λo ho=>by
   have:=VP o (q19.1 o (tA.1 o ho));omega
  have aei:∀(M:ah),af NG M->I ZL QH s ((k+1:Nat):Int) M/\μ ZL QH s ((k+1:Nat):Int) M<μ st jP mn k m6:=λM hx=>
   next ab _ _ _ _ ⟨X26.trans hx,⟨_,(Lt.re eu.mono (Y:=[]) (hx.fz []) az az λc hc=>Or.inl (by simp only[aGg,aGp,aF0]at hc⊢;rcases hc with h|h|h;exact Or.inr (Or.inl h);exact Or.inl h;exact Or.inr (Or.inr h))),B1.1,B1.2.1,ab⟩,⟨_,VT.ext hx,bg⟩,⟨l,YX.ext hx,by have:=tA.2;omega,hlr⟩,ne4⟩
  have ayC:=Lt.aN;have aqy:∀(M:ah),af NG M->aD Tryz.prog 125 [vi (15:Int),vi (jP.len:Int)] M λrv M1=>da [m6.size,m1.size,m0.size,m.size] M M1/\∃Bl:Int,∃zC:Int,∃NC:Int,∃Jg:Sl,∃Ll:Sl,rv=.agg #[vi Bl,vi zC,vi NC,Sl.v Jg,Sl.v Ll]/\
   let M2:ah:=M1.push (.cells (aU [.i Bl,.i zC,.i NC,.s Jg,.s Ll]) dQ)
   gA M2 dQ [.i (0:Int),.i (0:Int),.i (0:Int),.s Sl.nil,.s Sl.nil] 72 ZL (Sl.mk M1.size 0 1 1) λaa5 M3=>da [m6.size,m1.size,m0.size,m.size] M2 M3/\I aa5 QH s ((k+1:Nat):Int) M3/\μ aa5 QH s ((k+1:Nat):Int) M3<μ st jP mn k m6:=by
   intro M hx
   have zx:=hx.size
   have ayD:=VT.aN
   refine(fA (S:=[ZL.ao,s.ao,QH.ao]++m1.size::S) (Jx ab bg) 15 (jP.len:Int)).mono λrv M1⟨pa,pk,e,h1,h2,dF⟩=>?_
   subst e
   have zx1:=dF.size
   have hxx:=hx.trans dF
   refine⟨dF.cg (mG ab),_,_,_,_,_,rfl,?_⟩
   have aqz:ZL.ao≠QH.ao:=Lt.JZ VT aO
   have aqA:ZL.ao≠s.ao:=Lt.JZ YX aO
   refine GS.iN (x:=de 15 (jP.len:Int)) (Lt.ext eu.mono hxx) ((X26.trans hxx).fz []) h1 h2 (by have:=B1.2.2;have:=dN (ls++dl.map (de 14)++[x']++ld.map (de 15));omega) λr' M3 g f z q=>⟨λc hc=>?_,next ab _ _ _ _ ⟨f.ext,⟨_,(g.re eu.mono (Y:=[]) ((af.av _).fz []) az az λc hc=>Or.inl (by simp only[aGg,aGp,aF0]at hc⊢;rcases hc with h|h|h;exact Or.inr (Or.inl h);exact Or.inl h;exact Or.inr (Or.inr h))),B1.1.xI (CP ab ?_),?_,?_⟩,⟨_,(VT.ext hxx).fK (q _ ab aqz.symm),bg⟩,⟨l,(YX.ext hxx).fK (q _ ab aqA.symm),by have:=tA.2;omega,hlr⟩,ne4⟩⟩
   ·have:=mG (M:=M1) ab c hc
    rw[q c this (by simp at hc;omega),(af.push M1 _).same c this]
   ·rw[B1.2.1];omega
   ·rw[bD,B1.2.1];simp[iH,dn,de,nj]
   ·rw[cb,jR,tv]
    have h5:(de 15 (jP.len:Int)).w=2:=by rw[bu.jD];rfl
    have:=B1.2.2;omega
  refine⟨λ_=>?_,λh0=>⟨λh1=>by rw[h0]at h1;simp at h1,λ_=>aei NG (af.av _)⟩⟩;refine(bW (YT (((aqr.ext Vq).fK (q26 _ ab ab)))) _).any.ay (af.av NG) (mG ab) λb Q4 x27 _=>⟨_,rfl,λ_=>?_,λ_=>⟨λ_=>aqy Q4 x27,λ_=>aei Q4 x27⟩⟩;intro m28;have akK:ZL.ao≠s.ao:=Lt.JZ YX aO;have z27:=x27.size;refine GI.iN (YX.ext x27) ((X26.trans x27).fz []) lG (by have:=tA.2;omega) λayE m29 g29 f29 z29 q29=>⟨λc hc=>?_,next ab _ _ _ _ ⟨f29.ext,⟨_,(Lt.ext eu.mono x27).re eu.mono (Y:=[s.ao]) ⟨z29.1,λc hc hn=>q29 c hc (by simpa using hn)⟩ az (by simpa using akK) λc hc=>?_,B1.1,B1.2.1,ab⟩,⟨_,(VT.ext x27).fK (q29 _ ?_ ne4),bg⟩,⟨_,g29,?_,?_⟩,?_⟩⟩
  ·have:=mG (M:=Q4) ab c hc;rw[q29 c this (by simp at hc;omega),(af.push Q4 _).same c this]
  ·simp only[aGg,aGp,aF0]at hc⊢;rcases hc with h|h|h
   ·exact Or.inl (Or.inr (Or.inl h))
   ·rcases z29.2 with e|e
    ·exact Or.inl (Or.inl (h.trans e))
    ·exact Or.inr ab
   ·exact Or.inl (Or.inr (Or.inr h))
  ·have:=VT.aN;omega
  ·have:=tA.2;simp;omega
  ·intro o ho;rcases List.mem_append.1 ho with ho|ho
   ·exact hlr o ho
   ·simp at ho;omega
  ·have:=VT.aN;rcases z29.2 with e|e<;>omega
 ·simp only[aFQ]at h;have jk:k=ar.length:=ab;subst jk;rw[aGG]at*;have ret:∀(M:ah)(YY:Sl)(Ue:List bu),af m2 M->GS (jP.ao::mn.ao::m1.size::S) m2 M YY Ue->WL ds rs.length True v.length Ue->dc Ue=dc ar->sw Ue<=1100*sw ar+2->
   let M':ah:=ag M m1.size 0 [.s YY,.i kV]
   ∃s b,Value.agg #[Sl.v YY,vi kV]=.agg #[Sl.v s,vi b.aH]/\cU (aY S M') s b.ar/\(WB ds rs.length True v.length b/\b.w+1050<=1100*(Bk.mk ar kV).w)/\af m M':=by
   intro M YY Ue hx g h1 h2 h3 M'
   have aqD:=dN Ue
   have:=g.aN
   refine⟨YY,.mk Ue kV,rfl,cU.le (bt az λc hc=>aFT _ hc) (g.re eu.mono (S':=m1.size::S) (Y:=[]) (Fz.av _ _) az az (λc hc=>Or.inl (aFT _ (aFT _ hc)))|>.done eu.mono lG aO bg),⟨WB.of h1 (by rw[h2];exact lP.2),?_⟩,(x2.trans hx).ag ab _ _⟩
   rw[Bk.nV,Bk.nV];omega
  have jm:∀(M:ah),af m6 M->aD Tryz.prog 125 [vi (14:Int),vi kV] M λrv M1=>da [m1.size,m0.size,m.size] M M1/\∃Bl:Int,∃zC:Int,∃NC:Int,∃Jg:Sl,∃Ll:Sl,rv=.agg #[vi Bl,vi zC,vi NC,Sl.v Jg,Sl.v Ll]/\
   let M2:ah:=M1.push (.cells (aU [.i Bl,.i zC,.i NC,.s Jg,.s Ll]) dQ)
   gA M2 dQ [.i (0:Int),.i (0:Int),.i (0:Int),.s Sl.nil,.s Sl.nil] 72 st (Sl.mk M1.size 0 1 1) λakL M3=>da [m1.size,m0.size,m.size] M2 M3/\
    let M':ah:=ag M3 m1.size 0 [.s akL,.i kV]
    ∃s b,Value.agg #[Sl.v akL,vi kV]=.agg #[Sl.v s,vi b.aH]/\cU (aY S M') s b.ar/\(WB ds rs.length True v.length b/\b.w+1050<=1100*(Bk.mk ar kV).w)/\af m M':=by
   intro M hx
   refine(fA (S:=st.ao::jP.ao::mn.ao::m1.size::S) (λc hc=>?_) 14 kV).mono λrv M1⟨a,kk,e,h1,h2,x1⟩=>?_
   ·have:=hx.size
    simp at hc
    rcases hc with h|h|h|h|h
    ·omega
    ·omega
    ·omega
    ·have:=x6.lt (hl m1.size az);omega
    ·have:=hS _ h;have:=v6.size;omega
   subst e
   have dF:=x6.trans (hx.trans x1)
   refine⟨af.me (x6.trans hx) dF hl,_,_,_,_,_,rfl,?_⟩
   refine GS.iN (x:=de 14 kV) (gs.ext eu.mono (hx.trans x1)) (dF.fz []) h1 h2 (by have:=dN ls;omega) λr' M3 g f z q=>⟨af.me (dF.aC _) f.ext hl,ret M3 r' _ f.ext g (uB.xI (CP ab (by rw[Hx];exact lP.2))) ?_ ?_⟩
   ·rw[bD,Hx];simp[iH,dn,de,nj]
   ·rw[cb];simp[jR,bu.jD,de];omega
  obtain⟨z,hz⟩:=ae (l:=li) (k:=kV.toNat) ab;refine⟨ab,ab,z,hi6.aE hz,λ_=>?_,λ_=>ret m6 st ls x6 gs uB Hx ab⟩;refine(bW (hla.ext v6) kV).any.ay x6 hl λb m7 x7 u7=>⟨_,rfl,λ_=>jm m7 x7,λ_=>?_⟩;exact(bW (hm6.ext x7) kV).any.ay u7 hl λb m8 x8 u8=>⟨_,rfl,λ_=>jm m8 (x7.trans x8),λ_=>ret m8 st ls u8 ((gs.ext eu.mono x7).ext eu.mono x8) uB Hx ab⟩
structure aoX(ds:List aS)(nr:Nat)(v lm:List Int)(b:Bk):Prop where
 aL:∀o∈lm,0<=o/\o<(v.length:Int)
 lN:lm.length+5*b.w<=1000000
 vN:v.length+5*b.w<=1000000
 wb:WB ds nr False v.length b
def ajp(ds:List aS)(rs:List di)(b:Bk):Prop:=∀(S:List Nat)(m:ah),(∀c∈S,c<m.size)->∀(d r vars t YM:Sl)(v lm:List Int),cR m d r ds rs->aj m vars v->cU m t b.ar->aj m YM lm->aoX ds rs.length v lm b->
 k8 160 [.agg #[Sl.v d,Sl.v r],Sl.v vars,.agg #[Sl.v t,vi b.aH],Sl.v YM] m S λb'=>WB ds rs.length True v.length b'/\b'.w+20<=40*b.w+2*lm.length
theorem IF{S:List Nat}{m:ah}(hS:∀c∈S,c<m.size){d r vars a k:Sl}{ds:List aS}{rs:List di}{v:List Int}{x:bu}(hn:cR m d r ds rs)(hv:aj m vars v)(ha:aj m a x.args)(hk:lA m k x.aW)
 (vN:v.length+5*x.w<=1000000)(oA:WS ds rs.length False v.length x)(ih:∀b∈x.aW,ajp ds rs b):
 J8 190 [.agg #[Sl.v d,Sl.v r],Sl.v vars,mJ x a k] m S λx'=>WS ds rs.length True v.length x'/\x'.op=x.op/\x'.w<=1+x.args.length+40*bw x.aW:=by
 apply AG
 simp -zeta only[aw,ax]
 intro m0 m1 m2 m3
 obtain⟨x2,hl,s0,s1,s2⟩:=nX (m1:=m0) (m2:=m1) (m3:=m2) rfl rfl rfl
 have OW:af m2 m3:=af.push _ _
 have gk:=GB.new (m1.size::S) m2
 clear_value m2
 have jK:=ha.len;have jk:=hk.len;have hw:=bu.jD x;have NF:=J3 x.aW;have Vl:=hv.len
 have lG:∀c∈m1.size::S,c<m2.size:=bd hS x2.size (hl _ az)
 refine(eL (S:=[m2.size]) (by simp[m3]) (hn.le (x2.trans OW).le).aI hn.types x.bh).ay OW hl λc cl m4 hc q x4 u4=>⟨_,rfl,?_⟩
 subst q
 have pt:=hc.len
 refine cN (n:=x.aW.length) (jk▸hk.eP) (λj s M=>Fz [m2.size] m4 M/\(s.ao=m2.size\/m4.size<=s.ao)/\∃l,GB (m1.size::S) m2 M s l/\l.length=j/\(∀(i:Nat)(b:Bk),l[i]? =some b->WB ds rs.length True (v.length+zT ds x.op x.bh i) b)/\bw l<=40*bw (x.aW.take j)) ⟨Fz.av _ _,Or.inl rfl,[],gk.ext pv.mono x4,rfl,az,az⟩ ?_
 rintro j s m5 I μ hj ⟨f5,hsb,l,g,hlen,lP,Ln⟩ next
 have u5:=acw u4 f5 (aFR _)
 have hy:=g.aN
 refine⟨λh=>?_,λh=>?_⟩
 ·simp only[aFP]at h
  intro m6
  have x6:af m5 m6:=af.push _ _
  have u6:=u5.trans x6
  obtain⟨b,hb⟩:=ae (l:=x.aW) (k:=j) ab
  have hbm:=vx hb
  have nH:=sJ hb
  have uD:=RD hn.types x.op x.bh j
  have ayG:=nW x.aW
  refine⟨λf M=>af m5 M/\∃fl,aj M f fl/\fl.length=zT ds x.op x.bh j,⟨λh8=>?_,λh8=>?_⟩,?_⟩
  ·simp only[aFZ]at h8
   have hka:=(oA.db.all h8).1
   obtain⟨y,lj⟩:=ae (l:=bB ds x.bh) (k:=j) ab
   refine⟨ab,ab,y,(cT.1 ((hc.le ((f5.then x6).bO az)).aE lj)).2,?_⟩
   refine(cw (S:=[]) az ((hn.le (x2.trans u6).le).aI.le (yS _)) hn.types y).ay u6 hl λf fl m7 hf q x7 u7=>⟨_,rfl,x6.trans x7,fl,hf.le (aV _ _),?_⟩
   subst q;exact(J9 h8 lj).symm
  ·simp only[aFU]at h8
   exact⟨x6,[],jM _ _ _ _ _ _,(Ka h8).symm⟩
  rintro fs m8 ⟨x8,fl,hf,gL⟩
  have u8:=u5.trans x8
  have e8:(vars.len:Int)=((v.length:Nat):Int):=by rw[Vl]
  rw[e8]
  refine(pE (S:=[]) az (hf.le (yS _)) v.length ab).ay u8 hl λmi ml m9 gm qm x9 u9=>⟨_,rfl,?_⟩
  obtain⟨t,hs,e0,e1⟩:=hk.aE hb
  have v9:=x2.trans u9
  refine⟨ab,ab,_,v9.ad e0,_,v9.ad e1,?_⟩
  have z5:=u5.size
  have g9:=g.ext pv.mono (x8.trans x9)
  have hmi:∀{M:ah},af m9 M->aj M mi ml:=λh=>((gm.done az (by have:=qm.2;omega)).le (aV _ _)).ext h
  have YZ:=qm.2
  have E5:∀{M M':ah},af m2 M->af m2 M'->∀{p:Prop},p->ad M' k.ao (k.off+Int.toNat (j:Int)*2)=ad M k.ao (k.off+Int.toNat (j:Int)*2)/\ad M' k.ao (k.off+Int.toNat (j:Int)*2+1)=ad M k.ao (k.off+Int.toNat (j:Int)*2+1)/\
   ad M' m0.size 4=ad M m0.size 4/\ad M' m.size 0=ad M m.size 0/\ad M' m.size 1=ad M m.size 1/\p:=λ{M M'} h h' _ hp=>by
   have E:∀b,b<m2.size->∀o,ad M' b o=ad M b o:=λb hb o=>aA (by rw[h'.same b hb,h.same b hb]) o
   exact⟨((x2.trans h').ad e0).trans ((x2.trans h).ad e0).symm,((x2.trans h').ad e1).trans ((x2.trans h).ad e1).symm,E _ ab _,E _ ab _,E _ ab _,hp⟩
  have YR:∀{M:ah},af m5 M->∀c∈s.ao::m1.size::S,c<M.size:=λh c hc=>by
   have:=h.size;rcases List.mem_cons.1 hc with e|e
   ·omega
   ·have:=lG c e;omega
  have hL:∀{M:ah}{bb:Nat},af m5 M->bb<M.size->∀c∈[bb,m1.size,m0.size,m.size],c<M.size:=λh hb c hc=>by
   rcases List.mem_cons.1 hc with e|e
   ·omega
   ·exact(u5.trans h).lt (hl c e)
  have tail:∀(M:ah)(bb:Nat)(ss:Sl)(b':Bk),GB (bb::m1.size::S) m2 M s l->af m5 M->af m9 M->m9.size<=bb->bb<M.size->cU (aY (bb::s.ao::m1.size::S) M) ss b'.ar->WB ds rs.length True (v.length+fl.length) b'/\b'.w+20<=40*b.w+2*ml.length->
   let M1:ah:=ag M bb 0 [.s ss,.i b'.aH]
   aD Tryz.prog 187 [vi (14:Int),Sl.v mi] M1 λrv M2=>da [bb,m1.size,m0.size,m.size] M1 M2/\∃zE:Sl,rv=Sl.v zE/\ad M2 bb 1=ad M1 bb 1/\ad M2 bb 0=ad M1 bb 0/\
    gA M2 dQ [.i (0:Int),.i (0:Int),.i (0:Int),.s Sl.nil,.s Sl.nil] 72 zE ss λr57 M3=>da [bb,m1.size,m0.size,m.size] M2 M3/\ad M3 bb 1=ad M2 bb 1/\
     let M4:ah:=M3.push (.cells (aU [.s r57,.i b'.aH]) bU)
     gA M4 bU [.s Sl.nil,.i (0:Int)] 32 s (Sl.mk M3.size 0 1 1) λr62 M5=>da [bb,m1.size,m0.size,m.size] M4 M5/\I r62 (bS ((j:Int)+(1:Int))) M5/\μ r62 (bS ((j:Int)+(1:Int))) M5<μ s j m5:=by
   intro M bb ss b' g hx Jw XN ap8 sk hq M1
   have z1:M1.size=M.size:=aq _ _ _ _
   have z9:=(x8.trans x9).size
   have xM1:af m9 M1:=Jw.ag XN _ _
   have xM5:af m5 M1:=(x8.trans x9).trans xM1
   have cx:s.ao≠bb:=ab
   have g1:GB (m1.size::S) m2 M1 s l:=g.re pv.mono (Y:=[bb]) ((Fz.av [bb] M).ag (Or.inl az) _ _) az (by simpa using cx) λc hc=>Or.inl (aFT _ hc)
   have afP:cU (aY (s.ao::m1.size::S) M1) ss b'.ar:=sk.le (bt az λc hc=>aFT _ hc)
   have hbs:=Bk.jD b';have Ln:=dN b'.ar
   refine(cZ (S:=s.ao::m1.size::S) (YR xM5) 14 (hmi xM1) ab).ay (af.av M1) (hL xM5 ab) λzE _ M2 g54 e Vm _=>⟨_,rfl,aA (Vm.same _ ab) _,aA (Vm.same _ ab) _,?_⟩
   subst e
   have z2:=Vm.size
   refine GS.all g54 (Vm.fz []) (afP.le (qN Vm g54.aN.1)) bg λr57 M3 g57 f57 z57 q57=>?_
   have xM3:af M1 M3:=f57.ext
   have z3:=xM3.size
   have hyg:=g54.aN
   refine⟨λc hc=>q57 c (by have:=hL xM5 (bb:=bb) ab c hc;omega) (by have:=hL xM5 (bb:=bb) ab c hc;omega),aA (q57 _ ab ab) _,?_⟩
   intro M4
   have h57:=g57.done eu.mono (YR xM5) aO bg
   refine GB.iN (b:=.mk (ml.map (de 14)++b'.ar) b'.aH) (g1.ext pv.mono xM3) ((((u5.trans xM5).trans xM3)).fz []) h57 ab λr62 M5 g62 f62 z62 q62=>⟨λc hc=>?_,next ab _ _ ⟨(f5.then (xM5.trans xM3)).Oo hsb z62.1 q62,?_,_,g62,bg,λi b2 hi=>?_,?_⟩⟩
   ·have:=hL (xM5.trans xM3) (bb:=bb) ab c hc
    rw[q62 c this (by simp at hc;omega),(af.push M3 _).same c this]
   ·have h1:=(f5.then (xM5.trans xM3)).size
    rcases z62.2 with e|e<;>omega
   ·rcases aF1 i l.length with iy|iy
    ·rw[aFV iy]at hi;exact lP i b2 hi
    ·rw[aFX iy]at hi
     have:i -l.length=0:=by have:=ap hi;simp at this;omega
     rw[this]at hi;simp at hi;subst hi
     have:i=j:=ab
     subst this
     rw[<-gL]
     refine WB.of ((pF ab λo ho=>?_).append ?_) ?_
     ·have:=qm.1 o ho;omega
     ·rw[gS ab];exact hq.1.aT.1
     ·rw[bD,gS ab,aGa];exact hq.1.aT.2
   ·rw[mz,sI,yO,Bk.nV,cb,mf]
    have:=hq.2;omega
  have akN:∀(M:ah)(L:List Nat)(K:Value->ah->Prop),af m9 M->(∀c∈L,c<M.size)->(∀s M',aj M' s (v++fl)->af M M'->K (Sl.v s) M')->aD Tryz.prog 116 [Sl.v vars,Sl.v fs] M λv m'=>da L M m'/\K v m':=λM L K hx hL hK=>
   (cS (S:=[]) az ((hv.ext (v9.trans hx)).le (yS _)) ((hf.ext (x9.trans hx)).le (yS _)) ab).ay (af.av M) hL λs ll M' g e x _=>hK s M' (by subst e;exact(g.done az bg).le (aV _ _)) x
  have ao:∀(M:ah)(S':List Nat)(jP:Sl),(∀c∈S',c<M.size)->af m9 M->aj M jP (v++fl)->k8 160 [.agg #[Sl.v d,Sl.v r],Sl.v jP,.agg #[Sl.v t,vi b.aH],Sl.v mi] M S' λb'=>WB ds rs.length True (v.length+fl.length) b'/\b'.w+20<=40*b.w+2*ml.length:=by
   intro M S' jP Q3 hx hi;have hm:=v9.trans hx;have:=ih b (ak hb) S' M Q3 d r jP t mi (v++fl) ml (hn.le hm.le) hi (hs.le hm.le) (hmi hx) ⟨λo ho=>?_,ab,bg,by simp;rw[gL];exact oA.aW j b hb⟩
   ·simpa using this
   ·have:=qm.1 o ho;simp;omega
  have fG:∀(M:ah)(bb:Nat)(jP:Sl),GB (bb::m1.size::S) m2 M s l->af m9 M->m9.size<=bb->bb<M.size->aj M jP (v++fl)->
   aD Tryz.prog 160 [.agg #[Sl.v d,Sl.v r],Sl.v jP,.agg #[Sl.v t,vi b.aH],Sl.v mi] M λrv M'=>da [bb,m1.size,m0.size,m.size] M M'/\∃Bl:Sl,∃zC:Int,rv=.agg #[Sl.v Bl,vi zC]/\
    let M1:ah:=ag M' bb 0 [.s Bl,.i zC]
    aD Tryz.prog 187 [vi (14:Int),Sl.v mi] M1 λrv M2=>da [bb,m1.size,m0.size,m.size] M1 M2/\∃zE:Sl,rv=Sl.v zE/\ad M2 bb 1=ad M1 bb 1/\ad M2 bb 0=ad M1 bb 0/\
     gA M2 dQ [.i (0:Int),.i (0:Int),.i (0:Int),.s Sl.nil,.s Sl.nil] 72 zE Bl λr57 M3=>da [bb,m1.size,m0.size,m.size] M2 M3/\ad M3 bb 1=ad M2 bb 1/\
      let M4:ah:=M3.push (.cells (aU [.s r57,.i zC]) bU)
      gA M4 bU [.s Sl.nil,.i (0:Int)] 32 s (Sl.mk M3.size 0 1 1) λr62 M5=>da [bb,m1.size,m0.size,m.size] M4 M5/\I r62 (bS ((j:Int)+(1:Int))) M5/\μ r62 (bS ((j:Int)+(1:Int))) M5<μ s j m5:=by
   intro M bb jP g hx h1 h2 h3
   have x5:=(x8.trans x9).trans hx
   have z9:=(x8.trans x9).size
   refine(ao M (bb::s.ao::m1.size::S) jP (λc hc=>?_) hx h3).ay (af.av M) (hL x5 h2) λss b' M' sk hq ph _=>⟨_,_,rfl,tail M' bb ss b' (g.ext pv.mono ph) (x5.trans ph) (hx.trans ph) h1 (ph.lt h2) sk hq⟩
   rcases List.mem_cons.1 hc with e|e
   ·omega
   ·exact YR x5 c e
  have push:∀(M:ah)(o:Obj),GB (m1.size::S) m2 M s l->GB (M.size::m1.size::S) m2 (M.push o) s l:=λM o g=>
   g.re pv.mono (Y:=[]) ((af.push M o).fz []) az az λc hc=>by
    rcases List.mem_cons.1 hc with e|e
    ·exact Or.inr ab
    ·exact Or.inl e
  refine⟨akN m9 _ _ (af.av _) (λc hc=>u9.lt (hl c hc)) λjP cK hi cO=>⟨_,rfl,E5 u9 (u9.trans cO) ⟨?_,?_⟩⟩,?_⟩
  ·have xu:=u9.trans cO
   have wh:=cO.size
   refine(ao cK (s.ao::m1.size::S) jP (YR ((x8.trans x9).trans cO)) cO hi).ay xu hl λss b' dm sk hq eB Pg=>⟨_,_,rfl,?_⟩
   intro df
   have xw:=eB.size
   exact E5 Pg (Pg.aC _) (tail df dm.size ss b' (push dm _ ((g9.ext pv.mono cO).ext pv.mono eB)) ((((x8.trans x9).trans cO).trans eB).aC _) ((cO.trans eB).aC _) ab (by simp[df]) (sk.le (qN (af.push dm _) (aFR _))) hq)
  ·intro sY
   have xu:=u9.trans cO
   have wh:=cO.size
   exact E5 xu (xu.aC _) (fG sY cK.size jP (push cK _ (g9.ext pv.mono cO)) (cO.aC _) ab (by simp[sY]) (hi.ext (af.push _ _)))
  ·intro Jk
   have Ii:af m9 Jk:=af.push _ _
   have u25:af m2 Jk:=u9.trans Ii
   refine E5 u9 u25 (akN Jk _ _ Ii (hL ((x8.trans x9).trans Ii) (by simp[Jk])) λjP NG hi Ub=>⟨_,rfl,E5 u25 (u25.trans Ub) ?_⟩)
   exact fG NG m9.size jP ((push m9 _ g9).ext pv.mono Ub) (Ii.trans Ub) (aFR _) (Ub.lt (by simp[Jk])) hi
 ·simp only[aFQ]at h
  have Pf:l.length=x.aW.length:=ab
  rw[bL ab]at Ln
  refine(ba (m1.size::S) (ha.ext (x2.trans u5)) ab).ay u5 hl λs' l' m6 ga e x6 u6=>⟨_,rfl,aA (x6.same _ (u5.lt (hl _ az))) _,aA (x6.same _ (u5.lt (hl _ az))) _,?_⟩
  subst e
  intro m7
  refine⟨s',s,⟨x.op,x.bh,0,x.args,l⟩,rfl,?_,?_,⟨oA.PU (λh=>h.elim) ⟨ab,ab⟩ Pf lP,rfl,?_⟩,(x2.trans u6).ag ab _ _⟩
  ·exact(ga.done (λc hc=>aFY (lG c hc) u5.size) ab).le (bt az λc hc=>aFT _ hc)
  ·exact lA.le (bt az λc hc=>aFT _ hc) ((g.ext pv.mono x6).done pv.mono lG aO (by have:=nW x.aW;show l.length<=_;omega))
  ·rw[bu.jD]
   simp only
   omega
structure LB(ds:List aS)(nr:Nat)(S:List Nat)(m2 M:ah)(v lm:List Int)(ar:List bu)(k:Nat)(st jP ow:Sl):Prop where
 x:af m2 M
 hs:∃l,GS (jP.ao::ow.ao::S) m2 M st l/\WL ds nr True v.length l/\dc l=dc (ar.take k)/\sw l+2*k<=40*sw (ar.take k)
 hi:∃l,GI S m2 M jP l/\l.length=v.length+dc (ar.take k)
 ho:∃l,GI S m2 M ow l/\l.length<=lm.length+k/\∀o∈l,0<=o/\o<((v.length+dc (ar.take k):Nat):Int)
 ne:jP.ao≠ow.ao
theorem Gu{ds:List aS}{rs:List di}:∀b:Bk,ajp ds rs b:=by
 refine Bk.ind ?_;intro ar kV ih S m hS d r vars t YM v lm hn hv hs hmi hp;have lP:=hp.wb.aT;have hw:=Bk.nV ar kV;simp only[Bk.gH,Bk.fH]at*;have lN:=hp.lN;have vN:=hp.vN;rw[hw]at lN vN;apply yy;simp -zeta only[aw,ax];intro m0 m1 m2 m3;obtain⟨x2,hl,s0,s1,s2⟩:=nX (m1:=m0) (m2:=m1) (m3:=m2) rfl rfl rfl;have OW:af m2 m3:=af.push _ _;have gs0:∀S',GS S' m2 m3 (.mk m2.size 0 0 0) []:=λS'=>GS.new S' m2;have s3:m3.size=m2.size+1:=by simp[m3]
 clear_value m3;clear_value m2;have kQ:=hs.len;have Jj:=yP ar;have QF:=dN ar;refine(ba S (hv.ext (x2.trans OW)) ab).ay OW hl λjP _ m4 gi e x4 u4=>⟨_,rfl,?_⟩;subst e;refine(ba S (hmi.ext (x2.trans u4)) ab).ay u4 hl λow _ m5 go e x5 u5=>⟨_,rfl,?_⟩;subst e;have hyi:=gi.aN;have hym:=go.aN;refine Tp (n:=ar.length) (kQ▸hs.eP) (λk st jP ow M=>LB ds rs.length (m1.size::S) m2 M v lm ar k st jP ow) ⟨u5,⟨[],((gs0 _).ext eu.mono x4).ext eu.mono x5,WL.nil _ _ _ _,rfl,az⟩,⟨v,((gi.ext x5).bN (λ_ h=>h) OW.size).any,az⟩,⟨lm,(go.bN (λ_ h=>h) u4.size).any,ab,by simpa using hp.aL⟩,ab⟩ ?_;clear gi go hyi hym gs0;rintro k st jP ow m6 I μ hk ⟨x6,⟨ls,gs,uB,Hx,aqb⟩,⟨li,gi,cli⟩,⟨lo,go,clo,Dz⟩,cx⟩ next
 have v6:=x2.trans x6;have aky:=gi.len aO;have hdk:=qQ (ar.take k);have Pf:=aHj k ar;have lG:∀c∈m1.size::S,c<m2.size:=bd hS x2.size (hl _ az);have hys:=gs.aN;have hyi:=gi.aN;have hyo:=go.aN;have afS:=dN (ar.take k);have hkt:k<=sw (ar.take k):=by rw[aGH]at afS;omega
 have hls:=dN ls;have z6:=x6.size;have hgi:∀{M:ah},GI (m1.size::S) m2 M jP li->aj M jP li:=λg=>(g.done lG ab).le (aV _ _);have ZA:∀{M:ah},GI (m1.size::S) m2 M ow lo->aj M ow lo:=λg=>(g.done lG ab).le (aV _ _);have Jx:∀{M:ah}{S':List Nat},m6.size<=M.size->(∀c∈S',c<M.size)->∀c∈S'++m1.size::S,c<M.size:=λh hb c hc=>by
  rcases List.mem_append.1 hc with h|h
  ·exact hb c h
  ·have:=lG c h;omega
 have hL6:∀{M:ah},af m6 M->∀c∈[m1.size,m0.size,m.size],c<M.size:=λh c hc=>(x6.trans h).lt (hl c hc);have afW:st.ao≠jP.ao:=gs.JZ gi aO;have aa3:st.ao≠ow.ao:=gs.JZ go aO;refine⟨λh=>?_,λh=>?_⟩
 ·simp only[aFP]at h;obtain⟨x,hx⟩:=ae (l:=ar) (k:=k) ab;obtain⟨a,kk,ha,oO,g0,g1,g2,g3,g4⟩:=hs.aE hx;refine⟨ab,ab,_,v6.ad g0,_,v6.ad g1,_,v6.ad g2,_,v6.ad g3,_,v6.ad g4,?_⟩;intro m7 m8;have x8:af m6 m8:=(af.push m6 _).ag (aFR _) _ _;have s8:m8.size=m6.size+1:=by simp[m8,m7,aq]
  clear_value m8;have u8:=x6.trans x8;have mG:∀{M:ah},m8.size<=M.size->∀b∈[m6.size,m1.size,m0.size,m.size],b<M.size:=λh b hb=>by
   rcases List.mem_cons.1 hb with e|e
   ·omega
   ·have:=u8.lt (hl b e);omega
  have Ua:=nh hx;have hxd:=oG hx;have hxs:=bu.jD x;have oA:WS ds rs.length False li.length x:=by rw[cli];exact lP.1 k x hx
  have Vo:=dn1 oA;have afT:=Jj (k+1);have FF:∀{M:ah},af m2 M->At M d r a kk ds rs x:=λh=>⟨hn.le (x2.trans h).le,ha.ext (x2.trans h),oA.db.call⟩;refine(lJ (FF u8).RE (hgi (gi.ext x8)) (FF u8).args (oO.le (x2.trans u8).le) ab λb _=>kO b).ay (af.av m8) (mG (aFR _)) λty m9 x9 _=>⟨_,rfl,?_⟩;have X9:=u8.trans x9;have z9:=x9.size;refine(wZ (S:=[]) az (FF X9) (hgi ((gi.ext x8).ext x9)) oA.db.args ab).ay (af.av m9) (mG ab) λdu dl cK gdu q10 cO _=>⟨_,rfl,?_⟩;have c10:=q10.2;have wh:=cO.size;refine(cZ (S:=[st.ao,jP.ao,ow.ao]++m1.size::S) (Jx ab bg) 14 ((gdu.done az ab).le (aV _ _)) ab).ay (af.av cK) (mG ab) λr41 _ dm g41 e eB _=>⟨_,rfl,?_⟩;subst e;have X11:=(X9.trans cO).trans eB;have xw:=eB.size;have y11:af m6 dm:=(((x8.trans x9).trans cO).trans eB);refine GS.all (gs.ext eu.mono y11) (X11.fz []) (g41.done eu.mono (Jx (S':=[st.ao,jP.ao,ow.ao]) ab bg) aO bg) bg λr42 df g42 f12 MH VR=>⟨λc hc=>VR c (mG ab c hc) ?_,?_⟩
  ·simp at hc;omega
  have NH:af m2 df:=f12.ext;have YU:=(gi.ext y11).fK (VR _ ab afW.symm);have aqG:=(go.ext y11).fK (VR _ ab aa3.symm);have ayL:r42.ao=st.ao\/dm.size<=r42.ao:=MH.2;have ayM:=g42.aN;have ayN:=MH.1;refine(IF (S:=[r42.ao,jP.ao,ow.ao]++m1.size::S) (Jx ab bg) (FF NH).RE (hgi YU) (FF NH).args (oO.le (x2.trans NH).le) ab oA (ih x (ak hx))).ay (af.av df) (mG ab) λca ck x' iC VS BT q13 fF _=>⟨_,_,_,_,_,rfl,?_⟩;obtain⟨afX,afY,rJ⟩:=q13;have X13:=NH.trans fF;have Sw:=fF.size;refine GS.iN (x:=x') (g42.ext eu.mono fF) (X13.fz []) VS BT bg λr49 kT g49 f15 MI ZK=>⟨λc hc=>?_,?_⟩
  ·have:=mG (M:=iC) ab c hc;rw[ZK c this (by simp at hc;omega),(af.push iC _).same c this]
  have X15:af m2 kT:=f15.ext;have aqh:=MI.1;have YV:=(YU.ext fF).fK (ZK _ ab ab);have af6:=(aqG.ext fF).fK (ZK _ ab ab);have ayO:r49.ao=st.ao\/dm.size<=r49.ao:=by have:=MI.2;omega
  have B1:WL ds rs.length True v.length (ls++dl.map (de 14)++[x'])/\dc (ls++dl.map (de 14)++[x'])=dc (ar.take (k+1))/\sw (ls++dl.map (de 14)++[x'])+2*(k+1)<=40*sw (ar.take (k+1)):=by
   have aqx:dn x'=1:=by unfold dn at Vo⊢;rw[afY];exact Vo
   have d1:dc (dl.map (de 14))=0:=gS ab _;refine⟨((uB.append (pF ab λo ho=>?_)).xI ?_),?_,?_⟩
   ·rw[Hx,<-cli];exact oA.db.args o (q10.1 o ho)
   ·rw[bD,d1,Hx,aGX,<-cli];exact afX
   ·rw[bD,bD,d1,Hx,iH,qP];omega
   ·rw[cb,cb,mf,jR,tv];omega
  have aa7:∀o∈lo,0<=o/\o<((v.length+dc (ar.take (k+1)):Nat):Int):=λo ho=>by
   have:=Dz o ho;omega
  have aek:∀(M:ah)(ow':Sl)(lo2:List Int),af m2 M->m8.size<=M.size->GS (jP.ao::ow'.ao::m1.size::S) m2 M r49 (ls++dl.map (de 14)++[x'])->GI (m1.size::S) m2 M jP li->GI (m1.size::S) m2 M ow' lo2->jP.ao≠ow'.ao->lo2.length<=lm.length+(k+1)->(∀o∈lo2,0<=o/\o<((v.length+dc (ar.take (k+1)):Nat):Int))->
   gA (M.push (.cells (aU [.i ty]) au)) au [.i (0:Int)] 8 jP (Sl.mk M.size 0 1 1) λr60 M'=>da [m6.size,m1.size,m0.size,m.size] (M.push (.cells (aU [.i ty]) au)) M'/\I r49 r60 ow' (bS ((k:Int)+(1:Int))) M'/\μ r49 r60 ow' (bS ((k:Int)+(1:Int))) M'<μ st jP ow k m6:=by
   intro M ow' lo2 hx hz g gI gO hn' uI OX
   have hyI:=gI.aN;have hyO:=gO.aN
   have af1:r49.ao≠jP.ao:=g.JZ gI aO
   refine GI.iN gI (hx.fz []) lG ab λr60 M' g60 f60 z60 q60=>⟨λc hc=>?_,next ab _ _ _ _ ⟨f60.ext,⟨_,g.re eu.mono (Y:=[jP.ao]) ⟨z60.1,λc hc hn=>q60 c hc (by simpa using hn)⟩ az (by simpa using af1) (λc hc=>?_),B1.1,B1.2.1,B1.2.2⟩,⟨_,g60,bg⟩,⟨lo2,gO.fK (q60 _ hyO.2 hn'.symm),uI,OX⟩,?_⟩⟩
   ·have:=mG hz c hc
    rw[q60 c this (by simp at hc;omega),(af.push M _).same c this]
   ·simp only[aF0]at hc⊢
    rcases hc with h|h|h
    ·rcases z60.2 with e|e
     ·exact Or.inl (Or.inl (h.trans e))
     ·exact Or.inr ab
    ·exact Or.inl (Or.inr (Or.inl h))
    ·exact Or.inl (Or.inr (Or.inr h))
   ·rcases z60.2 with e|e<;>omega
  refine⟨λ_=>?_,λ_=>?_⟩
  ·intro pV;have aqK:r49.ao≠ow.ao:=g49.JZ af6 aO;refine GI.iN af6 (X15.fz []) lG ab λr56 oB g56 f56 z56 q56=>⟨λc hc=>?_,?_⟩
   ·have:=mG (M:=kT) ab c hc;rw[q56 c this (by simp at hc;omega),(af.push kT _).same c this]
   intro sY;have ayS:=z56.1;refine aek oB r56 _ f56.ext ab (g49.re eu.mono (Y:=[ow.ao]) ⟨z56.1,λc hc hn=>q56 c hc (by simpa using hn)⟩ az (by simpa using aqK) λc hc=>?_) (YV.fK (q56 _ ab cx)) g56 ?_ bg ?_
   ·simp only[aGg,aGp,aF0]at hc⊢;rcases hc with h|h|h
    ·exact Or.inl (Or.inl h)
    ·rcases z56.2 with e|e
     ·exact Or.inl (Or.inr (Or.inl (h.trans e)))
     ·exact Or.inr ab
    ·exact Or.inl (Or.inr (Or.inr h))
   ·rcases z56.2 with e|e<;>omega
   ·intro o ho;rcases List.mem_append.1 ho with ho|ho
    ·exact aa7 o ho
    ·simp at ho;omega
  ·intro Jy;exact aek kT ow lo X15 ab g49 YV af6 cx ab aa7
 ·simp only[aFQ]at h;have jk:k=ar.length:=ab;subst jk;rw[aGG]at*;have ret:∀(M:ah)(YY:Sl)(Ue:List bu),af m2 M->m6.size<=M.size->GS (jP.ao::ow.ao::m1.size::S) m2 M YY Ue->aj M ow lo->WL ds rs.length True v.length Ue->dc Ue=dc ar->sw Ue+2*ar.length<=40*sw ar+2->
   aD Tryz.prog 187 [vi (15:Int),Sl.v ow] M λrv M1=>da [m1.size,m0.size,m.size] M M1/\∃Jh:Sl,rv=Sl.v Jh/\ad M1 m0.size 1=ad M m0.size 1/\
    gA M1 dQ [.i (0:Int),.i (0:Int),.i (0:Int),.s Sl.nil,.s Sl.nil] 72 YY Jh λYW M2=>da [m1.size,m0.size,m.size] M1 M2/\ad M2 m0.size 1=ad M1 m0.size 1/\
     let M3:ah:=ag M2 m1.size 0 [.s YW,.i kV]
     ∃s b,Value.agg #[Sl.v YW,vi kV]=.agg #[Sl.v s,vi b.aH]/\cU (aY S M3) s b.ar/\(WB ds rs.length True v.length b/\b.w+20<=40*(Bk.mk ar kV).w+2*lm.length)/\af m M3:=by
   intro M YY Ue hx hz g ho aqM akP Su
   have hy:=g.aN
   have ayT:=dN Ue
   have hm0:m0.size<M.size:=hx.lt (hl _ az)
   refine(cZ (S:=[YY.ao,jP.ao,ow.ao]++m1.size::S) (Jx hz bg) 15 ho ab).ay hx hl λJh _ M1 g75 e x1 u1=>⟨_,rfl,aA (x1.same _ hm0) _,?_⟩
   subst e
   have z1:=x1.size
   have cA:∀c∈[m1.size,m0.size,m.size],c<M1.size:=λc hc=>u1.lt (hl c hc)
   have aa8:∀c∈[m1.size,m0.size,m.size],c<m2.size:=hl
   refine GS.all (g.ext eu.mono x1) (u1.fz []) (g75.done eu.mono (Jx (S':=[YY.ao,jP.ao,ow.ao]) hz bg) aO bg) bg λYW M2 g2 f z q=>⟨λc hc=>q c (cA c hc) (by have:=aa8 c hc;omega),aA (q _ ab ab) _,?_⟩
   intro M3
   refine⟨YW,.mk _ kV,rfl,cU.le (bt az λc hc=>aFT _ hc) ((g2.re eu.mono (S':=m1.size::S) (Y:=[]) (Fz.av _ _) az az (λc hc=>Or.inl (aFT _ (aFT _ hc)))).done eu.mono lG aO bg),⟨WB.of (aqM.append (pF ab λo ho=>?_)) ?_,?_⟩,(x2.trans f.ext).ag ab _ _⟩
   ·have:=Dz o ho;rw[akP];exact this
   ·rw[bD,gS ab,akP];exact lP.2
   ·rw[Bk.nV,Bk.nV,cb,mf];omega
  obtain⟨z,hz⟩:=ae (l:=li) (k:=kV.toNat) ab;refine⟨ab,ab,z,(hgi gi).aE hz,λ_=>?_,λ_=>?_⟩
  ·refine(fA (S:=[st.ao,jP.ao,ow.ao]++m1.size::S) (Jx (aFR _) bg) 14 kV).mono λrv M1⟨pa,pk,e,h1,h2,x1⟩=>?_;subst e;refine⟨x1.cg (hL6 (af.av _)),_,_,_,_,_,rfl,?_⟩;have z1:=x1.size;refine GS.iN (x:=de 14 kV) (gs.ext eu.mono x1) ((x6.trans x1).fz []) h1 h2 ab λr' M3 g f z q=>⟨λc hc=>?_,ret M3 r' _ f.ext ab g (ZA ((go.ext x1).fK (q _ ab aa3.symm))) (uB.xI (CP ab (by rw[Hx];exact lP.2))) ?_ ?_⟩
   ·have:=hL6 x1 c hc;have h5:=hl c hc;rw[q c this ab,(af.push M1 _).same c this]
   ·rw[bD,Hx];simp[iH,dn,de,nj]
   ·rw[cb,jR,tv];have h5:(de 14 kV).w=2:=by rw[bu.jD];rfl
    omega
  ·exact ret m6 st ls x6 (aFR _) gs (ZA go) uB Hx ab
theorem ka.mono:lV 1 ka:=⟨λh=>ka.le h _ _,λ⟨_,h,_⟩=>by rw[h];rfl⟩
theorem eX.mono:lV 3 eX:=⟨λh=>eX.le h _ _,λ⟨_,h,_⟩=>by rw[h];rfl⟩
theorem dI{S:List Nat}{m:ah}(hS:∀c∈S,c<m.size){aI:Sl}{ds:List aS}(hd:br m aI ds)(ht:cE ds):aD Tryz.prog 87 [Sl.v aI] m λv m'=>∃s,v=Sl.v s/\br (aY S m') s ds/\af m m':=by
 apply yl;intro m1;have kU:=hd.len;have hd4:=ht.len;have g0:Gr S m m1 gR 3 eX (.mk m.size 0 0 0) []:=Gr.new S (aFR _) _ _ _;refine cN (n:=ds.length) ab (λk s M=>af m M/\Gr S m M gR 3 eX s (ds.take k)) ⟨af.push _ _,g0⟩ ?_;rintro k s m2 I μ hk ⟨x2,g⟩ next
 have hy:=g.aN;refine⟨λh=>?_,λh=>?_⟩
 ·simp only[aFP]at h;obtain⟨d,nK⟩:=ae (l:=ds) (k:=k) ab;obtain⟨f,hf,g0,g1,g2⟩:=hd.aE nK;have gL:=hf.len;have Sj:=je ht nK;intro m3;have gc:Gr (s.ao::S) m2 m3 HO 1 ka (.mk m2.size 0 0 0) []:=Gr.new _ (aFR _) _ _ _;refine cN (n:=d.cons.length) ab (λj c M=>af m2 M/\Gr (s.ao::S) m2 M HO 1 ka c (d.cons.take j)) ⟨af.push _ _,gc⟩ ?_;rintro j c m4 I2 μ2 hj ⟨x4,gc⟩ eN;have u4:=x2.trans x4;refine⟨ab,ab,f,u4.ad g2,λh2=>?_,λh2=>?_⟩
  ·simp only[aFP]at h2;obtain⟨y,lj⟩:=ae (l:=d.cons) (k:=j) ab;obtain⟨z,hz,gz⟩:=hf.aE lj;have hy3:y.length<=3:=(((ht.cq k d nK).eZ ab).2.2.2 y (ak lj)).1;refine⟨ab,ab,f,u4.ad g2,ab,ab,z,u4.ad gz,?_⟩;have hyc:=gc.aN;refine(ba (c.ao::s.ao::S) (hz.ext u4) ab).then λz' _ m5 gz' e x5=>⟨_,rfl,?_⟩;subst e;have x:=x4.trans x5;intro m6;refine Gr.iN (zs:=[.s .nil]) ka.mono aO (gc.ext ka.mono x5) (x.fz []) ⟨z',rfl,gz'.done (λe he=>?_) ab⟩ bg λr m7 g7 f7 _ _=>eN ab _ _ ⟨f7.ext,by rw[bn lj];exact g7⟩;have:=x4.size;simp only[aF0]at he;rcases he with h|h|h
   ·omega
   ·omega
   ·have:=hS e h;have:=x2.size;omega
  ·simp only[aFQ]at h2;refine⟨ab,ab,_,u4.ad g0,ab,ab,_,u4.ad g1,?_⟩;intro m5;rw[bL ab]at gc;have hsc:cY (aY (s.ao::S) m4) 1 (ka (aY (s.ao::S) m4)) c d.cons:=gc.done ka.mono (λe he=>by
    rcases List.mem_cons.1 he with e'|e'
    ·omega
    ·have:=hS e e';have:=x2.size;omega) aO ab
   refine Gr.iN (zs:=[.i 0,.i 0,.s .nil]) (a:=d) eX.mono aO (g.ext eX.mono x4) (u4.fz []) ⟨c,rfl,hsc⟩ bg λr m6 g6 f6 _ _=>next ab _ _ ⟨f6.ext,by rw[bn nK];exact g6⟩
 ·simp only[aFQ]at h;rw[bL ab]at g;exact⟨s,rfl,g.done eX.mono hS aO ab,x2⟩
theorem vS{S:List Nat}{m:ah}(hS:∀c∈S,c<m.size){p t bs ss:Sl}{q:di}{r4 b1:Int}(hp:aj m p q.params)(ht:aj m t q.bX)(hb:q.params.length<=100/\q.bX.length<=100):
 aD Tryz.prog 127 [.agg #[Sl.v p,Sl.v t,vi q.aH,Sl.v bs,vi r4],.agg #[Sl.v ss,vi b1]] m λv m'=>∃p' t',v=.agg #[Sl.v p',Sl.v t',vi q.aH,Sl.v ss,vi b1]/\aj (aY S m') p' q.params/\aj (aY S m') t' q.bX/\af m m':=by
 apply Au
 simp -zeta only[aw,ax]
 intro m0 m1 m2
 obtain⟨x2,hl,s0,s1,s2⟩:=nX (m1:=m0) (m2:=m1) (m3:=m2) rfl rfl rfl
 clear_value m2
 have lG:∀c∈m1.size::S,c<m2.size:=bd hS x2.size (hl _ az)
 have E:∀{M M':ah},af m2 M->af m2 M'->∀b,b<m2.size->∀o,ad M' b o=ad M b o:=λh h' b hb o=>aA (by rw[h'.same b hb,h.same b hb]) o
 refine(ba (m1.size::S) (hp.ext x2) ab).ay (af.av m2) hl λp' _ m3 gp e x3 _=>⟨_,rfl,E (af.av _) x3 _ ab _,E (af.av _) x3 _ ab _,E (af.av _) x3 _ ab _,E (af.av _) x3 _ ab _,?_⟩
 subst e
 refine(ba (m1.size::S) (ht.ext (x2.trans x3)) ab).ay x3 hl λt' _ m4 gt e x4 u4=>⟨_,rfl,E x3 u4 _ ab _,E x3 u4 _ ab _,E x3 u4 _ ab _,?_⟩
 subst e
 intro m5
 have hle:Le (aY (m1.size::S) m4) (aY S m5):=bt az λc hc=>aFT _ hc
 exact⟨p',t',rfl,((gp.done lG ab).le (x4.bO _)).le hle,(gt.done (λc hc=>x3.lt (lG c hc)) ab).le hle,(x2.trans u4).ag ab _ _⟩
abbrev GR(S:List Nat)(m0 m:ah)(s:Sl)(l:List di):Prop:=Gr S m0 m gC 5 fg s l
theorem uf{S L:List Nat}{m0 M:ah}{bx:Nat}{dd s:Sl}{l:List di}{q:di}{b':Bk}{p t bs ss:Sl}{r4:Int}{K:ah->Prop}(hS:∀c∈S,c<m0.size)(hL:∀c∈L,c<M.size/\c≠bx/\c≠s.ao)(hx:af m0 M)(g:GR (bx::S) m0 M s l)
 (hB:bK M bx kd [.s dd,.s s])(BQ:m0.size<=bx)(hp:aj M p q.params)(ht:aj M t q.bX)(sk:cU (aY (s.ao::bx::S) M) ss b'.ar)(hb:q.params.length<=100/\q.bX.length<=100)(hl:l.length<=100)
 (hK:∀r' M4,GR (bx::S) m0 M4 r' (l++[⟨q.params,q.bX,q.aH,b'⟩])->bK M4 bx kd [.s dd,.s r']->af m0 M4->K M4):
 aD Tryz.prog 127 [.agg #[Sl.v p,Sl.v t,vi q.aH,Sl.v bs,vi r4],.agg #[Sl.v ss,vi b'.aH]] M λrv M1=>da L M M1/\∃Bl:Sl,∃zC:Sl,∃NC:Int,∃Jg:Sl,∃Ll:Int,rv=.agg #[Sl.v Bl,Sl.v zC,vi NC,Sl.v Jg,vi Ll]/\ad M1 bx 1=ad M bx 1/\
  let M2:ah:=M1.push (.cells (aU [.s Bl,.s zC,.i NC,.s Jg,.i Ll]) gC)
  ad M2 bx 1=ad M1 bx 1/\
  gA M2 gC [.s Sl.nil,.s Sl.nil,.i (0:Int),.s Sl.nil,.i (0:Int)] 88 s (Sl.mk M1.size 0 1 1) λr33 M3=>da L M2 M3/\dW M3 bx 1 1/\
   let M4:ah:=ag M3 bx 1 [.s r33]
   da L M3 M4/\K M4:=by
 have hy:=g.aN
 have Ln:=hB.lt
 have hz:=hx.size
 refine(vS (S:=s.ao::bx::S) (λc hc=>?_) hp ht hb).mono λrv M1⟨p',t',e,h1,h2,x1⟩=>?_
 ·simp only[aF0]at hc
  rcases hc with e|e|e
  ·omega
  ·omega
  ·have:=hS c e;omega
 subst e
 refine⟨x1.cg λc hc=>(hL c hc).1,_,_,_,_,_,rfl,aA (x1.same _ Ln) _,?_⟩
 intro M2
 refine Gr.box (zs:=[.s .nil,.s .nil,.i 0,.s .nil,.i 0]) (i:=1) (bc:=[.s dd,.s s]) (a:=⟨q.params,q.bX,q.aH,b'⟩) fg.mono aO (g.ext fg.mono x1) ((hx.trans x1).fz []) ⟨p',t',ss,rfl,h1,h2,sk.le (x1.bO _)⟩ ab (hB.ext x1) az aO ⟨BQ,az⟩ (λc hc=>⟨x1.lt (hL c hc).1,(hL c hc).2⟩) λr' m' g' B' f' z' q'=>hK r' m' g' B' f'.ext
theorem iR{β:Type}{S:List Nat}{m2 m3 m4 m5:ah}{dd:Sl}{e tN sz:Nat}{RR:ah->List Ce->β->Prop}(hRR:lV sz RR)(h3:m3=m2.push (.cells (aU []) e))(h4:m4=m3.push (.cells (aU [.s Sl.nil,.s Sl.nil]) tN))(h5:m5=ag m4 m3.size 0 [.s dd,.s (Sl.mk m2.size 0 0 0)]):
 af m2 m5/\bK m5 m3.size tN [.s dd,.s (Sl.mk m2.size 0 0 0)]/\Gr S m2 m5 e sz RR (.mk m2.size 0 0 0) []/\m3.size=m2.size+1/\m5.size=m2.size+2:=by
 subst h3
 have ZJ:af (m2.push (.cells (aU []) e)) m5:=by subst h4 h5;exact(af.push _ _).ag (aFR _) _ _
 refine⟨(af.push m2 _).trans ZJ,?_,(Gr.new S (aFR _) e sz RR).ext hRR ZJ,az,by subst h4 h5;simp[aq]⟩
 have hb:bK m4 (m2.push (.cells (aU []) e)).size tN [.s Sl.nil,.s Sl.nil]:=by rw[h4];exact bK.push _ _ _
 rw[h5]
 exact bK.ag (m:=m4) (o:=0) (r:=[.s dd,.s (.mk m2.size 0 0 0)]) hb
theorem iI{β:Type}{S:List Nat}{m m2 m5:ah}{sz e tN b1 bx n:Nat}{RR:ah->List Ce->β->Prop}{dd r:Sl}{ds:List aS}(hRR:lV sz RR)(hz:0<sz)(TY:tN≠e)(hS:∀c∈S,c<m.size)(Ji:m.size<=b1/\b1<m2.size)(hx:af m m2)(BQ:bx=m2.size+1)
 (Hy:br (aY (b1::S) m2) dd ds)(hn:r.len=n)(hn4:n<=1000)(vP:af m2 m5)(hB0:bK m5 bx tN [.s dd,.s (Sl.mk m2.size 0 0 0)])(hg0:Gr (bx::b1::S) m2 m5 e sz RR (.mk m2.size 0 0 0) [])(f:Nat->β->Prop)
 {Body:(Int->ah->Prop)->(Int->ah->Nat)->Int->ah->Prop}{R:Sl->Sl->ah->Prop}
 (hR:∀d' r' l m',br (aY S m') d' ds->cY (aY S m') sz (RR (aY S m')) r' l->l.length=n->(∀(i:Nat)(x:β),l[i]? =some x->f i x)->af m m'->R d' r' m')
 (hB:∀(k:Nat)(M:ah)(s:Sl)(l:List β)(I:Int->ah->Prop)(μ:Int->ah->Nat),k<n->l.length=k->af m2 M->Gr (bx::b1::S) m2 M e sz RR s l->bK M bx tN [.s dd,.s s]->
  (∀s' M' x,Gr (bx::b1::S) m2 M' e sz RR s' (l++[x])->bK M' bx tN [.s dd,.s s']->af m2 M'->f k x->I (bS ((k:Int)+1)) M'/\μ (bS ((k:Int)+1)) M'<μ k M)->Body I μ k M):
 ∃(I0:Int->ah->Prop)(μ0:Int->ah->Nat),I0 (0:Int) m5/\(∀(i:Int)(M:ah),I0 i M->
  ((decide (i<(r.len:Int)))=true->Body I0 μ0 i M)/\
  ((decide (i<(r.len:Int)))=false->∃v0:Sl,ad M bx 0=some (Sl.v v0)/\∃v1:Sl,ad M bx 1=some (Sl.v v1)/\
   let M':ah:=ag M b1 0 [.s v0,.s v1]
   R v0 v1 M')):=by
 refine dg (n:=n) ab (λk M=>af m2 M/\∃s l,Gr (bx::b1::S) m2 M e sz RR s l/\bK M bx tN [.s dd,.s s]/\l.length=k/\∀(i:Nat)(x:β),l[i]? =some x->f i x) ⟨vP,_,[],hg0,hB0,rfl,az⟩ ?_
 rintro k M I μ hk ⟨x,s,l,g,B,hlen,hf⟩ next
 refine⟨λh=>?_,λh=>?_⟩
 ·simp only[aFP]at h
  refine hB k M s l I μ ab hlen x g B λs' M' y g' B' x' hy=>next ab _ ⟨x',s',_,g',B',bg,λi z hi=>?_⟩
  rcases aF1 i l.length with iy|iy
  ·rw[aFV iy]at hi;exact hf i z hi
  ·rw[aFX iy]at hi
   have:i -l.length=0:=by have:=ap hi;simp at this;omega
   rw[this]at hi;simp at hi;subst hi
   have:i=k:=ab
   subst this;exact hy
 ·simp only[aFQ]at h
  refine⟨dd,B.bH 0,s,B.bH 1,?_⟩
  intro M'
  have hy:=g.aN
  have cx:=g.ne B TY
  have hle:Le (aY (bx::b1::S) M) (aY S M'):=bt az λc hc=>aFT _ (aFT _ hc)
  refine hR dd s l M' (Hy.le ((x.aY λc hc=>?_).trans hle)) (cY.le (g.lB hRR (λhc=>?_) hz ab) hle λcs y=>hRR.le hle) ab hf ((hx.trans x).ag Ji.1 _ _)
  ·rcases List.mem_cons.1 hc with e|e
   ·exact Or.inr ab
   ·exact Or.inl e
  ·simp only[aF0]at hc
   rcases hc with e|e|e
   ·exact cx e
   ·omega
   ·have:=hS _ e;have:=hx.size;omega
structure xc(ds:List aS)(rs:List di)(c:Prop)(W:Nat):Prop where
 eZ:0<rs.length
 cq:∀q∈rs,q.params.length<=3/\q.bX.length<=3/\WB ds rs.length c q.params.length q.body/\q.body.w<=W
def tw(f:Nat)(args:List Value)(m:ah)(S:List Nat)(ds:List aS)(Q:List di->Prop):Prop:=aD Tryz.prog f args m λv m'=>∃d r rs,v=.agg #[Sl.v d,Sl.v r]/\cR (aY S m') d r ds rs/\Q rs/\af m m'
theorem Gv{ds:List aS}{rs mM:List di}{c:Prop}{W:Nat}(h0:0<rs.length)(hl:mM.length=rs.length)(h:∀(i:Nat)(q:di),mM[i]? =some q->q.params.length<=3/\q.bX.length<=3/\WB ds rs.length c q.params.length q.body/\q.body.w<=W):xc ds mM c W:=
 ⟨ab,λq hq=>by obtain⟨i,hi⟩:=List.mem_iff_getElem?.1 hq;rw[hl];exact h i q hi⟩
theorem Gw{S:List Nat}{m:ah}(hS:∀c∈S,c<m.size){p t bs:Sl}{params bX:List Int}{r2 r4:Int}(hp:aj m p params)(ht:aj m t bX)(hb:params.length<=100):
 iV 161 [.agg #[Sl.v p,Sl.v t,vi r2,Sl.v bs,vi r4]] m S λl=>(∀o∈l,0<=o/\o<(params.length:Int))/\l.length<=params.length:=by
 apply yz
 simp -zeta only[aw,ax]
 intro m1 m2
 have x1:af m m1:=af.push _ _
 have hl:∀b∈[m.size],b<m1.size:=by simp[m1]
 have g0:GI S m1 m2 (.mk m1.size 0 0 0) []:=GI.nil S m1
 have fW:af m1 m2:=af.push _ _
 clear_value m2
 clear_value m1
 have tA:=hp.len
 refine cN (n:=params.length) ab (λk s M=>af m1 M/\∃l,GI S m1 M s l/\(∀o∈l,0<=o/\o<(params.length:Int))/\l.length<=k) ⟨fW,[],g0,az,aFR _⟩ ?_
 rintro k s m3 I μ hk ⟨x3,l,g,hr,hc⟩ next
 have u3:=x1.trans x3
 refine⟨λh=>?_,λh=>?_⟩
 ·simp only[aFP]at h
  obtain⟨y,hy⟩:=ae (l:=params) (k:=k) ab
  refine⟨ab,ab,y,(hp.ext u3).aE hy,λ_=>?_,λ_=>next ab _ _ ⟨x3,l,g,hr,ab⟩⟩
  refine(bW (ht.ext u3) k).any.ay x3 hl λb m4 x4 u4=>⟨_,rfl,λ_=>?_,λ_=>next ab _ _ ⟨u4,l,g.ext x4,hr,ab⟩⟩
  intro m5
  refine GI.iN (g.ext x4) (u4.fz []) (λc hc=>x1.lt (hS c hc)) ab λr m6 g6 f6 _ _=>⟨af.me (u4.aC _) f6.ext hl,next ab _ _ ⟨f6.ext,_,g6,λo ho=>?_,bg⟩⟩
  rcases List.mem_append.1 ho with ho|ho
  ·exact hr o ho
  ·simp at ho;omega
 ·exact⟨s,l,rfl,g.bN (λ_ h=>h) x1.size,⟨hr,by simp at h;omega⟩,u3⟩
theorem Gx{S:List Nat}{m:ah}(hS:∀c∈S,c<m.size){d r p t s:Sl}{ds:List aS}{rs:List di}{q:di}(hn:cR m d r ds rs)(hp:aj m p q.params)(ht:aj m t q.bX)(hs:cU m s q.body.ar)(Bn:q.params.length<=3)(lP:WB ds rs.length False q.params.length q.body)(hw:q.body.w<=95):
 k8 159 [.agg #[Sl.v d,Sl.v r],.agg #[Sl.v p,Sl.v t,vi q.aH,Sl.v s,vi q.body.aH]] m S λb'=>WB ds rs.length True q.params.length b'/\b'.w<=1100*q.body.w:=by
 apply yx
 simp -zeta only[aw,ax]
 intro m0 m1 m2
 obtain⟨x2,hl,s0,s1,s2⟩:=nX (m1:=m0) (m2:=m1) (m3:=m2) rfl rfl rfl
 clear_value m2
 have tA:=hp.len
 have lG:∀c∈m1.size::S,c<m2.size:=bd hS x2.size (hl _ az)
 refine(Bz (S:=[]) az (hs.le x2.le) _ ab).ay (af.av m2) hl λus ul m3 hu hul x3 _=>⟨_,rfl,?_⟩
 have hu0:aj m3 us ul:=hu.le (aV _ _)
 intro m4 m5
 have ZJ:af m3 m5:=(af.push m3 _).trans (af.push m4 _)
 have s4:m4.size=m3.size+1:=by simp[m4]
 have gm:GI S m3 m5 (.mk m3.size 0 0 0) []:=(GI.nil S m3).ext (af.push m4 _)
 have gd:GI S m3 m5 (.mk m4.size 0 0 0) []:=(GI.nil S m4).bN (λ_ h=>h) ab
 clear_value m5
 have z3:=x3.size
 have Pk:∀c∈S,c<m3.size:=λc hc=>by have:=hS c hc;have:=x2.size;omega
 refine vw (n:=q.params.length) ab (λk sm sd M=>af m3 M/\∃lm ld,GI S m3 M sm lm/\GI S m3 M sd ld/\sm.ao≠sd.ao/\(∀o∈lm,0<=o/\o<(q.params.length:Int))/\(∀o∈ld,0<=o/\o<(q.params.length:Int))/\lm.length<=k/\ld.length<=k) ⟨ZJ,[],[],gm,gd,bg,az,az,aFR _,aFR _⟩ ?_
 rintro k sm sd m6 I μ hk ⟨x6,lm,ld,gm,gd,cx,VP,hld,cm,cd⟩ next
 have u6:=x3.trans x6
 have v6:=x2.trans u6
 refine⟨λh=>?_,λh=>?_⟩
 ·simp only[aFP]at h
  obtain⟨y,hy⟩:=ae (l:=q.params) (k:=k) ab
  have sn:∀{l:List Int},(∀o∈l,0<=o/\o<(q.params.length:Int))->∀o∈l++[(k:Int)],0<=o/\o<(q.params.length:Int):=λhl o ho=>by
   rcases List.mem_append.1 ho with ho|ho
   ·exact hl o ho
   ·simp at ho;omega
  refine⟨ab,ab,y,(hp.ext v6).aE hy,λ_=>?_,λ_=>next ab _ _ _ ⟨x6,lm,ld,gm,gd,cx,VP,hld,ab,ab⟩⟩
  refine(bW (ht.ext v6) k).any.ay u6 hl λb m7 x7 u7=>⟨_,rfl,λ_=>?_,λ_=>next ab _ _ _ ⟨x6.trans x7,lm,ld,gm.ext x7,gd.ext x7,cx,VP,hld,ab,ab⟩⟩
  refine(bW (hu0.ext (x6.trans x7)) k).any.ay u7 hl λb m8 x8 u8=>⟨_,rfl,λ_=>?_,λ_=>?_⟩
  ·have x:=x7.trans x8
   intro m9
   exact GI.UO (gm.ext x) (gd.ext x) cx ((x6.trans x).fz []) ab λr m' g g' n f=>⟨af.me ((u6.trans x).aC _) (x3.trans f.ext) hl,next ab _ _ _ ⟨f.ext,_,_,g,g',n,sn VP,hld,bg,ab⟩⟩
  ·have x:=x7.trans x8
   intro m9
   exact GI.UO (gd.ext x) (gm.ext x) cx.symm ((x6.trans x).fz []) ab λr m' g g' n f=>⟨af.me ((u6.trans x).aC _) (x3.trans f.ext) hl,next ab _ _ _ ⟨f.ext,_,_,g',g,n.symm,VP,sn hld,ab,bg⟩⟩
 simp only[aFQ]at h
 intro iC
 have fF:af m6 iC:=af.push _ _
 have u13:=u6.trans fF
 have Y0:=x2.trans u13
 have e0:aj iC (.mk m6.size 0 0 0) []:=jM _ _ _ _ _ _
 have rI:∀{M:ah}{s:Sl}{l:List Int},GI S m3 M s l->l.length<=3->aj M s l:=λg hl=>(g.done Pk ab).le (aV _ _)
 clear_value iC
 have NF:=q.body.Ep
 refine(Ev q.body (m1.size::S) iC (λc hc=>u13.lt (lG c hc)) d r p s sm _ q.params lm [] (hn.le Y0.le) (hp.ext Y0) (hs.le Y0.le) ((rI gm ab).ext fF) e0 ⟨VP,ab,bg,ab,lP⟩).ay u13 hl λss b' gK sk hq eU ZM=>⟨_,_,rfl,?_⟩
 intro kT pV
 have kW:af gK pV:=(af.push gK _).ag (aFR _) _ _
 have s16:pV.size=gK.size+1:=by simp[pV,kT,aq]
 clear_value pV
 have u16:=ZM.trans kW
 have Vr:∀c∈[gK.size,m1.size,m0.size,m.size],c<pV.size:=λc hc=>by
  rcases List.mem_cons.1 hc with e|e
  ·omega
  ·exact u16.lt (hl c e)
 have hbs:=Bk.jD b';have Ln:=dN b'.ar
 have rJ:=hq.2
 refine(cZ (S:=m1.size::S) (λc hc=>u16.lt (lG c hc)) 15 ((rI gd ab).ext ((fF.trans eU).trans kW)) ab).ay (af.av pV) Vr λr58 _ oB g58 e xl _=>⟨_,rfl,aA (xl.same _ ab) _,aA (xl.same _ ab) _,?_⟩
 subst e
 have z17:=xl.size
 have hy:=g58.aN
 refine GS.all g58 (xl.fz []) ((sk.le (kW.bO _)).le (qN xl hy.1)) bg λJv sY g61 f61 z61 q61=>⟨λc hc=>q61 c (xl.lt (Vr c hc)) (by have:=Vr c hc;omega),aA (q61 _ ab ab) _,?_⟩
 intro Pj
 have Ij:af m sY:=(x2.trans u16).trans f61.ext
 refine⟨Jv,.mk _ b'.aH,rfl,cU.le (bt az λc hc=>aFT _ hc) (g61.done eu.mono (λc hc=>u16.lt (lG c hc)) aO bg),⟨WB.of ((pF ab hld).append ?_) ?_,?_⟩,Ij.ag ab _ _⟩
 ·rw[gS ab];exact hq.1.aT.1
 ·rw[bD,gS ab,aGa];exact hq.1.aT.2
 ·rw[Bk.nV,cb,mf];omega
theorem Kb{S:List Nat}{m:ah}(hS:∀c∈S,c<m.size){d r:Sl}{ds:List aS}{rs:List di}(hn:cR m d r ds rs)(hk:xc ds rs False 95):tw 120 [.agg #[Sl.v d,Sl.v r]] m S ds λmM=>xc ds mM True 104500:=by
 apply Cn;simp -zeta only[aw,ax];intro a1 a2;obtain⟨x2,hl⟩:=cv (m1:=a1) (m2:=a2) rfl rfl;have s1:a1.size=m.size+1:=by simp[a1]
 clear_value a2;have nL:=hn.fj.len;have Sz:=hn.lZ;refine(dI (S:=a1.size::S) (bd hS x2.size (hl _ az)) (hn.le x2.le).aI hn.types).mono λ_ m2⟨dd,e,Hy,x3⟩=>?_;subst e;refine⟨x3.cg hl,_,rfl,?_⟩;intro m3 m4 m5;have u2:=x2.trans x3;obtain⟨x5,B0,g0,s3,s5⟩:=iR (S:=m3.size::a1.size::S) fg.mono (m2:=m2) (m3:=m3) (m4:=m4) (m5:=m5) rfl rfl rfl;clear_value m5;have oC:∀c∈[a1.size,m.size],c<m2.size:=λc hc=>x3.lt (hl c hc);have kX:∀c∈a1.size::S,c<m2.size:=λc hc=>x3.lt (bd hS x2.size (hl _ az) c hc);refine iI (R:=λv0 v1 M=>∃d r mM,Value.agg #[Sl.v v0,Sl.v v1]=.agg #[Sl.v d,Sl.v r]/\cR (aY S M) d r ds mM/\xc ds mM True 104500/\af m M) (n:=rs.length) (m:=m) (S:=S) fg.mono aO aO hS ⟨ab,oC _ az⟩ u2 s3 Hy nL ab x5 B0 g0 (λ_ q=>q.params.length<=3/\q.bX.length<=3/\WB ds rs.length True q.params.length q.body/\q.body.w<=104500) (λd' r' l m' h1 h2 h3 h4 h5=>⟨d',r',l,rfl,⟨h1,h2,hn.types,ab⟩,Gv hk.eZ h3 h4,h5⟩) λk M st l I μ Bj hlen xM g B next=>?_
 obtain⟨q,hq⟩:=ae (l:=rs) (k:=k) Bj;obtain⟨Bn,tB,lP,hw⟩:=hk.cq q (ak hq);have v6:=u2.trans xM;obtain⟨p,t,b,c1,c2,c3,e0,e1,e2,e3,e4⟩:=hn.fj.aE hq;have G:∀{v:Value}{b o:Nat},ad m b o=some v->ad M b o=some v:=λh=>v6.ad h;refine⟨st,B.bH 1,ab,ab,_,G e0,_,G e1,_,G e2,_,G e3,_,G e4,ab,ab,_,G e0,_,G e1,_,G e2,_,G e3,_,G e4,?_⟩;have hy:=g.aN;have MJ:=B.lt;have zM:=xM.size;refine(Gx (S:=st.ao::m3.size::a1.size::S) (λc hc=>?_) (hn.le v6.le) (c1.ext v6) (c2.ext v6) (c3.le v6.le) Bn lP hw).ay xM oC λss b' M1 sk jx x1 u1=>⟨_,_,rfl,?_⟩
 ·simp only[aF0]at hc;rcases hc with e|e|e|e
  ·omega
  ·omega
  ·have:=kX c (by simp[e]);omega
  ·have:=kX c (by simp[e]);omega
 have G1:∀{v:Value}{b o:Nat},ad m b o=some v->ad M1 b o=ad M b o:=λh=>by rw[x1.ad (G h),G h]
 refine⟨G1 e0,G1 e1,G1 e2,G1 e3,G1 e4,aA (x1.same _ (xM.lt (oC _ az))) _,aA (x1.same _ MJ) _,?_⟩;exact uf (S:=a1.size::S) (dd:=dd) (l:=l) kX (λc hc=>by have h1:=oC c hc;have h2:=u1.size;omega) u1 (g.ext fg.mono x1) (B.ext x1) ab (c1.ext (v6.trans x1)) (c2.ext (v6.trans x1)) sk ⟨ab,ab⟩ ab λs' M' g' B' x'=>next s' M' _ g' B' x' ⟨Bn,tB,jx.1,by have:=jx.2;simp only;omega⟩
theorem PV{S:List Nat}{m:ah}(hS:∀c∈S,c<m.size){d r:Sl}{ds:List aS}{rs:List di}(hn:cR m d r ds rs)(hk:xc ds rs False 95):tw 121 [.agg #[Sl.v d,Sl.v r]] m S ds λmM=>xc ds mM True 104500:=by
 apply Iv;simp -zeta only[aw,ax];intro a1 a2;obtain⟨x2,hl⟩:=cv (m1:=a1) (m2:=a2) rfl rfl;have s1:a1.size=m.size+1:=by simp[a1]
 clear_value a2;have nL:=hn.fj.len;have Sz:=hn.lZ;refine(dI (S:=a1.size::S) (bd hS x2.size (hl _ az)) (hn.le x2.le).aI hn.types).mono λ_ m2⟨dd,e,Hy,x3⟩=>?_;subst e;refine⟨x3.cg hl,_,rfl,?_⟩;intro m3 m4 m5;have u2:=x2.trans x3;obtain⟨x5,B0,g0,s3,s5⟩:=iR (S:=m3.size::a1.size::S) fg.mono (m2:=m2) (m3:=m3) (m4:=m4) (m5:=m5) rfl rfl rfl;clear_value m5;have oC:∀c∈[a1.size,m.size],c<m2.size:=λc hc=>x3.lt (hl c hc);have kX:∀c∈a1.size::S,c<m2.size:=λc hc=>x3.lt (bd hS x2.size (hl _ az) c hc);refine iI (R:=λv0 v1 M=>∃d r mM,Value.agg #[Sl.v v0,Sl.v v1]=.agg #[Sl.v d,Sl.v r]/\cR (aY S M) d r ds mM/\xc ds mM True 104500/\af m M) (n:=rs.length) (m:=m) (S:=S) fg.mono aO aO hS ⟨ab,oC _ az⟩ u2 s3 Hy nL ab x5 B0 g0 (λ_ q=>q.params.length<=3/\q.bX.length<=3/\WB ds rs.length True q.params.length q.body/\q.body.w<=104500) (λd' r' l m' h1 h2 h3 h4 h5=>⟨d',r',l,rfl,⟨h1,h2,hn.types,ab⟩,Gv hk.eZ h3 h4,h5⟩) λk M st l I μ Bj hlen xM g B next=>?_
 obtain⟨q,hq⟩:=ae (l:=rs) (k:=k) Bj;obtain⟨Bn,tB,lP,hw⟩:=hk.cq q (ak hq);have v6:=u2.trans xM;obtain⟨p,t,b,c1,c2,c3,e0,e1,e2,e3,e4⟩:=hn.fj.aE hq;have G:∀{v:Value}{b o:Nat},ad m b o=some v->ad M b o=some v:=λh=>v6.ad h;refine⟨ab,ab,_,G e0,_,G e1,_,G e2,_,G e3,_,G e4,?_⟩;intro m7 m8;have hy:=g.aN;have MJ:=B.lt;have zM:=xM.size;have x8:af M m8:=(af.push M _).ag (aFR _) _ _;have s8:m8.size=M.size+1:=by simp[m8,m7,aq]
 clear_value m8;have mG:∀c∈[M.size,a1.size,m.size],c<m8.size:=λc hc=>by
  rcases List.mem_cons.1 hc with e|e
  ·omega
  ·have:=oC c e;omega
 have w8:=v6.trans x8;have E:∀{M1 M2:ah},af m8 M1->af m8 M2->∀b,b<m8.size->∀o,ad M2 b o=ad M1 b o:=λh h' b hb o=>aA (by rw[h'.same b hb,h.same b hb]) o;have i0:M.size<m8.size:=ab;have i1:m.size<m8.size:=mG _ az;have i2:m3.size<m8.size:=ab;refine⟨st,(B.ext x8).bH 1,?_⟩;refine(Gw (S:=[]) az (c1.ext w8) (c2.ext w8) ab).ay (af.av m8) mG λow lo m9 go ho x9 _=>⟨_,rfl,E (af.av _) x9 _ i0 _,E (af.av _) x9 _ i0 _,E (af.av _) x9 _ i0 _,E (af.av _) x9 _ i1 _,E (af.av _) x9 _ i1 _,E (af.av _) x9 _ i0 _,E (af.av _) x9 _ i0 _,E (af.av _) x9 _ i0 _,E (af.av _) x9 _ i0 _,E (af.av _) x9 _ i0 _,E (af.av _) x9 _ i2 _,?_⟩;have w9:=w8.trans x9;have z9:=x9.size;have hc:=ho.2;refine(Gu q.body (st.ao::m3.size::a1.size::S) m9 (λc hc=>?_) d r p b ow q.params lo (hn.le w9.le) (c1.ext w9) (c3.le w9.le) ((go.done az ab).le (aV _ _)) ⟨ho.1,ab,ab,lP⟩).ay x9 mG λss b' cK sk jx cO xu=>⟨_,_,rfl,E x9 xu _ i0 _,E x9 xu _ i0 _,E x9 xu _ i0 _,E x9 xu _ i0 _,E x9 xu _ i0 _,E x9 xu _ i2 _,?_⟩
 ·simp only[aF0]at hc;rcases hc with e|e|e|e
  ·omega
  ·omega
  ·have:=kX c (by simp[e]);omega
  ·have:=kX c (by simp[e]);omega
 have x:=x8.trans xu;have wh:=xu.size;exact uf (S:=a1.size::S) (dd:=dd) (l:=l) kX (λc hc=>by have h1:=mG c hc;have h2:=oC c;simp only[aF0]at hc h2;rcases hc with e|e|e|e<;>first|omega|(have:=h2 (by simp[e]);omega)|simp at e) (xM.trans x) (g.ext fg.mono x) (B.ext x) ab (c1.ext (v6.trans x)) (c2.ext (v6.trans x)) sk ⟨ab,ab⟩ ab λs' M' g' B' x'=>next s' M' _ g' B' x' ⟨Bn,tB,jx.1,by have:=jx.2;simp only;omega⟩
theorem yW{x:bu}(a k:Sl)(m:ah):cB Tryz.prog 165 [mJ x a k] m (x.op=14\/x.op=15):=by
 apply Ea;simp -zeta only[aw,ax];intro m1;have x1:af m m1:=af.push _ _;refine⟨λh=>gP (Or.inl (by simpa using h)) x1,λh=>ez ?_ x1⟩;simp only[aFU]at h;simp only[aFZ];omega
def One(l:List bu):Prop:=∀x∈l,x.args.length=1
def yX(l:List bu)(o:Int):Prop:=∃x∈l,o∈x.args
theorem One.at{l:List bu}(h:One l){k:Nat}{x:bu}(hx:l[k]? =some x):∃y,x.args[0]? =some y/\yX l y:=by
 have h1:=h x (ak hx);obtain⟨y,hy⟩:=ae (l:=x.args) (k:=0) ab;exact⟨y,hy,x,ak hx,ak hy⟩
theorem Oq{m:ah}{run:Sl}{l:List bu}(hl:cU m run l)(ho:One l)(hb:l.length<=1000000000000)(v:Int):qM 200 [Sl.v run,vi v] m λn=>-(l.length:Int)<=n/\n<=l.length:=by
 apply Gf;have ly:=hl.len;refine cN (n:=l.length) ab (λk n M=>af m M/\-(k:Int)<=n/\n<=(k:Int)) ⟨af.av _,ab,ab⟩ ?_;rintro k n m1 I μ hk ⟨x1,h1,h2⟩ next
 refine⟨λh=>?_,λh=>⟨n,rfl,⟨ab,ab⟩,x1⟩⟩;simp only[aFP]at h;obtain⟨x,hx⟩:=ae (l:=l) (k:=k) ab;obtain⟨y,hy,_⟩:=ho.at hx;obtain⟨a,t,ha,_,g0,_,_,g3,_⟩:=hl.aE hx;have jK:=ha.len;have hyl:=ap hy;have G0:=x1.ad g0;have G3:=x1.ad g3;have GA:=(ha.ext x1).aE hy;have e1:bS (n+1)=n+1:=aF ab ab;have e2:bS (n -1)=n -1:=aF ab ab;rw[e1,e2];have N:∀n',-((k+1:Nat):Int)<=n'->n'<=((k+1:Nat):Int)->I n' (bS ((k:Int)+1)) m1/\μ n' (bS ((k:Int)+1)) m1<μ n k m1:=λn' a b=>next ab _ _ ⟨x1,a,b⟩
 have D:(0:Int)<=(k:Int)/\(k:Int)<(run.len:Int)/\∃v36:Sl,ad m1 run.ao (run.off+Int.toNat (k:Int)*5+3)=some (Sl.v v36)/\(0:Int)<=(0:Int)/\(0:Int)<(v36.len:Int)/\∃v38:Int,ad m1 v36.ao (v36.off+Int.toNat (0:Int)*1)=some (vi v38)/\
  ((v38==v)=true->I (n -1) (bS ((k:Int)+1)) m1/\μ (n -1) (bS ((k:Int)+1)) m1<μ n k m1)/\((v38==v)=false->I n (bS ((k:Int)+1)) m1/\μ n (bS ((k:Int)+1)) m1<μ n k m1):=
  ⟨ab,ab,a,G3,ab,ab,y,GA,λ_=>N _ ab ab,λ_=>N _ ab ab⟩
 exact⟨ab,ab,a,G3,ab,ab,y,GA,λ_=>⟨ab,ab,_,G0,λ_=>N _ ab ab,λ_=>D⟩,λ_=>D⟩
theorem Mk{S:List Nat}{m:ah}(hS:∀c∈S,c<m.size){run:Sl}{l:List bu}(hl:cU m run l)(ho:One l)(hb:l.length<=100000000000):iV 199 [Sl.v run] m S λl'=>(∀o∈l',yX l o)/\l'.length<=l.length:=by
 apply Ed;intro m1;have ly:=hl.len;refine cN (n:=l.length) ab (λk s M=>af m M/\∃l',GI S m M s l'/\(∀o∈l',yX l o)/\l'.length<=k) ⟨af.push m _,[],GI.nil S m,az,aFR _⟩ ?_;rintro k s m2 I μ hk ⟨x2,l',g,hr,hc⟩ next
 refine⟨λh=>?_,λh=>⟨s,l',rfl,g,⟨hr,ab⟩,x2⟩⟩;simp only[aFP]at h;obtain⟨x,hx⟩:=ae (l:=l) (k:=k) ab;obtain⟨y,hy,Ad⟩:=ho.at hx;obtain⟨a,t,ha,_,g0,_,_,g3,_⟩:=hl.aE hx;have jK:=ha.len;have hyl:=ap hy;refine⟨ab,ab,a,x2.ad g3,ab,ab,y,(ha.ext x2).aE hy,?_⟩;refine(jH (S:=S) (λc hc=>aFY (hS c hc) x2.size) (g.done hS ab) y ab).then λr l2 m3 g3 q x3=>⟨_,rfl,next ab _ _ ⟨x2.trans x3,l2,g3.bN (λ_ h=>h) x2.size,λo ho=>?_,by have:=q.2;omega⟩⟩;rcases q.1 o ho with h|h
 ·exact hr o h
 ·subst h;exact Ad
structure ug(S:List Nat)(m m2 M:ah)(sd sr vs:Sl)(ld lr vl:List Int):Prop where
 x:af m M
 gd:GI S m M sd ld
 gr:GI S m M sr lr
 gv:GI [] m2 M vs vl
 n1:sd.ao≠sr.ao
 n2:sd.ao≠vs.ao
 n3:sr.ao≠vs.ao
theorem ug.ext{S:List Nat}{m m2 M M':ah}{sd sr vs:Sl}{ld lr vl:List Int}(T:ug S m m2 M sd sr vs ld lr vl)(h:af M M'):ug S m m2 M' sd sr vs ld lr vl:=
 ⟨T.x.trans h,T.gd.ext h,T.gr.ext h,T.gv.ext h,T.n1,T.n2,T.n3⟩
theorem ug.aoY{S:List Nat}{m m2 M:ah}{sd sr vs:Sl}{ld lr vl:List Int}{a:Int}{K:Sl->ah->Prop}(T:ug S m m2 M sd sr vs ld lr vl)(hS:∀c∈S,c<m.size)(hb:ld.length<=1000000000000)(hk:∀r M',ug S m m2 M' r sr vs (ld++[a]) lr vl->K r M'):
 gA (M.push (.cells (aU [.i a]) au)) au [.i 0] 8 sd (.mk M.size 0 1 1) K:=by
 have h1:=T.gr.aN;have h2:=T.gv.aN;have n1:=T.n1;have n2:=T.n2
 refine GI.iN T.gd (T.x.fz []) hS hb λr M' g f z q=>hk r M' ⟨f.ext,g,T.gr.fK (q _ h1.2 T.n1.symm),T.gv.fK (q _ h2.2 T.n2.symm),?_,?_,T.n3⟩<;>rcases z.2 with e|e<;>omega
theorem ug.UO{S:List Nat}{m m2 M:ah}{sd sr vs:Sl}{ld lr vl:List Int}{a:Int}{K:Sl->ah->Prop}(T:ug S m m2 M sd sr vs ld lr vl)(hS:∀c∈S,c<m.size)(hb:lr.length<=1000000000000)(hk:∀r M',ug S m m2 M' sd r vs ld (lr++[a]) vl->K r M'):
 gA (M.push (.cells (aU [.i a]) au)) au [.i 0] 8 sr (.mk M.size 0 1 1) K:=by
 have h1:=T.gd.aN;have h2:=T.gv.aN;have n1:=T.n1;have n3:=T.n3
 refine GI.iN T.gr (T.x.fz []) hS hb λr M' g f z q=>hk r M' ⟨f.ext,T.gd.fK (q _ h1.2 T.n1),g,T.gv.fK (q _ h2.2 T.n3.symm),?_,T.n2,?_⟩<;>rcases z.2 with e|e<;>omega
def acx(l:List bu)(l':List bu):Prop:=∃du dr:List Int,l'=du.map (de 14)++dr.map (de 15)/\(∀o∈du,yX l o)/\(∀o∈dr,yX l o)/\du.length+dr.length<=l.length*l.length
theorem vT{S:List Nat}{m:ah}(hS:∀c∈S,c<m.size){run:Sl}{l:List bu}(hl:cU m run l)(ho:One l)(hb:l.length<=500000):Tn 166 [Sl.v run] m S (acx l):=by
 apply Ay;intro m1 m2;have fW:af m m2:=(af.push m _).trans (af.push m1 _);have s1:m1.size=m.size+1:=by simp[m1]
 have gd:GI S m m2 (.mk m.size 0 0 0) []:=(GI.nil S m).ext (af.push m1 _);have gr:GI S m m2 (.mk m1.size 0 0 0) []:=(GI.nil S m1).bN (λ_ h=>h) ab;clear_value m2;have hLL:l.length*l.length<=250000000000:=aF8 (aId hb hb) aO;refine(Mk (S:=[]) az (hl.le fW.le) ho ab).then λvs vl m3 gv q x3=>⟨_,rfl,?_⟩;have hv:aj m3 vs vl:=(gv.done az (by have:=q.2;omega)).le (aV _ _);have Vl:=hv.len;have YZ:=q.2;have fF:=fW.trans x3;have hyv:=gv.aN;have MH:=fW.size;refine vw (n:=vl.length) ab (λi sd sr M=>∃ld lr,ug S m m2 M sd sr vs ld lr vl/\(∀o∈ld,yX l o)/\(∀o∈lr,yX l o)/\ld.length+lr.length<=i*l.length) ⟨[],[],⟨fF,gd.ext x3,gr.ext x3,gv,bg,by have:=gd.aN;omega,by have:=gr.aN;omega⟩,az,az,az⟩ ?_;rintro i sd sr m4 I μ hi ⟨ld,lr,T,hd,hr,hc⟩ next
 have hil:i*l.length<=l.length*l.length:=aGh _ ab;have hv4:∀{M:ah}{sd sr:Sl}{ld lr:List Int},ug S m m2 M sd sr vs ld lr vl->aj M vs vl:=λT=>(T.gv.done az ab).le (aV _ _);refine⟨λh=>?_,λh=>?_⟩
 ·simp only[aFP]at h;obtain⟨y,hy⟩:=ae (l:=vl) (k:=i) ab;have Ad:=q.1 y (ak hy);refine⟨ab,ab,y,(hv4 T).aE hy,?_⟩;refine(Oq (hl.le T.x.le) ho ab y).then λn m5 hn x5=>⟨_,rfl,?_⟩;have So:(i+1)*l.length=i*l.length+l.length:=aHm _ _;refine⟨λsd ZN M=>ZN<=n/\(n<=0->ZN=n)/\(0<n->0<=ZN)/\∃ld',ug S m m2 M sd sr vs ld' lr vl/\(∀o∈ld',yX l o)/\ld'.length+lr.length+ZN.toNat<=i*l.length+n.toNat,λ_ ZN _=>ZN.toNat,⟨ab,ab,ab,ld,T.ext x5,hd,ab⟩,?_⟩;rintro sd1 ZN m6 ⟨n1,n2,n3,ld1,T1,nK,hc1⟩;refine⟨λh1=>?_,λh1=>?_⟩
  ·simp only[aFP]at h1;refine⟨ab,ab,y,(hv4 T1).aE hy,?_⟩;intro m7;have e1:bS (ZN -1)=ZN -1:=aF ab ab;rw[e1];exact T1.aoY hS ab λr M' T2=>⟨⟨ab,ab,ab,_,T2,λo ho=>by
    rcases List.mem_append.1 ho with ho|ho
    ·exact nK o ho
    ·simp at ho;subst ho;exact Ad,bg⟩,by dsimp only;omega⟩
  ·simp only[aFQ]at h1;refine⟨λsr QI M=>ZN<=QI/\QI<=0/\∃lr',ug S m m2 M sd1 sr vs ld1 lr' vl/\(∀o∈lr',yX l o)/\ld1.length+lr'.length+(-QI).toNat<=i*l.length+l.length,λ_ QI _=>(-QI).toNat,⟨ab,ab,lr,T1,hr,ab⟩,?_⟩;rintro sr1 QI m8 ⟨p1,p2,lr1,T3,QB,Sj⟩;refine⟨λh2=>?_,λh2=>?_⟩
   ·simp only[aFP]at h2;refine⟨ab,ab,y,(hv4 T3).aE hy,?_⟩;intro m9;have e1:bS (QI+1)=QI+1:=aF ab ab;rw[e1];exact T3.UO hS ab λr M' T2=>⟨⟨ab,ab,_,T2,λo ho=>by
     rcases List.mem_append.1 ho with ho|ho
     ·exact QB o ho
     ·simp at ho;subst ho;exact Ad,bg⟩,by dsimp only;omega⟩
   ·exact next ab _ _ _ ⟨ld1,lr1,T3,nK,QB,ab⟩
 ·simp only[aFQ]at h;have Sv:∀c∈S,c<m4.size:=λc hc=>by have:=hS c hc;have:=T.x.size;omega
  refine(cZ (S:=S) Sv 14 ((T.gd.done hS ab).le (aV _ _)) ab).mono λ_ m5⟨s1,l1,e,g1,e1,x5⟩=>?_;subst e;subst e1;refine⟨_,rfl,?_⟩;have T5:=T.ext x5;have Uf:=g1.aN;refine(cZ (S:=s1.ao::S) (bd Sv x5.size Uf.2) 15 ((T5.gr.done hS ab).le (aV _ _)) ab).mono λ_ m6⟨s2,l2,e,g2,e2,x6⟩=>?_;subst e;subst e2;refine⟨_,rfl,?_⟩;refine GS.all (g1.ext eu.mono x6) ((x5.trans x6).fz []) (g2.done eu.mono (bd Sv x5.size Uf.2) aO bg) bg λr M' g3 f3 _ _=>⟨r,_,rfl,g3.bN eu.mono (λb hb=>Or.inl hb) T.x.size,⟨ld,lr,rfl,hd,hr,?_⟩,T.x.trans f3.ext⟩;have:i*l.length<=l.length*l.length:=hil;omega
theorem Gy(a b:Nat):a*a+b*b<=(a+b)*(a+b):=by
 rw[aGE,Nat.mul_add,Nat.mul_add];omega
theorem PW{a b:Nat}(h:a<=b):a*a<=b*b:=aId h h
structure CN(ds:List aS)(nr:Nat)(S:List Nat)(m2 M:ah)(a:Nat)(ar:List bu)(k:Nat)(st run:Sl)(lo lr:List bu)(P:Nat):Prop where
 x:af m2 M
 gs:GS (run.ao::S) m2 M st lo
 gr:GS [st.ao] m2 M run lr
 wl:WL ds nr True a lo
 dcs:dc lo=dc (ar.take k)
 sws:sw lo<=P*P
 P':P+2*lr.length<=sw (ar.take k)
 jm:One lr
 rng:∀o,yX lr o->0<=o/\o<((a+dc (ar.take k):Nat):Int)
 ne:st.ao≠run.ao
theorem PX{ds:List aS}{nr a:Nat}{l l':List bu}(h:acx l l')(hr:∀o,yX l o->0<=o/\o<(a:Int)):WL ds nr True a l'/\dc l'=0/\sw l'<=(2*l.length)*(2*l.length):=by
 obtain⟨du,dr,rfl,h1,h2,h3⟩:=h;refine⟨(pF ab λo ho=>hr o (h1 o ho)).append ?_,?_,?_⟩
 ·rw[gS ab];exact pF ab λo ho=>hr o (h2 o ho)
 ·rw[bD,gS ab,gS ab]
 ·rw[cb,mf,mf];have:(2*l.length)*(2*l.length)=4*(l.length*l.length):=by
   rw[Nat.mul_mul_mul_comm]
  omega
def aoZ(ds:List aS)(nr:Nat)(b:Bk):Prop:=∀(S:List Nat)(m:ah),(∀c∈S,c<m.size)->∀(t:Sl)(a:Nat),cU m t b.ar->WB ds nr True a b->b.w<=400000->k8 128 [.agg #[Sl.v t,vi b.aH]] m S λb'=>WB ds nr True a b'/\b'.w<=b.w*b.w
theorem CQ{ds:List aS}{nr:Nat}:∀b:Bk,aoZ ds nr b:=by
 refine Bk.ind ?_;intro ar kV ih S m hS t a hs lP hw;have VU:=lP.aT;rw[Bk.nV]at hw⊢;simp only[Bk.gH,Bk.fH]at*;apply vg;simp -zeta only[aw,ax];intro m0 m1 m2 m3;obtain⟨x1,hl⟩:=cv (m1:=m0) (m2:=m1) rfl rfl;have s0:m0.size=m.size+1:=by simp[m0]
 have s1:m1.size=m.size+2:=by simp[m1,s0]
 have fF:af m1 m3:=(af.push m1 _).trans (af.push m2 _);have s2:m2.size=m1.size+1:=by simp[m2]
 have gs0:∀S',GS S' m1 m3 (.mk m1.size 0 0 0) []:=λS'=>(GS.new S' m1).ext eu.mono (af.push m2 _);have gr0:∀S',GS S' m1 m3 (.mk m2.size 0 0 0) []:=λS'=>(GS.new S' m2).bN eu.mono (λb hb=>Or.inl hb) ab;clear_value m3;clear_value m1;have kQ:=hs.len;have Jj:=yP ar;have QF:=dN ar;have lG:∀c∈m0.size::S,c<m1.size:=bd hS x1.size (hl _ az);refine vw (n:=ar.length) (kQ▸hs.eP) (λk st run M=>∃lo lr P,CN ds nr (m0.size::S) m1 M a ar k st run lo lr P) ⟨[],[],0,fF,gs0 _,gr0 _,WL.nil _ _ _ _,rfl,az,az,λ_ h=>by simp at h,λo⟨_,h,_⟩=>by simp at h,bg⟩ ?_;rintro k st run m4 I μ hk ⟨lo,lr,P,C⟩ next
 have x4:=C.x;have v4:=x1.trans x4;have hys:=C.gs.aN;have Ad:=C.gr.aN;have z4:=x4.size;have hPk:=C.P';have afT:=Jj k;have hPP:P*P<=160000000000:=aF8 (PW (b:=400000) ab) aO;have Dz:=dN lo;have aqU:=C.sws;have cx:=C.ne;have Jx:∀{M:ah}{S':List Nat},m4.size<=M.size->(∀c∈S',c<M.size)->∀c∈S'++m0.size::S,c<M.size:=λh hb c hc=>by
  rcases List.mem_append.1 hc with h|h
  ·exact hb c h
  ·have:=lG c h;omega
 have lF:∀{M:ah},af m4 M->cU M run lr:=λh=>cU.le (aV _ _) ((C.gr.ext eu.mono h).lB eu.mono (by simpa using cx.symm) aO ab);refine⟨λh=>?_,λh=>?_⟩
 ·simp only[aFP]at h;obtain⟨x,hx⟩:=ae (l:=ar) (k:=k) ab;obtain⟨pa,pk,ha,oO,g0,g1,g2,g3,g4⟩:=hs.aE hx;refine⟨ab,ab,_,v4.ad g0,_,v4.ad g1,_,v4.ad g2,_,v4.ad g3,_,v4.ad g4,?_⟩;intro m5 m6;have x6:af m4 m6:=(af.push m4 _).ag (aFR _) _ _;have s6:m6.size=m4.size+1:=by simp[m6,m5,aq]
  clear_value m6;have Lp:∀{M:ah},m6.size<=M.size->∀b∈[m4.size,m0.size,m.size],b<M.size:=λh b hb=>by
   rcases List.mem_cons.1 hb with e|e
   ·omega
   ·have:=hl b e;omega
  have Ua:=nh hx;have hxd:=oG hx;have hxs:=bu.jD x;have oA:=VU.1 k x hx;have au4:=Jj (k+1);have Ln:=nW x.aW;refine(yW pa pk m6).ay (af.av m6) (Lp (aFR _)) λbp m7 hbp x7 _=>⟨_,rfl,λhp=>?_,λhp=>?_⟩
  · -- a pair goes to the run
   have hp:=hbp.1 hp;have h1:x.args.length=1:=oA.db.jm ab;have LP:dn x=0:=aFS λh:nj x.op=>by have:=h.2;omega
   have x47:=x6.trans x7;have w7:=v4.trans x47;intro m8;have hle:Le m (aY (run.ao::[st.ao]) m7):=(yS m).trans ((w7.fz []).aY az λc hc=>by simp at hc;have:=x1.size;exact Or.inr ab);refine GS.iN (x:=x) (C.gr.ext eu.mono x47) ((x4.trans x47).fz []) (ha.le hle) (oO.le hle) ab λr M' g f z q=>⟨λc hc=>?_,next ab _ _ _ ⟨lo,lr++[x],P,f.ext,(C.gs.ext eu.mono x47).re eu.mono (Y:=[run.ao]) ⟨z.1,λc hc hn=>q c hc (by simpa using hn)⟩ az (by simpa using cx) (λc hc=>?_),g,C.wl,by rw[C.dcs];omega,aqU,bg,λy hy=>?_,λo ho=>?_,?_⟩⟩
   ·have:=Lp (M:=m7) x7.size c hc;rw[q c this (by simp at hc;omega),(af.push m7 _).same c this]
   ·rcases List.mem_cons.1 hc with e|e
    ·rcases z.2 with e2|e2
     ·exact Or.inl (by rw[e,e2];exact aF3)
     ·exact Or.inr ab
    ·exact Or.inl (aFT _ e)
   ·rcases List.mem_append.1 hy with hy|hy
    ·exact C.jm y hy
    ·simp at hy;subst hy;exact h1
   ·obtain⟨y,hy,hoy⟩:=ho;have e:dc (ar.take (k+1))=dc (ar.take k):=ab;rw[e];rcases List.mem_append.1 hy with hy|hy
    ·exact C.rng o ⟨y,hy,hoy⟩
    ·simp at hy;subst hy;exact oA.db.args o hoy
   ·have:=(C.gs.ext eu.mono x47).aN;rcases z.2 with e|e<;>omega
  · -- another step ends the run
   have x47:=x6.trans x7;have z47:=x47.size;refine(vT (S:=[st.ao,run.ao]++m0.size::S) (Jx z47 bg) (lF x47) C.jm ab).ay (af.av m7) (Lp x7.size) λr31 l31 cK g31 q31 cO _=>⟨_,rfl,?_⟩;obtain⟨sw1,sd1,sz1⟩:=PX (ds:=ds) (nr:=nr) q31 C.rng;have ay3:=dN l31;have wh:=cO.size;have z7:=x7.size;have hLL:(2*lr.length)*(2*lr.length)<=160000000000:=aF8 (PW (b:=400000) ab) aO;have x4a:=x47.trans cO;refine GS.all (C.gs.ext eu.mono x4a) ((x4.trans x4a).fz []) (g31.done eu.mono (Jx (S':=[st.ao,run.ao]) z47 bg) aO ab) ab λSA dm g32 f32 z32 q32=>⟨λc hc=>q32 c (Lp ab c hc) (by simp at hc;omega),?_⟩;have X11:af m1 dm:=f32.ext;have xw:=z32.1;have ay5:=g32.aN;have ay6:SA.ao=st.ao\/m6.size<=SA.ao:=by have:=z32.2;omega
   intro df iC;have eB:af dm df:=af.push dm _;have NJ:df.size=dm.size+1:=by simp[df]
   have akR:af df iC:=af.push df _;have NH:=X11.trans eB;have gn:GS [SA.ao] m1 df (.mk dm.size 0 0 0) []:=(GS.new _ dm).bN eu.mono (λb hb=>Or.inl hb) X11.size;have gk:GB ([SA.ao,dm.size]++m0.size::S) df iC (.mk df.size 0 0 0) []:=GB.new _ df;have aqX:GS ([dm.size]++m0.size::S) m1 df SA _:=g32.re eu.mono (Y:=[]) (eB.fz []) az az λc hc=>by
    rcases List.mem_cons.1 hc with e|e
    ·exact Or.inr ab
    ·exact Or.inl (aFT _ e)
   clear_value iC;clear_value df;have jk:=oO.len;have ay7:=J3 x.aW;have BQ:bw x.aW<=400000:=ab;refine cN (n:=x.aW.length) (jk▸oO.eP) (λj s M=>af df M/\∃l,GB ([SA.ao,dm.size]++m0.size::S) df M s l/\l.length=j/\(∀(i:Nat)(b:Bk),l[i]? =some b->WB ds nr True (a+dc (ar.take k)+zT ds x.op x.bh i) b)/\bw l<=bw (x.aW.take j)*bw (x.aW.take j)) ⟨akR,[],gk,rfl,az,az⟩ ?_;rintro j ks gK I2 μ2 hj ⟨eU,l,g,hlen,akS,aqY⟩ eN;have Uc:=NH.trans eU;have v14:=x1.trans Uc;have Sx:=eU.size;have hyk:=g.aN;have OY:∀b∈[m4.size,m0.size,m.size],b<gK.size:=Lp ab;refine⟨λh2=>?_,λh2=>?_⟩
   ·simp only[aFP]at h2;obtain⟨b,hb⟩:=ae (l:=x.aW) (k:=j) ab;obtain⟨tb,ZO,f0,f1⟩:=oO.aE hb;have hbm:=vx hb;have nH:=sJ hb;refine⟨ab,ab,_,v14.ad f0,_,v14.ad f1,?_⟩;refine(ih x (ak hx) b (ak hb) ([ks.ao,SA.ao,dm.size]++m0.size::S) gK (Jx ab bg) tb _ (ZO.le v14.le) (oA.aW j b hb) ab).ay (af.av gK) OY λss b' kT sk jx lp _=>⟨_,_,rfl,?_⟩;refine GB.iN (b:=b') (g.ext pv.mono lp) ((eU.trans lp).fz []) sk ab λr M' g2 f2 z2 q2=>⟨af.me ((eU.trans lp).aC _) f2.ext (λc hc=>by have:=Lp (M:=df) ab c hc;omega),eN ab _ _ ⟨f2.ext,_,g2,bg,λi b2 hi=>?_,?_⟩⟩
    ·rcases aF1 i l.length with iy|iy
     ·rw[aFV iy]at hi;exact akS i b2 hi
     ·rw[aFX iy]at hi;have:i -l.length=0:=by have:=ap hi;simp at this;omega
      rw[this]at hi;simp at hi;subst hi;have:i=j:=ab;subst this;exact jx.1
    ·rw[mz,sI,yO,nH];have h3:=Gy (bw (x.aW.take j)) b.w;have:=jx.2;omega
   ·simp only[aFQ]at h2;have Pf:l.length=x.aW.length:=ab;rw[bL ab]at aqY;refine(ba ([SA.ao,dm.size]++m0.size::S) (ha.ext v14) ab).ay (af.av gK) OY λs' l' sY ga e Ij _=>⟨_,rfl,aA (Ij.same _ (OY _ az)) _,aA (Ij.same _ (OY _ az)) _,aA (Ij.same _ (OY _ az)) _,?_⟩;subst e;intro Pj;have Ug:=eU.trans Ij;have z18:=Ij.size;have uE:∀c∈[SA.ao,dm.size]++m0.size::S,c<df.size:=Jx ab bg;have aqZ:SA.ao≠dm.size:=ab;refine GS.iN (x:=⟨x.op,x.bh,x.bA,x.args,l⟩) (aqX.ext eu.mono Ug) ((NH.trans Ug).fz []) (ga.done (λc hc=>by have:=uE c hc;omega) ab) (lA.le (Ij.bO _) (g.done pv.mono uE aO (by show l.length<=_;omega))) bg λr64 Jy g64 f64 z64 q64=>⟨λc hc=>?_,next ab _ _ _ ⟨_,[],P+2*lr.length+x.w,f64.ext,g64,?_,((C.wl.append (by rw[C.dcs];exact sw1)).xI (oA.PU id oA.db.bA Pf akS|>λh=>by rw[bD,C.dcs,sd1,aGX];exact h)),?_,?_,bg,λ_ h=>by simp at h,λo⟨_,h,_⟩=>by simp at h,?_⟩⟩
    ·have h3:=OY c hc;rw[q64 c ab (by simp at hc;omega),(af.push sY _).same c ab]
    · -- the new run is empty
     have e:=gn.ext eu.mono Ug;obtain⟨p0,css,p1,p2⟩:=e;refine⟨p0,css,p1.congr (q64 _ (by have:=Ug.size;show dm.size<_;omega) (aHh aqZ)),p2.len,p2.size,λi cs y _ hy=>by simp at hy⟩
    ·rw[bD,bD,C.dcs,sd1,iH,qP];have e:dn (⟨x.op,x.bh,x.bA,x.args,l⟩:bu)=dn x:=rfl;omega
    ·rw[cb,cb,jR,tv];have h3:=Gy P (2*lr.length);have h4:=Gy (P+2*lr.length) x.w;have h5:(⟨x.op,x.bh,x.bA,x.args,l⟩:bu).w=1+x.args.length+bw l:=bu.jD _;have h6:=Gy (1+x.args.length) (bw x.aW);have h7:1+x.args.length<=(1+x.args.length)*(1+x.args.length):=Nat.le_mul_of_pos_left _ ab;rw[<-hxs]at h6;omega
    ·rcases z64.2 with e|e
     ·show r64.ao≠dm.size;omega
     ·show r64.ao≠dm.size;omega
 ·simp only[aFQ]at h;have jk:k=ar.length:=ab;subst jk;rw[aGG]at hPk;have hd:dc (ar.take ar.length)=dc ar:=by rw[aGG]
  have xr:∀b∈[m0.size,m.size],b<m4.size:=λb hb=>x4.lt (hl b hb);refine(vT (S:=[st.ao,run.ao]++m0.size::S) (Jx (aFR _) bg) (lF (af.av _)) C.jm ab).ay (af.av m4) xr λr67 l67 NI g67 q67 LR _=>⟨_,rfl,aA (LR.same _ (xr _ az)) _,?_⟩;obtain⟨sw1,sd1,sz1⟩:=PX (ds:=ds) (nr:=nr) q67 C.rng;have azc:=dN l67;have hLL:(2*lr.length)*(2*lr.length)<=160000000000:=aF8 (PW (b:=400000) ab) aO;have z21:=LR.size;refine GS.all (C.gs.ext eu.mono LR) ((x4.trans LR).fz []) (g67.done eu.mono (Jx (S':=[st.ao,run.ao]) (aFR _) bg) aO ab) ab λZI QG g68 f68 z68 q68=>⟨λc hc=>q68 c (LR.lt (xr c hc)) (by have:=hl c hc;omega),aA (q68 _ (LR.lt (xr _ az)) ab) _,?_⟩;intro Vp;refine⟨ZI,.mk (lo++l67) kV,rfl,cU.le (bt az λc hc=>aFT _ hc) ((g68.re eu.mono (S':=m0.size::S) (Y:=[]) (Fz.av _ _) az az (λc hc=>Or.inl (aFT _ hc))).done eu.mono lG aO bg),⟨WB.of (C.wl.append (by rw[C.dcs];exact sw1)) ?_,?_⟩,(x1.trans f68.ext).ag ab _ _⟩
  ·rw[bD,C.dcs,sd1,hd];exact VU.2
  ·rw[Bk.nV,cb];have h3:=Gy P (2*lr.length);have h4:=PW hPk;have h5:=Gy 1 (sw ar);omega
theorem Gz{S:List Nat}{m:ah}(hS:∀c∈S,c<m.size){d r:Sl}{ds:List aS}{rs:List di}(hn:cR m d r ds rs){W:Nat}(hW:W<=400000)(hk:xc ds rs True W):tw 94 [.agg #[Sl.v d,Sl.v r]] m S ds λmM=>xc ds mM True (W*W):=by
 apply ym;simp -zeta only[aw,ax];intro a1 a2;obtain⟨x2,hl⟩:=cv (m1:=a1) (m2:=a2) rfl rfl;have s1:a1.size=m.size+1:=by simp[a1]
 clear_value a2;have nL:=hn.fj.len;have Sz:=hn.lZ;refine(dI (S:=a1.size::S) (bd hS x2.size (hl _ az)) (hn.le x2.le).aI hn.types).mono λ_ m2⟨dd,e,Hy,x3⟩=>?_;subst e;refine⟨x3.cg hl,_,rfl,?_⟩;intro m3 m4 m5;have u2:=x2.trans x3;obtain⟨x5,B0,g0,s3,s5⟩:=iR (S:=m3.size::a1.size::S) fg.mono (m2:=m2) (m3:=m3) (m4:=m4) (m5:=m5) rfl rfl rfl;clear_value m5;have oC:∀c∈[a1.size,m.size],c<m2.size:=λc hc=>x3.lt (hl c hc);have kX:∀c∈a1.size::S,c<m2.size:=λc hc=>x3.lt (bd hS x2.size (hl _ az) c hc);refine iI (R:=λv0 v1 M=>∃d r mM,Value.agg #[Sl.v v0,Sl.v v1]=.agg #[Sl.v d,Sl.v r]/\cR (aY S M) d r ds mM/\xc ds mM True (W*W)/\af m M) (n:=rs.length) (m:=m) (S:=S) fg.mono aO aO hS ⟨ab,oC _ az⟩ u2 s3 Hy nL ab x5 B0 g0 (λ_ q=>q.params.length<=3/\q.bX.length<=3/\WB ds rs.length True q.params.length q.body/\q.body.w<=W*W) (λd' r' l m' h1 h2 h3 h4 h5=>⟨d',r',l,rfl,⟨h1,h2,hn.types,ab⟩,Gv hk.eZ h3 h4,h5⟩) λk M st l I μ Bj hlen xM g B next=>?_
 obtain⟨q,hq⟩:=ae (l:=rs) (k:=k) Bj;obtain⟨Bn,tB,lP,hw⟩:=hk.cq q (ak hq);have v6:=u2.trans xM;obtain⟨p,t,b,c1,c2,c3,e0,e1,e2,e3,e4⟩:=hn.fj.aE hq;have G:∀{v:Value}{b o:Nat},ad m b o=some v->ad M b o=some v:=λh=>v6.ad h;refine⟨st,B.bH 1,ab,ab,_,G e0,_,G e1,_,G e2,_,G e3,_,G e4,ab,ab,_,G e3,_,G e4,?_⟩;have hy:=g.aN;have MJ:=B.lt;have zM:=xM.size;refine(CQ q.body (st.ao::m3.size::a1.size::S) M (λc hc=>?_) b q.params.length (c3.le v6.le) lP ab).ay xM oC λss b' M1 sk jx x1 u1=>⟨_,_,rfl,?_⟩
 ·simp only[aF0]at hc;rcases hc with e|e|e|e
  ·omega
  ·omega
  ·have:=kX c (by simp[e]);omega
  ·have:=kX c (by simp[e]);omega
 have G1:∀{v:Value}{b o:Nat},ad m b o=some v->ad M1 b o=ad M b o:=λh=>by rw[x1.ad (G h),G h]
 refine⟨G1 e0,G1 e1,G1 e2,G1 e3,G1 e4,aA (x1.same _ (xM.lt (oC _ az))) _,aA (x1.same _ MJ) _,?_⟩;exact uf (S:=a1.size::S) (dd:=dd) (l:=l) kX (λc hc=>by have h1:=oC c hc;have h2:=u1.size;omega) u1 (g.ext fg.mono x1) (B.ext x1) ab (c1.ext (v6.trans x1)) (c2.ext (v6.trans x1)) sk ⟨ab,ab⟩ ab λs' M' g' B' x'=>next s' M' _ g' B' x' ⟨Bn,tB,jx.1,aF8 jx.2 (PW hw)⟩
def ajq(b:Bk):Prop:=∀(S:List Nat)(m:ah),(∀c∈S,c<m.size)->∀t:Sl,cU m t b.ar->b.w<=1000000000000->k8 217 [.agg #[Sl.v t,vi b.aH]] m S (b=·)
theorem vU{S:List Nat}{m:ah}(hS:∀c∈S,c<m.size){a k:Sl}{x:bu}(ha:aj m a x.args)(hk:lA m k x.aW)(hw:x.w<=1000000000000)(ih:∀b∈x.aW,ajq b):J8 248 [mJ x a k] m S (x=·):=by
 apply AQ;simp -zeta only[aw,ax];intro m0 m1 m2;obtain⟨x1,hl⟩:=cv (m1:=m0) (m2:=m1) rfl rfl;have s0:m0.size=m.size+1:=by simp[m0]
 have s1:m1.size=m.size+2:=by simp[m1,s0]
 have fW:af m1 m2:=af.push _ _;have g0:GB (m0.size::S) m1 m2 (.mk m1.size 0 0 0) []:=GB.new _ m1;clear_value m2;clear_value m1;have lG:∀c∈m0.size::S,c<m1.size:=bd hS x1.size (hl _ az);have jk:=hk.len;have Ua:=bu.jD x;have Ln:=nW x.aW;refine cN (n:=x.aW.length) (jk▸hk.eP) (λj s M=>af m1 M/\GB (m0.size::S) m1 M s (x.aW.take j)) ⟨fW,g0⟩ ?_;rintro j s m3 I μ hj ⟨x3,g⟩ next
 have v3:=x1.trans x3;have tB:∀b∈[m0.size,m.size],b<m3.size:=λb hb=>x3.lt (hl b hb);have hy:=g.aN;have z3:=x3.size;refine⟨λh=>?_,λh=>?_⟩
 ·simp only[aFP]at h;obtain⟨b,hb⟩:=ae (l:=x.aW) (k:=j) ab;obtain⟨tb,ZO,f0,f1⟩:=hk.aE hb;have hbm:=vx hb;refine⟨ab,ab,_,v3.ad f0,_,v3.ad f1,?_⟩;refine(ih b (ak hb) (s.ao::m0.size::S) m3 (bd lG z3 hy.2) tb (ZO.le v3.le) ab).ay (af.av m3) tB λss b' m4 sk e x4 _=>⟨_,_,rfl,?_⟩;subst e;refine GB.iN (b:=b) (g.ext pv.mono x4) ((x3.trans x4).fz []) sk bg λr M' g2 f2 z2 q2=>⟨af.me ((x3.trans x4).aC _) f2.ext hl,next ab _ _ ⟨f2.ext,?_⟩⟩;rw[bn hb];exact g2
 ·simp only[aFQ]at h;rw[bL ab]at g;refine(ba (m0.size::S) (ha.ext v3) ab).ay (af.av m3) tB λs' l' m4 ga e x4 _=>⟨_,rfl,aA (x4.same _ (tB _ az)) _,aA (x4.same _ (tB _ az)) _,aA (x4.same _ (tB _ az)) _,?_⟩;subst e;intro m5;have hle:Le (aY (m0.size::S) m4) (aY S m5):=bt az λc hc=>aFT _ hc;exact⟨s',s,x,rfl,(ga.done (λc hc=>by have:=lG c hc;omega) ab).le hle,lA.le hle ((g.ext pv.mono x4).done pv.mono lG aO ab),rfl,(v3.trans x4).ag ab _ _⟩
theorem uh:∀b:Bk,ajq b:=by
 refine Bk.ind ?_;intro ar kV ih S m hS t hs hw;rw[Bk.nV]at hw;simp only[Bk.gH,Bk.fH]at*;apply oV;simp -zeta only[aw,ax];intro m0 m1 m2 m3 m4;obtain⟨x1,hl⟩:=cv (m1:=m0) (m2:=m1) rfl rfl;have s0:m0.size=m.size+1:=by simp[m0]
 have s1:m1.size=m.size+2:=by simp[m1,s0]
 have s2:m2.size=m1.size+1:=by simp[m2]
 have s3:m3.size=m2.size+1:=by simp[m3]
 have Lr:af m2 m4:=(af.push m2 _).ag (aFR _) _ _;have eU:af m1 m4:=(af.push m1 _).trans Lr;have g0:GS (m2.size::m0.size::S) m1 m4 (.mk m1.size 0 0 0) []:=(GS.new _ m1).ext eu.mono Lr;have B0:bK m4 m2.size bU [.s (.mk m1.size 0 0 0),.i kV]:=bK.ag (m:=m3) (o:=0) (r:=[.s (.mk m1.size 0 0 0),.i kV]) (bK.push m2 _ _);clear_value m4;have lG:∀c∈m0.size::S,c<m1.size:=bd hS x1.size (hl _ az);have kQ:=hs.len;have Jj:=dN ar;refine dg (n:=ar.length) (kQ▸hs.eP) (λk M=>af m1 M/\∃s,GS (m2.size::m0.size::S) m1 M s (ar.take k)/\bK M m2.size bU [.s s,.i kV]) ⟨eU,_,g0,B0⟩ ?_;rintro k m5 I μ hk ⟨x5,s,g,B⟩ next
 have v5:=x1.trans x5;have SC:∀b∈[m0.size,m.size],b<m5.size:=λb hb=>x5.lt (hl b hb);have hy:=g.aN;have z5:=x5.size;have MJ:=B.lt;refine⟨λh=>?_,λh=>?_⟩
 ·simp only[aFP]at h;obtain⟨x,hx⟩:=ae (l:=ar) (k:=k) ab;obtain⟨pa,pk,ha,oO,g0,g1,g2,g3,g4⟩:=hs.aE hx;have tD:=On hx;refine⟨s,B.bH 0,ab,ab,_,v5.ad g0,_,v5.ad g1,_,v5.ad g2,_,v5.ad g3,_,v5.ad g4,?_⟩;refine(vU (S:=s.ao::m2.size::m0.size::S) (bd (bd lG z5 MJ) (aFR _) hy.2) (ha.ext v5) (oO.le v5.le) ab (ih x (ak hx))).ay (af.av m5) SC λca ck x' m6 VS BT e x6 _=>⟨_,_,_,_,_,rfl,aA (x6.same _ MJ) _,?_⟩;subst e;intro m7;refine Gr.box (zs:=[.i 0,.i 0,.i 0,.s .nil,.s .nil]) (i:=0) (bc:=[.s s,.i kV]) (a:=x) eu.mono aO (g.ext eu.mono x6) ((x5.trans x6).fz []) ⟨ca,ck,rfl,VS,BT⟩ bg (B.ext x6) az aO ⟨ab,az⟩ (λc hc=>by have h1:=hl c hc;have h2:=x6.size;omega) λr' m' g' B' f' z' q'=>next ab _ ⟨f'.ext,r',?_,B'⟩
  rw[bn hx];exact g'
 ·simp only[aFQ]at h;rw[bL ab]at g;refine⟨s,B.bH 0,kV,B.bH 1,?_⟩;intro m6;have cx:=g.ne B aO;have hle:Le (aY (m2.size::m0.size::S) m5) (aY S m6):=bt az λc hc=>aFT _ (aFT _ hc);refine⟨s,.mk ar kV,rfl,cU.le hle (g.lB eu.mono (λhc=>?_) aO (by show ar.length<=_;omega)),rfl,v5.ag ab _ _⟩;rcases List.mem_cons.1 hc with e|e
  ·exact cx e
  ·have:=lG _ e;omega
def ao0(b:Bk):Prop:=∀(m:ah)(t:Sl)(f:Int),cU m t b.ar->mC 249 [.agg #[Sl.v t,vi b.aH],vi f] m
theorem IG:∀b:Bk,ao0 b:=by
 refine Bk.ind ?_;intro ar kV ih m t f hs;simp only[Bk.gH,Bk.fH]at*;apply AT;simp -zeta only[aw,ax];intro m1;have x1:af m m1:=af.push _ _;have hl:∀b∈[m.size],b<m1.size:=by simp[m1]
 clear_value m1;have kQ:=hs.len;refine dg (n:=ar.length) (kQ▸hs.eP) (λ_ M=>af m1 M) (af.av _) ?_;rintro k m2 I μ hk x2 next
 have v2:=x1.trans x2;refine⟨λh=>?_,λ_=>rA v2⟩;simp only[aFP]at h;obtain⟨x,hx⟩:=ae (l:=ar) (k:=k) ab;obtain⟨pa,pk,ha,oO,g0,g1,g2,g3,g4⟩:=hs.aE hx;have jk:=oO.len;have L:∃(af8:Int->ah->Prop)(μ0_1:Int->ah->Nat),af8 (0:Int) m2/\(∀(ZP:Int)(M:ah),af8 ZP M->
  (0:Int)<=(k:Int)/\(k:Int)<(t.len:Int)/\∃v37:Sl,ad M t.ao (t.off+Int.toNat (k:Int)*5+4)=some (Sl.v v37)/\
  ((decide (ZP<(v37.len:Int)))=true->(0:Int)<=(k:Int)/\(k:Int)<(t.len:Int)/\∃v47:Sl,ad M t.ao (t.off+Int.toNat (k:Int)*5+4)=some (Sl.v v47)/\
   (0:Int)<=ZP/\ZP<(v47.len:Int)/\∃v0:Sl,ad M v47.ao (v47.off+Int.toNat ZP*2)=some (Sl.v v0)/\∃v1:Int,ad M v47.ao (v47.off+Int.toNat ZP*2+1)=some (vi v1)/\
   aD Tryz.prog 249 [.agg #[Sl.v v0,vi v1],vi f] M λr M'=>da [m.size] M M'/\∃r52:Bool,r=vb r52/\(r52=true->∃b:Bool,vb true=.bool b/\af m M')/\(r52=false->af8 (bS (ZP+(1:Int))) M'/\μ0_1 (bS (ZP+(1:Int))) M'<μ0_1 ZP M))/\
  ((decide (ZP<(v37.len:Int)))=false->I (bS ((k:Int)+(1:Int))) M/\μ (bS ((k:Int)+(1:Int))) M<μ k m2)):=by
  refine dg (n:=x.aW.length) (jk▸oO.eP) (λ_ M=>af m2 M) (af.av _) ?_
  rintro j M I2 μ2 hj x3 eN
  have v3:=v2.trans x3
  refine⟨ab,ab,pk,v3.ad g4,λh=>?_,λ_=>next ab _ (x2.trans x3)⟩
  simp only[aFP]at h
  obtain⟨b,hb⟩:=ae (l:=x.aW) (k:=j) ab
  obtain⟨tb,ZO,f0,f1⟩:=oO.aE hb
  refine⟨ab,ab,pk,v3.ad g4,ab,ab,_,v3.ad f0,_,v3.ad f1,?_⟩
  exact(ih x (ak hx) b (ak hb) M tb f (ZO.le v3.le)).ay (x2.trans x3) hl λc M' x4 u4=>⟨_,rfl,λ_=>rA (x1.trans u4),λ_=>eN ab _ (x3.trans x4)⟩
 exact⟨ab,ab,_,v2.ad g0,λ_=>⟨ab,ab,_,v2.ad g1,λ_=>rA v2,λ_=>L⟩,λ_=>L⟩
theorem IH{m:ah}{d r:Sl}{ds:List aS}{rs:List di}(hn:cR m d r ds rs)(f:Int):mC 218 [.agg #[Sl.v d,Sl.v r],vi f] m:=by
 apply AN;simp -zeta only[aw,ax];intro m1;have x1:af m m1:=af.push _ _;have hl:∀b∈[m.size],b<m1.size:=by simp[m1]
 clear_value m1;have nL:=hn.fj.len;have Sz:=hn.lZ;refine dg (n:=rs.length) ab (λ_ M=>af m1 M) (af.av _) ?_;rintro k m2 I μ hk x2 next
 have v2:=x1.trans x2;refine⟨λh=>?_,λ_=>rA v2⟩;simp only[aFP]at h;obtain⟨q,hq⟩:=ae (l:=rs) (k:=k) ab;obtain⟨p,t,b,c1,c2,c3,e0,e1,e2,e3,e4⟩:=hn.fj.aE hq;exact⟨ab,ab,_,v2.ad e3,_,v2.ad e4,(IG q.body m2 b f (c3.le v2.le)).ay x2 hl λc M' x4 u4=>⟨_,rfl,λ_=>rA (x1.trans u4),λ_=>next ab _ u4⟩⟩
abbrev GII(S:List Nat)(m0 m:ah)(s:Sl)(l:List (List Int)):Prop:=Gr S m0 m uR 1 ka s l
theorem Ew{S:List Nat}{m:ah}(hS:∀c∈S,c<m.size){d r:Sl}{ds:List aS}{rs:List di}(hn:cR m d r ds rs)(hp:∀q∈rs,q.params.length<=3):
 aD Tryz.prog 183 [.agg #[Sl.v d,Sl.v r]] m λv m'=>∃s l,v=Sl.v s/\mV (aY S m') s l/\l.length=rs.length/\(∀c∈l,c.length<=3)/\af m m':=by
 apply wQ
 simp -zeta only[aw,ax]
 intro m1 m2
 have x1:af m m1:=af.push _ _
 have hl:∀b∈[m.size],b<m1.size:=by simp[m1]
 have fW:af m1 m2:=af.push _ _
 have g0:GII S m1 m2 (.mk m1.size 0 0 0) []:=Gr.new S (aFR _) _ _ _
 clear_value m2
 clear_value m1
 have nL:=hn.fj.len;have Sz:=hn.lZ
 have lG:∀c∈S,c<m1.size:=λc hc=>x1.lt (hS c hc)
 refine cN (n:=rs.length) ab (λk s M=>af m1 M/\∃l,GII S m1 M s l/\l.length=k/\∀c∈l,c.length<=3) ⟨fW,[],g0,rfl,az⟩ ?_
 rintro k s m3 I μ hk ⟨x3,l,g,hlen,h3⟩ next
 have v3:=x1.trans x3
 have hy:=g.aN
 refine⟨λh=>?_,λh=>?_⟩
 ·simp only[aFP]at h
  obtain⟨q,hq⟩:=ae (l:=rs) (k:=k) ab
  obtain⟨p,t,b,c1,c2,c3,e0,e1,e2,e3,e4⟩:=hn.fj.aE hq
  have hq3:=hp q (ak hq)
  have fG:∀(M:ah)(f:Sl)(c:List Int),af m3 M->aj (aY (s.ao::S) M) f c->c.length<=3->gA (M.push (.cells (aU [.s f]) uR)) uR [.s Sl.nil] 24 s (Sl.mk M.size 0 1 1) λr19 M'=>da [m.size] (M.push (.cells (aU [.s f]) uR)) M'/\I r19 (bS ((k:Int)+(1:Int))) M'/\μ r19 (bS ((k:Int)+(1:Int))) M'<μ s k m3:=λM f c hx hf hc=>
   Gr.iN (zs:=[.s .nil]) ka.mono aO (g.ext ka.mono hx) ((x3.trans hx).fz []) ⟨f,rfl,hf⟩ ab λr' M' g' f' _ _=>⟨af.me ((x3.trans hx).aC _) f'.ext hl,next ab _ _ ⟨f'.ext,_,g',bg,λy hy=>by
    rcases List.mem_append.1 hy with hy|hy
    ·exact h3 y hy
    ·simp at hy;subst hy;exact hc⟩⟩
  refine(IH (hn.le v3.le) k).ay x3 hl λc m4 x4 u4=>⟨_,rfl,λ_=>?_,λ_=>⟨ab,ab,p,(v3.trans x4).ad e0,?_⟩⟩
  ·intro m5 m6
   exact fG m5 _ [] (x4.aC _) (jM _ _ _ _ _ _) az
  ·refine(pE (S:=[]) az (n:=0) ((c1.ext (v3.trans x4)).le (yS _)) ab).ay u4 hl λr27 l27 m5 g27 q27 x5 u5=>⟨_,rfl,?_⟩
   intro m6
   have hg:GI (s.ao::S) m4 m5 r27 l27:=g27.any
   exact fG m5 _ l27 (x4.trans x5) (hg.done (bd lG u4.size (by have:=x4.size;omega)) (by have:=q27.2;omega)) (by have:=q27.2;omega)
 ·simp only[aFQ]at h
  exact⟨s,l,rfl,g.done ka.mono lG aO ab,ab,h3,v3⟩
def ao1(ds:List aS)(rs:List di)(b:Bk):Prop:=∀(m:ah)(d r t:Sl)(v:Int)(c:Prop)(a:Nat),cR m d r ds rs->cU m t b.ar->WB ds rs.length c a b->mC 219 [.agg #[Sl.v d,Sl.v r],.agg #[Sl.v t,vi b.aH],vi v] m
theorem yY{ds:List aS}{rs:List di}:∀b:Bk,ao1 ds rs b:=by
 refine Bk.ind ?_;intro ar kV ih m d r t v c a hn hs lP;have VU:=lP.aT.1;simp only[Bk.gH,Bk.fH]at*;apply tp;simp -zeta only[aw,ax];intro m0 m1;obtain⟨x1,hl⟩:=cv (m1:=m0) (m2:=m1) rfl rfl;clear_value m1;have kQ:=hs.len;refine⟨λ_=>rA x1,λ_=>?_⟩;refine dg (n:=ar.length) (kQ▸hs.eP) (λ_ M=>af m1 M) (af.av _) ?_;rintro k m2 I μ hk x2 next
 have v2:=x1.trans x2;refine⟨λh=>?_,λ_=>rA v2⟩;simp only[aFP]at h;obtain⟨x,hx⟩:=ae (l:=ar) (k:=k) ab;obtain⟨pa,pk,ha,oO,g0,g1,g2,g3,g4⟩:=hs.aE hx;have oA:=VU k x hx;have jK:=ha.len;have jk:=oO.len;refine⟨ab,ab,_,v2.ad g0,_,v2.ad g1,_,v2.ad g2,_,v2.ad g3,_,v2.ad g4,?_⟩;intro m3 m4;have x4:af m2 m4:=(af.push m2 _).ag (aFR _) _ _;have s4:m4.size=m2.size+1:=by simp[m4,m3,aq]
 clear_value m4;have xr:∀b∈[m2.size,m0.size,m.size],b<m4.size:=λb hb=>by
  rcases List.mem_cons.1 hb with e|e
  ·omega
  ·exact(x2.trans x4).lt (hl b e)
 refine dg (n:=x.args.length) (jK▸ha.eP) (λ_ M=>af m4 M) (af.av _) ?_;rintro j m5 I1 μ1 hj x5 Y1;have v5:=(v2.trans x4).trans x5;refine⟨λh=>?_,λ_=>?_⟩
 ·simp only[aFP]at h;obtain⟨y,hy⟩:=ae (l:=x.args) (k:=j) ab;refine⟨ab,ab,y,(ha.ext v5).aE hy,λ_=>?_,λ_=>Y1 ab _ x5⟩;refine(vR x.op m5).ay x5 xr λc m6 x6 u6=>⟨_,rfl,λ_=>?_,λ_=>Y1 ab _ u6⟩;have v6:=v5.trans x6;exact(lC (⟨hn.le v6.le,ha.ext v6,oA.db.call⟩:At m6 d r pa pk ds rs x) j).ay u6 xr λc m7 x7 u7=>⟨_,rfl,λ_=>rA (v6.trans x7),λ_=>Y1 ab _ u7⟩
 ·refine dg (n:=x.aW.length) (jk▸oO.eP) (λ_ M=>af m5 M) (af.av _) ?_;rintro i m6 I2 μ2 hi x6 eN;have v6:=v5.trans x6;refine⟨λh=>?_,λ_=>next ab _ (((x2.trans x4).trans x5).trans x6)⟩;simp only[aFP]at h;obtain⟨b,hb⟩:=ae (l:=x.aW) (k:=i) ab;obtain⟨tb,ZO,f0,f1⟩:=oO.aE hb;refine⟨ab,ab,_,v6.ad f0,_,v6.ad f1,?_⟩;exact(ih x (ak hx) b (ak hb) m6 d r tb v c _ (hn.le v6.le) (ZO.le v6.le) (oA.aW i b hb)).ay (x5.trans x6) xr λc m7 x7 u7=>⟨_,rfl,λ_=>rA (v6.trans x7),λ_=>eN ab _ (x6.trans x7)⟩
theorem II{S:List Nat}{m:ah}(hS:∀c∈S,c<m.size){d r:Sl}{ds:List aS}{rs:List di}(hn:cR m d r ds rs){c:Prop}{W:Nat}(hk:xc ds rs c W){f:Nat}{q:di}(hq:rs[f]? =some q):iV 184 [.agg #[Sl.v d,Sl.v r],vi f] m S λl=>l.length<=q.bX.length:=by
 apply AE;simp -zeta only[aw,ax];intro m1 m2;have x1:af m m1:=af.push _ _;have hl:∀b∈[m.size],b<m1.size:=by simp[m1]
 have fW:af m1 m2:=af.push _ _;have g0:GI S m1 m2 (.mk m1.size 0 0 0) []:=GI.nil S m1;clear_value m2;clear_value m1;have nL:=hn.fj.len;have gL:=ap hq;obtain⟨Bn,tB,lP,hw⟩:=hk.cq q (ak hq);obtain⟨p,t,b,c1,c2,c3,e0,e1,e2,e3,e4⟩:=hn.fj.aE hq;have MK:=c2.len;refine cN (n:=q.bX.length) ab (λk s M=>af m1 M/\∃l,GI S m1 M s l/\l.length<=k) ⟨fW,[],g0,aFR _⟩ ?_;rintro k s m3 I μ Bj ⟨x3,l,g,hc⟩ next
 have v3:=x1.trans x3;refine⟨ab,ab,t,v3.ad e1,λh=>?_,λh=>⟨s,l,rfl,g.bN (λ_ h=>h) x1.size,ab,v3⟩⟩;simp only[aFP]at h;obtain⟨y,hy⟩:=ae (l:=q.bX) (k:=k) ab;refine⟨ab,ab,_,v3.ad e3,_,v3.ad e4,ab,ab,t,v3.ad e1,ab,ab,y,(c2.ext v3).aE hy,?_⟩;refine(yY q.body m3 d r b y c _ (hn.le v3.le) (c3.le v3.le) lP).ay x3 hl λcc m4 x4 u4=>⟨_,rfl,λ_=>⟨ab,ab,t,(v3.trans x4).ad e1,ab,ab,y,(c2.ext (v3.trans x4)).aE hy,?_⟩,λ_=>next ab _ _ ⟨u4,l,g.ext x4,ab⟩⟩;intro m5;exact GI.iN (g.ext x4) (u4.fz []) (λc hc=>x1.lt (hS c hc)) ab λr m6 g6 f6 _ _=>⟨af.me (u4.aC _) f6.ext hl,next ab _ _ ⟨f6.ext,_,g6,bg⟩⟩
end Go.Proofs.YtakpkjhmbbfniaaGreat
