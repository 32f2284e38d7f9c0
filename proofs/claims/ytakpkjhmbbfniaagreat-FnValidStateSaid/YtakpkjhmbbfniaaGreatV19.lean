/- Part of a proof, joined by a program. -/
import Derived.Carry
import Derived.ChangeSame
import Derived.ChangeSlices
import Derived.Deep.Slices
import Derived.OpenShut
import Derived.RowKit
import Derived.WideShapes
import Derived.Test.YtakpkjhmbbfniaaGreatV01
import Derived.Test.YtakpkjhmbbfniaaGreatV13
import Derived.Test.YtakpkjhmbbfniaaGreatV18
set_option linter.unusedVariables false
set_option linter.unusedSimpArgs false
set_option linter.defProp false
set_option maxHeartbeats 8000000
set_option maxRecDepth 100000
namespace Go.Proofs.YtakpkjhmbbfniaaGreat
open Go.Vc
section
theorem Xv(S:List Nat)(m:ah):(Vc.aY S m).size=m.size:=by simp[Vc.aY]
theorem Xw{S:List Nat}{m:ah}{b:Nat}(h:b∉S):(Vc.aY S m)[b]? =m[b]? :=by
 unfold Vc.aY;rw[aH4];cases m[b]? <;>simp[h]
def AR(S:List Nat)(v:Value)(m':ah):Prop:=∃d p im aT hp fr s,v=.tuple #[.agg #[Sl.v d,Sl.v p],TP s aT hp fr]/\dU (aY S m') d p im/\eu (aY S m') aT hp fr s/\Dg s
section
variable{S:List Nat}{m:ah}{rb P:Nat}{bs:Sl}
theorem Fo(hS:∀c∈S,c<m.size)(dx:rb∈S)(h0:Rd rb bs P m)(hP:P+3000+4*(300+40*Cg 18)<=10000000000000000):aD Tryz.prog 10 [vp rb 0] m λv m'=>AR S v m'/\Fz [rb] m m':=by
 apply wo (rb,0);simp -zeta only[aw,ax];have hr:=h0.lt;intro m1 m2;have b2:BS [m1.size,m.size] rb bs m P m2:=BS.psh (BS.jm (S:=S) h0 _).1 _;have s1:m1.size=m.size+1:=by simp[m1]
 clear_value m2;refine b2.call (S:=S) hr (λ_ h=>h) (Ja (b2.hS hS) (by simp[dx]) b2.s.r ab) λd p x m3 _ t3 b3 f3=>?_;intro m4 m5;obtain⟨b5,l5,-⟩:=b3.box (S:=S) (m1:=m4) (m2:=m5) rfl rfl rfl;clear_value m5;have t5:=IT.mn _ _ _ _ _ l5 t3;refine(qR (im:=⟨x.1,x.2⟩) ⟨t5.1.le (aV _ _),eV.le (aV _ _) t5.2⟩).mono λ_ m6⟨v,e,hv,x6⟩=>⟨(b5.lw hr λ_ h=>h).cg (x6.fz _),v,e,λhn=>?_,λhy=>?_⟩;all_goals
  have b6:=b5.to (x6.fz _) (b5.s.r.ext x6)
  have t6:=IT.mn _ _ _ _ _ (BS.le (B:=[m3.size,m1.size,m.size]) dx (x6.fz [rb])) t5
  have lw6:=b6.dX
 ·intro m7 m8 m9;have x7:af m6 m7:=af.push _ _;have B7:bK m7 m6.size dh [.i 0,.i 0,.i 0,.s .nil,.s .nil,.s .nil]:=bK.push _ _ _;have b7:=b6.to (x7.fz _) (b6.s.r.ext x7);have t7:=IT.mn _ _ _ _ _ (BS.le (B:=[m3.size,m1.size,m.size]) dx (x7.fz [rb])) t6;clear_value m7;obtain⟨b8,l8⟩:=b7.put (S:=S) h0 (by simp:m.size∈_) [.s d,.s p];obtain⟨b9,l9⟩:=b8.put (S:=S) h0 (by simp:m1.size∈_) [.i 3,.i 0,.i 0,.i 0,.s .nil,.s .nil,.s (.mk m6.size 0 1 1)];have t9:=IT.mn _ _ _ _ _ ((l8.trans l9).trans (eY _ λ_=>aGu _)) t7;have ha:=lw6 m.size az;have hb:=lw6 m1.size az;have B9:bK m9 m6.size dh [.i 0,.i 0,.i 0,.s .nil,.s .nil,.s .nil]:=(B7.congr (aP _ _ _ _ ab)).congr (aP _ _ _ _ ab);have hs6:m6.size∉S:=λhc=>by have:=hS _ hc;omega
  have ni:∀{M:ah},aj M .nil []:=⟨rfl,aGq _,az,az⟩;refine⟨⟨d,p,⟨x.1,x.2⟩,.nil,.nil,.mk m6.size 0 1 1,⟨3,0,0,0,[],[],[⟨0,0,0,[],[],[]⟩]⟩,rfl,⟨t9.1,t9.2⟩,⟨ni,⟨rfl,aGq _,az,az⟩,⟨rfl,aFR _,az,λk y hk=>?_⟩⟩,⟨⟨az,az⟩,by simp[UY],by simp[U0],az,az,az⟩⟩,b9.s.f⟩;cases k with
  |zero=>
   simp at hk;subst hk;exact⟨_,⟨.nil,.nil,.nil,rfl,ni,ni,ni⟩,Jo hs6 B9.iu⟩
  |succ k=>simp at hk
 ·have ok:kN ⟨x.1,x.2⟩:=hv.1 (by simpa using hy);have le6:Le (aY ([m3.size,m1.size,m.size]++S) m6) (aY [rb] m6):=eY _ (by simp[dx]);refine(Hs b6.s.r ab (t6.1.le le6) (eV.le le6 t6.2) ok).mono λ_ m7⟨n,ro,aT,hp,fr,s,e,N,hn,hn',ok',Q3,r7,f7⟩=>?_;have g7:∀o,ad m7 m3.size o=ad m6 m3.size o:=λo=>kg f7 hr (lw6 _ az) o;refine⟨(b6.lw hr λ_ h=>h).cg f7,_,_,_,_,aT,hp,fr,e,g7 _,g7 _,?_⟩;have hr6:rb<m6.size:=b6.s.r.lt;refine(Fm (n:=n) b6.s.r hn (SO.of N hn') ⟨f7,r7⟩ ab ok' Q3).mono λ_ m8⟨Fy,Ac,fr',s',e,vL,dp,r8⟩=>?_;have same:∀b,b<m6.size->b≠rb->m8[b]? =m7[b]? :=λb hb hn=>(r8.f.same b hb (by simpa using hn)).trans (f7.same b hb (by simpa using hn)).symm;have g8:∀o,ad m8 m3.size o=ad m7 m3.size o:=λo=>aA (same _ (lw6 _ az).2 (by have:=lw6 m3.size az;omega)) o;refine⟨λb hb=>same b (lw6 b hb).2 (by have:=lw6 b hb;omega),_,_,_,_,Fy,Ac,fr',e,g8 _,g8 _,?_⟩;intro m9 cK;have b8:=b6.to r8.f r8.r;have t8:=IT.mn _ _ _ _ _ (BS.le (B:=[m3.size,m1.size,m.size]) dx r8.f) t6;obtain⟨b9,l9⟩:=b8.put (S:=S) h0 (by simp:m.size∈_) [.s d,.s p];obtain⟨NO,NM⟩:=b9.put (S:=S) h0 (by simp:m1.size∈_) [.i s'.bT,.i s'.value,.i s'.be,.i s'.cV,.s Fy,.s Ac,.s fr'];have t10:=IT.mn _ _ _ _ _ ((l9.trans NM).trans (eY _ λ_=>aGu _)) t8;have ha:=lw6 m.size az;have hb:=lw6 m1.size az;refine⟨⟨d,p,⟨x.1,x.2⟩,Fy,Ac,fr',s',rfl,⟨t10.1,t10.2⟩,vL _ (by rw[Xv];simp[cK,m9,aq]) λb _ hbn=>?_,dp⟩,NO.s.f⟩;rw[Xw λhc=>by have:=hS b hc;have:=b6.s.f.size;omega];exact(aP _ _ _ _ ab).trans (aP _ _ _ _ ab)
theorem xf{bP:Sl}(h:Qb m bP):aD Tryz.prog 6 [Sl.v bP] m λv m'=>AR [] v m'/\af m m':=by
 apply rQ;simp -zeta only[aw,ax];intro m1 m2;obtain⟨x2,hl⟩:=cv (m1:=m1) (m2:=m2) rfl rfl;have s1:m1.size=m.size+1:=by simp[m1]
 clear_value m2;refine(G9 (m:=m2) ⟨h.1,λk hk=>let⟨v,a,b,g⟩:=h.2 k hk;⟨v,a,b,x2.ad g⟩⟩).mono λ_ m3⟨bs,e,r3,x3⟩=>⟨x3.cg hl,(m2.size,0),e,?_⟩;have hr:=r3.lt;have hm:=hl m.size az;have hm1:=hl m1.size az;refine(Fo (S:=[m1.size,m.size,m2.size]) bg az r3 (by simp[Cg])).mono λ_ m4⟨⟨d,p,im,aT,hp,fr,s,e,hi,hs,hf⟩,f4⟩=>?_;refine⟨f4.cg λb hb=>by have:=hl b hb;simp only[aG1];omega,d,p,_,_,_,_,aT,hp,fr,e,?_⟩;intro m5 m6;have z4:=f4.size;have lek:∀{b o:Nat}{v:Value},ad (aY [m1.size,m.size,m2.size] m4) b o=some v->ad (aY [] m6) b o=some v:=λh=>by
  obtain⟨h1,h2⟩:=cT.1 h;simp at h1;refine cT.2 ⟨az,?_⟩;rw[aA ((aP _ _ _ _ ab).trans (aP _ _ _ _ ab))];exact h2
 have le:Le (aY [m1.size,m.size,m2.size] m4) (aY [] m6):=λb o v h=>lek h;refine⟨⟨d,p,im,aT,hp,fr,s,rfl,⟨hi.aI.le le,eV.le le hi.bJ⟩,⟨hs.aT.le le,cY.le hs.heap le λcs c⟨f,e,h⟩=>⟨f,e,h.le le⟩,cY.le hs.ai le λcs c⟨r,o,h,e,a,b,d⟩=>⟨r,o,h,e,a.le le,b.le le,d.le le⟩⟩,hf⟩,?_⟩;have f:Fz [m2.size] m2 m4:=(x3.fz _).trans f4;have g:af m m4:=⟨by have:=x2.size;have:=x3.size;omega,λb hb=>(f.same b (x2.lt hb) (by have:=x2.size;simp;omega)).trans (x2.same b hb)⟩;exact(g.ag ab _ _).ag ab _ _
end
end
section
theorem TV(f:Nat->Nat):∀n,∃B,∀i,i<n->f i<=B
 |0=>⟨0,az⟩
 |n+1=>let⟨B,h⟩:=TV f n;⟨B+f n,λi hi=>by
  rcases aF1 i n with e|e
  ·have:=h i e;omega
  ·have:i=n:=ab;subst this;omega⟩
theorem bR.BD{im:bq}{s:St}(h:bR im s)(h0:s.bT=0):s.heap=[]:=by
 have hf:=h.done.1 h0;obtain⟨rG,hr⟩:=h.heap.Ml;obtain⟨B,hB⟩:=TV rG s.heap.length;apply aGo;intro cx;have qB:0<s.heap.length:=List.length_pos_iff.2 cx;have gJ:∀k,∃(a:Nat)(c:aR),s.heap[a]? =some c/\0<c.aG/\k<=rG a:=λk=>by
  induction k with
  |zero=>
   obtain⟨c,hc⟩:=ae (l:=s.heap) (k:=s.heap.length -1) ab;refine⟨_,c,hc,?_,aGq _⟩;have h1:=h.fE c hc;rcases aHQ c.aG 0 with e|e
   ·have:=h.ic _ ⟨c,hc,e⟩;rw[hf]at this;simp[holds]at this
   ·omega
  |succ k ih=>
   obtain⟨a,c,hc,hp,hk⟩:=ih;have:=h.heap.ex a c hc hp;rw[hf]at this;simp only[dz]at this;obtain⟨d,Je,hw⟩:=Ke (h:=s.heap) (a:=a) ab;obtain⟨i,hd⟩:=List.mem_iff_getElem?.1 Je;have Q5:=hr i d hd _ hw ab;rw[jg]at Q5;refine⟨i,d,hd,?_,ab⟩;apply aGo;intro hn;have:=((h.heap.cell d (ak hd)).vC ab).2.1 _ hw;omega
 obtain⟨a,c,hc,_,hk⟩:=gJ (B+1);have:=hB a (ap hc);omega
theorem bR.ajK{im:bq}{s:St}(h:bR im s):bR im {s with aT:=[]}:=⟨h.eG,h.bT,h.done,h.value,h.pI,h.cV,h.be,h.jT,az,h.heap,h.fE,h.ai,h.first,h.chain,h.ic,h.jN⟩
theorem bR.dY{im:bq}{s:St}(h:bR im s):bR im {s with cV:=40}:=⟨h.eG,h.bT,h.done,h.value,h.pI,az,⟨h.be.1,by have:=h.be;have:=h.cV;show s.be<=40;omega⟩,h.jT,h.aT,h.heap,h.fE,h.ai,h.first,h.chain,h.ic,h.jN⟩
theorem eu.le{m m':ah}{aT hp fr:Sl}{s:St}(hs:eu m aT hp fr s)(le:Le m m'):eu m' aT hp fr s:=⟨hs.aT.le le,cY.le hs.heap le λcs c⟨f,e,h⟩=>⟨f,e,h.le le⟩,cY.le hs.ai le λcs c⟨r,o,h,e,a,b,d⟩=>⟨r,o,h,e,a.le le,b.le le,d.le le⟩⟩
def LwR(m:ah)(v:Value)(m':ah):Prop:=v=vb true/\af m m'
theorem Xx{b c:Bool}{p:Prop}(hb:b=true<->p)(hc:c=true<->p):b=c:=by cases b<;>cases c<;>simp_all
section
variable{m:ah}{d p aT hp fr:Sl}{im:bq}{s:St}
theorem rE(qD:dU m d p im)(hs:eu m aT hp fr s)(dp:Dg s):cB Tryz.prog 8 [.agg #[Sl.v d,Sl.v p],TP s aT hp fr] m (bR im s):=by
 apply wm;simp -zeta only[aw,ax];intro m1 m2;obtain⟨x2,hl⟩:=cv (m1:=m1) (m2:=m2) rfl rfl;exact(Dj (qD.ext x2) (hs.ext x2) dp).mono λ_ m3⟨b,e,hb,x3⟩=>⟨x3.cg hl,b,e,b,rfl,hb,x2.trans x3⟩
theorem zt{bP:Sl}(h:Qb m bP):aD Tryz.prog 3 [Sl.v bP] m (LwR m):=by
 apply tJ;simp(config:={maxSteps:=1000000}) -zeta only[aw,ax];refine⟨λ_=>⟨rfl,af.av _⟩,λ_=>?_⟩;refine(xf h).mono λ_ m1⟨⟨d,p,im,aT,hp,fr,s,e,hi,hs,hf⟩,x1⟩=>⟨d,p,_,_,_,_,aT,hp,fr,e,?_⟩;have So:dU m1 d p im:=⟨hi.aI.le (aV _ _),eV.le (aV _ _) hi.bJ⟩;have hs1:=hs.le (aV _ _);intro a1 a2 a3 a4;have z1:a1.size=m1.size+1:=by simp[a1]
 have x4:af m1 a4:=(((af.push m1 _).trans (af.push a1 _)).ag (aFR _) _ _).ag ab _ _;have z4:a4.size=m1.size+2:=by simp[a4,a3,a2,a1,aq]
 clear_value a4;have hl:∀b∈[a1.size,m1.size],b<a4.size:=bg;refine(mr (So.ext x4) (hs1.ext x4) hf).ay (af.av _) hl λb m5 hb x5 _=>⟨b,rfl,?_⟩;have X5:=x4.trans x5;refine(rE (So.ext X5) (hs1.ext X5) hf).ay x5 hl λc m6 hc x6 u6=>⟨c,rfl,?_⟩;have X6:=X5.trans x6;obtain rfl:=Xx hb hc;refine⟨λh=>by simp at h,λ_=>⟨λ_=>?_,λhy=>?_⟩⟩
 ·exact(rE (So.ext X6) (hs1.ext X6) hf).ay u6 hl λc m7 hc x7 u7=>⟨c,rfl,by rw[Xx hb hc];simp,(x1.trans X6).trans x7⟩
 have ok:=hb.1 (by simpa using hy);intro m9 cK dm df iC gK;have z6:=u6.size;have eB:af m6 dm:=((af.push m6 _).ag (aFR _) _ _).ag (aFR _) _ _;have eU:af dm gK:=((af.push dm _).ag (aFR _) _ _).ag (aFR _) _ _;have xw:dm.size=m6.size+1:=by simp[dm,cK,m9,aq]
 have Sx:gK.size=dm.size+1:=by simp[gK,iC,df,aq]
 clear_value gK;clear_value dm;have Uc:=(X6.trans eB).trans eU;have OY:∀b∈[dm.size,m6.size,a1.size,m1.size],b<gK.size:=bg;have hsA:=hs1.ext Uc;refine(mr (s:={s with aT:=[]}) (aT:=.nil) (So.ext Uc) ⟨⟨rfl,aGq _,az,az⟩,hsA.heap,hsA.ai⟩ ⟨hf.be,hf.heap,hf.ai,hf.lh,hf.lf,hf.lr⟩).ay (af.av _) OY λb1 kT Ji lp _=>⟨b1,rfl,λ_=>?_,λh=>?_⟩
 ·have hsB:=hsA.ext lp;refine(mr (s:={s with cV:=40}) (So.ext (Uc.trans lp)) ⟨hsB.aT,hsB.heap,hsB.ai⟩ ⟨hf.be,hf.heap,hf.ai,hf.lh,hf.lf,hf.lr⟩).ay lp OY λb2 pV lz kW _=>⟨b2,rfl,λ_=>⟨λ_=>⟨rfl,((x1.trans Uc).trans lp).trans kW⟩,λh0=>⟨?_,((x1.trans Uc).trans lp).trans kW⟩⟩,λh=>?_⟩
  ·have hl0:=hs1.heap.len;rw[ok.BD (by simpa using h0)]at hl0;simp at hl0;simp[hl0]
  ·rw[lz.2 ok.dY]at h;simp at h
 ·rw[Ji.2 ok.ajK]at h;simp at h
end
end
end Go.Proofs.YtakpkjhmbbfniaaGreat
section
namespace Go.Vc
open Go.ChangeShapes Go.WideShapes Go.RowKit
section
variable{H:Type}{enc:TypeId×Value->H}{P:Program}{w:World}
def Xy(enc:TypeId×Value->H)(P:Program)(w:World)(t:TypeId)(Q:List Ce->Prop):Prop:=
 ∀(n:Nat)(cs:List Value)(x:DataW H×List MemPlace),DataW.trod enc P w 0 (λ_=>true) true n t cs=some x->∃cs',cs=cs'.map Ce.v/\Q cs'
theorem Xy.mono{t:TypeId}{Q Q':List Ce->Prop}(h:Xy enc P w t Q)(hQ:∀cs,Q cs->Q' cs):Xy enc P w t Q':=λn cs x hx=>
 let⟨cs',h1,h2⟩:=h n cs x hx
 ⟨cs',h1,hQ _ h2⟩
theorem U6{a:Addr}{v:Value}(h:w.cell? a=some v):a.spot=none:=by
 unfold World.cell? at h;split at h
 ·split at h
  ·cases h
  ·rename_i hs;simpa using hs
 ·cases h
theorem U7{a:Addr}(h:a.spot=none)(i:Nat):a.add i=⟨a.block,a.off+i,none⟩:=by
 obtain⟨b,o,s⟩:=a;simp only at h;subst h;unfold Addr.add;by_cases hi:i=0
 ·subst hi;simp
 ·simp[hi]
end
section
variable{H:Type}{enc:TypeId×Value->H}{P:Program}
theorem BO(hl:laidOutB P=true){W W':World}(hb:Below W.heap.size W W'):∀{ts:List TypeId}{vs:List Value}{ds:List (DataW H)}{ps:List MemPlace},
 (ts.all λt=>P.readableRec t&&decide (t<P.types.size))=true->DataW.TrodAll enc P W 0 (λ_=>true) true ts vs ds ps->(∀x∈ps,x.block<W.heap.size)->∀sp:Nat->Bool,(∀p∈ps,sp p.block=true)->
 DataW.TrodAll enc P W' 0 sp true ts vs ds ps
 |[],_,_,_,_,h,_,_,_=>by
  obtain⟨rfl,rfl,rfl⟩:=trodAll_nil h;exact trodAll_mk0
 |t::ts,_,_,_,ht,h,cA,sp,hsp=>by
  obtain⟨v,vs,d,ds,p,q,rfl,rfl,rfl,h1,h2⟩:=trodAll_cons h;simp only[aHZ,aF6,aFP]at ht;exact⟨p,q,WideElems.Trod_stays hl ht.1.1 ht.1.2 h1 (λx hx=>hb.same (cA x (by simp[hx]))) (λx hx=>hsp x (by simp[hx])),BO hl hb (by simpa using ht.2) h2 (λx hx=>cA x (by simp[hx])) sp (λx hx=>hsp x (by simp[hx])),rfl⟩
theorem MD{f:Func}{s:ChangeSpec}{W W':World}{args:Array Value}{ds:List (DataW H)}{before:List MemPlace}{t:TypeId}
 (hl:laidOutB P=true)(hts:(f.params.toList.all λt=>P.readableRec t&&decide (t<P.types.size))=true)(hrt:f.resultTypes=#[t])(aeX:P.underlying t=some .bool)(hvs:s.vars=[])
 (hW:DataW.Whole enc P f.params.toList s.vars false W args.toList ds [] before)(hfa:(s.fn H (ds++[])).args=ds)(OR:(s.fn H (ds++[])).results=[.lit (.bool true)])(hfv:(s.fn H (ds++[])).vars=[])
 (hb:Below W.heap.size W W'):s.post enc P f false true false false W args (.bool true) W':=by
 have cA:∀p∈before,p.block<W.heap.size:=λp hp=>by simpa using hW.lt p hp
 have hW2:=hW
 obtain⟨p,q,hA,hV,rfl,hz,hn⟩:=hW
 rw[hvs]at hV
 obtain⟨_,rfl⟩:=trodVars_none hV
 simp only[aGP]at cA hz hW2
 have fV:∀sp:Nat->Bool,(∀x∈p,sp x.block=true)->DataW.TrodAll enc P W' 0 sp true f.params.toList args.toList (s.fn H (ds++[])).args p:=λsp hsp=>by
  rw[hfa];exact BO hl hb hts hA cA sp hsp
 have aeY:∀sp:Nat->Bool,DataW.TrodVars enc P W' sp s.vars (s.fn H (ds++[])).vars []:=λsp=>by rw[hvs,hfv];rfl
 have Ht:∀(b:Nat)(sp:Nat->Bool)(hd:Bool),DataW.TrodAll enc P W' b sp hd f.resultTypes.toList ((Value.bool true).resultList f.resultTypes.size) (s.fn H (ds++[])).results []:=λb sp hd=>by
  rw[OR,hrt];exact trodAll_cons_mk (shut_bool aeX _) trodAll_mk0
 refine⟨ds,[],p,[],p,[],hW2,Ht _ _ _,fV _ (λx hx=>by simpa using cA x hx),aeY _,hb.frame _,λ_=>?_⟩
 refine⟨ok_one hrt rfl (okWide_bool_mk aeX _),_,_,([]++p)++[],⟨[]++p,[],trodAll_append (fV _ (λ_ _=>rfl)) (Ht _ _ _),aeY _,rfl,?_,λh=>by cases h⟩,?_⟩
 ·intro b off hp
  have Ac:MemPlace.cell b off∈p:=by simpa using hp
  rw[hb.frozen (p:=⟨b,off,none⟩) (cA _ Ac)]
  exact hz b off Ac
 ·intro x hx _
  simpa using hx
end
end Go.Vc
end
section
namespace Go.Proofs.YtakpkjhmbbfniaaGreat
open Go.Vc Go.ChangeShapes
theorem U8{H:Type}{enc:TypeId×Value->H}{P:Program}{w:World}{t e b:Nat}{v:Value}{d:DataW H}{ps:List MemPlace}(ht:P.underlying t=some (.slice e))(he:P.underlying e=some (.int .u8))(hc:P.cellsOf e=1)
 (hv:Value.okWide P w .any b t v)(h:DataW.Trod enc P w 0 (λ_=>true) true t v d ps):∃s,v=Sl.v s/\Qb w.heap s:=by
 obtain⟨a0,l0,c0,rfl⟩:=Go.WideShapes.okWide_slice ht hv
 obtain⟨fO,hf⟩:=h
 rcases open_ints ht he hc hf with⟨h1,_⟩|⟨a,len,cap,zs,h1,_,hl,hm,hz,_,FE,hwf⟩
 ·simp[Value.cells]at h1
  obtain⟨rfl,rfl,rfl⟩:=h1
  exact⟨.nil,rfl,aFR _,λk hk=>by simp at hk⟩
 ·simp[Value.cells]at h1
  obtain⟨rfl,rfl,rfl⟩:=h1
  simp only[aIR]at hz
  rcases aGT c0 with e0|e0
  ·subst e0
   have:l0=0:=ab
   subst this
   obtain⟨bb,o,s⟩:=a
   cases s with
   |none=>exact⟨.mk bb o 0 0,rfl,aFR _,λk hk=>by simp at hk⟩
   |some sp=>exact⟨.BV bb o sp,rfl,aFR _,λk hk=>by simp at hk⟩
  ·have h0:=FE 0 ab
   have hsp:a.spot=none:=by
    have:=U6 h0;simpa[Addr.add]using this
   obtain⟨bb,o,s⟩:=a
   simp only at hsp
   subst hsp
   refine⟨.mk bb o l0 c0,rfl,hl,λk hk=>?_⟩
   simp only[Sl.eO]at hk
   have sa:k<zs.length:=ab
   have h2:=FE k sa
   have h3:=hwf (zs.getD k 0) (by rw[aGJ,List.getElem?_eq_getElem sa];simp)
   rw[Lit.wf,aF6,aFP,aFP]at h3
   refine⟨zs.getD k 0,h3.1,h3.2,?_⟩
   ·rw[U7 rfl,xA]at h2
    simpa using h2
end Go.Proofs.YtakpkjhmbbfniaaGreat
end
