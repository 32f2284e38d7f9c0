/- Part of a proof, joined by a program: Mv2 Mut Mut2 Ms3 Ms4 Ms5. -/
import Derived.Test.YtpggcodlaajceaaGreatT06
set_option linter.unusedVariables false
set_option linter.unusedSimpArgs false
namespace Go.Proofs.YtpggcodlaajceaaGreat
open Go.Vc
section
structure Cur (im:Image) (s:St) (fs:List Frame) (f:Frame) (x:Instr):Prop where
 ok:StateOk im s
 run:s.status=3
 fr:s.frames=fs ++ [f]
 cur:q14 im f=x
 fit:∀ g ∈ s.frames,∀ w ∈ g.regs,w<=9223372036854775807
section
variable {im:Image} {s:St} {fs:List Frame} {f:Frame} {x:Instr}
theorem Cur.F (c:Cur im s fs f x):FrameOk im f:=c.ok.frames f (by rw [c.fr]; simp)
theorem Cur.fitF (c:Cur im s fs f x):∀ w ∈ f.regs,w<=9223372036854775807:=c.fit f (by rw [c.fr]; simp)
theorem Cur.I (c:Cur im s fs f x):∃ p,im.procs[f.proc.toNat]?=some p/\q0y im f.proc=p/\ProcOk im p/\p.code[f.pc.toNat]?=some x/\InstrOk im p f.pc.toNat x:=by
 have:=c.F.instr c.ok.image
 rwa [c.cur] at this
theorem Cur.lens (c:Cur im s fs f x):f.regs.length=f.own.length/\f.held.length=f.own.length/\1<=f.own.length/\f.own.length<=2000:=by
 obtain ⟨p,_,e,hp,_,_⟩:=c.I
 have h1:=c.F.lr
 have h2:=c.F.lo
 have h3:=c.F.lh
 rw [e] at h1 h2 h3
 have:=hp.regs
 omega
theorem Cur.arg (c:Cur im s fs f x):∀ y ∈ x.args,0<=y/\y < f.regs.length:=fun y hy=>by
 obtain ⟨p,_,e,_,_,hI⟩:=c.I
 have h1:=c.F.lr
 rw [e] at h1
 have:=hI.args y hy
 omega
theorem Cur.dst (c:Cur im s fs f x):0<=x.dst/\x.dst < f.own.length:=by
 obtain ⟨p,_,e,_,_,hI⟩:=c.I
 have h1:=c.F.lo
 rw [e] at h1
 have:=hI.dst
 omega
theorem Cur.call (c:Cur im s fs f x):CallOk im x:=let ⟨_,_,_,_,_,hI⟩:=c.I; hI.call
theorem Cur.opc (c:Cur im s fs f x):0<=x.op/\x.op<=24/\x.op ≠ 7/\x.op ≠ 8/\x.op ≠ 12/\x.op ≠ 13:=by
 obtain ⟨p,_,_,hP,_,hI⟩:=c.I
 exact ((qly hP.regs.2.2 c.ok.image.sigs.len.2 fun q hq=>(c.ok.image.sigs.each q hq).1).1 hI).1
theorem Cur.args4 (c:Cur im s fs f x):x.args.length<=4/\((x.op=5 \/ x.op=14 \/ x.op=15 \/ x.op=18 \/ x.op=23 \/ x.op=19 \/ x.op=20 \/ x.op=21)->x.args.length=1)/\((x.op=1 \/ x.op=2 \/ x.op=3 \/ x.op=4 \/ x.op=11)->x.args.length=2) /\
  ((x.op=16 \/ x.op=17)->1<=x.args.length)/\(x.op=6->0<=x.into/\x.into<=f.held.length/\0<=x.num/\x.num < 12/\x.args.length<=3)/\(x.op=10->0<=x.num/\x.num < 4/\x.args.length<=3)/\(x.op=0->-999<=x.num/\x.num<=999):=by
 obtain ⟨p,_,e,hP,_,hI⟩:=c.I
 have hOp:=hI.op
 have h1:=c.F.lh
 rw [e] at h1
 have hsig:=c.ok.image.sigs
 have h12:(q17 im.decls).length<=12:=by
  have:=fc_12 hsig.types im.decls.length
  rw [fc_all _ _ (Nat.le_refl _)] at this; exact this
 have h3:=qm4 hsig.types x.num
 unfold OpOk at hOp
 by_cases e0:x.op=0
 ·rw [if_pos e0] at hOp; omega
 rw [if_neg e0] at hOp
 by_cases e1:x.op=1 \/ x.op=2 \/ x.op=3 \/ x.op=4 \/ x.op=11
 ·rw [if_pos e1] at hOp; omega
 rw [if_neg e1] at hOp
 by_cases e2:x.op=5 \/ x.op=14 \/ x.op=15 \/ x.op=18 \/ x.op=23
 ·rw [if_pos e2] at hOp; omega
 rw [if_neg e2] at hOp
 by_cases e3:x.op=6
 ·rw [if_pos e3] at hOp; omega
 rw [if_neg e3] at hOp
 by_cases e4:x.op=9 \/ x.op=24
 ·rw [if_pos e4] at hOp
  obtain ⟨q,h5,h6,h7⟩:=hOp
  have:=(hsig.each q (q05 h6)).1; omega
 rw [if_neg e4] at hOp
 by_cases e5:x.op=10
 ·rw [if_pos e5] at hOp
  obtain ⟨⟨q,h5,h6,h7⟩,_⟩:=hOp
  have:=(hsig.each q (q05 h6)).1
  have:=q04 h6
  have:=hsig.len; omega
 rw [if_neg e5] at hOp
 by_cases e6:x.op=16 \/ x.op=17
 ·rw [if_pos e6] at hOp; omega
 rw [if_neg e6] at hOp
 by_cases e7:x.op=19
 ·rw [if_pos e7] at hOp; omega
 rw [if_neg e7] at hOp
 by_cases e8:x.op=20
 ·rw [if_pos e8] at hOp; omega
 rw [if_neg e8] at hOp
 by_cases e9:x.op=22
 ·rw [if_pos e9] at hOp; omega
 rw [if_neg e9] at hOp
 by_cases e10:x.op=21
 ·rw [if_pos e10] at hOp
  have:=hOp.1; omega
 rw [if_neg e10] at hOp; exact hOp.elim
theorem Cur.keptAt (c:Cur im s fs f x):∀ w ∈ f.held,w ≠ 0->1000<=w/\∃ d,s.heap[ix w]?=some d/\d.count < 0:=fun w hw hne=>by
 have hp:1000<=w:=by have:=c.F.held w hw; omega
 refine ⟨hp,?_⟩
 have hh1:0 < holds s.frames (ix w):=by
  rw [c.fr,q1d,q2j]
  have:=qah fs (ix w)
  have:=q8w (l:=f.held) (a:=ix w) (by rw [ptr_ix hp]; exact hw)
  omega
 exact Classical.byContradiction fun hn=>by have:=c.ok.unkept (ix w) hn; omega
theorem Cur.ownb (c:Cur im s fs f x):∀ o ∈ f.own,0<=o/\o<=999999:=fun o ho=>by
 have hnn:=c.F.ownNN o ho
 refine ⟨hnn,?_⟩
 rcases Classical.em (0 < o) with hp | hp
 ·obtain ⟨k,hk⟩:=List.mem_iff_getElem?.1 ho
  have:=c.lens
  obtain ⟨w,hw⟩:=q00 (l:=f.regs) (k:=k) (by have:=q04 hk; omega)
  have h1:=(c.F.own k o w hk hw).2 hp
  have h2:=qmt c.F.ownNN hw hk (a:=ix w) (by rw [ptr_ix h1])
  have h3:o<=owns s.frames (ix w):=by
   rw [c.fr,q1u,q3w]
   have:=qkc (fs:=fs) (fun g hg=>c.ok.frames g (by rw [c.fr]; exact List.mem_append_left _ hg)) (ix w)
   omega
  obtain ⟨d,hd,hdp⟩:=c.ok.heap.lv (ix w) (by omega)
  have h4:=c.ok.heap.ex _ d hd hdp
  have h5:=q60 s.heap (ix w)
  have h6:=(c.ok.heap.cell d (q05 hd)).hi
  omega
 ·omega
theorem Cur.takenIn (c:Cur im s fs f x):∀ r ∈ taken im x,0<=r/\r < f.regs.length:=fun r hr=>c.arg r (qe2 hr)
end
set_option maxHeartbeats 1000000 in
theorem qpk {m:Mem} {mb:Nat} {d p out hp fr:Sl} {im:Image} {s:St} (V:RV m mb 2 d p out hp fr im s) {fs:List Frame} {f:Frame} {x:Instr} (C:Cur im s fs f x) {r o h a j ow:Sl} (hr:q03 m r f.regs) (hh:q03 m h f.held) (ha:q03 m a x.args) {own:List Int} (how:q03 m ow own) (hol:own.length=f.own.length) :
  q0o Tryz.prog q45 [vp mb 0,fv f r o h,xv x a j,Sl.v ow] m (MayRun im s f x own):=by
 apply qci (mb,0)
 simp -zeta only [q09,q0a,rI,rS,rB,cI,cB,cS,dI,dB,dS,gk,rg]
 intro m1 m2
 have hx2:Ext m m2:=((Ext.refl m).pushed _).pushed _
 have hl:∀ b ∈ [m1.size,m.size],b < m2.size:=by simp [m2,m1]; omega
 have hB1:Blk m2 m1.size q2d [.i x.op,.i x.dst,.i x.num,.i x.into,.s a,.s j]:=Blk.push m1 _ _
 have hB0:Blk m2 m.size q1m [.i f.proc,.i f.pc,.i f.dst,.s r,.s o,.s h]:=(Blk.push m _ _).ext (Ext.push m1 _)
 have hal:=ha.len
 have hrl:=hr.len
 have hhl:=hh.len
 have howl:=how.len
 have hd:=C.dst
 have hlens:=C.lens
 have h4:=C.args4
 have hI:=C.ok.heap
 clear_value m2
 refine ⟨fun m'=>Ext m2 m'/\(∀ o ∈ own,0<=o)/\(Sets x.op->at' own x.dst<=0),?_,?_⟩
 ·refine (qfq (how.ext hx2)).thenS (Ext.refl _) hl fun b m3 hb h3 _=>⟨b,rfl,fun hbt=>retF (fun hM=>nb hb hbt hM.nn) (hx2.trans h3),fun hbf=>?_⟩
  refine (qid _ _).thenS h3 hl fun b2 m4 hb2 h5 h24=>⟨b2,rfl,fun hbt=>?_,fun hb2f=>⟨h24,yb hb hbf,fun hs=>absurd hs (fb hb2 hb2f)⟩⟩
  refine ⟨hd.1,by omega,at' own x.dst,(how.ext (hx2.trans h24)).atI hd.1 (by omega),fun h6=>retF (fun hM=>?_) (hx2.trans h24),fun h6=>⟨h24,yb hb hbf,fun _=>by simpa using h6⟩⟩
  have:=hM.dst (hb2.1 hbt); simp at h6; omega
 ·rintro m3 ⟨h3,hnn,hdst⟩
  have hx3:=hx2.trans h3
  have hV:=V.ext hx3
  have mk:∀ {P:Prop},(MayRun im s f x own->P)->(P->MayRun im s f x own)->(MayRun im s f x own ↔ P):=fun h1 h2=>⟨h1,h2⟩
  have arg0:1<=x.args.length->0<=at' x.args 0/\at' x.args 0 < f.regs.length:=fun h1=>C.arg _ (q18 (by omega) (by omega))
  have ga:∀ {m'},Ext m m'->1<=x.args.length->gcell m' a.blk (a.off+Int.toNat (0:Int)*1)=some (vi (at' x.args 0)):=fun hx h1=>(ha.ext hx).atI (by omega) (by omega)
  have gr:∀ {m'},Ext m m'->1<=x.args.length->gcell m' r.blk (r.off+Int.toNat (at' x.args 0)*1)=some (vi (at' f.regs (at' x.args 0))):=fun hx h1=>(hr.ext hx).atI (arg0 h1).1 (arg0 h1).2
  refine ⟨fun e=>?_,fun e1=>?_⟩
  ·simp only [Bool.or_eq_true,beq_iff_eq] at e
   refine (qjc (hr.ext hx3) (ha.ext hx3) C.arg).thenS h3 hl fun b m4 hb h5 h24=>⟨b,rfl,retB (hb.trans ?_) (hx2.trans h24)⟩
   refine ⟨fun hp=>?_,fun h=>h.ints (by omega)⟩
   refine ⟨hnn,hdst,?_,?_,?_,?_,?_,?_,?_,?_,?_,?_,?_⟩ <;> intro e' <;> first | (exfalso; omega) | exact hp
  simp only [Bool.or_eq_false_iff,beq_eq_false_iff_ne] at e1
  refine ⟨fun e=>?_,fun e2=>?_⟩
  ·simp only [beq_iff_eq] at e
   have hin:=h4.2.2.2.2.1 e
   refine (qmc hV (hh.ext hx3) (ha.ext hx3) ⟨hin.1,hin.2.1⟩ (by omega) (fun w hw hne=>by obtain ⟨h1,d',hd',_⟩:=C.keptAt w hw hne; exact ⟨h1,d',hd'⟩)).thenS h3 hl fun b m4 hb h5 h24=>⟨b,rfl,retB (hb.trans ?_) (hx2.trans h24)⟩
   refine ⟨fun hp=>?_,fun h=>h.place e⟩
   refine ⟨hnn,hdst,?_,?_,?_,?_,?_,?_,?_,?_,?_,?_,?_⟩ <;> intro e' <;> first | (exfalso; omega) | exact hp
  simp only [beq_eq_false_iff_ne] at e2
  refine ⟨fun e=>?_,fun e3=>?_⟩
  ·simp only [beq_iff_eq] at e
   refine (qd6 hV (hr.ext hx3) (ha.ext hx3) C.F C.fitF C.arg C.call (Or.inl e)).thenS h3 hl fun b m4 hb h5 h24=>⟨b,rfl,retB (hb.trans ?_) (hx2.trans h24)⟩
   refine ⟨fun hp=>?_,fun h=>h.lent (Or.inl e)⟩
   refine ⟨hnn,hdst,?_,?_,?_,?_,?_,?_,?_,?_,?_,?_,?_⟩ <;> intro e' <;> first | (exfalso; omega) | exact hp
  simp only [beq_eq_false_iff_ne] at e3
  refine ⟨fun e=>?_,fun e4=>?_⟩
  ·simp only [beq_iff_eq] at e
   refine (qd6 hV (hr.ext hx3) (ha.ext hx3) C.F C.fitF C.arg C.call (Or.inr e)).thenS h3 hl fun b m4 hb h5 h24=>⟨b,rfl,fun hbt=>?_,fun hbf=>retF (fun hM=>fb hb hbf (hM.lent (Or.inr e))) (hx2.trans h24)⟩
   refine (q50 (how.ext (hx2.trans h24))).thenS h24 hl fun b2 m5 hb2 h6 h25=>⟨b2,rfl,fun hb2t=>?_,fun hb2f=>retF (fun hM=>fb hb2 hb2f (hM.zero (Or.inl e)).1) (hx2.trans h25)⟩
   refine (q50 (hh.ext (hx2.trans h25))).thenS h25 hl fun b3 m6 hb3 h7 h26=>⟨b3,rfl,retB (hb3.trans ?_) (hx2.trans h26)⟩
   refine ⟨fun hp=>?_,fun h=>(h.zero (Or.inl e)).2⟩
   refine ⟨hnn,hdst,?_,?_,?_,?_,?_,?_,?_,?_,?_,?_,?_⟩ <;> intro e' <;> first | (exfalso; omega) | exact hb.1 hbt | exact ⟨hb2.1 hb2t,hp⟩
  simp only [beq_eq_false_iff_ne] at e4
  refine ⟨fun e=>?_,fun e5=>?_⟩
  ·simp only [beq_iff_eq] at e
   have hone:=h4.2.1 (by omega)
   refine (q50 (how.ext hx3)).thenS h3 hl fun b2 m5 hb2 h6 h25=>⟨b2,rfl,fun hb2t=>?_,fun hb2f=>retF (fun hM=>fb hb2 hb2f (hM.zero (Or.inr e)).1) (hx2.trans h25)⟩
   refine (q50 (hh.ext (hx2.trans h25))).thenS h25 hl fun b3 m6 hb3 h7 h26=>⟨b3,rfl,fun hb3t=>?_,fun hb3f=>retF (fun hM=>fb hb3 hb3f (hM.zero (Or.inr e)).2) (hx2.trans h26)⟩
   have hx6:=hx2.trans h26
   have hV6:=V.ext hx6
   have hfl:=hV6.frames.len
   have fin:∀ hp:1 < s.frames.length \/ at' f.regs (at' x.args 0) < 1000,MayRun im s f x own:=fun hp=>by
    refine ⟨hnn,hdst,?_,?_,?_,?_,?_,?_,?_,?_,?_,?_,?_⟩ <;> intro e' <;> first | (exfalso; omega) | exact ⟨hb2.1 hb2t,hb3.1 hb3t⟩ | exact hp
   refine ⟨fr,hV6.framesc,fun h8=>retT (fin (Or.inl (by simp at h8; omega))) hx6,fun h8=>?_⟩
   refine ⟨by omega,by omega,_,ga hx6 (by omega),(arg0 (by omega)).1,by have:=(arg0 (by omega)).2; omega,_,gr hx6 (by omega),(q1b _ _).thenS h26 hl fun b4 m7 hb4 h9 h27=>⟨b4,rfl,retB ?_ (hx2.trans h27)⟩⟩
   simp at h8
   constructor
   ·intro hb5
    exact fin (Or.inr (by have:=nb hb4 hb5; omega))
   ·intro hM
    rcases hM.ret e with h10 | h10
    ·omega
    ·have:¬ b4=true:=fun hb6=>by have:=hb4.1 hb6; omega
     simpa using this
  simp only [beq_eq_false_iff_ne] at e5
  refine ⟨fun e=>?_,fun e6=>?_⟩
  ·simp only [beq_iff_eq] at e
   have hone:=h4.2.2.1 (by omega)
   have h0:=arg0 (by omega)
   refine ⟨by omega,by omega,_,ga hx3 (by omega),h0.1,by omega,_,gr hx3 (by omega),(qmb hV C.ok.image hI (C.F.regRange h0.1 h0.2 C.fitF)).thenS h3 hl fun b m4 hb h5 h24=>⟨b,rfl,retB (hb.trans ?_) (hx2.trans h24)⟩⟩
   refine ⟨fun hp=>?_,fun h=>h.apply e⟩
   refine ⟨hnn,hdst,?_,?_,?_,?_,?_,?_,?_,?_,?_,?_,?_⟩ <;> intro e' <;> first | (exfalso; omega) | exact hp
  simp only [beq_eq_false_iff_ne] at e6
  refine ⟨fun e=>?_,fun e7=>?_⟩
  ·simp only [beq_iff_eq] at e
   have hone:=h4.2.1 (by omega)
   have h0:=arg0 (by omega)
   refine ⟨by omega,by omega,_,ga hx3 (by omega),h0.1,by omega,_,gr hx3 (by omega),hp,hV.heapc,(q2v hV.heap (C.F.regRange h0.1 h0.2 C.fitF)).thenS h3 hl fun b m4 hb h5 h24=>⟨b,rfl,fun hbt=>?_,fun hbf=>retF (fun hM=>fb hb hbf (hM.dup e).1) (hx2.trans h24)⟩⟩
   have hlv:=hb.1 hbt
   refine (q1x (V.ext (hx2.trans h24)) hlv.1 (q0i hlv).1).thenS h24 hl ?_
   rintro _ m5 ⟨fl,rfl,hfl,h6⟩
   refine ⟨h6,_,_,_,rfl,retB ?_ (hx2.trans (h24.trans h6))⟩
   simp only [decide_eq_true_eq]
   refine ⟨fun hp=>?_,fun h=>(h.dup e).2⟩
   refine ⟨hnn,hdst,?_,?_,?_,?_,?_,?_,?_,?_,?_,?_,?_⟩ <;> intro e' <;> first | (exfalso; omega) | exact ⟨hlv,hp⟩
  simp only [beq_eq_false_iff_ne] at e7
  refine ⟨fun e=>?_,fun e8=>?_⟩
  ·simp only [beq_iff_eq] at e
   have hone:=h4.2.1 (by omega)
   have h0:=arg0 (by omega)
   refine ⟨by omega,by omega,_,ga hx3 (by omega),h0.1,by omega,_,gr hx3 (by omega),(q1b _ _).thenS h3 hl fun b m4 hb h5 h24=>⟨b,rfl,retB (hb.trans ?_) (hx2.trans h24)⟩⟩
   refine ⟨fun hp=>?_,fun h=>h.drop e⟩
   refine ⟨hnn,hdst,?_,?_,?_,?_,?_,?_,?_,?_,?_,?_,?_⟩ <;> intro e' <;> first | (exfalso; omega) | exact hp
  simp only [beq_eq_false_iff_ne] at e8
  refine ⟨fun e=>?_,fun e9=>?_⟩
  ·simp only [Bool.or_eq_true,beq_iff_eq] at e
   refine (qo0 hV hI (hr.ext hx3) (hh.ext hx3) (ha.ext hx3) C.F C.fitF C.arg ⟨h4.2.2.2.1 e,h4.1⟩ e).thenS h3 hl fun b m4 hb h5 h24=>⟨b,rfl,retB (hb.trans ?_) (hx2.trans h24)⟩
   refine ⟨fun hp=>?_,fun h=>h.open' e⟩
   refine ⟨hnn,hdst,?_,?_,?_,?_,?_,?_,?_,?_,?_,?_,?_⟩ <;> intro e' <;> first | (exfalso; omega) | exact hp
  simp only [Bool.or_eq_false_iff,beq_eq_false_iff_ne] at e9
  refine ⟨fun e=>?_,fun e10=>?_⟩
  ·simp only [beq_iff_eq] at e
   have hone:=h4.2.1 (by omega)
   have h0:=arg0 (by omega)
   refine ⟨hp,hV.heapc,by omega,by omega,_,ga hx3 (by omega),h0.1,by omega,_,gr hx3 (by omega),(q2v hV.heap (C.F.regRange h0.1 h0.2 C.fitF)).thenS h3 hl fun b m4 hb h5 h24=>⟨b,rfl,fun hbt=>?_,fun hbf=>retF (fun hM=>fb hb hbf (hM.load e).1) (hx2.trans h24)⟩⟩
   have hlv:=hb.1 hbt
   have hx4:=hx2.trans h24
   refine ⟨by omega,by omega,_,ga hx4 (by omega),h0.1,by omega,_,gr hx4 (by omega),(q1x (V.ext hx4) hlv.1 (q0i hlv).1).thenS h24 hl ?_⟩
   rintro _ m5 ⟨fl,rfl,hfl,h6⟩
   have hfll:=hfl.len
   refine ⟨h6,_,_,_,rfl,h6.keepG ((hB1.ext h24).get 2),retB ?_ (hx2.trans (h24.trans h6))⟩
   simp only [decide_eq_true_eq]
   refine ⟨fun hp=>?_,fun h=>by have:=(h.load e).2; omega⟩
   refine ⟨hnn,hdst,?_,?_,?_,?_,?_,?_,?_,?_,?_,?_,?_⟩ <;> intro e' <;> first | (exfalso; omega) | exact ⟨hlv,by omega⟩
  simp only [beq_eq_false_iff_ne] at e10
  refine ⟨fun e=>?_,fun e11=>?_⟩
  ·simp only [beq_iff_eq] at e
   have hone:=h4.2.1 (by omega)
   have h0:=arg0 (by omega)
   refine ⟨hp,hV.heapc,by omega,by omega,_,ga hx3 (by omega),h0.1,by omega,_,gr hx3 (by omega),(q2v hV.heap (C.F.regRange h0.1 h0.2 C.fitF)).thenS h3 hl fun b m4 hb h5 h24=>⟨b,rfl,fun hbt=>?_,fun hbf=>retF (fun hM=>fb hb hbf (hM.switch e).1) (hx2.trans h24)⟩⟩
   have hlv:=hb.1 hbt
   have hx4:=hx2.trans h24
   have hV4:=V.ext hx4
   refine ⟨d,hV4.decls,by omega,by omega,_,ga hx4 (by omega),h0.1,by omega,_,gr hx4 (by omega),(qet hV4.image.decls C.ok.image.sigs.types _).thenS h24 hl ?_⟩
   rintro _ m5 ⟨cs,rfl,hcs,h6⟩
   have h25:=h24.trans h6
   refine ⟨h6,cs,rfl,h6.keepG (gr hx4 (by omega)),h6.keepG (ga hx4 (by omega)),h6.keepG ((hB1.ext h24).get 4),h6.keepG ((hB0.ext h24).get 3),(q1x (V.ext (hx2.trans h25)) hlv.1 (q0i hlv).1).thenS h25 hl ?_⟩
   rintro _ m6 ⟨fl,rfl,hfl,h7⟩
   refine ⟨h7,_,_,_,rfl,(qj5 (hcs.ext h7) _).thenS (h25.trans h7) hl fun b2 m7 hb2 h8 h27=>⟨b2,rfl,retB (hb2.trans ?_) (hx2.trans h27)⟩⟩
   refine ⟨fun hp=>?_,fun h=>(h.switch e).2⟩
   refine ⟨hnn,hdst,?_,?_,?_,?_,?_,?_,?_,?_,?_,?_,?_⟩ <;> intro e' <;> first | (exfalso; omega) | exact ⟨hlv,hp⟩
  ·simp only [beq_eq_false_iff_ne] at e11
   refine retT ?_ hx3
   refine ⟨hnn,hdst,?_,?_,?_,?_,?_,?_,?_,?_,?_,?_,?_⟩ <;> intro e' <;> exfalso <;> omega
end
section
structure Chg (p:Nat->Prop) (ro:Nat->Nat) (m:Mem) (ro':Nat->Nat) (m':Mem):Prop where
 size:m.size<=m'.size
 role:∀ b,b < m.size->ro' b=ro b
 new:∀ b,m'.size<=b->ro' b=0
 keep:∀ b,b < m.size->¬ p (ro b)->m'[b]?=m[b]?
theorem Chg.refl (p:Nat->Prop) {ro:Nat->Nat} {m:Mem} (h:∀ b,m.size<=b->ro b=0):Chg p ro m ro m:=⟨Nat.le_refl _,fun _ _=>rfl,h,fun _ _ _=>rfl⟩
theorem Chg.trans {p:Nat->Prop} {r1 r2 r3:Nat->Nat} {m1 m2 m3:Mem} (h:Chg p r1 m1 r2 m2) (k:Chg p r2 m2 r3 m3):Chg p r1 m1 r3 m3 :=
 ⟨Nat.le_trans h.size k.size,fun b hb=>by rw [k.role b (Nat.lt_of_lt_of_le hb h.size),h.role b hb],k.new,fun b hb hp=>by
  rw [k.keep b (Nat.lt_of_lt_of_le hb h.size) (by rw [h.role b hb]; exact hp),h.keep b hb hp]⟩
theorem Chg.mono {p q:Nat->Prop} {ro ro':Nat->Nat} {m m':Mem} (h:Chg p ro m ro' m') (hpq:∀ k,p k->q k):Chg q ro m ro' m':=⟨h.size,h.role,h.new,fun b hb hq=>h.keep b hb fun hp=>hq (hpq _ hp)⟩
theorem Chg.ofExt (p:Nat->Prop) {ro:Nat->Nat} {m m':Mem} (h:Ext m m') (hn:∀ b,m.size<=b->ro b=0):Chg p ro m ro m':=⟨h.size,fun _ _=>rfl,fun b hb=>hn b (Nat.le_trans h.size hb),fun b hb _=>h.same b hb⟩
theorem Chg.scells {p:Nat->Prop} {ro:Nat->Nat} {m:Mem} (hn:∀ b,m.size<=b->ro b=0) {b:Nat} (hb:p (ro b)) (o:Nat) (l:List Ce):Chg p ro m ro (scells m b o l) :=
 ⟨Nat.le_of_eq (q02 _ _ _ _).symm,fun _ _=>rfl,fun c hc=>hn c (by rw [q02] at hc; exact hc),fun c _ hp=>q0n _ _ _ _ fun e=>hp (e ▸ hb)⟩
abbrev HC:=Chg (fun k=>k=3 \/ k=5 \/ k=6)
abbrev To:=Chg (fun k=>k ≠ 0/\k ≠ 9)
theorem Chg.base {ro ro':Nat->Nat} {m0 m m':Mem} (h:To ro m ro' m') (hx:Ext m0 m) (h0:∀ b,b < m0.size->ro b=0):Ext m0 m'/\∀ b,b < m0.size->ro' b=0:=by
 have hs:=hx.size
 exact ⟨⟨Nat.le_trans hs h.size,fun b hb=>by rw [h.keep b (by omega) (by simp [h0 b hb]),hx.same b hb]⟩,fun b hb=>by rw [h.role b (by omega),h0 b hb]⟩
theorem Chg.sam {ro ro':Nat->Nat} {m m':Mem} (h:To ro m ro' m') {l:List Nat} (hl:∀ b ∈ l,b < m.size/\ro b=0):Sam l m m':=fun b hb=>h.keep b (hl b hb).1 (by simp [(hl b hb).2])
structure Arr (ro:Nat->Nat) (m:Mem) (e sz k:Nat) (s:Sl) (l:List Ce):Prop where
 len:l.length=s.len*sz
 le:s.len<=s.cap
 at':s.cap=0 \/ ∃ b c tail,s=.mk b 0 s.len c/\ro b=k/\Blk m b e (l ++ tail)/\(l ++ tail).length=c*sz
section
variable {ro ro':Nat->Nat} {m m':Mem} {e sz k:Nat} {s:Sl} {l:List Ce}
theorem Arr.empty (h:Arr ro m e sz k s l) (h0:s.cap=0):l=[]/\s.len=0:=by
 have:=h.le
 have h1:s.len=0:=by omega
 exact ⟨List.length_eq_zero_iff.1 (by rw [h.len,h1]; simp),h1⟩
theorem Arr.row (h:Arr ro m e sz k s l):rowIs m s.blk s.off l:=by
 rcases h.at' with h0 | ⟨b,c,tail,h1,h2,h3,h4⟩
 ·rw [(h.empty h0).1]; intro i c hc; simp at hc
 ·rw [h1]; exact h3.row.pre
theorem Arr.wr (h:Arr ro m e sz k s l) {o n:Nat} (hn:o+n<=l.length):wrOk m s.blk (s.off+o) n:=by
 rcases h.at' with h0 | ⟨b,c,tail,h1,h2,h3,h4⟩
 ·rw [(h.empty h0).1] at hn; intro j hj; simp at hn; omega
 ·rw [h1]; simp only [Sl.blk_mk,Sl.off_mk,Nat.zero_add]; exact h3.wrOk (by simp; omega)
theorem Arr.keep (h:Arr ro m e sz k s l) (hb:s.cap ≠ 0->m'[s.blk]?=m[s.blk]?) (hr:s.cap ≠ 0->ro' s.blk=ro s.blk):Arr ro' m' e sz k s l:=by
 refine ⟨h.len,h.le,?_⟩
 rcases h.at' with h0 | ⟨b,c,tail,h1,h2,h3,h4⟩
 ·exact Or.inl h0
 ·by_cases hc:s.cap=0
  ·exact Or.inl hc
  ·have e1:=hb hc
   have e2:=hr hc
   rw [h1] at e1 e2
   exact Or.inr ⟨b,c,tail,h1,e2.trans h2,h3.congr e1,h4⟩
theorem Arr.blk (h:Arr ro m e sz k s l) (hc:s.cap ≠ 0):s.blk < m.size/\ro s.blk=k:=by
 rcases h.at' with h0 | ⟨b,c,tail,h1,h2,h3,h4⟩
 ·exact absurd h0 hc
 ·rw [h1]; exact ⟨h3.lt,h2⟩
theorem Arr.chg {p:Nat->Prop} (h:Arr ro m e sz k s l) (hc:Chg p ro m ro' m') (hk:¬ p k):Arr ro' m' e sz k s l :=
 h.keep (fun h0=>hc.keep _ (h.blk h0).1 (by rw [(h.blk h0).2]; exact hk)) (fun h0=>hc.role _ (h.blk h0).1)
theorem Arr.set (h:Arr ro m e sz k s l) {o:Nat} {new:List Ce} (hn:o+new.length<=l.length):Arr ro (scells m s.blk (s.off+o) new) e sz k s (setL l o new):=by
 refine ⟨by rw [q3y]; exact h.len,h.le,?_⟩
 rcases h.at' with h0 | ⟨b,c,tail,h1,h2,h3,h4⟩
 ·exact Or.inl h0
 ·refine Or.inr ⟨b,c,tail,h1,h2,?_,by simp only [List.length_append,q3y] at h4 ⊢; exact h4⟩
  have e1:s.blk=b:=by rw [h1]; rfl
  have e2:s.off=0:=by rw [h1]; rfl
  rw [e1,e2,Nat.zero_add]
  have:=Blk.scells (m:=m) (o:=o) (r:=new) h3
  have e3:setL (l ++ tail) o new=setL l o new ++ tail:=by
   have hl':(setL l o new).length=l.length:=q3y _ _ _
   apply List.ext_getElem?
   intro i
   rcases Nat.lt_or_ge i l.length with hi | hi
   ·have r1:(setL l o new ++ tail)[i]?=(setL l o new)[i]?:=List.getElem?_append_left (by rw [hl']; exact hi)
    rw [r1,qdf,qdf]
    simp only [List.length_append]
    by_cases h5:o<=i/\i < o+new.length
    ·rw [if_pos (by omega),if_pos (by omega)]
    ·rw [if_neg (by omega),if_neg (by omega),List.getElem?_append_left hi]
   ·have r1:(setL l o new ++ tail)[i]?=tail[i - l.length]?:=by rw [List.getElem?_append_right (by rw [hl']; exact hi),hl']
    rw [r1,qdf,if_neg (by omega),List.getElem?_append_right hi]
  rw [e3] at this; exact this
theorem Arr.cut (h:Arr ro m e sz k s l) {n:Nat} (hn:n<=s.len):Arr ro m e sz k (s.cut 0 n sz) (l.take (n*sz)):=by
 have hle:=h.le
 have hlen:=h.len
 rcases h.at' with h0 | ⟨b,c,tail,h1,h2,h3,h4⟩
 ·have hn0:n=0:=by omega
  cases s with
  | nil=>exact ⟨by simp [hn0,Sl.cut],by simp [Sl.cut],Or.inl rfl⟩
  | emp b o sp=>exact ⟨by simp [hn0,Sl.cut],by simp [Sl.cut],Or.inl rfl⟩
  | mk b o len cap=>simp at h0; subst h0; exact ⟨by simp [hn0,Sl.cut],by simp [hn0,Sl.cut],Or.inl (by simp [Sl.cut])⟩
 ·rw [h1]
  have hlc:s.len<=c:=by rw [h1] at hle; exact hle
  refine ⟨?_,by simp [Sl.cut]; omega,Or.inr ⟨b,c,l.drop (n*sz) ++ tail,?_,h2,?_,?_⟩⟩
  ·simp only [Sl.cut,Sl.len_mk,List.length_take,Nat.sub_zero]
   have:n*sz<=s.len*sz:=Nat.mul_le_mul_right _ hn
   omega
  ·simp [Sl.cut]
  ·rw [← List.append_assoc,List.take_append_drop]; exact h3
  ·rw [← List.append_assoc,List.take_append_drop]; exact h4
end
theorem Arr.append {ro:Nat->Nat} {m:Mem} {e k:Nat} {zs:List Ce} {bytes:Nat} {s x:Sl} {l new:List Ce} {K:Sl->Mem->Prop} (h:Arr ro m e zs.length k s l) (hnew:∀ b,m.size<=b->ro b=0)
  (hn:new.length=x.len*zs.length) (hr:rowIs m x.blk x.off new) (hb:(s.len+x.len)*bytes<=140737488355328)
  (hk:∀ ro' r m',Arr ro' m' e zs.length k r (l ++ new)->Chg (fun j=>j=k) ro m ro' m'->K r m'):appC m e zs bytes s x K:=by
 have hle:=h.le
 refine ⟨new,hn,hr,fun hfit=>?_,fun hgt=>⟨hb,l,h.len,h.row,fun c hc=>?_⟩⟩
 ·rcases h.at' with h0 | ⟨b,c,tail,h1,h2,h3,h4⟩
  ·have hx0:x.len=0:=by omega
   have hn0:new=[]:=List.length_eq_zero_iff.1 (by rw [hn,hx0]; simp)
   subst hn0
   refine ⟨fun j hj=>by simp at hj,?_⟩
   have hK:=hk ro s _ (by rw [List.append_nil]; exact h) (Chg.refl _ hnew)
   cases s with
   | nil=>exact hK
   | emp b o sp=>exact hK
   | mk b o l1 c=>simp only [hx0,Nat.add_zero]; exact hK
  ·have hlen:=h.len
   have hcap:s.cap=c:=by rw [h1]; rfl
   rw [h1]
   simp only [Sl.blk_mk,Sl.off_mk,Sl.len_mk,Nat.zero_add]
   simp only [List.length_append] at h4
   have hfit2:new.length<=tail.length:=by
    have h6:(s.len+x.len)*zs.length<=c*zs.length:=Nat.mul_le_mul_right _ (by omega)
    rw [Nat.add_mul] at h6
    omega
   refine ⟨h3.wrOk (by simp only [List.length_append]; omega),?_⟩
   have hB:=Blk.scells (m:=m) (b:=b) (e:=e) (r:=new) (o:=s.len*zs.length) h3
   rw [← hlen,qf0 l new tail hfit2] at hB
   refine hk ro _ _ ⟨?_,?_,Or.inr ⟨b,c,tail.drop new.length,rfl,h2,?_,?_⟩⟩ (Chg.scells hnew h2 _ _)
   ·simp only [List.length_append,Sl.len_mk,Nat.add_mul]; omega
   ·simp only [Sl.len_mk,Sl.cap_mk]; omega
   ·rw [← hlen]; exact hB
   ·simp only [List.length_append,List.length_drop]; omega
 ·refine hk (fun b=>if b=m.size then k else ro b) _ _ ⟨?_,?_,Or.inr ⟨m.size,c,zrow zs (c - (s.len+x.len)),rfl,by simp,Blk.push _ _ _,?_⟩⟩ ⟨by simp,fun b hb=>if_neg (by omega),fun b hb=>?_,fun b hb _=>by rw [Array.getElem?_push,if_neg (by omega)]⟩
  ·simp only [List.length_append,Sl.len_mk,Nat.add_mul,h.len,hn]
  ·simpa using hc
  ·simp only [List.length_append,q7r,h.len,hn]
   rw [Nat.sub_mul,← Nat.add_mul]
   have:(s.len+x.len)*zs.length<=c*zs.length:=Nat.mul_le_mul_right _ hc
   omega
  ·simp at hb; rw [if_neg (by omega)]; exact hnew b (by omega)
theorem Arr.ofOwn {ro:Nat->Nat} {m0 m:Mem} {e sz k:Nat} {s:Sl} {l:List Ce} (h:Own m0 m e sz s l) (hr:s ≠ .nil->ro s.blk=k):Arr ro m e sz k s l:=by
 refine ⟨h.len,?_,?_⟩
 ·rcases h.at' with h1 | ⟨b,c,tail,h1,h2,h3,h4,h5⟩
  ·rw [h1]; exact Nat.le_refl _
  ·rw [h1]; exact h5
 ·rcases h.at' with h1 | ⟨b,c,tail,h1,h2,h3,h4,h5⟩
  ·rw [h1]; exact Or.inl rfl
  ·refine Or.inr ⟨b,c,tail,h1,?_,h3,h4⟩
   have:=hr (by rw [h1]; simp)
   rw [h1] at this; exact this
theorem Arr.ints {ro:Nat->Nat} {m:Mem} {k:Nat} {s:Sl} {l:List Int} (h:Arr ro m ty_int 1 k s (l.map Ce.i)) (hl:l.length<=9223372036854775807):q03 m s l:=by
 have hlen:s.len=l.length:=by have:=h.len; simp at this; omega
 refine ⟨hlen,h.le,by omega,fun j x hk=>⟨[.i x],rfl,fun i c hc=>?_⟩⟩
 have hi:i=0:=by have:=q04 hc; simp at this; omega
 subst hi
 simp at hc; subst hc
 have:=h.row j (.i x) (by simp [hk])
 simpa using this
theorem qdg (l:List Int) (i:Nat) (v:Int):setL (l.map Ce.i) i [.i v]=(l.set i v).map Ce.i:=by simp [setL,List.map_set]
theorem Arr.setI {ro:Nat->Nat} {m:Mem} {k:Nat} {s:Sl} {l:List Int} (h:Arr ro m ty_int 1 k s (l.map Ce.i)) {i:Int} (h0:0<=i) (h1:i < l.length) (v:Int):Arr ro (scells m s.blk (s.off+i.toNat*1) [.i v]) ty_int 1 k s ((Go.Proofs.YtpggcodlaajceaaGreat.setI l i v).map Ce.i):=by
 have:=h.set (o:=i.toNat) (new:=[.i v]) (by simp; omega)
 rw [qdg] at this
 rw [Nat.mul_one]; exact this
theorem Arr.wrI {ro:Nat->Nat} {m:Mem} {k:Nat} {s:Sl} {l:List Int} (h:Arr ro m ty_int 1 k s (l.map Ce.i)) {i:Int} (h0:0<=i) (h1:i < l.length):wrOk m s.blk (s.off+i.toNat*1) 1:=by
 rw [Nat.mul_one]; exact h.wr (by simp; omega)
def FB (m:Mem) (f:Sl) (l:List Int):Prop:=∃ c tail,f=.mk f.blk 0 f.len c/\Blk m f.blk ty_int (l.map Ce.i ++ tail)
def FN (N:Nat) (ro:Nat->Nat) (m:Mem) (f:Sl) (l:List Int):Prop:=l ≠ []->ro f.blk=0/\N<=f.blk/\FB m f l
def CellL (N:Nat) (ro:Nat->Nat) (m:Mem) (cs:List Ce) (c:Cell):Prop:=∃ f,cs=[.i c.count,.i c.tag,.s f]/\q03 m f c.fields/\FN N ro m f c.fields
def Sep (css:List (List Ce)):Prop:=∀ (i j:Nat) (ci cj:List Ce) (a b:Sl),css[i]?=some ci->css[j]?=some cj->ci[2]?=some (.s a)->cj[2]?=some (.s b)->i ≠ j->a.len ≠ 0->b.len ≠ 0->a.blk ≠ b.blk
theorem Sep.nil:Sep []:=fun i j ci cj a b h=>by simp at h
def q0u (N:Nat) (ro:Nat->Nat) (m:Mem) (hp:Sl) (h:List Cell):Prop:=∃ css,Arr ro m q35 3 3 hp css.flatten/\RowsOf 3 (CellL N ro m) css h/\Sep css
def Frm (ro:Nat->Nat) (m:Mem) (i:Nat) (cs:List Ce) (f:Frame):Prop :=
 ∃ r o h,cs=[.i f.proc,.i f.pc,.i f.dst,.s r,.s o,.s h]/\Arr ro m ty_int 1 (10+3*i) r (f.regs.map Ce.i)/\Arr ro m ty_int 1 (11+3*i) o (f.own.map Ce.i)/\Arr ro m ty_int 1 (12+3*i) h (f.held.map Ce.i)
structure FrmC (ro:Nat->Nat) (m:Mem) (fr:Sl) (fs:List Frame) (css:List (List Ce)):Prop where
 arr:Arr ro m q1m 6 4 fr css.flatten
 len:css.length=fs.length
 size:∀ cs ∈ css,cs.length=6
 each:∀ (i:Nat) (cs:List Ce) (f:Frame),css[i]?=some cs->fs[i]?=some f->Frm ro m i cs f
def FrmL (ro:Nat->Nat) (m:Mem) (fr:Sl) (fs:List Frame):Prop:=∃ css,FrmC ro m fr fs css
theorem q2x {m m':Mem} {f:Sl} {l:List Int} (h:q03 m f l) (hb:l ≠ []->m'[f.blk]?=m[f.blk]?):q03 m' f l:=by
 by_cases hl:l=[]
 ·subst hl; exact ⟨h.len,h.cap,h.lim,by simp⟩
 ·exact ⟨h.len,h.cap,h.lim,fun k x hk=>let ⟨cs,h1,h2⟩:=h.row k x hk; ⟨cs,h1,fun i c hc=>by rw [q16 (hb hl)]; exact h2 i c hc⟩⟩
theorem q2b {m:Mem} {f:Sl} {l:List Int} (h:q03 m f l) (hl:l ≠ []):f.blk < m.size:=by
 cases l with
 | nil=>exact absurd rfl hl
 | cons x l=>exact q5o (h.at' (k:=0) (x:=x) rfl)
theorem CellL.chg {N:Nat} {p:Nat->Prop} {ro ro':Nat->Nat} {m m':Mem} (hc:Chg p ro m ro' m') (h0:¬ p 0) (cs:List Ce) (c:Cell):CellL N ro m cs c->CellL N ro' m' cs c:=fun ⟨f,h1,h2,h3⟩ =>
 ⟨f,h1,q2x h2 fun hne=>hc.keep _ (q2b h2 hne) (by rw [(h3 hne).1]; exact h0),fun hne=>by
  obtain ⟨g1,g2,cc,tail,g3,g4⟩:=h3 hne
  exact ⟨by rw [hc.role _ (q2b h2 hne)]; exact g1,g2,cc,tail,g3,g4.congr (hc.keep _ g4.lt (by rw [g1]; exact h0))⟩⟩
theorem q0u.chg {N:Nat} {p:Nat->Prop} {ro ro':Nat->Nat} {m m':Mem} {hp:Sl} {h:List Cell} (hh:q0u N ro m hp h) (hc:Chg p ro m ro' m') (h0:¬ p 0) (h3:¬ p 3):q0u N ro' m' hp h:=by
 obtain ⟨css,h1,h2,h4⟩:=hh
 exact ⟨css,h1.chg hc h3,h2.mono (CellL.chg hc h0),h4⟩
theorem Frm.chg {p:Nat->Prop} {ro ro':Nat->Nat} {m m':Mem} (hc:Chg p ro m ro' m') {i:Nat} (hp:∀ k,10+3*i<=k->k<=12+3*i->¬ p k) {cs:List Ce} {f:Frame}:Frm ro m i cs f->Frm ro' m' i cs f:=fun ⟨r,o,h,h1,h2,h3,h4⟩ =>
 ⟨r,o,h,h1,h2.chg hc (hp _ (by omega) (by omega)),h3.chg hc (hp _ (by omega) (by omega)),h4.chg hc (hp _ (by omega) (by omega))⟩
theorem FrmL.chg {p:Nat->Prop} {ro ro':Nat->Nat} {m m':Mem} {fr:Sl} {fs:List Frame} (hh:FrmL ro m fr fs) (hc:Chg p ro m ro' m') (hp:∀ k,(k=4 \/ 10<=k)->¬ p k):FrmL ro' m' fr fs:=by
 obtain ⟨css,h⟩:=hh
 exact ⟨css,h.arr.chg hc (hp 4 (by omega)),h.len,h.size,fun i cs f h1 h2=>(h.each i cs f h1 h2).chg hc fun k hk _=>hp k (by omega)⟩
structure Lay (m0:Mem) (ro:Nat->Nat) (m:Mem) (mb e:Nat) (bx:List Ce) (out hp fr:Sl) (lo:List Int) (lh:List Cell) (lf:List Frame):Prop where
 base:Ext m0 m
 base0:∀ b,b < m0.size->ro b=0
 new:∀ b,m.size<=b->ro b=0
 box:Blk m mb e bx
 rob:ro mb=1
 out:Arr ro m ty_int 1 2 out (lo.map Ce.i)
 heap:q0u m0.size ro m hp lh
 frames:FrmL ro m fr lf
section
variable {m0:Mem} {ro ro':Nat->Nat} {m m':Mem} {mb e:Nat} {bx:List Ce} {out hp fr:Sl} {lo:List Int} {lh:List Cell} {lf:List Frame}
theorem Lay.ext (L:Lay m0 ro m mb e bx out hp fr lo lh lf) (hx:Ext m m'):Lay m0 ro m' mb e bx out hp fr lo lh lf/\To ro m ro m':=by
 have hc:∀ p,Chg p ro m ro m':=fun p=>Chg.ofExt p hx L.new
 exact ⟨⟨L.base.trans hx,L.base0,(hc (fun _=>False)).new,L.box.ext hx,L.rob,L.out.chg (hc (fun _=>False)) id,L.heap.chg (hc (fun _=>False)) id id,L.frames.chg (hc (fun _=>False)) fun _ _=>id⟩,hc _⟩
theorem Lay.setBox (L:Lay m0 ro m mb e bx out hp fr lo lh lf) (i:Nat) (cs:List Ce):Lay m0 ro (scells m mb i cs) mb e (setL bx i cs) out hp fr lo lh lf/\To ro m ro (scells m mb i cs):=by
 have hc:Chg (fun k=>k=1) ro m ro (scells m mb i cs):=Chg.scells L.new L.rob _ _
 have hto:To ro m ro (scells m mb i cs):=hc.mono fun k hk=>by omega
 obtain ⟨b1,b2⟩:=hto.base L.base L.base0
 exact ⟨⟨b1,b2,hc.new,Blk.scells (m:=m) L.box,L.rob,L.out.chg hc (by decide),L.heap.chg hc (by decide) (by decide),L.frames.chg hc fun k hk=>by omega⟩,hto⟩
theorem Lay.wrBox (L:Lay m0 ro m mb e bx out hp fr lo lh lf) {i n:Nat} (hi:i+n<=bx.length):wrOk m mb i n:=L.box.wrOk hi
theorem Lay.setHeap (L:Lay m0 ro m mb e bx out hp fr lo lh lf) (hc:Chg (fun k=>k=3 \/ k=5 \/ k=6) ro m ro' m') {hp':Sl} {lh':List Cell} (hh:q0u m0.size ro' m' hp' lh'):Lay m0 ro' m' mb e bx out hp' fr lo lh' lf/\To ro m ro' m':=by
 have hto:To ro m ro' m':=hc.mono fun k hk=>by omega
 obtain ⟨b1,b2⟩:=hto.base L.base L.base0
 exact ⟨⟨b1,b2,hc.new,L.box.congr (hc.keep _ L.box.lt (by rw [L.rob]; decide)),by rw [hc.role _ L.box.lt]; exact L.rob,L.out.chg hc (by decide),hh,L.frames.chg hc fun k hk=>by omega⟩,hto⟩
theorem Lay.setOut (L:Lay m0 ro m mb e bx out hp fr lo lh lf) (hc:Chg (fun k=>k=2) ro m ro' m') {out':Sl} {lo':List Int} (hh:Arr ro' m' ty_int 1 2 out' (lo'.map Ce.i)):Lay m0 ro' m' mb e bx out' hp fr lo' lh lf/\To ro m ro' m':=by
 have hto:To ro m ro' m':=hc.mono fun k hk=>by omega
 obtain ⟨b1,b2⟩:=hto.base L.base L.base0
 exact ⟨⟨b1,b2,hc.new,L.box.congr (hc.keep _ L.box.lt (by rw [L.rob]; decide)),by rw [hc.role _ L.box.lt]; exact L.rob,hh,L.heap.chg hc (by decide) (by decide),L.frames.chg hc fun k hk=>by omega⟩,hto⟩
theorem Lay.setFrames (L:Lay m0 ro m mb e bx out hp fr lo lh lf) (hc:Chg (fun k=>4<=k/\k ≠ 9) ro m ro' m') {fr':Sl} {lf':List Frame} (hh:FrmL ro' m' fr' lf'):Lay m0 ro' m' mb e bx out hp fr' lo lh lf'/\To ro m ro' m':=by
 have hto:To ro m ro' m':=hc.mono fun k hk=>by omega
 obtain ⟨b1,b2⟩:=hto.base L.base L.base0
 exact ⟨⟨b1,b2,hc.new,L.box.congr (hc.keep _ L.box.lt (by rw [L.rob]; decide)),by rw [hc.role _ L.box.lt]; exact L.rob,L.out.chg hc (by decide),L.heap.chg hc (by decide) (by decide),hh⟩,hto⟩
end
end
section
theorem qqo (l r:List Ce) (o:Nat) (c:Ce) (h:l.length<=o):(l ++ r).set o c=l ++ r.set (o - l.length) c:=by
 rw [List.set_append_right _ _ h]
theorem setL_app_right:∀ (new l r:List Ce) (o:Nat),l.length<=o->setL (l ++ r) o new=l ++ setL r (o - l.length) new
 | [],l,r,o,_=>rfl
 | c :: new,l,r,o,h=>by
  simp only [setL]
  rw [qqo _ _ _ _ h,setL_app_right new l _ (o+1) (by omega)]
  congr 2; omega
theorem qh3:∀ (new l r:List Ce) (o:Nat),o+new.length<=l.length->setL (l ++ r) o new=setL l o new ++ r
 | [],l,r,o,_=>rfl
 | c :: new,l,r,o,h=>by
  simp only [List.length_cons] at h
  simp only [setL]
  rw [List.set_append_left _ _ (by omega),qh3 new _ _ (o+1) (by simp; omega)]
theorem qe4 {sz:Nat}:∀ (css:List (List Ce)) (a:Nat) (cs:List Ce) (o:Nat) (new:List Ce),(∀ c ∈ css,c.length=sz)->css[a]?=some cs->o+new.length<=sz->setL css.flatten (a*sz+o) new=(css.set a (setL cs o new)).flatten
 | [],a,cs,o,new,_,h,_=>by simp at h
 | x :: css,0,cs,o,new,hl,h,ho=>by
  simp at h; subst h
  have hx:=hl x List.mem_cons_self
  rw [List.flatten_cons,Nat.zero_mul,Nat.zero_add,qh3 _ _ _ _ (by omega),List.set_cons_zero,List.flatten_cons]
 | x :: css,a+1,cs,o,new,hl,h,ho=>by
  have hx:=hl x List.mem_cons_self
  rw [List.flatten_cons,setL_app_right _ _ _ _ (by rw [hx,Nat.add_mul]; omega),List.set_cons_succ,List.flatten_cons]
  have e:(a+1)*sz+o - x.length=a*sz+o:=by rw [hx,Nat.add_mul]; omega
  rw [e,qe4 css a cs o new (fun c hc=>hl c (List.mem_cons_of_mem _ hc)) (by simpa using h) ho]
theorem _root_.Go.Vc.RowsOf.set {α:Type} {sz:Nat} {R:List Ce->α->Prop} {css:List (List Ce)} {l:List α} (h:RowsOf sz R css l) (a:Nat) {cs:List Ce} {x:α} (hs:cs.length=sz) (hx:R cs x):RowsOf sz R (css.set a cs) (l.set a x):=by
 refine ⟨by simp [h.len],fun c hc=>?_,fun j c y hc hy=>?_⟩
 ·rcases List.mem_or_eq_of_mem_set hc with hc | hc
  ·exact h.size c hc
  ·rw [hc]; exact hs
 ·by_cases hj:j=a
  ·subst hj
   have h1:=q04 hc
   have h2:=q04 hy
   simp at h1 h2
   rw [List.getElem?_set_self h1] at hc
   rw [List.getElem?_set_self h2] at hy
   simp at hc hy; subst hc; subst hy; exact hx
  ·rw [List.getElem?_set_ne (fun e=>hj e.symm)] at hc hy
   exact h.each j c y hc hy
theorem _root_.Go.Vc.RowsOf.take {α:Type} {sz:Nat} {R:List Ce->α->Prop} {css:List (List Ce)} {l:List α} (h:RowsOf sz R css l) (n:Nat):RowsOf sz R (css.take n) (l.take n):=by
 refine ⟨by simp [h.len],fun c hc=>h.size c (List.mem_of_mem_take hc),fun j c y hc hy=>?_⟩
 have h1:=q04 hc
 simp at h1
 rw [List.getElem?_take_of_lt (by omega)] at hc hy
 exact h.each j c y hc hy
theorem qjz {sz:Nat}:∀ (css:List (List Ce)) (n:Nat),(∀ c ∈ css,c.length=sz)->css.flatten.take (n*sz)=(css.take n).flatten
 | [],n,_=>by simp
 | x :: css,0,_=>by simp
 | x :: css,n+1,h=>by
  have hx:=h x List.mem_cons_self
  rw [List.flatten_cons,List.take_append,List.take_of_length_le (by rw [hx,Nat.add_mul]; omega),List.take_succ_cons,List.flatten_cons]
  have e:(n+1)*sz - x.length=n*sz:=by rw [hx,Nat.add_mul]; omega
  rw [e,qjz css n fun c hc=>h c (List.mem_cons_of_mem _ hc)]
section
variable {N:Nat} {ro:Nat->Nat} {m:Mem} {hp:Sl} {h:List Cell}
theorem q0u.len (hh:q0u N ro m hp h):hp.len=h.length:=by
 obtain ⟨css,h1,h2,_⟩:=hh
 have:=h1.len
 rw [q0g h2.size,h2.len] at this
 omega
theorem q0u.get (hh:q0u N ro m hp h) {a:Nat} {c:Cell} (hc:h[a]?=some c):∃ f,gcell m hp.blk (hp.off+a*3)=some (vi c.count)/\gcell m hp.blk (hp.off+a*3+1)=some (vi c.tag)/\gcell m hp.blk (hp.off+a*3+2)=some (Sl.v f)/\q03 m f c.fields/\FN N ro m f c.fields:=by
 obtain ⟨css,h1,h2,_⟩:=hh
 obtain ⟨cs,hcs⟩:=q00 (l:=css) (k:=a) (by rw [h2.len]; exact q04 hc)
 obtain ⟨f,rfl,hf,h0⟩:=h2.each a cs c hcs hc
 have r:=fun i c hc=>h1.row (a*3+i) c (q20 h2.size hcs hc)
 exact ⟨f,r 0 (.i c.count) rfl,r 1 (.i c.tag) rfl,r 2 (.s f) rfl,hf,h0⟩
theorem q0u.cells (hh:q0u N ro m hp h) (hl:h.length<=9223372036854775807):q0h m hp h:=by
 have hlen:=hh.len
 obtain ⟨css,h1,h2,_⟩:=hh
 refine ⟨hlen,h1.le,by omega,fun k x hk=>?_⟩
 obtain ⟨cs,hcs⟩:=q00 (l:=css) (k:=k) (by rw [h2.len]; exact q04 hk)
 obtain ⟨f,rfl,hf,h0⟩:=h2.each k cs x hcs hk
 refine ⟨_,⟨f,rfl,hf⟩,fun i c hc=>?_⟩
 have:=h1.row (k*3+i) c (q20 h2.size hcs hc)
 rwa [← Nat.add_assoc] at this
theorem q0u.wr (hh:q0u N ro m hp h) {a o n:Nat} (ha:a < h.length) (ho:o+n<=3):wrOk m hp.blk (hp.off+a*3+o) n:=by
 obtain ⟨css,h1,h2,_⟩:=hh
 rw [Nat.add_assoc]
 exact h1.wr (by rw [q0g h2.size,h2.len]; have:(a+1)*3<=h.length*3:=Nat.mul_le_mul_right _ ha; omega)
theorem q0u.blk (hh:q0u N ro m hp h) {a:Nat} (ha:a < h.length):ro hp.blk=3/\hp.blk < m.size:=by
 have hl:=hh.len
 obtain ⟨css,h1,h2,_⟩:=hh
 have:=h1.le
 have:=h1.blk (by omega)
 exact ⟨this.2,this.1⟩
def FOk (N:Nat) (ro:Nat->Nat) (m:Mem) (hp:Sl) (h:List Cell) (f:Sl) (l:List Int):Prop :=
 l ≠ []->(ro f.blk=0/\N<=f.blk/\FB m f l)/\∀ (i:Nat) (g:Sl),i < h.length->gcell m hp.blk (hp.off+i*3+2)=some (Sl.v g)->g.len ≠ 0->g.blk ≠ f.blk
theorem FB.ofOwn {m0:Mem} {f:Sl} {l:List Int} (h:Own m0 m ty_int 1 f (l.map Ce.i)) (hl:l ≠ []):m0.size<=f.blk/\FB m f l:=by
 rcases h.at' with e | ⟨b,c,tail,e,h2,h3,_,_⟩
 ·have h1:=h.len; rw [e,List.length_map,Sl.len_nil,Nat.zero_mul] at h1; exact absurd (List.length_eq_zero_iff.1 h1) hl
 ·rw [e]; exact ⟨h2,c,tail,rfl,h3⟩
theorem FOk.of {mA:Mem} {roA:Nat->Nat} {f:Sl} {l:List Int} (hhA:q0u N roA mA hp h) (hk:0 < h.length->m[hp.blk]?=mA[hp.blk]?) (ho:l ≠ []->Own mA m ty_int 1 f (l.map Ce.i)) (h0:l ≠ []->ro f.blk=0) (hN:N<=mA.size):FOk N ro m hp h f l:=fun hl=>by
 obtain ⟨h1,h2⟩:=FB.ofOwn (ho hl) hl
 refine ⟨⟨h0 hl,by omega,h2⟩,fun i g hi hg hgl=>?_⟩
 obtain ⟨c,hc⟩:=q00 hi
 obtain ⟨g',_,_,k2,kf,_⟩:=hhA.get hc
 rw [q16 (hk (by omega)),k2] at hg
 have:=Sl.v_inj.1 (Option.some.inj hg)
 subst this
 have hne:c.fields ≠ []:=fun e=>by have:=kf.len; rw [e] at this; simp at this; exact hgl this
 have:=q2b kf hne
 omega
theorem q0u.put (hh:q0u N ro m hp h) (hnew:∀ b,m.size<=b->ro b=0) {a o:Nat} {c c':Cell} (hc:h[a]?=some c) {new:List Ce} (ho:o+new.length<=3)
  (hcell:∀ f,q03 m f c.fields->FN N ro m f c.fields->∃ f',setL [.i c.count,.i c.tag,.s f] o new=[.i c'.count,.i c'.tag,.s f']/\q03 m f' c'.fields/\FN N ro m f' c'.fields/\(f'=f \/ FOk N ro m hp h f' c'.fields)) :
  q0u N ro (scells m hp.blk (hp.off+a*3+o) new) hp (h.set a c')/\Chg (fun k=>k=3) ro m ro (scells m hp.blk (hp.off+a*3+o) new):=by
 have hlt:=q04 hc
 have hblk:=hh.blk hlt
 have hchg:Chg (fun k=>k=3) ro m ro (scells m hp.blk (hp.off+a*3+o) new):=Chg.scells hnew hblk.1 _ _
 obtain ⟨css,h1,h2,h4⟩:=hh
 obtain ⟨cs,hcs⟩:=q00 (l:=css) (k:=a) (by rw [h2.len]; exact hlt)
 obtain ⟨f,rfl,hf,h0⟩:=h2.each a cs c hcs hc
 obtain ⟨f',e1,hf',h0',hd⟩:=hcell f hf h0
 have key:∀ (j:Nat) (cj:List Ce) (b:Sl),css[j]?=some cj->cj[2]?=some (.s b)->j ≠ a->f'.len ≠ 0->b.len ≠ 0->f'.blk ≠ b.blk:=fun j cj b hj hb hja h5 h6=>by
  rcases hd with rfl | hd
  ·exact h4 a j _ cj f' b hcs hj rfl hb (fun e=>hja e.symm) h5 h6
  ·have hne:c'.fields ≠ []:=fun e=>by have:=hf'.len; rw [e] at this; simp at this; exact h5 this
   refine Ne.symm ((hd hne).2 j b (by rw [← h2.len]; exact q04 hj) ?_ h6)
   have:=h1.row (j*3+2) _ (q20 h2.size hj hb)
   rwa [← Nat.add_assoc] at this
 refine ⟨⟨css.set a (setL [.i c.count,.i c.tag,.s f] o new),?_,?_,?_⟩,hchg⟩
 ·rw [← qe4 css a _ o new h2.size hcs ho,Nat.add_assoc]
  exact h1.set (by rw [q0g h2.size,h2.len]; have:(a+1)*3<=h.length*3:=Nat.mul_le_mul_right _ hlt; omega)
 ·rw [e1]
  exact (h2.set a rfl ⟨f',rfl,hf',h0'⟩).mono (CellL.chg hchg (by decide))
 ·rw [e1]
  have hal:=q04 hcs
  intro i j ci cj x y hi hj hx hy hij h5 h6
  by_cases ia:i=a
  ·subst ia
   rw [List.getElem?_set_self hal] at hi
   rw [List.getElem?_set_ne hij] at hj
   simp at hi; subst hi
   simp at hx; subst hx
   exact key j cj y hj hy (fun e=>hij e.symm) h5 h6
  ·rw [List.getElem?_set_ne (fun e=>ia e.symm)] at hi
   by_cases ja:j=a
   ·subst ja
    rw [List.getElem?_set_self hal] at hj
    simp at hj; subst hj
    simp at hy; subst hy
    exact Ne.symm (key i ci x hi hx hij h6 h5)
   ·rw [List.getElem?_set_ne (fun e=>ja e.symm)] at hj
    exact h4 i j ci cj x y hi hj hx hy hij h5 h6
theorem q0u.setCount (hh:q0u N ro m hp h) (hnew:∀ b,m.size<=b->ro b=0) {a:Nat} {c:Cell} (hc:h[a]?=some c) (n:Int) :
  q0u N ro (scells m hp.blk (hp.off+a*3) [.i n]) hp (h.set a { c with count:=n })/\Chg (fun k=>k=3) ro m ro (scells m hp.blk (hp.off+a*3) [.i n]) :=
 hh.put hnew hc (o:=0) (new:=[.i n]) (by simp) fun f hf h0=>⟨f,rfl,hf,h0,Or.inl rfl⟩
theorem q0u.setCell (hh:q0u N ro m hp h) (hnew:∀ b,m.size<=b->ro b=0) {a:Nat} (ha:a < h.length) (n t:Int) {f:Sl} {l:List Int} (hf:q03 m f l) (h0:FOk N ro m hp h f l) :
  q0u N ro (scells m hp.blk (hp.off+a*3) [.i n,.i t,.s f]) hp (h.set a ⟨n,t,l⟩)/\Chg (fun k=>k=3) ro m ro (scells m hp.blk (hp.off+a*3) [.i n,.i t,.s f]):=by
 obtain ⟨c,hc⟩:=q00 ha
 exact hh.put hnew hc (o:=0) (new:=[.i n,.i t,.s f]) (by simp) fun f1 hf1 h01=>⟨f,rfl,hf,fun hl=>(h0 hl).1,Or.inr h0⟩
theorem q0u.cut (hh:q0u N ro m hp h) {n:Nat} (hn:n<=h.length):q0u N ro m (hp.cut 0 n 3) (h.take n):=by
 have hl:=hh.len
 obtain ⟨css,h1,h2,h4⟩:=hh
 refine ⟨css.take n,by rw [← qjz css n h2.size]; exact h1.cut (by omega),h2.take n,fun i j ci cj a b hi hj=>?_⟩
 have hin:i < n:=by have:=q04 hi; simp at this; omega
 have hjn:j < n:=by have:=q04 hj; simp at this; omega
 rw [List.getElem?_take_of_lt hin] at hi
 rw [List.getElem?_take_of_lt hjn] at hj
 exact h4 i j ci cj a b hi hj
theorem q0u.push (hh:q0u N ro m hp h) (hnew:∀ b,m.size<=b->ro b=0) {x:Sl} (hx:x.len=1) {n t:Int} {f:Sl} {l:List Int} (hr:rowIs m x.blk x.off [.i n,.i t,.s f]) (hf:q03 m f l) (h0:FOk N ro m hp h f l) (hsm:h.length<=2000000000) {K:Sl->Mem->Prop}
  (hk:∀ ro' r m',q0u N ro' m' r (h ++ [⟨n,t,l⟩])->Chg (fun k=>k=3) ro m ro' m'->K r m'):appC m q35 [.i (0:Int),.i (0:Int),.s Sl.nil] 40 hp x K:=by
 have hlen:=hh.len
 obtain ⟨css,h1,h2,h4⟩:=hh
 refine Arr.append (zs:=[.i 0,.i 0,.s .nil]) (new:=[.i n,.i t,.s f]) h1 hnew (by simp [hx]) hr (by omega) fun ro' r m' q1 q2=>hk ro' r m' ⟨css ++ [[.i n,.i t,.s f]],by simpa using q1,?_,?_⟩ q2
 ·exact (h2.snoc (cs:=[.i n,.i t,.s f]) (x:=⟨n,t,l⟩) rfl ⟨f,rfl,hf,fun hl=>(h0 hl).1⟩).mono (CellL.chg q2 (by decide))
 have key:∀ (j:Nat) (cj:List Ce) (b:Sl),css[j]?=some cj->cj[2]?=some (.s b)->f.len ≠ 0->b.len ≠ 0->f.blk ≠ b.blk:=fun j cj b hj hb h5 h6=>by
  have hne:l ≠ []:=fun e=>by have:=hf.len; rw [e] at this; simp at this; exact h5 this
  refine Ne.symm ((h0 hne).2 j b (by rw [← h2.len]; exact q04 hj) ?_ h6)
  have:=h1.row (j*3+2) _ (q20 h2.size hj hb)
  rwa [← Nat.add_assoc] at this
 have last:∀ {i:Nat} {ci:List Ce} {a:Sl},(css ++ [[.i n,.i t,.s f]])[i]?=some ci->ci[2]?=some (.s a)->css[i]?=some ci \/ (i=css.length/\a=f):=fun {i ci a} hi ha=>by
  rcases Nat.lt_or_ge i css.length with h5 | h5
  ·rw [List.getElem?_append_left h5] at hi; exact Or.inl hi
  ·rw [List.getElem?_append_right h5] at hi
   have h6:i - css.length=0:=by have:=q04 hi; simp at this; omega
   rw [h6] at hi
   simp at hi; subst hi; simp at ha
   exact Or.inr ⟨by omega,ha.symm⟩
 intro i j ci cj a b hi hj ha hb hij h5 h6
 rcases last hi ha with h7 | ⟨h7,rfl⟩
 ·rcases last hj hb with h8 | ⟨h8,rfl⟩
  ·exact h4 i j ci cj a b h7 h8 ha hb hij h5 h6
  ·exact Ne.symm (key i ci a h7 ha h6 h5)
 ·rcases last hj hb with h8 | ⟨h8,rfl⟩
  ·exact key j cj b h8 hb h5 h6
  ·omega
end
structure Top (ro:Nat->Nat) (m:Mem) (fr:Sl) (fs:List Frame) (f:Frame) (r o h:Sl) (css:List (List Ce)):Prop where
 arr:Arr ro m q1m 6 4 fr (css.flatten ++ [.i f.proc,.i f.pc,.i f.dst,.s r,.s o,.s h])
 len:css.length=fs.length
 size:∀ cs ∈ css,cs.length=6
 each:∀ (i:Nat) (cs:List Ce) (g:Frame),css[i]?=some cs->fs[i]?=some g->Frm ro m i cs g
 regs:Arr ro m ty_int 1 (10+3*fs.length) r (f.regs.map Ce.i)
 own:Arr ro m ty_int 1 (11+3*fs.length) o (f.own.map Ce.i)
 held:Arr ro m ty_int 1 (12+3*fs.length) h (f.held.map Ce.i)
section
variable {ro ro':Nat->Nat} {m m':Mem} {fr:Sl} {fs:List Frame} {f:Frame} {r o h:Sl} {css:List (List Ce)}
theorem FrmL.top (hh:FrmL ro m fr (fs ++ [f])):∃ r o h css,Top ro m fr fs f r o h css:=by
 obtain ⟨css,h1,h2,h3,h4⟩:=hh
 have hne:css ≠ []:=fun e=>by rw [e] at h2; simp at h2
 have e:css=css.dropLast ++ [css.getLast hne]:=(List.dropLast_concat_getLast hne).symm
 generalize css.dropLast=c0 at e
 generalize css.getLast hne=cl at e
 subst e
 have hl:c0.length=fs.length:=by simpa using h2
 obtain ⟨r,o,h,rfl,hr,ho,hh⟩:=h4 fs.length cl f (by rw [List.getElem?_append_right (by omega)]; simp [hl]) (by simp)
 refine ⟨r,o,h,c0,by simpa using h1,hl,fun cs hc=>h3 cs (by simp [hc]),fun i cs g h5 h6=>h4 i cs g ?_ ?_,hr,ho,hh⟩
 ·rw [List.getElem?_append_left (q04 h5)]; exact h5
 ·rw [List.getElem?_append_left (q04 h6)]; exact h6
theorem Top.frm (T:Top ro m fr fs f r o h css):FrmL ro m fr (fs ++ [f]):=by
 refine ⟨css ++ [[.i f.proc,.i f.pc,.i f.dst,.s r,.s o,.s h]],by simpa using T.arr,by simp [T.len],fun cs hc=>?_,fun i cs g h1 h2=>?_⟩
 ·rcases List.mem_append.1 hc with hc | hc
  ·exact T.size cs hc
  ·simp at hc; subst hc; rfl
 ·rcases Nat.lt_or_ge i fs.length with hi | hi
  ·rw [List.getElem?_append_left (by rw [T.len]; exact hi)] at h1
   rw [List.getElem?_append_left hi] at h2
   exact T.each i cs g h1 h2
  ·have hi2:i=fs.length:=by have:=q04 h2; simp at this; omega
   subst hi2
   rw [List.getElem?_append_right (by rw [T.len]; omega)] at h1
   simp [T.len] at h1 h2
   subst h1; subst h2
   exact ⟨r,o,h,rfl,T.regs,T.own,T.held⟩
theorem Top.frLen (T:Top ro m fr fs f r o h css):fr.len=fs.length+1:=by
 have:=T.arr.len
 simp only [List.length_append,q0g T.size,T.len,List.length_cons,List.length_nil] at this
 omega
theorem Top.row (T:Top ro m fr fs f r o h css):gcell m fr.blk (fr.off+fs.length*6)=some (vi f.proc)/\gcell m fr.blk (fr.off+fs.length*6+1)=some (vi f.pc)/\gcell m fr.blk (fr.off+fs.length*6+2)=some (vi f.dst) /\
  gcell m fr.blk (fr.off+fs.length*6+3)=some (Sl.v r)/\gcell m fr.blk (fr.off+fs.length*6+4)=some (Sl.v o)/\gcell m fr.blk (fr.off+fs.length*6+5)=some (Sl.v h):=by
 have hl:css.flatten.length=fs.length*6:=by rw [q0g T.size,T.len]
 have r1:=fun (i:Nat) (c:Ce) (hc:[Ce.i f.proc,Ce.i f.pc,Ce.i f.dst,Ce.s r,Ce.s o,Ce.s h][i]?=some c)=>T.arr.row (fs.length*6+i) c (by rw [List.getElem?_append_right (by omega),hl,Nat.add_sub_cancel_left]; exact hc)
 exact ⟨r1 0 (.i f.proc) rfl,r1 1 (.i f.pc) rfl,r1 2 (.i f.dst) rfl,r1 3 (.s r) rfl,r1 4 (.s o) rfl,r1 5 (.s h) rfl⟩
theorem Top.chg {p:Nat->Prop} (T:Top ro m fr fs f r o h css) (hc:Chg p ro m ro' m') (hp:∀ k,(k=4 \/ 10<=k)->¬ p k):Top ro' m' fr fs f r o h css :=
 ⟨T.arr.chg hc (hp _ (by omega)),T.len,T.size,fun i cs g h1 h2=>(T.each i cs g h1 h2).chg hc fun k hk _=>hp k (by omega),T.regs.chg hc (hp _ (by omega)),T.own.chg hc (hp _ (by omega)),T.held.chg hc (hp _ (by omega))⟩
theorem Top.ext (T:Top ro m fr fs f r o h css) (hn:∀ b,m.size<=b->ro b=0) (hx:Ext m m'):Top ro m' fr fs f r o h css:=T.chg (Chg.ofExt (fun _=>False) hx hn) fun _ _=>id
theorem Top.outer {p:Nat->Prop} (T:Top ro m fr fs f r o h css) (hc:Chg p ro m ro' m') (hp:∀ k,10<=k->k < 10+3*fs.length->¬ p k):∀ (i:Nat) (cs:List Ce) (g:Frame),css[i]?=some cs->fs[i]?=some g->Frm ro' m' i cs g:=fun i cs g h1 h2 =>
 (T.each i cs g h1 h2).chg hc fun k hk _=>hp k (by omega) (by have:=q04 h2; omega)
theorem Top.setReg (T:Top ro m fr fs f r o h css) (hn:∀ b,m.size<=b->ro b=0) {i:Int} (h0:0<=i) (h1:i < f.regs.length) (v:Int) :
  Top ro (scells m r.blk (r.off+i.toNat*1) [.i v]) fr fs { f with regs:=setI f.regs i v } r o h css/\Chg (fun k=>4<=k/\k ≠ 9) ro m ro (scells m r.blk (r.off+i.toNat*1) [.i v]):=by
 have hc0:r.cap ≠ 0:=fun e=>by have:=(T.regs.empty e).1; simp at this; rw [this] at h1; simp at h1; omega
 have hb:=T.regs.blk hc0
 have hc:Chg (fun k=>k=10+3*fs.length) ro m ro (scells m r.blk (r.off+i.toNat*1) [.i v]):=Chg.scells hn hb.2 _ _
 exact ⟨⟨T.arr.chg hc (by omega),T.len,T.size,T.outer hc fun k _ h3=>by omega,T.regs.setI h0 h1 v,T.own.chg hc (by omega),T.held.chg hc (by omega)⟩,hc.mono fun k hk=>by omega⟩
theorem Top.setOwn (T:Top ro m fr fs f r o h css) (hn:∀ b,m.size<=b->ro b=0) {i:Int} (h0:0<=i) (h1:i < f.own.length) (v:Int) :
  Top ro (scells m o.blk (o.off+i.toNat*1) [.i v]) fr fs { f with own:=setI f.own i v } r o h css/\Chg (fun k=>4<=k/\k ≠ 9) ro m ro (scells m o.blk (o.off+i.toNat*1) [.i v]):=by
 have hc0:o.cap ≠ 0:=fun e=>by have:=(T.own.empty e).1; simp at this; rw [this] at h1; simp at h1; omega
 have hb:=T.own.blk hc0
 have hc:Chg (fun k=>k=11+3*fs.length) ro m ro (scells m o.blk (o.off+i.toNat*1) [.i v]):=Chg.scells hn hb.2 _ _
 exact ⟨⟨T.arr.chg hc (by omega),T.len,T.size,T.outer hc fun k _ h3=>by omega,T.regs.chg hc (by omega),T.own.setI h0 h1 v,T.held.chg hc (by omega)⟩,hc.mono fun k hk=>by omega⟩
theorem Top.setHeld (T:Top ro m fr fs f r o h css) (hn:∀ b,m.size<=b->ro b=0) {i:Int} (h0:0<=i) (h1:i < f.held.length) (v:Int) :
  Top ro (scells m h.blk (h.off+i.toNat*1) [.i v]) fr fs { f with held:=setI f.held i v } r o h css/\Chg (fun k=>4<=k/\k ≠ 9) ro m ro (scells m h.blk (h.off+i.toNat*1) [.i v]):=by
 have hc0:h.cap ≠ 0:=fun e=>by have:=(T.held.empty e).1; simp at this; rw [this] at h1; simp at h1; omega
 have hb:=T.held.blk hc0
 have hc:Chg (fun k=>k=12+3*fs.length) ro m ro (scells m h.blk (h.off+i.toNat*1) [.i v]):=Chg.scells hn hb.2 _ _
 exact ⟨⟨T.arr.chg hc (by omega),T.len,T.size,T.outer hc fun k _ h3=>by omega,T.regs.chg hc (by omega),T.own.chg hc (by omega),T.held.setI h0 h1 v⟩,hc.mono fun k hk=>by omega⟩
theorem Top.blk (T:Top ro m fr fs f r o h css):ro fr.blk=4/\fr.blk < m.size:=by
 have:=T.frLen
 have:=T.arr.le
 have:=T.arr.blk (by omega)
 exact ⟨this.2,this.1⟩
theorem Top.setPc (T:Top ro m fr fs f r o h css) (hn:∀ b,m.size<=b->ro b=0) (v:Int) :
  Top ro (scells m fr.blk (fr.off+fs.length*6+1) [.i v]) fr fs { f with pc:=v } r o h css/\Chg (fun k=>4<=k/\k ≠ 9) ro m ro (scells m fr.blk (fr.off+fs.length*6+1) [.i v]):=by
 have hb:=T.blk
 have hc:Chg (fun k=>k=4) ro m ro (scells m fr.blk (fr.off+fs.length*6+1) [.i v]):=Chg.scells hn hb.1 _ _
 refine ⟨⟨?_,T.len,T.size,T.outer hc fun k h2 h3=>by omega,T.regs.chg hc (by omega),T.own.chg hc (by omega),T.held.chg hc (by omega)⟩,hc.mono fun k hk=>by omega⟩
 have hl:css.flatten.length=fs.length*6:=by rw [q0g T.size,T.len]
 have:=T.arr.set (o:=fs.length*6+1) (new:=[.i v]) (by simp [hl])
 rw [setL_app_right _ _ _ _ (by omega),hl,Nat.add_sub_cancel_left] at this
 rw [Nat.add_assoc]; exact this
theorem Top.wrPc (T:Top ro m fr fs f r o h css):wrOk m fr.blk (fr.off+fs.length*6+1) 1:=by
 rw [Nat.add_assoc]
 exact T.arr.wr (by simp only [List.length_append,q0g T.size,T.len,List.length_cons,List.length_nil]; omega)
end
theorem FrmL.pop {ro:Nat->Nat} {m:Mem} {fr:Sl} {fs:List Frame} {f:Frame} (hh:FrmL ro m fr (fs ++ [f])):FrmL ro m (fr.cut 0 fs.length 6) fs:=by
 obtain ⟨r,o,h,css,T⟩:=hh.top
 have hl:css.flatten.length=fs.length*6:=by rw [q0g T.size,T.len]
 have:=T.arr.cut (n:=fs.length) (by rw [T.frLen]; omega)
 rw [List.take_append_of_le_length (by omega),List.take_of_length_le (by omega)] at this
 exact ⟨css,this,T.len,T.size,T.each⟩
theorem FrmL.push {ro:Nat->Nat} {m:Mem} {fr:Sl} {fs:List Frame} (hh:FrmL ro m fr fs) (hn:∀ b,m.size<=b->ro b=0) {x:Sl} (hx:x.len=1) {f:Frame} {r o h:Sl} (hr:rowIs m x.blk x.off [.i f.proc,.i f.pc,.i f.dst,.s r,.s o,.s h])
  (h1:Arr ro m ty_int 1 (10+3*fs.length) r (f.regs.map Ce.i)) (h2:Arr ro m ty_int 1 (11+3*fs.length) o (f.own.map Ce.i)) (h3:Arr ro m ty_int 1 (12+3*fs.length) h (f.held.map Ce.i)) (hsm:fs.length<=1000000) {K:Sl->Mem->Prop}
  (hk:∀ ro' r m',FrmL ro' m' r (fs ++ [f])->Chg (fun k=>k=4) ro m ro' m'->K r m'):appC m q1m [.i (0:Int),.i (0:Int),.i (0:Int),.s Sl.nil,.s Sl.nil,.s Sl.nil] 96 fr x K:=by
 obtain ⟨css,q1,q2,q3,q4⟩:=hh
 have hfl:fr.len=fs.length:=by have:=q1.len; rw [q0g q3,q2] at this; omega
 refine Arr.append (zs:=[.i 0,.i 0,.i 0,.s .nil,.s .nil,.s .nil]) (new:=[.i f.proc,.i f.pc,.i f.dst,.s r,.s o,.s h]) q1 hn (by simp [hx]) hr (by omega) fun ro' s m' p1 p2=>hk ro' s m' ?_ p2
 exact Top.frm (f:=f) (fs:=fs) (css:=css) (r:=r) (o:=o) (h:=h) ⟨by simpa using p1,q2,q3,fun i cs g h5 h6=>(q4 i cs g h5 h6).chg p2 fun k hk _=>by omega,h1.chg p2 (by omega),h2.chg p2 (by omega),h3.chg p2 (by omega)⟩
end
section
theorem qei:∀ (h:List Cell) (k:Nat),k<=h.length->(∀ c ∈ h.take k,c.count ≠ 0)->k<=q0t h
 | [],k,hk,_=>by simp at hk; simp [hk]
 | c :: h,0,_,_=>Nat.zero_le _
 | c :: h,k+1,hk,hn=>by
  have h1:=hn c (by simp)
  have:=qei h k (by simpa using hk) (fun d hd=>hn d (by simp [hd]))
  simp only [q0t]; rw [if_neg h1]; omega
theorem qjx:∀ (h:List Cell) (k:Nat) (c:Cell),(∀ d ∈ h.take k,d.count ≠ 0)->h[k]?=some c->c.count=0->q0t h=k
 | [],k,c,_,hc,_=>by simp at hc
 | d :: h,0,c,_,hc,h0=>by simp at hc; subst hc; simp [q0t,h0]
 | d :: h,k+1,c,hn,hc,h0=>by
  have h1:=hn d (by simp)
  have:=qjx h k c (fun x hx=>hn x (by simp [hx])) (by simpa using hc) h0
  simp only [q0t]; rw [if_neg h1,this]
theorem qkl {m:Mem} {hp:Sl} {h:List Cell} (hh:q0h m hp h):Gets Tryz.prog q87 [Sl.v hp] m (vi (q0t h)):=by
 apply qgy
 have hl:=hh.len
 refine forI (n:=h.length) (hl ▸ hh.lim) (fun k m'=>Ext m m'/\∀ c ∈ h.take k,c.count ≠ 0) ⟨Ext.refl _,by simp⟩ ?_
 rintro k m1 I μ hk ⟨hx,hn⟩ next
 refine ⟨fun h1=>?_,fun h1=>?_⟩
 ·simp only [decide_eq_true_eq] at h1
  obtain ⟨c,hc⟩:=q00 (l:=h) (k:=k) (by omega)
  obtain ⟨f,hf,g0,_⟩:=(q0h.ext hx hh).at' hc
  refine ⟨by omega,by omega,c.count,by simpa using g0,fun h2=>⟨?_,hx⟩,fun h2=>next (by omega) _ ⟨hx,q0f hc hn (by simpa using h2)⟩⟩
  rw [qjx h k c hn hc (by simpa using h2)]
 ·simp only [decide_eq_false_iff_not] at h1
  refine ⟨?_,hx⟩
  have:=qei h k hk hn
  have:=q6i h
  have e:(hp.len:Int)=(q0t h:Int):=by omega
  rw [e]
def upd (ro:Nat->Nat) (b k:Nat):Nat->Nat:=fun c=>if c=b then k else ro c
theorem q1z (ro:Nat->Nat) (b k:Nat):upd ro b k b=k:=if_pos rfl
theorem q1y {ro:Nat->Nat} {b k c:Nat} (h:c ≠ b):upd ro b k c=ro c:=if_neg h
theorem Chg.upd {p:Nat->Prop} {ro:Nat->Nat} {m m':Mem} (hx:Ext m m') (hn:∀ b,m.size<=b->ro b=0) {b:Nat} (hb:m.size<=b) (hb':b < m'.size) (k:Nat):Chg p ro m (upd ro b k) m' :=
 ⟨hx.size,fun c hc=>q1y (by omega),fun c hc=>by rw [q1y (by omega)]; exact hn c (Nat.le_trans hx.size hc),fun c hc _=>hx.same c hc⟩
theorem qqm {N:Nat} {ro:Nat->Nat} {m:Mem} {hp:Sl} {h:List Cell} (hh:q0u N ro m hp h) (hn:∀ b,m.size<=b->ro b=0) {a:Nat} (ha:a<=h.length) (t:Int) {fs:Sl} {l:List Int} (hf:q03 m fs l) (hsm:h.length<=2000000000) (hl:l.length<=1000000000) (hN:N<=m.size) :
  q08 Tryz.prog qd2 [Sl.v hp,vi a,vi t,Sl.v fs] m fun v m'=>∃ ro' hp',v=Sl.v hp'/\q0u N ro' m' hp' (place h a ⟨1,t,l⟩)/\HC ro m ro' m':=by
 apply qmi
 simp -zeta only [q09,q0a,rI,rS,rB,cI,cB,cS,dI,dB,dS,gk,rg]
 refine (q2c hf hl).then hl fun s m1 o1 i1 h1=>⟨s,rfl,?_⟩
 intro m2 m3
 have h13:Ext m1 m3:=((Ext.refl m1).pushed _).scells (Nat.le_refl _) _ _
 have s3:m3.size=m1.size+1:=by simp [m3,m2,q02]
 have hx3:=h1.trans h13
 clear_value m3
 have c3:HC ro m ro m3:=Chg.ofExt _ hx3 hn
 have hn3:=c3.new
 have hh3:q0u N ro m3 hp h:=hh.chg (Chg.ofExt (fun _=>False) hx3 hn) id id
 have hlen:=hh.len
 have i3:=i1.ext h13
 have hs0:l ≠ []->ro s.blk=0:=fun hne=>by
  rcases o1.blk with e | e
  ·subst e; have:=i1.len; simp at this; exact absurd (List.length_eq_zero_iff.1 this.symm) hne
  ·exact hn _ e
 have hbx:ro m1.size=0:=hn _ h1.size
 refine ⟨fun e=>?_,fun e=>?_⟩
 ·simp at e
  intro m4
  have h34:Ext m3 m4:=(Ext.refl m3).pushed _
  have hrow:rowIs m4 m3.size 0 [.i 1,.i t,.s s]:=(Blk.push m3 _ _).row
  have c4:HC ro m ro m4:=c3.trans (Chg.ofExt _ h34 hn3)
  have s4:m4.size=m3.size+1:=by simp [m4]
  clear_value m4
  refine q0u.push (hh3.chg (Chg.ofExt (fun _=>False) h34 hn3) id id) c4.new (x:=.mk m3.size 0 1 1) rfl hrow (i3.ext h34) (FOk.of hh (fun h0=>(hx3.trans h34).same _ (hh.blk h0).2) (fun _=>o1.ext (h13.trans h34)) hs0 hN) hsm fun ro' r m5 q1 q2=>⟨fun b hb=>?_,ro',r,rfl,?_,c4.trans (q2.mono fun k hk=>Or.inl hk)⟩
  ·simp at hb; subst hb
   exact q2.keep _ (by omega) (by rw [hbx]; decide)
  ·rw [place,if_pos (by omega)]; exact q1
 ·simp at e
  have ha':a < h.length:=by omega
  have e1:Int.toNat (a:Int)=a:=by omega
  rw [e1]
  refine ⟨by omega,by omega,hh3.wr (o:=0) ha' (by decide),?_⟩
  intro m5
  obtain ⟨q1,q2⟩:=hh3.setCell hn3 ha' 1 t i3 (FOk.of hh (fun h0=>hx3.same _ (hh.blk h0).2) (fun _=>o1.ext h13) hs0 hN)
  refine ⟨fun b hb=>?_,ro,hp,rfl,?_,c3.trans (q2.mono fun k hk=>Or.inl hk)⟩
  ·simp at hb; subst hb
   exact q2.keep _ (by omega) (by rw [hbx]; decide)
  ·rw [place,if_neg (by omega)]; exact q1
theorem qo2 {h:List Cell} {n:Nat} {c:Cell} (hc:h[n]?=some c) (h0:c.count ≠ 0):trimN h (n+1)=n+1:=by
 simp only [trimN,hc]; rw [if_neg h0]
theorem qrd {h:List Cell} {n:Nat} {c:Cell} (hc:h[n]?=some c) (h0:c.count=0):trimN h (n+1)=trimN h n:=by
 simp only [trimN,hc]; rw [if_pos h0]
theorem qdo {m:Mem} {hp:Sl} {h:List Cell} (hh:q0h m hp h):q08 Tryz.prog q7o [Sl.v hp] m fun v m'=>v=Sl.v (hp.cut 0 (trimN h h.length) 3)/\Ext m m':=by
 apply qok
 have hl:=hh.len
 have hcap:=hh.cap
 have hlim:=hh.lim
 refine ⟨fun i m'=>Ext m m'/\∃ n:Nat,i=n/\n<=h.length/\trimN h n=trimN h h.length,fun i _=>i.toNat,⟨Ext.refl _,h.length,by omega,Nat.le_refl _,rfl⟩,?_⟩
 rintro i m1 ⟨hx,n,rfl,hn,ht⟩
 have fin:trimN h n=n->Value.slice=Value.slice->(0:Int)<=(0:Int)/\(0:Int)<=(n:Int)/\(n:Int)<=(hp.cap:Int)/\(Sl.v (Sl.cut hp (Int.toNat (0:Int)) (Int.toNat (n:Int)) 3)=Sl.v (hp.cut 0 (trimN h h.length) 3)/\Ext m m1):=fun e _=>by
  refine ⟨by omega,by omega,by omega,?_,hx⟩
  rw [← ht,e]; rfl
 refine ⟨fun h1=>?_,fun h1=>?_⟩
 ·simp only [gt_iff_lt,decide_eq_true_eq] at h1
  obtain ⟨k,rfl⟩:∃ k,n=k+1:=⟨n - 1,by omega⟩
  have e1:w64 (((k+1:Nat):Int) - 1)=(k:Int):=by rw [q07 (by omega) (by omega)]; omega
  rw [e1]
  obtain ⟨c,hc⟩:=q00 (l:=h) (k:=k) (by omega)
  obtain ⟨f,hf,g0,_⟩:=(q0h.ext hx hh).at' hc
  refine ⟨by omega,by omega,c.count,by simpa using g0,fun h2=>⟨⟨hx,k,rfl,by omega,?_⟩,by show (k:Int).toNat < ((k+1:Nat):Int).toNat; omega⟩,fun h2=>?_⟩
  ·rw [← ht,qrd hc (by simpa using h2)]
  ·exact fin (qo2 hc (by simpa using h2)) rfl
 ·simp only [gt_iff_lt,decide_eq_false_iff_not] at h1
  have:n=0:=by omega
  subst this
  exact fin rfl rfl
theorem Arr.pop {ro:Nat->Nat} {m:Mem} {k:Nat} {s:Sl} {l:List Int} {w:Int} (h:Arr ro m ty_int 1 k s ((l ++ [w]).map Ce.i)):s.len=l.length+1/\gcell m s.blk (s.off+l.length*1)=some (vi w)/\Arr ro m ty_int 1 k (s.cut 0 l.length 1) (l.map Ce.i):=by
 have hl:s.len=l.length+1:=by have:=h.len; simp at this; omega
 refine ⟨hl,?_,?_⟩
 ·have:=h.row l.length (.i w) (by simp)
  rw [Nat.mul_one]; exact this
 ·have:=h.cut (n:=l.length) (by omega)
  rw [Nat.mul_one,List.map_append,List.take_append_of_le_length (by simp),List.take_of_length_le (by simp)] at this
  exact this
theorem HInv.dropOne {h:List Cell} {w:Int} {r:List Int} {e:Nat->Int} (hi:HInv h (fun b=>e b+occ (w :: r) b)) (h0:∀ b,0<=e b) (hl:live h w) (h1:(q01 h w).count=1):HInv (h.set (ix w) free) (fun b=>e b+occ ((q01 h w).fields.reverse ++ r) b):=by
 obtain ⟨hc,hp⟩:=q0i hl
 refine HInv.gone hi hc h1 ?_ (by decide) (by decide) rfl (by simp [free]) (by simp [free]) (fun _=>rfl) fun b=>?_
 ·simp only [q2p hl.1,if_pos]; have:=h0 (ix w); have:=occ_nn r (ix w); omega
 ·simp only [q2p hl.1,q4g,qeq]; omega
theorem HInv.dropMore {h:List Cell} {w:Int} {r:List Int} {e:Nat->Int} (hi:HInv h (fun b=>e b+occ (w :: r) b)) (h0:∀ b,0<=e b) (hl:live h w) (h1:(q01 h w).count ≠ 1):HInv (less h w) (fun b=>e b+occ r b):=by
 obtain ⟨hc,hp⟩:=q0i hl
 have hm:=(hi.cell _ (q05 hc)).hi
 refine HInv.recount hi hc hp (by omega) (by omega) (fun b=>?_) ?_
 ·simp only [q2p hl.1]; split <;> omega
 ·have:=h0 (ix w); have:=occ_nn r (ix w); omega
theorem HInv.dropInt {h:List Cell} {w:Int} {r:List Int} {e:Nat->Int} (hi:HInv h (fun b=>e b+occ (w :: r) b)) (hw:w < 1000):HInv h (fun b=>e b+occ r b) :=
 hi.congr fun b=>by simp only [occ]; rw [if_neg (by omega)]; omega
theorem HInv.dropLive {h:List Cell} {w:Int} {r:List Int} {e:Nat->Int} (hi:HInv h (fun b=>e b+occ (w :: r) b)) (h0:∀ b,0<=e b) (hw:1000<=w):live h w :=
 ⟨hw,hi.lv _ (by simp only [q2p hw,if_pos]; have:=h0 (ix w); have:=occ_nn r (ix w); omega)⟩
def fsum:List Cell->Nat
 | []=>0
 | c :: h=>c.fields.length+fsum h
theorem qdc:∀ {h:List Cell} {a:Nat} {c:Cell} (c':Cell),h[a]?=some c->fsum (h.set a c')+c.fields.length=fsum h+c'.fields.length
 | [],a,c,c',h=>by simp at h
 | d :: h,0,c,c',hc=>by simp at hc; subst hc; simp only [List.set_cons_zero,fsum]; omega
 | d :: h,a+1,c,c',hc=>by
  have:=qdc (h:=h) (a:=a) c' (by simpa using hc)
  simp only [List.set_cons_succ,fsum]; omega
theorem qpa:∀ {h:List Cell},(∀ c ∈ h,c.fields.length<=3)->fsum h<=3*h.length
 | [],_=>by simp [fsum]
 | c :: h,hc=>by
  have:=qpa (fun d hd=>hc d (List.mem_cons_of_mem _ hd))
  have:=hc c List.mem_cons_self
  simp only [fsum,List.length_cons]; omega
theorem qkd {N:Nat} {ro:Nat->Nat} {m:Mem} {hp:Sl} {h:List Cell} (hh:q0u N ro m hp h) (hn:∀ b,m.size<=b->ro b=0) {ws:Sl} {w:Int} (hw:q03 m ws [w]) {e:Nat->Int} (hI:HInv h (fun b=>e b+occ [w] b)) (he:∀ b,0<=e b) (hsm:h.length<=2000000000) :
  q08 Tryz.prog q8d [Sl.v hp,Sl.v ws] m fun v m'=>∃ ro' hp',v=Sl.v hp'/\q0u N ro' m' hp' (trim (dropS h [w]))/\HC ro m ro' m':=by
 apply qfo
 refine (q2c hw (by simp)).then (by simp) fun s0 m1 o1 i1 h1=>⟨s0,rfl,?_⟩
 have hs0:s0 ≠ .nil:=fun e=>by subst e; have:=i1.len; simp at this
 have hb0:m.size<=s0.blk/\s0.blk < m1.size:=by
  rcases o1.blk with e | e
  ·exact absurd e hs0
  ·rcases o1.lt with e2 | e2
   ·exact absurd e2 hs0
   ·exact ⟨e,e2⟩
 have c1:HC ro m (upd ro s0.blk 6) m1:=Chg.upd h1 hn hb0.1 hb0.2 6
 have a1:Arr (upd ro s0.blk 6) m1 ty_int 1 6 s0 ([w].map Ce.i):=Arr.ofOwn o1 fun _=>q1z _ _ _
 have hh1:q0u N (upd ro s0.blk 6) m1 hp h:=hh.chg (Chg.upd (p:=fun _=>False) h1 hn hb0.1 hb0.2 6) id id
 have hfs:=qpa fun c hc=>(hI.cell c hc).fl
 have hlen:=hh.len
 refine whileG1 (γ:=List Cell × List Int) (fun g todo m'=>∃ ro',q0u N ro' m' hp g.1/\Arr ro' m' ty_int 1 6 todo (g.2.reverse.map Ce.i)/\HC ro m ro' m'/\HInv g.1 (fun b=>e b+occ g.2 b)/\dropS g.1 g.2=dropS h [w]/\g.1.length=h.length/\g.2.length+fsum g.1<=1+fsum h) (fun g=>bulk g.1+g.2.length) (h,[w])
  ⟨_,hh1,a1,c1,hI,rfl,rfl,by simp⟩ ?_
 rintro ⟨hc,st⟩ todo m2 I μ ⟨ro2,hh2,a2,c2,hI2,hd2,hl2,hf2⟩ next
 simp only [] at hh2 a2 hI2 hd2 hl2 hf2
 have htl:todo.len=st.length:=by have:=a2.len; simp at this; omega
 refine ⟨fun h3=>?_,fun h3=>?_⟩
 ·simp only [gt_iff_lt,decide_eq_true_eq] at h3
  cases st with
  | nil=>simp at htl; omega
  | cons x r =>
   simp only [List.reverse_cons] at a2
   obtain ⟨p1,p2,p3⟩:=a2.pop
   simp only [List.length_cons,List.length_reverse] at htl p1 p2 p3 hf2
   have e1:w64 ((todo.len:Int) - 1)=(r.length:Int):=by rw [q07 (by omega) (by omega)]; omega
   have hcap:=a2.le
   rw [e1]
   have e2:Int.toNat (0:Int)=0:=rfl
   have e3:Int.toNat (r.length:Int)=r.length:=by omega
   rw [e2,e3]
   refine ⟨by omega,by omega,x,p2,by omega,by omega,by omega,(q1b _ _).then fun b m3 hb h4=>⟨b,rfl,fun hbt=>?_,fun hbf=>?_⟩⟩
   ·have hx:=hb.1 hbt
    have hlv:=hI2.dropLive he hx
    obtain ⟨hcc,hpos⟩:=q0i hlv
    have hlt:=q04 hcc
    have hix:ix x=(x - 1000).toNat:=rfl
    have hmx:=(hI2.cell _ (q05 hcc)).hi
    have e4:w64 (x - 1000)=x - 1000:=q07 (by omega) (by omega)
    rw [e4,← hix]
    have hc3:HC ro2 m2 ro2 m3:=Chg.ofExt _ h4 c2.new
    have hh3:q0u N ro2 m3 hp hc:=hh2.chg (Chg.ofExt (fun _=>False) h4 c2.new) id id
    have a3:=p3.chg (Chg.ofExt (fun _=>False) h4 c2.new) id
    obtain ⟨f0,g0,_,_,_,_⟩:=hh3.get hcc
    refine ⟨by omega,by omega,_,g0,by omega,by omega,hh3.wr (o:=0) hlt (by decide),?_⟩
    have e5:w64 ((q01 hc x).count - 1)=(q01 hc x).count - 1:=q07 (by omega) (by omega)
    rw [e5]
    intro m4
    obtain ⟨hh4,c4⟩:=hh3.setCount hc3.new hcc ((q01 hc x).count - 1)
    have a4:=a3.chg c4 (by decide)
    have c24:HC ro m ro2 m4:=(c2.trans hc3).trans (c4.mono fun k hk=>Or.inl hk)
    have hbk:=q3u (c':=free) hcc
    simp only [if_pos hpos,free] at hbk
    simp at hbk
    have hset:(hc.set (ix x) { q01 hc x with count:=(q01 hc x).count - 1 })[ix x]?=some { q01 hc x with count:=(q01 hc x).count - 1 }:=q1e hcc
    obtain ⟨f1,k0,_,k2,kf,kr⟩:=hh4.get hset
    refine ⟨by omega,by omega,_,k0,fun h5=>?_,fun h5=>?_⟩
    ·simp only [beq_iff_eq] at h5
     have hone:(q01 hc x).count=1:=by omega
     have hfl:=(hI2.cell _ (q05 hcc)).fl
     have hfll:=kf.len
     simp only [] at hfll kf kr
     have hfs2:=qdc free hcc
     simp only [free,List.length_nil] at hfs2
     refine ⟨by omega,by omega,f1,k2,Arr.append (zs:=[.i 0]) (new:=(q01 hc x).fields.map Ce.i) a4 c24.new (by simp [hfll]) kf.rows ?_ fun ro5 q m5 q1 q2=>?_⟩
     ·have:(todo.cut 0 r.length 1).len=r.length:=by have:=a4.len; simp at this; omega
      rw [this,hfll]; omega
     have hh5:=hh4.chg q2 (by decide) (by decide)
     have c25:HC ro m ro5 m5:=c24.trans (q2.mono fun k hk=>Or.inr (Or.inr hk))
     intro m6
     have h56:Ext m5 m6:=(Ext.refl m5).pushed _
     have hh6:=hh5.chg (Chg.ofExt (fun _=>False) h56 c25.new) id id
     have a6:=q1.chg (Chg.ofExt (fun _=>False) h56 c25.new) id
     have c26:HC ro m ro5 m6:=c25.trans (Chg.ofExt _ h56 c25.new)
     clear_value m6
     have hlt6:ix x < (hc.set (ix x) { q01 hc x with count:=(q01 hc x).count - 1 }).length:=by simpa using hlt
     refine ⟨by omega,by omega,hh6.wr (o:=0) hlt6 (by decide),?_⟩
     intro m7
     obtain ⟨hh7,c7⟩:=hh6.setCell c26.new hlt6 0 0 (f:=.mk m5.size 0 0 0) (l:=[]) ⟨rfl,by simp,by simp,by simp⟩ (fun hne=>absurd rfl hne)
     rw [List.set_set] at hh7
     refine next (hc.set (ix x) free,(q01 hc x).fields.reverse ++ r) _ _ ⟨ro5,hh7,?_,c26.trans (c7.mono fun k hk=>Or.inl hk),hI2.dropOne he hlv hone,?_,by simpa using hl2,?_⟩ ?_
     ·have:=a6.chg c7 (by decide)
      simpa using this
     ·rw [← qbg hlv hone]; exact hd2
     ·simp only [List.length_append,List.length_reverse]
      have e6:fsum (hc.set (ix x) free)+(q01 hc x).fields.length=fsum hc:=by simpa [free] using hfs2
      omega
     ·simp only [List.length_append,List.length_reverse,List.length_cons]
      have e6:bulk (hc.set (ix x) free)+((q01 hc x).count.toNat+(q01 hc x).fields.length)=bulk hc:=by simpa [free] using hbk
      omega
    ·simp only [beq_eq_false_iff_ne] at h5
     have hne:(q01 hc x).count ≠ 1:=by omega
     have hbk2:=q3u (c':={ q01 hc x with count:=(q01 hc x).count - 1 }) hcc
     simp only [if_pos hpos] at hbk2
     rw [if_pos (by omega)] at hbk2
     have hfs2:=qdc { q01 hc x with count:=(q01 hc x).count - 1 } hcc
     refine next (less hc x,r) _ _ ⟨ro2,hh4,a4,c24,hI2.dropMore he hlv hne,?_,by simpa [less] using hl2,?_⟩ ?_
     ·rw [← q9c hlv hne]; exact hd2
     ·simp only [less]; simp only [] at hfs2; omega
     ·simp only [less,List.length_cons]; omega
   ·have hx:=fb hb hbf
    have hc3:HC ro2 m2 ro2 m3:=Chg.ofExt _ h4 c2.new
    refine next (hc,r) _ _ ⟨ro2,hh2.chg (Chg.ofExt (fun _=>False) h4 c2.new) id id,p3.chg (Chg.ofExt (fun _=>False) h4 c2.new) id,c2.trans hc3,hI2.dropInt (by omega),?_,hl2,by simp only []; omega⟩ (by simp)
    rw [← q9j (w:=x) (fun hl=>hx hl.1)]; exact hd2
 ·simp only [gt_iff_lt,decide_eq_false_iff_not] at h3
  have hst:st=[]:=List.length_eq_zero_iff.1 (by omega)
  subst hst
  rw [qba] at hd2
  subst hd2
  refine (qdo (hh2.cells (by omega))).mono ?_
  rintro _ m3 ⟨rfl,h4⟩
  refine ⟨_,rfl,ro2,_,rfl,?_,c2.trans (Chg.ofExt _ h4 c2.new)⟩
  exact (hh2.chg (Chg.ofExt (fun _=>False) h4 c2.new) id id).cut (q8q _ _)
end
section
structure ST (m0:Mem) (ro:Nat->Nat) (m:Mem) (mb e:Nat) (bx:List Ce) (out hp fr:Sl) (lo:List Int) (lh:List Cell) (fs:List Frame) (f:Frame) (r o h:Sl) (css:List (List Ce)):Prop where
 lay:Lay m0 ro m mb e bx out hp fr lo lh (fs ++ [f])
 top:Top ro m fr fs f r o h css
section
variable {m0:Mem} {ro ro':Nat->Nat} {m m':Mem} {mb e:Nat} {bx:List Ce} {out hp fr:Sl} {lo:List Int} {lh:List Cell} {fs:List Frame} {f:Frame} {r o h:Sl} {css:List (List Ce)}
theorem ST.ext (S:ST m0 ro m mb e bx out hp fr lo lh fs f r o h css) (hx:Ext m m'):ST m0 ro m' mb e bx out hp fr lo lh fs f r o h css/\To ro m ro m' :=
 ⟨⟨(S.lay.ext hx).1,S.top.ext S.lay.new hx⟩,(S.lay.ext hx).2⟩
theorem ST.setReg (S:ST m0 ro m mb e bx out hp fr lo lh fs f r o h css) {i:Int} (h0:0<=i) (h1:i < f.regs.length) (v:Int):ST m0 ro (scells m r.blk (r.off+i.toNat*1) [.i v]) mb e bx out hp fr lo lh fs { f with regs:=setI f.regs i v } r o h css/\To ro m ro (scells m r.blk (r.off+i.toNat*1) [.i v]):=by
 obtain ⟨h2,h3⟩:=S.top.setReg S.lay.new h0 h1 v
 obtain ⟨h4,h5⟩:=S.lay.setFrames h3 h2.frm
 exact ⟨⟨h4,h2⟩,h5⟩
theorem ST.setOwn (S:ST m0 ro m mb e bx out hp fr lo lh fs f r o h css) {i:Int} (h0:0<=i) (h1:i < f.own.length) (v:Int):ST m0 ro (scells m o.blk (o.off+i.toNat*1) [.i v]) mb e bx out hp fr lo lh fs { f with own:=setI f.own i v } r o h css/\To ro m ro (scells m o.blk (o.off+i.toNat*1) [.i v]):=by
 obtain ⟨h2,h3⟩:=S.top.setOwn S.lay.new h0 h1 v
 obtain ⟨h4,h5⟩:=S.lay.setFrames h3 h2.frm
 exact ⟨⟨h4,h2⟩,h5⟩
theorem ST.setHeld (S:ST m0 ro m mb e bx out hp fr lo lh fs f r o h css) {i:Int} (h0:0<=i) (h1:i < f.held.length) (v:Int):ST m0 ro (scells m h.blk (h.off+i.toNat*1) [.i v]) mb e bx out hp fr lo lh fs { f with held:=setI f.held i v } r o h css/\To ro m ro (scells m h.blk (h.off+i.toNat*1) [.i v]):=by
 obtain ⟨h2,h3⟩:=S.top.setHeld S.lay.new h0 h1 v
 obtain ⟨h4,h5⟩:=S.lay.setFrames h3 h2.frm
 exact ⟨⟨h4,h2⟩,h5⟩
theorem ST.setPc (S:ST m0 ro m mb e bx out hp fr lo lh fs f r o h css) (v:Int):ST m0 ro (scells m fr.blk (fr.off+fs.length*6+1) [.i v]) mb e bx out hp fr lo lh fs { f with pc:=v } r o h css/\To ro m ro (scells m fr.blk (fr.off+fs.length*6+1) [.i v]):=by
 obtain ⟨h2,h3⟩:=S.top.setPc S.lay.new v
 obtain ⟨h4,h5⟩:=S.lay.setFrames h3 h2.frm
 exact ⟨⟨h4,h2⟩,h5⟩
theorem ST.setBox (S:ST m0 ro m mb e bx out hp fr lo lh fs f r o h css) (i:Nat) (cs:List Ce):ST m0 ro (scells m mb i cs) mb e (setL bx i cs) out hp fr lo lh fs f r o h css/\To ro m ro (scells m mb i cs):=by
 obtain ⟨h2,h3⟩:=S.lay.setBox i cs
 exact ⟨⟨h2,S.top.chg (Chg.scells (p:=fun k=>k=1) S.lay.new S.lay.rob i cs) fun k hk=>by omega⟩,h3⟩
theorem ST.setHeap (S:ST m0 ro m mb e bx out hp fr lo lh fs f r o h css) (hc:HC ro m ro' m') {hp':Sl} {lh':List Cell} (hh:q0u m0.size ro' m' hp' lh'):ST m0 ro' m' mb e bx out hp' fr lo lh' fs f r o h css/\To ro m ro' m':=by
 obtain ⟨h2,h3⟩:=S.lay.setHeap hc hh
 exact ⟨⟨h2,S.top.chg hc fun k hk=>by omega⟩,h3⟩
theorem ST.setOut (S:ST m0 ro m mb e bx out hp fr lo lh fs f r o h css) (hc:Chg (fun k=>k=2) ro m ro' m') {out':Sl} {lo':List Int} (hh:Arr ro' m' ty_int 1 2 out' (lo'.map Ce.i)):ST m0 ro' m' mb e bx out' hp fr lo' lh fs f r o h css/\To ro m ro' m':=by
 obtain ⟨h2,h3⟩:=S.lay.setOut hc hh
 exact ⟨⟨h2,S.top.chg hc fun k hk=>by omega⟩,h3⟩
end
theorem Chg.sam1 {ro ro':Nat->Nat} {m m':Mem} (h:To ro m ro' m') {b:Nat} (hb:b < m.size) (h0:ro b=0):Sam [b] m m':=h.sam (by simpa using ⟨hb,h0⟩)
abbrev SB (d p:Sl) (s:St) (out hp fr:Sl):List Ce:=[.s d,.s p,.i s.status,.i s.value,.i s.calls,.i s.most,.s out,.s hp,.s fr]
def SFin (m0:Mem) (ro:Nat->Nat) (m:Mem) (mb:Nat) (d p:Sl) (s:St) (m':Mem):Prop :=
 ∃ ro' out hp fr,Lay m0 ro' m' mb q0l (SB d p s out hp fr) out hp fr s.out s.heap s.frames/\To ro m ro' m'
theorem SFin.from {m0:Mem} {ro ro1:Nat->Nat} {m m1 m':Mem} {mb:Nat} {d p:Sl} {s:St} (h:SFin m0 ro1 m1 mb d p s m') (ht:To ro m ro1 m1):SFin m0 ro m mb d p s m' :=
 let ⟨ro',out,hp,fr,h1,h2⟩:=h
 ⟨ro',out,hp,fr,h1,ht.trans h2⟩
section
variable {m0:Mem} {ro:Nat->Nat} {m:Mem} {mb:Nat} {d p out hp fr:Sl} {s:St} {fs:List Frame} {f:Frame} {r o h:Sl} {css:List (List Ce)}
theorem q3e (S:ST m0 ro m mb q0l (SB d p s out hp fr) out hp fr s.out s.heap fs f r o h css) (hfs:fs.length<=100000) (v:Int) :
  q08 Tryz.prog q0s [vp mb 0,vi v] m fun w m'=>ST m0 ro m' mb q0l (SB d p s out hp fr) out hp fr s.out s.heap fs { f with pc:=v } r o h css/\To ro m ro m':=by
 apply q71 (mb,0)
 have hg:gcell m mb 8=some (Sl.v fr):=S.lay.box.get 8
 have hfl:=S.top.frLen
 have e:w64 ((fr.len:Int) - 1)=(fs.length:Int):=by rw [q07 (by omega) (by omega)]; omega
 have e2:Int.toNat (fs.length:Int)=fs.length:=by omega
 refine ⟨fr,hg,fr,hg,?_⟩
 rw [e,e2]
 exact ⟨by omega,by omega,S.top.wrPc,S.setPc v⟩
theorem qf9 (S:ST m0 ro m mb q0l (SB d p s out hp fr) out hp fr s.out s.heap fs f r o h css) (hfs:fs.length<=100000) {i:Int} (h0:0<=i) (h1:i < f.regs.length) (h2:i < f.own.length) (w:Int) (hpc:0<=f.pc/\f.pc<=100000) :
  q08 Tryz.prog q26 [vp mb 0,vi i,vi w] m fun _ m'=>ST m0 ro m' mb q0l (SB d p s out hp fr) out hp fr s.out s.heap fs (Frame.put { f with pc:=f.pc+1 } i w 0) r o h css/\To ro m ro m':=by
 apply qcj (mb,0)
 simp -zeta only [q09,q0a,rI,rS,rB,cI,cB,cS,dI,dB,dS,gk,rg]
 have hg:gcell m mb 8=some (Sl.v fr):=S.lay.box.get 8
 have hfl:=S.top.frLen
 have e:w64 ((fr.len:Int) - 1)=(fs.length:Int):=by rw [q07 (by omega) (by omega)]; omega
 have e2:Int.toNat (fs.length:Int)=fs.length:=by omega
 obtain ⟨g0,g1,g2,g3,g4,g5⟩:=S.top.row
 have hrl:r.len=f.regs.length:=by have:=S.top.regs.len; simp at this; omega
 have hol:o.len=f.own.length:=by have:=S.top.own.len; simp at this; omega
 refine ⟨fr,hg,fr,hg,?_⟩
 rw [e,e2]
 refine ⟨by omega,by omega,_,g0,_,g1,_,g2,r,g3,o,g4,h,g5,?_⟩
 intro m1 m2
 have hx2:Ext m m2:=((Ext.refl m).pushed _).scells (Nat.le_refl _) _ _
 have s2:m2.size=m.size+1:=by simp [m2,m1,q02]
 have hb0:ro m.size=0:=S.lay.new _ (Nat.le_refl _)
 obtain ⟨S2,t2⟩:=S.ext hx2
 clear_value m2
 refine ⟨h0,by omega,S2.top.regs.wrI h0 h1,?_⟩
 intro m3
 obtain ⟨S3,t3⟩:=S2.setReg h0 h1 w
 have s3:m3.size=m2.size:=q02 _ _ _ _
 refine ⟨t3.sam1 (show m.size < m2.size by omega) hb0,h0,by omega,S3.top.own.wrI h0 h2,?_⟩
 intro m4
 obtain ⟨S4,t4⟩:=S3.setOwn h0 (by simpa using h2) 0
 have s4:m4.size=m3.size:=q02 _ _ _ _
 have e3:w64 (f.pc+1)=f.pc+1:=q07 (by omega) (by omega)
 rw [e3]
 refine ⟨t4.sam1 (show m.size < m3.size by omega) hb0,(q3e S4 hfs (f.pc+1)).mono ?_⟩
 rintro _ m5 ⟨S5,t5⟩
 exact ⟨t5.sam1 (show m.size < m4.size by omega) hb0,S5,((t2.trans t3).trans t4).trans t5⟩
theorem qa0 (S:ST m0 ro m mb q0l (SB d p s out hp fr) out hp fr s.out s.heap fs f r o h css) (hfs:fs.length<=100000) {i:Int} (h0:0<=i) (h1:i < f.regs.length) (h2:i < f.own.length) (w:Int) :
  q08 Tryz.prog q3c [vp mb 0,vi i,vi w] m fun _ m'=>ST m0 ro m' mb q0l (SB d p s out hp fr) out hp fr s.out s.heap fs (f.put i w (q1g w)) r o h css/\To ro m ro m':=by
 apply qce (mb,0)
 simp -zeta only [q09,q0a,rI,rS,rB,cI,cB,cS,dI,dB,dS,gk,rg]
 have hg:gcell m mb 8=some (Sl.v fr):=S.lay.box.get 8
 have hfl:=S.top.frLen
 have e:w64 ((fr.len:Int) - 1)=(fs.length:Int):=by rw [q07 (by omega) (by omega)]; omega
 have e2:Int.toNat (fs.length:Int)=fs.length:=by omega
 obtain ⟨g0,g1,g2,g3,g4,g5⟩:=S.top.row
 have hrl:r.len=f.regs.length:=by have:=S.top.regs.len; simp at this; omega
 have hol:o.len=f.own.length:=by have:=S.top.own.len; simp at this; omega
 refine ⟨fr,hg,fr,hg,?_⟩
 rw [e,e2]
 refine ⟨by omega,by omega,_,g0,_,g1,_,g2,r,g3,o,g4,h,g5,?_⟩
 intro m1 m2
 have hx2:Ext m m2:=((Ext.refl m).pushed _).scells (Nat.le_refl _) _ _
 have s2:m2.size=m.size+1:=by simp [m2,m1,q02]
 have hb0:ro m.size=0:=S.lay.new _ (Nat.le_refl _)
 obtain ⟨S2,t2⟩:=S.ext hx2
 clear_value m2
 refine ⟨h0,by omega,S2.top.regs.wrI h0 h1,?_⟩
 intro m3
 obtain ⟨S3,t3⟩:=S2.setReg h0 h1 w
 have s3:m3.size=m2.size:=q02 _ _ _ _
 refine ⟨t3.sam1 (show m.size < m2.size by omega) hb0,h0,by omega,S3.top.own.wrI h0 h2,?_⟩
 intro m4
 obtain ⟨S4,t4⟩:=S3.setOwn h0 (by simpa using h2) 0
 have s4:m4.size=m3.size:=q02 _ _ _ _
 refine ⟨t4.sam1 (show m.size < m3.size by omega) hb0,(q1b _ _).mono ?_⟩
 rintro _ m5 ⟨b,rfl,hb,h45⟩
 obtain ⟨S5,t5⟩:=S4.ext h45
 have s5:=h45.size
 refine ⟨t5.sam1 (show m.size < m4.size by omega) hb0,b,rfl,fun hbt=>?_,fun hbf=>?_⟩
 ·refine ⟨h0,by omega,S5.top.own.wrI h0 (by simpa [q2z] using h2),?_⟩
  intro m6
  obtain ⟨S6,t6⟩:=S5.setOwn h0 (by simpa [q2z] using h2) 1
  refine ⟨t6.sam1 (show m.size < m5.size by omega) hb0,?_,(((t2.trans t3).trans t4).trans t5).trans t6⟩
  have e5:setI (setI f.own i 0) i 1=setI f.own i 1:=by simp [setI,List.set_set]
  have e6:q1g w=1:=by rw [q1g,if_pos (hb.1 hbt)]
  simp only [e5] at S6
  rw [e6]; exact S6
 ·refine ⟨?_,((t2.trans t3).trans t4).trans t5⟩
  have e6:q1g w=0:=by rw [q1g,if_neg (fb hb hbf)]
  rw [e6]; exact S5
theorem qb9:∀ (ws:List Int) (g:List Cell),(refer g ws).length=g.length
 | [],g=>rfl
 | w :: ws,g=>by rw [refer,qb9 ws]; simp [bump]
theorem qgf:∀ (ws:List Int) (g:List Cell) (w:Int),refer g (ws ++ [w])=bump (refer g ws) w
 | [],g,w=>rfl
 | v :: ws,g,w=>by rw [List.cons_append,refer,qgf ws,refer]
theorem qem:∀ (ws:List Int) (g:List Cell) (n:Int),(∀ c ∈ g,-10<=c.count/\c.count<=n)->∀ c ∈ refer g ws,-10<=c.count/\c.count<=n+ws.length
 | [],g,n,h,c,hc=>by have:=h c hc; simp; omega
 | w :: ws,g,n,h,c,hc=>by
  have:=qem ws (bump g w) (n+1) (fun d hd=>by
   rcases q5z hd with rfl | ⟨b,_,hb⟩
   ·simp only [q01]
    cases hg:g[ix w]? with
    | none =>
     unfold bump at hd
     rw [List.set_eq_of_length_le (List.getElem?_eq_none_iff.1 hg)] at hd
     have:=h _ hd
     simp only [q01,hg] at this ⊢; omega
    | some x=>have:=h x (q05 hg); simp only [Option.getD_some]; omega
   ·have:=h d (q05 hb); omega) c hc
  simp only [List.length_cons]; omega
theorem qh5 (L:Lay m0 ro m mb q0l (SB d p s out hp fr) out hp fr s.out s.heap fs) {ws:Sl} {l:List Int} (hw:q03 m ws l) (hr0:l ≠ []->ro ws.blk=0) (hin:∀ w ∈ l,1000<=w/\ix w < s.heap.length) (hcb:∀ c ∈ s.heap,-10<=c.count/\c.count<=999999) (hsm:l.length<=1000000) (hhl:s.heap.length<=2000000000) :
  q08 Tryz.prog q4e [vp mb 0,Sl.v ws] m fun _ m'=>q0u m0.size ro m' hp (refer s.heap l)/\Chg (fun k=>k=3) ro m ro m':=by
 apply qdb (mb,0)
 have hwl:=hw.len
 have hg:gcell m mb 7=some (Sl.v hp):=L.box.get 7
 refine forI (n:=l.length) (by omega) (fun k m'=>q0u m0.size ro m' hp (refer s.heap (l.take k))/\Chg (fun k=>k=3) ro m ro m') ⟨L.heap,Chg.refl _ L.new⟩ ?_
 rintro k m1 I μ hk ⟨hh,hc⟩ next
 refine ⟨fun h1=>?_,fun h1=>?_⟩
 ·simp only [decide_eq_true_eq] at h1
  obtain ⟨x,hx⟩:=q00 (l:=l) (k:=k) (by omega)
  obtain ⟨hx1,hx2⟩:=hin x (q05 hx)
  have hne:l ≠ []:=fun e=>by rw [e] at hx; simp at hx
  have hw1:q03 m1 ws l:=q2x hw fun _=>hc.keep _ (q2b hw hne) (by rw [hr0 hne]; decide)
  have hg1:gcell m1 mb 7=some (Sl.v hp):=by rw [q16 (hc.keep _ L.box.lt (by rw [L.rob]; decide))]; exact hg
  have hlen:=hh.len
  rw [qb9] at hlen
  obtain ⟨c,hcc⟩:=q00 (l:=refer s.heap (l.take k)) (k:=ix x) (by rw [qb9]; exact hx2)
  obtain ⟨f1,g0,_⟩:=hh.get hcc
  have hix:ix x=(x - 1000).toNat:=rfl
  have e4:w64 (x - 1000)=x - 1000:=q07 (by omega) (by omega)
  have hcb2:=qem (l.take k) s.heap 999999 hcb c (q05 hcc)
  have hlk:((l.take k).length:Int)<=1000000:=by simp; omega
  have e5:w64 (c.count+1)=c.count+1:=q07 (by omega) (by omega)
  refine ⟨by omega,by omega,x,by simpa using hw1.at' hx,hp,hg1,hp,hg1,?_⟩
  rw [e4,← hix]
  refine ⟨by omega,by omega,c.count,g0,by omega,by omega,hh.wr (o:=0) (by rw [qb9]; exact hx2) (by decide),?_⟩
  rw [e5]
  obtain ⟨hh2,hc2⟩:=hh.setCount hc.new hcc (c.count+1)
  refine next (by omega) _ ⟨?_,hc.trans hc2⟩
  rw [q06 hx,qgf]
  have:q01 (refer s.heap (l.take k)) x=c:=by simp [q01,hcc]
  unfold bump
  rw [this]; exact hh2
 ·simp only [decide_eq_false_iff_not] at h1
  rw [q0b (by omega)] at hh
  exact ⟨hh,hc⟩
theorem qf4 (L:Lay m0 ro m mb q0l (SB d p s out hp fr) out hp fr s.out s.heap fs) {w:Int} (hl:live s.heap w) {e:Nat->Int} (hI:HInv s.heap e) (hhl:s.heap.length<=2000000000) :
  q08 Tryz.prog q46 [vp mb 0,vi w] m fun v m'=>∃ b:Bool,v=vb b/\(b=true ↔ (q01 s.heap w).count=1)/\Chg (fun k=>k=3) ro m ro m'/\(b=true->q0u m0.size ro m' hp s.heap)/\(b=false->q0u m0.size ro m' hp (refer (less s.heap w) (ptrs (q01 s.heap w).fields))):=by
 apply qch (mb,0)
 obtain ⟨hcc,hpos⟩:=q0i hl
 have hlt:=q04 hcc
 have hlen:=L.heap.len
 have hix:ix w=(w - 1000).toNat:=rfl
 have hl1:=hl.1
 have e4:w64 (w - 1000)=w - 1000:=q07 (by omega) (by omega)
 have hg:gcell m mb 7=some (Sl.v hp):=L.box.get 7
 have hmx:=(hI.cell _ (q05 hcc)).hi
 have e5:w64 ((q01 s.heap w).count - 1)=(q01 s.heap w).count - 1:=q07 (by omega) (by omega)
 obtain ⟨f0,g0,g1,g2,gf,gr⟩:=L.heap.get hcc
 rw [e4,← hix]
 refine ⟨hp,hg,by omega,by omega,_,g0,fun h1=>?_,fun h1=>?_⟩
 ·exact ⟨true,rfl,by simpa using h1,Chg.refl _ L.new,fun _=>L.heap,fun h=>by simp at h⟩
 ·simp only [beq_eq_false_iff_ne] at h1
  refine ⟨hp,hg,hp,hg,by omega,by omega,_,g0,by omega,by omega,L.heap.wr (o:=0) hlt (by decide),?_⟩
  rw [e5]
  intro m1
  obtain ⟨hh1,c1⟩:=L.heap.setCount L.new hcc ((q01 s.heap w).count - 1)
  obtain ⟨f1,k0,k1,k2,kf,kr⟩:=hh1.get (q1e hcc)
  obtain ⟨L1,t1⟩:=L.setHeap (c1.mono fun k hk=>Or.inl hk) hh1
  have hfl:=(hI.cell _ (q05 hcc)).fl
  refine ⟨hp,L1.box.get 7,by omega,by omega,f1,k2,?_⟩
  refine (q6k kf (by simp only []; omega)).then (by have:=q53 (q01 s.heap w).fields; simp only []; omega) fun ps m2 o2 i2 h2=>⟨ps,rfl,?_⟩
  obtain ⟨L2,t2⟩:=L1.ext h2
  have hps0:ptrs (q01 s.heap w).fields ≠ []->ro ps.blk=0:=fun hne=>by
   rcases o2.blk with e | e
   ·subst e; have:=i2.len; simp at this; exact absurd (List.length_eq_zero_iff.1 this.symm) hne
   ·exact c1.new _ e
  have:=q53 (q01 s.heap w).fields
  refine (qh5 (s:={ s with heap:=less s.heap w }) (fs:=fs) L2 i2 hps0 (fun v hv=>?_) (fun c hc=>?_) (by simp only []; omega) (by simpa [less] using hhl)).mono ?_
  ·obtain ⟨hv1,hv2⟩:=q48.1 hv
   have hlv:=hI.field (q05 hcc) hv1 hv2
   exact ⟨hv2,by simpa [less] using q04 (q0i hlv).1⟩
  ·rcases q5z hc with rfl | ⟨b,_,hb⟩
   ·simp only []; omega
   ·have:=hI.cell c (q05 hb); have h5:=this.lo; have h6:=this.hi; omega
  ·rintro _ m3 ⟨hh3,c3⟩
   exact ⟨false,rfl,by simpa using h1,(c1.trans (Chg.ofExt _ h2 c1.new)).trans c3,fun h=>by simp at h,fun _=>hh3⟩
end
end
section
def Bx0 (ro:Nat->Nat) (m:Mem) (bs:List Nat):Prop:=∀ b ∈ bs,b < m.size/\ro b=0
theorem Bx0.to {p:Nat->Prop} {ro ro':Nat->Nat} {m m':Mem} {bs:List Nat} (h:Bx0 ro m bs) (t:Chg p ro m ro' m'):Bx0 ro' m' bs:=fun b hb=>⟨Nat.lt_of_lt_of_le (h b hb).1 t.size,by rw [t.role b (h b hb).1]; exact (h b hb).2⟩
theorem Chg.samB {ro ro':Nat->Nat} {m m':Mem} (t:To ro m ro' m') {bs:List Nat} (h:Bx0 ro m bs):Sam bs m m':=t.sam h
theorem Bx0.two {ro:Nat->Nat} {m m1 m2:Mem} (hn:∀ b,m.size<=b->ro b=0) (h1:m1.size=m.size+1) (h2:m2.size=m.size+2):Bx0 ro m2 [m1.size,m.size]:=fun b hb=>by
 simp at hb
 rcases hb with rfl | rfl
 ·exact ⟨by omega,hn _ (by omega)⟩
 ·exact ⟨by omega,hn _ (by omega)⟩
noncomputable def consSt (s:St) (fs:List Frame) (f:Frame) (x:Instr) (t:Int):St :=
 open Classical in
 if x.into ≠ 0/\at' f.held (x.into - 1) ≠ 0 then
  { s with heap:=s.heap.set (ix (at' f.held (x.into - 1))) ⟨1,t,words f x.args⟩,frames:=fs ++ [Frame.put { f with pc:=f.pc+1,held:=setI f.held (x.into - 1) 0 } x.dst (at' f.held (x.into - 1)) 1] }
 else { s with heap:=place s.heap (q0t s.heap) ⟨1,t,words f x.args⟩,frames:=fs ++ [Frame.put { f with pc:=f.pc+1 } x.dst (1000+q0t s.heap) 1] }
section
variable {m0:Mem} {ro:Nat->Nat} {m:Mem} {mb:Nat} {d p out hp fr:Sl} {s:St} {fs:List Frame} {f:Frame} {r o h:Sl} {css:List (List Ce)}
theorem ST.regSl {e:Nat} {bx:List Ce} {lo:List Int} {lh:List Cell} (S:ST m0 ro m mb e bx out hp fr lo lh fs f r o h css) (hl:f.regs.length<=1000000):q03 m r f.regs:=S.top.regs.ints (by omega)
theorem ST.ownSl {e:Nat} {bx:List Ce} {lo:List Int} {lh:List Cell} (S:ST m0 ro m mb e bx out hp fr lo lh fs f r o h css) (hl:f.own.length<=1000000):q03 m o f.own:=S.top.own.ints (by omega)
theorem ST.heldSl {e:Nat} {bx:List Ce} {lo:List Int} {lh:List Cell} (S:ST m0 ro m mb e bx out hp fr lo lh fs f r o h css) (hl:f.held.length<=1000000):q03 m h f.held:=S.top.held.ints (by omega)
theorem qcc (S:ST m0 ro m mb q0l (SB d p s out hp fr) out hp fr s.out s.heap fs f r o h css) {x:Instr} {a j:Sl} (ha:q03 m0 a x.args) (hargs:∀ y ∈ x.args,0<=y/\y < f.regs.length) (hal:x.args.length<=4) (t:Int)
  (hlen:f.regs.length=f.own.length/\f.held.length=f.own.length/\f.own.length<=2000) (hdst:0<=x.dst/\x.dst < f.own.length) (hinto:0<=x.into/\x.into<=f.held.length) (hpc:0<=f.pc/\f.pc<=100000) (hfs:fs.length<=100000) (hhl:s.heap.length<=1000000000)
  (hkept:∀ w ∈ f.held,w ≠ 0->1000<=w/\ix w < s.heap.length) :
  q08 Tryz.prog q3i [vp mb 0,fv f r o h,xv x a j,vi t] m fun _ m'=>SFin m0 ro m mb d p (consSt s fs f x t) m':=by
 apply q9y (mb,0)
 simp -zeta only [q09,q0a,rI,rS,rB,cI,cB,cS,dI,dB,dS,gk,rg]
 intro m1 m2
 have hx2:Ext m m2:=((Ext.refl m).pushed _).pushed _
 have s1:m1.size=m.size+1:=by simp [m1]
 have s2:m2.size=m.size+2:=by simp [m2,s1]
 have B2:=Bx0.two S.lay.new s1 s2
 obtain ⟨S2,t2⟩:=S.ext hx2
 clear_value m2
 have hhlen:h.len=f.held.length:=by have:=S.top.held.len; simp at this; omega
 have g7:∀ {ro m f},ST m0 ro m mb q0l (SB d p s out hp fr) out hp fr s.out s.heap fs f r o h css->gcell m mb 7=some (Sl.v hp):=fun S=>S.lay.box.get 7
 refine ⟨hp,g7 S2,(qkl (S2.lay.heap.cells (by omega))).mono ?_⟩
 rintro _ m3 ⟨rfl,h23⟩
 obtain ⟨S3,t3⟩:=S2.ext h23
 have B3:=B2.to t3
 refine ⟨t3.samB B2,_,rfl,fun at0 m'=>∃ (a0:Nat) (f':Frame),at0=a0/\ST m0 ro m' mb q0l (SB d p s out hp fr) out hp fr s.out s.heap fs f' r o h css/\To ro m ro m'/\Bx0 ro m' [m1.size,m.size]/\a0<=s.heap.length /\
   f'.regs=f.regs/\f'.own=f.own/\f'.pc=f.pc/\consSt s fs f x t={ s with heap:=place s.heap a0 ⟨1,t,words f x.args⟩,frames:=fs ++ [Frame.put { f' with pc:=f.pc+1 } x.dst (1000+a0) 1] },?_,?_⟩
 ·have none:¬ (x.into ≠ 0/\at' f.held (x.into - 1) ≠ 0)->∃ (a0:Nat) (f':Frame),((q0t s.heap:Nat):Int)=a0/\ST m0 ro m3 mb q0l (SB d p s out hp fr) out hp fr s.out s.heap fs f' r o h css/\To ro m ro m3/\Bx0 ro m3 [m1.size,m.size]/\a0<=s.heap.length /\
    f'.regs=f.regs/\f'.own=f.own/\f'.pc=f.pc/\consSt s fs f x t={ s with heap:=place s.heap a0 ⟨1,t,words f x.args⟩,frames:=fs ++ [Frame.put { f' with pc:=f.pc+1 } x.dst (1000+a0) 1] }:=fun hno =>
   ⟨_,f,rfl,S3,t2.trans t3,B3,q6i _,rfl,rfl,rfl,by rw [consSt,if_neg hno]⟩
  refine ⟨fun h1=>?_,fun h1=>none fun hh=>by simp at h1; omega⟩
  simp at h1
  have e1:w64 (x.into - 1)=x.into - 1:=q07 (by omega) (by omega)
  rw [e1]
  have hi0:0<=x.into - 1/\x.into - 1 < f.held.length:=by omega
  have gh:=(S3.heldSl (by omega)).atI hi0.1 hi0.2
  refine ⟨by omega,by omega,_,gh,fun h2=>?_,fun h2=>none fun hh=>by simp at h2; exact hh.2 h2⟩
  simp at h2
  obtain ⟨hw1,hw2⟩:=hkept _ (q18 hi0.1 hi0.2) h2
  refine ⟨by omega,by omega,_,gh,by omega,by omega,S3.top.held.wrI hi0.1 hi0.2,?_⟩
  intro m4
  obtain ⟨S4,t4⟩:=S3.setHeld hi0.1 hi0.2 0
  have hix:ix (at' f.held (x.into - 1))=(at' f.held (x.into - 1) - 1000).toNat:=rfl
  have e2:w64 (at' f.held (x.into - 1) - 1000)=((ix (at' f.held (x.into - 1)):Nat):Int):=by rw [q07 (by omega) (by omega)]; omega
  refine ⟨t4.samB B3,ix (at' f.held (x.into - 1)),_,e2,S4,(t2.trans t3).trans t4,B3.to t4,by omega,rfl,rfl,rfl,?_⟩
  rw [consSt,if_pos ⟨by omega,h2⟩,place,if_neg (by omega),ptr_ix hw1]
 ·rintro at0 m4 ⟨a0,f',rfl,S4,t4,B4,ha0,er,eo,ep,ec⟩
  have hx4:Ext m0 m4:=S4.lay.base
  have hr4:q03 m4 r f.regs:=er ▸ S4.regSl (by rw [er]; omega)
  refine ⟨hp,g7 S4,(q9e (f:=f) hr4 (ha.ext hx4) hargs (by omega)).mono ?_⟩
  rintro _ m5 ⟨ws,rfl,ow,h45⟩
  obtain ⟨S5,t5⟩:=S4.ext h45
  have B5:=B4.to t5
  have hwl:(words f x.args).length<=1000000000:=by simp [words]; omega
  have iw:q03 m5 ws (words f x.args):=q03.ofOwn ow (by omega)
  refine ⟨t5.samB B4,ws,rfl,by rw [g7 S5,g7 S4],(qqm S5.lay.heap S5.lay.new ha0 t iw (by omega) hwl S5.lay.base.size).mono ?_⟩
  rintro _ m6 ⟨ro6,hp6,rfl,hh6,c6⟩
  obtain ⟨S6,t6⟩:=S5.setHeap c6 hh6
  have B6:=B5.to t6
  refine ⟨t6.samB B5,hp6,rfl,S6.lay.wrBox (i:=7) (by simp),?_⟩
  intro m7
  obtain ⟨S7,t7⟩:=S6.setBox 7 [.s hp6]
  have B7:=B6.to t7
  have e3:w64 (1000+(a0:Int))=1000+(a0:Int):=q07 (by omega) (by omega)
  have e4:w64 (f.pc+1)=f.pc+1:=q07 (by omega) (by omega)
  rw [e3,e4]
  refine ⟨t7.samB B6,(qa0 (s:={ s with heap:=place s.heap a0 ⟨1,t,words f x.args⟩ }) S7 hfs hdst.1 (by rw [er]; omega) (by rw [eo]; omega) (1000+a0)).mono ?_⟩
  rintro _ m8 ⟨S8,t8⟩
  have B8:=B7.to t8
  refine ⟨t8.samB B7,(q3e (s:={ s with heap:=place s.heap a0 ⟨1,t,words f x.args⟩ }) S8 hfs (f.pc+1)).mono ?_⟩
  rintro _ m9 ⟨S9,t9⟩
  refine ⟨t9.samB B8,ro6,out,hp6,fr,?_,((((t4.trans t5).trans t6).trans t7).trans t8).trans t9⟩
  rw [ec]
  have e5:q1g (1000+(a0:Int))=1:=by rw [q1g,if_pos (by omega)]
  have:=S9.lay
  rw [e5] at this
  exact this
theorem q9h:∀ (rs own:List Int) (r:Int),q0x own (rs ++ [r])=setI (q0x own rs) r (at' (q0x own rs) r+1)
 | [],own,r=>rfl
 | q :: rs,own,r=>by rw [List.cons_append,q0x,q9h rs,q0x]
theorem qgw {l:List Int} {i n:Int} (h:∀ o ∈ l,0<=o/\o<=n) (hn:0<=n):0<=at' l i/\at' l i<=n:=by
 rcases Nat.lt_or_ge i.toNat l.length with h1 | h1
 ·obtain ⟨y,hy⟩:=q00 h1
  rw [at_of' hy]; exact h y (q05 hy)
 ·rw [at',List.getD_eq_getElem?_getD,List.getElem?_eq_none h1]; simp; omega
theorem q7s:∀ (rs own:List Int) (n:Int),0<=n->(∀ o ∈ own,0<=o/\o<=n)->∀ o ∈ q0x own rs,0<=o/\o<=n+rs.length
 | [],own,n,hn,h,o,ho=>by have:=h o ho; simp; omega
 | r :: rs,own,n,hn,h,o,ho=>by
  have:=q7s rs (setI own r (at' own r+1)) (n+1) (by omega) (fun q hq=>by
   have:=qgw (i:=r) h hn
   rcases q5u hq with hq | hq
   ·omega
   ·have:=h q hq; omega) o ho
  simp only [List.length_cons]; omega
noncomputable def openSt (s:St) (fs:List Frame) (f:Frame) (x:Instr):St :=
 open Classical in
 if (q01 s.heap (at' f.regs (at' x.args 0))).count=1/\x.op=17 then
  { s with heap:=s.heap.set (ix (at' f.regs (at' x.args 0))) ⟨-1,0,q0p (q01 s.heap (at' f.regs (at' x.args 0))).fields.length⟩,frames:=fs ++ [{ f with own:=q0x f.own (x.args.drop 1),pc:=f.pc+1,held:=setI f.held (at' x.args 0) (at' f.regs (at' x.args 0)) }] }
 else { s with heap:=apart s.heap (at' f.regs (at' x.args 0)),frames:=fs ++ [{ f with own:=q0x f.own (x.args.drop 1),pc:=f.pc+1 }] }
theorem q6u (n:Nat):zrow [.i (0:Int)] n=(q0p n).map Ce.i:=by
 induction n with
 | zero=>rfl
 | succ n ih =>
  have:zrow [.i (0:Int)] (n+1)=.i 0 :: zrow [.i (0:Int)] n:=by simp [zrow,List.replicate_succ]
  rw [this,ih]; simp [q0p,List.replicate_succ]
theorem q7u {m:Mem} {n:Int} (h0:0<=n) (h1:n<=1000000):q08 Tryz.prog q5f [vi n] m fun v m'=>v=Sl.v (.mk m.size 0 n.toNat n.toNat)/\m'=m.push (.cells (vals ((q0p n.toNat).map Ce.i)) ty_int):=by
 apply qn3
 refine ⟨h0,Int.le_refl _,by omega,by omega,?_⟩
 rw [q6u]
 exact ⟨rfl,rfl⟩
theorem qq6 {m:Mem} (n:Nat):Own m (m.push (.cells (vals ((q0p n).map Ce.i)) ty_int)) ty_int 1 (.mk m.size 0 n n) ((q0p n).map Ce.i):=Own.new (Ext.refl m) ty_int 1 _ n (by simp [q31])
theorem qn0 (S:ST m0 ro m mb q0l (SB d p s out hp fr) out hp fr s.out s.heap fs f r o h css) {x:Instr} {a j:Sl} (ha:q03 m0 a x.args) (hargs:∀ y ∈ x.args,0<=y/\y < f.regs.length) (hal:1<=x.args.length/\x.args.length<=4) (hop:x.op=16 \/ x.op=17)
  (hlen:f.regs.length=f.own.length/\f.held.length=f.own.length/\f.own.length<=2000) (hpc:0<=f.pc/\f.pc<=100000) (hfs:fs.length<=100000) (hhl:s.heap.length<=1000000000) (hown:∀ q ∈ f.own,0<=q/\q<=999999)
  (hlv:live s.heap (at' f.regs (at' x.args 0))) {e:Nat->Int} (hI:HInv s.heap e) :
  q08 Tryz.prog q4r [vp mb 0,fv f r o h,xv x a j] m fun _ m'=>SFin m0 ro m mb d p (openSt s fs f x) m':=by
 apply qbf (mb,0)
 simp -zeta only [q09,q0a,rI,rS,rB,cI,cB,cS,dI,dB,dS,gk,rg]
 intro m1 m2
 have hx2:Ext m m2:=((Ext.refl m).pushed _).pushed _
 have s1:m1.size=m.size+1:=by simp [m1]
 have s2:m2.size=m.size+2:=by simp [m2,s1]
 have B2:=Bx0.two S.lay.new s1 s2
 obtain ⟨S2,t2⟩:=S.ext hx2
 clear_value m2
 have hrl:r.len=f.regs.length:=by have:=S.top.regs.len; simp at this; omega
 have hol:o.len=f.own.length:=by have:=S.top.own.len; simp at this; omega
 have hhlen:h.len=f.held.length:=by have:=S.top.held.len; simp at this; omega
 have hal':=ha.len
 have h0:0<=at' x.args 0/\at' x.args 0 < f.regs.length:=hargs _ (q18 (by omega) (by omega))
 have ga:∀ {m'},Ext m0 m'->∀ {k:Nat} {y},x.args[k]?=some y->gcell m' a.blk (a.off+Int.toNat (k:Int)*1)=some (vi y):=fun hx k y hy=>by simpa using (ha.ext hx).at' hy
 refine ⟨by omega,by omega,at' x.args 0,(ha.ext S2.lay.base).atI (by omega) (by omega),h0.1,by omega,at' f.regs (at' x.args 0),(S2.regSl (by omega)).atI h0.1 h0.2,?_⟩
 refine ⟨fun i m'=>∃ k:Nat,i=k/\1<=k/\k<=x.args.length/\ST m0 ro m' mb q0l (SB d p s out hp fr) out hp fr s.out s.heap fs { f with own:=q0x f.own ((x.args.take k).drop 1) } r o h css/\To ro m ro m'/\Bx0 ro m' [m1.size,m.size],fun i _=>((x.args.length:Int) - i).toNat,⟨1,rfl,by omega,by omega,?_,t2,B2⟩,?_⟩
 ·have e1:(x.args.take 1).drop 1=[]:=by simp
  rw [e1]; exact S2
 rintro i m3 ⟨k,rfl,hk1,hk2,S3,t3,B3⟩
 have hkb:∀ q ∈ q0x f.own ((x.args.take k).drop 1),0<=q/\q<=1000010:=fun q hq=>by
  have:=q7s _ f.own 999999 (by omega) hown q hq
  have h3:((x.args.take k).drop 1).length<=4:=by simp; omega
  omega
 refine ⟨fun h1=>?_,fun h1=>?_⟩
 ·simp only [decide_eq_true_eq] at h1
  obtain ⟨y,hy⟩:=q00 (l:=x.args) (k:=k) (by omega)
  have hyr:=hargs y (q05 hy)
  have hyo:y < (q0x f.own ((x.args.take k).drop 1)).length:=by rw [q4h]; omega
  have hb:=qgw (i:=y) hkb (by omega)
  refine ⟨by omega,by omega,y,ga S3.lay.base hy,by omega,by omega,y,ga S3.lay.base hy,hyr.1,by omega,_,(S3.ownSl (by simp only [q4h]; omega)).atI hyr.1 hyo,hyr.1,by omega,S3.top.own.wrI hyr.1 hyo,?_⟩
  intro m4
  have e2:w64 (at' (q0x f.own ((x.args.take k).drop 1)) y+1)=at' (q0x f.own ((x.args.take k).drop 1)) y+1:=q07 (by omega) (by omega)
  obtain ⟨S4,t4⟩:=S3.setOwn hyr.1 hyo (at' (q0x f.own ((x.args.take k).drop 1)) y+1)
  have e3:m4=scells m3 o.blk (o.off+y.toNat*1) [.i (at' (q0x f.own ((x.args.take k).drop 1)) y+1)]:=by simp only [m4,e2]
  clear_value m4
  subst e3
  refine ⟨t4.samB B3,?_,?_⟩
  ·rw [qa8 (k:=k) (n:=x.args.length) (by omega) (by omega)]
   refine ⟨k+1,rfl,by omega,by omega,?_,t3.trans t4,B3.to t4⟩
   have e4:(x.args.take (k+1)).drop 1=(x.args.take k).drop 1 ++ [y]:=by
    rw [q06 hy,List.drop_append_of_le_length (by simp; omega)]
   rw [e4,q9h]
   exact S4
  ·rw [qa8 (k:=k) (n:=x.args.length) (by omega) (by omega)]
   show ((x.args.length:Int) - ((k+1:Nat):Int)).toNat < ((x.args.length:Int) - (k:Int)).toNat
   omega
 ·simp only [decide_eq_false_iff_not] at h1
  have e1:(x.args.take k).drop 1=x.args.drop 1:=by rw [q0b (by omega)]
  rw [e1] at S3
  have hwx:=ptr_ix hlv.1
  obtain ⟨hcc,hpos⟩:=q0i hlv
  have hlt:=q04 hcc
  have hlen3:=S3.lay.heap.len
  have e4:w64 (f.pc+1)=f.pc+1:=q07 (by omega) (by omega)
  have hl1:=hlv.1
  have hix:ix (at' f.regs (at' x.args 0))=(at' f.regs (at' x.args 0) - 1000).toNat:=rfl
  have e5:w64 (at' f.regs (at' x.args 0) - 1000)=at' f.regs (at' x.args 0) - 1000:=q07 (by omega) (by omega)
  rw [e4,e5,← hix]
  generalize hw:at' f.regs (at' x.args 0)=w at *
  have gw:∀ {ro m lh own' held'},ST m0 ro m mb q0l (SB d p s out hp fr) out hp fr s.out lh fs { f with own:=own',held:=held' } r o h css->gcell m r.blk (r.off+Int.toNat (at' x.args 0)*1)=some (vi w):=fun S=>by rw [← hw]; exact (S.regSl (by simp only []; omega)).atI h0.1 h0.2
  refine ⟨h0.1,by omega,w,gw S3,(qf4 S3.lay hlv hI (by omega)).mono ?_⟩
  rintro _ m4 ⟨b,rfl,hb,c4,hbt4,hbf4⟩
  refine ⟨(c4.mono fun k hk=>by omega:To ro m3 ro m4).samB B3,b,rfl,fun hbt=>?_,fun hbf=>?_⟩
  ·have hone:=hb.1 hbt
   obtain ⟨S4,t4⟩:=S3.setHeap (c4.mono fun k hk=>Or.inl hk) (hbt4 hbt)
   have B4:=B3.to t4
   have g7:gcell m4 mb 7=some (Sl.v hp):=S4.lay.box.get 7
   refine ⟨fun h17=>?_,fun h17=>?_⟩
   ·simp at h17
    obtain ⟨f0,k0,k1,k2,kf,kr⟩:=S4.lay.heap.get hcc
    have hfl:=(hI.cell _ (q05 hcc)).fl
    have hfll:=kf.len
    refine ⟨hp,g7,hp,g7,by omega,by omega,f0,k2,(q7u (by omega) (by omega)).mono ?_⟩
    rintro _ m5 ⟨rfl,rfl⟩
    have e6:Int.toNat (f0.len:Int)=(q01 s.heap w).fields.length:=by omega
    rw [e6]
    have h45:Ext m4 (m4.push (.cells (vals ((q0p (q01 s.heap w).fields.length).map Ce.i)) ty_int)):=Ext.push _ _
    have oz:=qq6 (m:=m4) (q01 s.heap w).fields.length
    obtain ⟨S5,t5⟩:=S4.ext h45
    have B5:=B4.to t5
    have hz0:ro m4.size=0:=S4.lay.new _ (Nat.le_refl _)
    generalize m4.push (.cells (vals ((q0p (q01 s.heap w).fields.length).map Ce.i)) ty_int)=m5 at *
    obtain ⟨hh6,c6⟩:=S5.lay.heap.setCell S5.lay.new hlt (-1) 0 (f:=.mk m4.size 0 _ _) (q03.ofOwn oz (by rw [q31]; omega)) (FOk.of S4.lay.heap (fun h0=>h45.same _ (S4.lay.heap.blk h0).2) (fun _=>oz) (fun _=>hz0) S4.lay.base.size)
    refine ⟨t5.samB B4,_,rfl,h45.keepG g7,by omega,by omega,S5.lay.heap.wr (o:=0) hlt (by decide),?_⟩
    intro m6
    obtain ⟨S6,t6⟩:=S5.setHeap (c6.mono fun k hk=>Or.inl hk) hh6
    have B6:=B5.to t6
    refine ⟨t6.samB B5,h0.1,by omega,w,gw S6,h0.1,by omega,S6.top.held.wrI h0.1 (by simp only []; omega),?_⟩
    intro m7
    obtain ⟨S7,t7⟩:=S6.setHeld h0.1 (by simp only []; omega) w
    have B7:=B6.to t7
    refine ⟨t7.samB B6,(q3e (s:={ s with heap:=s.heap.set (ix w) ⟨-1,0,q0p (q01 s.heap w).fields.length⟩ }) S7 hfs (f.pc+1)).mono ?_⟩
    rintro _ m8 ⟨S8,t8⟩
    refine ⟨t8.samB B7,ro,out,hp,fr,?_,(((((t3.trans t4).trans t5).trans t6).trans t7).trans t8)⟩
    rw [openSt,hw,if_pos ⟨hone,h17⟩]
    exact S8.lay
   ·simp at h17
    refine ⟨hp,g7,?_⟩
    intro m5
    have h45:Ext m4 m5:=(Ext.refl m4).pushed _
    obtain ⟨S5,t5⟩:=S4.ext h45
    have B5:=B4.to t5
    clear_value m5
    refine ⟨by omega,by omega,S5.lay.heap.wr (o:=0) hlt (by decide),?_⟩
    intro m6
    obtain ⟨hh6,c6⟩:=S5.lay.heap.setCell S5.lay.new hlt 0 0 (f:=.mk m4.size 0 0 0) (l:=[]) ⟨rfl,by simp,by simp,by simp⟩ (fun hne=>absurd rfl hne)
    obtain ⟨S6,t6⟩:=S5.setHeap (c6.mono fun k hk=>Or.inl hk) hh6
    have B6:=B5.to t6
    refine ⟨t6.samB B5,hp,S6.lay.box.get 7,(qdo (S6.lay.heap.cells (by simp; omega))).mono ?_⟩
    rintro _ m7 ⟨rfl,h67⟩
    obtain ⟨S7,t7⟩:=S6.ext h67
    have B7:=B6.to t7
    refine ⟨t7.samB B6,_,rfl,S7.lay.wrBox (i:=7) (by simp),?_⟩
    intro m8
    obtain ⟨S7',t7'⟩:=S7.setHeap (Chg.refl _ S7.lay.new) (S7.lay.heap.cut (q8q _ _))
    obtain ⟨S8,t8⟩:=S7'.setBox 7 [.s (hp.cut 0 (trimN (s.heap.set (ix w) free) (s.heap.set (ix w) free).length) 3)]
    have B8:=B7.to t8
    refine ⟨t8.samB B7,(q3e (s:={ s with heap:=trim (s.heap.set (ix w) free) }) S8 hfs (f.pc+1)).mono ?_⟩
    rintro _ m9 ⟨S9,t9⟩
    refine ⟨t9.samB B8,ro,out,hp.cut 0 (trimN (s.heap.set (ix w) free) (s.heap.set (ix w) free).length) 3,fr,?_,((((((t3.trans t4).trans t5).trans t6).trans t7).trans t8).trans t9)⟩
    rw [openSt,hw,if_neg (fun hh=>h17 hh.2),Go.Proofs.YtpggcodlaajceaaGreat.apart,if_pos hone]
    exact S9.lay
  ·have hone:(q01 s.heap w).count ≠ 1:=fun e=>by have:=hb.2 e; rw [hbf] at this; simp at this
   obtain ⟨S4,t4⟩:=S3.setHeap (c4.mono fun k hk=>Or.inl hk) (hbf4 hbf)
   have B4:=B3.to t4
   refine (q3e (s:={ s with heap:=refer (less s.heap w) (ptrs (q01 s.heap w).fields) }) S4 hfs (f.pc+1)).mono ?_
   rintro _ m5 ⟨S5,t5⟩
   refine ⟨t5.samB B4,ro,out,hp,fr,?_,(t3.trans t4).trans t5⟩
   rw [openSt,hw,if_neg (fun hh=>hone hh.1),Go.Proofs.YtpggcodlaajceaaGreat.apart,if_neg hone]
   exact S5.lay
end
end
end Go.Proofs.YtpggcodlaajceaaGreat
