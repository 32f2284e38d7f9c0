/- Part of a proof, joined by a program: Sv4 Sv5 Pl1 Pl2 Pl3 Pl4. -/
import Derived.Test.YtpggcodlaajceaaGreatU04
set_option linter.unusedVariables false
set_option linter.unusedSimpArgs false
namespace Go.Proofs.YtpggcodlaajceaaGreat
open Go.Vc
section
def ProcWith (im:Image) (num:Int) (n:Nat):Prop:=∃ q:Proc,0<=num/\im.procs[num.toNat]?=some q/\q.params.length=n
theorem qtv:w64 9223372036854775808=-9223372036854775808:=by decide
theorem qcv {m:Mem} {d p:Sl} {im:Image} (h:ImageR m d p im) (num:Int) (n more:Nat) (hn:n<=9223372036854775807) (hm:more<=1) :
  q0o Tryz.prog q6d [.agg #[Sl.v d,Sl.v p],vi num,vi n,vi more] m (ProcWith im num (n+more)):=by
 apply qhk
 simp -zeta only [q0a,q09,rI,rS,rB,cI,cB,cS,dI,dB,dS,gk,rg]
 intro m1
 have hx0:Ext m m1:=(Ext.refl m).pushed _
 have hl:∀ b ∈ [m.size],b < m1.size:=by simp [m1]
 have hpl:=h.procs.len
 have hplim:=h.procs.lim
 refine (q0e _ _ _ _).thenS (Ext.refl _) hl fun b m2 hb h1 h2=>⟨_,rfl,fun h3=>?_,fun h3=>?_⟩
 ·have h3:=hb.1 h3
  rw [q07 (by omega) (by omega)] at h3
  obtain ⟨q,hq⟩:=q00 (l:=im.procs) (k:=num.toNat) (by omega)
  obtain ⟨a,b',c,ha,hb',hc,g0,g1,g2,g3,g4⟩:=(ProcSl.ext (hx0.trans h1) h.procs).at' hq
  refine ⟨by omega,by omega,a,g0,retB ?_ (hx0.trans h1)⟩
  have hal:=ha.len
  have halim:=ha.lim
  simp only [beq_iff_eq]
  have e:(a.len:Int)=w64 ((n:Int)+(more:Int)) ↔ a.len=n+more:=by
   rcases Nat.lt_or_ge (n+more) 9223372036854775808 with hlt | hge
   ·rw [q07 (by omega) (by omega)]; omega
   ·have e1:(n:Int)+(more:Int)=9223372036854775808:=by omega
    rw [e1,qtv]; omega
  rw [e,hal]
  exact ⟨fun hh=>⟨q,h3.1,hq,hh⟩,fun ⟨q',_,h5,h6⟩=>by rw [hq] at h5; simp at h5; rw [h5]; exact h6⟩
 ·refine retF (fun ⟨q,h4,h5,_⟩=>fb hb h3 ?_) (hx0.trans h1)
  have:=q04 h5
  rw [q07 (by omega) (by omega)]
  omega
def OpOk (im:Image) (p:Proc) (k:Nat) (i:Instr):Prop :=
 if i.op=0 then i.args.length=0/\-999<=i.num/\i.num<=999
 else if i.op=1 \/ i.op=2 \/ i.op=3 \/ i.op=4 \/ i.op=11 then i.args.length=2/\i.num=0
 else if i.op=5 \/ i.op=14 \/ i.op=15 \/ i.op=18 \/ i.op=23 then i.args.length=1/\i.num=0
 else if i.op=6 then (0<=i.num/\i.num < (q17 im.decls).length)/\i.args.length=(q2m im.decls i.num).length/\0<=i.into/\i.into<=p.regs
 else if i.op=9 \/ i.op=24 then ProcWith im i.num i.args.length
 else if i.op=10 then ProcWith im i.num (i.args.length+1)/\∀ q,im.procs[i.num.toNat]?=some q->q.lent.length=0
 else if i.op=16 \/ i.op=17 then (1<=i.args.length/\i.args.length<=4)/\i.num=0
 else if i.op=19 then i.args.length=1/\0<=i.num/\i.num<=2
 else if i.op=20 then i.args.length=1/\(k:Int)+1<=i.num/\i.num<=(p.code.length:Int) - 1
 else if i.op=22 then i.args.length=0/\(k:Int)+1<=i.num/\i.num<=(p.code.length:Int) - 1
 else if i.op=21 then i.args.length=1/\0 < (q1h im.decls i.num).length/\JumpsOk i.jumps (q1h im.decls i.num).length k p.code.length
 else False
structure InstrOk (im:Image) (p:Proc) (k:Nat) (i:Instr):Prop where
 args:∀ a ∈ i.args,0<=a/\a<=p.regs - 1
 dst:0<=i.dst/\i.dst<=p.regs - 1
 dst0:i.dst=0 \/ Sets i.op
 into:i.into=0 \/ i.op=6
 jumps:i.op=21 \/ i.jumps.length=0
 op:OpOk im p k i
structure ProcC (m:Mem) (a l:Sl) (c:Sl) (p:Proc):Prop where
 params:q03 m a p.params
 lent:q03 m l p.lent
 code:q1c m c p.code
theorem ProcC.ext {m m':Mem} (hx:Ext m m') {a l c:Sl} {p:Proc} (h:ProcC m a l c p):ProcC m' a l c p:=⟨h.params.ext hx,h.lent.ext hx,q1c.ext hx h.code⟩
set_option maxHeartbeats 1000000 in
theorem qin {m:Mem} {d p:Sl} {im:Image} (h:ImageR m d p im) (ht:TypesOk im.decls) {a l c:Sl} {q:Proc} (hq:ProcC m a l c q) (hr:1<=q.regs/\q.regs<=2000) {k:Nat} {i:Instr} (hk:q.code[k]?=some i) :
  q0o Tryz.prog q7a [.agg #[Sl.v d,Sl.v p],.agg #[Sl.v a,Sl.v l,vi q.result,vi q.regs,Sl.v c],vi k] m (InstrOk im q k i):=by
 apply qfi
 simp -zeta only [q0a,q09,rI,rS,rB,cI,cB,cS,dI,dB,dS,gk,rg]
 intro m1 m2
 have hx2:Ext m m2:=((Ext.refl m).pushed _).pushed _
 have hkl:=q04 hk
 have hcl:=hq.code.len
 have hclim:=hq.code.lim
 obtain ⟨xa,xj,ha,hj,g0,g1,g2,g3,g4,g5⟩:=(q1c.ext hx2 hq.code).at' hk
 refine ⟨by omega,by omega,_,g0,_,g1,_,g2,_,g3,_,g4,_,g5,?_⟩
 intro m3 m4
 have hx0:Ext m m4:=(hx2.pushed _).scells hx2.size _ _
 have hx24:Ext m2 m4:=((Ext.refl m2).pushed _).scells (Nat.le_refl _) _ _
 have hl:∀ b ∈ [m2.size,m1.size,m.size],b < m4.size:=by
  simp [m4,m3,m2,m1,q02]; omega
 clear_value m4
 have hal:=ha.len
 have hjl:=hj.len
 have halim:=ha.lim
 have er:w64 (q.regs - 1)=q.regs - 1:=q07 (by omega) (by omega)
 rw [er]
 refine forI (n:=i.args.length) (hal ▸ ha.lim) (fun j m'=>Ext m4 m'/\∀ x ∈ i.args.take j,0<=x/\x<=q.regs - 1) ⟨Ext.refl _,by simp⟩ ?_
 rintro j m5 I μ hjj ⟨hx,hn⟩ next
 refine ⟨fun h1=>?_,fun h1=>?_⟩
 ·simp only [decide_eq_true_eq] at h1
  obtain ⟨x,hx1⟩:=q00 (l:=i.args) (k:=j) (by omega)
  refine ⟨by omega,by omega,x,by simpa using (hx24.trans hx).gcell (ha.at' hx1),?_⟩
  refine (q0e _ _ _ _).thenS hx hl fun b m6 hb h2 h3=>⟨_,rfl,fun h4=>?_,fun h4=>?_⟩
  ·exact retF (fun hp=>nb hb h4 (hp.args x (q05 hx1))) (hx0.trans h3)
  ·exact next (by omega) _ ⟨h3,q0f hx1 hn (yb hb h4)⟩
 ·simp only [decide_eq_false_iff_not] at h1
  have hargs:=q0w (by omega) hn
  refine ⟨fun m'=>Ext m4 m'/\(0<=i.dst/\i.dst<=q.regs - 1)/\(i.dst=0 \/ Sets i.op)/\(i.into=0 \/ i.op=6)/\(i.op=21 \/ i.jumps.length=0),?_,?_⟩
  ·refine (q0e _ _ _ _).thenS hx hl fun b m6 hb h2 h3=>⟨_,rfl,fun h4=>?_,fun h4=>?_⟩
   ·exact retF (fun hp=>nb hb h4 hp.dst) (hx0.trans h3)
   ·have hdst:=yb hb h4
    have tail:∀ m':Mem,Ext m4 m'->(i.dst=0 \/ Sets i.op) ->
      ((i.into != 0)=true->((i.op != 6)=true->∃ b':Bool,vb false=.bool b'/\(b'=true ↔ InstrOk im q k i)/\Ext m m')/\((i.op != 6)=false ->
       ((i.op != 21)=true->((decide ((xj.len:Int) > 0))=true->∃ b':Bool,vb false=.bool b'/\(b'=true ↔ InstrOk im q k i)/\Ext m m')/\((decide ((xj.len:Int) > 0))=false->Ext m4 m'/\(0<=i.dst/\i.dst<=q.regs - 1)/\(i.dst=0 \/ Sets i.op)/\(i.into=0 \/ i.op=6)/\(i.op=21 \/ i.jumps.length=0))) /\
       ((i.op != 21)=false->Ext m4 m'/\(0<=i.dst/\i.dst<=q.regs - 1)/\(i.dst=0 \/ Sets i.op)/\(i.into=0 \/ i.op=6)/\(i.op=21 \/ i.jumps.length=0)))) /\
      ((i.into != 0)=false ->
       ((i.op != 21)=true->((decide ((xj.len:Int) > 0))=true->∃ b':Bool,vb false=.bool b'/\(b'=true ↔ InstrOk im q k i)/\Ext m m')/\((decide ((xj.len:Int) > 0))=false->Ext m4 m'/\(0<=i.dst/\i.dst<=q.regs - 1)/\(i.dst=0 \/ Sets i.op)/\(i.into=0 \/ i.op=6)/\(i.op=21 \/ i.jumps.length=0))) /\
       ((i.op != 21)=false->Ext m4 m'/\(0<=i.dst/\i.dst<=q.regs - 1)/\(i.dst=0 \/ Sets i.op)/\(i.into=0 \/ i.op=6)/\(i.op=21 \/ i.jumps.length=0))):=by
     intro m' hx' hd0
     have jl:(i.into=0 \/ i.op=6)->((i.op != 21)=true->((decide ((xj.len:Int) > 0))=true->∃ b':Bool,vb false=.bool b'/\(b'=true ↔ InstrOk im q k i)/\Ext m m')/\((decide ((xj.len:Int) > 0))=false->Ext m4 m'/\(0<=i.dst/\i.dst<=q.regs - 1)/\(i.dst=0 \/ Sets i.op)/\(i.into=0 \/ i.op=6)/\(i.op=21 \/ i.jumps.length=0))) /\
       ((i.op != 21)=false->Ext m4 m'/\(0<=i.dst/\i.dst<=q.regs - 1)/\(i.dst=0 \/ Sets i.op)/\(i.into=0 \/ i.op=6)/\(i.op=21 \/ i.jumps.length=0)):=by
      intro hi
      refine ⟨fun h5=>⟨fun h6=>?_,fun h6=>?_⟩,fun h5=>?_⟩
      ·simp at h5 h6
       exact retF (fun hp=>by rcases hp.jumps with h7 | h7 <;> omega) (hx0.trans hx')
      ·simp at h6
       exact ⟨hx',hdst,hd0,hi,Or.inr (by omega)⟩
      ·simp at h5
       exact ⟨hx',hdst,hd0,hi,Or.inl h5⟩
     refine ⟨fun h5=>⟨fun h6=>?_,fun h6=>jl (Or.inr (by simpa using h6))⟩,fun h5=>jl (Or.inl (by simpa using h5))⟩
     simp at h5 h6
     exact retF (fun hp=>by rcases hp.into with h7 | h7 <;> contradiction) (hx0.trans hx')
    refine ⟨fun h5=>?_,fun h5=>tail m6 h3 (Or.inl (by simpa using h5))⟩
    refine (qih _ _).thenS h3 hl fun b m7 hb h6 h7=>⟨_,rfl,fun h8=>?_,fun h8=>tail m7 h7 (Or.inr (yb hb h8))⟩
    simp at h5
    exact retF (fun hp=>by rcases hp.dst0 with h9 | h9; exact h5 h9; exact nb hb h8 h9) (hx0.trans h7)
  ·rintro m8 ⟨hx8,hdst,hd0,hin,hju⟩
   have hxm:=hx0.trans hx8
   have hiff:InstrOk im q k i ↔ OpOk im q k i:=⟨fun hp=>hp.op,fun hp=>⟨hargs,hdst,hd0,hin,hju,hp⟩⟩
   rw [hiff]
   have hI:ImageR m8 d p im:=ImageR.ext hxm h
   refine ⟨fun e0=>?_,fun e0=>?_⟩
   ·simp only [beq_iff_eq] at e0
    have eo:OpOk im q k i ↔ i.args.length=0/\-999<=i.num/\i.num<=999:=by rw [OpOk,if_pos e0]
    rw [eo]
    refine ⟨fun h2=>?_,fun h2=>?_⟩
    ·simp only [beq_iff_eq] at h2
     refine (q0e _ _ _ _).thenS hx8 hl fun b m9 hb h3 h4=>⟨_,rfl,retB ?_ (hx0.trans h4)⟩
     rw [hb]; omega
    ·simp only [beq_eq_false_iff_ne] at h2
     exact retF (by omega) hxm
   simp only [beq_eq_false_iff_ne] at e0
   refine ⟨fun e1=>?_,fun e1=>?_⟩
   ·simp only [Bool.or_eq_true,beq_iff_eq] at e1
    have eo:OpOk im q k i ↔ i.args.length=2/\i.num=0:=by rw [OpOk,if_neg e0,if_pos e1]
    rw [eo]
    refine ⟨fun h2=>retB ?_ hxm,fun h2=>retF ?_ hxm⟩
    ·simp only [beq_iff_eq] at h2 ⊢; omega
    ·simp only [beq_eq_false_iff_ne] at h2; omega
   simp only [Bool.or_eq_false_iff,beq_eq_false_iff_ne] at e1
   replace e1:¬ (i.op=1 \/ i.op=2 \/ i.op=3 \/ i.op=4 \/ i.op=11):=by omega
   refine ⟨fun e2=>?_,fun e2=>?_⟩
   ·simp only [Bool.or_eq_true,beq_iff_eq] at e2
    have eo:OpOk im q k i ↔ i.args.length=1/\i.num=0:=by rw [OpOk,if_neg e0,if_neg e1,if_pos e2]
    rw [eo]
    refine ⟨fun h2=>retB ?_ hxm,fun h2=>retF ?_ hxm⟩
    ·simp only [beq_iff_eq] at h2 ⊢; omega
    ·simp only [beq_eq_false_iff_ne] at h2; omega
   simp only [Bool.or_eq_false_iff,beq_eq_false_iff_ne] at e2
   replace e2:¬ (i.op=5 \/ i.op=14 \/ i.op=15 \/ i.op=18 \/ i.op=23):=by omega
   refine ⟨fun e3=>?_,fun e3=>?_⟩
   ·simp only [beq_iff_eq] at e3
    have eo:OpOk im q k i ↔ (0<=i.num/\i.num < (q17 im.decls).length)/\i.args.length=(q2m im.decls i.num).length/\0<=i.into/\i.into<=q.regs:=by rw [OpOk,if_neg e0,if_neg e1,if_neg e2,if_pos e3]
    rw [eo]
    refine (qe8 hI.decls ht _).thenS hx8 hl ?_
    rintro _ m9 ⟨t,rfl,hct,h3⟩
    refine ⟨h3,_,rfl,fun h4=>?_,fun h4=>?_⟩
    ·simp only [decide_eq_true_eq] at h4
     have hin':0<=i.num/\i.num < (q17 im.decls).length:=by
      rcases hct with ⟨j',d',h5,h6,h7,h8⟩ | ⟨h5,_⟩
      ·have:=qsi im.decls (show j'+1<=im.decls.length from q04 h6)
       rw [q6u h6,fc_all im.decls _ (Nat.le_refl _)] at this
       omega
      ·omega
     refine (ql6 (q0q.ext h3 hI.decls) ht _).thenS (hx8.trans h3) hl ?_
     rintro _ m10 ⟨s,rfl,hs,h5⟩
     have hsl:=hs.len
     refine ⟨h5,_,rfl,fun h6=>?_,fun h6=>?_⟩
     ·simp only [beq_iff_eq] at h6
      refine (q0e _ _ _ _).thenS ((hx8.trans h3).trans h5) hl fun b m11 hb h7 h8=>⟨_,rfl,retB ?_ (hx0.trans h8)⟩
      rw [hb]
      exact ⟨fun hh=>⟨hin',by omega,hh⟩,fun hh=>hh.2.2⟩
     ·simp only [beq_eq_false_iff_ne] at h6
      exact retF (fun hh=>h6 (by omega)) ((hxm.trans h3).trans h5)
    ·simp only [decide_eq_false_iff_not] at h4
     refine retF (fun hh=>?_) (hxm.trans h3)
     rcases hct with ⟨j',d',h5,h6,h7,h8⟩ | ⟨_,h5⟩
     ·omega
     ·exact h5 hh.1
   simp only [beq_eq_false_iff_ne] at e3
   refine ⟨fun e4=>?_,fun e4=>?_⟩
   ·simp only [Bool.or_eq_true,beq_iff_eq] at e4
    have eo:OpOk im q k i ↔ ProcWith im i.num (i.args.length+0):=by rw [OpOk,if_neg e0,if_neg e1,if_neg e2,if_neg e3,if_pos e4]; rfl
    rw [eo]
    have hcall:=qcv hI i.num i.args.length 0 (by omega) (by omega)
    rw [hal]
    refine hcall.thenS hx8 hl fun b m9 hb h3 h4=>⟨_,rfl,retB hb (hx0.trans h4)⟩
   simp only [Bool.or_eq_false_iff,beq_eq_false_iff_ne] at e4
   replace e4:¬ (i.op=9 \/ i.op=24):=by omega
   refine ⟨fun e5=>?_,fun e5=>?_⟩
   ·simp only [beq_iff_eq] at e5
    have eo:OpOk im q k i ↔ ProcWith im i.num (i.args.length+1)/\∀ q,im.procs[i.num.toNat]?=some q->q.lent.length=0:=by rw [OpOk,if_neg e0,if_neg e1,if_neg e2,if_neg e3,if_neg e4,if_pos e5]
    rw [eo]
    have hcall:=qcv hI i.num i.args.length 1 (by omega) (by omega)
    rw [hal]
    refine hcall.thenS hx8 hl fun b m9 hb h3 h4=>⟨_,rfl,fun h5=>?_,fun h5=>retF (fun hh=>fb hb h5 hh.1) (hx0.trans h4)⟩
    have h5:=hb.1 h5
    obtain ⟨q',h6,h7,h8⟩:=h5
    obtain ⟨a',b',c',ha',hb',hc',f0,f1,f2,f3,f4⟩:=(ProcSl.ext h3 hI.procs).at' h7
    have:=hI.procs.len
    have:=q04 h7
    refine ⟨by omega,by omega,b',f1,retB ?_ (hx0.trans h4)⟩
    have hbl:=hb'.len
    simp only [beq_iff_eq]
    refine ⟨fun hh=>⟨⟨q',h6,h7,h8⟩,fun q'' h9=>?_⟩,fun hh=>?_⟩
    ·rw [h7] at h9; simp at h9; subst h9; omega
    ·have:=hh.2 q' h7; omega
   simp only [beq_eq_false_iff_ne] at e5
   refine ⟨fun e6=>?_,fun e6=>?_⟩
   ·simp only [Bool.or_eq_true,beq_iff_eq] at e6
    have eo:OpOk im q k i ↔ (1<=i.args.length/\i.args.length<=4)/\i.num=0:=by rw [OpOk,if_neg e0,if_neg e1,if_neg e2,if_neg e3,if_neg e4,if_neg e5,if_pos e6]
    rw [eo]
    refine (q0e _ _ _ _).thenS hx8 hl fun b m9 hb h3 h4=>⟨_,rfl,fun h5=>retB ?_ (hx0.trans h4),fun h5=>retF ?_ (hx0.trans h4)⟩
    ·have h5:=hb.1 h5
     simp only [beq_iff_eq]; omega
    ·have h5:=fb hb h5; omega
   simp only [Bool.or_eq_false_iff,beq_eq_false_iff_ne] at e6
   replace e6:¬ (i.op=16 \/ i.op=17):=by omega
   refine ⟨fun e7=>?_,fun e7=>?_⟩
   ·simp only [beq_iff_eq] at e7
    have eo:OpOk im q k i ↔ i.args.length=1/\0<=i.num/\i.num<=2:=by rw [OpOk,if_neg e0,if_neg e1,if_neg e2,if_neg e3,if_neg e4,if_neg e5,if_neg e6,if_pos e7]
    rw [eo]
    refine ⟨fun h2=>?_,fun h2=>?_⟩
    ·simp only [beq_iff_eq] at h2
     refine (q0e _ _ _ _).thenS hx8 hl fun b m9 hb h3 h4=>⟨_,rfl,retB ?_ (hx0.trans h4)⟩
     rw [hb]; omega
    ·simp only [beq_eq_false_iff_ne] at h2
     exact retF (by omega) hxm
   simp only [beq_eq_false_iff_ne] at e7
   have ek:w64 ((k:Int)+1)=(k:Int)+1:=q07 (by omega) (by omega)
   have ec:w64 ((c.len:Int) - 1)=(q.code.length:Int) - 1:=by rw [q07 (by omega) (by omega),hcl]
   rw [ek,ec]
   refine ⟨fun e8=>?_,fun e8=>?_⟩
   ·simp only [beq_iff_eq] at e8
    have eo:OpOk im q k i ↔ i.args.length=1/\(k:Int)+1<=i.num/\i.num<=(q.code.length:Int) - 1:=by rw [OpOk,if_neg e0,if_neg e1,if_neg e2,if_neg e3,if_neg e4,if_neg e5,if_neg e6,if_neg e7,if_pos e8]
    rw [eo]
    refine ⟨fun h2=>?_,fun h2=>?_⟩
    ·simp only [beq_iff_eq] at h2
     refine (q0e _ _ _ _).thenS hx8 hl fun b m9 hb h3 h4=>⟨_,rfl,retB ?_ (hx0.trans h4)⟩
     rw [hb]; omega
    ·simp only [beq_eq_false_iff_ne] at h2
     exact retF (by omega) hxm
   simp only [beq_eq_false_iff_ne] at e8
   refine ⟨fun e9=>?_,fun e9=>?_⟩
   ·simp only [beq_iff_eq] at e9
    have eo:OpOk im q k i ↔ i.args.length=0/\(k:Int)+1<=i.num/\i.num<=(q.code.length:Int) - 1:=by rw [OpOk,if_neg e0,if_neg e1,if_neg e2,if_neg e3,if_neg e4,if_neg e5,if_neg e6,if_neg e7,if_neg e8,if_pos e9]
    rw [eo]
    refine ⟨fun h2=>?_,fun h2=>?_⟩
    ·simp only [beq_iff_eq] at h2
     refine (q0e _ _ _ _).thenS hx8 hl fun b m9 hb h3 h4=>⟨_,rfl,retB ?_ (hx0.trans h4)⟩
     rw [hb]; omega
    ·simp only [beq_eq_false_iff_ne] at h2
     exact retF (by omega) hxm
   simp only [beq_eq_false_iff_ne] at e9
   refine ⟨fun e10=>?_,fun e10=>?_⟩
   ·simp only [beq_iff_eq] at e10
    have eo:OpOk im q k i ↔ i.args.length=1/\0 < (q1h im.decls i.num).length/\JumpsOk i.jumps (q1h im.decls i.num).length k q.code.length:=by rw [OpOk,if_neg e0,if_neg e1,if_neg e2,if_neg e3,if_neg e4,if_neg e5,if_neg e6,if_neg e7,if_neg e8,if_neg e9,if_pos e10]
    rw [eo]
    refine (qfc hI.decls ht _).thenS hx8 hl ?_
    rintro _ m9 ⟨s,rfl,hs,h3⟩
    have hsl:=hs.len
    refine ⟨h3,_,rfl,fun h4=>?_,fun h4=>?_⟩
    ·simp only [beq_iff_eq] at h4
     refine ⟨fun h5=>?_,fun h5=>?_⟩
     ·simp only [decide_eq_true_eq] at h5
      rw [hsl,hcl]
      refine (qij (hj.ext (hx24.trans (hx8.trans h3))) _ _ _ (by omega) (by omega)).thenS (hx8.trans h3) hl fun b m10 hb h6 h7=>⟨_,rfl,retB ?_ (hx0.trans h7)⟩
      rw [hb]
      exact ⟨fun hh=>⟨by omega,by omega,hh⟩,fun hh=>hh.2.2⟩
     ·simp only [decide_eq_false_iff_not] at h5
      exact retF (fun hh=>by omega) (hxm.trans h3)
    ·simp only [beq_eq_false_iff_ne] at h4
     exact retF (fun hh=>by omega) (hxm.trans h3)
   ·simp only [beq_eq_false_iff_ne] at e10
    have eo:OpOk im q k i ↔ False:=by rw [OpOk,if_neg e0,if_neg e1,if_neg e2,if_neg e3,if_neg e4,if_neg e5,if_neg e6,if_neg e7,if_neg e8,if_neg e9,if_neg e10]
    rw [eo]
    exact retF (fun hh=>hh) hxm
end
section
structure SigsOk (ds:List Decl) (ps:List Proc):Prop where
 types:TypesOk ds
 len:1<=ps.length/\ps.length<=4
 each:∀ p ∈ ps,p.params.length<=3/\AllTy ds.length p.params/\IsTy ds.length p.result
 first:∀ p,ps[0]?=some p->p.params.length=0/\p.result=0
def FuncR (m:Mem) (cs:List Ce) (p:Proc):Prop:=∃ a,cs=[.s a,.i p.result,.i 0,.i 0,.s .nil]/\q03 m a p.params
theorem FuncR.ext {m m':Mem} (hm:Ext m m') (cs:List Ce) (c:Proc):FuncR m cs c->FuncR m' cs c:=fun ⟨f,h1,h2⟩=>⟨f,h1,h2.ext hm⟩
theorem FuncSl.at' {m:Mem} {s:Sl} {l:List Proc} (h:SlOf m 5 (FuncR m) s l) {k:Nat} {x:Proc} (hk:l[k]?=some x) :
  ∃ a,q03 m a x.params/\gcell m s.blk (s.off+k*5)=some (Sl.v a)/\gcell m s.blk (s.off+k*5+1)=some (vi x.result)/\gcell m s.blk (s.off+k*5+2)=some (vi 0)/\gcell m s.blk (s.off+k*5+3)=some (vi 0)/\gcell m s.blk (s.off+k*5+4)=some (Sl.v .nil):=by
 obtain ⟨cs,⟨a,rfl,ha⟩,hr⟩:=h.row k x hk
 exact ⟨a,ha,hr 0 (.s a) rfl,hr 1 (.i x.result) rfl,hr 2 (.i 0) rfl,hr 3 (.i 0) rfl,hr 4 (.s .nil) rfl⟩
theorem qkv {m:Mem} {d f:Sl} {ds:List Decl} {ps:List Proc} (hd:q0q m d ds) (hf:SlOf m 5 (FuncR m) f ps) :
  q0o Tryz.prog q8h [.agg #[Sl.v d,Sl.v f]] m (SigsOk ds ps):=by
 apply qh1
 simp -zeta only [q0a,q09,rI,rS,rB,cI,cB,cS,dI,dB,dS,gk,rg]
 intro m1
 have hx0:Ext m m1:=(Ext.refl m).pushed _
 have hl:∀ b ∈ [m.size],b < m1.size:=by simp [m1]
 have hdl:=hd.len
 have hfl:=hf.len
 refine (qkb (q0q.ext hx0 hd)).thenS (Ext.refl _) hl fun b m2 hb h1 h2=>⟨_,rfl,fun h3=>?_,fun h3=>?_⟩
 ·exact retF (fun hp=>nb hb h3 hp.types) (hx0.trans h1)
 have ht:=yb hb h3
 refine (q0e _ _ _ _).thenS h2 hl fun b m3 hb h4 h5=>⟨_,rfl,fun h6=>?_,fun h6=>?_⟩
 ·exact retF (fun hp=>nb hb h6 (by have:=hp.len; omega)) (hx0.trans h5)
 have hlen:=yb hb h6
 refine forI (n:=ps.length) (by omega) (fun j m'=>Ext m1 m'/\∀ p ∈ ps.take j,p.params.length<=3/\AllTy ds.length p.params/\IsTy ds.length p.result) ⟨h5,by simp⟩ ?_
 rintro j m4 I μ hj ⟨hx,hn⟩ next
 have hxm:=hx0.trans hx
 refine ⟨fun h7=>?_,fun h7=>?_⟩
 ·simp only [decide_eq_true_eq] at h7
  obtain ⟨p,hp1⟩:=q00 (l:=ps) (k:=j) (by omega)
  obtain ⟨a,ha,g0,g1,g2,g3,g4⟩:=FuncSl.at' (hf.mono hxm (FuncR.ext hxm)) hp1
  have hal:=ha.len
  refine ⟨by omega,by omega,_,g0,_,g1,_,g2,_,g3,_,g4,?_⟩
  intro m5 m6
  have hx6:Ext m4 m6:=((Ext.refl m4).pushed _).scells (Nat.le_refl _) _ _
  have hl6:∀ b ∈ [m4.size,m.size],b < m6.size:=by
   have:=hx.lt (hl m.size (by simp))
   have:=hx6.size
   simp [m6,m5,q02]
   simp [m6,m5,q02] at this
   omega
  refine ⟨fun h8=>?_,fun h8=>?_⟩
  ·simp only [decide_eq_true_eq] at h8
   exact retF (fun hp=>by have:=(hp.each p (q05 hp1)).1; omega) (hxm.trans hx6)
  simp only [decide_eq_false_iff_not] at h8
  refine (qdc (ha.ext hx6) _).thenS (Ext.refl _) hl6 fun b m7 hb h9 h10=>⟨_,rfl,fun h11=>?_,fun h11=>?_⟩
  ·exact retF (fun hp=>nb hb h11 (hdl ▸ (hp.each p (q05 hp1)).2.1)) ((hxm.trans hx6).trans h9)
  have hty:=yb hb h11
  refine (q0e _ _ _ _).thenS h10 hl6 fun b m8 hb h12 h13=>⟨_,rfl,fun h14=>?_,fun h14=>?_⟩
  ·refine retF (fun hp=>nb hb h14 ?_) ((hxm.trans hx6).trans h13)
   rw [hdl]; exact (hp.each p (q05 hp1)).2.2
  ·refine next (by omega) _ ⟨(hx.trans hx6).trans h13,q0f hp1 hn ⟨by omega,hdl ▸ hty,?_⟩⟩
   have:=yb hb h14
   rw [hdl] at this; exact this
 ·simp only [decide_eq_false_iff_not] at h7
  have hall:=q0w (by omega) hn
  obtain ⟨p,hp1⟩:=q00 (l:=ps) (k:=0) (by omega)
  obtain ⟨a,ha,g0,g1,g2,g3,g4⟩:=FuncSl.at' (hf.mono hxm (FuncR.ext hxm)) hp1
  have hal:=ha.len
  refine ⟨by omega,by omega,_,g0,fun h8=>?_,fun h8=>?_⟩
  ·simp only [beq_iff_eq] at h8
   refine ⟨by omega,by omega,_,g1,retB ?_ hxm⟩
   simp only [beq_iff_eq]
   refine ⟨fun h9=>⟨ht,by omega,hall,fun q hq=>?_⟩,fun hp=>(hp.first p hp1).2⟩
   rw [hp1] at hq; simp at hq; subst hq
   exact ⟨by omega,h9⟩
  ·simp only [beq_eq_false_iff_ne] at h8
   exact retF (fun hp=>h8 (by have:=(hp.first p hp1).1; omega)) hxm
theorem qhp {m:Mem} {d p:Sl} {im:Image} (h:ImageR m d p im) (hp4:im.procs.length<=4) :
  q08 Tryz.prog q6m [.agg #[Sl.v d,Sl.v p]] m fun v m'=>∃ f,v=.agg #[Sl.v d,Sl.v f]/\SlOf m' 5 (FuncR m') f im.procs/\Ext m m':=by
 apply qel
 simp -zeta only [q0a,q09,rI,rS,rB,cI,cB,cS,dI,dB,dS,gk,rg]
 intro m1 m2 m3 m4 m5
 have hpl:=h.procs.len
 have hx4:Ext m m4:=(((Ext.refl m).pushed _).pushed _ |>.pushed _).pushed _
 have s3:m3.size=m.size+3:=by simp [m3,m2,m1]
 have s2:m2.size=m.size+2:=by simp [m2,m1]
 have s1:m1.size=m.size+1:=by simp [m1]
 have s5:m5.size=m.size+4:=by simp [m5,m4,q02,s3]
 have hx5:Ext m m5:=hx4.scells (by omega) _ _
 have hb5:Blk m5 m3.size q6b [.s d,.s (.mk m2.size 0 0 0)]:=Blk.scells (m:=m4) (o:=0) (r:=[.s d,.s (.mk m2.size 0 0 0)]) (Blk.push m3 _ _)
 have hx35:Ext m3 m5:=((Ext.refl m3).pushed _).scells (Nat.le_refl _) _ _
 have ho5:Own m m5 q6g 5 (.mk m2.size 0 0 0) ([]:List (List Ce)).flatten :=
  (Own.new (((Ext.refl m).pushed _).pushed _:Ext m m2) q6g 5 [] 0 (by simp):Own m m3 q6g 5 (.mk m2.size 0 0 0) []).ext hx35
 clear_value m5
 refine forI (n:=im.procs.length) (by omega) (fun k m'=>Ext m m'/\m5.size<=m'.size/\∃ r css,Blk m' m3.size q6b [.s d,.s r]/\Own m m' q6g 5 r css.flatten/\RowsOf 5 (FuncR m) css (im.procs.take k)/\r ≠ .nil/\m1.size < r.blk/\r.blk ≠ m3.size/\r.len=k)
  ⟨hx5,Nat.le_refl _,_,[],hb5,ho5,by simpa using RowsOf.nil 5 (FuncR m),by simp,by simp; omega,by simp; omega,rfl⟩ ?_
 rintro k m6 I μ hk ⟨hx,hsz,r,css,hbx,hown,hrows,hrn,hr1,hr3,hrl⟩ next
 refine ⟨fun h1=>?_,fun h1=>?_⟩
 ·simp only [decide_eq_true_eq] at h1
  obtain ⟨q,hq⟩:=q00 (l:=im.procs) (k:=k) (by omega)
  obtain ⟨a,b,c,ha,hb,hc,g0,g1,g2,g3,g4⟩:=h.procs.at' hq
  refine ⟨r,hbx.get 1,by omega,by omega,a,by simpa using hx.gcell g0,by omega,by omega,_,by simpa using hx.gcell g2,?_⟩
  intro m7
  have hx67:Ext m6 m7:=Ext.push _ _
  refine ⟨hx67.keepG (hbx.get 1),?_⟩
  have hrow:rowIs m7 m6.size 0 [.s a,.i q.result,.i 0,.i 0,.s .nil]:=(Blk.push m6 _ _).row
  have hbx7:=hbx.ext hx67
  have hs7:m7.size=m6.size+1:=by simp [m7]
  clear_value m7
  refine Own.append (zs:=[.s .nil,.i 0,.i 0,.i 0,.s .nil]) (new:=[.s a,.i q.result,.i 0,.i 0,.s .nil]) (hown.ext hx67) (hx.trans hx67) rfl hrow (by simp [hrl]; omega) ?_
  intro r' m8 h7 h8 h9 h10 h11 h12
  have h11':∀ b,b < m7.size->b ≠ r.blk->m8[b]?=m7[b]?:=fun b hb hne=>h11 b hb (fun _=>hne)
  have hr'1:m1.size < r'.blk/\r'.blk ≠ m3.size:=by
   rcases h12 with e | ⟨_,e⟩ | e
   ·rw [e] at h9; simp at h9
   ·rw [e]; constructor <;> omega
   ·rw [e]; constructor <;> omega
  have hbx8:Blk m8 m3.size q6b [.s d,.s r]:=hbx7.congr (h11' _ (by omega) (fun e=>hr3 e.symm))
  refine ⟨fun b hb=>?_,hbx8.wrOk (by simp),?_⟩
  ·simp at hb
   rcases hb with rfl | rfl
   ·exact h11' _ (by omega) (by omega)
   ·exact h11' _ (by omega) (by omega)
  intro m9
  have hs9:m9.size=m8.size:=by simp [m9,q02]
  have hb9:Blk m9 m3.size q6b [.s d,.s r']:=Blk.scells (m:=m8) (o:=1) (r:=[.s r']) hbx8
  have hne9:∀ b,b ≠ m3.size->m9[b]?=m8[b]?:=fun b hb=>q0n _ _ _ _ hb
  have hx9:Ext m m9:=h8.scells (by omega) _ _
  clear_value m9
  refine ⟨fun b hb=>?_,?_⟩
  ·simp at hb
   rcases hb with rfl | rfl
   ·exact hne9 _ (by omega)
   ·exact hne9 _ (by omega)
  refine next (by omega) _ ⟨hx9,by omega,r',css ++ [[.s a,.i q.result,.i 0,.i 0,.s .nil]],hb9,?_,?_,?_,hr'1.1,hr'1.2,by simp [h9,hrl]⟩
  ·rw [List.flatten_append]
   exact (by simpa using h7:Own m m8 q6g 5 r' (css.flatten ++ [[.s a,.i q.result,.i 0,.i 0,.s .nil]].flatten)).congr (hne9 _ hr'1.2)
  ·rw [q06 hq]
   exact hrows.snoc rfl ⟨a,rfl,ha⟩
  ·intro e
   rw [e] at hr'1; simp at hr'1
 ·simp only [decide_eq_false_iff_not] at h1
  refine ⟨d,hbx.get 0,r,hbx.get 1,?_⟩
  intro m7
  have hne:∀ b,b ≠ m1.size->m7[b]?=m6[b]?:=fun b hb=>q0n _ _ _ _ hb
  have hx7:Ext m m7:=hx.scells (by omega) _ _
  refine ⟨r,rfl,?_,hx7⟩
  rw [q0b (by omega)] at hrows
  exact (SlOf.ofOwn (hown.congr (hne _ (by omega))) hrows (by omega) (by omega)).mono (Ext.refl _) (FuncR.ext hx7)
structure ProcOk (im:Image) (p:Proc):Prop where
 lent:LentOk p.params p.lent
 regs:(p.params.length:Int)<=p.regs/\1<=p.regs/\p.regs<=2000
 len:1<=p.code.length/\p.code.length<=2000
 each:∀ (k:Nat) (i:Instr),p.code[k]?=some i->InstrOk im p k i
 last:∀ i,p.code[p.code.length - 1]?=some i->i.op=23 \/ i.op=24
theorem qli {m:Mem} {d p:Sl} {im:Image} (h:ImageR m d p im) (ht:TypesOk im.decls) {a l c:Sl} {q:Proc} (hq:ProcC m a l c q) :
  q0o Tryz.prog q82 [.agg #[Sl.v d,Sl.v p],.agg #[Sl.v a,Sl.v l,vi q.result,vi q.regs,Sl.v c]] m (ProcOk im q):=by
 apply qgw
 simp -zeta only [q0a,q09,rI,rS,rB,cI,cB,cS,dI,dB,dS,gk,rg]
 intro m1 m2
 have hx0:Ext m m2:=((Ext.refl m).pushed _).pushed _
 have hl:∀ b ∈ [m1.size,m.size],b < m2.size:=by simp [m2,m1]; omega
 clear_value m2
 have hal:=hq.params.len
 have hcl:=hq.code.len
 refine (ql7 (hq.params.ext hx0) (hq.lent.ext hx0)).thenS (Ext.refl _) hl fun b m3 hb h1 h2=>⟨_,rfl,fun h3=>?_,fun h3=>?_⟩
 ·exact retF (fun hp=>nb hb h3 hp.lent) (hx0.trans h1)
 have hlent:=yb hb h3
 refine (q0e _ _ _ _).thenS h2 hl fun b m4 hb h4 h5=>⟨_,rfl,fun h6=>?_,fun h6=>?_⟩
 ·refine retF (fun hp=>nb hb h6 ?_) (hx0.trans h5)
  have:=hp.regs
  split <;> omega
 have hregs:=yb hb h6
 refine (q0e _ _ _ _).thenS h5 hl fun b m5 hb h7 h8=>⟨_,rfl,fun h9=>?_,fun h9=>?_⟩
 ·exact retF (fun hp=>nb hb h9 (by have:=hp.len; omega)) (hx0.trans h8)
 have hlen:=yb hb h9
 have hregs':(q.params.length:Int)<=q.regs/\1<=q.regs/\q.regs<=2000:=by
  split at hregs <;> omega
 refine forI (n:=q.code.length) (by omega) (fun j m'=>Ext m2 m'/\∀ (k:Nat) (i:Instr),k < j->q.code[k]?=some i->InstrOk im q k i) ⟨h8,by simp⟩ ?_
 rintro j m6 I μ hj ⟨hx,hn⟩ next
 have hxm:=hx0.trans hx
 refine ⟨fun h10=>?_,fun h10=>?_⟩
 ·simp only [decide_eq_true_eq] at h10
  obtain ⟨i,hi⟩:=q00 (l:=q.code) (k:=j) (by omega)
  refine (qin (ImageR.ext hxm h) ht (hq.ext hxm) hregs'.2 hi).thenS hx hl fun b m7 hb h11 h12=>⟨_,rfl,fun h13=>?_,fun h13=>?_⟩
  ·exact retF (fun hp=>nb hb h13 (hp.each j i hi)) (hx0.trans h12)
  ·refine next (by omega) _ ⟨h12,fun k i' hk hi'=>?_⟩
   by_cases e:k=j
   ·subst e
    rw [hi] at hi'; simp at hi'; subst hi'
    exact yb hb h13
   ·exact hn k i' (by omega) hi'
 ·simp only [decide_eq_false_iff_not] at h10
  obtain ⟨i,hi⟩:=q00 (l:=q.code) (k:=q.code.length - 1) (by omega)
  obtain ⟨xa,xj,ha,hj',g0,g1,g2,g3,g4,g5⟩:=(q1c.ext hxm hq.code).at' hi
  have e1:w64 ((c.len:Int) - 1)=((q.code.length - 1:Nat):Int):=by rw [q07 (by omega) (by omega)]; omega
  rw [e1]
  have hall:∀ (k:Nat) (i:Instr),q.code[k]?=some i->InstrOk im q k i:=fun k i' hi'=>hn k i' (by have:=q04 hi'; omega) hi'
  refine ⟨by omega,by omega,_,by simpa using g0,fun h11=>?_,fun h11=>?_⟩
  ·simp only [beq_iff_eq] at h11
   refine retT ⟨hlent,hregs',by omega,hall,fun i' hi'=>?_⟩ hxm
   rw [hi] at hi'; simp at hi'; subst hi'
   exact Or.inl h11
  ·simp only [beq_eq_false_iff_ne] at h11
   refine ⟨by omega,by omega,_,by simpa using g0,retB ?_ hxm⟩
   simp only [beq_iff_eq]
   refine ⟨fun h12=>⟨hlent,hregs',by omega,hall,fun i' hi'=>?_⟩,fun hp=>?_⟩
   ·rw [hi] at hi'; simp at hi'; subst hi'
    exact Or.inr h12
   ·rcases hp.last i hi with h12 | h12
    ·exact absurd h12 h11
    ·exact h12
structure ImageOk (im:Image):Prop where
 sigs:SigsOk im.decls im.procs
 each:∀ p ∈ im.procs,ProcOk im p
theorem qiv {m:Mem} {d p:Sl} {im:Image} (h:ImageR m d p im):q0o Tryz.prog q7m [.agg #[Sl.v d,Sl.v p]] m (ImageOk im):=by
 apply qff
 simp -zeta only [q0a,q09,rI,rS,rB,cI,cB,cS,dI,dB,dS,gk,rg]
 intro m1
 have hx0:Ext m m1:=(Ext.refl m).pushed _
 have hl:∀ b ∈ [m.size],b < m1.size:=by simp [m1]
 clear_value m1
 have hpl:=h.procs.len
 refine ⟨fun h1=>?_,fun h1=>?_⟩
 ·simp only [decide_eq_true_eq] at h1
  exact retF (fun hp=>by have:=hp.sigs.len; omega) hx0
 simp only [decide_eq_false_iff_not] at h1
 refine (qhp (ImageR.ext hx0 h) (by omega)).thenS (Ext.refl _) hl ?_
 rintro _ m2 ⟨f,rfl,hf,h2⟩
 refine ⟨h2,d,f,rfl,?_⟩
 refine (qkv (q0q.ext (hx0.trans h2) h.decls) hf).thenS h2 hl fun b m3 hb h3 h4=>⟨_,rfl,fun h5=>?_,fun h5=>?_⟩
 ·exact retF (fun hp=>nb hb h5 hp.sigs) (hx0.trans h4)
 have hsigs:=yb hb h5
 refine forI (n:=im.procs.length) (by omega) (fun j m'=>Ext m1 m'/\∀ q ∈ im.procs.take j,ProcOk im q) ⟨h4,by simp⟩ ?_
 rintro j m4 I μ hj ⟨hx,hn⟩ next
 have hxm:=hx0.trans hx
 refine ⟨fun h6=>?_,fun h6=>?_⟩
 ·simp only [decide_eq_true_eq] at h6
  obtain ⟨q,hq⟩:=q00 (l:=im.procs) (k:=j) (by omega)
  obtain ⟨a,b,c,ha,hb,hc,g0,g1,g2,g3,g4⟩:=(ProcSl.ext hxm h.procs).at' hq
  refine ⟨by omega,by omega,_,g0,_,g1,_,g2,_,g3,_,g4,?_⟩
  refine (qli (ImageR.ext hxm h) hsigs.types ⟨ha,hb,hc⟩).thenS hx hl fun b m5 hb h7 h8=>⟨_,rfl,fun h9=>?_,fun h9=>?_⟩
  ·exact retF (fun hp=>nb hb h9 (hp.each q (q05 hq))) (hx0.trans h8)
  ·exact next (by omega) _ ⟨h8,q0f hq hn (yb hb h9)⟩
 ·simp only [decide_eq_false_iff_not] at h6
  exact retT ⟨hsigs,q0w (by omega) hn⟩ hxm
end
section
structure Cell where
 count:Int
 tag:Int
 fields:List Int
structure Frame where
 proc:Int
 pc:Int
 dst:Int
 regs:List Int
 own:List Int
 held:List Int
structure St where
 status:Int
 value:Int
 calls:Int
 most:Int
 out:List Int
 heap:List Cell
 frames:List Frame
def at' (l:List Int) (i:Int):Int:=l.getD i.toNat 0
def setI (l:List Int) (i:Int) (v:Int):List Int:=l.set i.toNat v
def ix (w:Int):Nat:=(w - 1000).toNat
def isInt (w:Int):Prop:=-999<=w/\w<=999
def Live (h:List Cell) (a:Nat):Prop:=∃ c,h[a]?=some c/\0 < c.count
def live (h:List Cell) (w:Int):Prop:=1000<=w/\Live h (ix w)
def isWord (h:List Cell) (w:Int):Prop:=isInt w \/ live h w
def free:Cell:=⟨0,0,[]⟩
def q01 (h:List Cell) (w:Int):Cell:=(h[ix w]?).getD free
def pat0:Proc:=⟨[],[],0,0,[]⟩
def q0y (im:Image) (n:Int):Proc:=(im.procs[n.toNat]?).getD pat0
def q0j (im:Image):Int:=(q17 im.decls).length
def occ:List Int->Nat->Int
 | [],_=>0
 | w :: ws,a=>(if w=1000+(a:Int) then 1 else 0)+occ ws a
def refs:List Cell->Nat->Int
 | [],_=>0
 | c :: h,a=>occ c.fields a+refs h a
def q0m:List Int->List Int->Nat->Int
 | r :: rs,o :: os,a=>(if r=1000+(a:Int) then o else 0)+q0m rs os a
 | _,_,_=>0
def owns:List Frame->Nat->Int
 | [],_=>0
 | f :: fs,a=>q0m f.regs f.own a+owns fs a
def holds:List Frame->Nat->Int
 | [],_=>0
 | f :: fs,a=>occ f.held a+holds fs a
def lentIn (im:Image) (x:Instr) (k:Nat):Bool:=(q0y im x.num).lent.any (fun y=>y == (k:Int))
def unlent (im:Image) (x:Instr):Nat->List Int->List Int
 | _,[]=>[]
 | k,r :: rs=>if lentIn im x k then unlent im x (k+1) rs else r :: unlent im x (k+1) rs
def q19 (im:Image) (x:Instr):Nat->List Int->List Int
 | _,[]=>[]
 | k,r :: rs=>if lentIn im x k then r :: q19 im x (k+1) rs else q19 im x (k+1) rs
def taken (im:Image) (x:Instr):List Int :=
 if x.op=15 \/ x.op=6 \/ x.op=10 \/ x.op=11 \/ x.op=18 \/ x.op=23 then x.args
 else if x.op=16 \/ x.op=17 then x.args.take 1
 else if x.op=9 \/ x.op=24 then unlent im x 0 x.args
 else []
def q0c (regs own:List Int):List Int->List Int
 | []=>own
 | r :: rs=>q0c regs (if 1000<=at' regs r then setI own r (at' own r - 1) else own) rs
def words (f:Frame) (args:List Int):List Int:=args.map (at' f.regs)
def ptrs (l:List Int):List Int:=l.filter (fun w=>decide (1000<=w))
def q43 (h:List Cell) (ws:List Int):Prop:=∀ w ∈ ws,1000<=w->(q01 h w).count+occ ws (ix w)<=999999
def MayOpen (h:List Cell) (f:Frame) (x:Instr):Prop :=
 let w:=at' f.regs (at' x.args 0)
 live h w/\ptrs (q01 h w).fields=words f (x.args.drop 1)/\((q01 h w).count=1 \/ q43 h (q01 h w).fields)/\(x.op=17->at' f.held (at' x.args 0)=0)
def MayApply (im:Image) (h:List Cell) (w:Int):Prop :=
 live h w/\0<=(q01 h w).tag - q0j im/\(q01 h w).tag - q0j im < im.procs.length /\
  (q0y im ((q01 h w).tag - q0j im)).params.length=(q01 h w).fields.length+1/\(q0y im ((q01 h w).tag - q0j im)).lent.length=0 /\
  ((q01 h w).count=1 \/ q43 h (q01 h w).fields)
def MayPlace (h:List Cell) (f:Frame) (x:Instr):Prop :=
 x.into ≠ 0->at' f.held (x.into - 1) ≠ 0->(q01 h (at' f.held (x.into - 1))).fields.length=x.args.length
def LentLive (im:Image) (h:List Cell) (f:Frame) (x:Instr):Prop:=∀ r ∈ q19 im x 0 x.args,1000<=at' f.regs r->live h (at' f.regs r)
def Zero (l:List Int):Prop:=∀ n ∈ l,n=0
structure MayRun (im:Image) (s:St) (f:Frame) (x:Instr) (own:List Int):Prop where
 nn:∀ o ∈ own,0<=o
 dst:Sets x.op->at' own x.dst<=0
 ints:(x.op=1 \/ x.op=2 \/ x.op=3 \/ x.op=4 \/ x.op=5 \/ x.op=20)->∀ r ∈ x.args,at' f.regs r < 1000
 place:x.op=6->MayPlace s.heap f x
 lent:(x.op=9 \/ x.op=24)->LentLive im s.heap f x
 zero:(x.op=24 \/ x.op=23)->Zero own/\Zero f.held
 ret:x.op=23->1 < s.frames.length \/ at' f.regs (at' x.args 0) < 1000
 apply:x.op=11->MayApply im s.heap (at' f.regs (at' x.args 0))
 dup:x.op=14->live s.heap (at' f.regs (at' x.args 0))/\(q01 s.heap (at' f.regs (at' x.args 0))).count < 999999
 drop:x.op=15->1000<=at' f.regs (at' x.args 0)
 open':(x.op=16 \/ x.op=17)->MayOpen s.heap f x
 load:x.op=19->live s.heap (at' f.regs (at' x.args 0))/\x.num < (q01 s.heap (at' f.regs (at' x.args 0))).fields.length
 switch:x.op=21->live s.heap (at' f.regs (at' x.args 0))/\(q01 s.heap (at' f.regs (at' x.args 0))).tag ∈ q1h im.decls x.num
def clamp (n:Int):Int:=if n < -999 then -999 else if 999 < n then 999 else n
def prim (op a b:Int):Int :=
 if op=1 then clamp (a+b) else if op=2 then clamp (a - b) else if op=3 then clamp (a*b) else if op=4/\a < b then 1 else 0
def q0t:List Cell->Nat
 | []=>0
 | c :: h=>if c.count=0 then 0 else q0t h+1
def place (h:List Cell) (a:Nat) (c:Cell):List Cell:=if a=h.length then h ++ [c] else h.set a c
def bump (h:List Cell) (w:Int):List Cell:=h.set (ix w) { q01 h w with count:=(q01 h w).count+1 }
def less (h:List Cell) (w:Int):List Cell:=h.set (ix w) { q01 h w with count:=(q01 h w).count - 1 }
def refer (h:List Cell):List Int->List Cell
 | []=>h
 | w :: ws=>refer (bump h w) ws
def trimN (h:List Cell):Nat->Nat
 | 0=>0
 | n+1=>match h[n]? with
  | some c=>if c.count=0 then trimN h n else n+1
  | none=>trimN h n
def trim (h:List Cell):List Cell:=h.take (trimN h h.length)
def bulk:List Cell->Nat
 | []=>0
 | c :: h=>(if 0 < c.count then c.count.toNat+c.fields.length else 0)+bulk h
theorem q3w:∀ {h:List Cell} {a:Nat} {c c':Cell},h[a]?=some c->bulk (h.set a c')+(if 0 < c.count then c.count.toNat+c.fields.length else 0)=bulk h+(if 0 < c'.count then c'.count.toNat+c'.fields.length else 0)
 | [],a,c,c',h=>by simp at h
 | d :: h,0,c,c',hc=>by simp at hc; subst hc; simp only [List.set_cons_zero,bulk]; omega
 | d :: h,a+1,c,c',hc=>by
  have:=q3w (h:=h) (a:=a) (c:=c) (c':=c') (by simpa using hc)
  simp only [List.set_cons_succ,bulk]; omega
theorem q0i {h:List Cell} {w:Int} (hl:live h w):h[ix w]?=some (q01 h w)/\0 < (q01 h w).count:=by
 obtain ⟨_,c,hc,hp⟩:=hl
 simp [q01,hc,hp]
open Classical in
noncomputable def dropS (h:List Cell) (st:List Int):List Cell :=
 match st with
 | []=>h
 | w :: r =>
  if hl:live h w then
   if h1:(q01 h w).count=1 then dropS (h.set (ix w) free) ((q01 h w).fields.reverse ++ r)
   else dropS (less h w) r
  else dropS h r
termination_by bulk h+st.length
decreasing_by
 ·obtain ⟨e,hp⟩:=q0i hl
  have:=q3w (c':=free) e
  simp only [free,if_pos hp] at this
  simp [free]
  simp at this
  omega
 ·obtain ⟨e,hp⟩:=q0i hl
  have h2:=q3w (c':={ q01 h w with count:=(q01 h w).count - 1 }) e
  simp only [if_pos hp] at h2
  rw [if_pos (by omega)] at h2
  simp [less]
  omega
 ·simp
theorem qbg (h:List Cell):dropS h []=h:=by rw [dropS]
theorem qbe {h:List Cell} {w:Int} {r:List Int} (hl:live h w) (h1:(q01 h w).count=1):dropS h (w :: r)=dropS (h.set (ix w) free) ((q01 h w).fields.reverse ++ r):=by
 rw [dropS,dif_pos hl,dif_pos h1]
theorem q9a {h:List Cell} {w:Int} {r:List Int} (hl:live h w) (h1:(q01 h w).count ≠ 1):dropS h (w :: r)=dropS (less h w) r:=by
 rw [dropS,dif_pos hl,dif_neg h1]
theorem q9p {h:List Cell} {w:Int} {r:List Int} (hl:¬ live h w):dropS h (w :: r)=dropS h r:=by
 rw [dropS,dif_neg hl]
def Frame.put (f:Frame) (r w o:Int):Frame:={ f with regs:=setI f.regs r w,own:=setI f.own r o }
def q1g (w:Int):Int:=if 1000<=w then 1 else 0
def q0x (own:List Int):List Int->List Int
 | []=>own
 | r :: rs=>q0x (setI own r (at' own r+1)) rs
def q0p (n:Nat):List Int:=List.replicate n 0
def q10 (lent:List Int):Nat->List Int->List Int
 | _,[]=>[]
 | k,w :: ws=>(if lent.any (fun y=>y == (k:Int)) then 0 else q1g w) :: q10 lent (k+1) ws
def q0r (im:Image) (g dst:Int) (ws:List Int):Frame :=
 ⟨g,0,dst,ws ++ q0p ((q0y im g).regs.toNat - ws.length),q10 (q0y im g).lent 0 ws ++ q0p ((q0y im g).regs.toNat - ws.length),q0p (q0y im g).regs.toNat⟩
open Classical in
noncomputable def apart (h:List Cell) (w:Int):List Cell :=
 if (q01 h w).count=1 then trim (h.set (ix w) free) else refer (less h w) (ptrs (q01 h w).fields)
def idxOf (l:List Int) (n:Int):Nat:=l.findIdx (fun y=>y == n)
open Classical in
noncomputable def perform (im:Image) (s:St) (fs:List Frame) (f:Frame) (x:Instr) (own:List Int):St :=
 let g:Frame:={ f with own:=own,pc:=f.pc+1 }
 let a0:=at' x.args 0
 let w:=at' f.regs a0
 if x.op=0 then { s with frames:=fs ++ [g.put x.dst x.num 0] }
 else if x.op=1 \/ x.op=2 \/ x.op=3 \/ x.op=4 then { s with frames:=fs ++ [g.put x.dst (prim x.op w (at' f.regs (at' x.args 1))) 0] }
 else if x.op=5 then { s with out:=s.out ++ [w],frames:=fs ++ [g.put x.dst w 0] }
 else if x.op=6 then
  if x.into ≠ 0/\at' f.held (x.into - 1) ≠ 0 then
   { s with heap:=s.heap.set (ix (at' f.held (x.into - 1))) ⟨1,x.num,words f x.args⟩,frames:=fs ++ [{ g with held:=setI f.held (x.into - 1) 0 }.put x.dst (at' f.held (x.into - 1)) 1] }
  else { s with heap:=place s.heap (q0t s.heap) ⟨1,x.num,words f x.args⟩,frames:=fs ++ [g.put x.dst (1000+q0t s.heap) 1] }
 else if x.op=10 then { s with heap:=place s.heap (q0t s.heap) ⟨1,q0j im+x.num,words f x.args⟩,frames:=fs ++ [g.put x.dst (1000+q0t s.heap) 1] }
 else if x.op=14 then { s with heap:=bump s.heap w,frames:=fs ++ [{ g with own:=setI own a0 (at' own a0+1) }] }
 else if x.op=15 then { s with heap:=trim (dropS s.heap [w]),frames:=fs ++ [g] }
 else if x.op=16 \/ x.op=17 then
  let g':={ g with own:=q0x own (x.args.drop 1) }
  if (q01 s.heap w).count=1/\x.op=17 then { s with heap:=s.heap.set (ix w) ⟨-1,0,q0p (q01 s.heap w).fields.length⟩,frames:=fs ++ [{ g' with held:=setI f.held a0 w }] }
  else { s with heap:=apart s.heap w,frames:=fs ++ [g'] }
 else if x.op=18 then { s with frames:=fs ++ [g.put x.dst w (q1g w)] }
 else if x.op=19 then { s with frames:=fs ++ [g.put x.dst (at' (q01 s.heap w).fields x.num) 0] }
 else if x.op=20 then { s with frames:=fs ++ [{ g with pc:=if w=0 then x.num else f.pc+1 }] }
 else if x.op=21 then { s with frames:=fs ++ [{ g with pc:=at' x.jumps (idxOf (q1h im.decls x.num) (q01 s.heap w).tag) }] }
 else if x.op=22 then { s with frames:=fs ++ [{ g with pc:=x.num }] }
 else if x.op=9 then { s with calls:=s.calls+1,frames:=fs ++ [g,q0r im x.num x.dst (words f x.args)] }
 else if x.op=24 then { s with calls:=s.calls+1,frames:=fs ++ [q0r im x.num f.dst (words f x.args)] }
 else if x.op=11 then
  { s with calls:=s.calls+1,heap:=apart s.heap w,frames:=fs ++ [g,q0r im ((q01 s.heap w).tag - q0j im) x.dst ((q01 s.heap w).fields ++ [at' f.regs (at' x.args 1)])] }
 else -- 23
  match fs.getLast? with
  | none=>{ s with status:=0,value:=w,frames:=[] }
  | some p=>{ s with frames:=fs.dropLast ++ [p.put f.dst w (q1g w)] }
def isCall (op:Int):Prop:=op=9 \/ op=11 \/ op=24
instance (op:Int):Decidable (isCall op):=by unfold isCall; infer_instance
def q14 (im:Image) (f:Frame):Instr:=((q0y im f.proc).code[f.pc.toNat]?).getD ⟨0,0,0,0,[],[]⟩
open Classical in
noncomputable def step (im:Image) (s:St):St :=
 if s.status ≠ 3 then s else
 match s.frames.getLast? with
 | none=>s
 | some f =>
  if isCall (q14 im f).op/\s.calls=s.most then { s with status:=1 }
  else if MayRun im s f (q14 im f) (q0c f.regs f.own (taken im (q14 im f))) then
   perform im s s.frames.dropLast f (q14 im f) (q0c f.regs f.own (taken im (q14 im f)))
  else { s with status:=2 }
end
section
theorem q4d:∀ (l r:List Int) (a:Nat),occ (l ++ r) a=occ l a+occ r a
 | [],r,a=>by simp [occ]
 | w :: l,r,a=>by simp only [List.cons_append,occ,q4d l r a]; omega
theorem qek:∀ (l:List Int) (a:Nat),occ l.reverse a=occ l a
 | [],a=>rfl
 | w :: l,a=>by simp only [List.reverse_cons,q4d,qek l a,occ]; omega
theorem occ_nn:∀ (l:List Int) (a:Nat),0<=occ l a
 | [],a=>by simp [occ]
 | w :: l,a=>by have:=occ_nn l a; simp only [occ]; split <;> omega
theorem q56:∀ {l:List Int} {a:Nat},(1000+(a:Int)) ∉ l->occ l a=0
 | [],a,_=>rfl
 | w :: l,a,h=>by
  simp only [List.mem_cons,not_or] at h
  simp only [occ,q56 h.2]
  rw [if_neg (fun e=>h.1 e.symm)]; rfl
theorem q8x:∀ {l:List Int} {a:Nat},(1000+(a:Int)) ∈ l->1<=occ l a
 | [],a,h=>by simp at h
 | w :: l,a,h=>by
  simp only [occ]
  rcases List.mem_cons.1 h with rfl | h
  ·rw [if_pos rfl]; have:=occ_nn l a; omega
  ·have:=q8x h; split <;> omega
theorem qp9 {l:List Int} {a:Nat} (h:0 < occ l a):(1000+(a:Int)) ∈ l :=
 Classical.byContradiction fun hn=>by rw [q56 hn] at h; omega
theorem qt3 (n:Nat) (a:Nat):occ (q0p n) a=0:=q56 fun h=>by have:=List.eq_of_mem_replicate h; omega
theorem qaa:∀ (l:List Int) (a:Nat),occ (ptrs l) a=occ l a
 | [],a=>rfl
 | w :: l,a=>by
  have:=qaa l a
  simp only [ptrs] at this ⊢
  rw [List.filter_cons]
  split
  ·simp only [occ,this]
  ·rename_i h
   simp only [occ,this]
   rw [if_neg (fun e=>h (by simp; omega))]; omega
theorem q3d:∀ (l:List Int) (a:Nat),occ l a<=l.length
 | [],a=>by simp [occ]
 | w :: l,a=>by have:=q3d l a; simp only [occ,List.length_cons]; split <;> omega
theorem qb1:∀ (h k:List Cell) (a:Nat),refs (h ++ k) a=refs h a+refs k a
 | [],k,a=>by simp [refs]
 | c :: h,k,a=>by simp only [List.cons_append,refs,qb1 h k a]; omega
theorem q60:∀ (h:List Cell) (a:Nat),0<=refs h a
 | [],a=>by simp [refs]
 | c :: h,a=>by have:=q60 h a; have:=occ_nn c.fields a; simp only [refs]; omega
theorem qdo:∀ {h:List Cell} {a:Nat} {c:Cell} (c':Cell) (_:h[a]?=some c) (b:Nat),refs (h.set a c') b=refs h b - occ c.fields b+occ c'.fields b
 | [],a,c,c',h,b=>by simp at h
 | d :: h,0,c,c',hc,b=>by simp at hc; subst hc; simp only [List.set_cons_zero,refs]; omega
 | d :: h,a+1,c,c',hc,b=>by
  have:=qdo (h:=h) (a:=a) c' (by simpa using hc) b
  simp only [List.set_cons_succ,refs,this]; omega
theorem qr3:∀ {h:List Cell} {a:Nat},0 < refs h a->∃ c ∈ h,(1000+(a:Int)) ∈ c.fields
 | [],a,h=>by simp [refs] at h
 | c :: h,a,hp=>by
  simp only [refs] at hp
  rcases Classical.em (0 < occ c.fields a) with h1 | h1
  ·exact ⟨c,List.mem_cons_self,qp9 h1⟩
  ·obtain ⟨d,hd,hw⟩:=qr3 (h:=h) (a:=a) (by have:=occ_nn c.fields a; omega)
   exact ⟨d,List.mem_cons_of_mem _ hd,hw⟩
theorem qsj:∀ {h:List Cell} {c:Cell} (_:c ∈ h) (a:Nat),occ c.fields a<=refs h a
 | [],c,hc,a=>by simp at hc
 | d :: h,c,hc,a=>by
  simp only [refs]
  rcases List.mem_cons.1 hc with rfl | hc
  ·have:=q60 h a; omega
  ·have:=qsj hc a; have:=occ_nn d.fields a; omega
structure CellOk (h:List Cell) (c:Cell):Prop where
 fl:c.fields.length<=3
 lo:-1<=c.count
 hi:c.count<=999999
 dead:c.count < 1->c.tag=0/\(∀ w ∈ c.fields,w=0)/\(c.count=0->c.fields=[])
 alive:0 < c.count->(∀ w ∈ c.fields,isWord h w)/\0<=c.tag/\c.tag<=99
def Acyc (h:List Cell):Prop:=∃ rank:Nat->Nat,∀ (i:Nat) (c:Cell),h[i]?=some c->∀ w ∈ c.fields,1000<=w->rank (ix w) < rank i
structure HInv (h:List Cell) (e:Nat->Int):Prop where
 cell:∀ c ∈ h,CellOk h c
 acyc:Acyc h
 ex:∀ (a:Nat) (c:Cell),h[a]?=some c->0 < c.count->c.count=refs h a+e a
 nn:∀ a,0<=e a
 lv:∀ a,0 < e a->Live h a
theorem HInv.congr {h:List Cell} {e e':Nat->Int} (hi:HInv h e) (he:∀ b,e' b=e b):HInv h e':=by
 have:e'=e:=funext he
 rw [this]; exact hi
theorem ix_ptr (a:Nat):ix (1000+(a:Int))=a:=by unfold ix; omega
theorem ptr_ix {w:Int} (h:1000<=w):1000+((ix w:Nat):Int)=w:=by unfold ix; omega
theorem ix_inj {v w:Int} (hv:1000<=v) (hw:1000<=w) (h:ix v=ix w):v=w:=by rw [← ptr_ix hv,← ptr_ix hw,h]
theorem HInv.field {h:List Cell} {e:Nat->Int} (hi:HInv h e) {c:Cell} (hc:c ∈ h) {w:Int} (hw:w ∈ c.fields) (hp:1000<=w):live h w:=by
 have ho:=hi.cell c hc
 rcases Classical.em (0 < c.count) with h1 | h1
 ·rcases (ho.alive h1).1 w hw with h2 | h2
  ·have:=h2.2; omega
  ·exact h2
 ·have:=(ho.dead (by omega)).2.1 w hw; omega
theorem HInv.norefs {h:List Cell} {e:Nat->Int} (hi:HInv h e) {a:Nat} (hl:¬ Live h a):refs h a=0:=by
 rcases Classical.em (0 < refs h a) with h1 | h1
 ·obtain ⟨c,hc,hw⟩:=qr3 h1
  have:=(hi.field hc hw (by omega)).2
  rw [ix_ptr] at this; exact absurd this hl
 ·have:=q60 h a; omega
theorem HInv.noext {h:List Cell} {e:Nat->Int} (hi:HInv h e) {a:Nat} (hl:¬ Live h a):e a=0:=by
 have:=hi.nn a
 rcases Classical.em (0 < e a) with hp | hp
 ·exact absurd (hi.lv a hp) hl
 ·omega
theorem q2b {h:List Cell} {a b:Nat} {c:Cell} (hab:b ≠ a):(h.set a c)[b]?=h[b]?:=by rw [List.getElem?_set_ne (fun e=>hab e.symm)]
theorem q1d {h:List Cell} {a:Nat} {c d:Cell} (hd:h[a]?=some d):(h.set a c)[a]?=some c:=by
 rw [List.getElem?_set_self (q04 hd)]
theorem Live.ne {h:List Cell} {a b:Nat} {c:Cell} (hab:b ≠ a):Live (h.set a c) b ↔ Live h b:=by unfold Live; rw [q2b hab]
theorem Live.self {h:List Cell} {a:Nat} {c d:Cell} (hd:h[a]?=some d):Live (h.set a c) a ↔ 0 < c.count:=by
 unfold Live; rw [q1d hd]; simp
theorem isWord.mono {h h':List Cell} {w:Int} (hw:isWord h w) (hl:1000<=w->Live h (ix w)->Live h' (ix w)):isWord h' w:=by
 rcases hw with h1 | h1
 ·exact Or.inl h1
 ·exact Or.inr ⟨h1.1,hl h1.1 h1.2⟩
theorem CellOk.mono {h h':List Cell} {c:Cell} (hc:CellOk h c) (hl:0 < c.count->∀ w ∈ c.fields,1000<=w->Live h (ix w)->Live h' (ix w)):CellOk h' c :=
 ⟨hc.fl,hc.lo,hc.hi,hc.dead,fun hp=>⟨fun w hw=>((hc.alive hp).1 w hw).mono (hl hp w hw),(hc.alive hp).2⟩⟩
theorem q5z {h:List Cell} {a:Nat} {c x:Cell} (hx:x ∈ h.set a c):x=c \/ ∃ b,b ≠ a/\h[b]?=some x:=by
 obtain ⟨b,hb⟩:=List.mem_iff_getElem?.1 hx
 by_cases e:b=a
 ·subst e
  rw [List.getElem?_set_self'] at hb
  cases h1:h[b]? with
  | none=>simp [h1] at hb
  | some d=>simp [h1] at hb; exact Or.inl hb.symm
 ·rw [q2b e] at hb; exact Or.inr ⟨b,e,hb⟩
theorem HInv.recount {h:List Cell} {e e':Nat->Int} (hi:HInv h e) {a:Nat} {c:Cell} (hc:h[a]?=some c) (hp:0 < c.count) {n:Int} (hn:0 < n) (hm:n<=999999)
  (he:∀ b,e' b=e b+if b=a then n - c.count else 0) (h0:0<=e' a):HInv (h.set a { c with count:=n }) e':=by
 have hlive:∀ b,Live (h.set a { c with count:=n }) b ↔ Live h b:=fun b=>by
  by_cases hab:b=a
  ·subst hab; rw [Live.self hc]; exact ⟨fun _=>⟨c,hc,hp⟩,fun _=>hn⟩
  ·exact Live.ne hab
 have hr:∀ b,refs (h.set a { c with count:=n }) b=refs h b:=fun b=>by rw [qdo _ hc]; simp only []; omega
 refine ⟨fun x hx=>?_,?_,fun b d hd hdp=>?_,fun b=>?_,fun b hb=>?_⟩
 ·rcases q5z hx with rfl | ⟨b,_,hb⟩
  ·have ho:=hi.cell c (q05 hc)
   exact ⟨ho.fl,by simp only []; omega,hm,fun h1=>by simp only [] at h1; omega,fun _=>⟨fun w hw=>((ho.alive hp).1 w hw).mono fun _ hl=>(hlive _).2 hl,(ho.alive hp).2⟩⟩
  ·exact (hi.cell x (q05 hb)).mono fun _ w _ _ hl=>(hlive _).2 hl
 ·obtain ⟨rank,hrk⟩:=hi.acyc
  refine ⟨rank,fun i d hd w hw hp=>?_⟩
  by_cases hia:i=a
  ·subst hia; rw [q1d hc] at hd; simp at hd; subst hd; exact hrk i c hc w hw hp
  ·rw [q2b hia] at hd; exact hrk i d hd w hw hp
 ·rw [hr,he]
  by_cases hab:b=a
  ·subst hab; rw [q1d hc] at hd; simp at hd; subst hd
   have:=hi.ex b c hc hp
   simp only [if_pos]; omega
  ·rw [q2b hab] at hd
   have:=hi.ex b d hd hdp
   rw [if_neg hab]; omega
 ·by_cases hab:b=a
  ·subst hab; exact h0
  ·rw [he,if_neg hab]; have:=hi.nn b; omega
 ·rw [hlive]
  by_cases hab:b=a
  ·subst hab; exact ⟨c,hc,hp⟩
  ·rw [he,if_neg hab] at hb; exact hi.lv b (by omega)
theorem HInv.gone {h:List Cell} {e e':Nat->Int} (hi:HInv h e) {a:Nat} {c:Cell} (hc:h[a]?=some c) (h1:c.count=1) (hea:0 < e a) {c':Cell} (hlo:-1<=c'.count) (hlt:c'.count < 1) (htag:c'.tag=0)
  (hz:∀ w ∈ c'.fields,w=0) (hl3:c'.fields.length<=3) (hfr:c'.count=0->c'.fields=[])
  (he:∀ b,e' b=e b - (if b=a then 1 else 0)+occ c.fields b):HInv (h.set a c') e':=by
 have hx:=hi.ex a c hc (by omega)
 have hrn:=q60 h a
 have hra:refs h a=0:=by omega
 have hea1:e a=1:=by omega
 have hself:∀ x ∈ h,(1000+(a:Int)) ∉ x.fields:=fun x hx hw=>by
  have:=qsj hx a; have:=q8x hw; omega
 have hoa:occ c.fields a=0:=q56 (hself c (q05 hc))
 have hoz:∀ b,occ c'.fields b=0:=fun b=>q56 fun hw=>by have:=hz _ hw; omega
 have hlive:∀ b,b ≠ a->Live h b->Live (h.set a c') b:=fun b hab hl=>(Live.ne hab).2 hl
 have hne:∀ x ∈ h,∀ w ∈ x.fields,1000<=w->ix w ≠ a:=fun x hx w hw hp e2=>by
  have:=ptr_ix hp; rw [e2] at this; rw [← this] at hw; exact hself x hx hw
 refine ⟨fun x hx=>?_,?_,fun b d hd hdp=>?_,fun b=>?_,fun b hb=>?_⟩
 ·rcases q5z hx with rfl | ⟨b,_,hb⟩
  ·exact ⟨hl3,hlo,by omega,fun _=>⟨htag,hz,hfr⟩,fun hp=>by omega⟩
  ·exact (hi.cell x (q05 hb)).mono fun _ w hw hp hl=>hlive _ (hne x (q05 hb) w hw hp) hl
 ·obtain ⟨rank,hrk⟩:=hi.acyc
  refine ⟨rank,fun i d hd w hw hp=>?_⟩
  by_cases hia:i=a
  ·subst hia; rw [q1d hc] at hd; simp at hd; subst hd; have:=hz w hw; omega
  ·rw [q2b hia] at hd; exact hrk i d hd w hw hp
 ·rw [qdo _ hc,hoz,he]
  by_cases hab:b=a
  ·subst hab; rw [q1d hc] at hd; simp at hd; subst hd; omega
  ·rw [q2b hab] at hd
   have:=hi.ex b d hd hdp
   rw [if_neg hab]; omega
 ·rw [he]
  have:=hi.nn b
  have:=occ_nn c.fields b
  split
  ·rename_i hab; subst hab; omega
  ·omega
 ·rw [he] at hb
  by_cases hab:b=a
  ·subst hab; rw [if_pos rfl] at hb; omega
  ·rw [if_neg hab] at hb
   refine hlive b hab ?_
   rcases Classical.em (0 < e b) with h2 | h2
   ·exact hi.lv b h2
   ·have:=hi.nn b
    have hw:=qp9 (l:=c.fields) (a:=b) (by omega)
    have:=(hi.field (q05 hc) hw (by omega)).2
    rwa [ix_ptr] at this
theorem HInv.make {h h':List Cell} {e e':Nat->Int} (hi:HInv h e) {a:Nat} {t:Int} {fs:List Int} (hnl:¬ Live h a) (hself:h'[a]?=some ⟨1,t,fs⟩) (hoth:∀ b,b ≠ a->h'[b]?=h[b]?)
  (hr:∀ b,refs h' b=refs h b+occ fs b) (hw:∀ w ∈ fs,isWord h w) (hl3:fs.length<=3) (ht:0<=t/\t<=99) (hle:∀ b,occ fs b<=e b)
  (he:∀ b,e' b=e b - occ fs b+if b=a then 1 else 0):HInv h' e':=by
 have hlive:∀ b,Live h b->Live h' b:=fun b hl=>by
  by_cases hab:b=a
  ·subst hab; exact absurd hl hnl
  ·unfold Live; rw [hoth b hab]; exact hl
 have hea:=hi.noext hnl
 have hra:=hi.norefs hnl
 have hoa:occ fs a=0:=by have:=occ_nn fs a; have:=hle a; omega
 refine ⟨fun x hx=>?_,?_,fun b d hd hdp=>?_,fun b=>?_,fun b hb=>?_⟩
 ·obtain ⟨b,hb⟩:=List.mem_iff_getElem?.1 hx
  by_cases hab:b=a
  ·subst hab; rw [hself] at hb; simp at hb; subst hb
   exact ⟨hl3,by simp,by simp,fun h1=>by simp at h1,fun _=>⟨fun w hw1=>(hw w hw1).mono fun _ hl=>hlive _ hl,ht⟩⟩
  ·rw [hoth b hab] at hb
   exact (hi.cell x (q05 hb)).mono fun _ w _ _ hl=>hlive _ hl
 ·obtain ⟨rank,hrk⟩:=hi.acyc
  refine ⟨fun i=>if i=a then (fs.map fun w=>rank (ix w)).sum+1 else rank i,fun i d hd w hw1 hp=>?_⟩
  have hwa:ix w ≠ a:=fun e2=>by
   have hlw:live h w:=by
    by_cases hia:i=a
    ·subst hia; rw [hself] at hd; simp at hd; subst hd
     rcases hw w hw1 with h2 | h2
     ·have:=h2.2; omega
     ·exact h2
    ·rw [hoth i hia] at hd; exact hi.field (q05 hd) hw1 hp
   exact hnl (e2 ▸ hlw.2)
  simp only [if_neg hwa]
  by_cases hia:i=a
  ·subst hia; rw [hself] at hd; simp at hd; subst hd
   rw [if_pos rfl]
   have:∀ (l:List Int),w ∈ l->rank (ix w)<=(l.map fun w=>rank (ix w)).sum:=by
    intro l hl
    induction l with
    | nil=>simp at hl
    | cons y l ih =>
     simp only [List.map_cons,List.sum_cons]
     rcases List.mem_cons.1 hl with rfl | hl
     ·omega
     ·have:=ih hl; omega
   have:=this fs hw1; omega
  ·rw [if_neg hia]; rw [hoth i hia] at hd; exact hrk i d hd w hw1 hp
 ·rw [hr,he]
  by_cases hab:b=a
  ·subst hab; rw [hself] at hd; simp at hd; subst hd
   rw [if_pos rfl]; simp only []; omega
  ·rw [hoth b hab] at hd
   have:=hi.ex b d hd hdp
   rw [if_neg hab]; omega
 ·rw [he]; have:=hle b; split <;> omega
 ·rw [he] at hb
  by_cases hab:b=a
  ·subst hab; exact ⟨_,hself,by simp⟩
  ·rw [if_neg hab] at hb
   exact hlive b (hi.lv b (by have:=occ_nn fs b; omega))
theorem HInv.dropS:∀ (n:Nat) (h:List Cell) (st:List Int) (e:Nat->Int),bulk h+st.length<=n->HInv h (fun b=>e b+occ st b)->(∀ b,0<=e b)->HInv (dropS h st) e
 | n,h,[],e,_,hi,_=>by rw [qbg]; exact hi.congr fun b=>by simp [occ]
 | n,h,w :: r,e,hn,hi,h0=>by
  rcases Classical.em (live h w) with hl | hl
  ·obtain ⟨hc,hp⟩:=q0i hl
   have hwx:=ptr_ix hl.1
   have hoc:∀ b,occ (w :: r) b=(if b=ix w then 1 else 0)+occ r b:=fun b=>by
    simp only [occ]
    congr 1
    by_cases hb:b=ix w
    ·subst hb; rw [if_pos hwx.symm,if_pos rfl]
    ·rw [if_neg hb,if_neg (fun e2=>hb (by rw [e2,ix_ptr]))]
   have hbk:=q3w (c':=free) hc
   by_cases h1:(q01 h w).count=1
   ·rw [qbe hl h1]
    simp only [if_pos hp,free] at hbk
    simp at hbk
    cases n with
    | zero=>simp at hn
    | succ n =>
    refine HInv.dropS n _ _ e ?_ (HInv.gone hi hc h1 ?_ (by decide) (by decide) rfl (by simp [free]) (by simp [free]) (fun _=>rfl) fun b=>?_) h0
    ·simp [free] at hn ⊢; omega
    ·simp only [hoc,if_pos]; have:=h0 (ix w); have:=occ_nn r (ix w); omega
    ·simp only [hoc,q4d,qek]; omega
   ·rw [q9a hl h1]
    have hbk2:=q3w (c':={ q01 h w with count:=(q01 h w).count - 1 }) hc
    simp only [if_pos hp] at hbk2
    rw [if_pos (by omega)] at hbk2
    have hm:=(hi.cell _ (q05 hc)).hi
    cases n with
    | zero=>simp at hn
    | succ n =>
    refine HInv.dropS n _ _ e ?_ (HInv.recount hi hc hp (by omega) (by omega) (fun b=>?_) ?_) h0
    ·simp only [List.length_cons] at hn; simp only [less]; omega
    ·simp only [hoc]; split <;> omega
    ·have:=h0 (ix w); have:=occ_nn r (ix w); omega
  ·rw [q9p hl]
   cases n with
   | zero=>simp at hn
   | succ n =>
   refine HInv.dropS n _ _ e (by simp at hn; omega) (hi.congr fun b=>?_) h0
   simp only [occ]
   rw [if_neg]
   ·omega
   ·intro e2
    have:=hi.lv b (by simp only [occ,if_pos e2]; have:=h0 b; have:=occ_nn r b; omega)
    exact hl ⟨by omega,by rw [e2,ix_ptr]; exact this⟩
theorem q8i (h:List Cell):∀ n,trimN h n<=n
 | 0=>Nat.le_refl _
 | n+1=>by
  simp only [trimN]
  have:=q8i h n
  split
  ·split <;> omega
  ·omega
theorem q9s (h:List Cell):∀ (n k:Nat) (c:Cell),trimN h n<=k->k < n->h[k]?=some c->c.count=0
 | 0,k,c,_,hk,_=>by omega
 | n+1,k,c,h1,h2,hc=>by
  simp only [trimN] at h1
  by_cases hk:k=n
  ·subst hk
   rw [hc] at h1
   simp only [] at h1
   split at h1
   ·assumption
   ·omega
  ·split at h1
   ·split at h1
    ·exact q9s h n k c h1 (by omega) hc
    ·omega
   ·exact q9s h n k c h1 (by omega) hc
theorem qop (h:List Cell):∀ (n:Nat) (c:Cell),n<=h.length->h[trimN h n - 1]?=some c->0 < trimN h n->c.count ≠ 0
 | 0,c,_,_,hp=>by simp [trimN] at hp
 | n+1,c,hn,hc,hp=>by
  simp only [trimN] at hc hp
  obtain ⟨d,hd⟩:=q00 (l:=h) (k:=n) (by omega)
  rw [hd] at hc hp
  simp only [] at hc hp
  split at hc
  ·rename_i h0
   rw [if_pos h0] at hp
   exact qop h n c (by omega) hc hp
  ·rename_i h0
   simp at hc; rw [hd] at hc; simp at hc; subst hc; exact h0
def Trimmed (h:List Cell):Prop:=∀ c,h[h.length - 1]?=some c->c.count ≠ 0
theorem qjr (h:List Cell):Trimmed (trim h):=by
 intro c hc
 have hle:=q8i h h.length
 unfold trim at hc
 rw [List.length_take,Nat.min_eq_left hle] at hc
 rcases Nat.eq_zero_or_pos (trimN h h.length) with h0 | h0
 ·rw [h0] at hc; simp at hc
 ·rw [List.getElem?_take_of_lt (by omega)] at hc
  exact qop h _ c (Nat.le_refl _) hc h0
theorem qqc:∀ {h:List Cell},(∀ c ∈ h,c.fields=[])->∀ a,refs h a=0
 | [],_,a=>rfl
 | c :: h,hf,a=>by simp only [refs,hf c List.mem_cons_self,occ,qqc (fun d hd=>hf d (List.mem_cons_of_mem _ hd)) a]; rfl
theorem HInv.trim {h:List Cell} {e:Nat->Int} (hi:HInv h e):HInv (trim h) e:=by
 have hle:=q8i h h.length
 have hget:∀ (b:Nat) (c:Cell),h[b]?=some c->c.count ≠ 0->b < trimN h h.length:=fun b c hc h0 =>
  Classical.byContradiction fun hn=>h0 (q9s h h.length b c (by omega) (q04 hc) hc)
 have hsub:∀ (b:Nat) (c:Cell),(Go.Proofs.YtpggcodlaajceaaGreat.trim h)[b]?=some c->h[b]?=some c:=fun b c hc=>by
  unfold Go.Proofs.YtpggcodlaajceaaGreat.trim at hc
  have:=q04 hc
  rw [List.length_take] at this
  rwa [List.getElem?_take_of_lt (by omega)] at hc
 have hlive:∀ b,Live h b->Live (Go.Proofs.YtpggcodlaajceaaGreat.trim h) b:=fun b ⟨c,hc,hp⟩=>⟨c,by
  unfold Go.Proofs.YtpggcodlaajceaaGreat.trim; rw [List.getElem?_take_of_lt (hget b c hc (by omega))]; exact hc,hp⟩
 have hr:∀ b,refs (Go.Proofs.YtpggcodlaajceaaGreat.trim h) b=refs h b:=fun b=>by
  have e1:h=Go.Proofs.YtpggcodlaajceaaGreat.trim h ++ h.drop (trimN h h.length):=(List.take_append_drop _ _).symm
  have e2:refs (h.drop (trimN h h.length)) b=0:=qqc (fun c hc=>by
   obtain ⟨k,hk⟩:=List.mem_iff_getElem?.1 hc
   rw [List.getElem?_drop] at hk
   have h0:=q9s h h.length _ c (by omega) (q04 hk) hk
   exact ((hi.cell c (q05 hk)).dead (by omega)).2.2 h0) b
  have e3:=congrArg (fun l=>refs l b) e1
  simp only [qb1,e2] at e3
  omega
 refine ⟨fun c hc=>?_,?_,fun a c hc hp=>?_,hi.nn,fun a ha=>hlive a (hi.lv a ha)⟩
 ·obtain ⟨b,hb⟩:=List.mem_iff_getElem?.1 hc
  exact (hi.cell c (q05 (hsub b c hb))).mono fun _ w _ _ hl=>hlive _ hl
 ·obtain ⟨rank,hrk⟩:=hi.acyc
  exact ⟨rank,fun i c hc=>hrk i c (hsub i c hc)⟩
 ·rw [hr]; exact hi.ex a c (hsub a c hc) hp
end
section
theorem at_get {l:List Int} {i:Int} (h0:0<=i) (h1:i < l.length):l[i.toNat]?=some (at' l i):=by
 obtain ⟨x,hx⟩:=q00 (l:=l) (k:=i.toNat) (by omega)
 simp [at',hx]
theorem at_of {l:List Int} {k:Nat} {x:Int} (h:l[k]?=some x):at' l k=x:=by simp [at',h]
theorem at_of' {l:List Int} {i x:Int} (h:l[i.toNat]?=some x):at' l i=x:=by simp [at',h]
theorem q18 {l:List Int} {i:Int} (h0:0<=i) (h1:i < l.length):at' l i ∈ l:=List.mem_of_getElem? (at_get h0 h1)
theorem q2y (l:List Int) (i v:Int):(setI l i v).length=l.length:=by simp [setI]
theorem q5k {l:List Int} {i v x:Int} (h:x ∈ setI l i v):x=v \/ x ∈ l:=by
 rcases List.mem_or_eq_of_mem_set h with h | h
 ·exact Or.inr h
 ·exact Or.inl h
theorem qdn (l:List Int) (i v:Int) (k:Nat):(setI l i v)[k]?=if k=i.toNat/\k < l.length then some v else l[k]?:=by
 unfold setI
 by_cases h:k=i.toNat
 ·subst h
  by_cases h2:i.toNat < l.length
  ·rw [List.getElem?_set_self h2,if_pos ⟨rfl,h2⟩]
  ·rw [if_neg (by omega),List.set_eq_of_length_le (by omega)]
 ·rw [if_neg (by omega),List.getElem?_set_ne (fun e=>h e.symm)]
theorem que {l:List Int} {i v:Int} (h0:0<=i) (h1:i < l.length) (j:Int) (hj:0<=j):at' (setI l i v) j=if j=i then v else at' l j:=by
 unfold at'
 rw [List.getD_eq_getElem?_getD,List.getD_eq_getElem?_getD,qdn]
 by_cases h:j=i
 ·subst h; rw [if_pos rfl,if_pos ⟨rfl,by omega⟩]; rfl
 ·rw [if_neg h,if_neg (by omega)]
theorem qio:∀ (regs own:List Int) (k:Nat) (w o w0 o0:Int) (a:Nat),regs[k]?=some w0->own[k]?=some o0 ->
  q0m (regs.set k w) (own.set k o) a=q0m regs own a - (if w0=1000+(a:Int) then o0 else 0)+(if w=1000+(a:Int) then o else 0)
 | [],own,k,w,o,w0,o0,a,h1,h2=>by simp at h1
 | r :: rs,[],k,w,o,w0,o0,a,h1,h2=>by simp at h2
 | r :: rs,q :: os,0,w,o,w0,o0,a,h1,h2=>by
  simp at h1 h2; subst h1; subst h2
  simp only [List.set_cons_zero,q0m]; omega
 | r :: rs,q :: os,k+1,w,o,w0,o0,a,h1,h2=>by
  have:=qio rs os k w o w0 o0 a (by simpa using h1) (by simpa using h2)
  simp only [List.set_cons_succ,q0m,this]; omega
theorem qu1 {l:List Int} {k:Nat} {x:Int} (h:l[k]?=some x):l.set k x=l:=by
 apply List.ext_getElem?
 intro i
 by_cases hi:k=i
 ·subst hi; rw [List.getElem?_set_self (q04 h),h]
 ·rw [List.getElem?_set_ne hi]
theorem qim {regs own:List Int} {r:Int} (h0:0<=r) (h1:r < regs.length) (h2:r < own.length) (o:Int) (a:Nat) :
  q0m regs (setI own r o) a=q0m regs own a+(if at' regs r=1000+(a:Int) then o - at' own r else 0):=by
 have e1:=at_get h0 h1
 have:=qio regs own r.toNat (at' regs r) o _ _ a e1 (at_get h0 h2)
 rw [qu1 e1] at this
 rw [setI,this]; split <;> omega
theorem qq9 {regs own:List Int} {r:Int} (h0:0<=r) (h1:r < regs.length) (h2:r < own.length) (hz:at' own r=0) (w o:Int) (a:Nat) :
  q0m (setI regs r w) (setI own r o) a=q0m regs own a+(if w=1000+(a:Int) then o else 0):=by
 have:=qio regs own r.toNat w o _ _ a (at_get h0 h1) (at_get h0 h2)
 rw [setI,setI,this,hz]; split <;> omega
theorem q8m:∀ {regs own:List Int},(∀ o ∈ own,0<=o)->∀ a,0<=q0m regs own a
 | [],own,h,a=>by cases own <;> simp [q0m]
 | r :: rs,[],h,a=>by simp [q0m]
 | r :: rs,o :: os,h,a=>by
  have:=q8m (regs:=rs) (own:=os) (fun x hx=>h x (List.mem_cons_of_mem _ hx)) a
  have:=h o List.mem_cons_self
  simp only [q0m]; split <;> omega
theorem q96:∀ {regs own:List Int},Zero own->∀ a,q0m regs own a=0
 | [],own,h,a=>by cases own <;> simp [q0m]
 | r :: rs,[],h,a=>by simp [q0m]
 | r :: rs,o :: os,h,a=>by
  have:=q96 (regs:=rs) (own:=os) (fun x hx=>h x (List.mem_cons_of_mem _ hx)) a
  have:=h o List.mem_cons_self
  simp only [q0m,this]; split <;> omega
theorem qig:∀ {r1 o1:List Int} (r2 o2:List Int),r1.length=o1.length->∀ a,q0m (r1 ++ r2) (o1 ++ o2) a=q0m r1 o1 a+q0m r2 o2 a
 | [],[],r2,o2,_,a=>by simp [q0m]
 | [],_ :: _,_,_,h,_=>by simp at h
 | _ :: _,[],_,_,h,_=>by simp at h
 | r :: rs,o :: os,r2,o2,h,a=>by
  have:=qig (r1:=rs) (o1:=os) r2 o2 (by simpa using h) a
  simp only [List.cons_append,q0m,this]; omega
theorem qn2:∀ {regs own:List Int} {k:Nat} {w o:Int} (_:∀ o ∈ own,0<=o) (_:regs[k]?=some w) (_:own[k]?=some o) {a:Nat} (_:w=1000+(a:Int)),o<=q0m regs own a
 | [],_,_,_,_,_,h1,_,_,_=>by simp at h1
 | _ :: _,[],_,_,_,_,_,h2,_,_=>by simp at h2
 | r :: rs,q :: os,0,w,o,hn,h1,h2,a,ha=>by
  simp at h1 h2; subst h1; subst h2
  have:=q8m (regs:=rs) (own:=os) (fun x hx=>hn x (List.mem_cons_of_mem _ hx)) a
  simp only [q0m,if_pos ha]; omega
 | r :: rs,q :: os,k+1,w,o,hn,h1,h2,a,ha=>by
  have:=qn2 (regs:=rs) (own:=os) (k:=k) (fun x hx=>hn x (List.mem_cons_of_mem _ hx)) (by simpa using h1) (by simpa using h2) ha
  have:=hn q List.mem_cons_self
  simp only [q0m]; split <;> omega
theorem q1u:∀ (l r:List Frame) (a:Nat),owns (l ++ r) a=owns l a+owns r a
 | [],r,a=>by simp [owns]
 | f :: l,r,a=>by simp only [List.cons_append,owns,q1u l r a]; omega
theorem q3t (f:Frame) (a:Nat):owns [f] a=q0m f.regs f.own a:=by simp [owns]
theorem q1e:∀ (l r:List Frame) (a:Nat),holds (l ++ r) a=holds l a+holds r a
 | [],r,a=>by simp [holds]
 | f :: l,r,a=>by simp only [List.cons_append,holds,q1e l r a]; omega
theorem q2j (f:Frame) (a:Nat):holds [f] a=occ f.held a:=by simp [holds]
theorem qai:∀ (l:List Frame) (a:Nat),0<=holds l a
 | [],a=>by simp [holds]
 | f :: l,a=>by have:=qai l a; have:=occ_nn f.held a; simp only [holds]; omega
theorem q3c (regs:List Int):∀ (rs own:List Int),(q0c regs own rs).length=own.length
 | [],own=>rfl
 | r :: rs,own=>by simp only [q0c]; rw [q3c regs rs]; split <;> simp [q2y]
theorem qcx {regs:List Int}:∀ (rs own:List Int),(∀ r ∈ rs,0<=r/\r < regs.length)->regs.length=own.length->∀ a,q0m regs (q0c regs own rs) a=q0m regs own a - occ (rs.map (at' regs)) a
 | [],own,_,_,a=>by simp [q0c,occ]
 | r :: rs,own,h,hl,a=>by
  have hr:=h r List.mem_cons_self
  have ih:=fun own hl=>qcx (regs:=regs) rs own (fun x hx=>h x (List.mem_cons_of_mem _ hx)) hl a
  simp only [q0c,List.map_cons,occ]
  by_cases hp:1000<=at' regs r
  ·rw [if_pos hp,ih _ (by rw [q2y]; exact hl),qim hr.1 hr.2 (by omega)]
   split <;> omega
  ·rw [if_neg hp,ih _ hl,if_neg (by omega)]; omega
theorem q3x {regs:List Int}:∀ (rs own:List Int) (k:Nat) (o:Int),(q0c regs own rs)[k]?=some o->∃ q,own[k]?=some q/\o<=q
 | [],own,k,o,h=>⟨o,h,Int.le_refl _⟩
 | r :: rs,own,k,o,h=>by
  simp only [q0c] at h
  obtain ⟨q,hq,hle⟩:=q3x rs _ k o h
  split at hq
  ·rw [qdn] at hq
   split at hq
   ·rename_i hk
    obtain ⟨y,hy⟩:=q00 hk.2
    have e:at' own r=y:=by rw [at',List.getD_eq_getElem?_getD,← hk.1,hy]; rfl
    simp at hq
    exact ⟨y,hy,by omega⟩
   ·exact ⟨q,hq,hle⟩
  ·exact ⟨q,hq,hle⟩
theorem q4i:∀ (rs own:List Int),(q0x own rs).length=own.length
 | [],own=>rfl
 | r :: rs,own=>by simp only [q0x]; rw [q4i rs,q2y]
theorem qjl {regs:List Int}:∀ (rs own:List Int),(∀ r ∈ rs,0<=r/\r < regs.length)->regs.length=own.length->∀ a,q0m regs (q0x own rs) a=q0m regs own a+occ (rs.map (at' regs)) a
 | [],own,_,_,a=>by simp [q0x,occ]
 | r :: rs,own,h,hl,a=>by
  have hr:=h r List.mem_cons_self
  simp only [q0x,List.map_cons,occ]
  rw [qjl (regs:=regs) rs _ (fun x hx=>h x (List.mem_cons_of_mem _ hx)) (by rw [q2y]; exact hl) a,qim hr.1 hr.2 (by omega)]
  split <;> omega
theorem qnv {regs:List Int}:∀ (rs own:List Int),(∀ r ∈ rs,0<=r/\r < own.length/\1000<=at' regs r) ->
  (∀ (k:Nat) (o w:Int),own[k]?=some o->regs[k]?=some w->0<=o/\(0 < o->1000<=w))->∀ (k:Nat) (o w:Int),(q0x own rs)[k]?=some o->regs[k]?=some w->0<=o/\(0 < o->1000<=w)
 | [],own,_,h,k,o,w,ho,hw=>h k o w ho hw
 | r :: rs,own,hr,h,k,o,w,ho,hw=>by
  refine qnv (regs:=regs) rs (setI own r (at' own r+1)) (fun x hx=>by rw [q2y]; exact hr x (List.mem_cons_of_mem _ hx)) (fun k o w ho hw=>?_) k o w ho hw
  rw [qdn] at ho
  split at ho
  ·rename_i hk
   have h1:=hr r List.mem_cons_self
   have e:at' regs r=w:=by rw [at',List.getD_eq_getElem?_getD,← hk.1,hw]; rfl
   have h2:=h k (at' own r) w (by rw [hk.1]; exact at_get h1.1 h1.2.1) hw
   simp at ho
   exact ⟨by omega,fun _=>by omega⟩
  ·exact h k o w ho hw
def Kept (h:List Cell) (a:Nat):Prop:=∃ c,h[a]?=some c/\c.count < 0
structure FrameOk (im:Image) (f:Frame):Prop where
 proc:0<=f.proc/\f.proc < im.procs.length
 pc:0<=f.pc/\f.pc < (q0y im f.proc).code.length
 lr:(f.regs.length:Int)=(q0y im f.proc).regs
 lo:(f.own.length:Int)=(q0y im f.proc).regs
 lh:(f.held.length:Int)=(q0y im f.proc).regs
 reg:∀ w ∈ f.regs,isInt w \/ 1000<=w
 own:∀ (k:Nat) (o w:Int),f.own[k]?=some o->f.regs[k]?=some w->0<=o/\(0 < o->1000<=w)
 held:∀ w ∈ f.held,w=0 \/ 1000<=w
structure StateOk (im:Image) (s:St):Prop where
 image:ImageOk im
 status:0<=s.status/\s.status<=3
 done:s.status=0 ↔ s.frames=[]
 value:isInt s.value
 value0:s.value ≠ 0->s.status=0
 most:0<=s.most/\s.most<=40
 calls:0<=s.calls/\s.calls<=s.most
 depth:(s.frames.length:Int)<=s.calls+1
 out:∀ n ∈ s.out,isInt n
 heap:HInv s.heap (owns s.frames)
 trimmed:Trimmed s.heap
 frames:∀ f ∈ s.frames,FrameOk im f
 first:∀ f,s.frames[0]?=some f->f.dst=0
 chain:∀ (k:Nat) (f g:Frame),s.frames[k]?=some f->s.frames[k+1]?=some g->0<=g.dst/\g.dst < f.own.length/\at' f.own g.dst=0
 kept:∀ a,Kept s.heap a->holds s.frames a=1
 unkept:∀ a,¬ Kept s.heap a->holds s.frames a=0
theorem FrameOk.ownNN {im:Image} {f:Frame} (h:FrameOk im f):∀ o ∈ f.own,0<=o:=fun o ho=>by
 obtain ⟨k,hk⟩:=List.mem_iff_getElem?.1 ho
 have h1:=q04 hk
 have:=h.lo
 have:=h.lr
 obtain ⟨w,hw⟩:=q00 (l:=f.regs) (k:=k) (by omega)
 exact (h.own k o w hk hw).1
theorem qki {im:Image}:∀ {fs:List Frame},(∀ f ∈ fs,FrameOk im f)->∀ a,0<=owns fs a
 | [],_,a=>by simp [owns]
 | f :: fs,h,a=>by
  have:=qki (fun g hg=>h g (List.mem_cons_of_mem _ hg)) a
  have:=q8m (regs:=f.regs) (h f List.mem_cons_self).ownNN a
  simp only [owns]; omega
theorem StateOk.split {im:Image} {s:St} (h:StateOk im s) (hr:s.status=3):∃ fs f,s.frames=fs ++ [f]:=by
 have:s.frames ≠ []:=fun e=>by have:=h.done.2 e; omega
 exact ⟨s.frames.dropLast,s.frames.getLast this,(List.dropLast_concat_getLast this).symm⟩
theorem FrameOk.instr {im:Image} {f:Frame} (hi:ImageOk im) (h:FrameOk im f):∃ p,im.procs[f.proc.toNat]?=some p/\q0y im f.proc=p/\ProcOk im p/\p.code[f.pc.toNat]?=some (q14 im f)/\InstrOk im p f.pc.toNat (q14 im f):=by
 obtain ⟨p,hp⟩:=q00 (l:=im.procs) (k:=f.proc.toNat) (by have:=h.proc; omega)
 have e:q0y im f.proc=p:=by simp [q0y,hp]
 have hpo:=hi.each p (q05 hp)
 have hpc:=h.pc
 rw [e] at hpc
 obtain ⟨i,hi'⟩:=q00 (l:=p.code) (k:=f.pc.toNat) (by omega)
 have e2:q14 im f=i:=by simp [q14,e,hi']
 exact ⟨p,hp,e,hpo,e2 ▸ hi',e2 ▸ hpo.each _ _ hi'⟩
theorem StateOk.top {im:Image} {s:St} (h:StateOk im s) (hr:s.status=3) {fs:List Frame} {f g:Frame} (hf:s.frames=fs ++ [f]) {hp:List Cell} {out:List Int} (hg:FrameOk im g) (hd:g.dst=f.dst)
  (hh:HInv hp (owns (fs ++ [g]))) (ht:Trimmed hp) (hk:∀ a,Kept hp a->holds (fs ++ [g]) a=1) (hu:∀ a,¬ Kept hp a->holds (fs ++ [g]) a=0) (ho:∀ n ∈ out,isInt n) {calls:Int} (hc:s.calls<=calls/\calls<=s.most) :
  StateOk im { s with heap:=hp,out:=out,calls:=calls,frames:=fs ++ [g] }:=by
 have hc0:=h.calls
 have hdep:=h.depth
 rw [hf] at hdep
 refine ⟨h.image,h.status,⟨fun e=>by simp at e; omega,fun e=>by simp at e⟩,h.value,h.value0,h.most,⟨by simp only []; omega,hc.2⟩,by simp at hdep ⊢; omega,ho,hh,ht,fun q hq=>?_,fun q hq=>?_,fun k p q hp hq=>?_,hk,hu⟩
 ·rcases List.mem_append.1 hq with hq | hq
  ·exact h.frames q (by rw [hf]; exact List.mem_append_left _ hq)
  ·simp at hq; subst hq; exact hg
 ·have hfirst:=h.first
  rw [hf] at hfirst
  cases fs with
  | nil=>simp at hq; subst hq; rw [hd]; exact hfirst f (by simp)
  | cons y ys=>simp at hq; subst hq; exact hfirst y (by simp)
 ·have hch:=h.chain k
  rw [hf] at hch
  simp only [] at hp hq
  have hkl:=q04 hq
  simp at hkl
  rw [List.getElem?_append_left (by omega)] at hp
  rcases Nat.lt_or_ge (k+1) fs.length with h1 | h1
  ·rw [List.getElem?_append_left h1] at hq
   exact hch p q (by rw [List.getElem?_append_left (by omega)]; exact hp) (by rw [List.getElem?_append_left h1]; exact hq)
  ·rw [List.getElem?_append_right h1] at hq
   have e:k+1 - fs.length=0:=by omega
   rw [e] at hq; simp at hq; subst hq
   rw [hd]
   exact hch p f (by rw [List.getElem?_append_left (by omega)]; exact hp) (by rw [List.getElem?_append_right h1,e]; rfl)
end
section
theorem Kept.ne {h:List Cell} {a b:Nat} {c:Cell} (hab:b ≠ a):Kept (h.set a c) b ↔ Kept h b:=by unfold Kept; rw [q2b hab]
theorem Kept.self {h:List Cell} {a:Nat} {c d:Cell} (hd:h[a]?=some d):Kept (h.set a c) a ↔ c.count < 0:=by unfold Kept; rw [q1d hd]; simp
theorem Kept.set {h:List Cell} {a:Nat} {c d:Cell} (hd:h[a]?=some d) (h0:0<=d.count) (h1:0<=c.count) (b:Nat):Kept (h.set a c) b ↔ Kept h b:=by
 by_cases hab:b=a
 ·subst hab
  rw [Kept.self hd]
  refine ⟨fun h2=>by omega,fun ⟨e,he,hc⟩=>?_⟩
  rw [hd] at he; simp at he; subst he; omega
 ·exact Kept.ne hab
theorem Kept.unlive {h:List Cell} {a:Nat} (hk:Kept h a):¬ Live h a:=fun ⟨c,hc,hp⟩=>by
 obtain ⟨d,hd,hn⟩:=hk
 rw [hc] at hd; simp at hd; subst hd; omega
theorem Kept.less {h:List Cell} {w:Int} (hl:live h w) (b:Nat):Kept (less h w) b ↔ Kept h b:=by
 obtain ⟨hc,hp⟩:=q0i hl
 exact Kept.set hc (by omega) (by simp only []; omega) b
theorem Kept.bump {h:List Cell} {w:Int} (hl:live h w) (b:Nat):Kept (bump h w) b ↔ Kept h b:=by
 obtain ⟨hc,hp⟩:=q0i hl
 exact Kept.set hc (by omega) (by simp only []; omega) b
theorem Kept.gone {h:List Cell} {w:Int} (hl:live h w) (b:Nat):Kept (h.set (ix w) free) b ↔ Kept h b:=by
 obtain ⟨hc,hp⟩:=q0i hl
 exact Kept.set hc (by omega) (by simp [free]) b
theorem Kept.dropS:∀ (n:Nat) (h:List Cell) (st:List Int),bulk h+st.length<=n->∀ b,Kept (dropS h st) b ↔ Kept h b
 | n,h,[],_,b=>by rw [qbg]
 | 0,h,w :: r,hn,b=>by simp at hn
 | n+1,h,w :: r,hn,b=>by
  simp only [List.length_cons] at hn
  rcases Classical.em (live h w) with hl | hl
  ·obtain ⟨hc,hp⟩:=q0i hl
   by_cases h1:(q01 h w).count=1
   ·have hbk:=q3w (c':=free) hc
    simp only [if_pos hp,free] at hbk
    simp at hbk
    rw [qbe hl h1,Kept.dropS n _ _ (by simp [free]; omega) b,Kept.gone hl]
   ·have hbk2:=q3w (c':={ q01 h w with count:=(q01 h w).count - 1 }) hc
    simp only [if_pos hp] at hbk2
    rw [if_pos (by omega)] at hbk2
    rw [q9a hl h1,Kept.dropS n _ _ (by simp only [Go.Proofs.YtpggcodlaajceaaGreat.less]; omega) b,Kept.less hl]
  ·rw [q9p hl,Kept.dropS n _ _ (by omega) b]
theorem Kept.trim {h:List Cell} (b:Nat):Kept (trim h) b ↔ Kept h b:=by
 have hle:=q8i h h.length
 unfold Kept Go.Proofs.YtpggcodlaajceaaGreat.trim
 constructor
 ·rintro ⟨c,hc,hn⟩
  have:=q04 hc
  rw [List.length_take] at this
  rw [List.getElem?_take_of_lt (by omega)] at hc
  exact ⟨c,hc,hn⟩
 ·rintro ⟨c,hc,hn⟩
  refine ⟨c,?_,hn⟩
  rw [List.getElem?_take_of_lt]
  ·exact hc
  ·exact Classical.byContradiction fun h1=>by have:=q9s h h.length b c (by omega) (q04 hc) hc; omega
theorem HInv.bump {h:List Cell} {e e':Nat->Int} (hi:HInv h e) {w:Int} (hl:live h w) (hm:(q01 h w).count < 999999) (he:∀ b,e' b=e b+if b=ix w then 1 else 0):HInv (bump h w) e':=by
 obtain ⟨hc,hp⟩:=q0i hl
 refine hi.recount hc hp (by omega) (by omega) (fun b=>?_) ?_
 ·rw [he]; split <;> omega
 ·rw [he]; have:=hi.nn (ix w); split <;> omega
theorem qrx {h:List Cell} {w:Int} (hl:live h w) {v:Int} (hv:1000<=v):(q01 (bump h w) v).count=(q01 h v).count+(if v=w then 1 else 0):=by
 obtain ⟨hc,hp⟩:=q0i hl
 unfold bump
 by_cases e:v=w
 ·subst e
  rw [if_pos rfl]
  conv=>lhs; unfold q01
  rw [q1d hc]; rfl
 ·rw [if_neg e]
  conv=>lhs; unfold q01
  rw [q2b (fun e2=>e (ix_inj hv hl.1 e2))]; simp [q01]
theorem Live.bump {h:List Cell} {w:Int} (hl:live h w) (b:Nat):Live (bump h w) b ↔ Live h b:=by
 obtain ⟨hc,hp⟩:=q0i hl
 by_cases e:b=ix w
 ·subst e
  unfold Go.Proofs.YtpggcodlaajceaaGreat.bump
  rw [Live.self hc]
  exact ⟨fun _=>hl.2,fun _=>by simp only []; omega⟩
 ·exact Live.ne e
theorem q2s {w:Int} (hw:1000<=w) (r:List Int) (b:Nat):occ (w :: r) b=(if b=ix w then 1 else 0)+occ r b:=by
 simp only [occ]
 congr 1
 have hwx:=ptr_ix hw
 by_cases hb:b=ix w
 ·subst hb; rw [if_pos hwx.symm,if_pos rfl]
 ·rw [if_neg hb,if_neg (fun e2=>hb (by rw [e2,ix_ptr]))]
theorem HInv.refer:∀ (ws:List Int) (h:List Cell) (e e':Nat->Int),HInv h e->(∀ w ∈ ws,live h w/\(q01 h w).count+occ ws (ix w)<=999999)->(∀ b,e' b=e b+occ ws b)->HInv (refer h ws) e'/\(∀ b,Kept (refer h ws) b ↔ Kept h b)/\(refer h ws).length=h.length
 | [],h,e,e',hi,_,he=>⟨hi.congr fun b=>by rw [he]; simp [occ],fun _=>Iff.rfl,rfl⟩
 | w :: ws,h,e,e',hi,hw,he=>by
  obtain ⟨hl,hm⟩:=hw w List.mem_cons_self
  rw [q2s hl.1,if_pos rfl] at hm
  have:=occ_nn ws (ix w)
  obtain ⟨h1,h2,h3⟩:=HInv.refer ws (Go.Proofs.YtpggcodlaajceaaGreat.bump h w) (fun b=>e b+if b=ix w then 1 else 0) e' (hi.bump hl (by omega) fun b=>rfl) (fun v hv=>by
   obtain ⟨hlv,hmv⟩:=hw v (List.mem_cons_of_mem _ hv)
   refine ⟨⟨hlv.1,(Live.bump hl _).2 hlv.2⟩,?_⟩
   rw [qrx hl hlv.1]
   rw [q2s hl.1] at hmv
   split
   ·rename_i e2; subst e2; rw [if_pos rfl] at hmv; omega
   ·rename_i e2; rw [if_neg (fun e3=>e2 (ix_inj hlv.1 hl.1 e3))] at hmv; omega) (fun b=>by rw [he,q2s hl.1]; omega)
  refine ⟨h1,fun b=>by rw [Go.Proofs.YtpggcodlaajceaaGreat.refer,h2,Kept.bump hl],by rw [Go.Proofs.YtpggcodlaajceaaGreat.refer,h3]; simp [Go.Proofs.YtpggcodlaajceaaGreat.bump]⟩
theorem q48 {l:List Int} {w:Int}:w ∈ ptrs l ↔ w ∈ l/\1000<=w:=by simp [ptrs]
theorem HInv.apart {h:List Cell} {e e':Nat->Int} (hi:HInv h e) {w:Int} (hl:live h w) (hea:0 < e (ix w)) (hfit:(q01 h w).count=1 \/ q43 h (q01 h w).fields)
  (he:∀ b,e' b=e b - (if b=ix w then 1 else 0)+occ (q01 h w).fields b) (ht:Trimmed h):HInv (apart h w) e'/\(∀ b,Kept (apart h w) b ↔ Kept h b)/\Trimmed (apart h w):=by
 obtain ⟨hc,hp⟩:=q0i hl
 unfold Go.Proofs.YtpggcodlaajceaaGreat.apart
 by_cases h1:(q01 h w).count=1
 ·rw [if_pos h1]
  exact ⟨(hi.gone hc h1 hea (c':=free) (by decide) (by decide) rfl (by simp [free]) (by simp [free]) (fun _=>rfl) he).trim,fun b=>by rw [Kept.trim,Kept.gone hl],qjr _⟩
 ·rw [if_neg h1]
  have hfit:q43 h (q01 h w).fields:=by rcases hfit with h2 | h2; exact absurd h2 h1; exact h2
  have hmx:=(hi.cell _ (q05 hc)).hi
  have hless:HInv (Go.Proofs.YtpggcodlaajceaaGreat.less h w) (fun b=>e b - if b=ix w then 1 else 0):=hi.recount hc hp (by omega) (by omega) (fun b=>by split <;> omega) (by simp; omega)
  have hlive:∀ b,Live h b->Live (Go.Proofs.YtpggcodlaajceaaGreat.less h w) b:=fun b hb=>by
   by_cases e2:b=ix w
   ·subst e2; unfold Go.Proofs.YtpggcodlaajceaaGreat.less; rw [Live.self hc]; simp only []; omega
   ·exact (Live.ne e2).2 hb
  obtain ⟨h2,h3,h4⟩:=HInv.refer (ptrs (q01 h w).fields) _ _ e' hless (fun v hv=>by
   obtain ⟨hv1,hv2⟩:=q48.1 hv
   have hlv:=hi.field (q05 hc) hv1 hv2
   refine ⟨⟨hlv.1,hlive _ hlv.2⟩,?_⟩
   have:=hfit v hv1 hv2
   rw [qaa]
   have hle:(q01 (Go.Proofs.YtpggcodlaajceaaGreat.less h w) v).count<=(q01 h v).count:=by
    by_cases e2:ix v=ix w
    ·have hvw:=ix_inj hv2 hl.1 e2
     subst hvw
     unfold Go.Proofs.YtpggcodlaajceaaGreat.less
     conv=>lhs; unfold q01
     rw [q1d hc]; show (q01 h v).count - 1<=(q01 h v).count; omega
    ·unfold Go.Proofs.YtpggcodlaajceaaGreat.less
     conv=>lhs; unfold q01
     rw [q2b e2]; exact Int.le_refl _
   omega) (fun b=>by rw [he,qaa])
  refine ⟨h2,fun b=>by rw [h3,Kept.less hl],fun c hcl=>?_⟩
  -- the last cell is not free: a live cell stays live,others stay as they are
  intro h0
  rw [h4] at hcl
  have hln:(Go.Proofs.YtpggcodlaajceaaGreat.less h w).length=h.length:=by simp [Go.Proofs.YtpggcodlaajceaaGreat.less]
  rw [hln] at hcl
  have hb:=q04 hcl
  rw [h4,hln] at hb
  obtain ⟨d,hd⟩:=q00 (l:=h) (k:=h.length - 1) (by omega)
  have hd0:=ht d hd
  have hcd:=hi.cell d (q05 hd)
  have hlo:=hcd.lo
  rcases Classical.em (0 < d.count) with hpd | hpd
  ·have hLr:∀ (ws:List Int) (g:List Cell),(∀ v ∈ ws,live g v)->∀ b,Live g b->Live (Go.Proofs.YtpggcodlaajceaaGreat.refer g ws) b:=by
    intro ws
    induction ws with
    | nil=>intro g _ b hb; exact hb
    | cons v ws ih =>
     intro g hg b hb
     have hlv:=hg v List.mem_cons_self
     exact ih _ (fun y hy=>⟨(hg y (List.mem_cons_of_mem _ hy)).1,(Live.bump hlv _).2 (hg y (List.mem_cons_of_mem _ hy)).2⟩) b ((Live.bump hlv _).2 hb)
   obtain ⟨c2,hc2,hp2⟩:=hLr (ptrs (q01 h w).fields) (Go.Proofs.YtpggcodlaajceaaGreat.less h w) (fun v hv=>by
    obtain ⟨hv1,hv2⟩:=q48.1 hv
    have hlv:=hi.field (q05 hc) hv1 hv2
    exact ⟨hlv.1,hlive _ hlv.2⟩) _ (hlive _ ⟨d,hd,hpd⟩)
   rw [hcl] at hc2; simp at hc2; subst hc2; omega
  ·have hk:Kept h (h.length - 1):=⟨d,hd,by omega⟩
   obtain ⟨c2,hc2,hn2⟩:=(h3 (h.length - 1)).2 ((Kept.less hl _).2 hk)
   rw [hcl] at hc2; simp at hc2; subst hc2; omega
theorem q6s:∀ (h:List Cell),q0t h<=h.length
 | []=>Nat.le_refl _
 | c :: h=>by have:=q6s h; simp only [q0t,List.length_cons]; split <;> omega
theorem qgm:∀ (h:List Cell) (c:Cell),h[q0t h]?=some c->c.count=0
 | [],c,hc=>by simp [q0t] at hc
 | d :: h,c,hc=>by
  simp only [q0t] at hc
  split at hc
  ·rename_i h0; simp at hc; subst hc; exact h0
  ·exact qgm h c (by simpa using hc)
theorem HInv.alloc {h:List Cell} {e e':Nat->Int} (hi:HInv h e) {t:Int} {fs:List Int} (hw:∀ w ∈ fs,isWord h w) (hl3:fs.length<=3) (ht:0<=t/\t<=99) (hle:∀ b,occ fs b<=e b)
  (he:∀ b,e' b=e b - occ fs b+if b=q0t h then 1 else 0) (htr:Trimmed h) :
  HInv (place h (q0t h) ⟨1,t,fs⟩) e'/\(∀ b,Kept (place h (q0t h) ⟨1,t,fs⟩) b ↔ Kept h b)/\Trimmed (place h (q0t h) ⟨1,t,fs⟩):=by
 unfold place
 have hnl:¬ Live h (q0t h):=fun ⟨c,hc,hp⟩=>by have:=qgm h c hc; omega
 by_cases hx:q0t h=h.length
 ·rw [if_pos hx]
  have hself:(h ++ [⟨1,t,fs⟩])[q0t h]?=some ⟨1,t,fs⟩:=by rw [hx]; simp
  have hoth:∀ b,b ≠ q0t h->(h ++ [⟨1,t,fs⟩])[b]?=h[b]?:=fun b hb=>by
   rcases Nat.lt_or_ge b h.length with h1 | h1
   ·rw [List.getElem?_append_left h1]
   ·rw [List.getElem?_eq_none (by simp; omega),List.getElem?_eq_none h1]
  refine ⟨hi.make hnl hself hoth (fun b=>by rw [qb1]; simp [refs]) hw hl3 ht hle he,fun b=>?_,fun c hc=>?_⟩
  ·by_cases hb:b=q0t h
   ·rw [hb]; unfold Kept; rw [hself,hx]; simp
   ·unfold Kept; rw [hoth b hb]
  ·simp at hc; subst hc; simp
 ·rw [if_neg hx]
  have hlt:q0t h < h.length:=by have:=q6s h; omega
  obtain ⟨d,hd⟩:=q00 hlt
  have h0:=qgm h d hd
  have hf:=((hi.cell d (q05 hd)).dead (by omega)).2.2 h0
  refine ⟨hi.make hnl (q1d hd) (fun b hb=>q2b hb) (fun b=>by rw [qdo _ hd,hf]; simp [occ]) hw hl3 ht hle he,fun b=>Kept.set hd (by omega) (by simp) b,fun c hc=>?_⟩
  rw [List.length_set] at hc
  by_cases hb:h.length - 1=q0t h
  ·rw [hb,q1d hd] at hc; simp at hc; subst hc; simp
  ·rw [q2b hb] at hc; exact htr c hc
end
end Go.Proofs.YtpggcodlaajceaaGreat
