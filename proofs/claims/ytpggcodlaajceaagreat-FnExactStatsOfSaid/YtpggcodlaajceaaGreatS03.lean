/- Part of a proof, joined by a program: Cn10 Cn11 Cn12. -/
import Derived.Test.YtpggcodlaajceaaGreatS02
namespace Go.Proofs.YtpggcodlaajceaaGreat
open Go.Vc
section
set_option linter.unusedVariables false
set_option maxRecDepth 100000
def qge (a_0 a_1 : Sl) (a_2 a_3 : Int) (a_4 : Sl) (left : Int) (m : Mem) (R : Value -> Mem -> Prop) : Prop :=
 let m1 : Mem := m.push (.cells (vals [.s a_0, .s a_1, .i a_2, .i a_3, .s a_4]) 113)
 eqT m.size m.size (
 q00 Tryz.prog q3h [Sl.v a_0, vi left] m1 fun r m1_1 =>
 Sam [m.size] m1 m1_1 /\
 ∃ r8 : Int, r = vi r8 /\
 ((decide (r8 < 0)) = true ->
 R (vi (-1)) m1_1) /\
 ((decide (r8 < 0)) = false ->
 eqT m.size m.size (
 q00 Tryz.prog q3h [Sl.v a_1, vi r8] m1_1 fun r_1 m1_2 =>
 Sam [m.size] m1_1 m1_2 /\
 ∃ r14 : Int, r_1 = vi r14 /\
 ((decide (r14 < 0)) = true ->
 R (vi (-1)) m1_2) /\
 ((decide (r14 < 0)) = false ->
 eqT m.size m.size (
 q00 Tryz.prog q97 [Sl.v a_4, vi r14] m1_2 fun r_2 m1_3 =>
 Sam [m.size] m1_2 m1_3 /\
 ∃ r20 : Int, r_2 = vi r20 /\
 ((decide (r20 < 0)) = true ->
 R (vi (-1)) m1_3) /\
 ((decide (r20 < 0)) = false ->
 R (vi r20) m1_3))))))
theorem qlj (a_0 a_1 : Sl) (a_2 a_3 : Int) (a_4 : Sl) (left : Int) (m : Mem) (R : Value -> Mem -> Prop) (hvc : qge a_0 a_1 a_2 a_3 a_4 left m R) : q00 Tryz.prog qbd [.agg #[Sl.v a_0, Sl.v a_1, vi a_2, vi a_3, Sl.v a_4], vi left] m R :=
 vcs (A := ⟨[], [], [], []⟩) (n := 24) (rs := [.tmp 4]) (args := [.agg [.s a_0, .s a_1, .i a_2, .i a_3, .s a_4], .c (.i left)]) (c := q05 Tryz.f69) Tryz.func69 hvc
def qbs (p_0 p_1 : Sl) (m : Mem) (R : Value -> Mem -> Prop) : Prop :=
 let m1 : Mem := m.push (.cells (vals [.s p_0, .s p_1]) 117)
 eqT m.size m.size (
 q00 Tryz.prog q6s [Sl.v p_0] m1 fun r m1_1 =>
 Sam [m.size] m1 m1_1 /\
 ∃ r7 : Bool, r = vb r7 /\
 ((!r7) = true ->
 R (vb false) m1_1) /\
 ((!r7) = false ->
 eqT m.size m.size (
 q00 Tryz.prog q0n [vi (p_1.len : Int), vi 1, vi 4] m1_1 fun r_1 m1_2 =>
 Sam [m.size] m1_1 m1_2 /\
 ∃ r13 : Bool, r_1 = vb r13 /\
 ((!r13) = true ->
 R (vb false) m1_2) /\
 ((!r13) = false ->
 ∃ (I0 : Int -> Mem -> Prop) (μ0 : Int -> Mem -> Nat),
 I0 0 m1_2 /\
 (∀ (i : Int) (m1_3 : Mem), I0 i m1_3 ->
 eqT m.size m.size (
 ((decide (i < (p_1.len : Int))) = true ->
 eqT m.size m.size (
 0 <= i /\ i < (p_1.len : Int) /\
 ∃ v27_0 : Sl, gcell m1_3 p_1.blk (p_1.off + Int.toNat i * 5) = some (Sl.v v27_0) /\
 ∃ v27_1 : Int, gcell m1_3 p_1.blk (p_1.off + Int.toNat i * 5 + 1) = some (vi v27_1) /\
 ∃ v27_2 : Int, gcell m1_3 p_1.blk (p_1.off + Int.toNat i * 5 + 2) = some (vi v27_2) /\
 ∃ v27_3 : Int, gcell m1_3 p_1.blk (p_1.off + Int.toNat i * 5 + 3) = some (vi v27_3) /\
 ∃ v27_4 : Sl, gcell m1_3 p_1.blk (p_1.off + Int.toNat i * 5 + 4) = some (Sl.v v27_4) /\
 let m1_4 : Mem := m1_3.push (.cells (vals [.s Sl.nil, .i 0, .i 0, .i 0, .s Sl.nil]) 176)
 eqT m1_3.size m1_3.size (
 let m1_5 : Mem := scells m1_4 m1_3.size 0 [.s v27_0, .i v27_1, .i v27_2, .i v27_3, .s v27_4]
 eqT m1_3.size m1_3.size (
 ((decide ((v27_0.len : Int) > 3)) = true ->
 R (vb false) m1_5) /\
 ((decide ((v27_0.len : Int) > 3)) = false ->
 eqT m.size m.size (
 eqT m1_3.size m1_3.size (
 q00 Tryz.prog q5q [Sl.v p_0, Sl.v v27_0] m1_5 fun r_2 m1_6 =>
 Sam [m1_3.size, m.size] m1_5 m1_6 /\
 ∃ r37 : Bool, r_2 = vb r37 /\
 ((!r37) = true ->
 R (vb false) m1_6) /\
 ((!r37) = false ->
 eqT m1_3.size m1_3.size (
 eqT m.size m.size (
 q00 Tryz.prog q0n [vi v27_1, vi 0, vi (p_0.len : Int)] m1_6 fun r_3 m1_7 =>
 Sam [m1_3.size, m.size] m1_6 m1_7 /\
 ∃ r46 : Bool, r_3 = vb r46 /\
 ((!r46) = true ->
 R (vb false) m1_7) /\
 ((!r46) = false ->
 eqS (SV.box m.size 117 [.s p_0, .s p_1]) (SV.box m.size 117 [.s p_0, .s p_1]) (
 I0 (w64 (i + 1)) m1_7 /\ μ0 (w64 (i + 1)) m1_7 < μ0 i m1_3)))))))))))) /\
 ((decide (i < (p_1.len : Int))) = false ->
 eqT m.size m.size (
 (0 : Int) <= (0 : Int) /\ 0 < (p_1.len : Int) /\
 ∃ v53 : Sl, gcell m1_3 p_1.blk (p_1.off + Int.toNat 0 * 5) = some (Sl.v v53) /\
 (((v53.len : Int) == 0) = true ->
 eqT m.size m.size (
 (0 : Int) <= (0 : Int) /\ 0 < (p_1.len : Int) /\
 ∃ v61 : Int, gcell m1_3 p_1.blk (p_1.off + Int.toNat 0 * 5 + 1) = some (vi v61) /\
 R (vb (v61 == 0)) m1_3)) /\
 (((v53.len : Int) == 0) = false ->
 R (vb false) m1_3)))))))))
theorem qgu (p_0 p_1 : Sl) (m : Mem) (R : Value -> Mem -> Prop) (hvc : qbs p_0 p_1 m R) : q00 Tryz.prog q7v [.agg #[Sl.v p_0, Sl.v p_1]] m R :=
 vcs (A := ⟨[], [(4, [(3, .I)])], [], [(4, [65])]⟩) (n := 64) (rs := [.tmp 2]) (args := [.agg [.s p_0, .s p_1]]) (c := q05 Tryz.f70) Tryz.func70 hvc
def q9e (im_0 im_1 : Sl) (m : Mem) (R : Value -> Mem -> Prop) : Prop :=
 let m1 : Mem := m.push (.cells (vals [.s im_0, .s im_1]) 35)
 let m1_1 : Mem := m1.push (.cells (vals [.s Sl.nil, .s Sl.nil]) 117)
 eqT m.size m.size (
 let m1_2 : Mem := m1_1.push (.cells (vals []) 176)
 let m1_3 : Mem := m1_2.push (.cells (vals [.s Sl.nil, .s Sl.nil]) 117)
 eqT m1_2.size m1_2.size (
 let m1_4 : Mem := scells m1_3 m1_2.size 0 [.s im_0, .s (Sl.mk m1_1.size 0 0 0)]
 ∃ (I0 : Int -> Mem -> Prop) (μ0 : Int -> Mem -> Nat),
 I0 0 m1_4 /\
 (∀ (i : Int) (m1_5 : Mem), I0 i m1_5 ->
 eqT m.size m.size (
 ((decide (i < (im_1.len : Int))) = true ->
 ∃ v17 : Sl, gcell m1_5 m1_2.size 1 = some (Sl.v v17) /\
 eqT m.size m.size (
 0 <= i /\ i < (im_1.len : Int) /\
 ∃ v23 : Sl, gcell m1_5 im_1.blk (im_1.off + Int.toNat i * 5) = some (Sl.v v23) /\
 eqT m.size m.size (
 0 <= i /\ i < (im_1.len : Int) /\
 ∃ v29 : Int, gcell m1_5 im_1.blk (im_1.off + Int.toNat i * 5 + 2) = some (vi v29) /\
 let m1_6 : Mem := m1_5.push (.cells (vals [.s v23, .i v29, .i 0, .i 0, .s Sl.nil]) 176)
 gcell m1_6 m1_2.size 1 = gcell m1_5 m1_2.size 1 /\
 appC m1_6 176 [.s Sl.nil, .i 0, .i 0, .i 0, .s Sl.nil] 72 v17 (Sl.mk m1_5.size 0 1 1) fun r32 m1_7 =>
 Sam [m1.size, m.size] m1_6 m1_7 /\
 wrOk m1_7 m1_2.size 1 1 /\
 let m1_8 : Mem := scells m1_7 m1_2.size 1 [.s r32]
 Sam [m1.size, m.size] m1_7 m1_8 /\
 eqS (SV.box m1.size 117 [.s Sl.nil, .s Sl.nil]) (SV.box m1.size 117 [.s Sl.nil, .s Sl.nil]) (
 eqS (SV.box m.size 35 [.s im_0, .s im_1]) (SV.box m.size 35 [.s im_0, .s im_1]) (
 I0 (w64 (i + 1)) m1_8 /\ μ0 (w64 (i + 1)) m1_8 < μ0 i m1_5))))) /\
 ((decide (i < (im_1.len : Int))) = false ->
 ∃ v34_0 : Sl, gcell m1_5 m1_2.size 0 = some (Sl.v v34_0) /\
 ∃ v34_1 : Sl, gcell m1_5 m1_2.size 1 = some (Sl.v v34_1) /\
 eqT m1.size m1.size (
 let m1_9 : Mem := scells m1_5 m1.size 0 [.s v34_0, .s v34_1]
 eqT m1.size m1.size (
 R (.agg #[Sl.v v34_0, Sl.v v34_1]) m1_9)))))))
theorem qf9 (im_0 im_1 : Sl) (m : Mem) (R : Value -> Mem -> Prop) (hvc : q9e im_0 im_1 m R) : q00 Tryz.prog q6a [.agg #[Sl.v im_0, Sl.v im_1]] m R :=
 vcs (A := ⟨[(5, [0, 1, 0, 4, 0, 24, 32, 64, 0, 256, 0, 1536, 2048, 4096, 8320, 16384, 32770, 131071, 262143], [0, 1, 0, 4, 0, 28, 60, 124, 0, 256, 0, 1792, 3840, 7936, 16380, 32764, 65535, 131071, 262143])], [(3, [(4, .I)])], [], [(3, [37, 36])]⟩) (n := 35) (rs := [.cell 2 117]) (args := [.agg [.s im_0, .s im_1]]) (c := q05 Tryz.f71) Tryz.func71 hvc
def qbx (im_0 im_1 p_0 p_1 : Sl) (p_2 p_3 : Int) (p_4 : Sl) (m : Mem) (R : Value -> Mem -> Prop) : Prop :=
 let m1 : Mem := m.push (.cells (vals [.s im_0, .s im_1]) 35)
 let m1_1 : Mem := m1.push (.cells (vals [.s p_0, .s p_1, .i p_2, .i p_3, .s p_4]) 89)
 eqT m1.size m1.size (
 eqT m1.size m1.size (
 eqT m1.size m1.size (
 q00 Tryz.prog q7o [Sl.v p_0, Sl.v p_1] m1_1 fun r m1_2 =>
 Sam [m1.size, m.size] m1_1 m1_2 /\
 ∃ r14 : Bool, r = vb r14 /\
 ((!r14) = true ->
 R (vb false) m1_2) /\
 ((!r14) = false ->
 eqT m1.size m1.size (
 eqT m1.size m1.size (
 q00 Tryz.prog q0n [vi p_3, vi (if (p_0.len : Int) > 1 then (p_0.len : Int) else 1), vi 2000] m1_2 fun r_1 m1_3 =>
 Sam [m1.size, m.size] m1_2 m1_3 /\
 ∃ r23 : Bool, r_1 = vb r23 /\
 ((!r23) = true ->
 R (vb false) m1_3) /\
 ((!r23) = false ->
 q00 Tryz.prog q0n [vi (p_4.len : Int), vi 1, vi 2000] m1_3 fun r_2 m1_4 =>
 Sam [m1.size, m.size] m1_3 m1_4 /\
 ∃ r28 : Bool, r_2 = vb r28 /\
 ((!r28) = true ->
 R (vb false) m1_4) /\
 ((!r28) = false ->
 ∃ (I0 : Int -> Mem -> Prop) (μ0 : Int -> Mem -> Nat),
 I0 0 m1_4 /\
 (∀ (at0 : Int) (m1_5 : Mem), I0 at0 m1_5 ->
 ((decide (at0 < (p_4.len : Int))) = true ->
 eqT m.size m.size (
 eqT m1.size m1.size (
 q00 Tryz.prog q6z [.agg #[Sl.v im_0, Sl.v im_1], .agg #[Sl.v p_0, Sl.v p_1, vi p_2, vi p_3, Sl.v p_4], vi at0] m1_5 fun r_3 m1_6 =>
 Sam [m1.size, m.size] m1_5 m1_6 /\
 ∃ r39 : Bool, r_3 = vb r39 /\
 ((!r39) = true ->
 R (vb false) m1_6) /\
 ((!r39) = false ->
 eqS (SV.box m1.size 89 [.s p_0, .s p_1, .i p_2, .i p_3, .s p_4]) (SV.box m1.size 89 [.s p_0, .s p_1, .i p_2, .i p_3, .s p_4]) (
 eqS (SV.box m.size 35 [.s im_0, .s im_1]) (SV.box m.size 35 [.s im_0, .s im_1]) (
 I0 (w64 (at0 + 1)) m1_6 /\ μ0 (w64 (at0 + 1)) m1_6 < μ0 at0 m1_5)))))) /\
 ((decide (at0 < (p_4.len : Int))) = false ->
 eqT m1.size m1.size (
 0 <= (w64 ((p_4.len : Int) - 1)) /\ (w64 ((p_4.len : Int) - 1)) < (p_4.len : Int) /\
 ∃ v47 : Int, gcell m1_5 p_4.blk (p_4.off + Int.toNat (w64 ((p_4.len : Int) - 1)) * 6) = some (vi v47) /\
 ((v47 == 23) = true ->
 R (vb true) m1_5) /\
 ((v47 == 23) = false ->
 eqT m1.size m1.size (
 0 <= (w64 ((p_4.len : Int) - 1)) /\ (w64 ((p_4.len : Int) - 1)) < (p_4.len : Int) /\
 ∃ v56 : Int, gcell m1_5 p_4.blk (p_4.off + Int.toNat (w64 ((p_4.len : Int) - 1)) * 6) = some (vi v56) /\
 R (vb (v56 == 24)) m1_5)))))))))))))
theorem qhe (im_0 im_1 p_0 p_1 : Sl) (p_2 p_3 : Int) (p_4 : Sl) (m : Mem) (R : Value -> Mem -> Prop) (hvc : qbx im_0 im_1 p_0 p_1 p_2 p_3 p_4 m R) : q00 Tryz.prog q7q [.agg #[Sl.v im_0, Sl.v im_1], .agg #[Sl.v p_0, Sl.v p_1, vi p_2, vi p_3, Sl.v p_4]] m R :=
 vcs (A := ⟨[], [(5, [(6, .I)])], [], [(5, [62, 61])]⟩) (n := 59) (rs := [.tmp 4]) (args := [.agg [.s im_0, .s im_1], .agg [.s p_0, .s p_1, .i p_2, .i p_3, .s p_4]]) (c := q05 Tryz.f72) Tryz.func72 hvc
def qcg (list : Sl) (m : Mem) (R : Value -> Mem -> Prop) : Prop :=
 let m1 : Mem := m.push (.cells (vals []) 3)
 appC m1 3 [.i 0] 8 (Sl.mk m.size 0 0 0) list fun r5 m1_1 =>
 R (Sl.v r5) m1_1
theorem qi6 (list : Sl) (m : Mem) (R : Value -> Mem -> Prop) (hvc : qcg list m R) : q00 Tryz.prog q3b [Sl.v list] m R :=
 vcs (A := ⟨[], [], [], []⟩) (n := 6) (rs := [.tmp 2]) (args := [.c (.s list)]) (c := q05 Tryz.f73) Tryz.func73 hvc
def qaz (im_0 im_1 : Sl) (most : Int) (m : Mem) (R : Value -> Mem -> Prop) : Prop :=
 let m1 : Mem := m.push (.cells (vals [.s im_0, .s im_1]) 35)
 let m1_1 : Mem := m1.push (.cells (vals [.i 0, .i 0, .i 0, .i 0, .s Sl.nil, .s Sl.nil, .s Sl.nil]) 55)
 let m1_2 : Mem := m1_1.push (.cells (vals []) 3)
 let m1_3 : Mem := m1_2.push (.cells (vals []) 149)
 eqT m.size m.size (
 let m1_4 : Mem := m1_3.push (.cells (vals []) 3)
 let m1_5 : Mem := m1_4.push (.cells (vals []) 3)
 q00 Tryz.prog q2y [.agg #[Sl.v im_0, Sl.v im_1], vi 0, vi 0, Sl.v (Sl.mk m1_3.size 0 0 0), Sl.v (Sl.mk m1_4.size 0 0 0)] m1_5 fun r m1_6 =>
 Sam [m1.size, m.size] m1_5 m1_6 /\
 ∃ r_0 : Int, ∃ r_1 : Int, ∃ r_2 : Int, ∃ r_3 : Sl, ∃ r_4 : Sl, ∃ r_5 : Sl, r = .agg #[vi r_0, vi r_1, vi r_2, Sl.v r_3, Sl.v r_4, Sl.v r_5] /\
 let m1_7 : Mem := m1_6.push (.cells (vals [.i r_0, .i r_1, .i r_2, .s r_3, .s r_4, .s r_5]) 84)
 eqT m1.size m1.size (
 let m1_8 : Mem := scells m1_7 m1.size 0 [.i 3, .i 0, .i 0, .i most, .s (Sl.mk m1_1.size 0 0 0), .s (Sl.mk m1_2.size 0 0 0), .s (Sl.mk m1_6.size 0 1 1)]
 eqT m1.size m1.size (
 R (.agg #[vi 3, vi 0, vi 0, vi most, Sl.v (Sl.mk m1_1.size 0 0 0), Sl.v (Sl.mk m1_2.size 0 0 0), Sl.v (Sl.mk m1_6.size 0 1 1)]) m1_8)))
theorem qfp (im_0 im_1 : Sl) (most : Int) (m : Mem) (R : Value -> Mem -> Prop) (hvc : qaz im_0 im_1 most m R) : q00 Tryz.prog q70 [.agg #[Sl.v im_0, Sl.v im_1], vi most] m R :=
 vcs (A := ⟨[], [], [], []⟩) (n := 14) (rs := [.cell 4 55]) (args := [.agg [.s im_0, .s im_1], .c (.i most)]) (c := q05 Tryz.f74) Tryz.func74 hvc
def qfv (a_0 a_1 : Int) (a_2 : Sl) (m : Mem) (R : Value -> Mem -> Prop) : Prop :=
 let m1 : Mem := m.push (.cells (vals [.i a_0, .i a_1, .s a_2]) 109)
 let m1_1 : Mem := m1.push (.cells (vals [.i 0, .i 0, .s Sl.nil]) 122)
 let m1_2 : Mem := m1_1.push (.cells (vals [.i 0, .i 0, .s Sl.nil]) 122)
 eqT m.size m.size (
 eqT m1_1.size m1_1.size (
 let m1_3 : Mem := scells m1_2 m1_1.size 0 [.i a_0]
 eqT m.size m.size (
 eqT m1_1.size m1_1.size (
 let m1_4 : Mem := scells m1_3 m1_1.size 1 [.i a_1]
 eqT m.size m.size (
 q00 Tryz.prog qb9 [Sl.v a_2] m1_4 fun r m1_5 =>
 Sam [m1_1.size, m1.size, m.size] m1_4 m1_5 /\
 ∃ r12 : Sl, r = Sl.v r12 /\
 eqT m1_1.size m1_1.size (
 let m1_6 : Mem := scells m1_5 m1_1.size 2 [.s r12]
 eqT m1_1.size m1_1.size (
 eqT m1.size m1.size (
 let m1_7 : Mem := scells m1_6 m1.size 0 [.i a_0, .i a_1, .s r12]
 eqT m1.size m1.size (
 R (.agg #[vi a_0, vi a_1, Sl.v r12]) m1_7)))))))))
theorem ql5 (a_0 a_1 : Int) (a_2 : Sl) (m : Mem) (R : Value -> Mem -> Prop) (hvc : qfv a_0 a_1 a_2 m R) : q00 Tryz.prog qbl [.agg #[vi a_0, vi a_1, Sl.v a_2]] m R :=
 vcs (A := ⟨[], [], [], []⟩) (n := 15) (rs := [.cell 2 122]) (args := [.agg [.i a_0, .i a_1, .s a_2]]) (c := q05 Tryz.f75) Tryz.func75 hvc
def qfg (a_0 a_1 : Sl) (a_2 a_3 : Int) (a_4 : Sl) (m : Mem) (R : Value -> Mem -> Prop) : Prop :=
 let m1 : Mem := m.push (.cells (vals [.s a_0, .s a_1, .i a_2, .i a_3, .s a_4]) 113)
 let m1_1 : Mem := m1.push (.cells (vals [.s Sl.nil, .s Sl.nil, .i 0, .i 0, .s Sl.nil]) 89)
 let m1_2 : Mem := m1_1.push (.cells (vals [.s Sl.nil, .s Sl.nil, .i 0, .i 0, .s Sl.nil]) 89)
 eqT m.size m.size (
 q00 Tryz.prog q3j [Sl.v a_0] m1_2 fun r m1_3 =>
 Sam [m1_1.size, m1.size, m.size] m1_2 m1_3 /\
 ∃ r6 : Sl, r = Sl.v r6 /\
 eqT m1_1.size m1_1.size (
 let m1_4 : Mem := scells m1_3 m1_1.size 0 [.s r6]
 eqT m.size m.size (
 q00 Tryz.prog q3j [Sl.v a_1] m1_4 fun r_1 m1_5 =>
 Sam [m1_1.size, m1.size, m.size] m1_4 m1_5 /\
 ∃ r10 : Sl, r_1 = Sl.v r10 /\
 eqT m1_1.size m1_1.size (
 let m1_6 : Mem := scells m1_5 m1_1.size 1 [.s r10]
 eqT m.size m.size (
 eqT m1_1.size m1_1.size (
 let m1_7 : Mem := scells m1_6 m1_1.size 2 [.i a_2]
 eqT m.size m.size (
 eqT m1_1.size m1_1.size (
 let m1_8 : Mem := scells m1_7 m1_1.size 3 [.i a_3]
 eqT m.size m.size (
 q00 Tryz.prog q8t [Sl.v a_4] m1_8 fun r_2 m1_9 =>
 Sam [m1_1.size, m1.size, m.size] m1_8 m1_9 /\
 ∃ r20 : Sl, r_2 = Sl.v r20 /\
 eqT m1_1.size m1_1.size (
 let m1_10 : Mem := scells m1_9 m1_1.size 4 [.s r20]
 eqT m1_1.size m1_1.size (
 eqT m1.size m1.size (
 let m1_11 : Mem := scells m1_10 m1.size 0 [.s r6, .s r10, .i a_2, .i a_3, .s r20]
 eqT m1.size m1.size (
 R (.agg #[Sl.v r6, Sl.v r10, vi a_2, vi a_3, Sl.v r20]) m1_11)))))))))))))
theorem ql0 (a_0 a_1 : Sl) (a_2 a_3 : Int) (a_4 : Sl) (m : Mem) (R : Value -> Mem -> Prop) (hvc : qfg a_0 a_1 a_2 a_3 a_4 m R) : q00 Tryz.prog qb4 [.agg #[Sl.v a_0, Sl.v a_1, vi a_2, vi a_3, Sl.v a_4]] m R :=
 vcs (A := ⟨[], [], [], []⟩) (n := 23) (rs := [.cell 2 89]) (args := [.agg [.s a_0, .s a_1, .i a_2, .i a_3, .s a_4]]) (c := q05 Tryz.f76) Tryz.func76 hvc
def qbo (im_0 im_1 : Sl) (m : Mem) (R : Value -> Mem -> Prop) : Prop :=
 let m1 : Mem := m.push (.cells (vals [.s im_0, .s im_1]) 35)
 let m1_1 : Mem := m1.push (.cells (vals [.s Sl.nil, .s Sl.nil]) 127)
 eqT m.size m.size (
 ((decide ((im_1.len : Int) > 4)) = true ->
 eqT m1.size m1.size (
 let m1_2 : Mem := scells m1_1 m1.size 0 [.s Sl.nil, .s Sl.nil]
 eqT m1.size m1.size (
 R (.tuple #[.agg #[Sl.v Sl.nil, Sl.v Sl.nil], vb false]) m1_2))) /\
 ((decide ((im_1.len : Int) > 4)) = false ->
 eqT m.size m.size (
 let m1_3 : Mem := m1_1.push (.cells (vals [.s Sl.nil, .s Sl.nil]) 127)
 eqT m1_1.size m1_1.size (
 let m1_4 : Mem := scells m1_3 m1_1.size 0 [.s im_0, .s Sl.nil]
 eqT m.size m.size (
 ∃ (I0 : Int -> Mem -> Prop) (μ0 : Int -> Mem -> Nat),
 I0 0 m1_4 /\
 (∀ (v18 : Int) (m1_5 : Mem), I0 v18 m1_5 ->
 ((decide (v18 < (im_1.len : Int))) = true ->
 0 <= v18 /\ v18 < (im_1.len : Int) /\
 ∃ v21_0 : Sl, gcell m1_5 im_1.blk (im_1.off + Int.toNat v18 * 5) = some (Sl.v v21_0) /\
 ∃ v21_1 : Sl, gcell m1_5 im_1.blk (im_1.off + Int.toNat v18 * 5 + 1) = some (Sl.v v21_1) /\
 ∃ v21_2 : Int, gcell m1_5 im_1.blk (im_1.off + Int.toNat v18 * 5 + 2) = some (vi v21_2) /\
 ∃ v21_3 : Int, gcell m1_5 im_1.blk (im_1.off + Int.toNat v18 * 5 + 3) = some (vi v21_3) /\
 ∃ v21_4 : Sl, gcell m1_5 im_1.blk (im_1.off + Int.toNat v18 * 5 + 4) = some (Sl.v v21_4) /\
 let m1_6 : Mem := m1_5.push (.cells (vals [.s Sl.nil, .s Sl.nil, .i 0, .i 0, .s Sl.nil]) 89)
 eqT m1_5.size m1_5.size (
 let m1_7 : Mem := scells m1_6 m1_5.size 0 [.s v21_0, .s v21_1, .i v21_2, .i v21_3, .s v21_4]
 ∃ v23 : Sl, gcell m1_7 m1_1.size 1 = some (Sl.v v23) /\
 eqT m1_5.size m1_5.size (
 eqT m1_5.size m1_5.size (
 eqT m1_5.size m1_5.size (
 let m1_8 : Mem := m1_7.push (.cells (vals [.s v21_0, .s v21_1, .i v21_2]) 183)
 appC m1_8 183 [.s Sl.nil, .s Sl.nil, .i 0] 56 v23 (Sl.mk m1_7.size 0 1 1) fun r32 m1_9 =>
 Sam [m1_5.size, m1.size, m.size] m1_8 m1_9 /\
 wrOk m1_9 m1_1.size 1 1 /\
 let m1_10 : Mem := scells m1_9 m1_1.size 1 [.s r32]
 Sam [m1_5.size, m1.size, m.size] m1_9 m1_10 /\
 eqS (SV.box m1.size 127 [.s Sl.nil, .s Sl.nil]) (SV.box m1.size 127 [.s Sl.nil, .s Sl.nil]) (
 eqS (SV.box m.size 35 [.s im_0, .s im_1]) (SV.box m.size 35 [.s im_0, .s im_1]) (
 I0 (w64 (v18 + 1)) m1_10 /\ μ0 (w64 (v18 + 1)) m1_10 < μ0 v18 m1_5))))))) /\
 ((decide (v18 < (im_1.len : Int))) = false ->
 ∃ v35_0 : Sl, gcell m1_5 m1_1.size 0 = some (Sl.v v35_0) /\
 ∃ v35_1 : Sl, gcell m1_5 m1_1.size 1 = some (Sl.v v35_1) /\
 eqT m.size m.size (
 ∃ v39 : Sl, gcell m1_5 m1_1.size 1 = some (Sl.v v39) /\
 q00 Tryz.prog q7z [Sl.v im_0, Sl.v v39] m1_5 fun r m1_11 =>
 Sam [m1.size, m.size] m1_5 m1_11 /\
 ∃ r40 : Bool, r = vb r40 /\
 gcell m1_11 m1_1.size 0 = gcell m1_5 m1_1.size 0 /\
 gcell m1_11 m1_1.size 1 = gcell m1_5 m1_1.size 1 /\
 eqT m1.size m1.size (
 let m1_12 : Mem := scells m1_11 m1.size 0 [.s v35_0, .s v35_1]
 eqT m1.size m1.size (
 R (.tuple #[.agg #[Sl.v v35_0, Sl.v v35_1], vb r40]) m1_12))))))))))
theorem qgx (im_0 im_1 : Sl) (m : Mem) (R : Value -> Mem -> Prop) (hvc : qbo im_0 im_1 m R) : q00 Tryz.prog q7n [.agg #[Sl.v im_0, Sl.v im_1]] m R :=
 vcs (A := ⟨[(9, [0, 0, 2, 0, 8, 20, 33, 127], [0, 0, 2, 0, 8, 30, 63, 127])], [(5, [(18, .I)])], [], [(5, [43, 42])]⟩) (n := 41) (rs := [.cell 2 127, .tmp 3]) (args := [.agg [.s im_0, .s im_1]]) (c := q05 Tryz.f77) Tryz.func77 hvc
def q4i (s_0 s_1 p_0 p_1 : Sl) (p_2 p_3 : Int) (p_4 : Sl) (k x_0 x_1 x_2 x_3 : Int) (x_4 x_5 : Sl) (m : Mem) (R : Value -> Mem -> Prop) : Prop :=
 let m1 : Mem := m.push (.cells (vals [.s s_0, .s s_1]) 127)
 let m1_1 : Mem := m1.push (.cells (vals [.s p_0, .s p_1, .i p_2, .i p_3, .s p_4]) 89)
 let m1_2 : Mem := m1_1.push (.cells (vals [.i k]) 3)
 let m1_3 : Mem := m1_2.push (.cells (vals [.i x_0, .i x_1, .i x_2, .i x_3, .s x_4, .s x_5]) 86)
 eqT m1_2.size m1_2.size (
 ((decide (x_0 < 0)) = true ->
 R (vb false) m1_3) /\
 ((decide (x_0 < 0)) = false ->
 eqT m1_2.size m1_2.size (
 ((decide (x_0 > 24)) = true ->
 R (vb false) m1_3) /\
 ((decide (x_0 > 24)) = false ->
 eqT m1_2.size m1_2.size (
 ((x_0 == 7) = true ->
 R (vb false) m1_3) /\
 ((x_0 == 7) = false ->
 eqT m1_2.size m1_2.size (
 ((x_0 == 8) = true ->
 R (vb false) m1_3) /\
 ((x_0 == 8) = false ->
 eqT m1_2.size m1_2.size (
 ((x_0 == 12) = true ->
 R (vb false) m1_3) /\
 ((x_0 == 12) = false ->
 eqT m1_2.size m1_2.size (
 ((x_0 == 13) = true ->
 R (vb false) m1_3) /\
 ((x_0 == 13) = false ->
 ∃ K0 : Mem -> Prop,
 (eqT m1_2.size m1_2.size (
 ((decide (x_1 < 0)) = true ->
 R (vb false) m1_3) /\
 ((decide (x_1 < 0)) = false ->
 eqT m1_2.size m1_2.size (
 eqT m1.size m1.size (
 ((decide (x_1 ≥ p_3)) = true ->
 R (vb false) m1_3) /\
 ((decide (x_1 ≥ p_3)) = false ->
 eqT m1_2.size m1_2.size (
 ((x_1 != 0) = true ->
 eqT m1_2.size m1_2.size (
 q00 Tryz.prog q3z [vi x_0] m1_3 fun r m1_4 =>
 Sam [m1_2.size, m1_1.size, m1.size, m.size] m1_3 m1_4 /\
 ∃ r59 : Bool, r = vb r59 /\
 ((!r59) = true ->
 R (vb false) m1_4) /\
 ((!r59) = false ->
 eqT m1_2.size m1_2.size (
 ((decide (x_3 < 0)) = true ->
 R (vb false) m1_4) /\
 ((decide (x_3 < 0)) = false ->
 eqT m1_2.size m1_2.size (
 eqT m1.size m1.size (
 ((decide (x_3 > p_3)) = true ->
 R (vb false) m1_4) /\
 ((decide (x_3 > p_3)) = false ->
 eqT m1_2.size m1_2.size (
 ((x_3 != 0) = true ->
 eqT m1_2.size m1_2.size (
 ((x_0 != 6) = true ->
 R (vb false) m1_4) /\
 ((x_0 != 6) = false ->
 eqS (SV.box m1_2.size 86 [.i x_0, .i x_1, .i x_2, .i x_3, .s x_4, .s x_5]) (SV.box m1_2.size 86 [.i x_0, .i x_1, .i x_2, .i x_3, .s x_4, .s x_5]) (
 eqS (SV.box m1_1.size 3 [.i k]) (SV.box m1_1.size 3 [.i k]) (
 eqS (SV.box m1.size 89 [.s p_0, .s p_1, .i p_2, .i p_3, .s p_4]) (SV.box m1.size 89 [.s p_0, .s p_1, .i p_2, .i p_3, .s p_4]) (
 eqS (SV.box m.size 127 [.s s_0, .s s_1]) (SV.box m.size 127 [.s s_0, .s s_1]) (
 K0 m1_4))))))) /\
 ((x_3 != 0) = false ->
 eqS (SV.box m1_2.size 86 [.i x_0, .i x_1, .i x_2, .i x_3, .s x_4, .s x_5]) (SV.box m1_2.size 86 [.i x_0, .i x_1, .i x_2, .i x_3, .s x_4, .s x_5]) (
 eqS (SV.box m1_1.size 3 [.i k]) (SV.box m1_1.size 3 [.i k]) (
 eqS (SV.box m1.size 89 [.s p_0, .s p_1, .i p_2, .i p_3, .s p_4]) (SV.box m1.size 89 [.s p_0, .s p_1, .i p_2, .i p_3, .s p_4]) (
 eqS (SV.box m.size 127 [.s s_0, .s s_1]) (SV.box m.size 127 [.s s_0, .s s_1]) (
 K0 m1_4)))))))))))))) /\
 ((x_1 != 0) = false ->
 eqT m1_2.size m1_2.size (
 ((decide (x_3 < 0)) = true ->
 R (vb false) m1_3) /\
 ((decide (x_3 < 0)) = false ->
 eqT m1_2.size m1_2.size (
 eqT m1.size m1.size (
 ((decide (x_3 > p_3)) = true ->
 R (vb false) m1_3) /\
 ((decide (x_3 > p_3)) = false ->
 eqT m1_2.size m1_2.size (
 ((x_3 != 0) = true ->
 eqT m1_2.size m1_2.size (
 ((x_0 != 6) = true ->
 R (vb false) m1_3) /\
 ((x_0 != 6) = false ->
 eqS (SV.box m1_2.size 86 [.i x_0, .i x_1, .i x_2, .i x_3, .s x_4, .s x_5]) (SV.box m1_2.size 86 [.i x_0, .i x_1, .i x_2, .i x_3, .s x_4, .s x_5]) (
 eqS (SV.box m1_1.size 3 [.i k]) (SV.box m1_1.size 3 [.i k]) (
 eqS (SV.box m1.size 89 [.s p_0, .s p_1, .i p_2, .i p_3, .s p_4]) (SV.box m1.size 89 [.s p_0, .s p_1, .i p_2, .i p_3, .s p_4]) (
 eqS (SV.box m.size 127 [.s s_0, .s s_1]) (SV.box m.size 127 [.s s_0, .s s_1]) (
 K0 m1_3))))))) /\
 ((x_3 != 0) = false ->
 eqS (SV.box m1_2.size 86 [.i x_0, .i x_1, .i x_2, .i x_3, .s x_4, .s x_5]) (SV.box m1_2.size 86 [.i x_0, .i x_1, .i x_2, .i x_3, .s x_4, .s x_5]) (
 eqS (SV.box m1_1.size 3 [.i k]) (SV.box m1_1.size 3 [.i k]) (
 eqS (SV.box m1.size 89 [.s p_0, .s p_1, .i p_2, .i p_3, .s p_4]) (SV.box m1.size 89 [.s p_0, .s p_1, .i p_2, .i p_3, .s p_4]) (
 eqS (SV.box m.size 127 [.s s_0, .s s_1]) (SV.box m.size 127 [.s s_0, .s s_1]) (
 K0 m1_3))))))))))))))))))) /\
 (∀ (m1_5 : Mem), K0 m1_5 ->
 eqT m1_2.size m1_2.size (
 ∃ (I0 : Int -> Mem -> Prop) (μ0 : Int -> Mem -> Nat),
 I0 0 m1_5 /\
 (∀ (v88 : Int) (m1_6 : Mem), I0 v88 m1_6 ->
 ((decide (v88 < (x_4.len : Int))) = true ->
 0 <= v88 /\ v88 < (x_4.len : Int) /\
 ∃ v91 : Int, gcell m1_6 x_4.blk (x_4.off + Int.toNat v88 * 1) = some (vi v91) /\
 ((decide (v91 < 0)) = true ->
 R (vb false) m1_6) /\
 ((decide (v91 < 0)) = false ->
 eqT m1.size m1.size (
 ((decide (v91 ≥ p_3)) = true ->
 R (vb false) m1_6) /\
 ((decide (v91 ≥ p_3)) = false ->
 eqS (SV.box m1_2.size 86 [.i x_0, .i x_1, .i x_2, .i x_3, .s x_4, .s x_5]) (SV.box m1_2.size 86 [.i x_0, .i x_1, .i x_2, .i x_3, .s x_4, .s x_5]) (
 eqS (SV.box m1_1.size 3 [.i k]) (SV.box m1_1.size 3 [.i k]) (
 eqS (SV.box m1.size 89 [.s p_0, .s p_1, .i p_2, .i p_3, .s p_4]) (SV.box m1.size 89 [.s p_0, .s p_1, .i p_2, .i p_3, .s p_4]) (
 eqS (SV.box m.size 127 [.s s_0, .s s_1]) (SV.box m.size 127 [.s s_0, .s s_1]) (
 I0 (w64 (v88 + 1)) m1_6 /\ μ0 (w64 (v88 + 1)) m1_6 < μ0 v88 m1_6)))))))) /\
 ((decide (v88 < (x_4.len : Int))) = false ->
 let m1_7 : Mem := m1_6.push (.cells (vals [.nf]) 159)
 eqT m1_6.size m1_6.size (
 let m1_8 : Mem := scells m1_7 m1_6.size 0 [.fn (.func q0u) #[] #[vp m1_1.size 0, vp m1.size 0]]
 eqT m1_2.size m1_2.size (
 ((decide ((x_5.len : Int) > 0)) = true ->
 eqT m1_2.size m1_2.size (
 ((x_0 != 21) = true ->
 R (vb false) m1_8) /\
 ((x_0 != 21) = false ->
 eqT m1_2.size m1_2.size (
 q00 Tryz.prog q18 [Sl.v x_5, .func (.func q1e) #[] #[vp m1_6.size 0]] m1_8 fun r_1 m1_9 =>
 Sam [m1_2.size, m.size] m1_8 m1_9 /\
 ∃ r115 : Bool, r_1 = vb r115 /\
 (r115 = true ->
 R (vb false) m1_9) /\
 (r115 = false ->
 eqT m.size m.size (
 eqT m1_2.size m1_2.size (
 ∃ v119 : Fn × Array Value × Array Value, gcell m1_9 m1_6.size 0 = some (.func v119.1 v119.2.1 v119.2.2) /\
 q00 Tryz.prog q1v [.agg #[Sl.v s_0, Sl.v s_1], .agg #[vi x_0, vi x_1, vi x_2, vi x_3, Sl.v x_4, Sl.v x_5], .func v119.1 v119.2.1 v119.2.2] m1_9 fun r_2 m1_10 =>
 Sam [m1_2.size, m.size] m1_9 m1_10 /\
 ∃ r120 : Bool, r_2 = vb r120 /\
 ((!r120) = true ->
 R (vb false) m1_10) /\
 ((!r120) = false ->
 eqT m.size m.size (
 eqT m1_2.size m1_2.size (
 q00 Tryz.prog q25 [.agg #[Sl.v s_0, Sl.v s_1], .agg #[vi x_0, vi x_1, vi x_2, vi x_3, Sl.v x_4, Sl.v x_5]] m1_10 fun r_3 m1_11 =>
 Sam [m1_2.size, m.size] m1_10 m1_11 /\
 ∃ r125 : Int, ∃ r125_1 : Int, r_3 = .tuple #[vi r125, vi r125_1] /\
 eqT m1_2.size m1_2.size (
 ((decide ((x_4.len : Int) ≥ r125)) = true ->
 eqT m1_2.size m1_2.size (
 R (vb (decide ((x_4.len : Int) <= r125_1))) m1_11)) /\
 ((decide ((x_4.len : Int) ≥ r125)) = false ->
 R (vb false) m1_11)))))))))))) /\
 ((decide ((x_5.len : Int) > 0)) = false ->
 eqT m1_2.size m1_2.size (
 q00 Tryz.prog q18 [Sl.v x_5, .func (.func q1e) #[] #[vp m1_6.size 0]] m1_8 fun r_4 m1_12 =>
 Sam [m1_2.size, m.size] m1_8 m1_12 /\
 ∃ r115_1 : Bool, r_4 = vb r115_1 /\
 (r115_1 = true ->
 R (vb false) m1_12) /\
 (r115_1 = false ->
 eqT m.size m.size (
 eqT m1_2.size m1_2.size (
 ∃ v119_1 : Fn × Array Value × Array Value, gcell m1_12 m1_6.size 0 = some (.func v119_1.1 v119_1.2.1 v119_1.2.2) /\
 q00 Tryz.prog q1v [.agg #[Sl.v s_0, Sl.v s_1], .agg #[vi x_0, vi x_1, vi x_2, vi x_3, Sl.v x_4, Sl.v x_5], .func v119_1.1 v119_1.2.1 v119_1.2.2] m1_12 fun r_5 m1_13 =>
 Sam [m1_2.size, m.size] m1_12 m1_13 /\
 ∃ r120_1 : Bool, r_5 = vb r120_1 /\
 ((!r120_1) = true ->
 R (vb false) m1_13) /\
 ((!r120_1) = false ->
 eqT m.size m.size (
 eqT m1_2.size m1_2.size (
 q00 Tryz.prog q25 [.agg #[Sl.v s_0, Sl.v s_1], .agg #[vi x_0, vi x_1, vi x_2, vi x_3, Sl.v x_4, Sl.v x_5]] m1_13 fun r_6 m1_14 =>
 Sam [m1_2.size, m.size] m1_13 m1_14 /\
 ∃ r125_2 : Int, ∃ r125_3 : Int, r_6 = .tuple #[vi r125_2, vi r125_3] /\
 eqT m1_2.size m1_2.size (
 ((decide ((x_4.len : Int) ≥ r125_2)) = true ->
 eqT m1_2.size m1_2.size (
 R (vb (decide ((x_4.len : Int) <= r125_3))) m1_14)) /\
 ((decide ((x_4.len : Int) ≥ r125_2)) = false ->
 R (vb false) m1_14))))))))))))))))))))))))))))
theorem q7t (s_0 s_1 p_0 p_1 : Sl) (p_2 p_3 : Int) (p_4 : Sl) (k x_0 x_1 x_2 x_3 : Int) (x_4 x_5 : Sl) (m : Mem) (R : Value -> Mem -> Prop) (hvc : q4i s_0 s_1 p_0 p_1 p_2 p_3 p_4 k x_0 x_1 x_2 x_3 x_4 x_5 m R) : q00 Tryz.prog q31 [.agg #[Sl.v s_0, Sl.v s_1], .agg #[Sl.v p_0, Sl.v p_1, vi p_2, vi p_3, Sl.v p_4], vi k, .agg #[vi x_0, vi x_1, vi x_2, vi x_3, Sl.v x_4, Sl.v x_5]] m R :=
 vcs (A := ⟨[], [(6, [(88, .I)])], [(5, [])], [(5, [147, 146, 145, 144]), (6, [147, 146, 145, 144])]⟩) (n := 140) (rs := [.tmp 8]) (args := [.agg [.s s_0, .s s_1], .agg [.s p_0, .s p_1, .i p_2, .i p_3, .s p_4], .c (.i k), .agg [.i x_0, .i x_1, .i x_2, .i x_3, .s x_4, .s x_5]]) (c := q05 Tryz.f78) Tryz.func78 hvc
def qd4 (im_0 im_1 : Sl) (proc dst : Int) (m : Mem) (R : Value -> Mem -> Prop) : Prop :=
 let m1 : Mem := m.push (.cells (vals [.s im_0, .s im_1]) 35)
 let m1_1 : Mem := m1.push (.cells (vals [.i 0, .i 0, .i 0, .s Sl.nil, .s Sl.nil, .s Sl.nil]) 84)
 eqT m.size m.size (
 0 <= proc /\ proc < (im_1.len : Int) /\
 ∃ v13 : Int, gcell m1_1 im_1.blk (im_1.off + Int.toNat proc * 5 + 3) = some (vi v13) /\
 (0 <= v13 /\ v13 <= v13 /\ ((8 : Nat) : Int) * v13 <= 281474976710656 /\ v13 <= 9223372036854775807 /\
 let m1_2 : Mem := m1_1.push (.cells (vals (zrow [.i 0] (Int.toNat v13))) 3)
 (0 <= v13 /\ v13 <= v13 /\ ((8 : Nat) : Int) * v13 <= 281474976710656 /\ v13 <= 9223372036854775807 /\
 let m1_3 : Mem := m1_2.push (.cells (vals (zrow [.i 0] (Int.toNat v13))) 3)
 0 <= v13 /\ v13 <= v13 /\ ((8 : Nat) : Int) * v13 <= 281474976710656 /\ v13 <= 9223372036854775807 /\
 let m1_4 : Mem := m1_3.push (.cells (vals (zrow [.i 0] (Int.toNat v13))) 3)
 eqT m1.size m1.size (
 let m1_5 : Mem := scells m1_4 m1.size 0 [.i proc, .i 0, .i dst, .s (Sl.mk m1_1.size 0 (Int.toNat v13) (Int.toNat v13)), .s (Sl.mk m1_2.size 0 (Int.toNat v13) (Int.toNat v13)), .s (Sl.mk m1_3.size 0 (Int.toNat v13) (Int.toNat v13))]
 eqT m1.size m1.size (
 R (.agg #[vi proc, vi 0, vi dst, Sl.v (Sl.mk m1_1.size 0 (Int.toNat v13) (Int.toNat v13)), Sl.v (Sl.mk m1_2.size 0 (Int.toNat v13) (Int.toNat v13)), Sl.v (Sl.mk m1_3.size 0 (Int.toNat v13) (Int.toNat v13))]) m1_5))) /\
 (0 <= v13 /\ v13 <= v13 /\ ((8 : Nat) : Int) * v13 <= 281474976710656 /\ v13 <= 9223372036854775807 /\
 let m1_6 : Mem := m1_2.push (.cells (vals (zrow [.i 0] (Int.toNat v13))) 3)
 0 <= v13 /\ v13 <= v13 /\ ((8 : Nat) : Int) * v13 <= 281474976710656 /\ v13 <= 9223372036854775807 /\
 let m1_7 : Mem := m1_6.push (.cells (vals (zrow [.i 0] (Int.toNat v13))) 3)
 eqT m1.size m1.size (
 let m1_8 : Mem := scells m1_7 m1.size 0 [.i proc, .i 0, .i dst, .s (Sl.mk m1_1.size 0 (Int.toNat v13) (Int.toNat v13)), .s (Sl.mk m1_6.size 0 (Int.toNat v13) (Int.toNat v13)), .s (Sl.mk m1_2.size 0 (Int.toNat v13) (Int.toNat v13))]
 eqT m1.size m1.size (
 R (.agg #[vi proc, vi 0, vi dst, Sl.v (Sl.mk m1_1.size 0 (Int.toNat v13) (Int.toNat v13)), Sl.v (Sl.mk m1_6.size 0 (Int.toNat v13) (Int.toNat v13)), Sl.v (Sl.mk m1_2.size 0 (Int.toNat v13) (Int.toNat v13))]) m1_8)))) /\
 (0 <= v13 /\ v13 <= v13 /\ ((8 : Nat) : Int) * v13 <= 281474976710656 /\ v13 <= 9223372036854775807 /\
 let m1_9 : Mem := m1_1.push (.cells (vals (zrow [.i 0] (Int.toNat v13))) 3)
 (0 <= v13 /\ v13 <= v13 /\ ((8 : Nat) : Int) * v13 <= 281474976710656 /\ v13 <= 9223372036854775807 /\
 let m1_10 : Mem := m1_9.push (.cells (vals (zrow [.i 0] (Int.toNat v13))) 3)
 0 <= v13 /\ v13 <= v13 /\ ((8 : Nat) : Int) * v13 <= 281474976710656 /\ v13 <= 9223372036854775807 /\
 let m1_11 : Mem := m1_10.push (.cells (vals (zrow [.i 0] (Int.toNat v13))) 3)
 eqT m1.size m1.size (
 let m1_12 : Mem := scells m1_11 m1.size 0 [.i proc, .i 0, .i dst, .s (Sl.mk m1_9.size 0 (Int.toNat v13) (Int.toNat v13)), .s (Sl.mk m1_1.size 0 (Int.toNat v13) (Int.toNat v13)), .s (Sl.mk m1_10.size 0 (Int.toNat v13) (Int.toNat v13))]
 eqT m1.size m1.size (
 R (.agg #[vi proc, vi 0, vi dst, Sl.v (Sl.mk m1_9.size 0 (Int.toNat v13) (Int.toNat v13)), Sl.v (Sl.mk m1_1.size 0 (Int.toNat v13) (Int.toNat v13)), Sl.v (Sl.mk m1_10.size 0 (Int.toNat v13) (Int.toNat v13))]) m1_12))) /\
 (0 <= v13 /\ v13 <= v13 /\ ((8 : Nat) : Int) * v13 <= 281474976710656 /\ v13 <= 9223372036854775807 /\
 let m1_13 : Mem := m1_9.push (.cells (vals (zrow [.i 0] (Int.toNat v13))) 3)
 0 <= v13 /\ v13 <= v13 /\ ((8 : Nat) : Int) * v13 <= 281474976710656 /\ v13 <= 9223372036854775807 /\
 let m1_14 : Mem := m1_13.push (.cells (vals (zrow [.i 0] (Int.toNat v13))) 3)
 eqT m1.size m1.size (
 let m1_15 : Mem := scells m1_14 m1.size 0 [.i proc, .i 0, .i dst, .s (Sl.mk m1_13.size 0 (Int.toNat v13) (Int.toNat v13)), .s (Sl.mk m1_1.size 0 (Int.toNat v13) (Int.toNat v13)), .s (Sl.mk m1_9.size 0 (Int.toNat v13) (Int.toNat v13))]
 eqT m1.size m1.size (
 R (.agg #[vi proc, vi 0, vi dst, Sl.v (Sl.mk m1_13.size 0 (Int.toNat v13) (Int.toNat v13)), Sl.v (Sl.mk m1_1.size 0 (Int.toNat v13) (Int.toNat v13)), Sl.v (Sl.mk m1_9.size 0 (Int.toNat v13) (Int.toNat v13))]) m1_15)))) /\
 (0 <= v13 /\ v13 <= v13 /\ ((8 : Nat) : Int) * v13 <= 281474976710656 /\ v13 <= 9223372036854775807 /\
 let m1_16 : Mem := m1_1.push (.cells (vals (zrow [.i 0] (Int.toNat v13))) 3)
 (0 <= v13 /\ v13 <= v13 /\ ((8 : Nat) : Int) * v13 <= 281474976710656 /\ v13 <= 9223372036854775807 /\
 let m1_17 : Mem := m1_16.push (.cells (vals (zrow [.i 0] (Int.toNat v13))) 3)
 0 <= v13 /\ v13 <= v13 /\ ((8 : Nat) : Int) * v13 <= 281474976710656 /\ v13 <= 9223372036854775807 /\
 let m1_18 : Mem := m1_17.push (.cells (vals (zrow [.i 0] (Int.toNat v13))) 3)
 eqT m1.size m1.size (
 let m1_19 : Mem := scells m1_18 m1.size 0 [.i proc, .i 0, .i dst, .s (Sl.mk m1_16.size 0 (Int.toNat v13) (Int.toNat v13)), .s (Sl.mk m1_17.size 0 (Int.toNat v13) (Int.toNat v13)), .s (Sl.mk m1_1.size 0 (Int.toNat v13) (Int.toNat v13))]
 eqT m1.size m1.size (
 R (.agg #[vi proc, vi 0, vi dst, Sl.v (Sl.mk m1_16.size 0 (Int.toNat v13) (Int.toNat v13)), Sl.v (Sl.mk m1_17.size 0 (Int.toNat v13) (Int.toNat v13)), Sl.v (Sl.mk m1_1.size 0 (Int.toNat v13) (Int.toNat v13))]) m1_19))) /\
 (0 <= v13 /\ v13 <= v13 /\ ((8 : Nat) : Int) * v13 <= 281474976710656 /\ v13 <= 9223372036854775807 /\
 let m1_20 : Mem := m1_16.push (.cells (vals (zrow [.i 0] (Int.toNat v13))) 3)
 0 <= v13 /\ v13 <= v13 /\ ((8 : Nat) : Int) * v13 <= 281474976710656 /\ v13 <= 9223372036854775807 /\
 let m1_21 : Mem := m1_20.push (.cells (vals (zrow [.i 0] (Int.toNat v13))) 3)
 eqT m1.size m1.size (
 let m1_22 : Mem := scells m1_21 m1.size 0 [.i proc, .i 0, .i dst, .s (Sl.mk m1_20.size 0 (Int.toNat v13) (Int.toNat v13)), .s (Sl.mk m1_16.size 0 (Int.toNat v13) (Int.toNat v13)), .s (Sl.mk m1_1.size 0 (Int.toNat v13) (Int.toNat v13))]
 eqT m1.size m1.size (
 R (.agg #[vi proc, vi 0, vi dst, Sl.v (Sl.mk m1_20.size 0 (Int.toNat v13) (Int.toNat v13)), Sl.v (Sl.mk m1_16.size 0 (Int.toNat v13) (Int.toNat v13)), Sl.v (Sl.mk m1_1.size 0 (Int.toNat v13) (Int.toNat v13))]) m1_22)))))
theorem qig (im_0 im_1 : Sl) (proc dst : Int) (m : Mem) (R : Value -> Mem -> Prop) (hvc : qd4 im_0 im_1 proc dst m R) : q00 Tryz.prog q5m [.agg #[Sl.v im_0, Sl.v im_1], vi proc, vi dst] m R :=
 vcs (A := ⟨[(2, [0, 0, 0, 4, 0, 16, 0, 64, 171, 511], [0, 0, 0, 4, 0, 16, 0, 64, 255, 511])], [], [], []⟩) (n := 23) (rs := [.cell 6 84]) (args := [.agg [.s im_0, .s im_1], .c (.i proc), .c (.i dst)]) (c := q05 Tryz.f79) Tryz.func79 hvc
end
section
set_option linter.unusedVariables false
set_option maxRecDepth 100000
def q9g (m0 f : Nat × Nat) (x_0 x_1 x_2 x_3 : Int) (x_4 x_5 : Sl) (m : Mem) (R : Value -> Mem -> Prop) : Prop :=
 let m1 : Mem := m.push (.cells (vals [.p f.1 f.2]) 133)
 let m1_1 : Mem := m1.push (.cells (vals [.i x_0, .i x_1, .i x_2, .i x_3, .s x_4, .s x_5]) 86)
 eqT m.size m.size (
 ∃ v18 : Sl, gcell m1_1 f.1 (f.2 + 4) = some (Sl.v v18) /\
 q00 Tryz.prog q1x [Sl.v v18] m1_1 fun r m1_2 =>
 Sam [m1.size, m.size] m1_1 m1_2 /\
 ∃ r19 : Sl, r = Sl.v r19 /\
 eqT m1.size m1.size (
 q00 Tryz.prog q2w [vp m0.1 m0.2, .agg #[vi x_0, vi x_1, vi x_2, vi x_3, Sl.v x_4, Sl.v x_5]] m1_2 fun r_1 m1_3 =>
 Sam [m1.size, m.size] m1_2 m1_3 /\
 ∃ r23 : Sl, ∃ r23_1 : Sl, r_1 = .tuple #[Sl.v r23, Sl.v r23_1] /\
 ∃ (I0 : Int -> Mem -> Prop) (μ0 : Int -> Mem -> Nat),
 I0 0 m1_3 /\
 (∀ (v28 : Int) (m1_4 : Mem), I0 v28 m1_4 ->
 ((decide (v28 < (r23.len : Int))) = true ->
 0 <= v28 /\ v28 < (r23.len : Int) /\
 ∃ v31 : Int, gcell m1_4 r23.blk (r23.off + Int.toNat v28 * 1) = some (vi v31) /\
 eqT m.size m.size (
 ∃ v35 : Sl, gcell m1_4 f.1 (f.2 + 3) = some (Sl.v v35) /\
 0 <= v31 /\ v31 < (v35.len : Int) /\
 ∃ v38 : Int, gcell m1_4 v35.blk (v35.off + Int.toNat v31 * 1) = some (vi v38) /\
 ((decide (v38 ≥ 1000)) = true ->
 0 <= v31 /\ v31 < (r19.len : Int) /\
 ∃ v43 : Int, gcell m1_4 r19.blk (r19.off + Int.toNat v31 * 1) = some (vi v43) /\
 0 <= v31 /\ v31 < (r19.len : Int) /\
 wrOk m1_4 r19.blk (r19.off + Int.toNat v31 * 1) 1 /\
 let m1_5 : Mem := scells m1_4 r19.blk (r19.off + Int.toNat v31 * 1) [.i (w64 (v43 - 1))]
 Sam [m1.size, m.size] m1_4 m1_5 /\
 0 <= v31 /\ v31 < (r19.len : Int) /\
 ∃ v49 : Int, gcell m1_5 r19.blk (r19.off + Int.toNat v31 * 1) = some (vi v49) /\
 ((decide (v49 < 0)) = true ->
 R (vb false) m1_5) /\
 ((decide (v49 < 0)) = false ->
 eqS (SV.box m1.size 86 [.i x_0, .i x_1, .i x_2, .i x_3, .s x_4, .s x_5]) (SV.box m1.size 86 [.i x_0, .i x_1, .i x_2, .i x_3, .s x_4, .s x_5]) (
 eqS (SV.box m.size 133 [.p f.1 f.2]) (SV.box m.size 133 [.p f.1 f.2]) (
 I0 (w64 (v28 + 1)) m1_5 /\ μ0 (w64 (v28 + 1)) m1_5 < μ0 v28 m1_4)))) /\
 ((decide (v38 ≥ 1000)) = false ->
 eqS (SV.box m1.size 86 [.i x_0, .i x_1, .i x_2, .i x_3, .s x_4, .s x_5]) (SV.box m1.size 86 [.i x_0, .i x_1, .i x_2, .i x_3, .s x_4, .s x_5]) (
 eqS (SV.box m.size 133 [.p f.1 f.2]) (SV.box m.size 133 [.p f.1 f.2]) (
 I0 (w64 (v28 + 1)) m1_4 /\ μ0 (w64 (v28 + 1)) m1_4 < μ0 v28 m1_4))))) /\
 ((decide (v28 < (r23.len : Int))) = false ->
 ∃ K0 : Mem -> Prop,
 (eqT m1.size m1.size (
 q00 Tryz.prog q3z [vi x_0] m1_4 fun r_2 m1_6 =>
 Sam [m1.size, m.size] m1_4 m1_6 /\
 ∃ r54 : Bool, r_2 = vb r54 /\
 (r54 = true ->
 eqT m1.size m1.size (
 0 <= x_1 /\ x_1 < (r19.len : Int) /\
 ∃ v60 : Int, gcell m1_6 r19.blk (r19.off + Int.toNat x_1 * 1) = some (vi v60) /\
 ((decide (v60 > 0)) = true ->
 R (vb false) m1_6) /\
 ((decide (v60 > 0)) = false ->
 eqS (SV.box m1.size 86 [.i x_0, .i x_1, .i x_2, .i x_3, .s x_4, .s x_5]) (SV.box m1.size 86 [.i x_0, .i x_1, .i x_2, .i x_3, .s x_4, .s x_5]) (
 eqS (SV.box m.size 133 [.p f.1 f.2]) (SV.box m.size 133 [.p f.1 f.2]) (
 K0 m1_6))))) /\
 (r54 = false ->
 eqS (SV.box m1.size 86 [.i x_0, .i x_1, .i x_2, .i x_3, .s x_4, .s x_5]) (SV.box m1.size 86 [.i x_0, .i x_1, .i x_2, .i x_3, .s x_4, .s x_5]) (
 eqS (SV.box m.size 133 [.p f.1 f.2]) (SV.box m.size 133 [.p f.1 f.2]) (
 K0 m1_6))))) /\
 (∀ (m1_7 : Mem), K0 m1_7 ->
 ∃ (I0_1 : Int -> Mem -> Prop) (μ0_1 : Int -> Mem -> Nat),
 I0_1 0 m1_7 /\
 (∀ (v65 : Int) (m1_8 : Mem), I0_1 v65 m1_8 ->
 ((decide (v65 < (r23_1.len : Int))) = true ->
 0 <= v65 /\ v65 < (r23_1.len : Int) /\
 ∃ v68 : Int, gcell m1_8 r23_1.blk (r23_1.off + Int.toNat v65 * 1) = some (vi v68) /\
 eqT m.size m.size (
 ∃ v72 : Sl, gcell m1_8 f.1 (f.2 + 3) = some (Sl.v v72) /\
 0 <= v68 /\ v68 < (v72.len : Int) /\
 ∃ v75 : Int, gcell m1_8 v72.blk (v72.off + Int.toNat v68 * 1) = some (vi v75) /\
 ((decide (v75 ≥ 1000)) = true ->
 q00 Tryz.prog q4p [vp m0.1 m0.2, vi v75] m1_8 fun r_3 m1_9 =>
 Sam [m1.size, m.size] m1_8 m1_9 /\
 ∃ r81 : Bool, r_3 = vb r81 /\
 ((!r81) = true ->
 R (vb false) m1_9) /\
 ((!r81) = false ->
 eqS (SV.box m1.size 86 [.i x_0, .i x_1, .i x_2, .i x_3, .s x_4, .s x_5]) (SV.box m1.size 86 [.i x_0, .i x_1, .i x_2, .i x_3, .s x_4, .s x_5]) (
 eqS (SV.box m.size 133 [.p f.1 f.2]) (SV.box m.size 133 [.p f.1 f.2]) (
 I0_1 (w64 (v65 + 1)) m1_9 /\ μ0_1 (w64 (v65 + 1)) m1_9 < μ0_1 v65 m1_8)))) /\
 ((decide (v75 ≥ 1000)) = false ->
 eqS (SV.box m1.size 86 [.i x_0, .i x_1, .i x_2, .i x_3, .s x_4, .s x_5]) (SV.box m1.size 86 [.i x_0, .i x_1, .i x_2, .i x_3, .s x_4, .s x_5]) (
 eqS (SV.box m.size 133 [.p f.1 f.2]) (SV.box m.size 133 [.p f.1 f.2]) (
 I0_1 (w64 (v65 + 1)) m1_8 /\ μ0_1 (w64 (v65 + 1)) m1_8 < μ0_1 v65 m1_8))))) /\
 ((decide (v65 < (r23_1.len : Int))) = false ->
 eqT m1.size m1.size (
 (((x_0 == 1) || ((x_0 == 2) || ((x_0 == 3) || ((x_0 == 4) || ((x_0 == 5) || (x_0 == 20)))))) = true ->
 eqT m1.size m1.size (
 q00 Tryz.prog q18 [Sl.v x_4, .func (.func q3o) #[] #[vp m.size 0]] m1_8 fun r_4 m1_10 =>
 Sam [m1.size] m1_8 m1_10 /\
 ∃ r97 : Bool, r_4 = vb r97 /\
 R (vb (!r97)) m1_10)) /\
 (((x_0 == 1) || ((x_0 == 2) || ((x_0 == 3) || ((x_0 == 4) || ((x_0 == 5) || (x_0 == 20)))))) = false ->
 ((x_0 == 6) = true ->
 eqT m1.size m1.size (
 ((x_3 != 0) = true ->
 eqT m.size m.size (
 ∃ v108 : Sl, gcell m1_8 f.1 (f.2 + 5) = some (Sl.v v108) /\
 eqT m1.size m1.size (
 0 <= (w64 (x_3 - 1)) /\ (w64 (x_3 - 1)) < (v108.len : Int) /\
 ∃ v113 : Int, gcell m1_8 v108.blk (v108.off + Int.toNat (w64 (x_3 - 1)) * 1) = some (vi v113) /\
 ((v113 != 0) = true ->
 ∃ v120 : Sl, gcell m1_8 m0.1 (m0.2 + 3 + 5) = some (Sl.v v120) /\
 eqT m.size m.size (
 ∃ v124 : Sl, gcell m1_8 f.1 (f.2 + 5) = some (Sl.v v124) /\
 eqT m1.size m1.size (
 0 <= (w64 (x_3 - 1)) /\ (w64 (x_3 - 1)) < (v124.len : Int) /\
 ∃ v129 : Int, gcell m1_8 v124.blk (v124.off + Int.toNat (w64 (x_3 - 1)) * 1) = some (vi v129) /\
 0 <= (w64 (v129 - 1000)) /\ (w64 (v129 - 1000)) < (v120.len : Int) /\
 ∃ v133 : Sl, gcell m1_8 v120.blk (v120.off + Int.toNat (w64 (v129 - 1000)) * 3 + 2) = some (Sl.v v133) /\
 eqT m1.size m1.size (
 R (vb ((v133.len : Int) == (x_4.len : Int))) m1_8)))) /\
 ((v113 != 0) = false ->
 R (vb true) m1_8)))) /\
 ((x_3 != 0) = false ->
 R (vb true) m1_8))) /\
 ((x_0 == 6) = false ->
 (((x_0 == 24) || (x_0 == 23)) = true ->
 q00 Tryz.prog q6j [Sl.v r19] m1_8 fun r_5 m1_11 =>
 Sam [m1.size, m.size] m1_8 m1_11 /\
 ∃ r143 : Bool, r_5 = vb r143 /\
 ((!r143) = true ->
 R (vb false) m1_11) /\
 ((!r143) = false ->
 eqT m.size m.size (
 ∃ v149 : Sl, gcell m1_11 f.1 (f.2 + 5) = some (Sl.v v149) /\
 q00 Tryz.prog q6j [Sl.v v149] m1_11 fun r_6 m1_12 =>
 Sam [m1.size, m.size] m1_11 m1_12 /\
 ∃ r150 : Bool, r_6 = vb r150 /\
 ((!r150) = true ->
 R (vb false) m1_12) /\
 ((!r150) = false ->
 eqT m1.size m1.size (
 ((x_0 == 24) = true ->
 R (vb true) m1_12) /\
 ((x_0 == 24) = false ->
 ∃ v161 : Sl, gcell m1_12 m0.1 (m0.2 + 3 + 6) = some (Sl.v v161) /\
 ((decide ((v161.len : Int) > 1)) = true ->
 R (vb true) m1_12) /\
 ((decide ((v161.len : Int) > 1)) = false ->
 eqT m.size m.size (
 ∃ v169 : Sl, gcell m1_12 f.1 (f.2 + 3) = some (Sl.v v169) /\
 eqT m1.size m1.size (
 (0 : Int) <= (0 : Int) /\ 0 < (x_4.len : Int) /\
 ∃ v173 : Int, gcell m1_12 x_4.blk (x_4.off + Int.toNat 0 * 1) = some (vi v173) /\
 0 <= v173 /\ v173 < (v169.len : Int) /\
 ∃ v175 : Int, gcell m1_12 v169.blk (v169.off + Int.toNat v173 * 1) = some (vi v175) /\
 R (vb (decide (v175 < 1000))) m1_12))))))))) /\
 (((x_0 == 24) || (x_0 == 23)) = false ->
 ((x_0 == 11) = true ->
 eqT m.size m.size (
 eqT m1.size m1.size (
 q00 Tryz.prog q45 [vp m0.1 m0.2, vp f.1 f.2, .agg #[vi x_0, vi x_1, vi x_2, vi x_3, Sl.v x_4, Sl.v x_5]] m1_8 fun r_7 m1_13 =>
 Sam [m1.size, m.size] m1_8 m1_13 /\
 ∃ r183 : Bool, r_7 = vb r183 /\
 R (vb r183) m1_13))) /\
 ((x_0 == 11) = false ->
 ((x_0 == 15) = true ->
 eqT m.size m.size (
 ∃ v189 : Sl, gcell m1_8 f.1 (f.2 + 3) = some (Sl.v v189) /\
 eqT m1.size m1.size (
 (0 : Int) <= (0 : Int) /\ 0 < (x_4.len : Int) /\
 ∃ v193 : Int, gcell m1_8 x_4.blk (x_4.off + Int.toNat 0 * 1) = some (vi v193) /\
 0 <= v193 /\ v193 < (v189.len : Int) /\
 ∃ v195 : Int, gcell m1_8 v189.blk (v189.off + Int.toNat v193 * 1) = some (vi v195) /\
 R (vb (decide (v195 ≥ 1000))) m1_8))) /\
 ((x_0 == 15) = false ->
 (((x_0 == 14) || ((x_0 == 19) || ((x_0 == 21) || ((x_0 == 16) || (x_0 == 17))))) = true ->
 eqT m.size m.size (
 eqT m1.size m1.size (
 q00 Tryz.prog q3n [vp m0.1 m0.2, vp f.1 f.2, .agg #[vi x_0, vi x_1, vi x_2, vi x_3, Sl.v x_4, Sl.v x_5]] m1_8 fun r_8 m1_14 =>
 Sam [m1.size, m.size] m1_8 m1_14 /\
 ∃ r206 : Bool, r_8 = vb r206 /\
 R (vb r206) m1_14))) /\
 (((x_0 == 14) || ((x_0 == 19) || ((x_0 == 21) || ((x_0 == 16) || (x_0 == 17))))) = false ->
 R (vb true) m1_8))))))))))))))
theorem qfb (m0 f : Nat × Nat) (x_0 x_1 x_2 x_3 : Int) (x_4 x_5 : Sl) (m : Mem) (R : Value -> Mem -> Prop) (hvc : q9g m0 f x_0 x_1 x_2 x_3 x_4 x_5 m R) : q00 Tryz.prog q36 [vp m0.1 m0.2, vp f.1 f.2, .agg #[vi x_0, vi x_1, vi x_2, vi x_3, Sl.v x_4, Sl.v x_5]] m R :=
 vcs (A := ⟨[(29, [0, 1, 2, 4, 8, 24, 40, 72, 8, 264, 520, 1160, 2056, 4104, 8200], [0, 1, 3, 7, 15, 31, 63, 127, 15, 271, 783, 2047, 4095, 8191, 16383]), (30, [0, 1, 2, 4, 8, 0, 32, 64, 128, 0, 512, 1024, 2304, 4096, 8192, 16400, 32768, 65536, 131072, 0, 524288, 1048576, 2359296, 8388607], [0, 1, 3, 7, 15, 0, 32, 96, 224, 0, 512, 1536, 4064, 8160, 16352, 32767, 65535, 131071, 262143, 0, 524288, 1572864, 4194303, 8388607]), (35, [0, 1, 2, 4, 8, 24, 40, 72, 136, 264, 520, 1032, 2056, 4096, 12288, 20480, 36864, 4096, 135168, 266240, 528384, 1118208, 2101248, 4198400, 8392704, 33554431], [0, 1, 3, 7, 15, 31, 63, 127, 255, 511, 1023, 2047, 4095, 8191, 16383, 32767, 65535, 8191, 139263, 401407, 925695, 2097151, 4194303, 8388607, 16777215, 33554431]), (39, [0, 1, 2, 4, 0, 16, 32, 64, 136, 256, 512, 2047], [0, 1, 3, 7, 0, 16, 48, 112, 255, 511, 1023, 2047])], [(4, [(28, .I)]), (14, [(65, .I)])], [(13, [])], [(4, [212, 211]), (13, [212, 211]), (14, [212, 211])]⟩) (n := 207) (rs := [.tmp 6]) (args := [.c (.p m0.1 m0.2), .c (.p f.1 f.2), .agg [.i x_0, .i x_1, .i x_2, .i x_3, .s x_4, .s x_5]]) (c := q05 Tryz.f80) Tryz.func80 hvc
def qar (m0 f : Nat × Nat) (x_0 x_1 x_2 x_3 : Int) (x_4 x_5 : Sl) (m : Mem) (R : Value -> Mem -> Prop) : Prop :=
 let m1 : Mem := m.push (.cells (vals [.i x_0, .i x_1, .i x_2, .i x_3, .s x_4, .s x_5]) 86)
 eqT m.size m.size (
 q00 Tryz.prog q2w [vp m0.1 m0.2, .agg #[vi x_0, vi x_1, vi x_2, vi x_3, Sl.v x_4, Sl.v x_5]] m1 fun r m1_1 =>
 Sam [m.size] m1 m1_1 /\
 ∃ r19 : Sl, ∃ r19_1 : Sl, r = .tuple #[Sl.v r19, Sl.v r19_1] /\
 ∃ (I0 : Int -> Mem -> Prop) (μ0 : Int -> Mem -> Nat),
 I0 0 m1_1 /\
 (∀ (v24 : Int) (m1_2 : Mem), I0 v24 m1_2 ->
 ((decide (v24 < (r19.len : Int))) = true ->
 0 <= v24 /\ v24 < (r19.len : Int) /\
 ∃ v27 : Int, gcell m1_2 r19.blk (r19.off + Int.toNat v24 * 1) = some (vi v27) /\
 ∃ v31 : Sl, gcell m1_2 f.1 (f.2 + 3) = some (Sl.v v31) /\
 0 <= v27 /\ v27 < (v31.len : Int) /\
 ∃ v34 : Int, gcell m1_2 v31.blk (v31.off + Int.toNat v27 * 1) = some (vi v34) /\
 ((decide (v34 ≥ 1000)) = true ->
 ∃ v39 : Sl, gcell m1_2 f.1 (f.2 + 4) = some (Sl.v v39) /\
 0 <= v27 /\ v27 < (v39.len : Int) /\
 ∃ v42 : Int, gcell m1_2 v39.blk (v39.off + Int.toNat v27 * 1) = some (vi v42) /\
 0 <= v27 /\ v27 < (v39.len : Int) /\
 wrOk m1_2 v39.blk (v39.off + Int.toNat v27 * 1) 1 /\
 let m1_3 : Mem := scells m1_2 v39.blk (v39.off + Int.toNat v27 * 1) [.i (w64 (v42 - 1))]
 Sam [m.size] m1_2 m1_3 /\
 eqS (SV.box m.size 86 [.i x_0, .i x_1, .i x_2, .i x_3, .s x_4, .s x_5]) (SV.box m.size 86 [.i x_0, .i x_1, .i x_2, .i x_3, .s x_4, .s x_5]) (
 I0 (w64 (v24 + 1)) m1_3 /\ μ0 (w64 (v24 + 1)) m1_3 < μ0 v24 m1_2)) /\
 ((decide (v34 ≥ 1000)) = false ->
 eqS (SV.box m.size 86 [.i x_0, .i x_1, .i x_2, .i x_3, .s x_4, .s x_5]) (SV.box m.size 86 [.i x_0, .i x_1, .i x_2, .i x_3, .s x_4, .s x_5]) (
 I0 (w64 (v24 + 1)) m1_2 /\ μ0 (w64 (v24 + 1)) m1_2 < μ0 v24 m1_2))) /\
 ((decide (v24 < (r19.len : Int))) = false ->
 ∃ v49 : Int, gcell m1_2 f.1 (f.2 + 1) = some (vi v49) /\
 wrOk m1_2 f.1 (f.2 + 1) 1 /\
 let m1_4 : Mem := scells m1_2 f.1 (f.2 + 1) [.i (w64 (v49 + 1))]
 Sam [m.size] m1_2 m1_4 /\
 eqT m.size m.size (
 (((x_0 == 0) || ((x_0 == 1) || ((x_0 == 2) || ((x_0 == 3) || ((x_0 == 4) || (x_0 == 5)))))) = true ->
 eqT m.size m.size (
 q00 Tryz.prog q4g [vp m0.1 m0.2, vp f.1 f.2, .agg #[vi x_0, vi x_1, vi x_2, vi x_3, Sl.v x_4, Sl.v x_5]] m1_4 fun r_1 m1_5 =>
 Sam [m.size] m1_4 m1_5 /\
 R (.tuple #[]) m1_5)) /\
 (((x_0 == 0) || ((x_0 == 1) || ((x_0 == 2) || ((x_0 == 3) || ((x_0 == 4) || (x_0 == 5)))))) = false ->
 ((x_0 == 6) = true ->
 eqT m.size m.size (
 eqT m.size m.size (
 q00 Tryz.prog q3w [vp m0.1 m0.2, vp f.1 f.2, .agg #[vi x_0, vi x_1, vi x_2, vi x_3, Sl.v x_4, Sl.v x_5]] m1_4 fun r_2 m1_6 =>
 Sam [m.size] m1_4 m1_6 /\
 ∃ r74 : Int, r_2 = vi r74 /\
 gcell m1_6 m.size 1 = gcell m1_4 m.size 1 /\
 q00 Tryz.prog q1f [vp f.1 f.2, vi x_1, vi r74, vi 1] m1_6 fun r_3 m1_7 =>
 Sam [m.size] m1_6 m1_7 /\
 R (.tuple #[]) m1_7))) /\
 ((x_0 == 6) = false ->
 ((x_0 == 10) = true ->
 eqT m.size m.size (
 ∃ v85 : Int, gcell m1_4 m0.1 (m0.2 + 2) = some (vi v85) /\
 eqT m.size m.size (
 eqT m.size m.size (
 q00 Tryz.prog q26 [vp f.1 f.2, Sl.v x_4] m1_4 fun r_4 m1_8 =>
 Sam [m.size] m1_4 m1_8 /\
 ∃ r92 : Sl, r_4 = Sl.v r92 /\
 gcell m1_8 m.size 2 = gcell m1_4 m.size 2 /\
 gcell m1_8 m0.1 (m0.2 + 2) = gcell m1_4 m0.1 (m0.2 + 2) /\
 gcell m1_8 m.size 1 = gcell m1_4 m.size 1 /\
 q00 Tryz.prog q28 [vp m0.1 m0.2, vi (w64 (v85 + x_2)), Sl.v r92] m1_8 fun r_5 m1_9 =>
 Sam [m.size] m1_8 m1_9 /\
 ∃ r93 : Int, r_5 = vi r93 /\
 gcell m1_9 m.size 1 = gcell m1_8 m.size 1 /\
 q00 Tryz.prog q1f [vp f.1 f.2, vi x_1, vi r93, vi 1] m1_9 fun r_6 m1_10 =>
 Sam [m.size] m1_9 m1_10 /\
 R (.tuple #[]) m1_10)))) /\
 ((x_0 == 10) = false ->
 ((x_0 == 14) = true ->
 ∃ v101 : Sl, gcell m1_4 m0.1 (m0.2 + 3 + 5) = some (Sl.v v101) /\
 ∃ v105 : Sl, gcell m1_4 f.1 (f.2 + 3) = some (Sl.v v105) /\
 eqT m.size m.size (
 (0 : Int) <= (0 : Int) /\ 0 < (x_4.len : Int) /\
 ∃ v109 : Int, gcell m1_4 x_4.blk (x_4.off + Int.toNat 0 * 1) = some (vi v109) /\
 0 <= v109 /\ v109 < (v105.len : Int) /\
 ∃ v111 : Int, gcell m1_4 v105.blk (v105.off + Int.toNat v109 * 1) = some (vi v111) /\
 0 <= (w64 (v111 - 1000)) /\ (w64 (v111 - 1000)) < (v101.len : Int) /\
 ∃ v115 : Int, gcell m1_4 v101.blk (v101.off + Int.toNat (w64 (v111 - 1000)) * 3) = some (vi v115) /\
 0 <= (w64 (v111 - 1000)) /\ (w64 (v111 - 1000)) < (v101.len : Int) /\
 wrOk m1_4 v101.blk (v101.off + Int.toNat (w64 (v111 - 1000)) * 3) 1 /\
 let m1_11 : Mem := scells m1_4 v101.blk (v101.off + Int.toNat (w64 (v111 - 1000)) * 3) [.i (w64 (v115 + 1))]
 Sam [m.size] m1_4 m1_11 /\
 ∃ v122 : Sl, gcell m1_11 f.1 (f.2 + 4) = some (Sl.v v122) /\
 eqT m.size m.size (
 (0 : Int) <= (0 : Int) /\ 0 < (x_4.len : Int) /\
 ∃ v126 : Int, gcell m1_11 x_4.blk (x_4.off + Int.toNat 0 * 1) = some (vi v126) /\
 0 <= v126 /\ v126 < (v122.len : Int) /\
 ∃ v128 : Int, gcell m1_11 v122.blk (v122.off + Int.toNat v126 * 1) = some (vi v128) /\
 0 <= v126 /\ v126 < (v122.len : Int) /\
 wrOk m1_11 v122.blk (v122.off + Int.toNat v126 * 1) 1 /\
 let m1_12 : Mem := scells m1_11 v122.blk (v122.off + Int.toNat v126 * 1) [.i (w64 (v128 + 1))]
 Sam [m.size] m1_11 m1_12 /\
 R (.tuple #[]) m1_12))) /\
 ((x_0 == 14) = false ->
 ((x_0 == 15) = true ->
 ∃ v137 : Sl, gcell m1_4 m0.1 (m0.2 + 3 + 5) = some (Sl.v v137) /\
 let m1_13 : Mem := m1_4.push (.cells (vals [.s Sl.nil]) 193)
 eqT m1_4.size m1_4.size (
 let m1_14 : Mem := scells m1_13 m1_4.size 0 [.s v137]
 ∃ v141 : Sl, gcell m1_14 f.1 (f.2 + 3) = some (Sl.v v141) /\
 eqT m.size m.size (
 (0 : Int) <= (0 : Int) /\ 0 < (x_4.len : Int) /\
 ∃ v145 : Int, gcell m1_14 x_4.blk (x_4.off + Int.toNat 0 * 1) = some (vi v145) /\
 0 <= v145 /\ v145 < (v141.len : Int) /\
 ∃ v147 : Int, gcell m1_14 v141.blk (v141.off + Int.toNat v145 * 1) = some (vi v147) /\
 q00 Tryz.prog q7s [vp m1_4.size 0, vi v147] m1_14 fun r_7 m1_15 =>
 Sam [m.size] m1_14 m1_15 /\
 ∃ v150 : Sl, gcell m1_15 m1_4.size 0 = some (Sl.v v150) /\
 wrOk m1_15 m0.1 (m0.2 + 3 + 5) 1 /\
 let m1_16 : Mem := scells m1_15 m0.1 (m0.2 + 3 + 5) [.s v150]
 Sam [m.size] m1_15 m1_16 /\
 R (.tuple #[]) m1_16))) /\
 ((x_0 == 15) = false ->
 (((x_0 == 16) || (x_0 == 17)) = true ->
 eqT m.size m.size (
 q00 Tryz.prog q5g [vp m0.1 m0.2, vp f.1 f.2, .agg #[vi x_0, vi x_1, vi x_2, vi x_3, Sl.v x_4, Sl.v x_5]] m1_4 fun r_8 m1_17 =>
 Sam [m.size] m1_4 m1_17 /\
 R (.tuple #[]) m1_17)) /\
 (((x_0 == 16) || (x_0 == 17)) = false ->
 ((x_0 == 18) = true ->
 ∃ v166 : Sl, gcell m1_4 f.1 (f.2 + 3) = some (Sl.v v166) /\
 eqT m.size m.size (
 (0 : Int) <= (0 : Int) /\ 0 < (x_4.len : Int) /\
 ∃ v170 : Int, gcell m1_4 x_4.blk (x_4.off + Int.toNat 0 * 1) = some (vi v170) /\
 0 <= v170 /\ v170 < (v166.len : Int) /\
 ∃ v172 : Int, gcell m1_4 v166.blk (v166.off + Int.toNat v170 * 1) = some (vi v172) /\
 eqT m.size m.size (
 q00 Tryz.prog q2x [vi v172] m1_4 fun r_9 m1_18 =>
 Sam [m.size] m1_4 m1_18 /\
 ∃ r178 : Int, r_9 = vi r178 /\
 gcell m1_18 m.size 1 = gcell m1_4 m.size 1 /\
 q00 Tryz.prog q1f [vp f.1 f.2, vi x_1, vi v172, vi r178] m1_18 fun r_10 m1_19 =>
 Sam [m.size] m1_18 m1_19 /\
 R (.tuple #[]) m1_19))) /\
 ((x_0 == 18) = false ->
 ((x_0 == 19) = true ->
 eqT m.size m.size (
 ∃ v189 : Sl, gcell m1_4 m0.1 (m0.2 + 3 + 5) = some (Sl.v v189) /\
 ∃ v193 : Sl, gcell m1_4 f.1 (f.2 + 3) = some (Sl.v v193) /\
 eqT m.size m.size (
 (0 : Int) <= (0 : Int) /\ 0 < (x_4.len : Int) /\
 ∃ v197 : Int, gcell m1_4 x_4.blk (x_4.off + Int.toNat 0 * 1) = some (vi v197) /\
 0 <= v197 /\ v197 < (v193.len : Int) /\
 ∃ v199 : Int, gcell m1_4 v193.blk (v193.off + Int.toNat v197 * 1) = some (vi v199) /\
 0 <= (w64 (v199 - 1000)) /\ (w64 (v199 - 1000)) < (v189.len : Int) /\
 ∃ v203 : Sl, gcell m1_4 v189.blk (v189.off + Int.toNat (w64 (v199 - 1000)) * 3 + 2) = some (Sl.v v203) /\
 eqT m.size m.size (
 0 <= x_2 /\ x_2 < (v203.len : Int) /\
 ∃ v207 : Int, gcell m1_4 v203.blk (v203.off + Int.toNat x_2 * 1) = some (vi v207) /\
 q00 Tryz.prog q1f [vp f.1 f.2, vi x_1, vi v207, vi 0] m1_4 fun r_11 m1_20 =>
 Sam [m.size] m1_4 m1_20 /\
 R (.tuple #[]) m1_20)))) /\
 ((x_0 == 19) = false ->
 ((x_0 == 20) = true ->
 ∃ v214 : Sl, gcell m1_4 f.1 (f.2 + 3) = some (Sl.v v214) /\
 eqT m.size m.size (
 (0 : Int) <= (0 : Int) /\ 0 < (x_4.len : Int) /\
 ∃ v218 : Int, gcell m1_4 x_4.blk (x_4.off + Int.toNat 0 * 1) = some (vi v218) /\
 0 <= v218 /\ v218 < (v214.len : Int) /\
 ∃ v220 : Int, gcell m1_4 v214.blk (v214.off + Int.toNat v218 * 1) = some (vi v220) /\
 ((v220 == 0) = true ->
 eqT m.size m.size (
 wrOk m1_4 f.1 (f.2 + 1) 1 /\
 let m1_21 : Mem := scells m1_4 f.1 (f.2 + 1) [.i x_2]
 Sam [m.size] m1_4 m1_21 /\
 R (.tuple #[]) m1_21)) /\
 ((v220 == 0) = false ->
 R (.tuple #[]) m1_4))) /\
 ((x_0 == 20) = false ->
 ((x_0 == 22) = true ->
 eqT m.size m.size (
 wrOk m1_4 f.1 (f.2 + 1) 1 /\
 let m1_22 : Mem := scells m1_4 f.1 (f.2 + 1) [.i x_2]
 Sam [m.size] m1_4 m1_22 /\
 R (.tuple #[]) m1_22)) /\
 ((x_0 == 22) = false ->
 ((x_0 == 21) = true ->
 ∃ v240 : Sl, gcell m1_4 m0.1 (m0.2 + 3 + 5) = some (Sl.v v240) /\
 ∃ v244 : Sl, gcell m1_4 f.1 (f.2 + 3) = some (Sl.v v244) /\
 eqT m.size m.size (
 (0 : Int) <= (0 : Int) /\ 0 < (x_4.len : Int) /\
 ∃ v248 : Int, gcell m1_4 x_4.blk (x_4.off + Int.toNat 0 * 1) = some (vi v248) /\
 0 <= v248 /\ v248 < (v244.len : Int) /\
 ∃ v250 : Int, gcell m1_4 v244.blk (v244.off + Int.toNat v248 * 1) = some (vi v250) /\
 0 <= (w64 (v250 - 1000)) /\ (w64 (v250 - 1000)) < (v240.len : Int) /\
 ∃ v254 : Int, gcell m1_4 v240.blk (v240.off + Int.toNat (w64 (v250 - 1000)) * 3 + 1) = some (vi v254) /\
 eqT m.size m.size (
 ∃ v262 : Sl, gcell m1_4 m0.1 m0.2 = some (Sl.v v262) /\
 eqT m.size m.size (
 q00 Tryz.prog q59 [Sl.v v262, vi x_2] m1_4 fun r_12 m1_23 =>
 Sam [m.size] m1_4 m1_23 /\
 ∃ r265 : Sl, r_12 = Sl.v r265 /\
 gcell m1_23 m.size 5 = gcell m1_4 m.size 5 /\
 q00 Tryz.prog q34 [Sl.v r265, vi v254] m1_23 fun r_13 m1_24 =>
 Sam [m.size] m1_23 m1_24 /\
 ∃ r267 : Int, r_13 = vi r267 /\
 gcell m1_24 m.size 5 = gcell m1_23 m.size 5 /\
 0 <= r267 /\ r267 < (x_5.len : Int) /\
 ∃ v269 : Int, gcell m1_24 x_5.blk (x_5.off + Int.toNat r267 * 1) = some (vi v269) /\
 wrOk m1_24 f.1 (f.2 + 1) 1 /\
 let m1_25 : Mem := scells m1_24 f.1 (f.2 + 1) [.i v269]
 Sam [m.size] m1_24 m1_25 /\
 R (.tuple #[]) m1_25)))) /\
 ((x_0 == 21) = false ->
 (((x_0 == 9) || (x_0 == 24)) = true ->
 eqT m.size m.size (
 eqT m.size m.size (
 eqT m.size m.size (
 q00 Tryz.prog q26 [vp f.1 f.2, Sl.v x_4] m1_4 fun r_14 m1_26 =>
 Sam [m.size] m1_4 m1_26 /\
 ∃ r281 : Sl, r_14 = Sl.v r281 /\
 gcell m1_26 m.size 0 = gcell m1_4 m.size 0 /\
 gcell m1_26 m.size 1 = gcell m1_4 m.size 1 /\
 gcell m1_26 m.size 2 = gcell m1_4 m.size 2 /\
 gcell m1_26 m.size 3 = gcell m1_4 m.size 3 /\
 gcell m1_26 m.size 4 = gcell m1_4 m.size 4 /\
 gcell m1_26 m.size 5 = gcell m1_4 m.size 5 /\
 gcell m1_26 m.size 2 = gcell m1_4 m.size 2 /\
 q00 Tryz.prog q2b [vp m0.1 m0.2, vi x_2, Sl.v r281, .agg #[vi x_0, vi x_1, vi x_2, vi x_3, Sl.v x_4, Sl.v x_5]] m1_26 fun r_15 m1_27 =>
 Sam [m.size] m1_26 m1_27 /\
 R (.tuple #[]) m1_27)))) /\
 (((x_0 == 9) || (x_0 == 24)) = false ->
 ((x_0 == 11) = true ->
 ∃ v289 : Sl, gcell m1_4 f.1 (f.2 + 3) = some (Sl.v v289) /\
 eqT m.size m.size (
 (0 : Int) <= (0 : Int) /\ 0 < (x_4.len : Int) /\
 ∃ v293 : Int, gcell m1_4 x_4.blk (x_4.off + Int.toNat 0 * 1) = some (vi v293) /\
 0 <= v293 /\ v293 < (v289.len : Int) /\
 ∃ v295 : Int, gcell m1_4 v289.blk (v289.off + Int.toNat v293 * 1) = some (vi v295) /\
 ∃ v300 : Sl, gcell m1_4 m0.1 (m0.2 + 3 + 5) = some (Sl.v v300) /\
 0 <= (w64 (v295 - 1000)) /\ (w64 (v295 - 1000)) < (v300.len : Int) /\
 ∃ v304_0 : Int, gcell m1_4 v300.blk (v300.off + Int.toNat (w64 (v295 - 1000)) * 3) = some (vi v304_0) /\
 ∃ v304_1 : Int, gcell m1_4 v300.blk (v300.off + Int.toNat (w64 (v295 - 1000)) * 3 + 1) = some (vi v304_1) /\
 ∃ v304_2 : Sl, gcell m1_4 v300.blk (v300.off + Int.toNat (w64 (v295 - 1000)) * 3 + 2) = some (Sl.v v304_2) /\
 let m1_28 : Mem := m1_4.push (.cells (vals [.i 0, .i 0, .s Sl.nil]) 149)
 eqT m1_4.size m1_4.size (
 let m1_29 : Mem := scells m1_28 m1_4.size 0 [.i v304_0, .i v304_1, .s v304_2]
 eqT m1_4.size m1_4.size (
 ∃ v311 : Sl, gcell m1_29 f.1 (f.2 + 3) = some (Sl.v v311) /\
 eqT m.size m.size (
 (0 : Int) <= (1 : Int) /\ 1 < (x_4.len : Int) /\
 ∃ v315 : Int, gcell m1_29 x_4.blk (x_4.off + Int.toNat 1 * 1) = some (vi v315) /\
 0 <= v315 /\ v315 < (v311.len : Int) /\
 ∃ v317 : Int, gcell m1_29 v311.blk (v311.off + Int.toNat v315 * 1) = some (vi v317) /\
 (q00 Tryz.prog q1x [Sl.v v304_2] m1_29 fun r_16 m1_30 =>
 Sam [m1_4.size, m.size] m1_29 m1_30 /\
 ∃ r307 : Sl, r_16 = Sl.v r307 /\
 gcell m1_30 v311.blk (v311.off + Int.toNat v315 * 1) = gcell m1_29 v311.blk (v311.off + Int.toNat v315 * 1) /\
 gcell m1_30 x_4.blk (x_4.off + Int.toNat 1 * 1) = gcell m1_29 x_4.blk (x_4.off + Int.toNat 1 * 1) /\
 gcell m1_30 m.size 4 = gcell m1_29 m.size 4 /\
 gcell m1_30 f.1 (f.2 + 3) = gcell m1_29 f.1 (f.2 + 3) /\
 let m1_31 : Mem := m1_30.push (.cells (vals [.i v317]) 3)
 gcell m1_31 m1_4.size 2 = gcell m1_30 m1_4.size 2 /\
 appC m1_31 3 [.i 0] 8 r307 (Sl.mk m1_30.size 0 1 1) fun r319 m1_32 =>
 Sam [m1_4.size, m.size] m1_31 m1_32 /\
 q00 Tryz.prog q27 [vp m0.1 m0.2, vi v295, vb false] m1_32 fun r_17 m1_33 =>
 Sam [m1_4.size, m.size] m1_32 m1_33 /\
 ∃ r322 : Bool, r_17 = vb r322 /\
 eqT m1_4.size m1_4.size (
 ∃ v329 : Int, gcell m1_33 m0.1 (m0.2 + 2) = some (vi v329) /\
 eqT m.size m.size (
 q00 Tryz.prog q2b [vp m0.1 m0.2, vi (w64 (v304_1 - v329)), Sl.v r319, .agg #[vi x_0, vi x_1, vi x_2, vi x_3, Sl.v x_4, Sl.v x_5]] m1_33 fun r_18 m1_34 =>
 Sam [m1_4.size, m.size] m1_33 m1_34 /\
 R (.tuple #[]) m1_34))) /\
 (let m1_35 : Mem := m1_29.push (.cells (vals [.i v317]) 3)
 gcell m1_35 m1_4.size 2 = gcell m1_29 m1_4.size 2 /\
 q00 Tryz.prog q1x [Sl.v v304_2] m1_35 fun r_19 m1_36 =>
 Sam [m1_4.size, m.size] m1_35 m1_36 /\
 ∃ r307_1 : Sl, r_19 = Sl.v r307_1 /\
 gcell m1_36 v311.blk (v311.off + Int.toNat v315 * 1) = gcell m1_35 v311.blk (v311.off + Int.toNat v315 * 1) /\
 gcell m1_36 x_4.blk (x_4.off + Int.toNat 1 * 1) = gcell m1_35 x_4.blk (x_4.off + Int.toNat 1 * 1) /\
 gcell m1_36 m.size 4 = gcell m1_35 m.size 4 /\
 gcell m1_36 f.1 (f.2 + 3) = gcell m1_35 f.1 (f.2 + 3) /\
 appC m1_36 3 [.i 0] 8 r307_1 (Sl.mk m1_29.size 0 1 1) fun r319_1 m1_37 =>
 Sam [m1_4.size, m.size] m1_36 m1_37 /\
 q00 Tryz.prog q27 [vp m0.1 m0.2, vi v295, vb false] m1_37 fun r_20 m1_38 =>
 Sam [m1_4.size, m.size] m1_37 m1_38 /\
 ∃ r322_1 : Bool, r_20 = vb r322_1 /\
 eqT m1_4.size m1_4.size (
 ∃ v329_1 : Int, gcell m1_38 m0.1 (m0.2 + 2) = some (vi v329_1) /\
 eqT m.size m.size (
 q00 Tryz.prog q2b [vp m0.1 m0.2, vi (w64 (v304_1 - v329_1)), Sl.v r319_1, .agg #[vi x_0, vi x_1, vi x_2, vi x_3, Sl.v x_4, Sl.v x_5]] m1_38 fun r_21 m1_39 =>
 Sam [m1_4.size, m.size] m1_38 m1_39 /\
 R (.tuple #[]) m1_39)))))))) /\
 ((x_0 == 11) = false ->
 ((x_0 == 23) = true ->
 ∃ v340 : Sl, gcell m1_4 f.1 (f.2 + 3) = some (Sl.v v340) /\
 eqT m.size m.size (
 (0 : Int) <= (0 : Int) /\ 0 < (x_4.len : Int) /\
 ∃ v344 : Int, gcell m1_4 x_4.blk (x_4.off + Int.toNat 0 * 1) = some (vi v344) /\
 0 <= v344 /\ v344 < (v340.len : Int) /\
 ∃ v346 : Int, gcell m1_4 v340.blk (v340.off + Int.toNat v344 * 1) = some (vi v346) /\
 q00 Tryz.prog q41 [vp m0.1 m0.2, vi v346] m1_4 fun r_22 m1_40 =>
 Sam [m.size] m1_4 m1_40 /\
 R (.tuple #[]) m1_40)) /\
 ((x_0 == 23) = false ->
 R (.tuple #[]) m1_4))))))))))))))))))
theorem qga (m0 f : Nat × Nat) (x_0 x_1 x_2 x_3 : Int) (x_4 x_5 : Sl) (m : Mem) (R : Value -> Mem -> Prop) (hvc : qar m0 f x_0 x_1 x_2 x_3 x_4 x_5 m R) : q00 Tryz.prog q3k [vp m0.1 m0.2, vp f.1 f.2, .agg #[vi x_0, vi x_1, vi x_2, vi x_3, Sl.v x_4, Sl.v x_5]] m R :=
 vcs (A := ⟨[(18, [0, 0, 2, 0, 0, 0, 56, 69], [0, 0, 2, 0, 0, 0, 56, 127]), (20, [0, 0, 2, 0, 0, 16, 32, 64, 0, 256, 640, 0, 0, 4096, 10240, 17416, 32773], [0, 0, 2, 0, 0, 16, 48, 112, 0, 256, 1008, 0, 0, 4096, 14336, 32760, 65535]), (22, [0, 1, 2, 4, 8, 0, 32, 64, 128, 0, 512, 1024, 2048, 4352, 8192, 16384, 32784, 65536, 131072, 262144, 1048575, 2097151, 3145727], [0, 1, 3, 7, 15, 0, 32, 96, 224, 0, 512, 1536, 3584, 8160, 16352, 32736, 65535, 131071, 262143, 524287, 1048575, 2097151, 4194303]), (23, [0, 1, 2, 4, 0, 16, 32, 64, 136, 256, 512, 2047, 4095], [0, 1, 3, 7, 0, 16, 48, 112, 255, 511, 1023, 2047, 4095]), (26, [0, 1, 2, 4, 0, 16, 32, 64, 136, 256, 512], [0, 1, 3, 7, 0, 16, 48, 112, 255, 511, 1023]), (32, [0, 1, 2, 4, 0, 16, 32, 64, 136, 256, 1023], [0, 1, 3, 7, 0, 16, 48, 112, 255, 511, 1023]), (33, [0, 0, 2, 0, 0, 16, 45], [0, 0, 2, 0, 0, 16, 63]), (35, [0, 0, 2, 0, 8, 16, 32, 64, 0, 256, 512, 1024, 0, 4096, 8192, 16384, 34816, 65536, 131072, 262272, 524288, 1048576, 0, 4194304, 10485760, 16777216, 33554437], [0, 0, 2, 0, 8, 24, 56, 120, 0, 256, 768, 1792, 0, 4096, 12288, 28672, 65280, 130816, 261888, 524280, 1048568, 2097144, 0, 4194304, 16777208, 33554424, 67108863]), (37, [0, 1, 2, 4, 0, 16, 32, 64, 136, 256, 512], [0, 1, 3, 7, 0, 16, 48, 112, 255, 511, 1023]), (42, [0, 1, 2, 4, 8, 0, 32, 64, 128, 0, 512, 1024, 2048, 4352, 8192, 16384, 32784, 65536, 131072, 524287], [0, 1, 3, 7, 15, 0, 32, 96, 224, 0, 512, 1536, 3584, 8160, 16352, 32736, 65535, 131071, 262143, 524287]), (43, [0, 0, 2, 0, 8, 16, 32, 64, 0, 256, 640, 0, 3072, 4100, 8192, 32767, 65535, 98303], [0, 0, 2, 0, 8, 24, 56, 120, 0, 256, 1016, 0, 4088, 8190, 16382, 32767, 65535, 131071]), (46, [0, 0, 2, 0, 0, 16, 40, 0, 197], [0, 0, 2, 0, 0, 16, 56, 0, 255]), (48, [0, 1, 2, 4, 0, 16, 32, 64, 136, 256, 1023], [0, 1, 3, 7, 0, 16, 48, 112, 255, 511, 1023]), (50, [0, 1, 2, 0, 8, 16, 32, 0, 128, 256, 512, 1088, 2048, 4096, 8196, 32767], [0, 1, 3, 0, 8, 24, 56, 0, 128, 384, 896, 2040, 4088, 8184, 16383, 32767]), (52, [0, 0, 2, 0, 8, 16, 32, 68, 0, 0, 897], [0, 0, 2, 0, 8, 24, 56, 126, 0, 0, 1023]), (54, [0, 0, 2, 4, 8, 0, 32, 64, 128, 272, 512, 1025], [0, 0, 2, 6, 14, 0, 32, 96, 224, 510, 1022, 2047])], [(3, [(24, .I)])], [], [(3, [353])]⟩) (n := 348) (rs := []) (args := [.c (.p m0.1 m0.2), .c (.p f.1 f.2), .agg [.i x_0, .i x_1, .i x_2, .i x_3, .s x_4, .s x_5]]) (c := q05 Tryz.f81) Tryz.func81 hvc
def qft (a_0 a_1 : Int) (a_2 : Sl) (b_0 b_1 : Int) (b_2 : Sl) (m : Mem) (R : Value -> Mem -> Prop) : Prop :=
 let m1 : Mem := m.push (.cells (vals [.i a_0, .i a_1, .s a_2]) 122)
 let m1_1 : Mem := m1.push (.cells (vals [.i b_0, .i b_1, .s b_2]) 122)
 eqT m.size m.size (
 eqT m1.size m1.size (
 ((a_0 != b_0) = true ->
 R (vb false) m1_1) /\
 ((a_0 != b_0) = false ->
 eqT m.size m.size (
 eqT m1.size m1.size (
 ((a_1 != b_1) = true ->
 R (vb false) m1_1) /\
 ((a_1 != b_1) = false ->
 eqT m.size m.size (
 eqT m1.size m1.size (
 q00 Tryz.prog qb0 [Sl.v a_2, Sl.v b_2] m1_1 fun r m1_2 =>
 Sam [m1.size, m.size] m1_1 m1_2 /\
 ∃ r19 : Bool, r = vb r19 /\
 ((!r19) = true ->
 R (vb false) m1_2) /\
 ((!r19) = false ->
 R (vb true) m1_2)))))))))
theorem qki (a_0 a_1 : Int) (a_2 : Sl) (b_0 b_1 : Int) (b_2 : Sl) (m : Mem) (R : Value -> Mem -> Prop) (hvc : qft a_0 a_1 a_2 b_0 b_1 b_2 m R) : q00 Tryz.prog qb3 [.agg #[vi a_0, vi a_1, Sl.v a_2], .agg #[vi b_0, vi b_1, Sl.v b_2]] m R :=
 vcs (A := ⟨[], [], [], []⟩) (n := 21) (rs := [.tmp 4]) (args := [.agg [.i a_0, .i a_1, .s a_2], .agg [.i b_0, .i b_1, .s b_2]]) (c := q05 Tryz.f82) Tryz.func82 hvc
def qg9 (a_0 a_1 : Sl) (a_2 a_3 : Int) (a_4 b_0 b_1 : Sl) (b_2 b_3 : Int) (b_4 : Sl) (m : Mem) (R : Value -> Mem -> Prop) : Prop :=
 let m1 : Mem := m.push (.cells (vals [.s a_0, .s a_1, .i a_2, .i a_3, .s a_4]) 89)
 let m1_1 : Mem := m1.push (.cells (vals [.s b_0, .s b_1, .i b_2, .i b_3, .s b_4]) 89)
 eqT m.size m.size (
 eqT m1.size m1.size (
 q00 Tryz.prog q3g [Sl.v a_0, Sl.v b_0] m1_1 fun r m1_2 =>
 Sam [m1.size, m.size] m1_1 m1_2 /\
 ∃ r9 : Bool, r = vb r9 /\
 ((!r9) = true ->
 R (vb false) m1_2) /\
 ((!r9) = false ->
 eqT m.size m.size (
 eqT m1.size m1.size (
 q00 Tryz.prog q3g [Sl.v a_1, Sl.v b_1] m1_2 fun r_1 m1_3 =>
 Sam [m1.size, m.size] m1_2 m1_3 /\
 ∃ r15 : Bool, r_1 = vb r15 /\
 ((!r15) = true ->
 R (vb false) m1_3) /\
 ((!r15) = false ->
 eqT m.size m.size (
 eqT m1.size m1.size (
 ((a_2 != b_2) = true ->
 R (vb false) m1_3) /\
 ((a_2 != b_2) = false ->
 eqT m.size m.size (
 eqT m1.size m1.size (
 ((a_3 != b_3) = true ->
 R (vb false) m1_3) /\
 ((a_3 != b_3) = false ->
 eqT m.size m.size (
 eqT m1.size m1.size (
 q00 Tryz.prog q8n [Sl.v a_4, Sl.v b_4] m1_3 fun r_2 m1_4 =>
 Sam [m1.size, m.size] m1_3 m1_4 /\
 ∃ r31 : Bool, r_2 = vb r31 /\
 ((!r31) = true ->
 R (vb false) m1_4) /\
 ((!r31) = false ->
 R (vb true) m1_4)))))))))))))))
theorem qku (a_0 a_1 : Sl) (a_2 a_3 : Int) (a_4 b_0 b_1 : Sl) (b_2 b_3 : Int) (b_4 : Sl) (m : Mem) (R : Value -> Mem -> Prop) (hvc : qg9 a_0 a_1 a_2 a_3 a_4 b_0 b_1 b_2 b_3 b_4 m R) : q00 Tryz.prog qb7 [.agg #[Sl.v a_0, Sl.v a_1, vi a_2, vi a_3, Sl.v a_4], .agg #[Sl.v b_0, Sl.v b_1, vi b_2, vi b_3, Sl.v b_4]] m R :=
 vcs (A := ⟨[], [], [], []⟩) (n := 33) (rs := [.tmp 4]) (args := [.agg [.s a_0, .s a_1, .i a_2, .i a_3, .s a_4], .agg [.s b_0, .s b_1, .i b_2, .i b_3, .s b_4]]) (c := q05 Tryz.f83) Tryz.func83 hvc
end
section
set_option linter.unusedVariables false
set_option maxRecDepth 100000
def q85 (c m0 : Nat × Nat) (m : Mem) (R : Value -> Mem -> Prop) : Prop :=
 ∃ v12 : Sl, gcell m m0.1 (m0.2 + 2 + 6) = some (Sl.v v12) /\
 ∃ v17 : Sl, gcell m m0.1 (m0.2 + 2 + 6) = some (Sl.v v17) /\
 0 <= (w64 ((v17.len : Int) - 1)) /\ (w64 ((v17.len : Int) - 1)) < (v12.len : Int) /\
 ∃ v21_0 : Int, gcell m v12.blk (v12.off + Int.toNat (w64 ((v17.len : Int) - 1)) * 6) = some (vi v21_0) /\
 ∃ v21_1 : Int, gcell m v12.blk (v12.off + Int.toNat (w64 ((v17.len : Int) - 1)) * 6 + 1) = some (vi v21_1) /\
 ∃ v21_2 : Int, gcell m v12.blk (v12.off + Int.toNat (w64 ((v17.len : Int) - 1)) * 6 + 2) = some (vi v21_2) /\
 ∃ v21_3 : Sl, gcell m v12.blk (v12.off + Int.toNat (w64 ((v17.len : Int) - 1)) * 6 + 3) = some (Sl.v v21_3) /\
 ∃ v21_4 : Sl, gcell m v12.blk (v12.off + Int.toNat (w64 ((v17.len : Int) - 1)) * 6 + 4) = some (Sl.v v21_4) /\
 ∃ v21_5 : Sl, gcell m v12.blk (v12.off + Int.toNat (w64 ((v17.len : Int) - 1)) * 6 + 5) = some (Sl.v v21_5) /\
 let m1 : Mem := m.push (.cells (vals [.i 0, .i 0, .i 0, .s Sl.nil, .s Sl.nil, .s Sl.nil]) 84)
 gcell m1 v12.blk (v12.off + Int.toNat (w64 ((v17.len : Int) - 1)) * 6) = gcell m v12.blk (v12.off + Int.toNat (w64 ((v17.len : Int) - 1)) * 6) /\
 gcell m1 v12.blk (v12.off + Int.toNat (w64 ((v17.len : Int) - 1)) * 6 + 1) = gcell m v12.blk (v12.off + Int.toNat (w64 ((v17.len : Int) - 1)) * 6 + 1) /\
 gcell m1 v12.blk (v12.off + Int.toNat (w64 ((v17.len : Int) - 1)) * 6 + 2) = gcell m v12.blk (v12.off + Int.toNat (w64 ((v17.len : Int) - 1)) * 6 + 2) /\
 gcell m1 v12.blk (v12.off + Int.toNat (w64 ((v17.len : Int) - 1)) * 6 + 3) = gcell m v12.blk (v12.off + Int.toNat (w64 ((v17.len : Int) - 1)) * 6 + 3) /\
 gcell m1 v12.blk (v12.off + Int.toNat (w64 ((v17.len : Int) - 1)) * 6 + 4) = gcell m v12.blk (v12.off + Int.toNat (w64 ((v17.len : Int) - 1)) * 6 + 4) /\
 gcell m1 v12.blk (v12.off + Int.toNat (w64 ((v17.len : Int) - 1)) * 6 + 5) = gcell m v12.blk (v12.off + Int.toNat (w64 ((v17.len : Int) - 1)) * 6 + 5) /\
 gcell m1 m0.1 (m0.2 + 2 + 6) = gcell m m0.1 (m0.2 + 2 + 6) /\
 gcell m1 m0.1 (m0.2 + 2 + 6) = gcell m m0.1 (m0.2 + 2 + 6) /\
 eqT m.size m.size (
 let m1_1 : Mem := scells m1 m.size 0 [.i v21_0, .i v21_1, .i v21_2, .s v21_3, .s v21_4, .s v21_5]
 ∃ v26 : Sl, gcell m1_1 m0.1 (m0.2 + 1) = some (Sl.v v26) /\
 eqT m.size m.size (
 0 <= v21_0 /\ v21_0 < (v26.len : Int) /\
 ∃ v31 : Sl, gcell m1_1 v26.blk (v26.off + Int.toNat v21_0 * 5 + 4) = some (Sl.v v31) /\
 eqT m.size m.size (
 0 <= v21_1 /\ v21_1 < (v31.len : Int) /\
 ∃ v35_0 : Int, gcell m1_1 v31.blk (v31.off + Int.toNat v21_1 * 6) = some (vi v35_0) /\
 ∃ v35_1 : Int, gcell m1_1 v31.blk (v31.off + Int.toNat v21_1 * 6 + 1) = some (vi v35_1) /\
 ∃ v35_2 : Int, gcell m1_1 v31.blk (v31.off + Int.toNat v21_1 * 6 + 2) = some (vi v35_2) /\
 ∃ v35_3 : Int, gcell m1_1 v31.blk (v31.off + Int.toNat v21_1 * 6 + 3) = some (vi v35_3) /\
 ∃ v35_4 : Sl, gcell m1_1 v31.blk (v31.off + Int.toNat v21_1 * 6 + 4) = some (Sl.v v35_4) /\
 ∃ v35_5 : Sl, gcell m1_1 v31.blk (v31.off + Int.toNat v21_1 * 6 + 5) = some (Sl.v v35_5) /\
 let m1_2 : Mem := m1_1.push (.cells (vals [.i 0, .i 0, .i 0, .i 0, .s Sl.nil, .s Sl.nil]) 86)
 gcell m1_2 v31.blk (v31.off + Int.toNat v21_1 * 6) = gcell m1_1 v31.blk (v31.off + Int.toNat v21_1 * 6) /\
 gcell m1_2 v31.blk (v31.off + Int.toNat v21_1 * 6 + 1) = gcell m1_1 v31.blk (v31.off + Int.toNat v21_1 * 6 + 1) /\
 gcell m1_2 v31.blk (v31.off + Int.toNat v21_1 * 6 + 2) = gcell m1_1 v31.blk (v31.off + Int.toNat v21_1 * 6 + 2) /\
 gcell m1_2 v31.blk (v31.off + Int.toNat v21_1 * 6 + 3) = gcell m1_1 v31.blk (v31.off + Int.toNat v21_1 * 6 + 3) /\
 gcell m1_2 v31.blk (v31.off + Int.toNat v21_1 * 6 + 4) = gcell m1_1 v31.blk (v31.off + Int.toNat v21_1 * 6 + 4) /\
 gcell m1_2 v31.blk (v31.off + Int.toNat v21_1 * 6 + 5) = gcell m1_1 v31.blk (v31.off + Int.toNat v21_1 * 6 + 5) /\
 gcell m1_2 m.size 1 = gcell m1_1 m.size 1 /\
 gcell m1_2 v26.blk (v26.off + Int.toNat v21_0 * 5 + 4) = gcell m1_1 v26.blk (v26.off + Int.toNat v21_0 * 5 + 4) /\
 gcell m1_2 m.size 0 = gcell m1_1 m.size 0 /\
 gcell m1_2 m0.1 (m0.2 + 1) = gcell m1_1 m0.1 (m0.2 + 1) /\
 eqT m1_1.size m1_1.size (
 let m1_3 : Mem := scells m1_2 m1_1.size 0 [.i v35_0, .i v35_1, .i v35_2, .i v35_3, .s v35_4, .s v35_5]
 eqT m1_1.size m1_1.size (
 ((v35_0 == 6) = true ->
 eqT m1_1.size m1_1.size (
 ((decide (v35_3 > 0)) = true ->
 eqT m.size m.size (
 eqT m1_1.size m1_1.size (
 0 <= (w64 (v35_3 - 1)) /\ (w64 (v35_3 - 1)) < (v21_5.len : Int) /\
 ∃ v51 : Int, gcell m1_3 v21_5.blk (v21_5.off + Int.toNat (w64 (v35_3 - 1)) * 1) = some (vi v51) /\
 ((v51 != 0) = true ->
 eqT m1_1.size m1_1.size (
 R (.tuple #[vi v35_0, vi 1]) m1_3)) /\
 ((v51 != 0) = false ->
 eqT m1_1.size m1_1.size (
 R (.tuple #[vi v35_0, vi 0]) m1_3))))) /\
 ((decide (v35_3 > 0)) = false ->
 eqT m1_1.size m1_1.size (
 R (.tuple #[vi v35_0, vi 0]) m1_3)))) /\
 ((v35_0 == 6) = false ->
 eqT m1_1.size m1_1.size (
 R (.tuple #[vi v35_0, vi 0]) m1_3)))))))
theorem qcy (c m0 : Nat × Nat) (m : Mem) (R : Value -> Mem -> Prop) (hvc : q85 c m0 m R) : q00 Tryz.prog q50 [vp c.1 c.2, vp m0.1 m0.2] m R :=
 vcs (A := ⟨[(1, [0, 1, 2, 4, 8, 0, 32, 64, 128, 256, 512, 1024, 2064, 4096, 0, 32767], [0, 1, 3, 7, 15, 0, 32, 96, 224, 480, 992, 2016, 4095, 8191, 0, 32767]), (2, [0, 1, 2, 4, 8, 0, 32, 80, 128, 256, 0, 1024, 2560, 4096, 0, 32767], [0, 1, 3, 7, 15, 0, 32, 127, 255, 511, 0, 1024, 4095, 8191, 0, 32767])], [], [], []⟩) (n := 58) (rs := [.tmp 4, .tmp 5]) (args := [.c (.p c.1 c.2), .c (.p m0.1 m0.2)]) (c := q05 Tryz.f86) Tryz.func86 hvc
def q87 (c m0 : Nat × Nat) (op again : Int) (m : Mem) (R : Value -> Mem -> Prop) : Prop :=
 ∃ v12 : Int, gcell m c.1 c.2 = some (vi v12) /\
 wrOk m c.1 c.2 1 /\
 let m1 : Mem := scells m c.1 c.2 [.i (w64 (v12 + 1))]
 ∃ v20 : Int, gcell m1 m0.1 (m0.2 + 2) = some (vi v20) /\
 ((v20 == 1) = true ->
 R (.tuple #[]) m1) /\
 ((v20 == 1) = false ->
 ∃ v27 : Int, gcell m1 m0.1 (m0.2 + 2) = some (vi v27) /\
 ((v27 == 2) = true ->
 R (.tuple #[]) m1) /\
 ((v27 == 2) = false ->
 (((op == 6) || (op == 10)) = true ->
 ∃ v38 : Int, gcell m1 c.1 (c.2 + 1) = some (vi v38) /\
 wrOk m1 c.1 (c.2 + 1) 1 /\
 let m1_1 : Mem := scells m1 c.1 (c.2 + 1) [.i (w64 ((w64 (v38 + 1)) - again))]
 ∃ v48 : Int, gcell m1_1 c.1 (c.2 + 2) = some (vi v48) /\
 wrOk m1_1 c.1 (c.2 + 2) 1 /\
 let m1_2 : Mem := scells m1_1 c.1 (c.2 + 2) [.i (w64 (v48 + again))]
 ∃ v57 : Int, gcell m1_2 c.1 (c.2 + 5) = some (vi v57) /\
 ∃ v62 : Sl, gcell m1_2 m0.1 (m0.2 + 2 + 5) = some (Sl.v v62) /\
 q00 Tryz.prog q7l [Sl.v v62] m1_2 fun r m1_3 =>
 ∃ r63 : Int, r = vi r63 /\
 gcell m1_3 c.1 (c.2 + 5) = gcell m1_2 c.1 (c.2 + 5) /\
 wrOk m1_3 c.1 (c.2 + 5) 1 /\
 let m1_4 : Mem := scells m1_3 c.1 (c.2 + 5) [.i (if r63 > v57 then r63 else v57)]
 ∃ v91 : Int, gcell m1_4 c.1 (c.2 + 6) = some (vi v91) /\
 ∃ v96 : Sl, gcell m1_4 m0.1 (m0.2 + 2 + 6) = some (Sl.v v96) /\
 wrOk m1_4 c.1 (c.2 + 6) 1 /\
 let m1_5 : Mem := scells m1_4 c.1 (c.2 + 6) [.i (if (v96.len : Int) > v91 then (v96.len : Int) else v91)]
 ∃ v106 : Sl, gcell m1_5 m0.1 (m0.2 + 2 + 5) = some (Sl.v v106) /\
 ∃ v110 : Int, gcell m1_5 c.1 (c.2 + 7) = some (vi v110) /\
 q00 Tryz.prog q1u [Sl.v v106, vi v110] m1_5 fun r_1 m1_6 =>
 ∃ r111 : Int, r_1 = vi r111 /\
 wrOk m1_6 c.1 (c.2 + 7) 1 /\
 let m1_7 : Mem := scells m1_6 c.1 (c.2 + 7) [.i r111]
 R (.tuple #[]) m1_7) /\
 (((op == 6) || (op == 10)) = false ->
 ((op == 14) = true ->
 ∃ v73 : Int, gcell m1 c.1 (c.2 + 3) = some (vi v73) /\
 wrOk m1 c.1 (c.2 + 3) 1 /\
 let m1_8 : Mem := scells m1 c.1 (c.2 + 3) [.i (w64 (v73 + 1))]
 ∃ v91_1 : Int, gcell m1_8 c.1 (c.2 + 6) = some (vi v91_1) /\
 ∃ v96_1 : Sl, gcell m1_8 m0.1 (m0.2 + 2 + 6) = some (Sl.v v96_1) /\
 wrOk m1_8 c.1 (c.2 + 6) 1 /\
 let m1_9 : Mem := scells m1_8 c.1 (c.2 + 6) [.i (if (v96_1.len : Int) > v91_1 then (v96_1.len : Int) else v91_1)]
 ∃ v106_1 : Sl, gcell m1_9 m0.1 (m0.2 + 2 + 5) = some (Sl.v v106_1) /\
 ∃ v110_1 : Int, gcell m1_9 c.1 (c.2 + 7) = some (vi v110_1) /\
 q00 Tryz.prog q1u [Sl.v v106_1, vi v110_1] m1_9 fun r_2 m1_10 =>
 ∃ r111_1 : Int, r_2 = vi r111_1 /\
 wrOk m1_10 c.1 (c.2 + 7) 1 /\
 let m1_11 : Mem := scells m1_10 c.1 (c.2 + 7) [.i r111_1]
 R (.tuple #[]) m1_11) /\
 ((op == 14) = false ->
 ((op == 15) = true ->
 ∃ v83 : Int, gcell m1 c.1 (c.2 + 4) = some (vi v83) /\
 wrOk m1 c.1 (c.2 + 4) 1 /\
 let m1_12 : Mem := scells m1 c.1 (c.2 + 4) [.i (w64 (v83 + 1))]
 ∃ v91_2 : Int, gcell m1_12 c.1 (c.2 + 6) = some (vi v91_2) /\
 ∃ v96_2 : Sl, gcell m1_12 m0.1 (m0.2 + 2 + 6) = some (Sl.v v96_2) /\
 wrOk m1_12 c.1 (c.2 + 6) 1 /\
 let m1_13 : Mem := scells m1_12 c.1 (c.2 + 6) [.i (if (v96_2.len : Int) > v91_2 then (v96_2.len : Int) else v91_2)]
 ∃ v106_2 : Sl, gcell m1_13 m0.1 (m0.2 + 2 + 5) = some (Sl.v v106_2) /\
 ∃ v110_2 : Int, gcell m1_13 c.1 (c.2 + 7) = some (vi v110_2) /\
 q00 Tryz.prog q1u [Sl.v v106_2, vi v110_2] m1_13 fun r_3 m1_14 =>
 ∃ r111_2 : Int, r_3 = vi r111_2 /\
 wrOk m1_14 c.1 (c.2 + 7) 1 /\
 let m1_15 : Mem := scells m1_14 c.1 (c.2 + 7) [.i r111_2]
 R (.tuple #[]) m1_15) /\
 ((op == 15) = false ->
 ∃ v91_3 : Int, gcell m1 c.1 (c.2 + 6) = some (vi v91_3) /\
 ∃ v96_3 : Sl, gcell m1 m0.1 (m0.2 + 2 + 6) = some (Sl.v v96_3) /\
 wrOk m1 c.1 (c.2 + 6) 1 /\
 let m1_16 : Mem := scells m1 c.1 (c.2 + 6) [.i (if (v96_3.len : Int) > v91_3 then (v96_3.len : Int) else v91_3)]
 ∃ v106_3 : Sl, gcell m1_16 m0.1 (m0.2 + 2 + 5) = some (Sl.v v106_3) /\
 ∃ v110_3 : Int, gcell m1_16 c.1 (c.2 + 7) = some (vi v110_3) /\
 q00 Tryz.prog q1u [Sl.v v106_3, vi v110_3] m1_16 fun r_4 m1_17 =>
 ∃ r111_3 : Int, r_4 = vi r111_3 /\
 wrOk m1_17 c.1 (c.2 + 7) 1 /\
 let m1_18 : Mem := scells m1_17 c.1 (c.2 + 7) [.i r111_3]
 R (.tuple #[]) m1_18)))))
theorem qce (c m0 : Nat × Nat) (op again : Int) (m : Mem) (R : Value -> Mem -> Prop) (hvc : q87 c m0 op again m R) : q00 Tryz.prog q4z [vp c.1 c.2, vp m0.1 m0.2, vi op, vi again] m R :=
 vcs (A := ⟨[(7, [0, 0, 2, 4, 8, 0, 32, 64, 128, 256, 512, 1040, 4095, 8191, 12287], [0, 0, 2, 6, 14, 0, 32, 96, 224, 480, 992, 2046, 4095, 8191, 16383]), (12, [0, 0, 2, 4, 8, 0, 32, 64, 128, 256, 512, 1040, 4095, 8191, 12287], [0, 0, 2, 6, 14, 0, 32, 96, 224, 480, 992, 2046, 4095, 8191, 16383]), (13, [0, 0, 2, 4, 8, 16, 0, 64, 128, 256, 544, 2047, 4095, 6143], [0, 0, 2, 6, 14, 30, 0, 64, 192, 448, 1022, 2047, 4095, 8191])], [], [], []⟩) (n := 114) (rs := []) (args := [.c (.p c.1 c.2), .c (.p m0.1 m0.2), .c (.i op), .c (.i again)]) (c := q05 Tryz.f87) Tryz.func87 hvc
def qbp (h : Sl) (m : Mem) (R : Value -> Mem -> Prop) : Prop :=
 ∃ (I0 : Int -> Int -> Mem -> Prop) (μ0 : Int -> Int -> Mem -> Nat),
 I0 0 0 m /\
 (∀ (n : Int) (v8 : Int) (m1 : Mem), I0 n v8 m1 ->
 ((decide (v8 < (h.len : Int))) = true ->
 0 <= v8 /\ v8 < (h.len : Int) /\
 ∃ v11_0 : Int, gcell m1 h.blk (h.off + Int.toNat v8 * 3) = some (vi v11_0) /\
 ∃ v11_1 : Int, gcell m1 h.blk (h.off + Int.toNat v8 * 3 + 1) = some (vi v11_1) /\
 ∃ v11_2 : Sl, gcell m1 h.blk (h.off + Int.toNat v8 * 3 + 2) = some (Sl.v v11_2) /\
 let m1_1 : Mem := m1.push (.cells (vals [.i 0, .i 0, .s Sl.nil]) 149)
 eqT m1.size m1.size (
 let m1_2 : Mem := scells m1_1 m1.size 0 [.i v11_0, .i v11_1, .s v11_2]
 eqT m1.size m1.size (
 ((decide (v11_0 > 0)) = true ->
 I0 (w64 (n + 1)) (w64 (v8 + 1)) m1_2 /\ μ0 (w64 (n + 1)) (w64 (v8 + 1)) m1_2 < μ0 n v8 m1) /\
 ((decide (v11_0 > 0)) = false ->
 I0 n (w64 (v8 + 1)) m1_2 /\ μ0 n (w64 (v8 + 1)) m1_2 < μ0 n v8 m1)))) /\
 ((decide (v8 < (h.len : Int))) = false ->
 R (vi n) m1))
theorem qhk (h : Sl) (m : Mem) (R : Value -> Mem -> Prop) (hvc : qbp h m R) : q00 Tryz.prog q7m [Sl.v h] m R :=
 vcs (A := ⟨[], [(3, [(3, .I), (8, .I)])], [], []⟩) (n := 19) (rs := [.tmp 2]) (args := [.c (.s h)]) (c := q05 Tryz.f88) Tryz.func88 hvc
def qot (op : Int) (m : Mem) (R : Value -> Mem -> Prop) : Prop :=
 ((op == 9) = true ->
 R (vb true) m) /\
 ((op == 9) = false ->
 ((op == 11) = true ->
 R (vb true) m) /\
 ((op == 11) = false ->
 R (vb (op == 24)) m))
theorem ql3 (op : Int) (m : Mem) (R : Value -> Mem -> Prop) (hvc : qot op m R) : q00 Tryz.prog qba [vi op] m R :=
 vcs (A := ⟨[], [], [], []⟩) (n := 13) (rs := [.tmp 2]) (args := [.c (.i op)]) (c := q05 Tryz.f97) Tryz.func97 hvc
end
end Go.Proofs.YtpggcodlaajceaaGreat
