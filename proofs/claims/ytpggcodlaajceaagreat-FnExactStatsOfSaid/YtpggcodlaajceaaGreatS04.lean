/- Part of a proof, joined by a program: Cn13 Cn14 Cn15 Cn16. -/
import Derived.Test.YtpggcodlaajceaaGreatS02
namespace Go.Proofs.YtpggcodlaajceaaGreat
open Go.Vc
section
set_option linter.unusedVariables false
set_option maxRecDepth 100000
def qd0 (f_0 f_1 f_2 : Int) (f_3 f_4 f_5 taken : Sl) (m : Mem) (R : Value -> Mem -> Prop) : Prop :=
 let m1 : Mem := m.push (.cells (vals [.i f_0, .i f_1, .i f_2, .s f_3, .s f_4, .s f_5]) 84)
 eqT m.size m.size (
 q00 Tryz.prog q3b [Sl.v f_4] m1 fun r m1_1 =>
 Sam [m.size] m1 m1_1 /\
 ∃ r9 : Sl, r = Sl.v r9 /\
 ∃ (I0 : Int -> Mem -> Prop) (μ0 : Int -> Mem -> Nat),
 I0 0 m1_1 /\
 (∀ (k : Int) (m1_2 : Mem), I0 k m1_2 ->
 ((decide (k < (taken.len : Int))) = true ->
 eqT m.size m.size (
 0 <= k /\ k < (taken.len : Int) /\
 ∃ v21 : Int, gcell m1_2 taken.blk (taken.off + Int.toNat k * 1) = some (vi v21) /\
 0 <= v21 /\ v21 < (f_3.len : Int) /\
 ∃ v23 : Int, gcell m1_2 f_3.blk (f_3.off + Int.toNat v21 * 1) = some (vi v23) /\
 q00 Tryz.prog q1h [vi v23] m1_2 fun r_1 m1_3 =>
 Sam [m.size] m1_2 m1_3 /\
 ∃ r24 : Bool, r_1 = vb r24 /\
 (r24 = true ->
 0 <= k /\ k < (taken.len : Int) /\
 ∃ v29 : Int, gcell m1_3 taken.blk (taken.off + Int.toNat k * 1) = some (vi v29) /\
 0 <= k /\ k < (taken.len : Int) /\
 ∃ v34 : Int, gcell m1_3 taken.blk (taken.off + Int.toNat k * 1) = some (vi v34) /\
 0 <= v34 /\ v34 < (r9.len : Int) /\
 ∃ v36 : Int, gcell m1_3 r9.blk (r9.off + Int.toNat v34 * 1) = some (vi v36) /\
 0 <= v29 /\ v29 < (r9.len : Int) /\
 wrOk m1_3 r9.blk (r9.off + Int.toNat v29 * 1) 1 /\
 let m1_4 : Mem := scells m1_3 r9.blk (r9.off + Int.toNat v29 * 1) [.i (w64 (v36 - 1))]
 Sam [m.size] m1_3 m1_4 /\
 eqS (SV.box m.size 84 [.i f_0, .i f_1, .i f_2, .s f_3, .s f_4, .s f_5]) (SV.box m.size 84 [.i f_0, .i f_1, .i f_2, .s f_3, .s f_4, .s f_5]) (
 I0 (w64 (k + 1)) m1_4 /\ μ0 (w64 (k + 1)) m1_4 < μ0 k m1_2)) /\
 (r24 = false ->
 eqS (SV.box m.size 84 [.i f_0, .i f_1, .i f_2, .s f_3, .s f_4, .s f_5]) (SV.box m.size 84 [.i f_0, .i f_1, .i f_2, .s f_3, .s f_4, .s f_5]) (
 I0 (w64 (k + 1)) m1_3 /\ μ0 (w64 (k + 1)) m1_3 < μ0 k m1_2)))) /\
 ((decide (k < (taken.len : Int))) = false ->
 R (Sl.v r9) m1_2)))
theorem qij (f_0 f_1 f_2 : Int) (f_3 f_4 f_5 taken : Sl) (m : Mem) (R : Value -> Mem -> Prop) (hvc : qd0 f_0 f_1 f_2 f_3 f_4 f_5 taken m R) : q00 Tryz.prog q5r [.agg #[vi f_0, vi f_1, vi f_2, Sl.v f_3, Sl.v f_4, Sl.v f_5], Sl.v taken] m R :=
 vcs (A := ⟨[(5, [0, 1, 0, 0, 12, 16, 34, 64, 128], [0, 1, 0, 0, 12, 28, 63, 127, 255]), (6, [0, 0, 0, 6, 8, 0, 0, 0, 192, 256, 544, 1024, 2048, 8191, 16383], [0, 0, 0, 6, 14, 0, 0, 0, 192, 448, 992, 2016, 4064, 8191, 16383])], [(3, [(6, .I)])], [], [(3, [42])]⟩) (n := 40) (rs := [.tmp 4]) (args := [.agg [.i f_0, .i f_1, .i f_2, .s f_3, .s f_4, .s f_5], .c (.s taken)]) (c := q05 Tryz.f98) Tryz.func98 hvc
def qej (im_0 im_1 : Sl) (i_0 i_1 i_2 i_3 : Int) (i_4 i_5 : Sl) (m : Mem) (R : Value -> Mem -> Prop) : Prop :=
 let m1 : Mem := m.push (.cells (vals [.s im_0, .s im_1]) 35)
 let m1_1 : Mem := m1.push (.cells (vals [.i i_0, .i i_1, .i i_2, .i i_3, .s i_4, .s i_5]) 86)
 let m1_2 : Mem := m1_1.push (.cells (vals []) 3)
 ∃ K0 : Bool -> Mem -> Prop,
 (eqT m1.size m1.size (
 q00 Tryz.prog q8o [vi i_0] m1_2 fun r m1_3 =>
 Sam [m1.size, m.size] m1_2 m1_3 /\
 ∃ r10 : Bool, r = vb r10 /\
 (r10 = true ->
 eqS (SV.box m1.size 86 [.i i_0, .i i_1, .i i_2, .i i_3, .s i_4, .s i_5]) (SV.box m1.size 86 [.i i_0, .i i_1, .i i_2, .i i_3, .s i_4, .s i_5]) (
 eqS (SV.box m.size 35 [.s im_0, .s im_1]) (SV.box m.size 35 [.s im_0, .s im_1]) (
 K0 true m1_3))) /\
 (r10 = false ->
 eqT m1.size m1.size (
 ((i_0 == 24) = true ->
 eqS (SV.box m1.size 86 [.i i_0, .i i_1, .i i_2, .i i_3, .s i_4, .s i_5]) (SV.box m1.size 86 [.i i_0, .i i_1, .i i_2, .i i_3, .s i_4, .s i_5]) (
 eqS (SV.box m.size 35 [.s im_0, .s im_1]) (SV.box m.size 35 [.s im_0, .s im_1]) (
 K0 true m1_3))) /\
 ((i_0 == 24) = false ->
 eqT m1.size m1.size (
 ((i_0 == 18) = true ->
 eqS (SV.box m1.size 86 [.i i_0, .i i_1, .i i_2, .i i_3, .s i_4, .s i_5]) (SV.box m1.size 86 [.i i_0, .i i_1, .i i_2, .i i_3, .s i_4, .s i_5]) (
 eqS (SV.box m.size 35 [.s im_0, .s im_1]) (SV.box m.size 35 [.s im_0, .s im_1]) (
 K0 true m1_3))) /\
 ((i_0 == 18) = false ->
 eqT m1.size m1.size (
 ((i_0 == 23) = true ->
 eqS (SV.box m1.size 86 [.i i_0, .i i_1, .i i_2, .i i_3, .s i_4, .s i_5]) (SV.box m1.size 86 [.i i_0, .i i_1, .i i_2, .i i_3, .s i_4, .s i_5]) (
 eqS (SV.box m.size 35 [.s im_0, .s im_1]) (SV.box m.size 35 [.s im_0, .s im_1]) (
 K0 true m1_3))) /\
 ((i_0 == 23) = false ->
 eqT m1.size m1.size (
 eqS (SV.box m1.size 86 [.i i_0, .i i_1, .i i_2, .i i_3, .s i_4, .s i_5]) (SV.box m1.size 86 [.i i_0, .i i_1, .i i_2, .i i_3, .s i_4, .s i_5]) (
 eqS (SV.box m.size 35 [.s im_0, .s im_1]) (SV.box m.size 35 [.s im_0, .s im_1]) (
 K0 (i_0 == 15) m1_3)))))))))))) /\
 (∀ (v30 : Bool) (m1_4 : Mem), K0 v30 m1_4 ->
 (v30 = true ->
 ∃ (I0 : Sl -> Int -> Mem -> Prop) (μ0 : Sl -> Int -> Mem -> Nat),
 I0 (Sl.mk m1_1.size 0 0 0) 0 m1_4 /\
 (∀ (out : Sl) (k : Int) (m1_5 : Mem), I0 out k m1_5 ->
 eqT m1.size m1.size (
 ((decide (k < (i_4.len : Int))) = true ->
 eqT m.size m.size (
 eqT m1.size m1.size (
 q00 Tryz.prog q4l [.agg #[Sl.v im_0, Sl.v im_1], .agg #[vi i_0, vi i_1, vi i_2, vi i_3, Sl.v i_4, Sl.v i_5], vi k] m1_5 fun r_1 m1_6 =>
 Sam [m1.size, m.size] m1_5 m1_6 /\
 ∃ r41 : Bool, r_1 = vb r41 /\
 ((!r41) = true ->
 eqT m1.size m1.size (
 0 <= k /\ k < (i_4.len : Int) /\
 ∃ v48 : Int, gcell m1_6 i_4.blk (i_4.off + Int.toNat k * 1) = some (vi v48) /\
 let m1_7 : Mem := m1_6.push (.cells (vals [.i v48]) 3)
 appC m1_7 3 [.i 0] 8 out (Sl.mk m1_6.size 0 1 1) fun r50 m1_8 =>
 Sam [m1.size, m.size] m1_7 m1_8 /\
 eqS (SV.box m1.size 86 [.i i_0, .i i_1, .i i_2, .i i_3, .s i_4, .s i_5]) (SV.box m1.size 86 [.i i_0, .i i_1, .i i_2, .i i_3, .s i_4, .s i_5]) (
 eqS (SV.box m.size 35 [.s im_0, .s im_1]) (SV.box m.size 35 [.s im_0, .s im_1]) (
 I0 r50 (w64 (k + 1)) m1_8 /\ μ0 r50 (w64 (k + 1)) m1_8 < μ0 out k m1_5)))) /\
 ((!r41) = false ->
 eqS (SV.box m1.size 86 [.i i_0, .i i_1, .i i_2, .i i_3, .s i_4, .s i_5]) (SV.box m1.size 86 [.i i_0, .i i_1, .i i_2, .i i_3, .s i_4, .s i_5]) (
 eqS (SV.box m.size 35 [.s im_0, .s im_1]) (SV.box m.size 35 [.s im_0, .s im_1]) (
 I0 out (w64 (k + 1)) m1_6 /\ μ0 out (w64 (k + 1)) m1_6 < μ0 out k m1_5)))))) /\
 ((decide (k < (i_4.len : Int))) = false ->
 R (Sl.v out) m1_5)))) /\
 (v30 = false ->
 eqT m1.size m1.size (
 ((i_0 == 16) = true ->
 eqT m1.size m1.size (
 (0 : Int) <= (0 : Int) /\ 0 < (i_4.len : Int) /\
 ∃ v63 : Int, gcell m1_4 i_4.blk (i_4.off + Int.toNat 0 * 1) = some (vi v63) /\
 let m1_9 : Mem := m1_4.push (.cells (vals [.i v63]) 3)
 appC m1_9 3 [.i 0] 8 (Sl.mk m1_1.size 0 0 0) (Sl.mk m1_4.size 0 1 1) fun r65 m1_10 =>
 Sam [m1.size, m.size] m1_9 m1_10 /\
 R (Sl.v r65) m1_10)) /\
 ((i_0 == 16) = false ->
 eqT m1.size m1.size (
 ((i_0 == 17) = true ->
 eqT m1.size m1.size (
 (0 : Int) <= (0 : Int) /\ 0 < (i_4.len : Int) /\
 ∃ v63_1 : Int, gcell m1_4 i_4.blk (i_4.off + Int.toNat 0 * 1) = some (vi v63_1) /\
 let m1_11 : Mem := m1_4.push (.cells (vals [.i v63_1]) 3)
 appC m1_11 3 [.i 0] 8 (Sl.mk m1_1.size 0 0 0) (Sl.mk m1_4.size 0 1 1) fun r65_1 m1_12 =>
 Sam [m1.size, m.size] m1_11 m1_12 /\
 R (Sl.v r65_1) m1_12)) /\
 ((i_0 == 17) = false ->
 R (Sl.v (Sl.mk m1_1.size 0 0 0)) m1_4))))))
theorem qj7 (im_0 im_1 : Sl) (i_0 i_1 i_2 i_3 : Int) (i_4 i_5 : Sl) (m : Mem) (R : Value -> Mem -> Prop) (hvc : qej im_0 im_1 i_0 i_1 i_2 i_3 i_4 i_5 m R) : q00 Tryz.prog q6i [.agg #[Sl.v im_0, Sl.v im_1], .agg #[vi i_0, vi i_1, vi i_2, vi i_3, Sl.v i_4, Sl.v i_5]] m R :=
 vcs (A := ⟨[], [(4, [(5, .S), (6, .I)])], [(3, [(30, .T)])], [(3, [70, 69]), (4, [70, 69])]⟩) (n := 67) (rs := [.tmp 4]) (args := [.agg [.s im_0, .s im_1], .agg [.i i_0, .i i_1, .i i_2, .i i_3, .s i_4, .s i_5]]) (c := q05 Tryz.f99) Tryz.func99 hvc
def q78 (m0 : Nat × Nat) (f_0 f_1 f_2 : Int) (f_3 f_4 f_5 : Sl) (i_0 i_1 i_2 i_3 : Int) (i_4 i_5 own : Sl) (m : Mem) (R : Value -> Mem -> Prop) : Prop :=
 let m1 : Mem := m.push (.cells (vals [.i f_0, .i f_1, .i f_2, .s f_3, .s f_4, .s f_5]) 84)
 let m1_1 : Mem := m1.push (.cells (vals [.i i_0, .i i_1, .i i_2, .i i_3, .s i_4, .s i_5]) 86)
 ∃ K0 : Mem -> Prop,
 (q00 Tryz.prog q5h [Sl.v own] m1_1 fun r m1_2 =>
 Sam [m1.size, m.size] m1_1 m1_2 /\
 ∃ r11 : Bool, r = vb r11 /\
 ((!r11) = true ->
 R (vb false) m1_2) /\
 ((!r11) = false ->
 eqT m1.size m1.size (
 q00 Tryz.prog qac [vi i_0] m1_2 fun r_1 m1_3 =>
 Sam [m1.size, m.size] m1_2 m1_3 /\
 ∃ r16 : Bool, r_1 = vb r16 /\
 (r16 = true ->
 eqT m1.size m1.size (
 0 <= i_1 /\ i_1 < (own.len : Int) /\
 ∃ v22 : Int, gcell m1_3 own.blk (own.off + Int.toNat i_1 * 1) = some (vi v22) /\
 ((decide (v22 > 0)) = true ->
 R (vb false) m1_3) /\
 ((decide (v22 > 0)) = false ->
 eqS (SV.box m1.size 86 [.i i_0, .i i_1, .i i_2, .i i_3, .s i_4, .s i_5]) (SV.box m1.size 86 [.i i_0, .i i_1, .i i_2, .i i_3, .s i_4, .s i_5]) (
 eqS (SV.box m.size 84 [.i f_0, .i f_1, .i f_2, .s f_3, .s f_4, .s f_5]) (SV.box m.size 84 [.i f_0, .i f_1, .i f_2, .s f_3, .s f_4, .s f_5]) (
 K0 m1_3))))) /\
 (r16 = false ->
 eqS (SV.box m1.size 86 [.i i_0, .i i_1, .i i_2, .i i_3, .s i_4, .s i_5]) (SV.box m1.size 86 [.i i_0, .i i_1, .i i_2, .i i_3, .s i_4, .s i_5]) (
 eqS (SV.box m.size 84 [.i f_0, .i f_1, .i f_2, .s f_3, .s f_4, .s f_5]) (SV.box m.size 84 [.i f_0, .i f_1, .i f_2, .s f_3, .s f_4, .s f_5]) (
 K0 m1_3)))))) /\
 (∀ (m1_4 : Mem), K0 m1_4 ->
 eqT m1.size m1.size (
 (((i_0 == 1) || ((i_0 == 2) || ((i_0 == 3) || ((i_0 == 4) || ((i_0 == 5) || (i_0 == 20)))))) = true ->
 eqT m.size m.size (
 eqT m1.size m1.size (
 q00 Tryz.prog q6v [.agg #[vi f_0, vi f_1, vi f_2, Sl.v f_3, Sl.v f_4, Sl.v f_5], .agg #[vi i_0, vi i_1, vi i_2, vi i_3, Sl.v i_4, Sl.v i_5]] m1_4 fun r_2 m1_5 =>
 Sam [m1.size, m.size] m1_4 m1_5 /\
 ∃ r37 : Bool, r_2 = vb r37 /\
 R (vb r37) m1_5))) /\
 (((i_0 == 1) || ((i_0 == 2) || ((i_0 == 3) || ((i_0 == 4) || ((i_0 == 5) || (i_0 == 20)))))) = false ->
 ((i_0 == 6) = true ->
 eqT m.size m.size (
 eqT m1.size m1.size (
 q00 Tryz.prog q42 [vp m0.1 m0.2, .agg #[vi f_0, vi f_1, vi f_2, Sl.v f_3, Sl.v f_4, Sl.v f_5], .agg #[vi i_0, vi i_1, vi i_2, vi i_3, Sl.v i_4, Sl.v i_5]] m1_4 fun r_3 m1_6 =>
 Sam [m1.size, m.size] m1_4 m1_6 /\
 ∃ r43 : Bool, r_3 = vb r43 /\
 R (vb r43) m1_6))) /\
 ((i_0 == 6) = false ->
 ((i_0 == 9) = true ->
 eqT m.size m.size (
 eqT m1.size m1.size (
 q00 Tryz.prog q2v [vp m0.1 m0.2, .agg #[vi f_0, vi f_1, vi f_2, Sl.v f_3, Sl.v f_4, Sl.v f_5], .agg #[vi i_0, vi i_1, vi i_2, vi i_3, Sl.v i_4, Sl.v i_5]] m1_4 fun r_4 m1_7 =>
 Sam [m1.size, m.size] m1_4 m1_7 /\
 ∃ r49 : Bool, r_4 = vb r49 /\
 R (vb r49) m1_7))) /\
 ((i_0 == 9) = false ->
 ((i_0 == 24) = true ->
 eqT m.size m.size (
 eqT m1.size m1.size (
 q00 Tryz.prog q2v [vp m0.1 m0.2, .agg #[vi f_0, vi f_1, vi f_2, Sl.v f_3, Sl.v f_4, Sl.v f_5], .agg #[vi i_0, vi i_1, vi i_2, vi i_3, Sl.v i_4, Sl.v i_5]] m1_4 fun r_5 m1_8 =>
 Sam [m1.size, m.size] m1_4 m1_8 /\
 ∃ r55 : Bool, r_5 = vb r55 /\
 (r55 = true ->
 q00 Tryz.prog q3v [Sl.v own] m1_8 fun r_6 m1_9 =>
 Sam [m1.size, m.size] m1_8 m1_9 /\
 ∃ r58 : Bool, r_6 = vb r58 /\
 (r58 = true ->
 eqT m.size m.size (
 q00 Tryz.prog q3v [Sl.v f_5] m1_9 fun r_7 m1_10 =>
 Sam [m1.size, m.size] m1_9 m1_10 /\
 ∃ r63 : Bool, r_7 = vb r63 /\
 R (vb r63) m1_10)) /\
 (r58 = false ->
 R (vb false) m1_9)) /\
 (r55 = false ->
 R (vb false) m1_8)))) /\
 ((i_0 == 24) = false ->
 ((i_0 == 23) = true ->
 q00 Tryz.prog q3v [Sl.v own] m1_4 fun r_8 m1_11 =>
 Sam [m1.size, m.size] m1_4 m1_11 /\
 ∃ r68 : Bool, r_8 = vb r68 /\
 (r68 = true ->
 eqT m.size m.size (
 q00 Tryz.prog q3v [Sl.v f_5] m1_11 fun r_9 m1_12 =>
 Sam [m1.size, m.size] m1_11 m1_12 /\
 ∃ r72 : Bool, r_9 = vb r72 /\
 (r72 = true ->
 ∃ v79 : Sl, gcell m1_12 m0.1 (m0.2 + 2 + 6) = some (Sl.v v79) /\
 ((decide ((v79.len : Int) > 1)) = true ->
 R (vb true) m1_12) /\
 ((decide ((v79.len : Int) > 1)) = false ->
 eqT m.size m.size (
 eqT m1.size m1.size (
 (0 : Int) <= (0 : Int) /\ 0 < (i_4.len : Int) /\
 ∃ v88 : Int, gcell m1_12 i_4.blk (i_4.off + Int.toNat 0 * 1) = some (vi v88) /\
 0 <= v88 /\ v88 < (f_3.len : Int) /\
 ∃ v90 : Int, gcell m1_12 f_3.blk (f_3.off + Int.toNat v88 * 1) = some (vi v90) /\
 q00 Tryz.prog q1h [vi v90] m1_12 fun r_10 m1_13 =>
 Sam [m1.size, m.size] m1_12 m1_13 /\
 ∃ r91 : Bool, r_10 = vb r91 /\
 R (vb (!r91)) m1_13)))) /\
 (r72 = false ->
 R (vb false) m1_12))) /\
 (r68 = false ->
 R (vb false) m1_11)) /\
 ((i_0 == 23) = false ->
 ((i_0 == 11) = true ->
 eqT m.size m.size (
 eqT m1.size m1.size (
 (0 : Int) <= (0 : Int) /\ 0 < (i_4.len : Int) /\
 ∃ v103 : Int, gcell m1_4 i_4.blk (i_4.off + Int.toNat 0 * 1) = some (vi v103) /\
 0 <= v103 /\ v103 < (f_3.len : Int) /\
 ∃ v105 : Int, gcell m1_4 f_3.blk (f_3.off + Int.toNat v103 * 1) = some (vi v105) /\
 q00 Tryz.prog q44 [vp m0.1 m0.2, vi v105] m1_4 fun r_11 m1_14 =>
 Sam [m1.size, m.size] m1_4 m1_14 /\
 ∃ r106 : Bool, r_11 = vb r106 /\
 R (vb r106) m1_14))) /\
 ((i_0 == 11) = false ->
 ((i_0 == 14) = true ->
 eqT m.size m.size (
 eqT m1.size m1.size (
 (0 : Int) <= (0 : Int) /\ 0 < (i_4.len : Int) /\
 ∃ v114 : Int, gcell m1_4 i_4.blk (i_4.off + Int.toNat 0 * 1) = some (vi v114) /\
 0 <= v114 /\ v114 < (f_3.len : Int) /\
 ∃ v116 : Int, gcell m1_4 f_3.blk (f_3.off + Int.toNat v114 * 1) = some (vi v116) /\
 ∃ v121 : Sl, gcell m1_4 m0.1 (m0.2 + 2 + 5) = some (Sl.v v121) /\
 q00 Tryz.prog q2t [Sl.v v121, vi v116] m1_4 fun r_12 m1_15 =>
 Sam [m1.size, m.size] m1_4 m1_15 /\
 ∃ r123 : Bool, r_12 = vb r123 /\
 (r123 = true ->
 q00 Tryz.prog q0w [vp m0.1 m0.2, vi v116] m1_15 fun r_13 m1_16 =>
 Sam [m1.size, m.size] m1_15 m1_16 /\
 ∃ r_0 : Int, ∃ r_1_1 : Int, ∃ r_2_1 : Sl, r_13 = .agg #[vi r_0, vi r_1_1, Sl.v r_2_1] /\
 R (vb (decide (r_0 < 999999))) m1_16) /\
 (r123 = false ->
 R (vb false) m1_15)))) /\
 ((i_0 == 14) = false ->
 ((i_0 == 15) = true ->
 eqT m.size m.size (
 eqT m1.size m1.size (
 (0 : Int) <= (0 : Int) /\ 0 < (i_4.len : Int) /\
 ∃ v138 : Int, gcell m1_4 i_4.blk (i_4.off + Int.toNat 0 * 1) = some (vi v138) /\
 0 <= v138 /\ v138 < (f_3.len : Int) /\
 ∃ v140 : Int, gcell m1_4 f_3.blk (f_3.off + Int.toNat v138 * 1) = some (vi v140) /\
 q00 Tryz.prog q1h [vi v140] m1_4 fun r_14 m1_17 =>
 Sam [m1.size, m.size] m1_4 m1_17 /\
 ∃ r141 : Bool, r_14 = vb r141 /\
 R (vb r141) m1_17))) /\
 ((i_0 == 15) = false ->
 (((i_0 == 16) || (i_0 == 17)) = true ->
 eqT m.size m.size (
 eqT m1.size m1.size (
 q00 Tryz.prog q4h [vp m0.1 m0.2, .agg #[vi f_0, vi f_1, vi f_2, Sl.v f_3, Sl.v f_4, Sl.v f_5], .agg #[vi i_0, vi i_1, vi i_2, vi i_3, Sl.v i_4, Sl.v i_5]] m1_4 fun r_15 m1_18 =>
 Sam [m1.size, m.size] m1_4 m1_18 /\
 ∃ r148 : Bool, r_15 = vb r148 /\
 R (vb r148) m1_18))) /\
 (((i_0 == 16) || (i_0 == 17)) = false ->
 ((i_0 == 19) = true ->
 ∃ v155 : Sl, gcell m1_4 m0.1 (m0.2 + 2 + 5) = some (Sl.v v155) /\
 eqT m.size m.size (
 eqT m1.size m1.size (
 (0 : Int) <= (0 : Int) /\ 0 < (i_4.len : Int) /\
 ∃ v161 : Int, gcell m1_4 i_4.blk (i_4.off + Int.toNat 0 * 1) = some (vi v161) /\
 0 <= v161 /\ v161 < (f_3.len : Int) /\
 ∃ v163 : Int, gcell m1_4 f_3.blk (f_3.off + Int.toNat v161 * 1) = some (vi v163) /\
 q00 Tryz.prog q2t [Sl.v v155, vi v163] m1_4 fun r_16 m1_19 =>
 Sam [m1.size, m.size] m1_4 m1_19 /\
 ∃ r164 : Bool, r_16 = vb r164 /\
 (r164 = true ->
 eqT m1.size m1.size (
 eqT m.size m.size (
 eqT m1.size m1.size (
 (0 : Int) <= (0 : Int) /\ 0 < (i_4.len : Int) /\
 ∃ v174 : Int, gcell m1_19 i_4.blk (i_4.off + Int.toNat 0 * 1) = some (vi v174) /\
 0 <= v174 /\ v174 < (f_3.len : Int) /\
 ∃ v176 : Int, gcell m1_19 f_3.blk (f_3.off + Int.toNat v174 * 1) = some (vi v176) /\
 q00 Tryz.prog q0w [vp m0.1 m0.2, vi v176] m1_19 fun r_17 m1_20 =>
 Sam [m1.size, m.size] m1_19 m1_20 /\
 ∃ r_0_1 : Int, ∃ r_1_2 : Int, ∃ r_2_2 : Sl, r_17 = .agg #[vi r_0_1, vi r_1_2, Sl.v r_2_2] /\
 gcell m1_20 m1.size 2 = gcell m1_19 m1.size 2 /\
 R (vb (decide (i_2 < (r_2_2.len : Int)))) m1_20)))) /\
 (r164 = false ->
 R (vb false) m1_19)))) /\
 ((i_0 == 19) = false ->
 ((i_0 == 21) = true ->
 ∃ v188 : Sl, gcell m1_4 m0.1 (m0.2 + 2 + 5) = some (Sl.v v188) /\
 eqT m.size m.size (
 eqT m1.size m1.size (
 (0 : Int) <= (0 : Int) /\ 0 < (i_4.len : Int) /\
 ∃ v194 : Int, gcell m1_4 i_4.blk (i_4.off + Int.toNat 0 * 1) = some (vi v194) /\
 0 <= v194 /\ v194 < (f_3.len : Int) /\
 ∃ v196 : Int, gcell m1_4 f_3.blk (f_3.off + Int.toNat v194 * 1) = some (vi v196) /\
 q00 Tryz.prog q2t [Sl.v v188, vi v196] m1_4 fun r_18 m1_21 =>
 Sam [m1.size, m.size] m1_4 m1_21 /\
 ∃ r197 : Bool, r_18 = vb r197 /\
 (r197 = true ->
 ∃ v203 : Sl, gcell m1_21 m0.1 m0.2 = some (Sl.v v203) /\
 eqT m1.size m1.size (
 eqT m.size m.size (
 eqT m1.size m1.size (
 (0 : Int) <= (0 : Int) /\ 0 < (i_4.len : Int) /\
 ∃ v213 : Int, gcell m1_21 i_4.blk (i_4.off + Int.toNat 0 * 1) = some (vi v213) /\
 0 <= v213 /\ v213 < (f_3.len : Int) /\
 ∃ v215 : Int, gcell m1_21 f_3.blk (f_3.off + Int.toNat v213 * 1) = some (vi v215) /\
 q00 Tryz.prog q7k [Sl.v v203, vi i_2] m1_21 fun r_19 m1_22 =>
 Sam [m1.size, m.size] m1_21 m1_22 /\
 ∃ r206 : Sl, r_19 = Sl.v r206 /\
 gcell m1_22 f_3.blk (f_3.off + Int.toNat v213 * 1) = gcell m1_21 f_3.blk (f_3.off + Int.toNat v213 * 1) /\
 gcell m1_22 i_4.blk (i_4.off + Int.toNat 0 * 1) = gcell m1_21 i_4.blk (i_4.off + Int.toNat 0 * 1) /\
 gcell m1_22 m1.size 4 = gcell m1_21 m1.size 4 /\
 gcell m1_22 m.size 3 = gcell m1_21 m.size 3 /\
 q00 Tryz.prog q0w [vp m0.1 m0.2, vi v215] m1_22 fun r_20 m1_23 =>
 Sam [m1.size, m.size] m1_22 m1_23 /\
 ∃ r_0_2 : Int, ∃ r_1_3 : Int, ∃ r_2_3 : Sl, r_20 = .agg #[vi r_0_2, vi r_1_3, Sl.v r_2_3] /\
 q00 Tryz.prog q5d [Sl.v r206, vi r_1_3] m1_23 fun r_21 m1_24 =>
 Sam [m1.size, m.size] m1_23 m1_24 /\
 ∃ r218 : Bool, r_21 = vb r218 /\
 R (vb r218) m1_24)))) /\
 (r197 = false ->
 R (vb false) m1_21)))) /\
 ((i_0 == 21) = false ->
 R (vb true) m1_4)))))))))))))
theorem qc7 (m0 : Nat × Nat) (f_0 f_1 f_2 : Int) (f_3 f_4 f_5 : Sl) (i_0 i_1 i_2 i_3 : Int) (i_4 i_5 own : Sl) (m : Mem) (R : Value -> Mem -> Prop) (hvc : q78 m0 f_0 f_1 f_2 f_3 f_4 f_5 i_0 i_1 i_2 i_3 i_4 i_5 own m R) : q00 Tryz.prog q3c [vp m0.1 m0.2, .agg #[vi f_0, vi f_1, vi f_2, Sl.v f_3, Sl.v f_4, Sl.v f_5], .agg #[vi i_0, vi i_1, vi i_2, vi i_3, Sl.v i_4, Sl.v i_5], Sl.v own] m R :=
 vcs (A := ⟨[(18, [0, 1, 2, 4, 12, 20, 36, 96, 128, 384, 640, 1152, 2176, 4224, 8320, 16512, 32768, 98304, 32768, 294912, 557056, 1081344, 2260992, 4227072, 8421376, 16809984, 33587328, 67108992, 268435455], [0, 1, 3, 7, 15, 31, 63, 127, 255, 511, 1023, 2047, 4095, 8191, 16383, 32767, 65535, 131071, 65535, 327679, 851967, 1900543, 4194303, 8388607, 16777215, 33554431, 67108863, 134217727, 268435455]), (20, [0, 0, 2, 0, 8, 16, 32, 68, 128, 257, 1023], [0, 0, 2, 0, 8, 24, 56, 126, 254, 511, 1023]), (22, [0, 1, 0, 4, 8, 16, 34, 64, 255], [0, 1, 0, 4, 12, 28, 63, 127, 255]), (25, [0, 1, 0, 4, 8, 16, 34, 64, 128, 511], [0, 1, 0, 4, 12, 28, 63, 127, 255, 511]), (30, [0, 1, 2, 4, 8, 0, 32, 0, 128, 256, 512, 1088, 2048, 4112, 8192, 16384, 49152, 16384, 16384, 278528, 16384, 1064960, 2113536, 4210688, 8929280, 16793600, 33701888, 67125248, 134234112, 268517376, 536887296, 2147483647], [0, 1, 3, 7, 15, 0, 32, 0, 128, 384, 896, 2016, 4064, 8191, 16383, 32767, 65535, 32767, 32767, 294911, 32767, 1081343, 3178495, 7372799, 16547839, 33325055, 67010559, 134119423, 268337151, 536870911, 1073741823, 2147483647]), (32, [0, 1, 2, 4, 8, 0, 32, 0, 128, 256, 512, 1088, 2048, 4112, 8192, 16384, 49152, 81920, 147456, 278528, 16384, 1064960, 2637824, 16384, 16384, 16793600, 16384, 67125248, 134234112, 268451840, 570441728, 1073758208, 2160082944, 4294983680, 12889112576, 17179885568, 68719476735], [0, 1, 3, 7, 15, 0, 32, 0, 128, 384, 896, 2016, 4064, 8191, 16383, 32767, 65535, 131071, 262143, 524287, 32767, 1081343, 4194303, 32767, 32767, 16809983, 32767, 67141631, 201359359, 469794815, 1056997375, 2130739199, 4294967295, 8589934591, 17179869183, 34359738367, 68719476735])], [], [(3, [])], [(3, [226, 225])]⟩) (n := 220) (rs := [.tmp 8]) (args := [.c (.p m0.1 m0.2), .agg [.i f_0, .i f_1, .i f_2, .s f_3, .s f_4, .s f_5], .agg [.i i_0, .i i_1, .i i_2, .i i_3, .s i_4, .s i_5], .c (.s own)]) (c := q05 Tryz.f100) Tryz.func100 hvc
def q6o (m0 : Nat × Nat) (f_0 f_1 f_2 : Int) (f_3 f_4 f_5 : Sl) (i_0 i_1 i_2 i_3 : Int) (i_4 i_5 : Sl) (m : Mem) (R : Value -> Mem -> Prop) : Prop :=
 let m1 : Mem := m.push (.cells (vals [.i f_0, .i f_1, .i f_2, .s f_3, .s f_4, .s f_5]) 84)
 let m1_1 : Mem := m1.push (.cells (vals [.i i_0, .i i_1, .i i_2, .i i_3, .s i_4, .s i_5]) 86)
 eqT m1.size m1.size (
 ((i_0 == 0) = true ->
 eqT m1.size m1.size (
 eqT m1.size m1.size (
 q00 Tryz.prog q1q [vp m0.1 m0.2, vi i_1, vi i_2] m1_1 fun r m1_2 =>
 Sam [m1.size, m.size] m1_1 m1_2 /\
 R (.tuple #[]) m1_2))) /\
 ((i_0 == 0) = false ->
 (((i_0 == 1) || ((i_0 == 2) || ((i_0 == 3) || (i_0 == 4)))) = true ->
 eqT m1.size m1.size (
 eqT m1.size m1.size (
 eqT m.size m.size (
 eqT m1.size m1.size (
 (0 : Int) <= (0 : Int) /\ 0 < (i_4.len : Int) /\
 ∃ v32 : Int, gcell m1_1 i_4.blk (i_4.off + Int.toNat 0 * 1) = some (vi v32) /\
 0 <= v32 /\ v32 < (f_3.len : Int) /\
 ∃ v34 : Int, gcell m1_1 f_3.blk (f_3.off + Int.toNat v32 * 1) = some (vi v34) /\
 eqT m.size m.size (
 eqT m1.size m1.size (
 (0 : Int) <= (1 : Int) /\ 1 < (i_4.len : Int) /\
 ∃ v40 : Int, gcell m1_1 i_4.blk (i_4.off + Int.toNat 1 * 1) = some (vi v40) /\
 0 <= v40 /\ v40 < (f_3.len : Int) /\
 ∃ v42 : Int, gcell m1_1 f_3.blk (f_3.off + Int.toNat v40 * 1) = some (vi v42) /\
 q00 Tryz.prog qf6 [vi i_0, vi v34, vi v42] m1_1 fun r_1 m1_3 =>
 Sam [m1.size, m.size] m1_1 m1_3 /\
 ∃ r43 : Int, r_1 = vi r43 /\
 gcell m1_3 m1.size 1 = gcell m1_1 m1.size 1 /\
 q00 Tryz.prog q1q [vp m0.1 m0.2, vi i_1, vi r43] m1_3 fun r_2 m1_4 =>
 Sam [m1.size, m.size] m1_3 m1_4 /\
 R (.tuple #[]) m1_4))))))) /\
 (((i_0 == 1) || ((i_0 == 2) || ((i_0 == 3) || (i_0 == 4)))) = false ->
 ((i_0 == 5) = true ->
 ∃ v52 : Sl, gcell m1_1 m0.1 (m0.2 + 2 + 4) = some (Sl.v v52) /\
 eqT m.size m.size (
 eqT m1.size m1.size (
 (0 : Int) <= (0 : Int) /\ 0 < (i_4.len : Int) /\
 ∃ v58 : Int, gcell m1_1 i_4.blk (i_4.off + Int.toNat 0 * 1) = some (vi v58) /\
 0 <= v58 /\ v58 < (f_3.len : Int) /\
 ∃ v60 : Int, gcell m1_1 f_3.blk (f_3.off + Int.toNat v58 * 1) = some (vi v60) /\
 let m1_5 : Mem := m1_1.push (.cells (vals [.i v60]) 3)
 gcell m1_5 m0.1 (m0.2 + 2 + 4) = gcell m1_1 m0.1 (m0.2 + 2 + 4) /\
 appC m1_5 3 [.i 0] 8 v52 (Sl.mk m1_1.size 0 1 1) fun r62 m1_6 =>
 Sam [m1.size, m.size] m1_5 m1_6 /\
 wrOk m1_6 m0.1 (m0.2 + 2 + 4) 1 /\
 let m1_7 : Mem := scells m1_6 m0.1 (m0.2 + 2 + 4) [.s r62]
 Sam [m1.size, m.size] m1_6 m1_7 /\
 eqT m1.size m1.size (
 eqT m.size m.size (
 eqT m1.size m1.size (
 (0 : Int) <= (0 : Int) /\ 0 < (i_4.len : Int) /\
 ∃ v74 : Int, gcell m1_7 i_4.blk (i_4.off + Int.toNat 0 * 1) = some (vi v74) /\
 0 <= v74 /\ v74 < (f_3.len : Int) /\
 ∃ v76 : Int, gcell m1_7 f_3.blk (f_3.off + Int.toNat v74 * 1) = some (vi v76) /\
 q00 Tryz.prog q1q [vp m0.1 m0.2, vi i_1, vi v76] m1_7 fun r_3 m1_8 =>
 Sam [m1.size, m.size] m1_7 m1_8 /\
 R (.tuple #[]) m1_8)))))) /\
 ((i_0 == 5) = false ->
 ((i_0 == 6) = true ->
 eqT m.size m.size (
 eqT m1.size m1.size (
 eqT m1.size m1.size (
 q00 Tryz.prog q2n [vp m0.1 m0.2, .agg #[vi f_0, vi f_1, vi f_2, Sl.v f_3, Sl.v f_4, Sl.v f_5], .agg #[vi i_0, vi i_1, vi i_2, vi i_3, Sl.v i_4, Sl.v i_5], vi i_2] m1_1 fun r_4 m1_9 =>
 Sam [m1.size, m.size] m1_1 m1_9 /\
 R (.tuple #[]) m1_9)))) /\
 ((i_0 == 6) = false ->
 ((i_0 == 10) = true ->
 eqT m.size m.size (
 eqT m1.size m1.size (
 ∃ v95 : Sl, gcell m1_1 m0.1 m0.2 = some (Sl.v v95) /\
 eqT m1.size m1.size (
 q00 Tryz.prog q48 [Sl.v v95] m1_1 fun r_5 m1_10 =>
 Sam [m1.size, m.size] m1_1 m1_10 /\
 ∃ r96 : Int, r_5 = vi r96 /\
 gcell m1_10 m1.size 2 = gcell m1_1 m1.size 2 /\
 gcell m1_10 m1.size 0 = gcell m1_1 m1.size 0 /\
 gcell m1_10 m1.size 1 = gcell m1_1 m1.size 1 /\
 gcell m1_10 m1.size 2 = gcell m1_1 m1.size 2 /\
 gcell m1_10 m1.size 3 = gcell m1_1 m1.size 3 /\
 gcell m1_10 m1.size 4 = gcell m1_1 m1.size 4 /\
 gcell m1_10 m1.size 5 = gcell m1_1 m1.size 5 /\
 gcell m1_10 m.size 0 = gcell m1_1 m.size 0 /\
 gcell m1_10 m.size 1 = gcell m1_1 m.size 1 /\
 gcell m1_10 m.size 2 = gcell m1_1 m.size 2 /\
 gcell m1_10 m.size 3 = gcell m1_1 m.size 3 /\
 gcell m1_10 m.size 4 = gcell m1_1 m.size 4 /\
 gcell m1_10 m.size 5 = gcell m1_1 m.size 5 /\
 q00 Tryz.prog q2n [vp m0.1 m0.2, .agg #[vi f_0, vi f_1, vi f_2, Sl.v f_3, Sl.v f_4, Sl.v f_5], .agg #[vi i_0, vi i_1, vi i_2, vi i_3, Sl.v i_4, Sl.v i_5], vi (w64 (r96 + i_2))] m1_10 fun r_6 m1_11 =>
 Sam [m1.size, m.size] m1_10 m1_11 /\
 R (.tuple #[]) m1_11)))) /\
 ((i_0 == 10) = false ->
 (((i_0 == 9) || ((i_0 == 11) || (i_0 == 24))) = true ->
 eqT m.size m.size (
 eqT m1.size m1.size (
 q00 Tryz.prog q4x [vp m0.1 m0.2, .agg #[vi f_0, vi f_1, vi f_2, Sl.v f_3, Sl.v f_4, Sl.v f_5], .agg #[vi i_0, vi i_1, vi i_2, vi i_3, Sl.v i_4, Sl.v i_5]] m1_1 fun r_7 m1_12 =>
 Sam [m1.size, m.size] m1_1 m1_12 /\
 R (.tuple #[]) m1_12))) /\
 (((i_0 == 9) || ((i_0 == 11) || (i_0 == 24))) = false ->
 ((i_0 == 23) = true ->
 eqT m.size m.size (
 eqT m.size m.size (
 eqT m1.size m1.size (
 (0 : Int) <= (0 : Int) /\ 0 < (i_4.len : Int) /\
 ∃ v118 : Int, gcell m1_1 i_4.blk (i_4.off + Int.toNat 0 * 1) = some (vi v118) /\
 0 <= v118 /\ v118 < (f_3.len : Int) /\
 ∃ v120 : Int, gcell m1_1 f_3.blk (f_3.off + Int.toNat v118 * 1) = some (vi v120) /\
 q00 Tryz.prog q4y [vp m0.1 m0.2, .agg #[vi f_0, vi f_1, vi f_2, Sl.v f_3, Sl.v f_4, Sl.v f_5], vi v120] m1_1 fun r_8 m1_13 =>
 Sam [m1.size, m.size] m1_1 m1_13 /\
 R (.tuple #[]) m1_13)))) /\
 ((i_0 == 23) = false ->
 ((i_0 == 14) = true ->
 eqT m.size m.size (
 eqT m1.size m1.size (
 (0 : Int) <= (0 : Int) /\ 0 < (i_4.len : Int) /\
 ∃ v130 : Int, gcell m1_1 i_4.blk (i_4.off + Int.toNat 0 * 1) = some (vi v130) /\
 0 <= v130 /\ v130 < (f_3.len : Int) /\
 ∃ v132 : Int, gcell m1_1 f_3.blk (f_3.off + Int.toNat v130 * 1) = some (vi v132) /\
 let m1_14 : Mem := m1_1.push (.cells (vals [.i v132]) 3)
 q00 Tryz.prog q3p [vp m0.1 m0.2, Sl.v (Sl.mk m1_1.size 0 1 1)] m1_14 fun r_9 m1_15 =>
 Sam [m1.size, m.size] m1_14 m1_15 /\
 eqT m.size m.size (
 eqT m1.size m1.size (
 (0 : Int) <= (0 : Int) /\ 0 < (i_4.len : Int) /\
 ∃ v140 : Int, gcell m1_15 i_4.blk (i_4.off + Int.toNat 0 * 1) = some (vi v140) /\
 eqT m.size m.size (
 eqT m1.size m1.size (
 (0 : Int) <= (0 : Int) /\ 0 < (i_4.len : Int) /\
 ∃ v146 : Int, gcell m1_15 i_4.blk (i_4.off + Int.toNat 0 * 1) = some (vi v146) /\
 0 <= v146 /\ v146 < (f_4.len : Int) /\
 ∃ v148 : Int, gcell m1_15 f_4.blk (f_4.off + Int.toNat v146 * 1) = some (vi v148) /\
 0 <= v140 /\ v140 < (f_4.len : Int) /\
 wrOk m1_15 f_4.blk (f_4.off + Int.toNat v140 * 1) 1 /\
 let m1_16 : Mem := scells m1_15 f_4.blk (f_4.off + Int.toNat v140 * 1) [.i (w64 (v148 + 1))]
 Sam [m1.size, m.size] m1_15 m1_16 /\
 eqT m.size m.size (
 q00 Tryz.prog q0m [vp m0.1 m0.2, vi (w64 (f_1 + 1))] m1_16 fun r_10 m1_17 =>
 Sam [m1.size, m.size] m1_16 m1_17 /\
 R (.tuple #[]) m1_17)))))))) /\
 ((i_0 == 14) = false ->
 ((i_0 == 15) = true ->
 ∃ v163 : Sl, gcell m1_1 m0.1 (m0.2 + 2 + 5) = some (Sl.v v163) /\
 eqT m.size m.size (
 eqT m1.size m1.size (
 (0 : Int) <= (0 : Int) /\ 0 < (i_4.len : Int) /\
 ∃ v169 : Int, gcell m1_1 i_4.blk (i_4.off + Int.toNat 0 * 1) = some (vi v169) /\
 0 <= v169 /\ v169 < (f_3.len : Int) /\
 ∃ v171 : Int, gcell m1_1 f_3.blk (f_3.off + Int.toNat v169 * 1) = some (vi v171) /\
 let m1_18 : Mem := m1_1.push (.cells (vals [.i v171]) 3)
 gcell m1_18 m0.1 (m0.2 + 2 + 5) = gcell m1_1 m0.1 (m0.2 + 2 + 5) /\
 q00 Tryz.prog q80 [Sl.v v163, Sl.v (Sl.mk m1_1.size 0 1 1)] m1_18 fun r_11 m1_19 =>
 Sam [m1.size, m.size] m1_18 m1_19 /\
 ∃ r173 : Sl, r_11 = Sl.v r173 /\
 wrOk m1_19 m0.1 (m0.2 + 2 + 5) 1 /\
 let m1_20 : Mem := scells m1_19 m0.1 (m0.2 + 2 + 5) [.s r173]
 Sam [m1.size, m.size] m1_19 m1_20 /\
 eqT m.size m.size (
 q00 Tryz.prog q0m [vp m0.1 m0.2, vi (w64 (f_1 + 1))] m1_20 fun r_12 m1_21 =>
 Sam [m1.size, m.size] m1_20 m1_21 /\
 R (.tuple #[]) m1_21)))) /\
 ((i_0 == 15) = false ->
 (((i_0 == 16) || (i_0 == 17)) = true ->
 eqT m.size m.size (
 eqT m1.size m1.size (
 q00 Tryz.prog q43 [vp m0.1 m0.2, .agg #[vi f_0, vi f_1, vi f_2, Sl.v f_3, Sl.v f_4, Sl.v f_5], .agg #[vi i_0, vi i_1, vi i_2, vi i_3, Sl.v i_4, Sl.v i_5]] m1_1 fun r_13 m1_22 =>
 Sam [m1.size, m.size] m1_1 m1_22 /\
 R (.tuple #[]) m1_22))) /\
 (((i_0 == 16) || (i_0 == 17)) = false ->
 ((i_0 == 18) = true ->
 eqT m1.size m1.size (
 eqT m.size m.size (
 eqT m1.size m1.size (
 (0 : Int) <= (0 : Int) /\ 0 < (i_4.len : Int) /\
 ∃ v199 : Int, gcell m1_1 i_4.blk (i_4.off + Int.toNat 0 * 1) = some (vi v199) /\
 0 <= v199 /\ v199 < (f_3.len : Int) /\
 ∃ v201 : Int, gcell m1_1 f_3.blk (f_3.off + Int.toNat v199 * 1) = some (vi v201) /\
 q00 Tryz.prog q2l [vp m0.1 m0.2, vi i_1, vi v201] m1_1 fun r_14 m1_23 =>
 Sam [m1.size, m.size] m1_1 m1_23 /\
 eqT m.size m.size (
 q00 Tryz.prog q0m [vp m0.1 m0.2, vi (w64 (f_1 + 1))] m1_23 fun r_15 m1_24 =>
 Sam [m1.size, m.size] m1_23 m1_24 /\
 R (.tuple #[]) m1_24))))) /\
 ((i_0 == 18) = false ->
 ((i_0 == 19) = true ->
 eqT m1.size m1.size (
 eqT m.size m.size (
 eqT m1.size m1.size (
 (0 : Int) <= (0 : Int) /\ 0 < (i_4.len : Int) /\
 ∃ v219 : Int, gcell m1_1 i_4.blk (i_4.off + Int.toNat 0 * 1) = some (vi v219) /\
 0 <= v219 /\ v219 < (f_3.len : Int) /\
 ∃ v221 : Int, gcell m1_1 f_3.blk (f_3.off + Int.toNat v219 * 1) = some (vi v221) /\
 eqT m1.size m1.size (
 q00 Tryz.prog q0w [vp m0.1 m0.2, vi v221] m1_1 fun r_16 m1_25 =>
 Sam [m1.size, m.size] m1_1 m1_25 /\
 ∃ r_0 : Int, ∃ r_1_1 : Int, ∃ r_2_1 : Sl, r_16 = .agg #[vi r_0, vi r_1_1, Sl.v r_2_1] /\
 gcell m1_25 m1.size 2 = gcell m1_1 m1.size 2 /\
 gcell m1_25 m1.size 1 = gcell m1_1 m1.size 1 /\
 0 <= i_2 /\ i_2 < (r_2_1.len : Int) /\
 ∃ v227 : Int, gcell m1_25 r_2_1.blk (r_2_1.off + Int.toNat i_2 * 1) = some (vi v227) /\
 q00 Tryz.prog q1q [vp m0.1 m0.2, vi i_1, vi v227] m1_25 fun r_17 m1_26 =>
 Sam [m1.size, m.size] m1_25 m1_26 /\
 R (.tuple #[]) m1_26))))) /\
 ((i_0 == 19) = false ->
 ((i_0 == 20) = true ->
 eqT m.size m.size (
 eqT m1.size m1.size (
 (0 : Int) <= (0 : Int) /\ 0 < (i_4.len : Int) /\
 ∃ v236 : Int, gcell m1_1 i_4.blk (i_4.off + Int.toNat 0 * 1) = some (vi v236) /\
 0 <= v236 /\ v236 < (f_3.len : Int) /\
 ∃ v238 : Int, gcell m1_1 f_3.blk (f_3.off + Int.toNat v236 * 1) = some (vi v238) /\
 ((v238 == 0) = true ->
 eqT m1.size m1.size (
 q00 Tryz.prog q0m [vp m0.1 m0.2, vi i_2] m1_1 fun r_18 m1_27 =>
 Sam [m1.size, m.size] m1_1 m1_27 /\
 R (.tuple #[]) m1_27)) /\
 ((v238 == 0) = false ->
 eqT m.size m.size (
 q00 Tryz.prog q0m [vp m0.1 m0.2, vi (w64 (f_1 + 1))] m1_1 fun r_19 m1_28 =>
 Sam [m1.size, m.size] m1_1 m1_28 /\
 R (.tuple #[]) m1_28))))) /\
 ((i_0 == 20) = false ->
 ((i_0 == 21) = true ->
 eqT m.size m.size (
 eqT m1.size m1.size (
 (0 : Int) <= (0 : Int) /\ 0 < (i_4.len : Int) /\
 ∃ v257 : Int, gcell m1_1 i_4.blk (i_4.off + Int.toNat 0 * 1) = some (vi v257) /\
 0 <= v257 /\ v257 < (f_3.len : Int) /\
 ∃ v259 : Int, gcell m1_1 f_3.blk (f_3.off + Int.toNat v257 * 1) = some (vi v259) /\
 q00 Tryz.prog q0w [vp m0.1 m0.2, vi v259] m1_1 fun r_20 m1_29 =>
 Sam [m1.size, m.size] m1_1 m1_29 /\
 ∃ r_0_1 : Int, ∃ r_1_2 : Int, ∃ r_2_2 : Sl, r_20 = .agg #[vi r_0_1, vi r_1_2, Sl.v r_2_2] /\
 eqT m1.size m1.size (
 ∃ v270 : Sl, gcell m1_29 m0.1 m0.2 = some (Sl.v v270) /\
 eqT m1.size m1.size (
 q00 Tryz.prog q39 [Sl.v v270, vi (w64 (i_2 - 1))] m1_29 fun r_21 m1_30 =>
 Sam [m1.size, m.size] m1_29 m1_30 /\
 ∃ r274 : Int, r_21 = vi r274 /\
 gcell m1_30 m1.size 5 = gcell m1_29 m1.size 5 /\
 0 <= (w64 (r_1_2 - r274)) /\ (w64 (r_1_2 - r274)) < (i_5.len : Int) /\
 ∃ v277 : Int, gcell m1_30 i_5.blk (i_5.off + Int.toNat (w64 (r_1_2 - r274)) * 1) = some (vi v277) /\
 q00 Tryz.prog q0m [vp m0.1 m0.2, vi v277] m1_30 fun r_22 m1_31 =>
 Sam [m1.size, m.size] m1_30 m1_31 /\
 R (.tuple #[]) m1_31))))) /\
 ((i_0 == 21) = false ->
 ((i_0 == 22) = true ->
 eqT m1.size m1.size (
 q00 Tryz.prog q0m [vp m0.1 m0.2, vi i_2] m1_1 fun r_23 m1_32 =>
 Sam [m1.size, m.size] m1_1 m1_32 /\
 R (.tuple #[]) m1_32)) /\
 ((i_0 == 22) = false ->
 R (.tuple #[]) m1_1))))))))))))))))
theorem qb6 (m0 : Nat × Nat) (f_0 f_1 f_2 : Int) (f_3 f_4 f_5 : Sl) (i_0 i_1 i_2 i_3 : Int) (i_4 i_5 : Sl) (m : Mem) (R : Value -> Mem -> Prop) (hvc : q6o m0 f_0 f_1 f_2 f_3 f_4 f_5 i_0 i_1 i_2 i_3 i_4 i_5 m R) : q00 Tryz.prog q32 [vp m0.1 m0.2, .agg #[vi f_0, vi f_1, vi f_2, Sl.v f_3, Sl.v f_4, Sl.v f_5], .agg #[vi i_0, vi i_1, vi i_2, vi i_3, Sl.v i_4, Sl.v i_5]] m R :=
 vcs (A := ⟨[(8, [0, 0, 2, 0, 8, 0, 32, 0, 128, 256, 512, 1088, 2048, 0, 8192, 0, 32768, 65536, 131072, 278528, 524288, 1052688, 2097157], [0, 0, 2, 0, 8, 0, 32, 0, 128, 384, 896, 2016, 4064, 0, 8192, 0, 32768, 98304, 229376, 516096, 1040384, 2097144, 4194303]), (10, [0, 0, 2, 4, 8, 16, 0, 64, 0, 256, 512, 1024, 2176, 4096, 8192, 16416, 65535, 131071, 196607, 327679], [0, 0, 2, 6, 14, 30, 0, 64, 0, 256, 768, 1792, 4032, 8128, 16320, 32766, 65535, 131071, 262143, 524287]), (11, [0, 0, 2, 0, 8, 0, 32, 64, 128, 272, 512, 1029], [0, 0, 2, 0, 8, 0, 32, 96, 224, 504, 1016, 2047]), (15, [0, 0, 0, 0, 8, 16, 32, 64, 128, 0, 512, 1280, 2311], [0, 0, 0, 0, 8, 24, 56, 120, 248, 0, 512, 2040, 4095]), (21, [0, 0, 0, 4, 0, 16, 32, 64, 136, 256, 515], [0, 0, 0, 4, 0, 16, 48, 112, 252, 508, 1023]), (23, [0, 0, 2, 0, 8, 16, 32, 68, 128, 256, 513], [0, 0, 2, 0, 8, 24, 56, 126, 254, 510, 1023]), (24, [0, 1, 0, 4, 8, 16, 0, 64, 0, 256, 512, 1024, 2176, 4096, 8192, 32767, 65535], [0, 1, 0, 4, 12, 28, 0, 64, 0, 256, 768, 1792, 4032, 8128, 16320, 32767, 65535]), (27, [0, 0, 2, 4, 8, 16, 0, 64, 0, 256, 512, 1024, 2176, 4096, 8192, 16416, 65535, 131071, 196607, 327679], [0, 0, 2, 6, 14, 30, 0, 64, 0, 256, 768, 1792, 4032, 8128, 16320, 32766, 65535, 131071, 262143, 524287]), (33, [0, 0, 2, 0, 8, 0, 32, 64, 128, 272, 512, 1029], [0, 0, 2, 0, 8, 0, 32, 96, 224, 504, 1016, 2047]), (36, [0, 0, 2, 0, 0, 16, 0, 64, 128, 256, 544, 1024, 2056, 4096, 0, 16384, 40960, 65536, 135173], [0, 0, 2, 0, 0, 16, 0, 64, 192, 448, 1008, 2032, 4088, 8184, 0, 16384, 65528, 131064, 262143]), (38, [0, 1, 0, 4, 8, 16, 34, 64, 128], [0, 1, 0, 4, 12, 28, 63, 127, 255]), (42, [0, 0, 2, 0, 8, 16, 32, 68, 128, 257, 512, 2047], [0, 0, 2, 0, 8, 24, 56, 126, 254, 511, 1023, 2047]), (43, [0, 0, 2, 0, 0, 16, 32, 64, 128, 0, 512, 1024, 2304, 4104, 8196, 16384, 36865], [0, 0, 2, 0, 0, 16, 48, 112, 240, 0, 512, 1536, 4080, 8184, 16382, 32766, 65535])], [], [], []⟩) (n := 285) (rs := []) (args := [.c (.p m0.1 m0.2), .agg [.i f_0, .i f_1, .i f_2, .s f_3, .s f_4, .s f_5], .agg [.i i_0, .i i_1, .i i_2, .i i_3, .s i_4, .s i_5]]) (c := q05 Tryz.f101) Tryz.func101 hvc
end
section
set_option linter.unusedVariables false
set_option maxRecDepth 100000
def q6q (s : Sl) (m : Mem) (R : Value -> Mem -> Prop) : Prop :=
 (s.isNil = true ->
 R (Sl.v Sl.nil) m) /\
 (s.isNil = false ->
 let m1 : Mem := m.push (.cells (vals []) 3)
 appC m1 3 [.i 0] 8 (Sl.mk m.size 0 0 0) s fun r7 m1_1 =>
 R (Sl.v r7) m1_1)
theorem qbb (s : Sl) (m : Mem) (R : Value -> Mem -> Prop) (hvc : q6q s m R) : q00 Tryz.prog q1x [Sl.v s] m R :=
 vcs (A := ⟨[], [], [], []⟩) (n := 8) (rs := [.tmp 2]) (args := [.c (.s s)]) (c := q05 Tryz.f105) Tryz.func105 hvc
def qfy (a : Sl) (left : Int) (m : Mem) (R : Value -> Mem -> Prop) : Prop :=
 ((decide ((w64 (left - (a.len : Int))) < 0)) = true ->
 R (vi (-1)) m) /\
 ((decide ((w64 (left - (a.len : Int))) < 0)) = false ->
 ∃ (I0 : Int -> Int -> Mem -> Prop) (μ0 : Int -> Int -> Mem -> Nat),
 I0 (w64 (left - (a.len : Int))) 0 m /\
 (∀ (left_1 : Int) (i : Int) (m1 : Mem), I0 left_1 i m1 ->
 ((decide (i < (a.len : Int))) = true ->
 0 <= i /\ i < (a.len : Int) /\
 ∃ v21 : Sl, gcell m1 a.blk (a.off + Int.toNat i * 1) = some (Sl.v v21) /\
 q00 Tryz.prog qcc [.agg #[Sl.v v21], vi left_1] m1 fun r m1_1 =>
 ∃ r23 : Int, r = vi r23 /\
 ((decide (r23 < 0)) = true ->
 R (vi (-1)) m1_1) /\
 ((decide (r23 < 0)) = false ->
 I0 r23 (w64 (i + 1)) m1_1 /\ μ0 r23 (w64 (i + 1)) m1_1 < μ0 left_1 i m1)) /\
 ((decide (i < (a.len : Int))) = false ->
 R (vi left_1) m1)))
theorem qko (a : Sl) (left : Int) (m : Mem) (R : Value -> Mem -> Prop) (hvc : qfy a left m R) : q00 Tryz.prog qbe [Sl.v a, vi left] m R :=
 vcs (A := ⟨[], [(5, [(1, .I), (5, .I)])], [], []⟩) (n := 27) (rs := [.tmp 4]) (args := [.c (.s a), .c (.i left)]) (c := q05 Tryz.f110) Tryz.func110 hvc
def qd9 (a : Sl) (left : Int) (m : Mem) (R : Value -> Mem -> Prop) : Prop :=
 ((decide ((w64 (left - (a.len : Int))) < 0)) = true ->
 R (vi (-1)) m) /\
 ((decide ((w64 (left - (a.len : Int))) < 0)) = false ->
 ∃ (I0 : Int -> Int -> Mem -> Prop) (μ0 : Int -> Int -> Mem -> Nat),
 I0 (w64 (left - (a.len : Int))) 0 m /\
 (∀ (left_1 : Int) (i : Int) (m1 : Mem), I0 left_1 i m1 ->
 ((decide (i < (a.len : Int))) = true ->
 0 <= i /\ i < (a.len : Int) /\
 ∃ v21_0 : Int, gcell m1 a.blk (a.off + Int.toNat i * 6) = some (vi v21_0) /\
 ∃ v21_1 : Int, gcell m1 a.blk (a.off + Int.toNat i * 6 + 1) = some (vi v21_1) /\
 ∃ v21_2 : Int, gcell m1 a.blk (a.off + Int.toNat i * 6 + 2) = some (vi v21_2) /\
 ∃ v21_3 : Int, gcell m1 a.blk (a.off + Int.toNat i * 6 + 3) = some (vi v21_3) /\
 ∃ v21_4 : Sl, gcell m1 a.blk (a.off + Int.toNat i * 6 + 4) = some (Sl.v v21_4) /\
 ∃ v21_5 : Sl, gcell m1 a.blk (a.off + Int.toNat i * 6 + 5) = some (Sl.v v21_5) /\
 q00 Tryz.prog qa8 [.agg #[vi v21_0, vi v21_1, vi v21_2, vi v21_3, Sl.v v21_4, Sl.v v21_5], vi left_1] m1 fun r m1_1 =>
 ∃ r23 : Int, r = vi r23 /\
 ((decide (r23 < 0)) = true ->
 R (vi (-1)) m1_1) /\
 ((decide (r23 < 0)) = false ->
 I0 r23 (w64 (i + 1)) m1_1 /\ μ0 r23 (w64 (i + 1)) m1_1 < μ0 left_1 i m1)) /\
 ((decide (i < (a.len : Int))) = false ->
 R (vi left_1) m1)))
theorem qi9 (a : Sl) (left : Int) (m : Mem) (R : Value -> Mem -> Prop) (hvc : qd9 a left m R) : q00 Tryz.prog q97 [Sl.v a, vi left] m R :=
 vcs (A := ⟨[], [(5, [(1, .I), (5, .I)])], [], []⟩) (n := 27) (rs := [.tmp 4]) (args := [.c (.s a), .c (.i left)]) (c := q05 Tryz.f111) Tryz.func111 hvc
def qk0 (decls : Sl) (m : Mem) (R : Value -> Mem -> Prop) : Prop :=
 ((decide ((decls.len : Int) > 4)) = true ->
 R (vb false) m) /\
 ((decide ((decls.len : Int) > 4)) = false ->
 ∃ (I0 : Int -> Mem -> Prop) (μ0 : Int -> Mem -> Nat),
 I0 0 m /\
 (∀ (i : Int) (m1 : Mem), I0 i m1 ->
 ((decide (i < (decls.len : Int))) = true ->
 q00 Tryz.prog q7y [Sl.v decls, vi i] m1 fun r m1_1 =>
 ∃ r15 : Bool, r = vb r15 /\
 ((!r15) = true ->
 R (vb false) m1_1) /\
 ((!r15) = false ->
 I0 (w64 (i + 1)) m1_1 /\ μ0 (w64 (i + 1)) m1_1 < μ0 i m1)) /\
 ((decide (i < (decls.len : Int))) = false ->
 R (vb true) m1)))
theorem qgi (decls : Sl) (m : Mem) (R : Value -> Mem -> Prop) (hvc : qk0 decls m R) : q00 Tryz.prog q6s [Sl.v decls] m R :=
 vcs (A := ⟨[], [(4, [(3, .I)])], [], []⟩) (n := 17) (rs := [.tmp 2]) (args := [.c (.s decls)]) (c := q05 Tryz.f112) Tryz.func112 hvc
def qm8 (decls list : Sl) (m : Mem) (R : Value -> Mem -> Prop) : Prop :=
 ∃ (I0 : Int -> Mem -> Prop) (μ0 : Int -> Mem -> Nat),
 I0 0 m /\
 (∀ (i : Int) (m1 : Mem), I0 i m1 ->
 ((decide (i < (list.len : Int))) = true ->
 0 <= i /\ i < (list.len : Int) /\
 ∃ v15 : Int, gcell m1 list.blk (list.off + Int.toNat i * 1) = some (vi v15) /\
 q00 Tryz.prog q0n [vi v15, vi 0, vi (decls.len : Int)] m1 fun r m1_1 =>
 ∃ r18 : Bool, r = vb r18 /\
 ((!r18) = true ->
 R (vb false) m1_1) /\
 ((!r18) = false ->
 I0 (w64 (i + 1)) m1_1 /\ μ0 (w64 (i + 1)) m1_1 < μ0 i m1)) /\
 ((decide (i < (list.len : Int))) = false ->
 R (vb true) m1))
theorem qif (decls list : Sl) (m : Mem) (R : Value -> Mem -> Prop) (hvc : qm8 decls list m R) : q00 Tryz.prog q5q [Sl.v decls, Sl.v list] m R :=
 vcs (A := ⟨[], [(2, [(5, .I)])], [], []⟩) (n := 20) (rs := [.tmp 4]) (args := [.c (.s decls), .c (.s list)]) (c := q05 Tryz.f113) Tryz.func113 hvc
def qbw (params lent : Sl) (m : Mem) (R : Value -> Mem -> Prop) : Prop :=
 ∃ (I0 : Int -> Mem -> Prop) (μ0 : Int -> Mem -> Nat),
 I0 0 m /\
 (∀ (i : Int) (m1 : Mem), I0 i m1 ->
 ((decide (i < (lent.len : Int))) = true ->
 0 <= i /\ i < (lent.len : Int) /\
 ∃ v15 : Int, gcell m1 lent.blk (lent.off + Int.toNat i * 1) = some (vi v15) /\
 q00 Tryz.prog q0n [vi v15, vi 0, vi (w64 ((params.len : Int) - 1))] m1 fun r m1_1 =>
 ∃ r19 : Bool, r = vb r19 /\
 ((!r19) = true ->
 R (vb false) m1_1) /\
 ((!r19) = false ->
 0 <= i /\ i < (lent.len : Int) /\
 ∃ v26 : Int, gcell m1_1 lent.blk (lent.off + Int.toNat i * 1) = some (vi v26) /\
 0 <= v26 /\ v26 < (params.len : Int) /\
 ∃ v28 : Int, gcell m1_1 params.blk (params.off + Int.toNat v26 * 1) = some (vi v28) /\
 ((v28 == 0) = true ->
 R (vb false) m1_1) /\
 ((v28 == 0) = false ->
 ((decide (i > 0)) = true ->
 0 <= i /\ i < (lent.len : Int) /\
 ∃ v38 : Int, gcell m1_1 lent.blk (lent.off + Int.toNat i * 1) = some (vi v38) /\
 0 <= (w64 (i - 1)) /\ (w64 (i - 1)) < (lent.len : Int) /\
 ∃ v43 : Int, gcell m1_1 lent.blk (lent.off + Int.toNat (w64 (i - 1)) * 1) = some (vi v43) /\
 ((decide (v38 <= v43)) = true ->
 R (vb false) m1_1) /\
 ((decide (v38 <= v43)) = false ->
 I0 (w64 (i + 1)) m1_1 /\ μ0 (w64 (i + 1)) m1_1 < μ0 i m1)) /\
 ((decide (i > 0)) = false ->
 I0 (w64 (i + 1)) m1_1 /\ μ0 (w64 (i + 1)) m1_1 < μ0 i m1)))) /\
 ((decide (i < (lent.len : Int))) = false ->
 R (vb true) m1))
theorem qhl (params lent : Sl) (m : Mem) (R : Value -> Mem -> Prop) (hvc : qbw params lent m R) : q00 Tryz.prog q7o [Sl.v params, Sl.v lent] m R :=
 vcs (A := ⟨[(4, [0, 0, 3, 4, 0, 16, 32, 72, 128, 384, 512, 512, 512, 6656, 8704, 17920, 33280, 66048, 131584, 262656, 524288, 1572864, 2621440, 4194304, 4194304, 29360128, 37748736, 4194304, 4194304, 272629760, 675282944, 1077936128, 2218786816, 4299685888, 8590458880], [0, 0, 3, 7, 0, 16, 48, 127, 255, 511, 1023, 1023, 1023, 7167, 15359, 32767, 65535, 131071, 262143, 524287, 1048575, 2097151, 4194303, 8388607, 8388607, 33554431, 67108863, 8388607, 8388607, 276824063, 947912703, 2021654527, 4294967295, 8589934591, 17179869183])], [(2, [(5, .I)])], [], []⟩) (n := 47) (rs := [.tmp 4]) (args := [.c (.s params), .c (.s lent)]) (c := q05 Tryz.f114) Tryz.func114 hvc
end
section
set_option linter.unusedVariables false
set_option maxRecDepth 100000
def qak (im_0 im_1 p_0 p_1 : Sl) (p_2 p_3 : Int) (p_4 : Sl) (at0 : Int) (m : Mem) (R : Value -> Mem -> Prop) : Prop :=
 let m1 : Mem := m.push (.cells (vals [.s im_0, .s im_1]) 35)
 let m1_1 : Mem := m1.push (.cells (vals [.s p_0, .s p_1, .i p_2, .i p_3, .s p_4]) 89)
 eqT m1.size m1.size (
 0 <= at0 /\ at0 < (p_4.len : Int) /\
 ∃ v15_0 : Int, gcell m1_1 p_4.blk (p_4.off + Int.toNat at0 * 6) = some (vi v15_0) /\
 ∃ v15_1 : Int, gcell m1_1 p_4.blk (p_4.off + Int.toNat at0 * 6 + 1) = some (vi v15_1) /\
 ∃ v15_2 : Int, gcell m1_1 p_4.blk (p_4.off + Int.toNat at0 * 6 + 2) = some (vi v15_2) /\
 ∃ v15_3 : Int, gcell m1_1 p_4.blk (p_4.off + Int.toNat at0 * 6 + 3) = some (vi v15_3) /\
 ∃ v15_4 : Sl, gcell m1_1 p_4.blk (p_4.off + Int.toNat at0 * 6 + 4) = some (Sl.v v15_4) /\
 ∃ v15_5 : Sl, gcell m1_1 p_4.blk (p_4.off + Int.toNat at0 * 6 + 5) = some (Sl.v v15_5) /\
 let m1_2 : Mem := m1_1.push (.cells (vals [.i 0, .i 0, .i 0, .i 0, .s Sl.nil, .s Sl.nil]) 86)
 eqT m1_1.size m1_1.size (
 let m1_3 : Mem := scells m1_2 m1_1.size 0 [.i v15_0, .i v15_1, .i v15_2, .i v15_3, .s v15_4, .s v15_5]
 eqT m1_1.size m1_1.size (
 ∃ (I0 : Int -> Mem -> Prop) (μ0 : Int -> Mem -> Nat),
 I0 0 m1_3 /\
 (∀ (k : Int) (m1_4 : Mem), I0 k m1_4 ->
 ((decide (k < (v15_4.len : Int))) = true ->
 eqT m1_1.size m1_1.size (
 0 <= k /\ k < (v15_4.len : Int) /\
 ∃ v28 : Int, gcell m1_4 v15_4.blk (v15_4.off + Int.toNat k * 1) = some (vi v28) /\
 eqT m1.size m1.size (
 q00 Tryz.prog q0n [vi v28, vi 0, vi (w64 (p_3 - 1))] m1_4 fun r m1_5 =>
 Sam [m1_1.size, m1.size, m.size] m1_4 m1_5 /\
 ∃ r32 : Bool, r = vb r32 /\
 ((!r32) = true ->
 R (vb false) m1_5) /\
 ((!r32) = false ->
 eqS (SV.box m1_1.size 86 [.i v15_0, .i v15_1, .i v15_2, .i v15_3, .s v15_4, .s v15_5]) (SV.box m1_1.size 86 [.i v15_0, .i v15_1, .i v15_2, .i v15_3, .s v15_4, .s v15_5]) (
 eqS (SV.box m1.size 89 [.s p_0, .s p_1, .i p_2, .i p_3, .s p_4]) (SV.box m1.size 89 [.s p_0, .s p_1, .i p_2, .i p_3, .s p_4]) (
 eqS (SV.box m.size 35 [.s im_0, .s im_1]) (SV.box m.size 35 [.s im_0, .s im_1]) (
 I0 (w64 (k + 1)) m1_5 /\ μ0 (w64 (k + 1)) m1_5 < μ0 k m1_4))))))) /\
 ((decide (k < (v15_4.len : Int))) = false ->
 ∃ K0 : Mem -> Prop,
 (eqT m1_1.size m1_1.size (
 eqT m1.size m1.size (
 q00 Tryz.prog q0n [vi v15_1, vi 0, vi (w64 (p_3 - 1))] m1_4 fun r_1 m1_6 =>
 Sam [m1_1.size, m1.size, m.size] m1_4 m1_6 /\
 ∃ r39 : Bool, r_1 = vb r39 /\
 ((!r39) = true ->
 R (vb false) m1_6) /\
 ((!r39) = false ->
 eqT m1_1.size m1_1.size (
 ((v15_1 != 0) = true ->
 eqT m1_1.size m1_1.size (
 q00 Tryz.prog qac [vi v15_0] m1_6 fun r_2 m1_7 =>
 Sam [m1_1.size, m1.size, m.size] m1_6 m1_7 /\
 ∃ r48 : Bool, r_2 = vb r48 /\
 ((!r48) = true ->
 R (vb false) m1_7) /\
 ((!r48) = false ->
 eqT m1_1.size m1_1.size (
 ((v15_3 != 0) = true ->
 eqT m1_1.size m1_1.size (
 ((v15_0 != 6) = true ->
 R (vb false) m1_7) /\
 ((v15_0 != 6) = false ->
 eqT m1_1.size m1_1.size (
 ((v15_0 != 21) = true ->
 eqT m1_1.size m1_1.size (
 ((decide ((v15_5.len : Int) > 0)) = true ->
 R (vb false) m1_7) /\
 ((decide ((v15_5.len : Int) > 0)) = false ->
 eqS (SV.box m1_1.size 86 [.i v15_0, .i v15_1, .i v15_2, .i v15_3, .s v15_4, .s v15_5]) (SV.box m1_1.size 86 [.i v15_0, .i v15_1, .i v15_2, .i v15_3, .s v15_4, .s v15_5]) (
 eqS (SV.box m1.size 89 [.s p_0, .s p_1, .i p_2, .i p_3, .s p_4]) (SV.box m1.size 89 [.s p_0, .s p_1, .i p_2, .i p_3, .s p_4]) (
 eqS (SV.box m.size 35 [.s im_0, .s im_1]) (SV.box m.size 35 [.s im_0, .s im_1]) (
 K0 m1_7)))))) /\
 ((v15_0 != 21) = false ->
 eqS (SV.box m1_1.size 86 [.i v15_0, .i v15_1, .i v15_2, .i v15_3, .s v15_4, .s v15_5]) (SV.box m1_1.size 86 [.i v15_0, .i v15_1, .i v15_2, .i v15_3, .s v15_4, .s v15_5]) (
 eqS (SV.box m1.size 89 [.s p_0, .s p_1, .i p_2, .i p_3, .s p_4]) (SV.box m1.size 89 [.s p_0, .s p_1, .i p_2, .i p_3, .s p_4]) (
 eqS (SV.box m.size 35 [.s im_0, .s im_1]) (SV.box m.size 35 [.s im_0, .s im_1]) (
 K0 m1_7)))))))) /\
 ((v15_3 != 0) = false ->
 eqT m1_1.size m1_1.size (
 ((v15_0 != 21) = true ->
 eqT m1_1.size m1_1.size (
 ((decide ((v15_5.len : Int) > 0)) = true ->
 R (vb false) m1_7) /\
 ((decide ((v15_5.len : Int) > 0)) = false ->
 eqS (SV.box m1_1.size 86 [.i v15_0, .i v15_1, .i v15_2, .i v15_3, .s v15_4, .s v15_5]) (SV.box m1_1.size 86 [.i v15_0, .i v15_1, .i v15_2, .i v15_3, .s v15_4, .s v15_5]) (
 eqS (SV.box m1.size 89 [.s p_0, .s p_1, .i p_2, .i p_3, .s p_4]) (SV.box m1.size 89 [.s p_0, .s p_1, .i p_2, .i p_3, .s p_4]) (
 eqS (SV.box m.size 35 [.s im_0, .s im_1]) (SV.box m.size 35 [.s im_0, .s im_1]) (
 K0 m1_7)))))) /\
 ((v15_0 != 21) = false ->
 eqS (SV.box m1_1.size 86 [.i v15_0, .i v15_1, .i v15_2, .i v15_3, .s v15_4, .s v15_5]) (SV.box m1_1.size 86 [.i v15_0, .i v15_1, .i v15_2, .i v15_3, .s v15_4, .s v15_5]) (
 eqS (SV.box m1.size 89 [.s p_0, .s p_1, .i p_2, .i p_3, .s p_4]) (SV.box m1.size 89 [.s p_0, .s p_1, .i p_2, .i p_3, .s p_4]) (
 eqS (SV.box m.size 35 [.s im_0, .s im_1]) (SV.box m.size 35 [.s im_0, .s im_1]) (
 K0 m1_7)))))))))) /\
 ((v15_1 != 0) = false ->
 eqT m1_1.size m1_1.size (
 ((v15_3 != 0) = true ->
 eqT m1_1.size m1_1.size (
 ((v15_0 != 6) = true ->
 R (vb false) m1_6) /\
 ((v15_0 != 6) = false ->
 eqT m1_1.size m1_1.size (
 ((v15_0 != 21) = true ->
 eqT m1_1.size m1_1.size (
 ((decide ((v15_5.len : Int) > 0)) = true ->
 R (vb false) m1_6) /\
 ((decide ((v15_5.len : Int) > 0)) = false ->
 eqS (SV.box m1_1.size 86 [.i v15_0, .i v15_1, .i v15_2, .i v15_3, .s v15_4, .s v15_5]) (SV.box m1_1.size 86 [.i v15_0, .i v15_1, .i v15_2, .i v15_3, .s v15_4, .s v15_5]) (
 eqS (SV.box m1.size 89 [.s p_0, .s p_1, .i p_2, .i p_3, .s p_4]) (SV.box m1.size 89 [.s p_0, .s p_1, .i p_2, .i p_3, .s p_4]) (
 eqS (SV.box m.size 35 [.s im_0, .s im_1]) (SV.box m.size 35 [.s im_0, .s im_1]) (
 K0 m1_6)))))) /\
 ((v15_0 != 21) = false ->
 eqS (SV.box m1_1.size 86 [.i v15_0, .i v15_1, .i v15_2, .i v15_3, .s v15_4, .s v15_5]) (SV.box m1_1.size 86 [.i v15_0, .i v15_1, .i v15_2, .i v15_3, .s v15_4, .s v15_5]) (
 eqS (SV.box m1.size 89 [.s p_0, .s p_1, .i p_2, .i p_3, .s p_4]) (SV.box m1.size 89 [.s p_0, .s p_1, .i p_2, .i p_3, .s p_4]) (
 eqS (SV.box m.size 35 [.s im_0, .s im_1]) (SV.box m.size 35 [.s im_0, .s im_1]) (
 K0 m1_6)))))))) /\
 ((v15_3 != 0) = false ->
 eqT m1_1.size m1_1.size (
 ((v15_0 != 21) = true ->
 eqT m1_1.size m1_1.size (
 ((decide ((v15_5.len : Int) > 0)) = true ->
 R (vb false) m1_6) /\
 ((decide ((v15_5.len : Int) > 0)) = false ->
 eqS (SV.box m1_1.size 86 [.i v15_0, .i v15_1, .i v15_2, .i v15_3, .s v15_4, .s v15_5]) (SV.box m1_1.size 86 [.i v15_0, .i v15_1, .i v15_2, .i v15_3, .s v15_4, .s v15_5]) (
 eqS (SV.box m1.size 89 [.s p_0, .s p_1, .i p_2, .i p_3, .s p_4]) (SV.box m1.size 89 [.s p_0, .s p_1, .i p_2, .i p_3, .s p_4]) (
 eqS (SV.box m.size 35 [.s im_0, .s im_1]) (SV.box m.size 35 [.s im_0, .s im_1]) (
 K0 m1_6)))))) /\
 ((v15_0 != 21) = false ->
 eqS (SV.box m1_1.size 86 [.i v15_0, .i v15_1, .i v15_2, .i v15_3, .s v15_4, .s v15_5]) (SV.box m1_1.size 86 [.i v15_0, .i v15_1, .i v15_2, .i v15_3, .s v15_4, .s v15_5]) (
 eqS (SV.box m1.size 89 [.s p_0, .s p_1, .i p_2, .i p_3, .s p_4]) (SV.box m1.size 89 [.s p_0, .s p_1, .i p_2, .i p_3, .s p_4]) (
 eqS (SV.box m.size 35 [.s im_0, .s im_1]) (SV.box m.size 35 [.s im_0, .s im_1]) (
 K0 m1_6))))))))))))) /\
 (∀ (m1_8 : Mem), K0 m1_8 ->
 eqT m1_1.size m1_1.size (
 ((v15_0 == 0) = true ->
 (((v15_4.len : Int) == 0) = true ->
 eqT m1_1.size m1_1.size (
 q00 Tryz.prog q0n [vi v15_2, vi (-999), vi 999] m1_8 fun r_3 m1_9 =>
 Sam [m1_1.size, m1.size, m.size] m1_8 m1_9 /\
 ∃ r82 : Bool, r_3 = vb r82 /\
 R (vb r82) m1_9)) /\
 (((v15_4.len : Int) == 0) = false ->
 R (vb false) m1_8)) /\
 ((v15_0 == 0) = false ->
 (((v15_0 == 1) || ((v15_0 == 2) || ((v15_0 == 3) || ((v15_0 == 4) || (v15_0 == 11))))) = true ->
 (((v15_4.len : Int) == 2) = true ->
 eqT m1_1.size m1_1.size (
 R (vb (v15_2 == 0)) m1_8)) /\
 (((v15_4.len : Int) == 2) = false ->
 R (vb false) m1_8)) /\
 (((v15_0 == 1) || ((v15_0 == 2) || ((v15_0 == 3) || ((v15_0 == 4) || (v15_0 == 11))))) = false ->
 (((v15_0 == 5) || ((v15_0 == 14) || ((v15_0 == 15) || ((v15_0 == 18) || (v15_0 == 23))))) = true ->
 (((v15_4.len : Int) == 1) = true ->
 eqT m1_1.size m1_1.size (
 R (vb (v15_2 == 0)) m1_8)) /\
 (((v15_4.len : Int) == 1) = false ->
 R (vb false) m1_8)) /\
 (((v15_0 == 5) || ((v15_0 == 14) || ((v15_0 == 15) || ((v15_0 == 18) || (v15_0 == 23))))) = false ->
 ((v15_0 == 6) = true ->
 eqT m.size m.size (
 eqT m1_1.size m1_1.size (
 q00 Tryz.prog q6e [Sl.v im_0, vi v15_2] m1_8 fun r_4 m1_10 =>
 Sam [m1_1.size, m1.size, m.size] m1_8 m1_10 /\
 ∃ r116 : Int, r_4 = vi r116 /\
 ((decide (r116 > 0)) = true ->
 eqT m.size m.size (
 eqT m1_1.size m1_1.size (
 q00 Tryz.prog q7p [Sl.v im_0, vi v15_2] m1_10 fun r_5 m1_11 =>
 Sam [m1_1.size, m1.size, m.size] m1_10 m1_11 /\
 ∃ r124 : Sl, r_5 = Sl.v r124 /\
 (((v15_4.len : Int) == (r124.len : Int)) = true ->
 eqT m1_1.size m1_1.size (
 eqT m1.size m1.size (
 q00 Tryz.prog q0n [vi v15_3, vi 0, vi p_3] m1_11 fun r_6 m1_12 =>
 Sam [m1_1.size, m1.size, m.size] m1_11 m1_12 /\
 ∃ r133 : Bool, r_6 = vb r133 /\
 R (vb r133) m1_12))) /\
 (((v15_4.len : Int) == (r124.len : Int)) = false ->
 R (vb false) m1_11)))) /\
 ((decide (r116 > 0)) = false ->
 R (vb false) m1_10)))) /\
 ((v15_0 == 6) = false ->
 (((v15_0 == 9) || (v15_0 == 24)) = true ->
 eqT m.size m.size (
 eqT m1_1.size m1_1.size (
 q00 Tryz.prog q5k [.agg #[Sl.v im_0, Sl.v im_1], vi v15_2, vi (v15_4.len : Int), vi 0] m1_8 fun r_7 m1_13 =>
 Sam [m1_1.size, m1.size, m.size] m1_8 m1_13 /\
 ∃ r142 : Bool, r_7 = vb r142 /\
 R (vb r142) m1_13))) /\
 (((v15_0 == 9) || (v15_0 == 24)) = false ->
 ((v15_0 == 10) = true ->
 eqT m.size m.size (
 eqT m1_1.size m1_1.size (
 q00 Tryz.prog q5k [.agg #[Sl.v im_0, Sl.v im_1], vi v15_2, vi (v15_4.len : Int), vi 1] m1_8 fun r_8 m1_14 =>
 Sam [m1_1.size, m1.size, m.size] m1_8 m1_14 /\
 ∃ r149 : Bool, r_8 = vb r149 /\
 (r149 = true ->
 eqT m.size m.size (
 eqT m1_1.size m1_1.size (
 0 <= v15_2 /\ v15_2 < (im_1.len : Int) /\
 ∃ v157 : Sl, gcell m1_14 im_1.blk (im_1.off + Int.toNat v15_2 * 5 + 1) = some (Sl.v v157) /\
 R (vb ((v157.len : Int) == 0)) m1_14))) /\
 (r149 = false ->
 R (vb false) m1_14)))) /\
 ((v15_0 == 10) = false ->
 (((v15_0 == 16) || (v15_0 == 17)) = true ->
 q00 Tryz.prog q0n [vi (v15_4.len : Int), vi 1, vi 4] m1_8 fun r_9 m1_15 =>
 Sam [m1_1.size, m1.size, m.size] m1_8 m1_15 /\
 ∃ r165 : Bool, r_9 = vb r165 /\
 (r165 = true ->
 eqT m1_1.size m1_1.size (
 R (vb (v15_2 == 0)) m1_15)) /\
 (r165 = false ->
 R (vb false) m1_15)) /\
 (((v15_0 == 16) || (v15_0 == 17)) = false ->
 ((v15_0 == 19) = true ->
 (((v15_4.len : Int) == 1) = true ->
 eqT m1_1.size m1_1.size (
 q00 Tryz.prog q0n [vi v15_2, vi 0, vi 2] m1_8 fun r_10 m1_16 =>
 Sam [m1_1.size, m1.size, m.size] m1_8 m1_16 /\
 ∃ r178 : Bool, r_10 = vb r178 /\
 R (vb r178) m1_16)) /\
 (((v15_4.len : Int) == 1) = false ->
 R (vb false) m1_8)) /\
 ((v15_0 == 19) = false ->
 ((v15_0 == 20) = true ->
 (((v15_4.len : Int) == 1) = true ->
 eqT m1_1.size m1_1.size (
 eqT m1.size m1.size (
 q00 Tryz.prog q0n [vi v15_2, vi (w64 (at0 + 1)), vi (w64 ((p_4.len : Int) - 1))] m1_8 fun r_11 m1_17 =>
 Sam [m1_1.size, m1.size, m.size] m1_8 m1_17 /\
 ∃ r193 : Bool, r_11 = vb r193 /\
 R (vb r193) m1_17))) /\
 (((v15_4.len : Int) == 1) = false ->
 R (vb false) m1_8)) /\
 ((v15_0 == 20) = false ->
 ((v15_0 == 22) = true ->
 (((v15_4.len : Int) == 0) = true ->
 eqT m1_1.size m1_1.size (
 eqT m1.size m1.size (
 q00 Tryz.prog q0n [vi v15_2, vi (w64 (at0 + 1)), vi (w64 ((p_4.len : Int) - 1))] m1_8 fun r_12 m1_18 =>
 Sam [m1_1.size, m1.size, m.size] m1_8 m1_18 /\
 ∃ r208 : Bool, r_12 = vb r208 /\
 R (vb r208) m1_18))) /\
 (((v15_4.len : Int) == 0) = false ->
 R (vb false) m1_8)) /\
 ((v15_0 == 22) = false ->
 ((v15_0 == 21) = true ->
 eqT m.size m.size (
 eqT m1_1.size m1_1.size (
 q00 Tryz.prog q7k [Sl.v im_0, vi v15_2] m1_8 fun r_13 m1_19 =>
 Sam [m1_1.size, m1.size, m.size] m1_8 m1_19 /\
 ∃ r216 : Sl, r_13 = Sl.v r216 /\
 (((v15_4.len : Int) == 1) = true ->
 ((decide ((r216.len : Int) > 0)) = true ->
 eqT m1_1.size m1_1.size (
 eqT m1.size m1.size (
 q00 Tryz.prog q71 [Sl.v v15_5, vi (r216.len : Int), vi at0, vi (p_4.len : Int)] m1_19 fun r_14 m1_20 =>
 Sam [m1_1.size, m1.size, m.size] m1_19 m1_20 /\
 ∃ r232 : Bool, r_14 = vb r232 /\
 R (vb r232) m1_20))) /\
 ((decide ((r216.len : Int) > 0)) = false ->
 R (vb false) m1_19)) /\
 (((v15_4.len : Int) == 1) = false ->
 R (vb false) m1_19)))) /\
 ((v15_0 == 21) = false ->
 R (vb false) m1_8))))))))))))))))))
theorem qfm (im_0 im_1 p_0 p_1 : Sl) (p_2 p_3 : Int) (p_4 : Sl) (at0 : Int) (m : Mem) (R : Value -> Mem -> Prop) (hvc : qak im_0 im_1 p_0 p_1 p_2 p_3 p_4 at0 m R) : q00 Tryz.prog q6z [.agg #[Sl.v im_0, Sl.v im_1], .agg #[Sl.v p_0, Sl.v p_1, vi p_2, vi p_3, Sl.v p_4], vi at0] m R :=
 vcs (A := ⟨[(6, [0, 1, 0, 6, 8, 0, 32, 64, 144, 256], [0, 1, 0, 7, 15, 0, 32, 96, 255, 511])], [(4, [(9, .I)])], [(10, [])], [(4, [241, 238, 237]), (10, [241, 238, 237])]⟩) (n := 234) (rs := [.tmp 6]) (args := [.agg [.s im_0, .s im_1], .agg [.s p_0, .s p_1, .i p_2, .i p_3, .s p_4], .c (.i at0)]) (c := q05 Tryz.f115) Tryz.func115 hvc
def qeq (im_0 im_1 : Sl) (at0 dst : Int) (words own : Sl) (m : Mem) (R : Value -> Mem -> Prop) : Prop :=
 let m1 : Mem := m.push (.cells (vals [.s im_0, .s im_1]) 35)
 let m1_1 : Mem := m1.push (.cells (vals [.i 0, .i 0, .i 0, .s Sl.nil, .s Sl.nil, .s Sl.nil]) 84)
 eqT m.size m.size (
 0 <= at0 /\ at0 < (im_1.len : Int) /\
 ∃ v19 : Int, gcell m1_1 im_1.blk (im_1.off + Int.toNat at0 * 5 + 3) = some (vi v19) /\
 q00 Tryz.prog q4m [vi v19] m1_1 fun r m1_2 =>
 Sam [m1.size, m.size] m1_1 m1_2 /\
 ∃ r21 : Sl, r = Sl.v r21 /\
 q00 Tryz.prog q4m [vi v19] m1_2 fun r_1 m1_3 =>
 Sam [m1.size, m.size] m1_2 m1_3 /\
 ∃ r23 : Sl, r_1 = Sl.v r23 /\
 ∃ new : List Ce, new.length = Nat.min words.len r21.len * 1 /\ rowIs m1_3 words.blk words.off new /\ wrOk m1_3 r21.blk r21.off new.length /\
 let m1_5 : Mem := scells m1_3 r21.blk r21.off new
 Sam [m1.size, m.size] m1_3 m1_5 /\
 ∃ new_1 : List Ce, new_1.length = Nat.min own.len r23.len * 1 /\ rowIs m1_5 own.blk own.off new_1 /\ wrOk m1_5 r23.blk r23.off new_1.length /\
 let m1_7 : Mem := scells m1_5 r23.blk r23.off new_1
 Sam [m1.size, m.size] m1_5 m1_7 /\
 q00 Tryz.prog q4m [vi v19] m1_7 fun r_2 m1_8 =>
 Sam [m1.size, m.size] m1_7 m1_8 /\
 ∃ r35 : Sl, r_2 = Sl.v r35 /\
 eqT m1.size m1.size (
 let m1_9 : Mem := scells m1_8 m1.size 0 [.i at0, .i 0, .i dst, .s r21, .s r23, .s r35]
 eqT m1.size m1.size (
 R (.agg #[vi at0, vi 0, vi dst, Sl.v r21, Sl.v r23, Sl.v r35]) m1_9)))
theorem qk7 (im_0 im_1 : Sl) (at0 dst : Int) (words own : Sl) (m : Mem) (R : Value -> Mem -> Prop) (hvc : qeq im_0 im_1 at0 dst words own m R) : q00 Tryz.prog q2y [.agg #[Sl.v im_0, Sl.v im_1], vi at0, vi dst, Sl.v words, Sl.v own] m R :=
 vcs (A := ⟨[], [], [], []⟩) (n := 37) (rs := [.cell 10 84]) (args := [.agg [.s im_0, .s im_1], .c (.i at0), .c (.i dst), .c (.s words), .c (.s own)]) (c := q05 Tryz.f116) Tryz.func116 hvc
def qg3 (a : Sl) (m : Mem) (R : Value -> Mem -> Prop) : Prop :=
 0 <= (a.len : Int) /\ (a.len : Int) <= (a.len : Int) /\ ((24 : Nat) : Int) * (a.len : Int) <= 281474976710656 /\ (a.len : Int) <= 9223372036854775807 /\
 let m1 : Mem := m.push (.cells (vals (zrow [.s Sl.nil] (Int.toNat (a.len : Int)))) 201)
 ∃ (I0 : Int -> Mem -> Prop) (μ0 : Int -> Mem -> Nat),
 I0 0 m1 /\
 (∀ (i : Int) (m1_1 : Mem), I0 i m1_1 ->
 ((decide (i < (a.len : Int))) = true ->
 0 <= i /\ i < (a.len : Int) /\
 ∃ v19 : Sl, gcell m1_1 a.blk (a.off + Int.toNat i * 1) = some (Sl.v v19) /\
 q00 Tryz.prog qdb [.agg #[Sl.v v19]] m1_1 fun r m1_2 =>
 ∃ r_0 : Sl, r = .agg #[Sl.v r_0] /\
 0 <= i /\ i < ((Sl.mk m.size 0 (Int.toNat (a.len : Int)) (Int.toNat (a.len : Int))).len : Int) /\
 wrOk m1_2 ((Sl.mk m.size 0 (Int.toNat (a.len : Int)) (Int.toNat (a.len : Int))).blk) ((Sl.mk m.size 0 (Int.toNat (a.len : Int)) (Int.toNat (a.len : Int))).off + Int.toNat i * 1) 1 /\
 let m1_3 : Mem := scells m1_2 ((Sl.mk m.size 0 (Int.toNat (a.len : Int)) (Int.toNat (a.len : Int))).blk) ((Sl.mk m.size 0 (Int.toNat (a.len : Int)) (Int.toNat (a.len : Int))).off + Int.toNat i * 1) [.s r_0]
 I0 (w64 (i + 1)) m1_3 /\ μ0 (w64 (i + 1)) m1_3 < μ0 i m1_1) /\
 ((decide (i < (a.len : Int))) = false ->
 R (Sl.v (Sl.mk m.size 0 (Int.toNat (a.len : Int)) (Int.toNat (a.len : Int)))) m1_1))
theorem qkq (a : Sl) (m : Mem) (R : Value -> Mem -> Prop) (hvc : qg3 a m R) : q00 Tryz.prog qb9 [Sl.v a] m R :=
 vcs (A := ⟨[], [(3, [(4, .I)])], [], []⟩) (n := 23) (rs := [.tmp 2]) (args := [.c (.s a)]) (c := q05 Tryz.f117) Tryz.func117 hvc
def qcz (a : Sl) (m : Mem) (R : Value -> Mem -> Prop) : Prop :=
 0 <= (a.len : Int) /\ (a.len : Int) <= (a.len : Int) /\ ((80 : Nat) : Int) * (a.len : Int) <= 281474976710656 /\ (a.len : Int) <= 9223372036854775807 /\
 let m1 : Mem := m.push (.cells (vals (zrow [.i 0, .i 0, .i 0, .i 0, .s Sl.nil, .s Sl.nil] (Int.toNat (a.len : Int)))) 86)
 ∃ (I0 : Int -> Mem -> Prop) (μ0 : Int -> Mem -> Nat),
 I0 0 m1 /\
 (∀ (i : Int) (m1_1 : Mem), I0 i m1_1 ->
 ((decide (i < (a.len : Int))) = true ->
 0 <= i /\ i < (a.len : Int) /\
 ∃ v19_0 : Int, gcell m1_1 a.blk (a.off + Int.toNat i * 6) = some (vi v19_0) /\
 ∃ v19_1 : Int, gcell m1_1 a.blk (a.off + Int.toNat i * 6 + 1) = some (vi v19_1) /\
 ∃ v19_2 : Int, gcell m1_1 a.blk (a.off + Int.toNat i * 6 + 2) = some (vi v19_2) /\
 ∃ v19_3 : Int, gcell m1_1 a.blk (a.off + Int.toNat i * 6 + 3) = some (vi v19_3) /\
 ∃ v19_4 : Sl, gcell m1_1 a.blk (a.off + Int.toNat i * 6 + 4) = some (Sl.v v19_4) /\
 ∃ v19_5 : Sl, gcell m1_1 a.blk (a.off + Int.toNat i * 6 + 5) = some (Sl.v v19_5) /\
 q00 Tryz.prog q9z [.agg #[vi v19_0, vi v19_1, vi v19_2, vi v19_3, Sl.v v19_4, Sl.v v19_5]] m1_1 fun r m1_2 =>
 ∃ r_0 : Int, ∃ r_1 : Int, ∃ r_2 : Int, ∃ r_3 : Int, ∃ r_4 : Sl, ∃ r_5 : Sl, r = .agg #[vi r_0, vi r_1, vi r_2, vi r_3, Sl.v r_4, Sl.v r_5] /\
 0 <= i /\ i < ((Sl.mk m.size 0 (Int.toNat (a.len : Int)) (Int.toNat (a.len : Int))).len : Int) /\
 wrOk m1_2 ((Sl.mk m.size 0 (Int.toNat (a.len : Int)) (Int.toNat (a.len : Int))).blk) ((Sl.mk m.size 0 (Int.toNat (a.len : Int)) (Int.toNat (a.len : Int))).off + Int.toNat i * 6) 6 /\
 let m1_3 : Mem := scells m1_2 ((Sl.mk m.size 0 (Int.toNat (a.len : Int)) (Int.toNat (a.len : Int))).blk) ((Sl.mk m.size 0 (Int.toNat (a.len : Int)) (Int.toNat (a.len : Int))).off + Int.toNat i * 6) [.i r_0, .i r_1, .i r_2, .i r_3, .s r_4, .s r_5]
 I0 (w64 (i + 1)) m1_3 /\ μ0 (w64 (i + 1)) m1_3 < μ0 i m1_1) /\
 ((decide (i < (a.len : Int))) = false ->
 R (Sl.v (Sl.mk m.size 0 (Int.toNat (a.len : Int)) (Int.toNat (a.len : Int)))) m1_1))
theorem qie (a : Sl) (m : Mem) (R : Value -> Mem -> Prop) (hvc : qcz a m R) : q00 Tryz.prog q8t [Sl.v a] m R :=
 vcs (A := ⟨[], [(3, [(4, .I)])], [], []⟩) (n := 23) (rs := [.tmp 2]) (args := [.c (.s a)]) (c := q05 Tryz.f118) Tryz.func118 hvc
def qbr (decls sigs : Sl) (m : Mem) (R : Value -> Mem -> Prop) : Prop :=
 q00 Tryz.prog q6w [Sl.v decls] m fun r m1 =>
 ∃ r10 : Bool, r = vb r10 /\
 ((!r10) = true ->
 R (vb false) m1) /\
 ((!r10) = false ->
 ((decide ((sigs.len : Int) < 1)) = true ->
 R (vb false) m1) /\
 ((decide ((sigs.len : Int) < 1)) = false ->
 ((decide ((sigs.len : Int) > 4)) = true ->
 R (vb false) m1) /\
 ((decide ((sigs.len : Int) > 4)) = false ->
 (0 : Int) <= (0 : Int) /\ 0 < (sigs.len : Int) /\
 ∃ v26 : Sl, gcell m1 sigs.blk (sigs.off + Int.toNat 0 * 3) = some (Sl.v v26) /\
 ((decide ((v26.len : Int) > 0)) = true ->
 R (vb false) m1) /\
 ((decide ((v26.len : Int) > 0)) = false ->
 (0 : Int) <= (0 : Int) /\ 0 < (sigs.len : Int) /\
 ∃ v34 : Int, gcell m1 sigs.blk (sigs.off + Int.toNat 0 * 3 + 2) = some (vi v34) /\
 ((v34 != 0) = true ->
 R (vb false) m1) /\
 ((v34 != 0) = false ->
 ∃ (I0 : Int -> Mem -> Prop) (μ0 : Int -> Mem -> Nat),
 I0 0 m1 /\
 (∀ (v39 : Int) (m1_1 : Mem), I0 v39 m1_1 ->
 ((decide (v39 < (sigs.len : Int))) = true ->
 0 <= v39 /\ v39 < (sigs.len : Int) /\
 ∃ v42_0 : Sl, gcell m1_1 sigs.blk (sigs.off + Int.toNat v39 * 3) = some (Sl.v v42_0) /\
 ∃ v42_1 : Sl, gcell m1_1 sigs.blk (sigs.off + Int.toNat v39 * 3 + 1) = some (Sl.v v42_1) /\
 ∃ v42_2 : Int, gcell m1_1 sigs.blk (sigs.off + Int.toNat v39 * 3 + 2) = some (vi v42_2) /\
 let m1_2 : Mem := m1_1.push (.cells (vals [.s Sl.nil, .s Sl.nil, .i 0]) 183)
 eqT m1_1.size m1_1.size (
 let m1_3 : Mem := scells m1_2 m1_1.size 0 [.s v42_0, .s v42_1, .i v42_2]
 eqT m1_1.size m1_1.size (
 ((decide ((v42_0.len : Int) > 3)) = true ->
 R (vb false) m1_3) /\
 ((decide ((v42_0.len : Int) > 3)) = false ->
 eqT m1_1.size m1_1.size (
 q00 Tryz.prog q5l [Sl.v decls, Sl.v v42_0] m1_3 fun r_1 m1_4 =>
 Sam [m1_1.size] m1_3 m1_4 /\
 ∃ r51 : Bool, r_1 = vb r51 /\
 ((!r51) = true ->
 R (vb false) m1_4) /\
 ((!r51) = false ->
 eqT m1_1.size m1_1.size (
 q00 Tryz.prog q46 [Sl.v decls, vi v42_2] m1_4 fun r_2 m1_5 =>
 Sam [m1_1.size] m1_4 m1_5 /\
 ∃ r58 : Bool, r_2 = vb r58 /\
 ((!r58) = true ->
 R (vb false) m1_5) /\
 ((!r58) = false ->
 eqT m1_1.size m1_1.size (
 ∃ (I0_1 : Int -> Mem -> Prop) (μ0_1 : Int -> Mem -> Nat),
 I0_1 0 m1_5 /\
 (∀ (v64 : Int) (m1_6 : Mem), I0_1 v64 m1_6 ->
 ((decide (v64 < (v42_1.len : Int))) = true ->
 0 <= v64 /\ v64 < (v42_1.len : Int) /\
 ∃ v68 : Int, gcell m1_6 v42_1.blk (v42_1.off + Int.toNat v64 * 1) = some (vi v68) /\
 ((decide (v68 < 0)) = true ->
 R (vb false) m1_6) /\
 ((decide (v68 < 0)) = false ->
 eqT m1_1.size m1_1.size (
 ((decide (v68 ≥ (v42_0.len : Int))) = true ->
 R (vb false) m1_6) /\
 ((decide (v68 ≥ (v42_0.len : Int))) = false ->
 eqT m1_1.size m1_1.size (
 0 <= v68 /\ v68 < (v42_0.len : Int) /\
 ∃ v83 : Int, gcell m1_6 v42_0.blk (v42_0.off + Int.toNat v68 * 1) = some (vi v83) /\
 ((v83 == 0) = true ->
 R (vb false) m1_6) /\
 ((v83 == 0) = false ->
 ((decide (v64 > 0)) = true ->
 eqT m1_1.size m1_1.size (
 0 <= (w64 (v64 - 1)) /\ (w64 (v64 - 1)) < (v42_1.len : Int) /\
 ∃ v96 : Int, gcell m1_6 v42_1.blk (v42_1.off + Int.toNat (w64 (v64 - 1)) * 1) = some (vi v96) /\
 ((decide (v68 <= v96)) = true ->
 R (vb false) m1_6) /\
 ((decide (v68 <= v96)) = false ->
 eqS (SV.box m1_1.size 183 [.s v42_0, .s v42_1, .i v42_2]) (SV.box m1_1.size 183 [.s v42_0, .s v42_1, .i v42_2]) (
 I0_1 (w64 (v64 + 1)) m1_6 /\ μ0_1 (w64 (v64 + 1)) m1_6 < μ0_1 v64 m1_6)))) /\
 ((decide (v64 > 0)) = false ->
 eqS (SV.box m1_1.size 183 [.s v42_0, .s v42_1, .i v42_2]) (SV.box m1_1.size 183 [.s v42_0, .s v42_1, .i v42_2]) (
 I0_1 (w64 (v64 + 1)) m1_6 /\ μ0_1 (w64 (v64 + 1)) m1_6 < μ0_1 v64 m1_6)))))))) /\
 ((decide (v64 < (v42_1.len : Int))) = false ->
 I0 (w64 (v39 + 1)) m1_6 /\ μ0 (w64 (v39 + 1)) m1_6 < μ0 v39 m1_1))))))))))) /\
 ((decide (v39 < (sigs.len : Int))) = false ->
 R (vb true) m1_1)))))))
theorem qh0 (decls sigs : Sl) (m : Mem) (R : Value -> Mem -> Prop) (hvc : qbr decls sigs m R) : q00 Tryz.prog q7z [Sl.v decls, Sl.v sigs] m R :=
 vcs (A := ⟨[], [(4, [(39, .I)]), (9, [(64, .I)])], [], [(9, [108])]⟩) (n := 102) (rs := [.tmp 4]) (args := [.c (.s decls), .c (.s sigs)]) (c := q05 Tryz.f119) Tryz.func119 hvc
def qh8 (op : Int) (m : Mem) (R : Value -> Mem -> Prop) : Prop :=
 ((decide (op ≥ 0)) = true ->
 ((decide (op <= 11)) = true ->
 R (vb true) m) /\
 ((decide (op <= 11)) = false ->
 ((op == 18) = true ->
 R (vb true) m) /\
 ((op == 18) = false ->
 R (vb (op == 19)) m))) /\
 ((decide (op ≥ 0)) = false ->
 ((op == 18) = true ->
 R (vb true) m) /\
 ((op == 18) = false ->
 R (vb (op == 19)) m))
theorem qe0 (op : Int) (m : Mem) (R : Value -> Mem -> Prop) (hvc : qh8 op m R) : q00 Tryz.prog q3z [vi op] m R :=
 vcs (A := ⟨[], [], [], []⟩) (n := 17) (rs := [.tmp 2]) (args := [.c (.i op)]) (c := q05 Tryz.f120) Tryz.func120 hvc
def q8f (at0 : Int) (free0 free1 : Nat × Nat) (m : Mem) (R : Value -> Mem -> Prop) : Prop :=
 ∃ v6 : Int, gcell m free0.1 free0.2 = some (vi v6) /\
 ((decide (at0 > v6)) = true ->
 ∃ v11 : Sl, gcell m free1.1 (free1.2 + 4) = some (Sl.v v11) /\
 R (vb (decide (at0 < (v11.len : Int)))) m) /\
 ((decide (at0 > v6)) = false ->
 R (vb false) m)
theorem q6x (at0 : Int) (free0 free1 : Nat × Nat) (m : Mem) (R : Value -> Mem -> Prop) (hvc : q8f at0 free0 free1 m R) : q00 Tryz.prog q0u [vi at0, vp free0.1 free0.2, vp free1.1 free1.2] m R :=
 vcs (A := ⟨[], [], [], []⟩) (n := 15) (rs := [.tmp 4]) (args := [.c (.i at0), .c (.p free0.1 free0.2), .c (.p free1.1 free1.2)]) (c := q05 Tryz.f121) Tryz.func121 hvc
def q8l (s : Sl) (f : Fn × Array Value × Array Value) (m : Mem) (R : Value -> Mem -> Prop) : Prop :=
 q00 Tryz.prog q3d [Sl.v s, .func f.1 f.2.1 f.2.2] m fun r m1 =>
 ∃ r7 : Int, r = vi r7 /\
 R (vb (decide (r7 ≥ 0))) m1
theorem q7c (s : Sl) (f : Fn × Array Value × Array Value) (m : Mem) (R : Value -> Mem -> Prop) (hvc : q8l s f m R) : q00 Tryz.prog q18 [Sl.v s, .func f.1 f.2.1 f.2.2] m R :=
 vcs (A := ⟨[], [], [], []⟩) (n := 9) (rs := [.tmp 4]) (args := [.c (.s s), .c (.fv f)]) (c := q05 Tryz.f122) Tryz.func122 hvc
def q8g (at0 : Int) (free0 : Nat × Nat) (m : Mem) (R : Value -> Mem -> Prop) : Prop :=
 ∃ v4 : Fn × Array Value × Array Value, gcell m free0.1 free0.2 = some (.func v4.1 v4.2.1 v4.2.2) /\
 ∃ g, v4.1 = .func g /\ GL.elem g = true /\
 q00 Tryz.prog g (v4.2.1.toList ++ [vi at0] ++ v4.2.2.toList) m fun r m1 =>
 ∃ r6 : Bool, r = vb r6 /\
 R (vb (!r6)) m1
theorem q6u (at0 : Int) (free0 : Nat × Nat) (m : Mem) (R : Value -> Mem -> Prop) (hvc : q8g at0 free0 m R) : q00 Tryz.prog q1e [vi at0, vp free0.1 free0.2] m R :=
 vcs (A := ⟨[], [], [], []⟩) (n := 8) (rs := [.tmp 3]) (args := [.c (.i at0), .c (.p free0.1 free0.2)]) (c := q05 Tryz.f123) Tryz.func123 hvc
def q4s (s_0 s_1 : Sl) (x_0 x_1 x_2 x_3 : Int) (x_4 x_5 : Sl) (later : Fn × Array Value × Array Value) (m : Mem) (R : Value -> Mem -> Prop) : Prop :=
 let m1 : Mem := m.push (.cells (vals [.s s_0, .s s_1]) 127)
 let m1_1 : Mem := m1.push (.cells (vals [.i x_0, .i x_1, .i x_2, .i x_3, .s x_4, .s x_5]) 86)
 eqT m1.size m1.size (
 ((x_0 == 0) = true ->
 eqT m1.size m1.size (
 ((decide (x_2 ≥ (-999))) = true ->
 eqT m1.size m1.size (
 R (vb (decide (x_2 <= 999))) m1_1)) /\
 ((decide (x_2 ≥ (-999))) = false ->
 R (vb false) m1_1))) /\
 ((x_0 == 0) = false ->
 ((x_0 == 6) = true ->
 eqT m1.size m1.size (
 ((decide (x_2 ≥ 0)) = true ->
 eqT m1.size m1.size (
 eqT m.size m.size (
 q00 Tryz.prog q2q [Sl.v s_0] m1_1 fun r m1_2 =>
 Sam [m1.size, m.size] m1_1 m1_2 /\
 ∃ r30 : Int, r = vi r30 /\
 gcell m1_2 m1.size 2 = gcell m1_1 m1.size 2 /\
 R (vb (decide (x_2 < r30))) m1_2))) /\
 ((decide (x_2 ≥ 0)) = false ->
 R (vb false) m1_1))) /\
 ((x_0 == 6) = false ->
 (((x_0 == 9) || (x_0 == 24)) = true ->
 eqT m1.size m1.size (
 ((decide (x_2 ≥ 0)) = true ->
 eqT m1.size m1.size (
 eqT m.size m.size (
 R (vb (decide (x_2 < (s_1.len : Int)))) m1_1))) /\
 ((decide (x_2 ≥ 0)) = false ->
 R (vb false) m1_1))) /\
 (((x_0 == 9) || (x_0 == 24)) = false ->
 ((x_0 == 10) = true ->
 eqT m1.size m1.size (
 ((decide (x_2 ≥ 0)) = true ->
 eqT m1.size m1.size (
 eqT m.size m.size (
 ((decide (x_2 < (s_1.len : Int))) = true ->
 eqT m.size m.size (
 eqT m1.size m1.size (
 0 <= x_2 /\ x_2 < (s_1.len : Int) /\
 ∃ v67 : Sl, gcell m1_1 s_1.blk (s_1.off + Int.toNat x_2 * 3 + 1) = some (Sl.v v67) /\
 R (vb ((v67.len : Int) == 0)) m1_1))) /\
 ((decide (x_2 < (s_1.len : Int))) = false ->
 R (vb false) m1_1)))) /\
 ((decide (x_2 ≥ 0)) = false ->
 R (vb false) m1_1))) /\
 ((x_0 == 10) = false ->
 ((x_0 == 19) = true ->
 eqT m1.size m1.size (
 ((decide (x_2 ≥ 0)) = true ->
 eqT m1.size m1.size (
 R (vb (decide (x_2 < 3))) m1_1)) /\
 ((decide (x_2 ≥ 0)) = false ->
 R (vb false) m1_1))) /\
 ((x_0 == 19) = false ->
 (((x_0 == 20) || (x_0 == 22)) = true ->
 eqT m1.size m1.size (
 ∃ g, later.1 = .func g /\ GL.elem g = true /\
 q00 Tryz.prog g (later.2.1.toList ++ [vi x_2] ++ later.2.2.toList) m1_1 fun r_1 m1_3 =>
 Sam [m1.size, m.size] m1_1 m1_3 /\
 ∃ r87 : Bool, r_1 = vb r87 /\
 R (vb r87) m1_3)) /\
 (((x_0 == 20) || (x_0 == 22)) = false ->
 ((x_0 == 21) = true ->
 eqT m.size m.size (
 eqT m1.size m1.size (
 q00 Tryz.prog q59 [Sl.v s_0, vi x_2] m1_1 fun r_2 m1_4 =>
 Sam [m1.size, m.size] m1_1 m1_4 /\
 ∃ r94 : Sl, r_2 = Sl.v r94 /\
 ((decide ((r94.len : Int) > 0)) = true ->
 eqT m1.size m1.size (
 R (vb ((x_5.len : Int) == (r94.len : Int))) m1_4)) /\
 ((decide ((r94.len : Int) > 0)) = false ->
 R (vb false) m1_4)))) /\
 ((x_0 == 21) = false ->
 eqT m1.size m1.size (
 R (vb (x_2 == 0)) m1_1)))))))))
theorem q8y (s_0 s_1 : Sl) (x_0 x_1 x_2 x_3 : Int) (x_4 x_5 : Sl) (later : Fn × Array Value × Array Value) (m : Mem) (R : Value -> Mem -> Prop) (hvc : q4s s_0 s_1 x_0 x_1 x_2 x_3 x_4 x_5 later m R) : q00 Tryz.prog q1v [.agg #[Sl.v s_0, Sl.v s_1], .agg #[vi x_0, vi x_1, vi x_2, vi x_3, Sl.v x_4, Sl.v x_5], .func later.1 later.2.1 later.2.2] m R :=
 vcs (A := ⟨[(5, [0, 1, 2, 4, 8, 24, 8, 72, 136, 296, 520, 2047], [0, 1, 3, 7, 15, 31, 15, 79, 207, 511, 1023, 2047])], [], [], []⟩) (n := 109) (rs := [.tmp 6]) (args := [.agg [.s s_0, .s s_1], .agg [.i x_0, .i x_1, .i x_2, .i x_3, .s x_4, .s x_5], .c (.fv later)]) (c := q05 Tryz.f124) Tryz.func124 hvc
def q5t (s_0 s_1 : Sl) (x_0 x_1 x_2 x_3 : Int) (x_4 x_5 : Sl) (m : Mem) (R : Value -> Mem -> Prop) : Prop :=
 let m1 : Mem := m.push (.cells (vals [.s s_0, .s s_1]) 127)
 let m1_1 : Mem := m1.push (.cells (vals [.i x_0, .i x_1, .i x_2, .i x_3, .s x_4, .s x_5]) 86)
 eqT m1.size m1.size (
 (((x_0 == 0) || (x_0 == 22)) = true ->
 R (.tuple #[vi 0, vi 0]) m1_1) /\
 (((x_0 == 0) || (x_0 == 22)) = false ->
 (((x_0 == 1) || ((x_0 == 2) || ((x_0 == 3) || ((x_0 == 4) || (x_0 == 11))))) = true ->
 R (.tuple #[vi 2, vi 2]) m1_1) /\
 (((x_0 == 1) || ((x_0 == 2) || ((x_0 == 3) || ((x_0 == 4) || (x_0 == 11))))) = false ->
 ((x_0 == 6) = true ->
 eqT m.size m.size (
 eqT m1.size m1.size (
 q00 Tryz.prog q95 [Sl.v s_0, vi x_2] m1_1 fun r m1_2 =>
 Sam [m1.size, m.size] m1_1 m1_2 /\
 ∃ r24 : Sl, r = Sl.v r24 /\
 R (.tuple #[vi (r24.len : Int), vi (r24.len : Int)]) m1_2))) /\
 ((x_0 == 6) = false ->
 (((x_0 == 9) || (x_0 == 24)) = true ->
 eqT m.size m.size (
 eqT m1.size m1.size (
 0 <= x_2 /\ x_2 < (s_1.len : Int) /\
 ∃ v35 : Sl, gcell m1_1 s_1.blk (s_1.off + Int.toNat x_2 * 3) = some (Sl.v v35) /\
 R (.tuple #[vi (v35.len : Int), vi (v35.len : Int)]) m1_1))) /\
 (((x_0 == 9) || (x_0 == 24)) = false ->
 ((x_0 == 10) = true ->
 eqT m.size m.size (
 eqT m1.size m1.size (
 0 <= x_2 /\ x_2 < (s_1.len : Int) /\
 ∃ v45 : Sl, gcell m1_1 s_1.blk (s_1.off + Int.toNat x_2 * 3) = some (Sl.v v45) /\
 R (.tuple #[vi (w64 ((v45.len : Int) - 1)), vi (w64 ((v45.len : Int) - 1))]) m1_1))) /\
 ((x_0 == 10) = false ->
 (((x_0 == 16) || (x_0 == 17)) = true ->
 R (.tuple #[vi 1, vi 4]) m1_1) /\
 (((x_0 == 16) || (x_0 == 17)) = false ->
 R (.tuple #[vi 1, vi 1]) m1_1)))))))
theorem q9n (s_0 s_1 : Sl) (x_0 x_1 x_2 x_3 : Int) (x_4 x_5 : Sl) (m : Mem) (R : Value -> Mem -> Prop) (hvc : q5t s_0 s_1 x_0 x_1 x_2 x_3 x_4 x_5 m R) : q00 Tryz.prog q25 [.agg #[Sl.v s_0, Sl.v s_1], .agg #[vi x_0, vi x_1, vi x_2, vi x_3, Sl.v x_4, Sl.v x_5]] m R :=
 vcs (A := ⟨[], [], [], []⟩) (n := 53) (rs := [.tmp 4, .tmp 5]) (args := [.agg [.s s_0, .s s_1], .agg [.i x_0, .i x_1, .i x_2, .i x_3, .s x_4, .s x_5]]) (c := q05 Tryz.f125) Tryz.func125 hvc
def q67 (m0 : Nat × Nat) (x_0 x_1 x_2 x_3 : Int) (x_4 x_5 : Sl) (m : Mem) (R : Value -> Mem -> Prop) : Prop :=
 let m1 : Mem := m.push (.cells (vals [.i x_0, .i x_1, .i x_2, .i x_3, .s x_4, .s x_5]) 86)
 eqT m.size m.size (
 (((x_0 == 15) || ((x_0 == 6) || ((x_0 == 10) || ((x_0 == 11) || ((x_0 == 18) || (x_0 == 23)))))) = true ->
 eqT m.size m.size (
 R (.tuple #[Sl.v x_4, Sl.v Sl.nil]) m1)) /\
 (((x_0 == 15) || ((x_0 == 6) || ((x_0 == 10) || ((x_0 == 11) || ((x_0 == 18) || (x_0 == 23)))))) = false ->
 (((x_0 == 16) || (x_0 == 17)) = true ->
 eqT m.size m.size (
 (0 : Int) <= (0 : Int) /\ (0 : Int) <= (1 : Int) /\ 1 <= (x_4.cap : Int) /\
 R (.tuple #[Sl.v (Sl.cut x_4 (Int.toNat 0) (Int.toNat 1) 1), Sl.v Sl.nil]) m1)) /\
 (((x_0 == 16) || (x_0 == 17)) = false ->
 (((x_0 == 9) || (x_0 == 24)) = true ->
 eqT m.size m.size (
 ∃ (I0 : Sl -> Sl -> Int -> Mem -> Prop) (μ0 : Sl -> Sl -> Int -> Mem -> Nat),
 I0 Sl.nil Sl.nil 0 m1 /\
 (∀ (regs : Sl) (lent : Sl) (v31 : Int) (m1_1 : Mem), I0 regs lent v31 m1_1 ->
 ((decide (v31 < (x_4.len : Int))) = true ->
 0 <= v31 /\ v31 < (x_4.len : Int) /\
 ∃ v35 : Int, gcell m1_1 x_4.blk (x_4.off + Int.toNat v31 * 1) = some (vi v35) /\
 ∃ v40 : Sl, gcell m1_1 m0.1 (m0.2 + 1) = some (Sl.v v40) /\
 eqT m.size m.size (
 0 <= x_2 /\ x_2 < (v40.len : Int) /\
 ∃ v45 : Sl, gcell m1_1 v40.blk (v40.off + Int.toNat x_2 * 5 + 1) = some (Sl.v v45) /\
 q00 Tryz.prog q23 [Sl.v v45, vi v31] m1_1 fun r m1_2 =>
 Sam [m.size] m1_1 m1_2 /\
 ∃ r47 : Bool, r = vb r47 /\
 (r47 = true ->
 let m1_3 : Mem := m1_2.push (.cells (vals [.i v35]) 3)
 appC m1_3 3 [.i 0] 8 lent (Sl.mk m1_2.size 0 1 1) fun r51 m1_4 =>
 Sam [m.size] m1_3 m1_4 /\
 eqS (SV.box m.size 86 [.i x_0, .i x_1, .i x_2, .i x_3, .s x_4, .s x_5]) (SV.box m.size 86 [.i x_0, .i x_1, .i x_2, .i x_3, .s x_4, .s x_5]) (
 I0 regs r51 (w64 (v31 + 1)) m1_4 /\ μ0 regs r51 (w64 (v31 + 1)) m1_4 < μ0 regs lent v31 m1_1)) /\
 (r47 = false ->
 let m1_5 : Mem := m1_2.push (.cells (vals [.i v35]) 3)
 appC m1_5 3 [.i 0] 8 regs (Sl.mk m1_2.size 0 1 1) fun r55 m1_6 =>
 Sam [m.size] m1_5 m1_6 /\
 eqS (SV.box m.size 86 [.i x_0, .i x_1, .i x_2, .i x_3, .s x_4, .s x_5]) (SV.box m.size 86 [.i x_0, .i x_1, .i x_2, .i x_3, .s x_4, .s x_5]) (
 I0 r55 lent (w64 (v31 + 1)) m1_6 /\ μ0 r55 lent (w64 (v31 + 1)) m1_6 < μ0 regs lent v31 m1_1)))) /\
 ((decide (v31 < (x_4.len : Int))) = false ->
 R (.tuple #[Sl.v regs, Sl.v lent]) m1_1)))) /\
 (((x_0 == 9) || (x_0 == 24)) = false ->
 R (.tuple #[Sl.v Sl.nil, Sl.v Sl.nil]) m1))))
theorem qay (m0 : Nat × Nat) (x_0 x_1 x_2 x_3 : Int) (x_4 x_5 : Sl) (m : Mem) (R : Value -> Mem -> Prop) (hvc : q67 m0 x_0 x_1 x_2 x_3 x_4 x_5 m R) : q00 Tryz.prog q2w [vp m0.1 m0.2, .agg #[vi x_0, vi x_1, vi x_2, vi x_3, Sl.v x_4, Sl.v x_5]] m R :=
 vcs (A := ⟨[(17, [0, 1, 2, 4, 8, 0, 32, 80, 128, 256, 0, 1536], [0, 1, 3, 7, 15, 0, 32, 127, 255, 511, 0, 2047])], [(15, [(4, .S), (5, .S), (31, .I)])], [], [(15, [62])]⟩) (n := 59) (rs := [.tmp 4, .tmp 5]) (args := [.c (.p m0.1 m0.2), .agg [.i x_0, .i x_1, .i x_2, .i x_3, .s x_4, .s x_5]]) (c := q05 Tryz.f126) Tryz.func126 hvc
end
section
set_option linter.unusedVariables false
set_option maxRecDepth 100000
def qf1 (m0 : Nat × Nat) (w : Int) (m : Mem) (R : Value -> Mem -> Prop) : Prop :=
 ∃ v12 : Sl, gcell m m0.1 (m0.2 + 3 + 5) = some (Sl.v v12) /\
 q00 Tryz.prog q2u [Sl.v v12, vi w] m fun r m1 =>
 ∃ r14 : Int, ∃ r14_1 : Bool, r = .tuple #[vi r14, vb r14_1] /\
 R (vb r14_1) m1
theorem qc6 (m0 : Nat × Nat) (w : Int) (m : Mem) (R : Value -> Mem -> Prop) (hvc : qf1 m0 w m R) : q00 Tryz.prog q4p [vp m0.1 m0.2, vi w] m R :=
 vcs (A := ⟨[], [], [], []⟩) (n := 18) (rs := [.tmp 4]) (args := [.c (.p m0.1 m0.2), .c (.i w)]) (c := q05 Tryz.f127) Tryz.func127 hvc
def qfj (reg : Int) (free0 : Nat × Nat) (m : Mem) (R : Value -> Mem -> Prop) : Prop :=
 ∃ v4 : Nat × Nat, gcell m free0.1 free0.2 = some (vp v4.1 v4.2) /\
 ∃ v7 : Sl, gcell m v4.1 (v4.2 + 3) = some (Sl.v v7) /\
 0 <= reg /\ reg < (v7.len : Int) /\
 ∃ v10 : Int, gcell m v7.blk (v7.off + Int.toNat reg * 1) = some (vi v10) /\
 R (vb (decide (v10 ≥ 1000))) m
theorem qd5 (reg : Int) (free0 : Nat × Nat) (m : Mem) (R : Value -> Mem -> Prop) (hvc : qfj reg free0 m R) : q00 Tryz.prog q3o [vi reg, vp free0.1 free0.2] m R :=
 vcs (A := ⟨[], [], [], []⟩) (n := 12) (rs := [.tmp 3]) (args := [.c (.i reg), .c (.p free0.1 free0.2)]) (c := q05 Tryz.f128) Tryz.func128 hvc
def qno (list : Sl) (m : Mem) (R : Value -> Mem -> Prop) : Prop :=
 q00 Tryz.prog q18 [Sl.v list, .func (.func q7r) #[] #[]] m fun r m1 =>
 ∃ r4 : Bool, r = vb r4 /\
 R (vb (!r4)) m1
theorem qk9 (list : Sl) (m : Mem) (R : Value -> Mem -> Prop) (hvc : qno list m R) : q00 Tryz.prog q6j [Sl.v list] m R :=
 vcs (A := ⟨[], [], [], []⟩) (n := 6) (rs := [.tmp 2]) (args := [.c (.s list)]) (c := q05 Tryz.f129) Tryz.func129 hvc
def q5z (m0 f : Nat × Nat) (x_0 x_1 x_2 x_3 : Int) (x_4 x_5 : Sl) (m : Mem) (R : Value -> Mem -> Prop) : Prop :=
 let m1 : Mem := m.push (.cells (vals [.i x_0, .i x_1, .i x_2, .i x_3, .s x_4, .s x_5]) 86)
 ∃ v17 : Sl, gcell m1 m0.1 (m0.2 + 3 + 5) = some (Sl.v v17) /\
 ∃ v21 : Sl, gcell m1 f.1 (f.2 + 3) = some (Sl.v v21) /\
 eqT m.size m.size (
 (0 : Int) <= (0 : Int) /\ 0 < (x_4.len : Int) /\
 ∃ v25 : Int, gcell m1 x_4.blk (x_4.off + Int.toNat 0 * 1) = some (vi v25) /\
 0 <= v25 /\ v25 < (v21.len : Int) /\
 ∃ v27 : Int, gcell m1 v21.blk (v21.off + Int.toNat v25 * 1) = some (vi v27) /\
 q00 Tryz.prog q2u [Sl.v v17, vi v27] m1 fun r m1_1 =>
 Sam [m.size] m1 m1_1 /\
 ∃ r28 : Int, ∃ r28_1 : Bool, r = .tuple #[vi r28, vb r28_1] /\
 ((!r28_1) = true ->
 R (vb false) m1_1) /\
 ((!r28_1) = false ->
 ∃ v37 : Sl, gcell m1_1 m0.1 (m0.2 + 3 + 5) = some (Sl.v v37) /\
 0 <= r28 /\ r28 < (v37.len : Int) /\
 ∃ v40_0 : Int, gcell m1_1 v37.blk (v37.off + Int.toNat r28 * 3) = some (vi v40_0) /\
 ∃ v40_1 : Int, gcell m1_1 v37.blk (v37.off + Int.toNat r28 * 3 + 1) = some (vi v40_1) /\
 ∃ v40_2 : Sl, gcell m1_1 v37.blk (v37.off + Int.toNat r28 * 3 + 2) = some (Sl.v v40_2) /\
 let m1_2 : Mem := m1_1.push (.cells (vals [.i 0, .i 0, .s Sl.nil]) 149)
 eqT m1_1.size m1_1.size (
 let m1_3 : Mem := scells m1_2 m1_1.size 0 [.i v40_0, .i v40_1, .s v40_2]
 eqT m1_1.size m1_1.size (
 ∃ v46 : Int, gcell m1_3 m0.1 (m0.2 + 2) = some (vi v46) /\
 ((decide ((w64 (v40_1 - v46)) < 0)) = true ->
 R (vb false) m1_3) /\
 ((decide ((w64 (v40_1 - v46)) < 0)) = false ->
 ∃ v56 : Sl, gcell m1_3 m0.1 (m0.2 + 1) = some (Sl.v v56) /\
 ((decide ((w64 (v40_1 - v46)) ≥ (v56.len : Int))) = true ->
 R (vb false) m1_3) /\
 ((decide ((w64 (v40_1 - v46)) ≥ (v56.len : Int))) = false ->
 ∃ v64 : Sl, gcell m1_3 m0.1 (m0.2 + 1) = some (Sl.v v64) /\
 0 <= (w64 (v40_1 - v46)) /\ (w64 (v40_1 - v46)) < (v64.len : Int) /\
 ∃ v67_0 : Sl, gcell m1_3 v64.blk (v64.off + Int.toNat (w64 (v40_1 - v46)) * 5) = some (Sl.v v67_0) /\
 ∃ v67_1 : Sl, gcell m1_3 v64.blk (v64.off + Int.toNat (w64 (v40_1 - v46)) * 5 + 1) = some (Sl.v v67_1) /\
 ∃ v67_2 : Int, gcell m1_3 v64.blk (v64.off + Int.toNat (w64 (v40_1 - v46)) * 5 + 2) = some (vi v67_2) /\
 ∃ v67_3 : Int, gcell m1_3 v64.blk (v64.off + Int.toNat (w64 (v40_1 - v46)) * 5 + 3) = some (vi v67_3) /\
 ∃ v67_4 : Sl, gcell m1_3 v64.blk (v64.off + Int.toNat (w64 (v40_1 - v46)) * 5 + 4) = some (Sl.v v67_4) /\
 let m1_4 : Mem := m1_3.push (.cells (vals [.s Sl.nil, .s Sl.nil, .i 0, .i 0, .s Sl.nil]) 89)
 eqT m1_3.size m1_3.size (
 let m1_5 : Mem := scells m1_4 m1_3.size 0 [.s v67_0, .s v67_1, .i v67_2, .i v67_3, .s v67_4]
 eqT m1_3.size m1_3.size (
 (((v67_1.len : Int) == 0) = true ->
 eqT m1_3.size m1_3.size (
 eqT m1_1.size m1_1.size (
 (((v67_0.len : Int) == (w64 ((v40_2.len : Int) + 1))) = true ->
 eqT m1_1.size m1_1.size (
 q00 Tryz.prog q1s [vp m0.1 m0.2, .agg #[vi v40_0, vi v40_1, Sl.v v40_2]] m1_5 fun r_1 m1_6 =>
 Sam [m1_3.size, m1_1.size, m.size] m1_5 m1_6 /\
 ∃ r85 : Bool, r_1 = vb r85 /\
 R (vb r85) m1_6)) /\
 (((v67_0.len : Int) == (w64 ((v40_2.len : Int) + 1))) = false ->
 R (vb false) m1_5)))) /\
 (((v67_1.len : Int) == 0) = false ->
 R (vb false) m1_5)))))))))
theorem qaf (m0 f : Nat × Nat) (x_0 x_1 x_2 x_3 : Int) (x_4 x_5 : Sl) (m : Mem) (R : Value -> Mem -> Prop) (hvc : q5z m0 f x_0 x_1 x_2 x_3 x_4 x_5 m R) : q00 Tryz.prog q45 [vp m0.1 m0.2, vp f.1 f.2, .agg #[vi x_0, vi x_1, vi x_2, vi x_3, Sl.v x_4, Sl.v x_5]] m R :=
 vcs (A := ⟨[(1, [0, 1, 2, 4, 8, 0, 32, 64, 128, 0, 512, 1024, 2048, 4352, 8192, 16400, 32768, 65536, 65536, 262143, 1048575], [0, 1, 3, 7, 15, 0, 32, 96, 224, 0, 512, 1536, 3584, 8160, 16352, 32767, 65535, 131071, 131071, 262143, 1048575]), (5, [0, 1, 0, 4, 8, 16, 34, 127], [0, 1, 0, 4, 12, 28, 63, 127])], [], [], []⟩) (n := 87) (rs := [.tmp 6]) (args := [.c (.p m0.1 m0.2), .c (.p f.1 f.2), .agg [.i x_0, .i x_1, .i x_2, .i x_3, .s x_4, .s x_5]]) (c := q05 Tryz.f130) Tryz.func130 hvc
def q57 (m0 f : Nat × Nat) (x_0 x_1 x_2 x_3 : Int) (x_4 x_5 : Sl) (m : Mem) (R : Value -> Mem -> Prop) : Prop :=
 let m1 : Mem := m.push (.cells (vals [.i x_0, .i x_1, .i x_2, .i x_3, .s x_4, .s x_5]) 86)
 ∃ v18 : Sl, gcell m1 m0.1 (m0.2 + 3 + 5) = some (Sl.v v18) /\
 ∃ v22 : Sl, gcell m1 f.1 (f.2 + 3) = some (Sl.v v22) /\
 eqT m.size m.size (
 (0 : Int) <= (0 : Int) /\ 0 < (x_4.len : Int) /\
 ∃ v26 : Int, gcell m1 x_4.blk (x_4.off + Int.toNat 0 * 1) = some (vi v26) /\
 0 <= v26 /\ v26 < (v22.len : Int) /\
 ∃ v28 : Int, gcell m1 v22.blk (v22.off + Int.toNat v26 * 1) = some (vi v28) /\
 q00 Tryz.prog q2u [Sl.v v18, vi v28] m1 fun r m1_1 =>
 Sam [m.size] m1 m1_1 /\
 ∃ r29 : Int, ∃ r29_1 : Bool, r = .tuple #[vi r29, vb r29_1] /\
 ((!r29_1) = true ->
 R (vb false) m1_1) /\
 ((!r29_1) = false ->
 ∃ v38 : Sl, gcell m1_1 m0.1 (m0.2 + 3 + 5) = some (Sl.v v38) /\
 0 <= r29 /\ r29 < (v38.len : Int) /\
 ∃ v41_0 : Int, gcell m1_1 v38.blk (v38.off + Int.toNat r29 * 3) = some (vi v41_0) /\
 ∃ v41_1 : Int, gcell m1_1 v38.blk (v38.off + Int.toNat r29 * 3 + 1) = some (vi v41_1) /\
 ∃ v41_2 : Sl, gcell m1_1 v38.blk (v38.off + Int.toNat r29 * 3 + 2) = some (Sl.v v41_2) /\
 let m1_2 : Mem := m1_1.push (.cells (vals [.i 0, .i 0, .s Sl.nil]) 149)
 eqT m1_1.size m1_1.size (
 let m1_3 : Mem := scells m1_2 m1_1.size 0 [.i v41_0, .i v41_1, .s v41_2]
 eqT m.size m.size (
 ((x_0 == 14) = true ->
 eqT m1_1.size m1_1.size (
 R (vb (decide (v41_0 < 999999))) m1_3)) /\
 ((x_0 == 14) = false ->
 ((x_0 == 19) = true ->
 eqT m.size m.size (
 eqT m1_1.size m1_1.size (
 R (vb (decide (x_2 < (v41_2.len : Int)))) m1_3))) /\
 ((x_0 == 19) = false ->
 ((x_0 == 21) = true ->
 ∃ v63 : Sl, gcell m1_3 m0.1 m0.2 = some (Sl.v v63) /\
 eqT m.size m.size (
 eqT m1_1.size m1_1.size (
 q00 Tryz.prog q59 [Sl.v v63, vi x_2] m1_3 fun r_1 m1_4 =>
 Sam [m1_1.size, m.size] m1_3 m1_4 /\
 ∃ r66 : Sl, r_1 = Sl.v r66 /\
 gcell m1_4 m1_1.size 1 = gcell m1_3 m1_1.size 1 /\
 q00 Tryz.prog q23 [Sl.v r66, vi v41_1] m1_4 fun r_2 m1_5 =>
 Sam [m1_1.size, m.size] m1_4 m1_5 /\
 ∃ r69 : Bool, r_2 = vb r69 /\
 R (vb r69) m1_5))) /\
 ((x_0 == 21) = false ->
 eqT m.size m.size (
 (0 : Int) <= (1 : Int) /\ 1 <= (x_4.len : Int) /\ (x_4.len : Int) <= (x_4.cap : Int) /\
 ∃ (I0 : Sl -> Int -> Mem -> Prop) (μ0 : Sl -> Int -> Mem -> Nat),
 I0 Sl.nil 0 m1_3 /\
 (∀ (further : Sl) (v74 : Int) (m1_6 : Mem), I0 further v74 m1_6 ->
 ((decide (v74 < ((Sl.cut x_4 (Int.toNat 1) (Int.toNat (x_4.len : Int)) 1).len : Int))) = true ->
 0 <= v74 /\ v74 < ((Sl.cut x_4 (Int.toNat 1) (Int.toNat (x_4.len : Int)) 1).len : Int) /\
 ∃ v77 : Int, gcell m1_6 ((Sl.cut x_4 (Int.toNat 1) (Int.toNat (x_4.len : Int)) 1).blk) ((Sl.cut x_4 (Int.toNat 1) (Int.toNat (x_4.len : Int)) 1).off + Int.toNat v74 * 1) = some (vi v77) /\
 ∃ v82 : Sl, gcell m1_6 f.1 (f.2 + 3) = some (Sl.v v82) /\
 0 <= v77 /\ v77 < (v82.len : Int) /\
 ∃ v85 : Int, gcell m1_6 v82.blk (v82.off + Int.toNat v77 * 1) = some (vi v85) /\
 let m1_7 : Mem := m1_6.push (.cells (vals [.i v85]) 3)
 appC m1_7 3 [.i 0] 8 further (Sl.mk m1_6.size 0 1 1) fun r87 m1_8 =>
 Sam [m1_1.size, m.size] m1_7 m1_8 /\
 eqS (SV.box m1_1.size 149 [.i v41_0, .i v41_1, .s v41_2]) (SV.box m1_1.size 149 [.i v41_0, .i v41_1, .s v41_2]) (
 eqS (SV.box m.size 86 [.i x_0, .i x_1, .i x_2, .i x_3, .s x_4, .s x_5]) (SV.box m.size 86 [.i x_0, .i x_1, .i x_2, .i x_3, .s x_4, .s x_5]) (
 I0 r87 (w64 (v74 + 1)) m1_8 /\ μ0 r87 (w64 (v74 + 1)) m1_8 < μ0 further v74 m1_6))) /\
 ((decide (v74 < ((Sl.cut x_4 (Int.toNat 1) (Int.toNat (x_4.len : Int)) 1).len : Int))) = false ->
 eqT m1_1.size m1_1.size (
 q00 Tryz.prog q72 [Sl.v v41_2] m1_6 fun r_3 m1_9 =>
 Sam [m1_1.size, m.size] m1_6 m1_9 /\
 ∃ r91 : Sl, r_3 = Sl.v r91 /\
 q00 Tryz.prog q4c [Sl.v r91, Sl.v further] m1_9 fun r_4 m1_10 =>
 Sam [m1_1.size, m.size] m1_9 m1_10 /\
 ∃ r93 : Bool, r_4 = vb r93 /\
 ((!r93) = true ->
 R (vb false) m1_10) /\
 ((!r93) = false ->
 eqT m.size m.size (
 ((x_0 == 17) = true ->
 ∃ v103 : Sl, gcell m1_10 f.1 (f.2 + 5) = some (Sl.v v103) /\
 eqT m.size m.size (
 (0 : Int) <= (0 : Int) /\ 0 < (x_4.len : Int) /\
 ∃ v107 : Int, gcell m1_10 x_4.blk (x_4.off + Int.toNat 0 * 1) = some (vi v107) /\
 0 <= v107 /\ v107 < (v103.len : Int) /\
 ∃ v109 : Int, gcell m1_10 v103.blk (v103.off + Int.toNat v107 * 1) = some (vi v109) /\
 ((v109 != 0) = true ->
 R (vb false) m1_10) /\
 ((v109 != 0) = false ->
 eqT m1_1.size m1_1.size (
 q00 Tryz.prog q1s [vp m0.1 m0.2, .agg #[vi v41_0, vi v41_1, Sl.v v41_2]] m1_10 fun r_5 m1_11 =>
 Sam [m1_1.size, m.size] m1_10 m1_11 /\
 ∃ r115 : Bool, r_5 = vb r115 /\
 R (vb r115) m1_11)))) /\
 ((x_0 == 17) = false ->
 eqT m1_1.size m1_1.size (
 q00 Tryz.prog q1s [vp m0.1 m0.2, .agg #[vi v41_0, vi v41_1, Sl.v v41_2]] m1_10 fun r_6 m1_12 =>
 Sam [m1_1.size, m.size] m1_10 m1_12 /\
 ∃ r115_1 : Bool, r_6 = vb r115_1 /\
 R (vb r115_1) m1_12)))))))))))))))
theorem q99 (m0 f : Nat × Nat) (x_0 x_1 x_2 x_3 : Int) (x_4 x_5 : Sl) (m : Mem) (R : Value -> Mem -> Prop) (hvc : q57 m0 f x_0 x_1 x_2 x_3 x_4 x_5 m R) : q00 Tryz.prog q3n [vp m0.1 m0.2, vp f.1 f.2, .agg #[vi x_0, vi x_1, vi x_2, vi x_3, Sl.v x_4, Sl.v x_5]] m R :=
 vcs (A := ⟨[(1, [0, 1, 2, 4, 8, 0, 32, 64, 128, 0, 512, 1024, 2048, 4352, 8192, 16400, 32768, 65536, 65536, 262143, 1048575], [0, 1, 3, 7, 15, 0, 32, 96, 224, 0, 512, 1536, 3584, 8160, 16352, 32767, 65535, 131071, 131071, 262143, 1048575]), (11, [0, 1, 2, 4, 8, 0, 32, 80, 0, 256, 640, 2047], [0, 1, 3, 7, 15, 0, 32, 127, 0, 256, 1023, 2047]), (18, [0, 1, 2, 0, 12, 16, 48, 64, 192, 320, 576, 1024, 3072, 5120, 9216, 1024, 33792, 66560, 132096, 279552, 525312, 1049600, 2098240, 4194368], [0, 1, 3, 0, 15, 31, 63, 127, 255, 511, 1023, 2047, 4095, 8191, 16383, 2047, 34815, 100351, 231423, 524287, 1048575, 2097151, 4194303, 8388607])], [(14, [(10, .S), (74, .I)])], [], [(14, [125, 121])]⟩) (n := 116) (rs := [.tmp 6]) (args := [.c (.p m0.1 m0.2), .c (.p f.1 f.2), .agg [.i x_0, .i x_1, .i x_2, .i x_3, .s x_4, .s x_5]]) (c := q05 Tryz.f131) Tryz.func131 hvc
def q6r (m0 f : Nat × Nat) (x_0 x_1 x_2 x_3 : Int) (x_4 x_5 : Sl) (m : Mem) (R : Value -> Mem -> Prop) : Prop :=
 let m1 : Mem := m.push (.cells (vals [.i x_0, .i x_1, .i x_2, .i x_3, .s x_4, .s x_5]) 86)
 eqT m.size m.size (
 eqT m.size m.size (
 q00 Tryz.prog q26 [vp f.1 f.2, Sl.v x_4] m1 fun r m1_1 =>
 Sam [m.size] m1 m1_1 /\
 ∃ r13 : Sl, r = Sl.v r13 /\
 eqT m.size m.size (
 ((x_0 == 0) = true ->
 eqT m.size m.size (
 q00 Tryz.prog q1f [vp f.1 f.2, vi x_1, vi x_2, vi 0] m1_1 fun r_1 m1_2 =>
 Sam [m.size] m1_1 m1_2 /\
 R (.tuple #[]) m1_2)) /\
 ((x_0 == 0) = false ->
 ((x_0 == 5) = true ->
 (0 : Int) <= (0 : Int) /\ 0 < (r13.len : Int) /\
 ∃ v31 : Int, gcell m1_1 r13.blk (r13.off + Int.toNat 0 * 1) = some (vi v31) /\
 ∃ v37 : Sl, gcell m1_1 m0.1 (m0.2 + 3 + 4) = some (Sl.v v37) /\
 let m1_3 : Mem := m1_1.push (.cells (vals [.i v31]) 3)
 appC m1_3 3 [.i 0] 8 v37 (Sl.mk m1_1.size 0 1 1) fun r40 m1_4 =>
 Sam [m.size] m1_3 m1_4 /\
 wrOk m1_4 m0.1 (m0.2 + 3 + 4) 1 /\
 let m1_5 : Mem := scells m1_4 m0.1 (m0.2 + 3 + 4) [.s r40]
 Sam [m.size] m1_4 m1_5 /\
 eqT m.size m.size (
 q00 Tryz.prog q1f [vp f.1 f.2, vi x_1, vi v31, vi 0] m1_5 fun r_2 m1_6 =>
 Sam [m.size] m1_5 m1_6 /\
 R (.tuple #[]) m1_6)) /\
 ((x_0 == 5) = false ->
 eqT m.size m.size (
 (0 : Int) <= (0 : Int) /\ 0 < (r13.len : Int) /\
 ∃ v20 : Int, gcell m1_1 r13.blk (r13.off + Int.toNat 0 * 1) = some (vi v20) /\
 (0 : Int) <= (1 : Int) /\ 1 < (r13.len : Int) /\
 ∃ v23 : Int, gcell m1_1 r13.blk (r13.off + Int.toNat 1 * 1) = some (vi v23) /\
 q00 Tryz.prog qf2 [vi x_0, vi v20, vi v23] m1_1 fun r_3 m1_7 =>
 Sam [m.size] m1_1 m1_7 /\
 ∃ r24 : Int, r_3 = vi r24 /\
 eqT m.size m.size (
 q00 Tryz.prog q1f [vp f.1 f.2, vi x_1, vi r24, vi 0] m1_7 fun r_4 m1_8 =>
 Sam [m.size] m1_7 m1_8 /\
 R (.tuple #[]) m1_8)))))))
theorem qb5 (m0 f : Nat × Nat) (x_0 x_1 x_2 x_3 : Int) (x_4 x_5 : Sl) (m : Mem) (R : Value -> Mem -> Prop) (hvc : q6r m0 f x_0 x_1 x_2 x_3 x_4 x_5 m R) : q00 Tryz.prog q4g [vp m0.1 m0.2, vp f.1 f.2, .agg #[vi x_0, vi x_1, vi x_2, vi x_3, Sl.v x_4, Sl.v x_5]] m R :=
 vcs (A := ⟨[(4, [0, 1, 0, 4, 8, 0, 32, 64, 146, 511], [0, 1, 0, 4, 12, 0, 32, 96, 255, 511])], [], [], []⟩) (n := 49) (rs := []) (args := [.c (.p m0.1 m0.2), .c (.p f.1 f.2), .agg [.i x_0, .i x_1, .i x_2, .i x_3, .s x_4, .s x_5]]) (c := q05 Tryz.f132) Tryz.func132 hvc
def ql2 (f : Nat × Nat) (reg w own : Int) (m : Mem) (R : Value -> Mem -> Prop) : Prop :=
 ∃ v11 : Sl, gcell m f.1 (f.2 + 3) = some (Sl.v v11) /\
 ∃ v16 : Sl, gcell m f.1 (f.2 + 4) = some (Sl.v v16) /\
 0 <= reg /\ reg < (v11.len : Int) /\
 wrOk m v11.blk (v11.off + Int.toNat reg * 1) 1 /\
 let m1 : Mem := scells m v11.blk (v11.off + Int.toNat reg * 1) [.i w]
 0 <= reg /\ reg < (v16.len : Int) /\
 wrOk m1 v16.blk (v16.off + Int.toNat reg * 1) 1 /\
 let m1_1 : Mem := scells m1 v16.blk (v16.off + Int.toNat reg * 1) [.i own]
 R (.tuple #[]) m1_1
theorem qh6 (f : Nat × Nat) (reg w own : Int) (m : Mem) (R : Value -> Mem -> Prop) (hvc : ql2 f reg w own m R) : q00 Tryz.prog q1f [vp f.1 f.2, vi reg, vi w, vi own] m R :=
 vcs (A := ⟨[(0, [0, 1, 2, 4, 0, 0, 32, 64, 128, 0, 0, 0, 1311, 5407, 16383, 32767], [0, 1, 3, 7, 0, 0, 32, 96, 224, 0, 0, 0, 1535, 5631, 16383, 32767])], [], [], []⟩) (n := 22) (rs := []) (args := [.c (.p f.1 f.2), .c (.i reg), .c (.i w), .c (.i own)]) (c := q05 Tryz.f133) Tryz.func133 hvc
def q5n (m0 f : Nat × Nat) (x_0 x_1 x_2 x_3 : Int) (x_4 x_5 : Sl) (m : Mem) (R : Value -> Mem -> Prop) : Prop :=
 let m1 : Mem := m.push (.cells (vals [.i x_0, .i x_1, .i x_2, .i x_3, .s x_4, .s x_5]) 86)
 eqT m.size m.size (
 q00 Tryz.prog q26 [vp f.1 f.2, Sl.v x_4] m1 fun r m1_1 =>
 Sam [m.size] m1 m1_1 /\
 ∃ r12 : Sl, r = Sl.v r12 /\
 eqT m.size m.size (
 ((x_3 == 0) = true ->
 eqT m.size m.size (
 q00 Tryz.prog q28 [vp m0.1 m0.2, vi x_2, Sl.v r12] m1_1 fun r_1 m1_2 =>
 Sam [m.size] m1_1 m1_2 /\
 ∃ r32 : Int, r_1 = vi r32 /\
 R (vi r32) m1_2)) /\
 ((x_3 == 0) = false ->
 ∃ v20 : Sl, gcell m1_1 f.1 (f.2 + 5) = some (Sl.v v20) /\
 eqT m.size m.size (
 0 <= (w64 (x_3 - 1)) /\ (w64 (x_3 - 1)) < (v20.len : Int) /\
 ∃ v25 : Int, gcell m1_1 v20.blk (v20.off + Int.toNat (w64 (x_3 - 1)) * 1) = some (vi v25) /\
 ((v25 == 0) = true ->
 eqT m.size m.size (
 q00 Tryz.prog q28 [vp m0.1 m0.2, vi x_2, Sl.v r12] m1_1 fun r_2 m1_3 =>
 Sam [m.size] m1_1 m1_3 /\
 ∃ r32_1 : Int, r_2 = vi r32_1 /\
 R (vi r32_1) m1_3)) /\
 ((v25 == 0) = false ->
 ∃ v36 : Sl, gcell m1_1 f.1 (f.2 + 5) = some (Sl.v v36) /\
 eqT m.size m.size (
 0 <= (w64 (x_3 - 1)) /\ (w64 (x_3 - 1)) < (v36.len : Int) /\
 ∃ v41 : Int, gcell m1_1 v36.blk (v36.off + Int.toNat (w64 (x_3 - 1)) * 1) = some (vi v41) /\
 ∃ v45 : Sl, gcell m1_1 f.1 (f.2 + 5) = some (Sl.v v45) /\
 eqT m.size m.size (
 0 <= (w64 (x_3 - 1)) /\ (w64 (x_3 - 1)) < (v45.len : Int) /\
 wrOk m1_1 v45.blk (v45.off + Int.toNat (w64 (x_3 - 1)) * 1) 1 /\
 let m1_4 : Mem := scells m1_1 v45.blk (v45.off + Int.toNat (w64 (x_3 - 1)) * 1) [.i 0]
 Sam [m.size] m1_1 m1_4 /\
 ∃ v54 : Sl, gcell m1_4 m0.1 (m0.2 + 3 + 5) = some (Sl.v v54) /\
 eqT m.size m.size (
 0 <= (w64 (v41 - 1000)) /\ (w64 (v41 - 1000)) < (v54.len : Int) /\
 wrOk m1_4 v54.blk (v54.off + Int.toNat (w64 (v41 - 1000)) * 3) 3 /\
 let m1_5 : Mem := scells m1_4 v54.blk (v54.off + Int.toNat (w64 (v41 - 1000)) * 3) [.i 1, .i x_2, .s r12]
 Sam [m.size] m1_4 m1_5 /\
 R (vi v41) m1_5))))))))
theorem q9h (m0 f : Nat × Nat) (x_0 x_1 x_2 x_3 : Int) (x_4 x_5 : Sl) (m : Mem) (R : Value -> Mem -> Prop) (hvc : q5n m0 f x_0 x_1 x_2 x_3 x_4 x_5 m R) : q00 Tryz.prog q3w [vp m0.1 m0.2, vp f.1 f.2, .agg #[vi x_0, vi x_1, vi x_2, vi x_3, Sl.v x_4, Sl.v x_5]] m R :=
 vcs (A := ⟨[(2, [0, 1, 2, 4, 8, 24, 40, 72, 8, 264, 520, 1160, 2056, 4104, 8200], [0, 1, 3, 7, 15, 31, 63, 127, 15, 271, 783, 2047, 4095, 8191, 16383]), (4, [0, 1, 2, 4, 0, 16, 32, 72, 128, 511], [0, 1, 3, 7, 0, 16, 48, 127, 255, 511]), (5, [0, 1, 2, 4, 0, 16, 32, 127, 255], [0, 1, 3, 7, 0, 16, 48, 127, 255]), (6, [0, 1, 2, 4, 8, 0, 32, 0, 128, 0, 768, 2047, 4095], [0, 1, 3, 7, 15, 0, 32, 0, 128, 0, 896, 2047, 4095])], [], [], []⟩) (n := 63) (rs := [.tmp 6]) (args := [.c (.p m0.1 m0.2), .c (.p f.1 f.2), .agg [.i x_0, .i x_1, .i x_2, .i x_3, .s x_4, .s x_5]]) (c := q05 Tryz.f134) Tryz.func134 hvc
def q8b (m0 : Nat × Nat) (tag : Int) (fields : Sl) (m : Mem) (R : Value -> Mem -> Prop) : Prop :=
 ∃ v13 : Sl, gcell m m0.1 (m0.2 + 3 + 5) = some (Sl.v v13) /\
 let m1 : Mem := m.push (.cells (vals [.s Sl.nil]) 193)
 eqT m.size m.size (
 let m1_1 : Mem := scells m1 m.size 0 [.s v13]
 q00 Tryz.prog q74 [vp m.size 0, vi tag, Sl.v fields] m1_1 fun r m1_2 =>
 ∃ r16 : Int, r = vi r16 /\
 ∃ v18 : Sl, gcell m1_2 m.size 0 = some (Sl.v v18) /\
 wrOk m1_2 m0.1 (m0.2 + 3 + 5) 1 /\
 let m1_3 : Mem := scells m1_2 m0.1 (m0.2 + 3 + 5) [.s v18]
 R (vi r16) m1_3)
theorem qd2 (m0 : Nat × Nat) (tag : Int) (fields : Sl) (m : Mem) (R : Value -> Mem -> Prop) (hvc : q8b m0 tag fields m R) : q00 Tryz.prog q28 [vp m0.1 m0.2, vi tag, Sl.v fields] m R :=
 vcs (A := ⟨[], [], [], []⟩) (n := 23) (rs := [.tmp 6]) (args := [.c (.p m0.1 m0.2), .c (.i tag), .c (.s fields)]) (c := q05 Tryz.f135) Tryz.func135 hvc
def q9c (f : Nat × Nat) (regs : Sl) (m : Mem) (R : Value -> Mem -> Prop) : Prop :=
 0 <= (regs.len : Int) /\ (regs.len : Int) <= (regs.len : Int) /\ ((8 : Nat) : Int) * (regs.len : Int) <= 281474976710656 /\ (regs.len : Int) <= 9223372036854775807 /\
 let m1 : Mem := m.push (.cells (vals (zrow [.i 0] (Int.toNat (regs.len : Int)))) 3)
 ∃ (I0 : Int -> Mem -> Prop) (μ0 : Int -> Mem -> Nat),
 I0 0 m1 /\
 (∀ (v13 : Int) (m1_1 : Mem), I0 v13 m1_1 ->
 ((decide (v13 < (regs.len : Int))) = true ->
 0 <= v13 /\ v13 < (regs.len : Int) /\
 ∃ v17 : Int, gcell m1_1 regs.blk (regs.off + Int.toNat v13 * 1) = some (vi v17) /\
 ∃ v23 : Sl, gcell m1_1 f.1 (f.2 + 3) = some (Sl.v v23) /\
 0 <= v17 /\ v17 < (v23.len : Int) /\
 ∃ v26 : Int, gcell m1_1 v23.blk (v23.off + Int.toNat v17 * 1) = some (vi v26) /\
 0 <= v13 /\ v13 < ((Sl.mk m.size 0 (Int.toNat (regs.len : Int)) (Int.toNat (regs.len : Int))).len : Int) /\
 wrOk m1_1 ((Sl.mk m.size 0 (Int.toNat (regs.len : Int)) (Int.toNat (regs.len : Int))).blk) ((Sl.mk m.size 0 (Int.toNat (regs.len : Int)) (Int.toNat (regs.len : Int))).off + Int.toNat v13 * 1) 1 /\
 let m1_2 : Mem := scells m1_1 ((Sl.mk m.size 0 (Int.toNat (regs.len : Int)) (Int.toNat (regs.len : Int))).blk) ((Sl.mk m.size 0 (Int.toNat (regs.len : Int)) (Int.toNat (regs.len : Int))).off + Int.toNat v13 * 1) [.i v26]
 I0 (w64 (v13 + 1)) m1_2 /\ μ0 (w64 (v13 + 1)) m1_2 < μ0 v13 m1_1) /\
 ((decide (v13 < (regs.len : Int))) = false ->
 R (Sl.v (Sl.mk m.size 0 (Int.toNat (regs.len : Int)) (Int.toNat (regs.len : Int)))) m1_1))
theorem qey (f : Nat × Nat) (regs : Sl) (m : Mem) (R : Value -> Mem -> Prop) (hvc : q9c f regs m R) : q00 Tryz.prog q26 [vp f.1 f.2, Sl.v regs] m R :=
 vcs (A := ⟨[], [(3, [(13, .I)])], [], []⟩) (n := 30) (rs := [.tmp 4]) (args := [.c (.p f.1 f.2), .c (.s regs)]) (c := q05 Tryz.f136) Tryz.func136 hvc
def qbm (h : Nat × Nat) (w : Int) (m : Mem) (R : Value -> Mem -> Prop) : Prop :=
 let m1 : Mem := m.push (.cells (vals [.i w]) 3)
 ∃ (I0 : Sl -> Mem -> Prop) (μ0 : Sl -> Mem -> Nat),
 I0 (Sl.mk m.size 0 1 1) m1 /\
 (∀ (work : Sl) (m1_1 : Mem), I0 work m1_1 ->
 ((decide ((work.len : Int) > 0)) = true ->
 ∃ v15 : Sl, gcell m1_1 h.1 h.2 = some (Sl.v v15) /\
 0 <= (w64 ((work.len : Int) - 1)) /\ (w64 ((work.len : Int) - 1)) < (work.len : Int) /\
 ∃ v21 : Int, gcell m1_1 work.blk (work.off + Int.toNat (w64 ((work.len : Int) - 1)) * 1) = some (vi v21) /\
 q00 Tryz.prog q2u [Sl.v v15, vi v21] m1_1 fun r m1_2 =>
 ∃ r22 : Int, ∃ r22_1 : Bool, r = .tuple #[vi r22, vb r22_1] /\
 (0 : Int) <= (0 : Int) /\ 0 <= (w64 ((work.len : Int) - 1)) /\ (w64 ((work.len : Int) - 1)) <= (work.cap : Int) /\
 ((!r22_1) = true ->
 I0 (Sl.cut work (Int.toNat 0) (Int.toNat (w64 ((work.len : Int) - 1))) 1) m1_2 /\ μ0 (Sl.cut work (Int.toNat 0) (Int.toNat (w64 ((work.len : Int) - 1))) 1) m1_2 < μ0 work m1_1) /\
 ((!r22_1) = false ->
 ∃ v34 : Sl, gcell m1_2 h.1 h.2 = some (Sl.v v34) /\
 0 <= r22 /\ r22 < (v34.len : Int) /\
 ∃ v38 : Int, gcell m1_2 v34.blk (v34.off + Int.toNat r22 * 3) = some (vi v38) /\
 0 <= r22 /\ r22 < (v34.len : Int) /\
 wrOk m1_2 v34.blk (v34.off + Int.toNat r22 * 3) 1 /\
 let m1_3 : Mem := scells m1_2 v34.blk (v34.off + Int.toNat r22 * 3) [.i (w64 (v38 - 1))]
 ∃ v44 : Sl, gcell m1_3 h.1 h.2 = some (Sl.v v44) /\
 0 <= r22 /\ r22 < (v44.len : Int) /\
 ∃ v48 : Int, gcell m1_3 v44.blk (v44.off + Int.toNat r22 * 3) = some (vi v48) /\
 ((v48 == 0) = true ->
 ∃ v53 : Sl, gcell m1_3 h.1 h.2 = some (Sl.v v53) /\
 0 <= r22 /\ r22 < (v53.len : Int) /\
 ∃ v57 : Sl, gcell m1_3 v53.blk (v53.off + Int.toNat r22 * 3 + 2) = some (Sl.v v57) /\
 appC m1_3 3 [.i 0] 8 (Sl.cut work (Int.toNat 0) (Int.toNat (w64 ((work.len : Int) - 1))) 1) v57 fun r58 m1_4 =>
 ∃ v61 : Sl, gcell m1_4 h.1 h.2 = some (Sl.v v61) /\
 0 <= r22 /\ r22 < (v61.len : Int) /\
 wrOk m1_4 v61.blk (v61.off + Int.toNat r22 * 3) 3 /\
 let m1_5 : Mem := scells m1_4 v61.blk (v61.off + Int.toNat r22 * 3) [.i 0, .i 0, .s Sl.nil]
 I0 r58 m1_5 /\ μ0 r58 m1_5 < μ0 work m1_1) /\
 ((v48 == 0) = false ->
 I0 (Sl.cut work (Int.toNat 0) (Int.toNat (w64 ((work.len : Int) - 1))) 1) m1_3 /\ μ0 (Sl.cut work (Int.toNat 0) (Int.toNat (w64 ((work.len : Int) - 1))) 1) m1_3 < μ0 work m1_1))) /\
 ((decide ((work.len : Int) > 0)) = false ->
 q00 Tryz.prog q52 [vp h.1 h.2] m1_1 fun r_1 m1_6 =>
 R (.tuple #[]) m1_6))
theorem qgq (h : Nat × Nat) (w : Int) (m : Mem) (R : Value -> Mem -> Prop) (hvc : qbm h w m R) : q00 Tryz.prog q7s [vp h.1 h.2, vi w] m R :=
 vcs (A := ⟨[(2, [0, 1, 2, 0, 0, 16, 32, 72, 128, 260, 512, 1024, 1024, 4095, 16383], [0, 1, 3, 0, 0, 16, 48, 120, 248, 511, 1023, 2047, 2047, 4095, 16383])], [(1, [(4, .S)])], [], []⟩) (n := 67) (rs := []) (args := [.c (.p h.1 h.2), .c (.i w)]) (c := q05 Tryz.f137) Tryz.func137 hvc
def q8j (m0 f : Nat × Nat) (x_0 x_1 x_2 x_3 : Int) (x_4 x_5 : Sl) (m : Mem) (R : Value -> Mem -> Prop) : Prop :=
 let m1 : Mem := m.push (.cells (vals [.i x_0, .i x_1, .i x_2, .i x_3, .s x_4, .s x_5]) 86)
 ∃ v12 : Sl, gcell m1 f.1 (f.2 + 3) = some (Sl.v v12) /\
 eqT m.size m.size (
 (0 : Int) <= (0 : Int) /\ 0 < (x_4.len : Int) /\
 ∃ v16 : Int, gcell m1 x_4.blk (x_4.off + Int.toNat 0 * 1) = some (vi v16) /\
 0 <= v16 /\ v16 < (v12.len : Int) /\
 ∃ v18 : Int, gcell m1 v12.blk (v12.off + Int.toNat v16 * 1) = some (vi v18) /\
 eqT m.size m.size (
 q00 Tryz.prog q27 [vp m0.1 m0.2, vi v18, vb (x_0 == 17)] m1 fun r m1_1 =>
 Sam [m.size] m1 m1_1 /\
 ∃ r24 : Bool, r = vb r24 /\
 (r24 = true ->
 ∃ v28 : Sl, gcell m1_1 f.1 (f.2 + 5) = some (Sl.v v28) /\
 eqT m.size m.size (
 (0 : Int) <= (0 : Int) /\ 0 < (x_4.len : Int) /\
 ∃ v32 : Int, gcell m1_1 x_4.blk (x_4.off + Int.toNat 0 * 1) = some (vi v32) /\
 0 <= v32 /\ v32 < (v28.len : Int) /\
 wrOk m1_1 v28.blk (v28.off + Int.toNat v32 * 1) 1 /\
 let m1_2 : Mem := scells m1_1 v28.blk (v28.off + Int.toNat v32 * 1) [.i v18]
 Sam [m.size] m1_1 m1_2 /\
 eqT m.size m.size (
 (0 : Int) <= (1 : Int) /\ 1 <= (x_4.len : Int) /\ (x_4.len : Int) <= (x_4.cap : Int) /\
 ∃ (I0 : Int -> Mem -> Prop) (μ0 : Int -> Mem -> Nat),
 I0 0 m1_2 /\
 (∀ (v39 : Int) (m1_3 : Mem), I0 v39 m1_3 ->
 ((decide (v39 < ((Sl.cut x_4 (Int.toNat 1) (Int.toNat (x_4.len : Int)) 1).len : Int))) = true ->
 0 <= v39 /\ v39 < ((Sl.cut x_4 (Int.toNat 1) (Int.toNat (x_4.len : Int)) 1).len : Int) /\
 ∃ v42 : Int, gcell m1_3 ((Sl.cut x_4 (Int.toNat 1) (Int.toNat (x_4.len : Int)) 1).blk) ((Sl.cut x_4 (Int.toNat 1) (Int.toNat (x_4.len : Int)) 1).off + Int.toNat v39 * 1) = some (vi v42) /\
 ∃ v46 : Sl, gcell m1_3 f.1 (f.2 + 4) = some (Sl.v v46) /\
 0 <= v42 /\ v42 < (v46.len : Int) /\
 ∃ v49 : Int, gcell m1_3 v46.blk (v46.off + Int.toNat v42 * 1) = some (vi v49) /\
 0 <= v42 /\ v42 < (v46.len : Int) /\
 wrOk m1_3 v46.blk (v46.off + Int.toNat v42 * 1) 1 /\
 let m1_4 : Mem := scells m1_3 v46.blk (v46.off + Int.toNat v42 * 1) [.i (w64 (v49 + 1))]
 Sam [m.size] m1_3 m1_4 /\
 eqS (SV.box m.size 86 [.i x_0, .i x_1, .i x_2, .i x_3, .s x_4, .s x_5]) (SV.box m.size 86 [.i x_0, .i x_1, .i x_2, .i x_3, .s x_4, .s x_5]) (
 I0 (w64 (v39 + 1)) m1_4 /\ μ0 (w64 (v39 + 1)) m1_4 < μ0 v39 m1_3)) /\
 ((decide (v39 < ((Sl.cut x_4 (Int.toNat 1) (Int.toNat (x_4.len : Int)) 1).len : Int))) = false ->
 R (.tuple #[]) m1_3))))) /\
 (r24 = false ->
 eqT m.size m.size (
 (0 : Int) <= (1 : Int) /\ 1 <= (x_4.len : Int) /\ (x_4.len : Int) <= (x_4.cap : Int) /\
 ∃ (I0_1 : Int -> Mem -> Prop) (μ0_1 : Int -> Mem -> Nat),
 I0_1 0 m1_1 /\
 (∀ (v39_1 : Int) (m1_5 : Mem), I0_1 v39_1 m1_5 ->
 ((decide (v39_1 < ((Sl.cut x_4 (Int.toNat 1) (Int.toNat (x_4.len : Int)) 1).len : Int))) = true ->
 0 <= v39_1 /\ v39_1 < ((Sl.cut x_4 (Int.toNat 1) (Int.toNat (x_4.len : Int)) 1).len : Int) /\
 ∃ v42_1 : Int, gcell m1_5 ((Sl.cut x_4 (Int.toNat 1) (Int.toNat (x_4.len : Int)) 1).blk) ((Sl.cut x_4 (Int.toNat 1) (Int.toNat (x_4.len : Int)) 1).off + Int.toNat v39_1 * 1) = some (vi v42_1) /\
 ∃ v46_1 : Sl, gcell m1_5 f.1 (f.2 + 4) = some (Sl.v v46_1) /\
 0 <= v42_1 /\ v42_1 < (v46_1.len : Int) /\
 ∃ v49_1 : Int, gcell m1_5 v46_1.blk (v46_1.off + Int.toNat v42_1 * 1) = some (vi v49_1) /\
 0 <= v42_1 /\ v42_1 < (v46_1.len : Int) /\
 wrOk m1_5 v46_1.blk (v46_1.off + Int.toNat v42_1 * 1) 1 /\
 let m1_6 : Mem := scells m1_5 v46_1.blk (v46_1.off + Int.toNat v42_1 * 1) [.i (w64 (v49_1 + 1))]
 Sam [m.size] m1_5 m1_6 /\
 eqS (SV.box m.size 86 [.i x_0, .i x_1, .i x_2, .i x_3, .s x_4, .s x_5]) (SV.box m.size 86 [.i x_0, .i x_1, .i x_2, .i x_3, .s x_4, .s x_5]) (
 I0_1 (w64 (v39_1 + 1)) m1_6 /\ μ0_1 (w64 (v39_1 + 1)) m1_6 < μ0_1 v39_1 m1_5)) /\
 ((decide (v39_1 < ((Sl.cut x_4 (Int.toNat 1) (Int.toNat (x_4.len : Int)) 1).len : Int))) = false ->
 R (.tuple #[]) m1_5))))))
theorem qdq (m0 f : Nat × Nat) (x_0 x_1 x_2 x_3 : Int) (x_4 x_5 : Sl) (m : Mem) (R : Value -> Mem -> Prop) (hvc : q8j m0 f x_0 x_1 x_2 x_3 x_4 x_5 m R) : q00 Tryz.prog q5g [vp m0.1 m0.2, vp f.1 f.2, .agg #[vi x_0, vi x_1, vi x_2, vi x_3, Sl.v x_4, Sl.v x_5]] m R :=
 vcs (A := ⟨[(1, [0, 1, 2, 4, 0, 16, 32, 64, 136, 256, 1023], [0, 1, 3, 7, 0, 16, 48, 112, 255, 511, 1023]), (3, [0, 1, 2, 4, 0, 16, 32, 64, 0, 511, 1023], [0, 1, 3, 7, 0, 16, 48, 112, 0, 511, 1023])], [(5, [(39, .I)])], [], [(5, [58])]⟩) (n := 53) (rs := []) (args := [.c (.p m0.1 m0.2), .c (.p f.1 f.2), .agg [.i x_0, .i x_1, .i x_2, .i x_3, .s x_4, .s x_5]]) (c := q05 Tryz.f138) Tryz.func138 hvc
def qgr (w : Int) (m : Mem) (R : Value -> Mem -> Prop) : Prop :=
 ((decide (w ≥ 1000)) = true ->
 R (vi 1) m) /\
 ((decide (w ≥ 1000)) = false ->
 R (vi 0) m)
theorem qdy (w : Int) (m : Mem) (R : Value -> Mem -> Prop) (hvc : qgr w m R) : q00 Tryz.prog q2x [vi w] m R :=
 vcs (A := ⟨[], [], [], []⟩) (n := 5) (rs := [.tmp 2]) (args := [.c (.i w)]) (c := q05 Tryz.f139) Tryz.func139 hvc
def qdv (s : Sl) (v : Int) (m : Mem) (R : Value -> Mem -> Prop) : Prop :=
 ∃ (I0 : Int -> Mem -> Prop) (μ0 : Int -> Mem -> Nat),
 I0 0 m /\
 (∀ (v8 : Int) (m1 : Mem), I0 v8 m1 ->
 ((decide (v8 < (s.len : Int))) = true ->
 0 <= v8 /\ v8 < (s.len : Int) /\
 ∃ v15 : Int, gcell m1 s.blk (s.off + Int.toNat v8 * 1) = some (vi v15) /\
 ((v == v15) = true ->
 R (vi v8) m1) /\
 ((v == v15) = false ->
 I0 (w64 (v8 + 1)) m1 /\ μ0 (w64 (v8 + 1)) m1 < μ0 v8 m1)) /\
 ((decide (v8 < (s.len : Int))) = false ->
 R (vi (-1)) m1))
theorem qbh (s : Sl) (v : Int) (m : Mem) (R : Value -> Mem -> Prop) (hvc : qdv s v m R) : q00 Tryz.prog q34 [Sl.v s, vi v] m R :=
 vcs (A := ⟨[], [(2, [(8, .I)])], [], []⟩) (n := 19) (rs := [.tmp 4]) (args := [.c (.s s), .c (.i v)]) (c := q05 Tryz.f140) Tryz.func140 hvc
def qfe (decls : Sl) (t : Int) (m : Mem) (R : Value -> Mem -> Prop) : Prop :=
 ((decide (t < 1)) = true ->
 R (Sl.v Sl.nil) m) /\
 ((decide (t < 1)) = false ->
 ((decide (t > (decls.len : Int))) = true ->
 R (Sl.v Sl.nil) m) /\
 ((decide (t > (decls.len : Int))) = false ->
 (0 : Int) <= (0 : Int) /\ 0 <= (w64 (t - 1)) /\ (w64 (t - 1)) <= (decls.cap : Int) /\
 q00 Tryz.prog q2q [Sl.v (Sl.cut decls (Int.toNat 0) (Int.toNat (w64 (t - 1))) 3)] m fun r m1 =>
 ∃ r20 : Int, r = vi r20 /\
 0 <= (w64 (t - 1)) /\ (w64 (t - 1)) < (decls.len : Int) /\
 ∃ v26 : Sl, gcell m1 decls.blk (decls.off + Int.toNat (w64 (t - 1)) * 3 + 2) = some (Sl.v v26) /\
 ∃ (I0 : Sl -> Int -> Mem -> Prop) (μ0 : Sl -> Int -> Mem -> Nat),
 I0 Sl.nil 0 m1 /\
 (∀ (list : Sl) (v28 : Int) (m1_1 : Mem), I0 list v28 m1_1 ->
 ((decide (v28 < (v26.len : Int))) = true ->
 let m1_2 : Mem := m1_1.push (.cells (vals [.i (w64 (r20 + v28))]) 3)
 appC m1_2 3 [.i 0] 8 list (Sl.mk m1_1.size 0 1 1) fun r36 m1_3 =>
 I0 r36 (w64 (v28 + 1)) m1_3 /\ μ0 r36 (w64 (v28 + 1)) m1_3 < μ0 list v28 m1_1) /\
 ((decide (v28 < (v26.len : Int))) = false ->
 R (Sl.v list) m1_1))))
theorem qlc (decls : Sl) (t : Int) (m : Mem) (R : Value -> Mem -> Prop) (hvc : qfe decls t m R) : q00 Tryz.prog q59 [Sl.v decls, vi t] m R :=
 vcs (A := ⟨[], [(6, [(6, .S), (28, .I)])], [], []⟩) (n := 39) (rs := [.tmp 4]) (args := [.c (.s decls), .c (.i t)]) (c := q05 Tryz.f141) Tryz.func141 hvc
end
end Go.Proofs.YtpggcodlaajceaaGreat
