/- Part of a proof, joined by a program: StC St5 St6 La7 Op1 Op2. -/
import Derived.Carry
import Derived.ChangeSame
import Derived.Deep.Slices
import Derived.OpenShut
import Derived.RowKit
import Derived.Test.YtpggcodlaajceaaGreatS02
import Derived.Test.YtpggcodlaajceaaGreatS09
import Derived.Test.YtpggcodlaajceaaGreatS13
import Derived.Test.YtpggcodlaajceaaGreatS14
namespace Go.Proofs.YtpggcodlaajceaaGreat
open Go.Vc
section
set_option linter.unusedVariables false
set_option maxRecDepth 100000
def q8e (mb sb b1 b0 : Nat) (im_0 im_1 : Sl) (m : Mem) (R : Value -> Mem -> Prop) : Prop :=
 ∃ (I0 : Mem -> Prop) (μ0 : Mem -> Nat),
 I0 m /\
 (∀ (m1_12 : Mem), I0 m1_12 ->
 ∃ v36 : Int, gcell m1_12 mb 3 = some (vi v36) /\
 ((v36 == 3) = true ->
 ∃ v43 : Sl, gcell m1_12 mb 9 = some (Sl.v v43) /\
 ∃ v46 : Sl, gcell m1_12 mb 9 = some (Sl.v v46) /\
 0 <= (w64 ((v46.len : Int) - 1)) /\ (w64 ((v46.len : Int) - 1)) < (v43.len : Int) /\
 ∃ v50_0 : Int, gcell m1_12 v43.blk (v43.off + Int.toNat (w64 ((v46.len : Int) - 1)) * 6) = some (vi v50_0) /\
 ∃ v50_1 : Int, gcell m1_12 v43.blk (v43.off + Int.toNat (w64 ((v46.len : Int) - 1)) * 6 + 1) = some (vi v50_1) /\
 ∃ v50_2 : Int, gcell m1_12 v43.blk (v43.off + Int.toNat (w64 ((v46.len : Int) - 1)) * 6 + 2) = some (vi v50_2) /\
 ∃ v50_3 : Sl, gcell m1_12 v43.blk (v43.off + Int.toNat (w64 ((v46.len : Int) - 1)) * 6 + 3) = some (Sl.v v50_3) /\
 ∃ v50_4 : Sl, gcell m1_12 v43.blk (v43.off + Int.toNat (w64 ((v46.len : Int) - 1)) * 6 + 4) = some (Sl.v v50_4) /\
 ∃ v50_5 : Sl, gcell m1_12 v43.blk (v43.off + Int.toNat (w64 ((v46.len : Int) - 1)) * 6 + 5) = some (Sl.v v50_5) /\
 let m1_13 : Mem := m1_12.push (.cells (vals [.i 0, .i 0, .i 0, .s Sl.nil, .s Sl.nil, .s Sl.nil]) 84)
 eqT m1_12.size m1_12.size (
 let m1_14 : Mem := scells m1_13 m1_12.size 0 [.i v50_0, .i v50_1, .i v50_2, .s v50_3, .s v50_4, .s v50_5]
 eqT b0 b0 (
 eqT m1_12.size m1_12.size (
 0 <= v50_0 /\ v50_0 < (im_1.len : Int) /\
 ∃ v57 : Sl, gcell m1_14 im_1.blk (im_1.off + Int.toNat v50_0 * 5 + 4) = some (Sl.v v57) /\
 eqT m1_12.size m1_12.size (
 0 <= v50_1 /\ v50_1 < (v57.len : Int) /\
 ∃ v61_0 : Int, gcell m1_14 v57.blk (v57.off + Int.toNat v50_1 * 6) = some (vi v61_0) /\
 ∃ v61_1 : Int, gcell m1_14 v57.blk (v57.off + Int.toNat v50_1 * 6 + 1) = some (vi v61_1) /\
 ∃ v61_2 : Int, gcell m1_14 v57.blk (v57.off + Int.toNat v50_1 * 6 + 2) = some (vi v61_2) /\
 ∃ v61_3 : Int, gcell m1_14 v57.blk (v57.off + Int.toNat v50_1 * 6 + 3) = some (vi v61_3) /\
 ∃ v61_4 : Sl, gcell m1_14 v57.blk (v57.off + Int.toNat v50_1 * 6 + 4) = some (Sl.v v61_4) /\
 ∃ v61_5 : Sl, gcell m1_14 v57.blk (v57.off + Int.toNat v50_1 * 6 + 5) = some (Sl.v v61_5) /\
 let m1_15 : Mem := m1_14.push (.cells (vals [.i 0, .i 0, .i 0, .i 0, .s Sl.nil, .s Sl.nil]) 86)
 gcell m1_15 v57.blk (v57.off + Int.toNat v50_1 * 6) = gcell m1_14 v57.blk (v57.off + Int.toNat v50_1 * 6) /\
 gcell m1_15 v57.blk (v57.off + Int.toNat v50_1 * 6 + 1) = gcell m1_14 v57.blk (v57.off + Int.toNat v50_1 * 6 + 1) /\
 gcell m1_15 v57.blk (v57.off + Int.toNat v50_1 * 6 + 2) = gcell m1_14 v57.blk (v57.off + Int.toNat v50_1 * 6 + 2) /\
 gcell m1_15 v57.blk (v57.off + Int.toNat v50_1 * 6 + 3) = gcell m1_14 v57.blk (v57.off + Int.toNat v50_1 * 6 + 3) /\
 gcell m1_15 v57.blk (v57.off + Int.toNat v50_1 * 6 + 4) = gcell m1_14 v57.blk (v57.off + Int.toNat v50_1 * 6 + 4) /\
 gcell m1_15 v57.blk (v57.off + Int.toNat v50_1 * 6 + 5) = gcell m1_14 v57.blk (v57.off + Int.toNat v50_1 * 6 + 5) /\
 gcell m1_15 m1_12.size 1 = gcell m1_14 m1_12.size 1 /\
 gcell m1_15 im_1.blk (im_1.off + Int.toNat v50_0 * 5 + 4) = gcell m1_14 im_1.blk (im_1.off + Int.toNat v50_0 * 5 + 4) /\
 gcell m1_15 m1_12.size 0 = gcell m1_14 m1_12.size 0 /\
 gcell m1_15 b0 1 = gcell m1_14 b0 1 /\
 eqT m1_14.size m1_14.size (
 let m1_16 : Mem := scells m1_15 m1_14.size 0 [.i v61_0, .i v61_1, .i v61_2, .i v61_3, .s v61_4, .s v61_5]
 ∃ K0 : Bool -> Mem -> Prop,
 (eqT m1_14.size m1_14.size (
 ((v61_0 == 6) = true ->
 eqT m1_14.size m1_14.size (
 ((v61_3 != 0) = true ->
 eqT m1_12.size m1_12.size (
 eqT m1_14.size m1_14.size (
 0 <= (if 0 > (w64 (v61_3 - 1)) then 0 else (w64 (v61_3 - 1))) /\ (if 0 > (w64 (v61_3 - 1)) then 0 else (w64 (v61_3 - 1))) < (v50_5.len : Int) /\
 ∃ v78 : Int, gcell m1_16 v50_5.blk (v50_5.off + Int.toNat (if 0 > (w64 (v61_3 - 1)) then 0 else (w64 (v61_3 - 1))) * 1) = some (vi v78) /\
 eqS (SV.box m1_14.size 86 [.i v61_0, .i v61_1, .i v61_2, .i v61_3, .s v61_4, .s v61_5]) (SV.box m1_14.size 86 [.i v61_0, .i v61_1, .i v61_2, .i v61_3, .s v61_4, .s v61_5]) (
 eqS (SV.box m1_12.size 84 [.i v50_0, .i v50_1, .i v50_2, .s v50_3, .s v50_4, .s v50_5]) (SV.box m1_12.size 84 [.i v50_0, .i v50_1, .i v50_2, .s v50_3, .s v50_4, .s v50_5]) (
 eqS (SV.box b1 43 [.i 0, .i 0, .i 0, .i 0, .i 0, .i 0, .i 0, .i 0]) (SV.box b1 43 [.i 0, .i 0, .i 0, .i 0, .i 0, .i 0, .i 0, .i 0]) (
 eqS (SV.box b0 35 [.s im_0, .s im_1]) (SV.box b0 35 [.s im_0, .s im_1]) (
 K0 (v78 != 0) m1_16))))))) /\
 ((v61_3 != 0) = false ->
 eqS (SV.box m1_14.size 86 [.i v61_0, .i v61_1, .i v61_2, .i v61_3, .s v61_4, .s v61_5]) (SV.box m1_14.size 86 [.i v61_0, .i v61_1, .i v61_2, .i v61_3, .s v61_4, .s v61_5]) (
 eqS (SV.box m1_12.size 84 [.i v50_0, .i v50_1, .i v50_2, .s v50_3, .s v50_4, .s v50_5]) (SV.box m1_12.size 84 [.i v50_0, .i v50_1, .i v50_2, .s v50_3, .s v50_4, .s v50_5]) (
 eqS (SV.box b1 43 [.i 0, .i 0, .i 0, .i 0, .i 0, .i 0, .i 0, .i 0]) (SV.box b1 43 [.i 0, .i 0, .i 0, .i 0, .i 0, .i 0, .i 0, .i 0]) (
 eqS (SV.box b0 35 [.s im_0, .s im_1]) (SV.box b0 35 [.s im_0, .s im_1]) (
 K0 false m1_16))))))) /\
 ((v61_0 == 6) = false ->
 eqS (SV.box m1_14.size 86 [.i v61_0, .i v61_1, .i v61_2, .i v61_3, .s v61_4, .s v61_5]) (SV.box m1_14.size 86 [.i v61_0, .i v61_1, .i v61_2, .i v61_3, .s v61_4, .s v61_5]) (
 eqS (SV.box m1_12.size 84 [.i v50_0, .i v50_1, .i v50_2, .s v50_3, .s v50_4, .s v50_5]) (SV.box m1_12.size 84 [.i v50_0, .i v50_1, .i v50_2, .s v50_3, .s v50_4, .s v50_5]) (
 eqS (SV.box b1 43 [.i 0, .i 0, .i 0, .i 0, .i 0, .i 0, .i 0, .i 0]) (SV.box b1 43 [.i 0, .i 0, .i 0, .i 0, .i 0, .i 0, .i 0, .i 0]) (
 eqS (SV.box b0 35 [.s im_0, .s im_1]) (SV.box b0 35 [.s im_0, .s im_1]) (
 K0 false m1_16))))))) /\
 (∀ (reuses : Bool) (m1_17 : Mem), K0 reuses m1_17 ->
 q00 Tryz.prog q5j [vp mb 0] m1_17 fun r_8 m1_18 =>
 Sam [m1_14.size, m1_12.size, b1, b0] m1_17 m1_18 /\
 ∃ v83 : Int, gcell m1_18 sb 0 = some (vi v83) /\
 wrOk m1_18 sb 0 1 /\
 let m1_19 : Mem := scells m1_18 sb 0 [.i (w64 (v83 + 1))]
 Sam [m1_14.size, m1_12.size, b1, b0] m1_18 m1_19 /\
 ∃ v88 : Int, gcell m1_19 mb 3 = some (vi v88) /\
 ((v88 == 3) = true ->
 eqT m1_14.size m1_14.size (
 q00 Tryz.prog q38 [vp sb 0, vi v61_0, vb reuses] m1_19 fun r_9 m1_20 =>
 Sam [m1_14.size, m1_12.size, b1, b0] m1_19 m1_20 /\
 ∃ v39_0 : Int, gcell m1_20 mb 3 = some (vi v39_0) /\
 ∃ v39_1 : Int, gcell m1_20 mb 4 = some (vi v39_1) /\
 ∃ v39_2 : Int, gcell m1_20 mb 5 = some (vi v39_2) /\
 ∃ v39_3 : Int, gcell m1_20 mb 6 = some (vi v39_3) /\
 ∃ v39_4 : Sl, gcell m1_20 mb 7 = some (Sl.v v39_4) /\
 ∃ v39_5 : Sl, gcell m1_20 mb 8 = some (Sl.v v39_5) /\
 ∃ v39_6 : Sl, gcell m1_20 mb 9 = some (Sl.v v39_6) /\
 q00 Tryz.prog q1n [vp sb 0, .agg #[vi v39_0, vi v39_1, vi v39_2, vi v39_3, Sl.v v39_4, Sl.v v39_5, Sl.v v39_6]] m1_20 fun r_10 m1_21 =>
 Sam [m1_14.size, m1_12.size, b1, b0] m1_20 m1_21 /\
 eqS (SV.box b1 43 [.i 0, .i 0, .i 0, .i 0, .i 0, .i 0, .i 0, .i 0]) (SV.box b1 43 [.i 0, .i 0, .i 0, .i 0, .i 0, .i 0, .i 0, .i 0]) (
 eqS (SV.box b0 35 [.s im_0, .s im_1]) (SV.box b0 35 [.s im_0, .s im_1]) (
 I0 m1_21 /\ μ0 m1_21 < μ0 m1_12)))) /\
 ((v88 == 3) = false ->
 ∃ v93 : Int, gcell m1_19 mb 3 = some (vi v93) /\
 ((v93 == 0) = true ->
 eqT m1_14.size m1_14.size (
 q00 Tryz.prog q38 [vp sb 0, vi v61_0, vb reuses] m1_19 fun r_11 m1_22 =>
 Sam [m1_14.size, m1_12.size, b1, b0] m1_19 m1_22 /\
 ∃ v39_0_1 : Int, gcell m1_22 mb 3 = some (vi v39_0_1) /\
 ∃ v39_1_1 : Int, gcell m1_22 mb 4 = some (vi v39_1_1) /\
 ∃ v39_2_1 : Int, gcell m1_22 mb 5 = some (vi v39_2_1) /\
 ∃ v39_3_1 : Int, gcell m1_22 mb 6 = some (vi v39_3_1) /\
 ∃ v39_4_1 : Sl, gcell m1_22 mb 7 = some (Sl.v v39_4_1) /\
 ∃ v39_5_1 : Sl, gcell m1_22 mb 8 = some (Sl.v v39_5_1) /\
 ∃ v39_6_1 : Sl, gcell m1_22 mb 9 = some (Sl.v v39_6_1) /\
 q00 Tryz.prog q1n [vp sb 0, .agg #[vi v39_0_1, vi v39_1_1, vi v39_2_1, vi v39_3_1, Sl.v v39_4_1, Sl.v v39_5_1, Sl.v v39_6_1]] m1_22 fun r_12 m1_23 =>
 Sam [m1_14.size, m1_12.size, b1, b0] m1_22 m1_23 /\
 eqS (SV.box b1 43 [.i 0, .i 0, .i 0, .i 0, .i 0, .i 0, .i 0, .i 0]) (SV.box b1 43 [.i 0, .i 0, .i 0, .i 0, .i 0, .i 0, .i 0, .i 0]) (
 eqS (SV.box b0 35 [.s im_0, .s im_1]) (SV.box b0 35 [.s im_0, .s im_1]) (
 I0 m1_23 /\ μ0 m1_23 < μ0 m1_12)))) /\
 ((v93 == 0) = false ->
 ∃ v39_0_2 : Int, gcell m1_19 mb 3 = some (vi v39_0_2) /\
 ∃ v39_1_2 : Int, gcell m1_19 mb 4 = some (vi v39_1_2) /\
 ∃ v39_2_2 : Int, gcell m1_19 mb 5 = some (vi v39_2_2) /\
 ∃ v39_3_2 : Int, gcell m1_19 mb 6 = some (vi v39_3_2) /\
 ∃ v39_4_2 : Sl, gcell m1_19 mb 7 = some (Sl.v v39_4_2) /\
 ∃ v39_5_2 : Sl, gcell m1_19 mb 8 = some (Sl.v v39_5_2) /\
 ∃ v39_6_2 : Sl, gcell m1_19 mb 9 = some (Sl.v v39_6_2) /\
 q00 Tryz.prog q1n [vp sb 0, .agg #[vi v39_0_2, vi v39_1_2, vi v39_2_2, vi v39_3_2, Sl.v v39_4_2, Sl.v v39_5_2, Sl.v v39_6_2]] m1_19 fun r_13 m1_24 =>
 Sam [m1_14.size, m1_12.size, b1, b0] m1_19 m1_24 /\
 eqS (SV.box b1 43 [.i 0, .i 0, .i 0, .i 0, .i 0, .i 0, .i 0, .i 0]) (SV.box b1 43 [.i 0, .i 0, .i 0, .i 0, .i 0, .i 0, .i 0, .i 0]) (
 eqS (SV.box b0 35 [.s im_0, .s im_1]) (SV.box b0 35 [.s im_0, .s im_1]) (
 I0 m1_24 /\ μ0 m1_24 < μ0 m1_12))))))))))) /\
 ((v36 == 3) = false ->
 ∃ v100_0 : Int, gcell m1_12 sb 0 = some (vi v100_0) /\
 ∃ v100_1 : Int, gcell m1_12 sb 1 = some (vi v100_1) /\
 ∃ v100_2 : Int, gcell m1_12 sb 2 = some (vi v100_2) /\
 ∃ v100_3 : Int, gcell m1_12 sb 3 = some (vi v100_3) /\
 ∃ v100_4 : Int, gcell m1_12 sb 4 = some (vi v100_4) /\
 ∃ v100_5 : Int, gcell m1_12 sb 5 = some (vi v100_5) /\
 ∃ v100_6 : Int, gcell m1_12 sb 6 = some (vi v100_6) /\
 ∃ v100_7 : Int, gcell m1_12 sb 7 = some (vi v100_7) /\
 eqT b1 b1 (
 let m1_25 : Mem := scells m1_12 b1 0 [.i v100_0, .i v100_1, .i v100_2, .i v100_3, .i v100_4, .i v100_5, .i v100_6, .i v100_7]
 eqT b1 b1 (
 R (.tuple #[.agg #[vi v100_0, vi v100_1, vi v100_2, vi v100_3, vi v100_4, vi v100_5, vi v100_6, vi v100_7], vb true]) m1_25))))
def qd3 (im_0 im_1 : Sl) (most : Int) (m : Mem) (R : Value -> Mem -> Prop) : Prop :=
 let m1 : Mem := m.push (.cells (vals [.s im_0, .s im_1]) 35)
 let m1_1 : Mem := m1.push (.cells (vals [.i 0, .i 0, .i 0, .i 0, .i 0, .i 0, .i 0, .i 0]) 43)
 eqT m.size m.size (
 q00 Tryz.prog q6t [.agg #[Sl.v im_0, Sl.v im_1]] m1_1 fun r m1_2 =>
 Sam [m1.size, m.size] m1_1 m1_2 /\
 ∃ r12 : Bool, r = vb r12 /\
 ((!r12) = true ->
 eqT m1.size m1.size (
 let m1_3 : Mem := scells m1_2 m1.size 0 [.i 0, .i 0, .i 0, .i 0, .i 0, .i 0, .i 0, .i 0]
 eqT m1.size m1.size (
 R (.tuple #[.agg #[vi 0, vi 0, vi 0, vi 0, vi 0, vi 0, vi 0, vi 0], vb false]) m1_3))) /\
 ((!r12) = false ->
 ((decide (most < 0)) = true ->
 eqT m1.size m1.size (
 let m1_4 : Mem := scells m1_2 m1.size 0 [.i 0, .i 0, .i 0, .i 0, .i 0, .i 0, .i 0, .i 0]
 eqT m1.size m1.size (
 R (.tuple #[.agg #[vi 0, vi 0, vi 0, vi 0, vi 0, vi 0, vi 0, vi 0], vb false]) m1_4))) /\
 ((decide (most < 0)) = false ->
 ((decide (most > 40)) = true ->
 eqT m1.size m1.size (
 let m1_5 : Mem := scells m1_2 m1.size 0 [.i 0, .i 0, .i 0, .i 0, .i 0, .i 0, .i 0, .i 0]
 eqT m1.size m1.size (
 R (.tuple #[.agg #[vi 0, vi 0, vi 0, vi 0, vi 0, vi 0, vi 0, vi 0], vb false]) m1_5))) /\
 ((decide (most > 40)) = false ->
 eqT m.size m.size (
 eqT m.size m.size (
 eqT m.size m.size (
 (q00 Tryz.prog q2q [Sl.v im_0] m1_2 fun r_1 m1_6 =>
 Sam [m1.size, m.size] m1_2 m1_6 /\
 ∃ r26 : Int, r_1 = vi r26 /\
 gcell m1_6 m.size 0 = gcell m1_2 m.size 0 /\
 gcell m1_6 m.size 1 = gcell m1_2 m.size 1 /\
 gcell m1_6 m.size 0 = gcell m1_2 m.size 0 /\
 gcell m1_6 m.size 1 = gcell m1_2 m.size 1 /\
 (q00 Tryz.prog q3l [.agg #[Sl.v im_0, Sl.v im_1], vi most] m1_6 fun r_2 m1_7 =>
 Sam [m1.size, m.size] m1_6 m1_7 /\
 ∃ r_0 : Int, ∃ r_1_1 : Int, ∃ r_2_1 : Int, ∃ r_3 : Int, ∃ r_4 : Sl, ∃ r_5 : Sl, ∃ r_6 : Sl, r_2 = .agg #[vi r_0, vi r_1_1, vi r_2_1, vi r_3, Sl.v r_4, Sl.v r_5, Sl.v r_6] /\
 gcell m1_7 m.size 0 = gcell m1_6 m.size 0 /\
 gcell m1_7 m.size 1 = gcell m1_6 m.size 1 /\
 let m1_8 : Mem := m1_7.push (.cells (vals [.s Sl.nil, .s Sl.nil, .i 0, .i 0, .i 0, .i 0, .i 0, .s Sl.nil, .s Sl.nil, .s Sl.nil]) 74)
 gcell m1_8 m.size 0 = gcell m1_7 m.size 0 /\
 gcell m1_8 m.size 1 = gcell m1_7 m.size 1 /\
 gcell m1_8 m.size 0 = gcell m1_7 m.size 0 /\
 gcell m1_8 m.size 0 = gcell m1_7 m.size 0 /\
 gcell m1_8 m.size 1 = gcell m1_7 m.size 1 /\
 eqT m1_7.size m1_7.size (
 let m1_9 : Mem := scells m1_8 m1_7.size 0 [.s im_0, .s im_1, .i r26, .i r_0, .i r_1_1, .i r_2_1, .i r_3, .s r_4, .s r_5, .s r_6]
 let m1_10 : Mem := m1_9.push (.cells (vals [.i 0, .i 0, .i 0, .i 0, .i 0, .i 0, .i 0, .i 0]) 43)
 eqT m1_7.size m1_7.size (
 q00 Tryz.prog q1n [vp m1_9.size 0, .agg #[vi r_0, vi r_1_1, vi r_2_1, vi r_3, Sl.v r_4, Sl.v r_5, Sl.v r_6]] m1_10 fun r_7 m1_11 =>
 Sam [m1_7.size, m1.size, m.size] m1_10 m1_11 /\
 q8e m1_7.size m1_9.size m1.size m.size im_0 im_1 m1_11 R))) /\
 (let m1_26 : Mem := m1_6.push (.cells (vals [.s Sl.nil, .s Sl.nil, .i 0, .i 0, .i 0, .i 0, .i 0, .s Sl.nil, .s Sl.nil, .s Sl.nil]) 74)
 gcell m1_26 m.size 0 = gcell m1_6 m.size 0 /\
 gcell m1_26 m.size 1 = gcell m1_6 m.size 1 /\
 gcell m1_26 m.size 0 = gcell m1_6 m.size 0 /\
 gcell m1_26 m.size 0 = gcell m1_6 m.size 0 /\
 gcell m1_26 m.size 1 = gcell m1_6 m.size 1 /\
 q00 Tryz.prog q3l [.agg #[Sl.v im_0, Sl.v im_1], vi most] m1_26 fun r_14 m1_27 =>
 Sam [m1_6.size, m1.size, m.size] m1_26 m1_27 /\
 ∃ r_0_1 : Int, ∃ r_1_2 : Int, ∃ r_2_2 : Int, ∃ r_3_1 : Int, ∃ r_4_1 : Sl, ∃ r_5_1 : Sl, ∃ r_6_1 : Sl, r_14 = .agg #[vi r_0_1, vi r_1_2, vi r_2_2, vi r_3_1, Sl.v r_4_1, Sl.v r_5_1, Sl.v r_6_1] /\
 gcell m1_27 m.size 0 = gcell m1_26 m.size 0 /\
 gcell m1_27 m.size 1 = gcell m1_26 m.size 1 /\
 eqT m1_6.size m1_6.size (
 let m1_28 : Mem := scells m1_27 m1_6.size 0 [.s im_0, .s im_1, .i r26, .i r_0_1, .i r_1_2, .i r_2_2, .i r_3_1, .s r_4_1, .s r_5_1, .s r_6_1]
 let m1_29 : Mem := m1_28.push (.cells (vals [.i 0, .i 0, .i 0, .i 0, .i 0, .i 0, .i 0, .i 0]) 43)
 eqT m1_6.size m1_6.size (
 q00 Tryz.prog q1n [vp m1_28.size 0, .agg #[vi r_0_1, vi r_1_2, vi r_2_2, vi r_3_1, Sl.v r_4_1, Sl.v r_5_1, Sl.v r_6_1]] m1_29 fun r_15 m1_30 =>
 Sam [m1_6.size, m1.size, m.size] m1_29 m1_30 /\
 q8e m1_6.size m1_28.size m1.size m.size im_0 im_1 m1_30 R)))) /\
 (let m1_45 : Mem := m1_2.push (.cells (vals [.s Sl.nil, .s Sl.nil, .i 0, .i 0, .i 0, .i 0, .i 0, .s Sl.nil, .s Sl.nil, .s Sl.nil]) 74)
 gcell m1_45 m.size 0 = gcell m1_2 m.size 0 /\
 gcell m1_45 m.size 1 = gcell m1_2 m.size 1 /\
 gcell m1_45 m.size 0 = gcell m1_2 m.size 0 /\
 gcell m1_45 m.size 0 = gcell m1_2 m.size 0 /\
 gcell m1_45 m.size 1 = gcell m1_2 m.size 1 /\
 q00 Tryz.prog q2q [Sl.v im_0] m1_45 fun r_22 m1_46 =>
 Sam [m1_2.size, m1.size, m.size] m1_45 m1_46 /\
 ∃ r26_1 : Int, r_22 = vi r26_1 /\
 gcell m1_46 m.size 0 = gcell m1_45 m.size 0 /\
 gcell m1_46 m.size 1 = gcell m1_45 m.size 1 /\
 gcell m1_46 m.size 0 = gcell m1_45 m.size 0 /\
 gcell m1_46 m.size 1 = gcell m1_45 m.size 1 /\
 q00 Tryz.prog q3l [.agg #[Sl.v im_0, Sl.v im_1], vi most] m1_46 fun r_23 m1_47 =>
 Sam [m1_2.size, m1.size, m.size] m1_46 m1_47 /\
 ∃ r_0_2 : Int, ∃ r_1_3 : Int, ∃ r_2_3 : Int, ∃ r_3_2 : Int, ∃ r_4_2 : Sl, ∃ r_5_2 : Sl, ∃ r_6_2 : Sl, r_23 = .agg #[vi r_0_2, vi r_1_3, vi r_2_3, vi r_3_2, Sl.v r_4_2, Sl.v r_5_2, Sl.v r_6_2] /\
 gcell m1_47 m.size 0 = gcell m1_46 m.size 0 /\
 gcell m1_47 m.size 1 = gcell m1_46 m.size 1 /\
 eqT m1_2.size m1_2.size (
 let m1_48 : Mem := scells m1_47 m1_2.size 0 [.s im_0, .s im_1, .i r26_1, .i r_0_2, .i r_1_3, .i r_2_3, .i r_3_2, .s r_4_2, .s r_5_2, .s r_6_2]
 let m1_49 : Mem := m1_48.push (.cells (vals [.i 0, .i 0, .i 0, .i 0, .i 0, .i 0, .i 0, .i 0]) 43)
 eqT m1_2.size m1_2.size (
 q00 Tryz.prog q1n [vp m1_48.size 0, .agg #[vi r_0_2, vi r_1_3, vi r_2_3, vi r_3_2, Sl.v r_4_2, Sl.v r_5_2, Sl.v r_6_2]] m1_49 fun r_24 m1_50 =>
 Sam [m1_2.size, m1.size, m.size] m1_49 m1_50 /\
 q8e m1_2.size m1_48.size m1.size m.size im_0 im_1 m1_50 R))))))))))
theorem qia (im_0 im_1 : Sl) (most : Int) (m : Mem) (R : Value -> Mem -> Prop) (hvc : qd3 im_0 im_1 most m R) : q00 Tryz.prog qa3 [.agg #[Sl.v im_0, Sl.v im_1], vi most] m R :=
 vcs (A := ⟨[(3, [0, 0, 2, 4, 0, 0, 56, 73, 0, 511], [0, 0, 2, 6, 0, 0, 62, 127, 0, 511]), (9, [0, 1, 0, 4, 10, 16, 32, 0, 128, 320, 512, 0, 4095], [0, 1, 0, 4, 15, 31, 63, 0, 128, 511, 1023, 0, 4095])], [(6, [])], [(11, [(10, .T)])], [(6, [105, 103]), (11, [110, 109, 105, 103])]⟩) (n := 101) (rs := [.cell 4 43, .tmp 5]) (args := [.agg [.s im_0, .s im_1], .c (.i most)]) (c := q05 Tryz.f17) Tryz.func17 hvc
end
section
theorem qqd {m M m2 : Mem} {d p fr : Sl} {im : Image} {most : Int} {ro : Nat -> Nat} {mb sb b1 b0 : Nat} (hok : ImageOk im) (hm : 0 <= most /\ most <= 40) (him : ImageR M d p im) (hxM : Ext m M) (hb1 : m.size <= b1 /\ b1 < M.size) (hb0 : b0 < M.size) (k0 : gcell M b0 1 = some (Sl.v p)) (hsb : M.size <= sb) (hmb : mb ≠ sb)
    (L : Lay M ro m2 mb q0f (IB d p (q0e im) (start im most) .nil .nil fr) .nil .nil fr [] [] [q09 im 0 0 []]) (r2 : ro sb = 9) (B : Blk m2 sb q3i (NB (q1r im (start im most) 0))) :
    q8e mb sb b1 b0 d p m2 (fun v m' => v = .tuple #[statV (statsRun im most), vb true] /\ Ext m m') := by
  unfold q8e
  simp -zeta only [q0c, q0d]
  have hs0 := qm4 hok hm
  refine whileG0 (fun (k : Nat) m' => k <= 100000 /\ (∀ j, j < k -> (steps im j (start im most)).status = 3) /\ Blk m' sb q3i (NB (q1r im (start im most) k)) /\
      ∃ ro' out' hp' fr', Lay M ro' m' mb q0f (IB d p (q0e im) (steps im k (start im most)) out' hp' fr') out' hp' fr' (steps im k (start im most)).out (steps im k (start im most)).heap (steps im k (start im most)).frames /\ ro' sb = 9)
    (fun k => 100000 - k) 0 ⟨Nat.zero_le _, fun j hj => absurd hj (Nat.not_lt_zero _), B, ro, .nil, .nil, fr, L, r2⟩ ?_
  rintro k m3 I μ ⟨hk, hrun, B3, ro3, out3, hp3, fr3, L3, r3⟩ next
  have hok3 := qhj k hs0
  have hS3 := q9m k hs0 (qdi im most) (by omega)
  have hst3 := qja im (start im most) k
  refine ⟨_, L3.box.get 3, fun h1 => ?_, fun h1 => ?_⟩
  · have h1' : (steps im k (start im most)).status = 3 := by simpa using h1
    have hk2 := qod hok hm hk h1'
    obtain ⟨fs, f, r, o, h, pc, a, j, hf, F, ea⟩ := L3.cur him hok3 h1' hS3.fit
    have hl := F.frl
    have hs := F.sm
    have e1 : w64 ((fr3.len : Int) - 1) = (fs.length : Int) := by rw [q08 (by omega) (by omega)]; omega
    have e2 : Int.toNat (fs.length : Int) = fs.length := by omega
    have g9 : gcell m3 mb 9 = some (Sl.v fr3) := L3.box.get 9
    refine ⟨fr3, g9, fr3, g9, ?_⟩
    rw [e1, e2]
    refine ⟨by omega, by omega, _, F.g0, _, F.g1, _, F.g2, r, F.g3, o, F.g4, h, F.g5, ?_⟩
    intro m4 m5
    have x5 : Ext m3 m5 := ((Ext.refl m3).pushed _).scells (Nat.le_refl _) _ _
    have s5 : m5.size = m3.size + 1 := by simp [m5, m4, q04]
    have kF : Blk m5 m3.size q1g [.i f.proc, .i f.pc, .i f.dst, .s r, .s o, .s h] := Blk.scells (m := m4) (o := 0) (r := [.i f.proc, .i f.pc, .i f.dst, .s r, .s o, .s h]) (Blk.push m3 _ _)
    clear_value m5
    have F5 := F.ext x5
    refine ⟨F.proc.1, F.proc.2, pc, F5.code, F.pcb.1, F.pcb.2, _, F5.i0, _, F5.i1, _, F5.i2, _, F5.i3, a, F5.i4, j, F5.i5, ?_⟩
    intro m6
    have x6 : Ext m5 m6 := (Ext.refl m5).pushed _
    have k05 : gcell m5 b0 1 = some (Sl.v p) := x5.gcell (L3.base.gcell k0)
    refine ⟨x6.keepG F5.i0, x6.keepG F5.i1, x6.keepG F5.i2, x6.keepG F5.i3, x6.keepG F5.i4, x6.keepG F5.i5, x6.keepG (kF.get 1), x6.keepG F5.code, x6.keepG (kF.get 0), x6.keepG k05, ?_⟩
    intro m7
    have x7 : Ext m5 m7 := x6.scells (Nat.le_refl _) _ _
    have s7 : m7.size = m5.size + 1 := by simp [m7, m6, q04]
    clear_value m7
    have x37 := x5.trans x7
    have F7 := F5.ext x7
    refine ⟨fun b m' => b = again im (steps im k (start im most)) /\ m' = m7, ⟨fun q6 => ⟨fun q7 => ?_, fun q7 => ?_⟩, fun q6 => ?_⟩, ?_⟩
    · have h6 : (curX im (steps im k (start im most))).op = 6 := by simpa using q6
      obtain ⟨p1, p2⟩ := F.into h6
      have hsm := F.small
      have h7 : (curX im (steps im k (start im most))).into ≠ 0 := by simpa using q7
      have hhl := F.held.len
      obtain ⟨y, hy⟩ := q02 (l := f.held) (k := ((curX im (steps im k (start im most))).into - 1).toNat) (by omega)
      have ey : at' f.held ((curX im (steps im k (start im most))).into - 1) = y := at_of' hy
      rw [q08 (by omega) (by omega), if_neg (by omega)]
      refine ⟨by omega, by omega, y, F7.held.at' hy, ?_, rfl⟩
      rw [ea]
      by_cases hy0 : y = 0
      · rw [decide_eq_false (fun hh => hh.2.2 (by rw [ey]; exact hy0))]; simp [hy0]
      · rw [decide_eq_true (show _ /\ _ /\ _ from ⟨h6, h7, by rw [ey]; exact hy0⟩)]; simp [hy0]
    · refine ⟨?_, rfl⟩
      rw [ea, decide_eq_false (fun hh => hh.2.1 (by simpa using q7))]
    · refine ⟨?_, rfl⟩
      rw [ea, decide_eq_false (fun hh => by simp at q6; exact q6 hh.1)]
    rintro _ M7 ⟨rfl, hM7⟩
    have hM7' := hM7.symm
    subst hM7'
    obtain ⟨L7, _⟩ := L3.ext x37
    have B7 := B3.ext x37
    have z3 := L3.base.size
    have z7 := B7.lt
    have zb := B3.lt
    have hbs : Bx0 ro3 m7 [m5.size, m3.size, b1, b0] := fun b hb => by
      simp at hb
      rcases hb with rfl | rfl | rfl | rfl
      · exact ⟨by omega, L3.new _ (by omega)⟩
      · exact ⟨by omega, L3.new _ (by omega)⟩
      · exact ⟨by omega, L3.base0 _ (by omega)⟩
      · exact ⟨by omega, L3.base0 _ (by omega)⟩
    have hbn : ∀ b ∈ [m5.size, m3.size, b1, b0], b < m7.size /\ b ≠ sb := fun b hb => ⟨(hbs b hb).1, by simp at hb; omega⟩
    refine (qqg L7 him hok3 hS3.fit (by have := hS3.heap; omega) (by have := hS3.out; omega)).mono ?_
    rintro _ m8 ⟨ro8, out8, hp8, fr8, L8, t8⟩
    have z8 := t8.size
    have B8 := B7.congr (t8.keep _ z7 (by rw [r3]; simp))
    have r8 : ro8 sb = 9 := by rw [t8.role _ z7]; exact r3
    rw [← q6k] at L8
    have hS8 := q9m (k + 1) hs0 (qdi im most) (by omega)
    have hst := hst3.steps
    refine ⟨t8.samB hbs, _, B8.get 0, B8.wrOk (by simp [NB]), ?_⟩
    rw [q08 (by omega) (by omega)]
    intro m9
    have o9 : OnlyAt sb m8 m9 := (OnlyAt.refl sb m8).scells _ _
    have B9 : Blk m9 sb q3i (NB { q1r im (start im most) k with steps := (q1r im (start im most) k).steps + 1 }) := B8.scells (m := m) (o := 0) (r := [.i ((q1r im (start im most) k).steps + 1)])
    have L9 := L8.only9 r8 o9
    have s9 : m9.size = m8.size := q04 _ _ _ _
    clear_value m9
    have hbn8 : ∀ {M' : Mem}, m8.size <= M'.size -> ∀ b ∈ [m5.size, m3.size, b1, b0], b < M'.size /\ b ≠ sb := fun hM b hb => ⟨by have := (hbn b hb).1; omega, (hbn b hb).2⟩
    have hfl : fr8.len = (steps im (k + 1) (start im most)).frames.length := by
      obtain ⟨css, hc⟩ := L8.frames
      have := hc.arr.len
      rw [q0t hc.size, hc.len] at this
      omega
    have hhb : (steps im (k + 1) (start im most)).heap ≠ [] -> hp8.blk ≠ sb := fun hne e => by
      have := (L8.heap.blk (a := 0) (List.length_pos_iff.2 hne)).1
      rw [e, r8] at this; omega
    have fin : ∀ {M' : Mem} {c : Stat}, OnlyAt sb m8 M' -> Blk M' sb q3i (NB c) -> see c (steps im (k + 1) (start im most)) = q1r im (start im most) (k + 1) ->
        ∃ v39_0 : Int, gcell M' mb 3 = some (vi v39_0) /\ ∃ v39_1 : Int, gcell M' mb 4 = some (vi v39_1) /\ ∃ v39_2 : Int, gcell M' mb 5 = some (vi v39_2) /\ ∃ v39_3 : Int, gcell M' mb 6 = some (vi v39_3) /\
        ∃ v39_4 : Sl, gcell M' mb 7 = some (Sl.v v39_4) /\ ∃ v39_5 : Sl, gcell M' mb 8 = some (Sl.v v39_5) /\ ∃ v39_6 : Sl, gcell M' mb 9 = some (Sl.v v39_6) /\
        q00 Tryz.prog q1n [vp sb 0, .agg #[vi v39_0, vi v39_1, vi v39_2, vi v39_3, Sl.v v39_4, Sl.v v39_5, Sl.v v39_6]] M' fun r_10 m1_21 =>
        Sam [m5.size, m3.size, b1, b0] M' m1_21 /\ I m1_21 /\ μ m1_21 < μ m3 := fun {M' c} oM BM hc => by
      have LM := L8.only9 r8 oM
      refine ⟨_, LM.box.get 3, _, LM.box.get 4, _, LM.box.get 5, _, LM.box.get 6, out8, LM.box.get 7, hp8, LM.box.get 8, fr8, LM.box.get 9, (qlm BM LM.heap.hrow hhb (by have := hS8.heap; omega) hfl _ _ _ _).mono ?_⟩
      rintro _ m10 ⟨rfl, B10, o10⟩
      rw [hc] at B10
      refine ⟨o10.sam (hbn8 oM.size), next (k + 1) m10 ⟨by omega, fun j hj => ?_, B10, ro8, out8, hp8, fr8, LM.only9 r8 o10, r8⟩ (by show 100000 - (k + 1) < 100000 - k; omega)⟩
      rcases Nat.lt_or_ge j k with h4 | h4
      · exact hrun j h4
      · have : j = k := by omega
        rw [this]; exact h1'
    have es : ∀ c, (if (steps im (k + 1) (start im most)).status = 3 \/ (steps im (k + 1) (start im most)).status = 0 then tally { q1r im (start im most) k with steps := (q1r im (start im most) k).steps + 1 } (curX im (steps im k (start im most))).op (again im (steps im k (start im most))) else { q1r im (start im most) k with steps := (q1r im (start im most) k).steps + 1 }) = c ->
        see c (steps im (k + 1) (start im most)) = q1r im (start im most) (k + 1) := fun c hc => by
      rw [← hc, q6k]; rfl
    have cnt : ∀ {K : Value -> Mem -> Prop}, (∀ m10, OnlyAt sb m8 m10 -> Blk m10 sb q3i (NB (tally { q1r im (start im most) k with steps := (q1r im (start im most) k).steps + 1 } (curX im (steps im k (start im most))).op (again im (steps im k (start im most))))) -> Sam [m5.size, m3.size, b1, b0] m9 m10 -> K (.tuple #[]) m10) ->
        q00 Tryz.prog q38 [vp sb 0, vi (curX im (steps im k (start im most))).op, vb (again im (steps im k (start im most)))] m9 K := fun {K} hK => by
      have hst9 : StSm (k + 1) { q1r im (start im most) k with steps := (q1r im (start im most) k).steps + 1 } := by
        obtain ⟨t1, t2, t3, t4, t5⟩ := hst3
        exact ⟨by simp only []; omega, by simp only []; omega, by simp only []; omega, by simp only []; omega, by simp only []; omega⟩
      refine (qq1 B9 _ _ (k + 1) (by omega) hst9).mono ?_
      rintro _ m10 ⟨rfl, B10, o10⟩
      exact hK m10 (o9.trans o10) B10 (o10.sam (hbn8 (Nat.le_of_eq s9.symm)))
    refine ⟨o9.sam (hbn8 (Nat.le_refl _)), _, L9.box.get 3, fun q1 => ?_, fun q1 => ⟨_, L9.box.get 3, fun q2 => ?_, fun q2 => ?_⟩⟩
    · refine cnt fun m10 o10 B10 sm10 => ⟨sm10, fin o10 B10 (es _ ?_)⟩
      rw [if_pos (Or.inl (by simpa using q1))]
    · refine cnt fun m10 o10 B10 sm10 => ⟨sm10, fin o10 B10 (es _ ?_)⟩
      rw [if_pos (Or.inr (by simpa using q2))]
    · refine fin o9 B9 (es _ ?_)
      rw [if_neg (fun hh => by simp at q1 q2; rcases hh with hh | hh; exact q1 hh; exact q2 hh)]
  · have h1' : (steps im k (start im most)).status ≠ 3 := by simpa using h1
    refine ⟨_, B3.get 0, _, B3.get 1, _, B3.get 2, _, B3.get 3, _, B3.get 4, _, B3.get 5, _, B3.get 6, _, B3.get 7, ?_⟩
    intro m7
    rw [qlw hk h1' hrun]
    exact ⟨rfl, (hxM.trans L3.base).scells hb1.1 _ _⟩
end
section
def qnr (mb b1 b0 : Nat) (most : Int) (d p fr : Sl) (m9 : Mem) (R : Value -> Mem -> Prop) : Prop :=
  let m1_10 : Mem := m9.push (.cells (vals [.i (0 : Int), .i (0 : Int), .i (0 : Int), .i (0 : Int), .i (0 : Int), .i (0 : Int), .i (0 : Int), .i (0 : Int)]) q3i)
  q00 Tryz.prog q1n [vp m9.size 0, .agg #[vi 3, vi 0, vi 0, vi most, Sl.v .nil, Sl.v .nil, Sl.v fr]] m1_10 fun r_7 m1_11 =>
  Sam [mb, b1, b0] m1_10 m1_11 /\ q8e mb m9.size b1 b0 d p m1_11 R
set_option maxHeartbeats 1000000 in
theorem qn8 {m : Mem} {d p : Sl} {im : Image} (him : ImageR m d p im) (most : Int) : Gets Tryz.prog qa3 [.agg #[Sl.v d, Sl.v p], vi most] m (.tuple #[statV (staOf im most).c, vb (staOf im most).ok]) := by
  apply qia
  unfold qd3
  simp -zeta only [q0c, q0d]
  intro m1 m2
  have hx2 : Ext m m2 := ((Ext.refl m).pushed _).pushed _
  have s1 : m1.size = m.size + 1 := by simp [m1]
  have s2 : m2.size = m.size + 2 := by simp [m2, s1]
  have kI : Blk m2 m.size qbc [.s d, .s p] := (Blk.push m _ _).ext (Ext.push m1 _)
  clear_value m2
  have hl : ∀ b ∈ [m1.size, m.size], b < m2.size := by simp; omega
  have no : ∀ {m3 : Mem}, Ext m2 m3 -> ¬ (ImageOk im /\ 0 <= most /\ most <= 40) -> ((.tuple #[.agg #[vi (0 : Int), vi (0 : Int), vi (0 : Int), vi (0 : Int), vi (0 : Int), vi (0 : Int), vi (0 : Int), vi (0 : Int)], vb false] : Value) = .tuple #[statV (staOf im most).c, vb (staOf im most).ok] /\
      Ext m (scells m3 m1.size 0 [.i (0 : Int), .i (0 : Int), .i (0 : Int), .i (0 : Int), .i (0 : Int), .i (0 : Int), .i (0 : Int), .i (0 : Int)])) := fun h3 hno => by
    rw [staOf, if_neg hno]; exact ⟨rfl, (hx2.trans h3).scells (by omega) _ _⟩
  refine (qiq (him.ext hx2)).thenS (Ext.refl _) hl fun b m3 hb h3 _ => ⟨b, rfl, fun h4 => no h3 (fun hh => nb hb h4 hh.1), fun h4 => ⟨fun h5 => no h3 (fun hh => by simp at h5; omega), fun h5 => ⟨fun h6 => no h3 (fun hh => by simp at h6; omega), fun h6 => ?_⟩⟩⟩
  have hok := yb hb h4
  have hm : 0 <= most /\ most <= 40 := by simp at h5 h6; omega
  have hx3 := hx2.trans h3
  have s3 := h3.size
  have him3 := him.ext hx3
  have kI3 := kI.ext h3
  have ht := hok.sigs.types
  have cc : ∀ {M : Mem}, Ext m3 M -> Gets Tryz.prog q2q [Sl.v d] M (vi (q0e im)) := fun hx => q82 (him3.ext hx).decls ht.len (fun dd hd => qp2 ht dd hd)
  have ks : ∀ {M M' : Mem}, Ext m3 M -> Ext M M' -> (gcell M' m.size 0 = gcell M m.size 0 /\ gcell M' m.size 1 = gcell M m.size 1) := fun h1 h2 => ⟨h2.keepG ((kI3.ext h1).get 0), h2.keepG ((kI3.ext h1).get 1)⟩
  have sm : ∀ {M M' : Mem}, Ext m3 M -> Ext M M' -> Sam [m1.size, m.size] M M' := fun h1 h2 => h2.sam fun b hb => h1.lt (h3.lt (hl b hb))
  have sm3 : ∀ {M M' : Mem} {nb : Nat}, Ext m3 M -> Ext M M' -> nb < M.size -> Sam [nb, m1.size, m.size] M M' := fun h1 h2 hnb => h2.sam fun b hb => by
    rcases List.mem_cons.1 hb with rfl | hb
    · exact hnb
    · exact h1.lt (h3.lt (hl b hb))
  have hsta : (staOf im most) = ⟨statsRun im most, true⟩ := by rw [staOf, if_pos ⟨hok, hm⟩]
  rw [hsta]
  have loop : ∀ {M m9 : Mem} {fr : Sl} {b1 b2 b3 b4 k mb : Nat}, Ext m3 M -> fr = .mk b4 0 1 1 -> New3 M m9 b1 b2 b3 k (q09 im 0 0 []).regs (q09 im 0 0 []).own (q09 im 0 0 []).held -> (b4 ≠ b1 /\ b4 ≠ b2 /\ b4 ≠ b3 /\ M.size <= b4 /\ b4 < m9.size) -> Blk m9 b4 q1g [.i 0, .i 0, .i 0, .s (.mk b1 0 k k), .s (.mk b2 0 k k), .s (.mk b3 0 k k)] ->
      (M.size <= mb /\ mb ≠ b1 /\ mb ≠ b2 /\ mb ≠ b3 /\ mb ≠ b4) -> Blk m9 mb q0f ([.s d, .s p, .i (q0e im)] ++ [.i 3, .i 0, .i 0, .i most, .s .nil, .s .nil, .s fr]) -> qnr mb m1.size m.size most d p fr m9 (fun v m' => v = .tuple #[statV (statsRun im most), vb true] /\ Ext m m') := fun {M m9 fr b1 b2 b3 b4 k mb} hx hc N h34 k4 hmb kb => by
    have zM := hx.size
    have z9 := N.ext.size
    have L9 := qsx hc N h34 k4 hmb kb
    have kbl := kb.lt
    unfold qnr
    intro m10
    have x10 : Ext m9 m10 := (Ext.refl m9).pushed _
    have s10 : m10.size = m9.size + 1 := by simp [m10]
    have B10 : Blk m10 m9.size q3i (NB ⟨0, 0, 0, 0, 0, 0, 0, 0⟩) := Blk.push m9 _ _
    clear_value m10
    have r0 := L9.new m9.size (Nat.le_refl _)
    have L10 := (L9.ext x10).1.mark (sb := m9.size) (Ext.refl M) r0 (by omega) (by omega)
    refine (qlm (s := start im most) B10 ⟨rfl, fun k c hk => by simp [start] at hk⟩ (fun h0 => absurd rfl h0) (by simp [start]) (by rw [hc]; simp [start]) _ _ _ _).mono ?_
    rintro _ m11 ⟨rfl, B11, o11⟩
    refine ⟨o11.sam (by simp; omega), ?_⟩
    exact qqd hok hm (him3.ext hx) (hx3.trans hx) ⟨by omega, by omega⟩ (by omega) (hx.gcell (kI3.get 1)) (by omega) (by omega) (L10.only9 (q2i _ _ _) o11) (q2i _ _ _) B11
  refine ⟨(cc (Ext.refl _)).mono ?_, ?_⟩
  · rintro _ m6 ⟨rfl, h36⟩
    have k36 := ks (Ext.refl _) h36
    refine ⟨sm (Ext.refl _) h36, _, rfl, k36.1, k36.2, k36.1, k36.2, ?_, ?_⟩
    · refine (q66 (him3.ext h36) hok most).mono ?_
      rintro _ m7 ⟨fr, rfl, h67, b1, b2, b3, b4, k, hc, N, h34, k4⟩
      have h37 := h36.trans h67
      have k67 := ks h36 h67
      refine ⟨sm h36 h67, _, _, _, _, _, _, _, rfl, k67.1, k67.2, ?_⟩
      intro m8
      have h78 : Ext m7 m8 := (Ext.refl m7).pushed _
      have k78 := ks h37 h78
      refine ⟨k78.1, k78.2, k78.1, k78.1, k78.2, ?_⟩
      intro m9
      have h79 : Ext m7 m9 := h78.scells (Nat.le_refl _) _ _
      have kb : Blk m9 m7.size q0f ([.s d, .s p, .i (q0e im)] ++ [.i 3, .i 0, .i 0, .i most, .s .nil, .s .nil, .s fr]) := Blk.scells (m := m8) (o := 0) (r := [.s d, .s p, .i (q0e im), .i 3, .i 0, .i 0, .i most, .s .nil, .s .nil, .s fr]) (Blk.push m7 _ _)
      have hlo := N.lo
      have s9 := h79.size
      have s7 := h67.size
      exact loop h36 hc (N.ext' h79) (by omega) (k4.ext h79) (by omega) kb
    · intro m13
      have h613 : Ext m6 m13 := (Ext.refl m6).pushed _
      have s13 : m13.size = m6.size + 1 := by simp [m13]
      have h313 := h36.trans h613
      have k13 := ks h36 h613
      have kz : Blk m13 m6.size q0f [.s .nil, .s .nil, .i 0, .i 0, .i 0, .i 0, .i 0, .s .nil, .s .nil, .s .nil] := Blk.push m6 _ _
      refine ⟨k13.1, k13.2, k13.1, k13.1, k13.2, ?_⟩
      clear_value m13
      refine (q66 (him3.ext h313) hok most).mono ?_
      rintro _ m14 ⟨fr, rfl, h1314, b1, b2, b3, b4, k, hc, N, h34, k4⟩
      have k14 := ks h313 h1314
      refine ⟨sm3 h313 h1314 (by omega), _, _, _, _, _, _, _, rfl, k14.1, k14.2, ?_⟩
      intro m15
      have hlo := N.lo
      have N15 := N.box h613 (nb := m6.size) (Nat.le_refl _) (by omega) 0 [.s d, .s p, .i (q0e im), .i 3, .i 0, .i 0, .i most, .s .nil, .s .nil, .s fr]
      have kb : Blk m15 m6.size q0f ([.s d, .s p, .i (q0e im)] ++ [.i 3, .i 0, .i 0, .i most, .s .nil, .s .nil, .s fr]) := Blk.scells (m := m14) (o := 0) (r := [.s d, .s p, .i (q0e im), .i 3, .i 0, .i 0, .i most, .s .nil, .s .nil, .s fr]) (kz.ext h1314)
      have s15 : m15.size = m14.size := q04 _ _ _ _
      exact loop h36 hc N15 (by omega) (k4.congr (q0s _ _ _ _ (by omega))) (by omega) kb
  · intro m19
    have h319 : Ext m3 m19 := (Ext.refl m3).pushed _
    have s19 : m19.size = m3.size + 1 := by simp [m19]
    have k19 := ks (Ext.refl _) h319
    have kz : Blk m19 m3.size q0f [.s .nil, .s .nil, .i 0, .i 0, .i 0, .i 0, .i 0, .s .nil, .s .nil, .s .nil] := Blk.push m3 _ _
    refine ⟨k19.1, k19.2, k19.1, k19.1, k19.2, ?_⟩
    clear_value m19
    refine (cc h319).mono ?_
    rintro _ m20 ⟨rfl, h1920⟩
    have h320 := h319.trans h1920
    have k20 := ks h319 h1920
    have s20 := h1920.size
    refine ⟨sm3 h319 h1920 (by omega), _, rfl, k20.1, k20.2, k20.1, k20.2, ?_⟩
    refine (q66 (him3.ext h320) hok most).mono ?_
    rintro _ m21 ⟨fr, rfl, h2021, b1, b2, b3, b4, k, hc, N, h34, k4⟩
    have k21 := ks h320 h2021
    refine ⟨sm3 h320 h2021 (by omega), _, _, _, _, _, _, _, rfl, k21.1, k21.2, ?_⟩
    intro m22
    have hlo := N.lo
    have N22 := N.box h320 (nb := m3.size) (Nat.le_refl _) (by omega) 0 [.s d, .s p, .i (q0e im), .i 3, .i 0, .i 0, .i most, .s .nil, .s .nil, .s fr]
    have kb : Blk m22 m3.size q0f ([.s d, .s p, .i (q0e im)] ++ [.i 3, .i 0, .i 0, .i most, .s .nil, .s .nil, .s fr]) := Blk.scells (m := m21) (o := 0) (r := [.s d, .s p, .i (q0e im), .i 3, .i 0, .i 0, .i most, .s .nil, .s .nil, .s fr]) (kz.ext (h1920.trans h2021))
    have s22 : m22.size = m21.size := q04 _ _ _ _
    exact loop (Ext.refl _) hc N22 (by omega) (k4.congr (q0s _ _ _ _ (by omega))) (by omega) kb
end
section
theorem qoc {m : Mem} (c : Stat) : q00 Tryz.prog q9u [statV c, statV c] m fun v m' => v = vb true /\ Ext m m' := by
  apply qjo
  unfold qe8
  simp -zeta only [q0c, q0d]
  intro m1 m2
  have x2 : Ext m m2 := ((Ext.refl m).pushed _).pushed _
  clear_value m2
  exact ⟨fun h => by simp at h, fun _ => ⟨fun h => by simp at h, fun _ => ⟨fun h => by simp at h, fun _ => ⟨fun h => by simp at h, fun _ => ⟨fun h => by simp at h, fun _ => ⟨fun h => by simp at h, fun _ => ⟨fun h => by simp at h, fun _ => ⟨fun h => by simp at h, fun _ => ⟨trivial, x2⟩⟩⟩⟩⟩⟩⟩⟩⟩
set_option maxHeartbeats 1000000 in
theorem qez {m : Mem} {d p : Sl} {im : Image} (him : ImageR m d p im) (most : Int) : q00 Tryz.prog q83 [.agg #[Sl.v d, Sl.v p], vi most] m (LawR m) := by
  apply qc2
  unfold q75
  simp -zeta only [q0c, q0d]
  intro m1
  have x1 : Ext m m1 := (Ext.refl m).pushed _
  have s1 : m1.size = m.size + 1 := by simp [m1]
  clear_value m1
  have hI : ∀ {M : Mem}, Ext m M -> ImageR M d p im := fun hx => him.ext hx
  refine (qn9 (hI x1).decls (hI x1).procs (left := 1048576) ⟨by decide, by decide⟩).mono ?_
  rintro _ m2 ⟨n, rfl, _, hsm, u2⟩
  have x2 := x1.trans u2
  have z2 := u2.size
  refine ⟨u2.sam (by simp; omega), n, rfl, fun _ => ⟨rfl, x2⟩, fun h => ?_⟩
  simp only [decide_eq_false_iff_not] at h
  have hs : qhm im := hsm (by omega)
  clear h hsm
  refine (q8i (hI x2).decls (hI x2).procs hs).mono ?_
  rintro _ m3 ⟨r0, r1, rfl, cA, u3⟩
  have x3 := x2.trans u3
  have z3 := u3.size
  refine ⟨u3.sam (by simp; omega), r0, r1, rfl, (qo4 (cA.read hs) most).mono ?_⟩
  rintro _ m4 ⟨rfl, u4⟩
  have x4 := x3.trans u4
  have z4 := u4.size
  refine ⟨u4.sam (by simp; omega), _, _, _, _, _, _, _, _, _, rfl, ?_⟩
  intro m5 m6
  have u6 : Ext m4 m6 := ((Ext.refl m4).pushed _).scells (Nat.le_refl _) _ _
  have z6 : m6.size = m4.size + 1 := by simp [m6, m5, q04]
  clear_value m6
  have x6 := x4.trans u6
  refine (q8i (hI x6).decls (hI x6).procs hs).mono ?_
  rintro _ m7 ⟨a0, a1, rfl, cB, u7⟩
  have x7 := x6.trans u7
  have z7 := u7.size
  refine ⟨u7.sam (by simp; omega), a0, a1, rfl, ?_⟩
  intro m8 m9
  have u9 : Ext m7 m9 := ((Ext.refl m7).pushed _).scells (Nat.le_refl _) _ _
  have z9 : m9.size = m7.size + 1 := by simp [m9, m8, q04]
  have k9 : Blk m9 m7.size qbc [.s a0, .s a1] := Blk.scells (m := m8) (o := 0) (r := [.s a0, .s a1]) (Blk.push m7 _ _)
  clear_value m9
  have x9 := x7.trans u9
  have iB := cB.read hs
  refine (qn8 (iB.ext u9) most).mono ?_
  rintro _ m10 ⟨rfl, u10⟩
  have x10 := x9.trans u10
  have z10 := u10.size
  refine ⟨u10.sam (by simp; omega), _, _, _, _, _, _, _, _, _, rfl, ?_⟩
  intro m11 m12
  have u12 : Ext m10 m12 := ((Ext.refl m10).pushed _).scells (Nat.le_refl _) _ _
  have z12 : m12.size = m10.size + 1 := by simp [m12, m11, q04]
  clear_value m12
  have x12 := x10.trans u12
  refine (qoc (staOf im most).c).mono ?_
  rintro _ m13 ⟨rfl, u13⟩
  have x13 := x12.trans u13
  have z13 := u13.size
  refine ⟨u13.sam (by simp; omega), true, rfl, fun h => by simp at h, fun _ => ⟨fun h => by simp at h, fun _ => ?_⟩⟩
  refine (q8i (hI x13).decls (hI x13).procs hs).mono ?_
  rintro _ m14 ⟨c0, c1, rfl, cC, u14⟩
  have x14 := x13.trans u14
  have z14 := u14.size
  have u7_14 : Ext m7 m14 := (((u9.trans u10).trans u12).trans u13).trans u14
  have iB14 := iB.ext u7_14
  have iC := cC.read hs
  have k13 := ((k9.ext u10).ext u12).ext u13
  refine ⟨u14.sam (by simp; omega), c0, c1, rfl, u14.keepG (k13.get 0), u14.keepG (k13.get 1), (qo8 iB14.decls iB14.procs iC.decls iC.procs).mono ?_⟩
  rintro _ m15 ⟨b, rfl, hb, u15⟩
  have x15 := x14.trans u15
  refine ⟨u15.sam (by simp; omega), b, rfl, fun h => absurd rfl (nb hb h), fun _ => ⟨rfl, x15⟩⟩
end
end Go.Proofs.YtpggcodlaajceaaGreat
section
/- The arguments' readings opened into plain data; a law's row closed. -/
namespace Go.Vc
open Go.ChangeShapes Go.WideShapes Go.RowKit
section
variable {H : Type} {enc : TypeId × Value -> H} {P : Program} {w : World}
def Reads (enc : TypeId × Value -> H) (P : Program) (w : World) (t : TypeId) (Q : List Ce -> Prop) : Prop :=
  ∀ (n : Nat) (cs : List Value) (x : DataW H × List MemPlace), DataW.trod enc P w 0 (fun _ => true) true n t cs = some x -> ∃ cs', cs = cs'.map Ce.v /\ Q cs'
theorem Reads.mono {t : TypeId} {Q Q' : List Ce -> Prop} (h : Reads enc P w t Q) (hQ : ∀ cs, Q cs -> Q' cs) : Reads enc P w t Q' := fun n cs x hx =>
  let ⟨cs', h1, h2⟩ := h n cs x hx
  ⟨cs', h1, hQ _ h2⟩
theorem qpd {t : TypeId} (ht : P.underlying t = some (.int .i64)) : Reads enc P w t (fun cs => ∃ k, IntR cs k) := by
  intro n cs x h
  cases n with
  | zero => simp [DataW.trod] at h
  | succ n =>
    unfold DataW.trod at h
    rw [ht] at h
    split at h <;> simp_all
    rename_i k hk
    subst hk
    exact ⟨[.i k], rfl, k, rfl⟩
theorem qsp {a : Addr} {v : Value} (h : w.cell? a = some v) : a.spot = none := by
  unfold World.cell? at h
  split at h
  · split at h
    · cases h
    · rename_i hs
      simpa using hs
  · cases h
theorem qso {a : Addr} (h : a.spot = none) (i : Nat) : a.add i = ⟨a.block, a.off + i, none⟩ := by
  obtain ⟨b, o, s⟩ := a
  simp only at h
  subst h
  unfold Addr.add
  by_cases hi : i = 0
  · subst hi; simp
  · simp [hi]
theorem qrd {α : Type} {t e : TypeId} {sz : Nat} {R : List Ce -> α -> Prop} (ht : P.underlying t = some (.slice e)) (hc : P.cellsOf e = sz) (hz : 0 < sz)
    (hE : Reads enc P w e (fun cs => ∃ a, R cs a)) : Reads enc P w t (fun cs => ∃ s l, cs = [.s s] /\ SlOf w.heap sz R s l) := by
  intro n cs x h
  rcases Go.Deep.open_slice ht h with ⟨rfl, _⟩ | ⟨a, len, cap, m, n, D, Pl, rfl, _, hl, hm, hmm, _, hx⟩
  · exact ⟨[.s .nil], rfl, .nil, [], rfl, ⟨rfl, Nat.le_refl _, by simp, fun k x hk => by simp at hk⟩⟩
  simp only [if_true] at hmm
  subst hmm
  rw [hc] at hx
  by_cases h0 : m = 0
  · subst h0
    have : len = 0 := by omega
    subst this
    obtain ⟨b, o, s⟩ := a
    cases s with
    | none => exact ⟨[.s (.mk b o 0 0)], rfl, .mk b o 0 0, [], rfl, ⟨rfl, Nat.le_refl _, by simp, fun k x hk => by simp at hk⟩⟩
    | some sp => exact ⟨[.s (.emp b o sp)], rfl, .emp b o sp, [], rfl, ⟨rfl, Nat.le_refl _, by simp, fun k x hk => by simp at hk⟩⟩
  have hsp : a.spot = none := by
    obtain ⟨cs', h1, _⟩ := hx 0 (by omega)
    obtain ⟨_, hlen, hcell⟩ := World.cells?_some h1
    have := hcell 0 hz
    cases cs' with
    | nil => simp at hlen; omega
    | cons c r =>
      have hs := qsp (by rw [this]; rfl)
      rw [Go.Deep.add_add] at hs
      simpa [Addr.add] using hs
  have one : ∀ i, i < m -> ∃ cs' v, R cs' v /\ rowIs w.heap a.block (a.off + i * sz) cs' := fun i hi => by
    obtain ⟨cv, h1, h2⟩ := hx i hi
    obtain ⟨cs', rfl, v, hv⟩ := hE _ _ _ h2
    refine ⟨cs', v, hv, fun j c hj => ?_⟩
    obtain ⟨_, hlen, hcell⟩ := World.cells?_some h1
    have hj' : j < sz := by rw [← hlen]; simpa using q07 hj
    have := hcell j hj'
    rw [Go.Deep.add_add, qso hsp, cell?_eq] at this
    rw [Nat.add_assoc, this]
    simp [hj]
  have two : ∀ i, ∃ v, i < m -> ∃ cs', R cs' v /\ rowIs w.heap a.block (a.off + i * sz) cs' := fun i => by
    by_cases hi : i < m
    · obtain ⟨cs', v, h1, h2⟩ := one i hi
      exact ⟨v, fun _ => ⟨cs', h1, h2⟩⟩
    · obtain ⟨cs', v, _, _⟩ := one 0 (by omega)
      exact ⟨v, fun h => absurd h hi⟩
  obtain ⟨f, hf⟩ := Classical.axiomOfChoice two
  have hml : m <= 9223372036854775807 := Nat.le_trans hm (by decide)
  refine ⟨[.s (.mk a.block a.off len m)], ?_, .mk a.block a.off len m, (List.range len).map f, rfl, ⟨by simp, hl, by simp; omega, fun k x hk => ?_⟩⟩
  · obtain ⟨b, o, s⟩ := a
    simp only at hsp
    subst hsp
    rfl
  · have hk' : k < len := by simpa using q07 hk
    rw [List.getElem?_map, List.getElem?_range hk'] at hk
    simp at hk
    subst hk
    exact hf k (by omega)
def Fields1 (P : Program) : Nat -> List Field -> Prop
  | _, [] => True
  | i, f :: fs => f.offset = i /\ P.cellsOf f.type = 1 /\ Fields1 P (i + 1) fs
def ReadsAll (enc : TypeId × Value -> H) (P : Program) (w : World) : List Field -> (List Ce -> Prop) -> Prop
  | [], Q => Q []
  | f :: fs, Q => ∃ q : Ce -> Prop, Reads enc P w f.type (fun cs => ∃ c, cs = [c] /\ q c) /\ ∀ c, q c -> ReadsAll enc P w fs (fun cs => Q (c :: cs))
theorem qlv {n : Nat} : ∀ (fs : List Field) (i : Nat) (all cs : List Value) (Q : List Ce -> Prop), Fields1 P i fs -> all.drop i = cs -> cs.length = fs.length ->
    (∀ f ∈ fs, ∃ x, DataW.trod enc P w 0 (fun _ => true) true n f.type ((all.drop f.offset).take (P.cellsOf f.type)) = some x) -> ReadsAll enc P w fs Q -> ∃ cs', cs = cs'.map Ce.v /\ Q cs'
  | [], i, all, cs, Q, _, _, hl, _, hQ => by
    cases cs with
    | nil => exact ⟨[], rfl, hQ⟩
    | cons c r => simp at hl
  | f :: fs, i, all, cs, Q, hF, hd, hl, hr, ⟨q, h1, h2⟩ => by
    cases cs with
    | nil => simp at hl
    | cons c r =>
      obtain ⟨hi, hc, hF'⟩ := hF
      obtain ⟨x, hx⟩ := hr f (by simp)
      rw [hc, hi, hd] at hx
      simp only [List.take_succ_cons, List.take_zero] at hx
      obtain ⟨cs', e, c', rfl, hq⟩ := h1 _ _ _ hx
      obtain ⟨cs2, e2, hQ⟩ := qlv fs (i + 1) all r _ hF' (by rw [← List.drop_drop, hd]; simp) (by simpa using hl) (fun g hg => hr g (by simp [hg])) (h2 c' hq)
      refine ⟨c' :: cs2, ?_, hQ⟩
      simp at e
      simp [e, ← e2]
theorem qr5 {t : TypeId} {fs : Array Field} {Q : List Ce -> Prop} (ht : P.underlying t = some (.struct fs)) (hc : P.cellsOf t = fs.size) (h1 : Fields1 P 0 fs.toList) (h2 : ReadsAll enc P w fs.toList Q) : Reads enc P w t Q := by
  intro n cs x h
  obtain ⟨xs, k, _, _, hl, hxl, hf⟩ := DataW.trod_struct ht h
  refine qlv (n := k) fs.toList 0 cs cs Q h1 rfl (by rw [hl, hc]; simp) (fun f hf' => ?_) h2
  obtain ⟨i, hi⟩ := List.mem_iff_getElem?.1 hf'
  have hi' : fs[i]? = some f := by simpa using hi
  have := hf i f hi'
  rw [this]
  have hlt : i < xs.length := by rw [hxl]; exact (Array.getElem?_eq_some_iff.1 hi').1
  exact ⟨xs[i], by simp [hlt]⟩
def structIs (P : Program) (t : TypeId) (ts : List TypeId) : Bool :=
  match P.underlying t with
  | some (.struct fs) => decide (fs.toList.map (fun f => (f.type, f.offset)) = ts.zip (List.range ts.length)) && decide (fs.size = ts.length) && (ts.all fun t => decide (P.cellsOf t = 1)) && decide (P.cellsOf t = ts.length)
  | _ => false
def ReadsTs (enc : TypeId × Value -> H) (P : Program) (w : World) : List TypeId -> (List Ce -> Prop) -> Prop
  | [], Q => Q []
  | t :: ts, Q => ∃ q : Ce -> Prop, Reads enc P w t (fun cs => ∃ c, cs = [c] /\ q c) /\ ∀ c, q c -> ReadsTs enc P w ts (fun cs => Q (c :: cs))
theorem qlq : ∀ (fs : List Field) (Q : List Ce -> Prop), ReadsTs enc P w (fs.map (·.type)) Q -> ReadsAll enc P w fs Q
  | [], _, h => h
  | _ :: fs, _, ⟨q, h1, h2⟩ => ⟨q, h1, fun c hc => qlq fs _ (h2 c hc)⟩
theorem qo0 : ∀ (fs : List Field) (ts : List TypeId) (i : Nat), fs.map (fun f => (f.type, f.offset)) = ts.zip (List.range' i ts.length) -> (∀ t ∈ ts, P.cellsOf t = 1) -> fs.length = ts.length -> Fields1 P i fs /\ fs.map (·.type) = ts
  | [], [], _, _, _, _ => ⟨trivial, rfl⟩
  | [], _ :: _, _, _, _, h => by simp at h
  | _ :: _, [], _, _, _, h => by simp at h
  | f :: fs, t :: ts, i, h, hc, hl => by
    simp only [List.map_cons, List.length_cons, List.range'_succ, List.zip_cons_cons, List.cons.injEq, Prod.mk.injEq] at h
    obtain ⟨⟨h1, h2⟩, h3⟩ := h
    obtain ⟨k1, k2⟩ := qo0 fs ts (i + 1) h3 (fun u hu => hc u (by simp [hu])) (by simpa using hl)
    exact ⟨⟨h2, by rw [h1]; exact hc t (by simp), k1⟩, by simp [h1, k2]⟩
theorem q58 {t : TypeId} {ts : List TypeId} {Q : List Ce -> Prop} (ht : structIs P t ts = true) (h : ReadsTs enc P w ts Q) : Reads enc P w t Q := by
  unfold structIs at ht
  split at ht
  · rename_i fs hu
    simp only [Bool.and_eq_true, decide_eq_true_eq, List.all_eq_true] at ht
    obtain ⟨⟨⟨h1, h2⟩, h3⟩, h4⟩ := ht
    rw [List.range_eq_range'] at h1
    obtain ⟨k1, k2⟩ := qo0 (P := P) fs.toList ts 0 h1 h3 (by simpa using h2)
    exact qr5 hu (by rw [h4, h2]) k1 (qlq _ _ (by rw [k2]; exact h))
  · cases ht
theorem qsw {t : TypeId} {ts : List TypeId} {Q : List Ce -> Prop} {b : Nat} {v : Value} {d : DataW H} {p : List MemPlace} (ht : structIs P t ts = true) (hv : Value.okWide P w .any b t v) (hr : Reads enc P w t Q)
    (h : DataW.Trod enc P w 0 (fun _ => true) true t v d p) : ∃ cs, v = .agg (cs.map Ce.v).toArray /\ Q cs := by
  unfold structIs at ht
  split at ht
  · rename_i fs hu
    unfold Value.okWide at hv
    rw [hu] at hv
    obtain ⟨cs, rfl, _, _⟩ := hv
    obtain ⟨n, hn⟩ := h
    obtain ⟨cs', e, hQ⟩ := hr _ _ _ hn
    refine ⟨cs', ?_, hQ⟩
    simp only [Value.cells] at e
    rw [← e]
  · cases ht
theorem qqo {t : TypeId} {b : Nat} {v : Value} {d : DataW H} {p : List MemPlace} (ht : P.underlying t = some (.int .i64)) (hv : Value.okWide P w .any b t v)
    (h : DataW.Trod enc P w 0 (fun _ => true) true t v d p) : ∃ k, v = vi k := by
  obtain ⟨a, rfl, _⟩ := open_int ht hv h
  exact ⟨a, rfl⟩
theorem qsm {t : TypeId} (ht : P.underlying t = some (.int .i64)) : Reads enc P w t (fun cs => ∃ c, cs = [c] /\ ∃ k, c = .i k) :=
  (qpd ht).mono fun _ ⟨k, h⟩ => ⟨.i k, h, k, rfl⟩
theorem q5y {α : Type} {t e : TypeId} {sz : Nat} {R : List Ce -> α -> Prop} (ht : P.underlying t = some (.slice e)) (hc : P.cellsOf e = sz) (hz : 0 < sz)
    (hE : Reads enc P w e (fun cs => ∃ a, R cs a)) : Reads enc P w t (fun cs => ∃ c, cs = [c] /\ ∃ s l, c = .s s /\ SlOf w.heap sz R s l) :=
  (qrd ht hc hz hE).mono fun _ ⟨s, l, h1, h2⟩ => ⟨.s s, h1, s, l, rfl, h2⟩
end
section
variable {H : Type} {enc : TypeId × Value -> H} {P : Program}
theorem qhy (hl : laidOutB P = true) {W W' : World} (hb : Below W.heap.size W W') : ∀ {ts : List TypeId} {vs : List Value} {ds : List (DataW H)} {ps : List MemPlace},
    (ts.all fun t => P.readableRec t && decide (t < P.types.size)) = true -> DataW.TrodAll enc P W 0 (fun _ => true) true ts vs ds ps -> (∀ x ∈ ps, x.block < W.heap.size) -> ∀ sp : Nat -> Bool, (∀ p ∈ ps, sp p.block = true) ->
    DataW.TrodAll enc P W' 0 sp true ts vs ds ps
  | [], _, _, _, _, h, _, _, _ => by
    obtain ⟨rfl, rfl, rfl⟩ := trodAll_nil h
    exact trodAll_mk0
  | t :: ts, _, _, _, ht, h, hlt, sp, hsp => by
    obtain ⟨v, vs, d, ds, p, q, rfl, rfl, rfl, h1, h2⟩ := trodAll_cons h
    simp only [List.all_cons, Bool.and_eq_true, decide_eq_true_eq] at ht
    exact ⟨p, q, WideElems.Trod_stays hl ht.1.1 ht.1.2 h1 (fun x hx => hb.same (hlt x (by simp [hx]))) (fun x hx => hsp x (by simp [hx])), qhy hl hb (by simpa using ht.2) h2 (fun x hx => hlt x (by simp [hx])) sp (fun x hx => hsp x (by simp [hx])), rfl⟩
theorem qq7 {f : Func} {s : ChangeSpec} {W W' : World} {args : Array Value} {ds : List (DataW H)} {before : List MemPlace} {t : TypeId}
    (hl : laidOutB P = true) (hts : (f.params.toList.all fun t => P.readableRec t && decide (t < P.types.size)) = true) (hrt : f.resultTypes = #[t]) (hbool : P.underlying t = some .bool) (hvs : s.vars = [])
    (hW : DataW.Whole enc P f.params.toList s.vars false W args.toList ds [] before) (hfa : (s.fn H (ds ++ [])).args = ds) (hfr : (s.fn H (ds ++ [])).results = [.lit (.bool true)]) (hfv : (s.fn H (ds ++ [])).vars = [])
    (hb : Below W.heap.size W W') : s.post enc P f false true false false W args (.bool true) W' := by
  have hlt : ∀ p ∈ before, p.block < W.heap.size := fun p hp => by simpa using hW.lt p hp
  have hW2 := hW
  obtain ⟨p, q, hA, hV, rfl, hz, hn⟩ := hW
  rw [hvs] at hV
  obtain ⟨_, rfl⟩ := trodVars_none hV
  simp only [List.append_nil] at hlt hz hW2
  have hargs : ∀ sp : Nat -> Bool, (∀ x ∈ p, sp x.block = true) -> DataW.TrodAll enc P W' 0 sp true f.params.toList args.toList (s.fn H (ds ++ [])).args p := fun sp hsp => by
    rw [hfa]; exact qhy hl hb hts hA hlt sp hsp
  have hvars : ∀ sp : Nat -> Bool, DataW.TrodVars enc P W' sp s.vars (s.fn H (ds ++ [])).vars [] := fun sp => by rw [hvs, hfv]; rfl
  have hres : ∀ (b : Nat) (sp : Nat -> Bool) (hd : Bool), DataW.TrodAll enc P W' b sp hd f.resultTypes.toList ((Value.bool true).resultList f.resultTypes.size) (s.fn H (ds ++ [])).results [] := fun b sp hd => by
    rw [hfr, hrt]
    exact trodAll_cons_mk (shut_bool hbool _) trodAll_mk0
  refine ⟨ds, [], p, [], p, [], hW2, hres _ _ _, hargs _ (fun x hx => by simpa using hlt x hx), hvars _, hb.frame _, fun _ => ?_⟩
  refine ⟨ok_one hrt rfl (okWide_bool_mk hbool _), _, _, ([] ++ p) ++ [], ⟨[] ++ p, [], trodAll_append (hargs _ (fun _ _ => rfl)) (hres _ _ _), hvars _, rfl, ?_, fun h => by cases h⟩, ?_⟩
  · intro b off hp
    have hp' : MemPlace.cell b off ∈ p := by simpa using hp
    rw [hb.frozen (p := ⟨b, off, none⟩) (hlt _ hp')]
    exact hz b off hp'
  · intro x hx _
    simpa using hx
end
end Go.Vc
end
namespace Go.Proofs.YtpggcodlaajceaaGreat
open Go.Vc
section
set_option maxRecDepth 100000
section
variable {H : Type} {enc : TypeId × Value -> H} {w : World}
theorem qtu : Tryz.prog.underlying 3 = some (.int .i64) := by kernel_rfl
theorem rd_int : Reads enc Tryz.prog w 3 (fun cs => ∃ k, IntR cs k) := qpd (by kernel_rfl)
theorem q86 : Reads enc Tryz.prog w 3 (fun cs => ∃ c, cs = [c] /\ ∃ k, c = .i k) := qsm (by kernel_rfl)
theorem qg1 : Reads enc Tryz.prog w 27 (fun cs => ∃ c, cs = [c] /\ ∃ s l, c = .s s /\ q03 w.heap s l) := q5y (by kernel_rfl) (by kernel_rfl) (by decide) rd_int
theorem st_Con : structIs Tryz.prog 222 [27] = true := by kernel_rfl
theorem rd_Con : Reads enc Tryz.prog w 222 (fun cs => ∃ a, ConR w.heap cs a) := by
  refine q58 st_Con ?_
  refine ⟨_, qg1, ?_⟩
  rintro _ ⟨x0, l0, rfl, h0⟩
  exact ⟨l0, x0, rfl, h0⟩
theorem qtr : Reads enc Tryz.prog w 107 (fun cs => ∃ c, cs = [c] /\ ∃ s l, c = .s s /\ SlOf w.heap 1 (ConR w.heap) s l) := q5y (by kernel_rfl) (by kernel_rfl) (by decide) rd_Con
theorem qtp : structIs Tryz.prog 109 [3, 3, 107] = true := by kernel_rfl
theorem qtw : Reads enc Tryz.prog w 109 (fun cs => ∃ a, DeclR w.heap cs a) := by
  refine q58 qtp ?_
  refine ⟨_, q86, ?_⟩
  rintro _ ⟨x0, rfl⟩
  refine ⟨_, q86, ?_⟩
  rintro _ ⟨x1, rfl⟩
  refine ⟨_, qtr, ?_⟩
  rintro _ ⟨x2, l2, rfl, h2⟩
  exact ⟨⟨x0, x1, l2⟩, x2, rfl, h2⟩
theorem qt6 : Reads enc Tryz.prog w 22 (fun cs => ∃ c, cs = [c] /\ ∃ s l, c = .s s /\ SlOf w.heap 3 (DeclR w.heap) s l) := q5y (by kernel_rfl) (by kernel_rfl) (by decide) qtw
theorem qtj : structIs Tryz.prog 224 [3, 3, 3, 3, 27, 27] = true := by kernel_rfl
theorem qtg : Reads enc Tryz.prog w 224 (fun cs => ∃ a, InstrR w.heap cs a) := by
  refine q58 qtj ?_
  refine ⟨_, q86, ?_⟩
  rintro _ ⟨x0, rfl⟩
  refine ⟨_, q86, ?_⟩
  rintro _ ⟨x1, rfl⟩
  refine ⟨_, q86, ?_⟩
  rintro _ ⟨x2, rfl⟩
  refine ⟨_, q86, ?_⟩
  rintro _ ⟨x3, rfl⟩
  refine ⟨_, qg1, ?_⟩
  rintro _ ⟨x4, l4, rfl, h4⟩
  refine ⟨_, qg1, ?_⟩
  rintro _ ⟨x5, l5, rfl, h5⟩
  exact ⟨⟨x0, x1, x2, x3, l4, l5⟩, x4, x5, rfl, h4, h5⟩
theorem qt3 : Reads enc Tryz.prog w 111 (fun cs => ∃ c, cs = [c] /\ ∃ s l, c = .s s /\ SlOf w.heap 6 (InstrR w.heap) s l) := q5y (by kernel_rfl) (by kernel_rfl) (by decide) qtg
theorem qts : structIs Tryz.prog 113 [27, 27, 3, 3, 111] = true := by kernel_rfl
theorem qtt : Reads enc Tryz.prog w 113 (fun cs => ∃ a, ProcR w.heap cs a) := by
  refine q58 qts ?_
  refine ⟨_, qg1, ?_⟩
  rintro _ ⟨x0, l0, rfl, h0⟩
  refine ⟨_, qg1, ?_⟩
  rintro _ ⟨x1, l1, rfl, h1⟩
  refine ⟨_, q86, ?_⟩
  rintro _ ⟨x2, rfl⟩
  refine ⟨_, q86, ?_⟩
  rintro _ ⟨x3, rfl⟩
  refine ⟨_, qt3, ?_⟩
  rintro _ ⟨x4, l4, rfl, h4⟩
  exact ⟨⟨l0, l1, x2, x3, l4⟩, x0, x1, x4, rfl, h0, h1, h4⟩
theorem qtl : Reads enc Tryz.prog w 23 (fun cs => ∃ c, cs = [c] /\ ∃ s l, c = .s s /\ SlOf w.heap 5 (ProcR w.heap) s l) := q5y (by kernel_rfl) (by kernel_rfl) (by decide) qtt
theorem qrb : structIs Tryz.prog 25 [22, 23] = true := by kernel_rfl
theorem qtf : Reads enc Tryz.prog w 25 (fun cs => ∃ d p im, cs = [.s d, .s p] /\ ImageR w.heap d p im) := by
  refine q58 qrb ?_
  refine ⟨_, qt6, ?_⟩
  rintro _ ⟨x0, l0, rfl, h0⟩
  refine ⟨_, qtl, ?_⟩
  rintro _ ⟨x1, l1, rfl, h1⟩
  exact ⟨x0, x1, ⟨l0, l1⟩, rfl, h0, h1⟩
theorem qtd {b : Nat} {v : Value} {d : DataW H} {ps : List MemPlace} (hv : Value.okWide Tryz.prog w .any b 25 v) (h : DataW.Trod enc Tryz.prog w 0 (fun _ => true) true 25 v d ps) :
    ∃ q p im, v = .agg #[Sl.v q, Sl.v p] /\ ImageR w.heap q p im := by
  obtain ⟨cs, rfl, q, p, im, rfl, hi⟩ := qsw (P := Tryz.prog) (w := w) (enc := enc) (b := b) (v := v) (d := d) (p := ps) qrb hv qtf h
  exact ⟨q, p, im, rfl, hi⟩
theorem op_int {b : Nat} {v : Value} {d : DataW H} {ps : List MemPlace} (hv : Value.okWide Tryz.prog w .any b 3 v) (h : DataW.Trod enc Tryz.prog w 0 (fun _ => true) true 3 v d ps) : ∃ k, v = vi k :=
  qqo (P := Tryz.prog) (w := w) (enc := enc) (b := b) (v := v) (d := d) (p := ps) (t := 3) qtu hv h
end
end
end Go.Proofs.YtpggcodlaajceaaGreat
