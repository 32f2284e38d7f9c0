/- Part of a proof, joined by a program: Cn17 Cn18 Cn19 Cn20. -/
import Derived.Test.YtpggcodlaajceaaGreatS02
namespace Go.Proofs.YtpggcodlaajceaaGreat
open Go.Vc
section
set_option linter.unusedVariables false
set_option maxRecDepth 100000
def q8v (m0 : Nat × Nat) (proc : Int) (args : Sl) (x_0 x_1 x_2 x_3 : Int) (x_4 x_5 : Sl) (m : Mem) (R : Value -> Mem -> Prop) : Prop :=
 let m1 : Mem := m.push (.cells (vals [.i x_0, .i x_1, .i x_2, .i x_3, .s x_4, .s x_5]) 86)
 ∃ v17 : Int, gcell m1 m0.1 (m0.2 + 3 + 2) = some (vi v17) /\
 wrOk m1 m0.1 (m0.2 + 3 + 2) 1 /\
 let m1_1 : Mem := scells m1 m0.1 (m0.2 + 3 + 2) [.i (w64 (v17 + 1))]
 Sam [m.size] m1 m1_1 /\
 ∃ v26 : Sl, gcell m1_1 m0.1 (m0.2 + 3 + 6) = some (Sl.v v26) /\
 eqT m.size m.size (
 ∃ K0 : Int -> Mem -> Prop,
 (eqT m.size m.size (
 ((x_0 == 24) = true ->
 ∃ v38 : Sl, gcell m1_1 m0.1 (m0.2 + 3 + 6) = some (Sl.v v38) /\
 0 <= (w64 ((v26.len : Int) - 1)) /\ (w64 ((v26.len : Int) - 1)) < (v38.len : Int) /\
 ∃ v42 : Int, gcell m1_1 v38.blk (v38.off + Int.toNat (w64 ((v26.len : Int) - 1)) * 6 + 2) = some (vi v42) /\
 ∃ v48 : Sl, gcell m1_1 m0.1 (m0.2 + 3 + 6) = some (Sl.v v48) /\
 (0 : Int) <= (0 : Int) /\ 0 <= (w64 ((v26.len : Int) - 1)) /\ (w64 ((v26.len : Int) - 1)) <= (v48.cap : Int) /\
 wrOk m1_1 m0.1 (m0.2 + 3 + 6) 1 /\
 let m1_2 : Mem := scells m1_1 m0.1 (m0.2 + 3 + 6) [.s (Sl.cut v48 (Int.toNat 0) (Int.toNat (w64 ((v26.len : Int) - 1))) 6)]
 Sam [m.size] m1_1 m1_2 /\
 eqS (SV.box m.size 86 [.i x_0, .i x_1, .i x_2, .i x_3, .s x_4, .s x_5]) (SV.box m.size 86 [.i x_0, .i x_1, .i x_2, .i x_3, .s x_4, .s x_5]) (
 K0 v42 m1_2)) /\
 ((x_0 == 24) = false ->
 eqS (SV.box m.size 86 [.i x_0, .i x_1, .i x_2, .i x_3, .s x_4, .s x_5]) (SV.box m.size 86 [.i x_0, .i x_1, .i x_2, .i x_3, .s x_4, .s x_5]) (
 K0 x_1 m1_1)))) /\
 (∀ (dst : Int) (m1_3 : Mem), K0 dst m1_3 ->
 ∃ v57_0 : Sl, gcell m1_3 m0.1 m0.2 = some (Sl.v v57_0) /\
 ∃ v57_1 : Sl, gcell m1_3 m0.1 (m0.2 + 1) = some (Sl.v v57_1) /\
 q00 Tryz.prog q5m [.agg #[Sl.v v57_0, Sl.v v57_1], vi proc, vi dst] m1_3 fun r m1_4 =>
 Sam [m.size] m1_3 m1_4 /\
 ∃ r_0 : Int, ∃ r_1 : Int, ∃ r_2 : Int, ∃ r_3 : Sl, ∃ r_4 : Sl, ∃ r_5 : Sl, r = .agg #[vi r_0, vi r_1, vi r_2, Sl.v r_3, Sl.v r_4, Sl.v r_5] /\
 let m1_5 : Mem := m1_4.push (.cells (vals [.i 0, .i 0, .i 0, .s Sl.nil, .s Sl.nil, .s Sl.nil]) 84)
 eqT m1_4.size m1_4.size (
 let m1_6 : Mem := scells m1_5 m1_4.size 0 [.i r_0, .i r_1, .i r_2, .s r_3, .s r_4, .s r_5]
 ∃ (I0 : Int -> Mem -> Prop) (μ0 : Int -> Mem -> Nat),
 I0 0 m1_6 /\
 (∀ (v63 : Int) (m1_7 : Mem), I0 v63 m1_7 ->
 ((decide (v63 < (args.len : Int))) = true ->
 0 <= v63 /\ v63 < (args.len : Int) /\
 ∃ v67 : Int, gcell m1_7 args.blk (args.off + Int.toNat v63 * 1) = some (vi v67) /\
 eqT m1_4.size m1_4.size (
 0 <= v63 /\ v63 < (r_3.len : Int) /\
 wrOk m1_7 r_3.blk (r_3.off + Int.toNat v63 * 1) 1 /\
 let m1_8 : Mem := scells m1_7 r_3.blk (r_3.off + Int.toNat v63 * 1) [.i v67]
 Sam [m1_4.size, m.size] m1_7 m1_8 /\
 ∃ v77 : Sl, gcell m1_8 m0.1 (m0.2 + 1) = some (Sl.v v77) /\
 0 <= proc /\ proc < (v77.len : Int) /\
 ∃ v81 : Sl, gcell m1_8 v77.blk (v77.off + Int.toNat proc * 5 + 1) = some (Sl.v v81) /\
 q00 Tryz.prog q23 [Sl.v v81, vi v63] m1_8 fun r_6 m1_9 =>
 Sam [m1_4.size, m.size] m1_8 m1_9 /\
 ∃ r83 : Bool, r_6 = vb r83 /\
 ((!r83) = true ->
 eqT m1_4.size m1_4.size (
 q00 Tryz.prog q2x [vi v67] m1_9 fun r_7 m1_10 =>
 Sam [m1_4.size, m.size] m1_9 m1_10 /\
 ∃ r89 : Int, r_7 = vi r89 /\
 gcell m1_10 m1_4.size 4 = gcell m1_9 m1_4.size 4 /\
 0 <= v63 /\ v63 < (r_4.len : Int) /\
 wrOk m1_10 r_4.blk (r_4.off + Int.toNat v63 * 1) 1 /\
 let m1_11 : Mem := scells m1_10 r_4.blk (r_4.off + Int.toNat v63 * 1) [.i r89]
 Sam [m1_4.size, m.size] m1_10 m1_11 /\
 eqS (SV.box m1_4.size 84 [.i r_0, .i r_1, .i r_2, .s r_3, .s r_4, .s r_5]) (SV.box m1_4.size 84 [.i r_0, .i r_1, .i r_2, .s r_3, .s r_4, .s r_5]) (
 eqS (SV.box m.size 86 [.i x_0, .i x_1, .i x_2, .i x_3, .s x_4, .s x_5]) (SV.box m.size 86 [.i x_0, .i x_1, .i x_2, .i x_3, .s x_4, .s x_5]) (
 I0 (w64 (v63 + 1)) m1_11 /\ μ0 (w64 (v63 + 1)) m1_11 < μ0 v63 m1_7)))) /\
 ((!r83) = false ->
 eqS (SV.box m1_4.size 84 [.i r_0, .i r_1, .i r_2, .s r_3, .s r_4, .s r_5]) (SV.box m1_4.size 84 [.i r_0, .i r_1, .i r_2, .s r_3, .s r_4, .s r_5]) (
 eqS (SV.box m.size 86 [.i x_0, .i x_1, .i x_2, .i x_3, .s x_4, .s x_5]) (SV.box m.size 86 [.i x_0, .i x_1, .i x_2, .i x_3, .s x_4, .s x_5]) (
 I0 (w64 (v63 + 1)) m1_9 /\ μ0 (w64 (v63 + 1)) m1_9 < μ0 v63 m1_7))))) /\
 ((decide (v63 < (args.len : Int))) = false ->
 ∃ v97 : Sl, gcell m1_7 m0.1 (m0.2 + 3 + 6) = some (Sl.v v97) /\
 eqT m1_4.size m1_4.size (
 let m1_12 : Mem := m1_7.push (.cells (vals [.i r_0, .i r_1, .i r_2, .s r_3, .s r_4, .s r_5]) 84)
 gcell m1_12 m0.1 (m0.2 + 3 + 6) = gcell m1_7 m0.1 (m0.2 + 3 + 6) /\
 appC m1_12 84 [.i 0, .i 0, .i 0, .s Sl.nil, .s Sl.nil, .s Sl.nil] 96 v97 (Sl.mk m1_7.size 0 1 1) fun r100 m1_13 =>
 Sam [m1_4.size, m.size] m1_12 m1_13 /\
 wrOk m1_13 m0.1 (m0.2 + 3 + 6) 1 /\
 let m1_14 : Mem := scells m1_13 m0.1 (m0.2 + 3 + 6) [.s r100]
 Sam [m1_4.size, m.size] m1_13 m1_14 /\
 R (.tuple #[]) m1_14))))))
theorem qdz (m0 : Nat × Nat) (proc : Int) (args : Sl) (x_0 x_1 x_2 x_3 : Int) (x_4 x_5 : Sl) (m : Mem) (R : Value -> Mem -> Prop) (hvc : q8v m0 proc args x_0 x_1 x_2 x_3 x_4 x_5 m R) : q00 Tryz.prog q2b [vp m0.1 m0.2, vi proc, Sl.v args, .agg #[vi x_0, vi x_1, vi x_2, vi x_3, Sl.v x_4, Sl.v x_5]] m R :=
 vcs (A := ⟨[(13, [0, 1, 0, 0, 8, 31, 63], [0, 1, 0, 0, 8, 31, 63]), (15, [0, 0, 2, 4, 8, 16, 0, 64, 160, 511, 1023, 1535, 2559], [0, 0, 2, 6, 14, 30, 0, 64, 254, 511, 1023, 2047, 4095])], [(9, [(63, .I)])], [(7, [(9, .I)])], [(7, [111]), (9, [114, 111])]⟩) (n := 104) (rs := []) (args := [.c (.p m0.1 m0.2), .c (.i proc), .c (.s args), .agg [.i x_0, .i x_1, .i x_2, .i x_3, .s x_4, .s x_5]]) (c := q05 Tryz.f142) Tryz.func142 hvc
def q84 (m0 : Nat × Nat) (w : Int) (keep : Bool) (m : Mem) (R : Value -> Mem -> Prop) : Prop :=
 ∃ v17 : Sl, gcell m m0.1 (m0.2 + 3 + 5) = some (Sl.v v17) /\
 0 <= (w64 (w - 1000)) /\ (w64 (w - 1000)) < (v17.len : Int) /\
 ∃ K0 : Mem -> Prop,
 (∃ v24 : Int, gcell m v17.blk (v17.off + Int.toNat (w64 (w - 1000)) * 3) = some (vi v24) /\
 ((v24 == 1) = true ->
 (keep = true ->
 ∃ v33 : Sl, gcell m v17.blk (v17.off + Int.toNat (w64 (w - 1000)) * 3 + 2) = some (Sl.v v33) /\
 0 <= (v33.len : Int) /\ (v33.len : Int) <= (v33.len : Int) /\ ((8 : Nat) : Int) * (v33.len : Int) <= 281474976710656 /\ (v33.len : Int) <= 9223372036854775807 /\
 let m1 : Mem := m.push (.cells (vals (zrow [.i 0] (Int.toNat (v33.len : Int)))) 3)
 wrOk m1 v17.blk (v17.off + Int.toNat (w64 (w - 1000)) * 3) 3 /\
 let m1_1 : Mem := scells m1 v17.blk (v17.off + Int.toNat (w64 (w - 1000)) * 3) [.i (-1), .i 0, .s (Sl.mk m.size 0 (Int.toNat (v33.len : Int)) (Int.toNat (v33.len : Int)))]
 R (vb true) m1_1) /\
 (keep = false ->
 K0 m)) /\
 ((v24 == 1) = false ->
 K0 m)) /\
 (∀ (m1_2 : Mem), K0 m1_2 ->
 ∃ v41 : Int, gcell m1_2 v17.blk (v17.off + Int.toNat (w64 (w - 1000)) * 3) = some (vi v41) /\
 ((v41 == 1) = true ->
 wrOk m1_2 v17.blk (v17.off + Int.toNat (w64 (w - 1000)) * 3) 3 /\
 let m1_3 : Mem := scells m1_2 v17.blk (v17.off + Int.toNat (w64 (w - 1000)) * 3) [.i 0, .i 0, .s Sl.nil]
 ∃ v50 : Sl, gcell m1_3 m0.1 (m0.2 + 3 + 5) = some (Sl.v v50) /\
 let m1_4 : Mem := m1_3.push (.cells (vals [.s Sl.nil]) 193)
 eqT m1_3.size m1_3.size (
 let m1_5 : Mem := scells m1_4 m1_3.size 0 [.s v50]
 q00 Tryz.prog q52 [vp m1_3.size 0] m1_5 fun r m1_6 =>
 ∃ v53 : Sl, gcell m1_6 m1_3.size 0 = some (Sl.v v53) /\
 wrOk m1_6 m0.1 (m0.2 + 3 + 5) 1 /\
 let m1_7 : Mem := scells m1_6 m0.1 (m0.2 + 3 + 5) [.s v53]
 R (vb false) m1_7)) /\
 ((v41 == 1) = false ->
 ∃ v60 : Int, gcell m1_2 v17.blk (v17.off + Int.toNat (w64 (w - 1000)) * 3) = some (vi v60) /\
 wrOk m1_2 v17.blk (v17.off + Int.toNat (w64 (w - 1000)) * 3) 1 /\
 let m1_8 : Mem := scells m1_2 v17.blk (v17.off + Int.toNat (w64 (w - 1000)) * 3) [.i (w64 (v60 - 1))]
 ∃ v67 : Sl, gcell m1_8 v17.blk (v17.off + Int.toNat (w64 (w - 1000)) * 3 + 2) = some (Sl.v v67) /\
 ∃ (I0 : Int -> Mem -> Prop) (μ0 : Int -> Mem -> Nat),
 I0 0 m1_8 /\
 (∀ (v69 : Int) (m1_9 : Mem), I0 v69 m1_9 ->
 ((decide (v69 < (v67.len : Int))) = true ->
 0 <= v69 /\ v69 < (v67.len : Int) /\
 ∃ v72 : Int, gcell m1_9 v67.blk (v67.off + Int.toNat v69 * 1) = some (vi v72) /\
 ∃ v78 : Sl, gcell m1_9 m0.1 (m0.2 + 3 + 5) = some (Sl.v v78) /\
 q00 Tryz.prog q2u [Sl.v v78, vi v72] m1_9 fun r_1 m1_10 =>
 ∃ r80 : Int, ∃ r80_1 : Bool, r_1 = .tuple #[vi r80, vb r80_1] /\
 (r80_1 = true ->
 ∃ v88 : Sl, gcell m1_10 m0.1 (m0.2 + 3 + 5) = some (Sl.v v88) /\
 0 <= r80 /\ r80 < (v88.len : Int) /\
 ∃ v92 : Int, gcell m1_10 v88.blk (v88.off + Int.toNat r80 * 3) = some (vi v92) /\
 0 <= r80 /\ r80 < (v88.len : Int) /\
 wrOk m1_10 v88.blk (v88.off + Int.toNat r80 * 3) 1 /\
 let m1_11 : Mem := scells m1_10 v88.blk (v88.off + Int.toNat r80 * 3) [.i (w64 (v92 + 1))]
 I0 (w64 (v69 + 1)) m1_11 /\ μ0 (w64 (v69 + 1)) m1_11 < μ0 v69 m1_9) /\
 (r80_1 = false ->
 I0 (w64 (v69 + 1)) m1_10 /\ μ0 (w64 (v69 + 1)) m1_10 < μ0 v69 m1_9)) /\
 ((decide (v69 < (v67.len : Int))) = false ->
 R (vb false) m1_9))))
theorem qcr (m0 : Nat × Nat) (w : Int) (keep : Bool) (m : Mem) (R : Value -> Mem -> Prop) (hvc : q84 m0 w keep m R) : q00 Tryz.prog q27 [vp m0.1 m0.2, vi w, vb keep] m R :=
 vcs (A := ⟨[], [(13, [(69, .I)])], [(5, [])], []⟩) (n := 97) (rs := [.tmp 6]) (args := [.c (.p m0.1 m0.2), .c (.i w), .c (.t keep)]) (c := q05 Tryz.f143) Tryz.func143 hvc
def q5w (m0 : Nat × Nat) (w : Int) (m : Mem) (R : Value -> Mem -> Prop) : Prop :=
 ∃ v10 : Sl, gcell m m0.1 (m0.2 + 3 + 6) = some (Sl.v v10) /\
 ∃ v17 : Sl, gcell m m0.1 (m0.2 + 3 + 6) = some (Sl.v v17) /\
 0 <= (w64 ((v10.len : Int) - 1)) /\ (w64 ((v10.len : Int) - 1)) < (v17.len : Int) /\
 ∃ v21 : Int, gcell m v17.blk (v17.off + Int.toNat (w64 ((v10.len : Int) - 1)) * 6 + 2) = some (vi v21) /\
 ∃ v27 : Sl, gcell m m0.1 (m0.2 + 3 + 6) = some (Sl.v v27) /\
 (0 : Int) <= (0 : Int) /\ 0 <= (w64 ((v10.len : Int) - 1)) /\ (w64 ((v10.len : Int) - 1)) <= (v27.cap : Int) /\
 wrOk m m0.1 (m0.2 + 3 + 6) 1 /\
 let m1 : Mem := scells m m0.1 (m0.2 + 3 + 6) [.s (Sl.cut v27 (Int.toNat 0) (Int.toNat (w64 ((v10.len : Int) - 1))) 6)]
 (((w64 ((v10.len : Int) - 1)) == 0) = true ->
 wrOk m1 m0.1 (m0.2 + 3) 1 /\
 let m1_1 : Mem := scells m1 m0.1 (m0.2 + 3) [.i 0]
 wrOk m1_1 m0.1 (m0.2 + 3 + 1) 1 /\
 let m1_2 : Mem := scells m1_1 m0.1 (m0.2 + 3 + 1) [.i w]
 wrOk m1_2 m0.1 (m0.2 + 3 + 6) 1 /\
 let m1_3 : Mem := scells m1_2 m0.1 (m0.2 + 3 + 6) [.s Sl.nil]
 R (.tuple #[]) m1_3) /\
 (((w64 ((v10.len : Int) - 1)) == 0) = false ->
 ∃ v52 : Sl, gcell m1 m0.1 (m0.2 + 3 + 6) = some (Sl.v v52) /\
 0 <= (w64 ((w64 ((v10.len : Int) - 1)) - 1)) /\ (w64 ((w64 ((v10.len : Int) - 1)) - 1)) < (v52.len : Int) /\
 q00 Tryz.prog q2x [vi w] m1 fun r m1_4 =>
 ∃ r59 : Int, r = vi r59 /\
 gcell m1_4 m0.1 (m0.2 + 3 + 6) = gcell m1 m0.1 (m0.2 + 3 + 6) /\
 q00 Tryz.prog q1f [vp v52.blk (v52.off + Int.toNat (w64 ((w64 ((v10.len : Int) - 1)) - 1)) * 6), vi v21, vi w, vi r59] m1_4 fun r_1 m1_5 =>
 R (.tuple #[]) m1_5)
theorem qad (m0 : Nat × Nat) (w : Int) (m : Mem) (R : Value -> Mem -> Prop) (hvc : q5w m0 w m R) : q00 Tryz.prog q41 [vp m0.1 m0.2, vi w] m R :=
 vcs (A := ⟨[(5, [0, 1, 2, 4, 8, 0, 32, 80, 0, 0, 0, 1024, 2944], [0, 1, 3, 7, 15, 0, 32, 127, 0, 0, 0, 1024, 4095])], [], [], []⟩) (n := 61) (rs := []) (args := [.c (.p m0.1 m0.2), .c (.i w)]) (c := q05 Tryz.f144) Tryz.func144 hvc
def qfo (a b : Sl) (m : Mem) (R : Value -> Mem -> Prop) : Prop :=
 (((a.len : Int) != (b.len : Int)) = true ->
 R (vb false) m) /\
 (((a.len : Int) != (b.len : Int)) = false ->
 ∃ (I0 : Int -> Mem -> Prop) (μ0 : Int -> Mem -> Nat),
 I0 0 m /\
 (∀ (i : Int) (m1 : Mem), I0 i m1 ->
 ((decide (i < (a.len : Int))) = true ->
 0 <= i /\ i < (a.len : Int) /\
 ∃ v20 : Sl, gcell m1 a.blk (a.off + Int.toNat i * 1) = some (Sl.v v20) /\
 0 <= i /\ i < (b.len : Int) /\
 ∃ v24 : Sl, gcell m1 b.blk (b.off + Int.toNat i * 1) = some (Sl.v v24) /\
 q00 Tryz.prog qdo [.agg #[Sl.v v20], .agg #[Sl.v v24]] m1 fun r m1_1 =>
 ∃ r25 : Bool, r = vb r25 /\
 ((!r25) = true ->
 R (vb false) m1_1) /\
 ((!r25) = false ->
 I0 (w64 (i + 1)) m1_1 /\ μ0 (w64 (i + 1)) m1_1 < μ0 i m1)) /\
 ((decide (i < (a.len : Int))) = false ->
 R (vb true) m1)))
theorem qkp (a b : Sl) (m : Mem) (R : Value -> Mem -> Prop) (hvc : qfo a b m R) : q00 Tryz.prog qb0 [Sl.v a, Sl.v b] m R :=
 vcs (A := ⟨[(6, [0, 0, 3, 4, 0, 0, 48, 64, 136, 256], [0, 0, 3, 7, 0, 0, 48, 112, 255, 511])], [(4, [(5, .I)])], [], []⟩) (n := 27) (rs := [.tmp 4]) (args := [.c (.s a), .c (.s b)]) (c := q05 Tryz.f145) Tryz.func145 hvc
def qdd (a b : Sl) (m : Mem) (R : Value -> Mem -> Prop) : Prop :=
 (((a.len : Int) != (b.len : Int)) = true ->
 R (vb false) m) /\
 (((a.len : Int) != (b.len : Int)) = false ->
 ∃ (I0 : Int -> Mem -> Prop) (μ0 : Int -> Mem -> Nat),
 I0 0 m /\
 (∀ (i : Int) (m1 : Mem), I0 i m1 ->
 ((decide (i < (a.len : Int))) = true ->
 0 <= i /\ i < (a.len : Int) /\
 ∃ v20_0 : Int, gcell m1 a.blk (a.off + Int.toNat i * 6) = some (vi v20_0) /\
 ∃ v20_1 : Int, gcell m1 a.blk (a.off + Int.toNat i * 6 + 1) = some (vi v20_1) /\
 ∃ v20_2 : Int, gcell m1 a.blk (a.off + Int.toNat i * 6 + 2) = some (vi v20_2) /\
 ∃ v20_3 : Int, gcell m1 a.blk (a.off + Int.toNat i * 6 + 3) = some (vi v20_3) /\
 ∃ v20_4 : Sl, gcell m1 a.blk (a.off + Int.toNat i * 6 + 4) = some (Sl.v v20_4) /\
 ∃ v20_5 : Sl, gcell m1 a.blk (a.off + Int.toNat i * 6 + 5) = some (Sl.v v20_5) /\
 0 <= i /\ i < (b.len : Int) /\
 ∃ v24_0 : Int, gcell m1 b.blk (b.off + Int.toNat i * 6) = some (vi v24_0) /\
 ∃ v24_1 : Int, gcell m1 b.blk (b.off + Int.toNat i * 6 + 1) = some (vi v24_1) /\
 ∃ v24_2 : Int, gcell m1 b.blk (b.off + Int.toNat i * 6 + 2) = some (vi v24_2) /\
 ∃ v24_3 : Int, gcell m1 b.blk (b.off + Int.toNat i * 6 + 3) = some (vi v24_3) /\
 ∃ v24_4 : Sl, gcell m1 b.blk (b.off + Int.toNat i * 6 + 4) = some (Sl.v v24_4) /\
 ∃ v24_5 : Sl, gcell m1 b.blk (b.off + Int.toNat i * 6 + 5) = some (Sl.v v24_5) /\
 q00 Tryz.prog qa7 [.agg #[vi v20_0, vi v20_1, vi v20_2, vi v20_3, Sl.v v20_4, Sl.v v20_5], .agg #[vi v24_0, vi v24_1, vi v24_2, vi v24_3, Sl.v v24_4, Sl.v v24_5]] m1 fun r m1_1 =>
 ∃ r25 : Bool, r = vb r25 /\
 ((!r25) = true ->
 R (vb false) m1_1) /\
 ((!r25) = false ->
 I0 (w64 (i + 1)) m1_1 /\ μ0 (w64 (i + 1)) m1_1 < μ0 i m1)) /\
 ((decide (i < (a.len : Int))) = false ->
 R (vb true) m1)))
theorem qi7 (a b : Sl) (m : Mem) (R : Value -> Mem -> Prop) (hvc : qdd a b m R) : q00 Tryz.prog q8n [Sl.v a, Sl.v b] m R :=
 vcs (A := ⟨[(6, [0, 0, 3, 4, 0, 0, 48, 64, 136, 256], [0, 0, 3, 7, 0, 0, 48, 112, 255, 511])], [(4, [(5, .I)])], [], []⟩) (n := 27) (rs := [.tmp 4]) (args := [.c (.s a), .c (.s b)]) (c := q05 Tryz.f146) Tryz.func146 hvc
def qbt (h : Sl) (m : Mem) (R : Value -> Mem -> Prop) : Prop :=
 ∃ (I0 : Int -> Int -> Mem -> Prop) (μ0 : Int -> Int -> Mem -> Nat),
 I0 0 0 m /\
 (∀ (n : Int) (i : Int) (m1 : Mem), I0 n i m1 ->
 ((decide (i < (h.len : Int))) = true ->
 0 <= i /\ i < (h.len : Int) /\
 ∃ v15 : Int, gcell m1 h.blk (h.off + Int.toNat i * 3) = some (vi v15) /\
 ((decide (v15 > 0)) = true ->
 I0 (w64 (n + 1)) (w64 (i + 1)) m1 /\ μ0 (w64 (n + 1)) (w64 (i + 1)) m1 < μ0 n i m1) /\
 ((decide (v15 > 0)) = false ->
 I0 n (w64 (i + 1)) m1 /\ μ0 n (w64 (i + 1)) m1 < μ0 n i m1)) /\
 ((decide (i < (h.len : Int))) = false ->
 R (vi n) m1))
theorem qhh (h : Sl) (m : Mem) (R : Value -> Mem -> Prop) (hvc : qbt h m R) : q00 Tryz.prog q7l [Sl.v h] m R :=
 vcs (A := ⟨[], [(3, [(3, .I), (4, .I)])], [], []⟩) (n := 20) (rs := [.tmp 2]) (args := [.c (.s h)]) (c := q05 Tryz.f147) Tryz.func147 hvc
def q89 (h : Sl) (least : Int) (m : Mem) (R : Value -> Mem -> Prop) : Prop :=
 ∃ (I0 : Int -> Int -> Mem -> Prop) (μ0 : Int -> Int -> Mem -> Nat),
 I0 least 0 m /\
 (∀ (n : Int) (i : Int) (m1 : Mem), I0 n i m1 ->
 ((decide (i < (h.len : Int))) = true ->
 0 <= i /\ i < (h.len : Int) /\
 ∃ v19 : Int, gcell m1 h.blk (h.off + Int.toNat i * 3) = some (vi v19) /\
 I0 (if v19 > n then v19 else n) (w64 (i + 1)) m1 /\ μ0 (if v19 > n then v19 else n) (w64 (i + 1)) m1 < μ0 n i m1) /\
 ((decide (i < (h.len : Int))) = false ->
 R (vi n) m1))
theorem qdf (h : Sl) (least : Int) (m : Mem) (R : Value -> Mem -> Prop) (hvc : q89 h least m R) : q00 Tryz.prog q1u [Sl.v h, vi least] m R :=
 vcs (A := ⟨[], [(3, [(5, .I), (6, .I)])], [], []⟩) (n := 22) (rs := [.tmp 4]) (args := [.c (.s h), .c (.i least)]) (c := q05 Tryz.f148) Tryz.func148 hvc
def ql9 (w : Int) (m : Mem) (R : Value -> Mem -> Prop) : Prop :=
 R (vb (decide (w ≥ 1000))) m
theorem qgo (w : Int) (m : Mem) (R : Value -> Mem -> Prop) (hvc : ql9 w m R) : q00 Tryz.prog q1h [vi w] m R :=
 vcs (A := ⟨[], [], [], []⟩) (n := 5) (rs := [.tmp 2]) (args := [.c (.i w)]) (c := q05 Tryz.f153) Tryz.func153 hvc
def qmg (op : Int) (m : Mem) (R : Value -> Mem -> Prop) : Prop :=
 ((op == 6) = true ->
 R (vb true) m) /\
 ((op == 6) = false ->
 ((op == 9) = true ->
 R (vb true) m) /\
 ((op == 9) = false ->
 ((op == 10) = true ->
 R (vb true) m) /\
 ((op == 10) = false ->
 R (vb (op == 11)) m)))
theorem qi8 (op : Int) (m : Mem) (R : Value -> Mem -> Prop) (hvc : qmg op m R) : q00 Tryz.prog q8o [vi op] m R :=
 vcs (A := ⟨[], [], [], []⟩) (n := 17) (rs := [.tmp 2]) (args := [.c (.i op)]) (c := q05 Tryz.f155) Tryz.func155 hvc
end
section
set_option linter.unusedVariables false
set_option maxRecDepth 100000
def qe9 (im_0 im_1 : Sl) (i_0 i_1 i_2 i_3 : Int) (i_4 i_5 : Sl) (k : Int) (m : Mem) (R : Value -> Mem -> Prop) : Prop :=
 let m1 : Mem := m.push (.cells (vals [.s im_0, .s im_1]) 35)
 let m1_1 : Mem := m1.push (.cells (vals [.i i_0, .i i_1, .i i_2, .i i_3, .s i_4, .s i_5]) 86)
 eqT m1.size m1.size (
 ((i_0 == 9) = true ->
 eqT m.size m.size (
 eqT m1.size m1.size (
 0 <= i_2 /\ i_2 < (im_1.len : Int) /\
 ∃ v22 : Sl, gcell m1_1 im_1.blk (im_1.off + Int.toNat i_2 * 5 + 1) = some (Sl.v v22) /\
 q00 Tryz.prog q5d [Sl.v v22, vi k] m1_1 fun r m1_2 =>
 Sam [m1.size, m.size] m1_1 m1_2 /\
 ∃ r24 : Bool, r = vb r24 /\
 R (vb r24) m1_2))) /\
 ((i_0 == 9) = false ->
 eqT m1.size m1.size (
 ((i_0 == 24) = true ->
 eqT m.size m.size (
 eqT m1.size m1.size (
 0 <= i_2 /\ i_2 < (im_1.len : Int) /\
 ∃ v22_1 : Sl, gcell m1_1 im_1.blk (im_1.off + Int.toNat i_2 * 5 + 1) = some (Sl.v v22_1) /\
 q00 Tryz.prog q5d [Sl.v v22_1, vi k] m1_1 fun r_1 m1_3 =>
 Sam [m1.size, m.size] m1_1 m1_3 /\
 ∃ r24_1 : Bool, r_1 = vb r24_1 /\
 R (vb r24_1) m1_3))) /\
 ((i_0 == 24) = false ->
 R (vb false) m1_1))))
theorem qip (im_0 im_1 : Sl) (i_0 i_1 i_2 i_3 : Int) (i_4 i_5 : Sl) (k : Int) (m : Mem) (R : Value -> Mem -> Prop) (hvc : qe9 im_0 im_1 i_0 i_1 i_2 i_3 i_4 i_5 k m R) : q00 Tryz.prog q4l [.agg #[Sl.v im_0, Sl.v im_1], .agg #[vi i_0, vi i_1, vi i_2, vi i_3, Sl.v i_4, Sl.v i_5], vi k] m R :=
 vcs (A := ⟨[], [], [], []⟩) (n := 26) (rs := [.tmp 6]) (args := [.agg [.s im_0, .s im_1], .agg [.i i_0, .i i_1, .i i_2, .i i_3, .s i_4, .s i_5], .c (.i k)]) (c := q05 Tryz.f156) Tryz.func156 hvc
def qhf (list : Sl) (m : Mem) (R : Value -> Mem -> Prop) : Prop :=
 ∃ (I0 : Int -> Mem -> Prop) (μ0 : Int -> Mem -> Nat),
 I0 0 m /\
 (∀ (i : Int) (m1 : Mem), I0 i m1 ->
 ((decide (i < (list.len : Int))) = true ->
 0 <= i /\ i < (list.len : Int) /\
 ∃ v13 : Int, gcell m1 list.blk (list.off + Int.toNat i * 1) = some (vi v13) /\
 ((decide (v13 < 0)) = true ->
 R (vb false) m1) /\
 ((decide (v13 < 0)) = false ->
 I0 (w64 (i + 1)) m1 /\ μ0 (w64 (i + 1)) m1 < μ0 i m1)) /\
 ((decide (i < (list.len : Int))) = false ->
 R (vb true) m1))
theorem qdt (list : Sl) (m : Mem) (R : Value -> Mem -> Prop) (hvc : qhf list m R) : q00 Tryz.prog q5h [Sl.v list] m R :=
 vcs (A := ⟨[], [(2, [(3, .I)])], [], []⟩) (n := 15) (rs := [.tmp 2]) (args := [.c (.s list)]) (c := q05 Tryz.f157) Tryz.func157 hvc
def qr2 (op : Int) (m : Mem) (R : Value -> Mem -> Prop) : Prop :=
 q00 Tryz.prog q9j [vi op] m fun r m1 =>
 ∃ r4 : Bool, r = vb r4 /\
 (r4 = true ->
 ((op != 7) = true ->
 ((op != 8) = true ->
 R (vb true) m1) /\
 ((op != 8) = false ->
 ((op == 18) = true ->
 R (vb true) m1) /\
 ((op == 18) = false ->
 R (vb (op == 19)) m1))) /\
 ((op != 7) = false ->
 ((op == 18) = true ->
 R (vb true) m1) /\
 ((op == 18) = false ->
 R (vb (op == 19)) m1))) /\
 (r4 = false ->
 ((op == 18) = true ->
 R (vb true) m1) /\
 ((op == 18) = false ->
 R (vb (op == 19)) m1))
theorem qnc (op : Int) (m : Mem) (R : Value -> Mem -> Prop) (hvc : qr2 op m R) : q00 Tryz.prog qac [vi op] m R :=
 vcs (A := ⟨[], [], [], []⟩) (n := 21) (rs := [.tmp 2]) (args := [.c (.i op)]) (c := q05 Tryz.f158) Tryz.func158 hvc
def qav (f_0 f_1 f_2 : Int) (f_3 f_4 f_5 : Sl) (i_0 i_1 i_2 i_3 : Int) (i_4 i_5 : Sl) (m : Mem) (R : Value -> Mem -> Prop) : Prop :=
 let m1 : Mem := m.push (.cells (vals [.i f_0, .i f_1, .i f_2, .s f_3, .s f_4, .s f_5]) 84)
 let m1_1 : Mem := m1.push (.cells (vals [.i i_0, .i i_1, .i i_2, .i i_3, .s i_4, .s i_5]) 86)
 ∃ (I0 : Int -> Mem -> Prop) (μ0 : Int -> Mem -> Nat),
 I0 0 m1_1 /\
 (∀ (k : Int) (m1_2 : Mem), I0 k m1_2 ->
 eqT m1.size m1.size (
 ((decide (k < (i_4.len : Int))) = true ->
 eqT m.size m.size (
 eqT m1.size m1.size (
 0 <= k /\ k < (i_4.len : Int) /\
 ∃ v19 : Int, gcell m1_2 i_4.blk (i_4.off + Int.toNat k * 1) = some (vi v19) /\
 0 <= v19 /\ v19 < (f_3.len : Int) /\
 ∃ v21 : Int, gcell m1_2 f_3.blk (f_3.off + Int.toNat v19 * 1) = some (vi v21) /\
 q00 Tryz.prog q1h [vi v21] m1_2 fun r m1_3 =>
 Sam [m1.size, m.size] m1_2 m1_3 /\
 ∃ r22 : Bool, r = vb r22 /\
 (r22 = true ->
 R (vb false) m1_3) /\
 (r22 = false ->
 eqS (SV.box m1.size 86 [.i i_0, .i i_1, .i i_2, .i i_3, .s i_4, .s i_5]) (SV.box m1.size 86 [.i i_0, .i i_1, .i i_2, .i i_3, .s i_4, .s i_5]) (
 eqS (SV.box m.size 84 [.i f_0, .i f_1, .i f_2, .s f_3, .s f_4, .s f_5]) (SV.box m.size 84 [.i f_0, .i f_1, .i f_2, .s f_3, .s f_4, .s f_5]) (
 I0 (w64 (k + 1)) m1_3 /\ μ0 (w64 (k + 1)) m1_3 < μ0 k m1_2)))))) /\
 ((decide (k < (i_4.len : Int))) = false ->
 R (vb true) m1_2)))
theorem qfh (f_0 f_1 f_2 : Int) (f_3 f_4 f_5 : Sl) (i_0 i_1 i_2 i_3 : Int) (i_4 i_5 : Sl) (m : Mem) (R : Value -> Mem -> Prop) (hvc : qav f_0 f_1 f_2 f_3 f_4 f_5 i_0 i_1 i_2 i_3 i_4 i_5 m R) : q00 Tryz.prog q6v [.agg #[vi f_0, vi f_1, vi f_2, Sl.v f_3, Sl.v f_4, Sl.v f_5], .agg #[vi i_0, vi i_1, vi i_2, vi i_3, Sl.v i_4, Sl.v i_5]] m R :=
 vcs (A := ⟨[(4, [0, 1, 0, 4, 0, 24, 32, 66, 128, 256], [0, 1, 0, 4, 0, 28, 60, 127, 255, 511])], [(2, [(5, .I)])], [], [(2, [26, 25])]⟩) (n := 23) (rs := [.tmp 4]) (args := [.agg [.i f_0, .i f_1, .i f_2, .s f_3, .s f_4, .s f_5], .agg [.i i_0, .i i_1, .i i_2, .i i_3, .s i_4, .s i_5]]) (c := q05 Tryz.f159) Tryz.func159 hvc
def q64 (m0 : Nat × Nat) (f_0 f_1 f_2 : Int) (f_3 f_4 f_5 : Sl) (i_0 i_1 i_2 i_3 : Int) (i_4 i_5 : Sl) (m : Mem) (R : Value -> Mem -> Prop) : Prop :=
 let m1 : Mem := m.push (.cells (vals [.i f_0, .i f_1, .i f_2, .s f_3, .s f_4, .s f_5]) 84)
 let m1_1 : Mem := m1.push (.cells (vals [.i i_0, .i i_1, .i i_2, .i i_3, .s i_4, .s i_5]) 86)
 eqT m1.size m1.size (
 ((i_3 == 0) = true ->
 R (vb true) m1_1) /\
 ((i_3 == 0) = false ->
 eqT m.size m.size (
 eqT m1.size m1.size (
 0 <= (w64 (i_3 - 1)) /\ (w64 (i_3 - 1)) < (f_5.len : Int) /\
 ∃ v17 : Int, gcell m1_1 f_5.blk (f_5.off + Int.toNat (w64 (i_3 - 1)) * 1) = some (vi v17) /\
 ((v17 == 0) = true ->
 R (vb true) m1_1) /\
 ((v17 == 0) = false ->
 eqT m.size m.size (
 eqT m1.size m1.size (
 0 <= (w64 (i_3 - 1)) /\ (w64 (i_3 - 1)) < (f_5.len : Int) /\
 ∃ v27 : Int, gcell m1_1 f_5.blk (f_5.off + Int.toNat (w64 (i_3 - 1)) * 1) = some (vi v27) /\
 eqT m1.size m1.size (
 q00 Tryz.prog q0w [vp m0.1 m0.2, vi v27] m1_1 fun r m1_2 =>
 Sam [m1.size, m.size] m1_1 m1_2 /\
 ∃ r_0 : Int, ∃ r_1 : Int, ∃ r_2 : Sl, r = .agg #[vi r_0, vi r_1, Sl.v r_2] /\
 gcell m1_2 m1.size 4 = gcell m1_1 m1.size 4 /\
 R (vb ((r_2.len : Int) == (i_4.len : Int))) m1_2))))))))
theorem qah (m0 : Nat × Nat) (f_0 f_1 f_2 : Int) (f_3 f_4 f_5 : Sl) (i_0 i_1 i_2 i_3 : Int) (i_4 i_5 : Sl) (m : Mem) (R : Value -> Mem -> Prop) (hvc : q64 m0 f_0 f_1 f_2 f_3 f_4 f_5 i_0 i_1 i_2 i_3 i_4 i_5 m R) : q00 Tryz.prog q42 [vp m0.1 m0.2, .agg #[vi f_0, vi f_1, vi f_2, Sl.v f_3, Sl.v f_4, Sl.v f_5], .agg #[vi i_0, vi i_1, vi i_2, vi i_3, Sl.v i_4, Sl.v i_5]] m R :=
 vcs (A := ⟨[(3, [0, 0, 2, 0, 8, 16, 36, 64, 129, 256, 512, 0, 2048, 4096, 9216, 32767], [0, 0, 2, 0, 8, 24, 62, 126, 255, 511, 1023, 0, 2048, 6144, 16383, 32767])], [], [], []⟩) (n := 35) (rs := [.tmp 6]) (args := [.c (.p m0.1 m0.2), .agg [.i f_0, .i f_1, .i f_2, .s f_3, .s f_4, .s f_5], .agg [.i i_0, .i i_1, .i i_2, .i i_3, .s i_4, .s i_5]]) (c := q05 Tryz.f160) Tryz.func160 hvc
def q69 (m0 : Nat × Nat) (f_0 f_1 f_2 : Int) (f_3 f_4 f_5 : Sl) (i_0 i_1 i_2 i_3 : Int) (i_4 i_5 : Sl) (m : Mem) (R : Value -> Mem -> Prop) : Prop :=
 let m1 : Mem := m.push (.cells (vals [.i f_0, .i f_1, .i f_2, .s f_3, .s f_4, .s f_5]) 84)
 let m1_1 : Mem := m1.push (.cells (vals [.i i_0, .i i_1, .i i_2, .i i_3, .s i_4, .s i_5]) 86)
 ∃ (I0 : Int -> Mem -> Prop) (μ0 : Int -> Mem -> Nat),
 I0 0 m1_1 /\
 (∀ (k : Int) (m1_2 : Mem), I0 k m1_2 ->
 eqT m1.size m1.size (
 ((decide (k < (i_4.len : Int))) = true ->
 eqT m.size m.size (
 eqT m1.size m1.size (
 0 <= k /\ k < (i_4.len : Int) /\
 ∃ v22 : Int, gcell m1_2 i_4.blk (i_4.off + Int.toNat k * 1) = some (vi v22) /\
 0 <= v22 /\ v22 < (f_3.len : Int) /\
 ∃ v24 : Int, gcell m1_2 f_3.blk (f_3.off + Int.toNat v22 * 1) = some (vi v24) /\
 ∃ v28_0 : Sl, gcell m1_2 m0.1 m0.2 = some (Sl.v v28_0) /\
 ∃ v28_1 : Sl, gcell m1_2 m0.1 (m0.2 + 1) = some (Sl.v v28_1) /\
 eqT m1.size m1.size (
 q00 Tryz.prog q4l [.agg #[Sl.v v28_0, Sl.v v28_1], .agg #[vi i_0, vi i_1, vi i_2, vi i_3, Sl.v i_4, Sl.v i_5], vi k] m1_2 fun r m1_3 =>
 Sam [m1.size, m.size] m1_2 m1_3 /\
 ∃ r31 : Bool, r = vb r31 /\
 (r31 = true ->
 q00 Tryz.prog q1h [vi v24] m1_3 fun r_1 m1_4 =>
 Sam [m1.size, m.size] m1_3 m1_4 /\
 ∃ r34 : Bool, r_1 = vb r34 /\
 (r34 = true ->
 ∃ v41 : Sl, gcell m1_4 m0.1 (m0.2 + 2 + 5) = some (Sl.v v41) /\
 q00 Tryz.prog q2t [Sl.v v41, vi v24] m1_4 fun r_2 m1_5 =>
 Sam [m1.size, m.size] m1_4 m1_5 /\
 ∃ r43 : Bool, r_2 = vb r43 /\
 ((!r43) = true ->
 R (vb false) m1_5) /\
 ((!r43) = false ->
 eqS (SV.box m1.size 86 [.i i_0, .i i_1, .i i_2, .i i_3, .s i_4, .s i_5]) (SV.box m1.size 86 [.i i_0, .i i_1, .i i_2, .i i_3, .s i_4, .s i_5]) (
 eqS (SV.box m.size 84 [.i f_0, .i f_1, .i f_2, .s f_3, .s f_4, .s f_5]) (SV.box m.size 84 [.i f_0, .i f_1, .i f_2, .s f_3, .s f_4, .s f_5]) (
 I0 (w64 (k + 1)) m1_5 /\ μ0 (w64 (k + 1)) m1_5 < μ0 k m1_2)))) /\
 (r34 = false ->
 eqS (SV.box m1.size 86 [.i i_0, .i i_1, .i i_2, .i i_3, .s i_4, .s i_5]) (SV.box m1.size 86 [.i i_0, .i i_1, .i i_2, .i i_3, .s i_4, .s i_5]) (
 eqS (SV.box m.size 84 [.i f_0, .i f_1, .i f_2, .s f_3, .s f_4, .s f_5]) (SV.box m.size 84 [.i f_0, .i f_1, .i f_2, .s f_3, .s f_4, .s f_5]) (
 I0 (w64 (k + 1)) m1_4 /\ μ0 (w64 (k + 1)) m1_4 < μ0 k m1_2)))) /\
 (r31 = false ->
 eqS (SV.box m1.size 86 [.i i_0, .i i_1, .i i_2, .i i_3, .s i_4, .s i_5]) (SV.box m1.size 86 [.i i_0, .i i_1, .i i_2, .i i_3, .s i_4, .s i_5]) (
 eqS (SV.box m.size 84 [.i f_0, .i f_1, .i f_2, .s f_3, .s f_4, .s f_5]) (SV.box m.size 84 [.i f_0, .i f_1, .i f_2, .s f_3, .s f_4, .s f_5]) (
 I0 (w64 (k + 1)) m1_3 /\ μ0 (w64 (k + 1)) m1_3 < μ0 k m1_2))))))) /\
 ((decide (k < (i_4.len : Int))) = false ->
 R (vb true) m1_2)))
theorem qao (m0 : Nat × Nat) (f_0 f_1 f_2 : Int) (f_3 f_4 f_5 : Sl) (i_0 i_1 i_2 i_3 : Int) (i_4 i_5 : Sl) (m : Mem) (R : Value -> Mem -> Prop) (hvc : q69 m0 f_0 f_1 f_2 f_3 f_4 f_5 i_0 i_1 i_2 i_3 i_4 i_5 m R) : q00 Tryz.prog q2v [vp m0.1 m0.2, .agg #[vi f_0, vi f_1, vi f_2, Sl.v f_3, Sl.v f_4, Sl.v f_5], .agg #[vi i_0, vi i_1, vi i_2, vi i_3, Sl.v i_4, Sl.v i_5]] m R :=
 vcs (A := ⟨[(4, [0, 1, 0, 4, 0, 24, 32, 66, 128, 511], [0, 1, 0, 4, 0, 28, 60, 127, 255, 511]), (5, [0, 1, 2, 4, 0, 0, 56, 64, 128, 384, 640, 1536, 2048, 6144, 10240, 18432, 34816, 2048, 198656, 264192, 526336], [0, 1, 3, 7, 0, 0, 63, 127, 255, 511, 1023, 2047, 4095, 8191, 16383, 32767, 65535, 4095, 262143, 524287, 1048575])], [(2, [(7, .I)])], [], [(2, [51, 50])]⟩) (n := 46) (rs := [.tmp 6]) (args := [.c (.p m0.1 m0.2), .agg [.i f_0, .i f_1, .i f_2, .s f_3, .s f_4, .s f_5], .agg [.i i_0, .i i_1, .i i_2, .i i_3, .s i_4, .s i_5]]) (c := q05 Tryz.f161) Tryz.func161 hvc
def qob (list : Sl) (m : Mem) (R : Value -> Mem -> Prop) : Prop :=
 ∃ (I0 : Int -> Mem -> Prop) (μ0 : Int -> Mem -> Nat),
 I0 0 m /\
 (∀ (i : Int) (m1 : Mem), I0 i m1 ->
 ((decide (i < (list.len : Int))) = true ->
 0 <= i /\ i < (list.len : Int) /\
 ∃ v13 : Int, gcell m1 list.blk (list.off + Int.toNat i * 1) = some (vi v13) /\
 ((v13 != 0) = true ->
 R (vb false) m1) /\
 ((v13 != 0) = false ->
 I0 (w64 (i + 1)) m1 /\ μ0 (w64 (i + 1)) m1 < μ0 i m1)) /\
 ((decide (i < (list.len : Int))) = false ->
 R (vb true) m1))
theorem qin (list : Sl) (m : Mem) (R : Value -> Mem -> Prop) (hvc : qob list m R) : q00 Tryz.prog q3v [Sl.v list] m R :=
 vcs (A := ⟨[], [(2, [(3, .I)])], [], []⟩) (n := 15) (rs := [.tmp 2]) (args := [.c (.s list)]) (c := q05 Tryz.f162) Tryz.func162 hvc
def q6b (m0 : Nat × Nat) (w : Int) (m : Mem) (R : Value -> Mem -> Prop) : Prop :=
 ∃ v11 : Sl, gcell m m0.1 (m0.2 + 2 + 5) = some (Sl.v v11) /\
 q00 Tryz.prog q2t [Sl.v v11, vi w] m fun r m1 =>
 ∃ r13 : Bool, r = vb r13 /\
 ((!r13) = true ->
 R (vb false) m1) /\
 ((!r13) = false ->
 q00 Tryz.prog q0w [vp m0.1 m0.2, vi w] m1 fun r_1 m1_1 =>
 ∃ r_0 : Int, ∃ r_1_1 : Int, ∃ r_2 : Sl, r_1 = .agg #[vi r_0, vi r_1_1, Sl.v r_2] /\
 let m1_2 : Mem := m1_1.push (.cells (vals [.i 0, .i 0, .s Sl.nil]) 149)
 eqT m1_1.size m1_1.size (
 let m1_3 : Mem := scells m1_2 m1_1.size 0 [.i r_0, .i r_1_1, .s r_2]
 eqT m1_1.size m1_1.size (
 ∃ v24 : Sl, gcell m1_3 m0.1 m0.2 = some (Sl.v v24) /\
 q00 Tryz.prog q48 [Sl.v v24] m1_3 fun r_3 m1_4 =>
 Sam [m1_1.size] m1_3 m1_4 /\
 ∃ r25 : Int, r_3 = vi r25 /\
 gcell m1_4 m1_1.size 1 = gcell m1_3 m1_1.size 1 /\
 ∃ v32 : Sl, gcell m1_4 m0.1 (m0.2 + 1) = some (Sl.v v32) /\
 q00 Tryz.prog q0n [vi (w64 (r_1_1 - r25)), vi 0, vi (w64 ((v32.len : Int) - 1))] m1_4 fun r_4 m1_5 =>
 Sam [m1_1.size] m1_4 m1_5 /\
 ∃ r35 : Bool, r_4 = vb r35 /\
 (r35 = true ->
 ∃ v41 : Sl, gcell m1_5 m0.1 (m0.2 + 1) = some (Sl.v v41) /\
 0 <= (w64 (r_1_1 - r25)) /\ (w64 (r_1_1 - r25)) < (v41.len : Int) /\
 ∃ v45 : Sl, gcell m1_5 v41.blk (v41.off + Int.toNat (w64 (r_1_1 - r25)) * 5) = some (Sl.v v45) /\
 eqT m1_1.size m1_1.size (
 (((v45.len : Int) == (w64 ((r_2.len : Int) + 1))) = true ->
 ∃ v58 : Sl, gcell m1_5 m0.1 (m0.2 + 1) = some (Sl.v v58) /\
 0 <= (w64 (r_1_1 - r25)) /\ (w64 (r_1_1 - r25)) < (v58.len : Int) /\
 ∃ v62 : Sl, gcell m1_5 v58.blk (v58.off + Int.toNat (w64 (r_1_1 - r25)) * 5 + 1) = some (Sl.v v62) /\
 (((v62.len : Int) == 0) = true ->
 eqT m1_1.size m1_1.size (
 ((r_0 == 1) = true ->
 R (vb true) m1_5) /\
 ((r_0 == 1) = false ->
 eqT m1_1.size m1_1.size (
 q00 Tryz.prog q3m [Sl.v r_2] m1_5 fun r_5 m1_6 =>
 Sam [m1_1.size] m1_5 m1_6 /\
 ∃ r74 : Sl, r_5 = Sl.v r74 /\
 q00 Tryz.prog q2p [vp m0.1 m0.2, Sl.v r74] m1_6 fun r_6 m1_7 =>
 Sam [m1_1.size] m1_6 m1_7 /\
 ∃ r75 : Bool, r_6 = vb r75 /\
 R (vb r75) m1_7)))) /\
 (((v62.len : Int) == 0) = false ->
 R (vb false) m1_5)) /\
 (((v45.len : Int) == (w64 ((r_2.len : Int) + 1))) = false ->
 R (vb false) m1_5))) /\
 (r35 = false ->
 R (vb false) m1_5))))
theorem qaj (m0 : Nat × Nat) (w : Int) (m : Mem) (R : Value -> Mem -> Prop) (hvc : q6b m0 w m R) : q00 Tryz.prog q44 [vp m0.1 m0.2, vi w] m R :=
 vcs (A := ⟨[(4, [0, 1, 0, 4, 8, 16, 32, 64, 130, 511], [0, 1, 0, 4, 12, 28, 60, 124, 255, 511]), (5, [0, 0, 2, 4, 8, 16, 32, 64, 129, 256, 512, 1536, 2560, 4608, 8704, 512, 49664, 66048, 131584, 262656, 512, 1049088, 2097664, 4194816, 8913408, 16777728, 33554944, 67108864, 201326592, 335544320, 603979776, 1140850688, 67108864, 6509559808, 8657043456, 17246978048, 34426847232, 68786585600, 137506062336, 274945015808, 549755813888, 1649267441664, 2748779069440, 4947802324992, 8796093022208, 8796093022208, 43980465111040, 79164837199872, 167125767421952, 290820825546752, 563499709235200, 2251799813685247], [0, 0, 2, 6, 14, 30, 62, 126, 255, 511, 1023, 2047, 4095, 8191, 16383, 1023, 65535, 131071, 262143, 524287, 1023, 1049599, 3146751, 7341055, 16777215, 33554431, 67108863, 134217727, 268435455, 536870911, 1073741823, 2147483647, 134217727, 8589934591, 17179869183, 34359738367, 68719476735, 137438953471, 274877906943, 549755813887, 1099511627775, 2199023255551, 4398046511103, 8796093022207, 17592186044415, 17592186044415, 52776558133247, 123145302310911, 281474976710655, 562949953421311, 1125899906842623, 2251799813685247])], [], [], []⟩) (n := 78) (rs := [.tmp 4]) (args := [.c (.p m0.1 m0.2), .c (.i w)]) (c := q05 Tryz.f163) Tryz.func163 hvc
def qgh (h : Sl) (w : Int) (m : Mem) (R : Value -> Mem -> Prop) : Prop :=
 q00 Tryz.prog q0n [vi (w64 (w - 1000)), vi 0, vi (w64 ((h.len : Int) - 1))] m fun r m1 =>
 ∃ r10 : Bool, r = vb r10 /\
 (r10 = true ->
 q00 Tryz.prog q1h [vi w] m1 fun r_1 m1_1 =>
 ∃ r13 : Bool, r_1 = vb r13 /\
 (r13 = true ->
 0 <= (w64 (w - 1000)) /\ (w64 (w - 1000)) < (h.len : Int) /\
 ∃ v21 : Int, gcell m1_1 h.blk (h.off + Int.toNat (w64 (w - 1000)) * 3) = some (vi v21) /\
 R (vb (decide (v21 > 0))) m1_1) /\
 (r13 = false ->
 R (vb false) m1_1)) /\
 (r10 = false ->
 R (vb false) m1)
theorem qkw (h : Sl) (w : Int) (m : Mem) (R : Value -> Mem -> Prop) (hvc : qgh h w m R) : q00 Tryz.prog q2t [Sl.v h, vi w] m R :=
 vcs (A := ⟨[], [], [], []⟩) (n := 24) (rs := [.tmp 4]) (args := [.c (.s h), .c (.i w)]) (c := q05 Tryz.f164) Tryz.func164 hvc
def q76 (m0 : Nat × Nat) (w : Int) (m : Mem) (R : Value -> Mem -> Prop) : Prop :=
 let m1 : Mem := m.push (.cells (vals [.i 0, .i 0, .s Sl.nil]) 149)
 ∃ v9 : Sl, gcell m1 m0.1 (m0.2 + 2 + 5) = some (Sl.v v9) /\
 0 <= (w64 (w - 1000)) /\ (w64 (w - 1000)) < (v9.len : Int) /\
 ∃ v13_0 : Int, gcell m1 v9.blk (v9.off + Int.toNat (w64 (w - 1000)) * 3) = some (vi v13_0) /\
 ∃ v13_1 : Int, gcell m1 v9.blk (v9.off + Int.toNat (w64 (w - 1000)) * 3 + 1) = some (vi v13_1) /\
 ∃ v13_2 : Sl, gcell m1 v9.blk (v9.off + Int.toNat (w64 (w - 1000)) * 3 + 2) = some (Sl.v v13_2) /\
 eqT m.size m.size (
 let m1_1 : Mem := scells m1 m.size 0 [.i v13_0, .i v13_1, .s v13_2]
 eqT m.size m.size (
 R (.agg #[vi v13_0, vi v13_1, Sl.v v13_2]) m1_1))
theorem qc3 (m0 : Nat × Nat) (w : Int) (m : Mem) (R : Value -> Mem -> Prop) (hvc : q76 m0 w m R) : q00 Tryz.prog q0w [vp m0.1 m0.2, vi w] m R :=
 vcs (A := ⟨[], [], [], []⟩) (n := 14) (rs := [.cell 4 149]) (args := [.c (.p m0.1 m0.2), .c (.i w)]) (c := q05 Tryz.f165) Tryz.func165 hvc
def q6p (m0 : Nat × Nat) (f_0 f_1 f_2 : Int) (f_3 f_4 f_5 : Sl) (i_0 i_1 i_2 i_3 : Int) (i_4 i_5 : Sl) (m : Mem) (R : Value -> Mem -> Prop) : Prop :=
 let m1 : Mem := m.push (.cells (vals [.i f_0, .i f_1, .i f_2, .s f_3, .s f_4, .s f_5]) 84)
 let m1_1 : Mem := m1.push (.cells (vals [.i i_0, .i i_1, .i i_2, .i i_3, .s i_4, .s i_5]) 86)
 eqT m.size m.size (
 eqT m1.size m1.size (
 (0 : Int) <= (0 : Int) /\ 0 < (i_4.len : Int) /\
 ∃ v14 : Int, gcell m1_1 i_4.blk (i_4.off + Int.toNat 0 * 1) = some (vi v14) /\
 0 <= v14 /\ v14 < (f_3.len : Int) /\
 ∃ v16 : Int, gcell m1_1 f_3.blk (f_3.off + Int.toNat v14 * 1) = some (vi v16) /\
 ∃ v21 : Sl, gcell m1_1 m0.1 (m0.2 + 2 + 5) = some (Sl.v v21) /\
 q00 Tryz.prog q2t [Sl.v v21, vi v16] m1_1 fun r m1_2 =>
 Sam [m1.size, m.size] m1_1 m1_2 /\
 ∃ r23 : Bool, r = vb r23 /\
 ((!r23) = true ->
 R (vb false) m1_2) /\
 ((!r23) = false ->
 q00 Tryz.prog q0w [vp m0.1 m0.2, vi v16] m1_2 fun r_1 m1_3 =>
 Sam [m1.size, m.size] m1_2 m1_3 /\
 ∃ r_0 : Int, ∃ r_1_1 : Int, ∃ r_2 : Sl, r_1 = .agg #[vi r_0, vi r_1_1, Sl.v r_2] /\
 q00 Tryz.prog q3m [Sl.v r_2] m1_3 fun r_3 m1_4 =>
 Sam [m1.size, m.size] m1_3 m1_4 /\
 ∃ r29 : Sl, r_3 = Sl.v r29 /\
 eqT m.size m.size (
 eqT m1.size m1.size (
 (0 : Int) <= (1 : Int) /\ 1 <= (i_4.len : Int) /\ (i_4.len : Int) <= (i_4.cap : Int) /\
 q00 Tryz.prog q4n [.agg #[vi f_0, vi f_1, vi f_2, Sl.v f_3, Sl.v f_4, Sl.v f_5], Sl.v (Sl.cut i_4 (Int.toNat 1) (Int.toNat (i_4.len : Int)) 1)] m1_4 fun r_4 m1_5 =>
 Sam [m1.size, m.size] m1_4 m1_5 /\
 ∃ r35 : Sl, r_4 = Sl.v r35 /\
 q00 Tryz.prog q91 [Sl.v r29, Sl.v r35] m1_5 fun r_5 m1_6 =>
 Sam [m1.size, m.size] m1_5 m1_6 /\
 ∃ r36 : Bool, r_5 = vb r36 /\
 (r36 = true ->
 q00 Tryz.prog q0w [vp m0.1 m0.2, vi v16] m1_6 fun r_6 m1_7 =>
 Sam [m1.size, m.size] m1_6 m1_7 /\
 ∃ r_0_1 : Int, ∃ r_1_2 : Int, ∃ r_2_1 : Sl, r_6 = .agg #[vi r_0_1, vi r_1_2, Sl.v r_2_1] /\
 ((r_0_1 == 1) = true ->
 eqT m1.size m1.size (
 ((i_0 == 16) = true ->
 R (vb true) m1_7) /\
 ((i_0 == 16) = false ->
 eqT m.size m.size (
 eqT m1.size m1.size (
 (0 : Int) <= (0 : Int) /\ 0 < (i_4.len : Int) /\
 ∃ v59 : Int, gcell m1_7 i_4.blk (i_4.off + Int.toNat 0 * 1) = some (vi v59) /\
 0 <= v59 /\ v59 < (f_5.len : Int) /\
 ∃ v61 : Int, gcell m1_7 f_5.blk (f_5.off + Int.toNat v59 * 1) = some (vi v61) /\
 R (vb (v61 == 0)) m1_7))))) /\
 ((r_0_1 == 1) = false ->
 q00 Tryz.prog q2p [vp m0.1 m0.2, Sl.v r29] m1_7 fun r_7 m1_8 =>
 Sam [m1.size, m.size] m1_7 m1_8 /\
 ∃ r46 : Bool, r_7 = vb r46 /\
 (r46 = true ->
 eqT m1.size m1.size (
 ((i_0 == 16) = true ->
 R (vb true) m1_8) /\
 ((i_0 == 16) = false ->
 eqT m.size m.size (
 eqT m1.size m1.size (
 (0 : Int) <= (0 : Int) /\ 0 < (i_4.len : Int) /\
 ∃ v59_1 : Int, gcell m1_8 i_4.blk (i_4.off + Int.toNat 0 * 1) = some (vi v59_1) /\
 0 <= v59_1 /\ v59_1 < (f_5.len : Int) /\
 ∃ v61_1 : Int, gcell m1_8 f_5.blk (f_5.off + Int.toNat v59_1 * 1) = some (vi v61_1) /\
 R (vb (v61_1 == 0)) m1_8))))) /\
 (r46 = false ->
 R (vb false) m1_8))) /\
 (r36 = false ->
 R (vb false) m1_6))))))
theorem qbj (m0 : Nat × Nat) (f_0 f_1 f_2 : Int) (f_3 f_4 f_5 : Sl) (i_0 i_1 i_2 i_3 : Int) (i_4 i_5 : Sl) (m : Mem) (R : Value -> Mem -> Prop) (hvc : q6p m0 f_0 f_1 f_2 f_3 f_4 f_5 i_0 i_1 i_2 i_3 i_4 i_5 m R) : q00 Tryz.prog q4h [vp m0.1 m0.2, .agg #[vi f_0, vi f_1, vi f_2, Sl.v f_3, Sl.v f_4, Sl.v f_5], .agg #[vi i_0, vi i_1, vi i_2, vi i_3, Sl.v i_4, Sl.v i_5]] m R :=
 vcs (A := ⟨[(1, [0, 1, 0, 4, 8, 16, 34, 64, 255], [0, 1, 0, 4, 12, 28, 63, 127, 255]), (5, [0, 0, 0, 4, 8, 18, 33, 64, 128, 128, 896, 1152, 2176, 5248, 8192, 8192, 57344, 73856, 131200, 327680, 524288, 1572864, 2621440, 4718592, 8388608, 25165824, 8388608, 75497472, 142606336, 276824064, 578813952, 1082130432, 2155872256, 4303880192, 8590458880, 34359738367], [0, 0, 0, 4, 12, 30, 63, 127, 255, 255, 1023, 2047, 4095, 8191, 16383, 16383, 65535, 131071, 262143, 524287, 1048575, 2097151, 4194303, 8388607, 16777215, 33554431, 16777215, 83886079, 218103807, 486539263, 1073741823, 2147483647, 4294967295, 8589934591, 17179869183, 34359738367])], [], [], []⟩) (n := 65) (rs := [.tmp 6]) (args := [.c (.p m0.1 m0.2), .agg [.i f_0, .i f_1, .i f_2, .s f_3, .s f_4, .s f_5], .agg [.i i_0, .i i_1, .i i_2, .i i_3, .s i_4, .s i_5]]) (c := q05 Tryz.f166) Tryz.func166 hvc
def qqv (list : Sl) (n : Int) (m : Mem) (R : Value -> Mem -> Prop) : Prop :=
 ∃ (I0 : Int -> Mem -> Prop) (μ0 : Int -> Mem -> Nat),
 I0 0 m /\
 (∀ (i : Int) (m1 : Mem), I0 i m1 ->
 ((decide (i < (list.len : Int))) = true ->
 0 <= i /\ i < (list.len : Int) /\
 ∃ v15 : Int, gcell m1 list.blk (list.off + Int.toNat i * 1) = some (vi v15) /\
 ((v15 == n) = true ->
 R (vb true) m1) /\
 ((v15 == n) = false ->
 I0 (w64 (i + 1)) m1 /\ μ0 (w64 (i + 1)) m1 < μ0 i m1)) /\
 ((decide (i < (list.len : Int))) = false ->
 R (vb false) m1))
theorem qn5 (list : Sl) (n : Int) (m : Mem) (R : Value -> Mem -> Prop) (hvc : qqv list n m R) : q00 Tryz.prog q5d [Sl.v list, vi n] m R :=
 vcs (A := ⟨[], [(2, [(5, .I)])], [], []⟩) (n := 18) (rs := [.tmp 4]) (args := [.c (.s list), .c (.i n)]) (c := q05 Tryz.f167) Tryz.func167 hvc
def qfx (decls : Sl) (t : Int) (m : Mem) (R : Value -> Mem -> Prop) : Prop :=
 let m1 : Mem := m.push (.cells (vals []) 3)
 q00 Tryz.prog q0n [vi t, vi 1, vi (decls.len : Int)] m1 fun r m1_1 =>
 ∃ r11 : Bool, r = vb r11 /\
 ((!r11) = true ->
 R (Sl.v (Sl.mk m.size 0 0 0)) m1_1) /\
 ((!r11) = false ->
 ∃ (I0 : Sl -> Int -> Mem -> Prop) (μ0 : Sl -> Int -> Mem -> Nat),
 I0 (Sl.mk m.size 0 0 0) 0 m1_1 /\
 (∀ (out : Sl) (i : Int) (m1_2 : Mem), I0 out i m1_2 ->
 0 <= (w64 (t - 1)) /\ (w64 (t - 1)) < (decls.len : Int) /\
 ∃ v20 : Sl, gcell m1_2 decls.blk (decls.off + Int.toNat (w64 (t - 1)) * 3 + 2) = some (Sl.v v20) /\
 ((decide (i < (v20.len : Int))) = true ->
 q00 Tryz.prog q39 [Sl.v decls, vi (w64 (t - 1))] m1_2 fun r_1 m1_3 =>
 ∃ r29 : Int, r_1 = vi r29 /\
 let m1_4 : Mem := m1_3.push (.cells (vals [.i (w64 (r29 + i))]) 3)
 appC m1_4 3 [.i 0] 8 out (Sl.mk m1_3.size 0 1 1) fun r33 m1_5 =>
 I0 r33 (w64 (i + 1)) m1_5 /\ μ0 r33 (w64 (i + 1)) m1_5 < μ0 out i m1_2) /\
 ((decide (i < (v20.len : Int))) = false ->
 R (Sl.v out) m1_2)))
theorem qlh (decls : Sl) (t : Int) (m : Mem) (R : Value -> Mem -> Prop) (hvc : qfx decls t m R) : q00 Tryz.prog q7k [Sl.v decls, vi t] m R :=
 vcs (A := ⟨[], [(5, [(5, .S), (6, .I)])], [], []⟩) (n := 35) (rs := [.tmp 4]) (args := [.c (.s decls), .c (.i t)]) (c := q05 Tryz.f168) Tryz.func168 hvc
def q7a (m0 : Nat × Nat) (r w : Int) (m : Mem) (R : Value -> Mem -> Prop) : Prop :=
 ∃ v12 : Sl, gcell m m0.1 (m0.2 + 2 + 6) = some (Sl.v v12) /\
 ∃ v19 : Sl, gcell m m0.1 (m0.2 + 2 + 6) = some (Sl.v v19) /\
 0 <= (w64 ((v12.len : Int) - 1)) /\ (w64 ((v12.len : Int) - 1)) < (v19.len : Int) /\
 ∃ v22_0 : Int, gcell m v19.blk (v19.off + Int.toNat (w64 ((v12.len : Int) - 1)) * 6) = some (vi v22_0) /\
 ∃ v22_1 : Int, gcell m v19.blk (v19.off + Int.toNat (w64 ((v12.len : Int) - 1)) * 6 + 1) = some (vi v22_1) /\
 ∃ v22_2 : Int, gcell m v19.blk (v19.off + Int.toNat (w64 ((v12.len : Int) - 1)) * 6 + 2) = some (vi v22_2) /\
 ∃ v22_3 : Sl, gcell m v19.blk (v19.off + Int.toNat (w64 ((v12.len : Int) - 1)) * 6 + 3) = some (Sl.v v22_3) /\
 ∃ v22_4 : Sl, gcell m v19.blk (v19.off + Int.toNat (w64 ((v12.len : Int) - 1)) * 6 + 4) = some (Sl.v v22_4) /\
 ∃ v22_5 : Sl, gcell m v19.blk (v19.off + Int.toNat (w64 ((v12.len : Int) - 1)) * 6 + 5) = some (Sl.v v22_5) /\
 let m1 : Mem := m.push (.cells (vals [.i 0, .i 0, .i 0, .s Sl.nil, .s Sl.nil, .s Sl.nil]) 84)
 eqT m.size m.size (
 let m1_1 : Mem := scells m1 m.size 0 [.i v22_0, .i v22_1, .i v22_2, .s v22_3, .s v22_4, .s v22_5]
 eqT m.size m.size (
 0 <= r /\ r < (v22_3.len : Int) /\
 wrOk m1_1 v22_3.blk (v22_3.off + Int.toNat r * 1) 1 /\
 let m1_2 : Mem := scells m1_1 v22_3.blk (v22_3.off + Int.toNat r * 1) [.i w]
 Sam [m.size] m1_1 m1_2 /\
 eqT m.size m.size (
 0 <= r /\ r < (v22_4.len : Int) /\
 wrOk m1_2 v22_4.blk (v22_4.off + Int.toNat r * 1) 1 /\
 let m1_3 : Mem := scells m1_2 v22_4.blk (v22_4.off + Int.toNat r * 1) [.i 0]
 Sam [m.size] m1_2 m1_3 /\
 eqT m.size m.size (
 q00 Tryz.prog q0m [vp m0.1 m0.2, vi (w64 (v22_1 + 1))] m1_3 fun r_1 m1_4 =>
 Sam [m.size] m1_3 m1_4 /\
 R (.tuple #[]) m1_4))))
theorem qc4 (m0 : Nat × Nat) (r w : Int) (m : Mem) (R : Value -> Mem -> Prop) (hvc : q7a m0 r w m R) : q00 Tryz.prog q1q [vp m0.1 m0.2, vi r, vi w] m R :=
 vcs (A := ⟨[], [], [], []⟩) (n := 37) (rs := []) (args := [.c (.p m0.1 m0.2), .c (.i r), .c (.i w)]) (c := q05 Tryz.f169) Tryz.func169 hvc
def qqp (op a b : Int) (m : Mem) (R : Value -> Mem -> Prop) : Prop :=
 ((op == 1) = true ->
 q00 Tryz.prog q5x [vi (w64 (a + b))] m fun r m1 =>
 ∃ r13 : Int, r = vi r13 /\
 R (vi r13) m1) /\
 ((op == 1) = false ->
 ((op == 2) = true ->
 q00 Tryz.prog q5x [vi (w64 (a - b))] m fun r_1 m1_1 =>
 ∃ r19 : Int, r_1 = vi r19 /\
 R (vi r19) m1_1) /\
 ((op == 2) = false ->
 ((op == 3) = true ->
 q00 Tryz.prog q5x [vi (w64 (a * b))] m fun r_2 m1_2 =>
 ∃ r25 : Int, r_2 = vi r25 /\
 R (vi r25) m1_2) /\
 ((op == 3) = false ->
 ((op == 4) = true ->
 ((decide (a < b)) = true ->
 R (vi 1) m) /\
 ((decide (a < b)) = false ->
 R (vi 0) m)) /\
 ((op == 4) = false ->
 R (vi 0) m))))
theorem qnj (op a b : Int) (m : Mem) (R : Value -> Mem -> Prop) (hvc : qqp op a b m R) : q00 Tryz.prog qf6 [vi op, vi a, vi b] m R :=
 vcs (A := ⟨[], [], [], []⟩) (n := 33) (rs := [.tmp 6]) (args := [.c (.i op), .c (.i a), .c (.i b)]) (c := q05 Tryz.f170) Tryz.func170 hvc
def q5s (m0 : Nat × Nat) (f_0 f_1 f_2 : Int) (f_3 f_4 f_5 : Sl) (i_0 i_1 i_2 i_3 : Int) (i_4 i_5 : Sl) (tag : Int) (m : Mem) (R : Value -> Mem -> Prop) : Prop :=
 let m1 : Mem := m.push (.cells (vals [.i f_0, .i f_1, .i f_2, .s f_3, .s f_4, .s f_5]) 84)
 let m1_1 : Mem := m1.push (.cells (vals [.i i_0, .i i_1, .i i_2, .i i_3, .s i_4, .s i_5]) 86)
 ∃ v13 : Sl, gcell m1_1 m0.1 (m0.2 + 2 + 5) = some (Sl.v v13) /\
 q00 Tryz.prog q7w [Sl.v v13] m1_1 fun r m1_2 =>
 Sam [m1.size, m.size] m1_1 m1_2 /\
 ∃ r14 : Int, r = vi r14 /\
 ∃ K0 : Int -> Mem -> Prop,
 (eqT m1.size m1.size (
 ((decide (i_3 > 0)) = true ->
 eqT m.size m.size (
 eqT m1.size m1.size (
 0 <= (w64 (i_3 - 1)) /\ (w64 (i_3 - 1)) < (f_5.len : Int) /\
 ∃ v25 : Int, gcell m1_2 f_5.blk (f_5.off + Int.toNat (w64 (i_3 - 1)) * 1) = some (vi v25) /\
 ((v25 != 0) = true ->
 eqT m.size m.size (
 eqT m1.size m1.size (
 0 <= (w64 (i_3 - 1)) /\ (w64 (i_3 - 1)) < (f_5.len : Int) /\
 ∃ v34 : Int, gcell m1_2 f_5.blk (f_5.off + Int.toNat (w64 (i_3 - 1)) * 1) = some (vi v34) /\
 eqT m.size m.size (
 eqT m1.size m1.size (
 0 <= (w64 (i_3 - 1)) /\ (w64 (i_3 - 1)) < (f_5.len : Int) /\
 wrOk m1_2 f_5.blk (f_5.off + Int.toNat (w64 (i_3 - 1)) * 1) 1 /\
 let m1_3 : Mem := scells m1_2 f_5.blk (f_5.off + Int.toNat (w64 (i_3 - 1)) * 1) [.i 0]
 Sam [m1.size, m.size] m1_2 m1_3 /\
 eqS (SV.box m1.size 86 [.i i_0, .i i_1, .i i_2, .i i_3, .s i_4, .s i_5]) (SV.box m1.size 86 [.i i_0, .i i_1, .i i_2, .i i_3, .s i_4, .s i_5]) (
 eqS (SV.box m.size 84 [.i f_0, .i f_1, .i f_2, .s f_3, .s f_4, .s f_5]) (SV.box m.size 84 [.i f_0, .i f_1, .i f_2, .s f_3, .s f_4, .s f_5]) (
 K0 (w64 (v34 - 1000)) m1_3))))))) /\
 ((v25 != 0) = false ->
 eqS (SV.box m1.size 86 [.i i_0, .i i_1, .i i_2, .i i_3, .s i_4, .s i_5]) (SV.box m1.size 86 [.i i_0, .i i_1, .i i_2, .i i_3, .s i_4, .s i_5]) (
 eqS (SV.box m.size 84 [.i f_0, .i f_1, .i f_2, .s f_3, .s f_4, .s f_5]) (SV.box m.size 84 [.i f_0, .i f_1, .i f_2, .s f_3, .s f_4, .s f_5]) (
 K0 r14 m1_2)))))) /\
 ((decide (i_3 > 0)) = false ->
 eqS (SV.box m1.size 86 [.i i_0, .i i_1, .i i_2, .i i_3, .s i_4, .s i_5]) (SV.box m1.size 86 [.i i_0, .i i_1, .i i_2, .i i_3, .s i_4, .s i_5]) (
 eqS (SV.box m.size 84 [.i f_0, .i f_1, .i f_2, .s f_3, .s f_4, .s f_5]) (SV.box m.size 84 [.i f_0, .i f_1, .i f_2, .s f_3, .s f_4, .s f_5]) (
 K0 r14 m1_2))))) /\
 (∀ (at0 : Int) (m1_4 : Mem), K0 at0 m1_4 ->
 ∃ v47 : Sl, gcell m1_4 m0.1 (m0.2 + 2 + 5) = some (Sl.v v47) /\
 eqT m.size m.size (
 eqT m1.size m1.size (
 q00 Tryz.prog q4n [.agg #[vi f_0, vi f_1, vi f_2, Sl.v f_3, Sl.v f_4, Sl.v f_5], Sl.v i_4] m1_4 fun r_1 m1_5 =>
 Sam [m1.size, m.size] m1_4 m1_5 /\
 ∃ r53 : Sl, r_1 = Sl.v r53 /\
 gcell m1_5 m0.1 (m0.2 + 2 + 5) = gcell m1_4 m0.1 (m0.2 + 2 + 5) /\
 q00 Tryz.prog qck [Sl.v v47, vi at0, vi tag, Sl.v r53] m1_5 fun r_2 m1_6 =>
 Sam [m1.size, m.size] m1_5 m1_6 /\
 ∃ r54 : Sl, r_2 = Sl.v r54 /\
 wrOk m1_6 m0.1 (m0.2 + 2 + 5) 1 /\
 let m1_7 : Mem := scells m1_6 m0.1 (m0.2 + 2 + 5) [.s r54]
 Sam [m1.size, m.size] m1_6 m1_7 /\
 eqT m1.size m1.size (
 q00 Tryz.prog q2l [vp m0.1 m0.2, vi i_1, vi (w64 (1000 + at0))] m1_7 fun r_3 m1_8 =>
 Sam [m1.size, m.size] m1_7 m1_8 /\
 eqT m.size m.size (
 q00 Tryz.prog q0m [vp m0.1 m0.2, vi (w64 (f_1 + 1))] m1_8 fun r_4 m1_9 =>
 Sam [m1.size, m.size] m1_8 m1_9 /\
 R (.tuple #[]) m1_9)))))
theorem q9p (m0 : Nat × Nat) (f_0 f_1 f_2 : Int) (f_3 f_4 f_5 : Sl) (i_0 i_1 i_2 i_3 : Int) (i_4 i_5 : Sl) (tag : Int) (m : Mem) (R : Value -> Mem -> Prop) (hvc : q5s m0 f_0 f_1 f_2 f_3 f_4 f_5 i_0 i_1 i_2 i_3 i_4 i_5 tag m R) : q00 Tryz.prog q2n [vp m0.1 m0.2, .agg #[vi f_0, vi f_1, vi f_2, Sl.v f_3, Sl.v f_4, Sl.v f_5], .agg #[vi i_0, vi i_1, vi i_2, vi i_3, Sl.v i_4, Sl.v i_5], vi tag] m R :=
 vcs (A := ⟨[(5, [0, 0, 2, 4, 8, 16, 0, 0, 0, 0, 512, 1280, 2272, 8191, 16383, 24575, 40959], [0, 0, 2, 6, 14, 30, 0, 0, 0, 0, 512, 1792, 4094, 8191, 16383, 32767, 65535])], [], [(5, [(8, .I)])], [(5, [75, 74])]⟩) (n := 69) (rs := []) (args := [.c (.p m0.1 m0.2), .agg [.i f_0, .i f_1, .i f_2, .s f_3, .s f_4, .s f_5], .agg [.i i_0, .i i_1, .i i_2, .i i_3, .s i_4, .s i_5], .c (.i tag)]) (c := q05 Tryz.f171) Tryz.func171 hvc
def qm2 (decls : Sl) (m : Mem) (R : Value -> Mem -> Prop) : Prop :=
 ∃ (I0 : Int -> Int -> Mem -> Prop) (μ0 : Int -> Int -> Mem -> Nat),
 I0 0 0 m /\
 (∀ (n : Int) (i : Int) (m1 : Mem), I0 n i m1 ->
 ((decide (i < (decls.len : Int))) = true ->
 0 <= i /\ i < (decls.len : Int) /\
 ∃ v16 : Sl, gcell m1 decls.blk (decls.off + Int.toNat i * 3 + 2) = some (Sl.v v16) /\
 I0 (w64 (n + (v16.len : Int))) (w64 (i + 1)) m1 /\ μ0 (w64 (n + (v16.len : Int))) (w64 (i + 1)) m1 < μ0 n i m1) /\
 ((decide (i < (decls.len : Int))) = false ->
 R (vi n) m1))
theorem qi3 (decls : Sl) (m : Mem) (R : Value -> Mem -> Prop) (hvc : qm2 decls m R) : q00 Tryz.prog q48 [Sl.v decls] m R :=
 vcs (A := ⟨[], [(3, [(3, .I), (4, .I)])], [], []⟩) (n := 20) (rs := [.tmp 2]) (args := [.c (.s decls)]) (c := q05 Tryz.f172) Tryz.func172 hvc
end
section
set_option linter.unusedVariables false
set_option maxRecDepth 100000
def q8a (m0 : Nat × Nat) (f_0 f_1 f_2 : Int) (f_3 f_4 f_5 : Sl) (i_0 i_1 i_2 i_3 : Int) (i_4 i_5 : Sl) (m : Mem) (R : Value -> Mem -> Prop) : Prop :=
 let m1 : Mem := m.push (.cells (vals [.i f_0, .i f_1, .i f_2, .s f_3, .s f_4, .s f_5]) 84)
 let m1_1 : Mem := m1.push (.cells (vals [.i i_0, .i i_1, .i i_2, .i i_3, .s i_4, .s i_5]) 86)
 eqT m1.size m1.size (
 eqT m.size m.size (
 eqT m1.size m1.size (
 q00 Tryz.prog q4n [.agg #[vi f_0, vi f_1, vi f_2, Sl.v f_3, Sl.v f_4, Sl.v f_5], Sl.v i_4] m1_1 fun r m1_2 =>
 Sam [m1.size, m.size] m1_1 m1_2 /\
 ∃ r15 : Sl, r = Sl.v r15 /\
 ∃ K0 : Int -> Sl -> Mem -> Prop,
 (eqT m1.size m1.size (
 ((i_0 == 11) = true ->
 (0 : Int) <= (0 : Int) /\ 0 < (r15.len : Int) /\
 ∃ v21 : Int, gcell m1_2 r15.blk (r15.off + Int.toNat 0 * 1) = some (vi v21) /\
 ∃ v30 : Sl, gcell m1_2 m0.1 m0.2 = some (Sl.v v30) /\
 q00 Tryz.prog q0w [vp m0.1 m0.2, vi v21] m1_2 fun r_1 m1_3 =>
 Sam [m1.size, m.size] m1_2 m1_3 /\
 ∃ r_0 : Int, ∃ r_1_1 : Int, ∃ r_2 : Sl, r_1 = .agg #[vi r_0, vi r_1_1, Sl.v r_2] /\
 gcell m1_3 m0.1 m0.2 = gcell m1_2 m0.1 m0.2 /\
 q00 Tryz.prog q48 [Sl.v v30] m1_3 fun r_3 m1_4 =>
 Sam [m1.size, m.size] m1_3 m1_4 /\
 ∃ r31 : Int, r_3 = vi r31 /\
 (0 : Int) <= (1 : Int) /\ 1 <= (r15.len : Int) /\ (r15.len : Int) <= (r15.cap : Int) /\
 q00 Tryz.prog q0w [vp m0.1 m0.2, vi v21] m1_4 fun r_4 m1_5 =>
 Sam [m1.size, m.size] m1_4 m1_5 /\
 ∃ r_0_1 : Int, ∃ r_1_2 : Int, ∃ r_2_1 : Sl, r_4 = .agg #[vi r_0_1, vi r_1_2, Sl.v r_2_1] /\
 q00 Tryz.prog qbf [Sl.v r_2_1, Sl.v (Sl.cut r15 (Int.toNat 1) (Int.toNat (r15.len : Int)) 1)] m1_5 fun r_5 m1_6 =>
 Sam [m1.size, m.size] m1_5 m1_6 /\
 ∃ r39 : Sl, r_5 = Sl.v r39 /\
 q00 Tryz.prog q3a [vp m0.1 m0.2, vi v21] m1_6 fun r_6 m1_7 =>
 Sam [m1.size, m.size] m1_6 m1_7 /\
 ∃ r42 : Bool, r_6 = vb r42 /\
 (r42 = true ->
 ∃ v47 : Sl, gcell m1_7 m0.1 (m0.2 + 2 + 5) = some (Sl.v v47) /\
 let m1_8 : Mem := m1_7.push (.cells (vals []) 3)
 0 <= (w64 (v21 - 1000)) /\ (w64 (v21 - 1000)) < (v47.len : Int) /\
 wrOk m1_8 v47.blk (v47.off + Int.toNat (w64 (v21 - 1000)) * 3) 3 /\
 let m1_9 : Mem := scells m1_8 v47.blk (v47.off + Int.toNat (w64 (v21 - 1000)) * 3) [.i 0, .i 0, .s (Sl.mk m1_7.size 0 0 0)]
 Sam [m1.size, m.size] m1_8 m1_9 /\
 ∃ v58 : Sl, gcell m1_9 m0.1 (m0.2 + 2 + 5) = some (Sl.v v58) /\
 q00 Tryz.prog q79 [Sl.v v58] m1_9 fun r_7 m1_10 =>
 Sam [m1.size, m.size] m1_9 m1_10 /\
 ∃ r59 : Sl, r_7 = Sl.v r59 /\
 wrOk m1_10 m0.1 (m0.2 + 2 + 5) 1 /\
 let m1_11 : Mem := scells m1_10 m0.1 (m0.2 + 2 + 5) [.s r59]
 Sam [m1.size, m.size] m1_10 m1_11 /\
 eqS (SV.box m1.size 86 [.i i_0, .i i_1, .i i_2, .i i_3, .s i_4, .s i_5]) (SV.box m1.size 86 [.i i_0, .i i_1, .i i_2, .i i_3, .s i_4, .s i_5]) (
 eqS (SV.box m.size 84 [.i f_0, .i f_1, .i f_2, .s f_3, .s f_4, .s f_5]) (SV.box m.size 84 [.i f_0, .i f_1, .i f_2, .s f_3, .s f_4, .s f_5]) (
 K0 (w64 (r_1_1 - r31)) r39 m1_11))) /\
 (r42 = false ->
 eqS (SV.box m1.size 86 [.i i_0, .i i_1, .i i_2, .i i_3, .s i_4, .s i_5]) (SV.box m1.size 86 [.i i_0, .i i_1, .i i_2, .i i_3, .s i_4, .s i_5]) (
 eqS (SV.box m.size 84 [.i f_0, .i f_1, .i f_2, .s f_3, .s f_4, .s f_5]) (SV.box m.size 84 [.i f_0, .i f_1, .i f_2, .s f_3, .s f_4, .s f_5]) (
 K0 (w64 (r_1_1 - r31)) r39 m1_7)))) /\
 ((i_0 == 11) = false ->
 eqS (SV.box m1.size 86 [.i i_0, .i i_1, .i i_2, .i i_3, .s i_4, .s i_5]) (SV.box m1.size 86 [.i i_0, .i i_1, .i i_2, .i i_3, .s i_4, .s i_5]) (
 eqS (SV.box m.size 84 [.i f_0, .i f_1, .i f_2, .s f_3, .s f_4, .s f_5]) (SV.box m.size 84 [.i f_0, .i f_1, .i f_2, .s f_3, .s f_4, .s f_5]) (
 K0 i_2 r15 m1_2))))) /\
 (∀ (g : Int) (words : Sl) (m1_12 : Mem), K0 g words m1_12 ->
 ∃ v68 : Int, gcell m1_12 m0.1 (m0.2 + 2 + 2) = some (vi v68) /\
 wrOk m1_12 m0.1 (m0.2 + 2 + 2) 1 /\
 let m1_13 : Mem := scells m1_12 m0.1 (m0.2 + 2 + 2) [.i (w64 (v68 + 1))]
 Sam [m1.size, m.size] m1_12 m1_13 /\
 ∃ v76_0 : Sl, gcell m1_13 m0.1 m0.2 = some (Sl.v v76_0) /\
 ∃ v76_1 : Sl, gcell m1_13 m0.1 (m0.2 + 1) = some (Sl.v v76_1) /\
 eqT m1.size m1.size (
 eqT m1.size m1.size (
 (q00 Tryz.prog q22 [vp m0.1 m0.2, .agg #[vi i_0, vi i_1, vi i_2, vi i_3, Sl.v i_4, Sl.v i_5], Sl.v words] m1_13 fun r_8 m1_14 =>
 Sam [m1.size, m.size] m1_13 m1_14 /\
 ∃ r84 : Sl, r_8 = Sl.v r84 /\
 gcell m1_14 m1.size 1 = gcell m1_13 m1.size 1 /\
 gcell m1_14 m0.1 m0.2 = gcell m1_13 m0.1 m0.2 /\
 gcell m1_14 m0.1 (m0.2 + 1) = gcell m1_13 m0.1 (m0.2 + 1) /\
 (q00 Tryz.prog q2y [.agg #[Sl.v v76_0, Sl.v v76_1], vi g, vi i_1, Sl.v words, Sl.v r84] m1_14 fun r_9 m1_15 =>
 Sam [m1.size, m.size] m1_14 m1_15 /\
 ∃ r_0_2 : Int, ∃ r_1_3 : Int, ∃ r_2_2 : Int, ∃ r_3_1 : Sl, ∃ r_4_1 : Sl, ∃ r_5_1 : Sl, r_9 = .agg #[vi r_0_2, vi r_1_3, vi r_2_2, Sl.v r_3_1, Sl.v r_4_1, Sl.v r_5_1] /\
 let m1_16 : Mem := m1_15.push (.cells (vals [.i 0, .i 0, .i 0, .s Sl.nil, .s Sl.nil, .s Sl.nil]) 84)
 gcell m1_16 m1.size 0 = gcell m1_15 m1.size 0 /\
 gcell m1_16 m1.size 1 = gcell m1_15 m1.size 1 /\
 gcell m1_16 m1.size 2 = gcell m1_15 m1.size 2 /\
 gcell m1_16 m1.size 3 = gcell m1_15 m1.size 3 /\
 gcell m1_16 m1.size 4 = gcell m1_15 m1.size 4 /\
 gcell m1_16 m1.size 5 = gcell m1_15 m1.size 5 /\
 gcell m1_16 m1.size 1 = gcell m1_15 m1.size 1 /\
 gcell m1_16 m0.1 m0.2 = gcell m1_15 m0.1 m0.2 /\
 gcell m1_16 m0.1 (m0.2 + 1) = gcell m1_15 m0.1 (m0.2 + 1) /\
 eqT m1_15.size m1_15.size (
 let m1_17 : Mem := scells m1_16 m1_15.size 0 [.i r_0_2, .i r_1_3, .i r_2_2, .s r_3_1, .s r_4_1, .s r_5_1]
 eqT m1.size m1.size (
 ((i_0 == 24) = true ->
 eqT m.size m.size (
 eqT m1_15.size m1_15.size (
 let m1_18 : Mem := scells m1_17 m1_15.size 2 [.i f_2]
 ∃ v96 : Sl, gcell m1_18 m0.1 (m0.2 + 2 + 6) = some (Sl.v v96) /\
 ∃ v101 : Sl, gcell m1_18 m0.1 (m0.2 + 2 + 6) = some (Sl.v v101) /\
 eqT m1_15.size m1_15.size (
 0 <= (w64 ((v101.len : Int) - 1)) /\ (w64 ((v101.len : Int) - 1)) < (v96.len : Int) /\
 wrOk m1_18 v96.blk (v96.off + Int.toNat (w64 ((v101.len : Int) - 1)) * 6) 6 /\
 let m1_19 : Mem := scells m1_18 v96.blk (v96.off + Int.toNat (w64 ((v101.len : Int) - 1)) * 6) [.i r_0_2, .i r_1_3, .i f_2, .s r_3_1, .s r_4_1, .s r_5_1]
 Sam [m1_15.size, m1.size, m.size] m1_18 m1_19 /\
 R (.tuple #[]) m1_19)))) /\
 ((i_0 == 24) = false ->
 eqT m.size m.size (
 q00 Tryz.prog q0m [vp m0.1 m0.2, vi (w64 (f_1 + 1))] m1_17 fun r_10 m1_20 =>
 Sam [m1_15.size, m1.size, m.size] m1_17 m1_20 /\
 ∃ v116 : Sl, gcell m1_20 m0.1 (m0.2 + 2 + 6) = some (Sl.v v116) /\
 eqT m1_15.size m1_15.size (
 let m1_21 : Mem := m1_20.push (.cells (vals [.i r_0_2, .i r_1_3, .i r_2_2, .s r_3_1, .s r_4_1, .s r_5_1]) 84)
 gcell m1_21 m0.1 (m0.2 + 2 + 6) = gcell m1_20 m0.1 (m0.2 + 2 + 6) /\
 appC m1_21 84 [.i 0, .i 0, .i 0, .s Sl.nil, .s Sl.nil, .s Sl.nil] 96 v116 (Sl.mk m1_20.size 0 1 1) fun r119 m1_22 =>
 Sam [m1_15.size, m1.size, m.size] m1_21 m1_22 /\
 wrOk m1_22 m0.1 (m0.2 + 2 + 6) 1 /\
 let m1_23 : Mem := scells m1_22 m0.1 (m0.2 + 2 + 6) [.s r119]
 Sam [m1_15.size, m1.size, m.size] m1_22 m1_23 /\
 R (.tuple #[]) m1_23)))))) /\
 (let m1_24 : Mem := m1_14.push (.cells (vals [.i 0, .i 0, .i 0, .s Sl.nil, .s Sl.nil, .s Sl.nil]) 84)
 gcell m1_24 m1.size 0 = gcell m1_14 m1.size 0 /\
 gcell m1_24 m1.size 1 = gcell m1_14 m1.size 1 /\
 gcell m1_24 m1.size 2 = gcell m1_14 m1.size 2 /\
 gcell m1_24 m1.size 3 = gcell m1_14 m1.size 3 /\
 gcell m1_24 m1.size 4 = gcell m1_14 m1.size 4 /\
 gcell m1_24 m1.size 5 = gcell m1_14 m1.size 5 /\
 gcell m1_24 m1.size 1 = gcell m1_14 m1.size 1 /\
 gcell m1_24 m0.1 m0.2 = gcell m1_14 m0.1 m0.2 /\
 gcell m1_24 m0.1 (m0.2 + 1) = gcell m1_14 m0.1 (m0.2 + 1) /\
 q00 Tryz.prog q2y [.agg #[Sl.v v76_0, Sl.v v76_1], vi g, vi i_1, Sl.v words, Sl.v r84] m1_24 fun r_11 m1_25 =>
 Sam [m1_14.size, m1.size, m.size] m1_24 m1_25 /\
 ∃ r_0_3 : Int, ∃ r_1_4 : Int, ∃ r_2_3 : Int, ∃ r_3_2 : Sl, ∃ r_4_2 : Sl, ∃ r_5_2 : Sl, r_11 = .agg #[vi r_0_3, vi r_1_4, vi r_2_3, Sl.v r_3_2, Sl.v r_4_2, Sl.v r_5_2] /\
 eqT m1_14.size m1_14.size (
 let m1_26 : Mem := scells m1_25 m1_14.size 0 [.i r_0_3, .i r_1_4, .i r_2_3, .s r_3_2, .s r_4_2, .s r_5_2]
 eqT m1.size m1.size (
 ((i_0 == 24) = true ->
 eqT m.size m.size (
 eqT m1_14.size m1_14.size (
 let m1_27 : Mem := scells m1_26 m1_14.size 2 [.i f_2]
 ∃ v96_1 : Sl, gcell m1_27 m0.1 (m0.2 + 2 + 6) = some (Sl.v v96_1) /\
 ∃ v101_1 : Sl, gcell m1_27 m0.1 (m0.2 + 2 + 6) = some (Sl.v v101_1) /\
 eqT m1_14.size m1_14.size (
 0 <= (w64 ((v101_1.len : Int) - 1)) /\ (w64 ((v101_1.len : Int) - 1)) < (v96_1.len : Int) /\
 wrOk m1_27 v96_1.blk (v96_1.off + Int.toNat (w64 ((v101_1.len : Int) - 1)) * 6) 6 /\
 let m1_28 : Mem := scells m1_27 v96_1.blk (v96_1.off + Int.toNat (w64 ((v101_1.len : Int) - 1)) * 6) [.i r_0_3, .i r_1_4, .i f_2, .s r_3_2, .s r_4_2, .s r_5_2]
 Sam [m1_14.size, m1.size, m.size] m1_27 m1_28 /\
 R (.tuple #[]) m1_28)))) /\
 ((i_0 == 24) = false ->
 eqT m.size m.size (
 q00 Tryz.prog q0m [vp m0.1 m0.2, vi (w64 (f_1 + 1))] m1_26 fun r_12 m1_29 =>
 Sam [m1_14.size, m1.size, m.size] m1_26 m1_29 /\
 ∃ v116_1 : Sl, gcell m1_29 m0.1 (m0.2 + 2 + 6) = some (Sl.v v116_1) /\
 eqT m1_14.size m1_14.size (
 let m1_30 : Mem := m1_29.push (.cells (vals [.i r_0_3, .i r_1_4, .i r_2_3, .s r_3_2, .s r_4_2, .s r_5_2]) 84)
 gcell m1_30 m0.1 (m0.2 + 2 + 6) = gcell m1_29 m0.1 (m0.2 + 2 + 6) /\
 appC m1_30 84 [.i 0, .i 0, .i 0, .s Sl.nil, .s Sl.nil, .s Sl.nil] 96 v116_1 (Sl.mk m1_29.size 0 1 1) fun r119_1 m1_31 =>
 Sam [m1_14.size, m1.size, m.size] m1_30 m1_31 /\
 wrOk m1_31 m0.1 (m0.2 + 2 + 6) 1 /\
 let m1_32 : Mem := scells m1_31 m0.1 (m0.2 + 2 + 6) [.s r119_1]
 Sam [m1_14.size, m1.size, m.size] m1_31 m1_32 /\
 R (.tuple #[]) m1_32))))))) /\
 (let m1_33 : Mem := m1_13.push (.cells (vals [.i 0, .i 0, .i 0, .s Sl.nil, .s Sl.nil, .s Sl.nil]) 84)
 gcell m1_33 m1.size 0 = gcell m1_13 m1.size 0 /\
 gcell m1_33 m1.size 1 = gcell m1_13 m1.size 1 /\
 gcell m1_33 m1.size 2 = gcell m1_13 m1.size 2 /\
 gcell m1_33 m1.size 3 = gcell m1_13 m1.size 3 /\
 gcell m1_33 m1.size 4 = gcell m1_13 m1.size 4 /\
 gcell m1_33 m1.size 5 = gcell m1_13 m1.size 5 /\
 gcell m1_33 m1.size 1 = gcell m1_13 m1.size 1 /\
 gcell m1_33 m0.1 m0.2 = gcell m1_13 m0.1 m0.2 /\
 gcell m1_33 m0.1 (m0.2 + 1) = gcell m1_13 m0.1 (m0.2 + 1) /\
 q00 Tryz.prog q22 [vp m0.1 m0.2, .agg #[vi i_0, vi i_1, vi i_2, vi i_3, Sl.v i_4, Sl.v i_5], Sl.v words] m1_33 fun r_13 m1_34 =>
 Sam [m1_13.size, m1.size, m.size] m1_33 m1_34 /\
 ∃ r84_1 : Sl, r_13 = Sl.v r84_1 /\
 gcell m1_34 m1.size 1 = gcell m1_33 m1.size 1 /\
 gcell m1_34 m0.1 m0.2 = gcell m1_33 m0.1 m0.2 /\
 gcell m1_34 m0.1 (m0.2 + 1) = gcell m1_33 m0.1 (m0.2 + 1) /\
 q00 Tryz.prog q2y [.agg #[Sl.v v76_0, Sl.v v76_1], vi g, vi i_1, Sl.v words, Sl.v r84_1] m1_34 fun r_14 m1_35 =>
 Sam [m1_13.size, m1.size, m.size] m1_34 m1_35 /\
 ∃ r_0_4 : Int, ∃ r_1_5 : Int, ∃ r_2_4 : Int, ∃ r_3_3 : Sl, ∃ r_4_3 : Sl, ∃ r_5_3 : Sl, r_14 = .agg #[vi r_0_4, vi r_1_5, vi r_2_4, Sl.v r_3_3, Sl.v r_4_3, Sl.v r_5_3] /\
 eqT m1_13.size m1_13.size (
 let m1_36 : Mem := scells m1_35 m1_13.size 0 [.i r_0_4, .i r_1_5, .i r_2_4, .s r_3_3, .s r_4_3, .s r_5_3]
 eqT m1.size m1.size (
 ((i_0 == 24) = true ->
 eqT m.size m.size (
 eqT m1_13.size m1_13.size (
 let m1_37 : Mem := scells m1_36 m1_13.size 2 [.i f_2]
 ∃ v96_2 : Sl, gcell m1_37 m0.1 (m0.2 + 2 + 6) = some (Sl.v v96_2) /\
 ∃ v101_2 : Sl, gcell m1_37 m0.1 (m0.2 + 2 + 6) = some (Sl.v v101_2) /\
 eqT m1_13.size m1_13.size (
 0 <= (w64 ((v101_2.len : Int) - 1)) /\ (w64 ((v101_2.len : Int) - 1)) < (v96_2.len : Int) /\
 wrOk m1_37 v96_2.blk (v96_2.off + Int.toNat (w64 ((v101_2.len : Int) - 1)) * 6) 6 /\
 let m1_38 : Mem := scells m1_37 v96_2.blk (v96_2.off + Int.toNat (w64 ((v101_2.len : Int) - 1)) * 6) [.i r_0_4, .i r_1_5, .i f_2, .s r_3_3, .s r_4_3, .s r_5_3]
 Sam [m1_13.size, m1.size, m.size] m1_37 m1_38 /\
 R (.tuple #[]) m1_38)))) /\
 ((i_0 == 24) = false ->
 eqT m.size m.size (
 q00 Tryz.prog q0m [vp m0.1 m0.2, vi (w64 (f_1 + 1))] m1_36 fun r_15 m1_39 =>
 Sam [m1_13.size, m1.size, m.size] m1_36 m1_39 /\
 ∃ v116_2 : Sl, gcell m1_39 m0.1 (m0.2 + 2 + 6) = some (Sl.v v116_2) /\
 eqT m1_13.size m1_13.size (
 let m1_40 : Mem := m1_39.push (.cells (vals [.i r_0_4, .i r_1_5, .i r_2_4, .s r_3_3, .s r_4_3, .s r_5_3]) 84)
 gcell m1_40 m0.1 (m0.2 + 2 + 6) = gcell m1_39 m0.1 (m0.2 + 2 + 6) /\
 appC m1_40 84 [.i 0, .i 0, .i 0, .s Sl.nil, .s Sl.nil, .s Sl.nil] 96 v116_2 (Sl.mk m1_39.size 0 1 1) fun r119_2 m1_41 =>
 Sam [m1_13.size, m1.size, m.size] m1_40 m1_41 /\
 wrOk m1_41 m0.1 (m0.2 + 2 + 6) 1 /\
 let m1_42 : Mem := scells m1_41 m0.1 (m0.2 + 2 + 6) [.s r119_2]
 Sam [m1_13.size, m1.size, m.size] m1_41 m1_42 /\
 R (.tuple #[]) m1_42))))))))))))
theorem qco (m0 : Nat × Nat) (f_0 f_1 f_2 : Int) (f_3 f_4 f_5 : Sl) (i_0 i_1 i_2 i_3 : Int) (i_4 i_5 : Sl) (m : Mem) (R : Value -> Mem -> Prop) (hvc : q8a m0 f_0 f_1 f_2 f_3 f_4 f_5 i_0 i_1 i_2 i_3 i_4 i_5 m R) : q00 Tryz.prog q4x [vp m0.1 m0.2, .agg #[vi f_0, vi f_1, vi f_2, Sl.v f_3, Sl.v f_4, Sl.v f_5], .agg #[vi i_0, vi i_1, vi i_2, vi i_3, Sl.v i_4, Sl.v i_5]] m R :=
 vcs (A := ⟨[(5, [0, 0, 3, 4, 0, 16, 32, 64, 128, 260, 520, 2047], [0, 0, 3, 7, 0, 16, 48, 112, 240, 503, 1023, 2047]), (6, [0, 0, 3, 4, 0, 16, 44, 127], [0, 0, 3, 7, 0, 16, 63, 127]), (11, [0, 1, 2, 4, 0, 0, 32, 0, 0, 0, 0, 1792, 2264, 0, 16383], [0, 1, 3, 7, 0, 0, 32, 0, 0, 0, 0, 1792, 4095, 0, 16383]), (14, [0, 1, 2, 4, 8, 0, 32, 64, 128, 256, 512, 1024, 0, 8191, 16383], [0, 1, 3, 7, 15, 0, 32, 96, 224, 480, 992, 2016, 0, 8191, 16383]), (16, [0, 0, 2, 4, 8, 16, 0, 64, 160, 511, 1023, 1535, 2559], [0, 0, 2, 6, 14, 30, 0, 64, 254, 511, 1023, 2047, 4095])], [], [(10, [(6, .I), (7, .S)])], [(10, [128, 127])]⟩) (n := 123) (rs := []) (args := [.c (.p m0.1 m0.2), .agg [.i f_0, .i f_1, .i f_2, .s f_3, .s f_4, .s f_5], .agg [.i i_0, .i i_1, .i i_2, .i i_3, .s i_4, .s i_5]]) (c := q05 Tryz.f173) Tryz.func173 hvc
def q88 (m0 : Nat × Nat) (f_0 f_1 f_2 : Int) (f_3 f_4 f_5 : Sl) (w : Int) (m : Mem) (R : Value -> Mem -> Prop) : Prop :=
 let m1 : Mem := m.push (.cells (vals [.i f_0, .i f_1, .i f_2, .s f_3, .s f_4, .s f_5]) 84)
 ∃ v11 : Sl, gcell m1 m0.1 (m0.2 + 2 + 6) = some (Sl.v v11) /\
 ∃ v16 : Sl, gcell m1 m0.1 (m0.2 + 2 + 6) = some (Sl.v v16) /\
 (0 : Int) <= (0 : Int) /\ 0 <= (w64 ((v16.len : Int) - 1)) /\ (w64 ((v16.len : Int) - 1)) <= (v11.cap : Int) /\
 wrOk m1 m0.1 (m0.2 + 2 + 6) 1 /\
 let m1_1 : Mem := scells m1 m0.1 (m0.2 + 2 + 6) [.s (Sl.cut v11 (Int.toNat 0) (Int.toNat (w64 ((v16.len : Int) - 1))) 6)]
 Sam [m.size] m1 m1_1 /\
 ∃ v27 : Sl, gcell m1_1 m0.1 (m0.2 + 2 + 6) = some (Sl.v v27) /\
 (((v27.len : Int) == 0) = true ->
 wrOk m1_1 m0.1 (m0.2 + 2) 1 /\
 let m1_2 : Mem := scells m1_1 m0.1 (m0.2 + 2) [.i 0]
 Sam [m.size] m1_1 m1_2 /\
 wrOk m1_2 m0.1 (m0.2 + 2 + 1) 1 /\
 let m1_3 : Mem := scells m1_2 m0.1 (m0.2 + 2 + 1) [.i w]
 Sam [m.size] m1_2 m1_3 /\
 R (.tuple #[]) m1_3) /\
 (((v27.len : Int) == 0) = false ->
 eqT m.size m.size (
 q00 Tryz.prog q2l [vp m0.1 m0.2, vi f_2, vi w] m1_1 fun r m1_4 =>
 Sam [m.size] m1_1 m1_4 /\
 R (.tuple #[]) m1_4))
theorem qcm (m0 : Nat × Nat) (f_0 f_1 f_2 : Int) (f_3 f_4 f_5 : Sl) (w : Int) (m : Mem) (R : Value -> Mem -> Prop) (hvc : q88 m0 f_0 f_1 f_2 f_3 f_4 f_5 w m R) : q00 Tryz.prog q4y [vp m0.1 m0.2, .agg #[vi f_0, vi f_1, vi f_2, Sl.v f_3, Sl.v f_4, Sl.v f_5], vi w] m R :=
 vcs (A := ⟨[(1, [0, 0, 2, 4, 8, 16, 0, 64, 128, 256, 512, 1024, 2048, 4128, 16383, 32767, 49151, 81919], [0, 0, 2, 6, 14, 30, 0, 64, 192, 448, 960, 1984, 4032, 8190, 16383, 32767, 65535, 131071])], [], [], []⟩) (n := 44) (rs := []) (args := [.c (.p m0.1 m0.2), .agg [.i f_0, .i f_1, .i f_2, .s f_3, .s f_4, .s f_5], .c (.i w)]) (c := q05 Tryz.f174) Tryz.func174 hvc
def qfz (m0 : Nat × Nat) (words : Sl) (m : Mem) (R : Value -> Mem -> Prop) : Prop :=
 ∃ (I0 : Int -> Mem -> Prop) (μ0 : Int -> Mem -> Nat),
 I0 0 m /\
 (∀ (k : Int) (m1 : Mem), I0 k m1 ->
 ((decide (k < (words.len : Int))) = true ->
 0 <= k /\ k < (words.len : Int) /\
 ∃ v15 : Int, gcell m1 words.blk (words.off + Int.toNat k * 1) = some (vi v15) /\
 ∃ v21 : Sl, gcell m1 m0.1 (m0.2 + 2 + 5) = some (Sl.v v21) /\
 ∃ v27 : Sl, gcell m1 m0.1 (m0.2 + 2 + 5) = some (Sl.v v27) /\
 0 <= (w64 (v15 - 1000)) /\ (w64 (v15 - 1000)) < (v27.len : Int) /\
 ∃ v31 : Int, gcell m1 v27.blk (v27.off + Int.toNat (w64 (v15 - 1000)) * 3) = some (vi v31) /\
 0 <= (w64 (v15 - 1000)) /\ (w64 (v15 - 1000)) < (v21.len : Int) /\
 wrOk m1 v21.blk (v21.off + Int.toNat (w64 (v15 - 1000)) * 3) 1 /\
 let m1_1 : Mem := scells m1 v21.blk (v21.off + Int.toNat (w64 (v15 - 1000)) * 3) [.i (w64 (v31 + 1))]
 I0 (w64 (k + 1)) m1_1 /\ μ0 (w64 (k + 1)) m1_1 < μ0 k m1) /\
 ((decide (k < (words.len : Int))) = false ->
 R (.tuple #[]) m1))
theorem qcq (m0 : Nat × Nat) (words : Sl) (m : Mem) (R : Value -> Mem -> Prop) (hvc : qfz m0 words m R) : q00 Tryz.prog q3p [vp m0.1 m0.2, Sl.v words] m R :=
 vcs (A := ⟨[(4, [0, 1, 2, 4, 8, 0, 0, 64, 128, 256, 512, 0, 3072, 4096, 8192, 16384, 65535, 131071, 196607], [0, 1, 3, 7, 15, 0, 0, 64, 192, 448, 960, 0, 4032, 8128, 16320, 32704, 65535, 131071, 262143])], [(1, [(4, .I)])], [], []⟩) (n := 35) (rs := []) (args := [.c (.p m0.1 m0.2), .c (.s words)]) (c := q05 Tryz.f175) Tryz.func175 hvc
def qh3 (m0 : Nat × Nat) (at0 : Int) (m : Mem) (R : Value -> Mem -> Prop) : Prop :=
 ∃ v8 : Sl, gcell m m0.1 (m0.2 + 2 + 6) = some (Sl.v v8) /\
 ∃ v13 : Sl, gcell m m0.1 (m0.2 + 2 + 6) = some (Sl.v v13) /\
 0 <= (w64 ((v13.len : Int) - 1)) /\ (w64 ((v13.len : Int) - 1)) < (v8.len : Int) /\
 wrOk m v8.blk (v8.off + Int.toNat (w64 ((v13.len : Int) - 1)) * 6 + 1) 1 /\
 let m1 : Mem := scells m v8.blk (v8.off + Int.toNat (w64 ((v13.len : Int) - 1)) * 6 + 1) [.i at0]
 R (.tuple #[]) m1
theorem q6n (m0 : Nat × Nat) (at0 : Int) (m : Mem) (R : Value -> Mem -> Prop) (hvc : qh3 m0 at0 m R) : q00 Tryz.prog q0m [vp m0.1 m0.2, vi at0] m R :=
 vcs (A := ⟨[(0, [0, 1, 2, 4, 8, 0, 32, 64, 128, 256, 512, 1024, 0, 8191, 16383, 24575], [0, 1, 3, 7, 15, 0, 32, 96, 224, 480, 992, 2016, 0, 8191, 16383, 32767])], [], [], []⟩) (n := 19) (rs := []) (args := [.c (.p m0.1 m0.2), .c (.i at0)]) (c := q05 Tryz.f176) Tryz.func176 hvc
def qby (h words : Sl) (m : Mem) (R : Value -> Mem -> Prop) : Prop :=
 q00 Tryz.prog q3b [Sl.v words] m fun r m1 =>
 ∃ r9 : Sl, r = Sl.v r9 /\
 ∃ (I0 : Sl -> Mem -> Prop) (μ0 : Sl -> Mem -> Nat),
 I0 r9 m1 /\
 (∀ (todo : Sl) (m1_1 : Mem), I0 todo m1_1 ->
 ((decide ((todo.len : Int) > 0)) = true ->
 0 <= (w64 ((todo.len : Int) - 1)) /\ (w64 ((todo.len : Int) - 1)) < (todo.len : Int) /\
 ∃ v18 : Int, gcell m1_1 todo.blk (todo.off + Int.toNat (w64 ((todo.len : Int) - 1)) * 1) = some (vi v18) /\
 (0 : Int) <= (0 : Int) /\ 0 <= (w64 ((todo.len : Int) - 1)) /\ (w64 ((todo.len : Int) - 1)) <= (todo.cap : Int) /\
 q00 Tryz.prog q1h [vi v18] m1_1 fun r_1 m1_2 =>
 ∃ r25 : Bool, r_1 = vb r25 /\
 (r25 = true ->
 0 <= (w64 (v18 - 1000)) /\ (w64 (v18 - 1000)) < (h.len : Int) /\
 ∃ v34 : Int, gcell m1_2 h.blk (h.off + Int.toNat (w64 (v18 - 1000)) * 3) = some (vi v34) /\
 0 <= (w64 (v18 - 1000)) /\ (w64 (v18 - 1000)) < (h.len : Int) /\
 wrOk m1_2 h.blk (h.off + Int.toNat (w64 (v18 - 1000)) * 3) 1 /\
 let m1_3 : Mem := scells m1_2 h.blk (h.off + Int.toNat (w64 (v18 - 1000)) * 3) [.i (w64 (v34 - 1))]
 0 <= (w64 (v18 - 1000)) /\ (w64 (v18 - 1000)) < (h.len : Int) /\
 ∃ v42 : Int, gcell m1_3 h.blk (h.off + Int.toNat (w64 (v18 - 1000)) * 3) = some (vi v42) /\
 ((v42 == 0) = true ->
 0 <= (w64 (v18 - 1000)) /\ (w64 (v18 - 1000)) < (h.len : Int) /\
 ∃ v49 : Sl, gcell m1_3 h.blk (h.off + Int.toNat (w64 (v18 - 1000)) * 3 + 2) = some (Sl.v v49) /\
 appC m1_3 3 [.i 0] 8 (Sl.cut todo (Int.toNat 0) (Int.toNat (w64 ((todo.len : Int) - 1))) 1) v49 fun r50 m1_4 =>
 let m1_5 : Mem := m1_4.push (.cells (vals []) 3)
 0 <= (w64 (v18 - 1000)) /\ (w64 (v18 - 1000)) < (h.len : Int) /\
 wrOk m1_5 h.blk (h.off + Int.toNat (w64 (v18 - 1000)) * 3) 3 /\
 let m1_6 : Mem := scells m1_5 h.blk (h.off + Int.toNat (w64 (v18 - 1000)) * 3) [.i 0, .i 0, .s (Sl.mk m1_4.size 0 0 0)]
 I0 r50 m1_6 /\ μ0 r50 m1_6 < μ0 todo m1_1) /\
 ((v42 == 0) = false ->
 I0 (Sl.cut todo (Int.toNat 0) (Int.toNat (w64 ((todo.len : Int) - 1))) 1) m1_3 /\ μ0 (Sl.cut todo (Int.toNat 0) (Int.toNat (w64 ((todo.len : Int) - 1))) 1) m1_3 < μ0 todo m1_1)) /\
 (r25 = false ->
 I0 (Sl.cut todo (Int.toNat 0) (Int.toNat (w64 ((todo.len : Int) - 1))) 1) m1_2 /\ μ0 (Sl.cut todo (Int.toNat 0) (Int.toNat (w64 ((todo.len : Int) - 1))) 1) m1_2 < μ0 todo m1_1)) /\
 ((decide ((todo.len : Int) > 0)) = false ->
 q00 Tryz.prog q79 [Sl.v h] m1_1 fun r_2 m1_7 =>
 ∃ r57 : Sl, r_2 = Sl.v r57 /\
 R (Sl.v r57) m1_7))
theorem qgn (h words : Sl) (m : Mem) (R : Value -> Mem -> Prop) (hvc : qby h words m R) : q00 Tryz.prog q80 [Sl.v h, Sl.v words] m R :=
 vcs (A := ⟨[], [(2, [(5, .S)])], [], []⟩) (n := 58) (rs := [.tmp 4]) (args := [.c (.s h), .c (.s words)]) (c := q05 Tryz.f177) Tryz.func177 hvc
def q61 (m0 : Nat × Nat) (f_0 f_1 f_2 : Int) (f_3 f_4 f_5 : Sl) (i_0 i_1 i_2 i_3 : Int) (i_4 i_5 : Sl) (m : Mem) (R : Value -> Mem -> Prop) : Prop :=
 let m1 : Mem := m.push (.cells (vals [.i f_0, .i f_1, .i f_2, .s f_3, .s f_4, .s f_5]) 84)
 let m1_1 : Mem := m1.push (.cells (vals [.i i_0, .i i_1, .i i_2, .i i_3, .s i_4, .s i_5]) 86)
 eqT m1.size m1.size (
 (0 : Int) <= (0 : Int) /\ 0 < (i_4.len : Int) /\
 ∃ v12 : Int, gcell m1_1 i_4.blk (i_4.off + Int.toNat 0 * 1) = some (vi v12) /\
 eqT m.size m.size (
 0 <= v12 /\ v12 < (f_3.len : Int) /\
 ∃ v17 : Int, gcell m1_1 f_3.blk (f_3.off + Int.toNat v12 * 1) = some (vi v17) /\
 ∃ (I0 : Int -> Mem -> Prop) (μ0 : Int -> Mem -> Nat),
 I0 1 m1_1 /\
 (∀ (k : Int) (m1_2 : Mem), I0 k m1_2 ->
 eqT m1.size m1.size (
 ((decide (k < (i_4.len : Int))) = true ->
 eqT m.size m.size (
 eqT m1.size m1.size (
 0 <= k /\ k < (i_4.len : Int) /\
 ∃ v32 : Int, gcell m1_2 i_4.blk (i_4.off + Int.toNat k * 1) = some (vi v32) /\
 eqT m.size m.size (
 eqT m1.size m1.size (
 0 <= k /\ k < (i_4.len : Int) /\
 ∃ v39 : Int, gcell m1_2 i_4.blk (i_4.off + Int.toNat k * 1) = some (vi v39) /\
 0 <= v39 /\ v39 < (f_4.len : Int) /\
 ∃ v41 : Int, gcell m1_2 f_4.blk (f_4.off + Int.toNat v39 * 1) = some (vi v41) /\
 0 <= v32 /\ v32 < (f_4.len : Int) /\
 wrOk m1_2 f_4.blk (f_4.off + Int.toNat v32 * 1) 1 /\
 let m1_3 : Mem := scells m1_2 f_4.blk (f_4.off + Int.toNat v32 * 1) [.i (w64 (v41 + 1))]
 Sam [m1.size, m.size] m1_2 m1_3 /\
 eqS (SV.box m1.size 86 [.i i_0, .i i_1, .i i_2, .i i_3, .s i_4, .s i_5]) (SV.box m1.size 86 [.i i_0, .i i_1, .i i_2, .i i_3, .s i_4, .s i_5]) (
 eqS (SV.box m.size 84 [.i f_0, .i f_1, .i f_2, .s f_3, .s f_4, .s f_5]) (SV.box m.size 84 [.i f_0, .i f_1, .i f_2, .s f_3, .s f_4, .s f_5]) (
 I0 (w64 (k + 1)) m1_3 /\ μ0 (w64 (k + 1)) m1_3 < μ0 k m1_2))))))) /\
 ((decide (k < (i_4.len : Int))) = false ->
 eqT m.size m.size (
 0 <= v12 /\ v12 < (f_3.len : Int) /\
 ∃ v49 : Int, gcell m1_2 f_3.blk (f_3.off + Int.toNat v12 * 1) = some (vi v49) /\
 q00 Tryz.prog q3a [vp m0.1 m0.2, vi v49] m1_2 fun r m1_4 =>
 Sam [m1.size, m.size] m1_2 m1_4 /\
 ∃ r50 : Bool, r = vb r50 /\
 (r50 = true ->
 eqT m1.size m1.size (
 ((i_0 == 17) = true ->
 ∃ v58 : Sl, gcell m1_4 m0.1 (m0.2 + 2 + 5) = some (Sl.v v58) /\
 ∃ v64 : Sl, gcell m1_4 m0.1 (m0.2 + 2 + 5) = some (Sl.v v64) /\
 0 <= (w64 (v17 - 1000)) /\ (w64 (v17 - 1000)) < (v64.len : Int) /\
 ∃ v68 : Sl, gcell m1_4 v64.blk (v64.off + Int.toNat (w64 (v17 - 1000)) * 3 + 2) = some (Sl.v v68) /\
 q00 Tryz.prog q4m [vi (v68.len : Int)] m1_4 fun r_1 m1_5 =>
 Sam [m1.size, m.size] m1_4 m1_5 /\
 ∃ r70 : Sl, r_1 = Sl.v r70 /\
 gcell m1_5 m0.1 (m0.2 + 2 + 5) = gcell m1_4 m0.1 (m0.2 + 2 + 5) /\
 0 <= (w64 (v17 - 1000)) /\ (w64 (v17 - 1000)) < (v58.len : Int) /\
 wrOk m1_5 v58.blk (v58.off + Int.toNat (w64 (v17 - 1000)) * 3) 3 /\
 let m1_6 : Mem := scells m1_5 v58.blk (v58.off + Int.toNat (w64 (v17 - 1000)) * 3) [.i (-1), .i 0, .s r70]
 Sam [m1.size, m.size] m1_5 m1_6 /\
 eqT m.size m.size (
 eqT m.size m.size (
 0 <= v12 /\ v12 < (f_3.len : Int) /\
 ∃ v80 : Int, gcell m1_6 f_3.blk (f_3.off + Int.toNat v12 * 1) = some (vi v80) /\
 0 <= v12 /\ v12 < (f_5.len : Int) /\
 wrOk m1_6 f_5.blk (f_5.off + Int.toNat v12 * 1) 1 /\
 let m1_7 : Mem := scells m1_6 f_5.blk (f_5.off + Int.toNat v12 * 1) [.i v80]
 Sam [m1.size, m.size] m1_6 m1_7 /\
 eqT m.size m.size (
 q00 Tryz.prog q0m [vp m0.1 m0.2, vi (w64 (f_1 + 1))] m1_7 fun r_2 m1_8 =>
 Sam [m1.size, m.size] m1_7 m1_8 /\
 R (.tuple #[]) m1_8)))) /\
 ((i_0 == 17) = false ->
 ∃ v86 : Sl, gcell m1_4 m0.1 (m0.2 + 2 + 5) = some (Sl.v v86) /\
 let m1_9 : Mem := m1_4.push (.cells (vals []) 3)
 0 <= (w64 (v17 - 1000)) /\ (w64 (v17 - 1000)) < (v86.len : Int) /\
 wrOk m1_9 v86.blk (v86.off + Int.toNat (w64 (v17 - 1000)) * 3) 3 /\
 let m1_10 : Mem := scells m1_9 v86.blk (v86.off + Int.toNat (w64 (v17 - 1000)) * 3) [.i 0, .i 0, .s (Sl.mk m1_4.size 0 0 0)]
 Sam [m1.size, m.size] m1_9 m1_10 /\
 ∃ v96 : Sl, gcell m1_10 m0.1 (m0.2 + 2 + 5) = some (Sl.v v96) /\
 q00 Tryz.prog q79 [Sl.v v96] m1_10 fun r_3 m1_11 =>
 Sam [m1.size, m.size] m1_10 m1_11 /\
 ∃ r97 : Sl, r_3 = Sl.v r97 /\
 wrOk m1_11 m0.1 (m0.2 + 2 + 5) 1 /\
 let m1_12 : Mem := scells m1_11 m0.1 (m0.2 + 2 + 5) [.s r97]
 Sam [m1.size, m.size] m1_11 m1_12 /\
 eqT m.size m.size (
 q00 Tryz.prog q0m [vp m0.1 m0.2, vi (w64 (f_1 + 1))] m1_12 fun r_4 m1_13 =>
 Sam [m1.size, m.size] m1_12 m1_13 /\
 R (.tuple #[]) m1_13)))) /\
 (r50 = false ->
 eqT m.size m.size (
 q00 Tryz.prog q0m [vp m0.1 m0.2, vi (w64 (f_1 + 1))] m1_4 fun r_5 m1_14 =>
 Sam [m1.size, m.size] m1_4 m1_14 /\
 R (.tuple #[]) m1_14))))))))
theorem qat (m0 : Nat × Nat) (f_0 f_1 f_2 : Int) (f_3 f_4 f_5 : Sl) (i_0 i_1 i_2 i_3 : Int) (i_4 i_5 : Sl) (m : Mem) (R : Value -> Mem -> Prop) (hvc : q61 m0 f_0 f_1 f_2 f_3 f_4 f_5 i_0 i_1 i_2 i_3 i_4 i_5 m R) : q00 Tryz.prog q43 [vp m0.1 m0.2, .agg #[vi f_0, vi f_1, vi f_2, Sl.v f_3, Sl.v f_4, Sl.v f_5], .agg #[vi i_0, vi i_1, vi i_2, vi i_3, Sl.v i_4, Sl.v i_5]] m R :=
 vcs (A := ⟨[(6, [0, 1, 0, 4, 0, 24, 32, 0, 128, 0, 512, 0, 3072, 4096, 8448, 16384, 32768, 131071, 262143], [0, 1, 0, 4, 0, 28, 60, 0, 128, 0, 512, 0, 3584, 7680, 16256, 32640, 65408, 131071, 262143]), (9, [0, 1, 2, 4, 8, 0, 0, 64, 128, 256, 512, 0, 3072, 4096, 8192, 16384, 32768, 65536, 262143, 524287], [0, 1, 3, 7, 15, 0, 0, 64, 192, 448, 960, 0, 4032, 8128, 16320, 32704, 65472, 131008, 262143, 524287]), (10, [0, 1, 0, 0, 8, 0, 48, 64, 255, 511], [0, 1, 0, 0, 8, 0, 56, 120, 255, 511])], [(4, [(8, .I)])], [], [(4, [111, 110])]⟩) (n := 106) (rs := []) (args := [.c (.p m0.1 m0.2), .agg [.i f_0, .i f_1, .i f_2, .s f_3, .s f_4, .s f_5], .agg [.i i_0, .i i_1, .i i_2, .i i_3, .s i_4, .s i_5]]) (c := q05 Tryz.f178) Tryz.func178 hvc
def q7d (m0 : Nat × Nat) (r w : Int) (m : Mem) (R : Value -> Mem -> Prop) : Prop :=
 ∃ v12 : Sl, gcell m m0.1 (m0.2 + 2 + 6) = some (Sl.v v12) /\
 ∃ v19 : Sl, gcell m m0.1 (m0.2 + 2 + 6) = some (Sl.v v19) /\
 0 <= (w64 ((v12.len : Int) - 1)) /\ (w64 ((v12.len : Int) - 1)) < (v19.len : Int) /\
 ∃ v22_0 : Int, gcell m v19.blk (v19.off + Int.toNat (w64 ((v12.len : Int) - 1)) * 6) = some (vi v22_0) /\
 ∃ v22_1 : Int, gcell m v19.blk (v19.off + Int.toNat (w64 ((v12.len : Int) - 1)) * 6 + 1) = some (vi v22_1) /\
 ∃ v22_2 : Int, gcell m v19.blk (v19.off + Int.toNat (w64 ((v12.len : Int) - 1)) * 6 + 2) = some (vi v22_2) /\
 ∃ v22_3 : Sl, gcell m v19.blk (v19.off + Int.toNat (w64 ((v12.len : Int) - 1)) * 6 + 3) = some (Sl.v v22_3) /\
 ∃ v22_4 : Sl, gcell m v19.blk (v19.off + Int.toNat (w64 ((v12.len : Int) - 1)) * 6 + 4) = some (Sl.v v22_4) /\
 ∃ v22_5 : Sl, gcell m v19.blk (v19.off + Int.toNat (w64 ((v12.len : Int) - 1)) * 6 + 5) = some (Sl.v v22_5) /\
 let m1 : Mem := m.push (.cells (vals [.i 0, .i 0, .i 0, .s Sl.nil, .s Sl.nil, .s Sl.nil]) 84)
 eqT m.size m.size (
 let m1_1 : Mem := scells m1 m.size 0 [.i v22_0, .i v22_1, .i v22_2, .s v22_3, .s v22_4, .s v22_5]
 eqT m.size m.size (
 0 <= r /\ r < (v22_3.len : Int) /\
 wrOk m1_1 v22_3.blk (v22_3.off + Int.toNat r * 1) 1 /\
 let m1_2 : Mem := scells m1_1 v22_3.blk (v22_3.off + Int.toNat r * 1) [.i w]
 Sam [m.size] m1_1 m1_2 /\
 eqT m.size m.size (
 0 <= r /\ r < (v22_4.len : Int) /\
 wrOk m1_2 v22_4.blk (v22_4.off + Int.toNat r * 1) 1 /\
 let m1_3 : Mem := scells m1_2 v22_4.blk (v22_4.off + Int.toNat r * 1) [.i 0]
 Sam [m.size] m1_2 m1_3 /\
 q00 Tryz.prog q1h [vi w] m1_3 fun r_1 m1_4 =>
 Sam [m.size] m1_3 m1_4 /\
 ∃ r33 : Bool, r_1 = vb r33 /\
 (r33 = true ->
 eqT m.size m.size (
 0 <= r /\ r < (v22_4.len : Int) /\
 wrOk m1_4 v22_4.blk (v22_4.off + Int.toNat r * 1) 1 /\
 let m1_5 : Mem := scells m1_4 v22_4.blk (v22_4.off + Int.toNat r * 1) [.i 1]
 Sam [m.size] m1_4 m1_5 /\
 R (.tuple #[]) m1_5)) /\
 (r33 = false ->
 R (.tuple #[]) m1_4))))
theorem qc5 (m0 : Nat × Nat) (r w : Int) (m : Mem) (R : Value -> Mem -> Prop) (hvc : q7d m0 r w m R) : q00 Tryz.prog q2l [vp m0.1 m0.2, vi r, vi w] m R :=
 vcs (A := ⟨[], [], [], []⟩) (n := 38) (rs := []) (args := [.c (.p m0.1 m0.2), .c (.i r), .c (.i w)]) (c := q05 Tryz.f179) Tryz.func179 hvc
def qms (decls : Sl) (at0 : Int) (m : Mem) (R : Value -> Mem -> Prop) : Prop :=
 ∃ (I0 : Int -> Int -> Mem -> Prop) (μ0 : Int -> Int -> Mem -> Nat),
 I0 0 0 m /\
 (∀ (n : Int) (i : Int) (m1 : Mem), I0 n i m1 ->
 ((decide (i < at0)) = true ->
 0 <= i /\ i < (decls.len : Int) /\
 ∃ v17 : Sl, gcell m1 decls.blk (decls.off + Int.toNat i * 3 + 2) = some (Sl.v v17) /\
 I0 (w64 (n + (v17.len : Int))) (w64 (i + 1)) m1 /\ μ0 (w64 (n + (v17.len : Int))) (w64 (i + 1)) m1 < μ0 n i m1) /\
 ((decide (i < at0)) = false ->
 R (vi n) m1))
theorem qii (decls : Sl) (at0 : Int) (m : Mem) (R : Value -> Mem -> Prop) (hvc : qms decls at0 m R) : q00 Tryz.prog q39 [Sl.v decls, vi at0] m R :=
 vcs (A := ⟨[], [(3, [(5, .I), (6, .I)])], [], []⟩) (n := 21) (rs := [.tmp 4]) (args := [.c (.s decls), .c (.i at0)]) (c := q05 Tryz.f180) Tryz.func180 hvc
end
section
set_option linter.unusedVariables false
set_option maxRecDepth 100000
def qho (a_0 : Sl) (left : Int) (m : Mem) (R : Value -> Mem -> Prop) : Prop :=
 let m1 : Mem := m.push (.cells (vals [.s a_0]) 222)
 eqT m.size m.size (
 q00 Tryz.prog q3h [Sl.v a_0, vi left] m1 fun r m1_1 =>
 Sam [m.size] m1 m1_1 /\
 ∃ r8 : Int, r = vi r8 /\
 ((decide (r8 < 0)) = true ->
 R (vi (-1)) m1_1) /\
 ((decide (r8 < 0)) = false ->
 R (vi r8) m1_1))
theorem qn0 (a_0 : Sl) (left : Int) (m : Mem) (R : Value -> Mem -> Prop) (hvc : qho a_0 left m R) : q00 Tryz.prog qcc [.agg #[Sl.v a_0], vi left] m R :=
 vcs (A := ⟨[], [], [], []⟩) (n := 12) (rs := [.tmp 4]) (args := [.agg [.s a_0], .c (.i left)]) (c := q05 Tryz.f187) Tryz.func187 hvc
def qeo (a_0 a_1 a_2 a_3 : Int) (a_4 a_5 : Sl) (left : Int) (m : Mem) (R : Value -> Mem -> Prop) : Prop :=
 let m1 : Mem := m.push (.cells (vals [.i a_0, .i a_1, .i a_2, .i a_3, .s a_4, .s a_5]) 224)
 eqT m.size m.size (
 q00 Tryz.prog q3h [Sl.v a_4, vi left] m1 fun r m1_1 =>
 Sam [m.size] m1 m1_1 /\
 ∃ r8 : Int, r = vi r8 /\
 ((decide (r8 < 0)) = true ->
 R (vi (-1)) m1_1) /\
 ((decide (r8 < 0)) = false ->
 eqT m.size m.size (
 q00 Tryz.prog q3h [Sl.v a_5, vi r8] m1_1 fun r_1 m1_2 =>
 Sam [m.size] m1_1 m1_2 /\
 ∃ r14 : Int, r_1 = vi r14 /\
 ((decide (r14 < 0)) = true ->
 R (vi (-1)) m1_2) /\
 ((decide (r14 < 0)) = false ->
 R (vi r14) m1_2))))
theorem qjc (a_0 a_1 a_2 a_3 : Int) (a_4 a_5 : Sl) (left : Int) (m : Mem) (R : Value -> Mem -> Prop) (hvc : qeo a_0 a_1 a_2 a_3 a_4 a_5 left m R) : q00 Tryz.prog qa8 [.agg #[vi a_0, vi a_1, vi a_2, vi a_3, Sl.v a_4, Sl.v a_5], vi left] m R :=
 vcs (A := ⟨[], [], [], []⟩) (n := 18) (rs := [.tmp 4]) (args := [.agg [.i a_0, .i a_1, .i a_2, .i a_3, .s a_4, .s a_5], .c (.i left)]) (c := q05 Tryz.f188) Tryz.func188 hvc
def qbq (decls : Sl) (at0 : Int) (m : Mem) (R : Value -> Mem -> Prop) : Prop :=
 0 <= at0 /\ at0 < (decls.len : Int) /\
 ∃ v11_0 : Int, gcell m decls.blk (decls.off + Int.toNat at0 * 3) = some (vi v11_0) /\
 ∃ v11_1 : Int, gcell m decls.blk (decls.off + Int.toNat at0 * 3 + 1) = some (vi v11_1) /\
 ∃ v11_2 : Sl, gcell m decls.blk (decls.off + Int.toNat at0 * 3 + 2) = some (Sl.v v11_2) /\
 let m1 : Mem := m.push (.cells (vals [.i 0, .i 0, .s Sl.nil]) 122)
 eqT m.size m.size (
 let m1_1 : Mem := scells m1 m.size 0 [.i v11_0, .i v11_1, .s v11_2]
 eqT m.size m.size (
 ((decide ((v11_2.len : Int) > 0)) = true ->
 eqT m.size m.size (
 ((decide ((v11_2.len : Int) > 3)) = true ->
 R (vb false) m1_1) /\
 ((decide ((v11_2.len : Int) > 3)) = false ->
 eqT m.size m.size (
 ((v11_0 != 0) = true ->
 R (vb false) m1_1) /\
 ((v11_0 != 0) = false ->
 eqT m.size m.size (
 ((v11_1 != 0) = true ->
 R (vb false) m1_1) /\
 ((v11_1 != 0) = false ->
 ∃ (I0 : Int -> Mem -> Prop) (μ0 : Int -> Mem -> Nat),
 I0 0 m1_1 /\
 (∀ (i : Int) (m1_2 : Mem), I0 i m1_2 ->
 eqT m.size m.size (
 ((decide (i < (v11_2.len : Int))) = true ->
 eqT m.size m.size (
 0 <= i /\ i < (v11_2.len : Int) /\
 ∃ v42 : Sl, gcell m1_2 v11_2.blk (v11_2.off + Int.toNat i * 1) = some (Sl.v v42) /\
 ((decide ((v42.len : Int) > 3)) = true ->
 R (vb false) m1_2) /\
 ((decide ((v42.len : Int) > 3)) = false ->
 eqT m.size m.size (
 0 <= i /\ i < (v11_2.len : Int) /\
 ∃ v52 : Sl, gcell m1_2 v11_2.blk (v11_2.off + Int.toNat i * 1) = some (Sl.v v52) /\
 q00 Tryz.prog q5q [Sl.v decls, Sl.v v52] m1_2 fun r m1_3 =>
 Sam [m.size] m1_2 m1_3 /\
 ∃ r53 : Bool, r = vb r53 /\
 ((!r53) = true ->
 R (vb false) m1_3) /\
 ((!r53) = false ->
 eqS (SV.box m.size 122 [.i v11_0, .i v11_1, .s v11_2]) (SV.box m.size 122 [.i v11_0, .i v11_1, .s v11_2]) (
 I0 (w64 (i + 1)) m1_3 /\ μ0 (w64 (i + 1)) m1_3 < μ0 i m1_2)))))) /\
 ((decide (i < (v11_2.len : Int))) = false ->
 R (vb true) m1_2)))))))))) /\
 ((decide ((v11_2.len : Int) > 0)) = false ->
 ∃ (I0_1 : Int -> Mem -> Prop) (μ0_1 : Int -> Mem -> Nat),
 I0_1 0 m1_1 /\
 (∀ (i_1 : Int) (m1_4 : Mem), I0_1 i_1 m1_4 ->
 ((decide (i_1 < at0)) = true ->
 0 <= i_1 /\ i_1 < (decls.len : Int) /\
 ∃ v65 : Sl, gcell m1_4 decls.blk (decls.off + Int.toNat i_1 * 3 + 2) = some (Sl.v v65) /\
 (((v65.len : Int) == 0) = true ->
 0 <= i_1 /\ i_1 < (decls.len : Int) /\
 ∃ v73 : Int, gcell m1_4 decls.blk (decls.off + Int.toNat i_1 * 3) = some (vi v73) /\
 eqT m.size m.size (
 ((v73 == v11_0) = true ->
 0 <= i_1 /\ i_1 < (decls.len : Int) /\
 ∃ v83 : Int, gcell m1_4 decls.blk (decls.off + Int.toNat i_1 * 3 + 1) = some (vi v83) /\
 eqT m.size m.size (
 ((v83 == v11_1) = true ->
 R (vb false) m1_4) /\
 ((v83 == v11_1) = false ->
 eqS (SV.box m.size 122 [.i v11_0, .i v11_1, .s v11_2]) (SV.box m.size 122 [.i v11_0, .i v11_1, .s v11_2]) (
 I0_1 (w64 (i_1 + 1)) m1_4 /\ μ0_1 (w64 (i_1 + 1)) m1_4 < μ0_1 i_1 m1_4)))) /\
 ((v73 == v11_0) = false ->
 eqS (SV.box m.size 122 [.i v11_0, .i v11_1, .s v11_2]) (SV.box m.size 122 [.i v11_0, .i v11_1, .s v11_2]) (
 I0_1 (w64 (i_1 + 1)) m1_4 /\ μ0_1 (w64 (i_1 + 1)) m1_4 < μ0_1 i_1 m1_4)))) /\
 (((v65.len : Int) == 0) = false ->
 eqS (SV.box m.size 122 [.i v11_0, .i v11_1, .s v11_2]) (SV.box m.size 122 [.i v11_0, .i v11_1, .s v11_2]) (
 I0_1 (w64 (i_1 + 1)) m1_4 /\ μ0_1 (w64 (i_1 + 1)) m1_4 < μ0_1 i_1 m1_4))) /\
 ((decide (i_1 < at0)) = false ->
 eqT m.size m.size (
 q00 Tryz.prog q0n [vi v11_0, vi 0, vi (decls.len : Int)] m1_4 fun r_1 m1_5 =>
 Sam [m.size] m1_4 m1_5 /\
 ∃ r92 : Bool, r_1 = vb r92 /\
 (r92 = true ->
 eqT m.size m.size (
 q00 Tryz.prog q0n [vi v11_1, vi 0, vi (decls.len : Int)] m1_5 fun r_2 m1_6 =>
 Sam [m.size] m1_5 m1_6 /\
 ∃ r98 : Bool, r_2 = vb r98 /\
 R (vb r98) m1_6)) /\
 (r92 = false ->
 R (vb false) m1_5)))))))
theorem qh1 (decls : Sl) (at0 : Int) (m : Mem) (R : Value -> Mem -> Prop) (hvc : qbq decls at0 m R) : q00 Tryz.prog q7y [Sl.v decls, vi at0] m R :=
 vcs (A := ⟨[(14, [0, 0, 3, 4, 8, 16, 32, 64, 128, 128, 896, 1152, 2176, 128, 8320, 20608, 32896, 65664, 131072, 131072, 917504, 1179648, 2228224, 131072, 8519680, 21102592, 33685504], [0, 0, 3, 7, 15, 31, 63, 127, 255, 255, 1023, 2047, 4095, 255, 8447, 32767, 65535, 131071, 262143, 262143, 1048575, 2097151, 4194303, 262143, 8650751, 33554431, 67108863])], [(6, [(6, .I)]), (12, [(7, .I)])], [], [(6, [105]), (12, [105])]⟩) (n := 100) (rs := [.tmp 4]) (args := [.c (.s decls), .c (.i at0)]) (c := q05 Tryz.f189) Tryz.func189 hvc
def qn6 (decls : Sl) (c : Int) (m : Mem) (R : Value -> Mem -> Prop) : Prop :=
 ∃ (I0 : Int -> Mem -> Prop) (μ0 : Int -> Mem -> Nat),
 I0 0 m /\
 (∀ (i : Int) (m1 : Mem), I0 i m1 ->
 ((decide (i < (decls.len : Int))) = true ->
 q00 Tryz.prog q39 [Sl.v decls, vi i] m1 fun r m1_1 =>
 ∃ r15 : Int, r = vi r15 /\
 0 <= i /\ i < (decls.len : Int) /\
 ∃ v23 : Sl, gcell m1_1 decls.blk (decls.off + Int.toNat i * 3 + 2) = some (Sl.v v23) /\
 q00 Tryz.prog q0n [vi c, vi r15, vi (w64 ((w64 (r15 + (v23.len : Int))) - 1))] m1_1 fun r_1 m1_2 =>
 ∃ r27 : Bool, r_1 = vb r27 /\
 (r27 = true ->
 R (vi (w64 (i + 1))) m1_2) /\
 (r27 = false ->
 I0 (w64 (i + 1)) m1_2 /\ μ0 (w64 (i + 1)) m1_2 < μ0 i m1)) /\
 ((decide (i < (decls.len : Int))) = false ->
 R (vi (-1)) m1))
theorem qj1 (decls : Sl) (c : Int) (m : Mem) (R : Value -> Mem -> Prop) (hvc : qn6 decls c m R) : q00 Tryz.prog q6e [Sl.v decls, vi c] m R :=
 vcs (A := ⟨[], [(2, [(5, .I)])], [], []⟩) (n := 30) (rs := [.tmp 4]) (args := [.c (.s decls), .c (.i c)]) (c := q05 Tryz.f190) Tryz.func190 hvc
def qkj (decls : Sl) (c : Int) (m : Mem) (R : Value -> Mem -> Prop) : Prop :=
 q00 Tryz.prog q6e [Sl.v decls, vi c] m fun r m1 =>
 ∃ r8 : Int, r = vi r8 /\
 ((decide (r8 < 1)) = true ->
 let m1_1 : Mem := m1.push (.cells (vals []) 3)
 R (Sl.v (Sl.mk m1.size 0 0 0)) m1_1) /\
 ((decide (r8 < 1)) = false ->
 0 <= (w64 (r8 - 1)) /\ (w64 (r8 - 1)) < (decls.len : Int) /\
 ∃ v17 : Sl, gcell m1 decls.blk (decls.off + Int.toNat (w64 (r8 - 1)) * 3 + 2) = some (Sl.v v17) /\
 q00 Tryz.prog q39 [Sl.v decls, vi (w64 (r8 - 1))] m1 fun r_1 m1_2 =>
 ∃ r22 : Int, r_1 = vi r22 /\
 gcell m1_2 decls.blk (decls.off + Int.toNat (w64 (r8 - 1)) * 3 + 2) = gcell m1 decls.blk (decls.off + Int.toNat (w64 (r8 - 1)) * 3 + 2) /\
 0 <= (w64 (c - r22)) /\ (w64 (c - r22)) < (v17.len : Int) /\
 ∃ v26 : Sl, gcell m1_2 v17.blk (v17.off + Int.toNat (w64 (c - r22)) * 1) = some (Sl.v v26) /\
 R (Sl.v v26) m1_2)
theorem qhb (decls : Sl) (c : Int) (m : Mem) (R : Value -> Mem -> Prop) (hvc : qkj decls c m R) : q00 Tryz.prog q7p [Sl.v decls, vi c] m R :=
 vcs (A := ⟨[(4, [0, 0, 2, 5, 8, 16, 0, 0, 0, 256, 640, 1088, 2080, 4096, 8192, 32767], [0, 0, 2, 7, 15, 31, 0, 0, 0, 256, 896, 1984, 4095, 8191, 16383, 32767])], [], [], []⟩) (n := 27) (rs := [.tmp 4]) (args := [.c (.s decls), .c (.i c)]) (c := q05 Tryz.f191) Tryz.func191 hvc
def qcx (im_0 im_1 : Sl) (num args more : Int) (m : Mem) (R : Value -> Mem -> Prop) : Prop :=
 let m1 : Mem := m.push (.cells (vals [.s im_0, .s im_1]) 35)
 eqT m.size m.size (
 q00 Tryz.prog q0n [vi num, vi 0, vi (w64 ((im_1.len : Int) - 1))] m1 fun r m1_1 =>
 Sam [m.size] m1 m1_1 /\
 ∃ r14 : Bool, r = vb r14 /\
 (r14 = true ->
 eqT m.size m.size (
 0 <= num /\ num < (im_1.len : Int) /\
 ∃ v21 : Sl, gcell m1_1 im_1.blk (im_1.off + Int.toNat num * 5) = some (Sl.v v21) /\
 R (vb ((v21.len : Int) == (w64 (args + more)))) m1_1)) /\
 (r14 = false ->
 R (vb false) m1_1))
theorem qi4 (im_0 im_1 : Sl) (num args more : Int) (m : Mem) (R : Value -> Mem -> Prop) (hvc : qcx im_0 im_1 num args more m R) : q00 Tryz.prog q5k [.agg #[Sl.v im_0, Sl.v im_1], vi num, vi args, vi more] m R :=
 vcs (A := ⟨[], [], [], []⟩) (n := 28) (rs := [.tmp 8]) (args := [.agg [.s im_0, .s im_1], .c (.i num), .c (.i args), .c (.i more)]) (c := q05 Tryz.f192) Tryz.func192 hvc
def qam (list : Sl) (many at0 end0 : Int) (m : Mem) (R : Value -> Mem -> Prop) : Prop :=
 (((list.len : Int) != many) = true ->
 R (vb false) m) /\
 (((list.len : Int) != many) = false ->
 ∃ (I0 : Int -> Mem -> Prop) (μ0 : Int -> Mem -> Nat),
 I0 0 m /\
 (∀ (i : Int) (m1 : Mem), I0 i m1 ->
 ((decide (i < many)) = true ->
 0 <= i /\ i < (list.len : Int) /\
 ∃ v22 : Int, gcell m1 list.blk (list.off + Int.toNat i * 1) = some (vi v22) /\
 q00 Tryz.prog q0n [vi v22, vi (w64 (at0 + 1)), vi (w64 (end0 - 1))] m1 fun r m1_1 =>
 ∃ r27 : Bool, r = vb r27 /\
 ((!r27) = true ->
 R (vb false) m1_1) /\
 ((!r27) = false ->
 I0 (w64 (i + 1)) m1_1 /\ μ0 (w64 (i + 1)) m1_1 < μ0 i m1)) /\
 ((decide (i < many)) = false ->
 R (vb true) m1)))
theorem qgc (list : Sl) (many at0 end0 : Int) (m : Mem) (R : Value -> Mem -> Prop) (hvc : qam list many at0 end0 m R) : q00 Tryz.prog q71 [Sl.v list, vi many, vi at0, vi end0] m R :=
 vcs (A := ⟨[], [(4, [(9, .I)])], [], []⟩) (n := 29) (rs := [.tmp 8]) (args := [.c (.s list), .c (.i many), .c (.i at0), .c (.i end0)]) (c := q05 Tryz.f193) Tryz.func193 hvc
def qpz (n : Int) (m : Mem) (R : Value -> Mem -> Prop) : Prop :=
 0 <= n /\ n <= n /\ ((8 : Nat) : Int) * n <= 281474976710656 /\ n <= 9223372036854775807 /\
 let m1 : Mem := m.push (.cells (vals (zrow [.i 0] (Int.toNat n))) 3)
 R (Sl.v (Sl.mk m.size 0 (Int.toNat n) (Int.toNat n))) m1
theorem qm5 (n : Int) (m : Mem) (R : Value -> Mem -> Prop) (hvc : qpz n m R) : q00 Tryz.prog q4m [vi n] m R :=
 vcs (A := ⟨[], [], [], []⟩) (n := 5) (rs := [.tmp 2]) (args := [.c (.i n)]) (c := q05 Tryz.f194) Tryz.func194 hvc
def qhs (a_0 : Sl) (m : Mem) (R : Value -> Mem -> Prop) : Prop :=
 let m1 : Mem := m.push (.cells (vals [.s a_0]) 222)
 let m1_1 : Mem := m1.push (.cells (vals [.s Sl.nil]) 201)
 let m1_2 : Mem := m1_1.push (.cells (vals [.s Sl.nil]) 201)
 eqT m.size m.size (
 q00 Tryz.prog q3j [Sl.v a_0] m1_2 fun r m1_3 =>
 Sam [m1_1.size, m1.size, m.size] m1_2 m1_3 /\
 ∃ r6 : Sl, r = Sl.v r6 /\
 eqT m1_1.size m1_1.size (
 let m1_4 : Mem := scells m1_3 m1_1.size 0 [.s r6]
 eqT m1_1.size m1_1.size (
 eqT m1.size m1.size (
 let m1_5 : Mem := scells m1_4 m1.size 0 [.s r6]
 eqT m1.size m1.size (
 R (.agg #[Sl.v r6]) m1_5)))))
theorem qmk (a_0 : Sl) (m : Mem) (R : Value -> Mem -> Prop) (hvc : qhs a_0 m R) : q00 Tryz.prog qdb [.agg #[Sl.v a_0]] m R :=
 vcs (A := ⟨[], [], [], []⟩) (n := 9) (rs := [.cell 2 201]) (args := [.agg [.s a_0]]) (c := q05 Tryz.f195) Tryz.func195 hvc
end
end Go.Proofs.YtpggcodlaajceaaGreat
