/- Part of a proof, joined by a program: Cn21 Cn22 Cns Sv1 Sv2 Own Sv3 Sv4. -/
import Derived.Test.YtpggcodlaajceaaGreatS02
import Derived.Test.YtpggcodlaajceaaGreatS03
import Derived.Test.YtpggcodlaajceaaGreatS04
import Derived.Test.YtpggcodlaajceaaGreatS05
namespace Go.Proofs.YtpggcodlaajceaaGreat
open Go.Vc
section
set_option linter.unusedVariables false
set_option maxRecDepth 100000
def qem (a_0 a_1 a_2 a_3 : Int) (a_4 a_5 : Sl) (m : Mem) (R : Value -> Mem -> Prop) : Prop :=
 let m1 : Mem := m.push (.cells (vals [.i a_0, .i a_1, .i a_2, .i a_3, .s a_4, .s a_5]) 224)
 let m1_1 : Mem := m1.push (.cells (vals [.i 0, .i 0, .i 0, .i 0, .s Sl.nil, .s Sl.nil]) 86)
 let m1_2 : Mem := m1_1.push (.cells (vals [.i 0, .i 0, .i 0, .i 0, .s Sl.nil, .s Sl.nil]) 86)
 eqT m.size m.size (
 eqT m1_1.size m1_1.size (
 let m1_3 : Mem := scells m1_2 m1_1.size 0 [.i a_0]
 eqT m.size m.size (
 eqT m1_1.size m1_1.size (
 let m1_4 : Mem := scells m1_3 m1_1.size 1 [.i a_1]
 eqT m.size m.size (
 eqT m1_1.size m1_1.size (
 let m1_5 : Mem := scells m1_4 m1_1.size 2 [.i a_2]
 eqT m.size m.size (
 eqT m1_1.size m1_1.size (
 let m1_6 : Mem := scells m1_5 m1_1.size 3 [.i a_3]
 eqT m.size m.size (
 q00 Tryz.prog q3j [Sl.v a_4] m1_6 fun r m1_7 =>
 Sam [m1_1.size, m1.size, m.size] m1_6 m1_7 /\
 ∃ r18 : Sl, r = Sl.v r18 /\
 eqT m1_1.size m1_1.size (
 let m1_8 : Mem := scells m1_7 m1_1.size 4 [.s r18]
 eqT m.size m.size (
 q00 Tryz.prog q3j [Sl.v a_5] m1_8 fun r_1 m1_9 =>
 Sam [m1_1.size, m1.size, m.size] m1_8 m1_9 /\
 ∃ r22 : Sl, r_1 = Sl.v r22 /\
 eqT m1_1.size m1_1.size (
 let m1_10 : Mem := scells m1_9 m1_1.size 5 [.s r22]
 eqT m1_1.size m1_1.size (
 eqT m1.size m1.size (
 let m1_11 : Mem := scells m1_10 m1.size 0 [.i a_0, .i a_1, .i a_2, .i a_3, .s r18, .s r22]
 eqT m1.size m1.size (
 R (.agg #[vi a_0, vi a_1, vi a_2, vi a_3, Sl.v r18, Sl.v r22]) m1_11)))))))))))))))
theorem qjk (a_0 a_1 a_2 a_3 : Int) (a_4 a_5 : Sl) (m : Mem) (R : Value -> Mem -> Prop) (hvc : qem a_0 a_1 a_2 a_3 a_4 a_5 m R) : q00 Tryz.prog q9z [.agg #[vi a_0, vi a_1, vi a_2, vi a_3, Sl.v a_4, Sl.v a_5]] m R :=
 vcs (A := ⟨[], [], [], []⟩) (n := 25) (rs := [.cell 2 86]) (args := [.agg [.i a_0, .i a_1, .i a_2, .i a_3, .s a_4, .s a_5]]) (c := q05 Tryz.f196) Tryz.func196 hvc
def qaq (decls : Sl) (m : Mem) (R : Value -> Mem -> Prop) : Prop :=
 ((decide ((decls.len : Int) > 4)) = true ->
 R (vb false) m) /\
 ((decide ((decls.len : Int) > 4)) = false ->
 ∃ (I0 : Int -> Mem -> Prop) (μ0 : Int -> Mem -> Nat),
 I0 0 m /\
 (∀ (v14 : Int) (m1 : Mem), I0 v14 m1 ->
 ((decide (v14 < (decls.len : Int))) = true ->
 0 <= v14 /\ v14 < (decls.len : Int) /\
 ∃ v18_0 : Int, gcell m1 decls.blk (decls.off + Int.toNat v14 * 3) = some (vi v18_0) /\
 ∃ v18_1 : Int, gcell m1 decls.blk (decls.off + Int.toNat v14 * 3 + 1) = some (vi v18_1) /\
 ∃ v18_2 : Sl, gcell m1 decls.blk (decls.off + Int.toNat v14 * 3 + 2) = some (Sl.v v18_2) /\
 let m1_1 : Mem := m1.push (.cells (vals [.i 0, .i 0, .s Sl.nil]) 122)
 eqT m1.size m1.size (
 let m1_2 : Mem := scells m1_1 m1.size 0 [.i v18_0, .i v18_1, .s v18_2]
 ∃ K0 : Mem -> Prop,
 (eqT m1.size m1.size (
 q00 Tryz.prog q46 [Sl.v decls, vi v18_0] m1_2 fun r m1_3 =>
 Sam [m1.size] m1_2 m1_3 /\
 ∃ r22 : Bool, r = vb r22 /\
 ((!r22) = true ->
 R (vb false) m1_3) /\
 ((!r22) = false ->
 eqT m1.size m1.size (
 q00 Tryz.prog q46 [Sl.v decls, vi v18_1] m1_3 fun r_1 m1_4 =>
 Sam [m1.size] m1_3 m1_4 /\
 ∃ r28 : Bool, r_1 = vb r28 /\
 ((!r28) = true ->
 R (vb false) m1_4) /\
 ((!r28) = false ->
 eqT m1.size m1.size (
 ((decide ((v18_2.len : Int) > 3)) = true ->
 R (vb false) m1_4) /\
 ((decide ((v18_2.len : Int) > 3)) = false ->
 eqT m1.size m1.size (
 ((decide ((v18_2.len : Int) > 0)) = true ->
 eqT m1.size m1.size (
 ((v18_0 != 0) = true ->
 R (vb false) m1_4) /\
 ((v18_0 != 0) = false ->
 eqT m1.size m1.size (
 ((v18_1 != 0) = true ->
 R (vb false) m1_4) /\
 ((v18_1 != 0) = false ->
 eqS (SV.box m1.size 122 [.i v18_0, .i v18_1, .s v18_2]) (SV.box m1.size 122 [.i v18_0, .i v18_1, .s v18_2]) (
 K0 m1_4)))))) /\
 ((decide ((v18_2.len : Int) > 0)) = false ->
 eqS (SV.box m1.size 122 [.i v18_0, .i v18_1, .s v18_2]) (SV.box m1.size 122 [.i v18_0, .i v18_1, .s v18_2]) (
 K0 m1_4)))))))))) /\
 (∀ (m1_5 : Mem), K0 m1_5 ->
 eqT m1.size m1.size (
 ∃ (I0_1 : Int -> Mem -> Prop) (μ0_1 : Int -> Mem -> Nat),
 I0_1 0 m1_5 /\
 (∀ (v56 : Int) (m1_6 : Mem), I0_1 v56 m1_6 ->
 ((decide (v56 < (v18_2.len : Int))) = true ->
 0 <= v56 /\ v56 < (v18_2.len : Int) /\
 ∃ v59 : Sl, gcell m1_6 v18_2.blk (v18_2.off + Int.toNat v56 * 1) = some (Sl.v v59) /\
 let m1_7 : Mem := m1_6.push (.cells (vals [.s Sl.nil]) 201)
 eqT m1_6.size m1_6.size (
 let m1_8 : Mem := scells m1_7 m1_6.size 0 [.s v59]
 eqT m1_6.size m1_6.size (
 ((decide ((v59.len : Int) > 3)) = true ->
 R (vb false) m1_8) /\
 ((decide ((v59.len : Int) > 3)) = false ->
 eqT m1_6.size m1_6.size (
 q00 Tryz.prog q5l [Sl.v decls, Sl.v v59] m1_8 fun r_2 m1_9 =>
 Sam [m1_6.size, m1.size] m1_8 m1_9 /\
 ∃ r68 : Bool, r_2 = vb r68 /\
 ((!r68) = true ->
 R (vb false) m1_9) /\
 ((!r68) = false ->
 eqS (SV.box m1.size 122 [.i v18_0, .i v18_1, .s v18_2]) (SV.box m1.size 122 [.i v18_0, .i v18_1, .s v18_2]) (
 I0_1 (w64 (v56 + 1)) m1_9 /\ μ0_1 (w64 (v56 + 1)) m1_9 < μ0_1 v56 m1_6))))))) /\
 ((decide (v56 < (v18_2.len : Int))) = false ->
 (0 : Int) <= (0 : Int) /\ 0 <= v14 /\ v14 <= (decls.cap : Int) /\
 ∃ (I0_2 : Int -> Mem -> Prop) (μ0_2 : Int -> Mem -> Nat),
 I0_2 0 m1_6 /\
 (∀ (v76 : Int) (m1_10 : Mem), I0_2 v76 m1_10 ->
 ((decide (v76 < ((Sl.cut decls (Int.toNat 0) (Int.toNat v14) 3).len : Int))) = true ->
 0 <= v76 /\ v76 < ((Sl.cut decls (Int.toNat 0) (Int.toNat v14) 3).len : Int) /\
 ∃ v79_0 : Int, gcell m1_10 ((Sl.cut decls (Int.toNat 0) (Int.toNat v14) 3).blk) ((Sl.cut decls (Int.toNat 0) (Int.toNat v14) 3).off + Int.toNat v76 * 3) = some (vi v79_0) /\
 ∃ v79_1 : Int, gcell m1_10 ((Sl.cut decls (Int.toNat 0) (Int.toNat v14) 3).blk) ((Sl.cut decls (Int.toNat 0) (Int.toNat v14) 3).off + Int.toNat v76 * 3 + 1) = some (vi v79_1) /\
 ∃ v79_2 : Sl, gcell m1_10 ((Sl.cut decls (Int.toNat 0) (Int.toNat v14) 3).blk) ((Sl.cut decls (Int.toNat 0) (Int.toNat v14) 3).off + Int.toNat v76 * 3 + 2) = some (Sl.v v79_2) /\
 let m1_11 : Mem := m1_10.push (.cells (vals [.i 0, .i 0, .s Sl.nil]) 122)
 eqT m1_10.size m1_10.size (
 let m1_12 : Mem := scells m1_11 m1_10.size 0 [.i v79_0, .i v79_1, .s v79_2]
 eqT m1.size m1.size (
 (((v18_2.len : Int) == 0) = true ->
 eqT m1_10.size m1_10.size (
 (((v79_2.len : Int) == 0) = true ->
 eqT m1_10.size m1_10.size (
 eqT m1.size m1.size (
 ((v79_0 == v18_0) = true ->
 eqT m1_10.size m1_10.size (
 eqT m1.size m1.size (
 ((v79_1 == v18_1) = true ->
 R (vb false) m1_12) /\
 ((v79_1 == v18_1) = false ->
 eqS (SV.box m1.size 122 [.i v18_0, .i v18_1, .s v18_2]) (SV.box m1.size 122 [.i v18_0, .i v18_1, .s v18_2]) (
 I0_2 (w64 (v76 + 1)) m1_12 /\ μ0_2 (w64 (v76 + 1)) m1_12 < μ0_2 v76 m1_10))))) /\
 ((v79_0 == v18_0) = false ->
 eqS (SV.box m1.size 122 [.i v18_0, .i v18_1, .s v18_2]) (SV.box m1.size 122 [.i v18_0, .i v18_1, .s v18_2]) (
 I0_2 (w64 (v76 + 1)) m1_12 /\ μ0_2 (w64 (v76 + 1)) m1_12 < μ0_2 v76 m1_10))))) /\
 (((v79_2.len : Int) == 0) = false ->
 eqS (SV.box m1.size 122 [.i v18_0, .i v18_1, .s v18_2]) (SV.box m1.size 122 [.i v18_0, .i v18_1, .s v18_2]) (
 I0_2 (w64 (v76 + 1)) m1_12 /\ μ0_2 (w64 (v76 + 1)) m1_12 < μ0_2 v76 m1_10)))) /\
 (((v18_2.len : Int) == 0) = false ->
 eqS (SV.box m1.size 122 [.i v18_0, .i v18_1, .s v18_2]) (SV.box m1.size 122 [.i v18_0, .i v18_1, .s v18_2]) (
 I0_2 (w64 (v76 + 1)) m1_12 /\ μ0_2 (w64 (v76 + 1)) m1_12 < μ0_2 v76 m1_10))))) /\
 ((decide (v76 < ((Sl.cut decls (Int.toNat 0) (Int.toNat v14) 3).len : Int))) = false ->
 I0 (w64 (v14 + 1)) m1_10 /\ μ0 (w64 (v14 + 1)) m1_10 < μ0 v14 m1)))))))) /\
 ((decide (v14 < (decls.len : Int))) = false ->
 R (vb true) m1)))
theorem qgd (decls : Sl) (m : Mem) (R : Value -> Mem -> Prop) (hvc : qaq decls m R) : q00 Tryz.prog q6w [Sl.v decls] m R :=
 vcs (A := ⟨[], [(4, [(14, .I)]), (9, [(56, .I)]), (15, [(76, .I)])], [(8, [])], [(8, [110]), (9, [110]), (15, [110])]⟩) (n := 106) (rs := [.tmp 2]) (args := [.c (.s decls)]) (c := q05 Tryz.f197) Tryz.func197 hvc
def qm3 (decls list : Sl) (m : Mem) (R : Value -> Mem -> Prop) : Prop :=
 ∃ (I0 : Int -> Mem -> Prop) (μ0 : Int -> Mem -> Nat),
 I0 0 m /\
 (∀ (v9 : Int) (m1 : Mem), I0 v9 m1 ->
 ((decide (v9 < (list.len : Int))) = true ->
 0 <= v9 /\ v9 < (list.len : Int) /\
 ∃ v12 : Int, gcell m1 list.blk (list.off + Int.toNat v9 * 1) = some (vi v12) /\
 q00 Tryz.prog q46 [Sl.v decls, vi v12] m1 fun r m1_1 =>
 ∃ r15 : Bool, r = vb r15 /\
 ((!r15) = true ->
 R (vb false) m1_1) /\
 ((!r15) = false ->
 I0 (w64 (v9 + 1)) m1_1 /\ μ0 (w64 (v9 + 1)) m1_1 < μ0 v9 m1)) /\
 ((decide (v9 < (list.len : Int))) = false ->
 R (vb true) m1))
theorem qib (decls list : Sl) (m : Mem) (R : Value -> Mem -> Prop) (hvc : qm3 decls list m R) : q00 Tryz.prog q5l [Sl.v decls, Sl.v list] m R :=
 vcs (A := ⟨[], [(2, [(9, .I)])], [], []⟩) (n := 18) (rs := [.tmp 4]) (args := [.c (.s decls), .c (.s list)]) (c := q05 Tryz.f198) Tryz.func198 hvc
def qoq (decls : Sl) (t : Int) (m : Mem) (R : Value -> Mem -> Prop) : Prop :=
 ((decide (t ≥ 0)) = true ->
 R (vb (decide (t <= (decls.len : Int)))) m) /\
 ((decide (t ≥ 0)) = false ->
 R (vb false) m)
theorem qky (decls : Sl) (t : Int) (m : Mem) (R : Value -> Mem -> Prop) (hvc : qoq decls t m R) : q00 Tryz.prog q46 [Sl.v decls, vi t] m R :=
 vcs (A := ⟨[], [], [], []⟩) (n := 13) (rs := [.tmp 4]) (args := [.c (.s decls), .c (.i t)]) (c := q05 Tryz.f199) Tryz.func199 hvc
def qag (s : Sl) (f : Fn × Array Value × Array Value) (m : Mem) (R : Value -> Mem -> Prop) : Prop :=
 ∃ (I0 : Int -> Mem -> Prop) (μ0 : Int -> Mem -> Nat),
 I0 0 m /\
 (∀ (v8 : Int) (m1 : Mem), I0 v8 m1 ->
 ((decide (v8 < (s.len : Int))) = true ->
 0 <= v8 /\ v8 < (s.len : Int) /\
 ∃ v15 : Int, gcell m1 s.blk (s.off + Int.toNat v8 * 1) = some (vi v15) /\
 ∃ g, f.1 = .func g /\ GL.elem g = true /\
 q00 Tryz.prog g (f.2.1.toList ++ [vi v15] ++ f.2.2.toList) m1 fun r m1_1 =>
 ∃ r16 : Bool, r = vb r16 /\
 (r16 = true ->
 R (vi v8) m1_1) /\
 (r16 = false ->
 I0 (w64 (v8 + 1)) m1_1 /\ μ0 (w64 (v8 + 1)) m1_1 < μ0 v8 m1)) /\
 ((decide (v8 < (s.len : Int))) = false ->
 R (vi (-1)) m1))
theorem q8w (s : Sl) (f : Fn × Array Value × Array Value) (m : Mem) (R : Value -> Mem -> Prop) (hvc : qag s f m R) : q00 Tryz.prog q3d [Sl.v s, .func f.1 f.2.1 f.2.2] m R :=
 vcs (A := ⟨[], [(2, [(8, .I)])], [], []⟩) (n := 19) (rs := [.tmp 4]) (args := [.c (.s s), .c (.fv f)]) (c := q05 Tryz.f200) Tryz.func200 hvc
def qdh (decls : Sl) (c : Int) (m : Mem) (R : Value -> Mem -> Prop) : Prop :=
 q00 Tryz.prog qct [Sl.v decls, vi c] m fun r m1 =>
 ∃ r10 : Int, ∃ r_0 : Sl, r = .tuple #[vi r10, .agg #[Sl.v r_0]] /\
 let m1_1 : Mem := m1.push (.cells (vals [.s Sl.nil]) 201)
 eqT m1.size m1.size (
 let m1_2 : Mem := scells m1_1 m1.size 0 [.s r_0]
 eqT m1.size m1.size (
 R (Sl.v r_0) m1_2))
theorem qik (decls : Sl) (c : Int) (m : Mem) (R : Value -> Mem -> Prop) (hvc : qdh decls c m R) : q00 Tryz.prog q95 [Sl.v decls, vi c] m R :=
 vcs (A := ⟨[], [], [], []⟩) (n := 15) (rs := [.tmp 4]) (args := [.c (.s decls), .c (.i c)]) (c := q05 Tryz.f201) Tryz.func201 hvc
def qb8 (s : Sl) (v : Int) (m : Mem) (R : Value -> Mem -> Prop) : Prop :=
 q00 Tryz.prog q34 [Sl.v s, vi v] m fun r m1 =>
 ∃ r7 : Int, r = vi r7 /\
 R (vb (decide (r7 ≥ 0))) m1
theorem q9a (s : Sl) (v : Int) (m : Mem) (R : Value -> Mem -> Prop) (hvc : qb8 s v m R) : q00 Tryz.prog q23 [Sl.v s, vi v] m R :=
 vcs (A := ⟨[], [], [], []⟩) (n := 9) (rs := [.tmp 4]) (args := [.c (.s s), .c (.i v)]) (c := q05 Tryz.f202) Tryz.func202 hvc
def qow (h : Sl) (w : Int) (m : Mem) (R : Value -> Mem -> Prop) : Prop :=
 ((decide (w ≥ 1000)) = true ->
 ((decide ((w64 (w - 1000)) < (h.len : Int))) = true ->
 0 <= (w64 (w - 1000)) /\ (w64 (w - 1000)) < (h.len : Int) /\
 ∃ v23 : Int, gcell m h.blk (h.off + Int.toNat (w64 (w - 1000)) * 3) = some (vi v23) /\
 R (.tuple #[vi (w64 (w - 1000)), vb (decide (v23 > 0))]) m) /\
 ((decide ((w64 (w - 1000)) < (h.len : Int))) = false ->
 R (.tuple #[vi (w64 (w - 1000)), vb false]) m)) /\
 ((decide (w ≥ 1000)) = false ->
 R (.tuple #[vi (w64 (w - 1000)), vb false]) m)
theorem ql4 (h : Sl) (w : Int) (m : Mem) (R : Value -> Mem -> Prop) (hvc : qow h w m R) : q00 Tryz.prog q2u [Sl.v h, vi w] m R :=
 vcs (A := ⟨[(2, [0, 0, 2, 4, 8, 8, 40, 88, 136, 264, 512, 512, 3584, 4608, 8704, 16896, 33280, 513, 262143], [0, 0, 2, 6, 14, 14, 46, 126, 254, 510, 1022, 1022, 4094, 8190, 16382, 32766, 65534, 1023, 262143])], [], [], []⟩) (n := 26) (rs := [.tmp 4, .tmp 5]) (args := [.c (.s h), .c (.i w)]) (c := q05 Tryz.f203) Tryz.func203 hvc
def qkl (n : Int) (m : Mem) (R : Value -> Mem -> Prop) : Prop :=
 R (vb (n != 0)) m
theorem qh9 (n : Int) (m : Mem) (R : Value -> Mem -> Prop) (hvc : qkl n m R) : q00 Tryz.prog q7r [vi n] m R :=
 vcs (A := ⟨[], [], [], []⟩) (n := 5) (rs := [.tmp 2]) (args := [.c (.i n)]) (c := q05 Tryz.f204) Tryz.func204 hvc
def q65 (m0 : Nat × Nat) (c_0 c_1 : Int) (c_2 : Sl) (m : Mem) (R : Value -> Mem -> Prop) : Prop :=
 let m1 : Mem := m.push (.cells (vals [.i c_0, .i c_1, .s c_2]) 149)
 eqT m.size m.size (
 ((c_0 == 1) = true ->
 R (vb true) m1) /\
 ((c_0 == 1) = false ->
 let m1_1 : Mem := m1.push (.map #[] 0)
 eqT m.size m.size (
 ∃ (I0 : Int -> Mem -> Prop) (μ0 : Int -> Mem -> Nat),
 I0 0 m1_1 /\
 (∀ (v17 : Int) (m1_2 : Mem), I0 v17 m1_2 ->
 ((decide (v17 < (c_2.len : Int))) = true ->
 0 <= v17 /\ v17 < (c_2.len : Int) /\
 ∃ v20 : Int, gcell m1_2 c_2.blk (c_2.off + Int.toNat v17 * 1) = some (vi v20) /\
 ∃ v26 : Sl, gcell m1_2 m0.1 (m0.2 + 3 + 5) = some (Sl.v v26) /\
 q00 Tryz.prog q2u [Sl.v v26, vi v20] m1_2 fun r m1_3 =>
 Sam [m.size] m1_2 m1_3 /\
 ∃ r28 : Int, ∃ r28_1 : Bool, r = .tuple #[vi r28, vb r28_1] /\
 (r28_1 = true ->
 ∃ l, mapOf m1_3 m1.size l /\
 ∃ l_1, mapOf m1_3 m1.size l_1 /\
 ∀ m1_4 : Mem, mapOf m1_4 m1.size (mput l_1 r28 (w64 ((mget l r28) + 1))) -> m1_4.size = m1_3.size -> (∀ j, j ≠ m1.size -> m1_4[j]? = m1_3[j]?) ->
 Sam [m.size] m1_3 m1_4 /\
 ∃ v40 : Sl, gcell m1_4 m0.1 (m0.2 + 3 + 5) = some (Sl.v v40) /\
 0 <= r28 /\ r28 < (v40.len : Int) /\
 ∃ v44 : Int, gcell m1_4 v40.blk (v40.off + Int.toNat r28 * 3) = some (vi v44) /\
 ∃ l_2, mapOf m1_4 m1.size l_2 /\
 gcell m1_4 v40.blk (v40.off + Int.toNat r28 * 3) = gcell m1_4 v40.blk (v40.off + Int.toNat r28 * 3) /\
 gcell m1_4 m0.1 (m0.2 + 3 + 5) = gcell m1_4 m0.1 (m0.2 + 3 + 5) /\
 ((decide ((w64 (v44 + (mget l_2 r28))) > 999999)) = true ->
 R (vb false) m1_4) /\
 ((decide ((w64 (v44 + (mget l_2 r28))) > 999999)) = false ->
 eqS (SV.box m.size 149 [.i c_0, .i c_1, .s c_2]) (SV.box m.size 149 [.i c_0, .i c_1, .s c_2]) (
 I0 (w64 (v17 + 1)) m1_4 /\ μ0 (w64 (v17 + 1)) m1_4 < μ0 v17 m1_2))) /\
 (r28_1 = false ->
 eqS (SV.box m.size 149 [.i c_0, .i c_1, .s c_2]) (SV.box m.size 149 [.i c_0, .i c_1, .s c_2]) (
 I0 (w64 (v17 + 1)) m1_3 /\ μ0 (w64 (v17 + 1)) m1_3 < μ0 v17 m1_2))) /\
 ((decide (v17 < (c_2.len : Int))) = false ->
 R (vb true) m1_2)))))
theorem qae (m0 : Nat × Nat) (c_0 c_1 : Int) (c_2 : Sl) (m : Mem) (R : Value -> Mem -> Prop) (hvc : q65 m0 c_0 c_1 c_2 m R) : q00 Tryz.prog q1s [vp m0.1 m0.2, .agg #[vi c_0, vi c_1, Sl.v c_2]] m R :=
 vcs (A := ⟨[(10, [0, 1, 2, 4, 8, 0, 48, 64, 128, 0, 0, 1536, 2304, 4096], [0, 1, 3, 7, 15, 0, 63, 127, 255, 0, 0, 1536, 4095, 8191])], [(5, [(17, .I)])], [], [(5, [54])]⟩) (n := 51) (rs := [.tmp 4]) (args := [.c (.p m0.1 m0.2), .agg [.i c_0, .i c_1, .s c_2]]) (c := q05 Tryz.f205) Tryz.func205 hvc
def qdr (s1 s2 : Sl) (m : Mem) (R : Value -> Mem -> Prop) : Prop :=
 (((s1.len : Int) != (s2.len : Int)) = true ->
 R (vb false) m) /\
 (((s1.len : Int) != (s2.len : Int)) = false ->
 ∃ (I0 : Int -> Mem -> Prop) (μ0 : Int -> Mem -> Nat),
 I0 0 m /\
 (∀ (v13 : Int) (m1 : Mem), I0 v13 m1 ->
 ((decide (v13 < (s1.len : Int))) = true ->
 0 <= v13 /\ v13 < (s1.len : Int) /\
 ∃ v19 : Int, gcell m1 s1.blk (s1.off + Int.toNat v13 * 1) = some (vi v19) /\
 0 <= v13 /\ v13 < (s2.len : Int) /\
 ∃ v23 : Int, gcell m1 s2.blk (s2.off + Int.toNat v13 * 1) = some (vi v23) /\
 ((v19 != v23) = true ->
 R (vb false) m1) /\
 ((v19 != v23) = false ->
 I0 (w64 (v13 + 1)) m1 /\ μ0 (w64 (v13 + 1)) m1 < μ0 v13 m1)) /\
 ((decide (v13 < (s1.len : Int))) = false ->
 R (vb true) m1)))
theorem qbk (s1 s2 : Sl) (m : Mem) (R : Value -> Mem -> Prop) (hvc : qdr s1 s2 m R) : q00 Tryz.prog q4c [Sl.v s1, Sl.v s2] m R :=
 vcs (A := ⟨[(6, [0, 0, 3, 4, 0, 0, 48, 64, 136], [0, 0, 3, 7, 0, 0, 48, 112, 255])], [(4, [(13, .I)])], [], []⟩) (n := 26) (rs := [.tmp 4]) (args := [.c (.s s1), .c (.s s2)]) (c := q05 Tryz.f206) Tryz.func206 hvc
def qan (words : Sl) (m : Mem) (R : Value -> Mem -> Prop) : Prop :=
 ∃ (I0 : Sl -> Int -> Mem -> Prop) (μ0 : Sl -> Int -> Mem -> Nat),
 I0 Sl.nil 0 m /\
 (∀ (list : Sl) (v8 : Int) (m1 : Mem), I0 list v8 m1 ->
 ((decide (v8 < (words.len : Int))) = true ->
 0 <= v8 /\ v8 < (words.len : Int) /\
 ∃ v11 : Int, gcell m1 words.blk (words.off + Int.toNat v8 * 1) = some (vi v11) /\
 ((decide (v11 ≥ 1000)) = true ->
 let m1_1 : Mem := m1.push (.cells (vals [.i v11]) 3)
 appC m1_1 3 [.i 0] 8 list (Sl.mk m1.size 0 1 1) fun r17 m1_2 =>
 I0 r17 (w64 (v8 + 1)) m1_2 /\ μ0 r17 (w64 (v8 + 1)) m1_2 < μ0 list v8 m1) /\
 ((decide (v11 ≥ 1000)) = false ->
 I0 list (w64 (v8 + 1)) m1 /\ μ0 list (w64 (v8 + 1)) m1 < μ0 list v8 m1)) /\
 ((decide (v8 < (words.len : Int))) = false ->
 R (Sl.v list) m1))
theorem qfw (words : Sl) (m : Mem) (R : Value -> Mem -> Prop) (hvc : qan words m R) : q00 Tryz.prog q72 [Sl.v words] m R :=
 vcs (A := ⟨[], [(3, [(3, .S), (8, .I)])], [], []⟩) (n := 20) (rs := [.tmp 2]) (args := [.c (.s words)]) (c := q05 Tryz.f207) Tryz.func207 hvc
def qjb (op a b : Int) (m : Mem) (R : Value -> Mem -> Prop) : Prop :=
 ((decide (a < (-999))) = true ->
 R (vi 0) m) /\
 ((decide (a < (-999))) = false ->
 ((decide (a > 999)) = true ->
 R (vi 0) m) /\
 ((decide (a > 999)) = false ->
 ((decide (b < (-999))) = true ->
 R (vi 0) m) /\
 ((decide (b < (-999))) = false ->
 ((decide (b > 999)) = true ->
 R (vi 0) m) /\
 ((decide (b > 999)) = false ->
 ((op == 1) = true ->
 R (vi (if 999 < (if (-999) > (w64 (a + b)) then (-999) else (w64 (a + b))) then 999 else (if (-999) > (w64 (a + b)) then (-999) else (w64 (a + b))))) m) /\
 ((op == 1) = false ->
 ((op == 2) = true ->
 R (vi (if 999 < (if (-999) > (w64 (a - b)) then (-999) else (w64 (a - b))) then 999 else (if (-999) > (w64 (a - b)) then (-999) else (w64 (a - b))))) m) /\
 ((op == 2) = false ->
 ((op == 3) = true ->
 R (vi (if 999 < (if (-999) > (w64 (a * b)) then (-999) else (w64 (a * b))) then 999 else (if (-999) > (w64 (a * b)) then (-999) else (w64 (a * b))))) m) /\
 ((op == 3) = false ->
 ((op == 4) = true ->
 ((decide (a < b)) = true ->
 R (vi (if 999 < (if (-999) > 1 then (-999) else 1) then 999 else (if (-999) > 1 then (-999) else 1))) m) /\
 ((decide (a < b)) = false ->
 R (vi (if 999 < (if (-999) > 0 then (-999) else 0) then 999 else (if (-999) > 0 then (-999) else 0))) m)) /\
 ((op == 4) = false ->
 R (vi (if 999 < (if (-999) > 0 then (-999) else 0) then 999 else (if (-999) > 0 then (-999) else 0))) m))))))))
theorem qoh (op a b : Int) (m : Mem) (R : Value -> Mem -> Prop) (hvc : qjb op a b m R) : q00 Tryz.prog qf2 [vi op, vi a, vi b] m R :=
 vcs (A := ⟨[], [], [], []⟩) (n := 46) (rs := [.tmp 6]) (args := [.c (.i op), .c (.i a), .c (.i b)]) (c := q05 Tryz.f208) Tryz.func208 hvc
def qal (h : Nat × Nat) (tag : Int) (fields : Sl) (m : Mem) (R : Value -> Mem -> Prop) : Prop :=
 q00 Tryz.prog q1x [Sl.v fields] m fun r m1 =>
 ∃ r11 : Sl, r = Sl.v r11 /\
 let m1_1 : Mem := m1.push (.cells (vals [.i 0, .i 0, .s Sl.nil]) 149)
 eqT m1.size m1.size (
 let m1_2 : Mem := scells m1_1 m1.size 0 [.i 1, .i tag, .s r11]
 ∃ v15 : Sl, gcell m1_2 h.1 h.2 = some (Sl.v v15) /\
 q00 Tryz.prog q1z [Sl.v v15, .func (.func q2c) #[] #[]] m1_2 fun r_1 m1_3 =>
 Sam [m1.size] m1_2 m1_3 /\
 ∃ r16 : Int, r_1 = vi r16 /\
 ((decide (r16 < 0)) = true ->
 ∃ v21 : Sl, gcell m1_3 h.1 h.2 = some (Sl.v v21) /\
 ∃ v26 : Sl, gcell m1_3 h.1 h.2 = some (Sl.v v26) /\
 eqT m1.size m1.size (
 let m1_4 : Mem := m1_3.push (.cells (vals [.i 1, .i tag, .s r11]) 149)
 gcell m1_4 h.1 h.2 = gcell m1_3 h.1 h.2 /\
 appC m1_4 149 [.i 0, .i 0, .s Sl.nil] 40 v26 (Sl.mk m1_3.size 0 1 1) fun r29 m1_5 =>
 Sam [m1.size] m1_4 m1_5 /\
 wrOk m1_5 h.1 h.2 1 /\
 let m1_6 : Mem := scells m1_5 h.1 h.2 [.s r29]
 Sam [m1.size] m1_5 m1_6 /\
 R (vi (w64 (1000 + (v21.len : Int)))) m1_6)) /\
 ((decide (r16 < 0)) = false ->
 ∃ v33 : Sl, gcell m1_3 h.1 h.2 = some (Sl.v v33) /\
 eqT m1.size m1.size (
 0 <= r16 /\ r16 < (v33.len : Int) /\
 wrOk m1_3 v33.blk (v33.off + Int.toNat r16 * 3) 3 /\
 let m1_7 : Mem := scells m1_3 v33.blk (v33.off + Int.toNat r16 * 3) [.i 1, .i tag, .s r11]
 Sam [m1.size] m1_3 m1_7 /\
 R (vi (w64 (1000 + r16))) m1_7)))
theorem qg5 (h : Nat × Nat) (tag : Int) (fields : Sl) (m : Mem) (R : Value -> Mem -> Prop) (hvc : qal h tag fields m R) : q00 Tryz.prog q74 [vp h.1 h.2, vi tag, Sl.v fields] m R :=
 vcs (A := ⟨[(5, [0, 0, 2, 4, 0, 16, 40, 127, 255], [0, 0, 2, 6, 0, 16, 62, 127, 255]), (6, [0, 1, 2, 0, 0, 31, 63], [0, 1, 3, 0, 0, 31, 63])], [], [], []⟩) (n := 39) (rs := [.tmp 6]) (args := [.c (.p h.1 h.2), .c (.i tag), .c (.s fields)]) (c := q05 Tryz.f209) Tryz.func209 hvc
def qkk (h : Nat × Nat) (m : Mem) (R : Value -> Mem -> Prop) : Prop :=
 ∃ v5 : Sl, gcell m h.1 h.2 = some (Sl.v v5) /\
 ∃ (I0 : Int -> Mem -> Prop) (μ0 : Int -> Mem -> Nat),
 I0 (v5.len : Int) m /\
 (∀ (n : Int) (m1 : Mem), I0 n m1 ->
 ((decide (n > 0)) = true ->
 ∃ v12 : Sl, gcell m1 h.1 h.2 = some (Sl.v v12) /\
 0 <= (w64 (n - 1)) /\ (w64 (n - 1)) < (v12.len : Int) /\
 ∃ v17 : Int, gcell m1 v12.blk (v12.off + Int.toNat (w64 (n - 1)) * 3) = some (vi v17) /\
 ((v17 == 0) = true ->
 I0 (w64 (n - 1)) m1 /\ μ0 (w64 (n - 1)) m1 < μ0 n m1) /\
 ((v17 == 0) = false ->
 ∃ v25 : Sl, gcell m1 h.1 h.2 = some (Sl.v v25) /\
 (0 : Int) <= (0 : Int) /\ 0 <= n /\ n <= (v25.cap : Int) /\
 wrOk m1 h.1 h.2 1 /\
 let m1_1 : Mem := scells m1 h.1 h.2 [.s (Sl.cut v25 (Int.toNat 0) (Int.toNat n) 3)]
 R (.tuple #[]) m1_1)) /\
 ((decide (n > 0)) = false ->
 ∃ v25_1 : Sl, gcell m1 h.1 h.2 = some (Sl.v v25_1) /\
 (0 : Int) <= (0 : Int) /\ 0 <= n /\ n <= (v25_1.cap : Int) /\
 wrOk m1 h.1 h.2 1 /\
 let m1_2 : Mem := scells m1 h.1 h.2 [.s (Sl.cut v25_1 (Int.toNat 0) (Int.toNat n) 3)]
 R (.tuple #[]) m1_2))
theorem qh7 (h : Nat × Nat) (m : Mem) (R : Value -> Mem -> Prop) (hvc : qkk h m R) : q00 Tryz.prog q52 [vp h.1 h.2] m R :=
 vcs (A := ⟨[], [(1, [(2, .I)])], [], []⟩) (n := 29) (rs := []) (args := [.c (.p h.1 h.2)]) (c := q05 Tryz.f210) Tryz.func210 hvc
def qi2 (a_0 b_0 : Sl) (m : Mem) (R : Value -> Mem -> Prop) : Prop :=
 let m1 : Mem := m.push (.cells (vals [.s a_0]) 201)
 let m1_1 : Mem := m1.push (.cells (vals [.s b_0]) 201)
 eqT m.size m.size (
 eqT m1.size m1.size (
 q00 Tryz.prog q3g [Sl.v a_0, Sl.v b_0] m1_1 fun r m1_2 =>
 Sam [m1.size, m.size] m1_1 m1_2 /\
 ∃ r9 : Bool, r = vb r9 /\
 ((!r9) = true ->
 R (vb false) m1_2) /\
 ((!r9) = false ->
 R (vb true) m1_2)))
theorem qmc (a_0 b_0 : Sl) (m : Mem) (R : Value -> Mem -> Prop) (hvc : qi2 a_0 b_0 m R) : q00 Tryz.prog qdo [.agg #[Sl.v a_0], .agg #[Sl.v b_0]] m R :=
 vcs (A := ⟨[], [], [], []⟩) (n := 11) (rs := [.tmp 4]) (args := [.agg [.s a_0], .agg [.s b_0]]) (c := q05 Tryz.f211) Tryz.func211 hvc
def qe1 (a_0 a_1 a_2 a_3 : Int) (a_4 a_5 : Sl) (b_0 b_1 b_2 b_3 : Int) (b_4 b_5 : Sl) (m : Mem) (R : Value -> Mem -> Prop) : Prop :=
 let m1 : Mem := m.push (.cells (vals [.i a_0, .i a_1, .i a_2, .i a_3, .s a_4, .s a_5]) 86)
 let m1_1 : Mem := m1.push (.cells (vals [.i b_0, .i b_1, .i b_2, .i b_3, .s b_4, .s b_5]) 86)
 eqT m.size m.size (
 eqT m1.size m1.size (
 ((a_0 != b_0) = true ->
 R (vb false) m1_1) /\
 ((a_0 != b_0) = false ->
 eqT m.size m.size (
 eqT m1.size m1.size (
 ((a_1 != b_1) = true ->
 R (vb false) m1_1) /\
 ((a_1 != b_1) = false ->
 eqT m.size m.size (
 eqT m1.size m1.size (
 ((a_2 != b_2) = true ->
 R (vb false) m1_1) /\
 ((a_2 != b_2) = false ->
 eqT m.size m.size (
 eqT m1.size m1.size (
 ((a_3 != b_3) = true ->
 R (vb false) m1_1) /\
 ((a_3 != b_3) = false ->
 eqT m.size m.size (
 eqT m1.size m1.size (
 q00 Tryz.prog q3g [Sl.v a_4, Sl.v b_4] m1_1 fun r m1_2 =>
 Sam [m1.size, m.size] m1_1 m1_2 /\
 ∃ r29 : Bool, r = vb r29 /\
 ((!r29) = true ->
 R (vb false) m1_2) /\
 ((!r29) = false ->
 eqT m.size m.size (
 eqT m1.size m1.size (
 q00 Tryz.prog q3g [Sl.v a_5, Sl.v b_5] m1_2 fun r_1 m1_3 =>
 Sam [m1.size, m.size] m1_2 m1_3 /\
 ∃ r35 : Bool, r_1 = vb r35 /\
 ((!r35) = true ->
 R (vb false) m1_3) /\
 ((!r35) = false ->
 R (vb true) m1_3))))))))))))))))))
theorem qir (a_0 a_1 a_2 a_3 : Int) (a_4 a_5 : Sl) (b_0 b_1 b_2 b_3 : Int) (b_4 b_5 : Sl) (m : Mem) (R : Value -> Mem -> Prop) (hvc : qe1 a_0 a_1 a_2 a_3 a_4 a_5 b_0 b_1 b_2 b_3 b_4 b_5 m R) : q00 Tryz.prog qa7 [.agg #[vi a_0, vi a_1, vi a_2, vi a_3, Sl.v a_4, Sl.v a_5], .agg #[vi b_0, vi b_1, vi b_2, vi b_3, Sl.v b_4, Sl.v b_5]] m R :=
 vcs (A := ⟨[], [], [], []⟩) (n := 37) (rs := [.tmp 4]) (args := [.agg [.i a_0, .i a_1, .i a_2, .i a_3, .s a_4, .s a_5], .agg [.i b_0, .i b_1, .i b_2, .i b_3, .s b_4, .s b_5]]) (c := q05 Tryz.f212) Tryz.func212 hvc
def qnw (op : Int) (m : Mem) (R : Value -> Mem -> Prop) : Prop :=
 q00 Tryz.prog q0n [vi op, vi 0, vi 11] m fun r m1 =>
 ∃ r4 : Bool, r = vb r4 /\
 R (vb r4) m1
theorem qio (op : Int) (m : Mem) (R : Value -> Mem -> Prop) (hvc : qnw op m R) : q00 Tryz.prog q9j [vi op] m R :=
 vcs (A := ⟨[], [], [], []⟩) (n := 5) (rs := [.tmp 2]) (args := [.c (.i op)]) (c := q05 Tryz.f215) Tryz.func215 hvc
def qc8 (m0 : Nat × Nat) (words : Sl) (m : Mem) (R : Value -> Mem -> Prop) : Prop :=
 ∃ (I0 : Int -> Mem -> Prop) (μ0 : Int -> Mem -> Nat),
 I0 0 m /\
 (∀ (k : Int) (m1 : Mem), I0 k m1 ->
 ((decide (k < (words.len : Int))) = true ->
 ∃ (I0_1 : Int -> Int -> Mem -> Prop) (μ0_1 : Int -> Int -> Mem -> Nat),
 I0_1 0 0 m1 /\
 (∀ (many : Int) (j : Int) (m1_1 : Mem), I0_1 many j m1_1 ->
 ((decide (j < (words.len : Int))) = true ->
 0 <= j /\ j < (words.len : Int) /\
 ∃ v23 : Int, gcell m1_1 words.blk (words.off + Int.toNat j * 1) = some (vi v23) /\
 0 <= k /\ k < (words.len : Int) /\
 ∃ v27 : Int, gcell m1_1 words.blk (words.off + Int.toNat k * 1) = some (vi v27) /\
 ((v23 == v27) = true ->
 I0_1 (w64 (many + 1)) (w64 (j + 1)) m1_1 /\ μ0_1 (w64 (many + 1)) (w64 (j + 1)) m1_1 < μ0_1 many j m1_1) /\
 ((v23 == v27) = false ->
 I0_1 many (w64 (j + 1)) m1_1 /\ μ0_1 many (w64 (j + 1)) m1_1 < μ0_1 many j m1_1)) /\
 ((decide (j < (words.len : Int))) = false ->
 0 <= k /\ k < (words.len : Int) /\
 ∃ v35 : Int, gcell m1_1 words.blk (words.off + Int.toNat k * 1) = some (vi v35) /\
 q00 Tryz.prog q0w [vp m0.1 m0.2, vi v35] m1_1 fun r m1_2 =>
 ∃ r_0 : Int, ∃ r_1 : Int, ∃ r_2 : Sl, r = .agg #[vi r_0, vi r_1, Sl.v r_2] /\
 ((decide ((w64 (r_0 + many)) > 999999)) = true ->
 R (vb false) m1_2) /\
 ((decide ((w64 (r_0 + many)) > 999999)) = false ->
 I0 (w64 (k + 1)) m1_2 /\ μ0 (w64 (k + 1)) m1_2 < μ0 k m1)))) /\
 ((decide (k < (words.len : Int))) = false ->
 R (vb true) m1))
theorem q9t (m0 : Nat × Nat) (words : Sl) (m : Mem) (R : Value -> Mem -> Prop) (hvc : qc8 m0 words m R) : q00 Tryz.prog q2p [vp m0.1 m0.2, Sl.v words] m R :=
 vcs (A := ⟨[(8, [0, 0, 3, 4, 0, 0, 48, 64, 136], [0, 0, 3, 7, 0, 0, 48, 112, 255])], [(2, [(5, .I)]), (6, [(6, .I), (7, .I)])], [], []⟩) (n := 41) (rs := [.tmp 4]) (args := [.c (.p m0.1 m0.2), .c (.s words)]) (c := q05 Tryz.f216) Tryz.func216 hvc
def qai (words : Sl) (m : Mem) (R : Value -> Mem -> Prop) : Prop :=
 let m1 : Mem := m.push (.cells (vals []) 3)
 ∃ (I0 : Sl -> Int -> Mem -> Prop) (μ0 : Sl -> Int -> Mem -> Nat),
 I0 (Sl.mk m.size 0 0 0) 0 m1 /\
 (∀ (out : Sl) (i : Int) (m1_1 : Mem), I0 out i m1_1 ->
 ((decide (i < (words.len : Int))) = true ->
 0 <= i /\ i < (words.len : Int) /\
 ∃ v15 : Int, gcell m1_1 words.blk (words.off + Int.toNat i * 1) = some (vi v15) /\
 q00 Tryz.prog q1h [vi v15] m1_1 fun r m1_2 =>
 ∃ r16 : Bool, r = vb r16 /\
 (r16 = true ->
 0 <= i /\ i < (words.len : Int) /\
 ∃ v21 : Int, gcell m1_2 words.blk (words.off + Int.toNat i * 1) = some (vi v21) /\
 let m1_3 : Mem := m1_2.push (.cells (vals [.i v21]) 3)
 appC m1_3 3 [.i 0] 8 out (Sl.mk m1_2.size 0 1 1) fun r23 m1_4 =>
 I0 r23 (w64 (i + 1)) m1_4 /\ μ0 r23 (w64 (i + 1)) m1_4 < μ0 out i m1_1) /\
 (r16 = false ->
 I0 out (w64 (i + 1)) m1_2 /\ μ0 out (w64 (i + 1)) m1_2 < μ0 out i m1_1)) /\
 ((decide (i < (words.len : Int))) = false ->
 R (Sl.v out) m1_1))
theorem qgb (words : Sl) (m : Mem) (R : Value -> Mem -> Prop) (hvc : qai words m R) : q00 Tryz.prog q3m [Sl.v words] m R :=
 vcs (A := ⟨[], [(3, [(3, .S), (4, .I)])], [], []⟩) (n := 25) (rs := [.tmp 2]) (args := [.c (.s words)]) (c := q05 Tryz.f217) Tryz.func217 hvc
def qmx (a b : Sl) (m : Mem) (R : Value -> Mem -> Prop) : Prop :=
 (((a.len : Int) != (b.len : Int)) = true ->
 R (vb false) m) /\
 (((a.len : Int) != (b.len : Int)) = false ->
 ∃ (I0 : Int -> Mem -> Prop) (μ0 : Int -> Mem -> Nat),
 I0 0 m /\
 (∀ (i : Int) (m1 : Mem), I0 i m1 ->
 ((decide (i < (a.len : Int))) = true ->
 0 <= i /\ i < (a.len : Int) /\
 ∃ v20 : Int, gcell m1 a.blk (a.off + Int.toNat i * 1) = some (vi v20) /\
 0 <= i /\ i < (b.len : Int) /\
 ∃ v24 : Int, gcell m1 b.blk (b.off + Int.toNat i * 1) = some (vi v24) /\
 ((v20 != v24) = true ->
 R (vb false) m1) /\
 ((v20 != v24) = false ->
 I0 (w64 (i + 1)) m1 /\ μ0 (w64 (i + 1)) m1 < μ0 i m1)) /\
 ((decide (i < (a.len : Int))) = false ->
 R (vb true) m1)))
theorem qi5 (a b : Sl) (m : Mem) (R : Value -> Mem -> Prop) (hvc : qmx a b m R) : q00 Tryz.prog q91 [Sl.v a, Sl.v b] m R :=
 vcs (A := ⟨[(6, [0, 0, 3, 4, 0, 0, 48, 64, 136], [0, 0, 3, 7, 0, 0, 48, 112, 255])], [(4, [(5, .I)])], [], []⟩) (n := 26) (rs := [.tmp 4]) (args := [.c (.s a), .c (.s b)]) (c := q05 Tryz.f218) Tryz.func218 hvc
end
section
set_option linter.unusedVariables false
set_option maxRecDepth 100000
def qef (f_0 f_1 f_2 : Int) (f_3 f_4 f_5 regs : Sl) (m : Mem) (R : Value -> Mem -> Prop) : Prop :=
 let m1 : Mem := m.push (.cells (vals [.i f_0, .i f_1, .i f_2, .s f_3, .s f_4, .s f_5]) 84)
 let m1_1 : Mem := m1.push (.cells (vals []) 3)
 ∃ (I0 : Sl -> Int -> Mem -> Prop) (μ0 : Sl -> Int -> Mem -> Nat),
 I0 (Sl.mk m1.size 0 0 0) 0 m1_1 /\
 (∀ (out : Sl) (k : Int) (m1_2 : Mem), I0 out k m1_2 ->
 ((decide (k < (regs.len : Int))) = true ->
 eqT m.size m.size (
 0 <= k /\ k < (regs.len : Int) /\
 ∃ v20 : Int, gcell m1_2 regs.blk (regs.off + Int.toNat k * 1) = some (vi v20) /\
 0 <= v20 /\ v20 < (f_3.len : Int) /\
 ∃ v22 : Int, gcell m1_2 f_3.blk (f_3.off + Int.toNat v20 * 1) = some (vi v22) /\
 let m1_3 : Mem := m1_2.push (.cells (vals [.i v22]) 3)
 appC m1_3 3 [.i 0] 8 out (Sl.mk m1_2.size 0 1 1) fun r24 m1_4 =>
 Sam [m.size] m1_3 m1_4 /\
 eqS (SV.box m.size 84 [.i f_0, .i f_1, .i f_2, .s f_3, .s f_4, .s f_5]) (SV.box m.size 84 [.i f_0, .i f_1, .i f_2, .s f_3, .s f_4, .s f_5]) (
 I0 r24 (w64 (k + 1)) m1_4 /\ μ0 r24 (w64 (k + 1)) m1_4 < μ0 out k m1_2))) /\
 ((decide (k < (regs.len : Int))) = false ->
 R (Sl.v out) m1_2))
theorem qk8 (f_0 f_1 f_2 : Int) (f_3 f_4 f_5 regs : Sl) (m : Mem) (R : Value -> Mem -> Prop) (hvc : qef f_0 f_1 f_2 f_3 f_4 f_5 regs m R) : q00 Tryz.prog q4n [.agg #[vi f_0, vi f_1, vi f_2, Sl.v f_3, Sl.v f_4, Sl.v f_5], Sl.v regs] m R :=
 vcs (A := ⟨[(5, [0, 0, 2, 0, 0, 24, 32, 68, 128, 256, 513, 2047], [0, 0, 2, 0, 0, 24, 56, 126, 254, 510, 1023, 2047])], [(3, [(5, .S), (6, .I)])], [], [(3, [28])]⟩) (n := 26) (rs := [.tmp 4]) (args := [.agg [.i f_0, .i f_1, .i f_2, .s f_3, .s f_4, .s f_5], .c (.s regs)]) (c := q05 Tryz.f219) Tryz.func219 hvc
def qq4 (n : Int) (m : Mem) (R : Value -> Mem -> Prop) : Prop :=
 R (vi (if (if n < 999 then n else 999) > (-999) then (if n < 999 then n else 999) else (-999))) m
theorem qmo (n : Int) (m : Mem) (R : Value -> Mem -> Prop) (hvc : qq4 n m R) : q00 Tryz.prog q5x [vi n] m R :=
 vcs (A := ⟨[], [], [], []⟩) (n := 6) (rs := [.tmp 2]) (args := [.c (.i n)]) (c := q05 Tryz.f220) Tryz.func220 hvc
def qli (h : Sl) (m : Mem) (R : Value -> Mem -> Prop) : Prop :=
 ∃ (I0 : Int -> Mem -> Prop) (μ0 : Int -> Mem -> Nat),
 I0 0 m /\
 (∀ (i : Int) (m1 : Mem), I0 i m1 ->
 ((decide (i < (h.len : Int))) = true ->
 0 <= i /\ i < (h.len : Int) /\
 ∃ v14 : Int, gcell m1 h.blk (h.off + Int.toNat i * 3) = some (vi v14) /\
 ((v14 == 0) = true ->
 R (vi i) m1) /\
 ((v14 == 0) = false ->
 I0 (w64 (i + 1)) m1 /\ μ0 (w64 (i + 1)) m1 < μ0 i m1)) /\
 ((decide (i < (h.len : Int))) = false ->
 R (vi (h.len : Int)) m1))
theorem qgw (h : Sl) (m : Mem) (R : Value -> Mem -> Prop) (hvc : qli h m R) : q00 Tryz.prog q7w [Sl.v h] m R :=
 vcs (A := ⟨[], [(2, [(3, .I)])], [], []⟩) (n := 19) (rs := [.tmp 2]) (args := [.c (.s h)]) (c := q05 Tryz.f221) Tryz.func221 hvc
def qhr (h : Sl) (at0 tag : Int) (fields : Sl) (m : Mem) (R : Value -> Mem -> Prop) : Prop :=
 q00 Tryz.prog q3b [Sl.v fields] m fun r m1 =>
 ∃ r12 : Sl, r = Sl.v r12 /\
 let m1_1 : Mem := m1.push (.cells (vals [.i 0, .i 0, .s Sl.nil]) 149)
 eqT m1.size m1.size (
 let m1_2 : Mem := scells m1_1 m1.size 0 [.i 1, .i tag, .s r12]
 ((at0 == (h.len : Int)) = true ->
 eqT m1.size m1.size (
 let m1_3 : Mem := m1_2.push (.cells (vals [.i 1, .i tag, .s r12]) 149)
 appC m1_3 149 [.i 0, .i 0, .s Sl.nil] 40 h (Sl.mk m1_2.size 0 1 1) fun r21 m1_4 =>
 Sam [m1.size] m1_3 m1_4 /\
 R (Sl.v r21) m1_4)) /\
 ((at0 == (h.len : Int)) = false ->
 eqT m1.size m1.size (
 0 <= at0 /\ at0 < (h.len : Int) /\
 wrOk m1_2 h.blk (h.off + Int.toNat at0 * 3) 3 /\
 let m1_5 : Mem := scells m1_2 h.blk (h.off + Int.toNat at0 * 3) [.i 1, .i tag, .s r12]
 Sam [m1.size] m1_2 m1_5 /\
 R (Sl.v h) m1_5)))
theorem qme (h : Sl) (at0 tag : Int) (fields : Sl) (m : Mem) (R : Value -> Mem -> Prop) (hvc : qhr h at0 tag fields m R) : q00 Tryz.prog qck [Sl.v h, vi at0, vi tag, Sl.v fields] m R :=
 vcs (A := ⟨[], [], [], []⟩) (n := 27) (rs := [.tmp 8]) (args := [.c (.s h), .c (.i at0), .c (.i tag), .c (.s fields)]) (c := q05 Tryz.f222) Tryz.func222 hvc
def qor (list more : Sl) (m : Mem) (R : Value -> Mem -> Prop) : Prop :=
 q00 Tryz.prog q3b [Sl.v list] m fun r m1 =>
 ∃ r6 : Sl, r = Sl.v r6 /\
 appC m1 3 [.i 0] 8 r6 more fun r8 m1_1 =>
 R (Sl.v r8) m1_1
theorem qkr (list more : Sl) (m : Mem) (R : Value -> Mem -> Prop) (hvc : qor list more m R) : q00 Tryz.prog qbf [Sl.v list, Sl.v more] m R :=
 vcs (A := ⟨[], [], [], []⟩) (n := 9) (rs := [.tmp 4]) (args := [.c (.s list), .c (.s more)]) (c := q05 Tryz.f223) Tryz.func223 hvc
def q7b (m0 : Nat × Nat) (w : Int) (m : Mem) (R : Value -> Mem -> Prop) : Prop :=
 ∃ v12 : Sl, gcell m m0.1 (m0.2 + 2 + 5) = some (Sl.v v12) /\
 0 <= (w64 (w - 1000)) /\ (w64 (w - 1000)) < (v12.len : Int) /\
 ∃ v16 : Int, gcell m v12.blk (v12.off + Int.toNat (w64 (w - 1000)) * 3) = some (vi v16) /\
 ((v16 == 1) = true ->
 R (vb true) m) /\
 ((v16 == 1) = false ->
 ∃ v22 : Sl, gcell m m0.1 (m0.2 + 2 + 5) = some (Sl.v v22) /\
 ∃ v28 : Sl, gcell m m0.1 (m0.2 + 2 + 5) = some (Sl.v v28) /\
 0 <= (w64 (w - 1000)) /\ (w64 (w - 1000)) < (v28.len : Int) /\
 ∃ v32 : Int, gcell m v28.blk (v28.off + Int.toNat (w64 (w - 1000)) * 3) = some (vi v32) /\
 0 <= (w64 (w - 1000)) /\ (w64 (w - 1000)) < (v22.len : Int) /\
 wrOk m v22.blk (v22.off + Int.toNat (w64 (w - 1000)) * 3) 1 /\
 let m1 : Mem := scells m v22.blk (v22.off + Int.toNat (w64 (w - 1000)) * 3) [.i (w64 (v32 - 1))]
 ∃ v41 : Sl, gcell m1 m0.1 (m0.2 + 2 + 5) = some (Sl.v v41) /\
 0 <= (w64 (w - 1000)) /\ (w64 (w - 1000)) < (v41.len : Int) /\
 ∃ v45 : Sl, gcell m1 v41.blk (v41.off + Int.toNat (w64 (w - 1000)) * 3 + 2) = some (Sl.v v45) /\
 q00 Tryz.prog q3m [Sl.v v45] m1 fun r m1_1 =>
 ∃ r46 : Sl, r = Sl.v r46 /\
 q00 Tryz.prog q3p [vp m0.1 m0.2, Sl.v r46] m1_1 fun r_1 m1_2 =>
 R (vb false) m1_2)
theorem qc1 (m0 : Nat × Nat) (w : Int) (m : Mem) (R : Value -> Mem -> Prop) (hvc : q7b m0 w m R) : q00 Tryz.prog q3a [vp m0.1 m0.2, vi w] m R :=
 vcs (A := ⟨[(4, [0, 1, 2, 4, 8, 0, 0, 64, 128, 256, 512, 0, 3072, 4096, 8192, 16384, 65535, 131071, 196607], [0, 1, 3, 7, 15, 0, 0, 64, 192, 448, 960, 0, 4032, 8128, 16320, 32704, 65535, 131071, 262143])], [], [], []⟩) (n := 48) (rs := [.tmp 4]) (args := [.c (.p m0.1 m0.2), .c (.i w)]) (c := q05 Tryz.f224) Tryz.func224 hvc
def qqu (h : Sl) (m : Mem) (R : Value -> Mem -> Prop) : Prop :=
 ∃ (I0 : Int -> Mem -> Prop) (μ0 : Int -> Mem -> Nat),
 I0 (h.len : Int) m /\
 (∀ (n : Int) (m1 : Mem), I0 n m1 ->
 ((decide (n > 0)) = true ->
 0 <= (w64 (n - 1)) /\ (w64 (n - 1)) < (h.len : Int) /\
 ∃ v14 : Int, gcell m1 h.blk (h.off + Int.toNat (w64 (n - 1)) * 3) = some (vi v14) /\
 ((v14 == 0) = true ->
 I0 (w64 (n - 1)) m1 /\ μ0 (w64 (n - 1)) m1 < μ0 n m1) /\
 ((v14 == 0) = false ->
 (0 : Int) <= (0 : Int) /\ 0 <= n /\ n <= (h.cap : Int) /\
 R (Sl.v (Sl.cut h (Int.toNat 0) (Int.toNat n) 3)) m1)) /\
 ((decide (n > 0)) = false ->
 (0 : Int) <= (0 : Int) /\ 0 <= n /\ n <= (h.cap : Int) /\
 R (Sl.v (Sl.cut h (Int.toNat 0) (Int.toNat n) 3)) m1))
theorem qny (h : Sl) (m : Mem) (R : Value -> Mem -> Prop) (hvc : qqu h m R) : q00 Tryz.prog q79 [Sl.v h] m R :=
 vcs (A := ⟨[], [(2, [(3, .I)])], [], []⟩) (n := 22) (rs := [.tmp 2]) (args := [.c (.s h)]) (c := q05 Tryz.f225) Tryz.func225 hvc
def q5a (m0 : Nat × Nat) (i_0 i_1 i_2 i_3 : Int) (i_4 i_5 words : Sl) (m : Mem) (R : Value -> Mem -> Prop) : Prop :=
 let m1 : Mem := m.push (.cells (vals [.i i_0, .i i_1, .i i_2, .i i_3, .s i_4, .s i_5]) 86)
 let m1_1 : Mem := m1.push (.cells (vals []) 3)
 ∃ (I0 : Sl -> Int -> Mem -> Prop) (μ0 : Sl -> Int -> Mem -> Nat),
 I0 (Sl.mk m1.size 0 0 0) 0 m1_1 /\
 (∀ (out : Sl) (k : Int) (m1_2 : Mem), I0 out k m1_2 ->
 ((decide (k < (words.len : Int))) = true ->
 0 <= k /\ k < (words.len : Int) /\
 ∃ v19 : Int, gcell m1_2 words.blk (words.off + Int.toNat k * 1) = some (vi v19) /\
 q00 Tryz.prog q1h [vi v19] m1_2 fun r m1_3 =>
 Sam [m.size] m1_2 m1_3 /\
 ∃ r20 : Bool, r = vb r20 /\
 (r20 = true ->
 ∃ v25_0 : Sl, gcell m1_3 m0.1 m0.2 = some (Sl.v v25_0) /\
 ∃ v25_1 : Sl, gcell m1_3 m0.1 (m0.2 + 1) = some (Sl.v v25_1) /\
 eqT m.size m.size (
 q00 Tryz.prog q4l [.agg #[Sl.v v25_0, Sl.v v25_1], .agg #[vi i_0, vi i_1, vi i_2, vi i_3, Sl.v i_4, Sl.v i_5], vi k] m1_3 fun r_1 m1_4 =>
 Sam [m.size] m1_3 m1_4 /\
 ∃ r28 : Bool, r_1 = vb r28 /\
 ((!r28) = true ->
 let m1_5 : Mem := m1_4.push (.cells (vals [.i 1]) 3)
 appC m1_5 3 [.i 0] 8 out (Sl.mk m1_4.size 0 1 1) fun r33 m1_6 =>
 Sam [m.size] m1_5 m1_6 /\
 eqS (SV.box m.size 86 [.i i_0, .i i_1, .i i_2, .i i_3, .s i_4, .s i_5]) (SV.box m.size 86 [.i i_0, .i i_1, .i i_2, .i i_3, .s i_4, .s i_5]) (
 I0 r33 (w64 (k + 1)) m1_6 /\ μ0 r33 (w64 (k + 1)) m1_6 < μ0 out k m1_2)) /\
 ((!r28) = false ->
 let m1_7 : Mem := m1_4.push (.cells (vals [.i 0]) 3)
 appC m1_7 3 [.i 0] 8 out (Sl.mk m1_4.size 0 1 1) fun r36 m1_8 =>
 Sam [m.size] m1_7 m1_8 /\
 eqS (SV.box m.size 86 [.i i_0, .i i_1, .i i_2, .i i_3, .s i_4, .s i_5]) (SV.box m.size 86 [.i i_0, .i i_1, .i i_2, .i i_3, .s i_4, .s i_5]) (
 I0 r36 (w64 (k + 1)) m1_8 /\ μ0 r36 (w64 (k + 1)) m1_8 < μ0 out k m1_2)))) /\
 (r20 = false ->
 let m1_9 : Mem := m1_3.push (.cells (vals [.i 0]) 3)
 appC m1_9 3 [.i 0] 8 out (Sl.mk m1_3.size 0 1 1) fun r36_1 m1_10 =>
 Sam [m.size] m1_9 m1_10 /\
 eqS (SV.box m.size 86 [.i i_0, .i i_1, .i i_2, .i i_3, .s i_4, .s i_5]) (SV.box m.size 86 [.i i_0, .i i_1, .i i_2, .i i_3, .s i_4, .s i_5]) (
 I0 r36_1 (w64 (k + 1)) m1_10 /\ μ0 r36_1 (w64 (k + 1)) m1_10 < μ0 out k m1_2))) /\
 ((decide (k < (words.len : Int))) = false ->
 R (Sl.v out) m1_2))
theorem q9b (m0 : Nat × Nat) (i_0 i_1 i_2 i_3 : Int) (i_4 i_5 words : Sl) (m : Mem) (R : Value -> Mem -> Prop) (hvc : q5a m0 i_0 i_1 i_2 i_3 i_4 i_5 words m R) : q00 Tryz.prog q22 [vp m0.1 m0.2, .agg #[vi i_0, vi i_1, vi i_2, vi i_3, Sl.v i_4, Sl.v i_5], Sl.v words] m R :=
 vcs (A := ⟨[(5, [0, 0, 3, 4, 8, 16, 32, 96, 160, 288, 32, 32, 3616, 4128, 8224], [0, 0, 3, 7, 15, 31, 63, 127, 255, 511, 63, 63, 4095, 8191, 16383])], [(3, [(7, .S), (8, .I)])], [], [(3, [42])]⟩) (n := 38) (rs := [.tmp 6]) (args := [.c (.p m0.1 m0.2), .agg [.i i_0, .i i_1, .i i_2, .i i_3, .s i_4, .s i_5], .c (.s words)]) (c := q05 Tryz.f226) Tryz.func226 hvc
def qhn (decls : Sl) (c : Int) (m : Mem) (R : Value -> Mem -> Prop) : Prop :=
 let m1 : Mem := m.push (.cells (vals [.s Sl.nil]) 201)
 ∃ (I0 : Int -> Int -> Mem -> Prop) (μ0 : Int -> Int -> Mem -> Nat),
 I0 c 0 m1 /\
 (∀ (c_1 : Int) (v10 : Int) (m1_1 : Mem), I0 c_1 v10 m1_1 ->
 ((decide (v10 < (decls.len : Int))) = true ->
 0 <= v10 /\ v10 < (decls.len : Int) /\
 ∃ v14_0 : Int, gcell m1_1 decls.blk (decls.off + Int.toNat v10 * 3) = some (vi v14_0) /\
 ∃ v14_1 : Int, gcell m1_1 decls.blk (decls.off + Int.toNat v10 * 3 + 1) = some (vi v14_1) /\
 ∃ v14_2 : Sl, gcell m1_1 decls.blk (decls.off + Int.toNat v10 * 3 + 2) = some (Sl.v v14_2) /\
 let m1_2 : Mem := m1_1.push (.cells (vals [.i 0, .i 0, .s Sl.nil]) 122)
 eqT m1_1.size m1_1.size (
 let m1_3 : Mem := scells m1_2 m1_1.size 0 [.i v14_0, .i v14_1, .s v14_2]
 ((decide (c_1 ≥ 0)) = true ->
 eqT m1_1.size m1_1.size (
 ((decide (c_1 < (v14_2.len : Int))) = true ->
 eqT m1_1.size m1_1.size (
 0 <= c_1 /\ c_1 < (v14_2.len : Int) /\
 ∃ v30 : Sl, gcell m1_3 v14_2.blk (v14_2.off + Int.toNat c_1 * 1) = some (Sl.v v30) /\
 eqT m.size m.size (
 let m1_4 : Mem := scells m1_3 m.size 0 [.s v30]
 eqT m.size m.size (
 R (.tuple #[vi (w64 (v10 + 1)), .agg #[Sl.v v30]]) m1_4)))) /\
 ((decide (c_1 < (v14_2.len : Int))) = false ->
 eqT m1_1.size m1_1.size (
 eqS (SV.box m.size 201 [.s Sl.nil]) (SV.box m.size 201 [.s Sl.nil]) (
 I0 (w64 (c_1 - (v14_2.len : Int))) (w64 (v10 + 1)) m1_3 /\ μ0 (w64 (c_1 - (v14_2.len : Int))) (w64 (v10 + 1)) m1_3 < μ0 c_1 v10 m1_1))))) /\
 ((decide (c_1 ≥ 0)) = false ->
 eqT m1_1.size m1_1.size (
 eqS (SV.box m.size 201 [.s Sl.nil]) (SV.box m.size 201 [.s Sl.nil]) (
 I0 (w64 (c_1 - (v14_2.len : Int))) (w64 (v10 + 1)) m1_3 /\ μ0 (w64 (c_1 - (v14_2.len : Int))) (w64 (v10 + 1)) m1_3 < μ0 c_1 v10 m1_1))))) /\
 ((decide (v10 < (decls.len : Int))) = false ->
 eqT m.size m.size (
 let m1_5 : Mem := scells m1_1 m.size 0 [.s Sl.nil]
 eqT m.size m.size (
 R (.tuple #[vi (-1), .agg #[Sl.v Sl.nil]]) m1_5))))
theorem qmr (decls : Sl) (c : Int) (m : Mem) (R : Value -> Mem -> Prop) (hvc : qhn decls c m R) : q00 Tryz.prog qct [Sl.v decls, vi c] m R :=
 vcs (A := ⟨[(5, [0, 1, 0, 4, 0, 24, 32, 3, 255], [0, 1, 0, 4, 0, 28, 60, 3, 255])], [(2, [(1, .I), (10, .I)])], [], [(2, [43])]⟩) (n := 38) (rs := [.tmp 4, .cell 5 201]) (args := [.c (.s decls), .c (.i c)]) (c := q05 Tryz.f228) Tryz.func228 hvc
def q5b (s : Sl) (f : Fn × Array Value × Array Value) (m : Mem) (R : Value -> Mem -> Prop) : Prop :=
 ∃ (I0 : Int -> Mem -> Prop) (μ0 : Int -> Mem -> Nat),
 I0 0 m /\
 (∀ (v8 : Int) (m1 : Mem), I0 v8 m1 ->
 ((decide (v8 < (s.len : Int))) = true ->
 0 <= v8 /\ v8 < (s.len : Int) /\
 ∃ v15_0 : Int, gcell m1 s.blk (s.off + Int.toNat v8 * 3) = some (vi v15_0) /\
 ∃ v15_1 : Int, gcell m1 s.blk (s.off + Int.toNat v8 * 3 + 1) = some (vi v15_1) /\
 ∃ v15_2 : Sl, gcell m1 s.blk (s.off + Int.toNat v8 * 3 + 2) = some (Sl.v v15_2) /\
 ∃ g, f.1 = .func g /\ GL.elem g = true /\
 q00 Tryz.prog g (f.2.1.toList ++ [.agg #[vi v15_0, vi v15_1, Sl.v v15_2]] ++ f.2.2.toList) m1 fun r m1_1 =>
 ∃ r16 : Bool, r = vb r16 /\
 (r16 = true ->
 R (vi v8) m1_1) /\
 (r16 = false ->
 I0 (w64 (v8 + 1)) m1_1 /\ μ0 (w64 (v8 + 1)) m1_1 < μ0 v8 m1)) /\
 ((decide (v8 < (s.len : Int))) = false ->
 R (vi (-1)) m1))
theorem q4q (s : Sl) (f : Fn × Array Value × Array Value) (m : Mem) (R : Value -> Mem -> Prop) (hvc : q5b s f m R) : q00 Tryz.prog q1z [Sl.v s, .func f.1 f.2.1 f.2.2] m R :=
 vcs (A := ⟨[], [(2, [(8, .I)])], [], []⟩) (n := 19) (rs := [.tmp 4]) (args := [.c (.s s), .c (.fv f)]) (c := q05 Tryz.f229) Tryz.func229 hvc
def q93 (c_0 c_1 : Int) (c_2 : Sl) (m : Mem) (R : Value -> Mem -> Prop) : Prop :=
 let m1 : Mem := m.push (.cells (vals [.i c_0, .i c_1, .s c_2]) 149)
 eqT m.size m.size (
 R (vb (c_0 == 0)) m1)
theorem qds (c_0 c_1 : Int) (c_2 : Sl) (m : Mem) (R : Value -> Mem -> Prop) (hvc : q93 c_0 c_1 c_2 m R) : q00 Tryz.prog q2c [.agg #[vi c_0, vi c_1, Sl.v c_2]] m R :=
 vcs (A := ⟨[], [], [], []⟩) (n := 6) (rs := [.tmp 2]) (args := [.agg [.i c_0, .i c_1, .s c_2]]) (c := q05 Tryz.f230) Tryz.func230 hvc
end
end Go.Proofs.YtpggcodlaajceaaGreat
section
/- All conditions. -/
end
namespace Go.Proofs.YtpggcodlaajceaaGreat
open Go.Vc
section
theorem q0o (n lo hi : Int) (m : Mem) : q0q Tryz.prog q0n [vi n, vi lo, vi hi] m (lo <= n /\ n <= hi) := by
  apply qjn
  refine ⟨fun h => retB ?_ (Ext.refl _), fun h => retF ?_ (Ext.refl _)⟩ <;> simp at h
  · simp [h]
  · omega
theorem qnu (op : Int) (m : Mem) : q0q Tryz.prog q9j [vi op] m (0 <= op /\ op <= 11) := by
  apply qio
  exact (q0o _ _ _ _).then fun b m1 hb h1 => ⟨_, rfl, retB hb h1⟩
def Sets (op : Int) : Prop := 0 <= op /\ op <= 11 /\ op ≠ 7 /\ op ≠ 8 \/ op = 18 \/ op = 19
theorem qka (op : Int) (m : Mem) : q0q Tryz.prog qac [vi op] m (Sets op) := by
  apply qnc
  refine (qnu _ _).then fun b m1 hb h1 => ⟨_, rfl, fun h => ?_, fun h => ?_⟩
  · have h := hb.1 h
    refine ⟨fun h2 => ⟨fun h3 => retT ?_ h1, fun h3 => ⟨fun h4 => retT ?_ h1, fun h4 => retB ?_ h1⟩⟩, fun h2 => ⟨fun h3 => retT ?_ h1, fun h3 => retB ?_ h1⟩⟩ <;> simp [Sets] at * <;> omega
  · have h := fb hb h
    refine ⟨fun h2 => retT ?_ h1, fun h2 => retB ?_ h1⟩ <;> simp [Sets] at * <;> omega
theorem qkb {m : Mem} {list : Sl} {l : List Int} (hl : q03 m list l) (n : Int) : q0q Tryz.prog q5d [Sl.v list, vi n] m (n ∈ l) := by
  apply qn5
  have hll := hl.len
  refine forI (n := l.length) (hll ▸ hl.lim) (fun k m' => Ext m m' /\ ∀ y ∈ l.take k, y ≠ n) ⟨Ext.refl _, by simp⟩ ?_
  rintro k m1 I μ hk ⟨hx, hn⟩ next
  refine ⟨fun h => ?_, fun h => ?_⟩
  · simp only [decide_eq_true_eq] at h
    obtain ⟨x, hx1⟩ := q02 (l := l) (k := k) (by omega)
    refine ⟨by omega, by omega, x, by simpa using hx.gcell (hl.at' hx1), fun h2 => ?_, fun h2 => ?_⟩
    · simp only [beq_iff_eq] at h2
      exact retT (h2 ▸ q06 hx1) hx
    · simp only [beq_eq_false_iff_ne] at h2
      exact next (by omega) _ ⟨hx, q0l hx1 hn h2⟩
  · simp only [decide_eq_false_iff_not] at h
    exact retF (fun hm => q10 (by omega) hn n hm rfl) hx
def IsTy (n : Nat) (t : Int) : Prop := 0 <= t /\ t <= n
def AllTy (n : Nat) (l : List Int) : Prop := ∀ t ∈ l, IsTy n t
theorem qdc {m : Mem} {list : Sl} {l : List Int} (hl : q03 m list l) (decls : Sl) : q0q Tryz.prog q5q [Sl.v decls, Sl.v list] m (AllTy decls.len l) := by
  apply qif
  have hll := hl.len
  refine forI (n := l.length) (hll ▸ hl.lim) (fun k m' => Ext m m' /\ ∀ t ∈ l.take k, IsTy decls.len t) ⟨Ext.refl _, by simp⟩ ?_
  rintro k m1 I μ hk ⟨hx, hn⟩ next
  refine ⟨fun h => ?_, fun h => ?_⟩
  · simp only [decide_eq_true_eq] at h
    obtain ⟨x, hx1⟩ := q02 (l := l) (k := k) (by omega)
    refine ⟨by omega, by omega, x, by simpa using hx.gcell (hl.at' hx1), ?_⟩
    refine (q0o _ _ _ _).then fun b m2 hb h2 => ⟨_, rfl, fun h => ?_, fun h => ?_⟩
    · exact retF (fun hp => nb hb h (hp x (q06 hx1))) (hx.trans h2)
    · exact next (by omega) _ ⟨hx.trans h2, q0l hx1 hn (yb hb h)⟩
  · simp only [decide_eq_false_iff_not] at h
    exact retT (q10 (by omega) hn) hx
def JumpsOk (l : List Int) (many at0 end0 : Int) : Prop := (l.length : Int) = many /\ ∀ t ∈ l, at0 + 1 <= t /\ t <= end0 - 1
theorem qju {m : Mem} {list : Sl} {l : List Int} (hl : q03 m list l) (many at0 end0 : Int) (h1 : -1 <= at0 /\ at0 < 9223372036854775807) (h2 : 0 <= end0 /\ end0 <= 9223372036854775807) :
    q0q Tryz.prog q71 [Sl.v list, vi many, vi at0, vi end0] m (JumpsOk l many at0 end0) := by
  apply qgc
  unfold qam
  have hll := hl.len
  refine ⟨fun h => ?_, fun h => ?_⟩
  · simp only [bne_iff_ne] at h
    exact retF (fun hp => h (by rw [hll]; exact hp.1)) (Ext.refl _)
  · simp only [bne_eq_false_iff_eq] at h
    have hmany : many = (l.length : Int) := by rw [← h, hll]
    subst hmany
    have e1 : w64 (at0 + 1) = at0 + 1 := q08 (by omega) (by omega)
    have e2 : w64 (end0 - 1) = end0 - 1 := q08 (by omega) (by omega)
    rw [e1, e2]
    refine forI (n := l.length) (hll ▸ hl.lim) (fun k m' => Ext m m' /\ ∀ t ∈ l.take k, at0 + 1 <= t /\ t <= end0 - 1) ⟨Ext.refl _, by simp⟩ ?_
    rintro k m1 I μ hk ⟨hx, hn⟩ next
    refine ⟨fun h => ?_, fun h => ?_⟩
    · simp only [decide_eq_true_eq] at h
      obtain ⟨x, hx1⟩ := q02 (l := l) (k := k) (by omega)
      refine ⟨by omega, by omega, x, by simpa using hx.gcell (hl.at' hx1), ?_⟩
      refine (q0o _ _ _ _).then fun b m2 hb h2 => ⟨_, rfl, fun h => ?_, fun h => ?_⟩
      · exact retF (fun hp => nb hb h (hp.2 x (q06 hx1))) (hx.trans h2)
      · exact next (by omega) _ ⟨hx.trans h2, q0l hx1 hn (yb hb h)⟩
    · simp only [decide_eq_false_iff_not] at h
      exact retT ⟨rfl, q10 (by omega) hn⟩ hx
def LentOk (params lent : List Int) : Prop := ∀ (k : Nat) (v : Int), lent[k]? = some v -> (∃ t, 0 <= v /\ params[v.toNat]? = some t /\ t ≠ 0) /\ (∀ u : Int, 0 < k -> lent[k - 1]? = some u -> u < v)
theorem qlg {m : Mem} {params lent : Sl} {p l : List Int} (hp : q03 m params p) (hl : q03 m lent l) : q0q Tryz.prog q7o [Sl.v params, Sl.v lent] m (LentOk p l) := by
  apply qhl
  unfold qbw
  have hll := hl.len
  have hpl := hp.len
  have hplim := hp.lim
  have e1 : w64 ((params.len : Int) - 1) = (p.length : Int) - 1 := by rw [q08 (by omega) (by omega), hpl]
  rw [e1]
  have hlim := hl.lim
  refine forI (n := l.length) (hll ▸ hl.lim) (fun k m' => Ext m m' /\ ∀ (j : Nat) (v : Int), j < k -> l[j]? = some v -> (∃ t, 0 <= v /\ p[v.toNat]? = some t /\ t ≠ 0) /\ (∀ u : Int, 0 < j -> l[j - 1]? = some u -> u < v)) ⟨Ext.refl _, by simp⟩ ?_
  rintro k m1 I μ hk ⟨hx, hn⟩ next
  refine ⟨fun h => ?_, fun h => ?_⟩
  · simp only [decide_eq_true_eq] at h
    obtain ⟨x, hx1⟩ := q02 (l := l) (k := k) (by omega)
    have g1 : gcell m1 lent.blk (lent.off + Int.toNat k * 1) = some (vi x) := by simpa using hx.gcell (hl.at' hx1)
    refine ⟨by omega, by omega, x, g1, ?_⟩
    refine (q0o _ _ _ _).then fun b m2 hb h2 => ⟨_, rfl, fun h => ?_, fun h => ?_⟩
    · refine retF (fun hp => nb hb h ?_) (hx.trans h2)
      obtain ⟨⟨t, h3, h4, _⟩, _⟩ := hp k x hx1
      have := q07 h4
      omega
    · have hr := yb hb h
      obtain ⟨t, ht⟩ := q02 (l := p) (k := x.toNat) (by omega)
      have g3 := (hx.trans h2).gcell (hp.at' ht)
      have hx2 := hx.trans h2
      refine ⟨by omega, by omega, x, h2.gcell g1, by omega, by omega, t, by simpa using g3, fun h3 => ?_, fun h3 => ?_⟩
      · simp only [beq_iff_eq] at h3
        refine retF (fun hq => ?_) hx2
        obtain ⟨⟨t', _, h5, h6⟩, _⟩ := hq k x hx1
        rw [ht] at h5; simp at h5; exact h6 (h5 ▸ h3)
      · simp only [beq_eq_false_iff_ne] at h3
        refine ⟨fun h4 => ?_, fun h4 => ?_⟩
        · simp only [decide_eq_true_eq] at h4
          have e2 : w64 ((k : Int) - 1) = ((k - 1 : Nat) : Int) := by rw [q08 (by omega) (by omega)]; omega
          obtain ⟨y, hy⟩ := q02 (l := l) (k := k - 1) (by omega)
          rw [e2]
          refine ⟨by omega, by omega, x, h2.gcell g1, by omega, by omega, y, by simpa using hx2.gcell (hl.at' hy), fun h5 => ?_, fun h5 => ?_⟩
          · simp only [decide_eq_true_eq] at h5
            refine retF (fun hq => ?_) hx2
            have := (hq k x hx1).2 y (by omega) hy
            omega
          · simp only [decide_eq_false_iff_not] at h5
            refine next (by omega) _ ⟨hx2, fun j v hj hv => ?_⟩
            by_cases e : j = k
            · subst e
              rw [hx1] at hv; simp at hv; subst hv
              refine ⟨⟨t, hr.1, ht, h3⟩, fun u _ hu => ?_⟩
              rw [hy] at hu; simp at hu; subst hu; omega
            · exact hn j v (by omega) hv
        · simp only [decide_eq_false_iff_not] at h4
          refine next (by omega) _ ⟨hx2, fun j v hj hv => ?_⟩
          by_cases e : j = k
          · subst e
            rw [hx1] at hv; simp at hv; subst hv
            exact ⟨⟨t, hr.1, ht, h3⟩, fun u h0 _ => by omega⟩
          · exact hn j v (by omega) hv
  · simp only [decide_eq_false_iff_not] at h
    exact retT (fun j v hv => hn j v (by have := q07 hv; omega) hv) hx
end
section
structure DeclOk (ds : List Decl) (k : Nat) (d : Decl) : Prop where
  some' : 0 < d.cons.length -> d.cons.length <= 3 /\ d.frm = 0 /\ d.to = 0 /\ ∀ f ∈ d.cons, f.length <= 3 /\ AllTy ds.length f
  none' : d.cons.length = 0 -> (∀ e ∈ ds.take k, ¬ (e.cons.length = 0 /\ e.frm = d.frm /\ e.to = d.to)) /\ IsTy ds.length d.frm /\ IsTy ds.length d.to
structure TypesOk (ds : List Decl) : Prop where
  len : ds.length <= 4
  each : ∀ (k : Nat) (d : Decl), ds[k]? = some d -> DeclOk ds k d
theorem qld {m : Mem} {decls : Sl} {ds : List Decl} (hd : q0j m decls ds) {k : Nat} {d : Decl} (hk : ds[k]? = some d) : q0q Tryz.prog q7y [Sl.v decls, vi k] m (DeclOk ds k d) := by
  apply qh1
  unfold qbq
  simp -zeta only [q0c, q0d]
  have hkl := q07 hk
  have hdl := hd.len
  obtain ⟨f, hf, g0, g1, g2⟩ := hd.at' hk
  refine ⟨by omega, by omega, _, by simpa using g0, _, by simpa using g1, _, by simpa using g2, ?_⟩
  intro m1 m2
  have hx0 : Ext m m2 := ((Ext.refl m).pushed _).scells (Nat.le_refl _) _ _
  have hl : ∀ b ∈ [m.size], b < m2.size := by simp [m2, m1, q04]
  have hfl := hf.len
  refine ⟨fun h => ?_, fun h => ?_⟩
  · simp only [decide_eq_true_eq] at h
    refine ⟨fun h1 => ?_, fun h1 => ?_⟩
    · simp only [decide_eq_true_eq] at h1
      exact retF (fun hp => by have := (hp.some' (by omega)).1; omega) hx0
    simp only [decide_eq_false_iff_not] at h1
    refine ⟨fun h2 => ?_, fun h2 => ?_⟩
    · simp only [bne_iff_ne] at h2
      exact retF (fun hp => h2 (hp.some' (by omega)).2.1) hx0
    simp only [bne_eq_false_iff_eq] at h2
    refine ⟨fun h3 => ?_, fun h3 => ?_⟩
    · simp only [bne_iff_ne] at h3
      exact retF (fun hp => h3 (hp.some' (by omega)).2.2.1) hx0
    simp only [bne_eq_false_iff_eq] at h3
    refine forI (n := d.cons.length) (hfl ▸ hf.lim) (fun k m' => Ext m2 m' /\ ∀ f ∈ d.cons.take k, f.length <= 3 /\ AllTy ds.length f) ⟨Ext.refl _, by simp⟩ ?_
    rintro j m3 I μ hj ⟨hx, hn⟩ next
    refine ⟨fun h4 => ?_, fun h4 => ?_⟩
    · simp only [decide_eq_true_eq] at h4
      obtain ⟨c, hc⟩ := q02 (l := d.cons) (k := j) (by omega)
      obtain ⟨g, hg, gg⟩ := (ConSl.ext (hx0.trans hx) hf).at' hc
      have hgl := hg.len
      refine ⟨by omega, by omega, g, by simpa using gg, fun h5 => ?_, fun h5 => ?_⟩
      · simp only [decide_eq_true_eq] at h5
        exact retF (fun hp => by have := ((hp.some' (by omega)).2.2.2 c (q06 hc)).1; omega) (hx0.trans hx)
      · simp only [decide_eq_false_iff_not] at h5
        refine ⟨by omega, by omega, g, by simpa using gg, ?_⟩
        refine (qdc hg _).thenS hx hl fun b m4 hb h6 h7 => ⟨_, rfl, fun h8 => ?_, fun h8 => ?_⟩
        · exact retF (fun hp => nb hb h8 (hdl ▸ ((hp.some' (by omega)).2.2.2 c (q06 hc)).2)) (hx0.trans h7)
        · exact next (by omega) _ ⟨h7, q0l hc hn ⟨by omega, hdl ▸ yb hb h8⟩⟩
    · simp only [decide_eq_false_iff_not] at h4
      exact retT ⟨fun _ => ⟨by omega, h2, h3, q10 (by omega) hn⟩, fun h0 => by omega⟩ (hx0.trans hx)
  · simp only [decide_eq_false_iff_not] at h
    have hz : d.cons.length = 0 := by omega
    have hdlim := hd.lim
    refine forI (n := k) (by omega) (fun k m' => Ext m2 m' /\ ∀ e ∈ ds.take k, ¬ (e.cons.length = 0 /\ e.frm = d.frm /\ e.to = d.to)) ⟨Ext.refl _, by simp⟩ ?_
    rintro j m3 I μ hj ⟨hx, hn⟩ next
    refine ⟨fun h4 => ?_, fun h4 => ?_⟩
    · simp only [decide_eq_true_eq] at h4
      obtain ⟨e, he⟩ := q02 (l := ds) (k := j) (by omega)
      obtain ⟨f', hf', q0, q1, q2⟩ := (q0j.ext (hx0.trans hx) hd).at' he
      have hfl' := hf'.len
      have hnext : ¬ (e.cons.length = 0 /\ e.frm = d.frm /\ e.to = d.to) -> I (w64 ((j : Int) + 1)) m3 /\ μ (w64 ((j : Int) + 1)) m3 < μ j m3 := fun hq => next (by omega) _ ⟨hx, q0l he hn hq⟩
      refine ⟨by omega, by omega, f', by simpa using q2, fun h5 => ?_, fun h5 => ?_⟩
      · simp only [beq_iff_eq] at h5
        refine ⟨by omega, by omega, _, by simpa using q0, fun h6 => ?_, fun h6 => ?_⟩
        · simp only [beq_iff_eq] at h6
          refine ⟨by omega, by omega, _, by simpa using q1, fun h7 => ?_, fun h7 => ?_⟩
          · simp only [beq_iff_eq] at h7
            have hm : e ∈ ds.take k := by
              rw [List.mem_iff_getElem?]; exact ⟨j, by rw [List.getElem?_take, if_pos (by omega)]; exact he⟩
            exact retF (fun hp => (hp.none' hz).1 e hm ⟨by omega, h6, h7⟩) (hx0.trans hx)
          · simp only [beq_eq_false_iff_ne] at h7
            exact hnext (fun hq => h7 hq.2.2)
        · simp only [beq_eq_false_iff_ne] at h6
          exact hnext (fun hq => h6 hq.2.1)
      · simp only [beq_eq_false_iff_ne] at h5
        exact hnext (fun hq => h5 (by omega))
    · simp only [decide_eq_false_iff_not] at h4
      have ej : j = k := by omega
      subst ej
      refine (q0o _ _ _ _).thenS hx hl fun b m4 hb h6 h7 => ⟨_, rfl, fun h8 => ?_, fun h8 => ?_⟩
      · have h8 := hb.1 h8
        refine (q0o _ _ _ _).thenS h7 hl fun b m5 hb h9 h10 => ⟨_, rfl, retB ?_ (hx0.trans h10)⟩
        rw [hb]
        rw [hdl] at h8 ⊢
        exact ⟨fun h => ⟨fun h0 => by omega, fun _ => ⟨hn, h8, h⟩⟩, fun h => (h.none' hz).2.2⟩
      · exact retF (fun hp => fb hb h8 (hdl ▸ (hp.none' hz).2.1)) (hx0.trans h7)
theorem qk2 {m : Mem} {decls : Sl} {ds : List Decl} (hd : q0j m decls ds) : q0q Tryz.prog q6s [Sl.v decls] m (TypesOk ds) := by
  apply qgi
  have hdl := hd.len
  refine ⟨fun h => ?_, fun h => ?_⟩
  · simp only [decide_eq_true_eq] at h
    exact retF (fun hp => by have := hp.len; omega) (Ext.refl _)
  · simp only [decide_eq_false_iff_not] at h
    refine forI (n := ds.length) (by omega) (fun k m' => Ext m m' /\ ∀ (j : Nat) (d : Decl), j < k -> ds[j]? = some d -> DeclOk ds j d) ⟨Ext.refl _, by simp⟩ ?_
    rintro j m3 I μ hj ⟨hx, hn⟩ next
    refine ⟨fun h4 => ?_, fun h4 => ?_⟩
    · simp only [decide_eq_true_eq] at h4
      obtain ⟨e, he⟩ := q02 (l := ds) (k := j) (by omega)
      refine (qld (q0j.ext hx hd) he).then fun b m4 hb h5 => ⟨_, rfl, fun h6 => ?_, fun h6 => ?_⟩
      · exact retF (fun hp => nb hb h6 (hp.each j e he)) (hx.trans h5)
      · refine next (by omega) _ ⟨hx.trans h5, fun i d hi hid => ?_⟩
        by_cases eij : i = j
        · subst eij
          rw [he] at hid; simp at hid; subst hid
          exact yb hb h6
        · exact hn i d (by omega) hid
    · simp only [decide_eq_false_iff_not] at h4
      exact retT ⟨by omega, fun i d hid => hn i d (by have := q07 hid; omega) hid⟩ hx
end
end Go.Proofs.YtpggcodlaajceaaGreat
section
/- Slices that grow by append, in blocks of their own. -/
namespace Go.Vc
structure Own (m0 m : Mem) (e sz : Nat) (s : Sl) (l : List Ce) : Prop where
  len : l.length = s.len * sz
  at' : s = .nil \/ ∃ b c tail, s = .mk b 0 s.len c /\ m0.size <= b /\ Blk m b e (l ++ tail) /\ (l ++ tail).length = c * sz /\ s.len <= c
theorem Own.nil (m0 m : Mem) (e sz : Nat) : Own m0 m e sz .nil [] := ⟨by simp, Or.inl rfl⟩
theorem Own.new {m0 m : Mem} (h : Ext m0 m) (e sz : Nat) (l : List Ce) (k : Nat) (hk : l.length = k * sz) : Own m0 (m.push (.cells (vals l) e)) e sz (.mk m.size 0 k k) l :=
  ⟨hk, Or.inr ⟨m.size, k, [], rfl, h.size, by rw [List.append_nil]; exact Blk.push _ _ _, by simpa using hk, Nat.le_refl _⟩⟩
theorem Own.congr {m0 m m' : Mem} {e sz : Nat} {s : Sl} {l : List Ce} (h : Own m0 m e sz s l) (hb : m'[s.blk]? = m[s.blk]?) : Own m0 m' e sz s l := by
  refine ⟨h.len, ?_⟩
  rcases h.at' with h1 | ⟨b, c, tail, h1, h2, h3, h4, h5⟩
  · exact Or.inl h1
  · refine Or.inr ⟨b, c, tail, h1, h2, h3.congr ?_, h4, h5⟩
    rw [h1] at hb; exact hb
theorem Own.lt {m0 m : Mem} {e sz : Nat} {s : Sl} {l : List Ce} (h : Own m0 m e sz s l) : s = .nil \/ s.blk < m.size := by
  rcases h.at' with h1 | ⟨b, c, tail, h1, h2, h3, h4, h5⟩
  · exact Or.inl h1
  · rw [h1]; exact Or.inr h3.lt
theorem Own.ext {m0 m m' : Mem} {e sz : Nat} {s : Sl} {l : List Ce} (h : Own m0 m e sz s l) (hx : Ext m m') : Own m0 m' e sz s l := by
  rcases h.lt with h1 | h1
  · subst h1; exact ⟨h.len, Or.inl rfl⟩
  · exact h.congr (hx.same _ h1)
theorem Own.base {m0 m1 m : Mem} {e sz : Nat} {s : Sl} {l : List Ce} (h : Own m1 m e sz s l) (hs : m0.size <= m1.size) : Own m0 m e sz s l := by
  refine ⟨h.len, ?_⟩
  rcases h.at' with h1 | ⟨b, c, tail, h1, h2, h3, h4, h5⟩
  · exact Or.inl h1
  · exact Or.inr ⟨b, c, tail, h1, Nat.le_trans hs h2, h3, h4, h5⟩
theorem Own.blk {m0 m : Mem} {e sz : Nat} {s : Sl} {l : List Ce} (h : Own m0 m e sz s l) : s = .nil \/ m0.size <= s.blk := by
  rcases h.at' with h1 | ⟨b, c, tail, h1, h2, h3, h4, h5⟩
  · exact Or.inl h1
  · rw [h1]; exact Or.inr h2
theorem rowIs.pre {m : Mem} {b o : Nat} {l r : List Ce} (h : rowIs m b o (l ++ r)) : rowIs m b o l := fun i c hc => h i c (by rw [List.getElem?_append_left (q07 hc)]; exact hc)
theorem Own.row {m0 m : Mem} {e sz : Nat} {s : Sl} {l : List Ce} (h : Own m0 m e sz s l) : rowIs m s.blk s.off l := by
  rcases h.at' with h1 | ⟨b, c, tail, h1, h2, h3, h4, h5⟩
  · have : l = [] := List.length_eq_zero_iff.1 (by rw [h.len, h1]; simp)
    subst this; intro i c hc; simp at hc
  · rw [h1]; exact h3.row.pre
theorem qfn (l new tail : List Ce) (h : new.length <= tail.length) : setL (l ++ tail) l.length new = l ++ new ++ tail.drop new.length := by
  apply List.ext_getElem?
  intro i
  rw [qcn]
  simp only [List.length_append]
  by_cases h1 : l.length <= i /\ i < l.length + new.length /\ i < l.length + tail.length
  · rw [if_pos h1, List.append_assoc, List.getElem?_append_right h1.1, List.getElem?_append_left (by omega)]
  · rw [if_neg h1]
    by_cases h2 : i < l.length
    · rw [List.getElem?_append_left h2, List.append_assoc, List.getElem?_append_left h2]
    · rw [List.getElem?_append_right (by omega), List.append_assoc, List.getElem?_append_right (by omega), List.getElem?_append_right (by omega), List.getElem?_drop]
      congr 1; omega
theorem Own.append {m0 m : Mem} {e : Nat} {zs : List Ce} {bytes : Nat} {s x : Sl} {l new : List Ce} {K : Sl -> Mem -> Prop} (h : Own m0 m e zs.length s l) (hm : Ext m0 m)
    (hn : new.length = x.len * zs.length) (hr : rowIs m x.blk x.off new) (hb : (s.len + x.len) * bytes <= 140737488355328)
    (hk : ∀ r m', Own m0 m' e zs.length r (l ++ new) -> Ext m0 m' -> r.len = s.len + x.len -> m.size <= m'.size -> (∀ b, b < m.size -> (s ≠ .nil -> b ≠ s.blk) -> m'[b]? = m[b]?) -> (r = .nil \/ (s ≠ .nil /\ r.blk = s.blk) \/ r.blk = m.size) -> K r m') :
    appC m e zs bytes s x K := by
  refine ⟨new, hn, hr, fun hle => ?_, fun hgt => ⟨hb, l, h.len, h.row, fun c hc => ?_⟩⟩
  · rcases h.at' with h1 | ⟨b, c, tail, h1, h2, h3, h4, h5⟩
    · subst h1
      have hx0 : x.len = 0 := by simpa using hle
      have hn0 : new = [] := List.length_eq_zero_iff.1 (by rw [hn, hx0]; simp)
      subst hn0
      refine ⟨fun j hj => by simp at hj, ?_⟩
      exact hk .nil _ ⟨by rw [List.append_nil]; exact h.len, Or.inl rfl⟩ (by simpa [scells] using hm) (by simp [hx0]) (Nat.le_of_eq (q04 _ _ _ _).symm) (fun b hb _ => by simp [scells]) (Or.inl rfl)
    · have hlen := h.len
      have hcap : s.cap = c := by rw [h1]; rfl
      rw [h1]
      simp only [Sl.blk_mk, Sl.off_mk, Sl.len_mk, Nat.zero_add]
      simp only [List.length_append] at h4
      have hfit : new.length <= tail.length := by
        have h6 : (s.len + x.len) * zs.length <= c * zs.length := Nat.mul_le_mul_right _ (by omega)
        rw [Nat.add_mul] at h6
        omega
      refine ⟨h3.wrOk (by simp only [List.length_append]; omega), ?_⟩
      have hB := Blk.scells (m := m) (b := b) (e := e) (r := new) (o := s.len * zs.length) h3
      rw [← hlen, qfn l new tail hfit] at hB
      refine hk _ _ ⟨?_, Or.inr ⟨b, c, tail.drop new.length, rfl, h2, ?_, ?_, ?_⟩⟩ (hm.scells h2 _ _) (by simp) (Nat.le_of_eq (q04 _ _ _ _).symm) (fun b' _ hne => q0s _ _ _ _ ?_) (Or.inr (Or.inl ⟨by rw [h1]; simp, by rw [h1]; rfl⟩))
      · simp only [List.length_append, Sl.len_mk, Nat.add_mul]; omega
      · rw [← hlen]; exact hB
      · simp only [List.length_append, List.length_drop]; omega
      · simp only [Sl.len_mk]; omega
      · have := hne (by rw [h1]; simp)
        rw [h1] at this; exact this
  · refine hk _ _ ⟨?_, Or.inr ⟨m.size, c, zrow zs (c - (s.len + x.len)), rfl, hm.size, Blk.push _ _ _, ?_, by simpa using hc⟩⟩ (hm.pushed _) (by simp) (by simp) (fun b hb _ => by rw [Array.getElem?_push, if_neg (by omega)]) (Or.inr (Or.inr rfl))
    · simp only [List.length_append, Sl.len_mk, Nat.add_mul, h.len, hn]
    · simp only [List.length_append, q7e, h.len, hn]
      rw [Nat.sub_mul, ← Nat.add_mul]
      have : (s.len + x.len) * zs.length <= c * zs.length := Nat.mul_le_mul_right _ hc
      omega
theorem q03.ofOwn {m0 m : Mem} {e : Nat} {s : Sl} {l : List Int} (h : Own m0 m e 1 s (l.map Ce.i)) (hl : l.length <= 9223372036854775807) : q03 m s l := by
  have hlen : s.len = l.length := by have := h.len; simp at this; omega
  refine ⟨hlen, ?_, by omega, fun k x hk => ⟨[.i x], rfl, fun i c hc => ?_⟩⟩
  · rcases h.at' with h1 | ⟨b, c, tail, h1, h2, h3, h4, h5⟩
    · rw [h1]; exact Nat.le_refl _
    · rw [h1]; exact h5
  · have hi : i = 0 := by have := q07 hc; simp at this; omega
    subst hi
    simp at hc; subst hc
    have := h.row k (.i x) (by simp [hk])
    simpa using this
theorem q5f {sz : Nat} : ∀ {css : List (List Ce)} (_ : ∀ cs ∈ css, cs.length = sz) {j : Nat} {cs : List Ce} (_ : css[j]? = some cs) {i : Nat} {c : Ce} (_ : cs[i]? = some c), css.flatten[j * sz + i]? = some c
  | [], _, j, cs, h, _, _, _ => by simp at h
  | x :: css, hl, 0, cs, h, i, c, hc => by
    simp at h; subst h
    rw [List.flatten_cons, Nat.zero_mul, Nat.zero_add, List.getElem?_append_left (q07 hc)]; exact hc
  | x :: css, hl, j + 1, cs, h, i, c, hc => by
    have hx : x.length = sz := hl x List.mem_cons_self
    rw [List.flatten_cons, List.getElem?_append_right (by rw [hx, Nat.add_mul]; omega)]
    have := q5f (css := css) (fun y hy => hl y (List.mem_cons_of_mem _ hy)) (j := j) (by simpa using h) hc
    rw [← this]; congr 1; rw [hx, Nat.add_mul]; omega
theorem q0t {sz : Nat} : ∀ {css : List (List Ce)}, (∀ cs ∈ css, cs.length = sz) -> css.flatten.length = css.length * sz
  | [], _ => by simp
  | x :: css, hl => by
    rw [List.flatten_cons, List.length_append, q0t (fun y hy => hl y (List.mem_cons_of_mem _ hy)), hl x List.mem_cons_self, List.length_cons, Nat.add_mul]; omega
structure RowsOf {α : Type} (sz : Nat) (R : List Ce -> α -> Prop) (css : List (List Ce)) (l : List α) : Prop where
  len : css.length = l.length
  size : ∀ cs ∈ css, cs.length = sz
  each : ∀ (j : Nat) (cs : List Ce) (x : α), css[j]? = some cs -> l[j]? = some x -> R cs x
theorem RowsOf.nil {α : Type} (sz : Nat) (R : List Ce -> α -> Prop) : RowsOf sz R [] [] := ⟨rfl, by simp, by simp⟩
theorem RowsOf.snoc {α : Type} {sz : Nat} {R : List Ce -> α -> Prop} {css : List (List Ce)} {l : List α} (h : RowsOf sz R css l) {cs : List Ce} {x : α} (hs : cs.length = sz) (hx : R cs x) : RowsOf sz R (css ++ [cs]) (l ++ [x]) := by
  refine ⟨by simp [h.len], fun c hc => ?_, fun j c y hc hy => ?_⟩
  · rcases List.mem_append.1 hc with hc | hc
    · exact h.size c hc
    · simp at hc; subst hc; exact hs
  · rcases Nat.lt_or_ge j css.length with hj | hj
    · rw [List.getElem?_append_left hj] at hc
      rw [List.getElem?_append_left (h.len ▸ hj)] at hy
      exact h.each j c y hc hy
    · rw [List.getElem?_append_right hj] at hc
      rw [List.getElem?_append_right (by rw [← h.len]; exact hj), ← h.len] at hy
      have hj0 : j - css.length = 0 := by have := q07 hc; simp at this; omega
      rw [hj0] at hc hy
      simp at hc hy; subst hc; subst hy; exact hx
theorem RowsOf.mono {α : Type} {sz : Nat} {R R' : List Ce -> α -> Prop} {css : List (List Ce)} {l : List α} (h : RowsOf sz R css l) (hR : ∀ cs x, R cs x -> R' cs x) : RowsOf sz R' css l :=
  ⟨h.len, h.size, fun j cs x h1 h2 => hR _ _ (h.each j cs x h1 h2)⟩
theorem SlOf.ofOwn {α : Type} {m0 m : Mem} {e sz : Nat} {R : List Ce -> α -> Prop} {s : Sl} {css : List (List Ce)} {l : List α} (h : Own m0 m e sz s css.flatten) (hr : RowsOf sz R css l) (hz : 0 < sz) (hl : l.length <= 9223372036854775807) : SlOf m sz R s l := by
  have hlen : s.len = l.length := by
    have h1 := h.len
    rw [q0t hr.size] at h1
    have := Nat.eq_of_mul_eq_mul_right hz h1
    rw [← this, hr.len]
  refine ⟨hlen, ?_, by omega, fun k x hk => ?_⟩
  · rcases h.at' with h1 | ⟨b, c, tail, h1, h2, h3, h4, h5⟩
    · rw [h1]; exact Nat.le_refl _
    · rw [h1]; exact h5
  · obtain ⟨cs, hcs⟩ := q02 (l := css) (k := k) (by rw [hr.len]; exact q07 hk)
    refine ⟨cs, hr.each k cs x hcs hk, fun i c hc => ?_⟩
    have := h.row (k * sz + i) c (q5f hr.size hcs hc)
    rwa [← Nat.add_assoc] at this
end Go.Vc
end
namespace Go.Proofs.YtpggcodlaajceaaGreat
open Go.Vc
section
def fc : List Decl -> Nat -> Nat
  | _, 0 => 0
  | [], _ => 0
  | d :: ds, k + 1 => d.cons.length + fc ds k
def q14 (ds : List Decl) : List (List Int) := ds.flatMap Decl.cons
theorem fc_nil (k : Nat) : fc [] k = 0 := by cases k <;> rfl
theorem q6m : ∀ {ds : List Decl} {k : Nat} {d : Decl}, ds[k]? = some d -> fc ds (k + 1) = fc ds k + d.cons.length
  | [], k, d, h => by simp at h
  | e :: ds, 0, d, h => by
    simp at h; subst h
    simp only [fc]
    cases ds <;> simp [fc]
  | e :: ds, k + 1, d, h => by
    have := q6m (ds := ds) (k := k) (d := d) (by simpa using h)
    simp only [fc] at this ⊢
    omega
theorem fc_all : ∀ (ds : List Decl) (k : Nat), ds.length <= k -> fc ds k = (q14 ds).length
  | [], k, _ => by rw [fc_nil]; rfl
  | d :: ds, 0, h => by simp at h
  | d :: ds, k + 1, h => by
    have := fc_all ds k (by simpa using h)
    simp only [fc, q14, List.flatMap_cons, List.length_append] at this ⊢
    omega
theorem qs1 : ∀ (ds : List Decl) {i j : Nat}, i <= j -> fc ds i <= fc ds j
  | [], i, j, _ => by simp [fc_nil]
  | d :: ds, 0, j, _ => by simp [fc]
  | d :: ds, i + 1, 0, h => by omega
  | d :: ds, i + 1, j + 1, h => by
    have := qs1 ds (i := i) (j := j) (by omega)
    simp only [fc]; omega
theorem q54 {ds : List Decl} (h : TypesOk ds) {k : Nat} {d : Decl} (hk : ds[k]? = some d) : d.cons.length <= 3 := by
  rcases Nat.eq_zero_or_pos d.cons.length with h0 | h0
  · omega
  · exact ((h.each k d hk).some' h0).1
theorem fc_le {ds : List Decl} (h : TypesOk ds) : ∀ k, fc ds k <= 3 * k
  | 0 => by cases ds <;> simp [fc]
  | k + 1 => by
    have ih := fc_le h k
    rcases Nat.lt_or_ge k ds.length with hk | hk
    · obtain ⟨d, hd⟩ := q02 hk
      rw [q6m hd]
      have := q54 h hd
      omega
    · rw [fc_all ds (k + 1) (by omega), ← fc_all ds k hk]; omega
theorem fc_12 {ds : List Decl} (h : TypesOk ds) (k : Nat) : fc ds k <= 12 := by
  rcases Nat.lt_or_ge k ds.length with hk | hk
  · have := fc_le h k; have := h.len; omega
  · rw [fc_all ds k hk, ← fc_all ds ds.length (Nat.le_refl _)]
    have := fc_le h ds.length; have := h.len; omega
theorem qf3 : ∀ (ds : List Decl) (i j : Nat) (d : Decl), ds[i]? = some d -> j < d.cons.length -> (q14 ds)[fc ds i + j]? = d.cons[j]?
  | [], i, j, d, h, _ => by simp at h
  | e :: ds, 0, j, d, h, hj => by
    simp at h; subst h
    simp only [fc, q14, List.flatMap_cons, Nat.zero_add]
    rw [List.getElem?_append_left hj]
  | e :: ds, i + 1, j, d, h, hj => by
    have := qf3 ds i j d (by simpa using h) hj
    simp only [fc, q14, List.flatMap_cons] at this ⊢
    rw [List.getElem?_append_right (by omega), ← this]
    congr 1; omega
theorem qhq : ∀ (ds : List Decl) (c : Nat), c < (q14 ds).length -> ∃ i d, ds[i]? = some d /\ fc ds i <= c /\ c < fc ds i + d.cons.length
  | [], c, h => by simp [q14] at h
  | e :: ds, c, h => by
    rcases Nat.lt_or_ge c e.cons.length with hc | hc
    · exact ⟨0, e, by simp, by simp [fc], by simpa [fc] using hc⟩
    · obtain ⟨i, d, h1, h2, h3⟩ := qhq ds (c - e.cons.length) (by simp only [q14, List.flatMap_cons, List.length_append] at h ⊢; omega)
      exact ⟨i + 1, d, by simpa using h1, by simp only [fc]; omega, by simp only [fc]; omega⟩
theorem q4v {m : Mem} {decls : Sl} {ds : List Decl} (hd : q0j m decls ds) (ht : TypesOk ds) {k : Nat} (hk : k <= ds.length) : Gets Tryz.prog q39 [Sl.v decls, vi k] m (vi (fc ds k)) := by
  apply qii
  have hdl := hd.len
  have := ht.len
  refine forSI (n := k) (by omega) (fun j n m' => Ext m m' /\ n = (fc ds j : Nat)) ⟨Ext.refl _, by cases ds <;> rfl⟩ ?_
  rintro j n m1 I μ hj ⟨hx, rfl⟩ next
  refine ⟨fun h => ?_, fun h => ?_⟩
  · simp only [decide_eq_true_eq] at h
    obtain ⟨d, hd1⟩ := q02 (l := ds) (k := j) (by omega)
    obtain ⟨f, hf, g0, g1, g2⟩ := (q0j.ext hx hd).at' hd1
    refine ⟨by omega, by omega, f, by simpa using g2, ?_⟩
    refine next (by omega) _ _ ⟨hx, ?_⟩
    have h1 := fc_12 ht j
    have h2 := q54 ht hd1
    rw [q08 (by omega) (by have := hf.len; omega), q6m hd1, hf.len]; rfl
  · simp only [decide_eq_false_iff_not] at h
    have : j = k := by omega
    subst this
    exact ⟨rfl, hx⟩
theorem q81 {m : Mem} {decls : Sl} {ds : List Decl} (hd : q0j m decls ds) (ht : TypesOk ds) : Gets Tryz.prog q48 [Sl.v decls] m (vi (q14 ds).length) := by
  apply qi3
  have hdl := hd.len
  have := ht.len
  refine forSI (n := ds.length) (by omega) (fun j n m' => Ext m m' /\ n = (fc ds j : Nat)) ⟨Ext.refl _, by cases ds <;> rfl⟩ ?_
  rintro j n m1 I μ hj ⟨hx, rfl⟩ next
  refine ⟨fun h => ?_, fun h => ?_⟩
  · simp only [decide_eq_true_eq] at h
    obtain ⟨d, hd1⟩ := q02 (l := ds) (k := j) (by omega)
    obtain ⟨f, hf, g0, g1, g2⟩ := (q0j.ext hx hd).at' hd1
    refine ⟨by omega, by omega, f, by simpa using g2, ?_⟩
    refine next (by omega) _ _ ⟨hx, ?_⟩
    have h1 := fc_12 ht j
    have h2 := q54 ht hd1
    rw [q08 (by omega) (by have := hf.len; omega), q6m hd1, hf.len]; rfl
  · simp only [decide_eq_false_iff_not] at h
    refine ⟨?_, hx⟩
    rw [fc_all ds j (by omega)]
def ConTy (ds : List Decl) (c t : Int) : Prop :=
  (∃ (i : Nat) (d : Decl), t = i + 1 /\ ds[i]? = some d /\ (fc ds i : Int) <= c /\ c < fc ds i + d.cons.length) \/ (t = -1 /\ ¬ (0 <= c /\ c < (q14 ds).length))
theorem qek {m : Mem} {decls : Sl} {ds : List Decl} (hd : q0j m decls ds) (ht : TypesOk ds) (c : Int) : q00 Tryz.prog q6e [Sl.v decls, vi c] m fun v m' => ∃ t, v = vi t /\ ConTy ds c t /\ Ext m m' := by
  apply qj1
  have hdl := hd.len
  have := ht.len
  refine forI (n := ds.length) (by omega) (fun j m' => Ext m m' /\ ∀ (i : Nat) (d : Decl), i < j -> ds[i]? = some d -> ¬ ((fc ds i : Int) <= c /\ c < fc ds i + d.cons.length)) ⟨Ext.refl _, by simp⟩ ?_
  rintro j m1 I μ hj ⟨hx, hn⟩ next
  refine ⟨fun h => ?_, fun h => ?_⟩
  · simp only [decide_eq_true_eq] at h
    obtain ⟨d, hd1⟩ := q02 (l := ds) (k := j) (by omega)
    refine (q4v (q0j.ext hx hd) ht (by omega)).then fun m2 h2 => ⟨_, rfl, ?_⟩
    obtain ⟨f, hf, g0, g1, g2⟩ := (q0j.ext (hx.trans h2) hd).at' hd1
    refine ⟨by omega, by omega, f, by simpa using g2, ?_⟩
    have h1 := fc_12 ht j
    have h3 := q54 ht hd1
    have hfl := hf.len
    have e1 : w64 (w64 ((fc ds j : Int) + (f.len : Int)) - 1) = (fc ds j : Int) + d.cons.length - 1 := by
      rw [q08 (x := (fc ds j : Int) + (f.len : Int)) (by omega) (by omega), q08 (by omega) (by omega), hfl]
    rw [e1]
    refine (q0o _ _ _ _).then fun b m3 hb h4 => ⟨_, rfl, fun h5 => ?_, fun h5 => ?_⟩
    · have h5 := hb.1 h5
      refine ⟨_, rfl, Or.inl ⟨j, d, ?_, hd1, by omega, by omega⟩, (hx.trans h2).trans h4⟩
      rw [q08 (by omega) (by omega)]
    · refine next (by omega) _ ⟨(hx.trans h2).trans h4, fun i d' hi hd' => ?_⟩
      by_cases e : i = j
      · subst e
        rw [hd1] at hd'; simp at hd'; subst hd'
        intro hq
        exact fb hb h5 ⟨hq.1, by omega⟩
      · exact hn i d' (by omega) hd'
  · simp only [decide_eq_false_iff_not] at h
    refine ⟨_, rfl, Or.inr ⟨rfl, fun hq => ?_⟩, hx⟩
    obtain ⟨i, d, h1, h2, h3⟩ := qhq ds c.toNat (by omega)
    exact hn i d (by have := q07 h1; omega) h1 ⟨by omega, by omega⟩
def q21 (ds : List Decl) (c : Int) : List Int := if 0 <= c then ((q14 ds)[c.toNat]?).getD [] else []
theorem ql1 {m : Mem} {decls : Sl} {ds : List Decl} (hd : q0j m decls ds) (ht : TypesOk ds) (c : Int) : q00 Tryz.prog q7p [Sl.v decls, vi c] m fun v m' => ∃ s, v = Sl.v s /\ q03 m' s (q21 ds c) /\ Ext m m' := by
  apply qhb
  have hdl := hd.len
  have := ht.len
  refine (qek hd ht c).mono ?_
  rintro _ m1 ⟨t, rfl, hct, hx⟩
  refine ⟨_, rfl, fun h => ?_, fun h => ?_⟩
  · simp only [decide_eq_true_eq] at h
    refine ⟨_, rfl, ?_, hx.pushed _⟩
    have e : q21 ds c = [] := by
      rcases hct with ⟨i, d, h1, _⟩ | ⟨_, h2⟩
      · omega
      · unfold q21
        split
        · rw [List.getElem?_eq_none (by omega)]; rfl
        · rfl
    rw [e]
    exact ⟨rfl, Nat.le_refl _, by simp, by simp⟩
  · simp only [decide_eq_false_iff_not] at h
    rcases hct with ⟨i, d, rfl, h2, h3, h4⟩ | ⟨h1, _⟩
    · have hil := q07 h2
      obtain ⟨f, hf, g0, g1, g2⟩ := (q0j.ext hx hd).at' h2
      have e1 : w64 ((i : Int) + 1 - 1) = i := by rw [q08 (by omega) (by omega)]; omega
      rw [e1]
      refine ⟨by omega, by omega, f, by simpa using g2, ?_⟩
      refine (q4v (q0j.ext hx hd) ht (by omega)).then fun m2 h5 => ⟨_, rfl, h5.keepG (by simpa using g2), ?_⟩
      have h12 := fc_12 ht i
      have h6 := q54 ht h2
      have hfl := hf.len
      obtain ⟨x, hx1⟩ := q02 (l := d.cons) (k := (c - fc ds i).toNat) (by omega)
      obtain ⟨g, hg, gg⟩ := (ConSl.ext h5 hf).at' hx1
      have e2 : w64 (c - (fc ds i : Int)) = c - fc ds i := q08 (by omega) (by omega)
      rw [e2]
      refine ⟨by omega, by omega, g, gg, _, rfl, ?_, hx.trans h5⟩
      have e3 : q21 ds c = x := by
        unfold q21
        rw [if_pos (by omega)]
        have := qf3 ds i (c - fc ds i).toNat d h2 (by omega)
        rw [show c.toNat = fc ds i + (c - fc ds i).toNat by omega, this, hx1]; rfl
      rw [e3]; exact hg
    · omega
def q17 (ds : List Decl) (t : Int) : List Int :=
  if 1 <= t /\ t <= ds.length then ((ds[t.toNat - 1]?).map fun d => (List.range d.cons.length).map fun i => ((fc ds (t.toNat - 1) + i : Nat) : Int)).getD [] else []
theorem qfq {m : Mem} {decls : Sl} {ds : List Decl} (hd : q0j m decls ds) (ht : TypesOk ds) (t : Int) : q00 Tryz.prog q7k [Sl.v decls, vi t] m fun v m' => ∃ s, v = Sl.v s /\ q03 m' s (q17 ds t) /\ Ext m m' := by
  apply qlh
  unfold qfx
  intro m1
  have hdl := hd.len
  have := ht.len
  have hx1 : Ext m m1 := (Ext.refl m).pushed _
  have ho : Own m m1 ty_int 1 (.mk m.size 0 0 0) [] := Own.new (Ext.refl m) ty_int 1 [] 0 (by simp)
  refine (q0o _ _ _ _).then fun b m2 hb h2 => ⟨_, rfl, fun h => ?_, fun h => ?_⟩
  · refine ⟨_, rfl, ?_, hx1.trans h2⟩
    have e : q17 ds t = [] := by
      unfold q17
      rw [if_neg (by have := nb hb h; omega)]
    rw [e]
    exact ⟨rfl, Nat.le_refl _, by simp, by simp⟩
  · have h := yb hb h
    have e1 : w64 (t - 1) = ((t.toNat - 1 : Nat) : Int) := by rw [q08 (by omega) (by omega)]; omega
    rw [e1]
    obtain ⟨d, hd1⟩ := q02 (l := ds) (k := t.toNat - 1) (by omega)
    have e2 : q17 ds t = (List.range d.cons.length).map fun i => ((fc ds (t.toNat - 1) + i : Nat) : Int) := by
      unfold q17
      rw [if_pos (by omega), hd1]; rfl
    rw [e2]
    have h12 := fc_12 ht (t.toNat - 1)
    have h6 := q54 ht hd1
    refine forSI (n := d.cons.length) (by omega) (fun j s m' => Ext m m' /\ Own m m' ty_int 1 s (((List.range j).map fun i => ((fc ds (t.toNat - 1) + i : Nat) : Int)).map Ce.i) /\ s.len = j) ⟨hx1.trans h2, by simpa using ho.ext h2, rfl⟩ ?_
    rintro j s m3 I μ hj ⟨hx, hs, hsl⟩ next
    obtain ⟨f, hf, g0, g1, g2⟩ := (q0j.ext hx hd).at' hd1
    have hfl := hf.len
    refine ⟨by omega, by omega, f, by simpa using g2, fun h3 => ?_, fun h3 => ?_⟩
    · simp only [decide_eq_true_eq] at h3
      refine (q4v (q0j.ext hx hd) ht (by omega)).then fun m4 h4 => ⟨_, rfl, ?_⟩
      intro m5
      have e3 : w64 (((fc ds (t.toNat - 1) : Nat) : Int) + (j : Int)) = ((fc ds (t.toNat - 1) + j : Nat) : Int) := by rw [q08 (by omega) (by omega)]; omega
      have hm5 : m5 = m4.push (.cells (vals [.i (((fc ds (t.toNat - 1) + j : Nat) : Int))]) ty_int) := by rw [← e3]
      clear_value m5
      subst hm5
      refine Own.append (zs := [.i 0]) (new := [.i ((fc ds (t.toNat - 1) + j : Nat) : Int)]) ((hs.ext h4).ext (Ext.push _ _)) ((hx.trans h4).pushed _) rfl (Blk.push _ _ _).row (by simp [hsl]; omega) ?_
      intro r m' h7 h8 h9 h10 h11 _
      refine next (by omega) _ _ ⟨h8, ?_, by simp [h9, hsl]⟩
      rw [List.range_succ, List.map_append, List.map_append]
      exact h7
    · simp only [decide_eq_false_iff_not] at h3
      have : j = d.cons.length := by omega
      subst this
      exact ⟨_, rfl, q03.ofOwn hs (by simp; omega), hx⟩
end
section
def ProcWith (im : Image) (num : Int) (n : Nat) : Prop := ∃ q : Proc, 0 <= num /\ im.procs[num.toNat]? = some q /\ q.params.length = n
theorem qt4 : w64 9223372036854775808 = -9223372036854775808 := by decide
theorem qdg {m : Mem} {d p : Sl} {im : Image} (h : ImageR m d p im) (num : Int) (n more : Nat) (hn : n <= 9223372036854775807) (hm : more <= 1) :
    q0q Tryz.prog q5k [.agg #[Sl.v d, Sl.v p], vi num, vi n, vi more] m (ProcWith im num (n + more)) := by
  apply qi4
  unfold qcx
  simp -zeta only [q0c, q0d]
  intro m1
  have hx0 : Ext m m1 := (Ext.refl m).pushed _
  have hl : ∀ b ∈ [m.size], b < m1.size := by simp [m1]
  have hpl := h.procs.len
  have hplim := h.procs.lim
  refine (q0o _ _ _ _).thenS (Ext.refl _) hl fun b m2 hb h1 h2 => ⟨_, rfl, fun h3 => ?_, fun h3 => ?_⟩
  · have h3 := hb.1 h3
    rw [q08 (by omega) (by omega)] at h3
    obtain ⟨q, hq⟩ := q02 (l := im.procs) (k := num.toNat) (by omega)
    obtain ⟨a, b', c, ha, hb', hc, g0, g1, g2, g3, g4⟩ := (ProcSl.ext (hx0.trans h1) h.procs).at' hq
    refine ⟨by omega, by omega, a, g0, retB ?_ (hx0.trans h1)⟩
    have hal := ha.len
    have halim := ha.lim
    simp only [beq_iff_eq]
    have e : (a.len : Int) = w64 ((n : Int) + (more : Int)) ↔ a.len = n + more := by
      rcases Nat.lt_or_ge (n + more) 9223372036854775808 with hlt | hge
      · rw [q08 (by omega) (by omega)]; omega
      · have e1 : (n : Int) + (more : Int) = 9223372036854775808 := by omega
        rw [e1, qt4]; omega
    rw [e, hal]
    exact ⟨fun hh => ⟨q, h3.1, hq, hh⟩, fun ⟨q', _, h5, h6⟩ => by rw [hq] at h5; simp at h5; rw [h5]; exact h6⟩
  · refine retF (fun ⟨q, h4, h5, _⟩ => fb hb h3 ?_) (hx0.trans h1)
    have := q07 h5
    rw [q08 (by omega) (by omega)]
    omega
def OpOk (im : Image) (p : Proc) (k : Nat) (i : Instr) : Prop :=
  if i.op = 0 then i.args.length = 0 /\ -999 <= i.num /\ i.num <= 999
  else if i.op = 1 \/ i.op = 2 \/ i.op = 3 \/ i.op = 4 \/ i.op = 11 then i.args.length = 2 /\ i.num = 0
  else if i.op = 5 \/ i.op = 14 \/ i.op = 15 \/ i.op = 18 \/ i.op = 23 then i.args.length = 1 /\ i.num = 0
  else if i.op = 6 then (0 <= i.num /\ i.num < (q14 im.decls).length) /\ i.args.length = (q21 im.decls i.num).length /\ 0 <= i.into /\ i.into <= p.regs
  else if i.op = 9 \/ i.op = 24 then ProcWith im i.num i.args.length
  else if i.op = 10 then ProcWith im i.num (i.args.length + 1) /\ ∀ q, im.procs[i.num.toNat]? = some q -> q.lent.length = 0
  else if i.op = 16 \/ i.op = 17 then (1 <= i.args.length /\ i.args.length <= 4) /\ i.num = 0
  else if i.op = 19 then i.args.length = 1 /\ 0 <= i.num /\ i.num <= 2
  else if i.op = 20 then i.args.length = 1 /\ (k : Int) + 1 <= i.num /\ i.num <= (p.code.length : Int) - 1
  else if i.op = 22 then i.args.length = 0 /\ (k : Int) + 1 <= i.num /\ i.num <= (p.code.length : Int) - 1
  else if i.op = 21 then i.args.length = 1 /\ 0 < (q17 im.decls i.num).length /\ JumpsOk i.jumps (q17 im.decls i.num).length k p.code.length
  else False
structure InstrOk (im : Image) (p : Proc) (k : Nat) (i : Instr) : Prop where
  args : ∀ a ∈ i.args, 0 <= a /\ a <= p.regs - 1
  dst : 0 <= i.dst /\ i.dst <= p.regs - 1
  dst0 : i.dst = 0 \/ Sets i.op
  into : i.into = 0 \/ i.op = 6
  jumps : i.op = 21 \/ i.jumps.length = 0
  op : OpOk im p k i
structure ProcC (m : Mem) (a l : Sl) (c : Sl) (p : Proc) : Prop where
  params : q03 m a p.params
  lent : q03 m l p.lent
  code : q19 m c p.code
theorem ProcC.ext {m m' : Mem} (hx : Ext m m') {a l c : Sl} {p : Proc} (h : ProcC m a l c p) : ProcC m' a l c p := ⟨h.params.ext hx, h.lent.ext hx, q19.ext hx h.code⟩
set_option maxHeartbeats 1000000 in
theorem qjx {m : Mem} {d p : Sl} {im : Image} (h : ImageR m d p im) (ht : TypesOk im.decls) {a l c : Sl} {q : Proc} (hq : ProcC m a l c q) (hr : 1 <= q.regs /\ q.regs <= 2000) {k : Nat} {i : Instr} (hk : q.code[k]? = some i) :
    q0q Tryz.prog q6z [.agg #[Sl.v d, Sl.v p], .agg #[Sl.v a, Sl.v l, vi q.result, vi q.regs, Sl.v c], vi k] m (InstrOk im q k i) := by
  apply qfm
  unfold qak
  simp -zeta only [q0c, q0d]
  intro m1 m2
  have hx2 : Ext m m2 := ((Ext.refl m).pushed _).pushed _
  have hkl := q07 hk
  have hcl := hq.code.len
  have hclim := hq.code.lim
  obtain ⟨xa, xj, ha, hj, g0, g1, g2, g3, g4, g5⟩ := (q19.ext hx2 hq.code).at' hk
  refine ⟨by omega, by omega, _, g0, _, g1, _, g2, _, g3, _, g4, _, g5, ?_⟩
  intro m3 m4
  have hx0 : Ext m m4 := (hx2.pushed _).scells hx2.size _ _
  have hx24 : Ext m2 m4 := ((Ext.refl m2).pushed _).scells (Nat.le_refl _) _ _
  have hl : ∀ b ∈ [m2.size, m1.size, m.size], b < m4.size := by
    simp [m4, m3, m2, m1, q04]; omega
  clear_value m4
  have hal := ha.len
  have hjl := hj.len
  have halim := ha.lim
  have er : w64 (q.regs - 1) = q.regs - 1 := q08 (by omega) (by omega)
  rw [er]
  refine forI (n := i.args.length) (hal ▸ ha.lim) (fun j m' => Ext m4 m' /\ ∀ x ∈ i.args.take j, 0 <= x /\ x <= q.regs - 1) ⟨Ext.refl _, by simp⟩ ?_
  rintro j m5 I μ hjj ⟨hx, hn⟩ next
  refine ⟨fun h1 => ?_, fun h1 => ?_⟩
  · simp only [decide_eq_true_eq] at h1
    obtain ⟨x, hx1⟩ := q02 (l := i.args) (k := j) (by omega)
    refine ⟨by omega, by omega, x, by simpa using (hx24.trans hx).gcell (ha.at' hx1), ?_⟩
    refine (q0o _ _ _ _).thenS hx hl fun b m6 hb h2 h3 => ⟨_, rfl, fun h4 => ?_, fun h4 => ?_⟩
    · exact retF (fun hp => nb hb h4 (hp.args x (q06 hx1))) (hx0.trans h3)
    · exact next (by omega) _ ⟨h3, q0l hx1 hn (yb hb h4)⟩
  · simp only [decide_eq_false_iff_not] at h1
    have hargs := q10 (by omega) hn
    refine ⟨fun m' => Ext m4 m' /\ (0 <= i.dst /\ i.dst <= q.regs - 1) /\ (i.dst = 0 \/ Sets i.op) /\ (i.into = 0 \/ i.op = 6) /\ (i.op = 21 \/ i.jumps.length = 0), ?_, ?_⟩
    · refine (q0o _ _ _ _).thenS hx hl fun b m6 hb h2 h3 => ⟨_, rfl, fun h4 => ?_, fun h4 => ?_⟩
      · exact retF (fun hp => nb hb h4 hp.dst) (hx0.trans h3)
      · have hdst := yb hb h4
        have tail : ∀ m' : Mem, Ext m4 m' -> (i.dst = 0 \/ Sets i.op) ->
            ((i.into != 0) = true -> ((i.op != 6) = true -> ∃ b' : Bool, vb false = .bool b' /\ (b' = true ↔ InstrOk im q k i) /\ Ext m m') /\ ((i.op != 6) = false ->
              ((i.op != 21) = true -> ((decide ((xj.len : Int) > 0)) = true -> ∃ b' : Bool, vb false = .bool b' /\ (b' = true ↔ InstrOk im q k i) /\ Ext m m') /\ ((decide ((xj.len : Int) > 0)) = false -> Ext m4 m' /\ (0 <= i.dst /\ i.dst <= q.regs - 1) /\ (i.dst = 0 \/ Sets i.op) /\ (i.into = 0 \/ i.op = 6) /\ (i.op = 21 \/ i.jumps.length = 0))) /\
              ((i.op != 21) = false -> Ext m4 m' /\ (0 <= i.dst /\ i.dst <= q.regs - 1) /\ (i.dst = 0 \/ Sets i.op) /\ (i.into = 0 \/ i.op = 6) /\ (i.op = 21 \/ i.jumps.length = 0)))) /\
            ((i.into != 0) = false ->
              ((i.op != 21) = true -> ((decide ((xj.len : Int) > 0)) = true -> ∃ b' : Bool, vb false = .bool b' /\ (b' = true ↔ InstrOk im q k i) /\ Ext m m') /\ ((decide ((xj.len : Int) > 0)) = false -> Ext m4 m' /\ (0 <= i.dst /\ i.dst <= q.regs - 1) /\ (i.dst = 0 \/ Sets i.op) /\ (i.into = 0 \/ i.op = 6) /\ (i.op = 21 \/ i.jumps.length = 0))) /\
              ((i.op != 21) = false -> Ext m4 m' /\ (0 <= i.dst /\ i.dst <= q.regs - 1) /\ (i.dst = 0 \/ Sets i.op) /\ (i.into = 0 \/ i.op = 6) /\ (i.op = 21 \/ i.jumps.length = 0))) := by
          intro m' hx' hd0
          have jl : (i.into = 0 \/ i.op = 6) -> ((i.op != 21) = true -> ((decide ((xj.len : Int) > 0)) = true -> ∃ b' : Bool, vb false = .bool b' /\ (b' = true ↔ InstrOk im q k i) /\ Ext m m') /\ ((decide ((xj.len : Int) > 0)) = false -> Ext m4 m' /\ (0 <= i.dst /\ i.dst <= q.regs - 1) /\ (i.dst = 0 \/ Sets i.op) /\ (i.into = 0 \/ i.op = 6) /\ (i.op = 21 \/ i.jumps.length = 0))) /\
              ((i.op != 21) = false -> Ext m4 m' /\ (0 <= i.dst /\ i.dst <= q.regs - 1) /\ (i.dst = 0 \/ Sets i.op) /\ (i.into = 0 \/ i.op = 6) /\ (i.op = 21 \/ i.jumps.length = 0)) := by
            intro hi
            refine ⟨fun h5 => ⟨fun h6 => ?_, fun h6 => ?_⟩, fun h5 => ?_⟩
            · simp at h5 h6
              exact retF (fun hp => by rcases hp.jumps with h7 | h7 <;> omega) (hx0.trans hx')
            · simp at h6
              exact ⟨hx', hdst, hd0, hi, Or.inr (by omega)⟩
            · simp at h5
              exact ⟨hx', hdst, hd0, hi, Or.inl h5⟩
          refine ⟨fun h5 => ⟨fun h6 => ?_, fun h6 => jl (Or.inr (by simpa using h6))⟩, fun h5 => jl (Or.inl (by simpa using h5))⟩
          simp at h5 h6
          exact retF (fun hp => by rcases hp.into with h7 | h7 <;> contradiction) (hx0.trans hx')
        refine ⟨fun h5 => ?_, fun h5 => tail m6 h3 (Or.inl (by simpa using h5))⟩
        refine (qka _ _).thenS h3 hl fun b m7 hb h6 h7 => ⟨_, rfl, fun h8 => ?_, fun h8 => tail m7 h7 (Or.inr (yb hb h8))⟩
        simp at h5
        exact retF (fun hp => by rcases hp.dst0 with h9 | h9; exact h5 h9; exact nb hb h8 h9) (hx0.trans h7)
    · rintro m8 ⟨hx8, hdst, hd0, hin, hju⟩
      have hxm := hx0.trans hx8
      have hiff : InstrOk im q k i ↔ OpOk im q k i := ⟨fun hp => hp.op, fun hp => ⟨hargs, hdst, hd0, hin, hju, hp⟩⟩
      rw [hiff]
      have hI : ImageR m8 d p im := ImageR.ext hxm h
      refine ⟨fun e0 => ?_, fun e0 => ?_⟩
      · simp only [beq_iff_eq] at e0
        have eo : OpOk im q k i ↔ i.args.length = 0 /\ -999 <= i.num /\ i.num <= 999 := by rw [OpOk, if_pos e0]
        rw [eo]
        refine ⟨fun h2 => ?_, fun h2 => ?_⟩
        · simp only [beq_iff_eq] at h2
          refine (q0o _ _ _ _).thenS hx8 hl fun b m9 hb h3 h4 => ⟨_, rfl, retB ?_ (hx0.trans h4)⟩
          rw [hb]; omega
        · simp only [beq_eq_false_iff_ne] at h2
          exact retF (by omega) hxm
      simp only [beq_eq_false_iff_ne] at e0
      refine ⟨fun e1 => ?_, fun e1 => ?_⟩
      · simp only [Bool.or_eq_true, beq_iff_eq] at e1
        have eo : OpOk im q k i ↔ i.args.length = 2 /\ i.num = 0 := by rw [OpOk, if_neg e0, if_pos e1]
        rw [eo]
        refine ⟨fun h2 => retB ?_ hxm, fun h2 => retF ?_ hxm⟩
        · simp only [beq_iff_eq] at h2 ⊢; omega
        · simp only [beq_eq_false_iff_ne] at h2; omega
      simp only [Bool.or_eq_false_iff, beq_eq_false_iff_ne] at e1
      replace e1 : ¬ (i.op = 1 \/ i.op = 2 \/ i.op = 3 \/ i.op = 4 \/ i.op = 11) := by omega
      refine ⟨fun e2 => ?_, fun e2 => ?_⟩
      · simp only [Bool.or_eq_true, beq_iff_eq] at e2
        have eo : OpOk im q k i ↔ i.args.length = 1 /\ i.num = 0 := by rw [OpOk, if_neg e0, if_neg e1, if_pos e2]
        rw [eo]
        refine ⟨fun h2 => retB ?_ hxm, fun h2 => retF ?_ hxm⟩
        · simp only [beq_iff_eq] at h2 ⊢; omega
        · simp only [beq_eq_false_iff_ne] at h2; omega
      simp only [Bool.or_eq_false_iff, beq_eq_false_iff_ne] at e2
      replace e2 : ¬ (i.op = 5 \/ i.op = 14 \/ i.op = 15 \/ i.op = 18 \/ i.op = 23) := by omega
      refine ⟨fun e3 => ?_, fun e3 => ?_⟩
      · simp only [beq_iff_eq] at e3
        have eo : OpOk im q k i ↔ (0 <= i.num /\ i.num < (q14 im.decls).length) /\ i.args.length = (q21 im.decls i.num).length /\ 0 <= i.into /\ i.into <= q.regs := by rw [OpOk, if_neg e0, if_neg e1, if_neg e2, if_pos e3]
        rw [eo]
        refine (qek hI.decls ht _).thenS hx8 hl ?_
        rintro _ m9 ⟨t, rfl, hct, h3⟩
        refine ⟨h3, _, rfl, fun h4 => ?_, fun h4 => ?_⟩
        · simp only [decide_eq_true_eq] at h4
          have hin' : 0 <= i.num /\ i.num < (q14 im.decls).length := by
            rcases hct with ⟨j', d', h5, h6, h7, h8⟩ | ⟨h5, _⟩
            · have := qs1 im.decls (show j' + 1 <= im.decls.length from q07 h6)
              rw [q6m h6, fc_all im.decls _ (Nat.le_refl _)] at this
              omega
            · omega
          refine (ql1 (q0j.ext h3 hI.decls) ht _).thenS (hx8.trans h3) hl ?_
          rintro _ m10 ⟨s, rfl, hs, h5⟩
          have hsl := hs.len
          refine ⟨h5, _, rfl, fun h6 => ?_, fun h6 => ?_⟩
          · simp only [beq_iff_eq] at h6
            refine (q0o _ _ _ _).thenS ((hx8.trans h3).trans h5) hl fun b m11 hb h7 h8 => ⟨_, rfl, retB ?_ (hx0.trans h8)⟩
            rw [hb]
            exact ⟨fun hh => ⟨hin', by omega, hh⟩, fun hh => hh.2.2⟩
          · simp only [beq_eq_false_iff_ne] at h6
            exact retF (fun hh => h6 (by omega)) ((hxm.trans h3).trans h5)
        · simp only [decide_eq_false_iff_not] at h4
          refine retF (fun hh => ?_) (hxm.trans h3)
          rcases hct with ⟨j', d', h5, h6, h7, h8⟩ | ⟨_, h5⟩
          · omega
          · exact h5 hh.1
      simp only [beq_eq_false_iff_ne] at e3
      refine ⟨fun e4 => ?_, fun e4 => ?_⟩
      · simp only [Bool.or_eq_true, beq_iff_eq] at e4
        have eo : OpOk im q k i ↔ ProcWith im i.num (i.args.length + 0) := by rw [OpOk, if_neg e0, if_neg e1, if_neg e2, if_neg e3, if_pos e4]; rfl
        rw [eo]
        have hcall := qdg hI i.num i.args.length 0 (by omega) (by omega)
        rw [hal]
        refine hcall.thenS hx8 hl fun b m9 hb h3 h4 => ⟨_, rfl, retB hb (hx0.trans h4)⟩
      simp only [Bool.or_eq_false_iff, beq_eq_false_iff_ne] at e4
      replace e4 : ¬ (i.op = 9 \/ i.op = 24) := by omega
      refine ⟨fun e5 => ?_, fun e5 => ?_⟩
      · simp only [beq_iff_eq] at e5
        have eo : OpOk im q k i ↔ ProcWith im i.num (i.args.length + 1) /\ ∀ q, im.procs[i.num.toNat]? = some q -> q.lent.length = 0 := by rw [OpOk, if_neg e0, if_neg e1, if_neg e2, if_neg e3, if_neg e4, if_pos e5]
        rw [eo]
        have hcall := qdg hI i.num i.args.length 1 (by omega) (by omega)
        rw [hal]
        refine hcall.thenS hx8 hl fun b m9 hb h3 h4 => ⟨_, rfl, fun h5 => ?_, fun h5 => retF (fun hh => fb hb h5 hh.1) (hx0.trans h4)⟩
        have h5 := hb.1 h5
        obtain ⟨q', h6, h7, h8⟩ := h5
        obtain ⟨a', b', c', ha', hb', hc', f0, f1, f2, f3, f4⟩ := (ProcSl.ext h3 hI.procs).at' h7
        have := hI.procs.len
        have := q07 h7
        refine ⟨by omega, by omega, b', f1, retB ?_ (hx0.trans h4)⟩
        have hbl := hb'.len
        simp only [beq_iff_eq]
        refine ⟨fun hh => ⟨⟨q', h6, h7, h8⟩, fun q'' h9 => ?_⟩, fun hh => ?_⟩
        · rw [h7] at h9; simp at h9; subst h9; omega
        · have := hh.2 q' h7; omega
      simp only [beq_eq_false_iff_ne] at e5
      refine ⟨fun e6 => ?_, fun e6 => ?_⟩
      · simp only [Bool.or_eq_true, beq_iff_eq] at e6
        have eo : OpOk im q k i ↔ (1 <= i.args.length /\ i.args.length <= 4) /\ i.num = 0 := by rw [OpOk, if_neg e0, if_neg e1, if_neg e2, if_neg e3, if_neg e4, if_neg e5, if_pos e6]
        rw [eo]
        refine (q0o _ _ _ _).thenS hx8 hl fun b m9 hb h3 h4 => ⟨_, rfl, fun h5 => retB ?_ (hx0.trans h4), fun h5 => retF ?_ (hx0.trans h4)⟩
        · have h5 := hb.1 h5
          simp only [beq_iff_eq]; omega
        · have h5 := fb hb h5; omega
      simp only [Bool.or_eq_false_iff, beq_eq_false_iff_ne] at e6
      replace e6 : ¬ (i.op = 16 \/ i.op = 17) := by omega
      refine ⟨fun e7 => ?_, fun e7 => ?_⟩
      · simp only [beq_iff_eq] at e7
        have eo : OpOk im q k i ↔ i.args.length = 1 /\ 0 <= i.num /\ i.num <= 2 := by rw [OpOk, if_neg e0, if_neg e1, if_neg e2, if_neg e3, if_neg e4, if_neg e5, if_neg e6, if_pos e7]
        rw [eo]
        refine ⟨fun h2 => ?_, fun h2 => ?_⟩
        · simp only [beq_iff_eq] at h2
          refine (q0o _ _ _ _).thenS hx8 hl fun b m9 hb h3 h4 => ⟨_, rfl, retB ?_ (hx0.trans h4)⟩
          rw [hb]; omega
        · simp only [beq_eq_false_iff_ne] at h2
          exact retF (by omega) hxm
      simp only [beq_eq_false_iff_ne] at e7
      have ek : w64 ((k : Int) + 1) = (k : Int) + 1 := q08 (by omega) (by omega)
      have ec : w64 ((c.len : Int) - 1) = (q.code.length : Int) - 1 := by rw [q08 (by omega) (by omega), hcl]
      rw [ek, ec]
      refine ⟨fun e8 => ?_, fun e8 => ?_⟩
      · simp only [beq_iff_eq] at e8
        have eo : OpOk im q k i ↔ i.args.length = 1 /\ (k : Int) + 1 <= i.num /\ i.num <= (q.code.length : Int) - 1 := by rw [OpOk, if_neg e0, if_neg e1, if_neg e2, if_neg e3, if_neg e4, if_neg e5, if_neg e6, if_neg e7, if_pos e8]
        rw [eo]
        refine ⟨fun h2 => ?_, fun h2 => ?_⟩
        · simp only [beq_iff_eq] at h2
          refine (q0o _ _ _ _).thenS hx8 hl fun b m9 hb h3 h4 => ⟨_, rfl, retB ?_ (hx0.trans h4)⟩
          rw [hb]; omega
        · simp only [beq_eq_false_iff_ne] at h2
          exact retF (by omega) hxm
      simp only [beq_eq_false_iff_ne] at e8
      refine ⟨fun e9 => ?_, fun e9 => ?_⟩
      · simp only [beq_iff_eq] at e9
        have eo : OpOk im q k i ↔ i.args.length = 0 /\ (k : Int) + 1 <= i.num /\ i.num <= (q.code.length : Int) - 1 := by rw [OpOk, if_neg e0, if_neg e1, if_neg e2, if_neg e3, if_neg e4, if_neg e5, if_neg e6, if_neg e7, if_neg e8, if_pos e9]
        rw [eo]
        refine ⟨fun h2 => ?_, fun h2 => ?_⟩
        · simp only [beq_iff_eq] at h2
          refine (q0o _ _ _ _).thenS hx8 hl fun b m9 hb h3 h4 => ⟨_, rfl, retB ?_ (hx0.trans h4)⟩
          rw [hb]; omega
        · simp only [beq_eq_false_iff_ne] at h2
          exact retF (by omega) hxm
      simp only [beq_eq_false_iff_ne] at e9
      refine ⟨fun e10 => ?_, fun e10 => ?_⟩
      · simp only [beq_iff_eq] at e10
        have eo : OpOk im q k i ↔ i.args.length = 1 /\ 0 < (q17 im.decls i.num).length /\ JumpsOk i.jumps (q17 im.decls i.num).length k q.code.length := by rw [OpOk, if_neg e0, if_neg e1, if_neg e2, if_neg e3, if_neg e4, if_neg e5, if_neg e6, if_neg e7, if_neg e8, if_neg e9, if_pos e10]
        rw [eo]
        refine (qfq hI.decls ht _).thenS hx8 hl ?_
        rintro _ m9 ⟨s, rfl, hs, h3⟩
        have hsl := hs.len
        refine ⟨h3, _, rfl, fun h4 => ?_, fun h4 => ?_⟩
        · simp only [beq_iff_eq] at h4
          refine ⟨fun h5 => ?_, fun h5 => ?_⟩
          · simp only [decide_eq_true_eq] at h5
            rw [hsl, hcl]
            refine (qju (hj.ext (hx24.trans (hx8.trans h3))) _ _ _ (by omega) (by omega)).thenS (hx8.trans h3) hl fun b m10 hb h6 h7 => ⟨_, rfl, retB ?_ (hx0.trans h7)⟩
            rw [hb]
            exact ⟨fun hh => ⟨by omega, by omega, hh⟩, fun hh => hh.2.2⟩
          · simp only [decide_eq_false_iff_not] at h5
            exact retF (fun hh => by omega) (hxm.trans h3)
        · simp only [beq_eq_false_iff_ne] at h4
          exact retF (fun hh => by omega) (hxm.trans h3)
      · simp only [beq_eq_false_iff_ne] at e10
        have eo : OpOk im q k i ↔ False := by rw [OpOk, if_neg e0, if_neg e1, if_neg e2, if_neg e3, if_neg e4, if_neg e5, if_neg e6, if_neg e7, if_neg e8, if_neg e9, if_neg e10]
        rw [eo]
        exact retF (fun hh => hh) hxm
end
end Go.Proofs.YtpggcodlaajceaaGreat
