/- Part of a proof, joined by a program: La3 La4 La5 La6. -/
import Derived.Test.YtpggcodlaajceaaGreatE13
section
/- The laws' helpers for struct types; printed by lawgen.py. -/
namespace Go.Proofs.YtpggcodlaajceaaGreat
open Go.Vc
/-! Con -/
def q7k : Row := .sl (.int .nil) (.nil)
def Sm_Con (x : List Int) : Prop := (x).length <= 1048576
def qfr (l : List (List Int)) : Prop := l.length <= 1048576 /\ ∀ x ∈ l, Sm_Con x
def q12 (m0 m : Mem) (cs : List Ce) (x : List Int) : Prop := ∃ q0 : Sl, cs = [.s q0] /\ CpI m0 m q0 (x)
abbrev q93 (m0 m : Mem) (s : Sl) (l : List (List Int)) : Prop := CpS qef 1 (q12 m0 m) m0 m s l
theorem q12.mono {m0 m m1 m' : Mem} (hk : Kp m0.size m m') (hb : m1.size <= m0.size) {cs : List Ce} {x : List Int} : q12 m0 m cs x -> q12 m1 m' cs x := by
  rintro ⟨q0, rfl, h0⟩
  exact ⟨q0, rfl, (h0.keep hk).base hb⟩
theorem q12.read {m0 m : Mem} {cs : List Ce} {x : List Int} (h : q12 m0 m cs x) (hs : Sm_Con x) : ConR m cs x := by
  obtain ⟨q0, rfl, h0⟩ := h
  exact ⟨q0, rfl, IntSl.ofOwn h0 (by have : (x).length <= 1048576 := hs; omega)⟩
theorem q93.read {m0 m : Mem} {s : Sl} {l : List (List Int)} (h : q93 m0 m s l) (hs : qfr l) : ConSl m s l := CpS.read (sz := 0) h (fun cs x hx hr => q12.read hr (hs.2 x hx)) hs.1
theorem q12.walk {m0 m : Mem} {cs : List Ce} {x : List Int} (h : q12 m0 m cs x) (hs : Sm_Con x) (b o : Nat) (hr : rowIs m b o cs) (hf : ∀ i, i < cs.length -> Vc.froz m b (o + i) = false) (hb : m0.size <= b) : ∃ pos, Walk m (.row q7k) b o pos /\ (∀ p ∈ pos, m0.size <= p.1) /\ pos.length <= 1048576 := by
  obtain ⟨q0, rfl, h0⟩ := h
  obtain ⟨p0, w0, b0, l0⟩ := CpI.walk h0 hs
  have v0 : q0.len <= 9223372036854775807 := by have := CpI.slen h0; have : (x).length <= 1048576 := hs; omega
  refine ⟨p0 ++ ([]), .sl (s := q0) (hr 0 (.s q0) rfl) v0 w0 (.nil _ _), fun p hp => ?_, ?_⟩
  · simp only [List.mem_append, List.mem_cons, List.not_mem_nil, or_false] at hp
    exact b0 p hp
  · simp only [List.length_append, List.length_cons, List.length_nil]; omega
theorem q93.walk {m0 m : Mem} {s : Sl} {l : List (List Int)} (h : q93 m0 m s l) (hs : qfr l) : ∃ pos, Walk m (.rows q7k s.len) s.blk s.off pos /\ (∀ p ∈ pos, m0.size <= p.1) /\ pos.length <= 1099511627776 := by
  obtain ⟨pos, h1, h2, h3⟩ := CpS.walk (sz := 0) (r := q7k) h rfl (fun cs x hx hr => q12.walk hr (hs.2 x hx))
  exact ⟨pos, h1, h2, Nat.le_trans h3 (Nat.le_trans (Nat.mul_le_mul_right 1048576 hs.1) (by decide))⟩
theorem qpn {m : Mem} {x : List Int} {q0 : Sl} (h0 : IntSl m q0 (x)) {left : Int} (z0 : Lft left) : CallV Tryz.prog qc4 [.agg #[Sl.v q0], vi left] m (SzR left (Sm_Con x) m) := by
  apply qll
  unfold qh8
  simp -zeta only [q05, q06]
  intro m1
  have e0 : Ext m m1 := (Ext.refl m).pushed _
  have s1 : m1.size = m.size + 1 := by simp [m1]
  clear_value m1
  obtain ⟨z1, z2⟩ := z0
  refine (q3x (h0.ext e0) (left := left) ⟨by omega, by omega⟩).mono ?_
  rintro _ m2 ⟨n1, rfl, le1, sm1, x1⟩
  have e1 : Ext m m2 := e0.trans x1
  refine ⟨x1.sam (by simp; omega), n1, rfl, fun h => ⟨-1, rfl, by omega, fun h => by omega, e1⟩, fun h => ?_⟩
  simp only [decide_eq_false_iff_not] at h
  have y1 : m.size + 1 <= m2.size := by have := x1.size; omega
  exact ⟨_, rfl, by omega, fun _ => sm1 (by omega), e1⟩
theorem qol {m : Mem} {s : Sl} {l : List (List Int)} (h : ConSl m s l) {left : Int} (z0 : Lft left) : CallV Tryz.prog qam [Sl.v s, vi left] m (SzR left (qfr l) m) := by
  apply qk3
  have h1 := h.len
  have h2 := h.lim
  obtain ⟨h3, h4⟩ := z0
  have e : w64 (left - (s.len : Int)) = left - s.len := w64_in (by omega) (by omega)
  unfold qfl
  rw [e]
  refine ⟨fun _ => ⟨-1, rfl, by omega, fun h => by omega, Ext.refl _⟩, fun h5 => ?_⟩
  simp only [decide_eq_false_iff_not] at h5
  refine forSI (σ := Int) (n := l.length) (by omega) (fun k n m' => 0 <= n /\ n <= left /\ Ext m m' /\ ∀ x ∈ l.take k, Sm_Con x) ⟨by omega, by omega, Ext.refl _, by simp⟩ ?_
  rintro k n m1 I μ hk ⟨hn, hn2, hx, hs⟩ next
  refine ⟨fun h6 => ?_, fun h6 => ?_⟩
  · simp only [decide_eq_true_eq] at h6
    obtain ⟨y, hy⟩ := q00 (l := l) (k := k) (by omega)
    obtain ⟨q0, h0, g0⟩ := (ConSl.ext hx h).at' hy
    refine ⟨by omega, by omega, _, g0, (qpn h0 ⟨hn, by omega⟩).mono ?_⟩
    rintro _ m2 ⟨n2, rfl, le2, sm2, hx2⟩
    refine ⟨n2, rfl, fun h => ⟨-1, rfl, by omega, fun h => by omega, hx.trans hx2⟩, fun h7 => ?_⟩
    simp only [decide_eq_false_iff_not] at h7
    refine next (by omega) _ _ ⟨by omega, by omega, hx.trans hx2, fun x hxm => ?_⟩
    rw [q04 hy] at hxm
    rcases List.mem_append.1 hxm with h8 | h8
    · exact hs x h8
    · simp at h8; subst h8; exact sm2 (by omega)
  · simp only [decide_eq_false_iff_not] at h6
    rw [q0a (by omega)] at hs
    exact ⟨n, rfl, hn2, fun _ => ⟨by omega, hs⟩, hx⟩
theorem qpl {m : Mem} {x : List Int} {q0 : Sl} (h0 : IntSl m q0 (x)) (hs : Sm_Con x) : CallV Tryz.prog qch [.agg #[Sl.v q0]] m fun v m' => ∃ r0 : Sl, v = .agg #[Sl.v r0] /\ q12 m m' [.s r0] x /\ Ext m m' := by
  apply qlx
  unfold qh3
  simp -zeta only [q05, q06]
  intro m1 m2 m3
  have s1 : m1.size = m.size + 1 := by simp [m1]
  have s2 : m2.size = m.size + 2 := by simp [m2, s1]
  have s3 : m3.size = m.size + 3 := by simp [m3, s2]
  have x3 : Ext m m3 := (((Ext.refl m).pushed _).pushed _).pushed _
  have y3 : m3.size <= m3.size := Nat.le_refl _
  clear_value m3
  refine (q41 (h0.ext x3) hs).mono ?_
  rintro _ m4 ⟨r0, rfl, c0, u4⟩
  have x4 : Ext m m4 := x3.trans u4
  have y4 : m3.size <= m4.size := by have := u4.size; omega
  have kp4 : Kp m3.size m3 m4 := Kp.ext u4
  replace c0 := Own.base (m0 := m3) c0 y3
  refine ⟨u4.sam (by simp; omega), r0, rfl, ?_⟩
  intro m5
  have x5 : Ext m m5 := x4.scells (by omega) _ _
  have y5 : m3.size <= m5.size := Nat.le_trans y4 (Nat.le_of_eq (q02 _ _ _ _).symm)
  have kp5 : Kp m3.size m4 m5 := Kp.box (by omega) _ _
  clear_value m5
  replace c0 := c0.keep (kp5)
  intro m6
  have x6 : Ext m m6 := x5.scells (by omega) _ _
  have kp6 : Kp m3.size m5 m6 := Kp.box (by omega) _ _
  clear_value m6
  replace c0 := c0.keep (kp6)
  have hR : q12 m3 m6 [.s r0] x := ⟨r0, rfl, c0⟩
  exact ⟨r0, rfl, q12.mono (Kp.ext (Ext.refl _)) (by omega) hR, x6⟩
theorem qoa {m : Mem} {s : Sl} {l : List (List Int)} (h : ConSl m s l) (hs : qfr l) : CallV Tryz.prog qav [Sl.v s] m fun v m' => ∃ s', v = Sl.v s' /\ q93 m m' s' l /\ Ext m m' := by
  apply qkn
  unfold qfv
  have hsl := h.len
  have hl := hs.1
  have e0 : Int.toNat (s.len : Int) = l.length := by omega
  rw [e0]
  refine ⟨by omega, Int.le_refl _, by omega, by omega, ?_⟩
  intro m1
  have x1 : Ext m m1 := (Ext.refl m).pushed _
  have s1 : m1.size = m.size + 1 := by simp [m1]
  have k1 : Blk m1 m.size qef (zrow [.s Sl.nil] l.length) := Blk.push m _ _
  clear_value m1
  simp -zeta only [Sl.blk_mk, Sl.off_mk, Sl.len_mk, Nat.zero_add]
  refine forI (n := l.length) (by omega) (fun k m' => Ext m m' /\ m1.size <= m'.size /\ ∃ css, Blk m' m.size qef (css.flatten ++ zrow [.s Sl.nil] (l.length - css.length)) /\ css.length = k /\ RowsOf 1 (q12 m1 m') css (l.take k)) ⟨x1, Nat.le_refl _, [], by simpa using k1, rfl, by simpa using RowsOf.nil _ _⟩ ?_
  rintro k m2 I μ hk ⟨hx, hm2, css, kk, hck, hrow⟩ next
  refine ⟨fun h6 => ?_, fun h6 => ?_⟩
  · simp only [decide_eq_true_eq] at h6
    obtain ⟨y, hy⟩ := q00 (l := l) (k := k) (by omega)
    obtain ⟨q0, h0, g0⟩ := (ConSl.ext hx h).at' hy
    refine ⟨by omega, by omega, _, g0, (qpl h0 (hs.2 y (q01 hy))).mono ?_⟩
    rintro _ m3 ⟨r0, rfl, hc, x3⟩
    have ek : Int.toNat (k : Int) = k := by omega
    have hm3 := x3.size
    refine ⟨_, rfl, by omega, by omega, ?_⟩
    rw [ek]
    have hfl : css.flatten.length = k * 1 := by rw [q0i hrow.size, hck]
    refine ⟨(kk.ext x3).wrOk (by rw [List.length_append, hfl, qg6, hck]; simp only [List.length_cons, List.length_nil]; omega), next (by omega) _ ⟨(hx.trans x3).scells (Nat.le_refl _) _ _, by rw [q02]; omega, css ++ [[.s r0]], ?_, by simp [hck], ?_⟩⟩
    · have := Blk.scells (m := m3) (o := k * 1) (r := [.s r0]) (kk.ext x3)
      have e1 := fillRow (css := css) (zs := [.s Sl.nil]) (cs := [.s r0]) (n := l.length) hrow.size rfl (by omega)
      simp only [List.length_cons, List.length_nil, Nat.zero_add, hck] at e1
      rw [hck] at this
      rw [e1] at this
      simpa [hck] using this
    · rw [q04 hy]
      have kp : Kp m1.size m2 (scells m3 m.size (k * 1) [.s r0]) := fun b hb1 hb2 => by rw [q0f _ _ _ _ (by omega), x3.same b hb2]
      refine RowsOf.snoc ⟨hrow.len, hrow.size, fun j cs x hj hx => q12.mono kp (Nat.le_refl _) (hrow.each j cs x hj hx)⟩ rfl (q12.mono (m0 := m2) (m1 := m1) (m := m3) (Kp.box (by omega) _ _) (by omega) hc)
  · simp only [decide_eq_false_iff_not] at h6
    have : k = l.length := by omega
    subst this
    rw [q0a (Nat.le_refl _)] at hrow
    have e2 : l.length - css.length = 0 := by omega
    rw [e2] at kk
    simp only [zrow, List.replicate_zero, List.flatten_nil, List.append_nil] at kk
    exact ⟨_, rfl, ⟨css, ⟨by simp only [Sl.len_mk]; rw [q0i hrow.size, hck], Or.inr ⟨m.size, l.length, [], rfl, Nat.le_refl _, by rw [List.append_nil]; exact kk, by rw [List.append_nil, q0i hrow.size, hck], Nat.le_refl _⟩⟩, hrow.len, hrow.size, fun j cs x hj hx => q12.mono (Kp.ext (Ext.refl _)) (by omega) (hrow.each j cs x hj hx)⟩, hx⟩
theorem qpm {m : Mem} {x y : List Int} {q0 r0 : Sl} (h0 : IntSl m q0 (x)) (k0 : IntSl m r0 (y)) : GetsB Tryz.prog qcb [.agg #[Sl.v q0], .agg #[Sl.v r0]] m (x = y) := by
  apply qlq
  unfold qh9
  simp -zeta only [q05, q06]
  intro m1 m2
  have x2 : Ext m m2 := ((Ext.refl m).pushed _).pushed _
  have s1 : m1.size = m.size + 1 := by simp [m1]
  have s2 : m2.size = m.size + 2 := by simp [m2, s1]
  have y2 : m.size + 2 <= m2.size := by omega
  clear_value m2
  refine (q32 (h0.ext x2) (k0.ext x2)).mono ?_
  rintro _ m3 ⟨b0, rfl, hb0, u3⟩
  have x3 : Ext m m3 := x2.trans u3
  have y3 : m.size + 2 <= m3.size := by have := u3.size; omega
  refine ⟨u3.sam (by simp; omega), b0, rfl, fun h => retF (fun e => by subst e; exact nb hb0 h rfl) x3, fun h => ?_⟩
  have i0 := yb hb0 h
  clear h
  exact retT i0 x3
theorem qoe {m : Mem} {s t : Sl} {l r : List (List Int)} (hs : ConSl m s l) (ht : ConSl m t r) : GetsB Tryz.prog qan [Sl.v s, Sl.v t] m (l = r) := by
  apply ql3
  unfold qfn
  have hsl := hs.len
  have htl := ht.len
  refine ⟨fun h => retF (fun e => ?_) (Ext.refl _), fun h => ?_⟩
  · subst e; simp at h; omega
  · have hlen : l.length = r.length := by simp at h; omega
    refine forI (n := l.length) (hsl ▸ hs.lim) (fun k m' => Ext m m' /\ l.take k = r.take k) ⟨Ext.refl _, by simp⟩ ?_
    rintro k m1 I μ hk ⟨hx, he⟩ next
    refine ⟨fun h1 => ?_, fun h1 => ?_⟩
    · simp only [decide_eq_true_eq] at h1
      obtain ⟨y, hy⟩ := q00 (l := l) (k := k) (by omega)
      obtain ⟨z, hz⟩ := q00 (l := r) (k := k) (by omega)
      obtain ⟨q0, h0, g0⟩ := (ConSl.ext hx hs).at' hy
      obtain ⟨r0, k0, f0⟩ := (ConSl.ext hx ht).at' hz
      refine ⟨by omega, by omega, _, g0, by omega, by omega, _, f0, (qpm h0 k0).mono ?_⟩
      rintro _ m2 ⟨b, rfl, hb, x2⟩
      refine ⟨b, rfl, fun h2 => retF (fun e => nb hb h2 ?_) (hx.trans x2), fun h2 => next (by omega) _ ⟨hx.trans x2, ?_⟩⟩
      · subst e; rw [hy] at hz; simpa using hz
      · rw [q04 hy, q04 hz, he, yb hb h2]
    · simp only [decide_eq_false_iff_not] at h1
      rw [q0a (by omega), q0a (by omega)] at he
      exact retT he hx
theorem qlp {m : Mem} {s : Sl} {pos : List (Nat × Nat)} (h : Walk m (.rows q7k s.len) s.blk s.off pos) (hlim : s.len <= 9223372036854775807) {k : Int} (hk : 0 <= k /\ k + pos.length <= 4611686018427387904) : CallV Tryz.prog q8i [Sl.v s, vi k] m (MarkR k pos m) := by
  apply qhx
  unfold qcw
  obtain ⟨ps, hpl, rfl, hp⟩ := Walk.split h
  refine forSI (σ := Int) (n := s.len) hlim (fun j c m' => c = k + (ps.take j).flatten.length /\ MkR m k (ps.take j).flatten m') ⟨by simp, MkR.nil (Ext.refl _) _⟩ ?_
  rintro j c m1 I μ hj ⟨rfl, G⟩ next
  refine ⟨fun h1 => ?_, fun h1 => ?_⟩
  · simp only [decide_eq_true_eq] at h1
    obtain ⟨pj, hpj⟩ := q00 (l := ps) (k := j) (by omega)
    have hlen : (ps.take j).flatten.length + pj.length <= ps.flatten.length := by
      have e1 : (ps.take (j + 1)).flatten.length = (ps.take j).flatten.length + pj.length := by rw [q04 hpj]; simp
      have e2 : ps.flatten.length = (ps.take (j + 1)).flatten.length + (ps.drop (j + 1)).flatten.length := by rw [← List.length_append, ← List.flatten_append, List.take_append_drop]
      omega
    have hq : ∀ p ∈ (ps.take j).flatten, ∃ n, gcell m p.1 p.2 = some (vi n) := fun p hp' => h.ints p (by
      rw [← List.take_append_drop j ps, List.flatten_append]; exact List.mem_append_left _ hp')
    have W0 : Walk m1 (.row q7k) s.blk (s.off + j * 1) pj := (hp j pj hpj).mark G hq
    have ej : Int.toNat (j : Int) = j := by omega
    have hnext : (ps.take (j + 1)).flatten = (ps.take j).flatten ++ pj := by rw [q04 hpj]; simp
    generalize hacc : (ps.take j).flatten = acc at *
    refine ⟨by omega, by omega, ?_⟩
    rw [ej]
    simp only [q7k] at W0
    obtain ⟨t0, p0, d0, g0, L0, V0, rfl, W1⟩ := Walk.inv_sl W0
    refine ⟨t0, g0, (q28 V0 (k := k + ((acc).length : Int)) (by simp only [List.length_append, List.length_cons, List.length_nil] at hlen ⊢; omega)).mono ?_⟩
    rintro _ m2 ⟨rfl, O0⟩
    have e0 : k + ((acc).length : Int) + (p0.length : Int) = k + ((acc ++ p0).length : Int) := by simp only [List.length_append]; omega
    rw [e0]
    replace W1 := W1.mark O0 V0.ints
    replace G := G.trans O0
    refine ⟨_, rfl, ?_⟩
    have hz := Walk.inv_nil W1
    subst hz
    refine next (by omega) _ _ ⟨?_, ?_⟩
    · rw [hnext]; simp
    · rw [hnext]; simpa using G
  · simp only [decide_eq_false_iff_not] at h1
    have : j = s.len := by omega
    subst this
    rw [q0a (by omega)] at G
    exact ⟨by rw [q0a (by omega)], G⟩
/-! Decl -/
def q3p : Row := .int (.int (.sl q7k (.nil)))
def qbs (x : Decl) : Prop := qfr x.cons
def qc1 (l : List (Decl)) : Prop := l.length <= 1048576 /\ ∀ x ∈ l, qbs x
def q0s (m0 m : Mem) (cs : List Ce) (x : Decl) : Prop := ∃ q2 : Sl, cs = [.i x.frm, .i x.to, .s q2] /\ q93 m0 m q2 (x.cons)
abbrev q5n (m0 m : Mem) (s : Sl) (l : List (Decl)) : Prop := CpS qd2 3 (q0s m0 m) m0 m s l
theorem q0s.mono {m0 m m1 m' : Mem} (hk : Kp m0.size m m') (hb : m1.size <= m0.size) {cs : List Ce} {x : Decl} : q0s m0 m cs x -> q0s m1 m' cs x := by
  rintro ⟨q2, rfl, h2⟩
  exact ⟨q2, rfl, CpS.mono h2 (fun _ _ => q12.mono hk hb) hk hb⟩
theorem q0s.read {m0 m : Mem} {cs : List Ce} {x : Decl} (h : q0s m0 m cs x) (hs : qbs x) : DeclR m cs x := by
  obtain ⟨q2, rfl, h2⟩ := h
  exact ⟨q2, rfl, q93.read h2 hs⟩
theorem q5n.read {m0 m : Mem} {s : Sl} {l : List (Decl)} (h : q5n m0 m s l) (hs : qc1 l) : DeclSl m s l := CpS.read (sz := 2) h (fun cs x hx hr => q0s.read hr (hs.2 x hx)) hs.1
theorem q0s.walk {m0 m : Mem} {cs : List Ce} {x : Decl} (h : q0s m0 m cs x) (hs : qbs x) (b o : Nat) (hr : rowIs m b o cs) (hf : ∀ i, i < cs.length -> Vc.froz m b (o + i) = false) (hb : m0.size <= b) : ∃ pos, Walk m (.row q3p) b o pos /\ (∀ p ∈ pos, m0.size <= p.1) /\ pos.length <= 1099511627778 := by
  obtain ⟨q2, rfl, h2⟩ := h
  have v2 : q2.len <= 9223372036854775807 := by have := CpS.len (sz := 0) h2; have := hs.1; omega
  obtain ⟨p2, w2, b2, l2⟩ := CpS.walk (sz := 0) (r := q7k) h2 rfl (fun cs x hx hr => q12.walk hr (hs.2 x hx))
  have g2 : p2.length <= 1048576 * 1048576 := Nat.le_trans l2 (Nat.mul_le_mul_right _ hs.1)
  refine ⟨(b, o + 0) :: ((b, o + 1) :: (p2 ++ ([]))), .int (hr 0 (.i x.frm) rfl) (hf 0 (by simp)) (.int (hr 1 (.i x.to) rfl) (hf 1 (by simp)) (.sl (s := q2) (hr 2 (.s q2) rfl) v2 w2 (.nil _ _))), fun p hp => ?_, ?_⟩
  · simp only [List.mem_append, List.mem_cons, List.not_mem_nil, or_false] at hp
    rcases hp with rfl | rfl | hp
    · exact hb
    · exact hb
    · exact b2 p hp
  · simp only [List.length_append, List.length_cons, List.length_nil]; omega
theorem q5n.walk {m0 m : Mem} {s : Sl} {l : List (Decl)} (h : q5n m0 m s l) (hs : qc1 l) : ∃ pos, Walk m (.rows q3p s.len) s.blk s.off pos /\ (∀ p ∈ pos, m0.size <= p.1) /\ pos.length <= 1152921504608944128 := by
  obtain ⟨pos, h1, h2, h3⟩ := CpS.walk (sz := 2) (r := q3p) h rfl (fun cs x hx hr => q0s.walk hr (hs.2 x hx))
  exact ⟨pos, h1, h2, Nat.le_trans h3 (Nat.le_trans (Nat.mul_le_mul_right 1099511627778 hs.1) (by decide))⟩
theorem qob {m : Mem} {x : Decl} {q2 : Sl} (h2 : ConSl m q2 (x.cons)) {left : Int} (z0 : Lft left) : CallV Tryz.prog qat [.agg #[vi x.frm, vi x.to, Sl.v q2], vi left] m (SzR left (qbs x) m) := by
  apply ql1
  unfold qfd
  simp -zeta only [q05, q06]
  intro m1
  have e0 : Ext m m1 := (Ext.refl m).pushed _
  have s1 : m1.size = m.size + 1 := by simp [m1]
  clear_value m1
  obtain ⟨z1, z2⟩ := z0
  refine (qol (ConSl.ext e0 h2) (left := left) ⟨by omega, by omega⟩).mono ?_
  rintro _ m2 ⟨n1, rfl, le1, sm1, x1⟩
  have e1 : Ext m m2 := e0.trans x1
  refine ⟨x1.sam (by simp; omega), n1, rfl, fun h => ⟨-1, rfl, by omega, fun h => by omega, e1⟩, fun h => ?_⟩
  simp only [decide_eq_false_iff_not] at h
  have y1 : m.size + 1 <= m2.size := by have := x1.size; omega
  exact ⟨_, rfl, by omega, fun _ => sm1 (by omega), e1⟩
theorem qns {m : Mem} {s : Sl} {l : List (Decl)} (h : DeclSl m s l) {left : Int} (z0 : Lft left) : CallV Tryz.prog q91 [Sl.v s, vi left] m (SzR left (qc1 l) m) := by
  apply qis
  have h1 := h.len
  have h2 := h.lim
  obtain ⟨h3, h4⟩ := z0
  have e : w64 (left - (s.len : Int)) = left - s.len := w64_in (by omega) (by omega)
  unfold qdi
  rw [e]
  refine ⟨fun _ => ⟨-1, rfl, by omega, fun h => by omega, Ext.refl _⟩, fun h5 => ?_⟩
  simp only [decide_eq_false_iff_not] at h5
  refine forSI (σ := Int) (n := l.length) (by omega) (fun k n m' => 0 <= n /\ n <= left /\ Ext m m' /\ ∀ x ∈ l.take k, qbs x) ⟨by omega, by omega, Ext.refl _, by simp⟩ ?_
  rintro k n m1 I μ hk ⟨hn, hn2, hx, hs⟩ next
  refine ⟨fun h6 => ?_, fun h6 => ?_⟩
  · simp only [decide_eq_true_eq] at h6
    obtain ⟨y, hy⟩ := q00 (l := l) (k := k) (by omega)
    obtain ⟨q2, h2, g0, g1, g2⟩ := (DeclSl.ext hx h).at' hy
    refine ⟨by omega, by omega, _, g0, _, g1, _, g2, (qob h2 ⟨hn, by omega⟩).mono ?_⟩
    rintro _ m2 ⟨n2, rfl, le2, sm2, hx2⟩
    refine ⟨n2, rfl, fun h => ⟨-1, rfl, by omega, fun h => by omega, hx.trans hx2⟩, fun h7 => ?_⟩
    simp only [decide_eq_false_iff_not] at h7
    refine next (by omega) _ _ ⟨by omega, by omega, hx.trans hx2, fun x hxm => ?_⟩
    rw [q04 hy] at hxm
    rcases List.mem_append.1 hxm with h8 | h8
    · exact hs x h8
    · simp at h8; subst h8; exact sm2 (by omega)
  · simp only [decide_eq_false_iff_not] at h6
    rw [q0a (by omega)] at hs
    exact ⟨n, rfl, hn2, fun _ => ⟨by omega, hs⟩, hx⟩
theorem qo7 {m : Mem} {x : Decl} {q2 : Sl} (h2 : ConSl m q2 (x.cons)) (hs : qbs x) : CallV Tryz.prog qax [.agg #[vi x.frm, vi x.to, Sl.v q2]] m fun v m' => ∃ r2 : Sl, v = .agg #[vi x.frm, vi x.to, Sl.v r2] /\ q0s m m' [.i x.frm, .i x.to, .s r2] x /\ Ext m m' := by
  apply qk9
  unfold qfm
  simp -zeta only [q05, q06]
  intro m1 m2 m3
  have s1 : m1.size = m.size + 1 := by simp [m1]
  have s2 : m2.size = m.size + 2 := by simp [m2, s1]
  have s3 : m3.size = m.size + 3 := by simp [m3, s2]
  have x3 : Ext m m3 := (((Ext.refl m).pushed _).pushed _).pushed _
  have y3 : m3.size <= m3.size := Nat.le_refl _
  clear_value m3
  intro m4
  have x4 : Ext m m4 := x3.scells (by omega) _ _
  have y4 : m3.size <= m4.size := Nat.le_trans y3 (Nat.le_of_eq (q02 _ _ _ _).symm)
  have kp4 : Kp m3.size m3 m4 := Kp.box (by omega) _ _
  clear_value m4
  intro m5
  have x5 : Ext m m5 := x4.scells (by omega) _ _
  have y5 : m3.size <= m5.size := Nat.le_trans y4 (Nat.le_of_eq (q02 _ _ _ _).symm)
  have kp5 : Kp m3.size m4 m5 := Kp.box (by omega) _ _
  clear_value m5
  refine (qoa (ConSl.ext x5 h2) hs).mono ?_
  rintro _ m6 ⟨r2, rfl, c2, u6⟩
  have x6 : Ext m m6 := x5.trans u6
  have y6 : m3.size <= m6.size := by have := u6.size; omega
  have kp6 : Kp m3.size m5 m6 := Kp.ext u6
  replace c2 := CpS.mono (m1 := m3) c2 (fun _ _ => q12.mono (Kp.ext (Ext.refl _)) y5) (Kp.ext (Ext.refl _)) y5
  refine ⟨u6.sam (by simp; omega), r2, rfl, ?_⟩
  intro m7
  have x7 : Ext m m7 := x6.scells (by omega) _ _
  have y7 : m3.size <= m7.size := Nat.le_trans y6 (Nat.le_of_eq (q02 _ _ _ _).symm)
  have kp7 : Kp m3.size m6 m7 := Kp.box (by omega) _ _
  clear_value m7
  replace c2 := CpS.mono (m1 := m3) c2 (fun _ _ => q12.mono (kp7) (Nat.le_refl _)) (kp7) (Nat.le_refl _)
  intro m8
  have x8 : Ext m m8 := x7.scells (by omega) _ _
  have kp8 : Kp m3.size m7 m8 := Kp.box (by omega) _ _
  clear_value m8
  replace c2 := CpS.mono (m1 := m3) c2 (fun _ _ => q12.mono (kp8) (Nat.le_refl _)) (kp8) (Nat.le_refl _)
  have hR : q0s m3 m8 [.i x.frm, .i x.to, .s r2] x := ⟨r2, rfl, c2⟩
  exact ⟨r2, rfl, q0s.mono (Kp.ext (Ext.refl _)) (by omega) hR, x8⟩
theorem qnn {m : Mem} {s : Sl} {l : List (Decl)} (h : DeclSl m s l) (hs : qc1 l) : CallV Tryz.prog q92 [Sl.v s] m fun v m' => ∃ s', v = Sl.v s' /\ q5n m m' s' l /\ Ext m m' := by
  apply qif
  unfold qdv
  have hsl := h.len
  have hl := hs.1
  have e0 : Int.toNat (s.len : Int) = l.length := by omega
  rw [e0]
  refine ⟨by omega, Int.le_refl _, by omega, by omega, ?_⟩
  intro m1
  have x1 : Ext m m1 := (Ext.refl m).pushed _
  have s1 : m1.size = m.size + 1 := by simp [m1]
  have k1 : Blk m1 m.size qd2 (zrow [.i (0 : Int), .i (0 : Int), .s Sl.nil] l.length) := Blk.push m _ _
  clear_value m1
  simp -zeta only [Sl.blk_mk, Sl.off_mk, Sl.len_mk, Nat.zero_add]
  refine forI (n := l.length) (by omega) (fun k m' => Ext m m' /\ m1.size <= m'.size /\ ∃ css, Blk m' m.size qd2 (css.flatten ++ zrow [.i (0 : Int), .i (0 : Int), .s Sl.nil] (l.length - css.length)) /\ css.length = k /\ RowsOf 3 (q0s m1 m') css (l.take k)) ⟨x1, Nat.le_refl _, [], by simpa using k1, rfl, by simpa using RowsOf.nil _ _⟩ ?_
  rintro k m2 I μ hk ⟨hx, hm2, css, kk, hck, hrow⟩ next
  refine ⟨fun h6 => ?_, fun h6 => ?_⟩
  · simp only [decide_eq_true_eq] at h6
    obtain ⟨y, hy⟩ := q00 (l := l) (k := k) (by omega)
    obtain ⟨q2, h2, g0, g1, g2⟩ := (DeclSl.ext hx h).at' hy
    refine ⟨by omega, by omega, _, g0, _, g1, _, g2, (qo7 h2 (hs.2 y (q01 hy))).mono ?_⟩
    rintro _ m3 ⟨r2, rfl, hc, x3⟩
    have ek : Int.toNat (k : Int) = k := by omega
    have hm3 := x3.size
    refine ⟨_, _, _, rfl, by omega, by omega, ?_⟩
    rw [ek]
    have hfl : css.flatten.length = k * 3 := by rw [q0i hrow.size, hck]
    refine ⟨(kk.ext x3).wrOk (by rw [List.length_append, hfl, qg6, hck]; simp only [List.length_cons, List.length_nil]; omega), next (by omega) _ ⟨(hx.trans x3).scells (Nat.le_refl _) _ _, by rw [q02]; omega, css ++ [[.i y.frm, .i y.to, .s r2]], ?_, by simp [hck], ?_⟩⟩
    · have := Blk.scells (m := m3) (o := k * 3) (r := [.i y.frm, .i y.to, .s r2]) (kk.ext x3)
      have e1 := fillRow (css := css) (zs := [.i (0 : Int), .i (0 : Int), .s Sl.nil]) (cs := [.i y.frm, .i y.to, .s r2]) (n := l.length) hrow.size rfl (by omega)
      simp only [List.length_cons, List.length_nil, Nat.zero_add, hck] at e1
      rw [hck] at this
      rw [e1] at this
      simpa [hck] using this
    · rw [q04 hy]
      have kp : Kp m1.size m2 (scells m3 m.size (k * 3) [.i y.frm, .i y.to, .s r2]) := fun b hb1 hb2 => by rw [q0f _ _ _ _ (by omega), x3.same b hb2]
      refine RowsOf.snoc ⟨hrow.len, hrow.size, fun j cs x hj hx => q0s.mono kp (Nat.le_refl _) (hrow.each j cs x hj hx)⟩ rfl (q0s.mono (m0 := m2) (m1 := m1) (m := m3) (Kp.box (by omega) _ _) (by omega) hc)
  · simp only [decide_eq_false_iff_not] at h6
    have : k = l.length := by omega
    subst this
    rw [q0a (Nat.le_refl _)] at hrow
    have e2 : l.length - css.length = 0 := by omega
    rw [e2] at kk
    simp only [zrow, List.replicate_zero, List.flatten_nil, List.append_nil] at kk
    exact ⟨_, rfl, ⟨css, ⟨by simp only [Sl.len_mk]; rw [q0i hrow.size, hck], Or.inr ⟨m.size, l.length, [], rfl, Nat.le_refl _, by rw [List.append_nil]; exact kk, by rw [List.append_nil, q0i hrow.size, hck], Nat.le_refl _⟩⟩, hrow.len, hrow.size, fun j cs x hj hx => q0s.mono (Kp.ext (Ext.refl _)) (by omega) (hrow.each j cs x hj hx)⟩, hx⟩
theorem qoj {m : Mem} {x y : Decl} {q2 r2 : Sl} (h2 : ConSl m q2 (x.cons)) (k2 : ConSl m r2 (y.cons)) : GetsB Tryz.prog qai [.agg #[vi x.frm, vi x.to, Sl.v q2], .agg #[vi y.frm, vi y.to, Sl.v r2]] m (x = y) := by
  apply qkp
  unfold qfe
  simp -zeta only [q05, q06]
  intro m1 m2
  have x2 : Ext m m2 := ((Ext.refl m).pushed _).pushed _
  have s1 : m1.size = m.size + 1 := by simp [m1]
  have s2 : m2.size = m.size + 2 := by simp [m2, s1]
  have y2 : m.size + 2 <= m2.size := by omega
  clear_value m2
  refine ⟨fun h => retF (fun e => by subst e; simp at h) x2, fun i0 => ?_⟩
  simp only [bne_eq_false_iff_eq] at i0
  refine ⟨fun h => retF (fun e => by subst e; simp at h) x2, fun i1 => ?_⟩
  simp only [bne_eq_false_iff_eq] at i1
  refine (qoe (ConSl.ext x2 h2) (ConSl.ext x2 k2)).mono ?_
  rintro _ m3 ⟨b2, rfl, hb2, u3⟩
  have x3 : Ext m m3 := x2.trans u3
  have y3 : m.size + 2 <= m3.size := by have := u3.size; omega
  refine ⟨u3.sam (by simp; omega), b2, rfl, fun h => retF (fun e => by subst e; exact nb hb2 h rfl) x3, fun h => ?_⟩
  have i2 := yb hb2 h
  clear h
  refine retT ?_ x3
  cases x; cases y; simp only [] at i0 i1 i2
  simp only [i0, i1, i2]
theorem qnb {m : Mem} {s t : Sl} {l r : List (Decl)} (hs : DeclSl m s l) (ht : DeclSl m t r) : GetsB Tryz.prog q9b [Sl.v s, Sl.v t] m (l = r) := by
  apply qim
  unfold qdt
  have hsl := hs.len
  have htl := ht.len
  refine ⟨fun h => retF (fun e => ?_) (Ext.refl _), fun h => ?_⟩
  · subst e; simp at h; omega
  · have hlen : l.length = r.length := by simp at h; omega
    refine forI (n := l.length) (hsl ▸ hs.lim) (fun k m' => Ext m m' /\ l.take k = r.take k) ⟨Ext.refl _, by simp⟩ ?_
    rintro k m1 I μ hk ⟨hx, he⟩ next
    refine ⟨fun h1 => ?_, fun h1 => ?_⟩
    · simp only [decide_eq_true_eq] at h1
      obtain ⟨y, hy⟩ := q00 (l := l) (k := k) (by omega)
      obtain ⟨z, hz⟩ := q00 (l := r) (k := k) (by omega)
      obtain ⟨q2, h2, g0, g1, g2⟩ := (DeclSl.ext hx hs).at' hy
      obtain ⟨r2, k2, f0, f1, f2⟩ := (DeclSl.ext hx ht).at' hz
      refine ⟨by omega, by omega, _, g0, _, g1, _, g2, by omega, by omega, _, f0, _, f1, _, f2, (qoj h2 k2).mono ?_⟩
      rintro _ m2 ⟨b, rfl, hb, x2⟩
      refine ⟨b, rfl, fun h2 => retF (fun e => nb hb h2 ?_) (hx.trans x2), fun h2 => next (by omega) _ ⟨hx.trans x2, ?_⟩⟩
      · subst e; rw [hy] at hz; simpa using hz
      · rw [q04 hy, q04 hz, he, yb hb h2]
    · simp only [decide_eq_false_iff_not] at h1
      rw [q0a (by omega), q0a (by omega)] at he
      exact retT he hx
theorem qky {m : Mem} {s : Sl} {pos : List (Nat × Nat)} (h : Walk m (.rows q3p s.len) s.blk s.off pos) (hlim : s.len <= 9223372036854775807) {k : Int} (hk : 0 <= k /\ k + pos.length <= 4611686018427387904) : CallV Tryz.prog q76 [Sl.v s, vi k] m (MarkR k pos m) := by
  apply qge
  unfold qb5
  obtain ⟨ps, hpl, rfl, hp⟩ := Walk.split h
  refine forSI (σ := Int) (n := s.len) hlim (fun j c m' => c = k + (ps.take j).flatten.length /\ MkR m k (ps.take j).flatten m') ⟨by simp, MkR.nil (Ext.refl _) _⟩ ?_
  rintro j c m1 I μ hj ⟨rfl, G⟩ next
  refine ⟨fun h1 => ?_, fun h1 => ?_⟩
  · simp only [decide_eq_true_eq] at h1
    obtain ⟨pj, hpj⟩ := q00 (l := ps) (k := j) (by omega)
    have hlen : (ps.take j).flatten.length + pj.length <= ps.flatten.length := by
      have e1 : (ps.take (j + 1)).flatten.length = (ps.take j).flatten.length + pj.length := by rw [q04 hpj]; simp
      have e2 : ps.flatten.length = (ps.take (j + 1)).flatten.length + (ps.drop (j + 1)).flatten.length := by rw [← List.length_append, ← List.flatten_append, List.take_append_drop]
      omega
    have hq : ∀ p ∈ (ps.take j).flatten, ∃ n, gcell m p.1 p.2 = some (vi n) := fun p hp' => h.ints p (by
      rw [← List.take_append_drop j ps, List.flatten_append]; exact List.mem_append_left _ hp')
    have W0 : Walk m1 (.row q3p) s.blk (s.off + j * 3) pj := (hp j pj hpj).mark G hq
    have ej : Int.toNat (j : Int) = j := by omega
    have hnext : (ps.take (j + 1)).flatten = (ps.take j).flatten ++ pj := by rw [q04 hpj]; simp
    generalize hacc : (ps.take j).flatten = acc at *
    refine ⟨by omega, by omega, ?_⟩
    rw [ej]
    simp only [q3p] at W0
    obtain ⟨v0, p0, g0, f0, rfl, W1⟩ := Walk.inv_int W0
    have e0 : w64 (k + ((acc).length : Int) + 1) = k + ((acc ++ [(s.blk, s.off + j * 3)]).length : Int) := by simp only [List.length_append, List.length_cons, List.length_nil] at hlen ⊢; rw [w64_in (by omega) (by omega)]; omega
    refine ⟨fun i hi => ?_, ?_⟩
    · have : i = 0 := by omega
      subst this; exact ⟨by rw [Nat.add_zero]; rw [show gcell m1 s.blk (s.off + j * 3) = _ from g0]; rfl, f0⟩
    rw [e0]
    intro m2
    have O0 : MkR m1 (k + ((acc).length : Int)) [(s.blk, s.off + j * 3)] m2 := MkR.one (by rw [show gcell m1 s.blk (s.off + j * 3) = _ from g0]; rfl) _
    replace W1 := W1.mark O0 (by simpa using ⟨v0, g0⟩)
    replace G := G.trans O0
    clear_value m2
    refine ⟨by omega, by omega, ?_⟩
    obtain ⟨v1, p1, g1, f1, rfl, W2⟩ := Walk.inv_int W1
    have e1 : w64 (k + ((acc ++ [(s.blk, s.off + j * 3)]).length : Int) + 1) = k + ((acc ++ [(s.blk, s.off + j * 3)] ++ [(s.blk, s.off + j * 3 + 1)]).length : Int) := by simp only [List.length_append, List.length_cons, List.length_nil] at hlen ⊢; rw [w64_in (by omega) (by omega)]; omega
    refine ⟨fun i hi => ?_, ?_⟩
    · have : i = 0 := by omega
      subst this; exact ⟨by rw [Nat.add_zero]; rw [show gcell m2 s.blk (s.off + j * 3 + 1) = _ from g1]; rfl, f1⟩
    rw [e1]
    intro m3
    have O1 : MkR m2 (k + ((acc ++ [(s.blk, s.off + j * 3)]).length : Int)) [(s.blk, s.off + j * 3 + 1)] m3 := MkR.one (by rw [show gcell m2 s.blk (s.off + j * 3 + 1) = _ from g1]; rfl) _
    replace W2 := W2.mark O1 (by simpa using ⟨v1, g1⟩)
    replace G := G.trans O1
    clear_value m3
    refine ⟨by omega, by omega, ?_⟩
    obtain ⟨t2, p2, d2, g2, L2, V2, rfl, W3⟩ := Walk.inv_sl W2
    refine ⟨t2, g2, (qlp V2 L2 (k := k + ((acc ++ [(s.blk, s.off + j * 3)] ++ [(s.blk, s.off + j * 3 + 1)]).length : Int)) (by simp only [List.length_append, List.length_cons, List.length_nil] at hlen ⊢; omega)).mono ?_⟩
    rintro _ m4 ⟨rfl, O2⟩
    have e2 : k + ((acc ++ [(s.blk, s.off + j * 3)] ++ [(s.blk, s.off + j * 3 + 1)]).length : Int) + (p2.length : Int) = k + ((acc ++ [(s.blk, s.off + j * 3)] ++ [(s.blk, s.off + j * 3 + 1)] ++ p2).length : Int) := by simp only [List.length_append]; omega
    rw [e2]
    replace W3 := W3.mark O2 V2.ints
    replace G := G.trans O2
    refine ⟨_, rfl, ?_⟩
    have hz := Walk.inv_nil W3
    subst hz
    refine next (by omega) _ _ ⟨?_, ?_⟩
    · rw [hnext]; simp
    · rw [hnext]; simpa using G
  · simp only [decide_eq_false_iff_not] at h1
    have : j = s.len := by omega
    subst this
    rw [q0a (by omega)] at G
    exact ⟨by rw [q0a (by omega)], G⟩
/-! Instr -/
def q43 : Row := .int (.int (.int (.int (.sl (.int .nil) (.sl (.int .nil) (.nil))))))
def q8z (x : Instr) : Prop := (x.args).length <= 1048576 /\ (x.jumps).length <= 1048576
def q9x (l : List (Instr)) : Prop := l.length <= 1048576 /\ ∀ x ∈ l, q8z x
def q0r (m0 m : Mem) (cs : List Ce) (x : Instr) : Prop := ∃ q4 q5 : Sl, cs = [.i x.op, .i x.dst, .i x.num, .i x.into, .s q4, .s q5] /\ CpI m0 m q4 (x.args) /\ CpI m0 m q5 (x.jumps)
abbrev q5o (m0 m : Mem) (s : Sl) (l : List (Instr)) : Prop := CpS q15 6 (q0r m0 m) m0 m s l
theorem q0r.mono {m0 m m1 m' : Mem} (hk : Kp m0.size m m') (hb : m1.size <= m0.size) {cs : List Ce} {x : Instr} : q0r m0 m cs x -> q0r m1 m' cs x := by
  rintro ⟨q4, q5, rfl, h4, h5⟩
  exact ⟨q4, q5, rfl, (h4.keep hk).base hb, (h5.keep hk).base hb⟩
theorem q0r.read {m0 m : Mem} {cs : List Ce} {x : Instr} (h : q0r m0 m cs x) (hs : q8z x) : InstrR m cs x := by
  obtain ⟨q4, q5, rfl, h4, h5⟩ := h
  exact ⟨q4, q5, rfl, IntSl.ofOwn h4 (by have : (x.args).length <= 1048576 := hs.1; omega), IntSl.ofOwn h5 (by have : (x.jumps).length <= 1048576 := hs.2; omega)⟩
theorem q5o.read {m0 m : Mem} {s : Sl} {l : List (Instr)} (h : q5o m0 m s l) (hs : q9x l) : InstrSl m s l := CpS.read (sz := 5) h (fun cs x hx hr => q0r.read hr (hs.2 x hx)) hs.1
theorem q0r.walk {m0 m : Mem} {cs : List Ce} {x : Instr} (h : q0r m0 m cs x) (hs : q8z x) (b o : Nat) (hr : rowIs m b o cs) (hf : ∀ i, i < cs.length -> Vc.froz m b (o + i) = false) (hb : m0.size <= b) : ∃ pos, Walk m (.row q43) b o pos /\ (∀ p ∈ pos, m0.size <= p.1) /\ pos.length <= 2097156 := by
  obtain ⟨q4, q5, rfl, h4, h5⟩ := h
  obtain ⟨p4, w4, b4, l4⟩ := CpI.walk h4 hs.1
  have v4 : q4.len <= 9223372036854775807 := by have := CpI.slen h4; have : (x.args).length <= 1048576 := hs.1; omega
  obtain ⟨p5, w5, b5, l5⟩ := CpI.walk h5 hs.2
  have v5 : q5.len <= 9223372036854775807 := by have := CpI.slen h5; have : (x.jumps).length <= 1048576 := hs.2; omega
  refine ⟨(b, o + 0) :: ((b, o + 1) :: ((b, o + 2) :: ((b, o + 3) :: (p4 ++ (p5 ++ ([])))))), .int (hr 0 (.i x.op) rfl) (hf 0 (by simp)) (.int (hr 1 (.i x.dst) rfl) (hf 1 (by simp)) (.int (hr 2 (.i x.num) rfl) (hf 2 (by simp)) (.int (hr 3 (.i x.into) rfl) (hf 3 (by simp)) (.sl (s := q4) (hr 4 (.s q4) rfl) v4 w4 (.sl (s := q5) (hr 5 (.s q5) rfl) v5 w5 (.nil _ _)))))), fun p hp => ?_, ?_⟩
  · simp only [List.mem_append, List.mem_cons, List.not_mem_nil, or_false] at hp
    rcases hp with rfl | rfl | rfl | rfl | hp | hp
    · exact hb
    · exact hb
    · exact hb
    · exact hb
    · exact b4 p hp
    · exact b5 p hp
  · simp only [List.length_append, List.length_cons, List.length_nil]; omega
theorem q5o.walk {m0 m : Mem} {s : Sl} {l : List (Instr)} (h : q5o m0 m s l) (hs : q9x l) : ∃ pos, Walk m (.rows q43 s.len) s.blk s.off pos /\ (∀ p ∈ pos, m0.size <= p.1) /\ pos.length <= 2199027449856 := by
  obtain ⟨pos, h1, h2, h3⟩ := CpS.walk (sz := 5) (r := q43) h rfl (fun cs x hx hr => q0r.walk hr (hs.2 x hx))
  exact ⟨pos, h1, h2, Nat.le_trans h3 (Nat.le_trans (Nat.mul_le_mul_right 2097156 hs.1) (by decide))⟩
theorem qn6 {m : Mem} {x : Instr} {q4 q5 : Sl} (h4 : IntSl m q4 (x.args)) (h5 : IntSl m q5 (x.jumps)) {left : Int} (z0 : Lft left) : CallV Tryz.prog q9g [.agg #[vi x.op, vi x.dst, vi x.num, vi x.into, Sl.v q4, Sl.v q5], vi left] m (SzR left (q8z x) m) := by
  apply qj4
  unfold qea
  simp -zeta only [q05, q06]
  intro m1
  have e0 : Ext m m1 := (Ext.refl m).pushed _
  have s1 : m1.size = m.size + 1 := by simp [m1]
  clear_value m1
  obtain ⟨z1, z2⟩ := z0
  refine (q3x (h4.ext e0) (left := left) ⟨by omega, by omega⟩).mono ?_
  rintro _ m2 ⟨n1, rfl, le1, sm1, x1⟩
  have e1 : Ext m m2 := e0.trans x1
  refine ⟨x1.sam (by simp; omega), n1, rfl, fun h => ⟨-1, rfl, by omega, fun h => by omega, e1⟩, fun h => ?_⟩
  simp only [decide_eq_false_iff_not] at h
  have y1 : m.size + 1 <= m2.size := by have := x1.size; omega
  refine (q3x (h5.ext e1) (left := n1) ⟨by omega, by omega⟩).mono ?_
  rintro _ m3 ⟨n2, rfl, le2, sm2, x2⟩
  have e2 : Ext m m3 := e1.trans x2
  refine ⟨x2.sam (by simp; omega), n2, rfl, fun h => ⟨-1, rfl, by omega, fun h => by omega, e2⟩, fun h => ?_⟩
  simp only [decide_eq_false_iff_not] at h
  have y2 : m.size + 1 <= m3.size := by have := x2.size; omega
  exact ⟨_, rfl, by omega, fun _ => ⟨sm1 (by omega), sm2 (by omega)⟩, e2⟩
theorem qm1 {m : Mem} {s : Sl} {l : List (Instr)} (h : InstrSl m s l) {left : Int} (z0 : Lft left) : CallV Tryz.prog q86 [Sl.v s, vi left] m (SzR left (q9x l) m) := by
  apply qhj
  have h1 := h.len
  have h2 := h.lim
  obtain ⟨h3, h4⟩ := z0
  have e : w64 (left - (s.len : Int)) = left - s.len := w64_in (by omega) (by omega)
  unfold qcm
  rw [e]
  refine ⟨fun _ => ⟨-1, rfl, by omega, fun h => by omega, Ext.refl _⟩, fun h5 => ?_⟩
  simp only [decide_eq_false_iff_not] at h5
  refine forSI (σ := Int) (n := l.length) (by omega) (fun k n m' => 0 <= n /\ n <= left /\ Ext m m' /\ ∀ x ∈ l.take k, q8z x) ⟨by omega, by omega, Ext.refl _, by simp⟩ ?_
  rintro k n m1 I μ hk ⟨hn, hn2, hx, hs⟩ next
  refine ⟨fun h6 => ?_, fun h6 => ?_⟩
  · simp only [decide_eq_true_eq] at h6
    obtain ⟨y, hy⟩ := q00 (l := l) (k := k) (by omega)
    obtain ⟨q4, q5, h4, h5, g0, g1, g2, g3, g4, g5⟩ := (InstrSl.ext hx h).at' hy
    refine ⟨by omega, by omega, _, g0, _, g1, _, g2, _, g3, _, g4, _, g5, (qn6 h4 h5 ⟨hn, by omega⟩).mono ?_⟩
    rintro _ m2 ⟨n2, rfl, le2, sm2, hx2⟩
    refine ⟨n2, rfl, fun h => ⟨-1, rfl, by omega, fun h => by omega, hx.trans hx2⟩, fun h7 => ?_⟩
    simp only [decide_eq_false_iff_not] at h7
    refine next (by omega) _ _ ⟨by omega, by omega, hx.trans hx2, fun x hxm => ?_⟩
    rw [q04 hy] at hxm
    rcases List.mem_append.1 hxm with h8 | h8
    · exact hs x h8
    · simp at h8; subst h8; exact sm2 (by omega)
  · simp only [decide_eq_false_iff_not] at h6
    rw [q0a (by omega)] at hs
    exact ⟨n, rfl, hn2, fun _ => ⟨by omega, hs⟩, hx⟩
theorem qnj {m : Mem} {x : Instr} {q4 q5 : Sl} (h4 : IntSl m q4 (x.args)) (h5 : IntSl m q5 (x.jumps)) (hs : q8z x) : CallV Tryz.prog q8y [.agg #[vi x.op, vi x.dst, vi x.num, vi x.into, Sl.v q4, Sl.v q5]] m fun v m' => ∃ r4 r5 : Sl, v = .agg #[vi x.op, vi x.dst, vi x.num, vi x.into, Sl.v r4, Sl.v r5] /\ q0r m m' [.i x.op, .i x.dst, .i x.num, .i x.into, .s r4, .s r5] x /\ Ext m m' := by
  apply qic
  unfold qe1
  simp -zeta only [q05, q06]
  intro m1 m2 m3
  have s1 : m1.size = m.size + 1 := by simp [m1]
  have s2 : m2.size = m.size + 2 := by simp [m2, s1]
  have s3 : m3.size = m.size + 3 := by simp [m3, s2]
  have x3 : Ext m m3 := (((Ext.refl m).pushed _).pushed _).pushed _
  have y3 : m3.size <= m3.size := Nat.le_refl _
  clear_value m3
  intro m4
  have x4 : Ext m m4 := x3.scells (by omega) _ _
  have y4 : m3.size <= m4.size := Nat.le_trans y3 (Nat.le_of_eq (q02 _ _ _ _).symm)
  have kp4 : Kp m3.size m3 m4 := Kp.box (by omega) _ _
  clear_value m4
  intro m5
  have x5 : Ext m m5 := x4.scells (by omega) _ _
  have y5 : m3.size <= m5.size := Nat.le_trans y4 (Nat.le_of_eq (q02 _ _ _ _).symm)
  have kp5 : Kp m3.size m4 m5 := Kp.box (by omega) _ _
  clear_value m5
  intro m6
  have x6 : Ext m m6 := x5.scells (by omega) _ _
  have y6 : m3.size <= m6.size := Nat.le_trans y5 (Nat.le_of_eq (q02 _ _ _ _).symm)
  have kp6 : Kp m3.size m5 m6 := Kp.box (by omega) _ _
  clear_value m6
  intro m7
  have x7 : Ext m m7 := x6.scells (by omega) _ _
  have y7 : m3.size <= m7.size := Nat.le_trans y6 (Nat.le_of_eq (q02 _ _ _ _).symm)
  have kp7 : Kp m3.size m6 m7 := Kp.box (by omega) _ _
  clear_value m7
  refine (q41 (h4.ext x7) hs.1).mono ?_
  rintro _ m8 ⟨r4, rfl, c4, u8⟩
  have x8 : Ext m m8 := x7.trans u8
  have y8 : m3.size <= m8.size := by have := u8.size; omega
  have kp8 : Kp m3.size m7 m8 := Kp.ext u8
  replace c4 := Own.base (m0 := m3) c4 y7
  refine ⟨u8.sam (by simp; omega), r4, rfl, ?_⟩
  intro m9
  have x9 : Ext m m9 := x8.scells (by omega) _ _
  have y9 : m3.size <= m9.size := Nat.le_trans y8 (Nat.le_of_eq (q02 _ _ _ _).symm)
  have kp9 : Kp m3.size m8 m9 := Kp.box (by omega) _ _
  clear_value m9
  replace c4 := c4.keep (kp9)
  refine (q41 (h5.ext x9) hs.2).mono ?_
  rintro _ m10 ⟨r5, rfl, c5, u10⟩
  have x10 : Ext m m10 := x9.trans u10
  have y10 : m3.size <= m10.size := by have := u10.size; omega
  have kp10 : Kp m3.size m9 m10 := Kp.ext u10
  replace c4 := c4.keep (kp10)
  replace c5 := Own.base (m0 := m3) c5 y9
  refine ⟨u10.sam (by simp; omega), r5, rfl, ?_⟩
  intro m11
  have x11 : Ext m m11 := x10.scells (by omega) _ _
  have y11 : m3.size <= m11.size := Nat.le_trans y10 (Nat.le_of_eq (q02 _ _ _ _).symm)
  have kp11 : Kp m3.size m10 m11 := Kp.box (by omega) _ _
  clear_value m11
  replace c4 := c4.keep (kp11)
  replace c5 := c5.keep (kp11)
  intro m12
  have x12 : Ext m m12 := x11.scells (by omega) _ _
  have kp12 : Kp m3.size m11 m12 := Kp.box (by omega) _ _
  clear_value m12
  replace c4 := c4.keep (kp12)
  replace c5 := c5.keep (kp12)
  have hR : q0r m3 m12 [.i x.op, .i x.dst, .i x.num, .i x.into, .s r4, .s r5] x := ⟨r4, r5, rfl, c4, c5⟩
  exact ⟨r4, r5, rfl, q0r.mono (Kp.ext (Ext.refl _)) (by omega) hR, x12⟩
theorem qm4 {m : Mem} {s : Sl} {l : List (Instr)} (h : InstrSl m s l) (hs : q9x l) : CallV Tryz.prog q80 [Sl.v s] m fun v m' => ∃ s', v = Sl.v s' /\ q5o m m' s' l /\ Ext m m' := by
  apply qhv
  unfold qc7
  have hsl := h.len
  have hl := hs.1
  have e0 : Int.toNat (s.len : Int) = l.length := by omega
  rw [e0]
  refine ⟨by omega, Int.le_refl _, by omega, by omega, ?_⟩
  intro m1
  have x1 : Ext m m1 := (Ext.refl m).pushed _
  have s1 : m1.size = m.size + 1 := by simp [m1]
  have k1 : Blk m1 m.size q15 (zrow [.i (0 : Int), .i (0 : Int), .i (0 : Int), .i (0 : Int), .s Sl.nil, .s Sl.nil] l.length) := Blk.push m _ _
  clear_value m1
  simp -zeta only [Sl.blk_mk, Sl.off_mk, Sl.len_mk, Nat.zero_add]
  refine forI (n := l.length) (by omega) (fun k m' => Ext m m' /\ m1.size <= m'.size /\ ∃ css, Blk m' m.size q15 (css.flatten ++ zrow [.i (0 : Int), .i (0 : Int), .i (0 : Int), .i (0 : Int), .s Sl.nil, .s Sl.nil] (l.length - css.length)) /\ css.length = k /\ RowsOf 6 (q0r m1 m') css (l.take k)) ⟨x1, Nat.le_refl _, [], by simpa using k1, rfl, by simpa using RowsOf.nil _ _⟩ ?_
  rintro k m2 I μ hk ⟨hx, hm2, css, kk, hck, hrow⟩ next
  refine ⟨fun h6 => ?_, fun h6 => ?_⟩
  · simp only [decide_eq_true_eq] at h6
    obtain ⟨y, hy⟩ := q00 (l := l) (k := k) (by omega)
    obtain ⟨q4, q5, h4, h5, g0, g1, g2, g3, g4, g5⟩ := (InstrSl.ext hx h).at' hy
    refine ⟨by omega, by omega, _, g0, _, g1, _, g2, _, g3, _, g4, _, g5, (qnj h4 h5 (hs.2 y (q01 hy))).mono ?_⟩
    rintro _ m3 ⟨r4, r5, rfl, hc, x3⟩
    have ek : Int.toNat (k : Int) = k := by omega
    have hm3 := x3.size
    refine ⟨_, _, _, _, _, _, rfl, by omega, by omega, ?_⟩
    rw [ek]
    have hfl : css.flatten.length = k * 6 := by rw [q0i hrow.size, hck]
    refine ⟨(kk.ext x3).wrOk (by rw [List.length_append, hfl, qg6, hck]; simp only [List.length_cons, List.length_nil]; omega), next (by omega) _ ⟨(hx.trans x3).scells (Nat.le_refl _) _ _, by rw [q02]; omega, css ++ [[.i y.op, .i y.dst, .i y.num, .i y.into, .s r4, .s r5]], ?_, by simp [hck], ?_⟩⟩
    · have := Blk.scells (m := m3) (o := k * 6) (r := [.i y.op, .i y.dst, .i y.num, .i y.into, .s r4, .s r5]) (kk.ext x3)
      have e1 := fillRow (css := css) (zs := [.i (0 : Int), .i (0 : Int), .i (0 : Int), .i (0 : Int), .s Sl.nil, .s Sl.nil]) (cs := [.i y.op, .i y.dst, .i y.num, .i y.into, .s r4, .s r5]) (n := l.length) hrow.size rfl (by omega)
      simp only [List.length_cons, List.length_nil, Nat.zero_add, hck] at e1
      rw [hck] at this
      rw [e1] at this
      simpa [hck] using this
    · rw [q04 hy]
      have kp : Kp m1.size m2 (scells m3 m.size (k * 6) [.i y.op, .i y.dst, .i y.num, .i y.into, .s r4, .s r5]) := fun b hb1 hb2 => by rw [q0f _ _ _ _ (by omega), x3.same b hb2]
      refine RowsOf.snoc ⟨hrow.len, hrow.size, fun j cs x hj hx => q0r.mono kp (Nat.le_refl _) (hrow.each j cs x hj hx)⟩ rfl (q0r.mono (m0 := m2) (m1 := m1) (m := m3) (Kp.box (by omega) _ _) (by omega) hc)
  · simp only [decide_eq_false_iff_not] at h6
    have : k = l.length := by omega
    subst this
    rw [q0a (Nat.le_refl _)] at hrow
    have e2 : l.length - css.length = 0 := by omega
    rw [e2] at kk
    simp only [zrow, List.replicate_zero, List.flatten_nil, List.append_nil] at kk
    exact ⟨_, rfl, ⟨css, ⟨by simp only [Sl.len_mk]; rw [q0i hrow.size, hck], Or.inr ⟨m.size, l.length, [], rfl, Nat.le_refl _, by rw [List.append_nil]; exact kk, by rw [List.append_nil, q0i hrow.size, hck], Nat.le_refl _⟩⟩, hrow.len, hrow.size, fun j cs x hj hx => q0r.mono (Kp.ext (Ext.refl _)) (by omega) (hrow.each j cs x hj hx)⟩, hx⟩
theorem qmz {m : Mem} {x y : Instr} {q4 q5 r4 r5 : Sl} (h4 : IntSl m q4 (x.args)) (h5 : IntSl m q5 (x.jumps)) (k4 : IntSl m r4 (y.args)) (k5 : IntSl m r5 (y.jumps)) : GetsB Tryz.prog q97 [.agg #[vi x.op, vi x.dst, vi x.num, vi x.into, Sl.v q4, Sl.v q5], .agg #[vi y.op, vi y.dst, vi y.num, vi y.into, Sl.v r4, Sl.v r5]] m (x = y) := by
  apply qi5
  unfold qdg
  simp -zeta only [q05, q06]
  intro m1 m2
  have x2 : Ext m m2 := ((Ext.refl m).pushed _).pushed _
  have s1 : m1.size = m.size + 1 := by simp [m1]
  have s2 : m2.size = m.size + 2 := by simp [m2, s1]
  have y2 : m.size + 2 <= m2.size := by omega
  clear_value m2
  refine ⟨fun h => retF (fun e => by subst e; simp at h) x2, fun i0 => ?_⟩
  simp only [bne_eq_false_iff_eq] at i0
  refine ⟨fun h => retF (fun e => by subst e; simp at h) x2, fun i1 => ?_⟩
  simp only [bne_eq_false_iff_eq] at i1
  refine ⟨fun h => retF (fun e => by subst e; simp at h) x2, fun i2 => ?_⟩
  simp only [bne_eq_false_iff_eq] at i2
  refine ⟨fun h => retF (fun e => by subst e; simp at h) x2, fun i3 => ?_⟩
  simp only [bne_eq_false_iff_eq] at i3
  refine (q32 (h4.ext x2) (k4.ext x2)).mono ?_
  rintro _ m3 ⟨b4, rfl, hb4, u3⟩
  have x3 : Ext m m3 := x2.trans u3
  have y3 : m.size + 2 <= m3.size := by have := u3.size; omega
  refine ⟨u3.sam (by simp; omega), b4, rfl, fun h => retF (fun e => by subst e; exact nb hb4 h rfl) x3, fun h => ?_⟩
  have i4 := yb hb4 h
  clear h
  refine (q32 (h5.ext x3) (k5.ext x3)).mono ?_
  rintro _ m4 ⟨b5, rfl, hb5, u4⟩
  have x4 : Ext m m4 := x3.trans u4
  have y4 : m.size + 2 <= m4.size := by have := u4.size; omega
  refine ⟨u4.sam (by simp; omega), b5, rfl, fun h => retF (fun e => by subst e; exact nb hb5 h rfl) x4, fun h => ?_⟩
  have i5 := yb hb5 h
  clear h
  refine retT ?_ x4
  cases x; cases y; simp only [] at i0 i1 i2 i3 i4 i5
  simp only [i0, i1, i2, i3, i4, i5]
theorem qlo {m : Mem} {s t : Sl} {l r : List (Instr)} (hs : InstrSl m s l) (ht : InstrSl m t r) : GetsB Tryz.prog q7v [Sl.v s, Sl.v t] m (l = r) := by
  apply qhs
  unfold qd3
  have hsl := hs.len
  have htl := ht.len
  refine ⟨fun h => retF (fun e => ?_) (Ext.refl _), fun h => ?_⟩
  · subst e; simp at h; omega
  · have hlen : l.length = r.length := by simp at h; omega
    refine forI (n := l.length) (hsl ▸ hs.lim) (fun k m' => Ext m m' /\ l.take k = r.take k) ⟨Ext.refl _, by simp⟩ ?_
    rintro k m1 I μ hk ⟨hx, he⟩ next
    refine ⟨fun h1 => ?_, fun h1 => ?_⟩
    · simp only [decide_eq_true_eq] at h1
      obtain ⟨y, hy⟩ := q00 (l := l) (k := k) (by omega)
      obtain ⟨z, hz⟩ := q00 (l := r) (k := k) (by omega)
      obtain ⟨q4, q5, h4, h5, g0, g1, g2, g3, g4, g5⟩ := (InstrSl.ext hx hs).at' hy
      obtain ⟨r4, r5, k4, k5, f0, f1, f2, f3, f4, f5⟩ := (InstrSl.ext hx ht).at' hz
      refine ⟨by omega, by omega, _, g0, _, g1, _, g2, _, g3, _, g4, _, g5, by omega, by omega, _, f0, _, f1, _, f2, _, f3, _, f4, _, f5, (qmz h4 h5 k4 k5).mono ?_⟩
      rintro _ m2 ⟨b, rfl, hb, x2⟩
      refine ⟨b, rfl, fun h2 => retF (fun e => nb hb h2 ?_) (hx.trans x2), fun h2 => next (by omega) _ ⟨hx.trans x2, ?_⟩⟩
      · subst e; rw [hy] at hz; simpa using hz
      · rw [q04 hy, q04 hz, he, yb hb h2]
    · simp only [decide_eq_false_iff_not] at h1
      rw [q0a (by omega), q0a (by omega)] at he
      exact retT he hx
theorem qio {m : Mem} {s : Sl} {pos : List (Nat × Nat)} (h : Walk m (.rows q43 s.len) s.blk s.off pos) (hlim : s.len <= 9223372036854775807) {k : Int} (hk : 0 <= k /\ k + pos.length <= 4611686018427387904) : CallV Tryz.prog q64 [Sl.v s, vi k] m (MarkR k pos m) := by
  apply qft
  unfold q9u
  obtain ⟨ps, hpl, rfl, hp⟩ := Walk.split h
  refine forSI (σ := Int) (n := s.len) hlim (fun j c m' => c = k + (ps.take j).flatten.length /\ MkR m k (ps.take j).flatten m') ⟨by simp, MkR.nil (Ext.refl _) _⟩ ?_
  rintro j c m1 I μ hj ⟨rfl, G⟩ next
  refine ⟨fun h1 => ?_, fun h1 => ?_⟩
  · simp only [decide_eq_true_eq] at h1
    obtain ⟨pj, hpj⟩ := q00 (l := ps) (k := j) (by omega)
    have hlen : (ps.take j).flatten.length + pj.length <= ps.flatten.length := by
      have e1 : (ps.take (j + 1)).flatten.length = (ps.take j).flatten.length + pj.length := by rw [q04 hpj]; simp
      have e2 : ps.flatten.length = (ps.take (j + 1)).flatten.length + (ps.drop (j + 1)).flatten.length := by rw [← List.length_append, ← List.flatten_append, List.take_append_drop]
      omega
    have hq : ∀ p ∈ (ps.take j).flatten, ∃ n, gcell m p.1 p.2 = some (vi n) := fun p hp' => h.ints p (by
      rw [← List.take_append_drop j ps, List.flatten_append]; exact List.mem_append_left _ hp')
    have W0 : Walk m1 (.row q43) s.blk (s.off + j * 6) pj := (hp j pj hpj).mark G hq
    have ej : Int.toNat (j : Int) = j := by omega
    have hnext : (ps.take (j + 1)).flatten = (ps.take j).flatten ++ pj := by rw [q04 hpj]; simp
    generalize hacc : (ps.take j).flatten = acc at *
    refine ⟨by omega, by omega, ?_⟩
    rw [ej]
    simp only [q43] at W0
    obtain ⟨v0, p0, g0, f0, rfl, W1⟩ := Walk.inv_int W0
    have e0 : w64 (k + ((acc).length : Int) + 1) = k + ((acc ++ [(s.blk, s.off + j * 6)]).length : Int) := by simp only [List.length_append, List.length_cons, List.length_nil] at hlen ⊢; rw [w64_in (by omega) (by omega)]; omega
    refine ⟨fun i hi => ?_, ?_⟩
    · have : i = 0 := by omega
      subst this; exact ⟨by rw [Nat.add_zero]; rw [show gcell m1 s.blk (s.off + j * 6) = _ from g0]; rfl, f0⟩
    rw [e0]
    intro m2
    have O0 : MkR m1 (k + ((acc).length : Int)) [(s.blk, s.off + j * 6)] m2 := MkR.one (by rw [show gcell m1 s.blk (s.off + j * 6) = _ from g0]; rfl) _
    replace W1 := W1.mark O0 (by simpa using ⟨v0, g0⟩)
    replace G := G.trans O0
    clear_value m2
    refine ⟨by omega, by omega, ?_⟩
    obtain ⟨v1, p1, g1, f1, rfl, W2⟩ := Walk.inv_int W1
    have e1 : w64 (k + ((acc ++ [(s.blk, s.off + j * 6)]).length : Int) + 1) = k + ((acc ++ [(s.blk, s.off + j * 6)] ++ [(s.blk, s.off + j * 6 + 1)]).length : Int) := by simp only [List.length_append, List.length_cons, List.length_nil] at hlen ⊢; rw [w64_in (by omega) (by omega)]; omega
    refine ⟨fun i hi => ?_, ?_⟩
    · have : i = 0 := by omega
      subst this; exact ⟨by rw [Nat.add_zero]; rw [show gcell m2 s.blk (s.off + j * 6 + 1) = _ from g1]; rfl, f1⟩
    rw [e1]
    intro m3
    have O1 : MkR m2 (k + ((acc ++ [(s.blk, s.off + j * 6)]).length : Int)) [(s.blk, s.off + j * 6 + 1)] m3 := MkR.one (by rw [show gcell m2 s.blk (s.off + j * 6 + 1) = _ from g1]; rfl) _
    replace W2 := W2.mark O1 (by simpa using ⟨v1, g1⟩)
    replace G := G.trans O1
    clear_value m3
    refine ⟨by omega, by omega, ?_⟩
    obtain ⟨v2, p2, g2, f2, rfl, W3⟩ := Walk.inv_int W2
    have e2 : w64 (k + ((acc ++ [(s.blk, s.off + j * 6)] ++ [(s.blk, s.off + j * 6 + 1)]).length : Int) + 1) = k + ((acc ++ [(s.blk, s.off + j * 6)] ++ [(s.blk, s.off + j * 6 + 1)] ++ [(s.blk, s.off + j * 6 + 2)]).length : Int) := by simp only [List.length_append, List.length_cons, List.length_nil] at hlen ⊢; rw [w64_in (by omega) (by omega)]; omega
    refine ⟨fun i hi => ?_, ?_⟩
    · have : i = 0 := by omega
      subst this; exact ⟨by rw [Nat.add_zero]; rw [show gcell m3 s.blk (s.off + j * 6 + 2) = _ from g2]; rfl, f2⟩
    rw [e2]
    intro m4
    have O2 : MkR m3 (k + ((acc ++ [(s.blk, s.off + j * 6)] ++ [(s.blk, s.off + j * 6 + 1)]).length : Int)) [(s.blk, s.off + j * 6 + 2)] m4 := MkR.one (by rw [show gcell m3 s.blk (s.off + j * 6 + 2) = _ from g2]; rfl) _
    replace W3 := W3.mark O2 (by simpa using ⟨v2, g2⟩)
    replace G := G.trans O2
    clear_value m4
    refine ⟨by omega, by omega, ?_⟩
    obtain ⟨v3, p3, g3, f3, rfl, W4⟩ := Walk.inv_int W3
    have e3 : w64 (k + ((acc ++ [(s.blk, s.off + j * 6)] ++ [(s.blk, s.off + j * 6 + 1)] ++ [(s.blk, s.off + j * 6 + 2)]).length : Int) + 1) = k + ((acc ++ [(s.blk, s.off + j * 6)] ++ [(s.blk, s.off + j * 6 + 1)] ++ [(s.blk, s.off + j * 6 + 2)] ++ [(s.blk, s.off + j * 6 + 3)]).length : Int) := by simp only [List.length_append, List.length_cons, List.length_nil] at hlen ⊢; rw [w64_in (by omega) (by omega)]; omega
    refine ⟨fun i hi => ?_, ?_⟩
    · have : i = 0 := by omega
      subst this; exact ⟨by rw [Nat.add_zero]; rw [show gcell m4 s.blk (s.off + j * 6 + 3) = _ from g3]; rfl, f3⟩
    rw [e3]
    intro m5
    have O3 : MkR m4 (k + ((acc ++ [(s.blk, s.off + j * 6)] ++ [(s.blk, s.off + j * 6 + 1)] ++ [(s.blk, s.off + j * 6 + 2)]).length : Int)) [(s.blk, s.off + j * 6 + 3)] m5 := MkR.one (by rw [show gcell m4 s.blk (s.off + j * 6 + 3) = _ from g3]; rfl) _
    replace W4 := W4.mark O3 (by simpa using ⟨v3, g3⟩)
    replace G := G.trans O3
    clear_value m5
    refine ⟨by omega, by omega, ?_⟩
    obtain ⟨t4, p4, d4, g4, L4, V4, rfl, W5⟩ := Walk.inv_sl W4
    refine ⟨t4, g4, (q28 V4 (k := k + ((acc ++ [(s.blk, s.off + j * 6)] ++ [(s.blk, s.off + j * 6 + 1)] ++ [(s.blk, s.off + j * 6 + 2)] ++ [(s.blk, s.off + j * 6 + 3)]).length : Int)) (by simp only [List.length_append, List.length_cons, List.length_nil] at hlen ⊢; omega)).mono ?_⟩
    rintro _ m6 ⟨rfl, O4⟩
    have e4 : k + ((acc ++ [(s.blk, s.off + j * 6)] ++ [(s.blk, s.off + j * 6 + 1)] ++ [(s.blk, s.off + j * 6 + 2)] ++ [(s.blk, s.off + j * 6 + 3)]).length : Int) + (p4.length : Int) = k + ((acc ++ [(s.blk, s.off + j * 6)] ++ [(s.blk, s.off + j * 6 + 1)] ++ [(s.blk, s.off + j * 6 + 2)] ++ [(s.blk, s.off + j * 6 + 3)] ++ p4).length : Int) := by simp only [List.length_append]; omega
    rw [e4]
    replace W5 := W5.mark O4 V4.ints
    replace G := G.trans O4
    refine ⟨_, rfl, ?_⟩
    refine ⟨by omega, by omega, ?_⟩
    obtain ⟨t5, p5, d5, g5, L5, V5, rfl, W6⟩ := Walk.inv_sl W5
    refine ⟨t5, g5, (q28 V5 (k := k + ((acc ++ [(s.blk, s.off + j * 6)] ++ [(s.blk, s.off + j * 6 + 1)] ++ [(s.blk, s.off + j * 6 + 2)] ++ [(s.blk, s.off + j * 6 + 3)] ++ p4).length : Int)) (by simp only [List.length_append, List.length_cons, List.length_nil] at hlen ⊢; omega)).mono ?_⟩
    rintro _ m7 ⟨rfl, O5⟩
    have e5 : k + ((acc ++ [(s.blk, s.off + j * 6)] ++ [(s.blk, s.off + j * 6 + 1)] ++ [(s.blk, s.off + j * 6 + 2)] ++ [(s.blk, s.off + j * 6 + 3)] ++ p4).length : Int) + (p5.length : Int) = k + ((acc ++ [(s.blk, s.off + j * 6)] ++ [(s.blk, s.off + j * 6 + 1)] ++ [(s.blk, s.off + j * 6 + 2)] ++ [(s.blk, s.off + j * 6 + 3)] ++ p4 ++ p5).length : Int) := by simp only [List.length_append]; omega
    rw [e5]
    replace W6 := W6.mark O5 V5.ints
    replace G := G.trans O5
    refine ⟨_, rfl, ?_⟩
    have hz := Walk.inv_nil W6
    subst hz
    refine next (by omega) _ _ ⟨?_, ?_⟩
    · rw [hnext]; simp
    · rw [hnext]; simpa using G
  · simp only [decide_eq_false_iff_not] at h1
    have : j = s.len := by omega
    subst this
    rw [q0a (by omega)] at G
    exact ⟨by rw [q0a (by omega)], G⟩
/-! Proc -/
def q3o : Row := .sl (.int .nil) (.sl (.int .nil) (.int (.int (.sl q43 (.nil)))))
def qbu (x : Proc) : Prop := (x.params).length <= 1048576 /\ (x.lent).length <= 1048576 /\ q9x x.code
def qbv (l : List (Proc)) : Prop := l.length <= 1048576 /\ ∀ x ∈ l, qbu x
def q0u (m0 m : Mem) (cs : List Ce) (x : Proc) : Prop := ∃ q0 q1 q4 : Sl, cs = [.s q0, .s q1, .i x.result, .i x.regs, .s q4] /\ CpI m0 m q0 (x.params) /\ CpI m0 m q1 (x.lent) /\ q5o m0 m q4 (x.code)
abbrev q5f (m0 m : Mem) (s : Sl) (l : List (Proc)) : Prop := CpS q8f 5 (q0u m0 m) m0 m s l
theorem q0u.mono {m0 m m1 m' : Mem} (hk : Kp m0.size m m') (hb : m1.size <= m0.size) {cs : List Ce} {x : Proc} : q0u m0 m cs x -> q0u m1 m' cs x := by
  rintro ⟨q0, q1, q4, rfl, h0, h1, h4⟩
  exact ⟨q0, q1, q4, rfl, (h0.keep hk).base hb, (h1.keep hk).base hb, CpS.mono h4 (fun _ _ => q0r.mono hk hb) hk hb⟩
theorem q0u.read {m0 m : Mem} {cs : List Ce} {x : Proc} (h : q0u m0 m cs x) (hs : qbu x) : ProcR m cs x := by
  obtain ⟨q0, q1, q4, rfl, h0, h1, h4⟩ := h
  exact ⟨q0, q1, q4, rfl, IntSl.ofOwn h0 (by have : (x.params).length <= 1048576 := hs.1; omega), IntSl.ofOwn h1 (by have : (x.lent).length <= 1048576 := hs.2.1; omega), q5o.read h4 hs.2.2⟩
theorem q5f.read {m0 m : Mem} {s : Sl} {l : List (Proc)} (h : q5f m0 m s l) (hs : qbv l) : ProcSl m s l := CpS.read (sz := 4) h (fun cs x hx hr => q0u.read hr (hs.2 x hx)) hs.1
theorem q0u.walk {m0 m : Mem} {cs : List Ce} {x : Proc} (h : q0u m0 m cs x) (hs : qbu x) (b o : Nat) (hr : rowIs m b o cs) (hf : ∀ i, i < cs.length -> Vc.froz m b (o + i) = false) (hb : m0.size <= b) : ∃ pos, Walk m (.row q3o) b o pos /\ (∀ p ∈ pos, m0.size <= p.1) /\ pos.length <= 2199029547010 := by
  obtain ⟨q0, q1, q4, rfl, h0, h1, h4⟩ := h
  obtain ⟨p0, w0, b0, l0⟩ := CpI.walk h0 hs.1
  have v0 : q0.len <= 9223372036854775807 := by have := CpI.slen h0; have : (x.params).length <= 1048576 := hs.1; omega
  obtain ⟨p1, w1, b1, l1⟩ := CpI.walk h1 hs.2.1
  have v1 : q1.len <= 9223372036854775807 := by have := CpI.slen h1; have : (x.lent).length <= 1048576 := hs.2.1; omega
  have v4 : q4.len <= 9223372036854775807 := by have := CpS.len (sz := 5) h4; have := hs.2.2.1; omega
  obtain ⟨p4, w4, b4, l4⟩ := CpS.walk (sz := 5) (r := q43) h4 rfl (fun cs x hx hr => q0r.walk hr (hs.2.2.2 x hx))
  have g4 : p4.length <= 1048576 * 2097156 := Nat.le_trans l4 (Nat.mul_le_mul_right _ hs.2.2.1)
  refine ⟨p0 ++ (p1 ++ ((b, o + 2) :: ((b, o + 3) :: (p4 ++ ([]))))), .sl (s := q0) (hr 0 (.s q0) rfl) v0 w0 (.sl (s := q1) (hr 1 (.s q1) rfl) v1 w1 (.int (hr 2 (.i x.result) rfl) (hf 2 (by simp)) (.int (hr 3 (.i x.regs) rfl) (hf 3 (by simp)) (.sl (s := q4) (hr 4 (.s q4) rfl) v4 w4 (.nil _ _))))), fun p hp => ?_, ?_⟩
  · simp only [List.mem_append, List.mem_cons, List.not_mem_nil, or_false] at hp
    rcases hp with hp | hp | rfl | rfl | hp
    · exact b0 p hp
    · exact b1 p hp
    · exact hb
    · exact hb
    · exact b4 p hp
  · simp only [List.length_append, List.length_cons, List.length_nil]; omega
theorem q5f.walk {m0 m : Mem} {s : Sl} {l : List (Proc)} (h : q5f m0 m s l) (hs : qbv l) : ∃ pos, Walk m (.rows q3o s.len) s.blk s.off pos /\ (∀ p ∈ pos, m0.size <= p.1) /\ pos.length <= 2305849606285557760 := by
  obtain ⟨pos, h1, h2, h3⟩ := CpS.walk (sz := 4) (r := q3o) h rfl (fun cs x hx hr => q0u.walk hr (hs.2 x hx))
  exact ⟨pos, h1, h2, Nat.le_trans h3 (Nat.le_trans (Nat.mul_le_mul_right 2199029547010 hs.1) (by decide))⟩
theorem qom {m : Mem} {x : Proc} {q0 q1 q4 : Sl} (h0 : IntSl m q0 (x.params)) (h1 : IntSl m q1 (x.lent)) (h4 : InstrSl m q4 (x.code)) {left : Int} (z0 : Lft left) : CallV Tryz.prog qau [.agg #[Sl.v q0, Sl.v q1, vi x.result, vi x.regs, Sl.v q4], vi left] m (SzR left (qbu x) m) := by
  apply qk8
  unfold qey
  simp -zeta only [q05, q06]
  intro m1
  have e0 : Ext m m1 := (Ext.refl m).pushed _
  have s1 : m1.size = m.size + 1 := by simp [m1]
  clear_value m1
  obtain ⟨z1, z2⟩ := z0
  refine (q3x (h0.ext e0) (left := left) ⟨by omega, by omega⟩).mono ?_
  rintro _ m2 ⟨n1, rfl, le1, sm1, x1⟩
  have e1 : Ext m m2 := e0.trans x1
  refine ⟨x1.sam (by simp; omega), n1, rfl, fun h => ⟨-1, rfl, by omega, fun h => by omega, e1⟩, fun h => ?_⟩
  simp only [decide_eq_false_iff_not] at h
  have y1 : m.size + 1 <= m2.size := by have := x1.size; omega
  refine (q3x (h1.ext e1) (left := n1) ⟨by omega, by omega⟩).mono ?_
  rintro _ m3 ⟨n2, rfl, le2, sm2, x2⟩
  have e2 : Ext m m3 := e1.trans x2
  refine ⟨x2.sam (by simp; omega), n2, rfl, fun h => ⟨-1, rfl, by omega, fun h => by omega, e2⟩, fun h => ?_⟩
  simp only [decide_eq_false_iff_not] at h
  have y2 : m.size + 1 <= m3.size := by have := x2.size; omega
  refine (qm1 (InstrSl.ext e2 h4) (left := n2) ⟨by omega, by omega⟩).mono ?_
  rintro _ m4 ⟨n3, rfl, le3, sm3, x3⟩
  have e3 : Ext m m4 := e2.trans x3
  refine ⟨x3.sam (by simp; omega), n3, rfl, fun h => ⟨-1, rfl, by omega, fun h => by omega, e3⟩, fun h => ?_⟩
  simp only [decide_eq_false_iff_not] at h
  have y3 : m.size + 1 <= m4.size := by have := x3.size; omega
  exact ⟨_, rfl, by omega, fun _ => ⟨sm1 (by omega), sm2 (by omega), sm3 (by omega)⟩, e3⟩
theorem qnc {m : Mem} {s : Sl} {l : List (Proc)} (h : ProcSl m s l) {left : Int} (z0 : Lft left) : CallV Tryz.prog q94 [Sl.v s, vi left] m (SzR left (qbv l) m) := by
  apply qjw
  have h1 := h.len
  have h2 := h.lim
  obtain ⟨h3, h4⟩ := z0
  have e : w64 (left - (s.len : Int)) = left - s.len := w64_in (by omega) (by omega)
  unfold qdu
  rw [e]
  refine ⟨fun _ => ⟨-1, rfl, by omega, fun h => by omega, Ext.refl _⟩, fun h5 => ?_⟩
  simp only [decide_eq_false_iff_not] at h5
  refine forSI (σ := Int) (n := l.length) (by omega) (fun k n m' => 0 <= n /\ n <= left /\ Ext m m' /\ ∀ x ∈ l.take k, qbu x) ⟨by omega, by omega, Ext.refl _, by simp⟩ ?_
  rintro k n m1 I μ hk ⟨hn, hn2, hx, hs⟩ next
  refine ⟨fun h6 => ?_, fun h6 => ?_⟩
  · simp only [decide_eq_true_eq] at h6
    obtain ⟨y, hy⟩ := q00 (l := l) (k := k) (by omega)
    obtain ⟨q0, q1, q4, h0, h1, h4, g0, g1, g2, g3, g4⟩ := (ProcSl.ext hx h).at' hy
    refine ⟨by omega, by omega, _, g0, _, g1, _, g2, _, g3, _, g4, (qom h0 h1 h4 ⟨hn, by omega⟩).mono ?_⟩
    rintro _ m2 ⟨n2, rfl, le2, sm2, hx2⟩
    refine ⟨n2, rfl, fun h => ⟨-1, rfl, by omega, fun h => by omega, hx.trans hx2⟩, fun h7 => ?_⟩
    simp only [decide_eq_false_iff_not] at h7
    refine next (by omega) _ _ ⟨by omega, by omega, hx.trans hx2, fun x hxm => ?_⟩
    rw [q04 hy] at hxm
    rcases List.mem_append.1 hxm with h8 | h8
    · exact hs x h8
    · simp at h8; subst h8; exact sm2 (by omega)
  · simp only [decide_eq_false_iff_not] at h6
    rw [q0a (by omega)] at hs
    exact ⟨n, rfl, hn2, fun _ => ⟨by omega, hs⟩, hx⟩
theorem qoh {m : Mem} {x : Proc} {q0 q1 q4 : Sl} (h0 : IntSl m q0 (x.params)) (h1 : IntSl m q1 (x.lent)) (h4 : InstrSl m q4 (x.code)) (hs : qbu x) : CallV Tryz.prog qal [.agg #[Sl.v q0, Sl.v q1, vi x.result, vi x.regs, Sl.v q4]] m fun v m' => ∃ r0 r1 r4 : Sl, v = .agg #[Sl.v r0, Sl.v r1, vi x.result, vi x.regs, Sl.v r4] /\ q0u m m' [.s r0, .s r1, .i x.result, .i x.regs, .s r4] x /\ Ext m m' := by
  apply qkk
  unfold qeu
  simp -zeta only [q05, q06]
  intro m1 m2 m3
  have s1 : m1.size = m.size + 1 := by simp [m1]
  have s2 : m2.size = m.size + 2 := by simp [m2, s1]
  have s3 : m3.size = m.size + 3 := by simp [m3, s2]
  have x3 : Ext m m3 := (((Ext.refl m).pushed _).pushed _).pushed _
  have y3 : m3.size <= m3.size := Nat.le_refl _
  clear_value m3
  refine (q41 (h0.ext x3) hs.1).mono ?_
  rintro _ m4 ⟨r0, rfl, c0, u4⟩
  have x4 : Ext m m4 := x3.trans u4
  have y4 : m3.size <= m4.size := by have := u4.size; omega
  have kp4 : Kp m3.size m3 m4 := Kp.ext u4
  replace c0 := Own.base (m0 := m3) c0 y3
  refine ⟨u4.sam (by simp; omega), r0, rfl, ?_⟩
  intro m5
  have x5 : Ext m m5 := x4.scells (by omega) _ _
  have y5 : m3.size <= m5.size := Nat.le_trans y4 (Nat.le_of_eq (q02 _ _ _ _).symm)
  have kp5 : Kp m3.size m4 m5 := Kp.box (by omega) _ _
  clear_value m5
  replace c0 := c0.keep (kp5)
  refine (q41 (h1.ext x5) hs.2.1).mono ?_
  rintro _ m6 ⟨r1, rfl, c1, u6⟩
  have x6 : Ext m m6 := x5.trans u6
  have y6 : m3.size <= m6.size := by have := u6.size; omega
  have kp6 : Kp m3.size m5 m6 := Kp.ext u6
  replace c0 := c0.keep (kp6)
  replace c1 := Own.base (m0 := m3) c1 y5
  refine ⟨u6.sam (by simp; omega), r1, rfl, ?_⟩
  intro m7
  have x7 : Ext m m7 := x6.scells (by omega) _ _
  have y7 : m3.size <= m7.size := Nat.le_trans y6 (Nat.le_of_eq (q02 _ _ _ _).symm)
  have kp7 : Kp m3.size m6 m7 := Kp.box (by omega) _ _
  clear_value m7
  replace c0 := c0.keep (kp7)
  replace c1 := c1.keep (kp7)
  intro m8
  have x8 : Ext m m8 := x7.scells (by omega) _ _
  have y8 : m3.size <= m8.size := Nat.le_trans y7 (Nat.le_of_eq (q02 _ _ _ _).symm)
  have kp8 : Kp m3.size m7 m8 := Kp.box (by omega) _ _
  clear_value m8
  replace c0 := c0.keep (kp8)
  replace c1 := c1.keep (kp8)
  intro m9
  have x9 : Ext m m9 := x8.scells (by omega) _ _
  have y9 : m3.size <= m9.size := Nat.le_trans y8 (Nat.le_of_eq (q02 _ _ _ _).symm)
  have kp9 : Kp m3.size m8 m9 := Kp.box (by omega) _ _
  clear_value m9
  replace c0 := c0.keep (kp9)
  replace c1 := c1.keep (kp9)
  refine (qm4 (InstrSl.ext x9 h4) hs.2.2).mono ?_
  rintro _ m10 ⟨r4, rfl, c4, u10⟩
  have x10 : Ext m m10 := x9.trans u10
  have y10 : m3.size <= m10.size := by have := u10.size; omega
  have kp10 : Kp m3.size m9 m10 := Kp.ext u10
  replace c0 := c0.keep (kp10)
  replace c1 := c1.keep (kp10)
  replace c4 := CpS.mono (m1 := m3) c4 (fun _ _ => q0r.mono (Kp.ext (Ext.refl _)) y9) (Kp.ext (Ext.refl _)) y9
  refine ⟨u10.sam (by simp; omega), r4, rfl, ?_⟩
  intro m11
  have x11 : Ext m m11 := x10.scells (by omega) _ _
  have y11 : m3.size <= m11.size := Nat.le_trans y10 (Nat.le_of_eq (q02 _ _ _ _).symm)
  have kp11 : Kp m3.size m10 m11 := Kp.box (by omega) _ _
  clear_value m11
  replace c0 := c0.keep (kp11)
  replace c1 := c1.keep (kp11)
  replace c4 := CpS.mono (m1 := m3) c4 (fun _ _ => q0r.mono (kp11) (Nat.le_refl _)) (kp11) (Nat.le_refl _)
  intro m12
  have x12 : Ext m m12 := x11.scells (by omega) _ _
  have kp12 : Kp m3.size m11 m12 := Kp.box (by omega) _ _
  clear_value m12
  replace c0 := c0.keep (kp12)
  replace c1 := c1.keep (kp12)
  replace c4 := CpS.mono (m1 := m3) c4 (fun _ _ => q0r.mono (kp12) (Nat.le_refl _)) (kp12) (Nat.le_refl _)
  have hR : q0u m3 m12 [.s r0, .s r1, .i x.result, .i x.regs, .s r4] x := ⟨r0, r1, r4, rfl, c0, c1, c4⟩
  exact ⟨r0, r1, r4, rfl, q0u.mono (Kp.ext (Ext.refl _)) (by omega) hR, x12⟩
theorem qmo {m : Mem} {s : Sl} {l : List (Proc)} (h : ProcSl m s l) (hs : qbv l) : CallV Tryz.prog q9a [Sl.v s] m fun v m' => ∃ s', v = Sl.v s' /\ q5f m m' s' l /\ Ext m m' := by
  apply qjs
  unfold qdx
  have hsl := h.len
  have hl := hs.1
  have e0 : Int.toNat (s.len : Int) = l.length := by omega
  rw [e0]
  refine ⟨by omega, Int.le_refl _, by omega, by omega, ?_⟩
  intro m1
  have x1 : Ext m m1 := (Ext.refl m).pushed _
  have s1 : m1.size = m.size + 1 := by simp [m1]
  have k1 : Blk m1 m.size q8f (zrow [.s Sl.nil, .s Sl.nil, .i (0 : Int), .i (0 : Int), .s Sl.nil] l.length) := Blk.push m _ _
  clear_value m1
  simp -zeta only [Sl.blk_mk, Sl.off_mk, Sl.len_mk, Nat.zero_add]
  refine forI (n := l.length) (by omega) (fun k m' => Ext m m' /\ m1.size <= m'.size /\ ∃ css, Blk m' m.size q8f (css.flatten ++ zrow [.s Sl.nil, .s Sl.nil, .i (0 : Int), .i (0 : Int), .s Sl.nil] (l.length - css.length)) /\ css.length = k /\ RowsOf 5 (q0u m1 m') css (l.take k)) ⟨x1, Nat.le_refl _, [], by simpa using k1, rfl, by simpa using RowsOf.nil _ _⟩ ?_
  rintro k m2 I μ hk ⟨hx, hm2, css, kk, hck, hrow⟩ next
  refine ⟨fun h6 => ?_, fun h6 => ?_⟩
  · simp only [decide_eq_true_eq] at h6
    obtain ⟨y, hy⟩ := q00 (l := l) (k := k) (by omega)
    obtain ⟨q0, q1, q4, h0, h1, h4, g0, g1, g2, g3, g4⟩ := (ProcSl.ext hx h).at' hy
    refine ⟨by omega, by omega, _, g0, _, g1, _, g2, _, g3, _, g4, (qoh h0 h1 h4 (hs.2 y (q01 hy))).mono ?_⟩
    rintro _ m3 ⟨r0, r1, r4, rfl, hc, x3⟩
    have ek : Int.toNat (k : Int) = k := by omega
    have hm3 := x3.size
    refine ⟨_, _, _, _, _, rfl, by omega, by omega, ?_⟩
    rw [ek]
    have hfl : css.flatten.length = k * 5 := by rw [q0i hrow.size, hck]
    refine ⟨(kk.ext x3).wrOk (by rw [List.length_append, hfl, qg6, hck]; simp only [List.length_cons, List.length_nil]; omega), next (by omega) _ ⟨(hx.trans x3).scells (Nat.le_refl _) _ _, by rw [q02]; omega, css ++ [[.s r0, .s r1, .i y.result, .i y.regs, .s r4]], ?_, by simp [hck], ?_⟩⟩
    · have := Blk.scells (m := m3) (o := k * 5) (r := [.s r0, .s r1, .i y.result, .i y.regs, .s r4]) (kk.ext x3)
      have e1 := fillRow (css := css) (zs := [.s Sl.nil, .s Sl.nil, .i (0 : Int), .i (0 : Int), .s Sl.nil]) (cs := [.s r0, .s r1, .i y.result, .i y.regs, .s r4]) (n := l.length) hrow.size rfl (by omega)
      simp only [List.length_cons, List.length_nil, Nat.zero_add, hck] at e1
      rw [hck] at this
      rw [e1] at this
      simpa [hck] using this
    · rw [q04 hy]
      have kp : Kp m1.size m2 (scells m3 m.size (k * 5) [.s r0, .s r1, .i y.result, .i y.regs, .s r4]) := fun b hb1 hb2 => by rw [q0f _ _ _ _ (by omega), x3.same b hb2]
      refine RowsOf.snoc ⟨hrow.len, hrow.size, fun j cs x hj hx => q0u.mono kp (Nat.le_refl _) (hrow.each j cs x hj hx)⟩ rfl (q0u.mono (m0 := m2) (m1 := m1) (m := m3) (Kp.box (by omega) _ _) (by omega) hc)
  · simp only [decide_eq_false_iff_not] at h6
    have : k = l.length := by omega
    subst this
    rw [q0a (Nat.le_refl _)] at hrow
    have e2 : l.length - css.length = 0 := by omega
    rw [e2] at kk
    simp only [zrow, List.replicate_zero, List.flatten_nil, List.append_nil] at kk
    exact ⟨_, rfl, ⟨css, ⟨by simp only [Sl.len_mk]; rw [q0i hrow.size, hck], Or.inr ⟨m.size, l.length, [], rfl, Nat.le_refl _, by rw [List.append_nil]; exact kk, by rw [List.append_nil, q0i hrow.size, hck], Nat.le_refl _⟩⟩, hrow.len, hrow.size, fun j cs x hj hx => q0u.mono (Kp.ext (Ext.refl _)) (by omega) (hrow.each j cs x hj hx)⟩, hx⟩
theorem qo8 {m : Mem} {x y : Proc} {q0 q1 q4 r0 r1 r4 : Sl} (h0 : IntSl m q0 (x.params)) (h1 : IntSl m q1 (x.lent)) (h4 : InstrSl m q4 (x.code)) (k0 : IntSl m r0 (y.params)) (k1 : IntSl m r1 (y.lent)) (k4 : InstrSl m r4 (y.code)) : GetsB Tryz.prog qao [.agg #[Sl.v q0, Sl.v q1, vi x.result, vi x.regs, Sl.v q4], .agg #[Sl.v r0, Sl.v r1, vi y.result, vi y.regs, Sl.v r4]] m (x = y) := by
  apply qkr
  unfold qfo
  simp -zeta only [q05, q06]
  intro m1 m2
  have x2 : Ext m m2 := ((Ext.refl m).pushed _).pushed _
  have s1 : m1.size = m.size + 1 := by simp [m1]
  have s2 : m2.size = m.size + 2 := by simp [m2, s1]
  have y2 : m.size + 2 <= m2.size := by omega
  clear_value m2
  refine (q32 (h0.ext x2) (k0.ext x2)).mono ?_
  rintro _ m3 ⟨b0, rfl, hb0, u3⟩
  have x3 : Ext m m3 := x2.trans u3
  have y3 : m.size + 2 <= m3.size := by have := u3.size; omega
  refine ⟨u3.sam (by simp; omega), b0, rfl, fun h => retF (fun e => by subst e; exact nb hb0 h rfl) x3, fun h => ?_⟩
  have i0 := yb hb0 h
  clear h
  refine (q32 (h1.ext x3) (k1.ext x3)).mono ?_
  rintro _ m4 ⟨b1, rfl, hb1, u4⟩
  have x4 : Ext m m4 := x3.trans u4
  have y4 : m.size + 2 <= m4.size := by have := u4.size; omega
  refine ⟨u4.sam (by simp; omega), b1, rfl, fun h => retF (fun e => by subst e; exact nb hb1 h rfl) x4, fun h => ?_⟩
  have i1 := yb hb1 h
  clear h
  refine ⟨fun h => retF (fun e => by subst e; simp at h) x4, fun i2 => ?_⟩
  simp only [bne_eq_false_iff_eq] at i2
  refine ⟨fun h => retF (fun e => by subst e; simp at h) x4, fun i3 => ?_⟩
  simp only [bne_eq_false_iff_eq] at i3
  refine (qlo (InstrSl.ext x4 h4) (InstrSl.ext x4 k4)).mono ?_
  rintro _ m5 ⟨b4, rfl, hb4, u5⟩
  have x5 : Ext m m5 := x4.trans u5
  have y5 : m.size + 2 <= m5.size := by have := u5.size; omega
  refine ⟨u5.sam (by simp; omega), b4, rfl, fun h => retF (fun e => by subst e; exact nb hb4 h rfl) x5, fun h => ?_⟩
  have i4 := yb hb4 h
  clear h
  refine retT ?_ x5
  cases x; cases y; simp only [] at i0 i1 i2 i3 i4
  simp only [i0, i1, i2, i3, i4]
theorem qmn {m : Mem} {s t : Sl} {l r : List (Proc)} (hs : ProcSl m s l) (ht : ProcSl m t r) : GetsB Tryz.prog q9n [Sl.v s, Sl.v t] m (l = r) := by
  apply qij
  unfold qe8
  have hsl := hs.len
  have htl := ht.len
  refine ⟨fun h => retF (fun e => ?_) (Ext.refl _), fun h => ?_⟩
  · subst e; simp at h; omega
  · have hlen : l.length = r.length := by simp at h; omega
    refine forI (n := l.length) (hsl ▸ hs.lim) (fun k m' => Ext m m' /\ l.take k = r.take k) ⟨Ext.refl _, by simp⟩ ?_
    rintro k m1 I μ hk ⟨hx, he⟩ next
    refine ⟨fun h1 => ?_, fun h1 => ?_⟩
    · simp only [decide_eq_true_eq] at h1
      obtain ⟨y, hy⟩ := q00 (l := l) (k := k) (by omega)
      obtain ⟨z, hz⟩ := q00 (l := r) (k := k) (by omega)
      obtain ⟨q0, q1, q4, h0, h1, h4, g0, g1, g2, g3, g4⟩ := (ProcSl.ext hx hs).at' hy
      obtain ⟨r0, r1, r4, k0, k1, k4, f0, f1, f2, f3, f4⟩ := (ProcSl.ext hx ht).at' hz
      refine ⟨by omega, by omega, _, g0, _, g1, _, g2, _, g3, _, g4, by omega, by omega, _, f0, _, f1, _, f2, _, f3, _, f4, (qo8 h0 h1 h4 k0 k1 k4).mono ?_⟩
      rintro _ m2 ⟨b, rfl, hb, x2⟩
      refine ⟨b, rfl, fun h2 => retF (fun e => nb hb h2 ?_) (hx.trans x2), fun h2 => next (by omega) _ ⟨hx.trans x2, ?_⟩⟩
      · subst e; rw [hy] at hz; simpa using hz
      · rw [q04 hy, q04 hz, he, yb hb h2]
    · simp only [decide_eq_false_iff_not] at h1
      rw [q0a (by omega), q0a (by omega)] at he
      exact retT he hx
theorem qk6 {m : Mem} {s : Sl} {pos : List (Nat × Nat)} (h : Walk m (.rows q3o s.len) s.blk s.off pos) (hlim : s.len <= 9223372036854775807) {k : Int} (hk : 0 <= k /\ k + pos.length <= 4611686018427387904) : CallV Tryz.prog q7g [Sl.v s, vi k] m (MarkR k pos m) := by
  apply qgo
  unfold qbf
  obtain ⟨ps, hpl, rfl, hp⟩ := Walk.split h
  refine forSI (σ := Int) (n := s.len) hlim (fun j c m' => c = k + (ps.take j).flatten.length /\ MkR m k (ps.take j).flatten m') ⟨by simp, MkR.nil (Ext.refl _) _⟩ ?_
  rintro j c m1 I μ hj ⟨rfl, G⟩ next
  refine ⟨fun h1 => ?_, fun h1 => ?_⟩
  · simp only [decide_eq_true_eq] at h1
    obtain ⟨pj, hpj⟩ := q00 (l := ps) (k := j) (by omega)
    have hlen : (ps.take j).flatten.length + pj.length <= ps.flatten.length := by
      have e1 : (ps.take (j + 1)).flatten.length = (ps.take j).flatten.length + pj.length := by rw [q04 hpj]; simp
      have e2 : ps.flatten.length = (ps.take (j + 1)).flatten.length + (ps.drop (j + 1)).flatten.length := by rw [← List.length_append, ← List.flatten_append, List.take_append_drop]
      omega
    have hq : ∀ p ∈ (ps.take j).flatten, ∃ n, gcell m p.1 p.2 = some (vi n) := fun p hp' => h.ints p (by
      rw [← List.take_append_drop j ps, List.flatten_append]; exact List.mem_append_left _ hp')
    have W0 : Walk m1 (.row q3o) s.blk (s.off + j * 5) pj := (hp j pj hpj).mark G hq
    have ej : Int.toNat (j : Int) = j := by omega
    have hnext : (ps.take (j + 1)).flatten = (ps.take j).flatten ++ pj := by rw [q04 hpj]; simp
    generalize hacc : (ps.take j).flatten = acc at *
    refine ⟨by omega, by omega, ?_⟩
    rw [ej]
    simp only [q3o] at W0
    obtain ⟨t0, p0, d0, g0, L0, V0, rfl, W1⟩ := Walk.inv_sl W0
    refine ⟨t0, g0, (q28 V0 (k := k + ((acc).length : Int)) (by simp only [List.length_append, List.length_cons, List.length_nil] at hlen ⊢; omega)).mono ?_⟩
    rintro _ m2 ⟨rfl, O0⟩
    have e0 : k + ((acc).length : Int) + (p0.length : Int) = k + ((acc ++ p0).length : Int) := by simp only [List.length_append]; omega
    rw [e0]
    replace W1 := W1.mark O0 V0.ints
    replace G := G.trans O0
    refine ⟨_, rfl, ?_⟩
    refine ⟨by omega, by omega, ?_⟩
    obtain ⟨t1, p1, d1, g1, L1, V1, rfl, W2⟩ := Walk.inv_sl W1
    refine ⟨t1, g1, (q28 V1 (k := k + ((acc ++ p0).length : Int)) (by simp only [List.length_append, List.length_cons, List.length_nil] at hlen ⊢; omega)).mono ?_⟩
    rintro _ m3 ⟨rfl, O1⟩
    have e1 : k + ((acc ++ p0).length : Int) + (p1.length : Int) = k + ((acc ++ p0 ++ p1).length : Int) := by simp only [List.length_append]; omega
    rw [e1]
    replace W2 := W2.mark O1 V1.ints
    replace G := G.trans O1
    refine ⟨_, rfl, ?_⟩
    refine ⟨by omega, by omega, ?_⟩
    obtain ⟨v2, p2, g2, f2, rfl, W3⟩ := Walk.inv_int W2
    have e2 : w64 (k + ((acc ++ p0 ++ p1).length : Int) + 1) = k + ((acc ++ p0 ++ p1 ++ [(s.blk, s.off + j * 5 + 2)]).length : Int) := by simp only [List.length_append, List.length_cons, List.length_nil] at hlen ⊢; rw [w64_in (by omega) (by omega)]; omega
    refine ⟨fun i hi => ?_, ?_⟩
    · have : i = 0 := by omega
      subst this; exact ⟨by rw [Nat.add_zero]; rw [show gcell m3 s.blk (s.off + j * 5 + 2) = _ from g2]; rfl, f2⟩
    rw [e2]
    intro m4
    have O2 : MkR m3 (k + ((acc ++ p0 ++ p1).length : Int)) [(s.blk, s.off + j * 5 + 2)] m4 := MkR.one (by rw [show gcell m3 s.blk (s.off + j * 5 + 2) = _ from g2]; rfl) _
    replace W3 := W3.mark O2 (by simpa using ⟨v2, g2⟩)
    replace G := G.trans O2
    clear_value m4
    refine ⟨by omega, by omega, ?_⟩
    obtain ⟨v3, p3, g3, f3, rfl, W4⟩ := Walk.inv_int W3
    have e3 : w64 (k + ((acc ++ p0 ++ p1 ++ [(s.blk, s.off + j * 5 + 2)]).length : Int) + 1) = k + ((acc ++ p0 ++ p1 ++ [(s.blk, s.off + j * 5 + 2)] ++ [(s.blk, s.off + j * 5 + 3)]).length : Int) := by simp only [List.length_append, List.length_cons, List.length_nil] at hlen ⊢; rw [w64_in (by omega) (by omega)]; omega
    refine ⟨fun i hi => ?_, ?_⟩
    · have : i = 0 := by omega
      subst this; exact ⟨by rw [Nat.add_zero]; rw [show gcell m4 s.blk (s.off + j * 5 + 3) = _ from g3]; rfl, f3⟩
    rw [e3]
    intro m5
    have O3 : MkR m4 (k + ((acc ++ p0 ++ p1 ++ [(s.blk, s.off + j * 5 + 2)]).length : Int)) [(s.blk, s.off + j * 5 + 3)] m5 := MkR.one (by rw [show gcell m4 s.blk (s.off + j * 5 + 3) = _ from g3]; rfl) _
    replace W4 := W4.mark O3 (by simpa using ⟨v3, g3⟩)
    replace G := G.trans O3
    clear_value m5
    refine ⟨by omega, by omega, ?_⟩
    obtain ⟨t4, p4, d4, g4, L4, V4, rfl, W5⟩ := Walk.inv_sl W4
    refine ⟨t4, g4, (qio V4 L4 (k := k + ((acc ++ p0 ++ p1 ++ [(s.blk, s.off + j * 5 + 2)] ++ [(s.blk, s.off + j * 5 + 3)]).length : Int)) (by simp only [List.length_append, List.length_cons, List.length_nil] at hlen ⊢; omega)).mono ?_⟩
    rintro _ m6 ⟨rfl, O4⟩
    have e4 : k + ((acc ++ p0 ++ p1 ++ [(s.blk, s.off + j * 5 + 2)] ++ [(s.blk, s.off + j * 5 + 3)]).length : Int) + (p4.length : Int) = k + ((acc ++ p0 ++ p1 ++ [(s.blk, s.off + j * 5 + 2)] ++ [(s.blk, s.off + j * 5 + 3)] ++ p4).length : Int) := by simp only [List.length_append]; omega
    rw [e4]
    replace W5 := W5.mark O4 V4.ints
    replace G := G.trans O4
    refine ⟨_, rfl, ?_⟩
    have hz := Walk.inv_nil W5
    subst hz
    refine next (by omega) _ _ ⟨?_, ?_⟩
    · rw [hnext]; simp
    · rw [hnext]; simpa using G
  · simp only [decide_eq_false_iff_not] at h1
    have : j = s.len := by omega
    subst this
    rw [q0a (by omega)] at G
    exact ⟨by rw [q0a (by omega)], G⟩
end Go.Proofs.YtpggcodlaajceaaGreat
end
section
/- The laws' helpers for struct types; printed by lawgen.py. -/
namespace Go.Proofs.YtpggcodlaajceaaGreat
open Go.Vc
/-! Image -/
def qs8 : Row := .sl q3p (.sl q3o (.nil))
def q9l (x : Image) : Prop := qc1 x.decls /\ qbv x.procs
def q1z (m0 m : Mem) (cs : List Ce) (x : Image) : Prop := ∃ q0 q1 : Sl, cs = [.s q0, .s q1] /\ q5n m0 m q0 (x.decls) /\ q5f m0 m q1 (x.procs)
theorem q1z.mono {m0 m m1 m' : Mem} (hk : Kp m0.size m m') (hb : m1.size <= m0.size) {cs : List Ce} {x : Image} : q1z m0 m cs x -> q1z m1 m' cs x := by
  rintro ⟨q0, q1, rfl, h0, h1⟩
  exact ⟨q0, q1, rfl, CpS.mono h0 (fun _ _ => q0s.mono hk hb) hk hb, CpS.mono h1 (fun _ _ => q0u.mono hk hb) hk hb⟩
theorem q1z.read {m0 m : Mem} {q0 q1 : Sl} {x : Image} (h : q1z m0 m [.s q0, .s q1] x) (hs : q9l x) : ImageR m q0 q1 x := by
  obtain ⟨q0', q1', he, h0, h1⟩ := h
  simp only [List.cons.injEq, Ce.s.injEq, and_true] at he
  obtain ⟨rfl, rfl⟩ := he
  exact ⟨q5n.read h0 hs.1, q5f.read h1 hs.2⟩
theorem q1z.walk {m0 m : Mem} {cs : List Ce} {x : Image} (h : q1z m0 m cs x) (hs : q9l x) (b o : Nat) (hr : rowIs m b o cs) (hf : ∀ i, i < cs.length -> Vc.froz m b (o + i) = false) (hb : m0.size <= b) : ∃ pos, Walk m (.row qs8) b o pos /\ (∀ p ∈ pos, m0.size <= p.1) /\ pos.length <= 3458771110894501888 := by
  obtain ⟨q0, q1, rfl, h0, h1⟩ := h
  have v0 : q0.len <= 9223372036854775807 := by have := CpS.len (sz := 2) h0; have := hs.1.1; omega
  obtain ⟨p0, w0, b0, l0⟩ := CpS.walk (sz := 2) (r := q3p) h0 rfl (fun cs x hx hr => q0s.walk hr (hs.1.2 x hx))
  have g0 : p0.length <= 1048576 * 1099511627778 := Nat.le_trans l0 (Nat.mul_le_mul_right _ hs.1.1)
  have v1 : q1.len <= 9223372036854775807 := by have := CpS.len (sz := 4) h1; have := hs.2.1; omega
  obtain ⟨p1, w1, b1, l1⟩ := CpS.walk (sz := 4) (r := q3o) h1 rfl (fun cs x hx hr => q0u.walk hr (hs.2.2 x hx))
  have g1 : p1.length <= 1048576 * 2199029547010 := Nat.le_trans l1 (Nat.mul_le_mul_right _ hs.2.1)
  refine ⟨p0 ++ (p1 ++ ([])), .sl (s := q0) (hr 0 (.s q0) rfl) v0 w0 (.sl (s := q1) (hr 1 (.s q1) rfl) v1 w1 (.nil _ _)), fun p hp => ?_, ?_⟩
  · simp only [List.mem_append, List.mem_cons, List.not_mem_nil, or_false] at hp
    rcases hp with hp | hp
    · exact b0 p hp
    · exact b1 p hp
  · simp only [List.length_append, List.length_cons, List.length_nil]; omega
theorem qmx {m : Mem} {x : Image} {q0 q1 : Sl} (h0 : DeclSl m q0 (x.decls)) (h1 : ProcSl m q1 (x.procs)) {left : Int} (z0 : Lft left) : CallV Tryz.prog q9d [.agg #[Sl.v q0, Sl.v q1], vi left] m (SzR left (q9l x) m) := by
  apply qik
  unfold qdf
  simp -zeta only [q05, q06]
  intro m1
  have e0 : Ext m m1 := (Ext.refl m).pushed _
  have s1 : m1.size = m.size + 1 := by simp [m1]
  clear_value m1
  obtain ⟨z1, z2⟩ := z0
  refine (qns (DeclSl.ext e0 h0) (left := left) ⟨by omega, by omega⟩).mono ?_
  rintro _ m2 ⟨n1, rfl, le1, sm1, x1⟩
  have e1 : Ext m m2 := e0.trans x1
  refine ⟨x1.sam (by simp; omega), n1, rfl, fun h => ⟨-1, rfl, by omega, fun h => by omega, e1⟩, fun h => ?_⟩
  simp only [decide_eq_false_iff_not] at h
  have y1 : m.size + 1 <= m2.size := by have := x1.size; omega
  refine (qnc (ProcSl.ext e1 h1) (left := n1) ⟨by omega, by omega⟩).mono ?_
  rintro _ m3 ⟨n2, rfl, le2, sm2, x2⟩
  have e2 : Ext m m3 := e1.trans x2
  refine ⟨x2.sam (by simp; omega), n2, rfl, fun h => ⟨-1, rfl, by omega, fun h => by omega, e2⟩, fun h => ?_⟩
  simp only [decide_eq_false_iff_not] at h
  have y2 : m.size + 1 <= m3.size := by have := x2.size; omega
  exact ⟨_, rfl, by omega, fun _ => ⟨sm1 (by omega), sm2 (by omega)⟩, e2⟩
theorem q51 {m : Mem} {x : Image} {q0 q1 : Sl} (h0 : DeclSl m q0 (x.decls)) (h1 : ProcSl m q1 (x.procs)) (hs : q9l x) : CallV Tryz.prog q31 [.agg #[Sl.v q0, Sl.v q1]] m fun v m' => ∃ r0 r1 : Sl, v = .agg #[Sl.v r0, Sl.v r1] /\ q1z m m' [.s r0, .s r1] x /\ Ext m m' := by
  apply qjg
  unfold qe3
  simp -zeta only [q05, q06]
  intro m1 m2 m3
  have s1 : m1.size = m.size + 1 := by simp [m1]
  have s2 : m2.size = m.size + 2 := by simp [m2, s1]
  have s3 : m3.size = m.size + 3 := by simp [m3, s2]
  have x3 : Ext m m3 := (((Ext.refl m).pushed _).pushed _).pushed _
  have y3 : m3.size <= m3.size := Nat.le_refl _
  clear_value m3
  refine (qnn (DeclSl.ext x3 h0) hs.1).mono ?_
  rintro _ m4 ⟨r0, rfl, c0, u4⟩
  have x4 : Ext m m4 := x3.trans u4
  have y4 : m3.size <= m4.size := by have := u4.size; omega
  have kp4 : Kp m3.size m3 m4 := Kp.ext u4
  replace c0 := CpS.mono (m1 := m3) c0 (fun _ _ => q0s.mono (Kp.ext (Ext.refl _)) y3) (Kp.ext (Ext.refl _)) y3
  refine ⟨u4.sam (by simp; omega), r0, rfl, ?_⟩
  intro m5
  have x5 : Ext m m5 := x4.scells (by omega) _ _
  have y5 : m3.size <= m5.size := Nat.le_trans y4 (Nat.le_of_eq (q02 _ _ _ _).symm)
  have kp5 : Kp m3.size m4 m5 := Kp.box (by omega) _ _
  clear_value m5
  replace c0 := CpS.mono (m1 := m3) c0 (fun _ _ => q0s.mono (kp5) (Nat.le_refl _)) (kp5) (Nat.le_refl _)
  refine (qmo (ProcSl.ext x5 h1) hs.2).mono ?_
  rintro _ m6 ⟨r1, rfl, c1, u6⟩
  have x6 : Ext m m6 := x5.trans u6
  have y6 : m3.size <= m6.size := by have := u6.size; omega
  have kp6 : Kp m3.size m5 m6 := Kp.ext u6
  replace c0 := CpS.mono (m1 := m3) c0 (fun _ _ => q0s.mono (kp6) (Nat.le_refl _)) (kp6) (Nat.le_refl _)
  replace c1 := CpS.mono (m1 := m3) c1 (fun _ _ => q0u.mono (Kp.ext (Ext.refl _)) y5) (Kp.ext (Ext.refl _)) y5
  refine ⟨u6.sam (by simp; omega), r1, rfl, ?_⟩
  intro m7
  have x7 : Ext m m7 := x6.scells (by omega) _ _
  have y7 : m3.size <= m7.size := Nat.le_trans y6 (Nat.le_of_eq (q02 _ _ _ _).symm)
  have kp7 : Kp m3.size m6 m7 := Kp.box (by omega) _ _
  clear_value m7
  replace c0 := CpS.mono (m1 := m3) c0 (fun _ _ => q0s.mono (kp7) (Nat.le_refl _)) (kp7) (Nat.le_refl _)
  replace c1 := CpS.mono (m1 := m3) c1 (fun _ _ => q0u.mono (kp7) (Nat.le_refl _)) (kp7) (Nat.le_refl _)
  intro m8
  have x8 : Ext m m8 := x7.scells (by omega) _ _
  have kp8 : Kp m3.size m7 m8 := Kp.box (by omega) _ _
  clear_value m8
  replace c0 := CpS.mono (m1 := m3) c0 (fun _ _ => q0s.mono (kp8) (Nat.le_refl _)) (kp8) (Nat.le_refl _)
  replace c1 := CpS.mono (m1 := m3) c1 (fun _ _ => q0u.mono (kp8) (Nat.le_refl _)) (kp8) (Nat.le_refl _)
  have hR : q1z m3 m8 [.s r0, .s r1] x := ⟨r0, r1, rfl, c0, c1⟩
  exact ⟨r0, r1, rfl, q1z.mono (Kp.ext (Ext.refl _)) (by omega) hR, x8⟩
theorem qo0 {m : Mem} {x y : Image} {q0 q1 r0 r1 : Sl} (h0 : DeclSl m q0 (x.decls)) (h1 : ProcSl m q1 (x.procs)) (k0 : DeclSl m r0 (y.decls)) (k1 : ProcSl m r1 (y.procs)) : GetsB Tryz.prog q9f [.agg #[Sl.v q0, Sl.v q1], .agg #[Sl.v r0, Sl.v r1]] m (x = y) := by
  apply qjn
  unfold qe9
  simp -zeta only [q05, q06]
  intro m1 m2
  have x2 : Ext m m2 := ((Ext.refl m).pushed _).pushed _
  have s1 : m1.size = m.size + 1 := by simp [m1]
  have s2 : m2.size = m.size + 2 := by simp [m2, s1]
  have y2 : m.size + 2 <= m2.size := by omega
  clear_value m2
  refine (qnb (DeclSl.ext x2 h0) (DeclSl.ext x2 k0)).mono ?_
  rintro _ m3 ⟨b0, rfl, hb0, u3⟩
  have x3 : Ext m m3 := x2.trans u3
  have y3 : m.size + 2 <= m3.size := by have := u3.size; omega
  refine ⟨u3.sam (by simp; omega), b0, rfl, fun h => retF (fun e => by subst e; exact nb hb0 h rfl) x3, fun h => ?_⟩
  have i0 := yb hb0 h
  clear h
  refine (qmn (ProcSl.ext x3 h1) (ProcSl.ext x3 k1)).mono ?_
  rintro _ m4 ⟨b1, rfl, hb1, u4⟩
  have x4 : Ext m m4 := x3.trans u4
  have y4 : m.size + 2 <= m4.size := by have := u4.size; omega
  refine ⟨u4.sam (by simp; omega), b1, rfl, fun h => retF (fun e => by subst e; exact nb hb1 h rfl) x4, fun h => ?_⟩
  have i1 := yb hb1 h
  clear h
  refine retT ?_ x4
  cases x; cases y; simp only [] at i0 i1
  simp only [i0, i1]
end Go.Proofs.YtpggcodlaajceaaGreat
end
section
/- The laws' helpers: images are marked; outcomes. The law of Execute. -/
namespace Go.Proofs.YtpggcodlaajceaaGreat
open Go.Vc
theorem qkt {m : Mem} {d p : Sl} {p0 p1 : List (Nat × Nat)} (h0 : Walk m (.rows q3p d.len) d.blk d.off p0) (h1 : Walk m (.rows q3o p.len) p.blk p.off p1) (hl : d.len <= 9223372036854775807 /\ p.len <= 9223372036854775807) {k : Int} (hk : 0 <= k /\ k + (p0 ++ p1).length <= 4611686018427387904) :
    CallV Tryz.prog q77 [.agg #[Sl.v d, Sl.v p], vi k] m (MarkR k (p0 ++ p1) m) := by
  rw [List.length_append] at hk
  apply qfz
  unfold qb3
  simp -zeta only [q05, q06]
  intro m1
  have x1 : Ext m m1 := (Ext.refl m).pushed _
  have s1 : m1.size = m.size + 1 := by simp [m1]
  clear_value m1
  have nm : ∀ {q : List (Nat × Nat)} {K : Kind} {b o : Nat}, Walk m K b o q -> ∀ z ∈ q, z.1 ≠ m.size := fun h z hz e => by have := h.lt z hz; omega
  refine (qky (h0.ext x1) hl.1 (k := k) ⟨hk.1, by omega⟩).mono ?_
  rintro _ m2 ⟨rfl, g1⟩
  have s2 := g1.size
  refine ⟨fun b hb => ?_, _, rfl, ?_⟩
  · simp at hb; subst hb; exact g1.blk _ (by omega) (nm h0)
  refine (qk6 ((h1.ext x1).mark g1 (h0.ext x1).ints) hl.2 (k := k + p0.length) ⟨by omega, by omega⟩).mono ?_
  rintro _ m3 ⟨rfl, g2⟩
  refine ⟨fun b hb => ?_, _, rfl, ?_⟩
  · simp at hb; subst hb; exact g2.blk _ (by omega) (nm h1)
  have g := (MkR.nil x1 k).trans (by simpa using g1.trans g2)
  exact ⟨by rw [List.length_append]; congr 1; omega, by simpa using g⟩
theorem q6g {m : Mem} {a b c : Int} {s t : Sl} {l : List Int} (hs : IntSl m s l) (ht : IntSl m t l) : CallV Tryz.prog q35 [.agg #[vi a, vi b, vi c, Sl.v s], .agg #[vi a, vi b, vi c, Sl.v t]] m fun v m' => v = vb true /\ Ext m m' := by
  apply qg2
  unfold qbg
  simp -zeta only [q05, q06]
  intro m1 m2
  have x2 : Ext m m2 := ((Ext.refl m).pushed _).pushed _
  have s1 : m1.size = m.size + 1 := by simp [m1]
  have s2 : m2.size = m.size + 2 := by simp [m2, s1]
  clear_value m2
  refine ⟨fun h => by simp at h, fun _ => ⟨fun h => by simp at h, fun _ => ⟨fun h => by simp at h, fun _ => ?_⟩⟩⟩
  refine (q32 (hs.ext x2) (ht.ext x2)).mono ?_
  rintro _ m3 ⟨q, rfl, hq, x3⟩
  exact ⟨x3.sam (by simp; omega), q, rfl, fun h => absurd rfl (nb hq h), fun _ => ⟨trivial, x2.trans x3⟩⟩
theorem qhr {m : Mem} {a b c : Int} {s : Sl} {pos : List (Nat × Nat)} (h : Walk m (.rows (.int .nil) s.len) s.blk s.off pos) {k : Int} (hk : 0 <= k /\ k + pos.length <= 4611686018427387904) :
    CallV Tryz.prog q5k [.agg #[vi a, vi b, vi c, Sl.v s], vi k] m (MarkR k pos m) := by
  apply qei
  unfold q8r
  simp -zeta only [q05, q06]
  intro m1
  have x1 : Ext m m1 := (Ext.refl m).pushed _
  have s1 : m1.size = m.size + 1 := by simp [m1]
  clear_value m1
  refine (q28 (h.ext x1) hk).mono ?_
  rintro _ m2 ⟨rfl, g1⟩
  refine ⟨fun b hb => ?_, _, rfl, rfl, ?_⟩
  · simp at hb; subst hb; exact g1.blk _ (by omega) fun z hz e => by have := h.lt z hz; omega
  · simpa using (MkR.nil x1 k).trans (by simpa using g1)
theorem qhm {m : Mem} {a b c : Int} {s : Sl} {l : List Int} (hs : IntSl m s l) {k : Int} (hl : ∀ (j : Nat) (x : Int), l[j]? = some x -> x = k + j) (hk : 0 <= k /\ k + l.length <= 4611686018427387904) : Gets Tryz.prog q2f [.agg #[vi a, vi b, vi c, Sl.v s], vi k] m (vi (k + l.length)) := by
  apply qej
  unfold q8s
  simp -zeta only [q05, q06]
  intro m1
  have x1 : Ext m m1 := (Ext.refl m).pushed _
  have s1 : m1.size = m.size + 1 := by simp [m1]
  clear_value m1
  refine (qm2 (hs.ext x1) hl hk).mono ?_
  rintro _ m2 ⟨rfl, x2⟩
  exact ⟨x2.sam (by simp; omega), _, rfl, fun h => by simp at h; omega, fun _ => ⟨rfl, x1.trans x2⟩⟩
theorem OutR.walk {m m' M : Mem} {s : Sl} {l : List Int} (h : OutR m m' s l) (hM : l ≠ [] -> M[s.blk]? = m'[s.blk]?) : ∃ pos, Walk M (.rows (.int .nil) s.len) s.blk s.off pos /\ (∀ p ∈ pos, m.size <= p.1 /\ p.1 = s.blk /\ p.1 < m'.size) /\ pos.length = l.length /\ pos.Nodup /\ ∀ (j : Nat), j < l.length -> pos[j]? = some (s.blk, s.off + j) := by
  obtain ⟨hl, hi, ho⟩ := h
  have hlen := hi.len
  by_cases hne : l = []
  · subst hne
    simp at hlen
    rw [hlen]
    exact ⟨[], .zero _ _ _, by simp, rfl, by simp, by simp⟩
  · have hO := ho hne
    obtain ⟨b, c, tail, e1, e2, e3, _, _⟩ : ∃ b c tail, s = .mk b 0 s.len c /\ m.size <= b /\ Blk m' b ty_int (l.map Ce.i ++ tail) /\ (l.map Ce.i ++ tail).length = c * 1 /\ s.len <= c := by
      rcases hO.at' with e | e
      · subst e; simp at hlen; exact absurd (List.length_eq_zero_iff.1 hlen.symm) hne
      · exact e
    have hb : s.blk = b /\ s.off = 0 := by rw [e1]; exact ⟨rfl, rfl⟩
    have hM' := hM hne
    have k3 : Blk M b ty_int (l.map Ce.i ++ tail) := e3.congr (by rw [← hb.1]; exact hM')
    obtain ⟨pos, w, q, _⟩ := Walk.join (m := M) (b := s.blk) (e := .int .nil) (P := fun p => m.size <= p.1 /\ p.1 = s.blk /\ p.1 < m'.size) (c := 1) (n := s.len) (o := s.off) fun k hk => by
      obtain ⟨x, hx⟩ := q00 (l := l) (k := k) (by omega)
      have e4 : k * (Row.int .nil).size = k := by simp [Row.size]
      rw [e4]
      have hg : gcell M s.blk (s.off + k) = some (vi x) := by
        rw [hb.1, hb.2, k3.get, Nat.zero_add, List.getElem?_append_left (by simp; omega)]
        simp [hx, Ce.v]
      exact ⟨[(s.blk, s.off + k)], .int (n := x) hg (by rw [hb.1]; exact k3.froz _) (.nil _ _), by simp [hb.1, e2, e3.lt], by simp⟩
    obtain ⟨hpl, hp⟩ := Walk.rowsI w
    refine ⟨pos, w, q, by omega, ?_, fun j hj => (hp j (by omega)).1⟩
    rw [List.nodup_iff_pairwise_ne, List.pairwise_iff_getElem]
    intro i j hi' hj' hij e
    have h1 := (hp i (by omega)).1
    have h2 := (hp j (by omega)).1
    rw [List.getElem?_eq_getElem hi'] at h1
    rw [List.getElem?_eq_getElem hj'] at h2
    rw [Option.some.inj h1, Option.some.inj h2] at e
    simp at e
    omega
end Go.Proofs.YtpggcodlaajceaaGreat
end
section
/- The law of Execute. -/
namespace Go.Proofs.YtpggcodlaajceaaGreat
open Go.Vc
def mks (n : Nat) : List Int := (List.range n).map fun (j : Nat) => 1 + (j : Int)
theorem qor (n : Nat) : (mks n).length = n := by simp [mks]
theorem qrb {n j : Nat} {x : Int} (h : (mks n)[j]? = some x) : j < n /\ x = 1 + j := by
  have hj : j < n := by have := q03 h; rw [qor] at this; exact this
  unfold mks at h
  rw [List.getElem?_map, List.getElem?_range hj] at h
  simp at h
  exact ⟨hj, h.symm⟩
def LawR (m : Mem) (v : Value) (m' : Mem) : Prop := v = vb true /\ Ext m m'
theorem q1z.walks {m0 m : Mem} {q0 q1 : Sl} {x : Image} (h : q1z m0 m [.s q0, .s q1] x) (hs : q9l x) :
    ∃ p0 p1, Walk m (.rows q3p q0.len) q0.blk q0.off p0 /\ Walk m (.rows q3o q1.len) q1.blk q1.off p1 /\ (∀ p ∈ p0 ++ p1, m0.size <= p.1 /\ p.1 < m.size) /\ (p0 ++ p1).length <= 4000000000000000000 /\ q0.len <= 9223372036854775807 /\ q1.len <= 9223372036854775807 := by
  obtain ⟨q0', q1', he, h0, h1⟩ := h
  simp only [List.cons.injEq, Ce.s.injEq, and_true] at he
  obtain ⟨rfl, rfl⟩ := he
  obtain ⟨p0, w0, b0, l0⟩ := q5n.walk h0 hs.1
  obtain ⟨p1, w1, b1, l1⟩ := q5f.walk h1 hs.2
  have v0 := CpS.len (sz := 2) h0
  have v1 := CpS.len (sz := 4) h1
  have n0 := hs.1.1
  have n1 := hs.2.1
  refine ⟨p0, p1, w0, w1, fun p hp => ?_, by rw [List.length_append]; omega, by omega, by omega⟩
  rcases List.mem_append.1 hp with hp | hp
  · exact ⟨b0 p hp, w0.lt p hp⟩
  · exact ⟨b1 p hp, w1.lt p hp⟩
set_option maxHeartbeats 1000000 in
theorem qel {m : Mem} {d p : Sl} {im : Image} (him : ImageR m d p im) (most : Int) : CallV Tryz.prog q7n [.agg #[Sl.v d, Sl.v p], vi most] m (LawR m) := by
  apply qbo
  unfold q6j
  simp -zeta only [q05, q06]
  intro m1
  have x1 : Ext m m1 := (Ext.refl m).pushed _
  have s1 : m1.size = m.size + 1 := by simp [m1]
  clear_value m1
  have hI : ∀ {M : Mem}, Ext m M -> ImageR M d p im := fun hx => him.ext hx
  refine (qmx (hI x1).decls (hI x1).procs (left := 1048576) ⟨by decide, by decide⟩).mono ?_
  rintro _ m2 ⟨n, rfl, _, hsm, u2⟩
  have x2 := x1.trans u2
  have z2 := u2.size
  refine ⟨u2.sam (by simp; omega), n, rfl, fun _ => ⟨rfl, x2⟩, fun h => ?_⟩
  simp only [decide_eq_false_iff_not] at h
  have hs : q9l im := hsm (by omega)
  clear h hsm
  refine (q51 (hI x2).decls (hI x2).procs hs).mono ?_
  rintro _ m3 ⟨r0, r1, rfl, cA, u3⟩
  have x3 := x2.trans u3
  have z3 := u3.size
  refine ⟨u3.sam (by simp; omega), r0, r1, rfl, (spec_Execute_ok' (cA.read hs) most).mono ?_⟩
  rintro _ m4 ⟨wout, rfl, oW, u4⟩
  have x4 := x3.trans u4
  have z4 := u4.size
  have hel := ql6 im most
  refine ⟨u4.sam (by simp; omega), _, _, _, wout, _, rfl, ?_⟩
  intro m5 m6
  have u6 : Ext m4 m6 := ((Ext.refl m4).pushed _).scells (Nat.le_refl _) _ _
  have z6 : m6.size = m4.size + 1 := by simp [m6, m5, q02]
  clear_value m6
  have x6 := x4.trans u6
  refine (q51 (hI x6).decls (hI x6).procs hs).mono ?_
  rintro _ m7 ⟨a0, a1, rfl, cB, u7⟩
  have x7 := x6.trans u7
  have z7 := u7.size
  refine ⟨u7.sam (by simp; omega), a0, a1, rfl, ?_⟩
  intro m8 m9
  have u9 : Ext m7 m9 := ((Ext.refl m7).pushed _).scells (Nat.le_refl _) _ _
  have z9 : m9.size = m7.size + 1 := by simp [m9, m8, q02]
  clear_value m9
  have x9 := x7.trans u9
  have iB := cB.read hs
  obtain ⟨p0, p1, w0, w1, hpos, hcount, lim0, lim1⟩ := cB.walks hs
  refine (qdl (iB.ext u9) most).mono ?_
  rintro _ m10 ⟨gout, rfl, oG, u10⟩
  have x10 := x9.trans u10
  have z10 := u10.size
  refine ⟨u10.sam (by simp; omega), _, _, _, gout, _, rfl, ?_⟩
  intro m11 m12
  have u12 : Ext m10 m12 := ((Ext.refl m10).pushed _).scells (Nat.le_refl _) _ _
  have z12 : m12.size = m10.size + 1 := by simp [m12, m11, q02]
  clear_value m12
  have x12 := x10.trans u12
  generalize hEE : exeOf im most = E at *
  obtain ⟨hl, iG, wG⟩ := oG
  have iW := oW.2.1
  have u4_12 : Ext m4 m12 := ((((u6.trans u7).trans u9).trans u10).trans u12)
  refine (q6g (iG.ext u12) (iW.ext u4_12)).mono ?_
  rintro _ m13 ⟨rfl, u13⟩
  have x13 := x12.trans u13
  have z13 := u13.size
  refine ⟨u13.sam (by simp; omega), true, rfl, fun h => by simp at h, fun _ => ⟨fun h => by simp at h, fun _ => ?_⟩⟩
  refine (q51 (hI x13).decls (hI x13).procs hs).mono ?_
  rintro _ m14 ⟨c0, c1, rfl, cC, u14⟩
  have x14 := x13.trans u14
  have z14 := u14.size
  have u7_14 : Ext m7 m14 := (((u9.trans u10).trans u12).trans u13).trans u14
  have iB14 := iB.ext u7_14
  have iC := cC.read hs
  refine ⟨u14.sam (by simp; omega), c0, c1, rfl, q10 (u14.same m7.size (by omega)) 0, q10 (u14.same m7.size (by omega)) 1, (qo0 iB14.decls iB14.procs iC.decls iC.procs).mono ?_⟩
  rintro _ m15 ⟨b, rfl, hb, u15⟩
  have x15 := x14.trans u15
  have z15 := u15.size
  refine ⟨u15.sam (by simp; omega), b, rfl, fun h => absurd rfl (nb hb h), fun _ => ?_⟩
  have u7_15 := u7_14.trans u15
  refine (qkt (w0.ext u7_15) (w1.ext u7_15) ⟨lim0, lim1⟩ (k := 1) ⟨by decide, by omega⟩).mono ?_
  rintro _ m16 ⟨rfl, g16⟩
  have z16 := g16.size
  have kp16 : ∀ b, b < m15.size -> b < m6.size \/ m7.size <= b -> m16[b]? = m15[b]? := fun b h1 h2 => g16.blk b h1 fun q hq e => by have := hpos q hq; omega
  have x16 : Ext m m16 := ⟨by omega, fun b hb => by rw [kp16 b (by omega) (Or.inl (by omega)), x15.same b hb]⟩
  have u10_15 : Ext m10 m15 := ((u12.trans u13).trans u14).trans u15
  have u4_15 : Ext m4 m15 := ((u4_12.trans u13).trans u14).trans u15
  refine ⟨fun b hb => kp16 b (by simp at hb; omega) (by simp at hb; omega), _, rfl, fun h => by simp at h; omega, fun _ => ?_⟩
  have gb : E.out ≠ [] -> m9.size <= gout.blk /\ gout.blk < m10.size := fun hne => by
    refine ⟨?_, q1g iG hne⟩
    rcases (wG hne).blk with e | e
    · subst e; have := iG.len; simp at this; exact absurd (List.length_eq_zero_iff.1 this.symm) hne
    · exact e
  have wb : E.out ≠ [] -> wout.blk < m4.size := fun hne => q1g iW hne
  have iG16 : IntSl m16 gout E.out := q0x (iG.ext u10_15) fun hne => kp16 _ (by have := gb hne; omega) (Or.inr (by have := gb hne; omega))
  have iW16 : IntSl m16 wout E.out := q0x (iW.ext u4_15) fun hne => kp16 _ (by have := wb hne; omega) (Or.inl (by have := wb hne; omega))
  refine (q6g iG16 iW16).mono ?_
  rintro _ m17 ⟨rfl, u17⟩
  have x17 := x16.trans u17
  have z17 := u17.size
  refine ⟨u17.sam (by simp; omega), true, rfl, fun h => by simp at h, fun _ => ⟨fun h => by simp at h, fun _ => ?_⟩⟩
  obtain ⟨pos, wk, hp, hpl, hnd, hpj⟩ := OutR.walk (m := m9) (m' := m10) (M := m17) ⟨hl, iG, wG⟩ fun hne => by
    rw [u17.same _ (by have := gb hne; omega), kp16 _ (by have := gb hne; omega) (Or.inr (by have := gb hne; omega)), u10_15.same _ (gb hne).2]
  refine (qhr wk (k := 1) ⟨by decide, by omega⟩).mono ?_
  rintro _ m18 ⟨rfl, g18⟩
  have z18 := g18.size
  have kp18 : ∀ b, b < m17.size -> b < m9.size \/ m10.size <= b -> m18[b]? = m17[b]? := fun b h1 h2 => g18.blk b h1 fun q hq e => by have := hp q hq; omega
  have x18 : Ext m m18 := ⟨by omega, fun b hb => by rw [kp18 b (by omega) (Or.inl (by omega)), x17.same b hb]⟩
  refine ⟨fun b hb => kp18 b (by simp at hb; omega) (by simp at hb; omega), _, rfl, ?_⟩
  have hgl := iG.len
  have iM : IntSl m18 gout (mks E.out.length) := by
    refine ⟨by rw [qor]; exact hgl, iG.cap, iG.lim, fun k x hk => ?_⟩
    obtain ⟨hkl, hx⟩ := qrb hk
    refine ⟨[.i x], rfl, fun i c hc => ?_⟩
    have hv := g18.val hnd k _ (hpj k hkl)
    cases i with
    | zero =>
      simp at hc; subst hc; rw [hx, Nat.mul_one]; exact hv
    | succ i => simp at hc
  have hmk : ∀ (j : Nat) (x : Int), (mks E.out.length)[j]? = some x -> x = 1 + j := fun j x hj => (qrb hj).2
  have hml : (mks E.out.length).length = E.out.length := qor _
  have held : ∀ {M : Mem}, Ext m18 M -> Gets Tryz.prog q2f [.agg #[vi E.status, vi E.value, vi E.calls, Sl.v gout], vi 1] M (vi (1 + (E.out.length : Int))) := fun hx => by
    have := qhm (a := E.status) (b := E.value) (c := E.calls) (iM.ext hx) (k := 1) hmk ⟨by decide, by rw [hml]; omega⟩
    rw [hml] at this; exact this
  rw [hpl]
  refine (held (Ext.refl _)).mono ?_
  rintro _ m19 ⟨rfl, u19⟩
  have x19 := x18.trans u19
  have z19 := u19.size
  refine ⟨u19.sam (by simp; omega), _, rfl, fun h => by simp at h; omega, fun _ => ⟨fun h => by simp at h, fun _ => ?_⟩⟩
  refine (q51 (hI x19).decls (hI x19).procs hs).mono ?_
  rintro _ m20 ⟨d0, d1, rfl, cD, u20⟩
  have x20 := x19.trans u20
  have z20 := u20.size
  refine ⟨u20.sam (by simp; omega), d0, d1, rfl, (qdl (cD.read hs) most).mono ?_⟩
  rw [hEE]
  rintro _ m21 ⟨hout, rfl, oH, u21⟩
  have x21 := x20.trans u21
  have z21 := u21.size
  refine ⟨u21.sam (by simp; omega), _, _, _, hout, _, rfl, ?_⟩
  intro m22 m23
  have u23 : Ext m21 m23 := ((Ext.refl m21).pushed _).scells (Nat.le_refl _) _ _
  have z23 : m23.size = m21.size + 1 := by simp [m23, m22, q02]
  clear_value m23
  have x23 := x21.trans u23
  have iW18 : IntSl m18 wout E.out := q0x (iW16.ext u17) fun hne => kp18 _ (by have := wb hne; omega) (Or.inl (by have := wb hne; omega))
  have u18_23 : Ext m18 m23 := ((u19.trans u20).trans u21).trans u23
  refine (q6g (oH.2.1.ext u23) (iW18.ext u18_23)).mono ?_
  rintro _ m24 ⟨rfl, u24⟩
  have z24 := u24.size
  refine ⟨u24.sam (by simp; omega), true, rfl, fun h => by simp at h, fun _ => ⟨fun h => by simp at h, fun _ => ?_⟩⟩
  refine (held (u18_23.trans u24)).mono ?_
  rintro _ m25 ⟨rfl, u25⟩
  refine ⟨u25.sam (by simp; omega), _, rfl, fun h => by simp at h; omega, fun _ => ⟨fun h => by simp at h, fun _ => ⟨rfl, (x23.trans u24).trans u25⟩⟩⟩
end Go.Proofs.YtpggcodlaajceaaGreat
end
