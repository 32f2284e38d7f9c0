/- Part of a proof, joined by a program: La3 La4 La5 La6 St1 St2 St3 St4. -/
import Derived.Test.YtpggcodlaajceaaGreatS09
import Derived.Test.YtpggcodlaajceaaGreatS10
import Derived.Test.YtpggcodlaajceaaGreatS11
import Derived.Test.YtpggcodlaajceaaGreatS13
namespace Go.Proofs.YtpggcodlaajceaaGreat
open Go.Vc
section
/-! Con -/
def Sm_Con (x : List Int) : Prop := (x).length <= 1048576
def qkh (l : List (List Int)) : Prop := l.length <= 1048576 /\ ∀ x ∈ l, Sm_Con x
def q2d (m0 m : Mem) (cs : List Ce) (x : List Int) : Prop := ∃ q0 : Sl, cs = [.s q0] /\ CpI m0 m q0 (x)
abbrev qg4 (m0 m : Mem) (s : Sl) (l : List (List Int)) : Prop := CpS qf7 1 (q2d m0 m) m0 m s l
theorem q2d.mono {m0 m m1 m' : Mem} (hk : Kp m0.size m m') (hb : m1.size <= m0.size) {cs : List Ce} {x : List Int} : q2d m0 m cs x -> q2d m1 m' cs x := by
  rintro ⟨q0, rfl, h0⟩
  exact ⟨q0, rfl, (h0.keep hk).base hb⟩
theorem q2d.read {m0 m : Mem} {cs : List Ce} {x : List Int} (h : q2d m0 m cs x) (hs : Sm_Con x) : ConR m cs x := by
  obtain ⟨q0, rfl, h0⟩ := h
  exact ⟨q0, rfl, q03.ofOwn h0 (by have : (x).length <= 1048576 := hs; omega)⟩
theorem qg4.read {m0 m : Mem} {s : Sl} {l : List (List Int)} (h : qg4 m0 m s l) (hs : qkh l) : ConSl m s l := CpS.read (sz := 0) h (fun cs x hx hr => q2d.read hr (hs.2 x hx)) hs.1
theorem qpy {m : Mem} {x : List Int} {q0 : Sl} (h0 : q03 m q0 (x)) {left : Int} (z0 : Lft left) : q00 Tryz.prog qcc [.agg #[Sl.v q0], vi left] m (SzR left (Sm_Con x) m) := by
  apply qn0
  unfold qho
  simp -zeta only [q0c, q0d]
  intro m1
  have e0 : Ext m m1 := (Ext.refl m).pushed _
  have s1 : m1.size = m.size + 1 := by simp [m1]
  clear_value m1
  obtain ⟨z1, z2⟩ := z0
  refine (q4o (h0.ext e0) (left := left) ⟨by omega, by omega⟩).mono ?_
  rintro _ m2 ⟨n1, rfl, le1, sm1, x1⟩
  have e1 : Ext m m2 := e0.trans x1
  refine ⟨x1.sam (by simp; omega), n1, rfl, fun h => ⟨-1, rfl, by omega, fun h => by omega, e1⟩, fun h => ?_⟩
  simp only [decide_eq_false_iff_not] at h
  have y1 : m.size + 1 <= m2.size := by have := x1.size; omega
  exact ⟨_, rfl, by omega, fun _ => sm1 (by omega), e1⟩
theorem qou {m : Mem} {s : Sl} {l : List (List Int)} (h : ConSl m s l) {left : Int} (z0 : Lft left) : q00 Tryz.prog qbe [Sl.v s, vi left] m (SzR left (qkh l) m) := by
  apply qko
  have h1 := h.len
  have h2 := h.lim
  obtain ⟨h3, h4⟩ := z0
  have e : w64 (left - (s.len : Int)) = left - s.len := q08 (by omega) (by omega)
  unfold qfy
  rw [e]
  refine ⟨fun _ => ⟨-1, rfl, by omega, fun h => by omega, Ext.refl _⟩, fun h5 => ?_⟩
  simp only [decide_eq_false_iff_not] at h5
  refine forSI (σ := Int) (n := l.length) (by omega) (fun k n m' => 0 <= n /\ n <= left /\ Ext m m' /\ ∀ x ∈ l.take k, Sm_Con x) ⟨by omega, by omega, Ext.refl _, by simp⟩ ?_
  rintro k n m1 I μ hk ⟨hn, hn2, hx, hs⟩ next
  refine ⟨fun h6 => ?_, fun h6 => ?_⟩
  · simp only [decide_eq_true_eq] at h6
    obtain ⟨y, hy⟩ := q02 (l := l) (k := k) (by omega)
    obtain ⟨q0, h0, g0⟩ := (ConSl.ext hx h).at' hy
    refine ⟨by omega, by omega, _, g0, (qpy h0 ⟨hn, by omega⟩).mono ?_⟩
    rintro _ m2 ⟨n2, rfl, le2, sm2, hx2⟩
    refine ⟨n2, rfl, fun h => ⟨-1, rfl, by omega, fun h => by omega, hx.trans hx2⟩, fun h7 => ?_⟩
    simp only [decide_eq_false_iff_not] at h7
    refine next (by omega) _ _ ⟨by omega, by omega, hx.trans hx2, fun x hxm => ?_⟩
    rw [q0a hy] at hxm
    rcases List.mem_append.1 hxm with h8 | h8
    · exact hs x h8
    · simp at h8; subst h8; exact sm2 (by omega)
  · simp only [decide_eq_false_iff_not] at h6
    rw [q0k (by omega)] at hs
    exact ⟨n, rfl, hn2, fun _ => ⟨by omega, hs⟩, hx⟩
theorem qpw {m : Mem} {x : List Int} {q0 : Sl} (h0 : q03 m q0 (x)) (hs : Sm_Con x) : q00 Tryz.prog qdb [.agg #[Sl.v q0]] m fun v m' => ∃ r0 : Sl, v = .agg #[Sl.v r0] /\ q2d m m' [.s r0] x /\ Ext m m' := by
  apply qmk
  unfold qhs
  simp -zeta only [q0c, q0d]
  intro m1 m2 m3
  have s1 : m1.size = m.size + 1 := by simp [m1]
  have s2 : m2.size = m.size + 2 := by simp [m2, s1]
  have s3 : m3.size = m.size + 3 := by simp [m3, s2]
  have x3 : Ext m m3 := (((Ext.refl m).pushed _).pushed _).pushed _
  have y3 : m3.size <= m3.size := Nat.le_refl _
  clear_value m3
  refine (q4k (h0.ext x3) hs).mono ?_
  rintro _ m4 ⟨r0, rfl, c0, u4⟩
  have x4 : Ext m m4 := x3.trans u4
  have y4 : m3.size <= m4.size := by have := u4.size; omega
  have kp4 : Kp m3.size m3 m4 := Kp.ext u4
  replace c0 := Own.base (m0 := m3) c0 y3
  refine ⟨u4.sam (by simp; omega), r0, rfl, ?_⟩
  intro m5
  have x5 : Ext m m5 := x4.scells (by omega) _ _
  have y5 : m3.size <= m5.size := Nat.le_trans y4 (Nat.le_of_eq (q04 _ _ _ _).symm)
  have kp5 : Kp m3.size m4 m5 := Kp.box (by omega) _ _
  clear_value m5
  replace c0 := c0.keep (kp5)
  intro m6
  have x6 : Ext m m6 := x5.scells (by omega) _ _
  have kp6 : Kp m3.size m5 m6 := Kp.box (by omega) _ _
  clear_value m6
  replace c0 := c0.keep (kp6)
  have hR : q2d m3 m6 [.s r0] x := ⟨r0, rfl, c0⟩
  exact ⟨r0, rfl, q2d.mono (Kp.ext (Ext.refl _)) (by omega) hR, x6⟩
theorem qp1 {m : Mem} {s : Sl} {l : List (List Int)} (h : ConSl m s l) (hs : qkh l) : q00 Tryz.prog qb9 [Sl.v s] m fun v m' => ∃ s', v = Sl.v s' /\ qg4 m m' s' l /\ Ext m m' := by
  apply qkq
  unfold qg3
  have hsl := h.len
  have hl := hs.1
  have e0 : Int.toNat (s.len : Int) = l.length := by omega
  rw [e0]
  refine ⟨by omega, Int.le_refl _, by omega, by omega, ?_⟩
  intro m1
  have x1 : Ext m m1 := (Ext.refl m).pushed _
  have s1 : m1.size = m.size + 1 := by simp [m1]
  have k1 : Blk m1 m.size qf7 (zrow [.s Sl.nil] l.length) := Blk.push m _ _
  clear_value m1
  simp -zeta only [Sl.blk_mk, Sl.off_mk, Sl.len_mk, Nat.zero_add]
  refine forI (n := l.length) (by omega) (fun k m' => Ext m m' /\ m1.size <= m'.size /\ ∃ css, Blk m' m.size qf7 (css.flatten ++ zrow [.s Sl.nil] (l.length - css.length)) /\ css.length = k /\ RowsOf 1 (q2d m1 m') css (l.take k)) ⟨x1, Nat.le_refl _, [], by simpa using k1, rfl, by simpa using RowsOf.nil _ _⟩ ?_
  rintro k m2 I μ hk ⟨hx, hm2, css, kk, hck, hrow⟩ next
  refine ⟨fun h6 => ?_, fun h6 => ?_⟩
  · simp only [decide_eq_true_eq] at h6
    obtain ⟨y, hy⟩ := q02 (l := l) (k := k) (by omega)
    obtain ⟨q0, h0, g0⟩ := (ConSl.ext hx h).at' hy
    refine ⟨by omega, by omega, _, g0, (qpw h0 (hs.2 y (q06 hy))).mono ?_⟩
    rintro _ m3 ⟨r0, rfl, hc, x3⟩
    have ek : Int.toNat (k : Int) = k := by omega
    have hm3 := x3.size
    refine ⟨_, rfl, by omega, by omega, ?_⟩
    rw [ek]
    have hfl : css.flatten.length = k * 1 := by rw [q0t hrow.size, hck]
    refine ⟨(kk.ext x3).wrOk (by rw [List.length_append, hfl, qhi, hck]; simp only [List.length_cons, List.length_nil]; omega), next (by omega) _ ⟨(hx.trans x3).scells (Nat.le_refl _) _ _, by rw [q04]; omega, css ++ [[.s r0]], ?_, by simp [hck], ?_⟩⟩
    · have := Blk.scells (m := m3) (o := k * 1) (r := [.s r0]) (kk.ext x3)
      have e1 := fillRow (css := css) (zs := [.s Sl.nil]) (cs := [.s r0]) (n := l.length) hrow.size rfl (by omega)
      simp only [List.length_cons, List.length_nil, Nat.zero_add, hck] at e1
      rw [hck] at this
      rw [e1] at this
      simpa [hck] using this
    · rw [q0a hy]
      have kp : Kp m1.size m2 (scells m3 m.size (k * 1) [.s r0]) := fun b hb1 hb2 => by rw [q0s _ _ _ _ (by omega), x3.same b hb2]
      refine RowsOf.snoc ⟨hrow.len, hrow.size, fun j cs x hj hx => q2d.mono kp (Nat.le_refl _) (hrow.each j cs x hj hx)⟩ rfl (q2d.mono (m0 := m2) (m1 := m1) (m := m3) (Kp.box (by omega) _ _) (by omega) hc)
  · simp only [decide_eq_false_iff_not] at h6
    have : k = l.length := by omega
    subst this
    rw [q0k (Nat.le_refl _)] at hrow
    have e2 : l.length - css.length = 0 := by omega
    rw [e2] at kk
    simp only [zrow, List.replicate_zero, List.flatten_nil, List.append_nil] at kk
    exact ⟨_, rfl, ⟨css, ⟨by simp only [Sl.len_mk]; rw [q0t hrow.size, hck], Or.inr ⟨m.size, l.length, [], rfl, Nat.le_refl _, by rw [List.append_nil]; exact kk, by rw [List.append_nil, q0t hrow.size, hck], Nat.le_refl _⟩⟩, hrow.len, hrow.size, fun j cs x hj hx => q2d.mono (Kp.ext (Ext.refl _)) (by omega) (hrow.each j cs x hj hx)⟩, hx⟩
theorem qq9 {m : Mem} {x y : List Int} {q0 r0 : Sl} (h0 : q03 m q0 (x)) (k0 : q03 m r0 (y)) : q0q Tryz.prog qdo [.agg #[Sl.v q0], .agg #[Sl.v r0]] m (x = y) := by
  apply qmc
  unfold qi2
  simp -zeta only [q0c, q0d]
  intro m1 m2
  have x2 : Ext m m2 := ((Ext.refl m).pushed _).pushed _
  have s1 : m1.size = m.size + 1 := by simp [m1]
  have s2 : m2.size = m.size + 2 := by simp [m2, s1]
  have y2 : m.size + 2 <= m2.size := by omega
  clear_value m2
  refine (q4r (h0.ext x2) (k0.ext x2)).mono ?_
  rintro _ m3 ⟨b0, rfl, hb0, u3⟩
  have x3 : Ext m m3 := x2.trans u3
  have y3 : m.size + 2 <= m3.size := by have := u3.size; omega
  refine ⟨u3.sam (by simp; omega), b0, rfl, fun h => retF (fun e => by subst e; exact nb hb0 h rfl) x3, fun h => ?_⟩
  have i0 := yb hb0 h
  clear h
  exact retT i0 x3
theorem qp3 {m : Mem} {s t : Sl} {l r : List (List Int)} (hs : ConSl m s l) (ht : ConSl m t r) : q0q Tryz.prog qb0 [Sl.v s, Sl.v t] m (l = r) := by
  apply qkp
  unfold qfo
  have hsl := hs.len
  have htl := ht.len
  refine ⟨fun h => retF (fun e => ?_) (Ext.refl _), fun h => ?_⟩
  · subst e; simp at h; omega
  · have hlen : l.length = r.length := by simp at h; omega
    refine forI (n := l.length) (hsl ▸ hs.lim) (fun k m' => Ext m m' /\ l.take k = r.take k) ⟨Ext.refl _, by simp⟩ ?_
    rintro k m1 I μ hk ⟨hx, he⟩ next
    refine ⟨fun h1 => ?_, fun h1 => ?_⟩
    · simp only [decide_eq_true_eq] at h1
      obtain ⟨y, hy⟩ := q02 (l := l) (k := k) (by omega)
      obtain ⟨z, hz⟩ := q02 (l := r) (k := k) (by omega)
      obtain ⟨q0, h0, g0⟩ := (ConSl.ext hx hs).at' hy
      obtain ⟨r0, k0, f0⟩ := (ConSl.ext hx ht).at' hz
      refine ⟨by omega, by omega, _, g0, by omega, by omega, _, f0, (qq9 h0 k0).mono ?_⟩
      rintro _ m2 ⟨b, rfl, hb, x2⟩
      refine ⟨b, rfl, fun h2 => retF (fun e => nb hb h2 ?_) (hx.trans x2), fun h2 => next (by omega) _ ⟨hx.trans x2, ?_⟩⟩
      · subst e; rw [hy] at hz; simpa using hz
      · rw [q0a hy, q0a hz, he, yb hb h2]
    · simp only [decide_eq_false_iff_not] at h1
      rw [q0k (by omega), q0k (by omega)] at he
      exact retT he hx
/-! Decl -/
def qfk (x : Decl) : Prop := qkh x.cons
def qgp (l : List (Decl)) : Prop := l.length <= 1048576 /\ ∀ x ∈ l, qfk x
def q1p (m0 m : Mem) (cs : List Ce) (x : Decl) : Prop := ∃ q2 : Sl, cs = [.i x.frm, .i x.to, .s q2] /\ qg4 m0 m q2 (x.cons)
abbrev qcs (m0 m : Mem) (s : Sl) (l : List (Decl)) : Prop := CpS qdn 3 (q1p m0 m) m0 m s l
theorem q1p.mono {m0 m m1 m' : Mem} (hk : Kp m0.size m m') (hb : m1.size <= m0.size) {cs : List Ce} {x : Decl} : q1p m0 m cs x -> q1p m1 m' cs x := by
  rintro ⟨q2, rfl, h2⟩
  exact ⟨q2, rfl, CpS.mono h2 (fun _ _ => q2d.mono hk hb) hk hb⟩
theorem q1p.read {m0 m : Mem} {cs : List Ce} {x : Decl} (h : q1p m0 m cs x) (hs : qfk x) : DeclR m cs x := by
  obtain ⟨q2, rfl, h2⟩ := h
  exact ⟨q2, rfl, qg4.read h2 hs⟩
theorem qcs.read {m0 m : Mem} {s : Sl} {l : List (Decl)} (h : qcs m0 m s l) (hs : qgp l) : q0j m s l := CpS.read (sz := 2) h (fun cs x hx hr => q1p.read hr (hs.2 x hx)) hs.1
theorem qos {m : Mem} {x : Decl} {q2 : Sl} (h2 : ConSl m q2 (x.cons)) {left : Int} (z0 : Lft left) : q00 Tryz.prog qbi [.agg #[vi x.frm, vi x.to, Sl.v q2], vi left] m (SzR left (qfk x) m) := by
  apply ql6
  unfold qfs
  simp -zeta only [q0c, q0d]
  intro m1
  have e0 : Ext m m1 := (Ext.refl m).pushed _
  have s1 : m1.size = m.size + 1 := by simp [m1]
  clear_value m1
  obtain ⟨z1, z2⟩ := z0
  refine (qou (ConSl.ext e0 h2) (left := left) ⟨by omega, by omega⟩).mono ?_
  rintro _ m2 ⟨n1, rfl, le1, sm1, x1⟩
  have e1 : Ext m m2 := e0.trans x1
  refine ⟨x1.sam (by simp; omega), n1, rfl, fun h => ⟨-1, rfl, by omega, fun h => by omega, e1⟩, fun h => ?_⟩
  simp only [decide_eq_false_iff_not] at h
  have y1 : m.size + 1 <= m2.size := by have := x1.size; omega
  exact ⟨_, rfl, by omega, fun _ => sm1 (by omega), e1⟩
theorem qnt {m : Mem} {s : Sl} {l : List (Decl)} (h : q0j m s l) {left : Int} (z0 : Lft left) : q00 Tryz.prog qa6 [Sl.v s, vi left] m (SzR left (qgp l) m) := by
  apply qjd
  have h1 := h.len
  have h2 := h.lim
  obtain ⟨h3, h4⟩ := z0
  have e : w64 (left - (s.len : Int)) = left - s.len := q08 (by omega) (by omega)
  unfold qe7
  rw [e]
  refine ⟨fun _ => ⟨-1, rfl, by omega, fun h => by omega, Ext.refl _⟩, fun h5 => ?_⟩
  simp only [decide_eq_false_iff_not] at h5
  refine forSI (σ := Int) (n := l.length) (by omega) (fun k n m' => 0 <= n /\ n <= left /\ Ext m m' /\ ∀ x ∈ l.take k, qfk x) ⟨by omega, by omega, Ext.refl _, by simp⟩ ?_
  rintro k n m1 I μ hk ⟨hn, hn2, hx, hs⟩ next
  refine ⟨fun h6 => ?_, fun h6 => ?_⟩
  · simp only [decide_eq_true_eq] at h6
    obtain ⟨y, hy⟩ := q02 (l := l) (k := k) (by omega)
    obtain ⟨q2, h2, g0, g1, g2⟩ := (q0j.ext hx h).at' hy
    refine ⟨by omega, by omega, _, g0, _, g1, _, g2, (qos h2 ⟨hn, by omega⟩).mono ?_⟩
    rintro _ m2 ⟨n2, rfl, le2, sm2, hx2⟩
    refine ⟨n2, rfl, fun h => ⟨-1, rfl, by omega, fun h => by omega, hx.trans hx2⟩, fun h7 => ?_⟩
    simp only [decide_eq_false_iff_not] at h7
    refine next (by omega) _ _ ⟨by omega, by omega, hx.trans hx2, fun x hxm => ?_⟩
    rw [q0a hy] at hxm
    rcases List.mem_append.1 hxm with h8 | h8
    · exact hs x h8
    · simp at h8; subst h8; exact sm2 (by omega)
  · simp only [decide_eq_false_iff_not] at h6
    rw [q0k (by omega)] at hs
    exact ⟨n, rfl, hn2, fun _ => ⟨by omega, hs⟩, hx⟩
theorem qon {m : Mem} {x : Decl} {q2 : Sl} (h2 : ConSl m q2 (x.cons)) (hs : qfk x) : q00 Tryz.prog qbl [.agg #[vi x.frm, vi x.to, Sl.v q2]] m fun v m' => ∃ r2 : Sl, v = .agg #[vi x.frm, vi x.to, Sl.v r2] /\ q1p m m' [.i x.frm, .i x.to, .s r2] x /\ Ext m m' := by
  apply ql5
  unfold qfv
  simp -zeta only [q0c, q0d]
  intro m1 m2 m3
  have s1 : m1.size = m.size + 1 := by simp [m1]
  have s2 : m2.size = m.size + 2 := by simp [m2, s1]
  have s3 : m3.size = m.size + 3 := by simp [m3, s2]
  have x3 : Ext m m3 := (((Ext.refl m).pushed _).pushed _).pushed _
  have y3 : m3.size <= m3.size := Nat.le_refl _
  clear_value m3
  intro m4
  have x4 : Ext m m4 := x3.scells (by omega) _ _
  have y4 : m3.size <= m4.size := Nat.le_trans y3 (Nat.le_of_eq (q04 _ _ _ _).symm)
  have kp4 : Kp m3.size m3 m4 := Kp.box (by omega) _ _
  clear_value m4
  intro m5
  have x5 : Ext m m5 := x4.scells (by omega) _ _
  have y5 : m3.size <= m5.size := Nat.le_trans y4 (Nat.le_of_eq (q04 _ _ _ _).symm)
  have kp5 : Kp m3.size m4 m5 := Kp.box (by omega) _ _
  clear_value m5
  refine (qp1 (ConSl.ext x5 h2) hs).mono ?_
  rintro _ m6 ⟨r2, rfl, c2, u6⟩
  have x6 : Ext m m6 := x5.trans u6
  have y6 : m3.size <= m6.size := by have := u6.size; omega
  have kp6 : Kp m3.size m5 m6 := Kp.ext u6
  replace c2 := CpS.mono (m1 := m3) c2 (fun _ _ => q2d.mono (Kp.ext (Ext.refl _)) y5) (Kp.ext (Ext.refl _)) y5
  refine ⟨u6.sam (by simp; omega), r2, rfl, ?_⟩
  intro m7
  have x7 : Ext m m7 := x6.scells (by omega) _ _
  have y7 : m3.size <= m7.size := Nat.le_trans y6 (Nat.le_of_eq (q04 _ _ _ _).symm)
  have kp7 : Kp m3.size m6 m7 := Kp.box (by omega) _ _
  clear_value m7
  replace c2 := CpS.mono (m1 := m3) c2 (fun _ _ => q2d.mono (kp7) (Nat.le_refl _)) (kp7) (Nat.le_refl _)
  intro m8
  have x8 : Ext m m8 := x7.scells (by omega) _ _
  have kp8 : Kp m3.size m7 m8 := Kp.box (by omega) _ _
  clear_value m8
  replace c2 := CpS.mono (m1 := m3) c2 (fun _ _ => q2d.mono (kp8) (Nat.le_refl _)) (kp8) (Nat.le_refl _)
  have hR : q1p m3 m8 [.i x.frm, .i x.to, .s r2] x := ⟨r2, rfl, c2⟩
  exact ⟨r2, rfl, q1p.mono (Kp.ext (Ext.refl _)) (by omega) hR, x8⟩
theorem qn3 {m : Mem} {s : Sl} {l : List (Decl)} (h : q0j m s l) (hs : qgp l) : q00 Tryz.prog q9w [Sl.v s] m fun v m' => ∃ s', v = Sl.v s' /\ qcs m m' s' l /\ Ext m m' := by
  apply qjh
  unfold qe3
  have hsl := h.len
  have hl := hs.1
  have e0 : Int.toNat (s.len : Int) = l.length := by omega
  rw [e0]
  refine ⟨by omega, Int.le_refl _, by omega, by omega, ?_⟩
  intro m1
  have x1 : Ext m m1 := (Ext.refl m).pushed _
  have s1 : m1.size = m.size + 1 := by simp [m1]
  have k1 : Blk m1 m.size qdn (zrow [.i (0 : Int), .i (0 : Int), .s Sl.nil] l.length) := Blk.push m _ _
  clear_value m1
  simp -zeta only [Sl.blk_mk, Sl.off_mk, Sl.len_mk, Nat.zero_add]
  refine forI (n := l.length) (by omega) (fun k m' => Ext m m' /\ m1.size <= m'.size /\ ∃ css, Blk m' m.size qdn (css.flatten ++ zrow [.i (0 : Int), .i (0 : Int), .s Sl.nil] (l.length - css.length)) /\ css.length = k /\ RowsOf 3 (q1p m1 m') css (l.take k)) ⟨x1, Nat.le_refl _, [], by simpa using k1, rfl, by simpa using RowsOf.nil _ _⟩ ?_
  rintro k m2 I μ hk ⟨hx, hm2, css, kk, hck, hrow⟩ next
  refine ⟨fun h6 => ?_, fun h6 => ?_⟩
  · simp only [decide_eq_true_eq] at h6
    obtain ⟨y, hy⟩ := q02 (l := l) (k := k) (by omega)
    obtain ⟨q2, h2, g0, g1, g2⟩ := (q0j.ext hx h).at' hy
    refine ⟨by omega, by omega, _, g0, _, g1, _, g2, (qon h2 (hs.2 y (q06 hy))).mono ?_⟩
    rintro _ m3 ⟨r2, rfl, hc, x3⟩
    have ek : Int.toNat (k : Int) = k := by omega
    have hm3 := x3.size
    refine ⟨_, _, _, rfl, by omega, by omega, ?_⟩
    rw [ek]
    have hfl : css.flatten.length = k * 3 := by rw [q0t hrow.size, hck]
    refine ⟨(kk.ext x3).wrOk (by rw [List.length_append, hfl, qhi, hck]; simp only [List.length_cons, List.length_nil]; omega), next (by omega) _ ⟨(hx.trans x3).scells (Nat.le_refl _) _ _, by rw [q04]; omega, css ++ [[.i y.frm, .i y.to, .s r2]], ?_, by simp [hck], ?_⟩⟩
    · have := Blk.scells (m := m3) (o := k * 3) (r := [.i y.frm, .i y.to, .s r2]) (kk.ext x3)
      have e1 := fillRow (css := css) (zs := [.i (0 : Int), .i (0 : Int), .s Sl.nil]) (cs := [.i y.frm, .i y.to, .s r2]) (n := l.length) hrow.size rfl (by omega)
      simp only [List.length_cons, List.length_nil, Nat.zero_add, hck] at e1
      rw [hck] at this
      rw [e1] at this
      simpa [hck] using this
    · rw [q0a hy]
      have kp : Kp m1.size m2 (scells m3 m.size (k * 3) [.i y.frm, .i y.to, .s r2]) := fun b hb1 hb2 => by rw [q0s _ _ _ _ (by omega), x3.same b hb2]
      refine RowsOf.snoc ⟨hrow.len, hrow.size, fun j cs x hj hx => q1p.mono kp (Nat.le_refl _) (hrow.each j cs x hj hx)⟩ rfl (q1p.mono (m0 := m2) (m1 := m1) (m := m3) (Kp.box (by omega) _ _) (by omega) hc)
  · simp only [decide_eq_false_iff_not] at h6
    have : k = l.length := by omega
    subst this
    rw [q0k (Nat.le_refl _)] at hrow
    have e2 : l.length - css.length = 0 := by omega
    rw [e2] at kk
    simp only [zrow, List.replicate_zero, List.flatten_nil, List.append_nil] at kk
    exact ⟨_, rfl, ⟨css, ⟨by simp only [Sl.len_mk]; rw [q0t hrow.size, hck], Or.inr ⟨m.size, l.length, [], rfl, Nat.le_refl _, by rw [List.append_nil]; exact kk, by rw [List.append_nil, q0t hrow.size, hck], Nat.le_refl _⟩⟩, hrow.len, hrow.size, fun j cs x hj hx => q1p.mono (Kp.ext (Ext.refl _)) (by omega) (hrow.each j cs x hj hx)⟩, hx⟩
theorem qp6 {m : Mem} {x y : Decl} {q2 r2 : Sl} (h2 : ConSl m q2 (x.cons)) (k2 : ConSl m r2 (y.cons)) : q0q Tryz.prog qb3 [.agg #[vi x.frm, vi x.to, Sl.v q2], .agg #[vi y.frm, vi y.to, Sl.v r2]] m (x = y) := by
  apply qki
  unfold qft
  simp -zeta only [q0c, q0d]
  intro m1 m2
  have x2 : Ext m m2 := ((Ext.refl m).pushed _).pushed _
  have s1 : m1.size = m.size + 1 := by simp [m1]
  have s2 : m2.size = m.size + 2 := by simp [m2, s1]
  have y2 : m.size + 2 <= m2.size := by omega
  clear_value m2
  refine ⟨fun h => retF (fun e => by subst e; simp at h) x2, fun i0 => ?_⟩
  simp only [bne_eq_false_iff_eq] at i0
  refine ⟨fun h => retF (fun e => by subst e; simp at h) x2, fun i1 => ?_⟩
  simp only [bne_eq_false_iff_eq] at i1
  refine (qp3 (ConSl.ext x2 h2) (ConSl.ext x2 k2)).mono ?_
  rintro _ m3 ⟨b2, rfl, hb2, u3⟩
  have x3 : Ext m m3 := x2.trans u3
  have y3 : m.size + 2 <= m3.size := by have := u3.size; omega
  refine ⟨u3.sam (by simp; omega), b2, rfl, fun h => retF (fun e => by subst e; exact nb hb2 h rfl) x3, fun h => ?_⟩
  have i2 := yb hb2 h
  clear h
  refine retT ?_ x3
  cases x; cases y; simp only [] at i0 i1 i2
  simp only [i0, i1, i2]
theorem qnl {m : Mem} {s t : Sl} {l r : List (Decl)} (hs : q0j m s l) (ht : q0j m t r) : q0q Tryz.prog q9k [Sl.v s, Sl.v t] m (l = r) := by
  apply qit
  unfold qe6
  have hsl := hs.len
  have htl := ht.len
  refine ⟨fun h => retF (fun e => ?_) (Ext.refl _), fun h => ?_⟩
  · subst e; simp at h; omega
  · have hlen : l.length = r.length := by simp at h; omega
    refine forI (n := l.length) (hsl ▸ hs.lim) (fun k m' => Ext m m' /\ l.take k = r.take k) ⟨Ext.refl _, by simp⟩ ?_
    rintro k m1 I μ hk ⟨hx, he⟩ next
    refine ⟨fun h1 => ?_, fun h1 => ?_⟩
    · simp only [decide_eq_true_eq] at h1
      obtain ⟨y, hy⟩ := q02 (l := l) (k := k) (by omega)
      obtain ⟨z, hz⟩ := q02 (l := r) (k := k) (by omega)
      obtain ⟨q2, h2, g0, g1, g2⟩ := (q0j.ext hx hs).at' hy
      obtain ⟨r2, k2, f0, f1, f2⟩ := (q0j.ext hx ht).at' hz
      refine ⟨by omega, by omega, _, g0, _, g1, _, g2, by omega, by omega, _, f0, _, f1, _, f2, (qp6 h2 k2).mono ?_⟩
      rintro _ m2 ⟨b, rfl, hb, x2⟩
      refine ⟨b, rfl, fun h2 => retF (fun e => nb hb h2 ?_) (hx.trans x2), fun h2 => next (by omega) _ ⟨hx.trans x2, ?_⟩⟩
      · subst e; rw [hy] at hz; simpa using hz
      · rw [q0a hy, q0a hz, he, yb hb h2]
    · simp only [decide_eq_false_iff_not] at h1
      rw [q0k (by omega), q0k (by omega)] at he
      exact retT he hx
/-! Instr -/
def qd8 (x : Instr) : Prop := (x.args).length <= 1048576 /\ (x.jumps).length <= 1048576
def qeb (l : List (Instr)) : Prop := l.length <= 1048576 /\ ∀ x ∈ l, qd8 x
def q1o (m0 m : Mem) (cs : List Ce) (x : Instr) : Prop := ∃ q4 q5 : Sl, cs = [.i x.op, .i x.dst, .i x.num, .i x.into, .s q4, .s q5] /\ CpI m0 m q4 (x.args) /\ CpI m0 m q5 (x.jumps)
abbrev qau (m0 m : Mem) (s : Sl) (l : List (Instr)) : Prop := CpS q1w 6 (q1o m0 m) m0 m s l
theorem q1o.mono {m0 m m1 m' : Mem} (hk : Kp m0.size m m') (hb : m1.size <= m0.size) {cs : List Ce} {x : Instr} : q1o m0 m cs x -> q1o m1 m' cs x := by
  rintro ⟨q4, q5, rfl, h4, h5⟩
  exact ⟨q4, q5, rfl, (h4.keep hk).base hb, (h5.keep hk).base hb⟩
theorem q1o.read {m0 m : Mem} {cs : List Ce} {x : Instr} (h : q1o m0 m cs x) (hs : qd8 x) : InstrR m cs x := by
  obtain ⟨q4, q5, rfl, h4, h5⟩ := h
  exact ⟨q4, q5, rfl, q03.ofOwn h4 (by have : (x.args).length <= 1048576 := hs.1; omega), q03.ofOwn h5 (by have : (x.jumps).length <= 1048576 := hs.2; omega)⟩
theorem qau.read {m0 m : Mem} {s : Sl} {l : List (Instr)} (h : qau m0 m s l) (hs : qeb l) : q19 m s l := CpS.read (sz := 5) h (fun cs x hx hr => q1o.read hr (hs.2 x hx)) hs.1
theorem qo7 {m : Mem} {x : Instr} {q4 q5 : Sl} (h4 : q03 m q4 (x.args)) (h5 : q03 m q5 (x.jumps)) {left : Int} (z0 : Lft left) : q00 Tryz.prog qa8 [.agg #[vi x.op, vi x.dst, vi x.num, vi x.into, Sl.v q4, Sl.v q5], vi left] m (SzR left (qd8 x) m) := by
  apply qjc
  unfold qeo
  simp -zeta only [q0c, q0d]
  intro m1
  have e0 : Ext m m1 := (Ext.refl m).pushed _
  have s1 : m1.size = m.size + 1 := by simp [m1]
  clear_value m1
  obtain ⟨z1, z2⟩ := z0
  refine (q4o (h4.ext e0) (left := left) ⟨by omega, by omega⟩).mono ?_
  rintro _ m2 ⟨n1, rfl, le1, sm1, x1⟩
  have e1 : Ext m m2 := e0.trans x1
  refine ⟨x1.sam (by simp; omega), n1, rfl, fun h => ⟨-1, rfl, by omega, fun h => by omega, e1⟩, fun h => ?_⟩
  simp only [decide_eq_false_iff_not] at h
  have y1 : m.size + 1 <= m2.size := by have := x1.size; omega
  refine (q4o (h5.ext e1) (left := n1) ⟨by omega, by omega⟩).mono ?_
  rintro _ m3 ⟨n2, rfl, le2, sm2, x2⟩
  have e2 : Ext m m3 := e1.trans x2
  refine ⟨x2.sam (by simp; omega), n2, rfl, fun h => ⟨-1, rfl, by omega, fun h => by omega, e2⟩, fun h => ?_⟩
  simp only [decide_eq_false_iff_not] at h
  have y2 : m.size + 1 <= m3.size := by have := x2.size; omega
  exact ⟨_, rfl, by omega, fun _ => ⟨sm1 (by omega), sm2 (by omega)⟩, e2⟩
theorem qmz {m : Mem} {s : Sl} {l : List (Instr)} (h : q19 m s l) {left : Int} (z0 : Lft left) : q00 Tryz.prog q97 [Sl.v s, vi left] m (SzR left (qeb l) m) := by
  apply qi9
  have h1 := h.len
  have h2 := h.lim
  obtain ⟨h3, h4⟩ := z0
  have e : w64 (left - (s.len : Int)) = left - s.len := q08 (by omega) (by omega)
  unfold qd9
  rw [e]
  refine ⟨fun _ => ⟨-1, rfl, by omega, fun h => by omega, Ext.refl _⟩, fun h5 => ?_⟩
  simp only [decide_eq_false_iff_not] at h5
  refine forSI (σ := Int) (n := l.length) (by omega) (fun k n m' => 0 <= n /\ n <= left /\ Ext m m' /\ ∀ x ∈ l.take k, qd8 x) ⟨by omega, by omega, Ext.refl _, by simp⟩ ?_
  rintro k n m1 I μ hk ⟨hn, hn2, hx, hs⟩ next
  refine ⟨fun h6 => ?_, fun h6 => ?_⟩
  · simp only [decide_eq_true_eq] at h6
    obtain ⟨y, hy⟩ := q02 (l := l) (k := k) (by omega)
    obtain ⟨q4, q5, h4, h5, g0, g1, g2, g3, g4, g5⟩ := (q19.ext hx h).at' hy
    refine ⟨by omega, by omega, _, g0, _, g1, _, g2, _, g3, _, g4, _, g5, (qo7 h4 h5 ⟨hn, by omega⟩).mono ?_⟩
    rintro _ m2 ⟨n2, rfl, le2, sm2, hx2⟩
    refine ⟨n2, rfl, fun h => ⟨-1, rfl, by omega, fun h => by omega, hx.trans hx2⟩, fun h7 => ?_⟩
    simp only [decide_eq_false_iff_not] at h7
    refine next (by omega) _ _ ⟨by omega, by omega, hx.trans hx2, fun x hxm => ?_⟩
    rw [q0a hy] at hxm
    rcases List.mem_append.1 hxm with h8 | h8
    · exact hs x h8
    · simp at h8; subst h8; exact sm2 (by omega)
  · simp only [decide_eq_false_iff_not] at h6
    rw [q0k (by omega)] at hs
    exact ⟨n, rfl, hn2, fun _ => ⟨by omega, hs⟩, hx⟩
theorem qo6 {m : Mem} {x : Instr} {q4 q5 : Sl} (h4 : q03 m q4 (x.args)) (h5 : q03 m q5 (x.jumps)) (hs : qd8 x) : q00 Tryz.prog q9z [.agg #[vi x.op, vi x.dst, vi x.num, vi x.into, Sl.v q4, Sl.v q5]] m fun v m' => ∃ r4 r5 : Sl, v = .agg #[vi x.op, vi x.dst, vi x.num, vi x.into, Sl.v r4, Sl.v r5] /\ q1o m m' [.i x.op, .i x.dst, .i x.num, .i x.into, .s r4, .s r5] x /\ Ext m m' := by
  apply qjk
  unfold qem
  simp -zeta only [q0c, q0d]
  intro m1 m2 m3
  have s1 : m1.size = m.size + 1 := by simp [m1]
  have s2 : m2.size = m.size + 2 := by simp [m2, s1]
  have s3 : m3.size = m.size + 3 := by simp [m3, s2]
  have x3 : Ext m m3 := (((Ext.refl m).pushed _).pushed _).pushed _
  have y3 : m3.size <= m3.size := Nat.le_refl _
  clear_value m3
  intro m4
  have x4 : Ext m m4 := x3.scells (by omega) _ _
  have y4 : m3.size <= m4.size := Nat.le_trans y3 (Nat.le_of_eq (q04 _ _ _ _).symm)
  have kp4 : Kp m3.size m3 m4 := Kp.box (by omega) _ _
  clear_value m4
  intro m5
  have x5 : Ext m m5 := x4.scells (by omega) _ _
  have y5 : m3.size <= m5.size := Nat.le_trans y4 (Nat.le_of_eq (q04 _ _ _ _).symm)
  have kp5 : Kp m3.size m4 m5 := Kp.box (by omega) _ _
  clear_value m5
  intro m6
  have x6 : Ext m m6 := x5.scells (by omega) _ _
  have y6 : m3.size <= m6.size := Nat.le_trans y5 (Nat.le_of_eq (q04 _ _ _ _).symm)
  have kp6 : Kp m3.size m5 m6 := Kp.box (by omega) _ _
  clear_value m6
  intro m7
  have x7 : Ext m m7 := x6.scells (by omega) _ _
  have y7 : m3.size <= m7.size := Nat.le_trans y6 (Nat.le_of_eq (q04 _ _ _ _).symm)
  have kp7 : Kp m3.size m6 m7 := Kp.box (by omega) _ _
  clear_value m7
  refine (q4k (h4.ext x7) hs.1).mono ?_
  rintro _ m8 ⟨r4, rfl, c4, u8⟩
  have x8 : Ext m m8 := x7.trans u8
  have y8 : m3.size <= m8.size := by have := u8.size; omega
  have kp8 : Kp m3.size m7 m8 := Kp.ext u8
  replace c4 := Own.base (m0 := m3) c4 y7
  refine ⟨u8.sam (by simp; omega), r4, rfl, ?_⟩
  intro m9
  have x9 : Ext m m9 := x8.scells (by omega) _ _
  have y9 : m3.size <= m9.size := Nat.le_trans y8 (Nat.le_of_eq (q04 _ _ _ _).symm)
  have kp9 : Kp m3.size m8 m9 := Kp.box (by omega) _ _
  clear_value m9
  replace c4 := c4.keep (kp9)
  refine (q4k (h5.ext x9) hs.2).mono ?_
  rintro _ m10 ⟨r5, rfl, c5, u10⟩
  have x10 : Ext m m10 := x9.trans u10
  have y10 : m3.size <= m10.size := by have := u10.size; omega
  have kp10 : Kp m3.size m9 m10 := Kp.ext u10
  replace c4 := c4.keep (kp10)
  replace c5 := Own.base (m0 := m3) c5 y9
  refine ⟨u10.sam (by simp; omega), r5, rfl, ?_⟩
  intro m11
  have x11 : Ext m m11 := x10.scells (by omega) _ _
  have y11 : m3.size <= m11.size := Nat.le_trans y10 (Nat.le_of_eq (q04 _ _ _ _).symm)
  have kp11 : Kp m3.size m10 m11 := Kp.box (by omega) _ _
  clear_value m11
  replace c4 := c4.keep (kp11)
  replace c5 := c5.keep (kp11)
  intro m12
  have x12 : Ext m m12 := x11.scells (by omega) _ _
  have kp12 : Kp m3.size m11 m12 := Kp.box (by omega) _ _
  clear_value m12
  replace c4 := c4.keep (kp12)
  replace c5 := c5.keep (kp12)
  have hR : q1o m3 m12 [.i x.op, .i x.dst, .i x.num, .i x.into, .s r4, .s r5] x := ⟨r4, r5, rfl, c4, c5⟩
  exact ⟨r4, r5, rfl, q1o.mono (Kp.ext (Ext.refl _)) (by omega) hR, x12⟩
theorem qmu {m : Mem} {s : Sl} {l : List (Instr)} (h : q19 m s l) (hs : qeb l) : q00 Tryz.prog q8t [Sl.v s] m fun v m' => ∃ s', v = Sl.v s' /\ qau m m' s' l /\ Ext m m' := by
  apply qie
  unfold qcz
  have hsl := h.len
  have hl := hs.1
  have e0 : Int.toNat (s.len : Int) = l.length := by omega
  rw [e0]
  refine ⟨by omega, Int.le_refl _, by omega, by omega, ?_⟩
  intro m1
  have x1 : Ext m m1 := (Ext.refl m).pushed _
  have s1 : m1.size = m.size + 1 := by simp [m1]
  have k1 : Blk m1 m.size q1w (zrow [.i (0 : Int), .i (0 : Int), .i (0 : Int), .i (0 : Int), .s Sl.nil, .s Sl.nil] l.length) := Blk.push m _ _
  clear_value m1
  simp -zeta only [Sl.blk_mk, Sl.off_mk, Sl.len_mk, Nat.zero_add]
  refine forI (n := l.length) (by omega) (fun k m' => Ext m m' /\ m1.size <= m'.size /\ ∃ css, Blk m' m.size q1w (css.flatten ++ zrow [.i (0 : Int), .i (0 : Int), .i (0 : Int), .i (0 : Int), .s Sl.nil, .s Sl.nil] (l.length - css.length)) /\ css.length = k /\ RowsOf 6 (q1o m1 m') css (l.take k)) ⟨x1, Nat.le_refl _, [], by simpa using k1, rfl, by simpa using RowsOf.nil _ _⟩ ?_
  rintro k m2 I μ hk ⟨hx, hm2, css, kk, hck, hrow⟩ next
  refine ⟨fun h6 => ?_, fun h6 => ?_⟩
  · simp only [decide_eq_true_eq] at h6
    obtain ⟨y, hy⟩ := q02 (l := l) (k := k) (by omega)
    obtain ⟨q4, q5, h4, h5, g0, g1, g2, g3, g4, g5⟩ := (q19.ext hx h).at' hy
    refine ⟨by omega, by omega, _, g0, _, g1, _, g2, _, g3, _, g4, _, g5, (qo6 h4 h5 (hs.2 y (q06 hy))).mono ?_⟩
    rintro _ m3 ⟨r4, r5, rfl, hc, x3⟩
    have ek : Int.toNat (k : Int) = k := by omega
    have hm3 := x3.size
    refine ⟨_, _, _, _, _, _, rfl, by omega, by omega, ?_⟩
    rw [ek]
    have hfl : css.flatten.length = k * 6 := by rw [q0t hrow.size, hck]
    refine ⟨(kk.ext x3).wrOk (by rw [List.length_append, hfl, qhi, hck]; simp only [List.length_cons, List.length_nil]; omega), next (by omega) _ ⟨(hx.trans x3).scells (Nat.le_refl _) _ _, by rw [q04]; omega, css ++ [[.i y.op, .i y.dst, .i y.num, .i y.into, .s r4, .s r5]], ?_, by simp [hck], ?_⟩⟩
    · have := Blk.scells (m := m3) (o := k * 6) (r := [.i y.op, .i y.dst, .i y.num, .i y.into, .s r4, .s r5]) (kk.ext x3)
      have e1 := fillRow (css := css) (zs := [.i (0 : Int), .i (0 : Int), .i (0 : Int), .i (0 : Int), .s Sl.nil, .s Sl.nil]) (cs := [.i y.op, .i y.dst, .i y.num, .i y.into, .s r4, .s r5]) (n := l.length) hrow.size rfl (by omega)
      simp only [List.length_cons, List.length_nil, Nat.zero_add, hck] at e1
      rw [hck] at this
      rw [e1] at this
      simpa [hck] using this
    · rw [q0a hy]
      have kp : Kp m1.size m2 (scells m3 m.size (k * 6) [.i y.op, .i y.dst, .i y.num, .i y.into, .s r4, .s r5]) := fun b hb1 hb2 => by rw [q0s _ _ _ _ (by omega), x3.same b hb2]
      refine RowsOf.snoc ⟨hrow.len, hrow.size, fun j cs x hj hx => q1o.mono kp (Nat.le_refl _) (hrow.each j cs x hj hx)⟩ rfl (q1o.mono (m0 := m2) (m1 := m1) (m := m3) (Kp.box (by omega) _ _) (by omega) hc)
  · simp only [decide_eq_false_iff_not] at h6
    have : k = l.length := by omega
    subst this
    rw [q0k (Nat.le_refl _)] at hrow
    have e2 : l.length - css.length = 0 := by omega
    rw [e2] at kk
    simp only [zrow, List.replicate_zero, List.flatten_nil, List.append_nil] at kk
    exact ⟨_, rfl, ⟨css, ⟨by simp only [Sl.len_mk]; rw [q0t hrow.size, hck], Or.inr ⟨m.size, l.length, [], rfl, Nat.le_refl _, by rw [List.append_nil]; exact kk, by rw [List.append_nil, q0t hrow.size, hck], Nat.le_refl _⟩⟩, hrow.len, hrow.size, fun j cs x hj hx => q1o.mono (Kp.ext (Ext.refl _)) (by omega) (hrow.each j cs x hj hx)⟩, hx⟩
theorem qn7 {m : Mem} {x y : Instr} {q4 q5 r4 r5 : Sl} (h4 : q03 m q4 (x.args)) (h5 : q03 m q5 (x.jumps)) (k4 : q03 m r4 (y.args)) (k5 : q03 m r5 (y.jumps)) : q0q Tryz.prog qa7 [.agg #[vi x.op, vi x.dst, vi x.num, vi x.into, Sl.v q4, Sl.v q5], .agg #[vi y.op, vi y.dst, vi y.num, vi y.into, Sl.v r4, Sl.v r5]] m (x = y) := by
  apply qir
  unfold qe1
  simp -zeta only [q0c, q0d]
  intro m1 m2
  have x2 : Ext m m2 := ((Ext.refl m).pushed _).pushed _
  have s1 : m1.size = m.size + 1 := by simp [m1]
  have s2 : m2.size = m.size + 2 := by simp [m2, s1]
  have y2 : m.size + 2 <= m2.size := by omega
  clear_value m2
  refine ⟨fun h => retF (fun e => by subst e; simp at h) x2, fun i0 => ?_⟩
  simp only [bne_eq_false_iff_eq] at i0
  refine ⟨fun h => retF (fun e => by subst e; simp at h) x2, fun i1 => ?_⟩
  simp only [bne_eq_false_iff_eq] at i1
  refine ⟨fun h => retF (fun e => by subst e; simp at h) x2, fun i2 => ?_⟩
  simp only [bne_eq_false_iff_eq] at i2
  refine ⟨fun h => retF (fun e => by subst e; simp at h) x2, fun i3 => ?_⟩
  simp only [bne_eq_false_iff_eq] at i3
  refine (q4r (h4.ext x2) (k4.ext x2)).mono ?_
  rintro _ m3 ⟨b4, rfl, hb4, u3⟩
  have x3 : Ext m m3 := x2.trans u3
  have y3 : m.size + 2 <= m3.size := by have := u3.size; omega
  refine ⟨u3.sam (by simp; omega), b4, rfl, fun h => retF (fun e => by subst e; exact nb hb4 h rfl) x3, fun h => ?_⟩
  have i4 := yb hb4 h
  clear h
  refine (q4r (h5.ext x3) (k5.ext x3)).mono ?_
  rintro _ m4 ⟨b5, rfl, hb5, u4⟩
  have x4 : Ext m m4 := x3.trans u4
  have y4 : m.size + 2 <= m4.size := by have := u4.size; omega
  refine ⟨u4.sam (by simp; omega), b5, rfl, fun h => retF (fun e => by subst e; exact nb hb5 h rfl) x4, fun h => ?_⟩
  have i5 := yb hb5 h
  clear h
  refine retT ?_ x4
  cases x; cases y; simp only [] at i0 i1 i2 i3 i4 i5
  simp only [i0, i1, i2, i3, i4, i5]
theorem qmt {m : Mem} {s t : Sl} {l r : List (Instr)} (hs : q19 m s l) (ht : q19 m t r) : q0q Tryz.prog q8n [Sl.v s, Sl.v t] m (l = r) := by
  apply qi7
  unfold qdd
  have hsl := hs.len
  have htl := ht.len
  refine ⟨fun h => retF (fun e => ?_) (Ext.refl _), fun h => ?_⟩
  · subst e; simp at h; omega
  · have hlen : l.length = r.length := by simp at h; omega
    refine forI (n := l.length) (hsl ▸ hs.lim) (fun k m' => Ext m m' /\ l.take k = r.take k) ⟨Ext.refl _, by simp⟩ ?_
    rintro k m1 I μ hk ⟨hx, he⟩ next
    refine ⟨fun h1 => ?_, fun h1 => ?_⟩
    · simp only [decide_eq_true_eq] at h1
      obtain ⟨y, hy⟩ := q02 (l := l) (k := k) (by omega)
      obtain ⟨z, hz⟩ := q02 (l := r) (k := k) (by omega)
      obtain ⟨q4, q5, h4, h5, g0, g1, g2, g3, g4, g5⟩ := (q19.ext hx hs).at' hy
      obtain ⟨r4, r5, k4, k5, f0, f1, f2, f3, f4, f5⟩ := (q19.ext hx ht).at' hz
      refine ⟨by omega, by omega, _, g0, _, g1, _, g2, _, g3, _, g4, _, g5, by omega, by omega, _, f0, _, f1, _, f2, _, f3, _, f4, _, f5, (qn7 h4 h5 k4 k5).mono ?_⟩
      rintro _ m2 ⟨b, rfl, hb, x2⟩
      refine ⟨b, rfl, fun h2 => retF (fun e => nb hb h2 ?_) (hx.trans x2), fun h2 => next (by omega) _ ⟨hx.trans x2, ?_⟩⟩
      · subst e; rw [hy] at hz; simpa using hz
      · rw [q0a hy, q0a hz, he, yb hb h2]
    · simp only [decide_eq_false_iff_not] at h1
      rw [q0k (by omega), q0k (by omega)] at he
      exact retT he hx
/-! Proc -/
def qg0 (x : Proc) : Prop := (x.params).length <= 1048576 /\ (x.lent).length <= 1048576 /\ qeb x.code
def qgz (l : List (Proc)) : Prop := l.length <= 1048576 /\ ∀ x ∈ l, qg0 x
def q1y (m0 m : Mem) (cs : List Ce) (x : Proc) : Prop := ∃ q0 q1 q4 : Sl, cs = [.s q0, .s q1, .i x.result, .i x.regs, .s q4] /\ CpI m0 m q0 (x.params) /\ CpI m0 m q1 (x.lent) /\ qau m0 m q4 (x.code)
abbrev qde (m0 m : Mem) (s : Sl) (l : List (Proc)) : Prop := CpS q94 5 (q1y m0 m) m0 m s l
theorem q1y.mono {m0 m m1 m' : Mem} (hk : Kp m0.size m m') (hb : m1.size <= m0.size) {cs : List Ce} {x : Proc} : q1y m0 m cs x -> q1y m1 m' cs x := by
  rintro ⟨q0, q1, q4, rfl, h0, h1, h4⟩
  exact ⟨q0, q1, q4, rfl, (h0.keep hk).base hb, (h1.keep hk).base hb, CpS.mono h4 (fun _ _ => q1o.mono hk hb) hk hb⟩
theorem q1y.read {m0 m : Mem} {cs : List Ce} {x : Proc} (h : q1y m0 m cs x) (hs : qg0 x) : ProcR m cs x := by
  obtain ⟨q0, q1, q4, rfl, h0, h1, h4⟩ := h
  exact ⟨q0, q1, q4, rfl, q03.ofOwn h0 (by have : (x.params).length <= 1048576 := hs.1; omega), q03.ofOwn h1 (by have : (x.lent).length <= 1048576 := hs.2.1; omega), qau.read h4 hs.2.2⟩
theorem qde.read {m0 m : Mem} {s : Sl} {l : List (Proc)} (h : qde m0 m s l) (hs : qgz l) : ProcSl m s l := CpS.read (sz := 4) h (fun cs x hx hr => q1y.read hr (hs.2 x hx)) hs.1
theorem qov {m : Mem} {x : Proc} {q0 q1 q4 : Sl} (h0 : q03 m q0 (x.params)) (h1 : q03 m q1 (x.lent)) (h4 : q19 m q4 (x.code)) {left : Int} (z0 : Lft left) : q00 Tryz.prog qbd [.agg #[Sl.v q0, Sl.v q1, vi x.result, vi x.regs, Sl.v q4], vi left] m (SzR left (qg0 x) m) := by
  apply qlj
  unfold qge
  simp -zeta only [q0c, q0d]
  intro m1
  have e0 : Ext m m1 := (Ext.refl m).pushed _
  have s1 : m1.size = m.size + 1 := by simp [m1]
  clear_value m1
  obtain ⟨z1, z2⟩ := z0
  refine (q4o (h0.ext e0) (left := left) ⟨by omega, by omega⟩).mono ?_
  rintro _ m2 ⟨n1, rfl, le1, sm1, x1⟩
  have e1 : Ext m m2 := e0.trans x1
  refine ⟨x1.sam (by simp; omega), n1, rfl, fun h => ⟨-1, rfl, by omega, fun h => by omega, e1⟩, fun h => ?_⟩
  simp only [decide_eq_false_iff_not] at h
  have y1 : m.size + 1 <= m2.size := by have := x1.size; omega
  refine (q4o (h1.ext e1) (left := n1) ⟨by omega, by omega⟩).mono ?_
  rintro _ m3 ⟨n2, rfl, le2, sm2, x2⟩
  have e2 : Ext m m3 := e1.trans x2
  refine ⟨x2.sam (by simp; omega), n2, rfl, fun h => ⟨-1, rfl, by omega, fun h => by omega, e2⟩, fun h => ?_⟩
  simp only [decide_eq_false_iff_not] at h
  have y2 : m.size + 1 <= m3.size := by have := x2.size; omega
  refine (qmz (q19.ext e2 h4) (left := n2) ⟨by omega, by omega⟩).mono ?_
  rintro _ m4 ⟨n3, rfl, le3, sm3, x3⟩
  have e3 : Ext m m4 := e2.trans x3
  refine ⟨x3.sam (by simp; omega), n3, rfl, fun h => ⟨-1, rfl, by omega, fun h => by omega, e3⟩, fun h => ?_⟩
  simp only [decide_eq_false_iff_not] at h
  have y3 : m.size + 1 <= m4.size := by have := x3.size; omega
  exact ⟨_, rfl, by omega, fun _ => ⟨sm1 (by omega), sm2 (by omega), sm3 (by omega)⟩, e3⟩
theorem qnk {m : Mem} {s : Sl} {l : List (Proc)} (h : ProcSl m s l) {left : Int} (z0 : Lft left) : q00 Tryz.prog q9q [Sl.v s, vi left] m (SzR left (qgz l) m) := by
  apply qil
  have h1 := h.len
  have h2 := h.lim
  obtain ⟨h3, h4⟩ := z0
  have e : w64 (left - (s.len : Int)) = left - s.len := q08 (by omega) (by omega)
  unfold qen
  rw [e]
  refine ⟨fun _ => ⟨-1, rfl, by omega, fun h => by omega, Ext.refl _⟩, fun h5 => ?_⟩
  simp only [decide_eq_false_iff_not] at h5
  refine forSI (σ := Int) (n := l.length) (by omega) (fun k n m' => 0 <= n /\ n <= left /\ Ext m m' /\ ∀ x ∈ l.take k, qg0 x) ⟨by omega, by omega, Ext.refl _, by simp⟩ ?_
  rintro k n m1 I μ hk ⟨hn, hn2, hx, hs⟩ next
  refine ⟨fun h6 => ?_, fun h6 => ?_⟩
  · simp only [decide_eq_true_eq] at h6
    obtain ⟨y, hy⟩ := q02 (l := l) (k := k) (by omega)
    obtain ⟨q0, q1, q4, h0, h1, h4, g0, g1, g2, g3, g4⟩ := (ProcSl.ext hx h).at' hy
    refine ⟨by omega, by omega, _, g0, _, g1, _, g2, _, g3, _, g4, (qov h0 h1 h4 ⟨hn, by omega⟩).mono ?_⟩
    rintro _ m2 ⟨n2, rfl, le2, sm2, hx2⟩
    refine ⟨n2, rfl, fun h => ⟨-1, rfl, by omega, fun h => by omega, hx.trans hx2⟩, fun h7 => ?_⟩
    simp only [decide_eq_false_iff_not] at h7
    refine next (by omega) _ _ ⟨by omega, by omega, hx.trans hx2, fun x hxm => ?_⟩
    rw [q0a hy] at hxm
    rcases List.mem_append.1 hxm with h8 | h8
    · exact hs x h8
    · simp at h8; subst h8; exact sm2 (by omega)
  · simp only [decide_eq_false_iff_not] at h6
    rw [q0k (by omega)] at hs
    exact ⟨n, rfl, hn2, fun _ => ⟨by omega, hs⟩, hx⟩
theorem qop {m : Mem} {x : Proc} {q0 q1 q4 : Sl} (h0 : q03 m q0 (x.params)) (h1 : q03 m q1 (x.lent)) (h4 : q19 m q4 (x.code)) (hs : qg0 x) : q00 Tryz.prog qb4 [.agg #[Sl.v q0, Sl.v q1, vi x.result, vi x.regs, Sl.v q4]] m fun v m' => ∃ r0 r1 r4 : Sl, v = .agg #[Sl.v r0, Sl.v r1, vi x.result, vi x.regs, Sl.v r4] /\ q1y m m' [.s r0, .s r1, .i x.result, .i x.regs, .s r4] x /\ Ext m m' := by
  apply ql0
  unfold qfg
  simp -zeta only [q0c, q0d]
  intro m1 m2 m3
  have s1 : m1.size = m.size + 1 := by simp [m1]
  have s2 : m2.size = m.size + 2 := by simp [m2, s1]
  have s3 : m3.size = m.size + 3 := by simp [m3, s2]
  have x3 : Ext m m3 := (((Ext.refl m).pushed _).pushed _).pushed _
  have y3 : m3.size <= m3.size := Nat.le_refl _
  clear_value m3
  refine (q4k (h0.ext x3) hs.1).mono ?_
  rintro _ m4 ⟨r0, rfl, c0, u4⟩
  have x4 : Ext m m4 := x3.trans u4
  have y4 : m3.size <= m4.size := by have := u4.size; omega
  have kp4 : Kp m3.size m3 m4 := Kp.ext u4
  replace c0 := Own.base (m0 := m3) c0 y3
  refine ⟨u4.sam (by simp; omega), r0, rfl, ?_⟩
  intro m5
  have x5 : Ext m m5 := x4.scells (by omega) _ _
  have y5 : m3.size <= m5.size := Nat.le_trans y4 (Nat.le_of_eq (q04 _ _ _ _).symm)
  have kp5 : Kp m3.size m4 m5 := Kp.box (by omega) _ _
  clear_value m5
  replace c0 := c0.keep (kp5)
  refine (q4k (h1.ext x5) hs.2.1).mono ?_
  rintro _ m6 ⟨r1, rfl, c1, u6⟩
  have x6 : Ext m m6 := x5.trans u6
  have y6 : m3.size <= m6.size := by have := u6.size; omega
  have kp6 : Kp m3.size m5 m6 := Kp.ext u6
  replace c0 := c0.keep (kp6)
  replace c1 := Own.base (m0 := m3) c1 y5
  refine ⟨u6.sam (by simp; omega), r1, rfl, ?_⟩
  intro m7
  have x7 : Ext m m7 := x6.scells (by omega) _ _
  have y7 : m3.size <= m7.size := Nat.le_trans y6 (Nat.le_of_eq (q04 _ _ _ _).symm)
  have kp7 : Kp m3.size m6 m7 := Kp.box (by omega) _ _
  clear_value m7
  replace c0 := c0.keep (kp7)
  replace c1 := c1.keep (kp7)
  intro m8
  have x8 : Ext m m8 := x7.scells (by omega) _ _
  have y8 : m3.size <= m8.size := Nat.le_trans y7 (Nat.le_of_eq (q04 _ _ _ _).symm)
  have kp8 : Kp m3.size m7 m8 := Kp.box (by omega) _ _
  clear_value m8
  replace c0 := c0.keep (kp8)
  replace c1 := c1.keep (kp8)
  intro m9
  have x9 : Ext m m9 := x8.scells (by omega) _ _
  have y9 : m3.size <= m9.size := Nat.le_trans y8 (Nat.le_of_eq (q04 _ _ _ _).symm)
  have kp9 : Kp m3.size m8 m9 := Kp.box (by omega) _ _
  clear_value m9
  replace c0 := c0.keep (kp9)
  replace c1 := c1.keep (kp9)
  refine (qmu (q19.ext x9 h4) hs.2.2).mono ?_
  rintro _ m10 ⟨r4, rfl, c4, u10⟩
  have x10 : Ext m m10 := x9.trans u10
  have y10 : m3.size <= m10.size := by have := u10.size; omega
  have kp10 : Kp m3.size m9 m10 := Kp.ext u10
  replace c0 := c0.keep (kp10)
  replace c1 := c1.keep (kp10)
  replace c4 := CpS.mono (m1 := m3) c4 (fun _ _ => q1o.mono (Kp.ext (Ext.refl _)) y9) (Kp.ext (Ext.refl _)) y9
  refine ⟨u10.sam (by simp; omega), r4, rfl, ?_⟩
  intro m11
  have x11 : Ext m m11 := x10.scells (by omega) _ _
  have y11 : m3.size <= m11.size := Nat.le_trans y10 (Nat.le_of_eq (q04 _ _ _ _).symm)
  have kp11 : Kp m3.size m10 m11 := Kp.box (by omega) _ _
  clear_value m11
  replace c0 := c0.keep (kp11)
  replace c1 := c1.keep (kp11)
  replace c4 := CpS.mono (m1 := m3) c4 (fun _ _ => q1o.mono (kp11) (Nat.le_refl _)) (kp11) (Nat.le_refl _)
  intro m12
  have x12 : Ext m m12 := x11.scells (by omega) _ _
  have kp12 : Kp m3.size m11 m12 := Kp.box (by omega) _ _
  clear_value m12
  replace c0 := c0.keep (kp12)
  replace c1 := c1.keep (kp12)
  replace c4 := CpS.mono (m1 := m3) c4 (fun _ _ => q1o.mono (kp12) (Nat.le_refl _)) (kp12) (Nat.le_refl _)
  have hR : q1y m3 m12 [.s r0, .s r1, .i x.result, .i x.regs, .s r4] x := ⟨r0, r1, r4, rfl, c0, c1, c4⟩
  exact ⟨r0, r1, r4, rfl, q1y.mono (Kp.ext (Ext.refl _)) (by omega) hR, x12⟩
theorem qnq {m : Mem} {s : Sl} {l : List (Proc)} (h : ProcSl m s l) (hs : qgz l) : q00 Tryz.prog q9o [Sl.v s] m fun v m' => ∃ s', v = Sl.v s' /\ qde m m' s' l /\ Ext m m' := by
  apply qj5
  unfold qed
  have hsl := h.len
  have hl := hs.1
  have e0 : Int.toNat (s.len : Int) = l.length := by omega
  rw [e0]
  refine ⟨by omega, Int.le_refl _, by omega, by omega, ?_⟩
  intro m1
  have x1 : Ext m m1 := (Ext.refl m).pushed _
  have s1 : m1.size = m.size + 1 := by simp [m1]
  have k1 : Blk m1 m.size q94 (zrow [.s Sl.nil, .s Sl.nil, .i (0 : Int), .i (0 : Int), .s Sl.nil] l.length) := Blk.push m _ _
  clear_value m1
  simp -zeta only [Sl.blk_mk, Sl.off_mk, Sl.len_mk, Nat.zero_add]
  refine forI (n := l.length) (by omega) (fun k m' => Ext m m' /\ m1.size <= m'.size /\ ∃ css, Blk m' m.size q94 (css.flatten ++ zrow [.s Sl.nil, .s Sl.nil, .i (0 : Int), .i (0 : Int), .s Sl.nil] (l.length - css.length)) /\ css.length = k /\ RowsOf 5 (q1y m1 m') css (l.take k)) ⟨x1, Nat.le_refl _, [], by simpa using k1, rfl, by simpa using RowsOf.nil _ _⟩ ?_
  rintro k m2 I μ hk ⟨hx, hm2, css, kk, hck, hrow⟩ next
  refine ⟨fun h6 => ?_, fun h6 => ?_⟩
  · simp only [decide_eq_true_eq] at h6
    obtain ⟨y, hy⟩ := q02 (l := l) (k := k) (by omega)
    obtain ⟨q0, q1, q4, h0, h1, h4, g0, g1, g2, g3, g4⟩ := (ProcSl.ext hx h).at' hy
    refine ⟨by omega, by omega, _, g0, _, g1, _, g2, _, g3, _, g4, (qop h0 h1 h4 (hs.2 y (q06 hy))).mono ?_⟩
    rintro _ m3 ⟨r0, r1, r4, rfl, hc, x3⟩
    have ek : Int.toNat (k : Int) = k := by omega
    have hm3 := x3.size
    refine ⟨_, _, _, _, _, rfl, by omega, by omega, ?_⟩
    rw [ek]
    have hfl : css.flatten.length = k * 5 := by rw [q0t hrow.size, hck]
    refine ⟨(kk.ext x3).wrOk (by rw [List.length_append, hfl, qhi, hck]; simp only [List.length_cons, List.length_nil]; omega), next (by omega) _ ⟨(hx.trans x3).scells (Nat.le_refl _) _ _, by rw [q04]; omega, css ++ [[.s r0, .s r1, .i y.result, .i y.regs, .s r4]], ?_, by simp [hck], ?_⟩⟩
    · have := Blk.scells (m := m3) (o := k * 5) (r := [.s r0, .s r1, .i y.result, .i y.regs, .s r4]) (kk.ext x3)
      have e1 := fillRow (css := css) (zs := [.s Sl.nil, .s Sl.nil, .i (0 : Int), .i (0 : Int), .s Sl.nil]) (cs := [.s r0, .s r1, .i y.result, .i y.regs, .s r4]) (n := l.length) hrow.size rfl (by omega)
      simp only [List.length_cons, List.length_nil, Nat.zero_add, hck] at e1
      rw [hck] at this
      rw [e1] at this
      simpa [hck] using this
    · rw [q0a hy]
      have kp : Kp m1.size m2 (scells m3 m.size (k * 5) [.s r0, .s r1, .i y.result, .i y.regs, .s r4]) := fun b hb1 hb2 => by rw [q0s _ _ _ _ (by omega), x3.same b hb2]
      refine RowsOf.snoc ⟨hrow.len, hrow.size, fun j cs x hj hx => q1y.mono kp (Nat.le_refl _) (hrow.each j cs x hj hx)⟩ rfl (q1y.mono (m0 := m2) (m1 := m1) (m := m3) (Kp.box (by omega) _ _) (by omega) hc)
  · simp only [decide_eq_false_iff_not] at h6
    have : k = l.length := by omega
    subst this
    rw [q0k (Nat.le_refl _)] at hrow
    have e2 : l.length - css.length = 0 := by omega
    rw [e2] at kk
    simp only [zrow, List.replicate_zero, List.flatten_nil, List.append_nil] at kk
    exact ⟨_, rfl, ⟨css, ⟨by simp only [Sl.len_mk]; rw [q0t hrow.size, hck], Or.inr ⟨m.size, l.length, [], rfl, Nat.le_refl _, by rw [List.append_nil]; exact kk, by rw [List.append_nil, q0t hrow.size, hck], Nat.le_refl _⟩⟩, hrow.len, hrow.size, fun j cs x hj hx => q1y.mono (Kp.ext (Ext.refl _)) (by omega) (hrow.each j cs x hj hx)⟩, hx⟩
theorem qp5 {m : Mem} {x y : Proc} {q0 q1 q4 r0 r1 r4 : Sl} (h0 : q03 m q0 (x.params)) (h1 : q03 m q1 (x.lent)) (h4 : q19 m q4 (x.code)) (k0 : q03 m r0 (y.params)) (k1 : q03 m r1 (y.lent)) (k4 : q19 m r4 (y.code)) : q0q Tryz.prog qb7 [.agg #[Sl.v q0, Sl.v q1, vi x.result, vi x.regs, Sl.v q4], .agg #[Sl.v r0, Sl.v r1, vi y.result, vi y.regs, Sl.v r4]] m (x = y) := by
  apply qku
  unfold qg9
  simp -zeta only [q0c, q0d]
  intro m1 m2
  have x2 : Ext m m2 := ((Ext.refl m).pushed _).pushed _
  have s1 : m1.size = m.size + 1 := by simp [m1]
  have s2 : m2.size = m.size + 2 := by simp [m2, s1]
  have y2 : m.size + 2 <= m2.size := by omega
  clear_value m2
  refine (q4r (h0.ext x2) (k0.ext x2)).mono ?_
  rintro _ m3 ⟨b0, rfl, hb0, u3⟩
  have x3 : Ext m m3 := x2.trans u3
  have y3 : m.size + 2 <= m3.size := by have := u3.size; omega
  refine ⟨u3.sam (by simp; omega), b0, rfl, fun h => retF (fun e => by subst e; exact nb hb0 h rfl) x3, fun h => ?_⟩
  have i0 := yb hb0 h
  clear h
  refine (q4r (h1.ext x3) (k1.ext x3)).mono ?_
  rintro _ m4 ⟨b1, rfl, hb1, u4⟩
  have x4 : Ext m m4 := x3.trans u4
  have y4 : m.size + 2 <= m4.size := by have := u4.size; omega
  refine ⟨u4.sam (by simp; omega), b1, rfl, fun h => retF (fun e => by subst e; exact nb hb1 h rfl) x4, fun h => ?_⟩
  have i1 := yb hb1 h
  clear h
  refine ⟨fun h => retF (fun e => by subst e; simp at h) x4, fun i2 => ?_⟩
  simp only [bne_eq_false_iff_eq] at i2
  refine ⟨fun h => retF (fun e => by subst e; simp at h) x4, fun i3 => ?_⟩
  simp only [bne_eq_false_iff_eq] at i3
  refine (qmt (q19.ext x4 h4) (q19.ext x4 k4)).mono ?_
  rintro _ m5 ⟨b4, rfl, hb4, u5⟩
  have x5 : Ext m m5 := x4.trans u5
  have y5 : m.size + 2 <= m5.size := by have := u5.size; omega
  refine ⟨u5.sam (by simp; omega), b4, rfl, fun h => retF (fun e => by subst e; exact nb hb4 h rfl) x5, fun h => ?_⟩
  have i4 := yb hb4 h
  clear h
  refine retT ?_ x5
  cases x; cases y; simp only [] at i0 i1 i2 i3 i4
  simp only [i0, i1, i2, i3, i4]
theorem qnd {m : Mem} {s t : Sl} {l r : List (Proc)} (hs : ProcSl m s l) (ht : ProcSl m t r) : q0q Tryz.prog q9v [Sl.v s, Sl.v t] m (l = r) := by
  apply qj0
  unfold qe4
  have hsl := hs.len
  have htl := ht.len
  refine ⟨fun h => retF (fun e => ?_) (Ext.refl _), fun h => ?_⟩
  · subst e; simp at h; omega
  · have hlen : l.length = r.length := by simp at h; omega
    refine forI (n := l.length) (hsl ▸ hs.lim) (fun k m' => Ext m m' /\ l.take k = r.take k) ⟨Ext.refl _, by simp⟩ ?_
    rintro k m1 I μ hk ⟨hx, he⟩ next
    refine ⟨fun h1 => ?_, fun h1 => ?_⟩
    · simp only [decide_eq_true_eq] at h1
      obtain ⟨y, hy⟩ := q02 (l := l) (k := k) (by omega)
      obtain ⟨z, hz⟩ := q02 (l := r) (k := k) (by omega)
      obtain ⟨q0, q1, q4, h0, h1, h4, g0, g1, g2, g3, g4⟩ := (ProcSl.ext hx hs).at' hy
      obtain ⟨r0, r1, r4, k0, k1, k4, f0, f1, f2, f3, f4⟩ := (ProcSl.ext hx ht).at' hz
      refine ⟨by omega, by omega, _, g0, _, g1, _, g2, _, g3, _, g4, by omega, by omega, _, f0, _, f1, _, f2, _, f3, _, f4, (qp5 h0 h1 h4 k0 k1 k4).mono ?_⟩
      rintro _ m2 ⟨b, rfl, hb, x2⟩
      refine ⟨b, rfl, fun h2 => retF (fun e => nb hb h2 ?_) (hx.trans x2), fun h2 => next (by omega) _ ⟨hx.trans x2, ?_⟩⟩
      · subst e; rw [hy] at hz; simpa using hz
      · rw [q0a hy, q0a hz, he, yb hb h2]
    · simp only [decide_eq_false_iff_not] at h1
      rw [q0k (by omega), q0k (by omega)] at he
      exact retT he hx
end
section
/-! Image -/
def qhm (x : Image) : Prop := qgp x.decls /\ qgz x.procs
def q4t (m0 m : Mem) (cs : List Ce) (x : Image) : Prop := ∃ q0 q1 : Sl, cs = [.s q0, .s q1] /\ qcs m0 m q0 (x.decls) /\ qde m0 m q1 (x.procs)
theorem q4t.mono {m0 m m1 m' : Mem} (hk : Kp m0.size m m') (hb : m1.size <= m0.size) {cs : List Ce} {x : Image} : q4t m0 m cs x -> q4t m1 m' cs x := by
  rintro ⟨q0, q1, rfl, h0, h1⟩
  exact ⟨q0, q1, rfl, CpS.mono h0 (fun _ _ => q1p.mono hk hb) hk hb, CpS.mono h1 (fun _ _ => q1y.mono hk hb) hk hb⟩
theorem q4t.read {m0 m : Mem} {q0 q1 : Sl} {x : Image} (h : q4t m0 m [.s q0, .s q1] x) (hs : qhm x) : ImageR m q0 q1 x := by
  obtain ⟨q0', q1', he, h0, h1⟩ := h
  simp only [List.cons.injEq, Ce.s.injEq, and_true] at he
  obtain ⟨rfl, rfl⟩ := he
  exact ⟨qcs.read h0 hs.1, qde.read h1 hs.2⟩
theorem qn9 {m : Mem} {x : Image} {q0 q1 : Sl} (h0 : q0j m q0 (x.decls)) (h1 : ProcSl m q1 (x.procs)) {left : Int} (z0 : Lft left) : q00 Tryz.prog q9r [.agg #[Sl.v q0, Sl.v q1], vi left] m (SzR left (qhm x) m) := by
  apply qjj
  unfold qel
  simp -zeta only [q0c, q0d]
  intro m1
  have e0 : Ext m m1 := (Ext.refl m).pushed _
  have s1 : m1.size = m.size + 1 := by simp [m1]
  clear_value m1
  obtain ⟨z1, z2⟩ := z0
  refine (qnt (q0j.ext e0 h0) (left := left) ⟨by omega, by omega⟩).mono ?_
  rintro _ m2 ⟨n1, rfl, le1, sm1, x1⟩
  have e1 : Ext m m2 := e0.trans x1
  refine ⟨x1.sam (by simp; omega), n1, rfl, fun h => ⟨-1, rfl, by omega, fun h => by omega, e1⟩, fun h => ?_⟩
  simp only [decide_eq_false_iff_not] at h
  have y1 : m.size + 1 <= m2.size := by have := x1.size; omega
  refine (qnk (ProcSl.ext e1 h1) (left := n1) ⟨by omega, by omega⟩).mono ?_
  rintro _ m3 ⟨n2, rfl, le2, sm2, x2⟩
  have e2 : Ext m m3 := e1.trans x2
  refine ⟨x2.sam (by simp; omega), n2, rfl, fun h => ⟨-1, rfl, by omega, fun h => by omega, e2⟩, fun h => ?_⟩
  simp only [decide_eq_false_iff_not] at h
  have y2 : m.size + 1 <= m3.size := by have := x2.size; omega
  exact ⟨_, rfl, by omega, fun _ => ⟨sm1 (by omega), sm2 (by omega)⟩, e2⟩
theorem q8i {m : Mem} {x : Image} {q0 q1 : Sl} (h0 : q0j m q0 (x.decls)) (h1 : ProcSl m q1 (x.procs)) (hs : qhm x) : q00 Tryz.prog q4j [.agg #[Sl.v q0, Sl.v q1]] m fun v m' => ∃ r0 r1 : Sl, v = .agg #[Sl.v r0, Sl.v r1] /\ q4t m m' [.s r0, .s r1] x /\ Ext m m' := by
  apply qk1
  unfold qec
  simp -zeta only [q0c, q0d]
  intro m1 m2 m3
  have s1 : m1.size = m.size + 1 := by simp [m1]
  have s2 : m2.size = m.size + 2 := by simp [m2, s1]
  have s3 : m3.size = m.size + 3 := by simp [m3, s2]
  have x3 : Ext m m3 := (((Ext.refl m).pushed _).pushed _).pushed _
  have y3 : m3.size <= m3.size := Nat.le_refl _
  clear_value m3
  refine (qn3 (q0j.ext x3 h0) hs.1).mono ?_
  rintro _ m4 ⟨r0, rfl, c0, u4⟩
  have x4 : Ext m m4 := x3.trans u4
  have y4 : m3.size <= m4.size := by have := u4.size; omega
  have kp4 : Kp m3.size m3 m4 := Kp.ext u4
  replace c0 := CpS.mono (m1 := m3) c0 (fun _ _ => q1p.mono (Kp.ext (Ext.refl _)) y3) (Kp.ext (Ext.refl _)) y3
  refine ⟨u4.sam (by simp; omega), r0, rfl, ?_⟩
  intro m5
  have x5 : Ext m m5 := x4.scells (by omega) _ _
  have y5 : m3.size <= m5.size := Nat.le_trans y4 (Nat.le_of_eq (q04 _ _ _ _).symm)
  have kp5 : Kp m3.size m4 m5 := Kp.box (by omega) _ _
  clear_value m5
  replace c0 := CpS.mono (m1 := m3) c0 (fun _ _ => q1p.mono (kp5) (Nat.le_refl _)) (kp5) (Nat.le_refl _)
  refine (qnq (ProcSl.ext x5 h1) hs.2).mono ?_
  rintro _ m6 ⟨r1, rfl, c1, u6⟩
  have x6 : Ext m m6 := x5.trans u6
  have y6 : m3.size <= m6.size := by have := u6.size; omega
  have kp6 : Kp m3.size m5 m6 := Kp.ext u6
  replace c0 := CpS.mono (m1 := m3) c0 (fun _ _ => q1p.mono (kp6) (Nat.le_refl _)) (kp6) (Nat.le_refl _)
  replace c1 := CpS.mono (m1 := m3) c1 (fun _ _ => q1y.mono (Kp.ext (Ext.refl _)) y5) (Kp.ext (Ext.refl _)) y5
  refine ⟨u6.sam (by simp; omega), r1, rfl, ?_⟩
  intro m7
  have x7 : Ext m m7 := x6.scells (by omega) _ _
  have y7 : m3.size <= m7.size := Nat.le_trans y6 (Nat.le_of_eq (q04 _ _ _ _).symm)
  have kp7 : Kp m3.size m6 m7 := Kp.box (by omega) _ _
  clear_value m7
  replace c0 := CpS.mono (m1 := m3) c0 (fun _ _ => q1p.mono (kp7) (Nat.le_refl _)) (kp7) (Nat.le_refl _)
  replace c1 := CpS.mono (m1 := m3) c1 (fun _ _ => q1y.mono (kp7) (Nat.le_refl _)) (kp7) (Nat.le_refl _)
  intro m8
  have x8 : Ext m m8 := x7.scells (by omega) _ _
  have kp8 : Kp m3.size m7 m8 := Kp.box (by omega) _ _
  clear_value m8
  replace c0 := CpS.mono (m1 := m3) c0 (fun _ _ => q1p.mono (kp8) (Nat.le_refl _)) (kp8) (Nat.le_refl _)
  replace c1 := CpS.mono (m1 := m3) c1 (fun _ _ => q1y.mono (kp8) (Nat.le_refl _)) (kp8) (Nat.le_refl _)
  have hR : q4t m3 m8 [.s r0, .s r1] x := ⟨r0, r1, rfl, c0, c1⟩
  exact ⟨r0, r1, rfl, q4t.mono (Kp.ext (Ext.refl _)) (by omega) hR, x8⟩
theorem qo8 {m : Mem} {x y : Image} {q0 q1 r0 r1 : Sl} (h0 : q0j m q0 (x.decls)) (h1 : ProcSl m q1 (x.procs)) (k0 : q0j m r0 (y.decls)) (k1 : ProcSl m r1 (y.procs)) : q0q Tryz.prog qa4 [.agg #[Sl.v q0, Sl.v q1], .agg #[Sl.v r0, Sl.v r1]] m (x = y) := by
  apply qkd
  unfold qep
  simp -zeta only [q0c, q0d]
  intro m1 m2
  have x2 : Ext m m2 := ((Ext.refl m).pushed _).pushed _
  have s1 : m1.size = m.size + 1 := by simp [m1]
  have s2 : m2.size = m.size + 2 := by simp [m2, s1]
  have y2 : m.size + 2 <= m2.size := by omega
  clear_value m2
  refine (qnl (q0j.ext x2 h0) (q0j.ext x2 k0)).mono ?_
  rintro _ m3 ⟨b0, rfl, hb0, u3⟩
  have x3 : Ext m m3 := x2.trans u3
  have y3 : m.size + 2 <= m3.size := by have := u3.size; omega
  refine ⟨u3.sam (by simp; omega), b0, rfl, fun h => retF (fun e => by subst e; exact nb hb0 h rfl) x3, fun h => ?_⟩
  have i0 := yb hb0 h
  clear h
  refine (qnd (ProcSl.ext x3 h1) (ProcSl.ext x3 k1)).mono ?_
  rintro _ m4 ⟨b1, rfl, hb1, u4⟩
  have x4 : Ext m m4 := x3.trans u4
  have y4 : m.size + 2 <= m4.size := by have := u4.size; omega
  refine ⟨u4.sam (by simp; omega), b1, rfl, fun h => retF (fun e => by subst e; exact nb hb1 h rfl) x4, fun h => ?_⟩
  have i1 := yb hb1 h
  clear h
  refine retT ?_ x4
  cases x; cases y; simp only [] at i0 i1
  simp only [i0, i1]
end
section

end
section
def LawR (m : Mem) (v : Value) (m' : Mem) : Prop := v = vb true /\ Ext m m'
end
section
structure Stat where
  steps : Int
  allocs : Int
  reuses : Int
  dups : Int
  drops : Int
  peak : Int
  depth : Int
  shared : Int
def mx (a b : Int) : Int := if b > a then b else a
def liveN : List Cell -> Int
  | [] => 0
  | c :: h => (if 0 < c.count then 1 else 0) + liveN h
def topN (n : Int) : List Cell -> Int
  | [] => n
  | c :: h => topN (mx n c.count) h
def see (c : Stat) (s : St) : Stat := { c with peak := mx c.peak (liveN s.heap), depth := mx c.depth s.frames.length, shared := topN c.shared s.heap }
def tally (c : Stat) (op : Int) (again : Bool) : Stat :=
  if again = true then { c with reuses := c.reuses + 1 }
  else if op = 6 \/ op = 10 then { c with allocs := c.allocs + 1 }
  else if op = 14 then { c with dups := c.dups + 1 }
  else if op = 15 then { c with drops := c.drops + 1 }
  else c
def curX (im : Image) (s : St) : Instr :=
  match s.frames.getLast? with
  | some f => q0r im f
  | none => ⟨0, 0, 0, 0, [], []⟩
def again (im : Image) (s : St) : Bool :=
  match s.frames.getLast? with
  | some f => decide ((q0r im f).op = 6 /\ (q0r im f).into ≠ 0 /\ at' f.held ((q0r im f).into - 1) ≠ 0)
  | none => false
noncomputable def tick (im : Image) (s : St) (c : Stat) : Stat :=
  let c1 : Stat := { c with steps := c.steps + 1 }
  see (if (step im s).status = 3 \/ (step im s).status = 0 then tally c1 (curX im s).op (again im s) else c1) (step im s)
noncomputable def q1r (im : Image) (s0 : St) : Nat -> Stat
  | 0 => see ⟨0, 0, 0, 0, 0, 0, 0, 0⟩ s0
  | k + 1 => tick im (steps im k s0) (q1r im s0 k)
def note (c : Stat) (op : Int) (a : Int) (s : St) : Stat :=
  let c1 : Stat := { c with steps := c.steps + 1 }
  if s.status = 1 \/ s.status = 2 then c1 else
  let c2 : Stat := if op = 6 \/ op = 10 then { c1 with allocs := c.allocs + 1 - a, reuses := c.reuses + a, peak := mx c.peak (liveN s.heap) }
    else if op = 14 then { c1 with dups := c.dups + 1 } else if op = 15 then { c1 with drops := c.drops + 1 } else c1
  { c2 with depth := mx c2.depth s.frames.length, shared := topN c2.shared s.heap }
theorem qs0 : ∀ (h : List Cell) (n : Int), n <= topN n h
  | [], n => Int.le_refl _
  | c :: h, n => by
    have := qs0 h (mx n c.count)
    have : n <= mx n c.count := by unfold mx; split <;> omega
    simp only [topN]; omega
theorem qs2 : ∀ (h : List Cell) (n : Int), (∀ c ∈ h, c.count <= n) -> topN n h = n
  | [], _, _ => rfl
  | d :: h, n, hn => by
    have h1 := hn d (by simp)
    have h2 : mx n d.count = n := by unfold mx; split <;> omega
    simp only [topN]; rw [h2]; exact qs2 h n fun c hc => hn c (by simp [hc])
theorem qqz : ∀ (h : List Cell) (n : Int), ∀ c ∈ h, c.count <= topN n h
  | [], _, c, hc => by simp at hc
  | d :: h, n, c, hc => by
    simp only [topN]
    rcases List.mem_cons.1 hc with rfl | hc
    · have := qs0 h (mx n c.count)
      have : c.count <= mx n c.count := by unfold mx; split <;> omega
      omega
    · exact qqz h _ c hc
theorem qt2 (h : List Cell) (n : Int) : topN (topN n h) h = topN n h := qs2 h _ (qqz h n)
theorem qhd : ∀ (h : List Cell), 0 <= liveN h
  | [] => Int.le_refl _
  | c :: h => by have := qhd h; simp only [liveN]; split <;> omega
theorem qmf : ∀ (h' h : List Cell), (∀ b, Live h' b -> Live h b) -> liveN h' <= liveN h
  | [], h, _ => qhd h
  | c' :: t', [], hl => by
    have h0 : ¬ 0 < c'.count := fun hp => by obtain ⟨c, hc, _⟩ := hl 0 ⟨c', rfl, hp⟩; simp at hc
    have := qmf t' [] fun b ⟨c, hc, hp⟩ => by obtain ⟨d, hd, _⟩ := hl (b + 1) ⟨c, by simpa using hc, hp⟩; simp at hd
    simp only [liveN] at *; rw [if_neg h0]; omega
  | c' :: t', c :: t, hl => by
    have h0 : 0 < c'.count -> 0 < c.count := fun hp => by obtain ⟨d, hd, hq⟩ := hl 0 ⟨c', rfl, hp⟩; simp at hd; subst hd; exact hq
    have := qmf t' t fun b ⟨d, hd, hp⟩ => by
      obtain ⟨g, hg, hq⟩ := hl (b + 1) ⟨d, by simpa using hd, hp⟩
      exact ⟨g, by simpa using hg, hq⟩
    simp only [liveN]
    split <;> split <;> omega
theorem qj2 : ∀ (h : List Cell), liveN h <= h.length
  | [] => by simp [liveN]
  | c :: h => by have := qj2 h; simp only [liveN, List.length_cons]; split <;> omega
theorem Live.trim {h : List Cell} {b : Nat} (hl : Live (trim h) b) : Live h b := by
  obtain ⟨c, hc, hp⟩ := hl
  unfold Go.Proofs.YtpggcodlaajceaaGreat.trim at hc
  rw [List.getElem?_take] at hc
  split at hc
  · exact ⟨c, hc, hp⟩
  · simp at hc
theorem Live.set_live {h : List Cell} {w : Int} (hw : live h w) (c : Cell) {b : Nat} (hl : Live (h.set (ix w) c) b) : Live h b := by
  by_cases hab : b = ix w
  · subst hab; exact hw.2
  · exact (Live.ne hab).1 hl
theorem Live.refer : ∀ (ws : List Int) (h : List Cell) (b : Nat), (∀ w ∈ ws, live h w) -> Live (refer h ws) b -> Live h b
  | [], _, _, _, hl => hl
  | w :: ws, h, b, hw, hl => by
    have h1 := hw w List.mem_cons_self
    exact (Live.bump h1 b).1 (Live.refer ws _ b (fun v hv => ⟨(hw v (List.mem_cons_of_mem _ hv)).1, (Live.bump h1 _).2 (hw v (List.mem_cons_of_mem _ hv)).2⟩) hl)
theorem Live.dropS : ∀ (n : Nat) (h : List Cell) (st : List Int), bulk h + st.length <= n -> ∀ b, Live (dropS h st) b -> Live h b
  | n, h, [], _, b, hl => by rw [q8d] at hl; exact hl
  | 0, h, w :: r, hn, b, _ => by simp at hn
  | n + 1, h, w :: r, hn, b, hl => by
    simp only [List.length_cons] at hn
    rcases Classical.em (live h w) with hw | hw
    · obtain ⟨hc, hp⟩ := q0h hw
      by_cases h1 : (q01 h w).count = 1
      · have hbk := q2h (c' := free) hc
        simp only [if_pos hp, free] at hbk
        simp at hbk
        rw [q8c hw h1] at hl
        exact Live.set_live hw _ (Live.dropS n _ _ (by simp [free]; omega) b hl)
      · have hbk2 := q2h (c' := { q01 h w with count := (q01 h w).count - 1 }) hc
        simp only [if_pos hp] at hbk2
        rw [if_pos (by omega)] at hbk2
        rw [q6l hw h1] at hl
        exact Live.set_live hw _ (Live.dropS n _ _ (by simp only [Go.Proofs.YtpggcodlaajceaaGreat.less]; omega) b hl)
    · rw [q6g hw] at hl
      exact Live.dropS n _ _ (by omega) b hl
theorem Live.apart {h : List Cell} {e : Nat -> Int} (hi : HInv h e) {w : Int} (hw : live h w) {b : Nat} (hl : Live (apart h w) b) : Live h b := by
  obtain ⟨hc, hp⟩ := q0h hw
  unfold Go.Proofs.YtpggcodlaajceaaGreat.apart at hl
  split at hl
  · exact Live.set_live hw _ (Live.trim hl)
  · rename_i h1
    refine Live.set_live hw { q01 h w with count := (q01 h w).count - 1 } (Live.refer _ _ _ (fun v hv => ?_) hl)
    obtain ⟨hv1, hv2⟩ := q2z.1 hv
    have := hi.field (List.mem_of_getElem? hc) hv1 hv2
    refine ⟨hv2, ?_⟩
    by_cases e : ix v = ix w
    · rw [e, Live.self hc]; show 0 < (q01 h w).count - 1; omega
    · rw [Live.ne e]; exact this.2
theorem qi1 {im : Image} {s : St} (h : StateOk im s) (fs : List Frame) {f : Frame} {x : Instr} {own : List Int} (hM : MayRun im s f x own) :
    ((perform im s fs f x own).status = s.status \/ (perform im s fs f x own).status = 0) /\ (x.op ≠ 6 -> x.op ≠ 10 -> ∀ b, Live (perform im s fs f x own).heap b -> Live s.heap b) := by
  unfold perform
  simp only []
  by_cases e0 : x.op = 0
  · rw [if_pos e0]; exact ⟨Or.inl rfl, fun _ _ b hl => hl⟩
  rw [if_neg e0]
  by_cases e1 : x.op = 1 \/ x.op = 2 \/ x.op = 3 \/ x.op = 4
  · rw [if_pos e1]; exact ⟨Or.inl rfl, fun _ _ b hl => hl⟩
  rw [if_neg e1]
  by_cases e5 : x.op = 5
  · rw [if_pos e5]; exact ⟨Or.inl rfl, fun _ _ b hl => hl⟩
  rw [if_neg e5]
  by_cases e6 : x.op = 6
  · rw [if_pos e6]
    split
    · exact ⟨Or.inl rfl, fun h6 => absurd e6 h6⟩
    · exact ⟨Or.inl rfl, fun h6 => absurd e6 h6⟩
  rw [if_neg e6]
  by_cases e10 : x.op = 10
  · rw [if_pos e10]; exact ⟨Or.inl rfl, fun _ h10 => absurd e10 h10⟩
  rw [if_neg e10]
  by_cases e14 : x.op = 14
  · rw [if_pos e14]; exact ⟨Or.inl rfl, fun _ _ b hl => (Live.bump (hM.dup e14).1 b).1 hl⟩
  rw [if_neg e14]
  by_cases e15 : x.op = 15
  · rw [if_pos e15]; exact ⟨Or.inl rfl, fun _ _ b hl => Live.dropS _ _ _ (Nat.le_refl _) b (Live.trim hl)⟩
  rw [if_neg e15]
  by_cases e16 : x.op = 16 \/ x.op = 17
  · rw [if_pos e16]
    split
    · exact ⟨Or.inl rfl, fun _ _ b hl => Live.set_live (hM.open' e16).1 _ hl⟩
    · exact ⟨Or.inl rfl, fun _ _ b hl => Live.apart h.heap (hM.open' e16).1 hl⟩
  rw [if_neg e16]
  by_cases e18 : x.op = 18
  · rw [if_pos e18]; exact ⟨Or.inl rfl, fun _ _ b hl => hl⟩
  rw [if_neg e18]
  by_cases e19 : x.op = 19
  · rw [if_pos e19]; exact ⟨Or.inl rfl, fun _ _ b hl => hl⟩
  rw [if_neg e19]
  by_cases e20 : x.op = 20
  · rw [if_pos e20]; exact ⟨Or.inl rfl, fun _ _ b hl => hl⟩
  rw [if_neg e20]
  by_cases e21 : x.op = 21
  · rw [if_pos e21]; exact ⟨Or.inl rfl, fun _ _ b hl => hl⟩
  rw [if_neg e21]
  by_cases e22 : x.op = 22
  · rw [if_pos e22]; exact ⟨Or.inl rfl, fun _ _ b hl => hl⟩
  rw [if_neg e22]
  by_cases e9 : x.op = 9
  · rw [if_pos e9]; exact ⟨Or.inl rfl, fun _ _ b hl => hl⟩
  rw [if_neg e9]
  by_cases e24 : x.op = 24
  · rw [if_pos e24]; exact ⟨Or.inl rfl, fun _ _ b hl => hl⟩
  rw [if_neg e24]
  by_cases e11 : x.op = 11
  · rw [if_pos e11]; exact ⟨Or.inl rfl, fun _ _ b hl => Live.apart h.heap (hM.apply e11).1 hl⟩
  rw [if_neg e11]
  split
  · exact ⟨Or.inr rfl, fun _ _ b hl => hl⟩
  · exact ⟨Or.inl rfl, fun _ _ b hl => hl⟩
theorem qs3 {im : Image} {s : St} (h : StateOk im s) (hr : s.status = 3) : (∃ k, (k = 1 \/ k = 2) /\ step im s = { s with status := k }) \/
    ∃ fs f own, s.frames = fs ++ [f] /\ MayRun im s f (curX im s) own /\ step im s = perform im s fs f (curX im s) own := by
  obtain ⟨fs, f, hf⟩ := h.split hr
  have e1 : s.frames.getLast? = some f := by rw [hf]; simp
  have e2 : s.frames.dropLast = fs := by rw [hf]; simp
  have ex : curX im s = q0r im f := by unfold curX; rw [e1]
  unfold step
  rw [if_neg (by simpa using hr), e1, e2, ex]
  simp only []
  split
  · exact Or.inl ⟨1, Or.inl rfl, rfl⟩
  · split
    · rename_i hm; exact Or.inr ⟨fs, f, _, hf, hm, rfl⟩
    · exact Or.inl ⟨2, Or.inr rfl, rfl⟩
structure Seen (c : Stat) (s : St) : Prop where
  peak : liveN s.heap <= c.peak
  depth : (s.frames.length : Int) <= c.depth
  shared : topN c.shared s.heap = c.shared
theorem qp0 {a b : Int} (h : b <= a) : mx a b = a := by unfold mx; rw [if_neg (by omega)]
theorem mx_le {a b : Int} : b <= mx a b := by unfold mx; split <;> omega
theorem qqj (c : Stat) (s : St) : Seen (see c s) s := ⟨mx_le, mx_le, qt2 _ _⟩
theorem qth {c : Stat} {s : St} (h : Seen c s) : see c s = c := by
  unfold see; rw [qp0 h.peak, qp0 h.depth, h.shared]
def int01 (b : Bool) : Int := if b = true then 1 else 0
theorem qsu {im : Image} {s : St} {c : Stat} (h : StateOk im s) (hr : s.status = 3) (hc : Seen c s) : note c (curX im s).op (int01 (again im s)) (step im s) = tick im s c := by
  rcases qs3 h hr with ⟨k, hk, e⟩ | ⟨fs, f, own, hf, hM, e⟩
  · unfold note tick
    simp only []
    rw [if_pos (by rw [e]; exact hk), if_neg (by rw [e]; simp only []; omega)]
    rw [qth ⟨by rw [e]; exact hc.peak, by rw [e]; exact hc.depth, by rw [e]; exact hc.shared⟩]
  · have hst : (step im s).status = 3 \/ (step im s).status = 0 := by rw [e]; have := (qi1 h fs hM).1; rw [hr] at this; exact this
    have ha : again im s = true -> (curX im s).op = 6 := fun ha => by
      have e1 : s.frames.getLast? = some f := by rw [hf]; simp
      unfold again at ha
      rw [e1] at ha
      simp only [decide_eq_true_eq] at ha
      unfold curX; rw [e1]; exact ha.1
    have hlv : (curX im s).op ≠ 6 -> (curX im s).op ≠ 10 -> liveN (step im s).heap <= c.peak := fun h6 h10 => by
      refine Int.le_trans (qmf _ _ fun b hl => ?_) hc.peak
      rw [e] at hl; exact (qi1 h fs hM).2 h6 h10 b hl
    generalize hS : step im s = S at *
    unfold note tick
    simp only []
    rw [hS, if_neg (by omega), if_pos hst]
    cases hag : again im s
    · simp only [int01]
      unfold tally see
      simp only [Bool.false_eq_true, if_false]
      by_cases h6 : (curX im s).op = 6 \/ (curX im s).op = 10
      · simp only [if_pos h6, Int.sub_zero, Int.add_zero]
      · simp only [if_neg h6]
        have hle := qp0 (hlv (fun e6 => h6 (Or.inl e6)) (fun e6 => h6 (Or.inr e6)))
        by_cases h14 : (curX im s).op = 14
        · simp only [if_pos h14, hle]
        · simp only [if_neg h14]
          by_cases h15 : (curX im s).op = 15
          · simp only [if_pos h15, hle]
          · simp only [if_neg h15, hle]
    · have h6 := ha hag
      simp only [int01]
      unfold tally see
      simp only [h6, true_or, if_true]
      congr 1
      omega
theorem qt0 (im : Image) (s : St) (c : Stat) : Seen (tick im s c) (step im s) := qqj _ _
theorem qrs (im : Image) (s0 : St) : ∀ k, Seen (q1r im s0 k) (steps im k s0)
  | 0 => qqj _ _
  | k + 1 => by rw [q6k]; exact qt0 _ _ _
structure StSm (n : Nat) (c : Stat) : Prop where
  steps : 0 <= c.steps /\ c.steps <= n
  allocs : 0 <= c.allocs /\ c.allocs <= n
  reuses : 0 <= c.reuses /\ c.reuses <= n
  dups : 0 <= c.dups /\ c.dups <= n
  drops : 0 <= c.drops /\ c.drops <= n
theorem see_sm {n : Nat} {c : Stat} (h : StSm n c) (s : St) : StSm n (see c s) := ⟨h.steps, h.allocs, h.reuses, h.dups, h.drops⟩
theorem qtv {n : Nat} {c : Stat} (h : StSm n c) (im : Image) (s : St) : StSm (n + 1) (tick im s c) := by
  unfold tick
  refine see_sm ?_ _
  obtain ⟨h1, h2, h3, h4, h5⟩ := h
  split
  · unfold tally
    repeat' split
    all_goals exact ⟨by simp only []; omega, by simp only []; omega, by simp only []; omega, by simp only []; omega, by simp only []; omega⟩
  · exact ⟨by simp only []; omega, by simp only []; omega, by simp only []; omega, by simp only []; omega, by simp only []; omega⟩
theorem qja (im : Image) (s0 : St) : ∀ k, StSm k (q1r im s0 k)
  | 0 => see_sm ⟨by simp, by simp, by simp, by simp, by simp⟩ _
  | k + 1 => qtv (qja im s0 k) _ _
end
section
structure HRow (m : Mem) (hp : Sl) (h : List Cell) : Prop where
  len : hp.len = h.length
  row : ∀ (k : Nat) (c : Cell), h[k]? = some c -> ∃ f, gcell m hp.blk (hp.off + k * 3) = some (vi c.count) /\ gcell m hp.blk (hp.off + k * 3 + 1) = some (vi c.tag) /\ gcell m hp.blk (hp.off + k * 3 + 2) = some (Sl.v f)
theorem HRow.keep {m m' : Mem} {hp : Sl} {h : List Cell} (H : HRow m hp h) (hb : h ≠ [] -> m'[hp.blk]? = m[hp.blk]?) : HRow m' hp h :=
  ⟨H.len, fun k c hk => by
    obtain ⟨f, h1, h2, h3⟩ := H.row k c hk
    have e := hb (fun e => by subst e; simp at hk)
    exact ⟨f, by rw [q1l e]; exact h1, by rw [q1l e]; exact h2, by rw [q1l e]; exact h3⟩⟩
theorem HRow.lt {m : Mem} {hp : Sl} {h : List Cell} (H : HRow m hp h) (hne : h ≠ []) : hp.blk < m.size := by
  cases h with
  | nil => exact absurd rfl hne
  | cons c r =>
    obtain ⟨f, h1, _⟩ := H.row 0 c rfl
    exact q63 h1
theorem HRow.ext {m m' : Mem} {hp : Sl} {h : List Cell} (H : HRow m hp h) (hx : Ext m m') : HRow m' hp h := H.keep fun hne => hx.same _ (H.lt hne)
theorem q0z.hrow {ro : Nat -> Nat} {m : Mem} {hp : Sl} {h : List Cell} (H : q0z ro m hp h) : HRow m hp h :=
  ⟨H.len, fun _ _ hk => let ⟨f, h1, h2, h3, _⟩ := H.get hk; ⟨f, h1, h2, h3⟩⟩
theorem qdm : ∀ (l r : List Cell), liveN (l ++ r) = liveN l + liveN r
  | [], r => by simp [liveN]
  | c :: l, r => by simp only [List.cons_append, liveN, qdm l r]; omega
theorem qf5 : ∀ (l r : List Cell) (n : Int), topN n (l ++ r) = topN (topN n l) r
  | [], r, n => rfl
  | c :: l, r, n => by simp only [List.cons_append, topN, qf5 l r]
theorem qkn {m : Mem} {hp : Sl} {h : List Cell} (H : HRow m hp h) (hsm : h.length <= 1000000000) : Gets Tryz.prog q7m [Sl.v hp] m (vi (liveN h)) := by
  apply qhk
  unfold qbp
  simp -zeta only [q0c, q0d]
  have hl := H.len
  refine forSI (σ := Int) (n := h.length) (by omega) (fun k n m' => n = liveN (h.take k) /\ Ext m m') ⟨by simp [liveN], Ext.refl _⟩ ?_
  rintro k n m1 I μ hk ⟨rfl, hx⟩ next
  have hnn := qhd (h.take k)
  have hle := qj2 (h.take k)
  have htl : (h.take k).length <= h.length := by simp; omega
  refine ⟨fun h1 => ?_, fun h1 => ?_⟩
  · simp only [decide_eq_true_eq] at h1
    obtain ⟨c, hc⟩ := q02 (l := h) (k := k) (by omega)
    obtain ⟨f, g1, g2, g3⟩ := (H.ext hx).row k c hc
    refine ⟨by omega, by omega, c.count, by simpa using g1, c.tag, by simpa using g2, f, by simpa using g3, ?_⟩
    intro m2 m3
    have hx3 : Ext m m3 := (hx.pushed _).scells hx.size _ _
    clear_value m3
    have e : liveN (h.take (k + 1)) = liveN (h.take k) + (if 0 < c.count then 1 else 0) := by rw [q0a hc, qdm]; simp [liveN]
    refine ⟨fun h2 => ?_, fun h2 => ?_⟩
    · simp at h2
      rw [q08 (by omega) (by omega)]
      exact next (by omega) _ _ ⟨by rw [e, if_pos h2], hx3⟩
    · simp at h2
      exact next (by omega) _ _ ⟨by rw [e, if_neg (by omega)]; omega, hx3⟩
  · simp only [decide_eq_false_iff_not] at h1
    rw [q0k (by omega)]
    exact ⟨rfl, hx⟩
structure OnlyAt (sb : Nat) (m m' : Mem) : Prop where
  size : m.size <= m'.size
  same : ∀ b, b < m.size -> b ≠ sb -> m'[b]? = m[b]?
theorem OnlyAt.refl (sb : Nat) (m : Mem) : OnlyAt sb m m := ⟨Nat.le_refl _, fun _ _ _ => rfl⟩
theorem OnlyAt.ext {sb : Nat} {a m m' : Mem} (h : OnlyAt sb a m) (hx : Ext m m') : OnlyAt sb a m' := ⟨Nat.le_trans h.size hx.size, fun b hb hn => by rw [hx.same b (Nat.lt_of_lt_of_le hb h.size)]; exact h.same b hb hn⟩
theorem OnlyAt.trans {sb : Nat} {a m m' : Mem} (h : OnlyAt sb a m) (hx : OnlyAt sb m m') : OnlyAt sb a m' := ⟨Nat.le_trans h.size hx.size, fun b hb hn => by rw [hx.same b (Nat.lt_of_lt_of_le hb h.size) hn]; exact h.same b hb hn⟩
theorem OnlyAt.scells {sb : Nat} {a m : Mem} (h : OnlyAt sb a m) (o : Nat) (l : List Ce) : OnlyAt sb a (scells m sb o l) := ⟨by rw [q04]; exact h.size, fun b hb hn => by rw [q0s l m sb o hn]; exact h.same b hb hn⟩
theorem OnlyAt.sam {sb : Nat} {m m' : Mem} (h : OnlyAt sb m m') {l : List Nat} (hl : ∀ b ∈ l, b < m.size /\ b ≠ sb) : Sam l m m' := fun b hb => h.same b (hl b hb).1 (hl b hb).2
def NB (c : Stat) : List Ce := [.i c.steps, .i c.allocs, .i c.reuses, .i c.dups, .i c.drops, .i c.peak, .i c.depth, .i c.shared]
def StatR (e sb : Nat) (m : Mem) (c : Stat) (v : Value) (m' : Mem) : Prop := v = .tuple #[] /\ Blk m' sb e (NB c) /\ OnlyAt sb m m'
theorem qlm {m : Mem} {e sb : Nat} {c : Stat} (B : Blk m sb e (NB c)) {hp fr out : Sl} {s : St} (H : HRow m hp s.heap) (hne : s.heap ≠ [] -> hp.blk ≠ sb) (hsm : s.heap.length <= 1000000000) (hfr : fr.len = s.frames.length) (q0 q1 q2 q3 : Int) :
    q00 Tryz.prog q1n [vp sb 0, .agg #[vi q0, vi q1, vi q2, vi q3, Sl.v out, Sl.v hp, Sl.v fr]] m (StatR e sb m (see c s)) := by
  apply qgm (sb, 0)
  unfold qbu
  simp -zeta only [q0c, q0d]
  intro m1
  have x1 : Ext m m1 := (Ext.refl m).pushed _
  have s1 : m1.size = m.size + 1 := by simp [m1]
  clear_value m1
  have hlt := B.lt
  have B1 := B.ext x1
  refine ⟨c.peak, B1.get 5, (qkn (H.ext x1) hsm).mono ?_⟩
  rintro _ m2 ⟨rfl, x2⟩
  have s2 := x2.size
  have B2 := B1.ext x2
  refine ⟨x2.sam (by simp; omega), liveN s.heap, rfl, x2.keepG (B1.get 5), B2.wrOk (by simp [NB]), ?_⟩
  intro m3
  have o3 : OnlyAt sb m m3 := ((OnlyAt.refl sb m).ext (x1.trans x2)).scells _ _
  have t3 : OnlyAt sb m2 m3 := (OnlyAt.refl sb m2).scells _ _
  have B3 : Blk m3 sb e (NB { c with peak := mx c.peak (liveN s.heap) }) := B2.scells (m := m) (o := 5) (r := [.i (mx c.peak (liveN s.heap))])
  have s3 : m3.size = m2.size := q04 _ _ _ _
  clear_value m3
  refine ⟨t3.sam (by simp; omega), c.depth, B3.get 6, B3.wrOk (by simp [NB]), ?_⟩
  rw [hfr]
  intro m4
  have o4 : OnlyAt sb m m4 := o3.scells _ _
  have t4 : OnlyAt sb m3 m4 := (OnlyAt.refl sb m3).scells _ _
  have B4 : Blk m4 sb e (NB { c with peak := mx c.peak (liveN s.heap), depth := mx c.depth s.frames.length }) := B3.scells (m := m) (o := 6) (r := [.i (mx c.depth s.frames.length)])
  have s4 : m4.size = m3.size := q04 _ _ _ _
  clear_value m4
  refine ⟨t4.sam (by simp; omega), ?_⟩
  have hl := H.len
  have H4 : HRow m4 hp s.heap := H.keep fun h0 => o4.same _ (H.lt h0) (hne h0)
  refine forI (n := s.heap.length) (by omega) (fun k m' => OnlyAt sb m m' /\ m.size < m'.size /\ Blk m' sb e (NB { c with peak := mx c.peak (liveN s.heap), depth := mx c.depth s.frames.length, shared := topN c.shared (s.heap.take k) }) /\ HRow m' hp s.heap) ⟨o4, by omega, by simpa [topN] using B4, H4⟩ ?_
  rintro k m5 I μ hk ⟨o5, z5, B5, H5⟩ next
  refine ⟨fun h1 => ?_, fun h1 => ?_⟩
  · simp only [decide_eq_true_eq] at h1
    obtain ⟨d, hd⟩ := q02 (l := s.heap) (k := k) (by omega)
    obtain ⟨f, g1, g2, g3⟩ := H5.row k d hd
    refine ⟨by omega, by omega, d.count, by simpa using g1, d.tag, by simpa using g2, f, by simpa using g3, ?_⟩
    intro m6 m7
    have x7 : Ext m5 m7 := ((Ext.refl m5).pushed _).scells (Nat.le_refl _) _ _
    have s7 : m7.size = m5.size + 1 := by simp [m7, m6, q04]
    clear_value m7
    have B7 := B5.ext x7
    have hb5 := B5.lt
    have e8 : topN c.shared (s.heap.take (k + 1)) = mx (topN c.shared (s.heap.take k)) d.count := by rw [q0a hd, qf5]; rfl
    refine ⟨_, B7.get 7, B7.wrOk (by simp [NB]), ?_⟩
    intro m8
    have o8 : OnlyAt sb m m8 := (o5.ext x7).scells _ _
    have t8 : OnlyAt sb m7 m8 := (OnlyAt.refl sb m7).scells _ _
    have B8 : Blk m8 sb e (NB { c with peak := mx c.peak (liveN s.heap), depth := mx c.depth s.frames.length, shared := topN c.shared (s.heap.take (k + 1)) }) := by rw [e8]; exact B7.scells (m := m) (o := 7) (r := [.i (mx (topN c.shared (s.heap.take k)) d.count)])
    have s8 : m8.size = m7.size := q04 _ _ _ _
    clear_value m8
    refine ⟨t8.sam (by simp; omega), next (by omega) m8 ⟨o8, by omega, B8, H.keep fun h0 => o8.same _ (H.lt h0) (hne h0)⟩⟩
  · simp only [decide_eq_false_iff_not] at h1
    rw [q0k (by omega)] at B5
    exact ⟨rfl, B5, o5⟩
theorem qq1 {m : Mem} {e sb : Nat} {c : Stat} (B : Blk m sb e (NB c)) (op : Int) (a : Bool) (n : Nat) (hn : n <= 1000000) (hs : StSm n c) : q00 Tryz.prog q38 [vp sb 0, vi op, vb a] m (StatR e sb m (tally c op a)) := by
  apply qew (sb, 0)
  unfold q9f
  obtain ⟨h1, h2, h3, h4, h5⟩ := hs
  have o1 : ∀ {o : Nat} {l : List Ce}, OnlyAt sb m (scells m sb o l) := (OnlyAt.refl sb m).scells _ _
  unfold tally
  refine ⟨fun ha => ⟨_, B.get 2, B.wrOk (by simp [NB]), ?_⟩, fun ha => ?_⟩
  · rw [if_pos ha, q08 (by omega) (by omega)]
    exact ⟨rfl, B.scells (m := m) (o := 2) (r := [.i (c.reuses + 1)]), o1⟩
  rw [if_neg (by simp [ha])]
  have al : (let m1 : Mem := scells m (sb, 0).1 ((sb, 0).2 + 1) [.i (w64 (c.allocs + 1))]; StatR e sb m { c with allocs := c.allocs + 1 } (.tuple #[]) m1) := by
    rw [q08 (by omega) (by omega)]
    exact ⟨rfl, B.scells (m := m) (o := 1) (r := [.i (c.allocs + 1)]), o1⟩
  refine ⟨fun h6 => ⟨_, B.get 1, B.wrOk (by simp [NB]), ?_⟩, fun h6 => ⟨fun h10 => ⟨_, B.get 1, B.wrOk (by simp [NB]), ?_⟩, fun h10 => ?_⟩⟩
  · rw [if_pos (Or.inl (by simpa using h6))]; exact al
  · rw [if_pos (Or.inr (by simpa using h10))]; exact al
  rw [if_neg (by simp at h6 h10; omega)]
  refine ⟨fun h14 => ⟨_, B.get 3, B.wrOk (by simp [NB]), ?_⟩, fun h14 => ⟨fun h15 => ⟨_, B.get 4, B.wrOk (by simp [NB]), ?_⟩, fun h15 => ?_⟩⟩
  · rw [if_pos (by simpa using h14), q08 (by omega) (by omega)]
    exact ⟨rfl, B.scells (m := m) (o := 3) (r := [.i (c.dups + 1)]), o1⟩
  · rw [if_neg (by simpa using h14), if_pos (by simpa using h15), q08 (by omega) (by omega)]
    exact ⟨rfl, B.scells (m := m) (o := 4) (r := [.i (c.drops + 1)]), o1⟩
  · rw [if_neg (by simpa using h14), if_neg (by simpa using h15)]
    exact ⟨rfl, B, OnlyAt.refl _ _⟩
end
section
section
variable {m0 : Mem} {ro ro' : Nat -> Nat} {m m' : Mem} {mb e sb : Nat} {bx : List Ce} {out hp fr : Sl} {lo : List Int} {lh : List Cell} {lf : List Frame}
theorem OnlyAt.chg (h : OnlyAt sb m m') (hr : ro sb = 9) (hn : ∀ b, m.size <= b -> ro b = 0) : Chg (fun k => k = 9) ro m ro m' :=
  ⟨h.size, fun _ _ => rfl, fun b hb => hn b (Nat.le_trans h.size hb), fun b hb hp => h.same b hb fun e => hp (e ▸ hr)⟩
theorem Lay.only9 (L : Lay m0 ro m mb e bx out hp fr lo lh lf) (hr : ro sb = 9) (h : OnlyAt sb m m') : Lay m0 ro m' mb e bx out hp fr lo lh lf := by
  have hc := h.chg hr L.new
  have hbs := L.base.size
  refine ⟨⟨Nat.le_trans hbs h.size, fun b hb => ?_⟩, L.base0, hc.new, L.box.congr (h.same _ L.box.lt fun e => ?_), L.rob, L.out.chg hc (by decide), L.heap.chg hc (by decide) (by decide), L.frames.chg hc (fun k hk e => by omega)⟩
  · rw [h.same b (by omega) (fun e => by have := L.base0 b hb; rw [e, hr] at this; omega)]; exact L.base.same b hb
  · have := L.rob; rw [e, hr] at this; omega
theorem Lay.mark (L : Lay m0 ro m mb e bx out hp fr lo [] lf) {m1 : Mem} (hx : Ext m1 m0) (h0 : ro sb = 0) (h1 : m1.size <= sb) (h2 : sb < m.size) : Lay m1 (upd ro sb 9) m mb e bx out hp fr lo [] lf := by
  have up : ∀ {k : Nat} {s : Sl} {e sz : Nat} {l : List Ce}, Arr ro m e sz k s l -> k ≠ 0 -> Arr (upd ro sb 9) m e sz k s l := fun a hk =>
    a.keep (fun _ => rfl) fun hc => q12 fun e => hk (by rw [← (a.blk hc).2, e, h0])
  have hs := hx.size
  refine ⟨hx.trans L.base, fun b hb => ?_, fun b hb => ?_, L.box, ?_, up L.out (by decide), ?_, ?_⟩
  · rw [q12 (by omega)]; exact L.base0 b (by omega)
  · rw [q12 (by omega)]; exact L.new b hb
  · rw [q12 (fun e => by have := L.rob; rw [e, h0] at this; omega)]; exact L.rob
  · obtain ⟨css, h3, h4⟩ := L.heap
    have : css = [] := List.length_eq_zero_iff.1 (by rw [h4.len]; rfl)
    subst this
    exact ⟨[], up h3 (by decide), RowsOf.nil _ _⟩
  · obtain ⟨css, h⟩ := L.frames
    refine ⟨css, up h.arr (by decide), h.len, h.size, fun i cs f h3 h4 => ?_⟩
    obtain ⟨r, o, g, q1, q2, q3, q4⟩ := h.each i cs f h3 h4
    exact ⟨r, o, g, q1, up q2 (by omega), up q3 (by omega), up q4 (by omega)⟩
end
structure CurF (m : Mem) (p fr : Sl) (fs : List Frame) (f : Frame) (x : Instr) (r o h pc a j : Sl) : Prop where
  frl : fr.len = fs.length + 1
  sm : fs.length <= 1000
  g0 : gcell m fr.blk (fr.off + fs.length * 6) = some (vi f.proc)
  g1 : gcell m fr.blk (fr.off + fs.length * 6 + 1) = some (vi f.pc)
  g2 : gcell m fr.blk (fr.off + fs.length * 6 + 2) = some (vi f.dst)
  g3 : gcell m fr.blk (fr.off + fs.length * 6 + 3) = some (Sl.v r)
  g4 : gcell m fr.blk (fr.off + fs.length * 6 + 4) = some (Sl.v o)
  g5 : gcell m fr.blk (fr.off + fs.length * 6 + 5) = some (Sl.v h)
  proc : 0 <= f.proc /\ f.proc < p.len
  code : gcell m p.blk (p.off + f.proc.toNat * 5 + 4) = some (Sl.v pc)
  pcb : 0 <= f.pc /\ f.pc < pc.len
  i0 : gcell m pc.blk (pc.off + f.pc.toNat * 6) = some (vi x.op)
  i1 : gcell m pc.blk (pc.off + f.pc.toNat * 6 + 1) = some (vi x.dst)
  i2 : gcell m pc.blk (pc.off + f.pc.toNat * 6 + 2) = some (vi x.num)
  i3 : gcell m pc.blk (pc.off + f.pc.toNat * 6 + 3) = some (vi x.into)
  i4 : gcell m pc.blk (pc.off + f.pc.toNat * 6 + 4) = some (Sl.v a)
  i5 : gcell m pc.blk (pc.off + f.pc.toNat * 6 + 5) = some (Sl.v j)
  held : q03 m h f.held
  into : x.op = 6 -> 0 <= x.into /\ x.into <= f.held.length
  small : f.held.length <= 2000
theorem CurF.ext {m m' : Mem} {p fr : Sl} {fs : List Frame} {f : Frame} {x : Instr} {r o h pc a j : Sl} (c : CurF m p fr fs f x r o h pc a j) (hx : Ext m m') : CurF m' p fr fs f x r o h pc a j :=
  ⟨c.frl, c.sm, hx.gcell c.g0, hx.gcell c.g1, hx.gcell c.g2, hx.gcell c.g3, hx.gcell c.g4, hx.gcell c.g5, c.proc, hx.gcell c.code, c.pcb, hx.gcell c.i0, hx.gcell c.i1, hx.gcell c.i2, hx.gcell c.i3, hx.gcell c.i4, hx.gcell c.i5, c.held.ext hx, c.into, c.small⟩
theorem Lay.cur {m0 : Mem} {ro : Nat -> Nat} {m : Mem} {mb e : Nat} {bx : List Ce} {d p out hp fr : Sl} {im : Image} {s : St} (L : Lay m0 ro m mb e bx out hp fr s.out s.heap s.frames) (him : ImageR m0 d p im) (hok : StateOk im s) (hr : s.status = 3) (hfit : ∀ g ∈ s.frames, ∀ w ∈ g.regs, w <= 9223372036854775807) :
    ∃ fs f r o h pc a j, s.frames = fs ++ [f] /\ CurF m p fr fs f (curX im s) r o h pc a j /\ again im s = decide ((curX im s).op = 6 /\ (curX im s).into ≠ 0 /\ at' f.held ((curX im s).into - 1) ≠ 0) := by
  obtain ⟨fs, f, hf⟩ := hok.split hr
  have e1 : s.frames.getLast? = some f := by rw [hf]; simp
  have ex : curX im s = q0r im f := by unfold curX; rw [e1]
  have ea : again im s = decide ((curX im s).op = 6 /\ (curX im s).into ≠ 0 /\ at' f.held ((curX im s).into - 1) ≠ 0) := by rw [ex]; unfold again; rw [e1]
  have C : Cur im s fs f (curX im s) := ⟨hok, hr, hf, ex.symm, hfit⟩
  have L' : Lay m0 ro m mb e bx out hp fr s.out s.heap (fs ++ [f]) := by rw [← hf]; exact L
  obtain ⟨r, o, h, css, T⟩ := L'.frames.top
  obtain ⟨g0, g1, g2, g3, g4, g5⟩ := T.row
  obtain ⟨q, hq, hqe, hP, hcode, hI⟩ := C.I
  obtain ⟨pa, pl, pc, hpa, hpl, hpc, k0, k1, k2, k3, k4⟩ := him.procs.at' hq
  obtain ⟨a, j, ha, hj, i0, i1, i2, i3, i4, i5⟩ := hpc.at' hcode
  have hprl := him.procs.len
  have hpcl := hpc.len
  have hF := C.F
  have hproc := hF.proc
  have hfpc := hF.pc
  rw [hqe] at hfpc
  have hb := L.base
  have hdep := hok.depth
  have hcalls := hok.calls
  have hmost := hok.most
  rw [hf] at hdep
  have hlens := C.lens
  refine ⟨fs, f, r, o, h, pc, a, j, hf, ⟨T.frLen, by simp at hdep; omega, g0, g1, g2, g3, g4, g5, by omega, hb.gcell k4, by omega, hb.gcell i0, hb.gcell i1, hb.gcell i2, hb.gcell i3, hb.gcell i4, hb.gcell i5, T.held.ints (by omega), fun h6 => ?_, by omega⟩, ea⟩
  have := C.args4.2.2.2.2.1 h6
  exact ⟨this.1, this.2.1⟩
theorem qkv {m : Mem} {hp : Sl} {h : List Cell} (H : HRow m hp h) (hsm : h.length <= 1000000000) : Gets Tryz.prog q7l [Sl.v hp] m (vi (liveN h)) := by
  apply qhh
  unfold qbt
  have hl := H.len
  refine forSI (σ := Int) (n := h.length) (by omega) (fun k n m' => n = liveN (h.take k) /\ m' = m) ⟨by simp [liveN], rfl⟩ ?_
  rintro k n m1 I μ hk ⟨rfl, rfl⟩ next
  have hnn := qhd (h.take k)
  have hle := qj2 (h.take k)
  have htl : (h.take k).length <= h.length := by simp; omega
  refine ⟨fun h1 => ?_, fun h1 => ?_⟩
  · simp only [decide_eq_true_eq] at h1
    obtain ⟨c, hc⟩ := q02 (l := h) (k := k) (by omega)
    obtain ⟨f, g1, g2, g3⟩ := H.row k c hc
    have e : liveN (h.take (k + 1)) = liveN (h.take k) + (if 0 < c.count then 1 else 0) := by rw [q0a hc, qdm]; simp [liveN]
    refine ⟨by omega, by omega, c.count, by simpa using g1, fun h2 => ?_, fun h2 => ?_⟩
    · simp at h2
      rw [q08 (by omega) (by omega)]
      exact next (by omega) _ _ ⟨by rw [e, if_pos h2], rfl⟩
    · simp at h2
      exact next (by omega) _ _ ⟨by rw [e, if_neg (by omega)]; omega, rfl⟩
  · simp only [decide_eq_false_iff_not] at h1
    rw [q0k (by omega)]
    exact ⟨rfl, Ext.refl _⟩
theorem qfr {m : Mem} {hp : Sl} {h : List Cell} (H : HRow m hp h) (hsm : h.length <= 1000000000) (least : Int) : Gets Tryz.prog q1u [Sl.v hp, vi least] m (vi (topN least h)) := by
  apply qdf
  unfold q89
  have hl := H.len
  refine forSI (σ := Int) (n := h.length) (by omega) (fun k n m' => n = topN least (h.take k) /\ m' = m) ⟨by simp [topN], rfl⟩ ?_
  rintro k n m1 I μ hk ⟨rfl, rfl⟩ next
  refine ⟨fun h1 => ?_, fun h1 => ?_⟩
  · simp only [decide_eq_true_eq] at h1
    obtain ⟨c, hc⟩ := q02 (l := h) (k := k) (by omega)
    obtain ⟨f, g1, g2, g3⟩ := H.row k c hc
    have e : topN least (h.take (k + 1)) = mx (topN least (h.take k)) c.count := by rw [q0a hc, qf5]; rfl
    exact ⟨by omega, by omega, c.count, by simpa using g1, next (by omega) _ _ ⟨by rw [e]; rfl, rfl⟩⟩
  · simp only [decide_eq_false_iff_not] at h1
    rw [q0k (by omega)]
    exact ⟨rfl, Ext.refl _⟩
theorem qr3 {m : Mem} {mb e : Nat} {bx : List Ce} {cb : Nat} {p fr : Sl} {fs : List Frame} {f : Frame} {x : Instr} {r o h pc a j : Sl} (B : Blk m mb e bx) (b1 : bx[1]? = some (.s p)) (b8 : bx[8]? = some (.s fr)) (F : CurF m p fr fs f x r o h pc a j) :
    q00 Tryz.prog q50 [vp cb 0, vp mb 0] m fun v m' => v = .tuple #[vi x.op, vi (int01 (decide (x.op = 6 /\ x.into ≠ 0 /\ at' f.held (x.into - 1) ≠ 0)))] /\ Ext m m' := by
  apply qcy (cb, 0) (mb, 0)
  unfold q85
  simp -zeta only [q0c, q0d]
  have hl := F.frl
  have hs := F.sm
  have e1 : w64 ((fr.len : Int) - 1) = (fs.length : Int) := by rw [q08 (by omega) (by omega)]; omega
  have e2 : Int.toNat (fs.length : Int) = fs.length := by omega
  have g8 : gcell m mb 8 = some (Sl.v fr) := by rw [B.get 8, b8]; rfl
  have gp : gcell m mb 1 = some (Sl.v p) := by rw [B.get 1, b1]; rfl
  refine ⟨fr, g8, fr, g8, ?_⟩
  rw [e1, e2]
  refine ⟨by omega, by omega, _, F.g0, _, F.g1, _, F.g2, r, F.g3, o, F.g4, h, F.g5, ?_⟩
  intro m1
  have x1 : Ext m m1 := (Ext.refl m).pushed _
  refine ⟨x1.keepG F.g0, x1.keepG F.g1, x1.keepG F.g2, x1.keepG F.g3, x1.keepG F.g4, x1.keepG F.g5, x1.keepG g8, x1.keepG g8, ?_⟩
  intro m2
  have x2 : Ext m m2 := x1.scells (Nat.le_refl _) _ _
  have k2 : Blk m2 m.size q1g [.i f.proc, .i f.pc, .i f.dst, .s r, .s o, .s h] := Blk.scells (m := m1) (o := 0) (r := [.i f.proc, .i f.pc, .i f.dst, .s r, .s o, .s h]) (Blk.push m _ _)
  clear_value m2
  have F2 := F.ext x2
  refine ⟨p, x2.gcell gp, F.proc.1, F.proc.2, pc, F2.code, F.pcb.1, F.pcb.2, _, F2.i0, _, F2.i1, _, F2.i2, _, F2.i3, a, F2.i4, j, F2.i5, ?_⟩
  intro m3
  have x3 : Ext m2 m3 := (Ext.refl m2).pushed _
  refine ⟨x3.keepG F2.i0, x3.keepG F2.i1, x3.keepG F2.i2, x3.keepG F2.i3, x3.keepG F2.i4, x3.keepG F2.i5, x3.keepG (k2.get 1), x3.keepG F2.code, x3.keepG (k2.get 0), x3.keepG (x2.gcell gp), ?_⟩
  intro m4
  have x4 : Ext m2 m4 := x3.scells (Nat.le_refl _) _ _
  clear_value m4
  have x24 := x2.trans x4
  have F4 := F2.ext x4
  have no : ¬ (x.op = 6 /\ x.into ≠ 0 /\ at' f.held (x.into - 1) ≠ 0) -> vi (0 : Int) = vi (int01 (decide (x.op = 6 /\ x.into ≠ 0 /\ at' f.held (x.into - 1) ≠ 0))) := fun hn => by rw [decide_eq_false hn]; rfl
  refine ⟨fun h6 => ?_, fun h6 => ⟨by rw [← no (by simp at h6; omega)], x24⟩⟩
  have h6' : x.op = 6 := by simpa using h6
  obtain ⟨q1, q2⟩ := F.into h6'
  have hsm := F.small
  refine ⟨fun h7 => ?_, fun h7 => ⟨by rw [← no (by simp at h7; omega)], x24⟩⟩
  have h7' : 0 < x.into := by simpa using h7
  have hhl := F.held.len
  rw [q08 (by omega) (by omega)]
  obtain ⟨y, hy⟩ := q02 (l := f.held) (k := (x.into - 1).toNat) (by omega)
  have ey : at' f.held (x.into - 1) = y := at_of' hy
  refine ⟨by omega, by omega, y, F4.held.at' hy, fun h8 => ?_, fun h8 => ?_⟩
  · simp at h8
    rw [decide_eq_true (show x.op = 6 /\ x.into ≠ 0 /\ at' f.held (x.into - 1) ≠ 0 from ⟨h6', by omega, by rw [ey]; exact h8⟩)]
    exact ⟨rfl, x24⟩
  · simp at h8
    rw [← no (fun hh => hh.2.2 (by rw [ey]; exact h8))]
    exact ⟨rfl, x24⟩
end
section
def NoteTail (sb mb : Nat) (M : Mem) (R : Value -> Mem -> Prop) : Prop :=
  ∃ v91 : Int, gcell M sb 6 = some (vi v91) /\
  ∃ v96 : Sl, gcell M mb 8 = some (Sl.v v96) /\
  wrOk M sb 6 1 /\
  let m2 : Mem := scells M sb 6 [.i (if (v96.len : Int) > v91 then (v96.len : Int) else v91)]
  ∃ v106 : Sl, gcell m2 mb 7 = some (Sl.v v106) /\
  ∃ v110 : Int, gcell m2 sb 7 = some (vi v110) /\
  q00 Tryz.prog q1u [Sl.v v106, vi v110] m2 fun r m3 =>
  ∃ r111 : Int, r = vi r111 /\
  wrOk m3 sb 7 1 /\
  let m4 : Mem := scells m3 sb 7 [.i r111]
  R (.tuple #[]) m4
theorem qrq {m M : Mem} {e sb mb em : Nat} {c : Stat} {d p out hp fr : Sl} {s : St} (K : Blk m mb em (SB d p s out hp fr)) (hmb : mb ≠ sb) (H : HRow m hp s.heap) (hne : s.heap ≠ [] -> hp.blk ≠ sb) (hsm : s.heap.length <= 1000000000) (hfr : fr.len = s.frames.length)
    (B : Blk M sb e (NB c)) (o : OnlyAt sb m M) : NoteTail sb mb M (StatR e sb m { c with depth := mx c.depth s.frames.length, shared := topN c.shared s.heap }) := by
  have hkl := K.lt
  have K1 := K.congr (o.same mb hkl hmb)
  refine ⟨c.depth, B.get 6, fr, K1.get 8, B.wrOk (by simp [NB]), ?_⟩
  rw [hfr]
  intro m2
  have o2 : OnlyAt sb m m2 := o.scells _ _
  have B2 : Blk m2 sb e (NB { c with depth := mx c.depth s.frames.length }) := B.scells (m := m) (o := 6) (r := [.i (mx c.depth s.frames.length)])
  clear_value m2
  have K2 := K.congr (o2.same mb hkl hmb)
  refine ⟨hp, K2.get 7, c.shared, B2.get 7, (qfr (H.keep fun h0 => o2.same _ (H.lt h0) (hne h0)) hsm c.shared).mono ?_⟩
  rintro _ m3 ⟨rfl, x3⟩
  have B3 := B2.ext x3
  refine ⟨_, rfl, B3.wrOk (by simp [NB]), ?_⟩
  intro m4
  exact ⟨rfl, B3.scells (m := m) (o := 7) (r := [.i (topN c.shared s.heap)]), (o2.ext x3).scells _ _⟩
theorem qql {m : Mem} {e sb mb em : Nat} {c : Stat} {d p out hp fr : Sl} {s : St} (K : Blk m mb em (SB d p s out hp fr)) (hmb : mb ≠ sb) (H : HRow m hp s.heap) (hne : s.heap ≠ [] -> hp.blk ≠ sb) (hsm : s.heap.length <= 1000000000) (hfr : fr.len = s.frames.length)
    (B : Blk m sb e (NB c)) (op : Int) {a : Int} (ha : 0 <= a /\ a <= 1) (n : Nat) (hn : n <= 1000000) (hs : StSm n c) :
    q00 Tryz.prog q4z [vp sb 0, vp mb 0, vi op, vi a] m (StatR e sb m (note c op a s)) := by
  apply qce (sb, 0) (mb, 0)
  unfold q87
  obtain ⟨h1, h2, h3, h4, h5⟩ := hs
  have hkl := K.lt
  refine ⟨c.steps, B.get 0, B.wrOk (by simp [NB]), ?_⟩
  rw [q08 (by omega) (by omega)]
  intro m1
  have o1 : OnlyAt sb m m1 := (OnlyAt.refl sb m).scells _ _
  have B1 : Blk m1 sb e (NB { c with steps := c.steps + 1 }) := B.scells (m := m) (o := 0) (r := [.i (c.steps + 1)])
  clear_value m1
  have K1 := K.congr (o1.same mb hkl hmb)
  have tail : ∀ {M : Mem} {c2 : Stat}, Blk M sb e (NB c2) -> OnlyAt sb m M -> NoteTail sb mb M (StatR e sb m { c2 with depth := mx c2.depth s.frames.length, shared := topN c2.shared s.heap }) := fun B o => qrq K hmb H hne hsm hfr B o
  refine ⟨s.status, K1.get 2, fun q1 => ?_, fun q1 => ⟨s.status, K1.get 2, fun q2 => ?_, fun q2 => ?_⟩⟩
  · unfold note; simp only []; rw [if_pos (Or.inl (by simpa using q1))]; exact ⟨rfl, B1, o1⟩
  · unfold note; simp only []; rw [if_pos (Or.inr (by simpa using q2))]; exact ⟨rfl, B1, o1⟩
  have e0 : ¬ (s.status = 1 \/ s.status = 2) := by simp at q1 q2; omega
  refine ⟨fun q3 => ?_, fun q3 => ?_⟩
  · have e6 : op = 6 \/ op = 10 := by simpa using q3
    have en : note c op a s = { ({ c with steps := c.steps + 1, allocs := c.allocs + 1 - a, reuses := c.reuses + a, peak := mx c.peak (liveN s.heap) } : Stat) with depth := mx c.depth s.frames.length, shared := topN c.shared s.heap } := by
      unfold note; simp only []; rw [if_neg e0, if_pos e6]
    rw [en]
    refine ⟨c.allocs, B1.get 1, B1.wrOk (by simp [NB]), ?_⟩
    rw [q08 (x := c.allocs + 1) (by omega) (by omega), q08 (x := c.allocs + 1 - a) (by omega) (by omega)]
    intro m2
    have o2 : OnlyAt sb m m2 := o1.scells _ _
    have B2 : Blk m2 sb e (NB { c with steps := c.steps + 1, allocs := c.allocs + 1 - a }) := B1.scells (m := m) (o := 1) (r := [.i (c.allocs + 1 - a)])
    clear_value m2
    refine ⟨c.reuses, B2.get 2, B2.wrOk (by simp [NB]), ?_⟩
    rw [q08 (by omega) (by omega)]
    intro m3
    have o3 : OnlyAt sb m m3 := o2.scells _ _
    have B3 : Blk m3 sb e (NB { c with steps := c.steps + 1, allocs := c.allocs + 1 - a, reuses := c.reuses + a }) := B2.scells (m := m) (o := 2) (r := [.i (c.reuses + a)])
    clear_value m3
    have K3 := K.congr (o3.same mb hkl hmb)
    refine ⟨c.peak, B3.get 5, hp, K3.get 7, (qkv (H.keep fun h0 => o3.same _ (H.lt h0) (hne h0)) hsm).mono ?_⟩
    rintro _ m4 ⟨rfl, x4⟩
    have B4 := B3.ext x4
    refine ⟨_, rfl, x4.keepG (B3.get 5), B4.wrOk (by simp [NB]), ?_⟩
    intro m5
    have o5 : OnlyAt sb m m5 := (o3.ext x4).scells _ _
    have B5 : Blk m5 sb e (NB { c with steps := c.steps + 1, allocs := c.allocs + 1 - a, reuses := c.reuses + a, peak := mx c.peak (liveN s.heap) }) := B4.scells (m := m) (o := 5) (r := [.i (mx c.peak (liveN s.heap))])
    exact tail B5 o5
  · have e6 : ¬ (op = 6 \/ op = 10) := by simp at q3; omega
    refine ⟨fun q4 => ?_, fun q4 => ⟨fun q5 => ?_, fun q5 => ?_⟩⟩
    · have e14 : op = 14 := by simpa using q4
      have en : note c op a s = { ({ c with steps := c.steps + 1, dups := c.dups + 1 } : Stat) with depth := mx c.depth s.frames.length, shared := topN c.shared s.heap } := by
        unfold note; simp only []; rw [if_neg e0, if_neg e6, if_pos e14]
      rw [en]
      refine ⟨c.dups, B1.get 3, B1.wrOk (by simp [NB]), ?_⟩
      rw [q08 (by omega) (by omega)]
      exact tail (c2 := { c with steps := c.steps + 1, dups := c.dups + 1 }) (B1.scells (m := m) (o := 3) (r := [.i (c.dups + 1)])) (o1.scells _ _)
    · have e14 : ¬ op = 14 := by simpa using q4
      have e15 : op = 15 := by simpa using q5
      have en : note c op a s = { ({ c with steps := c.steps + 1, drops := c.drops + 1 } : Stat) with depth := mx c.depth s.frames.length, shared := topN c.shared s.heap } := by
        unfold note; simp only []; rw [if_neg e0, if_neg e6, if_neg e14, if_pos e15]
      rw [en]
      refine ⟨c.drops, B1.get 4, B1.wrOk (by simp [NB]), ?_⟩
      rw [q08 (by omega) (by omega)]
      exact tail (c2 := { c with steps := c.steps + 1, drops := c.drops + 1 }) (B1.scells (m := m) (o := 4) (r := [.i (c.drops + 1)])) (o1.scells _ _)
    · have e14 : ¬ op = 14 := by simpa using q4
      have e15 : ¬ op = 15 := by simpa using q5
      have en : note c op a s = { ({ c with steps := c.steps + 1 } : Stat) with depth := mx c.depth s.frames.length, shared := topN c.shared s.heap } := by
        unfold note; simp only []; rw [if_neg e0, if_neg e6, if_neg e14, if_neg e15]
      rw [en]
      exact tail B1 o1
theorem qqr (im : Image) (most : Int) : ∃ c : Stat, ∀ k, k <= 100000 -> (steps im k (start im most)).status ≠ 3 -> (∀ j, j < k -> (steps im j (start im most)).status = 3) -> c = q1r im (start im most) k := by
  by_cases h : ∃ k, k <= 100000 /\ (steps im k (start im most)).status ≠ 3 /\ (∀ j, j < k -> (steps im j (start im most)).status = 3)
  · obtain ⟨k, _, h2, h3⟩ := h
    refine ⟨q1r im (start im most) k, fun j _ hj2 hj3 => ?_⟩
    have : j = k := by
      rcases Nat.lt_trichotomy j k with h4 | h4 | h4
      · exact absurd (h3 j h4) hj2
      · exact h4
      · exact absurd (hj3 k h4) h2
    rw [this]
  · exact ⟨⟨0, 0, 0, 0, 0, 0, 0, 0⟩, fun k h1 h2 h3 => absurd ⟨k, h1, h2, h3⟩ h⟩
noncomputable def statsRun (im : Image) (most : Int) : Stat := Classical.choose (qqr im most)
theorem qlw {im : Image} {most : Int} {k : Nat} (h1 : k <= 100000) (h2 : (steps im k (start im most)).status ≠ 3) (h3 : ∀ j, j < k -> (steps im j (start im most)).status = 3) : statsRun im most = q1r im (start im most) k :=
  Classical.choose_spec (qqr im most) k h1 h2 h3
def statV (c : Stat) : Value := .agg #[vi c.steps, vi c.allocs, vi c.reuses, vi c.dups, vi c.drops, vi c.peak, vi c.depth, vi c.shared]
theorem qsk (im : Image) (most : Int) : q1r im (start im most) 0 = ⟨0, 0, 0, 0, 0, 0, 1, 0⟩ := by
  simp [q1r, see, start, mx, liveN, topN]
theorem qod {im : Image} {most : Int} (hok : ImageOk im) (hm : 0 <= most /\ most <= 40) {k : Nat} (hk : k <= 100000) (hr : (steps im k (start im most)).status = 3) : k < 100000 := by
  rcases Nat.lt_or_ge k 100000 with h2 | h2
  · exact h2
  · have h3 : k = 100000 := by omega
    have h4 := (qtn hok hm).2.2
    rw [qpp, ← h3] at h4
    exact absurd hr h4
theorem qo3 {m : Mem} {d p : Sl} {im : Image} (him : ImageR m d p im) (hok : ImageOk im) {most : Int} (hm : 0 <= most /\ most <= 40) :
    q00 Tryz.prog qa5 [.agg #[Sl.v d, Sl.v p], vi most] m fun v m' => v = statV (statsRun im most) /\ Ext m m' := by
  apply qjz
  unfold qer
  simp -zeta only [q0c, q0d]
  intro m1 m2 m3
  have hx2 : Ext m m2 := ((Ext.refl m).pushed _).pushed _
  have hx3 : Ext m m3 := hx2.pushed _
  have h23 : Ext m2 m3 := (Ext.refl m2).pushed _
  have s1 : m1.size = m.size + 1 := by simp [m1]
  have s2 : m2.size = m.size + 2 := by simp [m2, s1]
  have s3 : m3.size = m.size + 3 := by simp [m3, s2]
  have kI : Blk m3 m.size qbc [.s d, .s p] := ((Blk.push m _ _).ext (Ext.push m1 _)).ext h23
  have kC : Blk m3 m2.size qcw (NB ⟨0, 0, 0, 0, 0, 0, 1, 0⟩) := Blk.push m2 _ _
  clear_value m3
  have hl : ∀ b ∈ [m2.size, m1.size, m.size], b < m3.size := by simp; omega
  refine (qim (him.ext hx3) hok most).mono ?_
  rintro _ m4 ⟨out, hp, fr, rfl, h34, b1, b2, b3, b4, k, q1, q2, q3, q4, q5, N, q6, k4⟩
  refine ⟨h34.sam hl, _, _, _, _, _, _, _, rfl, h34.keepG (kI.get 0), h34.keepG (kI.get 1), ?_⟩
  intro m5
  have h45 : Ext m4 m5 := (Ext.refl m4).pushed _
  have kb : Blk m5 m4.size q0g ([.s d, .s p] ++ [.i 3, .i 0, .i 0, .i most, .s out, .s hp, .s fr]) := Blk.push m4 _ _
  have L5 := startLay (m := m3) ⟨q1, q2, q3, q4, q5⟩ N q6 k4 h45 (Nat.le_refl _) kb
  have s4 := h34.size
  have s5 : m5.size = m4.size + 1 := by simp [m5]
  clear_value m5
  have L5' := L5.mark (sb := m2.size) h23 (L5.base0 _ (by omega)) (Nat.le_refl _) (by omega)
  have kC5 := (kC.ext h34).ext h45
  generalize hro : upd (upd (upd (rol3 (fun _ => 0) b1 b2 b3 0) b4 4) m4.size 1) m2.size 9 = ro at L5'
  have hr9 : ro m2.size = 9 := by rw [← hro]; exact q2i _ _ _
  have hs0 := qm4 hok hm
  have him2 := him.ext hx2
  have hl2 : ∀ b ∈ [m1.size, m.size], b < m2.size := by simp; omega
  clear hro L5
  refine whileG0 (fun (k : Nat) m' => k <= 100000 /\ (∀ j, j < k -> (steps im j (start im most)).status = 3) /\ Blk m' m2.size qcw (NB (q1r im (start im most) k)) /\
      ∃ ro' out' hp' fr', Lay m2 ro' m' m4.size q0g (SB d p (steps im k (start im most)) out' hp' fr') out' hp' fr' (steps im k (start im most)).out (steps im k (start im most)).heap (steps im k (start im most)).frames /\ ro' m2.size = 9)
    (fun k => 100000 - k) 0 ⟨Nat.zero_le _, fun j hj => absurd hj (Nat.not_lt_zero _), by rw [qsk]; exact kC5, ro, out, hp, fr, L5', hr9⟩ ?_
  rintro k m6 I μ ⟨hk, hrun, B6, ro6, out6, hp6, fr6, L6, r6⟩ next
  have hok6 := qhj k hs0
  have hS6 := q9m k hs0 (qdi im most) (by omega)
  have hst6 := qja im (start im most) k
  refine ⟨_, L6.box.get 2, fun h1 => ?_, fun h1 => ?_⟩
  · have h1' : (steps im k (start im most)).status = 3 := by simpa using h1
    have hk2 := qod hok hm hk h1'
    obtain ⟨fs, f, r, o, h, pc, a, j, hf, F, ea⟩ := L6.cur him2 hok6 h1' hS6.fit
    refine (qr3 (cb := m2.size) L6.box rfl rfl F).mono ?_
    rintro _ m7 ⟨rfl, x7⟩
    obtain ⟨L7, _⟩ := L6.ext x7
    have B7 := B6.ext x7
    refine ⟨x7.sam (fun b hb => L6.base.lt (hl2 b hb)), _, _, rfl, (qqm L7 him2 hok6 hS6.fit (by have := hS6.heap; omega) (by have := hS6.out; omega)).mono ?_⟩
    rintro _ m8 ⟨ro8, out8, hp8, fr8, L8, t8⟩
    have z7 := B7.lt
    have B8 := B7.congr (t8.keep _ z7 (by rw [r6]; simp))
    have r8 : ro8 m2.size = 9 := by rw [t8.role _ z7]; exact r6
    rw [← q6k] at L8
    have hS8 := q9m (k + 1) hs0 (qdi im most) (by omega)
    rw [← ea]
    have hfl : fr8.len = (steps im (k + 1) (start im most)).frames.length := by
      obtain ⟨css, hc⟩ := L8.frames
      have := hc.arr.len
      rw [q0t hc.size, hc.len] at this
      omega
    have hhb : (steps im (k + 1) (start im most)).heap ≠ [] -> hp8.blk ≠ m2.size := fun hne e => by
      have := (L8.heap.blk (a := 0) (List.length_pos_iff.2 hne)).1
      rw [e, r8] at this; omega
    have hmb : m4.size ≠ m2.size := by omega
    refine ⟨t8.samB (fun b hb => ⟨L7.base.lt (hl2 b hb), L7.base0 b (hl2 b hb)⟩), (qql L8.box hmb L8.heap.hrow hhb (by have := hS8.heap; omega) hfl B8 (curX im (steps im k (start im most))).op (a := int01 (again im (steps im k (start im most)))) (by unfold int01; split <;> omega) k (by omega) hst6).mono ?_⟩
    rintro _ m9 ⟨rfl, B9, o9⟩
    have en : note (q1r im (start im most) k) (curX im (steps im k (start im most))).op (int01 (again im (steps im k (start im most)))) (steps im (k + 1) (start im most)) = q1r im (start im most) (k + 1) := by
      rw [q6k, qsu hok6 h1' (qrs im _ k)]; rfl
    rw [en] at B9
    have hb8 := L8.base.size
    refine ⟨o9.sam (fun b hb => ⟨by have := hl2 b hb; omega, by have := hl2 b hb; omega⟩), next (k + 1) m9 ⟨by omega, fun j hj => ?_, B9, ro8, out8, hp8, fr8, L8.only9 r8 o9, r8⟩ (by show 100000 - (k + 1) < 100000 - k; omega)⟩
    rcases Nat.lt_or_ge j k with h4 | h4
    · exact hrun j h4
    · have : j = k := by omega
      rw [this]; exact h1'
  · have h1' : (steps im k (start im most)).status ≠ 3 := by simpa using h1
    refine ⟨_, B6.get 0, _, B6.get 1, _, B6.get 2, _, B6.get 3, _, B6.get 4, _, B6.get 5, _, B6.get 6, _, B6.get 7, ?_⟩
    intro m7
    rw [qlw hk h1' hrun]
    exact ⟨rfl, (hx2.trans L6.base).scells (by omega) _ _⟩
structure Sta where
  c : Stat
  ok : Bool
open Classical in
noncomputable def staOf (im : Image) (most : Int) : Sta :=
  if ImageOk im /\ 0 <= most /\ most <= 40 then ⟨statsRun im most, true⟩ else ⟨⟨0, 0, 0, 0, 0, 0, 0, 0⟩, false⟩
theorem qo4 {m : Mem} {d p : Sl} {im : Image} (him : ImageR m d p im) (most : Int) : Gets Tryz.prog q9x [.agg #[Sl.v d, Sl.v p], vi most] m (.tuple #[statV (staOf im most).c, vb (staOf im most).ok]) := by
  apply qjy
  unfold qet
  simp -zeta only [q0c, q0d]
  intro m1 m2
  have hx2 : Ext m m2 := ((Ext.refl m).pushed _).pushed _
  have s1 : m1.size = m.size + 1 := by simp [m1]
  have s2 : m2.size = m.size + 2 := by simp [m2, s1]
  clear_value m2
  have hl : ∀ b ∈ [m1.size, m.size], b < m2.size := by simp; omega
  have no : ¬ (ImageOk im /\ 0 <= most /\ most <= 40) -> (.tuple #[.agg #[vi (0 : Int), vi (0 : Int), vi (0 : Int), vi (0 : Int), vi (0 : Int), vi (0 : Int), vi (0 : Int), vi (0 : Int)], vb false] : Value) = .tuple #[statV (staOf im most).c, vb (staOf im most).ok] := fun hno => by
    rw [staOf, if_neg hno]; rfl
  refine (qix (him.ext hx2)).thenS (Ext.refl _) hl fun b m3 hb h3 _ => ⟨b, rfl, fun h4 => ⟨no (fun hh => nb hb h4 hh.1), (hx2.trans h3).scells (by omega) _ _⟩, fun h4 => ?_⟩
  have hok := yb hb h4
  refine (q0o _ _ _ _).thenS h3 hl fun b2 m4 hb2 h34 h24 => ⟨b2, rfl, fun h5 => ⟨no (fun hh => nb hb2 h5 hh.2), (hx2.trans h24).scells (by omega) _ _⟩, fun h5 => ?_⟩
  have hm := yb hb2 h5
  refine (qo3 (him.ext (hx2.trans h24)) hok hm).mono ?_
  rintro _ m5 ⟨rfl, h45⟩
  have h25 := h24.trans h45
  refine ⟨h45.sam (fun b hb => h24.lt (hl b hb)), _, _, _, _, _, _, _, _, rfl, ?_⟩
  intro m6
  refine ⟨?_, (hx2.trans h25).scells (by omega) _ _⟩
  rw [staOf, if_pos ⟨hok, hm⟩]; rfl
end
end Go.Proofs.YtpggcodlaajceaaGreat
