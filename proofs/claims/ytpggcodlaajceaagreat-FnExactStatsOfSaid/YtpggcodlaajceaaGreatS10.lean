/- Part of a proof, joined by a program: Mut Mut2 Ms3 Ms4 Ms5 Ms6. -/
import Derived.Test.YtpggcodlaajceaaGreatS09
namespace Go.Proofs.YtpggcodlaajceaaGreat
open Go.Vc
section
structure Chg (p : Nat -> Prop) (ro : Nat -> Nat) (m : Mem) (ro' : Nat -> Nat) (m' : Mem) : Prop where
  size : m.size <= m'.size
  role : ∀ b, b < m.size -> ro' b = ro b
  new : ∀ b, m'.size <= b -> ro' b = 0
  keep : ∀ b, b < m.size -> ¬ p (ro b) -> m'[b]? = m[b]?
theorem Chg.refl (p : Nat -> Prop) {ro : Nat -> Nat} {m : Mem} (h : ∀ b, m.size <= b -> ro b = 0) : Chg p ro m ro m := ⟨Nat.le_refl _, fun _ _ => rfl, h, fun _ _ _ => rfl⟩
theorem Chg.trans {p : Nat -> Prop} {r1 r2 r3 : Nat -> Nat} {m1 m2 m3 : Mem} (h : Chg p r1 m1 r2 m2) (k : Chg p r2 m2 r3 m3) : Chg p r1 m1 r3 m3 :=
  ⟨Nat.le_trans h.size k.size, fun b hb => by rw [k.role b (Nat.lt_of_lt_of_le hb h.size), h.role b hb], k.new, fun b hb hp => by
    rw [k.keep b (Nat.lt_of_lt_of_le hb h.size) (by rw [h.role b hb]; exact hp), h.keep b hb hp]⟩
theorem Chg.mono {p q : Nat -> Prop} {ro ro' : Nat -> Nat} {m m' : Mem} (h : Chg p ro m ro' m') (hpq : ∀ k, p k -> q k) : Chg q ro m ro' m' := ⟨h.size, h.role, h.new, fun b hb hq => h.keep b hb fun hp => hq (hpq _ hp)⟩
theorem Chg.ofExt (p : Nat -> Prop) {ro : Nat -> Nat} {m m' : Mem} (h : Ext m m') (hn : ∀ b, m.size <= b -> ro b = 0) : Chg p ro m ro m' := ⟨h.size, fun _ _ => rfl, fun b hb => hn b (Nat.le_trans h.size hb), fun b hb _ => h.same b hb⟩
theorem Chg.scells {p : Nat -> Prop} {ro : Nat -> Nat} {m : Mem} (hn : ∀ b, m.size <= b -> ro b = 0) {b : Nat} (hb : p (ro b)) (o : Nat) (l : List Ce) : Chg p ro m ro (scells m b o l) :=
  ⟨Nat.le_of_eq (q04 _ _ _ _).symm, fun _ _ => rfl, fun c hc => hn c (by rw [q04] at hc; exact hc), fun c _ hp => q0s _ _ _ _ fun e => hp (e ▸ hb)⟩
abbrev HC := Chg (fun k => k = 3 \/ k = 5 \/ k = 6)
abbrev To := Chg (fun k => k ≠ 0 /\ k ≠ 9)
theorem Chg.base {ro ro' : Nat -> Nat} {m0 m m' : Mem} (h : To ro m ro' m') (hx : Ext m0 m) (h0 : ∀ b, b < m0.size -> ro b = 0) : Ext m0 m' /\ ∀ b, b < m0.size -> ro' b = 0 := by
  have hs := hx.size
  exact ⟨⟨Nat.le_trans hs h.size, fun b hb => by rw [h.keep b (by omega) (by simp [h0 b hb]), hx.same b hb]⟩, fun b hb => by rw [h.role b (by omega), h0 b hb]⟩
theorem Chg.sam {ro ro' : Nat -> Nat} {m m' : Mem} (h : To ro m ro' m') {l : List Nat} (hl : ∀ b ∈ l, b < m.size /\ ro b = 0) : Sam l m m' := fun b hb => h.keep b (hl b hb).1 (by simp [(hl b hb).2])
structure Arr (ro : Nat -> Nat) (m : Mem) (e sz k : Nat) (s : Sl) (l : List Ce) : Prop where
  len : l.length = s.len * sz
  le : s.len <= s.cap
  at' : s.cap = 0 \/ ∃ b c tail, s = .mk b 0 s.len c /\ ro b = k /\ Blk m b e (l ++ tail) /\ (l ++ tail).length = c * sz
section
variable {ro ro' : Nat -> Nat} {m m' : Mem} {e sz k : Nat} {s : Sl} {l : List Ce}
theorem Arr.empty (h : Arr ro m e sz k s l) (h0 : s.cap = 0) : l = [] /\ s.len = 0 := by
  have := h.le
  have h1 : s.len = 0 := by omega
  exact ⟨List.length_eq_zero_iff.1 (by rw [h.len, h1]; simp), h1⟩
theorem Arr.row (h : Arr ro m e sz k s l) : rowIs m s.blk s.off l := by
  rcases h.at' with h0 | ⟨b, c, tail, h1, h2, h3, h4⟩
  · rw [(h.empty h0).1]; intro i c hc; simp at hc
  · rw [h1]; exact h3.row.pre
theorem Arr.wr (h : Arr ro m e sz k s l) {o n : Nat} (hn : o + n <= l.length) : wrOk m s.blk (s.off + o) n := by
  rcases h.at' with h0 | ⟨b, c, tail, h1, h2, h3, h4⟩
  · rw [(h.empty h0).1] at hn; intro j hj; simp at hn; omega
  · rw [h1]; simp only [Sl.blk_mk, Sl.off_mk, Nat.zero_add]; exact h3.wrOk (by simp; omega)
theorem Arr.keep (h : Arr ro m e sz k s l) (hb : s.cap ≠ 0 -> m'[s.blk]? = m[s.blk]?) (hr : s.cap ≠ 0 -> ro' s.blk = ro s.blk) : Arr ro' m' e sz k s l := by
  refine ⟨h.len, h.le, ?_⟩
  rcases h.at' with h0 | ⟨b, c, tail, h1, h2, h3, h4⟩
  · exact Or.inl h0
  · by_cases hc : s.cap = 0
    · exact Or.inl hc
    · have e1 := hb hc
      have e2 := hr hc
      rw [h1] at e1 e2
      exact Or.inr ⟨b, c, tail, h1, e2.trans h2, h3.congr e1, h4⟩
theorem Arr.blk (h : Arr ro m e sz k s l) (hc : s.cap ≠ 0) : s.blk < m.size /\ ro s.blk = k := by
  rcases h.at' with h0 | ⟨b, c, tail, h1, h2, h3, h4⟩
  · exact absurd h0 hc
  · rw [h1]; exact ⟨h3.lt, h2⟩
theorem Arr.chg {p : Nat -> Prop} (h : Arr ro m e sz k s l) (hc : Chg p ro m ro' m') (hk : ¬ p k) : Arr ro' m' e sz k s l :=
  h.keep (fun h0 => hc.keep _ (h.blk h0).1 (by rw [(h.blk h0).2]; exact hk)) (fun h0 => hc.role _ (h.blk h0).1)
theorem Arr.set (h : Arr ro m e sz k s l) {o : Nat} {new : List Ce} (hn : o + new.length <= l.length) : Arr ro (scells m s.blk (s.off + o) new) e sz k s (setL l o new) := by
  refine ⟨by rw [q33]; exact h.len, h.le, ?_⟩
  rcases h.at' with h0 | ⟨b, c, tail, h1, h2, h3, h4⟩
  · exact Or.inl h0
  · refine Or.inr ⟨b, c, tail, h1, h2, ?_, by simp only [List.length_append, q33] at h4 ⊢; exact h4⟩
    have e1 : s.blk = b := by rw [h1]; rfl
    have e2 : s.off = 0 := by rw [h1]; rfl
    rw [e1, e2, Nat.zero_add]
    have := Blk.scells (m := m) (o := o) (r := new) h3
    have e3 : setL (l ++ tail) o new = setL l o new ++ tail := by
      have hl' : (setL l o new).length = l.length := q33 _ _ _
      apply List.ext_getElem?
      intro i
      rcases Nat.lt_or_ge i l.length with hi | hi
      · have r1 : (setL l o new ++ tail)[i]? = (setL l o new)[i]? := List.getElem?_append_left (by rw [hl']; exact hi)
        rw [r1, qcn, qcn]
        simp only [List.length_append]
        by_cases h5 : o <= i /\ i < o + new.length
        · rw [if_pos (by omega), if_pos (by omega)]
        · rw [if_neg (by omega), if_neg (by omega), List.getElem?_append_left hi]
      · have r1 : (setL l o new ++ tail)[i]? = tail[i - l.length]? := by rw [List.getElem?_append_right (by rw [hl']; exact hi), hl']
        rw [r1, qcn, if_neg (by omega), List.getElem?_append_right hi]
    rw [e3] at this; exact this
theorem Arr.cut (h : Arr ro m e sz k s l) {n : Nat} (hn : n <= s.len) : Arr ro m e sz k (s.cut 0 n sz) (l.take (n * sz)) := by
  have hle := h.le
  have hlen := h.len
  rcases h.at' with h0 | ⟨b, c, tail, h1, h2, h3, h4⟩
  · have hn0 : n = 0 := by omega
    cases s with
    | nil => exact ⟨by simp [hn0, Sl.cut], by simp [Sl.cut], Or.inl rfl⟩
    | emp b o sp => exact ⟨by simp [hn0, Sl.cut], by simp [Sl.cut], Or.inl rfl⟩
    | mk b o len cap => simp at h0; subst h0; exact ⟨by simp [hn0, Sl.cut], by simp [hn0, Sl.cut], Or.inl (by simp [Sl.cut])⟩
  · rw [h1]
    have hlc : s.len <= c := by rw [h1] at hle; exact hle
    refine ⟨?_, by simp [Sl.cut]; omega, Or.inr ⟨b, c, l.drop (n * sz) ++ tail, ?_, h2, ?_, ?_⟩⟩
    · simp only [Sl.cut, Sl.len_mk, List.length_take, Nat.sub_zero]
      have : n * sz <= s.len * sz := Nat.mul_le_mul_right _ hn
      omega
    · simp [Sl.cut]
    · rw [← List.append_assoc, List.take_append_drop]; exact h3
    · rw [← List.append_assoc, List.take_append_drop]; exact h4
end
theorem Arr.append {ro : Nat -> Nat} {m : Mem} {e k : Nat} {zs : List Ce} {bytes : Nat} {s x : Sl} {l new : List Ce} {K : Sl -> Mem -> Prop} (h : Arr ro m e zs.length k s l) (hnew : ∀ b, m.size <= b -> ro b = 0)
    (hn : new.length = x.len * zs.length) (hr : rowIs m x.blk x.off new) (hb : (s.len + x.len) * bytes <= 140737488355328)
    (hk : ∀ ro' r m', Arr ro' m' e zs.length k r (l ++ new) -> Chg (fun j => j = k) ro m ro' m' -> K r m') : appC m e zs bytes s x K := by
  have hle := h.le
  refine ⟨new, hn, hr, fun hfit => ?_, fun hgt => ⟨hb, l, h.len, h.row, fun c hc => ?_⟩⟩
  · rcases h.at' with h0 | ⟨b, c, tail, h1, h2, h3, h4⟩
    · have hx0 : x.len = 0 := by omega
      have hn0 : new = [] := List.length_eq_zero_iff.1 (by rw [hn, hx0]; simp)
      subst hn0
      refine ⟨fun j hj => by simp at hj, ?_⟩
      have hK := hk ro s _ (by rw [List.append_nil]; exact h) (Chg.refl _ hnew)
      cases s with
      | nil => exact hK
      | emp b o sp => exact hK
      | mk b o l1 c => simp only [hx0, Nat.add_zero]; exact hK
    · have hlen := h.len
      have hcap : s.cap = c := by rw [h1]; rfl
      rw [h1]
      simp only [Sl.blk_mk, Sl.off_mk, Sl.len_mk, Nat.zero_add]
      simp only [List.length_append] at h4
      have hfit2 : new.length <= tail.length := by
        have h6 : (s.len + x.len) * zs.length <= c * zs.length := Nat.mul_le_mul_right _ (by omega)
        rw [Nat.add_mul] at h6
        omega
      refine ⟨h3.wrOk (by simp only [List.length_append]; omega), ?_⟩
      have hB := Blk.scells (m := m) (b := b) (e := e) (r := new) (o := s.len * zs.length) h3
      rw [← hlen, qfn l new tail hfit2] at hB
      refine hk ro _ _ ⟨?_, ?_, Or.inr ⟨b, c, tail.drop new.length, rfl, h2, ?_, ?_⟩⟩ (Chg.scells hnew h2 _ _)
      · simp only [List.length_append, Sl.len_mk, Nat.add_mul]; omega
      · simp only [Sl.len_mk, Sl.cap_mk]; omega
      · rw [← hlen]; exact hB
      · simp only [List.length_append, List.length_drop]; omega
  · refine hk (fun b => if b = m.size then k else ro b) _ _ ⟨?_, ?_, Or.inr ⟨m.size, c, zrow zs (c - (s.len + x.len)), rfl, by simp, Blk.push _ _ _, ?_⟩⟩ ⟨by simp, fun b hb => if_neg (by omega), fun b hb => ?_, fun b hb _ => by rw [Array.getElem?_push, if_neg (by omega)]⟩
    · simp only [List.length_append, Sl.len_mk, Nat.add_mul, h.len, hn]
    · simpa using hc
    · simp only [List.length_append, q7e, h.len, hn]
      rw [Nat.sub_mul, ← Nat.add_mul]
      have : (s.len + x.len) * zs.length <= c * zs.length := Nat.mul_le_mul_right _ hc
      omega
    · simp at hb; rw [if_neg (by omega)]; exact hnew b (by omega)
theorem Arr.ofOwn {ro : Nat -> Nat} {m0 m : Mem} {e sz k : Nat} {s : Sl} {l : List Ce} (h : Own m0 m e sz s l) (hr : s ≠ .nil -> ro s.blk = k) : Arr ro m e sz k s l := by
  refine ⟨h.len, ?_, ?_⟩
  · rcases h.at' with h1 | ⟨b, c, tail, h1, h2, h3, h4, h5⟩
    · rw [h1]; exact Nat.le_refl _
    · rw [h1]; exact h5
  · rcases h.at' with h1 | ⟨b, c, tail, h1, h2, h3, h4, h5⟩
    · rw [h1]; exact Or.inl rfl
    · refine Or.inr ⟨b, c, tail, h1, ?_, h3, h4⟩
      have := hr (by rw [h1]; simp)
      rw [h1] at this; exact this
theorem Arr.ints {ro : Nat -> Nat} {m : Mem} {k : Nat} {s : Sl} {l : List Int} (h : Arr ro m ty_int 1 k s (l.map Ce.i)) (hl : l.length <= 9223372036854775807) : q03 m s l := by
  have hlen : s.len = l.length := by have := h.len; simp at this; omega
  refine ⟨hlen, h.le, by omega, fun j x hk => ⟨[.i x], rfl, fun i c hc => ?_⟩⟩
  have hi : i = 0 := by have := q07 hc; simp at this; omega
  subst hi
  simp at hc; subst hc
  have := h.row j (.i x) (by simp [hk])
  simpa using this
theorem qhc (l : List Int) (i : Nat) (v : Int) : setL (l.map Ce.i) i [.i v] = (l.set i v).map Ce.i := by simp [setL, List.map_set]
theorem Arr.setI {ro : Nat -> Nat} {m : Mem} {k : Nat} {s : Sl} {l : List Int} (h : Arr ro m ty_int 1 k s (l.map Ce.i)) {i : Int} (h0 : 0 <= i) (h1 : i < l.length) (v : Int) : Arr ro (scells m s.blk (s.off + i.toNat * 1) [.i v]) ty_int 1 k s ((Go.Proofs.YtpggcodlaajceaaGreat.setI l i v).map Ce.i) := by
  have := h.set (o := i.toNat) (new := [.i v]) (by simp; omega)
  rw [qhc] at this
  rw [Nat.mul_one]; exact this
theorem Arr.wrI {ro : Nat -> Nat} {m : Mem} {k : Nat} {s : Sl} {l : List Int} (h : Arr ro m ty_int 1 k s (l.map Ce.i)) {i : Int} (h0 : 0 <= i) (h1 : i < l.length) : wrOk m s.blk (s.off + i.toNat * 1) 1 := by
  rw [Nat.mul_one]; exact h.wr (by simp; omega)
def CellL (ro : Nat -> Nat) (m : Mem) (cs : List Ce) (c : Cell) : Prop := ∃ f, cs = [.i c.count, .i c.tag, .s f] /\ q03 m f c.fields /\ (c.fields ≠ [] -> ro f.blk = 0)
def q0z (ro : Nat -> Nat) (m : Mem) (hp : Sl) (h : List Cell) : Prop := ∃ css, Arr ro m qkf 3 3 hp css.flatten /\ RowsOf 3 (CellL ro m) css h
def Frm (ro : Nat -> Nat) (m : Mem) (i : Nat) (cs : List Ce) (f : Frame) : Prop :=
  ∃ r o h, cs = [.i f.proc, .i f.pc, .i f.dst, .s r, .s o, .s h] /\ Arr ro m ty_int 1 (10 + 3 * i) r (f.regs.map Ce.i) /\ Arr ro m ty_int 1 (11 + 3 * i) o (f.own.map Ce.i) /\ Arr ro m ty_int 1 (12 + 3 * i) h (f.held.map Ce.i)
structure FrmC (ro : Nat -> Nat) (m : Mem) (fr : Sl) (fs : List Frame) (css : List (List Ce)) : Prop where
  arr : Arr ro m q1g 6 4 fr css.flatten
  len : css.length = fs.length
  size : ∀ cs ∈ css, cs.length = 6
  each : ∀ (i : Nat) (cs : List Ce) (f : Frame), css[i]? = some cs -> fs[i]? = some f -> Frm ro m i cs f
def FrmL (ro : Nat -> Nat) (m : Mem) (fr : Sl) (fs : List Frame) : Prop := ∃ css, FrmC ro m fr fs css
theorem q2g {m m' : Mem} {f : Sl} {l : List Int} (h : q03 m f l) (hb : l ≠ [] -> m'[f.blk]? = m[f.blk]?) : q03 m' f l := by
  by_cases hl : l = []
  · subst hl; exact ⟨h.len, h.cap, h.lim, by simp⟩
  · exact ⟨h.len, h.cap, h.lim, fun k x hk => let ⟨cs, h1, h2⟩ := h.row k x hk; ⟨cs, h1, fun i c hc => by rw [q1l (hb hl)]; exact h2 i c hc⟩⟩
theorem q2s {m : Mem} {f : Sl} {l : List Int} (h : q03 m f l) (hl : l ≠ []) : f.blk < m.size := by
  cases l with
  | nil => exact absurd rfl hl
  | cons x l => exact q63 (h.at' (k := 0) (x := x) rfl)
theorem CellL.chg {p : Nat -> Prop} {ro ro' : Nat -> Nat} {m m' : Mem} (hc : Chg p ro m ro' m') (h0 : ¬ p 0) (cs : List Ce) (c : Cell) : CellL ro m cs c -> CellL ro' m' cs c := fun ⟨f, h1, h2, h3⟩ =>
  ⟨f, h1, q2g h2 fun hne => hc.keep _ (q2s h2 hne) (by rw [h3 hne]; exact h0), fun hne => by rw [hc.role _ (q2s h2 hne)]; exact h3 hne⟩
theorem q0z.chg {p : Nat -> Prop} {ro ro' : Nat -> Nat} {m m' : Mem} {hp : Sl} {h : List Cell} (hh : q0z ro m hp h) (hc : Chg p ro m ro' m') (h0 : ¬ p 0) (h3 : ¬ p 3) : q0z ro' m' hp h := by
  obtain ⟨css, h1, h2⟩ := hh
  exact ⟨css, h1.chg hc h3, h2.mono (CellL.chg hc h0)⟩
theorem Frm.chg {p : Nat -> Prop} {ro ro' : Nat -> Nat} {m m' : Mem} (hc : Chg p ro m ro' m') {i : Nat} (hp : ∀ k, 10 + 3 * i <= k -> k <= 12 + 3 * i -> ¬ p k) {cs : List Ce} {f : Frame} : Frm ro m i cs f -> Frm ro' m' i cs f := fun ⟨r, o, h, h1, h2, h3, h4⟩ =>
  ⟨r, o, h, h1, h2.chg hc (hp _ (by omega) (by omega)), h3.chg hc (hp _ (by omega) (by omega)), h4.chg hc (hp _ (by omega) (by omega))⟩
theorem FrmL.chg {p : Nat -> Prop} {ro ro' : Nat -> Nat} {m m' : Mem} {fr : Sl} {fs : List Frame} (hh : FrmL ro m fr fs) (hc : Chg p ro m ro' m') (hp : ∀ k, (k = 4 \/ 10 <= k) -> ¬ p k) : FrmL ro' m' fr fs := by
  obtain ⟨css, h⟩ := hh
  exact ⟨css, h.arr.chg hc (hp 4 (by omega)), h.len, h.size, fun i cs f h1 h2 => (h.each i cs f h1 h2).chg hc fun k hk _ => hp k (by omega)⟩
structure Lay (m0 : Mem) (ro : Nat -> Nat) (m : Mem) (mb e : Nat) (bx : List Ce) (out hp fr : Sl) (lo : List Int) (lh : List Cell) (lf : List Frame) : Prop where
  base : Ext m0 m
  base0 : ∀ b, b < m0.size -> ro b = 0
  new : ∀ b, m.size <= b -> ro b = 0
  box : Blk m mb e bx
  rob : ro mb = 1
  out : Arr ro m ty_int 1 2 out (lo.map Ce.i)
  heap : q0z ro m hp lh
  frames : FrmL ro m fr lf
section
variable {m0 : Mem} {ro ro' : Nat -> Nat} {m m' : Mem} {mb e : Nat} {bx : List Ce} {out hp fr : Sl} {lo : List Int} {lh : List Cell} {lf : List Frame}
theorem Lay.ext (L : Lay m0 ro m mb e bx out hp fr lo lh lf) (hx : Ext m m') : Lay m0 ro m' mb e bx out hp fr lo lh lf /\ To ro m ro m' := by
  have hc : ∀ p, Chg p ro m ro m' := fun p => Chg.ofExt p hx L.new
  exact ⟨⟨L.base.trans hx, L.base0, (hc (fun _ => False)).new, L.box.ext hx, L.rob, L.out.chg (hc (fun _ => False)) id, L.heap.chg (hc (fun _ => False)) id id, L.frames.chg (hc (fun _ => False)) fun _ _ => id⟩, hc _⟩
theorem Lay.setBox (L : Lay m0 ro m mb e bx out hp fr lo lh lf) (i : Nat) (cs : List Ce) : Lay m0 ro (scells m mb i cs) mb e (setL bx i cs) out hp fr lo lh lf /\ To ro m ro (scells m mb i cs) := by
  have hc : Chg (fun k => k = 1) ro m ro (scells m mb i cs) := Chg.scells L.new L.rob _ _
  have hto : To ro m ro (scells m mb i cs) := hc.mono fun k hk => by omega
  obtain ⟨b1, b2⟩ := hto.base L.base L.base0
  exact ⟨⟨b1, b2, hc.new, Blk.scells (m := m) L.box, L.rob, L.out.chg hc (by decide), L.heap.chg hc (by decide) (by decide), L.frames.chg hc fun k hk => by omega⟩, hto⟩
theorem Lay.wrBox (L : Lay m0 ro m mb e bx out hp fr lo lh lf) {i n : Nat} (hi : i + n <= bx.length) : wrOk m mb i n := L.box.wrOk hi
theorem Lay.setHeap (L : Lay m0 ro m mb e bx out hp fr lo lh lf) (hc : Chg (fun k => k = 3 \/ k = 5 \/ k = 6) ro m ro' m') {hp' : Sl} {lh' : List Cell} (hh : q0z ro' m' hp' lh') : Lay m0 ro' m' mb e bx out hp' fr lo lh' lf /\ To ro m ro' m' := by
  have hto : To ro m ro' m' := hc.mono fun k hk => by omega
  obtain ⟨b1, b2⟩ := hto.base L.base L.base0
  exact ⟨⟨b1, b2, hc.new, L.box.congr (hc.keep _ L.box.lt (by rw [L.rob]; decide)), by rw [hc.role _ L.box.lt]; exact L.rob, L.out.chg hc (by decide), hh, L.frames.chg hc fun k hk => by omega⟩, hto⟩
theorem Lay.setOut (L : Lay m0 ro m mb e bx out hp fr lo lh lf) (hc : Chg (fun k => k = 2) ro m ro' m') {out' : Sl} {lo' : List Int} (hh : Arr ro' m' ty_int 1 2 out' (lo'.map Ce.i)) : Lay m0 ro' m' mb e bx out' hp fr lo' lh lf /\ To ro m ro' m' := by
  have hto : To ro m ro' m' := hc.mono fun k hk => by omega
  obtain ⟨b1, b2⟩ := hto.base L.base L.base0
  exact ⟨⟨b1, b2, hc.new, L.box.congr (hc.keep _ L.box.lt (by rw [L.rob]; decide)), by rw [hc.role _ L.box.lt]; exact L.rob, hh, L.heap.chg hc (by decide) (by decide), L.frames.chg hc fun k hk => by omega⟩, hto⟩
theorem Lay.setFrames (L : Lay m0 ro m mb e bx out hp fr lo lh lf) (hc : Chg (fun k => 4 <= k /\ k ≠ 9) ro m ro' m') {fr' : Sl} {lf' : List Frame} (hh : FrmL ro' m' fr' lf') : Lay m0 ro' m' mb e bx out hp fr' lo lh lf' /\ To ro m ro' m' := by
  have hto : To ro m ro' m' := hc.mono fun k hk => by omega
  obtain ⟨b1, b2⟩ := hto.base L.base L.base0
  exact ⟨⟨b1, b2, hc.new, L.box.congr (hc.keep _ L.box.lt (by rw [L.rob]; decide)), by rw [hc.role _ L.box.lt]; exact L.rob, L.out.chg hc (by decide), L.heap.chg hc (by decide) (by decide), hh⟩, hto⟩
end
end
section
theorem qqa (l r : List Ce) (o : Nat) (c : Ce) (h : l.length <= o) : (l ++ r).set o c = l ++ r.set (o - l.length) c := by
  rw [List.set_append_right _ _ h]
theorem setL_app_right : ∀ (new l r : List Ce) (o : Nat), l.length <= o -> setL (l ++ r) o new = l ++ setL r (o - l.length) new
  | [], l, r, o, _ => rfl
  | c :: new, l, r, o, h => by
    simp only [setL]
    rw [qqa _ _ _ _ h, setL_app_right new l _ (o + 1) (by omega)]
    congr 2; omega
theorem qhv : ∀ (new l r : List Ce) (o : Nat), o + new.length <= l.length -> setL (l ++ r) o new = setL l o new ++ r
  | [], l, r, o, _ => rfl
  | c :: new, l, r, o, h => by
    simp only [List.length_cons] at h
    simp only [setL]
    rw [List.set_append_left _ _ (by omega), qhv new _ _ (o + 1) (by simp; omega)]
theorem qpj {sz : Nat} : ∀ (css : List (List Ce)) (a : Nat) (cs : List Ce) (o : Nat) (new : List Ce), (∀ c ∈ css, c.length = sz) -> css[a]? = some cs -> o + new.length <= sz -> setL css.flatten (a * sz + o) new = (css.set a (setL cs o new)).flatten
  | [], a, cs, o, new, _, h, _ => by simp at h
  | x :: css, 0, cs, o, new, hl, h, ho => by
    simp at h; subst h
    have hx := hl x List.mem_cons_self
    rw [List.flatten_cons, Nat.zero_mul, Nat.zero_add, qhv _ _ _ _ (by omega), List.set_cons_zero, List.flatten_cons]
  | x :: css, a + 1, cs, o, new, hl, h, ho => by
    have hx := hl x List.mem_cons_self
    rw [List.flatten_cons, setL_app_right _ _ _ _ (by rw [hx, Nat.add_mul]; omega), List.set_cons_succ, List.flatten_cons]
    have e : (a + 1) * sz + o - x.length = a * sz + o := by rw [hx, Nat.add_mul]; omega
    rw [e, qpj css a cs o new (fun c hc => hl c (List.mem_cons_of_mem _ hc)) (by simpa using h) ho]
theorem _root_.Go.Vc.RowsOf.set {α : Type} {sz : Nat} {R : List Ce -> α -> Prop} {css : List (List Ce)} {l : List α} (h : RowsOf sz R css l) (a : Nat) {cs : List Ce} {x : α} (hs : cs.length = sz) (hx : R cs x) : RowsOf sz R (css.set a cs) (l.set a x) := by
  refine ⟨by simp [h.len], fun c hc => ?_, fun j c y hc hy => ?_⟩
  · rcases List.mem_or_eq_of_mem_set hc with hc | hc
    · exact h.size c hc
    · rw [hc]; exact hs
  · by_cases hj : j = a
    · subst hj
      have h1 := q07 hc
      have h2 := q07 hy
      simp at h1 h2
      rw [List.getElem?_set_self h1] at hc
      rw [List.getElem?_set_self h2] at hy
      simp at hc hy; subst hc; subst hy; exact hx
    · rw [List.getElem?_set_ne (fun e => hj e.symm)] at hc hy
      exact h.each j c y hc hy
theorem _root_.Go.Vc.RowsOf.take {α : Type} {sz : Nat} {R : List Ce -> α -> Prop} {css : List (List Ce)} {l : List α} (h : RowsOf sz R css l) (n : Nat) : RowsOf sz R (css.take n) (l.take n) := by
  refine ⟨by simp [h.len], fun c hc => h.size c (List.mem_of_mem_take hc), fun j c y hc hy => ?_⟩
  have h1 := q07 hc
  simp at h1
  rw [List.getElem?_take_of_lt (by omega)] at hc hy
  exact h.each j c y hc hy
theorem qj6 {sz : Nat} : ∀ (css : List (List Ce)) (n : Nat), (∀ c ∈ css, c.length = sz) -> css.flatten.take (n * sz) = (css.take n).flatten
  | [], n, _ => by simp
  | x :: css, 0, _ => by simp
  | x :: css, n + 1, h => by
    have hx := h x List.mem_cons_self
    rw [List.flatten_cons, List.take_append, List.take_of_length_le (by rw [hx, Nat.add_mul]; omega), List.take_succ_cons, List.flatten_cons]
    have e : (n + 1) * sz - x.length = n * sz := by rw [hx, Nat.add_mul]; omega
    rw [e, qj6 css n fun c hc => h c (List.mem_cons_of_mem _ hc)]
section
variable {ro : Nat -> Nat} {m : Mem} {hp : Sl} {h : List Cell}
theorem q0z.len (hh : q0z ro m hp h) : hp.len = h.length := by
  obtain ⟨css, h1, h2⟩ := hh
  have := h1.len
  rw [q0t h2.size, h2.len] at this
  omega
theorem q0z.get (hh : q0z ro m hp h) {a : Nat} {c : Cell} (hc : h[a]? = some c) : ∃ f, gcell m hp.blk (hp.off + a * 3) = some (vi c.count) /\ gcell m hp.blk (hp.off + a * 3 + 1) = some (vi c.tag) /\ gcell m hp.blk (hp.off + a * 3 + 2) = some (Sl.v f) /\ q03 m f c.fields /\ (c.fields ≠ [] -> ro f.blk = 0) := by
  obtain ⟨css, h1, h2⟩ := hh
  obtain ⟨cs, hcs⟩ := q02 (l := css) (k := a) (by rw [h2.len]; exact q07 hc)
  obtain ⟨f, rfl, hf, h0⟩ := h2.each a cs c hcs hc
  have r := fun i c hc => h1.row (a * 3 + i) c (q5f h2.size hcs hc)
  exact ⟨f, r 0 (.i c.count) rfl, r 1 (.i c.tag) rfl, r 2 (.s f) rfl, hf, h0⟩
theorem q0z.cells (hh : q0z ro m hp h) (hl : h.length <= 9223372036854775807) : q1d m hp h := by
  have hlen := hh.len
  obtain ⟨css, h1, h2⟩ := hh
  refine ⟨hlen, h1.le, by omega, fun k x hk => ?_⟩
  obtain ⟨cs, hcs⟩ := q02 (l := css) (k := k) (by rw [h2.len]; exact q07 hk)
  obtain ⟨f, rfl, hf, h0⟩ := h2.each k cs x hcs hk
  refine ⟨_, ⟨f, rfl, hf⟩, fun i c hc => ?_⟩
  have := h1.row (k * 3 + i) c (q5f h2.size hcs hc)
  rwa [← Nat.add_assoc] at this
theorem q0z.wr (hh : q0z ro m hp h) {a o n : Nat} (ha : a < h.length) (ho : o + n <= 3) : wrOk m hp.blk (hp.off + a * 3 + o) n := by
  obtain ⟨css, h1, h2⟩ := hh
  rw [Nat.add_assoc]
  exact h1.wr (by rw [q0t h2.size, h2.len]; have : (a + 1) * 3 <= h.length * 3 := Nat.mul_le_mul_right _ ha; omega)
theorem q0z.blk (hh : q0z ro m hp h) {a : Nat} (ha : a < h.length) : ro hp.blk = 3 /\ hp.blk < m.size := by
  have hl := hh.len
  obtain ⟨css, h1, h2⟩ := hh
  have := h1.le
  have := h1.blk (by omega)
  exact ⟨this.2, this.1⟩
theorem q0z.put (hh : q0z ro m hp h) (hnew : ∀ b, m.size <= b -> ro b = 0) {a o : Nat} {c c' : Cell} (hc : h[a]? = some c) {new : List Ce} (ho : o + new.length <= 3)
    (hcell : ∀ f, q03 m f c.fields -> (c.fields ≠ [] -> ro f.blk = 0) -> ∃ f', setL [.i c.count, .i c.tag, .s f] o new = [.i c'.count, .i c'.tag, .s f'] /\ q03 m f' c'.fields /\ (c'.fields ≠ [] -> ro f'.blk = 0)) :
    q0z ro (scells m hp.blk (hp.off + a * 3 + o) new) hp (h.set a c') /\ Chg (fun k => k = 3) ro m ro (scells m hp.blk (hp.off + a * 3 + o) new) := by
  have hlt := q07 hc
  have hblk := hh.blk hlt
  have hchg : Chg (fun k => k = 3) ro m ro (scells m hp.blk (hp.off + a * 3 + o) new) := Chg.scells hnew hblk.1 _ _
  obtain ⟨css, h1, h2⟩ := hh
  obtain ⟨cs, hcs⟩ := q02 (l := css) (k := a) (by rw [h2.len]; exact hlt)
  obtain ⟨f, rfl, hf, h0⟩ := h2.each a cs c hcs hc
  obtain ⟨f', e1, hf', h0'⟩ := hcell f hf h0
  refine ⟨⟨css.set a (setL [.i c.count, .i c.tag, .s f] o new), ?_, ?_⟩, hchg⟩
  · rw [← qpj css a _ o new h2.size hcs ho, Nat.add_assoc]
    exact h1.set (by rw [q0t h2.size, h2.len]; have : (a + 1) * 3 <= h.length * 3 := Nat.mul_le_mul_right _ hlt; omega)
  · rw [e1]
    exact (h2.set a rfl ⟨f', rfl, hf', h0'⟩).mono (CellL.chg hchg (by decide))
theorem q0z.setCount (hh : q0z ro m hp h) (hnew : ∀ b, m.size <= b -> ro b = 0) {a : Nat} {c : Cell} (hc : h[a]? = some c) (n : Int) :
    q0z ro (scells m hp.blk (hp.off + a * 3) [.i n]) hp (h.set a { c with count := n }) /\ Chg (fun k => k = 3) ro m ro (scells m hp.blk (hp.off + a * 3) [.i n]) :=
  hh.put hnew hc (o := 0) (new := [.i n]) (by simp) fun f hf h0 => ⟨f, rfl, hf, h0⟩
theorem q0z.setCell (hh : q0z ro m hp h) (hnew : ∀ b, m.size <= b -> ro b = 0) {a : Nat} (ha : a < h.length) (n t : Int) {f : Sl} {l : List Int} (hf : q03 m f l) (h0 : l ≠ [] -> ro f.blk = 0) :
    q0z ro (scells m hp.blk (hp.off + a * 3) [.i n, .i t, .s f]) hp (h.set a ⟨n, t, l⟩) /\ Chg (fun k => k = 3) ro m ro (scells m hp.blk (hp.off + a * 3) [.i n, .i t, .s f]) := by
  obtain ⟨c, hc⟩ := q02 ha
  exact hh.put hnew hc (o := 0) (new := [.i n, .i t, .s f]) (by simp) fun f1 hf1 h01 => ⟨f, rfl, hf, h0⟩
theorem q0z.cut (hh : q0z ro m hp h) {n : Nat} (hn : n <= h.length) : q0z ro m (hp.cut 0 n 3) (h.take n) := by
  have hl := hh.len
  obtain ⟨css, h1, h2⟩ := hh
  exact ⟨css.take n, by rw [← qj6 css n h2.size]; exact h1.cut (by omega), h2.take n⟩
theorem q0z.push (hh : q0z ro m hp h) (hnew : ∀ b, m.size <= b -> ro b = 0) {x : Sl} (hx : x.len = 1) {n t : Int} {f : Sl} {l : List Int} (hr : rowIs m x.blk x.off [.i n, .i t, .s f]) (hf : q03 m f l) (h0 : l ≠ [] -> ro f.blk = 0) (hsm : h.length <= 2000000000) {K : Sl -> Mem -> Prop}
    (hk : ∀ ro' r m', q0z ro' m' r (h ++ [⟨n, t, l⟩]) -> Chg (fun k => k = 3) ro m ro' m' -> K r m') : appC m qkf [.i (0 : Int), .i (0 : Int), .s Sl.nil] 40 hp x K := by
  have hlen := hh.len
  obtain ⟨css, h1, h2⟩ := hh
  refine Arr.append (zs := [.i 0, .i 0, .s .nil]) (new := [.i n, .i t, .s f]) h1 hnew (by simp [hx]) hr (by omega) fun ro' r m' q1 q2 => hk ro' r m' ⟨css ++ [[.i n, .i t, .s f]], by simpa using q1, ?_⟩ q2
  exact (h2.snoc (cs := [.i n, .i t, .s f]) (x := ⟨n, t, l⟩) rfl ⟨f, rfl, hf, h0⟩).mono (CellL.chg q2 (by decide))
end
structure Top (ro : Nat -> Nat) (m : Mem) (fr : Sl) (fs : List Frame) (f : Frame) (r o h : Sl) (css : List (List Ce)) : Prop where
  arr : Arr ro m q1g 6 4 fr (css.flatten ++ [.i f.proc, .i f.pc, .i f.dst, .s r, .s o, .s h])
  len : css.length = fs.length
  size : ∀ cs ∈ css, cs.length = 6
  each : ∀ (i : Nat) (cs : List Ce) (g : Frame), css[i]? = some cs -> fs[i]? = some g -> Frm ro m i cs g
  regs : Arr ro m ty_int 1 (10 + 3 * fs.length) r (f.regs.map Ce.i)
  own : Arr ro m ty_int 1 (11 + 3 * fs.length) o (f.own.map Ce.i)
  held : Arr ro m ty_int 1 (12 + 3 * fs.length) h (f.held.map Ce.i)
section
variable {ro ro' : Nat -> Nat} {m m' : Mem} {fr : Sl} {fs : List Frame} {f : Frame} {r o h : Sl} {css : List (List Ce)}
theorem FrmL.top (hh : FrmL ro m fr (fs ++ [f])) : ∃ r o h css, Top ro m fr fs f r o h css := by
  obtain ⟨css, h1, h2, h3, h4⟩ := hh
  have hne : css ≠ [] := fun e => by rw [e] at h2; simp at h2
  have e : css = css.dropLast ++ [css.getLast hne] := (List.dropLast_concat_getLast hne).symm
  generalize css.dropLast = c0 at e
  generalize css.getLast hne = cl at e
  subst e
  have hl : c0.length = fs.length := by simpa using h2
  obtain ⟨r, o, h, rfl, hr, ho, hh⟩ := h4 fs.length cl f (by rw [List.getElem?_append_right (by omega)]; simp [hl]) (by simp)
  refine ⟨r, o, h, c0, by simpa using h1, hl, fun cs hc => h3 cs (by simp [hc]), fun i cs g h5 h6 => h4 i cs g ?_ ?_, hr, ho, hh⟩
  · rw [List.getElem?_append_left (q07 h5)]; exact h5
  · rw [List.getElem?_append_left (q07 h6)]; exact h6
theorem Top.frm (T : Top ro m fr fs f r o h css) : FrmL ro m fr (fs ++ [f]) := by
  refine ⟨css ++ [[.i f.proc, .i f.pc, .i f.dst, .s r, .s o, .s h]], by simpa using T.arr, by simp [T.len], fun cs hc => ?_, fun i cs g h1 h2 => ?_⟩
  · rcases List.mem_append.1 hc with hc | hc
    · exact T.size cs hc
    · simp at hc; subst hc; rfl
  · rcases Nat.lt_or_ge i fs.length with hi | hi
    · rw [List.getElem?_append_left (by rw [T.len]; exact hi)] at h1
      rw [List.getElem?_append_left hi] at h2
      exact T.each i cs g h1 h2
    · have hi2 : i = fs.length := by have := q07 h2; simp at this; omega
      subst hi2
      rw [List.getElem?_append_right (by rw [T.len]; omega)] at h1
      simp [T.len] at h1 h2
      subst h1; subst h2
      exact ⟨r, o, h, rfl, T.regs, T.own, T.held⟩
theorem Top.frLen (T : Top ro m fr fs f r o h css) : fr.len = fs.length + 1 := by
  have := T.arr.len
  simp only [List.length_append, q0t T.size, T.len, List.length_cons, List.length_nil] at this
  omega
theorem Top.row (T : Top ro m fr fs f r o h css) : gcell m fr.blk (fr.off + fs.length * 6) = some (vi f.proc) /\ gcell m fr.blk (fr.off + fs.length * 6 + 1) = some (vi f.pc) /\ gcell m fr.blk (fr.off + fs.length * 6 + 2) = some (vi f.dst) /\
    gcell m fr.blk (fr.off + fs.length * 6 + 3) = some (Sl.v r) /\ gcell m fr.blk (fr.off + fs.length * 6 + 4) = some (Sl.v o) /\ gcell m fr.blk (fr.off + fs.length * 6 + 5) = some (Sl.v h) := by
  have hl : css.flatten.length = fs.length * 6 := by rw [q0t T.size, T.len]
  have r1 := fun (i : Nat) (c : Ce) (hc : [Ce.i f.proc, Ce.i f.pc, Ce.i f.dst, Ce.s r, Ce.s o, Ce.s h][i]? = some c) => T.arr.row (fs.length * 6 + i) c (by rw [List.getElem?_append_right (by omega), hl, Nat.add_sub_cancel_left]; exact hc)
  exact ⟨r1 0 (.i f.proc) rfl, r1 1 (.i f.pc) rfl, r1 2 (.i f.dst) rfl, r1 3 (.s r) rfl, r1 4 (.s o) rfl, r1 5 (.s h) rfl⟩
theorem Top.chg {p : Nat -> Prop} (T : Top ro m fr fs f r o h css) (hc : Chg p ro m ro' m') (hp : ∀ k, (k = 4 \/ 10 <= k) -> ¬ p k) : Top ro' m' fr fs f r o h css :=
  ⟨T.arr.chg hc (hp _ (by omega)), T.len, T.size, fun i cs g h1 h2 => (T.each i cs g h1 h2).chg hc fun k hk _ => hp k (by omega), T.regs.chg hc (hp _ (by omega)), T.own.chg hc (hp _ (by omega)), T.held.chg hc (hp _ (by omega))⟩
theorem Top.ext (T : Top ro m fr fs f r o h css) (hn : ∀ b, m.size <= b -> ro b = 0) (hx : Ext m m') : Top ro m' fr fs f r o h css := T.chg (Chg.ofExt (fun _ => False) hx hn) fun _ _ => id
theorem Top.outer {p : Nat -> Prop} (T : Top ro m fr fs f r o h css) (hc : Chg p ro m ro' m') (hp : ∀ k, 10 <= k -> k < 10 + 3 * fs.length -> ¬ p k) : ∀ (i : Nat) (cs : List Ce) (g : Frame), css[i]? = some cs -> fs[i]? = some g -> Frm ro' m' i cs g := fun i cs g h1 h2 =>
  (T.each i cs g h1 h2).chg hc fun k hk _ => hp k (by omega) (by have := q07 h2; omega)
theorem Top.setReg (T : Top ro m fr fs f r o h css) (hn : ∀ b, m.size <= b -> ro b = 0) {i : Int} (h0 : 0 <= i) (h1 : i < f.regs.length) (v : Int) :
    Top ro (scells m r.blk (r.off + i.toNat * 1) [.i v]) fr fs { f with regs := setI f.regs i v } r o h css /\ Chg (fun k => 4 <= k /\ k ≠ 9) ro m ro (scells m r.blk (r.off + i.toNat * 1) [.i v]) := by
  have hc0 : r.cap ≠ 0 := fun e => by have := (T.regs.empty e).1; simp at this; rw [this] at h1; simp at h1; omega
  have hb := T.regs.blk hc0
  have hc : Chg (fun k => k = 10 + 3 * fs.length) ro m ro (scells m r.blk (r.off + i.toNat * 1) [.i v]) := Chg.scells hn hb.2 _ _
  exact ⟨⟨T.arr.chg hc (by omega), T.len, T.size, T.outer hc fun k _ h3 => by omega, T.regs.setI h0 h1 v, T.own.chg hc (by omega), T.held.chg hc (by omega)⟩, hc.mono fun k hk => by omega⟩
theorem Top.setOwn (T : Top ro m fr fs f r o h css) (hn : ∀ b, m.size <= b -> ro b = 0) {i : Int} (h0 : 0 <= i) (h1 : i < f.own.length) (v : Int) :
    Top ro (scells m o.blk (o.off + i.toNat * 1) [.i v]) fr fs { f with own := setI f.own i v } r o h css /\ Chg (fun k => 4 <= k /\ k ≠ 9) ro m ro (scells m o.blk (o.off + i.toNat * 1) [.i v]) := by
  have hc0 : o.cap ≠ 0 := fun e => by have := (T.own.empty e).1; simp at this; rw [this] at h1; simp at h1; omega
  have hb := T.own.blk hc0
  have hc : Chg (fun k => k = 11 + 3 * fs.length) ro m ro (scells m o.blk (o.off + i.toNat * 1) [.i v]) := Chg.scells hn hb.2 _ _
  exact ⟨⟨T.arr.chg hc (by omega), T.len, T.size, T.outer hc fun k _ h3 => by omega, T.regs.chg hc (by omega), T.own.setI h0 h1 v, T.held.chg hc (by omega)⟩, hc.mono fun k hk => by omega⟩
theorem Top.setHeld (T : Top ro m fr fs f r o h css) (hn : ∀ b, m.size <= b -> ro b = 0) {i : Int} (h0 : 0 <= i) (h1 : i < f.held.length) (v : Int) :
    Top ro (scells m h.blk (h.off + i.toNat * 1) [.i v]) fr fs { f with held := setI f.held i v } r o h css /\ Chg (fun k => 4 <= k /\ k ≠ 9) ro m ro (scells m h.blk (h.off + i.toNat * 1) [.i v]) := by
  have hc0 : h.cap ≠ 0 := fun e => by have := (T.held.empty e).1; simp at this; rw [this] at h1; simp at h1; omega
  have hb := T.held.blk hc0
  have hc : Chg (fun k => k = 12 + 3 * fs.length) ro m ro (scells m h.blk (h.off + i.toNat * 1) [.i v]) := Chg.scells hn hb.2 _ _
  exact ⟨⟨T.arr.chg hc (by omega), T.len, T.size, T.outer hc fun k _ h3 => by omega, T.regs.chg hc (by omega), T.own.chg hc (by omega), T.held.setI h0 h1 v⟩, hc.mono fun k hk => by omega⟩
theorem Top.blk (T : Top ro m fr fs f r o h css) : ro fr.blk = 4 /\ fr.blk < m.size := by
  have := T.frLen
  have := T.arr.le
  have := T.arr.blk (by omega)
  exact ⟨this.2, this.1⟩
theorem Top.setPc (T : Top ro m fr fs f r o h css) (hn : ∀ b, m.size <= b -> ro b = 0) (v : Int) :
    Top ro (scells m fr.blk (fr.off + fs.length * 6 + 1) [.i v]) fr fs { f with pc := v } r o h css /\ Chg (fun k => 4 <= k /\ k ≠ 9) ro m ro (scells m fr.blk (fr.off + fs.length * 6 + 1) [.i v]) := by
  have hb := T.blk
  have hc : Chg (fun k => k = 4) ro m ro (scells m fr.blk (fr.off + fs.length * 6 + 1) [.i v]) := Chg.scells hn hb.1 _ _
  refine ⟨⟨?_, T.len, T.size, T.outer hc fun k h2 h3 => by omega, T.regs.chg hc (by omega), T.own.chg hc (by omega), T.held.chg hc (by omega)⟩, hc.mono fun k hk => by omega⟩
  have hl : css.flatten.length = fs.length * 6 := by rw [q0t T.size, T.len]
  have := T.arr.set (o := fs.length * 6 + 1) (new := [.i v]) (by simp [hl])
  rw [setL_app_right _ _ _ _ (by omega), hl, Nat.add_sub_cancel_left] at this
  rw [Nat.add_assoc]; exact this
theorem Top.wrPc (T : Top ro m fr fs f r o h css) : wrOk m fr.blk (fr.off + fs.length * 6 + 1) 1 := by
  rw [Nat.add_assoc]
  exact T.arr.wr (by simp only [List.length_append, q0t T.size, T.len, List.length_cons, List.length_nil]; omega)
end
theorem FrmL.pop {ro : Nat -> Nat} {m : Mem} {fr : Sl} {fs : List Frame} {f : Frame} (hh : FrmL ro m fr (fs ++ [f])) : FrmL ro m (fr.cut 0 fs.length 6) fs := by
  obtain ⟨r, o, h, css, T⟩ := hh.top
  have hl : css.flatten.length = fs.length * 6 := by rw [q0t T.size, T.len]
  have := T.arr.cut (n := fs.length) (by rw [T.frLen]; omega)
  rw [List.take_append_of_le_length (by omega), List.take_of_length_le (by omega)] at this
  exact ⟨css, this, T.len, T.size, T.each⟩
theorem FrmL.push {ro : Nat -> Nat} {m : Mem} {fr : Sl} {fs : List Frame} (hh : FrmL ro m fr fs) (hn : ∀ b, m.size <= b -> ro b = 0) {x : Sl} (hx : x.len = 1) {f : Frame} {r o h : Sl} (hr : rowIs m x.blk x.off [.i f.proc, .i f.pc, .i f.dst, .s r, .s o, .s h])
    (h1 : Arr ro m ty_int 1 (10 + 3 * fs.length) r (f.regs.map Ce.i)) (h2 : Arr ro m ty_int 1 (11 + 3 * fs.length) o (f.own.map Ce.i)) (h3 : Arr ro m ty_int 1 (12 + 3 * fs.length) h (f.held.map Ce.i)) (hsm : fs.length <= 1000000) {K : Sl -> Mem -> Prop}
    (hk : ∀ ro' r m', FrmL ro' m' r (fs ++ [f]) -> Chg (fun k => k = 4) ro m ro' m' -> K r m') : appC m q1g [.i (0 : Int), .i (0 : Int), .i (0 : Int), .s Sl.nil, .s Sl.nil, .s Sl.nil] 96 fr x K := by
  obtain ⟨css, q1, q2, q3, q4⟩ := hh
  have hfl : fr.len = fs.length := by have := q1.len; rw [q0t q3, q2] at this; omega
  refine Arr.append (zs := [.i 0, .i 0, .i 0, .s .nil, .s .nil, .s .nil]) (new := [.i f.proc, .i f.pc, .i f.dst, .s r, .s o, .s h]) q1 hn (by simp [hx]) hr (by omega) fun ro' s m' p1 p2 => hk ro' s m' ?_ p2
  exact Top.frm (f := f) (fs := fs) (css := css) (r := r) (o := o) (h := h) ⟨by simpa using p1, q2, q3, fun i cs g h5 h6 => (q4 i cs g h5 h6).chg p2 fun k hk _ => by omega, h1.chg p2 (by omega), h2.chg p2 (by omega), h3.chg p2 (by omega)⟩
end
section
theorem qfa : ∀ (h : List Cell) (k : Nat), k <= h.length -> (∀ c ∈ h.take k, c.count ≠ 0) -> k <= q0p h
  | [], k, hk, _ => by simp at hk; simp [hk]
  | c :: h, 0, _, _ => Nat.zero_le _
  | c :: h, k + 1, hk, hn => by
    have h1 := hn c (by simp)
    have := qfa h k (by simpa using hk) (fun d hd => hn d (by simp [hd]))
    simp only [q0p]; rw [if_neg h1]; omega
theorem qjw : ∀ (h : List Cell) (k : Nat) (c : Cell), (∀ d ∈ h.take k, d.count ≠ 0) -> h[k]? = some c -> c.count = 0 -> q0p h = k
  | [], k, c, _, hc, _ => by simp at hc
  | d :: h, 0, c, _, hc, h0 => by simp at hc; subst hc; simp [q0p, h0]
  | d :: h, k + 1, c, hn, hc, h0 => by
    have h1 := hn d (by simp)
    have := qjw h k c (fun x hx => hn x (by simp [hx])) (by simpa using hc) h0
    simp only [q0p]; rw [if_neg h1, this]
theorem qlb {m : Mem} {hp : Sl} {h : List Cell} (hh : q1d m hp h) : Gets Tryz.prog q7w [Sl.v hp] m (vi (q0p h)) := by
  apply qgw
  have hl := hh.len
  refine forI (n := h.length) (hl ▸ hh.lim) (fun k m' => Ext m m' /\ ∀ c ∈ h.take k, c.count ≠ 0) ⟨Ext.refl _, by simp⟩ ?_
  rintro k m1 I μ hk ⟨hx, hn⟩ next
  refine ⟨fun h1 => ?_, fun h1 => ?_⟩
  · simp only [decide_eq_true_eq] at h1
    obtain ⟨c, hc⟩ := q02 (l := h) (k := k) (by omega)
    obtain ⟨f, hf, g0, _⟩ := (q1d.ext hx hh).at' hc
    refine ⟨by omega, by omega, c.count, by simpa using g0, fun h2 => ⟨?_, hx⟩, fun h2 => next (by omega) _ ⟨hx, q0l hc hn (by simpa using h2)⟩⟩
    rw [qjw h k c hn hc (by simpa using h2)]
  · simp only [decide_eq_false_iff_not] at h1
    refine ⟨?_, hx⟩
    have := qfa h k hk hn
    have := q5u h
    have e : (hp.len : Int) = (q0p h : Int) := by omega
    rw [e]
def upd (ro : Nat -> Nat) (b k : Nat) : Nat -> Nat := fun c => if c = b then k else ro c
theorem q2i (ro : Nat -> Nat) (b k : Nat) : upd ro b k b = k := if_pos rfl
theorem q12 {ro : Nat -> Nat} {b k c : Nat} (h : c ≠ b) : upd ro b k c = ro c := if_neg h
theorem Chg.upd {p : Nat -> Prop} {ro : Nat -> Nat} {m m' : Mem} (hx : Ext m m') (hn : ∀ b, m.size <= b -> ro b = 0) {b : Nat} (hb : m.size <= b) (hb' : b < m'.size) (k : Nat) : Chg p ro m (upd ro b k) m' :=
  ⟨hx.size, fun c hc => q12 (by omega), fun c hc => by rw [q12 (by omega)]; exact hn c (Nat.le_trans hx.size hc), fun c hc _ => hx.same c hc⟩
theorem qq3 {ro : Nat -> Nat} {m : Mem} {hp : Sl} {h : List Cell} (hh : q0z ro m hp h) (hn : ∀ b, m.size <= b -> ro b = 0) {a : Nat} (ha : a <= h.length) (t : Int) {fs : Sl} {l : List Int} (hf : q03 m fs l) (hsm : h.length <= 2000000000) (hl : l.length <= 1000000000) :
    q00 Tryz.prog qck [Sl.v hp, vi a, vi t, Sl.v fs] m fun v m' => ∃ ro' hp', v = Sl.v hp' /\ q0z ro' m' hp' (place h a ⟨1, t, l⟩) /\ HC ro m ro' m' := by
  apply qme
  unfold qhr
  simp -zeta only [q0c, q0d]
  refine (q56 hf hl).then hl fun s m1 o1 i1 h1 => ⟨s, rfl, ?_⟩
  intro m2 m3
  have h13 : Ext m1 m3 := ((Ext.refl m1).pushed _).scells (Nat.le_refl _) _ _
  have s3 : m3.size = m1.size + 1 := by simp [m3, m2, q04]
  have hx3 := h1.trans h13
  clear_value m3
  have c3 : HC ro m ro m3 := Chg.ofExt _ hx3 hn
  have hn3 := c3.new
  have hh3 : q0z ro m3 hp h := hh.chg (Chg.ofExt (fun _ => False) hx3 hn) id id
  have hlen := hh.len
  have i3 := i1.ext h13
  have hs0 : l ≠ [] -> ro s.blk = 0 := fun hne => by
    rcases o1.blk with e | e
    · subst e; have := i1.len; simp at this; exact absurd (List.length_eq_zero_iff.1 this.symm) hne
    · exact hn _ e
  have hbx : ro m1.size = 0 := hn _ h1.size
  refine ⟨fun e => ?_, fun e => ?_⟩
  · simp at e
    intro m4
    have h34 : Ext m3 m4 := (Ext.refl m3).pushed _
    have hrow : rowIs m4 m3.size 0 [.i 1, .i t, .s s] := (Blk.push m3 _ _).row
    have c4 : HC ro m ro m4 := c3.trans (Chg.ofExt _ h34 hn3)
    have s4 : m4.size = m3.size + 1 := by simp [m4]
    clear_value m4
    refine q0z.push (hh3.chg (Chg.ofExt (fun _ => False) h34 hn3) id id) c4.new (x := .mk m3.size 0 1 1) rfl hrow (i3.ext h34) hs0 hsm fun ro' r m5 q1 q2 => ⟨fun b hb => ?_, ro', r, rfl, ?_, c4.trans (q2.mono fun k hk => Or.inl hk)⟩
    · simp at hb; subst hb
      exact q2.keep _ (by omega) (by rw [hbx]; decide)
    · rw [place, if_pos (by omega)]; exact q1
  · simp at e
    have ha' : a < h.length := by omega
    have e1 : Int.toNat (a : Int) = a := by omega
    rw [e1]
    refine ⟨by omega, by omega, hh3.wr (o := 0) ha' (by decide), ?_⟩
    intro m5
    obtain ⟨q1, q2⟩ := hh3.setCell hn3 ha' 1 t i3 hs0
    refine ⟨fun b hb => ?_, ro, hp, rfl, ?_, c3.trans (q2.mono fun k hk => Or.inl hk)⟩
    · simp at hb; subst hb
      exact q2.keep _ (by omega) (by rw [hbx]; decide)
    · rw [place, if_neg (by omega)]; exact q1
theorem qo9 {h : List Cell} {n : Nat} {c : Cell} (hc : h[n]? = some c) (h0 : c.count ≠ 0) : trimN h (n + 1) = n + 1 := by
  simp only [trimN, hc]; rw [if_neg h0]
theorem qr7 {h : List Cell} {n : Nat} {c : Cell} (hc : h[n]? = some c) (h0 : c.count = 0) : trimN h (n + 1) = trimN h n := by
  simp only [trimN, hc]; rw [if_pos h0]
theorem qcd {m : Mem} {hp : Sl} {h : List Cell} (hh : q1d m hp h) : q00 Tryz.prog q79 [Sl.v hp] m fun v m' => v = Sl.v (hp.cut 0 (trimN h h.length) 3) /\ Ext m m' := by
  apply qny
  have hl := hh.len
  have hcap := hh.cap
  have hlim := hh.lim
  refine ⟨fun i m' => Ext m m' /\ ∃ n : Nat, i = n /\ n <= h.length /\ trimN h n = trimN h h.length, fun i _ => i.toNat, ⟨Ext.refl _, h.length, by omega, Nat.le_refl _, rfl⟩, ?_⟩
  rintro i m1 ⟨hx, n, rfl, hn, ht⟩
  have fin : trimN h n = n -> Value.slice = Value.slice -> (0 : Int) <= (0 : Int) /\ (0 : Int) <= (n : Int) /\ (n : Int) <= (hp.cap : Int) /\ (Sl.v (Sl.cut hp (Int.toNat (0 : Int)) (Int.toNat (n : Int)) 3) = Sl.v (hp.cut 0 (trimN h h.length) 3) /\ Ext m m1) := fun e _ => by
    refine ⟨by omega, by omega, by omega, ?_, hx⟩
    rw [← ht, e]; rfl
  refine ⟨fun h1 => ?_, fun h1 => ?_⟩
  · simp only [gt_iff_lt, decide_eq_true_eq] at h1
    obtain ⟨k, rfl⟩ : ∃ k, n = k + 1 := ⟨n - 1, by omega⟩
    have e1 : w64 (((k + 1 : Nat) : Int) - 1) = (k : Int) := by rw [q08 (by omega) (by omega)]; omega
    rw [e1]
    obtain ⟨c, hc⟩ := q02 (l := h) (k := k) (by omega)
    obtain ⟨f, hf, g0, _⟩ := (q1d.ext hx hh).at' hc
    refine ⟨by omega, by omega, c.count, by simpa using g0, fun h2 => ⟨⟨hx, k, rfl, by omega, ?_⟩, by show (k : Int).toNat < ((k + 1 : Nat) : Int).toNat; omega⟩, fun h2 => ?_⟩
    · rw [← ht, qr7 hc (by simpa using h2)]
    · exact fin (qo9 hc (by simpa using h2)) rfl
  · simp only [gt_iff_lt, decide_eq_false_iff_not] at h1
    have : n = 0 := by omega
    subst this
    exact fin rfl rfl
theorem Arr.pop {ro : Nat -> Nat} {m : Mem} {k : Nat} {s : Sl} {l : List Int} {w : Int} (h : Arr ro m ty_int 1 k s ((l ++ [w]).map Ce.i)) : s.len = l.length + 1 /\ gcell m s.blk (s.off + l.length * 1) = some (vi w) /\ Arr ro m ty_int 1 k (s.cut 0 l.length 1) (l.map Ce.i) := by
  have hl : s.len = l.length + 1 := by have := h.len; simp at this; omega
  refine ⟨hl, ?_, ?_⟩
  · have := h.row l.length (.i w) (by simp)
    rw [Nat.mul_one]; exact this
  · have := h.cut (n := l.length) (by omega)
    rw [Nat.mul_one, List.map_append, List.take_append_of_le_length (by simp), List.take_of_length_le (by simp)] at this
    exact this
theorem HInv.dropOne {h : List Cell} {w : Int} {r : List Int} {e : Nat -> Int} (hi : HInv h (fun b => e b + occ (w :: r) b)) (h0 : ∀ b, 0 <= e b) (hl : live h w) (h1 : (q01 h w).count = 1) : HInv (h.set (ix w) free) (fun b => e b + occ ((q01 h w).fields.reverse ++ r) b) := by
  obtain ⟨hc, hp⟩ := q0h hl
  refine HInv.gone hi hc h1 ?_ (by decide) (by decide) rfl (by simp [free]) (by simp [free]) (fun _ => rfl) fun b => ?_
  · simp only [q2e hl.1, if_pos]; have := h0 (ix w); have := occ_nn r (ix w); omega
  · simp only [q2e hl.1, q4a, qfc]; omega
theorem HInv.dropMore {h : List Cell} {w : Int} {r : List Int} {e : Nat -> Int} (hi : HInv h (fun b => e b + occ (w :: r) b)) (h0 : ∀ b, 0 <= e b) (hl : live h w) (h1 : (q01 h w).count ≠ 1) : HInv (less h w) (fun b => e b + occ r b) := by
  obtain ⟨hc, hp⟩ := q0h hl
  have hm := (hi.cell _ (q06 hc)).hi
  refine HInv.recount hi hc hp (by omega) (by omega) (fun b => ?_) ?_
  · simp only [q2e hl.1]; split <;> omega
  · have := h0 (ix w); have := occ_nn r (ix w); omega
theorem HInv.dropInt {h : List Cell} {w : Int} {r : List Int} {e : Nat -> Int} (hi : HInv h (fun b => e b + occ (w :: r) b)) (hw : w < 1000) : HInv h (fun b => e b + occ r b) :=
  hi.congr fun b => by simp only [occ]; rw [if_neg (by omega)]; omega
theorem HInv.dropLive {h : List Cell} {w : Int} {r : List Int} {e : Nat -> Int} (hi : HInv h (fun b => e b + occ (w :: r) b)) (h0 : ∀ b, 0 <= e b) (hw : 1000 <= w) : live h w :=
  ⟨hw, hi.lv _ (by simp only [q2e hw, if_pos]; have := h0 (ix w); have := occ_nn r (ix w); omega)⟩
def fsum : List Cell -> Nat
  | [] => 0
  | c :: h => c.fields.length + fsum h
theorem qci : ∀ {h : List Cell} {a : Nat} {c : Cell} (c' : Cell), h[a]? = some c -> fsum (h.set a c') + c.fields.length = fsum h + c'.fields.length
  | [], a, c, c', h => by simp at h
  | d :: h, 0, c, c', hc => by simp at hc; subst hc; simp only [List.set_cons_zero, fsum]; omega
  | d :: h, a + 1, c, c', hc => by
    have := qci (h := h) (a := a) c' (by simpa using hc)
    simp only [List.set_cons_succ, fsum]; omega
theorem qom : ∀ {h : List Cell}, (∀ c ∈ h, c.fields.length <= 3) -> fsum h <= 3 * h.length
  | [], _ => by simp [fsum]
  | c :: h, hc => by
    have := qom (fun d hd => hc d (List.mem_cons_of_mem _ hd))
    have := hc c List.mem_cons_self
    simp only [fsum, List.length_cons]; omega
theorem qks {ro : Nat -> Nat} {m : Mem} {hp : Sl} {h : List Cell} (hh : q0z ro m hp h) (hn : ∀ b, m.size <= b -> ro b = 0) {ws : Sl} {w : Int} (hw : q03 m ws [w]) {e : Nat -> Int} (hI : HInv h (fun b => e b + occ [w] b)) (he : ∀ b, 0 <= e b) (hsm : h.length <= 2000000000) :
    q00 Tryz.prog q80 [Sl.v hp, Sl.v ws] m fun v m' => ∃ ro' hp', v = Sl.v hp' /\ q0z ro' m' hp' (trim (dropS h [w])) /\ HC ro m ro' m' := by
  apply qgn
  unfold qby
  refine (q56 hw (by simp)).then (by simp) fun s0 m1 o1 i1 h1 => ⟨s0, rfl, ?_⟩
  have hs0 : s0 ≠ .nil := fun e => by subst e; have := i1.len; simp at this
  have hb0 : m.size <= s0.blk /\ s0.blk < m1.size := by
    rcases o1.blk with e | e
    · exact absurd e hs0
    · rcases o1.lt with e2 | e2
      · exact absurd e2 hs0
      · exact ⟨e, e2⟩
  have c1 : HC ro m (upd ro s0.blk 6) m1 := Chg.upd h1 hn hb0.1 hb0.2 6
  have a1 : Arr (upd ro s0.blk 6) m1 ty_int 1 6 s0 ([w].map Ce.i) := Arr.ofOwn o1 fun _ => q2i _ _ _
  have hh1 : q0z (upd ro s0.blk 6) m1 hp h := hh.chg (Chg.upd (p := fun _ => False) h1 hn hb0.1 hb0.2 6) id id
  have hfs := qom fun c hc => (hI.cell c hc).fl
  have hlen := hh.len
  refine whileG1 (γ := List Cell × List Int) (fun g todo m' => ∃ ro', q0z ro' m' hp g.1 /\ Arr ro' m' ty_int 1 6 todo (g.2.reverse.map Ce.i) /\ HC ro m ro' m' /\ HInv g.1 (fun b => e b + occ g.2 b) /\ dropS g.1 g.2 = dropS h [w] /\ g.1.length = h.length /\ g.2.length + fsum g.1 <= 1 + fsum h) (fun g => bulk g.1 + g.2.length) (h, [w])
    ⟨_, hh1, a1, c1, hI, rfl, rfl, by simp⟩ ?_
  rintro ⟨hc, st⟩ todo m2 I μ ⟨ro2, hh2, a2, c2, hI2, hd2, hl2, hf2⟩ next
  simp only [] at hh2 a2 hI2 hd2 hl2 hf2
  have htl : todo.len = st.length := by have := a2.len; simp at this; omega
  refine ⟨fun h3 => ?_, fun h3 => ?_⟩
  · simp only [gt_iff_lt, decide_eq_true_eq] at h3
    cases st with
    | nil => simp at htl; omega
    | cons x r =>
      simp only [List.reverse_cons] at a2
      obtain ⟨p1, p2, p3⟩ := a2.pop
      simp only [List.length_cons, List.length_reverse] at htl p1 p2 p3 hf2
      have e1 : w64 ((todo.len : Int) - 1) = (r.length : Int) := by rw [q08 (by omega) (by omega)]; omega
      have hcap := a2.le
      rw [e1]
      have e2 : Int.toNat (0 : Int) = 0 := rfl
      have e3 : Int.toNat (r.length : Int) = r.length := by omega
      rw [e2, e3]
      refine ⟨by omega, by omega, x, p2, by omega, by omega, by omega, (q1j _ _).then fun b m3 hb h4 => ⟨b, rfl, fun hbt => ?_, fun hbf => ?_⟩⟩
      · have hx := hb.1 hbt
        have hlv := hI2.dropLive he hx
        obtain ⟨hcc, hpos⟩ := q0h hlv
        have hlt := q07 hcc
        have hix : ix x = (x - 1000).toNat := rfl
        have hmx := (hI2.cell _ (q06 hcc)).hi
        have e4 : w64 (x - 1000) = x - 1000 := q08 (by omega) (by omega)
        rw [e4, ← hix]
        have hc3 : HC ro2 m2 ro2 m3 := Chg.ofExt _ h4 c2.new
        have hh3 : q0z ro2 m3 hp hc := hh2.chg (Chg.ofExt (fun _ => False) h4 c2.new) id id
        have a3 := p3.chg (Chg.ofExt (fun _ => False) h4 c2.new) id
        obtain ⟨f0, g0, _, _, _, _⟩ := hh3.get hcc
        refine ⟨by omega, by omega, _, g0, by omega, by omega, hh3.wr (o := 0) hlt (by decide), ?_⟩
        have e5 : w64 ((q01 hc x).count - 1) = (q01 hc x).count - 1 := q08 (by omega) (by omega)
        rw [e5]
        intro m4
        obtain ⟨hh4, c4⟩ := hh3.setCount hc3.new hcc ((q01 hc x).count - 1)
        have a4 := a3.chg c4 (by decide)
        have c24 : HC ro m ro2 m4 := (c2.trans hc3).trans (c4.mono fun k hk => Or.inl hk)
        have hbk := q2h (c' := free) hcc
        simp only [if_pos hpos, free] at hbk
        simp at hbk
        have hset : (hc.set (ix x) { q01 hc x with count := (q01 hc x).count - 1 })[ix x]? = some { q01 hc x with count := (q01 hc x).count - 1 } := q1a hcc
        obtain ⟨f1, k0, _, k2, kf, kr⟩ := hh4.get hset
        refine ⟨by omega, by omega, _, k0, fun h5 => ?_, fun h5 => ?_⟩
        · simp only [beq_iff_eq] at h5
          have hone : (q01 hc x).count = 1 := by omega
          have hfl := (hI2.cell _ (q06 hcc)).fl
          have hfll := kf.len
          simp only [] at hfll kf kr
          have hfs2 := qci free hcc
          simp only [free, List.length_nil] at hfs2
          refine ⟨by omega, by omega, f1, k2, Arr.append (zs := [.i 0]) (new := (q01 hc x).fields.map Ce.i) a4 c24.new (by simp [hfll]) kf.rows ?_ fun ro5 q m5 q1 q2 => ?_⟩
          · have : (todo.cut 0 r.length 1).len = r.length := by have := a4.len; simp at this; omega
            rw [this, hfll]; omega
          have hh5 := hh4.chg q2 (by decide) (by decide)
          have c25 : HC ro m ro5 m5 := c24.trans (q2.mono fun k hk => Or.inr (Or.inr hk))
          intro m6
          have h56 : Ext m5 m6 := (Ext.refl m5).pushed _
          have hh6 := hh5.chg (Chg.ofExt (fun _ => False) h56 c25.new) id id
          have a6 := q1.chg (Chg.ofExt (fun _ => False) h56 c25.new) id
          have c26 : HC ro m ro5 m6 := c25.trans (Chg.ofExt _ h56 c25.new)
          clear_value m6
          have hlt6 : ix x < (hc.set (ix x) { q01 hc x with count := (q01 hc x).count - 1 }).length := by simpa using hlt
          refine ⟨by omega, by omega, hh6.wr (o := 0) hlt6 (by decide), ?_⟩
          intro m7
          obtain ⟨hh7, c7⟩ := hh6.setCell c26.new hlt6 0 0 (f := .mk m5.size 0 0 0) (l := []) ⟨rfl, by simp, by simp, by simp⟩ (fun hne => absurd rfl hne)
          rw [List.set_set] at hh7
          refine next (hc.set (ix x) free, (q01 hc x).fields.reverse ++ r) _ _ ⟨ro5, hh7, ?_, c26.trans (c7.mono fun k hk => Or.inl hk), hI2.dropOne he hlv hone, ?_, by simpa using hl2, ?_⟩ ?_
          · have := a6.chg c7 (by decide)
            simpa using this
          · rw [← q8c hlv hone]; exact hd2
          · simp only [List.length_append, List.length_reverse]
            have e6 : fsum (hc.set (ix x) free) + (q01 hc x).fields.length = fsum hc := by simpa [free] using hfs2
            omega
          · simp only [List.length_append, List.length_reverse, List.length_cons]
            have e6 : bulk (hc.set (ix x) free) + ((q01 hc x).count.toNat + (q01 hc x).fields.length) = bulk hc := by simpa [free] using hbk
            omega
        · simp only [beq_eq_false_iff_ne] at h5
          have hne : (q01 hc x).count ≠ 1 := by omega
          have hbk2 := q2h (c' := { q01 hc x with count := (q01 hc x).count - 1 }) hcc
          simp only [if_pos hpos] at hbk2
          rw [if_pos (by omega)] at hbk2
          have hfs2 := qci { q01 hc x with count := (q01 hc x).count - 1 } hcc
          refine next (less hc x, r) _ _ ⟨ro2, hh4, a4, c24, hI2.dropMore he hlv hne, ?_, by simpa [less] using hl2, ?_⟩ ?_
          · rw [← q6l hlv hne]; exact hd2
          · simp only [less]; simp only [] at hfs2; omega
          · simp only [less, List.length_cons]; omega
      · have hx := fb hb hbf
        have hc3 : HC ro2 m2 ro2 m3 := Chg.ofExt _ h4 c2.new
        refine next (hc, r) _ _ ⟨ro2, hh2.chg (Chg.ofExt (fun _ => False) h4 c2.new) id id, p3.chg (Chg.ofExt (fun _ => False) h4 c2.new) id, c2.trans hc3, hI2.dropInt (by omega), ?_, hl2, by simp only []; omega⟩ (by simp)
        rw [← q6g (w := x) (fun hl => hx hl.1)]; exact hd2
  · simp only [gt_iff_lt, decide_eq_false_iff_not] at h3
    have hst : st = [] := List.length_eq_zero_iff.1 (by omega)
    subst hst
    rw [q8d] at hd2
    subst hd2
    refine (qcd (hh2.cells (by omega))).mono ?_
    rintro _ m3 ⟨rfl, h4⟩
    refine ⟨_, rfl, ro2, _, rfl, ?_, c2.trans (Chg.ofExt _ h4 c2.new)⟩
    exact (hh2.chg (Chg.ofExt (fun _ => False) h4 c2.new) id id).cut (q7u _ _)
end
section
structure ST (m0 : Mem) (ro : Nat -> Nat) (m : Mem) (mb e : Nat) (bx : List Ce) (out hp fr : Sl) (lo : List Int) (lh : List Cell) (fs : List Frame) (f : Frame) (r o h : Sl) (css : List (List Ce)) : Prop where
  lay : Lay m0 ro m mb e bx out hp fr lo lh (fs ++ [f])
  top : Top ro m fr fs f r o h css
section
variable {m0 : Mem} {ro ro' : Nat -> Nat} {m m' : Mem} {mb e : Nat} {bx : List Ce} {out hp fr : Sl} {lo : List Int} {lh : List Cell} {fs : List Frame} {f : Frame} {r o h : Sl} {css : List (List Ce)}
theorem ST.ext (S : ST m0 ro m mb e bx out hp fr lo lh fs f r o h css) (hx : Ext m m') : ST m0 ro m' mb e bx out hp fr lo lh fs f r o h css /\ To ro m ro m' :=
  ⟨⟨(S.lay.ext hx).1, S.top.ext S.lay.new hx⟩, (S.lay.ext hx).2⟩
theorem ST.setReg (S : ST m0 ro m mb e bx out hp fr lo lh fs f r o h css) {i : Int} (h0 : 0 <= i) (h1 : i < f.regs.length) (v : Int) : ST m0 ro (scells m r.blk (r.off + i.toNat * 1) [.i v]) mb e bx out hp fr lo lh fs { f with regs := setI f.regs i v } r o h css /\ To ro m ro (scells m r.blk (r.off + i.toNat * 1) [.i v]) := by
  obtain ⟨h2, h3⟩ := S.top.setReg S.lay.new h0 h1 v
  obtain ⟨h4, h5⟩ := S.lay.setFrames h3 h2.frm
  exact ⟨⟨h4, h2⟩, h5⟩
theorem ST.setOwn (S : ST m0 ro m mb e bx out hp fr lo lh fs f r o h css) {i : Int} (h0 : 0 <= i) (h1 : i < f.own.length) (v : Int) : ST m0 ro (scells m o.blk (o.off + i.toNat * 1) [.i v]) mb e bx out hp fr lo lh fs { f with own := setI f.own i v } r o h css /\ To ro m ro (scells m o.blk (o.off + i.toNat * 1) [.i v]) := by
  obtain ⟨h2, h3⟩ := S.top.setOwn S.lay.new h0 h1 v
  obtain ⟨h4, h5⟩ := S.lay.setFrames h3 h2.frm
  exact ⟨⟨h4, h2⟩, h5⟩
theorem ST.setHeld (S : ST m0 ro m mb e bx out hp fr lo lh fs f r o h css) {i : Int} (h0 : 0 <= i) (h1 : i < f.held.length) (v : Int) : ST m0 ro (scells m h.blk (h.off + i.toNat * 1) [.i v]) mb e bx out hp fr lo lh fs { f with held := setI f.held i v } r o h css /\ To ro m ro (scells m h.blk (h.off + i.toNat * 1) [.i v]) := by
  obtain ⟨h2, h3⟩ := S.top.setHeld S.lay.new h0 h1 v
  obtain ⟨h4, h5⟩ := S.lay.setFrames h3 h2.frm
  exact ⟨⟨h4, h2⟩, h5⟩
theorem ST.setPc (S : ST m0 ro m mb e bx out hp fr lo lh fs f r o h css) (v : Int) : ST m0 ro (scells m fr.blk (fr.off + fs.length * 6 + 1) [.i v]) mb e bx out hp fr lo lh fs { f with pc := v } r o h css /\ To ro m ro (scells m fr.blk (fr.off + fs.length * 6 + 1) [.i v]) := by
  obtain ⟨h2, h3⟩ := S.top.setPc S.lay.new v
  obtain ⟨h4, h5⟩ := S.lay.setFrames h3 h2.frm
  exact ⟨⟨h4, h2⟩, h5⟩
theorem ST.setBox (S : ST m0 ro m mb e bx out hp fr lo lh fs f r o h css) (i : Nat) (cs : List Ce) : ST m0 ro (scells m mb i cs) mb e (setL bx i cs) out hp fr lo lh fs f r o h css /\ To ro m ro (scells m mb i cs) := by
  obtain ⟨h2, h3⟩ := S.lay.setBox i cs
  exact ⟨⟨h2, S.top.chg (Chg.scells (p := fun k => k = 1) S.lay.new S.lay.rob i cs) fun k hk => by omega⟩, h3⟩
theorem ST.setHeap (S : ST m0 ro m mb e bx out hp fr lo lh fs f r o h css) (hc : HC ro m ro' m') {hp' : Sl} {lh' : List Cell} (hh : q0z ro' m' hp' lh') : ST m0 ro' m' mb e bx out hp' fr lo lh' fs f r o h css /\ To ro m ro' m' := by
  obtain ⟨h2, h3⟩ := S.lay.setHeap hc hh
  exact ⟨⟨h2, S.top.chg hc fun k hk => by omega⟩, h3⟩
theorem ST.setOut (S : ST m0 ro m mb e bx out hp fr lo lh fs f r o h css) (hc : Chg (fun k => k = 2) ro m ro' m') {out' : Sl} {lo' : List Int} (hh : Arr ro' m' ty_int 1 2 out' (lo'.map Ce.i)) : ST m0 ro' m' mb e bx out' hp fr lo' lh fs f r o h css /\ To ro m ro' m' := by
  obtain ⟨h2, h3⟩ := S.lay.setOut hc hh
  exact ⟨⟨h2, S.top.chg hc fun k hk => by omega⟩, h3⟩
end
theorem Chg.sam1 {ro ro' : Nat -> Nat} {m m' : Mem} (h : To ro m ro' m') {b : Nat} (hb : b < m.size) (h0 : ro b = 0) : Sam [b] m m' := h.sam (by simpa using ⟨hb, h0⟩)
abbrev SB (d p : Sl) (s : St) (out hp fr : Sl) : List Ce := [.s d, .s p, .i s.status, .i s.value, .i s.calls, .i s.most, .s out, .s hp, .s fr]
def SFin (m0 : Mem) (ro : Nat -> Nat) (m : Mem) (mb : Nat) (d p : Sl) (s : St) (m' : Mem) : Prop :=
  ∃ ro' out hp fr, Lay m0 ro' m' mb q0g (SB d p s out hp fr) out hp fr s.out s.heap s.frames /\ To ro m ro' m'
theorem SFin.from {m0 : Mem} {ro ro1 : Nat -> Nat} {m m1 m' : Mem} {mb : Nat} {d p : Sl} {s : St} (h : SFin m0 ro1 m1 mb d p s m') (ht : To ro m ro1 m1) : SFin m0 ro m mb d p s m' :=
  let ⟨ro', out, hp, fr, h1, h2⟩ := h
  ⟨ro', out, hp, fr, h1, ht.trans h2⟩
section
variable {m0 : Mem} {ro : Nat -> Nat} {m : Mem} {mb : Nat} {d p out hp fr : Sl} {s : St} {fs : List Frame} {f : Frame} {r o h : Sl} {css : List (List Ce)}
theorem q2o (S : ST m0 ro m mb q0g (SB d p s out hp fr) out hp fr s.out s.heap fs f r o h css) (hfs : fs.length <= 100000) (v : Int) :
    q00 Tryz.prog q0m [vp mb 0, vi v] m fun w m' => ST m0 ro m' mb q0g (SB d p s out hp fr) out hp fr s.out s.heap fs { f with pc := v } r o h css /\ To ro m ro m' := by
  apply q6n (mb, 0)
  have hg : gcell m mb 8 = some (Sl.v fr) := S.lay.box.get 8
  have hfl := S.top.frLen
  have e : w64 ((fr.len : Int) - 1) = (fs.length : Int) := by rw [q08 (by omega) (by omega)]; omega
  have e2 : Int.toNat (fs.length : Int) = fs.length := by omega
  refine ⟨fr, hg, fr, hg, ?_⟩
  rw [e, e2]
  exact ⟨by omega, by omega, S.top.wrPc, S.setPc v⟩
theorem qg8 (S : ST m0 ro m mb q0g (SB d p s out hp fr) out hp fr s.out s.heap fs f r o h css) (hfs : fs.length <= 100000) {i : Int} (h0 : 0 <= i) (h1 : i < f.regs.length) (h2 : i < f.own.length) (w : Int) (hpc : 0 <= f.pc /\ f.pc <= 100000) :
    q00 Tryz.prog q1q [vp mb 0, vi i, vi w] m fun _ m' => ST m0 ro m' mb q0g (SB d p s out hp fr) out hp fr s.out s.heap fs (Frame.put { f with pc := f.pc + 1 } i w 0) r o h css /\ To ro m ro m' := by
  apply qc4 (mb, 0)
  unfold q7a
  simp -zeta only [q0c, q0d]
  have hg : gcell m mb 8 = some (Sl.v fr) := S.lay.box.get 8
  have hfl := S.top.frLen
  have e : w64 ((fr.len : Int) - 1) = (fs.length : Int) := by rw [q08 (by omega) (by omega)]; omega
  have e2 : Int.toNat (fs.length : Int) = fs.length := by omega
  obtain ⟨g0, g1, g2, g3, g4, g5⟩ := S.top.row
  have hrl : r.len = f.regs.length := by have := S.top.regs.len; simp at this; omega
  have hol : o.len = f.own.length := by have := S.top.own.len; simp at this; omega
  refine ⟨fr, hg, fr, hg, ?_⟩
  rw [e, e2]
  refine ⟨by omega, by omega, _, g0, _, g1, _, g2, r, g3, o, g4, h, g5, ?_⟩
  intro m1 m2
  have hx2 : Ext m m2 := ((Ext.refl m).pushed _).scells (Nat.le_refl _) _ _
  have s2 : m2.size = m.size + 1 := by simp [m2, m1, q04]
  have hb0 : ro m.size = 0 := S.lay.new _ (Nat.le_refl _)
  obtain ⟨S2, t2⟩ := S.ext hx2
  clear_value m2
  refine ⟨h0, by omega, S2.top.regs.wrI h0 h1, ?_⟩
  intro m3
  obtain ⟨S3, t3⟩ := S2.setReg h0 h1 w
  have s3 : m3.size = m2.size := q04 _ _ _ _
  refine ⟨t3.sam1 (show m.size < m2.size by omega) hb0, h0, by omega, S3.top.own.wrI h0 h2, ?_⟩
  intro m4
  obtain ⟨S4, t4⟩ := S3.setOwn h0 (by simpa using h2) 0
  have s4 : m4.size = m3.size := q04 _ _ _ _
  have e3 : w64 (f.pc + 1) = f.pc + 1 := q08 (by omega) (by omega)
  rw [e3]
  refine ⟨t4.sam1 (show m.size < m3.size by omega) hb0, (q2o S4 hfs (f.pc + 1)).mono ?_⟩
  rintro _ m5 ⟨S5, t5⟩
  exact ⟨t5.sam1 (show m.size < m4.size by omega) hb0, S5, ((t2.trans t3).trans t4).trans t5⟩
theorem q9s (S : ST m0 ro m mb q0g (SB d p s out hp fr) out hp fr s.out s.heap fs f r o h css) (hfs : fs.length <= 100000) {i : Int} (h0 : 0 <= i) (h1 : i < f.regs.length) (h2 : i < f.own.length) (w : Int) :
    q00 Tryz.prog q2l [vp mb 0, vi i, vi w] m fun _ m' => ST m0 ro m' mb q0g (SB d p s out hp fr) out hp fr s.out s.heap fs (f.put i w (q1b w)) r o h css /\ To ro m ro m' := by
  apply qc5 (mb, 0)
  unfold q7d
  simp -zeta only [q0c, q0d]
  have hg : gcell m mb 8 = some (Sl.v fr) := S.lay.box.get 8
  have hfl := S.top.frLen
  have e : w64 ((fr.len : Int) - 1) = (fs.length : Int) := by rw [q08 (by omega) (by omega)]; omega
  have e2 : Int.toNat (fs.length : Int) = fs.length := by omega
  obtain ⟨g0, g1, g2, g3, g4, g5⟩ := S.top.row
  have hrl : r.len = f.regs.length := by have := S.top.regs.len; simp at this; omega
  have hol : o.len = f.own.length := by have := S.top.own.len; simp at this; omega
  refine ⟨fr, hg, fr, hg, ?_⟩
  rw [e, e2]
  refine ⟨by omega, by omega, _, g0, _, g1, _, g2, r, g3, o, g4, h, g5, ?_⟩
  intro m1 m2
  have hx2 : Ext m m2 := ((Ext.refl m).pushed _).scells (Nat.le_refl _) _ _
  have s2 : m2.size = m.size + 1 := by simp [m2, m1, q04]
  have hb0 : ro m.size = 0 := S.lay.new _ (Nat.le_refl _)
  obtain ⟨S2, t2⟩ := S.ext hx2
  clear_value m2
  refine ⟨h0, by omega, S2.top.regs.wrI h0 h1, ?_⟩
  intro m3
  obtain ⟨S3, t3⟩ := S2.setReg h0 h1 w
  have s3 : m3.size = m2.size := q04 _ _ _ _
  refine ⟨t3.sam1 (show m.size < m2.size by omega) hb0, h0, by omega, S3.top.own.wrI h0 h2, ?_⟩
  intro m4
  obtain ⟨S4, t4⟩ := S3.setOwn h0 (by simpa using h2) 0
  have s4 : m4.size = m3.size := q04 _ _ _ _
  refine ⟨t4.sam1 (show m.size < m3.size by omega) hb0, (q1j _ _).mono ?_⟩
  rintro _ m5 ⟨b, rfl, hb, h45⟩
  obtain ⟨S5, t5⟩ := S4.ext h45
  have s5 := h45.size
  refine ⟨t5.sam1 (show m.size < m4.size by omega) hb0, b, rfl, fun hbt => ?_, fun hbf => ?_⟩
  · refine ⟨h0, by omega, S5.top.own.wrI h0 (by simpa [q29] using h2), ?_⟩
    intro m6
    obtain ⟨S6, t6⟩ := S5.setOwn h0 (by simpa [q29] using h2) 1
    refine ⟨t6.sam1 (show m.size < m5.size by omega) hb0, ?_, (((t2.trans t3).trans t4).trans t5).trans t6⟩
    have e5 : setI (setI f.own i 0) i 1 = setI f.own i 1 := by simp [setI, List.set_set]
    have e6 : q1b w = 1 := by rw [q1b, if_pos (hb.1 hbt)]
    simp only [e5] at S6
    rw [e6]; exact S6
  · refine ⟨?_, ((t2.trans t3).trans t4).trans t5⟩
    have e6 : q1b w = 0 := by rw [q1b, if_neg (fb hb hbf)]
    rw [e6]; exact S5
theorem qaw : ∀ (ws : List Int) (g : List Cell), (refer g ws).length = g.length
  | [], g => rfl
  | w :: ws, g => by rw [refer, qaw ws]; simp [bump]
theorem qgt : ∀ (ws : List Int) (g : List Cell) (w : Int), refer g (ws ++ [w]) = bump (refer g ws) w
  | [], g, w => rfl
  | v :: ws, g, w => by rw [List.cons_append, refer, qgt ws, refer]
theorem qf0 : ∀ (ws : List Int) (g : List Cell) (n : Int), (∀ c ∈ g, -10 <= c.count /\ c.count <= n) -> ∀ c ∈ refer g ws, -10 <= c.count /\ c.count <= n + ws.length
  | [], g, n, h, c, hc => by have := h c hc; simp; omega
  | w :: ws, g, n, h, c, hc => by
    have := qf0 ws (bump g w) (n + 1) (fun d hd => by
      rcases q5c hd with rfl | ⟨b, _, hb⟩
      · simp only [q01]
        cases hg : g[ix w]? with
        | none =>
          unfold bump at hd
          rw [List.set_eq_of_length_le (List.getElem?_eq_none_iff.1 hg)] at hd
          have := h _ hd
          simp only [q01, hg] at this ⊢; omega
        | some x => have := h x (q06 hg); simp only [Option.getD_some]; omega
      · have := h d (q06 hb); omega) c hc
    simp only [List.length_cons]; omega
theorem qhw (L : Lay m0 ro m mb q0g (SB d p s out hp fr) out hp fr s.out s.heap fs) {ws : Sl} {l : List Int} (hw : q03 m ws l) (hr0 : l ≠ [] -> ro ws.blk = 0) (hin : ∀ w ∈ l, 1000 <= w /\ ix w < s.heap.length) (hcb : ∀ c ∈ s.heap, -10 <= c.count /\ c.count <= 999999) (hsm : l.length <= 1000000) (hhl : s.heap.length <= 2000000000) :
    q00 Tryz.prog q3p [vp mb 0, Sl.v ws] m fun _ m' => q0z ro m' hp (refer s.heap l) /\ Chg (fun k => k = 3) ro m ro m' := by
  apply qcq (mb, 0)
  have hwl := hw.len
  have hg : gcell m mb 7 = some (Sl.v hp) := L.box.get 7
  refine forI (n := l.length) (by omega) (fun k m' => q0z ro m' hp (refer s.heap (l.take k)) /\ Chg (fun k => k = 3) ro m ro m') ⟨L.heap, Chg.refl _ L.new⟩ ?_
  rintro k m1 I μ hk ⟨hh, hc⟩ next
  refine ⟨fun h1 => ?_, fun h1 => ?_⟩
  · simp only [decide_eq_true_eq] at h1
    obtain ⟨x, hx⟩ := q02 (l := l) (k := k) (by omega)
    obtain ⟨hx1, hx2⟩ := hin x (q06 hx)
    have hne : l ≠ [] := fun e => by rw [e] at hx; simp at hx
    have hw1 : q03 m1 ws l := q2g hw fun _ => hc.keep _ (q2s hw hne) (by rw [hr0 hne]; decide)
    have hg1 : gcell m1 mb 7 = some (Sl.v hp) := by rw [q1l (hc.keep _ L.box.lt (by rw [L.rob]; decide))]; exact hg
    have hlen := hh.len
    rw [qaw] at hlen
    obtain ⟨c, hcc⟩ := q02 (l := refer s.heap (l.take k)) (k := ix x) (by rw [qaw]; exact hx2)
    obtain ⟨f1, g0, _⟩ := hh.get hcc
    have hix : ix x = (x - 1000).toNat := rfl
    have e4 : w64 (x - 1000) = x - 1000 := q08 (by omega) (by omega)
    have hcb2 := qf0 (l.take k) s.heap 999999 hcb c (q06 hcc)
    have hlk : ((l.take k).length : Int) <= 1000000 := by simp; omega
    have e5 : w64 (c.count + 1) = c.count + 1 := q08 (by omega) (by omega)
    refine ⟨by omega, by omega, x, by simpa using hw1.at' hx, hp, hg1, hp, hg1, ?_⟩
    rw [e4, ← hix]
    refine ⟨by omega, by omega, c.count, g0, by omega, by omega, hh.wr (o := 0) (by rw [qaw]; exact hx2) (by decide), ?_⟩
    rw [e5]
    obtain ⟨hh2, hc2⟩ := hh.setCount hc.new hcc (c.count + 1)
    refine next (by omega) _ ⟨?_, hc.trans hc2⟩
    rw [q0a hx, qgt]
    have : q01 (refer s.heap (l.take k)) x = c := by simp [q01, hcc]
    unfold bump
    rw [this]; exact hh2
  · simp only [decide_eq_false_iff_not] at h1
    rw [q0k (by omega)] at hh
    exact ⟨hh, hc⟩
theorem qg2 (L : Lay m0 ro m mb q0g (SB d p s out hp fr) out hp fr s.out s.heap fs) {w : Int} (hl : live s.heap w) {e : Nat -> Int} (hI : HInv s.heap e) (hhl : s.heap.length <= 2000000000) :
    q00 Tryz.prog q3a [vp mb 0, vi w] m fun v m' => ∃ b : Bool, v = vb b /\ (b = true ↔ (q01 s.heap w).count = 1) /\ Chg (fun k => k = 3) ro m ro m' /\ (b = true -> q0z ro m' hp s.heap) /\ (b = false -> q0z ro m' hp (refer (less s.heap w) (ptrs (q01 s.heap w).fields))) := by
  apply qc1 (mb, 0)
  unfold q7b
  obtain ⟨hcc, hpos⟩ := q0h hl
  have hlt := q07 hcc
  have hlen := L.heap.len
  have hix : ix w = (w - 1000).toNat := rfl
  have hl1 := hl.1
  have e4 : w64 (w - 1000) = w - 1000 := q08 (by omega) (by omega)
  have hg : gcell m mb 7 = some (Sl.v hp) := L.box.get 7
  have hmx := (hI.cell _ (q06 hcc)).hi
  have e5 : w64 ((q01 s.heap w).count - 1) = (q01 s.heap w).count - 1 := q08 (by omega) (by omega)
  obtain ⟨f0, g0, g1, g2, gf, gr⟩ := L.heap.get hcc
  rw [e4, ← hix]
  refine ⟨hp, hg, by omega, by omega, _, g0, fun h1 => ?_, fun h1 => ?_⟩
  · exact ⟨true, rfl, by simpa using h1, Chg.refl _ L.new, fun _ => L.heap, fun h => by simp at h⟩
  · simp only [beq_eq_false_iff_ne] at h1
    refine ⟨hp, hg, hp, hg, by omega, by omega, _, g0, by omega, by omega, L.heap.wr (o := 0) hlt (by decide), ?_⟩
    rw [e5]
    intro m1
    obtain ⟨hh1, c1⟩ := L.heap.setCount L.new hcc ((q01 s.heap w).count - 1)
    obtain ⟨f1, k0, k1, k2, kf, kr⟩ := hh1.get (q1a hcc)
    obtain ⟨L1, t1⟩ := L.setHeap (c1.mono fun k hk => Or.inl hk) hh1
    have hfl := (hI.cell _ (q06 hcc)).fl
    refine ⟨hp, L1.box.get 7, by omega, by omega, f1, k2, ?_⟩
    refine (q60 kf (by simp only []; omega)).then (by have := q4e (q01 s.heap w).fields; simp only []; omega) fun ps m2 o2 i2 h2 => ⟨ps, rfl, ?_⟩
    obtain ⟨L2, t2⟩ := L1.ext h2
    have hps0 : ptrs (q01 s.heap w).fields ≠ [] -> ro ps.blk = 0 := fun hne => by
      rcases o2.blk with e | e
      · subst e; have := i2.len; simp at this; exact absurd (List.length_eq_zero_iff.1 this.symm) hne
      · exact c1.new _ e
    have := q4e (q01 s.heap w).fields
    refine (qhw (s := { s with heap := less s.heap w }) (fs := fs) L2 i2 hps0 (fun v hv => ?_) (fun c hc => ?_) (by simp only []; omega) (by simpa [less] using hhl)).mono ?_
    · obtain ⟨hv1, hv2⟩ := q2z.1 hv
      have hlv := hI.field (q06 hcc) hv1 hv2
      exact ⟨hv2, by simpa [less] using q07 (q0h hlv).1⟩
    · rcases q5c hc with rfl | ⟨b, _, hb⟩
      · simp only []; omega
      · have := hI.cell c (q06 hb); have h5 := this.lo; have h6 := this.hi; omega
    · rintro _ m3 ⟨hh3, c3⟩
      exact ⟨false, rfl, by simpa using h1, (c1.trans (Chg.ofExt _ h2 c1.new)).trans c3, fun h => by simp at h, fun _ => hh3⟩
end
end
section
def Bx0 (ro : Nat -> Nat) (m : Mem) (bs : List Nat) : Prop := ∀ b ∈ bs, b < m.size /\ ro b = 0
theorem Bx0.to {p : Nat -> Prop} {ro ro' : Nat -> Nat} {m m' : Mem} {bs : List Nat} (h : Bx0 ro m bs) (t : Chg p ro m ro' m') : Bx0 ro' m' bs := fun b hb => ⟨Nat.lt_of_lt_of_le (h b hb).1 t.size, by rw [t.role b (h b hb).1]; exact (h b hb).2⟩
theorem Chg.samB {ro ro' : Nat -> Nat} {m m' : Mem} (t : To ro m ro' m') {bs : List Nat} (h : Bx0 ro m bs) : Sam bs m m' := t.sam h
theorem Bx0.two {ro : Nat -> Nat} {m m1 m2 : Mem} (hn : ∀ b, m.size <= b -> ro b = 0) (h1 : m1.size = m.size + 1) (h2 : m2.size = m.size + 2) : Bx0 ro m2 [m1.size, m.size] := fun b hb => by
  simp at hb
  rcases hb with rfl | rfl
  · exact ⟨by omega, hn _ (by omega)⟩
  · exact ⟨by omega, hn _ (by omega)⟩
noncomputable def consSt (s : St) (fs : List Frame) (f : Frame) (x : Instr) (t : Int) : St :=
  open Classical in
  if x.into ≠ 0 /\ at' f.held (x.into - 1) ≠ 0 then
    { s with heap := s.heap.set (ix (at' f.held (x.into - 1))) ⟨1, t, words f x.args⟩, frames := fs ++ [Frame.put { f with pc := f.pc + 1, held := setI f.held (x.into - 1) 0 } x.dst (at' f.held (x.into - 1)) 1] }
  else { s with heap := place s.heap (q0p s.heap) ⟨1, t, words f x.args⟩, frames := fs ++ [Frame.put { f with pc := f.pc + 1 } x.dst (1000 + q0p s.heap) 1] }
section
variable {m0 : Mem} {ro : Nat -> Nat} {m : Mem} {mb : Nat} {d p out hp fr : Sl} {s : St} {fs : List Frame} {f : Frame} {r o h : Sl} {css : List (List Ce)}
theorem ST.regSl {e : Nat} {bx : List Ce} {lo : List Int} {lh : List Cell} (S : ST m0 ro m mb e bx out hp fr lo lh fs f r o h css) (hl : f.regs.length <= 1000000) : q03 m r f.regs := S.top.regs.ints (by omega)
theorem ST.ownSl {e : Nat} {bx : List Ce} {lo : List Int} {lh : List Cell} (S : ST m0 ro m mb e bx out hp fr lo lh fs f r o h css) (hl : f.own.length <= 1000000) : q03 m o f.own := S.top.own.ints (by omega)
theorem ST.heldSl {e : Nat} {bx : List Ce} {lo : List Int} {lh : List Cell} (S : ST m0 ro m mb e bx out hp fr lo lh fs f r o h css) (hl : f.held.length <= 1000000) : q03 m h f.held := S.top.held.ints (by omega)
theorem qbn (S : ST m0 ro m mb q0g (SB d p s out hp fr) out hp fr s.out s.heap fs f r o h css) {x : Instr} {a j : Sl} (ha : q03 m0 a x.args) (hargs : ∀ y ∈ x.args, 0 <= y /\ y < f.regs.length) (hal : x.args.length <= 4) (t : Int)
    (hlen : f.regs.length = f.own.length /\ f.held.length = f.own.length /\ f.own.length <= 2000) (hdst : 0 <= x.dst /\ x.dst < f.own.length) (hinto : 0 <= x.into /\ x.into <= f.held.length) (hpc : 0 <= f.pc /\ f.pc <= 100000) (hfs : fs.length <= 100000) (hhl : s.heap.length <= 1000000000)
    (hkept : ∀ w ∈ f.held, w ≠ 0 -> 1000 <= w /\ ix w < s.heap.length) :
    q00 Tryz.prog q2n [vp mb 0, fv f r o h, xv x a j, vi t] m fun _ m' => SFin m0 ro m mb d p (consSt s fs f x t) m' := by
  apply q9p (mb, 0)
  unfold q5s
  simp -zeta only [q0c, q0d]
  intro m1 m2
  have hx2 : Ext m m2 := ((Ext.refl m).pushed _).pushed _
  have s1 : m1.size = m.size + 1 := by simp [m1]
  have s2 : m2.size = m.size + 2 := by simp [m2, s1]
  have B2 := Bx0.two S.lay.new s1 s2
  obtain ⟨S2, t2⟩ := S.ext hx2
  clear_value m2
  have hhlen : h.len = f.held.length := by have := S.top.held.len; simp at this; omega
  have g7 : ∀ {ro m f}, ST m0 ro m mb q0g (SB d p s out hp fr) out hp fr s.out s.heap fs f r o h css -> gcell m mb 7 = some (Sl.v hp) := fun S => S.lay.box.get 7
  refine ⟨hp, g7 S2, (qlb (S2.lay.heap.cells (by omega))).mono ?_⟩
  rintro _ m3 ⟨rfl, h23⟩
  obtain ⟨S3, t3⟩ := S2.ext h23
  have B3 := B2.to t3
  refine ⟨t3.samB B2, _, rfl, fun at0 m' => ∃ (a0 : Nat) (f' : Frame), at0 = a0 /\ ST m0 ro m' mb q0g (SB d p s out hp fr) out hp fr s.out s.heap fs f' r o h css /\ To ro m ro m' /\ Bx0 ro m' [m1.size, m.size] /\ a0 <= s.heap.length /\
      f'.regs = f.regs /\ f'.own = f.own /\ f'.pc = f.pc /\ consSt s fs f x t = { s with heap := place s.heap a0 ⟨1, t, words f x.args⟩, frames := fs ++ [Frame.put { f' with pc := f.pc + 1 } x.dst (1000 + a0) 1] }, ?_, ?_⟩
  · have none : ¬ (x.into ≠ 0 /\ at' f.held (x.into - 1) ≠ 0) -> ∃ (a0 : Nat) (f' : Frame), ((q0p s.heap : Nat) : Int) = a0 /\ ST m0 ro m3 mb q0g (SB d p s out hp fr) out hp fr s.out s.heap fs f' r o h css /\ To ro m ro m3 /\ Bx0 ro m3 [m1.size, m.size] /\ a0 <= s.heap.length /\
        f'.regs = f.regs /\ f'.own = f.own /\ f'.pc = f.pc /\ consSt s fs f x t = { s with heap := place s.heap a0 ⟨1, t, words f x.args⟩, frames := fs ++ [Frame.put { f' with pc := f.pc + 1 } x.dst (1000 + a0) 1] } := fun hno =>
      ⟨_, f, rfl, S3, t2.trans t3, B3, q5u _, rfl, rfl, rfl, by rw [consSt, if_neg hno]⟩
    refine ⟨fun h1 => ?_, fun h1 => none fun hh => by simp at h1; omega⟩
    simp at h1
    have e1 : w64 (x.into - 1) = x.into - 1 := q08 (by omega) (by omega)
    rw [e1]
    have hi0 : 0 <= x.into - 1 /\ x.into - 1 < f.held.length := by omega
    have gh := (S3.heldSl (by omega)).atI hi0.1 hi0.2
    refine ⟨by omega, by omega, _, gh, fun h2 => ?_, fun h2 => none fun hh => by simp at h2; exact hh.2 h2⟩
    simp at h2
    obtain ⟨hw1, hw2⟩ := hkept _ (q13 hi0.1 hi0.2) h2
    refine ⟨by omega, by omega, _, gh, by omega, by omega, S3.top.held.wrI hi0.1 hi0.2, ?_⟩
    intro m4
    obtain ⟨S4, t4⟩ := S3.setHeld hi0.1 hi0.2 0
    have hix : ix (at' f.held (x.into - 1)) = (at' f.held (x.into - 1) - 1000).toNat := rfl
    have e2 : w64 (at' f.held (x.into - 1) - 1000) = ((ix (at' f.held (x.into - 1)) : Nat) : Int) := by rw [q08 (by omega) (by omega)]; omega
    refine ⟨t4.samB B3, ix (at' f.held (x.into - 1)), _, e2, S4, (t2.trans t3).trans t4, B3.to t4, by omega, rfl, rfl, rfl, ?_⟩
    rw [consSt, if_pos ⟨by omega, h2⟩, place, if_neg (by omega), ptr_ix hw1]
  · rintro at0 m4 ⟨a0, f', rfl, S4, t4, B4, ha0, er, eo, ep, ec⟩
    have hx4 : Ext m0 m4 := S4.lay.base
    have hr4 : q03 m4 r f.regs := er ▸ S4.regSl (by rw [er]; omega)
    refine ⟨hp, g7 S4, (q8x (f := f) hr4 (ha.ext hx4) hargs (by omega)).mono ?_⟩
    rintro _ m5 ⟨ws, rfl, ow, h45⟩
    obtain ⟨S5, t5⟩ := S4.ext h45
    have B5 := B4.to t5
    have hwl : (words f x.args).length <= 1000000000 := by simp [words]; omega
    have iw : q03 m5 ws (words f x.args) := q03.ofOwn ow (by omega)
    refine ⟨t5.samB B4, ws, rfl, by rw [g7 S5, g7 S4], (qq3 S5.lay.heap S5.lay.new ha0 t iw (by omega) hwl).mono ?_⟩
    rintro _ m6 ⟨ro6, hp6, rfl, hh6, c6⟩
    obtain ⟨S6, t6⟩ := S5.setHeap c6 hh6
    have B6 := B5.to t6
    refine ⟨t6.samB B5, hp6, rfl, S6.lay.wrBox (i := 7) (by simp), ?_⟩
    intro m7
    obtain ⟨S7, t7⟩ := S6.setBox 7 [.s hp6]
    have B7 := B6.to t7
    have e3 : w64 (1000 + (a0 : Int)) = 1000 + (a0 : Int) := q08 (by omega) (by omega)
    have e4 : w64 (f.pc + 1) = f.pc + 1 := q08 (by omega) (by omega)
    rw [e3, e4]
    refine ⟨t7.samB B6, (q9s (s := { s with heap := place s.heap a0 ⟨1, t, words f x.args⟩ }) S7 hfs hdst.1 (by rw [er]; omega) (by rw [eo]; omega) (1000 + a0)).mono ?_⟩
    rintro _ m8 ⟨S8, t8⟩
    have B8 := B7.to t8
    refine ⟨t8.samB B7, (q2o (s := { s with heap := place s.heap a0 ⟨1, t, words f x.args⟩ }) S8 hfs (f.pc + 1)).mono ?_⟩
    rintro _ m9 ⟨S9, t9⟩
    refine ⟨t9.samB B8, ro6, out, hp6, fr, ?_, ((((t4.trans t5).trans t6).trans t7).trans t8).trans t9⟩
    rw [ec]
    have e5 : q1b (1000 + (a0 : Int)) = 1 := by rw [q1b, if_pos (by omega)]
    have := S9.lay
    rw [e5] at this
    exact this
theorem q8m : ∀ (rs own : List Int) (r : Int), q0v own (rs ++ [r]) = setI (q0v own rs) r (at' (q0v own rs) r + 1)
  | [], own, r => rfl
  | q :: rs, own, r => by rw [List.cons_append, q0v, q8m rs, q0v]
theorem qgl {l : List Int} {i n : Int} (h : ∀ o ∈ l, 0 <= o /\ o <= n) (hn : 0 <= n) : 0 <= at' l i /\ at' l i <= n := by
  rcases Nat.lt_or_ge i.toNat l.length with h1 | h1
  · obtain ⟨y, hy⟩ := q02 h1
    rw [at_of' hy]; exact h y (q06 hy)
  · rw [at', List.getD_eq_getElem?_getD, List.getElem?_eq_none h1]; simp; omega
theorem q7j : ∀ (rs own : List Int) (n : Int), 0 <= n -> (∀ o ∈ own, 0 <= o /\ o <= n) -> ∀ o ∈ q0v own rs, 0 <= o /\ o <= n + rs.length
  | [], own, n, hn, h, o, ho => by have := h o ho; simp; omega
  | r :: rs, own, n, hn, h, o, ho => by
    have := q7j rs (setI own r (at' own r + 1)) (n + 1) (by omega) (fun q hq => by
      have := qgl (i := r) h hn
      rcases q4u hq with hq | hq
      · omega
      · have := h q hq; omega) o ho
    simp only [List.length_cons]; omega
noncomputable def openSt (s : St) (fs : List Frame) (f : Frame) (x : Instr) : St :=
  open Classical in
  if (q01 s.heap (at' f.regs (at' x.args 0))).count = 1 /\ x.op = 17 then
    { s with heap := s.heap.set (ix (at' f.regs (at' x.args 0))) ⟨-1, 0, q0i (q01 s.heap (at' f.regs (at' x.args 0))).fields.length⟩, frames := fs ++ [{ f with own := q0v f.own (x.args.drop 1), pc := f.pc + 1, held := setI f.held (at' x.args 0) (at' f.regs (at' x.args 0)) }] }
  else { s with heap := apart s.heap (at' f.regs (at' x.args 0)), frames := fs ++ [{ f with own := q0v f.own (x.args.drop 1), pc := f.pc + 1 }] }
theorem q96 (n : Nat) : zrow [.i (0 : Int)] n = (q0i n).map Ce.i := by
  induction n with
  | zero => rfl
  | succ n ih =>
    have : zrow [.i (0 : Int)] (n + 1) = .i 0 :: zrow [.i (0 : Int)] n := by simp [zrow, List.replicate_succ]
    rw [this, ih]; simp [q0i, List.replicate_succ]
theorem q7g {m : Mem} {n : Int} (h0 : 0 <= n) (h1 : n <= 1000000) : q00 Tryz.prog q4m [vi n] m fun v m' => v = Sl.v (.mk m.size 0 n.toNat n.toNat) /\ m' = m.push (.cells (vals ((q0i n.toNat).map Ce.i)) ty_int) := by
  apply qm5
  refine ⟨h0, Int.le_refl _, by omega, by omega, ?_⟩
  rw [q96]
  exact ⟨rfl, rfl⟩
theorem qpg {m : Mem} (n : Nat) : Own m (m.push (.cells (vals ((q0i n).map Ce.i)) ty_int)) ty_int 1 (.mk m.size 0 n n) ((q0i n).map Ce.i) := Own.new (Ext.refl m) ty_int 1 _ n (by simp [q2a])
theorem qn1 (S : ST m0 ro m mb q0g (SB d p s out hp fr) out hp fr s.out s.heap fs f r o h css) {x : Instr} {a j : Sl} (ha : q03 m0 a x.args) (hargs : ∀ y ∈ x.args, 0 <= y /\ y < f.regs.length) (hal : 1 <= x.args.length /\ x.args.length <= 4) (hop : x.op = 16 \/ x.op = 17)
    (hlen : f.regs.length = f.own.length /\ f.held.length = f.own.length /\ f.own.length <= 2000) (hpc : 0 <= f.pc /\ f.pc <= 100000) (hfs : fs.length <= 100000) (hhl : s.heap.length <= 1000000000) (hown : ∀ q ∈ f.own, 0 <= q /\ q <= 999999)
    (hlv : live s.heap (at' f.regs (at' x.args 0))) {e : Nat -> Int} (hI : HInv s.heap e) :
    q00 Tryz.prog q43 [vp mb 0, fv f r o h, xv x a j] m fun _ m' => SFin m0 ro m mb d p (openSt s fs f x) m' := by
  apply qat (mb, 0)
  unfold q61
  simp -zeta only [q0c, q0d]
  intro m1 m2
  have hx2 : Ext m m2 := ((Ext.refl m).pushed _).pushed _
  have s1 : m1.size = m.size + 1 := by simp [m1]
  have s2 : m2.size = m.size + 2 := by simp [m2, s1]
  have B2 := Bx0.two S.lay.new s1 s2
  obtain ⟨S2, t2⟩ := S.ext hx2
  clear_value m2
  have hrl : r.len = f.regs.length := by have := S.top.regs.len; simp at this; omega
  have hol : o.len = f.own.length := by have := S.top.own.len; simp at this; omega
  have hhlen : h.len = f.held.length := by have := S.top.held.len; simp at this; omega
  have hal' := ha.len
  have h0 : 0 <= at' x.args 0 /\ at' x.args 0 < f.regs.length := hargs _ (q13 (by omega) (by omega))
  have ga : ∀ {m'}, Ext m0 m' -> ∀ {k : Nat} {y}, x.args[k]? = some y -> gcell m' a.blk (a.off + Int.toNat (k : Int) * 1) = some (vi y) := fun hx k y hy => by simpa using (ha.ext hx).at' hy
  refine ⟨by omega, by omega, at' x.args 0, (ha.ext S2.lay.base).atI (by omega) (by omega), h0.1, by omega, at' f.regs (at' x.args 0), (S2.regSl (by omega)).atI h0.1 h0.2, ?_⟩
  refine ⟨fun i m' => ∃ k : Nat, i = k /\ 1 <= k /\ k <= x.args.length /\ ST m0 ro m' mb q0g (SB d p s out hp fr) out hp fr s.out s.heap fs { f with own := q0v f.own ((x.args.take k).drop 1) } r o h css /\ To ro m ro m' /\ Bx0 ro m' [m1.size, m.size], fun i _ => ((x.args.length : Int) - i).toNat, ⟨1, rfl, by omega, by omega, ?_, t2, B2⟩, ?_⟩
  · have e1 : (x.args.take 1).drop 1 = [] := by simp
    rw [e1]; exact S2
  rintro i m3 ⟨k, rfl, hk1, hk2, S3, t3, B3⟩
  have hkb : ∀ q ∈ q0v f.own ((x.args.take k).drop 1), 0 <= q /\ q <= 1000010 := fun q hq => by
    have := q7j _ f.own 999999 (by omega) hown q hq
    have h3 : ((x.args.take k).drop 1).length <= 4 := by simp; omega
    omega
  refine ⟨fun h1 => ?_, fun h1 => ?_⟩
  · simp only [decide_eq_true_eq] at h1
    obtain ⟨y, hy⟩ := q02 (l := x.args) (k := k) (by omega)
    have hyr := hargs y (q06 hy)
    have hyo : y < (q0v f.own ((x.args.take k).drop 1)).length := by rw [q3s]; omega
    have hb := qgl (i := y) hkb (by omega)
    refine ⟨by omega, by omega, y, ga S3.lay.base hy, by omega, by omega, y, ga S3.lay.base hy, hyr.1, by omega, _, (S3.ownSl (by simp only [q3s]; omega)).atI hyr.1 hyo, hyr.1, by omega, S3.top.own.wrI hyr.1 hyo, ?_⟩
    intro m4
    have e2 : w64 (at' (q0v f.own ((x.args.take k).drop 1)) y + 1) = at' (q0v f.own ((x.args.take k).drop 1)) y + 1 := q08 (by omega) (by omega)
    obtain ⟨S4, t4⟩ := S3.setOwn hyr.1 hyo (at' (q0v f.own ((x.args.take k).drop 1)) y + 1)
    have e3 : m4 = scells m3 o.blk (o.off + y.toNat * 1) [.i (at' (q0v f.own ((x.args.take k).drop 1)) y + 1)] := by simp only [m4, e2]
    clear_value m4
    subst e3
    refine ⟨t4.samB B3, ?_, ?_⟩
    · rw [qcl (k := k) (n := x.args.length) (by omega) (by omega)]
      refine ⟨k + 1, rfl, by omega, by omega, ?_, t3.trans t4, B3.to t4⟩
      have e4 : (x.args.take (k + 1)).drop 1 = (x.args.take k).drop 1 ++ [y] := by
        rw [q0a hy, List.drop_append_of_le_length (by simp; omega)]
      rw [e4, q8m]
      exact S4
    · rw [qcl (k := k) (n := x.args.length) (by omega) (by omega)]
      show ((x.args.length : Int) - ((k + 1 : Nat) : Int)).toNat < ((x.args.length : Int) - (k : Int)).toNat
      omega
  · simp only [decide_eq_false_iff_not] at h1
    have e1 : (x.args.take k).drop 1 = x.args.drop 1 := by rw [q0k (by omega)]
    rw [e1] at S3
    have hwx := ptr_ix hlv.1
    obtain ⟨hcc, hpos⟩ := q0h hlv
    have hlt := q07 hcc
    have hlen3 := S3.lay.heap.len
    have e4 : w64 (f.pc + 1) = f.pc + 1 := q08 (by omega) (by omega)
    have hl1 := hlv.1
    have hix : ix (at' f.regs (at' x.args 0)) = (at' f.regs (at' x.args 0) - 1000).toNat := rfl
    have e5 : w64 (at' f.regs (at' x.args 0) - 1000) = at' f.regs (at' x.args 0) - 1000 := q08 (by omega) (by omega)
    rw [e4, e5, ← hix]
    generalize hw : at' f.regs (at' x.args 0) = w at *
    have gw : ∀ {ro m lh own' held'}, ST m0 ro m mb q0g (SB d p s out hp fr) out hp fr s.out lh fs { f with own := own', held := held' } r o h css -> gcell m r.blk (r.off + Int.toNat (at' x.args 0) * 1) = some (vi w) := fun S => by rw [← hw]; exact (S.regSl (by simp only []; omega)).atI h0.1 h0.2
    refine ⟨h0.1, by omega, w, gw S3, (qg2 S3.lay hlv hI (by omega)).mono ?_⟩
    rintro _ m4 ⟨b, rfl, hb, c4, hbt4, hbf4⟩
    refine ⟨(c4.mono fun k hk => by omega : To ro m3 ro m4).samB B3, b, rfl, fun hbt => ?_, fun hbf => ?_⟩
    · have hone := hb.1 hbt
      obtain ⟨S4, t4⟩ := S3.setHeap (c4.mono fun k hk => Or.inl hk) (hbt4 hbt)
      have B4 := B3.to t4
      have g7 : gcell m4 mb 7 = some (Sl.v hp) := S4.lay.box.get 7
      refine ⟨fun h17 => ?_, fun h17 => ?_⟩
      · simp at h17
        obtain ⟨f0, k0, k1, k2, kf, kr⟩ := S4.lay.heap.get hcc
        have hfl := (hI.cell _ (q06 hcc)).fl
        have hfll := kf.len
        refine ⟨hp, g7, hp, g7, by omega, by omega, f0, k2, (q7g (by omega) (by omega)).mono ?_⟩
        rintro _ m5 ⟨rfl, rfl⟩
        have e6 : Int.toNat (f0.len : Int) = (q01 s.heap w).fields.length := by omega
        rw [e6]
        have h45 : Ext m4 (m4.push (.cells (vals ((q0i (q01 s.heap w).fields.length).map Ce.i)) ty_int)) := Ext.push _ _
        have oz := qpg (m := m4) (q01 s.heap w).fields.length
        obtain ⟨S5, t5⟩ := S4.ext h45
        have B5 := B4.to t5
        have hz0 : ro m4.size = 0 := S4.lay.new _ (Nat.le_refl _)
        generalize m4.push (.cells (vals ((q0i (q01 s.heap w).fields.length).map Ce.i)) ty_int) = m5 at *
        obtain ⟨hh6, c6⟩ := S5.lay.heap.setCell S5.lay.new hlt (-1) 0 (f := .mk m4.size 0 _ _) (q03.ofOwn oz (by rw [q2a]; omega)) (fun _ => hz0)
        refine ⟨t5.samB B4, _, rfl, h45.keepG g7, by omega, by omega, S5.lay.heap.wr (o := 0) hlt (by decide), ?_⟩
        intro m6
        obtain ⟨S6, t6⟩ := S5.setHeap (c6.mono fun k hk => Or.inl hk) hh6
        have B6 := B5.to t6
        refine ⟨t6.samB B5, h0.1, by omega, w, gw S6, h0.1, by omega, S6.top.held.wrI h0.1 (by simp only []; omega), ?_⟩
        intro m7
        obtain ⟨S7, t7⟩ := S6.setHeld h0.1 (by simp only []; omega) w
        have B7 := B6.to t7
        refine ⟨t7.samB B6, (q2o (s := { s with heap := s.heap.set (ix w) ⟨-1, 0, q0i (q01 s.heap w).fields.length⟩ }) S7 hfs (f.pc + 1)).mono ?_⟩
        rintro _ m8 ⟨S8, t8⟩
        refine ⟨t8.samB B7, ro, out, hp, fr, ?_, (((((t3.trans t4).trans t5).trans t6).trans t7).trans t8)⟩
        rw [openSt, hw, if_pos ⟨hone, h17⟩]
        exact S8.lay
      · simp at h17
        refine ⟨hp, g7, ?_⟩
        intro m5
        have h45 : Ext m4 m5 := (Ext.refl m4).pushed _
        obtain ⟨S5, t5⟩ := S4.ext h45
        have B5 := B4.to t5
        clear_value m5
        refine ⟨by omega, by omega, S5.lay.heap.wr (o := 0) hlt (by decide), ?_⟩
        intro m6
        obtain ⟨hh6, c6⟩ := S5.lay.heap.setCell S5.lay.new hlt 0 0 (f := .mk m4.size 0 0 0) (l := []) ⟨rfl, by simp, by simp, by simp⟩ (fun hne => absurd rfl hne)
        obtain ⟨S6, t6⟩ := S5.setHeap (c6.mono fun k hk => Or.inl hk) hh6
        have B6 := B5.to t6
        refine ⟨t6.samB B5, hp, S6.lay.box.get 7, (qcd (S6.lay.heap.cells (by simp; omega))).mono ?_⟩
        rintro _ m7 ⟨rfl, h67⟩
        obtain ⟨S7, t7⟩ := S6.ext h67
        have B7 := B6.to t7
        refine ⟨t7.samB B6, _, rfl, S7.lay.wrBox (i := 7) (by simp), ?_⟩
        intro m8
        obtain ⟨S7', t7'⟩ := S7.setHeap (Chg.refl _ S7.lay.new) (S7.lay.heap.cut (q7u _ _))
        obtain ⟨S8, t8⟩ := S7'.setBox 7 [.s (hp.cut 0 (trimN (s.heap.set (ix w) free) (s.heap.set (ix w) free).length) 3)]
        have B8 := B7.to t8
        refine ⟨t8.samB B7, (q2o (s := { s with heap := trim (s.heap.set (ix w) free) }) S8 hfs (f.pc + 1)).mono ?_⟩
        rintro _ m9 ⟨S9, t9⟩
        refine ⟨t9.samB B8, ro, out, hp.cut 0 (trimN (s.heap.set (ix w) free) (s.heap.set (ix w) free).length) 3, fr, ?_, ((((((t3.trans t4).trans t5).trans t6).trans t7).trans t8).trans t9)⟩
        rw [openSt, hw, if_neg (fun hh => h17 hh.2), Go.Proofs.YtpggcodlaajceaaGreat.apart, if_pos hone]
        exact S9.lay
    · have hone : (q01 s.heap w).count ≠ 1 := fun e => by have := hb.2 e; rw [hbf] at this; simp at this
      obtain ⟨S4, t4⟩ := S3.setHeap (c4.mono fun k hk => Or.inl hk) (hbf4 hbf)
      have B4 := B3.to t4
      refine (q2o (s := { s with heap := refer (less s.heap w) (ptrs (q01 s.heap w).fields) }) S4 hfs (f.pc + 1)).mono ?_
      rintro _ m5 ⟨S5, t5⟩
      refine ⟨t5.samB B4, ro, out, hp, fr, ?_, (t3.trans t4).trans t5⟩
      rw [openSt, hw, if_neg (fun hh => hone hh.1), Go.Proofs.YtpggcodlaajceaaGreat.apart, if_neg hone]
      exact S5.lay
end
end
section
def ownArg (im : Image) (x : Instr) : Nat -> List Int -> List Int
  | _, [] => []
  | k, w :: ws => (if (x.op = 9 \/ x.op = 24) /\ lentIn im x k = true then 0 else q1b w) :: ownArg im x (k + 1) ws
theorem qhu (im : Image) (x : Instr) : ∀ (l r : List Int) (k : Nat), ownArg im x k (l ++ r) = ownArg im x k l ++ ownArg im x (k + l.length) r
  | [], r, k => by simp [ownArg]
  | a :: l, r, k => by
    have := qhu im x l r (k + 1)
    simp only [List.cons_append, ownArg, this, List.length_cons]
    have e : k + (l.length + 1) = k + 1 + l.length := by omega
    rw [e]
theorem qha (im : Image) (x : Instr) : ∀ (l : List Int) (k : Nat), (ownArg im x k l).length = l.length
  | [], k => rfl
  | a :: l, k => by simp only [ownArg, List.length_cons, qha im x l]
theorem qm0 {im : Image} {x : Instr} (hx : x.op = 9 \/ x.op = 24) : ∀ (l : List Int) (k : Nat), ownArg im x k l = q0x (q0y im x.num).lent k l
  | [], k => rfl
  | a :: l, k => by
    simp only [ownArg, q0x, qm0 hx l]
    congr 1
    unfold lentIn
    by_cases h : ((q0y im x.num).lent.any fun y => y == (k : Int)) = true
    · rw [if_pos ⟨hx, h⟩, if_pos h]
    · rw [if_neg (fun hh => h hh.2), if_neg h]
theorem qj9 {im : Image} {x : Instr} (hx : ¬ (x.op = 9 \/ x.op = 24)) : ∀ (l : List Int) (k : Nat), ownArg im x k l = q0x [] k l
  | [], k => rfl
  | a :: l, k => by
    simp only [ownArg, q0x, qj9 hx l, List.any_nil, Bool.false_eq_true, if_false]
    rw [if_neg (fun hh => hx hh.1)]
theorem qk4 {m : Mem} {mb : Nat} {d p : Sl} {im : Image} (him : ImageR m d p im) (g0 : gcell m mb 0 = some (Sl.v d)) (g1 : gcell m mb 1 = some (Sl.v p)) {x : Instr} (hc : CallOk im x) (a j : Sl) {ws : Sl} {l : List Int} (hw : q03 m ws l) (hsm : l.length <= 1000000) :
    GivesI q22 [vp mb 0, xv x a j, Sl.v ws] m (ownArg im x 0 l) := by
  apply q9b (mb, 0)
  unfold q5a
  simp -zeta only [q0c, q0d]
  intro m1 m2
  have hx1 : Ext m m1 := (Ext.refl m).pushed _
  have h2 : Ext m1 m2 := (Ext.refl m1).pushed _
  have ho : Own m1 m2 ty_int 1 (.mk m1.size 0 0 0) [] := Own.new (Ext.refl m1) ty_int 1 [] 0 (by simp)
  have hl : ∀ b ∈ [m.size], b < m1.size := by simp [m1]
  have hwl := hw.len
  clear_value m2
  clear_value m1
  refine forSI (n := l.length) (by omega) (fun k s m' => Ext m1 m' /\ Own m1 m' ty_int 1 s ((ownArg im x 0 (l.take k)).map Ce.i)) ⟨h2, by simpa [ownArg] using ho⟩ ?_
  rintro k s m3 I μ hk ⟨hx, ho2⟩ next
  have hx3 := hx1.trans hx
  refine ⟨fun h => ?_, fun h => ?_⟩
  · simp only [decide_eq_true_eq] at h
    obtain ⟨y, hy⟩ := q02 (l := l) (k := k) (by omega)
    have hlk : (l.take k).length = k := by simp; omega
    have hstep : ownArg im x 0 (l.take (k + 1)) = ownArg im x 0 (l.take k) ++ [if (x.op = 9 \/ x.op = 24) /\ lentIn im x k = true then 0 else q1b y] := by
      rw [q0a hy, qhu, hlk]
      simp [ownArg]
    have hsl : (ownArg im x 0 (l.take k)).length < 1000000000 := by rw [qha, hlk]; omega
    refine ⟨by omega, by omega, y, by simpa using hx3.gcell (hw.at' hy), (q1j _ _).thenS hx hl fun b m4 hb h4 h42 => ⟨b, rfl, fun hbt => ?_, fun hbf => ?_⟩⟩
    · have hx4 := hx1.trans h42
      refine ⟨d, hx4.gcell g0, p, hx4.gcell g1, (q98 (him.ext hx4) hc a j k).thenS h42 hl fun b2 m5 hb2 h5 h52 => ⟨b2, rfl, fun h6 => ?_, fun h6 => ?_⟩⟩
      · intro m6
        refine q4b ((ho2.ext h4).ext h5) h52 hsl fun r m7 q1 q2 => ⟨Ext.sam2 (h52.pushed _) q2 hl, next (by omega) _ _ ⟨q2, ?_⟩⟩
        rw [hstep, if_neg (nb hb2 h6), q1b, if_pos (hb.1 hbt)]; exact q1
      · intro m6
        refine q4b ((ho2.ext h4).ext h5) h52 hsl fun r m7 q1 q2 => ⟨Ext.sam2 (h52.pushed _) q2 hl, next (by omega) _ _ ⟨q2, ?_⟩⟩
        rw [hstep, if_pos (yb hb2 h6)]; exact q1
    · intro m6
      refine q4b (ho2.ext h4) h42 hsl fun r m7 q1 q2 => ⟨Ext.sam2 (h42.pushed _) q2 hl, next (by omega) _ _ ⟨q2, ?_⟩⟩
      rw [hstep]
      have e : (if (x.op = 9 \/ x.op = 24) /\ lentIn im x k = true then 0 else q1b y) = 0 := by
        rw [q1b, if_neg (fb hb hbf)]; split <;> rfl
      rw [e]; exact q1
  · simp only [decide_eq_false_iff_not] at h
    rw [q0k (by omega)] at ho2
    exact ⟨s, rfl, ho2.base hx1.size, hx3⟩
structure New3 (m m' : Mem) (b1 b2 b3 n : Nat) (regs own held : List Int) : Prop where
  ext : Ext m m'
  lo : m.size <= b1 /\ m.size <= b2 /\ m.size <= b3 /\ b1 ≠ b2 /\ b1 ≠ b3 /\ b2 ≠ b3 /\ b1 < m'.size /\ b2 < m'.size /\ b3 < m'.size
  kr : Blk m' b1 ty_int (regs.map Ce.i)
  ko : Blk m' b2 ty_int (own.map Ce.i)
  kh : Blk m' b3 ty_int (held.map Ce.i)
  len : regs.length = n /\ own.length = n /\ held.length = n
theorem qo2 {m : Mem} {b : Nat} {n : Nat} {l : List Int} (hb : Blk m b ty_int ((q0i n).map Ce.i)) (hl : l.length <= n) : Blk (scells m b 0 (l.map Ce.i)) b ty_int ((l ++ q0i (n - l.length)).map Ce.i) := by
  have := Blk.scells (m := m) (o := 0) (r := l.map Ce.i) hb
  have e : setL ((q0i n).map Ce.i) 0 (l.map Ce.i) = (l ++ q0i (n - l.length)).map Ce.i := by
    have h1 := qfn [] (l.map Ce.i) ((q0i n).map Ce.i) (by simp [q2a]; omega)
    simp only [List.nil_append, List.length_nil] at h1
    rw [h1]
    simp [q0i, List.drop_replicate]
  rw [e] at this; exact this
theorem qeh {m : Mem} {d p : Sl} {im : Image} (him : ImageR m d p im) {g : Int} (h0 : 0 <= g) {q : Proc} (hq : im.procs[g.toNat]? = some q) (hreg : 0 <= q.regs /\ q.regs <= 2000) (dst : Int) {ws os : Sl} {wl ol : List Int} (hw : q03 m ws wl) (ho : q03 m os ol) (hwl : (wl.length : Int) <= q.regs) (hol : ol.length = wl.length) :
    q00 Tryz.prog q2y [.agg #[Sl.v d, Sl.v p], vi g, vi dst, Sl.v ws, Sl.v os] m fun v m' => ∃ b1 b2 b3, v = .agg #[vi g, vi 0, vi dst, Sl.v (.mk b1 0 q.regs.toNat q.regs.toNat), Sl.v (.mk b2 0 q.regs.toNat q.regs.toNat), Sl.v (.mk b3 0 q.regs.toNat q.regs.toNat)] /\
      New3 m m' b1 b2 b3 q.regs.toNat (wl ++ q0i (q.regs.toNat - wl.length)) (ol ++ q0i (q.regs.toNat - ol.length)) (q0i q.regs.toNat) := by
  apply qk7
  unfold qeq
  simp -zeta only [q0c, q0d]
  intro m1 m2
  have hx2 : Ext m m2 := ((Ext.refl m).pushed _).pushed _
  have s1 : m1.size = m.size + 1 := by simp [m1]
  have s2 : m2.size = m.size + 2 := by simp [m2, s1]
  have hl : ∀ b ∈ [m1.size, m.size], b < m2.size := by simp; omega
  have hpl := him.procs.len
  have hlt := q07 hq
  have hwsl := hw.len
  have hosl := ho.len
  clear_value m2
  obtain ⟨a', l', c', _, _, _, _, _, _, k3, _⟩ := (him.ext hx2).procs.at' hq
  refine ⟨h0, by omega, q.regs, k3, (q7g hreg.1 (by omega)).mono ?_⟩
  rintro _ m3 ⟨rfl, e3⟩
  have h23 : Ext m2 m3 := by rw [e3]; exact Ext.push _ _
  have s3 : m3.size = m2.size + 1 := by rw [e3]; simp
  have k1 : Blk m3 m2.size ty_int ((q0i q.regs.toNat).map Ce.i) := by rw [e3]; exact Blk.push _ _ _
  clear e3
  refine ⟨h23.sam hl, _, rfl, (q7g hreg.1 (by omega)).mono ?_⟩
  rintro _ m4 ⟨rfl, e4⟩
  have h34 : Ext m3 m4 := by rw [e4]; exact Ext.push _ _
  have s4 : m4.size = m3.size + 1 := by rw [e4]; simp
  have k2 : Blk m4 m3.size ty_int ((q0i q.regs.toNat).map Ce.i) := by rw [e4]; exact Blk.push _ _ _
  clear e4
  have h24 := h23.trans h34
  have hx4 := hx2.trans h24
  have hmin1 : Nat.min ws.len q.regs.toNat = wl.length := by rw [hwsl]; exact Nat.min_eq_left (by omega)
  have hmin2 : Nat.min os.len q.regs.toNat = ol.length := by rw [hosl]; exact Nat.min_eq_left (by omega)
  refine ⟨h34.sam (fun b hb => h23.lt (hl b hb)), _, rfl, wl.map Ce.i, by simp only [Sl.len_mk]; rw [hmin1]; simp, (hw.ext hx4).rows, (k1.ext h34).wrOk (by simp [q2a]; omega), ?_⟩
  intro m5
  have k5 : Blk m5 m2.size ty_int ((wl ++ q0i (q.regs.toNat - wl.length)).map Ce.i) := qo2 (k1.ext h34) (by omega)
  have k52 : Blk m5 m3.size ty_int ((q0i q.regs.toNat).map Ce.i) := k2.congr (q0s _ _ _ _ (show m3.size ≠ m2.size by omega))
  have h25 : Ext m2 m5 := h24.scells (Nat.le_refl _) _ _
  have s5 : m5.size = m4.size := q04 _ _ _ _
  clear_value m5
  have hx5 := hx2.trans h25
  refine ⟨Ext.sam2 h24 h25 hl, ol.map Ce.i, by simp only [Sl.len_mk]; rw [hmin2]; simp, (ho.ext hx5).rows, k52.wrOk (by simp [q2a]; omega), ?_⟩
  intro m6
  have k6 : Blk m6 m3.size ty_int ((ol ++ q0i (q.regs.toNat - ol.length)).map Ce.i) := qo2 k52 (by omega)
  have k61 : Blk m6 m2.size ty_int ((wl ++ q0i (q.regs.toNat - wl.length)).map Ce.i) := k5.congr (q0s _ _ _ _ (show m2.size ≠ m3.size by omega))
  have h26 : Ext m2 m6 := h25.scells (show m2.size <= m3.size by omega) _ _
  have s6 : m6.size = m5.size := q04 _ _ _ _
  clear_value m6
  refine ⟨Ext.sam2 h25 h26 hl, (q7g hreg.1 (by omega)).mono ?_⟩
  rintro _ m7 ⟨rfl, e7⟩
  have h67 : Ext m6 m7 := by rw [e7]; exact Ext.push _ _
  have s7 : m7.size = m6.size + 1 := by rw [e7]; simp
  have k7 : Blk m7 m6.size ty_int ((q0i q.regs.toNat).map Ce.i) := by rw [e7]; exact Blk.push _ _ _
  clear e7
  refine ⟨Ext.sam2 h26 (h26.trans h67) hl, _, rfl, ?_⟩
  intro m8
  have hx8 : Ext m m8 := (hx2.trans (h26.trans h67)).scells (by omega) _ _
  have s8 : m8.size = m7.size := q04 _ _ _ _
  have ne : ∀ b, b ≠ m1.size -> m8[b]? = m7[b]? := fun b hb => q0s _ _ _ _ hb
  refine ⟨m2.size, m3.size, m6.size, rfl, hx8, by omega, (k61.ext h67).congr (ne _ (by omega)), (k6.ext h67).congr (ne _ (by omega)), k7.congr (ne _ (by omega)), by simp [q2a]; omega⟩
def rol3 (ro : Nat -> Nat) (b1 b2 b3 n : Nat) : Nat -> Nat := upd (upd (upd ro b1 (10 + 3 * n)) b2 (11 + 3 * n)) b3 (12 + 3 * n)
theorem New3.chg {p : Nat -> Prop} {ro : Nat -> Nat} {m m' : Mem} {b1 b2 b3 k n : Nat} {regs own held : List Int} (N : New3 m m' b1 b2 b3 k regs own held) (hn : ∀ b, m.size <= b -> ro b = 0) : Chg p ro m (rol3 ro b1 b2 b3 n) m' := by
  have hlo := N.lo
  refine ⟨N.ext.size, fun b hb => ?_, fun b hb => ?_, fun b hb _ => N.ext.same b hb⟩
  · unfold rol3; rw [q12 (by omega), q12 (by omega), q12 (by omega)]
  · unfold rol3; rw [q12 (by omega), q12 (by omega), q12 (by omega)]; exact hn b (by have := N.ext.size; omega)
theorem New3.arr {ro : Nat -> Nat} {m m' : Mem} {b1 b2 b3 k n : Nat} {regs own held : List Int} (N : New3 m m' b1 b2 b3 k regs own held) :
    Arr (rol3 ro b1 b2 b3 n) m' ty_int 1 (10 + 3 * n) (.mk b1 0 k k) (regs.map Ce.i) /\ Arr (rol3 ro b1 b2 b3 n) m' ty_int 1 (11 + 3 * n) (.mk b2 0 k k) (own.map Ce.i) /\ Arr (rol3 ro b1 b2 b3 n) m' ty_int 1 (12 + 3 * n) (.mk b3 0 k k) (held.map Ce.i) := by
  have hlo := N.lo
  obtain ⟨l1, l2, l3⟩ := N.len
  refine ⟨⟨by simp [l1], by simp, Or.inr ⟨b1, k, [], rfl, ?_, by rw [List.append_nil]; exact N.kr, by simp [l1]⟩⟩, ⟨by simp [l2], by simp, Or.inr ⟨b2, k, [], rfl, ?_, by rw [List.append_nil]; exact N.ko, by simp [l2]⟩⟩, ⟨by simp [l3], by simp, Or.inr ⟨b3, k, [], rfl, ?_, by rw [List.append_nil]; exact N.kh, by simp [l3]⟩⟩⟩
  · unfold rol3; rw [q12 (by omega), q12 (by omega), q2i]
  · unfold rol3; rw [q12 (by omega), q2i]
  · unfold rol3; rw [q2i]
theorem New3.box {m m' : Mem} {b1 b2 b3 k : Nat} {regs own held : List Int} (N : New3 m m' b1 b2 b3 k regs own held) {m1 : Mem} (hx : Ext m1 m) {nb : Nat} (h1 : m1.size <= nb) (h2 : nb < m.size) (i : Nat) (cs : List Ce) : New3 m1 (scells m' nb i cs) b1 b2 b3 k regs own held := by
  have hlo := N.lo
  have hs := hx.size
  exact ⟨(hx.trans N.ext).scells h1 _ _, by rw [q04]; omega, N.kr.congr (q0s _ _ _ _ (by omega)), N.ko.congr (q0s _ _ _ _ (by omega)), N.kh.congr (q0s _ _ _ _ (by omega)), N.len⟩
theorem New3.ext' {m m' m2 : Mem} {b1 b2 b3 k : Nat} {regs own held : List Int} (N : New3 m m' b1 b2 b3 k regs own held) (hx : Ext m' m2) : New3 m m2 b1 b2 b3 k regs own held := by
  have hlo := N.lo
  have := hx.size
  exact ⟨N.ext.trans hx, by omega, N.kr.ext hx, N.ko.ext hx, N.kh.ext hx, N.len⟩
section
variable {m0 : Mem} {ro : Nat -> Nat} {m : Mem} {mb : Nat} {d p out hp fr : Sl} {s : St} {fs : List Frame} {f : Frame} {r o h : Sl} {css : List (List Ce)}
theorem Top.replace {ro' : Nat -> Nat} {m' : Mem} (T : Top ro m fr fs f r o h css) (hc : Chg (fun _ => False) ro m ro' m') {f' : Frame} {r' o' h' : Sl} (h1 : Arr ro' m' ty_int 1 (10 + 3 * fs.length) r' (f'.regs.map Ce.i)) (h2 : Arr ro' m' ty_int 1 (11 + 3 * fs.length) o' (f'.own.map Ce.i)) (h3 : Arr ro' m' ty_int 1 (12 + 3 * fs.length) h' (f'.held.map Ce.i)) :
    wrOk m' fr.blk (fr.off + fs.length * 6) 6 /\ FrmL ro' (scells m' fr.blk (fr.off + fs.length * 6) [.i f'.proc, .i f'.pc, .i f'.dst, .s r', .s o', .s h']) fr (fs ++ [f']) /\ Chg (fun k => k = 4) ro' m' ro' (scells m' fr.blk (fr.off + fs.length * 6) [.i f'.proc, .i f'.pc, .i f'.dst, .s r', .s o', .s h']) := by
  have T' : Top ro' m' fr fs f r o h css := T.chg hc fun _ _ => id
  have hb := T'.blk
  have hl : css.flatten.length = fs.length * 6 := by rw [q0t T.size, T.len]
  have hc4 : Chg (fun k => k = 4) ro' m' ro' (scells m' fr.blk (fr.off + fs.length * 6) [.i f'.proc, .i f'.pc, .i f'.dst, .s r', .s o', .s h']) := Chg.scells hc.new hb.1 _ _
  refine ⟨T'.arr.wr (by simp [hl]), Top.frm (f := f') (fs := fs) (css := css) (r := r') (o := o') (h := h') ⟨?_, T.len, T.size, T'.outer hc4 fun k h2 h3 => by omega, h1.chg hc4 (by omega), h2.chg hc4 (by omega), h3.chg hc4 (by omega)⟩, hc4⟩
  have := T'.arr.set (o := fs.length * 6) (new := [.i f'.proc, .i f'.pc, .i f'.dst, .s r', .s o', .s h']) (by simp [hl])
  rw [setL_app_right _ _ _ _ (by omega), hl, Nat.sub_self] at this
  exact this
def qpk (mb nb : Nat) (bs : List Nat) (op pc dst : Int) (g0 g1 g2 : Int) (r' o' h' : Sl) (m17 : Mem) (R : Value -> Mem -> Prop) : Prop :=
  ((op == (24 : Int)) = true ->
  let m18 : Mem := scells m17 nb 2 [.i dst]
  ∃ v96 : Sl, gcell m18 mb 8 = some (Sl.v v96) /\
  ∃ v101 : Sl, gcell m18 mb 8 = some (Sl.v v101) /\
  (0 : Int) <= (w64 ((v101.len : Int) - (1 : Int))) /\ (w64 ((v101.len : Int) - (1 : Int))) < (v96.len : Int) /\
  wrOk m18 v96.blk (v96.off + Int.toNat (w64 ((v101.len : Int) - (1 : Int))) * 6) 6 /\
  let m19 : Mem := scells m18 v96.blk (v96.off + Int.toNat (w64 ((v101.len : Int) - (1 : Int))) * 6) [.i g0, .i g1, .i dst, .s r', .s o', .s h']
  Sam (nb :: bs) m18 m19 /\
  R (.tuple #[]) m19) /\
  ((op == (24 : Int)) = false ->
  q00 Tryz.prog q0m [vp mb 0, vi (w64 (pc + (1 : Int)))] m17 fun _ m20 =>
  Sam (nb :: bs) m17 m20 /\
  ∃ v116 : Sl, gcell m20 mb 8 = some (Sl.v v116) /\
  let m21 : Mem := m20.push (.cells (vals [.i g0, .i g1, .i g2, .s r', .s o', .s h']) 84)
  gcell m21 mb 8 = gcell m20 mb 8 /\
  appC m21 84 [.i (0 : Int), .i (0 : Int), .i (0 : Int), .s Sl.nil, .s Sl.nil, .s Sl.nil] 96 v116 (Sl.mk m20.size 0 1 1) fun r119 m22 =>
  Sam (nb :: bs) m21 m22 /\
  wrOk m22 mb 8 1 /\
  let m23 : Mem := scells m22 mb 8 [.s r119]
  Sam (nb :: bs) m22 m23 /\
  R (.tuple #[]) m23)
theorem qr4 (S : ST m0 ro m mb q0g (SB d p s out hp fr) out hp fr s.out s.heap fs f r o h css) {bs : List Nat} (B : Bx0 ro m bs) {nb b1 b2 b3 k : Nat} {m17 : Mem} {g : Frame} {x : Instr} (N : New3 m m17 b1 b2 b3 k g.regs g.own g.held) (hnb : m.size <= nb /\ nb < m17.size) (hne : nb ≠ b1 /\ nb ≠ b2 /\ nb ≠ b3)
    (hfs : fs.length <= 100000) (hpc : 0 <= f.pc /\ f.pc <= 100000) {R : Value -> Mem -> Prop}
    (hR1 : x.op = 24 -> ∀ m', SFin m0 ro m mb d p { s with frames := fs ++ [{ g with dst := f.dst }] } m' -> R (.tuple #[]) m')
    (hR2 : x.op ≠ 24 -> ∀ m', SFin m0 ro m mb d p { s with frames := fs ++ [{ f with pc := f.pc + 1 }, g] } m' -> R (.tuple #[]) m') :
    qpk mb nb bs x.op f.pc f.dst g.proc g.pc g.dst (.mk b1 0 k k) (.mk b2 0 k k) (.mk b3 0 k k) m17 R := by
  have hlo := N.lo
  have hfl := S.top.frLen
  have e : w64 ((fr.len : Int) - 1) = (fs.length : Int) := by rw [q08 (by omega) (by omega)]; omega
  have e2 : Int.toNat (fs.length : Int) = fs.length := by omega
  have e4 : w64 (f.pc + 1) = f.pc + 1 := q08 (by omega) (by omega)
  have hnb0 : ro nb = 0 := S.lay.new _ hnb.1
  have hn17 := N.ext.size
  refine ⟨fun h24 => ?_, fun h24 => ?_⟩
  · intro m18
    have N18 : New3 m m18 b1 b2 b3 k g.regs g.own g.held := ⟨N.ext.scells hnb.1 _ _, by simp only [m18, q04]; omega, N.kr.congr (q0s _ _ _ _ (fun e => hne.1 e.symm)), N.ko.congr (q0s _ _ _ _ (fun e => hne.2.1 e.symm)), N.kh.congr (q0s _ _ _ _ (fun e => hne.2.2 e.symm)), N.len⟩
    have s18 : m18.size = m17.size := q04 _ _ _ _
    clear_value m18
    have hc : Chg (fun _ => False) ro m (rol3 ro b1 b2 b3 fs.length) m18 := N18.chg S.lay.new
    obtain ⟨a1, a2, a3⟩ := N18.arr (ro := ro) (n := fs.length)
    obtain ⟨w1, w2, w3⟩ := S.top.replace hc (f' := { g with dst := f.dst }) a1 a2 a3
    obtain ⟨L18, t18⟩ := S.lay.setHeap (hc.mono fun _ => False.elim) (S.lay.heap.chg hc id id)
    have g8 : gcell m18 mb 8 = some (Sl.v fr) := L18.box.get 8
    refine ⟨fr, g8, fr, g8, ?_⟩
    rw [e, e2]
    refine ⟨by omega, by omega, w1, ?_⟩
    intro m19
    obtain ⟨L19, t19⟩ := L18.setFrames (w3.mono fun k hk => by omega) w2
    refine ⟨?_, hR1 (by simpa using h24) _ ⟨_, out, hp, fr, L19, t18.trans t19⟩⟩
    intro b hb
    rcases List.mem_cons.1 hb with rfl | hb
    · refine w3.keep _ (by omega) ?_
      unfold rol3; rw [q12 hne.2.2, q12 hne.2.1, q12 hne.1, hnb0]; decide
    · refine w3.keep _ (by have := (B b hb).1; omega) ?_
      rw [hc.role b (B b hb).1, (B b hb).2]; decide
  · simp only [beq_eq_false_iff_ne] at h24
    rw [e4]
    have hc : Chg (fun _ => False) ro m (rol3 ro b1 b2 b3 (fs.length + 1)) m17 := N.chg S.lay.new
    obtain ⟨a1, a2, a3⟩ := N.arr (ro := ro) (n := fs.length + 1)
    obtain ⟨L17, t17⟩ := S.lay.setHeap (hc.mono fun _ => False.elim) (S.lay.heap.chg hc id id)
    have S17 : ST m0 (rol3 ro b1 b2 b3 (fs.length + 1)) m17 mb q0g (SB d p s out hp fr) out hp fr s.out s.heap fs f r o h css := ⟨L17, S.top.chg hc fun _ _ => id⟩
    have hB17 : Bx0 (rol3 ro b1 b2 b3 (fs.length + 1)) m17 (nb :: bs) := fun b hb => by
      rcases List.mem_cons.1 hb with rfl | hb
      · refine ⟨by omega, ?_⟩
        unfold rol3; rw [q12 hne.2.2, q12 hne.2.1, q12 hne.1, hnb0]
      · exact ⟨by have := (B b hb).1; omega, by rw [hc.role b (B b hb).1]; exact (B b hb).2⟩
    -- the step to the next instruction
    apply q6n (mb, 0)
    have g8 : gcell m17 mb 8 = some (Sl.v fr) := S17.lay.box.get 8
    refine ⟨fr, g8, fr, g8, ?_⟩
    rw [e, e2]
    refine ⟨by omega, by omega, S17.top.wrPc, ?_⟩
    intro m20
    obtain ⟨S20, t20⟩ := S17.setPc (f.pc + 1)
    have c20 : Chg (fun k => k = 4) (rol3 ro b1 b2 b3 (fs.length + 1)) m17 (rol3 ro b1 b2 b3 (fs.length + 1)) m20 := Chg.scells S17.lay.new S17.top.blk.1 _ _
    have B20 := hB17.to t20
    refine ⟨t20.samB hB17, fr, S20.lay.box.get 8, ?_⟩
    intro m21
    have h2021 : Ext m20 m21 := (Ext.refl m20).pushed _
    obtain ⟨S21, t21⟩ := S20.ext h2021
    have B21 := B20.to t21
    have hrow : rowIs m21 m20.size 0 [.i g.proc, .i g.pc, .i g.dst, .s (.mk b1 0 k k), .s (.mk b2 0 k k), .s (.mk b3 0 k k)] := (Blk.push m20 _ _).row
    have hfl20 : (fs ++ [{ f with pc := f.pc + 1 }]).length = fs.length + 1 := by simp
    have ch := fun {k : Nat} {s : Sl} {l : List Ce} (a : Arr (rol3 ro b1 b2 b3 (fs.length + 1)) m17 ty_int 1 k s l) (hk : k ≠ 4) => (a.chg c20 hk).chg (Chg.ofExt (fun _ => False) h2021 S20.lay.new) id
    refine ⟨h2021.keepG (S20.lay.box.get 8), FrmL.push S21.lay.frames S21.lay.new (x := .mk m20.size 0 1 1) rfl (f := g) hrow (by rw [hfl20]; exact ch a1 (by omega)) (by rw [hfl20]; exact ch a2 (by omega)) (by rw [hfl20]; exact ch a3 (by omega)) (by rw [hfl20]; omega) fun ro22 q m22 q1 q2 => ?_⟩
    have t22 : To _ m21 ro22 m22 := q2.mono fun k hk => by omega
    obtain ⟨L22, t22'⟩ := S21.lay.setFrames (q2.mono fun k hk => by omega) q1
    have B22 := B21.to t22
    refine ⟨t22.samB B21, L22.wrBox (i := 8) (by simp), ?_⟩
    intro m23
    obtain ⟨L23, t23⟩ := L22.setBox 8 [.s q]
    refine ⟨t23.samB B22, hR2 h24 _ ⟨ro22, out, hp, q, ?_, (((t17.trans t20).trans t21).trans t22).trans t23⟩⟩
    have e9 : fs ++ [{ f with pc := f.pc + 1 }] ++ [g] = fs ++ [{ f with pc := f.pc + 1 }, g] := by simp
    rw [e9] at L23
    exact L23
end
end
end Go.Proofs.YtpggcodlaajceaaGreat
