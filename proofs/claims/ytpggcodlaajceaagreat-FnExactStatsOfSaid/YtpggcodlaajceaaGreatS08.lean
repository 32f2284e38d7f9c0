/- Part of a proof, joined by a program: Pl5 Pl6 Iv1 Iv2 Iv3. -/
import Derived.Test.YtpggcodlaajceaaGreatS07
namespace Go.Proofs.YtpggcodlaajceaaGreat
open Go.Vc
section
theorem qgs {im : Image} {x : Instr} : ∀ {l : List Int} {k : Nat} {r : Int}, r ∈ unlent im x k l -> r ∈ l
  | [], k, r, h => by simp [unlent] at h
  | y :: l, k, r, h => by
    simp only [unlent] at h
    split at h
    · exact List.mem_cons_of_mem _ (qgs h)
    · rcases List.mem_cons.1 h with rfl | h
      · exact List.mem_cons_self
      · exact List.mem_cons_of_mem _ (qgs h)
theorem qev {im : Image} {x : Instr} {r : Int} (h : r ∈ taken im x) : r ∈ x.args := by
  unfold taken at h
  split at h
  · exact h
  split at h
  · exact List.mem_of_mem_take h
  split at h
  · exact qgs h
  · simp at h
theorem qlt {ds : List Decl} (h : TypesOk ds) (c : Int) : (q21 ds c).length <= 3 := by
  unfold q21
  split
  · cases hg : (q14 ds)[c.toNat]? with
    | none => simp
    | some f =>
      have hm := q06 hg
      unfold q14 at hm
      obtain ⟨d, hd, hfd⟩ := List.mem_flatMap.1 hm
      obtain ⟨k, hk⟩ := List.mem_iff_getElem?.1 hd
      have := (h.each k d hk).some' (List.length_pos_of_mem hfd)
      exact (this.2.2.2 f hfd).1
  · simp
theorem FrameOk.put {im : Image} {g : Frame} (h : FrameOk im g) {r w o : Int} (hr : 0 <= r) (hw : isInt w \/ 1000 <= w) (ho : 0 <= o) (hp : 0 < o -> 1000 <= w) : FrameOk im (g.put r w o) := by
  refine ⟨h.proc, h.pc, by simp only [Frame.put, q29]; exact h.lr, by simp only [Frame.put, q29]; exact h.lo, h.lh, fun y hy => ?_, fun k q y hq hy => ?_, h.held⟩
  · rcases q4u hy with rfl | hy
    · exact hw
    · exact h.reg y hy
  · simp only [Frame.put] at hq hy
    rw [qd6] at hq hy
    have := h.lr
    have := h.lo
    split at hq <;> split at hy
    · simp at hq hy; subst hq; subst hy; exact ⟨ho, hp⟩
    · omega
    · omega
    · exact h.own k q y hq hy
theorem qiu (w : Int) : 0 <= q1b w := by unfold q1b; split <;> omega
theorem qgk {w : Int} (h : 0 < q1b w) : 1000 <= w := by unfold q1b at h; split at h <;> omega
theorem qc0 (w : Int) (b : Nat) : (if w = 1000 + (b : Int) then q1b w else 0) = occ [w] b := by
  simp only [occ, q1b]
  split
  · rw [if_pos (by omega)]; rfl
  · rfl
theorem qjr (n : Int) : isInt (clamp n) := by unfold clamp isInt; split <;> (try split) <;> omega
theorem qqx (op a b : Int) : isInt (prim op a b) := by
  unfold prim
  split
  · exact qjr _
  split
  · exact qjr _
  split
  · exact qjr _
  split <;> (unfold isInt; omega)
theorem q3x (lent : List Int) : ∀ (ws : List Int) (k : Nat), (q0x lent k ws).length = ws.length
  | [], k => rfl
  | w :: ws, k => by simp only [q0x, List.length_cons, q3x lent ws]
theorem qlk (lent : List Int) : ∀ (ws : List Int) (k j : Nat) (o w : Int), (q0x lent k ws)[j]? = some o -> ws[j]? = some w -> 0 <= o /\ (0 < o -> 1000 <= w)
  | [], k, j, o, w, _, h => by simp at h
  | v :: ws, k, 0, o, w, ho, hw => by
    simp [q0x] at ho hw
    subst hw
    split at ho
    · subst ho; omega
    · subst ho; exact ⟨qiu _, qgk⟩
  | v :: ws, k, j + 1, o, w, ho, hw => qlk lent ws (k + 1) j o w (by simpa [q0x] using ho) (by simpa using hw)
theorem q2a (n : Nat) : (q0i n).length = n := by simp [q0i]
theorem q68 {n : Nat} {w : Int} (h : w ∈ q0i n) : w = 0 := List.eq_of_mem_replicate h
theorem qa9 {im : Image} {g dst : Int} {ws : List Int} {p : Proc} (hi : ImageOk im) (h0 : 0 <= g) (hp : im.procs[g.toNat]? = some p) (hl : ws.length = p.params.length) (hw : ∀ w ∈ ws, isInt w \/ 1000 <= w) : FrameOk im (q09 im g dst ws) := by
  have e : q0y im g = p := by simp [q0y, hp]
  have hpo := hi.each p (q06 hp)
  have hr := hpo.regs
  have hlen := hpo.len
  have hlt := q07 hp
  refine ⟨⟨h0, by simp only [q09]; omega⟩, ⟨by simp [q09], by simp only [q09, e]; omega⟩, ?_, ?_, ?_, fun w h1 => ?_, fun k o w ho h1 => ?_, fun w h1 => Or.inl (q68 h1)⟩
  · simp only [q09, e, List.length_append, q2a]; omega
  · simp only [q09, e, List.length_append, q2a, q3x]; omega
  · simp only [q09, e, q2a]; omega
  · simp only [q09] at h1
    rcases List.mem_append.1 h1 with h1 | h1
    · exact hw w h1
    · rw [q68 h1]; exact Or.inl (by unfold isInt; omega)
  · simp only [q09] at ho h1
    rcases Nat.lt_or_ge k ws.length with h2 | h2
    · rw [List.getElem?_append_left (by rw [q3x]; exact h2)] at ho
      rw [List.getElem?_append_left h2] at h1
      exact qlk _ ws 0 k o w ho h1
    · rw [List.getElem?_append_right (by rw [q3x]; exact h2)] at ho
      rw [q68 (List.mem_of_getElem? ho)]; omega
theorem q7h (im : Image) (g dst : Int) (ws : List Int) (b : Nat) : q11 (q09 im g dst ws).regs (q09 im g dst ws).own b = q11 ws (q0x (q0y im g).lent 0 ws) b := by
  simp only [q09]
  rw [qjs _ _ (q3x _ _ _).symm, q8h (fun n hn => q68 hn)]; omega
theorem q6f (im : Image) (g dst : Int) (ws : List Int) (b : Nat) : holds [q09 im g dst ws] b = 0 := by
  rw [q24]; exact qsz _ _
theorem qk6 {im : Image} {x : Instr} (f : Frame) : ∀ (args : List Int) (k : Nat) (b : Nat), q11 (words f args) (q0x (q0y im x.num).lent k (words f args)) b = occ ((unlent im x k args).map (at' f.regs)) b
  | [], k, b => by simp [words, q11, unlent, occ]
  | r :: rs, k, b => by
    have ih := qk6 (im := im) (x := x) f rs (k + 1) b
    simp only [words, List.map_cons, q0x, q11, unlent] at ih ⊢
    rw [ih]
    by_cases hl : lentIn im x k = true
    · rw [if_pos hl]
      unfold lentIn at hl
      rw [if_pos hl]; split <;> omega
    · rw [if_neg hl]
      unfold lentIn at hl
      rw [if_neg hl]
      simp only [List.map_cons, occ]
      have := qc0 (at' f.regs r) b
      simp only [occ] at this
      omega
theorem qls : ∀ (ws : List Int) (k : Nat) (b : Nat), q11 ws (q0x [] k ws) b = occ ws b
  | [], k, b => by simp [q11, occ]
  | w :: ws, k, b => by
    have := qls ws (k + 1) b
    have h2 := qc0 w b
    simp only [occ] at h2
    simp only [q0x, q11, occ, this, List.any_nil, Bool.false_eq_true, if_false]
    omega
theorem StateOk.holdsSame {im : Image} {s : St} {hp : List Cell} {fs : List Frame} {f g : Frame} (h : StateOk im s) (hf : s.frames = fs ++ [f]) (hh : g.held = f.held) (hk : ∀ b, Kept hp b ↔ Kept s.heap b) :
    (∀ a, Kept hp a -> holds (fs ++ [g]) a = 1) /\ (∀ a, ¬ Kept hp a -> holds (fs ++ [g]) a = 0) := by
  have e : ∀ a, holds (fs ++ [g]) a = holds s.frames a := fun a => by rw [hf, q1c, q1c, q24, q24, hh]
  exact ⟨fun a ha => by rw [e]; exact h.kept a ((hk a).1 ha), fun a ha => by rw [e]; exact h.unkept a fun h2 => ha ((hk a).2 h2)⟩
theorem StateOk.push {im : Image} {s : St} (h : StateOk im s) (hr : s.status = 3) {fs : List Frame} {f g : Frame} (hf : s.frames = fs ++ [f]) (hg : FrameOk im g) (hd : 0 <= g.dst /\ g.dst < f.own.length /\ at' f.own g.dst = 0) {hp : List Cell} {calls : Int}
    (hh : HInv hp (owns (fs ++ [f, g]))) (ht : Trimmed hp) (hk : ∀ a, Kept hp a -> holds (fs ++ [f, g]) a = 1) (hu : ∀ a, ¬ Kept hp a -> holds (fs ++ [f, g]) a = 0) (hc : calls = s.calls + 1) (hm : s.calls < s.most) :
    StateOk im { s with heap := hp, calls := calls, frames := fs ++ [f, g] } := by
  have hc0 := h.calls
  have hdep := h.depth
  rw [hf] at hdep
  refine ⟨h.image, h.status, ⟨fun e => by simp at e; omega, fun e => by simp at e⟩, h.value, h.value0, h.most, ⟨by simp only []; omega, by simp only []; omega⟩, by simp at hdep ⊢; omega, h.out, hh, ht, fun q hq => ?_, fun q hq => ?_, fun k p q hp hq => ?_, hk, hu⟩
  · rcases List.mem_append.1 hq with hq | hq
    · exact h.frames q (by rw [hf]; exact List.mem_append_left _ hq)
    · simp at hq
      rcases hq with rfl | rfl
      · exact h.frames _ (by rw [hf]; simp)
      · exact hg
  · have hfirst := h.first
    rw [hf] at hfirst
    cases fs with
    | nil => simp at hq; subst hq; exact hfirst f (by simp)
    | cons y ys => simp at hq; subst hq; exact hfirst y (by simp)
  · have hch := h.chain k
    rw [hf] at hch
    simp only [] at hp hq
    have e : fs ++ [f, g] = (fs ++ [f]) ++ [g] := by simp
    rw [e] at hp hq
    have hkl := q07 hq
    simp at hkl
    rw [List.getElem?_append_left (by simp; omega)] at hp
    rcases Nat.lt_or_ge (k + 1) (fs ++ [f]).length with h1 | h1
    · rw [List.getElem?_append_left h1] at hq
      exact hch p q hp hq
    · simp at h1
      rw [List.getElem?_append_right (by simp; omega)] at hq
      have e2 : k + 1 - (fs ++ [f]).length = 0 := by simp; omega
      rw [e2] at hq; simp at hq; subst hq
      rw [List.getElem?_append_right (by omega)] at hp
      have e3 : k - fs.length = 0 := by omega
      rw [e3] at hp; simp at hp; subst hp; exact hd
set_option maxHeartbeats 1000000 in
theorem qs9 {im : Image} {s : St} {fs : List Frame} {f : Frame} (h : StateOk im s) (hr : s.status = 3) (hf : s.frames = fs ++ [f])
    (hm : MayRun im s f (q0r im f) (q0b f.regs f.own (taken im (q0r im f)))) (hcall : ¬ (isCall (q0r im f).op /\ s.calls = s.most)) :
    StateOk im (perform im s fs f (q0r im f) (q0b f.regs f.own (taken im (q0r im f)))) := by
  have hF : FrameOk im f := h.frames f (by rw [hf]; simp)
  obtain ⟨p, hp, hpe, hP, hcode, hI⟩ := hF.instr h.image
  generalize q0r im f = x at *
  have ⟨lr, lo, lh⟩ : (f.regs.length : Int) = p.regs /\ (f.own.length : Int) = p.regs /\ (f.held.length : Int) = p.regs := ⟨hpe ▸ hF.lr, hpe ▸ hF.lo, hpe ▸ hF.lh⟩
  have hArg : ∀ a ∈ x.args, 0 <= a /\ a < f.regs.length := fun a ha => by have := hI.args a ha; omega
  have hTk : ∀ r ∈ taken im x, 0 <= r /\ r < f.regs.length := fun r hr => hArg r (qev hr)
  have how := qda (regs := f.regs) (taken im x) f.own hTk (by omega)
  have hol := q2m f.regs (taken im x) f.own
  have hle := q35 (regs := f.regs) (taken im x) f.own
  generalize q0b f.regs f.own (taken im x) = own at *
  have hfsok : ∀ q ∈ fs, FrameOk im q := fun q hq => h.frames q (by rw [hf]; exact List.mem_append_left _ hq)
  have hEn : ∀ b, 0 <= owns fs b + q11 f.regs own b := fun b => by
    have := qkg hfsok b; have := qcj (regs := f.regs) hm.nn b; omega
  have HE : HInv s.heap (fun b => owns fs b + q11 f.regs own b + occ ((taken im x).map (at' f.regs)) b) := h.heap.congr fun b => by
    rw [hf, q1m, q30, how]; omega
  have hrange : ∀ pc' : Int, 0 <= pc' -> pc' < p.code.length -> FrameOk im { f with own := own, pc := pc' } := fun pc' h0 h1 =>
    ⟨hF.proc, ⟨h0, by rw [hpe]; exact h1⟩, hF.lr, by simp only [hol]; exact hF.lo, hF.lh, hF.reg, fun k o w ho hw => by
      obtain ⟨q, hq, hqo⟩ := hle k o ho
      have h2 := hF.own k q w hq hw
      exact ⟨hm.nn o (List.mem_of_getElem? ho), fun hpos => h2.2 (by omega)⟩, hF.held⟩
  have hpc := hF.pc
  rw [hpe] at hpc
  have hnext : x.op ≠ 23 -> x.op ≠ 24 -> f.pc + 1 < p.code.length := fun h1 h2 => by
    rcases Classical.em (f.pc + 1 < p.code.length) with h3 | h3
    · exact h3
    · have e : f.pc.toNat = p.code.length - 1 := by omega
      rw [e] at hcode
      have := hP.last x hcode
      omega
  have hG : x.op ≠ 23 -> x.op ≠ 24 -> FrameOk im { f with own := own, pc := f.pc + 1 } := fun h1 h2 => hrange _ (by omega) (hnext h1 h2)
  have hreg : ∀ r : Int, 0 <= r -> r < f.regs.length -> isInt (at' f.regs r) \/ 1000 <= at' f.regs r := fun r h0 h1 => hF.reg _ (q13 h0 h1)
  have hlt1000 : ∀ r : Int, 0 <= r -> r < f.regs.length -> at' f.regs r < 1000 -> isInt (at' f.regs r) := fun r h0 h1 h2 => by rcases hreg r h0 h1 with h3 | h3; exact h3; omega
  have hdst := hI.dst
  have hd0 : Sets x.op -> at' own x.dst = 0 := fun hs => by
    have h1 := hm.dst hs
    have h2 := hm.nn _ (q13 (l := own) hdst.1 (by omega)); omega
  have hword : ∀ r ∈ taken im x, isWord s.heap (at' f.regs r) := fun r hrm => by
    have hrr := hTk r hrm
    rcases hreg r hrr.1 hrr.2 with h3 | h3
    · exact Or.inl h3
    · refine Or.inr ⟨h3, HE.lv _ ?_⟩
      have := hEn (ix (at' f.regs r))
      have := qfu (l := (taken im x).map (at' f.regs)) (a := ix (at' f.regs r)) (by rw [ptr_ix h3]; exact List.mem_map.2 ⟨r, hrm, rfl⟩)
      omega
  have hputOwns : ∀ (pc' : Int) (held' : List Int) (w o : Int), Sets x.op -> ∀ b, owns (fs ++ [Frame.put { f with own := own, pc := pc', held := held' } x.dst w o]) b = owns fs b + q11 f.regs own b + (if w = 1000 + (b : Int) then o else 0) := fun pc' held' w o hs b => by
    rw [q1m, q30]
    simp only [Frame.put]
    rw [qph hdst.1 (by omega) (by omega) (hd0 hs)]; omega
  -- a register is set, and nothing else
  have simple : ∀ (w : Int) (out : List Int), Sets x.op -> x.op ≠ 23 -> x.op ≠ 24 -> taken im x = [] -> (isInt w \/ 1000 <= w) -> (∀ n ∈ out, isInt n) -> StateOk im { s with out := out, frames := fs ++ [Frame.put { f with own := own, pc := f.pc + 1 } x.dst w 0] } := fun w out hs h1 h2 ht hw ho => by
    obtain ⟨hk, hu⟩ := h.holdsSame hf (g := Frame.put { f with own := own, pc := f.pc + 1 } x.dst w 0) rfl (fun b => Iff.rfl)
    refine h.top hr hf (hd := rfl) ((hG h1 h2).put hdst.1 hw (Int.le_refl _) (fun h3 => by omega)) (HE.congr fun b => ?_) h.trimmed hk hu ho (calls := s.calls) ⟨Int.le_refl _, h.calls.2⟩
    rw [hputOwns _ _ _ _ hs, ht]; simp [occ]
  -- only the place in the code changes
  have goto : ∀ pc' : Int, 0 <= pc' -> pc' < p.code.length -> taken im x = [] -> StateOk im { s with frames := fs ++ [{ f with own := own, pc := pc' }] } := fun pc' h0 h1 ht => by
    obtain ⟨hk, hu⟩ := h.holdsSame hf (g := { f with own := own, pc := pc' }) rfl (fun b => Iff.rfl)
    refine h.top hr hf (hd := rfl) (hrange pc' h0 h1) (HE.congr fun b => ?_) h.trimmed hk hu h.out (calls := s.calls) ⟨Int.le_refl _, h.calls.2⟩
    rw [q1m, q30, ht]; simp [occ]
  have hOp := hI.op
  unfold OpOk at hOp
  unfold perform
  simp only []
  by_cases e0 : x.op = 0
  · rw [if_pos e0] at hOp ⊢
    exact simple _ _ (by unfold Sets; omega) (by omega) (by omega) (by simp [taken, e0]) (Or.inl hOp.2) h.out
  rw [if_neg e0] at hOp ⊢
  by_cases e1 : x.op = 1 \/ x.op = 2 \/ x.op = 3 \/ x.op = 4
  · rw [if_pos e1]
    exact simple _ _ (by unfold Sets; omega) (by omega) (by omega) (by unfold taken; rw [if_neg (by omega), if_neg (by omega), if_neg (by omega)]) (Or.inl (qqx _ _ _)) h.out
  rw [if_neg e1]
  -- the first argument
  have arg0 : 1 <= x.args.length -> 0 <= at' x.args 0 /\ at' x.args 0 < f.regs.length := fun h1 => hArg _ (q13 (by omega) (by omega))
  by_cases e5 : x.op = 5
  · rw [if_pos e5]
    rw [if_neg (by omega), if_pos (by omega)] at hOp
    have ha := arg0 (by omega)
    have hint : isInt (at' f.regs (at' x.args 0)) := hlt1000 _ ha.1 ha.2 (hm.ints (by omega) _ (q13 (by omega) (by omega)))
    refine simple _ _ (by unfold Sets; omega) (by omega) (by omega) (by simp [taken, e5]) (Or.inl hint) fun n hn => ?_
    rcases List.mem_append.1 hn with hn | hn
    · exact h.out n hn
    · simp at hn; subst hn; exact hint
  rw [if_neg e5]
  have hwordsW : (taken im x = x.args) -> ∀ w ∈ words f x.args, isWord s.heap w := fun ht w hw => by
    obtain ⟨r, hr1, rfl⟩ := List.mem_map.1 hw
    exact hword r (ht ▸ hr1)
  -- a new cell
  have alloc : ∀ t, taken im x = x.args -> x.op ≠ 23 -> x.op ≠ 24 -> Sets x.op -> x.args.length <= 3 -> 0 <= t /\ t <= 99 -> StateOk im { s with heap := place s.heap (q0p s.heap) ⟨1, t, words f x.args⟩, frames := fs ++ [Frame.put { f with own := own, pc := f.pc + 1 } x.dst (1000 + q0p s.heap) 1] } := fun t ht h1 h2 hs h3 htag => by
    obtain ⟨k1, k2, k3⟩ := HE.alloc (t := t) (fs := words f x.args) (e' := owns (fs ++ [Frame.put { f with own := own, pc := f.pc + 1 } x.dst (1000 + q0p s.heap) 1])) (hwordsW ht) (by simpa [words] using h3) htag (fun b => by rw [ht]; have := hEn b; simp only [words]; omega) (fun b => by
      rw [hputOwns _ _ _ _ hs, ht]
      simp only [words]
      have : (if (1000 + (q0p s.heap : Int)) = 1000 + (b : Int) then (1 : Int) else 0) = if b = q0p s.heap then 1 else 0 := by
        by_cases hb : b = q0p s.heap
        · rw [if_pos hb, if_pos (by omega)]
        · rw [if_neg hb, if_neg (by omega)]
      rw [this]; omega) h.trimmed
    obtain ⟨hk, hu⟩ := h.holdsSame hf (g := Frame.put { f with own := own, pc := f.pc + 1 } x.dst (1000 + q0p s.heap) 1) rfl k2
    exact h.top hr hf (hd := rfl) ((hG h1 h2).put hdst.1 (Or.inr (by omega)) (by omega) (fun _ => by omega)) k1 k3 hk hu h.out (calls := s.calls) ⟨Int.le_refl _, h.calls.2⟩
  have h12 : (q14 im.decls).length <= 12 := by
    have := fc_12 h.image.sigs.types im.decls.length
    rw [fc_all _ _ (Nat.le_refl _)] at this; exact this
  have hp4 := h.image.sigs.len
  by_cases e6 : x.op = 6
  · rw [if_pos e6]
    rw [if_neg (by omega), if_neg (by omega), if_pos e6] at hOp
    have ht : taken im x = x.args := by unfold taken; rw [if_pos (by omega)]
    have hs : Sets x.op := by unfold Sets; omega
    have hl3 : x.args.length <= 3 := by rw [hOp.2.1]; exact qlt h.image.sigs.types _
    split
    · rename_i hin
      have hi1 : 0 <= x.into - 1 /\ x.into - 1 < f.held.length := by omega
      have hv := hF.held _ (q13 (l := f.held) hi1.1 hi1.2)
      have hv2 : 1000 <= at' f.held (x.into - 1) := by omega
      -- the kept cell
      have hh1 : 0 < holds s.frames (ix (at' f.held (x.into - 1))) := by
        rw [hf, q1c, q24]
        have := qm9 fs (ix (at' f.held (x.into - 1)))
        have := qfu (l := f.held) (a := ix (at' f.held (x.into - 1))) (by rw [ptr_ix hv2]; exact q13 hi1.1 hi1.2)
        omega
      have hkp : Kept s.heap (ix (at' f.held (x.into - 1))) := Classical.byContradiction fun hn => by have := h.unkept _ hn; omega
      have hone := h.kept _ hkp
      obtain ⟨d, hd, hdn⟩ := hkp
      have hfz : ∀ b, occ d.fields b = 0 := fun b => q53 fun hw => by
        have := ((HE.cell d (q06 hd)).dead (by omega)).2.1 _ hw; omega
      have k1 := HE.make (t := x.num) (fs := words f x.args) (e' := owns (fs ++ [Frame.put { f with own := own, pc := f.pc + 1, held := setI f.held (x.into - 1) 0 } x.dst (at' f.held (x.into - 1)) 1])) (a := ix (at' f.held (x.into - 1))) (h' := s.heap.set (ix (at' f.held (x.into - 1))) ⟨1, x.num, words f x.args⟩)
        (Kept.unlive ⟨d, hd, hdn⟩) (q1a hd) (fun b hb => q1t hb) (fun b => by rw [qcf _ hd, hfz]; simp only []; omega) (hwordsW ht) (by simpa [words] using hl3) (by omega) (fun b => by rw [ht]; have := hEn b; simp only [words]; omega) (fun b => by
          rw [hputOwns _ _ _ _ hs, ht]
          simp only [words]
          have : (if at' f.held (x.into - 1) = 1000 + (b : Int) then (1 : Int) else 0) = if b = ix (at' f.held (x.into - 1)) then 1 else 0 := by
            by_cases hb : b = ix (at' f.held (x.into - 1))
            · rw [if_pos hb, if_pos (by rw [hb, ptr_ix hv2])]
            · rw [if_neg hb, if_neg (fun e2 => hb (by rw [e2, ix_ptr]))]
          rw [this]; omega)
      have hheldocc : ∀ b, occ (setI f.held (x.into - 1) 0) b = occ f.held b - (if b = ix (at' f.held (x.into - 1)) then 1 else 0) := by
        intro b
        have hgen : ∀ (l : List Int) (k : Nat) (w : Int), l[k]? = some w -> occ (l.set k 0) b = occ l b - (if w = 1000 + (b : Int) then 1 else 0) := by
          intro l
          induction l with
          | nil => intro k w hk; simp at hk
          | cons y l ih =>
            intro k w hk
            cases k with
            | zero => simp at hk; subst hk; simp only [List.set_cons_zero, occ]; rw [if_neg (by omega)]; omega
            | succ k => have := ih k w (by simpa using hk); simp only [List.set_cons_succ, occ, this]; omega
        rw [setI, hgen _ _ _ (at_get hi1.1 hi1.2)]
        by_cases hb : b = ix (at' f.held (x.into - 1))
        · rw [if_pos hb, if_pos (by rw [hb, ptr_ix hv2])]
        · rw [if_neg hb, if_neg (fun e2 => hb (by rw [e2, ix_ptr]))]
      have hhold : ∀ b, holds (fs ++ [Frame.put { f with own := own, pc := f.pc + 1, held := setI f.held (x.into - 1) 0 } x.dst (at' f.held (x.into - 1)) 1]) b = holds s.frames b - (if b = ix (at' f.held (x.into - 1)) then 1 else 0) := fun b => by
        rw [hf, q1c, q1c, q24, q24]
        simp only [Frame.put]
        rw [hheldocc]; omega
      have hG' : FrameOk im { f with own := own, pc := f.pc + 1, held := setI f.held (x.into - 1) 0 } := by
        have h1 := hG (by omega) (by omega)
        exact ⟨h1.proc, h1.pc, h1.lr, h1.lo, by simp only [q29]; exact h1.lh, h1.reg, h1.own, fun w hw => by rcases q4u hw with hw | hw; exact Or.inl hw; exact h1.held w hw⟩
      refine h.top hr hf (hd := rfl) (hG'.put hdst.1 (Or.inr hv2) (by omega) (fun _ => hv2)) k1 ?_ (fun a ha => ?_) (fun a ha => ?_) h.out (calls := s.calls) ⟨Int.le_refl _, h.calls.2⟩
      · intro c hc
        rw [List.length_set] at hc
        by_cases hb : s.heap.length - 1 = ix (at' f.held (x.into - 1))
        · rw [hb, q1a hd] at hc; simp at hc; subst hc; simp
        · rw [q1t hb] at hc; exact h.trimmed c hc
      · rw [hhold]
        by_cases hb : a = ix (at' f.held (x.into - 1))
        · subst hb; rw [Kept.self hd] at ha; simp at ha
        · rw [if_neg hb]; rw [Kept.ne hb] at ha; have := h.kept a ha; omega
      · rw [hhold]
        by_cases hb : a = ix (at' f.held (x.into - 1))
        · subst hb; rw [if_pos rfl]; omega
        · rw [if_neg hb]; rw [Kept.ne hb] at ha; have := h.unkept a ha; omega
    · exact alloc _ ht (by omega) (by omega) hs hl3 (by omega)
  rw [if_neg e6]
  by_cases e10 : x.op = 10
  · rw [if_pos e10]
    rw [if_neg (by omega), if_neg (by omega), if_neg e6, if_neg (by omega), if_pos e10] at hOp
    obtain ⟨⟨q, hq0, hq1, hq2⟩, _⟩ := hOp
    have h3 := (h.image.sigs.each q (q06 hq1)).1
    have := q07 hq1
    exact alloc _ (by unfold taken; rw [if_pos (by omega)]) (by omega) (by omega) (by unfold Sets; omega) (by omega) (by unfold q0e; omega)
  rw [if_neg e10]
  by_cases e14 : x.op = 14
  · rw [if_pos e14]
    rw [if_neg (by omega), if_pos (by omega)] at hOp
    have ha := arg0 (by omega)
    have ht : taken im x = [] := by simp [taken, e14]
    obtain ⟨hl, hmx⟩ := hm.dup e14
    obtain ⟨hk, hu⟩ := h.holdsSame hf (g := { f with own := setI own (at' x.args 0) (at' own (at' x.args 0) + 1), pc := f.pc + 1 }) rfl (fun b => Kept.bump hl b)
    have h1 := hG (by omega) (by omega)
    refine h.top hr hf (hd := rfl) (g := { f with own := setI own (at' x.args 0) (at' own (at' x.args 0) + 1), pc := f.pc + 1 }) ⟨h1.proc, h1.pc, h1.lr, by simp only [q29]; exact h1.lo, h1.lh, h1.reg, fun k o w ho hw => ?_, h1.held⟩ (HE.bump hl hmx fun b => ?_) ?_ hk hu h.out (calls := s.calls) ⟨Int.le_refl _, h.calls.2⟩
    · simp only [] at ho hw
      rw [qd6] at ho
      split at ho
      · rename_i hkk
        simp at ho
        have e : at' f.regs (at' x.args 0) = w := by rw [at', List.getD_eq_getElem?_getD, ← hkk.1, hw]; rfl
        have := hm.nn _ (q13 (l := own) ha.1 (by omega))
        have := hl.1
        exact ⟨by omega, fun _ => by omega⟩
      · exact h1.own k o w ho hw
    · rw [q1m, q30, ht]
      simp only []
      rw [qjm ha.1 ha.2 (by omega)]
      have hwx := ptr_ix hl.1
      simp only [List.map_nil, occ]
      by_cases hb : b = ix (at' f.regs (at' x.args 0))
      · rw [if_pos hb, if_pos (by rw [hb, hwx])]; omega
      · rw [if_neg hb, if_neg (fun e2 => hb (by rw [e2, ix_ptr]))]; omega
    · obtain ⟨hc, hp2⟩ := q0h hl
      intro c hcc
      unfold bump at hcc
      rw [List.length_set] at hcc
      by_cases hb : s.heap.length - 1 = ix (at' f.regs (at' x.args 0))
      · rw [hb, q1a hc] at hcc; simp at hcc; subst hcc; simp only []; omega
      · rw [q1t hb] at hcc; exact h.trimmed c hcc
  rw [if_neg e14]
  have args1 : x.args.length = 1 -> x.args = [at' x.args 0] := fun h1 => by
    cases hx : x.args with
    | nil => rw [hx] at h1; simp at h1
    | cons y l => cases l with
      | nil => rfl
      | cons z l => rw [hx] at h1; simp at h1
  by_cases e15 : x.op = 15
  · rw [if_pos e15]
    rw [if_neg (by omega), if_pos (by omega)] at hOp
    have ht : taken im x = [at' x.args 0] := by unfold taken; rw [if_pos (by omega)]; exact args1 (by omega)
    rw [ht] at HE
    have k1 := HInv.dropS _ s.heap [at' f.regs (at' x.args 0)] (fun b => owns fs b + q11 f.regs own b) (Nat.le_refl _) (HE.congr fun b => rfl) hEn
    obtain ⟨hk, hu⟩ := h.holdsSame hf (g := { f with own := own, pc := f.pc + 1 }) rfl (fun b => (Kept.trim (h := dropS s.heap [at' f.regs (at' x.args 0)]) b).trans (Kept.dropS _ _ _ (Nat.le_refl _) b))
    exact h.top hr hf (hd := rfl) (hG (by omega) (by omega)) (k1.trim.congr fun b => by rw [q1m, q30]) (qji _) hk hu h.out (calls := s.calls) ⟨Int.le_refl _, h.calls.2⟩
  rw [if_neg e15]
  by_cases e16 : x.op = 16 \/ x.op = 17
  · rw [if_pos e16]
    rw [if_neg (by omega), if_neg (by omega), if_neg e6, if_neg (by omega), if_neg e10, if_pos e16] at hOp
    have ha := arg0 (by omega)
    have ht : taken im x = [at' x.args 0] := by
      unfold taken; rw [if_neg (by omega), if_pos e16]
      cases hx : x.args with
      | nil => rw [hx] at hOp; simp at hOp
      | cons y l => rfl
    obtain ⟨hl, hptr, hfit, hheld⟩ := hm.open' e16
    obtain ⟨hc, hp2⟩ := q0h hl
    have hrest : ∀ r ∈ x.args.drop 1, 0 <= r /\ r < own.length /\ 1000 <= at' f.regs r := fun r hr1 => by
      have h1 := hArg r (List.mem_of_mem_drop hr1)
      have h2 : at' f.regs r ∈ ptrs (q01 s.heap (at' f.regs (at' x.args 0))).fields := by rw [hptr]; exact List.mem_map.2 ⟨r, hr1, rfl⟩
      exact ⟨h1.1, by omega, (q2z.1 h2).2⟩
    have h1 := hG (by omega) (by omega)
    have hGb : FrameOk im { f with own := q0v own (x.args.drop 1), pc := f.pc + 1 } := ⟨h1.proc, h1.pc, h1.lr, by simp only [q3s]; exact h1.lo, h1.lh, h1.reg, qoi (regs := f.regs) _ own hrest h1.own, h1.held⟩
    have hob : ∀ b, q11 f.regs (q0v own (x.args.drop 1)) b = q11 f.regs own b + occ (q01 s.heap (at' f.regs (at' x.args 0))).fields b := fun b => by
      rw [qj4 (regs := f.regs) _ _ (fun r hr1 => by have := hrest r hr1; omega) (by omega), ← qa1 (q01 s.heap _).fields, hptr]; rfl
    have hea : 0 < owns fs (ix (at' f.regs (at' x.args 0))) + q11 f.regs own (ix (at' f.regs (at' x.args 0))) + occ ((taken im x).map (at' f.regs)) (ix (at' f.regs (at' x.args 0))) := by
      rw [ht]
      have := hEn (ix (at' f.regs (at' x.args 0)))
      simp only [List.map_cons, List.map_nil, q2e hl.1, if_pos, occ]
      omega
    have hE' : ∀ b, owns fs b + q11 f.regs (q0v own (x.args.drop 1)) b = (owns fs b + q11 f.regs own b + occ ((taken im x).map (at' f.regs)) b) - (if b = ix (at' f.regs (at' x.args 0)) then 1 else 0) + occ (q01 s.heap (at' f.regs (at' x.args 0))).fields b := fun b => by
      rw [hob, ht]
      simp only [List.map_cons, List.map_nil, q2e hl.1, occ]; omega
    split
    · rename_i hone
      have hh0 := hheld hone.2
      have k1 := HE.gone hc hone.1 hea (c' := ⟨-1, 0, q0i (q01 s.heap (at' f.regs (at' x.args 0))).fields.length⟩) (by simp) (by simp) rfl (fun w hw => q68 hw) (by simp only [q2a]; exact (HE.cell _ (q06 hc)).fl) (fun h2 => by simp at h2) (e' := owns (fs ++ [{ f with own := q0v own (x.args.drop 1), pc := f.pc + 1, held := setI f.held (at' x.args 0) (at' f.regs (at' x.args 0)) }])) (fun b => by rw [q1m, q30]; exact hE' b)
      have hgen : ∀ (b : Nat) (w : Int) (l : List Int) (k : Nat), l[k]? = some 0 -> occ (l.set k w) b = occ l b + (if w = 1000 + (b : Int) then 1 else 0) := by
        intro b w l
        induction l with
        | nil => intro k hk; simp at hk
        | cons y l ih =>
          intro k hk
          cases k with
          | zero => simp at hk; subst hk; simp only [List.set_cons_zero, occ]; split <;> simp_all <;> omega
          | succ k => have := ih k (by simpa using hk); simp only [List.set_cons_succ, occ, this]; omega
      have hah : at' x.args 0 < f.held.length := by omega
      have hhold : ∀ b, holds (fs ++ [{ f with own := q0v own (x.args.drop 1), pc := f.pc + 1, held := setI f.held (at' x.args 0) (at' f.regs (at' x.args 0)) }]) b = holds s.frames b + (if b = ix (at' f.regs (at' x.args 0)) then 1 else 0) := fun b => by
        rw [hf, q1c, q1c, q24, q24]
        have hgg := at_get (l := f.held) ha.1 hah
        rw [hh0] at hgg
        simp only [setI]
        rw [hgen b _ _ _ hgg]
        by_cases hb : b = ix (at' f.regs (at' x.args 0))
        · rw [if_pos hb, if_pos (by rw [hb, ptr_ix hl.1])]; omega
        · rw [if_neg hb, if_neg (fun e2 => hb (by rw [e2, ix_ptr]))]; omega
      have hnk : ¬ Kept s.heap (ix (at' f.regs (at' x.args 0))) := fun hk => hk.unlive hl.2
      refine h.top hr hf (hd := rfl) (g := { f with own := q0v own (x.args.drop 1), pc := f.pc + 1, held := setI f.held (at' x.args 0) (at' f.regs (at' x.args 0)) }) ⟨hGb.proc, hGb.pc, hGb.lr, hGb.lo, by simp only [q29]; exact hGb.lh, hGb.reg, hGb.own, fun w hw => ?_⟩ k1 ?_ (fun a ha2 => ?_) (fun a ha2 => ?_) h.out (calls := s.calls) ⟨Int.le_refl _, h.calls.2⟩
      · rcases q4u hw with hw | hw
        · rw [hw]; exact Or.inr hl.1
        · exact hF.held w hw
      · intro c hcc
        rw [List.length_set] at hcc
        by_cases hb : s.heap.length - 1 = ix (at' f.regs (at' x.args 0))
        · rw [hb, q1a hc] at hcc; simp at hcc; subst hcc; simp
        · rw [q1t hb] at hcc; exact h.trimmed c hcc
      · rw [hhold]
        by_cases hb : a = ix (at' f.regs (at' x.args 0))
        · rw [if_pos hb, hb, h.unkept _ hnk]; rfl
        · rw [if_neg hb]; rw [Kept.ne hb] at ha2; have := h.kept a ha2; omega
      · rw [hhold]
        by_cases hb : a = ix (at' f.regs (at' x.args 0))
        · subst hb; rw [Kept.self hc] at ha2; simp at ha2
        · rw [if_neg hb]; rw [Kept.ne hb] at ha2; have := h.unkept a ha2; omega
    · obtain ⟨k1, k2, k3⟩ := HE.apart hl hea hfit (e' := owns (fs ++ [{ f with own := q0v own (x.args.drop 1), pc := f.pc + 1 }])) (fun b => by rw [q1m, q30]; exact hE' b) h.trimmed
      obtain ⟨hk, hu⟩ := h.holdsSame hf (g := { f with own := q0v own (x.args.drop 1), pc := f.pc + 1 }) rfl k2
      exact h.top hr hf (hd := rfl) hGb k1 k3 hk hu h.out (calls := s.calls) ⟨Int.le_refl _, h.calls.2⟩
  rw [if_neg e16]
  by_cases e18 : x.op = 18
  · rw [if_pos e18]
    rw [if_neg (by omega), if_pos (by omega)] at hOp
    have ha := arg0 (by omega)
    have ht : taken im x = [at' x.args 0] := by unfold taken; rw [if_pos (by omega)]; exact args1 (by omega)
    have hs : Sets x.op := by unfold Sets; omega
    obtain ⟨hk, hu⟩ := h.holdsSame hf (g := Frame.put { f with own := own, pc := f.pc + 1 } x.dst (at' f.regs (at' x.args 0)) (q1b (at' f.regs (at' x.args 0)))) rfl (fun b => Iff.rfl)
    refine h.top hr hf (hd := rfl) ((hG (by omega) (by omega)).put hdst.1 (hreg _ ha.1 ha.2) (qiu _) qgk) (HE.congr fun b => ?_) h.trimmed hk hu h.out (calls := s.calls) ⟨Int.le_refl _, h.calls.2⟩
    rw [hputOwns _ _ _ _ hs, ht, qc0]; rfl
  rw [if_neg e18]
  by_cases e19 : x.op = 19
  · rw [if_pos e19]
    rw [if_neg (by omega), if_neg (by omega), if_neg e6, if_neg (by omega), if_neg e10, if_neg e16, if_pos e19] at hOp
    obtain ⟨hl, hnum⟩ := hm.load e19
    obtain ⟨hc, hp2⟩ := q0h hl
    refine simple _ _ (by unfold Sets; omega) (by omega) (by omega) (by simp [taken, e19]) ?_ h.out
    rcases ((HE.cell _ (q06 hc)).alive hp2).1 _ (q13 hOp.2.1 hnum) with h2 | h2
    · exact Or.inl h2
    · exact Or.inr h2.1
  rw [if_neg e19]
  by_cases e20 : x.op = 20
  · rw [if_pos e20]
    rw [if_neg (by omega), if_neg (by omega), if_neg e6, if_neg (by omega), if_neg e10, if_neg e16, if_neg e19, if_pos e20] at hOp
    have := hnext (by omega) (by omega)
    exact goto _ (by split <;> omega) (by split <;> omega) (by simp [taken, e20])
  rw [if_neg e20]
  by_cases e21 : x.op = 21
  · rw [if_pos e21]
    rw [if_neg (by omega), if_neg (by omega), if_neg e6, if_neg (by omega), if_neg e10, if_neg e16, if_neg e19, if_neg e20, if_neg (by omega), if_pos e21] at hOp
    obtain ⟨hl, htag⟩ := hm.switch e21
    have hix : idxOf (q17 im.decls x.num) (q01 s.heap (at' f.regs (at' x.args 0))).tag < (q17 im.decls x.num).length := List.findIdx_lt_length_of_exists ⟨_, htag, by simp⟩
    obtain ⟨hj1, hj2⟩ := hOp.2.2
    have := hj2 _ (q13 (l := x.jumps) (i := (idxOf (q17 im.decls x.num) (q01 s.heap (at' f.regs (at' x.args 0))).tag : Nat)) (by omega) (by omega))
    exact goto _ (by omega) (by omega) (by simp [taken, e21])
  rw [if_neg e21]
  by_cases e22 : x.op = 22
  · rw [if_pos e22]
    rw [if_neg (by omega), if_neg (by omega), if_neg e6, if_neg (by omega), if_neg e10, if_neg e16, if_neg e19, if_neg e20, if_pos e22] at hOp
    exact goto _ (by omega) (by omega) (by simp [taken, e22])
  rw [if_neg e22]
  have hwreg : ∀ w ∈ words f x.args, isInt w \/ 1000 <= w := fun w hw => by
    obtain ⟨r, hr1, rfl⟩ := List.mem_map.1 hw
    exact hreg r (hArg r hr1).1 (hArg r hr1).2
  have hless : isCall x.op -> s.calls < s.most := fun hc => by
    have := h.calls
    have : s.calls ≠ s.most := fun e => hcall ⟨hc, e⟩
    omega
  -- the state with the frame's registers consumed
  have hmid : ∀ (hp : List Cell), s.calls < s.most -> x.op ≠ 23 -> x.op ≠ 24 -> ∀ (g : Frame), FrameOk im g -> Sets x.op -> g.dst = x.dst -> HInv hp (owns (fs ++ [{ f with own := own, pc := f.pc + 1 }, g])) -> Trimmed hp -> (∀ b, Kept hp b ↔ Kept s.heap b) -> (∀ b, holds [g] b = 0) ->
      StateOk im { s with calls := s.calls + 1, heap := hp, frames := fs ++ [{ f with own := own, pc := f.pc + 1 }, g] } := fun hp hcm h1 h2 g hg hs hgd hH hT hK hhz => by
    have hc0 := h.calls
    have hdep := h.depth
    rw [hf] at hdep
    have ee : fs ++ [{ f with own := own, pc := f.pc + 1 }, g] = (fs ++ [{ f with own := own, pc := f.pc + 1 }]) ++ [g] := by simp
    have hhold : ∀ b, holds (fs ++ [{ f with own := own, pc := f.pc + 1 }, g]) b = holds s.frames b := fun b => by
      rw [ee, q1c, hhz, hf, q1c, q1c, q24, q24]; simp
    refine ⟨h.image, h.status, ⟨fun e => by simp at e; omega, fun e => by simp at e⟩, h.value, h.value0, h.most, ⟨by simp only []; omega, by simp only []; omega⟩, by simp at hdep ⊢; omega, h.out, hH, hT, fun q hq => ?_, fun q hq => ?_, fun k p1 q hp1 hq => ?_, fun a ha => ?_, fun a ha => ?_⟩
    · rcases List.mem_append.1 hq with hq | hq
      · exact hfsok q hq
      · simp at hq
        rcases hq with rfl | rfl
        · exact hG h1 h2
        · exact hg
    · have hfirst := h.first
      rw [hf] at hfirst
      cases fs with
      | nil => simp at hq; subst hq; exact hfirst f (by simp)
      | cons y ys => simp at hq; subst hq; exact hfirst y (by simp)
    · have hch := h.chain k
      rw [hf] at hch
      simp only [] at hp1 hq
      rw [ee] at hp1 hq
      have hkl := q07 hq
      simp at hkl
      rw [List.getElem?_append_left (by simp; omega)] at hp1
      rcases Nat.lt_or_ge (k + 1) (fs.length + 1) with h3 | h3
      · rw [List.getElem?_append_left (by simp; omega)] at hq
        rw [List.getElem?_append_left (by omega)] at hp1
        rcases Nat.lt_or_ge (k + 1) fs.length with h4 | h4
        · rw [List.getElem?_append_left h4] at hq
          exact hch p1 q (by rw [List.getElem?_append_left (by omega)]; exact hp1) (by rw [List.getElem?_append_left h4]; exact hq)
        · rw [List.getElem?_append_right h4] at hq
          have e2 : k + 1 - fs.length = 0 := by omega
          rw [e2] at hq; simp at hq; subst hq
          exact hch p1 f (by rw [List.getElem?_append_left (by omega)]; exact hp1) (by rw [List.getElem?_append_right h4, e2]; rfl)
      · rw [List.getElem?_append_right (by simp; omega)] at hq
        have e2 : k + 1 - (fs ++ [{ f with own := own, pc := f.pc + 1 }]).length = 0 := by simp; omega
        rw [e2] at hq; simp at hq; subst hq
        rw [List.getElem?_append_right (by omega)] at hp1
        have e3 : k - fs.length = 0 := by omega
        rw [e3] at hp1; simp at hp1; subst hp1
        rw [hgd]
        exact ⟨hdst.1, by simp only []; omega, hd0 hs⟩
    · rw [hhold]; exact h.kept a ((hK a).1 ha)
    · rw [hhold]; exact h.unkept a fun h3 => ha ((hK a).2 h3)
  by_cases e9 : x.op = 9
  · rw [if_pos e9]
    rw [if_neg (by omega), if_neg (by omega), if_neg e6, if_pos (by omega)] at hOp
    obtain ⟨q, hq0, hq1, hq2⟩ := hOp
    have ht : taken im x = unlent im x 0 x.args := by unfold taken; rw [if_neg (by omega), if_neg (by omega), if_pos (by omega)]
    refine hmid s.heap (hless (Or.inl e9)) (by omega) (by omega) (q09 im x.num x.dst (words f x.args)) (qa9 h.image hq0 hq1 (by simp [words, hq2]) hwreg) (by unfold Sets; omega) rfl (HE.congr fun b => ?_) h.trimmed (fun _ => Iff.rfl) (q6f _ _ _ _)
    rw [q1m, ht]
    simp only [owns]
    rw [q7h, qk6]; omega
  rw [if_neg e9]
  by_cases e24 : x.op = 24
  · rw [if_pos e24]
    rw [if_neg (by omega), if_neg (by omega), if_neg e6, if_pos (by omega)] at hOp
    obtain ⟨q, hq0, hq1, hq2⟩ := hOp
    have ht : taken im x = unlent im x 0 x.args := by unfold taken; rw [if_neg (by omega), if_neg (by omega), if_pos (by omega)]
    obtain ⟨hz1, hz2⟩ := hm.zero (Or.inl e24)
    have hhold : ∀ b, holds (fs ++ [q09 im x.num f.dst (words f x.args)]) b = holds s.frames b := fun b => by
      rw [hf, q1c, q1c, q6f, q24, q53 (fun hw => by have := hz2 _ hw; omega)]
    have hls := hless (Or.inr (Or.inr e24))
    refine h.top hr hf (hd := rfl) (qa9 h.image hq0 hq1 (by simp [words, hq2]) hwreg) (HE.congr fun b => ?_) h.trimmed (fun a ha => by rw [hhold]; exact h.kept a ha) (fun a ha => by rw [hhold]; exact h.unkept a ha) h.out (calls := s.calls + 1) (by omega)
    rw [q1m, q30, q7h, qk6, ht, q8h hz1]; omega
  rw [if_neg e24]
  by_cases e11 : x.op = 11
  · rw [if_pos e11]
    rw [if_pos (by omega)] at hOp
    have ht : taken im x = x.args := by unfold taken; rw [if_pos (by omega)]
    have hargs : x.args = [at' x.args 0, at' x.args 1] := by
      cases hx : x.args with
      | nil => rw [hx] at hOp; simp at hOp
      | cons y l => cases l with
        | nil => rw [hx] at hOp; simp at hOp
        | cons z l => cases l with
          | nil => rfl
          | cons _ _ => rw [hx] at hOp; simp at hOp
    have ha1 : 0 <= at' x.args 1 /\ at' x.args 1 < f.regs.length := hArg _ (q13 (by omega) (by omega))
    obtain ⟨hl, ht0, ht1, hpar, hlen, hfit⟩ := hm.apply e11
    obtain ⟨hc, hp2⟩ := q0h hl
    obtain ⟨q, hq⟩ := q02 (l := im.procs) (k := ((q01 s.heap (at' f.regs (at' x.args 0))).tag - q0e im).toNat) (by omega)
    have hqe : q0y im ((q01 s.heap (at' f.regs (at' x.args 0))).tag - q0e im) = q := by simp [q0y, hq]
    rw [hqe] at hpar hlen
    have hEt : ∀ b, occ ((taken im x).map (at' f.regs)) b = (if b = ix (at' f.regs (at' x.args 0)) then 1 else 0) + occ [at' f.regs (at' x.args 1)] b := fun b => by
      rw [ht, hargs]
      simp only [List.map_cons, List.map_nil]
      rw [q2e]
      · rfl
      · exact hl.1
    obtain ⟨k1, k2, k3⟩ := HE.apart hl (by simp only [hEt, if_pos]; have := hEn (ix (at' f.regs (at' x.args 0))); have := occ_nn [at' f.regs (at' x.args 1)] (ix (at' f.regs (at' x.args 0))); omega) hfit
      (e' := owns (fs ++ [{ f with own := own, pc := f.pc + 1 }, q09 im ((q01 s.heap (at' f.regs (at' x.args 0))).tag - q0e im) x.dst ((q01 s.heap (at' f.regs (at' x.args 0))).fields ++ [at' f.regs (at' x.args 1)])])) (fun b => by
        rw [q1m, hEt]
        simp only [owns]
        rw [q7h, hqe, List.length_eq_zero_iff.1 hlen, qls, q4a]; omega) h.trimmed
    refine hmid _ (hless (Or.inr (Or.inl e11))) (by omega) (by omega) _ (qa9 h.image ht0 hq (by simp; omega) fun w hw => ?_) (by unfold Sets; omega) rfl k1 k3 k2 (q6f _ _ _ _)
    rcases List.mem_append.1 hw with hw | hw
    · rcases ((HE.cell _ (q06 hc)).alive hp2).1 w hw with h2 | h2
      · exact Or.inl h2
      · exact Or.inr h2.1
    · simp at hw; subst hw; exact hreg _ ha1.1 ha1.2
  rw [if_neg e11]
  -- a return
  have e23 : x.op = 23 := by
    rw [if_neg (by omega)] at hOp
    by_cases e23 : x.op = 23
    · exact e23
    · rw [if_neg (by omega), if_neg e6, if_neg (by omega), if_neg e10, if_neg e16, if_neg e19, if_neg e20, if_neg e22, if_neg e21] at hOp
      exact hOp.elim
  rw [if_neg (by omega), if_pos (by omega)] at hOp
  have ha := arg0 (by omega)
  have ht : taken im x = [at' x.args 0] := by unfold taken; rw [if_pos (by omega)]; exact args1 (by omega)
  obtain ⟨hz1, hz2⟩ := hm.zero (Or.inr e23)
  have hholdf : ∀ b, holds [f] b = 0 := fun b => by rw [q24]; exact q53 (fun hw => by have := hz2 _ hw; omega)
  split
  · rename_i hlast
    have hfs : fs = [] := List.getLast?_eq_none_iff.1 hlast
    subst hfs
    have hret := hm.ret e23
    have hint := hlt1000 _ ha.1 ha.2 (by rcases hret with h1 | h1; (rw [hf] at h1; simp at h1); exact h1)
    have hc0 := h.calls
    refine ⟨h.image, ⟨by simp, by simp⟩, by simp, hint, by simp, h.most, h.calls, by simp; omega, h.out, HE.congr fun b => ?_, h.trimmed, by simp, by simp, by simp, fun a ha2 => ?_, fun a ha2 => ?_⟩
    · rw [ht, q8h hz1]
      simp only [owns, List.map_cons, List.map_nil]
      rw [q53 (by simp; have := hint.2; omega)]; rfl
    · have h1 := h.kept a ha2
      rw [hf] at h1
      have h2 := hholdf a
      simp only [List.nil_append] at h1
      omega
    · simp [holds]
  · rename_i pf hlast
    have hfs : fs = fs.dropLast ++ [pf] := by
      have hne : fs ≠ [] := fun e => by rw [e] at hlast; simp at hlast
      rw [List.getLast?_eq_some_getLast hne] at hlast
      simp at hlast
      rw [← hlast]; exact (List.dropLast_concat_getLast hne).symm
    generalize fs.dropLast = fs' at hfs
    subst hfs
    have hPF : FrameOk im pf := hfsok pf (by simp)
    obtain ⟨hdd0, hdd1, hdd2⟩ := h.chain fs'.length pf f (by rw [hf]; simp) (by rw [hf]; simp)
    have hdr : f.dst < pf.regs.length := by have := hPF.lr; have := hPF.lo; omega
    have hc0 := h.calls
    have hdep := h.depth
    rw [hf] at hdep
    have hhold : ∀ b, holds (fs' ++ [pf.put f.dst (at' f.regs (at' x.args 0)) (q1b (at' f.regs (at' x.args 0)))]) b = holds s.frames b := fun b => by
      rw [hf, q1c, q1c, hholdf, q1c, q24, q24]; simp [Frame.put]
    refine ⟨h.image, h.status, ⟨fun e => by simp at e; omega, fun e => by simp at e⟩, h.value, h.value0, h.most, h.calls, by simp at hdep ⊢; omega, h.out, HE.congr fun b => ?_, h.trimmed, fun q hq => ?_, fun q hq => ?_, fun k p1 q hp1 hq => ?_, fun a ha2 => by rw [hhold]; exact h.kept a ha2, fun a ha2 => by rw [hhold]; exact h.unkept a ha2⟩
    · rw [q1m, q30, q1m, q30, ht, q8h hz1]
      simp only [Frame.put, List.map_cons, List.map_nil]
      rw [qph hdd0 hdr hdd1 hdd2, qc0]; omega
    · rcases List.mem_append.1 hq with hq | hq
      · exact hfsok q (List.mem_append_left _ hq)
      · simp at hq; subst hq
        exact hPF.put hdd0 (hreg _ ha.1 ha.2) (qiu _) qgk
    · have hfirst := h.first
      rw [hf] at hfirst
      cases fs' with
      | nil => simp at hq; subst hq; exact hfirst pf (by simp)
      | cons y ys => simp at hq; subst hq; exact hfirst y (by simp)
    · have hch := h.chain k
      rw [hf] at hch
      simp only [] at hp1 hq
      have hkl := q07 hq
      simp at hkl
      rw [List.getElem?_append_left (by omega)] at hp1
      have e1 : (fs' ++ [pf] ++ [f])[k]? = some p1 := by rw [List.getElem?_append_left (by simp; omega), List.getElem?_append_left (by omega)]; exact hp1
      rcases Nat.lt_or_ge (k + 1) fs'.length with h3 | h3
      · rw [List.getElem?_append_left h3] at hq
        exact hch p1 q e1 (by rw [List.getElem?_append_left (by simp; omega), List.getElem?_append_left h3]; exact hq)
      · rw [List.getElem?_append_right h3] at hq
        have e2 : k + 1 - fs'.length = 0 := by omega
        rw [e2] at hq; simp at hq; subst hq
        exact hch p1 pf e1 (by rw [List.getElem?_append_left (by simp; omega), List.getElem?_append_right h3, e2]; rfl)
theorem qp7 {im : Image} {s : St} (h : StateOk im s) : StateOk im (step im s) := by
  unfold step
  by_cases hr : s.status = 3
  · rw [if_neg (by simpa using hr)]
    obtain ⟨fs, f, hf⟩ := h.split hr
    have e1 : s.frames.getLast? = some f := by rw [hf]; simp
    have e2 : s.frames.dropLast = fs := by rw [hf]; simp
    rw [e1, e2]
    simp only []
    have other : ∀ n, 1 <= n -> n <= 2 -> StateOk im { s with status := n } := fun n h1 h2 =>
      ⟨h.image, ⟨by simp only []; omega, by simp only []; omega⟩, ⟨fun e => by simp only [] at e; omega, fun e => by simp only [] at e; rw [hf] at e; simp at e⟩, h.value, fun hv => by have := h.value0 hv; omega, h.most, h.calls, h.depth, h.out, h.heap, h.trimmed, h.frames, h.first, h.chain, h.kept, h.unkept⟩
    split
    · exact other 1 (by omega) (by omega)
    · rename_i hcall
      split
      · rename_i hm; exact qs9 h hr hf hm hcall
      · exact other 2 (by omega) (by omega)
  · rw [if_pos (by simpa using hr)]; exact h
end
section
def rem (im : Image) : List Frame -> Int
  | [] => 0
  | f :: fs => ((q0y im f.proc).code.length - f.pc) + rem im fs
theorem q49 (im : Image) : ∀ (l r : List Frame), rem im (l ++ r) = rem im l + rem im r
  | [], r => by simp [rem]
  | f :: l, r => by simp only [List.cons_append, rem, q49 im l r]; omega
def toDo (im : Image) (s : St) : Int := rem im s.frames + (s.most - s.calls) * 2000
theorem rem_nn {im : Image} : ∀ {fs : List Frame}, (∀ f ∈ fs, FrameOk im f) -> 0 <= rem im fs
  | [], _ => by simp [rem]
  | f :: fs, h => by
    have := rem_nn (fun g hg => h g (List.mem_cons_of_mem _ hg))
    have := (h f List.mem_cons_self).pc
    simp only [rem]; omega
theorem qto {im : Image} {s : St} (h : StateOk im s) : 0 <= toDo im s := by
  have := rem_nn h.frames
  have := h.calls
  unfold toDo; omega
theorem qqh {im : Image} {s : St} {fs : List Frame} {f : Frame} (h : StateOk im s) (hr : s.status = 3) (hf : s.frames = fs ++ [f])
    (hm : MayRun im s f (q0r im f) (q0b f.regs f.own (taken im (q0r im f)))) :
    toDo im (perform im s fs f (q0r im f) (q0b f.regs f.own (taken im (q0r im f)))) < toDo im s := by
  have hF : FrameOk im f := h.frames f (by rw [hf]; simp)
  obtain ⟨p, hp, hpe, hP, hcode, hI⟩ := hF.instr h.image
  have hpc := hF.pc
  generalize q0r im f = x at *
  generalize q0b f.regs f.own (taken im x) = own at *
  rw [hpe] at hpc
  have one : ∀ (g : Frame) (s' : St), s'.frames = fs ++ [g] -> g.proc = f.proc -> f.pc < g.pc -> s'.most = s.most -> s'.calls = s.calls -> toDo im s' < toDo im s := fun g s' h3 h1 h2 h4 h5 => by
    unfold toDo
    rw [hf, h3, h4, h5, q49, q49]
    simp only [rem, h1]; omega
  have code : ∀ q : Int, 0 <= q -> q < im.procs.length -> ((q0y im q).code.length : Int) <= 2000 := fun q h0 h1 => by
    obtain ⟨pq, hq⟩ := q02 (l := im.procs) (k := q.toNat) (by omega)
    have := (h.image.each pq (q06 hq)).len
    have e : q0y im q = pq := by simp [q0y, hq]
    rw [e]; omega
  have two : ∀ (g n : Frame) (s' : St), s'.frames = fs ++ [g, n] -> g.proc = f.proc -> f.pc < g.pc -> 0 <= n.proc -> n.proc < im.procs.length -> n.pc = 0 -> s'.most = s.most -> s'.calls = s.calls + 1 -> toDo im s' < toDo im s := fun g n s' h3 h1 h2 h6 h7 h8 h4 h5 => by
    have := code n.proc h6 h7
    unfold toDo
    rw [hf, h3, h4, h5, q49, q49]
    simp only [rem, h1, h8]; omega
  have tail : ∀ (n : Frame) (s' : St), s'.frames = fs ++ [n] -> 0 <= n.proc -> n.proc < im.procs.length -> n.pc = 0 -> s'.most = s.most -> s'.calls = s.calls + 1 -> toDo im s' < toDo im s := fun n s' h3 h6 h7 h8 h4 h5 => by
    have := code n.proc h6 h7
    unfold toDo
    rw [hf, h3, h4, h5, q49, q49]
    simp only [rem, h8, hpe]; omega
  have hOp := hI.op
  unfold OpOk at hOp
  unfold perform
  simp only []
  by_cases e0 : x.op = 0
  · rw [if_pos e0]; exact one _ _ rfl rfl (by show f.pc < f.pc + 1; omega) rfl rfl
  rw [if_neg e0] at hOp ⊢
  by_cases e1 : x.op = 1 \/ x.op = 2 \/ x.op = 3 \/ x.op = 4
  · rw [if_pos e1]; exact one _ _ rfl rfl (by show f.pc < f.pc + 1; omega) rfl rfl
  rw [if_neg e1]
  by_cases e5 : x.op = 5
  · rw [if_pos e5]; exact one _ _ rfl rfl (by show f.pc < f.pc + 1; omega) rfl rfl
  rw [if_neg e5]
  by_cases e6 : x.op = 6
  · rw [if_pos e6]
    split
    · exact one _ _ rfl rfl (by show f.pc < f.pc + 1; omega) rfl rfl
    · exact one _ _ rfl rfl (by show f.pc < f.pc + 1; omega) rfl rfl
  rw [if_neg e6]
  by_cases e10 : x.op = 10
  · rw [if_pos e10]; exact one _ _ rfl rfl (by show f.pc < f.pc + 1; omega) rfl rfl
  rw [if_neg e10]
  by_cases e14 : x.op = 14
  · rw [if_pos e14]; exact one _ _ rfl rfl (by simp only []; omega) rfl rfl
  rw [if_neg e14]
  by_cases e15 : x.op = 15
  · rw [if_pos e15]; exact one _ _ rfl rfl (by simp only []; omega) rfl rfl
  rw [if_neg e15]
  by_cases e16 : x.op = 16 \/ x.op = 17
  · rw [if_pos e16]
    split
    · exact one _ _ rfl rfl (by simp only []; omega) rfl rfl
    · exact one _ _ rfl rfl (by simp only []; omega) rfl rfl
  rw [if_neg e16]
  by_cases e18 : x.op = 18
  · rw [if_pos e18]; exact one _ _ rfl rfl (by show f.pc < f.pc + 1; omega) rfl rfl
  rw [if_neg e18]
  by_cases e19 : x.op = 19
  · rw [if_pos e19]; exact one _ _ rfl rfl (by show f.pc < f.pc + 1; omega) rfl rfl
  rw [if_neg e19]
  by_cases e20 : x.op = 20
  · rw [if_pos e20]
    rw [if_neg (by omega), if_neg (by omega), if_neg e6, if_neg (by omega), if_neg e10, if_neg e16, if_neg e19, if_pos e20] at hOp
    exact one _ _ rfl rfl (by simp only []; split <;> omega) rfl rfl
  rw [if_neg e20]
  by_cases e21 : x.op = 21
  · rw [if_pos e21]
    rw [if_neg (by omega), if_neg (by omega), if_neg e6, if_neg (by omega), if_neg e10, if_neg e16, if_neg e19, if_neg e20, if_neg (by omega), if_pos e21] at hOp
    obtain ⟨hl, htag⟩ := hm.switch e21
    have hix : idxOf (q17 im.decls x.num) (q01 s.heap (at' f.regs (at' x.args 0))).tag < (q17 im.decls x.num).length := List.findIdx_lt_length_of_exists ⟨_, htag, by simp⟩
    obtain ⟨hj1, hj2⟩ := hOp.2.2
    have := hj2 _ (q13 (l := x.jumps) (i := (idxOf (q17 im.decls x.num) (q01 s.heap (at' f.regs (at' x.args 0))).tag : Nat)) (by omega) (by omega))
    exact one _ _ rfl rfl (by simp only []; omega) rfl rfl
  rw [if_neg e21]
  by_cases e22 : x.op = 22
  · rw [if_pos e22]
    rw [if_neg (by omega), if_neg (by omega), if_neg e6, if_neg (by omega), if_neg e10, if_neg e16, if_neg e19, if_neg e20, if_pos e22] at hOp
    exact one _ _ rfl rfl (by simp only []; omega) rfl rfl
  rw [if_neg e22]
  by_cases e9 : x.op = 9
  · rw [if_pos e9]
    rw [if_neg (by omega), if_neg (by omega), if_neg e6, if_pos (by omega)] at hOp
    obtain ⟨q, hq0, hq1, hq2⟩ := hOp
    have := q07 hq1
    exact two _ _ _ rfl rfl (by show f.pc < f.pc + 1; omega) (by simp only [q09]; omega) (by simp only [q09]; omega) rfl rfl rfl
  rw [if_neg e9]
  by_cases e24 : x.op = 24
  · rw [if_pos e24]
    rw [if_neg (by omega), if_neg (by omega), if_neg e6, if_pos (by omega)] at hOp
    obtain ⟨q, hq0, hq1, hq2⟩ := hOp
    have := q07 hq1
    exact tail _ _ rfl (by simp only [q09]; omega) (by simp only [q09]; omega) rfl rfl rfl
  rw [if_neg e24]
  by_cases e11 : x.op = 11
  · rw [if_pos e11]
    obtain ⟨hl, ht0, ht1, _⟩ := hm.apply e11
    exact two _ _ _ rfl rfl (by show f.pc < f.pc + 1; omega) (by simp only [q09]; omega) (by simp only [q09]; omega) rfl rfl rfl
  rw [if_neg e11]
  split
  · rename_i hlast
    have hfs : fs = [] := List.getLast?_eq_none_iff.1 hlast
    subst hfs
    unfold toDo
    rw [hf]
    simp only [rem, List.nil_append, hpe]; omega
  · rename_i pf hlast
    have hfs : fs = fs.dropLast ++ [pf] := by
      have hne : fs ≠ [] := fun e => by rw [e] at hlast; simp at hlast
      rw [List.getLast?_eq_some_getLast hne] at hlast
      simp at hlast
      rw [← hlast]; exact (List.dropLast_concat_getLast hne).symm
    generalize fs.dropLast = fs' at hfs
    subst hfs
    unfold toDo
    rw [hf]
    simp only [q49, rem, Frame.put, hpe]; omega
theorem qsq {im : Image} {s : St} (h : StateOk im s) (hr : s.status = 3) (hr' : (step im s).status = 3) : toDo im (step im s) < toDo im s := by
  obtain ⟨fs, f, hf⟩ := h.split hr
  have e1 : s.frames.getLast? = some f := by rw [hf]; simp
  have e2 : s.frames.dropLast = fs := by rw [hf]; simp
  unfold step at hr' ⊢
  rw [if_neg (by simpa using hr), e1, e2] at hr' ⊢
  simp only [] at hr' ⊢
  split at hr'
  · simp at hr'
  · rename_i h1
    rw [if_neg h1]
    split at hr'
    · rename_i h2
      rw [if_pos h2]; exact qqh h hr hf h2
    · simp at hr'
noncomputable def steps (im : Image) : Nat -> St -> St
  | 0, s => s
  | n + 1, s => steps im n (step im s)
theorem q6k (im : Image) : ∀ (n : Nat) (s : St), steps im (n + 1) s = step im (steps im n s)
  | 0, s => rfl
  | n + 1, s => by rw [steps, q6k im n, steps]
theorem qhj {im : Image} : ∀ (n : Nat) {s : St}, StateOk im s -> StateOk im (steps im n s)
  | 0, s, h => h
  | n + 1, s, h => qhj n (qp7 h)
theorem q8r {im : Image} {s : St} (h : s.status ≠ 3) : step im s = s := by unfold step; rw [if_pos h]
theorem qb2 {im : Image} : ∀ (n : Nat) {s : St}, s.status ≠ 3 -> steps im n s = s
  | 0, s, _ => rfl
  | n + 1, s, h => by rw [steps, q8r h, qb2 n h]
theorem qnm {im : Image} : ∀ (n : Nat) {s : St}, StateOk im s -> toDo im s < n -> (steps im n s).status ≠ 3
  | 0, s, h, hn => by have := qto h; omega
  | n + 1, s, h, hn => by
    rcases Classical.em (s.status = 3) with hr | hr
    · rcases Classical.em ((step im s).status = 3) with hr' | hr'
      · have := qsq h hr hr'
        exact qnm n (qp7 h) (by omega)
      · rw [steps, qb2 n hr']; exact hr'
    · rw [qb2 _ hr]; exact hr
def start (im : Image) (most : Int) : St := ⟨3, 0, 0, most, [], [], [q09 im 0 0 []]⟩
theorem qm4 {im : Image} {most : Int} (hi : ImageOk im) (hm : 0 <= most /\ most <= 40) : StateOk im (start im most) := by
  have hl := hi.sigs.len
  obtain ⟨p, hp⟩ := q02 (l := im.procs) (k := 0) (by omega)
  have hfst := hi.sigs.first p hp
  have hF := qa9 (dst := 0) (ws := []) hi (Int.le_refl 0) hp (by simp [hfst.1]) (by simp)
  have ho : ∀ b, owns [q09 im 0 0 []] b = 0 := fun b => by rw [q30, q7h]; simp [q11]
  refine ⟨hi, by simp [start], by simp [start], by simp [start, isInt], by simp [start], hm, by simp [start]; omega, by simp [start], by simp [start], ⟨by simp [start], ⟨fun _ => 0, by simp [start]⟩, by simp [start], fun a => by simp only [start]; rw [ho]; omega, fun a ha => by simp only [start] at ha; rw [ho] at ha; omega⟩, ?_, ?_, ?_, ?_, fun a ⟨c, hc, _⟩ => by simp [start] at hc, fun a _ => q6f _ _ _ _ _⟩
  · intro c hc; simp [start] at hc
  · intro f hf; simp [start] at hf; subst hf; exact hF
  · intro f hf; simp [start] at hf; subst hf; rfl
  · intro k f g hf hg; simp [start] at hg
theorem qs7 {im : Image} {most : Int} (hi : ImageOk im) (hm : 0 <= most /\ most <= 40) : toDo im (start im most) <= 82000 := by
  have hl := hi.sigs.len
  obtain ⟨p, hp⟩ := q02 (l := im.procs) (k := 0) (by omega)
  have h1 := (hi.each p (q06 hp)).len
  have e : q0y im 0 = p := by simp [q0y, hp]
  unfold toDo start
  simp only [rem, q09, e]; omega
end
section
theorem SlOf.cut0 {α : Type} {m : Mem} {sz : Nat} {R : List Ce -> α -> Prop} {s : Sl} {l : List α} (h : SlOf m sz R s l) {k : Nat} (hk : k <= l.length) : SlOf m sz R (s.cut 0 k sz) (l.take k) := by
  have hl := h.len
  have hc := h.cap
  have hm := h.lim
  cases s with
  | nil =>
    simp at hl
    have : k = 0 := by omega
    subst this
    exact ⟨by simp [Sl.cut], by simp [Sl.cut], by simp [Sl.cut], by simp⟩
  | emp b o sp =>
    simp at hl
    have : k = 0 := by omega
    subst this
    exact ⟨by simp [Sl.cut], by simp [Sl.cut], by simp [Sl.cut], by simp⟩
  | mk b o n c =>
    simp only [Sl.len_mk, Sl.cap_mk] at hl hc hm
    refine ⟨by simp [Sl.cut]; omega, by simp [Sl.cut]; omega, by simp [Sl.cut]; omega, fun j x hj => ?_⟩
    have hj' : j < k := by have := q07 hj; simp at this; omega
    rw [List.getElem?_take, if_pos hj'] at hj
    have := h.row j x hj
    simpa [Sl.cut] using this
theorem q6d (decls : Sl) (t : Int) (m : Mem) : q0q Tryz.prog q46 [Sl.v decls, vi t] m (IsTy decls.len t) := by
  apply qky
  refine ⟨fun h => retB ?_ (Ext.refl _), fun h => retF ?_ (Ext.refl _)⟩ <;> simp at h
  · simp [IsTy, h]
  · unfold IsTy; omega
theorem qdj {m : Mem} {list : Sl} {l : List Int} (hl : q03 m list l) (decls : Sl) : q0q Tryz.prog q5l [Sl.v decls, Sl.v list] m (AllTy decls.len l) := by
  apply qib
  have hll := hl.len
  refine forI (n := l.length) (hll ▸ hl.lim) (fun k m' => Ext m m' /\ ∀ t ∈ l.take k, IsTy decls.len t) ⟨Ext.refl _, by simp⟩ ?_
  rintro k m1 I μ hk ⟨hx, hn⟩ next
  refine ⟨fun h => ?_, fun h => ?_⟩
  · simp only [decide_eq_true_eq] at h
    obtain ⟨x, hx1⟩ := q02 (l := l) (k := k) (by omega)
    refine ⟨by omega, by omega, x, by simpa using hx.gcell (hl.at' hx1), ?_⟩
    refine (q6d _ _ _).then fun b m2 hb h2 => ⟨_, rfl, fun h => ?_, fun h => ?_⟩
    · exact retF (fun hp => nb hb h (hp x (q06 hx1))) (hx.trans h2)
    · exact next (by omega) _ ⟨hx.trans h2, q0l hx1 hn (yb hb h)⟩
  · simp only [decide_eq_false_iff_not] at h
    exact retT (q10 (by omega) hn) hx
theorem q8p (op : Int) (m : Mem) (h7 : op ≠ 7 /\ op ≠ 8) : q0q Tryz.prog q3z [vi op] m (Sets op) := by
  apply qe0
  refine ⟨fun h => ⟨fun h2 => retT ?_ (Ext.refl _), fun h2 => ⟨fun h3 => retT ?_ (Ext.refl _), fun h3 => retB ?_ (Ext.refl _)⟩⟩, fun h => ⟨fun h3 => retT ?_ (Ext.refl _), fun h3 => retB ?_ (Ext.refl _)⟩⟩ <;> simp [Sets] at * <;> omega
theorem q82 {m : Mem} {decls : Sl} {ds : List Decl} (hd : q0j m decls ds) (hlen : ds.length <= 4) (hb : ∀ d ∈ ds, d.cons.length <= 3) : Gets Tryz.prog q2q [Sl.v decls] m (vi (q14 ds).length) := by
  apply qic
  unfold qcu
  simp -zeta only [q0c, q0d]
  have hdl := hd.len
  refine forSI (n := ds.length) (by omega) (fun j n m' => Ext m m' /\ n = (fc ds j : Nat) /\ fc ds j <= 3 * j) ⟨Ext.refl _, by cases ds <;> rfl, by cases ds <;> simp [fc]⟩ ?_
  rintro j n m1 I μ hj ⟨hx, rfl, h3⟩ next
  refine ⟨fun h => ?_, fun h => ?_⟩
  · simp only [decide_eq_true_eq] at h
    obtain ⟨d, hd1⟩ := q02 (l := ds) (k := j) (by omega)
    obtain ⟨f, hf, g0, g1, g2⟩ := (q0j.ext hx hd).at' hd1
    refine ⟨by omega, by omega, _, g0, _, g1, f, g2, ?_⟩
    intro m2 m3
    have h2 := hb d (q06 hd1)
    refine next (by omega) _ _ ⟨(hx.pushed _).scells hx.size _ _, ?_, ?_⟩
    · rw [q08 (by omega) (by have := hf.len; omega), q6m hd1, hf.len]; rfl
    · rw [q6m hd1]; omega
  · simp only [decide_eq_false_iff_not] at h
    refine ⟨?_, hx⟩
    rw [fc_all ds j (by omega)]
theorem qp2 {ds : List Decl} (h : TypesOk ds) : ∀ d ∈ ds, d.cons.length <= 3 := fun d hd => by
  obtain ⟨k, hk⟩ := List.mem_iff_getElem?.1 hd
  exact q54 h hk
theorem qrz : ∀ (ds : List Decl) (k : Nat), (q14 (ds.take k)).length = fc ds k
  | [], k => by simp [q14, fc_nil]
  | d :: ds, 0 => by simp [q14, fc]
  | d :: ds, k + 1 => by
    have := qrz ds k
    simp only [List.take_succ_cons, q14, List.flatMap_cons, List.length_append, fc] at this ⊢
    omega
theorem q9y {m : Mem} {decls : Sl} {ds : List Decl} (hd : q0j m decls ds) (ht : TypesOk ds) (t : Int) : q00 Tryz.prog q59 [Sl.v decls, vi t] m fun v m' => ∃ s, v = Sl.v s /\ q03 m' s (q17 ds t) /\ Ext m m' := by
  apply qlc
  unfold qfe
  simp -zeta only [q0c, q0d]
  have hdl := hd.len
  have hdc := hd.cap
  have hn0 : ∀ (h : ¬ (1 <= t /\ t <= ds.length)), q03 m .nil (q17 ds t) := fun h => by
    unfold q17; rw [if_neg h]
    exact ⟨rfl, Nat.le_refl _, by simp, by simp⟩
  have := ht.len
  refine ⟨fun h => ?_, fun h => ?_⟩
  · simp only [decide_eq_true_eq] at h
    exact ⟨_, rfl, hn0 (by omega), Ext.refl _⟩
  simp only [decide_eq_false_iff_not] at h
  refine ⟨fun h1 => ?_, fun h1 => ?_⟩
  · simp only [decide_eq_true_eq] at h1
    exact ⟨_, rfl, hn0 (by omega), Ext.refl _⟩
  simp only [decide_eq_false_iff_not] at h1
  have e1 : w64 (t - 1) = ((t.toNat - 1 : Nat) : Int) := by rw [q08 (by omega) (by omega)]; omega
  rw [e1]
  obtain ⟨d, hd1⟩ := q02 (l := ds) (k := t.toNat - 1) (by omega)
  have e2 : q17 ds t = (List.range d.cons.length).map fun i => ((fc ds (t.toNat - 1) + i : Nat) : Int) := by
    unfold q17
    rw [if_pos (by omega), hd1]; rfl
  rw [e2]
  have h12 := fc_12 ht (t.toNat - 1)
  have h6 := q54 ht hd1
  refine ⟨by omega, by omega, by omega, ?_⟩
  have hcut : q0j m (decls.cut 0 (t.toNat - 1) 3) (ds.take (t.toNat - 1)) := SlOf.cut0 hd (by omega)
  have hcc := q82 hcut (by simp; omega) (fun d hd => qp2 ht d (List.mem_of_mem_take hd))
  rw [qrz] at hcc
  refine hcc.then fun m1 hx1 => ⟨_, rfl, ?_⟩
  obtain ⟨f, hf, g0, g1, g2⟩ := (q0j.ext hx1 hd).at' hd1
  have hfl := hf.len
  refine ⟨by omega, by omega, f, by simpa using g2, ?_⟩
  refine forSI (n := d.cons.length) (by omega) (fun j s m' => Ext m m' /\ Own m m' ty_int 1 s (((List.range j).map fun i => ((fc ds (t.toNat - 1) + i : Nat) : Int)).map Ce.i) /\ s.len = j) ⟨hx1, by simpa using Own.nil m m1 ty_int 1, rfl⟩ ?_
  rintro j s m3 I μ hj ⟨hx, hs, hsl⟩ next
  refine ⟨fun h3 => ?_, fun h3 => ?_⟩
  · simp only [decide_eq_true_eq] at h3
    intro m5
    have e3 : w64 (((fc ds (t.toNat - 1) : Nat) : Int) + (j : Int)) = ((fc ds (t.toNat - 1) + j : Nat) : Int) := by rw [q08 (by omega) (by omega)]; omega
    have hm5 : m5 = m3.push (.cells (vals [.i (((fc ds (t.toNat - 1) + j : Nat) : Int))]) ty_int) := by rw [← e3]
    clear_value m5
    subst hm5
    refine Own.append (zs := [.i 0]) (new := [.i ((fc ds (t.toNat - 1) + j : Nat) : Int)]) (hs.ext (Ext.push _ _)) (hx.pushed _) rfl (Blk.push _ _ _).row (by simp [hsl]; omega) ?_
    intro r m' h7 h8 h9 h10 h11 _
    refine next (by omega) _ _ ⟨h8, ?_, by simp [h9, hsl]⟩
    rw [List.range_succ, List.map_append, List.map_append]
    exact h7
  · simp only [decide_eq_false_iff_not] at h3
    have : j = d.cons.length := by omega
    subst this
    exact ⟨_, rfl, q03.ofOwn hs (by simp; omega), hx⟩
theorem qrm {ds : List Decl} {i j : Nat} {d : Decl} {f : List Int} (h : ds[i]? = some d) (hj : d.cons[j]? = some f) : q21 ds ((fc ds i + j : Nat) : Int) = f := by
  unfold q21
  rw [if_pos (by omega), Int.toNat_natCast, qf3 ds i j d h (q07 hj), hj]; rfl
theorem qq6 {m : Mem} {decls : Sl} {ds : List Decl} (hd : q0j m decls ds) (ht : TypesOk ds) (c : Int) (hc : -1000000 <= c /\ c <= 1000000) : q00 Tryz.prog qct [Sl.v decls, vi c] m fun v m' => ∃ t s, v = .tuple #[vi t, .agg #[Sl.v s]] /\ q03 m' s (q21 ds c) /\ Ext m m' := by
  apply qmr
  unfold qhn
  simp -zeta only [q0c, q0d]
  intro m1
  have hx0 : Ext m m1 := (Ext.refl m).pushed _
  have hs1 : m.size < m1.size := by simp [m1]
  clear_value m1
  have hdl := hd.len
  have := ht.len
  refine forSI (n := ds.length) (by omega) (fun j c' m' => Ext m m' /\ m1.size <= m'.size /\ c' = c - (fc ds j : Nat) /\ ¬ (0 <= c /\ c < fc ds j)) ⟨hx0, Nat.le_refl _, by cases ds <;> simp [fc], by cases ds <;> simp [fc]⟩ ?_
  rintro j c' m2 I μ hj ⟨hx, hsz, rfl, hno⟩ next
  refine ⟨fun h => ?_, fun h => ?_⟩
  · simp only [decide_eq_true_eq] at h
    obtain ⟨d, hd1⟩ := q02 (l := ds) (k := j) (by omega)
    obtain ⟨f, hf, g0, g1, g2⟩ := (q0j.ext hx hd).at' hd1
    have hfl := hf.len
    have h12 := fc_12 ht j
    have h6 := q54 ht hd1
    refine ⟨by omega, by omega, _, g0, _, g1, f, g2, ?_⟩
    intro m3 m4
    have hx4 : Ext m2 m4 := ((Ext.refl m2).pushed _).scells (Nat.le_refl _) _ _
    have hnext : ¬ (0 <= c - (fc ds j : Nat) /\ c - (fc ds j : Nat) < d.cons.length) -> I (w64 (c - (fc ds j : Nat) - (f.len : Int))) (w64 ((j : Int) + 1)) m4 /\ μ (w64 (c - (fc ds j : Nat) - (f.len : Int))) (w64 ((j : Int) + 1)) m4 < μ (c - (fc ds j : Nat)) j m2 := by
      intro hq
      refine next (by omega) _ _ ⟨hx.trans hx4, Nat.le_trans hsz hx4.size, ?_, ?_⟩
      · rw [q08 (by omega) (by omega), q6m hd1]; omega
      · rw [q6m hd1]; omega
    refine ⟨fun h1 => ⟨fun h2 => ?_, fun h2 => hnext ?_⟩, fun h1 => hnext ?_⟩
    · simp only [decide_eq_true_eq] at h1 h2
      obtain ⟨x, hx1⟩ := q02 (l := d.cons) (k := (c - (fc ds j : Nat)).toNat) (by omega)
      obtain ⟨g, hg, gg⟩ := (ConSl.ext hx4 hf).at' hx1
      refine ⟨by omega, by omega, g, gg, ?_⟩
      intro m5
      have hx5 : Ext m m5 := (hx.trans hx4).scells (Nat.le_refl _) _ _
      refine ⟨_, g, rfl, ?_, hx5⟩
      have e : q21 ds c = x := by
        have := qrm hd1 hx1
        rw [← this]; congr 1; omega
      rw [e]
      obtain ⟨f', hf', _, _, g2'⟩ := hd.at' hd1
      have hff : f = f' := by
        have := hx.gcell g2'
        rw [g2] at this
        exact Sl.v_inj.1 (by simpa using this)
      subst hff
      obtain ⟨g', hg', gg'⟩ := hf'.at' hx1
      have hgg : g = g' := by
        have := (hx.trans hx4).gcell gg'
        rw [gg] at this
        exact Sl.v_inj.1 (by simpa using this)
      subst hgg
      exact hg'.ext hx5
    · simp at h1 h2; omega
    · simp at h1; omega
  · simp only [decide_eq_false_iff_not] at h
    intro m5
    have hx5 : Ext m m5 := hx.scells (Nat.le_refl _) _ _
    refine ⟨_, .nil, rfl, ?_, hx5⟩
    have e : q21 ds c = [] := by
      unfold q21
      split
      · rw [List.getElem?_eq_none (by rw [← fc_all ds j (by omega)]; omega)]; rfl
      · rfl
    rw [e]
    exact ⟨rfl, Nat.le_refl _, by simp, by simp⟩
theorem qmv {m : Mem} {decls : Sl} {ds : List Decl} (hd : q0j m decls ds) (ht : TypesOk ds) (c : Int) (hc : -1000000 <= c /\ c <= 1000000) : q00 Tryz.prog q95 [Sl.v decls, vi c] m fun v m' => ∃ s, v = Sl.v s /\ q03 m' s (q21 ds c) /\ Ext m m' := by
  apply qik
  unfold qdh
  simp -zeta only [q0c, q0d]
  refine (qq6 hd ht c hc).mono ?_
  rintro _ m1 ⟨t, s, rfl, hs, hx⟩
  refine ⟨t, s, rfl, ?_⟩
  intro m2 m3
  have hx3 : Ext m1 m3 := ((Ext.refl m1).pushed _).scells (Nat.le_refl _) _ _
  exact ⟨s, rfl, hs.ext hx3, hx.trans hx3⟩
theorem qdx {m : Mem} {s : Sl} {l : List Int} (hl : q03 m s l) (g : Nat) (fs cs : Array Value) (hg : GL.elem g = true) (q : Int -> Prop)
    (hf : ∀ x ∈ l, ∀ m', Ext m m' -> q0q Tryz.prog g (fs.toList ++ [vi x] ++ cs.toList) m' (q x)) :
    q00 Tryz.prog q3d [Sl.v s, .func (.func g) fs cs] m fun v m' => ∃ r : Int, v = vi r /\ Ext m m' /\
      ((r = -1 /\ ∀ x ∈ l, ¬ q x) \/ ∃ (k : Nat) (x : Int), r = k /\ l[k]? = some x /\ q x /\ ∀ y ∈ l.take k, ¬ q y) := by
  apply q8w s (.func g, fs, cs)
  have hll := hl.len
  refine forI (n := l.length) (hll ▸ hl.lim) (fun k m' => Ext m m' /\ ∀ y ∈ l.take k, ¬ q y) ⟨Ext.refl _, by simp⟩ ?_
  rintro k m1 I μ hk ⟨hx, hn⟩ next
  refine ⟨fun h => ?_, fun h => ?_⟩
  · simp only [decide_eq_true_eq] at h
    obtain ⟨x, hx1⟩ := q02 (l := l) (k := k) (by omega)
    refine ⟨by omega, by omega, x, by simpa using hx.gcell (hl.at' hx1), g, rfl, hg, ?_⟩
    refine (hf x (q06 hx1) m1 hx).then fun b m2 hb h2 => ⟨_, rfl, fun h => ?_, fun h => ?_⟩
    · exact ⟨_, rfl, hx.trans h2, Or.inr ⟨k, x, rfl, hx1, hb.1 h, hn⟩⟩
    · exact next (by omega) _ ⟨hx.trans h2, q0l hx1 hn (fb hb h)⟩
  · simp only [decide_eq_false_iff_not] at h
    exact ⟨_, rfl, hx, Or.inl ⟨rfl, q10 (by omega) hn⟩⟩
theorem q3f {m : Mem} {s : Sl} {l : List Int} (hl : q03 m s l) (g : Nat) (fs cs : Array Value) (hg : GL.elem g = true) (q : Int -> Prop)
    (hf : ∀ x ∈ l, ∀ m', Ext m m' -> q0q Tryz.prog g (fs.toList ++ [vi x] ++ cs.toList) m' (q x)) :
    q0q Tryz.prog q18 [Sl.v s, .func (.func g) fs cs] m (∃ x ∈ l, q x) := by
  apply q7c s (.func g, fs, cs)
  refine (qdx hl g fs cs hg q hf).mono ?_
  rintro _ m1 ⟨r, rfl, hx, h⟩
  refine ⟨_, rfl, retB ?_ hx⟩
  simp only [ge_iff_le, decide_eq_true_eq]
  rcases h with ⟨rfl, h⟩ | ⟨k, x, rfl, h1, h2, h3⟩
  · exact ⟨fun h' => by omega, fun ⟨x, h1, h2⟩ => absurd h2 (h x h1)⟩
  · exact ⟨fun _ => ⟨x, q06 h1, h2⟩, fun _ => by omega⟩
end
section
theorem q3q {ds : List Decl} {k : Nat} {d : Decl} : DeclOk ds k d ↔ ((IsTy ds.length d.frm /\ IsTy ds.length d.to /\ d.cons.length <= 3 /\ (0 < d.cons.length -> d.frm = 0 /\ d.to = 0)) /\
    (∀ f ∈ d.cons, f.length <= 3 /\ AllTy ds.length f) /\ ∀ e ∈ ds.take k, ¬ (d.cons.length = 0 /\ e.cons.length = 0 /\ e.frm = d.frm /\ e.to = d.to)) := by
  constructor
  · intro h
    rcases Nat.eq_zero_or_pos d.cons.length with h0 | h0
    · obtain ⟨h1, h2, h3⟩ := h.none' h0
      refine ⟨⟨h2, h3, by omega, fun h => by omega⟩, fun f hf => ?_, fun e he hq => h1 e he hq.2⟩
      rw [List.length_eq_zero_iff.1 h0] at hf; cases hf
    · obtain ⟨h1, h2, h3, h4⟩ := h.some' h0
      exact ⟨⟨by unfold IsTy; omega, by unfold IsTy; omega, h1, fun _ => ⟨h2, h3⟩⟩, h4, fun e he hq => by omega⟩
  · rintro ⟨⟨h1, h2, h3, h4⟩, h5, h6⟩
    exact ⟨fun h0 => ⟨h3, (h4 h0).1, (h4 h0).2, h5⟩, fun h0 => ⟨fun e he hq => h6 e he ⟨h0, hq⟩, h1, h2⟩⟩
set_option maxHeartbeats 1000000 in
theorem qjl {m : Mem} {decls : Sl} {ds : List Decl} (hd : q0j m decls ds) : q0q Tryz.prog q6w [Sl.v decls] m (TypesOk ds) := by
  apply qgd
  unfold qaq
  simp -zeta only [q0c, q0d]
  have hdl := hd.len
  have hdc := hd.cap
  refine ⟨fun h => ?_, fun h => ?_⟩
  · simp only [decide_eq_true_eq] at h
    exact retF (fun hp => by have := hp.len; omega) (Ext.refl _)
  simp only [decide_eq_false_iff_not] at h
  refine forI (n := ds.length) (by omega) (fun k m' => Ext m m' /\ ∀ (j : Nat) (d : Decl), j < k -> ds[j]? = some d -> DeclOk ds j d) ⟨Ext.refl _, by simp⟩ ?_
  rintro j m1 I μ hj ⟨hx, hn⟩ next
  refine ⟨fun h1 => ?_, fun h1 => ?_⟩
  · simp only [decide_eq_true_eq] at h1
    obtain ⟨d, hd1⟩ := q02 (l := ds) (k := j) (by omega)
    obtain ⟨f, hf, g0, g1, g2⟩ := (q0j.ext hx hd).at' hd1
    have hfl := hf.len
    refine ⟨by omega, by omega, _, g0, _, g1, f, g2, ?_⟩
    intro m2 m3
    have hx3 : Ext m1 m3 := ((Ext.refl m1).pushed _).scells (Nat.le_refl _) _ _
    have hl : ∀ b ∈ [m1.size], b < m3.size := by simp [m3, m2, q04]
    clear_value m3
    have hxm := hx.trans hx3
    have bad : ∀ {m' : Mem}, Ext m3 m' -> ¬ DeclOk ds j d -> ∃ b' : Bool, vb false = .bool b' /\ (b' = true ↔ TypesOk ds) /\ Ext m m' := fun hx' hno => retF (fun hp => hno (hp.each j d hd1)) (hxm.trans hx')
    refine ⟨fun m' => Ext m3 m' /\ IsTy ds.length d.frm /\ IsTy ds.length d.to /\ d.cons.length <= 3 /\ (0 < d.cons.length -> d.frm = 0 /\ d.to = 0), ?_, ?_⟩
    · refine (q6d _ _ _).thenS (Ext.refl _) hl fun b m4 hb h2 h3 => ⟨_, rfl, fun h4 => ?_, fun h4 => ?_⟩
      · exact bad h3 fun hp => nb hb h4 (hdl ▸ (q3q.1 hp).1.1)
      have hfrm := yb hb h4
      refine (q6d _ _ _).thenS h3 hl fun b m5 hb h5 h6 => ⟨_, rfl, fun h7 => ?_, fun h7 => ?_⟩
      · exact bad h6 fun hp => nb hb h7 (hdl ▸ (q3q.1 hp).1.2.1)
      have hto := yb hb h7
      rw [hdl] at hfrm hto
      refine ⟨fun h8 => ?_, fun h8 => ?_⟩
      · simp only [decide_eq_true_eq] at h8
        exact bad h6 fun hp => by have := (q3q.1 hp).1.2.2.1; omega
      simp only [decide_eq_false_iff_not] at h8
      refine ⟨fun h9 => ?_, fun h9 => ?_⟩
      · simp only [decide_eq_true_eq] at h9
        refine ⟨fun h10 => ?_, fun h10 => ?_⟩
        · simp only [bne_iff_ne] at h10
          exact bad h6 fun hp => h10 ((q3q.1 hp).1.2.2.2 (by omega)).1
        simp only [bne_eq_false_iff_eq] at h10
        refine ⟨fun h11 => ?_, fun h11 => ?_⟩
        · simp only [bne_iff_ne] at h11
          exact bad h6 fun hp => h11 ((q3q.1 hp).1.2.2.2 (by omega)).2
        simp only [bne_eq_false_iff_eq] at h11
        exact ⟨h6, hfrm, hto, by omega, fun _ => ⟨h10, h11⟩⟩
      · simp only [decide_eq_false_iff_not] at h9
        exact ⟨h6, hfrm, hto, by omega, fun h0 => by omega⟩
    · rintro m4 ⟨hx4, hfirst⟩
      have hf4 := ConSl.ext (hx3.trans hx4) hf
      refine forI (n := d.cons.length) (by omega) (fun k m' => Ext m3 m' /\ ∀ f ∈ d.cons.take k, f.length <= 3 /\ AllTy ds.length f) ⟨hx4, by simp⟩ ?_
      rintro i m5 I2 μ2 hi ⟨hx5, hn5⟩ next5
      refine ⟨fun h2 => ?_, fun h2 => ?_⟩
      · simp only [decide_eq_true_eq] at h2
        obtain ⟨c, hc⟩ := q02 (l := d.cons) (k := i) (by omega)
        obtain ⟨g, hg, gg⟩ := (ConSl.ext (hx3.trans hx5) hf).at' hc
        have hgl := hg.len
        refine ⟨by omega, by omega, g, gg, ?_⟩
        intro m6 m7
        have hx7 : Ext m5 m7 := ((Ext.refl m5).pushed _).scells (Nat.le_refl _) _ _
        have hl7 : ∀ b ∈ [m5.size, m1.size], b < m7.size := by
          have := hx5.lt (hl m1.size (by simp))
          simp [m7, m6, q04]; omega
        clear_value m7
        refine ⟨fun h3 => ?_, fun h3 => ?_⟩
        · simp only [decide_eq_true_eq] at h3
          exact bad (hx5.trans hx7) fun hp => by have := ((q3q.1 hp).2.1 c (q06 hc)).1; omega
        simp only [decide_eq_false_iff_not] at h3
        refine (qdj (hg.ext hx7) _).thenS (Ext.refl _) hl7 fun b m8 hb h4 h5 => ⟨_, rfl, fun h6 => ?_, fun h6 => ?_⟩
        · exact bad ((hx5.trans hx7).trans h4) fun hp => nb hb h6 (hdl ▸ ((q3q.1 hp).2.1 c (q06 hc)).2)
        · exact next5 (by omega) _ ⟨(hx5.trans hx7).trans h4, q0l hc hn5 ⟨by omega, hdl ▸ yb hb h6⟩⟩
      · simp only [decide_eq_false_iff_not] at h2
        have hall := q10 (by omega) hn5
        refine ⟨by omega, by omega, by omega, ?_⟩
        have hcut : q0j m5 (decls.cut 0 j 3) (ds.take j) := SlOf.cut0 (q0j.ext (hxm.trans hx5) hd) (by omega)
        have hcl : (decls.cut 0 j 3).len = j := by rw [hcut.len]; simp; omega
        simp -zeta only [Int.toNat_natCast, Int.toNat_zero]
        refine forI (n := j) (by omega) (fun k m' => Ext m5 m' /\ ∀ e ∈ ds.take k, ¬ (d.cons.length = 0 /\ e.cons.length = 0 /\ e.frm = d.frm /\ e.to = d.to)) ⟨Ext.refl _, by simp⟩ ?_
        rintro i2 m6 I3 μ3 hi2 ⟨hx6, hn6⟩ next6
        refine ⟨fun h3 => ?_, fun h3 => ?_⟩
        · simp only [decide_eq_true_eq] at h3
          obtain ⟨e, he⟩ := q02 (l := ds) (k := i2) (by omega)
          have he' : (ds.take j)[i2]? = some e := by rw [List.getElem?_take, if_pos (by omega)]; exact he
          obtain ⟨f', hf', q0, q1, q2⟩ := (q0j.ext hx6 hcut).at' he'
          have hfl' := hf'.len
          refine ⟨by omega, by omega, _, q0, _, q1, f', q2, ?_⟩
          intro m7 m8
          have hx8 : Ext m6 m8 := ((Ext.refl m6).pushed _).scells (Nat.le_refl _) _ _
          clear_value m8
          have hnext : ¬ (d.cons.length = 0 /\ e.cons.length = 0 /\ e.frm = d.frm /\ e.to = d.to) -> I3 (w64 ((i2 : Int) + 1)) m8 /\ μ3 (w64 ((i2 : Int) + 1)) m8 < μ3 i2 m6 := fun hq => next6 (by omega) _ ⟨hx6.trans hx8, q0l he hn6 hq⟩
          refine ⟨fun h4 => ?_, fun h4 => ?_⟩
          · simp only [beq_iff_eq] at h4
            refine ⟨fun h5 => ?_, fun h5 => ?_⟩
            · simp only [beq_iff_eq] at h5
              refine ⟨fun h6 => ?_, fun h6 => ?_⟩
              · simp only [beq_iff_eq] at h6
                refine ⟨fun h7 => ?_, fun h7 => ?_⟩
                · simp only [beq_iff_eq] at h7
                  exact bad ((hx5.trans hx6).trans hx8) fun hp => (q3q.1 hp).2.2 e (q06 he') ⟨by omega, by omega, h6, h7⟩
                · simp only [beq_eq_false_iff_ne] at h7
                  exact hnext fun hq => h7 hq.2.2.2
              · simp only [beq_eq_false_iff_ne] at h6
                exact hnext fun hq => h6 hq.2.2.1
            · simp only [beq_eq_false_iff_ne] at h5
              exact hnext fun hq => h5 (by omega)
          · simp only [beq_eq_false_iff_ne] at h4
            exact hnext fun hq => h4 (by omega)
        · simp only [decide_eq_false_iff_not] at h3
          have : i2 = j := by omega
          subst this
          refine next (by omega) _ ⟨(hxm.trans hx5).trans hx6, fun i' d' hi' hd' => ?_⟩
          by_cases ei : i' = i2
          · subst ei
            rw [hd1] at hd'; simp at hd'; subst hd'
            exact q3q.2 ⟨hfirst, hall, hn6⟩
          · exact hn i' d' (by omega) hd'
  · simp only [decide_eq_false_iff_not] at h1
    exact retT ⟨by omega, fun i d hid => hn i d (by have := q07 hid; omega) hid⟩ hx
def SigR (m : Mem) (cs : List Ce) (p : Proc) : Prop := ∃ a l, cs = [.s a, .s l, .i p.result] /\ q03 m a p.params /\ q03 m l p.lent
theorem SigR.ext {m m' : Mem} (hm : Ext m m') (cs : List Ce) (c : Proc) : SigR m cs c -> SigR m' cs c := fun ⟨f, g, h1, h2, h3⟩ => ⟨f, g, h1, h2.ext hm, h3.ext hm⟩
abbrev SigSl (m : Mem) (s : Sl) (l : List Proc) : Prop := SlOf m 3 (SigR m) s l
theorem SigSl.ext {m m' : Mem} (hm : Ext m m') {s : Sl} {l : List Proc} (h : SigSl m s l) : SigSl m' s l := h.mono hm (SigR.ext hm)
theorem SigSl.at' {m : Mem} {s : Sl} {l : List Proc} (h : SigSl m s l) {k : Nat} {x : Proc} (hk : l[k]? = some x) :
    ∃ a b, q03 m a x.params /\ q03 m b x.lent /\ gcell m s.blk (s.off + k * 3) = some (Sl.v a) /\ gcell m s.blk (s.off + k * 3 + 1) = some (Sl.v b) /\ gcell m s.blk (s.off + k * 3 + 2) = some (vi x.result) := by
  obtain ⟨cs, ⟨a, b, rfl, ha, hb⟩, hr⟩ := h.row k x hk
  exact ⟨a, b, ha, hb, hr 0 (.s a) rfl, hr 1 (.s b) rfl, hr 2 (.i x.result) rfl⟩
set_option maxHeartbeats 1000000 in
theorem qkx {m : Mem} {d f : Sl} {ds : List Decl} {ps : List Proc} (hd : q0j m d ds) (hf : SigSl m f ps) :
    q0q Tryz.prog q7z [Sl.v d, Sl.v f] m (SigsOk ds ps /\ ∀ p ∈ ps, LentOk p.params p.lent) := by
  apply qh0
  unfold qbr
  simp -zeta only [q0c, q0d]
  have hdl := hd.len
  have hfl := hf.len
  refine (qjl hd).then fun b m1 hb hx1 => ⟨_, rfl, fun h1 => ?_, fun h1 => ?_⟩
  · exact retF (fun hp => nb hb h1 hp.1.types) hx1
  have ht := yb hb h1
  refine ⟨fun h2 => ?_, fun h2 => ?_⟩
  · simp only [decide_eq_true_eq] at h2
    exact retF (fun hp => by have := hp.1.len; omega) hx1
  simp only [decide_eq_false_iff_not] at h2
  refine ⟨fun h3 => ?_, fun h3 => ?_⟩
  · simp only [decide_eq_true_eq] at h3
    exact retF (fun hp => by have := hp.1.len; omega) hx1
  simp only [decide_eq_false_iff_not] at h3
  obtain ⟨p0, hp0⟩ := q02 (l := ps) (k := 0) (by omega)
  obtain ⟨a0, l0, ha0, hl0, g0, g1, g2⟩ := (SigSl.ext hx1 hf).at' hp0
  have ha0l := ha0.len
  refine ⟨by omega, by omega, a0, g0, fun h4 => ?_, fun h4 => ?_⟩
  · simp only [decide_eq_true_eq] at h4
    exact retF (fun hp => by have := (hp.1.first p0 hp0).1; omega) hx1
  simp only [decide_eq_false_iff_not] at h4
  refine ⟨by omega, by omega, _, g2, fun h5 => ?_, fun h5 => ?_⟩
  · simp only [bne_iff_ne] at h5
    exact retF (fun hp => h5 (hp.1.first p0 hp0).2) hx1
  simp only [bne_eq_false_iff_eq] at h5
  refine forI (n := ps.length) (by omega) (fun j m' => Ext m m' /\ ∀ p ∈ ps.take j, (p.params.length <= 3 /\ AllTy ds.length p.params /\ IsTy ds.length p.result) /\ LentOk p.params p.lent) ⟨hx1, by simp⟩ ?_
  rintro j m2 I μ hj ⟨hx, hn⟩ next
  refine ⟨fun h6 => ?_, fun h6 => ?_⟩
  · simp only [decide_eq_true_eq] at h6
    obtain ⟨p, hp1⟩ := q02 (l := ps) (k := j) (by omega)
    obtain ⟨a, l, ha, hl, q0, q1, q2⟩ := (SigSl.ext hx hf).at' hp1
    have hal := ha.len
    have hll := hl.len
    have hlim := hl.lim
    refine ⟨by omega, by omega, a, q0, l, q1, _, q2, ?_⟩
    intro m3 m4
    have hx4 : Ext m2 m4 := ((Ext.refl m2).pushed _).scells (Nat.le_refl _) _ _
    have hl4 : ∀ b ∈ [m2.size], b < m4.size := by simp [m4, m3, q04]
    clear_value m4
    refine ⟨fun h7 => ?_, fun h7 => ?_⟩
    · simp only [decide_eq_true_eq] at h7
      exact retF (fun hp => by have := (hp.1.each p (q06 hp1)).1; omega) (hx.trans hx4)
    simp only [decide_eq_false_iff_not] at h7
    refine (qdj (ha.ext hx4) _).thenS (Ext.refl _) hl4 fun b m5 hb h8 h9 => ⟨_, rfl, fun h10 => ?_, fun h10 => ?_⟩
    · exact retF (fun hp => nb hb h10 (hdl ▸ (hp.1.each p (q06 hp1)).2.1)) ((hx.trans hx4).trans h8)
    have hty := yb hb h10
    refine (q6d _ _ _).thenS h9 hl4 fun b m6 hb h11 h12 => ⟨_, rfl, fun h13 => ?_, fun h13 => ?_⟩
    · exact retF (fun hp => nb hb h13 (hdl ▸ (hp.1.each p (q06 hp1)).2.2)) ((hx.trans hx4).trans h12)
    have hres := yb hb h13
    rw [hdl] at hty hres
    have hx6 : Ext m m6 := (hx.trans hx4).trans h12
    have hx26 : Ext m2 m6 := hx4.trans h12
    refine forI (n := p.lent.length) (by omega) (fun k m' => m' = m6 /\ ∀ (j : Nat) (v : Int), j < k -> p.lent[j]? = some v -> (∃ t, 0 <= v /\ p.params[v.toNat]? = some t /\ t ≠ 0) /\ (∀ u : Int, 0 < j -> p.lent[j - 1]? = some u -> u < v)) ⟨rfl, by simp⟩ ?_
    rintro k m7 I2 μ2 hk ⟨rfl, hn7⟩ next7
    have bad : ¬ LentOk p.params p.lent -> ∃ b' : Bool, vb false = .bool b' /\ (b' = true ↔ SigsOk ds ps /\ ∀ p ∈ ps, LentOk p.params p.lent) /\ Ext m m7 := fun hno => retF (fun hp => hno (hp.2 p (q06 hp1))) hx6
    refine ⟨fun h14 => ?_, fun h14 => ?_⟩
    · simp only [decide_eq_true_eq] at h14
      obtain ⟨x, hx1'⟩ := q02 (l := p.lent) (k := k) (by omega)
      refine ⟨by omega, by omega, x, by simpa using hx26.gcell (hl.at' hx1'), fun h15 => ?_, fun h15 => ?_⟩
      · simp only [decide_eq_true_eq] at h15
        exact bad fun hp => by obtain ⟨⟨t, h16, _⟩, _⟩ := hp k x hx1'; omega
      simp only [decide_eq_false_iff_not] at h15
      refine ⟨fun h16 => ?_, fun h16 => ?_⟩
      · simp only [ge_iff_le, decide_eq_true_eq] at h16
        refine bad fun hp => ?_
        obtain ⟨⟨t, _, h17, _⟩, _⟩ := hp k x hx1'
        have := q07 h17; omega
      simp only [ge_iff_le, decide_eq_false_iff_not] at h16
      obtain ⟨t, ht1⟩ := q02 (l := p.params) (k := x.toNat) (by omega)
      refine ⟨by omega, by omega, t, by simpa using hx26.gcell (ha.at' ht1), fun h17 => ?_, fun h17 => ?_⟩
      · simp only [beq_iff_eq] at h17
        refine bad fun hp => ?_
        obtain ⟨⟨t', _, h18, h19⟩, _⟩ := hp k x hx1'
        rw [ht1] at h18; simp at h18; exact h19 (h18 ▸ h17)
      simp only [beq_eq_false_iff_ne] at h17
      refine ⟨fun h18 => ?_, fun h18 => ?_⟩
      · simp only [decide_eq_true_eq] at h18
        have e2 : w64 ((k : Int) - 1) = ((k - 1 : Nat) : Int) := by rw [q08 (by omega) (by omega)]; omega
        obtain ⟨y, hy⟩ := q02 (l := p.lent) (k := k - 1) (by omega)
        rw [e2]
        refine ⟨by omega, by omega, y, by simpa using hx26.gcell (hl.at' hy), fun h19 => ?_, fun h19 => ?_⟩
        · simp only [decide_eq_true_eq] at h19
          exact bad fun hp => by have := (hp k x hx1').2 y (by omega) hy; omega
        · simp only [decide_eq_false_iff_not] at h19
          refine next7 (by omega) _ ⟨rfl, fun j' v hj' hv => ?_⟩
          by_cases e : j' = k
          · subst e
            rw [hx1'] at hv; simp at hv; subst hv
            refine ⟨⟨t, by omega, ht1, h17⟩, fun u _ hu => ?_⟩
            rw [hy] at hu; simp at hu; subst hu; omega
          · exact hn7 j' v (by omega) hv
      · simp only [decide_eq_false_iff_not] at h18
        refine next7 (by omega) _ ⟨rfl, fun j' v hj' hv => ?_⟩
        by_cases e : j' = k
        · subst e
          rw [hx1'] at hv; simp at hv; subst hv
          exact ⟨⟨t, by omega, ht1, h17⟩, fun u h0 _ => by omega⟩
        · exact hn7 j' v (by omega) hv
    · simp only [decide_eq_false_iff_not] at h14
      exact next (by omega) _ ⟨hx6, q0l hp1 hn ⟨⟨by omega, hty, hres⟩, fun j' v hv => hn7 j' v (by have := q07 hv; omega) hv⟩⟩
  · simp only [decide_eq_false_iff_not] at h6
    have hall := q10 (by omega) hn
    refine retT ⟨⟨ht, by omega, fun p hp => (hall p hp).1, fun p hp => ?_⟩, fun p hp => (hall p hp).2⟩ hx
    rw [hp0] at hp; simp at hp; subst hp
    exact ⟨by omega, h5⟩
end
section
theorem ql8 {m : Mem} {d p : Sl} {im : Image} (h : ImageR m d p im) :
    q00 Tryz.prog q7n [.agg #[Sl.v d, Sl.v p]] m fun v m' => ∃ d' f b, v = .tuple #[.agg #[Sl.v d', Sl.v f], vb b] /\ (b = true ↔ SigsOk im.decls im.procs /\ ∀ p ∈ im.procs, LentOk p.params p.lent) /\
      (b = true -> d' = d /\ SigSl m' f im.procs) /\ Ext m m' := by
  apply qgx
  unfold qbo
  simp -zeta only [q0c, q0d]
  intro m1 m2
  have hpl := h.procs.len
  have s1 : m1.size = m.size + 1 := by simp [m1]
  have s2 : m2.size = m.size + 2 := by simp [m2, m1]
  have hx2 : Ext m m2 := ((Ext.refl m).pushed _).pushed _
  refine ⟨fun h1 => ?_, fun h1 => ?_⟩
  · simp only [decide_eq_true_eq] at h1
    intro m3
    exact ⟨_, _, _, rfl, ⟨fun h => by simp at h, fun h => by have := h.1.len; omega⟩, fun h => by simp at h, hx2.scells (by omega) _ _⟩
  simp only [decide_eq_false_iff_not] at h1
  intro m4 m5
  have s5 : m5.size = m.size + 3 := by simp [m5, m4, q04, s2]
  have hx5 : Ext m m5 := (hx2.pushed _).scells (by omega) _ _
  have hb5 : Blk m5 m2.size q47 [.s d, .s .nil] := Blk.scells (m := m4) (o := 0) (r := [.s d, .s .nil]) (Blk.push m2 _ _)
  clear_value m5
  refine forI (n := im.procs.length) (by omega) (fun k m' => Ext m m' /\ m5.size <= m'.size /\ ∃ r css, Blk m' m2.size q47 [.s d, .s r] /\ Own m m' q73 3 r css.flatten /\ RowsOf 3 (SigR m) css (im.procs.take k) /\ (r ≠ .nil -> m2.size < r.blk) /\ r.len = k)
    ⟨hx5, Nat.le_refl _, .nil, [], hb5, Own.nil _ _ _ _, by simpa using RowsOf.nil 3 (SigR m), by simp, rfl⟩ ?_
  rintro k m6 I μ hk ⟨hx, hsz, r, css, hbx, hown, hrows, hr2, hrl⟩ next
  refine ⟨fun h2 => ?_, fun h2 => ?_⟩
  · simp only [decide_eq_true_eq] at h2
    obtain ⟨q, hq⟩ := q02 (l := im.procs) (k := k) (by omega)
    obtain ⟨a, b, c, ha, hb, hc, g0, g1, g2, g3, g4⟩ := h.procs.at' hq
    refine ⟨by omega, by omega, a, by simpa using hx.gcell g0, b, by simpa using hx.gcell g1, _, by simpa using hx.gcell g2, _, by simpa using hx.gcell g3, c, by simpa using hx.gcell g4, ?_⟩
    intro m7 m8
    have hx8 : Ext m6 m8 := ((Ext.refl m6).pushed _).scells (Nat.le_refl _) _ _
    have s8 : m8.size = m6.size + 1 := by simp [m8, m7, q04]
    clear_value m8
    refine ⟨r, (hbx.ext hx8).get 1, ?_⟩
    intro m9
    have hx9 : Ext m6 m9 := hx8.pushed _
    have s9 : m9.size = m6.size + 2 := by simp [m9, s8]
    have hrow : rowIs m9 m8.size 0 [.s a, .s b, .i q.result] := (Blk.push m8 _ _).row
    clear_value m9
    refine Own.append (zs := [.s .nil, .s .nil, .i 0]) (new := [.s a, .s b, .i q.result]) (hown.ext hx9) (hx.trans hx9) rfl hrow (by simp [hrl]; omega) ?_
    intro r' m10 h7 h8 h9 h10 h11 h12
    have hr' : r' ≠ .nil -> m2.size < r'.blk := by
      intro hne
      rcases h12 with e | ⟨hrn, e⟩ | e
      · exact absurd e hne
      · have := hr2 hrn; omega
      · omega
    have hfr : ∀ b', b' < m9.size -> b' <= m2.size \/ b' = m6.size /\ (r = .nil \/ r.blk < m6.size) -> m10[b']? = m9[b']? := by
      intro b' hb' hc
      refine h11 b' hb' fun hne => ?_
      have := hr2 hne
      rcases hc with hc | ⟨rfl, hc | hc⟩
      · omega
      · exact absurd hc hne
      · omega
    have hrlt : r = .nil \/ r.blk < m6.size := hown.lt
    have hbx10 : Blk m10 m2.size q47 [.s d, .s r] := (hbx.ext hx9).congr (hfr _ (by omega) (Or.inl (Nat.le_refl _)))
    refine ⟨fun b' hb' => ?_, hbx10.wrOk (by simp), ?_⟩
    · simp at hb'
      rcases hb' with rfl | rfl | rfl
      · exact hfr _ (by omega) (Or.inr ⟨rfl, hrlt⟩)
      · exact hfr _ (by omega) (Or.inl (by omega))
      · exact hfr _ (by omega) (Or.inl (by omega))
    intro m11
    have s11 : m11.size = m10.size := by simp [m11, q04]
    have hb11 : Blk m11 m2.size q47 [.s d, .s r'] := Blk.scells (m := m10) (o := 1) (r := [.s r']) hbx10
    have hne11 : ∀ b, b ≠ m2.size -> m11[b]? = m10[b]? := fun b hb => q0s _ _ _ _ hb
    have hx11 : Ext m m11 := h8.scells (by omega) _ _
    clear_value m11
    refine ⟨fun b' hb' => ?_, ?_⟩
    · simp at hb'
      rcases hb' with rfl | rfl | rfl <;> exact hne11 _ (by omega)
    refine next (by omega) _ ⟨hx11, by omega, r', css ++ [[.s a, .s b, .i q.result]], hb11, ?_, ?_, hr', by simp [h9, hrl]⟩
    · rw [List.flatten_append]
      have h7' : Own m m10 q73 3 r' (css.flatten ++ [[.s a, .s b, .i q.result]].flatten) := by simpa using h7
      rcases h7'.lt with e | e
      · subst e; exact ⟨h7'.len, Or.inl rfl⟩
      · refine h7'.congr (hne11 _ fun e2 => ?_)
        by_cases hn : r' = .nil
        · subst hn
          have := h9
          simp at this
        · have := hr' hn; omega
    · rw [q0a hq]
      exact hrows.snoc rfl ⟨a, b, rfl, ha, hb⟩
  · simp only [decide_eq_false_iff_not] at h2
    rw [q0k (by omega)] at hrows
    have hsig : SigSl m6 r im.procs := (SlOf.ofOwn hown hrows (by omega) (by omega)).mono (Ext.refl _) (SigR.ext hx)
    refine ⟨d, hbx.get 0, r, hbx.get 1, r, hbx.get 1, ?_⟩
    have hl : ∀ b ∈ [m1.size, m.size], b < m6.size := by simp; omega
    refine (qkx (q0j.ext hx h.decls) hsig).thenS (Ext.refl _) hl fun b m7 hb h3 _ => ⟨_, rfl, h3.keepG (hbx.get 0), h3.keepG (hbx.get 1), ?_⟩
    intro m8
    have hne : ∀ b, b ≠ m1.size -> m8[b]? = m7[b]? := fun b hb => q0s _ _ _ _ hb
    have hx8 : Ext m m8 := (hx.trans h3).scells (by omega) _ _
    refine ⟨d, r, b, rfl, hb, fun _ => ⟨rfl, ?_⟩, hx8⟩
    have hown7 := hown.ext h3
    have hown8 : Own m m8 q73 3 r css.flatten := by
      by_cases hn : r = .nil
      · subst hn; exact ⟨hown7.len, Or.inl rfl⟩
      · exact hown7.congr (hne _ (by have := hr2 hn; omega))
    exact (SlOf.ofOwn hown8 hrows (by omega) (by omega)).mono (Ext.refl _) (SigR.ext hx8)
def NumOk (im : Image) (i : Instr) (later : Int -> Prop) : Prop :=
  if i.op = 0 then -999 <= i.num /\ i.num <= 999
  else if i.op = 6 then 0 <= i.num /\ i.num < (q14 im.decls).length
  else if i.op = 9 \/ i.op = 24 then 0 <= i.num /\ i.num < im.procs.length
  else if i.op = 10 then 0 <= i.num /\ ∃ q, im.procs[i.num.toNat]? = some q /\ q.lent.length = 0
  else if i.op = 19 then 0 <= i.num /\ i.num < 3
  else if i.op = 20 \/ i.op = 22 then later i.num
  else if i.op = 21 then 0 < (q17 im.decls i.num).length /\ i.jumps.length = (q17 im.decls i.num).length
  else i.num = 0
theorem qml {m : Mem} {d f : Sl} {im : Image} (hd : q0j m d im.decls) (ht : TypesOk im.decls) (hf : SigSl m f im.procs) {i : Instr} {a j : Sl} (ha : q03 m a i.args) (hj : q03 m j i.jumps) (g : Nat) (fs cs : Array Value) (hg : GL.elem g = true) (later : Int -> Prop)
    (hlater : ∀ m', Ext m m' -> q0q Tryz.prog g (fs.toList ++ [vi i.num] ++ cs.toList) m' (later i.num)) :
    q0q Tryz.prog q1v [.agg #[Sl.v d, Sl.v f], .agg #[vi i.op, vi i.dst, vi i.num, vi i.into, Sl.v a, Sl.v j], .func (.func g) fs cs] m (NumOk im i later) := by
  apply q8y d f i.op i.dst i.num i.into a j (.func g, fs, cs)
  unfold q4s
  simp -zeta only [q0c, q0d]
  intro m1 m2
  have hx2 : Ext m m2 := ((Ext.refl m).pushed _).pushed _
  have hl : ∀ b ∈ [m1.size, m.size], b < m2.size := by simp [m2, m1]; omega
  have hfl := hf.len
  have hjl := hj.len
  have hB : Blk m2 m1.size q1w [.i i.op, .i i.dst, .i i.num, .i i.into, .s a, .s j] := Blk.push _ _ _
  clear_value m2
  refine ⟨fun e0 => ?_, fun e0 => ?_⟩
  · simp only [beq_iff_eq] at e0
    rw [show NumOk im i later ↔ -999 <= i.num /\ i.num <= 999 by rw [NumOk, if_pos e0]]
    refine ⟨fun h => retB ?_ hx2, fun h => retF ?_ hx2⟩ <;> simp at h
    · simp; omega
    · omega
  simp only [beq_eq_false_iff_ne] at e0
  refine ⟨fun e1 => ?_, fun e1 => ?_⟩
  · simp only [beq_iff_eq] at e1
    rw [show NumOk im i later ↔ 0 <= i.num /\ i.num < (q14 im.decls).length by rw [NumOk, if_neg e0, if_pos e1]]
    refine ⟨fun h => ?_, fun h => retF ?_ hx2⟩ <;> simp at h
    · refine (q82 (q0j.ext hx2 hd) ht.len (qp2 ht)).thenS (Ext.refl _) hl fun m3 h3 _ => ⟨_, rfl, h3.keepG (hB.get 2), retB ?_ (hx2.trans h3)⟩
      simp; omega
    · omega
  simp only [beq_eq_false_iff_ne] at e1
  refine ⟨fun e2 => ?_, fun e2 => ?_⟩
  · simp only [Bool.or_eq_true, beq_iff_eq] at e2
    rw [show NumOk im i later ↔ 0 <= i.num /\ i.num < im.procs.length by rw [NumOk, if_neg e0, if_neg e1, if_pos e2]]
    refine ⟨fun h => retB ?_ hx2, fun h => retF ?_ hx2⟩ <;> simp at h
    · simp; omega
    · omega
  simp only [Bool.or_eq_false_iff, beq_eq_false_iff_ne] at e2
  replace e2 : ¬ (i.op = 9 \/ i.op = 24) := by omega
  refine ⟨fun e3 => ?_, fun e3 => ?_⟩
  · simp only [beq_iff_eq] at e3
    rw [show NumOk im i later ↔ 0 <= i.num /\ ∃ q, im.procs[i.num.toNat]? = some q /\ q.lent.length = 0 by rw [NumOk, if_neg e0, if_neg e1, if_neg e2, if_pos e3]]
    refine ⟨fun h => ⟨fun h1 => ?_, fun h1 => ?_⟩, fun h => retF ?_ hx2⟩ <;> simp at h
    · simp at h1
      obtain ⟨q, hq⟩ := q02 (l := im.procs) (k := i.num.toNat) (by omega)
      obtain ⟨a', l', ha', hl', g0, g1, g2⟩ := (SigSl.ext hx2 hf).at' hq
      have := hl'.len
      refine ⟨by omega, by omega, l', g1, retB ?_ hx2⟩
      simp only [beq_iff_eq]
      refine ⟨fun h2 => ⟨h, q, hq, by omega⟩, fun ⟨_, q', h3, h4⟩ => ?_⟩
      rw [hq] at h3; simp at h3; subst h3; omega
    · simp at h1
      exact retF (fun ⟨_, q, h3, _⟩ => by have := q07 h3; omega) hx2
    · omega
  simp only [beq_eq_false_iff_ne] at e3
  refine ⟨fun e4 => ?_, fun e4 => ?_⟩
  · simp only [beq_iff_eq] at e4
    rw [show NumOk im i later ↔ 0 <= i.num /\ i.num < 3 by rw [NumOk, if_neg e0, if_neg e1, if_neg e2, if_neg e3, if_pos e4]]
    refine ⟨fun h => retB ?_ hx2, fun h => retF ?_ hx2⟩ <;> simp at h
    · simp; omega
    · omega
  simp only [beq_eq_false_iff_ne] at e4
  refine ⟨fun e5 => ?_, fun e5 => ?_⟩
  · simp only [Bool.or_eq_true, beq_iff_eq] at e5
    rw [show NumOk im i later ↔ later i.num by rw [NumOk, if_neg e0, if_neg e1, if_neg e2, if_neg e3, if_neg e4, if_pos e5]]
    exact ⟨g, rfl, hg, (hlater m2 hx2).thenS (Ext.refl _) hl fun b m3 hb h3 _ => ⟨_, rfl, retB hb (hx2.trans h3)⟩⟩
  simp only [Bool.or_eq_false_iff, beq_eq_false_iff_ne] at e5
  replace e5 : ¬ (i.op = 20 \/ i.op = 22) := by omega
  refine ⟨fun e6 => ?_, fun e6 => ?_⟩
  · simp only [beq_iff_eq] at e6
    rw [show NumOk im i later ↔ 0 < (q17 im.decls i.num).length /\ i.jumps.length = (q17 im.decls i.num).length by rw [NumOk, if_neg e0, if_neg e1, if_neg e2, if_neg e3, if_neg e4, if_neg e5, if_pos e6]]
    refine (q9y (q0j.ext hx2 hd) ht _).thenS (Ext.refl _) hl ?_
    rintro _ m3 ⟨s, rfl, hs, h3⟩
    have := hs.len
    refine ⟨h3, _, rfl, fun h => retB ?_ (hx2.trans h3), fun h => retF ?_ (hx2.trans h3)⟩ <;> simp at h
    · simp only [beq_iff_eq]; omega
    · omega
  · simp only [beq_eq_false_iff_ne] at e6
    rw [show NumOk im i later ↔ i.num = 0 by rw [NumOk, if_neg e0, if_neg e1, if_neg e2, if_neg e3, if_neg e4, if_neg e5, if_neg e6]]
    exact retB (by simp) hx2
def q1i (im : Image) (i : Instr) (lo hi : Int) : Prop :=
  if i.op = 0 \/ i.op = 22 then lo = 0 /\ hi = 0
  else if i.op = 1 \/ i.op = 2 \/ i.op = 3 \/ i.op = 4 \/ i.op = 11 then lo = 2 /\ hi = 2
  else if i.op = 6 then lo = (q21 im.decls i.num).length /\ hi = (q21 im.decls i.num).length
  else if i.op = 9 \/ i.op = 24 then ∃ q, im.procs[i.num.toNat]? = some q /\ lo = q.params.length /\ hi = q.params.length
  else if i.op = 10 then ∃ q, im.procs[i.num.toNat]? = some q /\ lo = (q.params.length : Int) - 1 /\ hi = (q.params.length : Int) - 1
  else if i.op = 16 \/ i.op = 17 then lo = 1 /\ hi = 4
  else lo = 1 /\ hi = 1
theorem qox {m : Mem} {d f : Sl} {im : Image} (hd : q0j m d im.decls) (ht : TypesOk im.decls) (hf : SigSl m f im.procs) {i : Instr} {a j : Sl} {later : Int -> Prop} (hn : NumOk im i later) :
    q00 Tryz.prog q25 [.agg #[Sl.v d, Sl.v f], .agg #[vi i.op, vi i.dst, vi i.num, vi i.into, Sl.v a, Sl.v j]] m fun v m' => ∃ lo hi : Int, v = .tuple #[vi lo, vi hi] /\ q1i im i lo hi /\ Ext m m' := by
  apply q9n
  unfold q5t
  simp -zeta only [q0c, q0d]
  intro m1 m2
  have hx2 : Ext m m2 := ((Ext.refl m).pushed _).pushed _
  have hl : ∀ b ∈ [m1.size, m.size], b < m2.size := by simp [m2, m1]; omega
  have hfl := hf.len
  clear_value m2
  refine ⟨fun e0 => ?_, fun e0 => ?_⟩
  · simp only [Bool.or_eq_true, beq_iff_eq] at e0
    exact ⟨_, _, rfl, by rw [q1i, if_pos e0]; exact ⟨rfl, rfl⟩, hx2⟩
  simp only [Bool.or_eq_false_iff, beq_eq_false_iff_ne] at e0
  have e0' : ¬ (i.op = 0 \/ i.op = 22) := by omega
  refine ⟨fun e1 => ?_, fun e1 => ?_⟩
  · simp only [Bool.or_eq_true, beq_iff_eq] at e1
    exact ⟨_, _, rfl, by rw [q1i, if_neg e0', if_pos e1]; exact ⟨rfl, rfl⟩, hx2⟩
  simp only [Bool.or_eq_false_iff, beq_eq_false_iff_ne] at e1
  have e1' : ¬ (i.op = 1 \/ i.op = 2 \/ i.op = 3 \/ i.op = 4 \/ i.op = 11) := by omega
  refine ⟨fun e2 => ?_, fun e2 => ?_⟩
  · simp only [beq_iff_eq] at e2
    rw [NumOk, if_neg e0.1, if_pos e2] at hn
    have h12 := fc_12 ht im.decls.length
    rw [fc_all _ _ (Nat.le_refl _)] at h12
    refine (qmv (q0j.ext hx2 hd) ht _ (by omega)).thenS (Ext.refl _) hl ?_
    rintro _ m3 ⟨s, rfl, hs, h3⟩
    have := hs.len
    exact ⟨h3, _, rfl, _, _, rfl, by rw [q1i, if_neg e0', if_neg e1', if_pos e2]; omega, hx2.trans h3⟩
  simp only [beq_eq_false_iff_ne] at e2
  refine ⟨fun e3 => ?_, fun e3 => ?_⟩
  · simp only [Bool.or_eq_true, beq_iff_eq] at e3
    rw [NumOk, if_neg e0.1, if_neg e2, if_pos e3] at hn
    obtain ⟨q, hq⟩ := q02 (l := im.procs) (k := i.num.toNat) (by omega)
    obtain ⟨a', l', ha', hl', g0, g1, g2⟩ := (SigSl.ext hx2 hf).at' hq
    have := ha'.len
    exact ⟨by omega, by omega, a', g0, _, _, rfl, by rw [q1i, if_neg e0', if_neg e1', if_neg e2, if_pos e3]; exact ⟨q, hq, by omega, by omega⟩, hx2⟩
  simp only [Bool.or_eq_false_iff, beq_eq_false_iff_ne] at e3
  have e3' : ¬ (i.op = 9 \/ i.op = 24) := by omega
  refine ⟨fun e4 => ?_, fun e4 => ?_⟩
  · simp only [beq_iff_eq] at e4
    rw [NumOk, if_neg e0.1, if_neg e2, if_neg e3', if_pos e4] at hn
    obtain ⟨h0, q, hq, _⟩ := hn
    obtain ⟨a', l', ha', hl', g0, g1, g2⟩ := (SigSl.ext hx2 hf).at' hq
    have := ha'.len
    have := ha'.lim
    have := q07 hq
    have e : w64 ((a'.len : Int) - 1) = (q.params.length : Int) - 1 := by rw [q08 (by omega) (by omega)]; omega
    exact ⟨by omega, by omega, a', g0, _, _, rfl, by rw [q1i, if_neg e0', if_neg e1', if_neg e2, if_neg e3', if_pos e4]; exact ⟨q, hq, e, e⟩, hx2⟩
  simp only [beq_eq_false_iff_ne] at e4
  refine ⟨fun e5 => ?_, fun e5 => ?_⟩
  · simp only [Bool.or_eq_true, beq_iff_eq] at e5
    exact ⟨_, _, rfl, by rw [q1i, if_neg e0', if_neg e1', if_neg e2, if_neg e3', if_neg e4, if_pos e5]; exact ⟨rfl, rfl⟩, hx2⟩
  · simp only [Bool.or_eq_false_iff, beq_eq_false_iff_ne] at e5
    have e5' : ¬ (i.op = 16 \/ i.op = 17) := by omega
    exact ⟨_, _, rfl, by rw [q1i, if_neg e0', if_neg e1', if_neg e2, if_neg e3', if_neg e4, if_neg e5']; exact ⟨rfl, rfl⟩, hx2⟩
end
end Go.Proofs.YtpggcodlaajceaaGreat
