/- Part of a proof, joined by a program: VcQ VcR Rep Dat Tab Cn00 Cn01 Cn02 Cn03 Cn04 Cn05 Cn06 Cn07 Cn08 Cn09. -/
import Derived.Test.YtpggcodlaajceaaGreatProg
import Derived.Test.YtpggcodlaajceaaGreatS01
section
/- Code: that its condition serves; functions. -/
namespace Go.Vc
variable {P : Program} {T : TT} {G : List Nat} {n : Nat} {A : Ann}
def LiftQ (n : Nat) (w0 : World) (M : List Nat) (a0 : Act) (Q : Exit -> Fr -> Mem -> Prop) : Exit -> Act -> World -> Prop
  | .panic _, _, _ => False
  | .outgrown, _, _ => False
  | e, a, w => ∃ fr', Rel n fr' a /\ Bx n fr' w.heap /\ Same w0 w /\ Keep M a0 a /\ Q e fr' w.heap
theorem LiftQ.mk {w0 : World} {M : List Nat} {a0 : Act} {fr' : Fr} {Q : Exit -> Fr -> Mem -> Prop} {e : Exit} {a : Act} {w : World} (he : (∀ c, e ≠ .panic c) /\ e ≠ .outgrown)
    (hR : Rel n fr' a) (hB : Bx n fr' w.heap) (hs : Same w0 w) (hk : Keep M a0 a) (hq : Q e fr' w.heap) : LiftQ n w0 M a0 Q e a w := by
  cases e with
  | panic c => exact absurd rfl (he.1 c)
  | outgrown => exact absurd rfl he.2
  | _ => exact ⟨fr', hR, hB, hs, hk, hq⟩
theorem LiftQ.out {w0 : World} {M : List Nat} {a0 : Act} {Q : Exit -> Fr -> Mem -> Prop} {e : Exit} {a : Act} {w : World} (h : LiftQ n w0 M a0 Q e a w) :
    ((∀ c, e ≠ .panic c) /\ e ≠ .outgrown) /\ ∃ fr', Rel n fr' a /\ Bx n fr' w.heap /\ Same w0 w /\ Keep M a0 a /\ Q e fr' w.heap := by
  cases e with
  | panic c => exact h.elim
  | outgrown => exact h.elim
  | _ => exact ⟨⟨by simp, by simp⟩, h⟩
theorem LiftQ.left {w0 : World} {M M' : List Nat} {a0 : Act} {Q : Exit -> Fr -> Mem -> Prop} {e : Exit} {a : Act} {w : World} (h : LiftQ n w0 M a0 Q e a w) : LiftQ n w0 (M ++ M') a0 Q e a w := by
  obtain ⟨he, fr', hR', hB', hs', hk', hq⟩ := h.out
  exact LiftQ.mk he hR' hB' hs' (hk'.mono (fun t ht => List.mem_append_left _ ht)) hq
theorem LiftQ.right {w0 : World} {M M' : List Nat} {a0 : Act} {Q : Exit -> Fr -> Mem -> Prop} {e : Exit} {a : Act} {w : World} (h : LiftQ n w0 M a0 Q e a w) : LiftQ n w0 (M' ++ M) a0 Q e a w := by
  obtain ⟨he, fr', hR', hB', hs', hk', hq⟩ := h.out
  exact LiftQ.mk he hR' hB' hs' (hk'.mono (fun t ht => List.mem_append_right _ ht)) hq
theorem qsy {fr : Fr} {m : Mem} {op : Op} {x : SV} {k : SV -> Prop} (h : pureOp fr op = some x) (hk : k x) : isWr op = false /\ rd T fr m k op := by
  unfold pureOp at h
  split at h
  · split at h
    · simp at h
    · simp at h; subst h; exact ⟨rfl, hk⟩
  · split at h
    · simp at h
    · simp at h; subst h; exact ⟨rfl, hk⟩
  · rename_i o t y z ty
    split at h
    · rename_i a b ha hb
      refine ⟨rfl, ?_⟩
      simp only [rd, ha, hb]
      split at h <;> simp at h <;> subst h <;> exact hk
    · simp at h
  · simp at h
theorem qh5 (ops0 : List Oper) {m : Mem} {k : Fr -> Mem -> Prop} : ∀ {ops : List Oper} {fr fr' : Fr}, pureOps n ops fr = some fr' -> k fr' m -> vcOps P T G n ops0 ops fr m k
  | [], fr, fr', h, hk => by simp [pureOps] at h; subst h; exact hk
  | o :: r, fr, fr', h, hk => by
    simp only [pureOps] at h
    simp only [vcOps]
    cases hd : dstOk n o.dst
    · rw [hd] at h; simp at h
    · rw [hd] at h
      simp only [cond_true] at h ⊢
      cases hg : o.guard with
      | some g => rw [hg] at h; simp at h
      | none =>
        rw [hg] at h
        simp only [gd] at h ⊢
        split at h
        · rename_i x hx
          obtain ⟨h1, h2⟩ := qsy (T := T) (m := m) (k := fun x => vcOps P T G n ops0 r (fput fr o.dst x) m k) hx (qh5 ops0 h hk)
          rw [h1]
          exact h2
        · simp at h
theorem orB_vc (t : Nat) {m : Mem} {Q : Exit -> Fr -> Mem -> Prop} : ∀ (c : Code) (fr : Fr) (y : Bool), orB A n t c fr = some y -> (∀ fr', boolOf (fget fr' t) = some y -> Q .normal fr' m) -> vc P T G n A c fr m Q
  | .region id ops draw, fr, y, h, hq => by
    cases draw
    · simp only [orB] at h
      simp only [vc, cond_false]
      split at h
      · rename_i fr' hfr
        exact qh5 _ hfr (hq fr' h)
      · simp at h
    · simp [orB] at h
  | .seq (.region id ops false) (.cond (.tmp u) .skip c), fr, y, h, hq => by
    simp only [orB] at h
    split at h
    · simp at h
    · rename_i hcut
      cases hb : (Nat.beq u t && memN t (mods c))
      · rw [hb] at h; simp at h
      · rw [hb] at h
        simp only [cond_true] at h
        simp only [Bool.and_eq_true] at hb
        have hut := Nat.eq_of_beq_eq_true hb.1
        subst hut
        split at h
        · rename_i fr' hfr
          split at h
          · rename_i x y' hx hy'
            simp at h
            subst h
            rw [vc, hcut]
            simp only
            rw [vc]
            simp only [cond_false]
            refine qh5 _ hfr ?_
            rw [vc]
            have hev : ev fr' (.tmp u) = (fget fr' u).nb := rfl
            rw [hev]
            cases hf : fget fr' u with
            | tt =>
              rw [hf] at hx
              simp [boolOf] at hx
              subst hx
              simp only [SV.nb, vc]
              exact hq fr' (by rw [hf]; simp [boolOf])
            | ff =>
              rw [hf] at hx
              simp [boolOf] at hx
              subst hx
              simp only [SV.nb]
              exact orB_vc u c fr' y' hy' (fun fr'' h'' => hq fr'' (by simpa using h''))
            | c z =>
              cases z with
              | t b =>
                rw [hf] at hx
                simp [boolOf] at hx
                subst hx
                simp only [SV.nb, orT, hb.2, cond_true, hy']
                exact hq _ (by simp [fget, boolOf])
              | _ => rw [hf] at hx; simp [boolOf] at hx
            | _ => rw [hf] at hx; simp [boolOf] at hx
          · simp at h
        · simp at h
theorem qt7 (hT : TOK P T) (hG : GOK P G) (hmix : P.follows .mixedOrders = true) (w0 : World) : ∀ (c : Code) (fr : Fr) (m : Mem) (Q : Exit -> Fr -> Mem -> Prop) (a : Act) (w : World),
    vc P T G n A c fr m Q -> Rel n fr a -> Bx n fr m -> w.heap = m -> Same w0 w -> c.wp P (LiftQ n w0 (mods c) a Q) a w := by
  intro c
  induction c with
  | skip =>
    intro fr m Q a w h hR hB hw hs
    subst hw
    exact wp_skip ⟨fr, hR, hB, hs, Keep.refl _ _, h⟩
  | region id ops draw =>
    intro fr m Q a w h hR hB hw hs
    simp only [vc] at h
    cases draw
    · simp only [cond_false] at h
      refine wp_region_list ?_
      exact qaa hT hG ops ops.toList fr m (Q .normal) a w (fun _ h => h) h hR hB hw hs (Keep.refl _ _) fun fr' a' w' hq hR' hB' hs' hk => ⟨fr', hR', hB', hs', hk, hq⟩
    · simp only [cond_true] at h
      split at h
      · rename_i pm bm hlk
        cases hc : (q2j bm ops.toList pm bm && apartOk ops.toList pm 0 ops.toList bm)
        · rw [hc] at h; exact h.elim
        · rw [hc] at h
          simp only [Bool.and_eq_true] at hc
          refine wp_region_any hmix (qof (bf := fun i r => Nat.testBit (nthD bm i) r) (L := []) _ _ _ _ ?_)
          have hsz : ops.toList.length = ops.size := by simp
          rw [hsz] at h
          refine qqq hT hG ops pm bm hc.1 hc.2 (fun c a w hx => hx) (w0 := w0) (a0 := a) ops.size 0 fr m [] (Q .normal) [] _ a _ h (fun x hx => by cases hx) ⟨by simp, fun i => by simp [Array.getElem?_replicate]; split <;> rfl⟩ (fun i hi => by simp [Array.getElem?_replicate] at hi; split at hi <;> simp at hi) hR hB hw ⟨hs.os, hs.tape, hs.output⟩ (Keep.refl _ _) fun fr' a' w' hq hR' hB' hs' hk => ⟨fr', hR', hB', hs', hk, hq⟩
      · exact h.elim
  | seq x y ihx ihy =>
    intro fr m Q a w h hR hB hw hs
    simp only [vc] at h
    refine wp_seq ?_
    split at h
    · refine Code.wp_mono ?_ (ihx fr m _ a w h hR hB hw hs)
      intro e a' w' hq
      obtain ⟨he, fr', hR', hB', hs', hk', hq⟩ := hq.out
      cases e with
      | normal =>
        refine Code.wp_mono ?_ (ihy fr' _ Q a' w' hq hR' hB' rfl hs')
        intro e a'' w'' hq
        obtain ⟨he, fr'', hR'', hB'', hs'', hk'', hq⟩ := hq.out
        exact LiftQ.mk he hR'' hB'' hs'' ((hk'.mono (fun t ht => List.mem_append_left _ ht)).trans (hk''.mono (fun t ht => List.mem_append_right _ ht))) hq
      | panic c => exact absurd rfl (he.1 c)
      | outgrown => exact absurd rfl he.2
      | exit i => exact LiftQ.mk (e := .exit i) he hR' hB' hs' (hk'.mono (fun t ht => List.mem_append_left _ ht)) hq
      | goto i => exact LiftQ.mk (e := .goto i) he hR' hB' hs' (hk'.mono (fun t ht => List.mem_append_left _ ht)) hq
      | ret => exact LiftQ.mk (e := .ret) he hR' hB' hs' (hk'.mono (fun t ht => List.mem_append_left _ ht)) hq
    · rename_i l hl
      cases hsl : slotsIn (mods x) l
      · rw [hsl] at h; exact h.elim
      rw [hsl] at h
      obtain ⟨K, h1, h2⟩ := h
      refine Code.wp_mono ?_ (ihx fr m _ a w h1 hR hB hw hs)
      intro e a' w' hq
      obtain ⟨he, fr', hR', hB', hs', hk', hq⟩ := hq.out
      cases e with
      | normal =>
        obtain ⟨hKe, hq⟩ := qm7 hq
        obtain ⟨fr2, K', h3, h4, h4B, h5⟩ := qqf hR' (qd7 (hR.tops _) hR'.size hR'.defers hk') (Bx.kept hB hB' hKe) hq h2
        refine Code.wp_mono ?_ (ihy fr2 _ Q a' w' (h3 _ h5) h4 h4B rfl hs')
        intro e a'' w'' hq
        obtain ⟨he, fr'', hR'', hB'', hs'', hk'', hq⟩ := hq.out
        exact LiftQ.mk he hR'' hB'' hs'' ((hk'.mono (fun t ht => List.mem_append_left _ ht)).trans (hk''.mono (fun t ht => List.mem_append_right _ ht))) hq
      | panic c => exact absurd rfl (he.1 c)
      | outgrown => exact absurd rfl he.2
      | exit i => exact LiftQ.mk (e := .exit i) he hR' hB' hs' (hk'.mono (fun t ht => List.mem_append_left _ ht)) hq
      | goto i => exact LiftQ.mk (e := .goto i) he hR' hB' hs' (hk'.mono (fun t ht => List.mem_append_left _ ht)) hq
      | ret => exact LiftQ.mk (e := .ret) he hR' hB' hs' (hk'.mono (fun t ht => List.mem_append_left _ ht)) hq
  | cond o x y ihx ihy =>
    intro fr m Q a w h hR hB hw hs
    simp only [vc] at h
    have href : ∀ {b : Bool}, a.eval o = .bool b -> Rel n (refine' fr o (if b then .tt else .ff)) a := by
      intro b hb
      unfold refine'
      split
      · rename_i t
        refine ⟨hR.size, hR.defers, fun u => ?_⟩
        simp only [fget]
        cases hbe : Nat.beq t u
        · exact hR.at' u
        · have := Nat.eq_of_beq_eq_true hbe
          subst this
          cases b <;> exact hb
      · exact hR
    have hrefB : ∀ {x : SV}, (∀ b e l, x ≠ .box b e l /\ x ≠ .boxF b e l) -> Bx n (refine' fr o x) m := by
      intro x hx
      unfold refine'
      split
      · exact hB.top hx
      · exact hB
    split at h
    · rename_i hc
      exact wp_cond_true (hR.eq hc rfl) (Code.wp_mono (fun _ _ _ h => h.left) (ihx fr m Q a w h hR hB hw hs))
    · rename_i hc
      exact wp_cond_false (hR.eq hc rfl) (Code.wp_mono (fun _ _ _ h => h.right) (ihy fr m Q a w h hR hB hw hs))
    · rename_i b hc
      have hcv : a.eval o = .bool b := hR.eq hc rfl
      split at h
      · rename_i t y' hor
        unfold orT at hor
        split at hor
        · rename_i t0
          cases hmm : memN t0 (mods y)
          · rw [hmm] at hor; simp at hor
          · rw [hmm] at hor
            simp only [cond_true] at hor
            split at hor
            · rename_i y0 hy0
              simp at hor
              obtain ⟨rfl, rfl⟩ := hor
              have hcv' : a.tmps.getD t0 undef = .bool b := hcv
              refine wp_cond_split hcv (fun ht => ?_) (fun ht => ?_)
              · subst hw
                subst ht
                refine wp_skip (LiftQ.mk (e := .normal) (fr' := (t0, .c (.t (true || y0))) :: tops (mods y) fr) ⟨by simp, by simp⟩ ?_ ((hB.tops _).top (by simp)) hs (Keep.refl _ _) h)
                have hb := qd7 (M := mods y) hR hR.size hR.defers (Keep.refl _ a)
                refine ⟨hb.size, hb.defers, fun u => ?_⟩
                simp only [fget]
                cases hbe : Nat.beq t0 u
                · exact hb.at' u
                · have := Nat.eq_of_beq_eq_true hbe
                  subst this
                  simpa [SV.Is, SV.v, Ce.v] using hcv'
              · subst ht
                have hv := orB_vc (P := P) (T := T) (G := G) (A := A) (n := n) t0 (m := m) (Q := fun e fr' m' => e = .normal /\ m' = m /\ boolOf (fget fr' t0) = some y0) y fr y0 hy0 (fun fr' h' => ⟨rfl, rfl, h'⟩)
                refine Code.wp_mono ?_ (ihy fr m _ a w hv hR hB hw hs)
                intro e a' w' hq
                obtain ⟨he, fr', hR', hB', hs', hk', rfl, hm', hbo⟩ := hq.out
                refine LiftQ.mk (e := .normal) (fr' := (t0, .c (.t (false || y0))) :: tops (mods y) fr) he ?_ (by rw [hm']; exact (hB.tops _).top (by simp)) hs' (hk'.mono (fun t ht => List.mem_append_right _ ht)) (by rw [hm']; exact h)
                have hb := qd7 (M := mods y) hR hR'.size hR'.defers hk'
                refine ⟨hb.size, hb.defers, fun u => ?_⟩
                simp only [fget]
                cases hbe : Nat.beq t0 u
                · exact hb.at' u
                · have := Nat.eq_of_beq_eq_true hbe
                  subst this
                  obtain ⟨hk1, hk2⟩ := qdl hbo
                  have h3 := (hR'.at' t0).eq hk1
                  rw [hk2] at h3
                  simpa [SV.Is, SV.v, Ce.v] using h3
            · simp at hor
        · simp at hor
      · refine wp_cond_split hcv (fun ht => ?_) (fun ht => ?_)
        · subst ht
          exact Code.wp_mono (fun _ _ _ h => h.left) (ihx _ m Q a w (h.1 rfl) (href hcv) (hrefB (by simp)) hw hs)
        · subst ht
          exact Code.wp_mono (fun _ _ _ h => h.right) (ihy _ m Q a w (h.2 rfl) (href hcv) (hrefB (by simp)) hw hs)
    · exact h.elim
  | block id x ih =>
    intro fr m Q a w h hR hB hw hs
    simp only [vc] at h
    refine wp_block (Code.wp_mono ?_ (ih fr m _ a w h hR hB hw hs))
    intro e a' w' hq
    obtain ⟨he, fr', hR', hB', hs', hk', hq⟩ := hq.out
    cases e with
    | exit i =>
      simp only [Exit.inBlock]
      simp only at hq
      cases hb : Nat.beq i id
      · rw [hb] at hq
        have hne : i ≠ id := fun e => by subst e; simp at hb
        rw [if_neg hne]
        exact LiftQ.mk (e := .exit i) he hR' hB' hs' hk' hq
      · rw [hb] at hq
        rw [if_pos (Nat.eq_of_beq_eq_true hb)]
        exact LiftQ.mk (e := .normal) ⟨by simp, by simp⟩ hR' hB' hs' hk' hq
    | normal => exact LiftQ.mk (e := .normal) he hR' hB' hs' hk' hq
    | panic c => exact absurd rfl (he.1 c)
    | outgrown => exact absurd rfl he.2
    | goto i => exact LiftQ.mk (e := .goto i) he hR' hB' hs' hk' hq
    | ret => exact LiftQ.mk (e := .ret) he hR' hB' hs' hk' hq
  | loop x ih =>
    intro fr m Q a w h hR hB hw hs
    subst hw
    simp only [vc] at h
    split at h
    · exact h.elim
    · rename_i l hl
      cases hsl : slotsIn (mods x) l
      · rw [hsl] at h; exact h.elim
      rw [hsl] at h
      obtain ⟨I, μ, h0, h1⟩ := h
      let Inv : Nat -> Act -> World -> Prop := fun N a' w => ∃ fr' I' μ', Inst l I μ (tops (mods x) (bdrop n (kept A x) fr)) fr' I' μ' /\ Rel n fr' a' /\ Bx n fr' w.heap /\ I' w.heap /\ μ' w.heap = N /\ Same w0 w /\ Keep (mods x) a a'
      obtain ⟨fr1, I1, μ1, hi1, hR1, hB1, hI1⟩ := qpf (μ := μ) hR (qd7 (hR.tops _) hR.size hR.defers (Keep.refl (mods x) a)) (Bx.kept hB hB (fun _ _ => rfl)) h0
      refine qsv Inv ?_ (μ1 w.heap) a w ⟨fr1, I1, μ1, hi1, hR1, hB1, hI1, rfl, hs, Keep.refl _ _⟩
      rintro N a1 w ⟨fr', I', μ', hi, hR', hB', hI', rfl, hs', hk1⟩
      have hbody := qpq h1 hi w.heap hI'
      refine Code.wp_mono ?_ (ih fr' w.heap _ a1 w hbody hR' hB' rfl hs')
      intro e a' w' hq
      obtain ⟨he, fr2, hR2, hB2, hs2, hk2, hq⟩ := hq.out
      cases e with
      | normal =>
        obtain ⟨hKe, hq⟩ := qm7 hq
        obtain ⟨fr3, I3, μ3, hi3, hR3, hB3, hI3, hlt⟩ := qpt hR2 (qd7 (hR.tops _) hR2.size hR2.defers (hk1.trans hk2)) (Bx.kept hB hB2 hKe) hq
        exact ⟨_, hlt, fr3, I3, μ3, hi3, hR3, hB3, hI3, rfl, hs2, hk1.trans hk2⟩
      | panic c => exact absurd rfl (he.1 c)
      | outgrown => exact absurd rfl he.2
      | exit i => exact LiftQ.mk (e := .exit i) he hR2 hB2 hs2 (hk1.trans hk2) hq
      | goto i => exact LiftQ.mk (e := .goto i) he hR2 hB2 hs2 (hk1.trans hk2) hq
      | ret => exact LiftQ.mk (e := .ret) he hR2 hB2 hs2 (hk1.trans hk2) hq
  | exit id =>
    intro fr m Q a w h hR hB hw hs
    subst hw
    exact wp_exit ⟨fr, hR, hB, hs, Keep.refl _ _, h⟩
  | ret =>
    intro fr m Q a w h hR hB hw hs
    subst hw
    exact wp_ret ⟨fr, hR, hB, hs, Keep.refl _ _, h⟩
  | rangeFunc f ps x y _ _ => intro fr m Q a w h; exact h.elim
  | scope x _ => intro fr m Q a w h; exact h.elim
  | label l => intro fr m Q a w h; exact h.elim
  | goto l => intro fr m Q a w h; exact h.elim
  | refuse s => intro fr m Q a w h; exact h.elim
def argFr : Nat -> List SV -> Fr
  | _, [] => []
  | i, x :: r => (i, x) :: argFr (i + 1) r
def resL (T : TT) (fr : Fr) (m : Mem) : List ResultVar -> (List SV -> Prop) -> Prop
  | [], k => k []
  | .tmp t :: r, k => bif (fget fr t).known then resL T fr m r fun l => k (fget fr t :: l) else False
  | .cell p t :: r, k => rd T fr m (fun x => bif x.known then resL T fr m r fun l => k (x :: l) else False) (.load t (.tmp p))
def resF (T : TT) (rs : List ResultVar) (fr : Fr) (m : Mem) (R : Value -> Mem -> Prop) : Prop :=
  resL T fr m rs fun
    | [x] => R x.v m
    | l => R (.tuple (l.map SV.v).toArray) m
def vcFn (P : Program) (T : TT) (G : List Nat) (A : Ann) (n : Nat) (rs : List ResultVar) (c : Code) (args : List SV) (m : Mem) (R : Value -> Mem -> Prop) : Prop :=
  vc P T G n A c (argFr 0 args) m fun
    | .normal, fr, m => resF T rs fr m R
    | .ret, fr, m => resF T rs fr m R
    | _, _, _ => False
theorem qj8 : ∀ (args : List SV) (i t : Nat), (t < i /\ fget (argFr i args) t = .top) \/ (i <= t /\ fget (argFr i args) t = args.getD (t - i) .top)
  | [], i, t => by
    rcases Nat.lt_or_ge t i with h | h
    · exact Or.inl ⟨h, rfl⟩
    · exact Or.inr ⟨h, by simp [argFr, fget]⟩
  | x :: r, i, t => by
    simp only [argFr, fget]
    cases hb : Nat.beq i t
    · have hne : i ≠ t := fun e => by subst e; simp at hb
      rcases qj8 r (i + 1) t with ⟨h1, h2⟩ | ⟨h1, h2⟩
      · exact Or.inl ⟨by omega, h2⟩
      · refine Or.inr ⟨by omega, ?_⟩
        have e : t - i = (t - (i + 1)) + 1 := by omega
        rw [e, List.getD_cons_succ]
        exact h2
    · have := Nat.eq_of_beq_eq_true hb
      subst this
      exact Or.inr ⟨Nat.le_refl _, by simp⟩
def resOne (tmps : Array Value) : ResultVar -> Sem Value
  | .tmp t => pure (tmps.getD t undef)
  | .cell p t => do loadVar t (← asAddr (tmps.getD p undef))
theorem qse (fn : Func) (tmps : Array Value) : results fn tmps = (do
    let vs ← fn.results.mapM (resOne tmps)
    pure (if h : vs.size = 1 then vs[0] else .tuple vs)) := by
  unfold results
  congr 2
theorem qk3 {fr : Fr} {a : Act} (hT : TOK P T) (hR : Rel n fr a) : ∀ (rs : List ResultVar) (k : List SV -> Prop) (w : World), Bx n fr w.heap -> resL T fr w.heap rs k ->
    ∃ l, k l /\ (rs.mapM (resOne a.tmps)).run P w = .ok (l.map SV.v) w
  | [], k, w, _, h => ⟨[], h, by simp⟩
  | .tmp t :: r, k, w, hB, h => by
    simp only [resL] at h
    cases hk : (fget fr t).known
    · rw [hk] at h; exact h.elim
    · rw [hk] at h
      obtain ⟨l, h1, h2⟩ := qk3 hT hR r _ w hB h
      refine ⟨_, h1, ?_⟩
      have hv := (hR.at' t).eq hk
      have e1 : resOne a.tmps (.tmp t) = pure (a.tmps.getD t undef) := rfl
      simp only [List.mapM_cons, Sem.run_bind, Sem.run_pure, Result.andThen_ok, h2, List.map_cons, hv, e1]
  | .cell p t :: r, k, w, hB, hrd => by
    obtain ⟨x, v, hx, hv, hrun⟩ := qmi (P := P) hT hR hB ⟨none, .load t (.tmp p), 0, "", #[], none⟩ hrd
    have hrun := hrun w (fun q _ => rfl)
    cases hkx : x.known
    · rw [hkx] at hx; exact hx.elim
    rw [hkx] at hx
    obtain ⟨l, h1, h2⟩ := qk3 hT hR r _ w hB hx
    refine ⟨_, h1, ?_⟩
    have hpp : ∃ b o, a.tmps.getD p undef = .pointer (some ⟨b, o, none⟩) := by
      have hat := SV.nb_is (hR.at' p)
      simp only [resL, rd, ev] at hrd
      split at hrd
      · rename_i b o hp
        rw [hp] at hat
        exact ⟨b, o, hat⟩
      · rename_i q b o hp
        rw [hp] at hat
        exact ⟨b, o, hat⟩
      · exact hrd.elim
    obtain ⟨b, o, hpv⟩ := hpp
    simp only [execOp, Instr.loadAt, Act.eval, hpv, Instr.sureAddr, Sem.run_bind, Sem.run_pure, Result.andThen_ok] at hrun
    have hl : (loadVar t ⟨b, o, none⟩).run P w = .ok v w := by
      cases hr : (loadVar t ⟨b, o, none⟩).run P w with
      | ok u w' =>
        rw [hr] at hrun
        simp at hrun
        rw [hrun.1, hrun.2]
      | halt e w' => rw [hr] at hrun; simp at hrun
    have hxk : v = x.v := hv.eq hkx
    have e1 : (resOne a.tmps (.cell p t)).run P w = .ok v w := by
      simp only [resOne, hpv, Sem.run_bind, asAddr, Sem.run_pure, Result.andThen_ok, hl]
    simp only [List.mapM_cons, Sem.run_bind, Sem.run_pure, Result.andThen_ok, e1, h2, List.map_cons, hxk]
theorem qs8 (hT : TOK P T) (hG : GOK P G) (hmix : P.follows .mixedOrders = true) {f : FuncId} {fn : Func} {c : Code} {rs : List ResultVar} {args : List SV} {m : Mem} {R : Value -> Mem -> Prop}
    (hf : P.funcs[f]? = some fn) (hb : fn.body = some c) (hn : fn.ntmps = n) (hrs : fn.results = rs.toArray) (hargs : args.all SV.known = true) (hle : args.length <= n)
    (h : vcFn P T G A n rs c args m R) : q00 P f (args.map SV.v) m R := by
  intro w hw
  refine calls_of_wp hf hb ?_
  have hR : Rel n (argFr 0 args) { tmps := (args.map SV.v).toArray ++ Array.replicate (fn.ntmps - (args.map SV.v).toArray.size) undef, defers := [] } := by
    refine ⟨by simp [hn]; omega, rfl, fun t => ?_⟩
    rcases qj8 args 0 t with ⟨h1, _⟩ | ⟨_, h2⟩
    · omega
    · rw [h2, Nat.sub_zero]
      rcases Nat.lt_or_ge t args.length with hlt | hge
      · have hk : (args[t]).known = true := List.all_eq_true.1 hargs _ (List.getElem_mem hlt)
        have e1 : args.getD t .top = args[t] := by simp [hlt]
        rw [e1]
        have e2 : ((args.map SV.v).toArray ++ Array.replicate (fn.ntmps - (args.map SV.v).toArray.size) undef).getD t undef = (args[t]).v := by
          simp [Array.getElem?_append, hlt]
        rw [e2]
        exact is_v _
      · have e1 : args.getD t .top = .top := by simp [List.getElem?_eq_none hge]
        rw [e1]; trivial
  have hnb : ∀ {q b e l}, ¬ boxAt (argFr 0 args) q b e l := by
    intro q b e l hx
    rcases qj8 args 0 q with ⟨h1, _⟩ | ⟨_, h2⟩
    · omega
    · unfold boxAt at hx
      rw [h2, Nat.sub_zero] at hx
      rcases Nat.lt_or_ge q args.length with hlt | hge
      · have hk : (args[q]).known = true := List.all_eq_true.1 hargs _ (List.getElem_mem hlt)
        have e1 : args.getD q .top = args[q] := by simp [hlt]
        rw [e1] at hx
        rcases hx with hx | hx <;> rw [hx] at hk <;> simp [SV.known] at hk
      · have e1 : args.getD q .top = .top := by simp [List.getElem?_eq_none hge]
        rw [e1] at hx; simp at hx
  have hB : Bx n (argFr 0 args) m := ⟨fun _ _ _ _ h => absurd h hnb, fun _ _ _ _ _ _ _ _ _ h => absurd h hnb, fun _ _ _ _ h => absurd h hnb⟩
  refine Code.wp_mono ?_ (qt7 hT hG hmix w c _ m _ _ w h hR hB hw (Same.refl w))
  intro e a' w' hq
  obtain ⟨he, fr', hR', hB', hs', hk', hq⟩ := hq.out
  have hfin : ∀ (hq : resF T rs fr' w'.heap R), a'.defers = [] /\ ∃ v, (results fn a'.tmps).run P w' = .ok v w' /\ ∃ v', Ending.returned v = .returned v' /\ Same w w' /\ R v' w'.heap := by
    intro hq
    refine ⟨hR'.defers, ?_⟩
    obtain ⟨l, h1, h2⟩ := qk3 hT hR' rs _ w' hB' hq
    have hres : (results fn a'.tmps).run P w' = .ok (if h : (l.map SV.v).toArray.size = 1 then (l.map SV.v).toArray[0] else .tuple (l.map SV.v).toArray) w' := by
      rw [qse, hrs, Array.mapM_eq_mapM_toList]
      simp only [Sem.run_bind, Sem.run_map]
      rw [h2]
      rfl
    refine ⟨_, hres, _, rfl, hs', ?_⟩
    cases l with
    | nil => exact h1
    | cons x l => cases l with
      | nil => exact h1
      | cons y l => exact h1
  cases e with
  | normal => exact hfin hq
  | ret => exact hfin hq
  | exit i => exact hq.elim
  | goto i => exact hq.elim
  | panic c => exact absurd rfl (he.1 c)
  | outgrown => exact absurd rfl he.2
end Go.Vc
end
section
/- Short words for values in conditions. -/
namespace Go.Vc
abbrev vi (n : Int) : Value := .int .i64 n
abbrev vb (b : Bool) : Value := .bool b
abbrev vp (b o : Nat) : Value := .pointer (some ⟨b, o, none⟩)
def q05 (f : Func) : Code :=
  match f.body with
  | some c => c
  | none => .skip
end Go.Vc
end
section
/- How plain data lie in memory; what grows leaves the old as it was. -/
namespace Go.Vc
structure Ext (m m' : Mem) : Prop where
  size : m.size <= m'.size
  same : ∀ b, b < m.size -> m'[b]? = m[b]?
theorem Ext.refl (m : Mem) : Ext m m := ⟨Nat.le_refl _, fun _ _ => rfl⟩
theorem Ext.trans {a b c : Mem} (h : Ext a b) (k : Ext b c) : Ext a c :=
  ⟨Nat.le_trans h.size k.size, fun i hi => (k.same i (Nat.lt_of_lt_of_le hi h.size)).trans (h.same i hi)⟩
theorem Ext.push (m : Mem) (o : Obj) : Ext m (m.push o) :=
  ⟨by simp, fun b hb => by rw [Array.getElem?_push, if_neg (by omega)]⟩
theorem Ext.pushed {a m : Mem} (h : Ext a m) (o : Obj) : Ext a (m.push o) := h.trans (Ext.push m o)
theorem Ext.scells {a m : Mem} (h : Ext a m) {b : Nat} (hb : a.size <= b) (o : Nat) (l : List Ce) : Ext a (scells m b o l) :=
  ⟨by rw [q04]; exact h.size, fun j hj => by rw [q0s l m b o (by omega)]; exact h.same j hj⟩
theorem Ext.gcell {m m' : Mem} (h : Ext m m') {b o : Nat} {v : Value} (hg : gcell m b o = some v) : gcell m' b o = some v := by
  rw [q1l (h.same b (q63 hg))]; exact hg
theorem Ext.row {m m' : Mem} (h : Ext m m') {b o : Nat} {l : List Ce} (hr : rowIs m b o l) : rowIs m' b o l := fun i c hc => h.gcell (hr i c hc)
theorem Blk.ext {m m' : Mem} (h : Ext m m') {b e : Nat} {l : List Ce} (hb : Blk m b e l) : Blk m' b e l := by
  unfold Blk at *; rw [h.same b (Array.getElem?_eq_some_iff.1 hb).1]; exact hb
structure SlOf {α : Type} (m : Mem) (sz : Nat) (R : List Ce -> α -> Prop) (s : Sl) (l : List α) : Prop where
  len : s.len = l.length
  cap : s.len <= s.cap
  lim : s.len <= 9223372036854775807
  row : ∀ (k : Nat) (x : α), l[k]? = some x -> ∃ cs, R cs x /\ rowIs m s.blk (s.off + k * sz) cs
theorem SlOf.mono {α : Type} {m m' : Mem} {sz : Nat} {R R' : List Ce -> α -> Prop} {s : Sl} {l : List α} (h : SlOf m sz R s l) (hm : Ext m m') (hR : ∀ cs x, R cs x -> R' cs x) : SlOf m' sz R' s l :=
  ⟨h.len, h.cap, h.lim, fun k x hk => let ⟨cs, h1, h2⟩ := h.row k x hk; ⟨cs, hR _ _ h1, hm.row h2⟩⟩
def IntR (cs : List Ce) (n : Int) : Prop := cs = [.i n]
abbrev q03 (m : Mem) (s : Sl) (l : List Int) : Prop := SlOf m 1 IntR s l
theorem q03.at' {m : Mem} {s : Sl} {l : List Int} (h : q03 m s l) {k : Nat} {x : Int} (hk : l[k]? = some x) : gcell m s.blk (s.off + k * 1) = some (vi x) := by
  obtain ⟨cs, rfl, hr⟩ := h.row k x hk
  exact hr 0 (.i x) rfl
theorem q03.ext {m m' : Mem} (hm : Ext m m') {s : Sl} {l : List Int} (h : q03 m s l) : q03 m' s l := h.mono hm fun _ _ h => h
theorem q02 {α : Type} {l : List α} {k : Nat} (h : k < l.length) : ∃ x, l[k]? = some x := ⟨l[k], by simp [h]⟩
theorem q07 {α : Type} {l : List α} {k : Nat} {x : α} (h : l[k]? = some x) : k < l.length := (List.getElem?_eq_some_iff.1 h).1
theorem q0a {α : Type} {l : List α} {k : Nat} {x : α} (h : l[k]? = some x) : l.take (k + 1) = l.take k ++ [x] := by
  rw [List.take_add_one, h]; rfl
theorem q0k {α : Type} {l : List α} {k : Nat} (h : l.length <= k) : l.take k = l := List.take_of_length_le h
def Gets (P : Program) (f : Nat) (args : List Value) (m : Mem) (v : Value) : Prop := q00 P f args m fun v' m' => v' = v /\ Ext m m'
theorem q00.post {P : Program} {f : Nat} {args : List Value} {m : Mem} {K K' : Value -> Mem -> Prop} (h : q00 P f args m K) (hk : ∀ v m', K v m' -> K' v m') : q00 P f args m K' := h.mono hk
theorem Gets.then {P : Program} {f : Nat} {args : List Value} {m : Mem} {v : Value} {K : Value -> Mem -> Prop} (h : Gets P f args m v) (hk : ∀ m', Ext m m' -> K v m') : q00 P f args m K :=
  h.mono fun _ _ ⟨he, hx⟩ => he ▸ hk _ hx
theorem Sl.v_inj {s t : Sl} : s.v = t.v ↔ s = t := by
  refine ⟨fun h => ?_, fun h => h ▸ rfl⟩
  cases s <;> cases t <;> simp_all [Sl.v]
theorem Ext.sam {m m' : Mem} (h : Ext m m') {l : List Nat} (hl : ∀ b ∈ l, b < m.size) : Sam l m m' := fun b hb => h.same b (hl b hb)
theorem Ext.lt {m m' : Mem} (h : Ext m m') {b : Nat} (hb : b < m.size) : b < m'.size := Nat.lt_of_lt_of_le hb h.size
theorem Ext.keepG {m m' : Mem} (h : Ext m m') {b o : Nat} {v : Value} (hg : Vc.gcell m b o = some v) : Vc.gcell m' b o = Vc.gcell m b o := by rw [h.gcell hg, hg]
theorem qcl {k n : Nat} (h : k < n) (hn : n <= 9223372036854775807) : w64 ((k : Int) + 1) = ((k + 1 : Nat) : Int) := by rw [q08 (by omega) (by omega)]; rfl
theorem mu_lt {n k : Nat} (h : k < n) : ((n : Int) - ((k + 1 : Nat) : Int)).toNat < ((n : Int) - (k : Int)).toNat := by omega
theorem forI {n : Nat} (hn : n <= 9223372036854775807) {m : Mem} {Body : (Int -> Mem -> Prop) -> (Int -> Mem -> Nat) -> Int -> Mem -> Prop} (Q : Nat -> Mem -> Prop) (h0 : Q 0 m)
    (h : ∀ (k : Nat) (m1 : Mem) (I : Int -> Mem -> Prop) (μ : Int -> Mem -> Nat), k <= n -> Q k m1 ->
      (k < n -> ∀ m', Q (k + 1) m' -> I (w64 ((k : Int) + 1)) m' /\ μ (w64 ((k : Int) + 1)) m' < μ k m1) -> Body I μ k m1) :
    ∃ (I : Int -> Mem -> Prop) (μ : Int -> Mem -> Nat), I 0 m /\ ∀ i m1, I i m1 -> Body I μ i m1 := by
  refine ⟨fun i m' => ∃ k : Nat, i = k /\ k <= n /\ Q k m', fun i _ => (n - i).toNat, ⟨0, rfl, Nat.zero_le _, h0⟩, ?_⟩
  rintro i m1 ⟨k, rfl, hk, hq⟩
  refine h k m1 _ _ hk hq fun hlt m' hq' => ?_
  rw [qcl hlt hn]
  exact ⟨⟨k + 1, rfl, hlt, hq'⟩, mu_lt hlt⟩
theorem forSI {σ : Type} {n : Nat} (hn : n <= 9223372036854775807) {m : Mem} {s0 : σ} {Body : (σ -> Int -> Mem -> Prop) -> (σ -> Int -> Mem -> Nat) -> σ -> Int -> Mem -> Prop} (Q : Nat -> σ -> Mem -> Prop) (h0 : Q 0 s0 m)
    (h : ∀ (k : Nat) (s : σ) (m1 : Mem) (I : σ -> Int -> Mem -> Prop) (μ : σ -> Int -> Mem -> Nat), k <= n -> Q k s m1 ->
      (k < n -> ∀ s' m', Q (k + 1) s' m' -> I s' (w64 ((k : Int) + 1)) m' /\ μ s' (w64 ((k : Int) + 1)) m' < μ s k m1) -> Body I μ s k m1) :
    ∃ (I : σ -> Int -> Mem -> Prop) (μ : σ -> Int -> Mem -> Nat), I s0 0 m /\ ∀ s i m1, I s i m1 -> Body I μ s i m1 := by
  refine ⟨fun s i m' => ∃ k : Nat, i = k /\ k <= n /\ Q k s m', fun _ i _ => (n - i).toNat, ⟨0, rfl, Nat.zero_le _, h0⟩, ?_⟩
  rintro s i m1 ⟨k, rfl, hk, hq⟩
  refine h k s m1 _ _ hk hq fun hlt s' m' hq' => ?_
  rw [qcl hlt hn]
  exact ⟨⟨k + 1, rfl, hlt, hq'⟩, mu_lt hlt⟩
def q0q (P : Program) (f : Nat) (args : List Value) (m : Mem) (p : Prop) : Prop := q00 P f args m fun v m' => ∃ b : Bool, v = .bool b /\ (b = true ↔ p) /\ Ext m m'
theorem q0q.then {P : Program} {f : Nat} {args : List Value} {m : Mem} {p : Prop} {K : Value -> Mem -> Prop} (h : q0q P f args m p) (hk : ∀ (b : Bool) m', (b = true ↔ p) -> Ext m m' -> K (.bool b) m') : q00 P f args m K :=
  h.mono fun _ _ ⟨b, he, hb, hx⟩ => he ▸ hk b _ hb hx
theorem q0q.thenS {P : Program} {f : Nat} {args : List Value} {m m0 : Mem} {p : Prop} {K : Value -> Mem -> Prop} {l : List Nat} (h : q0q P f args m p) (hx : Ext m0 m) (hl : ∀ b ∈ l, b < m0.size)
    (hk : ∀ (b : Bool) m', (b = true ↔ p) -> Ext m m' -> Ext m0 m' -> K (.bool b) m') : q00 P f args m fun v m' => Sam l m m' /\ K v m' :=
  h.mono fun _ _ ⟨b, he, hb, h2⟩ => ⟨h2.sam fun c hc => hx.lt (hl c hc), he ▸ hk b _ hb h2 (hx.trans h2)⟩
theorem Gets.thenS {P : Program} {f : Nat} {args : List Value} {m m0 : Mem} {v : Value} {K : Value -> Mem -> Prop} {l : List Nat} (h : Gets P f args m v) (hx : Ext m0 m) (hl : ∀ b ∈ l, b < m0.size)
    (hk : ∀ m', Ext m m' -> Ext m0 m' -> K v m') : q00 P f args m fun v m' => Sam l m m' /\ K v m' :=
  h.mono fun _ _ ⟨he, h2⟩ => ⟨h2.sam fun c hc => hx.lt (hl c hc), he ▸ hk _ h2 (hx.trans h2)⟩
theorem q00.thenS {P : Program} {f : Nat} {args : List Value} {m m0 : Mem} {K K' : Value -> Mem -> Prop} {l : List Nat} (h : q00 P f args m K) (hx : Ext m0 m) (hl : ∀ b ∈ l, b < m0.size)
    (hk : ∀ v m', K v m' -> Ext m m' /\ K' v m') : q00 P f args m fun v m' => Sam l m m' /\ K' v m' :=
  h.mono fun v m' hv => ⟨(hk v m' hv).1.sam fun c hc => hx.lt (hl c hc), (hk v m' hv).2⟩
theorem retB {m m' : Mem} {p : Prop} {b : Bool} (h : b = true ↔ p) (hx : Ext m m') : ∃ b' : Bool, Value.bool b = .bool b' /\ (b' = true ↔ p) /\ Ext m m' := ⟨b, rfl, h, hx⟩
theorem retF {m m' : Mem} {p : Prop} (h : ¬ p) (hx : Ext m m') : ∃ b' : Bool, Value.bool false = .bool b' /\ (b' = true ↔ p) /\ Ext m m' := ⟨false, rfl, by simp [h], hx⟩
theorem retT {m m' : Mem} {p : Prop} (h : p) (hx : Ext m m') : ∃ b' : Bool, Value.bool true = .bool b' /\ (b' = true ↔ p) /\ Ext m m' := ⟨true, rfl, by simp [h], hx⟩
theorem nb {b : Bool} {p : Prop} (hb : b = true ↔ p) (h : (!b) = true) : ¬ p := fun hp => by simp [hb.2 hp] at h
theorem yb {b : Bool} {p : Prop} (hb : b = true ↔ p) (h : (!b) = false) : p := hb.1 (by simpa using h)
theorem fb {b : Bool} {p : Prop} (hb : b = true ↔ p) (h : b = false) : ¬ p := fun hp => by simp [hb.2 hp] at h
theorem q0l {α : Type} {l : List α} {k : Nat} {x : α} {p : α -> Prop} (hx : l[k]? = some x) (h : ∀ y ∈ l.take k, p y) (hp : p x) : ∀ y ∈ l.take (k + 1), p y := by
  rw [q0a hx]
  intro y hy
  rcases List.mem_append.1 hy with hy | hy
  · exact h y hy
  · simp at hy; subst hy; exact hp
theorem q10 {α : Type} {l : List α} {k : Nat} {p : α -> Prop} (hk : l.length <= k) (h : ∀ y ∈ l.take k, p y) : ∀ y ∈ l, p y := by rw [← q0k hk]; exact h
theorem q06 {α : Type} {l : List α} {k : Nat} {x : α} (h : l[k]? = some x) : x ∈ l := List.mem_of_getElem? h
end Go.Vc
end
section
/- The program's data as plain data, and how they lie in memory. -/
namespace Go.Vc
structure Decl where
  frm : Int
  to : Int
  cons : List (List Int)
structure Instr where
  op : Int
  dst : Int
  num : Int
  into : Int
  args : List Int
  jumps : List Int
structure Proc where
  params : List Int
  lent : List Int
  result : Int
  regs : Int
  code : List Instr
structure Image where
  decls : List Decl
  procs : List Proc
def ConR (m : Mem) (cs : List Ce) (c : List Int) : Prop := ∃ f, cs = [.s f] /\ q03 m f c
def DeclR (m : Mem) (cs : List Ce) (d : Decl) : Prop := ∃ f, cs = [.i d.frm, .i d.to, .s f] /\ SlOf m 1 (ConR m) f d.cons
def InstrR (m : Mem) (cs : List Ce) (x : Instr) : Prop := ∃ a j, cs = [.i x.op, .i x.dst, .i x.num, .i x.into, .s a, .s j] /\ q03 m a x.args /\ q03 m j x.jumps
def ProcR (m : Mem) (cs : List Ce) (p : Proc) : Prop :=
  ∃ a l c, cs = [.s a, .s l, .i p.result, .i p.regs, .s c] /\ q03 m a p.params /\ q03 m l p.lent /\ SlOf m 6 (InstrR m) c p.code
abbrev ConSl (m : Mem) (s : Sl) (l : List (List Int)) : Prop := SlOf m 1 (ConR m) s l
abbrev q0j (m : Mem) (s : Sl) (l : List Decl) : Prop := SlOf m 3 (DeclR m) s l
abbrev q19 (m : Mem) (s : Sl) (l : List Instr) : Prop := SlOf m 6 (InstrR m) s l
abbrev ProcSl (m : Mem) (s : Sl) (l : List Proc) : Prop := SlOf m 5 (ProcR m) s l
structure ImageR (m : Mem) (d p : Sl) (im : Image) : Prop where
  decls : q0j m d im.decls
  procs : ProcSl m p im.procs
theorem ConR.ext {m m' : Mem} (hm : Ext m m') (cs : List Ce) (c : List Int) : ConR m cs c -> ConR m' cs c := fun ⟨f, h1, h2⟩ => ⟨f, h1, h2.ext hm⟩
theorem ConSl.ext {m m' : Mem} (hm : Ext m m') {s : Sl} {l : List (List Int)} (h : ConSl m s l) : ConSl m' s l := h.mono hm (ConR.ext hm)
theorem DeclR.ext {m m' : Mem} (hm : Ext m m') (cs : List Ce) (c : Decl) : DeclR m cs c -> DeclR m' cs c := fun ⟨f, h1, h2⟩ => ⟨f, h1, ConSl.ext hm h2⟩
theorem q0j.ext {m m' : Mem} (hm : Ext m m') {s : Sl} {l : List Decl} (h : q0j m s l) : q0j m' s l := h.mono hm (DeclR.ext hm)
theorem InstrR.ext {m m' : Mem} (hm : Ext m m') (cs : List Ce) (c : Instr) : InstrR m cs c -> InstrR m' cs c := fun ⟨a, j, h1, h2, h3⟩ => ⟨a, j, h1, h2.ext hm, h3.ext hm⟩
theorem q19.ext {m m' : Mem} (hm : Ext m m') {s : Sl} {l : List Instr} (h : q19 m s l) : q19 m' s l := h.mono hm (InstrR.ext hm)
theorem ProcR.ext {m m' : Mem} (hm : Ext m m') (cs : List Ce) (c : Proc) : ProcR m cs c -> ProcR m' cs c := fun ⟨a, l, c, h1, h2, h3, h4⟩ => ⟨a, l, c, h1, h2.ext hm, h3.ext hm, q19.ext hm h4⟩
theorem ProcSl.ext {m m' : Mem} (hm : Ext m m') {s : Sl} {l : List Proc} (h : ProcSl m s l) : ProcSl m' s l := h.mono hm (ProcR.ext hm)
theorem ImageR.ext {m m' : Mem} (hm : Ext m m') {d p : Sl} {im : Image} (h : ImageR m d p im) : ImageR m' d p im := ⟨q0j.ext hm h.decls, ProcSl.ext hm h.procs⟩
theorem ConSl.at' {m : Mem} {s : Sl} {l : List (List Int)} (h : ConSl m s l) {k : Nat} {x : List Int} (hk : l[k]? = some x) :
    ∃ f, q03 m f x /\ gcell m s.blk (s.off + k * 1) = some (Sl.v f) := by
  obtain ⟨cs, ⟨f, rfl, hf⟩, hr⟩ := h.row k x hk
  exact ⟨f, hf, hr 0 (.s f) rfl⟩
theorem q0j.at' {m : Mem} {s : Sl} {l : List Decl} (h : q0j m s l) {k : Nat} {x : Decl} (hk : l[k]? = some x) :
    ∃ f, ConSl m f x.cons /\ gcell m s.blk (s.off + k * 3) = some (vi x.frm) /\ gcell m s.blk (s.off + k * 3 + 1) = some (vi x.to) /\ gcell m s.blk (s.off + k * 3 + 2) = some (Sl.v f) := by
  obtain ⟨cs, ⟨f, rfl, hf⟩, hr⟩ := h.row k x hk
  exact ⟨f, hf, hr 0 (.i x.frm) rfl, hr 1 (.i x.to) rfl, hr 2 (.s f) rfl⟩
theorem q19.at' {m : Mem} {s : Sl} {l : List Instr} (h : q19 m s l) {k : Nat} {x : Instr} (hk : l[k]? = some x) :
    ∃ a j, q03 m a x.args /\ q03 m j x.jumps /\ gcell m s.blk (s.off + k * 6) = some (vi x.op) /\ gcell m s.blk (s.off + k * 6 + 1) = some (vi x.dst) /\ gcell m s.blk (s.off + k * 6 + 2) = some (vi x.num) /\
      gcell m s.blk (s.off + k * 6 + 3) = some (vi x.into) /\ gcell m s.blk (s.off + k * 6 + 4) = some (Sl.v a) /\ gcell m s.blk (s.off + k * 6 + 5) = some (Sl.v j) := by
  obtain ⟨cs, ⟨a, j, rfl, ha, hj⟩, hr⟩ := h.row k x hk
  exact ⟨a, j, ha, hj, hr 0 (.i x.op) rfl, hr 1 (.i x.dst) rfl, hr 2 (.i x.num) rfl, hr 3 (.i x.into) rfl, hr 4 (.s a) rfl, hr 5 (.s j) rfl⟩
theorem ProcSl.at' {m : Mem} {s : Sl} {l : List Proc} (h : ProcSl m s l) {k : Nat} {x : Proc} (hk : l[k]? = some x) :
    ∃ a b c, q03 m a x.params /\ q03 m b x.lent /\ q19 m c x.code /\ gcell m s.blk (s.off + k * 5) = some (Sl.v a) /\ gcell m s.blk (s.off + k * 5 + 1) = some (Sl.v b) /\ gcell m s.blk (s.off + k * 5 + 2) = some (vi x.result) /\
      gcell m s.blk (s.off + k * 5 + 3) = some (vi x.regs) /\ gcell m s.blk (s.off + k * 5 + 4) = some (Sl.v c) := by
  obtain ⟨cs, ⟨a, b, c, rfl, ha, hb, hc⟩, hr⟩ := h.row k x hk
  exact ⟨a, b, c, ha, hb, hc, hr 0 (.s a) rfl, hr 1 (.s b) rfl, hr 2 (.i x.result) rfl, hr 3 (.i x.regs) rfl, hr 4 (.s c) rfl⟩
end Go.Vc
end
namespace Go.Proofs.YtpggcodlaajceaaGreat
open Go.Vc
section
def TBL : TT := [(0, ⟨.tuple [], [], 0⟩),
  (3, ⟨.cell, [.I], 8⟩),
  (4, ⟨.cell, [.T], 1⟩),
  (22, ⟨.slice 109, [.S], 24⟩),
  (23, ⟨.slice 113, [.S], 24⟩),
  (25, ⟨.struct [(0, 22), (1, 23)], [.S, .S], 48⟩),
  (27, ⟨.slice 3, [.S], 24⟩),
  (29, ⟨.struct [(0, 3), (1, 3), (2, 3), (3, 27)], [.I, .I, .I, .S], 48⟩),
  (30, ⟨.tuple [29, 4], [], 0⟩),
  (32, ⟨.slice 122, [.S], 24⟩),
  (33, ⟨.slice 89, [.S], 24⟩),
  (35, ⟨.struct [(0, 32), (1, 33)], [.S, .S], 48⟩),
  (43, ⟨.struct [(0, 3), (1, 3), (2, 3), (3, 3), (4, 3), (5, 3), (6, 3), (7, 3)], [.I, .I, .I, .I, .I, .I, .I, .I], 64⟩),
  (44, ⟨.tuple [43, 4], [], 0⟩),
  (47, ⟨.slice 151, [.S], 24⟩),
  (48, ⟨.slice 153, [.S], 24⟩),
  (50, ⟨.struct [(0, 3), (1, 3), (2, 3), (3, 3), (4, 27), (5, 47), (6, 48)], [.I, .I, .I, .I, .S, .S, .S], 104⟩),
  (52, ⟨.slice 149, [.S], 24⟩),
  (53, ⟨.slice 84, [.S], 24⟩),
  (55, ⟨.struct [(0, 3), (1, 3), (2, 3), (3, 3), (4, 27), (5, 52), (6, 53)], [.I, .I, .I, .I, .S, .S, .S], 104⟩),
  (56, ⟨.tuple [55, 4], [], 0⟩),
  (74, ⟨.struct [(0, 35), (2, 3), (3, 55)], [.S, .S, .I, .I, .I, .I, .I, .S, .S, .S], 160⟩),
  (84, ⟨.struct [(0, 3), (1, 3), (2, 3), (3, 27), (4, 27), (5, 27)], [.I, .I, .I, .S, .S, .S], 96⟩),
  (86, ⟨.struct [(0, 3), (1, 3), (2, 3), (3, 3), (4, 27), (5, 27)], [.I, .I, .I, .I, .S, .S], 80⟩),
  (87, ⟨.slice 86, [.S], 24⟩),
  (89, ⟨.struct [(0, 27), (1, 27), (2, 3), (3, 3), (4, 87)], [.S, .S, .I, .I, .S], 88⟩),
  (94, ⟨.cell, [.P], 8⟩),
  (97, ⟨.struct [(0, 35), (2, 55)], [.S, .S, .I, .I, .I, .I, .S, .S, .S], 152⟩),
  (107, ⟨.slice 222, [.S], 24⟩),
  (109, ⟨.struct [(0, 3), (1, 3), (2, 107)], [.I, .I, .S], 40⟩),
  (111, ⟨.slice 224, [.S], 24⟩),
  (113, ⟨.struct [(0, 27), (1, 27), (2, 3), (3, 3), (4, 111)], [.S, .S, .I, .I, .S], 88⟩),
  (115, ⟨.slice 176, [.S], 24⟩),
  (117, ⟨.struct [(0, 32), (1, 115)], [.S, .S], 48⟩),
  (120, ⟨.slice 201, [.S], 24⟩),
  (122, ⟨.struct [(0, 3), (1, 3), (2, 120)], [.I, .I, .S], 40⟩),
  (125, ⟨.slice 183, [.S], 24⟩),
  (127, ⟨.struct [(0, 32), (1, 125)], [.S, .S], 48⟩),
  (128, ⟨.tuple [127, 4], [], 0⟩),
  (132, ⟨.cell, [.P], 8⟩),
  (133, ⟨.cell, [.P], 8⟩),
  (140, ⟨.cell, [.P], 8⟩),
  (142, ⟨.struct [(0, 3), (1, 3), (2, 3), (3, 3), (4, 3), (5, 3), (6, 3), (7, 3)], [.I, .I, .I, .I, .I, .I, .I, .I], 64⟩),
  (143, ⟨.tuple [3, 3], [], 0⟩),
  (146, ⟨.cell, [.P], 8⟩),
  (149, ⟨.struct [(0, 3), (1, 3), (2, 27)], [.I, .I, .S], 40⟩),
  (151, ⟨.struct [(0, 3), (1, 3), (2, 27)], [.I, .I, .S], 40⟩),
  (153, ⟨.struct [(0, 3), (1, 3), (2, 3), (3, 27), (4, 27), (5, 27)], [.I, .I, .I, .S, .S, .S], 96⟩),
  (159, ⟨.cell, [.F], 8⟩),
  (172, ⟨.slice 174, [.S], 24⟩),
  (174, ⟨.struct [(0, 3), (1, 3), (2, 172)], [.I, .I, .S], 40⟩),
  (176, ⟨.struct [(0, 27), (1, 3), (2, 174)], [.S, .I, .I, .I, .S], 72⟩),
  (183, ⟨.struct [(0, 27), (1, 27), (2, 3)], [.S, .S, .I], 56⟩),
  (188, ⟨.tuple [27, 27], [], 0⟩),
  (193, ⟨.slice 149, [.S], 24⟩),
  (201, ⟨.struct [(0, 27)], [.S], 24⟩),
  (217, ⟨.tuple [27, 4], [], 0⟩),
  (222, ⟨.struct [(0, 27)], [.S], 24⟩),
  (224, ⟨.struct [(0, 3), (1, 3), (2, 3), (3, 3), (4, 27), (5, 27)], [.I, .I, .I, .I, .S, .S], 80⟩),
  (232, ⟨.tuple [3, 4], [], 0⟩),
  (234, ⟨.cell, [.F], 8⟩),
  (235, ⟨.cell, [.P], 8⟩),
  (239, ⟨.slice 4, [.S], 24⟩),
  (244, ⟨.tuple [3, 201], [], 0⟩),
  (246, ⟨.map 3 3, [.M], 8⟩)]
abbrev qkf : Nat := 149
abbrev qf7 : Nat := 201
abbrev qdn : Nat := 122
abbrev q1g : Nat := 84
abbrev q62 : Nat := 176
abbrev qbc : Nat := 35
abbrev q1w : Nat := 86
abbrev q94 : Nat := 89
abbrev q5o : Nat := 117
abbrev q3i : Nat := 43
abbrev q16 : Nat := 193
abbrev q0f : Nat := 74
abbrev q73 : Nat := 183
abbrev q47 : Nat := 127
abbrev ty_int : Nat := 3
abbrev qcw : Nat := 142
abbrev q0g : Nat := 97
abbrev q83 : Nat := 4
abbrev q9r : Nat := 7
abbrev q4j : Nat := 9
abbrev qa4 : Nat := 12
abbrev q9x : Nat := 16
abbrev qa3 : Nat := 17
abbrev q9u : Nat := 18
abbrev qa6 : Nat := 28
abbrev q9q : Nat := 29
abbrev q6y : Nat := 30
abbrev q0n : Nat := 31
abbrev q9w : Nat := 34
abbrev q9o : Nat := 35
abbrev q6t : Nat := 36
abbrev q2q : Nat := 37
abbrev q3l : Nat := 38
abbrev q5j : Nat := 39
abbrev q3g : Nat := 40
abbrev q9k : Nat := 41
abbrev q9v : Nat := 42
abbrev qa5 : Nat := 47
abbrev q1n : Nat := 48
abbrev q38 : Nat := 49
abbrev q3h : Nat := 50
abbrev q5i : Nat := 55
abbrev q3j : Nat := 56
abbrev qbi : Nat := 68
abbrev qbd : Nat := 69
abbrev q7v : Nat := 70
abbrev q6a : Nat := 71
abbrev q7q : Nat := 72
abbrev q3b : Nat := 73
abbrev q70 : Nat := 74
abbrev qbl : Nat := 75
abbrev qb4 : Nat := 76
abbrev q7n : Nat := 77
abbrev q31 : Nat := 78
abbrev q5m : Nat := 79
abbrev q36 : Nat := 80
abbrev q3k : Nat := 81
abbrev qb3 : Nat := 82
abbrev qb7 : Nat := 83
abbrev q50 : Nat := 86
abbrev q4z : Nat := 87
abbrev q7m : Nat := 88
abbrev qba : Nat := 97
abbrev q5r : Nat := 98
abbrev q6i : Nat := 99
abbrev q3c : Nat := 100
abbrev q32 : Nat := 101
abbrev q1x : Nat := 105
abbrev qbe : Nat := 110
abbrev q97 : Nat := 111
abbrev q6s : Nat := 112
abbrev q5q : Nat := 113
abbrev q7o : Nat := 114
abbrev q6z : Nat := 115
abbrev q2y : Nat := 116
abbrev qb9 : Nat := 117
abbrev q8t : Nat := 118
abbrev q7z : Nat := 119
abbrev q3z : Nat := 120
abbrev q0u : Nat := 121
abbrev q18 : Nat := 122
abbrev q1e : Nat := 123
abbrev q1v : Nat := 124
abbrev q25 : Nat := 125
abbrev q2w : Nat := 126
abbrev q4p : Nat := 127
abbrev q3o : Nat := 128
abbrev q6j : Nat := 129
abbrev q45 : Nat := 130
abbrev q3n : Nat := 131
abbrev q4g : Nat := 132
abbrev q1f : Nat := 133
abbrev q3w : Nat := 134
abbrev q28 : Nat := 135
abbrev q26 : Nat := 136
abbrev q7s : Nat := 137
abbrev q5g : Nat := 138
abbrev q2x : Nat := 139
abbrev q34 : Nat := 140
abbrev q59 : Nat := 141
abbrev q2b : Nat := 142
abbrev q27 : Nat := 143
abbrev q41 : Nat := 144
abbrev qb0 : Nat := 145
abbrev q8n : Nat := 146
abbrev q7l : Nat := 147
abbrev q1u : Nat := 148
abbrev q1h : Nat := 153
abbrev q8o : Nat := 155
abbrev q4l : Nat := 156
abbrev q5h : Nat := 157
abbrev qac : Nat := 158
abbrev q6v : Nat := 159
abbrev q42 : Nat := 160
abbrev q2v : Nat := 161
abbrev q3v : Nat := 162
abbrev q44 : Nat := 163
abbrev q2t : Nat := 164
abbrev q0w : Nat := 165
abbrev q4h : Nat := 166
abbrev q5d : Nat := 167
abbrev q7k : Nat := 168
abbrev q1q : Nat := 169
abbrev qf6 : Nat := 170
abbrev q2n : Nat := 171
abbrev q48 : Nat := 172
abbrev q4x : Nat := 173
abbrev q4y : Nat := 174
abbrev q3p : Nat := 175
abbrev q0m : Nat := 176
abbrev q80 : Nat := 177
abbrev q43 : Nat := 178
abbrev q2l : Nat := 179
abbrev q39 : Nat := 180
abbrev qcc : Nat := 187
abbrev qa8 : Nat := 188
abbrev q7y : Nat := 189
abbrev q6e : Nat := 190
abbrev q7p : Nat := 191
abbrev q5k : Nat := 192
abbrev q71 : Nat := 193
abbrev q4m : Nat := 194
abbrev qdb : Nat := 195
abbrev q9z : Nat := 196
abbrev q6w : Nat := 197
abbrev q5l : Nat := 198
abbrev q46 : Nat := 199
abbrev q3d : Nat := 200
abbrev q95 : Nat := 201
abbrev q23 : Nat := 202
abbrev q2u : Nat := 203
abbrev q7r : Nat := 204
abbrev q1s : Nat := 205
abbrev q4c : Nat := 206
abbrev q72 : Nat := 207
abbrev qf2 : Nat := 208
abbrev q74 : Nat := 209
abbrev q52 : Nat := 210
abbrev qdo : Nat := 211
abbrev qa7 : Nat := 212
abbrev q9j : Nat := 215
abbrev q2p : Nat := 216
abbrev q3m : Nat := 217
abbrev q91 : Nat := 218
abbrev q4n : Nat := 219
abbrev q5x : Nat := 220
abbrev q7w : Nat := 221
abbrev qck : Nat := 222
abbrev qbf : Nat := 223
abbrev q3a : Nat := 224
abbrev q79 : Nat := 225
abbrev q22 : Nat := 226
abbrev qct : Nat := 228
abbrev q1z : Nat := 229
abbrev q2c : Nat := 230
theorem tbl_ok : TOK Tryz.prog TBL := by
  unfold TOK
  kernel_rfl
def GL : List Nat := [3, 4, 5, 6, 7, 8, 9, 10, 11, 12, 13, 14, 15, 16, 17, 18, 19, 20, 21, 22, 23, 24, 25, 26, 27, 28, 29, 30, 31, 32, 33, 34, 35, 36, 37, 38, 39, 40, 41, 42, 43, 44, 45, 46, 47, 48, 49, 50, 51, 52, 53, 54, 55, 56, 57, 58, 59, 60, 61, 62, 63, 64, 65, 66, 67, 68, 69, 70, 71, 72, 73, 74, 75, 76, 77, 78, 79, 80, 81, 82, 83, 84, 85, 86, 87, 88, 89, 90, 91, 92, 93, 94, 95, 96, 97, 98, 99, 100, 101, 102, 103, 104, 105, 106, 107, 108, 109, 110, 111, 112, 113, 114, 115, 116, 117, 118, 119, 120, 121, 122, 123, 124, 125, 126, 127, 128, 129, 130, 131, 132, 133, 134, 135, 136, 137, 138, 139, 140, 141, 142, 143, 144, 145, 146, 147, 148, 149, 150, 151, 152, 153, 154, 155, 156, 157, 158, 159, 160, 161, 162, 163, 164, 165, 166, 167, 168, 169, 170, 171, 172, 173, 174, 175, 176, 177, 178, 179, 180, 181, 182, 183, 184, 185, 186, 187, 188, 189, 190, 191, 192, 193, 194, 195, 196, 197, 198, 199, 200, 201, 202, 203, 204, 205, 206, 207, 208, 209, 210, 211, 212, 213, 214, 215, 216, 217, 218, 219, 220, 221, 222, 223, 224, 225, 226, 227, 228, 229, 230, 231]
theorem gok : GOK Tryz.prog GL := by
  unfold GOK
  kernel_rfl
theorem mix : Tryz.prog.follows .mixedOrders = true := by kernel_rfl
theorem vcs {A : Ann} {n : Nat} {rs : List ResultVar} {c : Code} {args : List SV} {f : FuncId} {fn : Func} {m : Mem} {R : Value -> Mem -> Prop} {X : Prop} (hf : Tryz.prog.funcs[f]? = some fn) (hvc : X)
    (hb : fn.body = some c := by kernel_rfl) (hn : fn.ntmps = n := by kernel_rfl) (hrs : fn.results = rs.toArray := by kernel_rfl) (hargs : args.all SV.known = true := by kernel_rfl) (hle : args.length <= n := by simp)
    (he : X = vcFn Tryz.prog TBL GL A n rs c args m R := by kernel_rfl) : q00 Tryz.prog f (args.map SV.v) m R :=
  qs8 tbl_ok gok mix hf hb hn hrs hargs hle (Eq.mp he hvc)
end
section
set_option linter.unusedVariables false
set_option maxRecDepth 100000
def q75 (aIm_0 aIm_1 : Sl) (aMost : Int) (m : Mem) (R : Value -> Mem -> Prop) : Prop :=
 let m1 : Mem := m.push (.cells (vals [.s aIm_0, .s aIm_1]) 25)
 eqT m.size m.size (
 q00 Tryz.prog q9r [.agg #[Sl.v aIm_0, Sl.v aIm_1], vi 1048576] m1 fun r m1_1 =>
 Sam [m.size] m1 m1_1 /\
 ∃ r13 : Int, r = vi r13 /\
 ((decide (r13 < 0)) = true ->
 R (vb true) m1_1) /\
 ((decide (r13 < 0)) = false ->
 eqT m.size m.size (
 q00 Tryz.prog q4j [.agg #[Sl.v aIm_0, Sl.v aIm_1]] m1_1 fun r_1 m1_2 =>
 Sam [m.size] m1_1 m1_2 /\
 ∃ r_0 : Sl, ∃ r_1_1 : Sl, r_1 = .agg #[Sl.v r_0, Sl.v r_1_1] /\
 q00 Tryz.prog q9x [.agg #[Sl.v r_0, Sl.v r_1_1], vi aMost] m1_2 fun r_2 m1_3 =>
 Sam [m.size] m1_2 m1_3 /\
 ∃ r_0_1 : Int, ∃ r_1_2 : Int, ∃ r_2_1 : Int, ∃ r_3 : Int, ∃ r_4 : Int, ∃ r_5 : Int, ∃ r_6 : Int, ∃ r_7 : Int, ∃ r20 : Bool, r_2 = .tuple #[.agg #[vi r_0_1, vi r_1_2, vi r_2_1, vi r_3, vi r_4, vi r_5, vi r_6, vi r_7], vb r20] /\
 let m1_4 : Mem := m1_3.push (.cells (vals [.i 0, .i 0, .i 0, .i 0, .i 0, .i 0, .i 0, .i 0]) 43)
 eqT m1_3.size m1_3.size (
 let m1_5 : Mem := scells m1_4 m1_3.size 0 [.i r_0_1, .i r_1_2, .i r_2_1, .i r_3, .i r_4, .i r_5, .i r_6, .i r_7]
 eqT m.size m.size (
 q00 Tryz.prog q4j [.agg #[Sl.v aIm_0, Sl.v aIm_1]] m1_5 fun r_8 m1_6 =>
 Sam [m1_3.size, m.size] m1_5 m1_6 /\
 ∃ r_0_2 : Sl, ∃ r_1_3 : Sl, r_8 = .agg #[Sl.v r_0_2, Sl.v r_1_3] /\
 let m1_7 : Mem := m1_6.push (.cells (vals [.s Sl.nil, .s Sl.nil]) 35)
 eqT m1_6.size m1_6.size (
 let m1_8 : Mem := scells m1_7 m1_6.size 0 [.s r_0_2, .s r_1_3]
 eqT m1_6.size m1_6.size (
 q00 Tryz.prog qa3 [.agg #[Sl.v r_0_2, Sl.v r_1_3], vi aMost] m1_8 fun r_9 m1_9 =>
 Sam [m1_6.size, m1_3.size, m.size] m1_8 m1_9 /\
 ∃ r_0_3 : Int, ∃ r_1_4 : Int, ∃ r_2_2 : Int, ∃ r_3_1 : Int, ∃ r_4_1 : Int, ∃ r_5_1 : Int, ∃ r_6_1 : Int, ∃ r_7_1 : Int, ∃ r28 : Bool, r_9 = .tuple #[.agg #[vi r_0_3, vi r_1_4, vi r_2_2, vi r_3_1, vi r_4_1, vi r_5_1, vi r_6_1, vi r_7_1], vb r28] /\
 let m1_10 : Mem := m1_9.push (.cells (vals [.i 0, .i 0, .i 0, .i 0, .i 0, .i 0, .i 0, .i 0]) 43)
 eqT m1_9.size m1_9.size (
 let m1_11 : Mem := scells m1_10 m1_9.size 0 [.i r_0_3, .i r_1_4, .i r_2_2, .i r_3_1, .i r_4_1, .i r_5_1, .i r_6_1, .i r_7_1]
 eqT m1_9.size m1_9.size (
 eqT m1_3.size m1_3.size (
 q00 Tryz.prog q9u [.agg #[vi r_0_3, vi r_1_4, vi r_2_2, vi r_3_1, vi r_4_1, vi r_5_1, vi r_6_1, vi r_7_1], .agg #[vi r_0_1, vi r_1_2, vi r_2_1, vi r_3, vi r_4, vi r_5, vi r_6, vi r_7]] m1_11 fun r_10 m1_12 =>
 Sam [m1_9.size, m1_6.size, m1_3.size, m.size] m1_11 m1_12 /\
 ∃ r33 : Bool, r_10 = vb r33 /\
 ((!r33) = true ->
 R (vb false) m1_12) /\
 ((!r33) = false ->
 ((!(r28 == r20)) = true ->
 R (vb false) m1_12) /\
 ((!(r28 == r20)) = false ->
 eqT m1_6.size m1_6.size (
 eqT m.size m.size (
 q00 Tryz.prog q4j [.agg #[Sl.v aIm_0, Sl.v aIm_1]] m1_12 fun r_11 m1_13 =>
 Sam [m1_9.size, m1_6.size, m1_3.size, m.size] m1_12 m1_13 /\
 ∃ r_0_4 : Sl, ∃ r_1_5 : Sl, r_11 = .agg #[Sl.v r_0_4, Sl.v r_1_5] /\
 gcell m1_13 m1_6.size 0 = gcell m1_12 m1_6.size 0 /\
 gcell m1_13 m1_6.size 1 = gcell m1_12 m1_6.size 1 /\
 q00 Tryz.prog qa4 [.agg #[Sl.v r_0_2, Sl.v r_1_3], .agg #[Sl.v r_0_4, Sl.v r_1_5]] m1_13 fun r_12 m1_14 =>
 Sam [m1_9.size, m1_6.size, m1_3.size, m.size] m1_13 m1_14 /\
 ∃ r43 : Bool, r_12 = vb r43 /\
 ((!r43) = true ->
 R (vb false) m1_14) /\
 ((!r43) = false ->
 R (vb true) m1_14)))))))))))))))
theorem qc2 (aIm_0 aIm_1 : Sl) (aMost : Int) (m : Mem) (R : Value -> Mem -> Prop) (hvc : q75 aIm_0 aIm_1 aMost m R) : q00 Tryz.prog q83 [.agg #[Sl.v aIm_0, Sl.v aIm_1], vi aMost] m R :=
 vcs (A := ⟨[(10, [0, 0, 2, 5, 8], [0, 0, 2, 7, 15])], [], [], []⟩) (n := 45) (rs := [.tmp 4]) (args := [.agg [.s aIm_0, .s aIm_1], .c (.i aMost)]) (c := q05 Tryz.f4) Tryz.func4 hvc
end
section
set_option linter.unusedVariables false
set_option maxRecDepth 100000

end
section
set_option linter.unusedVariables false
set_option maxRecDepth 100000

end
section
set_option linter.unusedVariables false
set_option maxRecDepth 100000
def qel (a_0 a_1 : Sl) (left : Int) (m : Mem) (R : Value -> Mem -> Prop) : Prop :=
 let m1 : Mem := m.push (.cells (vals [.s a_0, .s a_1]) 25)
 eqT m.size m.size (
 q00 Tryz.prog qa6 [Sl.v a_0, vi left] m1 fun r m1_1 =>
 Sam [m.size] m1 m1_1 /\
 ∃ r8 : Int, r = vi r8 /\
 ((decide (r8 < 0)) = true ->
 R (vi (-1)) m1_1) /\
 ((decide (r8 < 0)) = false ->
 eqT m.size m.size (
 q00 Tryz.prog q9q [Sl.v a_1, vi r8] m1_1 fun r_1 m1_2 =>
 Sam [m.size] m1_1 m1_2 /\
 ∃ r14 : Int, r_1 = vi r14 /\
 ((decide (r14 < 0)) = true ->
 R (vi (-1)) m1_2) /\
 ((decide (r14 < 0)) = false ->
 R (vi r14) m1_2))))
theorem qjj (a_0 a_1 : Sl) (left : Int) (m : Mem) (R : Value -> Mem -> Prop) (hvc : qel a_0 a_1 left m R) : q00 Tryz.prog q9r [.agg #[Sl.v a_0, Sl.v a_1], vi left] m R :=
 vcs (A := ⟨[], [], [], []⟩) (n := 18) (rs := [.tmp 4]) (args := [.agg [.s a_0, .s a_1], .c (.i left)]) (c := q05 Tryz.f7) Tryz.func7 hvc
def qec (a_0 a_1 : Sl) (m : Mem) (R : Value -> Mem -> Prop) : Prop :=
 let m1 : Mem := m.push (.cells (vals [.s a_0, .s a_1]) 25)
 let m1_1 : Mem := m1.push (.cells (vals [.s Sl.nil, .s Sl.nil]) 35)
 let m1_2 : Mem := m1_1.push (.cells (vals [.s Sl.nil, .s Sl.nil]) 35)
 eqT m.size m.size (
 q00 Tryz.prog q9w [Sl.v a_0] m1_2 fun r m1_3 =>
 Sam [m1_1.size, m1.size, m.size] m1_2 m1_3 /\
 ∃ r6 : Sl, r = Sl.v r6 /\
 eqT m1_1.size m1_1.size (
 let m1_4 : Mem := scells m1_3 m1_1.size 0 [.s r6]
 eqT m.size m.size (
 q00 Tryz.prog q9o [Sl.v a_1] m1_4 fun r_1 m1_5 =>
 Sam [m1_1.size, m1.size, m.size] m1_4 m1_5 /\
 ∃ r10 : Sl, r_1 = Sl.v r10 /\
 eqT m1_1.size m1_1.size (
 let m1_6 : Mem := scells m1_5 m1_1.size 1 [.s r10]
 eqT m1_1.size m1_1.size (
 eqT m1.size m1.size (
 let m1_7 : Mem := scells m1_6 m1.size 0 [.s r6, .s r10]
 eqT m1.size m1.size (
 R (.agg #[Sl.v r6, Sl.v r10]) m1_7)))))))
theorem qk1 (a_0 a_1 : Sl) (m : Mem) (R : Value -> Mem -> Prop) (hvc : qec a_0 a_1 m R) : q00 Tryz.prog q4j [.agg #[Sl.v a_0, Sl.v a_1]] m R :=
 vcs (A := ⟨[], [], [], []⟩) (n := 13) (rs := [.cell 2 35]) (args := [.agg [.s a_0, .s a_1]]) (c := q05 Tryz.f9) Tryz.func9 hvc
def qep (a_0 a_1 b_0 b_1 : Sl) (m : Mem) (R : Value -> Mem -> Prop) : Prop :=
 let m1 : Mem := m.push (.cells (vals [.s a_0, .s a_1]) 35)
 let m1_1 : Mem := m1.push (.cells (vals [.s b_0, .s b_1]) 35)
 eqT m.size m.size (
 eqT m1.size m1.size (
 q00 Tryz.prog q9k [Sl.v a_0, Sl.v b_0] m1_1 fun r m1_2 =>
 Sam [m1.size, m.size] m1_1 m1_2 /\
 ∃ r9 : Bool, r = vb r9 /\
 ((!r9) = true ->
 R (vb false) m1_2) /\
 ((!r9) = false ->
 eqT m.size m.size (
 eqT m1.size m1.size (
 q00 Tryz.prog q9v [Sl.v a_1, Sl.v b_1] m1_2 fun r_1 m1_3 =>
 Sam [m1.size, m.size] m1_2 m1_3 /\
 ∃ r15 : Bool, r_1 = vb r15 /\
 ((!r15) = true ->
 R (vb false) m1_3) /\
 ((!r15) = false ->
 R (vb true) m1_3))))))
theorem qkd (a_0 a_1 b_0 b_1 : Sl) (m : Mem) (R : Value -> Mem -> Prop) (hvc : qep a_0 a_1 b_0 b_1 m R) : q00 Tryz.prog qa4 [.agg #[Sl.v a_0, Sl.v a_1], .agg #[Sl.v b_0, Sl.v b_1]] m R :=
 vcs (A := ⟨[], [], [], []⟩) (n := 17) (rs := [.tmp 4]) (args := [.agg [.s a_0, .s a_1], .agg [.s b_0, .s b_1]]) (c := q05 Tryz.f12) Tryz.func12 hvc
def qet (im_0 im_1 : Sl) (most : Int) (m : Mem) (R : Value -> Mem -> Prop) : Prop :=
 let m1 : Mem := m.push (.cells (vals [.s im_0, .s im_1]) 35)
 let m1_1 : Mem := m1.push (.cells (vals [.i 0, .i 0, .i 0, .i 0, .i 0, .i 0, .i 0, .i 0]) 43)
 eqT m.size m.size (
 q00 Tryz.prog q6y [.agg #[Sl.v im_0, Sl.v im_1]] m1_1 fun r m1_2 =>
 Sam [m1.size, m.size] m1_1 m1_2 /\
 ∃ r7 : Bool, r = vb r7 /\
 ((!r7) = true ->
 eqT m1.size m1.size (
 let m1_3 : Mem := scells m1_2 m1.size 0 [.i 0, .i 0, .i 0, .i 0, .i 0, .i 0, .i 0, .i 0]
 eqT m1.size m1.size (
 R (.tuple #[.agg #[vi 0, vi 0, vi 0, vi 0, vi 0, vi 0, vi 0, vi 0], vb false]) m1_3))) /\
 ((!r7) = false ->
 q00 Tryz.prog q0n [vi most, vi 0, vi 40] m1_2 fun r_1 m1_4 =>
 Sam [m1.size, m.size] m1_2 m1_4 /\
 ∃ r11 : Bool, r_1 = vb r11 /\
 ((!r11) = true ->
 eqT m1.size m1.size (
 let m1_5 : Mem := scells m1_4 m1.size 0 [.i 0, .i 0, .i 0, .i 0, .i 0, .i 0, .i 0, .i 0]
 eqT m1.size m1.size (
 R (.tuple #[.agg #[vi 0, vi 0, vi 0, vi 0, vi 0, vi 0, vi 0, vi 0], vb false]) m1_5))) /\
 ((!r11) = false ->
 eqT m.size m.size (
 q00 Tryz.prog qa5 [.agg #[Sl.v im_0, Sl.v im_1], vi most] m1_4 fun r_2 m1_6 =>
 Sam [m1.size, m.size] m1_4 m1_6 /\
 ∃ r_0 : Int, ∃ r_1_1 : Int, ∃ r_2_1 : Int, ∃ r_3 : Int, ∃ r_4 : Int, ∃ r_5 : Int, ∃ r_6 : Int, ∃ r_7 : Int, r_2 = .agg #[vi r_0, vi r_1_1, vi r_2_1, vi r_3, vi r_4, vi r_5, vi r_6, vi r_7] /\
 eqT m1.size m1.size (
 let m1_7 : Mem := scells m1_6 m1.size 0 [.i r_0, .i r_1_1, .i r_2_1, .i r_3, .i r_4, .i r_5, .i r_6, .i r_7]
 eqT m1.size m1.size (
 R (.tuple #[.agg #[vi r_0, vi r_1_1, vi r_2_1, vi r_3, vi r_4, vi r_5, vi r_6, vi r_7], vb true]) m1_7))))))
theorem qjy (im_0 im_1 : Sl) (most : Int) (m : Mem) (R : Value -> Mem -> Prop) (hvc : qet im_0 im_1 most m R) : q00 Tryz.prog q9x [.agg #[Sl.v im_0, Sl.v im_1], vi most] m R :=
 vcs (A := ⟨[], [], [], []⟩) (n := 18) (rs := [.cell 4 43, .tmp 5]) (args := [.agg [.s im_0, .s im_1], .c (.i most)]) (c := q05 Tryz.f16) Tryz.func16 hvc
end
section
set_option linter.unusedVariables false
set_option maxRecDepth 100000

end
section
set_option linter.unusedVariables false
set_option maxRecDepth 100000
def qe8 (a_0 a_1 a_2 a_3 a_4 a_5 a_6 a_7 b_0 b_1 b_2 b_3 b_4 b_5 b_6 b_7 : Int) (m : Mem) (R : Value -> Mem -> Prop) : Prop :=
 let m1 : Mem := m.push (.cells (vals [.i a_0, .i a_1, .i a_2, .i a_3, .i a_4, .i a_5, .i a_6, .i a_7]) 43)
 let m1_1 : Mem := m1.push (.cells (vals [.i b_0, .i b_1, .i b_2, .i b_3, .i b_4, .i b_5, .i b_6, .i b_7]) 43)
 eqT m.size m.size (
 eqT m1.size m1.size (
 ((a_0 != b_0) = true ->
 R (vb false) m1_1) /\
 ((a_0 != b_0) = false ->
 eqT m.size m.size (
 eqT m1.size m1.size (
 ((a_1 != b_1) = true ->
 R (vb false) m1_1) /\
 ((a_1 != b_1) = false ->
 eqT m.size m.size (
 eqT m1.size m1.size (
 ((a_2 != b_2) = true ->
 R (vb false) m1_1) /\
 ((a_2 != b_2) = false ->
 eqT m.size m.size (
 eqT m1.size m1.size (
 ((a_3 != b_3) = true ->
 R (vb false) m1_1) /\
 ((a_3 != b_3) = false ->
 eqT m.size m.size (
 eqT m1.size m1.size (
 ((a_4 != b_4) = true ->
 R (vb false) m1_1) /\
 ((a_4 != b_4) = false ->
 eqT m.size m.size (
 eqT m1.size m1.size (
 ((a_5 != b_5) = true ->
 R (vb false) m1_1) /\
 ((a_5 != b_5) = false ->
 eqT m.size m.size (
 eqT m1.size m1.size (
 ((a_6 != b_6) = true ->
 R (vb false) m1_1) /\
 ((a_6 != b_6) = false ->
 eqT m.size m.size (
 eqT m1.size m1.size (
 ((a_7 != b_7) = true ->
 R (vb false) m1_1) /\
 ((a_7 != b_7) = false ->
 R (vb true) m1_1))))))))))))))))))))))))
theorem qjo (a_0 a_1 a_2 a_3 a_4 a_5 a_6 a_7 b_0 b_1 b_2 b_3 b_4 b_5 b_6 b_7 : Int) (m : Mem) (R : Value -> Mem -> Prop) (hvc : qe8 a_0 a_1 a_2 a_3 a_4 a_5 a_6 a_7 b_0 b_1 b_2 b_3 b_4 b_5 b_6 b_7 m R) : q00 Tryz.prog q9u [.agg #[vi a_0, vi a_1, vi a_2, vi a_3, vi a_4, vi a_5, vi a_6, vi a_7], .agg #[vi b_0, vi b_1, vi b_2, vi b_3, vi b_4, vi b_5, vi b_6, vi b_7]] m R :=
 vcs (A := ⟨[], [], [], []⟩) (n := 45) (rs := [.tmp 4]) (args := [.agg [.i a_0, .i a_1, .i a_2, .i a_3, .i a_4, .i a_5, .i a_6, .i a_7], .agg [.i b_0, .i b_1, .i b_2, .i b_3, .i b_4, .i b_5, .i b_6, .i b_7]]) (c := q05 Tryz.f18) Tryz.func18 hvc
end
section
set_option linter.unusedVariables false
set_option maxRecDepth 100000
def qe7 (a : Sl) (left : Int) (m : Mem) (R : Value -> Mem -> Prop) : Prop :=
 ((decide ((w64 (left - (a.len : Int))) < 0)) = true ->
 R (vi (-1)) m) /\
 ((decide ((w64 (left - (a.len : Int))) < 0)) = false ->
 ∃ (I0 : Int -> Int -> Mem -> Prop) (μ0 : Int -> Int -> Mem -> Nat),
 I0 (w64 (left - (a.len : Int))) 0 m /\
 (∀ (left_1 : Int) (i : Int) (m1 : Mem), I0 left_1 i m1 ->
 ((decide (i < (a.len : Int))) = true ->
 0 <= i /\ i < (a.len : Int) /\
 ∃ v21_0 : Int, gcell m1 a.blk (a.off + Int.toNat i * 3) = some (vi v21_0) /\
 ∃ v21_1 : Int, gcell m1 a.blk (a.off + Int.toNat i * 3 + 1) = some (vi v21_1) /\
 ∃ v21_2 : Sl, gcell m1 a.blk (a.off + Int.toNat i * 3 + 2) = some (Sl.v v21_2) /\
 q00 Tryz.prog qbi [.agg #[vi v21_0, vi v21_1, Sl.v v21_2], vi left_1] m1 fun r m1_1 =>
 ∃ r23 : Int, r = vi r23 /\
 ((decide (r23 < 0)) = true ->
 R (vi (-1)) m1_1) /\
 ((decide (r23 < 0)) = false ->
 I0 r23 (w64 (i + 1)) m1_1 /\ μ0 r23 (w64 (i + 1)) m1_1 < μ0 left_1 i m1)) /\
 ((decide (i < (a.len : Int))) = false ->
 R (vi left_1) m1)))
theorem qjd (a : Sl) (left : Int) (m : Mem) (R : Value -> Mem -> Prop) (hvc : qe7 a left m R) : q00 Tryz.prog qa6 [Sl.v a, vi left] m R :=
 vcs (A := ⟨[], [(5, [(1, .I), (5, .I)])], [], []⟩) (n := 27) (rs := [.tmp 4]) (args := [.c (.s a), .c (.i left)]) (c := q05 Tryz.f28) Tryz.func28 hvc
def qen (a : Sl) (left : Int) (m : Mem) (R : Value -> Mem -> Prop) : Prop :=
 ((decide ((w64 (left - (a.len : Int))) < 0)) = true ->
 R (vi (-1)) m) /\
 ((decide ((w64 (left - (a.len : Int))) < 0)) = false ->
 ∃ (I0 : Int -> Int -> Mem -> Prop) (μ0 : Int -> Int -> Mem -> Nat),
 I0 (w64 (left - (a.len : Int))) 0 m /\
 (∀ (left_1 : Int) (i : Int) (m1 : Mem), I0 left_1 i m1 ->
 ((decide (i < (a.len : Int))) = true ->
 0 <= i /\ i < (a.len : Int) /\
 ∃ v21_0 : Sl, gcell m1 a.blk (a.off + Int.toNat i * 5) = some (Sl.v v21_0) /\
 ∃ v21_1 : Sl, gcell m1 a.blk (a.off + Int.toNat i * 5 + 1) = some (Sl.v v21_1) /\
 ∃ v21_2 : Int, gcell m1 a.blk (a.off + Int.toNat i * 5 + 2) = some (vi v21_2) /\
 ∃ v21_3 : Int, gcell m1 a.blk (a.off + Int.toNat i * 5 + 3) = some (vi v21_3) /\
 ∃ v21_4 : Sl, gcell m1 a.blk (a.off + Int.toNat i * 5 + 4) = some (Sl.v v21_4) /\
 q00 Tryz.prog qbd [.agg #[Sl.v v21_0, Sl.v v21_1, vi v21_2, vi v21_3, Sl.v v21_4], vi left_1] m1 fun r m1_1 =>
 ∃ r23 : Int, r = vi r23 /\
 ((decide (r23 < 0)) = true ->
 R (vi (-1)) m1_1) /\
 ((decide (r23 < 0)) = false ->
 I0 r23 (w64 (i + 1)) m1_1 /\ μ0 r23 (w64 (i + 1)) m1_1 < μ0 left_1 i m1)) /\
 ((decide (i < (a.len : Int))) = false ->
 R (vi left_1) m1)))
theorem qil (a : Sl) (left : Int) (m : Mem) (R : Value -> Mem -> Prop) (hvc : qen a left m R) : q00 Tryz.prog q9q [Sl.v a, vi left] m R :=
 vcs (A := ⟨[], [(5, [(1, .I), (5, .I)])], [], []⟩) (n := 27) (rs := [.tmp 4]) (args := [.c (.s a), .c (.i left)]) (c := q05 Tryz.f29) Tryz.func29 hvc
def qap (im_0 im_1 : Sl) (m : Mem) (R : Value -> Mem -> Prop) : Prop :=
 let m1 : Mem := m.push (.cells (vals [.s im_0, .s im_1]) 35)
 eqT m.size m.size (
 ((decide ((im_1.len : Int) > 4)) = true ->
 R (vb false) m1) /\
 ((decide ((im_1.len : Int) > 4)) = false ->
 eqT m.size m.size (
 q00 Tryz.prog q6a [.agg #[Sl.v im_0, Sl.v im_1]] m1 fun r m1_1 =>
 Sam [m.size] m1 m1_1 /\
 ∃ r_0 : Sl, ∃ r_1 : Sl, r = .agg #[Sl.v r_0, Sl.v r_1] /\
 q00 Tryz.prog q7v [.agg #[Sl.v r_0, Sl.v r_1]] m1_1 fun r_2 m1_2 =>
 Sam [m.size] m1_1 m1_2 /\
 ∃ r11 : Bool, r_2 = vb r11 /\
 ((!r11) = true ->
 R (vb false) m1_2) /\
 ((!r11) = false ->
 ∃ (I0 : Int -> Mem -> Prop) (μ0 : Int -> Mem -> Nat),
 I0 0 m1_2 /\
 (∀ (i : Int) (m1_3 : Mem), I0 i m1_3 ->
 eqT m.size m.size (
 ((decide (i < (im_1.len : Int))) = true ->
 eqT m.size m.size (
 eqT m.size m.size (
 0 <= i /\ i < (im_1.len : Int) /\
 ∃ v26_0 : Sl, gcell m1_3 im_1.blk (im_1.off + Int.toNat i * 5) = some (Sl.v v26_0) /\
 ∃ v26_1 : Sl, gcell m1_3 im_1.blk (im_1.off + Int.toNat i * 5 + 1) = some (Sl.v v26_1) /\
 ∃ v26_2 : Int, gcell m1_3 im_1.blk (im_1.off + Int.toNat i * 5 + 2) = some (vi v26_2) /\
 ∃ v26_3 : Int, gcell m1_3 im_1.blk (im_1.off + Int.toNat i * 5 + 3) = some (vi v26_3) /\
 ∃ v26_4 : Sl, gcell m1_3 im_1.blk (im_1.off + Int.toNat i * 5 + 4) = some (Sl.v v26_4) /\
 q00 Tryz.prog q7q [.agg #[Sl.v im_0, Sl.v im_1], .agg #[Sl.v v26_0, Sl.v v26_1, vi v26_2, vi v26_3, Sl.v v26_4]] m1_3 fun r_3 m1_4 =>
 Sam [m.size] m1_3 m1_4 /\
 ∃ r27 : Bool, r_3 = vb r27 /\
 ((!r27) = true ->
 R (vb false) m1_4) /\
 ((!r27) = false ->
 eqS (SV.box m.size 35 [.s im_0, .s im_1]) (SV.box m.size 35 [.s im_0, .s im_1]) (
 I0 (w64 (i + 1)) m1_4 /\ μ0 (w64 (i + 1)) m1_4 < μ0 i m1_3))))) /\
 ((decide (i < (im_1.len : Int))) = false ->
 R (vb true) m1_3)))))))
theorem qgf (im_0 im_1 : Sl) (m : Mem) (R : Value -> Mem -> Prop) (hvc : qap im_0 im_1 m R) : q00 Tryz.prog q6y [.agg #[Sl.v im_0, Sl.v im_1]] m R :=
 vcs (A := ⟨[(6, [0, 0, 2, 0, 12, 16, 33, 64], [0, 0, 2, 0, 14, 30, 63, 127])], [(4, [(3, .I)])], [], [(4, [30])]⟩) (n := 29) (rs := [.tmp 2]) (args := [.agg [.s im_0, .s im_1]]) (c := q05 Tryz.f30) Tryz.func30 hvc
def qna (n low high : Int) (m : Mem) (R : Value -> Mem -> Prop) : Prop :=
 ((decide (low <= n)) = true ->
 R (vb (decide (n <= high))) m) /\
 ((decide (low <= n)) = false ->
 R (vb false) m)
theorem qjn (n low high : Int) (m : Mem) (R : Value -> Mem -> Prop) (hvc : qna n low high m R) : q00 Tryz.prog q0n [vi n, vi low, vi high] m R :=
 vcs (A := ⟨[], [], [], []⟩) (n := 15) (rs := [.tmp 6]) (args := [.c (.i n), .c (.i low), .c (.i high)]) (c := q05 Tryz.f31) Tryz.func31 hvc
def qe3 (a : Sl) (m : Mem) (R : Value -> Mem -> Prop) : Prop :=
 0 <= (a.len : Int) /\ (a.len : Int) <= (a.len : Int) /\ ((40 : Nat) : Int) * (a.len : Int) <= 281474976710656 /\ (a.len : Int) <= 9223372036854775807 /\
 let m1 : Mem := m.push (.cells (vals (zrow [.i 0, .i 0, .s Sl.nil] (Int.toNat (a.len : Int)))) 122)
 ∃ (I0 : Int -> Mem -> Prop) (μ0 : Int -> Mem -> Nat),
 I0 0 m1 /\
 (∀ (i : Int) (m1_1 : Mem), I0 i m1_1 ->
 ((decide (i < (a.len : Int))) = true ->
 0 <= i /\ i < (a.len : Int) /\
 ∃ v19_0 : Int, gcell m1_1 a.blk (a.off + Int.toNat i * 3) = some (vi v19_0) /\
 ∃ v19_1 : Int, gcell m1_1 a.blk (a.off + Int.toNat i * 3 + 1) = some (vi v19_1) /\
 ∃ v19_2 : Sl, gcell m1_1 a.blk (a.off + Int.toNat i * 3 + 2) = some (Sl.v v19_2) /\
 q00 Tryz.prog qbl [.agg #[vi v19_0, vi v19_1, Sl.v v19_2]] m1_1 fun r m1_2 =>
 ∃ r_0 : Int, ∃ r_1 : Int, ∃ r_2 : Sl, r = .agg #[vi r_0, vi r_1, Sl.v r_2] /\
 0 <= i /\ i < ((Sl.mk m.size 0 (Int.toNat (a.len : Int)) (Int.toNat (a.len : Int))).len : Int) /\
 wrOk m1_2 ((Sl.mk m.size 0 (Int.toNat (a.len : Int)) (Int.toNat (a.len : Int))).blk) ((Sl.mk m.size 0 (Int.toNat (a.len : Int)) (Int.toNat (a.len : Int))).off + Int.toNat i * 3) 3 /\
 let m1_3 : Mem := scells m1_2 ((Sl.mk m.size 0 (Int.toNat (a.len : Int)) (Int.toNat (a.len : Int))).blk) ((Sl.mk m.size 0 (Int.toNat (a.len : Int)) (Int.toNat (a.len : Int))).off + Int.toNat i * 3) [.i r_0, .i r_1, .s r_2]
 I0 (w64 (i + 1)) m1_3 /\ μ0 (w64 (i + 1)) m1_3 < μ0 i m1_1) /\
 ((decide (i < (a.len : Int))) = false ->
 R (Sl.v (Sl.mk m.size 0 (Int.toNat (a.len : Int)) (Int.toNat (a.len : Int)))) m1_1))
theorem qjh (a : Sl) (m : Mem) (R : Value -> Mem -> Prop) (hvc : qe3 a m R) : q00 Tryz.prog q9w [Sl.v a] m R :=
 vcs (A := ⟨[], [(3, [(4, .I)])], [], []⟩) (n := 23) (rs := [.tmp 2]) (args := [.c (.s a)]) (c := q05 Tryz.f34) Tryz.func34 hvc
def qed (a : Sl) (m : Mem) (R : Value -> Mem -> Prop) : Prop :=
 0 <= (a.len : Int) /\ (a.len : Int) <= (a.len : Int) /\ ((88 : Nat) : Int) * (a.len : Int) <= 281474976710656 /\ (a.len : Int) <= 9223372036854775807 /\
 let m1 : Mem := m.push (.cells (vals (zrow [.s Sl.nil, .s Sl.nil, .i 0, .i 0, .s Sl.nil] (Int.toNat (a.len : Int)))) 89)
 ∃ (I0 : Int -> Mem -> Prop) (μ0 : Int -> Mem -> Nat),
 I0 0 m1 /\
 (∀ (i : Int) (m1_1 : Mem), I0 i m1_1 ->
 ((decide (i < (a.len : Int))) = true ->
 0 <= i /\ i < (a.len : Int) /\
 ∃ v19_0 : Sl, gcell m1_1 a.blk (a.off + Int.toNat i * 5) = some (Sl.v v19_0) /\
 ∃ v19_1 : Sl, gcell m1_1 a.blk (a.off + Int.toNat i * 5 + 1) = some (Sl.v v19_1) /\
 ∃ v19_2 : Int, gcell m1_1 a.blk (a.off + Int.toNat i * 5 + 2) = some (vi v19_2) /\
 ∃ v19_3 : Int, gcell m1_1 a.blk (a.off + Int.toNat i * 5 + 3) = some (vi v19_3) /\
 ∃ v19_4 : Sl, gcell m1_1 a.blk (a.off + Int.toNat i * 5 + 4) = some (Sl.v v19_4) /\
 q00 Tryz.prog qb4 [.agg #[Sl.v v19_0, Sl.v v19_1, vi v19_2, vi v19_3, Sl.v v19_4]] m1_1 fun r m1_2 =>
 ∃ r_0 : Sl, ∃ r_1 : Sl, ∃ r_2 : Int, ∃ r_3 : Int, ∃ r_4 : Sl, r = .agg #[Sl.v r_0, Sl.v r_1, vi r_2, vi r_3, Sl.v r_4] /\
 0 <= i /\ i < ((Sl.mk m.size 0 (Int.toNat (a.len : Int)) (Int.toNat (a.len : Int))).len : Int) /\
 wrOk m1_2 ((Sl.mk m.size 0 (Int.toNat (a.len : Int)) (Int.toNat (a.len : Int))).blk) ((Sl.mk m.size 0 (Int.toNat (a.len : Int)) (Int.toNat (a.len : Int))).off + Int.toNat i * 5) 5 /\
 let m1_3 : Mem := scells m1_2 ((Sl.mk m.size 0 (Int.toNat (a.len : Int)) (Int.toNat (a.len : Int))).blk) ((Sl.mk m.size 0 (Int.toNat (a.len : Int)) (Int.toNat (a.len : Int))).off + Int.toNat i * 5) [.s r_0, .s r_1, .i r_2, .i r_3, .s r_4]
 I0 (w64 (i + 1)) m1_3 /\ μ0 (w64 (i + 1)) m1_3 < μ0 i m1_1) /\
 ((decide (i < (a.len : Int))) = false ->
 R (Sl.v (Sl.mk m.size 0 (Int.toNat (a.len : Int)) (Int.toNat (a.len : Int)))) m1_1))
theorem qj5 (a : Sl) (m : Mem) (R : Value -> Mem -> Prop) (hvc : qed a m R) : q00 Tryz.prog q9o [Sl.v a] m R :=
 vcs (A := ⟨[], [(3, [(4, .I)])], [], []⟩) (n := 23) (rs := [.tmp 2]) (args := [.c (.s a)]) (c := q05 Tryz.f35) Tryz.func35 hvc
def qax (im_0 im_1 : Sl) (m : Mem) (R : Value -> Mem -> Prop) : Prop :=
 let m1 : Mem := m.push (.cells (vals [.s im_0, .s im_1]) 35)
 eqT m.size m.size (
 q00 Tryz.prog q7n [.agg #[Sl.v im_0, Sl.v im_1]] m1 fun r m1_1 =>
 Sam [m.size] m1 m1_1 /\
 ∃ r_0 : Sl, ∃ r_1 : Sl, ∃ r12 : Bool, r = .tuple #[.agg #[Sl.v r_0, Sl.v r_1], vb r12] /\
 let m1_2 : Mem := m1_1.push (.cells (vals [.s Sl.nil, .s Sl.nil]) 127)
 eqT m1_1.size m1_1.size (
 let m1_3 : Mem := scells m1_2 m1_1.size 0 [.s r_0, .s r_1]
 ((!r12) = true ->
 R (vb false) m1_3) /\
 ((!r12) = false ->
 eqT m.size m.size (
 ∃ (I0 : Int -> Mem -> Prop) (μ0 : Int -> Mem -> Nat),
 I0 0 m1_3 /\
 (∀ (v20 : Int) (m1_4 : Mem), I0 v20 m1_4 ->
 ((decide (v20 < (im_1.len : Int))) = true ->
 0 <= v20 /\ v20 < (im_1.len : Int) /\
 ∃ v23_0 : Sl, gcell m1_4 im_1.blk (im_1.off + Int.toNat v20 * 5) = some (Sl.v v23_0) /\
 ∃ v23_1 : Sl, gcell m1_4 im_1.blk (im_1.off + Int.toNat v20 * 5 + 1) = some (Sl.v v23_1) /\
 ∃ v23_2 : Int, gcell m1_4 im_1.blk (im_1.off + Int.toNat v20 * 5 + 2) = some (vi v23_2) /\
 ∃ v23_3 : Int, gcell m1_4 im_1.blk (im_1.off + Int.toNat v20 * 5 + 3) = some (vi v23_3) /\
 ∃ v23_4 : Sl, gcell m1_4 im_1.blk (im_1.off + Int.toNat v20 * 5 + 4) = some (Sl.v v23_4) /\
 let m1_5 : Mem := m1_4.push (.cells (vals [.s Sl.nil, .s Sl.nil, .i 0, .i 0, .s Sl.nil]) 89)
 eqT m1_4.size m1_4.size (
 let m1_6 : Mem := scells m1_5 m1_4.size 0 [.s v23_0, .s v23_1, .i v23_2, .i v23_3, .s v23_4]
 eqT m1_4.size m1_4.size (
 eqT m1_4.size m1_4.size (
 ((decide (v23_3 < (if (v23_0.len : Int) > 1 then (v23_0.len : Int) else 1))) = true ->
 R (vb false) m1_6) /\
 ((decide (v23_3 < (if (v23_0.len : Int) > 1 then (v23_0.len : Int) else 1))) = false ->
 eqT m1_4.size m1_4.size (
 ((decide (v23_3 > 2000)) = true ->
 R (vb false) m1_6) /\
 ((decide (v23_3 > 2000)) = false ->
 eqT m1_4.size m1_4.size (
 ((decide ((v23_4.len : Int) < 1)) = true ->
 R (vb false) m1_6) /\
 ((decide ((v23_4.len : Int) < 1)) = false ->
 eqT m1_4.size m1_4.size (
 ((decide ((v23_4.len : Int) > 2000)) = true ->
 R (vb false) m1_6) /\
 ((decide ((v23_4.len : Int) > 2000)) = false ->
 ∃ K0 : Mem -> Prop,
 (eqT m1_4.size m1_4.size (
 eqT m1_4.size m1_4.size (
 0 <= (w64 ((v23_4.len : Int) - 1)) /\ (w64 ((v23_4.len : Int) - 1)) < (v23_4.len : Int) /\
 ∃ v56 : Int, gcell m1_6 v23_4.blk (v23_4.off + Int.toNat (w64 ((v23_4.len : Int) - 1)) * 6) = some (vi v56) /\
 ((v56 != 23) = true ->
 ((v56 != 24) = true ->
 R (vb false) m1_6) /\
 ((v56 != 24) = false ->
 eqS (SV.box m1_4.size 89 [.s v23_0, .s v23_1, .i v23_2, .i v23_3, .s v23_4]) (SV.box m1_4.size 89 [.s v23_0, .s v23_1, .i v23_2, .i v23_3, .s v23_4]) (
 eqS (SV.box m1_1.size 127 [.s r_0, .s r_1]) (SV.box m1_1.size 127 [.s r_0, .s r_1]) (
 eqS (SV.box m.size 35 [.s im_0, .s im_1]) (SV.box m.size 35 [.s im_0, .s im_1]) (
 K0 m1_6))))) /\
 ((v56 != 23) = false ->
 eqS (SV.box m1_4.size 89 [.s v23_0, .s v23_1, .i v23_2, .i v23_3, .s v23_4]) (SV.box m1_4.size 89 [.s v23_0, .s v23_1, .i v23_2, .i v23_3, .s v23_4]) (
 eqS (SV.box m1_1.size 127 [.s r_0, .s r_1]) (SV.box m1_1.size 127 [.s r_0, .s r_1]) (
 eqS (SV.box m.size 35 [.s im_0, .s im_1]) (SV.box m.size 35 [.s im_0, .s im_1]) (
 K0 m1_6))))))) /\
 (∀ (m1_7 : Mem), K0 m1_7 ->
 eqT m1_4.size m1_4.size (
 ∃ (I0_1 : Int -> Mem -> Prop) (μ0_1 : Int -> Mem -> Nat),
 I0_1 0 m1_7 /\
 (∀ (v66 : Int) (m1_8 : Mem), I0_1 v66 m1_8 ->
 ((decide (v66 < (v23_4.len : Int))) = true ->
 0 <= v66 /\ v66 < (v23_4.len : Int) /\
 ∃ v70_0 : Int, gcell m1_8 v23_4.blk (v23_4.off + Int.toNat v66 * 6) = some (vi v70_0) /\
 ∃ v70_1 : Int, gcell m1_8 v23_4.blk (v23_4.off + Int.toNat v66 * 6 + 1) = some (vi v70_1) /\
 ∃ v70_2 : Int, gcell m1_8 v23_4.blk (v23_4.off + Int.toNat v66 * 6 + 2) = some (vi v70_2) /\
 ∃ v70_3 : Int, gcell m1_8 v23_4.blk (v23_4.off + Int.toNat v66 * 6 + 3) = some (vi v70_3) /\
 ∃ v70_4 : Sl, gcell m1_8 v23_4.blk (v23_4.off + Int.toNat v66 * 6 + 4) = some (Sl.v v70_4) /\
 ∃ v70_5 : Sl, gcell m1_8 v23_4.blk (v23_4.off + Int.toNat v66 * 6 + 5) = some (Sl.v v70_5) /\
 let m1_9 : Mem := m1_8.push (.cells (vals [.i 0, .i 0, .i 0, .i 0, .s Sl.nil, .s Sl.nil]) 86)
 eqT m1_8.size m1_8.size (
 let m1_10 : Mem := scells m1_9 m1_8.size 0 [.i v70_0, .i v70_1, .i v70_2, .i v70_3, .s v70_4, .s v70_5]
 eqT m1_1.size m1_1.size (
 eqT m1_4.size m1_4.size (
 eqT m1_8.size m1_8.size (
 q00 Tryz.prog q31 [.agg #[Sl.v r_0, Sl.v r_1], .agg #[Sl.v v23_0, Sl.v v23_1, vi v23_2, vi v23_3, Sl.v v23_4], vi v66, .agg #[vi v70_0, vi v70_1, vi v70_2, vi v70_3, Sl.v v70_4, Sl.v v70_5]] m1_10 fun r_2 m1_11 =>
 Sam [m1_8.size, m1_4.size, m1_1.size, m.size] m1_10 m1_11 /\
 ∃ r75 : Bool, r_2 = vb r75 /\
 ((!r75) = true ->
 R (vb false) m1_11) /\
 ((!r75) = false ->
 eqS (SV.box m1_4.size 89 [.s v23_0, .s v23_1, .i v23_2, .i v23_3, .s v23_4]) (SV.box m1_4.size 89 [.s v23_0, .s v23_1, .i v23_2, .i v23_3, .s v23_4]) (
 eqS (SV.box m1_1.size 127 [.s r_0, .s r_1]) (SV.box m1_1.size 127 [.s r_0, .s r_1]) (
 eqS (SV.box m.size 35 [.s im_0, .s im_1]) (SV.box m.size 35 [.s im_0, .s im_1]) (
 I0_1 (w64 (v66 + 1)) m1_11 /\ μ0_1 (w64 (v66 + 1)) m1_11 < μ0_1 v66 m1_8))))))))) /\
 ((decide (v66 < (v23_4.len : Int))) = false ->
 eqS (SV.box m1_1.size 127 [.s r_0, .s r_1]) (SV.box m1_1.size 127 [.s r_0, .s r_1]) (
 eqS (SV.box m.size 35 [.s im_0, .s im_1]) (SV.box m.size 35 [.s im_0, .s im_1]) (
 I0 (w64 (v20 + 1)) m1_8 /\ μ0 (w64 (v20 + 1)) m1_8 < μ0 v20 m1_4))))))))))))))))) /\
 ((decide (v20 < (im_1.len : Int))) = false ->
 R (vb true) m1_4))))))
theorem qg7 (im_0 im_1 : Sl) (m : Mem) (R : Value -> Mem -> Prop) (hvc : qax im_0 im_1 m R) : q00 Tryz.prog q6t [.agg #[Sl.v im_0, Sl.v im_1]] m R :=
 vcs (A := ⟨[], [(5, [(20, .I)]), (13, [(66, .I)])], [(12, [])], [(5, [82, 80]), (12, [85, 82, 80]), (13, [85, 82, 80])]⟩) (n := 79) (rs := [.tmp 2]) (args := [.agg [.s im_0, .s im_1]]) (c := q05 Tryz.f36) Tryz.func36 hvc
def qcu (decls : Sl) (m : Mem) (R : Value -> Mem -> Prop) : Prop :=
 ∃ (I0 : Int -> Int -> Mem -> Prop) (μ0 : Int -> Int -> Mem -> Nat),
 I0 0 0 m /\
 (∀ (n : Int) (v8 : Int) (m1 : Mem), I0 n v8 m1 ->
 ((decide (v8 < (decls.len : Int))) = true ->
 0 <= v8 /\ v8 < (decls.len : Int) /\
 ∃ v11_0 : Int, gcell m1 decls.blk (decls.off + Int.toNat v8 * 3) = some (vi v11_0) /\
 ∃ v11_1 : Int, gcell m1 decls.blk (decls.off + Int.toNat v8 * 3 + 1) = some (vi v11_1) /\
 ∃ v11_2 : Sl, gcell m1 decls.blk (decls.off + Int.toNat v8 * 3 + 2) = some (Sl.v v11_2) /\
 let m1_1 : Mem := m1.push (.cells (vals [.i 0, .i 0, .s Sl.nil]) 122)
 eqT m1.size m1.size (
 let m1_2 : Mem := scells m1_1 m1.size 0 [.i v11_0, .i v11_1, .s v11_2]
 eqT m1.size m1.size (
 I0 (w64 (n + (v11_2.len : Int))) (w64 (v8 + 1)) m1_2 /\ μ0 (w64 (n + (v11_2.len : Int))) (w64 (v8 + 1)) m1_2 < μ0 n v8 m1))) /\
 ((decide (v8 < (decls.len : Int))) = false ->
 R (vi n) m1))
theorem qic (decls : Sl) (m : Mem) (R : Value -> Mem -> Prop) (hvc : qcu decls m R) : q00 Tryz.prog q2q [Sl.v decls] m R :=
 vcs (A := ⟨[], [(3, [(3, .I), (8, .I)])], [], []⟩) (n := 19) (rs := [.tmp 2]) (args := [.c (.s decls)]) (c := q05 Tryz.f37) Tryz.func37 hvc
def qas (im_0 im_1 : Sl) (most : Int) (m : Mem) (R : Value -> Mem -> Prop) : Prop :=
 let m1 : Mem := m.push (.cells (vals [.s im_0, .s im_1]) 35)
 let m1_1 : Mem := m1.push (.cells (vals [.i 0, .i 0, .i 0, .i 0, .s Sl.nil, .s Sl.nil, .s Sl.nil]) 55)
 eqT m.size m.size (
 q00 Tryz.prog q5m [.agg #[Sl.v im_0, Sl.v im_1], vi 0, vi 0] m1_1 fun r m1_2 =>
 Sam [m1.size, m.size] m1_1 m1_2 /\
 ∃ r_0 : Int, ∃ r_1 : Int, ∃ r_2 : Int, ∃ r_3 : Sl, ∃ r_4 : Sl, ∃ r_5 : Sl, r = .agg #[vi r_0, vi r_1, vi r_2, Sl.v r_3, Sl.v r_4, Sl.v r_5] /\
 let m1_3 : Mem := m1_2.push (.cells (vals [.i r_0, .i r_1, .i r_2, .s r_3, .s r_4, .s r_5]) 84)
 eqT m1.size m1.size (
 let m1_4 : Mem := scells m1_3 m1.size 0 [.i 3, .i 0, .i 0, .i most, .s Sl.nil, .s Sl.nil, .s (Sl.mk m1_2.size 0 1 1)]
 eqT m1.size m1.size (
 R (.agg #[vi 3, vi 0, vi 0, vi most, Sl.v Sl.nil, Sl.v Sl.nil, Sl.v (Sl.mk m1_2.size 0 1 1)]) m1_4)))
theorem qgg (im_0 im_1 : Sl) (most : Int) (m : Mem) (R : Value -> Mem -> Prop) (hvc : qas im_0 im_1 most m R) : q00 Tryz.prog q3l [.agg #[Sl.v im_0, Sl.v im_1], vi most] m R :=
 vcs (A := ⟨[], [], [], []⟩) (n := 10) (rs := [.cell 4 55]) (args := [.agg [.s im_0, .s im_1], .c (.i most)]) (c := q05 Tryz.f38) Tryz.func38 hvc
end
section
set_option linter.unusedVariables false
set_option maxRecDepth 100000
def q90 (m0 : Nat × Nat) (m : Mem) (R : Value -> Mem -> Prop) : Prop :=
 ∃ v9 : Int, gcell m m0.1 (m0.2 + 3) = some (vi v9) /\
 ((v9 != 3) = true ->
 R (.tuple #[]) m) /\
 ((v9 != 3) = false ->
 ∃ v15 : Sl, gcell m m0.1 (m0.2 + 3 + 6) = some (Sl.v v15) /\
 ∃ v20 : Sl, gcell m m0.1 (m0.2 + 3 + 6) = some (Sl.v v20) /\
 0 <= (w64 ((v20.len : Int) - 1)) /\ (w64 ((v20.len : Int) - 1)) < (v15.len : Int) /\
 ∃ v28 : Sl, gcell m m0.1 (m0.2 + 1) = some (Sl.v v28) /\
 ∃ v32 : Int, gcell m v15.blk (v15.off + Int.toNat (w64 ((v20.len : Int) - 1)) * 6) = some (vi v32) /\
 0 <= v32 /\ v32 < (v28.len : Int) /\
 ∃ v35 : Sl, gcell m v28.blk (v28.off + Int.toNat v32 * 5 + 4) = some (Sl.v v35) /\
 ∃ v39 : Int, gcell m v15.blk (v15.off + Int.toNat (w64 ((v20.len : Int) - 1)) * 6 + 1) = some (vi v39) /\
 0 <= v39 /\ v39 < (v35.len : Int) /\
 ∃ v41_0 : Int, gcell m v35.blk (v35.off + Int.toNat v39 * 6) = some (vi v41_0) /\
 ∃ v41_1 : Int, gcell m v35.blk (v35.off + Int.toNat v39 * 6 + 1) = some (vi v41_1) /\
 ∃ v41_2 : Int, gcell m v35.blk (v35.off + Int.toNat v39 * 6 + 2) = some (vi v41_2) /\
 ∃ v41_3 : Int, gcell m v35.blk (v35.off + Int.toNat v39 * 6 + 3) = some (vi v41_3) /\
 ∃ v41_4 : Sl, gcell m v35.blk (v35.off + Int.toNat v39 * 6 + 4) = some (Sl.v v41_4) /\
 ∃ v41_5 : Sl, gcell m v35.blk (v35.off + Int.toNat v39 * 6 + 5) = some (Sl.v v41_5) /\
 let m1 : Mem := m.push (.cells (vals [.i 0, .i 0, .i 0, .i 0, .s Sl.nil, .s Sl.nil]) 86)
 gcell m1 v35.blk (v35.off + Int.toNat v39 * 6) = gcell m v35.blk (v35.off + Int.toNat v39 * 6) /\
 gcell m1 v35.blk (v35.off + Int.toNat v39 * 6 + 1) = gcell m v35.blk (v35.off + Int.toNat v39 * 6 + 1) /\
 gcell m1 v35.blk (v35.off + Int.toNat v39 * 6 + 2) = gcell m v35.blk (v35.off + Int.toNat v39 * 6 + 2) /\
 gcell m1 v35.blk (v35.off + Int.toNat v39 * 6 + 3) = gcell m v35.blk (v35.off + Int.toNat v39 * 6 + 3) /\
 gcell m1 v35.blk (v35.off + Int.toNat v39 * 6 + 4) = gcell m v35.blk (v35.off + Int.toNat v39 * 6 + 4) /\
 gcell m1 v35.blk (v35.off + Int.toNat v39 * 6 + 5) = gcell m v35.blk (v35.off + Int.toNat v39 * 6 + 5) /\
 gcell m1 v15.blk (v15.off + Int.toNat (w64 ((v20.len : Int) - 1)) * 6 + 1) = gcell m v15.blk (v15.off + Int.toNat (w64 ((v20.len : Int) - 1)) * 6 + 1) /\
 gcell m1 v28.blk (v28.off + Int.toNat v32 * 5 + 4) = gcell m v28.blk (v28.off + Int.toNat v32 * 5 + 4) /\
 gcell m1 v15.blk (v15.off + Int.toNat (w64 ((v20.len : Int) - 1)) * 6) = gcell m v15.blk (v15.off + Int.toNat (w64 ((v20.len : Int) - 1)) * 6) /\
 gcell m1 m0.1 (m0.2 + 1) = gcell m m0.1 (m0.2 + 1) /\
 eqT m.size m.size (
 let m1_1 : Mem := scells m1 m.size 0 [.i v41_0, .i v41_1, .i v41_2, .i v41_3, .s v41_4, .s v41_5]
 ∃ K0 : Bool -> Mem -> Prop,
 (eqT m.size m.size (
 ((v41_0 == 9) = true ->
 eqS (SV.box m.size 86 [.i v41_0, .i v41_1, .i v41_2, .i v41_3, .s v41_4, .s v41_5]) (SV.box m.size 86 [.i v41_0, .i v41_1, .i v41_2, .i v41_3, .s v41_4, .s v41_5]) (
 K0 true m1_1)) /\
 ((v41_0 == 9) = false ->
 eqT m.size m.size (
 ((v41_0 == 11) = true ->
 eqS (SV.box m.size 86 [.i v41_0, .i v41_1, .i v41_2, .i v41_3, .s v41_4, .s v41_5]) (SV.box m.size 86 [.i v41_0, .i v41_1, .i v41_2, .i v41_3, .s v41_4, .s v41_5]) (
 K0 true m1_1)) /\
 ((v41_0 == 11) = false ->
 eqT m.size m.size (
 eqS (SV.box m.size 86 [.i v41_0, .i v41_1, .i v41_2, .i v41_3, .s v41_4, .s v41_5]) (SV.box m.size 86 [.i v41_0, .i v41_1, .i v41_2, .i v41_3, .s v41_4, .s v41_5]) (
 K0 (v41_0 == 24) m1_1))))))) /\
 (∀ (calls : Bool) (m1_2 : Mem), K0 calls m1_2 ->
 (calls = true ->
 ∃ v66 : Int, gcell m1_2 m0.1 (m0.2 + 3 + 2) = some (vi v66) /\
 ∃ v71 : Int, gcell m1_2 m0.1 (m0.2 + 3 + 3) = some (vi v71) /\
 ((v66 == v71) = true ->
 wrOk m1_2 m0.1 (m0.2 + 3) 1 /\
 let m1_3 : Mem := scells m1_2 m0.1 (m0.2 + 3) [.i 1]
 Sam [m.size] m1_2 m1_3 /\
 R (.tuple #[]) m1_3) /\
 ((v66 == v71) = false ->
 eqT m.size m.size (
 q00 Tryz.prog q36 [vp m0.1 m0.2, vp v15.blk (v15.off + Int.toNat (w64 ((v20.len : Int) - 1)) * 6), .agg #[vi v41_0, vi v41_1, vi v41_2, vi v41_3, Sl.v v41_4, Sl.v v41_5]] m1_2 fun r m1_4 =>
 Sam [m.size] m1_2 m1_4 /\
 ∃ r82 : Bool, r = vb r82 /\
 ((!r82) = true ->
 wrOk m1_4 m0.1 (m0.2 + 3) 1 /\
 let m1_5 : Mem := scells m1_4 m0.1 (m0.2 + 3) [.i 2]
 Sam [m.size] m1_4 m1_5 /\
 R (.tuple #[]) m1_5) /\
 ((!r82) = false ->
 eqT m.size m.size (
 q00 Tryz.prog q3k [vp m0.1 m0.2, vp v15.blk (v15.off + Int.toNat (w64 ((v20.len : Int) - 1)) * 6), .agg #[vi v41_0, vi v41_1, vi v41_2, vi v41_3, Sl.v v41_4, Sl.v v41_5]] m1_4 fun r_1 m1_6 =>
 Sam [m.size] m1_4 m1_6 /\
 R (.tuple #[]) m1_6))))) /\
 (calls = false ->
 eqT m.size m.size (
 q00 Tryz.prog q36 [vp m0.1 m0.2, vp v15.blk (v15.off + Int.toNat (w64 ((v20.len : Int) - 1)) * 6), .agg #[vi v41_0, vi v41_1, vi v41_2, vi v41_3, Sl.v v41_4, Sl.v v41_5]] m1_2 fun r_2 m1_7 =>
 Sam [m.size] m1_2 m1_7 /\
 ∃ r82_1 : Bool, r_2 = vb r82_1 /\
 ((!r82_1) = true ->
 wrOk m1_7 m0.1 (m0.2 + 3) 1 /\
 let m1_8 : Mem := scells m1_7 m0.1 (m0.2 + 3) [.i 2]
 Sam [m.size] m1_7 m1_8 /\
 R (.tuple #[]) m1_8) /\
 ((!r82_1) = false ->
 eqT m.size m.size (
 q00 Tryz.prog q3k [vp m0.1 m0.2, vp v15.blk (v15.off + Int.toNat (w64 ((v20.len : Int) - 1)) * 6), .agg #[vi v41_0, vi v41_1, vi v41_2, vi v41_3, Sl.v v41_4, Sl.v v41_5]] m1_7 fun r_3 m1_9 =>
 Sam [m.size] m1_7 m1_9 /\
 R (.tuple #[]) m1_9)))))))
theorem qdw (m0 : Nat × Nat) (m : Mem) (R : Value -> Mem -> Prop) (hvc : q90 m0 m R) : q00 Tryz.prog q5j [vp m0.1 m0.2] m R :=
 vcs (A := ⟨[(1, [0, 1, 2, 4, 8, 0, 32, 64, 128, 256, 512, 1024, 2064, 8191], [0, 1, 3, 7, 15, 0, 32, 96, 224, 480, 992, 2016, 4095, 8191]), (2, [0, 1, 2, 4, 8, 0, 32, 64, 128, 272, 512, 1024, 0, 4096, 8192, 16384, 34816, 65536, 0, 524287], [0, 1, 3, 7, 15, 0, 32, 96, 224, 511, 1023, 2047, 0, 4096, 12288, 28672, 65535, 131071, 0, 524287]), (5, [0, 1, 2, 6, 10, 18, 34, 2, 130, 258, 514, 1026, 2114, 4098, 8194], [0, 1, 3, 7, 15, 31, 63, 3, 131, 387, 899, 1923, 4095, 8191, 16383])], [], [(5, [(4, .T)])], [(5, [91])]⟩) (n := 88) (rs := []) (args := [.c (.p m0.1 m0.2)]) (c := q05 Tryz.f39) Tryz.func39 hvc
def qfd (a b : Sl) (m : Mem) (R : Value -> Mem -> Prop) : Prop :=
 (((a.len : Int) != (b.len : Int)) = true ->
 R (vb false) m) /\
 (((a.len : Int) != (b.len : Int)) = false ->
 ∃ (I0 : Int -> Mem -> Prop) (μ0 : Int -> Mem -> Nat),
 I0 0 m /\
 (∀ (i : Int) (m1 : Mem), I0 i m1 ->
 ((decide (i < (a.len : Int))) = true ->
 0 <= i /\ i < (a.len : Int) /\
 ∃ v20 : Int, gcell m1 a.blk (a.off + Int.toNat i * 1) = some (vi v20) /\
 0 <= i /\ i < (b.len : Int) /\
 ∃ v24 : Int, gcell m1 b.blk (b.off + Int.toNat i * 1) = some (vi v24) /\
 ((v20 != v24) = true ->
 R (vb false) m1) /\
 ((v20 != v24) = false ->
 I0 (w64 (i + 1)) m1 /\ μ0 (w64 (i + 1)) m1 < μ0 i m1)) /\
 ((decide (i < (a.len : Int))) = false ->
 R (vb true) m1)))
theorem qla (a b : Sl) (m : Mem) (R : Value -> Mem -> Prop) (hvc : qfd a b m R) : q00 Tryz.prog q3g [Sl.v a, Sl.v b] m R :=
 vcs (A := ⟨[(6, [0, 0, 3, 4, 0, 0, 48, 64, 136], [0, 0, 3, 7, 0, 0, 48, 112, 255])], [(4, [(5, .I)])], [], []⟩) (n := 26) (rs := [.tmp 4]) (args := [.c (.s a), .c (.s b)]) (c := q05 Tryz.f40) Tryz.func40 hvc
def qe6 (a b : Sl) (m : Mem) (R : Value -> Mem -> Prop) : Prop :=
 (((a.len : Int) != (b.len : Int)) = true ->
 R (vb false) m) /\
 (((a.len : Int) != (b.len : Int)) = false ->
 ∃ (I0 : Int -> Mem -> Prop) (μ0 : Int -> Mem -> Nat),
 I0 0 m /\
 (∀ (i : Int) (m1 : Mem), I0 i m1 ->
 ((decide (i < (a.len : Int))) = true ->
 0 <= i /\ i < (a.len : Int) /\
 ∃ v20_0 : Int, gcell m1 a.blk (a.off + Int.toNat i * 3) = some (vi v20_0) /\
 ∃ v20_1 : Int, gcell m1 a.blk (a.off + Int.toNat i * 3 + 1) = some (vi v20_1) /\
 ∃ v20_2 : Sl, gcell m1 a.blk (a.off + Int.toNat i * 3 + 2) = some (Sl.v v20_2) /\
 0 <= i /\ i < (b.len : Int) /\
 ∃ v24_0 : Int, gcell m1 b.blk (b.off + Int.toNat i * 3) = some (vi v24_0) /\
 ∃ v24_1 : Int, gcell m1 b.blk (b.off + Int.toNat i * 3 + 1) = some (vi v24_1) /\
 ∃ v24_2 : Sl, gcell m1 b.blk (b.off + Int.toNat i * 3 + 2) = some (Sl.v v24_2) /\
 q00 Tryz.prog qb3 [.agg #[vi v20_0, vi v20_1, Sl.v v20_2], .agg #[vi v24_0, vi v24_1, Sl.v v24_2]] m1 fun r m1_1 =>
 ∃ r25 : Bool, r = vb r25 /\
 ((!r25) = true ->
 R (vb false) m1_1) /\
 ((!r25) = false ->
 I0 (w64 (i + 1)) m1_1 /\ μ0 (w64 (i + 1)) m1_1 < μ0 i m1)) /\
 ((decide (i < (a.len : Int))) = false ->
 R (vb true) m1)))
theorem qit (a b : Sl) (m : Mem) (R : Value -> Mem -> Prop) (hvc : qe6 a b m R) : q00 Tryz.prog q9k [Sl.v a, Sl.v b] m R :=
 vcs (A := ⟨[(6, [0, 0, 3, 4, 0, 0, 48, 64, 136, 256], [0, 0, 3, 7, 0, 0, 48, 112, 255, 511])], [(4, [(5, .I)])], [], []⟩) (n := 27) (rs := [.tmp 4]) (args := [.c (.s a), .c (.s b)]) (c := q05 Tryz.f41) Tryz.func41 hvc
def qe4 (a b : Sl) (m : Mem) (R : Value -> Mem -> Prop) : Prop :=
 (((a.len : Int) != (b.len : Int)) = true ->
 R (vb false) m) /\
 (((a.len : Int) != (b.len : Int)) = false ->
 ∃ (I0 : Int -> Mem -> Prop) (μ0 : Int -> Mem -> Nat),
 I0 0 m /\
 (∀ (i : Int) (m1 : Mem), I0 i m1 ->
 ((decide (i < (a.len : Int))) = true ->
 0 <= i /\ i < (a.len : Int) /\
 ∃ v20_0 : Sl, gcell m1 a.blk (a.off + Int.toNat i * 5) = some (Sl.v v20_0) /\
 ∃ v20_1 : Sl, gcell m1 a.blk (a.off + Int.toNat i * 5 + 1) = some (Sl.v v20_1) /\
 ∃ v20_2 : Int, gcell m1 a.blk (a.off + Int.toNat i * 5 + 2) = some (vi v20_2) /\
 ∃ v20_3 : Int, gcell m1 a.blk (a.off + Int.toNat i * 5 + 3) = some (vi v20_3) /\
 ∃ v20_4 : Sl, gcell m1 a.blk (a.off + Int.toNat i * 5 + 4) = some (Sl.v v20_4) /\
 0 <= i /\ i < (b.len : Int) /\
 ∃ v24_0 : Sl, gcell m1 b.blk (b.off + Int.toNat i * 5) = some (Sl.v v24_0) /\
 ∃ v24_1 : Sl, gcell m1 b.blk (b.off + Int.toNat i * 5 + 1) = some (Sl.v v24_1) /\
 ∃ v24_2 : Int, gcell m1 b.blk (b.off + Int.toNat i * 5 + 2) = some (vi v24_2) /\
 ∃ v24_3 : Int, gcell m1 b.blk (b.off + Int.toNat i * 5 + 3) = some (vi v24_3) /\
 ∃ v24_4 : Sl, gcell m1 b.blk (b.off + Int.toNat i * 5 + 4) = some (Sl.v v24_4) /\
 q00 Tryz.prog qb7 [.agg #[Sl.v v20_0, Sl.v v20_1, vi v20_2, vi v20_3, Sl.v v20_4], .agg #[Sl.v v24_0, Sl.v v24_1, vi v24_2, vi v24_3, Sl.v v24_4]] m1 fun r m1_1 =>
 ∃ r25 : Bool, r = vb r25 /\
 ((!r25) = true ->
 R (vb false) m1_1) /\
 ((!r25) = false ->
 I0 (w64 (i + 1)) m1_1 /\ μ0 (w64 (i + 1)) m1_1 < μ0 i m1)) /\
 ((decide (i < (a.len : Int))) = false ->
 R (vb true) m1)))
theorem qj0 (a b : Sl) (m : Mem) (R : Value -> Mem -> Prop) (hvc : qe4 a b m R) : q00 Tryz.prog q9v [Sl.v a, Sl.v b] m R :=
 vcs (A := ⟨[(6, [0, 0, 3, 4, 0, 0, 48, 64, 136, 256], [0, 0, 3, 7, 0, 0, 48, 112, 255, 511])], [(4, [(5, .I)])], [], []⟩) (n := 27) (rs := [.tmp 4]) (args := [.c (.s a), .c (.s b)]) (c := q05 Tryz.f42) Tryz.func42 hvc
def qer (im_0 im_1 : Sl) (most : Int) (m : Mem) (R : Value -> Mem -> Prop) : Prop :=
 let m1 : Mem := m.push (.cells (vals [.s im_0, .s im_1]) 35)
 let m1_1 : Mem := m1.push (.cells (vals [.i 0, .i 0, .i 0, .i 0, .i 0, .i 0, .i 0, .i 0]) 43)
 let m1_2 : Mem := m1_1.push (.cells (vals [.i 0, .i 0, .i 0, .i 0, .i 0, .i 0, .i 1, .i 0]) 142)
 eqT m.size m.size (
 eqT m.size m.size (
 q00 Tryz.prog q70 [.agg #[Sl.v im_0, Sl.v im_1], vi most] m1_2 fun r m1_3 =>
 Sam [m1_1.size, m1.size, m.size] m1_2 m1_3 /\
 ∃ r_0 : Int, ∃ r_1 : Int, ∃ r_2 : Int, ∃ r_3 : Int, ∃ r_4 : Sl, ∃ r_5 : Sl, ∃ r_6 : Sl, r = .agg #[vi r_0, vi r_1, vi r_2, vi r_3, Sl.v r_4, Sl.v r_5, Sl.v r_6] /\
 gcell m1_3 m.size 0 = gcell m1_2 m.size 0 /\
 gcell m1_3 m.size 1 = gcell m1_2 m.size 1 /\
 let m1_4 : Mem := m1_3.push (.cells (vals [.s im_0, .s im_1, .i r_0, .i r_1, .i r_2, .i r_3, .s r_4, .s r_5, .s r_6]) 97)
 ∃ (I0 : Mem -> Prop) (μ0 : Mem -> Nat),
 I0 m1_4 /\
 (∀ (m1_5 : Mem), I0 m1_5 ->
 ∃ v21 : Int, gcell m1_5 m1_3.size 2 = some (vi v21) /\
 ((v21 == 3) = true ->
 q00 Tryz.prog q50 [vp m1_1.size 0, vp m1_3.size 0] m1_5 fun r_7 m1_6 =>
 Sam [m1.size, m.size] m1_5 m1_6 /\
 ∃ r26 : Int, ∃ r26_1 : Int, r_7 = .tuple #[vi r26, vi r26_1] /\
 q00 Tryz.prog q5i [vp m1_3.size 0] m1_6 fun r_8 m1_7 =>
 Sam [m1.size, m.size] m1_6 m1_7 /\
 q00 Tryz.prog q4z [vp m1_1.size 0, vp m1_3.size 0, vi r26, vi r26_1] m1_7 fun r_9 m1_8 =>
 Sam [m1.size, m.size] m1_7 m1_8 /\
 eqS (SV.box m1.size 43 [.i 0, .i 0, .i 0, .i 0, .i 0, .i 0, .i 0, .i 0]) (SV.box m1.size 43 [.i 0, .i 0, .i 0, .i 0, .i 0, .i 0, .i 0, .i 0]) (
 eqS (SV.box m.size 35 [.s im_0, .s im_1]) (SV.box m.size 35 [.s im_0, .s im_1]) (
 I0 m1_8 /\ μ0 m1_8 < μ0 m1_5))) /\
 ((v21 == 3) = false ->
 ∃ v39 : Int, gcell m1_5 m1_1.size 0 = some (vi v39) /\
 ∃ v43 : Int, gcell m1_5 m1_1.size 1 = some (vi v43) /\
 ∃ v47 : Int, gcell m1_5 m1_1.size 2 = some (vi v47) /\
 ∃ v51 : Int, gcell m1_5 m1_1.size 3 = some (vi v51) /\
 ∃ v55 : Int, gcell m1_5 m1_1.size 4 = some (vi v55) /\
 ∃ v59 : Int, gcell m1_5 m1_1.size 5 = some (vi v59) /\
 ∃ v63 : Int, gcell m1_5 m1_1.size 6 = some (vi v63) /\
 ∃ v67 : Int, gcell m1_5 m1_1.size 7 = some (vi v67) /\
 eqT m1.size m1.size (
 let m1_9 : Mem := scells m1_5 m1.size 0 [.i v39, .i v43, .i v47, .i v51, .i v55, .i v59, .i v63, .i v67]
 eqT m1.size m1.size (
 R (.agg #[vi v39, vi v43, vi v47, vi v51, vi v55, vi v59, vi v63, vi v67]) m1_9))))))
theorem qjz (im_0 im_1 : Sl) (most : Int) (m : Mem) (R : Value -> Mem -> Prop) (hvc : qer im_0 im_1 most m R) : q00 Tryz.prog qa5 [.agg #[Sl.v im_0, Sl.v im_1], vi most] m R :=
 vcs (A := ⟨[(2, [0, 0, 0, 6, 9, 16, 63], [0, 0, 0, 6, 15, 31, 63]), (7, [0, 1, 2, 4, 0, 16, 32, 64, 0, 256, 512, 1024, 0, 4096, 8192, 16384, 0, 65536, 131072, 262144, 0, 1048576, 2097152, 4194304, 0, 16777216, 33554432, 67108864, 0, 268435456, 536870912, 1073741824, 2290649224, 8589934591], [0, 1, 3, 7, 0, 16, 48, 112, 0, 256, 768, 1792, 0, 4096, 12288, 28672, 0, 65536, 196608, 458752, 0, 1048576, 3145728, 7340032, 0, 16777216, 50331648, 117440512, 0, 268435456, 805306368, 1879048192, 4294967295, 8589934591])], [(3, [])], [], [(3, [73, 71])]⟩) (n := 69) (rs := [.cell 4 43]) (args := [.agg [.s im_0, .s im_1], .c (.i most)]) (c := q05 Tryz.f47) Tryz.func47 hvc
def qbu (s : Nat × Nat) (x_0 x_1 x_2 x_3 : Int) (x_4 x_5 x_6 : Sl) (m : Mem) (R : Value -> Mem -> Prop) : Prop :=
 let m1 : Mem := m.push (.cells (vals [.i x_0, .i x_1, .i x_2, .i x_3, .s x_4, .s x_5, .s x_6]) 55)
 ∃ v10 : Int, gcell m1 s.1 (s.2 + 5) = some (vi v10) /\
 eqT m.size m.size (
 q00 Tryz.prog q7m [Sl.v x_5] m1 fun r m1_1 =>
 Sam [m.size] m1 m1_1 /\
 ∃ r13 : Int, r = vi r13 /\
 gcell m1_1 s.1 (s.2 + 5) = gcell m1 s.1 (s.2 + 5) /\
 wrOk m1_1 s.1 (s.2 + 5) 1 /\
 let m1_2 : Mem := scells m1_1 s.1 (s.2 + 5) [.i (if r13 > v10 then r13 else v10)]
 Sam [m.size] m1_1 m1_2 /\
 ∃ v21 : Int, gcell m1_2 s.1 (s.2 + 6) = some (vi v21) /\
 eqT m.size m.size (
 wrOk m1_2 s.1 (s.2 + 6) 1 /\
 let m1_3 : Mem := scells m1_2 s.1 (s.2 + 6) [.i (if (x_6.len : Int) > v21 then (x_6.len : Int) else v21)]
 Sam [m.size] m1_2 m1_3 /\
 eqT m.size m.size (
 ∃ (I0 : Int -> Mem -> Prop) (μ0 : Int -> Mem -> Nat),
 I0 0 m1_3 /\
 (∀ (v31 : Int) (m1_4 : Mem), I0 v31 m1_4 ->
 ((decide (v31 < (x_5.len : Int))) = true ->
 0 <= v31 /\ v31 < (x_5.len : Int) /\
 ∃ v34_0 : Int, gcell m1_4 x_5.blk (x_5.off + Int.toNat v31 * 3) = some (vi v34_0) /\
 ∃ v34_1 : Int, gcell m1_4 x_5.blk (x_5.off + Int.toNat v31 * 3 + 1) = some (vi v34_1) /\
 ∃ v34_2 : Sl, gcell m1_4 x_5.blk (x_5.off + Int.toNat v31 * 3 + 2) = some (Sl.v v34_2) /\
 let m1_5 : Mem := m1_4.push (.cells (vals [.i 0, .i 0, .s Sl.nil]) 149)
 eqT m1_4.size m1_4.size (
 let m1_6 : Mem := scells m1_5 m1_4.size 0 [.i v34_0, .i v34_1, .s v34_2]
 ∃ v39 : Int, gcell m1_6 s.1 (s.2 + 7) = some (vi v39) /\
 eqT m1_4.size m1_4.size (
 wrOk m1_6 s.1 (s.2 + 7) 1 /\
 let m1_7 : Mem := scells m1_6 s.1 (s.2 + 7) [.i (if v34_0 > v39 then v34_0 else v39)]
 Sam [m1_4.size, m.size] m1_6 m1_7 /\
 eqS (SV.box m.size 55 [.i x_0, .i x_1, .i x_2, .i x_3, .s x_4, .s x_5, .s x_6]) (SV.box m.size 55 [.i x_0, .i x_1, .i x_2, .i x_3, .s x_4, .s x_5, .s x_6]) (
 I0 (w64 (v31 + 1)) m1_7 /\ μ0 (w64 (v31 + 1)) m1_7 < μ0 v31 m1_4)))) /\
 ((decide (v31 < (x_5.len : Int))) = false ->
 R (.tuple #[]) m1_4)))))
theorem qgm (s : Nat × Nat) (x_0 x_1 x_2 x_3 : Int) (x_4 x_5 x_6 : Sl) (m : Mem) (R : Value -> Mem -> Prop) (hvc : qbu s x_0 x_1 x_2 x_3 x_4 x_5 x_6 m R) : q00 Tryz.prog q1n [vp s.1 s.2, .agg #[vi x_0, vi x_1, vi x_2, vi x_3, Sl.v x_4, Sl.v x_5, Sl.v x_6]] m R :=
 vcs (A := ⟨[(1, [0, 0, 2, 4, 8, 0, 32, 64, 144, 511, 1023, 1535], [0, 0, 2, 6, 14, 0, 32, 96, 254, 511, 1023, 2047]), (2, [0, 0, 2, 4, 8, 0, 32, 64, 144, 511, 1023, 1535], [0, 0, 2, 6, 14, 0, 32, 96, 254, 511, 1023, 2047]), (6, [0, 0, 2, 4, 8, 0, 32, 80, 255, 511, 767], [0, 0, 2, 6, 14, 0, 32, 126, 255, 511, 1023])], [(4, [(31, .I)])], [], [(4, [49])]⟩) (n := 46) (rs := []) (args := [.c (.p s.1 s.2), .agg [.i x_0, .i x_1, .i x_2, .i x_3, .s x_4, .s x_5, .s x_6]]) (c := q05 Tryz.f48) Tryz.func48 hvc
def q9f (s : Nat × Nat) (op : Int) (reuses : Bool) (m : Mem) (R : Value -> Mem -> Prop) : Prop :=
 (reuses = true ->
 ∃ v11 : Int, gcell m s.1 (s.2 + 2) = some (vi v11) /\
 wrOk m s.1 (s.2 + 2) 1 /\
 let m1 : Mem := scells m s.1 (s.2 + 2) [.i (w64 (v11 + 1))]
 R (.tuple #[]) m1) /\
 (reuses = false ->
 ((op == 6) = true ->
 ∃ v25 : Int, gcell m s.1 (s.2 + 1) = some (vi v25) /\
 wrOk m s.1 (s.2 + 1) 1 /\
 let m1_1 : Mem := scells m s.1 (s.2 + 1) [.i (w64 (v25 + 1))]
 R (.tuple #[]) m1_1) /\
 ((op == 6) = false ->
 ((op == 10) = true ->
 ∃ v25_1 : Int, gcell m s.1 (s.2 + 1) = some (vi v25_1) /\
 wrOk m s.1 (s.2 + 1) 1 /\
 let m1_2 : Mem := scells m s.1 (s.2 + 1) [.i (w64 (v25_1 + 1))]
 R (.tuple #[]) m1_2) /\
 ((op == 10) = false ->
 ((op == 14) = true ->
 ∃ v35 : Int, gcell m s.1 (s.2 + 3) = some (vi v35) /\
 wrOk m s.1 (s.2 + 3) 1 /\
 let m1_3 : Mem := scells m s.1 (s.2 + 3) [.i (w64 (v35 + 1))]
 R (.tuple #[]) m1_3) /\
 ((op == 14) = false ->
 ((op == 15) = true ->
 ∃ v45 : Int, gcell m s.1 (s.2 + 4) = some (vi v45) /\
 wrOk m s.1 (s.2 + 4) 1 /\
 let m1_4 : Mem := scells m s.1 (s.2 + 4) [.i (w64 (v45 + 1))]
 R (.tuple #[]) m1_4) /\
 ((op == 15) = false ->
 R (.tuple #[]) m)))))
theorem qew (s : Nat × Nat) (op : Int) (reuses : Bool) (m : Mem) (R : Value -> Mem -> Prop) (hvc : q9f s op reuses m R) : q00 Tryz.prog q38 [vp s.1 s.2, vi op, vb reuses] m R :=
 vcs (A := ⟨[], [], [], []⟩) (n := 49) (rs := []) (args := [.c (.p s.1 s.2), .c (.i op), .c (.t reuses)]) (c := q05 Tryz.f49) Tryz.func49 hvc
def qff (a : Sl) (left : Int) (m : Mem) (R : Value -> Mem -> Prop) : Prop :=
 ((decide ((w64 (left - (a.len : Int))) < 0)) = true ->
 R (vi (-1)) m) /\
 ((decide ((w64 (left - (a.len : Int))) < 0)) = false ->
 R (vi (w64 (left - (a.len : Int)))) m)
theorem qkt (a : Sl) (left : Int) (m : Mem) (R : Value -> Mem -> Prop) (hvc : qff a left m R) : q00 Tryz.prog q3h [Sl.v a, vi left] m R :=
 vcs (A := ⟨[], [], [], []⟩) (n := 12) (rs := [.tmp 4]) (args := [.c (.s a), .c (.i left)]) (c := q05 Tryz.f50) Tryz.func50 hvc
end
section
set_option linter.unusedVariables false
set_option maxRecDepth 100000

end
section
set_option linter.unusedVariables false
set_option maxRecDepth 100000
def q8q (m0 : Nat × Nat) (m : Mem) (R : Value -> Mem -> Prop) : Prop :=
 ∃ v9 : Int, gcell m m0.1 (m0.2 + 2) = some (vi v9) /\
 ((v9 != 3) = true ->
 R (.tuple #[]) m) /\
 ((v9 != 3) = false ->
 ∃ v15 : Sl, gcell m m0.1 (m0.2 + 2 + 6) = some (Sl.v v15) /\
 ∃ v20 : Sl, gcell m m0.1 (m0.2 + 2 + 6) = some (Sl.v v20) /\
 0 <= (w64 ((v20.len : Int) - 1)) /\ (w64 ((v20.len : Int) - 1)) < (v15.len : Int) /\
 ∃ v24_0 : Int, gcell m v15.blk (v15.off + Int.toNat (w64 ((v20.len : Int) - 1)) * 6) = some (vi v24_0) /\
 ∃ v24_1 : Int, gcell m v15.blk (v15.off + Int.toNat (w64 ((v20.len : Int) - 1)) * 6 + 1) = some (vi v24_1) /\
 ∃ v24_2 : Int, gcell m v15.blk (v15.off + Int.toNat (w64 ((v20.len : Int) - 1)) * 6 + 2) = some (vi v24_2) /\
 ∃ v24_3 : Sl, gcell m v15.blk (v15.off + Int.toNat (w64 ((v20.len : Int) - 1)) * 6 + 3) = some (Sl.v v24_3) /\
 ∃ v24_4 : Sl, gcell m v15.blk (v15.off + Int.toNat (w64 ((v20.len : Int) - 1)) * 6 + 4) = some (Sl.v v24_4) /\
 ∃ v24_5 : Sl, gcell m v15.blk (v15.off + Int.toNat (w64 ((v20.len : Int) - 1)) * 6 + 5) = some (Sl.v v24_5) /\
 let m1 : Mem := m.push (.cells (vals [.i 0, .i 0, .i 0, .s Sl.nil, .s Sl.nil, .s Sl.nil]) 84)
 gcell m1 v15.blk (v15.off + Int.toNat (w64 ((v20.len : Int) - 1)) * 6) = gcell m v15.blk (v15.off + Int.toNat (w64 ((v20.len : Int) - 1)) * 6) /\
 gcell m1 v15.blk (v15.off + Int.toNat (w64 ((v20.len : Int) - 1)) * 6 + 1) = gcell m v15.blk (v15.off + Int.toNat (w64 ((v20.len : Int) - 1)) * 6 + 1) /\
 gcell m1 v15.blk (v15.off + Int.toNat (w64 ((v20.len : Int) - 1)) * 6 + 2) = gcell m v15.blk (v15.off + Int.toNat (w64 ((v20.len : Int) - 1)) * 6 + 2) /\
 gcell m1 v15.blk (v15.off + Int.toNat (w64 ((v20.len : Int) - 1)) * 6 + 3) = gcell m v15.blk (v15.off + Int.toNat (w64 ((v20.len : Int) - 1)) * 6 + 3) /\
 gcell m1 v15.blk (v15.off + Int.toNat (w64 ((v20.len : Int) - 1)) * 6 + 4) = gcell m v15.blk (v15.off + Int.toNat (w64 ((v20.len : Int) - 1)) * 6 + 4) /\
 gcell m1 v15.blk (v15.off + Int.toNat (w64 ((v20.len : Int) - 1)) * 6 + 5) = gcell m v15.blk (v15.off + Int.toNat (w64 ((v20.len : Int) - 1)) * 6 + 5) /\
 gcell m1 m0.1 (m0.2 + 2 + 6) = gcell m m0.1 (m0.2 + 2 + 6) /\
 gcell m1 m0.1 (m0.2 + 2 + 6) = gcell m m0.1 (m0.2 + 2 + 6) /\
 eqT m.size m.size (
 let m1_1 : Mem := scells m1 m.size 0 [.i v24_0, .i v24_1, .i v24_2, .s v24_3, .s v24_4, .s v24_5]
 ∃ v29 : Sl, gcell m1_1 m0.1 (m0.2 + 1) = some (Sl.v v29) /\
 eqT m.size m.size (
 0 <= v24_0 /\ v24_0 < (v29.len : Int) /\
 ∃ v34 : Sl, gcell m1_1 v29.blk (v29.off + Int.toNat v24_0 * 5 + 4) = some (Sl.v v34) /\
 eqT m.size m.size (
 0 <= v24_1 /\ v24_1 < (v34.len : Int) /\
 ∃ v38_0 : Int, gcell m1_1 v34.blk (v34.off + Int.toNat v24_1 * 6) = some (vi v38_0) /\
 ∃ v38_1 : Int, gcell m1_1 v34.blk (v34.off + Int.toNat v24_1 * 6 + 1) = some (vi v38_1) /\
 ∃ v38_2 : Int, gcell m1_1 v34.blk (v34.off + Int.toNat v24_1 * 6 + 2) = some (vi v38_2) /\
 ∃ v38_3 : Int, gcell m1_1 v34.blk (v34.off + Int.toNat v24_1 * 6 + 3) = some (vi v38_3) /\
 ∃ v38_4 : Sl, gcell m1_1 v34.blk (v34.off + Int.toNat v24_1 * 6 + 4) = some (Sl.v v38_4) /\
 ∃ v38_5 : Sl, gcell m1_1 v34.blk (v34.off + Int.toNat v24_1 * 6 + 5) = some (Sl.v v38_5) /\
 let m1_2 : Mem := m1_1.push (.cells (vals [.i 0, .i 0, .i 0, .i 0, .s Sl.nil, .s Sl.nil]) 86)
 gcell m1_2 v34.blk (v34.off + Int.toNat v24_1 * 6) = gcell m1_1 v34.blk (v34.off + Int.toNat v24_1 * 6) /\
 gcell m1_2 v34.blk (v34.off + Int.toNat v24_1 * 6 + 1) = gcell m1_1 v34.blk (v34.off + Int.toNat v24_1 * 6 + 1) /\
 gcell m1_2 v34.blk (v34.off + Int.toNat v24_1 * 6 + 2) = gcell m1_1 v34.blk (v34.off + Int.toNat v24_1 * 6 + 2) /\
 gcell m1_2 v34.blk (v34.off + Int.toNat v24_1 * 6 + 3) = gcell m1_1 v34.blk (v34.off + Int.toNat v24_1 * 6 + 3) /\
 gcell m1_2 v34.blk (v34.off + Int.toNat v24_1 * 6 + 4) = gcell m1_1 v34.blk (v34.off + Int.toNat v24_1 * 6 + 4) /\
 gcell m1_2 v34.blk (v34.off + Int.toNat v24_1 * 6 + 5) = gcell m1_1 v34.blk (v34.off + Int.toNat v24_1 * 6 + 5) /\
 gcell m1_2 m.size 1 = gcell m1_1 m.size 1 /\
 gcell m1_2 v29.blk (v29.off + Int.toNat v24_0 * 5 + 4) = gcell m1_1 v29.blk (v29.off + Int.toNat v24_0 * 5 + 4) /\
 gcell m1_2 m.size 0 = gcell m1_1 m.size 0 /\
 gcell m1_2 m0.1 (m0.2 + 1) = gcell m1_1 m0.1 (m0.2 + 1) /\
 eqT m1_1.size m1_1.size (
 let m1_3 : Mem := scells m1_2 m1_1.size 0 [.i v38_0, .i v38_1, .i v38_2, .i v38_3, .s v38_4, .s v38_5]
 eqT m1_1.size m1_1.size (
 q00 Tryz.prog qba [vi v38_0] m1_3 fun r m1_4 =>
 Sam [m1_1.size, m.size] m1_3 m1_4 /\
 ∃ r41 : Bool, r = vb r41 /\
 (r41 = true ->
 ∃ v47 : Int, gcell m1_4 m0.1 (m0.2 + 2 + 2) = some (vi v47) /\
 ∃ v52 : Int, gcell m1_4 m0.1 (m0.2 + 2 + 3) = some (vi v52) /\
 ((v47 == v52) = true ->
 wrOk m1_4 m0.1 (m0.2 + 2) 1 /\
 let m1_5 : Mem := scells m1_4 m0.1 (m0.2 + 2) [.i 1]
 Sam [m1_1.size, m.size] m1_4 m1_5 /\
 R (.tuple #[]) m1_5) /\
 ((v47 == v52) = false ->
 eqT m.size m.size (
 ∃ v63_0 : Sl, gcell m1_4 m0.1 m0.2 = some (Sl.v v63_0) /\
 ∃ v63_1 : Sl, gcell m1_4 m0.1 (m0.2 + 1) = some (Sl.v v63_1) /\
 eqT m1_1.size m1_1.size (
 q00 Tryz.prog q6i [.agg #[Sl.v v63_0, Sl.v v63_1], .agg #[vi v38_0, vi v38_1, vi v38_2, vi v38_3, Sl.v v38_4, Sl.v v38_5]] m1_4 fun r_1 m1_6 =>
 Sam [m1_1.size, m.size] m1_4 m1_6 /\
 ∃ r65 : Sl, r_1 = Sl.v r65 /\
 gcell m1_6 m.size 0 = gcell m1_4 m.size 0 /\
 gcell m1_6 m.size 1 = gcell m1_4 m.size 1 /\
 gcell m1_6 m.size 2 = gcell m1_4 m.size 2 /\
 gcell m1_6 m.size 3 = gcell m1_4 m.size 3 /\
 gcell m1_6 m.size 4 = gcell m1_4 m.size 4 /\
 gcell m1_6 m.size 5 = gcell m1_4 m.size 5 /\
 q00 Tryz.prog q5r [.agg #[vi v24_0, vi v24_1, vi v24_2, Sl.v v24_3, Sl.v v24_4, Sl.v v24_5], Sl.v r65] m1_6 fun r_2 m1_7 =>
 Sam [m1_1.size, m.size] m1_6 m1_7 /\
 ∃ r66 : Sl, r_2 = Sl.v r66 /\
 eqT m.size m.size (
 eqT m1_1.size m1_1.size (
 q00 Tryz.prog q3c [vp m0.1 m0.2, .agg #[vi v24_0, vi v24_1, vi v24_2, Sl.v v24_3, Sl.v v24_4, Sl.v v24_5], .agg #[vi v38_0, vi v38_1, vi v38_2, vi v38_3, Sl.v v38_4, Sl.v v38_5], Sl.v r66] m1_7 fun r_3 m1_8 =>
 Sam [m1_1.size, m.size] m1_7 m1_8 /\
 ∃ r71 : Bool, r_3 = vb r71 /\
 ((!r71) = true ->
 wrOk m1_8 m0.1 (m0.2 + 2) 1 /\
 let m1_9 : Mem := scells m1_8 m0.1 (m0.2 + 2) [.i 2]
 Sam [m1_1.size, m.size] m1_8 m1_9 /\
 R (.tuple #[]) m1_9) /\
 ((!r71) = false ->
 eqT m.size m.size (
 ∃ new : List Ce, new.length = Nat.min r66.len v24_4.len * 1 /\ rowIs m1_8 r66.blk r66.off new /\ wrOk m1_8 v24_4.blk v24_4.off new.length /\
 let m1_11 : Mem := scells m1_8 v24_4.blk v24_4.off new
 Sam [m1_1.size, m.size] m1_8 m1_11 /\
 eqT m.size m.size (
 eqT m1_1.size m1_1.size (
 q00 Tryz.prog q32 [vp m0.1 m0.2, .agg #[vi v24_0, vi v24_1, vi v24_2, Sl.v v24_3, Sl.v v24_4, Sl.v v24_5], .agg #[vi v38_0, vi v38_1, vi v38_2, vi v38_3, Sl.v v38_4, Sl.v v38_5]] m1_11 fun r_4 m1_12 =>
 Sam [m1_1.size, m.size] m1_11 m1_12 /\
 R (.tuple #[]) m1_12)))))))))) /\
 (r41 = false ->
 eqT m.size m.size (
 ∃ v63_0_1 : Sl, gcell m1_4 m0.1 m0.2 = some (Sl.v v63_0_1) /\
 ∃ v63_1_1 : Sl, gcell m1_4 m0.1 (m0.2 + 1) = some (Sl.v v63_1_1) /\
 eqT m1_1.size m1_1.size (
 q00 Tryz.prog q6i [.agg #[Sl.v v63_0_1, Sl.v v63_1_1], .agg #[vi v38_0, vi v38_1, vi v38_2, vi v38_3, Sl.v v38_4, Sl.v v38_5]] m1_4 fun r_5 m1_13 =>
 Sam [m1_1.size, m.size] m1_4 m1_13 /\
 ∃ r65_1 : Sl, r_5 = Sl.v r65_1 /\
 gcell m1_13 m.size 0 = gcell m1_4 m.size 0 /\
 gcell m1_13 m.size 1 = gcell m1_4 m.size 1 /\
 gcell m1_13 m.size 2 = gcell m1_4 m.size 2 /\
 gcell m1_13 m.size 3 = gcell m1_4 m.size 3 /\
 gcell m1_13 m.size 4 = gcell m1_4 m.size 4 /\
 gcell m1_13 m.size 5 = gcell m1_4 m.size 5 /\
 q00 Tryz.prog q5r [.agg #[vi v24_0, vi v24_1, vi v24_2, Sl.v v24_3, Sl.v v24_4, Sl.v v24_5], Sl.v r65_1] m1_13 fun r_6 m1_14 =>
 Sam [m1_1.size, m.size] m1_13 m1_14 /\
 ∃ r66_1 : Sl, r_6 = Sl.v r66_1 /\
 eqT m.size m.size (
 eqT m1_1.size m1_1.size (
 q00 Tryz.prog q3c [vp m0.1 m0.2, .agg #[vi v24_0, vi v24_1, vi v24_2, Sl.v v24_3, Sl.v v24_4, Sl.v v24_5], .agg #[vi v38_0, vi v38_1, vi v38_2, vi v38_3, Sl.v v38_4, Sl.v v38_5], Sl.v r66_1] m1_14 fun r_7 m1_15 =>
 Sam [m1_1.size, m.size] m1_14 m1_15 /\
 ∃ r71_1 : Bool, r_7 = vb r71_1 /\
 ((!r71_1) = true ->
 wrOk m1_15 m0.1 (m0.2 + 2) 1 /\
 let m1_16 : Mem := scells m1_15 m0.1 (m0.2 + 2) [.i 2]
 Sam [m1_1.size, m.size] m1_15 m1_16 /\
 R (.tuple #[]) m1_16) /\
 ((!r71_1) = false ->
 eqT m.size m.size (
 ∃ new_1 : List Ce, new_1.length = Nat.min r66_1.len v24_4.len * 1 /\ rowIs m1_15 r66_1.blk r66_1.off new_1 /\ wrOk m1_15 v24_4.blk v24_4.off new_1.length /\
 let m1_18 : Mem := scells m1_15 v24_4.blk v24_4.off new_1
 Sam [m1_1.size, m.size] m1_15 m1_18 /\
 eqT m.size m.size (
 eqT m1_1.size m1_1.size (
 q00 Tryz.prog q32 [vp m0.1 m0.2, .agg #[vi v24_0, vi v24_1, vi v24_2, Sl.v v24_3, Sl.v v24_4, Sl.v v24_5], .agg #[vi v38_0, vi v38_1, vi v38_2, vi v38_3, Sl.v v38_4, Sl.v v38_5]] m1_18 fun r_8 m1_19 =>
 Sam [m1_1.size, m.size] m1_18 m1_19 /\
 R (.tuple #[]) m1_19)))))))))))))))
theorem qdu (m0 : Nat × Nat) (m : Mem) (R : Value -> Mem -> Prop) (hvc : q8q m0 m R) : q00 Tryz.prog q5i [vp m0.1 m0.2] m R :=
 vcs (A := ⟨[(1, [0, 1, 2, 4, 8, 0, 32, 64, 128, 256, 512, 1024, 2064, 4096, 0, 32767], [0, 1, 3, 7, 15, 0, 32, 96, 224, 480, 992, 2016, 4095, 8191, 0, 32767]), (2, [0, 1, 2, 4, 8, 0, 32, 80, 128, 256, 0, 1024, 2560, 4096, 0, 32767], [0, 1, 3, 7, 15, 0, 32, 127, 255, 511, 0, 1024, 4095, 8191, 0, 32767]), (3, [0, 1, 2, 4, 8, 24, 40, 72, 136, 8, 520, 1032, 2056, 4104, 8456, 16392], [0, 1, 3, 7, 15, 31, 63, 127, 255, 15, 527, 1551, 3599, 7695, 16383, 32767]), (5, [0, 0, 2, 4, 8, 0, 48, 65, 255], [0, 0, 2, 6, 14, 0, 62, 127, 255])], [], [], []⟩) (n := 85) (rs := []) (args := [.c (.p m0.1 m0.2)]) (c := q05 Tryz.f55) Tryz.func55 hvc
def qg6 (a : Sl) (m : Mem) (R : Value -> Mem -> Prop) : Prop :=
 0 <= (a.len : Int) /\ (a.len : Int) <= (a.len : Int) /\ ((8 : Nat) : Int) * (a.len : Int) <= 281474976710656 /\ (a.len : Int) <= 9223372036854775807 /\
 let m1 : Mem := m.push (.cells (vals (zrow [.i 0] (Int.toNat (a.len : Int)))) 3)
 ∃ (I0 : Int -> Mem -> Prop) (μ0 : Int -> Mem -> Nat),
 I0 0 m1 /\
 (∀ (i : Int) (m1_1 : Mem), I0 i m1_1 ->
 ((decide (i < (a.len : Int))) = true ->
 0 <= i /\ i < (a.len : Int) /\
 ∃ v19 : Int, gcell m1_1 a.blk (a.off + Int.toNat i * 1) = some (vi v19) /\
 0 <= i /\ i < ((Sl.mk m.size 0 (Int.toNat (a.len : Int)) (Int.toNat (a.len : Int))).len : Int) /\
 wrOk m1_1 ((Sl.mk m.size 0 (Int.toNat (a.len : Int)) (Int.toNat (a.len : Int))).blk) ((Sl.mk m.size 0 (Int.toNat (a.len : Int)) (Int.toNat (a.len : Int))).off + Int.toNat i * 1) 1 /\
 let m1_2 : Mem := scells m1_1 ((Sl.mk m.size 0 (Int.toNat (a.len : Int)) (Int.toNat (a.len : Int))).blk) ((Sl.mk m.size 0 (Int.toNat (a.len : Int)) (Int.toNat (a.len : Int))).off + Int.toNat i * 1) [.i v19]
 I0 (w64 (i + 1)) m1_2 /\ μ0 (w64 (i + 1)) m1_2 < μ0 i m1_1) /\
 ((decide (i < (a.len : Int))) = false ->
 R (Sl.v (Sl.mk m.size 0 (Int.toNat (a.len : Int)) (Int.toNat (a.len : Int)))) m1_1))
theorem ql7 (a : Sl) (m : Mem) (R : Value -> Mem -> Prop) (hvc : qg6 a m R) : q00 Tryz.prog q3j [Sl.v a] m R :=
 vcs (A := ⟨[], [(3, [(4, .I)])], [], []⟩) (n := 22) (rs := [.tmp 2]) (args := [.c (.s a)]) (c := q05 Tryz.f56) Tryz.func56 hvc
def qfs (a_0 a_1 : Int) (a_2 : Sl) (left : Int) (m : Mem) (R : Value -> Mem -> Prop) : Prop :=
 let m1 : Mem := m.push (.cells (vals [.i a_0, .i a_1, .s a_2]) 109)
 eqT m.size m.size (
 q00 Tryz.prog qbe [Sl.v a_2, vi left] m1 fun r m1_1 =>
 Sam [m.size] m1 m1_1 /\
 ∃ r8 : Int, r = vi r8 /\
 ((decide (r8 < 0)) = true ->
 R (vi (-1)) m1_1) /\
 ((decide (r8 < 0)) = false ->
 R (vi r8) m1_1))
theorem ql6 (a_0 a_1 : Int) (a_2 : Sl) (left : Int) (m : Mem) (R : Value -> Mem -> Prop) (hvc : qfs a_0 a_1 a_2 left m R) : q00 Tryz.prog qbi [.agg #[vi a_0, vi a_1, Sl.v a_2], vi left] m R :=
 vcs (A := ⟨[], [], [], []⟩) (n := 12) (rs := [.tmp 4]) (args := [.agg [.i a_0, .i a_1, .s a_2], .c (.i left)]) (c := q05 Tryz.f68) Tryz.func68 hvc
end
end Go.Proofs.YtpggcodlaajceaaGreat
