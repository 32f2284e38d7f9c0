/- Part of a proof, joined by a program: VcQ VcR Rep Dat Tab Cn00 Cn01 Cn02 Cn03 Cn04 Cn05 Cn06 Cn07 Cn08. -/
import Derived.Test.YtpggcodlaajceaaGreatProg
import Derived.Test.YtpggcodlaajceaaGreatE01
section
/- Code: that its condition serves; functions. -/
namespace Go.Vc
variable {P : Program} {T : TT} {G : List Nat} {n : Nat} {A : Ann}
def LiftQ (n : Nat) (w0 : World) (M : List Nat) (a0 : Act) (Q : Exit -> Fr -> Mem -> Prop) : Exit -> Act -> World -> Prop
  | .panic _, _, _ => False
  | .outgrown, _, _ => False
  | e, a, w => ∃ fr', Rel n fr' a /\ Bx n fr' w.heap /\ Same w0 w /\ Keep M a0 a /\ Q e fr' w.heap
theorem LiftQ.mk {w0 : World} {M : List Nat} {a0 : Act} {fr' : Fr} {Q : Exit -> Fr -> Mem -> Prop} {e : Exit} {a : Act} {w : World} (he : (∀ c, e ≠ .panic c) /\ e ≠ .outgrown)
    (hR : Rel n fr' a) (hB : Bx n fr' w.heap) (hs : Same w0 w) (hk : Keep M a0 a) (hq : Q e fr' w.heap) : LiftQ n w0 M a0 Q e a w := by
  cases e with
  | panic c => exact absurd rfl (he.1 c)
  | outgrown => exact absurd rfl he.2
  | _ => exact ⟨fr', hR, hB, hs, hk, hq⟩
theorem LiftQ.out {w0 : World} {M : List Nat} {a0 : Act} {Q : Exit -> Fr -> Mem -> Prop} {e : Exit} {a : Act} {w : World} (h : LiftQ n w0 M a0 Q e a w) :
    ((∀ c, e ≠ .panic c) /\ e ≠ .outgrown) /\ ∃ fr', Rel n fr' a /\ Bx n fr' w.heap /\ Same w0 w /\ Keep M a0 a /\ Q e fr' w.heap := by
  cases e with
  | panic c => exact h.elim
  | outgrown => exact h.elim
  | _ => exact ⟨⟨by simp, by simp⟩, h⟩
theorem LiftQ.left {w0 : World} {M M' : List Nat} {a0 : Act} {Q : Exit -> Fr -> Mem -> Prop} {e : Exit} {a : Act} {w : World} (h : LiftQ n w0 M a0 Q e a w) : LiftQ n w0 (M ++ M') a0 Q e a w := by
  obtain ⟨he, fr', hR', hB', hs', hk', hq⟩ := h.out
  exact LiftQ.mk he hR' hB' hs' (hk'.mono (fun t ht => List.mem_append_left _ ht)) hq
theorem LiftQ.right {w0 : World} {M M' : List Nat} {a0 : Act} {Q : Exit -> Fr -> Mem -> Prop} {e : Exit} {a : Act} {w : World} (h : LiftQ n w0 M a0 Q e a w) : LiftQ n w0 (M' ++ M) a0 Q e a w := by
  obtain ⟨he, fr', hR', hB', hs', hk', hq⟩ := h.out
  exact LiftQ.mk he hR' hB' hs' (hk'.mono (fun t ht => List.mem_append_right _ ht)) hq
theorem qs7 {fr : Fr} {m : Mem} {op : Op} {x : SV} {k : SV -> Prop} (h : pureOp fr op = some x) (hk : k x) : isWr op = false /\ rd T fr m k op := by
  unfold pureOp at h
  split at h
  · split at h
    · simp at h
    · simp at h; subst h; exact ⟨rfl, hk⟩
  · split at h
    · simp at h
    · simp at h; subst h; exact ⟨rfl, hk⟩
  · rename_i o t y z ty
    split at h
    · rename_i a b ha hb
      refine ⟨rfl, ?_⟩
      simp only [rd, ha, hb]
      split at h <;> simp at h <;> subst h <;> exact hk
    · simp at h
  · simp at h
theorem qgz (ops0 : List Oper) {m : Mem} {k : Fr -> Mem -> Prop} : ∀ {ops : List Oper} {fr fr' : Fr}, pureOps n ops fr = some fr' -> k fr' m -> vcOps P T G n ops0 ops fr m k
  | [], fr, fr', h, hk => by simp [pureOps] at h; subst h; exact hk
  | o :: r, fr, fr', h, hk => by
    simp only [pureOps] at h
    simp only [vcOps]
    cases hd : dstOk n o.dst
    · rw [hd] at h; simp at h
    · rw [hd] at h
      simp only [cond_true] at h ⊢
      cases hg : o.guard with
      | some g => rw [hg] at h; simp at h
      | none =>
        rw [hg] at h
        simp only [gd] at h ⊢
        split at h
        · rename_i x hx
          obtain ⟨h1, h2⟩ := qs7 (T := T) (m := m) (k := fun x => vcOps P T G n ops0 r (fput fr o.dst x) m k) hx (qgz ops0 h hk)
          rw [h1]
          exact h2
        · simp at h
theorem orB_vc (t : Nat) {m : Mem} {Q : Exit -> Fr -> Mem -> Prop} : ∀ (c : Code) (fr : Fr) (y : Bool), orB A n t c fr = some y -> (∀ fr', boolOf (fget fr' t) = some y -> Q .normal fr' m) -> vc P T G n A c fr m Q
  | .region id ops draw, fr, y, h, hq => by
    cases draw
    · simp only [orB] at h
      simp only [vc, cond_false]
      split at h
      · rename_i fr' hfr
        exact qgz _ hfr (hq fr' h)
      · simp at h
    · simp [orB] at h
  | .seq (.region id ops false) (.cond (.tmp u) .skip c), fr, y, h, hq => by
    simp only [orB] at h
    split at h
    · simp at h
    · rename_i hcut
      cases hb : (Nat.beq u t && memN t (mods c))
      · rw [hb] at h; simp at h
      · rw [hb] at h
        simp only [cond_true] at h
        simp only [Bool.and_eq_true] at hb
        have hut := Nat.eq_of_beq_eq_true hb.1
        subst hut
        split at h
        · rename_i fr' hfr
          split at h
          · rename_i x y' hx hy'
            simp at h
            subst h
            rw [vc, hcut]
            simp only
            rw [vc]
            simp only [cond_false]
            refine qgz _ hfr ?_
            rw [vc]
            have hev : ev fr' (.tmp u) = (fget fr' u).nb := rfl
            rw [hev]
            cases hf : fget fr' u with
            | tt =>
              rw [hf] at hx
              simp [boolOf] at hx
              subst hx
              simp only [SV.nb, vc]
              exact hq fr' (by rw [hf]; simp [boolOf])
            | ff =>
              rw [hf] at hx
              simp [boolOf] at hx
              subst hx
              simp only [SV.nb]
              exact orB_vc u c fr' y' hy' (fun fr'' h'' => hq fr'' (by simpa using h''))
            | c z =>
              cases z with
              | t b =>
                rw [hf] at hx
                simp [boolOf] at hx
                subst hx
                simp only [SV.nb, orT, hb.2, cond_true, hy']
                exact hq _ (by simp [fget, boolOf])
              | _ => rw [hf] at hx; simp [boolOf] at hx
            | _ => rw [hf] at hx; simp [boolOf] at hx
          · simp at h
        · simp at h
theorem qso (hT : TOK P T) (hG : GOK P G) (hmix : P.follows .mixedOrders = true) (w0 : World) : ∀ (c : Code) (fr : Fr) (m : Mem) (Q : Exit -> Fr -> Mem -> Prop) (a : Act) (w : World),
    vc P T G n A c fr m Q -> Rel n fr a -> Bx n fr m -> w.heap = m -> Same w0 w -> c.wp P (LiftQ n w0 (mods c) a Q) a w := by
  intro c
  induction c with
  | skip =>
    intro fr m Q a w h hR hB hw hs
    subst hw
    exact wp_skip ⟨fr, hR, hB, hs, Keep.refl _ _, h⟩
  | region id ops draw =>
    intro fr m Q a w h hR hB hw hs
    simp only [vc] at h
    cases draw
    · simp only [cond_false] at h
      refine wp_region_list ?_
      exact q9r hT hG ops ops.toList fr m (Q .normal) a w (fun _ h => h) h hR hB hw hs (Keep.refl _ _) fun fr' a' w' hq hR' hB' hs' hk => ⟨fr', hR', hB', hs', hk, hq⟩
    · simp only [cond_true] at h
      split at h
      · rename_i pm bm hlk
        cases hc : (masksOk bm ops.toList pm bm && apartOk ops.toList pm 0 ops.toList bm)
        · rw [hc] at h; exact h.elim
        · rw [hc] at h
          simp only [Bool.and_eq_true] at hc
          refine wp_region_any hmix (qnv (bf := fun i r => Nat.testBit (nthD bm i) r) (L := []) _ _ _ _ ?_)
          have hsz : ops.toList.length = ops.size := by simp
          rw [hsz] at h
          refine qqm hT hG ops pm bm hc.1 hc.2 (fun c a w hx => hx) (w0 := w0) (a0 := a) ops.size 0 fr m [] (Q .normal) [] _ a _ h (fun x hx => by cases hx) ⟨by simp, fun i => by simp [Array.getElem?_replicate]; split <;> rfl⟩ (fun i hi => by simp [Array.getElem?_replicate] at hi; split at hi <;> simp at hi) hR hB hw ⟨hs.os, hs.tape, hs.output⟩ (Keep.refl _ _) fun fr' a' w' hq hR' hB' hs' hk => ⟨fr', hR', hB', hs', hk, hq⟩
      · exact h.elim
  | seq x y ihx ihy =>
    intro fr m Q a w h hR hB hw hs
    simp only [vc] at h
    refine wp_seq ?_
    split at h
    · refine Code.wp_mono ?_ (ihx fr m _ a w h hR hB hw hs)
      intro e a' w' hq
      obtain ⟨he, fr', hR', hB', hs', hk', hq⟩ := hq.out
      cases e with
      | normal =>
        refine Code.wp_mono ?_ (ihy fr' _ Q a' w' hq hR' hB' rfl hs')
        intro e a'' w'' hq
        obtain ⟨he, fr'', hR'', hB'', hs'', hk'', hq⟩ := hq.out
        exact LiftQ.mk he hR'' hB'' hs'' ((hk'.mono (fun t ht => List.mem_append_left _ ht)).trans (hk''.mono (fun t ht => List.mem_append_right _ ht))) hq
      | panic c => exact absurd rfl (he.1 c)
      | outgrown => exact absurd rfl he.2
      | exit i => exact LiftQ.mk (e := .exit i) he hR' hB' hs' (hk'.mono (fun t ht => List.mem_append_left _ ht)) hq
      | goto i => exact LiftQ.mk (e := .goto i) he hR' hB' hs' (hk'.mono (fun t ht => List.mem_append_left _ ht)) hq
      | ret => exact LiftQ.mk (e := .ret) he hR' hB' hs' (hk'.mono (fun t ht => List.mem_append_left _ ht)) hq
    · rename_i l hl
      cases hsl : slotsIn (mods x) l
      · rw [hsl] at h; exact h.elim
      rw [hsl] at h
      obtain ⟨K, h1, h2⟩ := h
      refine Code.wp_mono ?_ (ihx fr m _ a w h1 hR hB hw hs)
      intro e a' w' hq
      obtain ⟨he, fr', hR', hB', hs', hk', hq⟩ := hq.out
      cases e with
      | normal =>
        obtain ⟨hKe, hq⟩ := qlm hq
        obtain ⟨fr2, K', h3, h4, h4B, h5⟩ := qpu hR' (qcx (hR.tops _) hR'.size hR'.defers hk') (Bx.kept hB hB' hKe) hq h2
        refine Code.wp_mono ?_ (ihy fr2 _ Q a' w' (h3 _ h5) h4 h4B rfl hs')
        intro e a'' w'' hq
        obtain ⟨he, fr'', hR'', hB'', hs'', hk'', hq⟩ := hq.out
        exact LiftQ.mk he hR'' hB'' hs'' ((hk'.mono (fun t ht => List.mem_append_left _ ht)).trans (hk''.mono (fun t ht => List.mem_append_right _ ht))) hq
      | panic c => exact absurd rfl (he.1 c)
      | outgrown => exact absurd rfl he.2
      | exit i => exact LiftQ.mk (e := .exit i) he hR' hB' hs' (hk'.mono (fun t ht => List.mem_append_left _ ht)) hq
      | goto i => exact LiftQ.mk (e := .goto i) he hR' hB' hs' (hk'.mono (fun t ht => List.mem_append_left _ ht)) hq
      | ret => exact LiftQ.mk (e := .ret) he hR' hB' hs' (hk'.mono (fun t ht => List.mem_append_left _ ht)) hq
  | cond o x y ihx ihy =>
    intro fr m Q a w h hR hB hw hs
    simp only [vc] at h
    have href : ∀ {b : Bool}, a.eval o = .bool b -> Rel n (refine' fr o (if b then .tt else .ff)) a := by
      intro b hb
      unfold refine'
      split
      · rename_i t
        refine ⟨hR.size, hR.defers, fun u => ?_⟩
        simp only [fget]
        cases hbe : Nat.beq t u
        · exact hR.at' u
        · have := Nat.eq_of_beq_eq_true hbe
          subst this
          cases b <;> exact hb
      · exact hR
    have hrefB : ∀ {x : SV}, (∀ b e l, x ≠ .box b e l /\ x ≠ .boxF b e l) -> Bx n (refine' fr o x) m := by
      intro x hx
      unfold refine'
      split
      · exact hB.top hx
      · exact hB
    split at h
    · rename_i hc
      exact wp_cond_true (hR.eq hc rfl) (Code.wp_mono (fun _ _ _ h => h.left) (ihx fr m Q a w h hR hB hw hs))
    · rename_i hc
      exact wp_cond_false (hR.eq hc rfl) (Code.wp_mono (fun _ _ _ h => h.right) (ihy fr m Q a w h hR hB hw hs))
    · rename_i b hc
      have hcv : a.eval o = .bool b := hR.eq hc rfl
      split at h
      · rename_i t y' hor
        unfold orT at hor
        split at hor
        · rename_i t0
          cases hmm : memN t0 (mods y)
          · rw [hmm] at hor; simp at hor
          · rw [hmm] at hor
            simp only [cond_true] at hor
            split at hor
            · rename_i y0 hy0
              simp at hor
              obtain ⟨rfl, rfl⟩ := hor
              have hcv' : a.tmps.getD t0 undef = .bool b := hcv
              refine wp_cond_split hcv (fun ht => ?_) (fun ht => ?_)
              · subst hw
                subst ht
                refine wp_skip (LiftQ.mk (e := .normal) (fr' := (t0, .c (.t (true || y0))) :: tops (mods y) fr) ⟨by simp, by simp⟩ ?_ ((hB.tops _).top (by simp)) hs (Keep.refl _ _) h)
                have hb := qcx (M := mods y) hR hR.size hR.defers (Keep.refl _ a)
                refine ⟨hb.size, hb.defers, fun u => ?_⟩
                simp only [fget]
                cases hbe : Nat.beq t0 u
                · exact hb.at' u
                · have := Nat.eq_of_beq_eq_true hbe
                  subst this
                  simpa [SV.Is, SV.v, Ce.v] using hcv'
              · subst ht
                have hv := orB_vc (P := P) (T := T) (G := G) (A := A) (n := n) t0 (m := m) (Q := fun e fr' m' => e = .normal /\ m' = m /\ boolOf (fget fr' t0) = some y0) y fr y0 hy0 (fun fr' h' => ⟨rfl, rfl, h'⟩)
                refine Code.wp_mono ?_ (ihy fr m _ a w hv hR hB hw hs)
                intro e a' w' hq
                obtain ⟨he, fr', hR', hB', hs', hk', rfl, hm', hbo⟩ := hq.out
                refine LiftQ.mk (e := .normal) (fr' := (t0, .c (.t (false || y0))) :: tops (mods y) fr) he ?_ (by rw [hm']; exact (hB.tops _).top (by simp)) hs' (hk'.mono (fun t ht => List.mem_append_right _ ht)) (by rw [hm']; exact h)
                have hb := qcx (M := mods y) hR hR'.size hR'.defers hk'
                refine ⟨hb.size, hb.defers, fun u => ?_⟩
                simp only [fget]
                cases hbe : Nat.beq t0 u
                · exact hb.at' u
                · have := Nat.eq_of_beq_eq_true hbe
                  subst this
                  obtain ⟨hk1, hk2⟩ := qd0 hbo
                  have h3 := (hR'.at' t0).eq hk1
                  rw [hk2] at h3
                  simpa [SV.Is, SV.v, Ce.v] using h3
            · simp at hor
        · simp at hor
      · refine wp_cond_split hcv (fun ht => ?_) (fun ht => ?_)
        · subst ht
          exact Code.wp_mono (fun _ _ _ h => h.left) (ihx _ m Q a w (h.1 rfl) (href hcv) (hrefB (by simp)) hw hs)
        · subst ht
          exact Code.wp_mono (fun _ _ _ h => h.right) (ihy _ m Q a w (h.2 rfl) (href hcv) (hrefB (by simp)) hw hs)
    · exact h.elim
  | block id x ih =>
    intro fr m Q a w h hR hB hw hs
    simp only [vc] at h
    refine wp_block (Code.wp_mono ?_ (ih fr m _ a w h hR hB hw hs))
    intro e a' w' hq
    obtain ⟨he, fr', hR', hB', hs', hk', hq⟩ := hq.out
    cases e with
    | exit i =>
      simp only [Exit.inBlock]
      simp only at hq
      cases hb : Nat.beq i id
      · rw [hb] at hq
        have hne : i ≠ id := fun e => by subst e; simp at hb
        rw [if_neg hne]
        exact LiftQ.mk (e := .exit i) he hR' hB' hs' hk' hq
      · rw [hb] at hq
        rw [if_pos (Nat.eq_of_beq_eq_true hb)]
        exact LiftQ.mk (e := .normal) ⟨by simp, by simp⟩ hR' hB' hs' hk' hq
    | normal => exact LiftQ.mk (e := .normal) he hR' hB' hs' hk' hq
    | panic c => exact absurd rfl (he.1 c)
    | outgrown => exact absurd rfl he.2
    | goto i => exact LiftQ.mk (e := .goto i) he hR' hB' hs' hk' hq
    | ret => exact LiftQ.mk (e := .ret) he hR' hB' hs' hk' hq
  | loop x ih =>
    intro fr m Q a w h hR hB hw hs
    subst hw
    simp only [vc] at h
    split at h
    · exact h.elim
    · rename_i l hl
      cases hsl : slotsIn (mods x) l
      · rw [hsl] at h; exact h.elim
      rw [hsl] at h
      obtain ⟨I, μ, h0, h1⟩ := h
      let Inv : Nat -> Act -> World -> Prop := fun N a' w => ∃ fr' I' μ', Inst l I μ (tops (mods x) (bdrop n (kept A x) fr)) fr' I' μ' /\ Rel n fr' a' /\ Bx n fr' w.heap /\ I' w.heap /\ μ' w.heap = N /\ Same w0 w /\ Keep (mods x) a a'
      obtain ⟨fr1, I1, μ1, hi1, hR1, hB1, hI1⟩ := qow (μ := μ) hR (qcx (hR.tops _) hR.size hR.defers (Keep.refl (mods x) a)) (Bx.kept hB hB (fun _ _ => rfl)) h0
      refine qry Inv ?_ (μ1 w.heap) a w ⟨fr1, I1, μ1, hi1, hR1, hB1, hI1, rfl, hs, Keep.refl _ _⟩
      rintro N a1 w ⟨fr', I', μ', hi, hR', hB', hI', rfl, hs', hk1⟩
      have hbody := qot h1 hi w.heap hI'
      refine Code.wp_mono ?_ (ih fr' w.heap _ a1 w hbody hR' hB' rfl hs')
      intro e a' w' hq
      obtain ⟨he, fr2, hR2, hB2, hs2, hk2, hq⟩ := hq.out
      cases e with
      | normal =>
        obtain ⟨hKe, hq⟩ := qlm hq
        obtain ⟨fr3, I3, μ3, hi3, hR3, hB3, hI3, hlt⟩ := qov hR2 (qcx (hR.tops _) hR2.size hR2.defers (hk1.trans hk2)) (Bx.kept hB hB2 hKe) hq
        exact ⟨_, hlt, fr3, I3, μ3, hi3, hR3, hB3, hI3, rfl, hs2, hk1.trans hk2⟩
      | panic c => exact absurd rfl (he.1 c)
      | outgrown => exact absurd rfl he.2
      | exit i => exact LiftQ.mk (e := .exit i) he hR2 hB2 hs2 (hk1.trans hk2) hq
      | goto i => exact LiftQ.mk (e := .goto i) he hR2 hB2 hs2 (hk1.trans hk2) hq
      | ret => exact LiftQ.mk (e := .ret) he hR2 hB2 hs2 (hk1.trans hk2) hq
  | exit id =>
    intro fr m Q a w h hR hB hw hs
    subst hw
    exact wp_exit ⟨fr, hR, hB, hs, Keep.refl _ _, h⟩
  | ret =>
    intro fr m Q a w h hR hB hw hs
    subst hw
    exact wp_ret ⟨fr, hR, hB, hs, Keep.refl _ _, h⟩
  | rangeFunc f ps x y _ _ => intro fr m Q a w h; exact h.elim
  | scope x _ => intro fr m Q a w h; exact h.elim
  | label l => intro fr m Q a w h; exact h.elim
  | goto l => intro fr m Q a w h; exact h.elim
  | refuse s => intro fr m Q a w h; exact h.elim
def argFr : Nat -> List SV -> Fr
  | _, [] => []
  | i, x :: r => (i, x) :: argFr (i + 1) r
def resL (T : TT) (fr : Fr) (m : Mem) : List ResultVar -> (List SV -> Prop) -> Prop
  | [], k => k []
  | .tmp t :: r, k => bif (fget fr t).known then resL T fr m r fun l => k (fget fr t :: l) else False
  | .cell p t :: r, k => rd T fr m (fun x => bif x.known then resL T fr m r fun l => k (x :: l) else False) (.load t (.tmp p))
def resF (T : TT) (rs : List ResultVar) (fr : Fr) (m : Mem) (R : Value -> Mem -> Prop) : Prop :=
  resL T fr m rs fun
    | [x] => R x.v m
    | l => R (.tuple (l.map SV.v).toArray) m
def vcFn (P : Program) (T : TT) (G : List Nat) (A : Ann) (n : Nat) (rs : List ResultVar) (c : Code) (args : List SV) (m : Mem) (R : Value -> Mem -> Prop) : Prop :=
  vc P T G n A c (argFr 0 args) m fun
    | .normal, fr, m => resF T rs fr m R
    | .ret, fr, m => resF T rs fr m R
    | _, _, _ => False
theorem qj1 : ∀ (args : List SV) (i t : Nat), (t < i /\ fget (argFr i args) t = .top) \/ (i <= t /\ fget (argFr i args) t = args.getD (t - i) .top)
  | [], i, t => by
    rcases Nat.lt_or_ge t i with h | h
    · exact Or.inl ⟨h, rfl⟩
    · exact Or.inr ⟨h, by simp [argFr, fget]⟩
  | x :: r, i, t => by
    simp only [argFr, fget]
    cases hb : Nat.beq i t
    · have hne : i ≠ t := fun e => by subst e; simp at hb
      rcases qj1 r (i + 1) t with ⟨h1, h2⟩ | ⟨h1, h2⟩
      · exact Or.inl ⟨by omega, h2⟩
      · refine Or.inr ⟨by omega, ?_⟩
        have e : t - i = (t - (i + 1)) + 1 := by omega
        rw [e, List.getD_cons_succ]
        exact h2
    · have := Nat.eq_of_beq_eq_true hb
      subst this
      exact Or.inr ⟨Nat.le_refl _, by simp⟩
def resOne (tmps : Array Value) : ResultVar -> Sem Value
  | .tmp t => pure (tmps.getD t undef)
  | .cell p t => do loadVar t (← asAddr (tmps.getD p undef))
theorem qrl (fn : Func) (tmps : Array Value) : results fn tmps = (do
    let vs ← fn.results.mapM (resOne tmps)
    pure (if h : vs.size = 1 then vs[0] else .tuple vs)) := by
  unfold results
  congr 2
theorem qi8 {fr : Fr} {a : Act} (hT : TOK P T) (hR : Rel n fr a) : ∀ (rs : List ResultVar) (k : List SV -> Prop) (w : World), Bx n fr w.heap -> resL T fr w.heap rs k ->
    ∃ l, k l /\ (rs.mapM (resOne a.tmps)).run P w = .ok (l.map SV.v) w
  | [], k, w, _, h => ⟨[], h, by simp⟩
  | .tmp t :: r, k, w, hB, h => by
    simp only [resL] at h
    cases hk : (fget fr t).known
    · rw [hk] at h; exact h.elim
    · rw [hk] at h
      obtain ⟨l, h1, h2⟩ := qi8 hT hR r _ w hB h
      refine ⟨_, h1, ?_⟩
      have hv := (hR.at' t).eq hk
      have e1 : resOne a.tmps (.tmp t) = pure (a.tmps.getD t undef) := rfl
      simp only [List.mapM_cons, Sem.run_bind, Sem.run_pure, Result.andThen_ok, h2, List.map_cons, hv, e1]
  | .cell p t :: r, k, w, hB, hrd => by
    obtain ⟨x, v, hx, hv, hrun⟩ := qm5 (P := P) hT hR hB ⟨none, .load t (.tmp p), 0, "", #[], none⟩ hrd
    have hrun := hrun w (fun q _ => rfl)
    cases hkx : x.known
    · rw [hkx] at hx; exact hx.elim
    rw [hkx] at hx
    obtain ⟨l, h1, h2⟩ := qi8 hT hR r _ w hB hx
    refine ⟨_, h1, ?_⟩
    have hpp : ∃ b o, a.tmps.getD p undef = .pointer (some ⟨b, o, none⟩) := by
      have hat := SV.nb_is (hR.at' p)
      simp only [resL, rd, ev] at hrd
      split at hrd
      · rename_i b o hp
        rw [hp] at hat
        exact ⟨b, o, hat⟩
      · rename_i q b o hp
        rw [hp] at hat
        exact ⟨b, o, hat⟩
      · exact hrd.elim
    obtain ⟨b, o, hpv⟩ := hpp
    simp only [execOp, Instr.loadAt, Act.eval, hpv, Instr.sureAddr, Sem.run_bind, Sem.run_pure, Result.andThen_ok] at hrun
    have hl : (loadVar t ⟨b, o, none⟩).run P w = .ok v w := by
      cases hr : (loadVar t ⟨b, o, none⟩).run P w with
      | ok u w' =>
        rw [hr] at hrun
        simp at hrun
        rw [hrun.1, hrun.2]
      | halt e w' => rw [hr] at hrun; simp at hrun
    have hxk : v = x.v := hv.eq hkx
    have e1 : (resOne a.tmps (.cell p t)).run P w = .ok v w := by
      simp only [resOne, hpv, Sem.run_bind, asAddr, Sem.run_pure, Result.andThen_ok, hl]
    simp only [List.mapM_cons, Sem.run_bind, Sem.run_pure, Result.andThen_ok, e1, h2, List.map_cons, hxk]
theorem qre (hT : TOK P T) (hG : GOK P G) (hmix : P.follows .mixedOrders = true) {f : FuncId} {fn : Func} {c : Code} {rs : List ResultVar} {args : List SV} {m : Mem} {R : Value -> Mem -> Prop}
    (hf : P.funcs[f]? = some fn) (hb : fn.body = some c) (hn : fn.ntmps = n) (hrs : fn.results = rs.toArray) (hargs : args.all SV.known = true) (hle : args.length <= n)
    (h : vcFn P T G A n rs c args m R) : CallV P f (args.map SV.v) m R := by
  intro w hw
  refine calls_of_wp hf hb ?_
  have hR : Rel n (argFr 0 args) { tmps := (args.map SV.v).toArray ++ Array.replicate (fn.ntmps - (args.map SV.v).toArray.size) undef, defers := [] } := by
    refine ⟨by simp [hn]; omega, rfl, fun t => ?_⟩
    rcases qj1 args 0 t with ⟨h1, _⟩ | ⟨_, h2⟩
    · omega
    · rw [h2, Nat.sub_zero]
      rcases Nat.lt_or_ge t args.length with hlt | hge
      · have hk : (args[t]).known = true := List.all_eq_true.1 hargs _ (List.getElem_mem hlt)
        have e1 : args.getD t .top = args[t] := by simp [hlt]
        rw [e1]
        have e2 : ((args.map SV.v).toArray ++ Array.replicate (fn.ntmps - (args.map SV.v).toArray.size) undef).getD t undef = (args[t]).v := by
          simp [Array.getElem?_append, hlt]
        rw [e2]
        exact is_v _
      · have e1 : args.getD t .top = .top := by simp [List.getElem?_eq_none hge]
        rw [e1]; trivial
  have hnb : ∀ {q b e l}, ¬ boxAt (argFr 0 args) q b e l := by
    intro q b e l hx
    rcases qj1 args 0 q with ⟨h1, _⟩ | ⟨_, h2⟩
    · omega
    · unfold boxAt at hx
      rw [h2, Nat.sub_zero] at hx
      rcases Nat.lt_or_ge q args.length with hlt | hge
      · have hk : (args[q]).known = true := List.all_eq_true.1 hargs _ (List.getElem_mem hlt)
        have e1 : args.getD q .top = args[q] := by simp [hlt]
        rw [e1] at hx
        rcases hx with hx | hx <;> rw [hx] at hk <;> simp [SV.known] at hk
      · have e1 : args.getD q .top = .top := by simp [List.getElem?_eq_none hge]
        rw [e1] at hx; simp at hx
  have hB : Bx n (argFr 0 args) m := ⟨fun _ _ _ _ h => absurd h hnb, fun _ _ _ _ _ _ _ _ _ h => absurd h hnb, fun _ _ _ _ h => absurd h hnb⟩
  refine Code.wp_mono ?_ (qso hT hG hmix w c _ m _ _ w h hR hB hw (Same.refl w))
  intro e a' w' hq
  obtain ⟨he, fr', hR', hB', hs', hk', hq⟩ := hq.out
  have hfin : ∀ (hq : resF T rs fr' w'.heap R), a'.defers = [] /\ ∃ v, (results fn a'.tmps).run P w' = .ok v w' /\ ∃ v', Ending.returned v = .returned v' /\ Same w w' /\ R v' w'.heap := by
    intro hq
    refine ⟨hR'.defers, ?_⟩
    obtain ⟨l, h1, h2⟩ := qi8 hT hR' rs _ w' hB' hq
    have hres : (results fn a'.tmps).run P w' = .ok (if h : (l.map SV.v).toArray.size = 1 then (l.map SV.v).toArray[0] else .tuple (l.map SV.v).toArray) w' := by
      rw [qrl, hrs, Array.mapM_eq_mapM_toList]
      simp only [Sem.run_bind, Sem.run_map]
      rw [h2]
      rfl
    refine ⟨_, hres, _, rfl, hs', ?_⟩
    cases l with
    | nil => exact h1
    | cons x l => cases l with
      | nil => exact h1
      | cons y l => exact h1
  cases e with
  | normal => exact hfin hq
  | ret => exact hfin hq
  | exit i => exact hq.elim
  | goto i => exact hq.elim
  | panic c => exact absurd rfl (he.1 c)
  | outgrown => exact absurd rfl he.2
end Go.Vc
end
section
/- Short words for values in conditions. -/
namespace Go.Vc
abbrev vi (n : Int) : Value := .int .i64 n
abbrev vb (b : Bool) : Value := .bool b
abbrev vp (b o : Nat) : Value := .pointer (some ⟨b, o, none⟩)
def bodyOf (f : Func) : Code :=
  match f.body with
  | some c => c
  | none => .skip
end Go.Vc
end
section
/- How plain data lie in memory; what grows leaves the old as it was. -/
namespace Go.Vc
structure Ext (m m' : Mem) : Prop where
  size : m.size <= m'.size
  same : ∀ b, b < m.size -> m'[b]? = m[b]?
theorem Ext.refl (m : Mem) : Ext m m := ⟨Nat.le_refl _, fun _ _ => rfl⟩
theorem Ext.trans {a b c : Mem} (h : Ext a b) (k : Ext b c) : Ext a c :=
  ⟨Nat.le_trans h.size k.size, fun i hi => (k.same i (Nat.lt_of_lt_of_le hi h.size)).trans (h.same i hi)⟩
theorem Ext.push (m : Mem) (o : Obj) : Ext m (m.push o) :=
  ⟨by simp, fun b hb => by rw [Array.getElem?_push, if_neg (by omega)]⟩
theorem Ext.pushed {a m : Mem} (h : Ext a m) (o : Obj) : Ext a (m.push o) := h.trans (Ext.push m o)
theorem Ext.scells {a m : Mem} (h : Ext a m) {b : Nat} (hb : a.size <= b) (o : Nat) (l : List Ce) : Ext a (scells m b o l) :=
  ⟨by rw [q02]; exact h.size, fun j hj => by rw [q0f l m b o (by omega)]; exact h.same j hj⟩
theorem Ext.gcell {m m' : Mem} (h : Ext m m') {b o : Nat} {v : Value} (hg : gcell m b o = some v) : gcell m' b o = some v := by
  rw [q10 (h.same b (q5d hg))]; exact hg
theorem Ext.row {m m' : Mem} (h : Ext m m') {b o : Nat} {l : List Ce} (hr : rowIs m b o l) : rowIs m' b o l := fun i c hc => h.gcell (hr i c hc)
theorem Blk.ext {m m' : Mem} (h : Ext m m') {b e : Nat} {l : List Ce} (hb : Blk m b e l) : Blk m' b e l := by
  unfold Blk at *; rw [h.same b (Array.getElem?_eq_some_iff.1 hb).1]; exact hb
structure SlOf {α : Type} (m : Mem) (sz : Nat) (R : List Ce -> α -> Prop) (s : Sl) (l : List α) : Prop where
  len : s.len = l.length
  cap : s.len <= s.cap
  lim : s.len <= 9223372036854775807
  row : ∀ (k : Nat) (x : α), l[k]? = some x -> ∃ cs, R cs x /\ rowIs m s.blk (s.off + k * sz) cs
theorem SlOf.mono {α : Type} {m m' : Mem} {sz : Nat} {R R' : List Ce -> α -> Prop} {s : Sl} {l : List α} (h : SlOf m sz R s l) (hm : Ext m m') (hR : ∀ cs x, R cs x -> R' cs x) : SlOf m' sz R' s l :=
  ⟨h.len, h.cap, h.lim, fun k x hk => let ⟨cs, h1, h2⟩ := h.row k x hk; ⟨cs, hR _ _ h1, hm.row h2⟩⟩
def IntR (cs : List Ce) (n : Int) : Prop := cs = [.i n]
abbrev IntSl (m : Mem) (s : Sl) (l : List Int) : Prop := SlOf m 1 IntR s l
theorem IntSl.at' {m : Mem} {s : Sl} {l : List Int} (h : IntSl m s l) {k : Nat} {x : Int} (hk : l[k]? = some x) : gcell m s.blk (s.off + k * 1) = some (vi x) := by
  obtain ⟨cs, rfl, hr⟩ := h.row k x hk
  exact hr 0 (.i x) rfl
theorem IntSl.ext {m m' : Mem} (hm : Ext m m') {s : Sl} {l : List Int} (h : IntSl m s l) : IntSl m' s l := h.mono hm fun _ _ h => h
theorem q00 {α : Type} {l : List α} {k : Nat} (h : k < l.length) : ∃ x, l[k]? = some x := ⟨l[k], by simp [h]⟩
theorem q03 {α : Type} {l : List α} {k : Nat} {x : α} (h : l[k]? = some x) : k < l.length := (List.getElem?_eq_some_iff.1 h).1
theorem q04 {α : Type} {l : List α} {k : Nat} {x : α} (h : l[k]? = some x) : l.take (k + 1) = l.take k ++ [x] := by
  rw [List.take_add_one, h]; rfl
theorem q0a {α : Type} {l : List α} {k : Nat} (h : l.length <= k) : l.take k = l := List.take_of_length_le h
def Gets (P : Program) (f : Nat) (args : List Value) (m : Mem) (v : Value) : Prop := CallV P f args m fun v' m' => v' = v /\ Ext m m'
theorem CallV.post {P : Program} {f : Nat} {args : List Value} {m : Mem} {K K' : Value -> Mem -> Prop} (h : CallV P f args m K) (hk : ∀ v m', K v m' -> K' v m') : CallV P f args m K' := h.mono hk
theorem Gets.then {P : Program} {f : Nat} {args : List Value} {m : Mem} {v : Value} {K : Value -> Mem -> Prop} (h : Gets P f args m v) (hk : ∀ m', Ext m m' -> K v m') : CallV P f args m K :=
  h.mono fun _ _ ⟨he, hx⟩ => he ▸ hk _ hx
theorem Sl.v_inj {s t : Sl} : s.v = t.v ↔ s = t := by
  refine ⟨fun h => ?_, fun h => h ▸ rfl⟩
  cases s <;> cases t <;> simp_all [Sl.v]
theorem Ext.sam {m m' : Mem} (h : Ext m m') {l : List Nat} (hl : ∀ b ∈ l, b < m.size) : Sam l m m' := fun b hb => h.same b (hl b hb)
theorem Ext.lt {m m' : Mem} (h : Ext m m') {b : Nat} (hb : b < m.size) : b < m'.size := Nat.lt_of_lt_of_le hb h.size
theorem Ext.keepG {m m' : Mem} (h : Ext m m') {b o : Nat} {v : Value} (hg : Vc.gcell m b o = some v) : Vc.gcell m' b o = Vc.gcell m b o := by rw [h.gcell hg, hg]
theorem q90 {k n : Nat} (h : k < n) (hn : n <= 9223372036854775807) : w64 ((k : Int) + 1) = ((k + 1 : Nat) : Int) := by rw [w64_in (by omega) (by omega)]; rfl
theorem mu_lt {n k : Nat} (h : k < n) : ((n : Int) - ((k + 1 : Nat) : Int)).toNat < ((n : Int) - (k : Int)).toNat := by omega
theorem forI {n : Nat} (hn : n <= 9223372036854775807) {m : Mem} {Body : (Int -> Mem -> Prop) -> (Int -> Mem -> Nat) -> Int -> Mem -> Prop} (Q : Nat -> Mem -> Prop) (h0 : Q 0 m)
    (h : ∀ (k : Nat) (m1 : Mem) (I : Int -> Mem -> Prop) (μ : Int -> Mem -> Nat), k <= n -> Q k m1 ->
      (k < n -> ∀ m', Q (k + 1) m' -> I (w64 ((k : Int) + 1)) m' /\ μ (w64 ((k : Int) + 1)) m' < μ k m1) -> Body I μ k m1) :
    ∃ (I : Int -> Mem -> Prop) (μ : Int -> Mem -> Nat), I 0 m /\ ∀ i m1, I i m1 -> Body I μ i m1 := by
  refine ⟨fun i m' => ∃ k : Nat, i = k /\ k <= n /\ Q k m', fun i _ => (n - i).toNat, ⟨0, rfl, Nat.zero_le _, h0⟩, ?_⟩
  rintro i m1 ⟨k, rfl, hk, hq⟩
  refine h k m1 _ _ hk hq fun hlt m' hq' => ?_
  rw [q90 hlt hn]
  exact ⟨⟨k + 1, rfl, hlt, hq'⟩, mu_lt hlt⟩
theorem forSI {σ : Type} {n : Nat} (hn : n <= 9223372036854775807) {m : Mem} {s0 : σ} {Body : (σ -> Int -> Mem -> Prop) -> (σ -> Int -> Mem -> Nat) -> σ -> Int -> Mem -> Prop} (Q : Nat -> σ -> Mem -> Prop) (h0 : Q 0 s0 m)
    (h : ∀ (k : Nat) (s : σ) (m1 : Mem) (I : σ -> Int -> Mem -> Prop) (μ : σ -> Int -> Mem -> Nat), k <= n -> Q k s m1 ->
      (k < n -> ∀ s' m', Q (k + 1) s' m' -> I s' (w64 ((k : Int) + 1)) m' /\ μ s' (w64 ((k : Int) + 1)) m' < μ s k m1) -> Body I μ s k m1) :
    ∃ (I : σ -> Int -> Mem -> Prop) (μ : σ -> Int -> Mem -> Nat), I s0 0 m /\ ∀ s i m1, I s i m1 -> Body I μ s i m1 := by
  refine ⟨fun s i m' => ∃ k : Nat, i = k /\ k <= n /\ Q k s m', fun _ i _ => (n - i).toNat, ⟨0, rfl, Nat.zero_le _, h0⟩, ?_⟩
  rintro s i m1 ⟨k, rfl, hk, hq⟩
  refine h k s m1 _ _ hk hq fun hlt s' m' hq' => ?_
  rw [q90 hlt hn]
  exact ⟨⟨k + 1, rfl, hlt, hq'⟩, mu_lt hlt⟩
def GetsB (P : Program) (f : Nat) (args : List Value) (m : Mem) (p : Prop) : Prop := CallV P f args m fun v m' => ∃ b : Bool, v = .bool b /\ (b = true ↔ p) /\ Ext m m'
theorem GetsB.then {P : Program} {f : Nat} {args : List Value} {m : Mem} {p : Prop} {K : Value -> Mem -> Prop} (h : GetsB P f args m p) (hk : ∀ (b : Bool) m', (b = true ↔ p) -> Ext m m' -> K (.bool b) m') : CallV P f args m K :=
  h.mono fun _ _ ⟨b, he, hb, hx⟩ => he ▸ hk b _ hb hx
theorem GetsB.thenS {P : Program} {f : Nat} {args : List Value} {m m0 : Mem} {p : Prop} {K : Value -> Mem -> Prop} {l : List Nat} (h : GetsB P f args m p) (hx : Ext m0 m) (hl : ∀ b ∈ l, b < m0.size)
    (hk : ∀ (b : Bool) m', (b = true ↔ p) -> Ext m m' -> Ext m0 m' -> K (.bool b) m') : CallV P f args m fun v m' => Sam l m m' /\ K v m' :=
  h.mono fun _ _ ⟨b, he, hb, h2⟩ => ⟨h2.sam fun c hc => hx.lt (hl c hc), he ▸ hk b _ hb h2 (hx.trans h2)⟩
theorem Gets.thenS {P : Program} {f : Nat} {args : List Value} {m m0 : Mem} {v : Value} {K : Value -> Mem -> Prop} {l : List Nat} (h : Gets P f args m v) (hx : Ext m0 m) (hl : ∀ b ∈ l, b < m0.size)
    (hk : ∀ m', Ext m m' -> Ext m0 m' -> K v m') : CallV P f args m fun v m' => Sam l m m' /\ K v m' :=
  h.mono fun _ _ ⟨he, h2⟩ => ⟨h2.sam fun c hc => hx.lt (hl c hc), he ▸ hk _ h2 (hx.trans h2)⟩
theorem CallV.thenS {P : Program} {f : Nat} {args : List Value} {m m0 : Mem} {K K' : Value -> Mem -> Prop} {l : List Nat} (h : CallV P f args m K) (hx : Ext m0 m) (hl : ∀ b ∈ l, b < m0.size)
    (hk : ∀ v m', K v m' -> Ext m m' /\ K' v m') : CallV P f args m fun v m' => Sam l m m' /\ K' v m' :=
  h.mono fun v m' hv => ⟨(hk v m' hv).1.sam fun c hc => hx.lt (hl c hc), (hk v m' hv).2⟩
theorem retB {m m' : Mem} {p : Prop} {b : Bool} (h : b = true ↔ p) (hx : Ext m m') : ∃ b' : Bool, Value.bool b = .bool b' /\ (b' = true ↔ p) /\ Ext m m' := ⟨b, rfl, h, hx⟩
theorem retF {m m' : Mem} {p : Prop} (h : ¬ p) (hx : Ext m m') : ∃ b' : Bool, Value.bool false = .bool b' /\ (b' = true ↔ p) /\ Ext m m' := ⟨false, rfl, by simp [h], hx⟩
theorem retT {m m' : Mem} {p : Prop} (h : p) (hx : Ext m m') : ∃ b' : Bool, Value.bool true = .bool b' /\ (b' = true ↔ p) /\ Ext m m' := ⟨true, rfl, by simp [h], hx⟩
theorem nb {b : Bool} {p : Prop} (hb : b = true ↔ p) (h : (!b) = true) : ¬ p := fun hp => by simp [hb.2 hp] at h
theorem yb {b : Bool} {p : Prop} (hb : b = true ↔ p) (h : (!b) = false) : p := hb.1 (by simpa using h)
theorem fb {b : Bool} {p : Prop} (hb : b = true ↔ p) (h : b = false) : ¬ p := fun hp => by simp [hb.2 hp] at h
theorem q0b {α : Type} {l : List α} {k : Nat} {x : α} {p : α -> Prop} (hx : l[k]? = some x) (h : ∀ y ∈ l.take k, p y) (hp : p x) : ∀ y ∈ l.take (k + 1), p y := by
  rw [q04 hx]
  intro y hy
  rcases List.mem_append.1 hy with hy | hy
  · exact h y hy
  · simp at hy; subst hy; exact hp
theorem q0j {α : Type} {l : List α} {k : Nat} {p : α -> Prop} (hk : l.length <= k) (h : ∀ y ∈ l.take k, p y) : ∀ y ∈ l, p y := by rw [← q0a hk]; exact h
theorem q01 {α : Type} {l : List α} {k : Nat} {x : α} (h : l[k]? = some x) : x ∈ l := List.mem_of_getElem? h
end Go.Vc
end
section
/- The program's data as plain data, and how they lie in memory. -/
namespace Go.Vc
structure Decl where
  frm : Int
  to : Int
  cons : List (List Int)
structure Instr where
  op : Int
  dst : Int
  num : Int
  into : Int
  args : List Int
  jumps : List Int
structure Proc where
  params : List Int
  lent : List Int
  result : Int
  regs : Int
  code : List Instr
structure Image where
  decls : List Decl
  procs : List Proc
def ConR (m : Mem) (cs : List Ce) (c : List Int) : Prop := ∃ f, cs = [.s f] /\ IntSl m f c
def DeclR (m : Mem) (cs : List Ce) (d : Decl) : Prop := ∃ f, cs = [.i d.frm, .i d.to, .s f] /\ SlOf m 1 (ConR m) f d.cons
def InstrR (m : Mem) (cs : List Ce) (x : Instr) : Prop := ∃ a j, cs = [.i x.op, .i x.dst, .i x.num, .i x.into, .s a, .s j] /\ IntSl m a x.args /\ IntSl m j x.jumps
def ProcR (m : Mem) (cs : List Ce) (p : Proc) : Prop :=
  ∃ a l c, cs = [.s a, .s l, .i p.result, .i p.regs, .s c] /\ IntSl m a p.params /\ IntSl m l p.lent /\ SlOf m 6 (InstrR m) c p.code
abbrev ConSl (m : Mem) (s : Sl) (l : List (List Int)) : Prop := SlOf m 1 (ConR m) s l
abbrev DeclSl (m : Mem) (s : Sl) (l : List Decl) : Prop := SlOf m 3 (DeclR m) s l
abbrev InstrSl (m : Mem) (s : Sl) (l : List Instr) : Prop := SlOf m 6 (InstrR m) s l
abbrev ProcSl (m : Mem) (s : Sl) (l : List Proc) : Prop := SlOf m 5 (ProcR m) s l
structure ImageR (m : Mem) (d p : Sl) (im : Image) : Prop where
  decls : DeclSl m d im.decls
  procs : ProcSl m p im.procs
theorem ConR.ext {m m' : Mem} (hm : Ext m m') (cs : List Ce) (c : List Int) : ConR m cs c -> ConR m' cs c := fun ⟨f, h1, h2⟩ => ⟨f, h1, h2.ext hm⟩
theorem ConSl.ext {m m' : Mem} (hm : Ext m m') {s : Sl} {l : List (List Int)} (h : ConSl m s l) : ConSl m' s l := h.mono hm (ConR.ext hm)
theorem DeclR.ext {m m' : Mem} (hm : Ext m m') (cs : List Ce) (c : Decl) : DeclR m cs c -> DeclR m' cs c := fun ⟨f, h1, h2⟩ => ⟨f, h1, ConSl.ext hm h2⟩
theorem DeclSl.ext {m m' : Mem} (hm : Ext m m') {s : Sl} {l : List Decl} (h : DeclSl m s l) : DeclSl m' s l := h.mono hm (DeclR.ext hm)
theorem InstrR.ext {m m' : Mem} (hm : Ext m m') (cs : List Ce) (c : Instr) : InstrR m cs c -> InstrR m' cs c := fun ⟨a, j, h1, h2, h3⟩ => ⟨a, j, h1, h2.ext hm, h3.ext hm⟩
theorem InstrSl.ext {m m' : Mem} (hm : Ext m m') {s : Sl} {l : List Instr} (h : InstrSl m s l) : InstrSl m' s l := h.mono hm (InstrR.ext hm)
theorem ProcR.ext {m m' : Mem} (hm : Ext m m') (cs : List Ce) (c : Proc) : ProcR m cs c -> ProcR m' cs c := fun ⟨a, l, c, h1, h2, h3, h4⟩ => ⟨a, l, c, h1, h2.ext hm, h3.ext hm, InstrSl.ext hm h4⟩
theorem ProcSl.ext {m m' : Mem} (hm : Ext m m') {s : Sl} {l : List Proc} (h : ProcSl m s l) : ProcSl m' s l := h.mono hm (ProcR.ext hm)
theorem ImageR.ext {m m' : Mem} (hm : Ext m m') {d p : Sl} {im : Image} (h : ImageR m d p im) : ImageR m' d p im := ⟨DeclSl.ext hm h.decls, ProcSl.ext hm h.procs⟩
theorem ConSl.at' {m : Mem} {s : Sl} {l : List (List Int)} (h : ConSl m s l) {k : Nat} {x : List Int} (hk : l[k]? = some x) :
    ∃ f, IntSl m f x /\ gcell m s.blk (s.off + k * 1) = some (Sl.v f) := by
  obtain ⟨cs, ⟨f, rfl, hf⟩, hr⟩ := h.row k x hk
  exact ⟨f, hf, hr 0 (.s f) rfl⟩
theorem DeclSl.at' {m : Mem} {s : Sl} {l : List Decl} (h : DeclSl m s l) {k : Nat} {x : Decl} (hk : l[k]? = some x) :
    ∃ f, ConSl m f x.cons /\ gcell m s.blk (s.off + k * 3) = some (vi x.frm) /\ gcell m s.blk (s.off + k * 3 + 1) = some (vi x.to) /\ gcell m s.blk (s.off + k * 3 + 2) = some (Sl.v f) := by
  obtain ⟨cs, ⟨f, rfl, hf⟩, hr⟩ := h.row k x hk
  exact ⟨f, hf, hr 0 (.i x.frm) rfl, hr 1 (.i x.to) rfl, hr 2 (.s f) rfl⟩
theorem InstrSl.at' {m : Mem} {s : Sl} {l : List Instr} (h : InstrSl m s l) {k : Nat} {x : Instr} (hk : l[k]? = some x) :
    ∃ a j, IntSl m a x.args /\ IntSl m j x.jumps /\ gcell m s.blk (s.off + k * 6) = some (vi x.op) /\ gcell m s.blk (s.off + k * 6 + 1) = some (vi x.dst) /\ gcell m s.blk (s.off + k * 6 + 2) = some (vi x.num) /\
      gcell m s.blk (s.off + k * 6 + 3) = some (vi x.into) /\ gcell m s.blk (s.off + k * 6 + 4) = some (Sl.v a) /\ gcell m s.blk (s.off + k * 6 + 5) = some (Sl.v j) := by
  obtain ⟨cs, ⟨a, j, rfl, ha, hj⟩, hr⟩ := h.row k x hk
  exact ⟨a, j, ha, hj, hr 0 (.i x.op) rfl, hr 1 (.i x.dst) rfl, hr 2 (.i x.num) rfl, hr 3 (.i x.into) rfl, hr 4 (.s a) rfl, hr 5 (.s j) rfl⟩
theorem ProcSl.at' {m : Mem} {s : Sl} {l : List Proc} (h : ProcSl m s l) {k : Nat} {x : Proc} (hk : l[k]? = some x) :
    ∃ a b c, IntSl m a x.params /\ IntSl m b x.lent /\ InstrSl m c x.code /\ gcell m s.blk (s.off + k * 5) = some (Sl.v a) /\ gcell m s.blk (s.off + k * 5 + 1) = some (Sl.v b) /\ gcell m s.blk (s.off + k * 5 + 2) = some (vi x.result) /\
      gcell m s.blk (s.off + k * 5 + 3) = some (vi x.regs) /\ gcell m s.blk (s.off + k * 5 + 4) = some (Sl.v c) := by
  obtain ⟨cs, ⟨a, b, c, rfl, ha, hb, hc⟩, hr⟩ := h.row k x hk
  exact ⟨a, b, c, ha, hb, hc, hr 0 (.s a) rfl, hr 1 (.s b) rfl, hr 2 (.i x.result) rfl, hr 3 (.i x.regs) rfl, hr 4 (.s c) rfl⟩
end Go.Vc
end
section
/- The table of the types and the functions of this program. Printed by a program. -/
namespace Go.Proofs.YtpggcodlaajceaaGreat
open Go.Vc
def TBL : TT := [(0, ⟨.tuple [], [], 0⟩),
  (3, ⟨.cell, [.I], 8⟩),
  (4, ⟨.cell, [.T], 1⟩),
  (22, ⟨.slice 109, [.S], 24⟩),
  (23, ⟨.slice 113, [.S], 24⟩),
  (25, ⟨.struct [(0, 22), (1, 23)], [.S, .S], 48⟩),
  (27, ⟨.slice 3, [.S], 24⟩),
  (29, ⟨.struct [(0, 3), (1, 3), (2, 3), (3, 27)], [.I, .I, .I, .S], 48⟩),
  (30, ⟨.tuple [29, 4], [], 0⟩),
  (32, ⟨.slice 122, [.S], 24⟩),
  (33, ⟨.slice 89, [.S], 24⟩),
  (35, ⟨.struct [(0, 32), (1, 33)], [.S, .S], 48⟩),
  (43, ⟨.struct [(0, 3), (1, 3), (2, 3), (3, 3), (4, 3), (5, 3), (6, 3), (7, 3)], [.I, .I, .I, .I, .I, .I, .I, .I], 64⟩),
  (44, ⟨.tuple [43, 4], [], 0⟩),
  (47, ⟨.slice 151, [.S], 24⟩),
  (48, ⟨.slice 153, [.S], 24⟩),
  (50, ⟨.struct [(0, 3), (1, 3), (2, 3), (3, 3), (4, 27), (5, 47), (6, 48)], [.I, .I, .I, .I, .S, .S, .S], 104⟩),
  (52, ⟨.slice 149, [.S], 24⟩),
  (53, ⟨.slice 84, [.S], 24⟩),
  (55, ⟨.struct [(0, 3), (1, 3), (2, 3), (3, 3), (4, 27), (5, 52), (6, 53)], [.I, .I, .I, .I, .S, .S, .S], 104⟩),
  (56, ⟨.tuple [55, 4], [], 0⟩),
  (74, ⟨.struct [(0, 35), (2, 3), (3, 55)], [.S, .S, .I, .I, .I, .I, .I, .S, .S, .S], 160⟩),
  (84, ⟨.struct [(0, 3), (1, 3), (2, 3), (3, 27), (4, 27), (5, 27)], [.I, .I, .I, .S, .S, .S], 96⟩),
  (86, ⟨.struct [(0, 3), (1, 3), (2, 3), (3, 3), (4, 27), (5, 27)], [.I, .I, .I, .I, .S, .S], 80⟩),
  (87, ⟨.slice 86, [.S], 24⟩),
  (89, ⟨.struct [(0, 27), (1, 27), (2, 3), (3, 3), (4, 87)], [.S, .S, .I, .I, .S], 88⟩),
  (94, ⟨.cell, [.P], 8⟩),
  (97, ⟨.struct [(0, 35), (2, 55)], [.S, .S, .I, .I, .I, .I, .S, .S, .S], 152⟩),
  (107, ⟨.slice 222, [.S], 24⟩),
  (109, ⟨.struct [(0, 3), (1, 3), (2, 107)], [.I, .I, .S], 40⟩),
  (111, ⟨.slice 224, [.S], 24⟩),
  (113, ⟨.struct [(0, 27), (1, 27), (2, 3), (3, 3), (4, 111)], [.S, .S, .I, .I, .S], 88⟩),
  (115, ⟨.slice 176, [.S], 24⟩),
  (117, ⟨.struct [(0, 32), (1, 115)], [.S, .S], 48⟩),
  (120, ⟨.slice 201, [.S], 24⟩),
  (122, ⟨.struct [(0, 3), (1, 3), (2, 120)], [.I, .I, .S], 40⟩),
  (125, ⟨.slice 183, [.S], 24⟩),
  (127, ⟨.struct [(0, 32), (1, 125)], [.S, .S], 48⟩),
  (128, ⟨.tuple [127, 4], [], 0⟩),
  (132, ⟨.cell, [.P], 8⟩),
  (133, ⟨.cell, [.P], 8⟩),
  (140, ⟨.cell, [.P], 8⟩),
  (142, ⟨.struct [(0, 3), (1, 3), (2, 3), (3, 3), (4, 3), (5, 3), (6, 3), (7, 3)], [.I, .I, .I, .I, .I, .I, .I, .I], 64⟩),
  (143, ⟨.tuple [3, 3], [], 0⟩),
  (146, ⟨.cell, [.P], 8⟩),
  (149, ⟨.struct [(0, 3), (1, 3), (2, 27)], [.I, .I, .S], 40⟩),
  (151, ⟨.struct [(0, 3), (1, 3), (2, 27)], [.I, .I, .S], 40⟩),
  (153, ⟨.struct [(0, 3), (1, 3), (2, 3), (3, 27), (4, 27), (5, 27)], [.I, .I, .I, .S, .S, .S], 96⟩),
  (159, ⟨.cell, [.F], 8⟩),
  (172, ⟨.slice 174, [.S], 24⟩),
  (174, ⟨.struct [(0, 3), (1, 3), (2, 172)], [.I, .I, .S], 40⟩),
  (176, ⟨.struct [(0, 27), (1, 3), (2, 174)], [.S, .I, .I, .I, .S], 72⟩),
  (183, ⟨.struct [(0, 27), (1, 27), (2, 3)], [.S, .S, .I], 56⟩),
  (188, ⟨.tuple [27, 27], [], 0⟩),
  (193, ⟨.slice 149, [.S], 24⟩),
  (201, ⟨.struct [(0, 27)], [.S], 24⟩),
  (217, ⟨.tuple [27, 4], [], 0⟩),
  (222, ⟨.struct [(0, 27)], [.S], 24⟩),
  (224, ⟨.struct [(0, 3), (1, 3), (2, 3), (3, 3), (4, 27), (5, 27)], [.I, .I, .I, .I, .S, .S], 80⟩),
  (232, ⟨.tuple [3, 4], [], 0⟩),
  (234, ⟨.cell, [.F], 8⟩),
  (235, ⟨.cell, [.P], 8⟩),
  (239, ⟨.slice 4, [.S], 24⟩),
  (244, ⟨.tuple [3, 201], [], 0⟩),
  (246, ⟨.map 3 3, [.M], 8⟩)]
abbrev qil : Nat := 149
abbrev qef : Nat := 201
abbrev qd2 : Nat := 122
abbrev q0w : Nat := 84
abbrev q5a : Nat := 176
abbrev qhc : Nat := 35
abbrev q15 : Nat := 86
abbrev q8f : Nat := 89
abbrev q4z : Nat := 117
abbrev qpj : Nat := 55
abbrev q0k : Nat := 193
abbrev q07 : Nat := 74
abbrev q6f : Nat := 183
abbrev q3k : Nat := 127
abbrev ty_int : Nat := 3
abbrev q08 : Nat := 97
abbrev q7n : Nat := 3
abbrev q9d : Nat := 7
abbrev q5r : Nat := 8
abbrev q31 : Nat := 9
abbrev q5t : Nat := 10
abbrev q35 : Nat := 11
abbrev q9f : Nat := 12
abbrev q77 : Nat := 13
abbrev q5k : Nat := 14
abbrev q2f : Nat := 15
abbrev q91 : Nat := 28
abbrev q94 : Nat := 29
abbrev q6d : Nat := 30
abbrev q0d : Nat := 31
abbrev q75 : Nat := 32
abbrev q95 : Nat := 33
abbrev q92 : Nat := 34
abbrev q9a : Nat := 35
abbrev q67 : Nat := 36
abbrev q1r : Nat := 37
abbrev q2q : Nat := 38
abbrev q1k : Nat := 39
abbrev q1x : Nat := 40
abbrev q9b : Nat := 41
abbrev q9n : Nat := 42
abbrev q76 : Nat := 43
abbrev q7g : Nat := 44
abbrev q1i : Nat := 45
abbrev q7y : Nat := 46
abbrev q2j : Nat := 50
abbrev q4p : Nat := 55
abbrev q2n : Nat := 56
abbrev q5i : Nat := 67
abbrev qat : Nat := 68
abbrev qau : Nat := 69
abbrev q7b : Nat := 70
abbrev q58 : Nat := 71
abbrev q7d : Nat := 72
abbrev q1v : Nat := 73
abbrev q6h : Nat := 74
abbrev qax : Nat := 75
abbrev qal : Nat := 76
abbrev q7h : Nat := 77
abbrev q24 : Nat := 78
abbrev q4u : Nat := 79
abbrev q2e : Nat := 80
abbrev q2r : Nat := 81
abbrev qai : Nat := 82
abbrev qao : Nat := 83
abbrev q8i : Nat := 84
abbrev q64 : Nat := 85
abbrev qas : Nat := 97
abbrev q4r : Nat := 98
abbrev q5q : Nat := 99
abbrev q2g : Nat := 100
abbrev q2c : Nat := 101
abbrev q16 : Nat := 105
abbrev qam : Nat := 110
abbrev q86 : Nat := 111
abbrev q6i : Nat := 112
abbrev q4v : Nat := 113
abbrev q7f : Nat := 114
abbrev q65 : Nat := 115
abbrev q27 : Nat := 116
abbrev qav : Nat := 117
abbrev q80 : Nat := 118
abbrev q7a : Nat := 119
abbrev q3a : Nat := 120
abbrev q0g : Nat := 121
abbrev q0l : Nat := 122
abbrev q0o : Nat := 123
abbrev q14 : Nat := 124
abbrev q1b : Nat := 125
abbrev q21 : Nat := 126
abbrev q40 : Nat := 127
abbrev q2w : Nat := 128
abbrev q5p : Nat := 129
abbrev q3c : Nat := 130
abbrev q2v : Nat := 131
abbrev q3m : Nat := 132
abbrev q0q : Nat := 133
abbrev q37 : Nat := 134
abbrev q1e : Nat := 135
abbrev q1c : Nat := 136
abbrev q71 : Nat := 137
abbrev q4q : Nat := 138
abbrev q23 : Nat := 139
abbrev q2b : Nat := 140
abbrev q4i : Nat := 141
abbrev q1j : Nat := 142
abbrev q1d : Nat := 143
abbrev q3b : Nat := 144
abbrev qan : Nat := 145
abbrev q7v : Nat := 146
abbrev q0p : Nat := 153
abbrev q81 : Nat := 155
abbrev q3z : Nat := 156
abbrev q4o : Nat := 157
abbrev q9q : Nat := 158
abbrev q6c : Nat := 159
abbrev q3d : Nat := 160
abbrev q22 : Nat := 161
abbrev q30 : Nat := 162
abbrev q3e : Nat := 163
abbrev q20 : Nat := 164
abbrev q0h : Nat := 165
abbrev q3s : Nat := 166
abbrev q4m : Nat := 167
abbrev q6v : Nat := 168
abbrev q0z : Nat := 169
abbrev qeh : Nat := 170
abbrev q1u : Nat := 171
abbrev q3i : Nat := 172
abbrev q4a : Nat := 173
abbrev q49 : Nat := 174
abbrev q2u : Nat := 175
abbrev q0c : Nat := 176
abbrev q72 : Nat := 177
abbrev q3f : Nat := 178
abbrev q1o : Nat := 179
abbrev q2h : Nat := 180
abbrev qc4 : Nat := 187
abbrev q9g : Nat := 188
abbrev q78 : Nat := 189
abbrev q5s : Nat := 190
abbrev q6z : Nat := 191
abbrev q4t : Nat := 192
abbrev q6a : Nat := 193
abbrev q42 : Nat := 194
abbrev qch : Nat := 195
abbrev q8y : Nat := 196
abbrev q6b : Nat := 197
abbrev q4s : Nat := 198
abbrev q3g : Nat := 199
abbrev q2m : Nat := 200
abbrev q8b : Nat := 201
abbrev q19 : Nat := 202
abbrev q1y : Nat := 203
abbrev q70 : Nat := 204
abbrev q11 : Nat := 205
abbrev q3r : Nat := 206
abbrev q66 : Nat := 207
abbrev qeb : Nat := 208
abbrev q69 : Nat := 209
abbrev q4d : Nat := 210
abbrev qcb : Nat := 211
abbrev q97 : Nat := 212
abbrev q9i : Nat := 215
abbrev q1w : Nat := 216
abbrev q2s : Nat := 217
abbrev q89 : Nat := 218
abbrev q3w : Nat := 219
abbrev q52 : Nat := 220
abbrev q7e : Nat := 221
abbrev qca : Nat := 222
abbrev qb1 : Nat := 223
abbrev q2i : Nat := 224
abbrev q6o : Nat := 225
abbrev q18 : Nat := 226
abbrev qc3 : Nat := 228
abbrev q17 : Nat := 229
abbrev q1l : Nat := 230
theorem tbl_ok : TOK Tryz.prog TBL := by
  unfold TOK
  kernel_rfl
def GL : List Nat := [3, 4, 5, 6, 7, 8, 9, 10, 11, 12, 13, 14, 15, 16, 17, 18, 19, 20, 21, 22, 23, 24, 25, 26, 27, 28, 29, 30, 31, 32, 33, 34, 35, 36, 37, 38, 39, 40, 41, 42, 43, 44, 45, 46, 47, 48, 49, 50, 51, 52, 53, 54, 55, 56, 57, 58, 59, 60, 61, 62, 63, 64, 65, 66, 67, 68, 69, 70, 71, 72, 73, 74, 75, 76, 77, 78, 79, 80, 81, 82, 83, 84, 85, 86, 87, 88, 89, 90, 91, 92, 93, 94, 95, 96, 97, 98, 99, 100, 101, 102, 103, 104, 105, 106, 107, 108, 109, 110, 111, 112, 113, 114, 115, 116, 117, 118, 119, 120, 121, 122, 123, 124, 125, 126, 127, 128, 129, 130, 131, 132, 133, 134, 135, 136, 137, 138, 139, 140, 141, 142, 143, 144, 145, 146, 147, 148, 149, 150, 151, 152, 153, 154, 155, 156, 157, 158, 159, 160, 161, 162, 163, 164, 165, 166, 167, 168, 169, 170, 171, 172, 173, 174, 175, 176, 177, 178, 179, 180, 181, 182, 183, 184, 185, 186, 187, 188, 189, 190, 191, 192, 193, 194, 195, 196, 197, 198, 199, 200, 201, 202, 203, 204, 205, 206, 207, 208, 209, 210, 211, 212, 213, 214, 215, 216, 217, 218, 219, 220, 221, 222, 223, 224, 225, 226, 227, 228, 229, 230, 231]
theorem gok : GOK Tryz.prog GL := by
  unfold GOK
  kernel_rfl
theorem mix : Tryz.prog.follows .mixedOrders = true := by kernel_rfl
theorem vcs {A : Ann} {n : Nat} {rs : List ResultVar} {c : Code} {args : List SV} {f : FuncId} {fn : Func} {m : Mem} {R : Value -> Mem -> Prop} {X : Prop} (hf : Tryz.prog.funcs[f]? = some fn) (hvc : X)
    (hb : fn.body = some c := by kernel_rfl) (hn : fn.ntmps = n := by kernel_rfl) (hrs : fn.results = rs.toArray := by kernel_rfl) (hargs : args.all SV.known = true := by kernel_rfl) (hle : args.length <= n := by simp)
    (he : X = vcFn Tryz.prog TBL GL A n rs c args m R := by kernel_rfl) : CallV Tryz.prog f (args.map SV.v) m R :=
  qre tbl_ok gok mix hf hb hn hrs hargs hle (Eq.mp he hvc)
end Go.Proofs.YtpggcodlaajceaaGreat

end
section
set_option linter.unusedVariables false
set_option maxRecDepth 100000
namespace Go.Proofs.YtpggcodlaajceaaGreat
open Go.Vc
def q6j (aIm_0 aIm_1 : Sl) (aMost : Int) (m : Mem) (R : Value -> Mem -> Prop) : Prop :=
 let m1 : Mem := m.push (.cells (vals [.s aIm_0, .s aIm_1]) 25)
 eqT m.size m.size (
 CallV Tryz.prog q9d [.agg #[Sl.v aIm_0, Sl.v aIm_1], vi 1048576] m1 fun r m1_1 =>
 Sam [m.size] m1 m1_1 /\
 ∃ r18 : Int, r = vi r18 /\
 ((decide (r18 < 0)) = true ->
 R (vb true) m1_1) /\
 ((decide (r18 < 0)) = false ->
 eqT m.size m.size (
 CallV Tryz.prog q31 [.agg #[Sl.v aIm_0, Sl.v aIm_1]] m1_1 fun r_1 m1_2 =>
 Sam [m.size] m1_1 m1_2 /\
 ∃ r_0 : Sl, ∃ r_1_1 : Sl, r_1 = .agg #[Sl.v r_0, Sl.v r_1_1] /\
 CallV Tryz.prog q5r [.agg #[Sl.v r_0, Sl.v r_1_1], vi aMost] m1_2 fun r_2 m1_3 =>
 Sam [m.size] m1_2 m1_3 /\
 ∃ r_0_1 : Int, ∃ r_1_2 : Int, ∃ r_2_1 : Int, ∃ r_3 : Sl, ∃ r25 : Bool, r_2 = .tuple #[.agg #[vi r_0_1, vi r_1_2, vi r_2_1, Sl.v r_3], vb r25] /\
 let m1_4 : Mem := m1_3.push (.cells (vals [.i 0, .i 0, .i 0, .s Sl.nil]) 29)
 eqT m1_3.size m1_3.size (
 let m1_5 : Mem := scells m1_4 m1_3.size 0 [.i r_0_1, .i r_1_2, .i r_2_1, .s r_3]
 eqT m.size m.size (
 CallV Tryz.prog q31 [.agg #[Sl.v aIm_0, Sl.v aIm_1]] m1_5 fun r_4 m1_6 =>
 Sam [m1_3.size, m.size] m1_5 m1_6 /\
 ∃ r_0_2 : Sl, ∃ r_1_3 : Sl, r_4 = .agg #[Sl.v r_0_2, Sl.v r_1_3] /\
 let m1_7 : Mem := m1_6.push (.cells (vals [.s Sl.nil, .s Sl.nil]) 35)
 eqT m1_6.size m1_6.size (
 let m1_8 : Mem := scells m1_7 m1_6.size 0 [.s r_0_2, .s r_1_3]
 eqT m1_6.size m1_6.size (
 CallV Tryz.prog q5t [.agg #[Sl.v r_0_2, Sl.v r_1_3], vi aMost] m1_8 fun r_5 m1_9 =>
 Sam [m1_6.size, m1_3.size, m.size] m1_8 m1_9 /\
 ∃ r_0_3 : Int, ∃ r_1_4 : Int, ∃ r_2_2 : Int, ∃ r_3_1 : Sl, ∃ r33 : Bool, r_5 = .tuple #[.agg #[vi r_0_3, vi r_1_4, vi r_2_2, Sl.v r_3_1], vb r33] /\
 let m1_10 : Mem := m1_9.push (.cells (vals [.i 0, .i 0, .i 0, .s Sl.nil]) 29)
 eqT m1_9.size m1_9.size (
 let m1_11 : Mem := scells m1_10 m1_9.size 0 [.i r_0_3, .i r_1_4, .i r_2_2, .s r_3_1]
 eqT m1_9.size m1_9.size (
 eqT m1_3.size m1_3.size (
 CallV Tryz.prog q35 [.agg #[vi r_0_3, vi r_1_4, vi r_2_2, Sl.v r_3_1], .agg #[vi r_0_1, vi r_1_2, vi r_2_1, Sl.v r_3]] m1_11 fun r_6 m1_12 =>
 Sam [m1_9.size, m1_6.size, m1_3.size, m.size] m1_11 m1_12 /\
 ∃ r38 : Bool, r_6 = vb r38 /\
 ((!r38) = true ->
 R (vb false) m1_12) /\
 ((!r38) = false ->
 ((!(r33 == r25)) = true ->
 R (vb false) m1_12) /\
 ((!(r33 == r25)) = false ->
 eqT m1_6.size m1_6.size (
 eqT m.size m.size (
 CallV Tryz.prog q31 [.agg #[Sl.v aIm_0, Sl.v aIm_1]] m1_12 fun r_7 m1_13 =>
 Sam [m1_9.size, m1_6.size, m1_3.size, m.size] m1_12 m1_13 /\
 ∃ r_0_4 : Sl, ∃ r_1_5 : Sl, r_7 = .agg #[Sl.v r_0_4, Sl.v r_1_5] /\
 gcell m1_13 m1_6.size 0 = gcell m1_12 m1_6.size 0 /\
 gcell m1_13 m1_6.size 1 = gcell m1_12 m1_6.size 1 /\
 CallV Tryz.prog q9f [.agg #[Sl.v r_0_2, Sl.v r_1_3], .agg #[Sl.v r_0_4, Sl.v r_1_5]] m1_13 fun r_8 m1_14 =>
 Sam [m1_9.size, m1_6.size, m1_3.size, m.size] m1_13 m1_14 /\
 ∃ r48 : Bool, r_8 = vb r48 /\
 ((!r48) = true ->
 R (vb false) m1_14) /\
 ((!r48) = false ->
 eqT m1_6.size m1_6.size (
 CallV Tryz.prog q77 [.agg #[Sl.v r_0_2, Sl.v r_1_3], vi 1] m1_14 fun r_9 m1_15 =>
 Sam [m1_9.size, m1_6.size, m1_3.size, m.size] m1_14 m1_15 /\
 ∃ r52 : Int, r_9 = vi r52 /\
 ((decide (r52 < 0)) = true ->
 R (vb false) m1_15) /\
 ((decide (r52 < 0)) = false ->
 eqT m1_9.size m1_9.size (
 eqT m1_3.size m1_3.size (
 CallV Tryz.prog q35 [.agg #[vi r_0_3, vi r_1_4, vi r_2_2, Sl.v r_3_1], .agg #[vi r_0_1, vi r_1_2, vi r_2_1, Sl.v r_3]] m1_15 fun r_10 m1_16 =>
 Sam [m1_9.size, m1_6.size, m1_3.size, m.size] m1_15 m1_16 /\
 ∃ r58 : Bool, r_10 = vb r58 /\
 ((!r58) = true ->
 R (vb false) m1_16) /\
 ((!r58) = false ->
 ((!(r33 == r25)) = true ->
 R (vb false) m1_16) /\
 ((!(r33 == r25)) = false ->
 eqT m1_9.size m1_9.size (
 CallV Tryz.prog q5k [.agg #[vi r_0_3, vi r_1_4, vi r_2_2, Sl.v r_3_1], vi 1] m1_16 fun r_11 m1_17 =>
 Sam [m1_9.size, m1_6.size, m1_3.size, m.size] m1_16 m1_17 /\
 ∃ r68 : Int, r_11 = vi r68 /\
 eqT m1_9.size m1_9.size (
 CallV Tryz.prog q2f [.agg #[vi r_0_3, vi r_1_4, vi r_2_2, Sl.v r_3_1], vi 1] m1_17 fun r_12 m1_18 =>
 Sam [m1_9.size, m1_6.size, m1_3.size, m.size] m1_17 m1_18 /\
 ∃ r71 : Int, r_12 = vi r71 /\
 ((decide (r71 < 0)) = true ->
 R (vb false) m1_18) /\
 ((decide (r71 < 0)) = false ->
 ((r71 != r68) = true ->
 R (vb false) m1_18) /\
 ((r71 != r68) = false ->
 eqT m.size m.size (
 CallV Tryz.prog q31 [.agg #[Sl.v aIm_0, Sl.v aIm_1]] m1_18 fun r_13 m1_19 =>
 Sam [m1_9.size, m1_6.size, m1_3.size, m.size] m1_18 m1_19 /\
 ∃ r_0_5 : Sl, ∃ r_1_6 : Sl, r_13 = .agg #[Sl.v r_0_5, Sl.v r_1_6] /\
 CallV Tryz.prog q5t [.agg #[Sl.v r_0_5, Sl.v r_1_6], vi aMost] m1_19 fun r_14 m1_20 =>
 Sam [m1_9.size, m1_6.size, m1_3.size, m.size] m1_19 m1_20 /\
 ∃ r_0_6 : Int, ∃ r_1_7 : Int, ∃ r_2_3 : Int, ∃ r_3_2 : Sl, ∃ r81 : Bool, r_14 = .tuple #[.agg #[vi r_0_6, vi r_1_7, vi r_2_3, Sl.v r_3_2], vb r81] /\
 let m1_21 : Mem := m1_20.push (.cells (vals [.i 0, .i 0, .i 0, .s Sl.nil]) 29)
 eqT m1_20.size m1_20.size (
 let m1_22 : Mem := scells m1_21 m1_20.size 0 [.i r_0_6, .i r_1_7, .i r_2_3, .s r_3_2]
 eqT m1_20.size m1_20.size (
 eqT m1_3.size m1_3.size (
 CallV Tryz.prog q35 [.agg #[vi r_0_6, vi r_1_7, vi r_2_3, Sl.v r_3_2], .agg #[vi r_0_1, vi r_1_2, vi r_2_1, Sl.v r_3]] m1_22 fun r_15 m1_23 =>
 Sam [m1_20.size, m1_9.size, m1_6.size, m1_3.size, m.size] m1_22 m1_23 /\
 ∃ r86 : Bool, r_15 = vb r86 /\
 ((!r86) = true ->
 R (vb false) m1_23) /\
 ((!r86) = false ->
 ((!(r81 == r25)) = true ->
 R (vb false) m1_23) /\
 ((!(r81 == r25)) = false ->
 eqT m1_9.size m1_9.size (
 CallV Tryz.prog q2f [.agg #[vi r_0_3, vi r_1_4, vi r_2_2, Sl.v r_3_1], vi 1] m1_23 fun r_16 m1_24 =>
 Sam [m1_20.size, m1_9.size, m1_6.size, m1_3.size, m.size] m1_23 m1_24 /\
 ∃ r95 : Int, r_16 = vi r95 /\
 ((decide (r95 < 0)) = true ->
 R (vb false) m1_24) /\
 ((decide (r95 < 0)) = false ->
 ((r95 != r68) = true ->
 R (vb false) m1_24) /\
 ((r95 != r68) = false ->
 R (vb true) m1_24))))))))))))))))))))))))))))))))))
theorem qbo (aIm_0 aIm_1 : Sl) (aMost : Int) (m : Mem) (R : Value -> Mem -> Prop) (hvc : q6j aIm_0 aIm_1 aMost m R) : CallV Tryz.prog q7n [.agg #[Sl.v aIm_0, Sl.v aIm_1], vi aMost] m R :=
 vcs (A := ⟨[(10, [0, 0, 2, 5, 8], [0, 0, 2, 7, 15])], [], [], []⟩) (n := 101) (rs := [.tmp 4]) (args := [.agg [.s aIm_0, .s aIm_1], .c (.i aMost)]) (c := bodyOf Tryz.f3) Tryz.func3 hvc
end Go.Proofs.YtpggcodlaajceaaGreat
end
section
set_option linter.unusedVariables false
set_option maxRecDepth 100000
namespace Go.Proofs.YtpggcodlaajceaaGreat
open Go.Vc
end Go.Proofs.YtpggcodlaajceaaGreat
end
section
set_option linter.unusedVariables false
set_option maxRecDepth 100000
namespace Go.Proofs.YtpggcodlaajceaaGreat
open Go.Vc
end Go.Proofs.YtpggcodlaajceaaGreat
end
section
set_option linter.unusedVariables false
set_option maxRecDepth 100000
namespace Go.Proofs.YtpggcodlaajceaaGreat
open Go.Vc
def qdf (a_0 a_1 : Sl) (left : Int) (m : Mem) (R : Value -> Mem -> Prop) : Prop :=
 let m1 : Mem := m.push (.cells (vals [.s a_0, .s a_1]) 25)
 eqT m.size m.size (
 CallV Tryz.prog q91 [Sl.v a_0, vi left] m1 fun r m1_1 =>
 Sam [m.size] m1 m1_1 /\
 ∃ r8 : Int, r = vi r8 /\
 ((decide (r8 < 0)) = true ->
 R (vi (-1)) m1_1) /\
 ((decide (r8 < 0)) = false ->
 eqT m.size m.size (
 CallV Tryz.prog q94 [Sl.v a_1, vi r8] m1_1 fun r_1 m1_2 =>
 Sam [m.size] m1_1 m1_2 /\
 ∃ r14 : Int, r_1 = vi r14 /\
 ((decide (r14 < 0)) = true ->
 R (vi (-1)) m1_2) /\
 ((decide (r14 < 0)) = false ->
 R (vi r14) m1_2))))
theorem qik (a_0 a_1 : Sl) (left : Int) (m : Mem) (R : Value -> Mem -> Prop) (hvc : qdf a_0 a_1 left m R) : CallV Tryz.prog q9d [.agg #[Sl.v a_0, Sl.v a_1], vi left] m R :=
 vcs (A := ⟨[], [], [], []⟩) (n := 18) (rs := [.tmp 4]) (args := [.agg [.s a_0, .s a_1], .c (.i left)]) (c := bodyOf Tryz.f7) Tryz.func7 hvc
def qds (im_0 im_1 : Sl) (most : Int) (m : Mem) (R : Value -> Mem -> Prop) : Prop :=
 let m1 : Mem := m.push (.cells (vals [.s im_0, .s im_1]) 35)
 let m1_1 : Mem := m1.push (.cells (vals [.i 0, .i 0, .i 0, .s Sl.nil]) 29)
 eqT m.size m.size (
 CallV Tryz.prog q6d [.agg #[Sl.v im_0, Sl.v im_1]] m1_1 fun r m1_2 =>
 Sam [m1.size, m.size] m1_1 m1_2 /\
 ∃ r7 : Bool, r = vb r7 /\
 ((!r7) = true ->
 eqT m1.size m1.size (
 let m1_3 : Mem := scells m1_2 m1.size 0 [.i 0, .i 0, .i 0, .s Sl.nil]
 eqT m1.size m1.size (
 R (.tuple #[.agg #[vi 0, vi 0, vi 0, Sl.v Sl.nil], vb false]) m1_3))) /\
 ((!r7) = false ->
 CallV Tryz.prog q0d [vi most, vi 0, vi 40] m1_2 fun r_1 m1_4 =>
 Sam [m1.size, m.size] m1_2 m1_4 /\
 ∃ r11 : Bool, r_1 = vb r11 /\
 ((!r11) = true ->
 eqT m1.size m1.size (
 let m1_5 : Mem := scells m1_4 m1.size 0 [.i 0, .i 0, .i 0, .s Sl.nil]
 eqT m1.size m1.size (
 R (.tuple #[.agg #[vi 0, vi 0, vi 0, Sl.v Sl.nil], vb false]) m1_5))) /\
 ((!r11) = false ->
 eqT m.size m.size (
 CallV Tryz.prog q95 [.agg #[Sl.v im_0, Sl.v im_1], vi most] m1_4 fun r_2 m1_6 =>
 Sam [m1.size, m.size] m1_4 m1_6 /\
 ∃ r_0 : Int, ∃ r_1_1 : Int, ∃ r_2_1 : Int, ∃ r_3 : Int, ∃ r_4 : Sl, ∃ r_5 : Sl, ∃ r_6 : Sl, r_2 = .agg #[vi r_0, vi r_1_1, vi r_2_1, vi r_3, Sl.v r_4, Sl.v r_5, Sl.v r_6] /\
 CallV Tryz.prog q75 [.agg #[vi r_0, vi r_1_1, vi r_2_1, vi r_3, Sl.v r_4, Sl.v r_5, Sl.v r_6]] m1_6 fun r_7 m1_7 =>
 Sam [m1.size, m.size] m1_6 m1_7 /\
 ∃ r_0_1 : Int, ∃ r_1_2 : Int, ∃ r_2_2 : Int, ∃ r_3_1 : Sl, r_7 = .agg #[vi r_0_1, vi r_1_2, vi r_2_2, Sl.v r_3_1] /\
 eqT m1.size m1.size (
 let m1_8 : Mem := scells m1_7 m1.size 0 [.i r_0_1, .i r_1_2, .i r_2_2, .s r_3_1]
 eqT m1.size m1.size (
 R (.tuple #[.agg #[vi r_0_1, vi r_1_2, vi r_2_2, Sl.v r_3_1], vb true]) m1_8))))))
theorem qj3 (im_0 im_1 : Sl) (most : Int) (m : Mem) (R : Value -> Mem -> Prop) (hvc : qds im_0 im_1 most m R) : CallV Tryz.prog q5r [.agg #[Sl.v im_0, Sl.v im_1], vi most] m R :=
 vcs (A := ⟨[], [], [], []⟩) (n := 19) (rs := [.cell 4 29, .tmp 5]) (args := [.agg [.s im_0, .s im_1], .c (.i most)]) (c := bodyOf Tryz.f8) Tryz.func8 hvc
def qe3 (a_0 a_1 : Sl) (m : Mem) (R : Value -> Mem -> Prop) : Prop :=
 let m1 : Mem := m.push (.cells (vals [.s a_0, .s a_1]) 25)
 let m1_1 : Mem := m1.push (.cells (vals [.s Sl.nil, .s Sl.nil]) 35)
 let m1_2 : Mem := m1_1.push (.cells (vals [.s Sl.nil, .s Sl.nil]) 35)
 eqT m.size m.size (
 CallV Tryz.prog q92 [Sl.v a_0] m1_2 fun r m1_3 =>
 Sam [m1_1.size, m1.size, m.size] m1_2 m1_3 /\
 ∃ r6 : Sl, r = Sl.v r6 /\
 eqT m1_1.size m1_1.size (
 let m1_4 : Mem := scells m1_3 m1_1.size 0 [.s r6]
 eqT m.size m.size (
 CallV Tryz.prog q9a [Sl.v a_1] m1_4 fun r_1 m1_5 =>
 Sam [m1_1.size, m1.size, m.size] m1_4 m1_5 /\
 ∃ r10 : Sl, r_1 = Sl.v r10 /\
 eqT m1_1.size m1_1.size (
 let m1_6 : Mem := scells m1_5 m1_1.size 1 [.s r10]
 eqT m1_1.size m1_1.size (
 eqT m1.size m1.size (
 let m1_7 : Mem := scells m1_6 m1.size 0 [.s r6, .s r10]
 eqT m1.size m1.size (
 R (.agg #[Sl.v r6, Sl.v r10]) m1_7)))))))
theorem qjg (a_0 a_1 : Sl) (m : Mem) (R : Value -> Mem -> Prop) (hvc : qe3 a_0 a_1 m R) : CallV Tryz.prog q31 [.agg #[Sl.v a_0, Sl.v a_1]] m R :=
 vcs (A := ⟨[], [], [], []⟩) (n := 13) (rs := [.cell 2 35]) (args := [.agg [.s a_0, .s a_1]]) (c := bodyOf Tryz.f9) Tryz.func9 hvc
def qdn (im_0 im_1 : Sl) (most : Int) (m : Mem) (R : Value -> Mem -> Prop) : Prop :=
 let m1 : Mem := m.push (.cells (vals [.s im_0, .s im_1]) 35)
 let m1_1 : Mem := m1.push (.cells (vals [.i 0, .i 0, .i 0, .s Sl.nil]) 29)
 eqT m.size m.size (
 CallV Tryz.prog q67 [.agg #[Sl.v im_0, Sl.v im_1]] m1_1 fun r m1_2 =>
 Sam [m1.size, m.size] m1_1 m1_2 /\
 ∃ r8 : Bool, r = vb r8 /\
 ((!r8) = true ->
 eqT m1.size m1.size (
 let m1_3 : Mem := scells m1_2 m1.size 0 [.i 0, .i 0, .i 0, .s Sl.nil]
 eqT m1.size m1.size (
 R (.tuple #[.agg #[vi 0, vi 0, vi 0, Sl.v Sl.nil], vb false]) m1_3))) /\
 ((!r8) = false ->
 ((decide (most < 0)) = true ->
 eqT m1.size m1.size (
 let m1_4 : Mem := scells m1_2 m1.size 0 [.i 0, .i 0, .i 0, .s Sl.nil]
 eqT m1.size m1.size (
 R (.tuple #[.agg #[vi 0, vi 0, vi 0, Sl.v Sl.nil], vb false]) m1_4))) /\
 ((decide (most < 0)) = false ->
 ((decide (most > 40)) = true ->
 eqT m1.size m1.size (
 let m1_5 : Mem := scells m1_2 m1.size 0 [.i 0, .i 0, .i 0, .s Sl.nil]
 eqT m1.size m1.size (
 R (.tuple #[.agg #[vi 0, vi 0, vi 0, Sl.v Sl.nil], vb false]) m1_5))) /\
 ((decide (most > 40)) = false ->
 eqT m.size m.size (
 eqT m.size m.size (
 eqT m.size m.size (
 (CallV Tryz.prog q1r [Sl.v im_0] m1_2 fun r_1 m1_6 =>
 Sam [m1.size, m.size] m1_2 m1_6 /\
 ∃ r22 : Int, r_1 = vi r22 /\
 gcell m1_6 m.size 0 = gcell m1_2 m.size 0 /\
 gcell m1_6 m.size 1 = gcell m1_2 m.size 1 /\
 gcell m1_6 m.size 0 = gcell m1_2 m.size 0 /\
 gcell m1_6 m.size 1 = gcell m1_2 m.size 1 /\
 (CallV Tryz.prog q2q [.agg #[Sl.v im_0, Sl.v im_1], vi most] m1_6 fun r_2 m1_7 =>
 Sam [m1.size, m.size] m1_6 m1_7 /\
 ∃ r_0 : Int, ∃ r_1_1 : Int, ∃ r_2_1 : Int, ∃ r_3 : Int, ∃ r_4 : Sl, ∃ r_5 : Sl, ∃ r_6 : Sl, r_2 = .agg #[vi r_0, vi r_1_1, vi r_2_1, vi r_3, Sl.v r_4, Sl.v r_5, Sl.v r_6] /\
 gcell m1_7 m.size 0 = gcell m1_6 m.size 0 /\
 gcell m1_7 m.size 1 = gcell m1_6 m.size 1 /\
 let m1_8 : Mem := m1_7.push (.cells (vals [.s Sl.nil, .s Sl.nil, .i 0, .i 0, .i 0, .i 0, .i 0, .s Sl.nil, .s Sl.nil, .s Sl.nil]) 74)
 gcell m1_8 m.size 0 = gcell m1_7 m.size 0 /\
 gcell m1_8 m.size 1 = gcell m1_7 m.size 1 /\
 gcell m1_8 m.size 0 = gcell m1_7 m.size 0 /\
 gcell m1_8 m.size 0 = gcell m1_7 m.size 0 /\
 gcell m1_8 m.size 1 = gcell m1_7 m.size 1 /\
 eqT m1_7.size m1_7.size (
 let m1_9 : Mem := scells m1_8 m1_7.size 0 [.s im_0, .s im_1, .i r22, .i r_0, .i r_1_1, .i r_2_1, .i r_3, .s r_4, .s r_5, .s r_6]
 ∃ (I0 : Mem -> Prop) (μ0 : Mem -> Nat),
 I0 m1_9 /\
 (∀ (m1_10 : Mem), I0 m1_10 ->
 ∃ v29 : Int, gcell m1_10 m1_7.size 3 = some (vi v29) /\
 ((v29 == 3) = true ->
 CallV Tryz.prog q1k [vp m1_7.size 0] m1_10 fun r_7 m1_11 =>
 Sam [m1.size, m.size] m1_10 m1_11 /\
 eqS (SV.box m1.size 29 [.i 0, .i 0, .i 0, .s Sl.nil]) (SV.box m1.size 29 [.i 0, .i 0, .i 0, .s Sl.nil]) (
 eqS (SV.box m.size 35 [.s im_0, .s im_1]) (SV.box m.size 35 [.s im_0, .s im_1]) (
 I0 m1_11 /\ μ0 m1_11 < μ0 m1_10))) /\
 ((v29 == 3) = false ->
 ∃ v34 : Int, gcell m1_10 m1_7.size 3 = some (vi v34) /\
 ∃ v37 : Int, gcell m1_10 m1_7.size 4 = some (vi v37) /\
 ∃ v40 : Int, gcell m1_10 m1_7.size 5 = some (vi v40) /\
 ∃ v43 : Sl, gcell m1_10 m1_7.size 7 = some (Sl.v v43) /\
 eqT m1.size m1.size (
 let m1_12 : Mem := scells m1_10 m1.size 0 [.i v34, .i v37, .i v40, .s v43]
 eqT m1.size m1.size (
 R (.tuple #[.agg #[vi v34, vi v37, vi v40, Sl.v v43], vb true]) m1_12)))))) /\
 (let m1_13 : Mem := m1_6.push (.cells (vals [.s Sl.nil, .s Sl.nil, .i 0, .i 0, .i 0, .i 0, .i 0, .s Sl.nil, .s Sl.nil, .s Sl.nil]) 74)
 gcell m1_13 m.size 0 = gcell m1_6 m.size 0 /\
 gcell m1_13 m.size 1 = gcell m1_6 m.size 1 /\
 gcell m1_13 m.size 0 = gcell m1_6 m.size 0 /\
 gcell m1_13 m.size 0 = gcell m1_6 m.size 0 /\
 gcell m1_13 m.size 1 = gcell m1_6 m.size 1 /\
 CallV Tryz.prog q2q [.agg #[Sl.v im_0, Sl.v im_1], vi most] m1_13 fun r_8 m1_14 =>
 Sam [m1_6.size, m1.size, m.size] m1_13 m1_14 /\
 ∃ r_0_1 : Int, ∃ r_1_2 : Int, ∃ r_2_2 : Int, ∃ r_3_1 : Int, ∃ r_4_1 : Sl, ∃ r_5_1 : Sl, ∃ r_6_1 : Sl, r_8 = .agg #[vi r_0_1, vi r_1_2, vi r_2_2, vi r_3_1, Sl.v r_4_1, Sl.v r_5_1, Sl.v r_6_1] /\
 gcell m1_14 m.size 0 = gcell m1_13 m.size 0 /\
 gcell m1_14 m.size 1 = gcell m1_13 m.size 1 /\
 eqT m1_6.size m1_6.size (
 let m1_15 : Mem := scells m1_14 m1_6.size 0 [.s im_0, .s im_1, .i r22, .i r_0_1, .i r_1_2, .i r_2_2, .i r_3_1, .s r_4_1, .s r_5_1, .s r_6_1]
 ∃ (I0_1 : Mem -> Prop) (μ0_1 : Mem -> Nat),
 I0_1 m1_15 /\
 (∀ (m1_16 : Mem), I0_1 m1_16 ->
 ∃ v29_1 : Int, gcell m1_16 m1_6.size 3 = some (vi v29_1) /\
 ((v29_1 == 3) = true ->
 CallV Tryz.prog q1k [vp m1_6.size 0] m1_16 fun r_9 m1_17 =>
 Sam [m1.size, m.size] m1_16 m1_17 /\
 eqS (SV.box m1.size 29 [.i 0, .i 0, .i 0, .s Sl.nil]) (SV.box m1.size 29 [.i 0, .i 0, .i 0, .s Sl.nil]) (
 eqS (SV.box m.size 35 [.s im_0, .s im_1]) (SV.box m.size 35 [.s im_0, .s im_1]) (
 I0_1 m1_17 /\ μ0_1 m1_17 < μ0_1 m1_16))) /\
 ((v29_1 == 3) = false ->
 ∃ v34_1 : Int, gcell m1_16 m1_6.size 3 = some (vi v34_1) /\
 ∃ v37_1 : Int, gcell m1_16 m1_6.size 4 = some (vi v37_1) /\
 ∃ v40_1 : Int, gcell m1_16 m1_6.size 5 = some (vi v40_1) /\
 ∃ v43_1 : Sl, gcell m1_16 m1_6.size 7 = some (Sl.v v43_1) /\
 eqT m1.size m1.size (
 let m1_18 : Mem := scells m1_16 m1.size 0 [.i v34_1, .i v37_1, .i v40_1, .s v43_1]
 eqT m1.size m1.size (
 R (.tuple #[.agg #[vi v34_1, vi v37_1, vi v40_1, Sl.v v43_1], vb true]) m1_18))))))) /\
 (let m1_19 : Mem := m1_2.push (.cells (vals [.s Sl.nil, .s Sl.nil, .i 0, .i 0, .i 0, .i 0, .i 0, .s Sl.nil, .s Sl.nil, .s Sl.nil]) 74)
 gcell m1_19 m.size 0 = gcell m1_2 m.size 0 /\
 gcell m1_19 m.size 1 = gcell m1_2 m.size 1 /\
 gcell m1_19 m.size 0 = gcell m1_2 m.size 0 /\
 gcell m1_19 m.size 0 = gcell m1_2 m.size 0 /\
 gcell m1_19 m.size 1 = gcell m1_2 m.size 1 /\
 CallV Tryz.prog q1r [Sl.v im_0] m1_19 fun r_10 m1_20 =>
 Sam [m1_2.size, m1.size, m.size] m1_19 m1_20 /\
 ∃ r22_1 : Int, r_10 = vi r22_1 /\
 gcell m1_20 m.size 0 = gcell m1_19 m.size 0 /\
 gcell m1_20 m.size 1 = gcell m1_19 m.size 1 /\
 gcell m1_20 m.size 0 = gcell m1_19 m.size 0 /\
 gcell m1_20 m.size 1 = gcell m1_19 m.size 1 /\
 CallV Tryz.prog q2q [.agg #[Sl.v im_0, Sl.v im_1], vi most] m1_20 fun r_11 m1_21 =>
 Sam [m1_2.size, m1.size, m.size] m1_20 m1_21 /\
 ∃ r_0_2 : Int, ∃ r_1_3 : Int, ∃ r_2_3 : Int, ∃ r_3_2 : Int, ∃ r_4_2 : Sl, ∃ r_5_2 : Sl, ∃ r_6_2 : Sl, r_11 = .agg #[vi r_0_2, vi r_1_3, vi r_2_3, vi r_3_2, Sl.v r_4_2, Sl.v r_5_2, Sl.v r_6_2] /\
 gcell m1_21 m.size 0 = gcell m1_20 m.size 0 /\
 gcell m1_21 m.size 1 = gcell m1_20 m.size 1 /\
 eqT m1_2.size m1_2.size (
 let m1_22 : Mem := scells m1_21 m1_2.size 0 [.s im_0, .s im_1, .i r22_1, .i r_0_2, .i r_1_3, .i r_2_3, .i r_3_2, .s r_4_2, .s r_5_2, .s r_6_2]
 ∃ (I0_2 : Mem -> Prop) (μ0_2 : Mem -> Nat),
 I0_2 m1_22 /\
 (∀ (m1_23 : Mem), I0_2 m1_23 ->
 ∃ v29_2 : Int, gcell m1_23 m1_2.size 3 = some (vi v29_2) /\
 ((v29_2 == 3) = true ->
 CallV Tryz.prog q1k [vp m1_2.size 0] m1_23 fun r_12 m1_24 =>
 Sam [m1.size, m.size] m1_23 m1_24 /\
 eqS (SV.box m1.size 29 [.i 0, .i 0, .i 0, .s Sl.nil]) (SV.box m1.size 29 [.i 0, .i 0, .i 0, .s Sl.nil]) (
 eqS (SV.box m.size 35 [.s im_0, .s im_1]) (SV.box m.size 35 [.s im_0, .s im_1]) (
 I0_2 m1_24 /\ μ0_2 m1_24 < μ0_2 m1_23))) /\
 ((v29_2 == 3) = false ->
 ∃ v34_2 : Int, gcell m1_23 m1_2.size 3 = some (vi v34_2) /\
 ∃ v37_2 : Int, gcell m1_23 m1_2.size 4 = some (vi v37_2) /\
 ∃ v40_2 : Int, gcell m1_23 m1_2.size 5 = some (vi v40_2) /\
 ∃ v43_2 : Sl, gcell m1_23 m1_2.size 7 = some (Sl.v v43_2) /\
 eqT m1.size m1.size (
 let m1_25 : Mem := scells m1_23 m1.size 0 [.i v34_2, .i v37_2, .i v40_2, .s v43_2]
 eqT m1.size m1.size (
 R (.tuple #[.agg #[vi v34_2, vi v37_2, vi v40_2, Sl.v v43_2], vb true]) m1_25)))))))))))))
theorem qiy (im_0 im_1 : Sl) (most : Int) (m : Mem) (R : Value -> Mem -> Prop) (hvc : qdn im_0 im_1 most m R) : CallV Tryz.prog q5t [.agg #[Sl.v im_0, Sl.v im_1], vi most] m R :=
 vcs (A := ⟨[(3, [0, 0, 2, 4, 0, 0, 56, 73, 0, 511], [0, 0, 2, 6, 0, 0, 62, 127, 0, 511])], [(4, [])], [], [(4, [49, 47])]⟩) (n := 45) (rs := [.cell 4 29, .tmp 5]) (args := [.agg [.s im_0, .s im_1], .c (.i most)]) (c := bodyOf Tryz.f10) Tryz.func10 hvc
def qbg (a_0 a_1 a_2 : Int) (a_3 : Sl) (b_0 b_1 b_2 : Int) (b_3 : Sl) (m : Mem) (R : Value -> Mem -> Prop) : Prop :=
 let m1 : Mem := m.push (.cells (vals [.i a_0, .i a_1, .i a_2, .s a_3]) 29)
 let m1_1 : Mem := m1.push (.cells (vals [.i b_0, .i b_1, .i b_2, .s b_3]) 29)
 eqT m.size m.size (
 eqT m1.size m1.size (
 ((a_0 != b_0) = true ->
 R (vb false) m1_1) /\
 ((a_0 != b_0) = false ->
 eqT m.size m.size (
 eqT m1.size m1.size (
 ((a_1 != b_1) = true ->
 R (vb false) m1_1) /\
 ((a_1 != b_1) = false ->
 eqT m.size m.size (
 eqT m1.size m1.size (
 ((a_2 != b_2) = true ->
 R (vb false) m1_1) /\
 ((a_2 != b_2) = false ->
 eqT m.size m.size (
 eqT m1.size m1.size (
 CallV Tryz.prog q1x [Sl.v a_3, Sl.v b_3] m1_1 fun r m1_2 =>
 Sam [m1.size, m.size] m1_1 m1_2 /\
 ∃ r24 : Bool, r = vb r24 /\
 ((!r24) = true ->
 R (vb false) m1_2) /\
 ((!r24) = false ->
 R (vb true) m1_2))))))))))))
theorem qg2 (a_0 a_1 a_2 : Int) (a_3 : Sl) (b_0 b_1 b_2 : Int) (b_3 : Sl) (m : Mem) (R : Value -> Mem -> Prop) (hvc : qbg a_0 a_1 a_2 a_3 b_0 b_1 b_2 b_3 m R) : CallV Tryz.prog q35 [.agg #[vi a_0, vi a_1, vi a_2, Sl.v a_3], .agg #[vi b_0, vi b_1, vi b_2, Sl.v b_3]] m R :=
 vcs (A := ⟨[], [], [], []⟩) (n := 26) (rs := [.tmp 4]) (args := [.agg [.i a_0, .i a_1, .i a_2, .s a_3], .agg [.i b_0, .i b_1, .i b_2, .s b_3]]) (c := bodyOf Tryz.f11) Tryz.func11 hvc
def qe9 (a_0 a_1 b_0 b_1 : Sl) (m : Mem) (R : Value -> Mem -> Prop) : Prop :=
 let m1 : Mem := m.push (.cells (vals [.s a_0, .s a_1]) 35)
 let m1_1 : Mem := m1.push (.cells (vals [.s b_0, .s b_1]) 35)
 eqT m.size m.size (
 eqT m1.size m1.size (
 CallV Tryz.prog q9b [Sl.v a_0, Sl.v b_0] m1_1 fun r m1_2 =>
 Sam [m1.size, m.size] m1_1 m1_2 /\
 ∃ r9 : Bool, r = vb r9 /\
 ((!r9) = true ->
 R (vb false) m1_2) /\
 ((!r9) = false ->
 eqT m.size m.size (
 eqT m1.size m1.size (
 CallV Tryz.prog q9n [Sl.v a_1, Sl.v b_1] m1_2 fun r_1 m1_3 =>
 Sam [m1.size, m.size] m1_2 m1_3 /\
 ∃ r15 : Bool, r_1 = vb r15 /\
 ((!r15) = true ->
 R (vb false) m1_3) /\
 ((!r15) = false ->
 R (vb true) m1_3))))))
theorem qjn (a_0 a_1 b_0 b_1 : Sl) (m : Mem) (R : Value -> Mem -> Prop) (hvc : qe9 a_0 a_1 b_0 b_1 m R) : CallV Tryz.prog q9f [.agg #[Sl.v a_0, Sl.v a_1], .agg #[Sl.v b_0, Sl.v b_1]] m R :=
 vcs (A := ⟨[], [], [], []⟩) (n := 17) (rs := [.tmp 4]) (args := [.agg [.s a_0, .s a_1], .agg [.s b_0, .s b_1]]) (c := bodyOf Tryz.f12) Tryz.func12 hvc
def qb3 (a_0 a_1 : Sl) (k : Int) (m : Mem) (R : Value -> Mem -> Prop) : Prop :=
 let m1 : Mem := m.push (.cells (vals [.s a_0, .s a_1]) 35)
 eqT m.size m.size (
 CallV Tryz.prog q76 [Sl.v a_0, vi k] m1 fun r m1_1 =>
 Sam [m.size] m1 m1_1 /\
 ∃ r8 : Int, r = vi r8 /\
 eqT m.size m.size (
 CallV Tryz.prog q7g [Sl.v a_1, vi r8] m1_1 fun r_1 m1_2 =>
 Sam [m.size] m1_1 m1_2 /\
 ∃ r12 : Int, r_1 = vi r12 /\
 R (vi r12) m1_2))
theorem qfz (a_0 a_1 : Sl) (k : Int) (m : Mem) (R : Value -> Mem -> Prop) (hvc : qb3 a_0 a_1 k m R) : CallV Tryz.prog q77 [.agg #[Sl.v a_0, Sl.v a_1], vi k] m R :=
 vcs (A := ⟨[], [], [], []⟩) (n := 14) (rs := [.tmp 4]) (args := [.agg [.s a_0, .s a_1], .c (.i k)]) (c := bodyOf Tryz.f13) Tryz.func13 hvc
def q8r (a_0 a_1 a_2 : Int) (a_3 : Sl) (k : Int) (m : Mem) (R : Value -> Mem -> Prop) : Prop :=
 let m1 : Mem := m.push (.cells (vals [.i a_0, .i a_1, .i a_2, .s a_3]) 29)
 eqT m.size m.size (
 CallV Tryz.prog q1i [Sl.v a_3, vi k] m1 fun r m1_1 =>
 Sam [m.size] m1 m1_1 /\
 ∃ r8 : Int, r = vi r8 /\
 R (vi r8) m1_1)
theorem qei (a_0 a_1 a_2 : Int) (a_3 : Sl) (k : Int) (m : Mem) (R : Value -> Mem -> Prop) (hvc : q8r a_0 a_1 a_2 a_3 k m R) : CallV Tryz.prog q5k [.agg #[vi a_0, vi a_1, vi a_2, Sl.v a_3], vi k] m R :=
 vcs (A := ⟨[], [], [], []⟩) (n := 10) (rs := [.tmp 4]) (args := [.agg [.i a_0, .i a_1, .i a_2, .s a_3], .c (.i k)]) (c := bodyOf Tryz.f14) Tryz.func14 hvc
def q8s (a_0 a_1 a_2 : Int) (a_3 : Sl) (k : Int) (m : Mem) (R : Value -> Mem -> Prop) : Prop :=
 let m1 : Mem := m.push (.cells (vals [.i a_0, .i a_1, .i a_2, .s a_3]) 29)
 eqT m.size m.size (
 CallV Tryz.prog q7y [Sl.v a_3, vi k] m1 fun r m1_1 =>
 Sam [m.size] m1 m1_1 /\
 ∃ r8 : Int, r = vi r8 /\
 ((decide (r8 < 0)) = true ->
 R (vi (-1)) m1_1) /\
 ((decide (r8 < 0)) = false ->
 R (vi r8) m1_1))
theorem qej (a_0 a_1 a_2 : Int) (a_3 : Sl) (k : Int) (m : Mem) (R : Value -> Mem -> Prop) (hvc : q8s a_0 a_1 a_2 a_3 k m R) : CallV Tryz.prog q2f [.agg #[vi a_0, vi a_1, vi a_2, Sl.v a_3], vi k] m R :=
 vcs (A := ⟨[], [], [], []⟩) (n := 12) (rs := [.tmp 4]) (args := [.agg [.i a_0, .i a_1, .i a_2, .s a_3], .c (.i k)]) (c := bodyOf Tryz.f15) Tryz.func15 hvc
end Go.Proofs.YtpggcodlaajceaaGreat
end
section
set_option linter.unusedVariables false
set_option maxRecDepth 100000
namespace Go.Proofs.YtpggcodlaajceaaGreat
open Go.Vc
end Go.Proofs.YtpggcodlaajceaaGreat
end
section
set_option linter.unusedVariables false
set_option maxRecDepth 100000
namespace Go.Proofs.YtpggcodlaajceaaGreat
open Go.Vc
end Go.Proofs.YtpggcodlaajceaaGreat
end
section
set_option linter.unusedVariables false
set_option maxRecDepth 100000
namespace Go.Proofs.YtpggcodlaajceaaGreat
open Go.Vc
def qdi (a : Sl) (left : Int) (m : Mem) (R : Value -> Mem -> Prop) : Prop :=
 ((decide ((w64 (left - (a.len : Int))) < 0)) = true ->
 R (vi (-1)) m) /\
 ((decide ((w64 (left - (a.len : Int))) < 0)) = false ->
 ∃ (I0 : Int -> Int -> Mem -> Prop) (μ0 : Int -> Int -> Mem -> Nat),
 I0 (w64 (left - (a.len : Int))) 0 m /\
 (∀ (left_1 : Int) (i : Int) (m1 : Mem), I0 left_1 i m1 ->
 ((decide (i < (a.len : Int))) = true ->
 0 <= i /\ i < (a.len : Int) /\
 ∃ v21_0 : Int, gcell m1 a.blk (a.off + Int.toNat i * 3) = some (vi v21_0) /\
 ∃ v21_1 : Int, gcell m1 a.blk (a.off + Int.toNat i * 3 + 1) = some (vi v21_1) /\
 ∃ v21_2 : Sl, gcell m1 a.blk (a.off + Int.toNat i * 3 + 2) = some (Sl.v v21_2) /\
 CallV Tryz.prog qat [.agg #[vi v21_0, vi v21_1, Sl.v v21_2], vi left_1] m1 fun r m1_1 =>
 ∃ r23 : Int, r = vi r23 /\
 ((decide (r23 < 0)) = true ->
 R (vi (-1)) m1_1) /\
 ((decide (r23 < 0)) = false ->
 I0 r23 (w64 (i + 1)) m1_1 /\ μ0 r23 (w64 (i + 1)) m1_1 < μ0 left_1 i m1)) /\
 ((decide (i < (a.len : Int))) = false ->
 R (vi left_1) m1)))
theorem qis (a : Sl) (left : Int) (m : Mem) (R : Value -> Mem -> Prop) (hvc : qdi a left m R) : CallV Tryz.prog q91 [Sl.v a, vi left] m R :=
 vcs (A := ⟨[], [(5, [(1, .I), (5, .I)])], [], []⟩) (n := 27) (rs := [.tmp 4]) (args := [.c (.s a), .c (.i left)]) (c := bodyOf Tryz.f28) Tryz.func28 hvc
def qdu (a : Sl) (left : Int) (m : Mem) (R : Value -> Mem -> Prop) : Prop :=
 ((decide ((w64 (left - (a.len : Int))) < 0)) = true ->
 R (vi (-1)) m) /\
 ((decide ((w64 (left - (a.len : Int))) < 0)) = false ->
 ∃ (I0 : Int -> Int -> Mem -> Prop) (μ0 : Int -> Int -> Mem -> Nat),
 I0 (w64 (left - (a.len : Int))) 0 m /\
 (∀ (left_1 : Int) (i : Int) (m1 : Mem), I0 left_1 i m1 ->
 ((decide (i < (a.len : Int))) = true ->
 0 <= i /\ i < (a.len : Int) /\
 ∃ v21_0 : Sl, gcell m1 a.blk (a.off + Int.toNat i * 5) = some (Sl.v v21_0) /\
 ∃ v21_1 : Sl, gcell m1 a.blk (a.off + Int.toNat i * 5 + 1) = some (Sl.v v21_1) /\
 ∃ v21_2 : Int, gcell m1 a.blk (a.off + Int.toNat i * 5 + 2) = some (vi v21_2) /\
 ∃ v21_3 : Int, gcell m1 a.blk (a.off + Int.toNat i * 5 + 3) = some (vi v21_3) /\
 ∃ v21_4 : Sl, gcell m1 a.blk (a.off + Int.toNat i * 5 + 4) = some (Sl.v v21_4) /\
 CallV Tryz.prog qau [.agg #[Sl.v v21_0, Sl.v v21_1, vi v21_2, vi v21_3, Sl.v v21_4], vi left_1] m1 fun r m1_1 =>
 ∃ r23 : Int, r = vi r23 /\
 ((decide (r23 < 0)) = true ->
 R (vi (-1)) m1_1) /\
 ((decide (r23 < 0)) = false ->
 I0 r23 (w64 (i + 1)) m1_1 /\ μ0 r23 (w64 (i + 1)) m1_1 < μ0 left_1 i m1)) /\
 ((decide (i < (a.len : Int))) = false ->
 R (vi left_1) m1)))
theorem qjw (a : Sl) (left : Int) (m : Mem) (R : Value -> Mem -> Prop) (hvc : qdu a left m R) : CallV Tryz.prog q94 [Sl.v a, vi left] m R :=
 vcs (A := ⟨[], [(5, [(1, .I), (5, .I)])], [], []⟩) (n := 27) (rs := [.tmp 4]) (args := [.c (.s a), .c (.i left)]) (c := bodyOf Tryz.f29) Tryz.func29 hvc
def qa1 (im_0 im_1 : Sl) (m : Mem) (R : Value -> Mem -> Prop) : Prop :=
 let m1 : Mem := m.push (.cells (vals [.s im_0, .s im_1]) 35)
 eqT m.size m.size (
 ((decide ((im_1.len : Int) > 4)) = true ->
 R (vb false) m1) /\
 ((decide ((im_1.len : Int) > 4)) = false ->
 eqT m.size m.size (
 CallV Tryz.prog q58 [.agg #[Sl.v im_0, Sl.v im_1]] m1 fun r m1_1 =>
 Sam [m.size] m1 m1_1 /\
 ∃ r_0 : Sl, ∃ r_1 : Sl, r = .agg #[Sl.v r_0, Sl.v r_1] /\
 CallV Tryz.prog q7b [.agg #[Sl.v r_0, Sl.v r_1]] m1_1 fun r_2 m1_2 =>
 Sam [m.size] m1_1 m1_2 /\
 ∃ r11 : Bool, r_2 = vb r11 /\
 ((!r11) = true ->
 R (vb false) m1_2) /\
 ((!r11) = false ->
 ∃ (I0 : Int -> Mem -> Prop) (μ0 : Int -> Mem -> Nat),
 I0 0 m1_2 /\
 (∀ (i : Int) (m1_3 : Mem), I0 i m1_3 ->
 eqT m.size m.size (
 ((decide (i < (im_1.len : Int))) = true ->
 eqT m.size m.size (
 eqT m.size m.size (
 0 <= i /\ i < (im_1.len : Int) /\
 ∃ v26_0 : Sl, gcell m1_3 im_1.blk (im_1.off + Int.toNat i * 5) = some (Sl.v v26_0) /\
 ∃ v26_1 : Sl, gcell m1_3 im_1.blk (im_1.off + Int.toNat i * 5 + 1) = some (Sl.v v26_1) /\
 ∃ v26_2 : Int, gcell m1_3 im_1.blk (im_1.off + Int.toNat i * 5 + 2) = some (vi v26_2) /\
 ∃ v26_3 : Int, gcell m1_3 im_1.blk (im_1.off + Int.toNat i * 5 + 3) = some (vi v26_3) /\
 ∃ v26_4 : Sl, gcell m1_3 im_1.blk (im_1.off + Int.toNat i * 5 + 4) = some (Sl.v v26_4) /\
 CallV Tryz.prog q7d [.agg #[Sl.v im_0, Sl.v im_1], .agg #[Sl.v v26_0, Sl.v v26_1, vi v26_2, vi v26_3, Sl.v v26_4]] m1_3 fun r_3 m1_4 =>
 Sam [m.size] m1_3 m1_4 /\
 ∃ r27 : Bool, r_3 = vb r27 /\
 ((!r27) = true ->
 R (vb false) m1_4) /\
 ((!r27) = false ->
 eqS (SV.box m.size 35 [.s im_0, .s im_1]) (SV.box m.size 35 [.s im_0, .s im_1]) (
 I0 (w64 (i + 1)) m1_4 /\ μ0 (w64 (i + 1)) m1_4 < μ0 i m1_3))))) /\
 ((decide (i < (im_1.len : Int))) = false ->
 R (vb true) m1_3)))))))
theorem qfq (im_0 im_1 : Sl) (m : Mem) (R : Value -> Mem -> Prop) (hvc : qa1 im_0 im_1 m R) : CallV Tryz.prog q6d [.agg #[Sl.v im_0, Sl.v im_1]] m R :=
 vcs (A := ⟨[(6, [0, 0, 2, 0, 12, 16, 33, 64], [0, 0, 2, 0, 14, 30, 63, 127])], [(4, [(3, .I)])], [], [(4, [30])]⟩) (n := 29) (rs := [.tmp 2]) (args := [.agg [.s im_0, .s im_1]]) (c := bodyOf Tryz.f30) Tryz.func30 hvc
def qmr (n low high : Int) (m : Mem) (R : Value -> Mem -> Prop) : Prop :=
 ((decide (low <= n)) = true ->
 R (vb (decide (n <= high))) m) /\
 ((decide (low <= n)) = false ->
 R (vb false) m)
theorem qj2 (n low high : Int) (m : Mem) (R : Value -> Mem -> Prop) (hvc : qmr n low high m R) : CallV Tryz.prog q0d [vi n, vi low, vi high] m R :=
 vcs (A := ⟨[], [], [], []⟩) (n := 15) (rs := [.tmp 6]) (args := [.c (.i n), .c (.i low), .c (.i high)]) (c := bodyOf Tryz.f31) Tryz.func31 hvc
def qb9 (s_0 s_1 s_2 s_3 : Int) (s_4 s_5 s_6 : Sl) (m : Mem) (R : Value -> Mem -> Prop) : Prop :=
 let m1 : Mem := m.push (.cells (vals [.i s_0, .i s_1, .i s_2, .i s_3, .s s_4, .s s_5, .s s_6]) 55)
 let m1_1 : Mem := m1.push (.cells (vals [.i 0, .i 0, .i 0, .s Sl.nil]) 29)
 eqT m.size m.size (
 eqT m.size m.size (
 eqT m.size m.size (
 eqT m.size m.size (
 CallV Tryz.prog q1v [Sl.v s_4] m1_1 fun r m1_2 =>
 Sam [m1.size, m.size] m1_1 m1_2 /\
 ∃ r11 : Sl, r = Sl.v r11 /\
 gcell m1_2 m.size 2 = gcell m1_1 m.size 2 /\
 gcell m1_2 m.size 1 = gcell m1_1 m.size 1 /\
 gcell m1_2 m.size 0 = gcell m1_1 m.size 0 /\
 eqT m1.size m1.size (
 let m1_3 : Mem := scells m1_2 m1.size 0 [.i s_0, .i s_1, .i s_2, .s r11]
 eqT m1.size m1.size (
 R (.agg #[vi s_0, vi s_1, vi s_2, Sl.v r11]) m1_3))))))
theorem qg7 (s_0 s_1 s_2 s_3 : Int) (s_4 s_5 s_6 : Sl) (m : Mem) (R : Value -> Mem -> Prop) (hvc : qb9 s_0 s_1 s_2 s_3 s_4 s_5 s_6 m R) : CallV Tryz.prog q75 [.agg #[vi s_0, vi s_1, vi s_2, vi s_3, Sl.v s_4, Sl.v s_5, Sl.v s_6]] m R :=
 vcs (A := ⟨[(1, [0, 1, 0, 4, 0, 16, 0, 64, 128, 298, 1023], [0, 1, 0, 4, 0, 16, 0, 64, 192, 511, 1023])], [], [], []⟩) (n := 13) (rs := [.cell 2 29]) (args := [.agg [.i s_0, .i s_1, .i s_2, .i s_3, .s s_4, .s s_5, .s s_6]]) (c := bodyOf Tryz.f32) Tryz.func32 hvc
def qdo (im_0 im_1 : Sl) (most : Int) (m : Mem) (R : Value -> Mem -> Prop) : Prop :=
 let m1 : Mem := m.push (.cells (vals [.s im_0, .s im_1]) 35)
 let m1_1 : Mem := m1.push (.cells (vals [.i 0, .i 0, .i 0, .i 0, .s Sl.nil, .s Sl.nil, .s Sl.nil]) 55)
 eqT m.size m.size (
 eqT m.size m.size (
 CallV Tryz.prog q6h [.agg #[Sl.v im_0, Sl.v im_1], vi most] m1_1 fun r m1_2 =>
 Sam [m1.size, m.size] m1_1 m1_2 /\
 ∃ r_0 : Int, ∃ r_1 : Int, ∃ r_2 : Int, ∃ r_3 : Int, ∃ r_4 : Sl, ∃ r_5 : Sl, ∃ r_6 : Sl, r = .agg #[vi r_0, vi r_1, vi r_2, vi r_3, Sl.v r_4, Sl.v r_5, Sl.v r_6] /\
 gcell m1_2 m.size 0 = gcell m1_1 m.size 0 /\
 gcell m1_2 m.size 1 = gcell m1_1 m.size 1 /\
 let m1_3 : Mem := m1_2.push (.cells (vals [.s im_0, .s im_1, .i r_0, .i r_1, .i r_2, .i r_3, .s r_4, .s r_5, .s r_6]) 97)
 CallV Tryz.prog q5i [vp m1_2.size 0, vi 100000] m1_3 fun r_7 m1_4 =>
 Sam [m1.size, m.size] m1_3 m1_4 /\
 ∃ r13 : Int, r_7 = vi r13 /\
 ∃ v17_0 : Int, gcell m1_4 m1_2.size 2 = some (vi v17_0) /\
 ∃ v17_1 : Int, gcell m1_4 m1_2.size 3 = some (vi v17_1) /\
 ∃ v17_2 : Int, gcell m1_4 m1_2.size 4 = some (vi v17_2) /\
 ∃ v17_3 : Int, gcell m1_4 m1_2.size 5 = some (vi v17_3) /\
 ∃ v17_4 : Sl, gcell m1_4 m1_2.size 6 = some (Sl.v v17_4) /\
 ∃ v17_5 : Sl, gcell m1_4 m1_2.size 7 = some (Sl.v v17_5) /\
 ∃ v17_6 : Sl, gcell m1_4 m1_2.size 8 = some (Sl.v v17_6) /\
 eqT m1.size m1.size (
 let m1_5 : Mem := scells m1_4 m1.size 0 [.i v17_0, .i v17_1, .i v17_2, .i v17_3, .s v17_4, .s v17_5, .s v17_6]
 eqT m1.size m1.size (
 R (.agg #[vi v17_0, vi v17_1, vi v17_2, vi v17_3, Sl.v v17_4, Sl.v v17_5, Sl.v v17_6]) m1_5))))
theorem qjl (im_0 im_1 : Sl) (most : Int) (m : Mem) (R : Value -> Mem -> Prop) (hvc : qdo im_0 im_1 most m R) : CallV Tryz.prog q95 [.agg #[Sl.v im_0, Sl.v im_1], vi most] m R :=
 vcs (A := ⟨[(1, [0, 0, 0, 6, 9, 16, 63], [0, 0, 0, 6, 15, 31, 63])], [], [], []⟩) (n := 18) (rs := [.cell 4 55]) (args := [.agg [.s im_0, .s im_1], .c (.i most)]) (c := bodyOf Tryz.f33) Tryz.func33 hvc
def qdv (a : Sl) (m : Mem) (R : Value -> Mem -> Prop) : Prop :=
 0 <= (a.len : Int) /\ (a.len : Int) <= (a.len : Int) /\ ((40 : Nat) : Int) * (a.len : Int) <= 281474976710656 /\ (a.len : Int) <= 9223372036854775807 /\
 let m1 : Mem := m.push (.cells (vals (zrow [.i 0, .i 0, .s Sl.nil] (Int.toNat (a.len : Int)))) 122)
 ∃ (I0 : Int -> Mem -> Prop) (μ0 : Int -> Mem -> Nat),
 I0 0 m1 /\
 (∀ (i : Int) (m1_1 : Mem), I0 i m1_1 ->
 ((decide (i < (a.len : Int))) = true ->
 0 <= i /\ i < (a.len : Int) /\
 ∃ v19_0 : Int, gcell m1_1 a.blk (a.off + Int.toNat i * 3) = some (vi v19_0) /\
 ∃ v19_1 : Int, gcell m1_1 a.blk (a.off + Int.toNat i * 3 + 1) = some (vi v19_1) /\
 ∃ v19_2 : Sl, gcell m1_1 a.blk (a.off + Int.toNat i * 3 + 2) = some (Sl.v v19_2) /\
 CallV Tryz.prog qax [.agg #[vi v19_0, vi v19_1, Sl.v v19_2]] m1_1 fun r m1_2 =>
 ∃ r_0 : Int, ∃ r_1 : Int, ∃ r_2 : Sl, r = .agg #[vi r_0, vi r_1, Sl.v r_2] /\
 0 <= i /\ i < ((Sl.mk m.size 0 (Int.toNat (a.len : Int)) (Int.toNat (a.len : Int))).len : Int) /\
 wrOk m1_2 ((Sl.mk m.size 0 (Int.toNat (a.len : Int)) (Int.toNat (a.len : Int))).blk) ((Sl.mk m.size 0 (Int.toNat (a.len : Int)) (Int.toNat (a.len : Int))).off + Int.toNat i * 3) 3 /\
 let m1_3 : Mem := scells m1_2 ((Sl.mk m.size 0 (Int.toNat (a.len : Int)) (Int.toNat (a.len : Int))).blk) ((Sl.mk m.size 0 (Int.toNat (a.len : Int)) (Int.toNat (a.len : Int))).off + Int.toNat i * 3) [.i r_0, .i r_1, .s r_2]
 I0 (w64 (i + 1)) m1_3 /\ μ0 (w64 (i + 1)) m1_3 < μ0 i m1_1) /\
 ((decide (i < (a.len : Int))) = false ->
 R (Sl.v (Sl.mk m.size 0 (Int.toNat (a.len : Int)) (Int.toNat (a.len : Int)))) m1_1))
theorem qif (a : Sl) (m : Mem) (R : Value -> Mem -> Prop) (hvc : qdv a m R) : CallV Tryz.prog q92 [Sl.v a] m R :=
 vcs (A := ⟨[], [(3, [(4, .I)])], [], []⟩) (n := 23) (rs := [.tmp 2]) (args := [.c (.s a)]) (c := bodyOf Tryz.f34) Tryz.func34 hvc
def qdx (a : Sl) (m : Mem) (R : Value -> Mem -> Prop) : Prop :=
 0 <= (a.len : Int) /\ (a.len : Int) <= (a.len : Int) /\ ((88 : Nat) : Int) * (a.len : Int) <= 281474976710656 /\ (a.len : Int) <= 9223372036854775807 /\
 let m1 : Mem := m.push (.cells (vals (zrow [.s Sl.nil, .s Sl.nil, .i 0, .i 0, .s Sl.nil] (Int.toNat (a.len : Int)))) 89)
 ∃ (I0 : Int -> Mem -> Prop) (μ0 : Int -> Mem -> Nat),
 I0 0 m1 /\
 (∀ (i : Int) (m1_1 : Mem), I0 i m1_1 ->
 ((decide (i < (a.len : Int))) = true ->
 0 <= i /\ i < (a.len : Int) /\
 ∃ v19_0 : Sl, gcell m1_1 a.blk (a.off + Int.toNat i * 5) = some (Sl.v v19_0) /\
 ∃ v19_1 : Sl, gcell m1_1 a.blk (a.off + Int.toNat i * 5 + 1) = some (Sl.v v19_1) /\
 ∃ v19_2 : Int, gcell m1_1 a.blk (a.off + Int.toNat i * 5 + 2) = some (vi v19_2) /\
 ∃ v19_3 : Int, gcell m1_1 a.blk (a.off + Int.toNat i * 5 + 3) = some (vi v19_3) /\
 ∃ v19_4 : Sl, gcell m1_1 a.blk (a.off + Int.toNat i * 5 + 4) = some (Sl.v v19_4) /\
 CallV Tryz.prog qal [.agg #[Sl.v v19_0, Sl.v v19_1, vi v19_2, vi v19_3, Sl.v v19_4]] m1_1 fun r m1_2 =>
 ∃ r_0 : Sl, ∃ r_1 : Sl, ∃ r_2 : Int, ∃ r_3 : Int, ∃ r_4 : Sl, r = .agg #[Sl.v r_0, Sl.v r_1, vi r_2, vi r_3, Sl.v r_4] /\
 0 <= i /\ i < ((Sl.mk m.size 0 (Int.toNat (a.len : Int)) (Int.toNat (a.len : Int))).len : Int) /\
 wrOk m1_2 ((Sl.mk m.size 0 (Int.toNat (a.len : Int)) (Int.toNat (a.len : Int))).blk) ((Sl.mk m.size 0 (Int.toNat (a.len : Int)) (Int.toNat (a.len : Int))).off + Int.toNat i * 5) 5 /\
 let m1_3 : Mem := scells m1_2 ((Sl.mk m.size 0 (Int.toNat (a.len : Int)) (Int.toNat (a.len : Int))).blk) ((Sl.mk m.size 0 (Int.toNat (a.len : Int)) (Int.toNat (a.len : Int))).off + Int.toNat i * 5) [.s r_0, .s r_1, .i r_2, .i r_3, .s r_4]
 I0 (w64 (i + 1)) m1_3 /\ μ0 (w64 (i + 1)) m1_3 < μ0 i m1_1) /\
 ((decide (i < (a.len : Int))) = false ->
 R (Sl.v (Sl.mk m.size 0 (Int.toNat (a.len : Int)) (Int.toNat (a.len : Int)))) m1_1))
theorem qjs (a : Sl) (m : Mem) (R : Value -> Mem -> Prop) (hvc : qdx a m R) : CallV Tryz.prog q9a [Sl.v a] m R :=
 vcs (A := ⟨[], [(3, [(4, .I)])], [], []⟩) (n := 23) (rs := [.tmp 2]) (args := [.c (.s a)]) (c := bodyOf Tryz.f35) Tryz.func35 hvc
def q9w (im_0 im_1 : Sl) (m : Mem) (R : Value -> Mem -> Prop) : Prop :=
 let m1 : Mem := m.push (.cells (vals [.s im_0, .s im_1]) 35)
 eqT m.size m.size (
 CallV Tryz.prog q7h [.agg #[Sl.v im_0, Sl.v im_1]] m1 fun r m1_1 =>
 Sam [m.size] m1 m1_1 /\
 ∃ r_0 : Sl, ∃ r_1 : Sl, ∃ r12 : Bool, r = .tuple #[.agg #[Sl.v r_0, Sl.v r_1], vb r12] /\
 let m1_2 : Mem := m1_1.push (.cells (vals [.s Sl.nil, .s Sl.nil]) 127)
 eqT m1_1.size m1_1.size (
 let m1_3 : Mem := scells m1_2 m1_1.size 0 [.s r_0, .s r_1]
 ((!r12) = true ->
 R (vb false) m1_3) /\
 ((!r12) = false ->
 eqT m.size m.size (
 ∃ (I0 : Int -> Mem -> Prop) (μ0 : Int -> Mem -> Nat),
 I0 0 m1_3 /\
 (∀ (v20 : Int) (m1_4 : Mem), I0 v20 m1_4 ->
 ((decide (v20 < (im_1.len : Int))) = true ->
 0 <= v20 /\ v20 < (im_1.len : Int) /\
 ∃ v23_0 : Sl, gcell m1_4 im_1.blk (im_1.off + Int.toNat v20 * 5) = some (Sl.v v23_0) /\
 ∃ v23_1 : Sl, gcell m1_4 im_1.blk (im_1.off + Int.toNat v20 * 5 + 1) = some (Sl.v v23_1) /\
 ∃ v23_2 : Int, gcell m1_4 im_1.blk (im_1.off + Int.toNat v20 * 5 + 2) = some (vi v23_2) /\
 ∃ v23_3 : Int, gcell m1_4 im_1.blk (im_1.off + Int.toNat v20 * 5 + 3) = some (vi v23_3) /\
 ∃ v23_4 : Sl, gcell m1_4 im_1.blk (im_1.off + Int.toNat v20 * 5 + 4) = some (Sl.v v23_4) /\
 let m1_5 : Mem := m1_4.push (.cells (vals [.s Sl.nil, .s Sl.nil, .i 0, .i 0, .s Sl.nil]) 89)
 eqT m1_4.size m1_4.size (
 let m1_6 : Mem := scells m1_5 m1_4.size 0 [.s v23_0, .s v23_1, .i v23_2, .i v23_3, .s v23_4]
 eqT m1_4.size m1_4.size (
 eqT m1_4.size m1_4.size (
 ((decide (v23_3 < (if (v23_0.len : Int) > 1 then (v23_0.len : Int) else 1))) = true ->
 R (vb false) m1_6) /\
 ((decide (v23_3 < (if (v23_0.len : Int) > 1 then (v23_0.len : Int) else 1))) = false ->
 eqT m1_4.size m1_4.size (
 ((decide (v23_3 > 2000)) = true ->
 R (vb false) m1_6) /\
 ((decide (v23_3 > 2000)) = false ->
 eqT m1_4.size m1_4.size (
 ((decide ((v23_4.len : Int) < 1)) = true ->
 R (vb false) m1_6) /\
 ((decide ((v23_4.len : Int) < 1)) = false ->
 eqT m1_4.size m1_4.size (
 ((decide ((v23_4.len : Int) > 2000)) = true ->
 R (vb false) m1_6) /\
 ((decide ((v23_4.len : Int) > 2000)) = false ->
 ∃ K0 : Mem -> Prop,
 (eqT m1_4.size m1_4.size (
 eqT m1_4.size m1_4.size (
 0 <= (w64 ((v23_4.len : Int) - 1)) /\ (w64 ((v23_4.len : Int) - 1)) < (v23_4.len : Int) /\
 ∃ v56 : Int, gcell m1_6 v23_4.blk (v23_4.off + Int.toNat (w64 ((v23_4.len : Int) - 1)) * 6) = some (vi v56) /\
 ((v56 != 23) = true ->
 ((v56 != 24) = true ->
 R (vb false) m1_6) /\
 ((v56 != 24) = false ->
 eqS (SV.box m1_4.size 89 [.s v23_0, .s v23_1, .i v23_2, .i v23_3, .s v23_4]) (SV.box m1_4.size 89 [.s v23_0, .s v23_1, .i v23_2, .i v23_3, .s v23_4]) (
 eqS (SV.box m1_1.size 127 [.s r_0, .s r_1]) (SV.box m1_1.size 127 [.s r_0, .s r_1]) (
 eqS (SV.box m.size 35 [.s im_0, .s im_1]) (SV.box m.size 35 [.s im_0, .s im_1]) (
 K0 m1_6))))) /\
 ((v56 != 23) = false ->
 eqS (SV.box m1_4.size 89 [.s v23_0, .s v23_1, .i v23_2, .i v23_3, .s v23_4]) (SV.box m1_4.size 89 [.s v23_0, .s v23_1, .i v23_2, .i v23_3, .s v23_4]) (
 eqS (SV.box m1_1.size 127 [.s r_0, .s r_1]) (SV.box m1_1.size 127 [.s r_0, .s r_1]) (
 eqS (SV.box m.size 35 [.s im_0, .s im_1]) (SV.box m.size 35 [.s im_0, .s im_1]) (
 K0 m1_6))))))) /\
 (∀ (m1_7 : Mem), K0 m1_7 ->
 eqT m1_4.size m1_4.size (
 ∃ (I0_1 : Int -> Mem -> Prop) (μ0_1 : Int -> Mem -> Nat),
 I0_1 0 m1_7 /\
 (∀ (v66 : Int) (m1_8 : Mem), I0_1 v66 m1_8 ->
 ((decide (v66 < (v23_4.len : Int))) = true ->
 0 <= v66 /\ v66 < (v23_4.len : Int) /\
 ∃ v70_0 : Int, gcell m1_8 v23_4.blk (v23_4.off + Int.toNat v66 * 6) = some (vi v70_0) /\
 ∃ v70_1 : Int, gcell m1_8 v23_4.blk (v23_4.off + Int.toNat v66 * 6 + 1) = some (vi v70_1) /\
 ∃ v70_2 : Int, gcell m1_8 v23_4.blk (v23_4.off + Int.toNat v66 * 6 + 2) = some (vi v70_2) /\
 ∃ v70_3 : Int, gcell m1_8 v23_4.blk (v23_4.off + Int.toNat v66 * 6 + 3) = some (vi v70_3) /\
 ∃ v70_4 : Sl, gcell m1_8 v23_4.blk (v23_4.off + Int.toNat v66 * 6 + 4) = some (Sl.v v70_4) /\
 ∃ v70_5 : Sl, gcell m1_8 v23_4.blk (v23_4.off + Int.toNat v66 * 6 + 5) = some (Sl.v v70_5) /\
 let m1_9 : Mem := m1_8.push (.cells (vals [.i 0, .i 0, .i 0, .i 0, .s Sl.nil, .s Sl.nil]) 86)
 eqT m1_8.size m1_8.size (
 let m1_10 : Mem := scells m1_9 m1_8.size 0 [.i v70_0, .i v70_1, .i v70_2, .i v70_3, .s v70_4, .s v70_5]
 eqT m1_1.size m1_1.size (
 eqT m1_4.size m1_4.size (
 eqT m1_8.size m1_8.size (
 CallV Tryz.prog q24 [.agg #[Sl.v r_0, Sl.v r_1], .agg #[Sl.v v23_0, Sl.v v23_1, vi v23_2, vi v23_3, Sl.v v23_4], vi v66, .agg #[vi v70_0, vi v70_1, vi v70_2, vi v70_3, Sl.v v70_4, Sl.v v70_5]] m1_10 fun r_2 m1_11 =>
 Sam [m1_8.size, m1_4.size, m1_1.size, m.size] m1_10 m1_11 /\
 ∃ r75 : Bool, r_2 = vb r75 /\
 ((!r75) = true ->
 R (vb false) m1_11) /\
 ((!r75) = false ->
 eqS (SV.box m1_4.size 89 [.s v23_0, .s v23_1, .i v23_2, .i v23_3, .s v23_4]) (SV.box m1_4.size 89 [.s v23_0, .s v23_1, .i v23_2, .i v23_3, .s v23_4]) (
 eqS (SV.box m1_1.size 127 [.s r_0, .s r_1]) (SV.box m1_1.size 127 [.s r_0, .s r_1]) (
 eqS (SV.box m.size 35 [.s im_0, .s im_1]) (SV.box m.size 35 [.s im_0, .s im_1]) (
 I0_1 (w64 (v66 + 1)) m1_11 /\ μ0_1 (w64 (v66 + 1)) m1_11 < μ0_1 v66 m1_8))))))))) /\
 ((decide (v66 < (v23_4.len : Int))) = false ->
 eqS (SV.box m1_1.size 127 [.s r_0, .s r_1]) (SV.box m1_1.size 127 [.s r_0, .s r_1]) (
 eqS (SV.box m.size 35 [.s im_0, .s im_1]) (SV.box m.size 35 [.s im_0, .s im_1]) (
 I0 (w64 (v20 + 1)) m1_8 /\ μ0 (w64 (v20 + 1)) m1_8 < μ0 v20 m1_4))))))))))))))))) /\
 ((decide (v20 < (im_1.len : Int))) = false ->
 R (vb true) m1_4))))))
theorem qf1 (im_0 im_1 : Sl) (m : Mem) (R : Value -> Mem -> Prop) (hvc : q9w im_0 im_1 m R) : CallV Tryz.prog q67 [.agg #[Sl.v im_0, Sl.v im_1]] m R :=
 vcs (A := ⟨[], [(5, [(20, .I)]), (13, [(66, .I)])], [(12, [])], [(5, [82, 80]), (12, [85, 82, 80]), (13, [85, 82, 80])]⟩) (n := 79) (rs := [.tmp 2]) (args := [.agg [.s im_0, .s im_1]]) (c := bodyOf Tryz.f36) Tryz.func36 hvc
def qco (decls : Sl) (m : Mem) (R : Value -> Mem -> Prop) : Prop :=
 ∃ (I0 : Int -> Int -> Mem -> Prop) (μ0 : Int -> Int -> Mem -> Nat),
 I0 0 0 m /\
 (∀ (n : Int) (v8 : Int) (m1 : Mem), I0 n v8 m1 ->
 ((decide (v8 < (decls.len : Int))) = true ->
 0 <= v8 /\ v8 < (decls.len : Int) /\
 ∃ v11_0 : Int, gcell m1 decls.blk (decls.off + Int.toNat v8 * 3) = some (vi v11_0) /\
 ∃ v11_1 : Int, gcell m1 decls.blk (decls.off + Int.toNat v8 * 3 + 1) = some (vi v11_1) /\
 ∃ v11_2 : Sl, gcell m1 decls.blk (decls.off + Int.toNat v8 * 3 + 2) = some (Sl.v v11_2) /\
 let m1_1 : Mem := m1.push (.cells (vals [.i 0, .i 0, .s Sl.nil]) 122)
 eqT m1.size m1.size (
 let m1_2 : Mem := scells m1_1 m1.size 0 [.i v11_0, .i v11_1, .s v11_2]
 eqT m1.size m1.size (
 I0 (w64 (n + (v11_2.len : Int))) (w64 (v8 + 1)) m1_2 /\ μ0 (w64 (n + (v11_2.len : Int))) (w64 (v8 + 1)) m1_2 < μ0 n v8 m1))) /\
 ((decide (v8 < (decls.len : Int))) = false ->
 R (vi n) m1))
theorem qhl (decls : Sl) (m : Mem) (R : Value -> Mem -> Prop) (hvc : qco decls m R) : CallV Tryz.prog q1r [Sl.v decls] m R :=
 vcs (A := ⟨[], [(3, [(3, .I), (8, .I)])], [], []⟩) (n := 19) (rs := [.tmp 2]) (args := [.c (.s decls)]) (c := bodyOf Tryz.f37) Tryz.func37 hvc
def qaa (im_0 im_1 : Sl) (most : Int) (m : Mem) (R : Value -> Mem -> Prop) : Prop :=
 let m1 : Mem := m.push (.cells (vals [.s im_0, .s im_1]) 35)
 let m1_1 : Mem := m1.push (.cells (vals [.i 0, .i 0, .i 0, .i 0, .s Sl.nil, .s Sl.nil, .s Sl.nil]) 55)
 eqT m.size m.size (
 CallV Tryz.prog q4u [.agg #[Sl.v im_0, Sl.v im_1], vi 0, vi 0] m1_1 fun r m1_2 =>
 Sam [m1.size, m.size] m1_1 m1_2 /\
 ∃ r_0 : Int, ∃ r_1 : Int, ∃ r_2 : Int, ∃ r_3 : Sl, ∃ r_4 : Sl, ∃ r_5 : Sl, r = .agg #[vi r_0, vi r_1, vi r_2, Sl.v r_3, Sl.v r_4, Sl.v r_5] /\
 let m1_3 : Mem := m1_2.push (.cells (vals [.i r_0, .i r_1, .i r_2, .s r_3, .s r_4, .s r_5]) 84)
 eqT m1.size m1.size (
 let m1_4 : Mem := scells m1_3 m1.size 0 [.i 3, .i 0, .i 0, .i most, .s Sl.nil, .s Sl.nil, .s (Sl.mk m1_2.size 0 1 1)]
 eqT m1.size m1.size (
 R (.agg #[vi 3, vi 0, vi 0, vi most, Sl.v Sl.nil, Sl.v Sl.nil, Sl.v (Sl.mk m1_2.size 0 1 1)]) m1_4)))
theorem qf2 (im_0 im_1 : Sl) (most : Int) (m : Mem) (R : Value -> Mem -> Prop) (hvc : qaa im_0 im_1 most m R) : CallV Tryz.prog q2q [.agg #[Sl.v im_0, Sl.v im_1], vi most] m R :=
 vcs (A := ⟨[], [], [], []⟩) (n := 10) (rs := [.cell 4 55]) (args := [.agg [.s im_0, .s im_1], .c (.i most)]) (c := bodyOf Tryz.f38) Tryz.func38 hvc
end Go.Proofs.YtpggcodlaajceaaGreat
end
section
set_option linter.unusedVariables false
set_option maxRecDepth 100000
namespace Go.Proofs.YtpggcodlaajceaaGreat
open Go.Vc
def q7s (m0 : Nat × Nat) (m : Mem) (R : Value -> Mem -> Prop) : Prop :=
 ∃ v9 : Int, gcell m m0.1 (m0.2 + 3) = some (vi v9) /\
 ((v9 != 3) = true ->
 R (.tuple #[]) m) /\
 ((v9 != 3) = false ->
 ∃ v15 : Sl, gcell m m0.1 (m0.2 + 3 + 6) = some (Sl.v v15) /\
 ∃ v20 : Sl, gcell m m0.1 (m0.2 + 3 + 6) = some (Sl.v v20) /\
 0 <= (w64 ((v20.len : Int) - 1)) /\ (w64 ((v20.len : Int) - 1)) < (v15.len : Int) /\
 ∃ v28 : Sl, gcell m m0.1 (m0.2 + 1) = some (Sl.v v28) /\
 ∃ v32 : Int, gcell m v15.blk (v15.off + Int.toNat (w64 ((v20.len : Int) - 1)) * 6) = some (vi v32) /\
 0 <= v32 /\ v32 < (v28.len : Int) /\
 ∃ v35 : Sl, gcell m v28.blk (v28.off + Int.toNat v32 * 5 + 4) = some (Sl.v v35) /\
 ∃ v39 : Int, gcell m v15.blk (v15.off + Int.toNat (w64 ((v20.len : Int) - 1)) * 6 + 1) = some (vi v39) /\
 0 <= v39 /\ v39 < (v35.len : Int) /\
 ∃ v41_0 : Int, gcell m v35.blk (v35.off + Int.toNat v39 * 6) = some (vi v41_0) /\
 ∃ v41_1 : Int, gcell m v35.blk (v35.off + Int.toNat v39 * 6 + 1) = some (vi v41_1) /\
 ∃ v41_2 : Int, gcell m v35.blk (v35.off + Int.toNat v39 * 6 + 2) = some (vi v41_2) /\
 ∃ v41_3 : Int, gcell m v35.blk (v35.off + Int.toNat v39 * 6 + 3) = some (vi v41_3) /\
 ∃ v41_4 : Sl, gcell m v35.blk (v35.off + Int.toNat v39 * 6 + 4) = some (Sl.v v41_4) /\
 ∃ v41_5 : Sl, gcell m v35.blk (v35.off + Int.toNat v39 * 6 + 5) = some (Sl.v v41_5) /\
 let m1 : Mem := m.push (.cells (vals [.i 0, .i 0, .i 0, .i 0, .s Sl.nil, .s Sl.nil]) 86)
 gcell m1 v35.blk (v35.off + Int.toNat v39 * 6) = gcell m v35.blk (v35.off + Int.toNat v39 * 6) /\
 gcell m1 v35.blk (v35.off + Int.toNat v39 * 6 + 1) = gcell m v35.blk (v35.off + Int.toNat v39 * 6 + 1) /\
 gcell m1 v35.blk (v35.off + Int.toNat v39 * 6 + 2) = gcell m v35.blk (v35.off + Int.toNat v39 * 6 + 2) /\
 gcell m1 v35.blk (v35.off + Int.toNat v39 * 6 + 3) = gcell m v35.blk (v35.off + Int.toNat v39 * 6 + 3) /\
 gcell m1 v35.blk (v35.off + Int.toNat v39 * 6 + 4) = gcell m v35.blk (v35.off + Int.toNat v39 * 6 + 4) /\
 gcell m1 v35.blk (v35.off + Int.toNat v39 * 6 + 5) = gcell m v35.blk (v35.off + Int.toNat v39 * 6 + 5) /\
 gcell m1 v15.blk (v15.off + Int.toNat (w64 ((v20.len : Int) - 1)) * 6 + 1) = gcell m v15.blk (v15.off + Int.toNat (w64 ((v20.len : Int) - 1)) * 6 + 1) /\
 gcell m1 v28.blk (v28.off + Int.toNat v32 * 5 + 4) = gcell m v28.blk (v28.off + Int.toNat v32 * 5 + 4) /\
 gcell m1 v15.blk (v15.off + Int.toNat (w64 ((v20.len : Int) - 1)) * 6) = gcell m v15.blk (v15.off + Int.toNat (w64 ((v20.len : Int) - 1)) * 6) /\
 gcell m1 m0.1 (m0.2 + 1) = gcell m m0.1 (m0.2 + 1) /\
 eqT m.size m.size (
 let m1_1 : Mem := scells m1 m.size 0 [.i v41_0, .i v41_1, .i v41_2, .i v41_3, .s v41_4, .s v41_5]
 ∃ K0 : Bool -> Mem -> Prop,
 (eqT m.size m.size (
 ((v41_0 == 9) = true ->
 eqS (SV.box m.size 86 [.i v41_0, .i v41_1, .i v41_2, .i v41_3, .s v41_4, .s v41_5]) (SV.box m.size 86 [.i v41_0, .i v41_1, .i v41_2, .i v41_3, .s v41_4, .s v41_5]) (
 K0 true m1_1)) /\
 ((v41_0 == 9) = false ->
 eqT m.size m.size (
 ((v41_0 == 11) = true ->
 eqS (SV.box m.size 86 [.i v41_0, .i v41_1, .i v41_2, .i v41_3, .s v41_4, .s v41_5]) (SV.box m.size 86 [.i v41_0, .i v41_1, .i v41_2, .i v41_3, .s v41_4, .s v41_5]) (
 K0 true m1_1)) /\
 ((v41_0 == 11) = false ->
 eqT m.size m.size (
 eqS (SV.box m.size 86 [.i v41_0, .i v41_1, .i v41_2, .i v41_3, .s v41_4, .s v41_5]) (SV.box m.size 86 [.i v41_0, .i v41_1, .i v41_2, .i v41_3, .s v41_4, .s v41_5]) (
 K0 (v41_0 == 24) m1_1))))))) /\
 (∀ (calls : Bool) (m1_2 : Mem), K0 calls m1_2 ->
 (calls = true ->
 ∃ v66 : Int, gcell m1_2 m0.1 (m0.2 + 3 + 2) = some (vi v66) /\
 ∃ v71 : Int, gcell m1_2 m0.1 (m0.2 + 3 + 3) = some (vi v71) /\
 ((v66 == v71) = true ->
 wrOk m1_2 m0.1 (m0.2 + 3) 1 /\
 let m1_3 : Mem := scells m1_2 m0.1 (m0.2 + 3) [.i 1]
 Sam [m.size] m1_2 m1_3 /\
 R (.tuple #[]) m1_3) /\
 ((v66 == v71) = false ->
 eqT m.size m.size (
 CallV Tryz.prog q2e [vp m0.1 m0.2, vp v15.blk (v15.off + Int.toNat (w64 ((v20.len : Int) - 1)) * 6), .agg #[vi v41_0, vi v41_1, vi v41_2, vi v41_3, Sl.v v41_4, Sl.v v41_5]] m1_2 fun r m1_4 =>
 Sam [m.size] m1_2 m1_4 /\
 ∃ r82 : Bool, r = vb r82 /\
 ((!r82) = true ->
 wrOk m1_4 m0.1 (m0.2 + 3) 1 /\
 let m1_5 : Mem := scells m1_4 m0.1 (m0.2 + 3) [.i 2]
 Sam [m.size] m1_4 m1_5 /\
 R (.tuple #[]) m1_5) /\
 ((!r82) = false ->
 eqT m.size m.size (
 CallV Tryz.prog q2r [vp m0.1 m0.2, vp v15.blk (v15.off + Int.toNat (w64 ((v20.len : Int) - 1)) * 6), .agg #[vi v41_0, vi v41_1, vi v41_2, vi v41_3, Sl.v v41_4, Sl.v v41_5]] m1_4 fun r_1 m1_6 =>
 Sam [m.size] m1_4 m1_6 /\
 R (.tuple #[]) m1_6))))) /\
 (calls = false ->
 eqT m.size m.size (
 CallV Tryz.prog q2e [vp m0.1 m0.2, vp v15.blk (v15.off + Int.toNat (w64 ((v20.len : Int) - 1)) * 6), .agg #[vi v41_0, vi v41_1, vi v41_2, vi v41_3, Sl.v v41_4, Sl.v v41_5]] m1_2 fun r_2 m1_7 =>
 Sam [m.size] m1_2 m1_7 /\
 ∃ r82_1 : Bool, r_2 = vb r82_1 /\
 ((!r82_1) = true ->
 wrOk m1_7 m0.1 (m0.2 + 3) 1 /\
 let m1_8 : Mem := scells m1_7 m0.1 (m0.2 + 3) [.i 2]
 Sam [m.size] m1_7 m1_8 /\
 R (.tuple #[]) m1_8) /\
 ((!r82_1) = false ->
 eqT m.size m.size (
 CallV Tryz.prog q2r [vp m0.1 m0.2, vp v15.blk (v15.off + Int.toNat (w64 ((v20.len : Int) - 1)) * 6), .agg #[vi v41_0, vi v41_1, vi v41_2, vi v41_3, Sl.v v41_4, Sl.v v41_5]] m1_7 fun r_3 m1_9 =>
 Sam [m.size] m1_7 m1_9 /\
 R (.tuple #[]) m1_9)))))))
theorem qdc (m0 : Nat × Nat) (m : Mem) (R : Value -> Mem -> Prop) (hvc : q7s m0 m R) : CallV Tryz.prog q1k [vp m0.1 m0.2] m R :=
 vcs (A := ⟨[(1, [0, 1, 2, 4, 8, 0, 32, 64, 128, 256, 512, 1024, 2064, 8191], [0, 1, 3, 7, 15, 0, 32, 96, 224, 480, 992, 2016, 4095, 8191]), (2, [0, 1, 2, 4, 8, 0, 32, 64, 128, 272, 512, 1024, 0, 4096, 8192, 16384, 34816, 65536, 0, 524287], [0, 1, 3, 7, 15, 0, 32, 96, 224, 511, 1023, 2047, 0, 4096, 12288, 28672, 65535, 131071, 0, 524287]), (5, [0, 1, 2, 6, 10, 18, 34, 2, 130, 258, 514, 1026, 2114, 4098, 8194], [0, 1, 3, 7, 15, 31, 63, 3, 131, 387, 899, 1923, 4095, 8191, 16383])], [], [(5, [(4, .T)])], [(5, [91])]⟩) (n := 88) (rs := []) (args := [.c (.p m0.1 m0.2)]) (c := bodyOf Tryz.f39) Tryz.func39 hvc
def qf9 (a b : Sl) (m : Mem) (R : Value -> Mem -> Prop) : Prop :=
 (((a.len : Int) != (b.len : Int)) = true ->
 R (vb false) m) /\
 (((a.len : Int) != (b.len : Int)) = false ->
 ∃ (I0 : Int -> Mem -> Prop) (μ0 : Int -> Mem -> Nat),
 I0 0 m /\
 (∀ (i : Int) (m1 : Mem), I0 i m1 ->
 ((decide (i < (a.len : Int))) = true ->
 0 <= i /\ i < (a.len : Int) /\
 ∃ v20 : Int, gcell m1 a.blk (a.off + Int.toNat i * 1) = some (vi v20) /\
 0 <= i /\ i < (b.len : Int) /\
 ∃ v24 : Int, gcell m1 b.blk (b.off + Int.toNat i * 1) = some (vi v24) /\
 ((v20 != v24) = true ->
 R (vb false) m1) /\
 ((v20 != v24) = false ->
 I0 (w64 (i + 1)) m1 /\ μ0 (w64 (i + 1)) m1 < μ0 i m1)) /\
 ((decide (i < (a.len : Int))) = false ->
 R (vb true) m1)))
theorem qks (a b : Sl) (m : Mem) (R : Value -> Mem -> Prop) (hvc : qf9 a b m R) : CallV Tryz.prog q1x [Sl.v a, Sl.v b] m R :=
 vcs (A := ⟨[(6, [0, 0, 3, 4, 0, 0, 48, 64, 136], [0, 0, 3, 7, 0, 0, 48, 112, 255])], [(4, [(5, .I)])], [], []⟩) (n := 26) (rs := [.tmp 4]) (args := [.c (.s a), .c (.s b)]) (c := bodyOf Tryz.f40) Tryz.func40 hvc
def qdt (a b : Sl) (m : Mem) (R : Value -> Mem -> Prop) : Prop :=
 (((a.len : Int) != (b.len : Int)) = true ->
 R (vb false) m) /\
 (((a.len : Int) != (b.len : Int)) = false ->
 ∃ (I0 : Int -> Mem -> Prop) (μ0 : Int -> Mem -> Nat),
 I0 0 m /\
 (∀ (i : Int) (m1 : Mem), I0 i m1 ->
 ((decide (i < (a.len : Int))) = true ->
 0 <= i /\ i < (a.len : Int) /\
 ∃ v20_0 : Int, gcell m1 a.blk (a.off + Int.toNat i * 3) = some (vi v20_0) /\
 ∃ v20_1 : Int, gcell m1 a.blk (a.off + Int.toNat i * 3 + 1) = some (vi v20_1) /\
 ∃ v20_2 : Sl, gcell m1 a.blk (a.off + Int.toNat i * 3 + 2) = some (Sl.v v20_2) /\
 0 <= i /\ i < (b.len : Int) /\
 ∃ v24_0 : Int, gcell m1 b.blk (b.off + Int.toNat i * 3) = some (vi v24_0) /\
 ∃ v24_1 : Int, gcell m1 b.blk (b.off + Int.toNat i * 3 + 1) = some (vi v24_1) /\
 ∃ v24_2 : Sl, gcell m1 b.blk (b.off + Int.toNat i * 3 + 2) = some (Sl.v v24_2) /\
 CallV Tryz.prog qai [.agg #[vi v20_0, vi v20_1, Sl.v v20_2], .agg #[vi v24_0, vi v24_1, Sl.v v24_2]] m1 fun r m1_1 =>
 ∃ r25 : Bool, r = vb r25 /\
 ((!r25) = true ->
 R (vb false) m1_1) /\
 ((!r25) = false ->
 I0 (w64 (i + 1)) m1_1 /\ μ0 (w64 (i + 1)) m1_1 < μ0 i m1)) /\
 ((decide (i < (a.len : Int))) = false ->
 R (vb true) m1)))
theorem qim (a b : Sl) (m : Mem) (R : Value -> Mem -> Prop) (hvc : qdt a b m R) : CallV Tryz.prog q9b [Sl.v a, Sl.v b] m R :=
 vcs (A := ⟨[(6, [0, 0, 3, 4, 0, 0, 48, 64, 136, 256], [0, 0, 3, 7, 0, 0, 48, 112, 255, 511])], [(4, [(5, .I)])], [], []⟩) (n := 27) (rs := [.tmp 4]) (args := [.c (.s a), .c (.s b)]) (c := bodyOf Tryz.f41) Tryz.func41 hvc
def qe8 (a b : Sl) (m : Mem) (R : Value -> Mem -> Prop) : Prop :=
 (((a.len : Int) != (b.len : Int)) = true ->
 R (vb false) m) /\
 (((a.len : Int) != (b.len : Int)) = false ->
 ∃ (I0 : Int -> Mem -> Prop) (μ0 : Int -> Mem -> Nat),
 I0 0 m /\
 (∀ (i : Int) (m1 : Mem), I0 i m1 ->
 ((decide (i < (a.len : Int))) = true ->
 0 <= i /\ i < (a.len : Int) /\
 ∃ v20_0 : Sl, gcell m1 a.blk (a.off + Int.toNat i * 5) = some (Sl.v v20_0) /\
 ∃ v20_1 : Sl, gcell m1 a.blk (a.off + Int.toNat i * 5 + 1) = some (Sl.v v20_1) /\
 ∃ v20_2 : Int, gcell m1 a.blk (a.off + Int.toNat i * 5 + 2) = some (vi v20_2) /\
 ∃ v20_3 : Int, gcell m1 a.blk (a.off + Int.toNat i * 5 + 3) = some (vi v20_3) /\
 ∃ v20_4 : Sl, gcell m1 a.blk (a.off + Int.toNat i * 5 + 4) = some (Sl.v v20_4) /\
 0 <= i /\ i < (b.len : Int) /\
 ∃ v24_0 : Sl, gcell m1 b.blk (b.off + Int.toNat i * 5) = some (Sl.v v24_0) /\
 ∃ v24_1 : Sl, gcell m1 b.blk (b.off + Int.toNat i * 5 + 1) = some (Sl.v v24_1) /\
 ∃ v24_2 : Int, gcell m1 b.blk (b.off + Int.toNat i * 5 + 2) = some (vi v24_2) /\
 ∃ v24_3 : Int, gcell m1 b.blk (b.off + Int.toNat i * 5 + 3) = some (vi v24_3) /\
 ∃ v24_4 : Sl, gcell m1 b.blk (b.off + Int.toNat i * 5 + 4) = some (Sl.v v24_4) /\
 CallV Tryz.prog qao [.agg #[Sl.v v20_0, Sl.v v20_1, vi v20_2, vi v20_3, Sl.v v20_4], .agg #[Sl.v v24_0, Sl.v v24_1, vi v24_2, vi v24_3, Sl.v v24_4]] m1 fun r m1_1 =>
 ∃ r25 : Bool, r = vb r25 /\
 ((!r25) = true ->
 R (vb false) m1_1) /\
 ((!r25) = false ->
 I0 (w64 (i + 1)) m1_1 /\ μ0 (w64 (i + 1)) m1_1 < μ0 i m1)) /\
 ((decide (i < (a.len : Int))) = false ->
 R (vb true) m1)))
theorem qij (a b : Sl) (m : Mem) (R : Value -> Mem -> Prop) (hvc : qe8 a b m R) : CallV Tryz.prog q9n [Sl.v a, Sl.v b] m R :=
 vcs (A := ⟨[(6, [0, 0, 3, 4, 0, 0, 48, 64, 136, 256], [0, 0, 3, 7, 0, 0, 48, 112, 255, 511])], [(4, [(5, .I)])], [], []⟩) (n := 27) (rs := [.tmp 4]) (args := [.c (.s a), .c (.s b)]) (c := bodyOf Tryz.f42) Tryz.func42 hvc
def qb5 (a : Sl) (k : Int) (m : Mem) (R : Value -> Mem -> Prop) : Prop :=
 ∃ (I0 : Int -> Int -> Mem -> Prop) (μ0 : Int -> Int -> Mem -> Nat),
 I0 k 0 m /\
 (∀ (k_1 : Int) (i : Int) (m1 : Mem), I0 k_1 i m1 ->
 ((decide (i < (a.len : Int))) = true ->
 0 <= i /\ i < (a.len : Int) /\
 wrOk m1 a.blk (a.off + Int.toNat i * 3) 1 /\
 let m1_1 : Mem := scells m1 a.blk (a.off + Int.toNat i * 3) [.i k_1]
 0 <= i /\ i < (a.len : Int) /\
 wrOk m1_1 a.blk (a.off + Int.toNat i * 3 + 1) 1 /\
 let m1_2 : Mem := scells m1_1 a.blk (a.off + Int.toNat i * 3 + 1) [.i (w64 (k_1 + 1))]
 0 <= i /\ i < (a.len : Int) /\
 ∃ v30 : Sl, gcell m1_2 a.blk (a.off + Int.toNat i * 3 + 2) = some (Sl.v v30) /\
 CallV Tryz.prog q8i [Sl.v v30, vi (w64 ((w64 (k_1 + 1)) + 1))] m1_2 fun r m1_3 =>
 ∃ r32 : Int, r = vi r32 /\
 I0 r32 (w64 (i + 1)) m1_3 /\ μ0 r32 (w64 (i + 1)) m1_3 < μ0 k_1 i m1) /\
 ((decide (i < (a.len : Int))) = false ->
 R (vi k_1) m1))
theorem qge (a : Sl) (k : Int) (m : Mem) (R : Value -> Mem -> Prop) (hvc : qb5 a k m R) : CallV Tryz.prog q76 [Sl.v a, vi k] m R :=
 vcs (A := ⟨[], [(2, [(1, .I), (5, .I)])], [], []⟩) (n := 34) (rs := [.tmp 4]) (args := [.c (.s a), .c (.i k)]) (c := bodyOf Tryz.f43) Tryz.func43 hvc
def qbf (a : Sl) (k : Int) (m : Mem) (R : Value -> Mem -> Prop) : Prop :=
 ∃ (I0 : Int -> Int -> Mem -> Prop) (μ0 : Int -> Int -> Mem -> Nat),
 I0 k 0 m /\
 (∀ (k_1 : Int) (i : Int) (m1 : Mem), I0 k_1 i m1 ->
 ((decide (i < (a.len : Int))) = true ->
 0 <= i /\ i < (a.len : Int) /\
 ∃ v16 : Sl, gcell m1 a.blk (a.off + Int.toNat i * 5) = some (Sl.v v16) /\
 CallV Tryz.prog q1i [Sl.v v16, vi k_1] m1 fun r m1_1 =>
 ∃ r18 : Int, r = vi r18 /\
 0 <= i /\ i < (a.len : Int) /\
 ∃ v23 : Sl, gcell m1_1 a.blk (a.off + Int.toNat i * 5 + 1) = some (Sl.v v23) /\
 CallV Tryz.prog q1i [Sl.v v23, vi r18] m1_1 fun r_1 m1_2 =>
 ∃ r25 : Int, r_1 = vi r25 /\
 0 <= i /\ i < (a.len : Int) /\
 wrOk m1_2 a.blk (a.off + Int.toNat i * 5 + 2) 1 /\
 let m1_3 : Mem := scells m1_2 a.blk (a.off + Int.toNat i * 5 + 2) [.i r25]
 0 <= i /\ i < (a.len : Int) /\
 wrOk m1_3 a.blk (a.off + Int.toNat i * 5 + 3) 1 /\
 let m1_4 : Mem := scells m1_3 a.blk (a.off + Int.toNat i * 5 + 3) [.i (w64 (r25 + 1))]
 0 <= i /\ i < (a.len : Int) /\
 ∃ v44 : Sl, gcell m1_4 a.blk (a.off + Int.toNat i * 5 + 4) = some (Sl.v v44) /\
 CallV Tryz.prog q64 [Sl.v v44, vi (w64 ((w64 (r25 + 1)) + 1))] m1_4 fun r_2 m1_5 =>
 ∃ r46 : Int, r_2 = vi r46 /\
 I0 r46 (w64 (i + 1)) m1_5 /\ μ0 r46 (w64 (i + 1)) m1_5 < μ0 k_1 i m1) /\
 ((decide (i < (a.len : Int))) = false ->
 R (vi k_1) m1))
theorem qgo (a : Sl) (k : Int) (m : Mem) (R : Value -> Mem -> Prop) (hvc : qbf a k m R) : CallV Tryz.prog q7g [Sl.v a, vi k] m R :=
 vcs (A := ⟨[], [(2, [(1, .I), (5, .I)])], [], []⟩) (n := 48) (rs := [.tmp 4]) (args := [.c (.s a), .c (.i k)]) (c := bodyOf Tryz.f44) Tryz.func44 hvc
def qc8 (a : Sl) (k : Int) (m : Mem) (R : Value -> Mem -> Prop) : Prop :=
 ∃ (I0 : Int -> Int -> Mem -> Prop) (μ0 : Int -> Int -> Mem -> Nat),
 I0 k 0 m /\
 (∀ (k_1 : Int) (i : Int) (m1 : Mem), I0 k_1 i m1 ->
 ((decide (i < (a.len : Int))) = true ->
 0 <= i /\ i < (a.len : Int) /\
 wrOk m1 a.blk (a.off + Int.toNat i * 1) 1 /\
 let m1_1 : Mem := scells m1 a.blk (a.off + Int.toNat i * 1) [.i k_1]
 I0 (w64 (k_1 + 1)) (w64 (i + 1)) m1_1 /\ μ0 (w64 (k_1 + 1)) (w64 (i + 1)) m1_1 < μ0 k_1 i m1) /\
 ((decide (i < (a.len : Int))) = false ->
 R (vi k_1) m1))
theorem qhp (a : Sl) (k : Int) (m : Mem) (R : Value -> Mem -> Prop) (hvc : qc8 a k m R) : CallV Tryz.prog q1i [Sl.v a, vi k] m R :=
 vcs (A := ⟨[], [(2, [(1, .I), (5, .I)])], [], []⟩) (n := 19) (rs := [.tmp 4]) (args := [.c (.s a), .c (.i k)]) (c := bodyOf Tryz.f45) Tryz.func45 hvc
def qcp (a : Sl) (k : Int) (m : Mem) (R : Value -> Mem -> Prop) : Prop :=
 ∃ (I0 : Int -> Int -> Mem -> Prop) (μ0 : Int -> Int -> Mem -> Nat),
 I0 k 0 m /\
 (∀ (k_1 : Int) (i : Int) (m1 : Mem), I0 k_1 i m1 ->
 ((decide (i < (a.len : Int))) = true ->
 0 <= i /\ i < (a.len : Int) /\
 ∃ v15 : Int, gcell m1 a.blk (a.off + Int.toNat i * 1) = some (vi v15) /\
 ((v15 != k_1) = true ->
 R (vi (-1)) m1) /\
 ((v15 != k_1) = false ->
 I0 (w64 (k_1 + 1)) (w64 (i + 1)) m1 /\ μ0 (w64 (k_1 + 1)) (w64 (i + 1)) m1 < μ0 k_1 i m1)) /\
 ((decide (i < (a.len : Int))) = false ->
 R (vi k_1) m1))
theorem qhk (a : Sl) (k : Int) (m : Mem) (R : Value -> Mem -> Prop) (hvc : qcp a k m R) : CallV Tryz.prog q7y [Sl.v a, vi k] m R :=
 vcs (A := ⟨[], [(2, [(1, .I), (5, .I)])], [], []⟩) (n := 21) (rs := [.tmp 4]) (args := [.c (.s a), .c (.i k)]) (c := bodyOf Tryz.f46) Tryz.func46 hvc
def qet (a : Sl) (left : Int) (m : Mem) (R : Value -> Mem -> Prop) : Prop :=
 ((decide ((w64 (left - (a.len : Int))) < 0)) = true ->
 R (vi (-1)) m) /\
 ((decide ((w64 (left - (a.len : Int))) < 0)) = false ->
 R (vi (w64 (left - (a.len : Int)))) m)
theorem qkq (a : Sl) (left : Int) (m : Mem) (R : Value -> Mem -> Prop) (hvc : qet a left m R) : CallV Tryz.prog q2j [Sl.v a, vi left] m R :=
 vcs (A := ⟨[], [], [], []⟩) (n := 12) (rs := [.tmp 4]) (args := [.c (.s a), .c (.i left)]) (c := bodyOf Tryz.f50) Tryz.func50 hvc
end Go.Proofs.YtpggcodlaajceaaGreat
end
section
set_option linter.unusedVariables false
set_option maxRecDepth 100000
namespace Go.Proofs.YtpggcodlaajceaaGreat
open Go.Vc
end Go.Proofs.YtpggcodlaajceaaGreat
end
