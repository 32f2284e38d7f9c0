/- Part of a proof, joined by a program: VcI VcJ VcK VcL VcM VcN VcO VcP. -/
import Derived.OrdersHeld
import Derived.Test.YtpggcodlaajceaaGreatS00
section
/- That the writing operations and the calls run as 'wr' says: make, call, append, copy; the theorem. -/
namespace Go.Vc
variable {P : Program} {T : TT} {G : List Nat}
section
variable {n : Nat} {fr : Fr} {a : Act} {m : Mem} {k : Fr -> SV -> Mem -> Prop} {dst : Option Tmp} {ty : TypeId} {pos : String} {after : Array Edge} {guard : Option (Nat × Bool)}
theorem qp4 {x : Int} (h0 : -9223372036854775808 <= x) (h1 : x <= 9223372036854775807) : IntKind.i64.wrap x = x := by
  have e1 : ((2 : Int) ^ IntKind.i64.bits) = 18446744073709551616 := by decide
  have e2 : ((2 : Int) ^ (IntKind.i64.bits - 1)) = 9223372036854775808 := by decide
  have e3 : IntKind.i64.signed = true := rfl
  simp only [IntKind.wrap, e1, e2, e3, Bool.true_and, decide_eq_true_eq]
  split <;> omega
theorem q08 {x : Int} (h0 : -9223372036854775808 <= x) (h1 : x <= 9223372036854775807) : w64 x = x := qp4 h0 h1
theorem qoo (hT : TOK P T) (hR : Rel n fr a) (hB : Bx n fr m) {t : TypeId} {x y : Operand} (h : wr P T G n fr m dst ty k (.makeSlice t x y)) : Does P n a m ⟨dst, .makeSlice t x y, ty, pos, after, guard⟩ k := by
  intro w hw next Q hn
  subst hw
  simp only [wr] at h
  split at h
  · rename_i e sh by' l c ht hx hy
    split at h
    · rename_i te hte
      cases hc : te.isT
      · rw [hc] at h
        obtain ⟨h0, h1, h2, h3, hk⟩ := h
        have hu := (q2k (hT.tiB ht)).1
        obtain ⟨z, hz, hzr, hzna⟩ := q9l hT hte hc
        obtain ⟨ti, hb, hsz', htr, _⟩ := qjt hT hte hc
        have hsz := fun w => q2r hT hte hc w
        refine q2f (w := w) (x := .c (.s (.mk w.heap.size 0 l.toNat c.toNat))) (v := .slice (some ⟨w.heap.size, 0, none⟩) l.toNat c.toNat) (w' := { w with heap := w.heap.push (.cells (vals (zrow (te.sh.map Sh.zero) c.toNat)) e) }) hR (hB.push _) rfl ⟨rfl, rfl, rfl⟩ hk ?_ hn
        have hzz : z.cells.toList = (te.sh.map Sh.zero).map Ce.v := by simp [hz]
        have hzl : (te.sh.map Sh.zero).length = te.sh.length := by simp
        have hrow := qjq (te.sh.map Sh.zero) z.cells hzz c.toNat
        rw [hzl] at hrow
        have hx' : a.eval x = .int .i64 l := hR.eq hx rfl
        have hy' : a.eval y = .int .i64 c := hR.eq hy rfl
        have hwl : IntKind.i64.wrap l = l := qp4 (by omega) (by omega)
        have hwc : IntKind.i64.wrap c = c := qp4 (by omega) (by omega)
        have hn1 : ¬ c < 0 := by omega
        have hn2 : ¬ ((te.bytes : Int) * c > 2 ^ 48) := by
          have : (2 : Int) ^ 48 = 281474976710656 := by decide
          omega
        have hn3 : ¬ l < 0 := by omega
        have hn4 : ¬ l > c := by omega
        simp only [execOp, Instr.makeSlice, Sem.run_bind, run_underlying hu, Result.andThen_ok, asInt, asIntOf, hx', hy', Sem.run_pure, htr, hwl, hwc, hb]
        simp only [hn1, hn2, hn3, hn4, decide_false, Bool.or_false, Bool.false_eq_true, if_false]
        simp only [Sem.run_bind, Sem.run_pure, Result.andThen_ok, run_askRoom, hsz]
        by_cases hz0 : c.toNat * te.sh.length = 0
        · have hrow0 : zrow (te.sh.map Sh.zero) c.toNat = [] := by
            apply List.length_eq_zero_iff.1; rw [q7e, hzl, hz0]
          rw [hrow0]
          have e0 : (Array.map (fun x => (default : Value)) (Array.range 0)) = #[] := by simp
          simp [hz0, newRow, vals]
          rw [e0]
        · simp only [hz0, if_false, Sem.run_bind, hzr, Result.andThen_ok, Sem.run_pure]
          rw [hrow]
          simp [newRow]
      · rw [hc] at h; exact h.elim
    · exact h.elim
  · exact h.elim
theorem qmn : ∀ {sh : List Sh} {k : List Ce -> Prop}, exC sh k -> ∃ l, k l
  | [], _, h => ⟨_, h⟩
  | _ :: _, _, ⟨x, h⟩ => let ⟨_, hl⟩ := qmn h; ⟨_, hl⟩
theorem qgy : ∀ {ts : List Nat} {k : List AV -> Prop}, exT T ts k -> ∃ l, k l
  | [], _, h => ⟨_, h⟩
  | t :: ts, k, h => by
    simp only [exT] at h
    split at h
    · obtain ⟨l, hl⟩ := qmn h
      obtain ⟨l', hl'⟩ := qgy hl
      exact ⟨_, hl'⟩
    · obtain ⟨x, hx⟩ := h
      obtain ⟨l', hl'⟩ := qgy hx
      exact ⟨_, hl'⟩
    · obtain ⟨x, hx⟩ := h
      obtain ⟨l', hl'⟩ := qgy hx
      exact ⟨_, hl'⟩
    · exact h.elim
theorem qsn {t : Nat} {v : Value} {k : SV -> Prop} (h : resC T t v k) : ∃ x : SV, x.Is v /\ k x := by
  unfold resC at h
  split at h
  · exact ⟨.top, trivial, h⟩
  · obtain ⟨l, hv, hk⟩ := qgy h; exact ⟨.tup l, hv, hk⟩
  · obtain ⟨l, hv, hk⟩ := qmn h; exact ⟨.agg l, hv, hk⟩
  · rename_i s _ _; obtain ⟨x, hv, hk⟩ := h; exact ⟨.c (s.mk x), hv, hk⟩
  · obtain ⟨x, hv, hk⟩ := h; exact ⟨.c (.s x), hv, hk⟩
  · exact h.elim
theorem qn4 (hG : GOK P G) (hR : Rel n fr a) {fr' : Fr} (hR' : Rel n fr' a) (hB' : Bx n fr' m) {f : Operand} {args : Array Operand} {ts : Array TypeId} {g : Nat} {first captured : Array Value} (hf' : a.eval f = .func (.func g) first captured)
    (hgG : G.elem g = true) (hkn : args.toList.all (fun x => (ev fr x).known) = true)
    (h : q00 P g (first.toList ++ (args.toList.map fun x => (ev fr x).v) ++ captured.toList) m fun v m' => samC (trk n fr' []) m m' (resC T ty v fun x => k fr' x m')) :
    Does P n a m ⟨dst, .call ⟨.value f, args, ts⟩, ty, pos, after, guard⟩ k := by
  intro w hw next Q hn
  subst hw
  have hg : qiv P g = true := List.all_eq_true.1 hG g (by simpa using hgG)
  have hargs : args.map a.eval = (args.toList.map fun x => (ev fr x).v).toArray := by
    apply Array.toList_inj.1; simp [← qes hR hkn]
  unfold qiv at hg
  split at hg
  · rename_i fn hfn
    simp only [Bool.and_eq_true, Bool.not_eq_true'] at hg
    have hbody : fn.body.isNone = false := by cases hb : fn.body <;> simp_all
    have hrun : (execOp a.eval ⟨dst, .call ⟨.value f, args, ts⟩, ty, pos, after, guard⟩).run P w =
        .ok (.enter g (first.toList ++ (args.toList.map fun x => (ev fr x).v) ++ captured.toList).toArray) w := by
      simp only [execOp, resolve, hf', hargs, Deferred.ofValue, Sem.run_bind, Sem.run_pure, Result.andThen_ok, invoke, callFunc, run_program, hfn, hg.1, hbody, Bool.false_eq_true, if_false]
      simp
    unfold Oper.wp
    rw [hrun]
    show Calls P g _ w _
    refine (h w rfl).mono ?_
    rintro e w' ⟨v, rfl, hs, hres⟩
    obtain ⟨hsam, hres⟩ := q3r hres
    obtain ⟨x, hx, hk⟩ := qsn hres
    exact hn fr' x v w' hk hR' (hB'.sam hsam) hx hs
  · simp at hg
theorem qst (hG : GOK P G) (hR : Rel n fr a) (hB : Bx n fr m) {f : Operand} {args : Array Operand} {ts : Array TypeId} (h : wr P T G n fr m dst ty k (.call ⟨.value f, args, ts⟩)) : Does P n a m ⟨dst, .call ⟨.value f, args, ts⟩, ty, pos, after, guard⟩ k := by
  simp only [wr, callC] at h
  split at h
  · exact h.elim
  rename_i fr1 hesc
  obtain ⟨hR1, hB1⟩ := q5v hesc hR hB
  split at h
  · rename_i g first captured hf
    cases hc : (G.elem g && args.toList.all (fun x => (ev fr x).known))
    · rw [hc] at h; exact h.elim
    · rw [hc] at h
      simp only [Bool.and_eq_true] at hc
      exact qn4 hG hR hR1 hB1 (hR.eq hf rfl) hc.1 hc.2 h
  · rename_i q hf
    cases hc : (args.toList.all (fun x => (ev fr x).known))
    · rw [hc] at h; exact h.elim
    · rw [hc] at h
      obtain ⟨g, hg, hgG, h⟩ := h
      have hv : a.eval f = .func (.func g) q.2.1 q.2.2 := by
        rw [← hg]; exact hR.eq hf rfl
      exact qn4 hG hR hR1 hB1 hv hgG hc h
  · exact h.elim
theorem q8k {t : TypeId} (hu : P.underlying t = some (.int .i64)) (e : Bool) (x : Int) (w : World) : (Instr.checkKey e 10000 t (.int .i64 x)).run P w = .ok () w := by
  have : Instr.checkKey e 10000 t (.int .i64 x) = Instr.checkKey e (9999 + 1) t (.int .i64 x) := rfl
  rw [this]
  generalize 9999 = d
  simp [Instr.checkKey, run_underlying hu]
theorem qf8 (x : Int) : ∀ (es : List MapEntry) (l : List (Int × Int)) (i : Nat), es.map (fun e => (e.key, e.val)) = l.map (fun p => (Value.int .i64 p.1, Value.int .i64 p.2)) ->
    (Instr.findNow (.int .i64) (.int .i64 x) es i = some none /\ mget l x = 0 /\ (∀ v, mput l x v = l ++ [(x, v)])) \/
    ∃ j u, Instr.findNow (.int .i64) (.int .i64 x) es i = some (some (i + j, .int .i64 u)) /\ mget l x = u /\ j < es.length /\ l[j]? = some (x, u) /\ ∀ v, mput l x v = l.set j (x, v)
  | [], [], i, _ => Or.inl ⟨rfl, rfl, fun v => rfl⟩
  | [], _ :: _, i, h => by simp at h
  | _ :: _, [], i, h => by simp at h
  | e :: es, (j, u) :: l, i, h => by
    simp only [List.map_cons, List.cons.injEq, Prod.mk.injEq] at h
    obtain ⟨⟨hk, hv⟩, h⟩ := h
    have hs : Instr.sameNow (.int .i64) (.int .i64 x) e.key = some (x == j) := by rw [hk]; simp [Instr.sameNow]
    by_cases hx : x = j
    · subst hx
      refine Or.inr ⟨0, u, ?_, ?_, by simp, by simp, ?_⟩
      · simp [Instr.findNow, hs, hv]
      · simp [mget]
      · intro v; simp [mput]
    · have hb : (x == j) = false := by simpa using hx
      rcases qf8 x es l (i + 1) h with ⟨h1, h2, h3⟩ | ⟨q, r, h1, h2, h3, h4, h5⟩
      · refine Or.inl ⟨?_, ?_, ?_⟩
        · simp [Instr.findNow, hs, hb, h1]
        · simp [mget, hx, h2]
        · intro v; simp [mput, hx, h3]
      · refine Or.inr ⟨q + 1, r, ?_, ?_, by simpa using h3, by simpa using h4, ?_⟩
        · have e1 : i + 1 + q = i + (q + 1) := by omega
          simp [Instr.findNow, hs, hb, h1, e1]
        · simp [mget, hx, h2]
        · intro v; simp [mput, hx, h5]
theorem qqk (hR : Rel n fr a) (hB : Bx n fr m) {t : TypeId} {r : Option Operand} (h : wr P T G n fr m dst ty k (.makeMap t r)) : Does P n a m ⟨dst, .makeMap t r, ty, pos, after, guard⟩ k := by
  intro w hw next Q hn
  subst hw
  cases r with
  | some r => exact h.elim
  | none =>
    refine q2f (w := w) (x := .c (.mp w.heap.size)) (v := .map (some w.heap.size)) (w' := { w with heap := w.heap.push (.map #[] 0) }) hR (hB.push _) rfl ⟨rfl, rfl, rfl⟩ h ?_ hn
    simp [execOp, Instr.makeMap]
theorem qrk (hT : TOK P T) (hR : Rel n fr a) (hB : Bx n fr m) {t : TypeId} {x y : Operand} {ok : Bool} (h : wr P T G n fr m dst ty k (.lookup t x y ok)) : Does P n a m ⟨dst, .lookup t x y ok, ty, pos, after, guard⟩ k := by
  intro w hw next Q hn
  subst hw
  cases ok with
  | true => exact h.elim
  | false =>
    simp only [wr] at h
    split at h
    · rename_i kt et sh by' b n0 ht hx hy
      split at h
      · rename_i b1 b2 hkt het
        obtain ⟨l, ⟨es, clock, hes, hel⟩, hk⟩ := h
        have hu := (qca (hT.tiB ht)).1
        obtain ⟨⟨d, hd, hp⟩, _⟩ := q7x (hT.tiB hkt)
        have hdi : d = .int .i64 := by
          unfold plainB at hp
          split at hp <;> simp_all
        subst hdi
        obtain ⟨z, hz, hzr, hzna⟩ := q9l hT het rfl
        have hz0 : z = .int .i64 0 := by
          have : z.cells.toList = [Value.int .i64 0] := hz
          have hna := hzna rfl
          cases z <;> first | (simp [Value.cells] at this; done) | (simp [Value.cells] at this; rw [this.1, this.2]) | exact absurd rfl (hna _)
        have hx' : a.eval x = .map (some b) := hR.eq hx rfl
        have hy' : a.eval y = .int .i64 n0 := hR.eq hy rfl
        have hgo : (getObj b).run P w = .ok (.map es clock) w := by simp [getObj, Sem.run, hes]
        refine q2f (w := w) (x := .c (.i (mget l n0))) (v := .int .i64 (mget l n0)) (w' := w) hR hB rfl (Same.refl w) hk ?_ hn
        rcases qf8 n0 es.toList l 0 hel with ⟨h1, h2, _⟩ | ⟨j, u, h1, h2, _⟩
        · simp [execOp, Instr.lookup, run_underlying hu, hx', hy', hgo, q8k hd, Instr.findKey, run_underlying hd, h1, hzr, hz0, h2]
        · simp [execOp, Instr.lookup, run_underlying hu, hx', hy', hgo, q8k hd, Instr.findKey, run_underlying hd, h1, h2]
      · exact h.elim
    · exact h.elim
theorem qoz (hT : TOK P T) (hR : Rel n fr a) (hB : Bx n fr m) {t : TypeId} {x y z : Operand} (h : wr P T G n fr m dst ty k (.mapUpdate t x y z)) : Does P n a m ⟨dst, .mapUpdate t x y z, ty, pos, after, guard⟩ k := by
  intro w hw next Q hn
  subst hw
  simp only [wr] at h
  split at h
  · rename_i kt et sh by' b n0 v0 ht hx hy hz
    split at h
    · rename_i b1 hkt
      obtain ⟨l, ⟨es, clock, hes, hel⟩, hk⟩ := h
      have hu := (qca (hT.tiB ht)).1
      obtain ⟨⟨d, hd, hp⟩, _⟩ := q7x (hT.tiB hkt)
      have hdi : d = .int .i64 := by
        unfold plainB at hp
        split at hp <;> simp_all
      subst hdi
      have hx' : a.eval x = .map (some b) := hR.eq hx rfl
      have hy' : a.eval y = .int .i64 n0 := hR.eq hy rfl
      have hz' : a.eval z = .int .i64 v0 := hR.eq hz rfl
      have hgo : (getObj b).run P w = .ok (.map es clock) w := by simp [getObj, Sem.run, hes]
      have hso : ∀ o, (setObj b o).run P w = .ok () { w with heap := w.heap.setIfInBounds b o } := fun o => by simp [setObj, Sem.run, hes]
      have hblt : b < w.heap.size := (Array.getElem?_eq_some_iff.1 hes).1
      unfold Oper.wp
      rcases qf8 n0 es.toList l 0 hel with ⟨h1, h2, h3⟩ | ⟨j, u, h1, h2, h3, h4, h5⟩
      · have hrun : (execOp a.eval ⟨dst, .mapUpdate t x y z, ty, pos, after, guard⟩).run P w = .ok .skip { w with heap := w.heap.setIfInBounds b (.map (es.push { key := .int .i64 n0, val := .int .i64 v0, born := clock }) (clock + 1)) } := by
          simp [execOp, Instr.mapUpdate, run_underlying hu, hx', hy', hz', hgo, q8k hd, Instr.findKey, run_underlying hd, h1, hso]
        rw [hrun]
        have hk' := q3r (hk { w with heap := w.heap.setIfInBounds b (.map (es.push { key := .int .i64 n0, val := .int .i64 v0, born := clock }) (clock + 1)) }.heap ?_ (by simp) ?_)
        · exact hn fr .un undef _ hk'.2 hR (hB.sam hk'.1) rfl ⟨rfl, rfl, rfl⟩
        · refine ⟨_, _, by simp [hblt]; exact ⟨rfl, rfl⟩, ?_⟩
          rw [h3]; simp [hel]
        · intro j hj; simp [Array.getElem?_setIfInBounds_ne (Ne.symm hj)]
      · have hkey : (es[j]?).map (·.key) = some (.int .i64 n0) := by
          have := congrArg (fun q => (q[j]?).map (·.1)) hel
          simpa [h4] using this
        have hkt' : (Instr.keyThatStays (.int .i64 n0) (.int .i64 n0)).run P w = .ok (.int .i64 n0) w := by
          simp [Instr.keyThatStays, Instr.sameBits]
        have hrun : (execOp a.eval ⟨dst, .mapUpdate t x y z, ty, pos, after, guard⟩).run P w = .ok .skip { w with heap := w.heap.setIfInBounds b (.map (es.modify j fun e => { e with key := .int .i64 n0, val := .int .i64 v0 }) clock) } := by
          simp only [execOp, Instr.mapUpdate, run_underlying hu, hx', hy', hz', hgo, q8k hd, Instr.findKey, run_underlying hd, h1, Sem.run_bind, Result.andThen_ok, Sem.run_pure, Nat.zero_add, hkey, Option.getD_some, hkt', hso]
        rw [hrun]
        have hk' := q3r (hk { w with heap := w.heap.setIfInBounds b (.map (es.modify j fun e => { e with key := .int .i64 n0, val := .int .i64 v0 }) clock) }.heap ?_ (by simp) ?_)
        · exact hn fr .un undef _ hk'.2 hR (hB.sam hk'.1) rfl ⟨rfl, rfl, rfl⟩
        · refine ⟨_, _, by simp [hblt]; exact ⟨rfl, rfl⟩, ?_⟩
          rw [h5]
          apply List.ext_getElem?
          intro q
          have hq := congrArg (fun (q' : List (Value × Value)) => q'[q]?) hel
          simp only [List.getElem?_map] at hq
          simp only [List.getElem?_map, List.getElem?_set, Array.getElem?_toList, Array.getElem?_modify] at hq ⊢
          by_cases hjq : j = q
          · subst hjq
            have hjl : j < l.length := (List.getElem?_eq_some_iff.1 h4).1
            have hje : j < es.size := by simpa using h3
            simp [hjl, hje]
          · simp only [hjq, if_false]
            exact hq
        · intro j hj; simp [Array.getElem?_setIfInBounds_ne (Ne.symm hj)]
    · exact h.elim
  · exact h.elim
theorem qa2 (l : List Ce) (z : Sl) (c size : Nat) (hl : l.length = c * size) (w : World) (h : rowIs w.heap z.blk z.off l) (hz : c <= z.len) :
    (Builtin.firstCells size c z.v).run P w = .ok (vals l) w := by
  cases z with
  | nil =>
    have hc0 : c = 0 := by simp at hz; omega
    have : l = [] := List.length_eq_zero_iff.1 (by rw [hl, hc0]; simp)
    subst this
    simp [Builtin.firstCells, Sl.v, vals]
  | emp b0 o0 sp =>
    have hc0 : c = 0 := by simp at hz; omega
    have : l = [] := List.length_eq_zero_iff.1 (by rw [hl, hc0]; simp)
    subst this
    simp [Builtin.firstCells, Sl.v, vals, hc0, loadCells, loadCellsFrom]
  | mk b o len cap =>
    simp only [Builtin.firstCells, Sl.v, ← hl]
    exact qrf l b o w h
theorem qr0 (zs : List Ce) (z : Array Value) (hz : z.toList = zs.map Ce.v) (n : Nat) : Builtin.zeroCells z n = vals (zrow zs n) := by
  have hs : z.size = zs.length := by rw [← Array.length_toList, hz]; simp
  rw [← qjq zs z hz n, Builtin.zeroCells, hs]
theorem qru (l r : List Ce) : vals (l ++ r) = vals l ++ vals r := by simp [vals]
theorem qrc (hT : TOK P T) (hR : Rel n fr a) (hB : Bx n fr m) {args : Array Operand} {ts : Array TypeId} (h : wr P T G n fr m dst ty k (.call ⟨.builtin .append, args, ts⟩)) : Does P n a m ⟨dst, .call ⟨.builtin .append, args, ts⟩, ty, pos, after, guard⟩ k := by
  intro w hw next Q hn
  subst hw
  simp only [wr] at h
  split at h
  · rename_i x y t u hargs hts
    split at h
    · rename_i e sh by' e2 sh2 by2 s z ht hu2 hx hy
      split at h
      · rename_i te hte
        cases hc : (te.isT || Nat.beq te.bytes 0)
        · rw [hc] at h
          simp only [Bool.or_eq_false_iff] at hc
          obtain ⟨new, hnl, hnr, hfit, hgrow⟩ := h
          have e1 : args = #[x, y] := Array.toList_inj.1 (by simpa using hargs)
          have e2' : ts = #[t, u] := Array.toList_inj.1 (by simpa using hts)
          subst e1; subst e2'
          have hu := (q2k (hT.tiB ht)).1
          have hu' := (q2k (hT.tiB hu2)).1
          obtain ⟨zv, hz, hzr, hzna⟩ := q9l hT hte hc.1
          obtain ⟨ti, hb, hsz', htr, _⟩ := qjt hT hte hc.1
          have hsz := fun w => q2r hT hte hc.1 w
          have hx' : a.eval x = s.v := hR.eq hx rfl
          have hy' : a.eval y = z.v := hR.eq hy rfl
          have hlz : (Builtin.lenOf z.v).run P w = .ok z.len w := by cases z <;> simp [Builtin.lenOf, Sl.v, Sl.len]
          have hzl : (te.sh.map Sh.zero).length = te.sh.length := by simp
          rw [hzl] at hnl
          simp only [hzl] at hfit hgrow
          have hfirst : ∀ w' : World, w'.heap = w.heap -> (Builtin.firstCells te.sh.length z.len z.v).run P w' = .ok (vals new) w' := fun w' hw' =>
            qa2 new z z.len te.sh.length hnl w' (by rw [hw']; exact hnr) (Nat.le_refl _)
          have hsv := s.v_base
          by_cases hle : s.len + z.len <= s.cap
          · obtain ⟨hok, hk⟩ := hfit hle
            cases s with
            | nil =>
              simp only [Sl.len_nil, Sl.cap_nil] at hle hok hk
              have hz0 : z.len = 0 := by omega
              have : new = [] := List.length_eq_zero_iff.1 (by rw [hnl, hz0]; simp)
              subst this
              obtain ⟨hsam, hk⟩ := q3r hk
              refine q2f (w := w) (x := .c (.s .nil)) (v := .slice none 0 0) (w' := w) hR hB rfl (Same.refl w) hk ?_ hn
              have hx2 : a.eval x = .slice none 0 0 := hx'
              have hf0 := hfirst w rfl
              simp only [execOp, resolve, Sem.run_bind, Sem.run_pure, Result.andThen_ok, invoke, builtin, Builtin.append_, List.map_toArray, List.map_cons, List.map_nil, hx2, hy']
              rw [hz0] at hlz hf0
              simp [run_underlying hu, run_underlying hu', hsz, hlz, hf0]
            | emp b0 o0 sp =>
              simp only [Sl.len_emp, Sl.cap_emp] at hle hok hk
              have hz0 : z.len = 0 := by omega
              have : new = [] := List.length_eq_zero_iff.1 (by rw [hnl, hz0]; simp)
              subst this
              obtain ⟨hsam, hk⟩ := q3r hk
              refine q2f (w := w) (x := .c (.s (.emp b0 o0 sp))) (v := .slice (some ⟨b0, o0, some sp⟩) 0 0) (w' := w) hR hB rfl (Same.refl w) hk ?_ hn
              have hx2 : a.eval x = .slice (some ⟨b0, o0, some sp⟩) 0 0 := hx'
              have hf0 := hfirst w rfl
              simp only [execOp, resolve, Sem.run_bind, Sem.run_pure, Result.andThen_ok, invoke, builtin, Builtin.append_, List.map_toArray, List.map_cons, List.map_nil, hx2, hy']
              rw [hz0] at hlz hf0
              simp [run_underlying hu, run_underlying hu', hsz, hlz, hf0, vals, storeCells]
            | mk b o len cap =>
              simp only [Sl.len_mk, Sl.cap_mk, Sl.blk_mk, Sl.off_mk] at hle hok hk
              obtain ⟨hsam, hk⟩ := q3r hk
              refine q2f (w := w) (x := .c (.s (.mk b o (len + z.len) cap))) (v := .slice (some ⟨b, o, none⟩) (len + z.len) cap) (w' := w.setCells b (o + len * te.sh.length) (new.map Ce.v)) hR (by rw [q3e]; exact hB.sam hsam) rfl (q7f _ _ _ _) (by rw [q3e]; exact hk) ?_ hn
              have hst := qh4 (P := P) new b (o + len * te.sh.length) w hok
              have hx2 : a.eval x = .slice (some ⟨b, o, none⟩) len cap := hx'
              simp only [execOp, resolve, Sem.run_bind, Sem.run_pure, Result.andThen_ok, invoke, builtin, Builtin.append_, List.map_toArray, List.map_cons, List.map_nil, hx2, hy']
              simp [run_underlying hu, run_underlying hu', hsz, hlz, hle, hfirst w rfl, qa0, vals, hst]
          · obtain ⟨hbound, old, hol, hor, hk⟩ := hgrow (by omega)
            have hfits := growslice_fits (need := s.len + z.len) (old := s.cap) (bytes := te.bytes) (by omega) hbound
            have hb0 : te.bytes ≠ 0 := fun e => by rw [e] at hc; simp at hc
            have hmax : ¬ (((s.len + z.len : Nat) : Int) > IntKind.i64.max /\ te.bytes = 0) := fun hh => hb0 hh.2
            have hold : ∀ w' : World, w'.heap = w.heap -> (Builtin.firstCells te.sh.length s.len s.v).run P w' = .ok (vals old) w' := fun w' hw' =>
              qa2 old s s.len te.sh.length hol w' (by rw [hw']; exact hor) (Nat.le_refl _)
            let q : Question := .appendCap (s.len + z.len) s.cap e
            let nc := q.cut (w.tape w.drawn q)
            let w1 : World := { w with drawn := w.drawn + 1 }
            have hnc : s.len + z.len <= nc := Nat.le_add_right _ _
            refine q2f (w := w) (x := .c (.s (.mk w.heap.size 0 (s.len + z.len) nc))) (v := .slice (some ⟨w.heap.size, 0, none⟩) (s.len + z.len) nc)
              (w' := { w1 with heap := w.heap.push (.cells (vals (old ++ new ++ zrow (te.sh.map Sh.zero) (nc - (s.len + z.len)))) e) }) hR (hB.push _) rfl ⟨rfl, rfl, rfl⟩ (q3r (hk nc hnc)).2 ?_ hn
            have hzz : zv.cells.toList = (te.sh.map Sh.zero).map Ce.v := by simp [hz]
            have hze := qr0 (te.sh.map Sh.zero) zv.cells hzz (nc - (s.len + z.len))
            have hfo : q.forced = false := rfl
            have hnot : ¬ (Builtin.nextslicecap (s.len + z.len) s.cap * te.bytes > 2 ^ 48) := by
              have : (2 : Nat) ^ 48 = 281474976710656 := by decide
              omega
            simp only [execOp, resolve, Sem.run_bind, Sem.run_pure, Result.andThen_ok, invoke, builtin, Builtin.append_, List.map_toArray, List.map_cons, List.map_nil, hx', hy']
            have ho1 := hold w1 rfl
            have hn1 := hfirst w1 rfl
            rw [hsv] at ho1 ⊢
            simp only [List.getElem?_toArray, List.getElem?_cons_zero, List.getElem?_cons_succ, Sem.run_bind, run_underlying hu, run_underlying hu', Result.andThen_ok, hsz, Sem.run_pure, hlz, Bool.false_eq_true, if_false, hle, htr, hb, false_or]
            simp only [hb0, and_false, if_false, hnot, Sem.run_bind, run_choose, hfo, Bool.false_eq_true, Result.andThen_ok, htr, run_askRoom, ho1, Bool.not_false, if_true, hn1, hzr, hze, newRow, run_newObj, Sem.run_pure]
            simp [qru]
            rw [hb, if_neg (by omega), if_neg (show ¬ (Question.appendCap (s.len + z.len) s.cap e).forced = true by simp [Question.forced])]
            have ho2 : (Builtin.firstCells te.sh.length s.len (Value.slice s.base s.len s.cap)).run P w.drew = .ok (vals old) w.drew := ho1
            have hn2 : (Builtin.firstCells te.sh.length z.len z.v).run P w.drew = .ok (vals new) w.drew := hn1
            simp only [htr, Result.andThen_ok, ho2, hn2, hzr]
            have hze' : Builtin.zeroCells zv.cells ((Question.appendCap (s.len + z.len) s.cap e).cut (w.tape w.drawn (Question.appendCap (s.len + z.len) s.cap e)) - (s.len + z.len)) = vals (zrow (te.sh.map Sh.zero) (nc - (s.len + z.len))) := hze
            rw [hze']
            rfl
        · rw [hc] at h; exact h.elim
      · exact h.elim
    · exact h.elim
  · exact h.elim
end
end Go.Vc
end
section
/- That the writing operations run as 'wr' says: copy, and the theorem. -/
namespace Go.Vc
variable {P : Program} {T : TT} {G : List Nat}
section
variable {n : Nat} {fr : Fr} {a : Act} {m : Mem} {k : Fr -> SV -> Mem -> Prop} {dst : Option Tmp} {ty : TypeId} {pos : String} {after : Array Edge} {guard : Option (Nat × Bool)}
theorem qsr (hT : TOK P T) (hR : Rel n fr a) (hB : Bx n fr m) {args : Array Operand} {ts : Array TypeId} (h : wr P T G n fr m dst ty k (.call ⟨.builtin .copy, args, ts⟩)) : Does P n a m ⟨dst, .call ⟨.builtin .copy, args, ts⟩, ty, pos, after, guard⟩ k := by
  intro w hw next Q hn
  subst hw
  simp only [wr] at h
  split at h
  · rename_i x y t ts' hargs hts
    split at h
    · rename_i e sh by' s z ht hx hy
      split at h
      · rename_i te hte
        cases hc : te.isT
        · rw [hc] at h
          obtain ⟨new, hnl, hnr, hok, hk⟩ := h
          obtain ⟨hsam, hk⟩ := q3r hk
          have e1 : args = #[x, y] := Array.toList_inj.1 (by simpa using hargs)
          subst e1
          have ht0 : ts[0]? = some t := by rw [← Array.getElem?_toList, hts]; rfl
          have hu := (q2k (hT.tiB ht)).1
          have hsz := fun w => q2r hT hte hc w
          have hx' : a.eval x = s.v := hR.eq hx rfl
          have hy' : a.eval y = z.v := hR.eq hy rfl
          have hlz : (Builtin.lenOf z.v).run P w = .ok z.len w := by cases z <;> simp [Builtin.lenOf, Sl.v, Sl.len]
          have hfirst : (Builtin.firstCells te.sh.length (Nat.min z.len s.len) z.v).run P w = .ok (vals new) w :=
            qa2 new z _ te.sh.length hnl w hnr (Nat.min_le_left _ _)
          refine q2f (w := w) (x := .c (.i (Nat.min z.len s.len : Nat))) (v := .int .i64 (Nat.min z.len s.len : Nat)) (w' := w.setCells s.blk s.off (new.map Ce.v)) hR (by rw [q3e]; exact hB.sam hsam) rfl (q7f _ _ _ _) (by rw [q3e]; exact hk) ?_ hn
          cases s with
          | nil =>
            have hmin : Nat.min z.len Sl.nil.len = 0 := by simp
            have : new = [] := List.length_eq_zero_iff.1 (by rw [hnl, hmin]; simp)
            subst this
            have hx2 : a.eval x = .slice none 0 0 := hx'
            simp only [Sl.len_nil] at hfirst ⊢
            simp only [execOp, resolve, Sem.run_bind, Sem.run_pure, Result.andThen_ok, invoke, builtin, Builtin.copy_, List.map_toArray, List.map_cons, List.map_nil, hx2, hy', ht0]
            simp only [List.getElem?_toArray, List.getElem?_cons_zero, List.getElem?_cons_succ, Sem.run_bind, run_underlying hu, Result.andThen_ok, hlz, hsz, hfirst, Sem.run_pure]
            rfl
          | emp b0 o0 sp =>
            have hmin : Nat.min z.len (Sl.emp b0 o0 sp).len = 0 := by simp
            have : new = [] := List.length_eq_zero_iff.1 (by rw [hnl, hmin]; simp)
            subst this
            have hx2 : a.eval x = .slice (some ⟨b0, o0, some sp⟩) 0 0 := hx'
            simp only [Sl.len_emp] at hfirst ⊢
            simp only [execOp, resolve, Sem.run_bind, Sem.run_pure, Result.andThen_ok, invoke, builtin, Builtin.copy_, List.map_toArray, List.map_cons, List.map_nil, hx2, hy', ht0]
            simp only [List.getElem?_toArray, List.getElem?_cons_zero, List.getElem?_cons_succ, Sem.run_bind, run_underlying hu, Result.andThen_ok, hlz, hsz, hfirst, Sem.run_pure, vals]
            rfl
          | mk b o len cap =>
            have hst := qh4 (P := P) new b o w hok
            have hx2 : a.eval x = .slice (some ⟨b, o, none⟩) len cap := hx'
            simp only [Sl.len_mk] at hfirst ⊢
            simp only [execOp, resolve, Sem.run_bind, Sem.run_pure, Result.andThen_ok, invoke, builtin, Builtin.copy_, List.map_toArray, List.map_cons, List.map_nil, hx2, hy', ht0]
            simp only [List.getElem?_toArray, List.getElem?_cons_zero, List.getElem?_cons_succ, Sem.run_bind, run_underlying hu, Result.andThen_ok, hlz, hsz, hfirst, Sem.run_pure, vals, hst]
            rfl
        · rw [hc] at h; exact h.elim
      · exact h.elim
    · exact h.elim
  · exact h.elim
theorem qqw (hT : TOK P T) (hG : GOK P G) (hR : Rel n fr a) (hB : Bx n fr m) (o : Oper) (h : wr P T G n fr m o.dst o.type k o.op) : Does P n a m o k := by
  obtain ⟨dst, op, ty, pos, after, guard⟩ := o
  cases op with
  | alloc t => exact qs4 hT hR hB h
  | box t x => exact qt5 hR hB h
  | buildSlice t len parts => exact qnv hT hR hB h
  | store t x y => exact qsc hT hR hB h
  | makeSlice t x y => exact qoo hT hR hB h
  | makeFunc fn first captured => exact qpx hR hB h
  | makeMap t r => exact qqk hR hB h
  | lookup t x y ok => exact qrk hT hR hB h
  | mapUpdate t x y z => exact qoz hT hR hB h
  | call c =>
    obtain ⟨callee, args, ts⟩ := c
    cases callee with
    | builtin bi =>
      cases bi with
      | append => exact qrc hT hR hB h
      | copy => exact qsr hT hR hB h
      | _ => exact h.elim
    | value f => exact qst hG hR hB h
    | invoke r mm => exact h.elim
  | _ => exact h.elim
end
end Go.Vc
end
section
/- Regions that draw their order: readings may be taken first; what is read early must stay as it is. The laws on orders. -/
namespace Go.Vc
section
variable {P : Program} {ops : Array Oper} {Q : Exit -> Act -> World -> Prop} {md : Region.Mode} {bf : Nat -> Nat -> Bool}
def wpAnyL (P : Program) (md : Region.Mode) (ops : Array Oper) (Q : Exit -> Act -> World -> Prop) (bf : Nat -> Nat -> Bool) (L : List (Nat × (World -> Prop))) : Nat -> Array Bool -> Act -> World -> Prop
  | 0, listed, a, w => Region.ready md ops listed = [] /\ Q .normal a w
  | fuel + 1, listed, a, w =>
    (Region.ready md ops listed = [] -> Q .normal a w) /\
    ∀ i ∈ Region.ready md ops listed, wpOp P ops Q i (fun a' w' => (∀ x ∈ L, bf i x.1 = false -> x.2 w -> x.2 w') /\ wpAnyL P md ops Q bf L fuel (listed.setIfInBounds i true) a' w') a w
theorem qof {L : List (Nat × (World -> Prop))} : ∀ (fuel : Nat) (listed : Array Bool) (a : Act) (w : World), wpAnyL P md ops Q bf L fuel listed a w -> wpAny P md ops Q fuel listed a w
  | 0, _, _, _, h => h
  | fuel + 1, _, _, _, h => ⟨h.1, fun i hi => wpOp_mono (fun a' w' h' => qof fuel _ a' w' h'.2) (h.2 i hi)⟩
theorem qi0 {L L' : List (Nat × (World -> Prop))} (hL : ∀ x ∈ L', x ∈ L) : ∀ (fuel : Nat) (listed : Array Bool) (a : Act) (w : World), wpAnyL P md ops Q bf L fuel listed a w -> wpAnyL P md ops Q bf L' fuel listed a w
  | 0, _, _, _, h => h
  | fuel + 1, _, _, _, h => ⟨h.1, fun i hi => wpOp_mono (fun a' w' h' => ⟨fun x hx => h'.1 x (hL x hx), qi0 hL fuel _ a' w' h'.2⟩) (h.2 i hi)⟩
def Closed (bf : Nat -> Nat -> Bool) (listed : Array Bool) : Prop := ∀ i, listed.getD i false = true -> ∀ r, bf i r = true -> listed.getD r false = true
def BfOk (md : Region.Mode) (ops : Array Oper) (bf : Nat -> Nat -> Bool) : Prop :=
  ∀ (i r : Nat) (o : Oper), ops[i]? = some o -> bf i r = true -> ∃ e ∈ o.after, Region.binds md e = true /\ (e.on = r \/ bf e.on r = true)
theorem qch (hbf : BfOk md ops bf) {listed : Array Bool} (hc : Closed bf listed) {j : Nat} (hj : j ∈ Region.ready md ops listed) {r : Nat} (hr : bf j r = true) : listed.getD r false = true := by
  obtain ⟨_, o, ho, hall⟩ := mem_ready.1 hj
  obtain ⟨e, he, hb, h⟩ := hbf j r o ho hr
  have h1 := hall e he hb
  rcases h with rfl | h
  · exact h1
  · exact hc _ h1 r h
theorem Closed.set (hbf : BfOk md ops bf) {listed : Array Bool} (hc : Closed bf listed) {j : Nat} (hj : j ∈ Region.ready md ops listed) : Closed bf (listed.setIfInBounds j true) := by
  intro i hi r hr
  by_cases hij : j = i
  · subst hij
    exact getD_set_true (qch hbf hc hj hr)
  · rw [getD_set_ne false hij] at hi
    exact getD_set_true (hc i hi r hr)
theorem qjg {i : Nat} {oi : Oper} {v : Value} {S : World -> Prop} {L : List (Nat × (World -> Prop))} (hbf : BfOk md ops bf) (hi : ops[i]? = some oi) (hsel : ∀ (j : Nat) (o : Oper) cs b, ops[j]? = some o -> o.op ≠ .select cs b)
    (hQ : ∀ c a w, Q (.panic c) (a.put oi.dst v) w -> Q (.panic c) a w) :
    ∀ (fuel : Nat) (listed : Array Bool) (a : Act) (w : World), Closed bf listed ->
      (∀ j oj, ops[j]? = some oj -> j ≠ i -> listed.getD j true = false -> (∀ e ∈ oj.after, Region.binds md e = true -> e.on ≠ i) -> oi.apart ops oj = true) ->
      i ∈ Region.ready md ops listed -> YieldsIf P ops S oi v a -> S w ->
      wpAnyL P md ops Q bf ((i, S) :: L) fuel (listed.setIfInBounds i true) (a.put oi.dst v) w -> wpAnyL P md ops Q bf L (fuel + 1) listed a w := by
  intro fuel
  induction fuel with
  | zero =>
    intro listed a w _ _ hr hy hS H
    refine ⟨fun h => (by rw [h] at hr; cases hr), fun j hj => ?_⟩
    by_cases hji : j = i
    · subst hji; exact hy.wpOp hi hS ⟨fun x _ _ h => h, H⟩
    · have := ready_mono hj hji
      rw [H.1] at this
      cases this
  | succ fuel ih =>
    intro listed a w hcl hfree hr hy hS H
    refine ⟨fun h => (by rw [h] at hr; cases hr), fun j hj => ?_⟩
    by_cases hji : j = i
    · subst hji; exact hy.wpOp hi hS ⟨fun x _ _ h => h, qi0 (fun x hx => List.mem_cons_of_mem _ hx) _ _ _ _ H⟩
    · have h1 := H.2 j (ready_mono hj hji)
      obtain ⟨hjun, oj, hoj, hall⟩ := mem_ready.1 hj
      have hun : listed.getD i false = false := by
        have h0 := (mem_ready.1 hr).1
        rcases Nat.lt_or_ge i listed.size with h' | h'
        · simp [h'] at h0 ⊢; exact h0
        · simp [Array.getElem?_eq_none h']
      have hnot : ∀ e ∈ oj.after, Region.binds md e = true -> e.on ≠ i := fun e he hb heq => by
        have h1 := hall e he hb
        rw [heq, hun] at h1
        cases h1
      have hbji : bf j i = false := by
        cases hb : bf j i
        · rfl
        · have := qch hbf hcl hj hb
          rw [hun] at this; cases this
      have h2 := wpOp_putIf hoj (hfree j oj hoj hji hjun hnot) (fun cs b => hsel i oi cs b hi) (fun cs b => hsel j oj cs b hoj) hQ hy h1
      have hfree' : ∀ k ok, ops[k]? = some ok -> k ≠ i -> (listed.setIfInBounds j true).getD k true = false ->
          (∀ e ∈ ok.after, Region.binds md e = true -> e.on ≠ i) -> oi.apart ops ok = true := fun k ok hk hki hun hno => by
        refine hfree k ok hk hki ?_ hno
        by_cases hjk : j = k
        · subst hjk; exact hjun
        · rw [getD_set_ne true hjk] at hun; exact hun
      refine wpOp_mono (fun a' w' h3 => ⟨fun x hx => h3.2.1 x (List.mem_cons_of_mem _ hx),
        ih (listed.setIfInBounds j true) a' w' (hcl.set hbf hj) hfree' (ready_mono hr (Ne.symm hji)) h3.1 (h3.2.1 (i, S) List.mem_cons_self hbji hS) ?_⟩) h2
      rw [Array.setIfInBounds_comm _ _ hji]
      exact h3.2.2
theorem qsd {L : List (Nat × (World -> Prop))} {fuel : Nat} {listed : Array Bool} {a : Act} {w : World} (hne : Region.ready md ops listed ≠ [])
    (h : ∀ i ∈ Region.ready md ops listed, wpOp P ops Q i (fun a' w' => (∀ x ∈ L, bf i x.1 = false -> x.2 w -> x.2 w') /\ wpAnyL P md ops Q bf L fuel (listed.setIfInBounds i true) a' w') a w) :
    wpAnyL P md ops Q bf L (fuel + 1) listed a w := ⟨fun h0 => absurd h0 hne, h⟩
theorem qrg {L : List (Nat × (World -> Prop))} {listed : Array Bool} {a : Act} {w : World} (hr : Region.ready md ops listed = []) (h : Q .normal a w) :
    ∀ fuel, wpAnyL P md ops Q bf L fuel listed a w
  | 0 => ⟨hr, h⟩
  | _ + 1 => ⟨fun _ => h, by rw [hr]; simp⟩
end
end Go.Vc
end
section
/- Regions: in the order of the text, and in an order that is drawn. -/
namespace Go.Vc
variable {P : Program} {T : TT} {G : List Nat} {n : Nat}
def isWr : Op -> Bool
  | .alloc _ | .box .. | .buildSlice .. | .store .. | .makeSlice .. | .makeMap .. | .lookup .. | .mapUpdate .. | .makeFunc .. => true
  | .call ⟨.builtin .append, _, _⟩ | .call ⟨.builtin .copy, _, _⟩ => true
  | .call ⟨.builtin _, _, _⟩ => false
  | .call _ => true
  | _ => false
def dstOk (n : Nat) : Option Nat -> Bool
  | none => true
  | some d => Nat.blt d n
def gslot (ops : List Oper) (j : Nat) : Option Nat :=
  match nth ops j with
  | some o => o.dst
  | none => none
def gd (ops : List Oper) (fr : Fr) (g : Option (Nat × Bool)) (yes no : Fr -> Prop) : Prop :=
  match g with
  | none => yes fr
  | some (j, want) => match gslot ops j with
    | none => False
    | some d => match fget fr d with
      | .tt => bif want then yes fr else no fr
      | .ff => bif want then no fr else yes fr
      | .un => no fr
      | .c (.t x) => (x = true -> bif want then yes ((d, .tt) :: fr) else no ((d, .tt) :: fr)) /\ (x = false -> bif want then no ((d, .ff) :: fr) else yes ((d, .ff) :: fr))
      | _ => False
def vcOps (P : Program) (T : TT) (G : List Nat) (n : Nat) (ops : List Oper) : List Oper -> Fr -> Mem -> (Fr -> Mem -> Prop) -> Prop
  | [], fr, m, k => k fr m
  | o :: rest, fr, m, k =>
    bif dstOk n o.dst then
      gd ops fr o.guard
        (fun fr => bif isWr o.op then wr P T G n fr m o.dst o.type (fun fr' x m' => vcOps P T G n ops rest (fput fr' o.dst x) m' k) o.op
          else rd T fr m (fun x => vcOps P T G n ops rest (fput fr o.dst x) m k) o.op)
        (fun fr => vcOps P T G n ops rest (fput fr o.dst .un) m k)
    else False
def dsts : List Oper -> List Nat
  | [] => []
  | o :: r => match o.dst with
    | some d => d :: dsts r
    | none => dsts r
def Keep (M : List Nat) (a a' : Act) : Prop := ∀ t, t ∉ M -> a'.tmps.getD t undef = a.tmps.getD t undef
theorem Keep.refl (M : List Nat) (a : Act) : Keep M a a := fun _ _ => rfl
theorem Keep.trans {M : List Nat} {a b c : Act} (h : Keep M a b) (k : Keep M b c) : Keep M a c := fun t ht => (k t ht).trans (h t ht)
theorem Keep.put {M : List Nat} {d : Option Nat} (hd : ∀ t, d = some t -> t ∈ M) (v : Value) (a : Act) : Keep M a (a.put d v) := by
  cases d with
  | none => exact Keep.refl M a
  | some d =>
    intro t ht
    have hne : d ≠ t := fun e => ht (e ▸ hd d rfl)
    simp [Act.put, Array.getElem?_setIfInBounds_ne hne]
theorem qm6 {o : Oper} {d : Nat} (hd : o.dst = some d) : ∀ (ops : List Oper), o ∈ ops -> d ∈ dsts ops := by
  intro ops
  induction ops with
  | nil => intro h; cases h
  | cons x r ih =>
    intro h
    rcases List.mem_cons.1 h with h1 | h1
    · subst h1
      simp only [dsts, hd]
      exact List.mem_cons_self
    · have := ih h1
      unfold dsts
      cases x.dst with
      | none => exact this
      | some e => exact List.mem_cons_of_mem _ this
theorem qhg {d : Option Nat} (h : dstOk n d = true) : ∀ t, d = some t -> t < n := by
  rintro t rfl
  have : Nat.blt t n = true := h
  simpa [Nat.blt, Nat.succ_le_iff] using this
theorem qiy (opsA : Array Oper) {fr : Fr} {a : Act} {m : Mem} (hR : Rel n fr a) (hB : Bx n fr m) (o : Oper) {yes no : Fr -> Prop} (h : gd opsA.toList fr o.guard yes no) :
    (Region.wanted o (yielded opsA a.tmps) = true /\ ∃ fr', yes fr' /\ Rel n fr' a /\ Bx n fr' m) \/
    (Region.wanted o (yielded opsA a.tmps) = false /\ ∃ fr', no fr' /\ Rel n fr' a /\ Bx n fr' m) := by
  unfold gd at h
  cases hg : o.guard with
  | none =>
    rw [hg] at h
    exact Or.inl ⟨by simp [Region.wanted, hg], fr, h, hR, hB⟩
  | some p =>
    obtain ⟨j, want⟩ := p
    rw [hg] at h
    simp only at h
    split at h
    · exact h.elim
    · rename_i d hd
      have hgs : (opsA[j]?).bind (·.dst) = some d := by
        unfold gslot at hd
        rw [nth_eq] at hd
        have e : opsA.toList[j]? = opsA[j]? := by simp
        rw [e] at hd
        split at hd
        · rename_i oj hoj; rw [hoj]; exact hd
        · simp at hd
      have hat := hR.at' d
      have hyield : ∀ b : Bool, a.tmps.getD d undef = .bool b -> yielded opsA a.tmps j = some b := by
        intro b hb
        have : a.tmps[d]? = some (.bool b) := by
          cases hx : a.tmps[d]? with
          | none => rw [Array.getD_eq_getD_getElem?, hx] at hb; simp [undef] at hb
          | some y => rw [Array.getD_eq_getD_getElem?, hx] at hb; simp at hb; rw [hb]
        simp [yielded, hgs, this]
      split at h
      · rename_i hf
        rw [hf] at hat
        have hy := hyield true hat
        cases want
        · exact Or.inr ⟨by simp [Region.wanted, hg, hy], fr, h, hR, hB⟩
        · exact Or.inl ⟨by simp [Region.wanted, hg, hy], fr, h, hR, hB⟩
      · rename_i hf
        rw [hf] at hat
        have hy := hyield false hat
        cases want
        · exact Or.inl ⟨by simp [Region.wanted, hg, hy], fr, h, hR, hB⟩
        · exact Or.inr ⟨by simp [Region.wanted, hg, hy], fr, h, hR, hB⟩
      · rename_i hf
        rw [hf] at hat
        have hy : yielded opsA a.tmps j = none := by
          have hat' : a.tmps.getD d undef = undef := hat
          rw [Array.getD_eq_getD_getElem?] at hat'
          unfold yielded
          rw [hgs]
          cases hx : a.tmps[d]? with
          | none => simp [hx]
          | some y => rw [hx] at hat'; simp at hat'; subst hat'; simp [hx, undef]
        exact Or.inr ⟨by simp [Region.wanted, hg, hy], fr, h, hR, hB⟩
      · rename_i x hf
        rw [hf] at hat
        have hy := hyield x hat
        have hput : ∀ b : Bool, x = b -> Rel n ((d, if b then SV.tt else SV.ff) :: fr) a := by
          rintro b rfl
          refine ⟨hR.size, hR.defers, fun t => ?_⟩
          simp only [fget]
          cases hb : Nat.beq d t
          · exact hR.at' t
          · have := Nat.eq_of_beq_eq_true hb
            subst this
            cases x <;> exact hat
        obtain ⟨h1, h2⟩ := h
        cases x
        · have h2 := h2 rfl
          cases want
          · exact Or.inl ⟨by simp [Region.wanted, hg, hy], _, h2, hput false rfl, hB.top (by simp)⟩
          · exact Or.inr ⟨by simp [Region.wanted, hg, hy], _, h2, hput false rfl, hB.top (by simp)⟩
        · have h1 := h1 rfl
          cases want
          · exact Or.inr ⟨by simp [Region.wanted, hg, hy], _, h1, hput true rfl, hB.top (by simp)⟩
          · exact Or.inl ⟨by simp [Region.wanted, hg, hy], _, h1, hput true rfl, hB.top (by simp)⟩
      · exact h.elim
theorem rd_wp (hT : TOK P T) {fr : Fr} {a : Act} (hR : Rel n fr a) {m : Mem} (hB : Bx n fr m) {k : SV -> Prop} {o : Oper} (h : rd T fr m k o.op) {w : World} (hw : w.heap = m)
    {next : Act -> World -> Prop} {Q : Exit -> Act -> World -> Prop} (hn : ∀ x v, k x -> x.Is v -> next (a.put o.dst v) w) : o.wp P a w next Q := by
  obtain ⟨x, v, hk, hx, hrun⟩ := qmi (P := P) hT hR hB o h
  unfold Oper.wp
  rw [hrun w (fun q _ => by rw [hw])]
  exact hn x v hk hx
theorem qaa (hT : TOK P T) (hG : GOK P G) (opsA : Array Oper) {Q : Exit -> Act -> World -> Prop} {w0 : World} {a0 : Act} :
    ∀ (rest : List Oper) (fr : Fr) (m : Mem) (k : Fr -> Mem -> Prop) (a : Act) (w : World), (∀ o ∈ rest, o ∈ opsA.toList) -> vcOps P T G n opsA.toList rest fr m k -> Rel n fr a -> Bx n fr m -> w.heap = m -> Same w0 w ->
      Keep (dsts opsA.toList) a0 a ->
      (∀ fr' a' w', k fr' w'.heap -> Rel n fr' a' -> Bx n fr' w'.heap -> Same w0 w' -> Keep (dsts opsA.toList) a0 a' -> Q .normal a' w') -> wpList P opsA Q rest a w
  | [], fr, m, k, a, w, _, h, hR, hB, hw, hs, hk, hq => by
    subst hw
    exact hq fr a w h hR hB hs hk
  | o :: rest, fr, m, k, a, w, hmem, h, hR, hB, hw, hs, hk, hq => by
    simp only [vcOps] at h
    cases hd : dstOk n o.dst
    · rw [hd] at h; exact h.elim
    · rw [hd] at h
      simp only [cond_true] at h
      have hdl := qhg hd
      have hdm : ∀ d, o.dst = some d -> d ∈ dsts opsA.toList := fun d hd' => qm6 hd' _ (hmem o List.mem_cons_self)
      have hmem' := fun o' ho' => hmem o' (List.mem_cons_of_mem _ ho')
      unfold wpList
      rcases qiy opsA hR hB o h with ⟨hwant, fr', hyes, hR', hB'⟩ | ⟨hwant, fr', hno, hR', hB'⟩
      · rw [if_pos hwant]
        refine .inl ?_
        cases hwr : isWr o.op
        · simp only [hwr, cond_false] at hyes
          refine rd_wp hT hR' hB' hyes hw fun x v hx hv => ?_
          exact qaa hT hG opsA rest _ m k _ w hmem' hx (hR'.put hv hdl) (hB'.put _ _) hw hs (hk.trans (Keep.put hdm _ _)) hq
        · simp only [hwr, cond_true] at hyes
          refine qqw hT hG hR' hB' o hyes w hw _ _ fun fr2 x v w' hx hR2 hB2 hv hs' => ?_
          exact qaa hT hG opsA rest _ _ k _ w' hmem' hx (hR2.put hv hdl) (hB2.put _ _) rfl (hs.trans hs') (hk.trans (Keep.put hdm _ _)) hq
      · rw [if_neg (by rw [hwant]; simp)]
        exact qaa hT hG opsA rest _ m k _ w hmem' hno (hR'.put (x := .un) rfl hdl) (hB'.put _ _) hw hs (hk.trans (Keep.put hdm _ _)) hq
end Go.Vc
end
section
/- Regions that draw their order: the condition, and that it serves. -/
namespace Go.Vc
variable {P : Program} {T : TT} {G : List Nat} {n : Nat}
def nthD : List Nat -> Nat -> Nat
  | [], _ => 0
  | x :: _, 0 => x
  | _ :: r, n + 1 => nthD r n
def predMask : List Edge -> Nat
  | [] => 0
  | e :: r => bif Region.binds .any e then 2 ^ e.on ||| predMask r else predMask r
def befMask (bm : List Nat) : List Edge -> Nat
  | [] => 0
  | e :: r => bif Region.binds .any e then (2 ^ e.on ||| nthD bm e.on) ||| befMask bm r else befMask bm r
def q2j (bm0 : List Nat) : List Oper -> List Nat -> List Nat -> Bool
  | [], [], [] => true
  | o :: ops, p :: pm, b :: bm => Nat.beq p (predMask o.after.toList) && Nat.beq b (befMask bm0 o.after.toList) && q2j bm0 ops pm bm
  | _, _, _ => false
def opnds : Op -> List Operand
  | .alloc _ | .ready _ | .waits _ => []
  | .move x | .assign x | .box _ x | .load _ x | .nilCheck x | .unOp _ _ x | .convert _ _ x | .sliceToArrayPointer _ x | .makeInterface _ x
  | .makeChan _ x | .fieldAddr _ x _ | .field _ x _ | .range _ x | .next x _ | .entry x | .typeAssert x _ _ _ | .extract x _ | .panic x | .recv _ x _ => [x]
  | .pick c a b => [c, a, b]
  | .build _ ps | .buildSlice _ _ ps => ps.toList.map (·.2)
  | .store _ a v | .binOp _ _ a v _ | .makeSlice _ a v | .indexAddr _ a v | .index _ a v | .lookup _ a v _ | .mapEntry _ a v | .send a v => [a, v]
  | .makeFunc _ first captured => first.toList ++ captured.toList
  | .makeMap _ r => r.toList
  | .slice _ x l h m => [x] ++ l.toList ++ h.toList ++ m.toList
  | .mapUpdate _ m k v | .entryStore _ m k v | .insert _ m k v => [m, k, v]
  | .call ⟨.value f, args, _⟩ | .go ⟨.value f, args, _⟩ | .defer ⟨.value f, args, _⟩ => f :: args.toList
  | .call ⟨.invoke f _, args, _⟩ | .go ⟨.invoke f _, args, _⟩ | .defer ⟨.invoke f _, args, _⟩ => f :: args.toList
  | .call ⟨.builtin _, args, _⟩ | .go ⟨.builtin _, args, _⟩ | .defer ⟨.builtin _, args, _⟩ => args.toList
  | .select cs _ => (cs.flatMap fun c => #[c.chan] ++ c.send.toArray).toList
theorem qt9 (op : Op) : op.operands.toList = opnds op := by
  cases op <;> try (simp [Op.operands, opnds]; done)
  all_goals
    rename_i c
    obtain ⟨callee, args, ts⟩ := c
    cases callee <;> simp [Op.operands, opnds, Call.operands]
def tmpIn (d : Nat) : List Operand -> Bool
  | [] => false
  | .tmp t :: r => Nat.beq t d || tmpIn d r
  | _ :: r => tmpIn d r
def looksB (ops : List Oper) (o : Oper) (d : Nat) : Bool :=
  tmpIn d (opnds o.op) || (match o.guard with
    | some (g, _) => (match gslot ops g with | some t => Nat.beq t d | none => false)
    | none => false)
def apartB (ops : List Oper) (x y : Oper) : Bool :=
  (match x.dst with
   | some d => !looksB ops y d && (match y.dst with | some e => !Nat.beq d e | none => true)
   | none => true) &&
  (match y.dst with
   | some d => !looksB ops x d
   | none => true)
def selB : Op -> Bool
  | .select .. => true
  | _ => false
def apartRow (ops0 : List Oper) (i : Nat) (bi : Nat) (o : Oper) : Nat -> List Oper -> List Nat -> Bool
  | _, [], _ => true
  | _, _, [] => true
  | j, x :: ops, p :: pm => (Nat.beq j i || Nat.testBit p i || Nat.testBit bi j || apartB ops0 o x) && apartRow ops0 i bi o (j + 1) ops pm
def apartOk (ops0 : List Oper) (pm0 : List Nat) : Nat -> List Oper -> List Nat -> Bool
  | _, [], _ => true
  | _, _, [] => true
  | i, o :: ops, b :: bm => !selB o.op && (isWr o.op || apartRow ops0 i b o 0 ops0 pm0) && apartOk ops0 pm0 (i + 1) ops bm
def isReadyB (done p i : Nat) : Bool := !(Nat.testBit done i) && Nat.beq (p &&& done) p
def firstR (done : Nat) : Nat -> List Oper -> List Nat -> Option Nat
  | _, [], _ => none
  | _, _, [] => none
  | i, o :: ops, p :: pm => bif isReadyB done p i && !(isWr o.op) then some i else firstR done (i + 1) ops pm
def readyL (done : Nat) : Nat -> List Oper -> List Nat -> List Nat
  | _, [], _ => []
  | _, _, [] => []
  | i, _ :: ops, p :: pm => bif isReadyB done p i then i :: readyL done (i + 1) ops pm else readyL done (i + 1) ops pm
def sameC (m m' : Mem) : List (Nat × Nat) -> Prop -> Prop
  | [], k => k
  | (b, o) :: r, k => gcell m' b o = gcell m b o /\ sameC m m' r k
def stabC (bi : Nat) (m m' : Mem) : List (Nat × List (Nat × Nat)) -> Prop -> Prop
  | [], k => k
  | (r, As) :: L, k => bif Nat.testBit bi r then stabC bi m m' L k else sameC m m' As (stabC bi m m' L k)
def allL : List Nat -> (Nat -> Prop) -> Prop
  | [], _ => True
  | [i], f => f i
  | i :: r, f => f i /\ allL r f
def vcDraw (P : Program) (T : TT) (G : List Nat) (n : Nat) (ops : List Oper) (pm bm : List Nat) : Nat -> Nat -> Fr -> Mem -> List (Nat × List (Nat × Nat)) -> (Fr -> Mem -> Prop) -> Prop
  | 0, done, fr, m, _, k => match readyL done 0 ops pm with
    | [] => k fr m
    | _ => False
  | fuel + 1, done, fr, m, L, k =>
    match firstR done 0 ops pm with
    | some i => match nth ops i with
      | some o => bif dstOk n o.dst then
          gd ops fr o.guard
            (fun fr => rd T fr m (fun x => vcDraw P T G n ops pm bm fuel (done ||| 2 ^ i) (fput fr o.dst x) m ((i, rdA T fr o.op) :: L) k) o.op)
            (fun fr => vcDraw P T G n ops pm bm fuel (done ||| 2 ^ i) (fput fr o.dst .un) m L k)
        else False
      | none => False
    | none => match readyL done 0 ops pm with
      | [] => k fr m
      | rs => allL rs fun i => match nth ops i with
        | some o => bif dstOk n o.dst then
            gd ops fr o.guard
              (fun fr => wr P T G n fr m o.dst o.type (fun fr' x m' => stabC (nthD bm i) m m' L (vcDraw P T G n ops pm bm fuel (done ||| 2 ^ i) (fput fr' o.dst x) m' L k)) o.op)
              (fun fr => vcDraw P T G n ops pm bm fuel (done ||| 2 ^ i) (fput fr o.dst .un) m L k)
          else False
        | none => False
theorem q4w (r : Nat) : ∀ (es : List Edge), Nat.testBit (predMask es) r = true ↔ ∃ e ∈ es, Region.binds .any e = true /\ e.on = r
  | [] => by simp [predMask]
  | e :: es => by
    have ih := q4w r es
    simp only [predMask]
    cases hb : Region.binds .any e
    · simp only [cond_false, ih, List.mem_cons, exists_eq_or_imp, hb]; simp
    · simp only [cond_true, Nat.testBit_or, Bool.or_eq_true, ih, List.mem_cons, exists_eq_or_imp, hb, true_and, Nat.testBit_two_pow, decide_eq_true_eq]
theorem qe5 (bm : List Nat) (r : Nat) : ∀ (es : List Edge), Nat.testBit (befMask bm es) r = true -> ∃ e ∈ es, Region.binds .any e = true /\ (e.on = r \/ Nat.testBit (nthD bm e.on) r = true)
  | [], h => by simp [befMask] at h
  | e :: es, h => by
    have ih := qe5 bm r es
    simp only [befMask] at h
    cases hb : Region.binds .any e
    · simp only [hb, cond_false] at h
      obtain ⟨e', he', h'⟩ := ih h
      exact ⟨e', List.mem_cons_of_mem _ he', h'⟩
    · simp only [hb, cond_true, Nat.testBit_or, Bool.or_eq_true, Nat.testBit_two_pow, decide_eq_true_eq] at h
      rcases h with h | h
      · exact ⟨e, List.mem_cons_self, hb, h⟩
      · obtain ⟨e', he', h'⟩ := ih h
        exact ⟨e', List.mem_cons_of_mem _ he', h'⟩
theorem q3y (bm0 : List Nat) : ∀ {ops : List Oper} {pm bm : List Nat}, q2j bm0 ops pm bm = true -> ∀ (i : Nat) (o : Oper), ops[i]? = some o ->
    pm[i]? = some (predMask o.after.toList) /\ nthD bm i = befMask bm0 o.after.toList /\ ∃ b, bm[i]? = some b
  | [], [], [], _, i, o, h => by simp at h
  | x :: ops, p :: pm, b :: bm, h, i, o, ho => by
    simp only [q2j, Bool.and_eq_true] at h
    obtain ⟨⟨h1, h2⟩, h3⟩ := h
    cases i with
    | zero =>
      simp at ho; subst ho
      exact ⟨by simp [Nat.eq_of_beq_eq_true h1], by simp [nthD, Nat.eq_of_beq_eq_true h2], b, by simp⟩
    | succ i =>
      have := q3y bm0 h3 i o (by simpa using ho)
      simpa [nthD] using this
  | [], [], _ :: _, h, _, _, _ => by simp [q2j] at h
  | [], _ :: _, _, h, _, _, _ => by simp [q2j] at h
  | _ :: _, [], _, h, _, _, _ => by simp [q2j] at h
  | _ :: _, _ :: _, [], h, _, _, _ => by simp [q2j] at h
theorem qm1 (bm0 : List Nat) : ∀ {ops : List Oper} {pm bm : List Nat}, q2j bm0 ops pm bm = true -> pm.length = ops.length /\ bm.length = ops.length
  | [], [], [], _ => ⟨rfl, rfl⟩
  | x :: ops, p :: pm, b :: bm, h => by
    simp only [q2j, Bool.and_eq_true] at h
    have := qm1 bm0 h.2
    simp [this.1, this.2]
  | [], [], _ :: _, h => by simp [q2j] at h
  | [], _ :: _, _, h => by simp [q2j] at h
  | _ :: _, [], _, h => by simp [q2j] at h
  | _ :: _, _ :: _, [], h => by simp [q2j] at h
end Go.Vc
end
section
/- Regions that draw their order: that the condition serves. -/
namespace Go.Vc
variable {P : Program} {T : TT} {G : List Nat} {n : Nat}
theorem q8z {d : Nat} : ∀ {l : List Operand}, tmpIn d l = false -> d ∉ (l.filterMap fun | .tmp t => some t | _ => none)
  | [], _ => by simp
  | x :: r, h => by
    cases x with
    | tmp t =>
      simp only [tmpIn, Bool.or_eq_false_iff] at h
      have ih := q8z h.2
      have : t ≠ d := fun e => by subst e; simp at h
      simp only [List.filterMap_cons, List.mem_cons, not_or]
      exact ⟨fun e => this e.symm, ih⟩
    | const v => simpa using q8z (l := r) (by simpa [tmpIn] using h)
    | global g => simpa using q8z (l := r) (by simpa [tmpIn] using h)
    | func f => simpa using q8z (l := r) (by simpa [tmpIn] using h)
theorem qta (opsA : Array Oper) (g : Nat) : gslot opsA.toList g = (opsA[g]?).bind (·.dst) := by
  unfold gslot
  rw [nth_eq]
  have e : opsA.toList[g]? = opsA[g]? := by simp
  rw [e]
  cases opsA[g]? <;> rfl
theorem qlz (opsA : Array Oper) {o : Oper} {d : Nat} (h : looksB opsA.toList o d = false) : d ∉ o.looksAt opsA := by
  simp only [looksB, Bool.or_eq_false_iff] at h
  unfold Oper.looksAt
  rw [qt9, List.mem_append, not_or]
  refine ⟨q8z h.1, ?_⟩
  have h2 := h.2
  cases hg : o.guard with
  | none => simp
  | some p =>
    obtain ⟨g, b⟩ := p
    rw [hg] at h2
    simp only at h2 ⊢
    rw [qta] at h2
    cases hd : (opsA[g]?).bind (·.dst) with
    | none => simp
    | some t =>
      rw [hd] at h2
      simp only at h2
      simp only [Option.toList_some, List.mem_singleton]
      intro e; subst e; simp at h2
theorem qrl (opsA : Array Oper) {x y : Oper} (h : apartB opsA.toList x y = true) : x.apart opsA y = true := by
  simp only [apartB, Bool.and_eq_true] at h
  obtain ⟨h1, h2⟩ := h
  unfold Oper.apart
  simp only [Bool.and_eq_true]
  constructor
  · cases hx : x.dst with
    | none => rfl
    | some d =>
      rw [hx] at h1
      simp only [Bool.and_eq_true, Bool.not_eq_true'] at h1 ⊢
      refine ⟨?_, ?_⟩
      · have := qlz opsA h1.1
        simpa using this
      · have h12 := h1.2
        cases hy : y.dst with
        | none => simp
        | some e =>
          rw [hy] at h12
          simp only [Bool.not_eq_true'] at h12
          simp only [bne_iff_ne, ne_eq, Option.some.injEq]
          intro he; subst he; simp at h12
  · cases hy : y.dst with
    | none => rfl
    | some d =>
      rw [hy] at h2
      simp only [Bool.not_eq_true'] at h2 ⊢
      have := qlz opsA h2
      simpa using this
theorem qht (ops0 : List Oper) (i bi : Nat) (o : Oper) : ∀ {ops : List Oper} {pm : List Nat} {j0 : Nat}, apartRow ops0 i bi o j0 ops pm = true -> ∀ (j : Nat) (x : Oper) (p : Nat), ops[j]? = some x -> pm[j]? = some p ->
    j0 + j = i \/ Nat.testBit p i = true \/ Nat.testBit bi (j0 + j) = true \/ apartB ops0 o x = true
  | [], _, _, _, j, x, p, h, _ => by simp at h
  | _ :: _, [], _, _, j, x, p, _, h => by simp at h
  | y :: ops, q :: pm, j0, h, j, x, p, hx, hp => by
    simp only [apartRow, Bool.and_eq_true, Bool.or_eq_true] at h
    obtain ⟨h1, h2⟩ := h
    cases j with
    | zero =>
      simp at hx hp; subst hx; subst hp
      rcases h1 with ((h1 | h1) | h1) | h1
      · exact Or.inl (by simpa using Nat.eq_of_beq_eq_true h1)
      · exact Or.inr (Or.inl h1)
      · exact Or.inr (Or.inr (Or.inl (by simpa using h1)))
      · exact Or.inr (Or.inr (Or.inr h1))
    | succ j =>
      have := qht ops0 i bi o h2 j x p (by simpa using hx) (by simpa using hp)
      have e : j0 + 1 + j = j0 + (j + 1) := by omega
      rw [e] at this
      exact this
theorem qdp (ops0 : List Oper) (pm0 : List Nat) : ∀ {ops : List Oper} {bm : List Nat} {i0 : Nat}, apartOk ops0 pm0 i0 ops bm = true -> ∀ (i : Nat) (o : Oper) (b : Nat), ops[i]? = some o -> bm[i]? = some b ->
    selB o.op = false /\ (isWr o.op = true \/ apartRow ops0 (i0 + i) b o 0 ops0 pm0 = true)
  | [], _, _, _, i, o, b, h, _ => by simp at h
  | _ :: _, [], _, _, i, o, b, _, h => by simp at h
  | y :: ops, q :: bm, i0, h, i, o, b, ho, hb => by
    simp only [apartOk, Bool.and_eq_true, Bool.or_eq_true, Bool.not_eq_true'] at h
    obtain ⟨⟨h1, h2⟩, h3⟩ := h
    cases i with
    | zero => simp at ho hb; subst ho; subst hb; exact ⟨h1, by simpa using h2⟩
    | succ i =>
      have := qdp ops0 pm0 h3 i o b (by simpa using ho) (by simpa using hb)
      have e : i0 + 1 + i = i0 + (i + 1) := by omega
      rw [e] at this
      exact this
theorem qlp (p d : Nat) : Nat.beq (p &&& d) p = true ↔ ∀ r, Nat.testBit p r = true -> Nat.testBit d r = true := by
  constructor
  · intro h r hr
    have e := Nat.eq_of_beq_eq_true h
    rw [← e, Nat.testBit_and] at hr
    simp only [Bool.and_eq_true] at hr
    exact hr.2
  · intro h
    have : p &&& d = p := by
      apply Nat.eq_of_testBit_eq
      intro r
      rw [Nat.testBit_and]
      cases hp : Nat.testBit p r
      · rfl
      · simp [h r hp]
    rw [this]; simp
structure DRel (N done : Nat) (listed : Array Bool) : Prop where
  size : listed.size = N
  bit : ∀ i, listed.getD i false = Nat.testBit done i
theorem DRel.un {N done : Nat} {listed : Array Bool} (h : DRel N done listed) {i : Nat} (hi : i < N) : listed.getD i true = Nat.testBit done i := by
  rw [← h.bit i]
  have : i < listed.size := by rw [h.size]; exact hi
  simp [this]
theorem DRel.set {N done : Nat} {listed : Array Bool} (h : DRel N done listed) {i : Nat} (hi : i < N) : DRel N (done ||| 2 ^ i) (listed.setIfInBounds i true) := by
  refine ⟨by simp [h.size], fun j => ?_⟩
  have hlt : i < listed.size := by rw [h.size]; exact hi
  rw [Nat.testBit_or, Nat.testBit_two_pow]
  by_cases e : i = j
  · subst e; simp [hlt]
  · rw [getD_set_ne false e, h.bit j]; simp [e]
theorem qk5 (opsA : Array Oper) {pm bm0 bm : List Nat} (hm : q2j bm0 opsA.toList pm bm = true) {done : Nat} {listed : Array Bool} (hD : DRel opsA.size done listed) (i : Nat) :
    i ∈ Region.ready .any opsA listed ↔ ∃ o p, opsA[i]? = some o /\ pm[i]? = some p /\ isReadyB done p i = true := by
  rw [mem_ready]
  constructor
  · rintro ⟨h0, o, ho, hall⟩
    have hi : i < opsA.size := (Array.getElem?_eq_some_iff.1 ho).1
    have hp := (q3y bm0 hm i o (by simpa using ho)).1
    refine ⟨o, _, ho, hp, ?_⟩
    simp only [isReadyB, Bool.and_eq_true, Bool.not_eq_true']
    refine ⟨by rw [← hD.un hi]; exact h0, (qlp _ _).2 fun r hr => ?_⟩
    obtain ⟨e, he, hb, rfl⟩ := (q4w r _).1 hr
    rw [← hD.bit]
    exact hall e (Array.mem_toList_iff.1 he) hb
  · rintro ⟨o, p, ho, hp, hr⟩
    have hi : i < opsA.size := (Array.getElem?_eq_some_iff.1 ho).1
    have hp' := (q3y bm0 hm i o (by simpa using ho)).1
    rw [hp] at hp'
    simp only [Option.some.injEq] at hp'
    subst hp'
    simp only [isReadyB, Bool.and_eq_true, Bool.not_eq_true'] at hr
    refine ⟨by rw [hD.un hi]; exact hr.1, o, ho, fun e he hb => ?_⟩
    rw [hD.bit]
    exact (qlp _ _).1 hr.2 e.on ((q4w _ _).2 ⟨e, Array.mem_toList_iff.2 he, hb, rfl⟩)
theorem qnb (done : Nat) : ∀ {ops : List Oper} {pm : List Nat} {i0 i : Nat}, i ∈ readyL done i0 ops pm ↔ ∃ j o p, i = i0 + j /\ ops[j]? = some o /\ pm[j]? = some p /\ isReadyB done p i = true
  | [], _, _, _ => by simp [readyL]
  | _ :: _, [], _, _ => by simp [readyL]
  | x :: ops, q :: pm, i0, i => by
    have ih := qnb done (ops := ops) (pm := pm) (i0 := i0 + 1) (i := i)
    have key : (∃ j o p, i = i0 + j /\ (x :: ops)[j]? = some o /\ (q :: pm)[j]? = some p /\ isReadyB done p i = true) ↔
        ((i = i0 /\ isReadyB done q i0 = true) \/ ∃ j o p, i = i0 + 1 + j /\ ops[j]? = some o /\ pm[j]? = some p /\ isReadyB done p i = true) := by
      constructor
      · rintro ⟨j, o, p, rfl, ho, hp, hr⟩
        cases j with
        | zero => simp at hp; subst hp; exact Or.inl ⟨rfl, by simpa using hr⟩
        | succ j => exact Or.inr ⟨j, o, p, by omega, by simpa using ho, by simpa using hp, by rwa [show i0 + (j + 1) = i0 + (j + 1) from rfl] at hr⟩
      · rintro (⟨rfl, hr⟩ | ⟨j, o, p, rfl, ho, hp, hr⟩)
        · exact ⟨0, x, q, rfl, by simp, by simp, hr⟩
        · exact ⟨j + 1, o, p, by omega, by simpa using ho, by simpa using hp, hr⟩
    rw [key, ← ih]
    simp only [readyL]
    cases hb : isReadyB done q i0
    · simp
    · simp
theorem qln (done : Nat) : ∀ {ops : List Oper} {pm : List Nat} {i0 i : Nat}, firstR done i0 ops pm = some i -> ∃ j o p, i = i0 + j /\ ops[j]? = some o /\ pm[j]? = some p /\ isReadyB done p i = true /\ isWr o.op = false
  | [], _, _, _, h => by simp [firstR] at h
  | _ :: _, [], _, _, h => by simp [firstR] at h
  | x :: ops, q :: pm, i0, i, h => by
    simp only [firstR] at h
    cases hb : (isReadyB done q i0 && !(isWr x.op))
    · rw [hb] at h
      obtain ⟨j, o, p, rfl, ho, hp, hr, hw⟩ := qln done h
      exact ⟨j + 1, o, p, by omega, by simpa using ho, by simpa using hp, hr, hw⟩
    · rw [hb] at h
      simp at h; subst h
      simp only [Bool.and_eq_true, Bool.not_eq_true'] at hb
      exact ⟨0, x, q, rfl, by simp, by simp, hb.1, hb.2⟩
theorem qps : ∀ {l : List Nat} {f : Nat -> Prop}, allL l f -> ∀ i ∈ l, f i
  | [i], f, h, j, hj => by simp at hj; subst hj; exact h
  | i :: i' :: r, f, h, j, hj => by
    rcases List.mem_cons.1 hj with rfl | hj
    · exact h.1
    · exact qps h.2 j hj
theorem qnp {m m' : Mem} : ∀ {l : List (Nat × Nat)} {k : Prop}, sameC m m' l k -> k /\ ∀ q ∈ l, gcell m' q.1 q.2 = gcell m q.1 q.2
  | [], k, h => ⟨h, by simp⟩
  | (b, o) :: r, k, h => by
    obtain ⟨h1, h2⟩ := qnp h.2
    refine ⟨h1, fun q hq => ?_⟩
    rcases List.mem_cons.1 hq with rfl | hq
    · exact h.1
    · exact h2 q hq
theorem qh2 {bi : Nat} {m m' : Mem} : ∀ {L : List (Nat × List (Nat × Nat))} {k : Prop}, stabC bi m m' L k -> k /\ ∀ x ∈ L, Nat.testBit bi x.1 = false -> ∀ q ∈ x.2, gcell m' q.1 q.2 = gcell m q.1 q.2
  | [], k, h => ⟨h, by simp⟩
  | (r, As) :: L, k, h => by
    simp only [stabC] at h
    cases hb : Nat.testBit bi r
    · rw [hb] at h
      obtain ⟨h1, h2⟩ := qnp h
      obtain ⟨h3, h4⟩ := qh2 h1
      refine ⟨h3, fun x hx hxb => ?_⟩
      rcases List.mem_cons.1 hx with rfl | hx
      · exact h2
      · exact h4 x hx hxb
    · rw [hb] at h
      obtain ⟨h3, h4⟩ := qh2 h
      refine ⟨h3, fun x hx hxb => ?_⟩
      rcases List.mem_cons.1 hx with rfl | hx
      · rw [hb] at hxb; cases hxb
      · exact h4 x hx hxb
def LRel (L : List (Nat × List (Nat × Nat))) (Ls : List (Nat × (World -> Prop))) : Prop :=
  ∀ x ∈ Ls, (∀ w, x.2 w) \/ ∃ (As : List (Nat × Nat)) (c : Nat × Nat -> Option Value), (x.1, As) ∈ L /\ x.2 = fun w => ∀ q ∈ As, gcell w.heap q.1 q.2 = c q
end Go.Vc
end
section
/- Regions that draw their order: the theorem. -/
namespace Go.Vc
variable {P : Program} {T : TT} {G : List Nat} {n : Nat}
theorem qqq (hT : TOK P T) (hG : GOK P G) (opsA : Array Oper) (pm bm : List Nat) (hm : q2j bm opsA.toList pm bm = true) (hap : apartOk opsA.toList pm 0 opsA.toList bm = true)
    {Q : Exit -> Act -> World -> Prop} (hQ : ∀ c a w, ¬ Q (.panic c) a w) {w0 : World} {a0 : Act} :
    ∀ (fuel done : Nat) (fr : Fr) (m : Mem) (L : List (Nat × List (Nat × Nat))) (k : Fr -> Mem -> Prop) (Ls : List (Nat × (World -> Prop))) (listed : Array Bool) (a : Act) (w : World),
      vcDraw P T G n opsA.toList pm bm fuel done fr m L k -> LRel L Ls -> DRel opsA.size done listed -> Closed (fun i r => Nat.testBit (nthD bm i) r) listed -> Rel n fr a -> Bx n fr m -> w.heap = m -> Same w0 w ->
      Keep (dsts opsA.toList) a0 a ->
      (∀ fr' a' w', k fr' w'.heap -> Rel n fr' a' -> Bx n fr' w'.heap -> Same w0 w' -> Keep (dsts opsA.toList) a0 a' -> Q .normal a' w') ->
      wpAnyL P .any opsA Q (fun i r => Nat.testBit (nthD bm i) r) Ls fuel listed a w := by
  have hbf : BfOk .any opsA (fun i r => Nat.testBit (nthD bm i) r) := by
    intro i r o ho hr
    have h1 := (q3y bm hm i o (by simpa using ho)).2.1
    simp only [h1] at hr
    obtain ⟨e, he, hb, h⟩ := qe5 bm r _ hr
    exact ⟨e, Array.mem_toList_iff.1 he, hb, h⟩
  have hlen := qm1 bm hm
  have hsel : ∀ (j : Nat) (o : Oper) cs b, opsA[j]? = some o -> o.op ≠ .select cs b := by
    intro j o cs b ho e
    obtain ⟨_, _, bj, hbj⟩ := q3y bm hm j o (by simpa using ho)
    have := (qdp _ _ hap j o bj (by simpa using ho) hbj).1
    rw [e] at this
    simp [selB] at this
  have hready0 : ∀ {done : Nat} {listed : Array Bool}, DRel opsA.size done listed -> ∀ i, i ∈ Region.ready .any opsA listed ↔ i ∈ readyL done 0 opsA.toList pm := by
    intro done listed hD i
    rw [qk5 opsA hm hD i, qnb]
    constructor
    · rintro ⟨o, p, ho, hp, hr⟩
      exact ⟨i, o, p, by omega, by simpa using ho, hp, hr⟩
    · rintro ⟨j, o, p, e, ho, hp, hr⟩
      have : i = j := by omega
      subst this
      exact ⟨o, p, by simpa using ho, hp, hr⟩
  have hnil : ∀ {done : Nat} {listed : Array Bool}, DRel opsA.size done listed -> readyL done 0 opsA.toList pm = [] -> Region.ready .any opsA listed = [] := by
    intro done listed hD h
    apply List.eq_nil_iff_forall_not_mem.2
    intro i hi
    rw [hready0 hD i, h] at hi
    cases hi
  intro fuel
  induction fuel with
  | zero =>
    intro done fr m L k Ls listed a w h hL hD hC hR hB hw hs hk hq
    subst hw
    simp only [vcDraw] at h
    split at h
    · rename_i h0
      exact ⟨hnil hD h0, hq fr a w h hR hB hs hk⟩
    · exact h.elim
  | succ fuel ih =>
    intro done fr m L k Ls listed a w h hL hD hC hR hB hw hs hk hq
    subst hw
    simp only [vcDraw] at h
    split at h
    · -- a reading is taken first
      rename_i i hi
      obtain ⟨j, o, p, e, ho, hp, hr, hwr⟩ := qln done hi
      have : i = j := by omega
      subst this
      rw [nth_eq, ho] at h
      simp only at h
      have hoA : opsA[i]? = some o := by simpa using ho
      have hiN : i < opsA.size := (Array.getElem?_eq_some_iff.1 hoA).1
      have hrdy : i ∈ Region.ready .any opsA listed := (qk5 opsA hm hD i).2 ⟨o, p, hoA, hp, hr⟩
      cases hd : dstOk n o.dst
      · rw [hd] at h; exact h.elim
      · rw [hd] at h
        simp only [cond_true] at h
        have hdl := qhg hd
        have hdm : ∀ d, o.dst = some d -> d ∈ dsts opsA.toList := fun d hd' => qm6 hd' _ (List.mem_of_getElem? ho)
        have hfree : ∀ j oj, opsA[j]? = some oj -> j ≠ i -> listed.getD j true = false -> (∀ e ∈ oj.after, Region.binds .any e = true -> e.on ≠ i) -> o.apart opsA oj = true := by
          intro j oj hoj hji hjun hnot
          have hjN : j < opsA.size := (Array.getElem?_eq_some_iff.1 hoj).1
          obtain ⟨_, hbi, bi, hbi'⟩ := q3y bm hm i o ho
          rcases (qdp _ _ hap i o bi ho hbi').2 with h' | h'
          · rw [hwr] at h'; cases h'
          · have hpj := (q3y bm hm j oj (by simpa using hoj)).1
            have hbb : nthD bm i = bi := by
              have : ∀ (l : List Nat) (i b : Nat), l[i]? = some b -> nthD l i = b := by
                intro l
                induction l with
                | nil => intro i b h; simp at h
                | cons x l ih => intro i b h; cases i with
                  | zero => simpa [nthD] using h
                  | succ i => simpa [nthD] using ih i b (by simpa using h)
              exact this bm i bi hbi'
            rcases qht _ _ _ _ h' j oj _ (by simpa using hoj) hpj with e | e | e | e
            · exact absurd (by omega) hji
            · rw [Nat.zero_add] at e
              obtain ⟨ed, hed, hb, heq⟩ := (q4w i _).1 e
              exact absurd heq (hnot ed (Array.mem_toList_iff.1 hed) hb)
            · rw [Nat.zero_add, ← hbb] at e
              have := qch hbf hC hrdy e
              rw [hD.bit] at this
              rw [hD.un hjN, this] at hjun
              cases hjun
            · exact qrl opsA e
        rcases qiy opsA hR hB o h with ⟨hwant, fr', hyes, hR', hB'⟩ | ⟨hwant, fr', hno, hR', hB'⟩
        · obtain ⟨x, v, hx, hv, hrun⟩ := qmi (P := P) hT hR' hB' o hyes
          let S : World -> Prop := fun w' => ∀ q ∈ rdA T fr' o.op, gcell w'.heap q.1 q.2 = gcell w.heap q.1 q.2
          refine qjg (S := S) hbf hoA hsel (fun c a w hc => absurd hc (hQ _ _ _)) fuel listed a w hC hfree hrdy (v := v) (Or.inl ⟨hwant, fun w' hw' => hrun w' hw'⟩) (fun q _ => rfl) ?_
          refine ih _ _ _ _ k _ _ _ w hx ?_ (hD.set hiN) (hC.set hbf hrdy) (hR'.put hv hdl) (hB'.put _ _) rfl hs (hk.trans (Keep.put hdm _ _)) hq
          intro y hy
          rcases List.mem_cons.1 hy with rfl | hy
          · exact Or.inr ⟨_, fun q => gcell w.heap q.1 q.2, List.mem_cons_self, rfl⟩
          · rcases hL y hy with h' | ⟨As, c, h1, h2⟩
            · exact Or.inl h'
            · exact Or.inr ⟨As, c, List.mem_cons_of_mem _ h1, h2⟩
        · refine qjg (S := fun _ => True) hbf hoA hsel (fun c a w hc => absurd hc (hQ _ _ _)) fuel listed a w hC hfree hrdy (v := undef) (Or.inr ⟨hwant, rfl⟩) trivial ?_
          refine ih _ _ _ _ k _ _ _ w hno ?_ (hD.set hiN) (hC.set hbf hrdy) (hR'.put (x := .un) rfl hdl) (hB'.put _ _) rfl hs (hk.trans (Keep.put hdm _ _)) hq
          intro y hy
          rcases List.mem_cons.1 hy with rfl | hy
          · exact Or.inl fun _ => trivial
          · exact hL y hy
    · split at h
      · rename_i h0
        exact qrg (hnil hD h0) (hq fr a w h hR hB hs hk) _
      · rename_i rs hne
        have hall := qps h
        refine qsd ?_ ?_
        · intro e
          apply hne
          cases hrs : readyL done 0 opsA.toList pm with
          | nil => rfl
          | cons x xs =>
            have : x ∈ Region.ready .any opsA listed := (hready0 hD x).2 (by rw [hrs]; exact List.mem_cons_self)
            rw [e] at this
            cases this
        · intro i hi
          have hi' := hall i ((hready0 hD i).1 hi)
          obtain ⟨o, p, hoA, hp, hr⟩ := (qk5 opsA hm hD i).1 hi
          have ho : opsA.toList[i]? = some o := by simpa using hoA
          have hiN : i < opsA.size := (Array.getElem?_eq_some_iff.1 hoA).1
          rw [nth_eq, ho] at hi'
          simp only at hi'
          cases hd : dstOk n o.dst
          · rw [hd] at hi'; exact hi'.elim
          · rw [hd] at hi'
            simp only [cond_true] at hi'
            have hdl := qhg hd
            have hdm : ∀ d, o.dst = some d -> d ∈ dsts opsA.toList := fun d hd' => qm6 hd' _ (List.mem_of_getElem? ho)
            unfold wpOp
            simp only [hoA]
            rcases qiy opsA hR hB o hi' with ⟨hwant, fr', hyes, hR', hB'⟩ | ⟨hwant, fr', hno, hR', hB'⟩
            · rw [if_pos hwant]
              refine .inl (qqw hT hG hR' hB' o hyes w rfl _ _ fun fr2 x v w' hx hR2 hB2 hv hs' => ?_)
              obtain ⟨hx1, hx2⟩ := qh2 hx
              refine ⟨fun y hy hyb hyw => ?_, ih _ _ _ L k Ls _ _ w' hx1 hL (hD.set hiN) (hC.set hbf hi) (hR2.put hv hdl) (hB2.put _ _) rfl (hs.trans hs') (hk.trans (Keep.put hdm _ _)) hq⟩
              rcases hL y hy with h' | ⟨As, c, h1, h2⟩
              · exact h' w'
              · rw [h2] at hyw ⊢
                intro q hq'
                rw [hx2 _ h1 hyb q hq', hyw q hq']
            · rw [if_neg (by rw [hwant]; simp)]
              exact ⟨fun y hy _ hyw => hyw, ih _ _ _ L k Ls _ _ w hno hL (hD.set hiN) (hC.set hbf hi) (hR'.put (x := .un) rfl hdl) (hB'.put _ _) rfl hs (hk.trans (Keep.put hdm _ _)) hq⟩
end Go.Vc
end
section
/- Code: its condition, with loops and cuts that are told by what their slots hold; that the condition serves. -/
namespace Go.Vc
variable {P : Program} {T : TT} {G : List Nat} {n : Nat}
structure Ann where
  draws : List (Nat × List Nat × List Nat)
  loops : List (Nat × List (Nat × Sh))
  cuts : List (Nat × List (Nat × Sh))
  keep : List (Nat × List Nat)
def lk {α : Type} : List (Nat × α) -> Nat -> Option α
  | [], _ => none
  | (u, x) :: r, t => bif Nat.beq u t then some x else lk r t
def headR : Code -> Option Nat
  | .region id _ _ => some id
  | .seq a b => match headR a with
    | some i => some i
    | none => headR b
  | .cond _ a b => match headR a with
    | some i => some i
    | none => headR b
  | .block _ c => headR c
  | .loop c => headR c
  | .scope c => headR c
  | _ => none
def lkH {α : Type} (l : List (Nat × α)) (c : Code) : Option α :=
  match headR c with
  | some i => lk l i
  | none => none
def LTy : List (Nat × Sh) -> Type
  | [] => Mem -> Prop
  | (_, s) :: r => s.ty -> LTy r
def MTy : List (Nat × Sh) -> Type
  | [] => Mem -> Nat
  | (_, s) :: r => s.ty -> MTy r
def getS : (s : Sh) -> SV -> Option s.ty
  | .I, .c (.i n) => some n
  | .U k, .c (.u k' n) => if k = k' then some n else none
  | .T, .c (.t b) => some b
  | .T, .tt => some true
  | .T, .ff => some false
  | .S, .c (.s x) => some x
  | .P, .c (.p b o) => some (b, o)
  | .P, .c (.bp _ b o) => some (b, o)
  | .F, .c (.fn f a c) => some (f, a, c)
  | .F, .c (.fv q) => some q
  | .M, .c (.mp b) => some b
  | _, _ => none
def appI : (l : List (Nat × Sh)) -> LTy l -> Fr -> Mem -> Prop
  | [], I, _, m => I m
  | (t, s) :: r, I, fr, m => match getS s (fget fr t) with
    | some x => appI r (I x) fr m
    | none => False
def appM : (l : List (Nat × Sh)) -> LTy l -> MTy l -> Fr -> Mem -> Nat -> Prop
  | [], I, μ, _, m, N => I m /\ μ m < N
  | (t, s) :: r, I, μ, fr, m, N => match getS s (fget fr t) with
    | some x => appM r (I x) (μ x) fr m N
    | none => False
def allI : (l : List (Nat × Sh)) -> LTy l -> Fr -> (Fr -> (Mem -> Prop) -> Prop) -> Prop
  | [], I, fr, k => k fr I
  | (t, s) :: r, I, fr, k => ∀ x : s.ty, allI r (I x) ((t, .c (s.mk x)) :: fr) k
def allM : (l : List (Nat × Sh)) -> LTy l -> MTy l -> Fr -> (Fr -> (Mem -> Prop) -> (Mem -> Nat) -> Prop) -> Prop
  | [], I, μ, fr, k => k fr I μ
  | (t, s) :: r, I, μ, fr, k => ∀ x : s.ty, allM r (I x) (μ x) ((t, .c (s.mk x)) :: fr) k
def tops : List Nat -> Fr -> Fr
  | [], fr => fr
  | t :: r, fr => (t, .top) :: tops r fr
def mods : Code -> List Nat
  | .region _ ops _ => dsts ops.toList
  | .seq a b => mods a ++ mods b
  | .cond _ a b => mods a ++ mods b
  | .block _ c => mods c
  | .loop c => mods c
  | _ => []
def slotsIn (M : List Nat) : List (Nat × Sh) -> Bool
  | [] => true
  | (t, _) :: r => memN t M && slotsIn M r
def eqS (x y : SV) (k : Prop) : Prop := x = y /\ k
theorem q0d (x : SV) (k : Prop) : eqS x x k = k := by simp [eqS]
def kept (A : Ann) (c : Code) : List Nat :=
  match lkH A.keep c with
  | some K => K
  | none => []
def bkeys (n : Nat) (K : List Nat) : Fr -> List Nat
  | [] => []
  | (q, _) :: r => bif Nat.ble n q && !memN q K then q :: bkeys n K r else bkeys n K r
def bdrop (n : Nat) (K : List Nat) (fr : Fr) : Fr := tops (bkeys n K fr) fr
def eqK (fr fr' : Fr) : List Nat -> Prop -> Prop
  | [], k => k
  | q :: K, k => eqS (fget fr' q) (fget fr q) (eqK fr fr' K k)
def pureOp (fr : Fr) : Op -> Option SV
  | .move x | .assign x => match ev fr x with
    | .top => none
    | y => some y
  | .binOp op _ x y _ => match ev fr x, ev fr y with
    | .c (.i a), .c (.i b) => match op with
      | .eql => some (.c (.t (a == b)))
      | .neq => some (.c (.t (a != b)))
      | .lss => some (.c (.t (decide (a < b))))
      | .leq => some (.c (.t (decide (a <= b))))
      | .gtr => some (.c (.t (decide (a > b))))
      | .geq => some (.c (.t (decide (a ≥ b))))
      | _ => none
    | _, _ => none
  | _ => none
def pureOps (n : Nat) : List Oper -> Fr -> Option Fr
  | [], fr => some fr
  | o :: r, fr => bif dstOk n o.dst then
      match o.guard with
      | none => match pureOp fr o.op with
        | some x => pureOps n r (fput fr o.dst x)
        | none => none
      | some _ => none
    else none
def orB (A : Ann) (n t : Nat) : Code -> Fr -> Option Bool
  | .region _ ops false, fr => match pureOps n ops.toList fr with
    | some fr' => boolOf (fget fr' t)
    | none => none
  | .seq (.region _ ops false) (.cond (.tmp u) .skip c), fr =>
    match lkH A.cuts (.cond (.tmp u) .skip c) with
    | some _ => none
    | none => bif Nat.beq u t && memN t (mods c) then
        match pureOps n ops.toList fr with
        | some fr' => match boolOf (fget fr' t), orB A n t c fr' with
          | some x, some y => some (x || y)
          | _, _ => none
        | none => none
      else none
  | _, _ => none
def orT (A : Ann) (n : Nat) (c : Operand) (a b : Code) (fr : Fr) : Option (Nat × Bool) :=
  match c, a with
  | .tmp t, .skip => bif memN t (mods b) then
      match orB A n t b fr with
      | some y => some (t, y)
      | none => none
    else none
  | _, _ => none
def refine' (fr : Fr) (c : Operand) (v : SV) : Fr :=
  match c with
  | .tmp t => (t, v) :: fr
  | _ => fr
def vc (P : Program) (T : TT) (G : List Nat) (n : Nat) (A : Ann) : Code -> Fr -> Mem -> (Exit -> Fr -> Mem -> Prop) -> Prop
  | .skip, fr, m, Q => Q .normal fr m
  | .region id ops draw, fr, m, Q =>
    bif draw then
      match lk A.draws id with
      | some (pm, bm) => bif q2j bm ops.toList pm bm && apartOk ops.toList pm 0 ops.toList bm then
          vcDraw P T G n ops.toList pm bm ops.toList.length 0 fr m [] (Q .normal) else False
      | none => False
    else vcOps P T G n ops.toList ops.toList fr m (Q .normal)
  | .seq a b, fr, m, Q => match lkH A.cuts b with
    | none => vc P T G n A a fr m fun
      | .normal, fr', m' => vc P T G n A b fr' m' Q
      | e, fr', m' => Q e fr' m'
    | some l => bif slotsIn (mods a) l then ∃ K : LTy l, (vc P T G n A a fr m fun
        | .normal, fr', m' => eqK fr fr' (kept A b) (appI l K fr' m')
        | e, fr', m' => Q e fr' m') /\
      (allI l K (tops (mods a) (bdrop n (kept A b) fr)) fun fr' K' => ∀ m', K' m' -> vc P T G n A b fr' m' Q) else False
  | .cond c a b, fr, m, Q => match ev fr c with
    | .tt => vc P T G n A a fr m Q
    | .ff => vc P T G n A b fr m Q
    | .c (.t x) => match orT A n c a b fr with
      | some (t, y) => Q .normal ((t, .c (.t (x || y))) :: tops (mods b) fr) m
      | none => (x = true -> vc P T G n A a (refine' fr c .tt) m Q) /\ (x = false -> vc P T G n A b (refine' fr c .ff) m Q)
    | _ => False
  | .block id c, fr, m, Q => vc P T G n A c fr m fun
    | .exit i, fr', m' => bif Nat.beq i id then Q .normal fr' m' else Q (.exit i) fr' m'
    | e, fr', m' => Q e fr' m'
  | .loop c, fr, m, Q => match lkH A.loops c with
    | none => False
    | some l => bif slotsIn (mods c) l then ∃ (I : LTy l) (μ : MTy l), appI l I fr m /\
        (allM l I μ (tops (mods c) (bdrop n (kept A c) fr)) fun fr' I' μ' => ∀ m', I' m' -> vc P T G n A c fr' m' fun
          | .normal, fr'', m'' => eqK fr fr'' (kept A c) (appM l I μ fr'' m'' (μ' m'))
          | e, fr'', m'' => Q e fr'' m'') else False
  | .exit id, fr, m, Q => Q (.exit id) fr m
  | .ret, fr, m, Q => Q .ret fr m
  | _, _, _, _ => False
theorem Keep.mono {M M' : List Nat} {a b : Act} (h : Keep M a b) (hm : ∀ t ∈ M, t ∈ M') : Keep M' a b := fun t ht => h t fun h' => ht (hm t h')
theorem qeu : ∀ (M : List Nat) (fr : Fr) (t : Nat), (t ∈ M /\ fget (tops M fr) t = .top) \/ (t ∉ M /\ fget (tops M fr) t = fget fr t)
  | [], _, _ => Or.inr ⟨by simp, rfl⟩
  | u :: M, fr, t => by
    simp only [tops, fget]
    cases hb : Nat.beq u t
    · have hne : u ≠ t := fun e => by subst e; simp at hb
      rcases qeu M fr t with ⟨h1, h2⟩ | ⟨h1, h2⟩
      · exact Or.inl ⟨List.mem_cons_of_mem _ h1, h2⟩
      · exact Or.inr ⟨by simp only [List.mem_cons, not_or]; exact ⟨fun e => hne e.symm, h1⟩, h2⟩
    · have := Nat.eq_of_beq_eq_true hb
      subst this
      exact Or.inl ⟨List.mem_cons_self, rfl⟩
theorem qd7 {M : List Nat} {fr : Fr} {a a' : Act} (hR : Rel n fr a) (hn : a'.tmps.size = n) (hd : a'.defers = []) (hk : Keep M a a') : Rel n (tops M fr) a' := by
  refine ⟨hn, hd, fun t => ?_⟩
  rcases qeu M fr t with ⟨_, h⟩ | ⟨h1, h2⟩
  · rw [h]; trivial
  · rw [h2, hk t h1]; exact hR.at' t
theorem Rel.tops {fr : Fr} {a : Act} (hR : Rel n fr a) : ∀ (M : List Nat), Rel n (tops M fr) a
  | [] => hR
  | t :: M => (Rel.tops hR M).top t
theorem Bx.tops {fr : Fr} {m : Mem} (h : Bx n fr m) : ∀ (M : List Nat), Bx n (tops M fr) m
  | [] => h
  | t :: M => (Bx.tops h M).top (by simp)
theorem qpn {K : List Nat} {q : Nat} (hq : n <= q) (hK : q ∉ K) : ∀ {fr : Fr}, q ∈ bkeys n K fr \/ fget fr q = .top
  | [] => Or.inr rfl
  | (u, x) :: r => by
    simp only [bkeys, fget]
    cases hu : Nat.beq u q
    · rcases qpn hq hK (fr := r) with h | h
      · left
        cases (Nat.ble n u && !memN u K)
        · exact h
        · exact List.mem_cons_of_mem _ h
      · exact Or.inr h
    · have := Nat.eq_of_beq_eq_true hu
      subst this
      have hm : memN u K = false := by
        cases hmm : memN u K
        · rfl
        · exact absurd (qj3 hmm) hK
      have hb : Nat.ble n u = true := Nat.ble_eq_true_of_le hq
      simp [hm, hb]
theorem qm7 {fr fr' : Fr} : ∀ {K : List Nat} {k : Prop}, eqK fr fr' K k -> (∀ q ∈ K, fget fr' q = fget fr q) /\ k
  | [], k, h => ⟨by simp, h⟩
  | q :: K, k, h => by
    obtain ⟨h1, h2⟩ := qm7 h.2
    refine ⟨fun u hu => ?_, h2⟩
    rcases List.mem_cons.1 hu with rfl | hu
    · exact h.1
    · exact h1 u hu
theorem Bx.kept {K M : List Nat} {fr fr' : Fr} {m m' : Mem} (h : Bx n fr m) (h' : Bx n fr' m') (hK : ∀ q ∈ K, fget fr' q = fget fr q) : Bx n (Vc.tops M (bdrop n K fr)) m' := by
  have key : ∀ {q b e l}, boxAt (Vc.tops M (bdrop n K fr)) q b e l -> boxAt fr q b e l /\ boxAt fr' q b e l := by
    intro q b e l hb
    have e1 : fget (Vc.tops M (bdrop n K fr)) q = fget (bdrop n K fr) q \/ fget (Vc.tops M (bdrop n K fr)) q = .top := by
      rcases qeu M (bdrop n K fr) q with ⟨_, h⟩ | ⟨_, h⟩
      · exact Or.inr h
      · exact Or.inl h
    unfold boxAt at hb
    rcases e1 with e1 | e1
    · rw [e1] at hb
      unfold bdrop at hb
      rcases qeu (bkeys n K fr) fr q with ⟨_, h2⟩ | ⟨h1, h2⟩
      · rw [h2] at hb; simp at hb
      · rw [h2] at hb
        have hq : n <= q := h.key q b e l hb
        by_cases hqK : q ∈ K
        · refine ⟨hb, ?_⟩
          unfold boxAt
          rw [hK q hqK]
          exact hb
        · rcases qpn (n := n) hq hqK (fr := fr) with h3 | h3
          · exact absurd h3 h1
          · rw [h3] at hb; simp at hb
    · rw [e1] at hb; simp at hb
  exact ⟨fun q b e l hb => h'.blk q b e l (key hb).2, fun q q' b e l b' e' l' hne h1 h2 => h.dist q q' b e l b' e' l' hne (key h1).1 (key h2).1, fun q b e l hb => h.key q b e l (key hb).1⟩
theorem qss {s : Sh} {x : SV} {y : s.ty} (h : getS s x = some y) : x.known = true /\ x.v = (s.mk y).v := by
  unfold getS at h
  split at h <;> first | (simp at h; subst h; exact ⟨rfl, rfl⟩) | skip
  · split at h
    · rename_i hk; subst hk; simp at h; subst h; exact ⟨rfl, rfl⟩
    · simp at h
  · simp at h
theorem qmh {fr base : Fr} {a : Act} {t : Nat} {s : Sh} {y : s.ty} (hR : Rel n fr a) (hb : Rel n base a) (h : getS s (fget fr t) = some y) : Rel n ((t, .c (s.mk y)) :: base) a := by
  refine ⟨hb.size, hb.defers, fun u => ?_⟩
  simp only [fget]
  cases hbe : Nat.beq t u
  · exact hb.at' u
  · have := Nat.eq_of_beq_eq_true hbe
    subst this
    have h1 := hR.at' t
    obtain ⟨hk, hv⟩ := qss h
    have h2 := h1.eq hk
    show _ = _
    rw [h2, hv]; rfl
def Inst : (l : List (Nat × Sh)) -> LTy l -> MTy l -> Fr -> Fr -> (Mem -> Prop) -> (Mem -> Nat) -> Prop
  | [], I, μ, fr, fr', I', μ' => fr' = fr /\ I' = I /\ μ' = μ
  | (t, s) :: r, I, μ, fr, fr', I', μ' => ∃ x : s.ty, Inst r (I x) (μ x) ((t, .c (s.mk x)) :: fr) fr' I' μ'
theorem qpq : ∀ {l : List (Nat × Sh)} {I : LTy l} {μ : MTy l} {fr : Fr} {k : Fr -> (Mem -> Prop) -> (Mem -> Nat) -> Prop}, allM l I μ fr k -> ∀ {fr' I' μ'}, Inst l I μ fr fr' I' μ' -> k fr' I' μ'
  | [], _, _, _, _, h, _, _, _, hi => by obtain ⟨rfl, rfl, rfl⟩ := hi; exact h
  | (t, s) :: r, _, _, _, _, h, _, _, _, hi => by obtain ⟨x, hi⟩ := hi; exact qpq (h x) hi
theorem Sh.mk_ne (s : Sh) (x : s.ty) (b e : Nat) (l : List Ce) : SV.c (s.mk x) ≠ .box b e l /\ SV.c (s.mk x) ≠ .boxF b e l := ⟨by simp, by simp⟩
theorem qpt {a : Act} {fr'' : Fr} (hR : Rel n fr'' a) : ∀ {l : List (Nat × Sh)} {I : LTy l} {μ : MTy l} {base : Fr} {m : Mem} {N : Nat}, Rel n base a -> Bx n base m -> appM l I μ fr'' m N ->
    ∃ fr' I' μ', Inst l I μ base fr' I' μ' /\ Rel n fr' a /\ Bx n fr' m /\ I' m /\ μ' m < N
  | [], I, μ, base, _, _, hb, hB, h => ⟨base, I, μ, ⟨rfl, rfl, rfl⟩, hb, hB, h.1, h.2⟩
  | (t, s) :: r, I, μ, base, m, N, hb, hB, h => by
    simp only [appM] at h
    split at h
    · rename_i x hx
      obtain ⟨fr', I', μ', h1, h2, h3, h4⟩ := qpt hR (qmh hR hb hx) (hB.top (s.mk_ne x)) h
      exact ⟨fr', I', μ', ⟨x, h1⟩, h2, h3, h4⟩
    · exact h.elim
theorem qpf {a : Act} {fr'' : Fr} (hR : Rel n fr'' a) : ∀ {l : List (Nat × Sh)} {I : LTy l} {μ : MTy l} {base : Fr} {m : Mem}, Rel n base a -> Bx n base m -> appI l I fr'' m ->
    ∃ fr' I' μ', Inst l I μ base fr' I' μ' /\ Rel n fr' a /\ Bx n fr' m /\ I' m
  | [], I, μ, base, _, hb, hB, h => ⟨base, I, μ, ⟨rfl, rfl, rfl⟩, hb, hB, h⟩
  | (t, s) :: r, I, μ, base, m, hb, hB, h => by
    simp only [appI] at h
    split at h
    · rename_i x hx
      obtain ⟨fr', I', μ', h1, h2, h3⟩ := qpf hR (qmh hR hb hx) (hB.top (s.mk_ne x)) h
      exact ⟨fr', I', μ', ⟨x, h1⟩, h2, h3⟩
    · exact h.elim
theorem qqf {a : Act} {fr'' : Fr} (hR : Rel n fr'' a) : ∀ {l : List (Nat × Sh)} {I : LTy l} {base : Fr} {m : Mem} {k : Fr -> (Mem -> Prop) -> Prop}, Rel n base a -> Bx n base m -> appI l I fr'' m -> allI l I base k ->
    ∃ fr' I', k fr' I' /\ Rel n fr' a /\ Bx n fr' m /\ I' m
  | [], I, base, _, _, hb, hB, h, hk => ⟨base, I, hk, hb, hB, h⟩
  | (t, s) :: r, I, base, m, k, hb, hB, h, hk => by
    simp only [appI] at h
    split at h
    · rename_i x hx
      exact qqf hR (qmh hR hb hx) (hB.top (s.mk_ne x)) h (hk x)
    · exact h.elim
theorem qsv {c : Code} {Q : Exit -> Act -> World -> Prop} (Inv : Nat -> Act -> World -> Prop)
    (round : ∀ N a w, Inv N a w -> c.wp P (Exit.then (fun a' w' => ∃ N', N' < N /\ Inv N' a' w') Q) a w) : ∀ N a w, Inv N a w -> (Code.loop c).wp P Q a w := by
  have hmin : ∀ N a w, Inv N a w -> ∃ M, Inv M a w /\ ∀ M', M' < M -> ¬ Inv M' a w := by
    intro N
    induction N using Nat.strongRecOn with
    | _ N ih =>
      intro a w h
      by_cases hx : ∃ M', M' < N /\ Inv M' a w
      · obtain ⟨M', h1, h2⟩ := hx
        exact ih M' h1 a w h2
      · exact ⟨N, h, fun M' hM' hi => hx ⟨M', hM', hi⟩⟩
  intro N a w hN
  classical
  let μ : Act -> World -> Nat := fun a w => if h : ∃ M, Inv M a w /\ ∀ M', M' < M -> ¬ Inv M' a w then Classical.choose h else 0
  have hμ : ∀ a w N, Inv N a w -> Inv (μ a w) a w /\ μ a w <= N := by
    intro a w N h
    have hex := hmin N a w h
    have e : μ a w = Classical.choose hex := dif_pos hex
    have hs := Classical.choose_spec hex
    rw [e]
    refine ⟨hs.1, ?_⟩
    rcases Nat.lt_or_ge N (Classical.choose hex) with hlt | hge
    · exact absurd h (hs.2 N hlt)
    · exact hge
  refine wp_loop (fun a w => ∃ N, Inv N a w) μ ⟨N, hN⟩ ?_
  rintro a w ⟨N, h⟩
  refine Code.wp_mono ?_ (round (μ a w) a w (hμ a w N h).1)
  intro e a' w' hq
  cases e with
  | normal =>
    obtain ⟨N', hlt, hi⟩ := hq
    exact ⟨⟨N', hi⟩, Nat.lt_of_le_of_lt (hμ a' w' N' hi).2 hlt⟩
  | _ => exact hq
end Go.Vc
end
