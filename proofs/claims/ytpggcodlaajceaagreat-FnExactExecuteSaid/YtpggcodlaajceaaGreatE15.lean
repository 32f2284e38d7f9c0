/- Part of a proof, joined by a program: Op1 Op2. -/
import Derived.Carry
import Derived.ChangeSame
import Derived.Deep.Slices
import Derived.OpenShut
import Derived.RowKit
import Derived.Test.YtpggcodlaajceaaGreatE02
import Derived.Test.YtpggcodlaajceaaGreatE09
section
/- The arguments' readings opened into plain data; a law's row closed. -/
namespace Go.Vc
open Go.ChangeShapes Go.WideShapes Go.RowKit
section
variable {H : Type} {enc : TypeId × Value -> H} {P : Program} {w : World}
def Reads (enc : TypeId × Value -> H) (P : Program) (w : World) (t : TypeId) (Q : List Ce -> Prop) : Prop :=
  ∀ (n : Nat) (cs : List Value) (x : DataW H × List MemPlace), DataW.trod enc P w 0 (fun _ => true) true n t cs = some x -> ∃ cs', cs = cs'.map Ce.v /\ Q cs'
theorem Reads.mono {t : TypeId} {Q Q' : List Ce -> Prop} (h : Reads enc P w t Q) (hQ : ∀ cs, Q cs -> Q' cs) : Reads enc P w t Q' := fun n cs x hx =>
  let ⟨cs', h1, h2⟩ := h n cs x hx
  ⟨cs', h1, hQ _ h2⟩
theorem qou {t : TypeId} (ht : P.underlying t = some (.int .i64)) : Reads enc P w t (fun cs => ∃ k, IntR cs k) := by
  intro n cs x h
  cases n with
  | zero => simp [DataW.trod] at h
  | succ n =>
    unfold DataW.trod at h
    rw [ht] at h
    split at h <;> simp_all
    rename_i k hk
    subst hk
    exact ⟨[.i k], rfl, k, rfl⟩
theorem qs4 {a : Addr} {v : Value} (h : w.cell? a = some v) : a.spot = none := by
  unfold World.cell? at h
  split at h
  · split at h
    · cases h
    · rename_i hs
      simpa using hs
  · cases h
theorem qs3 {a : Addr} (h : a.spot = none) (i : Nat) : a.add i = ⟨a.block, a.off + i, none⟩ := by
  obtain ⟨b, o, s⟩ := a
  simp only at h
  subst h
  unfold Addr.add
  by_cases hi : i = 0
  · subst hi; simp
  · simp [hi]
theorem qqr {α : Type} {t e : TypeId} {sz : Nat} {R : List Ce -> α -> Prop} (ht : P.underlying t = some (.slice e)) (hc : P.cellsOf e = sz) (hz : 0 < sz)
    (hE : Reads enc P w e (fun cs => ∃ a, R cs a)) : Reads enc P w t (fun cs => ∃ s l, cs = [.s s] /\ SlOf w.heap sz R s l) := by
  intro n cs x h
  rcases Go.Deep.open_slice ht h with ⟨rfl, _⟩ | ⟨a, len, cap, m, n, D, Pl, rfl, _, hl, hm, hmm, _, hx⟩
  · exact ⟨[.s .nil], rfl, .nil, [], rfl, ⟨rfl, Nat.le_refl _, by simp, fun k x hk => by simp at hk⟩⟩
  simp only [if_true] at hmm
  subst hmm
  rw [hc] at hx
  by_cases h0 : m = 0
  · subst h0
    have : len = 0 := by omega
    subst this
    obtain ⟨b, o, s⟩ := a
    cases s with
    | none => exact ⟨[.s (.mk b o 0 0)], rfl, .mk b o 0 0, [], rfl, ⟨rfl, Nat.le_refl _, by simp, fun k x hk => by simp at hk⟩⟩
    | some sp => exact ⟨[.s (.emp b o sp)], rfl, .emp b o sp, [], rfl, ⟨rfl, Nat.le_refl _, by simp, fun k x hk => by simp at hk⟩⟩
  have hsp : a.spot = none := by
    obtain ⟨cs', h1, _⟩ := hx 0 (by omega)
    obtain ⟨_, hlen, hcell⟩ := World.cells?_some h1
    have := hcell 0 hz
    cases cs' with
    | nil => simp at hlen; omega
    | cons c r =>
      have hs := qs4 (by rw [this]; rfl)
      rw [Go.Deep.add_add] at hs
      simpa [Addr.add] using hs
  have one : ∀ i, i < m -> ∃ cs' v, R cs' v /\ rowIs w.heap a.block (a.off + i * sz) cs' := fun i hi => by
    obtain ⟨cv, h1, h2⟩ := hx i hi
    obtain ⟨cs', rfl, v, hv⟩ := hE _ _ _ h2
    refine ⟨cs', v, hv, fun j c hj => ?_⟩
    obtain ⟨_, hlen, hcell⟩ := World.cells?_some h1
    have hj' : j < sz := by rw [← hlen]; simpa using q03 hj
    have := hcell j hj'
    rw [Go.Deep.add_add, qs3 hsp, cell?_eq] at this
    rw [Nat.add_assoc, this]
    simp [hj]
  have two : ∀ i, ∃ v, i < m -> ∃ cs', R cs' v /\ rowIs w.heap a.block (a.off + i * sz) cs' := fun i => by
    by_cases hi : i < m
    · obtain ⟨cs', v, h1, h2⟩ := one i hi
      exact ⟨v, fun _ => ⟨cs', h1, h2⟩⟩
    · obtain ⟨cs', v, _, _⟩ := one 0 (by omega)
      exact ⟨v, fun h => absurd h hi⟩
  obtain ⟨f, hf⟩ := Classical.axiomOfChoice two
  have hml : m <= 9223372036854775807 := Nat.le_trans hm (by decide)
  refine ⟨[.s (.mk a.block a.off len m)], ?_, .mk a.block a.off len m, (List.range len).map f, rfl, ⟨by simp, hl, by simp; omega, fun k x hk => ?_⟩⟩
  · obtain ⟨b, o, s⟩ := a
    simp only at hsp
    subst hsp
    rfl
  · have hk' : k < len := by simpa using q03 hk
    rw [List.getElem?_map, List.getElem?_range hk'] at hk
    simp at hk
    subst hk
    exact hf k (by omega)
def Fields1 (P : Program) : Nat -> List Field -> Prop
  | _, [] => True
  | i, f :: fs => f.offset = i /\ P.cellsOf f.type = 1 /\ Fields1 P (i + 1) fs
def ReadsAll (enc : TypeId × Value -> H) (P : Program) (w : World) : List Field -> (List Ce -> Prop) -> Prop
  | [], Q => Q []
  | f :: fs, Q => ∃ q : Ce -> Prop, Reads enc P w f.type (fun cs => ∃ c, cs = [c] /\ q c) /\ ∀ c, q c -> ReadsAll enc P w fs (fun cs => Q (c :: cs))
theorem qlj {n : Nat} : ∀ (fs : List Field) (i : Nat) (all cs : List Value) (Q : List Ce -> Prop), Fields1 P i fs -> all.drop i = cs -> cs.length = fs.length ->
    (∀ f ∈ fs, ∃ x, DataW.trod enc P w 0 (fun _ => true) true n f.type ((all.drop f.offset).take (P.cellsOf f.type)) = some x) -> ReadsAll enc P w fs Q -> ∃ cs', cs = cs'.map Ce.v /\ Q cs'
  | [], i, all, cs, Q, _, _, hl, _, hQ => by
    cases cs with
    | nil => exact ⟨[], rfl, hQ⟩
    | cons c r => simp at hl
  | f :: fs, i, all, cs, Q, hF, hd, hl, hr, ⟨q, h1, h2⟩ => by
    cases cs with
    | nil => simp at hl
    | cons c r =>
      obtain ⟨hi, hc, hF'⟩ := hF
      obtain ⟨x, hx⟩ := hr f (by simp)
      rw [hc, hi, hd] at hx
      simp only [List.take_succ_cons, List.take_zero] at hx
      obtain ⟨cs', e, c', rfl, hq⟩ := h1 _ _ _ hx
      obtain ⟨cs2, e2, hQ⟩ := qlj fs (i + 1) all r _ hF' (by rw [← List.drop_drop, hd]; simp) (by simpa using hl) (fun g hg => hr g (by simp [hg])) (h2 c' hq)
      refine ⟨c' :: cs2, ?_, hQ⟩
      simp at e
      simp [e, ← e2]
theorem qq7 {t : TypeId} {fs : Array Field} {Q : List Ce -> Prop} (ht : P.underlying t = some (.struct fs)) (hc : P.cellsOf t = fs.size) (h1 : Fields1 P 0 fs.toList) (h2 : ReadsAll enc P w fs.toList Q) : Reads enc P w t Q := by
  intro n cs x h
  obtain ⟨xs, k, _, _, hl, hxl, hf⟩ := DataW.trod_struct ht h
  refine qlj (n := k) fs.toList 0 cs cs Q h1 rfl (by rw [hl, hc]; simp) (fun f hf' => ?_) h2
  obtain ⟨i, hi⟩ := List.mem_iff_getElem?.1 hf'
  have hi' : fs[i]? = some f := by simpa using hi
  have := hf i f hi'
  rw [this]
  have hlt : i < xs.length := by rw [hxl]; exact (Array.getElem?_eq_some_iff.1 hi').1
  exact ⟨xs[i], by simp [hlt]⟩
def structIs (P : Program) (t : TypeId) (ts : List TypeId) : Bool :=
  match P.underlying t with
  | some (.struct fs) => decide (fs.toList.map (fun f => (f.type, f.offset)) = ts.zip (List.range ts.length)) && decide (fs.size = ts.length) && (ts.all fun t => decide (P.cellsOf t = 1)) && decide (P.cellsOf t = ts.length)
  | _ => false
def ReadsTs (enc : TypeId × Value -> H) (P : Program) (w : World) : List TypeId -> (List Ce -> Prop) -> Prop
  | [], Q => Q []
  | t :: ts, Q => ∃ q : Ce -> Prop, Reads enc P w t (fun cs => ∃ c, cs = [c] /\ q c) /\ ∀ c, q c -> ReadsTs enc P w ts (fun cs => Q (c :: cs))
theorem ql9 : ∀ (fs : List Field) (Q : List Ce -> Prop), ReadsTs enc P w (fs.map (·.type)) Q -> ReadsAll enc P w fs Q
  | [], _, h => h
  | _ :: fs, _, ⟨q, h1, h2⟩ => ⟨q, h1, fun c hc => ql9 fs _ (h2 c hc)⟩
theorem qni : ∀ (fs : List Field) (ts : List TypeId) (i : Nat), fs.map (fun f => (f.type, f.offset)) = ts.zip (List.range' i ts.length) -> (∀ t ∈ ts, P.cellsOf t = 1) -> fs.length = ts.length -> Fields1 P i fs /\ fs.map (·.type) = ts
  | [], [], _, _, _, _ => ⟨trivial, rfl⟩
  | [], _ :: _, _, _, _, h => by simp at h
  | _ :: _, [], _, _, _, h => by simp at h
  | f :: fs, t :: ts, i, h, hc, hl => by
    simp only [List.map_cons, List.length_cons, List.range'_succ, List.zip_cons_cons, List.cons.injEq, Prod.mk.injEq] at h
    obtain ⟨⟨h1, h2⟩, h3⟩ := h
    obtain ⟨k1, k2⟩ := qni fs ts (i + 1) h3 (fun u hu => hc u (by simp [hu])) (by simpa using hl)
    exact ⟨⟨h2, by rw [h1]; exact hc t (by simp), k1⟩, by simp [h1, k2]⟩
theorem q4l {t : TypeId} {ts : List TypeId} {Q : List Ce -> Prop} (ht : structIs P t ts = true) (h : ReadsTs enc P w ts Q) : Reads enc P w t Q := by
  unfold structIs at ht
  split at ht
  · rename_i fs hu
    simp only [Bool.and_eq_true, decide_eq_true_eq, List.all_eq_true] at ht
    obtain ⟨⟨⟨h1, h2⟩, h3⟩, h4⟩ := ht
    rw [List.range_eq_range'] at h1
    obtain ⟨k1, k2⟩ := qni (P := P) fs.toList ts 0 h1 h3 (by simpa using h2)
    exact qq7 hu (by rw [h4, h2]) k1 (ql9 _ _ (by rw [k2]; exact h))
  · cases ht
theorem qs5 {t : TypeId} {ts : List TypeId} {Q : List Ce -> Prop} {b : Nat} {v : Value} {d : DataW H} {p : List MemPlace} (ht : structIs P t ts = true) (hv : Value.okWide P w .any b t v) (hr : Reads enc P w t Q)
    (h : DataW.Trod enc P w 0 (fun _ => true) true t v d p) : ∃ cs, v = .agg (cs.map Ce.v).toArray /\ Q cs := by
  unfold structIs at ht
  split at ht
  · rename_i fs hu
    unfold Value.okWide at hv
    rw [hu] at hv
    obtain ⟨cs, rfl, _, _⟩ := hv
    obtain ⟨n, hn⟩ := h
    obtain ⟨cs', e, hQ⟩ := hr _ _ _ hn
    refine ⟨cs', ?_, hQ⟩
    simp only [Value.cells] at e
    rw [← e]
  · cases ht
theorem qqi {t : TypeId} {b : Nat} {v : Value} {d : DataW H} {p : List MemPlace} (ht : P.underlying t = some (.int .i64)) (hv : Value.okWide P w .any b t v)
    (h : DataW.Trod enc P w 0 (fun _ => true) true t v d p) : ∃ k, v = vi k := by
  obtain ⟨a, rfl, _⟩ := open_int ht hv h
  exact ⟨a, rfl⟩
theorem qrg {t : TypeId} (ht : P.underlying t = some (.int .i64)) : Reads enc P w t (fun cs => ∃ c, cs = [c] /\ ∃ k, c = .i k) :=
  (qou ht).mono fun _ ⟨k, h⟩ => ⟨.i k, h, k, rfl⟩
theorem q5c {α : Type} {t e : TypeId} {sz : Nat} {R : List Ce -> α -> Prop} (ht : P.underlying t = some (.slice e)) (hc : P.cellsOf e = sz) (hz : 0 < sz)
    (hE : Reads enc P w e (fun cs => ∃ a, R cs a)) : Reads enc P w t (fun cs => ∃ c, cs = [c] /\ ∃ s l, c = .s s /\ SlOf w.heap sz R s l) :=
  (qqr ht hc hz hE).mono fun _ ⟨s, l, h1, h2⟩ => ⟨.s s, h1, s, l, rfl, h2⟩
end
section
variable {H : Type} {enc : TypeId × Value -> H} {P : Program}
theorem qhf (hl : laidOutB P = true) {W W' : World} (hb : Below W.heap.size W W') : ∀ {ts : List TypeId} {vs : List Value} {ds : List (DataW H)} {ps : List MemPlace},
    (ts.all fun t => P.readableRec t && decide (t < P.types.size)) = true -> DataW.TrodAll enc P W 0 (fun _ => true) true ts vs ds ps -> (∀ x ∈ ps, x.block < W.heap.size) -> ∀ sp : Nat -> Bool, (∀ p ∈ ps, sp p.block = true) ->
    DataW.TrodAll enc P W' 0 sp true ts vs ds ps
  | [], _, _, _, _, h, _, _, _ => by
    obtain ⟨rfl, rfl, rfl⟩ := trodAll_nil h
    exact trodAll_mk0
  | t :: ts, _, _, _, ht, h, hlt, sp, hsp => by
    obtain ⟨v, vs, d, ds, p, q, rfl, rfl, rfl, h1, h2⟩ := trodAll_cons h
    simp only [List.all_cons, Bool.and_eq_true, decide_eq_true_eq] at ht
    exact ⟨p, q, WideElems.Trod_stays hl ht.1.1 ht.1.2 h1 (fun x hx => hb.same (hlt x (by simp [hx]))) (fun x hx => hsp x (by simp [hx])), qhf hl hb (by simpa using ht.2) h2 (fun x hx => hlt x (by simp [hx])) sp (fun x hx => hsp x (by simp [hx])), rfl⟩
theorem qph {f : Func} {s : ChangeSpec} {W W' : World} {args : Array Value} {ds : List (DataW H)} {before : List MemPlace} {t : TypeId}
    (hl : laidOutB P = true) (hts : (f.params.toList.all fun t => P.readableRec t && decide (t < P.types.size)) = true) (hrt : f.resultTypes = #[t]) (hbool : P.underlying t = some .bool) (hvs : s.vars = [])
    (hW : DataW.Whole enc P f.params.toList s.vars false W args.toList ds [] before) (hfa : (s.fn H (ds ++ [])).args = ds) (hfr : (s.fn H (ds ++ [])).results = [.lit (.bool true)]) (hfv : (s.fn H (ds ++ [])).vars = [])
    (hb : Below W.heap.size W W') : s.post enc P f false true false false W args (.bool true) W' := by
  have hlt : ∀ p ∈ before, p.block < W.heap.size := fun p hp => by simpa using hW.lt p hp
  have hW2 := hW
  obtain ⟨p, q, hA, hV, rfl, hz, hn⟩ := hW
  rw [hvs] at hV
  obtain ⟨_, rfl⟩ := trodVars_none hV
  simp only [List.append_nil] at hlt hz hW2
  have hargs : ∀ sp : Nat -> Bool, (∀ x ∈ p, sp x.block = true) -> DataW.TrodAll enc P W' 0 sp true f.params.toList args.toList (s.fn H (ds ++ [])).args p := fun sp hsp => by
    rw [hfa]; exact qhf hl hb hts hA hlt sp hsp
  have hvars : ∀ sp : Nat -> Bool, DataW.TrodVars enc P W' sp s.vars (s.fn H (ds ++ [])).vars [] := fun sp => by rw [hvs, hfv]; rfl
  have hres : ∀ (b : Nat) (sp : Nat -> Bool) (hd : Bool), DataW.TrodAll enc P W' b sp hd f.resultTypes.toList ((Value.bool true).resultList f.resultTypes.size) (s.fn H (ds ++ [])).results [] := fun b sp hd => by
    rw [hfr, hrt]
    exact trodAll_cons_mk (shut_bool hbool _) trodAll_mk0
  refine ⟨ds, [], p, [], p, [], hW2, hres _ _ _, hargs _ (fun x hx => by simpa using hlt x hx), hvars _, hb.frame _, fun _ => ?_⟩
  refine ⟨ok_one hrt rfl (okWide_bool_mk hbool _), _, _, ([] ++ p) ++ [], ⟨[] ++ p, [], trodAll_append (hargs _ (fun _ _ => rfl)) (hres _ _ _), hvars _, rfl, ?_, fun h => by cases h⟩, ?_⟩
  · intro b off hp
    have hp' : MemPlace.cell b off ∈ p := by simpa using hp
    rw [hb.frozen (p := ⟨b, off, none⟩) (hlt _ hp')]
    exact hz b off hp'
  · intro x hx _
    simpa using hx
end
end Go.Vc
end
section
/- The laws' types, read. Printed by a program: the numbers are the types' numbers of this program. -/
set_option maxRecDepth 100000
namespace Go.Proofs.YtpggcodlaajceaaGreat
open Go.Vc
section
variable {H : Type} {enc : TypeId × Value -> H} {w : World}
theorem qt0 : Tryz.prog.underlying 3 = some (.int .i64) := by kernel_rfl
theorem rd_int : Reads enc Tryz.prog w 3 (fun cs => ∃ k, IntR cs k) := qou (by kernel_rfl)
theorem q7j : Reads enc Tryz.prog w 3 (fun cs => ∃ c, cs = [c] /\ ∃ k, c = .i k) := qrg (by kernel_rfl)
theorem qfs : Reads enc Tryz.prog w 27 (fun cs => ∃ c, cs = [c] /\ ∃ s l, c = .s s /\ IntSl w.heap s l) := q5c (by kernel_rfl) (by kernel_rfl) (by decide) rd_int
theorem st_Con : structIs Tryz.prog 222 [27] = true := by kernel_rfl
theorem rd_Con : Reads enc Tryz.prog w 222 (fun cs => ∃ a, ConR w.heap cs a) := by
  refine q4l st_Con ?_
  refine ⟨_, qfs, ?_⟩
  rintro _ ⟨x0, l0, rfl, h0⟩
  exact ⟨l0, x0, rfl, h0⟩
theorem qsu : Reads enc Tryz.prog w 107 (fun cs => ∃ c, cs = [c] /\ ∃ s l, c = .s s /\ SlOf w.heap 1 (ConR w.heap) s l) := q5c (by kernel_rfl) (by kernel_rfl) (by decide) rd_Con
theorem qsy : structIs Tryz.prog 109 [3, 3, 107] = true := by kernel_rfl
theorem qst : Reads enc Tryz.prog w 109 (fun cs => ∃ a, DeclR w.heap cs a) := by
  refine q4l qsy ?_
  refine ⟨_, q7j, ?_⟩
  rintro _ ⟨x0, rfl⟩
  refine ⟨_, q7j, ?_⟩
  rintro _ ⟨x1, rfl⟩
  refine ⟨_, qsu, ?_⟩
  rintro _ ⟨x2, l2, rfl, h2⟩
  exact ⟨⟨x0, x1, l2⟩, x2, rfl, h2⟩
theorem qsp : Reads enc Tryz.prog w 22 (fun cs => ∃ c, cs = [c] /\ ∃ s l, c = .s s /\ SlOf w.heap 3 (DeclR w.heap) s l) := q5c (by kernel_rfl) (by kernel_rfl) (by decide) qst
theorem qse : structIs Tryz.prog 224 [3, 3, 3, 3, 27, 27] = true := by kernel_rfl
theorem qsi : Reads enc Tryz.prog w 224 (fun cs => ∃ a, InstrR w.heap cs a) := by
  refine q4l qse ?_
  refine ⟨_, q7j, ?_⟩
  rintro _ ⟨x0, rfl⟩
  refine ⟨_, q7j, ?_⟩
  rintro _ ⟨x1, rfl⟩
  refine ⟨_, q7j, ?_⟩
  rintro _ ⟨x2, rfl⟩
  refine ⟨_, q7j, ?_⟩
  rintro _ ⟨x3, rfl⟩
  refine ⟨_, qfs, ?_⟩
  rintro _ ⟨x4, l4, rfl, h4⟩
  refine ⟨_, qfs, ?_⟩
  rintro _ ⟨x5, l5, rfl, h5⟩
  exact ⟨⟨x0, x1, x2, x3, l4, l5⟩, x4, x5, rfl, h4, h5⟩
theorem qrz : Reads enc Tryz.prog w 111 (fun cs => ∃ c, cs = [c] /\ ∃ s l, c = .s s /\ SlOf w.heap 6 (InstrR w.heap) s l) := q5c (by kernel_rfl) (by kernel_rfl) (by decide) qsi
theorem qsx : structIs Tryz.prog 113 [27, 27, 3, 3, 111] = true := by kernel_rfl
theorem qss : Reads enc Tryz.prog w 113 (fun cs => ∃ a, ProcR w.heap cs a) := by
  refine q4l qsx ?_
  refine ⟨_, qfs, ?_⟩
  rintro _ ⟨x0, l0, rfl, h0⟩
  refine ⟨_, qfs, ?_⟩
  rintro _ ⟨x1, l1, rfl, h1⟩
  refine ⟨_, q7j, ?_⟩
  rintro _ ⟨x2, rfl⟩
  refine ⟨_, q7j, ?_⟩
  rintro _ ⟨x3, rfl⟩
  refine ⟨_, qrz, ?_⟩
  rintro _ ⟨x4, l4, rfl, h4⟩
  exact ⟨⟨l0, l1, x2, x3, l4⟩, x0, x1, x4, rfl, h0, h1, h4⟩
theorem qsd : Reads enc Tryz.prog w 23 (fun cs => ∃ c, cs = [c] /\ ∃ s l, c = .s s /\ SlOf w.heap 5 (ProcR w.heap) s l) := q5c (by kernel_rfl) (by kernel_rfl) (by decide) qss
theorem qqc : structIs Tryz.prog 25 [22, 23] = true := by kernel_rfl
theorem qsm : Reads enc Tryz.prog w 25 (fun cs => ∃ d p im, cs = [.s d, .s p] /\ ImageR w.heap d p im) := by
  refine q4l qqc ?_
  refine ⟨_, qsp, ?_⟩
  rintro _ ⟨x0, l0, rfl, h0⟩
  refine ⟨_, qsd, ?_⟩
  rintro _ ⟨x1, l1, rfl, h1⟩
  exact ⟨x0, x1, ⟨l0, l1⟩, rfl, h0, h1⟩
theorem qsj {b : Nat} {v : Value} {d : DataW H} {ps : List MemPlace} (hv : Value.okWide Tryz.prog w .any b 25 v) (h : DataW.Trod enc Tryz.prog w 0 (fun _ => true) true 25 v d ps) :
    ∃ q p im, v = .agg #[Sl.v q, Sl.v p] /\ ImageR w.heap q p im := by
  obtain ⟨cs, rfl, q, p, im, rfl, hi⟩ := qs5 (P := Tryz.prog) (w := w) (enc := enc) (b := b) (v := v) (d := d) (p := ps) qqc hv qsm h
  exact ⟨q, p, im, rfl, hi⟩
theorem op_int {b : Nat} {v : Value} {d : DataW H} {ps : List MemPlace} (hv : Value.okWide Tryz.prog w .any b 3 v) (h : DataW.Trod enc Tryz.prog w 0 (fun _ => true) true 3 v d ps) : ∃ k, v = vi k :=
  qqi (P := Tryz.prog) (w := w) (enc := enc) (b := b) (v := v) (d := d) (p := ps) (t := 3) qt0 hv h
end
end Go.Proofs.YtpggcodlaajceaaGreat
end
