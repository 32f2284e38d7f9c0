/- FnNeededCells: for every input that can be read, the law's call returns true and leaves its arguments as they were. No condition. -/
import Derived.OpenShut
import Derived.ProofKit
import Derived.Test.YtdalfjkmdekijaaGreatRows
import Derived.WalkKit
import Derived.Test.YtdalfjkmdekijaaGreatUN05
namespace Go.Proofs.YtdalfjkmdekijaaGreat.fnNeededCells
open Go.ChangeShapes Go.WideShapes Go.ChangeAt Go.RowKit Go.Vc
set_option linter.unusedVariables false
set_option maxRecDepth 100000
theorem bg:ownKnob Tryz.prog.godebug=none:=by kernel_rfl
theorem laidOut:laidOutB Tryz.prog=true:=by kernel_rfl
theorem SL{W W':World}(hs:oI W W')(hx:J W.heap W'.heap):Below W.heap.size W W':=⟨hs.os,hs.tape,hs.output,hx.size,hx.same⟩
theorem P3(H:Type)(enc:TypeId×Value->H)(W:World)(cL:Nat)(args:Array Value)(ds gs:List (DataW H))(before:List MemPlace)
    (hval:∀(j:Nat) t v,Tryz.f3.params[j]? =some t->args[j]? =some v->Value.okWide Tryz.prog W .any cL t v)
    (hW:DataW.Whole enc Tryz.prog Tryz.f3.params.toList Rows.fnNeededCellsSpec.vars false W args.toList ds gs before):
    Calls Tryz.prog 3 args W fun e W'=>∃v,e=.returned v/\Rows.fnNeededCellsSpec.post enc Tryz.prog Tryz.f3 false true false false W args v W':=by
  have hW':=hW
  obtain⟨p,q,hA0,hV,rfl,hfz,hnd⟩:=hW
  have hA:DataW.TrodAll enc Tryz.prog W 0 (fun _=>true) true Tryz.f3.params.toList args.toList ds p:=hA0
  rw[Tryz.params3]at hA hval
  obtain⟨v0,d0,rfl,rfl,h0⟩:=trodAll_one hA
  obtain⟨rfl,rfl⟩:=trodVars_none hV
  obtain⟨x,rfl,hb⟩:=RS (t:=PB) (e:=Ud) (by kernel_rfl) (by kernel_rfl) (by kernel_rfl) (hval 0 PB v0 rfl rfl) h0
  refine(xK hb W rfl).mono fun e W' ⟨v,he,hs,hv,hx⟩=>?_
  subst he hv
  exact⟨_,rfl,LY (t:=4) laidOut (by kernel_rfl) (by kernel_rfl) (by kernel_rfl) rfl hW' rfl rfl rfl (SL hs hx)⟩
theorem TB(os:Os)(started:os.Started)(H:Type)(enc:TypeId×Value->H):
    ReturnsInHanded {} Tryz.checked os 3 .any (Rows.fnNeededCellsSpec.pre6 enc Tryz.prog Tryz.f3 Rows.fnNeededCellsRow.domain false) (Rows.fnNeededCellsSpec.post enc Tryz.prog Tryz.f3 false true false false):=by
  refine returnsInHanded_of_change (C:=Tryz.checked) bg started (by kernel_rfl) Tryz.func3
    (ChangeSpec.witness6 (enc:=enc) (C:=Tryz.checked) false ⟨#[],#[.slice none 0 0],[]⟩ 8 (by kernel_rfl) (by kernel_rfl) (by kernel_rfl) (by kernel_rfl) (by kernel_rfl)) ?_
  intro W cL args ds gs before hval hW _ _
  exact P3 H enc W cL args ds gs before hval hW
theorem XO:(Rows.fnNeededCellsRow.inPlace==Tryz.prog.inPlace 3)=true:=by kernel_rfl
theorem XQ:(Rows.fnNeededCellsRow.unfollowed==Tryz.prog.unfollowed 3)=true:=by kernel_rfl
theorem XR:(Rows.fnNeededCellsRow.recurses==Tryz.prog.recurses 3)=true:=by kernel_rfl
theorem XS:(Rows.fnNeededCellsRow.named==Tryz.prog.varsNamed 3)=true:=by kernel_rfl
theorem SX:joinedFacts Tryz.prog 3 Tryz.f3 Rows.fnNeededCellsSpec Rows.fnNeededCellsRow=true:=by
  unfold joinedFacts
  rw[XO,XQ,XR,XS,laidOut]
  kernel_rfl
theorem WV:Rows.fnNeededCellsRow.holds Tryz.pinned (OpenSpec.ofChange Rows.fnNeededCellsSpec):=
  OpenClaim.holds_of_wide 3 Tryz.f3 rfl rfl rfl rfl rfl rfl rfl ⟨rfl,rfl,rfl,rfl,rfl⟩ rfl rfl rfl rfl rfl (by kernel_rfl) Tryz.func3 SX
    (of_decide_eq_true (by kernel_rfl)) (by unfold Func.isWrapper;first|(rw[ao (by decide+kernel)];kernel_rfl)|(rw[ae (by decide+kernel)];exact⟨rfl,rfl⟩))
    (fun os started H enc _=>TB os started H enc)
theorem Yw:Rows.FnNeededCellsSaid:=WV
end Go.Proofs.YtdalfjkmdekijaaGreat.fnNeededCells
