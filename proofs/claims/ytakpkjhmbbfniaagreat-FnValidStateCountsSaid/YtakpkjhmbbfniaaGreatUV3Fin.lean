/- FnValidStateCounts: for every input that can be read, the law's call returns true and leaves its arguments as they were. No condition. -/
import Derived.OpenShut
import Derived.ProofKit
import Derived.Test.YtakpkjhmbbfniaaGreatRows
import Derived.WalkKit
import Derived.Test.YtakpkjhmbbfniaaGreatU17
namespace Go.Proofs.YtakpkjhmbbfniaaGreat.fnValidStateCounts
open Go.ChangeShapes Go.WideShapes Go.ChangeAt Go.RowKit Go.Vc
set_option linter.unusedVariables false
set_option maxRecDepth 100000
theorem aV:ownKnob Tryz.prog.godebug=none:=by kernel_rfl
theorem laidOut:laidOutB Tryz.prog=true:=by kernel_rfl
theorem HW{W W':World}(hs:nl W W')(hx:J W.heap W'.heap):Below W.heap.size W W':=⟨hs.os,hs.tape,hs.output,hx.size,hx.same⟩
theorem Pw(H:Type)(enc:TypeId×Value->H)(W:World)(cF:Nat)(args:Array Value)(ds gs:List (DataW H))(before:List MemPlace)
    (hval:∀(j:Nat) t v,Tryz.f5.params[j]? =some t->args[j]? =some v->Value.okWide Tryz.prog W .any cF t v)
    (hW:DataW.Whole enc Tryz.prog Tryz.f5.params.toList Rows.fnValidStateCountsSpec.vars false W args.toList ds gs before):
    Calls Tryz.prog 5 args W fun e W'=>∃v,e=.returned v/\Rows.fnValidStateCountsSpec.post enc Tryz.prog Tryz.f5 false true false false W args v W':=by
  have hW':=hW
  obtain⟨p,q,hA0,hV,rfl,hfz,hnd⟩:=hW
  have hA:DataW.TrodAll enc Tryz.prog W 0 (fun _=>true) true Tryz.f5.params.toList args.toList ds p:=hA0
  rw[Tryz.params5]at hA hval
  obtain⟨v0,d0,rfl,rfl,h0⟩:=trodAll_one hA
  obtain⟨rfl,rfl⟩:=trodVars_none hV
  obtain⟨x,rfl,hb⟩:=KG (t:=Em) (e:=Np) (by kernel_rfl) (by kernel_rfl) (by kernel_rfl) (hval 0 Em v0 rfl rfl) h0
  refine(qZ hb W rfl).mono fun e W' ⟨v,he,hs,hv,hx⟩=>?_
  subst he hv
  exact⟨_,rfl,AM (t:=4) laidOut (by kernel_rfl) (by kernel_rfl) (by kernel_rfl) rfl hW' rfl rfl rfl (HW hs hx)⟩
theorem RU(os:Os)(started:os.Started)(H:Type)(enc:TypeId×Value->H):
    ReturnsInHanded {} Tryz.checked os 5 .any (Rows.fnValidStateCountsSpec.pre6 enc Tryz.prog Tryz.f5 Rows.fnValidStateCountsRow.domain false) (Rows.fnValidStateCountsSpec.post enc Tryz.prog Tryz.f5 false true false false):=by
  refine returnsInHanded_of_change (C:=Tryz.checked) aV started (by kernel_rfl) Tryz.func5
    (ChangeSpec.witness6 (enc:=enc) (C:=Tryz.checked) false ⟨#[],#[.slice none 0 0],[]⟩ 8 (by kernel_rfl) (by kernel_rfl) (by kernel_rfl) (by kernel_rfl) (by kernel_rfl)) ?_
  intro W cF args ds gs before hval hW _ _
  exact Pw H enc W cF args ds gs before hval hW
theorem Vq:Rows.fnValidStateCountsRow.holds Tryz.pinned (OpenSpec.ofChange Rows.fnValidStateCountsSpec):=
  OpenClaim.holds_of_wide 5 Tryz.f5 rfl rfl rfl rfl rfl rfl rfl ⟨rfl,rfl,rfl,rfl,rfl⟩ rfl rfl rfl rfl rfl (by kernel_rfl) Tryz.func5 (by kernel_rfl)
    (NB (by kernel_rfl)) (by unfold Func.isWrapper;first|(rw[aq (by decide+kernel)];kernel_rfl)|(rw[ae (by decide+kernel)];exact⟨rfl,rfl⟩))
    (fun os started H enc _=>RU os started H enc)
theorem We:Rows.FnValidStateCountsSaid:=Vq
end Go.Proofs.YtakpkjhmbbfniaaGreat.fnValidStateCounts
