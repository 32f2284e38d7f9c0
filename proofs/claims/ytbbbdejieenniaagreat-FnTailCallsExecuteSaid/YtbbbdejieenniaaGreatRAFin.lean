/- FnTailCallsExecute: for every input that can be read, the law's call returns true and leaves its arguments as they were. No condition. -/
import Derived.OpenShut
import Derived.ProofKit
import Derived.Test.YtbbbdejieenniaaGreatRows
import Derived.WalkKit
import Derived.Test.YtbbbdejieenniaaGreatRA05
namespace Go.Proofs.YtbbbdejieenniaaGreat.fnTailCallsExecute
open Go.ChangeShapes Go.WideShapes Go.ChangeAt Go.RowKit Go.Vc
set_option linter.unusedVariables false
set_option maxRecDepth 100000
theorem bF:ownKnob Tryz.prog.godebug=none:=by kernel_rfl
theorem laidOut:laidOutB Tryz.prog=true:=by kernel_rfl
theorem YX{W W':World}(hs:rK W W')(hx:J W.heap W'.heap):Below W.heap.size W W':=⟨hs.os,hs.Wu,hs.PJ,hx.aP,hx.bC⟩
theorem Vz(H:Type)(enc:TypeId×Value->H)(W:World)(da:Nat)(args:Array Value)(ds gs:List (DataW H))(before:List MemPlace)
    (hval:∀(j:Nat) t v,Tryz.f3.params[j]? =some t->args[j]? =some v->Value.okWide Tryz.prog W .any da t v)
    (hW:DataW.Whole enc Tryz.prog Tryz.f3.params.toList Rows.fnTailCallsExecuteSpec.vars false W args.toList ds gs before):
    Calls Tryz.prog 3 args W fun e W'=>∃v,e=.returned v/\Rows.fnTailCallsExecuteSpec.post enc Tryz.prog Tryz.f3 false true false false W args v W':=by
  have hW':=hW
  obtain⟨p,q,hA0,hV,rfl,hfz,hnd⟩:=hW
  have hA:DataW.TrodAll enc Tryz.prog W 0 (fun _=>true) true Tryz.f3.params.toList args.toList ds p:=hA0
  rw[Tryz.params3]at hA hval
  obtain⟨v0,d0,rfl,rfl,h0⟩:=trodAll_one hA
  obtain⟨rfl,rfl⟩:=trodVars_none hV
  obtain⟨x,rfl,hb⟩:=Yk (t:=UY) (e:=ZY) (by kernel_rfl) (by kernel_rfl) (by kernel_rfl) (hval 0 UY v0 rfl rfl) h0
  refine(xB hb W rfl).mono fun e W' ⟨v,he,hs,hv,hx⟩=>?_
  subst he hv
  exact⟨_,rfl,Q4 (t:=4) laidOut (by kernel_rfl) (by kernel_rfl) (by kernel_rfl) rfl hW' rfl rfl rfl (YX hs hx)⟩
theorem Zy(os:Os)(started:os.Started)(H:Type)(enc:TypeId×Value->H):
    ReturnsInHanded {} Tryz.checked os 3 .any (Rows.fnTailCallsExecuteSpec.pre6 enc Tryz.prog Tryz.f3 Rows.fnTailCallsExecuteRow.domain false) (Rows.fnTailCallsExecuteSpec.post enc Tryz.prog Tryz.f3 false true false false):=by
  refine returnsInHanded_of_change (C:=Tryz.checked) bF started (by kernel_rfl) Tryz.func3
    (ChangeSpec.witness6 (enc:=enc) (C:=Tryz.checked) false ⟨#[],#[.slice none 0 0],[]⟩ 8 (by kernel_rfl) (by kernel_rfl) (by kernel_rfl) (by kernel_rfl) (by kernel_rfl)) ?_
  intro W da args ds gs before hval hW _ _
  exact Vz H enc W da args ds gs before hval hW
theorem adk:(Rows.fnTailCallsExecuteRow.inPlace==Tryz.prog.inPlace 3)=true:=by kernel_rfl
theorem adl:(Rows.fnTailCallsExecuteRow.unfollowed==Tryz.prog.unfollowed 3)=true:=by kernel_rfl
theorem adm:(Rows.fnTailCallsExecuteRow.recurses==Tryz.prog.recurses 3)=true:=by kernel_rfl
theorem adn:(Rows.fnTailCallsExecuteRow.named==Tryz.prog.varsNamed 3)=true:=by kernel_rfl
theorem Y2:joinedFacts Tryz.prog 3 Tryz.f3 Rows.fnTailCallsExecuteSpec Rows.fnTailCallsExecuteRow=true:=by
  unfold joinedFacts
  rw[adk,adl,adm,adn,laidOut]
  kernel_rfl
theorem acU:Rows.fnTailCallsExecuteRow.holds Tryz.pinned (OpenSpec.ofChange Rows.fnTailCallsExecuteSpec):=
  OpenClaim.holds_of_wide 3 Tryz.f3 rfl rfl rfl rfl rfl rfl rfl ⟨rfl,rfl,rfl,rfl,rfl⟩ rfl rfl rfl rfl rfl (by kernel_rfl) Tryz.func3 Y2
    (of_decide_eq_true (by kernel_rfl)) (by unfold Func.isWrapper;first|(rw[ba (by decide+kernel)];kernel_rfl)|(rw[aU (by decide+kernel)];exact⟨rfl,rfl⟩))
    (fun os started H enc _=>Zy os started H enc)
theorem adT:Rows.FnTailCallsExecuteSaid:=acU
end Go.Proofs.YtbbbdejieenniaaGreat.fnTailCallsExecute
