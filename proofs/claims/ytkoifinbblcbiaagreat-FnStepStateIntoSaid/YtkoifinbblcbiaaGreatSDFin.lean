/- FnStepStateInto: for every input that can be read, the law's call returns true and leaves its arguments as they were. No condition. -/
import Derived.OpenShut
import Derived.ProofKit
import Derived.Test.YtkoifinbblcbiaaGreatRows
import Derived.WalkKit
import Derived.Test.YtkoifinbblcbiaaGreatSD06
namespace Go.Proofs.YtkoifinbblcbiaaGreat.fnStepStateInto
open Go.ChangeShapes Go.WideShapes Go.ChangeAt Go.RowKit Go.Vc
set_option linter.unusedVariables false
set_option maxRecDepth 100000
theorem aR:ownKnob Tryz.prog.godebug=none:=by kernel_rfl
theorem laidOut:laidOutB Tryz.prog=true:=by kernel_rfl
theorem below_of{W W':World}(hs:pE W W')(hx:J W.heap W'.heap):Below W.heap.size W W':=⟨hs.os,hs.tape,hs.output,hx.size,hx.same⟩
theorem contractS4(H:Type)(enc:TypeId×Value->H)(W:World)(cx:Nat)(args:Array Value)(ds gs:List (DataW H))(before:List MemPlace)
    (hval:∀(j:Nat) t v,Tryz.f5.params[j]? =some t->args[j]? =some v->Value.okWide Tryz.prog W .any cx t v)
    (hW:DataW.Whole enc Tryz.prog Tryz.f5.params.toList Rows.fnStepStateIntoSpec.vars false W args.toList ds gs before):
    Calls Tryz.prog 5 args W fun e W'=>∃v,e=.returned v/\Rows.fnStepStateIntoSpec.post enc Tryz.prog Tryz.f5 false true false false W args v W':=by
  have hW':=hW
  obtain⟨p,q,hA0,hV,rfl,hfz,hnd⟩:=hW
  have hA:DataW.TrodAll enc Tryz.prog W 0 (fun _=>true) true Tryz.f5.params.toList args.toList ds p:=hA0
  rw[Tryz.params5]at hA hval
  obtain⟨v0,d0,rfl,rfl,h0⟩:=trodAll_one hA
  obtain⟨rfl,rfl⟩:=trodVars_none hV
  obtain⟨x,rfl,hb⟩:=SE (t:=Qp) (e:=Uk) (by kernel_rfl) (by kernel_rfl) (by kernel_rfl) (hval 0 Qp v0 rfl rfl) h0
  refine(we hb W rfl).mono fun e W' ⟨v,he,hs,hv,hx⟩=>?_
  subst he hv
  exact⟨_,rfl,MU (t:=4) laidOut (by kernel_rfl) (by kernel_rfl) (by kernel_rfl) rfl hW' rfl rfl rfl (below_of hs hx)⟩
theorem liftedS4(os:Os)(started:os.Started)(H:Type)(enc:TypeId×Value->H):
    ReturnsInHanded {} Tryz.checked os 5 .any (Rows.fnStepStateIntoSpec.pre6 enc Tryz.prog Tryz.f5 Rows.fnStepStateIntoRow.domain false) (Rows.fnStepStateIntoSpec.post enc Tryz.prog Tryz.f5 false true false false):=by
  refine returnsInHanded_of_change (C:=Tryz.checked) aR started (by kernel_rfl) Tryz.func5
    (ChangeSpec.witness6 (enc:=enc) (C:=Tryz.checked) false ⟨#[],#[.slice none 0 0],[]⟩ 8 (by kernel_rfl) (by kernel_rfl) (by kernel_rfl) (by kernel_rfl) (by kernel_rfl)) ?_
  intro W cx args ds gs before hval hW _ _
  exact contractS4 H enc W cx args ds gs before hval hW
theorem at1S4:(Rows.fnStepStateIntoRow.inPlace==Tryz.prog.inPlace 5)=true:=by kernel_rfl
theorem at2S4:(Rows.fnStepStateIntoRow.unfollowed==Tryz.prog.unfollowed 5)=true:=by kernel_rfl
theorem at3S4:(Rows.fnStepStateIntoRow.recurses==Tryz.prog.recurses 5)=true:=by kernel_rfl
theorem at4S4:(Rows.fnStepStateIntoRow.named==Tryz.prog.varsNamed 5)=true:=by kernel_rfl
theorem closedS4:joinedFacts Tryz.prog 5 Tryz.f5 Rows.fnStepStateIntoSpec Rows.fnStepStateIntoRow=true:=by
  unfold joinedFacts
  rw[at1S4,at2S4,at3S4,at4S4,laidOut]
  kernel_rfl
theorem overS4:Rows.fnStepStateIntoRow.holds Tryz.pinned (OpenSpec.ofChange Rows.fnStepStateIntoSpec):=
  OpenClaim.holds_of_wide 5 Tryz.f5 rfl rfl rfl rfl rfl rfl rfl ⟨rfl,rfl,rfl,rfl,rfl⟩ rfl rfl rfl rfl rfl (by kernel_rfl) Tryz.func5 closedS4
    (of_decide_eq_true (by kernel_rfl)) (by unfold Func.isWrapper;first|(rw[an (by decide+kernel)];kernel_rfl)|(rw[ae (by decide+kernel)];exact⟨rfl,rfl⟩))
    (fun os started H enc _=>liftedS4 os started H enc)
theorem provedS4:Rows.FnStepStateIntoSaid:=overS4
end Go.Proofs.YtkoifinbblcbiaaGreat.fnStepStateInto
