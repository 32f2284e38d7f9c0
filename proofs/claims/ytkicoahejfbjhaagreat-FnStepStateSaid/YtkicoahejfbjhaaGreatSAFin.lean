/- FnStepState: for every input that can be read, the law's call returns true and leaves its arguments as they were. No condition. -/
import Derived.OpenShut
import Derived.ProofKit
import Derived.Test.YtkicoahejfbjhaaGreatRows
import Derived.WalkKit
import Derived.Test.YtkicoahejfbjhaaGreatSA19
namespace Go.Proofs.YtkicoahejfbjhaaGreat.fnStepState
open Go.ChangeShapes Go.WideShapes Go.ChangeAt Go.RowKit Go.Vc
set_option linter.unusedVariables false
set_option maxRecDepth 100000
theorem aR:ownKnob Tryz.prog.godebug=none:=by kernel_rfl
theorem laidOut:laidOutB Tryz.prog=true:=by kernel_rfl
theorem Td{W W':World}(hs:ph W W')(hx:J W.heap W'.heap):Below W.heap.size W W':=⟨hs.os,hs.tape,hs.output,hx.size,hx.same⟩
theorem Qy(H:Type)(enc:TypeId×Value->H)(W:World)(cx:Nat)(args:Array Value)(ds gs:List (DataW H))(before:List MemPlace)
    (hval:∀(j:Nat) t v,Tryz.f3.params[j]? =some t->args[j]? =some v->Value.okWide Tryz.prog W .any cx t v)
    (hW:DataW.Whole enc Tryz.prog Tryz.f3.params.toList Rows.fnStepStateSpec.vars false W args.toList ds gs before):
    Calls Tryz.prog 3 args W fun e W'=>∃v,e=.returned v/\Rows.fnStepStateSpec.post enc Tryz.prog Tryz.f3 false true false false W args v W':=by
  have hW':=hW
  obtain⟨p,q,hA0,hV,rfl,hfz,hnd⟩:=hW
  have hA:DataW.TrodAll enc Tryz.prog W 0 (fun _=>true) true Tryz.f3.params.toList args.toList ds p:=hA0
  rw[Tryz.params3]at hA hval
  obtain⟨v0,d0,rfl,rfl,h0⟩:=trodAll_one hA
  obtain⟨rfl,rfl⟩:=trodVars_none hV
  obtain⟨x,rfl,hb⟩:=Sq (t:=Qa) (e:=Ua) (by kernel_rfl) (by kernel_rfl) (by kernel_rfl) (hval 0 Qa v0 rfl rfl) h0
  refine(Cj hb W rfl).mono fun e W' ⟨v,he,hs,hv,hx⟩=>?_
  subst he hv
  exact⟨_,rfl,MH (t:=4) laidOut (by kernel_rfl) (by kernel_rfl) (by kernel_rfl) rfl hW' rfl rfl rfl (Td hs hx)⟩
theorem TM(os:Os)(started:os.Started)(H:Type)(enc:TypeId×Value->H):
    ReturnsInHanded {} Tryz.checked os 3 .any (Rows.fnStepStateSpec.pre6 enc Tryz.prog Tryz.f3 Rows.fnStepStateRow.domain false) (Rows.fnStepStateSpec.post enc Tryz.prog Tryz.f3 false true false false):=by
  refine returnsInHanded_of_change (C:=Tryz.checked) aR started (by kernel_rfl) Tryz.func3
    (ChangeSpec.witness6 (enc:=enc) (C:=Tryz.checked) false ⟨#[],#[.slice none 0 0],[]⟩ 8 (by kernel_rfl) (by kernel_rfl) (by kernel_rfl) (by kernel_rfl) (by kernel_rfl)) ?_
  intro W cx args ds gs before hval hW _ _
  exact Qy H enc W cx args ds gs before hval hW
theorem XU:(Rows.fnStepStateRow.inPlace==Tryz.prog.inPlace 3)=true:=by kernel_rfl
theorem XV:(Rows.fnStepStateRow.unfollowed==Tryz.prog.unfollowed 3)=true:=by kernel_rfl
theorem XW:(Rows.fnStepStateRow.recurses==Tryz.prog.recurses 3)=true:=by kernel_rfl
theorem XY:(Rows.fnStepStateRow.named==Tryz.prog.varsNamed 3)=true:=by kernel_rfl
theorem Tj:joinedFacts Tryz.prog 3 Tryz.f3 Rows.fnStepStateSpec Rows.fnStepStateRow=true:=by
  unfold joinedFacts
  rw[XU,XV,XW,XY,laidOut]
  kernel_rfl
theorem Xb:Rows.fnStepStateRow.holds Tryz.pinned (OpenSpec.ofChange Rows.fnStepStateSpec):=
  OpenClaim.holds_of_wide 3 Tryz.f3 rfl rfl rfl rfl rfl rfl rfl ⟨rfl,rfl,rfl,rfl,rfl⟩ rfl rfl rfl rfl rfl (by kernel_rfl) Tryz.func3 Tj
    (of_decide_eq_true (by kernel_rfl)) (by unfold Func.isWrapper;first|(rw[an (by decide+kernel)];kernel_rfl)|(rw[ae (by decide+kernel)];exact⟨rfl,rfl⟩))
    (fun os started H enc _=>TM os started H enc)
theorem YC:Rows.FnStepStateSaid:=Xb
end Go.Proofs.YtkicoahejfbjhaaGreat.fnStepState
