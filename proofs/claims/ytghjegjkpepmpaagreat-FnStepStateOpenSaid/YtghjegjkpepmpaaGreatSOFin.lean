/- FnStepStateOpen: for every input that can be read, the law's call returns true and leaves its arguments as they were. No condition. -/
import Derived.OpenShut
import Derived.ProofKit
import Derived.Test.YtghjegjkpepmpaaGreatRows
import Derived.WalkKit
import Derived.Test.YtghjegjkpepmpaaGreatSO05
namespace Go.Proofs.YtghjegjkpepmpaaGreat.fnStepStateOpen
open Go.ChangeShapes Go.WideShapes Go.ChangeAt Go.RowKit Go.Vc
set_option linter.unusedVariables false
set_option maxRecDepth 100000
theorem aS:ownKnob Tryz.prog.godebug=none:=by kernel_rfl
theorem laidOut:laidOutB Tryz.prog=true:=by kernel_rfl
theorem TL{W W':World}(hs:pK W W')(hx:J W.heap W'.heap):Below W.heap.size W W':=⟨hs.os,hs.tape,hs.output,hx.size,hx.same⟩
theorem Q0(H:Type)(enc:TypeId×Value->H)(W:World)(cA:Nat)(args:Array Value)(ds gs:List (DataW H))(before:List MemPlace)
    (hval:∀(j:Nat) t v,Tryz.f3.params[j]? =some t->args[j]? =some v->Value.okWide Tryz.prog W .any cA t v)
    (hW:DataW.Whole enc Tryz.prog Tryz.f3.params.toList Rows.fnStepStateOpenSpec.vars false W args.toList ds gs before):
    Calls Tryz.prog 3 args W fun e W'=>∃v,e=.returned v/\Rows.fnStepStateOpenSpec.post enc Tryz.prog Tryz.f3 false true false false W args v W':=by
  have hW':=hW
  obtain⟨p,q,hA0,hV,rfl,hfz,hnd⟩:=hW
  have hA:DataW.TrodAll enc Tryz.prog W 0 (fun _=>true) true Tryz.f3.params.toList args.toList ds p:=hA0
  rw[Tryz.params3]at hA hval
  obtain⟨v0,d0,rfl,rfl,h0⟩:=trodAll_one hA
  obtain⟨rfl,rfl⟩:=trodVars_none hV
  obtain⟨x,rfl,hb⟩:=SY (t:=QA) (e:=UC) (by kernel_rfl) (by kernel_rfl) (by kernel_rfl) (hval 0 QA v0 rfl rfl) h0
  refine(wu hb W rfl).mono fun e W' ⟨v,he,hs,hv,hx⟩=>?_
  subst he hv
  exact⟨_,rfl,Ni (t:=4) laidOut (by kernel_rfl) (by kernel_rfl) (by kernel_rfl) rfl hW' rfl rfl rfl (TL hs hx)⟩
theorem Um(os:Os)(started:os.Started)(H:Type)(enc:TypeId×Value->H):
    ReturnsInHanded {} Tryz.checked os 3 .any (Rows.fnStepStateOpenSpec.pre6 enc Tryz.prog Tryz.f3 Rows.fnStepStateOpenRow.domain false) (Rows.fnStepStateOpenSpec.post enc Tryz.prog Tryz.f3 false true false false):=by
  refine returnsInHanded_of_change (C:=Tryz.checked) aS started (by kernel_rfl) Tryz.func3
    (ChangeSpec.witness6 (enc:=enc) (C:=Tryz.checked) false ⟨#[],#[.slice none 0 0],[]⟩ 8 (by kernel_rfl) (by kernel_rfl) (by kernel_rfl) (by kernel_rfl) (by kernel_rfl)) ?_
  intro W cA args ds gs before hval hW _ _
  exact Q0 H enc W cA args ds gs before hval hW
theorem Ym:(Rows.fnStepStateOpenRow.inPlace==Tryz.prog.inPlace 3)=true:=by kernel_rfl
theorem Yn:(Rows.fnStepStateOpenRow.unfollowed==Tryz.prog.unfollowed 3)=true:=by kernel_rfl
theorem Yo:(Rows.fnStepStateOpenRow.recurses==Tryz.prog.recurses 3)=true:=by kernel_rfl
theorem Yp:(Rows.fnStepStateOpenRow.named==Tryz.prog.varsNamed 3)=true:=by kernel_rfl
theorem TQ:joinedFacts Tryz.prog 3 Tryz.f3 Rows.fnStepStateOpenSpec Rows.fnStepStateOpenRow=true:=by
  unfold joinedFacts
  rw[Ym,Yn,Yo,Yp,laidOut]
  kernel_rfl
theorem Xt:Rows.fnStepStateOpenRow.holds Tryz.pinned (OpenSpec.ofChange Rows.fnStepStateOpenSpec):=
  OpenClaim.holds_of_wide 3 Tryz.f3 rfl rfl rfl rfl rfl rfl rfl ⟨rfl,rfl,rfl,rfl,rfl⟩ rfl rfl rfl rfl rfl (by kernel_rfl) Tryz.func3 TQ
    (of_decide_eq_true (by kernel_rfl)) (by unfold Func.isWrapper;first|(rw[ao (by decide+kernel)];kernel_rfl)|(rw[ae (by decide+kernel)];exact⟨rfl,rfl⟩))
    (fun os started H enc _=>Um os started H enc)
theorem YV:Rows.FnStepStateOpenSaid:=Xt
end Go.Proofs.YtghjegjkpepmpaaGreat.fnStepStateOpen
