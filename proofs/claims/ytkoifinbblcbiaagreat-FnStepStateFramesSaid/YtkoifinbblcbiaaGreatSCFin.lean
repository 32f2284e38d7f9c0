/- FnStepStateFrames: for every input that can be read, the law's call returns true and leaves its arguments as they were. No condition. -/
import Derived.OpenShut
import Derived.ProofKit
import Derived.Test.YtkoifinbblcbiaaGreatRows
import Derived.WalkKit
import Derived.Test.YtkoifinbblcbiaaGreatSC06
namespace Go.Proofs.YtkoifinbblcbiaaGreat.fnStepStateFrames
open Go.ChangeShapes Go.WideShapes Go.ChangeAt Go.RowKit Go.Vc
set_option linter.unusedVariables false
set_option maxRecDepth 100000
theorem aR:ownKnob Tryz.prog.godebug=none:=by kernel_rfl
theorem laidOut:laidOutB Tryz.prog=true:=by kernel_rfl
theorem below_of{W W':World}(hs:pu W W')(hx:J W.heap W'.heap):Below W.heap.size W W':=⟨hs.os,hs.tape,hs.output,hx.size,hx.same⟩
theorem contractS3(H:Type)(enc:TypeId×Value->H)(W:World)(cz:Nat)(args:Array Value)(ds gs:List (DataW H))(before:List MemPlace)
    (hval:∀(j:Nat) t v,Tryz.f4.params[j]? =some t->args[j]? =some v->Value.okWide Tryz.prog W .any cz t v)
    (hW:DataW.Whole enc Tryz.prog Tryz.f4.params.toList Rows.fnStepStateFramesSpec.vars false W args.toList ds gs before):
    Calls Tryz.prog 4 args W fun e W'=>∃v,e=.returned v/\Rows.fnStepStateFramesSpec.post enc Tryz.prog Tryz.f4 false true false false W args v W':=by
  have hW':=hW
  obtain⟨p,q,hA0,hV,rfl,hfz,hnd⟩:=hW
  have hA:DataW.TrodAll enc Tryz.prog W 0 (fun _=>true) true Tryz.f4.params.toList args.toList ds p:=hA0
  rw[Tryz.params4]at hA hval
  obtain⟨v0,d0,rfl,rfl,h0⟩:=trodAll_one hA
  obtain⟨rfl,rfl⟩:=trodVars_none hV
  obtain⟨x,rfl,hb⟩:=SG (t:=Qn) (e:=Uk) (by kernel_rfl) (by kernel_rfl) (by kernel_rfl) (hval 0 Qn v0 rfl rfl) h0
  refine(uc hb W rfl).mono fun e W' ⟨v,he,hs,hv,hx⟩=>?_
  subst he hv
  exact⟨_,rfl,MS (t:=4) laidOut (by kernel_rfl) (by kernel_rfl) (by kernel_rfl) rfl hW' rfl rfl rfl (below_of hs hx)⟩
theorem liftedS3(os:Os)(started:os.Started)(H:Type)(enc:TypeId×Value->H):
    ReturnsInHanded {} Tryz.checked os 4 .any (Rows.fnStepStateFramesSpec.pre6 enc Tryz.prog Tryz.f4 Rows.fnStepStateFramesRow.domain false) (Rows.fnStepStateFramesSpec.post enc Tryz.prog Tryz.f4 false true false false):=by
  refine returnsInHanded_of_change (C:=Tryz.checked) aR started (by kernel_rfl) Tryz.func4
    (ChangeSpec.witness6 (enc:=enc) (C:=Tryz.checked) false ⟨#[],#[.slice none 0 0],[]⟩ 8 (by kernel_rfl) (by kernel_rfl) (by kernel_rfl) (by kernel_rfl) (by kernel_rfl)) ?_
  intro W cz args ds gs before hval hW _ _
  exact contractS3 H enc W cz args ds gs before hval hW
theorem at1S3:(Rows.fnStepStateFramesRow.inPlace==Tryz.prog.inPlace 4)=true:=by kernel_rfl
theorem at2S3:(Rows.fnStepStateFramesRow.unfollowed==Tryz.prog.unfollowed 4)=true:=by kernel_rfl
theorem at3S3:(Rows.fnStepStateFramesRow.recurses==Tryz.prog.recurses 4)=true:=by kernel_rfl
theorem at4S3:(Rows.fnStepStateFramesRow.named==Tryz.prog.varsNamed 4)=true:=by kernel_rfl
theorem closedS3:joinedFacts Tryz.prog 4 Tryz.f4 Rows.fnStepStateFramesSpec Rows.fnStepStateFramesRow=true:=by
  unfold joinedFacts
  rw[at1S3,at2S3,at3S3,at4S3,laidOut]
  kernel_rfl
theorem overS3:Rows.fnStepStateFramesRow.holds Tryz.pinned (OpenSpec.ofChange Rows.fnStepStateFramesSpec):=
  OpenClaim.holds_of_wide 4 Tryz.f4 rfl rfl rfl rfl rfl rfl rfl ⟨rfl,rfl,rfl,rfl,rfl⟩ rfl rfl rfl rfl rfl (by kernel_rfl) Tryz.func4 closedS3
    (of_decide_eq_true (by kernel_rfl)) (by unfold Func.isWrapper;first|(rw[an (by decide+kernel)];kernel_rfl)|(rw[ae (by decide+kernel)];exact⟨rfl,rfl⟩))
    (fun os started H enc _=>liftedS3 os started H enc)
theorem provedS3:Rows.FnStepStateFramesSaid:=overS3
end Go.Proofs.YtkoifinbblcbiaaGreat.fnStepStateFrames
