/- FnStepStateStop: for every input that can be read, the law's call returns true and leaves its arguments as they were. No condition. -/
import Derived.OpenShut
import Derived.ProofKit
import Derived.Test.YtkoifinbblcbiaaGreatRows
import Derived.WalkKit
import Derived.Test.YtkoifinbblcbiaaGreatSF06
namespace Go.Proofs.YtkoifinbblcbiaaGreat.fnStepStateStop
open Go.ChangeShapes Go.WideShapes Go.ChangeAt Go.RowKit Go.Vc
set_option linter.unusedVariables false
set_option maxRecDepth 100000
theorem aR:ownKnob Tryz.prog.godebug=none:=by kernel_rfl
theorem laidOut:laidOutB Tryz.prog=true:=by kernel_rfl
theorem below_of{W W':World}(hs:pu W W')(hx:J W.heap W'.heap):Below W.heap.size W W':=⟨hs.os,hs.tape,hs.output,hx.size,hx.same⟩
theorem contractS6(H:Type)(enc:TypeId×Value->H)(W:World)(cy:Nat)(args:Array Value)(ds gs:List (DataW H))(before:List MemPlace)
    (hval:∀(j:Nat) t v,Tryz.f6.params[j]? =some t->args[j]? =some v->Value.okWide Tryz.prog W .any cy t v)
    (hW:DataW.Whole enc Tryz.prog Tryz.f6.params.toList Rows.fnStepStateStopSpec.vars false W args.toList ds gs before):
    Calls Tryz.prog 6 args W fun e W'=>∃v,e=.returned v/\Rows.fnStepStateStopSpec.post enc Tryz.prog Tryz.f6 false true false false W args v W':=by
  have hW':=hW
  obtain⟨p,q,hA0,hV,rfl,hfz,hnd⟩:=hW
  have hA:DataW.TrodAll enc Tryz.prog W 0 (fun _=>true) true Tryz.f6.params.toList args.toList ds p:=hA0
  rw[Tryz.params6]at hA hval
  obtain⟨v0,d0,rfl,rfl,h0⟩:=trodAll_one hA
  obtain⟨rfl,rfl⟩:=trodVars_none hV
  obtain⟨x,rfl,hb⟩:=Sp (t:=Qb) (e:=TZ) (by kernel_rfl) (by kernel_rfl) (by kernel_rfl) (hval 0 Qb v0 rfl rfl) h0
  refine(vS hb W rfl).mono fun e W' ⟨v,he,hs,hv,hx⟩=>?_
  subst he hv
  exact⟨_,rfl,MJ (t:=4) laidOut (by kernel_rfl) (by kernel_rfl) (by kernel_rfl) rfl hW' rfl rfl rfl (below_of hs hx)⟩
theorem liftedS6(os:Os)(started:os.Started)(H:Type)(enc:TypeId×Value->H):
    ReturnsInHanded {} Tryz.checked os 6 .any (Rows.fnStepStateStopSpec.pre6 enc Tryz.prog Tryz.f6 Rows.fnStepStateStopRow.domain false) (Rows.fnStepStateStopSpec.post enc Tryz.prog Tryz.f6 false true false false):=by
  refine returnsInHanded_of_change (C:=Tryz.checked) aR started (by kernel_rfl) Tryz.func6
    (ChangeSpec.witness6 (enc:=enc) (C:=Tryz.checked) false ⟨#[],#[.slice none 0 0],[]⟩ 8 (by kernel_rfl) (by kernel_rfl) (by kernel_rfl) (by kernel_rfl) (by kernel_rfl)) ?_
  intro W cy args ds gs before hval hW _ _
  exact contractS6 H enc W cy args ds gs before hval hW
theorem at1S6:(Rows.fnStepStateStopRow.inPlace==Tryz.prog.inPlace 6)=true:=by kernel_rfl
theorem at2S6:(Rows.fnStepStateStopRow.unfollowed==Tryz.prog.unfollowed 6)=true:=by kernel_rfl
theorem at3S6:(Rows.fnStepStateStopRow.recurses==Tryz.prog.recurses 6)=true:=by kernel_rfl
theorem at4S6:(Rows.fnStepStateStopRow.named==Tryz.prog.varsNamed 6)=true:=by kernel_rfl
theorem closedS6:joinedFacts Tryz.prog 6 Tryz.f6 Rows.fnStepStateStopSpec Rows.fnStepStateStopRow=true:=by
  unfold joinedFacts
  rw[at1S6,at2S6,at3S6,at4S6,laidOut]
  kernel_rfl
theorem overS6:Rows.fnStepStateStopRow.holds Tryz.pinned (OpenSpec.ofChange Rows.fnStepStateStopSpec):=
  OpenClaim.holds_of_wide 6 Tryz.f6 rfl rfl rfl rfl rfl rfl rfl ⟨rfl,rfl,rfl,rfl,rfl⟩ rfl rfl rfl rfl rfl (by kernel_rfl) Tryz.func6 closedS6
    (of_decide_eq_true (by kernel_rfl)) (by unfold Func.isWrapper;first|(rw[an (by decide+kernel)];kernel_rfl)|(rw[ae (by decide+kernel)];exact⟨rfl,rfl⟩))
    (fun os started H enc _=>liftedS6 os started H enc)
theorem provedS6:Rows.FnStepStateStopSaid:=overS6
end Go.Proofs.YtkoifinbblcbiaaGreat.fnStepStateStop
