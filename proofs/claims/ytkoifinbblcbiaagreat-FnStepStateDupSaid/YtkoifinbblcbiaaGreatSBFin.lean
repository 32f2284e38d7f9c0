/- FnStepStateDup: for every input that can be read, the law's call returns true and leaves its arguments as they were. No condition. -/
import Derived.OpenShut
import Derived.ProofKit
import Derived.Test.YtkoifinbblcbiaaGreatRows
import Derived.WalkKit
import Derived.Test.YtkoifinbblcbiaaGreatSB06
namespace Go.Proofs.YtkoifinbblcbiaaGreat.fnStepStateDup
open Go.ChangeShapes Go.WideShapes Go.ChangeAt Go.RowKit Go.Vc
set_option linter.unusedVariables false
set_option maxRecDepth 100000
theorem aR:ownKnob Tryz.prog.godebug=none:=by kernel_rfl
theorem laidOut:laidOutB Tryz.prog=true:=by kernel_rfl
theorem below_of{W W':World}(hs:pF W W')(hx:J W.heap W'.heap):Below W.heap.size W W':=⟨hs.os,hs.tape,hs.output,hx.size,hx.same⟩
theorem contractS2(H:Type)(enc:TypeId×Value->H)(W:World)(cz:Nat)(args:Array Value)(ds gs:List (DataW H))(before:List MemPlace)
    (hval:∀(j:Nat) t v,Tryz.f3.params[j]? =some t->args[j]? =some v->Value.okWide Tryz.prog W .any cz t v)
    (hW:DataW.Whole enc Tryz.prog Tryz.f3.params.toList Rows.fnStepStateDupSpec.vars false W args.toList ds gs before):
    Calls Tryz.prog 3 args W fun e W'=>∃v,e=.returned v/\Rows.fnStepStateDupSpec.post enc Tryz.prog Tryz.f3 false true false false W args v W':=by
  have hW':=hW
  obtain⟨p,q,hA0,hV,rfl,hfz,hnd⟩:=hW
  have hA:DataW.TrodAll enc Tryz.prog W 0 (fun _=>true) true Tryz.f3.params.toList args.toList ds p:=hA0
  rw[Tryz.params3]at hA hval
  obtain⟨v0,d0,rfl,rfl,h0⟩:=trodAll_one hA
  obtain⟨rfl,rfl⟩:=trodVars_none hV
  obtain⟨x,rfl,hb⟩:=SJ (t:=Qq) (e:=Uq) (by kernel_rfl) (by kernel_rfl) (by kernel_rfl) (hval 0 Qq v0 rfl rfl) h0
  refine(xk hb W rfl).mono fun e W' ⟨v,he,hs,hv,hx⟩=>?_
  subst he hv
  exact⟨_,rfl,MU (t:=4) laidOut (by kernel_rfl) (by kernel_rfl) (by kernel_rfl) rfl hW' rfl rfl rfl (below_of hs hx)⟩
theorem liftedS2(os:Os)(started:os.Started)(H:Type)(enc:TypeId×Value->H):
    ReturnsInHanded {} Tryz.checked os 3 .any (Rows.fnStepStateDupSpec.pre6 enc Tryz.prog Tryz.f3 Rows.fnStepStateDupRow.domain false) (Rows.fnStepStateDupSpec.post enc Tryz.prog Tryz.f3 false true false false):=by
  refine returnsInHanded_of_change (C:=Tryz.checked) aR started (by kernel_rfl) Tryz.func3
    (ChangeSpec.witness6 (enc:=enc) (C:=Tryz.checked) false ⟨#[],#[.slice none 0 0],[]⟩ 8 (by kernel_rfl) (by kernel_rfl) (by kernel_rfl) (by kernel_rfl) (by kernel_rfl)) ?_
  intro W cz args ds gs before hval hW _ _
  exact contractS2 H enc W cz args ds gs before hval hW
theorem at1S2:(Rows.fnStepStateDupRow.inPlace==Tryz.prog.inPlace 3)=true:=by kernel_rfl
theorem at2S2:(Rows.fnStepStateDupRow.unfollowed==Tryz.prog.unfollowed 3)=true:=by kernel_rfl
theorem at3S2:(Rows.fnStepStateDupRow.recurses==Tryz.prog.recurses 3)=true:=by kernel_rfl
theorem at4S2:(Rows.fnStepStateDupRow.named==Tryz.prog.varsNamed 3)=true:=by kernel_rfl
theorem closedS2:joinedFacts Tryz.prog 3 Tryz.f3 Rows.fnStepStateDupSpec Rows.fnStepStateDupRow=true:=by
  unfold joinedFacts
  rw[at1S2,at2S2,at3S2,at4S2,laidOut]
  kernel_rfl
theorem overS2:Rows.fnStepStateDupRow.holds Tryz.pinned (OpenSpec.ofChange Rows.fnStepStateDupSpec):=
  OpenClaim.holds_of_wide 3 Tryz.f3 rfl rfl rfl rfl rfl rfl rfl ⟨rfl,rfl,rfl,rfl,rfl⟩ rfl rfl rfl rfl rfl (by kernel_rfl) Tryz.func3 closedS2
    (of_decide_eq_true (by kernel_rfl)) (by unfold Func.isWrapper;first|(rw[ao (by decide+kernel)];kernel_rfl)|(rw[ae (by decide+kernel)];exact⟨rfl,rfl⟩))
    (fun os started H enc _=>liftedS2 os started H enc)
theorem provedS2:Rows.FnStepStateDupSaid:=overS2
end Go.Proofs.YtkoifinbblcbiaaGreat.fnStepStateDup
