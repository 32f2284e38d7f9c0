/- FnRunState: for every input that can be read, the law's call returns true and leaves its arguments as they were. No condition. -/
import Derived.OpenShut
import Derived.ProofKit
import Derived.Test.YtkoifinbblcbiaaGreatRows
import Derived.WalkKit
import Derived.Test.YtkoifinbblcbiaaGreatSG06
namespace Go.Proofs.YtkoifinbblcbiaaGreat.fnRunState
open Go.ChangeShapes Go.WideShapes Go.ChangeAt Go.RowKit Go.Vc
set_option linter.unusedVariables false
set_option maxRecDepth 100000
theorem aR:ownKnob Tryz.prog.godebug=none:=by kernel_rfl
theorem laidOut:laidOutB Tryz.prog=true:=by kernel_rfl
theorem below_of{W W':World}(hs:pD W W')(hx:J W.heap W'.heap):Below W.heap.size W W':=⟨hs.os,hs.tape,hs.output,hx.size,hx.same⟩
theorem contractS7(H:Type)(enc:TypeId×Value->H)(W:World)(cv:Nat)(args:Array Value)(ds gs:List (DataW H))(before:List MemPlace)
    (hval:∀(j:Nat) t v,Tryz.f7.params[j]? =some t->args[j]? =some v->Value.okWide Tryz.prog W .any cv t v)
    (hW:DataW.Whole enc Tryz.prog Tryz.f7.params.toList Rows.fnRunStateSpec.vars false W args.toList ds gs before):
    Calls Tryz.prog 7 args W fun e W'=>∃v,e=.returned v/\Rows.fnRunStateSpec.post enc Tryz.prog Tryz.f7 false true false false W args v W':=by
  have hW':=hW
  obtain⟨p,q,hA0,hV,rfl,hfz,hnd⟩:=hW
  have hA:DataW.TrodAll enc Tryz.prog W 0 (fun _=>true) true Tryz.f7.params.toList args.toList ds p:=hA0
  rw[Tryz.params7]at hA hval
  obtain⟨v0,d0,rfl,rfl,h0⟩:=trodAll_one hA
  obtain⟨rfl,rfl⟩:=trodVars_none hV
  obtain⟨x,rfl,hb⟩:=SI (t:=Qt) (e:=Ul) (by kernel_rfl) (by kernel_rfl) (by kernel_rfl) (hval 0 Qt v0 rfl rfl) h0
  refine(El hb W rfl).mono fun e W' ⟨v,he,hs,hv,hx⟩=>?_
  subst he hv
  exact⟨_,rfl,MY (t:=4) laidOut (by kernel_rfl) (by kernel_rfl) (by kernel_rfl) rfl hW' rfl rfl rfl (below_of hs hx)⟩
theorem liftedS7(os:Os)(started:os.Started)(H:Type)(enc:TypeId×Value->H):
    ReturnsInHanded {} Tryz.checked os 7 .any (Rows.fnRunStateSpec.pre6 enc Tryz.prog Tryz.f7 Rows.fnRunStateRow.domain false) (Rows.fnRunStateSpec.post enc Tryz.prog Tryz.f7 false true false false):=by
  refine returnsInHanded_of_change (C:=Tryz.checked) aR started (by kernel_rfl) Tryz.func7
    (ChangeSpec.witness6 (enc:=enc) (C:=Tryz.checked) false ⟨#[],#[.slice none 0 0],[]⟩ 8 (by kernel_rfl) (by kernel_rfl) (by kernel_rfl) (by kernel_rfl) (by kernel_rfl)) ?_
  intro W cv args ds gs before hval hW _ _
  exact contractS7 H enc W cv args ds gs before hval hW
theorem at1S7:(Rows.fnRunStateRow.inPlace==Tryz.prog.inPlace 7)=true:=by kernel_rfl
theorem at2S7:(Rows.fnRunStateRow.unfollowed==Tryz.prog.unfollowed 7)=true:=by kernel_rfl
theorem at3S7:(Rows.fnRunStateRow.recurses==Tryz.prog.recurses 7)=true:=by kernel_rfl
theorem at4S7:(Rows.fnRunStateRow.named==Tryz.prog.varsNamed 7)=true:=by kernel_rfl
theorem closedS7:joinedFacts Tryz.prog 7 Tryz.f7 Rows.fnRunStateSpec Rows.fnRunStateRow=true:=by
  unfold joinedFacts
  rw[at1S7,at2S7,at3S7,at4S7,laidOut]
  kernel_rfl
theorem overS7:Rows.fnRunStateRow.holds Tryz.pinned (OpenSpec.ofChange Rows.fnRunStateSpec):=
  OpenClaim.holds_of_wide 7 Tryz.f7 rfl rfl rfl rfl rfl rfl rfl ⟨rfl,rfl,rfl,rfl,rfl⟩ rfl rfl rfl rfl rfl (by kernel_rfl) Tryz.func7 closedS7
    (of_decide_eq_true (by kernel_rfl)) (by unfold Func.isWrapper;first|(rw[an (by decide+kernel)];kernel_rfl)|(rw[ae (by decide+kernel)];exact⟨rfl,rfl⟩))
    (fun os started H enc _=>liftedS7 os started H enc)
theorem provedS7:Rows.FnRunStateSaid:=overS7
end Go.Proofs.YtkoifinbblcbiaaGreat.fnRunState
