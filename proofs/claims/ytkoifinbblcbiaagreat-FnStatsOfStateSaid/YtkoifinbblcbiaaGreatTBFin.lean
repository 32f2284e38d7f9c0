/- FnStatsOfState: for every input that can be read, the law's call returns true and leaves its arguments as they were. No condition. -/
import Derived.OpenShut
import Derived.ProofKit
import Derived.Test.YtkoifinbblcbiaaGreatRows
import Derived.WalkKit
import Derived.Test.YtkoifinbblcbiaaGreatTB06
namespace Go.Proofs.YtkoifinbblcbiaaGreat.fnStatsOfState
open Go.ChangeShapes Go.WideShapes Go.ChangeAt Go.RowKit Go.Vc
set_option linter.unusedVariables false
set_option maxRecDepth 100000
theorem aR:ownKnob Tryz.prog.godebug=none:=by kernel_rfl
theorem laidOut:laidOutB Tryz.prog=true:=by kernel_rfl
theorem below_of{W W':World}(hs:pH W W')(hx:J W.heap W'.heap):Below W.heap.size W W':=⟨hs.os,hs.tape,hs.output,hx.size,hx.same⟩
theorem contractT2(H:Type)(enc:TypeId×Value->H)(W:World)(cv:Nat)(args:Array Value)(ds gs:List (DataW H))(before:List MemPlace)
    (hval:∀(j:Nat) t v,Tryz.f11.params[j]? =some t->args[j]? =some v->Value.okWide Tryz.prog W .any cv t v)
    (hW:DataW.Whole enc Tryz.prog Tryz.f11.params.toList Rows.fnStatsOfStateSpec.vars false W args.toList ds gs before):
    Calls Tryz.prog 11 args W fun e W'=>∃v,e=.returned v/\Rows.fnStatsOfStateSpec.post enc Tryz.prog Tryz.f11 false true false false W args v W':=by
  have hW':=hW
  obtain⟨p,q,hA0,hV,rfl,hfz,hnd⟩:=hW
  have hA:DataW.TrodAll enc Tryz.prog W 0 (fun _=>true) true Tryz.f11.params.toList args.toList ds p:=hA0
  rw[Tryz.params11]at hA hval
  obtain⟨v0,d0,rfl,rfl,h0⟩:=trodAll_one hA
  obtain⟨rfl,rfl⟩:=trodVars_none hV
  obtain⟨x,rfl,hb⟩:=SW (t:=QB) (e:=UD) (by kernel_rfl) (by kernel_rfl) (by kernel_rfl) (hval 0 QB v0 rfl rfl) h0
  refine(laws_FnStatsOfState_ok hb W rfl).mono fun e W' ⟨v,he,hs,hv,hx⟩=>?_
  subst he hv
  exact⟨_,rfl,MZ (t:=4) laidOut (by kernel_rfl) (by kernel_rfl) (by kernel_rfl) rfl hW' rfl rfl rfl (below_of hs hx)⟩
theorem liftedT2(os:Os)(started:os.Started)(H:Type)(enc:TypeId×Value->H):
    ReturnsInHanded {} Tryz.checked os 11 .any (Rows.fnStatsOfStateSpec.pre6 enc Tryz.prog Tryz.f11 Rows.fnStatsOfStateRow.domain false) (Rows.fnStatsOfStateSpec.post enc Tryz.prog Tryz.f11 false true false false):=by
  refine returnsInHanded_of_change (C:=Tryz.checked) aR started (by kernel_rfl) Tryz.func11
    (ChangeSpec.witness6 (enc:=enc) (C:=Tryz.checked) false ⟨#[],#[.slice none 0 0],[]⟩ 8 (by kernel_rfl) (by kernel_rfl) (by kernel_rfl) (by kernel_rfl) (by kernel_rfl)) ?_
  intro W cv args ds gs before hval hW _ _
  exact contractT2 H enc W cv args ds gs before hval hW
theorem at1T2:(Rows.fnStatsOfStateRow.inPlace==Tryz.prog.inPlace 11)=true:=by kernel_rfl
theorem at2T2:(Rows.fnStatsOfStateRow.unfollowed==Tryz.prog.unfollowed 11)=true:=by kernel_rfl
theorem at3T2:(Rows.fnStatsOfStateRow.recurses==Tryz.prog.recurses 11)=true:=by kernel_rfl
theorem at4T2:(Rows.fnStatsOfStateRow.named==Tryz.prog.varsNamed 11)=true:=by kernel_rfl
theorem closedT2:joinedFacts Tryz.prog 11 Tryz.f11 Rows.fnStatsOfStateSpec Rows.fnStatsOfStateRow=true:=by
  unfold joinedFacts
  rw[at1T2,at2T2,at3T2,at4T2,laidOut]
  kernel_rfl
theorem overT2:Rows.fnStatsOfStateRow.holds Tryz.pinned (OpenSpec.ofChange Rows.fnStatsOfStateSpec):=
  OpenClaim.holds_of_wide 11 Tryz.f11 rfl rfl rfl rfl rfl rfl rfl ⟨rfl,rfl,rfl,rfl,rfl⟩ rfl rfl rfl rfl rfl (by kernel_rfl) Tryz.func11 closedT2
    (of_decide_eq_true (by kernel_rfl)) (by unfold Func.isWrapper;first|(rw[aj (by decide+kernel)];kernel_rfl)|(rw[ae (by decide+kernel)];exact⟨rfl,rfl⟩))
    (fun os started H enc _=>liftedT2 os started H enc)
theorem provedT2:Rows.FnStatsOfStateSaid:=overT2
end Go.Proofs.YtkoifinbblcbiaaGreat.fnStatsOfState
