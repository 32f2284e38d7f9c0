/- FnStatsOf: for every input that can be read, the law's call returns true and leaves its arguments as they were. No condition. -/
import Derived.OpenShut
import Derived.ProofKit
import Derived.Test.YtkoifinbblcbiaaGreatRows
import Derived.WalkKit
import Derived.Test.YtkoifinbblcbiaaGreatTA06
namespace Go.Proofs.YtkoifinbblcbiaaGreat.fnStatsOf
open Go.ChangeShapes Go.WideShapes Go.ChangeAt Go.RowKit Go.Vc
set_option linter.unusedVariables false
set_option maxRecDepth 100000
theorem aR:ownKnob Tryz.prog.godebug=none:=by kernel_rfl
theorem laidOut:laidOutB Tryz.prog=true:=by kernel_rfl
theorem below_of{W W':World}(hs:pI W W')(hx:J W.heap W'.heap):Below W.heap.size W W':=⟨hs.os,hs.tape,hs.output,hx.size,hx.same⟩
theorem contractT1(H:Type)(enc:TypeId×Value->H)(W:World)(cv:Nat)(args:Array Value)(ds gs:List (DataW H))(before:List MemPlace)
    (hval:∀(j:Nat) t v,Tryz.f10.params[j]? =some t->args[j]? =some v->Value.okWide Tryz.prog W .any cv t v)
    (hW:DataW.Whole enc Tryz.prog Tryz.f10.params.toList Rows.fnStatsOfSpec.vars false W args.toList ds gs before):
    Calls Tryz.prog 10 args W fun e W'=>∃v,e=.returned v/\Rows.fnStatsOfSpec.post enc Tryz.prog Tryz.f10 false true false false W args v W':=by
  have hW':=hW
  obtain⟨p,q,hA0,hV,rfl,hfz,hnd⟩:=hW
  have hA:DataW.TrodAll enc Tryz.prog W 0 (fun _=>true) true Tryz.f10.params.toList args.toList ds p:=hA0
  rw[Tryz.params10]at hA hval
  obtain⟨v0,d0,rfl,rfl,h0⟩:=trodAll_one hA
  obtain⟨rfl,rfl⟩:=trodVars_none hV
  obtain⟨x,rfl,hb⟩:=SR (t:=Qx) (e:=UB) (by kernel_rfl) (by kernel_rfl) (by kernel_rfl) (hval 0 Qx v0 rfl rfl) h0
  refine(Gd hb W rfl).mono fun e W' ⟨v,he,hs,hv,hx⟩=>?_
  subst he hv
  exact⟨_,rfl,MT (t:=4) laidOut (by kernel_rfl) (by kernel_rfl) (by kernel_rfl) rfl hW' rfl rfl rfl (below_of hs hx)⟩
theorem liftedT1(os:Os)(started:os.Started)(H:Type)(enc:TypeId×Value->H):
    ReturnsInHanded {} Tryz.checked os 10 .any (Rows.fnStatsOfSpec.pre6 enc Tryz.prog Tryz.f10 Rows.fnStatsOfRow.domain false) (Rows.fnStatsOfSpec.post enc Tryz.prog Tryz.f10 false true false false):=by
  refine returnsInHanded_of_change (C:=Tryz.checked) aR started (by kernel_rfl) Tryz.func10
    (ChangeSpec.witness6 (enc:=enc) (C:=Tryz.checked) false ⟨#[],#[.slice none 0 0],[]⟩ 8 (by kernel_rfl) (by kernel_rfl) (by kernel_rfl) (by kernel_rfl) (by kernel_rfl)) ?_
  intro W cv args ds gs before hval hW _ _
  exact contractT1 H enc W cv args ds gs before hval hW
theorem at1T1:(Rows.fnStatsOfRow.inPlace==Tryz.prog.inPlace 10)=true:=by kernel_rfl
theorem at2T1:(Rows.fnStatsOfRow.unfollowed==Tryz.prog.unfollowed 10)=true:=by kernel_rfl
theorem at3T1:(Rows.fnStatsOfRow.recurses==Tryz.prog.recurses 10)=true:=by kernel_rfl
theorem at4T1:(Rows.fnStatsOfRow.named==Tryz.prog.varsNamed 10)=true:=by kernel_rfl
theorem closedT1:joinedFacts Tryz.prog 10 Tryz.f10 Rows.fnStatsOfSpec Rows.fnStatsOfRow=true:=by
  unfold joinedFacts
  rw[at1T1,at2T1,at3T1,at4T1,laidOut]
  kernel_rfl
theorem overT1:Rows.fnStatsOfRow.holds Tryz.pinned (OpenSpec.ofChange Rows.fnStatsOfSpec):=
  OpenClaim.holds_of_wide 10 Tryz.f10 rfl rfl rfl rfl rfl rfl rfl ⟨rfl,rfl,rfl,rfl,rfl⟩ rfl rfl rfl rfl rfl (by kernel_rfl) Tryz.func10 closedT1
    (of_decide_eq_true (by kernel_rfl)) (by unfold Func.isWrapper;first|(rw[aj (by decide+kernel)];kernel_rfl)|(rw[ae (by decide+kernel)];exact⟨rfl,rfl⟩))
    (fun os started H enc _=>liftedT1 os started H enc)
theorem provedT1:Rows.FnStatsOfSaid:=overT1
end Go.Proofs.YtkoifinbblcbiaaGreat.fnStatsOf
