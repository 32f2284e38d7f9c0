/- FnStatsOfTail: for every input that can be read, the law's call returns true and leaves its arguments as they were. No condition. -/
import Derived.OpenShut
import Derived.ProofKit
import Derived.Test.YtbbbdejieenniaaGreatRows
import Derived.WalkKit
import Derived.Test.YtbbbdejieenniaaGreatRB05
namespace Go.Proofs.YtbbbdejieenniaaGreat.fnStatsOfTail
open Go.ChangeShapes Go.WideShapes Go.ChangeAt Go.RowKit Go.Vc
set_option linter.unusedVariables false
set_option maxRecDepth 100000
theorem bF:ownKnob Tryz.prog.godebug=none:=by kernel_rfl
theorem laidOut:laidOutB Tryz.prog=true:=by kernel_rfl
theorem ZX{W W':World}(hs:rY W W')(hx:J W.heap W'.heap):Below W.heap.size W W':=⟨hs.os,hs.XG,hs.Qt,hx.aQ,hx.bB⟩
theorem contractR2(H:Type)(enc:TypeId×Value->H)(W:World)(de:Nat)(args:Array Value)(ds gs:List (DataW H))(before:List MemPlace)
    (hval:∀(j:Nat) t v,Tryz.f4.params[j]? =some t->args[j]? =some v->Value.okWide Tryz.prog W .any de t v)
    (hW:DataW.Whole enc Tryz.prog Tryz.f4.params.toList Rows.fnStatsOfTailSpec.vars false W args.toList ds gs before):
    Calls Tryz.prog 4 args W fun e W'=>∃v,e=.returned v/\Rows.fnStatsOfTailSpec.post enc Tryz.prog Tryz.f4 false true false false W args v W':=by
  have hW':=hW
  obtain⟨p,q,hA0,hV,rfl,hfz,hnd⟩:=hW
  have hA:DataW.TrodAll enc Tryz.prog W 0 (fun _=>true) true Tryz.f4.params.toList args.toList ds p:=hA0
  rw[Tryz.params4]at hA hval
  obtain⟨v0,d0,rfl,rfl,h0⟩:=trodAll_one hA
  obtain⟨rfl,rfl⟩:=trodVars_none hV
  obtain⟨x,rfl,hb⟩:=Zi (t:=V9) (e:=aaS) (by kernel_rfl) (by kernel_rfl) (by kernel_rfl) (hval 0 V9 v0 rfl rfl) h0
  refine(Ds hb W rfl).mono fun e W' ⟨v,he,hs,hv,hx⟩=>?_
  subst he hv
  exact⟨_,rfl,RQ (t:=4) laidOut (by kernel_rfl) (by kernel_rfl) (by kernel_rfl) rfl hW' rfl rfl rfl (ZX hs hx)⟩
theorem liftedR2(os:Os)(started:os.Started)(H:Type)(enc:TypeId×Value->H):
    ReturnsInHanded {} Tryz.checked os 4 .any (Rows.fnStatsOfTailSpec.pre6 enc Tryz.prog Tryz.f4 Rows.fnStatsOfTailRow.domain false) (Rows.fnStatsOfTailSpec.post enc Tryz.prog Tryz.f4 false true false false):=by
  refine returnsInHanded_of_change (C:=Tryz.checked) bF started (by kernel_rfl) Tryz.func4
    (ChangeSpec.witness6 (enc:=enc) (C:=Tryz.checked) false ⟨#[],#[.slice none 0 0],[]⟩ 8 (by kernel_rfl) (by kernel_rfl) (by kernel_rfl) (by kernel_rfl) (by kernel_rfl)) ?_
  intro W de args ds gs before hval hW _ _
  exact contractR2 H enc W de args ds gs before hval hW
theorem at1R2:(Rows.fnStatsOfTailRow.inPlace==Tryz.prog.inPlace 4)=true:=by kernel_rfl
theorem at2R2:(Rows.fnStatsOfTailRow.unfollowed==Tryz.prog.unfollowed 4)=true:=by kernel_rfl
theorem at3R2:(Rows.fnStatsOfTailRow.recurses==Tryz.prog.recurses 4)=true:=by kernel_rfl
theorem at4R2:(Rows.fnStatsOfTailRow.named==Tryz.prog.varsNamed 4)=true:=by kernel_rfl
theorem closedR2:joinedFacts Tryz.prog 4 Tryz.f4 Rows.fnStatsOfTailSpec Rows.fnStatsOfTailRow=true:=by
  unfold joinedFacts
  rw[at1R2,at2R2,at3R2,at4R2,laidOut]
  kernel_rfl
theorem overR2:Rows.fnStatsOfTailRow.holds Tryz.pinned (OpenSpec.ofChange Rows.fnStatsOfTailSpec):=
  OpenClaim.holds_of_wide 4 Tryz.f4 rfl rfl rfl rfl rfl rfl rfl ⟨rfl,rfl,rfl,rfl,rfl⟩ rfl rfl rfl rfl rfl (by kernel_rfl) Tryz.func4 closedR2
    (of_decide_eq_true (by kernel_rfl)) (by unfold Func.isWrapper;first|(rw[a8 (by decide+kernel)];kernel_rfl)|(rw[aV (by decide+kernel)];exact⟨rfl,rfl⟩))
    (fun os started H enc _=>liftedR2 os started H enc)
theorem provedR2:Rows.FnStatsOfTailSaid:=overR2
end Go.Proofs.YtbbbdejieenniaaGreat.fnStatsOfTail
