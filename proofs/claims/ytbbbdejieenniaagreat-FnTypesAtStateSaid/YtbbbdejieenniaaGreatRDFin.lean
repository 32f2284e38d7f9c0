/- FnTypesAtState: for every input that can be read, the law's call returns true and leaves its arguments as they were. No condition. -/
import Derived.OpenShut
import Derived.ProofKit
import Derived.Test.YtbbbdejieenniaaGreatRows
import Derived.WalkKit
import Derived.Test.YtbbbdejieenniaaGreatRD05
namespace Go.Proofs.YtbbbdejieenniaaGreat.fnTypesAtState
open Go.ChangeShapes Go.WideShapes Go.ChangeAt Go.RowKit Go.Vc
set_option linter.unusedVariables false
set_option maxRecDepth 100000
theorem bI:ownKnob Tryz.prog.godebug=none:=by kernel_rfl
theorem laidOut:laidOutB Tryz.prog=true:=by kernel_rfl
theorem Zk{W W':World}(hs:rT W W')(hx:D W.heap W'.heap):Below W.heap.size W W':=⟨hs.os,hs.Xa,hs.Qn,hx.aQ,hx.bG⟩
theorem contractR4(H:Type)(enc:TypeId×Value->H)(W:World)(cW:Nat)(args:Array Value)(ds gs:List (DataW H))(before:List MemPlace)
    (hval:∀(j:Nat) t v,Tryz.f6.params[j]? =some t->args[j]? =some v->Value.okWide Tryz.prog W .any cW t v)
    (hW:DataW.Whole enc Tryz.prog Tryz.f6.params.toList Rows.fnTypesAtStateSpec.vars false W args.toList ds gs before):
    Calls Tryz.prog 6 args W fun e W'=>∃v,e=.returned v/\Rows.fnTypesAtStateSpec.post enc Tryz.prog Tryz.f6 false true false false W args v W':=by
  have hW':=hW
  obtain⟨p,q,hA0,hV,rfl,hfz,hnd⟩:=hW
  have hA:DataW.TrodAll enc Tryz.prog W 0 (fun _=>true) true Tryz.f6.params.toList args.toList ds p:=hA0
  rw[Tryz.params6]at hA hval
  obtain⟨v0,d0,rfl,rfl,h0⟩:=trodAll_one hA
  obtain⟨rfl,rfl⟩:=trodVars_none hV
  obtain⟨x,rfl,hb⟩:=YE (t:=Vs) (e:=aai) (by kernel_rfl) (by kernel_rfl) (by kernel_rfl) (hval 0 Vs v0 rfl rfl) h0
  refine(Bw hb W rfl).mono fun e W' ⟨v,he,hs,hv,hx⟩=>?_
  subst he hv
  exact⟨_,rfl,Rz (t:=4) laidOut (by kernel_rfl) (by kernel_rfl) (by kernel_rfl) rfl hW' rfl rfl rfl (Zk hs hx)⟩
theorem liftedR4(os:Os)(started:os.Started)(H:Type)(enc:TypeId×Value->H):
    ReturnsInHanded {} Tryz.checked os 6 .any (Rows.fnTypesAtStateSpec.pre6 enc Tryz.prog Tryz.f6 Rows.fnTypesAtStateRow.domain false) (Rows.fnTypesAtStateSpec.post enc Tryz.prog Tryz.f6 false true false false):=by
  refine returnsInHanded_of_change (C:=Tryz.checked) bI started (by kernel_rfl) Tryz.func6
    (ChangeSpec.witness6 (enc:=enc) (C:=Tryz.checked) false ⟨#[],#[.slice none 0 0],[]⟩ 8 (by kernel_rfl) (by kernel_rfl) (by kernel_rfl) (by kernel_rfl) (by kernel_rfl)) ?_
  intro W cW args ds gs before hval hW _ _
  exact contractR4 H enc W cW args ds gs before hval hW
theorem at1R4:(Rows.fnTypesAtStateRow.inPlace==Tryz.prog.inPlace 6)=true:=by kernel_rfl
theorem at2R4:(Rows.fnTypesAtStateRow.unfollowed==Tryz.prog.unfollowed 6)=true:=by kernel_rfl
theorem at3R4:(Rows.fnTypesAtStateRow.recurses==Tryz.prog.recurses 6)=true:=by kernel_rfl
theorem at4R4:(Rows.fnTypesAtStateRow.named==Tryz.prog.varsNamed 6)=true:=by kernel_rfl
theorem closedR4:joinedFacts Tryz.prog 6 Tryz.f6 Rows.fnTypesAtStateSpec Rows.fnTypesAtStateRow=true:=by
  unfold joinedFacts
  rw[at1R4,at2R4,at3R4,at4R4,laidOut]
  kernel_rfl
theorem overR4:Rows.fnTypesAtStateRow.holds Tryz.pinned (OpenSpec.ofChange Rows.fnTypesAtStateSpec):=
  OpenClaim.holds_of_wide 6 Tryz.f6 rfl rfl rfl rfl rfl rfl rfl ⟨rfl,rfl,rfl,rfl,rfl⟩ rfl rfl rfl rfl rfl (by kernel_rfl) Tryz.func6 closedR4
    (of_decide_eq_true (by kernel_rfl)) (by unfold Func.isWrapper;first|(rw[bn (by decide+kernel)];kernel_rfl)|(rw[aW (by decide+kernel)];exact⟨rfl,rfl⟩))
    (fun os started H enc _=>liftedR4 os started H enc)
theorem provedR4:Rows.FnTypesAtStateSaid:=overR4
end Go.Proofs.YtbbbdejieenniaaGreat.fnTypesAtState
