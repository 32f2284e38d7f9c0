/- FnStepStateSmall: for every input that can be read, the law's call returns true and leaves its arguments as they were. No condition. -/
import Derived.OpenShut
import Derived.ProofKit
import Derived.Test.YtkoifinbblcbiaaGreatRows
import Derived.WalkKit
import Derived.Test.YtkoifinbblcbiaaGreatSI06
namespace Go.Proofs.YtkoifinbblcbiaaGreat.fnStepStateSmall
open Go.ChangeShapes Go.WideShapes Go.ChangeAt Go.RowKit Go.Vc
set_option linter.unusedVariables false
set_option maxRecDepth 100000
theorem aR:ownKnob Tryz.prog.godebug=none:=by kernel_rfl
theorem laidOut:laidOutB Tryz.prog=true:=by kernel_rfl
theorem below_of{W W':World}(hs:px W W')(hx:J W.heap W'.heap):Below W.heap.size W W':=⟨hs.os,hs.tape,hs.output,hx.size,hx.same⟩
theorem contractS9(H:Type)(enc:TypeId×Value->H)(W:World)(cz:Nat)(args:Array Value)(ds gs:List (DataW H))(before:List MemPlace)
    (hval:∀(j:Nat) t v,Tryz.f9.params[j]? =some t->args[j]? =some v->Value.okWide Tryz.prog W .any cz t v)
    (hW:DataW.Whole enc Tryz.prog Tryz.f9.params.toList Rows.fnStepStateSmallSpec.vars false W args.toList ds gs before):
    Calls Tryz.prog 9 args W fun e W'=>∃v,e=.returned v/\Rows.fnStepStateSmallSpec.post enc Tryz.prog Tryz.f9 false true false false W args v W':=by
  have hW':=hW
  obtain⟨p,q,hA0,hV,rfl,hfz,hnd⟩:=hW
  have hA:DataW.TrodAll enc Tryz.prog W 0 (fun _=>true) true Tryz.f9.params.toList args.toList ds p:=hA0
  rw[Tryz.params9]at hA hval
  obtain⟨v0,d0,rfl,rfl,h0⟩:=trodAll_one hA
  obtain⟨rfl,rfl⟩:=trodVars_none hV
  obtain⟨x,rfl,hb⟩:=Td (t:=QF) (e:=UC) (by kernel_rfl) (by kernel_rfl) (by kernel_rfl) (hval 0 QF v0 rfl rfl) h0
  refine(vj hb W rfl).mono fun e W' ⟨v,he,hs,hv,hx⟩=>?_
  subst he hv
  exact⟨_,rfl,No (t:=4) laidOut (by kernel_rfl) (by kernel_rfl) (by kernel_rfl) rfl hW' rfl rfl rfl (below_of hs hx)⟩
theorem liftedS9(os:Os)(started:os.Started)(H:Type)(enc:TypeId×Value->H):
    ReturnsInHanded {} Tryz.checked os 9 .any (Rows.fnStepStateSmallSpec.pre6 enc Tryz.prog Tryz.f9 Rows.fnStepStateSmallRow.domain false) (Rows.fnStepStateSmallSpec.post enc Tryz.prog Tryz.f9 false true false false):=by
  refine returnsInHanded_of_change (C:=Tryz.checked) aR started (by kernel_rfl) Tryz.func9
    (ChangeSpec.witness6 (enc:=enc) (C:=Tryz.checked) false ⟨#[],#[.slice none 0 0],[]⟩ 8 (by kernel_rfl) (by kernel_rfl) (by kernel_rfl) (by kernel_rfl) (by kernel_rfl)) ?_
  intro W cz args ds gs before hval hW _ _
  exact contractS9 H enc W cz args ds gs before hval hW
theorem at1S9:(Rows.fnStepStateSmallRow.inPlace==Tryz.prog.inPlace 9)=true:=by kernel_rfl
theorem at2S9:(Rows.fnStepStateSmallRow.unfollowed==Tryz.prog.unfollowed 9)=true:=by kernel_rfl
theorem at3S9:(Rows.fnStepStateSmallRow.recurses==Tryz.prog.recurses 9)=true:=by kernel_rfl
theorem at4S9:(Rows.fnStepStateSmallRow.named==Tryz.prog.varsNamed 9)=true:=by kernel_rfl
theorem closedS9:joinedFacts Tryz.prog 9 Tryz.f9 Rows.fnStepStateSmallSpec Rows.fnStepStateSmallRow=true:=by
  unfold joinedFacts
  rw[at1S9,at2S9,at3S9,at4S9,laidOut]
  kernel_rfl
theorem overS9:Rows.fnStepStateSmallRow.holds Tryz.pinned (OpenSpec.ofChange Rows.fnStepStateSmallSpec):=
  OpenClaim.holds_of_wide 9 Tryz.f9 rfl rfl rfl rfl rfl rfl rfl ⟨rfl,rfl,rfl,rfl,rfl⟩ rfl rfl rfl rfl rfl (by kernel_rfl) Tryz.func9 closedS9
    (of_decide_eq_true (by kernel_rfl)) (by unfold Func.isWrapper;first|(rw[an (by decide+kernel)];kernel_rfl)|(rw[ae (by decide+kernel)];exact⟨rfl,rfl⟩))
    (fun os started H enc _=>liftedS9 os started H enc)
theorem provedS9:Rows.FnStepStateSmallSaid:=overS9
end Go.Proofs.YtkoifinbblcbiaaGreat.fnStepStateSmall
