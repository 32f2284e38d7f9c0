/- FnRunStateOne: for every input that can be read, the law's call returns true and leaves its arguments as they were. No condition. -/
import Derived.OpenShut
import Derived.ProofKit
import Derived.Test.YtkoifinbblcbiaaGreatRows
import Derived.WalkKit
import Derived.Test.YtkoifinbblcbiaaGreatSH06
namespace Go.Proofs.YtkoifinbblcbiaaGreat.fnRunStateOne
open Go.ChangeShapes Go.WideShapes Go.ChangeAt Go.RowKit Go.Vc
set_option linter.unusedVariables false
set_option maxRecDepth 100000
theorem aR:ownKnob Tryz.prog.godebug=none:=by kernel_rfl
theorem laidOut:laidOutB Tryz.prog=true:=by kernel_rfl
theorem below_of{W W':World}(hs:pI W W')(hx:J W.heap W'.heap):Below W.heap.size W W':=⟨hs.os,hs.tape,hs.output,hx.size,hx.same⟩
theorem contractS8(H:Type)(enc:TypeId×Value->H)(W:World)(cr:Nat)(args:Array Value)(ds gs:List (DataW H))(before:List MemPlace)
    (hval:∀(j:Nat) t v,Tryz.f8.params[j]? =some t->args[j]? =some v->Value.okWide Tryz.prog W .any cr t v)
    (hW:DataW.Whole enc Tryz.prog Tryz.f8.params.toList Rows.fnRunStateOneSpec.vars false W args.toList ds gs before):
    Calls Tryz.prog 8 args W fun e W'=>∃v,e=.returned v/\Rows.fnRunStateOneSpec.post enc Tryz.prog Tryz.f8 false true false false W args v W':=by
  have hW':=hW
  obtain⟨p,q,hA0,hV,rfl,hfz,hnd⟩:=hW
  have hA:DataW.TrodAll enc Tryz.prog W 0 (fun _=>true) true Tryz.f8.params.toList args.toList ds p:=hA0
  rw[Tryz.params8]at hA hval
  obtain⟨v0,d0,rfl,rfl,h0⟩:=trodAll_one hA
  obtain⟨rfl,rfl⟩:=trodVars_none hV
  obtain⟨x,rfl,hb⟩:=S0 (t:=QB) (e:=Uz) (by kernel_rfl) (by kernel_rfl) (by kernel_rfl) (hval 0 QB v0 rfl rfl) h0
  refine(y8 hb W rfl).mono fun e W' ⟨v,he,hs,hv,hx⟩=>?_
  subst he hv
  exact⟨_,rfl,Ni (t:=4) laidOut (by kernel_rfl) (by kernel_rfl) (by kernel_rfl) rfl hW' rfl rfl rfl (below_of hs hx)⟩
theorem liftedS8(os:Os)(started:os.Started)(H:Type)(enc:TypeId×Value->H):
    ReturnsInHanded {} Tryz.checked os 8 .any (Rows.fnRunStateOneSpec.pre6 enc Tryz.prog Tryz.f8 Rows.fnRunStateOneRow.domain false) (Rows.fnRunStateOneSpec.post enc Tryz.prog Tryz.f8 false true false false):=by
  refine returnsInHanded_of_change (C:=Tryz.checked) aR started (by kernel_rfl) Tryz.func8
    (ChangeSpec.witness6 (enc:=enc) (C:=Tryz.checked) false ⟨#[],#[.slice none 0 0],[]⟩ 8 (by kernel_rfl) (by kernel_rfl) (by kernel_rfl) (by kernel_rfl) (by kernel_rfl)) ?_
  intro W cr args ds gs before hval hW _ _
  exact contractS8 H enc W cr args ds gs before hval hW
theorem at1S8:(Rows.fnRunStateOneRow.inPlace==Tryz.prog.inPlace 8)=true:=by kernel_rfl
theorem at2S8:(Rows.fnRunStateOneRow.unfollowed==Tryz.prog.unfollowed 8)=true:=by kernel_rfl
theorem at3S8:(Rows.fnRunStateOneRow.recurses==Tryz.prog.recurses 8)=true:=by kernel_rfl
theorem at4S8:(Rows.fnRunStateOneRow.named==Tryz.prog.varsNamed 8)=true:=by kernel_rfl
theorem closedS8:joinedFacts Tryz.prog 8 Tryz.f8 Rows.fnRunStateOneSpec Rows.fnRunStateOneRow=true:=by
  unfold joinedFacts
  rw[at1S8,at2S8,at3S8,at4S8,laidOut]
  kernel_rfl
theorem overS8:Rows.fnRunStateOneRow.holds Tryz.pinned (OpenSpec.ofChange Rows.fnRunStateOneSpec):=
  OpenClaim.holds_of_wide 8 Tryz.f8 rfl rfl rfl rfl rfl rfl rfl ⟨rfl,rfl,rfl,rfl,rfl⟩ rfl rfl rfl rfl rfl (by kernel_rfl) Tryz.func8 closedS8
    (of_decide_eq_true (by kernel_rfl)) (by unfold Func.isWrapper;first|(rw[an (by decide+kernel)];kernel_rfl)|(rw[ae (by decide+kernel)];exact⟨rfl,rfl⟩))
    (fun os started H enc _=>liftedS8 os started H enc)
theorem provedS8:Rows.FnRunStateOneSaid:=overS8
end Go.Proofs.YtkoifinbblcbiaaGreat.fnRunStateOne
