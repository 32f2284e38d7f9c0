/- FnGarbageLate: for every input that can be read, the law's call returns true and leaves its arguments as they were. No condition. -/
import Derived.OpenShut
import Derived.ProofKit
import Derived.Test.YtdalfjkmdekijaaGreatRows
import Derived.WalkKit
import Derived.Test.YtdalfjkmdekijaaGreatUG05
namespace Go.Proofs.YtdalfjkmdekijaaGreat.fnGarbageLate
open Go.ChangeShapes Go.WideShapes Go.ChangeAt Go.RowKit Go.Vc
set_option linter.unusedVariables false
set_option maxRecDepth 100000
theorem ba:ownKnob Tryz.prog.godebug=none:=by kernel_rfl
theorem laidOut:laidOutB Tryz.prog=true:=by kernel_rfl
theorem SX{W W':World}(hs:oK W W')(hx:J W.heap W'.heap):Below W.heap.size W W':=⟨hs.os,hs.tape,hs.output,hx.size,hx.same⟩
theorem P9(H:Type)(enc:TypeId×Value->H)(W:World)(cG:Nat)(args:Array Value)(ds gs:List (DataW H))(before:List MemPlace)
    (hval:∀(j:Nat) t v,Tryz.f4.params[j]? =some t->args[j]? =some v->Value.okWide Tryz.prog W .any cG t v)
    (hW:DataW.Whole enc Tryz.prog Tryz.f4.params.toList Rows.fnGarbageLateSpec.vars false W args.toList ds gs before):
    Calls Tryz.prog 4 args W fun e W'=>∃v,e=.returned v/\Rows.fnGarbageLateSpec.post enc Tryz.prog Tryz.f4 false true false false W args v W':=by
  have hW':=hW
  obtain⟨p,q,hA0,hV,rfl,hfz,hnd⟩:=hW
  have hA:DataW.TrodAll enc Tryz.prog W 0 (fun _=>true) true Tryz.f4.params.toList args.toList ds p:=hA0
  rw[Tryz.params4]at hA hval
  obtain⟨v0,d0,rfl,rfl,h0⟩:=trodAll_one hA
  obtain⟨rfl,rfl⟩:=trodVars_none hV
  obtain⟨x,rfl,hb⟩:=R1 (t:=PI) (e:=Uf) (by kernel_rfl) (by kernel_rfl) (by kernel_rfl) (hval 0 PI v0 rfl rfl) h0
  refine(xF hb W rfl).mono fun e W' ⟨v,he,hs,hv,hx⟩=>?_
  subst he hv
  exact⟨_,rfl,Mc (t:=4) laidOut (by kernel_rfl) (by kernel_rfl) (by kernel_rfl) rfl hW' rfl rfl rfl (SX hs hx)⟩
theorem TF(os:Os)(started:os.Started)(H:Type)(enc:TypeId×Value->H):
    ReturnsInHanded {} Tryz.checked os 4 .any (Rows.fnGarbageLateSpec.pre6 enc Tryz.prog Tryz.f4 Rows.fnGarbageLateRow.domain false) (Rows.fnGarbageLateSpec.post enc Tryz.prog Tryz.f4 false true false false):=by
  refine returnsInHanded_of_change (C:=Tryz.checked) ba started (by kernel_rfl) Tryz.func4
    (ChangeSpec.witness6 (enc:=enc) (C:=Tryz.checked) false ⟨#[],#[.slice none 0 0],[]⟩ 8 (by kernel_rfl) (by kernel_rfl) (by kernel_rfl) (by kernel_rfl) (by kernel_rfl)) ?_
  intro W cG args ds gs before hval hW _ _
  exact P9 H enc W cG args ds gs before hval hW
theorem XS:(Rows.fnGarbageLateRow.inPlace==Tryz.prog.inPlace 4)=true:=by kernel_rfl
theorem XT:(Rows.fnGarbageLateRow.unfollowed==Tryz.prog.unfollowed 4)=true:=by kernel_rfl
theorem XU:(Rows.fnGarbageLateRow.recurses==Tryz.prog.recurses 4)=true:=by kernel_rfl
theorem XV:(Rows.fnGarbageLateRow.named==Tryz.prog.varsNamed 4)=true:=by kernel_rfl
theorem Tc:joinedFacts Tryz.prog 4 Tryz.f4 Rows.fnGarbageLateSpec Rows.fnGarbageLateRow=true:=by
  unfold joinedFacts
  rw[XS,XT,XU,XV,laidOut]
  kernel_rfl
theorem W0:Rows.fnGarbageLateRow.holds Tryz.pinned (OpenSpec.ofChange Rows.fnGarbageLateSpec):=
  OpenClaim.holds_of_wide 4 Tryz.f4 rfl rfl rfl rfl rfl rfl rfl ⟨rfl,rfl,rfl,rfl,rfl⟩ rfl rfl rfl rfl rfl (by kernel_rfl) Tryz.func4 Tc
    (of_decide_eq_true (by kernel_rfl)) (by unfold Func.isWrapper;first|(rw[ak (by decide+kernel)];kernel_rfl)|(rw[ae (by decide+kernel)];exact⟨rfl,rfl⟩))
    (fun os started H enc _=>TF os started H enc)
theorem Yz:Rows.FnGarbageLateSaid:=W0
end Go.Proofs.YtdalfjkmdekijaaGreat.fnGarbageLate
