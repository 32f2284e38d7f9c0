/- FnValidState: for every input that can be read, the law's call returns true and leaves its arguments as they were. No condition. -/
import Derived.OpenShut
import Derived.ProofKit
import Derived.Test.YtakpkjhmbbfniaaGreatRows
import Derived.WalkKit
import Derived.Test.YtakpkjhmbbfniaaGreatV19
namespace Go.Proofs.YtakpkjhmbbfniaaGreat.fnValidState
open Go.ChangeShapes Go.WideShapes Go.ChangeAt Go.RowKit Go.Vc
set_option linter.unusedVariables false
set_option maxRecDepth 100000
theorem aL:ownKnob Tryz.prog.godebug=none:=by kernel_rfl
theorem laidOut:laidOutB Tryz.prog=true:=by kernel_rfl
theorem Xz{W W':World}(hs:mN W W')(hx:af W.heap W'.heap):Below W.heap.size W W':=⟨hs.os,hs.tape,hs.output,hx.size,hx.same⟩
theorem U9(H:Type)(enc:TypeId×Value->H)(W:World)(bN:Nat)(args:Array Value)(ds gs:List (DataW H))(before:List MemPlace)
    (abK:∀(j:Nat) t v,Tryz.f3.params[j]? =some t->args[j]? =some v->Value.okWide Tryz.prog W .any bN t v)
    (hW:DataW.Whole enc Tryz.prog Tryz.f3.params.toList Rows.fnValidStateSpec.vars false W args.toList ds gs before):
    Calls Tryz.prog 3 args W fun e W'=>∃v,e=.returned v/\Rows.fnValidStateSpec.post enc Tryz.prog Tryz.f3 false true false false W args v W':=by
  have hW':=hW
  obtain⟨p,q,hA0,hV,rfl,Vj,hnd⟩:=hW
  have hA:DataW.TrodAll enc Tryz.prog W 0 (fun _=>true) true Tryz.f3.params.toList args.toList ds p:=hA0
  rw[Tryz.params3]at hA abK
  obtain⟨v0,d0,rfl,rfl,h0⟩:=trodAll_one hA
  obtain⟨rfl,rfl⟩:=trodVars_none hV
  obtain⟨x,rfl,hb⟩:=U8 (t:=PO) (e:=WE) (by kernel_rfl) (by kernel_rfl) (by kernel_rfl) (abK 0 PO v0 rfl rfl) h0
  refine(zt hb W rfl).mono fun e W' ⟨v,he,hs,hv,hx⟩=>?_
  subst he hv
  exact⟨_,rfl,MD (t:=4) laidOut (by kernel_rfl) (by kernel_rfl) (by kernel_rfl) rfl hW' rfl rfl rfl (Xz hs hx)⟩
theorem aaG(os:Os)(started:os.Started)(H:Type)(enc:TypeId×Value->H):
    ReturnsInHanded {} Tryz.checked os 3 .any (Rows.fnValidStateSpec.pre6 enc Tryz.prog Tryz.f3 Rows.fnValidStateRow.domain false) (Rows.fnValidStateSpec.post enc Tryz.prog Tryz.f3 false true false false):=by
  refine returnsInHanded_of_change (C:=Tryz.checked) aL started (by kernel_rfl) Tryz.func3
    (ChangeSpec.witness6 (enc:=enc) (C:=Tryz.checked) false ⟨#[],#[.slice none 0 0],[]⟩ 8 (by kernel_rfl) (by kernel_rfl) (by kernel_rfl) (by kernel_rfl) (by kernel_rfl)) ?_
  intro W bN args ds gs before abK hW _ _
  exact U9 H enc W bN args ds gs before abK hW
theorem ajL:Rows.fnValidStateRow.holds Tryz.pinned (OpenSpec.ofChange Rows.fnValidStateSpec):=
  OpenClaim.holds_of_wide 3 Tryz.f3 rfl rfl rfl rfl rfl rfl rfl ⟨rfl,rfl,rfl,rfl,rfl⟩ rfl rfl rfl rfl rfl (by kernel_rfl) Tryz.func3 (by kernel_rfl)
    (of_decide_eq_true (by kernel_rfl)) (by unfold Func.isWrapper;first|(rw[aFW (by decide+kernel)];kernel_rfl)|(rw[aFS (by decide+kernel)];exact⟨rfl,rfl⟩))
    (fun os started H enc _=>aaG os started H enc)
theorem provedV:Rows.FnValidStateSaid:=ajL
end Go.Proofs.YtakpkjhmbbfniaaGreat.fnValidState
