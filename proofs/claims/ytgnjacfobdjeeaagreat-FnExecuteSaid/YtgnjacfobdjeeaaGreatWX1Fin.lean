/- FnExecute: for every input that can be read, the law's call returns true and leaves its arguments as they were. No condition. -/
import Derived.OpenShut
import Derived.ProofKit
import Derived.Test.YtgnjacfobdjeeaaGreatRows
import Derived.WalkKit
import Derived.Test.YtgnjacfobdjeeaaGreatW20
namespace Go.Proofs.YtgnjacfobdjeeaaGreat.fnExecute
open Go.ChangeShapes Go.WideShapes Go.ChangeAt Go.RowKit Go.Vc
set_option linter.unusedVariables false
set_option maxRecDepth 100000
theorem aR:ownKnob Tryz.prog.godebug=none:=by kernel_rfl
theorem laidOut:laidOutB Tryz.prog=true:=by kernel_rfl
theorem zi{W W':World}(hs:od W W')(hx:J W.heap W'.heap):Below W.heap.size W W':=⟨hs.os,hs.tape,hs.output,hx.size,hx.same⟩
theorem Rj(H:Type)(enc:TypeId×Value->H)(W:World)(bY:Nat)(args:Array Value)(ds gs:List (DataW H))(before:List MemPlace)
    (hval:∀(j:Nat) t v,Tryz.f6.params[j]? =some t->args[j]? =some v->Value.okWide Tryz.prog W .any bY t v)
    (hW:DataW.Whole enc Tryz.prog Tryz.f6.params.toList Rows.fnExecuteSpec.vars false W args.toList ds gs before):
    Calls Tryz.prog 6 args W fun e W'=>∃v,e=.returned v/\Rows.fnExecuteSpec.post enc Tryz.prog Tryz.f6 false true false false W args v W':=by
  have hW':=hW
  obtain⟨p,q,hA0,hV,rfl,hfz,hnd⟩:=hW
  have hA:DataW.TrodAll enc Tryz.prog W 0 (fun _=>true) true Tryz.f6.params.toList args.toList ds p:=hA0
  rw[Tryz.params6]at hA hval
  obtain⟨v0,d0,rfl,rfl,h0⟩:=trodAll_one hA
  obtain⟨rfl,rfl⟩:=trodVars_none hV
  obtain⟨x,rfl,hb⟩:=Hc (t:=wA) (e:=Li) (by kernel_rfl) (by kernel_rfl) (by kernel_rfl) (hval 0 wA v0 rfl rfl) h0
  refine(Fo hb W rfl).mono fun e W' ⟨v,he,hs,hv,hx⟩=>?_
  subst he hv
  exact⟨_,rfl,uS (t:=4) laidOut (by kernel_rfl) (by kernel_rfl) (by kernel_rfl) rfl hW' rfl rfl rfl (zi hs hx)⟩
theorem Ug(os:Os)(started:os.Started)(H:Type)(enc:TypeId×Value->H):
    ReturnsInHanded {} Tryz.checked os 6 .any (Rows.fnExecuteSpec.pre6 enc Tryz.prog Tryz.f6 Rows.fnExecuteRow.domain false) (Rows.fnExecuteSpec.post enc Tryz.prog Tryz.f6 false true false false):=by
  refine returnsInHanded_of_change (C:=Tryz.checked) aR started (by kernel_rfl) Tryz.func6
    (ChangeSpec.witness6 (enc:=enc) (C:=Tryz.checked) false ⟨#[],#[.slice none 0 0],[]⟩ 8 (by kernel_rfl) (by kernel_rfl) (by kernel_rfl) (by kernel_rfl) (by kernel_rfl)) ?_
  intro W bY args ds gs before hval hW _ _
  exact Rj H enc W bY args ds gs before hval hW
theorem Zh:(Rows.fnExecuteRow.inPlace==Tryz.prog.inPlace 6)=true:=by kernel_rfl
theorem Zk:(Rows.fnExecuteRow.unfollowed==Tryz.prog.unfollowed 6)=true:=by kernel_rfl
theorem Zn:(Rows.fnExecuteRow.recurses==Tryz.prog.recurses 6)=true:=by kernel_rfl
theorem Zq:(Rows.fnExecuteRow.named==Tryz.prog.varsNamed 6)=true:=by kernel_rfl
theorem TW:joinedFacts Tryz.prog 6 Tryz.f6 Rows.fnExecuteSpec Rows.fnExecuteRow=true:=by
  unfold joinedFacts
  rw[Zh,Zk,Zn,Zq,laidOut]
  kernel_rfl
theorem XI:Rows.fnExecuteRow.holds Tryz.pinned (OpenSpec.ofChange Rows.fnExecuteSpec):=
  OpenClaim.holds_of_wide 6 Tryz.f6 rfl rfl rfl rfl rfl rfl rfl ⟨rfl,rfl,rfl,rfl,rfl⟩ rfl rfl rfl rfl rfl (by kernel_rfl) Tryz.func6 TW
    (Db (by kernel_rfl)) (by unfold Func.isWrapper;first|(rw[ao (by decide+kernel)];kernel_rfl)|(rw[ae (by decide+kernel)];exact⟨rfl,rfl⟩))
    (fun os started H enc _=>Ug os started H enc)
theorem YP:Rows.FnExecuteSaid:=XI
end Go.Proofs.YtgnjacfobdjeeaaGreat.fnExecute
