/- FnExecuteEmpty: for every input that can be read, the law's call returns true and leaves its arguments as they were. No condition. -/
import Derived.OpenShut
import Derived.ProofKit
import Derived.Test.YtgnjacfobdjeeaaGreatRows
import Derived.WalkKit
import Derived.Test.YtgnjacfobdjeeaaGreatW20
namespace Go.Proofs.YtgnjacfobdjeeaaGreat.fnExecuteEmpty
open Go.ChangeShapes Go.WideShapes Go.ChangeAt Go.RowKit Go.Vc
set_option linter.unusedVariables false
set_option maxRecDepth 100000
theorem aR:ownKnob Tryz.prog.godebug=none:=by kernel_rfl
theorem laidOut:laidOutB Tryz.prog=true:=by kernel_rfl
theorem zi{W W':World}(hs:od W W')(hx:J W.heap W'.heap):Below W.heap.size W W':=⟨hs.os,hs.tape,hs.output,hx.size,hx.same⟩
theorem Rk(H:Type)(enc:TypeId×Value->H)(W:World)(bY:Nat)(args:Array Value)(ds gs:List (DataW H))(before:List MemPlace)
    (hval:∀(j:Nat) t v,Tryz.f7.params[j]? =some t->args[j]? =some v->Value.okWide Tryz.prog W .any bY t v)
    (hW:DataW.Whole enc Tryz.prog Tryz.f7.params.toList Rows.fnExecuteEmptySpec.vars false W args.toList ds gs before):
    Calls Tryz.prog 7 args W fun e W'=>∃v,e=.returned v/\Rows.fnExecuteEmptySpec.post enc Tryz.prog Tryz.f7 false true false false W args v W':=by
  have hW':=hW
  obtain⟨p,q,hA0,hV,rfl,hfz,hnd⟩:=hW
  have hA:DataW.TrodAll enc Tryz.prog W 0 (fun _=>true) true Tryz.f7.params.toList args.toList ds p:=hA0
  rw[Tryz.params7]at hA hval
  obtain⟨v0,d0,rfl,rfl,h0⟩:=trodAll_one hA
  obtain⟨rfl,rfl⟩:=trodVars_none hV
  obtain⟨x,rfl,hb⟩:=Hc (t:=wA) (e:=Li) (by kernel_rfl) (by kernel_rfl) (by kernel_rfl) (hval 0 wA v0 rfl rfl) h0
  refine(wP hb W rfl).mono fun e W' ⟨v,he,hs,hv,hx⟩=>?_
  subst he hv
  exact⟨_,rfl,uS (t:=4) laidOut (by kernel_rfl) (by kernel_rfl) (by kernel_rfl) rfl hW' rfl rfl rfl (zi hs hx)⟩
theorem Uh(os:Os)(started:os.Started)(H:Type)(enc:TypeId×Value->H):
    ReturnsInHanded {} Tryz.checked os 7 .any (Rows.fnExecuteEmptySpec.pre6 enc Tryz.prog Tryz.f7 Rows.fnExecuteEmptyRow.domain false) (Rows.fnExecuteEmptySpec.post enc Tryz.prog Tryz.f7 false true false false):=by
  refine returnsInHanded_of_change (C:=Tryz.checked) aR started (by kernel_rfl) Tryz.func7
    (ChangeSpec.witness6 (enc:=enc) (C:=Tryz.checked) false ⟨#[],#[.slice none 0 0],[]⟩ 8 (by kernel_rfl) (by kernel_rfl) (by kernel_rfl) (by kernel_rfl) (by kernel_rfl)) ?_
  intro W bY args ds gs before hval hW _ _
  exact Rk H enc W bY args ds gs before hval hW
theorem Zi:(Rows.fnExecuteEmptyRow.inPlace==Tryz.prog.inPlace 7)=true:=by kernel_rfl
theorem Zl:(Rows.fnExecuteEmptyRow.unfollowed==Tryz.prog.unfollowed 7)=true:=by kernel_rfl
theorem Zo:(Rows.fnExecuteEmptyRow.recurses==Tryz.prog.recurses 7)=true:=by kernel_rfl
theorem Zr:(Rows.fnExecuteEmptyRow.named==Tryz.prog.varsNamed 7)=true:=by kernel_rfl
theorem TX:joinedFacts Tryz.prog 7 Tryz.f7 Rows.fnExecuteEmptySpec Rows.fnExecuteEmptyRow=true:=by
  unfold joinedFacts
  rw[Zi,Zl,Zo,Zr,laidOut]
  kernel_rfl
theorem XJ:Rows.fnExecuteEmptyRow.holds Tryz.pinned (OpenSpec.ofChange Rows.fnExecuteEmptySpec):=
  OpenClaim.holds_of_wide 7 Tryz.f7 rfl rfl rfl rfl rfl rfl rfl ⟨rfl,rfl,rfl,rfl,rfl⟩ rfl rfl rfl rfl rfl (by kernel_rfl) Tryz.func7 TX
    (Db (by kernel_rfl)) (by unfold Func.isWrapper;first|(rw[ao (by decide+kernel)];kernel_rfl)|(rw[ae (by decide+kernel)];exact⟨rfl,rfl⟩))
    (fun os started H enc _=>Uh os started H enc)
theorem YQ:Rows.FnExecuteEmptySaid:=XJ
end Go.Proofs.YtgnjacfobdjeeaaGreat.fnExecuteEmpty
