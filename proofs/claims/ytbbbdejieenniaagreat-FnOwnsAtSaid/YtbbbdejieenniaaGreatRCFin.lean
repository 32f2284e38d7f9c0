/- FnOwnsAt: for every input that can be read, the law's call returns true and leaves its arguments as they were. No condition. -/
import Derived.OpenShut
import Derived.ProofKit
import Derived.Test.YtbbbdejieenniaaGreatRows
import Derived.WalkKit
import Derived.Test.YtbbbdejieenniaaGreatRC05
namespace Go.Proofs.YtbbbdejieenniaaGreat.fnOwnsAt
open Go.ChangeShapes Go.WideShapes Go.ChangeAt Go.RowKit Go.Vc
set_option linter.unusedVariables false
set_option maxRecDepth 100000
theorem bI:ownKnob Tryz.prog.godebug=none:=by kernel_rfl
theorem laidOut:laidOutB Tryz.prog=true:=by kernel_rfl
theorem Zf{W W':World}(hs:rR W W')(hx:D W.heap W'.heap):Below W.heap.size W W':=⟨hs.os,hs.WY,hs.Qk,hx.aQ,hx.bG⟩
theorem contractR3(H:Type)(enc:TypeId×Value->H)(W:World)(cV:Nat)(args:Array Value)(ds gs:List (DataW H))(before:List MemPlace)
    (hval:∀(j:Nat) t v,Tryz.f5.params[j]? =some t->args[j]? =some v->Value.okWide Tryz.prog W .any cV t v)
    (hW:DataW.Whole enc Tryz.prog Tryz.f5.params.toList Rows.fnOwnsAtSpec.vars false W args.toList ds gs before):
    Calls Tryz.prog 5 args W fun e W'=>∃v,e=.returned v/\Rows.fnOwnsAtSpec.post enc Tryz.prog Tryz.f5 false true false false W args v W':=by
  have hW':=hW
  obtain⟨p,q,hA0,hV,rfl,hfz,hnd⟩:=hW
  have hA:DataW.TrodAll enc Tryz.prog W 0 (fun _=>true) true Tryz.f5.params.toList args.toList ds p:=hA0
  rw[Tryz.params5]at hA hval
  obtain⟨v0,d0,rfl,rfl,h0⟩:=trodAll_one hA
  obtain⟨rfl,rfl⟩:=trodVars_none hV
  obtain⟨x,rfl,hb⟩:=YA (t:=Vo) (e:=aad) (by kernel_rfl) (by kernel_rfl) (by kernel_rfl) (hval 0 Vo v0 rfl rfl) h0
  refine(Mb hb W rfl).mono fun e W' ⟨v,he,hs,hv,hx⟩=>?_
  subst he hv
  exact⟨_,rfl,Rw (t:=4) laidOut (by kernel_rfl) (by kernel_rfl) (by kernel_rfl) rfl hW' rfl rfl rfl (Zf hs hx)⟩
theorem liftedR3(os:Os)(started:os.Started)(H:Type)(enc:TypeId×Value->H):
    ReturnsInHanded {} Tryz.checked os 5 .any (Rows.fnOwnsAtSpec.pre6 enc Tryz.prog Tryz.f5 Rows.fnOwnsAtRow.domain false) (Rows.fnOwnsAtSpec.post enc Tryz.prog Tryz.f5 false true false false):=by
  refine returnsInHanded_of_change (C:=Tryz.checked) bI started (by kernel_rfl) Tryz.func5
    (ChangeSpec.witness6 (enc:=enc) (C:=Tryz.checked) false ⟨#[],#[.slice none 0 0],[]⟩ 8 (by kernel_rfl) (by kernel_rfl) (by kernel_rfl) (by kernel_rfl) (by kernel_rfl)) ?_
  intro W cV args ds gs before hval hW _ _
  exact contractR3 H enc W cV args ds gs before hval hW
theorem at1R3:(Rows.fnOwnsAtRow.inPlace==Tryz.prog.inPlace 5)=true:=by kernel_rfl
theorem at2R3:(Rows.fnOwnsAtRow.unfollowed==Tryz.prog.unfollowed 5)=true:=by kernel_rfl
theorem at3R3:(Rows.fnOwnsAtRow.recurses==Tryz.prog.recurses 5)=true:=by kernel_rfl
theorem at4R3:(Rows.fnOwnsAtRow.named==Tryz.prog.varsNamed 5)=true:=by kernel_rfl
theorem closedR3:joinedFacts Tryz.prog 5 Tryz.f5 Rows.fnOwnsAtSpec Rows.fnOwnsAtRow=true:=by
  unfold joinedFacts
  rw[at1R3,at2R3,at3R3,at4R3,laidOut]
  kernel_rfl
theorem overR3:Rows.fnOwnsAtRow.holds Tryz.pinned (OpenSpec.ofChange Rows.fnOwnsAtSpec):=
  OpenClaim.holds_of_wide 5 Tryz.f5 rfl rfl rfl rfl rfl rfl rfl ⟨rfl,rfl,rfl,rfl,rfl⟩ rfl rfl rfl rfl rfl (by kernel_rfl) Tryz.func5 closedR3
    (of_decide_eq_true (by kernel_rfl)) (by unfold Func.isWrapper;first|(rw[bn (by decide+kernel)];kernel_rfl)|(rw[aW (by decide+kernel)];exact⟨rfl,rfl⟩))
    (fun os started H enc _=>liftedR3 os started H enc)
theorem provedR3:Rows.FnOwnsAtSaid:=overR3
end Go.Proofs.YtbbbdejieenniaaGreat.fnOwnsAt
