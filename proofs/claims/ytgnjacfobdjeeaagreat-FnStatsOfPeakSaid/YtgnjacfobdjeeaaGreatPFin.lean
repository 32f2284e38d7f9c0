/- FnStatsOfPeak: for every input that can be read, the law's call returns true and leaves its arguments as they were. No condition. -/
import Derived.OpenShut
import Derived.ProofKit
import Derived.Test.YtgnjacfobdjeeaaGreatRows
import Derived.WalkKit
import Derived.Test.YtgnjacfobdjeeaaGreatP19
namespace Go.Proofs.YtgnjacfobdjeeaaGreat.fnStatsOfPeak
open Go.ChangeShapes Go.WideShapes Go.ChangeAt Go.RowKit Go.Vc
set_option linter.unusedVariables false
set_option maxRecDepth 100000
theorem aQ:ownKnob Tryz.prog.godebug=none:=by kernel_rfl
theorem laidOut:laidOutB Tryz.prog=true:=by kernel_rfl
theorem Rp{W W':World}(hs:oL W W')(hx:N W.heap W'.heap):Below W.heap.size W W':=⟨hs.os,hs.tape,hs.output,hx.size,hx.same⟩
theorem QE(H:Type)(enc:TypeId×Value->H)(W:World)(ct:Nat)(args:Array Value)(ds gs:List (DataW H))(before:List MemPlace)
    (hval:∀(j:Nat) t v,Tryz.f5.params[j]? =some t->args[j]? =some v->Value.okWide Tryz.prog W .any ct t v)
    (hW:DataW.Whole enc Tryz.prog Tryz.f5.params.toList Rows.fnStatsOfPeakSpec.vars false W args.toList ds gs before):
    Calls Tryz.prog 5 args W fun e W'=>∃v,e=.returned v/\Rows.fnStatsOfPeakSpec.post enc Tryz.prog Tryz.f5 false true false false W args v W':=by
  have hW':=hW
  obtain⟨p,q,hA0,hV,rfl,hfz,hnd⟩:=hW
  have hA:DataW.TrodAll enc Tryz.prog W 0 (fun _=>true) true Tryz.f5.params.toList args.toList ds p:=hA0
  rw[Tryz.params5]at hA hval
  obtain⟨v0,d0,rfl,rfl,h0⟩:=trodAll_one hA
  obtain⟨rfl,rfl⟩:=trodVars_none hV
  obtain⟨x,rfl,hb⟩:=QQ (t:=ON) (e:=Sj) (by kernel_rfl) (by kernel_rfl) (by kernel_rfl) (hval 0 ON v0 rfl rfl) h0
  refine(xP hb W rfl).mono fun e W' ⟨v,he,hs,hv,hx⟩=>?_
  subst he hv
  exact⟨_,rfl,KS (t:=4) laidOut (by kernel_rfl) (by kernel_rfl) (by kernel_rfl) rfl hW' rfl rfl rfl (Rp hs hx)⟩
theorem Tm(os:Os)(started:os.Started)(H:Type)(enc:TypeId×Value->H):
    ReturnsInHanded {} Tryz.checked os 5 .any (Rows.fnStatsOfPeakSpec.pre6 enc Tryz.prog Tryz.f5 Rows.fnStatsOfPeakRow.domain false) (Rows.fnStatsOfPeakSpec.post enc Tryz.prog Tryz.f5 false true false false):=by
  refine returnsInHanded_of_change (C:=Tryz.checked) aQ started (by kernel_rfl) Tryz.func5
    (ChangeSpec.witness6 (enc:=enc) (C:=Tryz.checked) false ⟨#[],#[.slice none 0 0],[]⟩ 8 (by kernel_rfl) (by kernel_rfl) (by kernel_rfl) (by kernel_rfl) (by kernel_rfl)) ?_
  intro W ct args ds gs before hval hW _ _
  exact QE H enc W ct args ds gs before hval hW
theorem Yh:(Rows.fnStatsOfPeakRow.inPlace==Tryz.prog.inPlace 5)=true:=by kernel_rfl
theorem Yi:(Rows.fnStatsOfPeakRow.unfollowed==Tryz.prog.unfollowed 5)=true:=by kernel_rfl
theorem Yj:(Rows.fnStatsOfPeakRow.recurses==Tryz.prog.recurses 5)=true:=by kernel_rfl
theorem Yk:(Rows.fnStatsOfPeakRow.named==Tryz.prog.varsNamed 5)=true:=by kernel_rfl
theorem Tb:joinedFacts Tryz.prog 5 Tryz.f5 Rows.fnStatsOfPeakSpec Rows.fnStatsOfPeakRow=true:=by
  unfold joinedFacts
  rw[Yh,Yi,Yj,Yk,laidOut]
  kernel_rfl
theorem WH:Rows.fnStatsOfPeakRow.holds Tryz.pinned (OpenSpec.ofChange Rows.fnStatsOfPeakSpec):=
  OpenClaim.holds_of_wide 5 Tryz.f5 rfl rfl rfl rfl rfl rfl rfl ⟨rfl,rfl,rfl,rfl,rfl⟩ rfl rfl rfl rfl rfl (by kernel_rfl) Tryz.func5 Tb
    (ZE (by kernel_rfl)) (by unfold Func.isWrapper;first|(rw[an (by decide+kernel)];kernel_rfl)|(rw[ae (by decide+kernel)];exact⟨rfl,rfl⟩))
    (fun os started H enc _=>Tm os started H enc)
theorem XD:Rows.FnStatsOfPeakSaid:=WH
end Go.Proofs.YtgnjacfobdjeeaaGreat.fnStatsOfPeak
