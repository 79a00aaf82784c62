/- The law PolygonEars holds: for every input that reads as data the program returns true, and the input reads behind the call as it did before. No condition beyond those of the given statement. -/
import Derived.Test.YtjcpbhlijoigfaaGreatZ7F
import Derived.Laws.Rows
import Derived.Test.YtjcpbhlijoigfaaGreatRows
set_option linter.unusedVariables false
set_option linter.unusedSimpArgs false
set_option linter.unusedSectionVars false
open Go.Proofs.Tryz renaming prog → ya
namespace Go.Proofs.YtjcpbhlijoigfaaGreat
open Go Go.ChangeShapes Go.WideShapes Go.ChangeAt Go.RowKit Sp
set_option linter.unusedVariables false
namespace LawPolygonEars
theorem op22:Opens ya 22 (rS (rI2 .i64)):=zbe Tryz.underlying22 (by kernel_rfl) (by decide) (zJe (zEd (ps:=[(3,0),(3,1)]) Tryz.underlying30 (by kernel_rfl) rfl (opensL_cons (by kernel_rfl) (zDd Tryz.underlying3) (opensL_one (by kernel_rfl) (zDd Tryz.underlying3)))) conv2)
theorem laid:laidOutB ya=true:=by kernel_rfl
set_option maxHeartbeats 2000000 in
set_option maxRecDepth 100000 in
theorem lifted (os:Os) (started:os.Started) (H:Type) (enc:TypeId×Value→H):
    ReturnsInHanded {} Tryz.checked os 7 .any (Rows.polygonEarsSpec.pre6 enc ya Tryz.f7 Rows.polygonEarsRow.domain false) (Rows.polygonEarsSpec.post enc ya Tryz.f7 false true false false):=by
  refine returnsInHanded_of_change (C:=Tryz.checked) (show ownKnob ya.godebug=none by kernel_rfl) started (by kernel_rfl) Tryz.func7
    (ChangeSpec.witness6 (enc:=enc) (C:=Tryz.checked) false ⟨#[],#[.slice none 0 0],[]⟩ 8 (by kernel_rfl) (by kernel_rfl) (by kernel_rfl) (by kernel_rfl)) ?_
  intro W base args ds gs before hval0 hW hcnd _
  have hval:∀(j:Nat) t v,Tryz.f7.params[j]? =some t→args[j]? =some v→Value.okWide ya W .any base t v:=hval0
  have hW':=hW
  obtain ⟨p,q,hA0,hV,rfl,hfz,hnd⟩:=hW
  have hA:DataW.TrodAll enc ya W 0 (fun _=>true) true Tryz.f7.params.toList args.toList ds p:=hA0
  rw [Tryz.params7] at hA hval
  obtain ⟨v0,d0,rfl,rfl,h0⟩:=trodAll_one hA
  obtain ⟨rfl,rfl⟩:=trodVars_none hV
  obtain ⟨La0,⟨pa0,ca0⟩,e0,o0⟩:=zRf op22 rfl Tryz.underlying22 (hval 0 22 v0 rfl rfl) h0
  obtain rfl:v0=_:=by simpa [rS,rI,rB] using e0
  clear hA0 hval0
  simp only [List.append_nil] at hW'
  refine zhf laid (by kernel_rfl) rfl (by kernel_rfl) Tryz.underlying4 hW' ⟨rfl,rfl,rfl⟩ ?_ (zYc (l:=La0) rfl)
  exact ⟨o0,trivial⟩
end LawPolygonEars
theorem provedPolygonEars:Rows.PolygonEarsSaid:=
  OpenClaim.holds_of_wide 7 Tryz.f7 rfl rfl rfl rfl rfl rfl rfl ⟨rfl,rfl,rfl,rfl,rfl⟩ rfl rfl rfl rfl rfl (by kernel_rfl) Tryz.func7 (by kernel_rfl)
    (of_decide_eq_true (by kernel_rfl)) (by unfold Func.isWrapper;first|(rw [if_pos (by decide +kernel)];kernel_rfl)|(rw [if_neg (by decide +kernel)];exact ⟨rfl,rfl⟩))
    (fun os started H enc _=>LawPolygonEars.lifted os started H enc)
end Go.Proofs.YtjcpbhlijoigfaaGreat
