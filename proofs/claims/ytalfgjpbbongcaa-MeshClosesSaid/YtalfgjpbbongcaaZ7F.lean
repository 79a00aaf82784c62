/- The law MeshCloses holds: for every input that reads as data the program returns true, and the input reads behind the call as it did before. No condition beyond those of the given statement. -/
import Derived.Test.YtalfgjpbbongcaaZ7E
import Derived.Laws.Rows
import Derived.Test.YtalfgjpbbongcaaRows
set_option linter.unusedVariables false
set_option linter.unusedSimpArgs false
set_option linter.unusedSectionVars false
namespace Go.Proofs.Ytalfgjpbbongcaa
open Go Go.ChangeShapes Go.WideShapes Go.ChangeAt Go.RowKit Sp
set_option linter.unusedVariables false
namespace LawMeshCloses
theorem op25:Opens Try.prog 25 (rP (rS (rI3 .i64)) (rS (rI3 .i64))):=zEb (ps:=[(22,0),(23,1)]) Try.underlying25 (by kernel_rfl) rfl (opensL_cons (by kernel_rfl) (zQb Try.underlying22 (by kernel_rfl) (by decide) (zbc (zEb (ps:=[(3,0),(3,1),(3,2)]) Try.underlying42 (by kernel_rfl) rfl (opensL_cons (by kernel_rfl) (zib Try.underlying3) (opensL_cons (by kernel_rfl) (zib Try.underlying3) (opensL_one (by kernel_rfl) (zib Try.underlying3))))) conv3)) (opensL_one (by kernel_rfl) (zQb Try.underlying23 (by kernel_rfl) (by decide) (zbc (zQc (k:=1) (ps:=[(3,0),(3,1),(3,2)]) Try.underlying44 (by kernel_rfl) (by kernel_rfl) rfl (opensL_cons (by kernel_rfl) (zib Try.underlying3) (opensL_cons (by kernel_rfl) (zib Try.underlying3) (opensL_one (by kernel_rfl) (zib Try.underlying3))))) conv3))))
theorem laid:laidOutB Try.prog=true:=by kernel_rfl
set_option maxHeartbeats 2000000 in
set_option maxRecDepth 100000 in
theorem lifted (os:Os) (started:os.Started) (H:Type) (enc:TypeId×Value→H):
    ReturnsInHanded {} Try.checked os 7 .any (Rows.meshClosesSpec.pre6 enc Try.prog Try.f7 Rows.meshClosesRow.domain false) (Rows.meshClosesSpec.post enc Try.prog Try.f7 false true false false):=by
  refine returnsInHanded_of_change (C:=Try.checked) (show ownKnob Try.prog.godebug=none by kernel_rfl) started (by kernel_rfl) Try.func7
    (ChangeSpec.witness6 (enc:=enc) (C:=Try.checked) false ⟨#[],#[.agg #[.slice none 0 0,.slice none 0 0]],[]⟩ 8 (by kernel_rfl) (by kernel_rfl) (by kernel_rfl) (by kernel_rfl)) ?_
  intro W base args ds gs before hval0 hW hcnd _
  have hval:∀(j:Nat) t v,Try.f7.params[j]? =some t→args[j]? =some v→Value.okWide Try.prog W .any base t v:=hval0
  have hW':=hW
  obtain ⟨p,q,hA0,hV,rfl,hfz,hnd⟩:=hW
  have hA:DataW.TrodAll enc Try.prog W 0 (fun _=>true) true Try.f7.params.toList args.toList ds p:=hA0
  rw [Try.params7] at hA hval
  obtain ⟨v0,d0,rfl,rfl,h0⟩:=trodAll_one hA
  obtain ⟨rfl,rfl⟩:=trodVars_none hV
  obtain ⟨⟨La00,La01⟩,⟨⟨pa00,ca00⟩,⟨pa01,ca01⟩⟩,rfl,o0⟩:=zzd op25 ⟨_,Try.underlying25⟩ (hval 0 25 v0 rfl rfl) h0
  clear hA0 hval0
  simp only [List.append_nil] at hW'
  refine zAd laid (by kernel_rfl) rfl (by kernel_rfl) Try.underlying4 hW' ⟨rfl,rfl,rfl⟩ ?_ (zXb (V:=La00) (F:=La01) rfl rfl)
  exact ⟨o0.1,o0.2,trivial⟩
end LawMeshCloses
theorem provedMeshCloses:Rows.MeshClosesSaid:=
  OpenClaim.holds_of_wide 7 Try.f7 rfl rfl rfl rfl rfl rfl rfl ⟨rfl,rfl,rfl,rfl,rfl⟩ rfl rfl rfl rfl rfl (by kernel_rfl) Try.func7 (by kernel_rfl)
    (of_decide_eq_true (by kernel_rfl)) (by unfold Func.isWrapper;first|(rw [if_pos (by decide +kernel)];kernel_rfl)|(rw [if_neg (by decide +kernel)];exact ⟨rfl,rfl⟩))
    (fun os started H enc _=>LawMeshCloses.lifted os started H enc)
end Go.Proofs.Ytalfgjpbbongcaa
