/- The law CorrelateSquares holds: for every input that reads as data the program returns true, and the input reads behind the call as it did before. No condition beyond those of the given statement. -/
import Derived.Test.YtkamccndgblheaaZ3D
import Derived.Laws.Rows
import Derived.Test.YtkamccndgblheaaRows
set_option linter.unusedVariables false
set_option linter.unusedSimpArgs false
set_option linter.unusedSectionVars false
namespace Go.Proofs.Ytkamccndgblheaa
open Go Go.ChangeShapes Go.WideShapes Go.ChangeAt Go.RowKit Sp
set_option linter.unusedVariables false
namespace LawCorrelateSquares
theorem op24:Opens Try.prog 24 (rP (rI .i64) (rP (rI .i64) (rP (rI .i64) (rS (rI .i64))))):=zRc (ps:=[(3,0),(3,1),(3,2),(22,3)]) Try.underlying24 (by kernel_rfl) rfl (opensL_cons (by kernel_rfl) (zBb Try.underlying3) (opensL_cons (by kernel_rfl) (zBb Try.underlying3) (opensL_cons (by kernel_rfl) (zBb Try.underlying3) (opensL_one (by kernel_rfl) (zpd Try.underlying22 (by kernel_rfl) (by decide) (zBb Try.underlying3))))))
theorem laid:laidOutB Try.prog=true:=by kernel_rfl
set_option maxHeartbeats 2000000 in
set_option maxRecDepth 100000 in
theorem lifted (os:Os) (started:os.Started) (H:Type) (enc:TypeId×Value→H):
    ReturnsInHanded {} Try.checked os 3 .any (Rows.correlateSquaresSpec.pre6 enc Try.prog Try.f3 Rows.correlateSquaresRow.domain false) (Rows.correlateSquaresSpec.post enc Try.prog Try.f3 false true false false):=by
  refine returnsInHanded_of_change (C:=Try.checked) (show ownKnob Try.prog.godebug=none by kernel_rfl) started (by kernel_rfl) Try.func3
    (ChangeSpec.witness6 (enc:=enc) (C:=Try.checked) false ⟨#[],#[.agg #[.int .i64 0,.int .i64 0,.int .i64 0,.slice none 0 0]],[]⟩ 8 (by kernel_rfl) (by kernel_rfl) (by kernel_rfl) (by kernel_rfl)) ?_
  intro W base args ds gs before hval0 hW hcnd _
  have hval:∀(j:Nat) t v,Try.f3.params[j]? =some t→args[j]? =some v→Value.okWide Try.prog W .any base t v:=hval0
  have hW':=hW
  obtain ⟨p,q,hA0,hV,rfl,hfz,hnd⟩:=hW
  have hA:DataW.TrodAll enc Try.prog W 0 (fun _=>true) true Try.f3.params.toList args.toList ds p:=hA0
  rw [Try.params3] at hA hval
  obtain ⟨v0,d0,rfl,rfl,h0⟩:=trodAll_one hA
  obtain ⟨rfl,rfl⟩:=trodVars_none hV
  obtain ⟨⟨a00,a01,a02,La03⟩,⟨_,_,_,⟨pa03,ca03⟩⟩,rfl,o0⟩:=zge op24 ⟨_,Try.underlying24⟩ (hval 0 24 v0 rfl rfl) h0
  clear hA0 hval0
  simp only [List.append_nil] at hW'
  refine zhe laid (by kernel_rfl) rfl (by kernel_rfl) Try.underlying4 hW' ⟨rfl,rfl,rfl⟩ ?_ (zrb (l1:=La03) rfl (zY.1 o0.1) (zY.1 o0.2.1) (zY.1 o0.2.2.1))
  exact ⟨o0.2.2.2,trivial⟩
end LawCorrelateSquares
theorem provedCorrelateSquares:Rows.CorrelateSquaresSaid:=
  OpenClaim.holds_of_wide 3 Try.f3 rfl rfl rfl rfl rfl rfl rfl ⟨rfl,rfl,rfl,rfl,rfl⟩ rfl rfl rfl rfl rfl (by kernel_rfl) Try.func3 (by kernel_rfl)
    (of_decide_eq_true (by kernel_rfl)) (by unfold Func.isWrapper;first|(rw [if_pos (by decide +kernel)];kernel_rfl)|(rw [if_neg (by decide +kernel)];exact ⟨rfl,rfl⟩))
    (fun os started H enc _=>LawCorrelateSquares.lifted os started H enc)
end Go.Proofs.Ytkamccndgblheaa
