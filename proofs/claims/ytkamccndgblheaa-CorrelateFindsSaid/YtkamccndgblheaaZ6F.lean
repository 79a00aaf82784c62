/- The law CorrelateFinds holds: for every input that reads as data the program returns true, and the input reads behind the call as it did before. No condition beyond those of the given statement. -/
import Derived.Test.YtkamccndgblheaaZ6E
import Derived.Laws.Rows
import Derived.Test.YtkamccndgblheaaRows
set_option linter.unusedVariables false
set_option linter.unusedSimpArgs false
set_option linter.unusedSectionVars false
namespace Go.Proofs.Ytkamccndgblheaa
open Go Go.ChangeShapes Go.WideShapes Go.ChangeAt Go.RowKit Sp
set_option linter.unusedVariables false
namespace LawCorrelateFinds
theorem op24:Opens Try.prog 24 (rP (rI .i64) (rP (rI .i64) (rP (rI .i64) (rS (rI .i64))))):=zSc (ps:=[(3,0),(3,1),(3,2),(22,3)]) Try.underlying24 (by kernel_rfl) rfl (opensL_cons (by kernel_rfl) (zVa Try.underlying3) (opensL_cons (by kernel_rfl) (zVa Try.underlying3) (opensL_cons (by kernel_rfl) (zVa Try.underlying3) (opensL_one (by kernel_rfl) (zrd Try.underlying22 (by kernel_rfl) (by decide) (zVa Try.underlying3))))))
theorem op49:Opens Try.prog 49 (rP (rI .u8) (rP (rI .u8) (rP (rI .u8) (rI .u8)))):=zsd (k:=1) (ps:=[(5,0),(5,1),(5,2),(5,3)]) Try.underlying49 (by kernel_rfl) (by kernel_rfl) rfl (opensL_cons (by kernel_rfl) (zVa Try.underlying5) (opensL_cons (by kernel_rfl) (zVa Try.underlying5) (opensL_cons (by kernel_rfl) (zVa Try.underlying5) (opensL_one (by kernel_rfl) (zVa Try.underlying5)))))
theorem laid:laidOutB Try.prog=true:=by kernel_rfl
set_option maxHeartbeats 2000000 in
set_option maxRecDepth 100000 in
theorem lifted (os:Os) (started:os.Started) (H:Type) (enc:TypeId×Value→H):
    ReturnsInHanded {} Try.checked os 6 .any (Rows.correlateFindsSpec.pre6 enc Try.prog Try.f6 Rows.correlateFindsRow.domain false) (Rows.correlateFindsSpec.post enc Try.prog Try.f6 false true false false):=by
  refine returnsInHanded_of_change (C:=Try.checked) (show ownKnob Try.prog.godebug=none by kernel_rfl) started (by kernel_rfl) Try.func6
    (ChangeSpec.witness6 (enc:=enc) (C:=Try.checked) false ⟨#[],#[.agg #[.int .i64 0,.int .i64 0,.int .i64 0,.slice none 0 0],.agg #[.int .u8 0,.int .u8 0,.int .u8 0,.int .u8 0]],[]⟩ 8 (by kernel_rfl) (by kernel_rfl) (by kernel_rfl) (by kernel_rfl)) ?_
  intro W base args ds gs before hval0 hW hcnd _
  have hval:∀(j:Nat) t v,Try.f6.params[j]? =some t→args[j]? =some v→Value.okWide Try.prog W .any base t v:=hval0
  have hW':=hW
  obtain ⟨p,q,hA0,hV,rfl,hfz,hnd⟩:=hW
  have hA:DataW.TrodAll enc Try.prog W 0 (fun _=>true) true Try.f6.params.toList args.toList ds p:=hA0
  rw [Try.params6] at hA hval
  obtain ⟨v0,v1,d0,d1,p0,p1,rfl,rfl,rfl,h0,h1⟩:=trodAll_two hA
  obtain ⟨rfl,rfl⟩:=trodVars_none hV
  obtain ⟨⟨a00,a01,a02,La03⟩,⟨_,_,_,⟨pa03,ca03⟩⟩,rfl,o0⟩:=zpe op24 ⟨_,Try.underlying24⟩ (hval 0 24 v0 rfl rfl) h0
  obtain ⟨⟨a10,a11,a12,a13⟩,⟨_,_,_,_⟩,rfl,o1⟩:=zqe op49 Try.underlying49 (hval 1 49 v1 rfl rfl) h1
  clear hA0 hval0
  simp only [List.append_nil] at hW'
  refine zre laid (by kernel_rfl) rfl (by kernel_rfl) Try.underlying4 hW' ⟨rfl,rfl,rfl⟩ ?_ (zKb (l1:=La03) rfl (zY.1 o0.1) (zY.1 o0.2.1) (zY.1 o0.2.2.1) (zLd.1 o1.1) (zLd.1 o1.2.1) (zLd.1 o1.2.2.1) (zLd.1 o1.2.2.2))
  exact ⟨o0.2.2.2,trivial⟩
end LawCorrelateFinds
theorem provedCorrelateFinds:Rows.CorrelateFindsSaid:=
  OpenClaim.holds_of_wide 6 Try.f6 rfl rfl rfl rfl rfl rfl rfl ⟨rfl,rfl,rfl,rfl,rfl⟩ rfl rfl rfl rfl rfl (by kernel_rfl) Try.func6 (by kernel_rfl)
    (of_decide_eq_true (by kernel_rfl)) (by unfold Func.isWrapper;first|(rw [if_pos (by decide +kernel)];kernel_rfl)|(rw [if_neg (by decide +kernel)];exact ⟨rfl,rfl⟩))
    (fun os started H enc _=>LawCorrelateFinds.lifted os started H enc)
end Go.Proofs.Ytkamccndgblheaa
