/- The law CorrelateScales holds: for every input that reads as data the program returns true, and the input reads behind the call as it did before. No condition beyond those of the given statement. -/
import Derived.Test.YtkamccndgblheaaZ4E
import Derived.Laws.Rows
import Derived.Test.YtkamccndgblheaaRows
set_option linter.unusedVariables false
set_option linter.unusedSimpArgs false
set_option linter.unusedSectionVars false
namespace Go.Proofs.Ytkamccndgblheaa
open Go Go.ChangeShapes Go.WideShapes Go.ChangeAt Go.RowKit Sp
set_option linter.unusedVariables false
namespace LawCorrelateScales
theorem op24:Opens Try.prog 24 (rP (rI .i64) (rP (rI .i64) (rP (rI .i64) (rS (rI .i64))))):=zVc (ps:=[(3,0),(3,1),(3,2),(22,3)]) Try.underlying24 (by kernel_rfl) rfl (opensL_cons (by kernel_rfl) (zTa Try.underlying3) (opensL_cons (by kernel_rfl) (zTa Try.underlying3) (opensL_cons (by kernel_rfl) (zTa Try.underlying3) (opensL_one (by kernel_rfl) (zvd Try.underlying22 (by kernel_rfl) (by decide) (zTa Try.underlying3))))))
theorem op34:Opens Try.prog 34 (rP (rI .i16) (rP (rI .i16) (rP (rI .i16) (rI .i16)))):=zwd (k:=1) (ps:=[(33,0),(33,1),(33,2),(33,3)]) Try.underlying34 (by kernel_rfl) (by kernel_rfl) rfl (opensL_cons (by kernel_rfl) (zTa Try.underlying33) (opensL_cons (by kernel_rfl) (zTa Try.underlying33) (opensL_cons (by kernel_rfl) (zTa Try.underlying33) (opensL_one (by kernel_rfl) (zTa Try.underlying33)))))
theorem laid:laidOutB Try.prog=true:=by kernel_rfl
set_option maxHeartbeats 2000000 in
set_option maxRecDepth 100000 in
theorem lifted (os:Os) (started:os.Started) (H:Type) (enc:TypeId×Value→H):
    ReturnsInHanded {} Try.checked os 4 .any (Rows.correlateScalesSpec.pre6 enc Try.prog Try.f4 Rows.correlateScalesRow.domain false) (Rows.correlateScalesSpec.post enc Try.prog Try.f4 false true false false):=by
  refine returnsInHanded_of_change (C:=Try.checked) (show ownKnob Try.prog.godebug=none by kernel_rfl) started (by kernel_rfl) Try.func4
    (ChangeSpec.witness6 (enc:=enc) (C:=Try.checked) false ⟨#[],#[.agg #[.int .i64 0,.int .i64 0,.int .i64 0,.slice none 0 0],.agg #[.int .i64 0,.int .i64 0,.int .i64 0,.slice none 0 0],.agg #[.int .i16 0,.int .i16 0,.int .i16 0,.int .i16 0]],[]⟩ 8 (by kernel_rfl) (by kernel_rfl) (by kernel_rfl) (by kernel_rfl)) ?_
  intro W base args ds gs before hval0 hW hcnd _
  have hval:∀(j:Nat) t v,Try.f4.params[j]? =some t→args[j]? =some v→Value.okWide Try.prog W .any base t v:=hval0
  have hW':=hW
  obtain ⟨p,q,hA0,hV,rfl,hfz,hnd⟩:=hW
  have hA:DataW.TrodAll enc Try.prog W 0 (fun _=>true) true Try.f4.params.toList args.toList ds p:=hA0
  rw [Try.params4] at hA hval
  obtain ⟨v0,v1,v2,d0,d1,d2,p0,p1,p2,rfl,rfl,rfl,h0,h1,h2⟩:=trodAll_three hA
  obtain ⟨rfl,rfl⟩:=trodVars_none hV
  obtain ⟨⟨a00,a01,a02,La03⟩,⟨_,_,_,⟨pa03,ca03⟩⟩,rfl,o0⟩:=zWc op24 ⟨_,Try.underlying24⟩ (hval 0 24 v0 rfl rfl) h0
  obtain ⟨⟨a10,a11,a12,La13⟩,⟨_,_,_,⟨pa13,ca13⟩⟩,rfl,o1⟩:=zWc op24 ⟨_,Try.underlying24⟩ (hval 1 24 v1 rfl rfl) h1
  obtain ⟨⟨a20,a21,a22,a23⟩,⟨_,_,_,_⟩,rfl,o2⟩:=zpe op34 Try.underlying34 (hval 2 34 v2 rfl rfl) h2
  clear hA0 hval0
  simp only [List.append_nil] at hW'
  refine zqe laid (by kernel_rfl) rfl (by kernel_rfl) Try.underlying4 hW' ⟨rfl,rfl,rfl⟩ ?_ (zBb (l1:=La03) (l2:=La13) rfl rfl (zV.1 o0.1) (zV.1 o0.2.1) (zV.1 o0.2.2.1) (zV.1 o1.1) (zV.1 o1.2.1) (zV.1 o1.2.2.1) (zEc.1 o2.1) (zEc.1 o2.2.1) (zEc.1 o2.2.2.1) (zEc.1 o2.2.2.2))
  exact ⟨o0.2.2.2,o1.2.2.2,trivial⟩
end LawCorrelateScales
theorem provedCorrelateScales:Rows.CorrelateScalesSaid:=
  OpenClaim.holds_of_wide 4 Try.f4 rfl rfl rfl rfl rfl rfl rfl ⟨rfl,rfl,rfl,rfl,rfl⟩ rfl rfl rfl rfl rfl (by kernel_rfl) Try.func4 (by kernel_rfl)
    (of_decide_eq_true (by kernel_rfl)) (by unfold Func.isWrapper;first|(rw [if_pos (by decide +kernel)];kernel_rfl)|(rw [if_neg (by decide +kernel)];exact ⟨rfl,rfl⟩))
    (fun os started H enc _=>LawCorrelateScales.lifted os started H enc)
end Go.Proofs.Ytkamccndgblheaa
