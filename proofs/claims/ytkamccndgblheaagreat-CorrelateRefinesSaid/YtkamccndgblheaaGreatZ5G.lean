/- The law CorrelateRefines holds: for every input that reads as data the program returns true, and the input reads behind the call as it did before. No condition beyond those of the given statement. -/
import Derived.Test.YtkamccndgblheaaGreatZ5F
import Derived.Laws.Rows
import Derived.Test.YtkamccndgblheaaGreatRows
set_option linter.unusedVariables false
set_option linter.unusedSimpArgs false
set_option linter.unusedSectionVars false
namespace Go.Proofs.YtkamccndgblheaaGreat
open Go Go.ChangeShapes Go.WideShapes Go.ChangeAt Go.RowKit Sp
set_option linter.unusedVariables false
namespace LawCorrelateRefines
theorem op24:Opens Tryz.prog 24 (rP (rI .i64) (rP (rI .i64) (rP (rI .i64) (rS (rI .i64))))):=zpd (ps:=[(3,0),(3,1),(3,2),(22,3)]) Tryz.underlying24 (by kernel_rfl) rfl (opensL_cons (by kernel_rfl) (zqb Tryz.underlying3) (opensL_cons (by kernel_rfl) (zqb Tryz.underlying3) (opensL_cons (by kernel_rfl) (zqb Tryz.underlying3) (opensL_one (by kernel_rfl) (zQd Tryz.underlying22 (by kernel_rfl) (by decide) (zqb Tryz.underlying3))))))
theorem op25:Opens Tryz.prog 25 (rI2 .i64):=zwe (zRd (k:=1) (ps:=[(3,0),(3,1)]) Tryz.underlying25 (by kernel_rfl) (by kernel_rfl) rfl (opensL_cons (by kernel_rfl) (zqb Tryz.underlying3) (opensL_one (by kernel_rfl) (zqb Tryz.underlying3)))) conv2
theorem laid:laidOutB Tryz.prog=true:=by kernel_rfl
set_option maxHeartbeats 2000000 in
set_option maxRecDepth 100000 in
theorem lifted (os:Os) (started:os.Started) (H:Type) (enc:TypeId×Value→H):
    ReturnsInHanded {} Tryz.checked os 5 .any (Rows.correlateRefinesSpec.pre6 enc Tryz.prog Tryz.f5 Rows.correlateRefinesRow.domain false) (Rows.correlateRefinesSpec.post enc Tryz.prog Tryz.f5 false true false false):=by
  refine returnsInHanded_of_change (C:=Tryz.checked) (show ownKnob Tryz.prog.godebug=none by kernel_rfl) started (by kernel_rfl) Tryz.func5
    (ChangeSpec.witness6 (enc:=enc) (C:=Tryz.checked) false ⟨#[],#[.agg #[.int .i64 0,.int .i64 0,.int .i64 0,.slice none 0 0],.agg #[.int .i64 0,.int .i64 0,.int .i64 0,.slice none 0 0],.agg #[.int .i64 0,.int .i64 0]],[]⟩ 8 (by kernel_rfl) (by kernel_rfl) (by kernel_rfl) (by kernel_rfl)) ?_
  intro W base args ds gs before hval0 hW hcnd _
  have hval:∀(j:Nat) t v,Tryz.f5.params[j]? =some t→args[j]? =some v→Value.okWide Tryz.prog W .any base t v:=hval0
  have hW':=hW
  obtain ⟨p,q,hA0,hV,rfl,hfz,hnd⟩:=hW
  have hA:DataW.TrodAll enc Tryz.prog W 0 (fun _=>true) true Tryz.f5.params.toList args.toList ds p:=hA0
  rw [Tryz.params5] at hA hval
  obtain ⟨v0,v1,v2,d0,d1,d2,p0,p1,p2,rfl,rfl,rfl,h0,h1,h2⟩:=trodAll_three hA
  obtain ⟨rfl,rfl⟩:=trodVars_none hV
  obtain ⟨⟨a00,a01,a02,La03⟩,⟨_,_,_,⟨pa03,ca03⟩⟩,rfl,o0⟩:=zqd op24 ⟨_,Tryz.underlying24⟩ (hval 0 24 v0 rfl rfl) h0
  obtain ⟨⟨a10,a11,a12,La13⟩,⟨_,_,_,⟨pa13,ca13⟩⟩,rfl,o1⟩:=zqd op24 ⟨_,Tryz.underlying24⟩ (hval 1 24 v1 rfl rfl) h1
  obtain ⟨⟨a2a,a2b⟩,_,rfl,o2⟩:=zLe op25 Tryz.underlying25 (hval 2 25 v2 rfl rfl) h2
  clear hA0 hval0
  simp only [List.append_nil] at hW'
  refine zMe laid (by kernel_rfl) rfl (by kernel_rfl) Tryz.underlying4 hW' ⟨rfl,rfl,rfl⟩ ?_ (zOb (l1:=La03) (l2:=La13) rfl rfl (zZ.1 o0.1) (zZ.1 o0.2.1) (zZ.1 o0.2.2.1) (zZ.1 o1.1) (zZ.1 o1.2.1) (zZ.1 o1.2.2.1) (zZ.1 o2.1) (zZ.1 o2.2))
  exact ⟨o0.2.2.2,o1.2.2.2,trivial⟩
end LawCorrelateRefines
theorem provedCorrelateRefines:Rows.CorrelateRefinesSaid:=
  OpenClaim.holds_of_wide 5 Tryz.f5 rfl rfl rfl rfl rfl rfl rfl ⟨rfl,rfl,rfl,rfl,rfl⟩ rfl rfl rfl rfl rfl (by kernel_rfl) Tryz.func5 (by kernel_rfl)
    (of_decide_eq_true (by kernel_rfl)) (by unfold Func.isWrapper;first|(rw [if_pos (by decide +kernel)];kernel_rfl)|(rw [if_neg (by decide +kernel)];exact ⟨rfl,rfl⟩))
    (fun os started H enc _=>LawCorrelateRefines.lifted os started H enc)
end Go.Proofs.YtkamccndgblheaaGreat
