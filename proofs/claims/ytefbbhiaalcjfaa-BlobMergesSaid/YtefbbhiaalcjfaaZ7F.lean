/- The law BlobMerges holds: for every input that reads as data the program returns true, and the input reads behind the call as it did before. No condition beyond those of the given statement. -/
import Derived.Test.YtefbbhiaalcjfaaZ7E
import Derived.Laws.Rows
import Derived.Test.YtefbbhiaalcjfaaRows
set_option linter.unusedVariables false
set_option linter.unusedSimpArgs false
set_option linter.unusedSectionVars false
namespace Go.Proofs.Ytefbbhiaalcjfaa
open Go Go.ChangeShapes Go.WideShapes Go.ChangeAt Go.RowKit Sp
set_option linter.unusedVariables false
namespace LawBlobMerges
theorem op51:Opens Try.prog 51 (rP (rI .i64) (rP (rI .i64) (rP (rI .i64) (rP (rI .i64) (rP (rI .i64) (rP (rI .i64) (rP (rI .i64) (rP (rI .i64) (rP (rI .i64) (rP (rI .i64) (rP (rI .i64) (rP (rI .i64) (rI .i64))))))))))))):=zSc (ps:=[(3,0),(3,1),(3,2),(3,3),(3,4),(3,5),(3,6),(3,7),(3,8),(3,9),(3,10),(3,11),(3,12)]) Try.underlying51 (by kernel_rfl) rfl (opensL_cons (by kernel_rfl) (zCa Try.underlying3) (opensL_cons (by kernel_rfl) (zCa Try.underlying3) (opensL_cons (by kernel_rfl) (zCa Try.underlying3) (opensL_cons (by kernel_rfl) (zCa Try.underlying3) (opensL_cons (by kernel_rfl) (zCa Try.underlying3) (opensL_cons (by kernel_rfl) (zCa Try.underlying3) (opensL_cons (by kernel_rfl) (zCa Try.underlying3) (opensL_cons (by kernel_rfl) (zCa Try.underlying3) (opensL_cons (by kernel_rfl) (zCa Try.underlying3) (opensL_cons (by kernel_rfl) (zCa Try.underlying3) (opensL_cons (by kernel_rfl) (zCa Try.underlying3) (opensL_cons (by kernel_rfl) (zCa Try.underlying3) (opensL_one (by kernel_rfl) (zCa Try.underlying3))))))))))))))
theorem laid:laidOutB Try.prog=true:=by kernel_rfl
set_option maxRecDepth 100000 in
theorem lifted (os:Os) (started:os.Started) (H:Type) (enc:TypeId×Value→H):
    ReturnsInHanded {} Try.checked os 7 .any (Rows.blobMergesSpec.pre6 enc Try.prog Try.f7 Rows.blobMergesRow.domain false) (Rows.blobMergesSpec.post enc Try.prog Try.f7 false true false false):=by
  refine returnsInHanded_of_change (C:=Try.checked) (show ownKnob Try.prog.godebug=none by kernel_rfl) started (by kernel_rfl) Try.func7
    (ChangeSpec.witness6 (enc:=enc) (C:=Try.checked) false ⟨#[],#[.agg #[.int .i64 0,.int .i64 0,.int .i64 0,.int .i64 0,.int .i64 0,.int .i64 0,.int .i64 0,.int .i64 0,.int .i64 0,.int .i64 0,.int .i64 0,.int .i64 0,.int .i64 0],.agg #[.int .i64 0,.int .i64 0,.int .i64 0,.int .i64 0,.int .i64 0,.int .i64 0,.int .i64 0,.int .i64 0,.int .i64 0,.int .i64 0,.int .i64 0,.int .i64 0,.int .i64 0]],[]⟩ 8 (by kernel_rfl) (by kernel_rfl) (by kernel_rfl) (by kernel_rfl)) ?_
  intro W base args ds gs before hval0 hW hcnd _
  have hval:∀(j:Nat) t v,Try.f7.params[j]? =some t→args[j]? =some v→Value.okWide Try.prog W .any base t v:=hval0
  have hW':=hW
  obtain ⟨p,q,hA0,hV,rfl,hfz,hnd⟩:=hW
  have hA:DataW.TrodAll enc Try.prog W 0 (fun _=>true) true Try.f7.params.toList args.toList ds p:=hA0
  rw [Try.params7] at hA hval
  obtain ⟨v0,v1,d0,d1,p0,p1,rfl,rfl,rfl,h0,h1⟩:=trodAll_two hA
  obtain ⟨rfl,rfl⟩:=trodVars_none hV
  obtain ⟨⟨a00,a01,a02,a03,a04,a05,a06,a07,a08,a09,a010,a011,a012⟩,⟨_,_,_,_,_,_,_,_,_,_,_,_,_⟩,rfl,o0⟩:=zTc op51 ⟨_,Try.underlying51⟩ (hval 0 51 v0 rfl rfl) h0
  obtain ⟨⟨a10,a11,a12,a13,a14,a15,a16,a17,a18,a19,a110,a111,a112⟩,⟨_,_,_,_,_,_,_,_,_,_,_,_,_⟩,rfl,o1⟩:=zTc op51 ⟨_,Try.underlying51⟩ (hval 1 51 v1 rfl rfl) h1
  clear hA0 hval0
  simp only [List.append_nil] at hW'
  refine zie laid (by kernel_rfl) rfl (by kernel_rfl) Try.underlying4 hW' ⟨rfl,rfl,rfl⟩ ?_ znc
  exact trivial
end LawBlobMerges
theorem provedBlobMerges:Rows.BlobMergesSaid:=
  OpenClaim.holds_of_wide 7 Try.f7 rfl rfl rfl rfl rfl rfl rfl ⟨rfl,rfl,rfl,rfl,rfl⟩ rfl rfl rfl rfl rfl (by kernel_rfl) Try.func7 (by kernel_rfl)
    (of_decide_eq_true (by kernel_rfl)) (by unfold Func.isWrapper;first|(rw [if_pos (by decide +kernel)];kernel_rfl)|(rw [if_neg (by decide +kernel)];exact ⟨rfl,rfl⟩))
    (fun os started H enc _=>LawBlobMerges.lifted os started H enc)
end Go.Proofs.Ytefbbhiaalcjfaa
