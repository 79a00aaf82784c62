/- The law BlobMoments holds: for every input that reads as data the program returns true, and the input reads behind the call as it did before. No condition beyond those of the given statement. -/
import Derived.Test.YtefbbhiaalcjfaaGreatZ4E
import Derived.Laws.Rows
import Derived.Test.YtefbbhiaalcjfaaGreatRows
set_option linter.unusedVariables false
set_option linter.unusedSimpArgs false
set_option linter.unusedSectionVars false
namespace Go.Proofs.YtefbbhiaalcjfaaGreat
open Go Go.ChangeShapes Go.WideShapes Go.ChangeAt Go.RowKit Sp
set_option linter.unusedVariables false
namespace LawBlobMoments
theorem op3:Opens Tryz.prog 3 (rI .i64):=zCa Tryz.underlying3
theorem op33:Opens Tryz.prog 33 (rP (rI .i64) (rP (rI .i64) (rP (rI .i64) (rP (rI .i64) (rP (rI .i64) (rP (rI .i64) (rP (rI .i64) (rP (rI .i64) (rP (rI .i64) (rP (rI .i64) (rP (rI .i64) (rP (rI .i64) (rI .i64))))))))))))):=ztd (ps:=[(3,0),(3,1),(3,2),(3,3),(3,4),(3,5),(3,6),(3,7),(3,8),(3,9),(3,10),(3,11),(3,12)]) Tryz.underlying33 (by kernel_rfl) rfl (opensL_cons (by kernel_rfl) (zCa Tryz.underlying3) (opensL_cons (by kernel_rfl) (zCa Tryz.underlying3) (opensL_cons (by kernel_rfl) (zCa Tryz.underlying3) (opensL_cons (by kernel_rfl) (zCa Tryz.underlying3) (opensL_cons (by kernel_rfl) (zCa Tryz.underlying3) (opensL_cons (by kernel_rfl) (zCa Tryz.underlying3) (opensL_cons (by kernel_rfl) (zCa Tryz.underlying3) (opensL_cons (by kernel_rfl) (zCa Tryz.underlying3) (opensL_cons (by kernel_rfl) (zCa Tryz.underlying3) (opensL_cons (by kernel_rfl) (zCa Tryz.underlying3) (opensL_cons (by kernel_rfl) (zCa Tryz.underlying3) (opensL_cons (by kernel_rfl) (zCa Tryz.underlying3) (opensL_one (by kernel_rfl) (zCa Tryz.underlying3))))))))))))))
theorem laid:laidOutB Tryz.prog=true:=by kernel_rfl
set_option maxRecDepth 100000 in
theorem lifted (os:Os) (started:os.Started) (H:Type) (enc:TypeId×Value→H):
    ReturnsInHanded {} Tryz.checked os 4 .any (Rows.blobMomentsSpec.pre6 enc Tryz.prog Tryz.f4 Rows.blobMomentsRow.domain false) (Rows.blobMomentsSpec.post enc Tryz.prog Tryz.f4 false true false false):=by
  refine returnsInHanded_of_change (C:=Tryz.checked) (show ownKnob Tryz.prog.godebug=none by kernel_rfl) started (by kernel_rfl) Tryz.func4
    (ChangeSpec.witness6 (enc:=enc) (C:=Tryz.checked) false ⟨#[],#[.agg #[.int .i64 0,.int .i64 0,.int .i64 0,.int .i64 0,.int .i64 0,.int .i64 0,.int .i64 0,.int .i64 0,.int .i64 0,.int .i64 0,.int .i64 0,.int .i64 0,.int .i64 0],.int .i64 0,.int .i64 0],[]⟩ 8 (by kernel_rfl) (by kernel_rfl) (by kernel_rfl) (by kernel_rfl)) ?_
  intro W base args ds gs before hval0 hW hcnd _
  have hval:∀(j:Nat) t v,Tryz.f4.params[j]? =some t→args[j]? =some v→Value.okWide Tryz.prog W .any base t v:=hval0
  have hW':=hW
  obtain ⟨p,q,hA0,hV,rfl,hfz,hnd⟩:=hW
  have hA:DataW.TrodAll enc Tryz.prog W 0 (fun _=>true) true Tryz.f4.params.toList args.toList ds p:=hA0
  rw [Tryz.params4] at hA hval
  obtain ⟨v0,v1,v2,d0,d1,d2,p0,p1,p2,rfl,rfl,rfl,h0,h1,h2⟩:=trodAll_three hA
  obtain ⟨rfl,rfl⟩:=trodVars_none hV
  obtain ⟨⟨a00,a01,a02,a03,a04,a05,a06,a07,a08,a09,a010,a011,a012⟩,⟨_,_,_,_,_,_,_,_,_,_,_,_,_⟩,rfl,o0⟩:=zNe op33 ⟨_,Tryz.underlying33⟩ (hval 0 33 v0 rfl rfl) h0
  obtain ⟨a1,rfl,rfl,rfl,o1⟩:=open_int Tryz.underlying3 (hval 1 3 v1 rfl rfl) h1
  obtain ⟨a2,rfl,rfl,rfl,o2⟩:=open_int Tryz.underlying3 (hval 2 3 v2 rfl rfl) h2
  clear hA0 hval0
  simp only [List.append_nil] at hW'
  refine zOe laid (by kernel_rfl) rfl (by kernel_rfl) Tryz.underlying4 hW' ⟨rfl,rfl,rfl⟩ ?_ (zNc (wf_i64 o1) (wf_i64 o2))
  exact trivial
end LawBlobMoments
theorem provedBlobMoments:Rows.BlobMomentsSaid:=
  OpenClaim.holds_of_wide 4 Tryz.f4 rfl rfl rfl rfl rfl rfl rfl ⟨rfl,rfl,rfl,rfl,rfl⟩ rfl rfl rfl rfl rfl (by kernel_rfl) Tryz.func4 (by kernel_rfl)
    (of_decide_eq_true (by kernel_rfl)) (by unfold Func.isWrapper;first|(rw [if_pos (by decide +kernel)];kernel_rfl)|(rw [if_neg (by decide +kernel)];exact ⟨rfl,rfl⟩))
    (fun os started H enc _=>LawBlobMoments.lifted os started H enc)
end Go.Proofs.YtefbbhiaalcjfaaGreat
