/- The law TopEuler holds: for every input that reads as data the program returns true, and the input reads behind the call as it did before. No condition beyond those of the given statement. -/
import Derived.Test.YtpdbimfnhglhpaaZ3E
import Derived.Laws.Rows
import Derived.Test.YtpdbimfnhglhpaaRows
set_option linter.unusedVariables false
set_option linter.unusedSimpArgs false
set_option linter.unusedSectionVars false
namespace Go.Proofs.Ytpdbimfnhglhpaa
open Go Go.ChangeShapes Go.WideShapes Go.ChangeAt Go.RowKit Sp
set_option linter.unusedVariables false
namespace LawTopEuler
theorem op3:Opens Try.prog 3 (rI .i64):=zab Try.underlying3
theorem op24:Opens Try.prog 24 (rP (rI .i64) (rP (rI .i64) (rP (rI .i64) (rS (rI .i64))))):=zZb (ps:=[(3,0),(3,1),(3,2),(22,3)]) Try.underlying24 (by kernel_rfl) rfl (opensL_cons (by kernel_rfl) (zab Try.underlying3) (opensL_cons (by kernel_rfl) (zab Try.underlying3) (opensL_cons (by kernel_rfl) (zab Try.underlying3) (opensL_one (by kernel_rfl) (zkc Try.underlying22 (by kernel_rfl) (by decide) (zab Try.underlying3))))))
theorem laid:laidOutB Try.prog=true:=by kernel_rfl
set_option maxHeartbeats 2000000 in
set_option maxRecDepth 100000 in
theorem lifted (os:Os) (started:os.Started) (H:Type) (enc:TypeId×Value→H):
    ReturnsInHanded {} Try.checked os 3 .any (Rows.topEulerSpec.pre6 enc Try.prog Try.f3 Rows.topEulerRow.domain false) (Rows.topEulerSpec.post enc Try.prog Try.f3 false true false false):=by
  refine returnsInHanded_of_change (C:=Try.checked) (show ownKnob Try.prog.godebug=none by kernel_rfl) started (by kernel_rfl) Try.func3
    (ChangeSpec.witness6 (enc:=enc) (C:=Try.checked) false ⟨#[],#[.agg #[.int .i64 0,.int .i64 0,.int .i64 0,.slice none 0 0],.int .i64 0],[]⟩ 8 (by kernel_rfl) (by kernel_rfl) (by kernel_rfl) (by kernel_rfl)) ?_
  intro W base args ds gs before hval0 hW hcnd _
  have hval:∀(j:Nat) t v,Try.f3.params[j]? =some t→args[j]? =some v→Value.okWide Try.prog W .any base t v:=hval0
  have hW':=hW
  obtain ⟨p,q,hA0,hV,rfl,hfz,hnd⟩:=hW
  have hA:DataW.TrodAll enc Try.prog W 0 (fun _=>true) true Try.f3.params.toList args.toList ds p:=hA0
  rw [Try.params3] at hA hval
  obtain ⟨v0,v1,d0,d1,p0,p1,rfl,rfl,rfl,h0,h1⟩:=trodAll_two hA
  obtain ⟨rfl,rfl⟩:=trodVars_none hV
  obtain ⟨⟨a00,a01,a02,La03⟩,⟨_,_,_,⟨pa03,ca03⟩⟩,rfl,o0⟩:=zMc op24 ⟨_,Try.underlying24⟩ (hval 0 24 v0 rfl rfl) h0
  obtain ⟨a1,rfl,rfl,rfl,o1⟩:=open_int Try.underlying3 (hval 1 3 v1 rfl rfl) h1
  clear hA0 hval0
  simp only [List.append_nil] at hW'
  refine zNc laid (by kernel_rfl) rfl (by kernel_rfl) Try.underlying4 hW' ⟨rfl,rfl,rfl⟩ ?_ (zfc (l:=La03) rfl (wf_i64 o1))
  exact ⟨o0.2.2.2,trivial⟩
end LawTopEuler
theorem provedTopEuler:Rows.TopEulerSaid:=
  OpenClaim.holds_of_wide 3 Try.f3 rfl rfl rfl rfl rfl rfl rfl ⟨rfl,rfl,rfl,rfl,rfl⟩ rfl rfl rfl rfl rfl (by kernel_rfl) Try.func3 (by kernel_rfl)
    (of_decide_eq_true (by kernel_rfl)) (by unfold Func.isWrapper;first|(rw [if_pos (by decide +kernel)];kernel_rfl)|(rw [if_neg (by decide +kernel)];exact ⟨rfl,rfl⟩))
    (fun os started H enc _=>LawTopEuler.lifted os started H enc)
end Go.Proofs.Ytpdbimfnhglhpaa
