/- The law TopDepth holds: for every input that reads as data the program returns true, and the input reads behind the call as it did before. No condition beyond those of the given statement. -/
import Derived.Test.YtpdbimfnhglhpaaGreatZ3F
import Derived.Laws.Rows
import Derived.Test.YtpdbimfnhglhpaaGreatRows
set_option linter.unusedVariables false
set_option linter.unusedSimpArgs false
set_option linter.unusedSectionVars false
open Go.Proofs.Tryz renaming prog → yd, underlying23 → ye
namespace Go.Proofs.YtpdbimfnhglhpaaGreat
open Go Go.ChangeShapes Go.WideShapes Go.ChangeAt Go.RowKit Sp
set_option linter.unusedVariables false
namespace LawTopDepth
theorem op22:Opens yd 22 (rI2 .i64):=zrc (zVb (k:=1) (ps:=[(3,0),(3,1)]) Tryz.underlying22 (by kernel_rfl) (by kernel_rfl) rfl (opensL_cons (by kernel_rfl) (znb Tryz.underlying3) (opensL_one (by kernel_rfl) (znb Tryz.underlying3)))) conv2
theorem op24:Opens yd 24 (rI3 .i16):=zrc (zVb (k:=1) (ps:=[(23,0),(23,1),(23,2)]) Tryz.underlying24 (by kernel_rfl) (by kernel_rfl) rfl (opensL_cons (by kernel_rfl) (znb ye) (opensL_cons (by kernel_rfl) (znb ye) (opensL_one (by kernel_rfl) (znb ye))))) conv3
theorem op26:Opens yd 26 (rI2 .i8):=zrc (zVb (k:=1) (ps:=[(25,0),(25,1)]) Tryz.underlying26 (by kernel_rfl) (by kernel_rfl) rfl (opensL_cons (by kernel_rfl) (znb Tryz.underlying25) (opensL_one (by kernel_rfl) (znb Tryz.underlying25)))) conv2
theorem laid:laidOutB yd=true:=by kernel_rfl
set_option maxHeartbeats 2000000 in
set_option maxRecDepth 100000 in
theorem lifted (os:Os) (started:os.Started) (H:Type) (enc:TypeId×Value→H):
    ReturnsInHanded {} Tryz.checked os 3 .any (Rows.topDepthSpec.pre6 enc yd Tryz.f3 Rows.topDepthRow.domain false) (Rows.topDepthSpec.post enc yd Tryz.f3 false true false false):=by
  refine returnsInHanded_of_change (C:=Tryz.checked) (show ownKnob yd.godebug=none by kernel_rfl) started (by kernel_rfl) Tryz.func3
    (ChangeSpec.witness6 (enc:=enc) (C:=Tryz.checked) false ⟨#[],#[.agg #[.int .i64 0,.int .i64 0],.agg #[.int .i16 0,.int .i16 0,.int .i16 0],.agg #[.int .i8 0,.int .i8 0]],[]⟩ 8 (by kernel_rfl) (by kernel_rfl) (by kernel_rfl) (by kernel_rfl)) ?_
  intro W base args ds gs before hval0 hW hcnd _
  have hval:∀(j:Nat) t v,Tryz.f3.params[j]? =some t→args[j]? =some v→Value.okWide yd W .any base t v:=hval0
  have hW':=hW
  obtain ⟨p,q,hA0,hV,rfl,hfz,hnd⟩:=hW
  have hA:DataW.TrodAll enc yd W 0 (fun _=>true) true Tryz.f3.params.toList args.toList ds p:=hA0
  rw [Tryz.params3] at hA hval
  obtain ⟨v0,v1,v2,d0,d1,d2,p0,p1,p2,rfl,rfl,rfl,h0,h1,h2⟩:=trodAll_three hA
  obtain ⟨rfl,rfl⟩:=trodVars_none hV
  obtain ⟨⟨a0a,a0b⟩,_,rfl,o0⟩:=zNc op22 Tryz.underlying22 (hval 0 22 v0 rfl rfl) h0
  obtain ⟨⟨a1a,a1b,a1c⟩,_,rfl,o1⟩:=zNc op24 Tryz.underlying24 (hval 1 24 v1 rfl rfl) h1
  obtain ⟨⟨a2a,a2b⟩,_,rfl,o2⟩:=zNc op26 Tryz.underlying26 (hval 2 26 v2 rfl rfl) h2
  clear hA0 hval0
  simp only [List.append_nil] at hW'
  refine zvf laid (by kernel_rfl) rfl (by kernel_rfl) Tryz.underlying4 hW' ⟨rfl,rfl,rfl⟩ ?_ (zie (zje.1 o1.1) (zje.1 o1.2.1) (zje.1 o1.2.2) (zAg.1 o2.1) (zAg.1 o2.2))
  exact trivial
end LawTopDepth
theorem provedTopDepth:Rows.TopDepthSaid:=
  OpenClaim.holds_of_wide 3 Tryz.f3 rfl rfl rfl rfl rfl rfl rfl ⟨rfl,rfl,rfl,rfl,rfl⟩ rfl rfl rfl rfl rfl (by kernel_rfl) Tryz.func3 (by kernel_rfl)
    (of_decide_eq_true (by kernel_rfl)) (by unfold Func.isWrapper;first|(rw [if_pos (by decide +kernel)];kernel_rfl)|(rw [if_neg (by decide +kernel)];exact ⟨rfl,rfl⟩))
    (fun os started H enc _=>LawTopDepth.lifted os started H enc)
end Go.Proofs.YtpdbimfnhglhpaaGreat
