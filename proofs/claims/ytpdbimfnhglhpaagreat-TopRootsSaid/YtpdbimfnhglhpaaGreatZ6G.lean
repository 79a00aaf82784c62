/- The given statement TopRoots: the program returns true for every input that reads as data, and the input reads behind the call as it did. No condition beyond those of the given statement. -/
import Derived.Test.YtpdbimfnhglhpaaGreatZ6F
import Derived.Test.YtpdbimfnhglhpaaGreatRows
import Derived.Laws.Rows
set_option linter.unusedVariables false
set_option linter.unusedSimpArgs false
set_option linter.unusedSectionVars false
namespace Go.Proofs.YtpdbimfnhglhpaaGreat
open Go Go.ChangeShapes Go.WideShapes Go.ChangeAt Go.RowKit Sp
namespace LawTopRoots
theorem zuL:JP Tryz.prog 84 (rP (rI3 .i64) (rP (rI4 .i64) (rP (rI .i64) (rI2 .i64)))):=QS (ps:=[(78,0),(80,3),(3,7),(82,8)]) Tryz.underlying84 (by kernel_rfl) rfl (j2 (by kernel_rfl) (J4 (QS (ps:=[(3,0),(3,1),(3,2)]) Tryz.underlying78 (by kernel_rfl) rfl (j2 (by kernel_rfl) (Zg Tryz.underlying3) (j2 (by kernel_rfl) (Zg Tryz.underlying3) (V8 (by kernel_rfl) (Zg Tryz.underlying3))))) zre) (j2 (by kernel_rfl) (J4 (QS (ps:=[(3,0),(3,1),(3,2),(3,3)]) Tryz.underlying80 (by kernel_rfl) rfl (j2 (by kernel_rfl) (Zg Tryz.underlying3) (j2 (by kernel_rfl) (Zg Tryz.underlying3) (j2 (by kernel_rfl) (Zg Tryz.underlying3) (V8 (by kernel_rfl) (Zg Tryz.underlying3)))))) zsu) (j2 (by kernel_rfl) (Zg Tryz.underlying3) (V8 (by kernel_rfl) (J4 (QS (ps:=[(3,0),(3,1)]) Tryz.underlying82 (by kernel_rfl) rfl (j2 (by kernel_rfl) (Zg Tryz.underlying3) (V8 (by kernel_rfl) (Zg Tryz.underlying3)))) ztI)))))
theorem op85:JP Tryz.prog 85 (rS (rI3 .i64)):=zfP Tryz.underlying85 (by kernel_rfl) (by decide) (J4 (QS (ps:=[(3,0),(3,1),(3,2)]) Tryz.underlying78 (by kernel_rfl) rfl (j2 (by kernel_rfl) (Zg Tryz.underlying3) (j2 (by kernel_rfl) (Zg Tryz.underlying3) (V8 (by kernel_rfl) (Zg Tryz.underlying3))))) zre)
theorem laid:laidOutB Tryz.prog=true:=by kernel_rfl
set_option maxHeartbeats 2000000 in
set_option maxRecDepth 100000 in
theorem lifted (os:Os) (started:os.Started) (H:Type) (enc:TypeId×Value→H):
    ReturnsInHanded {} Tryz.checked os 5 .any (Rows.topRootsSpec.pre6 enc Tryz.prog Tryz.f5 Rows.topRootsRow.domain false) (Rows.topRootsSpec.post enc Tryz.prog Tryz.f5 false true false false):=by
  refine returnsInHanded_of_change (C:=Tryz.checked) (show ownKnob Tryz.prog.godebug=none by kernel_rfl) started (by kernel_rfl) Tryz.func5
    (ChangeSpec.witness6 (enc:=enc) (C:=Tryz.checked) false ⟨#[],#[.agg #[.int .i64 0,.int .i64 0,.int .i64 0,.int .i64 0,.int .i64 0,.int .i64 0,.int .i64 0,.int .i64 0,.int .i64 0,.int .i64 0],.agg #[.int .i64 0,.int .i64 0,.int .i64 0,.int .i64 0,.int .i64 0,.int .i64 0,.int .i64 0,.int .i64 0,.int .i64 0,.int .i64 0],.slice none 0 0],[]⟩ 8 (by kernel_rfl) (by kernel_rfl) (by kernel_rfl) (by kernel_rfl)) ?_
  intro W base args ds gs before hval0 hW hcnd _
  have hval:∀(j:Nat) t v,Tryz.f5.params[j]? =some t→args[j]? =some v→Value.okWide Tryz.prog W .any base t v:=hval0
  have hW':=hW
  obtain ⟨p,q,hA0,hV,rfl,hfz,hnd⟩:=hW
  have hA:DataW.TrodAll enc Tryz.prog W 0 (fun _=>true) true Tryz.f5.params.toList args.toList ds p:=hA0
  rw [Tryz.params5] at hA hval
  obtain ⟨v0,v1,v2,d0,d1,d2,p0,p1,p2,rfl,rfl,rfl,h0,h1,h2⟩:=trodAll_three hA
  obtain ⟨rfl,rfl⟩:=trodVars_none hV
  obtain ⟨⟨⟨a00a,a00b,a00c⟩,a01,a02,⟨a03a,a03b⟩⟩,⟨_,_,_,_⟩,rfl,o0⟩:=zdC zuL ⟨_,Tryz.underlying84⟩ (hval 0 84 v0 rfl rfl) h0
  obtain ⟨⟨⟨a10a,a10b,a10c⟩,a11,a12,⟨a13a,a13b⟩⟩,⟨_,_,_,_⟩,rfl,o1⟩:=zdC zuL ⟨_,Tryz.underlying84⟩ (hval 1 84 v1 rfl rfl) h1
  obtain ⟨La2,⟨pa2,ca2⟩,e2,o2⟩:=zl7 op85 rfl Tryz.underlying85 (hval 2 85 v2 rfl rfl) h2
  obtain rfl:v2=_:=by simpa [rS,rI,rB] using e2
  clear hA0 hval0
  simp only [List.append_nil] at hW'
  refine zkJ laid (by kernel_rfl) rfl (by kernel_rfl) Tryz.underlying4 hW' ⟨rfl,rfl,rfl⟩ ?_ (zfE (s:=⟨a00a,a00b,a00c,a01.a,a01.b,a01.d,a01.w,a02,a03a,a03b⟩) (t:=⟨a10a,a10b,a10c,a11.a,a11.b,a11.d,a11.w,a12,a13a,a13b⟩) (lP:=La2) rfl ⟨o0.1.1,o0.1.2.1,o0.1.2.2,o0.2.1.1,o0.2.1.2.1,o0.2.1.2.2.1,o0.2.1.2.2.2,o0.2.2.1,o0.2.2.2.1,o0.2.2.2.2⟩ ⟨o1.1.1,o1.1.2.1,o1.1.2.2,o1.2.1.1,o1.2.1.2.1,o1.2.1.2.2.1,o1.2.1.2.2.2,o1.2.2.1,o1.2.2.2.1,o1.2.2.2.2⟩)
  exact ⟨o2,trivial⟩
end LawTopRoots
theorem provedTopRoots:Rows.TopRootsSaid:=
  OpenClaim.holds_of_wide 5 Tryz.f5 rfl rfl rfl rfl rfl rfl rfl ⟨rfl,rfl,rfl,rfl,rfl⟩ rfl rfl rfl rfl rfl (by kernel_rfl) Tryz.func5 (by kernel_rfl)
    (of_decide_eq_true (by kernel_rfl)) (by unfold Func.isWrapper;first|(rw [if_pos (by decide +kernel)];kernel_rfl)|(rw [if_neg (by decide +kernel)];exact ⟨rfl,rfl⟩))
    (fun os started H enc _=>LawTopRoots.lifted os started H enc)
end Go.Proofs.YtpdbimfnhglhpaaGreat
