/- The law RadiometryConsistent holds: for every input that reads as data the program returns true, and the input reads behind the call as it did before. No condition beyond those of the given statement. -/
import Derived.Test.YtkohlohbogpooaaGreatZ6E
import Derived.Laws.Rows
import Derived.Test.YtkohlohbogpooaaGreatRows
set_option linter.unusedVariables false
set_option linter.unusedSimpArgs false
set_option linter.unusedSectionVars false
open Go.Proofs.Tryz renaming underlying63 → ya, prog → yb
namespace Go.Proofs.YtkohlohbogpooaaGreat
open Go Go.ChangeShapes Go.WideShapes Go.ChangeAt Go.RowKit Sp
set_option linter.unusedVariables false
namespace LawRadiometryConsistent
theorem op64:Opens yb 64 (rP (rI .i16) (rP (rI .i16) (rP (rI .i16) (rP (rI .i16) (rP (rI .i16) (rI .i16)))))):=zDc (k:=1) (ps:=[(63,0),(63,1),(63,2),(63,3),(63,4),(63,5)]) Tryz.underlying64 (by kernel_rfl) (by kernel_rfl) rfl (opensL_cons (by kernel_rfl) (zcb ya) (opensL_cons (by kernel_rfl) (zcb ya) (opensL_cons (by kernel_rfl) (zcb ya) (opensL_cons (by kernel_rfl) (zcb ya) (opensL_cons (by kernel_rfl) (zcb ya) (opensL_one (by kernel_rfl) (zcb ya)))))))
theorem op65:Opens yb 65 (rS (rI2 .u8)):=zPd Tryz.underlying65 (by kernel_rfl) (by decide) (zve (zDc (k:=1) (ps:=[(5,0),(5,1)]) Tryz.underlying66 (by kernel_rfl) (by kernel_rfl) rfl (opensL_cons (by kernel_rfl) (zcb Tryz.underlying5) (opensL_one (by kernel_rfl) (zcb Tryz.underlying5)))) conv2)
theorem laid:laidOutB yb=true:=by kernel_rfl
set_option maxHeartbeats 2000000 in
set_option maxRecDepth 100000 in
theorem lifted (os:Os) (started:os.Started) (H:Type) (enc:TypeId×Value→H):
    ReturnsInHanded {} Tryz.checked os 6 .any (Rows.radiometryConsistentSpec.pre6 enc yb Tryz.f6 Rows.radiometryConsistentRow.domain false) (Rows.radiometryConsistentSpec.post enc yb Tryz.f6 false true false false):=by
  refine returnsInHanded_of_change (C:=Tryz.checked) (show ownKnob yb.godebug=none by kernel_rfl) started (by kernel_rfl) Tryz.func6
    (ChangeSpec.witness6 (enc:=enc) (C:=Tryz.checked) false ⟨#[],#[.agg #[.int .i16 0,.int .i16 0,.int .i16 0,.int .i16 0,.int .i16 0,.int .i16 0],.slice none 0 0],[]⟩ 8 (by kernel_rfl) (by kernel_rfl) (by kernel_rfl) (by kernel_rfl)) ?_
  intro W base args ds gs before hval0 hW hcnd _
  have hval:∀(j:Nat) t v,Tryz.f6.params[j]? =some t→args[j]? =some v→Value.okWide yb W .any base t v:=hval0
  have hW':=hW
  obtain ⟨p,q,hA0,hV,rfl,hfz,hnd⟩:=hW
  have hA:DataW.TrodAll enc yb W 0 (fun _=>true) true Tryz.f6.params.toList args.toList ds p:=hA0
  rw [Tryz.params6] at hA hval
  obtain ⟨v0,v1,d0,d1,p0,p1,rfl,rfl,rfl,h0,h1⟩:=trodAll_two hA
  obtain ⟨rfl,rfl⟩:=trodVars_none hV
  obtain ⟨⟨a00,a01,a02,a03,a04,a05⟩,⟨_,_,_,_,_,_⟩,rfl,o0⟩:=zef op64 Tryz.underlying64 (hval 0 64 v0 rfl rfl) h0
  obtain ⟨La1,⟨pa1,ca1⟩,e1,o1⟩:=zLf op65 rfl Tryz.underlying65 (hval 1 65 v1 rfl rfl) h1
  obtain rfl:v1=_:=by simpa [rS,rI,rB] using e1
  clear hA0 hval0
  simp only [List.append_nil] at hW'
  refine zgf laid (by kernel_rfl) rfl (by kernel_rfl) Tryz.underlying4 hW' ⟨rfl,rfl,rfl⟩ ?_ (ztb (l:=La1) rfl (zec.1 o0.1) (zec.1 o0.2.1) (zec.1 o0.2.2.1) (zec.1 o0.2.2.2.1) (zec.1 o0.2.2.2.2.1) (zec.1 o0.2.2.2.2.2))
  exact ⟨o1,trivial⟩
end LawRadiometryConsistent
theorem provedRadiometryConsistent:Rows.RadiometryConsistentSaid:=
  OpenClaim.holds_of_wide 6 Tryz.f6 rfl rfl rfl rfl rfl rfl rfl ⟨rfl,rfl,rfl,rfl,rfl⟩ rfl rfl rfl rfl rfl (by kernel_rfl) Tryz.func6 (by kernel_rfl)
    (of_decide_eq_true (by kernel_rfl)) (by unfold Func.isWrapper;first|(rw [if_pos (by decide +kernel)];kernel_rfl)|(rw [if_neg (by decide +kernel)];exact ⟨rfl,rfl⟩))
    (fun os started H enc _=>LawRadiometryConsistent.lifted os started H enc)
end Go.Proofs.YtkohlohbogpooaaGreat
