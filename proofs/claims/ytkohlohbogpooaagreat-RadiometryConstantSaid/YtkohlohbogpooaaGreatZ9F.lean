/- The law RadiometryConstant holds: for every input that reads as data the program returns true, and the input reads behind the call as it did before. No condition beyond those of the given statement. -/
import Derived.Test.YtkohlohbogpooaaGreatZ9E
import Derived.Laws.Rows
import Derived.Test.YtkohlohbogpooaaGreatRows
set_option linter.unusedVariables false
set_option linter.unusedSimpArgs false
set_option linter.unusedSectionVars false
open Go.Proofs.Tryz renaming underlying3 → ya, prog → yb, underlying44 → yc
namespace Go.Proofs.YtkohlohbogpooaaGreat
open Go Go.ChangeShapes Go.WideShapes Go.ChangeAt Go.RowKit Sp
set_option linter.unusedVariables false
namespace LawRadiometryConstant
theorem op5:Opens yb 5 (rI .u8):=zFb Tryz.underlying5
theorem op44:Opens yb 44 (rP (rI .i64) (rP (rI .i64) (rP (rI .i64) (rS (rI .i64))))):=zDd (ps:=[(3,0),(3,1),(3,2),(42,3)]) yc (by kernel_rfl) rfl (opensL_cons (by kernel_rfl) (zFb ya) (opensL_cons (by kernel_rfl) (zFb ya) (opensL_cons (by kernel_rfl) (zFb ya) (opensL_one (by kernel_rfl) (zWd Tryz.underlying42 (by kernel_rfl) (by decide) (zFb ya))))))
theorem laid:laidOutB yb=true:=by kernel_rfl
set_option maxHeartbeats 2000000 in
set_option maxRecDepth 100000 in
theorem lifted (os:Os) (started:os.Started) (H:Type) (enc:TypeId×Value→H):
    ReturnsInHanded {} Tryz.checked os 9 .any (Rows.radiometryConstantSpec.pre6 enc yb Tryz.f9 Rows.radiometryConstantRow.domain false) (Rows.radiometryConstantSpec.post enc yb Tryz.f9 false true false false):=by
  refine returnsInHanded_of_change (C:=Tryz.checked) (show ownKnob yb.godebug=none by kernel_rfl) started (by kernel_rfl) Tryz.func9
    (ChangeSpec.witness6 (enc:=enc) (C:=Tryz.checked) false ⟨#[],#[.agg #[.int .i64 0,.int .i64 0,.int .i64 0,.slice none 0 0],.agg #[.int .i64 0,.int .i64 0,.int .i64 0,.slice none 0 0],.int .u8 0],[]⟩ 8 (by kernel_rfl) (by kernel_rfl) (by kernel_rfl) (by kernel_rfl)) ?_
  intro W base args ds gs before hval0 hW hcnd _
  have hval:∀(j:Nat) t v,Tryz.f9.params[j]? =some t→args[j]? =some v→Value.okWide yb W .any base t v:=hval0
  have hW':=hW
  obtain ⟨p,q,hA0,hV,rfl,hfz,hnd⟩:=hW
  have hA:DataW.TrodAll enc yb W 0 (fun _=>true) true Tryz.f9.params.toList args.toList ds p:=hA0
  rw [Tryz.params9] at hA hval
  obtain ⟨v0,v1,v2,d0,d1,d2,p0,p1,p2,rfl,rfl,rfl,h0,h1,h2⟩:=trodAll_three hA
  obtain ⟨rfl,rfl⟩:=trodVars_none hV
  obtain ⟨⟨a00,a01,a02,La03⟩,⟨_,_,_,⟨pa03,ca03⟩⟩,rfl,o0⟩:=zEd op44 ⟨_,yc⟩ (hval 0 44 v0 rfl rfl) h0
  obtain ⟨⟨a10,a11,a12,La13⟩,⟨_,_,_,⟨pa13,ca13⟩⟩,rfl,o1⟩:=zEd op44 ⟨_,yc⟩ (hval 1 44 v1 rfl rfl) h1
  obtain ⟨a2,rfl,rfl,rfl,o2⟩:=open_int Tryz.underlying5 (hval 2 5 v2 rfl rfl) h2
  clear hA0 hval0
  simp only [List.append_nil] at hW'
  refine zhf laid (by kernel_rfl) rfl (by kernel_rfl) Tryz.underlying4 hW' ⟨rfl,rfl,rfl⟩ ?_ (zzb (ld:=La03) (lf:=La13) (zE.1 o0.1) (zE.1 o0.2.1) (zE.1 o0.2.2.1) (zE.1 o1.1) (zE.1 o1.2.1) (zE.1 o1.2.2.1) rfl rfl (inK_u8.1 (zCd o2)))
  exact ⟨o0.2.2.2,o1.2.2.2,trivial⟩
end LawRadiometryConstant
theorem provedRadiometryConstant:Rows.RadiometryConstantSaid:=
  OpenClaim.holds_of_wide 9 Tryz.f9 rfl rfl rfl rfl rfl rfl rfl ⟨rfl,rfl,rfl,rfl,rfl⟩ rfl rfl rfl rfl rfl (by kernel_rfl) Tryz.func9 (by kernel_rfl)
    (of_decide_eq_true (by kernel_rfl)) (by unfold Func.isWrapper;first|(rw [if_pos (by decide +kernel)];kernel_rfl)|(rw [if_neg (by decide +kernel)];exact ⟨rfl,rfl⟩))
    (fun os started H enc _=>LawRadiometryConstant.lifted os started H enc)
end Go.Proofs.YtkohlohbogpooaaGreat
