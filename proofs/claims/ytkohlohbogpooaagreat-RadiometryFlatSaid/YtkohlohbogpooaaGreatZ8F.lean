/- The law RadiometryFlat holds: for every input that reads as data the program returns true, and the input reads behind the call as it did before. No condition beyond those of the given statement. -/
import Derived.Test.YtkohlohbogpooaaGreatZ8E
import Derived.Laws.Rows
import Derived.Test.YtkohlohbogpooaaGreatRows
set_option linter.unusedVariables false
set_option linter.unusedSimpArgs false
set_option linter.unusedSectionVars false
open Go.Proofs.Tryz renaming underlying44 → ya, underlying3 → yb, prog → yc
namespace Go.Proofs.YtkohlohbogpooaaGreat
open Go Go.ChangeShapes Go.WideShapes Go.ChangeAt Go.RowKit Sp
set_option linter.unusedVariables false
namespace LawRadiometryFlat
theorem op44:Opens yc 44 (rP (rI .i64) (rP (rI .i64) (rP (rI .i64) (rS (rI .i64))))):=zGd (ps:=[(3,0),(3,1),(3,2),(42,3)]) ya (by kernel_rfl) rfl (opensL_cons (by kernel_rfl) (zac yb) (opensL_cons (by kernel_rfl) (zac yb) (opensL_cons (by kernel_rfl) (zac yb) (opensL_one (by kernel_rfl) (zXd Tryz.underlying42 (by kernel_rfl) (by decide) (zac yb))))))
theorem laid:laidOutB yc=true:=by kernel_rfl
set_option maxHeartbeats 2000000 in
set_option maxRecDepth 100000 in
theorem lifted (os:Os) (started:os.Started) (H:Type) (enc:TypeId×Value→H):
    ReturnsInHanded {} Tryz.checked os 8 .any (Rows.radiometryFlatSpec.pre6 enc yc Tryz.f8 Rows.radiometryFlatRow.domain false) (Rows.radiometryFlatSpec.post enc yc Tryz.f8 false true false false):=by
  refine returnsInHanded_of_change (C:=Tryz.checked) (show ownKnob yc.godebug=none by kernel_rfl) started (by kernel_rfl) Tryz.func8
    (ChangeSpec.witness6 (enc:=enc) (C:=Tryz.checked) false ⟨#[],#[.agg #[.int .i64 0,.int .i64 0,.int .i64 0,.slice none 0 0],.agg #[.int .i64 0,.int .i64 0,.int .i64 0,.slice none 0 0],.agg #[.int .i64 0,.int .i64 0,.int .i64 0,.slice none 0 0]],[]⟩ 8 (by kernel_rfl) (by kernel_rfl) (by kernel_rfl) (by kernel_rfl)) ?_
  intro W base args ds gs before hval0 hW hcnd _
  have hval:∀(j:Nat) t v,Tryz.f8.params[j]? =some t→args[j]? =some v→Value.okWide yc W .any base t v:=hval0
  have hW':=hW
  obtain ⟨p,q,hA0,hV,rfl,hfz,hnd⟩:=hW
  have hA:DataW.TrodAll enc yc W 0 (fun _=>true) true Tryz.f8.params.toList args.toList ds p:=hA0
  rw [Tryz.params8] at hA hval
  obtain ⟨v0,v1,v2,d0,d1,d2,p0,p1,p2,rfl,rfl,rfl,h0,h1,h2⟩:=trodAll_three hA
  obtain ⟨rfl,rfl⟩:=trodVars_none hV
  obtain ⟨⟨a00,a01,a02,La03⟩,⟨_,_,_,⟨pa03,ca03⟩⟩,rfl,o0⟩:=zLc op44 ⟨_,ya⟩ (hval 0 44 v0 rfl rfl) h0
  obtain ⟨⟨a10,a11,a12,La13⟩,⟨_,_,_,⟨pa13,ca13⟩⟩,rfl,o1⟩:=zLc op44 ⟨_,ya⟩ (hval 1 44 v1 rfl rfl) h1
  obtain ⟨⟨a20,a21,a22,La23⟩,⟨_,_,_,⟨pa23,ca23⟩⟩,rfl,o2⟩:=zLc op44 ⟨_,ya⟩ (hval 2 44 v2 rfl rfl) h2
  clear hA0 hval0
  simp only [List.append_nil] at hW'
  refine zkf laid (by kernel_rfl) rfl (by kernel_rfl) Tryz.underlying4 hW' ⟨rfl,rfl,rfl⟩ ?_ (zkc (l:=La03) (ld:=La13) (lf:=La23) (zy.1 o0.1) (zy.1 o0.2.1) (zy.1 o0.2.2.1) (zy.1 o1.1) (zy.1 o1.2.1) (zy.1 o1.2.2.1) (zy.1 o2.1) (zy.1 o2.2.1) (zy.1 o2.2.2.1) rfl rfl rfl)
  exact ⟨o0.2.2.2,o1.2.2.2,o2.2.2.2,trivial⟩
end LawRadiometryFlat
theorem provedRadiometryFlat:Rows.RadiometryFlatSaid:=
  OpenClaim.holds_of_wide 8 Tryz.f8 rfl rfl rfl rfl rfl rfl rfl ⟨rfl,rfl,rfl,rfl,rfl⟩ rfl rfl rfl rfl rfl (by kernel_rfl) Tryz.func8 (by kernel_rfl)
    (of_decide_eq_true (by kernel_rfl)) (by unfold Func.isWrapper;first|(rw [if_pos (by decide +kernel)];kernel_rfl)|(rw [if_neg (by decide +kernel)];exact ⟨rfl,rfl⟩))
    (fun os started H enc _=>LawRadiometryFlat.lifted os started H enc)
end Go.Proofs.YtkohlohbogpooaaGreat
