/- The law RadiometryTables holds: for every input that reads as data the program returns true, and the input reads behind the call as it did before. No condition beyond those of the given statement. -/
import Derived.Test.YtkohlohbogpooaaGreatZ7E
import Derived.Laws.Rows
import Derived.Test.YtkohlohbogpooaaGreatRows
set_option linter.unusedVariables false
set_option linter.unusedSimpArgs false
set_option linter.unusedSectionVars false
open Go.Proofs.Tryz renaming prog → ya, underlying42 → yb
namespace Go.Proofs.YtkohlohbogpooaaGreat
open Go Go.ChangeShapes Go.WideShapes Go.ChangeAt Go.RowKit Sp
set_option linter.unusedVariables false
namespace LawRadiometryTables
theorem op42:Opens ya 42 (rS (rI .i64)):=zNd yb (by kernel_rfl) (by decide) (zgf Tryz.underlying3)
theorem laid:laidOutB ya=true:=by kernel_rfl
set_option maxHeartbeats 2000000 in
set_option maxRecDepth 100000 in
theorem lifted (os:Os) (started:os.Started) (H:Type) (enc:TypeId×Value→H):
    ReturnsInHanded {} Tryz.checked os 7 .any (Rows.radiometryTablesSpec.pre6 enc ya Tryz.f7 Rows.radiometryTablesRow.domain false) (Rows.radiometryTablesSpec.post enc ya Tryz.f7 false true false false):=by
  refine returnsInHanded_of_change (C:=Tryz.checked) (show ownKnob ya.godebug=none by kernel_rfl) started (by kernel_rfl) Tryz.func7
    (ChangeSpec.witness6 (enc:=enc) (C:=Tryz.checked) false ⟨#[],#[.slice none 0 0,.slice none 0 0],[]⟩ 8 (by kernel_rfl) (by kernel_rfl) (by kernel_rfl) (by kernel_rfl)) ?_
  intro W base args ds gs before hval0 hW hcnd _
  have hval:∀(j:Nat) t v,Tryz.f7.params[j]? =some t→args[j]? =some v→Value.okWide ya W .any base t v:=hval0
  have hW':=hW
  obtain ⟨p,q,hA0,hV,rfl,hfz,hnd⟩:=hW
  have hA:DataW.TrodAll enc ya W 0 (fun _=>true) true Tryz.f7.params.toList args.toList ds p:=hA0
  rw [Tryz.params7] at hA hval
  obtain ⟨v0,v1,d0,d1,p0,p1,rfl,rfl,rfl,h0,h1⟩:=trodAll_two hA
  obtain ⟨rfl,rfl⟩:=trodVars_none hV
  obtain ⟨La0,⟨pa0,ca0⟩,e0,o0⟩:=zie op42 rfl yb (hval 0 42 v0 rfl rfl) h0
  obtain rfl:v0=_:=by simpa [rS,rI,rB] using e0
  obtain ⟨La1,⟨pa1,ca1⟩,e1,o1⟩:=zie op42 rfl yb (hval 1 42 v1 rfl rfl) h1
  obtain rfl:v1=_:=by simpa [rS,rI,rB] using e1
  clear hA0 hval0
  simp only [List.append_nil] at hW'
  refine zif laid (by kernel_rfl) rfl (by kernel_rfl) Tryz.underlying4 hW' ⟨rfl,rfl,rfl⟩ ?_ (zIb (l1:=La0) (l2:=La1) rfl rfl)
  exact ⟨o0,o1,trivial⟩
end LawRadiometryTables
theorem provedRadiometryTables:Rows.RadiometryTablesSaid:=
  OpenClaim.holds_of_wide 7 Tryz.f7 rfl rfl rfl rfl rfl rfl rfl ⟨rfl,rfl,rfl,rfl,rfl⟩ rfl rfl rfl rfl rfl (by kernel_rfl) Tryz.func7 (by kernel_rfl)
    (of_decide_eq_true (by kernel_rfl)) (by unfold Func.isWrapper;first|(rw [if_pos (by decide +kernel)];kernel_rfl)|(rw [if_neg (by decide +kernel)];exact ⟨rfl,rfl⟩))
    (fun os started H enc _=>LawRadiometryTables.lifted os started H enc)
end Go.Proofs.YtkohlohbogpooaaGreat
