/- The law PolygonWindows holds: for every input that reads as data the program returns true, and the input reads behind the call as it did before. No condition beyond those of the given statement. -/
import Derived.Test.YtjcpbhlijoigfaaGreatZ5F
import Derived.Laws.Rows
import Derived.Test.YtjcpbhlijoigfaaGreatRows
set_option linter.unusedVariables false
set_option linter.unusedSimpArgs false
set_option linter.unusedSectionVars false
open Go.Proofs.Tryz renaming underlying30 → ya, underlying3 → yb, prog → yc
namespace Go.Proofs.YtjcpbhlijoigfaaGreat
open Go Go.ChangeShapes Go.WideShapes Go.ChangeAt Go.RowKit Sp
set_option linter.unusedVariables false
namespace LawPolygonWindows
theorem op22:Opens yc 22 (rS (rI2 .i64)):=zhe Tryz.underlying22 (by kernel_rfl) (by decide) (zkd (zGc (ps:=[(3,0),(3,1)]) ya (by kernel_rfl) rfl (opensL_cons (by kernel_rfl) (zjc yb) (opensL_one (by kernel_rfl) (zjc yb)))) conv2)
theorem op30:Opens yc 30 (rI2 .i64):=zkd (zGc (ps:=[(3,0),(3,1)]) ya (by kernel_rfl) rfl (opensL_cons (by kernel_rfl) (zjc yb) (opensL_one (by kernel_rfl) (zjc yb)))) conv2
theorem laid:laidOutB yc=true:=by kernel_rfl
set_option maxHeartbeats 2000000 in
set_option maxRecDepth 100000 in
theorem lifted (os:Os) (started:os.Started) (H:Type) (enc:TypeId×Value→H):
    ReturnsInHanded {} Tryz.checked os 5 .any (Rows.polygonWindowsSpec.pre6 enc yc Tryz.f5 Rows.polygonWindowsRow.domain false) (Rows.polygonWindowsSpec.post enc yc Tryz.f5 false true false false):=by
  refine returnsInHanded_of_change (C:=Tryz.checked) (show ownKnob yc.godebug=none by kernel_rfl) started (by kernel_rfl) Tryz.func5
    (ChangeSpec.witness6 (enc:=enc) (C:=Tryz.checked) false ⟨#[],#[.slice none 0 0,.agg #[.int .i64 0,.int .i64 0],.agg #[.int .i64 0,.int .i64 0]],[]⟩ 8 (by kernel_rfl) (by kernel_rfl) (by kernel_rfl) (by kernel_rfl)) ?_
  intro W base args ds gs before hval0 hW hcnd _
  have hval:∀(j:Nat) t v,Tryz.f5.params[j]? =some t→args[j]? =some v→Value.okWide yc W .any base t v:=hval0
  have hW':=hW
  obtain ⟨p,q,hA0,hV,rfl,hfz,hnd⟩:=hW
  have hA:DataW.TrodAll enc yc W 0 (fun _=>true) true Tryz.f5.params.toList args.toList ds p:=hA0
  rw [Tryz.params5] at hA hval
  obtain ⟨v0,v1,v2,d0,d1,d2,p0,p1,p2,rfl,rfl,rfl,h0,h1,h2⟩:=trodAll_three hA
  obtain ⟨rfl,rfl⟩:=trodVars_none hV
  obtain ⟨La0,⟨pa0,ca0⟩,e0,o0⟩:=zRf op22 rfl Tryz.underlying22 (hval 0 22 v0 rfl rfl) h0
  obtain rfl:v0=_:=by simpa [rS,rI,rB] using e0
  obtain ⟨⟨a1a,a1b⟩,_,rfl,o1⟩:=zJd op30 ⟨_,ya⟩ (hval 1 30 v1 rfl rfl) h1
  obtain ⟨⟨a2a,a2b⟩,_,rfl,o2⟩:=zJd op30 ⟨_,ya⟩ (hval 2 30 v2 rfl rfl) h2
  clear hA0 hval0
  simp only [List.append_nil] at hW'
  refine zpf laid (by kernel_rfl) rfl (by kernel_rfl) Tryz.underlying4 hW' ⟨rfl,rfl,rfl⟩ ?_ (ztc (l:=La0) rfl (zM.1 o1.1) (zM.1 o1.2) (zM.1 o2.1) (zM.1 o2.2))
  exact ⟨o0,trivial⟩
end LawPolygonWindows
theorem provedPolygonWindows:Rows.PolygonWindowsSaid:=
  OpenClaim.holds_of_wide 5 Tryz.f5 rfl rfl rfl rfl rfl rfl rfl ⟨rfl,rfl,rfl,rfl,rfl⟩ rfl rfl rfl rfl rfl (by kernel_rfl) Tryz.func5 (by kernel_rfl)
    (of_decide_eq_true (by kernel_rfl)) (by unfold Func.isWrapper;first|(rw [if_pos (by decide +kernel)];kernel_rfl)|(rw [if_neg (by decide +kernel)];exact ⟨rfl,rfl⟩))
    (fun os started H enc _=>LawPolygonWindows.lifted os started H enc)
end Go.Proofs.YtjcpbhlijoigfaaGreat
