/- The law PolygonCovers holds: for every input that reads as data the program returns true, and the input reads behind the call as it did before. No condition beyond those of the given statement. -/
import Derived.Test.YtjcpbhlijoigfaaGreatZ9E
import Derived.Laws.Rows
import Derived.Test.YtjcpbhlijoigfaaGreatRows
set_option linter.unusedVariables false
set_option linter.unusedSimpArgs false
set_option linter.unusedSectionVars false
open Go.Proofs.Tryz renaming underlying3 → ya, prog → yb, underlying30 → yc
namespace Go.Proofs.YtjcpbhlijoigfaaGreat
open Go Go.ChangeShapes Go.WideShapes Go.ChangeAt Go.RowKit Sp
set_option linter.unusedVariables false
namespace LawPolygonCovers
theorem op22:Opens yb 22 (rS (rI2 .i64)):=zOc Tryz.underlying22 (by kernel_rfl) (by decide) (zrc (zBc (ps:=[(3,0),(3,1)]) yc (by kernel_rfl) rfl (opensL_cons (by kernel_rfl) (zqb ya) (opensL_one (by kernel_rfl) (zqb ya)))) conv2)
theorem op30:Opens yb 30 (rI2 .i64):=zrc (zBc (ps:=[(3,0),(3,1)]) yc (by kernel_rfl) rfl (opensL_cons (by kernel_rfl) (zqb ya) (opensL_one (by kernel_rfl) (zqb ya)))) conv2
theorem op54:Opens yb 54 (rS (rI3 .i64)):=zOc Tryz.underlying54 (by kernel_rfl) (by decide) (zrc (zYd (k:=1) (ps:=[(3,0),(3,1),(3,2)]) Tryz.underlying50 (by kernel_rfl) (by kernel_rfl) rfl (opensL_cons (by kernel_rfl) (zqb ya) (opensL_cons (by kernel_rfl) (zqb ya) (opensL_one (by kernel_rfl) (zqb ya))))) conv3)
theorem laid:laidOutB yb=true:=by kernel_rfl
set_option maxHeartbeats 2000000 in
set_option maxRecDepth 100000 in
theorem lifted (os:Os) (started:os.Started) (H:Type) (enc:TypeId×Value→H):
    ReturnsInHanded {} Tryz.checked os 9 .any (Rows.polygonCoversSpec.pre6 enc yb Tryz.f9 Rows.polygonCoversRow.domain false) (Rows.polygonCoversSpec.post enc yb Tryz.f9 false true false false):=by
  refine returnsInHanded_of_change (C:=Tryz.checked) (show ownKnob yb.godebug=none by kernel_rfl) started (by kernel_rfl) Tryz.func9
    (ChangeSpec.witness6 (enc:=enc) (C:=Tryz.checked) false ⟨#[],#[.slice none 0 0,.slice none 0 0,.agg #[.int .i64 0,.int .i64 0]],[]⟩ 8 (by kernel_rfl) (by kernel_rfl) (by kernel_rfl) (by kernel_rfl)) ?_
  intro W base args ds gs before hval0 hW hcnd _
  have hval:∀(j:Nat) t v,Tryz.f9.params[j]? =some t→args[j]? =some v→Value.okWide yb W .any base t v:=hval0
  have hW':=hW
  obtain ⟨p,q,hA0,hV,rfl,hfz,hnd⟩:=hW
  have hA:DataW.TrodAll enc yb W 0 (fun _=>true) true Tryz.f9.params.toList args.toList ds p:=hA0
  rw [Tryz.params9] at hA hval
  obtain ⟨v0,v1,v2,d0,d1,d2,p0,p1,p2,rfl,rfl,rfl,h0,h1,h2⟩:=trodAll_three hA
  obtain ⟨rfl,rfl⟩:=trodVars_none hV
  obtain ⟨La0,⟨pa0,ca0⟩,e0,o0⟩:=zpe op22 rfl Tryz.underlying22 (hval 0 22 v0 rfl rfl) h0
  obtain rfl:v0=_:=by simpa [rS,rI,rB] using e0
  obtain ⟨La1,⟨pa1,ca1⟩,e1,o1⟩:=zpe op54 rfl Tryz.underlying54 (hval 1 54 v1 rfl rfl) h1
  obtain rfl:v1=_:=by simpa [rS,rI,rB] using e1
  obtain ⟨⟨a2a,a2b⟩,_,rfl,o2⟩:=zbf op30 ⟨_,yc⟩ (hval 2 30 v2 rfl rfl) h2
  clear hA0 hval0
  simp only [List.append_nil] at hW'
  refine zdf laid (by kernel_rfl) rfl (by kernel_rfl) Tryz.underlying4 hW' ⟨rfl,rfl,rfl⟩ ?_ (zwc (l:=La0) (T:=La1) rfl rfl (zD.1 o2.1) (zD.1 o2.2))
  exact ⟨o0,o1,trivial⟩
end LawPolygonCovers
theorem provedPolygonCovers:Rows.PolygonCoversSaid:=
  OpenClaim.holds_of_wide 9 Tryz.f9 rfl rfl rfl rfl rfl rfl rfl ⟨rfl,rfl,rfl,rfl,rfl⟩ rfl rfl rfl rfl rfl (by kernel_rfl) Tryz.func9 (by kernel_rfl)
    (of_decide_eq_true (by kernel_rfl)) (by unfold Func.isWrapper;first|(rw [if_pos (by decide +kernel)];kernel_rfl)|(rw [if_neg (by decide +kernel)];exact ⟨rfl,rfl⟩))
    (fun os started H enc _=>LawPolygonCovers.lifted os started H enc)
end Go.Proofs.YtjcpbhlijoigfaaGreat
