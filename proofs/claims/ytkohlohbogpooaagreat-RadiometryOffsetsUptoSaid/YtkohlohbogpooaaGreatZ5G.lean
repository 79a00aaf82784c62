/- The law RadiometryOffsets holds: for every input that reads as data of bulk at most 1048576 the program returns true, and the input reads behind the call as it did before. No condition beyond those of the given statement. -/
import Derived.Test.YtkohlohbogpooaaGreatZ5F
import Derived.Laws.Rows
import Derived.Test.YtkohlohbogpooaaGreatRows
set_option linter.unusedVariables false
set_option linter.unusedSimpArgs false
set_option linter.unusedSectionVars false
open Go.Proofs.Tryz renaming underlying3 → ya, prog → yb, underlying4 → yc
namespace Go.Proofs.YtkohlohbogpooaaGreat
open Go Go.ChangeShapes Go.WideShapes Go.ChangeAt Go.RowKit Sp
set_option linter.unusedVariables false
namespace LawRadiometryOffsets
theorem bulks {H:Type} (l:List (DataW H)):Rows.uptoBulkAll l=(l.map Rows.uptoBulk).sum:=by
  induction l with
  |nil=>simp [Rows.uptoBulkAll]
  |cons x l ih=>simp [Rows.uptoBulkAll,ih]
theorem hB:Bk @Rows.uptoBulk:=by
  refine ⟨fun d=> ?_,fun es sp=> ?_,fun ps=> ?_⟩
  · cases d with
    |lit l=>cases l <;> simp [Rows.uptoBulk]
    |_=>simp [Rows.uptoBulk]
  · rw [Rows.uptoBulk,bulks es];omega
  · rw [Rows.uptoBulk,bulks ps];omega
theorem op3:OpensM @Rows.uptoBulk yb 3 (rI .i64) (fun _=>1):=opensM_int hB ya
theorem op55:OpensM @Rows.uptoBulk yb 55 (rS (rI4 .i64)) (mzL (fun z:Cm=>(fun _=>1) z.a+((fun _=>1) z.b+((fun _=>1) z.d+(fun _=>1) z.w)))):=opensM_slice hB Tryz.underlying55 (by kernel_rfl) (by decide) (opensM_conv (f:=fun z=>⟨z.1,z.2.1,z.2.2.1,z.2.2.2⟩) (opensM_struct hB (ps:=[(3,0),(3,1),(3,2),(3,3)]) Tryz.underlying68 (by kernel_rfl) rfl (opensLM_cons (by kernel_rfl) (opensM_int hB ya) (opensLM_cons (by kernel_rfl) (opensM_int hB ya) (opensLM_cons (by kernel_rfl) (opensM_int hB ya) (opensLM_one (by kernel_rfl) (opensM_int hB ya)))))) (convM4C (m1:=fun _=>1) (m2:=fun _=>1) (m3:=fun _=>1) (m4:=fun _=>1)))
theorem op56:OpensM @Rows.uptoBulk yb 56 (rS (rP (rP (rB) (rS (rI .u32))) (rP (rB) (rS (rI .u32))))) (mzL (fun z=>(fun z=>(fun _=>1) z.1+(mzL (fun _=>1)) z.2) z.1+(fun z=>(fun _=>1) z.1+(mzL (fun _=>1)) z.2) z.2)):=opensM_slice hB Tryz.underlying56 (by kernel_rfl) (by decide) (opensM_struct hB (ps:=[(26,0),(26,2)]) Tryz.underlying28 (by kernel_rfl) rfl (opensLM_cons (by kernel_rfl) (opensM_struct hB (ps:=[(4,0),(24,1)]) Tryz.underlying26 (by kernel_rfl) rfl (opensLM_cons (by kernel_rfl) (opensM_bool hB yc) (opensLM_one (by kernel_rfl) (opensM_slice hB Tryz.underlying24 (by kernel_rfl) (by decide) (opensM_int hB Tryz.underlying115))))) (opensLM_one (by kernel_rfl) (opensM_struct hB (ps:=[(4,0),(24,1)]) Tryz.underlying26 (by kernel_rfl) rfl (opensLM_cons (by kernel_rfl) (opensM_bool hB yc) (opensLM_one (by kernel_rfl) (opensM_slice hB Tryz.underlying24 (by kernel_rfl) (by decide) (opensM_int hB Tryz.underlying115))))))))
theorem laid:laidOutB yb=true:=by kernel_rfl
set_option maxHeartbeats 2000000 in
set_option maxRecDepth 100000 in
theorem lifted (os:Os) (started:os.Started) (H:Type) (enc:TypeId×Value→H) (F:Stop.Interp):
    ReturnsInHanded {} Tryz.checked os 5 .any ((Rows.OpenSpec.upto Rows.radiometryOffsetsSpec).pre6 enc yb Tryz.f5 Rows.radiometryOffsetsUptoRow.domain false) (((Rows.OpenSpec.upto Rows.radiometryOffsetsSpec).at F).post enc yb Tryz.f5 false true false false):=by
  refine returnsInHanded_of_cond (C:=Tryz.checked) (s:=Rows.OpenSpec.upto Rows.radiometryOffsetsSpec) (k:=Rows.uptoSmall) rfl (show ownKnob yb.godebug=none by kernel_rfl) started (by kernel_rfl) Tryz.func5
    (OpenSpec.witness (enc:=enc) (C:=Tryz.checked) (s:=Rows.OpenSpec.upto Rows.radiometryOffsetsSpec) (k:=Rows.uptoSmall) rfl false ⟨#[],#[.int .i64 0,.slice none 0 0,.slice none 0 0],[]⟩ 8 (by kernel_rfl) (by kernel_rfl) (by kernel_rfl) (x:=([.lit (.int .i64 0),.nil,.nil],[],[])) (by kernel_rfl) rfl (by kernel_rfl)) ?_
  intro W base args ds gs before hval0 hW hcnd hk _
  have hval:∀(j:Nat) t v,Tryz.f5.params[j]? =some t→args[j]? =some v→Value.okWide yb W .any base t v:=hval0
  have hW':=hW
  obtain ⟨p,q,hA0,hV,rfl,hfz,hnd⟩:=hW
  have hA:DataW.TrodAll enc yb W 0 (fun _=>true) true Tryz.f5.params.toList args.toList ds p:=hA0
  rw [Tryz.params5] at hA hval
  obtain ⟨v0,v1,v2,d0,d1,d2,p0,p1,p2,rfl,rfl,rfl,h0,h1,h2⟩:=trodAll_three hA
  obtain ⟨rfl,rfl⟩:=trodVars_none hV
  obtain ⟨a0,rfl,rfl,rfl,o0⟩:=open_int ya (hval 0 3 v0 rfl rfl) h0
  obtain ⟨La1,⟨pa1,ca1⟩,e1,o1,m1⟩:=opensM_sl op55 rfl Tryz.underlying55 (hval 1 55 v1 rfl rfl) h1
  obtain rfl:v1=_:=by simpa [rS,rI,rB] using e1
  obtain ⟨La2,⟨pa2,ca2⟩,e2,o2,m2⟩:=opensM_sl op56 rfl Tryz.underlying56 (hval 2 56 v2 rfl rfl) h2
  obtain rfl:v2=_:=by simpa [rS,rI,rB] using e2
  have hk2:=of_decide_eq_true hk
  simp only [Rows.uptoBulkAll,List.append_nil] at hk2
  clear hA0 hval0
  simp only [List.append_nil] at hW'
  have k2:=mz_raw (Nat.le_trans m2 (by omega)) (show 1048576≤1099511627776 by decide)
  refine zkf (s:=Rows.radiometryOffsetsSpec) laid (by kernel_rfl) rfl (by kernel_rfl) yc hW' ⟨rfl,rfl,rfl⟩ ?_ (zOb (L:=La1) (lr:=La2.map qo) rfl (List.length_map _))
  exact ⟨o1,(sl_raw o2 k2),trivial⟩
end LawRadiometryOffsets
theorem provedRadiometryOffsets:Rows.RadiometryOffsetsUptoSaid:=
  OpenClaim.holds_of_cond 5 Tryz.f5 rfl rfl rfl rfl rfl rfl rfl ⟨rfl,rfl,rfl,rfl,rfl⟩ rfl rfl rfl rfl rfl (by kernel_rfl) Tryz.func5 (by kernel_rfl)
    (of_decide_eq_true (by kernel_rfl)) (by unfold Func.isWrapper;first|(rw [if_pos (by decide +kernel)];kernel_rfl)|(rw [if_neg (by decide +kernel)];exact ⟨rfl,rfl⟩))
    (fun os started H enc _ F=>LawRadiometryOffsets.lifted os started H enc F)
end Go.Proofs.YtkohlohbogpooaaGreat
