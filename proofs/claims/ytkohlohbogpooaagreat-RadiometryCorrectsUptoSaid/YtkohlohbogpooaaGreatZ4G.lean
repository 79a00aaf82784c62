/- The law RadiometryCorrects holds: for every input that reads as data of bulk at most 1048576 the program returns true, and the input reads behind the call as it did before. No condition beyond those of the given statement. -/
import Derived.Test.YtkohlohbogpooaaGreatZ4F
import Derived.Laws.Rows
import Derived.Test.YtkohlohbogpooaaGreatRows
set_option linter.unusedVariables false
set_option linter.unusedSimpArgs false
set_option linter.unusedSectionVars false
open Go.Proofs.Tryz renaming underlying3 → ya, underlying4 → yb, underlying115 → yc, underlying26 → yd, underlying24 → ye, prog → yf
namespace Go.Proofs.YtkohlohbogpooaaGreat
open Go Go.ChangeShapes Go.WideShapes Go.ChangeAt Go.RowKit Sp
set_option linter.unusedVariables false
namespace LawRadiometryCorrects
theorem bulks {H:Type} (l:List (DataW H)):Rows.uptoBulkAll l=(l.map Rows.uptoBulk).sum:=by
  induction l with
  |nil=>simp [Rows.uptoBulkAll]
  |cons x l ih=>simp [Rows.uptoBulkAll,ih]
theorem hB:Bk @Rows.uptoBulk:=by
  refine ⟨fun d=> ?_,fun es sp=> ?_,fun ps=> ?_⟩
  · cases d with
    |lit l=>cases l <;> simp [Rows.uptoBulk]
    |_=>simp [Rows.uptoBulk]
  · rw [Rows.uptoBulk,bulks es];omega
  · rw [Rows.uptoBulk,bulks ps];omega
theorem op30:OpensM @Rows.uptoBulk yf 30 (rP (rI2 .i64) (rP (rP (rP (rB) (rS (rI .u32))) (rP (rB) (rS (rI .u32)))) (rP (rP (rB) (rS (rI .u32))) (rP (rB) (rS (rI .u32)))))) (fun z=>(fun z:Int×Int=>(fun _=>1) z.1+(fun _=>1) z.2) z.1+(fun z=>(fun z=>(fun z=>(fun _=>1) z.1+(mzL (fun _=>1)) z.2) z.1+(fun z=>(fun _=>1) z.1+(mzL (fun _=>1)) z.2) z.2) z.1+(fun z=>(fun z=>(fun _=>1) z.1+(mzL (fun _=>1)) z.2) z.1+(fun z=>(fun _=>1) z.1+(mzL (fun _=>1)) z.2) z.2) z.2) z.2):=opensM_struct hB (ps:=[(23,0),(28,2),(28,6)]) Tryz.underlying30 (by kernel_rfl) rfl (opensLM_cons (by kernel_rfl) (opensM_conv (f:=fun z=>z) (opensM_struct hB (ps:=[(3,0),(3,1)]) Tryz.underlying23 (by kernel_rfl) rfl (opensLM_cons (by kernel_rfl) (opensM_int hB ya) (opensLM_one (by kernel_rfl) (opensM_int hB ya)))) (convM2 (m1:=fun _=>1) (m2:=fun _=>1))) (opensLM_cons (by kernel_rfl) (opensM_struct hB (ps:=[(26,0),(26,2)]) Tryz.underlying28 (by kernel_rfl) rfl (opensLM_cons (by kernel_rfl) (opensM_struct hB (ps:=[(4,0),(24,1)]) yd (by kernel_rfl) rfl (opensLM_cons (by kernel_rfl) (opensM_bool hB yb) (opensLM_one (by kernel_rfl) (opensM_slice hB ye (by kernel_rfl) (by decide) (opensM_int hB yc))))) (opensLM_one (by kernel_rfl) (opensM_struct hB (ps:=[(4,0),(24,1)]) yd (by kernel_rfl) rfl (opensLM_cons (by kernel_rfl) (opensM_bool hB yb) (opensLM_one (by kernel_rfl) (opensM_slice hB ye (by kernel_rfl) (by decide) (opensM_int hB yc)))))))) (opensLM_one (by kernel_rfl) (opensM_struct hB (ps:=[(26,0),(26,2)]) Tryz.underlying28 (by kernel_rfl) rfl (opensLM_cons (by kernel_rfl) (opensM_struct hB (ps:=[(4,0),(24,1)]) yd (by kernel_rfl) rfl (opensLM_cons (by kernel_rfl) (opensM_bool hB yb) (opensLM_one (by kernel_rfl) (opensM_slice hB ye (by kernel_rfl) (by decide) (opensM_int hB yc))))) (opensLM_one (by kernel_rfl) (opensM_struct hB (ps:=[(4,0),(24,1)]) yd (by kernel_rfl) rfl (opensLM_cons (by kernel_rfl) (opensM_bool hB yb) (opensLM_one (by kernel_rfl) (opensM_slice hB ye (by kernel_rfl) (by decide) (opensM_int hB yc)))))))))))
theorem op44:OpensM @Rows.uptoBulk yf 44 (rP (rI .i64) (rP (rI .i64) (rP (rI .i64) (rS (rI .i64))))) (fun z=>(fun _=>1) z.1+(fun z=>(fun _=>1) z.1+(fun z=>(fun _=>1) z.1+(mzL (fun _=>1)) z.2) z.2) z.2):=opensM_struct hB (ps:=[(3,0),(3,1),(3,2),(42,3)]) Tryz.underlying44 (by kernel_rfl) rfl (opensLM_cons (by kernel_rfl) (opensM_int hB ya) (opensLM_cons (by kernel_rfl) (opensM_int hB ya) (opensLM_cons (by kernel_rfl) (opensM_int hB ya) (opensLM_one (by kernel_rfl) (opensM_slice hB Tryz.underlying42 (by kernel_rfl) (by decide) (opensM_int hB ya))))))
theorem laid:laidOutB yf=true:=by kernel_rfl
set_option maxHeartbeats 2000000 in
set_option maxRecDepth 100000 in
theorem lifted (os:Os) (started:os.Started) (H:Type) (enc:TypeId×Value→H) (F:Stop.Interp):
    ReturnsInHanded {} Tryz.checked os 4 .any ((Rows.OpenSpec.upto Rows.radiometryCorrectsSpec).pre6 enc yf Tryz.f4 Rows.radiometryCorrectsUptoRow.domain false) (((Rows.OpenSpec.upto Rows.radiometryCorrectsSpec).at F).post enc yf Tryz.f4 false true false false):=by
  refine returnsInHanded_of_cond (C:=Tryz.checked) (s:=Rows.OpenSpec.upto Rows.radiometryCorrectsSpec) (k:=Rows.uptoSmall) rfl (show ownKnob yf.godebug=none by kernel_rfl) started (by kernel_rfl) Tryz.func4
    (OpenSpec.witness (enc:=enc) (C:=Tryz.checked) (s:=Rows.OpenSpec.upto Rows.radiometryCorrectsSpec) (k:=Rows.uptoSmall) rfl false ⟨#[],#[.agg #[.int .i64 0,.int .i64 0,.bool false,.slice none 0 0,.bool false,.slice none 0 0,.bool false,.slice none 0 0,.bool false,.slice none 0 0],.agg #[.int .i64 0,.int .i64 0,.int .i64 0,.slice none 0 0]],[]⟩ 8 (by kernel_rfl) (by kernel_rfl) (by kernel_rfl) (x:=([.agg [.agg [.lit (.int .i64 0),.lit (.int .i64 0)],.agg [.agg [.lit (.bool false),.nil],.agg [.lit (.bool false),.nil]],.agg [.agg [.lit (.bool false),.nil],.agg [.lit (.bool false),.nil]]],.agg [.lit (.int .i64 0),.lit (.int .i64 0),.lit (.int .i64 0),.nil]],[],[])) (by kernel_rfl) rfl (by kernel_rfl)) ?_
  intro W base args ds gs before hval0 hW hcnd hk _
  have hval:∀(j:Nat) t v,Tryz.f4.params[j]? =some t→args[j]? =some v→Value.okWide yf W .any base t v:=hval0
  have hW':=hW
  obtain ⟨p,q,hA0,hV,rfl,hfz,hnd⟩:=hW
  have hA:DataW.TrodAll enc yf W 0 (fun _=>true) true Tryz.f4.params.toList args.toList ds p:=hA0
  rw [Tryz.params4] at hA hval
  obtain ⟨v0,v1,d0,d1,p0,p1,rfl,rfl,rfl,h0,h1⟩:=trodAll_two hA
  obtain ⟨rfl,rfl⟩:=trodVars_none hV
  obtain ⟨⟨⟨a00a,a00b⟩,⟨⟨a0100,La0101⟩,⟨a0110,La0111⟩⟩,⟨⟨a0200,La0201⟩,⟨a0210,La0211⟩⟩⟩,⟨_,⟨⟨_,⟨pa0101,ca0101⟩⟩,⟨_,⟨pa0111,ca0111⟩⟩⟩,⟨⟨_,⟨pa0201,ca0201⟩⟩,⟨_,⟨pa0211,ca0211⟩⟩⟩⟩,rfl,o0,m0⟩:=opensM_agg op30 ⟨_,Tryz.underlying30⟩ (hval 0 30 v0 rfl rfl) h0
  obtain ⟨⟨a10,a11,a12,La13⟩,⟨_,_,_,⟨pa13,ca13⟩⟩,rfl,o1,m1⟩:=opensM_agg op44 ⟨_,Tryz.underlying44⟩ (hval 1 44 v1 rfl rfl) h1
  have hk2:=of_decide_eq_true hk
  simp only [Rows.uptoBulkAll,List.append_nil] at hk2
  clear hA0 hval0
  simp only [List.append_nil] at hW'
  have k1:=mz_raw1 (x:=((a0100,La0101),(a0110,La0111))) (Nat.le_trans (Nat.le_add_right _ _) (Nat.le_trans (Nat.le_add_left _ _) (Nat.le_trans m0 (show _≤1048576 by omega))))
  have k2:=mz_raw1 (x:=((a0200,La0201),(a0210,La0211))) (Nat.le_trans (Nat.le_add_left _ _) (Nat.le_trans (Nat.le_add_left _ _) (Nat.le_trans m0 (show _≤1048576 by omega))))
  refine ztf (s:=Rows.radiometryCorrectsSpec) laid (by kernel_rfl) rfl (by kernel_rfl) yb hW' ⟨rfl,rfl,rfl⟩ ?_ (zFb (cx:=a00a) (cy:=a00b) (u1:=⟨a0100,pa0101,La0101.length,ca0101⟩) (v1:=⟨a0110,pa0111,La0111.length,ca0111⟩) (x1:=qo ((a0100,La0101),(a0110,La0111))) (u2:=⟨a0200,pa0201,La0201.length,ca0201⟩) (v2:=⟨a0210,pa0211,La0211.length,ca0211⟩) (x2:=qo ((a0200,La0201),(a0210,La0211))) (l:=La13) rfl)
  exact ⟨eF_of o0.2.1.1.2 o0.2.1.2.2 (Nat.le_trans k1.1 (by decide)) (Nat.le_trans k1.2 (by decide)),eF_of o0.2.2.1.2 o0.2.2.2.2 (Nat.le_trans k2.1 (by decide)) (Nat.le_trans k2.2 (by decide)),o1.2.2.2,trivial⟩
end LawRadiometryCorrects
theorem provedRadiometryCorrects:Rows.RadiometryCorrectsUptoSaid:=
  OpenClaim.holds_of_cond 4 Tryz.f4 rfl rfl rfl rfl rfl rfl rfl ⟨rfl,rfl,rfl,rfl,rfl⟩ rfl rfl rfl rfl rfl (by kernel_rfl) Tryz.func4 (by kernel_rfl)
    (of_decide_eq_true (by kernel_rfl)) (by unfold Func.isWrapper;first|(rw [if_pos (by decide +kernel)];kernel_rfl)|(rw [if_neg (by decide +kernel)];exact ⟨rfl,rfl⟩))
    (fun os started H enc _ F=>LawRadiometryCorrects.lifted os started H enc F)
end Go.Proofs.YtkohlohbogpooaaGreat
