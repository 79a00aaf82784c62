/- The law CameraRadial holds: for every input that reads as data of bulk at most 1048576 the program returns true, and the input reads behind the call as it did before. No condition beyond those of the given statement. -/
import Derived.Test.YtahiajepeodhoaaGreatZ5F
import Derived.Laws.Rows
import Derived.Test.YtahiajepeodhoaaGreatRows
set_option linter.unusedVariables false
set_option linter.unusedSimpArgs false
set_option linter.unusedSectionVars false
open Go.Proofs.Tryz renaming underlying3 → ya, underlying4 → yb, underlying30 → yc, underlying28 → yd, underlying84 → ye, prog → yf
namespace Go.Proofs.YtahiajepeodhoaaGreat
open Go Go.ChangeShapes Go.WideShapes Go.ChangeAt Go.RowKit Sp
set_option linter.unusedVariables false
namespace LawCameraRadial
theorem bulks {H:Type} (l:List (DataW H)):Rows.uptoBulkAll l=(l.map Rows.uptoBulk).sum:=by
  induction l with
  |nil=>simp [Rows.uptoBulkAll]
  |cons x l ih=>simp [Rows.uptoBulkAll,ih]
theorem hB:Bk @Rows.uptoBulk:=by
  refine ⟨fun d=> ?_,fun es sp=> ?_,fun ps=> ?_⟩
  · cases d with
    |lit l=>cases l <;> simp [Rows.uptoBulk]
    |_=>simp [Rows.uptoBulk]
  · rw [Rows.uptoBulk,bulks es];omega
  · rw [Rows.uptoBulk,bulks ps];omega
theorem op5:OpensM @Rows.uptoBulk yf 5 (rI .u8) (fun _=>1):=opensM_int hB Tryz.underlying5
theorem op27:OpensM @Rows.uptoBulk yf 27 (rP (rI .i64) (rP (rI2 .i64) (rP (rI3 .i64) (rP (rI2 .i64) (rI .i64))))) (fun z=>(fun _=>1) z.1+(fun z=>(fun z:Int×Int=>(fun _=>1) z.1+(fun _=>1) z.2) z.1+(fun z=>(fun z:Int×Int×Int=>(fun _=>1) z.1+((fun _=>1) z.2.1+(fun _=>1) z.2.2)) z.1+(fun z=>(fun z:Int×Int=>(fun _=>1) z.1+(fun _=>1) z.2) z.1+(fun _=>1) z.2) z.2) z.2) z.2):=opensM_struct hB (ps:=[(3,0),(23,1),(24,3),(25,6),(3,8)]) Tryz.underlying27 (by kernel_rfl) rfl (opensLM_cons (by kernel_rfl) (opensM_int hB ya) (opensLM_cons (by kernel_rfl) (opensM_conv (f:=fun z=>z) (opensM_struct hB (ps:=[(3,0),(3,1)]) Tryz.underlying23 (by kernel_rfl) rfl (opensLM_cons (by kernel_rfl) (opensM_int hB ya) (opensLM_one (by kernel_rfl) (opensM_int hB ya)))) (convM2 (m1:=fun _=>1) (m2:=fun _=>1))) (opensLM_cons (by kernel_rfl) (opensM_conv (f:=fun z=>z) (opensM_array (k:=1) hB (ps:=[(3,0),(3,1),(3,2)]) Tryz.underlying24 (by kernel_rfl) (by kernel_rfl) rfl (opensLM_cons (by kernel_rfl) (opensM_int hB ya) (opensLM_cons (by kernel_rfl) (opensM_int hB ya) (opensLM_one (by kernel_rfl) (opensM_int hB ya))))) (convM3 (m1:=fun _=>1) (m2:=fun _=>1) (m3:=fun _=>1))) (opensLM_cons (by kernel_rfl) (opensM_conv (f:=fun z=>z) (opensM_array (k:=1) hB (ps:=[(3,0),(3,1)]) Tryz.underlying25 (by kernel_rfl) (by kernel_rfl) rfl (opensLM_cons (by kernel_rfl) (opensM_int hB ya) (opensLM_one (by kernel_rfl) (opensM_int hB ya)))) (convM2 (m1:=fun _=>1) (m2:=fun _=>1))) (opensLM_one (by kernel_rfl) (opensM_int hB ya))))))
theorem op34:OpensM @Rows.uptoBulk yf 34 (rP (rP (rP (rB) (rS (rI .u32))) (rP (rB) (rS (rI .u32)))) (rP (rP (rB) (rS (rI .u32))) (rP (rB) (rS (rI .u32))))) (fun z=>(fun z=>(fun z=>(fun _=>1) z.1+(mzL (fun _=>1)) z.2) z.1+(fun z=>(fun _=>1) z.1+(mzL (fun _=>1)) z.2) z.2) z.1+(fun z=>(fun z=>(fun _=>1) z.1+(mzL (fun _=>1)) z.2) z.1+(fun z=>(fun _=>1) z.1+(mzL (fun _=>1)) z.2) z.2) z.2):=opensM_struct hB (ps:=[(32,0),(32,4)]) Tryz.underlying34 (by kernel_rfl) rfl (opensLM_cons (by kernel_rfl) (opensM_struct hB (ps:=[(30,0),(30,2)]) Tryz.underlying32 (by kernel_rfl) rfl (opensLM_cons (by kernel_rfl) (opensM_struct hB (ps:=[(4,0),(28,1)]) yc (by kernel_rfl) rfl (opensLM_cons (by kernel_rfl) (opensM_bool hB yb) (opensLM_one (by kernel_rfl) (opensM_slice hB yd (by kernel_rfl) (by decide) (opensM_int hB ye))))) (opensLM_one (by kernel_rfl) (opensM_struct hB (ps:=[(4,0),(28,1)]) yc (by kernel_rfl) rfl (opensLM_cons (by kernel_rfl) (opensM_bool hB yb) (opensLM_one (by kernel_rfl) (opensM_slice hB yd (by kernel_rfl) (by decide) (opensM_int hB ye)))))))) (opensLM_one (by kernel_rfl) (opensM_struct hB (ps:=[(30,0),(30,2)]) Tryz.underlying32 (by kernel_rfl) rfl (opensLM_cons (by kernel_rfl) (opensM_struct hB (ps:=[(4,0),(28,1)]) yc (by kernel_rfl) rfl (opensLM_cons (by kernel_rfl) (opensM_bool hB yb) (opensLM_one (by kernel_rfl) (opensM_slice hB yd (by kernel_rfl) (by decide) (opensM_int hB ye))))) (opensLM_one (by kernel_rfl) (opensM_struct hB (ps:=[(4,0),(28,1)]) yc (by kernel_rfl) rfl (opensLM_cons (by kernel_rfl) (opensM_bool hB yb) (opensLM_one (by kernel_rfl) (opensM_slice hB yd (by kernel_rfl) (by decide) (opensM_int hB ye))))))))))
theorem laid:laidOutB yf=true:=by kernel_rfl
set_option maxHeartbeats 2000000 in
set_option maxRecDepth 100000 in
theorem lifted (os:Os) (started:os.Started) (H:Type) (enc:TypeId×Value→H) (F:Stop.Interp):
    ReturnsInHanded {} Tryz.checked os 4 .any ((Rows.OpenSpec.upto Rows.cameraRadialSpec).pre6 enc yf Tryz.f4 Rows.cameraRadialUptoRow.domain false) (((Rows.OpenSpec.upto Rows.cameraRadialSpec).at F).post enc yf Tryz.f4 false true false false):=by
  refine returnsInHanded_of_cond (C:=Tryz.checked) (s:=Rows.OpenSpec.upto Rows.cameraRadialSpec) (k:=Rows.uptoSmall) rfl (show ownKnob yf.godebug=none by kernel_rfl) started (by kernel_rfl) Tryz.func4
    (OpenSpec.witness (enc:=enc) (C:=Tryz.checked) (s:=Rows.OpenSpec.upto Rows.cameraRadialSpec) (k:=Rows.uptoSmall) rfl false ⟨#[],#[.agg #[.int .i64 0,.int .i64 0,.int .i64 0,.int .i64 0,.int .i64 0,.int .i64 0,.int .i64 0,.int .i64 0,.int .i64 0],.agg #[.bool false,.slice none 0 0,.bool false,.slice none 0 0,.bool false,.slice none 0 0,.bool false,.slice none 0 0],.int .u8 0],[]⟩ 8 (by kernel_rfl) (by kernel_rfl) (by kernel_rfl) (x:=([.agg [.lit (.int .i64 0),.agg [.lit (.int .i64 0),.lit (.int .i64 0)],.agg [.lit (.int .i64 0),.lit (.int .i64 0),.lit (.int .i64 0)],.agg [.lit (.int .i64 0),.lit (.int .i64 0)],.lit (.int .i64 0)],.agg [.agg [.agg [.lit (.bool false),.nil],.agg [.lit (.bool false),.nil]],.agg [.agg [.lit (.bool false),.nil],.agg [.lit (.bool false),.nil]]],.lit (.int .u8 0)],[],[])) (by kernel_rfl) rfl (by kernel_rfl)) ?_
  intro W base args ds gs before hval0 hW hcnd hk _
  have hval:∀(j:Nat) t v,Tryz.f4.params[j]? =some t→args[j]? =some v→Value.okWide yf W .any base t v:=hval0
  have hW':=hW
  obtain ⟨p,q,hA0,hV,rfl,hfz,hnd⟩:=hW
  have hA:DataW.TrodAll enc yf W 0 (fun _=>true) true Tryz.f4.params.toList args.toList ds p:=hA0
  rw [Tryz.params4] at hA hval
  obtain ⟨v0,v1,v2,d0,d1,d2,p0,p1,p2,rfl,rfl,rfl,h0,h1,h2⟩:=trodAll_three hA
  obtain ⟨rfl,rfl⟩:=trodVars_none hV
  obtain ⟨⟨a00,⟨a01a,a01b⟩,⟨a02a,a02b,a02c⟩,⟨a03a,a03b⟩,a04⟩,⟨_,_,_,_,_⟩,rfl,o0,m0⟩:=opensM_agg op27 ⟨_,Tryz.underlying27⟩ (hval 0 27 v0 rfl rfl) h0
  obtain ⟨⟨⟨⟨a1000,La1001⟩,⟨a1010,La1011⟩⟩,⟨⟨a1100,La1101⟩,⟨a1110,La1111⟩⟩⟩,⟨⟨⟨_,⟨pa1001,ca1001⟩⟩,⟨_,⟨pa1011,ca1011⟩⟩⟩,⟨⟨_,⟨pa1101,ca1101⟩⟩,⟨_,⟨pa1111,ca1111⟩⟩⟩⟩,rfl,o1,m1⟩:=opensM_agg op34 ⟨_,Tryz.underlying34⟩ (hval 1 34 v1 rfl rfl) h1
  obtain ⟨a2,rfl,rfl,rfl,o2⟩:=open_int Tryz.underlying5 (hval 2 5 v2 rfl rfl) h2
  have hk2:=of_decide_eq_true hk
  simp only [Rows.uptoBulkAll,List.append_nil] at hk2
  clear hA0 hval0
  simp only [List.append_nil] at hW'
  have k1:=mz_raw1 (x:=((a1000,La1001),(a1010,La1011))) (Nat.le_trans (Nat.le_add_right _ _) (Nat.le_trans m1 (show _≤1048576 by omega)))
  have k2:=mz_raw1 (x:=((a1100,La1101),(a1110,La1111))) (Nat.le_trans (Nat.le_add_left _ _) (Nat.le_trans m1 (show _≤1048576 by omega)))
  refine zqf (s:=Rows.cameraRadialSpec) laid (by kernel_rfl) rfl (by kernel_rfl) yb hW' ⟨rfl,rfl,rfl⟩ ?_ (zTc (e:=⟨a00,a01a,a01b,a02a,a02b,a02c,a03a,a03b,a04⟩) (u1:=⟨a1000,pa1001,La1001.length,ca1001⟩) (u2:=⟨a1010,pa1011,La1011.length,ca1011⟩) (v1:=⟨a1100,pa1101,La1101.length,ca1101⟩) (v2:=⟨a1110,pa1111,La1111.length,ca1111⟩) (xo:=qo ((a1000,La1001),(a1010,La1011))) (yo:=qo ((a1100,La1101),(a1110,La1111))) ⟨zMa.1 o0.1,zMa.1 o0.2.1.1,zMa.1 o0.2.1.2,zMa.1 o0.2.2.1.1,zMa.1 o0.2.2.1.2.1,zMa.1 o0.2.2.1.2.2,zMa.1 o0.2.2.2.1.1,zMa.1 o0.2.2.2.1.2,zMa.1 o0.2.2.2.2⟩ (inK_u8.1 (zQd o2)))
  exact ⟨eF_of o1.1.1.2 o1.1.2.2 (Nat.le_trans k1.1 (by decide)) (Nat.le_trans k1.2 (by decide)),eF_of o1.2.1.2 o1.2.2.2 (Nat.le_trans k2.1 (by decide)) (Nat.le_trans k2.2 (by decide)),trivial⟩
end LawCameraRadial
theorem provedCameraRadial:Rows.CameraRadialUptoSaid:=
  OpenClaim.holds_of_cond 4 Tryz.f4 rfl rfl rfl rfl rfl rfl rfl ⟨rfl,rfl,rfl,rfl,rfl⟩ rfl rfl rfl rfl rfl (by kernel_rfl) Tryz.func4 (by kernel_rfl)
    (of_decide_eq_true (by kernel_rfl)) (by unfold Func.isWrapper;first|(rw [if_pos (by decide +kernel)];kernel_rfl)|(rw [if_neg (by decide +kernel)];exact ⟨rfl,rfl⟩))
    (fun os started H enc _ F=>LawCameraRadial.lifted os started H enc F)
end Go.Proofs.YtahiajepeodhoaaGreat
