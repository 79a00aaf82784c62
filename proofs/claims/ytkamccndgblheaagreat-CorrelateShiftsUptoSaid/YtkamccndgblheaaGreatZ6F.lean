/- The law CorrelateShifts holds: for every input that reads as data of bulk at most 1048576 the program returns true, and the input reads behind the call as it did before. No condition beyond those of the given statement. -/
import Derived.Test.YtkamccndgblheaaGreatZ6E
import Derived.Laws.Rows
import Derived.Test.YtkamccndgblheaaGreatRows
set_option linter.unusedVariables false
set_option linter.unusedSimpArgs false
set_option linter.unusedSectionVars false
namespace Go.Proofs.YtkamccndgblheaaGreat
open Go Go.ChangeShapes Go.WideShapes Go.ChangeAt Go.RowKit Sp
set_option linter.unusedVariables false
namespace LawCorrelateShifts
theorem bulks {H:Type} (l:List (DataW H)):Rows.uptoBulkAll l=(l.map Rows.uptoBulk).sum:=by
  induction l with
  |nil=>simp [Rows.uptoBulkAll]
  |cons x l ih=>simp [Rows.uptoBulkAll,ih]
theorem hB:Bk @Rows.uptoBulk:=by
  refine ⟨fun d=> ?_,fun es sp=> ?_,fun ps=> ?_⟩
  · cases d with
    |lit l=>cases l <;> simp [Rows.uptoBulk]
    |_=>simp [Rows.uptoBulk]
  · rw [Rows.uptoBulk,bulks es];omega
  · rw [Rows.uptoBulk,bulks ps];omega
theorem op24:OpensM @Rows.uptoBulk Tryz.prog 24 (rP (rI .i64) (rP (rI .i64) (rP (rI .i64) (rS (rI .i64))))) (fun z=>(fun _=>1) z.1+(fun z=>(fun _=>1) z.1+(fun z=>(fun _=>1) z.1+(mzL (fun _=>1)) z.2) z.2) z.2):=opensM_struct hB (ps:=[(3,0),(3,1),(3,2),(22,3)]) Tryz.underlying24 (by kernel_rfl) rfl (opensLM_cons (by kernel_rfl) (opensM_int hB Tryz.underlying3) (opensLM_cons (by kernel_rfl) (opensM_int hB Tryz.underlying3) (opensLM_cons (by kernel_rfl) (opensM_int hB Tryz.underlying3) (opensLM_one (by kernel_rfl) (opensM_slice hB Tryz.underlying22 (by kernel_rfl) (by decide) (opensM_int hB Tryz.underlying3))))))
theorem op61:OpensM @Rows.uptoBulk Tryz.prog 61 (rP (rS (rI2 .i64)) (rP (rI .i64) (rP (rI .i64) (rP (rP (rB) (rS (rI .u32))) (rP (rB) (rS (rI .u32))))))) (fun z=>(mzL (fun z:Int×Int=>(fun _=>1) z.1+(fun _=>1) z.2)) z.1+(fun z=>(fun _=>1) z.1+(fun z=>(fun _=>1) z.1+(fun z=>(fun z=>(fun _=>1) z.1+(mzL (fun _=>1)) z.2) z.1+(fun z=>(fun _=>1) z.1+(mzL (fun _=>1)) z.2) z.2) z.2) z.2) z.2):=opensM_struct hB (ps:=[(59,0),(3,1),(3,2),(32,3)]) Tryz.underlying61 (by kernel_rfl) rfl (opensLM_cons (by kernel_rfl) (opensM_slice hB Tryz.underlying59 (by kernel_rfl) (by decide) (opensM_conv (f:=fun z=>z) (opensM_struct hB (ps:=[(3,0),(3,1)]) Tryz.underlying68 (by kernel_rfl) rfl (opensLM_cons (by kernel_rfl) (opensM_int hB Tryz.underlying3) (opensLM_one (by kernel_rfl) (opensM_int hB Tryz.underlying3)))) (convM2 (m1:=fun _=>1) (m2:=fun _=>1)))) (opensLM_cons (by kernel_rfl) (opensM_int hB Tryz.underlying3) (opensLM_cons (by kernel_rfl) (opensM_int hB Tryz.underlying3) (opensLM_one (by kernel_rfl) (opensM_struct hB (ps:=[(30,0),(30,2)]) Tryz.underlying32 (by kernel_rfl) rfl (opensLM_cons (by kernel_rfl) (opensM_struct hB (ps:=[(4,0),(28,1)]) Tryz.underlying30 (by kernel_rfl) rfl (opensLM_cons (by kernel_rfl) (opensM_bool hB Tryz.underlying4) (opensLM_one (by kernel_rfl) (opensM_slice hB Tryz.underlying28 (by kernel_rfl) (by decide) (opensM_int hB Tryz.underlying111))))) (opensLM_one (by kernel_rfl) (opensM_struct hB (ps:=[(4,0),(28,1)]) Tryz.underlying30 (by kernel_rfl) rfl (opensLM_cons (by kernel_rfl) (opensM_bool hB Tryz.underlying4) (opensLM_one (by kernel_rfl) (opensM_slice hB Tryz.underlying28 (by kernel_rfl) (by decide) (opensM_int hB Tryz.underlying111))))))))))))
theorem laid:laidOutB Tryz.prog=true:=by kernel_rfl
set_option maxHeartbeats 2000000 in
set_option maxRecDepth 100000 in
theorem lifted (os:Os) (started:os.Started) (H:Type) (enc:TypeId×Value→H) (F:Stop.Interp):
    ReturnsInHanded {} Tryz.checked os 6 .any ((Rows.OpenSpec.upto Rows.correlateShiftsSpec).pre6 enc Tryz.prog Tryz.f6 Rows.correlateShiftsUptoRow.domain false) (((Rows.OpenSpec.upto Rows.correlateShiftsSpec).at F).post enc Tryz.prog Tryz.f6 false true false false):=by
  refine returnsInHanded_of_cond (C:=Tryz.checked) (s:=Rows.OpenSpec.upto Rows.correlateShiftsSpec) (k:=Rows.uptoSmall) rfl (show ownKnob Tryz.prog.godebug=none by kernel_rfl) started (by kernel_rfl) Tryz.func6
    (OpenSpec.witness (enc:=enc) (C:=Tryz.checked) (s:=Rows.OpenSpec.upto Rows.correlateShiftsSpec) (k:=Rows.uptoSmall) rfl false ⟨#[],#[.agg #[.int .i64 0,.int .i64 0,.int .i64 0,.slice none 0 0],.agg #[.int .i64 0,.int .i64 0,.int .i64 0,.slice none 0 0],.agg #[.slice none 0 0,.int .i64 0,.int .i64 0,.bool false,.slice none 0 0,.bool false,.slice none 0 0]],[]⟩ 8 (by kernel_rfl) (by kernel_rfl) (by kernel_rfl) (x:=([.agg [.lit (.int .i64 0),.lit (.int .i64 0),.lit (.int .i64 0),.nil],.agg [.lit (.int .i64 0),.lit (.int .i64 0),.lit (.int .i64 0),.nil],.agg [.nil,.lit (.int .i64 0),.lit (.int .i64 0),.agg [.agg [.lit (.bool false),.nil],.agg [.lit (.bool false),.nil]]]],[],[])) (by kernel_rfl) rfl (by kernel_rfl)) ?_
  intro W base args ds gs before hval0 hW hcnd hk _
  have hval:∀(j:Nat) t v,Tryz.f6.params[j]? =some t→args[j]? =some v→Value.okWide Tryz.prog W .any base t v:=hval0
  have hW':=hW
  obtain ⟨p,q,hA0,hV,rfl,hfz,hnd⟩:=hW
  have hA:DataW.TrodAll enc Tryz.prog W 0 (fun _=>true) true Tryz.f6.params.toList args.toList ds p:=hA0
  rw [Tryz.params6] at hA hval
  obtain ⟨v0,v1,v2,d0,d1,d2,p0,p1,p2,rfl,rfl,rfl,h0,h1,h2⟩:=trodAll_three hA
  obtain ⟨rfl,rfl⟩:=trodVars_none hV
  obtain ⟨⟨a00,a01,a02,La03⟩,⟨_,_,_,⟨pa03,ca03⟩⟩,rfl,o0,m0⟩:=opensM_agg op24 ⟨_,Tryz.underlying24⟩ (hval 0 24 v0 rfl rfl) h0
  obtain ⟨⟨a10,a11,a12,La13⟩,⟨_,_,_,⟨pa13,ca13⟩⟩,rfl,o1,m1⟩:=opensM_agg op24 ⟨_,Tryz.underlying24⟩ (hval 1 24 v1 rfl rfl) h1
  obtain ⟨⟨La20,a21,a22,⟨⟨a2300,La2301⟩,⟨a2310,La2311⟩⟩⟩,⟨⟨pa20,ca20⟩,_,_,⟨⟨_,⟨pa2301,ca2301⟩⟩,⟨_,⟨pa2311,ca2311⟩⟩⟩⟩,rfl,o2,m2⟩:=opensM_agg op61 ⟨_,Tryz.underlying61⟩ (hval 2 61 v2 rfl rfl) h2
  have hk2:=of_decide_eq_true hk
  simp only [Rows.uptoBulkAll,List.append_nil] at hk2
  clear hA0 hval0
  simp only [List.append_nil] at hW'
  have q1:=mzL_len (mz:=fun _:Int=>1) (l:=La2301) (fun _=>Nat.le_refl 1)
  have q2:=mzL_len (mz:=fun _:Int=>1) (l:=La2311) (fun _=>Nat.le_refl 1)
  simp only at m2
  have k1:La2301.length≤1048576:=by omega
  have k2:La2311.length≤1048576:=by omega
  refine zCe (s:=Rows.correlateShiftsSpec) laid (by kernel_rfl) rfl (by kernel_rfl) Tryz.underlying4 hW' ⟨rfl,rfl,rfl⟩ ?_ (zMb (l1:=La03) (l2:=La13) (la:=La20) (wa:=⟨a2300,pa2301,La2301.length,ca2301⟩) (wb:=⟨a2310,pa2311,La2311.length,ca2311⟩) (xl:=La2301) (yl:=La2311) rfl rfl (zR.1 o0.1) (zR.1 o0.2.1) (zR.1 o0.2.2.1) (zR.1 o1.1) (zR.1 o1.2.1) (zR.1 o1.2.2.1) rfl (zR.1 o2.2.1) (zR.1 o2.2.2.1) rfl rfl k1 k2)
  exact ⟨o0.2.2.2,o1.2.2.2,o2.1,o2.2.2.2.1.2,o2.2.2.2.2.2,trivial⟩
end LawCorrelateShifts
theorem provedCorrelateShifts:Rows.CorrelateShiftsUptoSaid:=
  OpenClaim.holds_of_cond 6 Tryz.f6 rfl rfl rfl rfl rfl rfl rfl ⟨rfl,rfl,rfl,rfl,rfl⟩ rfl rfl rfl rfl rfl (by kernel_rfl) Tryz.func6 (by kernel_rfl)
    (of_decide_eq_true (by kernel_rfl)) (by unfold Func.isWrapper;first|(rw [if_pos (by decide +kernel)];kernel_rfl)|(rw [if_neg (by decide +kernel)];exact ⟨rfl,rfl⟩))
    (fun os started H enc _ F=>LawCorrelateShifts.lifted os started H enc F)
end Go.Proofs.YtkamccndgblheaaGreat
