/- The law PolynomialRefines holds: for every input that reads as data of bulk at most 1048576 the program returns true, and the input reads behind the call as it did before. No condition beyond those of the given statement. -/
import Derived.Test.YtbiaimgafknkmaaGreatZ7E
import Derived.Laws.Rows
import Derived.Test.YtbiaimgafknkmaaGreatRows
set_option linter.unusedVariables false
set_option linter.unusedSimpArgs false
set_option linter.unusedSectionVars false
open Go.Proofs.Tryz renaming underlying4 → ya, underlying26 → yb, underlying24 → yc, underlying91 → yd, prog → ye, underlying28 → yf
namespace Go.Proofs.YtbiaimgafknkmaaGreat
open Go Go.ChangeShapes Go.WideShapes Go.ChangeAt Go.RowKit Sp
set_option linter.unusedVariables false
namespace LawPolynomialRefines
theorem bulks {H:Type} (l:List (DataW H)):Rows.uptoBulkAll l=(l.map Rows.uptoBulk).sum:=by
  induction l with
  |nil=>simp [Rows.uptoBulkAll]
  |cons x l ih=>simp [Rows.uptoBulkAll,ih]
theorem hB:Bk @Rows.uptoBulk:=by
  refine ⟨fun d=> ?_,fun es sp=> ?_,fun ps=> ?_⟩
  · cases d with
    |lit l=>cases l <;> simp [Rows.uptoBulk]
    |_=>simp [Rows.uptoBulk]
  · rw [Rows.uptoBulk,bulks es];omega
  · rw [Rows.uptoBulk,bulks ps];omega
theorem op3:OpensM @Rows.uptoBulk ye 3 (rI .i64) (fun _=>1):=opensM_int hB Tryz.underlying3
theorem op23:OpensM @Rows.uptoBulk ye 23 (rS (rP (rP (rB) (rS (rI .u32))) (rP (rB) (rS (rI .u32))))) (mzL (fun z=>(fun z=>(fun _=>1) z.1+(mzL (fun _=>1)) z.2) z.1+(fun z=>(fun _=>1) z.1+(mzL (fun _=>1)) z.2) z.2)):=opensM_slice hB Tryz.underlying23 (by kernel_rfl) (by decide) (opensM_struct hB (ps:=[(26,0),(26,2)]) yf (by kernel_rfl) rfl (opensLM_cons (by kernel_rfl) (opensM_struct hB (ps:=[(4,0),(24,1)]) yb (by kernel_rfl) rfl (opensLM_cons (by kernel_rfl) (opensM_bool hB ya) (opensLM_one (by kernel_rfl) (opensM_slice hB yc (by kernel_rfl) (by decide) (opensM_int hB yd))))) (opensLM_one (by kernel_rfl) (opensM_struct hB (ps:=[(4,0),(24,1)]) yb (by kernel_rfl) rfl (opensLM_cons (by kernel_rfl) (opensM_bool hB ya) (opensLM_one (by kernel_rfl) (opensM_slice hB yc (by kernel_rfl) (by decide) (opensM_int hB yd))))))))
theorem op48:OpensM @Rows.uptoBulk ye 48 (rP (rP (rP (rB) (rS (rI .u32))) (rP (rB) (rS (rI .u32)))) (rP (rP (rB) (rS (rI .u32))) (rP (rB) (rS (rI .u32))))) (fun z=>(fun z=>(fun z=>(fun _=>1) z.1+(mzL (fun _=>1)) z.2) z.1+(fun z=>(fun _=>1) z.1+(mzL (fun _=>1)) z.2) z.2) z.1+(fun z=>(fun z=>(fun _=>1) z.1+(mzL (fun _=>1)) z.2) z.1+(fun z=>(fun _=>1) z.1+(mzL (fun _=>1)) z.2) z.2) z.2):=opensM_struct hB (ps:=[(28,0),(28,4)]) Tryz.underlying48 (by kernel_rfl) rfl (opensLM_cons (by kernel_rfl) (opensM_struct hB (ps:=[(26,0),(26,2)]) yf (by kernel_rfl) rfl (opensLM_cons (by kernel_rfl) (opensM_struct hB (ps:=[(4,0),(24,1)]) yb (by kernel_rfl) rfl (opensLM_cons (by kernel_rfl) (opensM_bool hB ya) (opensLM_one (by kernel_rfl) (opensM_slice hB yc (by kernel_rfl) (by decide) (opensM_int hB yd))))) (opensLM_one (by kernel_rfl) (opensM_struct hB (ps:=[(4,0),(24,1)]) yb (by kernel_rfl) rfl (opensLM_cons (by kernel_rfl) (opensM_bool hB ya) (opensLM_one (by kernel_rfl) (opensM_slice hB yc (by kernel_rfl) (by decide) (opensM_int hB yd)))))))) (opensLM_one (by kernel_rfl) (opensM_struct hB (ps:=[(26,0),(26,2)]) yf (by kernel_rfl) rfl (opensLM_cons (by kernel_rfl) (opensM_struct hB (ps:=[(4,0),(24,1)]) yb (by kernel_rfl) rfl (opensLM_cons (by kernel_rfl) (opensM_bool hB ya) (opensLM_one (by kernel_rfl) (opensM_slice hB yc (by kernel_rfl) (by decide) (opensM_int hB yd))))) (opensLM_one (by kernel_rfl) (opensM_struct hB (ps:=[(4,0),(24,1)]) yb (by kernel_rfl) rfl (opensLM_cons (by kernel_rfl) (opensM_bool hB ya) (opensLM_one (by kernel_rfl) (opensM_slice hB yc (by kernel_rfl) (by decide) (opensM_int hB yd))))))))))
theorem laid:laidOutB ye=true:=by kernel_rfl
set_option maxHeartbeats 2000000 in
set_option maxRecDepth 100000 in
theorem lifted (os:Os) (started:os.Started) (H:Type) (enc:TypeId×Value→H) (F:Stop.Interp):
    ReturnsInHanded {} Tryz.checked os 7 .any ((Rows.OpenSpec.upto Rows.polynomialRefinesSpec).pre6 enc ye Tryz.f7 Rows.polynomialRefinesUptoRow.domain false) (((Rows.OpenSpec.upto Rows.polynomialRefinesSpec).at F).post enc ye Tryz.f7 false true false false):=by
  refine returnsInHanded_of_cond (C:=Tryz.checked) (s:=Rows.OpenSpec.upto Rows.polynomialRefinesSpec) (k:=Rows.uptoSmall) rfl (show ownKnob ye.godebug=none by kernel_rfl) started (by kernel_rfl) Tryz.func7
    (OpenSpec.witness (enc:=enc) (C:=Tryz.checked) (s:=Rows.OpenSpec.upto Rows.polynomialRefinesSpec) (k:=Rows.uptoSmall) rfl false ⟨#[],#[.slice none 0 0,.agg #[.bool false,.slice none 0 0,.bool false,.slice none 0 0,.bool false,.slice none 0 0,.bool false,.slice none 0 0],.int .i64 0],[]⟩ 8 (by kernel_rfl) (by kernel_rfl) (by kernel_rfl) (x:=([.nil,.agg [.agg [.agg [.lit (.bool false),.nil],.agg [.lit (.bool false),.nil]],.agg [.agg [.lit (.bool false),.nil],.agg [.lit (.bool false),.nil]]],.lit (.int .i64 0)],[],[])) (by kernel_rfl) rfl (by kernel_rfl)) ?_
  intro W base args ds gs before hval0 hW hcnd hk _
  have hval:∀(j:Nat) t v,Tryz.f7.params[j]? =some t→args[j]? =some v→Value.okWide ye W .any base t v:=hval0
  have hW':=hW
  obtain ⟨p,q,hA0,hV,rfl,hfz,hnd⟩:=hW
  have hA:DataW.TrodAll enc ye W 0 (fun _=>true) true Tryz.f7.params.toList args.toList ds p:=hA0
  rw [Tryz.params7] at hA hval
  obtain ⟨v0,v1,v2,d0,d1,d2,p0,p1,p2,rfl,rfl,rfl,h0,h1,h2⟩:=trodAll_three hA
  obtain ⟨rfl,rfl⟩:=trodVars_none hV
  obtain ⟨La0,⟨pa0,ca0⟩,e0,o0,m0⟩:=opensM_sl op23 rfl Tryz.underlying23 (hval 0 23 v0 rfl rfl) h0
  obtain rfl:v0=_:=by simpa [rS,rI,rB] using e0
  obtain ⟨⟨⟨⟨a1000,La1001⟩,⟨a1010,La1011⟩⟩,⟨⟨a1100,La1101⟩,⟨a1110,La1111⟩⟩⟩,⟨⟨⟨_,⟨pa1001,ca1001⟩⟩,⟨_,⟨pa1011,ca1011⟩⟩⟩,⟨⟨_,⟨pa1101,ca1101⟩⟩,⟨_,⟨pa1111,ca1111⟩⟩⟩⟩,rfl,o1,m1⟩:=opensM_agg op48 ⟨_,Tryz.underlying48⟩ (hval 1 48 v1 rfl rfl) h1
  obtain ⟨a2,rfl,rfl,rfl,o2⟩:=open_int Tryz.underlying3 (hval 2 3 v2 rfl rfl) h2
  have hk2:=of_decide_eq_true hk
  simp only [Rows.uptoBulkAll,List.append_nil] at hk2
  clear hA0 hval0
  simp only [List.append_nil] at hW'
  have k0:=mz_raw (Nat.le_trans m0 (by omega)) (show 1048576≤1099511627776 by decide)
  have k1:=mz_raw1 (x:=((a1000,La1001),(a1010,La1011))) (Nat.le_trans (Nat.le_add_right _ _) (Nat.le_trans m1 (show _≤1048576 by omega)))
  have k2:=mz_raw1 (x:=((a1100,La1101),(a1110,La1111))) (Nat.le_trans (Nat.le_add_left _ _) (Nat.le_trans m1 (show _≤1048576 by omega)))
  refine zff (s:=Rows.polynomialRefinesSpec) laid (by kernel_rfl) rfl (by kernel_rfl) ya hW' ⟨rfl,rfl,rfl⟩ ?_ (zOb (l1:=La0.map qo) (u1:=⟨a1000,pa1001,La1001.length,ca1001⟩) (v1:=⟨a1010,pa1011,La1011.length,ca1011⟩) (x1:=qo ((a1000,La1001),(a1010,La1011))) (u2:=⟨a1100,pa1101,La1101.length,ca1101⟩) (v2:=⟨a1110,pa1111,La1111.length,ca1111⟩) (x2:=qo ((a1100,La1101),(a1110,La1111))) (List.length_map _) (wf_i64 o2))
  exact ⟨(sl_raw o0 k0),eF_of o1.1.1.2 o1.1.2.2 (Nat.le_trans k1.1 (by decide)) (Nat.le_trans k1.2 (by decide)),eF_of o1.2.1.2 o1.2.2.2 (Nat.le_trans k2.1 (by decide)) (Nat.le_trans k2.2 (by decide)),trivial⟩
end LawPolynomialRefines
theorem provedPolynomialRefines:Rows.PolynomialRefinesUptoSaid:=
  OpenClaim.holds_of_cond 7 Tryz.f7 rfl rfl rfl rfl rfl rfl rfl ⟨rfl,rfl,rfl,rfl,rfl⟩ rfl rfl rfl rfl rfl (by kernel_rfl) Tryz.func7 (by kernel_rfl)
    (of_decide_eq_true (by kernel_rfl)) (by unfold Func.isWrapper;first|(rw [if_pos (by decide +kernel)];kernel_rfl)|(rw [if_neg (by decide +kernel)];exact ⟨rfl,rfl⟩))
    (fun os started H enc _ F=>LawPolynomialRefines.lifted os started H enc F)
end Go.Proofs.YtbiaimgafknkmaaGreat
