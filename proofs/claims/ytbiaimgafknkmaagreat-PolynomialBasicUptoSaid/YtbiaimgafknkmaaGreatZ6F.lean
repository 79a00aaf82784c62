/- The law PolynomialBasic holds: for every input that reads as data of bulk at most 1048576 the program returns true, and the input reads behind the call as it did before. No condition beyond those of the given statement. -/
import Derived.Test.YtbiaimgafknkmaaGreatZ6E
import Derived.Laws.Rows
import Derived.Test.YtbiaimgafknkmaaGreatRows
set_option linter.unusedVariables false
set_option linter.unusedSimpArgs false
set_option linter.unusedSectionVars false
open Go.Proofs.Tryz renaming underlying4 → ya, underlying26 → yb, underlying24 → yc, underlying91 → yd, prog → ye, underlying28 → yf
namespace Go.Proofs.YtbiaimgafknkmaaGreat
open Go Go.ChangeShapes Go.WideShapes Go.ChangeAt Go.RowKit Sp
set_option linter.unusedVariables false
namespace LawPolynomialBasic
theorem bulks {H:Type} (l:List (DataW H)):Rows.uptoBulkAll l=(l.map Rows.uptoBulk).sum:=by
  induction l with
  |nil=>simp [Rows.uptoBulkAll]
  |cons x l ih=>simp [Rows.uptoBulkAll,ih]
theorem hB:Bk @Rows.uptoBulk:=by
  refine ⟨fun d=> ?_,fun es sp=> ?_,fun ps=> ?_⟩
  · cases d with
    |lit l=>cases l <;> simp [Rows.uptoBulk]
    |_=>simp [Rows.uptoBulk]
  · rw [Rows.uptoBulk,bulks es];omega
  · rw [Rows.uptoBulk,bulks ps];omega
theorem op23:OpensM @Rows.uptoBulk ye 23 (rS (rP (rP (rB) (rS (rI .u32))) (rP (rB) (rS (rI .u32))))) (mzL (fun z=>(fun z=>(fun _=>1) z.1+(mzL (fun _=>1)) z.2) z.1+(fun z=>(fun _=>1) z.1+(mzL (fun _=>1)) z.2) z.2)):=opensM_slice hB Tryz.underlying23 (by kernel_rfl) (by decide) (opensM_struct hB (ps:=[(26,0),(26,2)]) yf (by kernel_rfl) rfl (opensLM_cons (by kernel_rfl) (opensM_struct hB (ps:=[(4,0),(24,1)]) yb (by kernel_rfl) rfl (opensLM_cons (by kernel_rfl) (opensM_bool hB ya) (opensLM_one (by kernel_rfl) (opensM_slice hB yc (by kernel_rfl) (by decide) (opensM_int hB yd))))) (opensLM_one (by kernel_rfl) (opensM_struct hB (ps:=[(4,0),(24,1)]) yb (by kernel_rfl) rfl (opensLM_cons (by kernel_rfl) (opensM_bool hB ya) (opensLM_one (by kernel_rfl) (opensM_slice hB yc (by kernel_rfl) (by decide) (opensM_int hB yd))))))))
theorem op28:OpensM @Rows.uptoBulk ye 28 (rP (rP (rB) (rS (rI .u32))) (rP (rB) (rS (rI .u32)))) (fun z=>(fun z=>(fun _=>1) z.1+(mzL (fun _=>1)) z.2) z.1+(fun z=>(fun _=>1) z.1+(mzL (fun _=>1)) z.2) z.2):=opensM_struct hB (ps:=[(26,0),(26,2)]) yf (by kernel_rfl) rfl (opensLM_cons (by kernel_rfl) (opensM_struct hB (ps:=[(4,0),(24,1)]) yb (by kernel_rfl) rfl (opensLM_cons (by kernel_rfl) (opensM_bool hB ya) (opensLM_one (by kernel_rfl) (opensM_slice hB yc (by kernel_rfl) (by decide) (opensM_int hB yd))))) (opensLM_one (by kernel_rfl) (opensM_struct hB (ps:=[(4,0),(24,1)]) yb (by kernel_rfl) rfl (opensLM_cons (by kernel_rfl) (opensM_bool hB ya) (opensLM_one (by kernel_rfl) (opensM_slice hB yc (by kernel_rfl) (by decide) (opensM_int hB yd)))))))
theorem laid:laidOutB ye=true:=by kernel_rfl
set_option maxHeartbeats 2000000 in
set_option maxRecDepth 100000 in
theorem lifted (os:Os) (started:os.Started) (H:Type) (enc:TypeId×Value→H) (F:Stop.Interp):
    ReturnsInHanded {} Tryz.checked os 6 .any ((Rows.OpenSpec.upto Rows.polynomialBasicSpec).pre6 enc ye Tryz.f6 Rows.polynomialBasicUptoRow.domain false) (((Rows.OpenSpec.upto Rows.polynomialBasicSpec).at F).post enc ye Tryz.f6 false true false false):=by
  refine returnsInHanded_of_cond (C:=Tryz.checked) (s:=Rows.OpenSpec.upto Rows.polynomialBasicSpec) (k:=Rows.uptoSmall) rfl (show ownKnob ye.godebug=none by kernel_rfl) started (by kernel_rfl) Tryz.func6
    (OpenSpec.witness (enc:=enc) (C:=Tryz.checked) (s:=Rows.OpenSpec.upto Rows.polynomialBasicSpec) (k:=Rows.uptoSmall) rfl false ⟨#[],#[.slice none 0 0,.agg #[.bool false,.slice none 0 0,.bool false,.slice none 0 0]],[]⟩ 8 (by kernel_rfl) (by kernel_rfl) (by kernel_rfl) (x:=([.nil,.agg [.agg [.lit (.bool false),.nil],.agg [.lit (.bool false),.nil]]],[],[])) (by kernel_rfl) rfl (by kernel_rfl)) ?_
  intro W base args ds gs before hval0 hW hcnd hk _
  have hval:∀(j:Nat) t v,Tryz.f6.params[j]? =some t→args[j]? =some v→Value.okWide ye W .any base t v:=hval0
  have hW':=hW
  obtain ⟨p,q,hA0,hV,rfl,hfz,hnd⟩:=hW
  have hA:DataW.TrodAll enc ye W 0 (fun _=>true) true Tryz.f6.params.toList args.toList ds p:=hA0
  rw [Tryz.params6] at hA hval
  obtain ⟨v0,v1,d0,d1,p0,p1,rfl,rfl,rfl,h0,h1⟩:=trodAll_two hA
  obtain ⟨rfl,rfl⟩:=trodVars_none hV
  obtain ⟨La0,⟨pa0,ca0⟩,e0,o0,m0⟩:=opensM_sl op23 rfl Tryz.underlying23 (hval 0 23 v0 rfl rfl) h0
  obtain rfl:v0=_:=by simpa [rS,rI,rB] using e0
  obtain ⟨⟨⟨a100,La101⟩,⟨a110,La111⟩⟩,⟨⟨_,⟨pa101,ca101⟩⟩,⟨_,⟨pa111,ca111⟩⟩⟩,rfl,o1,m1⟩:=opensM_agg op28 ⟨_,yf⟩ (hval 1 28 v1 rfl rfl) h1
  have hk2:=of_decide_eq_true hk
  simp only [Rows.uptoBulkAll,List.append_nil] at hk2
  clear hA0 hval0
  simp only [List.append_nil] at hW'
  have k0:=mz_raw (Nat.le_trans m0 (by omega)) (show 1048576≤1099511627776 by decide)
  have k1:=mz_raw1 (Nat.le_trans m1 (show _≤1048576 by omega))
  refine zRe (s:=Rows.polynomialBasicSpec) laid (by kernel_rfl) rfl (by kernel_rfl) ya hW' ⟨rfl,rfl,rfl⟩ ?_ (zPb (l1:=La0.map qo) (u1:=⟨a100,pa101,La101.length,ca101⟩) (v1:=⟨a110,pa111,La111.length,ca111⟩) (x1:=qo ((a100,La101),(a110,La111))) (List.length_map _))
  exact ⟨(sl_raw o0 k0),(eF_of o1.1.2 o1.2.2 (Nat.le_trans k1.1 (by decide)) (Nat.le_trans k1.2 (by decide))),trivial⟩
end LawPolynomialBasic
theorem provedPolynomialBasic:Rows.PolynomialBasicUptoSaid:=
  OpenClaim.holds_of_cond 6 Tryz.f6 rfl rfl rfl rfl rfl rfl rfl ⟨rfl,rfl,rfl,rfl,rfl⟩ rfl rfl rfl rfl rfl (by kernel_rfl) Tryz.func6 (by kernel_rfl)
    (of_decide_eq_true (by kernel_rfl)) (by unfold Func.isWrapper;first|(rw [if_pos (by decide +kernel)];kernel_rfl)|(rw [if_neg (by decide +kernel)];exact ⟨rfl,rfl⟩))
    (fun os started H enc _ F=>LawPolynomialBasic.lifted os started H enc F)
end Go.Proofs.YtbiaimgafknkmaaGreat
