/- The law PolynomialDivides holds: for every input that reads as data of bulk at most 1048576 the program returns true, and the input reads behind the call as it did before. No condition beyond those of the given statement. -/
import Derived.Test.YtbiaimgafknkmaaGreatZ5E
import Derived.Laws.Rows
import Derived.Test.YtbiaimgafknkmaaGreatRows
set_option linter.unusedVariables false
set_option linter.unusedSimpArgs false
set_option linter.unusedSectionVars false
open Go.Proofs.Tryz renaming prog → ya, underlying23 → yb, underlying4 → yc
namespace Go.Proofs.YtbiaimgafknkmaaGreat
open Go Go.ChangeShapes Go.WideShapes Go.ChangeAt Go.RowKit Sp
set_option linter.unusedVariables false
namespace LawPolynomialDivides
theorem bulks {H:Type} (l:List (DataW H)):Rows.uptoBulkAll l=(l.map Rows.uptoBulk).sum:=by
  induction l with
  |nil=>simp [Rows.uptoBulkAll]
  |cons x l ih=>simp [Rows.uptoBulkAll,ih]
theorem hB:Bk @Rows.uptoBulk:=by
  refine ⟨fun d=> ?_,fun es sp=> ?_,fun ps=> ?_⟩
  · cases d with
    |lit l=>cases l <;> simp [Rows.uptoBulk]
    |_=>simp [Rows.uptoBulk]
  · rw [Rows.uptoBulk,bulks es];omega
  · rw [Rows.uptoBulk,bulks ps];omega
theorem op23:OpensM @Rows.uptoBulk ya 23 (rS (rP (rP (rB) (rS (rI .u32))) (rP (rB) (rS (rI .u32))))) (mzL (fun z=>(fun z=>(fun _=>1) z.1+(mzL (fun _=>1)) z.2) z.1+(fun z=>(fun _=>1) z.1+(mzL (fun _=>1)) z.2) z.2)):=opensM_slice hB yb (by kernel_rfl) (by decide) (opensM_struct hB (ps:=[(26,0),(26,2)]) Tryz.underlying28 (by kernel_rfl) rfl (opensLM_cons (by kernel_rfl) (opensM_struct hB (ps:=[(4,0),(24,1)]) Tryz.underlying26 (by kernel_rfl) rfl (opensLM_cons (by kernel_rfl) (opensM_bool hB yc) (opensLM_one (by kernel_rfl) (opensM_slice hB Tryz.underlying24 (by kernel_rfl) (by decide) (opensM_int hB Tryz.underlying91))))) (opensLM_one (by kernel_rfl) (opensM_struct hB (ps:=[(4,0),(24,1)]) Tryz.underlying26 (by kernel_rfl) rfl (opensLM_cons (by kernel_rfl) (opensM_bool hB yc) (opensLM_one (by kernel_rfl) (opensM_slice hB Tryz.underlying24 (by kernel_rfl) (by decide) (opensM_int hB Tryz.underlying91))))))))
theorem laid:laidOutB ya=true:=by kernel_rfl
set_option maxHeartbeats 2000000 in
set_option maxRecDepth 100000 in
theorem lifted (os:Os) (started:os.Started) (H:Type) (enc:TypeId×Value→H) (F:Stop.Interp):
    ReturnsInHanded {} Tryz.checked os 5 .any ((Rows.OpenSpec.upto Rows.polynomialDividesSpec).pre6 enc ya Tryz.f5 Rows.polynomialDividesUptoRow.domain false) (((Rows.OpenSpec.upto Rows.polynomialDividesSpec).at F).post enc ya Tryz.f5 false true false false):=by
  refine returnsInHanded_of_cond (C:=Tryz.checked) (s:=Rows.OpenSpec.upto Rows.polynomialDividesSpec) (k:=Rows.uptoSmall) rfl (show ownKnob ya.godebug=none by kernel_rfl) started (by kernel_rfl) Tryz.func5
    (OpenSpec.witness (enc:=enc) (C:=Tryz.checked) (s:=Rows.OpenSpec.upto Rows.polynomialDividesSpec) (k:=Rows.uptoSmall) rfl false ⟨#[],#[.slice none 0 0,.slice none 0 0],[]⟩ 8 (by kernel_rfl) (by kernel_rfl) (by kernel_rfl) (x:=([.nil,.nil],[],[])) (by kernel_rfl) rfl (by kernel_rfl)) ?_
  intro W base args ds gs before hval0 hW hcnd hk _
  have hval:∀(j:Nat) t v,Tryz.f5.params[j]? =some t→args[j]? =some v→Value.okWide ya W .any base t v:=hval0
  have hW':=hW
  obtain ⟨p,q,hA0,hV,rfl,hfz,hnd⟩:=hW
  have hA:DataW.TrodAll enc ya W 0 (fun _=>true) true Tryz.f5.params.toList args.toList ds p:=hA0
  rw [Tryz.params5] at hA hval
  obtain ⟨v0,v1,d0,d1,p0,p1,rfl,rfl,rfl,h0,h1⟩:=trodAll_two hA
  obtain ⟨rfl,rfl⟩:=trodVars_none hV
  obtain ⟨La0,⟨pa0,ca0⟩,e0,o0,m0⟩:=opensM_sl op23 rfl yb (hval 0 23 v0 rfl rfl) h0
  obtain rfl:v0=_:=by simpa [rS,rI,rB] using e0
  obtain ⟨La1,⟨pa1,ca1⟩,e1,o1,m1⟩:=opensM_sl op23 rfl yb (hval 1 23 v1 rfl rfl) h1
  obtain rfl:v1=_:=by simpa [rS,rI,rB] using e1
  have hk2:=of_decide_eq_true hk
  simp only [Rows.uptoBulkAll,List.append_nil] at hk2
  clear hA0 hval0
  simp only [List.append_nil] at hW'
  have k0:=mz_raw (Nat.le_trans m0 (by omega)) (show 1048576≤1099511627776 by decide)
  have k1:=mz_raw (Nat.le_trans m1 (by omega)) (show 1048576≤1099511627776 by decide)
  refine zLe (s:=Rows.polynomialDividesSpec) laid (by kernel_rfl) rfl (by kernel_rfl) yc hW' ⟨rfl,rfl,rfl⟩ ?_ (zGb (l1:=La0.map qo) (l2:=La1.map qo) (List.length_map _) (List.length_map _))
  exact ⟨(sl_raw o0 k0),(sl_raw o1 k1),trivial⟩
end LawPolynomialDivides
theorem provedPolynomialDivides:Rows.PolynomialDividesUptoSaid:=
  OpenClaim.holds_of_cond 5 Tryz.f5 rfl rfl rfl rfl rfl rfl rfl ⟨rfl,rfl,rfl,rfl,rfl⟩ rfl rfl rfl rfl rfl (by kernel_rfl) Tryz.func5 (by kernel_rfl)
    (of_decide_eq_true (by kernel_rfl)) (by unfold Func.isWrapper;first|(rw [if_pos (by decide +kernel)];kernel_rfl)|(rw [if_neg (by decide +kernel)];exact ⟨rfl,rfl⟩))
    (fun os started H enc _ F=>LawPolynomialDivides.lifted os started H enc F)
end Go.Proofs.YtbiaimgafknkmaaGreat
