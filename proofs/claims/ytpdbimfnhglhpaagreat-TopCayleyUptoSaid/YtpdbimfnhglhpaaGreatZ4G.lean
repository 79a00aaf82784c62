/- The law TopCayley holds: for every input that reads as data of bulk at most 1048576 the program returns true, and the input reads behind the call as it did before. No condition beyond those of the given statement. -/
import Derived.Test.YtpdbimfnhglhpaaGreatZ4F
import Derived.Laws.Rows
import Derived.Test.YtpdbimfnhglhpaaGreatRows
set_option linter.unusedVariables false
set_option linter.unusedSimpArgs false
set_option linter.unusedSectionVars false
open Go.Proofs.Tryz renaming prog → ya, underlying4 → yb
namespace Go.Proofs.YtpdbimfnhglhpaaGreat
open Go Go.ChangeShapes Go.WideShapes Go.ChangeAt Go.RowKit Sp
set_option linter.unusedVariables false
namespace LawTopCayley
theorem bulks {H:Type} (l:List (DataW H)):Rows.uptoBulkAll l=(l.map Rows.uptoBulk).sum:=by
  induction l with
  |nil=>simp [Rows.uptoBulkAll]
  |cons x l ih=>simp [Rows.uptoBulkAll,ih]
theorem hB:Bk @Rows.uptoBulk:=by
  refine ⟨fun d=> ?_,fun es sp=> ?_,fun ps=> ?_⟩
  · cases d with
    |lit l=>cases l <;> simp [Rows.uptoBulk]
    |_=>simp [Rows.uptoBulk]
  · rw [Rows.uptoBulk,bulks es];omega
  · rw [Rows.uptoBulk,bulks ps];omega
theorem op60:OpensM @Rows.uptoBulk ya 60 (rS (rS (rP (rP (rB) (rS (rI .u32))) (rP (rB) (rS (rI .u32)))))) (mzL (mzL (fun z=>(fun z=>(fun _=>1) z.1+(mzL (fun _=>1)) z.2) z.1+(fun z=>(fun _=>1) z.1+(mzL (fun _=>1)) z.2) z.2))):=opensM_slice hB Tryz.underlying60 (by kernel_rfl) (by decide) (opensM_slice hB Tryz.underlying62 (by kernel_rfl) (by decide) (opensM_struct hB (ps:=[(30,0),(30,2)]) Tryz.underlying32 (by kernel_rfl) rfl (opensLM_cons (by kernel_rfl) (opensM_struct hB (ps:=[(4,0),(28,1)]) Tryz.underlying30 (by kernel_rfl) rfl (opensLM_cons (by kernel_rfl) (opensM_bool hB yb) (opensLM_one (by kernel_rfl) (opensM_slice hB Tryz.underlying28 (by kernel_rfl) (by decide) (opensM_int hB Tryz.underlying133))))) (opensLM_one (by kernel_rfl) (opensM_struct hB (ps:=[(4,0),(28,1)]) Tryz.underlying30 (by kernel_rfl) rfl (opensLM_cons (by kernel_rfl) (opensM_bool hB yb) (opensLM_one (by kernel_rfl) (opensM_slice hB Tryz.underlying28 (by kernel_rfl) (by decide) (opensM_int hB Tryz.underlying133)))))))))
theorem laid:laidOutB ya=true:=by kernel_rfl
set_option maxHeartbeats 2000000 in
set_option maxRecDepth 100000 in
theorem lifted (os:Os) (started:os.Started) (H:Type) (enc:TypeId×Value→H) (F:Stop.Interp):
    ReturnsInHanded {} Tryz.checked os 4 .any ((Rows.OpenSpec.upto Rows.topCayleySpec).pre6 enc ya Tryz.f4 Rows.topCayleyUptoRow.domain false) (((Rows.OpenSpec.upto Rows.topCayleySpec).at F).post enc ya Tryz.f4 false true false false):=by
  refine returnsInHanded_of_cond (C:=Tryz.checked) (s:=Rows.OpenSpec.upto Rows.topCayleySpec) (k:=Rows.uptoSmall) rfl (show ownKnob ya.godebug=none by kernel_rfl) started (by kernel_rfl) Tryz.func4
    (OpenSpec.witness (enc:=enc) (C:=Tryz.checked) (s:=Rows.OpenSpec.upto Rows.topCayleySpec) (k:=Rows.uptoSmall) rfl false ⟨#[],#[.slice none 0 0],[]⟩ 8 (by kernel_rfl) (by kernel_rfl) (by kernel_rfl) (x:=([.nil],[],[])) (by kernel_rfl) rfl (by kernel_rfl)) ?_
  intro W base args ds gs before hval0 hW hcnd hk _
  have hval:∀(j:Nat) t v,Tryz.f4.params[j]? =some t→args[j]? =some v→Value.okWide ya W .any base t v:=hval0
  have hW':=hW
  obtain ⟨p,q,hA0,hV,rfl,hfz,hnd⟩:=hW
  have hA:DataW.TrodAll enc ya W 0 (fun _=>true) true Tryz.f4.params.toList args.toList ds p:=hA0
  rw [Tryz.params4] at hA hval
  obtain ⟨v0,d0,rfl,rfl,h0⟩:=trodAll_one hA
  obtain ⟨rfl,rfl⟩:=trodVars_none hV
  obtain ⟨La0,⟨pa0,ca0⟩,e0,o0,m0⟩:=opensM_sl op60 rfl Tryz.underlying60 (hval 0 60 v0 rfl rfl) h0
  obtain rfl:v0=_:=by simpa [rS,rI,rB] using e0
  have hk2:=of_decide_eq_true hk
  simp only [Rows.uptoBulkAll,List.append_nil] at hk2
  clear hA0 hval0
  simp only [List.append_nil] at hW'
  have k0:=mz_raw2 (Nat.le_trans m0 (by omega)) (show 1048576≤1099511627776 by decide)
  refine zBf (s:=Rows.topCayleySpec) laid (by kernel_rfl) rfl (by kernel_rfl) yb hW' ⟨rfl,rfl,rfl⟩ ?_ (zud (M:=La0.map fun l=>l.map qo) (List.length_map _))
  exact ⟨sl_raw2 o0 k0,trivial⟩
end LawTopCayley
theorem provedTopCayley:Rows.TopCayleyUptoSaid:=
  OpenClaim.holds_of_cond 4 Tryz.f4 rfl rfl rfl rfl rfl rfl rfl ⟨rfl,rfl,rfl,rfl,rfl⟩ rfl rfl rfl rfl rfl (by kernel_rfl) Tryz.func4 (by kernel_rfl)
    (of_decide_eq_true (by kernel_rfl)) (by unfold Func.isWrapper;first|(rw [if_pos (by decide +kernel)];kernel_rfl)|(rw [if_neg (by decide +kernel)];exact ⟨rfl,rfl⟩))
    (fun os started H enc _ F=>LawTopCayley.lifted os started H enc F)
end Go.Proofs.YtpdbimfnhglhpaaGreat
