/- Lemmas on the walk and plain lemmas that the claim of this folder uses; each states its own conditions. Lines were printed by a program of ours. -/
import Derived.Test.YtalfgjpbbongcaaZ8E
set_option linter.unusedVariables false
set_option linter.unusedSimpArgs false
set_option linter.unusedSectionVars false
namespace Go.Proofs.Ytalfgjpbbongcaa.Sp
open Go
set_option linter.unusedVariables false
set_option maxRecDepth 100000
set_option maxHeartbeats 1000000
theorem con_Weld {pv : Option Addr} {nv : Nat} {cv : Nat} {V : List (Int × Int × Int)} {pf : Option Addr} {nf : Nat} {cf : Nat} {F : List (Int × Int × Int)} (hnv : V.length = nv) (hnf : F.length = nf) : Con Try.prog 34 [.agg #[.slice pv nv cv, .slice pf nf cf]] [] [slF (rI3 .i64) pv cv V, slF (rI3 .i64) pf cf F] (Y := (Option Addr) × Nat × (Option Addr) × Nat) (fun y => True) (fun y => .tuple #[.agg #[.slice (y.1) ((Ms.weldRV V F).length) (y.2.1), .slice (y.2.2.1) ((Ms.weldRF V F).length) (y.2.2.2)], .int .i64 (Ms.form V F)]) (fun y => []) (fun y => [slF (rI3 .i64) (y.1) (y.2.1) (Ms.weldRV V F), slF (rI3 .i64) (y.2.2.1) (y.2.2.2) (Ms.weldRF V F)]) := by
 refine con_intro Try.func34 rfl rfl rfl (fun c => ?_)
 show RunC _ _ _ _ _ [(0, .agg #[.slice pv nv cv, .slice pf nf cf])] [] [slF (rI3 .i64) pv cv V, slF (rI3 .i64) pf cf F]
 refine c_len 0 rfl (fun hL0 => ?_)
 refine c_len 1 rfl (fun hL1 => ?_)
 refine r_seq ?_
 refine r_region ?_
 refine r_new rfl rfl (ef_box rfl rfl) (fun b1 => ?_)
 refine r_new rfl rfl (ef_alloc zr25 rfl) (fun b2 => ?_)
 refine r_pv rfl rfl (pv_assign rfl) ?_
 refine r_nil ?_
 refine p_then ?_
 refine r_seq ?_
 refine r_seq ?_
 refine r_region ?_
 refine r_u rfl rfl (vl_load_box_agg 1 ty25 rfl rfl (.take (.take .nil))) ?_
 refine r_call1 rfl rfl (.c rfl .n) ce46 (con_form (pv := pv) (nv := nv) (cv := cv) (V := V) (pf := pf) (nf := nf) (cf := cf) (F := F) (hnv := by assumption) (hnf := by assumption)) (.c (j := 0) rfl (.c (j := 1) rfl .n)) ?_
 refine r_pv rfl rfl (pv_assign rfl) ?_
 refine r_nil ?_
 refine p_then ?_
 refine r_seq ?_
 refine r_region ?_
 refine r_pv rfl rfl (pv_move rfl) ?_
 refine r_pv rfl rfl (pv_neq rfl rfl) ?_
 refine r_nil ?_
 refine p_then ?_
 refine r_cond rfl (fun hcode => ?_) (fun hcode => ?_)
 ·
  refine r_seq ?_
  refine r_region ?_
  refine r_pv rfl rfl (pv_build_struct zr25 rfl Try.underlying25 (.c sz22 (.c sz23 .n)) .n .n) ?_
  refine r_pv rfl rfl (pv_move rfl) ?_
  refine r_store_box 0 rfl rfl rfl rfl rfl sz25 rfl (.take (.take .nil)) .z ?_
  refine r_pv rfl rfl (pv_assign rfl) ?_
  refine r_nil ?_
  refine p_then ?_
  refine r_ret ?_
  refine p_then_ret ?_
  have hz1 : Ms.weldRV V F = [] := by unfold Ms.weldRV; rw [if_neg hcode]
  have hz2 : Ms.weldRF V F = [] := by unfold Ms.weldRF; rw [if_neg hcode]
  refine p_nilF (rI3 .i64) ?_
  refine p_nilF (rI3 .i64) ?_
  exact p_ret2 Try.results34 (none, 0, none, 0) trivial (res_box_agg 0 ty25 rfl rfl (.take (.take .nil))) (res_tmp rfl) (by rw [hz1, hz2]; rfl) (ho := (.n : PickO _ _ _)) ((.e (j := 0) rfl (by rw [hz1]) (.e (j := 0) rfl (by rw [hz2]) .n)) : SelR _ _ _)
 ·
  have hf0 := Decidable.not_not.1 hcode
  have hg := Ms.form_zero.1 hf0
  have hnv5 : nv ≤ 512 := by have := hg.nv; omega
  have hnf5 : nf ≤ 1024 := by have := hg.nf; omega
  refine r_skip ?_
  refine p_then ?_
  refine r_seq ?_
  refine r_region ?_
  refine r_ef0 rfl rfl (ef_makeMap (κ := Int × Int × Int) (ν := Int) (fun z : Int × Int × Int => .agg #[.int .i64 z.1, .int .i64 z.2.1, .int .i64 z.2.2]) (fun z : Int => .int .i64 z) (fun z => InK .i64 z.1 ∧ InK .i64 z.2.1 ∧ InK .i64 z.2.2)) (fun b3 _ => ?_)
  refine r_pv rfl rfl (pv_assign rfl) ?_
  refine r_nil ?_
  refine p_then ?_
  refine r_seq ?_
  refine r_seq ?_
  refine r_region ?_
  refine r_pv rfl rfl (pv_fieldAddr Try.underlying25 rfl sz22 rfl rfl) ?_
  refine r_u rfl rfl (vl_load_box_one 2 ty22 rfl rfl rfl) ?_
  refine r_pv rfl rfl (pv_len Try.underlying22 rfl) ?_
  refine r_pv rfl rfl (pv_move rfl) ?_
  refine r_nil ?_
  refine p_then ?_
  refine r_block ?_
  refine r_loop (X := Nat × (List ((Int × Int × Int) × Int))) (fun x : Nat × (List ((Int × Int × Int) × Int)) => x.1 ≤ nv ∧ Ms.FMap V x.1 x.2) (fun x => [(34, .int .i64 ((x.1 : Nat) : Int)), (33, .int .i64 ((nv : Nat) : Int)), (32, .slice pv nv cv), (5, .map (some b3)), (3, .int .i64 0), (2, .pointer (some ⟨b2, 0, none⟩)), (1, .pointer (some ⟨b1, 0, none⟩))]) (fun x => [mapA b3 (fun z : Int × Int × Int => .agg #[.int .i64 z.1, .int .i64 z.2.1, .int .i64 z.2.2]) (fun z : Int => .int .i64 z) (fun z => InK .i64 z.1 ∧ InK .i64 z.2.1 ∧ InK .i64 z.2.2) (x.2), boxA b2 25 [.slice none 0 0, .slice none 0 0], boxA b1 25 [.slice pv nv cv, .slice pf nf cf]]) (fun x => [slF (rI3 .i64) pv cv V, slF (rI3 .i64) pf cf F]) (fun x : Nat × (List ((Int × Int × Int) × Int)) => nv - x.1) (0, ([] : List ((Int × Int × Int) × Int))) (show 0 ≤ nv ∧ Ms.FMap V 0 ([] : List ((Int × Int × Int) × Int)) from by exact ⟨Nat.zero_le _, Ms.FMap.nil V⟩) ((.e rfl (by first | rfl | (congr 1; omega) | simp_all) (.of rfl)) : SubM _ _) (ho := ((.e (i := 0) rfl (by first | rfl | (congr 1; omega) | simp_all) (.of [0, 0] rfl)) : PickO _ _ _)) ((.of [0, 1] rfl) : SelR _ _ _) ?_
  rintro ⟨i, fm⟩ hI
  replace hI : i ≤ nv ∧ Ms.FMap V i fm := hI
  show RunC _ _ _ _ _ [(34, .int .i64 ((i : Nat) : Int)), (33, .int .i64 ((nv : Nat) : Int)), (32, .slice pv nv cv), (5, .map (some b3)), (3, .int .i64 0), (2, .pointer (some ⟨b2, 0, none⟩)), (1, .pointer (some ⟨b1, 0, none⟩))] [mapA b3 (fun z : Int × Int × Int => .agg #[.int .i64 z.1, .int .i64 z.2.1, .int .i64 z.2.2]) (fun z : Int => .int .i64 z) (fun z => InK .i64 z.1 ∧ InK .i64 z.2.1 ∧ InK .i64 z.2.2) fm, boxA b2 25 [.slice none 0 0, .slice none 0 0], boxA b1 25 [.slice pv nv cv, .slice pf nf cf]] [slF (rI3 .i64) pv cv V, slF (rI3 .i64) pf cf F]
  obtain ⟨hi, hM⟩ := hI
  refine r_seq ?_
  refine r_region ?_
  refine r_pv rfl rfl (pv_lss rfl rfl) ?_
  refine r_nil ?_
  refine p_then ?_
  refine r_seq ?_
  refine r_cond rfl (fun h4 => ?_) (fun h4 => ?_)
  ·
   have hv0 := hg.vat (i := i) (by omega)
   refine r_skip ?_
   refine p_then ?_
   refine r_seq ?_
   refine r_block ?_
   refine r_seq ?_
   refine r_region ?_
   refine r_pv rfl rfl (pv_move rfl) ?_
   refine r_index_fl (x0 := (V.getD i (0, 0, 0))) 0 i rfl Try.underlying22 sz42 rfl rfl rfl (by first | rfl | assumption | (simp; done) | exact Ms.usedL_len _ _ | omega) rfl rfl (gD (d := (0, 0, 0)) (by omega)) (fun b5 o6 hok7 => ?_)
   obtain ⟨hok7x, hok7y, hok7z⟩ := hok7
   replace hok7x := inK_i64.1 hok7x
   replace hok7y := inK_i64.1 hok7y
   replace hok7z := inK_i64.1 hok7z
   refine r_u rfl rfl (vl_load_at_agg (j := 0) 0 ty42 rfl rfl rfl (.take (.take (.take .nil)))) ?_
   refine r_new rfl rfl (ef_alloc zr42 rfl) (fun b8 => ?_)
   refine r_pv rfl rfl (pv_assign rfl) ?_
   refine r_store_box 0 rfl rfl rfl rfl rfl sz42 rfl (.take (.take (.take .nil))) .z ?_
   refine r_nil ?_
   refine p_then ?_
   refine r_seq ?_
   refine r_region ?_
   refine r_pv rfl rfl (pv_move rfl) ?_
   refine r_u rfl rfl (vl_load_box_agg 0 ty42 rfl rfl (.take (.take (.take .nil)))) ?_
   refine r_u rfl rfl (vl_lookup2 (z := 0) (a0 := ((V.getD i (0, 0, 0)).1, (V.getD i (0, 0, 0)).2.1, (V.getD i (0, 0, 0)).2.2)) (v := .int .i64 ((mget fm ((V.getD i (0, 0, 0)).1, (V.getD i (0, 0, 0)).2.1, (V.getD i (0, 0, 0)).2.2)).getD 0)) 1 rfl ky42 Try.underlying105 zr3 rfl rfl (⟨inK_i64.2 (by omega), inK_i64.2 (by omega), inK_i64.2 (by omega)⟩) rfl) ?_
   refine r_pv rfl rfl (pv_move rfl) ?_
   refine r_pv rfl rfl (pv_extract rfl rfl) ?_
   refine r_pv rfl rfl (pv_extract rfl rfl) ?_
   refine r_pv rfl rfl (pv_assign rfl) ?_
   refine r_pv rfl rfl (pv_assign rfl) ?_
   refine r_nil ?_
   refine p_then ?_
   refine r_seq ?_
   refine r_region ?_
   refine r_pv rfl rfl (pv_move rfl) ?_
   refine r_pv rfl rfl (pv_not rfl) ?_
   refine r_nil ?_
   refine p_then ?_
   refine r_condb rfl (fun hsk => ?_) (fun hsk => ?_)
   ·
    refine r_region ?_
    refine r_pv rfl rfl (pv_move rfl) ?_
    refine r_u rfl rfl (vl_load_box_agg 0 ty42 rfl rfl (.take (.take (.take .nil)))) ?_
    refine r_pv rfl rfl (pv_move rfl) ?_
    refine r_ef1 1 rfl rfl rfl (ef_update (a0 := ((V.getD i (0, 0, 0)).1, (V.getD i (0, 0, 0)).2.1, (V.getD i (0, 0, 0)).2.2)) (v := ((i : Nat) : Int)) ky42 Try.underlying105 rfl rfl rfl (⟨inK_i64.2 (by omega), inK_i64.2 (by omega), inK_i64.2 (by omega)⟩)) (fun _ => (.s .z)) (fun _ _ => ?_)
    refine r_nil ?_
    refine p_block ?_
    refine p_then ?_
    refine r_region ?_
    refine r_pv rfl rfl (pv_add (z := (((i + 1) : Nat) : Int)) rfl rfl (w64 (by omega))) ?_
    refine r_pv rfl rfl (pv_move rfl) ?_
    refine r_nil ?_
    refine p_next ((i + 1), mput fm ((V.getD i (0, 0, 0)).1, (V.getD i (0, 0, 0)).2.1, (V.getD i (0, 0, 0)).2.2) ((i : Nat) : Int)) (show (i + 1) ≤ nv ∧ Ms.FMap V (i + 1) (mput fm ((V.getD i (0, 0, 0)).1, (V.getD i (0, 0, 0)).2.1, (V.getD i (0, 0, 0)).2.2) ((i : Nat) : Int)) from by exact ⟨by omega, hM.put (by simpa using hsk)⟩) (by show nv - (i + 1) < nv - i; omega) ((.of rfl) : SubM _ _) (ho := ((.of [1, 1, 1] rfl) : PickO _ _ _)) ((.of [1, 2] rfl) : SelR _ _ _)
   ·
    refine r_skip ?_
    refine p_block ?_
    refine p_then ?_
    refine r_region ?_
    refine r_pv rfl rfl (pv_add (z := (((i + 1) : Nat) : Int)) rfl rfl (w64 (by omega))) ?_
    refine r_pv rfl rfl (pv_move rfl) ?_
    refine r_nil ?_
    refine p_next ((i + 1), fm) (show (i + 1) ≤ nv ∧ Ms.FMap V (i + 1) fm from by exact ⟨by omega, hM.keep (by simpa using hsk)⟩) (by show nv - (i + 1) < nv - i; omega) ((.of rfl) : SubM _ _) (ho := ((.of [1, 1, 1] rfl) : PickO _ _ _)) ((.of [1, 2] rfl) : SelR _ _ _)
  ·
   refine r_exit ?_
   refine p_then_exit ?_
   refine p_then_exit ?_
   refine p_block_here ?_
   refine p_then ?_
   refine r_seq ?_
   have hM2 : Ms.FMap V V.length fm := by have h9 : i = V.length := (by omega); rw [← h9]; exact hM
   refine r_region ?_
   refine r_pv rfl rfl (pv_fieldAddr Try.underlying25 rfl sz22 rfl rfl) ?_
   refine r_u rfl rfl (vl_load_box_one 2 ty22 rfl rfl rfl) ?_
   refine r_pv rfl rfl (pv_len Try.underlying22 rfl) ?_
   refine r_ef0 rfl rfl (ef_make (r := rB) (k := nv) (x0 := false) (γ0 := ()) Try.underlying106 inf4 rfl rfl rfl rfl (by omega) (by omega) rfl (fun _ _ => by trivial) (by decide)) (fun b9 _ => ?_)
   refine r_pv rfl rfl (pv_assign rfl) ?_
   refine r_nil ?_
   refine p_then ?_
   refine r_seq ?_
   refine r_region ?_
   refine r_pv rfl rfl (pv_assign rfl) ?_
   refine r_nil ?_
   refine p_then ?_
   refine r_seq ?_
   refine r_seq ?_
   refine c_nilrow 44 (rI3 .i64) ?_
   refine r_region ?_
   refine r_pv rfl rfl (pv_fieldAddr Try.underlying25 rfl sz23 rfl rfl) ?_
   refine r_u rfl rfl (vl_load_box_one 4 ty23 rfl rfl rfl) ?_
   refine r_pv rfl rfl (pv_len Try.underlying23 rfl) ?_
   refine r_pv rfl rfl (pv_move rfl) ?_
   refine r_nil ?_
   refine p_then ?_
   refine r_block ?_
   refine r_loop (X := Nat × (Option Addr) × Nat × (List (Int × Int × Int))) (fun x : Nat × (Option Addr) × Nat × (List (Int × Int × Int)) => x.1 ≤ nf ∧ x.2.2.2 = Ms.keptF V (F.take x.1)) (fun x => [(11, .slice (x.2.1) (x.2.2.2.length) (x.2.2.1)), (58, .int .i64 ((x.1 : Nat) : Int)), (57, .int .i64 ((nf : Nat) : Int)), (56, .slice pf nf cf), (10, .slice (some ⟨b9, 0, none⟩) nv nv), (5, .map (some b3)), (3, .int .i64 0), (2, .pointer (some ⟨b2, 0, none⟩)), (1, .pointer (some ⟨b1, 0, none⟩))]) (fun x => [rowA 44 (rI3 .i64) (x.2.1) (x.2.2.1) (x.2.2.2), rowA 4 rB (some ⟨b9, 0, none⟩) nv (Ms.usedL nv x.2.2.2), mapA b3 (fun z : Int × Int × Int => .agg #[.int .i64 z.1, .int .i64 z.2.1, .int .i64 z.2.2]) (fun z : Int => .int .i64 z) (fun z => InK .i64 z.1 ∧ InK .i64 z.2.1 ∧ InK .i64 z.2.2) fm, boxA b2 25 [.slice none 0 0, .slice none 0 0], boxA b1 25 [.slice pv nv cv, .slice pf nf cf]]) (fun x => [slF (rI3 .i64) pv cv V, slF (rI3 .i64) pf cf F]) (fun x : Nat × (Option Addr) × Nat × (List (Int × Int × Int)) => nf - x.1) (0, none, 0, ([] : List (Int × Int × Int))) (show 0 ≤ nf ∧ ([] : List (Int × Int × Int)) = Ms.keptF V (F.take 0) from by exact ⟨Nat.zero_le _, rfl⟩) ((.e rfl (by first | rfl | (congr 1; omega) | simp_all) (.e rfl (by first | rfl | (congr 1; omega) | simp_all) (.of rfl))) : SubM _ _) (ho := ((.e (i := 0) rfl (by first | rfl | rw [Ms.usedL_nil]) (.e (i := 0) rfl (by first | rfl | rw [Ms.usedL_nil]) (.of [0, 0, 0] rfl))) : PickO _ _ _)) ((.of [0, 1] rfl) : SelR _ _ _) ?_
   rintro ⟨i, p, c, K⟩ hI
   replace hI : i ≤ nf ∧ K = Ms.keptF V (F.take i) := hI
   show RunC _ _ _ _ _ [(11, .slice p (K.length) c), (58, .int .i64 ((i : Nat) : Int)), (57, .int .i64 ((nf : Nat) : Int)), (56, .slice pf nf cf), (10, .slice (some ⟨b9, 0, none⟩) nv nv), (5, .map (some b3)), (3, .int .i64 0), (2, .pointer (some ⟨b2, 0, none⟩)), (1, .pointer (some ⟨b1, 0, none⟩))] [rowA 44 (rI3 .i64) p c K, rowA 4 rB (some ⟨b9, 0, none⟩) nv (Ms.usedL nv K), mapA b3 (fun z : Int × Int × Int => .agg #[.int .i64 z.1, .int .i64 z.2.1, .int .i64 z.2.2]) (fun z : Int => .int .i64 z) (fun z => InK .i64 z.1 ∧ InK .i64 z.2.1 ∧ InK .i64 z.2.2) fm, boxA b2 25 [.slice none 0 0, .slice none 0 0], boxA b1 25 [.slice pv nv cv, .slice pf nf cf]] [slF (rI3 .i64) pv cv V, slF (rI3 .i64) pf cf F]
   obtain ⟨hi, hK⟩ := hI
   have hul := Ms.usedL_len nv K
   have hKi : K.length ≤ i := by rw [hK]; exact Nat.le_trans Ms.kept_len (by rw [List.length_take]; omega)
   refine r_seq ?_
   refine r_region ?_
   refine r_pv rfl rfl (pv_lss rfl rfl) ?_
   refine r_nil ?_
   refine p_then ?_
   refine r_seq ?_
   refine r_cond rfl (fun h10 => ?_) (fun h10 => ?_)
   ·
    have hat := hg.at (show i < F.length by omega)
    have hv0 := hg.vat (i := ((F.getD i (0, 0, 0)).1).toNat) (by omega)
    have hv1 := hg.vat (i := ((F.getD i (0, 0, 0)).2.1).toNat) (by omega)
    have hv2 := hg.vat (i := ((F.getD i (0, 0, 0)).2.2).toNat) (by omega)
    have hw0 := Ms.fi_rng (V := V) (v := (F.getD i (0, 0, 0)).1) (by omega)
    have hw1 := Ms.fi_rng (V := V) (v := (F.getD i (0, 0, 0)).2.1) (by omega)
    have hw2 := Ms.fi_rng (V := V) (v := (F.getD i (0, 0, 0)).2.2) (by omega)
    refine r_skip ?_
    refine p_then ?_
    refine r_seq ?_
    refine r_block ?_
    refine r_seq ?_
    refine r_region ?_
    refine r_index_fl (x0 := (F.getD i (0, 0, 0))) 1 i rfl Try.underlying23 sz44 rfl rfl rfl (by first | rfl | assumption | (simp; done) | exact Ms.usedL_len _ _ | omega) rfl rfl (gD (d := (0, 0, 0)) (by omega)) (fun b11 o12 hok13 => ?_)
    obtain ⟨hok13x, hok13y, hok13z⟩ := hok13
    replace hok13x := inK_i64.1 hok13x
    replace hok13y := inK_i64.1 hok13y
    replace hok13z := inK_i64.1 hok13z
    refine r_u rfl rfl (vl_load_at_agg (j := 0) 0 ty44 rfl rfl rfl (.take (.take (.take .nil)))) ?_
    refine r_new rfl rfl (ef_alloc zr44 rfl) (fun b14 => ?_)
    refine r_store_box 0 rfl rfl rfl rfl rfl sz44 rfl (.take (.take (.take .nil))) .z ?_
    refine r_nil ?_
    refine p_then ?_
    refine r_seq ?_
    refine r_seq ?_
    refine r_region ?_
    refine r_u rfl rfl (vl_load_box_agg 0 ty44 rfl rfl (.take (.take (.take .nil)))) ?_
    refine r_pv rfl rfl (pv_move rfl) ?_
    refine r_nil ?_
    refine p_then ?_
    refine r_block ?_
    refine r_loopU ?_
    refine u_round ?_
    refine r_seq ?_
    refine r_region ?_
    refine r_pv rfl rfl (pv_lss rfl rfl) ?_
    refine r_nil ?_
    refine p_then ?_
    refine r_seq ?_
    refine r_cond_t rfl rfl ?_
    refine r_skip ?_
    refine p_then ?_
    refine r_seq ?_
    refine r_block ?_
    refine r_seq ?_
    refine r_region ?_
    refine r_pv rfl rfl (pv_move rfl) ?_
    refine r_pv rfl rfl (pv_index_one (i := 0) Try.underlying44 ty3 rfl rfl (by decide) rfl) ?_
    refine r_pv rfl rfl (pv_assign rfl) ?_
    refine r_pv rfl rfl (pv_assign rfl) ?_
    refine r_nil ?_
    refine p_then ?_
    refine r_region ?_
    refine r_pv rfl rfl (pv_move rfl) ?_
    refine r_pv rfl rfl (pv_move rfl) ?_
    refine r_pv rfl rfl (pv_fieldAddr Try.underlying25 rfl sz22 rfl rfl) ?_
    refine r_u rfl rfl (vl_load_box_one 5 ty22 rfl rfl rfl) ?_
    refine r_pv rfl rfl (pv_move rfl) ?_
    refine r_index_fl (x0 := (V.getD (((F.getD i (0, 0, 0)).1).toNat) (0, 0, 0))) 1 (((F.getD i (0, 0, 0)).1).toNat) rfl Try.underlying22 sz42 rfl rfl rfl (by first | rfl | assumption | (simp; done) | exact Ms.usedL_len _ _ | omega) rfl (by omega) (gD (d := (0, 0, 0)) (by omega)) (fun b15 o16 hok17 => ?_)
    obtain ⟨hok17x, hok17y, hok17z⟩ := hok17
    replace hok17x := inK_i64.1 hok17x
    replace hok17y := inK_i64.1 hok17y
    replace hok17z := inK_i64.1 hok17z
    refine r_u rfl rfl (vl_load_at_agg (j := 0) 0 ty42 rfl rfl rfl (.take (.take (.take .nil)))) ?_
    refine r_u rfl rfl (vl_lookup1 (z := 0) (a0 := ((V.getD (((F.getD i (0, 0, 0)).1).toNat) (0, 0, 0)).1, (V.getD (((F.getD i (0, 0, 0)).1).toNat) (0, 0, 0)).2.1, (V.getD (((F.getD i (0, 0, 0)).1).toNat) (0, 0, 0)).2.2)) (v := .int .i64 (Ms.fi V ((F.getD i (0, 0, 0)).1))) 3 rfl ky42 Try.underlying105 zr3 rfl rfl (⟨inK_i64.2 (by omega), inK_i64.2 (by omega), inK_i64.2 (by omega)⟩) (congrArg (Value.int .i64) (hM2.get (v := (F.getD i (0, 0, 0)).1) (by omega)))) ?_
    refine r_pv rfl rfl (pv_indexAddr_arr (i := 0) Try.underlying44 sz3 rfl rfl (by decide) rfl) ?_
    refine r_store_box 0 rfl rfl rfl rfl rfl sz3 rfl (.take .nil) .z ?_
    refine r_nil ?_
    refine p_block ?_
    refine p_then ?_
    refine r_region ?_
    refine r_pv rfl rfl (pv_add (z := 1) rfl rfl (w64 (by decide))) ?_
    refine r_pv rfl rfl (pv_move rfl) ?_
    refine r_nil ?_
    refine p_again ?_
    refine u_round ?_
    refine r_seq ?_
    refine r_region ?_
    refine r_pv rfl rfl (pv_lss rfl rfl) ?_
    refine r_nil ?_
    refine p_then ?_
    refine r_seq ?_
    refine r_cond_t rfl rfl ?_
    refine r_skip ?_
    refine p_then ?_
    refine r_seq ?_
    refine r_block ?_
    refine r_seq ?_
    refine r_region ?_
    refine r_pv rfl rfl (pv_move rfl) ?_
    refine r_pv rfl rfl (pv_index_one (i := 1) Try.underlying44 ty3 rfl rfl (by decide) rfl) ?_
    refine r_pv rfl rfl (pv_assign rfl) ?_
    refine r_pv rfl rfl (pv_assign rfl) ?_
    refine r_nil ?_
    refine p_then ?_
    refine r_region ?_
    refine r_pv rfl rfl (pv_move rfl) ?_
    refine r_pv rfl rfl (pv_move rfl) ?_
    refine r_pv rfl rfl (pv_fieldAddr Try.underlying25 rfl sz22 rfl rfl) ?_
    refine r_u rfl rfl (vl_load_box_one 5 ty22 rfl rfl rfl) ?_
    refine r_pv rfl rfl (pv_move rfl) ?_
    refine r_index_fl (x0 := (V.getD (((F.getD i (0, 0, 0)).2.1).toNat) (0, 0, 0))) 2 (((F.getD i (0, 0, 0)).2.1).toNat) rfl Try.underlying22 sz42 rfl rfl rfl (by first | rfl | assumption | (simp; done) | exact Ms.usedL_len _ _ | omega) rfl (by omega) (gD (d := (0, 0, 0)) (by omega)) (fun b18 o19 hok20 => ?_)
    obtain ⟨hok20x, hok20y, hok20z⟩ := hok20
    replace hok20x := inK_i64.1 hok20x
    replace hok20y := inK_i64.1 hok20y
    replace hok20z := inK_i64.1 hok20z
    refine r_u rfl rfl (vl_load_at_agg (j := 0) 0 ty42 rfl rfl rfl (.take (.take (.take .nil)))) ?_
    refine r_u rfl rfl (vl_lookup1 (z := 0) (a0 := ((V.getD (((F.getD i (0, 0, 0)).2.1).toNat) (0, 0, 0)).1, (V.getD (((F.getD i (0, 0, 0)).2.1).toNat) (0, 0, 0)).2.1, (V.getD (((F.getD i (0, 0, 0)).2.1).toNat) (0, 0, 0)).2.2)) (v := .int .i64 (Ms.fi V ((F.getD i (0, 0, 0)).2.1))) 3 rfl ky42 Try.underlying105 zr3 rfl rfl (⟨inK_i64.2 (by omega), inK_i64.2 (by omega), inK_i64.2 (by omega)⟩) (congrArg (Value.int .i64) (hM2.get (v := (F.getD i (0, 0, 0)).2.1) (by omega)))) ?_
    refine r_pv rfl rfl (pv_indexAddr_arr (i := 1) Try.underlying44 sz3 rfl rfl (by decide) rfl) ?_
    refine r_store_box 0 rfl rfl rfl rfl rfl sz3 rfl (.skip (.take .nil)) .z ?_
    refine r_nil ?_
    refine p_block ?_
    refine p_then ?_
    refine r_region ?_
    refine r_pv rfl rfl (pv_add (z := 2) rfl rfl (w64 (by decide))) ?_
    refine r_pv rfl rfl (pv_move rfl) ?_
    refine r_nil ?_
    refine p_again ?_
    refine u_round ?_
    refine r_seq ?_
    refine r_region ?_
    refine r_pv rfl rfl (pv_lss rfl rfl) ?_
    refine r_nil ?_
    refine p_then ?_
    refine r_seq ?_
    refine r_cond_t rfl rfl ?_
    refine r_skip ?_
    refine p_then ?_
    refine r_seq ?_
    refine r_block ?_
    refine r_seq ?_
    refine r_region ?_
    refine r_pv rfl rfl (pv_move rfl) ?_
    refine r_pv rfl rfl (pv_index_one (i := 2) Try.underlying44 ty3 rfl rfl (by decide) rfl) ?_
    refine r_pv rfl rfl (pv_assign rfl) ?_
    refine r_pv rfl rfl (pv_assign rfl) ?_
    refine r_nil ?_
    refine p_then ?_
    refine r_region ?_
    refine r_pv rfl rfl (pv_move rfl) ?_
    refine r_pv rfl rfl (pv_move rfl) ?_
    refine r_pv rfl rfl (pv_fieldAddr Try.underlying25 rfl sz22 rfl rfl) ?_
    refine r_u rfl rfl (vl_load_box_one 5 ty22 rfl rfl rfl) ?_
    refine r_pv rfl rfl (pv_move rfl) ?_
    refine r_index_fl (x0 := (V.getD (((F.getD i (0, 0, 0)).2.2).toNat) (0, 0, 0))) 3 (((F.getD i (0, 0, 0)).2.2).toNat) rfl Try.underlying22 sz42 rfl rfl rfl (by first | rfl | assumption | (simp; done) | exact Ms.usedL_len _ _ | omega) rfl (by omega) (gD (d := (0, 0, 0)) (by omega)) (fun b21 o22 hok23 => ?_)
    obtain ⟨hok23x, hok23y, hok23z⟩ := hok23
    replace hok23x := inK_i64.1 hok23x
    replace hok23y := inK_i64.1 hok23y
    replace hok23z := inK_i64.1 hok23z
    refine r_u rfl rfl (vl_load_at_agg (j := 0) 0 ty42 rfl rfl rfl (.take (.take (.take .nil)))) ?_
    refine r_u rfl rfl (vl_lookup1 (z := 0) (a0 := ((V.getD (((F.getD i (0, 0, 0)).2.2).toNat) (0, 0, 0)).1, (V.getD (((F.getD i (0, 0, 0)).2.2).toNat) (0, 0, 0)).2.1, (V.getD (((F.getD i (0, 0, 0)).2.2).toNat) (0, 0, 0)).2.2)) (v := .int .i64 (Ms.fi V ((F.getD i (0, 0, 0)).2.2))) 3 rfl ky42 Try.underlying105 zr3 rfl rfl (⟨inK_i64.2 (by omega), inK_i64.2 (by omega), inK_i64.2 (by omega)⟩) (congrArg (Value.int .i64) (hM2.get (v := (F.getD i (0, 0, 0)).2.2) (by omega)))) ?_
    refine r_pv rfl rfl (pv_indexAddr_arr (i := 2) Try.underlying44 sz3 rfl rfl (by decide) rfl) ?_
    refine r_store_box 0 rfl rfl rfl rfl rfl sz3 rfl (.skip (.skip (.take .nil))) .z ?_
    refine r_nil ?_
    refine p_block ?_
    refine p_then ?_
    refine r_region ?_
    refine r_pv rfl rfl (pv_add (z := 3) rfl rfl (w64 (by decide))) ?_
    refine r_pv rfl rfl (pv_move rfl) ?_
    refine r_nil ?_
    refine p_again ?_
    refine u_round ?_
    refine r_seq ?_
    refine r_region ?_
    refine r_pv rfl rfl (pv_lss rfl rfl) ?_
    refine r_nil ?_
    refine p_then ?_
    refine r_seq ?_
    refine r_cond_f rfl rfl ?_
    refine r_exit ?_
    refine p_then_exit ?_
    refine p_then_exit ?_
    refine p_block_here ?_
    refine p_then ?_
    refine r_seq ?_
    refine r_cut (X := Unit) (fun x => True) (fun x => [(95, .bool (decide (((Ms.fi V ((F.getD i (0, 0, 0)).1) = Ms.fi V ((F.getD i (0, 0, 0)).2.1)) ∨ (Ms.fi V ((F.getD i (0, 0, 0)).2.1) = Ms.fi V ((F.getD i (0, 0, 0)).2.2))) ∨ (Ms.fi V ((F.getD i (0, 0, 0)).2.2) = Ms.fi V ((F.getD i (0, 0, 0)).1))))), (64, .bool false), (63, .int .i64 3), (76, .int .i64 3), (75, .pointer (some ⟨b14, 2, none⟩)), (74, .int .i64 (Ms.fi V ((F.getD i (0, 0, 0)).2.2))), (73, .agg #[.int .i64 ((V.getD (((F.getD i (0, 0, 0)).2.2).toNat) (0, 0, 0)).1), .int .i64 ((V.getD (((F.getD i (0, 0, 0)).2.2).toNat) (0, 0, 0)).2.1), .int .i64 ((V.getD (((F.getD i (0, 0, 0)).2.2).toNat) (0, 0, 0)).2.2)]), (72, .pointer (some ⟨b21, o22, none⟩)), (71, .int .i64 ((F.getD i (0, 0, 0)).2.2)), (70, .slice pv nv cv), (69, .pointer (some ⟨b1, 0, none⟩)), (68, .map (some b3)), (67, .int .i64 2), (15, .int .i64 ((F.getD i (0, 0, 0)).2.2)), (14, .int .i64 2), (66, .int .i64 ((F.getD i (0, 0, 0)).2.2)), (65, .int .i64 2), (62, .agg #[.int .i64 ((F.getD i (0, 0, 0)).1), .int .i64 ((F.getD i (0, 0, 0)).2.1), .int .i64 ((F.getD i (0, 0, 0)).2.2)]), (13, .pointer (some ⟨b14, 0, none⟩)), (61, .agg #[.int .i64 ((F.getD i (0, 0, 0)).1), .int .i64 ((F.getD i (0, 0, 0)).2.1), .int .i64 ((F.getD i (0, 0, 0)).2.2)]), (60, .pointer (some ⟨b11, o12, none⟩)), (59, .bool (decide (((i : Nat) : Int) < ((nf : Nat) : Int)))), (11, .slice p (K.length) c), (58, .int .i64 ((i : Nat) : Int)), (57, .int .i64 ((nf : Nat) : Int)), (56, .slice pf nf cf), (10, .slice (some ⟨b9, 0, none⟩) nv nv), (5, .map (some b3)), (3, .int .i64 0), (2, .pointer (some ⟨b2, 0, none⟩)), (1, .pointer (some ⟨b1, 0, none⟩))]) (fun x => [boxA b14 44 [.int .i64 (Ms.fi V ((F.getD i (0, 0, 0)).1)), .int .i64 (Ms.fi V ((F.getD i (0, 0, 0)).2.1)), .int .i64 (Ms.fi V ((F.getD i (0, 0, 0)).2.2))], rowA 44 (rI3 .i64) p c K, rowA 4 rB (some ⟨b9, 0, none⟩) nv (Ms.usedL nv K), mapA b3 (fun z : Int × Int × Int => .agg #[.int .i64 z.1, .int .i64 z.2.1, .int .i64 z.2.2]) (fun z : Int => .int .i64 z) (fun z => InK .i64 z.1 ∧ InK .i64 z.2.1 ∧ InK .i64 z.2.2) fm, boxA b2 25 [.slice none 0 0, .slice none 0 0], boxA b1 25 [.slice pv nv cv, .slice pf nf cf]]) (fun x => [atF b21 o22 [.int .i64 ((V.getD (((F.getD i (0, 0, 0)).2.2).toNat) (0, 0, 0)).1), .int .i64 ((V.getD (((F.getD i (0, 0, 0)).2.2).toNat) (0, 0, 0)).2.1), .int .i64 ((V.getD (((F.getD i (0, 0, 0)).2.2).toNat) (0, 0, 0)).2.2)], atF b18 o19 [.int .i64 ((V.getD (((F.getD i (0, 0, 0)).2.1).toNat) (0, 0, 0)).1), .int .i64 ((V.getD (((F.getD i (0, 0, 0)).2.1).toNat) (0, 0, 0)).2.1), .int .i64 ((V.getD (((F.getD i (0, 0, 0)).2.1).toNat) (0, 0, 0)).2.2)], atF b15 o16 [.int .i64 ((V.getD (((F.getD i (0, 0, 0)).1).toNat) (0, 0, 0)).1), .int .i64 ((V.getD (((F.getD i (0, 0, 0)).1).toNat) (0, 0, 0)).2.1), .int .i64 ((V.getD (((F.getD i (0, 0, 0)).1).toNat) (0, 0, 0)).2.2)], atF b11 o12 [.int .i64 ((F.getD i (0, 0, 0)).1), .int .i64 ((F.getD i (0, 0, 0)).2.1), .int .i64 ((F.getD i (0, 0, 0)).2.2)], slF (rI3 .i64) pv cv V, slF (rI3 .i64) pf cf F]) ?_ ?_
    ·
     refine r_region ?_
     refine r_pv rfl rfl (pv_indexAddr_arr (i := 0) Try.underlying44 sz3 rfl rfl (by decide) rfl) ?_
     refine r_u rfl rfl (vl_load_box_one 0 ty3 rfl rfl rfl) ?_
     refine r_pv rfl rfl (pv_indexAddr_arr (i := 1) Try.underlying44 sz3 rfl rfl (by decide) rfl) ?_
     refine r_u rfl rfl (vl_load_box_one 0 ty3 rfl rfl rfl) ?_
     refine r_pv rfl rfl (pv_eql rfl rfl) ?_
     refine r_pv_dec rfl rfl (pv_move rfl) (fun h24 => ?_) (fun h24 => ?_)
     ·
      refine r_guard_no rfl rfl ?_
      refine r_guard_no rfl rfl ?_
      refine r_guard_no rfl rfl ?_
      refine r_guard_no rfl rfl ?_
      refine r_guard_no rfl rfl ?_
      refine r_pv rfl rfl (pv_pick rfl rfl) ?_
      refine r_pv rfl rfl (pv_move rfl) ?_
      refine r_guard_no rfl rfl ?_
      refine r_guard_no rfl rfl ?_
      refine r_guard_no rfl rfl ?_
      refine r_guard_no rfl rfl ?_
      refine r_guard_no rfl rfl ?_
      refine r_pv rfl rfl (pv_pick rfl rfl) ?_
      refine r_nil ?_
      exact p_cut () (show True from by first | trivial | omega | simp_all) ((.e rfl (congrArg Value.bool (by first | (simp_all; done) | (simp_all; omega) | (simp; omega) | omega)) (.of rfl)) : SubM _ _) (ho := ((.of [0, 0, 0, 0, 0, 0] rfl) : PickO _ _ _)) ((.of [0, 1, 2, 3, 4, 5] rfl) : SelR _ _ _)
     ·
      refine r_pv rfl rfl (pv_indexAddr_arr (i := 1) Try.underlying44 sz3 rfl rfl (by decide) rfl) ?_
      refine r_u rfl rfl (vl_load_box_one 0 ty3 rfl rfl rfl) ?_
      refine r_pv rfl rfl (pv_indexAddr_arr (i := 2) Try.underlying44 sz3 rfl rfl (by decide) rfl) ?_
      refine r_u rfl rfl (vl_load_box_one 0 ty3 rfl rfl rfl) ?_
      refine r_pv rfl rfl (pv_eql rfl rfl) ?_
      refine r_pv rfl rfl (pv_pick rfl rfl) ?_
      refine r_pv_dec rfl rfl (pv_move rfl) (fun h25 => ?_) (fun h25 => ?_)
      ·
       refine r_guard_no rfl rfl ?_
       refine r_guard_no rfl rfl ?_
       refine r_guard_no rfl rfl ?_
       refine r_guard_no rfl rfl ?_
       refine r_guard_no rfl rfl ?_
       refine r_pv rfl rfl (pv_pick rfl rfl) ?_
       refine r_nil ?_
       exact p_cut () (show True from by first | trivial | omega | simp_all) ((.e rfl (congrArg Value.bool (by first | (simp_all; done) | (simp_all; omega) | (simp; omega) | omega)) (.of rfl)) : SubM _ _) (ho := ((.of [0, 0, 0, 0, 0, 0] rfl) : PickO _ _ _)) ((.of [0, 1, 2, 3, 4, 5] rfl) : SelR _ _ _)
      ·
       refine r_pv rfl rfl (pv_indexAddr_arr (i := 2) Try.underlying44 sz3 rfl rfl (by decide) rfl) ?_
       refine r_u rfl rfl (vl_load_box_one 0 ty3 rfl rfl rfl) ?_
       refine r_pv rfl rfl (pv_indexAddr_arr (i := 0) Try.underlying44 sz3 rfl rfl (by decide) rfl) ?_
       refine r_u rfl rfl (vl_load_box_one 0 ty3 rfl rfl rfl) ?_
       refine r_pv rfl rfl (pv_eql rfl rfl) ?_
       refine r_pv rfl rfl (pv_pick rfl rfl) ?_
       refine r_nil ?_
       exact p_cut () (show True from by first | trivial | omega | simp_all) ((.e rfl (congrArg Value.bool (by first | (simp_all; done) | (simp_all; omega) | (simp; omega) | omega)) (.of rfl)) : SubM _ _) (ho := ((.of [0, 0, 0, 0, 0, 0] rfl) : PickO _ _ _)) ((.of [0, 1, 2, 3, 4, 5] rfl) : SelR _ _ _)
    ·
     rintro ⟨⟩ -
     show RunC _ _ _ _ _ [(95, .bool (decide (((Ms.fi V ((F.getD i (0, 0, 0)).1) = Ms.fi V ((F.getD i (0, 0, 0)).2.1)) ∨ (Ms.fi V ((F.getD i (0, 0, 0)).2.1) = Ms.fi V ((F.getD i (0, 0, 0)).2.2))) ∨ (Ms.fi V ((F.getD i (0, 0, 0)).2.2) = Ms.fi V ((F.getD i (0, 0, 0)).1))))), (64, .bool false), (63, .int .i64 3), (76, .int .i64 3), (75, .pointer (some ⟨b14, 2, none⟩)), (74, .int .i64 (Ms.fi V ((F.getD i (0, 0, 0)).2.2))), (73, .agg #[.int .i64 ((V.getD (((F.getD i (0, 0, 0)).2.2).toNat) (0, 0, 0)).1), .int .i64 ((V.getD (((F.getD i (0, 0, 0)).2.2).toNat) (0, 0, 0)).2.1), .int .i64 ((V.getD (((F.getD i (0, 0, 0)).2.2).toNat) (0, 0, 0)).2.2)]), (72, .pointer (some ⟨b21, o22, none⟩)), (71, .int .i64 ((F.getD i (0, 0, 0)).2.2)), (70, .slice pv nv cv), (69, .pointer (some ⟨b1, 0, none⟩)), (68, .map (some b3)), (67, .int .i64 2), (15, .int .i64 ((F.getD i (0, 0, 0)).2.2)), (14, .int .i64 2), (66, .int .i64 ((F.getD i (0, 0, 0)).2.2)), (65, .int .i64 2), (62, .agg #[.int .i64 ((F.getD i (0, 0, 0)).1), .int .i64 ((F.getD i (0, 0, 0)).2.1), .int .i64 ((F.getD i (0, 0, 0)).2.2)]), (13, .pointer (some ⟨b14, 0, none⟩)), (61, .agg #[.int .i64 ((F.getD i (0, 0, 0)).1), .int .i64 ((F.getD i (0, 0, 0)).2.1), .int .i64 ((F.getD i (0, 0, 0)).2.2)]), (60, .pointer (some ⟨b11, o12, none⟩)), (59, .bool (decide (((i : Nat) : Int) < ((nf : Nat) : Int)))), (11, .slice p (K.length) c), (58, .int .i64 ((i : Nat) : Int)), (57, .int .i64 ((nf : Nat) : Int)), (56, .slice pf nf cf), (10, .slice (some ⟨b9, 0, none⟩) nv nv), (5, .map (some b3)), (3, .int .i64 0), (2, .pointer (some ⟨b2, 0, none⟩)), (1, .pointer (some ⟨b1, 0, none⟩))] [boxA b14 44 [.int .i64 (Ms.fi V ((F.getD i (0, 0, 0)).1)), .int .i64 (Ms.fi V ((F.getD i (0, 0, 0)).2.1)), .int .i64 (Ms.fi V ((F.getD i (0, 0, 0)).2.2))], rowA 44 (rI3 .i64) p c K, rowA 4 rB (some ⟨b9, 0, none⟩) nv (Ms.usedL nv K), mapA b3 (fun z : Int × Int × Int => .agg #[.int .i64 z.1, .int .i64 z.2.1, .int .i64 z.2.2]) (fun z : Int => .int .i64 z) (fun z => InK .i64 z.1 ∧ InK .i64 z.2.1 ∧ InK .i64 z.2.2) fm, boxA b2 25 [.slice none 0 0, .slice none 0 0], boxA b1 25 [.slice pv nv cv, .slice pf nf cf]] [atF b21 o22 [.int .i64 ((V.getD (((F.getD i (0, 0, 0)).2.2).toNat) (0, 0, 0)).1), .int .i64 ((V.getD (((F.getD i (0, 0, 0)).2.2).toNat) (0, 0, 0)).2.1), .int .i64 ((V.getD (((F.getD i (0, 0, 0)).2.2).toNat) (0, 0, 0)).2.2)], atF b18 o19 [.int .i64 ((V.getD (((F.getD i (0, 0, 0)).2.1).toNat) (0, 0, 0)).1), .int .i64 ((V.getD (((F.getD i (0, 0, 0)).2.1).toNat) (0, 0, 0)).2.1), .int .i64 ((V.getD (((F.getD i (0, 0, 0)).2.1).toNat) (0, 0, 0)).2.2)], atF b15 o16 [.int .i64 ((V.getD (((F.getD i (0, 0, 0)).1).toNat) (0, 0, 0)).1), .int .i64 ((V.getD (((F.getD i (0, 0, 0)).1).toNat) (0, 0, 0)).2.1), .int .i64 ((V.getD (((F.getD i (0, 0, 0)).1).toNat) (0, 0, 0)).2.2)], atF b11 o12 [.int .i64 ((F.getD i (0, 0, 0)).1), .int .i64 ((F.getD i (0, 0, 0)).2.1), .int .i64 ((F.getD i (0, 0, 0)).2.2)], slF (rI3 .i64) pv cv V, slF (rI3 .i64) pf cf F]
     refine r_cond rfl (fun hdeg => ?_) (fun hdeg => ?_)
     ·
      refine r_exit ?_
      refine p_then_exit ?_
      refine p_block_here ?_
      refine p_then ?_
      refine r_region ?_
      refine r_pv rfl rfl (pv_add (z := (((i + 1) : Nat) : Int)) rfl rfl (w64 (by omega))) ?_
      refine r_pv rfl rfl (pv_move rfl) ?_
      refine r_nil ?_
      refine p_next ((i + 1), p, c, K) (show (i + 1) ≤ nf ∧ K = Ms.keptF V (F.take (i + 1)) from by exact ⟨by omega, by rw [Ms.kept_take (by omega), if_pos (show Ms.deg (Ms.wf V (F.getD i (0, 0, 0))) = true from decide_eq_true (by simpa [Ms.wf, or_assoc] using hdeg)), List.append_nil, hK]⟩) (by show nf - (i + 1) < nf - i; omega) ((.of rfl) : SubM _ _) (ho := ((.of [1, 1, 1, 1, 1] rfl) : PickO _ _ _)) ((.of [4, 5] rfl) : SelR _ _ _)
     ·
      refine r_skip ?_
      refine p_then ?_
      refine r_seq ?_
      refine r_region ?_
      refine r_pv rfl rfl (pv_move rfl) ?_
      refine r_u rfl rfl (vl_load_box_agg 0 ty44 rfl rfl (.take (.take (.take .nil)))) ?_
      refine r_ef0 rfl rfl (ef_buildSlice_fl (enc := fun z : Int × Int × Int => [.int .i64 z.1, .int .i64 z.2.1, .int .i64 z.2.2]) (ok := fun z => InK .i64 z.1 ∧ InK .i64 z.2.1 ∧ InK .i64 z.2.2) (h1 := fun _ => rfl) (h2 := fun _ => rfl) (k := 1) Try.underlying23 inf44 rfl (by decide) (by decide) (by decide) (.c (x := (Ms.fi V ((F.getD i (0, 0, 0)).1), Ms.fi V ((F.getD i (0, 0, 0)).2.1), Ms.fi V ((F.getD i (0, 0, 0)).2.2))) rfl rfl (fun _ _ => by exact ⟨inK_i64.2 (by first | omega | decide | (dsimp only; omega)), inK_i64.2 (by first | omega | decide | (dsimp only; omega)), inK_i64.2 (by first | omega | decide | (dsimp only; omega))⟩) .n)) (fun b26 _ => ?_)
      refine r_freeze 0 rfl .z ?_
      refine r_ef1 2 rfl rfl rfl (ef_append 0 rfl Try.underlying23 inf44 (by decide) rfl rfl (by first | rfl | assumption | (simp; done) | exact Ms.usedL_len _ _ | omega) rfl (by first | rfl | assumption | (simp; done) | exact Ms.usedL_len _ _ | omega) (by omega) (by omega)) (fun _ => (.s (.s .z))) ?_
      rintro ⟨p27, c28⟩ -
      dsimp only [List.append_eq, List.nil_append, List.cons_append]
      refine r_pv rfl rfl (pv_assign rfl) ?_
      refine r_nil ?_
      refine p_then ?_
      refine r_seq ?_
      refine r_region ?_
      refine r_u rfl rfl (vl_load_box_agg 1 ty44 rfl rfl (.take (.take (.take .nil)))) ?_
      refine r_pv rfl rfl (pv_move rfl) ?_
      refine r_nil ?_
      refine p_then ?_
      refine r_block ?_
      refine r_loopU ?_
      refine u_round ?_
      refine r_seq ?_
      refine r_region ?_
      refine r_pv rfl rfl (pv_lss rfl rfl) ?_
      refine r_nil ?_
      refine p_then ?_
      refine r_seq ?_
      refine r_cond_t rfl rfl ?_
      refine r_skip ?_
      refine p_then ?_
      refine r_seq ?_
      refine r_block ?_
      refine r_seq ?_
      refine r_region ?_
      refine r_pv rfl rfl (pv_index_one (i := 0) Try.underlying44 ty3 rfl rfl (by decide) rfl) ?_
      refine r_pv rfl rfl (pv_assign rfl) ?_
      refine r_nil ?_
      refine p_then ?_
      refine r_region ?_
      refine r_pv rfl rfl (pv_move rfl) ?_
      refine r_pv rfl rfl (pv_move rfl) ?_
      refine r_pv rfl rfl (pv_index_sl (j := (Ms.fi V ((F.getD i (0, 0, 0)).1)).toNat) Try.underlying106 sz4 rfl rfl (by omega) (by omega)) ?_
      refine r_ef1 3 rfl rfl rfl (ef_store_row (j := (Ms.fi V ((F.getD i (0, 0, 0)).1)).toNat) (x0 := true) (γ0 := ()) rfl rfl (by first | omega | (rw [List.length_map]; omega) | (simp only [List.length_set]; omega) | (simp; omega)) rfl rfl sz4 (fun _ _ => by trivial)) (fun _ => (.s (.s (.s .z)))) (fun _ _ => ?_)
      refine r_nil ?_
      refine p_block ?_
      refine p_then ?_
      refine r_region ?_
      refine r_pv rfl rfl (pv_add (z := 1) rfl rfl (w64 (by decide))) ?_
      refine r_pv rfl rfl (pv_move rfl) ?_
      refine r_nil ?_
      refine p_again ?_
      refine u_round ?_
      refine r_seq ?_
      refine r_region ?_
      refine r_pv rfl rfl (pv_lss rfl rfl) ?_
      refine r_nil ?_
      refine p_then ?_
      refine r_seq ?_
      refine r_cond_t rfl rfl ?_
      refine r_skip ?_
      refine p_then ?_
      refine r_seq ?_
      refine r_block ?_
      refine r_seq ?_
      refine r_region ?_
      refine r_pv rfl rfl (pv_index_one (i := 1) Try.underlying44 ty3 rfl rfl (by decide) rfl) ?_
      refine r_pv rfl rfl (pv_assign rfl) ?_
      refine r_nil ?_
      refine p_then ?_
      refine r_region ?_
      refine r_pv rfl rfl (pv_move rfl) ?_
      refine r_pv rfl rfl (pv_move rfl) ?_
      refine r_pv rfl rfl (pv_index_sl (j := (Ms.fi V ((F.getD i (0, 0, 0)).2.1)).toNat) Try.underlying106 sz4 rfl rfl (by omega) (by omega)) ?_
      refine r_ef1 3 rfl rfl rfl (ef_store_row (j := (Ms.fi V ((F.getD i (0, 0, 0)).2.1)).toNat) (x0 := true) (γ0 := ()) rfl rfl (by first | omega | (rw [List.length_map]; omega) | (simp only [List.length_set]; omega) | (simp; omega)) rfl rfl sz4 (fun _ _ => by trivial)) (fun _ => (.s (.s (.s .z)))) (fun _ _ => ?_)
      refine r_nil ?_
      refine p_block ?_
      refine p_then ?_
      refine r_region ?_
      refine r_pv rfl rfl (pv_add (z := 2) rfl rfl (w64 (by decide))) ?_
      refine r_pv rfl rfl (pv_move rfl) ?_
      refine r_nil ?_
      refine p_again ?_
      refine u_round ?_
      refine r_seq ?_
      refine r_region ?_
      refine r_pv rfl rfl (pv_lss rfl rfl) ?_
      refine r_nil ?_
      refine p_then ?_
      refine r_seq ?_
      refine r_cond_t rfl rfl ?_
      refine r_skip ?_
      refine p_then ?_
      refine r_seq ?_
      refine r_block ?_
      refine r_seq ?_
      refine r_region ?_
      refine r_pv rfl rfl (pv_index_one (i := 2) Try.underlying44 ty3 rfl rfl (by decide) rfl) ?_
      refine r_pv rfl rfl (pv_assign rfl) ?_
      refine r_nil ?_
      refine p_then ?_
      refine r_region ?_
      refine r_pv rfl rfl (pv_move rfl) ?_
      refine r_pv rfl rfl (pv_move rfl) ?_
      refine r_pv rfl rfl (pv_index_sl (j := (Ms.fi V ((F.getD i (0, 0, 0)).2.2)).toNat) Try.underlying106 sz4 rfl rfl (by omega) (by omega)) ?_
      refine r_ef1 3 rfl rfl rfl (ef_store_row (j := (Ms.fi V ((F.getD i (0, 0, 0)).2.2)).toNat) (x0 := true) (γ0 := ()) rfl rfl (by first | omega | (rw [List.length_map]; omega) | (simp only [List.length_set]; omega) | (simp; omega)) rfl rfl sz4 (fun _ _ => by trivial)) (fun _ => (.s (.s (.s .z)))) (fun _ _ => ?_)
      refine r_nil ?_
      refine p_block ?_
      refine p_then ?_
      refine r_region ?_
      refine r_pv rfl rfl (pv_add (z := 3) rfl rfl (w64 (by decide))) ?_
      refine r_pv rfl rfl (pv_move rfl) ?_
      refine r_nil ?_
      refine p_again ?_
      refine u_round ?_
      refine r_seq ?_
      refine r_region ?_
      refine r_pv rfl rfl (pv_lss rfl rfl) ?_
      refine r_nil ?_
      refine p_then ?_
      refine r_seq ?_
      refine r_cond_f rfl rfl ?_
      refine r_exit ?_
      refine p_then_exit ?_
      refine p_then_exit ?_
      refine p_block_here ?_
      refine p_block ?_
      refine p_then ?_
      refine r_region ?_
      refine r_pv rfl rfl (pv_add (z := (((i + 1) : Nat) : Int)) rfl rfl (w64 (by omega))) ?_
      refine r_pv rfl rfl (pv_move rfl) ?_
      refine r_nil ?_
      refine p_next ((i + 1), p27, c28, (K ++ ([(Ms.fi V ((F.getD i (0, 0, 0)).1), Ms.fi V ((F.getD i (0, 0, 0)).2.1), Ms.fi V ((F.getD i (0, 0, 0)).2.2))]))) (show (i + 1) ≤ nf ∧ (K ++ ([(Ms.fi V ((F.getD i (0, 0, 0)).1), Ms.fi V ((F.getD i (0, 0, 0)).2.1), Ms.fi V ((F.getD i (0, 0, 0)).2.2))])) = Ms.keptF V (F.take (i + 1)) from by exact ⟨by omega, by rw [Ms.kept_take (by omega), if_neg (by rw [Ms.deg_iff.2 (by simp only [Ms.wf]; omega)]; decide), hK]; rfl⟩) (by show nf - (i + 1) < nf - i; omega) ((.e rfl (by simp) (.of rfl)) : SubM _ _) (ho := ((.c (i := 2) rfl (.e (i := 2) rfl (by first | rfl | exact congrArg (rowA 4 rB _ _) (Ms.set3_used (g := Ms.wf V (F.getD i (0, 0, 0))) hw0.1 hw1.1 hw2.1)) (.of [2, 2, 2] rfl))) : PickO _ _ _)) ((.of [5, 6] rfl) : SelR _ _ _)
   ·
    refine r_exit ?_
    refine p_then_exit ?_
    refine p_then_exit ?_
    refine p_block_here ?_
    refine p_then ?_
    refine r_seq ?_
    have hKf : K = Ms.keptF V F := by rw [hK, List.take_of_length_le (by omega)]
    have hKl : K.length ≤ nf := by rw [hKf, ← hnf]; exact Ms.kept_len
    refine c_freeze 0 rfl .z ?_
    refine c_freeze 1 rfl (.s .z) ?_
    refine r_region ?_
    refine r_new rfl rfl (ef_alloc zr25 rfl) (fun b29 => ?_)
    refine r_nil ?_
    refine p_then ?_
    refine r_seq ?_
    refine r_region ?_
    refine r_pv rfl rfl (pv_fieldAddr Try.underlying25 rfl sz22 rfl rfl) ?_
    refine r_u rfl rfl (vl_load_box_one 5 ty22 rfl rfl rfl) ?_
    refine r_pv rfl rfl (pv_len Try.underlying22 rfl) ?_
    refine r_ef0 rfl rfl (ef_make (r := rI .i64) (k := nv) (x0 := 0) (γ0 := ()) Try.underlying50 inf3 rfl rfl rfl rfl (by omega) (by omega) rfl (fun _ _ => by exact inK_i64.2 (by decide)) (by decide)) (fun b30 _ => ?_)
    refine r_pv rfl rfl (pv_assign rfl) ?_
    refine r_nil ?_
    refine p_then ?_
    refine r_seq ?_
    refine r_seq ?_
    refine c_nilrow 42 (rI3 .i64) ?_
    refine r_region ?_
    refine r_pv rfl rfl (pv_fieldAddr Try.underlying25 rfl sz22 rfl rfl) ?_
    refine r_u rfl rfl (vl_load_box_one 7 ty22 rfl rfl rfl) ?_
    refine r_pv rfl rfl (pv_len Try.underlying22 rfl) ?_
    refine r_pv rfl rfl (pv_move rfl) ?_
    refine r_nil ?_
    refine p_then ?_
    refine r_block ?_
    refine r_loop (X := Nat × (Option Addr) × Nat × (List Int) × (List (Int × Int × Int))) (fun x : Nat × (Option Addr) × Nat × (List Int) × (List (Int × Int × Int)) => x.1 ≤ nv ∧ Ms.Names K nv x.1 x.2.2.2.1 ∧ x.2.2.2.2 = Ms.pickV V K x.1) (fun x => [(116, .int .i64 ((x.1 : Nat) : Int)), (115, .int .i64 ((nv : Nat) : Int)), (114, .slice pv nv cv), (19, .slice (some ⟨b30, 0, none⟩) nv nv), (18, .pointer (some ⟨b29, 0, none⟩)), (11, .slice p (K.length) c), (10, .slice (some ⟨b9, 0, none⟩) nv nv), (3, .int .i64 0), (2, .pointer (some ⟨b2, 0, none⟩))]) (fun x => [rowA 42 (rI3 .i64) (x.2.1) (x.2.2.1) (x.2.2.2.2), rowA 3 (rI .i64) (some ⟨b30, 0, none⟩) nv (x.2.2.2.1), boxA b29 25 [.slice (x.2.1) (x.2.2.2.2.length) (x.2.2.1), .slice none 0 0], mapA b3 (fun z : Int × Int × Int => .agg #[.int .i64 z.1, .int .i64 z.2.1, .int .i64 z.2.2]) (fun z : Int => .int .i64 z) (fun z => InK .i64 z.1 ∧ InK .i64 z.2.1 ∧ InK .i64 z.2.2) fm, boxA b2 25 [.slice none 0 0, .slice none 0 0], boxA b1 25 [.slice pv nv cv, .slice pf nf cf]]) (fun x => [slF rB (some ⟨b9, 0, none⟩) nv (Ms.usedL nv K), slF (rI3 .i64) p c K, slF (rI3 .i64) pv cv V, slF (rI3 .i64) pf cf F]) (fun x : Nat × (Option Addr) × Nat × (List Int) × (List (Int × Int × Int)) => nv - x.1) (0, none, 0, List.replicate nv 0, ([] : List (Int × Int × Int))) (show 0 ≤ nv ∧ Ms.Names K nv 0 (List.replicate nv 0) ∧ ([] : List (Int × Int × Int)) = Ms.pickV V K 0 from by exact ⟨Nat.zero_le _, Ms.Names.start K nv, rfl⟩) ((.e rfl (by first | rfl | (congr 1; omega) | simp_all) (.of rfl)) : SubM _ _) (ho := ((.e (i := 0) rfl (by first | rfl | (congr 1; omega) | simp_all) (.c (i := 0) rfl (.e (i := 0) rfl (by first | rfl | (congr 1; omega) | simp_all) (.of [2, 2, 2] rfl)))) : PickO _ _ _)) ((.of [0, 1, 2, 3] rfl) : SelR _ _ _) ?_
    rintro ⟨i, p5, c5, N, W⟩ hI
    replace hI : i ≤ nv ∧ Ms.Names K nv i N ∧ W = Ms.pickV V K i := hI
    show RunC _ _ _ _ _ [(116, .int .i64 ((i : Nat) : Int)), (115, .int .i64 ((nv : Nat) : Int)), (114, .slice pv nv cv), (19, .slice (some ⟨b30, 0, none⟩) nv nv), (18, .pointer (some ⟨b29, 0, none⟩)), (11, .slice p (K.length) c), (10, .slice (some ⟨b9, 0, none⟩) nv nv), (3, .int .i64 0), (2, .pointer (some ⟨b2, 0, none⟩))] [rowA 42 (rI3 .i64) p5 c5 W, rowA 3 (rI .i64) (some ⟨b30, 0, none⟩) nv N, boxA b29 25 [.slice p5 (W.length) c5, .slice none 0 0], mapA b3 (fun z : Int × Int × Int => .agg #[.int .i64 z.1, .int .i64 z.2.1, .int .i64 z.2.2]) (fun z : Int => .int .i64 z) (fun z => InK .i64 z.1 ∧ InK .i64 z.2.1 ∧ InK .i64 z.2.2) fm, boxA b2 25 [.slice none 0 0, .slice none 0 0], boxA b1 25 [.slice pv nv cv, .slice pf nf cf]] [slF rB (some ⟨b9, 0, none⟩) nv (Ms.usedL nv K), slF (rI3 .i64) p c K, slF (rI3 .i64) pv cv V, slF (rI3 .i64) pf cf F]
    obtain ⟨hi, hN, hW⟩ := hI
    have hul := Ms.usedL_len nv K
    have hWl : W.length = Ms.rank K i := by rw [hW]; exact Ms.pickV_len _ _ _
    have hNl := hN.len
    have hWi := Ms.rank_le K i
    refine r_seq ?_
    refine r_region ?_
    refine r_pv rfl rfl (pv_lss rfl rfl) ?_
    refine r_nil ?_
    refine p_then ?_
    refine r_seq ?_
    refine r_cond rfl (fun h31 => ?_) (fun h31 => ?_)
    ·
     refine r_skip ?_
     refine p_then ?_
     refine r_seq ?_
     refine r_block ?_
     refine r_seq ?_
     refine r_region ?_
     refine r_pv rfl rfl (pv_move rfl) ?_
     refine r_index_fl (x0 := (V.getD i (0, 0, 0))) 2 i rfl Try.underlying22 sz42 rfl rfl rfl (by first | rfl | assumption | (simp; done) | exact Ms.usedL_len _ _ | omega) rfl rfl (gD (d := (0, 0, 0)) (by omega)) (fun b32 o33 hok34 => ?_)
     obtain ⟨hok34x, hok34y, hok34z⟩ := hok34
     replace hok34x := inK_i64.1 hok34x
     replace hok34y := inK_i64.1 hok34y
     replace hok34z := inK_i64.1 hok34z
     refine r_u rfl rfl (vl_load_at_agg (j := 0) 0 ty42 rfl rfl rfl (.take (.take (.take .nil)))) ?_
     refine r_new rfl rfl (ef_alloc zr42 rfl) (fun b35 => ?_)
     refine r_pv rfl rfl (pv_assign rfl) ?_
     refine r_store_box 0 rfl rfl rfl rfl rfl sz42 rfl (.take (.take (.take .nil))) .z ?_
     refine r_nil ?_
     refine p_then ?_
     refine r_seq ?_
     refine r_region ?_
     refine r_pv rfl rfl (pv_move rfl) ?_
     refine r_pv rfl rfl (pv_move rfl) ?_
     refine r_index_fl (x0 := ((Ms.usedL nv K).getD i false)) 1 i rfl Try.underlying106 sz4 rfl rfl rfl (by first | rfl | assumption | (simp; done) | exact Ms.usedL_len _ _ | omega) rfl rfl (gD (d := false) (by omega)) (fun b36 o37 hok38 => ?_)
     refine r_u rfl rfl (vl_load_at_one (j := 0) 0 ty4 rfl rfl rfl rfl) ?_
     refine r_nil ?_
     refine p_then ?_
     refine r_condb rfl (fun hus => ?_) (fun hus => ?_)
     ·
      refine r_seq ?_
      refine r_region ?_
      refine r_pv rfl rfl (pv_move rfl) ?_
      refine r_pv rfl rfl (pv_move rfl) ?_
      refine r_pv rfl rfl (pv_fieldAddr Try.underlying25 rfl sz22 rfl rfl) ?_
      refine r_u rfl rfl (vl_load_box_one 3 ty22 rfl rfl rfl) ?_
      refine r_pv rfl rfl (pv_len Try.underlying22 rfl) ?_
      refine r_pv rfl rfl (pv_index_sl (j := i) Try.underlying50 sz3 rfl rfl rfl (by omega)) ?_
      refine r_ef1 2 rfl rfl rfl (ef_store_row (j := i) (x0 := ((W.length : Nat) : Int)) (γ0 := ()) rfl rfl (by first | omega | (rw [List.length_map]; omega) | (simp only [List.length_set]; omega) | (simp; omega)) rfl rfl sz3 (fun _ _ => by exact inK_i64.2 (by omega))) (fun _ => (.s (.s .z))) (fun _ _ => ?_)
      refine r_nil ?_
      refine p_then ?_
      refine r_region ?_
      refine r_pv rfl rfl (pv_fieldAddr Try.underlying25 rfl sz22 rfl rfl) ?_
      refine r_u rfl rfl (vl_load_box_one 3 ty22 rfl rfl rfl) ?_
      refine r_u rfl rfl (vl_load_box_agg 0 ty42 rfl rfl (.take (.take (.take .nil)))) ?_
      refine r_ef0 rfl rfl (ef_buildSlice_fl (enc := fun z : Int × Int × Int => [.int .i64 z.1, .int .i64 z.2.1, .int .i64 z.2.2]) (ok := fun z => InK .i64 z.1 ∧ InK .i64 z.2.1 ∧ InK .i64 z.2.2) (h1 := fun _ => rfl) (h2 := fun _ => rfl) (k := 1) Try.underlying22 inf42 rfl (by decide) (by decide) (by decide) (.c (x := ((V.getD i (0, 0, 0)).1, (V.getD i (0, 0, 0)).2.1, (V.getD i (0, 0, 0)).2.2)) rfl rfl (fun _ _ => by exact ⟨inK_i64.2 (by first | omega | decide | (dsimp only; omega)), inK_i64.2 (by first | omega | decide | (dsimp only; omega)), inK_i64.2 (by first | omega | decide | (dsimp only; omega))⟩) .n)) (fun b39 _ => ?_)
      refine r_freeze 0 rfl .z ?_
      refine r_ef1 2 rfl rfl rfl (ef_append 0 rfl Try.underlying22 inf42 (by decide) rfl rfl (by first | rfl | assumption | (simp; done) | exact Ms.usedL_len _ _ | omega) rfl (by first | rfl | assumption | (simp; done) | exact Ms.usedL_len _ _ | omega) (by omega) (by omega)) (fun _ => (.s (.s .z))) ?_
      rintro ⟨p40, c41⟩ -
      dsimp only [List.append_eq, List.nil_append, List.cons_append]
      refine r_pv rfl rfl (pv_fieldAddr Try.underlying25 rfl sz22 rfl rfl) ?_
      refine r_store_box 4 rfl rfl rfl rfl rfl sz22 rfl (.take .nil) (.s (.s (.s (.s .z)))) ?_
      refine r_nil ?_
      refine p_block ?_
      refine p_then ?_
      refine r_region ?_
      refine r_pv rfl rfl (pv_add (z := (((i + 1) : Nat) : Int)) rfl rfl (w64 (by omega))) ?_
      refine r_pv rfl rfl (pv_move rfl) ?_
      refine r_nil ?_
      refine p_next ((i + 1), p40, c41, (N.set i ((W.length : Nat) : Int)), (W ++ ([((V.getD i (0, 0, 0)).1, (V.getD i (0, 0, 0)).2.1, (V.getD i (0, 0, 0)).2.2)]))) (show (i + 1) ≤ nv ∧ Ms.Names K nv (i + 1) (N.set i ((W.length : Nat) : Int)) ∧ (W ++ ([((V.getD i (0, 0, 0)).1, (V.getD i (0, 0, 0)).2.1, (V.getD i (0, 0, 0)).2.2)])) = Ms.pickV V K (i + 1) from by exact ⟨by omega, by rw [hWl]; exact hN.hit (by omega), by rw [Ms.pickV_succ, if_pos (by rw [← Ms.usedL_get (n := nv) (by omega)]; exact hus), hW]⟩) (by show nv - (i + 1) < nv - i; omega) ((.of rfl) : SubM _ _) (ho := ((.c (i := 2) rfl (.c (i := 2) rfl (.e (i := 2) rfl (by first | rfl | (congr 1; omega) | simp_all) (.of [2, 2, 2] rfl)))) : PickO _ _ _)) ((.of [3, 4, 5, 6] rfl) : SelR _ _ _)
     ·
      refine r_skip ?_
      refine p_block ?_
      refine p_then ?_
      refine r_region ?_
      refine r_pv rfl rfl (pv_add (z := (((i + 1) : Nat) : Int)) rfl rfl (w64 (by omega))) ?_
      refine r_pv rfl rfl (pv_move rfl) ?_
      refine r_nil ?_
      refine p_next ((i + 1), p5, c5, N, W) (show (i + 1) ≤ nv ∧ Ms.Names K nv (i + 1) N ∧ W = Ms.pickV V K (i + 1) from by exact ⟨by omega, hN.miss (by rw [← Ms.usedL_get (n := nv) (by omega)]; simpa using hus), by rw [Ms.pickV_succ, if_neg (by rw [← Ms.usedL_get (n := nv) (by omega)]; simpa using hus), List.append_nil, hW]⟩) (by show nv - (i + 1) < nv - i; omega) ((.of rfl) : SubM _ _) (ho := ((.of [1, 1, 1, 1, 1, 1] rfl) : PickO _ _ _)) ((.of [2, 3, 4, 5] rfl) : SelR _ _ _)
    ·
     refine r_exit ?_
     refine p_then_exit ?_
     refine p_then_exit ?_
     refine p_block_here ?_
     refine p_then ?_
     refine r_seq ?_
     refine r_seq ?_
     have hNn : Ms.Names K nv nv N := by have h9 : i = nv := (by omega); rw [h9] at hN; exact hN
     have hWn : W = Ms.pickV V K nv := by have h9 : i = nv := (by omega); rw [h9] at hW; exact hW
     refine c_freeze 0 rfl .z ?_
     refine c_freeze 1 rfl (.s .z) ?_
     refine c_nilrow 44 (rI3 .i64) ?_
     refine r_region ?_
     refine r_pv rfl rfl (pv_move rfl) ?_
     refine r_pv rfl rfl (pv_len Try.underlying23 rfl) ?_
     refine r_pv rfl rfl (pv_move rfl) ?_
     refine r_nil ?_
     refine p_then ?_
     refine r_block ?_
     refine r_loop (X := Nat × (Option Addr) × Nat × (List (Int × Int × Int))) (fun x : Nat × (Option Addr) × Nat × (List (Int × Int × Int)) => x.1 ≤ K.length ∧ x.2.2.2 = (K.take x.1).map (Ms.rk K)) (fun x => [(140, .int .i64 ((x.1 : Nat) : Int)), (139, .int .i64 ((K.length : Nat) : Int)), (138, .slice p (K.length) c), (19, .slice (some ⟨b30, 0, none⟩) nv nv), (18, .pointer (some ⟨b29, 0, none⟩)), (3, .int .i64 0), (2, .pointer (some ⟨b2, 0, none⟩))]) (fun x => [rowA 44 (rI3 .i64) (x.2.1) (x.2.2.1) (x.2.2.2), boxA b29 25 [.slice p5 (W.length) c5, .slice (x.2.1) (x.2.2.2.length) (x.2.2.1)], mapA b3 (fun z : Int × Int × Int => .agg #[.int .i64 z.1, .int .i64 z.2.1, .int .i64 z.2.2]) (fun z : Int => .int .i64 z) (fun z => InK .i64 z.1 ∧ InK .i64 z.2.1 ∧ InK .i64 z.2.2) fm, boxA b2 25 [.slice none 0 0, .slice none 0 0], boxA b1 25 [.slice pv nv cv, .slice pf nf cf]]) (fun x => [slF (rI .i64) (some ⟨b30, 0, none⟩) nv N, slF (rI3 .i64) p5 c5 W, slF rB (some ⟨b9, 0, none⟩) nv (Ms.usedL nv K), slF (rI3 .i64) p c K, slF (rI3 .i64) pv cv V, slF (rI3 .i64) pf cf F]) (fun x : Nat × (Option Addr) × Nat × (List (Int × Int × Int)) => K.length - x.1) (0, none, 0, ([] : List (Int × Int × Int))) (show 0 ≤ K.length ∧ ([] : List (Int × Int × Int)) = (K.take 0).map (Ms.rk K) from by exact ⟨Nat.zero_le _, rfl⟩) ((.e rfl (by first | rfl | (congr 1; omega) | simp_all) (.of rfl)) : SubM _ _) (ho := ((.e (i := 0) rfl (by first | rfl | (congr 1; omega) | simp_all) (.e (i := 2) rfl (by first | rfl | (congr 1; omega) | simp_all) (.of [2, 2, 2] rfl))) : PickO _ _ _)) ((.of [0, 1, 2, 3, 4, 5] rfl) : SelR _ _ _) ?_
     rintro ⟨i, p6, c6, A⟩ hI
     replace hI : i ≤ K.length ∧ A = (K.take i).map (Ms.rk K) := hI
     show RunC _ _ _ _ _ [(140, .int .i64 ((i : Nat) : Int)), (139, .int .i64 ((K.length : Nat) : Int)), (138, .slice p (K.length) c), (19, .slice (some ⟨b30, 0, none⟩) nv nv), (18, .pointer (some ⟨b29, 0, none⟩)), (3, .int .i64 0), (2, .pointer (some ⟨b2, 0, none⟩))] [rowA 44 (rI3 .i64) p6 c6 A, boxA b29 25 [.slice p5 (W.length) c5, .slice p6 (A.length) c6], mapA b3 (fun z : Int × Int × Int => .agg #[.int .i64 z.1, .int .i64 z.2.1, .int .i64 z.2.2]) (fun z : Int => .int .i64 z) (fun z => InK .i64 z.1 ∧ InK .i64 z.2.1 ∧ InK .i64 z.2.2) fm, boxA b2 25 [.slice none 0 0, .slice none 0 0], boxA b1 25 [.slice pv nv cv, .slice pf nf cf]] [slF (rI .i64) (some ⟨b30, 0, none⟩) nv N, slF (rI3 .i64) p5 c5 W, slF rB (some ⟨b9, 0, none⟩) nv (Ms.usedL nv K), slF (rI3 .i64) p c K, slF (rI3 .i64) pv cv V, slF (rI3 .i64) pf cf F]
     obtain ⟨hi, hA⟩ := hI
     have hAl : A.length ≤ nf := by rw [hA, List.length_map, List.length_take]; omega
     refine r_seq ?_
     refine r_region ?_
     refine r_pv rfl rfl (pv_lss rfl rfl) ?_
     refine r_nil ?_
     refine p_then ?_
     refine r_seq ?_
     refine r_cond rfl (fun h42 => ?_) (fun h42 => ?_)
     ·
      have hkm := Ms.kept_mem hg (f := K.getD i (0, 0, 0)) (by rw [← hKf]; exact Ms.getD_mem _ (by omega))
      refine r_skip ?_
      refine p_then ?_
      refine r_seq ?_
      refine r_block ?_
      refine r_seq ?_
      refine r_region ?_
      refine r_index_fl (x0 := (K.getD i (0, 0, 0))) 3 i rfl Try.underlying23 sz44 rfl rfl rfl (by first | rfl | assumption | (simp; done) | exact Ms.usedL_len _ _ | omega) rfl rfl (gD (d := (0, 0, 0)) (by omega)) (fun b43 o44 hok45 => ?_)
      obtain ⟨hok45x, hok45y, hok45z⟩ := hok45
      replace hok45x := inK_i64.1 hok45x
      replace hok45y := inK_i64.1 hok45y
      replace hok45z := inK_i64.1 hok45z
      refine r_u rfl rfl (vl_load_at_agg (j := 0) 0 ty44 rfl rfl rfl (.take (.take (.take .nil)))) ?_
      refine r_new rfl rfl (ef_alloc zr44 rfl) (fun b46 => ?_)
      refine r_store_box 0 rfl rfl rfl rfl rfl sz44 rfl (.take (.take (.take .nil))) .z ?_
      refine r_nil ?_
      refine p_then ?_
      refine r_weakO (.c (i := 1) rfl (.c (i := 1) rfl (.c (i := 0) rfl (.c (i := 0) rfl (.c (i := 0) rfl (.c (i := 0) rfl .n)))))) ?_
      refine r_draw (OW := [rowA 44 (rI3 .i64) p6 c6 A, boxA b29 25 [.slice p5 (W.length) c5, .slice p6 (A.length) c6]]) (O := [boxA b46 44 [.int .i64 ((K.getD i (0, 0, 0)).1), .int .i64 ((K.getD i (0, 0, 0)).2.1), .int .i64 ((K.getD i (0, 0, 0)).2.2)], mapA b3 (fun z : Int × Int × Int => .agg #[.int .i64 z.1, .int .i64 z.2.1, .int .i64 z.2.2]) (fun z : Int => .int .i64 z) (fun z => InK .i64 z.1 ∧ InK .i64 z.2.1 ∧ InK .i64 z.2.2) fm, boxA b2 25 [.slice none 0 0, .slice none 0 0], boxA b1 25 [.slice pv nv cv, .slice pf nf cf]]) 19 mixed (.block (.then (.then (.block (.then .ret))))) (by kernel_rfl) ?_
      refine d_pv 0 rfl rfl (by kernel_rfl) (by kernel_rfl) rfl rfl (pv_fieldAddr Try.underlying25 rfl sz23 rfl rfl) ?_
      refine d_uw 1 rfl rfl (by kernel_rfl) (by kernel_rfl) (by kernel_rfl) rfl rfl (vl_load_box_one 1 ty23 rfl rfl rfl) ?_
      refine d_pv 2 rfl rfl (by kernel_rfl) (by kernel_rfl) rfl rfl (pv_move rfl) ?_
      refine d_pv 3 rfl rfl (by kernel_rfl) (by kernel_rfl) rfl rfl (pv_indexAddr_arr (i := 0) Try.underlying44 sz3 rfl rfl (by decide) rfl) ?_
      refine d_uw 4 rfl rfl (by kernel_rfl) (by kernel_rfl) (by kernel_rfl) rfl rfl (vl_load_box_one 2 ty3 rfl rfl rfl) ?_
      refine d_index_fl (x0 := (N.getD (((K.getD i (0, 0, 0)).1).toNat) 0)) 5 rfl rfl (by kernel_rfl) (by kernel_rfl) 1 (((K.getD i (0, 0, 0)).1).toNat) rfl Try.underlying50 sz3 rfl rfl rfl (by first | rfl | assumption | (simp; done) | exact Ms.usedL_len _ _ | omega) rfl (by omega) (gD (d := 0) (by omega)) (fun b47 o48 hok49 => ?_)
      replace hok49 := inK_i64.1 hok49
      refine d_u 6 rfl rfl (by kernel_rfl) (by kernel_rfl) rfl rfl (vl_load_at_one (j := 0) 0 ty3 rfl rfl rfl rfl) ?_
      refine d_pv 7 rfl rfl (by kernel_rfl) (by kernel_rfl) rfl rfl (pv_move rfl) ?_
      refine d_pv 8 rfl rfl (by kernel_rfl) (by kernel_rfl) rfl rfl (pv_indexAddr_arr (i := 1) Try.underlying44 sz3 rfl rfl (by decide) rfl) ?_
      refine d_uw 9 rfl rfl (by kernel_rfl) (by kernel_rfl) (by kernel_rfl) rfl rfl (vl_load_box_one 2 ty3 rfl rfl rfl) ?_
      refine d_index_fl (x0 := (N.getD (((K.getD i (0, 0, 0)).2.1).toNat) 0)) 10 rfl rfl (by kernel_rfl) (by kernel_rfl) 2 (((K.getD i (0, 0, 0)).2.1).toNat) rfl Try.underlying50 sz3 rfl rfl rfl (by first | rfl | assumption | (simp; done) | exact Ms.usedL_len _ _ | omega) rfl (by omega) (gD (d := 0) (by omega)) (fun b50 o51 hok52 => ?_)
      replace hok52 := inK_i64.1 hok52
      refine d_u 11 rfl rfl (by kernel_rfl) (by kernel_rfl) rfl rfl (vl_load_at_one (j := 0) 0 ty3 rfl rfl rfl rfl) ?_
      refine d_pv 12 rfl rfl (by kernel_rfl) (by kernel_rfl) rfl rfl (pv_move rfl) ?_
      refine d_pv 13 rfl rfl (by kernel_rfl) (by kernel_rfl) rfl rfl (pv_indexAddr_arr (i := 2) Try.underlying44 sz3 rfl rfl (by decide) rfl) ?_
      refine d_uw 14 rfl rfl (by kernel_rfl) (by kernel_rfl) (by kernel_rfl) rfl rfl (vl_load_box_one 2 ty3 rfl rfl rfl) ?_
      refine d_index_fl (x0 := (N.getD (((K.getD i (0, 0, 0)).2.2).toNat) 0)) 15 rfl rfl (by kernel_rfl) (by kernel_rfl) 3 (((K.getD i (0, 0, 0)).2.2).toNat) rfl Try.underlying50 sz3 rfl rfl rfl (by first | rfl | assumption | (simp; done) | exact Ms.usedL_len _ _ | omega) rfl (by omega) (gD (d := 0) (by omega)) (fun b53 o54 hok55 => ?_)
      replace hok55 := inK_i64.1 hok55
      refine d_u 16 rfl rfl (by kernel_rfl) (by kernel_rfl) rfl rfl (vl_load_at_one (j := 0) 0 ty3 rfl rfl rfl rfl) ?_
      refine d_pv 17 rfl rfl (by kernel_rfl) (by kernel_rfl) rfl rfl (pv_build_array zr44 rfl Try.underlying44 sz3 (.c rfl (.c rfl (.c rfl .n))) (.c rfl rfl rfl (.take .nil) (.c rfl rfl rfl (.skip (.take .nil)) (.c rfl rfl rfl (.skip (.skip (.take .nil))) .n)))) ?_
      refine d_one 18 (by kernel_rfl) (o_ef0 rfl rfl rfl rfl (ef_buildSlice_fl (enc := fun z : Int × Int × Int => [.int .i64 z.1, .int .i64 z.2.1, .int .i64 z.2.2]) (ok := fun z => InK .i64 z.1 ∧ InK .i64 z.2.1 ∧ InK .i64 z.2.2) (h1 := fun _ => rfl) (h2 := fun _ => rfl) (k := 1) Try.underlying23 inf44 rfl (by decide) (by decide) (by decide) (.c (x := ((N.getD (((K.getD i (0, 0, 0)).1).toNat) 0), (N.getD (((K.getD i (0, 0, 0)).2.1).toNat) 0), (N.getD (((K.getD i (0, 0, 0)).2.2).toNat) 0))) rfl rfl (fun _ _ => by exact ⟨inK_i64.2 (by first | omega | decide | (dsimp only; omega)), inK_i64.2 (by first | omega | decide | (dsimp only; omega)), inK_i64.2 (by first | omega | decide | (dsimp only; omega))⟩) .n)) (fun b56 _ => ?_))
      refine d_freeze 0 rfl .z ?_
      refine d_one 19 (by kernel_rfl) (o_efw (A' := fun v : Option Addr × Nat => rowA 44 (rI3 .i64) v.1 v.2 (A ++ ([((N.getD (((K.getD i (0, 0, 0)).1).toNat) 0), (N.getD (((K.getD i (0, 0, 0)).2.1).toNat) 0), (N.getD (((K.getD i (0, 0, 0)).2.2).toNat) 0))]))) (by kernel_rfl) rfl rfl rfl (ef_append 0 rfl Try.underlying23 inf44 (by decide) rfl rfl (by first | rfl | assumption | (simp; done) | exact Ms.usedL_len _ _ | omega) rfl (by first | rfl | assumption | (simp; done) | exact Ms.usedL_len _ _ | omega) (by omega) (by omega)) ?_)
      rintro ⟨p57, c58⟩ -
      dsimp only [List.append_eq, List.nil_append, List.cons_append]
      refine d_pv 20 rfl rfl (by kernel_rfl) (by kernel_rfl) rfl rfl (pv_fieldAddr Try.underlying25 rfl sz23 rfl rfl) ?_
      refine d_permW (perm_front (i := 1) rfl) ?_
      refine d_one 21 (by kernel_rfl) (o_store_box (by kernel_rfl) rfl rfl rfl rfl rfl sz23 rfl (.skip (.take .nil)) ?_)
      refine d_done (by kernel_rfl) ?_
      refine p_block ?_
      refine p_then ?_
      refine r_region ?_
      refine r_pv rfl rfl (pv_add (z := (((i + 1) : Nat) : Int)) rfl rfl (w64 (by omega))) ?_
      refine r_pv rfl rfl (pv_move rfl) ?_
      refine r_nil ?_
      have hub := Ms.used_of (K := K) (f := K.getD i (0, 0, 0)) (Ms.getD_mem _ (by omega)) (by omega) (by omega) (by omega)
      have hn1 := hNn.get (K.getD i (0, 0, 0)).1.toNat (by omega) hub.1
      have hn2 := hNn.get (K.getD i (0, 0, 0)).2.1.toNat (by omega) hub.2.1
      have hn3 := hNn.get (K.getD i (0, 0, 0)).2.2.toNat (by omega) hub.2.2
      refine p_next ((i + 1), p57, c58, (A ++ ([((N.getD (((K.getD i (0, 0, 0)).1).toNat) 0), (N.getD (((K.getD i (0, 0, 0)).2.1).toNat) 0), (N.getD (((K.getD i (0, 0, 0)).2.2).toNat) 0))]))) (show (i + 1) ≤ K.length ∧ (A ++ ([((N.getD (((K.getD i (0, 0, 0)).1).toNat) 0), (N.getD (((K.getD i (0, 0, 0)).2.1).toNat) 0), (N.getD (((K.getD i (0, 0, 0)).2.2).toNat) 0))])) = (K.take (i + 1)).map (Ms.rk K) from by exact ⟨by omega, by rw [hn1, hn2, hn3, Ms.take_snoc (0, 0, 0) (by omega), List.map_append, hA]; rfl⟩) (by show K.length - (i + 1) < K.length - i; omega) ((.of rfl) : SubM _ _) (ho := ((.c (i := 1) rfl (.e (i := 0) rfl (by first | rfl | (congr 1; omega) | simp_all) (.of [2, 2, 2] rfl))) : PickO _ _ _)) ((.of [5, 6, 7, 8, 9, 10] rfl) : SelR _ _ _)
     ·
      refine r_exit ?_
      refine p_then_exit ?_
      refine p_then_exit ?_
      refine p_block_here ?_
      refine p_then ?_
      refine r_seq ?_
      refine c_freeze 0 rfl .z ?_
      refine r_region ?_
      refine r_u rfl rfl (vl_load_box_agg 1 ty25 rfl rfl (.take (.take .nil))) ?_
      refine r_store_box 3 rfl rfl rfl rfl rfl sz25 rfl (.take (.take .nil)) (.s (.s (.s .z))) ?_
      refine r_pv rfl rfl (pv_assign rfl) ?_
      refine r_nil ?_
      refine p_then ?_
      refine r_ret ?_
      have hz1 : Ms.weldRV V F = W := by unfold Ms.weldRV Ms.weldV; rw [if_pos hf0, hWn, hKf, hnv]
      have hz2 : Ms.weldRF V F = A := by unfold Ms.weldRF Ms.weldF; rw [if_pos hf0, hA, List.take_of_length_le (by omega), hKf]
      exact p_ret2 Try.results34 (p5, c5, p6, c6) trivial (res_box_agg 3 ty25 rfl rfl (.take (.take .nil))) (res_tmp rfl) (by rw [hz1, hz2, hf0]) (ho := (.n : PickO _ _ _)) ((.e (j := 2) rfl (by rw [hz1]) (.e (j := 0) rfl (by rw [hz2]) .n)) : SelR _ _ _)
end Go.Proofs.Ytalfgjpbbongcaa.Sp
namespace Go.Proofs.Ytalfgjpbbongcaa.Sp
open Go
set_option linter.unusedVariables false
set_option maxRecDepth 100000
set_option maxHeartbeats 1000000
theorem con_welded {pv : Option Addr} {nv : Nat} {cv : Nat} {V : List (Int × Int × Int)} {pf : Option Addr} {nf : Nat} {cf : Nat} {F : List (Int × Int × Int)} (hnv : V.length = nv) (hnf : F.length = nf) (hg : Ms.Good V F) : Con Try.prog 36 [.agg #[.slice pv nv cv, .slice pf nf cf]] [] [slF (rI3 .i64) pv cv V, slF (rI3 .i64) pf cf F] (Y := (Option Addr) × Nat × (Option Addr) × Nat) (fun y => True) (fun y => .agg #[.slice (y.1) ((Ms.weldV V F).length) (y.2.1), .slice (y.2.2.1) ((Ms.weldF V F).length) (y.2.2.2)]) (fun y => []) (fun y => [slF (rI3 .i64) (y.1) (y.2.1) (Ms.weldV V F), slF (rI3 .i64) (y.2.2.1) (y.2.2.2) (Ms.weldF V F)]) := by
 refine con_intro Try.func36 rfl rfl rfl (fun c => ?_)
 show RunC _ _ _ _ _ [(0, .agg #[.slice pv nv cv, .slice pf nf cf])] [] [slF (rI3 .i64) pv cv V, slF (rI3 .i64) pf cf F]
 refine c_len 0 rfl (fun hL0 => ?_)
 refine c_len 1 rfl (fun hL1 => ?_)
 have hnv5 : nv ≤ 512 := by have := hg.nv; omega
 have hnf5 : nf ≤ 1024 := by have := hg.nf; omega
 refine r_seq ?_
 refine r_region ?_
 refine r_new rfl rfl (ef_box rfl rfl) (fun b1 => ?_)
 refine r_new rfl rfl (ef_alloc zr25 rfl) (fun b2 => ?_)
 refine r_nil ?_
 refine p_then ?_
 refine r_seq ?_
 refine r_region ?_
 refine r_ef0 rfl rfl (ef_buildSlice0 (rI .i64) Try.underlying50 inf3) (fun b3 _ => ?_)
 refine r_pv rfl rfl (pv_assign rfl) ?_
 refine r_nil ?_
 refine p_then ?_
 refine r_seq ?_
 refine r_seq ?_
 refine r_region ?_
 refine r_pv rfl rfl (pv_fieldAddr Try.underlying25 rfl sz22 rfl rfl) ?_
 refine r_u rfl rfl (vl_load_box_one 2 ty22 rfl rfl rfl) ?_
 refine r_pv rfl rfl (pv_len Try.underlying22 rfl) ?_
 refine r_pv rfl rfl (pv_move rfl) ?_
 refine r_nil ?_
 refine p_then ?_
 refine r_block ?_
 refine r_loop (X := Nat × (Option Addr) × Nat × (List Int)) (fun x : Nat × (Option Addr) × Nat × (List Int) => x.1 ≤ nv ∧ x.2.2.2 = (List.range x.1).map (fun j : Nat => Ms.fi V (j : Int))) (fun x => [(3, .slice (x.2.1) (x.2.2.2.length) (x.2.2.1)), (24, .int .i64 ((x.1 : Nat) : Int)), (23, .int .i64 ((nv : Nat) : Int)), (22, .slice pv nv cv), (2, .pointer (some ⟨b2, 0, none⟩)), (1, .pointer (some ⟨b1, 0, none⟩))]) (fun x => [rowA 3 (rI .i64) (x.2.1) (x.2.2.1) (x.2.2.2), boxA b2 25 [.slice none 0 0, .slice none 0 0], boxA b1 25 [.slice pv nv cv, .slice pf nf cf]]) (fun x => [slF (rI3 .i64) pv cv V, slF (rI3 .i64) pf cf F]) (fun x : Nat × (Option Addr) × Nat × (List Int) => nv - x.1) (0, some ⟨b3, 0, none⟩, 0, ([] : List Int)) (show 0 ≤ nv ∧ ([] : List Int) = (List.range 0).map (fun j : Nat => Ms.fi V (j : Int)) from by exact ⟨Nat.zero_le _, rfl⟩) ((.e rfl (by first | rfl | (congr 1; omega) | simp_all) (.e rfl (by first | rfl | (congr 1; omega) | simp_all) (.of rfl))) : SubM _ _) (ho := ((.e (i := 0) rfl (by first | rfl | (congr 1; omega) | simp_all) (.of [0, 0] rfl)) : PickO _ _ _)) ((.of [0, 1] rfl) : SelR _ _ _) ?_
 rintro ⟨i, p, c, A⟩ hI
 replace hI : i ≤ nv ∧ A = (List.range i).map (fun j : Nat => Ms.fi V (j : Int)) := hI
 show RunC _ _ _ _ _ [(3, .slice p (A.length) c), (24, .int .i64 ((i : Nat) : Int)), (23, .int .i64 ((nv : Nat) : Int)), (22, .slice pv nv cv), (2, .pointer (some ⟨b2, 0, none⟩)), (1, .pointer (some ⟨b1, 0, none⟩))] [rowA 3 (rI .i64) p c A, boxA b2 25 [.slice none 0 0, .slice none 0 0], boxA b1 25 [.slice pv nv cv, .slice pf nf cf]] [slF (rI3 .i64) pv cv V, slF (rI3 .i64) pf cf F]
 obtain ⟨hi, hA⟩ := hI
 have hAl : A.length = i := by rw [hA]; simp
 refine r_seq ?_
 refine r_region ?_
 refine r_pv rfl rfl (pv_lss rfl rfl) ?_
 refine r_nil ?_
 refine p_then ?_
 refine r_seq ?_
 refine r_cond rfl (fun h4 => ?_) (fun h4 => ?_)
 ·
  have hv0 := hg.vat (i := i) (by omega)
  refine r_skip ?_
  refine p_then ?_
  refine r_seq ?_
  refine r_block ?_
  refine r_seq ?_
  refine r_region ?_
  refine r_pv rfl rfl (pv_move rfl) ?_
  refine r_index_fl (x0 := (V.getD i (0, 0, 0))) 0 i rfl Try.underlying22 sz42 rfl rfl rfl (by first | rfl | assumption | (simp; done) | omega) rfl rfl (gD (d := (0, 0, 0)) (by omega)) (fun b5 o6 hok7 => ?_)
  obtain ⟨hok7x, hok7y, hok7z⟩ := hok7
  replace hok7x := inK_i64.1 hok7x
  replace hok7y := inK_i64.1 hok7y
  replace hok7z := inK_i64.1 hok7z
  refine r_u rfl rfl (vl_load_at_agg (j := 0) 0 ty42 rfl rfl rfl (.take (.take (.take .nil)))) ?_
  refine r_new rfl rfl (ef_alloc zr42 rfl) (fun b8 => ?_)
  refine r_pv rfl rfl (pv_assign rfl) ?_
  refine r_store_box 0 rfl rfl rfl rfl rfl sz42 rfl (.take (.take (.take .nil))) .z ?_
  refine r_nil ?_
  refine p_then ?_
  refine r_seq ?_
  refine r_region ?_
  refine r_pv rfl rfl (pv_move rfl) ?_
  refine r_pv rfl rfl (pv_assign rfl) ?_
  refine r_nil ?_
  refine p_then ?_
  refine r_cut (X := Unit) (fun x => True) (fun x => [(6, .int .i64 (Ms.fi V ((i : Nat) : Int))), (29, .int .i64 ((i : Nat) : Int)), (4, .int .i64 ((i : Nat) : Int)), (5, .pointer (some ⟨b8, 0, none⟩)), (28, .agg #[.int .i64 ((V.getD i (0, 0, 0)).1), .int .i64 ((V.getD i (0, 0, 0)).2.1), .int .i64 ((V.getD i (0, 0, 0)).2.2)]), (27, .pointer (some ⟨b5, o6, none⟩)), (26, .int .i64 ((i : Nat) : Int)), (25, .bool (decide (((i : Nat) : Int) < ((nv : Nat) : Int)))), (3, .slice p (A.length) c), (24, .int .i64 ((i : Nat) : Int)), (23, .int .i64 ((nv : Nat) : Int)), (22, .slice pv nv cv), (2, .pointer (some ⟨b2, 0, none⟩)), (1, .pointer (some ⟨b1, 0, none⟩))]) (fun x => [boxA b8 42 [.int .i64 ((V.getD i (0, 0, 0)).1), .int .i64 ((V.getD i (0, 0, 0)).2.1), .int .i64 ((V.getD i (0, 0, 0)).2.2)], rowA 3 (rI .i64) p c A, boxA b2 25 [.slice none 0 0, .slice none 0 0], boxA b1 25 [.slice pv nv cv, .slice pf nf cf]]) (fun x => [atF b5 o6 [.int .i64 ((V.getD i (0, 0, 0)).1), .int .i64 ((V.getD i (0, 0, 0)).2.1), .int .i64 ((V.getD i (0, 0, 0)).2.2)], slF (rI3 .i64) pv cv V, slF (rI3 .i64) pf cf F]) ?_ ?_
  ·
   refine r_seq ?_
   refine r_region ?_
   refine r_pv rfl rfl (pv_move rfl) ?_
   refine r_pv rfl rfl (pv_move rfl) ?_
   refine r_nil ?_
   refine p_then ?_
   refine r_block ?_
   refine r_loop (X := Nat) (fun x : Nat => x ≤ i ∧ ∀ k, k < x → V.getD k (0, 0, 0) ≠ V.getD i (0, 0, 0)) (fun x => [(6, .int .i64 ((i : Nat) : Int)), (31, .int .i64 ((x : Nat) : Int)), (30, .int .i64 ((i : Nat) : Int)), (29, .int .i64 ((i : Nat) : Int)), (4, .int .i64 ((i : Nat) : Int)), (5, .pointer (some ⟨b8, 0, none⟩)), (28, .agg #[.int .i64 ((V.getD i (0, 0, 0)).1), .int .i64 ((V.getD i (0, 0, 0)).2.1), .int .i64 ((V.getD i (0, 0, 0)).2.2)]), (27, .pointer (some ⟨b5, o6, none⟩)), (26, .int .i64 ((i : Nat) : Int)), (25, .bool (decide (((i : Nat) : Int) < ((nv : Nat) : Int)))), (3, .slice p (A.length) c), (24, .int .i64 ((i : Nat) : Int)), (23, .int .i64 ((nv : Nat) : Int)), (22, .slice pv nv cv), (2, .pointer (some ⟨b2, 0, none⟩)), (1, .pointer (some ⟨b1, 0, none⟩))]) (fun x => [boxA b8 42 [.int .i64 ((V.getD i (0, 0, 0)).1), .int .i64 ((V.getD i (0, 0, 0)).2.1), .int .i64 ((V.getD i (0, 0, 0)).2.2)], rowA 3 (rI .i64) p c A, boxA b2 25 [.slice none 0 0, .slice none 0 0], boxA b1 25 [.slice pv nv cv, .slice pf nf cf]]) (fun x => [atF b5 o6 [.int .i64 ((V.getD i (0, 0, 0)).1), .int .i64 ((V.getD i (0, 0, 0)).2.1), .int .i64 ((V.getD i (0, 0, 0)).2.2)], slF (rI3 .i64) pv cv V, slF (rI3 .i64) pf cf F]) (fun x : Nat => i - x) 0 (show 0 ≤ i ∧ ∀ k, k < 0 → V.getD k (0, 0, 0) ≠ V.getD i (0, 0, 0) from by exact ⟨Nat.zero_le _, fun k h => by omega⟩) ((.c rfl (.e rfl (by first | rfl | (congr 1; omega) | simp_all) (.of rfl))) : SubM _ _) (ho := ((.of [0, 0, 0, 0] rfl) : PickO _ _ _)) ((.of [0, 1, 2] rfl) : SelR _ _ _) ?_
   rintro j hJ
   replace hJ : j ≤ i ∧ ∀ k, k < j → V.getD k (0, 0, 0) ≠ V.getD i (0, 0, 0) := hJ
   show RunC _ _ _ _ _ [(6, .int .i64 ((i : Nat) : Int)), (31, .int .i64 ((j : Nat) : Int)), (30, .int .i64 ((i : Nat) : Int)), (29, .int .i64 ((i : Nat) : Int)), (4, .int .i64 ((i : Nat) : Int)), (5, .pointer (some ⟨b8, 0, none⟩)), (28, .agg #[.int .i64 ((V.getD i (0, 0, 0)).1), .int .i64 ((V.getD i (0, 0, 0)).2.1), .int .i64 ((V.getD i (0, 0, 0)).2.2)]), (27, .pointer (some ⟨b5, o6, none⟩)), (26, .int .i64 ((i : Nat) : Int)), (25, .bool (decide (((i : Nat) : Int) < ((nv : Nat) : Int)))), (3, .slice p (A.length) c), (24, .int .i64 ((i : Nat) : Int)), (23, .int .i64 ((nv : Nat) : Int)), (22, .slice pv nv cv), (2, .pointer (some ⟨b2, 0, none⟩)), (1, .pointer (some ⟨b1, 0, none⟩))] [boxA b8 42 [.int .i64 ((V.getD i (0, 0, 0)).1), .int .i64 ((V.getD i (0, 0, 0)).2.1), .int .i64 ((V.getD i (0, 0, 0)).2.2)], rowA 3 (rI .i64) p c A, boxA b2 25 [.slice none 0 0, .slice none 0 0], boxA b1 25 [.slice pv nv cv, .slice pf nf cf]] [atF b5 o6 [.int .i64 ((V.getD i (0, 0, 0)).1), .int .i64 ((V.getD i (0, 0, 0)).2.1), .int .i64 ((V.getD i (0, 0, 0)).2.2)], slF (rI3 .i64) pv cv V, slF (rI3 .i64) pf cf F]
   obtain ⟨hj, hno⟩ := hJ
   refine r_seq ?_
   refine r_region ?_
   refine r_pv rfl rfl (pv_lss rfl rfl) ?_
   refine r_nil ?_
   refine p_then ?_
   refine r_seq ?_
   refine r_cond rfl (fun h9 => ?_) (fun h9 => ?_)
   ·
    have hv1 := hg.vat (i := j) (by omega)
    refine r_skip ?_
    refine p_then ?_
    refine r_seq ?_
    refine r_block ?_
    refine r_seq ?_
    refine r_region ?_
    refine r_pv rfl rfl (pv_move rfl) ?_
    refine r_pv rfl rfl (pv_assign rfl) ?_
    refine r_nil ?_
    refine p_then ?_
    refine r_seq ?_
    refine r_draw (OW := []) (O := [boxA b8 42 [.int .i64 ((V.getD i (0, 0, 0)).1), .int .i64 ((V.getD i (0, 0, 0)).2.1), .int .i64 ((V.getD i (0, 0, 0)).2.2)], rowA 3 (rI .i64) p c A, boxA b2 25 [.slice none 0 0, .slice none 0 0], boxA b1 25 [.slice pv nv cv, .slice pf nf cf]]) 100000 mixed (.then (.block (.then (.then (.block (.then (.block (.then (.then (.block (.then .ret))))))))))) (by kernel_rfl) ?_
    refine d_pv 0 rfl rfl (by kernel_rfl) (by kernel_rfl) rfl rfl (pv_fieldAddr Try.underlying25 rfl sz22 rfl rfl) ?_
    refine d_u 1 rfl rfl (by kernel_rfl) (by kernel_rfl) rfl rfl (vl_load_box_one 3 ty22 rfl rfl rfl) ?_
    refine d_pv 2 rfl rfl (by kernel_rfl) (by kernel_rfl) rfl rfl (pv_move rfl) ?_
    refine d_index_fl (x0 := (V.getD j (0, 0, 0))) 3 rfl rfl (by kernel_rfl) (by kernel_rfl) 1 j rfl Try.underlying22 sz42 rfl rfl rfl (by first | rfl | assumption | (simp; done) | omega) rfl rfl (gD (d := (0, 0, 0)) (by omega)) (fun b10 o11 hok12 => ?_)
    obtain ⟨hok12x, hok12y, hok12z⟩ := hok12
    replace hok12x := inK_i64.1 hok12x
    replace hok12y := inK_i64.1 hok12y
    replace hok12z := inK_i64.1 hok12z
    refine d_u 4 rfl rfl (by kernel_rfl) (by kernel_rfl) rfl rfl (vl_load_at_agg (j := 0) 0 ty42 rfl rfl rfl (.take (.take (.take .nil)))) ?_
    refine d_u 5 rfl rfl (by kernel_rfl) (by kernel_rfl) rfl rfl (vl_load_box_agg 0 ty42 rfl rfl (.take (.take (.take .nil)))) ?_
    refine d_pv 6 rfl rfl (by kernel_rfl) (by kernel_rfl) rfl rfl (pv_agg_eql (p := (V.getD j (0, 0, 0)).1 = (V.getD i (0, 0, 0)).1 ∧ (V.getD j (0, 0, 0)).2.1 = (V.getD i (0, 0, 0)).2.1 ∧ (V.getD j (0, 0, 0)).2.2 = (V.getD i (0, 0, 0)).2.2) (by kernel_rfl) rfl rfl (eqr_struct Try.underlying42 (by kernel_rfl) (eqf_one (by decide) ty3 rfl rfl (eqr_int Try.underlying3) (eqf_one (by decide) ty3 rfl rfl (eqr_int Try.underlying3) (eqf_one (by decide) ty3 rfl rfl (eqr_int Try.underlying3) eqf_nil)))) (by simp [Bool.decide_and])) ?_
    refine d_done (by kernel_rfl) ?_
    refine p_then ?_
    refine r_cond rfl (fun heq => ?_) (fun heq => ?_)
    ·
     refine r_seq ?_
     refine r_region ?_
     refine r_pv rfl rfl (pv_move rfl) ?_
     refine r_pv rfl rfl (pv_move rfl) ?_
     refine r_u rfl rfl (vl_index_row 1 j rfl Try.underlying50 sz3 rfl (by first | rfl | assumption | (simp; done) | omega) rfl rfl (by omega)) ?_
     refine r_vl rfl rfl (vl_load_row_fl 1 j rfl ty3 rfl rfl (gD (d := 0) (by omega)) rfl) (fun _ hok13 => ?_)
     replace hok13 := inK_i64.1 hok13
     refine r_pv rfl rfl (pv_assign rfl) ?_
     refine r_nil ?_
     refine p_then ?_
     refine r_exit ?_
     refine p_block_past rfl ?_
     refine p_then_exit ?_
     refine p_then_exit ?_
     refine p_block_here ?_
     exact p_cut () (show True from by first | trivial | omega | simp_all) ((.e rfl (congrArg (Value.int .i64) (by rw [hA, show j = ((j : Nat) : Int).toNat from (Int.toNat_natCast j).symm, Ms.fi_at (by omega) (by omega)]; exact Ms.fi_same (Prod.ext heq.1 (Prod.ext heq.2.1 heq.2.2)))) (.of rfl)) : SubM _ _) (ho := ((.of [0, 0, 0, 0] rfl) : PickO _ _ _)) ((.of [1, 2, 3] rfl) : SelR _ _ _)
    ·
     refine r_skip ?_
     refine p_block ?_
     refine p_then ?_
     refine r_region ?_
     refine r_pv rfl rfl (pv_add (z := (((j + 1) : Nat) : Int)) rfl rfl (w64 (by omega))) ?_
     refine r_pv rfl rfl (pv_move rfl) ?_
     refine r_nil ?_
     refine p_next (j + 1) (show (j + 1) ≤ i ∧ ∀ k, k < (j + 1) → V.getD k (0, 0, 0) ≠ V.getD i (0, 0, 0) from by exact ⟨by omega, Ms.all_lt_succ (P := fun k => V.getD k (0, 0, 0) ≠ V.getD i (0, 0, 0)) hno (fun e => heq (by rw [e]; exact ⟨rfl, rfl, rfl⟩))⟩) (by show i - (j + 1) < i - j; omega) ((.of rfl) : SubM _ _) (ho := ((.of [0, 0, 0, 0] rfl) : PickO _ _ _)) ((.of [1, 2, 3] rfl) : SelR _ _ _)
   ·
    refine r_exit ?_
    refine p_then_exit ?_
    refine p_then_exit ?_
    refine p_block_here ?_
    exact p_cut () (show True from by first | trivial | omega | simp_all) ((.e rfl (congrArg (Value.int .i64) (Ms.fi_self (by omega) (fun k hk => hno k (by omega))).symm) (.of rfl)) : SubM _ _) (ho := ((.of [0, 0, 0, 0] rfl) : PickO _ _ _)) ((.of [0, 1, 2] rfl) : SelR _ _ _)
  ·
   rintro ⟨⟩ -
   show RunC _ _ _ _ _ [(6, .int .i64 (Ms.fi V ((i : Nat) : Int))), (29, .int .i64 ((i : Nat) : Int)), (4, .int .i64 ((i : Nat) : Int)), (5, .pointer (some ⟨b8, 0, none⟩)), (28, .agg #[.int .i64 ((V.getD i (0, 0, 0)).1), .int .i64 ((V.getD i (0, 0, 0)).2.1), .int .i64 ((V.getD i (0, 0, 0)).2.2)]), (27, .pointer (some ⟨b5, o6, none⟩)), (26, .int .i64 ((i : Nat) : Int)), (25, .bool (decide (((i : Nat) : Int) < ((nv : Nat) : Int)))), (3, .slice p (A.length) c), (24, .int .i64 ((i : Nat) : Int)), (23, .int .i64 ((nv : Nat) : Int)), (22, .slice pv nv cv), (2, .pointer (some ⟨b2, 0, none⟩)), (1, .pointer (some ⟨b1, 0, none⟩))] [boxA b8 42 [.int .i64 ((V.getD i (0, 0, 0)).1), .int .i64 ((V.getD i (0, 0, 0)).2.1), .int .i64 ((V.getD i (0, 0, 0)).2.2)], rowA 3 (rI .i64) p c A, boxA b2 25 [.slice none 0 0, .slice none 0 0], boxA b1 25 [.slice pv nv cv, .slice pf nf cf]] [atF b5 o6 [.int .i64 ((V.getD i (0, 0, 0)).1), .int .i64 ((V.getD i (0, 0, 0)).2.1), .int .i64 ((V.getD i (0, 0, 0)).2.2)], slF (rI3 .i64) pv cv V, slF (rI3 .i64) pf cf F]
   have hw9 := Ms.fi_rng (V := V) (v := (i : Int)) (by omega)
   refine r_region ?_
   refine r_pv rfl rfl (pv_move rfl) ?_
   refine r_pv rfl rfl (pv_move rfl) ?_
   refine r_ef0 rfl rfl (ef_buildSlice_fl (enc := fun z : Int => [.int .i64 z]) (ok := InK .i64) (h1 := fun _ => rfl) (h2 := fun _ => rfl) (k := 1) Try.underlying50 inf3 rfl (by decide) (by decide) (by decide) (.c (x := Ms.fi V ((i : Nat) : Int)) rfl rfl (fun _ _ => by exact inK_i64.2 (by omega)) .n)) (fun b14 _ => ?_)
   refine r_freeze 0 rfl .z ?_
   refine r_ef1 2 rfl rfl rfl (ef_append 0 rfl Try.underlying50 inf3 (by decide) rfl rfl (by first | rfl | assumption | (simp; done) | omega) rfl (by first | rfl | assumption | (simp; done) | omega) (by omega) (by omega)) (fun _ => (.s (.s .z))) ?_
   rintro ⟨p15, c16⟩ -
   dsimp only [List.append_eq, List.nil_append, List.cons_append]
   refine r_pv rfl rfl (pv_assign rfl) ?_
   refine r_nil ?_
   refine p_block ?_
   refine p_then ?_
   refine r_region ?_
   refine r_pv rfl rfl (pv_add (z := (((i + 1) : Nat) : Int)) rfl rfl (w64 (by omega))) ?_
   refine r_pv rfl rfl (pv_move rfl) ?_
   refine r_nil ?_
   refine p_next ((i + 1), p15, c16, (A ++ ([Ms.fi V ((i : Nat) : Int)]))) (show (i + 1) ≤ nv ∧ (A ++ ([Ms.fi V ((i : Nat) : Int)])) = (List.range (i + 1)).map (fun j : Nat => Ms.fi V (j : Int)) from by exact ⟨by omega, by rw [List.range_succ, List.map_append, hA]; rfl⟩) (by show nv - (i + 1) < nv - i; omega) ((.e rfl (by simp) (.of rfl)) : SubM _ _) (ho := ((.of [2, 2, 2] rfl) : PickO _ _ _)) ((.of [2, 3] rfl) : SelR _ _ _)
 ·
  refine r_exit ?_
  refine p_then_exit ?_
  refine p_then_exit ?_
  refine p_block_here ?_
  refine p_then ?_
  refine r_seq ?_
  have hAf : A = (List.range nv).map (fun j : Nat => Ms.fi V (j : Int)) := by have h9 : i = nv := (by omega); rw [h9] at hA; exact hA
  refine c_freeze 0 rfl .z ?_
  refine r_region ?_
  refine r_ef0 rfl rfl (ef_buildSlice0 (rI3 .i64) Try.underlying23 inf44) (fun b17 _ => ?_)
  refine r_pv rfl rfl (pv_assign rfl) ?_
  refine r_nil ?_
  refine p_then ?_
  refine r_seq ?_
  refine r_seq ?_
  refine r_region ?_
  refine r_pv rfl rfl (pv_fieldAddr Try.underlying25 rfl sz23 rfl rfl) ?_
  refine r_u rfl rfl (vl_load_box_one 3 ty23 rfl rfl rfl) ?_
  refine r_pv rfl rfl (pv_len Try.underlying23 rfl) ?_
  refine r_pv rfl rfl (pv_move rfl) ?_
  refine r_nil ?_
  refine p_then ?_
  refine r_block ?_
  refine r_loop (X := Nat × (Option Addr) × Nat × (List (Int × Int × Int))) (fun x : Nat × (Option Addr) × Nat × (List (Int × Int × Int)) => x.1 ≤ nf ∧ x.2.2.2 = Ms.keptF V (F.take x.1)) (fun x => [(8, .slice (x.2.1) (x.2.2.2.length) (x.2.2.1)), (55, .int .i64 ((x.1 : Nat) : Int)), (54, .int .i64 ((nf : Nat) : Int)), (53, .slice pf nf cf), (3, .slice p (A.length) c), (2, .pointer (some ⟨b2, 0, none⟩)), (1, .pointer (some ⟨b1, 0, none⟩))]) (fun x => [rowA 44 (rI3 .i64) (x.2.1) (x.2.2.1) (x.2.2.2), boxA b2 25 [.slice none 0 0, .slice none 0 0], boxA b1 25 [.slice pv nv cv, .slice pf nf cf]]) (fun x => [slF (rI .i64) p c A, slF (rI3 .i64) pv cv V, slF (rI3 .i64) pf cf F]) (fun x : Nat × (Option Addr) × Nat × (List (Int × Int × Int)) => nf - x.1) (0, some ⟨b17, 0, none⟩, 0, ([] : List (Int × Int × Int))) (show 0 ≤ nf ∧ ([] : List (Int × Int × Int)) = Ms.keptF V (F.take 0) from by exact ⟨Nat.zero_le _, rfl⟩) ((.e rfl (by first | rfl | (congr 1; omega) | simp_all) (.e rfl (by first | rfl | (congr 1; omega) | simp_all) (.of rfl))) : SubM _ _) (ho := ((.e (i := 0) rfl (by first | rfl | (congr 1; omega) | simp_all) (.of [1, 1] rfl)) : PickO _ _ _)) ((.of [0, 1, 2] rfl) : SelR _ _ _) ?_
  rintro ⟨i, p7, c7, K⟩ hI
  replace hI : i ≤ nf ∧ K = Ms.keptF V (F.take i) := hI
  show RunC _ _ _ _ _ [(8, .slice p7 (K.length) c7), (55, .int .i64 ((i : Nat) : Int)), (54, .int .i64 ((nf : Nat) : Int)), (53, .slice pf nf cf), (3, .slice p (A.length) c), (2, .pointer (some ⟨b2, 0, none⟩)), (1, .pointer (some ⟨b1, 0, none⟩))] [rowA 44 (rI3 .i64) p7 c7 K, boxA b2 25 [.slice none 0 0, .slice none 0 0], boxA b1 25 [.slice pv nv cv, .slice pf nf cf]] [slF (rI .i64) p c A, slF (rI3 .i64) pv cv V, slF (rI3 .i64) pf cf F]
  obtain ⟨hi, hK⟩ := hI
  have hKi : K.length ≤ i := by rw [hK]; exact Nat.le_trans Ms.kept_len (by rw [List.length_take]; omega)
  refine r_seq ?_
  refine r_region ?_
  refine r_pv rfl rfl (pv_lss rfl rfl) ?_
  refine r_nil ?_
  refine p_then ?_
  refine r_seq ?_
  refine r_cond rfl (fun h18 => ?_) (fun h18 => ?_)
  ·
   have hat := hg.at (show i < F.length by omega)
   have e0 : A.getD (F.getD i (0, 0, 0)).1.toNat 0 = Ms.fi V (F.getD i (0, 0, 0)).1 := by rw [hAf]; exact Ms.fi_at (by omega) (by omega)
   have e1 : A.getD (F.getD i (0, 0, 0)).2.1.toNat 0 = Ms.fi V (F.getD i (0, 0, 0)).2.1 := by rw [hAf]; exact Ms.fi_at (by omega) (by omega)
   have e2 : A.getD (F.getD i (0, 0, 0)).2.2.toNat 0 = Ms.fi V (F.getD i (0, 0, 0)).2.2 := by rw [hAf]; exact Ms.fi_at (by omega) (by omega)
   have hw0 := Ms.fi_rng (V := V) (v := (F.getD i (0, 0, 0)).1) (by omega)
   have hw1 := Ms.fi_rng (V := V) (v := (F.getD i (0, 0, 0)).2.1) (by omega)
   have hw2 := Ms.fi_rng (V := V) (v := (F.getD i (0, 0, 0)).2.2) (by omega)
   refine r_skip ?_
   refine p_then ?_
   refine r_seq ?_
   refine r_block ?_
   refine r_seq ?_
   refine r_region ?_
   refine r_index_fl (x0 := (F.getD i (0, 0, 0))) 2 i rfl Try.underlying23 sz44 rfl rfl rfl (by first | rfl | assumption | (simp; done) | omega) rfl rfl (gD (d := (0, 0, 0)) (by omega)) (fun b19 o20 hok21 => ?_)
   obtain ⟨hok21x, hok21y, hok21z⟩ := hok21
   replace hok21x := inK_i64.1 hok21x
   replace hok21y := inK_i64.1 hok21y
   replace hok21z := inK_i64.1 hok21z
   refine r_u rfl rfl (vl_load_at_agg (j := 0) 0 ty44 rfl rfl rfl (.take (.take (.take .nil)))) ?_
   refine r_new rfl rfl (ef_alloc zr44 rfl) (fun b22 => ?_)
   refine r_store_box 0 rfl rfl rfl rfl rfl sz44 rfl (.take (.take (.take .nil))) .z ?_
   refine r_nil ?_
   refine p_then ?_
   refine r_seq ?_
   refine r_draw (OW := []) (O := [boxA b22 44 [.int .i64 ((F.getD i (0, 0, 0)).1), .int .i64 ((F.getD i (0, 0, 0)).2.1), .int .i64 ((F.getD i (0, 0, 0)).2.2)], rowA 44 (rI3 .i64) p7 c7 K, boxA b2 25 [.slice none 0 0, .slice none 0 0], boxA b1 25 [.slice pv nv cv, .slice pf nf cf]]) 17 mixed (.then (.block (.then (.then (.block (.then .ret)))))) (by kernel_rfl) ?_
   refine d_pv 0 rfl rfl (by kernel_rfl) (by kernel_rfl) rfl rfl (pv_move rfl) ?_
   refine d_pv 1 rfl rfl (by kernel_rfl) (by kernel_rfl) rfl rfl (pv_indexAddr_arr (i := 0) Try.underlying44 sz3 rfl rfl (by decide) rfl) ?_
   refine d_u 2 rfl rfl (by kernel_rfl) (by kernel_rfl) rfl rfl (vl_load_box_one 0 ty3 rfl rfl rfl) ?_
   refine d_index_fl (x0 := (A.getD (((F.getD i (0, 0, 0)).1).toNat) 0)) 3 rfl rfl (by kernel_rfl) (by kernel_rfl) 1 (((F.getD i (0, 0, 0)).1).toNat) rfl Try.underlying50 sz3 rfl rfl rfl (by first | rfl | assumption | (simp; done) | omega) rfl (by omega) (gD (d := 0) (by omega)) (fun b23 o24 hok25 => ?_)
   replace hok25 := inK_i64.1 hok25
   refine d_u 4 rfl rfl (by kernel_rfl) (by kernel_rfl) rfl rfl (vl_load_at_one (j := 0) 0 ty3 rfl rfl rfl rfl) ?_
   refine d_pv 5 rfl rfl (by kernel_rfl) (by kernel_rfl) rfl rfl (pv_move rfl) ?_
   refine d_pv 6 rfl rfl (by kernel_rfl) (by kernel_rfl) rfl rfl (pv_indexAddr_arr (i := 1) Try.underlying44 sz3 rfl rfl (by decide) rfl) ?_
   refine d_u 7 rfl rfl (by kernel_rfl) (by kernel_rfl) rfl rfl (vl_load_box_one 0 ty3 rfl rfl rfl) ?_
   refine d_index_fl (x0 := (A.getD (((F.getD i (0, 0, 0)).2.1).toNat) 0)) 8 rfl rfl (by kernel_rfl) (by kernel_rfl) 2 (((F.getD i (0, 0, 0)).2.1).toNat) rfl Try.underlying50 sz3 rfl rfl rfl (by first | rfl | assumption | (simp; done) | omega) rfl (by omega) (gD (d := 0) (by omega)) (fun b26 o27 hok28 => ?_)
   replace hok28 := inK_i64.1 hok28
   refine d_u 9 rfl rfl (by kernel_rfl) (by kernel_rfl) rfl rfl (vl_load_at_one (j := 0) 0 ty3 rfl rfl rfl rfl) ?_
   refine d_pv 10 rfl rfl (by kernel_rfl) (by kernel_rfl) rfl rfl (pv_move rfl) ?_
   refine d_pv 11 rfl rfl (by kernel_rfl) (by kernel_rfl) rfl rfl (pv_indexAddr_arr (i := 2) Try.underlying44 sz3 rfl rfl (by decide) rfl) ?_
   refine d_u 12 rfl rfl (by kernel_rfl) (by kernel_rfl) rfl rfl (vl_load_box_one 0 ty3 rfl rfl rfl) ?_
   refine d_index_fl (x0 := (A.getD (((F.getD i (0, 0, 0)).2.2).toNat) 0)) 13 rfl rfl (by kernel_rfl) (by kernel_rfl) 3 (((F.getD i (0, 0, 0)).2.2).toNat) rfl Try.underlying50 sz3 rfl rfl rfl (by first | rfl | assumption | (simp; done) | omega) rfl (by omega) (gD (d := 0) (by omega)) (fun b29 o30 hok31 => ?_)
   replace hok31 := inK_i64.1 hok31
   refine d_u 14 rfl rfl (by kernel_rfl) (by kernel_rfl) rfl rfl (vl_load_at_one (j := 0) 0 ty3 rfl rfl rfl rfl) ?_
   refine d_pv 15 rfl rfl (by kernel_rfl) (by kernel_rfl) rfl rfl (pv_build_array zr44 rfl Try.underlying44 sz3 (.c rfl (.c rfl (.c rfl .n))) (.c rfl rfl rfl (.take .nil) (.c rfl rfl rfl (.skip (.take .nil)) (.c rfl rfl rfl (.skip (.skip (.take .nil))) .n)))) ?_
   refine d_one 16 (by kernel_rfl) (o_ef0W rfl rfl rfl rfl (ef_alloc zr44 rfl) (fun b32 _ => ?_))
   refine d_one 17 (by kernel_rfl) (o_store_box (by kernel_rfl) rfl rfl rfl rfl rfl sz44 rfl (.take (.take (.take .nil))) ?_)
   refine d_done (by kernel_rfl) ?_
   refine p_then ?_
   refine r_cut (X := Unit) (fun x => True) (fun x => [(93, .bool (decide ((((A.getD (((F.getD i (0, 0, 0)).1).toNat) 0) ≠ (A.getD (((F.getD i (0, 0, 0)).2.1).toNat) 0)) ∧ ((A.getD (((F.getD i (0, 0, 0)).2.1).toNat) 0) ≠ (A.getD (((F.getD i (0, 0, 0)).2.2).toNat) 0))) ∧ ((A.getD (((F.getD i (0, 0, 0)).2.2).toNat) 0) ≠ (A.getD (((F.getD i (0, 0, 0)).1).toNat) 0))))), (11, .pointer (some ⟨b32, 0, none⟩)), (74, .agg #[.int .i64 (A.getD (((F.getD i (0, 0, 0)).1).toNat) 0), .int .i64 (A.getD (((F.getD i (0, 0, 0)).2.1).toNat) 0), .int .i64 (A.getD (((F.getD i (0, 0, 0)).2.2).toNat) 0)]), (73, .int .i64 (A.getD (((F.getD i (0, 0, 0)).2.2).toNat) 0)), (72, .pointer (some ⟨b29, o30, none⟩)), (71, .int .i64 ((F.getD i (0, 0, 0)).2.2)), (70, .pointer (some ⟨b22, 2, none⟩)), (69, .slice p (A.length) c), (68, .int .i64 (A.getD (((F.getD i (0, 0, 0)).2.1).toNat) 0)), (67, .pointer (some ⟨b26, o27, none⟩)), (66, .int .i64 ((F.getD i (0, 0, 0)).2.1)), (65, .pointer (some ⟨b22, 1, none⟩)), (64, .slice p (A.length) c), (63, .int .i64 (A.getD (((F.getD i (0, 0, 0)).1).toNat) 0)), (62, .pointer (some ⟨b23, o24, none⟩)), (61, .int .i64 ((F.getD i (0, 0, 0)).1)), (60, .pointer (some ⟨b22, 0, none⟩)), (59, .slice p (A.length) c), (10, .pointer (some ⟨b22, 0, none⟩)), (58, .agg #[.int .i64 ((F.getD i (0, 0, 0)).1), .int .i64 ((F.getD i (0, 0, 0)).2.1), .int .i64 ((F.getD i (0, 0, 0)).2.2)]), (57, .pointer (some ⟨b19, o20, none⟩)), (56, .bool (decide (((i : Nat) : Int) < ((nf : Nat) : Int)))), (8, .slice p7 (K.length) c7), (55, .int .i64 ((i : Nat) : Int)), (54, .int .i64 ((nf : Nat) : Int)), (53, .slice pf nf cf), (3, .slice p (A.length) c), (2, .pointer (some ⟨b2, 0, none⟩)), (1, .pointer (some ⟨b1, 0, none⟩))]) (fun x => [boxA b32 44 [.int .i64 (A.getD (((F.getD i (0, 0, 0)).1).toNat) 0), .int .i64 (A.getD (((F.getD i (0, 0, 0)).2.1).toNat) 0), .int .i64 (A.getD (((F.getD i (0, 0, 0)).2.2).toNat) 0)], boxA b22 44 [.int .i64 ((F.getD i (0, 0, 0)).1), .int .i64 ((F.getD i (0, 0, 0)).2.1), .int .i64 ((F.getD i (0, 0, 0)).2.2)], rowA 44 (rI3 .i64) p7 c7 K, boxA b2 25 [.slice none 0 0, .slice none 0 0], boxA b1 25 [.slice pv nv cv, .slice pf nf cf]]) (fun x => [atF b29 o30 [.int .i64 (A.getD (((F.getD i (0, 0, 0)).2.2).toNat) 0)], atF b26 o27 [.int .i64 (A.getD (((F.getD i (0, 0, 0)).2.1).toNat) 0)], atF b23 o24 [.int .i64 (A.getD (((F.getD i (0, 0, 0)).1).toNat) 0)], atF b19 o20 [.int .i64 ((F.getD i (0, 0, 0)).1), .int .i64 ((F.getD i (0, 0, 0)).2.1), .int .i64 ((F.getD i (0, 0, 0)).2.2)], slF (rI .i64) p c A, slF (rI3 .i64) pv cv V, slF (rI3 .i64) pf cf F]) ?_ ?_
   ·
    refine r_region ?_
    refine r_pv rfl rfl (pv_indexAddr_arr (i := 0) Try.underlying44 sz3 rfl rfl (by decide) rfl) ?_
    refine r_u rfl rfl (vl_load_box_one 0 ty3 rfl rfl rfl) ?_
    refine r_pv rfl rfl (pv_indexAddr_arr (i := 1) Try.underlying44 sz3 rfl rfl (by decide) rfl) ?_
    refine r_u rfl rfl (vl_load_box_one 0 ty3 rfl rfl rfl) ?_
    refine r_pv rfl rfl (pv_neq rfl rfl) ?_
    refine r_pv_dec rfl rfl (pv_move rfl) (fun h33 => ?_) (fun h33 => ?_)
    ·
     refine r_pv rfl rfl (pv_indexAddr_arr (i := 1) Try.underlying44 sz3 rfl rfl (by decide) rfl) ?_
     refine r_u rfl rfl (vl_load_box_one 0 ty3 rfl rfl rfl) ?_
     refine r_pv rfl rfl (pv_indexAddr_arr (i := 2) Try.underlying44 sz3 rfl rfl (by decide) rfl) ?_
     refine r_u rfl rfl (vl_load_box_one 0 ty3 rfl rfl rfl) ?_
     refine r_pv rfl rfl (pv_neq rfl rfl) ?_
     refine r_pv rfl rfl (pv_pick rfl rfl) ?_
     refine r_pv_dec rfl rfl (pv_move rfl) (fun h34 => ?_) (fun h34 => ?_)
     ·
      refine r_pv rfl rfl (pv_indexAddr_arr (i := 2) Try.underlying44 sz3 rfl rfl (by decide) rfl) ?_
      refine r_u rfl rfl (vl_load_box_one 0 ty3 rfl rfl rfl) ?_
      refine r_pv rfl rfl (pv_indexAddr_arr (i := 0) Try.underlying44 sz3 rfl rfl (by decide) rfl) ?_
      refine r_u rfl rfl (vl_load_box_one 0 ty3 rfl rfl rfl) ?_
      refine r_pv rfl rfl (pv_neq rfl rfl) ?_
      refine r_pv rfl rfl (pv_pick rfl rfl) ?_
      refine r_nil ?_
      exact p_cut () (show True from by first | trivial | omega | simp_all) ((.e rfl (congrArg Value.bool (by first | (simp_all; done) | (simp_all; omega) | (simp; omega) | omega)) (.of rfl)) : SubM _ _) (ho := ((.of [0, 0, 0, 0, 0] rfl) : PickO _ _ _)) ((.of [0, 1, 2, 3, 4, 5, 6] rfl) : SelR _ _ _)
     ·
      refine r_guard_no rfl rfl ?_
      refine r_guard_no rfl rfl ?_
      refine r_guard_no rfl rfl ?_
      refine r_guard_no rfl rfl ?_
      refine r_guard_no rfl rfl ?_
      refine r_pv rfl rfl (pv_pick rfl rfl) ?_
      refine r_nil ?_
      exact p_cut () (show True from by first | trivial | omega | simp_all) ((.e rfl (congrArg Value.bool (by first | (simp_all; done) | (simp_all; omega) | (simp; omega) | omega)) (.of rfl)) : SubM _ _) (ho := ((.of [0, 0, 0, 0, 0] rfl) : PickO _ _ _)) ((.of [0, 1, 2, 3, 4, 5, 6] rfl) : SelR _ _ _)
    ·
     refine r_guard_no rfl rfl ?_
     refine r_guard_no rfl rfl ?_
     refine r_guard_no rfl rfl ?_
     refine r_guard_no rfl rfl ?_
     refine r_guard_no rfl rfl ?_
     refine r_pv rfl rfl (pv_pick rfl rfl) ?_
     refine r_pv rfl rfl (pv_move rfl) ?_
     refine r_guard_no rfl rfl ?_
     refine r_guard_no rfl rfl ?_
     refine r_guard_no rfl rfl ?_
     refine r_guard_no rfl rfl ?_
     refine r_guard_no rfl rfl ?_
     refine r_pv rfl rfl (pv_pick rfl rfl) ?_
     refine r_nil ?_
     exact p_cut () (show True from by first | trivial | omega | simp_all) ((.e rfl (congrArg Value.bool (by first | (simp_all; done) | (simp_all; omega) | (simp; omega) | omega)) (.of rfl)) : SubM _ _) (ho := ((.of [0, 0, 0, 0, 0] rfl) : PickO _ _ _)) ((.of [0, 1, 2, 3, 4, 5, 6] rfl) : SelR _ _ _)
   ·
    rintro ⟨⟩ -
    show RunC _ _ _ _ _ [(93, .bool (decide ((((A.getD (((F.getD i (0, 0, 0)).1).toNat) 0) ≠ (A.getD (((F.getD i (0, 0, 0)).2.1).toNat) 0)) ∧ ((A.getD (((F.getD i (0, 0, 0)).2.1).toNat) 0) ≠ (A.getD (((F.getD i (0, 0, 0)).2.2).toNat) 0))) ∧ ((A.getD (((F.getD i (0, 0, 0)).2.2).toNat) 0) ≠ (A.getD (((F.getD i (0, 0, 0)).1).toNat) 0))))), (11, .pointer (some ⟨b32, 0, none⟩)), (74, .agg #[.int .i64 (A.getD (((F.getD i (0, 0, 0)).1).toNat) 0), .int .i64 (A.getD (((F.getD i (0, 0, 0)).2.1).toNat) 0), .int .i64 (A.getD (((F.getD i (0, 0, 0)).2.2).toNat) 0)]), (73, .int .i64 (A.getD (((F.getD i (0, 0, 0)).2.2).toNat) 0)), (72, .pointer (some ⟨b29, o30, none⟩)), (71, .int .i64 ((F.getD i (0, 0, 0)).2.2)), (70, .pointer (some ⟨b22, 2, none⟩)), (69, .slice p (A.length) c), (68, .int .i64 (A.getD (((F.getD i (0, 0, 0)).2.1).toNat) 0)), (67, .pointer (some ⟨b26, o27, none⟩)), (66, .int .i64 ((F.getD i (0, 0, 0)).2.1)), (65, .pointer (some ⟨b22, 1, none⟩)), (64, .slice p (A.length) c), (63, .int .i64 (A.getD (((F.getD i (0, 0, 0)).1).toNat) 0)), (62, .pointer (some ⟨b23, o24, none⟩)), (61, .int .i64 ((F.getD i (0, 0, 0)).1)), (60, .pointer (some ⟨b22, 0, none⟩)), (59, .slice p (A.length) c), (10, .pointer (some ⟨b22, 0, none⟩)), (58, .agg #[.int .i64 ((F.getD i (0, 0, 0)).1), .int .i64 ((F.getD i (0, 0, 0)).2.1), .int .i64 ((F.getD i (0, 0, 0)).2.2)]), (57, .pointer (some ⟨b19, o20, none⟩)), (56, .bool (decide (((i : Nat) : Int) < ((nf : Nat) : Int)))), (8, .slice p7 (K.length) c7), (55, .int .i64 ((i : Nat) : Int)), (54, .int .i64 ((nf : Nat) : Int)), (53, .slice pf nf cf), (3, .slice p (A.length) c), (2, .pointer (some ⟨b2, 0, none⟩)), (1, .pointer (some ⟨b1, 0, none⟩))] [boxA b32 44 [.int .i64 (A.getD (((F.getD i (0, 0, 0)).1).toNat) 0), .int .i64 (A.getD (((F.getD i (0, 0, 0)).2.1).toNat) 0), .int .i64 (A.getD (((F.getD i (0, 0, 0)).2.2).toNat) 0)], boxA b22 44 [.int .i64 ((F.getD i (0, 0, 0)).1), .int .i64 ((F.getD i (0, 0, 0)).2.1), .int .i64 ((F.getD i (0, 0, 0)).2.2)], rowA 44 (rI3 .i64) p7 c7 K, boxA b2 25 [.slice none 0 0, .slice none 0 0], boxA b1 25 [.slice pv nv cv, .slice pf nf cf]] [atF b29 o30 [.int .i64 (A.getD (((F.getD i (0, 0, 0)).2.2).toNat) 0)], atF b26 o27 [.int .i64 (A.getD (((F.getD i (0, 0, 0)).2.1).toNat) 0)], atF b23 o24 [.int .i64 (A.getD (((F.getD i (0, 0, 0)).1).toNat) 0)], atF b19 o20 [.int .i64 ((F.getD i (0, 0, 0)).1), .int .i64 ((F.getD i (0, 0, 0)).2.1), .int .i64 ((F.getD i (0, 0, 0)).2.2)], slF (rI .i64) p c A, slF (rI3 .i64) pv cv V, slF (rI3 .i64) pf cf F]
    refine r_cond rfl (fun hdeg => ?_) (fun hdeg => ?_)
    ·
     refine r_region ?_
     refine r_pv rfl rfl (pv_move rfl) ?_
     refine r_u rfl rfl (vl_load_box_agg 0 ty44 rfl rfl (.take (.take (.take .nil)))) ?_
     refine r_ef0 rfl rfl (ef_buildSlice_fl (enc := fun z : Int × Int × Int => [.int .i64 z.1, .int .i64 z.2.1, .int .i64 z.2.2]) (ok := fun z => InK .i64 z.1 ∧ InK .i64 z.2.1 ∧ InK .i64 z.2.2) (h1 := fun _ => rfl) (h2 := fun _ => rfl) (k := 1) Try.underlying23 inf44 rfl (by decide) (by decide) (by decide) (.c (x := ((A.getD (((F.getD i (0, 0, 0)).1).toNat) 0), (A.getD (((F.getD i (0, 0, 0)).2.1).toNat) 0), (A.getD (((F.getD i (0, 0, 0)).2.2).toNat) 0))) rfl rfl (fun _ _ => by exact ⟨inK_i64.2 (by first | omega | decide | (dsimp only; omega)), inK_i64.2 (by first | omega | decide | (dsimp only; omega)), inK_i64.2 (by first | omega | decide | (dsimp only; omega))⟩) .n)) (fun b35 _ => ?_)
     refine r_freeze 0 rfl .z ?_
     refine r_ef1 3 rfl rfl rfl (ef_append 0 rfl Try.underlying23 inf44 (by decide) rfl rfl (by first | rfl | assumption | (simp; done) | omega) rfl (by first | rfl | assumption | (simp; done) | omega) (by omega) (by omega)) (fun _ => (.s (.s (.s .z)))) ?_
     rintro ⟨p36, c37⟩ -
     dsimp only [List.append_eq, List.nil_append, List.cons_append]
     refine r_pv rfl rfl (pv_assign rfl) ?_
     refine r_nil ?_
     refine p_block ?_
     refine p_then ?_
     refine r_region ?_
     refine r_pv rfl rfl (pv_add (z := (((i + 1) : Nat) : Int)) rfl rfl (w64 (by omega))) ?_
     refine r_pv rfl rfl (pv_move rfl) ?_
     refine r_nil ?_
     refine p_next ((i + 1), p36, c37, (K ++ ([((A.getD (((F.getD i (0, 0, 0)).1).toNat) 0), (A.getD (((F.getD i (0, 0, 0)).2.1).toNat) 0), (A.getD (((F.getD i (0, 0, 0)).2.2).toNat) 0))]))) (show (i + 1) ≤ nf ∧ (K ++ ([((A.getD (((F.getD i (0, 0, 0)).1).toNat) 0), (A.getD (((F.getD i (0, 0, 0)).2.1).toNat) 0), (A.getD (((F.getD i (0, 0, 0)).2.2).toNat) 0))])) = Ms.keptF V (F.take (i + 1)) from by exact ⟨by omega, by rw [e0, e1, e2] at *; rw [Ms.kept_take (by omega), if_neg (by rw [Ms.deg_iff.2 (by simp only [Ms.wf]; omega)]; decide), hK]; rfl⟩) (by show nf - (i + 1) < nf - i; omega) ((.e rfl (by simp) (.of rfl)) : SubM _ _) (ho := ((.of [3, 3, 3] rfl) : PickO _ _ _)) ((.of [5, 6, 7] rfl) : SelR _ _ _)
    ·
     refine r_skip ?_
     refine p_block ?_
     refine p_then ?_
     refine r_region ?_
     refine r_pv rfl rfl (pv_add (z := (((i + 1) : Nat) : Int)) rfl rfl (w64 (by omega))) ?_
     refine r_pv rfl rfl (pv_move rfl) ?_
     refine r_nil ?_
     refine p_next ((i + 1), p7, c7, K) (show (i + 1) ≤ nf ∧ K = Ms.keptF V (F.take (i + 1)) from by exact ⟨by omega, by rw [e0, e1, e2] at hdeg; rw [Ms.kept_take (by omega), if_pos (show Ms.deg (Ms.wf V (F.getD i (0, 0, 0))) = true from decide_eq_true (by simp only [Ms.wf]; omega)), List.append_nil, hK]⟩) (by show nf - (i + 1) < nf - i; omega) ((.of rfl) : SubM _ _) (ho := ((.of [2, 2, 2] rfl) : PickO _ _ _)) ((.of [4, 5, 6] rfl) : SelR _ _ _)
  ·
   refine r_exit ?_
   refine p_then_exit ?_
   refine p_then_exit ?_
   refine p_block_here ?_
   refine p_then ?_
   refine r_seq ?_
   have hKf : K = Ms.keptF V F := by rw [hK, List.take_of_length_le (by omega)]
   have hKl : K.length ≤ nf := by rw [hKf, ← hnf]; exact Ms.kept_len
   refine c_freeze 0 rfl .z ?_
   refine r_region ?_
   refine r_pv rfl rfl (pv_build_struct zr25 rfl Try.underlying25 (.c sz22 (.c sz23 .n)) .n .n) ?_
   refine r_new rfl rfl (ef_alloc zr25 rfl) (fun b38 => ?_)
   refine r_store_box 0 rfl rfl rfl rfl rfl sz25 rfl (.take (.take .nil)) .z ?_
   refine r_nil ?_
   refine p_then ?_
   refine r_seq ?_
   refine r_region ?_
   refine r_ef0 rfl rfl (ef_makeMap (κ := Int) (ν := Int) (fun z : Int => .int .i64 z) (fun z : Int => .int .i64 z) (InK .i64)) (fun b39 _ => ?_)
   refine r_pv rfl rfl (pv_assign rfl) ?_
   refine r_nil ?_
   refine p_then ?_
   refine r_seq ?_
   refine r_seq ?_
   refine c_nilrow 42 (rI3 .i64) ?_
   refine r_region ?_
   refine r_pv rfl rfl (pv_fieldAddr Try.underlying25 rfl sz22 rfl rfl) ?_
   refine r_u rfl rfl (vl_load_box_one 5 ty22 rfl rfl rfl) ?_
   refine r_pv rfl rfl (pv_len Try.underlying22 rfl) ?_
   refine r_pv rfl rfl (pv_move rfl) ?_
   refine r_nil ?_
   refine p_then ?_
   refine r_block ?_
   refine r_loop (X := Nat × (Option Addr) × Nat × (List (Int × Int × Int)) × (List (Int × Int))) (fun x : Nat × (Option Addr) × Nat × (List (Int × Int × Int)) × (List (Int × Int)) => x.1 ≤ nv ∧ x.2.2.2.1 = Ms.pickV V K x.1 ∧ Ms.Numbers K x.1 x.2.2.2.2) (fun x => [(104, .int .i64 ((x.1 : Nat) : Int)), (103, .int .i64 ((nv : Nat) : Int)), (102, .slice pv nv cv), (13, .map (some b39)), (12, .pointer (some ⟨b38, 0, none⟩)), (8, .slice p7 (K.length) c7), (2, .pointer (some ⟨b2, 0, none⟩))]) (fun x => [rowA 42 (rI3 .i64) (x.2.1) (x.2.2.1) (x.2.2.2.1), mapA b39 (fun z : Int => .int .i64 z) (fun z : Int => .int .i64 z) (InK .i64) (x.2.2.2.2), boxA b38 25 [.slice (x.2.1) (x.2.2.2.1.length) (x.2.2.1), .slice none 0 0], boxA b2 25 [.slice none 0 0, .slice none 0 0], boxA b1 25 [.slice pv nv cv, .slice pf nf cf]]) (fun x => [slF (rI3 .i64) p7 c7 K, slF (rI .i64) p c A, slF (rI3 .i64) pv cv V, slF (rI3 .i64) pf cf F]) (fun x : Nat × (Option Addr) × Nat × (List (Int × Int × Int)) × (List (Int × Int)) => nv - x.1) (0, none, 0, ([] : List (Int × Int × Int)), ([] : List (Int × Int))) (show 0 ≤ nv ∧ ([] : List (Int × Int × Int)) = Ms.pickV V K 0 ∧ Ms.Numbers K 0 ([] : List (Int × Int)) from by exact ⟨Nat.zero_le _, rfl, Ms.Numbers.start K⟩) ((.e rfl (by first | rfl | (congr 1; omega) | simp_all) (.of rfl)) : SubM _ _) (ho := ((.e (i := 0) rfl (by first | rfl | (congr 1; omega) | simp_all) (.e (i := 0) rfl (by first | rfl | (congr 1; omega) | simp_all) (.e (i := 0) rfl (by first | rfl | (congr 1; omega) | simp_all) (.of [1, 1] rfl)))) : PickO _ _ _)) ((.of [0, 1, 2, 3] rfl) : SelR _ _ _) ?_
   rintro ⟨i, p9, c9, W, nm⟩ hI
   replace hI : i ≤ nv ∧ W = Ms.pickV V K i ∧ Ms.Numbers K i nm := hI
   show RunC _ _ _ _ _ [(104, .int .i64 ((i : Nat) : Int)), (103, .int .i64 ((nv : Nat) : Int)), (102, .slice pv nv cv), (13, .map (some b39)), (12, .pointer (some ⟨b38, 0, none⟩)), (8, .slice p7 (K.length) c7), (2, .pointer (some ⟨b2, 0, none⟩))] [rowA 42 (rI3 .i64) p9 c9 W, mapA b39 (fun z : Int => .int .i64 z) (fun z : Int => .int .i64 z) (InK .i64) nm, boxA b38 25 [.slice p9 (W.length) c9, .slice none 0 0], boxA b2 25 [.slice none 0 0, .slice none 0 0], boxA b1 25 [.slice pv nv cv, .slice pf nf cf]] [slF (rI3 .i64) p7 c7 K, slF (rI .i64) p c A, slF (rI3 .i64) pv cv V, slF (rI3 .i64) pf cf F]
   obtain ⟨hi, hW, hN⟩ := hI
   have hWl : W.length = Ms.rank K i := by rw [hW]; exact Ms.pickV_len _ _ _
   have hWi := Ms.rank_le K i
   refine r_seq ?_
   refine r_region ?_
   refine r_pv rfl rfl (pv_lss rfl rfl) ?_
   refine r_nil ?_
   refine p_then ?_
   refine r_seq ?_
   refine r_cond rfl (fun h40 => ?_) (fun h40 => ?_)
   ·
    refine r_skip ?_
    refine p_then ?_
    refine r_cut (X := (Option Addr) × Nat × (List (Int × Int × Int)) × (List (Int × Int))) (fun x => x.2.2.1 = Ms.pickV V K (i + 1) ∧ Ms.Numbers K (i + 1) x.2.2.2) (fun x => [(105, .bool (decide (((i : Nat) : Int) < ((nv : Nat) : Int)))), (104, .int .i64 ((i : Nat) : Int)), (103, .int .i64 ((nv : Nat) : Int)), (102, .slice pv nv cv), (13, .map (some b39)), (12, .pointer (some ⟨b38, 0, none⟩)), (8, .slice p7 (K.length) c7), (2, .pointer (some ⟨b2, 0, none⟩))]) (fun x => [rowA 42 (rI3 .i64) (x.1) (x.2.1) (x.2.2.1), mapA b39 (fun z : Int => .int .i64 z) (fun z : Int => .int .i64 z) (InK .i64) (x.2.2.2), boxA b38 25 [.slice (x.1) (x.2.2.1.length) (x.2.1), .slice none 0 0], boxA b2 25 [.slice none 0 0, .slice none 0 0], boxA b1 25 [.slice pv nv cv, .slice pf nf cf]]) (fun x => [slF (rI3 .i64) p7 c7 K, slF (rI .i64) p c A, slF (rI3 .i64) pv cv V, slF (rI3 .i64) pf cf F]) ?_ ?_
    ·
     refine r_block ?_
     refine r_seq ?_
     refine r_region ?_
     refine r_pv rfl rfl (pv_move rfl) ?_
     refine r_index_fl (x0 := (V.getD i (0, 0, 0))) 2 i rfl Try.underlying22 sz42 rfl rfl rfl (by first | rfl | assumption | (simp; done) | omega) rfl rfl (gD (d := (0, 0, 0)) (by omega)) (fun b41 o42 hok43 => ?_)
     obtain ⟨hok43x, hok43y, hok43z⟩ := hok43
     replace hok43x := inK_i64.1 hok43x
     replace hok43y := inK_i64.1 hok43y
     replace hok43z := inK_i64.1 hok43z
     refine r_u rfl rfl (vl_load_at_agg (j := 0) 0 ty42 rfl rfl rfl (.take (.take (.take .nil)))) ?_
     refine r_new rfl rfl (ef_alloc zr42 rfl) (fun b44 => ?_)
     refine r_pv rfl rfl (pv_assign rfl) ?_
     refine r_store_box 0 rfl rfl rfl rfl rfl sz42 rfl (.take (.take (.take .nil))) .z ?_
     refine r_nil ?_
     refine p_then ?_
     refine r_seq ?_
     refine r_region ?_
     refine r_pv rfl rfl (pv_move rfl) ?_
     refine r_pv rfl rfl (pv_len Try.underlying23 rfl) ?_
     refine r_pv rfl rfl (pv_move rfl) ?_
     refine r_nil ?_
     refine p_then ?_
     refine r_block ?_
     refine r_loop (X := Nat) (fun x : Nat => x ≤ K.length ∧ ∀ k, k < x → Ms.hasV (K.getD k (0, 0, 0)) (i : Int) = false) (fun x => [(111, .int .i64 ((x : Nat) : Int)), (110, .int .i64 ((K.length : Nat) : Int)), (109, .slice p7 (K.length) c7), (14, .int .i64 ((i : Nat) : Int)), (15, .pointer (some ⟨b44, 0, none⟩)), (108, .agg #[.int .i64 ((V.getD i (0, 0, 0)).1), .int .i64 ((V.getD i (0, 0, 0)).2.1), .int .i64 ((V.getD i (0, 0, 0)).2.2)]), (107, .pointer (some ⟨b41, o42, none⟩)), (106, .int .i64 ((i : Nat) : Int)), (105, .bool (decide (((i : Nat) : Int) < ((nv : Nat) : Int)))), (104, .int .i64 ((i : Nat) : Int)), (103, .int .i64 ((nv : Nat) : Int)), (102, .slice pv nv cv), (13, .map (some b39)), (12, .pointer (some ⟨b38, 0, none⟩)), (8, .slice p7 (K.length) c7), (2, .pointer (some ⟨b2, 0, none⟩))]) (fun x => [boxA b44 42 [.int .i64 ((V.getD i (0, 0, 0)).1), .int .i64 ((V.getD i (0, 0, 0)).2.1), .int .i64 ((V.getD i (0, 0, 0)).2.2)], rowA 42 (rI3 .i64) p9 c9 W, mapA b39 (fun z : Int => .int .i64 z) (fun z : Int => .int .i64 z) (InK .i64) nm, boxA b38 25 [.slice p9 (W.length) c9, .slice none 0 0], boxA b2 25 [.slice none 0 0, .slice none 0 0], boxA b1 25 [.slice pv nv cv, .slice pf nf cf]]) (fun x => [atF b41 o42 [.int .i64 ((V.getD i (0, 0, 0)).1), .int .i64 ((V.getD i (0, 0, 0)).2.1), .int .i64 ((V.getD i (0, 0, 0)).2.2)], slF (rI3 .i64) p7 c7 K, slF (rI .i64) p c A, slF (rI3 .i64) pv cv V, slF (rI3 .i64) pf cf F]) (fun x : Nat => K.length - x) 0 (show 0 ≤ K.length ∧ ∀ k, k < 0 → Ms.hasV (K.getD k (0, 0, 0)) (i : Int) = false from by exact ⟨Nat.zero_le _, fun k h => by omega⟩) ((.e rfl (by first | rfl | (congr 1; omega) | simp_all) (.of rfl)) : SubM _ _) (ho := ((.of [0, 0, 0, 0, 0, 0] rfl) : PickO _ _ _)) ((.of [0, 1, 2, 3, 4] rfl) : SelR _ _ _) ?_
     rintro j hJ
     replace hJ : j ≤ K.length ∧ ∀ k, k < j → Ms.hasV (K.getD k (0, 0, 0)) (i : Int) = false := hJ
     show RunC _ _ _ _ _ [(111, .int .i64 ((j : Nat) : Int)), (110, .int .i64 ((K.length : Nat) : Int)), (109, .slice p7 (K.length) c7), (14, .int .i64 ((i : Nat) : Int)), (15, .pointer (some ⟨b44, 0, none⟩)), (108, .agg #[.int .i64 ((V.getD i (0, 0, 0)).1), .int .i64 ((V.getD i (0, 0, 0)).2.1), .int .i64 ((V.getD i (0, 0, 0)).2.2)]), (107, .pointer (some ⟨b41, o42, none⟩)), (106, .int .i64 ((i : Nat) : Int)), (105, .bool (decide (((i : Nat) : Int) < ((nv : Nat) : Int)))), (104, .int .i64 ((i : Nat) : Int)), (103, .int .i64 ((nv : Nat) : Int)), (102, .slice pv nv cv), (13, .map (some b39)), (12, .pointer (some ⟨b38, 0, none⟩)), (8, .slice p7 (K.length) c7), (2, .pointer (some ⟨b2, 0, none⟩))] [boxA b44 42 [.int .i64 ((V.getD i (0, 0, 0)).1), .int .i64 ((V.getD i (0, 0, 0)).2.1), .int .i64 ((V.getD i (0, 0, 0)).2.2)], rowA 42 (rI3 .i64) p9 c9 W, mapA b39 (fun z : Int => .int .i64 z) (fun z : Int => .int .i64 z) (InK .i64) nm, boxA b38 25 [.slice p9 (W.length) c9, .slice none 0 0], boxA b2 25 [.slice none 0 0, .slice none 0 0], boxA b1 25 [.slice pv nv cv, .slice pf nf cf]] [atF b41 o42 [.int .i64 ((V.getD i (0, 0, 0)).1), .int .i64 ((V.getD i (0, 0, 0)).2.1), .int .i64 ((V.getD i (0, 0, 0)).2.2)], slF (rI3 .i64) p7 c7 K, slF (rI .i64) p c A, slF (rI3 .i64) pv cv V, slF (rI3 .i64) pf cf F]
     obtain ⟨hj, hno⟩ := hJ
     refine r_seq ?_
     refine r_region ?_
     refine r_pv rfl rfl (pv_lss rfl rfl) ?_
     refine r_nil ?_
     refine p_then ?_
     refine r_seq ?_
     refine r_cond rfl (fun h45 => ?_) (fun h45 => ?_)
     ·
      refine r_skip ?_
      refine p_then ?_
      refine r_seq ?_
      refine r_block ?_
      refine r_seq ?_
      refine r_region ?_
      refine r_index_fl (x0 := (K.getD j (0, 0, 0))) 1 j rfl Try.underlying23 sz44 rfl rfl rfl (by first | rfl | assumption | (simp; done) | omega) rfl rfl (gD (d := (0, 0, 0)) (by omega)) (fun b46 o47 hok48 => ?_)
      obtain ⟨hok48x, hok48y, hok48z⟩ := hok48
      replace hok48x := inK_i64.1 hok48x
      replace hok48y := inK_i64.1 hok48y
      replace hok48z := inK_i64.1 hok48z
      refine r_u rfl rfl (vl_load_at_agg (j := 0) 0 ty44 rfl rfl rfl (.take (.take (.take .nil)))) ?_
      refine r_new rfl rfl (ef_alloc zr44 rfl) (fun b49 => ?_)
      refine r_store_box 0 rfl rfl rfl rfl rfl sz44 rfl (.take (.take (.take .nil))) .z ?_
      refine r_nil ?_
      refine p_then ?_
      refine r_seq ?_
      refine r_region ?_
      refine r_u rfl rfl (vl_load_box_agg 0 ty44 rfl rfl (.take (.take (.take .nil)))) ?_
      refine r_pv rfl rfl (pv_move rfl) ?_
      refine r_call1 rfl rfl (.c rfl (.c rfl .n)) ce52 (con_has (ex := (K.getD j (0, 0, 0)).1) (ey := (K.getD j (0, 0, 0)).2.1) (ez := (K.getD j (0, 0, 0)).2.2) (w := ((i : Nat) : Int)) ) (.n) ?_
      refine r_nil ?_
      refine p_then ?_
      refine r_condb rfl (fun hhas => ?_) (fun hhas => ?_)
      ·
       refine r_seq ?_
       refine r_region ?_
       refine r_pv rfl rfl (pv_move rfl) ?_
       refine r_pv rfl rfl (pv_move rfl) ?_
       refine r_pv rfl rfl (pv_fieldAddr Try.underlying25 rfl sz22 rfl rfl) ?_
       refine r_u rfl rfl (vl_load_box_one 4 ty22 rfl rfl rfl) ?_
       refine r_pv rfl rfl (pv_len Try.underlying22 rfl) ?_
       refine r_ef1 3 rfl rfl rfl (ef_update (a0 := ((i : Nat) : Int)) (v := ((W.length : Nat) : Int)) ky3 Try.underlying76 rfl rfl rfl (inK_i64.2 (by omega))) (fun _ => (.s (.s (.s .z)))) (fun _ _ => ?_)
       refine r_nil ?_
       refine p_then ?_
       refine r_seq ?_
       refine r_region ?_
       refine r_pv rfl rfl (pv_fieldAddr Try.underlying25 rfl sz22 rfl rfl) ?_
       refine r_u rfl rfl (vl_load_box_one 4 ty22 rfl rfl rfl) ?_
       refine r_u rfl rfl (vl_load_box_agg 1 ty42 rfl rfl (.take (.take (.take .nil)))) ?_
       refine r_ef0 rfl rfl (ef_buildSlice_fl (enc := fun z : Int × Int × Int => [.int .i64 z.1, .int .i64 z.2.1, .int .i64 z.2.2]) (ok := fun z => InK .i64 z.1 ∧ InK .i64 z.2.1 ∧ InK .i64 z.2.2) (h1 := fun _ => rfl) (h2 := fun _ => rfl) (k := 1) Try.underlying22 inf42 rfl (by decide) (by decide) (by decide) (.c (x := ((V.getD i (0, 0, 0)).1, (V.getD i (0, 0, 0)).2.1, (V.getD i (0, 0, 0)).2.2)) rfl rfl (fun _ _ => by exact ⟨inK_i64.2 (by first | omega | decide | (dsimp only; omega)), inK_i64.2 (by first | omega | decide | (dsimp only; omega)), inK_i64.2 (by first | omega | decide | (dsimp only; omega))⟩) .n)) (fun b50 _ => ?_)
       refine r_freeze 0 rfl .z ?_
       refine r_ef1 3 rfl rfl rfl (ef_append 0 rfl Try.underlying22 inf42 (by decide) rfl rfl (by first | rfl | assumption | (simp; done) | omega) rfl (by first | rfl | assumption | (simp; done) | omega) (by omega) (by omega)) (fun _ => (.s (.s (.s .z)))) ?_
       rintro ⟨p51, c52⟩ -
       dsimp only [List.append_eq, List.nil_append, List.cons_append]
       refine r_pv rfl rfl (pv_fieldAddr Try.underlying25 rfl sz22 rfl rfl) ?_
       refine r_store_box 5 rfl rfl rfl rfl rfl sz22 rfl (.take .nil) (.s (.s (.s (.s (.s .z))))) ?_
       refine r_nil ?_
       refine p_then ?_
       refine r_exit ?_
       refine p_block_past rfl ?_
       refine p_then_exit ?_
       refine p_then_exit ?_
       refine p_block_here ?_
       refine p_block ?_
       exact p_cut (p51, c52, (W ++ ([((V.getD i (0, 0, 0)).1, (V.getD i (0, 0, 0)).2.1, (V.getD i (0, 0, 0)).2.2)])), mput nm ((i : Nat) : Int) ((W.length : Nat) : Int)) (show (W ++ ([((V.getD i (0, 0, 0)).1, (V.getD i (0, 0, 0)).2.1, (V.getD i (0, 0, 0)).2.2)])) = Ms.pickV V K (i + 1) ∧ Ms.Numbers K (i + 1) (mput nm ((i : Nat) : Int) ((W.length : Nat) : Int)) from by exact ⟨by rw [Ms.pickV_succ, if_pos (Ms.usedB_hit (by omega) hhas), hW], by rw [hWl]; exact hN.hit⟩) ((.of rfl) : SubM _ _) (ho := ((.c (i := 3) rfl (.c (i := 3) rfl (.e (i := 3) rfl (by first | rfl | (congr 1; omega) | simp_all) (.of [3, 3] rfl)))) : PickO _ _ _)) ((.of [3, 4, 5, 6] rfl) : SelR _ _ _)
      ·
       refine r_skip ?_
       refine p_block ?_
       refine p_then ?_
       refine r_region ?_
       refine r_pv rfl rfl (pv_add (z := (((j + 1) : Nat) : Int)) rfl rfl (w64 (by omega))) ?_
       refine r_pv rfl rfl (pv_move rfl) ?_
       refine r_nil ?_
       refine p_next (j + 1) (show (j + 1) ≤ K.length ∧ ∀ k, k < (j + 1) → Ms.hasV (K.getD k (0, 0, 0)) (i : Int) = false from by exact ⟨by omega, Ms.all_lt_succ (P := fun k => Ms.hasV (K.getD k (0, 0, 0)) (i : Int) = false) hno (by simpa using hhas)⟩) (by show K.length - (j + 1) < K.length - j; omega) ((.of rfl) : SubM _ _) (ho := ((.of [1, 1, 1, 1, 1, 1] rfl) : PickO _ _ _)) ((.of [1, 2, 3, 4, 5] rfl) : SelR _ _ _)
     ·
      refine r_exit ?_
      refine p_then_exit ?_
      refine p_then_exit ?_
      refine p_block_here ?_
      refine p_block ?_
      exact p_cut (p9, c9, W, nm) (show W = Ms.pickV V K (i + 1) ∧ Ms.Numbers K (i + 1) nm from by exact ⟨by rw [Ms.pickV_succ, if_neg (by rw [Ms.usedB_miss (fun k hk => hno k (by omega))]; decide), List.append_nil, hW], hN.miss (Ms.usedB_miss (fun k hk => hno k (by omega)))⟩) ((.of rfl) : SubM _ _) (ho := ((.of [1, 1, 1, 1, 1] rfl) : PickO _ _ _)) ((.of [1, 2, 3, 4] rfl) : SelR _ _ _)
    ·
     rintro ⟨p10, c10, W2, nm2⟩ hC
     replace hC : W2 = Ms.pickV V K (i + 1) ∧ Ms.Numbers K (i + 1) nm2 := hC
     show RunC _ _ _ _ _ [(105, .bool (decide (((i : Nat) : Int) < ((nv : Nat) : Int)))), (104, .int .i64 ((i : Nat) : Int)), (103, .int .i64 ((nv : Nat) : Int)), (102, .slice pv nv cv), (13, .map (some b39)), (12, .pointer (some ⟨b38, 0, none⟩)), (8, .slice p7 (K.length) c7), (2, .pointer (some ⟨b2, 0, none⟩))] [rowA 42 (rI3 .i64) p10 c10 W2, mapA b39 (fun z : Int => .int .i64 z) (fun z : Int => .int .i64 z) (InK .i64) nm2, boxA b38 25 [.slice p10 (W2.length) c10, .slice none 0 0], boxA b2 25 [.slice none 0 0, .slice none 0 0], boxA b1 25 [.slice pv nv cv, .slice pf nf cf]] [slF (rI3 .i64) p7 c7 K, slF (rI .i64) p c A, slF (rI3 .i64) pv cv V, slF (rI3 .i64) pf cf F]
     refine r_region ?_
     refine r_pv rfl rfl (pv_add (z := (((i + 1) : Nat) : Int)) rfl rfl (w64 (by omega))) ?_
     refine r_pv rfl rfl (pv_move rfl) ?_
     refine r_nil ?_
     refine p_next ((i + 1), p10, c10, W2, nm2) (show (i + 1) ≤ nv ∧ W2 = Ms.pickV V K (i + 1) ∧ Ms.Numbers K (i + 1) nm2 from by exact ⟨by omega, hC.1, hC.2⟩) (by show nv - (i + 1) < nv - i; omega) ((.of rfl) : SubM _ _) (ho := ((.of [0, 0, 0, 0, 0] rfl) : PickO _ _ _)) ((.of [0, 1, 2, 3] rfl) : SelR _ _ _)
   ·
    refine r_exit ?_
    refine p_then_exit ?_
    refine p_then_exit ?_
    refine p_block_here ?_
    refine p_then ?_
    refine r_seq ?_
    refine r_seq ?_
    have hNn : Ms.Numbers K nv nm := by have h9 : i = nv := (by omega); rw [h9] at hN; exact hN
    have hWn : W = Ms.pickV V K nv := by have h9 : i = nv := (by omega); rw [h9] at hW; exact hW
    refine c_freeze 0 rfl .z ?_
    refine c_nilrow 44 (rI3 .i64) ?_
    refine r_region ?_
    refine r_pv rfl rfl (pv_move rfl) ?_
    refine r_pv rfl rfl (pv_len Try.underlying23 rfl) ?_
    refine r_pv rfl rfl (pv_move rfl) ?_
    refine r_nil ?_
    refine p_then ?_
    refine r_block ?_
    refine r_loop (X := Nat × (Option Addr) × Nat × (List (Int × Int × Int))) (fun x : Nat × (Option Addr) × Nat × (List (Int × Int × Int)) => x.1 ≤ K.length ∧ x.2.2.2 = (K.take x.1).map (Ms.rk K)) (fun x => [(133, .int .i64 ((x.1 : Nat) : Int)), (132, .int .i64 ((K.length : Nat) : Int)), (131, .slice p7 (K.length) c7), (13, .map (some b39)), (12, .pointer (some ⟨b38, 0, none⟩)), (2, .pointer (some ⟨b2, 0, none⟩))]) (fun x => [rowA 44 (rI3 .i64) (x.2.1) (x.2.2.1) (x.2.2.2), mapA b39 (fun z : Int => .int .i64 z) (fun z : Int => .int .i64 z) (InK .i64) nm, boxA b38 25 [.slice p9 (W.length) c9, .slice (x.2.1) (x.2.2.2.length) (x.2.2.1)], boxA b2 25 [.slice none 0 0, .slice none 0 0], boxA b1 25 [.slice pv nv cv, .slice pf nf cf]]) (fun x => [slF (rI3 .i64) p9 c9 W, slF (rI3 .i64) p7 c7 K, slF (rI .i64) p c A, slF (rI3 .i64) pv cv V, slF (rI3 .i64) pf cf F]) (fun x : Nat × (Option Addr) × Nat × (List (Int × Int × Int)) => K.length - x.1) (0, none, 0, ([] : List (Int × Int × Int))) (show 0 ≤ K.length ∧ ([] : List (Int × Int × Int)) = (K.take 0).map (Ms.rk K) from by exact ⟨Nat.zero_le _, rfl⟩) ((.e rfl (by first | rfl | (congr 1; omega) | simp_all) (.of rfl)) : SubM _ _) (ho := ((.e (i := 0) rfl (by first | rfl | (congr 1; omega) | simp_all) (.c (i := 1) rfl (.e (i := 1) rfl (by first | rfl | (congr 1; omega) | simp_all) (.of [1, 1] rfl)))) : PickO _ _ _)) ((.of [0, 1, 2, 3, 4] rfl) : SelR _ _ _) ?_
    rintro ⟨i, p11, c11, A2⟩ hI
    replace hI : i ≤ K.length ∧ A2 = (K.take i).map (Ms.rk K) := hI
    show RunC _ _ _ _ _ [(133, .int .i64 ((i : Nat) : Int)), (132, .int .i64 ((K.length : Nat) : Int)), (131, .slice p7 (K.length) c7), (13, .map (some b39)), (12, .pointer (some ⟨b38, 0, none⟩)), (2, .pointer (some ⟨b2, 0, none⟩))] [rowA 44 (rI3 .i64) p11 c11 A2, mapA b39 (fun z : Int => .int .i64 z) (fun z : Int => .int .i64 z) (InK .i64) nm, boxA b38 25 [.slice p9 (W.length) c9, .slice p11 (A2.length) c11], boxA b2 25 [.slice none 0 0, .slice none 0 0], boxA b1 25 [.slice pv nv cv, .slice pf nf cf]] [slF (rI3 .i64) p9 c9 W, slF (rI3 .i64) p7 c7 K, slF (rI .i64) p c A, slF (rI3 .i64) pv cv V, slF (rI3 .i64) pf cf F]
    obtain ⟨hi, hA2⟩ := hI
    have hAl2 : A2.length ≤ nf := by rw [hA2, List.length_map, List.length_take]; omega
    refine r_seq ?_
    refine r_region ?_
    refine r_pv rfl rfl (pv_lss rfl rfl) ?_
    refine r_nil ?_
    refine p_then ?_
    refine r_seq ?_
    refine r_cond rfl (fun h53 => ?_) (fun h53 => ?_)
    ·
     have hkm := Ms.kept_mem hg (f := K.getD i (0, 0, 0)) (by rw [← hKf]; exact Ms.getD_mem _ (by omega))
     have hub := Ms.used_of (K := K) (f := K.getD i (0, 0, 0)) (Ms.getD_mem _ (by omega)) (by omega) (by omega) (by omega)
     have hn1 := Ms.num_get hNn (v := (K.getD i (0, 0, 0)).1) (by omega) (by omega) hub.1
     have hn2 := Ms.num_get hNn (v := (K.getD i (0, 0, 0)).2.1) (by omega) (by omega) hub.2.1
     have hn3 := Ms.num_get hNn (v := (K.getD i (0, 0, 0)).2.2) (by omega) (by omega) hub.2.2
     have hr0 := Ms.rank_le K (K.getD i (0, 0, 0)).1.toNat
     have hr1 := Ms.rank_le K (K.getD i (0, 0, 0)).2.1.toNat
     have hr2 := Ms.rank_le K (K.getD i (0, 0, 0)).2.2.toNat
     refine r_skip ?_
     refine p_then ?_
     refine r_seq ?_
     refine r_block ?_
     refine r_seq ?_
     refine r_region ?_
     refine r_index_fl (x0 := (K.getD i (0, 0, 0))) 1 i rfl Try.underlying23 sz44 rfl rfl rfl (by first | rfl | assumption | (simp; done) | omega) rfl rfl (gD (d := (0, 0, 0)) (by omega)) (fun b54 o55 hok56 => ?_)
     obtain ⟨hok56x, hok56y, hok56z⟩ := hok56
     replace hok56x := inK_i64.1 hok56x
     replace hok56y := inK_i64.1 hok56y
     replace hok56z := inK_i64.1 hok56z
     refine r_u rfl rfl (vl_load_at_agg (j := 0) 0 ty44 rfl rfl rfl (.take (.take (.take .nil)))) ?_
     refine r_new rfl rfl (ef_alloc zr44 rfl) (fun b57 => ?_)
     refine r_store_box 0 rfl rfl rfl rfl rfl sz44 rfl (.take (.take (.take .nil))) .z ?_
     refine r_nil ?_
     refine p_then ?_
     refine r_region ?_
     refine r_pv rfl rfl (pv_fieldAddr Try.underlying25 rfl sz23 rfl rfl) ?_
     refine r_u rfl rfl (vl_load_box_one 3 ty23 rfl rfl rfl) ?_
     refine r_pv rfl rfl (pv_move rfl) ?_
     refine r_pv rfl rfl (pv_indexAddr_arr (i := 0) Try.underlying44 sz3 rfl rfl (by decide) rfl) ?_
     refine r_u rfl rfl (vl_load_box_one 0 ty3 rfl rfl rfl) ?_
     refine r_u rfl rfl (vl_lookup1 (z := 0) (a0 := (K.getD i (0, 0, 0)).1) (v := .int .i64 ((mget nm ((K.getD i (0, 0, 0)).1)).getD 0)) 2 rfl ky3 Try.underlying76 zr3 rfl rfl (inK_i64.2 (by omega)) rfl) ?_
     refine r_pv rfl rfl (pv_move rfl) ?_
     refine r_pv rfl rfl (pv_indexAddr_arr (i := 1) Try.underlying44 sz3 rfl rfl (by decide) rfl) ?_
     refine r_u rfl rfl (vl_load_box_one 0 ty3 rfl rfl rfl) ?_
     refine r_u rfl rfl (vl_lookup1 (z := 0) (a0 := (K.getD i (0, 0, 0)).2.1) (v := .int .i64 ((mget nm ((K.getD i (0, 0, 0)).2.1)).getD 0)) 2 rfl ky3 Try.underlying76 zr3 rfl rfl (inK_i64.2 (by omega)) rfl) ?_
     refine r_pv rfl rfl (pv_move rfl) ?_
     refine r_pv rfl rfl (pv_indexAddr_arr (i := 2) Try.underlying44 sz3 rfl rfl (by decide) rfl) ?_
     refine r_u rfl rfl (vl_load_box_one 0 ty3 rfl rfl rfl) ?_
     refine r_u rfl rfl (vl_lookup1 (z := 0) (a0 := (K.getD i (0, 0, 0)).2.2) (v := .int .i64 ((mget nm ((K.getD i (0, 0, 0)).2.2)).getD 0)) 2 rfl ky3 Try.underlying76 zr3 rfl rfl (inK_i64.2 (by omega)) rfl) ?_
     refine r_pv rfl rfl (pv_build_array zr44 rfl Try.underlying44 sz3 (.c rfl (.c rfl (.c rfl .n))) (.c rfl rfl rfl (.take .nil) (.c rfl rfl rfl (.skip (.take .nil)) (.c rfl rfl rfl (.skip (.skip (.take .nil))) .n)))) ?_
     refine r_ef0 rfl rfl (ef_buildSlice_fl (enc := fun z : Int × Int × Int => [.int .i64 z.1, .int .i64 z.2.1, .int .i64 z.2.2]) (ok := fun z => InK .i64 z.1 ∧ InK .i64 z.2.1 ∧ InK .i64 z.2.2) (h1 := fun _ => rfl) (h2 := fun _ => rfl) (k := 1) Try.underlying23 inf44 rfl (by decide) (by decide) (by decide) (.c (x := (((mget nm ((K.getD i (0, 0, 0)).1)).getD 0), ((mget nm ((K.getD i (0, 0, 0)).2.1)).getD 0), ((mget nm ((K.getD i (0, 0, 0)).2.2)).getD 0))) rfl rfl (fun _ _ => by exact ⟨inK_i64.2 (by first | omega | decide | (dsimp only; omega)), inK_i64.2 (by first | omega | decide | (dsimp only; omega)), inK_i64.2 (by first | omega | decide | (dsimp only; omega))⟩) .n)) (fun b58 _ => ?_)
     refine r_freeze 0 rfl .z ?_
     refine r_ef1 2 rfl rfl rfl (ef_append 0 rfl Try.underlying23 inf44 (by decide) rfl rfl (by first | rfl | assumption | (simp; done) | omega) rfl (by first | rfl | assumption | (simp; done) | omega) (by omega) (by omega)) (fun _ => (.s (.s .z))) ?_
     rintro ⟨p59, c60⟩ -
     dsimp only [List.append_eq, List.nil_append, List.cons_append]
     refine r_pv rfl rfl (pv_fieldAddr Try.underlying25 rfl sz23 rfl rfl) ?_
     refine r_store_box 4 rfl rfl rfl rfl rfl sz23 rfl (.skip (.take .nil)) (.s (.s (.s (.s .z)))) ?_
     refine r_nil ?_
     refine p_block ?_
     refine p_then ?_
     refine r_region ?_
     refine r_pv rfl rfl (pv_add (z := (((i + 1) : Nat) : Int)) rfl rfl (w64 (by omega))) ?_
     refine r_pv rfl rfl (pv_move rfl) ?_
     refine r_nil ?_
     refine p_next ((i + 1), p59, c60, (A2 ++ ([(((mget nm ((K.getD i (0, 0, 0)).1)).getD 0), ((mget nm ((K.getD i (0, 0, 0)).2.1)).getD 0), ((mget nm ((K.getD i (0, 0, 0)).2.2)).getD 0))]))) (show (i + 1) ≤ K.length ∧ (A2 ++ ([(((mget nm ((K.getD i (0, 0, 0)).1)).getD 0), ((mget nm ((K.getD i (0, 0, 0)).2.1)).getD 0), ((mget nm ((K.getD i (0, 0, 0)).2.2)).getD 0))])) = (K.take (i + 1)).map (Ms.rk K) from by exact ⟨by omega, by rw [hn1, hn2, hn3, Ms.take_snoc (0, 0, 0) (by omega), List.map_append, hA2]; rfl⟩) (by show K.length - (i + 1) < K.length - i; omega) ((.of rfl) : SubM _ _) (ho := ((.c (i := 2) rfl (.c (i := 2) rfl (.e (i := 2) rfl (by first | rfl | (congr 1; omega) | simp_all) (.of [2, 2] rfl)))) : PickO _ _ _)) ((.of [2, 3, 4, 5, 6] rfl) : SelR _ _ _)
    ·
     refine r_exit ?_
     refine p_then_exit ?_
     refine p_then_exit ?_
     refine p_block_here ?_
     refine p_then ?_
     refine r_seq ?_
     refine c_freeze 0 rfl .z ?_
     refine r_region ?_
     refine r_u rfl rfl (vl_load_box_agg 2 ty25 rfl rfl (.take (.take .nil))) ?_
     refine r_store_box 3 rfl rfl rfl rfl rfl sz25 rfl (.take (.take .nil)) (.s (.s (.s .z))) ?_
     refine r_nil ?_
     refine p_then ?_
     refine r_ret ?_
     have hz1 : Ms.weldV V F = W := by unfold Ms.weldV; rw [hWn, hKf, hnv]
     have hz2 : Ms.weldF V F = A2 := by unfold Ms.weldF; rw [hA2, List.take_of_length_le (by omega), hKf]
     exact p_ret1 Try.results36 (p9, c9, p11, c11) trivial (res_box_agg 3 ty25 rfl rfl (.take (.take .nil))) (by rw [hz1, hz2]) (ho := (.n : PickO _ _ _)) ((.e (j := 1) rfl (by rw [hz1]) (.e (j := 0) rfl (by rw [hz2]) .n)) : SelR _ _ _)
end Go.Proofs.Ytalfgjpbbongcaa.Sp
namespace Go.Proofs.Ytalfgjpbbongcaa.Sp
open Go
set_option linter.unusedVariables false
set_option maxRecDepth 100000
set_option maxHeartbeats 1000000
theorem con_MeshWelds {pv : Option Addr} {nv : Nat} {cv : Nat} {V : List (Int × Int × Int)} {pf : Option Addr} {nf : Nat} {cf : Nat} {F : List (Int × Int × Int)} (hnv : V.length = nv) (hnf : F.length = nf) : Con Try.prog 8 [.agg #[.slice pv nv cv, .slice pf nf cf]] [] [slF (rI3 .i64) pv cv V, slF (rI3 .i64) pf cf F] (Y := Unit) (fun y => True) (fun y => .bool true) (fun y => []) (fun y => []) := by
 refine con_intro Try.func8 rfl rfl rfl (fun c => ?_)
 show RunC _ _ _ _ _ [(0, .agg #[.slice pv nv cv, .slice pf nf cf])] [] [slF (rI3 .i64) pv cv V, slF (rI3 .i64) pf cf F]
 refine c_len 0 rfl (fun hL0 => ?_)
 refine c_len 1 rfl (fun hL1 => ?_)
 refine r_seq ?_
 refine r_region ?_
 refine r_new rfl rfl (ef_box rfl rfl) (fun b1 => ?_)
 refine r_pv rfl rfl (pv_assign rfl) ?_
 refine r_nil ?_
 refine p_then ?_
 refine r_seq ?_
 refine r_seq ?_
 refine r_region ?_
 refine r_call1 rfl rfl (.n) ce12 (con_known  ) (.n) ?_
 refine r_pv rfl rfl (pv_not rfl) ?_
 refine r_nil ?_
 refine p_then ?_
 refine r_cond_f rfl rfl ?_
 refine r_skip ?_
 refine p_then ?_
 refine r_seq ?_
 refine r_seq ?_
 refine r_region ?_
 refine r_u rfl rfl (vl_load_box_agg 0 ty25 rfl rfl (.take (.take .nil))) ?_
 refine r_call1 rfl rfl (.c rfl .n) ce13 (con_few (pv := pv) (nv := nv) (cv := cv) (V := V) (pf := pf) (nf := nf) (cf := cf) (F := F) (hnv := by assumption) (hnf := by assumption)) (.c (j := 0) rfl (.c (j := 1) rfl .n)) ?_
 refine r_pv rfl rfl (pv_notd rfl) ?_
 refine r_nil ?_
 refine p_then ?_
 refine r_cond rfl (fun h2 => ?_) (fun h2 => ?_)
 ·
  refine r_seq ?_
  refine r_region ?_
  refine r_pv rfl rfl (pv_assign rfl) ?_
  refine r_nil ?_
  refine p_then ?_
  refine r_ret ?_
  refine p_then_ret ?_
  exact p_ret1 Try.results8 () trivial (res_tmp rfl) rfl (ho := (.n : PickO _ _ _)) (.n : SelR _ _ _)
 ·
  refine r_skip ?_
  refine p_then ?_
  refine r_seq ?_
  refine r_region ?_
  refine r_u rfl rfl (vl_load_box_agg 0 ty25 rfl rfl (.take (.take .nil))) ?_
  refine r_callf rfl rfl (.c rfl .n) ce34 (con_Weld (pv := pv) (nv := nv) (cv := cv) (V := V) (pf := pf) (nf := nf) (cf := cf) (F := F) (hnv := by assumption) (hnf := by assumption)) (.c (j := 0) rfl (.c (j := 1) rfl .n)) ?_
  rintro ⟨p23, c24, p35, c36⟩ -
  dsimp only [List.append_eq, List.nil_append, List.cons_append]
  refine r_pv rfl rfl (pv_move rfl) ?_
  refine r_pv rfl rfl (pv_extract rfl rfl) ?_
  refine r_pv rfl rfl (pv_extract rfl rfl) ?_
  refine r_new rfl rfl (ef_alloc zr25 rfl) (fun b7 => ?_)
  refine r_store_box 0 rfl rfl rfl rfl rfl sz25 rfl (.take (.take .nil)) .z ?_
  refine r_pv rfl rfl (pv_assign rfl) ?_
  refine r_nil ?_
  refine p_then ?_
  refine r_seq ?_
  refine r_region ?_
  refine r_u rfl rfl (vl_load_box_agg 1 ty25 rfl rfl (.take (.take .nil))) ?_
  refine r_callf rfl rfl (.c rfl .n) ce35 (con_Flip (pv := pv) (nv := nv) (cv := cv) (V := V) (pf := pf) (nf := nf) (cf := cf) (F := F) (hnv := by assumption) (hnf := by assumption)) (.c (j := 2) rfl (.c (j := 3) rfl .n)) ?_
  rintro ⟨p28, c29, p310, c311⟩ -
  dsimp only [List.append_eq, List.nil_append, List.cons_append]
  refine r_pv rfl rfl (pv_move rfl) ?_
  refine r_pv rfl rfl (pv_extract rfl rfl) ?_
  refine r_pv rfl rfl (pv_extract rfl rfl) ?_
  refine r_new rfl rfl (ef_alloc zr25 rfl) (fun b12 => ?_)
  refine r_store_box 0 rfl rfl rfl rfl rfl sz25 rfl (.take (.take .nil)) .z ?_
  refine r_pv rfl rfl (pv_assign rfl) ?_
  refine r_nil ?_
  refine p_then ?_
  refine r_seq ?_
  refine r_seq ?_
  refine r_region ?_
  refine r_u rfl rfl (vl_load_box_agg 2 ty25 rfl rfl (.take (.take .nil))) ?_
  refine r_call1 rfl rfl (.c rfl .n) ce20 (con_lform (pv := pv) (nv := nv) (cv := cv) (V := V) (pf := pf) (nf := nf) (cf := cf) (F := F) (hnv := by assumption) (hnf := by assumption)) (.c (j := 4) rfl (.c (j := 5) rfl .n)) ?_
  refine r_pv rfl rfl (pv_assign rfl) ?_
  refine r_nil ?_
  refine p_then ?_
  refine r_seq ?_
  refine r_region ?_
  refine r_pv rfl rfl (pv_move rfl) ?_
  refine r_pv rfl rfl (pv_neq rfl rfl) ?_
  refine r_nil ?_
  refine p_then ?_
  refine r_cond rfl (fun hc => ?_) (fun hc => ?_)
  ·
   have hz1 : Ms.weldRV V F = [] := by unfold Ms.weldRV; rw [if_neg hc]
   have hz2 : Ms.weldRF V F = [] := by unfold Ms.weldRF; rw [if_neg hc]
   have hz3 : Ms.flipV V F = [] := by unfold Ms.flipV; rw [if_neg hc]
   have hz4 : Ms.flipF V F = [] := by unfold Ms.flipF; rw [if_neg hc]
   refine r_cut (X := Unit) (fun x => True) (fun x => [(2, .bool true), (6, .int .i64 (Ms.form V F)), (5, .pointer (some ⟨b12, 0, none⟩)), (4, .int .i64 (Ms.form V F)), (3, .pointer (some ⟨b7, 0, none⟩)), (1, .pointer (some ⟨b1, 0, none⟩))]) (fun x => [boxA b12 25 [.slice p28 ((Ms.flipV V F).length) c29, .slice p310 ((Ms.flipF V F).length) c311], boxA b7 25 [.slice p23 ((Ms.weldRV V F).length) c24, .slice p35 ((Ms.weldRF V F).length) c36], boxA b1 25 [.slice pv nv cv, .slice pf nf cf]]) (fun x => [slF (rI3 .i64) p28 c29 (Ms.flipV V F), slF (rI3 .i64) p310 c311 (Ms.flipF V F), slF (rI3 .i64) p23 c24 (Ms.weldRV V F), slF (rI3 .i64) p35 c36 (Ms.weldRF V F), slF (rI3 .i64) pv cv V, slF (rI3 .i64) pf cf F]) ?_ ?_
   ·
    refine c_nilF (rI3 .i64) ?_
    refine r_region ?_
    refine r_pv rfl rfl (pv_move rfl) ?_
    refine r_pv rfl rfl (pv_move rfl) ?_
    refine r_pv rfl rfl (pv_eql rfl rfl) ?_
    refine r_pv_dec rfl rfl (pv_move rfl) (fun h13 => ?_) (fun h13 => ?_)
    ·
     refine r_pv rfl rfl (pv_move rfl) ?_
     refine r_pv rfl rfl (pv_move rfl) ?_
     refine r_pv rfl rfl (pv_eql rfl rfl) ?_
     refine r_pv rfl rfl (pv_pick rfl rfl) ?_
     refine r_pv_dec rfl rfl (pv_move rfl) (fun h14 => ?_) (fun h14 => ?_)
     ·
      refine r_u rfl rfl (vl_load_box_agg 1 ty25 rfl rfl (.take (.take .nil))) ?_
      refine r_pv rfl rfl (pv_build_struct zr25 rfl Try.underlying25 (.c sz22 (.c sz23 .n)) .n .n) ?_
      refine r_call1 rfl rfl (.c rfl (.c rfl .n)) ce32 (con_same (pv := p23) (nv := (Ms.weldRV V F).length) (cv := c24) (V := Ms.weldRV V F) (pf := p35) (nf := (Ms.weldRF V F).length) (cf := c36) (F := Ms.weldRF V F) (pv2 := none) (nv2 := 0) (cv2 := 0) (V2 := []) (pf2 := none) (nf2 := 0) (cf2 := 0) (F2 := []) (hnv := by first | rfl | assumption | omega | (simp; done) | (simp; omega) | (simp_all; done)) (hnf := by first | rfl | assumption | omega | (simp; done) | (simp; omega) | (simp_all; done)) (hnv2 := by first | rfl | assumption | omega | (simp; done) | (simp; omega) | (simp_all; done)) (hnf2 := by first | rfl | assumption | omega | (simp; done) | (simp; omega) | (simp_all; done))) (.c (j := 3) rfl (.c (j := 4) rfl (.c (j := 0) rfl (.c (j := 0) rfl .n)))) ?_
      refine r_pv rfl rfl (pv_pick rfl rfl) ?_
      refine r_pv_dec rfl rfl (pv_move rfl) (fun h15 => ?_) (fun h15 => ?_)
      ·
       refine r_u rfl rfl (vl_load_box_agg 0 ty25 rfl rfl (.take (.take .nil))) ?_
       refine r_pv rfl rfl (pv_build_struct zr25 rfl Try.underlying25 (.c sz22 (.c sz23 .n)) .n .n) ?_
       refine r_call1 rfl rfl (.c rfl (.c rfl .n)) ce32 (con_same (pv := p28) (nv := (Ms.flipV V F).length) (cv := c29) (V := Ms.flipV V F) (pf := p310) (nf := (Ms.flipF V F).length) (cf := c311) (F := Ms.flipF V F) (pv2 := none) (nv2 := 0) (cv2 := 0) (V2 := []) (pf2 := none) (nf2 := 0) (cf2 := 0) (F2 := []) (hnv := by first | rfl | assumption | omega | (simp; done) | (simp; omega) | (simp_all; done)) (hnf := by first | rfl | assumption | omega | (simp; done) | (simp; omega) | (simp_all; done)) (hnv2 := by first | rfl | assumption | omega | (simp; done) | (simp; omega) | (simp_all; done)) (hnf2 := by first | rfl | assumption | omega | (simp; done) | (simp; omega) | (simp_all; done))) (.c (j := 1) rfl (.c (j := 2) rfl (.c (j := 0) rfl (.c (j := 0) rfl .n)))) ?_
       refine r_pv rfl rfl (pv_pick rfl rfl) ?_
       refine r_pv rfl rfl (pv_assign rfl) ?_
       refine r_nil ?_
       exact p_cut () (show True from by first | trivial | omega | simp_all) ((.e rfl (congrArg Value.bool (by first | (simp [hz1, hz2, hz3, hz4]; done) | (simp_all; done))) (.of rfl)) : SubM _ _) (ho := ((.of [0, 0, 0] rfl) : PickO _ _ _)) ((.of [1, 2, 3, 4, 5, 6] rfl) : SelR _ _ _)
      ·
       refine r_guard_no rfl rfl ?_
       refine r_guard_no rfl rfl ?_
       refine r_guard_no rfl rfl ?_
       refine r_pv rfl rfl (pv_pick rfl rfl) ?_
       refine r_pv rfl rfl (pv_assign rfl) ?_
       refine r_nil ?_
       exact p_cut () (show True from by first | trivial | omega | simp_all) ((.e rfl (congrArg Value.bool (by first | (simp [hz1, hz2, hz3, hz4]; done) | (simp_all; done))) (.of rfl)) : SubM _ _) (ho := ((.of [0, 0, 0] rfl) : PickO _ _ _)) ((.of [1, 2, 3, 4, 5, 6] rfl) : SelR _ _ _)
     ·
      refine r_guard_no rfl rfl ?_
      refine r_guard_no rfl rfl ?_
      refine r_guard_no rfl rfl ?_
      refine r_pv rfl rfl (pv_pick rfl rfl) ?_
      refine r_pv rfl rfl (pv_move rfl) ?_
      refine r_guard_no rfl rfl ?_
      refine r_guard_no rfl rfl ?_
      refine r_guard_no rfl rfl ?_
      refine r_pv rfl rfl (pv_pick rfl rfl) ?_
      refine r_pv rfl rfl (pv_assign rfl) ?_
      refine r_nil ?_
      exact p_cut () (show True from by first | trivial | omega | simp_all) ((.e rfl (congrArg Value.bool (by first | (simp [hz1, hz2, hz3, hz4]; done) | (simp_all; done))) (.of rfl)) : SubM _ _) (ho := ((.of [0, 0, 0] rfl) : PickO _ _ _)) ((.of [1, 2, 3, 4, 5, 6] rfl) : SelR _ _ _)
    ·
     refine r_guard_no rfl rfl ?_
     refine r_guard_no rfl rfl ?_
     refine r_guard_no rfl rfl ?_
     refine r_pv rfl rfl (pv_pick rfl rfl) ?_
     refine r_pv rfl rfl (pv_move rfl) ?_
     refine r_guard_no rfl rfl ?_
     refine r_guard_no rfl rfl ?_
     refine r_guard_no rfl rfl ?_
     refine r_pv rfl rfl (pv_pick rfl rfl) ?_
     refine r_pv rfl rfl (pv_move rfl) ?_
     refine r_guard_no rfl rfl ?_
     refine r_guard_no rfl rfl ?_
     refine r_guard_no rfl rfl ?_
     refine r_pv rfl rfl (pv_pick rfl rfl) ?_
     refine r_pv rfl rfl (pv_assign rfl) ?_
     refine r_nil ?_
     exact p_cut () (show True from by first | trivial | omega | simp_all) ((.e rfl (congrArg Value.bool (by first | (simp [hz1, hz2, hz3, hz4]; done) | (simp_all; done))) (.of rfl)) : SubM _ _) (ho := ((.of [0, 0, 0] rfl) : PickO _ _ _)) ((.of [1, 2, 3, 4, 5, 6] rfl) : SelR _ _ _)
   ·
    rintro ⟨⟩ -
    show RunC _ _ _ _ _ [(2, .bool true), (6, .int .i64 (Ms.form V F)), (5, .pointer (some ⟨b12, 0, none⟩)), (4, .int .i64 (Ms.form V F)), (3, .pointer (some ⟨b7, 0, none⟩)), (1, .pointer (some ⟨b1, 0, none⟩))] [boxA b12 25 [.slice p28 ((Ms.flipV V F).length) c29, .slice p310 ((Ms.flipF V F).length) c311], boxA b7 25 [.slice p23 ((Ms.weldRV V F).length) c24, .slice p35 ((Ms.weldRF V F).length) c36], boxA b1 25 [.slice pv nv cv, .slice pf nf cf]] [slF (rI3 .i64) p28 c29 (Ms.flipV V F), slF (rI3 .i64) p310 c311 (Ms.flipF V F), slF (rI3 .i64) p23 c24 (Ms.weldRV V F), slF (rI3 .i64) p35 c36 (Ms.weldRF V F), slF (rI3 .i64) pv cv V, slF (rI3 .i64) pf cf F]
    refine r_ret ?_
    refine p_then_ret ?_
    exact p_ret1 Try.results8 () trivial (res_tmp rfl) rfl (ho := (.n : PickO _ _ _)) (.n : SelR _ _ _)
  ·
   have hf0 := Decidable.not_not.1 hc
   have hg := Ms.form_zero.1 hf0
   have hnv5 : nv ≤ 512 := by have := hg.nv; omega
   have hnf5 : nf ≤ 1024 := by have := hg.nf; omega
   have hz1 : Ms.weldRV V F = Ms.weldV V F := by unfold Ms.weldRV; rw [if_pos hf0]
   have hz2 : Ms.weldRF V F = Ms.weldF V F := by unfold Ms.weldRF; rw [if_pos hf0]
   have hz3 : Ms.flipV V F = V := by unfold Ms.flipV; rw [if_pos hf0]
   have hz4 : Ms.flipF V F = F.map Ms.turn := by unfold Ms.flipF; rw [if_pos hf0]
   refine r_skip ?_
   refine p_then ?_
   refine r_seq ?_
   refine r_cut (X := Unit) (fun x => True) (fun x => [(68, .bool false), (5, .pointer (some ⟨b12, 0, none⟩)), (3, .pointer (some ⟨b7, 0, none⟩)), (2, .bool false), (1, .pointer (some ⟨b1, 0, none⟩))]) (fun x => [boxA b12 25 [.slice p28 ((Ms.flipV V F).length) c29, .slice p310 ((Ms.flipF V F).length) c311], boxA b7 25 [.slice p23 ((Ms.weldRV V F).length) c24, .slice p35 ((Ms.weldRF V F).length) c36], boxA b1 25 [.slice pv nv cv, .slice pf nf cf]]) (fun x => [slF (rI3 .i64) p28 c29 (Ms.flipV V F), slF (rI3 .i64) p310 c311 (Ms.flipF V F), slF (rI3 .i64) p23 c24 (Ms.weldRV V F), slF (rI3 .i64) p35 c36 (Ms.weldRF V F), slF (rI3 .i64) pv cv V, slF (rI3 .i64) pf cf F]) ?_ ?_
   ·
    have e16 : Ms.form V F = 0 := by exact hf0
    rw [e16]
    have e17 : Ms.weldRV V F = Ms.weldV V F := by exact hz1
    rw [e17]
    have e18 : Ms.weldRF V F = Ms.weldF V F := by exact hz2
    rw [e18]
    have e19 : Ms.flipV V F = V := by exact hz3
    rw [e19]
    have e20 : Ms.flipF V F = F.map Ms.turn := by exact hz4
    rw [e20]
    refine r_draw (OW := []) (O := [boxA b12 25 [.slice p28 ((V).length) c29, .slice p310 ((F.map Ms.turn).length) c311], boxA b7 25 [.slice p23 ((Ms.weldV V F).length) c24, .slice p35 ((Ms.weldF V F).length) c36], boxA b1 25 [.slice pv nv cv, .slice pf nf cf]]) 100000 mixed (.then (.then .ret)) (by kernel_rfl) ?_
    refine d_pv 0 rfl rfl (by kernel_rfl) (by kernel_rfl) rfl rfl (pv_move rfl) ?_
    refine d_pv 1 rfl rfl (by kernel_rfl) (by kernel_rfl) rfl rfl (pv_neq rfl rfl) ?_
    refine d_pv 2 rfl rfl (by kernel_rfl) (by kernel_rfl) rfl rfl (pv_move rfl) ?_
    refine d_pv 3 rfl rfl (by kernel_rfl) (by kernel_rfl) rfl rfl (pv_move rfl) ?_
    refine d_pv 4 rfl rfl (by kernel_rfl) (by kernel_rfl) rfl rfl (pv_neq rfl rfl) ?_
    refine d_pv 5 rfl rfl (by kernel_rfl) (by kernel_rfl) rfl rfl (pv_pick rfl rfl) ?_
    refine d_pv 6 rfl rfl (by kernel_rfl) (by kernel_rfl) rfl rfl (pv_move rfl) ?_
    refine d_u 7 rfl rfl (by kernel_rfl) (by kernel_rfl) rfl rfl (vl_load_box_agg 1 ty25 rfl rfl (.take (.take .nil))) ?_
    refine d_u 8 rfl rfl (by kernel_rfl) (by kernel_rfl) rfl rfl (vl_load_box_agg 2 ty25 rfl rfl (.take (.take .nil))) ?_
    refine d_one 9 (by kernel_rfl) (o_callf rfl rfl rfl rfl (.c rfl .n) ce36 (con_welded (pv := pv) (nv := nv) (cv := cv) (V := V) (pf := pf) (nf := nf) (cf := cf) (F := F) (hnv := by assumption) (hnf := by assumption) (hg := by first | rfl | assumption | omega | (simp; done) | (simp; omega) | (simp_all; done))) (.c (j := 4) rfl (.c (j := 5) rfl .n)) ?_)
    rintro ⟨p221, c222, p323, c324⟩ -
    dsimp only [List.append_eq, List.nil_append, List.cons_append]
    refine d_one 10 (by kernel_rfl) (o_call1 rfl rfl rfl rfl (.c rfl (.c rfl .n)) ce32 (con_same (pv := p23) (nv := (Ms.weldV V F).length) (cv := c24) (V := Ms.weldV V F) (pf := p35) (nf := (Ms.weldF V F).length) (cf := c36) (F := Ms.weldF V F) (pv2 := p221) (nv2 := (Ms.weldV V F).length) (cv2 := c222) (V2 := Ms.weldV V F) (pf2 := p323) (nf2 := (Ms.weldF V F).length) (cf2 := c324) (F2 := Ms.weldF V F) (hnv := by first | rfl | assumption | omega | (simp; done) | (simp; omega) | (simp_all; done)) (hnf := by first | rfl | assumption | omega | (simp; done) | (simp; omega) | (simp_all; done)) (hnv2 := by first | rfl | assumption | omega | (simp; done) | (simp; omega) | (simp_all; done)) (hnf2 := by first | rfl | assumption | omega | (simp; done) | (simp; omega) | (simp_all; done))) (.c (j := 4) rfl (.c (j := 5) rfl (.c (j := 0) rfl (.c (j := 1) rfl .n)))) ?_)
    refine d_pv 11 rfl rfl (by kernel_rfl) (by kernel_rfl) rfl rfl (pv_notd rfl) ?_
    refine d_pv 12 rfl rfl (by kernel_rfl) (by kernel_rfl) rfl rfl (pv_pick rfl rfl) ?_
    refine d_pv_dec 13 rfl rfl (by kernel_rfl) (by kernel_rfl) rfl rfl (pv_move rfl) (fun h25 => ?_) (fun h25 => ?_)
    ·
     refine d_skip 14 rfl rfl (by kernel_rfl) (by kernel_rfl) rfl rfl ?_
     refine d_skip 15 rfl rfl (by kernel_rfl) (by kernel_rfl) rfl rfl ?_
     refine d_skip 16 rfl rfl (by kernel_rfl) (by kernel_rfl) rfl rfl ?_
     refine d_skip 17 rfl rfl (by kernel_rfl) (by kernel_rfl) rfl rfl ?_
     refine d_skip 18 rfl rfl (by kernel_rfl) (by kernel_rfl) rfl rfl ?_
     refine d_pv 19 rfl rfl (by kernel_rfl) (by kernel_rfl) rfl rfl (pv_pick rfl rfl) ?_
     refine d_done (by kernel_rfl) ?_
     exact p_cut () (show True from by first | trivial | omega | simp_all) ((.e rfl (congrArg Value.bool (by first | (simp_all; done))) (.of rfl)) : SubM _ _) (ho := ((.e (i := 0) rfl (by first | rfl | (congr 1; omega) | simp_all) (.e (i := 0) rfl (by first | rfl | (congr 1; omega) | simp_all) (.c (i := 0) rfl .n))) : PickO _ _ _)) ((.e (j := 2) rfl (by first | rfl | simp_all) (.e (j := 3) rfl (by first | rfl | simp_all) (.e (j := 4) rfl (by first | rfl | simp_all) (.e (j := 5) rfl (by first | rfl | simp_all) (.of [6, 7] rfl))))) : SelR _ _ _)
    ·
     refine d_u 14 rfl rfl (by kernel_rfl) (by kernel_rfl) rfl rfl (vl_load_box_agg 0 ty25 rfl rfl (.take (.take .nil))) ?_
     refine d_u 15 rfl rfl (by kernel_rfl) (by kernel_rfl) rfl rfl (vl_load_box_agg 2 ty25 rfl rfl (.take (.take .nil))) ?_
     refine d_one 16 (by kernel_rfl) (o_callf rfl rfl rfl rfl (.c rfl .n) ce37 (con_flipped (pv := pv) (nv := nv) (cv := cv) (V := V) (pf := pf) (nf := nf) (cf := cf) (F := F) (hnv := by assumption) (hnf := by assumption) (hg := by first | rfl | assumption | omega | (simp; done) | (simp; omega) | (simp_all; done))) (.c (j := 6) rfl (.c (j := 7) rfl .n)) ?_)
     rintro ⟨p326, c327⟩ -
     dsimp only [List.append_eq, List.nil_append, List.cons_append]
     refine d_one 17 (by kernel_rfl) (o_call1 rfl rfl rfl rfl (.c rfl (.c rfl .n)) ce32 (con_same (pv := p28) (nv := (V).length) (cv := c29) (V := V) (pf := p310) (nf := (F.map Ms.turn).length) (cf := c311) (F := F.map Ms.turn) (pv2 := pv) (nv2 := nv) (cv2 := cv) (V2 := V) (pf2 := p326) (nf2 := (F.map Ms.turn).length) (cf2 := c327) (F2 := F.map Ms.turn) (hnv := by first | rfl | assumption | omega | (simp; done) | (simp; omega) | (simp_all; done)) (hnf := by first | rfl | assumption | omega | (simp; done) | (simp; omega) | (simp_all; done)) (hnv2 := by assumption) (hnf2 := by first | rfl | assumption | omega | (simp; done) | (simp; omega) | (simp_all; done))) (.c (j := 3) rfl (.c (j := 4) rfl (.c (j := 7) rfl (.c (j := 0) rfl .n)))) ?_)
     refine d_pv 18 rfl rfl (by kernel_rfl) (by kernel_rfl) rfl rfl (pv_notd rfl) ?_
     refine d_pv 19 rfl rfl (by kernel_rfl) (by kernel_rfl) rfl rfl (pv_pick rfl rfl) ?_
     refine d_done (by kernel_rfl) ?_
     exact p_cut () (show True from by first | trivial | omega | simp_all) ((.e rfl (congrArg Value.bool (by first | (simp_all; done))) (.of rfl)) : SubM _ _) (ho := ((.e (i := 0) rfl (by first | rfl | (congr 1; omega) | simp_all) (.e (i := 0) rfl (by first | rfl | (congr 1; omega) | simp_all) (.c (i := 0) rfl .n))) : PickO _ _ _)) ((.e (j := 3) rfl (by first | rfl | simp_all) (.e (j := 4) rfl (by first | rfl | simp_all) (.e (j := 5) rfl (by first | rfl | simp_all) (.e (j := 6) rfl (by first | rfl | simp_all) (.of [7, 8] rfl))))) : SelR _ _ _)
   ·
    rintro ⟨⟩ -
    show RunC _ _ _ _ _ [(68, .bool false), (5, .pointer (some ⟨b12, 0, none⟩)), (3, .pointer (some ⟨b7, 0, none⟩)), (2, .bool false), (1, .pointer (some ⟨b1, 0, none⟩))] [boxA b12 25 [.slice p28 ((Ms.flipV V F).length) c29, .slice p310 ((Ms.flipF V F).length) c311], boxA b7 25 [.slice p23 ((Ms.weldRV V F).length) c24, .slice p35 ((Ms.weldRF V F).length) c36], boxA b1 25 [.slice pv nv cv, .slice pf nf cf]] [slF (rI3 .i64) p28 c29 (Ms.flipV V F), slF (rI3 .i64) p310 c311 (Ms.flipF V F), slF (rI3 .i64) p23 c24 (Ms.weldRV V F), slF (rI3 .i64) p35 c36 (Ms.weldRF V F), slF (rI3 .i64) pv cv V, slF (rI3 .i64) pf cf F]
    refine r_cond_f rfl rfl ?_
    refine r_skip ?_
    refine p_then ?_
    refine r_seq ?_
    refine r_region ?_
    refine r_u rfl rfl (vl_load_box_agg 1 ty25 rfl rfl (.take (.take .nil))) ?_
    refine r_callf rfl rfl (.c rfl .n) ce34 (con_Weld (pv := p23) (nv := (Ms.weldRV V F).length) (cv := c24) (V := Ms.weldRV V F) (pf := p35) (nf := (Ms.weldRF V F).length) (cf := c36) (F := Ms.weldRF V F) (hnv := by first | rfl | assumption | omega | (simp; done) | (simp; omega) | (simp_all; done)) (hnf := by first | rfl | assumption | omega | (simp; done) | (simp; omega) | (simp_all; done))) (.c (j := 2) rfl (.c (j := 3) rfl .n)) ?_
    rintro ⟨p228, c229, p330, c331⟩ -
    dsimp only [List.append_eq, List.nil_append, List.cons_append]
    refine r_pv rfl rfl (pv_move rfl) ?_
    refine r_pv rfl rfl (pv_extract rfl rfl) ?_
    refine r_pv rfl rfl (pv_extract rfl rfl) ?_
    refine r_new rfl rfl (ef_alloc zr25 rfl) (fun b32 => ?_)
    refine r_store_box 0 rfl rfl rfl rfl rfl sz25 rfl (.take (.take .nil)) .z ?_
    refine r_pv rfl rfl (pv_assign rfl) ?_
    refine r_nil ?_
    refine p_then ?_
    refine r_seq ?_
    refine r_region ?_
    refine r_u rfl rfl (vl_load_box_agg 1 ty25 rfl rfl (.take (.take .nil))) ?_
    refine r_callf rfl rfl (.c rfl .n) ce35 (con_Flip (pv := p28) (nv := (Ms.flipV V F).length) (cv := c29) (V := Ms.flipV V F) (pf := p310) (nf := (Ms.flipF V F).length) (cf := c311) (F := Ms.flipF V F) (hnv := by first | rfl | assumption | omega | (simp; done) | (simp; omega) | (simp_all; done)) (hnf := by first | rfl | assumption | omega | (simp; done) | (simp; omega) | (simp_all; done))) (.c (j := 2) rfl (.c (j := 3) rfl .n)) ?_
    rintro ⟨p233, c234, p335, c336⟩ -
    dsimp only [List.append_eq, List.nil_append, List.cons_append]
    refine r_pv rfl rfl (pv_move rfl) ?_
    refine r_pv rfl rfl (pv_extract rfl rfl) ?_
    refine r_pv rfl rfl (pv_extract rfl rfl) ?_
    refine r_new rfl rfl (ef_alloc zr25 rfl) (fun b37 => ?_)
    refine r_store_box 0 rfl rfl rfl rfl rfl sz25 rfl (.take (.take .nil)) .z ?_
    refine r_pv rfl rfl (pv_assign rfl) ?_
    refine r_nil ?_
    refine p_then ?_
    refine r_cut (X := Unit) (fun x => True) (fun x => [(2, .bool (decide ((((Ms.form (Ms.weldRV V F) (Ms.weldRF V F) = 0) ∧ (Ms.form (Ms.flipV V F) (Ms.flipF V F) = 0)) ∧ ((Ms.weldRV (Ms.weldRV V F) (Ms.weldRF V F)) = (Ms.weldRV V F) ∧ (Ms.weldRF (Ms.weldRV V F) (Ms.weldRF V F)) = (Ms.weldRF V F))) ∧ ((Ms.flipV (Ms.flipV V F) (Ms.flipF V F)) = V ∧ (Ms.flipF (Ms.flipV V F) (Ms.flipF V F)) = F))))]) (fun x => [boxA b37 25 [.slice p233 ((Ms.flipV (Ms.flipV V F) (Ms.flipF V F)).length) c234, .slice p335 ((Ms.flipF (Ms.flipV V F) (Ms.flipF V F)).length) c336], boxA b32 25 [.slice p228 ((Ms.weldRV (Ms.weldRV V F) (Ms.weldRF V F)).length) c229, .slice p330 ((Ms.weldRF (Ms.weldRV V F) (Ms.weldRF V F)).length) c331], boxA b12 25 [.slice p28 ((Ms.flipV V F).length) c29, .slice p310 ((Ms.flipF V F).length) c311], boxA b7 25 [.slice p23 ((Ms.weldRV V F).length) c24, .slice p35 ((Ms.weldRF V F).length) c36], boxA b1 25 [.slice pv nv cv, .slice pf nf cf]]) (fun x => [slF (rI3 .i64) p233 c234 (Ms.flipV (Ms.flipV V F) (Ms.flipF V F)), slF (rI3 .i64) p335 c336 (Ms.flipF (Ms.flipV V F) (Ms.flipF V F)), slF (rI3 .i64) p228 c229 (Ms.weldRV (Ms.weldRV V F) (Ms.weldRF V F)), slF (rI3 .i64) p330 c331 (Ms.weldRF (Ms.weldRV V F) (Ms.weldRF V F)), slF (rI3 .i64) p28 c29 (Ms.flipV V F), slF (rI3 .i64) p310 c311 (Ms.flipF V F), slF (rI3 .i64) p23 c24 (Ms.weldRV V F), slF (rI3 .i64) p35 c36 (Ms.weldRF V F), slF (rI3 .i64) pv cv V, slF (rI3 .i64) pf cf F]) ?_ ?_
    ·
     refine r_region ?_
     refine r_pv rfl rfl (pv_move rfl) ?_
     refine r_pv rfl rfl (pv_eql rfl rfl) ?_
     refine r_pv_dec rfl rfl (pv_move rfl) (fun h38 => ?_) (fun h38 => ?_)
     ·
      refine r_pv rfl rfl (pv_move rfl) ?_
      refine r_pv rfl rfl (pv_eql rfl rfl) ?_
      refine r_pv rfl rfl (pv_pick rfl rfl) ?_
      refine r_pv_dec rfl rfl (pv_move rfl) (fun h39 => ?_) (fun h39 => ?_)
      ·
       refine r_u rfl rfl (vl_load_box_agg 1 ty25 rfl rfl (.take (.take .nil))) ?_
       refine r_u rfl rfl (vl_load_box_agg 3 ty25 rfl rfl (.take (.take .nil))) ?_
       refine r_call1 rfl rfl (.c rfl (.c rfl .n)) ce32 (con_same (pv := p228) (nv := (Ms.weldRV (Ms.weldRV V F) (Ms.weldRF V F)).length) (cv := c229) (V := Ms.weldRV (Ms.weldRV V F) (Ms.weldRF V F)) (pf := p330) (nf := (Ms.weldRF (Ms.weldRV V F) (Ms.weldRF V F)).length) (cf := c331) (F := Ms.weldRF (Ms.weldRV V F) (Ms.weldRF V F)) (pv2 := p23) (nv2 := (Ms.weldRV V F).length) (cv2 := c24) (V2 := Ms.weldRV V F) (pf2 := p35) (nf2 := (Ms.weldRF V F).length) (cf2 := c36) (F2 := Ms.weldRF V F) (hnv := by first | rfl | assumption | omega | (simp; done) | (simp; omega) | (simp_all; done)) (hnf := by first | rfl | assumption | omega | (simp; done) | (simp; omega) | (simp_all; done)) (hnv2 := by first | rfl | assumption | omega | (simp; done) | (simp; omega) | (simp_all; done)) (hnf2 := by first | rfl | assumption | omega | (simp; done) | (simp; omega) | (simp_all; done))) (.c (j := 2) rfl (.c (j := 3) rfl (.c (j := 6) rfl (.c (j := 7) rfl .n)))) ?_
       refine r_pv rfl rfl (pv_pick rfl rfl) ?_
       refine r_pv_dec rfl rfl (pv_move rfl) (fun h40 => ?_) (fun h40 => ?_)
       ·
        refine r_u rfl rfl (vl_load_box_agg 0 ty25 rfl rfl (.take (.take .nil))) ?_
        refine r_u rfl rfl (vl_load_box_agg 4 ty25 rfl rfl (.take (.take .nil))) ?_
        refine r_call1 rfl rfl (.c rfl (.c rfl .n)) ce32 (con_same (pv := p233) (nv := (Ms.flipV (Ms.flipV V F) (Ms.flipF V F)).length) (cv := c234) (V := Ms.flipV (Ms.flipV V F) (Ms.flipF V F)) (pf := p335) (nf := (Ms.flipF (Ms.flipV V F) (Ms.flipF V F)).length) (cf := c336) (F := Ms.flipF (Ms.flipV V F) (Ms.flipF V F)) (pv2 := pv) (nv2 := nv) (cv2 := cv) (V2 := V) (pf2 := pf) (nf2 := nf) (cf2 := cf) (F2 := F) (hnv := by first | rfl | assumption | omega | (simp; done) | (simp; omega) | (simp_all; done)) (hnf := by first | rfl | assumption | omega | (simp; done) | (simp; omega) | (simp_all; done)) (hnv2 := by assumption) (hnf2 := by assumption)) (.c (j := 0) rfl (.c (j := 1) rfl (.c (j := 8) rfl (.c (j := 9) rfl .n)))) ?_
        refine r_pv rfl rfl (pv_pick rfl rfl) ?_
        refine r_pv rfl rfl (pv_assign rfl) ?_
        refine r_nil ?_
        exact p_cut () (show True from by first | trivial | omega | simp_all) ((.e rfl (congrArg Value.bool (by first | (simp_all; done) | (simp_all; omega) | (simp; omega) | omega)) .n) : SubM _ _) (ho := ((.of [0, 0, 0, 0, 0] rfl) : PickO _ _ _)) ((.of [0, 1, 2, 3, 4, 5, 6, 7, 8, 9] rfl) : SelR _ _ _)
       ·
        refine r_guard_no rfl rfl ?_
        refine r_guard_no rfl rfl ?_
        refine r_guard_no rfl rfl ?_
        refine r_pv rfl rfl (pv_pick rfl rfl) ?_
        refine r_pv rfl rfl (pv_assign rfl) ?_
        refine r_nil ?_
        exact p_cut () (show True from by first | trivial | omega | simp_all) ((.e rfl (congrArg Value.bool (by first | (simp_all; done) | (simp_all; omega) | (simp; omega) | omega)) .n) : SubM _ _) (ho := ((.of [0, 0, 0, 0, 0] rfl) : PickO _ _ _)) ((.of [0, 1, 2, 3, 4, 5, 6, 7, 8, 9] rfl) : SelR _ _ _)
      ·
       refine r_guard_no rfl rfl ?_
       refine r_guard_no rfl rfl ?_
       refine r_guard_no rfl rfl ?_
       refine r_pv rfl rfl (pv_pick rfl rfl) ?_
       refine r_pv rfl rfl (pv_move rfl) ?_
       refine r_guard_no rfl rfl ?_
       refine r_guard_no rfl rfl ?_
       refine r_guard_no rfl rfl ?_
       refine r_pv rfl rfl (pv_pick rfl rfl) ?_
       refine r_pv rfl rfl (pv_assign rfl) ?_
       refine r_nil ?_
       exact p_cut () (show True from by first | trivial | omega | simp_all) ((.e rfl (congrArg Value.bool (by first | (simp_all; done) | (simp_all; omega) | (simp; omega) | omega)) .n) : SubM _ _) (ho := ((.of [0, 0, 0, 0, 0] rfl) : PickO _ _ _)) ((.of [0, 1, 2, 3, 4, 5, 6, 7, 8, 9] rfl) : SelR _ _ _)
     ·
      refine r_guard_no rfl rfl ?_
      refine r_guard_no rfl rfl ?_
      refine r_pv rfl rfl (pv_pick rfl rfl) ?_
      refine r_pv rfl rfl (pv_move rfl) ?_
      refine r_guard_no rfl rfl ?_
      refine r_guard_no rfl rfl ?_
      refine r_guard_no rfl rfl ?_
      refine r_pv rfl rfl (pv_pick rfl rfl) ?_
      refine r_pv rfl rfl (pv_move rfl) ?_
      refine r_guard_no rfl rfl ?_
      refine r_guard_no rfl rfl ?_
      refine r_guard_no rfl rfl ?_
      refine r_pv rfl rfl (pv_pick rfl rfl) ?_
      refine r_pv rfl rfl (pv_assign rfl) ?_
      refine r_nil ?_
      exact p_cut () (show True from by first | trivial | omega | simp_all) ((.e rfl (congrArg Value.bool (by first | (simp_all; done) | (simp_all; omega) | (simp; omega) | omega)) .n) : SubM _ _) (ho := ((.of [0, 0, 0, 0, 0] rfl) : PickO _ _ _)) ((.of [0, 1, 2, 3, 4, 5, 6, 7, 8, 9] rfl) : SelR _ _ _)
    ·
     rintro ⟨⟩ -
     show RunC _ _ _ _ _ [(2, .bool (decide ((((Ms.form (Ms.weldRV V F) (Ms.weldRF V F) = 0) ∧ (Ms.form (Ms.flipV V F) (Ms.flipF V F) = 0)) ∧ ((Ms.weldRV (Ms.weldRV V F) (Ms.weldRF V F)) = (Ms.weldRV V F) ∧ (Ms.weldRF (Ms.weldRV V F) (Ms.weldRF V F)) = (Ms.weldRF V F))) ∧ ((Ms.flipV (Ms.flipV V F) (Ms.flipF V F)) = V ∧ (Ms.flipF (Ms.flipV V F) (Ms.flipF V F)) = F))))] [boxA b37 25 [.slice p233 ((Ms.flipV (Ms.flipV V F) (Ms.flipF V F)).length) c234, .slice p335 ((Ms.flipF (Ms.flipV V F) (Ms.flipF V F)).length) c336], boxA b32 25 [.slice p228 ((Ms.weldRV (Ms.weldRV V F) (Ms.weldRF V F)).length) c229, .slice p330 ((Ms.weldRF (Ms.weldRV V F) (Ms.weldRF V F)).length) c331], boxA b12 25 [.slice p28 ((Ms.flipV V F).length) c29, .slice p310 ((Ms.flipF V F).length) c311], boxA b7 25 [.slice p23 ((Ms.weldRV V F).length) c24, .slice p35 ((Ms.weldRF V F).length) c36], boxA b1 25 [.slice pv nv cv, .slice pf nf cf]] [slF (rI3 .i64) p233 c234 (Ms.flipV (Ms.flipV V F) (Ms.flipF V F)), slF (rI3 .i64) p335 c336 (Ms.flipF (Ms.flipV V F) (Ms.flipF V F)), slF (rI3 .i64) p228 c229 (Ms.weldRV (Ms.weldRV V F) (Ms.weldRF V F)), slF (rI3 .i64) p330 c331 (Ms.weldRF (Ms.weldRV V F) (Ms.weldRF V F)), slF (rI3 .i64) p28 c29 (Ms.flipV V F), slF (rI3 .i64) p310 c311 (Ms.flipF V F), slF (rI3 .i64) p23 c24 (Ms.weldRV V F), slF (rI3 .i64) p35 c36 (Ms.weldRF V F), slF (rI3 .i64) pv cv V, slF (rI3 .i64) pf cf F]
     refine r_ret ?_
     exact p_ret1 Try.results8 () trivial (res_tmp rfl) (congrArg Value.bool (decide_eq_true (Ms.welds_law hg)).symm) (ho := (.n : PickO _ _ _)) (.n : SelR _ _ _)
end Go.Proofs.Ytalfgjpbbongcaa.Sp
