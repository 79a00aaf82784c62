/- Lemmas on the walk and plain lemmas that the claim of this folder uses; each states its own conditions. Lines were printed by a program of ours. -/
import Derived.Test.YtalfgjpbbongcaaZ4E
set_option linter.unusedVariables false
set_option linter.unusedSimpArgs false
set_option linter.unusedSectionVars false
namespace Go.Proofs.Ytalfgjpbbongcaa.Sp
open Go
set_option linter.unusedVariables false
set_option maxRecDepth 100000
set_option maxHeartbeats 1000000
theorem con_Volume {pv : Option Addr} {nv : Nat} {cv : Nat} {V : List (Int × Int × Int)} {pf : Option Addr} {nf : Nat} {cf : Nat} {F : List (Int × Int × Int)} (hnv : V.length = nv) (hnf : F.length = nf) : Con Try.prog 16 [.agg #[.slice pv nv cv, .slice pf nf cf]] [] [slF (rI3 .i64) pv cv V, slF (rI3 .i64) pf cf F] (Y := (Option Addr) × Nat) (fun y => True) (fun y => .tuple #[.agg #[.bool (decide ((Ms.vol V F) < 0)), .slice (y.1) ((Big.digs ((Ms.vol V F).natAbs)).length) (y.2)], .int .i64 (Ms.volC V F)]) (fun y => []) (fun y => [slF (rI .u32) (y.1) (y.2) (Big.digs ((Ms.vol V F).natAbs))]) := by
 refine con_intro Try.func16 rfl rfl rfl (fun c => ?_)
 show RunC _ _ _ _ _ [(0, .agg #[.slice pv nv cv, .slice pf nf cf])] [] [slF (rI3 .i64) pv cv V, slF (rI3 .i64) pf cf F]
 refine c_len 0 rfl (fun hL0 => ?_)
 refine c_len 1 rfl (fun hL1 => ?_)
 refine r_seq ?_
 refine r_region ?_
 refine r_new rfl rfl (ef_box rfl rfl) (fun b1 => ?_)
 refine r_new rfl rfl (ef_alloc zr34 rfl) (fun b2 => ?_)
 refine r_pv rfl rfl (pv_assign rfl) ?_
 refine r_nil ?_
 refine p_then ?_
 refine r_seq ?_
 refine r_seq ?_
 refine r_region ?_
 refine r_u rfl rfl (vl_load_box_agg 1 ty25 rfl rfl (.take (.take .nil))) ?_
 refine r_call1 rfl rfl (.c rfl .n) ce14 (con_Check (pv := pv) (nv := nv) (cv := cv) (V := V) (pf := pf) (nf := nf) (cf := cf) (F := F) (hnv := by first | rfl | assumption | omega) (hnf := by first | rfl | assumption | omega)) (.c (j := 0) rfl (.c (j := 1) rfl .n)) ?_
 refine r_pv rfl rfl (pv_assign rfl) ?_
 refine r_nil ?_
 refine p_then ?_
 refine r_seq ?_
 refine r_region ?_
 refine r_pv rfl rfl (pv_move rfl) ?_
 refine r_pv rfl rfl (pv_neq rfl rfl) ?_
 refine r_nil ?_
 refine p_then ?_
 refine r_cond rfl (fun hcode => ?_) (fun hcode => ?_)
 ·
  refine r_seq ?_
  refine r_region ?_
  refine r_pv rfl rfl (pv_build_struct zr34 rfl Try.underlying34 (.c sz4 (.c sz32 .n)) .n .n) ?_
  refine r_pv rfl rfl (pv_move rfl) ?_
  refine r_store_box 0 rfl rfl rfl rfl rfl sz34 rfl (.take (.take .nil)) .z ?_
  refine r_pv rfl rfl (pv_assign rfl) ?_
  refine r_nil ?_
  refine p_then ?_
  refine r_ret ?_
  refine p_then_ret ?_
  obtain ⟨hz1, hz2⟩ := Ms.volC_bad hcode
  refine p_nilF (rI .u32) ?_
  exact p_ret2 Try.results16 (none, 0) trivial (res_box_agg 0 ty34 rfl rfl (.take (.take .nil))) (res_tmp rfl) (by rw [hz1, hz2]; rfl) (ho := (.n : PickO _ _ _)) ((.e (j := 0) rfl (by rw [hz2]; rfl) .n) : SelR _ _ _)
 ·
  have hc0 := Decidable.not_not.1 hcode
  have hf0 := Ms.check_form hc0
  have hg := Ms.form_zero.1 hf0
  have hnv5 : nv ≤ 512 := by have := hg.nv; omega
  have hnf5 : nf ≤ 1024 := by have := hg.nf; omega
  refine r_skip ?_
  refine p_then ?_
  refine r_seq ?_
  refine r_seq ?_
  refine r_region ?_
  refine r_u rfl rfl (vl_load_box_agg 1 ty25 rfl rfl (.take (.take .nil))) ?_
  refine r_callf rfl rfl (.c rfl .n) ce56 (con_border (pv := pv) (nv := nv) (cv := cv) (V := V) (pf := pf) (nf := nf) (cf := cf) (F := F) (hnv := by first | rfl | assumption | omega) (hnf := by first | rfl | assumption | omega) (hg := by first | rfl | assumption | omega)) (.c (j := 0) rfl (.c (j := 1) rfl .n)) ?_
  rintro ⟨b23, bm1⟩ hB
  dsimp only [List.append_eq, List.nil_append, List.cons_append]
  replace hB : Ms.BMap F bm1 := hB
  refine r_u rfl rfl (vl_lenMap (encK := (fun z : Int => .int .i64 z)) (encV := (fun z : Int => .int .i64 z)) (ok := (InK .i64)) (m := bm1) 0 rfl Try.underlying76 rfl) ?_
  refine r_pv rfl rfl (pv_gtr rfl rfl) ?_
  refine r_nil ?_
  refine p_then ?_
  refine r_cond rfl (fun hlen => ?_) (fun hlen => ?_)
  ·
   refine r_seq ?_
   refine r_region ?_
   refine r_pv rfl rfl (pv_build_struct zr34 rfl Try.underlying34 (.c sz4 (.c sz32 .n)) .n .n) ?_
   refine r_store_box 1 rfl rfl rfl rfl rfl sz34 rfl (.take (.take .nil)) (.s .z) ?_
   refine r_pv rfl rfl (pv_assign rfl) ?_
   refine r_nil ?_
   refine p_then ?_
   refine r_ret ?_
   refine p_then_ret ?_
   obtain ⟨hz1, hz2⟩ := Ms.volC_open hc0 (hB.empty.1 (by omega))
   refine p_nilF (rI .u32) ?_
   exact p_ret2 Try.results16 (none, 0) trivial (res_box_agg 1 ty34 rfl rfl (.take (.take .nil))) (res_tmp rfl) (by rw [hz1, hz2]; rfl) (ho := (.n : PickO _ _ _)) ((.e (j := 0) rfl (by rw [hz2]; rfl) .n) : SelR _ _ _)
  ·
   refine r_skip ?_
   refine p_then ?_
   refine r_seq ?_
   refine r_region ?_
   refine r_callf rfl rfl (.c rfl .n) ce57 (con_Of (z := (0 : Int)) (hz := by first | rfl | assumption | omega)) (.n) ?_
   rintro ⟨p24, c25⟩ -
   dsimp only [List.append_eq, List.nil_append, List.cons_append]
   refine r_new rfl rfl (ef_alloc zr34 rfl) (fun b6 => ?_)
   refine r_store_box 0 rfl rfl rfl rfl rfl sz34 rfl (.take (.take .nil)) .z ?_
   refine r_nil ?_
   refine p_then ?_
   refine r_seq ?_
   refine r_seq ?_
   refine r_region ?_
   refine r_pv rfl rfl (pv_fieldAddr Try.underlying25 rfl sz23 rfl rfl) ?_
   refine r_u rfl rfl (vl_load_box_one 3 ty23 rfl rfl rfl) ?_
   refine r_pv rfl rfl (pv_len Try.underlying23 rfl) ?_
   refine r_pv rfl rfl (pv_move rfl) ?_
   refine r_nil ?_
   refine p_then ?_
   refine r_block ?_
   refine r_loop (X := Nat × Int × (Option Addr) × Nat) (fun x : Nat × Int × (Option Addr) × Nat => x.1 ≤ nf ∧ x.2.1 = Ms.volS V (F.take x.1) ∧ Big.ln x.2.1 ≤ 4000 + x.1) (fun x => [(27, .int .i64 ((x.1 : Nat) : Int)), (26, .int .i64 ((nf : Nat) : Int)), (25, .slice pf nf cf), (5, .pointer (some ⟨b6, 0, none⟩)), (3, .int .i64 0), (2, .pointer (some ⟨b2, 0, none⟩)), (1, .pointer (some ⟨b1, 0, none⟩))]) (fun x => [boxA b6 34 [.bool (decide ((x.2.1) < 0)), .slice (x.2.2.1) ((Big.digs ((x.2.1).natAbs)).length) (x.2.2.2)], mapA b23 (fun z : Int => .int .i64 z) (fun z : Int => .int .i64 z) (InK .i64) bm1, boxA b2 34 [.bool false, .slice none 0 0], boxA b1 25 [.slice pv nv cv, .slice pf nf cf]]) (fun x => [slF (rI .u32) (x.2.2.1) (x.2.2.2) (Big.digs ((x.2.1).natAbs)), slF (rI .u32) p24 c25 (Big.digs ((0 : Int).natAbs)), slF (rI3 .i64) pv cv V, slF (rI3 .i64) pf cf F]) (fun x : Nat × Int × (Option Addr) × Nat => nf - x.1) (0, (0 : Int), p24, c25) (show 0 ≤ nf ∧ (0 : Int) = Ms.volS V (F.take 0) ∧ Big.ln (0 : Int) ≤ 4000 + 0 from by exact ⟨Nat.zero_le _, rfl, by rw [Big.ln_zero]; omega⟩) ((.e rfl (by first | rfl | (congr 1; omega) | simp_all) (.of rfl)) : SubM _ _) (ho := ((.of [0, 0, 0, 0] rfl) : PickO _ _ _)) ((.of [0, 0, 1, 2] rfl) : SelR _ _ _) ?_
   rintro ⟨i, s, p, c⟩ hI
   replace hI : i ≤ nf ∧ s = Ms.volS V (F.take i) ∧ Big.ln s ≤ 4000 + i := hI
   show RunC _ _ _ _ _ [(27, .int .i64 ((i : Nat) : Int)), (26, .int .i64 ((nf : Nat) : Int)), (25, .slice pf nf cf), (5, .pointer (some ⟨b6, 0, none⟩)), (3, .int .i64 0), (2, .pointer (some ⟨b2, 0, none⟩)), (1, .pointer (some ⟨b1, 0, none⟩))] [boxA b6 34 [.bool (decide (s < 0)), .slice p ((Big.digs ((s).natAbs)).length) c], mapA b23 (fun z : Int => .int .i64 z) (fun z : Int => .int .i64 z) (InK .i64) bm1, boxA b2 34 [.bool false, .slice none 0 0], boxA b1 25 [.slice pv nv cv, .slice pf nf cf]] [slF (rI .u32) p c (Big.digs ((s).natAbs)), slF (rI .u32) p24 c25 (Big.digs ((0 : Int).natAbs)), slF (rI3 .i64) pv cv V, slF (rI3 .i64) pf cf F]
   obtain ⟨hi, hs, hln⟩ := hI
   refine r_seq ?_
   refine r_region ?_
   refine r_pv rfl rfl (pv_lss rfl rfl) ?_
   refine r_nil ?_
   refine p_then ?_
   refine r_seq ?_
   refine r_cond rfl (fun h7 => ?_) (fun h7 => ?_)
   ·
    have hat := hg.at (show i < F.length by omega)
    have hv0 := hg.vat (i := ((F.getD i (0, 0, 0)).1).toNat) (by omega)
    have hv1 := hg.vat (i := ((F.getD i (0, 0, 0)).2.1).toNat) (by omega)
    have hv2 := hg.vat (i := ((F.getD i (0, 0, 0)).2.2).toNat) (by omega)
    refine r_skip ?_
    refine p_then ?_
    refine r_seq ?_
    refine r_block ?_
    refine r_seq ?_
    refine r_region ?_
    refine r_index_fl (x0 := (F.getD i (0, 0, 0))) 3 i rfl Try.underlying23 sz44 rfl rfl rfl (by first | rfl | assumption | (simp_all; done) | omega) rfl rfl (gD (d := (0, 0, 0)) (by omega)) (fun b8 o9 hok10 => ?_)
    obtain ⟨hok10x, hok10y, hok10z⟩ := hok10
    replace hok10x := inK_i64.1 hok10x
    replace hok10y := inK_i64.1 hok10y
    replace hok10z := inK_i64.1 hok10z
    refine r_u rfl rfl (vl_load_at_agg (j := 0) 0 ty44 rfl rfl rfl (.take (.take (.take .nil)))) ?_
    refine r_new rfl rfl (ef_alloc zr44 rfl) (fun b11 => ?_)
    refine r_store_box 0 rfl rfl rfl rfl rfl sz44 rfl (.take (.take (.take .nil))) .z ?_
    refine r_nil ?_
    refine p_then ?_
    refine r_seq ?_
    refine r_region ?_
    refine r_pv rfl rfl (pv_build_struct zr42 rfl Try.underlying42 (.c sz3 (.c sz3 (.c sz3 .n))) .n .n) ?_
    refine r_new rfl rfl (ef_alloc zr42 rfl) (fun b12 => ?_)
    refine r_store_box 0 rfl rfl rfl rfl rfl sz42 rfl (.take (.take (.take .nil))) .z ?_
    refine r_nil ?_
    refine p_then ?_
    refine r_seq ?_
    refine r_draw (OW := []) (O := [boxA b12 42 [.int .i64 0, .int .i64 0, .int .i64 0], boxA b11 44 [.int .i64 ((F.getD i (0, 0, 0)).1), .int .i64 ((F.getD i (0, 0, 0)).2.1), .int .i64 ((F.getD i (0, 0, 0)).2.2)], boxA b6 34 [.bool (decide (s < 0)), .slice p ((Big.digs ((s).natAbs)).length) c], mapA b23 (fun z : Int => .int .i64 z) (fun z : Int => .int .i64 z) (InK .i64) bm1, boxA b2 34 [.bool false, .slice none 0 0], boxA b1 25 [.slice pv nv cv, .slice pf nf cf]]) 27 mixed (.then (.block (.then (.then (.block (.then .ret)))))) (by kernel_rfl) ?_
    refine d_u 0 rfl rfl (by kernel_rfl) (by kernel_rfl) rfl rfl (vl_load_box_agg 0 ty42 rfl rfl (.take (.take (.take .nil)))) ?_
    refine d_pv 1 rfl rfl (by kernel_rfl) (by kernel_rfl) rfl rfl (pv_fieldAddr Try.underlying25 rfl sz22 rfl rfl) ?_
    refine d_u 2 rfl rfl (by kernel_rfl) (by kernel_rfl) rfl rfl (vl_load_box_one 5 ty22 rfl rfl rfl) ?_
    refine d_pv 3 rfl rfl (by kernel_rfl) (by kernel_rfl) rfl rfl (pv_indexAddr_arr (i := 0) Try.underlying44 sz3 rfl rfl (by decide) rfl) ?_
    refine d_u 4 rfl rfl (by kernel_rfl) (by kernel_rfl) rfl rfl (vl_load_box_one 1 ty3 rfl rfl rfl) ?_
    refine d_index_fl (x0 := (V.getD (((F.getD i (0, 0, 0)).1).toNat) (0, 0, 0))) 5 rfl rfl (by kernel_rfl) (by kernel_rfl) 3 (((F.getD i (0, 0, 0)).1).toNat) rfl Try.underlying22 sz42 rfl rfl rfl (by first | rfl | assumption | (simp_all; done) | omega) rfl (by omega) (gD (d := (0, 0, 0)) (by omega)) (fun b13 o14 hok15 => ?_)
    obtain ⟨hok15x, hok15y, hok15z⟩ := hok15
    replace hok15x := inK_i64.1 hok15x
    replace hok15y := inK_i64.1 hok15y
    replace hok15z := inK_i64.1 hok15z
    refine d_u 6 rfl rfl (by kernel_rfl) (by kernel_rfl) rfl rfl (vl_load_at_agg (j := 0) 0 ty42 rfl rfl rfl (.take (.take (.take .nil)))) ?_
    refine d_u 8 rfl rfl (by kernel_rfl) (by kernel_rfl) rfl rfl (vl_load_box_agg 0 ty42 rfl rfl (.take (.take (.take .nil)))) ?_
    refine d_pv 9 rfl rfl (by kernel_rfl) (by kernel_rfl) rfl rfl (pv_fieldAddr Try.underlying25 rfl sz22 rfl rfl) ?_
    refine d_u 10 rfl rfl (by kernel_rfl) (by kernel_rfl) rfl rfl (vl_load_box_one 5 ty22 rfl rfl rfl) ?_
    refine d_pv 11 rfl rfl (by kernel_rfl) (by kernel_rfl) rfl rfl (pv_indexAddr_arr (i := 1) Try.underlying44 sz3 rfl rfl (by decide) rfl) ?_
    refine d_u 12 rfl rfl (by kernel_rfl) (by kernel_rfl) rfl rfl (vl_load_box_one 1 ty3 rfl rfl rfl) ?_
    refine d_index_fl (x0 := (V.getD (((F.getD i (0, 0, 0)).2.1).toNat) (0, 0, 0))) 13 rfl rfl (by kernel_rfl) (by kernel_rfl) 4 (((F.getD i (0, 0, 0)).2.1).toNat) rfl Try.underlying22 sz42 rfl rfl rfl (by first | rfl | assumption | (simp_all; done) | omega) rfl (by omega) (gD (d := (0, 0, 0)) (by omega)) (fun b16 o17 hok18 => ?_)
    obtain ⟨hok18x, hok18y, hok18z⟩ := hok18
    replace hok18x := inK_i64.1 hok18x
    replace hok18y := inK_i64.1 hok18y
    replace hok18z := inK_i64.1 hok18z
    refine d_u 14 rfl rfl (by kernel_rfl) (by kernel_rfl) rfl rfl (vl_load_at_agg (j := 0) 0 ty42 rfl rfl rfl (.take (.take (.take .nil)))) ?_
    refine d_u 16 rfl rfl (by kernel_rfl) (by kernel_rfl) rfl rfl (vl_load_box_agg 0 ty42 rfl rfl (.take (.take (.take .nil)))) ?_
    refine d_pv 17 rfl rfl (by kernel_rfl) (by kernel_rfl) rfl rfl (pv_fieldAddr Try.underlying25 rfl sz22 rfl rfl) ?_
    refine d_u 18 rfl rfl (by kernel_rfl) (by kernel_rfl) rfl rfl (vl_load_box_one 5 ty22 rfl rfl rfl) ?_
    refine d_pv 19 rfl rfl (by kernel_rfl) (by kernel_rfl) rfl rfl (pv_indexAddr_arr (i := 2) Try.underlying44 sz3 rfl rfl (by decide) rfl) ?_
    refine d_u 20 rfl rfl (by kernel_rfl) (by kernel_rfl) rfl rfl (vl_load_box_one 1 ty3 rfl rfl rfl) ?_
    refine d_index_fl (x0 := (V.getD (((F.getD i (0, 0, 0)).2.2).toNat) (0, 0, 0))) 21 rfl rfl (by kernel_rfl) (by kernel_rfl) 5 (((F.getD i (0, 0, 0)).2.2).toNat) rfl Try.underlying22 sz42 rfl rfl rfl (by first | rfl | assumption | (simp_all; done) | omega) rfl (by omega) (gD (d := (0, 0, 0)) (by omega)) (fun b19 o20 hok21 => ?_)
    obtain ⟨hok21x, hok21y, hok21z⟩ := hok21
    replace hok21x := inK_i64.1 hok21x
    replace hok21y := inK_i64.1 hok21y
    replace hok21z := inK_i64.1 hok21z
    refine d_u 22 rfl rfl (by kernel_rfl) (by kernel_rfl) rfl rfl (vl_load_at_agg (j := 0) 0 ty42 rfl rfl rfl (.take (.take (.take .nil)))) ?_
    refine d_weak (m' := [(54, .agg #[.int .i64 ((V.getD (((F.getD i (0, 0, 0)).2.2).toNat) (0, 0, 0)).1), .int .i64 ((V.getD (((F.getD i (0, 0, 0)).2.2).toNat) (0, 0, 0)).2.1), .int .i64 ((V.getD (((F.getD i (0, 0, 0)).2.2).toNat) (0, 0, 0)).2.2)]), (53, .pointer (some ⟨b19, o20, none⟩)), (52, .int .i64 ((F.getD i (0, 0, 0)).2.2)), (51, .pointer (some ⟨b11, 2, none⟩)), (50, .slice pv nv cv), (49, .pointer (some ⟨b1, 0, none⟩)), (48, .agg #[.int .i64 0, .int .i64 0, .int .i64 0]), (46, .agg #[.int .i64 ((V.getD (((F.getD i (0, 0, 0)).2.1).toNat) (0, 0, 0)).1), .int .i64 ((V.getD (((F.getD i (0, 0, 0)).2.1).toNat) (0, 0, 0)).2.1), .int .i64 ((V.getD (((F.getD i (0, 0, 0)).2.1).toNat) (0, 0, 0)).2.2)]), (45, .pointer (some ⟨b16, o17, none⟩)), (44, .int .i64 ((F.getD i (0, 0, 0)).2.1)), (43, .pointer (some ⟨b11, 1, none⟩)), (42, .slice pv nv cv), (41, .pointer (some ⟨b1, 0, none⟩)), (40, .agg #[.int .i64 0, .int .i64 0, .int .i64 0]), (38, .agg #[.int .i64 ((V.getD (((F.getD i (0, 0, 0)).1).toNat) (0, 0, 0)).1), .int .i64 ((V.getD (((F.getD i (0, 0, 0)).1).toNat) (0, 0, 0)).2.1), .int .i64 ((V.getD (((F.getD i (0, 0, 0)).1).toNat) (0, 0, 0)).2.2)]), (37, .pointer (some ⟨b13, o14, none⟩)), (36, .int .i64 ((F.getD i (0, 0, 0)).1)), (35, .pointer (some ⟨b11, 0, none⟩)), (34, .slice pv nv cv), (33, .pointer (some ⟨b1, 0, none⟩)), (32, .agg #[.int .i64 0, .int .i64 0, .int .i64 0]), (8, .pointer (some ⟨b12, 0, none⟩)), (31, .agg #[.int .i64 0, .int .i64 0, .int .i64 0]), (7, .pointer (some ⟨b11, 0, none⟩)), (30, .agg #[.int .i64 ((F.getD i (0, 0, 0)).1), .int .i64 ((F.getD i (0, 0, 0)).2.1), .int .i64 ((F.getD i (0, 0, 0)).2.2)]), (29, .pointer (some ⟨b8, o9, none⟩)), (28, .bool (decide (((i : Nat) : Int) < ((nf : Nat) : Int)))), (27, .int .i64 ((i : Nat) : Int)), (26, .int .i64 ((nf : Nat) : Int)), (25, .slice pf nf cf), (5, .pointer (some ⟨b6, 0, none⟩)), (3, .int .i64 0), (2, .pointer (some ⟨b2, 0, none⟩)), (1, .pointer (some ⟨b1, 0, none⟩))]) (R' := [atF b19 o20 [.int .i64 ((V.getD (((F.getD i (0, 0, 0)).2.2).toNat) (0, 0, 0)).1), .int .i64 ((V.getD (((F.getD i (0, 0, 0)).2.2).toNat) (0, 0, 0)).2.1), .int .i64 ((V.getD (((F.getD i (0, 0, 0)).2.2).toNat) (0, 0, 0)).2.2)], atF b16 o17 [.int .i64 ((V.getD (((F.getD i (0, 0, 0)).2.1).toNat) (0, 0, 0)).1), .int .i64 ((V.getD (((F.getD i (0, 0, 0)).2.1).toNat) (0, 0, 0)).2.1), .int .i64 ((V.getD (((F.getD i (0, 0, 0)).2.1).toNat) (0, 0, 0)).2.2)], atF b13 o14 [.int .i64 ((V.getD (((F.getD i (0, 0, 0)).1).toNat) (0, 0, 0)).1), .int .i64 ((V.getD (((F.getD i (0, 0, 0)).1).toNat) (0, 0, 0)).2.1), .int .i64 ((V.getD (((F.getD i (0, 0, 0)).1).toNat) (0, 0, 0)).2.2)], atF b8 o9 [.int .i64 ((F.getD i (0, 0, 0)).1), .int .i64 ((F.getD i (0, 0, 0)).2.1), .int .i64 ((F.getD i (0, 0, 0)).2.2)], slF (rI .u32) p c (Big.digs ((s).natAbs)), slF (rI .u32) p24 c25 (Big.digs ((0 : Int).natAbs)), slF (rI3 .i64) pv cv V, slF (rI3 .i64) pf cf F]) ((.of rfl) : SubM _ _) (List.Perm.refl _) (List.Perm.refl _) ((.of [0, 1, 2, 3, 4, 5, 6, 7] rfl) : SelR _ _ _) ?_
    obtain ⟨qax, hqax⟩ : ∃ z, z = (V.getD (((F.getD i (0, 0, 0)).1).toNat) (0, 0, 0)).1 := ⟨_, rfl⟩
    rw [← hqax]
    obtain ⟨qay, hqay⟩ : ∃ z, z = (V.getD (((F.getD i (0, 0, 0)).1).toNat) (0, 0, 0)).2.1 := ⟨_, rfl⟩
    rw [← hqay]
    obtain ⟨qaz, hqaz⟩ : ∃ z, z = (V.getD (((F.getD i (0, 0, 0)).1).toNat) (0, 0, 0)).2.2 := ⟨_, rfl⟩
    rw [← hqaz]
    obtain ⟨qbx, hqbx⟩ : ∃ z, z = (V.getD (((F.getD i (0, 0, 0)).2.1).toNat) (0, 0, 0)).1 := ⟨_, rfl⟩
    rw [← hqbx]
    obtain ⟨qby, hqby⟩ : ∃ z, z = (V.getD (((F.getD i (0, 0, 0)).2.1).toNat) (0, 0, 0)).2.1 := ⟨_, rfl⟩
    rw [← hqby]
    obtain ⟨qbz, hqbz⟩ : ∃ z, z = (V.getD (((F.getD i (0, 0, 0)).2.1).toNat) (0, 0, 0)).2.2 := ⟨_, rfl⟩
    rw [← hqbz]
    obtain ⟨qcx, hqcx⟩ : ∃ z, z = (V.getD (((F.getD i (0, 0, 0)).2.2).toNat) (0, 0, 0)).1 := ⟨_, rfl⟩
    rw [← hqcx]
    obtain ⟨qcy, hqcy⟩ : ∃ z, z = (V.getD (((F.getD i (0, 0, 0)).2.2).toNat) (0, 0, 0)).2.1 := ⟨_, rfl⟩
    rw [← hqcy]
    obtain ⟨qcz, hqcz⟩ : ∃ z, z = (V.getD (((F.getD i (0, 0, 0)).2.2).toNat) (0, 0, 0)).2.2 := ⟨_, rfl⟩
    rw [← hqcz]
    refine d_join (X := Option Addr × Nat × Option Addr × Nat × Option Addr × Nat × Option Addr × Nat × Option Addr × Nat × Option Addr × Nat × Option Addr × Nat × Option Addr × Nat × Option Addr × Nat × Nat × Nat × Nat) (k' := 0) (L' := #[true, true, true, true, true, true, true, true, true, true, true, true, true, true, true, true, true, true, true, true, true, true, true, true, true, true, true, true, true, true]) (fun (pr0n7n1, cr0n7n2, pr1n7n3, cr1n7n4, pr2n7n5, cr2n7n6, pr0n15n1, cr0n15n2, pr1n15n3, cr1n15n4, pr2n15n5, cr2n15n6, pr0n23n1, cr0n23n2, pr1n23n3, cr1n23n4, pr2n23n5, cr2n23n6, bn24n1, bn25n1, bn26n1) => ([(11, .pointer (some ⟨bn26n1, 0, none⟩)), (10, .pointer (some ⟨bn25n1, 0, none⟩)), (9, .pointer (some ⟨bn24n1, 0, none⟩)), (55, .agg #[.bool (decide ((qcx - 0) < 0)), .slice pr0n23n1 ((Big.digs ((qcx - 0).natAbs)).length) cr0n23n2, .bool (decide ((qcy - 0) < 0)), .slice pr1n23n3 ((Big.digs ((qcy - 0).natAbs)).length) cr1n23n4, .bool (decide ((qcz - 0) < 0)), .slice pr2n23n5 ((Big.digs ((qcz - 0).natAbs)).length) cr2n23n6]), (47, .agg #[.bool (decide ((qbx - 0) < 0)), .slice pr0n15n1 ((Big.digs ((qbx - 0).natAbs)).length) cr0n15n2, .bool (decide ((qby - 0) < 0)), .slice pr1n15n3 ((Big.digs ((qby - 0).natAbs)).length) cr1n15n4, .bool (decide ((qbz - 0) < 0)), .slice pr2n15n5 ((Big.digs ((qbz - 0).natAbs)).length) cr2n15n6]), (39, .agg #[.bool (decide ((qax - 0) < 0)), .slice pr0n7n1 ((Big.digs ((qax - 0).natAbs)).length) cr0n7n2, .bool (decide ((qay - 0) < 0)), .slice pr1n7n3 ((Big.digs ((qay - 0).natAbs)).length) cr1n7n4, .bool (decide ((qaz - 0) < 0)), .slice pr2n7n5 ((Big.digs ((qaz - 0).natAbs)).length) cr2n7n6]), (54, .agg #[.int .i64 qcx, .int .i64 qcy, .int .i64 qcz]), (53, .pointer (some ⟨b19, o20, none⟩)), (52, .int .i64 ((F.getD i (0, 0, 0)).2.2)), (51, .pointer (some ⟨b11, 2, none⟩)), (50, .slice pv nv cv), (49, .pointer (some ⟨b1, 0, none⟩)), (48, .agg #[.int .i64 0, .int .i64 0, .int .i64 0]), (46, .agg #[.int .i64 qbx, .int .i64 qby, .int .i64 qbz]), (45, .pointer (some ⟨b16, o17, none⟩)), (44, .int .i64 ((F.getD i (0, 0, 0)).2.1)), (43, .pointer (some ⟨b11, 1, none⟩)), (42, .slice pv nv cv), (41, .pointer (some ⟨b1, 0, none⟩)), (40, .agg #[.int .i64 0, .int .i64 0, .int .i64 0]), (38, .agg #[.int .i64 qax, .int .i64 qay, .int .i64 qaz]), (37, .pointer (some ⟨b13, o14, none⟩)), (36, .int .i64 ((F.getD i (0, 0, 0)).1)), (35, .pointer (some ⟨b11, 0, none⟩)), (34, .slice pv nv cv), (33, .pointer (some ⟨b1, 0, none⟩)), (32, .agg #[.int .i64 0, .int .i64 0, .int .i64 0]), (8, .pointer (some ⟨b12, 0, none⟩)), (31, .agg #[.int .i64 0, .int .i64 0, .int .i64 0]), (7, .pointer (some ⟨b11, 0, none⟩)), (30, .agg #[.int .i64 ((F.getD i (0, 0, 0)).1), .int .i64 ((F.getD i (0, 0, 0)).2.1), .int .i64 ((F.getD i (0, 0, 0)).2.2)]), (29, .pointer (some ⟨b8, o9, none⟩)), (28, .bool (decide (((i : Nat) : Int) < ((nf : Nat) : Int)))), (27, .int .i64 ((i : Nat) : Int)), (26, .int .i64 ((nf : Nat) : Int)), (25, .slice pf nf cf), (5, .pointer (some ⟨b6, 0, none⟩)), (3, .int .i64 0), (2, .pointer (some ⟨b2, 0, none⟩)), (1, .pointer (some ⟨b1, 0, none⟩))], [boxA bn26n1 89 [.bool (decide ((qcx - 0) < 0)), .slice pr0n23n1 ((Big.digs ((qcx - 0).natAbs)).length) cr0n23n2, .bool (decide ((qcy - 0) < 0)), .slice pr1n23n3 ((Big.digs ((qcy - 0).natAbs)).length) cr1n23n4, .bool (decide ((qcz - 0) < 0)), .slice pr2n23n5 ((Big.digs ((qcz - 0).natAbs)).length) cr2n23n6], boxA bn25n1 89 [.bool (decide ((qbx - 0) < 0)), .slice pr0n15n1 ((Big.digs ((qbx - 0).natAbs)).length) cr0n15n2, .bool (decide ((qby - 0) < 0)), .slice pr1n15n3 ((Big.digs ((qby - 0).natAbs)).length) cr1n15n4, .bool (decide ((qbz - 0) < 0)), .slice pr2n15n5 ((Big.digs ((qbz - 0).natAbs)).length) cr2n15n6], boxA bn24n1 89 [.bool (decide ((qax - 0) < 0)), .slice pr0n7n1 ((Big.digs ((qax - 0).natAbs)).length) cr0n7n2, .bool (decide ((qay - 0) < 0)), .slice pr1n7n3 ((Big.digs ((qay - 0).natAbs)).length) cr1n7n4, .bool (decide ((qaz - 0) < 0)), .slice pr2n7n5 ((Big.digs ((qaz - 0).natAbs)).length) cr2n7n6]], [boxA b12 42 [.int .i64 0, .int .i64 0, .int .i64 0], boxA b11 44 [.int .i64 ((F.getD i (0, 0, 0)).1), .int .i64 ((F.getD i (0, 0, 0)).2.1), .int .i64 ((F.getD i (0, 0, 0)).2.2)], boxA b6 34 [.bool (decide (s < 0)), .slice p ((Big.digs ((s).natAbs)).length) c], mapA b23 (fun z : Int => .int .i64 z) (fun z : Int => .int .i64 z) (InK .i64) bm1, boxA b2 34 [.bool false, .slice none 0 0], boxA b1 25 [.slice pv nv cv, .slice pf nf cf]], [slF (rI .u32) pr0n23n1 cr0n23n2 (Big.digs ((qcx - 0).natAbs)), slF (rI .u32) pr1n23n3 cr1n23n4 (Big.digs ((qcy - 0).natAbs)), slF (rI .u32) pr2n23n5 cr2n23n6 (Big.digs ((qcz - 0).natAbs)), slF (rI .u32) pr0n15n1 cr0n15n2 (Big.digs ((qbx - 0).natAbs)), slF (rI .u32) pr1n15n3 cr1n15n4 (Big.digs ((qby - 0).natAbs)), slF (rI .u32) pr2n15n5 cr2n15n6 (Big.digs ((qbz - 0).natAbs)), slF (rI .u32) pr0n7n1 cr0n7n2 (Big.digs ((qax - 0).natAbs)), slF (rI .u32) pr1n7n3 cr1n7n4 (Big.digs ((qay - 0).natAbs)), slF (rI .u32) pr2n7n5 cr2n7n6 (Big.digs ((qaz - 0).natAbs)), atF b19 o20 [.int .i64 qcx, .int .i64 qcy, .int .i64 qcz], atF b16 o17 [.int .i64 qbx, .int .i64 qby, .int .i64 qbz], atF b13 o14 [.int .i64 qax, .int .i64 qay, .int .i64 qaz], atF b8 o9 [.int .i64 ((F.getD i (0, 0, 0)).1), .int .i64 ((F.getD i (0, 0, 0)).2.1), .int .i64 ((F.getD i (0, 0, 0)).2.2)], slF (rI .u32) p c (Big.digs ((s).natAbs)), slF (rI .u32) p24 c25 (Big.digs ((0 : Int).natAbs)), slF (rI3 .i64) pv cv V, slF (rI3 .i64) pf cf F])) ?_ (fun hD0 => ?_)
    ·
     rintro ⟨pr0n7n1, cr0n7n2, pr1n7n3, cr1n7n4, pr2n7n5, cr2n7n6, pr0n15n1, cr0n15n2, pr1n15n3, cr1n15n4, pr2n15n5, cr2n15n6, pr0n23n1, cr0n23n2, pr1n23n3, cr1n23n4, pr2n23n5, cr2n23n6, bn24n1, bn25n1, bn26n1⟩
     dsimp only
     refine d_done (by kernel_rfl) ?_
     refine p_then ?_
     refine r_weakO (.c (i := 5) rfl (.c (i := 0) rfl (.c (i := 0) rfl (.c (i := 0) rfl (.c (i := 0) rfl (.c (i := 0) rfl (.c (i := 0) rfl (.c (i := 0) rfl (.c (i := 0) rfl .n))))))))) ?_
     refine r_draw (OW := [boxA b6 34 [.bool (decide (s < 0)), .slice p ((Big.digs ((s).natAbs)).length) c]]) (O := [boxA bn26n1 89 [.bool (decide ((qcx - 0) < 0)), .slice pr0n23n1 ((Big.digs ((qcx - 0).natAbs)).length) cr0n23n2, .bool (decide ((qcy - 0) < 0)), .slice pr1n23n3 ((Big.digs ((qcy - 0).natAbs)).length) cr1n23n4, .bool (decide ((qcz - 0) < 0)), .slice pr2n23n5 ((Big.digs ((qcz - 0).natAbs)).length) cr2n23n6], boxA bn25n1 89 [.bool (decide ((qbx - 0) < 0)), .slice pr0n15n1 ((Big.digs ((qbx - 0).natAbs)).length) cr0n15n2, .bool (decide ((qby - 0) < 0)), .slice pr1n15n3 ((Big.digs ((qby - 0).natAbs)).length) cr1n15n4, .bool (decide ((qbz - 0) < 0)), .slice pr2n15n5 ((Big.digs ((qbz - 0).natAbs)).length) cr2n15n6], boxA bn24n1 89 [.bool (decide ((qax - 0) < 0)), .slice pr0n7n1 ((Big.digs ((qax - 0).natAbs)).length) cr0n7n2, .bool (decide ((qay - 0) < 0)), .slice pr1n7n3 ((Big.digs ((qay - 0).natAbs)).length) cr1n7n4, .bool (decide ((qaz - 0) < 0)), .slice pr2n7n5 ((Big.digs ((qaz - 0).natAbs)).length) cr2n7n6], boxA b12 42 [.int .i64 0, .int .i64 0, .int .i64 0], boxA b11 44 [.int .i64 ((F.getD i (0, 0, 0)).1), .int .i64 ((F.getD i (0, 0, 0)).2.1), .int .i64 ((F.getD i (0, 0, 0)).2.2)], mapA b23 (fun z : Int => .int .i64 z) (fun z : Int => .int .i64 z) (InK .i64) bm1, boxA b2 34 [.bool false, .slice none 0 0], boxA b1 25 [.slice pv nv cv, .slice pf nf cf]]) 7 mixed (.block (.then (.then (.block (.then .ret))))) (by kernel_rfl) ?_
     refine d_uw 0 rfl rfl (by kernel_rfl) (by kernel_rfl) (by kernel_rfl) rfl rfl (vl_load_box_agg 0 ty34 rfl rfl (.take (.take .nil))) ?_
     refine d_uw 1 rfl rfl (by kernel_rfl) (by kernel_rfl) (by kernel_rfl) rfl rfl (vl_load_box_agg 3 ty89 rfl rfl (.take (.take (.take (.take (.take (.take .nil))))))) ?_
     refine d_uw 2 rfl rfl (by kernel_rfl) (by kernel_rfl) (by kernel_rfl) rfl rfl (vl_load_box_agg 2 ty89 rfl rfl (.take (.take (.take (.take (.take (.take .nil))))))) ?_
     refine d_uw 3 rfl rfl (by kernel_rfl) (by kernel_rfl) (by kernel_rfl) rfl rfl (vl_load_box_agg 1 ty89 rfl rfl (.take (.take (.take (.take (.take (.take .nil))))))) ?_
     refine d_one 4 (by kernel_rfl) (o_callf rfl rfl rfl rfl (.c rfl (.c rfl .n)) ce61 (con_cross (ex := (qbx - 0)) (ey := (qby - 0)) (ez := (qbz - 0)) (pa0 := pr0n15n1) (ca0 := cr0n15n2) (pa1 := pr1n15n3) (ca1 := cr1n15n4) (pa2 := pr2n15n5) (ca2 := cr2n15n6) (fx := (qcx - 0)) (fy := (qcy - 0)) (fz := (qcz - 0)) (pb0 := pr0n23n1) (cb0 := cr0n23n2) (pb1 := pr1n23n3) (cb1 := cr1n23n4) (pb2 := pr2n23n5) (cb2 := cr2n23n6) (hlex := by exact Nat.le_trans (Big.ln_small (by omega)) (by decide)) (hley := by exact Nat.le_trans (Big.ln_small (by omega)) (by decide)) (hlez := by exact Nat.le_trans (Big.ln_small (by omega)) (by decide)) (hlfx := by exact Nat.le_trans (Big.ln_small (by omega)) (by decide)) (hlfy := by exact Nat.le_trans (Big.ln_small (by omega)) (by decide)) (hlfz := by exact Nat.le_trans (Big.ln_small (by omega)) (by decide))) (.c (j := 3) rfl (.c (j := 4) rfl (.c (j := 5) rfl (.c (j := 0) rfl (.c (j := 1) rfl (.c (j := 2) rfl .n)))))) ?_)
     rintro ⟨pr022, cr023, pr124, cr125, pr226, cr227⟩ -
     dsimp only [List.append_eq, List.nil_append, List.cons_append]
     refine d_one 5 (by kernel_rfl) (o_callf rfl rfl rfl rfl (.c rfl (.c rfl .n)) ce60 (con_dot (ex := (qax - 0)) (ey := (qay - 0)) (ez := (qaz - 0)) (pa0 := pr0n7n1) (ca0 := cr0n7n2) (pa1 := pr1n7n3) (ca1 := cr1n7n4) (pa2 := pr2n7n5) (ca2 := cr2n7n6) (fx := ((qby - 0) * (qcz - 0) - (qbz - 0) * (qcy - 0))) (fy := ((qbz - 0) * (qcx - 0) - (qbx - 0) * (qcz - 0))) (fz := ((qbx - 0) * (qcy - 0) - (qby - 0) * (qcx - 0))) (pb0 := pr022) (cb0 := cr023) (pb1 := pr124) (cb1 := cr125) (pb2 := pr226) (cb2 := cr227) (hlex := by first | (exact Nat.le_trans (Big.ln_small (by omega)) (by decide)) | (refine Nat.le_trans (Big.ln_cross ?_ ?_ ?_ ?_) (by decide) <;> exact Nat.le_trans (Big.ln_small (by omega)) (by decide))) (hley := by first | (exact Nat.le_trans (Big.ln_small (by omega)) (by decide)) | (refine Nat.le_trans (Big.ln_cross ?_ ?_ ?_ ?_) (by decide) <;> exact Nat.le_trans (Big.ln_small (by omega)) (by decide))) (hlez := by first | (exact Nat.le_trans (Big.ln_small (by omega)) (by decide)) | (refine Nat.le_trans (Big.ln_cross ?_ ?_ ?_ ?_) (by decide) <;> exact Nat.le_trans (Big.ln_small (by omega)) (by decide))) (hlfx := by first | (exact Nat.le_trans (Big.ln_small (by omega)) (by decide)) | (refine Nat.le_trans (Big.ln_cross ?_ ?_ ?_ ?_) (by decide) <;> exact Nat.le_trans (Big.ln_small (by omega)) (by decide))) (hlfy := by first | (exact Nat.le_trans (Big.ln_small (by omega)) (by decide)) | (refine Nat.le_trans (Big.ln_cross ?_ ?_ ?_ ?_) (by decide) <;> exact Nat.le_trans (Big.ln_small (by omega)) (by decide))) (hlfz := by first | (exact Nat.le_trans (Big.ln_small (by omega)) (by decide)) | (refine Nat.le_trans (Big.ln_cross ?_ ?_ ?_ ?_) (by decide) <;> exact Nat.le_trans (Big.ln_small (by omega)) (by decide)))) (.c (j := 9) rfl (.c (j := 10) rfl (.c (j := 11) rfl (.c (j := 0) rfl (.c (j := 1) rfl (.c (j := 2) rfl .n)))))) ?_)
     rintro ⟨p328, c329⟩ -
     dsimp only [List.append_eq, List.nil_append, List.cons_append]
     refine d_one 6 (by kernel_rfl) (o_callf rfl rfl rfl rfl (.c rfl (.c rfl .n)) ce59 (con_AddZ (x1 := s) (x2 := Ms.dot ((qax - 0), (qay - 0), (qaz - 0)) (((qby - 0) * (qcz - 0) - (qbz - 0) * (qcy - 0)), ((qbz - 0) * (qcx - 0) - (qbx - 0) * (qcz - 0)), ((qbx - 0) * (qcy - 0) - (qby - 0) * (qcx - 0)))) (p1 := p) (c1 := c) (p2 := p328) (c2 := c329) (hb1 := by first | omega | (refine Nat.le_trans (Big.ln_dot _ _ ?_ ?_ ?_ ?_ ?_ ?_) (by decide) <;> (try dsimp only) <;> first | (exact Nat.le_trans (Big.ln_small (by omega)) (by decide)) | (refine Nat.le_trans (Big.ln_cross ?_ ?_ ?_ ?_) (by decide) <;> exact Nat.le_trans (Big.ln_small (by omega)) (by decide)))) (hb2 := by first | omega | (refine Nat.le_trans (Big.ln_dot _ _ ?_ ?_ ?_ ?_ ?_ ?_) (by decide) <;> (try dsimp only) <;> first | (exact Nat.le_trans (Big.ln_small (by omega)) (by decide)) | (refine Nat.le_trans (Big.ln_cross ?_ ?_ ?_ ?_) (by decide) <;> exact Nat.le_trans (Big.ln_small (by omega)) (by decide))))) (.c (j := 17) rfl (.c (j := 0) rfl .n)) ?_)
     rintro ⟨p330, c331⟩ -
     dsimp only [List.append_eq, List.nil_append, List.cons_append]
     refine d_one 7 (by kernel_rfl) (o_store_box (by kernel_rfl) rfl rfl rfl rfl rfl sz34 rfl (.take (.take .nil)) ?_)
     refine d_done (by kernel_rfl) ?_
     refine p_block ?_
     refine p_then ?_
     refine r_region ?_
     refine r_pv rfl rfl (pv_add (z := (((i + 1) : Nat) : Int)) rfl rfl (w64 (by omega))) ?_
     refine r_pv rfl rfl (pv_move rfl) ?_
     refine r_nil ?_
     refine p_next ((i + 1), (s + (Ms.dot ((qax - 0), (qay - 0), (qaz - 0)) (((qby - 0) * (qcz - 0) - (qbz - 0) * (qcy - 0)), ((qbz - 0) * (qcx - 0) - (qbx - 0) * (qcz - 0)), ((qbx - 0) * (qcy - 0) - (qby - 0) * (qcx - 0))))), p330, c331) (show (i + 1) ≤ nf ∧ (s + (Ms.dot ((qax - 0), (qay - 0), (qaz - 0)) (((qby - 0) * (qcz - 0) - (qbz - 0) * (qcy - 0)), ((qbz - 0) * (qcx - 0) - (qbx - 0) * (qcz - 0)), ((qbx - 0) * (qcy - 0) - (qby - 0) * (qcx - 0))))) = Ms.volS V (F.take (i + 1)) ∧ Big.ln (s + (Ms.dot ((qax - 0), (qay - 0), (qaz - 0)) (((qby - 0) * (qcz - 0) - (qbz - 0) * (qcy - 0)), ((qbz - 0) * (qcx - 0) - (qbx - 0) * (qcz - 0)), ((qbx - 0) * (qcy - 0) - (qby - 0) * (qcx - 0))))) ≤ 4000 + (i + 1) from by subst hqax hqay hqaz hqbx hqby hqbz hqcx hqcy hqcz; refine ⟨by omega, by rw [Ms.volS_take (by omega), hs]; simp [Ms.tet, Ms.det, Ms.pt, Ms.cross], ?_⟩; refine Nat.le_trans (Big.ln_add _ _) ?_; have h9 : ∀ z : Int, Big.ln z ≤ 3000 → max (Big.ln s) (Big.ln z) + 1 ≤ 4000 + (i + 1) := fun z hz => (by omega); refine h9 _ ?_; refine Big.ln_dot _ _ ?_ ?_ ?_ ?_ ?_ ?_ <;> (try dsimp only) <;> first | (exact Nat.le_trans (Big.ln_small (by omega)) (by decide)) | (refine Nat.le_trans (Big.ln_cross ?_ ?_ ?_ ?_) (by decide) <;> exact Nat.le_trans (Big.ln_small (by omega)) (by decide))) (by show nf - (i + 1) < nf - i; omega) ((.of rfl) : SubM _ _) (ho := ((.e (i := 0) rfl (by first | rfl | (congr 1; omega) | simp_all) (.of [5, 5, 5] rfl)) : PickO _ _ _)) ((.e (j := 0) rfl (by first | rfl | simp_all) (.of [19, 20, 21] rfl)) : SelR _ _ _)
    refine d_join (X := Option Addr × Nat × Option Addr × Nat × Option Addr × Nat × Option Addr × Nat × Option Addr × Nat × Option Addr × Nat × Option Addr × Nat × Option Addr × Nat × Option Addr × Nat × Nat × Nat × Nat) (k' := 1) (L' := #[true, true, true, true, true, true, true, true, true, true, true, true, true, true, true, true, true, true, true, true, true, true, true, true, true, true, true, true, true, false]) (fun (pr0n7n1, cr0n7n2, pr1n7n3, cr1n7n4, pr2n7n5, cr2n7n6, pr0n15n1, cr0n15n2, pr1n15n3, cr1n15n4, pr2n15n5, cr2n15n6, pr0n23n1, cr0n23n2, pr1n23n3, cr1n23n4, pr2n23n5, cr2n23n6, bn24n1, bn25n1, bn26n1) => ([(11, .pointer (some ⟨bn26n1, 0, none⟩)), (10, .pointer (some ⟨bn25n1, 0, none⟩)), (9, .pointer (some ⟨bn24n1, 0, none⟩)), (55, .agg #[.bool (decide ((qcx - 0) < 0)), .slice pr0n23n1 ((Big.digs ((qcx - 0).natAbs)).length) cr0n23n2, .bool (decide ((qcy - 0) < 0)), .slice pr1n23n3 ((Big.digs ((qcy - 0).natAbs)).length) cr1n23n4, .bool (decide ((qcz - 0) < 0)), .slice pr2n23n5 ((Big.digs ((qcz - 0).natAbs)).length) cr2n23n6]), (47, .agg #[.bool (decide ((qbx - 0) < 0)), .slice pr0n15n1 ((Big.digs ((qbx - 0).natAbs)).length) cr0n15n2, .bool (decide ((qby - 0) < 0)), .slice pr1n15n3 ((Big.digs ((qby - 0).natAbs)).length) cr1n15n4, .bool (decide ((qbz - 0) < 0)), .slice pr2n15n5 ((Big.digs ((qbz - 0).natAbs)).length) cr2n15n6]), (39, .agg #[.bool (decide ((qax - 0) < 0)), .slice pr0n7n1 ((Big.digs ((qax - 0).natAbs)).length) cr0n7n2, .bool (decide ((qay - 0) < 0)), .slice pr1n7n3 ((Big.digs ((qay - 0).natAbs)).length) cr1n7n4, .bool (decide ((qaz - 0) < 0)), .slice pr2n7n5 ((Big.digs ((qaz - 0).natAbs)).length) cr2n7n6]), (54, .agg #[.int .i64 qcx, .int .i64 qcy, .int .i64 qcz]), (53, .pointer (some ⟨b19, o20, none⟩)), (52, .int .i64 ((F.getD i (0, 0, 0)).2.2)), (51, .pointer (some ⟨b11, 2, none⟩)), (50, .slice pv nv cv), (49, .pointer (some ⟨b1, 0, none⟩)), (48, .agg #[.int .i64 0, .int .i64 0, .int .i64 0]), (46, .agg #[.int .i64 qbx, .int .i64 qby, .int .i64 qbz]), (45, .pointer (some ⟨b16, o17, none⟩)), (44, .int .i64 ((F.getD i (0, 0, 0)).2.1)), (43, .pointer (some ⟨b11, 1, none⟩)), (42, .slice pv nv cv), (41, .pointer (some ⟨b1, 0, none⟩)), (40, .agg #[.int .i64 0, .int .i64 0, .int .i64 0]), (38, .agg #[.int .i64 qax, .int .i64 qay, .int .i64 qaz]), (37, .pointer (some ⟨b13, o14, none⟩)), (36, .int .i64 ((F.getD i (0, 0, 0)).1)), (35, .pointer (some ⟨b11, 0, none⟩)), (34, .slice pv nv cv), (33, .pointer (some ⟨b1, 0, none⟩)), (32, .agg #[.int .i64 0, .int .i64 0, .int .i64 0]), (8, .pointer (some ⟨b12, 0, none⟩)), (31, .agg #[.int .i64 0, .int .i64 0, .int .i64 0]), (7, .pointer (some ⟨b11, 0, none⟩)), (30, .agg #[.int .i64 ((F.getD i (0, 0, 0)).1), .int .i64 ((F.getD i (0, 0, 0)).2.1), .int .i64 ((F.getD i (0, 0, 0)).2.2)]), (29, .pointer (some ⟨b8, o9, none⟩)), (28, .bool (decide (((i : Nat) : Int) < ((nf : Nat) : Int)))), (27, .int .i64 ((i : Nat) : Int)), (26, .int .i64 ((nf : Nat) : Int)), (25, .slice pf nf cf), (5, .pointer (some ⟨b6, 0, none⟩)), (3, .int .i64 0), (2, .pointer (some ⟨b2, 0, none⟩)), (1, .pointer (some ⟨b1, 0, none⟩))], [boxA bn25n1 89 [.bool (decide ((qbx - 0) < 0)), .slice pr0n15n1 ((Big.digs ((qbx - 0).natAbs)).length) cr0n15n2, .bool (decide ((qby - 0) < 0)), .slice pr1n15n3 ((Big.digs ((qby - 0).natAbs)).length) cr1n15n4, .bool (decide ((qbz - 0) < 0)), .slice pr2n15n5 ((Big.digs ((qbz - 0).natAbs)).length) cr2n15n6], boxA bn24n1 89 [.bool (decide ((qax - 0) < 0)), .slice pr0n7n1 ((Big.digs ((qax - 0).natAbs)).length) cr0n7n2, .bool (decide ((qay - 0) < 0)), .slice pr1n7n3 ((Big.digs ((qay - 0).natAbs)).length) cr1n7n4, .bool (decide ((qaz - 0) < 0)), .slice pr2n7n5 ((Big.digs ((qaz - 0).natAbs)).length) cr2n7n6], boxA bn26n1 89 [.bool false, .slice none 0 0, .bool false, .slice none 0 0, .bool false, .slice none 0 0]], [boxA b12 42 [.int .i64 0, .int .i64 0, .int .i64 0], boxA b11 44 [.int .i64 ((F.getD i (0, 0, 0)).1), .int .i64 ((F.getD i (0, 0, 0)).2.1), .int .i64 ((F.getD i (0, 0, 0)).2.2)], boxA b6 34 [.bool (decide (s < 0)), .slice p ((Big.digs ((s).natAbs)).length) c], mapA b23 (fun z : Int => .int .i64 z) (fun z : Int => .int .i64 z) (InK .i64) bm1, boxA b2 34 [.bool false, .slice none 0 0], boxA b1 25 [.slice pv nv cv, .slice pf nf cf]], [slF (rI .u32) pr0n23n1 cr0n23n2 (Big.digs ((qcx - 0).natAbs)), slF (rI .u32) pr1n23n3 cr1n23n4 (Big.digs ((qcy - 0).natAbs)), slF (rI .u32) pr2n23n5 cr2n23n6 (Big.digs ((qcz - 0).natAbs)), slF (rI .u32) pr0n15n1 cr0n15n2 (Big.digs ((qbx - 0).natAbs)), slF (rI .u32) pr1n15n3 cr1n15n4 (Big.digs ((qby - 0).natAbs)), slF (rI .u32) pr2n15n5 cr2n15n6 (Big.digs ((qbz - 0).natAbs)), slF (rI .u32) pr0n7n1 cr0n7n2 (Big.digs ((qax - 0).natAbs)), slF (rI .u32) pr1n7n3 cr1n7n4 (Big.digs ((qay - 0).natAbs)), slF (rI .u32) pr2n7n5 cr2n7n6 (Big.digs ((qaz - 0).natAbs)), atF b19 o20 [.int .i64 qcx, .int .i64 qcy, .int .i64 qcz], atF b16 o17 [.int .i64 qbx, .int .i64 qby, .int .i64 qbz], atF b13 o14 [.int .i64 qax, .int .i64 qay, .int .i64 qaz], atF b8 o9 [.int .i64 ((F.getD i (0, 0, 0)).1), .int .i64 ((F.getD i (0, 0, 0)).2.1), .int .i64 ((F.getD i (0, 0, 0)).2.2)], slF (rI .u32) p c (Big.digs ((s).natAbs)), slF (rI .u32) p24 c25 (Big.digs ((0 : Int).natAbs)), slF (rI3 .i64) pv cv V, slF (rI3 .i64) pf cf F])) ?_ (fun hD1 => ?_)
    ·
     rintro ⟨pr0n7n1, cr0n7n2, pr1n7n3, cr1n7n4, pr2n7n5, cr2n7n6, pr0n15n1, cr0n15n2, pr1n15n3, cr1n15n4, pr2n15n5, cr2n15n6, pr0n23n1, cr0n23n2, pr1n23n3, cr1n23n4, pr2n23n5, cr2n23n6, bn24n1, bn25n1, bn26n1⟩
     dsimp only
     refine d_one 29 (by kernel_rfl) ?_
     ·
      refine o_permW (perm_front (i := 2) rfl) ?_
      refine o_store_box (by kernel_rfl) rfl rfl rfl rfl rfl sz89 rfl (.take (.take (.take (.take (.take (.take .nil)))))) ?_
      exact d_weakT (hD0 (pr0n7n1, cr0n7n2, pr1n7n3, cr1n7n4, pr2n7n5, cr2n7n6, pr0n15n1, cr0n15n2, pr1n15n3, cr1n15n4, pr2n15n5, cr2n15n6, pr0n23n1, cr0n23n2, pr1n23n3, cr1n23n4, pr2n23n5, cr2n23n6, bn24n1, bn25n1, bn26n1)) (by kernel_rfl) ((.of rfl) : SubM _ _) .rfl .rfl ((.of [0, 1, 2, 3, 4, 5, 6, 7, 8, 9, 10, 11, 12, 13, 14, 15, 16] rfl) : SelR _ _ _)
    refine d_join (X := Option Addr × Nat × Option Addr × Nat × Option Addr × Nat × Option Addr × Nat × Option Addr × Nat × Option Addr × Nat × Option Addr × Nat × Option Addr × Nat × Option Addr × Nat × Nat × Nat × Nat) (k' := 2) (L' := #[true, true, true, true, true, true, true, true, true, true, true, true, true, true, true, true, true, true, true, true, true, true, true, true, true, true, true, true, false, false]) (fun (pr0n7n1, cr0n7n2, pr1n7n3, cr1n7n4, pr2n7n5, cr2n7n6, pr0n15n1, cr0n15n2, pr1n15n3, cr1n15n4, pr2n15n5, cr2n15n6, pr0n23n1, cr0n23n2, pr1n23n3, cr1n23n4, pr2n23n5, cr2n23n6, bn24n1, bn25n1, bn26n1) => ([(11, .pointer (some ⟨bn26n1, 0, none⟩)), (10, .pointer (some ⟨bn25n1, 0, none⟩)), (9, .pointer (some ⟨bn24n1, 0, none⟩)), (55, .agg #[.bool (decide ((qcx - 0) < 0)), .slice pr0n23n1 ((Big.digs ((qcx - 0).natAbs)).length) cr0n23n2, .bool (decide ((qcy - 0) < 0)), .slice pr1n23n3 ((Big.digs ((qcy - 0).natAbs)).length) cr1n23n4, .bool (decide ((qcz - 0) < 0)), .slice pr2n23n5 ((Big.digs ((qcz - 0).natAbs)).length) cr2n23n6]), (47, .agg #[.bool (decide ((qbx - 0) < 0)), .slice pr0n15n1 ((Big.digs ((qbx - 0).natAbs)).length) cr0n15n2, .bool (decide ((qby - 0) < 0)), .slice pr1n15n3 ((Big.digs ((qby - 0).natAbs)).length) cr1n15n4, .bool (decide ((qbz - 0) < 0)), .slice pr2n15n5 ((Big.digs ((qbz - 0).natAbs)).length) cr2n15n6]), (39, .agg #[.bool (decide ((qax - 0) < 0)), .slice pr0n7n1 ((Big.digs ((qax - 0).natAbs)).length) cr0n7n2, .bool (decide ((qay - 0) < 0)), .slice pr1n7n3 ((Big.digs ((qay - 0).natAbs)).length) cr1n7n4, .bool (decide ((qaz - 0) < 0)), .slice pr2n7n5 ((Big.digs ((qaz - 0).natAbs)).length) cr2n7n6]), (54, .agg #[.int .i64 qcx, .int .i64 qcy, .int .i64 qcz]), (53, .pointer (some ⟨b19, o20, none⟩)), (52, .int .i64 ((F.getD i (0, 0, 0)).2.2)), (51, .pointer (some ⟨b11, 2, none⟩)), (50, .slice pv nv cv), (49, .pointer (some ⟨b1, 0, none⟩)), (48, .agg #[.int .i64 0, .int .i64 0, .int .i64 0]), (46, .agg #[.int .i64 qbx, .int .i64 qby, .int .i64 qbz]), (45, .pointer (some ⟨b16, o17, none⟩)), (44, .int .i64 ((F.getD i (0, 0, 0)).2.1)), (43, .pointer (some ⟨b11, 1, none⟩)), (42, .slice pv nv cv), (41, .pointer (some ⟨b1, 0, none⟩)), (40, .agg #[.int .i64 0, .int .i64 0, .int .i64 0]), (38, .agg #[.int .i64 qax, .int .i64 qay, .int .i64 qaz]), (37, .pointer (some ⟨b13, o14, none⟩)), (36, .int .i64 ((F.getD i (0, 0, 0)).1)), (35, .pointer (some ⟨b11, 0, none⟩)), (34, .slice pv nv cv), (33, .pointer (some ⟨b1, 0, none⟩)), (32, .agg #[.int .i64 0, .int .i64 0, .int .i64 0]), (8, .pointer (some ⟨b12, 0, none⟩)), (31, .agg #[.int .i64 0, .int .i64 0, .int .i64 0]), (7, .pointer (some ⟨b11, 0, none⟩)), (30, .agg #[.int .i64 ((F.getD i (0, 0, 0)).1), .int .i64 ((F.getD i (0, 0, 0)).2.1), .int .i64 ((F.getD i (0, 0, 0)).2.2)]), (29, .pointer (some ⟨b8, o9, none⟩)), (28, .bool (decide (((i : Nat) : Int) < ((nf : Nat) : Int)))), (27, .int .i64 ((i : Nat) : Int)), (26, .int .i64 ((nf : Nat) : Int)), (25, .slice pf nf cf), (5, .pointer (some ⟨b6, 0, none⟩)), (3, .int .i64 0), (2, .pointer (some ⟨b2, 0, none⟩)), (1, .pointer (some ⟨b1, 0, none⟩))], [boxA bn24n1 89 [.bool (decide ((qax - 0) < 0)), .slice pr0n7n1 ((Big.digs ((qax - 0).natAbs)).length) cr0n7n2, .bool (decide ((qay - 0) < 0)), .slice pr1n7n3 ((Big.digs ((qay - 0).natAbs)).length) cr1n7n4, .bool (decide ((qaz - 0) < 0)), .slice pr2n7n5 ((Big.digs ((qaz - 0).natAbs)).length) cr2n7n6], boxA bn26n1 89 [.bool false, .slice none 0 0, .bool false, .slice none 0 0, .bool false, .slice none 0 0], boxA bn25n1 89 [.bool false, .slice none 0 0, .bool false, .slice none 0 0, .bool false, .slice none 0 0]], [boxA b12 42 [.int .i64 0, .int .i64 0, .int .i64 0], boxA b11 44 [.int .i64 ((F.getD i (0, 0, 0)).1), .int .i64 ((F.getD i (0, 0, 0)).2.1), .int .i64 ((F.getD i (0, 0, 0)).2.2)], boxA b6 34 [.bool (decide (s < 0)), .slice p ((Big.digs ((s).natAbs)).length) c], mapA b23 (fun z : Int => .int .i64 z) (fun z : Int => .int .i64 z) (InK .i64) bm1, boxA b2 34 [.bool false, .slice none 0 0], boxA b1 25 [.slice pv nv cv, .slice pf nf cf]], [slF (rI .u32) pr0n23n1 cr0n23n2 (Big.digs ((qcx - 0).natAbs)), slF (rI .u32) pr1n23n3 cr1n23n4 (Big.digs ((qcy - 0).natAbs)), slF (rI .u32) pr2n23n5 cr2n23n6 (Big.digs ((qcz - 0).natAbs)), slF (rI .u32) pr0n15n1 cr0n15n2 (Big.digs ((qbx - 0).natAbs)), slF (rI .u32) pr1n15n3 cr1n15n4 (Big.digs ((qby - 0).natAbs)), slF (rI .u32) pr2n15n5 cr2n15n6 (Big.digs ((qbz - 0).natAbs)), slF (rI .u32) pr0n7n1 cr0n7n2 (Big.digs ((qax - 0).natAbs)), slF (rI .u32) pr1n7n3 cr1n7n4 (Big.digs ((qay - 0).natAbs)), slF (rI .u32) pr2n7n5 cr2n7n6 (Big.digs ((qaz - 0).natAbs)), atF b19 o20 [.int .i64 qcx, .int .i64 qcy, .int .i64 qcz], atF b16 o17 [.int .i64 qbx, .int .i64 qby, .int .i64 qbz], atF b13 o14 [.int .i64 qax, .int .i64 qay, .int .i64 qaz], atF b8 o9 [.int .i64 ((F.getD i (0, 0, 0)).1), .int .i64 ((F.getD i (0, 0, 0)).2.1), .int .i64 ((F.getD i (0, 0, 0)).2.2)], slF (rI .u32) p c (Big.digs ((s).natAbs)), slF (rI .u32) p24 c25 (Big.digs ((0 : Int).natAbs)), slF (rI3 .i64) pv cv V, slF (rI3 .i64) pf cf F])) ?_ (fun hD2 => ?_)
    ·
     rintro ⟨pr0n7n1, cr0n7n2, pr1n7n3, cr1n7n4, pr2n7n5, cr2n7n6, pr0n15n1, cr0n15n2, pr1n15n3, cr1n15n4, pr2n15n5, cr2n15n6, pr0n23n1, cr0n23n2, pr1n23n3, cr1n23n4, pr2n23n5, cr2n23n6, bn24n1, bn25n1, bn26n1⟩
     dsimp only
     refine d_one 28 (by kernel_rfl) ?_
     ·
      refine o_permW (perm_front (i := 2) rfl) ?_
      refine o_store_box (by kernel_rfl) rfl rfl rfl rfl rfl sz89 rfl (.take (.take (.take (.take (.take (.take .nil)))))) ?_
      exact d_weakT (hD1 (pr0n7n1, cr0n7n2, pr1n7n3, cr1n7n4, pr2n7n5, cr2n7n6, pr0n15n1, cr0n15n2, pr1n15n3, cr1n15n4, pr2n15n5, cr2n15n6, pr0n23n1, cr0n23n2, pr1n23n3, cr1n23n4, pr2n23n5, cr2n23n6, bn24n1, bn25n1, bn26n1)) (by kernel_rfl) ((.of rfl) : SubM _ _) .rfl .rfl ((.of [0, 1, 2, 3, 4, 5, 6, 7, 8, 9, 10, 11, 12, 13, 14, 15, 16] rfl) : SelR _ _ _)
    refine d_join (X := Option Addr × Nat × Option Addr × Nat × Option Addr × Nat × Option Addr × Nat × Option Addr × Nat × Option Addr × Nat × Option Addr × Nat × Option Addr × Nat × Option Addr × Nat × Nat × Nat × Nat) (k' := 3) (L' := #[true, true, true, true, true, true, true, true, true, true, true, true, true, true, true, true, true, true, true, true, true, true, true, true, true, true, true, false, false, false]) (fun (pr0n7n1, cr0n7n2, pr1n7n3, cr1n7n4, pr2n7n5, cr2n7n6, pr0n15n1, cr0n15n2, pr1n15n3, cr1n15n4, pr2n15n5, cr2n15n6, pr0n23n1, cr0n23n2, pr1n23n3, cr1n23n4, pr2n23n5, cr2n23n6, bn24n1, bn25n1, bn26n1) => ([(11, .pointer (some ⟨bn26n1, 0, none⟩)), (10, .pointer (some ⟨bn25n1, 0, none⟩)), (9, .pointer (some ⟨bn24n1, 0, none⟩)), (55, .agg #[.bool (decide ((qcx - 0) < 0)), .slice pr0n23n1 ((Big.digs ((qcx - 0).natAbs)).length) cr0n23n2, .bool (decide ((qcy - 0) < 0)), .slice pr1n23n3 ((Big.digs ((qcy - 0).natAbs)).length) cr1n23n4, .bool (decide ((qcz - 0) < 0)), .slice pr2n23n5 ((Big.digs ((qcz - 0).natAbs)).length) cr2n23n6]), (47, .agg #[.bool (decide ((qbx - 0) < 0)), .slice pr0n15n1 ((Big.digs ((qbx - 0).natAbs)).length) cr0n15n2, .bool (decide ((qby - 0) < 0)), .slice pr1n15n3 ((Big.digs ((qby - 0).natAbs)).length) cr1n15n4, .bool (decide ((qbz - 0) < 0)), .slice pr2n15n5 ((Big.digs ((qbz - 0).natAbs)).length) cr2n15n6]), (39, .agg #[.bool (decide ((qax - 0) < 0)), .slice pr0n7n1 ((Big.digs ((qax - 0).natAbs)).length) cr0n7n2, .bool (decide ((qay - 0) < 0)), .slice pr1n7n3 ((Big.digs ((qay - 0).natAbs)).length) cr1n7n4, .bool (decide ((qaz - 0) < 0)), .slice pr2n7n5 ((Big.digs ((qaz - 0).natAbs)).length) cr2n7n6]), (54, .agg #[.int .i64 qcx, .int .i64 qcy, .int .i64 qcz]), (53, .pointer (some ⟨b19, o20, none⟩)), (52, .int .i64 ((F.getD i (0, 0, 0)).2.2)), (51, .pointer (some ⟨b11, 2, none⟩)), (50, .slice pv nv cv), (49, .pointer (some ⟨b1, 0, none⟩)), (48, .agg #[.int .i64 0, .int .i64 0, .int .i64 0]), (46, .agg #[.int .i64 qbx, .int .i64 qby, .int .i64 qbz]), (45, .pointer (some ⟨b16, o17, none⟩)), (44, .int .i64 ((F.getD i (0, 0, 0)).2.1)), (43, .pointer (some ⟨b11, 1, none⟩)), (42, .slice pv nv cv), (41, .pointer (some ⟨b1, 0, none⟩)), (40, .agg #[.int .i64 0, .int .i64 0, .int .i64 0]), (38, .agg #[.int .i64 qax, .int .i64 qay, .int .i64 qaz]), (37, .pointer (some ⟨b13, o14, none⟩)), (36, .int .i64 ((F.getD i (0, 0, 0)).1)), (35, .pointer (some ⟨b11, 0, none⟩)), (34, .slice pv nv cv), (33, .pointer (some ⟨b1, 0, none⟩)), (32, .agg #[.int .i64 0, .int .i64 0, .int .i64 0]), (8, .pointer (some ⟨b12, 0, none⟩)), (31, .agg #[.int .i64 0, .int .i64 0, .int .i64 0]), (7, .pointer (some ⟨b11, 0, none⟩)), (30, .agg #[.int .i64 ((F.getD i (0, 0, 0)).1), .int .i64 ((F.getD i (0, 0, 0)).2.1), .int .i64 ((F.getD i (0, 0, 0)).2.2)]), (29, .pointer (some ⟨b8, o9, none⟩)), (28, .bool (decide (((i : Nat) : Int) < ((nf : Nat) : Int)))), (27, .int .i64 ((i : Nat) : Int)), (26, .int .i64 ((nf : Nat) : Int)), (25, .slice pf nf cf), (5, .pointer (some ⟨b6, 0, none⟩)), (3, .int .i64 0), (2, .pointer (some ⟨b2, 0, none⟩)), (1, .pointer (some ⟨b1, 0, none⟩))], [boxA bn26n1 89 [.bool false, .slice none 0 0, .bool false, .slice none 0 0, .bool false, .slice none 0 0], boxA bn25n1 89 [.bool false, .slice none 0 0, .bool false, .slice none 0 0, .bool false, .slice none 0 0], boxA bn24n1 89 [.bool false, .slice none 0 0, .bool false, .slice none 0 0, .bool false, .slice none 0 0]], [boxA b12 42 [.int .i64 0, .int .i64 0, .int .i64 0], boxA b11 44 [.int .i64 ((F.getD i (0, 0, 0)).1), .int .i64 ((F.getD i (0, 0, 0)).2.1), .int .i64 ((F.getD i (0, 0, 0)).2.2)], boxA b6 34 [.bool (decide (s < 0)), .slice p ((Big.digs ((s).natAbs)).length) c], mapA b23 (fun z : Int => .int .i64 z) (fun z : Int => .int .i64 z) (InK .i64) bm1, boxA b2 34 [.bool false, .slice none 0 0], boxA b1 25 [.slice pv nv cv, .slice pf nf cf]], [slF (rI .u32) pr0n23n1 cr0n23n2 (Big.digs ((qcx - 0).natAbs)), slF (rI .u32) pr1n23n3 cr1n23n4 (Big.digs ((qcy - 0).natAbs)), slF (rI .u32) pr2n23n5 cr2n23n6 (Big.digs ((qcz - 0).natAbs)), slF (rI .u32) pr0n15n1 cr0n15n2 (Big.digs ((qbx - 0).natAbs)), slF (rI .u32) pr1n15n3 cr1n15n4 (Big.digs ((qby - 0).natAbs)), slF (rI .u32) pr2n15n5 cr2n15n6 (Big.digs ((qbz - 0).natAbs)), slF (rI .u32) pr0n7n1 cr0n7n2 (Big.digs ((qax - 0).natAbs)), slF (rI .u32) pr1n7n3 cr1n7n4 (Big.digs ((qay - 0).natAbs)), slF (rI .u32) pr2n7n5 cr2n7n6 (Big.digs ((qaz - 0).natAbs)), atF b19 o20 [.int .i64 qcx, .int .i64 qcy, .int .i64 qcz], atF b16 o17 [.int .i64 qbx, .int .i64 qby, .int .i64 qbz], atF b13 o14 [.int .i64 qax, .int .i64 qay, .int .i64 qaz], atF b8 o9 [.int .i64 ((F.getD i (0, 0, 0)).1), .int .i64 ((F.getD i (0, 0, 0)).2.1), .int .i64 ((F.getD i (0, 0, 0)).2.2)], slF (rI .u32) p c (Big.digs ((s).natAbs)), slF (rI .u32) p24 c25 (Big.digs ((0 : Int).natAbs)), slF (rI3 .i64) pv cv V, slF (rI3 .i64) pf cf F])) ?_ (fun hD3 => ?_)
    ·
     rintro ⟨pr0n7n1, cr0n7n2, pr1n7n3, cr1n7n4, pr2n7n5, cr2n7n6, pr0n15n1, cr0n15n2, pr1n15n3, cr1n15n4, pr2n15n5, cr2n15n6, pr0n23n1, cr0n23n2, pr1n23n3, cr1n23n4, pr2n23n5, cr2n23n6, bn24n1, bn25n1, bn26n1⟩
     dsimp only
     refine d_one 27 (by kernel_rfl) ?_
     ·
      refine o_permW (perm_front (i := 2) rfl) ?_
      refine o_store_box (by kernel_rfl) rfl rfl rfl rfl rfl sz89 rfl (.take (.take (.take (.take (.take (.take .nil)))))) ?_
      exact d_weakT (hD2 (pr0n7n1, cr0n7n2, pr1n7n3, cr1n7n4, pr2n7n5, cr2n7n6, pr0n15n1, cr0n15n2, pr1n15n3, cr1n15n4, pr2n15n5, cr2n15n6, pr0n23n1, cr0n23n2, pr1n23n3, cr1n23n4, pr2n23n5, cr2n23n6, bn24n1, bn25n1, bn26n1)) (by kernel_rfl) ((.of rfl) : SubM _ _) .rfl .rfl ((.of [0, 1, 2, 3, 4, 5, 6, 7, 8, 9, 10, 11, 12, 13, 14, 15, 16] rfl) : SelR _ _ _)
    refine d_join (X := Option Addr × Nat × Option Addr × Nat × Option Addr × Nat × Option Addr × Nat × Option Addr × Nat × Option Addr × Nat × Option Addr × Nat × Option Addr × Nat × Option Addr × Nat × Nat × Nat) (k' := 4) (L' := #[true, true, true, true, true, true, true, true, true, true, true, true, true, true, true, true, true, true, true, true, true, true, true, true, true, true, false, false, false, false]) (fun (pr0n7n1, cr0n7n2, pr1n7n3, cr1n7n4, pr2n7n5, cr2n7n6, pr0n15n1, cr0n15n2, pr1n15n3, cr1n15n4, pr2n15n5, cr2n15n6, pr0n23n1, cr0n23n2, pr1n23n3, cr1n23n4, pr2n23n5, cr2n23n6, bn24n1, bn25n1) => ([(10, .pointer (some ⟨bn25n1, 0, none⟩)), (9, .pointer (some ⟨bn24n1, 0, none⟩)), (55, .agg #[.bool (decide ((qcx - 0) < 0)), .slice pr0n23n1 ((Big.digs ((qcx - 0).natAbs)).length) cr0n23n2, .bool (decide ((qcy - 0) < 0)), .slice pr1n23n3 ((Big.digs ((qcy - 0).natAbs)).length) cr1n23n4, .bool (decide ((qcz - 0) < 0)), .slice pr2n23n5 ((Big.digs ((qcz - 0).natAbs)).length) cr2n23n6]), (47, .agg #[.bool (decide ((qbx - 0) < 0)), .slice pr0n15n1 ((Big.digs ((qbx - 0).natAbs)).length) cr0n15n2, .bool (decide ((qby - 0) < 0)), .slice pr1n15n3 ((Big.digs ((qby - 0).natAbs)).length) cr1n15n4, .bool (decide ((qbz - 0) < 0)), .slice pr2n15n5 ((Big.digs ((qbz - 0).natAbs)).length) cr2n15n6]), (39, .agg #[.bool (decide ((qax - 0) < 0)), .slice pr0n7n1 ((Big.digs ((qax - 0).natAbs)).length) cr0n7n2, .bool (decide ((qay - 0) < 0)), .slice pr1n7n3 ((Big.digs ((qay - 0).natAbs)).length) cr1n7n4, .bool (decide ((qaz - 0) < 0)), .slice pr2n7n5 ((Big.digs ((qaz - 0).natAbs)).length) cr2n7n6]), (54, .agg #[.int .i64 qcx, .int .i64 qcy, .int .i64 qcz]), (53, .pointer (some ⟨b19, o20, none⟩)), (52, .int .i64 ((F.getD i (0, 0, 0)).2.2)), (51, .pointer (some ⟨b11, 2, none⟩)), (50, .slice pv nv cv), (49, .pointer (some ⟨b1, 0, none⟩)), (48, .agg #[.int .i64 0, .int .i64 0, .int .i64 0]), (46, .agg #[.int .i64 qbx, .int .i64 qby, .int .i64 qbz]), (45, .pointer (some ⟨b16, o17, none⟩)), (44, .int .i64 ((F.getD i (0, 0, 0)).2.1)), (43, .pointer (some ⟨b11, 1, none⟩)), (42, .slice pv nv cv), (41, .pointer (some ⟨b1, 0, none⟩)), (40, .agg #[.int .i64 0, .int .i64 0, .int .i64 0]), (38, .agg #[.int .i64 qax, .int .i64 qay, .int .i64 qaz]), (37, .pointer (some ⟨b13, o14, none⟩)), (36, .int .i64 ((F.getD i (0, 0, 0)).1)), (35, .pointer (some ⟨b11, 0, none⟩)), (34, .slice pv nv cv), (33, .pointer (some ⟨b1, 0, none⟩)), (32, .agg #[.int .i64 0, .int .i64 0, .int .i64 0]), (8, .pointer (some ⟨b12, 0, none⟩)), (31, .agg #[.int .i64 0, .int .i64 0, .int .i64 0]), (7, .pointer (some ⟨b11, 0, none⟩)), (30, .agg #[.int .i64 ((F.getD i (0, 0, 0)).1), .int .i64 ((F.getD i (0, 0, 0)).2.1), .int .i64 ((F.getD i (0, 0, 0)).2.2)]), (29, .pointer (some ⟨b8, o9, none⟩)), (28, .bool (decide (((i : Nat) : Int) < ((nf : Nat) : Int)))), (27, .int .i64 ((i : Nat) : Int)), (26, .int .i64 ((nf : Nat) : Int)), (25, .slice pf nf cf), (5, .pointer (some ⟨b6, 0, none⟩)), (3, .int .i64 0), (2, .pointer (some ⟨b2, 0, none⟩)), (1, .pointer (some ⟨b1, 0, none⟩))], [boxA bn25n1 89 [.bool false, .slice none 0 0, .bool false, .slice none 0 0, .bool false, .slice none 0 0], boxA bn24n1 89 [.bool false, .slice none 0 0, .bool false, .slice none 0 0, .bool false, .slice none 0 0]], [boxA b12 42 [.int .i64 0, .int .i64 0, .int .i64 0], boxA b11 44 [.int .i64 ((F.getD i (0, 0, 0)).1), .int .i64 ((F.getD i (0, 0, 0)).2.1), .int .i64 ((F.getD i (0, 0, 0)).2.2)], boxA b6 34 [.bool (decide (s < 0)), .slice p ((Big.digs ((s).natAbs)).length) c], mapA b23 (fun z : Int => .int .i64 z) (fun z : Int => .int .i64 z) (InK .i64) bm1, boxA b2 34 [.bool false, .slice none 0 0], boxA b1 25 [.slice pv nv cv, .slice pf nf cf]], [slF (rI .u32) pr0n23n1 cr0n23n2 (Big.digs ((qcx - 0).natAbs)), slF (rI .u32) pr1n23n3 cr1n23n4 (Big.digs ((qcy - 0).natAbs)), slF (rI .u32) pr2n23n5 cr2n23n6 (Big.digs ((qcz - 0).natAbs)), slF (rI .u32) pr0n15n1 cr0n15n2 (Big.digs ((qbx - 0).natAbs)), slF (rI .u32) pr1n15n3 cr1n15n4 (Big.digs ((qby - 0).natAbs)), slF (rI .u32) pr2n15n5 cr2n15n6 (Big.digs ((qbz - 0).natAbs)), slF (rI .u32) pr0n7n1 cr0n7n2 (Big.digs ((qax - 0).natAbs)), slF (rI .u32) pr1n7n3 cr1n7n4 (Big.digs ((qay - 0).natAbs)), slF (rI .u32) pr2n7n5 cr2n7n6 (Big.digs ((qaz - 0).natAbs)), atF b19 o20 [.int .i64 qcx, .int .i64 qcy, .int .i64 qcz], atF b16 o17 [.int .i64 qbx, .int .i64 qby, .int .i64 qbz], atF b13 o14 [.int .i64 qax, .int .i64 qay, .int .i64 qaz], atF b8 o9 [.int .i64 ((F.getD i (0, 0, 0)).1), .int .i64 ((F.getD i (0, 0, 0)).2.1), .int .i64 ((F.getD i (0, 0, 0)).2.2)], slF (rI .u32) p c (Big.digs ((s).natAbs)), slF (rI .u32) p24 c25 (Big.digs ((0 : Int).natAbs)), slF (rI3 .i64) pv cv V, slF (rI3 .i64) pf cf F])) ?_ (fun hD4 => ?_)
    ·
     rintro ⟨pr0n7n1, cr0n7n2, pr1n7n3, cr1n7n4, pr2n7n5, cr2n7n6, pr0n15n1, cr0n15n2, pr1n15n3, cr1n15n4, pr2n15n5, cr2n15n6, pr0n23n1, cr0n23n2, pr1n23n3, cr1n23n4, pr2n23n5, cr2n23n6, bn24n1, bn25n1⟩
     dsimp only
     refine d_one 26 (by kernel_rfl) ?_
     ·
      refine o_ef0W rfl rfl rfl rfl (ef_alloc zr89 rfl) (fun bn26n1 _ => ?_)
      exact d_weakT (hD3 (pr0n7n1, cr0n7n2, pr1n7n3, cr1n7n4, pr2n7n5, cr2n7n6, pr0n15n1, cr0n15n2, pr1n15n3, cr1n15n4, pr2n15n5, cr2n15n6, pr0n23n1, cr0n23n2, pr1n23n3, cr1n23n4, pr2n23n5, cr2n23n6, bn24n1, bn25n1, bn26n1)) (by kernel_rfl) ((.of rfl) : SubM _ _) .rfl .rfl ((.of [0, 1, 2, 3, 4, 5, 6, 7, 8, 9, 10, 11, 12, 13, 14, 15, 16] rfl) : SelR _ _ _)
    refine d_join (X := Option Addr × Nat × Option Addr × Nat × Option Addr × Nat × Option Addr × Nat × Option Addr × Nat × Option Addr × Nat × Option Addr × Nat × Option Addr × Nat × Option Addr × Nat × Nat × Nat) (k' := 4) (L' := #[true, true, true, true, true, true, true, true, true, true, true, true, true, true, true, true, true, true, true, true, true, true, true, true, true, false, true, false, false, false]) (fun (pr0n7n1, cr0n7n2, pr1n7n3, cr1n7n4, pr2n7n5, cr2n7n6, pr0n15n1, cr0n15n2, pr1n15n3, cr1n15n4, pr2n15n5, cr2n15n6, pr0n23n1, cr0n23n2, pr1n23n3, cr1n23n4, pr2n23n5, cr2n23n6, bn24n1, bn26n1) => ([(11, .pointer (some ⟨bn26n1, 0, none⟩)), (9, .pointer (some ⟨bn24n1, 0, none⟩)), (55, .agg #[.bool (decide ((qcx - 0) < 0)), .slice pr0n23n1 ((Big.digs ((qcx - 0).natAbs)).length) cr0n23n2, .bool (decide ((qcy - 0) < 0)), .slice pr1n23n3 ((Big.digs ((qcy - 0).natAbs)).length) cr1n23n4, .bool (decide ((qcz - 0) < 0)), .slice pr2n23n5 ((Big.digs ((qcz - 0).natAbs)).length) cr2n23n6]), (47, .agg #[.bool (decide ((qbx - 0) < 0)), .slice pr0n15n1 ((Big.digs ((qbx - 0).natAbs)).length) cr0n15n2, .bool (decide ((qby - 0) < 0)), .slice pr1n15n3 ((Big.digs ((qby - 0).natAbs)).length) cr1n15n4, .bool (decide ((qbz - 0) < 0)), .slice pr2n15n5 ((Big.digs ((qbz - 0).natAbs)).length) cr2n15n6]), (39, .agg #[.bool (decide ((qax - 0) < 0)), .slice pr0n7n1 ((Big.digs ((qax - 0).natAbs)).length) cr0n7n2, .bool (decide ((qay - 0) < 0)), .slice pr1n7n3 ((Big.digs ((qay - 0).natAbs)).length) cr1n7n4, .bool (decide ((qaz - 0) < 0)), .slice pr2n7n5 ((Big.digs ((qaz - 0).natAbs)).length) cr2n7n6]), (54, .agg #[.int .i64 qcx, .int .i64 qcy, .int .i64 qcz]), (53, .pointer (some ⟨b19, o20, none⟩)), (52, .int .i64 ((F.getD i (0, 0, 0)).2.2)), (51, .pointer (some ⟨b11, 2, none⟩)), (50, .slice pv nv cv), (49, .pointer (some ⟨b1, 0, none⟩)), (48, .agg #[.int .i64 0, .int .i64 0, .int .i64 0]), (46, .agg #[.int .i64 qbx, .int .i64 qby, .int .i64 qbz]), (45, .pointer (some ⟨b16, o17, none⟩)), (44, .int .i64 ((F.getD i (0, 0, 0)).2.1)), (43, .pointer (some ⟨b11, 1, none⟩)), (42, .slice pv nv cv), (41, .pointer (some ⟨b1, 0, none⟩)), (40, .agg #[.int .i64 0, .int .i64 0, .int .i64 0]), (38, .agg #[.int .i64 qax, .int .i64 qay, .int .i64 qaz]), (37, .pointer (some ⟨b13, o14, none⟩)), (36, .int .i64 ((F.getD i (0, 0, 0)).1)), (35, .pointer (some ⟨b11, 0, none⟩)), (34, .slice pv nv cv), (33, .pointer (some ⟨b1, 0, none⟩)), (32, .agg #[.int .i64 0, .int .i64 0, .int .i64 0]), (8, .pointer (some ⟨b12, 0, none⟩)), (31, .agg #[.int .i64 0, .int .i64 0, .int .i64 0]), (7, .pointer (some ⟨b11, 0, none⟩)), (30, .agg #[.int .i64 ((F.getD i (0, 0, 0)).1), .int .i64 ((F.getD i (0, 0, 0)).2.1), .int .i64 ((F.getD i (0, 0, 0)).2.2)]), (29, .pointer (some ⟨b8, o9, none⟩)), (28, .bool (decide (((i : Nat) : Int) < ((nf : Nat) : Int)))), (27, .int .i64 ((i : Nat) : Int)), (26, .int .i64 ((nf : Nat) : Int)), (25, .slice pf nf cf), (5, .pointer (some ⟨b6, 0, none⟩)), (3, .int .i64 0), (2, .pointer (some ⟨b2, 0, none⟩)), (1, .pointer (some ⟨b1, 0, none⟩))], [boxA bn26n1 89 [.bool false, .slice none 0 0, .bool false, .slice none 0 0, .bool false, .slice none 0 0], boxA bn24n1 89 [.bool false, .slice none 0 0, .bool false, .slice none 0 0, .bool false, .slice none 0 0]], [boxA b12 42 [.int .i64 0, .int .i64 0, .int .i64 0], boxA b11 44 [.int .i64 ((F.getD i (0, 0, 0)).1), .int .i64 ((F.getD i (0, 0, 0)).2.1), .int .i64 ((F.getD i (0, 0, 0)).2.2)], boxA b6 34 [.bool (decide (s < 0)), .slice p ((Big.digs ((s).natAbs)).length) c], mapA b23 (fun z : Int => .int .i64 z) (fun z : Int => .int .i64 z) (InK .i64) bm1, boxA b2 34 [.bool false, .slice none 0 0], boxA b1 25 [.slice pv nv cv, .slice pf nf cf]], [slF (rI .u32) pr0n23n1 cr0n23n2 (Big.digs ((qcx - 0).natAbs)), slF (rI .u32) pr1n23n3 cr1n23n4 (Big.digs ((qcy - 0).natAbs)), slF (rI .u32) pr2n23n5 cr2n23n6 (Big.digs ((qcz - 0).natAbs)), slF (rI .u32) pr0n15n1 cr0n15n2 (Big.digs ((qbx - 0).natAbs)), slF (rI .u32) pr1n15n3 cr1n15n4 (Big.digs ((qby - 0).natAbs)), slF (rI .u32) pr2n15n5 cr2n15n6 (Big.digs ((qbz - 0).natAbs)), slF (rI .u32) pr0n7n1 cr0n7n2 (Big.digs ((qax - 0).natAbs)), slF (rI .u32) pr1n7n3 cr1n7n4 (Big.digs ((qay - 0).natAbs)), slF (rI .u32) pr2n7n5 cr2n7n6 (Big.digs ((qaz - 0).natAbs)), atF b19 o20 [.int .i64 qcx, .int .i64 qcy, .int .i64 qcz], atF b16 o17 [.int .i64 qbx, .int .i64 qby, .int .i64 qbz], atF b13 o14 [.int .i64 qax, .int .i64 qay, .int .i64 qaz], atF b8 o9 [.int .i64 ((F.getD i (0, 0, 0)).1), .int .i64 ((F.getD i (0, 0, 0)).2.1), .int .i64 ((F.getD i (0, 0, 0)).2.2)], slF (rI .u32) p c (Big.digs ((s).natAbs)), slF (rI .u32) p24 c25 (Big.digs ((0 : Int).natAbs)), slF (rI3 .i64) pv cv V, slF (rI3 .i64) pf cf F])) ?_ (fun hD5 => ?_)
    ·
     rintro ⟨pr0n7n1, cr0n7n2, pr1n7n3, cr1n7n4, pr2n7n5, cr2n7n6, pr0n15n1, cr0n15n2, pr1n15n3, cr1n15n4, pr2n15n5, cr2n15n6, pr0n23n1, cr0n23n2, pr1n23n3, cr1n23n4, pr2n23n5, cr2n23n6, bn24n1, bn26n1⟩
     dsimp only
     refine d_one 25 (by kernel_rfl) ?_
     ·
      refine o_ef0W rfl rfl rfl rfl (ef_alloc zr89 rfl) (fun bn25n1 _ => ?_)
      exact d_weakT (hD3 (pr0n7n1, cr0n7n2, pr1n7n3, cr1n7n4, pr2n7n5, cr2n7n6, pr0n15n1, cr0n15n2, pr1n15n3, cr1n15n4, pr2n15n5, cr2n15n6, pr0n23n1, cr0n23n2, pr1n23n3, cr1n23n4, pr2n23n5, cr2n23n6, bn24n1, bn25n1, bn26n1)) (by kernel_rfl) ((.of rfl) : SubM _ _) (perm_c 1 rfl (perm_c 0 rfl (perm_c 0 rfl .nil))) .rfl ((.of [0, 1, 2, 3, 4, 5, 6, 7, 8, 9, 10, 11, 12, 13, 14, 15, 16] rfl) : SelR _ _ _)
    refine d_join (X := Option Addr × Nat × Option Addr × Nat × Option Addr × Nat × Option Addr × Nat × Option Addr × Nat × Option Addr × Nat × Option Addr × Nat × Option Addr × Nat × Option Addr × Nat × Nat × Nat) (k' := 4) (L' := #[true, true, true, true, true, true, true, true, true, true, true, true, true, true, true, true, true, true, true, true, true, true, true, true, false, true, true, false, false, false]) (fun (pr0n7n1, cr0n7n2, pr1n7n3, cr1n7n4, pr2n7n5, cr2n7n6, pr0n15n1, cr0n15n2, pr1n15n3, cr1n15n4, pr2n15n5, cr2n15n6, pr0n23n1, cr0n23n2, pr1n23n3, cr1n23n4, pr2n23n5, cr2n23n6, bn25n1, bn26n1) => ([(11, .pointer (some ⟨bn26n1, 0, none⟩)), (10, .pointer (some ⟨bn25n1, 0, none⟩)), (55, .agg #[.bool (decide ((qcx - 0) < 0)), .slice pr0n23n1 ((Big.digs ((qcx - 0).natAbs)).length) cr0n23n2, .bool (decide ((qcy - 0) < 0)), .slice pr1n23n3 ((Big.digs ((qcy - 0).natAbs)).length) cr1n23n4, .bool (decide ((qcz - 0) < 0)), .slice pr2n23n5 ((Big.digs ((qcz - 0).natAbs)).length) cr2n23n6]), (47, .agg #[.bool (decide ((qbx - 0) < 0)), .slice pr0n15n1 ((Big.digs ((qbx - 0).natAbs)).length) cr0n15n2, .bool (decide ((qby - 0) < 0)), .slice pr1n15n3 ((Big.digs ((qby - 0).natAbs)).length) cr1n15n4, .bool (decide ((qbz - 0) < 0)), .slice pr2n15n5 ((Big.digs ((qbz - 0).natAbs)).length) cr2n15n6]), (39, .agg #[.bool (decide ((qax - 0) < 0)), .slice pr0n7n1 ((Big.digs ((qax - 0).natAbs)).length) cr0n7n2, .bool (decide ((qay - 0) < 0)), .slice pr1n7n3 ((Big.digs ((qay - 0).natAbs)).length) cr1n7n4, .bool (decide ((qaz - 0) < 0)), .slice pr2n7n5 ((Big.digs ((qaz - 0).natAbs)).length) cr2n7n6]), (54, .agg #[.int .i64 qcx, .int .i64 qcy, .int .i64 qcz]), (53, .pointer (some ⟨b19, o20, none⟩)), (52, .int .i64 ((F.getD i (0, 0, 0)).2.2)), (51, .pointer (some ⟨b11, 2, none⟩)), (50, .slice pv nv cv), (49, .pointer (some ⟨b1, 0, none⟩)), (48, .agg #[.int .i64 0, .int .i64 0, .int .i64 0]), (46, .agg #[.int .i64 qbx, .int .i64 qby, .int .i64 qbz]), (45, .pointer (some ⟨b16, o17, none⟩)), (44, .int .i64 ((F.getD i (0, 0, 0)).2.1)), (43, .pointer (some ⟨b11, 1, none⟩)), (42, .slice pv nv cv), (41, .pointer (some ⟨b1, 0, none⟩)), (40, .agg #[.int .i64 0, .int .i64 0, .int .i64 0]), (38, .agg #[.int .i64 qax, .int .i64 qay, .int .i64 qaz]), (37, .pointer (some ⟨b13, o14, none⟩)), (36, .int .i64 ((F.getD i (0, 0, 0)).1)), (35, .pointer (some ⟨b11, 0, none⟩)), (34, .slice pv nv cv), (33, .pointer (some ⟨b1, 0, none⟩)), (32, .agg #[.int .i64 0, .int .i64 0, .int .i64 0]), (8, .pointer (some ⟨b12, 0, none⟩)), (31, .agg #[.int .i64 0, .int .i64 0, .int .i64 0]), (7, .pointer (some ⟨b11, 0, none⟩)), (30, .agg #[.int .i64 ((F.getD i (0, 0, 0)).1), .int .i64 ((F.getD i (0, 0, 0)).2.1), .int .i64 ((F.getD i (0, 0, 0)).2.2)]), (29, .pointer (some ⟨b8, o9, none⟩)), (28, .bool (decide (((i : Nat) : Int) < ((nf : Nat) : Int)))), (27, .int .i64 ((i : Nat) : Int)), (26, .int .i64 ((nf : Nat) : Int)), (25, .slice pf nf cf), (5, .pointer (some ⟨b6, 0, none⟩)), (3, .int .i64 0), (2, .pointer (some ⟨b2, 0, none⟩)), (1, .pointer (some ⟨b1, 0, none⟩))], [boxA bn26n1 89 [.bool false, .slice none 0 0, .bool false, .slice none 0 0, .bool false, .slice none 0 0], boxA bn25n1 89 [.bool false, .slice none 0 0, .bool false, .slice none 0 0, .bool false, .slice none 0 0]], [boxA b12 42 [.int .i64 0, .int .i64 0, .int .i64 0], boxA b11 44 [.int .i64 ((F.getD i (0, 0, 0)).1), .int .i64 ((F.getD i (0, 0, 0)).2.1), .int .i64 ((F.getD i (0, 0, 0)).2.2)], boxA b6 34 [.bool (decide (s < 0)), .slice p ((Big.digs ((s).natAbs)).length) c], mapA b23 (fun z : Int => .int .i64 z) (fun z : Int => .int .i64 z) (InK .i64) bm1, boxA b2 34 [.bool false, .slice none 0 0], boxA b1 25 [.slice pv nv cv, .slice pf nf cf]], [slF (rI .u32) pr0n23n1 cr0n23n2 (Big.digs ((qcx - 0).natAbs)), slF (rI .u32) pr1n23n3 cr1n23n4 (Big.digs ((qcy - 0).natAbs)), slF (rI .u32) pr2n23n5 cr2n23n6 (Big.digs ((qcz - 0).natAbs)), slF (rI .u32) pr0n15n1 cr0n15n2 (Big.digs ((qbx - 0).natAbs)), slF (rI .u32) pr1n15n3 cr1n15n4 (Big.digs ((qby - 0).natAbs)), slF (rI .u32) pr2n15n5 cr2n15n6 (Big.digs ((qbz - 0).natAbs)), slF (rI .u32) pr0n7n1 cr0n7n2 (Big.digs ((qax - 0).natAbs)), slF (rI .u32) pr1n7n3 cr1n7n4 (Big.digs ((qay - 0).natAbs)), slF (rI .u32) pr2n7n5 cr2n7n6 (Big.digs ((qaz - 0).natAbs)), atF b19 o20 [.int .i64 qcx, .int .i64 qcy, .int .i64 qcz], atF b16 o17 [.int .i64 qbx, .int .i64 qby, .int .i64 qbz], atF b13 o14 [.int .i64 qax, .int .i64 qay, .int .i64 qaz], atF b8 o9 [.int .i64 ((F.getD i (0, 0, 0)).1), .int .i64 ((F.getD i (0, 0, 0)).2.1), .int .i64 ((F.getD i (0, 0, 0)).2.2)], slF (rI .u32) p c (Big.digs ((s).natAbs)), slF (rI .u32) p24 c25 (Big.digs ((0 : Int).natAbs)), slF (rI3 .i64) pv cv V, slF (rI3 .i64) pf cf F])) ?_ (fun hD6 => ?_)
    ·
     rintro ⟨pr0n7n1, cr0n7n2, pr1n7n3, cr1n7n4, pr2n7n5, cr2n7n6, pr0n15n1, cr0n15n2, pr1n15n3, cr1n15n4, pr2n15n5, cr2n15n6, pr0n23n1, cr0n23n2, pr1n23n3, cr1n23n4, pr2n23n5, cr2n23n6, bn25n1, bn26n1⟩
     dsimp only
     refine d_one 24 (by kernel_rfl) ?_
     ·
      refine o_ef0W rfl rfl rfl rfl (ef_alloc zr89 rfl) (fun bn24n1 _ => ?_)
      exact d_weakT (hD3 (pr0n7n1, cr0n7n2, pr1n7n3, cr1n7n4, pr2n7n5, cr2n7n6, pr0n15n1, cr0n15n2, pr1n15n3, cr1n15n4, pr2n15n5, cr2n15n6, pr0n23n1, cr0n23n2, pr1n23n3, cr1n23n4, pr2n23n5, cr2n23n6, bn24n1, bn25n1, bn26n1)) (by kernel_rfl) ((.of rfl) : SubM _ _) (perm_c 1 rfl (perm_c 1 rfl (perm_c 0 rfl .nil))) .rfl ((.of [0, 1, 2, 3, 4, 5, 6, 7, 8, 9, 10, 11, 12, 13, 14, 15, 16] rfl) : SelR _ _ _)
    refine d_join (X := Option Addr × Nat × Option Addr × Nat × Option Addr × Nat × Option Addr × Nat × Option Addr × Nat × Option Addr × Nat × Nat × Nat × Nat) (k' := 4) (L' := #[true, true, true, true, true, true, true, true, true, true, true, true, true, true, true, true, true, true, true, true, true, true, true, false, true, true, true, false, false, false]) (fun (pr0n7n1, cr0n7n2, pr1n7n3, cr1n7n4, pr2n7n5, cr2n7n6, pr0n15n1, cr0n15n2, pr1n15n3, cr1n15n4, pr2n15n5, cr2n15n6, bn24n1, bn25n1, bn26n1) => ([(11, .pointer (some ⟨bn26n1, 0, none⟩)), (10, .pointer (some ⟨bn25n1, 0, none⟩)), (9, .pointer (some ⟨bn24n1, 0, none⟩)), (47, .agg #[.bool (decide ((qbx - 0) < 0)), .slice pr0n15n1 ((Big.digs ((qbx - 0).natAbs)).length) cr0n15n2, .bool (decide ((qby - 0) < 0)), .slice pr1n15n3 ((Big.digs ((qby - 0).natAbs)).length) cr1n15n4, .bool (decide ((qbz - 0) < 0)), .slice pr2n15n5 ((Big.digs ((qbz - 0).natAbs)).length) cr2n15n6]), (39, .agg #[.bool (decide ((qax - 0) < 0)), .slice pr0n7n1 ((Big.digs ((qax - 0).natAbs)).length) cr0n7n2, .bool (decide ((qay - 0) < 0)), .slice pr1n7n3 ((Big.digs ((qay - 0).natAbs)).length) cr1n7n4, .bool (decide ((qaz - 0) < 0)), .slice pr2n7n5 ((Big.digs ((qaz - 0).natAbs)).length) cr2n7n6]), (54, .agg #[.int .i64 qcx, .int .i64 qcy, .int .i64 qcz]), (53, .pointer (some ⟨b19, o20, none⟩)), (52, .int .i64 ((F.getD i (0, 0, 0)).2.2)), (51, .pointer (some ⟨b11, 2, none⟩)), (50, .slice pv nv cv), (49, .pointer (some ⟨b1, 0, none⟩)), (48, .agg #[.int .i64 0, .int .i64 0, .int .i64 0]), (46, .agg #[.int .i64 qbx, .int .i64 qby, .int .i64 qbz]), (45, .pointer (some ⟨b16, o17, none⟩)), (44, .int .i64 ((F.getD i (0, 0, 0)).2.1)), (43, .pointer (some ⟨b11, 1, none⟩)), (42, .slice pv nv cv), (41, .pointer (some ⟨b1, 0, none⟩)), (40, .agg #[.int .i64 0, .int .i64 0, .int .i64 0]), (38, .agg #[.int .i64 qax, .int .i64 qay, .int .i64 qaz]), (37, .pointer (some ⟨b13, o14, none⟩)), (36, .int .i64 ((F.getD i (0, 0, 0)).1)), (35, .pointer (some ⟨b11, 0, none⟩)), (34, .slice pv nv cv), (33, .pointer (some ⟨b1, 0, none⟩)), (32, .agg #[.int .i64 0, .int .i64 0, .int .i64 0]), (8, .pointer (some ⟨b12, 0, none⟩)), (31, .agg #[.int .i64 0, .int .i64 0, .int .i64 0]), (7, .pointer (some ⟨b11, 0, none⟩)), (30, .agg #[.int .i64 ((F.getD i (0, 0, 0)).1), .int .i64 ((F.getD i (0, 0, 0)).2.1), .int .i64 ((F.getD i (0, 0, 0)).2.2)]), (29, .pointer (some ⟨b8, o9, none⟩)), (28, .bool (decide (((i : Nat) : Int) < ((nf : Nat) : Int)))), (27, .int .i64 ((i : Nat) : Int)), (26, .int .i64 ((nf : Nat) : Int)), (25, .slice pf nf cf), (5, .pointer (some ⟨b6, 0, none⟩)), (3, .int .i64 0), (2, .pointer (some ⟨b2, 0, none⟩)), (1, .pointer (some ⟨b1, 0, none⟩))], [boxA bn26n1 89 [.bool false, .slice none 0 0, .bool false, .slice none 0 0, .bool false, .slice none 0 0], boxA bn25n1 89 [.bool false, .slice none 0 0, .bool false, .slice none 0 0, .bool false, .slice none 0 0], boxA bn24n1 89 [.bool false, .slice none 0 0, .bool false, .slice none 0 0, .bool false, .slice none 0 0]], [boxA b12 42 [.int .i64 0, .int .i64 0, .int .i64 0], boxA b11 44 [.int .i64 ((F.getD i (0, 0, 0)).1), .int .i64 ((F.getD i (0, 0, 0)).2.1), .int .i64 ((F.getD i (0, 0, 0)).2.2)], boxA b6 34 [.bool (decide (s < 0)), .slice p ((Big.digs ((s).natAbs)).length) c], mapA b23 (fun z : Int => .int .i64 z) (fun z : Int => .int .i64 z) (InK .i64) bm1, boxA b2 34 [.bool false, .slice none 0 0], boxA b1 25 [.slice pv nv cv, .slice pf nf cf]], [slF (rI .u32) pr0n15n1 cr0n15n2 (Big.digs ((qbx - 0).natAbs)), slF (rI .u32) pr1n15n3 cr1n15n4 (Big.digs ((qby - 0).natAbs)), slF (rI .u32) pr2n15n5 cr2n15n6 (Big.digs ((qbz - 0).natAbs)), slF (rI .u32) pr0n7n1 cr0n7n2 (Big.digs ((qax - 0).natAbs)), slF (rI .u32) pr1n7n3 cr1n7n4 (Big.digs ((qay - 0).natAbs)), slF (rI .u32) pr2n7n5 cr2n7n6 (Big.digs ((qaz - 0).natAbs)), atF b19 o20 [.int .i64 qcx, .int .i64 qcy, .int .i64 qcz], atF b16 o17 [.int .i64 qbx, .int .i64 qby, .int .i64 qbz], atF b13 o14 [.int .i64 qax, .int .i64 qay, .int .i64 qaz], atF b8 o9 [.int .i64 ((F.getD i (0, 0, 0)).1), .int .i64 ((F.getD i (0, 0, 0)).2.1), .int .i64 ((F.getD i (0, 0, 0)).2.2)], slF (rI .u32) p c (Big.digs ((s).natAbs)), slF (rI .u32) p24 c25 (Big.digs ((0 : Int).natAbs)), slF (rI3 .i64) pv cv V, slF (rI3 .i64) pf cf F])) ?_ (fun hD7 => ?_)
    ·
     rintro ⟨pr0n7n1, cr0n7n2, pr1n7n3, cr1n7n4, pr2n7n5, cr2n7n6, pr0n15n1, cr0n15n2, pr1n15n3, cr1n15n4, pr2n15n5, cr2n15n6, bn24n1, bn25n1, bn26n1⟩
     dsimp only
     refine d_one 23 (by kernel_rfl) ?_
     ·
      refine o_callf rfl rfl rfl rfl (.c rfl (.c rfl .n)) ce58 (con_from (ex := 0) (ey := 0) (ez := 0) (fx := qcx) (fy := qcy) (fz := qcz) (hbex := by omega) (hbey := by omega) (hbez := by omega) (hbfx := by omega) (hbfy := by omega) (hbfz := by omega)) (.n) ?_
      rintro ⟨pr0n23n1, cr0n23n2, pr1n23n3, cr1n23n4, pr2n23n5, cr2n23n6⟩ -
      dsimp only [List.append_eq, List.nil_append, List.cons_append]
      exact d_weakT (hD3 (pr0n7n1, cr0n7n2, pr1n7n3, cr1n7n4, pr2n7n5, cr2n7n6, pr0n15n1, cr0n15n2, pr1n15n3, cr1n15n4, pr2n15n5, cr2n15n6, pr0n23n1, cr0n23n2, pr1n23n3, cr1n23n4, pr2n23n5, cr2n23n6, bn24n1, bn25n1, bn26n1)) (by kernel_rfl) ((.of rfl) : SubM _ _) .rfl .rfl ((.of [0, 1, 2, 3, 4, 5, 6, 7, 8, 9, 10, 11, 12, 13, 14, 15, 16] rfl) : SelR _ _ _)
    refine d_join (X := Option Addr × Nat × Option Addr × Nat × Option Addr × Nat × Option Addr × Nat × Option Addr × Nat × Option Addr × Nat × Option Addr × Nat × Option Addr × Nat × Option Addr × Nat × Nat) (k' := 5) (L' := #[true, true, true, true, true, true, true, true, true, true, true, true, true, true, true, true, true, true, true, true, true, true, true, true, true, false, false, false, false, false]) (fun (pr0n7n1, cr0n7n2, pr1n7n3, cr1n7n4, pr2n7n5, cr2n7n6, pr0n15n1, cr0n15n2, pr1n15n3, cr1n15n4, pr2n15n5, cr2n15n6, pr0n23n1, cr0n23n2, pr1n23n3, cr1n23n4, pr2n23n5, cr2n23n6, bn24n1) => ([(9, .pointer (some ⟨bn24n1, 0, none⟩)), (55, .agg #[.bool (decide ((qcx - 0) < 0)), .slice pr0n23n1 ((Big.digs ((qcx - 0).natAbs)).length) cr0n23n2, .bool (decide ((qcy - 0) < 0)), .slice pr1n23n3 ((Big.digs ((qcy - 0).natAbs)).length) cr1n23n4, .bool (decide ((qcz - 0) < 0)), .slice pr2n23n5 ((Big.digs ((qcz - 0).natAbs)).length) cr2n23n6]), (47, .agg #[.bool (decide ((qbx - 0) < 0)), .slice pr0n15n1 ((Big.digs ((qbx - 0).natAbs)).length) cr0n15n2, .bool (decide ((qby - 0) < 0)), .slice pr1n15n3 ((Big.digs ((qby - 0).natAbs)).length) cr1n15n4, .bool (decide ((qbz - 0) < 0)), .slice pr2n15n5 ((Big.digs ((qbz - 0).natAbs)).length) cr2n15n6]), (39, .agg #[.bool (decide ((qax - 0) < 0)), .slice pr0n7n1 ((Big.digs ((qax - 0).natAbs)).length) cr0n7n2, .bool (decide ((qay - 0) < 0)), .slice pr1n7n3 ((Big.digs ((qay - 0).natAbs)).length) cr1n7n4, .bool (decide ((qaz - 0) < 0)), .slice pr2n7n5 ((Big.digs ((qaz - 0).natAbs)).length) cr2n7n6]), (54, .agg #[.int .i64 qcx, .int .i64 qcy, .int .i64 qcz]), (53, .pointer (some ⟨b19, o20, none⟩)), (52, .int .i64 ((F.getD i (0, 0, 0)).2.2)), (51, .pointer (some ⟨b11, 2, none⟩)), (50, .slice pv nv cv), (49, .pointer (some ⟨b1, 0, none⟩)), (48, .agg #[.int .i64 0, .int .i64 0, .int .i64 0]), (46, .agg #[.int .i64 qbx, .int .i64 qby, .int .i64 qbz]), (45, .pointer (some ⟨b16, o17, none⟩)), (44, .int .i64 ((F.getD i (0, 0, 0)).2.1)), (43, .pointer (some ⟨b11, 1, none⟩)), (42, .slice pv nv cv), (41, .pointer (some ⟨b1, 0, none⟩)), (40, .agg #[.int .i64 0, .int .i64 0, .int .i64 0]), (38, .agg #[.int .i64 qax, .int .i64 qay, .int .i64 qaz]), (37, .pointer (some ⟨b13, o14, none⟩)), (36, .int .i64 ((F.getD i (0, 0, 0)).1)), (35, .pointer (some ⟨b11, 0, none⟩)), (34, .slice pv nv cv), (33, .pointer (some ⟨b1, 0, none⟩)), (32, .agg #[.int .i64 0, .int .i64 0, .int .i64 0]), (8, .pointer (some ⟨b12, 0, none⟩)), (31, .agg #[.int .i64 0, .int .i64 0, .int .i64 0]), (7, .pointer (some ⟨b11, 0, none⟩)), (30, .agg #[.int .i64 ((F.getD i (0, 0, 0)).1), .int .i64 ((F.getD i (0, 0, 0)).2.1), .int .i64 ((F.getD i (0, 0, 0)).2.2)]), (29, .pointer (some ⟨b8, o9, none⟩)), (28, .bool (decide (((i : Nat) : Int) < ((nf : Nat) : Int)))), (27, .int .i64 ((i : Nat) : Int)), (26, .int .i64 ((nf : Nat) : Int)), (25, .slice pf nf cf), (5, .pointer (some ⟨b6, 0, none⟩)), (3, .int .i64 0), (2, .pointer (some ⟨b2, 0, none⟩)), (1, .pointer (some ⟨b1, 0, none⟩))], [boxA bn24n1 89 [.bool false, .slice none 0 0, .bool false, .slice none 0 0, .bool false, .slice none 0 0]], [boxA b12 42 [.int .i64 0, .int .i64 0, .int .i64 0], boxA b11 44 [.int .i64 ((F.getD i (0, 0, 0)).1), .int .i64 ((F.getD i (0, 0, 0)).2.1), .int .i64 ((F.getD i (0, 0, 0)).2.2)], boxA b6 34 [.bool (decide (s < 0)), .slice p ((Big.digs ((s).natAbs)).length) c], mapA b23 (fun z : Int => .int .i64 z) (fun z : Int => .int .i64 z) (InK .i64) bm1, boxA b2 34 [.bool false, .slice none 0 0], boxA b1 25 [.slice pv nv cv, .slice pf nf cf]], [slF (rI .u32) pr0n23n1 cr0n23n2 (Big.digs ((qcx - 0).natAbs)), slF (rI .u32) pr1n23n3 cr1n23n4 (Big.digs ((qcy - 0).natAbs)), slF (rI .u32) pr2n23n5 cr2n23n6 (Big.digs ((qcz - 0).natAbs)), slF (rI .u32) pr0n15n1 cr0n15n2 (Big.digs ((qbx - 0).natAbs)), slF (rI .u32) pr1n15n3 cr1n15n4 (Big.digs ((qby - 0).natAbs)), slF (rI .u32) pr2n15n5 cr2n15n6 (Big.digs ((qbz - 0).natAbs)), slF (rI .u32) pr0n7n1 cr0n7n2 (Big.digs ((qax - 0).natAbs)), slF (rI .u32) pr1n7n3 cr1n7n4 (Big.digs ((qay - 0).natAbs)), slF (rI .u32) pr2n7n5 cr2n7n6 (Big.digs ((qaz - 0).natAbs)), atF b19 o20 [.int .i64 qcx, .int .i64 qcy, .int .i64 qcz], atF b16 o17 [.int .i64 qbx, .int .i64 qby, .int .i64 qbz], atF b13 o14 [.int .i64 qax, .int .i64 qay, .int .i64 qaz], atF b8 o9 [.int .i64 ((F.getD i (0, 0, 0)).1), .int .i64 ((F.getD i (0, 0, 0)).2.1), .int .i64 ((F.getD i (0, 0, 0)).2.2)], slF (rI .u32) p c (Big.digs ((s).natAbs)), slF (rI .u32) p24 c25 (Big.digs ((0 : Int).natAbs)), slF (rI3 .i64) pv cv V, slF (rI3 .i64) pf cf F])) ?_ (fun hD8 => ?_)
    ·
     rintro ⟨pr0n7n1, cr0n7n2, pr1n7n3, cr1n7n4, pr2n7n5, cr2n7n6, pr0n15n1, cr0n15n2, pr1n15n3, cr1n15n4, pr2n15n5, cr2n15n6, pr0n23n1, cr0n23n2, pr1n23n3, cr1n23n4, pr2n23n5, cr2n23n6, bn24n1⟩
     dsimp only
     refine d_two 25 26 (by kernel_rfl) ?_ ?_
     ·
      refine o_ef0W rfl rfl rfl rfl (ef_alloc zr89 rfl) (fun bn25n1 _ => ?_)
      exact d_weakT (hD4 (pr0n7n1, cr0n7n2, pr1n7n3, cr1n7n4, pr2n7n5, cr2n7n6, pr0n15n1, cr0n15n2, pr1n15n3, cr1n15n4, pr2n15n5, cr2n15n6, pr0n23n1, cr0n23n2, pr1n23n3, cr1n23n4, pr2n23n5, cr2n23n6, bn24n1, bn25n1)) (by kernel_rfl) ((.of rfl) : SubM _ _) .rfl .rfl ((.of [0, 1, 2, 3, 4, 5, 6, 7, 8, 9, 10, 11, 12, 13, 14, 15, 16] rfl) : SelR _ _ _)
     ·
      refine o_ef0W rfl rfl rfl rfl (ef_alloc zr89 rfl) (fun bn26n1 _ => ?_)
      exact d_weakT (hD5 (pr0n7n1, cr0n7n2, pr1n7n3, cr1n7n4, pr2n7n5, cr2n7n6, pr0n15n1, cr0n15n2, pr1n15n3, cr1n15n4, pr2n15n5, cr2n15n6, pr0n23n1, cr0n23n2, pr1n23n3, cr1n23n4, pr2n23n5, cr2n23n6, bn24n1, bn26n1)) (by kernel_rfl) ((.of rfl) : SubM _ _) .rfl .rfl ((.of [0, 1, 2, 3, 4, 5, 6, 7, 8, 9, 10, 11, 12, 13, 14, 15, 16] rfl) : SelR _ _ _)
    refine d_join (X := Option Addr × Nat × Option Addr × Nat × Option Addr × Nat × Option Addr × Nat × Option Addr × Nat × Option Addr × Nat × Option Addr × Nat × Option Addr × Nat × Option Addr × Nat × Nat) (k' := 5) (L' := #[true, true, true, true, true, true, true, true, true, true, true, true, true, true, true, true, true, true, true, true, true, true, true, true, false, true, false, false, false, false]) (fun (pr0n7n1, cr0n7n2, pr1n7n3, cr1n7n4, pr2n7n5, cr2n7n6, pr0n15n1, cr0n15n2, pr1n15n3, cr1n15n4, pr2n15n5, cr2n15n6, pr0n23n1, cr0n23n2, pr1n23n3, cr1n23n4, pr2n23n5, cr2n23n6, bn25n1) => ([(10, .pointer (some ⟨bn25n1, 0, none⟩)), (55, .agg #[.bool (decide ((qcx - 0) < 0)), .slice pr0n23n1 ((Big.digs ((qcx - 0).natAbs)).length) cr0n23n2, .bool (decide ((qcy - 0) < 0)), .slice pr1n23n3 ((Big.digs ((qcy - 0).natAbs)).length) cr1n23n4, .bool (decide ((qcz - 0) < 0)), .slice pr2n23n5 ((Big.digs ((qcz - 0).natAbs)).length) cr2n23n6]), (47, .agg #[.bool (decide ((qbx - 0) < 0)), .slice pr0n15n1 ((Big.digs ((qbx - 0).natAbs)).length) cr0n15n2, .bool (decide ((qby - 0) < 0)), .slice pr1n15n3 ((Big.digs ((qby - 0).natAbs)).length) cr1n15n4, .bool (decide ((qbz - 0) < 0)), .slice pr2n15n5 ((Big.digs ((qbz - 0).natAbs)).length) cr2n15n6]), (39, .agg #[.bool (decide ((qax - 0) < 0)), .slice pr0n7n1 ((Big.digs ((qax - 0).natAbs)).length) cr0n7n2, .bool (decide ((qay - 0) < 0)), .slice pr1n7n3 ((Big.digs ((qay - 0).natAbs)).length) cr1n7n4, .bool (decide ((qaz - 0) < 0)), .slice pr2n7n5 ((Big.digs ((qaz - 0).natAbs)).length) cr2n7n6]), (54, .agg #[.int .i64 qcx, .int .i64 qcy, .int .i64 qcz]), (53, .pointer (some ⟨b19, o20, none⟩)), (52, .int .i64 ((F.getD i (0, 0, 0)).2.2)), (51, .pointer (some ⟨b11, 2, none⟩)), (50, .slice pv nv cv), (49, .pointer (some ⟨b1, 0, none⟩)), (48, .agg #[.int .i64 0, .int .i64 0, .int .i64 0]), (46, .agg #[.int .i64 qbx, .int .i64 qby, .int .i64 qbz]), (45, .pointer (some ⟨b16, o17, none⟩)), (44, .int .i64 ((F.getD i (0, 0, 0)).2.1)), (43, .pointer (some ⟨b11, 1, none⟩)), (42, .slice pv nv cv), (41, .pointer (some ⟨b1, 0, none⟩)), (40, .agg #[.int .i64 0, .int .i64 0, .int .i64 0]), (38, .agg #[.int .i64 qax, .int .i64 qay, .int .i64 qaz]), (37, .pointer (some ⟨b13, o14, none⟩)), (36, .int .i64 ((F.getD i (0, 0, 0)).1)), (35, .pointer (some ⟨b11, 0, none⟩)), (34, .slice pv nv cv), (33, .pointer (some ⟨b1, 0, none⟩)), (32, .agg #[.int .i64 0, .int .i64 0, .int .i64 0]), (8, .pointer (some ⟨b12, 0, none⟩)), (31, .agg #[.int .i64 0, .int .i64 0, .int .i64 0]), (7, .pointer (some ⟨b11, 0, none⟩)), (30, .agg #[.int .i64 ((F.getD i (0, 0, 0)).1), .int .i64 ((F.getD i (0, 0, 0)).2.1), .int .i64 ((F.getD i (0, 0, 0)).2.2)]), (29, .pointer (some ⟨b8, o9, none⟩)), (28, .bool (decide (((i : Nat) : Int) < ((nf : Nat) : Int)))), (27, .int .i64 ((i : Nat) : Int)), (26, .int .i64 ((nf : Nat) : Int)), (25, .slice pf nf cf), (5, .pointer (some ⟨b6, 0, none⟩)), (3, .int .i64 0), (2, .pointer (some ⟨b2, 0, none⟩)), (1, .pointer (some ⟨b1, 0, none⟩))], [boxA bn25n1 89 [.bool false, .slice none 0 0, .bool false, .slice none 0 0, .bool false, .slice none 0 0]], [boxA b12 42 [.int .i64 0, .int .i64 0, .int .i64 0], boxA b11 44 [.int .i64 ((F.getD i (0, 0, 0)).1), .int .i64 ((F.getD i (0, 0, 0)).2.1), .int .i64 ((F.getD i (0, 0, 0)).2.2)], boxA b6 34 [.bool (decide (s < 0)), .slice p ((Big.digs ((s).natAbs)).length) c], mapA b23 (fun z : Int => .int .i64 z) (fun z : Int => .int .i64 z) (InK .i64) bm1, boxA b2 34 [.bool false, .slice none 0 0], boxA b1 25 [.slice pv nv cv, .slice pf nf cf]], [slF (rI .u32) pr0n23n1 cr0n23n2 (Big.digs ((qcx - 0).natAbs)), slF (rI .u32) pr1n23n3 cr1n23n4 (Big.digs ((qcy - 0).natAbs)), slF (rI .u32) pr2n23n5 cr2n23n6 (Big.digs ((qcz - 0).natAbs)), slF (rI .u32) pr0n15n1 cr0n15n2 (Big.digs ((qbx - 0).natAbs)), slF (rI .u32) pr1n15n3 cr1n15n4 (Big.digs ((qby - 0).natAbs)), slF (rI .u32) pr2n15n5 cr2n15n6 (Big.digs ((qbz - 0).natAbs)), slF (rI .u32) pr0n7n1 cr0n7n2 (Big.digs ((qax - 0).natAbs)), slF (rI .u32) pr1n7n3 cr1n7n4 (Big.digs ((qay - 0).natAbs)), slF (rI .u32) pr2n7n5 cr2n7n6 (Big.digs ((qaz - 0).natAbs)), atF b19 o20 [.int .i64 qcx, .int .i64 qcy, .int .i64 qcz], atF b16 o17 [.int .i64 qbx, .int .i64 qby, .int .i64 qbz], atF b13 o14 [.int .i64 qax, .int .i64 qay, .int .i64 qaz], atF b8 o9 [.int .i64 ((F.getD i (0, 0, 0)).1), .int .i64 ((F.getD i (0, 0, 0)).2.1), .int .i64 ((F.getD i (0, 0, 0)).2.2)], slF (rI .u32) p c (Big.digs ((s).natAbs)), slF (rI .u32) p24 c25 (Big.digs ((0 : Int).natAbs)), slF (rI3 .i64) pv cv V, slF (rI3 .i64) pf cf F])) ?_ (fun hD9 => ?_)
    ·
     rintro ⟨pr0n7n1, cr0n7n2, pr1n7n3, cr1n7n4, pr2n7n5, cr2n7n6, pr0n15n1, cr0n15n2, pr1n15n3, cr1n15n4, pr2n15n5, cr2n15n6, pr0n23n1, cr0n23n2, pr1n23n3, cr1n23n4, pr2n23n5, cr2n23n6, bn25n1⟩
     dsimp only
     refine d_two 24 26 (by kernel_rfl) ?_ ?_
     ·
      refine o_ef0W rfl rfl rfl rfl (ef_alloc zr89 rfl) (fun bn24n1 _ => ?_)
      exact d_weakT (hD4 (pr0n7n1, cr0n7n2, pr1n7n3, cr1n7n4, pr2n7n5, cr2n7n6, pr0n15n1, cr0n15n2, pr1n15n3, cr1n15n4, pr2n15n5, cr2n15n6, pr0n23n1, cr0n23n2, pr1n23n3, cr1n23n4, pr2n23n5, cr2n23n6, bn24n1, bn25n1)) (by kernel_rfl) ((.of rfl) : SubM _ _) (perm_c 1 rfl (perm_c 0 rfl .nil)) .rfl ((.of [0, 1, 2, 3, 4, 5, 6, 7, 8, 9, 10, 11, 12, 13, 14, 15, 16] rfl) : SelR _ _ _)
     ·
      refine o_ef0W rfl rfl rfl rfl (ef_alloc zr89 rfl) (fun bn26n1 _ => ?_)
      exact d_weakT (hD6 (pr0n7n1, cr0n7n2, pr1n7n3, cr1n7n4, pr2n7n5, cr2n7n6, pr0n15n1, cr0n15n2, pr1n15n3, cr1n15n4, pr2n15n5, cr2n15n6, pr0n23n1, cr0n23n2, pr1n23n3, cr1n23n4, pr2n23n5, cr2n23n6, bn25n1, bn26n1)) (by kernel_rfl) ((.of rfl) : SubM _ _) .rfl .rfl ((.of [0, 1, 2, 3, 4, 5, 6, 7, 8, 9, 10, 11, 12, 13, 14, 15, 16] rfl) : SelR _ _ _)
    refine d_join (X := Option Addr × Nat × Option Addr × Nat × Option Addr × Nat × Option Addr × Nat × Option Addr × Nat × Option Addr × Nat × Option Addr × Nat × Option Addr × Nat × Option Addr × Nat × Nat) (k' := 5) (L' := #[true, true, true, true, true, true, true, true, true, true, true, true, true, true, true, true, true, true, true, true, true, true, true, true, false, false, true, false, false, false]) (fun (pr0n7n1, cr0n7n2, pr1n7n3, cr1n7n4, pr2n7n5, cr2n7n6, pr0n15n1, cr0n15n2, pr1n15n3, cr1n15n4, pr2n15n5, cr2n15n6, pr0n23n1, cr0n23n2, pr1n23n3, cr1n23n4, pr2n23n5, cr2n23n6, bn26n1) => ([(11, .pointer (some ⟨bn26n1, 0, none⟩)), (55, .agg #[.bool (decide ((qcx - 0) < 0)), .slice pr0n23n1 ((Big.digs ((qcx - 0).natAbs)).length) cr0n23n2, .bool (decide ((qcy - 0) < 0)), .slice pr1n23n3 ((Big.digs ((qcy - 0).natAbs)).length) cr1n23n4, .bool (decide ((qcz - 0) < 0)), .slice pr2n23n5 ((Big.digs ((qcz - 0).natAbs)).length) cr2n23n6]), (47, .agg #[.bool (decide ((qbx - 0) < 0)), .slice pr0n15n1 ((Big.digs ((qbx - 0).natAbs)).length) cr0n15n2, .bool (decide ((qby - 0) < 0)), .slice pr1n15n3 ((Big.digs ((qby - 0).natAbs)).length) cr1n15n4, .bool (decide ((qbz - 0) < 0)), .slice pr2n15n5 ((Big.digs ((qbz - 0).natAbs)).length) cr2n15n6]), (39, .agg #[.bool (decide ((qax - 0) < 0)), .slice pr0n7n1 ((Big.digs ((qax - 0).natAbs)).length) cr0n7n2, .bool (decide ((qay - 0) < 0)), .slice pr1n7n3 ((Big.digs ((qay - 0).natAbs)).length) cr1n7n4, .bool (decide ((qaz - 0) < 0)), .slice pr2n7n5 ((Big.digs ((qaz - 0).natAbs)).length) cr2n7n6]), (54, .agg #[.int .i64 qcx, .int .i64 qcy, .int .i64 qcz]), (53, .pointer (some ⟨b19, o20, none⟩)), (52, .int .i64 ((F.getD i (0, 0, 0)).2.2)), (51, .pointer (some ⟨b11, 2, none⟩)), (50, .slice pv nv cv), (49, .pointer (some ⟨b1, 0, none⟩)), (48, .agg #[.int .i64 0, .int .i64 0, .int .i64 0]), (46, .agg #[.int .i64 qbx, .int .i64 qby, .int .i64 qbz]), (45, .pointer (some ⟨b16, o17, none⟩)), (44, .int .i64 ((F.getD i (0, 0, 0)).2.1)), (43, .pointer (some ⟨b11, 1, none⟩)), (42, .slice pv nv cv), (41, .pointer (some ⟨b1, 0, none⟩)), (40, .agg #[.int .i64 0, .int .i64 0, .int .i64 0]), (38, .agg #[.int .i64 qax, .int .i64 qay, .int .i64 qaz]), (37, .pointer (some ⟨b13, o14, none⟩)), (36, .int .i64 ((F.getD i (0, 0, 0)).1)), (35, .pointer (some ⟨b11, 0, none⟩)), (34, .slice pv nv cv), (33, .pointer (some ⟨b1, 0, none⟩)), (32, .agg #[.int .i64 0, .int .i64 0, .int .i64 0]), (8, .pointer (some ⟨b12, 0, none⟩)), (31, .agg #[.int .i64 0, .int .i64 0, .int .i64 0]), (7, .pointer (some ⟨b11, 0, none⟩)), (30, .agg #[.int .i64 ((F.getD i (0, 0, 0)).1), .int .i64 ((F.getD i (0, 0, 0)).2.1), .int .i64 ((F.getD i (0, 0, 0)).2.2)]), (29, .pointer (some ⟨b8, o9, none⟩)), (28, .bool (decide (((i : Nat) : Int) < ((nf : Nat) : Int)))), (27, .int .i64 ((i : Nat) : Int)), (26, .int .i64 ((nf : Nat) : Int)), (25, .slice pf nf cf), (5, .pointer (some ⟨b6, 0, none⟩)), (3, .int .i64 0), (2, .pointer (some ⟨b2, 0, none⟩)), (1, .pointer (some ⟨b1, 0, none⟩))], [boxA bn26n1 89 [.bool false, .slice none 0 0, .bool false, .slice none 0 0, .bool false, .slice none 0 0]], [boxA b12 42 [.int .i64 0, .int .i64 0, .int .i64 0], boxA b11 44 [.int .i64 ((F.getD i (0, 0, 0)).1), .int .i64 ((F.getD i (0, 0, 0)).2.1), .int .i64 ((F.getD i (0, 0, 0)).2.2)], boxA b6 34 [.bool (decide (s < 0)), .slice p ((Big.digs ((s).natAbs)).length) c], mapA b23 (fun z : Int => .int .i64 z) (fun z : Int => .int .i64 z) (InK .i64) bm1, boxA b2 34 [.bool false, .slice none 0 0], boxA b1 25 [.slice pv nv cv, .slice pf nf cf]], [slF (rI .u32) pr0n23n1 cr0n23n2 (Big.digs ((qcx - 0).natAbs)), slF (rI .u32) pr1n23n3 cr1n23n4 (Big.digs ((qcy - 0).natAbs)), slF (rI .u32) pr2n23n5 cr2n23n6 (Big.digs ((qcz - 0).natAbs)), slF (rI .u32) pr0n15n1 cr0n15n2 (Big.digs ((qbx - 0).natAbs)), slF (rI .u32) pr1n15n3 cr1n15n4 (Big.digs ((qby - 0).natAbs)), slF (rI .u32) pr2n15n5 cr2n15n6 (Big.digs ((qbz - 0).natAbs)), slF (rI .u32) pr0n7n1 cr0n7n2 (Big.digs ((qax - 0).natAbs)), slF (rI .u32) pr1n7n3 cr1n7n4 (Big.digs ((qay - 0).natAbs)), slF (rI .u32) pr2n7n5 cr2n7n6 (Big.digs ((qaz - 0).natAbs)), atF b19 o20 [.int .i64 qcx, .int .i64 qcy, .int .i64 qcz], atF b16 o17 [.int .i64 qbx, .int .i64 qby, .int .i64 qbz], atF b13 o14 [.int .i64 qax, .int .i64 qay, .int .i64 qaz], atF b8 o9 [.int .i64 ((F.getD i (0, 0, 0)).1), .int .i64 ((F.getD i (0, 0, 0)).2.1), .int .i64 ((F.getD i (0, 0, 0)).2.2)], slF (rI .u32) p c (Big.digs ((s).natAbs)), slF (rI .u32) p24 c25 (Big.digs ((0 : Int).natAbs)), slF (rI3 .i64) pv cv V, slF (rI3 .i64) pf cf F])) ?_ (fun hD10 => ?_)
    ·
     rintro ⟨pr0n7n1, cr0n7n2, pr1n7n3, cr1n7n4, pr2n7n5, cr2n7n6, pr0n15n1, cr0n15n2, pr1n15n3, cr1n15n4, pr2n15n5, cr2n15n6, pr0n23n1, cr0n23n2, pr1n23n3, cr1n23n4, pr2n23n5, cr2n23n6, bn26n1⟩
     dsimp only
     refine d_two 24 25 (by kernel_rfl) ?_ ?_
     ·
      refine o_ef0W rfl rfl rfl rfl (ef_alloc zr89 rfl) (fun bn24n1 _ => ?_)
      exact d_weakT (hD5 (pr0n7n1, cr0n7n2, pr1n7n3, cr1n7n4, pr2n7n5, cr2n7n6, pr0n15n1, cr0n15n2, pr1n15n3, cr1n15n4, pr2n15n5, cr2n15n6, pr0n23n1, cr0n23n2, pr1n23n3, cr1n23n4, pr2n23n5, cr2n23n6, bn24n1, bn26n1)) (by kernel_rfl) ((.of rfl) : SubM _ _) (perm_c 1 rfl (perm_c 0 rfl .nil)) .rfl ((.of [0, 1, 2, 3, 4, 5, 6, 7, 8, 9, 10, 11, 12, 13, 14, 15, 16] rfl) : SelR _ _ _)
     ·
      refine o_ef0W rfl rfl rfl rfl (ef_alloc zr89 rfl) (fun bn25n1 _ => ?_)
      exact d_weakT (hD6 (pr0n7n1, cr0n7n2, pr1n7n3, cr1n7n4, pr2n7n5, cr2n7n6, pr0n15n1, cr0n15n2, pr1n15n3, cr1n15n4, pr2n15n5, cr2n15n6, pr0n23n1, cr0n23n2, pr1n23n3, cr1n23n4, pr2n23n5, cr2n23n6, bn25n1, bn26n1)) (by kernel_rfl) ((.of rfl) : SubM _ _) (perm_c 1 rfl (perm_c 0 rfl .nil)) .rfl ((.of [0, 1, 2, 3, 4, 5, 6, 7, 8, 9, 10, 11, 12, 13, 14, 15, 16] rfl) : SelR _ _ _)
    refine d_join (X := Option Addr × Nat × Option Addr × Nat × Option Addr × Nat × Option Addr × Nat × Option Addr × Nat × Option Addr × Nat × Nat × Nat) (k' := 5) (L' := #[true, true, true, true, true, true, true, true, true, true, true, true, true, true, true, true, true, true, true, true, true, true, true, false, true, true, false, false, false, false]) (fun (pr0n7n1, cr0n7n2, pr1n7n3, cr1n7n4, pr2n7n5, cr2n7n6, pr0n15n1, cr0n15n2, pr1n15n3, cr1n15n4, pr2n15n5, cr2n15n6, bn24n1, bn25n1) => ([(10, .pointer (some ⟨bn25n1, 0, none⟩)), (9, .pointer (some ⟨bn24n1, 0, none⟩)), (47, .agg #[.bool (decide ((qbx - 0) < 0)), .slice pr0n15n1 ((Big.digs ((qbx - 0).natAbs)).length) cr0n15n2, .bool (decide ((qby - 0) < 0)), .slice pr1n15n3 ((Big.digs ((qby - 0).natAbs)).length) cr1n15n4, .bool (decide ((qbz - 0) < 0)), .slice pr2n15n5 ((Big.digs ((qbz - 0).natAbs)).length) cr2n15n6]), (39, .agg #[.bool (decide ((qax - 0) < 0)), .slice pr0n7n1 ((Big.digs ((qax - 0).natAbs)).length) cr0n7n2, .bool (decide ((qay - 0) < 0)), .slice pr1n7n3 ((Big.digs ((qay - 0).natAbs)).length) cr1n7n4, .bool (decide ((qaz - 0) < 0)), .slice pr2n7n5 ((Big.digs ((qaz - 0).natAbs)).length) cr2n7n6]), (54, .agg #[.int .i64 qcx, .int .i64 qcy, .int .i64 qcz]), (53, .pointer (some ⟨b19, o20, none⟩)), (52, .int .i64 ((F.getD i (0, 0, 0)).2.2)), (51, .pointer (some ⟨b11, 2, none⟩)), (50, .slice pv nv cv), (49, .pointer (some ⟨b1, 0, none⟩)), (48, .agg #[.int .i64 0, .int .i64 0, .int .i64 0]), (46, .agg #[.int .i64 qbx, .int .i64 qby, .int .i64 qbz]), (45, .pointer (some ⟨b16, o17, none⟩)), (44, .int .i64 ((F.getD i (0, 0, 0)).2.1)), (43, .pointer (some ⟨b11, 1, none⟩)), (42, .slice pv nv cv), (41, .pointer (some ⟨b1, 0, none⟩)), (40, .agg #[.int .i64 0, .int .i64 0, .int .i64 0]), (38, .agg #[.int .i64 qax, .int .i64 qay, .int .i64 qaz]), (37, .pointer (some ⟨b13, o14, none⟩)), (36, .int .i64 ((F.getD i (0, 0, 0)).1)), (35, .pointer (some ⟨b11, 0, none⟩)), (34, .slice pv nv cv), (33, .pointer (some ⟨b1, 0, none⟩)), (32, .agg #[.int .i64 0, .int .i64 0, .int .i64 0]), (8, .pointer (some ⟨b12, 0, none⟩)), (31, .agg #[.int .i64 0, .int .i64 0, .int .i64 0]), (7, .pointer (some ⟨b11, 0, none⟩)), (30, .agg #[.int .i64 ((F.getD i (0, 0, 0)).1), .int .i64 ((F.getD i (0, 0, 0)).2.1), .int .i64 ((F.getD i (0, 0, 0)).2.2)]), (29, .pointer (some ⟨b8, o9, none⟩)), (28, .bool (decide (((i : Nat) : Int) < ((nf : Nat) : Int)))), (27, .int .i64 ((i : Nat) : Int)), (26, .int .i64 ((nf : Nat) : Int)), (25, .slice pf nf cf), (5, .pointer (some ⟨b6, 0, none⟩)), (3, .int .i64 0), (2, .pointer (some ⟨b2, 0, none⟩)), (1, .pointer (some ⟨b1, 0, none⟩))], [boxA bn25n1 89 [.bool false, .slice none 0 0, .bool false, .slice none 0 0, .bool false, .slice none 0 0], boxA bn24n1 89 [.bool false, .slice none 0 0, .bool false, .slice none 0 0, .bool false, .slice none 0 0]], [boxA b12 42 [.int .i64 0, .int .i64 0, .int .i64 0], boxA b11 44 [.int .i64 ((F.getD i (0, 0, 0)).1), .int .i64 ((F.getD i (0, 0, 0)).2.1), .int .i64 ((F.getD i (0, 0, 0)).2.2)], boxA b6 34 [.bool (decide (s < 0)), .slice p ((Big.digs ((s).natAbs)).length) c], mapA b23 (fun z : Int => .int .i64 z) (fun z : Int => .int .i64 z) (InK .i64) bm1, boxA b2 34 [.bool false, .slice none 0 0], boxA b1 25 [.slice pv nv cv, .slice pf nf cf]], [slF (rI .u32) pr0n15n1 cr0n15n2 (Big.digs ((qbx - 0).natAbs)), slF (rI .u32) pr1n15n3 cr1n15n4 (Big.digs ((qby - 0).natAbs)), slF (rI .u32) pr2n15n5 cr2n15n6 (Big.digs ((qbz - 0).natAbs)), slF (rI .u32) pr0n7n1 cr0n7n2 (Big.digs ((qax - 0).natAbs)), slF (rI .u32) pr1n7n3 cr1n7n4 (Big.digs ((qay - 0).natAbs)), slF (rI .u32) pr2n7n5 cr2n7n6 (Big.digs ((qaz - 0).natAbs)), atF b19 o20 [.int .i64 qcx, .int .i64 qcy, .int .i64 qcz], atF b16 o17 [.int .i64 qbx, .int .i64 qby, .int .i64 qbz], atF b13 o14 [.int .i64 qax, .int .i64 qay, .int .i64 qaz], atF b8 o9 [.int .i64 ((F.getD i (0, 0, 0)).1), .int .i64 ((F.getD i (0, 0, 0)).2.1), .int .i64 ((F.getD i (0, 0, 0)).2.2)], slF (rI .u32) p c (Big.digs ((s).natAbs)), slF (rI .u32) p24 c25 (Big.digs ((0 : Int).natAbs)), slF (rI3 .i64) pv cv V, slF (rI3 .i64) pf cf F])) ?_ (fun hD11 => ?_)
    ·
     rintro ⟨pr0n7n1, cr0n7n2, pr1n7n3, cr1n7n4, pr2n7n5, cr2n7n6, pr0n15n1, cr0n15n2, pr1n15n3, cr1n15n4, pr2n15n5, cr2n15n6, bn24n1, bn25n1⟩
     dsimp only
     refine d_two 23 26 (by kernel_rfl) ?_ ?_
     ·
      refine o_callf rfl rfl rfl rfl (.c rfl (.c rfl .n)) ce58 (con_from (ex := 0) (ey := 0) (ez := 0) (fx := qcx) (fy := qcy) (fz := qcz) (hbex := by omega) (hbey := by omega) (hbez := by omega) (hbfx := by omega) (hbfy := by omega) (hbfz := by omega)) (.n) ?_
      rintro ⟨pr0n23n1, cr0n23n2, pr1n23n3, cr1n23n4, pr2n23n5, cr2n23n6⟩ -
      dsimp only [List.append_eq, List.nil_append, List.cons_append]
      exact d_weakT (hD4 (pr0n7n1, cr0n7n2, pr1n7n3, cr1n7n4, pr2n7n5, cr2n7n6, pr0n15n1, cr0n15n2, pr1n15n3, cr1n15n4, pr2n15n5, cr2n15n6, pr0n23n1, cr0n23n2, pr1n23n3, cr1n23n4, pr2n23n5, cr2n23n6, bn24n1, bn25n1)) (by kernel_rfl) ((.of rfl) : SubM _ _) .rfl .rfl ((.of [0, 1, 2, 3, 4, 5, 6, 7, 8, 9, 10, 11, 12, 13, 14, 15, 16] rfl) : SelR _ _ _)
     ·
      refine o_ef0W rfl rfl rfl rfl (ef_alloc zr89 rfl) (fun bn26n1 _ => ?_)
      exact d_weakT (hD7 (pr0n7n1, cr0n7n2, pr1n7n3, cr1n7n4, pr2n7n5, cr2n7n6, pr0n15n1, cr0n15n2, pr1n15n3, cr1n15n4, pr2n15n5, cr2n15n6, bn24n1, bn25n1, bn26n1)) (by kernel_rfl) ((.of rfl) : SubM _ _) .rfl .rfl ((.of [0, 1, 2, 3, 4, 5, 6, 7, 8, 9, 10, 11, 12, 13] rfl) : SelR _ _ _)
    refine d_join (X := Option Addr × Nat × Option Addr × Nat × Option Addr × Nat × Option Addr × Nat × Option Addr × Nat × Option Addr × Nat × Nat × Nat) (k' := 5) (L' := #[true, true, true, true, true, true, true, true, true, true, true, true, true, true, true, true, true, true, true, true, true, true, true, false, true, false, true, false, false, false]) (fun (pr0n7n1, cr0n7n2, pr1n7n3, cr1n7n4, pr2n7n5, cr2n7n6, pr0n15n1, cr0n15n2, pr1n15n3, cr1n15n4, pr2n15n5, cr2n15n6, bn24n1, bn26n1) => ([(11, .pointer (some ⟨bn26n1, 0, none⟩)), (9, .pointer (some ⟨bn24n1, 0, none⟩)), (47, .agg #[.bool (decide ((qbx - 0) < 0)), .slice pr0n15n1 ((Big.digs ((qbx - 0).natAbs)).length) cr0n15n2, .bool (decide ((qby - 0) < 0)), .slice pr1n15n3 ((Big.digs ((qby - 0).natAbs)).length) cr1n15n4, .bool (decide ((qbz - 0) < 0)), .slice pr2n15n5 ((Big.digs ((qbz - 0).natAbs)).length) cr2n15n6]), (39, .agg #[.bool (decide ((qax - 0) < 0)), .slice pr0n7n1 ((Big.digs ((qax - 0).natAbs)).length) cr0n7n2, .bool (decide ((qay - 0) < 0)), .slice pr1n7n3 ((Big.digs ((qay - 0).natAbs)).length) cr1n7n4, .bool (decide ((qaz - 0) < 0)), .slice pr2n7n5 ((Big.digs ((qaz - 0).natAbs)).length) cr2n7n6]), (54, .agg #[.int .i64 qcx, .int .i64 qcy, .int .i64 qcz]), (53, .pointer (some ⟨b19, o20, none⟩)), (52, .int .i64 ((F.getD i (0, 0, 0)).2.2)), (51, .pointer (some ⟨b11, 2, none⟩)), (50, .slice pv nv cv), (49, .pointer (some ⟨b1, 0, none⟩)), (48, .agg #[.int .i64 0, .int .i64 0, .int .i64 0]), (46, .agg #[.int .i64 qbx, .int .i64 qby, .int .i64 qbz]), (45, .pointer (some ⟨b16, o17, none⟩)), (44, .int .i64 ((F.getD i (0, 0, 0)).2.1)), (43, .pointer (some ⟨b11, 1, none⟩)), (42, .slice pv nv cv), (41, .pointer (some ⟨b1, 0, none⟩)), (40, .agg #[.int .i64 0, .int .i64 0, .int .i64 0]), (38, .agg #[.int .i64 qax, .int .i64 qay, .int .i64 qaz]), (37, .pointer (some ⟨b13, o14, none⟩)), (36, .int .i64 ((F.getD i (0, 0, 0)).1)), (35, .pointer (some ⟨b11, 0, none⟩)), (34, .slice pv nv cv), (33, .pointer (some ⟨b1, 0, none⟩)), (32, .agg #[.int .i64 0, .int .i64 0, .int .i64 0]), (8, .pointer (some ⟨b12, 0, none⟩)), (31, .agg #[.int .i64 0, .int .i64 0, .int .i64 0]), (7, .pointer (some ⟨b11, 0, none⟩)), (30, .agg #[.int .i64 ((F.getD i (0, 0, 0)).1), .int .i64 ((F.getD i (0, 0, 0)).2.1), .int .i64 ((F.getD i (0, 0, 0)).2.2)]), (29, .pointer (some ⟨b8, o9, none⟩)), (28, .bool (decide (((i : Nat) : Int) < ((nf : Nat) : Int)))), (27, .int .i64 ((i : Nat) : Int)), (26, .int .i64 ((nf : Nat) : Int)), (25, .slice pf nf cf), (5, .pointer (some ⟨b6, 0, none⟩)), (3, .int .i64 0), (2, .pointer (some ⟨b2, 0, none⟩)), (1, .pointer (some ⟨b1, 0, none⟩))], [boxA bn26n1 89 [.bool false, .slice none 0 0, .bool false, .slice none 0 0, .bool false, .slice none 0 0], boxA bn24n1 89 [.bool false, .slice none 0 0, .bool false, .slice none 0 0, .bool false, .slice none 0 0]], [boxA b12 42 [.int .i64 0, .int .i64 0, .int .i64 0], boxA b11 44 [.int .i64 ((F.getD i (0, 0, 0)).1), .int .i64 ((F.getD i (0, 0, 0)).2.1), .int .i64 ((F.getD i (0, 0, 0)).2.2)], boxA b6 34 [.bool (decide (s < 0)), .slice p ((Big.digs ((s).natAbs)).length) c], mapA b23 (fun z : Int => .int .i64 z) (fun z : Int => .int .i64 z) (InK .i64) bm1, boxA b2 34 [.bool false, .slice none 0 0], boxA b1 25 [.slice pv nv cv, .slice pf nf cf]], [slF (rI .u32) pr0n15n1 cr0n15n2 (Big.digs ((qbx - 0).natAbs)), slF (rI .u32) pr1n15n3 cr1n15n4 (Big.digs ((qby - 0).natAbs)), slF (rI .u32) pr2n15n5 cr2n15n6 (Big.digs ((qbz - 0).natAbs)), slF (rI .u32) pr0n7n1 cr0n7n2 (Big.digs ((qax - 0).natAbs)), slF (rI .u32) pr1n7n3 cr1n7n4 (Big.digs ((qay - 0).natAbs)), slF (rI .u32) pr2n7n5 cr2n7n6 (Big.digs ((qaz - 0).natAbs)), atF b19 o20 [.int .i64 qcx, .int .i64 qcy, .int .i64 qcz], atF b16 o17 [.int .i64 qbx, .int .i64 qby, .int .i64 qbz], atF b13 o14 [.int .i64 qax, .int .i64 qay, .int .i64 qaz], atF b8 o9 [.int .i64 ((F.getD i (0, 0, 0)).1), .int .i64 ((F.getD i (0, 0, 0)).2.1), .int .i64 ((F.getD i (0, 0, 0)).2.2)], slF (rI .u32) p c (Big.digs ((s).natAbs)), slF (rI .u32) p24 c25 (Big.digs ((0 : Int).natAbs)), slF (rI3 .i64) pv cv V, slF (rI3 .i64) pf cf F])) ?_ (fun hD12 => ?_)
    ·
     rintro ⟨pr0n7n1, cr0n7n2, pr1n7n3, cr1n7n4, pr2n7n5, cr2n7n6, pr0n15n1, cr0n15n2, pr1n15n3, cr1n15n4, pr2n15n5, cr2n15n6, bn24n1, bn26n1⟩
     dsimp only
     refine d_two 23 25 (by kernel_rfl) ?_ ?_
     ·
      refine o_callf rfl rfl rfl rfl (.c rfl (.c rfl .n)) ce58 (con_from (ex := 0) (ey := 0) (ez := 0) (fx := qcx) (fy := qcy) (fz := qcz) (hbex := by omega) (hbey := by omega) (hbez := by omega) (hbfx := by omega) (hbfy := by omega) (hbfz := by omega)) (.n) ?_
      rintro ⟨pr0n23n1, cr0n23n2, pr1n23n3, cr1n23n4, pr2n23n5, cr2n23n6⟩ -
      dsimp only [List.append_eq, List.nil_append, List.cons_append]
      exact d_weakT (hD5 (pr0n7n1, cr0n7n2, pr1n7n3, cr1n7n4, pr2n7n5, cr2n7n6, pr0n15n1, cr0n15n2, pr1n15n3, cr1n15n4, pr2n15n5, cr2n15n6, pr0n23n1, cr0n23n2, pr1n23n3, cr1n23n4, pr2n23n5, cr2n23n6, bn24n1, bn26n1)) (by kernel_rfl) ((.of rfl) : SubM _ _) .rfl .rfl ((.of [0, 1, 2, 3, 4, 5, 6, 7, 8, 9, 10, 11, 12, 13, 14, 15, 16] rfl) : SelR _ _ _)
     ·
      refine o_ef0W rfl rfl rfl rfl (ef_alloc zr89 rfl) (fun bn25n1 _ => ?_)
      exact d_weakT (hD7 (pr0n7n1, cr0n7n2, pr1n7n3, cr1n7n4, pr2n7n5, cr2n7n6, pr0n15n1, cr0n15n2, pr1n15n3, cr1n15n4, pr2n15n5, cr2n15n6, bn24n1, bn25n1, bn26n1)) (by kernel_rfl) ((.of rfl) : SubM _ _) (perm_c 1 rfl (perm_c 0 rfl (perm_c 0 rfl .nil))) .rfl ((.of [0, 1, 2, 3, 4, 5, 6, 7, 8, 9, 10, 11, 12, 13] rfl) : SelR _ _ _)
    refine d_join (X := Option Addr × Nat × Option Addr × Nat × Option Addr × Nat × Option Addr × Nat × Option Addr × Nat × Option Addr × Nat × Nat × Nat) (k' := 5) (L' := #[true, true, true, true, true, true, true, true, true, true, true, true, true, true, true, true, true, true, true, true, true, true, true, false, false, true, true, false, false, false]) (fun (pr0n7n1, cr0n7n2, pr1n7n3, cr1n7n4, pr2n7n5, cr2n7n6, pr0n15n1, cr0n15n2, pr1n15n3, cr1n15n4, pr2n15n5, cr2n15n6, bn25n1, bn26n1) => ([(11, .pointer (some ⟨bn26n1, 0, none⟩)), (10, .pointer (some ⟨bn25n1, 0, none⟩)), (47, .agg #[.bool (decide ((qbx - 0) < 0)), .slice pr0n15n1 ((Big.digs ((qbx - 0).natAbs)).length) cr0n15n2, .bool (decide ((qby - 0) < 0)), .slice pr1n15n3 ((Big.digs ((qby - 0).natAbs)).length) cr1n15n4, .bool (decide ((qbz - 0) < 0)), .slice pr2n15n5 ((Big.digs ((qbz - 0).natAbs)).length) cr2n15n6]), (39, .agg #[.bool (decide ((qax - 0) < 0)), .slice pr0n7n1 ((Big.digs ((qax - 0).natAbs)).length) cr0n7n2, .bool (decide ((qay - 0) < 0)), .slice pr1n7n3 ((Big.digs ((qay - 0).natAbs)).length) cr1n7n4, .bool (decide ((qaz - 0) < 0)), .slice pr2n7n5 ((Big.digs ((qaz - 0).natAbs)).length) cr2n7n6]), (54, .agg #[.int .i64 qcx, .int .i64 qcy, .int .i64 qcz]), (53, .pointer (some ⟨b19, o20, none⟩)), (52, .int .i64 ((F.getD i (0, 0, 0)).2.2)), (51, .pointer (some ⟨b11, 2, none⟩)), (50, .slice pv nv cv), (49, .pointer (some ⟨b1, 0, none⟩)), (48, .agg #[.int .i64 0, .int .i64 0, .int .i64 0]), (46, .agg #[.int .i64 qbx, .int .i64 qby, .int .i64 qbz]), (45, .pointer (some ⟨b16, o17, none⟩)), (44, .int .i64 ((F.getD i (0, 0, 0)).2.1)), (43, .pointer (some ⟨b11, 1, none⟩)), (42, .slice pv nv cv), (41, .pointer (some ⟨b1, 0, none⟩)), (40, .agg #[.int .i64 0, .int .i64 0, .int .i64 0]), (38, .agg #[.int .i64 qax, .int .i64 qay, .int .i64 qaz]), (37, .pointer (some ⟨b13, o14, none⟩)), (36, .int .i64 ((F.getD i (0, 0, 0)).1)), (35, .pointer (some ⟨b11, 0, none⟩)), (34, .slice pv nv cv), (33, .pointer (some ⟨b1, 0, none⟩)), (32, .agg #[.int .i64 0, .int .i64 0, .int .i64 0]), (8, .pointer (some ⟨b12, 0, none⟩)), (31, .agg #[.int .i64 0, .int .i64 0, .int .i64 0]), (7, .pointer (some ⟨b11, 0, none⟩)), (30, .agg #[.int .i64 ((F.getD i (0, 0, 0)).1), .int .i64 ((F.getD i (0, 0, 0)).2.1), .int .i64 ((F.getD i (0, 0, 0)).2.2)]), (29, .pointer (some ⟨b8, o9, none⟩)), (28, .bool (decide (((i : Nat) : Int) < ((nf : Nat) : Int)))), (27, .int .i64 ((i : Nat) : Int)), (26, .int .i64 ((nf : Nat) : Int)), (25, .slice pf nf cf), (5, .pointer (some ⟨b6, 0, none⟩)), (3, .int .i64 0), (2, .pointer (some ⟨b2, 0, none⟩)), (1, .pointer (some ⟨b1, 0, none⟩))], [boxA bn26n1 89 [.bool false, .slice none 0 0, .bool false, .slice none 0 0, .bool false, .slice none 0 0], boxA bn25n1 89 [.bool false, .slice none 0 0, .bool false, .slice none 0 0, .bool false, .slice none 0 0]], [boxA b12 42 [.int .i64 0, .int .i64 0, .int .i64 0], boxA b11 44 [.int .i64 ((F.getD i (0, 0, 0)).1), .int .i64 ((F.getD i (0, 0, 0)).2.1), .int .i64 ((F.getD i (0, 0, 0)).2.2)], boxA b6 34 [.bool (decide (s < 0)), .slice p ((Big.digs ((s).natAbs)).length) c], mapA b23 (fun z : Int => .int .i64 z) (fun z : Int => .int .i64 z) (InK .i64) bm1, boxA b2 34 [.bool false, .slice none 0 0], boxA b1 25 [.slice pv nv cv, .slice pf nf cf]], [slF (rI .u32) pr0n15n1 cr0n15n2 (Big.digs ((qbx - 0).natAbs)), slF (rI .u32) pr1n15n3 cr1n15n4 (Big.digs ((qby - 0).natAbs)), slF (rI .u32) pr2n15n5 cr2n15n6 (Big.digs ((qbz - 0).natAbs)), slF (rI .u32) pr0n7n1 cr0n7n2 (Big.digs ((qax - 0).natAbs)), slF (rI .u32) pr1n7n3 cr1n7n4 (Big.digs ((qay - 0).natAbs)), slF (rI .u32) pr2n7n5 cr2n7n6 (Big.digs ((qaz - 0).natAbs)), atF b19 o20 [.int .i64 qcx, .int .i64 qcy, .int .i64 qcz], atF b16 o17 [.int .i64 qbx, .int .i64 qby, .int .i64 qbz], atF b13 o14 [.int .i64 qax, .int .i64 qay, .int .i64 qaz], atF b8 o9 [.int .i64 ((F.getD i (0, 0, 0)).1), .int .i64 ((F.getD i (0, 0, 0)).2.1), .int .i64 ((F.getD i (0, 0, 0)).2.2)], slF (rI .u32) p c (Big.digs ((s).natAbs)), slF (rI .u32) p24 c25 (Big.digs ((0 : Int).natAbs)), slF (rI3 .i64) pv cv V, slF (rI3 .i64) pf cf F])) ?_ (fun hD13 => ?_)
    ·
     rintro ⟨pr0n7n1, cr0n7n2, pr1n7n3, cr1n7n4, pr2n7n5, cr2n7n6, pr0n15n1, cr0n15n2, pr1n15n3, cr1n15n4, pr2n15n5, cr2n15n6, bn25n1, bn26n1⟩
     dsimp only
     refine d_two 23 24 (by kernel_rfl) ?_ ?_
     ·
      refine o_callf rfl rfl rfl rfl (.c rfl (.c rfl .n)) ce58 (con_from (ex := 0) (ey := 0) (ez := 0) (fx := qcx) (fy := qcy) (fz := qcz) (hbex := by omega) (hbey := by omega) (hbez := by omega) (hbfx := by omega) (hbfy := by omega) (hbfz := by omega)) (.n) ?_
      rintro ⟨pr0n23n1, cr0n23n2, pr1n23n3, cr1n23n4, pr2n23n5, cr2n23n6⟩ -
      dsimp only [List.append_eq, List.nil_append, List.cons_append]
      exact d_weakT (hD6 (pr0n7n1, cr0n7n2, pr1n7n3, cr1n7n4, pr2n7n5, cr2n7n6, pr0n15n1, cr0n15n2, pr1n15n3, cr1n15n4, pr2n15n5, cr2n15n6, pr0n23n1, cr0n23n2, pr1n23n3, cr1n23n4, pr2n23n5, cr2n23n6, bn25n1, bn26n1)) (by kernel_rfl) ((.of rfl) : SubM _ _) .rfl .rfl ((.of [0, 1, 2, 3, 4, 5, 6, 7, 8, 9, 10, 11, 12, 13, 14, 15, 16] rfl) : SelR _ _ _)
     ·
      refine o_ef0W rfl rfl rfl rfl (ef_alloc zr89 rfl) (fun bn24n1 _ => ?_)
      exact d_weakT (hD7 (pr0n7n1, cr0n7n2, pr1n7n3, cr1n7n4, pr2n7n5, cr2n7n6, pr0n15n1, cr0n15n2, pr1n15n3, cr1n15n4, pr2n15n5, cr2n15n6, bn24n1, bn25n1, bn26n1)) (by kernel_rfl) ((.of rfl) : SubM _ _) (perm_c 1 rfl (perm_c 1 rfl (perm_c 0 rfl .nil))) .rfl ((.of [0, 1, 2, 3, 4, 5, 6, 7, 8, 9, 10, 11, 12, 13] rfl) : SelR _ _ _)
    refine d_join (X := Option Addr × Nat × Option Addr × Nat × Option Addr × Nat × Nat × Nat × Nat) (k' := 5) (L' := #[true, true, true, true, true, true, true, true, true, true, true, true, true, true, true, false, true, true, true, true, true, true, true, false, true, true, true, false, false, false]) (fun (pr0n7n1, cr0n7n2, pr1n7n3, cr1n7n4, pr2n7n5, cr2n7n6, bn24n1, bn25n1, bn26n1) => ([(11, .pointer (some ⟨bn26n1, 0, none⟩)), (10, .pointer (some ⟨bn25n1, 0, none⟩)), (9, .pointer (some ⟨bn24n1, 0, none⟩)), (39, .agg #[.bool (decide ((qax - 0) < 0)), .slice pr0n7n1 ((Big.digs ((qax - 0).natAbs)).length) cr0n7n2, .bool (decide ((qay - 0) < 0)), .slice pr1n7n3 ((Big.digs ((qay - 0).natAbs)).length) cr1n7n4, .bool (decide ((qaz - 0) < 0)), .slice pr2n7n5 ((Big.digs ((qaz - 0).natAbs)).length) cr2n7n6]), (54, .agg #[.int .i64 qcx, .int .i64 qcy, .int .i64 qcz]), (53, .pointer (some ⟨b19, o20, none⟩)), (52, .int .i64 ((F.getD i (0, 0, 0)).2.2)), (51, .pointer (some ⟨b11, 2, none⟩)), (50, .slice pv nv cv), (49, .pointer (some ⟨b1, 0, none⟩)), (48, .agg #[.int .i64 0, .int .i64 0, .int .i64 0]), (46, .agg #[.int .i64 qbx, .int .i64 qby, .int .i64 qbz]), (45, .pointer (some ⟨b16, o17, none⟩)), (44, .int .i64 ((F.getD i (0, 0, 0)).2.1)), (43, .pointer (some ⟨b11, 1, none⟩)), (42, .slice pv nv cv), (41, .pointer (some ⟨b1, 0, none⟩)), (40, .agg #[.int .i64 0, .int .i64 0, .int .i64 0]), (38, .agg #[.int .i64 qax, .int .i64 qay, .int .i64 qaz]), (37, .pointer (some ⟨b13, o14, none⟩)), (36, .int .i64 ((F.getD i (0, 0, 0)).1)), (35, .pointer (some ⟨b11, 0, none⟩)), (34, .slice pv nv cv), (33, .pointer (some ⟨b1, 0, none⟩)), (32, .agg #[.int .i64 0, .int .i64 0, .int .i64 0]), (8, .pointer (some ⟨b12, 0, none⟩)), (31, .agg #[.int .i64 0, .int .i64 0, .int .i64 0]), (7, .pointer (some ⟨b11, 0, none⟩)), (30, .agg #[.int .i64 ((F.getD i (0, 0, 0)).1), .int .i64 ((F.getD i (0, 0, 0)).2.1), .int .i64 ((F.getD i (0, 0, 0)).2.2)]), (29, .pointer (some ⟨b8, o9, none⟩)), (28, .bool (decide (((i : Nat) : Int) < ((nf : Nat) : Int)))), (27, .int .i64 ((i : Nat) : Int)), (26, .int .i64 ((nf : Nat) : Int)), (25, .slice pf nf cf), (5, .pointer (some ⟨b6, 0, none⟩)), (3, .int .i64 0), (2, .pointer (some ⟨b2, 0, none⟩)), (1, .pointer (some ⟨b1, 0, none⟩))], [boxA bn26n1 89 [.bool false, .slice none 0 0, .bool false, .slice none 0 0, .bool false, .slice none 0 0], boxA bn25n1 89 [.bool false, .slice none 0 0, .bool false, .slice none 0 0, .bool false, .slice none 0 0], boxA bn24n1 89 [.bool false, .slice none 0 0, .bool false, .slice none 0 0, .bool false, .slice none 0 0]], [boxA b12 42 [.int .i64 0, .int .i64 0, .int .i64 0], boxA b11 44 [.int .i64 ((F.getD i (0, 0, 0)).1), .int .i64 ((F.getD i (0, 0, 0)).2.1), .int .i64 ((F.getD i (0, 0, 0)).2.2)], boxA b6 34 [.bool (decide (s < 0)), .slice p ((Big.digs ((s).natAbs)).length) c], mapA b23 (fun z : Int => .int .i64 z) (fun z : Int => .int .i64 z) (InK .i64) bm1, boxA b2 34 [.bool false, .slice none 0 0], boxA b1 25 [.slice pv nv cv, .slice pf nf cf]], [slF (rI .u32) pr0n7n1 cr0n7n2 (Big.digs ((qax - 0).natAbs)), slF (rI .u32) pr1n7n3 cr1n7n4 (Big.digs ((qay - 0).natAbs)), slF (rI .u32) pr2n7n5 cr2n7n6 (Big.digs ((qaz - 0).natAbs)), atF b19 o20 [.int .i64 qcx, .int .i64 qcy, .int .i64 qcz], atF b16 o17 [.int .i64 qbx, .int .i64 qby, .int .i64 qbz], atF b13 o14 [.int .i64 qax, .int .i64 qay, .int .i64 qaz], atF b8 o9 [.int .i64 ((F.getD i (0, 0, 0)).1), .int .i64 ((F.getD i (0, 0, 0)).2.1), .int .i64 ((F.getD i (0, 0, 0)).2.2)], slF (rI .u32) p c (Big.digs ((s).natAbs)), slF (rI .u32) p24 c25 (Big.digs ((0 : Int).natAbs)), slF (rI3 .i64) pv cv V, slF (rI3 .i64) pf cf F])) ?_ (fun hD14 => ?_)
    ·
     rintro ⟨pr0n7n1, cr0n7n2, pr1n7n3, cr1n7n4, pr2n7n5, cr2n7n6, bn24n1, bn25n1, bn26n1⟩
     dsimp only
     refine d_one 15 (by kernel_rfl) ?_
     ·
      refine o_callf rfl rfl rfl rfl (.c rfl (.c rfl .n)) ce58 (con_from (ex := 0) (ey := 0) (ez := 0) (fx := qbx) (fy := qby) (fz := qbz) (hbex := by omega) (hbey := by omega) (hbez := by omega) (hbfx := by omega) (hbfy := by omega) (hbfz := by omega)) (.n) ?_
      rintro ⟨pr0n15n1, cr0n15n2, pr1n15n3, cr1n15n4, pr2n15n5, cr2n15n6⟩ -
      dsimp only [List.append_eq, List.nil_append, List.cons_append]
      exact d_weakT (hD7 (pr0n7n1, cr0n7n2, pr1n7n3, cr1n7n4, pr2n7n5, cr2n7n6, pr0n15n1, cr0n15n2, pr1n15n3, cr1n15n4, pr2n15n5, cr2n15n6, bn24n1, bn25n1, bn26n1)) (by kernel_rfl) ((.of rfl) : SubM _ _) .rfl .rfl ((.of [0, 1, 2, 3, 4, 5, 6, 7, 8, 9, 10, 11, 12, 13] rfl) : SelR _ _ _)
    refine d_join (X := Option Addr × Nat × Option Addr × Nat × Option Addr × Nat × Option Addr × Nat × Option Addr × Nat × Option Addr × Nat × Option Addr × Nat × Option Addr × Nat × Option Addr × Nat) (k' := 6) (L' := #[true, true, true, true, true, true, true, true, true, true, true, true, true, true, true, true, true, true, true, true, true, true, true, true, false, false, false, false, false, false]) (fun (pr0n7n1, cr0n7n2, pr1n7n3, cr1n7n4, pr2n7n5, cr2n7n6, pr0n15n1, cr0n15n2, pr1n15n3, cr1n15n4, pr2n15n5, cr2n15n6, pr0n23n1, cr0n23n2, pr1n23n3, cr1n23n4, pr2n23n5, cr2n23n6) => ([(55, .agg #[.bool (decide ((qcx - 0) < 0)), .slice pr0n23n1 ((Big.digs ((qcx - 0).natAbs)).length) cr0n23n2, .bool (decide ((qcy - 0) < 0)), .slice pr1n23n3 ((Big.digs ((qcy - 0).natAbs)).length) cr1n23n4, .bool (decide ((qcz - 0) < 0)), .slice pr2n23n5 ((Big.digs ((qcz - 0).natAbs)).length) cr2n23n6]), (47, .agg #[.bool (decide ((qbx - 0) < 0)), .slice pr0n15n1 ((Big.digs ((qbx - 0).natAbs)).length) cr0n15n2, .bool (decide ((qby - 0) < 0)), .slice pr1n15n3 ((Big.digs ((qby - 0).natAbs)).length) cr1n15n4, .bool (decide ((qbz - 0) < 0)), .slice pr2n15n5 ((Big.digs ((qbz - 0).natAbs)).length) cr2n15n6]), (39, .agg #[.bool (decide ((qax - 0) < 0)), .slice pr0n7n1 ((Big.digs ((qax - 0).natAbs)).length) cr0n7n2, .bool (decide ((qay - 0) < 0)), .slice pr1n7n3 ((Big.digs ((qay - 0).natAbs)).length) cr1n7n4, .bool (decide ((qaz - 0) < 0)), .slice pr2n7n5 ((Big.digs ((qaz - 0).natAbs)).length) cr2n7n6]), (54, .agg #[.int .i64 qcx, .int .i64 qcy, .int .i64 qcz]), (53, .pointer (some ⟨b19, o20, none⟩)), (52, .int .i64 ((F.getD i (0, 0, 0)).2.2)), (51, .pointer (some ⟨b11, 2, none⟩)), (50, .slice pv nv cv), (49, .pointer (some ⟨b1, 0, none⟩)), (48, .agg #[.int .i64 0, .int .i64 0, .int .i64 0]), (46, .agg #[.int .i64 qbx, .int .i64 qby, .int .i64 qbz]), (45, .pointer (some ⟨b16, o17, none⟩)), (44, .int .i64 ((F.getD i (0, 0, 0)).2.1)), (43, .pointer (some ⟨b11, 1, none⟩)), (42, .slice pv nv cv), (41, .pointer (some ⟨b1, 0, none⟩)), (40, .agg #[.int .i64 0, .int .i64 0, .int .i64 0]), (38, .agg #[.int .i64 qax, .int .i64 qay, .int .i64 qaz]), (37, .pointer (some ⟨b13, o14, none⟩)), (36, .int .i64 ((F.getD i (0, 0, 0)).1)), (35, .pointer (some ⟨b11, 0, none⟩)), (34, .slice pv nv cv), (33, .pointer (some ⟨b1, 0, none⟩)), (32, .agg #[.int .i64 0, .int .i64 0, .int .i64 0]), (8, .pointer (some ⟨b12, 0, none⟩)), (31, .agg #[.int .i64 0, .int .i64 0, .int .i64 0]), (7, .pointer (some ⟨b11, 0, none⟩)), (30, .agg #[.int .i64 ((F.getD i (0, 0, 0)).1), .int .i64 ((F.getD i (0, 0, 0)).2.1), .int .i64 ((F.getD i (0, 0, 0)).2.2)]), (29, .pointer (some ⟨b8, o9, none⟩)), (28, .bool (decide (((i : Nat) : Int) < ((nf : Nat) : Int)))), (27, .int .i64 ((i : Nat) : Int)), (26, .int .i64 ((nf : Nat) : Int)), (25, .slice pf nf cf), (5, .pointer (some ⟨b6, 0, none⟩)), (3, .int .i64 0), (2, .pointer (some ⟨b2, 0, none⟩)), (1, .pointer (some ⟨b1, 0, none⟩))], [], [boxA b12 42 [.int .i64 0, .int .i64 0, .int .i64 0], boxA b11 44 [.int .i64 ((F.getD i (0, 0, 0)).1), .int .i64 ((F.getD i (0, 0, 0)).2.1), .int .i64 ((F.getD i (0, 0, 0)).2.2)], boxA b6 34 [.bool (decide (s < 0)), .slice p ((Big.digs ((s).natAbs)).length) c], mapA b23 (fun z : Int => .int .i64 z) (fun z : Int => .int .i64 z) (InK .i64) bm1, boxA b2 34 [.bool false, .slice none 0 0], boxA b1 25 [.slice pv nv cv, .slice pf nf cf]], [slF (rI .u32) pr0n23n1 cr0n23n2 (Big.digs ((qcx - 0).natAbs)), slF (rI .u32) pr1n23n3 cr1n23n4 (Big.digs ((qcy - 0).natAbs)), slF (rI .u32) pr2n23n5 cr2n23n6 (Big.digs ((qcz - 0).natAbs)), slF (rI .u32) pr0n15n1 cr0n15n2 (Big.digs ((qbx - 0).natAbs)), slF (rI .u32) pr1n15n3 cr1n15n4 (Big.digs ((qby - 0).natAbs)), slF (rI .u32) pr2n15n5 cr2n15n6 (Big.digs ((qbz - 0).natAbs)), slF (rI .u32) pr0n7n1 cr0n7n2 (Big.digs ((qax - 0).natAbs)), slF (rI .u32) pr1n7n3 cr1n7n4 (Big.digs ((qay - 0).natAbs)), slF (rI .u32) pr2n7n5 cr2n7n6 (Big.digs ((qaz - 0).natAbs)), atF b19 o20 [.int .i64 qcx, .int .i64 qcy, .int .i64 qcz], atF b16 o17 [.int .i64 qbx, .int .i64 qby, .int .i64 qbz], atF b13 o14 [.int .i64 qax, .int .i64 qay, .int .i64 qaz], atF b8 o9 [.int .i64 ((F.getD i (0, 0, 0)).1), .int .i64 ((F.getD i (0, 0, 0)).2.1), .int .i64 ((F.getD i (0, 0, 0)).2.2)], slF (rI .u32) p c (Big.digs ((s).natAbs)), slF (rI .u32) p24 c25 (Big.digs ((0 : Int).natAbs)), slF (rI3 .i64) pv cv V, slF (rI3 .i64) pf cf F])) ?_ (fun hD15 => ?_)
    ·
     rintro ⟨pr0n7n1, cr0n7n2, pr1n7n3, cr1n7n4, pr2n7n5, cr2n7n6, pr0n15n1, cr0n15n2, pr1n15n3, cr1n15n4, pr2n15n5, cr2n15n6, pr0n23n1, cr0n23n2, pr1n23n3, cr1n23n4, pr2n23n5, cr2n23n6⟩
     dsimp only
     refine d_three 24 25 26 (by kernel_rfl) ?_ ?_ ?_
     ·
      refine o_ef0W rfl rfl rfl rfl (ef_alloc zr89 rfl) (fun bn24n1 _ => ?_)
      exact d_weakT (hD8 (pr0n7n1, cr0n7n2, pr1n7n3, cr1n7n4, pr2n7n5, cr2n7n6, pr0n15n1, cr0n15n2, pr1n15n3, cr1n15n4, pr2n15n5, cr2n15n6, pr0n23n1, cr0n23n2, pr1n23n3, cr1n23n4, pr2n23n5, cr2n23n6, bn24n1)) (by kernel_rfl) ((.of rfl) : SubM _ _) .rfl .rfl ((.of [0, 1, 2, 3, 4, 5, 6, 7, 8, 9, 10, 11, 12, 13, 14, 15, 16] rfl) : SelR _ _ _)
     ·
      refine o_ef0W rfl rfl rfl rfl (ef_alloc zr89 rfl) (fun bn25n1 _ => ?_)
      exact d_weakT (hD9 (pr0n7n1, cr0n7n2, pr1n7n3, cr1n7n4, pr2n7n5, cr2n7n6, pr0n15n1, cr0n15n2, pr1n15n3, cr1n15n4, pr2n15n5, cr2n15n6, pr0n23n1, cr0n23n2, pr1n23n3, cr1n23n4, pr2n23n5, cr2n23n6, bn25n1)) (by kernel_rfl) ((.of rfl) : SubM _ _) .rfl .rfl ((.of [0, 1, 2, 3, 4, 5, 6, 7, 8, 9, 10, 11, 12, 13, 14, 15, 16] rfl) : SelR _ _ _)
     ·
      refine o_ef0W rfl rfl rfl rfl (ef_alloc zr89 rfl) (fun bn26n1 _ => ?_)
      exact d_weakT (hD10 (pr0n7n1, cr0n7n2, pr1n7n3, cr1n7n4, pr2n7n5, cr2n7n6, pr0n15n1, cr0n15n2, pr1n15n3, cr1n15n4, pr2n15n5, cr2n15n6, pr0n23n1, cr0n23n2, pr1n23n3, cr1n23n4, pr2n23n5, cr2n23n6, bn26n1)) (by kernel_rfl) ((.of rfl) : SubM _ _) .rfl .rfl ((.of [0, 1, 2, 3, 4, 5, 6, 7, 8, 9, 10, 11, 12, 13, 14, 15, 16] rfl) : SelR _ _ _)
    refine d_join (X := Option Addr × Nat × Option Addr × Nat × Option Addr × Nat × Option Addr × Nat × Option Addr × Nat × Option Addr × Nat × Nat) (k' := 6) (L' := #[true, true, true, true, true, true, true, true, true, true, true, true, true, true, true, true, true, true, true, true, true, true, true, false, true, false, false, false, false, false]) (fun (pr0n7n1, cr0n7n2, pr1n7n3, cr1n7n4, pr2n7n5, cr2n7n6, pr0n15n1, cr0n15n2, pr1n15n3, cr1n15n4, pr2n15n5, cr2n15n6, bn24n1) => ([(9, .pointer (some ⟨bn24n1, 0, none⟩)), (47, .agg #[.bool (decide ((qbx - 0) < 0)), .slice pr0n15n1 ((Big.digs ((qbx - 0).natAbs)).length) cr0n15n2, .bool (decide ((qby - 0) < 0)), .slice pr1n15n3 ((Big.digs ((qby - 0).natAbs)).length) cr1n15n4, .bool (decide ((qbz - 0) < 0)), .slice pr2n15n5 ((Big.digs ((qbz - 0).natAbs)).length) cr2n15n6]), (39, .agg #[.bool (decide ((qax - 0) < 0)), .slice pr0n7n1 ((Big.digs ((qax - 0).natAbs)).length) cr0n7n2, .bool (decide ((qay - 0) < 0)), .slice pr1n7n3 ((Big.digs ((qay - 0).natAbs)).length) cr1n7n4, .bool (decide ((qaz - 0) < 0)), .slice pr2n7n5 ((Big.digs ((qaz - 0).natAbs)).length) cr2n7n6]), (54, .agg #[.int .i64 qcx, .int .i64 qcy, .int .i64 qcz]), (53, .pointer (some ⟨b19, o20, none⟩)), (52, .int .i64 ((F.getD i (0, 0, 0)).2.2)), (51, .pointer (some ⟨b11, 2, none⟩)), (50, .slice pv nv cv), (49, .pointer (some ⟨b1, 0, none⟩)), (48, .agg #[.int .i64 0, .int .i64 0, .int .i64 0]), (46, .agg #[.int .i64 qbx, .int .i64 qby, .int .i64 qbz]), (45, .pointer (some ⟨b16, o17, none⟩)), (44, .int .i64 ((F.getD i (0, 0, 0)).2.1)), (43, .pointer (some ⟨b11, 1, none⟩)), (42, .slice pv nv cv), (41, .pointer (some ⟨b1, 0, none⟩)), (40, .agg #[.int .i64 0, .int .i64 0, .int .i64 0]), (38, .agg #[.int .i64 qax, .int .i64 qay, .int .i64 qaz]), (37, .pointer (some ⟨b13, o14, none⟩)), (36, .int .i64 ((F.getD i (0, 0, 0)).1)), (35, .pointer (some ⟨b11, 0, none⟩)), (34, .slice pv nv cv), (33, .pointer (some ⟨b1, 0, none⟩)), (32, .agg #[.int .i64 0, .int .i64 0, .int .i64 0]), (8, .pointer (some ⟨b12, 0, none⟩)), (31, .agg #[.int .i64 0, .int .i64 0, .int .i64 0]), (7, .pointer (some ⟨b11, 0, none⟩)), (30, .agg #[.int .i64 ((F.getD i (0, 0, 0)).1), .int .i64 ((F.getD i (0, 0, 0)).2.1), .int .i64 ((F.getD i (0, 0, 0)).2.2)]), (29, .pointer (some ⟨b8, o9, none⟩)), (28, .bool (decide (((i : Nat) : Int) < ((nf : Nat) : Int)))), (27, .int .i64 ((i : Nat) : Int)), (26, .int .i64 ((nf : Nat) : Int)), (25, .slice pf nf cf), (5, .pointer (some ⟨b6, 0, none⟩)), (3, .int .i64 0), (2, .pointer (some ⟨b2, 0, none⟩)), (1, .pointer (some ⟨b1, 0, none⟩))], [boxA bn24n1 89 [.bool false, .slice none 0 0, .bool false, .slice none 0 0, .bool false, .slice none 0 0]], [boxA b12 42 [.int .i64 0, .int .i64 0, .int .i64 0], boxA b11 44 [.int .i64 ((F.getD i (0, 0, 0)).1), .int .i64 ((F.getD i (0, 0, 0)).2.1), .int .i64 ((F.getD i (0, 0, 0)).2.2)], boxA b6 34 [.bool (decide (s < 0)), .slice p ((Big.digs ((s).natAbs)).length) c], mapA b23 (fun z : Int => .int .i64 z) (fun z : Int => .int .i64 z) (InK .i64) bm1, boxA b2 34 [.bool false, .slice none 0 0], boxA b1 25 [.slice pv nv cv, .slice pf nf cf]], [slF (rI .u32) pr0n15n1 cr0n15n2 (Big.digs ((qbx - 0).natAbs)), slF (rI .u32) pr1n15n3 cr1n15n4 (Big.digs ((qby - 0).natAbs)), slF (rI .u32) pr2n15n5 cr2n15n6 (Big.digs ((qbz - 0).natAbs)), slF (rI .u32) pr0n7n1 cr0n7n2 (Big.digs ((qax - 0).natAbs)), slF (rI .u32) pr1n7n3 cr1n7n4 (Big.digs ((qay - 0).natAbs)), slF (rI .u32) pr2n7n5 cr2n7n6 (Big.digs ((qaz - 0).natAbs)), atF b19 o20 [.int .i64 qcx, .int .i64 qcy, .int .i64 qcz], atF b16 o17 [.int .i64 qbx, .int .i64 qby, .int .i64 qbz], atF b13 o14 [.int .i64 qax, .int .i64 qay, .int .i64 qaz], atF b8 o9 [.int .i64 ((F.getD i (0, 0, 0)).1), .int .i64 ((F.getD i (0, 0, 0)).2.1), .int .i64 ((F.getD i (0, 0, 0)).2.2)], slF (rI .u32) p c (Big.digs ((s).natAbs)), slF (rI .u32) p24 c25 (Big.digs ((0 : Int).natAbs)), slF (rI3 .i64) pv cv V, slF (rI3 .i64) pf cf F])) ?_ (fun hD16 => ?_)
    ·
     rintro ⟨pr0n7n1, cr0n7n2, pr1n7n3, cr1n7n4, pr2n7n5, cr2n7n6, pr0n15n1, cr0n15n2, pr1n15n3, cr1n15n4, pr2n15n5, cr2n15n6, bn24n1⟩
     dsimp only
     refine d_three 23 25 26 (by kernel_rfl) ?_ ?_ ?_
     ·
      refine o_callf rfl rfl rfl rfl (.c rfl (.c rfl .n)) ce58 (con_from (ex := 0) (ey := 0) (ez := 0) (fx := qcx) (fy := qcy) (fz := qcz) (hbex := by omega) (hbey := by omega) (hbez := by omega) (hbfx := by omega) (hbfy := by omega) (hbfz := by omega)) (.n) ?_
      rintro ⟨pr0n23n1, cr0n23n2, pr1n23n3, cr1n23n4, pr2n23n5, cr2n23n6⟩ -
      dsimp only [List.append_eq, List.nil_append, List.cons_append]
      exact d_weakT (hD8 (pr0n7n1, cr0n7n2, pr1n7n3, cr1n7n4, pr2n7n5, cr2n7n6, pr0n15n1, cr0n15n2, pr1n15n3, cr1n15n4, pr2n15n5, cr2n15n6, pr0n23n1, cr0n23n2, pr1n23n3, cr1n23n4, pr2n23n5, cr2n23n6, bn24n1)) (by kernel_rfl) ((.of rfl) : SubM _ _) .rfl .rfl ((.of [0, 1, 2, 3, 4, 5, 6, 7, 8, 9, 10, 11, 12, 13, 14, 15, 16] rfl) : SelR _ _ _)
     ·
      refine o_ef0W rfl rfl rfl rfl (ef_alloc zr89 rfl) (fun bn25n1 _ => ?_)
      exact d_weakT (hD11 (pr0n7n1, cr0n7n2, pr1n7n3, cr1n7n4, pr2n7n5, cr2n7n6, pr0n15n1, cr0n15n2, pr1n15n3, cr1n15n4, pr2n15n5, cr2n15n6, bn24n1, bn25n1)) (by kernel_rfl) ((.of rfl) : SubM _ _) .rfl .rfl ((.of [0, 1, 2, 3, 4, 5, 6, 7, 8, 9, 10, 11, 12, 13] rfl) : SelR _ _ _)
     ·
      refine o_ef0W rfl rfl rfl rfl (ef_alloc zr89 rfl) (fun bn26n1 _ => ?_)
      exact d_weakT (hD12 (pr0n7n1, cr0n7n2, pr1n7n3, cr1n7n4, pr2n7n5, cr2n7n6, pr0n15n1, cr0n15n2, pr1n15n3, cr1n15n4, pr2n15n5, cr2n15n6, bn24n1, bn26n1)) (by kernel_rfl) ((.of rfl) : SubM _ _) .rfl .rfl ((.of [0, 1, 2, 3, 4, 5, 6, 7, 8, 9, 10, 11, 12, 13] rfl) : SelR _ _ _)
    refine d_join (X := Option Addr × Nat × Option Addr × Nat × Option Addr × Nat × Option Addr × Nat × Option Addr × Nat × Option Addr × Nat × Nat) (k' := 6) (L' := #[true, true, true, true, true, true, true, true, true, true, true, true, true, true, true, true, true, true, true, true, true, true, true, false, false, true, false, false, false, false]) (fun (pr0n7n1, cr0n7n2, pr1n7n3, cr1n7n4, pr2n7n5, cr2n7n6, pr0n15n1, cr0n15n2, pr1n15n3, cr1n15n4, pr2n15n5, cr2n15n6, bn25n1) => ([(10, .pointer (some ⟨bn25n1, 0, none⟩)), (47, .agg #[.bool (decide ((qbx - 0) < 0)), .slice pr0n15n1 ((Big.digs ((qbx - 0).natAbs)).length) cr0n15n2, .bool (decide ((qby - 0) < 0)), .slice pr1n15n3 ((Big.digs ((qby - 0).natAbs)).length) cr1n15n4, .bool (decide ((qbz - 0) < 0)), .slice pr2n15n5 ((Big.digs ((qbz - 0).natAbs)).length) cr2n15n6]), (39, .agg #[.bool (decide ((qax - 0) < 0)), .slice pr0n7n1 ((Big.digs ((qax - 0).natAbs)).length) cr0n7n2, .bool (decide ((qay - 0) < 0)), .slice pr1n7n3 ((Big.digs ((qay - 0).natAbs)).length) cr1n7n4, .bool (decide ((qaz - 0) < 0)), .slice pr2n7n5 ((Big.digs ((qaz - 0).natAbs)).length) cr2n7n6]), (54, .agg #[.int .i64 qcx, .int .i64 qcy, .int .i64 qcz]), (53, .pointer (some ⟨b19, o20, none⟩)), (52, .int .i64 ((F.getD i (0, 0, 0)).2.2)), (51, .pointer (some ⟨b11, 2, none⟩)), (50, .slice pv nv cv), (49, .pointer (some ⟨b1, 0, none⟩)), (48, .agg #[.int .i64 0, .int .i64 0, .int .i64 0]), (46, .agg #[.int .i64 qbx, .int .i64 qby, .int .i64 qbz]), (45, .pointer (some ⟨b16, o17, none⟩)), (44, .int .i64 ((F.getD i (0, 0, 0)).2.1)), (43, .pointer (some ⟨b11, 1, none⟩)), (42, .slice pv nv cv), (41, .pointer (some ⟨b1, 0, none⟩)), (40, .agg #[.int .i64 0, .int .i64 0, .int .i64 0]), (38, .agg #[.int .i64 qax, .int .i64 qay, .int .i64 qaz]), (37, .pointer (some ⟨b13, o14, none⟩)), (36, .int .i64 ((F.getD i (0, 0, 0)).1)), (35, .pointer (some ⟨b11, 0, none⟩)), (34, .slice pv nv cv), (33, .pointer (some ⟨b1, 0, none⟩)), (32, .agg #[.int .i64 0, .int .i64 0, .int .i64 0]), (8, .pointer (some ⟨b12, 0, none⟩)), (31, .agg #[.int .i64 0, .int .i64 0, .int .i64 0]), (7, .pointer (some ⟨b11, 0, none⟩)), (30, .agg #[.int .i64 ((F.getD i (0, 0, 0)).1), .int .i64 ((F.getD i (0, 0, 0)).2.1), .int .i64 ((F.getD i (0, 0, 0)).2.2)]), (29, .pointer (some ⟨b8, o9, none⟩)), (28, .bool (decide (((i : Nat) : Int) < ((nf : Nat) : Int)))), (27, .int .i64 ((i : Nat) : Int)), (26, .int .i64 ((nf : Nat) : Int)), (25, .slice pf nf cf), (5, .pointer (some ⟨b6, 0, none⟩)), (3, .int .i64 0), (2, .pointer (some ⟨b2, 0, none⟩)), (1, .pointer (some ⟨b1, 0, none⟩))], [boxA bn25n1 89 [.bool false, .slice none 0 0, .bool false, .slice none 0 0, .bool false, .slice none 0 0]], [boxA b12 42 [.int .i64 0, .int .i64 0, .int .i64 0], boxA b11 44 [.int .i64 ((F.getD i (0, 0, 0)).1), .int .i64 ((F.getD i (0, 0, 0)).2.1), .int .i64 ((F.getD i (0, 0, 0)).2.2)], boxA b6 34 [.bool (decide (s < 0)), .slice p ((Big.digs ((s).natAbs)).length) c], mapA b23 (fun z : Int => .int .i64 z) (fun z : Int => .int .i64 z) (InK .i64) bm1, boxA b2 34 [.bool false, .slice none 0 0], boxA b1 25 [.slice pv nv cv, .slice pf nf cf]], [slF (rI .u32) pr0n15n1 cr0n15n2 (Big.digs ((qbx - 0).natAbs)), slF (rI .u32) pr1n15n3 cr1n15n4 (Big.digs ((qby - 0).natAbs)), slF (rI .u32) pr2n15n5 cr2n15n6 (Big.digs ((qbz - 0).natAbs)), slF (rI .u32) pr0n7n1 cr0n7n2 (Big.digs ((qax - 0).natAbs)), slF (rI .u32) pr1n7n3 cr1n7n4 (Big.digs ((qay - 0).natAbs)), slF (rI .u32) pr2n7n5 cr2n7n6 (Big.digs ((qaz - 0).natAbs)), atF b19 o20 [.int .i64 qcx, .int .i64 qcy, .int .i64 qcz], atF b16 o17 [.int .i64 qbx, .int .i64 qby, .int .i64 qbz], atF b13 o14 [.int .i64 qax, .int .i64 qay, .int .i64 qaz], atF b8 o9 [.int .i64 ((F.getD i (0, 0, 0)).1), .int .i64 ((F.getD i (0, 0, 0)).2.1), .int .i64 ((F.getD i (0, 0, 0)).2.2)], slF (rI .u32) p c (Big.digs ((s).natAbs)), slF (rI .u32) p24 c25 (Big.digs ((0 : Int).natAbs)), slF (rI3 .i64) pv cv V, slF (rI3 .i64) pf cf F])) ?_ (fun hD17 => ?_)
    ·
     rintro ⟨pr0n7n1, cr0n7n2, pr1n7n3, cr1n7n4, pr2n7n5, cr2n7n6, pr0n15n1, cr0n15n2, pr1n15n3, cr1n15n4, pr2n15n5, cr2n15n6, bn25n1⟩
     dsimp only
     refine d_three 23 24 26 (by kernel_rfl) ?_ ?_ ?_
     ·
      refine o_callf rfl rfl rfl rfl (.c rfl (.c rfl .n)) ce58 (con_from (ex := 0) (ey := 0) (ez := 0) (fx := qcx) (fy := qcy) (fz := qcz) (hbex := by omega) (hbey := by omega) (hbez := by omega) (hbfx := by omega) (hbfy := by omega) (hbfz := by omega)) (.n) ?_
      rintro ⟨pr0n23n1, cr0n23n2, pr1n23n3, cr1n23n4, pr2n23n5, cr2n23n6⟩ -
      dsimp only [List.append_eq, List.nil_append, List.cons_append]
      exact d_weakT (hD9 (pr0n7n1, cr0n7n2, pr1n7n3, cr1n7n4, pr2n7n5, cr2n7n6, pr0n15n1, cr0n15n2, pr1n15n3, cr1n15n4, pr2n15n5, cr2n15n6, pr0n23n1, cr0n23n2, pr1n23n3, cr1n23n4, pr2n23n5, cr2n23n6, bn25n1)) (by kernel_rfl) ((.of rfl) : SubM _ _) .rfl .rfl ((.of [0, 1, 2, 3, 4, 5, 6, 7, 8, 9, 10, 11, 12, 13, 14, 15, 16] rfl) : SelR _ _ _)
     ·
      refine o_ef0W rfl rfl rfl rfl (ef_alloc zr89 rfl) (fun bn24n1 _ => ?_)
      exact d_weakT (hD11 (pr0n7n1, cr0n7n2, pr1n7n3, cr1n7n4, pr2n7n5, cr2n7n6, pr0n15n1, cr0n15n2, pr1n15n3, cr1n15n4, pr2n15n5, cr2n15n6, bn24n1, bn25n1)) (by kernel_rfl) ((.of rfl) : SubM _ _) (perm_c 1 rfl (perm_c 0 rfl .nil)) .rfl ((.of [0, 1, 2, 3, 4, 5, 6, 7, 8, 9, 10, 11, 12, 13] rfl) : SelR _ _ _)
     ·
      refine o_ef0W rfl rfl rfl rfl (ef_alloc zr89 rfl) (fun bn26n1 _ => ?_)
      exact d_weakT (hD13 (pr0n7n1, cr0n7n2, pr1n7n3, cr1n7n4, pr2n7n5, cr2n7n6, pr0n15n1, cr0n15n2, pr1n15n3, cr1n15n4, pr2n15n5, cr2n15n6, bn25n1, bn26n1)) (by kernel_rfl) ((.of rfl) : SubM _ _) .rfl .rfl ((.of [0, 1, 2, 3, 4, 5, 6, 7, 8, 9, 10, 11, 12, 13] rfl) : SelR _ _ _)
    refine d_join (X := Option Addr × Nat × Option Addr × Nat × Option Addr × Nat × Option Addr × Nat × Option Addr × Nat × Option Addr × Nat × Nat) (k' := 6) (L' := #[true, true, true, true, true, true, true, true, true, true, true, true, true, true, true, true, true, true, true, true, true, true, true, false, false, false, true, false, false, false]) (fun (pr0n7n1, cr0n7n2, pr1n7n3, cr1n7n4, pr2n7n5, cr2n7n6, pr0n15n1, cr0n15n2, pr1n15n3, cr1n15n4, pr2n15n5, cr2n15n6, bn26n1) => ([(11, .pointer (some ⟨bn26n1, 0, none⟩)), (47, .agg #[.bool (decide ((qbx - 0) < 0)), .slice pr0n15n1 ((Big.digs ((qbx - 0).natAbs)).length) cr0n15n2, .bool (decide ((qby - 0) < 0)), .slice pr1n15n3 ((Big.digs ((qby - 0).natAbs)).length) cr1n15n4, .bool (decide ((qbz - 0) < 0)), .slice pr2n15n5 ((Big.digs ((qbz - 0).natAbs)).length) cr2n15n6]), (39, .agg #[.bool (decide ((qax - 0) < 0)), .slice pr0n7n1 ((Big.digs ((qax - 0).natAbs)).length) cr0n7n2, .bool (decide ((qay - 0) < 0)), .slice pr1n7n3 ((Big.digs ((qay - 0).natAbs)).length) cr1n7n4, .bool (decide ((qaz - 0) < 0)), .slice pr2n7n5 ((Big.digs ((qaz - 0).natAbs)).length) cr2n7n6]), (54, .agg #[.int .i64 qcx, .int .i64 qcy, .int .i64 qcz]), (53, .pointer (some ⟨b19, o20, none⟩)), (52, .int .i64 ((F.getD i (0, 0, 0)).2.2)), (51, .pointer (some ⟨b11, 2, none⟩)), (50, .slice pv nv cv), (49, .pointer (some ⟨b1, 0, none⟩)), (48, .agg #[.int .i64 0, .int .i64 0, .int .i64 0]), (46, .agg #[.int .i64 qbx, .int .i64 qby, .int .i64 qbz]), (45, .pointer (some ⟨b16, o17, none⟩)), (44, .int .i64 ((F.getD i (0, 0, 0)).2.1)), (43, .pointer (some ⟨b11, 1, none⟩)), (42, .slice pv nv cv), (41, .pointer (some ⟨b1, 0, none⟩)), (40, .agg #[.int .i64 0, .int .i64 0, .int .i64 0]), (38, .agg #[.int .i64 qax, .int .i64 qay, .int .i64 qaz]), (37, .pointer (some ⟨b13, o14, none⟩)), (36, .int .i64 ((F.getD i (0, 0, 0)).1)), (35, .pointer (some ⟨b11, 0, none⟩)), (34, .slice pv nv cv), (33, .pointer (some ⟨b1, 0, none⟩)), (32, .agg #[.int .i64 0, .int .i64 0, .int .i64 0]), (8, .pointer (some ⟨b12, 0, none⟩)), (31, .agg #[.int .i64 0, .int .i64 0, .int .i64 0]), (7, .pointer (some ⟨b11, 0, none⟩)), (30, .agg #[.int .i64 ((F.getD i (0, 0, 0)).1), .int .i64 ((F.getD i (0, 0, 0)).2.1), .int .i64 ((F.getD i (0, 0, 0)).2.2)]), (29, .pointer (some ⟨b8, o9, none⟩)), (28, .bool (decide (((i : Nat) : Int) < ((nf : Nat) : Int)))), (27, .int .i64 ((i : Nat) : Int)), (26, .int .i64 ((nf : Nat) : Int)), (25, .slice pf nf cf), (5, .pointer (some ⟨b6, 0, none⟩)), (3, .int .i64 0), (2, .pointer (some ⟨b2, 0, none⟩)), (1, .pointer (some ⟨b1, 0, none⟩))], [boxA bn26n1 89 [.bool false, .slice none 0 0, .bool false, .slice none 0 0, .bool false, .slice none 0 0]], [boxA b12 42 [.int .i64 0, .int .i64 0, .int .i64 0], boxA b11 44 [.int .i64 ((F.getD i (0, 0, 0)).1), .int .i64 ((F.getD i (0, 0, 0)).2.1), .int .i64 ((F.getD i (0, 0, 0)).2.2)], boxA b6 34 [.bool (decide (s < 0)), .slice p ((Big.digs ((s).natAbs)).length) c], mapA b23 (fun z : Int => .int .i64 z) (fun z : Int => .int .i64 z) (InK .i64) bm1, boxA b2 34 [.bool false, .slice none 0 0], boxA b1 25 [.slice pv nv cv, .slice pf nf cf]], [slF (rI .u32) pr0n15n1 cr0n15n2 (Big.digs ((qbx - 0).natAbs)), slF (rI .u32) pr1n15n3 cr1n15n4 (Big.digs ((qby - 0).natAbs)), slF (rI .u32) pr2n15n5 cr2n15n6 (Big.digs ((qbz - 0).natAbs)), slF (rI .u32) pr0n7n1 cr0n7n2 (Big.digs ((qax - 0).natAbs)), slF (rI .u32) pr1n7n3 cr1n7n4 (Big.digs ((qay - 0).natAbs)), slF (rI .u32) pr2n7n5 cr2n7n6 (Big.digs ((qaz - 0).natAbs)), atF b19 o20 [.int .i64 qcx, .int .i64 qcy, .int .i64 qcz], atF b16 o17 [.int .i64 qbx, .int .i64 qby, .int .i64 qbz], atF b13 o14 [.int .i64 qax, .int .i64 qay, .int .i64 qaz], atF b8 o9 [.int .i64 ((F.getD i (0, 0, 0)).1), .int .i64 ((F.getD i (0, 0, 0)).2.1), .int .i64 ((F.getD i (0, 0, 0)).2.2)], slF (rI .u32) p c (Big.digs ((s).natAbs)), slF (rI .u32) p24 c25 (Big.digs ((0 : Int).natAbs)), slF (rI3 .i64) pv cv V, slF (rI3 .i64) pf cf F])) ?_ (fun hD18 => ?_)
    ·
     rintro ⟨pr0n7n1, cr0n7n2, pr1n7n3, cr1n7n4, pr2n7n5, cr2n7n6, pr0n15n1, cr0n15n2, pr1n15n3, cr1n15n4, pr2n15n5, cr2n15n6, bn26n1⟩
     dsimp only
     refine d_three 23 24 25 (by kernel_rfl) ?_ ?_ ?_
     ·
      refine o_callf rfl rfl rfl rfl (.c rfl (.c rfl .n)) ce58 (con_from (ex := 0) (ey := 0) (ez := 0) (fx := qcx) (fy := qcy) (fz := qcz) (hbex := by omega) (hbey := by omega) (hbez := by omega) (hbfx := by omega) (hbfy := by omega) (hbfz := by omega)) (.n) ?_
      rintro ⟨pr0n23n1, cr0n23n2, pr1n23n3, cr1n23n4, pr2n23n5, cr2n23n6⟩ -
      dsimp only [List.append_eq, List.nil_append, List.cons_append]
      exact d_weakT (hD10 (pr0n7n1, cr0n7n2, pr1n7n3, cr1n7n4, pr2n7n5, cr2n7n6, pr0n15n1, cr0n15n2, pr1n15n3, cr1n15n4, pr2n15n5, cr2n15n6, pr0n23n1, cr0n23n2, pr1n23n3, cr1n23n4, pr2n23n5, cr2n23n6, bn26n1)) (by kernel_rfl) ((.of rfl) : SubM _ _) .rfl .rfl ((.of [0, 1, 2, 3, 4, 5, 6, 7, 8, 9, 10, 11, 12, 13, 14, 15, 16] rfl) : SelR _ _ _)
     ·
      refine o_ef0W rfl rfl rfl rfl (ef_alloc zr89 rfl) (fun bn24n1 _ => ?_)
      exact d_weakT (hD12 (pr0n7n1, cr0n7n2, pr1n7n3, cr1n7n4, pr2n7n5, cr2n7n6, pr0n15n1, cr0n15n2, pr1n15n3, cr1n15n4, pr2n15n5, cr2n15n6, bn24n1, bn26n1)) (by kernel_rfl) ((.of rfl) : SubM _ _) (perm_c 1 rfl (perm_c 0 rfl .nil)) .rfl ((.of [0, 1, 2, 3, 4, 5, 6, 7, 8, 9, 10, 11, 12, 13] rfl) : SelR _ _ _)
     ·
      refine o_ef0W rfl rfl rfl rfl (ef_alloc zr89 rfl) (fun bn25n1 _ => ?_)
      exact d_weakT (hD13 (pr0n7n1, cr0n7n2, pr1n7n3, cr1n7n4, pr2n7n5, cr2n7n6, pr0n15n1, cr0n15n2, pr1n15n3, cr1n15n4, pr2n15n5, cr2n15n6, bn25n1, bn26n1)) (by kernel_rfl) ((.of rfl) : SubM _ _) (perm_c 1 rfl (perm_c 0 rfl .nil)) .rfl ((.of [0, 1, 2, 3, 4, 5, 6, 7, 8, 9, 10, 11, 12, 13] rfl) : SelR _ _ _)
    refine d_join (X := Option Addr × Nat × Option Addr × Nat × Option Addr × Nat × Nat × Nat) (k' := 6) (L' := #[true, true, true, true, true, true, true, true, true, true, true, true, true, true, true, false, true, true, true, true, true, true, true, false, true, true, false, false, false, false]) (fun (pr0n7n1, cr0n7n2, pr1n7n3, cr1n7n4, pr2n7n5, cr2n7n6, bn24n1, bn25n1) => ([(10, .pointer (some ⟨bn25n1, 0, none⟩)), (9, .pointer (some ⟨bn24n1, 0, none⟩)), (39, .agg #[.bool (decide ((qax - 0) < 0)), .slice pr0n7n1 ((Big.digs ((qax - 0).natAbs)).length) cr0n7n2, .bool (decide ((qay - 0) < 0)), .slice pr1n7n3 ((Big.digs ((qay - 0).natAbs)).length) cr1n7n4, .bool (decide ((qaz - 0) < 0)), .slice pr2n7n5 ((Big.digs ((qaz - 0).natAbs)).length) cr2n7n6]), (54, .agg #[.int .i64 qcx, .int .i64 qcy, .int .i64 qcz]), (53, .pointer (some ⟨b19, o20, none⟩)), (52, .int .i64 ((F.getD i (0, 0, 0)).2.2)), (51, .pointer (some ⟨b11, 2, none⟩)), (50, .slice pv nv cv), (49, .pointer (some ⟨b1, 0, none⟩)), (48, .agg #[.int .i64 0, .int .i64 0, .int .i64 0]), (46, .agg #[.int .i64 qbx, .int .i64 qby, .int .i64 qbz]), (45, .pointer (some ⟨b16, o17, none⟩)), (44, .int .i64 ((F.getD i (0, 0, 0)).2.1)), (43, .pointer (some ⟨b11, 1, none⟩)), (42, .slice pv nv cv), (41, .pointer (some ⟨b1, 0, none⟩)), (40, .agg #[.int .i64 0, .int .i64 0, .int .i64 0]), (38, .agg #[.int .i64 qax, .int .i64 qay, .int .i64 qaz]), (37, .pointer (some ⟨b13, o14, none⟩)), (36, .int .i64 ((F.getD i (0, 0, 0)).1)), (35, .pointer (some ⟨b11, 0, none⟩)), (34, .slice pv nv cv), (33, .pointer (some ⟨b1, 0, none⟩)), (32, .agg #[.int .i64 0, .int .i64 0, .int .i64 0]), (8, .pointer (some ⟨b12, 0, none⟩)), (31, .agg #[.int .i64 0, .int .i64 0, .int .i64 0]), (7, .pointer (some ⟨b11, 0, none⟩)), (30, .agg #[.int .i64 ((F.getD i (0, 0, 0)).1), .int .i64 ((F.getD i (0, 0, 0)).2.1), .int .i64 ((F.getD i (0, 0, 0)).2.2)]), (29, .pointer (some ⟨b8, o9, none⟩)), (28, .bool (decide (((i : Nat) : Int) < ((nf : Nat) : Int)))), (27, .int .i64 ((i : Nat) : Int)), (26, .int .i64 ((nf : Nat) : Int)), (25, .slice pf nf cf), (5, .pointer (some ⟨b6, 0, none⟩)), (3, .int .i64 0), (2, .pointer (some ⟨b2, 0, none⟩)), (1, .pointer (some ⟨b1, 0, none⟩))], [boxA bn25n1 89 [.bool false, .slice none 0 0, .bool false, .slice none 0 0, .bool false, .slice none 0 0], boxA bn24n1 89 [.bool false, .slice none 0 0, .bool false, .slice none 0 0, .bool false, .slice none 0 0]], [boxA b12 42 [.int .i64 0, .int .i64 0, .int .i64 0], boxA b11 44 [.int .i64 ((F.getD i (0, 0, 0)).1), .int .i64 ((F.getD i (0, 0, 0)).2.1), .int .i64 ((F.getD i (0, 0, 0)).2.2)], boxA b6 34 [.bool (decide (s < 0)), .slice p ((Big.digs ((s).natAbs)).length) c], mapA b23 (fun z : Int => .int .i64 z) (fun z : Int => .int .i64 z) (InK .i64) bm1, boxA b2 34 [.bool false, .slice none 0 0], boxA b1 25 [.slice pv nv cv, .slice pf nf cf]], [slF (rI .u32) pr0n7n1 cr0n7n2 (Big.digs ((qax - 0).natAbs)), slF (rI .u32) pr1n7n3 cr1n7n4 (Big.digs ((qay - 0).natAbs)), slF (rI .u32) pr2n7n5 cr2n7n6 (Big.digs ((qaz - 0).natAbs)), atF b19 o20 [.int .i64 qcx, .int .i64 qcy, .int .i64 qcz], atF b16 o17 [.int .i64 qbx, .int .i64 qby, .int .i64 qbz], atF b13 o14 [.int .i64 qax, .int .i64 qay, .int .i64 qaz], atF b8 o9 [.int .i64 ((F.getD i (0, 0, 0)).1), .int .i64 ((F.getD i (0, 0, 0)).2.1), .int .i64 ((F.getD i (0, 0, 0)).2.2)], slF (rI .u32) p c (Big.digs ((s).natAbs)), slF (rI .u32) p24 c25 (Big.digs ((0 : Int).natAbs)), slF (rI3 .i64) pv cv V, slF (rI3 .i64) pf cf F])) ?_ (fun hD19 => ?_)
    ·
     rintro ⟨pr0n7n1, cr0n7n2, pr1n7n3, cr1n7n4, pr2n7n5, cr2n7n6, bn24n1, bn25n1⟩
     dsimp only
     refine d_two 15 26 (by kernel_rfl) ?_ ?_
     ·
      refine o_callf rfl rfl rfl rfl (.c rfl (.c rfl .n)) ce58 (con_from (ex := 0) (ey := 0) (ez := 0) (fx := qbx) (fy := qby) (fz := qbz) (hbex := by omega) (hbey := by omega) (hbez := by omega) (hbfx := by omega) (hbfy := by omega) (hbfz := by omega)) (.n) ?_
      rintro ⟨pr0n15n1, cr0n15n2, pr1n15n3, cr1n15n4, pr2n15n5, cr2n15n6⟩ -
      dsimp only [List.append_eq, List.nil_append, List.cons_append]
      exact d_weakT (hD11 (pr0n7n1, cr0n7n2, pr1n7n3, cr1n7n4, pr2n7n5, cr2n7n6, pr0n15n1, cr0n15n2, pr1n15n3, cr1n15n4, pr2n15n5, cr2n15n6, bn24n1, bn25n1)) (by kernel_rfl) ((.of rfl) : SubM _ _) .rfl .rfl ((.of [0, 1, 2, 3, 4, 5, 6, 7, 8, 9, 10, 11, 12, 13] rfl) : SelR _ _ _)
     ·
      refine o_ef0W rfl rfl rfl rfl (ef_alloc zr89 rfl) (fun bn26n1 _ => ?_)
      exact d_weakT (hD14 (pr0n7n1, cr0n7n2, pr1n7n3, cr1n7n4, pr2n7n5, cr2n7n6, bn24n1, bn25n1, bn26n1)) (by kernel_rfl) ((.of rfl) : SubM _ _) .rfl .rfl ((.of [0, 1, 2, 3, 4, 5, 6, 7, 8, 9, 10] rfl) : SelR _ _ _)
    refine d_join (X := Option Addr × Nat × Option Addr × Nat × Option Addr × Nat × Nat × Nat) (k' := 6) (L' := #[true, true, true, true, true, true, true, true, true, true, true, true, true, true, true, false, true, true, true, true, true, true, true, false, true, false, true, false, false, false]) (fun (pr0n7n1, cr0n7n2, pr1n7n3, cr1n7n4, pr2n7n5, cr2n7n6, bn24n1, bn26n1) => ([(11, .pointer (some ⟨bn26n1, 0, none⟩)), (9, .pointer (some ⟨bn24n1, 0, none⟩)), (39, .agg #[.bool (decide ((qax - 0) < 0)), .slice pr0n7n1 ((Big.digs ((qax - 0).natAbs)).length) cr0n7n2, .bool (decide ((qay - 0) < 0)), .slice pr1n7n3 ((Big.digs ((qay - 0).natAbs)).length) cr1n7n4, .bool (decide ((qaz - 0) < 0)), .slice pr2n7n5 ((Big.digs ((qaz - 0).natAbs)).length) cr2n7n6]), (54, .agg #[.int .i64 qcx, .int .i64 qcy, .int .i64 qcz]), (53, .pointer (some ⟨b19, o20, none⟩)), (52, .int .i64 ((F.getD i (0, 0, 0)).2.2)), (51, .pointer (some ⟨b11, 2, none⟩)), (50, .slice pv nv cv), (49, .pointer (some ⟨b1, 0, none⟩)), (48, .agg #[.int .i64 0, .int .i64 0, .int .i64 0]), (46, .agg #[.int .i64 qbx, .int .i64 qby, .int .i64 qbz]), (45, .pointer (some ⟨b16, o17, none⟩)), (44, .int .i64 ((F.getD i (0, 0, 0)).2.1)), (43, .pointer (some ⟨b11, 1, none⟩)), (42, .slice pv nv cv), (41, .pointer (some ⟨b1, 0, none⟩)), (40, .agg #[.int .i64 0, .int .i64 0, .int .i64 0]), (38, .agg #[.int .i64 qax, .int .i64 qay, .int .i64 qaz]), (37, .pointer (some ⟨b13, o14, none⟩)), (36, .int .i64 ((F.getD i (0, 0, 0)).1)), (35, .pointer (some ⟨b11, 0, none⟩)), (34, .slice pv nv cv), (33, .pointer (some ⟨b1, 0, none⟩)), (32, .agg #[.int .i64 0, .int .i64 0, .int .i64 0]), (8, .pointer (some ⟨b12, 0, none⟩)), (31, .agg #[.int .i64 0, .int .i64 0, .int .i64 0]), (7, .pointer (some ⟨b11, 0, none⟩)), (30, .agg #[.int .i64 ((F.getD i (0, 0, 0)).1), .int .i64 ((F.getD i (0, 0, 0)).2.1), .int .i64 ((F.getD i (0, 0, 0)).2.2)]), (29, .pointer (some ⟨b8, o9, none⟩)), (28, .bool (decide (((i : Nat) : Int) < ((nf : Nat) : Int)))), (27, .int .i64 ((i : Nat) : Int)), (26, .int .i64 ((nf : Nat) : Int)), (25, .slice pf nf cf), (5, .pointer (some ⟨b6, 0, none⟩)), (3, .int .i64 0), (2, .pointer (some ⟨b2, 0, none⟩)), (1, .pointer (some ⟨b1, 0, none⟩))], [boxA bn26n1 89 [.bool false, .slice none 0 0, .bool false, .slice none 0 0, .bool false, .slice none 0 0], boxA bn24n1 89 [.bool false, .slice none 0 0, .bool false, .slice none 0 0, .bool false, .slice none 0 0]], [boxA b12 42 [.int .i64 0, .int .i64 0, .int .i64 0], boxA b11 44 [.int .i64 ((F.getD i (0, 0, 0)).1), .int .i64 ((F.getD i (0, 0, 0)).2.1), .int .i64 ((F.getD i (0, 0, 0)).2.2)], boxA b6 34 [.bool (decide (s < 0)), .slice p ((Big.digs ((s).natAbs)).length) c], mapA b23 (fun z : Int => .int .i64 z) (fun z : Int => .int .i64 z) (InK .i64) bm1, boxA b2 34 [.bool false, .slice none 0 0], boxA b1 25 [.slice pv nv cv, .slice pf nf cf]], [slF (rI .u32) pr0n7n1 cr0n7n2 (Big.digs ((qax - 0).natAbs)), slF (rI .u32) pr1n7n3 cr1n7n4 (Big.digs ((qay - 0).natAbs)), slF (rI .u32) pr2n7n5 cr2n7n6 (Big.digs ((qaz - 0).natAbs)), atF b19 o20 [.int .i64 qcx, .int .i64 qcy, .int .i64 qcz], atF b16 o17 [.int .i64 qbx, .int .i64 qby, .int .i64 qbz], atF b13 o14 [.int .i64 qax, .int .i64 qay, .int .i64 qaz], atF b8 o9 [.int .i64 ((F.getD i (0, 0, 0)).1), .int .i64 ((F.getD i (0, 0, 0)).2.1), .int .i64 ((F.getD i (0, 0, 0)).2.2)], slF (rI .u32) p c (Big.digs ((s).natAbs)), slF (rI .u32) p24 c25 (Big.digs ((0 : Int).natAbs)), slF (rI3 .i64) pv cv V, slF (rI3 .i64) pf cf F])) ?_ (fun hD20 => ?_)
    ·
     rintro ⟨pr0n7n1, cr0n7n2, pr1n7n3, cr1n7n4, pr2n7n5, cr2n7n6, bn24n1, bn26n1⟩
     dsimp only
     refine d_two 15 25 (by kernel_rfl) ?_ ?_
     ·
      refine o_callf rfl rfl rfl rfl (.c rfl (.c rfl .n)) ce58 (con_from (ex := 0) (ey := 0) (ez := 0) (fx := qbx) (fy := qby) (fz := qbz) (hbex := by omega) (hbey := by omega) (hbez := by omega) (hbfx := by omega) (hbfy := by omega) (hbfz := by omega)) (.n) ?_
      rintro ⟨pr0n15n1, cr0n15n2, pr1n15n3, cr1n15n4, pr2n15n5, cr2n15n6⟩ -
      dsimp only [List.append_eq, List.nil_append, List.cons_append]
      exact d_weakT (hD12 (pr0n7n1, cr0n7n2, pr1n7n3, cr1n7n4, pr2n7n5, cr2n7n6, pr0n15n1, cr0n15n2, pr1n15n3, cr1n15n4, pr2n15n5, cr2n15n6, bn24n1, bn26n1)) (by kernel_rfl) ((.of rfl) : SubM _ _) .rfl .rfl ((.of [0, 1, 2, 3, 4, 5, 6, 7, 8, 9, 10, 11, 12, 13] rfl) : SelR _ _ _)
     ·
      refine o_ef0W rfl rfl rfl rfl (ef_alloc zr89 rfl) (fun bn25n1 _ => ?_)
      exact d_weakT (hD14 (pr0n7n1, cr0n7n2, pr1n7n3, cr1n7n4, pr2n7n5, cr2n7n6, bn24n1, bn25n1, bn26n1)) (by kernel_rfl) ((.of rfl) : SubM _ _) (perm_c 1 rfl (perm_c 0 rfl (perm_c 0 rfl .nil))) .rfl ((.of [0, 1, 2, 3, 4, 5, 6, 7, 8, 9, 10] rfl) : SelR _ _ _)
    refine d_join (X := Option Addr × Nat × Option Addr × Nat × Option Addr × Nat × Nat × Nat) (k' := 6) (L' := #[true, true, true, true, true, true, true, true, true, true, true, true, true, true, true, false, true, true, true, true, true, true, true, false, false, true, true, false, false, false]) (fun (pr0n7n1, cr0n7n2, pr1n7n3, cr1n7n4, pr2n7n5, cr2n7n6, bn25n1, bn26n1) => ([(11, .pointer (some ⟨bn26n1, 0, none⟩)), (10, .pointer (some ⟨bn25n1, 0, none⟩)), (39, .agg #[.bool (decide ((qax - 0) < 0)), .slice pr0n7n1 ((Big.digs ((qax - 0).natAbs)).length) cr0n7n2, .bool (decide ((qay - 0) < 0)), .slice pr1n7n3 ((Big.digs ((qay - 0).natAbs)).length) cr1n7n4, .bool (decide ((qaz - 0) < 0)), .slice pr2n7n5 ((Big.digs ((qaz - 0).natAbs)).length) cr2n7n6]), (54, .agg #[.int .i64 qcx, .int .i64 qcy, .int .i64 qcz]), (53, .pointer (some ⟨b19, o20, none⟩)), (52, .int .i64 ((F.getD i (0, 0, 0)).2.2)), (51, .pointer (some ⟨b11, 2, none⟩)), (50, .slice pv nv cv), (49, .pointer (some ⟨b1, 0, none⟩)), (48, .agg #[.int .i64 0, .int .i64 0, .int .i64 0]), (46, .agg #[.int .i64 qbx, .int .i64 qby, .int .i64 qbz]), (45, .pointer (some ⟨b16, o17, none⟩)), (44, .int .i64 ((F.getD i (0, 0, 0)).2.1)), (43, .pointer (some ⟨b11, 1, none⟩)), (42, .slice pv nv cv), (41, .pointer (some ⟨b1, 0, none⟩)), (40, .agg #[.int .i64 0, .int .i64 0, .int .i64 0]), (38, .agg #[.int .i64 qax, .int .i64 qay, .int .i64 qaz]), (37, .pointer (some ⟨b13, o14, none⟩)), (36, .int .i64 ((F.getD i (0, 0, 0)).1)), (35, .pointer (some ⟨b11, 0, none⟩)), (34, .slice pv nv cv), (33, .pointer (some ⟨b1, 0, none⟩)), (32, .agg #[.int .i64 0, .int .i64 0, .int .i64 0]), (8, .pointer (some ⟨b12, 0, none⟩)), (31, .agg #[.int .i64 0, .int .i64 0, .int .i64 0]), (7, .pointer (some ⟨b11, 0, none⟩)), (30, .agg #[.int .i64 ((F.getD i (0, 0, 0)).1), .int .i64 ((F.getD i (0, 0, 0)).2.1), .int .i64 ((F.getD i (0, 0, 0)).2.2)]), (29, .pointer (some ⟨b8, o9, none⟩)), (28, .bool (decide (((i : Nat) : Int) < ((nf : Nat) : Int)))), (27, .int .i64 ((i : Nat) : Int)), (26, .int .i64 ((nf : Nat) : Int)), (25, .slice pf nf cf), (5, .pointer (some ⟨b6, 0, none⟩)), (3, .int .i64 0), (2, .pointer (some ⟨b2, 0, none⟩)), (1, .pointer (some ⟨b1, 0, none⟩))], [boxA bn26n1 89 [.bool false, .slice none 0 0, .bool false, .slice none 0 0, .bool false, .slice none 0 0], boxA bn25n1 89 [.bool false, .slice none 0 0, .bool false, .slice none 0 0, .bool false, .slice none 0 0]], [boxA b12 42 [.int .i64 0, .int .i64 0, .int .i64 0], boxA b11 44 [.int .i64 ((F.getD i (0, 0, 0)).1), .int .i64 ((F.getD i (0, 0, 0)).2.1), .int .i64 ((F.getD i (0, 0, 0)).2.2)], boxA b6 34 [.bool (decide (s < 0)), .slice p ((Big.digs ((s).natAbs)).length) c], mapA b23 (fun z : Int => .int .i64 z) (fun z : Int => .int .i64 z) (InK .i64) bm1, boxA b2 34 [.bool false, .slice none 0 0], boxA b1 25 [.slice pv nv cv, .slice pf nf cf]], [slF (rI .u32) pr0n7n1 cr0n7n2 (Big.digs ((qax - 0).natAbs)), slF (rI .u32) pr1n7n3 cr1n7n4 (Big.digs ((qay - 0).natAbs)), slF (rI .u32) pr2n7n5 cr2n7n6 (Big.digs ((qaz - 0).natAbs)), atF b19 o20 [.int .i64 qcx, .int .i64 qcy, .int .i64 qcz], atF b16 o17 [.int .i64 qbx, .int .i64 qby, .int .i64 qbz], atF b13 o14 [.int .i64 qax, .int .i64 qay, .int .i64 qaz], atF b8 o9 [.int .i64 ((F.getD i (0, 0, 0)).1), .int .i64 ((F.getD i (0, 0, 0)).2.1), .int .i64 ((F.getD i (0, 0, 0)).2.2)], slF (rI .u32) p c (Big.digs ((s).natAbs)), slF (rI .u32) p24 c25 (Big.digs ((0 : Int).natAbs)), slF (rI3 .i64) pv cv V, slF (rI3 .i64) pf cf F])) ?_ (fun hD21 => ?_)
    ·
     rintro ⟨pr0n7n1, cr0n7n2, pr1n7n3, cr1n7n4, pr2n7n5, cr2n7n6, bn25n1, bn26n1⟩
     dsimp only
     refine d_two 15 24 (by kernel_rfl) ?_ ?_
     ·
      refine o_callf rfl rfl rfl rfl (.c rfl (.c rfl .n)) ce58 (con_from (ex := 0) (ey := 0) (ez := 0) (fx := qbx) (fy := qby) (fz := qbz) (hbex := by omega) (hbey := by omega) (hbez := by omega) (hbfx := by omega) (hbfy := by omega) (hbfz := by omega)) (.n) ?_
      rintro ⟨pr0n15n1, cr0n15n2, pr1n15n3, cr1n15n4, pr2n15n5, cr2n15n6⟩ -
      dsimp only [List.append_eq, List.nil_append, List.cons_append]
      exact d_weakT (hD13 (pr0n7n1, cr0n7n2, pr1n7n3, cr1n7n4, pr2n7n5, cr2n7n6, pr0n15n1, cr0n15n2, pr1n15n3, cr1n15n4, pr2n15n5, cr2n15n6, bn25n1, bn26n1)) (by kernel_rfl) ((.of rfl) : SubM _ _) .rfl .rfl ((.of [0, 1, 2, 3, 4, 5, 6, 7, 8, 9, 10, 11, 12, 13] rfl) : SelR _ _ _)
     ·
      refine o_ef0W rfl rfl rfl rfl (ef_alloc zr89 rfl) (fun bn24n1 _ => ?_)
      exact d_weakT (hD14 (pr0n7n1, cr0n7n2, pr1n7n3, cr1n7n4, pr2n7n5, cr2n7n6, bn24n1, bn25n1, bn26n1)) (by kernel_rfl) ((.of rfl) : SubM _ _) (perm_c 1 rfl (perm_c 1 rfl (perm_c 0 rfl .nil))) .rfl ((.of [0, 1, 2, 3, 4, 5, 6, 7, 8, 9, 10] rfl) : SelR _ _ _)
    refine d_join (X := Nat × Nat × Nat) (k' := 6) (L' := #[true, true, true, true, true, true, true, false, true, true, true, true, true, true, true, false, true, true, true, true, true, true, true, false, true, true, true, false, false, false]) (fun (bn24n1, bn25n1, bn26n1) => ([(11, .pointer (some ⟨bn26n1, 0, none⟩)), (10, .pointer (some ⟨bn25n1, 0, none⟩)), (9, .pointer (some ⟨bn24n1, 0, none⟩)), (54, .agg #[.int .i64 qcx, .int .i64 qcy, .int .i64 qcz]), (53, .pointer (some ⟨b19, o20, none⟩)), (52, .int .i64 ((F.getD i (0, 0, 0)).2.2)), (51, .pointer (some ⟨b11, 2, none⟩)), (50, .slice pv nv cv), (49, .pointer (some ⟨b1, 0, none⟩)), (48, .agg #[.int .i64 0, .int .i64 0, .int .i64 0]), (46, .agg #[.int .i64 qbx, .int .i64 qby, .int .i64 qbz]), (45, .pointer (some ⟨b16, o17, none⟩)), (44, .int .i64 ((F.getD i (0, 0, 0)).2.1)), (43, .pointer (some ⟨b11, 1, none⟩)), (42, .slice pv nv cv), (41, .pointer (some ⟨b1, 0, none⟩)), (40, .agg #[.int .i64 0, .int .i64 0, .int .i64 0]), (38, .agg #[.int .i64 qax, .int .i64 qay, .int .i64 qaz]), (37, .pointer (some ⟨b13, o14, none⟩)), (36, .int .i64 ((F.getD i (0, 0, 0)).1)), (35, .pointer (some ⟨b11, 0, none⟩)), (34, .slice pv nv cv), (33, .pointer (some ⟨b1, 0, none⟩)), (32, .agg #[.int .i64 0, .int .i64 0, .int .i64 0]), (8, .pointer (some ⟨b12, 0, none⟩)), (31, .agg #[.int .i64 0, .int .i64 0, .int .i64 0]), (7, .pointer (some ⟨b11, 0, none⟩)), (30, .agg #[.int .i64 ((F.getD i (0, 0, 0)).1), .int .i64 ((F.getD i (0, 0, 0)).2.1), .int .i64 ((F.getD i (0, 0, 0)).2.2)]), (29, .pointer (some ⟨b8, o9, none⟩)), (28, .bool (decide (((i : Nat) : Int) < ((nf : Nat) : Int)))), (27, .int .i64 ((i : Nat) : Int)), (26, .int .i64 ((nf : Nat) : Int)), (25, .slice pf nf cf), (5, .pointer (some ⟨b6, 0, none⟩)), (3, .int .i64 0), (2, .pointer (some ⟨b2, 0, none⟩)), (1, .pointer (some ⟨b1, 0, none⟩))], [boxA bn26n1 89 [.bool false, .slice none 0 0, .bool false, .slice none 0 0, .bool false, .slice none 0 0], boxA bn25n1 89 [.bool false, .slice none 0 0, .bool false, .slice none 0 0, .bool false, .slice none 0 0], boxA bn24n1 89 [.bool false, .slice none 0 0, .bool false, .slice none 0 0, .bool false, .slice none 0 0]], [boxA b12 42 [.int .i64 0, .int .i64 0, .int .i64 0], boxA b11 44 [.int .i64 ((F.getD i (0, 0, 0)).1), .int .i64 ((F.getD i (0, 0, 0)).2.1), .int .i64 ((F.getD i (0, 0, 0)).2.2)], boxA b6 34 [.bool (decide (s < 0)), .slice p ((Big.digs ((s).natAbs)).length) c], mapA b23 (fun z : Int => .int .i64 z) (fun z : Int => .int .i64 z) (InK .i64) bm1, boxA b2 34 [.bool false, .slice none 0 0], boxA b1 25 [.slice pv nv cv, .slice pf nf cf]], [atF b19 o20 [.int .i64 qcx, .int .i64 qcy, .int .i64 qcz], atF b16 o17 [.int .i64 qbx, .int .i64 qby, .int .i64 qbz], atF b13 o14 [.int .i64 qax, .int .i64 qay, .int .i64 qaz], atF b8 o9 [.int .i64 ((F.getD i (0, 0, 0)).1), .int .i64 ((F.getD i (0, 0, 0)).2.1), .int .i64 ((F.getD i (0, 0, 0)).2.2)], slF (rI .u32) p c (Big.digs ((s).natAbs)), slF (rI .u32) p24 c25 (Big.digs ((0 : Int).natAbs)), slF (rI3 .i64) pv cv V, slF (rI3 .i64) pf cf F])) ?_ (fun hD22 => ?_)
    ·
     rintro ⟨bn24n1, bn25n1, bn26n1⟩
     dsimp only
     refine d_one 7 (by kernel_rfl) ?_
     ·
      refine o_callf rfl rfl rfl rfl (.c rfl (.c rfl .n)) ce58 (con_from (ex := 0) (ey := 0) (ez := 0) (fx := qax) (fy := qay) (fz := qaz) (hbex := by omega) (hbey := by omega) (hbez := by omega) (hbfx := by omega) (hbfy := by omega) (hbfz := by omega)) (.n) ?_
      rintro ⟨pr0n7n1, cr0n7n2, pr1n7n3, cr1n7n4, pr2n7n5, cr2n7n6⟩ -
      dsimp only [List.append_eq, List.nil_append, List.cons_append]
      exact d_weakT (hD14 (pr0n7n1, cr0n7n2, pr1n7n3, cr1n7n4, pr2n7n5, cr2n7n6, bn24n1, bn25n1, bn26n1)) (by kernel_rfl) ((.of rfl) : SubM _ _) .rfl .rfl ((.of [0, 1, 2, 3, 4, 5, 6, 7, 8, 9, 10] rfl) : SelR _ _ _)
    refine d_join (X := Option Addr × Nat × Option Addr × Nat × Option Addr × Nat × Option Addr × Nat × Option Addr × Nat × Option Addr × Nat) (k' := 7) (L' := #[true, true, true, true, true, true, true, true, true, true, true, true, true, true, true, true, true, true, true, true, true, true, true, false, false, false, false, false, false, false]) (fun (pr0n7n1, cr0n7n2, pr1n7n3, cr1n7n4, pr2n7n5, cr2n7n6, pr0n15n1, cr0n15n2, pr1n15n3, cr1n15n4, pr2n15n5, cr2n15n6) => ([(47, .agg #[.bool (decide ((qbx - 0) < 0)), .slice pr0n15n1 ((Big.digs ((qbx - 0).natAbs)).length) cr0n15n2, .bool (decide ((qby - 0) < 0)), .slice pr1n15n3 ((Big.digs ((qby - 0).natAbs)).length) cr1n15n4, .bool (decide ((qbz - 0) < 0)), .slice pr2n15n5 ((Big.digs ((qbz - 0).natAbs)).length) cr2n15n6]), (39, .agg #[.bool (decide ((qax - 0) < 0)), .slice pr0n7n1 ((Big.digs ((qax - 0).natAbs)).length) cr0n7n2, .bool (decide ((qay - 0) < 0)), .slice pr1n7n3 ((Big.digs ((qay - 0).natAbs)).length) cr1n7n4, .bool (decide ((qaz - 0) < 0)), .slice pr2n7n5 ((Big.digs ((qaz - 0).natAbs)).length) cr2n7n6]), (54, .agg #[.int .i64 qcx, .int .i64 qcy, .int .i64 qcz]), (53, .pointer (some ⟨b19, o20, none⟩)), (52, .int .i64 ((F.getD i (0, 0, 0)).2.2)), (51, .pointer (some ⟨b11, 2, none⟩)), (50, .slice pv nv cv), (49, .pointer (some ⟨b1, 0, none⟩)), (48, .agg #[.int .i64 0, .int .i64 0, .int .i64 0]), (46, .agg #[.int .i64 qbx, .int .i64 qby, .int .i64 qbz]), (45, .pointer (some ⟨b16, o17, none⟩)), (44, .int .i64 ((F.getD i (0, 0, 0)).2.1)), (43, .pointer (some ⟨b11, 1, none⟩)), (42, .slice pv nv cv), (41, .pointer (some ⟨b1, 0, none⟩)), (40, .agg #[.int .i64 0, .int .i64 0, .int .i64 0]), (38, .agg #[.int .i64 qax, .int .i64 qay, .int .i64 qaz]), (37, .pointer (some ⟨b13, o14, none⟩)), (36, .int .i64 ((F.getD i (0, 0, 0)).1)), (35, .pointer (some ⟨b11, 0, none⟩)), (34, .slice pv nv cv), (33, .pointer (some ⟨b1, 0, none⟩)), (32, .agg #[.int .i64 0, .int .i64 0, .int .i64 0]), (8, .pointer (some ⟨b12, 0, none⟩)), (31, .agg #[.int .i64 0, .int .i64 0, .int .i64 0]), (7, .pointer (some ⟨b11, 0, none⟩)), (30, .agg #[.int .i64 ((F.getD i (0, 0, 0)).1), .int .i64 ((F.getD i (0, 0, 0)).2.1), .int .i64 ((F.getD i (0, 0, 0)).2.2)]), (29, .pointer (some ⟨b8, o9, none⟩)), (28, .bool (decide (((i : Nat) : Int) < ((nf : Nat) : Int)))), (27, .int .i64 ((i : Nat) : Int)), (26, .int .i64 ((nf : Nat) : Int)), (25, .slice pf nf cf), (5, .pointer (some ⟨b6, 0, none⟩)), (3, .int .i64 0), (2, .pointer (some ⟨b2, 0, none⟩)), (1, .pointer (some ⟨b1, 0, none⟩))], [], [boxA b12 42 [.int .i64 0, .int .i64 0, .int .i64 0], boxA b11 44 [.int .i64 ((F.getD i (0, 0, 0)).1), .int .i64 ((F.getD i (0, 0, 0)).2.1), .int .i64 ((F.getD i (0, 0, 0)).2.2)], boxA b6 34 [.bool (decide (s < 0)), .slice p ((Big.digs ((s).natAbs)).length) c], mapA b23 (fun z : Int => .int .i64 z) (fun z : Int => .int .i64 z) (InK .i64) bm1, boxA b2 34 [.bool false, .slice none 0 0], boxA b1 25 [.slice pv nv cv, .slice pf nf cf]], [slF (rI .u32) pr0n15n1 cr0n15n2 (Big.digs ((qbx - 0).natAbs)), slF (rI .u32) pr1n15n3 cr1n15n4 (Big.digs ((qby - 0).natAbs)), slF (rI .u32) pr2n15n5 cr2n15n6 (Big.digs ((qbz - 0).natAbs)), slF (rI .u32) pr0n7n1 cr0n7n2 (Big.digs ((qax - 0).natAbs)), slF (rI .u32) pr1n7n3 cr1n7n4 (Big.digs ((qay - 0).natAbs)), slF (rI .u32) pr2n7n5 cr2n7n6 (Big.digs ((qaz - 0).natAbs)), atF b19 o20 [.int .i64 qcx, .int .i64 qcy, .int .i64 qcz], atF b16 o17 [.int .i64 qbx, .int .i64 qby, .int .i64 qbz], atF b13 o14 [.int .i64 qax, .int .i64 qay, .int .i64 qaz], atF b8 o9 [.int .i64 ((F.getD i (0, 0, 0)).1), .int .i64 ((F.getD i (0, 0, 0)).2.1), .int .i64 ((F.getD i (0, 0, 0)).2.2)], slF (rI .u32) p c (Big.digs ((s).natAbs)), slF (rI .u32) p24 c25 (Big.digs ((0 : Int).natAbs)), slF (rI3 .i64) pv cv V, slF (rI3 .i64) pf cf F])) ?_ (fun hD23 => ?_)
    ·
     rintro ⟨pr0n7n1, cr0n7n2, pr1n7n3, cr1n7n4, pr2n7n5, cr2n7n6, pr0n15n1, cr0n15n2, pr1n15n3, cr1n15n4, pr2n15n5, cr2n15n6⟩
     dsimp only
     refine d_four 23 24 25 26 (by kernel_rfl) ?_ ?_ ?_ ?_
     ·
      refine o_callf rfl rfl rfl rfl (.c rfl (.c rfl .n)) ce58 (con_from (ex := 0) (ey := 0) (ez := 0) (fx := qcx) (fy := qcy) (fz := qcz) (hbex := by omega) (hbey := by omega) (hbez := by omega) (hbfx := by omega) (hbfy := by omega) (hbfz := by omega)) (.n) ?_
      rintro ⟨pr0n23n1, cr0n23n2, pr1n23n3, cr1n23n4, pr2n23n5, cr2n23n6⟩ -
      dsimp only [List.append_eq, List.nil_append, List.cons_append]
      exact d_weakT (hD15 (pr0n7n1, cr0n7n2, pr1n7n3, cr1n7n4, pr2n7n5, cr2n7n6, pr0n15n1, cr0n15n2, pr1n15n3, cr1n15n4, pr2n15n5, cr2n15n6, pr0n23n1, cr0n23n2, pr1n23n3, cr1n23n4, pr2n23n5, cr2n23n6)) (by kernel_rfl) ((.of rfl) : SubM _ _) .rfl .rfl ((.of [0, 1, 2, 3, 4, 5, 6, 7, 8, 9, 10, 11, 12, 13, 14, 15, 16] rfl) : SelR _ _ _)
     ·
      refine o_ef0W rfl rfl rfl rfl (ef_alloc zr89 rfl) (fun bn24n1 _ => ?_)
      exact d_weakT (hD16 (pr0n7n1, cr0n7n2, pr1n7n3, cr1n7n4, pr2n7n5, cr2n7n6, pr0n15n1, cr0n15n2, pr1n15n3, cr1n15n4, pr2n15n5, cr2n15n6, bn24n1)) (by kernel_rfl) ((.of rfl) : SubM _ _) .rfl .rfl ((.of [0, 1, 2, 3, 4, 5, 6, 7, 8, 9, 10, 11, 12, 13] rfl) : SelR _ _ _)
     ·
      refine o_ef0W rfl rfl rfl rfl (ef_alloc zr89 rfl) (fun bn25n1 _ => ?_)
      exact d_weakT (hD17 (pr0n7n1, cr0n7n2, pr1n7n3, cr1n7n4, pr2n7n5, cr2n7n6, pr0n15n1, cr0n15n2, pr1n15n3, cr1n15n4, pr2n15n5, cr2n15n6, bn25n1)) (by kernel_rfl) ((.of rfl) : SubM _ _) .rfl .rfl ((.of [0, 1, 2, 3, 4, 5, 6, 7, 8, 9, 10, 11, 12, 13] rfl) : SelR _ _ _)
     ·
      refine o_ef0W rfl rfl rfl rfl (ef_alloc zr89 rfl) (fun bn26n1 _ => ?_)
      exact d_weakT (hD18 (pr0n7n1, cr0n7n2, pr1n7n3, cr1n7n4, pr2n7n5, cr2n7n6, pr0n15n1, cr0n15n2, pr1n15n3, cr1n15n4, pr2n15n5, cr2n15n6, bn26n1)) (by kernel_rfl) ((.of rfl) : SubM _ _) .rfl .rfl ((.of [0, 1, 2, 3, 4, 5, 6, 7, 8, 9, 10, 11, 12, 13] rfl) : SelR _ _ _)
    refine d_join (X := Option Addr × Nat × Option Addr × Nat × Option Addr × Nat × Nat) (k' := 7) (L' := #[true, true, true, true, true, true, true, true, true, true, true, true, true, true, true, false, true, true, true, true, true, true, true, false, true, false, false, false, false, false]) (fun (pr0n7n1, cr0n7n2, pr1n7n3, cr1n7n4, pr2n7n5, cr2n7n6, bn24n1) => ([(9, .pointer (some ⟨bn24n1, 0, none⟩)), (39, .agg #[.bool (decide ((qax - 0) < 0)), .slice pr0n7n1 ((Big.digs ((qax - 0).natAbs)).length) cr0n7n2, .bool (decide ((qay - 0) < 0)), .slice pr1n7n3 ((Big.digs ((qay - 0).natAbs)).length) cr1n7n4, .bool (decide ((qaz - 0) < 0)), .slice pr2n7n5 ((Big.digs ((qaz - 0).natAbs)).length) cr2n7n6]), (54, .agg #[.int .i64 qcx, .int .i64 qcy, .int .i64 qcz]), (53, .pointer (some ⟨b19, o20, none⟩)), (52, .int .i64 ((F.getD i (0, 0, 0)).2.2)), (51, .pointer (some ⟨b11, 2, none⟩)), (50, .slice pv nv cv), (49, .pointer (some ⟨b1, 0, none⟩)), (48, .agg #[.int .i64 0, .int .i64 0, .int .i64 0]), (46, .agg #[.int .i64 qbx, .int .i64 qby, .int .i64 qbz]), (45, .pointer (some ⟨b16, o17, none⟩)), (44, .int .i64 ((F.getD i (0, 0, 0)).2.1)), (43, .pointer (some ⟨b11, 1, none⟩)), (42, .slice pv nv cv), (41, .pointer (some ⟨b1, 0, none⟩)), (40, .agg #[.int .i64 0, .int .i64 0, .int .i64 0]), (38, .agg #[.int .i64 qax, .int .i64 qay, .int .i64 qaz]), (37, .pointer (some ⟨b13, o14, none⟩)), (36, .int .i64 ((F.getD i (0, 0, 0)).1)), (35, .pointer (some ⟨b11, 0, none⟩)), (34, .slice pv nv cv), (33, .pointer (some ⟨b1, 0, none⟩)), (32, .agg #[.int .i64 0, .int .i64 0, .int .i64 0]), (8, .pointer (some ⟨b12, 0, none⟩)), (31, .agg #[.int .i64 0, .int .i64 0, .int .i64 0]), (7, .pointer (some ⟨b11, 0, none⟩)), (30, .agg #[.int .i64 ((F.getD i (0, 0, 0)).1), .int .i64 ((F.getD i (0, 0, 0)).2.1), .int .i64 ((F.getD i (0, 0, 0)).2.2)]), (29, .pointer (some ⟨b8, o9, none⟩)), (28, .bool (decide (((i : Nat) : Int) < ((nf : Nat) : Int)))), (27, .int .i64 ((i : Nat) : Int)), (26, .int .i64 ((nf : Nat) : Int)), (25, .slice pf nf cf), (5, .pointer (some ⟨b6, 0, none⟩)), (3, .int .i64 0), (2, .pointer (some ⟨b2, 0, none⟩)), (1, .pointer (some ⟨b1, 0, none⟩))], [boxA bn24n1 89 [.bool false, .slice none 0 0, .bool false, .slice none 0 0, .bool false, .slice none 0 0]], [boxA b12 42 [.int .i64 0, .int .i64 0, .int .i64 0], boxA b11 44 [.int .i64 ((F.getD i (0, 0, 0)).1), .int .i64 ((F.getD i (0, 0, 0)).2.1), .int .i64 ((F.getD i (0, 0, 0)).2.2)], boxA b6 34 [.bool (decide (s < 0)), .slice p ((Big.digs ((s).natAbs)).length) c], mapA b23 (fun z : Int => .int .i64 z) (fun z : Int => .int .i64 z) (InK .i64) bm1, boxA b2 34 [.bool false, .slice none 0 0], boxA b1 25 [.slice pv nv cv, .slice pf nf cf]], [slF (rI .u32) pr0n7n1 cr0n7n2 (Big.digs ((qax - 0).natAbs)), slF (rI .u32) pr1n7n3 cr1n7n4 (Big.digs ((qay - 0).natAbs)), slF (rI .u32) pr2n7n5 cr2n7n6 (Big.digs ((qaz - 0).natAbs)), atF b19 o20 [.int .i64 qcx, .int .i64 qcy, .int .i64 qcz], atF b16 o17 [.int .i64 qbx, .int .i64 qby, .int .i64 qbz], atF b13 o14 [.int .i64 qax, .int .i64 qay, .int .i64 qaz], atF b8 o9 [.int .i64 ((F.getD i (0, 0, 0)).1), .int .i64 ((F.getD i (0, 0, 0)).2.1), .int .i64 ((F.getD i (0, 0, 0)).2.2)], slF (rI .u32) p c (Big.digs ((s).natAbs)), slF (rI .u32) p24 c25 (Big.digs ((0 : Int).natAbs)), slF (rI3 .i64) pv cv V, slF (rI3 .i64) pf cf F])) ?_ (fun hD24 => ?_)
    ·
     rintro ⟨pr0n7n1, cr0n7n2, pr1n7n3, cr1n7n4, pr2n7n5, cr2n7n6, bn24n1⟩
     dsimp only
     refine d_three 15 25 26 (by kernel_rfl) ?_ ?_ ?_
     ·
      refine o_callf rfl rfl rfl rfl (.c rfl (.c rfl .n)) ce58 (con_from (ex := 0) (ey := 0) (ez := 0) (fx := qbx) (fy := qby) (fz := qbz) (hbex := by omega) (hbey := by omega) (hbez := by omega) (hbfx := by omega) (hbfy := by omega) (hbfz := by omega)) (.n) ?_
      rintro ⟨pr0n15n1, cr0n15n2, pr1n15n3, cr1n15n4, pr2n15n5, cr2n15n6⟩ -
      dsimp only [List.append_eq, List.nil_append, List.cons_append]
      exact d_weakT (hD16 (pr0n7n1, cr0n7n2, pr1n7n3, cr1n7n4, pr2n7n5, cr2n7n6, pr0n15n1, cr0n15n2, pr1n15n3, cr1n15n4, pr2n15n5, cr2n15n6, bn24n1)) (by kernel_rfl) ((.of rfl) : SubM _ _) .rfl .rfl ((.of [0, 1, 2, 3, 4, 5, 6, 7, 8, 9, 10, 11, 12, 13] rfl) : SelR _ _ _)
     ·
      refine o_ef0W rfl rfl rfl rfl (ef_alloc zr89 rfl) (fun bn25n1 _ => ?_)
      exact d_weakT (hD19 (pr0n7n1, cr0n7n2, pr1n7n3, cr1n7n4, pr2n7n5, cr2n7n6, bn24n1, bn25n1)) (by kernel_rfl) ((.of rfl) : SubM _ _) .rfl .rfl ((.of [0, 1, 2, 3, 4, 5, 6, 7, 8, 9, 10] rfl) : SelR _ _ _)
     ·
      refine o_ef0W rfl rfl rfl rfl (ef_alloc zr89 rfl) (fun bn26n1 _ => ?_)
      exact d_weakT (hD20 (pr0n7n1, cr0n7n2, pr1n7n3, cr1n7n4, pr2n7n5, cr2n7n6, bn24n1, bn26n1)) (by kernel_rfl) ((.of rfl) : SubM _ _) .rfl .rfl ((.of [0, 1, 2, 3, 4, 5, 6, 7, 8, 9, 10] rfl) : SelR _ _ _)
    refine d_join (X := Option Addr × Nat × Option Addr × Nat × Option Addr × Nat × Nat) (k' := 7) (L' := #[true, true, true, true, true, true, true, true, true, true, true, true, true, true, true, false, true, true, true, true, true, true, true, false, false, true, false, false, false, false]) (fun (pr0n7n1, cr0n7n2, pr1n7n3, cr1n7n4, pr2n7n5, cr2n7n6, bn25n1) => ([(10, .pointer (some ⟨bn25n1, 0, none⟩)), (39, .agg #[.bool (decide ((qax - 0) < 0)), .slice pr0n7n1 ((Big.digs ((qax - 0).natAbs)).length) cr0n7n2, .bool (decide ((qay - 0) < 0)), .slice pr1n7n3 ((Big.digs ((qay - 0).natAbs)).length) cr1n7n4, .bool (decide ((qaz - 0) < 0)), .slice pr2n7n5 ((Big.digs ((qaz - 0).natAbs)).length) cr2n7n6]), (54, .agg #[.int .i64 qcx, .int .i64 qcy, .int .i64 qcz]), (53, .pointer (some ⟨b19, o20, none⟩)), (52, .int .i64 ((F.getD i (0, 0, 0)).2.2)), (51, .pointer (some ⟨b11, 2, none⟩)), (50, .slice pv nv cv), (49, .pointer (some ⟨b1, 0, none⟩)), (48, .agg #[.int .i64 0, .int .i64 0, .int .i64 0]), (46, .agg #[.int .i64 qbx, .int .i64 qby, .int .i64 qbz]), (45, .pointer (some ⟨b16, o17, none⟩)), (44, .int .i64 ((F.getD i (0, 0, 0)).2.1)), (43, .pointer (some ⟨b11, 1, none⟩)), (42, .slice pv nv cv), (41, .pointer (some ⟨b1, 0, none⟩)), (40, .agg #[.int .i64 0, .int .i64 0, .int .i64 0]), (38, .agg #[.int .i64 qax, .int .i64 qay, .int .i64 qaz]), (37, .pointer (some ⟨b13, o14, none⟩)), (36, .int .i64 ((F.getD i (0, 0, 0)).1)), (35, .pointer (some ⟨b11, 0, none⟩)), (34, .slice pv nv cv), (33, .pointer (some ⟨b1, 0, none⟩)), (32, .agg #[.int .i64 0, .int .i64 0, .int .i64 0]), (8, .pointer (some ⟨b12, 0, none⟩)), (31, .agg #[.int .i64 0, .int .i64 0, .int .i64 0]), (7, .pointer (some ⟨b11, 0, none⟩)), (30, .agg #[.int .i64 ((F.getD i (0, 0, 0)).1), .int .i64 ((F.getD i (0, 0, 0)).2.1), .int .i64 ((F.getD i (0, 0, 0)).2.2)]), (29, .pointer (some ⟨b8, o9, none⟩)), (28, .bool (decide (((i : Nat) : Int) < ((nf : Nat) : Int)))), (27, .int .i64 ((i : Nat) : Int)), (26, .int .i64 ((nf : Nat) : Int)), (25, .slice pf nf cf), (5, .pointer (some ⟨b6, 0, none⟩)), (3, .int .i64 0), (2, .pointer (some ⟨b2, 0, none⟩)), (1, .pointer (some ⟨b1, 0, none⟩))], [boxA bn25n1 89 [.bool false, .slice none 0 0, .bool false, .slice none 0 0, .bool false, .slice none 0 0]], [boxA b12 42 [.int .i64 0, .int .i64 0, .int .i64 0], boxA b11 44 [.int .i64 ((F.getD i (0, 0, 0)).1), .int .i64 ((F.getD i (0, 0, 0)).2.1), .int .i64 ((F.getD i (0, 0, 0)).2.2)], boxA b6 34 [.bool (decide (s < 0)), .slice p ((Big.digs ((s).natAbs)).length) c], mapA b23 (fun z : Int => .int .i64 z) (fun z : Int => .int .i64 z) (InK .i64) bm1, boxA b2 34 [.bool false, .slice none 0 0], boxA b1 25 [.slice pv nv cv, .slice pf nf cf]], [slF (rI .u32) pr0n7n1 cr0n7n2 (Big.digs ((qax - 0).natAbs)), slF (rI .u32) pr1n7n3 cr1n7n4 (Big.digs ((qay - 0).natAbs)), slF (rI .u32) pr2n7n5 cr2n7n6 (Big.digs ((qaz - 0).natAbs)), atF b19 o20 [.int .i64 qcx, .int .i64 qcy, .int .i64 qcz], atF b16 o17 [.int .i64 qbx, .int .i64 qby, .int .i64 qbz], atF b13 o14 [.int .i64 qax, .int .i64 qay, .int .i64 qaz], atF b8 o9 [.int .i64 ((F.getD i (0, 0, 0)).1), .int .i64 ((F.getD i (0, 0, 0)).2.1), .int .i64 ((F.getD i (0, 0, 0)).2.2)], slF (rI .u32) p c (Big.digs ((s).natAbs)), slF (rI .u32) p24 c25 (Big.digs ((0 : Int).natAbs)), slF (rI3 .i64) pv cv V, slF (rI3 .i64) pf cf F])) ?_ (fun hD25 => ?_)
    ·
     rintro ⟨pr0n7n1, cr0n7n2, pr1n7n3, cr1n7n4, pr2n7n5, cr2n7n6, bn25n1⟩
     dsimp only
     refine d_three 15 24 26 (by kernel_rfl) ?_ ?_ ?_
     ·
      refine o_callf rfl rfl rfl rfl (.c rfl (.c rfl .n)) ce58 (con_from (ex := 0) (ey := 0) (ez := 0) (fx := qbx) (fy := qby) (fz := qbz) (hbex := by omega) (hbey := by omega) (hbez := by omega) (hbfx := by omega) (hbfy := by omega) (hbfz := by omega)) (.n) ?_
      rintro ⟨pr0n15n1, cr0n15n2, pr1n15n3, cr1n15n4, pr2n15n5, cr2n15n6⟩ -
      dsimp only [List.append_eq, List.nil_append, List.cons_append]
      exact d_weakT (hD17 (pr0n7n1, cr0n7n2, pr1n7n3, cr1n7n4, pr2n7n5, cr2n7n6, pr0n15n1, cr0n15n2, pr1n15n3, cr1n15n4, pr2n15n5, cr2n15n6, bn25n1)) (by kernel_rfl) ((.of rfl) : SubM _ _) .rfl .rfl ((.of [0, 1, 2, 3, 4, 5, 6, 7, 8, 9, 10, 11, 12, 13] rfl) : SelR _ _ _)
     ·
      refine o_ef0W rfl rfl rfl rfl (ef_alloc zr89 rfl) (fun bn24n1 _ => ?_)
      exact d_weakT (hD19 (pr0n7n1, cr0n7n2, pr1n7n3, cr1n7n4, pr2n7n5, cr2n7n6, bn24n1, bn25n1)) (by kernel_rfl) ((.of rfl) : SubM _ _) (perm_c 1 rfl (perm_c 0 rfl .nil)) .rfl ((.of [0, 1, 2, 3, 4, 5, 6, 7, 8, 9, 10] rfl) : SelR _ _ _)
     ·
      refine o_ef0W rfl rfl rfl rfl (ef_alloc zr89 rfl) (fun bn26n1 _ => ?_)
      exact d_weakT (hD21 (pr0n7n1, cr0n7n2, pr1n7n3, cr1n7n4, pr2n7n5, cr2n7n6, bn25n1, bn26n1)) (by kernel_rfl) ((.of rfl) : SubM _ _) .rfl .rfl ((.of [0, 1, 2, 3, 4, 5, 6, 7, 8, 9, 10] rfl) : SelR _ _ _)
    refine d_join (X := Option Addr × Nat × Option Addr × Nat × Option Addr × Nat × Nat) (k' := 7) (L' := #[true, true, true, true, true, true, true, true, true, true, true, true, true, true, true, false, true, true, true, true, true, true, true, false, false, false, true, false, false, false]) (fun (pr0n7n1, cr0n7n2, pr1n7n3, cr1n7n4, pr2n7n5, cr2n7n6, bn26n1) => ([(11, .pointer (some ⟨bn26n1, 0, none⟩)), (39, .agg #[.bool (decide ((qax - 0) < 0)), .slice pr0n7n1 ((Big.digs ((qax - 0).natAbs)).length) cr0n7n2, .bool (decide ((qay - 0) < 0)), .slice pr1n7n3 ((Big.digs ((qay - 0).natAbs)).length) cr1n7n4, .bool (decide ((qaz - 0) < 0)), .slice pr2n7n5 ((Big.digs ((qaz - 0).natAbs)).length) cr2n7n6]), (54, .agg #[.int .i64 qcx, .int .i64 qcy, .int .i64 qcz]), (53, .pointer (some ⟨b19, o20, none⟩)), (52, .int .i64 ((F.getD i (0, 0, 0)).2.2)), (51, .pointer (some ⟨b11, 2, none⟩)), (50, .slice pv nv cv), (49, .pointer (some ⟨b1, 0, none⟩)), (48, .agg #[.int .i64 0, .int .i64 0, .int .i64 0]), (46, .agg #[.int .i64 qbx, .int .i64 qby, .int .i64 qbz]), (45, .pointer (some ⟨b16, o17, none⟩)), (44, .int .i64 ((F.getD i (0, 0, 0)).2.1)), (43, .pointer (some ⟨b11, 1, none⟩)), (42, .slice pv nv cv), (41, .pointer (some ⟨b1, 0, none⟩)), (40, .agg #[.int .i64 0, .int .i64 0, .int .i64 0]), (38, .agg #[.int .i64 qax, .int .i64 qay, .int .i64 qaz]), (37, .pointer (some ⟨b13, o14, none⟩)), (36, .int .i64 ((F.getD i (0, 0, 0)).1)), (35, .pointer (some ⟨b11, 0, none⟩)), (34, .slice pv nv cv), (33, .pointer (some ⟨b1, 0, none⟩)), (32, .agg #[.int .i64 0, .int .i64 0, .int .i64 0]), (8, .pointer (some ⟨b12, 0, none⟩)), (31, .agg #[.int .i64 0, .int .i64 0, .int .i64 0]), (7, .pointer (some ⟨b11, 0, none⟩)), (30, .agg #[.int .i64 ((F.getD i (0, 0, 0)).1), .int .i64 ((F.getD i (0, 0, 0)).2.1), .int .i64 ((F.getD i (0, 0, 0)).2.2)]), (29, .pointer (some ⟨b8, o9, none⟩)), (28, .bool (decide (((i : Nat) : Int) < ((nf : Nat) : Int)))), (27, .int .i64 ((i : Nat) : Int)), (26, .int .i64 ((nf : Nat) : Int)), (25, .slice pf nf cf), (5, .pointer (some ⟨b6, 0, none⟩)), (3, .int .i64 0), (2, .pointer (some ⟨b2, 0, none⟩)), (1, .pointer (some ⟨b1, 0, none⟩))], [boxA bn26n1 89 [.bool false, .slice none 0 0, .bool false, .slice none 0 0, .bool false, .slice none 0 0]], [boxA b12 42 [.int .i64 0, .int .i64 0, .int .i64 0], boxA b11 44 [.int .i64 ((F.getD i (0, 0, 0)).1), .int .i64 ((F.getD i (0, 0, 0)).2.1), .int .i64 ((F.getD i (0, 0, 0)).2.2)], boxA b6 34 [.bool (decide (s < 0)), .slice p ((Big.digs ((s).natAbs)).length) c], mapA b23 (fun z : Int => .int .i64 z) (fun z : Int => .int .i64 z) (InK .i64) bm1, boxA b2 34 [.bool false, .slice none 0 0], boxA b1 25 [.slice pv nv cv, .slice pf nf cf]], [slF (rI .u32) pr0n7n1 cr0n7n2 (Big.digs ((qax - 0).natAbs)), slF (rI .u32) pr1n7n3 cr1n7n4 (Big.digs ((qay - 0).natAbs)), slF (rI .u32) pr2n7n5 cr2n7n6 (Big.digs ((qaz - 0).natAbs)), atF b19 o20 [.int .i64 qcx, .int .i64 qcy, .int .i64 qcz], atF b16 o17 [.int .i64 qbx, .int .i64 qby, .int .i64 qbz], atF b13 o14 [.int .i64 qax, .int .i64 qay, .int .i64 qaz], atF b8 o9 [.int .i64 ((F.getD i (0, 0, 0)).1), .int .i64 ((F.getD i (0, 0, 0)).2.1), .int .i64 ((F.getD i (0, 0, 0)).2.2)], slF (rI .u32) p c (Big.digs ((s).natAbs)), slF (rI .u32) p24 c25 (Big.digs ((0 : Int).natAbs)), slF (rI3 .i64) pv cv V, slF (rI3 .i64) pf cf F])) ?_ (fun hD26 => ?_)
    ·
     rintro ⟨pr0n7n1, cr0n7n2, pr1n7n3, cr1n7n4, pr2n7n5, cr2n7n6, bn26n1⟩
     dsimp only
     refine d_three 15 24 25 (by kernel_rfl) ?_ ?_ ?_
     ·
      refine o_callf rfl rfl rfl rfl (.c rfl (.c rfl .n)) ce58 (con_from (ex := 0) (ey := 0) (ez := 0) (fx := qbx) (fy := qby) (fz := qbz) (hbex := by omega) (hbey := by omega) (hbez := by omega) (hbfx := by omega) (hbfy := by omega) (hbfz := by omega)) (.n) ?_
      rintro ⟨pr0n15n1, cr0n15n2, pr1n15n3, cr1n15n4, pr2n15n5, cr2n15n6⟩ -
      dsimp only [List.append_eq, List.nil_append, List.cons_append]
      exact d_weakT (hD18 (pr0n7n1, cr0n7n2, pr1n7n3, cr1n7n4, pr2n7n5, cr2n7n6, pr0n15n1, cr0n15n2, pr1n15n3, cr1n15n4, pr2n15n5, cr2n15n6, bn26n1)) (by kernel_rfl) ((.of rfl) : SubM _ _) .rfl .rfl ((.of [0, 1, 2, 3, 4, 5, 6, 7, 8, 9, 10, 11, 12, 13] rfl) : SelR _ _ _)
     ·
      refine o_ef0W rfl rfl rfl rfl (ef_alloc zr89 rfl) (fun bn24n1 _ => ?_)
      exact d_weakT (hD20 (pr0n7n1, cr0n7n2, pr1n7n3, cr1n7n4, pr2n7n5, cr2n7n6, bn24n1, bn26n1)) (by kernel_rfl) ((.of rfl) : SubM _ _) (perm_c 1 rfl (perm_c 0 rfl .nil)) .rfl ((.of [0, 1, 2, 3, 4, 5, 6, 7, 8, 9, 10] rfl) : SelR _ _ _)
     ·
      refine o_ef0W rfl rfl rfl rfl (ef_alloc zr89 rfl) (fun bn25n1 _ => ?_)
      exact d_weakT (hD21 (pr0n7n1, cr0n7n2, pr1n7n3, cr1n7n4, pr2n7n5, cr2n7n6, bn25n1, bn26n1)) (by kernel_rfl) ((.of rfl) : SubM _ _) (perm_c 1 rfl (perm_c 0 rfl .nil)) .rfl ((.of [0, 1, 2, 3, 4, 5, 6, 7, 8, 9, 10] rfl) : SelR _ _ _)
    refine d_join (X := Nat × Nat) (k' := 7) (L' := #[true, true, true, true, true, true, true, false, true, true, true, true, true, true, true, false, true, true, true, true, true, true, true, false, true, true, false, false, false, false]) (fun (bn24n1, bn25n1) => ([(10, .pointer (some ⟨bn25n1, 0, none⟩)), (9, .pointer (some ⟨bn24n1, 0, none⟩)), (54, .agg #[.int .i64 qcx, .int .i64 qcy, .int .i64 qcz]), (53, .pointer (some ⟨b19, o20, none⟩)), (52, .int .i64 ((F.getD i (0, 0, 0)).2.2)), (51, .pointer (some ⟨b11, 2, none⟩)), (50, .slice pv nv cv), (49, .pointer (some ⟨b1, 0, none⟩)), (48, .agg #[.int .i64 0, .int .i64 0, .int .i64 0]), (46, .agg #[.int .i64 qbx, .int .i64 qby, .int .i64 qbz]), (45, .pointer (some ⟨b16, o17, none⟩)), (44, .int .i64 ((F.getD i (0, 0, 0)).2.1)), (43, .pointer (some ⟨b11, 1, none⟩)), (42, .slice pv nv cv), (41, .pointer (some ⟨b1, 0, none⟩)), (40, .agg #[.int .i64 0, .int .i64 0, .int .i64 0]), (38, .agg #[.int .i64 qax, .int .i64 qay, .int .i64 qaz]), (37, .pointer (some ⟨b13, o14, none⟩)), (36, .int .i64 ((F.getD i (0, 0, 0)).1)), (35, .pointer (some ⟨b11, 0, none⟩)), (34, .slice pv nv cv), (33, .pointer (some ⟨b1, 0, none⟩)), (32, .agg #[.int .i64 0, .int .i64 0, .int .i64 0]), (8, .pointer (some ⟨b12, 0, none⟩)), (31, .agg #[.int .i64 0, .int .i64 0, .int .i64 0]), (7, .pointer (some ⟨b11, 0, none⟩)), (30, .agg #[.int .i64 ((F.getD i (0, 0, 0)).1), .int .i64 ((F.getD i (0, 0, 0)).2.1), .int .i64 ((F.getD i (0, 0, 0)).2.2)]), (29, .pointer (some ⟨b8, o9, none⟩)), (28, .bool (decide (((i : Nat) : Int) < ((nf : Nat) : Int)))), (27, .int .i64 ((i : Nat) : Int)), (26, .int .i64 ((nf : Nat) : Int)), (25, .slice pf nf cf), (5, .pointer (some ⟨b6, 0, none⟩)), (3, .int .i64 0), (2, .pointer (some ⟨b2, 0, none⟩)), (1, .pointer (some ⟨b1, 0, none⟩))], [boxA bn25n1 89 [.bool false, .slice none 0 0, .bool false, .slice none 0 0, .bool false, .slice none 0 0], boxA bn24n1 89 [.bool false, .slice none 0 0, .bool false, .slice none 0 0, .bool false, .slice none 0 0]], [boxA b12 42 [.int .i64 0, .int .i64 0, .int .i64 0], boxA b11 44 [.int .i64 ((F.getD i (0, 0, 0)).1), .int .i64 ((F.getD i (0, 0, 0)).2.1), .int .i64 ((F.getD i (0, 0, 0)).2.2)], boxA b6 34 [.bool (decide (s < 0)), .slice p ((Big.digs ((s).natAbs)).length) c], mapA b23 (fun z : Int => .int .i64 z) (fun z : Int => .int .i64 z) (InK .i64) bm1, boxA b2 34 [.bool false, .slice none 0 0], boxA b1 25 [.slice pv nv cv, .slice pf nf cf]], [atF b19 o20 [.int .i64 qcx, .int .i64 qcy, .int .i64 qcz], atF b16 o17 [.int .i64 qbx, .int .i64 qby, .int .i64 qbz], atF b13 o14 [.int .i64 qax, .int .i64 qay, .int .i64 qaz], atF b8 o9 [.int .i64 ((F.getD i (0, 0, 0)).1), .int .i64 ((F.getD i (0, 0, 0)).2.1), .int .i64 ((F.getD i (0, 0, 0)).2.2)], slF (rI .u32) p c (Big.digs ((s).natAbs)), slF (rI .u32) p24 c25 (Big.digs ((0 : Int).natAbs)), slF (rI3 .i64) pv cv V, slF (rI3 .i64) pf cf F])) ?_ (fun hD27 => ?_)
    ·
     rintro ⟨bn24n1, bn25n1⟩
     dsimp only
     refine d_two 7 26 (by kernel_rfl) ?_ ?_
     ·
      refine o_callf rfl rfl rfl rfl (.c rfl (.c rfl .n)) ce58 (con_from (ex := 0) (ey := 0) (ez := 0) (fx := qax) (fy := qay) (fz := qaz) (hbex := by omega) (hbey := by omega) (hbez := by omega) (hbfx := by omega) (hbfy := by omega) (hbfz := by omega)) (.n) ?_
      rintro ⟨pr0n7n1, cr0n7n2, pr1n7n3, cr1n7n4, pr2n7n5, cr2n7n6⟩ -
      dsimp only [List.append_eq, List.nil_append, List.cons_append]
      exact d_weakT (hD19 (pr0n7n1, cr0n7n2, pr1n7n3, cr1n7n4, pr2n7n5, cr2n7n6, bn24n1, bn25n1)) (by kernel_rfl) ((.of rfl) : SubM _ _) .rfl .rfl ((.of [0, 1, 2, 3, 4, 5, 6, 7, 8, 9, 10] rfl) : SelR _ _ _)
     ·
      refine o_ef0W rfl rfl rfl rfl (ef_alloc zr89 rfl) (fun bn26n1 _ => ?_)
      exact d_weakT (hD22 (bn24n1, bn25n1, bn26n1)) (by kernel_rfl) ((.of rfl) : SubM _ _) .rfl .rfl ((.of [0, 1, 2, 3, 4, 5, 6, 7] rfl) : SelR _ _ _)
    refine d_join (X := Nat × Nat) (k' := 7) (L' := #[true, true, true, true, true, true, true, false, true, true, true, true, true, true, true, false, true, true, true, true, true, true, true, false, true, false, true, false, false, false]) (fun (bn24n1, bn26n1) => ([(11, .pointer (some ⟨bn26n1, 0, none⟩)), (9, .pointer (some ⟨bn24n1, 0, none⟩)), (54, .agg #[.int .i64 qcx, .int .i64 qcy, .int .i64 qcz]), (53, .pointer (some ⟨b19, o20, none⟩)), (52, .int .i64 ((F.getD i (0, 0, 0)).2.2)), (51, .pointer (some ⟨b11, 2, none⟩)), (50, .slice pv nv cv), (49, .pointer (some ⟨b1, 0, none⟩)), (48, .agg #[.int .i64 0, .int .i64 0, .int .i64 0]), (46, .agg #[.int .i64 qbx, .int .i64 qby, .int .i64 qbz]), (45, .pointer (some ⟨b16, o17, none⟩)), (44, .int .i64 ((F.getD i (0, 0, 0)).2.1)), (43, .pointer (some ⟨b11, 1, none⟩)), (42, .slice pv nv cv), (41, .pointer (some ⟨b1, 0, none⟩)), (40, .agg #[.int .i64 0, .int .i64 0, .int .i64 0]), (38, .agg #[.int .i64 qax, .int .i64 qay, .int .i64 qaz]), (37, .pointer (some ⟨b13, o14, none⟩)), (36, .int .i64 ((F.getD i (0, 0, 0)).1)), (35, .pointer (some ⟨b11, 0, none⟩)), (34, .slice pv nv cv), (33, .pointer (some ⟨b1, 0, none⟩)), (32, .agg #[.int .i64 0, .int .i64 0, .int .i64 0]), (8, .pointer (some ⟨b12, 0, none⟩)), (31, .agg #[.int .i64 0, .int .i64 0, .int .i64 0]), (7, .pointer (some ⟨b11, 0, none⟩)), (30, .agg #[.int .i64 ((F.getD i (0, 0, 0)).1), .int .i64 ((F.getD i (0, 0, 0)).2.1), .int .i64 ((F.getD i (0, 0, 0)).2.2)]), (29, .pointer (some ⟨b8, o9, none⟩)), (28, .bool (decide (((i : Nat) : Int) < ((nf : Nat) : Int)))), (27, .int .i64 ((i : Nat) : Int)), (26, .int .i64 ((nf : Nat) : Int)), (25, .slice pf nf cf), (5, .pointer (some ⟨b6, 0, none⟩)), (3, .int .i64 0), (2, .pointer (some ⟨b2, 0, none⟩)), (1, .pointer (some ⟨b1, 0, none⟩))], [boxA bn26n1 89 [.bool false, .slice none 0 0, .bool false, .slice none 0 0, .bool false, .slice none 0 0], boxA bn24n1 89 [.bool false, .slice none 0 0, .bool false, .slice none 0 0, .bool false, .slice none 0 0]], [boxA b12 42 [.int .i64 0, .int .i64 0, .int .i64 0], boxA b11 44 [.int .i64 ((F.getD i (0, 0, 0)).1), .int .i64 ((F.getD i (0, 0, 0)).2.1), .int .i64 ((F.getD i (0, 0, 0)).2.2)], boxA b6 34 [.bool (decide (s < 0)), .slice p ((Big.digs ((s).natAbs)).length) c], mapA b23 (fun z : Int => .int .i64 z) (fun z : Int => .int .i64 z) (InK .i64) bm1, boxA b2 34 [.bool false, .slice none 0 0], boxA b1 25 [.slice pv nv cv, .slice pf nf cf]], [atF b19 o20 [.int .i64 qcx, .int .i64 qcy, .int .i64 qcz], atF b16 o17 [.int .i64 qbx, .int .i64 qby, .int .i64 qbz], atF b13 o14 [.int .i64 qax, .int .i64 qay, .int .i64 qaz], atF b8 o9 [.int .i64 ((F.getD i (0, 0, 0)).1), .int .i64 ((F.getD i (0, 0, 0)).2.1), .int .i64 ((F.getD i (0, 0, 0)).2.2)], slF (rI .u32) p c (Big.digs ((s).natAbs)), slF (rI .u32) p24 c25 (Big.digs ((0 : Int).natAbs)), slF (rI3 .i64) pv cv V, slF (rI3 .i64) pf cf F])) ?_ (fun hD28 => ?_)
    ·
     rintro ⟨bn24n1, bn26n1⟩
     dsimp only
     refine d_two 7 25 (by kernel_rfl) ?_ ?_
     ·
      refine o_callf rfl rfl rfl rfl (.c rfl (.c rfl .n)) ce58 (con_from (ex := 0) (ey := 0) (ez := 0) (fx := qax) (fy := qay) (fz := qaz) (hbex := by omega) (hbey := by omega) (hbez := by omega) (hbfx := by omega) (hbfy := by omega) (hbfz := by omega)) (.n) ?_
      rintro ⟨pr0n7n1, cr0n7n2, pr1n7n3, cr1n7n4, pr2n7n5, cr2n7n6⟩ -
      dsimp only [List.append_eq, List.nil_append, List.cons_append]
      exact d_weakT (hD20 (pr0n7n1, cr0n7n2, pr1n7n3, cr1n7n4, pr2n7n5, cr2n7n6, bn24n1, bn26n1)) (by kernel_rfl) ((.of rfl) : SubM _ _) .rfl .rfl ((.of [0, 1, 2, 3, 4, 5, 6, 7, 8, 9, 10] rfl) : SelR _ _ _)
     ·
      refine o_ef0W rfl rfl rfl rfl (ef_alloc zr89 rfl) (fun bn25n1 _ => ?_)
      exact d_weakT (hD22 (bn24n1, bn25n1, bn26n1)) (by kernel_rfl) ((.of rfl) : SubM _ _) (perm_c 1 rfl (perm_c 0 rfl (perm_c 0 rfl .nil))) .rfl ((.of [0, 1, 2, 3, 4, 5, 6, 7] rfl) : SelR _ _ _)
    refine d_join (X := Nat × Nat) (k' := 7) (L' := #[true, true, true, true, true, true, true, false, true, true, true, true, true, true, true, false, true, true, true, true, true, true, true, false, false, true, true, false, false, false]) (fun (bn25n1, bn26n1) => ([(11, .pointer (some ⟨bn26n1, 0, none⟩)), (10, .pointer (some ⟨bn25n1, 0, none⟩)), (54, .agg #[.int .i64 qcx, .int .i64 qcy, .int .i64 qcz]), (53, .pointer (some ⟨b19, o20, none⟩)), (52, .int .i64 ((F.getD i (0, 0, 0)).2.2)), (51, .pointer (some ⟨b11, 2, none⟩)), (50, .slice pv nv cv), (49, .pointer (some ⟨b1, 0, none⟩)), (48, .agg #[.int .i64 0, .int .i64 0, .int .i64 0]), (46, .agg #[.int .i64 qbx, .int .i64 qby, .int .i64 qbz]), (45, .pointer (some ⟨b16, o17, none⟩)), (44, .int .i64 ((F.getD i (0, 0, 0)).2.1)), (43, .pointer (some ⟨b11, 1, none⟩)), (42, .slice pv nv cv), (41, .pointer (some ⟨b1, 0, none⟩)), (40, .agg #[.int .i64 0, .int .i64 0, .int .i64 0]), (38, .agg #[.int .i64 qax, .int .i64 qay, .int .i64 qaz]), (37, .pointer (some ⟨b13, o14, none⟩)), (36, .int .i64 ((F.getD i (0, 0, 0)).1)), (35, .pointer (some ⟨b11, 0, none⟩)), (34, .slice pv nv cv), (33, .pointer (some ⟨b1, 0, none⟩)), (32, .agg #[.int .i64 0, .int .i64 0, .int .i64 0]), (8, .pointer (some ⟨b12, 0, none⟩)), (31, .agg #[.int .i64 0, .int .i64 0, .int .i64 0]), (7, .pointer (some ⟨b11, 0, none⟩)), (30, .agg #[.int .i64 ((F.getD i (0, 0, 0)).1), .int .i64 ((F.getD i (0, 0, 0)).2.1), .int .i64 ((F.getD i (0, 0, 0)).2.2)]), (29, .pointer (some ⟨b8, o9, none⟩)), (28, .bool (decide (((i : Nat) : Int) < ((nf : Nat) : Int)))), (27, .int .i64 ((i : Nat) : Int)), (26, .int .i64 ((nf : Nat) : Int)), (25, .slice pf nf cf), (5, .pointer (some ⟨b6, 0, none⟩)), (3, .int .i64 0), (2, .pointer (some ⟨b2, 0, none⟩)), (1, .pointer (some ⟨b1, 0, none⟩))], [boxA bn26n1 89 [.bool false, .slice none 0 0, .bool false, .slice none 0 0, .bool false, .slice none 0 0], boxA bn25n1 89 [.bool false, .slice none 0 0, .bool false, .slice none 0 0, .bool false, .slice none 0 0]], [boxA b12 42 [.int .i64 0, .int .i64 0, .int .i64 0], boxA b11 44 [.int .i64 ((F.getD i (0, 0, 0)).1), .int .i64 ((F.getD i (0, 0, 0)).2.1), .int .i64 ((F.getD i (0, 0, 0)).2.2)], boxA b6 34 [.bool (decide (s < 0)), .slice p ((Big.digs ((s).natAbs)).length) c], mapA b23 (fun z : Int => .int .i64 z) (fun z : Int => .int .i64 z) (InK .i64) bm1, boxA b2 34 [.bool false, .slice none 0 0], boxA b1 25 [.slice pv nv cv, .slice pf nf cf]], [atF b19 o20 [.int .i64 qcx, .int .i64 qcy, .int .i64 qcz], atF b16 o17 [.int .i64 qbx, .int .i64 qby, .int .i64 qbz], atF b13 o14 [.int .i64 qax, .int .i64 qay, .int .i64 qaz], atF b8 o9 [.int .i64 ((F.getD i (0, 0, 0)).1), .int .i64 ((F.getD i (0, 0, 0)).2.1), .int .i64 ((F.getD i (0, 0, 0)).2.2)], slF (rI .u32) p c (Big.digs ((s).natAbs)), slF (rI .u32) p24 c25 (Big.digs ((0 : Int).natAbs)), slF (rI3 .i64) pv cv V, slF (rI3 .i64) pf cf F])) ?_ (fun hD29 => ?_)
    ·
     rintro ⟨bn25n1, bn26n1⟩
     dsimp only
     refine d_two 7 24 (by kernel_rfl) ?_ ?_
     ·
      refine o_callf rfl rfl rfl rfl (.c rfl (.c rfl .n)) ce58 (con_from (ex := 0) (ey := 0) (ez := 0) (fx := qax) (fy := qay) (fz := qaz) (hbex := by omega) (hbey := by omega) (hbez := by omega) (hbfx := by omega) (hbfy := by omega) (hbfz := by omega)) (.n) ?_
      rintro ⟨pr0n7n1, cr0n7n2, pr1n7n3, cr1n7n4, pr2n7n5, cr2n7n6⟩ -
      dsimp only [List.append_eq, List.nil_append, List.cons_append]
      exact d_weakT (hD21 (pr0n7n1, cr0n7n2, pr1n7n3, cr1n7n4, pr2n7n5, cr2n7n6, bn25n1, bn26n1)) (by kernel_rfl) ((.of rfl) : SubM _ _) .rfl .rfl ((.of [0, 1, 2, 3, 4, 5, 6, 7, 8, 9, 10] rfl) : SelR _ _ _)
     ·
      refine o_ef0W rfl rfl rfl rfl (ef_alloc zr89 rfl) (fun bn24n1 _ => ?_)
      exact d_weakT (hD22 (bn24n1, bn25n1, bn26n1)) (by kernel_rfl) ((.of rfl) : SubM _ _) (perm_c 1 rfl (perm_c 1 rfl (perm_c 0 rfl .nil))) .rfl ((.of [0, 1, 2, 3, 4, 5, 6, 7] rfl) : SelR _ _ _)
    refine d_join (X := Option Addr × Nat × Option Addr × Nat × Option Addr × Nat) (k' := 8) (L' := #[true, true, true, true, true, true, true, true, true, true, true, true, true, true, true, false, true, true, true, true, true, true, true, false, false, false, false, false, false, false]) (fun (pr0n7n1, cr0n7n2, pr1n7n3, cr1n7n4, pr2n7n5, cr2n7n6) => ([(39, .agg #[.bool (decide ((qax - 0) < 0)), .slice pr0n7n1 ((Big.digs ((qax - 0).natAbs)).length) cr0n7n2, .bool (decide ((qay - 0) < 0)), .slice pr1n7n3 ((Big.digs ((qay - 0).natAbs)).length) cr1n7n4, .bool (decide ((qaz - 0) < 0)), .slice pr2n7n5 ((Big.digs ((qaz - 0).natAbs)).length) cr2n7n6]), (54, .agg #[.int .i64 qcx, .int .i64 qcy, .int .i64 qcz]), (53, .pointer (some ⟨b19, o20, none⟩)), (52, .int .i64 ((F.getD i (0, 0, 0)).2.2)), (51, .pointer (some ⟨b11, 2, none⟩)), (50, .slice pv nv cv), (49, .pointer (some ⟨b1, 0, none⟩)), (48, .agg #[.int .i64 0, .int .i64 0, .int .i64 0]), (46, .agg #[.int .i64 qbx, .int .i64 qby, .int .i64 qbz]), (45, .pointer (some ⟨b16, o17, none⟩)), (44, .int .i64 ((F.getD i (0, 0, 0)).2.1)), (43, .pointer (some ⟨b11, 1, none⟩)), (42, .slice pv nv cv), (41, .pointer (some ⟨b1, 0, none⟩)), (40, .agg #[.int .i64 0, .int .i64 0, .int .i64 0]), (38, .agg #[.int .i64 qax, .int .i64 qay, .int .i64 qaz]), (37, .pointer (some ⟨b13, o14, none⟩)), (36, .int .i64 ((F.getD i (0, 0, 0)).1)), (35, .pointer (some ⟨b11, 0, none⟩)), (34, .slice pv nv cv), (33, .pointer (some ⟨b1, 0, none⟩)), (32, .agg #[.int .i64 0, .int .i64 0, .int .i64 0]), (8, .pointer (some ⟨b12, 0, none⟩)), (31, .agg #[.int .i64 0, .int .i64 0, .int .i64 0]), (7, .pointer (some ⟨b11, 0, none⟩)), (30, .agg #[.int .i64 ((F.getD i (0, 0, 0)).1), .int .i64 ((F.getD i (0, 0, 0)).2.1), .int .i64 ((F.getD i (0, 0, 0)).2.2)]), (29, .pointer (some ⟨b8, o9, none⟩)), (28, .bool (decide (((i : Nat) : Int) < ((nf : Nat) : Int)))), (27, .int .i64 ((i : Nat) : Int)), (26, .int .i64 ((nf : Nat) : Int)), (25, .slice pf nf cf), (5, .pointer (some ⟨b6, 0, none⟩)), (3, .int .i64 0), (2, .pointer (some ⟨b2, 0, none⟩)), (1, .pointer (some ⟨b1, 0, none⟩))], [], [boxA b12 42 [.int .i64 0, .int .i64 0, .int .i64 0], boxA b11 44 [.int .i64 ((F.getD i (0, 0, 0)).1), .int .i64 ((F.getD i (0, 0, 0)).2.1), .int .i64 ((F.getD i (0, 0, 0)).2.2)], boxA b6 34 [.bool (decide (s < 0)), .slice p ((Big.digs ((s).natAbs)).length) c], mapA b23 (fun z : Int => .int .i64 z) (fun z : Int => .int .i64 z) (InK .i64) bm1, boxA b2 34 [.bool false, .slice none 0 0], boxA b1 25 [.slice pv nv cv, .slice pf nf cf]], [slF (rI .u32) pr0n7n1 cr0n7n2 (Big.digs ((qax - 0).natAbs)), slF (rI .u32) pr1n7n3 cr1n7n4 (Big.digs ((qay - 0).natAbs)), slF (rI .u32) pr2n7n5 cr2n7n6 (Big.digs ((qaz - 0).natAbs)), atF b19 o20 [.int .i64 qcx, .int .i64 qcy, .int .i64 qcz], atF b16 o17 [.int .i64 qbx, .int .i64 qby, .int .i64 qbz], atF b13 o14 [.int .i64 qax, .int .i64 qay, .int .i64 qaz], atF b8 o9 [.int .i64 ((F.getD i (0, 0, 0)).1), .int .i64 ((F.getD i (0, 0, 0)).2.1), .int .i64 ((F.getD i (0, 0, 0)).2.2)], slF (rI .u32) p c (Big.digs ((s).natAbs)), slF (rI .u32) p24 c25 (Big.digs ((0 : Int).natAbs)), slF (rI3 .i64) pv cv V, slF (rI3 .i64) pf cf F])) ?_ (fun hD30 => ?_)
    ·
     rintro ⟨pr0n7n1, cr0n7n2, pr1n7n3, cr1n7n4, pr2n7n5, cr2n7n6⟩
     dsimp only
     refine d_four 15 24 25 26 (by kernel_rfl) ?_ ?_ ?_ ?_
     ·
      refine o_callf rfl rfl rfl rfl (.c rfl (.c rfl .n)) ce58 (con_from (ex := 0) (ey := 0) (ez := 0) (fx := qbx) (fy := qby) (fz := qbz) (hbex := by omega) (hbey := by omega) (hbez := by omega) (hbfx := by omega) (hbfy := by omega) (hbfz := by omega)) (.n) ?_
      rintro ⟨pr0n15n1, cr0n15n2, pr1n15n3, cr1n15n4, pr2n15n5, cr2n15n6⟩ -
      dsimp only [List.append_eq, List.nil_append, List.cons_append]
      exact d_weakT (hD23 (pr0n7n1, cr0n7n2, pr1n7n3, cr1n7n4, pr2n7n5, cr2n7n6, pr0n15n1, cr0n15n2, pr1n15n3, cr1n15n4, pr2n15n5, cr2n15n6)) (by kernel_rfl) ((.of rfl) : SubM _ _) .rfl .rfl ((.of [0, 1, 2, 3, 4, 5, 6, 7, 8, 9, 10, 11, 12, 13] rfl) : SelR _ _ _)
     ·
      refine o_ef0W rfl rfl rfl rfl (ef_alloc zr89 rfl) (fun bn24n1 _ => ?_)
      exact d_weakT (hD24 (pr0n7n1, cr0n7n2, pr1n7n3, cr1n7n4, pr2n7n5, cr2n7n6, bn24n1)) (by kernel_rfl) ((.of rfl) : SubM _ _) .rfl .rfl ((.of [0, 1, 2, 3, 4, 5, 6, 7, 8, 9, 10] rfl) : SelR _ _ _)
     ·
      refine o_ef0W rfl rfl rfl rfl (ef_alloc zr89 rfl) (fun bn25n1 _ => ?_)
      exact d_weakT (hD25 (pr0n7n1, cr0n7n2, pr1n7n3, cr1n7n4, pr2n7n5, cr2n7n6, bn25n1)) (by kernel_rfl) ((.of rfl) : SubM _ _) .rfl .rfl ((.of [0, 1, 2, 3, 4, 5, 6, 7, 8, 9, 10] rfl) : SelR _ _ _)
     ·
      refine o_ef0W rfl rfl rfl rfl (ef_alloc zr89 rfl) (fun bn26n1 _ => ?_)
      exact d_weakT (hD26 (pr0n7n1, cr0n7n2, pr1n7n3, cr1n7n4, pr2n7n5, cr2n7n6, bn26n1)) (by kernel_rfl) ((.of rfl) : SubM _ _) .rfl .rfl ((.of [0, 1, 2, 3, 4, 5, 6, 7, 8, 9, 10] rfl) : SelR _ _ _)
    refine d_join (X := Nat) (k' := 8) (L' := #[true, true, true, true, true, true, true, false, true, true, true, true, true, true, true, false, true, true, true, true, true, true, true, false, true, false, false, false, false, false]) (fun bn24n1 => ([(9, .pointer (some ⟨bn24n1, 0, none⟩)), (54, .agg #[.int .i64 qcx, .int .i64 qcy, .int .i64 qcz]), (53, .pointer (some ⟨b19, o20, none⟩)), (52, .int .i64 ((F.getD i (0, 0, 0)).2.2)), (51, .pointer (some ⟨b11, 2, none⟩)), (50, .slice pv nv cv), (49, .pointer (some ⟨b1, 0, none⟩)), (48, .agg #[.int .i64 0, .int .i64 0, .int .i64 0]), (46, .agg #[.int .i64 qbx, .int .i64 qby, .int .i64 qbz]), (45, .pointer (some ⟨b16, o17, none⟩)), (44, .int .i64 ((F.getD i (0, 0, 0)).2.1)), (43, .pointer (some ⟨b11, 1, none⟩)), (42, .slice pv nv cv), (41, .pointer (some ⟨b1, 0, none⟩)), (40, .agg #[.int .i64 0, .int .i64 0, .int .i64 0]), (38, .agg #[.int .i64 qax, .int .i64 qay, .int .i64 qaz]), (37, .pointer (some ⟨b13, o14, none⟩)), (36, .int .i64 ((F.getD i (0, 0, 0)).1)), (35, .pointer (some ⟨b11, 0, none⟩)), (34, .slice pv nv cv), (33, .pointer (some ⟨b1, 0, none⟩)), (32, .agg #[.int .i64 0, .int .i64 0, .int .i64 0]), (8, .pointer (some ⟨b12, 0, none⟩)), (31, .agg #[.int .i64 0, .int .i64 0, .int .i64 0]), (7, .pointer (some ⟨b11, 0, none⟩)), (30, .agg #[.int .i64 ((F.getD i (0, 0, 0)).1), .int .i64 ((F.getD i (0, 0, 0)).2.1), .int .i64 ((F.getD i (0, 0, 0)).2.2)]), (29, .pointer (some ⟨b8, o9, none⟩)), (28, .bool (decide (((i : Nat) : Int) < ((nf : Nat) : Int)))), (27, .int .i64 ((i : Nat) : Int)), (26, .int .i64 ((nf : Nat) : Int)), (25, .slice pf nf cf), (5, .pointer (some ⟨b6, 0, none⟩)), (3, .int .i64 0), (2, .pointer (some ⟨b2, 0, none⟩)), (1, .pointer (some ⟨b1, 0, none⟩))], [boxA bn24n1 89 [.bool false, .slice none 0 0, .bool false, .slice none 0 0, .bool false, .slice none 0 0]], [boxA b12 42 [.int .i64 0, .int .i64 0, .int .i64 0], boxA b11 44 [.int .i64 ((F.getD i (0, 0, 0)).1), .int .i64 ((F.getD i (0, 0, 0)).2.1), .int .i64 ((F.getD i (0, 0, 0)).2.2)], boxA b6 34 [.bool (decide (s < 0)), .slice p ((Big.digs ((s).natAbs)).length) c], mapA b23 (fun z : Int => .int .i64 z) (fun z : Int => .int .i64 z) (InK .i64) bm1, boxA b2 34 [.bool false, .slice none 0 0], boxA b1 25 [.slice pv nv cv, .slice pf nf cf]], [atF b19 o20 [.int .i64 qcx, .int .i64 qcy, .int .i64 qcz], atF b16 o17 [.int .i64 qbx, .int .i64 qby, .int .i64 qbz], atF b13 o14 [.int .i64 qax, .int .i64 qay, .int .i64 qaz], atF b8 o9 [.int .i64 ((F.getD i (0, 0, 0)).1), .int .i64 ((F.getD i (0, 0, 0)).2.1), .int .i64 ((F.getD i (0, 0, 0)).2.2)], slF (rI .u32) p c (Big.digs ((s).natAbs)), slF (rI .u32) p24 c25 (Big.digs ((0 : Int).natAbs)), slF (rI3 .i64) pv cv V, slF (rI3 .i64) pf cf F])) ?_ (fun hD31 => ?_)
    ·
     rintro bn24n1
     dsimp only
     refine d_three 7 25 26 (by kernel_rfl) ?_ ?_ ?_
     ·
      refine o_callf rfl rfl rfl rfl (.c rfl (.c rfl .n)) ce58 (con_from (ex := 0) (ey := 0) (ez := 0) (fx := qax) (fy := qay) (fz := qaz) (hbex := by omega) (hbey := by omega) (hbez := by omega) (hbfx := by omega) (hbfy := by omega) (hbfz := by omega)) (.n) ?_
      rintro ⟨pr0n7n1, cr0n7n2, pr1n7n3, cr1n7n4, pr2n7n5, cr2n7n6⟩ -
      dsimp only [List.append_eq, List.nil_append, List.cons_append]
      exact d_weakT (hD24 (pr0n7n1, cr0n7n2, pr1n7n3, cr1n7n4, pr2n7n5, cr2n7n6, bn24n1)) (by kernel_rfl) ((.of rfl) : SubM _ _) .rfl .rfl ((.of [0, 1, 2, 3, 4, 5, 6, 7, 8, 9, 10] rfl) : SelR _ _ _)
     ·
      refine o_ef0W rfl rfl rfl rfl (ef_alloc zr89 rfl) (fun bn25n1 _ => ?_)
      exact d_weakT (hD27 (bn24n1, bn25n1)) (by kernel_rfl) ((.of rfl) : SubM _ _) .rfl .rfl ((.of [0, 1, 2, 3, 4, 5, 6, 7] rfl) : SelR _ _ _)
     ·
      refine o_ef0W rfl rfl rfl rfl (ef_alloc zr89 rfl) (fun bn26n1 _ => ?_)
      exact d_weakT (hD28 (bn24n1, bn26n1)) (by kernel_rfl) ((.of rfl) : SubM _ _) .rfl .rfl ((.of [0, 1, 2, 3, 4, 5, 6, 7] rfl) : SelR _ _ _)
    refine d_join (X := Nat) (k' := 8) (L' := #[true, true, true, true, true, true, true, false, true, true, true, true, true, true, true, false, true, true, true, true, true, true, true, false, false, true, false, false, false, false]) (fun bn25n1 => ([(10, .pointer (some ⟨bn25n1, 0, none⟩)), (54, .agg #[.int .i64 qcx, .int .i64 qcy, .int .i64 qcz]), (53, .pointer (some ⟨b19, o20, none⟩)), (52, .int .i64 ((F.getD i (0, 0, 0)).2.2)), (51, .pointer (some ⟨b11, 2, none⟩)), (50, .slice pv nv cv), (49, .pointer (some ⟨b1, 0, none⟩)), (48, .agg #[.int .i64 0, .int .i64 0, .int .i64 0]), (46, .agg #[.int .i64 qbx, .int .i64 qby, .int .i64 qbz]), (45, .pointer (some ⟨b16, o17, none⟩)), (44, .int .i64 ((F.getD i (0, 0, 0)).2.1)), (43, .pointer (some ⟨b11, 1, none⟩)), (42, .slice pv nv cv), (41, .pointer (some ⟨b1, 0, none⟩)), (40, .agg #[.int .i64 0, .int .i64 0, .int .i64 0]), (38, .agg #[.int .i64 qax, .int .i64 qay, .int .i64 qaz]), (37, .pointer (some ⟨b13, o14, none⟩)), (36, .int .i64 ((F.getD i (0, 0, 0)).1)), (35, .pointer (some ⟨b11, 0, none⟩)), (34, .slice pv nv cv), (33, .pointer (some ⟨b1, 0, none⟩)), (32, .agg #[.int .i64 0, .int .i64 0, .int .i64 0]), (8, .pointer (some ⟨b12, 0, none⟩)), (31, .agg #[.int .i64 0, .int .i64 0, .int .i64 0]), (7, .pointer (some ⟨b11, 0, none⟩)), (30, .agg #[.int .i64 ((F.getD i (0, 0, 0)).1), .int .i64 ((F.getD i (0, 0, 0)).2.1), .int .i64 ((F.getD i (0, 0, 0)).2.2)]), (29, .pointer (some ⟨b8, o9, none⟩)), (28, .bool (decide (((i : Nat) : Int) < ((nf : Nat) : Int)))), (27, .int .i64 ((i : Nat) : Int)), (26, .int .i64 ((nf : Nat) : Int)), (25, .slice pf nf cf), (5, .pointer (some ⟨b6, 0, none⟩)), (3, .int .i64 0), (2, .pointer (some ⟨b2, 0, none⟩)), (1, .pointer (some ⟨b1, 0, none⟩))], [boxA bn25n1 89 [.bool false, .slice none 0 0, .bool false, .slice none 0 0, .bool false, .slice none 0 0]], [boxA b12 42 [.int .i64 0, .int .i64 0, .int .i64 0], boxA b11 44 [.int .i64 ((F.getD i (0, 0, 0)).1), .int .i64 ((F.getD i (0, 0, 0)).2.1), .int .i64 ((F.getD i (0, 0, 0)).2.2)], boxA b6 34 [.bool (decide (s < 0)), .slice p ((Big.digs ((s).natAbs)).length) c], mapA b23 (fun z : Int => .int .i64 z) (fun z : Int => .int .i64 z) (InK .i64) bm1, boxA b2 34 [.bool false, .slice none 0 0], boxA b1 25 [.slice pv nv cv, .slice pf nf cf]], [atF b19 o20 [.int .i64 qcx, .int .i64 qcy, .int .i64 qcz], atF b16 o17 [.int .i64 qbx, .int .i64 qby, .int .i64 qbz], atF b13 o14 [.int .i64 qax, .int .i64 qay, .int .i64 qaz], atF b8 o9 [.int .i64 ((F.getD i (0, 0, 0)).1), .int .i64 ((F.getD i (0, 0, 0)).2.1), .int .i64 ((F.getD i (0, 0, 0)).2.2)], slF (rI .u32) p c (Big.digs ((s).natAbs)), slF (rI .u32) p24 c25 (Big.digs ((0 : Int).natAbs)), slF (rI3 .i64) pv cv V, slF (rI3 .i64) pf cf F])) ?_ (fun hD32 => ?_)
    ·
     rintro bn25n1
     dsimp only
     refine d_three 7 24 26 (by kernel_rfl) ?_ ?_ ?_
     ·
      refine o_callf rfl rfl rfl rfl (.c rfl (.c rfl .n)) ce58 (con_from (ex := 0) (ey := 0) (ez := 0) (fx := qax) (fy := qay) (fz := qaz) (hbex := by omega) (hbey := by omega) (hbez := by omega) (hbfx := by omega) (hbfy := by omega) (hbfz := by omega)) (.n) ?_
      rintro ⟨pr0n7n1, cr0n7n2, pr1n7n3, cr1n7n4, pr2n7n5, cr2n7n6⟩ -
      dsimp only [List.append_eq, List.nil_append, List.cons_append]
      exact d_weakT (hD25 (pr0n7n1, cr0n7n2, pr1n7n3, cr1n7n4, pr2n7n5, cr2n7n6, bn25n1)) (by kernel_rfl) ((.of rfl) : SubM _ _) .rfl .rfl ((.of [0, 1, 2, 3, 4, 5, 6, 7, 8, 9, 10] rfl) : SelR _ _ _)
     ·
      refine o_ef0W rfl rfl rfl rfl (ef_alloc zr89 rfl) (fun bn24n1 _ => ?_)
      exact d_weakT (hD27 (bn24n1, bn25n1)) (by kernel_rfl) ((.of rfl) : SubM _ _) (perm_c 1 rfl (perm_c 0 rfl .nil)) .rfl ((.of [0, 1, 2, 3, 4, 5, 6, 7] rfl) : SelR _ _ _)
     ·
      refine o_ef0W rfl rfl rfl rfl (ef_alloc zr89 rfl) (fun bn26n1 _ => ?_)
      exact d_weakT (hD29 (bn25n1, bn26n1)) (by kernel_rfl) ((.of rfl) : SubM _ _) .rfl .rfl ((.of [0, 1, 2, 3, 4, 5, 6, 7] rfl) : SelR _ _ _)
    refine d_join (X := Nat) (k' := 8) (L' := #[true, true, true, true, true, true, true, false, true, true, true, true, true, true, true, false, true, true, true, true, true, true, true, false, false, false, true, false, false, false]) (fun bn26n1 => ([(11, .pointer (some ⟨bn26n1, 0, none⟩)), (54, .agg #[.int .i64 qcx, .int .i64 qcy, .int .i64 qcz]), (53, .pointer (some ⟨b19, o20, none⟩)), (52, .int .i64 ((F.getD i (0, 0, 0)).2.2)), (51, .pointer (some ⟨b11, 2, none⟩)), (50, .slice pv nv cv), (49, .pointer (some ⟨b1, 0, none⟩)), (48, .agg #[.int .i64 0, .int .i64 0, .int .i64 0]), (46, .agg #[.int .i64 qbx, .int .i64 qby, .int .i64 qbz]), (45, .pointer (some ⟨b16, o17, none⟩)), (44, .int .i64 ((F.getD i (0, 0, 0)).2.1)), (43, .pointer (some ⟨b11, 1, none⟩)), (42, .slice pv nv cv), (41, .pointer (some ⟨b1, 0, none⟩)), (40, .agg #[.int .i64 0, .int .i64 0, .int .i64 0]), (38, .agg #[.int .i64 qax, .int .i64 qay, .int .i64 qaz]), (37, .pointer (some ⟨b13, o14, none⟩)), (36, .int .i64 ((F.getD i (0, 0, 0)).1)), (35, .pointer (some ⟨b11, 0, none⟩)), (34, .slice pv nv cv), (33, .pointer (some ⟨b1, 0, none⟩)), (32, .agg #[.int .i64 0, .int .i64 0, .int .i64 0]), (8, .pointer (some ⟨b12, 0, none⟩)), (31, .agg #[.int .i64 0, .int .i64 0, .int .i64 0]), (7, .pointer (some ⟨b11, 0, none⟩)), (30, .agg #[.int .i64 ((F.getD i (0, 0, 0)).1), .int .i64 ((F.getD i (0, 0, 0)).2.1), .int .i64 ((F.getD i (0, 0, 0)).2.2)]), (29, .pointer (some ⟨b8, o9, none⟩)), (28, .bool (decide (((i : Nat) : Int) < ((nf : Nat) : Int)))), (27, .int .i64 ((i : Nat) : Int)), (26, .int .i64 ((nf : Nat) : Int)), (25, .slice pf nf cf), (5, .pointer (some ⟨b6, 0, none⟩)), (3, .int .i64 0), (2, .pointer (some ⟨b2, 0, none⟩)), (1, .pointer (some ⟨b1, 0, none⟩))], [boxA bn26n1 89 [.bool false, .slice none 0 0, .bool false, .slice none 0 0, .bool false, .slice none 0 0]], [boxA b12 42 [.int .i64 0, .int .i64 0, .int .i64 0], boxA b11 44 [.int .i64 ((F.getD i (0, 0, 0)).1), .int .i64 ((F.getD i (0, 0, 0)).2.1), .int .i64 ((F.getD i (0, 0, 0)).2.2)], boxA b6 34 [.bool (decide (s < 0)), .slice p ((Big.digs ((s).natAbs)).length) c], mapA b23 (fun z : Int => .int .i64 z) (fun z : Int => .int .i64 z) (InK .i64) bm1, boxA b2 34 [.bool false, .slice none 0 0], boxA b1 25 [.slice pv nv cv, .slice pf nf cf]], [atF b19 o20 [.int .i64 qcx, .int .i64 qcy, .int .i64 qcz], atF b16 o17 [.int .i64 qbx, .int .i64 qby, .int .i64 qbz], atF b13 o14 [.int .i64 qax, .int .i64 qay, .int .i64 qaz], atF b8 o9 [.int .i64 ((F.getD i (0, 0, 0)).1), .int .i64 ((F.getD i (0, 0, 0)).2.1), .int .i64 ((F.getD i (0, 0, 0)).2.2)], slF (rI .u32) p c (Big.digs ((s).natAbs)), slF (rI .u32) p24 c25 (Big.digs ((0 : Int).natAbs)), slF (rI3 .i64) pv cv V, slF (rI3 .i64) pf cf F])) ?_ (fun hD33 => ?_)
    ·
     rintro bn26n1
     dsimp only
     refine d_three 7 24 25 (by kernel_rfl) ?_ ?_ ?_
     ·
      refine o_callf rfl rfl rfl rfl (.c rfl (.c rfl .n)) ce58 (con_from (ex := 0) (ey := 0) (ez := 0) (fx := qax) (fy := qay) (fz := qaz) (hbex := by omega) (hbey := by omega) (hbez := by omega) (hbfx := by omega) (hbfy := by omega) (hbfz := by omega)) (.n) ?_
      rintro ⟨pr0n7n1, cr0n7n2, pr1n7n3, cr1n7n4, pr2n7n5, cr2n7n6⟩ -
      dsimp only [List.append_eq, List.nil_append, List.cons_append]
      exact d_weakT (hD26 (pr0n7n1, cr0n7n2, pr1n7n3, cr1n7n4, pr2n7n5, cr2n7n6, bn26n1)) (by kernel_rfl) ((.of rfl) : SubM _ _) .rfl .rfl ((.of [0, 1, 2, 3, 4, 5, 6, 7, 8, 9, 10] rfl) : SelR _ _ _)
     ·
      refine o_ef0W rfl rfl rfl rfl (ef_alloc zr89 rfl) (fun bn24n1 _ => ?_)
      exact d_weakT (hD28 (bn24n1, bn26n1)) (by kernel_rfl) ((.of rfl) : SubM _ _) (perm_c 1 rfl (perm_c 0 rfl .nil)) .rfl ((.of [0, 1, 2, 3, 4, 5, 6, 7] rfl) : SelR _ _ _)
     ·
      refine o_ef0W rfl rfl rfl rfl (ef_alloc zr89 rfl) (fun bn25n1 _ => ?_)
      exact d_weakT (hD29 (bn25n1, bn26n1)) (by kernel_rfl) ((.of rfl) : SubM _ _) (perm_c 1 rfl (perm_c 0 rfl .nil)) .rfl ((.of [0, 1, 2, 3, 4, 5, 6, 7] rfl) : SelR _ _ _)
    refine d_four 7 24 25 26 (by kernel_rfl) ?_ ?_ ?_ ?_
    ·
     refine o_callf rfl rfl rfl rfl (.c rfl (.c rfl .n)) ce58 (con_from (ex := 0) (ey := 0) (ez := 0) (fx := qax) (fy := qay) (fz := qaz) (hbex := by omega) (hbey := by omega) (hbez := by omega) (hbfx := by omega) (hbfy := by omega) (hbfz := by omega)) (.n) ?_
     rintro ⟨pr0n7n1, cr0n7n2, pr1n7n3, cr1n7n4, pr2n7n5, cr2n7n6⟩ -
     dsimp only [List.append_eq, List.nil_append, List.cons_append]
     exact d_weakT (hD30 (pr0n7n1, cr0n7n2, pr1n7n3, cr1n7n4, pr2n7n5, cr2n7n6)) (by kernel_rfl) ((.of rfl) : SubM _ _) .rfl .rfl ((.of [0, 1, 2, 3, 4, 5, 6, 7, 8, 9, 10] rfl) : SelR _ _ _)
    ·
     refine o_ef0W rfl rfl rfl rfl (ef_alloc zr89 rfl) (fun bn24n1 _ => ?_)
     exact d_weakT (hD31 bn24n1) (by kernel_rfl) ((.of rfl) : SubM _ _) .rfl .rfl ((.of [0, 1, 2, 3, 4, 5, 6, 7] rfl) : SelR _ _ _)
    ·
     refine o_ef0W rfl rfl rfl rfl (ef_alloc zr89 rfl) (fun bn25n1 _ => ?_)
     exact d_weakT (hD32 bn25n1) (by kernel_rfl) ((.of rfl) : SubM _ _) .rfl .rfl ((.of [0, 1, 2, 3, 4, 5, 6, 7] rfl) : SelR _ _ _)
    ·
     refine o_ef0W rfl rfl rfl rfl (ef_alloc zr89 rfl) (fun bn26n1 _ => ?_)
     exact d_weakT (hD33 bn26n1) (by kernel_rfl) ((.of rfl) : SubM _ _) .rfl .rfl ((.of [0, 1, 2, 3, 4, 5, 6, 7] rfl) : SelR _ _ _)
   ·
    refine r_exit ?_
    refine p_then_exit ?_
    refine p_then_exit ?_
    refine p_block_here ?_
    refine p_then ?_
    refine r_seq ?_
    refine r_region ?_
    refine r_u rfl rfl (vl_load_box_agg 0 ty34 rfl rfl (.take (.take .nil))) ?_
    refine r_store_box 2 rfl rfl rfl rfl rfl sz34 rfl (.take (.take .nil)) (.s (.s .z)) ?_
    refine r_pv rfl rfl (pv_assign rfl) ?_
    refine r_nil ?_
    refine p_then ?_
    refine r_ret ?_
    obtain ⟨hz1, hz2⟩ := Ms.volC_ok hc0 (fun h => hlen (by have := hB.empty.2 h; omega))
    have hs9 : s = Ms.vol V F := by rw [hz2, hs, List.take_of_length_le (by omega)]
    exact p_ret2 Try.results16 (p, c) trivial (res_box_agg 2 ty34 rfl rfl (.take (.take .nil))) (res_tmp rfl) (by rw [hz1, ← hs9]) (ho := (.n : PickO _ _ _)) ((.e (j := 0) rfl (by rw [← hs9]) .n) : SelR _ _ _)
theorem con_lvolume {pv : Option Addr} {nv : Nat} {cv : Nat} {V : List (Int × Int × Int)} {pf : Option Addr} {nf : Nat} {cf : Nat} {F : List (Int × Int × Int)} (hnv : V.length = nv) (hnf : F.length = nf) (hg : Ms.Good V F) : Con Try.prog 19 [.agg #[.slice pv nv cv, .slice pf nf cf]] [] [slF (rI3 .i64) pv cv V, slF (rI3 .i64) pf cf F] (Y := (Option Addr) × Nat) (fun y => True) (fun y => .agg #[.bool (decide ((Ms.volS V F) < 0)), .slice (y.1) ((Big.digs ((Ms.volS V F).natAbs)).length) (y.2)]) (fun y => []) (fun y => [slF (rI .u32) (y.1) (y.2) (Big.digs ((Ms.volS V F).natAbs))]) := by
 refine con_intro Try.func19 rfl rfl rfl (fun c => ?_)
 show RunC _ _ _ _ _ [(0, .agg #[.slice pv nv cv, .slice pf nf cf])] [] [slF (rI3 .i64) pv cv V, slF (rI3 .i64) pf cf F]
 refine c_len 0 rfl (fun hL0 => ?_)
 refine c_len 1 rfl (fun hL1 => ?_)
 have hnv5 : nv ≤ 512 := by have := hg.nv; omega
 have hnf5 : nf ≤ 1024 := by have := hg.nf; omega
 refine r_seq ?_
 refine r_region ?_
 refine r_new rfl rfl (ef_box rfl rfl) (fun b1 => ?_)
 refine r_new rfl rfl (ef_alloc zr34 rfl) (fun b2 => ?_)
 refine r_nil ?_
 refine p_then ?_
 refine r_seq ?_
 refine r_region ?_
 refine r_callf rfl rfl (.c rfl .n) ce45 (rcon_Of (z := (0 : Int)) (hz := by first | rfl | assumption | omega | (refine Nat.le_trans (Big.ln_det (by omega) (by omega) (by omega) (by omega) (by omega) (by omega) (by omega) (by omega) (by omega)) (by decide)))) (.n) ?_
 rintro ⟨p23, c24⟩ -
 dsimp only [List.append_eq, List.nil_append, List.cons_append]
 refine r_new rfl rfl (ef_alloc zr34 rfl) (fun b5 => ?_)
 refine r_store_box 0 rfl rfl rfl rfl rfl sz34 rfl (.take (.take .nil)) .z ?_
 refine r_nil ?_
 refine p_then ?_
 refine r_seq ?_
 refine r_seq ?_
 refine r_region ?_
 refine r_pv rfl rfl (pv_fieldAddr Try.underlying25 rfl sz23 rfl rfl) ?_
 refine r_u rfl rfl (vl_load_box_one 2 ty23 rfl rfl rfl) ?_
 refine r_pv rfl rfl (pv_len Try.underlying23 rfl) ?_
 refine r_pv rfl rfl (pv_move rfl) ?_
 refine r_nil ?_
 refine p_then ?_
 refine r_block ?_
 refine r_loop (X := Nat × Int × (Option Addr) × Nat) (fun x : Nat × Int × (Option Addr) × Nat => x.1 ≤ nf ∧ x.2.1 = Ms.volS V (F.take x.1) ∧ Big.ln x.2.1 ≤ 4000 + x.1) (fun x => [(11, .int .i64 ((x.1 : Nat) : Int)), (10, .int .i64 ((nf : Nat) : Int)), (9, .slice pf nf cf), (3, .pointer (some ⟨b5, 0, none⟩)), (2, .pointer (some ⟨b2, 0, none⟩)), (1, .pointer (some ⟨b1, 0, none⟩))]) (fun x => [boxA b5 34 [.bool (decide ((x.2.1) < 0)), .slice (x.2.2.1) ((Big.digs ((x.2.1).natAbs)).length) (x.2.2.2)], boxA b2 34 [.bool false, .slice none 0 0], boxA b1 25 [.slice pv nv cv, .slice pf nf cf]]) (fun x => [slF (rI .u32) (x.2.2.1) (x.2.2.2) (Big.digs ((x.2.1).natAbs)), slF (rI .u32) p23 c24 (Big.digs ((0 : Int).natAbs)), slF (rI3 .i64) pv cv V, slF (rI3 .i64) pf cf F]) (fun x : Nat × Int × (Option Addr) × Nat => nf - x.1) (0, (0 : Int), p23, c24) (show 0 ≤ nf ∧ (0 : Int) = Ms.volS V (F.take 0) ∧ Big.ln (0 : Int) ≤ 4000 + 0 from by exact ⟨Nat.zero_le _, rfl, by rw [Big.ln_zero]; omega⟩) ((.e rfl (by first | rfl | (congr 1; omega) | simp_all) (.of rfl)) : SubM _ _) (ho := ((.of [0, 0, 0] rfl) : PickO _ _ _)) ((.of [0, 0, 1, 2] rfl) : SelR _ _ _) ?_
 rintro ⟨i, s, p, c⟩ hI
 replace hI : i ≤ nf ∧ s = Ms.volS V (F.take i) ∧ Big.ln s ≤ 4000 + i := hI
 show RunC _ _ _ _ _ [(11, .int .i64 ((i : Nat) : Int)), (10, .int .i64 ((nf : Nat) : Int)), (9, .slice pf nf cf), (3, .pointer (some ⟨b5, 0, none⟩)), (2, .pointer (some ⟨b2, 0, none⟩)), (1, .pointer (some ⟨b1, 0, none⟩))] [boxA b5 34 [.bool (decide (s < 0)), .slice p ((Big.digs ((s).natAbs)).length) c], boxA b2 34 [.bool false, .slice none 0 0], boxA b1 25 [.slice pv nv cv, .slice pf nf cf]] [slF (rI .u32) p c (Big.digs ((s).natAbs)), slF (rI .u32) p23 c24 (Big.digs ((0 : Int).natAbs)), slF (rI3 .i64) pv cv V, slF (rI3 .i64) pf cf F]
 obtain ⟨hi, hs, hln⟩ := hI
 refine r_seq ?_
 refine r_region ?_
 refine r_pv rfl rfl (pv_lss rfl rfl) ?_
 refine r_nil ?_
 refine p_then ?_
 refine r_seq ?_
 refine r_cond rfl (fun h6 => ?_) (fun h6 => ?_)
 ·
  have hat := hg.at (show i < F.length by omega)
  have hv0 := hg.vat (i := ((F.getD i (0, 0, 0)).1).toNat) (by omega)
  have hv1 := hg.vat (i := ((F.getD i (0, 0, 0)).2.1).toNat) (by omega)
  have hv2 := hg.vat (i := ((F.getD i (0, 0, 0)).2.2).toNat) (by omega)
  refine r_skip ?_
  refine p_then ?_
  refine r_seq ?_
  refine r_block ?_
  refine r_seq ?_
  refine r_region ?_
  refine r_index_fl (x0 := (F.getD i (0, 0, 0))) 3 i rfl Try.underlying23 sz44 rfl rfl rfl (by first | rfl | assumption | (simp_all; done) | omega) rfl rfl (gD (d := (0, 0, 0)) (by omega)) (fun b7 o8 hok9 => ?_)
  obtain ⟨hok9x, hok9y, hok9z⟩ := hok9
  replace hok9x := inK_i64.1 hok9x
  replace hok9y := inK_i64.1 hok9y
  replace hok9z := inK_i64.1 hok9z
  refine r_u rfl rfl (vl_load_at_agg (j := 0) 0 ty44 rfl rfl rfl (.take (.take (.take .nil)))) ?_
  refine r_new rfl rfl (ef_alloc zr44 rfl) (fun b10 => ?_)
  refine r_store_box 0 rfl rfl rfl rfl rfl sz44 rfl (.take (.take (.take .nil))) .z ?_
  refine r_nil ?_
  refine p_then ?_
  refine r_seq ?_
  refine r_region ?_
  refine r_pv rfl rfl (pv_build_struct zr42 rfl Try.underlying42 (.c sz3 (.c sz3 (.c sz3 .n))) .n .n) ?_
  refine r_new rfl rfl (ef_alloc zr42 rfl) (fun b11 => ?_)
  refine r_store_box 0 rfl rfl rfl rfl rfl sz42 rfl (.take (.take (.take .nil))) .z ?_
  refine r_nil ?_
  refine p_then ?_
  refine r_weakO (.c (i := 2) rfl (.c (i := 0) rfl (.c (i := 0) rfl (.c (i := 0) rfl (.c (i := 0) rfl .n))))) ?_
  refine r_draw (OW := [boxA b5 34 [.bool (decide (s < 0)), .slice p ((Big.digs ((s).natAbs)).length) c]]) (O := [boxA b11 42 [.int .i64 0, .int .i64 0, .int .i64 0], boxA b10 44 [.int .i64 ((F.getD i (0, 0, 0)).1), .int .i64 ((F.getD i (0, 0, 0)).2.1), .int .i64 ((F.getD i (0, 0, 0)).2.2)], boxA b2 34 [.bool false, .slice none 0 0], boxA b1 25 [.slice pv nv cv, .slice pf nf cf]]) 27 mixed (.block (.then (.then (.block (.then .ret))))) (by kernel_rfl) ?_
  refine d_uw 0 rfl rfl (by kernel_rfl) (by kernel_rfl) (by kernel_rfl) rfl rfl (vl_load_box_agg 0 ty34 rfl rfl (.take (.take .nil))) ?_
  refine d_pv 1 rfl rfl (by kernel_rfl) (by kernel_rfl) rfl rfl (pv_fieldAddr Try.underlying25 rfl sz22 rfl rfl) ?_
  refine d_uw 2 rfl rfl (by kernel_rfl) (by kernel_rfl) (by kernel_rfl) rfl rfl (vl_load_box_one 4 ty22 rfl rfl rfl) ?_
  refine d_pv 3 rfl rfl (by kernel_rfl) (by kernel_rfl) rfl rfl (pv_indexAddr_arr (i := 0) Try.underlying44 sz3 rfl rfl (by decide) rfl) ?_
  refine d_uw 4 rfl rfl (by kernel_rfl) (by kernel_rfl) (by kernel_rfl) rfl rfl (vl_load_box_one 2 ty3 rfl rfl rfl) ?_
  refine d_index_fl (x0 := (V.getD (((F.getD i (0, 0, 0)).1).toNat) (0, 0, 0))) 5 rfl rfl (by kernel_rfl) (by kernel_rfl) 3 (((F.getD i (0, 0, 0)).1).toNat) rfl Try.underlying22 sz42 rfl rfl rfl (by first | rfl | assumption | (simp_all; done) | omega) rfl (by omega) (gD (d := (0, 0, 0)) (by omega)) (fun b12 o13 hok14 => ?_)
  obtain ⟨hok14x, hok14y, hok14z⟩ := hok14
  replace hok14x := inK_i64.1 hok14x
  replace hok14y := inK_i64.1 hok14y
  replace hok14z := inK_i64.1 hok14z
  refine d_u 6 rfl rfl (by kernel_rfl) (by kernel_rfl) rfl rfl (vl_load_at_agg (j := 0) 0 ty42 rfl rfl rfl (.take (.take (.take .nil)))) ?_
  refine d_uw 7 rfl rfl (by kernel_rfl) (by kernel_rfl) (by kernel_rfl) rfl rfl (vl_load_box_agg 1 ty42 rfl rfl (.take (.take (.take .nil)))) ?_
  refine d_pv 9 rfl rfl (by kernel_rfl) (by kernel_rfl) rfl rfl (pv_fieldAddr Try.underlying25 rfl sz22 rfl rfl) ?_
  refine d_uw 10 rfl rfl (by kernel_rfl) (by kernel_rfl) (by kernel_rfl) rfl rfl (vl_load_box_one 4 ty22 rfl rfl rfl) ?_
  refine d_pv 11 rfl rfl (by kernel_rfl) (by kernel_rfl) rfl rfl (pv_indexAddr_arr (i := 1) Try.underlying44 sz3 rfl rfl (by decide) rfl) ?_
  refine d_uw 12 rfl rfl (by kernel_rfl) (by kernel_rfl) (by kernel_rfl) rfl rfl (vl_load_box_one 2 ty3 rfl rfl rfl) ?_
  refine d_index_fl (x0 := (V.getD (((F.getD i (0, 0, 0)).2.1).toNat) (0, 0, 0))) 13 rfl rfl (by kernel_rfl) (by kernel_rfl) 4 (((F.getD i (0, 0, 0)).2.1).toNat) rfl Try.underlying22 sz42 rfl rfl rfl (by first | rfl | assumption | (simp_all; done) | omega) rfl (by omega) (gD (d := (0, 0, 0)) (by omega)) (fun b15 o16 hok17 => ?_)
  obtain ⟨hok17x, hok17y, hok17z⟩ := hok17
  replace hok17x := inK_i64.1 hok17x
  replace hok17y := inK_i64.1 hok17y
  replace hok17z := inK_i64.1 hok17z
  refine d_u 14 rfl rfl (by kernel_rfl) (by kernel_rfl) rfl rfl (vl_load_at_agg (j := 0) 0 ty42 rfl rfl rfl (.take (.take (.take .nil)))) ?_
  refine d_uw 15 rfl rfl (by kernel_rfl) (by kernel_rfl) (by kernel_rfl) rfl rfl (vl_load_box_agg 1 ty42 rfl rfl (.take (.take (.take .nil)))) ?_
  refine d_pv 17 rfl rfl (by kernel_rfl) (by kernel_rfl) rfl rfl (pv_fieldAddr Try.underlying25 rfl sz22 rfl rfl) ?_
  refine d_uw 18 rfl rfl (by kernel_rfl) (by kernel_rfl) (by kernel_rfl) rfl rfl (vl_load_box_one 4 ty22 rfl rfl rfl) ?_
  refine d_pv 19 rfl rfl (by kernel_rfl) (by kernel_rfl) rfl rfl (pv_indexAddr_arr (i := 2) Try.underlying44 sz3 rfl rfl (by decide) rfl) ?_
  refine d_uw 20 rfl rfl (by kernel_rfl) (by kernel_rfl) (by kernel_rfl) rfl rfl (vl_load_box_one 2 ty3 rfl rfl rfl) ?_
  refine d_index_fl (x0 := (V.getD (((F.getD i (0, 0, 0)).2.2).toNat) (0, 0, 0))) 21 rfl rfl (by kernel_rfl) (by kernel_rfl) 5 (((F.getD i (0, 0, 0)).2.2).toNat) rfl Try.underlying22 sz42 rfl rfl rfl (by first | rfl | assumption | (simp_all; done) | omega) rfl (by omega) (gD (d := (0, 0, 0)) (by omega)) (fun b18 o19 hok20 => ?_)
  obtain ⟨hok20x, hok20y, hok20z⟩ := hok20
  replace hok20x := inK_i64.1 hok20x
  replace hok20y := inK_i64.1 hok20y
  replace hok20z := inK_i64.1 hok20z
  refine d_u 22 rfl rfl (by kernel_rfl) (by kernel_rfl) rfl rfl (vl_load_at_agg (j := 0) 0 ty42 rfl rfl rfl (.take (.take (.take .nil)))) ?_
  refine d_uw 23 rfl rfl (by kernel_rfl) (by kernel_rfl) (by kernel_rfl) rfl rfl (vl_load_box_agg 1 ty42 rfl rfl (.take (.take (.take .nil)))) ?_
  refine d_one 8 (by kernel_rfl) (o_call1 rfl rfl rfl rfl (.c rfl (.c rfl .n)) ce64 (con_less (ex := (V.getD (((F.getD i (0, 0, 0)).1).toNat) (0, 0, 0)).1) (ey := (V.getD (((F.getD i (0, 0, 0)).1).toNat) (0, 0, 0)).2.1) (ez := (V.getD (((F.getD i (0, 0, 0)).1).toNat) (0, 0, 0)).2.2) (fx := 0) (fy := 0) (fz := 0) (hbex := by first | rfl | assumption | omega | (refine Nat.le_trans (Big.ln_det (by omega) (by omega) (by omega) (by omega) (by omega) (by omega) (by omega) (by omega) (by omega)) (by decide))) (hbey := by first | rfl | assumption | omega | (refine Nat.le_trans (Big.ln_det (by omega) (by omega) (by omega) (by omega) (by omega) (by omega) (by omega) (by omega) (by omega)) (by decide))) (hbez := by first | rfl | assumption | omega | (refine Nat.le_trans (Big.ln_det (by omega) (by omega) (by omega) (by omega) (by omega) (by omega) (by omega) (by omega) (by omega)) (by decide))) (hbfx := by first | rfl | assumption | omega | (refine Nat.le_trans (Big.ln_det (by omega) (by omega) (by omega) (by omega) (by omega) (by omega) (by omega) (by omega) (by omega)) (by decide))) (hbfy := by first | rfl | assumption | omega | (refine Nat.le_trans (Big.ln_det (by omega) (by omega) (by omega) (by omega) (by omega) (by omega) (by omega) (by omega) (by omega)) (by decide))) (hbfz := by first | rfl | assumption | omega | (refine Nat.le_trans (Big.ln_det (by omega) (by omega) (by omega) (by omega) (by omega) (by omega) (by omega) (by omega) (by omega)) (by decide)))) (.n) ?_)
  refine d_one 16 (by kernel_rfl) (o_call1 rfl rfl rfl rfl (.c rfl (.c rfl .n)) ce64 (con_less (ex := (V.getD (((F.getD i (0, 0, 0)).2.1).toNat) (0, 0, 0)).1) (ey := (V.getD (((F.getD i (0, 0, 0)).2.1).toNat) (0, 0, 0)).2.1) (ez := (V.getD (((F.getD i (0, 0, 0)).2.1).toNat) (0, 0, 0)).2.2) (fx := 0) (fy := 0) (fz := 0) (hbex := by first | rfl | assumption | omega | (refine Nat.le_trans (Big.ln_det (by omega) (by omega) (by omega) (by omega) (by omega) (by omega) (by omega) (by omega) (by omega)) (by decide))) (hbey := by first | rfl | assumption | omega | (refine Nat.le_trans (Big.ln_det (by omega) (by omega) (by omega) (by omega) (by omega) (by omega) (by omega) (by omega) (by omega)) (by decide))) (hbez := by first | rfl | assumption | omega | (refine Nat.le_trans (Big.ln_det (by omega) (by omega) (by omega) (by omega) (by omega) (by omega) (by omega) (by omega) (by omega)) (by decide))) (hbfx := by first | rfl | assumption | omega | (refine Nat.le_trans (Big.ln_det (by omega) (by omega) (by omega) (by omega) (by omega) (by omega) (by omega) (by omega) (by omega)) (by decide))) (hbfy := by first | rfl | assumption | omega | (refine Nat.le_trans (Big.ln_det (by omega) (by omega) (by omega) (by omega) (by omega) (by omega) (by omega) (by omega) (by omega)) (by decide))) (hbfz := by first | rfl | assumption | omega | (refine Nat.le_trans (Big.ln_det (by omega) (by omega) (by omega) (by omega) (by omega) (by omega) (by omega) (by omega) (by omega)) (by decide)))) (.n) ?_)
  refine d_one 24 (by kernel_rfl) (o_call1 rfl rfl rfl rfl (.c rfl (.c rfl .n)) ce64 (con_less (ex := (V.getD (((F.getD i (0, 0, 0)).2.2).toNat) (0, 0, 0)).1) (ey := (V.getD (((F.getD i (0, 0, 0)).2.2).toNat) (0, 0, 0)).2.1) (ez := (V.getD (((F.getD i (0, 0, 0)).2.2).toNat) (0, 0, 0)).2.2) (fx := 0) (fy := 0) (fz := 0) (hbex := by first | rfl | assumption | omega | (refine Nat.le_trans (Big.ln_det (by omega) (by omega) (by omega) (by omega) (by omega) (by omega) (by omega) (by omega) (by omega)) (by decide))) (hbey := by first | rfl | assumption | omega | (refine Nat.le_trans (Big.ln_det (by omega) (by omega) (by omega) (by omega) (by omega) (by omega) (by omega) (by omega) (by omega)) (by decide))) (hbez := by first | rfl | assumption | omega | (refine Nat.le_trans (Big.ln_det (by omega) (by omega) (by omega) (by omega) (by omega) (by omega) (by omega) (by omega) (by omega)) (by decide))) (hbfx := by first | rfl | assumption | omega | (refine Nat.le_trans (Big.ln_det (by omega) (by omega) (by omega) (by omega) (by omega) (by omega) (by omega) (by omega) (by omega)) (by decide))) (hbfy := by first | rfl | assumption | omega | (refine Nat.le_trans (Big.ln_det (by omega) (by omega) (by omega) (by omega) (by omega) (by omega) (by omega) (by omega) (by omega)) (by decide))) (hbfz := by first | rfl | assumption | omega | (refine Nat.le_trans (Big.ln_det (by omega) (by omega) (by omega) (by omega) (by omega) (by omega) (by omega) (by omega) (by omega)) (by decide)))) (.n) ?_)
  refine d_one 25 (by kernel_rfl) (o_callf rfl rfl rfl rfl (.c rfl (.c rfl (.c rfl .n))) ce63 (con_det (ex := (((V.getD (((F.getD i (0, 0, 0)).1).toNat) (0, 0, 0)).1) - 0)) (ey := (((V.getD (((F.getD i (0, 0, 0)).1).toNat) (0, 0, 0)).2.1) - 0)) (ez := (((V.getD (((F.getD i (0, 0, 0)).1).toNat) (0, 0, 0)).2.2) - 0)) (fx := (((V.getD (((F.getD i (0, 0, 0)).2.1).toNat) (0, 0, 0)).1) - 0)) (fy := (((V.getD (((F.getD i (0, 0, 0)).2.1).toNat) (0, 0, 0)).2.1) - 0)) (fz := (((V.getD (((F.getD i (0, 0, 0)).2.1).toNat) (0, 0, 0)).2.2) - 0)) (gx := (((V.getD (((F.getD i (0, 0, 0)).2.2).toNat) (0, 0, 0)).1) - 0)) (gy := (((V.getD (((F.getD i (0, 0, 0)).2.2).toNat) (0, 0, 0)).2.1) - 0)) (gz := (((V.getD (((F.getD i (0, 0, 0)).2.2).toNat) (0, 0, 0)).2.2) - 0)) (hbex := by first | rfl | assumption | omega | (refine Nat.le_trans (Big.ln_det (by omega) (by omega) (by omega) (by omega) (by omega) (by omega) (by omega) (by omega) (by omega)) (by decide))) (hbey := by first | rfl | assumption | omega | (refine Nat.le_trans (Big.ln_det (by omega) (by omega) (by omega) (by omega) (by omega) (by omega) (by omega) (by omega) (by omega)) (by decide))) (hbez := by first | rfl | assumption | omega | (refine Nat.le_trans (Big.ln_det (by omega) (by omega) (by omega) (by omega) (by omega) (by omega) (by omega) (by omega) (by omega)) (by decide))) (hbfx := by first | rfl | assumption | omega | (refine Nat.le_trans (Big.ln_det (by omega) (by omega) (by omega) (by omega) (by omega) (by omega) (by omega) (by omega) (by omega)) (by decide))) (hbfy := by first | rfl | assumption | omega | (refine Nat.le_trans (Big.ln_det (by omega) (by omega) (by omega) (by omega) (by omega) (by omega) (by omega) (by omega) (by omega)) (by decide))) (hbfz := by first | rfl | assumption | omega | (refine Nat.le_trans (Big.ln_det (by omega) (by omega) (by omega) (by omega) (by omega) (by omega) (by omega) (by omega) (by omega)) (by decide))) (hbgx := by first | rfl | assumption | omega | (refine Nat.le_trans (Big.ln_det (by omega) (by omega) (by omega) (by omega) (by omega) (by omega) (by omega) (by omega) (by omega)) (by decide))) (hbgy := by first | rfl | assumption | omega | (refine Nat.le_trans (Big.ln_det (by omega) (by omega) (by omega) (by omega) (by omega) (by omega) (by omega) (by omega) (by omega)) (by decide))) (hbgz := by first | rfl | assumption | omega | (refine Nat.le_trans (Big.ln_det (by omega) (by omega) (by omega) (by omega) (by omega) (by omega) (by omega) (by omega) (by omega)) (by decide)))) (.n) ?_)
  rintro ⟨p321, c322⟩ -
  dsimp only [List.append_eq, List.nil_append, List.cons_append]
  refine d_one 26 (by kernel_rfl) (o_callf rfl rfl rfl rfl (.c rfl (.c rfl .n)) ce62 (rcon_AddZ (x1 := s) (x2 := Ms.det ((((V.getD (((F.getD i (0, 0, 0)).1).toNat) (0, 0, 0)).1) - 0), (((V.getD (((F.getD i (0, 0, 0)).1).toNat) (0, 0, 0)).2.1) - 0), (((V.getD (((F.getD i (0, 0, 0)).1).toNat) (0, 0, 0)).2.2) - 0)) ((((V.getD (((F.getD i (0, 0, 0)).2.1).toNat) (0, 0, 0)).1) - 0), (((V.getD (((F.getD i (0, 0, 0)).2.1).toNat) (0, 0, 0)).2.1) - 0), (((V.getD (((F.getD i (0, 0, 0)).2.1).toNat) (0, 0, 0)).2.2) - 0)) ((((V.getD (((F.getD i (0, 0, 0)).2.2).toNat) (0, 0, 0)).1) - 0), (((V.getD (((F.getD i (0, 0, 0)).2.2).toNat) (0, 0, 0)).2.1) - 0), (((V.getD (((F.getD i (0, 0, 0)).2.2).toNat) (0, 0, 0)).2.2) - 0))) (p1 := p) (c1 := c) (p2 := p321) (c2 := c322) (hb1 := by first | rfl | assumption | omega | (refine Nat.le_trans (Big.ln_det (by omega) (by omega) (by omega) (by omega) (by omega) (by omega) (by omega) (by omega) (by omega)) (by decide))) (hb2 := by first | rfl | assumption | omega | (refine Nat.le_trans (Big.ln_det (by omega) (by omega) (by omega) (by omega) (by omega) (by omega) (by omega) (by omega) (by omega)) (by decide)))) (.c (j := 5) rfl (.c (j := 0) rfl .n)) ?_)
  rintro ⟨p323, c324⟩ -
  dsimp only [List.append_eq, List.nil_append, List.cons_append]
  refine d_one 27 (by kernel_rfl) (o_store_box (by kernel_rfl) rfl rfl rfl rfl rfl sz34 rfl (.take (.take .nil)) ?_)
  refine d_done (by kernel_rfl) ?_
  refine p_block ?_
  refine p_then ?_
  refine r_region ?_
  refine r_pv rfl rfl (pv_add (z := (((i + 1) : Nat) : Int)) rfl rfl (w64 (by omega))) ?_
  refine r_pv rfl rfl (pv_move rfl) ?_
  refine r_nil ?_
  refine p_next ((i + 1), (s + (Ms.det ((((V.getD (((F.getD i (0, 0, 0)).1).toNat) (0, 0, 0)).1) - 0), (((V.getD (((F.getD i (0, 0, 0)).1).toNat) (0, 0, 0)).2.1) - 0), (((V.getD (((F.getD i (0, 0, 0)).1).toNat) (0, 0, 0)).2.2) - 0)) ((((V.getD (((F.getD i (0, 0, 0)).2.1).toNat) (0, 0, 0)).1) - 0), (((V.getD (((F.getD i (0, 0, 0)).2.1).toNat) (0, 0, 0)).2.1) - 0), (((V.getD (((F.getD i (0, 0, 0)).2.1).toNat) (0, 0, 0)).2.2) - 0)) ((((V.getD (((F.getD i (0, 0, 0)).2.2).toNat) (0, 0, 0)).1) - 0), (((V.getD (((F.getD i (0, 0, 0)).2.2).toNat) (0, 0, 0)).2.1) - 0), (((V.getD (((F.getD i (0, 0, 0)).2.2).toNat) (0, 0, 0)).2.2) - 0)))), p323, c324) (show (i + 1) ≤ nf ∧ (s + (Ms.det ((((V.getD (((F.getD i (0, 0, 0)).1).toNat) (0, 0, 0)).1) - 0), (((V.getD (((F.getD i (0, 0, 0)).1).toNat) (0, 0, 0)).2.1) - 0), (((V.getD (((F.getD i (0, 0, 0)).1).toNat) (0, 0, 0)).2.2) - 0)) ((((V.getD (((F.getD i (0, 0, 0)).2.1).toNat) (0, 0, 0)).1) - 0), (((V.getD (((F.getD i (0, 0, 0)).2.1).toNat) (0, 0, 0)).2.1) - 0), (((V.getD (((F.getD i (0, 0, 0)).2.1).toNat) (0, 0, 0)).2.2) - 0)) ((((V.getD (((F.getD i (0, 0, 0)).2.2).toNat) (0, 0, 0)).1) - 0), (((V.getD (((F.getD i (0, 0, 0)).2.2).toNat) (0, 0, 0)).2.1) - 0), (((V.getD (((F.getD i (0, 0, 0)).2.2).toNat) (0, 0, 0)).2.2) - 0)))) = Ms.volS V (F.take (i + 1)) ∧ Big.ln (s + (Ms.det ((((V.getD (((F.getD i (0, 0, 0)).1).toNat) (0, 0, 0)).1) - 0), (((V.getD (((F.getD i (0, 0, 0)).1).toNat) (0, 0, 0)).2.1) - 0), (((V.getD (((F.getD i (0, 0, 0)).1).toNat) (0, 0, 0)).2.2) - 0)) ((((V.getD (((F.getD i (0, 0, 0)).2.1).toNat) (0, 0, 0)).1) - 0), (((V.getD (((F.getD i (0, 0, 0)).2.1).toNat) (0, 0, 0)).2.1) - 0), (((V.getD (((F.getD i (0, 0, 0)).2.1).toNat) (0, 0, 0)).2.2) - 0)) ((((V.getD (((F.getD i (0, 0, 0)).2.2).toNat) (0, 0, 0)).1) - 0), (((V.getD (((F.getD i (0, 0, 0)).2.2).toNat) (0, 0, 0)).2.1) - 0), (((V.getD (((F.getD i (0, 0, 0)).2.2).toNat) (0, 0, 0)).2.2) - 0)))) ≤ 4000 + (i + 1) from by refine ⟨by omega, by rw [Ms.volS_take (by omega), hs]; simp [Ms.tet, Ms.pt], ?_⟩; refine Nat.le_trans (Big.ln_add _ _) ?_; have h9 : ∀ z : Int, Big.ln z ≤ 3000 → max (Big.ln s) (Big.ln z) + 1 ≤ 4000 + (i + 1) := fun z hz => (by omega); refine h9 _ ?_; refine Nat.le_trans (Big.ln_det (by omega) (by omega) (by omega) (by omega) (by omega) (by omega) (by omega) (by omega) (by omega)) (by decide)) (by show nf - (i + 1) < nf - i; omega) ((.of rfl) : SubM _ _) (ho := ((.e (i := 0) rfl (by first | rfl | (congr 1; omega) | simp_all) (.of [2, 2] rfl)) : PickO _ _ _)) ((.e (j := 0) rfl (by first | rfl | simp_all) (.of [7, 8, 9] rfl)) : SelR _ _ _)
 ·
  refine r_exit ?_
  refine p_then_exit ?_
  refine p_then_exit ?_
  refine p_block_here ?_
  refine p_then ?_
  refine r_seq ?_
  refine r_region ?_
  refine r_u rfl rfl (vl_load_box_agg 0 ty34 rfl rfl (.take (.take .nil))) ?_
  refine r_store_box 1 rfl rfl rfl rfl rfl sz34 rfl (.take (.take .nil)) (.s .z) ?_
  refine r_nil ?_
  refine p_then ?_
  refine r_ret ?_
  have hs9 : s = Ms.volS V F := by rw [hs, List.take_of_length_le (by omega)]
  exact p_ret1 Try.results19 (p, c) trivial (res_box_agg 1 ty34 rfl rfl (.take (.take .nil))) (by rw [← hs9]) (ho := (.n : PickO _ _ _)) ((.e (j := 0) rfl (by rw [← hs9]) .n) : SelR _ _ _)
end Go.Proofs.Ytalfgjpbbongcaa.Sp
namespace Go.Proofs.Ytalfgjpbbongcaa.Sp
open Go
set_option linter.unusedVariables false
set_option maxRecDepth 100000
set_option maxHeartbeats 1000000
theorem con_known   : Con Try.prog 12 [] [] [] (Y := Unit) (fun y => True) (fun y => .bool true) (fun y => []) (fun y => []) := by
 refine con_intro Try.func12 rfl rfl rfl (fun c => ?_)
 show RunC _ _ _ _ _ [] [] []
 refine r_seq ?_
 refine r_region ?_
 refine r_pv rfl rfl (pv_assign rfl) ?_
 refine r_nil ?_
 refine p_then ?_
 refine r_seq ?_
 refine r_region ?_
 refine r_callf rfl rfl (.n) ce44 (con_example  ) (.n) ?_
 rintro ⟨pvA, pfA⟩ -
 dsimp only [List.append_eq, List.nil_append, List.cons_append]
 refine r_callf rfl rfl (.c rfl .n) ce16 (con_Volume (pv := pvA) (nv := 4) (cv := 4) (V := Ms.exV) (pf := pfA) (nf := 4) (cf := 4) (F := Ms.exF) (hnv := by first | rfl | assumption | decide | (simp [Ms.exV, Ms.exF]; done)) (hnf := by first | rfl | assumption | decide | (simp [Ms.exV, Ms.exF]; done))) (.c (j := 0) rfl (.c (j := 1) rfl .n)) ?_
 rintro ⟨p31, c32⟩ -
 dsimp only [List.append_eq, List.nil_append, List.cons_append]
 have e3 : Ms.volC Ms.exV Ms.exF = 0 := by exact Ms.ex_volC
 rw [e3]
 have e4 : Ms.vol Ms.exV Ms.exF = (1 : Int) := by exact Ms.ex_vol
 rw [e4]
 refine r_pv rfl rfl (pv_move rfl) ?_
 refine r_pv rfl rfl (pv_extract rfl rfl) ?_
 refine r_pv rfl rfl (pv_extract rfl rfl) ?_
 refine r_new rfl rfl (ef_alloc zr34 rfl) (fun b5 => ?_)
 refine r_store_box 0 rfl rfl rfl rfl rfl sz34 rfl (.take (.take .nil)) .z ?_
 refine r_pv rfl rfl (pv_assign rfl) ?_
 refine r_nil ?_
 refine p_then ?_
 refine r_seq ?_
 refine r_region ?_
 refine r_callf rfl rfl (.n) ce44 (con_example  ) (.n) ?_
 rintro ⟨pvB, pfB⟩ -
 dsimp only [List.append_eq, List.nil_append, List.cons_append]
 refine r_call1 rfl rfl (.c rfl .n) ce25 (con_Euler (pv := pvB) (nv := 4) (cv := 4) (V := Ms.exV) (pf := pfB) (nf := 4) (cf := 4) (F := Ms.exF) (hnv := by first | rfl | assumption | decide | (simp [Ms.exV, Ms.exF]; done)) (hnf := by first | rfl | assumption | decide | (simp [Ms.exV, Ms.exF]; done))) (.c (j := 0) rfl (.c (j := 1) rfl .n)) ?_
 have e6 : Ms.check Ms.exV Ms.exF = 0 := by exact Ms.ex_check
 rw [e6]
 have e7 : Ms.eulerR Ms.exV Ms.exF = 2 := by exact Ms.ex_euler
 rw [e7]
 refine r_pv rfl rfl (pv_move rfl) ?_
 refine r_pv rfl rfl (pv_extract rfl rfl) ?_
 refine r_pv rfl rfl (pv_extract rfl rfl) ?_
 refine r_pv rfl rfl (pv_assign rfl) ?_
 refine r_pv rfl rfl (pv_assign rfl) ?_
 refine r_nil ?_
 refine p_then ?_
 refine r_seq ?_
 refine r_region ?_
 refine r_callf rfl rfl (.n) ce44 (con_example  ) (.n) ?_
 rintro ⟨pvC, pfC⟩ -
 dsimp only [List.append_eq, List.nil_append, List.cons_append]
 refine r_new rfl rfl (ef_alloc zr25 rfl) (fun b8 => ?_)
 refine r_store_box 0 rfl rfl rfl rfl rfl sz25 rfl (.take (.take .nil)) .z ?_
 refine r_nil ?_
 refine p_then ?_
 refine r_seq ?_
 refine r_region ?_
 refine r_pv rfl rfl (pv_fieldAddr Try.underlying25 rfl sz23 rfl rfl) ?_
 refine r_u rfl rfl (vl_load_box_one 0 ty23 rfl rfl rfl) ?_
 refine r_pv rfl rfl (pv_slice0 (hi := 3) Try.underlying23 sz44 rfl (.s rfl) (.inr ⟨_, rfl⟩) (by first | omega | decide)) ?_
 refine r_more (slF_take 1 rfl 3 (by first | omega | decide)) (fun _ _ => ?_)
 refine r_pv rfl rfl (pv_fieldAddr Try.underlying25 rfl sz23 rfl rfl) ?_
 refine r_store_box 0 rfl rfl rfl rfl rfl sz23 rfl (.skip (.take .nil)) .z ?_
 refine r_nil ?_
 refine p_then ?_
 refine r_seq ?_
 refine r_region ?_
 refine r_u rfl rfl (vl_load_box_agg 0 ty25 rfl rfl (.take (.take .nil))) ?_
 refine r_callf rfl rfl (.c rfl .n) ce23 (con_Borders (pv := pvC) (nv := 4) (cv := 4) (V := Ms.exV) (pf := pfC) (nf := 3) (cf := 4) (F := (Ms.exF.take 3)) (hnv := by first | rfl | assumption | decide | (simp [Ms.exV, Ms.exF]; done)) (hnf := by first | rfl | assumption | decide | (simp [Ms.exV, Ms.exF]; done))) (.c (j := 1) rfl (.c (j := 0) rfl .n)) ?_
 rintro ⟨p29, c210, bm1⟩ hB
 dsimp only [List.append_eq, List.nil_append, List.cons_append]
 replace hB : Ms.check Ms.exV (Ms.exF.take 3) = 0 → Ms.BMap (Ms.exF.take 3) bm1 := hB
 have e11 : Ms.check Ms.exV (Ms.exF.take 3) = 0 := by exact Ms.ex_open
 rw [e11]
 have e12 : Ms.bordersR Ms.exV (Ms.exF.take 3) bm1 = Ms.exL := by exact Ms.ex_borders (hB Ms.ex_open)
 rw [e12]
 refine r_pv rfl rfl (pv_move rfl) ?_
 refine r_pv rfl rfl (pv_extract rfl rfl) ?_
 refine r_pv rfl rfl (pv_extract rfl rfl) ?_
 refine r_pv rfl rfl (pv_assign rfl) ?_
 refine r_pv rfl rfl (pv_assign rfl) ?_
 refine r_nil ?_
 refine p_then ?_
 refine r_seq ?_
 refine r_draw (OW := []) (O := [boxA b8 25 [.slice pvC 4 4, .slice pfC 3 4], boxA b5 34 [.bool (decide ((1 : Int) < 0)), .slice p31 ((Big.digs ((1 : Int).natAbs)).length) c32]]) 100000 mixed (.then .ret) (by kernel_rfl) ?_
 refine d_pv 0 rfl rfl (by kernel_rfl) (by kernel_rfl) rfl rfl (pv_move rfl) ?_
 refine d_pv 1 rfl rfl (by kernel_rfl) (by kernel_rfl) rfl rfl (pv_eql rfl rfl) ?_
 refine d_pv 2 rfl rfl (by kernel_rfl) (by kernel_rfl) rfl rfl (pv_move rfl) ?_
 refine d_pv 3 rfl rfl (by kernel_rfl) (by kernel_rfl) rfl rfl (pv_move rfl) ?_
 refine d_pv 4 rfl rfl (by kernel_rfl) (by kernel_rfl) rfl rfl (pv_eql rfl rfl) ?_
 refine d_pv 5 rfl rfl (by kernel_rfl) (by kernel_rfl) rfl rfl (pv_pick rfl rfl) ?_
 refine d_pv 6 rfl rfl (by kernel_rfl) (by kernel_rfl) rfl rfl (pv_move rfl) ?_
 refine d_pv 7 rfl rfl (by kernel_rfl) (by kernel_rfl) rfl rfl (pv_move rfl) ?_
 refine d_pv 8 rfl rfl (by kernel_rfl) (by kernel_rfl) rfl rfl (pv_eql rfl rfl) ?_
 refine d_pv 9 rfl rfl (by kernel_rfl) (by kernel_rfl) rfl rfl (pv_pick rfl rfl) ?_
 refine d_pv 10 rfl rfl (by kernel_rfl) (by kernel_rfl) rfl rfl (pv_move rfl) ?_
 refine d_u 11 rfl rfl (by kernel_rfl) (by kernel_rfl) rfl rfl (vl_load_box_agg 1 ty34 rfl rfl (.take (.take .nil))) ?_
 refine d_one 12 (by kernel_rfl) (o_callf rfl rfl rfl rfl (.c rfl .n) ce45 (rcon_Of (z := (1 : Int)) (hz := by first | rfl | assumption | decide | (simp [Ms.exV, Ms.exF]; done))) (.n) ?_)
 rintro ⟨p213, c214⟩ -
 dsimp only [List.append_eq, List.nil_append, List.cons_append]
 refine d_one 13 (by kernel_rfl) (o_call1 rfl rfl rfl rfl (.c rfl (.c rfl .n)) ce18 (rcon_SameZ (x1 := (1 : Int)) (x2 := (1 : Int)) (p1 := p31) (c1 := c32) (p2 := p213) (c2 := c214) ) (.c (j := 7) rfl (.c (j := 0) rfl .n)) ?_)
 rw [show (decide ((1 : Int) = (1 : Int))) = true from by decide]
 refine d_pv 14 rfl rfl (by kernel_rfl) (by kernel_rfl) rfl rfl (pv_pick rfl rfl) ?_
 refine d_pv 15 rfl rfl (by kernel_rfl) (by kernel_rfl) rfl rfl (pv_move rfl) ?_
 refine d_pv 16 rfl rfl (by kernel_rfl) (by kernel_rfl) rfl rfl (pv_move rfl) ?_
 refine d_pv 17 rfl rfl (by kernel_rfl) (by kernel_rfl) rfl rfl (pv_eql rfl rfl) ?_
 refine d_pv 18 rfl rfl (by kernel_rfl) (by kernel_rfl) rfl rfl (pv_pick rfl rfl) ?_
 refine d_pv 19 rfl rfl (by kernel_rfl) (by kernel_rfl) rfl rfl (pv_move rfl) ?_
 refine d_pv 20 rfl rfl (by kernel_rfl) (by kernel_rfl) rfl rfl (pv_move rfl) ?_
 refine d_pv 21 rfl rfl (by kernel_rfl) (by kernel_rfl) rfl rfl (pv_len Try.underlying37 rfl) ?_
 have e15 : (((Ms.exL).length : Nat) : Int) = 1 := by rfl
 rw [e15]
 refine d_pv 22 rfl rfl (by kernel_rfl) (by kernel_rfl) rfl rfl (pv_eql rfl rfl) ?_
 refine d_pv 23 rfl rfl (by kernel_rfl) (by kernel_rfl) rfl rfl (pv_pick rfl rfl) ?_
 refine d_pv 24 rfl rfl (by kernel_rfl) (by kernel_rfl) rfl rfl (pv_move rfl) ?_
 refine d_pv 25 rfl rfl (by kernel_rfl) (by kernel_rfl) rfl rfl (pv_move rfl) ?_
 refine d_vl 26 rfl rfl (by kernel_rfl) (by kernel_rfl) rfl rfl (vl_index (x0 := (Ms.exL.getD 0 [])) 1 0 rfl Try.underlying37 sz50 rfl (by first | rfl | assumption | (simp_all; done) | omega) rfl rfl (gD (d := []) (by first | omega | decide))) ?_
 rintro ⟨b16, o17, p18, c19⟩ -
 dsimp only [List.append_eq, List.nil_append, List.cons_append]
 refine d_u 27 rfl rfl (by kernel_rfl) (by kernel_rfl) rfl rfl (vl_load_at_one (j := 0) 0 ty50 rfl rfl rfl rfl) ?_
 refine d_one 28 (by kernel_rfl) (o_ef0 rfl rfl rfl rfl (ef_buildSlice_fl (enc := fun z : Int => [.int .i64 z]) (ok := InK .i64) (h1 := fun _ => rfl) (h2 := fun _ => rfl) (k := 3) Try.underlying50 inf3 rfl (by decide) (by decide) (by decide) (.c (x := 1) rfl rfl (fun _ _ => by exact inK_i64.2 (by omega)) (.c (x := 3) rfl rfl (fun _ _ => by exact inK_i64.2 (by omega)) (.c (x := 2) rfl rfl (fun _ _ => by exact inK_i64.2 (by omega)) .n)))) (fun b20 _ => ?_))
 refine d_freeze 0 rfl .z ?_
 refine d_one 29 (by kernel_rfl) (o_call1 rfl rfl rfl rfl (.c rfl (.c rfl .n)) ce28 (con_Eqint (p1 := p18) (n1 := (Ms.exL.getD 0 []).length) (c1 := c19) (l1 := (Ms.exL.getD 0 [])) (p2 := some ⟨b20, 0, none⟩) (n2 := 3) (c2 := 3) (l2 := [1, 3, 2]) (hn1 := by first | rfl | assumption | decide | (simp [Ms.exV, Ms.exF]; done)) (hn2 := by first | rfl | assumption | decide | (simp [Ms.exV, Ms.exF]; done))) (.c (j := 2) rfl (.c (j := 0) rfl .n)) ?_)
 rw [show (decide ((Ms.exL.getD 0 []) = ([1, 3, 2]))) = true from by decide]
 refine d_pv 30 rfl rfl (by kernel_rfl) (by kernel_rfl) rfl rfl (pv_pick rfl rfl) ?_
 refine d_pv 31 rfl rfl (by kernel_rfl) (by kernel_rfl) rfl rfl (pv_move rfl) ?_
 refine d_u 32 rfl rfl (by kernel_rfl) (by kernel_rfl) rfl rfl (vl_load_box_agg 1 ty25 rfl rfl (.take (.take .nil))) ?_
 refine d_one 33 (by kernel_rfl) (o_call1 rfl rfl rfl rfl (.c rfl .n) ce14 (con_Check (pv := pvC) (nv := 4) (cv := 4) (V := Ms.exV) (pf := pfC) (nf := 3) (cf := 4) (F := (Ms.exF.take 3)) (hnv := by first | rfl | assumption | decide | (simp [Ms.exV, Ms.exF]; done)) (hnf := by first | rfl | assumption | decide | (simp [Ms.exV, Ms.exF]; done))) (.c (j := 6) rfl (.c (j := 5) rfl .n)) ?_)
 have e21 : Ms.check Ms.exV (Ms.exF.take 3) = 0 := by exact Ms.ex_open
 rw [e21]
 refine d_pv 34 rfl rfl (by kernel_rfl) (by kernel_rfl) rfl rfl (pv_eql rfl rfl) ?_
 refine d_pv 35 rfl rfl (by kernel_rfl) (by kernel_rfl) rfl rfl (pv_pick rfl rfl) ?_
 refine d_pv 36 rfl rfl (by kernel_rfl) (by kernel_rfl) rfl rfl (pv_assign rfl) ?_
 refine d_done (by kernel_rfl) ?_
 refine p_then ?_
 refine r_ret ?_
 exact p_ret1 Try.results12 () trivial (res_tmp rfl) rfl (ho := (.n : PickO _ _ _)) (.n : SelR _ _ _)
end Go.Proofs.Ytalfgjpbbongcaa.Sp
namespace Go.Proofs.Ytalfgjpbbongcaa.Sp
open Go
set_option linter.unusedVariables false
set_option maxRecDepth 100000
set_option maxHeartbeats 1000000
theorem con_MeshVolumes {pv : Option Addr} {nv : Nat} {cv : Nat} {V : List (Int × Int × Int)} {pf : Option Addr} {nf : Nat} {cf : Nat} {F : List (Int × Int × Int)} {ta : Int} {tb : Int} {tc : Int} (hnv : V.length = nv) (hnf : F.length = nf) (hba : -32768 ≤ ta ∧ ta ≤ 32767) (hbb : -32768 ≤ tb ∧ tb ≤ 32767) (hbc : -32768 ≤ tc ∧ tc ≤ 32767) : Con Try.prog 4 [.agg #[.slice pv nv cv, .slice pf nf cf], .agg #[.int .i16 ta, .int .i16 tb, .int .i16 tc]] [] [slF (rI3 .i64) pv cv V, slF (rI3 .i64) pf cf F] (Y := Unit) (fun y => True) (fun y => .bool true) (fun y => []) (fun y => []) := by
 refine con_intro Try.func4 rfl rfl rfl (fun c => ?_)
 show RunC _ _ _ _ _ [(0, .agg #[.slice pv nv cv, .slice pf nf cf]), (1, .agg #[.int .i16 ta, .int .i16 tb, .int .i16 tc])] [] [slF (rI3 .i64) pv cv V, slF (rI3 .i64) pf cf F]
 refine c_len 0 rfl (fun hL0 => ?_)
 refine c_len 1 rfl (fun hL1 => ?_)
 refine r_seq ?_
 refine r_region ?_
 refine r_new rfl rfl (ef_box rfl rfl) (fun b1 => ?_)
 refine r_new rfl rfl (ef_box rfl rfl) (fun b2 => ?_)
 refine r_pv rfl rfl (pv_assign rfl) ?_
 refine r_nil ?_
 refine p_then ?_
 refine r_seq ?_
 refine r_seq ?_
 refine r_region ?_
 refine r_call1 rfl rfl (.n) ce12 (con_known  ) (.n) ?_
 refine r_pv rfl rfl (pv_not rfl) ?_
 refine r_nil ?_
 refine p_then ?_
 refine r_cond_f rfl rfl ?_
 refine r_skip ?_
 refine p_then ?_
 refine r_seq ?_
 refine r_seq ?_
 refine r_region ?_
 refine r_u rfl rfl (vl_load_box_agg 1 ty25 rfl rfl (.take (.take .nil))) ?_
 refine r_call1 rfl rfl (.c rfl .n) ce13 (con_few (pv := pv) (nv := nv) (cv := cv) (V := V) (pf := pf) (nf := nf) (cf := cf) (F := F) (hnv := by first | rfl | assumption | omega | (simp; done) | (simp; omega) | (simp_all; done)) (hnf := by first | rfl | assumption | omega | (simp; done) | (simp; omega) | (simp_all; done))) (.c (j := 0) rfl (.c (j := 1) rfl .n)) ?_
 refine r_pv rfl rfl (pv_notd rfl) ?_
 refine r_nil ?_
 refine p_then ?_
 refine r_cond rfl (fun h3 => ?_) (fun h3 => ?_)
 ·
  refine r_seq ?_
  refine r_region ?_
  refine r_pv rfl rfl (pv_assign rfl) ?_
  refine r_nil ?_
  refine p_then ?_
  refine r_ret ?_
  refine p_then_ret ?_
  exact p_ret1 Try.results4 () trivial (res_tmp rfl) rfl (ho := (.n : PickO _ _ _)) (.n : SelR _ _ _)
 ·
  refine r_skip ?_
  refine p_then ?_
  refine r_seq ?_
  refine r_region ?_
  refine r_u rfl rfl (vl_load_box_agg 1 ty25 rfl rfl (.take (.take .nil))) ?_
  refine r_callf rfl rfl (.c rfl .n) ce16 (con_Volume (pv := pv) (nv := nv) (cv := cv) (V := V) (pf := pf) (nf := nf) (cf := cf) (F := F) (hnv := by first | rfl | assumption | omega | (simp; done) | (simp; omega) | (simp_all; done)) (hnf := by first | rfl | assumption | omega | (simp; done) | (simp; omega) | (simp_all; done))) (.c (j := 0) rfl (.c (j := 1) rfl .n)) ?_
  rintro ⟨p34, c35⟩ -
  dsimp only [List.append_eq, List.nil_append, List.cons_append]
  refine r_pv rfl rfl (pv_move rfl) ?_
  refine r_pv rfl rfl (pv_extract rfl rfl) ?_
  refine r_pv rfl rfl (pv_extract rfl rfl) ?_
  refine r_new rfl rfl (ef_alloc zr34 rfl) (fun b6 => ?_)
  refine r_store_box 0 rfl rfl rfl rfl rfl sz34 rfl (.take (.take .nil)) .z ?_
  refine r_pv rfl rfl (pv_assign rfl) ?_
  refine r_nil ?_
  refine p_then ?_
  refine r_seq ?_
  refine r_region ?_
  refine r_u rfl rfl (vl_load_box_agg 2 ty25 rfl rfl (.take (.take .nil))) ?_
  refine r_call1 rfl rfl (.c rfl .n) ce15 (con_lcheck (pv := pv) (nv := nv) (cv := cv) (V := V) (pf := pf) (nf := nf) (cf := cf) (F := F) (hnv := by first | rfl | assumption | omega | (simp; done) | (simp; omega) | (simp_all; done)) (hnf := by first | rfl | assumption | omega | (simp; done) | (simp; omega) | (simp_all; done))) (.c (j := 1) rfl (.c (j := 2) rfl .n)) ?_
  refine r_pv rfl rfl (pv_assign rfl) ?_
  refine r_nil ?_
  refine p_then ?_
  refine r_cut (X := Unit) (fun x => True) (fun x => [(7, .int .i64 (Ms.volC V F)), (6, .int .i64 (Ms.volC V F)), (5, .pointer (some ⟨b6, 0, none⟩)), (4, .bool false), (3, .pointer (some ⟨b2, 0, none⟩)), (2, .pointer (some ⟨b1, 0, none⟩))]) (fun x => [boxA b6 34 [.bool (decide ((Ms.vol V F) < 0)), .slice p34 ((Big.digs ((Ms.vol V F).natAbs)).length) c35], boxA b2 31 [.int .i16 ta, .int .i16 tb, .int .i16 tc], boxA b1 25 [.slice pv nv cv, .slice pf nf cf]]) (fun x => [slF (rI .u32) p34 c35 (Big.digs ((Ms.vol V F).natAbs)), slF (rI3 .i64) pv cv V, slF (rI3 .i64) pf cf F]) ?_ ?_
  ·
   refine r_cut (X := Unit) (fun x => True) (fun x => [(31, .bool (decide (Ms.check V F = 0 ∧ Ms.bnd F ≠ []))), (7, .int .i64 (Ms.check V F)), (6, .int .i64 (Ms.volC V F)), (5, .pointer (some ⟨b6, 0, none⟩)), (4, .bool false), (3, .pointer (some ⟨b2, 0, none⟩)), (2, .pointer (some ⟨b1, 0, none⟩))]) (fun x => [boxA b6 34 [.bool (decide ((Ms.vol V F) < 0)), .slice p34 ((Big.digs ((Ms.vol V F).natAbs)).length) c35], boxA b2 31 [.int .i16 ta, .int .i16 tb, .int .i16 tc], boxA b1 25 [.slice pv nv cv, .slice pf nf cf]]) (fun x => [slF (rI .u32) p34 c35 (Big.digs ((Ms.vol V F).natAbs)), slF (rI3 .i64) pv cv V, slF (rI3 .i64) pf cf F]) ?_ ?_
   ·
    refine r_region ?_
    refine r_pv rfl rfl (pv_move rfl) ?_
    refine r_pv rfl rfl (pv_eql rfl rfl) ?_
    refine r_pv_dec rfl rfl (pv_move rfl) (fun hc0 => ?_) (fun hc0 => ?_)
    ·
     have hf0 := Ms.check_form hc0
     have hg := Ms.form_zero.1 hf0
     have hnv5 : nv ≤ 512 := by have := hg.nv; omega
     have hnf5 : nf ≤ 1024 := by have := hg.nf; omega
     refine r_u rfl rfl (vl_load_box_agg 2 ty25 rfl rfl (.take (.take .nil))) ?_
     refine r_callf rfl rfl (.c rfl .n) ce17 (con_lborders (pv := pv) (nv := nv) (cv := cv) (V := V) (pf := pf) (nf := nf) (cf := cf) (F := F) (hnv := by first | rfl | assumption | omega | (simp; done) | (simp; omega) | (simp_all; done)) (hnf := by first | rfl | assumption | omega | (simp; done) | (simp; omega) | (simp_all; done)) (hg := by first | rfl | assumption | omega | (simp; done) | (simp; omega) | (simp_all; done))) (.c (j := 1) rfl (.c (j := 2) rfl .n)) ?_
     rintro ⟨p27, c28⟩ -
     dsimp only [List.append_eq, List.nil_append, List.cons_append]
     refine r_pv rfl rfl (pv_len Try.underlying37 rfl) ?_
     refine r_pv rfl rfl (pv_gtr rfl rfl) ?_
     refine r_pv rfl rfl (pv_pick rfl rfl) ?_
     refine r_nil ?_
     exact p_cut () (show True from by first | trivial | omega | simp_all) ((.e rfl (congrArg Value.bool (by exact decide_eq_decide.2 ⟨fun h => ⟨hc0, (Ms.loops_bnd hg (Ms.nextM_bmap F)).1 (by rw [hnv]; omega)⟩, fun h => by have h9 := (Ms.loops_bnd hg (Ms.nextM_bmap F)).2 h.2; rw [hnv] at h9; omega⟩)) (.of rfl)) : SubM _ _) (ho := ((.of [0, 0, 0] rfl) : PickO _ _ _)) ((.of [1, 2, 3] rfl) : SelR _ _ _)
    ·
     refine r_guard_no rfl rfl ?_
     refine r_guard_no rfl rfl ?_
     refine r_guard_no rfl rfl ?_
     refine r_guard_no rfl rfl ?_
     refine r_pv rfl rfl (pv_pick rfl rfl) ?_
     refine r_nil ?_
     exact p_cut () (show True from by first | trivial | omega | simp_all) ((.e rfl (congrArg Value.bool (by exact (decide_eq_false (fun h => hc0 h.1)).symm)) (.of rfl)) : SubM _ _) (ho := ((.of [0, 0, 0] rfl) : PickO _ _ _)) ((.of [0, 1, 2] rfl) : SelR _ _ _)
   ·
    rintro ⟨⟩ -
    show RunC _ _ _ _ _ [(31, .bool (decide (Ms.check V F = 0 ∧ Ms.bnd F ≠ []))), (7, .int .i64 (Ms.check V F)), (6, .int .i64 (Ms.volC V F)), (5, .pointer (some ⟨b6, 0, none⟩)), (4, .bool false), (3, .pointer (some ⟨b2, 0, none⟩)), (2, .pointer (some ⟨b1, 0, none⟩))] [boxA b6 34 [.bool (decide ((Ms.vol V F) < 0)), .slice p34 ((Big.digs ((Ms.vol V F).natAbs)).length) c35], boxA b2 31 [.int .i16 ta, .int .i16 tb, .int .i16 tc], boxA b1 25 [.slice pv nv cv, .slice pf nf cf]] [slF (rI .u32) p34 c35 (Big.digs ((Ms.vol V F).natAbs)), slF (rI3 .i64) pv cv V, slF (rI3 .i64) pf cf F]
    refine r_cond rfl (fun h31 => ?_) (fun h31 => ?_)
    ·
     refine r_region ?_
     refine r_pv rfl rfl (pv_assign rfl) ?_
     refine r_nil ?_
     exact p_cut () (show True from by first | trivial | omega | simp_all) ((.e rfl (by rw [(Ms.volC_open h31.1 h31.2).1]) (.of rfl)) : SubM _ _) (ho := ((.of [0, 0, 0] rfl) : PickO _ _ _)) ((.of [0, 1, 2] rfl) : SelR _ _ _)
    ·
     refine r_skip ?_
     exact p_cut () (show True from by first | trivial | omega | simp_all) ((.e rfl (by rw [Ms.volC_else h31]) (.of rfl)) : SubM _ _) (ho := ((.of [0, 0, 0] rfl) : PickO _ _ _)) ((.of [0, 1, 2] rfl) : SelR _ _ _)
  ·
   rintro ⟨⟩ -
   show RunC _ _ _ _ _ [(7, .int .i64 (Ms.volC V F)), (6, .int .i64 (Ms.volC V F)), (5, .pointer (some ⟨b6, 0, none⟩)), (4, .bool false), (3, .pointer (some ⟨b2, 0, none⟩)), (2, .pointer (some ⟨b1, 0, none⟩))] [boxA b6 34 [.bool (decide ((Ms.vol V F) < 0)), .slice p34 ((Big.digs ((Ms.vol V F).natAbs)).length) c35], boxA b2 31 [.int .i16 ta, .int .i16 tb, .int .i16 tc], boxA b1 25 [.slice pv nv cv, .slice pf nf cf]] [slF (rI .u32) p34 c35 (Big.digs ((Ms.vol V F).natAbs)), slF (rI3 .i64) pv cv V, slF (rI3 .i64) pf cf F]
   refine r_seq ?_
   refine r_seq ?_
   refine r_region ?_
   refine r_pv rfl rfl (pv_move rfl) ?_
   refine r_pv rfl rfl (pv_neq rfl rfl) ?_
   refine r_nil ?_
   refine p_then ?_
   refine r_cond rfl (fun hc => ?_) (fun hc => ?_)
   ·
    refine r_cut (X := Unit) (fun x => True) (fun x => [(4, .bool true), (6, .int .i64 (Ms.volC V F)), (5, .pointer (some ⟨b6, 0, none⟩)), (3, .pointer (some ⟨b2, 0, none⟩)), (2, .pointer (some ⟨b1, 0, none⟩))]) (fun x => [boxA b6 34 [.bool (decide ((Ms.vol V F) < 0)), .slice p34 ((Big.digs ((Ms.vol V F).natAbs)).length) c35], boxA b2 31 [.int .i16 ta, .int .i16 tb, .int .i16 tc], boxA b1 25 [.slice pv nv cv, .slice pf nf cf]]) (fun x => [slF (rI .u32) p34 c35 (Big.digs ((Ms.vol V F).natAbs)), slF (rI3 .i64) pv cv V, slF (rI3 .i64) pf cf F]) ?_ ?_
    ·
     have e9 : Ms.vol V F = (0 : Int) := by exact Ms.vol_bad hc
     rw [e9]
     refine r_region ?_
     refine r_pv rfl rfl (pv_move rfl) ?_
     refine r_pv rfl rfl (pv_move rfl) ?_
     refine r_pv rfl rfl (pv_eql rfl rfl) ?_
     refine r_pv_dec rfl rfl (pv_move rfl) (fun h10 => ?_) (fun h10 => ?_)
     ·
      refine r_pv rfl rfl (pv_fieldAddr Try.underlying34 rfl sz4 rfl rfl) ?_
      refine r_u rfl rfl (vl_load_box_one 0 ty4 rfl rfl rfl) ?_
      refine r_pv rfl rfl (pv_not rfl) ?_
      refine r_pv rfl rfl (pv_pick rfl rfl) ?_
      refine r_pv_b rfl rfl (pv_move rfl) (fun h11 => ?_) (fun h11 => ?_)
      ·
       refine r_pv rfl rfl (pv_fieldAddr Try.underlying34 rfl sz32 rfl rfl) ?_
       refine r_u rfl rfl (vl_load_box_one 0 ty32 rfl rfl rfl) ?_
       refine r_pv rfl rfl (pv_len Try.underlying32 rfl) ?_
       refine r_pv rfl rfl (pv_eql rfl rfl) ?_
       refine r_pv rfl rfl (pv_pick rfl rfl) ?_
       refine r_pv rfl rfl (pv_assign rfl) ?_
       refine r_nil ?_
       exact p_cut () (show True from by first | trivial | omega | simp_all) ((.e rfl (congrArg Value.bool (by first | (simp_all; done) | decide | (simp [Big.digs_zero]; done))) (.of rfl)) : SubM _ _) (ho := ((.e (i := 0) rfl (by first | rfl | (congr 1; omega) | simp_all) (.of [0, 0] rfl)) : PickO _ _ _)) ((.e (j := 0) rfl (by first | rfl | simp_all) (.of [1, 2] rfl)) : SelR _ _ _)
      ·
       refine r_guard_no rfl rfl ?_
       refine r_guard_no rfl rfl ?_
       refine r_guard_no rfl rfl ?_
       refine r_guard_no rfl rfl ?_
       refine r_pv rfl rfl (pv_pick rfl rfl) ?_
       refine r_pv rfl rfl (pv_assign rfl) ?_
       refine r_nil ?_
       exact p_cut () (show True from by first | trivial | omega | simp_all) ((.e rfl (congrArg Value.bool (by first | (simp_all; done) | decide | (simp [Big.digs_zero]; done))) (.of rfl)) : SubM _ _) (ho := ((.e (i := 0) rfl (by first | rfl | (congr 1; omega) | simp_all) (.of [0, 0] rfl)) : PickO _ _ _)) ((.e (j := 0) rfl (by first | rfl | simp_all) (.of [1, 2] rfl)) : SelR _ _ _)
     ·
      refine r_guard_no rfl rfl ?_
      refine r_guard_no rfl rfl ?_
      refine r_guard_no rfl rfl ?_
      refine r_pv rfl rfl (pv_pick rfl rfl) ?_
      refine r_pv rfl rfl (pv_move rfl) ?_
      refine r_guard_no rfl rfl ?_
      refine r_guard_no rfl rfl ?_
      refine r_guard_no rfl rfl ?_
      refine r_guard_no rfl rfl ?_
      refine r_pv rfl rfl (pv_pick rfl rfl) ?_
      refine r_pv rfl rfl (pv_assign rfl) ?_
      refine r_nil ?_
      exact p_cut () (show True from by first | trivial | omega | simp_all) ((.e rfl (congrArg Value.bool (by first | (simp_all; done) | decide | (simp [Big.digs_zero]; done))) (.of rfl)) : SubM _ _) (ho := ((.e (i := 0) rfl (by first | rfl | (congr 1; omega) | simp_all) (.of [0, 0] rfl)) : PickO _ _ _)) ((.e (j := 0) rfl (by first | rfl | simp_all) (.of [1, 2] rfl)) : SelR _ _ _)
    ·
     rintro ⟨⟩ -
     show RunC _ _ _ _ _ [(4, .bool true), (6, .int .i64 (Ms.volC V F)), (5, .pointer (some ⟨b6, 0, none⟩)), (3, .pointer (some ⟨b2, 0, none⟩)), (2, .pointer (some ⟨b1, 0, none⟩))] [boxA b6 34 [.bool (decide ((Ms.vol V F) < 0)), .slice p34 ((Big.digs ((Ms.vol V F).natAbs)).length) c35], boxA b2 31 [.int .i16 ta, .int .i16 tb, .int .i16 tc], boxA b1 25 [.slice pv nv cv, .slice pf nf cf]] [slF (rI .u32) p34 c35 (Big.digs ((Ms.vol V F).natAbs)), slF (rI3 .i64) pv cv V, slF (rI3 .i64) pf cf F]
     refine r_ret ?_
     refine p_then_ret ?_
     exact p_ret1 Try.results4 () trivial (res_tmp rfl) (congrArg Value.bool (by simp)) (ho := (.n : PickO _ _ _)) (.n : SelR _ _ _)
   ·
    have hz := Decidable.not_not.1 hc
    obtain ⟨hck, hbn, hvs⟩ := Ms.volC_zero hz
    have hg := Ms.form_zero.1 (Ms.check_form hck)
    have hnv5 : nv ≤ 512 := by have := hg.nv; omega
    have hnf5 : nf ≤ 1024 := by have := hg.nf; omega
    refine r_skip ?_
    refine p_then ?_
    refine r_seq ?_
    refine r_cut (X := Unit) (fun x => True) (fun x => [(56, .bool (decide ((Ms.volC V F ≠ 0) ∨ (¬ ((Ms.vol V F) = (Ms.volS V F)))))), (6, .int .i64 (Ms.volC V F)), (5, .pointer (some ⟨b6, 0, none⟩)), (4, .bool false), (3, .pointer (some ⟨b2, 0, none⟩)), (2, .pointer (some ⟨b1, 0, none⟩))]) (fun x => [boxA b6 34 [.bool (decide ((Ms.vol V F) < 0)), .slice p34 ((Big.digs ((Ms.vol V F).natAbs)).length) c35], boxA b2 31 [.int .i16 ta, .int .i16 tb, .int .i16 tc], boxA b1 25 [.slice pv nv cv, .slice pf nf cf]]) (fun x => [slF (rI .u32) p34 c35 (Big.digs ((Ms.vol V F).natAbs)), slF (rI3 .i64) pv cv V, slF (rI3 .i64) pf cf F]) ?_ ?_
    ·
     have e12 : Ms.volC V F = 0 := by exact hz
     rw [e12]
     refine r_draw (OW := []) (O := [boxA b6 34 [.bool (decide ((Ms.vol V F) < 0)), .slice p34 ((Big.digs ((Ms.vol V F).natAbs)).length) c35], boxA b2 31 [.int .i16 ta, .int .i16 tb, .int .i16 tc], boxA b1 25 [.slice pv nv cv, .slice pf nf cf]]) 100000 mixed (.then .ret) (by kernel_rfl) ?_
     refine d_pv 0 rfl rfl (by kernel_rfl) (by kernel_rfl) rfl rfl (pv_move rfl) ?_
     refine d_pv 1 rfl rfl (by kernel_rfl) (by kernel_rfl) rfl rfl (pv_neq rfl rfl) ?_
     refine d_pv 2 rfl rfl (by kernel_rfl) (by kernel_rfl) rfl rfl (pv_move rfl) ?_
     refine d_u 3 rfl rfl (by kernel_rfl) (by kernel_rfl) rfl rfl (vl_load_box_agg 0 ty34 rfl rfl (.take (.take .nil))) ?_
     refine d_u 4 rfl rfl (by kernel_rfl) (by kernel_rfl) rfl rfl (vl_load_box_agg 2 ty25 rfl rfl (.take (.take .nil))) ?_
     refine d_one 5 (by kernel_rfl) (o_callf rfl rfl rfl rfl (.c rfl .n) ce19 (con_lvolume (pv := pv) (nv := nv) (cv := cv) (V := V) (pf := pf) (nf := nf) (cf := cf) (F := F) (hnv := by first | rfl | assumption | omega | (simp; done) | (simp; omega) | (simp_all; done)) (hnf := by first | rfl | assumption | omega | (simp; done) | (simp; omega) | (simp_all; done)) (hg := by first | rfl | assumption | omega | (simp; done) | (simp; omega) | (simp_all; done))) (.c (j := 1) rfl (.c (j := 2) rfl .n)) ?_)
     rintro ⟨p313, c314⟩ -
     dsimp only [List.append_eq, List.nil_append, List.cons_append]
     refine d_one 6 (by kernel_rfl) (o_call1 rfl rfl rfl rfl (.c rfl (.c rfl .n)) ce18 (rcon_SameZ (x1 := Ms.vol V F) (x2 := Ms.volS V F) (p1 := p34) (c1 := c35) (p2 := p313) (c2 := c314) ) (.c (j := 1) rfl (.c (j := 0) rfl .n)) ?_)
     refine d_pv 7 rfl rfl (by kernel_rfl) (by kernel_rfl) rfl rfl (pv_notd rfl) ?_
     refine d_pv 8 rfl rfl (by kernel_rfl) (by kernel_rfl) rfl rfl (pv_pick rfl rfl) ?_
     refine d_done (by kernel_rfl) ?_
     exact p_cut () (show True from by first | trivial | omega | simp_all) ((.e rfl (congrArg Value.bool (by first | (simp_all; done) | (simp_all; omega) | (simp; omega) | omega)) (.e rfl (by first | rfl | (congr 1; omega) | simp_all) (.of rfl))) : SubM _ _) (ho := ((.of [0, 0, 0] rfl) : PickO _ _ _)) ((.of [1, 2, 3] rfl) : SelR _ _ _)
    ·
     rintro ⟨⟩ -
     show RunC _ _ _ _ _ [(56, .bool (decide ((Ms.volC V F ≠ 0) ∨ (¬ ((Ms.vol V F) = (Ms.volS V F)))))), (6, .int .i64 (Ms.volC V F)), (5, .pointer (some ⟨b6, 0, none⟩)), (4, .bool false), (3, .pointer (some ⟨b2, 0, none⟩)), (2, .pointer (some ⟨b1, 0, none⟩))] [boxA b6 34 [.bool (decide ((Ms.vol V F) < 0)), .slice p34 ((Big.digs ((Ms.vol V F).natAbs)).length) c35], boxA b2 31 [.int .i16 ta, .int .i16 tb, .int .i16 tc], boxA b1 25 [.slice pv nv cv, .slice pf nf cf]] [slF (rI .u32) p34 c35 (Big.digs ((Ms.vol V F).natAbs)), slF (rI3 .i64) pv cv V, slF (rI3 .i64) pf cf F]
     refine r_cond rfl (fun h56 => ?_) (fun h56 => ?_)
     ·
      refine r_seq ?_
      refine r_region ?_
      refine r_pv rfl rfl (pv_assign rfl) ?_
      refine r_nil ?_
      refine p_then ?_
      refine r_ret ?_
      refine p_then_ret ?_
      exact p_ret1 Try.results4 () trivial (res_tmp rfl) (absurd h56 (fun h => h.elim (fun h => h hz) (fun h => h hvs))) (ho := (.n : PickO _ _ _)) (.n : SelR _ _ _)
     ·
      refine r_skip ?_
      refine p_then ?_
      refine r_seq ?_
      refine r_region ?_
      refine r_pv rfl rfl (pv_fieldAddr Try.underlying25 rfl sz23 rfl rfl) ?_
      refine r_u rfl rfl (vl_load_box_one 2 ty23 rfl rfl rfl) ?_
      refine r_pv rfl rfl (pv_build_struct zr25 rfl Try.underlying25 (.c sz22 (.c sz23 .n)) (.c rfl .n) (.c rfl rfl rfl (.skip (.take .nil)) .n)) ?_
      refine r_new rfl rfl (ef_alloc zr25 rfl) (fun b15 => ?_)
      refine r_store_box 0 rfl rfl rfl rfl rfl sz25 rfl (.take (.take .nil)) .z ?_
      refine r_nil ?_
      refine p_then ?_
      refine r_seq ?_
      refine r_seq ?_
      refine c_nilrow 42 (rI3 .i64) ?_
      refine r_region ?_
      refine r_pv rfl rfl (pv_fieldAddr Try.underlying25 rfl sz22 rfl rfl) ?_
      refine r_u rfl rfl (vl_load_box_one 4 ty22 rfl rfl rfl) ?_
      refine r_pv rfl rfl (pv_len Try.underlying22 rfl) ?_
      refine r_pv rfl rfl (pv_move rfl) ?_
      refine r_nil ?_
      refine p_then ?_
      refine r_block ?_
      refine r_loop (X := Nat × (Option Addr) × Nat) (fun x : Nat × (Option Addr) × Nat => x.1 ≤ nv) (fun x => [(63, .int .i64 ((x.1 : Nat) : Int)), (62, .int .i64 ((nv : Nat) : Int)), (61, .slice pv nv cv), (8, .pointer (some ⟨b15, 0, none⟩)), (6, .int .i64 (Ms.volC V F)), (5, .pointer (some ⟨b6, 0, none⟩)), (4, .bool false), (3, .pointer (some ⟨b2, 0, none⟩))]) (fun x => [rowA 42 (rI3 .i64) (x.2.1) (x.2.2) ((V.take x.1).map (Ms.mv ta tb tc)), boxA b15 25 [.slice (x.2.1) (((V.take x.1).map (Ms.mv ta tb tc)).length) (x.2.2), .slice pf nf cf], boxA b6 34 [.bool (decide ((Ms.vol V F) < 0)), .slice p34 ((Big.digs ((Ms.vol V F).natAbs)).length) c35], boxA b2 31 [.int .i16 ta, .int .i16 tb, .int .i16 tc], boxA b1 25 [.slice pv nv cv, .slice pf nf cf]]) (fun x => [slF (rI .u32) p34 c35 (Big.digs ((Ms.vol V F).natAbs)), slF (rI3 .i64) pv cv V, slF (rI3 .i64) pf cf F]) (fun x : Nat × (Option Addr) × Nat => nv - x.1) (0, none, 0) (show 0 ≤ nv from by exact Nat.zero_le _) ((.e rfl (by first | rfl | (congr 1; omega) | simp_all) (.of rfl)) : SubM _ _) (ho := ((.e (i := 0) rfl (by first | rfl | (congr 1; omega) | simp_all) (.e (i := 0) rfl (by first | rfl | (congr 1; omega) | simp_all) (.of [0, 0, 0] rfl))) : PickO _ _ _)) ((.of [0, 1, 2] rfl) : SelR _ _ _) ?_
      rintro ⟨i, p, c⟩ hI
      replace hI : i ≤ nv := hI
      show RunC _ _ _ _ _ [(63, .int .i64 ((i : Nat) : Int)), (62, .int .i64 ((nv : Nat) : Int)), (61, .slice pv nv cv), (8, .pointer (some ⟨b15, 0, none⟩)), (6, .int .i64 (Ms.volC V F)), (5, .pointer (some ⟨b6, 0, none⟩)), (4, .bool false), (3, .pointer (some ⟨b2, 0, none⟩))] [rowA 42 (rI3 .i64) p c ((V.take i).map (Ms.mv ta tb tc)), boxA b15 25 [.slice p (((V.take i).map (Ms.mv ta tb tc)).length) c, .slice pf nf cf], boxA b6 34 [.bool (decide ((Ms.vol V F) < 0)), .slice p34 ((Big.digs ((Ms.vol V F).natAbs)).length) c35], boxA b2 31 [.int .i16 ta, .int .i16 tb, .int .i16 tc], boxA b1 25 [.slice pv nv cv, .slice pf nf cf]] [slF (rI .u32) p34 c35 (Big.digs ((Ms.vol V F).natAbs)), slF (rI3 .i64) pv cv V, slF (rI3 .i64) pf cf F]
      have hlA : ((V.take i).map (Ms.mv ta tb tc)).length = i := by rw [List.length_map, List.length_take]; omega
      refine r_seq ?_
      refine r_region ?_
      refine r_pv rfl rfl (pv_lss rfl rfl) ?_
      refine r_nil ?_
      refine p_then ?_
      refine r_seq ?_
      refine r_cond rfl (fun h16 => ?_) (fun h16 => ?_)
      ·
       have hv0 := hg.vat (i := i) (by omega)
       refine r_skip ?_
       refine p_then ?_
       refine r_seq ?_
       refine r_block ?_
       refine r_seq ?_
       refine r_region ?_
       refine r_index_fl (x0 := (V.getD i (0, 0, 0))) 1 i rfl Try.underlying22 sz42 rfl rfl rfl (by first | rfl | assumption | (simp; done) | omega) rfl rfl (gD (d := (0, 0, 0)) (by omega)) (fun b17 o18 hok19 => ?_)
       obtain ⟨hok19x, hok19y, hok19z⟩ := hok19
       replace hok19x := inK_i64.1 hok19x
       replace hok19y := inK_i64.1 hok19y
       replace hok19z := inK_i64.1 hok19z
       refine r_u rfl rfl (vl_load_at_agg (j := 0) 0 ty42 rfl rfl rfl (.take (.take (.take .nil)))) ?_
       refine r_new rfl rfl (ef_alloc zr42 rfl) (fun b20 => ?_)
       refine r_store_box 0 rfl rfl rfl rfl rfl sz42 rfl (.take (.take (.take .nil))) .z ?_
       refine r_nil ?_
       refine p_then ?_
       refine r_region ?_
       refine r_pv rfl rfl (pv_fieldAddr Try.underlying25 rfl sz22 rfl rfl) ?_
       refine r_u rfl rfl (vl_load_box_one 2 ty22 rfl rfl rfl) ?_
       refine r_pv rfl rfl (pv_fieldAddr Try.underlying42 rfl sz3 rfl rfl) ?_
       refine r_u rfl rfl (vl_load_box_one 0 ty3 rfl rfl rfl) ?_
       refine r_pv rfl rfl (pv_indexAddr_arr (i := 0) Try.underlying31 sz30 rfl rfl (by decide) rfl) ?_
       refine r_u rfl rfl (vl_load_box_one 4 ty30 rfl rfl rfl) ?_
       refine r_pv rfl rfl (pv_convert (z := ta) rfl (by rw [Try.underlying30]; rfl) Try.underlying3 (w64 (by omega))) ?_
       refine r_pv rfl rfl (pv_add (z := ((V.getD i (0, 0, 0)).1 + ta)) rfl rfl (w64 (by omega))) ?_
       refine r_pv rfl rfl (pv_fieldAddr Try.underlying42 rfl sz3 rfl rfl) ?_
       refine r_u rfl rfl (vl_load_box_one 0 ty3 rfl rfl rfl) ?_
       refine r_pv rfl rfl (pv_indexAddr_arr (i := 1) Try.underlying31 sz30 rfl rfl (by decide) rfl) ?_
       refine r_u rfl rfl (vl_load_box_one 4 ty30 rfl rfl rfl) ?_
       refine r_pv rfl rfl (pv_convert (z := tb) rfl (by rw [Try.underlying30]; rfl) Try.underlying3 (w64 (by omega))) ?_
       refine r_pv rfl rfl (pv_add (z := ((V.getD i (0, 0, 0)).2.1 + tb)) rfl rfl (w64 (by omega))) ?_
       refine r_pv rfl rfl (pv_fieldAddr Try.underlying42 rfl sz3 rfl rfl) ?_
       refine r_u rfl rfl (vl_load_box_one 0 ty3 rfl rfl rfl) ?_
       refine r_pv rfl rfl (pv_indexAddr_arr (i := 2) Try.underlying31 sz30 rfl rfl (by decide) rfl) ?_
       refine r_u rfl rfl (vl_load_box_one 4 ty30 rfl rfl rfl) ?_
       refine r_pv rfl rfl (pv_convert (z := tc) rfl (by rw [Try.underlying30]; rfl) Try.underlying3 (w64 (by omega))) ?_
       refine r_pv rfl rfl (pv_add (z := ((V.getD i (0, 0, 0)).2.2 + tc)) rfl rfl (w64 (by omega))) ?_
       refine r_pv rfl rfl (pv_build_struct zr42 rfl Try.underlying42 (.c sz3 (.c sz3 (.c sz3 .n))) (.c rfl (.c rfl (.c rfl .n))) (.c rfl rfl rfl (.take .nil) (.c rfl rfl rfl (.skip (.take .nil)) (.c rfl rfl rfl (.skip (.skip (.take .nil))) .n)))) ?_
       refine r_ef0 rfl rfl (ef_buildSlice_fl (enc := fun z : Int × Int × Int => [.int .i64 z.1, .int .i64 z.2.1, .int .i64 z.2.2]) (ok := fun z => InK .i64 z.1 ∧ InK .i64 z.2.1 ∧ InK .i64 z.2.2) (h1 := fun _ => rfl) (h2 := fun _ => rfl) (k := 1) Try.underlying22 inf42 rfl (by decide) (by decide) (by decide) (.c (x := (((V.getD i (0, 0, 0)).1 + ta), ((V.getD i (0, 0, 0)).2.1 + tb), ((V.getD i (0, 0, 0)).2.2 + tc))) rfl rfl (fun _ _ => by exact ⟨inK_i64.2 (by first | omega | decide | (dsimp only; omega)), inK_i64.2 (by first | omega | decide | (dsimp only; omega)), inK_i64.2 (by first | omega | decide | (dsimp only; omega))⟩) .n)) (fun b21 _ => ?_)
       refine r_freeze 0 rfl .z ?_
       refine r_ef1 2 rfl rfl rfl (ef_append 0 rfl Try.underlying22 inf42 (by decide) rfl rfl (by first | rfl | assumption | (simp; done) | omega) rfl (by first | rfl | assumption | (simp; done) | omega) (by omega) (by omega)) (fun _ => (.s (.s .z))) ?_
       rintro ⟨p22, c23⟩ -
       dsimp only [List.append_eq, List.nil_append, List.cons_append]
       refine r_pv rfl rfl (pv_fieldAddr Try.underlying25 rfl sz22 rfl rfl) ?_
       refine r_store_box 3 rfl rfl rfl rfl rfl sz22 rfl (.take .nil) (.s (.s (.s .z))) ?_
       refine r_nil ?_
       refine p_block ?_
       refine p_then ?_
       refine r_region ?_
       refine r_pv rfl rfl (pv_add (z := (((i + 1) : Nat) : Int)) rfl rfl (w64 (by omega))) ?_
       refine r_pv rfl rfl (pv_move rfl) ?_
       refine r_nil ?_
       refine p_next ((i + 1), p22, c23) (show (i + 1) ≤ nv from by exact (by omega : i + 1 ≤ nv)) (by show nv - (i + 1) < nv - i; omega) ((.of rfl) : SubM _ _) (ho := ((.e (i := 2) rfl (by rw [Ms.take_snoc (0, 0, 0) (by omega), List.map_append]; simp [Ms.mv]) (.e (i := 2) rfl (by rw [Ms.take_snoc (0, 0, 0) (by omega), List.map_append]; simp [Ms.mv]) (.of [2, 2, 2] rfl))) : PickO _ _ _)) ((.of [2, 3, 4] rfl) : SelR _ _ _)
      ·
       refine r_exit ?_
       refine p_then_exit ?_
       refine p_then_exit ?_
       refine p_block_here ?_
       refine p_then ?_
       refine r_seq ?_
       refine r_seq ?_
       have e24 : (V.take i).map (Ms.mv ta tb tc) = V.map (Ms.mv ta tb tc) := by rw [List.take_of_length_le (by omega)]
       rw [e24]
       refine c_freeze 0 rfl .z ?_
       refine r_region ?_
       refine r_u rfl rfl (vl_load_box_agg 1 ty25 rfl rfl (.take (.take .nil))) ?_
       refine r_call1 rfl rfl (.c rfl .n) ce20 (con_lform (pv := p) (nv := (V.map (Ms.mv ta tb tc)).length) (cv := c) (V := (V.map (Ms.mv ta tb tc))) (pf := pf) (nf := nf) (cf := cf) (F := F) (hnv := by first | rfl | assumption | omega | (simp; done) | (simp; omega) | (simp_all; done)) (hnf := by first | rfl | assumption | omega | (simp; done) | (simp; omega) | (simp_all; done))) (.c (j := 0) rfl (.c (j := 3) rfl .n)) ?_
       refine r_pv rfl rfl (pv_neq rfl rfl) ?_
       refine r_nil ?_
       refine p_then ?_
       refine r_cond rfl (fun hf => ?_) (fun hf => ?_)
       ·
        refine r_seq ?_
        refine r_region ?_
        refine r_pv rfl rfl (pv_assign rfl) ?_
        refine r_nil ?_
        refine p_then ?_
        refine r_ret ?_
        refine p_then_ret ?_
        exact p_ret1 Try.results4 () trivial (res_tmp rfl) rfl (ho := (.n : PickO _ _ _)) (.n : SelR _ _ _)
       ·
        have hf0 := Decidable.not_not.1 hf
        obtain ⟨hm1, hm2⟩ := Ms.vol_mv hz hf0
        refine r_skip ?_
        refine p_then ?_
        refine r_seq ?_
        refine r_region ?_
        refine r_u rfl rfl (vl_load_box_agg 1 ty25 rfl rfl (.take (.take .nil))) ?_
        refine r_callf rfl rfl (.c rfl .n) ce16 (con_Volume (pv := p) (nv := (V.map (Ms.mv ta tb tc)).length) (cv := c) (V := (V.map (Ms.mv ta tb tc))) (pf := pf) (nf := nf) (cf := cf) (F := F) (hnv := by first | rfl | assumption | omega | (simp; done) | (simp; omega) | (simp_all; done)) (hnf := by first | rfl | assumption | omega | (simp; done) | (simp; omega) | (simp_all; done))) (.c (j := 0) rfl (.c (j := 3) rfl .n)) ?_
        rintro ⟨p325, c326⟩ -
        dsimp only [List.append_eq, List.nil_append, List.cons_append]
        refine r_pv rfl rfl (pv_move rfl) ?_
        refine r_pv rfl rfl (pv_extract rfl rfl) ?_
        refine r_pv rfl rfl (pv_extract rfl rfl) ?_
        refine r_new rfl rfl (ef_alloc zr34 rfl) (fun b27 => ?_)
        refine r_store_box 0 rfl rfl rfl rfl rfl sz34 rfl (.take (.take .nil)) .z ?_
        refine r_pv rfl rfl (pv_assign rfl) ?_
        refine r_nil ?_
        refine p_then ?_
        refine r_cut (X := Unit) (fun x => True) (fun x => [(4, .bool (decide ((Ms.volC (V.map (Ms.mv ta tb tc)) F = 0) ∧ ((Ms.vol V F) = (Ms.vol (V.map (Ms.mv ta tb tc)) F)))))]) (fun x => [boxA b27 34 [.bool (decide ((Ms.vol (V.map (Ms.mv ta tb tc)) F) < 0)), .slice p325 ((Big.digs ((Ms.vol (V.map (Ms.mv ta tb tc)) F).natAbs)).length) c326], boxA b15 25 [.slice p ((V.map (Ms.mv ta tb tc)).length) c, .slice pf nf cf], boxA b6 34 [.bool (decide ((Ms.vol V F) < 0)), .slice p34 ((Big.digs ((Ms.vol V F).natAbs)).length) c35], boxA b2 31 [.int .i16 ta, .int .i16 tb, .int .i16 tc], boxA b1 25 [.slice pv nv cv, .slice pf nf cf]]) (fun x => [slF (rI .u32) p325 c326 (Big.digs ((Ms.vol (V.map (Ms.mv ta tb tc)) F).natAbs)), slF (rI3 .i64) p c (V.map (Ms.mv ta tb tc)), slF (rI .u32) p34 c35 (Big.digs ((Ms.vol V F).natAbs)), slF (rI3 .i64) pv cv V, slF (rI3 .i64) pf cf F]) ?_ ?_
        ·
         have e28 : Ms.volC (V.map (Ms.mv ta tb tc)) F = 0 := by exact hm1
         rw [e28]
         have e29 : Ms.vol (V.map (Ms.mv ta tb tc)) F = Ms.vol V F := by exact hm2
         rw [e29]
         refine r_region ?_
         refine r_pv rfl rfl (pv_move rfl) ?_
         refine r_pv rfl rfl (pv_eql rfl rfl) ?_
         refine r_pv rfl rfl (pv_move rfl) ?_
         refine r_u rfl rfl (vl_load_box_agg 3 ty34 rfl rfl (.take (.take .nil))) ?_
         refine r_u rfl rfl (vl_load_box_agg 0 ty34 rfl rfl (.take (.take .nil))) ?_
         refine r_call1 rfl rfl (.c rfl (.c rfl .n)) ce18 (rcon_SameZ (x1 := Ms.vol V F) (x2 := Ms.vol V F) (p1 := p34) (c1 := c35) (p2 := p325) (c2 := c326) ) (.c (j := 2) rfl (.c (j := 0) rfl .n)) ?_
         refine r_pv rfl rfl (pv_pick rfl rfl) ?_
         refine r_pv rfl rfl (pv_assign rfl) ?_
         refine r_nil ?_
         exact p_cut () (show True from by first | trivial | omega | simp_all) ((.e rfl (congrArg Value.bool (by first | (simp_all; done) | (simp_all; omega) | (simp; omega) | omega)) .n) : SubM _ _) (ho := ((.e (i := 0) rfl (by first | rfl | (congr 1; omega) | simp_all) (.of [1, 1, 1, 1] rfl)) : PickO _ _ _)) ((.e (j := 0) rfl (by first | rfl | simp_all) (.of [1, 2, 3, 4] rfl)) : SelR _ _ _)
        ·
         rintro ⟨⟩ -
         show RunC _ _ _ _ _ [(4, .bool (decide ((Ms.volC (V.map (Ms.mv ta tb tc)) F = 0) ∧ ((Ms.vol V F) = (Ms.vol (V.map (Ms.mv ta tb tc)) F)))))] [boxA b27 34 [.bool (decide ((Ms.vol (V.map (Ms.mv ta tb tc)) F) < 0)), .slice p325 ((Big.digs ((Ms.vol (V.map (Ms.mv ta tb tc)) F).natAbs)).length) c326], boxA b15 25 [.slice p ((V.map (Ms.mv ta tb tc)).length) c, .slice pf nf cf], boxA b6 34 [.bool (decide ((Ms.vol V F) < 0)), .slice p34 ((Big.digs ((Ms.vol V F).natAbs)).length) c35], boxA b2 31 [.int .i16 ta, .int .i16 tb, .int .i16 tc], boxA b1 25 [.slice pv nv cv, .slice pf nf cf]] [slF (rI .u32) p325 c326 (Big.digs ((Ms.vol (V.map (Ms.mv ta tb tc)) F).natAbs)), slF (rI3 .i64) p c (V.map (Ms.mv ta tb tc)), slF (rI .u32) p34 c35 (Big.digs ((Ms.vol V F).natAbs)), slF (rI3 .i64) pv cv V, slF (rI3 .i64) pf cf F]
         refine r_ret ?_
         exact p_ret1 Try.results4 () trivial (res_tmp rfl) (congrArg Value.bool (by simp [hm1, hm2])) (ho := (.n : PickO _ _ _)) (.n : SelR _ _ _)
end Go.Proofs.Ytalfgjpbbongcaa.Sp
