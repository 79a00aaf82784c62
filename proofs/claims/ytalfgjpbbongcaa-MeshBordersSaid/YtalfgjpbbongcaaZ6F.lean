/- Lemmas on the walk and plain lemmas that the claim of this folder uses; each states its own conditions. Lines were printed by a program of ours. -/
import Derived.Test.YtalfgjpbbongcaaZ6E
set_option linter.unusedVariables false
set_option linter.unusedSimpArgs false
set_option linter.unusedSectionVars false
namespace Go.Proofs.Ytalfgjpbbongcaa.Sp
open Go
set_option linter.unusedVariables false
set_option maxRecDepth 100000
set_option maxHeartbeats 1000000
theorem con_Volume {pv : Option Addr} {nv : Nat} {cv : Nat} {V : List (Int × Int × Int)} {pf : Option Addr} {nf : Nat} {cf : Nat} {F : List (Int × Int × Int)} (hnv : V.length = nv) (hnf : F.length = nf) : Con Try.prog 16 [.agg #[.slice pv nv cv, .slice pf nf cf]] [] [slF (rI3 .i64) pv cv V, slF (rI3 .i64) pf cf F] (Y := (Option Addr) × Nat) (fun y => True) (fun y => .tuple #[.agg #[.bool (decide ((Ms.vol V F) < 0)), .slice (y.1) ((Big.digs ((Ms.vol V F).natAbs)).length) (y.2)], .int .i64 (Ms.volC V F)]) (fun y => []) (fun y => [slF (rI .u32) (y.1) (y.2) (Big.digs ((Ms.vol V F).natAbs))]) := by
 refine con_intro Try.func16 rfl rfl rfl (fun c => ?_)
 show RunC _ _ _ _ _ [(0, .agg #[.slice pv nv cv, .slice pf nf cf])] [] [slF (rI3 .i64) pv cv V, slF (rI3 .i64) pf cf F]
 refine c_len 0 rfl (fun hL0 => ?_)
 refine c_len 1 rfl (fun hL1 => ?_)
 refine r_seq ?_
 refine r_region ?_
 refine r_new rfl rfl (ef_box rfl rfl) (fun b1 => ?_)
 refine r_new rfl rfl (ef_alloc zr34 rfl) (fun b2 => ?_)
 refine r_pv rfl rfl (pv_assign rfl) ?_
 refine r_nil ?_
 refine p_then ?_
 refine r_seq ?_
 refine r_seq ?_
 refine r_region ?_
 refine r_u rfl rfl (vl_load_box_agg 1 ty25 rfl rfl (.take (.take .nil))) ?_
 refine r_call1 rfl rfl (.c rfl .n) ce14 (con_Check (pv := pv) (nv := nv) (cv := cv) (V := V) (pf := pf) (nf := nf) (cf := cf) (F := F) (hnv := by assumption) (hnf := by assumption)) (.c (j := 0) rfl (.c (j := 1) rfl .n)) ?_
 refine r_pv rfl rfl (pv_assign rfl) ?_
 refine r_nil ?_
 refine p_then ?_
 refine r_seq ?_
 refine r_region ?_
 refine r_pv rfl rfl (pv_move rfl) ?_
 refine r_pv rfl rfl (pv_neq rfl rfl) ?_
 refine r_nil ?_
 refine p_then ?_
 refine r_cond rfl (fun hcode => ?_) (fun hcode => ?_)
 ·
  refine r_seq ?_
  refine r_region ?_
  refine r_pv rfl rfl (pv_build_struct zr34 rfl Try.underlying34 (.c sz4 (.c sz32 .n)) .n .n) ?_
  refine r_pv rfl rfl (pv_move rfl) ?_
  refine r_store_box 0 rfl rfl rfl rfl rfl sz34 rfl (.take (.take .nil)) .z ?_
  refine r_pv rfl rfl (pv_assign rfl) ?_
  refine r_nil ?_
  refine p_then ?_
  refine r_ret ?_
  refine p_then_ret ?_
  obtain ⟨hz1, hz2⟩ := Ms.volC_bad hcode
  refine p_nilF (rI .u32) ?_
  exact p_ret2 Try.results16 (none, 0) trivial (res_box_agg 0 ty34 rfl rfl (.take (.take .nil))) (res_tmp rfl) (by rw [hz1, hz2]; rfl) (ho := (.n : PickO _ _ _)) ((.e (j := 0) rfl (by rw [hz2]; rfl) .n) : SelR _ _ _)
 ·
  have hc0 := Decidable.not_not.1 hcode
  have hf0 := Ms.check_form hc0
  have hg := Ms.form_zero.1 hf0
  have hnv5 : nv ≤ 512 := by have := hg.nv; omega
  have hnf5 : nf ≤ 1024 := by have := hg.nf; omega
  refine r_skip ?_
  refine p_then ?_
  refine r_seq ?_
  refine r_seq ?_
  refine r_region ?_
  refine r_u rfl rfl (vl_load_box_agg 1 ty25 rfl rfl (.take (.take .nil))) ?_
  refine r_callf rfl rfl (.c rfl .n) ce56 (con_border (pv := pv) (nv := nv) (cv := cv) (V := V) (pf := pf) (nf := nf) (cf := cf) (F := F) (hnv := by assumption) (hnf := by assumption) (hg := by first | rfl | assumption | omega)) (.c (j := 0) rfl (.c (j := 1) rfl .n)) ?_
  rintro ⟨b23, bm1⟩ hB
  dsimp only [List.append_eq, List.nil_append, List.cons_append]
  replace hB : Ms.BMap F bm1 := hB
  refine r_u rfl rfl (vl_lenMap (encK := (fun z : Int => .int .i64 z)) (encV := (fun z : Int => .int .i64 z)) (ok := (InK .i64)) (m := bm1) 0 rfl Try.underlying76 rfl) ?_
  refine r_pv rfl rfl (pv_gtr rfl rfl) ?_
  refine r_nil ?_
  refine p_then ?_
  refine r_cond rfl (fun hlen => ?_) (fun hlen => ?_)
  ·
   refine r_seq ?_
   refine r_region ?_
   refine r_pv rfl rfl (pv_build_struct zr34 rfl Try.underlying34 (.c sz4 (.c sz32 .n)) .n .n) ?_
   refine r_store_box 1 rfl rfl rfl rfl rfl sz34 rfl (.take (.take .nil)) (.s .z) ?_
   refine r_pv rfl rfl (pv_assign rfl) ?_
   refine r_nil ?_
   refine p_then ?_
   refine r_ret ?_
   refine p_then_ret ?_
   obtain ⟨hz1, hz2⟩ := Ms.volC_open hc0 (hB.empty.1 (by omega))
   refine p_nilF (rI .u32) ?_
   exact p_ret2 Try.results16 (none, 0) trivial (res_box_agg 1 ty34 rfl rfl (.take (.take .nil))) (res_tmp rfl) (by rw [hz1, hz2]; rfl) (ho := (.n : PickO _ _ _)) ((.e (j := 0) rfl (by rw [hz2]; rfl) .n) : SelR _ _ _)
  ·
   refine r_skip ?_
   refine p_then ?_
   refine r_seq ?_
   refine r_region ?_
   refine r_callf rfl rfl (.c rfl .n) ce57 (con_Of (z := (0 : Int)) (hz := by first | rfl | assumption | omega)) (.n) ?_
   rintro ⟨p24, c25⟩ -
   dsimp only [List.append_eq, List.nil_append, List.cons_append]
   refine r_new rfl rfl (ef_alloc zr34 rfl) (fun b6 => ?_)
   refine r_store_box 0 rfl rfl rfl rfl rfl sz34 rfl (.take (.take .nil)) .z ?_
   refine r_nil ?_
   refine p_then ?_
   refine r_seq ?_
   refine r_seq ?_
   refine r_region ?_
   refine r_pv rfl rfl (pv_fieldAddr Try.underlying25 rfl sz23 rfl rfl) ?_
   refine r_u rfl rfl (vl_load_box_one 3 ty23 rfl rfl rfl) ?_
   refine r_pv rfl rfl (pv_len Try.underlying23 rfl) ?_
   refine r_pv rfl rfl (pv_move rfl) ?_
   refine r_nil ?_
   refine p_then ?_
   refine r_block ?_
   refine r_loop (X := Nat × Int × (Option Addr) × Nat) (fun x : Nat × Int × (Option Addr) × Nat => x.1 ≤ nf ∧ x.2.1 = Ms.volS V (F.take x.1) ∧ Big.ln x.2.1 ≤ 4000 + x.1) (fun x => [(27, .int .i64 ((x.1 : Nat) : Int)), (26, .int .i64 ((nf : Nat) : Int)), (25, .slice pf nf cf), (5, .pointer (some ⟨b6, 0, none⟩)), (3, .int .i64 0), (2, .pointer (some ⟨b2, 0, none⟩)), (1, .pointer (some ⟨b1, 0, none⟩))]) (fun x => [boxA b6 34 [.bool (decide ((x.2.1) < 0)), .slice (x.2.2.1) ((Big.digs ((x.2.1).natAbs)).length) (x.2.2.2)], mapA b23 (fun z : Int => .int .i64 z) (fun z : Int => .int .i64 z) (InK .i64) bm1, boxA b2 34 [.bool false, .slice none 0 0], boxA b1 25 [.slice pv nv cv, .slice pf nf cf]]) (fun x => [slF (rI .u32) (x.2.2.1) (x.2.2.2) (Big.digs ((x.2.1).natAbs)), slF (rI .u32) p24 c25 (Big.digs ((0 : Int).natAbs)), slF (rI3 .i64) pv cv V, slF (rI3 .i64) pf cf F]) (fun x : Nat × Int × (Option Addr) × Nat => nf - x.1) (0, (0 : Int), p24, c25) (show 0 ≤ nf ∧ (0 : Int) = Ms.volS V (F.take 0) ∧ Big.ln (0 : Int) ≤ 4000 + 0 from by exact ⟨Nat.zero_le _, rfl, by rw [Big.ln_zero]; omega⟩) ((.e rfl (by first | rfl | (congr 1; omega) | simp_all) (.of rfl)) : SubM _ _) (ho := ((.of [0, 0, 0, 0] rfl) : PickO _ _ _)) ((.of [0, 0, 1, 2] rfl) : SelR _ _ _) ?_
   rintro ⟨i, s, p, c⟩ hI
   replace hI : i ≤ nf ∧ s = Ms.volS V (F.take i) ∧ Big.ln s ≤ 4000 + i := hI
   show RunC _ _ _ _ _ [(27, .int .i64 ((i : Nat) : Int)), (26, .int .i64 ((nf : Nat) : Int)), (25, .slice pf nf cf), (5, .pointer (some ⟨b6, 0, none⟩)), (3, .int .i64 0), (2, .pointer (some ⟨b2, 0, none⟩)), (1, .pointer (some ⟨b1, 0, none⟩))] [boxA b6 34 [.bool (decide (s < 0)), .slice p ((Big.digs ((s).natAbs)).length) c], mapA b23 (fun z : Int => .int .i64 z) (fun z : Int => .int .i64 z) (InK .i64) bm1, boxA b2 34 [.bool false, .slice none 0 0], boxA b1 25 [.slice pv nv cv, .slice pf nf cf]] [slF (rI .u32) p c (Big.digs ((s).natAbs)), slF (rI .u32) p24 c25 (Big.digs ((0 : Int).natAbs)), slF (rI3 .i64) pv cv V, slF (rI3 .i64) pf cf F]
   obtain ⟨hi, hs, hln⟩ := hI
   refine r_seq ?_
   refine r_region ?_
   refine r_pv rfl rfl (pv_lss rfl rfl) ?_
   refine r_nil ?_
   refine p_then ?_
   refine r_seq ?_
   refine r_cond rfl (fun h7 => ?_) (fun h7 => ?_)
   ·
    have hat := hg.at (show i < F.length by omega)
    have hv0 := hg.vat (i := ((F.getD i (0, 0, 0)).1).toNat) (by omega)
    have hv1 := hg.vat (i := ((F.getD i (0, 0, 0)).2.1).toNat) (by omega)
    have hv2 := hg.vat (i := ((F.getD i (0, 0, 0)).2.2).toNat) (by omega)
    refine r_skip ?_
    refine p_then ?_
    refine r_seq ?_
    refine r_block ?_
    refine r_seq ?_
    refine r_region ?_
    refine r_index_fl (x0 := (F.getD i (0, 0, 0))) 3 i rfl Try.underlying23 sz44 rfl rfl rfl (by first | rfl | assumption | (simp_all; done) | omega) rfl rfl (gD (d := (0, 0, 0)) (by omega)) (fun b8 o9 hok10 => ?_)
    obtain ⟨hok10x, hok10y, hok10z⟩ := hok10
    replace hok10x := inK_i64.1 hok10x
    replace hok10y := inK_i64.1 hok10y
    replace hok10z := inK_i64.1 hok10z
    refine r_u rfl rfl (vl_load_at_agg (j := 0) 0 ty44 rfl rfl rfl (.take (.take (.take .nil)))) ?_
    refine r_new rfl rfl (ef_alloc zr44 rfl) (fun b11 => ?_)
    refine r_store_box 0 rfl rfl rfl rfl rfl sz44 rfl (.take (.take (.take .nil))) .z ?_
    refine r_nil ?_
    refine p_then ?_
    refine r_seq ?_
    refine r_region ?_
    refine r_pv rfl rfl (pv_build_struct zr42 rfl Try.underlying42 (.c sz3 (.c sz3 (.c sz3 .n))) .n .n) ?_
    refine r_new rfl rfl (ef_alloc zr42 rfl) (fun b12 => ?_)
    refine r_store_box 0 rfl rfl rfl rfl rfl sz42 rfl (.take (.take (.take .nil))) .z ?_
    refine r_nil ?_
    refine p_then ?_
    refine r_seq ?_
    refine r_draw (OW := []) (O := [boxA b12 42 [.int .i64 0, .int .i64 0, .int .i64 0], boxA b11 44 [.int .i64 ((F.getD i (0, 0, 0)).1), .int .i64 ((F.getD i (0, 0, 0)).2.1), .int .i64 ((F.getD i (0, 0, 0)).2.2)], boxA b6 34 [.bool (decide (s < 0)), .slice p ((Big.digs ((s).natAbs)).length) c], mapA b23 (fun z : Int => .int .i64 z) (fun z : Int => .int .i64 z) (InK .i64) bm1, boxA b2 34 [.bool false, .slice none 0 0], boxA b1 25 [.slice pv nv cv, .slice pf nf cf]]) 27 mixed (.then (.block (.then (.then (.block (.then .ret)))))) (by kernel_rfl) ?_
    refine d_u 0 rfl rfl (by kernel_rfl) (by kernel_rfl) rfl rfl (vl_load_box_agg 0 ty42 rfl rfl (.take (.take (.take .nil)))) ?_
    refine d_pv 1 rfl rfl (by kernel_rfl) (by kernel_rfl) rfl rfl (pv_fieldAddr Try.underlying25 rfl sz22 rfl rfl) ?_
    refine d_u 2 rfl rfl (by kernel_rfl) (by kernel_rfl) rfl rfl (vl_load_box_one 5 ty22 rfl rfl rfl) ?_
    refine d_pv 3 rfl rfl (by kernel_rfl) (by kernel_rfl) rfl rfl (pv_indexAddr_arr (i := 0) Try.underlying44 sz3 rfl rfl (by decide) rfl) ?_
    refine d_u 4 rfl rfl (by kernel_rfl) (by kernel_rfl) rfl rfl (vl_load_box_one 1 ty3 rfl rfl rfl) ?_
    refine d_index_fl (x0 := (V.getD (((F.getD i (0, 0, 0)).1).toNat) (0, 0, 0))) 5 rfl rfl (by kernel_rfl) (by kernel_rfl) 3 (((F.getD i (0, 0, 0)).1).toNat) rfl Try.underlying22 sz42 rfl rfl rfl (by first | rfl | assumption | (simp_all; done) | omega) rfl (by omega) (gD (d := (0, 0, 0)) (by omega)) (fun b13 o14 hok15 => ?_)
    obtain ⟨hok15x, hok15y, hok15z⟩ := hok15
    replace hok15x := inK_i64.1 hok15x
    replace hok15y := inK_i64.1 hok15y
    replace hok15z := inK_i64.1 hok15z
    refine d_u 6 rfl rfl (by kernel_rfl) (by kernel_rfl) rfl rfl (vl_load_at_agg (j := 0) 0 ty42 rfl rfl rfl (.take (.take (.take .nil)))) ?_
    refine d_u 8 rfl rfl (by kernel_rfl) (by kernel_rfl) rfl rfl (vl_load_box_agg 0 ty42 rfl rfl (.take (.take (.take .nil)))) ?_
    refine d_pv 9 rfl rfl (by kernel_rfl) (by kernel_rfl) rfl rfl (pv_fieldAddr Try.underlying25 rfl sz22 rfl rfl) ?_
    refine d_u 10 rfl rfl (by kernel_rfl) (by kernel_rfl) rfl rfl (vl_load_box_one 5 ty22 rfl rfl rfl) ?_
    refine d_pv 11 rfl rfl (by kernel_rfl) (by kernel_rfl) rfl rfl (pv_indexAddr_arr (i := 1) Try.underlying44 sz3 rfl rfl (by decide) rfl) ?_
    refine d_u 12 rfl rfl (by kernel_rfl) (by kernel_rfl) rfl rfl (vl_load_box_one 1 ty3 rfl rfl rfl) ?_
    refine d_index_fl (x0 := (V.getD (((F.getD i (0, 0, 0)).2.1).toNat) (0, 0, 0))) 13 rfl rfl (by kernel_rfl) (by kernel_rfl) 4 (((F.getD i (0, 0, 0)).2.1).toNat) rfl Try.underlying22 sz42 rfl rfl rfl (by first | rfl | assumption | (simp_all; done) | omega) rfl (by omega) (gD (d := (0, 0, 0)) (by omega)) (fun b16 o17 hok18 => ?_)
    obtain ⟨hok18x, hok18y, hok18z⟩ := hok18
    replace hok18x := inK_i64.1 hok18x
    replace hok18y := inK_i64.1 hok18y
    replace hok18z := inK_i64.1 hok18z
    refine d_u 14 rfl rfl (by kernel_rfl) (by kernel_rfl) rfl rfl (vl_load_at_agg (j := 0) 0 ty42 rfl rfl rfl (.take (.take (.take .nil)))) ?_
    refine d_u 16 rfl rfl (by kernel_rfl) (by kernel_rfl) rfl rfl (vl_load_box_agg 0 ty42 rfl rfl (.take (.take (.take .nil)))) ?_
    refine d_pv 17 rfl rfl (by kernel_rfl) (by kernel_rfl) rfl rfl (pv_fieldAddr Try.underlying25 rfl sz22 rfl rfl) ?_
    refine d_u 18 rfl rfl (by kernel_rfl) (by kernel_rfl) rfl rfl (vl_load_box_one 5 ty22 rfl rfl rfl) ?_
    refine d_pv 19 rfl rfl (by kernel_rfl) (by kernel_rfl) rfl rfl (pv_indexAddr_arr (i := 2) Try.underlying44 sz3 rfl rfl (by decide) rfl) ?_
    refine d_u 20 rfl rfl (by kernel_rfl) (by kernel_rfl) rfl rfl (vl_load_box_one 1 ty3 rfl rfl rfl) ?_
    refine d_index_fl (x0 := (V.getD (((F.getD i (0, 0, 0)).2.2).toNat) (0, 0, 0))) 21 rfl rfl (by kernel_rfl) (by kernel_rfl) 5 (((F.getD i (0, 0, 0)).2.2).toNat) rfl Try.underlying22 sz42 rfl rfl rfl (by first | rfl | assumption | (simp_all; done) | omega) rfl (by omega) (gD (d := (0, 0, 0)) (by omega)) (fun b19 o20 hok21 => ?_)
    obtain ⟨hok21x, hok21y, hok21z⟩ := hok21
    replace hok21x := inK_i64.1 hok21x
    replace hok21y := inK_i64.1 hok21y
    replace hok21z := inK_i64.1 hok21z
    refine d_u 22 rfl rfl (by kernel_rfl) (by kernel_rfl) rfl rfl (vl_load_at_agg (j := 0) 0 ty42 rfl rfl rfl (.take (.take (.take .nil)))) ?_
    refine d_weak (m' := [(54, .agg #[.int .i64 ((V.getD (((F.getD i (0, 0, 0)).2.2).toNat) (0, 0, 0)).1), .int .i64 ((V.getD (((F.getD i (0, 0, 0)).2.2).toNat) (0, 0, 0)).2.1), .int .i64 ((V.getD (((F.getD i (0, 0, 0)).2.2).toNat) (0, 0, 0)).2.2)]), (53, .pointer (some ⟨b19, o20, none⟩)), (52, .int .i64 ((F.getD i (0, 0, 0)).2.2)), (51, .pointer (some ⟨b11, 2, none⟩)), (50, .slice pv nv cv), (49, .pointer (some ⟨b1, 0, none⟩)), (48, .agg #[.int .i64 0, .int .i64 0, .int .i64 0]), (46, .agg #[.int .i64 ((V.getD (((F.getD i (0, 0, 0)).2.1).toNat) (0, 0, 0)).1), .int .i64 ((V.getD (((F.getD i (0, 0, 0)).2.1).toNat) (0, 0, 0)).2.1), .int .i64 ((V.getD (((F.getD i (0, 0, 0)).2.1).toNat) (0, 0, 0)).2.2)]), (45, .pointer (some ⟨b16, o17, none⟩)), (44, .int .i64 ((F.getD i (0, 0, 0)).2.1)), (43, .pointer (some ⟨b11, 1, none⟩)), (42, .slice pv nv cv), (41, .pointer (some ⟨b1, 0, none⟩)), (40, .agg #[.int .i64 0, .int .i64 0, .int .i64 0]), (38, .agg #[.int .i64 ((V.getD (((F.getD i (0, 0, 0)).1).toNat) (0, 0, 0)).1), .int .i64 ((V.getD (((F.getD i (0, 0, 0)).1).toNat) (0, 0, 0)).2.1), .int .i64 ((V.getD (((F.getD i (0, 0, 0)).1).toNat) (0, 0, 0)).2.2)]), (37, .pointer (some ⟨b13, o14, none⟩)), (36, .int .i64 ((F.getD i (0, 0, 0)).1)), (35, .pointer (some ⟨b11, 0, none⟩)), (34, .slice pv nv cv), (33, .pointer (some ⟨b1, 0, none⟩)), (32, .agg #[.int .i64 0, .int .i64 0, .int .i64 0]), (8, .pointer (some ⟨b12, 0, none⟩)), (31, .agg #[.int .i64 0, .int .i64 0, .int .i64 0]), (7, .pointer (some ⟨b11, 0, none⟩)), (30, .agg #[.int .i64 ((F.getD i (0, 0, 0)).1), .int .i64 ((F.getD i (0, 0, 0)).2.1), .int .i64 ((F.getD i (0, 0, 0)).2.2)]), (29, .pointer (some ⟨b8, o9, none⟩)), (28, .bool (decide (((i : Nat) : Int) < ((nf : Nat) : Int)))), (27, .int .i64 ((i : Nat) : Int)), (26, .int .i64 ((nf : Nat) : Int)), (25, .slice pf nf cf), (5, .pointer (some ⟨b6, 0, none⟩)), (3, .int .i64 0), (2, .pointer (some ⟨b2, 0, none⟩)), (1, .pointer (some ⟨b1, 0, none⟩))]) (R' := [atF b19 o20 [.int .i64 ((V.getD (((F.getD i (0, 0, 0)).2.2).toNat) (0, 0, 0)).1), .int .i64 ((V.getD (((F.getD i (0, 0, 0)).2.2).toNat) (0, 0, 0)).2.1), .int .i64 ((V.getD (((F.getD i (0, 0, 0)).2.2).toNat) (0, 0, 0)).2.2)], atF b16 o17 [.int .i64 ((V.getD (((F.getD i (0, 0, 0)).2.1).toNat) (0, 0, 0)).1), .int .i64 ((V.getD (((F.getD i (0, 0, 0)).2.1).toNat) (0, 0, 0)).2.1), .int .i64 ((V.getD (((F.getD i (0, 0, 0)).2.1).toNat) (0, 0, 0)).2.2)], atF b13 o14 [.int .i64 ((V.getD (((F.getD i (0, 0, 0)).1).toNat) (0, 0, 0)).1), .int .i64 ((V.getD (((F.getD i (0, 0, 0)).1).toNat) (0, 0, 0)).2.1), .int .i64 ((V.getD (((F.getD i (0, 0, 0)).1).toNat) (0, 0, 0)).2.2)], atF b8 o9 [.int .i64 ((F.getD i (0, 0, 0)).1), .int .i64 ((F.getD i (0, 0, 0)).2.1), .int .i64 ((F.getD i (0, 0, 0)).2.2)], slF (rI .u32) p c (Big.digs ((s).natAbs)), slF (rI .u32) p24 c25 (Big.digs ((0 : Int).natAbs)), slF (rI3 .i64) pv cv V, slF (rI3 .i64) pf cf F]) ((.of rfl) : SubM _ _) (List.Perm.refl _) (List.Perm.refl _) ((.of [0, 1, 2, 3, 4, 5, 6, 7] rfl) : SelR _ _ _) ?_
    obtain ⟨qax, hqax⟩ : ∃ z, z = (V.getD (((F.getD i (0, 0, 0)).1).toNat) (0, 0, 0)).1 := ⟨_, rfl⟩
    rw [← hqax]
    obtain ⟨qay, hqay⟩ : ∃ z, z = (V.getD (((F.getD i (0, 0, 0)).1).toNat) (0, 0, 0)).2.1 := ⟨_, rfl⟩
    rw [← hqay]
    obtain ⟨qaz, hqaz⟩ : ∃ z, z = (V.getD (((F.getD i (0, 0, 0)).1).toNat) (0, 0, 0)).2.2 := ⟨_, rfl⟩
    rw [← hqaz]
    obtain ⟨qbx, hqbx⟩ : ∃ z, z = (V.getD (((F.getD i (0, 0, 0)).2.1).toNat) (0, 0, 0)).1 := ⟨_, rfl⟩
    rw [← hqbx]
    obtain ⟨qby, hqby⟩ : ∃ z, z = (V.getD (((F.getD i (0, 0, 0)).2.1).toNat) (0, 0, 0)).2.1 := ⟨_, rfl⟩
    rw [← hqby]
    obtain ⟨qbz, hqbz⟩ : ∃ z, z = (V.getD (((F.getD i (0, 0, 0)).2.1).toNat) (0, 0, 0)).2.2 := ⟨_, rfl⟩
    rw [← hqbz]
    obtain ⟨qcx, hqcx⟩ : ∃ z, z = (V.getD (((F.getD i (0, 0, 0)).2.2).toNat) (0, 0, 0)).1 := ⟨_, rfl⟩
    rw [← hqcx]
    obtain ⟨qcy, hqcy⟩ : ∃ z, z = (V.getD (((F.getD i (0, 0, 0)).2.2).toNat) (0, 0, 0)).2.1 := ⟨_, rfl⟩
    rw [← hqcy]
    obtain ⟨qcz, hqcz⟩ : ∃ z, z = (V.getD (((F.getD i (0, 0, 0)).2.2).toNat) (0, 0, 0)).2.2 := ⟨_, rfl⟩
    rw [← hqcz]
    refine d_join (X := Option Addr × Nat × Option Addr × Nat × Option Addr × Nat × Option Addr × Nat × Option Addr × Nat × Option Addr × Nat × Option Addr × Nat × Option Addr × Nat × Option Addr × Nat × Nat × Nat × Nat) (k' := 0) (L' := #[true, true, true, true, true, true, true, true, true, true, true, true, true, true, true, true, true, true, true, true, true, true, true, true, true, true, true, true, true, true]) (fun (pr0n7n1, cr0n7n2, pr1n7n3, cr1n7n4, pr2n7n5, cr2n7n6, pr0n15n1, cr0n15n2, pr1n15n3, cr1n15n4, pr2n15n5, cr2n15n6, pr0n23n1, cr0n23n2, pr1n23n3, cr1n23n4, pr2n23n5, cr2n23n6, bn24n1, bn25n1, bn26n1) => ([(11, .pointer (some ⟨bn26n1, 0, none⟩)), (10, .pointer (some ⟨bn25n1, 0, none⟩)), (9, .pointer (some ⟨bn24n1, 0, none⟩)), (55, .agg #[.bool (decide ((qcx - 0) < 0)), .slice pr0n23n1 ((Big.digs ((qcx - 0).natAbs)).length) cr0n23n2, .bool (decide ((qcy - 0) < 0)), .slice pr1n23n3 ((Big.digs ((qcy - 0).natAbs)).length) cr1n23n4, .bool (decide ((qcz - 0) < 0)), .slice pr2n23n5 ((Big.digs ((qcz - 0).natAbs)).length) cr2n23n6]), (47, .agg #[.bool (decide ((qbx - 0) < 0)), .slice pr0n15n1 ((Big.digs ((qbx - 0).natAbs)).length) cr0n15n2, .bool (decide ((qby - 0) < 0)), .slice pr1n15n3 ((Big.digs ((qby - 0).natAbs)).length) cr1n15n4, .bool (decide ((qbz - 0) < 0)), .slice pr2n15n5 ((Big.digs ((qbz - 0).natAbs)).length) cr2n15n6]), (39, .agg #[.bool (decide ((qax - 0) < 0)), .slice pr0n7n1 ((Big.digs ((qax - 0).natAbs)).length) cr0n7n2, .bool (decide ((qay - 0) < 0)), .slice pr1n7n3 ((Big.digs ((qay - 0).natAbs)).length) cr1n7n4, .bool (decide ((qaz - 0) < 0)), .slice pr2n7n5 ((Big.digs ((qaz - 0).natAbs)).length) cr2n7n6]), (54, .agg #[.int .i64 qcx, .int .i64 qcy, .int .i64 qcz]), (53, .pointer (some ⟨b19, o20, none⟩)), (52, .int .i64 ((F.getD i (0, 0, 0)).2.2)), (51, .pointer (some ⟨b11, 2, none⟩)), (50, .slice pv nv cv), (49, .pointer (some ⟨b1, 0, none⟩)), (48, .agg #[.int .i64 0, .int .i64 0, .int .i64 0]), (46, .agg #[.int .i64 qbx, .int .i64 qby, .int .i64 qbz]), (45, .pointer (some ⟨b16, o17, none⟩)), (44, .int .i64 ((F.getD i (0, 0, 0)).2.1)), (43, .pointer (some ⟨b11, 1, none⟩)), (42, .slice pv nv cv), (41, .pointer (some ⟨b1, 0, none⟩)), (40, .agg #[.int .i64 0, .int .i64 0, .int .i64 0]), (38, .agg #[.int .i64 qax, .int .i64 qay, .int .i64 qaz]), (37, .pointer (some ⟨b13, o14, none⟩)), (36, .int .i64 ((F.getD i (0, 0, 0)).1)), (35, .pointer (some ⟨b11, 0, none⟩)), (34, .slice pv nv cv), (33, .pointer (some ⟨b1, 0, none⟩)), (32, .agg #[.int .i64 0, .int .i64 0, .int .i64 0]), (8, .pointer (some ⟨b12, 0, none⟩)), (31, .agg #[.int .i64 0, .int .i64 0, .int .i64 0]), (7, .pointer (some ⟨b11, 0, none⟩)), (30, .agg #[.int .i64 ((F.getD i (0, 0, 0)).1), .int .i64 ((F.getD i (0, 0, 0)).2.1), .int .i64 ((F.getD i (0, 0, 0)).2.2)]), (29, .pointer (some ⟨b8, o9, none⟩)), (28, .bool (decide (((i : Nat) : Int) < ((nf : Nat) : Int)))), (27, .int .i64 ((i : Nat) : Int)), (26, .int .i64 ((nf : Nat) : Int)), (25, .slice pf nf cf), (5, .pointer (some ⟨b6, 0, none⟩)), (3, .int .i64 0), (2, .pointer (some ⟨b2, 0, none⟩)), (1, .pointer (some ⟨b1, 0, none⟩))], [boxA bn26n1 89 [.bool (decide ((qcx - 0) < 0)), .slice pr0n23n1 ((Big.digs ((qcx - 0).natAbs)).length) cr0n23n2, .bool (decide ((qcy - 0) < 0)), .slice pr1n23n3 ((Big.digs ((qcy - 0).natAbs)).length) cr1n23n4, .bool (decide ((qcz - 0) < 0)), .slice pr2n23n5 ((Big.digs ((qcz - 0).natAbs)).length) cr2n23n6], boxA bn25n1 89 [.bool (decide ((qbx - 0) < 0)), .slice pr0n15n1 ((Big.digs ((qbx - 0).natAbs)).length) cr0n15n2, .bool (decide ((qby - 0) < 0)), .slice pr1n15n3 ((Big.digs ((qby - 0).natAbs)).length) cr1n15n4, .bool (decide ((qbz - 0) < 0)), .slice pr2n15n5 ((Big.digs ((qbz - 0).natAbs)).length) cr2n15n6], boxA bn24n1 89 [.bool (decide ((qax - 0) < 0)), .slice pr0n7n1 ((Big.digs ((qax - 0).natAbs)).length) cr0n7n2, .bool (decide ((qay - 0) < 0)), .slice pr1n7n3 ((Big.digs ((qay - 0).natAbs)).length) cr1n7n4, .bool (decide ((qaz - 0) < 0)), .slice pr2n7n5 ((Big.digs ((qaz - 0).natAbs)).length) cr2n7n6]], [boxA b12 42 [.int .i64 0, .int .i64 0, .int .i64 0], boxA b11 44 [.int .i64 ((F.getD i (0, 0, 0)).1), .int .i64 ((F.getD i (0, 0, 0)).2.1), .int .i64 ((F.getD i (0, 0, 0)).2.2)], boxA b6 34 [.bool (decide (s < 0)), .slice p ((Big.digs ((s).natAbs)).length) c], mapA b23 (fun z : Int => .int .i64 z) (fun z : Int => .int .i64 z) (InK .i64) bm1, boxA b2 34 [.bool false, .slice none 0 0], boxA b1 25 [.slice pv nv cv, .slice pf nf cf]], [slF (rI .u32) pr0n23n1 cr0n23n2 (Big.digs ((qcx - 0).natAbs)), slF (rI .u32) pr1n23n3 cr1n23n4 (Big.digs ((qcy - 0).natAbs)), slF (rI .u32) pr2n23n5 cr2n23n6 (Big.digs ((qcz - 0).natAbs)), slF (rI .u32) pr0n15n1 cr0n15n2 (Big.digs ((qbx - 0).natAbs)), slF (rI .u32) pr1n15n3 cr1n15n4 (Big.digs ((qby - 0).natAbs)), slF (rI .u32) pr2n15n5 cr2n15n6 (Big.digs ((qbz - 0).natAbs)), slF (rI .u32) pr0n7n1 cr0n7n2 (Big.digs ((qax - 0).natAbs)), slF (rI .u32) pr1n7n3 cr1n7n4 (Big.digs ((qay - 0).natAbs)), slF (rI .u32) pr2n7n5 cr2n7n6 (Big.digs ((qaz - 0).natAbs)), atF b19 o20 [.int .i64 qcx, .int .i64 qcy, .int .i64 qcz], atF b16 o17 [.int .i64 qbx, .int .i64 qby, .int .i64 qbz], atF b13 o14 [.int .i64 qax, .int .i64 qay, .int .i64 qaz], atF b8 o9 [.int .i64 ((F.getD i (0, 0, 0)).1), .int .i64 ((F.getD i (0, 0, 0)).2.1), .int .i64 ((F.getD i (0, 0, 0)).2.2)], slF (rI .u32) p c (Big.digs ((s).natAbs)), slF (rI .u32) p24 c25 (Big.digs ((0 : Int).natAbs)), slF (rI3 .i64) pv cv V, slF (rI3 .i64) pf cf F])) ?_ (fun hD0 => ?_)
    ·
     rintro ⟨pr0n7n1, cr0n7n2, pr1n7n3, cr1n7n4, pr2n7n5, cr2n7n6, pr0n15n1, cr0n15n2, pr1n15n3, cr1n15n4, pr2n15n5, cr2n15n6, pr0n23n1, cr0n23n2, pr1n23n3, cr1n23n4, pr2n23n5, cr2n23n6, bn24n1, bn25n1, bn26n1⟩
     dsimp only
     refine d_done (by kernel_rfl) ?_
     refine p_then ?_
     refine r_weakO (.c (i := 5) rfl (.c (i := 0) rfl (.c (i := 0) rfl (.c (i := 0) rfl (.c (i := 0) rfl (.c (i := 0) rfl (.c (i := 0) rfl (.c (i := 0) rfl (.c (i := 0) rfl .n))))))))) ?_
     refine r_draw (OW := [boxA b6 34 [.bool (decide (s < 0)), .slice p ((Big.digs ((s).natAbs)).length) c]]) (O := [boxA bn26n1 89 [.bool (decide ((qcx - 0) < 0)), .slice pr0n23n1 ((Big.digs ((qcx - 0).natAbs)).length) cr0n23n2, .bool (decide ((qcy - 0) < 0)), .slice pr1n23n3 ((Big.digs ((qcy - 0).natAbs)).length) cr1n23n4, .bool (decide ((qcz - 0) < 0)), .slice pr2n23n5 ((Big.digs ((qcz - 0).natAbs)).length) cr2n23n6], boxA bn25n1 89 [.bool (decide ((qbx - 0) < 0)), .slice pr0n15n1 ((Big.digs ((qbx - 0).natAbs)).length) cr0n15n2, .bool (decide ((qby - 0) < 0)), .slice pr1n15n3 ((Big.digs ((qby - 0).natAbs)).length) cr1n15n4, .bool (decide ((qbz - 0) < 0)), .slice pr2n15n5 ((Big.digs ((qbz - 0).natAbs)).length) cr2n15n6], boxA bn24n1 89 [.bool (decide ((qax - 0) < 0)), .slice pr0n7n1 ((Big.digs ((qax - 0).natAbs)).length) cr0n7n2, .bool (decide ((qay - 0) < 0)), .slice pr1n7n3 ((Big.digs ((qay - 0).natAbs)).length) cr1n7n4, .bool (decide ((qaz - 0) < 0)), .slice pr2n7n5 ((Big.digs ((qaz - 0).natAbs)).length) cr2n7n6], boxA b12 42 [.int .i64 0, .int .i64 0, .int .i64 0], boxA b11 44 [.int .i64 ((F.getD i (0, 0, 0)).1), .int .i64 ((F.getD i (0, 0, 0)).2.1), .int .i64 ((F.getD i (0, 0, 0)).2.2)], mapA b23 (fun z : Int => .int .i64 z) (fun z : Int => .int .i64 z) (InK .i64) bm1, boxA b2 34 [.bool false, .slice none 0 0], boxA b1 25 [.slice pv nv cv, .slice pf nf cf]]) 7 mixed (.block (.then (.then (.block (.then .ret))))) (by kernel_rfl) ?_
     refine d_uw 0 rfl rfl (by kernel_rfl) (by kernel_rfl) (by kernel_rfl) rfl rfl (vl_load_box_agg 0 ty34 rfl rfl (.take (.take .nil))) ?_
     refine d_uw 1 rfl rfl (by kernel_rfl) (by kernel_rfl) (by kernel_rfl) rfl rfl (vl_load_box_agg 3 ty89 rfl rfl (.take (.take (.take (.take (.take (.take .nil))))))) ?_
     refine d_uw 2 rfl rfl (by kernel_rfl) (by kernel_rfl) (by kernel_rfl) rfl rfl (vl_load_box_agg 2 ty89 rfl rfl (.take (.take (.take (.take (.take (.take .nil))))))) ?_
     refine d_uw 3 rfl rfl (by kernel_rfl) (by kernel_rfl) (by kernel_rfl) rfl rfl (vl_load_box_agg 1 ty89 rfl rfl (.take (.take (.take (.take (.take (.take .nil))))))) ?_
     refine d_one 4 (by kernel_rfl) (o_callf rfl rfl rfl rfl (.c rfl (.c rfl .n)) ce61 (con_cross (ex := (qbx - 0)) (ey := (qby - 0)) (ez := (qbz - 0)) (pa0 := pr0n15n1) (ca0 := cr0n15n2) (pa1 := pr1n15n3) (ca1 := cr1n15n4) (pa2 := pr2n15n5) (ca2 := cr2n15n6) (fx := (qcx - 0)) (fy := (qcy - 0)) (fz := (qcz - 0)) (pb0 := pr0n23n1) (cb0 := cr0n23n2) (pb1 := pr1n23n3) (cb1 := cr1n23n4) (pb2 := pr2n23n5) (cb2 := cr2n23n6) (hlex := by exact Nat.le_trans (Big.ln_small (by omega)) (by decide)) (hley := by exact Nat.le_trans (Big.ln_small (by omega)) (by decide)) (hlez := by exact Nat.le_trans (Big.ln_small (by omega)) (by decide)) (hlfx := by exact Nat.le_trans (Big.ln_small (by omega)) (by decide)) (hlfy := by exact Nat.le_trans (Big.ln_small (by omega)) (by decide)) (hlfz := by exact Nat.le_trans (Big.ln_small (by omega)) (by decide))) (.c (j := 3) rfl (.c (j := 4) rfl (.c (j := 5) rfl (.c (j := 0) rfl (.c (j := 1) rfl (.c (j := 2) rfl .n)))))) ?_)
     rintro ⟨pr022, cr023, pr124, cr125, pr226, cr227⟩ -
     dsimp only [List.append_eq, List.nil_append, List.cons_append]
     refine d_one 5 (by kernel_rfl) (o_callf rfl rfl rfl rfl (.c rfl (.c rfl .n)) ce60 (con_dot (ex := (qax - 0)) (ey := (qay - 0)) (ez := (qaz - 0)) (pa0 := pr0n7n1) (ca0 := cr0n7n2) (pa1 := pr1n7n3) (ca1 := cr1n7n4) (pa2 := pr2n7n5) (ca2 := cr2n7n6) (fx := ((qby - 0) * (qcz - 0) - (qbz - 0) * (qcy - 0))) (fy := ((qbz - 0) * (qcx - 0) - (qbx - 0) * (qcz - 0))) (fz := ((qbx - 0) * (qcy - 0) - (qby - 0) * (qcx - 0))) (pb0 := pr022) (cb0 := cr023) (pb1 := pr124) (cb1 := cr125) (pb2 := pr226) (cb2 := cr227) (hlex := by first | (exact Nat.le_trans (Big.ln_small (by omega)) (by decide)) | (refine Nat.le_trans (Big.ln_cross ?_ ?_ ?_ ?_) (by decide) <;> exact Nat.le_trans (Big.ln_small (by omega)) (by decide))) (hley := by first | (exact Nat.le_trans (Big.ln_small (by omega)) (by decide)) | (refine Nat.le_trans (Big.ln_cross ?_ ?_ ?_ ?_) (by decide) <;> exact Nat.le_trans (Big.ln_small (by omega)) (by decide))) (hlez := by first | (exact Nat.le_trans (Big.ln_small (by omega)) (by decide)) | (refine Nat.le_trans (Big.ln_cross ?_ ?_ ?_ ?_) (by decide) <;> exact Nat.le_trans (Big.ln_small (by omega)) (by decide))) (hlfx := by first | (exact Nat.le_trans (Big.ln_small (by omega)) (by decide)) | (refine Nat.le_trans (Big.ln_cross ?_ ?_ ?_ ?_) (by decide) <;> exact Nat.le_trans (Big.ln_small (by omega)) (by decide))) (hlfy := by first | (exact Nat.le_trans (Big.ln_small (by omega)) (by decide)) | (refine Nat.le_trans (Big.ln_cross ?_ ?_ ?_ ?_) (by decide) <;> exact Nat.le_trans (Big.ln_small (by omega)) (by decide))) (hlfz := by first | (exact Nat.le_trans (Big.ln_small (by omega)) (by decide)) | (refine Nat.le_trans (Big.ln_cross ?_ ?_ ?_ ?_) (by decide) <;> exact Nat.le_trans (Big.ln_small (by omega)) (by decide)))) (.c (j := 9) rfl (.c (j := 10) rfl (.c (j := 11) rfl (.c (j := 0) rfl (.c (j := 1) rfl (.c (j := 2) rfl .n)))))) ?_)
     rintro ⟨p328, c329⟩ -
     dsimp only [List.append_eq, List.nil_append, List.cons_append]
     refine d_one 6 (by kernel_rfl) (o_callf rfl rfl rfl rfl (.c rfl (.c rfl .n)) ce59 (con_AddZ (x1 := s) (x2 := Ms.dot ((qax - 0), (qay - 0), (qaz - 0)) (((qby - 0) * (qcz - 0) - (qbz - 0) * (qcy - 0)), ((qbz - 0) * (qcx - 0) - (qbx - 0) * (qcz - 0)), ((qbx - 0) * (qcy - 0) - (qby - 0) * (qcx - 0)))) (p1 := p) (c1 := c) (p2 := p328) (c2 := c329) (hb1 := by first | omega | (refine Nat.le_trans (Big.ln_dot _ _ ?_ ?_ ?_ ?_ ?_ ?_) (by decide) <;> (try dsimp only) <;> first | (exact Nat.le_trans (Big.ln_small (by omega)) (by decide)) | (refine Nat.le_trans (Big.ln_cross ?_ ?_ ?_ ?_) (by decide) <;> exact Nat.le_trans (Big.ln_small (by omega)) (by decide)))) (hb2 := by first | omega | (refine Nat.le_trans (Big.ln_dot _ _ ?_ ?_ ?_ ?_ ?_ ?_) (by decide) <;> (try dsimp only) <;> first | (exact Nat.le_trans (Big.ln_small (by omega)) (by decide)) | (refine Nat.le_trans (Big.ln_cross ?_ ?_ ?_ ?_) (by decide) <;> exact Nat.le_trans (Big.ln_small (by omega)) (by decide))))) (.c (j := 17) rfl (.c (j := 0) rfl .n)) ?_)
     rintro ⟨p330, c331⟩ -
     dsimp only [List.append_eq, List.nil_append, List.cons_append]
     refine d_one 7 (by kernel_rfl) (o_store_box (by kernel_rfl) rfl rfl rfl rfl rfl sz34 rfl (.take (.take .nil)) ?_)
     refine d_done (by kernel_rfl) ?_
     refine p_block ?_
     refine p_then ?_
     refine r_region ?_
     refine r_pv rfl rfl (pv_add (z := (((i + 1) : Nat) : Int)) rfl rfl (w64 (by omega))) ?_
     refine r_pv rfl rfl (pv_move rfl) ?_
     refine r_nil ?_
     refine p_next ((i + 1), (s + (Ms.dot ((qax - 0), (qay - 0), (qaz - 0)) (((qby - 0) * (qcz - 0) - (qbz - 0) * (qcy - 0)), ((qbz - 0) * (qcx - 0) - (qbx - 0) * (qcz - 0)), ((qbx - 0) * (qcy - 0) - (qby - 0) * (qcx - 0))))), p330, c331) (show (i + 1) ≤ nf ∧ (s + (Ms.dot ((qax - 0), (qay - 0), (qaz - 0)) (((qby - 0) * (qcz - 0) - (qbz - 0) * (qcy - 0)), ((qbz - 0) * (qcx - 0) - (qbx - 0) * (qcz - 0)), ((qbx - 0) * (qcy - 0) - (qby - 0) * (qcx - 0))))) = Ms.volS V (F.take (i + 1)) ∧ Big.ln (s + (Ms.dot ((qax - 0), (qay - 0), (qaz - 0)) (((qby - 0) * (qcz - 0) - (qbz - 0) * (qcy - 0)), ((qbz - 0) * (qcx - 0) - (qbx - 0) * (qcz - 0)), ((qbx - 0) * (qcy - 0) - (qby - 0) * (qcx - 0))))) ≤ 4000 + (i + 1) from by subst hqax hqay hqaz hqbx hqby hqbz hqcx hqcy hqcz; refine ⟨by omega, by rw [Ms.volS_take (by omega), hs]; simp [Ms.tet, Ms.det, Ms.pt, Ms.cross], ?_⟩; refine Nat.le_trans (Big.ln_add _ _) ?_; have h9 : ∀ z : Int, Big.ln z ≤ 3000 → max (Big.ln s) (Big.ln z) + 1 ≤ 4000 + (i + 1) := fun z hz => (by omega); refine h9 _ ?_; refine Big.ln_dot _ _ ?_ ?_ ?_ ?_ ?_ ?_ <;> (try dsimp only) <;> first | (exact Nat.le_trans (Big.ln_small (by omega)) (by decide)) | (refine Nat.le_trans (Big.ln_cross ?_ ?_ ?_ ?_) (by decide) <;> exact Nat.le_trans (Big.ln_small (by omega)) (by decide))) (by show nf - (i + 1) < nf - i; omega) ((.of rfl) : SubM _ _) (ho := ((.e (i := 0) rfl (by first | rfl | (congr 1; omega) | simp_all) (.of [5, 5, 5] rfl)) : PickO _ _ _)) ((.e (j := 0) rfl (by first | rfl | simp_all) (.of [19, 20, 21] rfl)) : SelR _ _ _)
    refine d_join (X := Option Addr × Nat × Option Addr × Nat × Option Addr × Nat × Option Addr × Nat × Option Addr × Nat × Option Addr × Nat × Option Addr × Nat × Option Addr × Nat × Option Addr × Nat × Nat × Nat × Nat) (k' := 1) (L' := #[true, true, true, true, true, true, true, true, true, true, true, true, true, true, true, true, true, true, true, true, true, true, true, true, true, true, true, true, true, false]) (fun (pr0n7n1, cr0n7n2, pr1n7n3, cr1n7n4, pr2n7n5, cr2n7n6, pr0n15n1, cr0n15n2, pr1n15n3, cr1n15n4, pr2n15n5, cr2n15n6, pr0n23n1, cr0n23n2, pr1n23n3, cr1n23n4, pr2n23n5, cr2n23n6, bn24n1, bn25n1, bn26n1) => ([(11, .pointer (some ⟨bn26n1, 0, none⟩)), (10, .pointer (some ⟨bn25n1, 0, none⟩)), (9, .pointer (some ⟨bn24n1, 0, none⟩)), (55, .agg #[.bool (decide ((qcx - 0) < 0)), .slice pr0n23n1 ((Big.digs ((qcx - 0).natAbs)).length) cr0n23n2, .bool (decide ((qcy - 0) < 0)), .slice pr1n23n3 ((Big.digs ((qcy - 0).natAbs)).length) cr1n23n4, .bool (decide ((qcz - 0) < 0)), .slice pr2n23n5 ((Big.digs ((qcz - 0).natAbs)).length) cr2n23n6]), (47, .agg #[.bool (decide ((qbx - 0) < 0)), .slice pr0n15n1 ((Big.digs ((qbx - 0).natAbs)).length) cr0n15n2, .bool (decide ((qby - 0) < 0)), .slice pr1n15n3 ((Big.digs ((qby - 0).natAbs)).length) cr1n15n4, .bool (decide ((qbz - 0) < 0)), .slice pr2n15n5 ((Big.digs ((qbz - 0).natAbs)).length) cr2n15n6]), (39, .agg #[.bool (decide ((qax - 0) < 0)), .slice pr0n7n1 ((Big.digs ((qax - 0).natAbs)).length) cr0n7n2, .bool (decide ((qay - 0) < 0)), .slice pr1n7n3 ((Big.digs ((qay - 0).natAbs)).length) cr1n7n4, .bool (decide ((qaz - 0) < 0)), .slice pr2n7n5 ((Big.digs ((qaz - 0).natAbs)).length) cr2n7n6]), (54, .agg #[.int .i64 qcx, .int .i64 qcy, .int .i64 qcz]), (53, .pointer (some ⟨b19, o20, none⟩)), (52, .int .i64 ((F.getD i (0, 0, 0)).2.2)), (51, .pointer (some ⟨b11, 2, none⟩)), (50, .slice pv nv cv), (49, .pointer (some ⟨b1, 0, none⟩)), (48, .agg #[.int .i64 0, .int .i64 0, .int .i64 0]), (46, .agg #[.int .i64 qbx, .int .i64 qby, .int .i64 qbz]), (45, .pointer (some ⟨b16, o17, none⟩)), (44, .int .i64 ((F.getD i (0, 0, 0)).2.1)), (43, .pointer (some ⟨b11, 1, none⟩)), (42, .slice pv nv cv), (41, .pointer (some ⟨b1, 0, none⟩)), (40, .agg #[.int .i64 0, .int .i64 0, .int .i64 0]), (38, .agg #[.int .i64 qax, .int .i64 qay, .int .i64 qaz]), (37, .pointer (some ⟨b13, o14, none⟩)), (36, .int .i64 ((F.getD i (0, 0, 0)).1)), (35, .pointer (some ⟨b11, 0, none⟩)), (34, .slice pv nv cv), (33, .pointer (some ⟨b1, 0, none⟩)), (32, .agg #[.int .i64 0, .int .i64 0, .int .i64 0]), (8, .pointer (some ⟨b12, 0, none⟩)), (31, .agg #[.int .i64 0, .int .i64 0, .int .i64 0]), (7, .pointer (some ⟨b11, 0, none⟩)), (30, .agg #[.int .i64 ((F.getD i (0, 0, 0)).1), .int .i64 ((F.getD i (0, 0, 0)).2.1), .int .i64 ((F.getD i (0, 0, 0)).2.2)]), (29, .pointer (some ⟨b8, o9, none⟩)), (28, .bool (decide (((i : Nat) : Int) < ((nf : Nat) : Int)))), (27, .int .i64 ((i : Nat) : Int)), (26, .int .i64 ((nf : Nat) : Int)), (25, .slice pf nf cf), (5, .pointer (some ⟨b6, 0, none⟩)), (3, .int .i64 0), (2, .pointer (some ⟨b2, 0, none⟩)), (1, .pointer (some ⟨b1, 0, none⟩))], [boxA bn25n1 89 [.bool (decide ((qbx - 0) < 0)), .slice pr0n15n1 ((Big.digs ((qbx - 0).natAbs)).length) cr0n15n2, .bool (decide ((qby - 0) < 0)), .slice pr1n15n3 ((Big.digs ((qby - 0).natAbs)).length) cr1n15n4, .bool (decide ((qbz - 0) < 0)), .slice pr2n15n5 ((Big.digs ((qbz - 0).natAbs)).length) cr2n15n6], boxA bn24n1 89 [.bool (decide ((qax - 0) < 0)), .slice pr0n7n1 ((Big.digs ((qax - 0).natAbs)).length) cr0n7n2, .bool (decide ((qay - 0) < 0)), .slice pr1n7n3 ((Big.digs ((qay - 0).natAbs)).length) cr1n7n4, .bool (decide ((qaz - 0) < 0)), .slice pr2n7n5 ((Big.digs ((qaz - 0).natAbs)).length) cr2n7n6], boxA bn26n1 89 [.bool false, .slice none 0 0, .bool false, .slice none 0 0, .bool false, .slice none 0 0]], [boxA b12 42 [.int .i64 0, .int .i64 0, .int .i64 0], boxA b11 44 [.int .i64 ((F.getD i (0, 0, 0)).1), .int .i64 ((F.getD i (0, 0, 0)).2.1), .int .i64 ((F.getD i (0, 0, 0)).2.2)], boxA b6 34 [.bool (decide (s < 0)), .slice p ((Big.digs ((s).natAbs)).length) c], mapA b23 (fun z : Int => .int .i64 z) (fun z : Int => .int .i64 z) (InK .i64) bm1, boxA b2 34 [.bool false, .slice none 0 0], boxA b1 25 [.slice pv nv cv, .slice pf nf cf]], [slF (rI .u32) pr0n23n1 cr0n23n2 (Big.digs ((qcx - 0).natAbs)), slF (rI .u32) pr1n23n3 cr1n23n4 (Big.digs ((qcy - 0).natAbs)), slF (rI .u32) pr2n23n5 cr2n23n6 (Big.digs ((qcz - 0).natAbs)), slF (rI .u32) pr0n15n1 cr0n15n2 (Big.digs ((qbx - 0).natAbs)), slF (rI .u32) pr1n15n3 cr1n15n4 (Big.digs ((qby - 0).natAbs)), slF (rI .u32) pr2n15n5 cr2n15n6 (Big.digs ((qbz - 0).natAbs)), slF (rI .u32) pr0n7n1 cr0n7n2 (Big.digs ((qax - 0).natAbs)), slF (rI .u32) pr1n7n3 cr1n7n4 (Big.digs ((qay - 0).natAbs)), slF (rI .u32) pr2n7n5 cr2n7n6 (Big.digs ((qaz - 0).natAbs)), atF b19 o20 [.int .i64 qcx, .int .i64 qcy, .int .i64 qcz], atF b16 o17 [.int .i64 qbx, .int .i64 qby, .int .i64 qbz], atF b13 o14 [.int .i64 qax, .int .i64 qay, .int .i64 qaz], atF b8 o9 [.int .i64 ((F.getD i (0, 0, 0)).1), .int .i64 ((F.getD i (0, 0, 0)).2.1), .int .i64 ((F.getD i (0, 0, 0)).2.2)], slF (rI .u32) p c (Big.digs ((s).natAbs)), slF (rI .u32) p24 c25 (Big.digs ((0 : Int).natAbs)), slF (rI3 .i64) pv cv V, slF (rI3 .i64) pf cf F])) ?_ (fun hD1 => ?_)
    ·
     rintro ⟨pr0n7n1, cr0n7n2, pr1n7n3, cr1n7n4, pr2n7n5, cr2n7n6, pr0n15n1, cr0n15n2, pr1n15n3, cr1n15n4, pr2n15n5, cr2n15n6, pr0n23n1, cr0n23n2, pr1n23n3, cr1n23n4, pr2n23n5, cr2n23n6, bn24n1, bn25n1, bn26n1⟩
     dsimp only
     refine d_one 29 (by kernel_rfl) ?_
     ·
      refine o_permW (perm_front (i := 2) rfl) ?_
      refine o_store_box (by kernel_rfl) rfl rfl rfl rfl rfl sz89 rfl (.take (.take (.take (.take (.take (.take .nil)))))) ?_
      exact d_weakT (hD0 (pr0n7n1, cr0n7n2, pr1n7n3, cr1n7n4, pr2n7n5, cr2n7n6, pr0n15n1, cr0n15n2, pr1n15n3, cr1n15n4, pr2n15n5, cr2n15n6, pr0n23n1, cr0n23n2, pr1n23n3, cr1n23n4, pr2n23n5, cr2n23n6, bn24n1, bn25n1, bn26n1)) (by kernel_rfl) ((.of rfl) : SubM _ _) .rfl .rfl ((.of [0, 1, 2, 3, 4, 5, 6, 7, 8, 9, 10, 11, 12, 13, 14, 15, 16] rfl) : SelR _ _ _)
    refine d_join (X := Option Addr × Nat × Option Addr × Nat × Option Addr × Nat × Option Addr × Nat × Option Addr × Nat × Option Addr × Nat × Option Addr × Nat × Option Addr × Nat × Option Addr × Nat × Nat × Nat × Nat) (k' := 2) (L' := #[true, true, true, true, true, true, true, true, true, true, true, true, true, true, true, true, true, true, true, true, true, true, true, true, true, true, true, true, false, false]) (fun (pr0n7n1, cr0n7n2, pr1n7n3, cr1n7n4, pr2n7n5, cr2n7n6, pr0n15n1, cr0n15n2, pr1n15n3, cr1n15n4, pr2n15n5, cr2n15n6, pr0n23n1, cr0n23n2, pr1n23n3, cr1n23n4, pr2n23n5, cr2n23n6, bn24n1, bn25n1, bn26n1) => ([(11, .pointer (some ⟨bn26n1, 0, none⟩)), (10, .pointer (some ⟨bn25n1, 0, none⟩)), (9, .pointer (some ⟨bn24n1, 0, none⟩)), (55, .agg #[.bool (decide ((qcx - 0) < 0)), .slice pr0n23n1 ((Big.digs ((qcx - 0).natAbs)).length) cr0n23n2, .bool (decide ((qcy - 0) < 0)), .slice pr1n23n3 ((Big.digs ((qcy - 0).natAbs)).length) cr1n23n4, .bool (decide ((qcz - 0) < 0)), .slice pr2n23n5 ((Big.digs ((qcz - 0).natAbs)).length) cr2n23n6]), (47, .agg #[.bool (decide ((qbx - 0) < 0)), .slice pr0n15n1 ((Big.digs ((qbx - 0).natAbs)).length) cr0n15n2, .bool (decide ((qby - 0) < 0)), .slice pr1n15n3 ((Big.digs ((qby - 0).natAbs)).length) cr1n15n4, .bool (decide ((qbz - 0) < 0)), .slice pr2n15n5 ((Big.digs ((qbz - 0).natAbs)).length) cr2n15n6]), (39, .agg #[.bool (decide ((qax - 0) < 0)), .slice pr0n7n1 ((Big.digs ((qax - 0).natAbs)).length) cr0n7n2, .bool (decide ((qay - 0) < 0)), .slice pr1n7n3 ((Big.digs ((qay - 0).natAbs)).length) cr1n7n4, .bool (decide ((qaz - 0) < 0)), .slice pr2n7n5 ((Big.digs ((qaz - 0).natAbs)).length) cr2n7n6]), (54, .agg #[.int .i64 qcx, .int .i64 qcy, .int .i64 qcz]), (53, .pointer (some ⟨b19, o20, none⟩)), (52, .int .i64 ((F.getD i (0, 0, 0)).2.2)), (51, .pointer (some ⟨b11, 2, none⟩)), (50, .slice pv nv cv), (49, .pointer (some ⟨b1, 0, none⟩)), (48, .agg #[.int .i64 0, .int .i64 0, .int .i64 0]), (46, .agg #[.int .i64 qbx, .int .i64 qby, .int .i64 qbz]), (45, .pointer (some ⟨b16, o17, none⟩)), (44, .int .i64 ((F.getD i (0, 0, 0)).2.1)), (43, .pointer (some ⟨b11, 1, none⟩)), (42, .slice pv nv cv), (41, .pointer (some ⟨b1, 0, none⟩)), (40, .agg #[.int .i64 0, .int .i64 0, .int .i64 0]), (38, .agg #[.int .i64 qax, .int .i64 qay, .int .i64 qaz]), (37, .pointer (some ⟨b13, o14, none⟩)), (36, .int .i64 ((F.getD i (0, 0, 0)).1)), (35, .pointer (some ⟨b11, 0, none⟩)), (34, .slice pv nv cv), (33, .pointer (some ⟨b1, 0, none⟩)), (32, .agg #[.int .i64 0, .int .i64 0, .int .i64 0]), (8, .pointer (some ⟨b12, 0, none⟩)), (31, .agg #[.int .i64 0, .int .i64 0, .int .i64 0]), (7, .pointer (some ⟨b11, 0, none⟩)), (30, .agg #[.int .i64 ((F.getD i (0, 0, 0)).1), .int .i64 ((F.getD i (0, 0, 0)).2.1), .int .i64 ((F.getD i (0, 0, 0)).2.2)]), (29, .pointer (some ⟨b8, o9, none⟩)), (28, .bool (decide (((i : Nat) : Int) < ((nf : Nat) : Int)))), (27, .int .i64 ((i : Nat) : Int)), (26, .int .i64 ((nf : Nat) : Int)), (25, .slice pf nf cf), (5, .pointer (some ⟨b6, 0, none⟩)), (3, .int .i64 0), (2, .pointer (some ⟨b2, 0, none⟩)), (1, .pointer (some ⟨b1, 0, none⟩))], [boxA bn24n1 89 [.bool (decide ((qax - 0) < 0)), .slice pr0n7n1 ((Big.digs ((qax - 0).natAbs)).length) cr0n7n2, .bool (decide ((qay - 0) < 0)), .slice pr1n7n3 ((Big.digs ((qay - 0).natAbs)).length) cr1n7n4, .bool (decide ((qaz - 0) < 0)), .slice pr2n7n5 ((Big.digs ((qaz - 0).natAbs)).length) cr2n7n6], boxA bn26n1 89 [.bool false, .slice none 0 0, .bool false, .slice none 0 0, .bool false, .slice none 0 0], boxA bn25n1 89 [.bool false, .slice none 0 0, .bool false, .slice none 0 0, .bool false, .slice none 0 0]], [boxA b12 42 [.int .i64 0, .int .i64 0, .int .i64 0], boxA b11 44 [.int .i64 ((F.getD i (0, 0, 0)).1), .int .i64 ((F.getD i (0, 0, 0)).2.1), .int .i64 ((F.getD i (0, 0, 0)).2.2)], boxA b6 34 [.bool (decide (s < 0)), .slice p ((Big.digs ((s).natAbs)).length) c], mapA b23 (fun z : Int => .int .i64 z) (fun z : Int => .int .i64 z) (InK .i64) bm1, boxA b2 34 [.bool false, .slice none 0 0], boxA b1 25 [.slice pv nv cv, .slice pf nf cf]], [slF (rI .u32) pr0n23n1 cr0n23n2 (Big.digs ((qcx - 0).natAbs)), slF (rI .u32) pr1n23n3 cr1n23n4 (Big.digs ((qcy - 0).natAbs)), slF (rI .u32) pr2n23n5 cr2n23n6 (Big.digs ((qcz - 0).natAbs)), slF (rI .u32) pr0n15n1 cr0n15n2 (Big.digs ((qbx - 0).natAbs)), slF (rI .u32) pr1n15n3 cr1n15n4 (Big.digs ((qby - 0).natAbs)), slF (rI .u32) pr2n15n5 cr2n15n6 (Big.digs ((qbz - 0).natAbs)), slF (rI .u32) pr0n7n1 cr0n7n2 (Big.digs ((qax - 0).natAbs)), slF (rI .u32) pr1n7n3 cr1n7n4 (Big.digs ((qay - 0).natAbs)), slF (rI .u32) pr2n7n5 cr2n7n6 (Big.digs ((qaz - 0).natAbs)), atF b19 o20 [.int .i64 qcx, .int .i64 qcy, .int .i64 qcz], atF b16 o17 [.int .i64 qbx, .int .i64 qby, .int .i64 qbz], atF b13 o14 [.int .i64 qax, .int .i64 qay, .int .i64 qaz], atF b8 o9 [.int .i64 ((F.getD i (0, 0, 0)).1), .int .i64 ((F.getD i (0, 0, 0)).2.1), .int .i64 ((F.getD i (0, 0, 0)).2.2)], slF (rI .u32) p c (Big.digs ((s).natAbs)), slF (rI .u32) p24 c25 (Big.digs ((0 : Int).natAbs)), slF (rI3 .i64) pv cv V, slF (rI3 .i64) pf cf F])) ?_ (fun hD2 => ?_)
    ·
     rintro ⟨pr0n7n1, cr0n7n2, pr1n7n3, cr1n7n4, pr2n7n5, cr2n7n6, pr0n15n1, cr0n15n2, pr1n15n3, cr1n15n4, pr2n15n5, cr2n15n6, pr0n23n1, cr0n23n2, pr1n23n3, cr1n23n4, pr2n23n5, cr2n23n6, bn24n1, bn25n1, bn26n1⟩
     dsimp only
     refine d_one 28 (by kernel_rfl) ?_
     ·
      refine o_permW (perm_front (i := 2) rfl) ?_
      refine o_store_box (by kernel_rfl) rfl rfl rfl rfl rfl sz89 rfl (.take (.take (.take (.take (.take (.take .nil)))))) ?_
      exact d_weakT (hD1 (pr0n7n1, cr0n7n2, pr1n7n3, cr1n7n4, pr2n7n5, cr2n7n6, pr0n15n1, cr0n15n2, pr1n15n3, cr1n15n4, pr2n15n5, cr2n15n6, pr0n23n1, cr0n23n2, pr1n23n3, cr1n23n4, pr2n23n5, cr2n23n6, bn24n1, bn25n1, bn26n1)) (by kernel_rfl) ((.of rfl) : SubM _ _) .rfl .rfl ((.of [0, 1, 2, 3, 4, 5, 6, 7, 8, 9, 10, 11, 12, 13, 14, 15, 16] rfl) : SelR _ _ _)
    refine d_join (X := Option Addr × Nat × Option Addr × Nat × Option Addr × Nat × Option Addr × Nat × Option Addr × Nat × Option Addr × Nat × Option Addr × Nat × Option Addr × Nat × Option Addr × Nat × Nat × Nat × Nat) (k' := 3) (L' := #[true, true, true, true, true, true, true, true, true, true, true, true, true, true, true, true, true, true, true, true, true, true, true, true, true, true, true, false, false, false]) (fun (pr0n7n1, cr0n7n2, pr1n7n3, cr1n7n4, pr2n7n5, cr2n7n6, pr0n15n1, cr0n15n2, pr1n15n3, cr1n15n4, pr2n15n5, cr2n15n6, pr0n23n1, cr0n23n2, pr1n23n3, cr1n23n4, pr2n23n5, cr2n23n6, bn24n1, bn25n1, bn26n1) => ([(11, .pointer (some ⟨bn26n1, 0, none⟩)), (10, .pointer (some ⟨bn25n1, 0, none⟩)), (9, .pointer (some ⟨bn24n1, 0, none⟩)), (55, .agg #[.bool (decide ((qcx - 0) < 0)), .slice pr0n23n1 ((Big.digs ((qcx - 0).natAbs)).length) cr0n23n2, .bool (decide ((qcy - 0) < 0)), .slice pr1n23n3 ((Big.digs ((qcy - 0).natAbs)).length) cr1n23n4, .bool (decide ((qcz - 0) < 0)), .slice pr2n23n5 ((Big.digs ((qcz - 0).natAbs)).length) cr2n23n6]), (47, .agg #[.bool (decide ((qbx - 0) < 0)), .slice pr0n15n1 ((Big.digs ((qbx - 0).natAbs)).length) cr0n15n2, .bool (decide ((qby - 0) < 0)), .slice pr1n15n3 ((Big.digs ((qby - 0).natAbs)).length) cr1n15n4, .bool (decide ((qbz - 0) < 0)), .slice pr2n15n5 ((Big.digs ((qbz - 0).natAbs)).length) cr2n15n6]), (39, .agg #[.bool (decide ((qax - 0) < 0)), .slice pr0n7n1 ((Big.digs ((qax - 0).natAbs)).length) cr0n7n2, .bool (decide ((qay - 0) < 0)), .slice pr1n7n3 ((Big.digs ((qay - 0).natAbs)).length) cr1n7n4, .bool (decide ((qaz - 0) < 0)), .slice pr2n7n5 ((Big.digs ((qaz - 0).natAbs)).length) cr2n7n6]), (54, .agg #[.int .i64 qcx, .int .i64 qcy, .int .i64 qcz]), (53, .pointer (some ⟨b19, o20, none⟩)), (52, .int .i64 ((F.getD i (0, 0, 0)).2.2)), (51, .pointer (some ⟨b11, 2, none⟩)), (50, .slice pv nv cv), (49, .pointer (some ⟨b1, 0, none⟩)), (48, .agg #[.int .i64 0, .int .i64 0, .int .i64 0]), (46, .agg #[.int .i64 qbx, .int .i64 qby, .int .i64 qbz]), (45, .pointer (some ⟨b16, o17, none⟩)), (44, .int .i64 ((F.getD i (0, 0, 0)).2.1)), (43, .pointer (some ⟨b11, 1, none⟩)), (42, .slice pv nv cv), (41, .pointer (some ⟨b1, 0, none⟩)), (40, .agg #[.int .i64 0, .int .i64 0, .int .i64 0]), (38, .agg #[.int .i64 qax, .int .i64 qay, .int .i64 qaz]), (37, .pointer (some ⟨b13, o14, none⟩)), (36, .int .i64 ((F.getD i (0, 0, 0)).1)), (35, .pointer (some ⟨b11, 0, none⟩)), (34, .slice pv nv cv), (33, .pointer (some ⟨b1, 0, none⟩)), (32, .agg #[.int .i64 0, .int .i64 0, .int .i64 0]), (8, .pointer (some ⟨b12, 0, none⟩)), (31, .agg #[.int .i64 0, .int .i64 0, .int .i64 0]), (7, .pointer (some ⟨b11, 0, none⟩)), (30, .agg #[.int .i64 ((F.getD i (0, 0, 0)).1), .int .i64 ((F.getD i (0, 0, 0)).2.1), .int .i64 ((F.getD i (0, 0, 0)).2.2)]), (29, .pointer (some ⟨b8, o9, none⟩)), (28, .bool (decide (((i : Nat) : Int) < ((nf : Nat) : Int)))), (27, .int .i64 ((i : Nat) : Int)), (26, .int .i64 ((nf : Nat) : Int)), (25, .slice pf nf cf), (5, .pointer (some ⟨b6, 0, none⟩)), (3, .int .i64 0), (2, .pointer (some ⟨b2, 0, none⟩)), (1, .pointer (some ⟨b1, 0, none⟩))], [boxA bn26n1 89 [.bool false, .slice none 0 0, .bool false, .slice none 0 0, .bool false, .slice none 0 0], boxA bn25n1 89 [.bool false, .slice none 0 0, .bool false, .slice none 0 0, .bool false, .slice none 0 0], boxA bn24n1 89 [.bool false, .slice none 0 0, .bool false, .slice none 0 0, .bool false, .slice none 0 0]], [boxA b12 42 [.int .i64 0, .int .i64 0, .int .i64 0], boxA b11 44 [.int .i64 ((F.getD i (0, 0, 0)).1), .int .i64 ((F.getD i (0, 0, 0)).2.1), .int .i64 ((F.getD i (0, 0, 0)).2.2)], boxA b6 34 [.bool (decide (s < 0)), .slice p ((Big.digs ((s).natAbs)).length) c], mapA b23 (fun z : Int => .int .i64 z) (fun z : Int => .int .i64 z) (InK .i64) bm1, boxA b2 34 [.bool false, .slice none 0 0], boxA b1 25 [.slice pv nv cv, .slice pf nf cf]], [slF (rI .u32) pr0n23n1 cr0n23n2 (Big.digs ((qcx - 0).natAbs)), slF (rI .u32) pr1n23n3 cr1n23n4 (Big.digs ((qcy - 0).natAbs)), slF (rI .u32) pr2n23n5 cr2n23n6 (Big.digs ((qcz - 0).natAbs)), slF (rI .u32) pr0n15n1 cr0n15n2 (Big.digs ((qbx - 0).natAbs)), slF (rI .u32) pr1n15n3 cr1n15n4 (Big.digs ((qby - 0).natAbs)), slF (rI .u32) pr2n15n5 cr2n15n6 (Big.digs ((qbz - 0).natAbs)), slF (rI .u32) pr0n7n1 cr0n7n2 (Big.digs ((qax - 0).natAbs)), slF (rI .u32) pr1n7n3 cr1n7n4 (Big.digs ((qay - 0).natAbs)), slF (rI .u32) pr2n7n5 cr2n7n6 (Big.digs ((qaz - 0).natAbs)), atF b19 o20 [.int .i64 qcx, .int .i64 qcy, .int .i64 qcz], atF b16 o17 [.int .i64 qbx, .int .i64 qby, .int .i64 qbz], atF b13 o14 [.int .i64 qax, .int .i64 qay, .int .i64 qaz], atF b8 o9 [.int .i64 ((F.getD i (0, 0, 0)).1), .int .i64 ((F.getD i (0, 0, 0)).2.1), .int .i64 ((F.getD i (0, 0, 0)).2.2)], slF (rI .u32) p c (Big.digs ((s).natAbs)), slF (rI .u32) p24 c25 (Big.digs ((0 : Int).natAbs)), slF (rI3 .i64) pv cv V, slF (rI3 .i64) pf cf F])) ?_ (fun hD3 => ?_)
    ·
     rintro ⟨pr0n7n1, cr0n7n2, pr1n7n3, cr1n7n4, pr2n7n5, cr2n7n6, pr0n15n1, cr0n15n2, pr1n15n3, cr1n15n4, pr2n15n5, cr2n15n6, pr0n23n1, cr0n23n2, pr1n23n3, cr1n23n4, pr2n23n5, cr2n23n6, bn24n1, bn25n1, bn26n1⟩
     dsimp only
     refine d_one 27 (by kernel_rfl) ?_
     ·
      refine o_permW (perm_front (i := 2) rfl) ?_
      refine o_store_box (by kernel_rfl) rfl rfl rfl rfl rfl sz89 rfl (.take (.take (.take (.take (.take (.take .nil)))))) ?_
      exact d_weakT (hD2 (pr0n7n1, cr0n7n2, pr1n7n3, cr1n7n4, pr2n7n5, cr2n7n6, pr0n15n1, cr0n15n2, pr1n15n3, cr1n15n4, pr2n15n5, cr2n15n6, pr0n23n1, cr0n23n2, pr1n23n3, cr1n23n4, pr2n23n5, cr2n23n6, bn24n1, bn25n1, bn26n1)) (by kernel_rfl) ((.of rfl) : SubM _ _) .rfl .rfl ((.of [0, 1, 2, 3, 4, 5, 6, 7, 8, 9, 10, 11, 12, 13, 14, 15, 16] rfl) : SelR _ _ _)
    refine d_join (X := Option Addr × Nat × Option Addr × Nat × Option Addr × Nat × Option Addr × Nat × Option Addr × Nat × Option Addr × Nat × Option Addr × Nat × Option Addr × Nat × Option Addr × Nat × Nat × Nat) (k' := 4) (L' := #[true, true, true, true, true, true, true, true, true, true, true, true, true, true, true, true, true, true, true, true, true, true, true, true, true, true, false, false, false, false]) (fun (pr0n7n1, cr0n7n2, pr1n7n3, cr1n7n4, pr2n7n5, cr2n7n6, pr0n15n1, cr0n15n2, pr1n15n3, cr1n15n4, pr2n15n5, cr2n15n6, pr0n23n1, cr0n23n2, pr1n23n3, cr1n23n4, pr2n23n5, cr2n23n6, bn24n1, bn25n1) => ([(10, .pointer (some ⟨bn25n1, 0, none⟩)), (9, .pointer (some ⟨bn24n1, 0, none⟩)), (55, .agg #[.bool (decide ((qcx - 0) < 0)), .slice pr0n23n1 ((Big.digs ((qcx - 0).natAbs)).length) cr0n23n2, .bool (decide ((qcy - 0) < 0)), .slice pr1n23n3 ((Big.digs ((qcy - 0).natAbs)).length) cr1n23n4, .bool (decide ((qcz - 0) < 0)), .slice pr2n23n5 ((Big.digs ((qcz - 0).natAbs)).length) cr2n23n6]), (47, .agg #[.bool (decide ((qbx - 0) < 0)), .slice pr0n15n1 ((Big.digs ((qbx - 0).natAbs)).length) cr0n15n2, .bool (decide ((qby - 0) < 0)), .slice pr1n15n3 ((Big.digs ((qby - 0).natAbs)).length) cr1n15n4, .bool (decide ((qbz - 0) < 0)), .slice pr2n15n5 ((Big.digs ((qbz - 0).natAbs)).length) cr2n15n6]), (39, .agg #[.bool (decide ((qax - 0) < 0)), .slice pr0n7n1 ((Big.digs ((qax - 0).natAbs)).length) cr0n7n2, .bool (decide ((qay - 0) < 0)), .slice pr1n7n3 ((Big.digs ((qay - 0).natAbs)).length) cr1n7n4, .bool (decide ((qaz - 0) < 0)), .slice pr2n7n5 ((Big.digs ((qaz - 0).natAbs)).length) cr2n7n6]), (54, .agg #[.int .i64 qcx, .int .i64 qcy, .int .i64 qcz]), (53, .pointer (some ⟨b19, o20, none⟩)), (52, .int .i64 ((F.getD i (0, 0, 0)).2.2)), (51, .pointer (some ⟨b11, 2, none⟩)), (50, .slice pv nv cv), (49, .pointer (some ⟨b1, 0, none⟩)), (48, .agg #[.int .i64 0, .int .i64 0, .int .i64 0]), (46, .agg #[.int .i64 qbx, .int .i64 qby, .int .i64 qbz]), (45, .pointer (some ⟨b16, o17, none⟩)), (44, .int .i64 ((F.getD i (0, 0, 0)).2.1)), (43, .pointer (some ⟨b11, 1, none⟩)), (42, .slice pv nv cv), (41, .pointer (some ⟨b1, 0, none⟩)), (40, .agg #[.int .i64 0, .int .i64 0, .int .i64 0]), (38, .agg #[.int .i64 qax, .int .i64 qay, .int .i64 qaz]), (37, .pointer (some ⟨b13, o14, none⟩)), (36, .int .i64 ((F.getD i (0, 0, 0)).1)), (35, .pointer (some ⟨b11, 0, none⟩)), (34, .slice pv nv cv), (33, .pointer (some ⟨b1, 0, none⟩)), (32, .agg #[.int .i64 0, .int .i64 0, .int .i64 0]), (8, .pointer (some ⟨b12, 0, none⟩)), (31, .agg #[.int .i64 0, .int .i64 0, .int .i64 0]), (7, .pointer (some ⟨b11, 0, none⟩)), (30, .agg #[.int .i64 ((F.getD i (0, 0, 0)).1), .int .i64 ((F.getD i (0, 0, 0)).2.1), .int .i64 ((F.getD i (0, 0, 0)).2.2)]), (29, .pointer (some ⟨b8, o9, none⟩)), (28, .bool (decide (((i : Nat) : Int) < ((nf : Nat) : Int)))), (27, .int .i64 ((i : Nat) : Int)), (26, .int .i64 ((nf : Nat) : Int)), (25, .slice pf nf cf), (5, .pointer (some ⟨b6, 0, none⟩)), (3, .int .i64 0), (2, .pointer (some ⟨b2, 0, none⟩)), (1, .pointer (some ⟨b1, 0, none⟩))], [boxA bn25n1 89 [.bool false, .slice none 0 0, .bool false, .slice none 0 0, .bool false, .slice none 0 0], boxA bn24n1 89 [.bool false, .slice none 0 0, .bool false, .slice none 0 0, .bool false, .slice none 0 0]], [boxA b12 42 [.int .i64 0, .int .i64 0, .int .i64 0], boxA b11 44 [.int .i64 ((F.getD i (0, 0, 0)).1), .int .i64 ((F.getD i (0, 0, 0)).2.1), .int .i64 ((F.getD i (0, 0, 0)).2.2)], boxA b6 34 [.bool (decide (s < 0)), .slice p ((Big.digs ((s).natAbs)).length) c], mapA b23 (fun z : Int => .int .i64 z) (fun z : Int => .int .i64 z) (InK .i64) bm1, boxA b2 34 [.bool false, .slice none 0 0], boxA b1 25 [.slice pv nv cv, .slice pf nf cf]], [slF (rI .u32) pr0n23n1 cr0n23n2 (Big.digs ((qcx - 0).natAbs)), slF (rI .u32) pr1n23n3 cr1n23n4 (Big.digs ((qcy - 0).natAbs)), slF (rI .u32) pr2n23n5 cr2n23n6 (Big.digs ((qcz - 0).natAbs)), slF (rI .u32) pr0n15n1 cr0n15n2 (Big.digs ((qbx - 0).natAbs)), slF (rI .u32) pr1n15n3 cr1n15n4 (Big.digs ((qby - 0).natAbs)), slF (rI .u32) pr2n15n5 cr2n15n6 (Big.digs ((qbz - 0).natAbs)), slF (rI .u32) pr0n7n1 cr0n7n2 (Big.digs ((qax - 0).natAbs)), slF (rI .u32) pr1n7n3 cr1n7n4 (Big.digs ((qay - 0).natAbs)), slF (rI .u32) pr2n7n5 cr2n7n6 (Big.digs ((qaz - 0).natAbs)), atF b19 o20 [.int .i64 qcx, .int .i64 qcy, .int .i64 qcz], atF b16 o17 [.int .i64 qbx, .int .i64 qby, .int .i64 qbz], atF b13 o14 [.int .i64 qax, .int .i64 qay, .int .i64 qaz], atF b8 o9 [.int .i64 ((F.getD i (0, 0, 0)).1), .int .i64 ((F.getD i (0, 0, 0)).2.1), .int .i64 ((F.getD i (0, 0, 0)).2.2)], slF (rI .u32) p c (Big.digs ((s).natAbs)), slF (rI .u32) p24 c25 (Big.digs ((0 : Int).natAbs)), slF (rI3 .i64) pv cv V, slF (rI3 .i64) pf cf F])) ?_ (fun hD4 => ?_)
    ·
     rintro ⟨pr0n7n1, cr0n7n2, pr1n7n3, cr1n7n4, pr2n7n5, cr2n7n6, pr0n15n1, cr0n15n2, pr1n15n3, cr1n15n4, pr2n15n5, cr2n15n6, pr0n23n1, cr0n23n2, pr1n23n3, cr1n23n4, pr2n23n5, cr2n23n6, bn24n1, bn25n1⟩
     dsimp only
     refine d_one 26 (by kernel_rfl) ?_
     ·
      refine o_ef0W rfl rfl rfl rfl (ef_alloc zr89 rfl) (fun bn26n1 _ => ?_)
      exact d_weakT (hD3 (pr0n7n1, cr0n7n2, pr1n7n3, cr1n7n4, pr2n7n5, cr2n7n6, pr0n15n1, cr0n15n2, pr1n15n3, cr1n15n4, pr2n15n5, cr2n15n6, pr0n23n1, cr0n23n2, pr1n23n3, cr1n23n4, pr2n23n5, cr2n23n6, bn24n1, bn25n1, bn26n1)) (by kernel_rfl) ((.of rfl) : SubM _ _) .rfl .rfl ((.of [0, 1, 2, 3, 4, 5, 6, 7, 8, 9, 10, 11, 12, 13, 14, 15, 16] rfl) : SelR _ _ _)
    refine d_join (X := Option Addr × Nat × Option Addr × Nat × Option Addr × Nat × Option Addr × Nat × Option Addr × Nat × Option Addr × Nat × Option Addr × Nat × Option Addr × Nat × Option Addr × Nat × Nat × Nat) (k' := 4) (L' := #[true, true, true, true, true, true, true, true, true, true, true, true, true, true, true, true, true, true, true, true, true, true, true, true, true, false, true, false, false, false]) (fun (pr0n7n1, cr0n7n2, pr1n7n3, cr1n7n4, pr2n7n5, cr2n7n6, pr0n15n1, cr0n15n2, pr1n15n3, cr1n15n4, pr2n15n5, cr2n15n6, pr0n23n1, cr0n23n2, pr1n23n3, cr1n23n4, pr2n23n5, cr2n23n6, bn24n1, bn26n1) => ([(11, .pointer (some ⟨bn26n1, 0, none⟩)), (9, .pointer (some ⟨bn24n1, 0, none⟩)), (55, .agg #[.bool (decide ((qcx - 0) < 0)), .slice pr0n23n1 ((Big.digs ((qcx - 0).natAbs)).length) cr0n23n2, .bool (decide ((qcy - 0) < 0)), .slice pr1n23n3 ((Big.digs ((qcy - 0).natAbs)).length) cr1n23n4, .bool (decide ((qcz - 0) < 0)), .slice pr2n23n5 ((Big.digs ((qcz - 0).natAbs)).length) cr2n23n6]), (47, .agg #[.bool (decide ((qbx - 0) < 0)), .slice pr0n15n1 ((Big.digs ((qbx - 0).natAbs)).length) cr0n15n2, .bool (decide ((qby - 0) < 0)), .slice pr1n15n3 ((Big.digs ((qby - 0).natAbs)).length) cr1n15n4, .bool (decide ((qbz - 0) < 0)), .slice pr2n15n5 ((Big.digs ((qbz - 0).natAbs)).length) cr2n15n6]), (39, .agg #[.bool (decide ((qax - 0) < 0)), .slice pr0n7n1 ((Big.digs ((qax - 0).natAbs)).length) cr0n7n2, .bool (decide ((qay - 0) < 0)), .slice pr1n7n3 ((Big.digs ((qay - 0).natAbs)).length) cr1n7n4, .bool (decide ((qaz - 0) < 0)), .slice pr2n7n5 ((Big.digs ((qaz - 0).natAbs)).length) cr2n7n6]), (54, .agg #[.int .i64 qcx, .int .i64 qcy, .int .i64 qcz]), (53, .pointer (some ⟨b19, o20, none⟩)), (52, .int .i64 ((F.getD i (0, 0, 0)).2.2)), (51, .pointer (some ⟨b11, 2, none⟩)), (50, .slice pv nv cv), (49, .pointer (some ⟨b1, 0, none⟩)), (48, .agg #[.int .i64 0, .int .i64 0, .int .i64 0]), (46, .agg #[.int .i64 qbx, .int .i64 qby, .int .i64 qbz]), (45, .pointer (some ⟨b16, o17, none⟩)), (44, .int .i64 ((F.getD i (0, 0, 0)).2.1)), (43, .pointer (some ⟨b11, 1, none⟩)), (42, .slice pv nv cv), (41, .pointer (some ⟨b1, 0, none⟩)), (40, .agg #[.int .i64 0, .int .i64 0, .int .i64 0]), (38, .agg #[.int .i64 qax, .int .i64 qay, .int .i64 qaz]), (37, .pointer (some ⟨b13, o14, none⟩)), (36, .int .i64 ((F.getD i (0, 0, 0)).1)), (35, .pointer (some ⟨b11, 0, none⟩)), (34, .slice pv nv cv), (33, .pointer (some ⟨b1, 0, none⟩)), (32, .agg #[.int .i64 0, .int .i64 0, .int .i64 0]), (8, .pointer (some ⟨b12, 0, none⟩)), (31, .agg #[.int .i64 0, .int .i64 0, .int .i64 0]), (7, .pointer (some ⟨b11, 0, none⟩)), (30, .agg #[.int .i64 ((F.getD i (0, 0, 0)).1), .int .i64 ((F.getD i (0, 0, 0)).2.1), .int .i64 ((F.getD i (0, 0, 0)).2.2)]), (29, .pointer (some ⟨b8, o9, none⟩)), (28, .bool (decide (((i : Nat) : Int) < ((nf : Nat) : Int)))), (27, .int .i64 ((i : Nat) : Int)), (26, .int .i64 ((nf : Nat) : Int)), (25, .slice pf nf cf), (5, .pointer (some ⟨b6, 0, none⟩)), (3, .int .i64 0), (2, .pointer (some ⟨b2, 0, none⟩)), (1, .pointer (some ⟨b1, 0, none⟩))], [boxA bn26n1 89 [.bool false, .slice none 0 0, .bool false, .slice none 0 0, .bool false, .slice none 0 0], boxA bn24n1 89 [.bool false, .slice none 0 0, .bool false, .slice none 0 0, .bool false, .slice none 0 0]], [boxA b12 42 [.int .i64 0, .int .i64 0, .int .i64 0], boxA b11 44 [.int .i64 ((F.getD i (0, 0, 0)).1), .int .i64 ((F.getD i (0, 0, 0)).2.1), .int .i64 ((F.getD i (0, 0, 0)).2.2)], boxA b6 34 [.bool (decide (s < 0)), .slice p ((Big.digs ((s).natAbs)).length) c], mapA b23 (fun z : Int => .int .i64 z) (fun z : Int => .int .i64 z) (InK .i64) bm1, boxA b2 34 [.bool false, .slice none 0 0], boxA b1 25 [.slice pv nv cv, .slice pf nf cf]], [slF (rI .u32) pr0n23n1 cr0n23n2 (Big.digs ((qcx - 0).natAbs)), slF (rI .u32) pr1n23n3 cr1n23n4 (Big.digs ((qcy - 0).natAbs)), slF (rI .u32) pr2n23n5 cr2n23n6 (Big.digs ((qcz - 0).natAbs)), slF (rI .u32) pr0n15n1 cr0n15n2 (Big.digs ((qbx - 0).natAbs)), slF (rI .u32) pr1n15n3 cr1n15n4 (Big.digs ((qby - 0).natAbs)), slF (rI .u32) pr2n15n5 cr2n15n6 (Big.digs ((qbz - 0).natAbs)), slF (rI .u32) pr0n7n1 cr0n7n2 (Big.digs ((qax - 0).natAbs)), slF (rI .u32) pr1n7n3 cr1n7n4 (Big.digs ((qay - 0).natAbs)), slF (rI .u32) pr2n7n5 cr2n7n6 (Big.digs ((qaz - 0).natAbs)), atF b19 o20 [.int .i64 qcx, .int .i64 qcy, .int .i64 qcz], atF b16 o17 [.int .i64 qbx, .int .i64 qby, .int .i64 qbz], atF b13 o14 [.int .i64 qax, .int .i64 qay, .int .i64 qaz], atF b8 o9 [.int .i64 ((F.getD i (0, 0, 0)).1), .int .i64 ((F.getD i (0, 0, 0)).2.1), .int .i64 ((F.getD i (0, 0, 0)).2.2)], slF (rI .u32) p c (Big.digs ((s).natAbs)), slF (rI .u32) p24 c25 (Big.digs ((0 : Int).natAbs)), slF (rI3 .i64) pv cv V, slF (rI3 .i64) pf cf F])) ?_ (fun hD5 => ?_)
    ·
     rintro ⟨pr0n7n1, cr0n7n2, pr1n7n3, cr1n7n4, pr2n7n5, cr2n7n6, pr0n15n1, cr0n15n2, pr1n15n3, cr1n15n4, pr2n15n5, cr2n15n6, pr0n23n1, cr0n23n2, pr1n23n3, cr1n23n4, pr2n23n5, cr2n23n6, bn24n1, bn26n1⟩
     dsimp only
     refine d_one 25 (by kernel_rfl) ?_
     ·
      refine o_ef0W rfl rfl rfl rfl (ef_alloc zr89 rfl) (fun bn25n1 _ => ?_)
      exact d_weakT (hD3 (pr0n7n1, cr0n7n2, pr1n7n3, cr1n7n4, pr2n7n5, cr2n7n6, pr0n15n1, cr0n15n2, pr1n15n3, cr1n15n4, pr2n15n5, cr2n15n6, pr0n23n1, cr0n23n2, pr1n23n3, cr1n23n4, pr2n23n5, cr2n23n6, bn24n1, bn25n1, bn26n1)) (by kernel_rfl) ((.of rfl) : SubM _ _) (perm_c 1 rfl (perm_c 0 rfl (perm_c 0 rfl .nil))) .rfl ((.of [0, 1, 2, 3, 4, 5, 6, 7, 8, 9, 10, 11, 12, 13, 14, 15, 16] rfl) : SelR _ _ _)
    refine d_join (X := Option Addr × Nat × Option Addr × Nat × Option Addr × Nat × Option Addr × Nat × Option Addr × Nat × Option Addr × Nat × Option Addr × Nat × Option Addr × Nat × Option Addr × Nat × Nat × Nat) (k' := 4) (L' := #[true, true, true, true, true, true, true, true, true, true, true, true, true, true, true, true, true, true, true, true, true, true, true, true, false, true, true, false, false, false]) (fun (pr0n7n1, cr0n7n2, pr1n7n3, cr1n7n4, pr2n7n5, cr2n7n6, pr0n15n1, cr0n15n2, pr1n15n3, cr1n15n4, pr2n15n5, cr2n15n6, pr0n23n1, cr0n23n2, pr1n23n3, cr1n23n4, pr2n23n5, cr2n23n6, bn25n1, bn26n1) => ([(11, .pointer (some ⟨bn26n1, 0, none⟩)), (10, .pointer (some ⟨bn25n1, 0, none⟩)), (55, .agg #[.bool (decide ((qcx - 0) < 0)), .slice pr0n23n1 ((Big.digs ((qcx - 0).natAbs)).length) cr0n23n2, .bool (decide ((qcy - 0) < 0)), .slice pr1n23n3 ((Big.digs ((qcy - 0).natAbs)).length) cr1n23n4, .bool (decide ((qcz - 0) < 0)), .slice pr2n23n5 ((Big.digs ((qcz - 0).natAbs)).length) cr2n23n6]), (47, .agg #[.bool (decide ((qbx - 0) < 0)), .slice pr0n15n1 ((Big.digs ((qbx - 0).natAbs)).length) cr0n15n2, .bool (decide ((qby - 0) < 0)), .slice pr1n15n3 ((Big.digs ((qby - 0).natAbs)).length) cr1n15n4, .bool (decide ((qbz - 0) < 0)), .slice pr2n15n5 ((Big.digs ((qbz - 0).natAbs)).length) cr2n15n6]), (39, .agg #[.bool (decide ((qax - 0) < 0)), .slice pr0n7n1 ((Big.digs ((qax - 0).natAbs)).length) cr0n7n2, .bool (decide ((qay - 0) < 0)), .slice pr1n7n3 ((Big.digs ((qay - 0).natAbs)).length) cr1n7n4, .bool (decide ((qaz - 0) < 0)), .slice pr2n7n5 ((Big.digs ((qaz - 0).natAbs)).length) cr2n7n6]), (54, .agg #[.int .i64 qcx, .int .i64 qcy, .int .i64 qcz]), (53, .pointer (some ⟨b19, o20, none⟩)), (52, .int .i64 ((F.getD i (0, 0, 0)).2.2)), (51, .pointer (some ⟨b11, 2, none⟩)), (50, .slice pv nv cv), (49, .pointer (some ⟨b1, 0, none⟩)), (48, .agg #[.int .i64 0, .int .i64 0, .int .i64 0]), (46, .agg #[.int .i64 qbx, .int .i64 qby, .int .i64 qbz]), (45, .pointer (some ⟨b16, o17, none⟩)), (44, .int .i64 ((F.getD i (0, 0, 0)).2.1)), (43, .pointer (some ⟨b11, 1, none⟩)), (42, .slice pv nv cv), (41, .pointer (some ⟨b1, 0, none⟩)), (40, .agg #[.int .i64 0, .int .i64 0, .int .i64 0]), (38, .agg #[.int .i64 qax, .int .i64 qay, .int .i64 qaz]), (37, .pointer (some ⟨b13, o14, none⟩)), (36, .int .i64 ((F.getD i (0, 0, 0)).1)), (35, .pointer (some ⟨b11, 0, none⟩)), (34, .slice pv nv cv), (33, .pointer (some ⟨b1, 0, none⟩)), (32, .agg #[.int .i64 0, .int .i64 0, .int .i64 0]), (8, .pointer (some ⟨b12, 0, none⟩)), (31, .agg #[.int .i64 0, .int .i64 0, .int .i64 0]), (7, .pointer (some ⟨b11, 0, none⟩)), (30, .agg #[.int .i64 ((F.getD i (0, 0, 0)).1), .int .i64 ((F.getD i (0, 0, 0)).2.1), .int .i64 ((F.getD i (0, 0, 0)).2.2)]), (29, .pointer (some ⟨b8, o9, none⟩)), (28, .bool (decide (((i : Nat) : Int) < ((nf : Nat) : Int)))), (27, .int .i64 ((i : Nat) : Int)), (26, .int .i64 ((nf : Nat) : Int)), (25, .slice pf nf cf), (5, .pointer (some ⟨b6, 0, none⟩)), (3, .int .i64 0), (2, .pointer (some ⟨b2, 0, none⟩)), (1, .pointer (some ⟨b1, 0, none⟩))], [boxA bn26n1 89 [.bool false, .slice none 0 0, .bool false, .slice none 0 0, .bool false, .slice none 0 0], boxA bn25n1 89 [.bool false, .slice none 0 0, .bool false, .slice none 0 0, .bool false, .slice none 0 0]], [boxA b12 42 [.int .i64 0, .int .i64 0, .int .i64 0], boxA b11 44 [.int .i64 ((F.getD i (0, 0, 0)).1), .int .i64 ((F.getD i (0, 0, 0)).2.1), .int .i64 ((F.getD i (0, 0, 0)).2.2)], boxA b6 34 [.bool (decide (s < 0)), .slice p ((Big.digs ((s).natAbs)).length) c], mapA b23 (fun z : Int => .int .i64 z) (fun z : Int => .int .i64 z) (InK .i64) bm1, boxA b2 34 [.bool false, .slice none 0 0], boxA b1 25 [.slice pv nv cv, .slice pf nf cf]], [slF (rI .u32) pr0n23n1 cr0n23n2 (Big.digs ((qcx - 0).natAbs)), slF (rI .u32) pr1n23n3 cr1n23n4 (Big.digs ((qcy - 0).natAbs)), slF (rI .u32) pr2n23n5 cr2n23n6 (Big.digs ((qcz - 0).natAbs)), slF (rI .u32) pr0n15n1 cr0n15n2 (Big.digs ((qbx - 0).natAbs)), slF (rI .u32) pr1n15n3 cr1n15n4 (Big.digs ((qby - 0).natAbs)), slF (rI .u32) pr2n15n5 cr2n15n6 (Big.digs ((qbz - 0).natAbs)), slF (rI .u32) pr0n7n1 cr0n7n2 (Big.digs ((qax - 0).natAbs)), slF (rI .u32) pr1n7n3 cr1n7n4 (Big.digs ((qay - 0).natAbs)), slF (rI .u32) pr2n7n5 cr2n7n6 (Big.digs ((qaz - 0).natAbs)), atF b19 o20 [.int .i64 qcx, .int .i64 qcy, .int .i64 qcz], atF b16 o17 [.int .i64 qbx, .int .i64 qby, .int .i64 qbz], atF b13 o14 [.int .i64 qax, .int .i64 qay, .int .i64 qaz], atF b8 o9 [.int .i64 ((F.getD i (0, 0, 0)).1), .int .i64 ((F.getD i (0, 0, 0)).2.1), .int .i64 ((F.getD i (0, 0, 0)).2.2)], slF (rI .u32) p c (Big.digs ((s).natAbs)), slF (rI .u32) p24 c25 (Big.digs ((0 : Int).natAbs)), slF (rI3 .i64) pv cv V, slF (rI3 .i64) pf cf F])) ?_ (fun hD6 => ?_)
    ·
     rintro ⟨pr0n7n1, cr0n7n2, pr1n7n3, cr1n7n4, pr2n7n5, cr2n7n6, pr0n15n1, cr0n15n2, pr1n15n3, cr1n15n4, pr2n15n5, cr2n15n6, pr0n23n1, cr0n23n2, pr1n23n3, cr1n23n4, pr2n23n5, cr2n23n6, bn25n1, bn26n1⟩
     dsimp only
     refine d_one 24 (by kernel_rfl) ?_
     ·
      refine o_ef0W rfl rfl rfl rfl (ef_alloc zr89 rfl) (fun bn24n1 _ => ?_)
      exact d_weakT (hD3 (pr0n7n1, cr0n7n2, pr1n7n3, cr1n7n4, pr2n7n5, cr2n7n6, pr0n15n1, cr0n15n2, pr1n15n3, cr1n15n4, pr2n15n5, cr2n15n6, pr0n23n1, cr0n23n2, pr1n23n3, cr1n23n4, pr2n23n5, cr2n23n6, bn24n1, bn25n1, bn26n1)) (by kernel_rfl) ((.of rfl) : SubM _ _) (perm_c 1 rfl (perm_c 1 rfl (perm_c 0 rfl .nil))) .rfl ((.of [0, 1, 2, 3, 4, 5, 6, 7, 8, 9, 10, 11, 12, 13, 14, 15, 16] rfl) : SelR _ _ _)
    refine d_join (X := Option Addr × Nat × Option Addr × Nat × Option Addr × Nat × Option Addr × Nat × Option Addr × Nat × Option Addr × Nat × Nat × Nat × Nat) (k' := 4) (L' := #[true, true, true, true, true, true, true, true, true, true, true, true, true, true, true, true, true, true, true, true, true, true, true, false, true, true, true, false, false, false]) (fun (pr0n7n1, cr0n7n2, pr1n7n3, cr1n7n4, pr2n7n5, cr2n7n6, pr0n15n1, cr0n15n2, pr1n15n3, cr1n15n4, pr2n15n5, cr2n15n6, bn24n1, bn25n1, bn26n1) => ([(11, .pointer (some ⟨bn26n1, 0, none⟩)), (10, .pointer (some ⟨bn25n1, 0, none⟩)), (9, .pointer (some ⟨bn24n1, 0, none⟩)), (47, .agg #[.bool (decide ((qbx - 0) < 0)), .slice pr0n15n1 ((Big.digs ((qbx - 0).natAbs)).length) cr0n15n2, .bool (decide ((qby - 0) < 0)), .slice pr1n15n3 ((Big.digs ((qby - 0).natAbs)).length) cr1n15n4, .bool (decide ((qbz - 0) < 0)), .slice pr2n15n5 ((Big.digs ((qbz - 0).natAbs)).length) cr2n15n6]), (39, .agg #[.bool (decide ((qax - 0) < 0)), .slice pr0n7n1 ((Big.digs ((qax - 0).natAbs)).length) cr0n7n2, .bool (decide ((qay - 0) < 0)), .slice pr1n7n3 ((Big.digs ((qay - 0).natAbs)).length) cr1n7n4, .bool (decide ((qaz - 0) < 0)), .slice pr2n7n5 ((Big.digs ((qaz - 0).natAbs)).length) cr2n7n6]), (54, .agg #[.int .i64 qcx, .int .i64 qcy, .int .i64 qcz]), (53, .pointer (some ⟨b19, o20, none⟩)), (52, .int .i64 ((F.getD i (0, 0, 0)).2.2)), (51, .pointer (some ⟨b11, 2, none⟩)), (50, .slice pv nv cv), (49, .pointer (some ⟨b1, 0, none⟩)), (48, .agg #[.int .i64 0, .int .i64 0, .int .i64 0]), (46, .agg #[.int .i64 qbx, .int .i64 qby, .int .i64 qbz]), (45, .pointer (some ⟨b16, o17, none⟩)), (44, .int .i64 ((F.getD i (0, 0, 0)).2.1)), (43, .pointer (some ⟨b11, 1, none⟩)), (42, .slice pv nv cv), (41, .pointer (some ⟨b1, 0, none⟩)), (40, .agg #[.int .i64 0, .int .i64 0, .int .i64 0]), (38, .agg #[.int .i64 qax, .int .i64 qay, .int .i64 qaz]), (37, .pointer (some ⟨b13, o14, none⟩)), (36, .int .i64 ((F.getD i (0, 0, 0)).1)), (35, .pointer (some ⟨b11, 0, none⟩)), (34, .slice pv nv cv), (33, .pointer (some ⟨b1, 0, none⟩)), (32, .agg #[.int .i64 0, .int .i64 0, .int .i64 0]), (8, .pointer (some ⟨b12, 0, none⟩)), (31, .agg #[.int .i64 0, .int .i64 0, .int .i64 0]), (7, .pointer (some ⟨b11, 0, none⟩)), (30, .agg #[.int .i64 ((F.getD i (0, 0, 0)).1), .int .i64 ((F.getD i (0, 0, 0)).2.1), .int .i64 ((F.getD i (0, 0, 0)).2.2)]), (29, .pointer (some ⟨b8, o9, none⟩)), (28, .bool (decide (((i : Nat) : Int) < ((nf : Nat) : Int)))), (27, .int .i64 ((i : Nat) : Int)), (26, .int .i64 ((nf : Nat) : Int)), (25, .slice pf nf cf), (5, .pointer (some ⟨b6, 0, none⟩)), (3, .int .i64 0), (2, .pointer (some ⟨b2, 0, none⟩)), (1, .pointer (some ⟨b1, 0, none⟩))], [boxA bn26n1 89 [.bool false, .slice none 0 0, .bool false, .slice none 0 0, .bool false, .slice none 0 0], boxA bn25n1 89 [.bool false, .slice none 0 0, .bool false, .slice none 0 0, .bool false, .slice none 0 0], boxA bn24n1 89 [.bool false, .slice none 0 0, .bool false, .slice none 0 0, .bool false, .slice none 0 0]], [boxA b12 42 [.int .i64 0, .int .i64 0, .int .i64 0], boxA b11 44 [.int .i64 ((F.getD i (0, 0, 0)).1), .int .i64 ((F.getD i (0, 0, 0)).2.1), .int .i64 ((F.getD i (0, 0, 0)).2.2)], boxA b6 34 [.bool (decide (s < 0)), .slice p ((Big.digs ((s).natAbs)).length) c], mapA b23 (fun z : Int => .int .i64 z) (fun z : Int => .int .i64 z) (InK .i64) bm1, boxA b2 34 [.bool false, .slice none 0 0], boxA b1 25 [.slice pv nv cv, .slice pf nf cf]], [slF (rI .u32) pr0n15n1 cr0n15n2 (Big.digs ((qbx - 0).natAbs)), slF (rI .u32) pr1n15n3 cr1n15n4 (Big.digs ((qby - 0).natAbs)), slF (rI .u32) pr2n15n5 cr2n15n6 (Big.digs ((qbz - 0).natAbs)), slF (rI .u32) pr0n7n1 cr0n7n2 (Big.digs ((qax - 0).natAbs)), slF (rI .u32) pr1n7n3 cr1n7n4 (Big.digs ((qay - 0).natAbs)), slF (rI .u32) pr2n7n5 cr2n7n6 (Big.digs ((qaz - 0).natAbs)), atF b19 o20 [.int .i64 qcx, .int .i64 qcy, .int .i64 qcz], atF b16 o17 [.int .i64 qbx, .int .i64 qby, .int .i64 qbz], atF b13 o14 [.int .i64 qax, .int .i64 qay, .int .i64 qaz], atF b8 o9 [.int .i64 ((F.getD i (0, 0, 0)).1), .int .i64 ((F.getD i (0, 0, 0)).2.1), .int .i64 ((F.getD i (0, 0, 0)).2.2)], slF (rI .u32) p c (Big.digs ((s).natAbs)), slF (rI .u32) p24 c25 (Big.digs ((0 : Int).natAbs)), slF (rI3 .i64) pv cv V, slF (rI3 .i64) pf cf F])) ?_ (fun hD7 => ?_)
    ·
     rintro ⟨pr0n7n1, cr0n7n2, pr1n7n3, cr1n7n4, pr2n7n5, cr2n7n6, pr0n15n1, cr0n15n2, pr1n15n3, cr1n15n4, pr2n15n5, cr2n15n6, bn24n1, bn25n1, bn26n1⟩
     dsimp only
     refine d_one 23 (by kernel_rfl) ?_
     ·
      refine o_callf rfl rfl rfl rfl (.c rfl (.c rfl .n)) ce58 (con_from (ex := 0) (ey := 0) (ez := 0) (fx := qcx) (fy := qcy) (fz := qcz) (hbex := by omega) (hbey := by omega) (hbez := by omega) (hbfx := by omega) (hbfy := by omega) (hbfz := by omega)) (.n) ?_
      rintro ⟨pr0n23n1, cr0n23n2, pr1n23n3, cr1n23n4, pr2n23n5, cr2n23n6⟩ -
      dsimp only [List.append_eq, List.nil_append, List.cons_append]
      exact d_weakT (hD3 (pr0n7n1, cr0n7n2, pr1n7n3, cr1n7n4, pr2n7n5, cr2n7n6, pr0n15n1, cr0n15n2, pr1n15n3, cr1n15n4, pr2n15n5, cr2n15n6, pr0n23n1, cr0n23n2, pr1n23n3, cr1n23n4, pr2n23n5, cr2n23n6, bn24n1, bn25n1, bn26n1)) (by kernel_rfl) ((.of rfl) : SubM _ _) .rfl .rfl ((.of [0, 1, 2, 3, 4, 5, 6, 7, 8, 9, 10, 11, 12, 13, 14, 15, 16] rfl) : SelR _ _ _)
    refine d_join (X := Option Addr × Nat × Option Addr × Nat × Option Addr × Nat × Option Addr × Nat × Option Addr × Nat × Option Addr × Nat × Option Addr × Nat × Option Addr × Nat × Option Addr × Nat × Nat) (k' := 5) (L' := #[true, true, true, true, true, true, true, true, true, true, true, true, true, true, true, true, true, true, true, true, true, true, true, true, true, false, false, false, false, false]) (fun (pr0n7n1, cr0n7n2, pr1n7n3, cr1n7n4, pr2n7n5, cr2n7n6, pr0n15n1, cr0n15n2, pr1n15n3, cr1n15n4, pr2n15n5, cr2n15n6, pr0n23n1, cr0n23n2, pr1n23n3, cr1n23n4, pr2n23n5, cr2n23n6, bn24n1) => ([(9, .pointer (some ⟨bn24n1, 0, none⟩)), (55, .agg #[.bool (decide ((qcx - 0) < 0)), .slice pr0n23n1 ((Big.digs ((qcx - 0).natAbs)).length) cr0n23n2, .bool (decide ((qcy - 0) < 0)), .slice pr1n23n3 ((Big.digs ((qcy - 0).natAbs)).length) cr1n23n4, .bool (decide ((qcz - 0) < 0)), .slice pr2n23n5 ((Big.digs ((qcz - 0).natAbs)).length) cr2n23n6]), (47, .agg #[.bool (decide ((qbx - 0) < 0)), .slice pr0n15n1 ((Big.digs ((qbx - 0).natAbs)).length) cr0n15n2, .bool (decide ((qby - 0) < 0)), .slice pr1n15n3 ((Big.digs ((qby - 0).natAbs)).length) cr1n15n4, .bool (decide ((qbz - 0) < 0)), .slice pr2n15n5 ((Big.digs ((qbz - 0).natAbs)).length) cr2n15n6]), (39, .agg #[.bool (decide ((qax - 0) < 0)), .slice pr0n7n1 ((Big.digs ((qax - 0).natAbs)).length) cr0n7n2, .bool (decide ((qay - 0) < 0)), .slice pr1n7n3 ((Big.digs ((qay - 0).natAbs)).length) cr1n7n4, .bool (decide ((qaz - 0) < 0)), .slice pr2n7n5 ((Big.digs ((qaz - 0).natAbs)).length) cr2n7n6]), (54, .agg #[.int .i64 qcx, .int .i64 qcy, .int .i64 qcz]), (53, .pointer (some ⟨b19, o20, none⟩)), (52, .int .i64 ((F.getD i (0, 0, 0)).2.2)), (51, .pointer (some ⟨b11, 2, none⟩)), (50, .slice pv nv cv), (49, .pointer (some ⟨b1, 0, none⟩)), (48, .agg #[.int .i64 0, .int .i64 0, .int .i64 0]), (46, .agg #[.int .i64 qbx, .int .i64 qby, .int .i64 qbz]), (45, .pointer (some ⟨b16, o17, none⟩)), (44, .int .i64 ((F.getD i (0, 0, 0)).2.1)), (43, .pointer (some ⟨b11, 1, none⟩)), (42, .slice pv nv cv), (41, .pointer (some ⟨b1, 0, none⟩)), (40, .agg #[.int .i64 0, .int .i64 0, .int .i64 0]), (38, .agg #[.int .i64 qax, .int .i64 qay, .int .i64 qaz]), (37, .pointer (some ⟨b13, o14, none⟩)), (36, .int .i64 ((F.getD i (0, 0, 0)).1)), (35, .pointer (some ⟨b11, 0, none⟩)), (34, .slice pv nv cv), (33, .pointer (some ⟨b1, 0, none⟩)), (32, .agg #[.int .i64 0, .int .i64 0, .int .i64 0]), (8, .pointer (some ⟨b12, 0, none⟩)), (31, .agg #[.int .i64 0, .int .i64 0, .int .i64 0]), (7, .pointer (some ⟨b11, 0, none⟩)), (30, .agg #[.int .i64 ((F.getD i (0, 0, 0)).1), .int .i64 ((F.getD i (0, 0, 0)).2.1), .int .i64 ((F.getD i (0, 0, 0)).2.2)]), (29, .pointer (some ⟨b8, o9, none⟩)), (28, .bool (decide (((i : Nat) : Int) < ((nf : Nat) : Int)))), (27, .int .i64 ((i : Nat) : Int)), (26, .int .i64 ((nf : Nat) : Int)), (25, .slice pf nf cf), (5, .pointer (some ⟨b6, 0, none⟩)), (3, .int .i64 0), (2, .pointer (some ⟨b2, 0, none⟩)), (1, .pointer (some ⟨b1, 0, none⟩))], [boxA bn24n1 89 [.bool false, .slice none 0 0, .bool false, .slice none 0 0, .bool false, .slice none 0 0]], [boxA b12 42 [.int .i64 0, .int .i64 0, .int .i64 0], boxA b11 44 [.int .i64 ((F.getD i (0, 0, 0)).1), .int .i64 ((F.getD i (0, 0, 0)).2.1), .int .i64 ((F.getD i (0, 0, 0)).2.2)], boxA b6 34 [.bool (decide (s < 0)), .slice p ((Big.digs ((s).natAbs)).length) c], mapA b23 (fun z : Int => .int .i64 z) (fun z : Int => .int .i64 z) (InK .i64) bm1, boxA b2 34 [.bool false, .slice none 0 0], boxA b1 25 [.slice pv nv cv, .slice pf nf cf]], [slF (rI .u32) pr0n23n1 cr0n23n2 (Big.digs ((qcx - 0).natAbs)), slF (rI .u32) pr1n23n3 cr1n23n4 (Big.digs ((qcy - 0).natAbs)), slF (rI .u32) pr2n23n5 cr2n23n6 (Big.digs ((qcz - 0).natAbs)), slF (rI .u32) pr0n15n1 cr0n15n2 (Big.digs ((qbx - 0).natAbs)), slF (rI .u32) pr1n15n3 cr1n15n4 (Big.digs ((qby - 0).natAbs)), slF (rI .u32) pr2n15n5 cr2n15n6 (Big.digs ((qbz - 0).natAbs)), slF (rI .u32) pr0n7n1 cr0n7n2 (Big.digs ((qax - 0).natAbs)), slF (rI .u32) pr1n7n3 cr1n7n4 (Big.digs ((qay - 0).natAbs)), slF (rI .u32) pr2n7n5 cr2n7n6 (Big.digs ((qaz - 0).natAbs)), atF b19 o20 [.int .i64 qcx, .int .i64 qcy, .int .i64 qcz], atF b16 o17 [.int .i64 qbx, .int .i64 qby, .int .i64 qbz], atF b13 o14 [.int .i64 qax, .int .i64 qay, .int .i64 qaz], atF b8 o9 [.int .i64 ((F.getD i (0, 0, 0)).1), .int .i64 ((F.getD i (0, 0, 0)).2.1), .int .i64 ((F.getD i (0, 0, 0)).2.2)], slF (rI .u32) p c (Big.digs ((s).natAbs)), slF (rI .u32) p24 c25 (Big.digs ((0 : Int).natAbs)), slF (rI3 .i64) pv cv V, slF (rI3 .i64) pf cf F])) ?_ (fun hD8 => ?_)
    ·
     rintro ⟨pr0n7n1, cr0n7n2, pr1n7n3, cr1n7n4, pr2n7n5, cr2n7n6, pr0n15n1, cr0n15n2, pr1n15n3, cr1n15n4, pr2n15n5, cr2n15n6, pr0n23n1, cr0n23n2, pr1n23n3, cr1n23n4, pr2n23n5, cr2n23n6, bn24n1⟩
     dsimp only
     refine d_two 25 26 (by kernel_rfl) ?_ ?_
     ·
      refine o_ef0W rfl rfl rfl rfl (ef_alloc zr89 rfl) (fun bn25n1 _ => ?_)
      exact d_weakT (hD4 (pr0n7n1, cr0n7n2, pr1n7n3, cr1n7n4, pr2n7n5, cr2n7n6, pr0n15n1, cr0n15n2, pr1n15n3, cr1n15n4, pr2n15n5, cr2n15n6, pr0n23n1, cr0n23n2, pr1n23n3, cr1n23n4, pr2n23n5, cr2n23n6, bn24n1, bn25n1)) (by kernel_rfl) ((.of rfl) : SubM _ _) .rfl .rfl ((.of [0, 1, 2, 3, 4, 5, 6, 7, 8, 9, 10, 11, 12, 13, 14, 15, 16] rfl) : SelR _ _ _)
     ·
      refine o_ef0W rfl rfl rfl rfl (ef_alloc zr89 rfl) (fun bn26n1 _ => ?_)
      exact d_weakT (hD5 (pr0n7n1, cr0n7n2, pr1n7n3, cr1n7n4, pr2n7n5, cr2n7n6, pr0n15n1, cr0n15n2, pr1n15n3, cr1n15n4, pr2n15n5, cr2n15n6, pr0n23n1, cr0n23n2, pr1n23n3, cr1n23n4, pr2n23n5, cr2n23n6, bn24n1, bn26n1)) (by kernel_rfl) ((.of rfl) : SubM _ _) .rfl .rfl ((.of [0, 1, 2, 3, 4, 5, 6, 7, 8, 9, 10, 11, 12, 13, 14, 15, 16] rfl) : SelR _ _ _)
    refine d_join (X := Option Addr × Nat × Option Addr × Nat × Option Addr × Nat × Option Addr × Nat × Option Addr × Nat × Option Addr × Nat × Option Addr × Nat × Option Addr × Nat × Option Addr × Nat × Nat) (k' := 5) (L' := #[true, true, true, true, true, true, true, true, true, true, true, true, true, true, true, true, true, true, true, true, true, true, true, true, false, true, false, false, false, false]) (fun (pr0n7n1, cr0n7n2, pr1n7n3, cr1n7n4, pr2n7n5, cr2n7n6, pr0n15n1, cr0n15n2, pr1n15n3, cr1n15n4, pr2n15n5, cr2n15n6, pr0n23n1, cr0n23n2, pr1n23n3, cr1n23n4, pr2n23n5, cr2n23n6, bn25n1) => ([(10, .pointer (some ⟨bn25n1, 0, none⟩)), (55, .agg #[.bool (decide ((qcx - 0) < 0)), .slice pr0n23n1 ((Big.digs ((qcx - 0).natAbs)).length) cr0n23n2, .bool (decide ((qcy - 0) < 0)), .slice pr1n23n3 ((Big.digs ((qcy - 0).natAbs)).length) cr1n23n4, .bool (decide ((qcz - 0) < 0)), .slice pr2n23n5 ((Big.digs ((qcz - 0).natAbs)).length) cr2n23n6]), (47, .agg #[.bool (decide ((qbx - 0) < 0)), .slice pr0n15n1 ((Big.digs ((qbx - 0).natAbs)).length) cr0n15n2, .bool (decide ((qby - 0) < 0)), .slice pr1n15n3 ((Big.digs ((qby - 0).natAbs)).length) cr1n15n4, .bool (decide ((qbz - 0) < 0)), .slice pr2n15n5 ((Big.digs ((qbz - 0).natAbs)).length) cr2n15n6]), (39, .agg #[.bool (decide ((qax - 0) < 0)), .slice pr0n7n1 ((Big.digs ((qax - 0).natAbs)).length) cr0n7n2, .bool (decide ((qay - 0) < 0)), .slice pr1n7n3 ((Big.digs ((qay - 0).natAbs)).length) cr1n7n4, .bool (decide ((qaz - 0) < 0)), .slice pr2n7n5 ((Big.digs ((qaz - 0).natAbs)).length) cr2n7n6]), (54, .agg #[.int .i64 qcx, .int .i64 qcy, .int .i64 qcz]), (53, .pointer (some ⟨b19, o20, none⟩)), (52, .int .i64 ((F.getD i (0, 0, 0)).2.2)), (51, .pointer (some ⟨b11, 2, none⟩)), (50, .slice pv nv cv), (49, .pointer (some ⟨b1, 0, none⟩)), (48, .agg #[.int .i64 0, .int .i64 0, .int .i64 0]), (46, .agg #[.int .i64 qbx, .int .i64 qby, .int .i64 qbz]), (45, .pointer (some ⟨b16, o17, none⟩)), (44, .int .i64 ((F.getD i (0, 0, 0)).2.1)), (43, .pointer (some ⟨b11, 1, none⟩)), (42, .slice pv nv cv), (41, .pointer (some ⟨b1, 0, none⟩)), (40, .agg #[.int .i64 0, .int .i64 0, .int .i64 0]), (38, .agg #[.int .i64 qax, .int .i64 qay, .int .i64 qaz]), (37, .pointer (some ⟨b13, o14, none⟩)), (36, .int .i64 ((F.getD i (0, 0, 0)).1)), (35, .pointer (some ⟨b11, 0, none⟩)), (34, .slice pv nv cv), (33, .pointer (some ⟨b1, 0, none⟩)), (32, .agg #[.int .i64 0, .int .i64 0, .int .i64 0]), (8, .pointer (some ⟨b12, 0, none⟩)), (31, .agg #[.int .i64 0, .int .i64 0, .int .i64 0]), (7, .pointer (some ⟨b11, 0, none⟩)), (30, .agg #[.int .i64 ((F.getD i (0, 0, 0)).1), .int .i64 ((F.getD i (0, 0, 0)).2.1), .int .i64 ((F.getD i (0, 0, 0)).2.2)]), (29, .pointer (some ⟨b8, o9, none⟩)), (28, .bool (decide (((i : Nat) : Int) < ((nf : Nat) : Int)))), (27, .int .i64 ((i : Nat) : Int)), (26, .int .i64 ((nf : Nat) : Int)), (25, .slice pf nf cf), (5, .pointer (some ⟨b6, 0, none⟩)), (3, .int .i64 0), (2, .pointer (some ⟨b2, 0, none⟩)), (1, .pointer (some ⟨b1, 0, none⟩))], [boxA bn25n1 89 [.bool false, .slice none 0 0, .bool false, .slice none 0 0, .bool false, .slice none 0 0]], [boxA b12 42 [.int .i64 0, .int .i64 0, .int .i64 0], boxA b11 44 [.int .i64 ((F.getD i (0, 0, 0)).1), .int .i64 ((F.getD i (0, 0, 0)).2.1), .int .i64 ((F.getD i (0, 0, 0)).2.2)], boxA b6 34 [.bool (decide (s < 0)), .slice p ((Big.digs ((s).natAbs)).length) c], mapA b23 (fun z : Int => .int .i64 z) (fun z : Int => .int .i64 z) (InK .i64) bm1, boxA b2 34 [.bool false, .slice none 0 0], boxA b1 25 [.slice pv nv cv, .slice pf nf cf]], [slF (rI .u32) pr0n23n1 cr0n23n2 (Big.digs ((qcx - 0).natAbs)), slF (rI .u32) pr1n23n3 cr1n23n4 (Big.digs ((qcy - 0).natAbs)), slF (rI .u32) pr2n23n5 cr2n23n6 (Big.digs ((qcz - 0).natAbs)), slF (rI .u32) pr0n15n1 cr0n15n2 (Big.digs ((qbx - 0).natAbs)), slF (rI .u32) pr1n15n3 cr1n15n4 (Big.digs ((qby - 0).natAbs)), slF (rI .u32) pr2n15n5 cr2n15n6 (Big.digs ((qbz - 0).natAbs)), slF (rI .u32) pr0n7n1 cr0n7n2 (Big.digs ((qax - 0).natAbs)), slF (rI .u32) pr1n7n3 cr1n7n4 (Big.digs ((qay - 0).natAbs)), slF (rI .u32) pr2n7n5 cr2n7n6 (Big.digs ((qaz - 0).natAbs)), atF b19 o20 [.int .i64 qcx, .int .i64 qcy, .int .i64 qcz], atF b16 o17 [.int .i64 qbx, .int .i64 qby, .int .i64 qbz], atF b13 o14 [.int .i64 qax, .int .i64 qay, .int .i64 qaz], atF b8 o9 [.int .i64 ((F.getD i (0, 0, 0)).1), .int .i64 ((F.getD i (0, 0, 0)).2.1), .int .i64 ((F.getD i (0, 0, 0)).2.2)], slF (rI .u32) p c (Big.digs ((s).natAbs)), slF (rI .u32) p24 c25 (Big.digs ((0 : Int).natAbs)), slF (rI3 .i64) pv cv V, slF (rI3 .i64) pf cf F])) ?_ (fun hD9 => ?_)
    ·
     rintro ⟨pr0n7n1, cr0n7n2, pr1n7n3, cr1n7n4, pr2n7n5, cr2n7n6, pr0n15n1, cr0n15n2, pr1n15n3, cr1n15n4, pr2n15n5, cr2n15n6, pr0n23n1, cr0n23n2, pr1n23n3, cr1n23n4, pr2n23n5, cr2n23n6, bn25n1⟩
     dsimp only
     refine d_two 24 26 (by kernel_rfl) ?_ ?_
     ·
      refine o_ef0W rfl rfl rfl rfl (ef_alloc zr89 rfl) (fun bn24n1 _ => ?_)
      exact d_weakT (hD4 (pr0n7n1, cr0n7n2, pr1n7n3, cr1n7n4, pr2n7n5, cr2n7n6, pr0n15n1, cr0n15n2, pr1n15n3, cr1n15n4, pr2n15n5, cr2n15n6, pr0n23n1, cr0n23n2, pr1n23n3, cr1n23n4, pr2n23n5, cr2n23n6, bn24n1, bn25n1)) (by kernel_rfl) ((.of rfl) : SubM _ _) (perm_c 1 rfl (perm_c 0 rfl .nil)) .rfl ((.of [0, 1, 2, 3, 4, 5, 6, 7, 8, 9, 10, 11, 12, 13, 14, 15, 16] rfl) : SelR _ _ _)
     ·
      refine o_ef0W rfl rfl rfl rfl (ef_alloc zr89 rfl) (fun bn26n1 _ => ?_)
      exact d_weakT (hD6 (pr0n7n1, cr0n7n2, pr1n7n3, cr1n7n4, pr2n7n5, cr2n7n6, pr0n15n1, cr0n15n2, pr1n15n3, cr1n15n4, pr2n15n5, cr2n15n6, pr0n23n1, cr0n23n2, pr1n23n3, cr1n23n4, pr2n23n5, cr2n23n6, bn25n1, bn26n1)) (by kernel_rfl) ((.of rfl) : SubM _ _) .rfl .rfl ((.of [0, 1, 2, 3, 4, 5, 6, 7, 8, 9, 10, 11, 12, 13, 14, 15, 16] rfl) : SelR _ _ _)
    refine d_join (X := Option Addr × Nat × Option Addr × Nat × Option Addr × Nat × Option Addr × Nat × Option Addr × Nat × Option Addr × Nat × Option Addr × Nat × Option Addr × Nat × Option Addr × Nat × Nat) (k' := 5) (L' := #[true, true, true, true, true, true, true, true, true, true, true, true, true, true, true, true, true, true, true, true, true, true, true, true, false, false, true, false, false, false]) (fun (pr0n7n1, cr0n7n2, pr1n7n3, cr1n7n4, pr2n7n5, cr2n7n6, pr0n15n1, cr0n15n2, pr1n15n3, cr1n15n4, pr2n15n5, cr2n15n6, pr0n23n1, cr0n23n2, pr1n23n3, cr1n23n4, pr2n23n5, cr2n23n6, bn26n1) => ([(11, .pointer (some ⟨bn26n1, 0, none⟩)), (55, .agg #[.bool (decide ((qcx - 0) < 0)), .slice pr0n23n1 ((Big.digs ((qcx - 0).natAbs)).length) cr0n23n2, .bool (decide ((qcy - 0) < 0)), .slice pr1n23n3 ((Big.digs ((qcy - 0).natAbs)).length) cr1n23n4, .bool (decide ((qcz - 0) < 0)), .slice pr2n23n5 ((Big.digs ((qcz - 0).natAbs)).length) cr2n23n6]), (47, .agg #[.bool (decide ((qbx - 0) < 0)), .slice pr0n15n1 ((Big.digs ((qbx - 0).natAbs)).length) cr0n15n2, .bool (decide ((qby - 0) < 0)), .slice pr1n15n3 ((Big.digs ((qby - 0).natAbs)).length) cr1n15n4, .bool (decide ((qbz - 0) < 0)), .slice pr2n15n5 ((Big.digs ((qbz - 0).natAbs)).length) cr2n15n6]), (39, .agg #[.bool (decide ((qax - 0) < 0)), .slice pr0n7n1 ((Big.digs ((qax - 0).natAbs)).length) cr0n7n2, .bool (decide ((qay - 0) < 0)), .slice pr1n7n3 ((Big.digs ((qay - 0).natAbs)).length) cr1n7n4, .bool (decide ((qaz - 0) < 0)), .slice pr2n7n5 ((Big.digs ((qaz - 0).natAbs)).length) cr2n7n6]), (54, .agg #[.int .i64 qcx, .int .i64 qcy, .int .i64 qcz]), (53, .pointer (some ⟨b19, o20, none⟩)), (52, .int .i64 ((F.getD i (0, 0, 0)).2.2)), (51, .pointer (some ⟨b11, 2, none⟩)), (50, .slice pv nv cv), (49, .pointer (some ⟨b1, 0, none⟩)), (48, .agg #[.int .i64 0, .int .i64 0, .int .i64 0]), (46, .agg #[.int .i64 qbx, .int .i64 qby, .int .i64 qbz]), (45, .pointer (some ⟨b16, o17, none⟩)), (44, .int .i64 ((F.getD i (0, 0, 0)).2.1)), (43, .pointer (some ⟨b11, 1, none⟩)), (42, .slice pv nv cv), (41, .pointer (some ⟨b1, 0, none⟩)), (40, .agg #[.int .i64 0, .int .i64 0, .int .i64 0]), (38, .agg #[.int .i64 qax, .int .i64 qay, .int .i64 qaz]), (37, .pointer (some ⟨b13, o14, none⟩)), (36, .int .i64 ((F.getD i (0, 0, 0)).1)), (35, .pointer (some ⟨b11, 0, none⟩)), (34, .slice pv nv cv), (33, .pointer (some ⟨b1, 0, none⟩)), (32, .agg #[.int .i64 0, .int .i64 0, .int .i64 0]), (8, .pointer (some ⟨b12, 0, none⟩)), (31, .agg #[.int .i64 0, .int .i64 0, .int .i64 0]), (7, .pointer (some ⟨b11, 0, none⟩)), (30, .agg #[.int .i64 ((F.getD i (0, 0, 0)).1), .int .i64 ((F.getD i (0, 0, 0)).2.1), .int .i64 ((F.getD i (0, 0, 0)).2.2)]), (29, .pointer (some ⟨b8, o9, none⟩)), (28, .bool (decide (((i : Nat) : Int) < ((nf : Nat) : Int)))), (27, .int .i64 ((i : Nat) : Int)), (26, .int .i64 ((nf : Nat) : Int)), (25, .slice pf nf cf), (5, .pointer (some ⟨b6, 0, none⟩)), (3, .int .i64 0), (2, .pointer (some ⟨b2, 0, none⟩)), (1, .pointer (some ⟨b1, 0, none⟩))], [boxA bn26n1 89 [.bool false, .slice none 0 0, .bool false, .slice none 0 0, .bool false, .slice none 0 0]], [boxA b12 42 [.int .i64 0, .int .i64 0, .int .i64 0], boxA b11 44 [.int .i64 ((F.getD i (0, 0, 0)).1), .int .i64 ((F.getD i (0, 0, 0)).2.1), .int .i64 ((F.getD i (0, 0, 0)).2.2)], boxA b6 34 [.bool (decide (s < 0)), .slice p ((Big.digs ((s).natAbs)).length) c], mapA b23 (fun z : Int => .int .i64 z) (fun z : Int => .int .i64 z) (InK .i64) bm1, boxA b2 34 [.bool false, .slice none 0 0], boxA b1 25 [.slice pv nv cv, .slice pf nf cf]], [slF (rI .u32) pr0n23n1 cr0n23n2 (Big.digs ((qcx - 0).natAbs)), slF (rI .u32) pr1n23n3 cr1n23n4 (Big.digs ((qcy - 0).natAbs)), slF (rI .u32) pr2n23n5 cr2n23n6 (Big.digs ((qcz - 0).natAbs)), slF (rI .u32) pr0n15n1 cr0n15n2 (Big.digs ((qbx - 0).natAbs)), slF (rI .u32) pr1n15n3 cr1n15n4 (Big.digs ((qby - 0).natAbs)), slF (rI .u32) pr2n15n5 cr2n15n6 (Big.digs ((qbz - 0).natAbs)), slF (rI .u32) pr0n7n1 cr0n7n2 (Big.digs ((qax - 0).natAbs)), slF (rI .u32) pr1n7n3 cr1n7n4 (Big.digs ((qay - 0).natAbs)), slF (rI .u32) pr2n7n5 cr2n7n6 (Big.digs ((qaz - 0).natAbs)), atF b19 o20 [.int .i64 qcx, .int .i64 qcy, .int .i64 qcz], atF b16 o17 [.int .i64 qbx, .int .i64 qby, .int .i64 qbz], atF b13 o14 [.int .i64 qax, .int .i64 qay, .int .i64 qaz], atF b8 o9 [.int .i64 ((F.getD i (0, 0, 0)).1), .int .i64 ((F.getD i (0, 0, 0)).2.1), .int .i64 ((F.getD i (0, 0, 0)).2.2)], slF (rI .u32) p c (Big.digs ((s).natAbs)), slF (rI .u32) p24 c25 (Big.digs ((0 : Int).natAbs)), slF (rI3 .i64) pv cv V, slF (rI3 .i64) pf cf F])) ?_ (fun hD10 => ?_)
    ·
     rintro ⟨pr0n7n1, cr0n7n2, pr1n7n3, cr1n7n4, pr2n7n5, cr2n7n6, pr0n15n1, cr0n15n2, pr1n15n3, cr1n15n4, pr2n15n5, cr2n15n6, pr0n23n1, cr0n23n2, pr1n23n3, cr1n23n4, pr2n23n5, cr2n23n6, bn26n1⟩
     dsimp only
     refine d_two 24 25 (by kernel_rfl) ?_ ?_
     ·
      refine o_ef0W rfl rfl rfl rfl (ef_alloc zr89 rfl) (fun bn24n1 _ => ?_)
      exact d_weakT (hD5 (pr0n7n1, cr0n7n2, pr1n7n3, cr1n7n4, pr2n7n5, cr2n7n6, pr0n15n1, cr0n15n2, pr1n15n3, cr1n15n4, pr2n15n5, cr2n15n6, pr0n23n1, cr0n23n2, pr1n23n3, cr1n23n4, pr2n23n5, cr2n23n6, bn24n1, bn26n1)) (by kernel_rfl) ((.of rfl) : SubM _ _) (perm_c 1 rfl (perm_c 0 rfl .nil)) .rfl ((.of [0, 1, 2, 3, 4, 5, 6, 7, 8, 9, 10, 11, 12, 13, 14, 15, 16] rfl) : SelR _ _ _)
     ·
      refine o_ef0W rfl rfl rfl rfl (ef_alloc zr89 rfl) (fun bn25n1 _ => ?_)
      exact d_weakT (hD6 (pr0n7n1, cr0n7n2, pr1n7n3, cr1n7n4, pr2n7n5, cr2n7n6, pr0n15n1, cr0n15n2, pr1n15n3, cr1n15n4, pr2n15n5, cr2n15n6, pr0n23n1, cr0n23n2, pr1n23n3, cr1n23n4, pr2n23n5, cr2n23n6, bn25n1, bn26n1)) (by kernel_rfl) ((.of rfl) : SubM _ _) (perm_c 1 rfl (perm_c 0 rfl .nil)) .rfl ((.of [0, 1, 2, 3, 4, 5, 6, 7, 8, 9, 10, 11, 12, 13, 14, 15, 16] rfl) : SelR _ _ _)
    refine d_join (X := Option Addr × Nat × Option Addr × Nat × Option Addr × Nat × Option Addr × Nat × Option Addr × Nat × Option Addr × Nat × Nat × Nat) (k' := 5) (L' := #[true, true, true, true, true, true, true, true, true, true, true, true, true, true, true, true, true, true, true, true, true, true, true, false, true, true, false, false, false, false]) (fun (pr0n7n1, cr0n7n2, pr1n7n3, cr1n7n4, pr2n7n5, cr2n7n6, pr0n15n1, cr0n15n2, pr1n15n3, cr1n15n4, pr2n15n5, cr2n15n6, bn24n1, bn25n1) => ([(10, .pointer (some ⟨bn25n1, 0, none⟩)), (9, .pointer (some ⟨bn24n1, 0, none⟩)), (47, .agg #[.bool (decide ((qbx - 0) < 0)), .slice pr0n15n1 ((Big.digs ((qbx - 0).natAbs)).length) cr0n15n2, .bool (decide ((qby - 0) < 0)), .slice pr1n15n3 ((Big.digs ((qby - 0).natAbs)).length) cr1n15n4, .bool (decide ((qbz - 0) < 0)), .slice pr2n15n5 ((Big.digs ((qbz - 0).natAbs)).length) cr2n15n6]), (39, .agg #[.bool (decide ((qax - 0) < 0)), .slice pr0n7n1 ((Big.digs ((qax - 0).natAbs)).length) cr0n7n2, .bool (decide ((qay - 0) < 0)), .slice pr1n7n3 ((Big.digs ((qay - 0).natAbs)).length) cr1n7n4, .bool (decide ((qaz - 0) < 0)), .slice pr2n7n5 ((Big.digs ((qaz - 0).natAbs)).length) cr2n7n6]), (54, .agg #[.int .i64 qcx, .int .i64 qcy, .int .i64 qcz]), (53, .pointer (some ⟨b19, o20, none⟩)), (52, .int .i64 ((F.getD i (0, 0, 0)).2.2)), (51, .pointer (some ⟨b11, 2, none⟩)), (50, .slice pv nv cv), (49, .pointer (some ⟨b1, 0, none⟩)), (48, .agg #[.int .i64 0, .int .i64 0, .int .i64 0]), (46, .agg #[.int .i64 qbx, .int .i64 qby, .int .i64 qbz]), (45, .pointer (some ⟨b16, o17, none⟩)), (44, .int .i64 ((F.getD i (0, 0, 0)).2.1)), (43, .pointer (some ⟨b11, 1, none⟩)), (42, .slice pv nv cv), (41, .pointer (some ⟨b1, 0, none⟩)), (40, .agg #[.int .i64 0, .int .i64 0, .int .i64 0]), (38, .agg #[.int .i64 qax, .int .i64 qay, .int .i64 qaz]), (37, .pointer (some ⟨b13, o14, none⟩)), (36, .int .i64 ((F.getD i (0, 0, 0)).1)), (35, .pointer (some ⟨b11, 0, none⟩)), (34, .slice pv nv cv), (33, .pointer (some ⟨b1, 0, none⟩)), (32, .agg #[.int .i64 0, .int .i64 0, .int .i64 0]), (8, .pointer (some ⟨b12, 0, none⟩)), (31, .agg #[.int .i64 0, .int .i64 0, .int .i64 0]), (7, .pointer (some ⟨b11, 0, none⟩)), (30, .agg #[.int .i64 ((F.getD i (0, 0, 0)).1), .int .i64 ((F.getD i (0, 0, 0)).2.1), .int .i64 ((F.getD i (0, 0, 0)).2.2)]), (29, .pointer (some ⟨b8, o9, none⟩)), (28, .bool (decide (((i : Nat) : Int) < ((nf : Nat) : Int)))), (27, .int .i64 ((i : Nat) : Int)), (26, .int .i64 ((nf : Nat) : Int)), (25, .slice pf nf cf), (5, .pointer (some ⟨b6, 0, none⟩)), (3, .int .i64 0), (2, .pointer (some ⟨b2, 0, none⟩)), (1, .pointer (some ⟨b1, 0, none⟩))], [boxA bn25n1 89 [.bool false, .slice none 0 0, .bool false, .slice none 0 0, .bool false, .slice none 0 0], boxA bn24n1 89 [.bool false, .slice none 0 0, .bool false, .slice none 0 0, .bool false, .slice none 0 0]], [boxA b12 42 [.int .i64 0, .int .i64 0, .int .i64 0], boxA b11 44 [.int .i64 ((F.getD i (0, 0, 0)).1), .int .i64 ((F.getD i (0, 0, 0)).2.1), .int .i64 ((F.getD i (0, 0, 0)).2.2)], boxA b6 34 [.bool (decide (s < 0)), .slice p ((Big.digs ((s).natAbs)).length) c], mapA b23 (fun z : Int => .int .i64 z) (fun z : Int => .int .i64 z) (InK .i64) bm1, boxA b2 34 [.bool false, .slice none 0 0], boxA b1 25 [.slice pv nv cv, .slice pf nf cf]], [slF (rI .u32) pr0n15n1 cr0n15n2 (Big.digs ((qbx - 0).natAbs)), slF (rI .u32) pr1n15n3 cr1n15n4 (Big.digs ((qby - 0).natAbs)), slF (rI .u32) pr2n15n5 cr2n15n6 (Big.digs ((qbz - 0).natAbs)), slF (rI .u32) pr0n7n1 cr0n7n2 (Big.digs ((qax - 0).natAbs)), slF (rI .u32) pr1n7n3 cr1n7n4 (Big.digs ((qay - 0).natAbs)), slF (rI .u32) pr2n7n5 cr2n7n6 (Big.digs ((qaz - 0).natAbs)), atF b19 o20 [.int .i64 qcx, .int .i64 qcy, .int .i64 qcz], atF b16 o17 [.int .i64 qbx, .int .i64 qby, .int .i64 qbz], atF b13 o14 [.int .i64 qax, .int .i64 qay, .int .i64 qaz], atF b8 o9 [.int .i64 ((F.getD i (0, 0, 0)).1), .int .i64 ((F.getD i (0, 0, 0)).2.1), .int .i64 ((F.getD i (0, 0, 0)).2.2)], slF (rI .u32) p c (Big.digs ((s).natAbs)), slF (rI .u32) p24 c25 (Big.digs ((0 : Int).natAbs)), slF (rI3 .i64) pv cv V, slF (rI3 .i64) pf cf F])) ?_ (fun hD11 => ?_)
    ·
     rintro ⟨pr0n7n1, cr0n7n2, pr1n7n3, cr1n7n4, pr2n7n5, cr2n7n6, pr0n15n1, cr0n15n2, pr1n15n3, cr1n15n4, pr2n15n5, cr2n15n6, bn24n1, bn25n1⟩
     dsimp only
     refine d_two 23 26 (by kernel_rfl) ?_ ?_
     ·
      refine o_callf rfl rfl rfl rfl (.c rfl (.c rfl .n)) ce58 (con_from (ex := 0) (ey := 0) (ez := 0) (fx := qcx) (fy := qcy) (fz := qcz) (hbex := by omega) (hbey := by omega) (hbez := by omega) (hbfx := by omega) (hbfy := by omega) (hbfz := by omega)) (.n) ?_
      rintro ⟨pr0n23n1, cr0n23n2, pr1n23n3, cr1n23n4, pr2n23n5, cr2n23n6⟩ -
      dsimp only [List.append_eq, List.nil_append, List.cons_append]
      exact d_weakT (hD4 (pr0n7n1, cr0n7n2, pr1n7n3, cr1n7n4, pr2n7n5, cr2n7n6, pr0n15n1, cr0n15n2, pr1n15n3, cr1n15n4, pr2n15n5, cr2n15n6, pr0n23n1, cr0n23n2, pr1n23n3, cr1n23n4, pr2n23n5, cr2n23n6, bn24n1, bn25n1)) (by kernel_rfl) ((.of rfl) : SubM _ _) .rfl .rfl ((.of [0, 1, 2, 3, 4, 5, 6, 7, 8, 9, 10, 11, 12, 13, 14, 15, 16] rfl) : SelR _ _ _)
     ·
      refine o_ef0W rfl rfl rfl rfl (ef_alloc zr89 rfl) (fun bn26n1 _ => ?_)
      exact d_weakT (hD7 (pr0n7n1, cr0n7n2, pr1n7n3, cr1n7n4, pr2n7n5, cr2n7n6, pr0n15n1, cr0n15n2, pr1n15n3, cr1n15n4, pr2n15n5, cr2n15n6, bn24n1, bn25n1, bn26n1)) (by kernel_rfl) ((.of rfl) : SubM _ _) .rfl .rfl ((.of [0, 1, 2, 3, 4, 5, 6, 7, 8, 9, 10, 11, 12, 13] rfl) : SelR _ _ _)
    refine d_join (X := Option Addr × Nat × Option Addr × Nat × Option Addr × Nat × Option Addr × Nat × Option Addr × Nat × Option Addr × Nat × Nat × Nat) (k' := 5) (L' := #[true, true, true, true, true, true, true, true, true, true, true, true, true, true, true, true, true, true, true, true, true, true, true, false, true, false, true, false, false, false]) (fun (pr0n7n1, cr0n7n2, pr1n7n3, cr1n7n4, pr2n7n5, cr2n7n6, pr0n15n1, cr0n15n2, pr1n15n3, cr1n15n4, pr2n15n5, cr2n15n6, bn24n1, bn26n1) => ([(11, .pointer (some ⟨bn26n1, 0, none⟩)), (9, .pointer (some ⟨bn24n1, 0, none⟩)), (47, .agg #[.bool (decide ((qbx - 0) < 0)), .slice pr0n15n1 ((Big.digs ((qbx - 0).natAbs)).length) cr0n15n2, .bool (decide ((qby - 0) < 0)), .slice pr1n15n3 ((Big.digs ((qby - 0).natAbs)).length) cr1n15n4, .bool (decide ((qbz - 0) < 0)), .slice pr2n15n5 ((Big.digs ((qbz - 0).natAbs)).length) cr2n15n6]), (39, .agg #[.bool (decide ((qax - 0) < 0)), .slice pr0n7n1 ((Big.digs ((qax - 0).natAbs)).length) cr0n7n2, .bool (decide ((qay - 0) < 0)), .slice pr1n7n3 ((Big.digs ((qay - 0).natAbs)).length) cr1n7n4, .bool (decide ((qaz - 0) < 0)), .slice pr2n7n5 ((Big.digs ((qaz - 0).natAbs)).length) cr2n7n6]), (54, .agg #[.int .i64 qcx, .int .i64 qcy, .int .i64 qcz]), (53, .pointer (some ⟨b19, o20, none⟩)), (52, .int .i64 ((F.getD i (0, 0, 0)).2.2)), (51, .pointer (some ⟨b11, 2, none⟩)), (50, .slice pv nv cv), (49, .pointer (some ⟨b1, 0, none⟩)), (48, .agg #[.int .i64 0, .int .i64 0, .int .i64 0]), (46, .agg #[.int .i64 qbx, .int .i64 qby, .int .i64 qbz]), (45, .pointer (some ⟨b16, o17, none⟩)), (44, .int .i64 ((F.getD i (0, 0, 0)).2.1)), (43, .pointer (some ⟨b11, 1, none⟩)), (42, .slice pv nv cv), (41, .pointer (some ⟨b1, 0, none⟩)), (40, .agg #[.int .i64 0, .int .i64 0, .int .i64 0]), (38, .agg #[.int .i64 qax, .int .i64 qay, .int .i64 qaz]), (37, .pointer (some ⟨b13, o14, none⟩)), (36, .int .i64 ((F.getD i (0, 0, 0)).1)), (35, .pointer (some ⟨b11, 0, none⟩)), (34, .slice pv nv cv), (33, .pointer (some ⟨b1, 0, none⟩)), (32, .agg #[.int .i64 0, .int .i64 0, .int .i64 0]), (8, .pointer (some ⟨b12, 0, none⟩)), (31, .agg #[.int .i64 0, .int .i64 0, .int .i64 0]), (7, .pointer (some ⟨b11, 0, none⟩)), (30, .agg #[.int .i64 ((F.getD i (0, 0, 0)).1), .int .i64 ((F.getD i (0, 0, 0)).2.1), .int .i64 ((F.getD i (0, 0, 0)).2.2)]), (29, .pointer (some ⟨b8, o9, none⟩)), (28, .bool (decide (((i : Nat) : Int) < ((nf : Nat) : Int)))), (27, .int .i64 ((i : Nat) : Int)), (26, .int .i64 ((nf : Nat) : Int)), (25, .slice pf nf cf), (5, .pointer (some ⟨b6, 0, none⟩)), (3, .int .i64 0), (2, .pointer (some ⟨b2, 0, none⟩)), (1, .pointer (some ⟨b1, 0, none⟩))], [boxA bn26n1 89 [.bool false, .slice none 0 0, .bool false, .slice none 0 0, .bool false, .slice none 0 0], boxA bn24n1 89 [.bool false, .slice none 0 0, .bool false, .slice none 0 0, .bool false, .slice none 0 0]], [boxA b12 42 [.int .i64 0, .int .i64 0, .int .i64 0], boxA b11 44 [.int .i64 ((F.getD i (0, 0, 0)).1), .int .i64 ((F.getD i (0, 0, 0)).2.1), .int .i64 ((F.getD i (0, 0, 0)).2.2)], boxA b6 34 [.bool (decide (s < 0)), .slice p ((Big.digs ((s).natAbs)).length) c], mapA b23 (fun z : Int => .int .i64 z) (fun z : Int => .int .i64 z) (InK .i64) bm1, boxA b2 34 [.bool false, .slice none 0 0], boxA b1 25 [.slice pv nv cv, .slice pf nf cf]], [slF (rI .u32) pr0n15n1 cr0n15n2 (Big.digs ((qbx - 0).natAbs)), slF (rI .u32) pr1n15n3 cr1n15n4 (Big.digs ((qby - 0).natAbs)), slF (rI .u32) pr2n15n5 cr2n15n6 (Big.digs ((qbz - 0).natAbs)), slF (rI .u32) pr0n7n1 cr0n7n2 (Big.digs ((qax - 0).natAbs)), slF (rI .u32) pr1n7n3 cr1n7n4 (Big.digs ((qay - 0).natAbs)), slF (rI .u32) pr2n7n5 cr2n7n6 (Big.digs ((qaz - 0).natAbs)), atF b19 o20 [.int .i64 qcx, .int .i64 qcy, .int .i64 qcz], atF b16 o17 [.int .i64 qbx, .int .i64 qby, .int .i64 qbz], atF b13 o14 [.int .i64 qax, .int .i64 qay, .int .i64 qaz], atF b8 o9 [.int .i64 ((F.getD i (0, 0, 0)).1), .int .i64 ((F.getD i (0, 0, 0)).2.1), .int .i64 ((F.getD i (0, 0, 0)).2.2)], slF (rI .u32) p c (Big.digs ((s).natAbs)), slF (rI .u32) p24 c25 (Big.digs ((0 : Int).natAbs)), slF (rI3 .i64) pv cv V, slF (rI3 .i64) pf cf F])) ?_ (fun hD12 => ?_)
    ·
     rintro ⟨pr0n7n1, cr0n7n2, pr1n7n3, cr1n7n4, pr2n7n5, cr2n7n6, pr0n15n1, cr0n15n2, pr1n15n3, cr1n15n4, pr2n15n5, cr2n15n6, bn24n1, bn26n1⟩
     dsimp only
     refine d_two 23 25 (by kernel_rfl) ?_ ?_
     ·
      refine o_callf rfl rfl rfl rfl (.c rfl (.c rfl .n)) ce58 (con_from (ex := 0) (ey := 0) (ez := 0) (fx := qcx) (fy := qcy) (fz := qcz) (hbex := by omega) (hbey := by omega) (hbez := by omega) (hbfx := by omega) (hbfy := by omega) (hbfz := by omega)) (.n) ?_
      rintro ⟨pr0n23n1, cr0n23n2, pr1n23n3, cr1n23n4, pr2n23n5, cr2n23n6⟩ -
      dsimp only [List.append_eq, List.nil_append, List.cons_append]
      exact d_weakT (hD5 (pr0n7n1, cr0n7n2, pr1n7n3, cr1n7n4, pr2n7n5, cr2n7n6, pr0n15n1, cr0n15n2, pr1n15n3, cr1n15n4, pr2n15n5, cr2n15n6, pr0n23n1, cr0n23n2, pr1n23n3, cr1n23n4, pr2n23n5, cr2n23n6, bn24n1, bn26n1)) (by kernel_rfl) ((.of rfl) : SubM _ _) .rfl .rfl ((.of [0, 1, 2, 3, 4, 5, 6, 7, 8, 9, 10, 11, 12, 13, 14, 15, 16] rfl) : SelR _ _ _)
     ·
      refine o_ef0W rfl rfl rfl rfl (ef_alloc zr89 rfl) (fun bn25n1 _ => ?_)
      exact d_weakT (hD7 (pr0n7n1, cr0n7n2, pr1n7n3, cr1n7n4, pr2n7n5, cr2n7n6, pr0n15n1, cr0n15n2, pr1n15n3, cr1n15n4, pr2n15n5, cr2n15n6, bn24n1, bn25n1, bn26n1)) (by kernel_rfl) ((.of rfl) : SubM _ _) (perm_c 1 rfl (perm_c 0 rfl (perm_c 0 rfl .nil))) .rfl ((.of [0, 1, 2, 3, 4, 5, 6, 7, 8, 9, 10, 11, 12, 13] rfl) : SelR _ _ _)
    refine d_join (X := Option Addr × Nat × Option Addr × Nat × Option Addr × Nat × Option Addr × Nat × Option Addr × Nat × Option Addr × Nat × Nat × Nat) (k' := 5) (L' := #[true, true, true, true, true, true, true, true, true, true, true, true, true, true, true, true, true, true, true, true, true, true, true, false, false, true, true, false, false, false]) (fun (pr0n7n1, cr0n7n2, pr1n7n3, cr1n7n4, pr2n7n5, cr2n7n6, pr0n15n1, cr0n15n2, pr1n15n3, cr1n15n4, pr2n15n5, cr2n15n6, bn25n1, bn26n1) => ([(11, .pointer (some ⟨bn26n1, 0, none⟩)), (10, .pointer (some ⟨bn25n1, 0, none⟩)), (47, .agg #[.bool (decide ((qbx - 0) < 0)), .slice pr0n15n1 ((Big.digs ((qbx - 0).natAbs)).length) cr0n15n2, .bool (decide ((qby - 0) < 0)), .slice pr1n15n3 ((Big.digs ((qby - 0).natAbs)).length) cr1n15n4, .bool (decide ((qbz - 0) < 0)), .slice pr2n15n5 ((Big.digs ((qbz - 0).natAbs)).length) cr2n15n6]), (39, .agg #[.bool (decide ((qax - 0) < 0)), .slice pr0n7n1 ((Big.digs ((qax - 0).natAbs)).length) cr0n7n2, .bool (decide ((qay - 0) < 0)), .slice pr1n7n3 ((Big.digs ((qay - 0).natAbs)).length) cr1n7n4, .bool (decide ((qaz - 0) < 0)), .slice pr2n7n5 ((Big.digs ((qaz - 0).natAbs)).length) cr2n7n6]), (54, .agg #[.int .i64 qcx, .int .i64 qcy, .int .i64 qcz]), (53, .pointer (some ⟨b19, o20, none⟩)), (52, .int .i64 ((F.getD i (0, 0, 0)).2.2)), (51, .pointer (some ⟨b11, 2, none⟩)), (50, .slice pv nv cv), (49, .pointer (some ⟨b1, 0, none⟩)), (48, .agg #[.int .i64 0, .int .i64 0, .int .i64 0]), (46, .agg #[.int .i64 qbx, .int .i64 qby, .int .i64 qbz]), (45, .pointer (some ⟨b16, o17, none⟩)), (44, .int .i64 ((F.getD i (0, 0, 0)).2.1)), (43, .pointer (some ⟨b11, 1, none⟩)), (42, .slice pv nv cv), (41, .pointer (some ⟨b1, 0, none⟩)), (40, .agg #[.int .i64 0, .int .i64 0, .int .i64 0]), (38, .agg #[.int .i64 qax, .int .i64 qay, .int .i64 qaz]), (37, .pointer (some ⟨b13, o14, none⟩)), (36, .int .i64 ((F.getD i (0, 0, 0)).1)), (35, .pointer (some ⟨b11, 0, none⟩)), (34, .slice pv nv cv), (33, .pointer (some ⟨b1, 0, none⟩)), (32, .agg #[.int .i64 0, .int .i64 0, .int .i64 0]), (8, .pointer (some ⟨b12, 0, none⟩)), (31, .agg #[.int .i64 0, .int .i64 0, .int .i64 0]), (7, .pointer (some ⟨b11, 0, none⟩)), (30, .agg #[.int .i64 ((F.getD i (0, 0, 0)).1), .int .i64 ((F.getD i (0, 0, 0)).2.1), .int .i64 ((F.getD i (0, 0, 0)).2.2)]), (29, .pointer (some ⟨b8, o9, none⟩)), (28, .bool (decide (((i : Nat) : Int) < ((nf : Nat) : Int)))), (27, .int .i64 ((i : Nat) : Int)), (26, .int .i64 ((nf : Nat) : Int)), (25, .slice pf nf cf), (5, .pointer (some ⟨b6, 0, none⟩)), (3, .int .i64 0), (2, .pointer (some ⟨b2, 0, none⟩)), (1, .pointer (some ⟨b1, 0, none⟩))], [boxA bn26n1 89 [.bool false, .slice none 0 0, .bool false, .slice none 0 0, .bool false, .slice none 0 0], boxA bn25n1 89 [.bool false, .slice none 0 0, .bool false, .slice none 0 0, .bool false, .slice none 0 0]], [boxA b12 42 [.int .i64 0, .int .i64 0, .int .i64 0], boxA b11 44 [.int .i64 ((F.getD i (0, 0, 0)).1), .int .i64 ((F.getD i (0, 0, 0)).2.1), .int .i64 ((F.getD i (0, 0, 0)).2.2)], boxA b6 34 [.bool (decide (s < 0)), .slice p ((Big.digs ((s).natAbs)).length) c], mapA b23 (fun z : Int => .int .i64 z) (fun z : Int => .int .i64 z) (InK .i64) bm1, boxA b2 34 [.bool false, .slice none 0 0], boxA b1 25 [.slice pv nv cv, .slice pf nf cf]], [slF (rI .u32) pr0n15n1 cr0n15n2 (Big.digs ((qbx - 0).natAbs)), slF (rI .u32) pr1n15n3 cr1n15n4 (Big.digs ((qby - 0).natAbs)), slF (rI .u32) pr2n15n5 cr2n15n6 (Big.digs ((qbz - 0).natAbs)), slF (rI .u32) pr0n7n1 cr0n7n2 (Big.digs ((qax - 0).natAbs)), slF (rI .u32) pr1n7n3 cr1n7n4 (Big.digs ((qay - 0).natAbs)), slF (rI .u32) pr2n7n5 cr2n7n6 (Big.digs ((qaz - 0).natAbs)), atF b19 o20 [.int .i64 qcx, .int .i64 qcy, .int .i64 qcz], atF b16 o17 [.int .i64 qbx, .int .i64 qby, .int .i64 qbz], atF b13 o14 [.int .i64 qax, .int .i64 qay, .int .i64 qaz], atF b8 o9 [.int .i64 ((F.getD i (0, 0, 0)).1), .int .i64 ((F.getD i (0, 0, 0)).2.1), .int .i64 ((F.getD i (0, 0, 0)).2.2)], slF (rI .u32) p c (Big.digs ((s).natAbs)), slF (rI .u32) p24 c25 (Big.digs ((0 : Int).natAbs)), slF (rI3 .i64) pv cv V, slF (rI3 .i64) pf cf F])) ?_ (fun hD13 => ?_)
    ·
     rintro ⟨pr0n7n1, cr0n7n2, pr1n7n3, cr1n7n4, pr2n7n5, cr2n7n6, pr0n15n1, cr0n15n2, pr1n15n3, cr1n15n4, pr2n15n5, cr2n15n6, bn25n1, bn26n1⟩
     dsimp only
     refine d_two 23 24 (by kernel_rfl) ?_ ?_
     ·
      refine o_callf rfl rfl rfl rfl (.c rfl (.c rfl .n)) ce58 (con_from (ex := 0) (ey := 0) (ez := 0) (fx := qcx) (fy := qcy) (fz := qcz) (hbex := by omega) (hbey := by omega) (hbez := by omega) (hbfx := by omega) (hbfy := by omega) (hbfz := by omega)) (.n) ?_
      rintro ⟨pr0n23n1, cr0n23n2, pr1n23n3, cr1n23n4, pr2n23n5, cr2n23n6⟩ -
      dsimp only [List.append_eq, List.nil_append, List.cons_append]
      exact d_weakT (hD6 (pr0n7n1, cr0n7n2, pr1n7n3, cr1n7n4, pr2n7n5, cr2n7n6, pr0n15n1, cr0n15n2, pr1n15n3, cr1n15n4, pr2n15n5, cr2n15n6, pr0n23n1, cr0n23n2, pr1n23n3, cr1n23n4, pr2n23n5, cr2n23n6, bn25n1, bn26n1)) (by kernel_rfl) ((.of rfl) : SubM _ _) .rfl .rfl ((.of [0, 1, 2, 3, 4, 5, 6, 7, 8, 9, 10, 11, 12, 13, 14, 15, 16] rfl) : SelR _ _ _)
     ·
      refine o_ef0W rfl rfl rfl rfl (ef_alloc zr89 rfl) (fun bn24n1 _ => ?_)
      exact d_weakT (hD7 (pr0n7n1, cr0n7n2, pr1n7n3, cr1n7n4, pr2n7n5, cr2n7n6, pr0n15n1, cr0n15n2, pr1n15n3, cr1n15n4, pr2n15n5, cr2n15n6, bn24n1, bn25n1, bn26n1)) (by kernel_rfl) ((.of rfl) : SubM _ _) (perm_c 1 rfl (perm_c 1 rfl (perm_c 0 rfl .nil))) .rfl ((.of [0, 1, 2, 3, 4, 5, 6, 7, 8, 9, 10, 11, 12, 13] rfl) : SelR _ _ _)
    refine d_join (X := Option Addr × Nat × Option Addr × Nat × Option Addr × Nat × Nat × Nat × Nat) (k' := 5) (L' := #[true, true, true, true, true, true, true, true, true, true, true, true, true, true, true, false, true, true, true, true, true, true, true, false, true, true, true, false, false, false]) (fun (pr0n7n1, cr0n7n2, pr1n7n3, cr1n7n4, pr2n7n5, cr2n7n6, bn24n1, bn25n1, bn26n1) => ([(11, .pointer (some ⟨bn26n1, 0, none⟩)), (10, .pointer (some ⟨bn25n1, 0, none⟩)), (9, .pointer (some ⟨bn24n1, 0, none⟩)), (39, .agg #[.bool (decide ((qax - 0) < 0)), .slice pr0n7n1 ((Big.digs ((qax - 0).natAbs)).length) cr0n7n2, .bool (decide ((qay - 0) < 0)), .slice pr1n7n3 ((Big.digs ((qay - 0).natAbs)).length) cr1n7n4, .bool (decide ((qaz - 0) < 0)), .slice pr2n7n5 ((Big.digs ((qaz - 0).natAbs)).length) cr2n7n6]), (54, .agg #[.int .i64 qcx, .int .i64 qcy, .int .i64 qcz]), (53, .pointer (some ⟨b19, o20, none⟩)), (52, .int .i64 ((F.getD i (0, 0, 0)).2.2)), (51, .pointer (some ⟨b11, 2, none⟩)), (50, .slice pv nv cv), (49, .pointer (some ⟨b1, 0, none⟩)), (48, .agg #[.int .i64 0, .int .i64 0, .int .i64 0]), (46, .agg #[.int .i64 qbx, .int .i64 qby, .int .i64 qbz]), (45, .pointer (some ⟨b16, o17, none⟩)), (44, .int .i64 ((F.getD i (0, 0, 0)).2.1)), (43, .pointer (some ⟨b11, 1, none⟩)), (42, .slice pv nv cv), (41, .pointer (some ⟨b1, 0, none⟩)), (40, .agg #[.int .i64 0, .int .i64 0, .int .i64 0]), (38, .agg #[.int .i64 qax, .int .i64 qay, .int .i64 qaz]), (37, .pointer (some ⟨b13, o14, none⟩)), (36, .int .i64 ((F.getD i (0, 0, 0)).1)), (35, .pointer (some ⟨b11, 0, none⟩)), (34, .slice pv nv cv), (33, .pointer (some ⟨b1, 0, none⟩)), (32, .agg #[.int .i64 0, .int .i64 0, .int .i64 0]), (8, .pointer (some ⟨b12, 0, none⟩)), (31, .agg #[.int .i64 0, .int .i64 0, .int .i64 0]), (7, .pointer (some ⟨b11, 0, none⟩)), (30, .agg #[.int .i64 ((F.getD i (0, 0, 0)).1), .int .i64 ((F.getD i (0, 0, 0)).2.1), .int .i64 ((F.getD i (0, 0, 0)).2.2)]), (29, .pointer (some ⟨b8, o9, none⟩)), (28, .bool (decide (((i : Nat) : Int) < ((nf : Nat) : Int)))), (27, .int .i64 ((i : Nat) : Int)), (26, .int .i64 ((nf : Nat) : Int)), (25, .slice pf nf cf), (5, .pointer (some ⟨b6, 0, none⟩)), (3, .int .i64 0), (2, .pointer (some ⟨b2, 0, none⟩)), (1, .pointer (some ⟨b1, 0, none⟩))], [boxA bn26n1 89 [.bool false, .slice none 0 0, .bool false, .slice none 0 0, .bool false, .slice none 0 0], boxA bn25n1 89 [.bool false, .slice none 0 0, .bool false, .slice none 0 0, .bool false, .slice none 0 0], boxA bn24n1 89 [.bool false, .slice none 0 0, .bool false, .slice none 0 0, .bool false, .slice none 0 0]], [boxA b12 42 [.int .i64 0, .int .i64 0, .int .i64 0], boxA b11 44 [.int .i64 ((F.getD i (0, 0, 0)).1), .int .i64 ((F.getD i (0, 0, 0)).2.1), .int .i64 ((F.getD i (0, 0, 0)).2.2)], boxA b6 34 [.bool (decide (s < 0)), .slice p ((Big.digs ((s).natAbs)).length) c], mapA b23 (fun z : Int => .int .i64 z) (fun z : Int => .int .i64 z) (InK .i64) bm1, boxA b2 34 [.bool false, .slice none 0 0], boxA b1 25 [.slice pv nv cv, .slice pf nf cf]], [slF (rI .u32) pr0n7n1 cr0n7n2 (Big.digs ((qax - 0).natAbs)), slF (rI .u32) pr1n7n3 cr1n7n4 (Big.digs ((qay - 0).natAbs)), slF (rI .u32) pr2n7n5 cr2n7n6 (Big.digs ((qaz - 0).natAbs)), atF b19 o20 [.int .i64 qcx, .int .i64 qcy, .int .i64 qcz], atF b16 o17 [.int .i64 qbx, .int .i64 qby, .int .i64 qbz], atF b13 o14 [.int .i64 qax, .int .i64 qay, .int .i64 qaz], atF b8 o9 [.int .i64 ((F.getD i (0, 0, 0)).1), .int .i64 ((F.getD i (0, 0, 0)).2.1), .int .i64 ((F.getD i (0, 0, 0)).2.2)], slF (rI .u32) p c (Big.digs ((s).natAbs)), slF (rI .u32) p24 c25 (Big.digs ((0 : Int).natAbs)), slF (rI3 .i64) pv cv V, slF (rI3 .i64) pf cf F])) ?_ (fun hD14 => ?_)
    ·
     rintro ⟨pr0n7n1, cr0n7n2, pr1n7n3, cr1n7n4, pr2n7n5, cr2n7n6, bn24n1, bn25n1, bn26n1⟩
     dsimp only
     refine d_one 15 (by kernel_rfl) ?_
     ·
      refine o_callf rfl rfl rfl rfl (.c rfl (.c rfl .n)) ce58 (con_from (ex := 0) (ey := 0) (ez := 0) (fx := qbx) (fy := qby) (fz := qbz) (hbex := by omega) (hbey := by omega) (hbez := by omega) (hbfx := by omega) (hbfy := by omega) (hbfz := by omega)) (.n) ?_
      rintro ⟨pr0n15n1, cr0n15n2, pr1n15n3, cr1n15n4, pr2n15n5, cr2n15n6⟩ -
      dsimp only [List.append_eq, List.nil_append, List.cons_append]
      exact d_weakT (hD7 (pr0n7n1, cr0n7n2, pr1n7n3, cr1n7n4, pr2n7n5, cr2n7n6, pr0n15n1, cr0n15n2, pr1n15n3, cr1n15n4, pr2n15n5, cr2n15n6, bn24n1, bn25n1, bn26n1)) (by kernel_rfl) ((.of rfl) : SubM _ _) .rfl .rfl ((.of [0, 1, 2, 3, 4, 5, 6, 7, 8, 9, 10, 11, 12, 13] rfl) : SelR _ _ _)
    refine d_join (X := Option Addr × Nat × Option Addr × Nat × Option Addr × Nat × Option Addr × Nat × Option Addr × Nat × Option Addr × Nat × Option Addr × Nat × Option Addr × Nat × Option Addr × Nat) (k' := 6) (L' := #[true, true, true, true, true, true, true, true, true, true, true, true, true, true, true, true, true, true, true, true, true, true, true, true, false, false, false, false, false, false]) (fun (pr0n7n1, cr0n7n2, pr1n7n3, cr1n7n4, pr2n7n5, cr2n7n6, pr0n15n1, cr0n15n2, pr1n15n3, cr1n15n4, pr2n15n5, cr2n15n6, pr0n23n1, cr0n23n2, pr1n23n3, cr1n23n4, pr2n23n5, cr2n23n6) => ([(55, .agg #[.bool (decide ((qcx - 0) < 0)), .slice pr0n23n1 ((Big.digs ((qcx - 0).natAbs)).length) cr0n23n2, .bool (decide ((qcy - 0) < 0)), .slice pr1n23n3 ((Big.digs ((qcy - 0).natAbs)).length) cr1n23n4, .bool (decide ((qcz - 0) < 0)), .slice pr2n23n5 ((Big.digs ((qcz - 0).natAbs)).length) cr2n23n6]), (47, .agg #[.bool (decide ((qbx - 0) < 0)), .slice pr0n15n1 ((Big.digs ((qbx - 0).natAbs)).length) cr0n15n2, .bool (decide ((qby - 0) < 0)), .slice pr1n15n3 ((Big.digs ((qby - 0).natAbs)).length) cr1n15n4, .bool (decide ((qbz - 0) < 0)), .slice pr2n15n5 ((Big.digs ((qbz - 0).natAbs)).length) cr2n15n6]), (39, .agg #[.bool (decide ((qax - 0) < 0)), .slice pr0n7n1 ((Big.digs ((qax - 0).natAbs)).length) cr0n7n2, .bool (decide ((qay - 0) < 0)), .slice pr1n7n3 ((Big.digs ((qay - 0).natAbs)).length) cr1n7n4, .bool (decide ((qaz - 0) < 0)), .slice pr2n7n5 ((Big.digs ((qaz - 0).natAbs)).length) cr2n7n6]), (54, .agg #[.int .i64 qcx, .int .i64 qcy, .int .i64 qcz]), (53, .pointer (some ⟨b19, o20, none⟩)), (52, .int .i64 ((F.getD i (0, 0, 0)).2.2)), (51, .pointer (some ⟨b11, 2, none⟩)), (50, .slice pv nv cv), (49, .pointer (some ⟨b1, 0, none⟩)), (48, .agg #[.int .i64 0, .int .i64 0, .int .i64 0]), (46, .agg #[.int .i64 qbx, .int .i64 qby, .int .i64 qbz]), (45, .pointer (some ⟨b16, o17, none⟩)), (44, .int .i64 ((F.getD i (0, 0, 0)).2.1)), (43, .pointer (some ⟨b11, 1, none⟩)), (42, .slice pv nv cv), (41, .pointer (some ⟨b1, 0, none⟩)), (40, .agg #[.int .i64 0, .int .i64 0, .int .i64 0]), (38, .agg #[.int .i64 qax, .int .i64 qay, .int .i64 qaz]), (37, .pointer (some ⟨b13, o14, none⟩)), (36, .int .i64 ((F.getD i (0, 0, 0)).1)), (35, .pointer (some ⟨b11, 0, none⟩)), (34, .slice pv nv cv), (33, .pointer (some ⟨b1, 0, none⟩)), (32, .agg #[.int .i64 0, .int .i64 0, .int .i64 0]), (8, .pointer (some ⟨b12, 0, none⟩)), (31, .agg #[.int .i64 0, .int .i64 0, .int .i64 0]), (7, .pointer (some ⟨b11, 0, none⟩)), (30, .agg #[.int .i64 ((F.getD i (0, 0, 0)).1), .int .i64 ((F.getD i (0, 0, 0)).2.1), .int .i64 ((F.getD i (0, 0, 0)).2.2)]), (29, .pointer (some ⟨b8, o9, none⟩)), (28, .bool (decide (((i : Nat) : Int) < ((nf : Nat) : Int)))), (27, .int .i64 ((i : Nat) : Int)), (26, .int .i64 ((nf : Nat) : Int)), (25, .slice pf nf cf), (5, .pointer (some ⟨b6, 0, none⟩)), (3, .int .i64 0), (2, .pointer (some ⟨b2, 0, none⟩)), (1, .pointer (some ⟨b1, 0, none⟩))], [], [boxA b12 42 [.int .i64 0, .int .i64 0, .int .i64 0], boxA b11 44 [.int .i64 ((F.getD i (0, 0, 0)).1), .int .i64 ((F.getD i (0, 0, 0)).2.1), .int .i64 ((F.getD i (0, 0, 0)).2.2)], boxA b6 34 [.bool (decide (s < 0)), .slice p ((Big.digs ((s).natAbs)).length) c], mapA b23 (fun z : Int => .int .i64 z) (fun z : Int => .int .i64 z) (InK .i64) bm1, boxA b2 34 [.bool false, .slice none 0 0], boxA b1 25 [.slice pv nv cv, .slice pf nf cf]], [slF (rI .u32) pr0n23n1 cr0n23n2 (Big.digs ((qcx - 0).natAbs)), slF (rI .u32) pr1n23n3 cr1n23n4 (Big.digs ((qcy - 0).natAbs)), slF (rI .u32) pr2n23n5 cr2n23n6 (Big.digs ((qcz - 0).natAbs)), slF (rI .u32) pr0n15n1 cr0n15n2 (Big.digs ((qbx - 0).natAbs)), slF (rI .u32) pr1n15n3 cr1n15n4 (Big.digs ((qby - 0).natAbs)), slF (rI .u32) pr2n15n5 cr2n15n6 (Big.digs ((qbz - 0).natAbs)), slF (rI .u32) pr0n7n1 cr0n7n2 (Big.digs ((qax - 0).natAbs)), slF (rI .u32) pr1n7n3 cr1n7n4 (Big.digs ((qay - 0).natAbs)), slF (rI .u32) pr2n7n5 cr2n7n6 (Big.digs ((qaz - 0).natAbs)), atF b19 o20 [.int .i64 qcx, .int .i64 qcy, .int .i64 qcz], atF b16 o17 [.int .i64 qbx, .int .i64 qby, .int .i64 qbz], atF b13 o14 [.int .i64 qax, .int .i64 qay, .int .i64 qaz], atF b8 o9 [.int .i64 ((F.getD i (0, 0, 0)).1), .int .i64 ((F.getD i (0, 0, 0)).2.1), .int .i64 ((F.getD i (0, 0, 0)).2.2)], slF (rI .u32) p c (Big.digs ((s).natAbs)), slF (rI .u32) p24 c25 (Big.digs ((0 : Int).natAbs)), slF (rI3 .i64) pv cv V, slF (rI3 .i64) pf cf F])) ?_ (fun hD15 => ?_)
    ·
     rintro ⟨pr0n7n1, cr0n7n2, pr1n7n3, cr1n7n4, pr2n7n5, cr2n7n6, pr0n15n1, cr0n15n2, pr1n15n3, cr1n15n4, pr2n15n5, cr2n15n6, pr0n23n1, cr0n23n2, pr1n23n3, cr1n23n4, pr2n23n5, cr2n23n6⟩
     dsimp only
     refine d_three 24 25 26 (by kernel_rfl) ?_ ?_ ?_
     ·
      refine o_ef0W rfl rfl rfl rfl (ef_alloc zr89 rfl) (fun bn24n1 _ => ?_)
      exact d_weakT (hD8 (pr0n7n1, cr0n7n2, pr1n7n3, cr1n7n4, pr2n7n5, cr2n7n6, pr0n15n1, cr0n15n2, pr1n15n3, cr1n15n4, pr2n15n5, cr2n15n6, pr0n23n1, cr0n23n2, pr1n23n3, cr1n23n4, pr2n23n5, cr2n23n6, bn24n1)) (by kernel_rfl) ((.of rfl) : SubM _ _) .rfl .rfl ((.of [0, 1, 2, 3, 4, 5, 6, 7, 8, 9, 10, 11, 12, 13, 14, 15, 16] rfl) : SelR _ _ _)
     ·
      refine o_ef0W rfl rfl rfl rfl (ef_alloc zr89 rfl) (fun bn25n1 _ => ?_)
      exact d_weakT (hD9 (pr0n7n1, cr0n7n2, pr1n7n3, cr1n7n4, pr2n7n5, cr2n7n6, pr0n15n1, cr0n15n2, pr1n15n3, cr1n15n4, pr2n15n5, cr2n15n6, pr0n23n1, cr0n23n2, pr1n23n3, cr1n23n4, pr2n23n5, cr2n23n6, bn25n1)) (by kernel_rfl) ((.of rfl) : SubM _ _) .rfl .rfl ((.of [0, 1, 2, 3, 4, 5, 6, 7, 8, 9, 10, 11, 12, 13, 14, 15, 16] rfl) : SelR _ _ _)
     ·
      refine o_ef0W rfl rfl rfl rfl (ef_alloc zr89 rfl) (fun bn26n1 _ => ?_)
      exact d_weakT (hD10 (pr0n7n1, cr0n7n2, pr1n7n3, cr1n7n4, pr2n7n5, cr2n7n6, pr0n15n1, cr0n15n2, pr1n15n3, cr1n15n4, pr2n15n5, cr2n15n6, pr0n23n1, cr0n23n2, pr1n23n3, cr1n23n4, pr2n23n5, cr2n23n6, bn26n1)) (by kernel_rfl) ((.of rfl) : SubM _ _) .rfl .rfl ((.of [0, 1, 2, 3, 4, 5, 6, 7, 8, 9, 10, 11, 12, 13, 14, 15, 16] rfl) : SelR _ _ _)
    refine d_join (X := Option Addr × Nat × Option Addr × Nat × Option Addr × Nat × Option Addr × Nat × Option Addr × Nat × Option Addr × Nat × Nat) (k' := 6) (L' := #[true, true, true, true, true, true, true, true, true, true, true, true, true, true, true, true, true, true, true, true, true, true, true, false, true, false, false, false, false, false]) (fun (pr0n7n1, cr0n7n2, pr1n7n3, cr1n7n4, pr2n7n5, cr2n7n6, pr0n15n1, cr0n15n2, pr1n15n3, cr1n15n4, pr2n15n5, cr2n15n6, bn24n1) => ([(9, .pointer (some ⟨bn24n1, 0, none⟩)), (47, .agg #[.bool (decide ((qbx - 0) < 0)), .slice pr0n15n1 ((Big.digs ((qbx - 0).natAbs)).length) cr0n15n2, .bool (decide ((qby - 0) < 0)), .slice pr1n15n3 ((Big.digs ((qby - 0).natAbs)).length) cr1n15n4, .bool (decide ((qbz - 0) < 0)), .slice pr2n15n5 ((Big.digs ((qbz - 0).natAbs)).length) cr2n15n6]), (39, .agg #[.bool (decide ((qax - 0) < 0)), .slice pr0n7n1 ((Big.digs ((qax - 0).natAbs)).length) cr0n7n2, .bool (decide ((qay - 0) < 0)), .slice pr1n7n3 ((Big.digs ((qay - 0).natAbs)).length) cr1n7n4, .bool (decide ((qaz - 0) < 0)), .slice pr2n7n5 ((Big.digs ((qaz - 0).natAbs)).length) cr2n7n6]), (54, .agg #[.int .i64 qcx, .int .i64 qcy, .int .i64 qcz]), (53, .pointer (some ⟨b19, o20, none⟩)), (52, .int .i64 ((F.getD i (0, 0, 0)).2.2)), (51, .pointer (some ⟨b11, 2, none⟩)), (50, .slice pv nv cv), (49, .pointer (some ⟨b1, 0, none⟩)), (48, .agg #[.int .i64 0, .int .i64 0, .int .i64 0]), (46, .agg #[.int .i64 qbx, .int .i64 qby, .int .i64 qbz]), (45, .pointer (some ⟨b16, o17, none⟩)), (44, .int .i64 ((F.getD i (0, 0, 0)).2.1)), (43, .pointer (some ⟨b11, 1, none⟩)), (42, .slice pv nv cv), (41, .pointer (some ⟨b1, 0, none⟩)), (40, .agg #[.int .i64 0, .int .i64 0, .int .i64 0]), (38, .agg #[.int .i64 qax, .int .i64 qay, .int .i64 qaz]), (37, .pointer (some ⟨b13, o14, none⟩)), (36, .int .i64 ((F.getD i (0, 0, 0)).1)), (35, .pointer (some ⟨b11, 0, none⟩)), (34, .slice pv nv cv), (33, .pointer (some ⟨b1, 0, none⟩)), (32, .agg #[.int .i64 0, .int .i64 0, .int .i64 0]), (8, .pointer (some ⟨b12, 0, none⟩)), (31, .agg #[.int .i64 0, .int .i64 0, .int .i64 0]), (7, .pointer (some ⟨b11, 0, none⟩)), (30, .agg #[.int .i64 ((F.getD i (0, 0, 0)).1), .int .i64 ((F.getD i (0, 0, 0)).2.1), .int .i64 ((F.getD i (0, 0, 0)).2.2)]), (29, .pointer (some ⟨b8, o9, none⟩)), (28, .bool (decide (((i : Nat) : Int) < ((nf : Nat) : Int)))), (27, .int .i64 ((i : Nat) : Int)), (26, .int .i64 ((nf : Nat) : Int)), (25, .slice pf nf cf), (5, .pointer (some ⟨b6, 0, none⟩)), (3, .int .i64 0), (2, .pointer (some ⟨b2, 0, none⟩)), (1, .pointer (some ⟨b1, 0, none⟩))], [boxA bn24n1 89 [.bool false, .slice none 0 0, .bool false, .slice none 0 0, .bool false, .slice none 0 0]], [boxA b12 42 [.int .i64 0, .int .i64 0, .int .i64 0], boxA b11 44 [.int .i64 ((F.getD i (0, 0, 0)).1), .int .i64 ((F.getD i (0, 0, 0)).2.1), .int .i64 ((F.getD i (0, 0, 0)).2.2)], boxA b6 34 [.bool (decide (s < 0)), .slice p ((Big.digs ((s).natAbs)).length) c], mapA b23 (fun z : Int => .int .i64 z) (fun z : Int => .int .i64 z) (InK .i64) bm1, boxA b2 34 [.bool false, .slice none 0 0], boxA b1 25 [.slice pv nv cv, .slice pf nf cf]], [slF (rI .u32) pr0n15n1 cr0n15n2 (Big.digs ((qbx - 0).natAbs)), slF (rI .u32) pr1n15n3 cr1n15n4 (Big.digs ((qby - 0).natAbs)), slF (rI .u32) pr2n15n5 cr2n15n6 (Big.digs ((qbz - 0).natAbs)), slF (rI .u32) pr0n7n1 cr0n7n2 (Big.digs ((qax - 0).natAbs)), slF (rI .u32) pr1n7n3 cr1n7n4 (Big.digs ((qay - 0).natAbs)), slF (rI .u32) pr2n7n5 cr2n7n6 (Big.digs ((qaz - 0).natAbs)), atF b19 o20 [.int .i64 qcx, .int .i64 qcy, .int .i64 qcz], atF b16 o17 [.int .i64 qbx, .int .i64 qby, .int .i64 qbz], atF b13 o14 [.int .i64 qax, .int .i64 qay, .int .i64 qaz], atF b8 o9 [.int .i64 ((F.getD i (0, 0, 0)).1), .int .i64 ((F.getD i (0, 0, 0)).2.1), .int .i64 ((F.getD i (0, 0, 0)).2.2)], slF (rI .u32) p c (Big.digs ((s).natAbs)), slF (rI .u32) p24 c25 (Big.digs ((0 : Int).natAbs)), slF (rI3 .i64) pv cv V, slF (rI3 .i64) pf cf F])) ?_ (fun hD16 => ?_)
    ·
     rintro ⟨pr0n7n1, cr0n7n2, pr1n7n3, cr1n7n4, pr2n7n5, cr2n7n6, pr0n15n1, cr0n15n2, pr1n15n3, cr1n15n4, pr2n15n5, cr2n15n6, bn24n1⟩
     dsimp only
     refine d_three 23 25 26 (by kernel_rfl) ?_ ?_ ?_
     ·
      refine o_callf rfl rfl rfl rfl (.c rfl (.c rfl .n)) ce58 (con_from (ex := 0) (ey := 0) (ez := 0) (fx := qcx) (fy := qcy) (fz := qcz) (hbex := by omega) (hbey := by omega) (hbez := by omega) (hbfx := by omega) (hbfy := by omega) (hbfz := by omega)) (.n) ?_
      rintro ⟨pr0n23n1, cr0n23n2, pr1n23n3, cr1n23n4, pr2n23n5, cr2n23n6⟩ -
      dsimp only [List.append_eq, List.nil_append, List.cons_append]
      exact d_weakT (hD8 (pr0n7n1, cr0n7n2, pr1n7n3, cr1n7n4, pr2n7n5, cr2n7n6, pr0n15n1, cr0n15n2, pr1n15n3, cr1n15n4, pr2n15n5, cr2n15n6, pr0n23n1, cr0n23n2, pr1n23n3, cr1n23n4, pr2n23n5, cr2n23n6, bn24n1)) (by kernel_rfl) ((.of rfl) : SubM _ _) .rfl .rfl ((.of [0, 1, 2, 3, 4, 5, 6, 7, 8, 9, 10, 11, 12, 13, 14, 15, 16] rfl) : SelR _ _ _)
     ·
      refine o_ef0W rfl rfl rfl rfl (ef_alloc zr89 rfl) (fun bn25n1 _ => ?_)
      exact d_weakT (hD11 (pr0n7n1, cr0n7n2, pr1n7n3, cr1n7n4, pr2n7n5, cr2n7n6, pr0n15n1, cr0n15n2, pr1n15n3, cr1n15n4, pr2n15n5, cr2n15n6, bn24n1, bn25n1)) (by kernel_rfl) ((.of rfl) : SubM _ _) .rfl .rfl ((.of [0, 1, 2, 3, 4, 5, 6, 7, 8, 9, 10, 11, 12, 13] rfl) : SelR _ _ _)
     ·
      refine o_ef0W rfl rfl rfl rfl (ef_alloc zr89 rfl) (fun bn26n1 _ => ?_)
      exact d_weakT (hD12 (pr0n7n1, cr0n7n2, pr1n7n3, cr1n7n4, pr2n7n5, cr2n7n6, pr0n15n1, cr0n15n2, pr1n15n3, cr1n15n4, pr2n15n5, cr2n15n6, bn24n1, bn26n1)) (by kernel_rfl) ((.of rfl) : SubM _ _) .rfl .rfl ((.of [0, 1, 2, 3, 4, 5, 6, 7, 8, 9, 10, 11, 12, 13] rfl) : SelR _ _ _)
    refine d_join (X := Option Addr × Nat × Option Addr × Nat × Option Addr × Nat × Option Addr × Nat × Option Addr × Nat × Option Addr × Nat × Nat) (k' := 6) (L' := #[true, true, true, true, true, true, true, true, true, true, true, true, true, true, true, true, true, true, true, true, true, true, true, false, false, true, false, false, false, false]) (fun (pr0n7n1, cr0n7n2, pr1n7n3, cr1n7n4, pr2n7n5, cr2n7n6, pr0n15n1, cr0n15n2, pr1n15n3, cr1n15n4, pr2n15n5, cr2n15n6, bn25n1) => ([(10, .pointer (some ⟨bn25n1, 0, none⟩)), (47, .agg #[.bool (decide ((qbx - 0) < 0)), .slice pr0n15n1 ((Big.digs ((qbx - 0).natAbs)).length) cr0n15n2, .bool (decide ((qby - 0) < 0)), .slice pr1n15n3 ((Big.digs ((qby - 0).natAbs)).length) cr1n15n4, .bool (decide ((qbz - 0) < 0)), .slice pr2n15n5 ((Big.digs ((qbz - 0).natAbs)).length) cr2n15n6]), (39, .agg #[.bool (decide ((qax - 0) < 0)), .slice pr0n7n1 ((Big.digs ((qax - 0).natAbs)).length) cr0n7n2, .bool (decide ((qay - 0) < 0)), .slice pr1n7n3 ((Big.digs ((qay - 0).natAbs)).length) cr1n7n4, .bool (decide ((qaz - 0) < 0)), .slice pr2n7n5 ((Big.digs ((qaz - 0).natAbs)).length) cr2n7n6]), (54, .agg #[.int .i64 qcx, .int .i64 qcy, .int .i64 qcz]), (53, .pointer (some ⟨b19, o20, none⟩)), (52, .int .i64 ((F.getD i (0, 0, 0)).2.2)), (51, .pointer (some ⟨b11, 2, none⟩)), (50, .slice pv nv cv), (49, .pointer (some ⟨b1, 0, none⟩)), (48, .agg #[.int .i64 0, .int .i64 0, .int .i64 0]), (46, .agg #[.int .i64 qbx, .int .i64 qby, .int .i64 qbz]), (45, .pointer (some ⟨b16, o17, none⟩)), (44, .int .i64 ((F.getD i (0, 0, 0)).2.1)), (43, .pointer (some ⟨b11, 1, none⟩)), (42, .slice pv nv cv), (41, .pointer (some ⟨b1, 0, none⟩)), (40, .agg #[.int .i64 0, .int .i64 0, .int .i64 0]), (38, .agg #[.int .i64 qax, .int .i64 qay, .int .i64 qaz]), (37, .pointer (some ⟨b13, o14, none⟩)), (36, .int .i64 ((F.getD i (0, 0, 0)).1)), (35, .pointer (some ⟨b11, 0, none⟩)), (34, .slice pv nv cv), (33, .pointer (some ⟨b1, 0, none⟩)), (32, .agg #[.int .i64 0, .int .i64 0, .int .i64 0]), (8, .pointer (some ⟨b12, 0, none⟩)), (31, .agg #[.int .i64 0, .int .i64 0, .int .i64 0]), (7, .pointer (some ⟨b11, 0, none⟩)), (30, .agg #[.int .i64 ((F.getD i (0, 0, 0)).1), .int .i64 ((F.getD i (0, 0, 0)).2.1), .int .i64 ((F.getD i (0, 0, 0)).2.2)]), (29, .pointer (some ⟨b8, o9, none⟩)), (28, .bool (decide (((i : Nat) : Int) < ((nf : Nat) : Int)))), (27, .int .i64 ((i : Nat) : Int)), (26, .int .i64 ((nf : Nat) : Int)), (25, .slice pf nf cf), (5, .pointer (some ⟨b6, 0, none⟩)), (3, .int .i64 0), (2, .pointer (some ⟨b2, 0, none⟩)), (1, .pointer (some ⟨b1, 0, none⟩))], [boxA bn25n1 89 [.bool false, .slice none 0 0, .bool false, .slice none 0 0, .bool false, .slice none 0 0]], [boxA b12 42 [.int .i64 0, .int .i64 0, .int .i64 0], boxA b11 44 [.int .i64 ((F.getD i (0, 0, 0)).1), .int .i64 ((F.getD i (0, 0, 0)).2.1), .int .i64 ((F.getD i (0, 0, 0)).2.2)], boxA b6 34 [.bool (decide (s < 0)), .slice p ((Big.digs ((s).natAbs)).length) c], mapA b23 (fun z : Int => .int .i64 z) (fun z : Int => .int .i64 z) (InK .i64) bm1, boxA b2 34 [.bool false, .slice none 0 0], boxA b1 25 [.slice pv nv cv, .slice pf nf cf]], [slF (rI .u32) pr0n15n1 cr0n15n2 (Big.digs ((qbx - 0).natAbs)), slF (rI .u32) pr1n15n3 cr1n15n4 (Big.digs ((qby - 0).natAbs)), slF (rI .u32) pr2n15n5 cr2n15n6 (Big.digs ((qbz - 0).natAbs)), slF (rI .u32) pr0n7n1 cr0n7n2 (Big.digs ((qax - 0).natAbs)), slF (rI .u32) pr1n7n3 cr1n7n4 (Big.digs ((qay - 0).natAbs)), slF (rI .u32) pr2n7n5 cr2n7n6 (Big.digs ((qaz - 0).natAbs)), atF b19 o20 [.int .i64 qcx, .int .i64 qcy, .int .i64 qcz], atF b16 o17 [.int .i64 qbx, .int .i64 qby, .int .i64 qbz], atF b13 o14 [.int .i64 qax, .int .i64 qay, .int .i64 qaz], atF b8 o9 [.int .i64 ((F.getD i (0, 0, 0)).1), .int .i64 ((F.getD i (0, 0, 0)).2.1), .int .i64 ((F.getD i (0, 0, 0)).2.2)], slF (rI .u32) p c (Big.digs ((s).natAbs)), slF (rI .u32) p24 c25 (Big.digs ((0 : Int).natAbs)), slF (rI3 .i64) pv cv V, slF (rI3 .i64) pf cf F])) ?_ (fun hD17 => ?_)
    ·
     rintro ⟨pr0n7n1, cr0n7n2, pr1n7n3, cr1n7n4, pr2n7n5, cr2n7n6, pr0n15n1, cr0n15n2, pr1n15n3, cr1n15n4, pr2n15n5, cr2n15n6, bn25n1⟩
     dsimp only
     refine d_three 23 24 26 (by kernel_rfl) ?_ ?_ ?_
     ·
      refine o_callf rfl rfl rfl rfl (.c rfl (.c rfl .n)) ce58 (con_from (ex := 0) (ey := 0) (ez := 0) (fx := qcx) (fy := qcy) (fz := qcz) (hbex := by omega) (hbey := by omega) (hbez := by omega) (hbfx := by omega) (hbfy := by omega) (hbfz := by omega)) (.n) ?_
      rintro ⟨pr0n23n1, cr0n23n2, pr1n23n3, cr1n23n4, pr2n23n5, cr2n23n6⟩ -
      dsimp only [List.append_eq, List.nil_append, List.cons_append]
      exact d_weakT (hD9 (pr0n7n1, cr0n7n2, pr1n7n3, cr1n7n4, pr2n7n5, cr2n7n6, pr0n15n1, cr0n15n2, pr1n15n3, cr1n15n4, pr2n15n5, cr2n15n6, pr0n23n1, cr0n23n2, pr1n23n3, cr1n23n4, pr2n23n5, cr2n23n6, bn25n1)) (by kernel_rfl) ((.of rfl) : SubM _ _) .rfl .rfl ((.of [0, 1, 2, 3, 4, 5, 6, 7, 8, 9, 10, 11, 12, 13, 14, 15, 16] rfl) : SelR _ _ _)
     ·
      refine o_ef0W rfl rfl rfl rfl (ef_alloc zr89 rfl) (fun bn24n1 _ => ?_)
      exact d_weakT (hD11 (pr0n7n1, cr0n7n2, pr1n7n3, cr1n7n4, pr2n7n5, cr2n7n6, pr0n15n1, cr0n15n2, pr1n15n3, cr1n15n4, pr2n15n5, cr2n15n6, bn24n1, bn25n1)) (by kernel_rfl) ((.of rfl) : SubM _ _) (perm_c 1 rfl (perm_c 0 rfl .nil)) .rfl ((.of [0, 1, 2, 3, 4, 5, 6, 7, 8, 9, 10, 11, 12, 13] rfl) : SelR _ _ _)
     ·
      refine o_ef0W rfl rfl rfl rfl (ef_alloc zr89 rfl) (fun bn26n1 _ => ?_)
      exact d_weakT (hD13 (pr0n7n1, cr0n7n2, pr1n7n3, cr1n7n4, pr2n7n5, cr2n7n6, pr0n15n1, cr0n15n2, pr1n15n3, cr1n15n4, pr2n15n5, cr2n15n6, bn25n1, bn26n1)) (by kernel_rfl) ((.of rfl) : SubM _ _) .rfl .rfl ((.of [0, 1, 2, 3, 4, 5, 6, 7, 8, 9, 10, 11, 12, 13] rfl) : SelR _ _ _)
    refine d_join (X := Option Addr × Nat × Option Addr × Nat × Option Addr × Nat × Option Addr × Nat × Option Addr × Nat × Option Addr × Nat × Nat) (k' := 6) (L' := #[true, true, true, true, true, true, true, true, true, true, true, true, true, true, true, true, true, true, true, true, true, true, true, false, false, false, true, false, false, false]) (fun (pr0n7n1, cr0n7n2, pr1n7n3, cr1n7n4, pr2n7n5, cr2n7n6, pr0n15n1, cr0n15n2, pr1n15n3, cr1n15n4, pr2n15n5, cr2n15n6, bn26n1) => ([(11, .pointer (some ⟨bn26n1, 0, none⟩)), (47, .agg #[.bool (decide ((qbx - 0) < 0)), .slice pr0n15n1 ((Big.digs ((qbx - 0).natAbs)).length) cr0n15n2, .bool (decide ((qby - 0) < 0)), .slice pr1n15n3 ((Big.digs ((qby - 0).natAbs)).length) cr1n15n4, .bool (decide ((qbz - 0) < 0)), .slice pr2n15n5 ((Big.digs ((qbz - 0).natAbs)).length) cr2n15n6]), (39, .agg #[.bool (decide ((qax - 0) < 0)), .slice pr0n7n1 ((Big.digs ((qax - 0).natAbs)).length) cr0n7n2, .bool (decide ((qay - 0) < 0)), .slice pr1n7n3 ((Big.digs ((qay - 0).natAbs)).length) cr1n7n4, .bool (decide ((qaz - 0) < 0)), .slice pr2n7n5 ((Big.digs ((qaz - 0).natAbs)).length) cr2n7n6]), (54, .agg #[.int .i64 qcx, .int .i64 qcy, .int .i64 qcz]), (53, .pointer (some ⟨b19, o20, none⟩)), (52, .int .i64 ((F.getD i (0, 0, 0)).2.2)), (51, .pointer (some ⟨b11, 2, none⟩)), (50, .slice pv nv cv), (49, .pointer (some ⟨b1, 0, none⟩)), (48, .agg #[.int .i64 0, .int .i64 0, .int .i64 0]), (46, .agg #[.int .i64 qbx, .int .i64 qby, .int .i64 qbz]), (45, .pointer (some ⟨b16, o17, none⟩)), (44, .int .i64 ((F.getD i (0, 0, 0)).2.1)), (43, .pointer (some ⟨b11, 1, none⟩)), (42, .slice pv nv cv), (41, .pointer (some ⟨b1, 0, none⟩)), (40, .agg #[.int .i64 0, .int .i64 0, .int .i64 0]), (38, .agg #[.int .i64 qax, .int .i64 qay, .int .i64 qaz]), (37, .pointer (some ⟨b13, o14, none⟩)), (36, .int .i64 ((F.getD i (0, 0, 0)).1)), (35, .pointer (some ⟨b11, 0, none⟩)), (34, .slice pv nv cv), (33, .pointer (some ⟨b1, 0, none⟩)), (32, .agg #[.int .i64 0, .int .i64 0, .int .i64 0]), (8, .pointer (some ⟨b12, 0, none⟩)), (31, .agg #[.int .i64 0, .int .i64 0, .int .i64 0]), (7, .pointer (some ⟨b11, 0, none⟩)), (30, .agg #[.int .i64 ((F.getD i (0, 0, 0)).1), .int .i64 ((F.getD i (0, 0, 0)).2.1), .int .i64 ((F.getD i (0, 0, 0)).2.2)]), (29, .pointer (some ⟨b8, o9, none⟩)), (28, .bool (decide (((i : Nat) : Int) < ((nf : Nat) : Int)))), (27, .int .i64 ((i : Nat) : Int)), (26, .int .i64 ((nf : Nat) : Int)), (25, .slice pf nf cf), (5, .pointer (some ⟨b6, 0, none⟩)), (3, .int .i64 0), (2, .pointer (some ⟨b2, 0, none⟩)), (1, .pointer (some ⟨b1, 0, none⟩))], [boxA bn26n1 89 [.bool false, .slice none 0 0, .bool false, .slice none 0 0, .bool false, .slice none 0 0]], [boxA b12 42 [.int .i64 0, .int .i64 0, .int .i64 0], boxA b11 44 [.int .i64 ((F.getD i (0, 0, 0)).1), .int .i64 ((F.getD i (0, 0, 0)).2.1), .int .i64 ((F.getD i (0, 0, 0)).2.2)], boxA b6 34 [.bool (decide (s < 0)), .slice p ((Big.digs ((s).natAbs)).length) c], mapA b23 (fun z : Int => .int .i64 z) (fun z : Int => .int .i64 z) (InK .i64) bm1, boxA b2 34 [.bool false, .slice none 0 0], boxA b1 25 [.slice pv nv cv, .slice pf nf cf]], [slF (rI .u32) pr0n15n1 cr0n15n2 (Big.digs ((qbx - 0).natAbs)), slF (rI .u32) pr1n15n3 cr1n15n4 (Big.digs ((qby - 0).natAbs)), slF (rI .u32) pr2n15n5 cr2n15n6 (Big.digs ((qbz - 0).natAbs)), slF (rI .u32) pr0n7n1 cr0n7n2 (Big.digs ((qax - 0).natAbs)), slF (rI .u32) pr1n7n3 cr1n7n4 (Big.digs ((qay - 0).natAbs)), slF (rI .u32) pr2n7n5 cr2n7n6 (Big.digs ((qaz - 0).natAbs)), atF b19 o20 [.int .i64 qcx, .int .i64 qcy, .int .i64 qcz], atF b16 o17 [.int .i64 qbx, .int .i64 qby, .int .i64 qbz], atF b13 o14 [.int .i64 qax, .int .i64 qay, .int .i64 qaz], atF b8 o9 [.int .i64 ((F.getD i (0, 0, 0)).1), .int .i64 ((F.getD i (0, 0, 0)).2.1), .int .i64 ((F.getD i (0, 0, 0)).2.2)], slF (rI .u32) p c (Big.digs ((s).natAbs)), slF (rI .u32) p24 c25 (Big.digs ((0 : Int).natAbs)), slF (rI3 .i64) pv cv V, slF (rI3 .i64) pf cf F])) ?_ (fun hD18 => ?_)
    ·
     rintro ⟨pr0n7n1, cr0n7n2, pr1n7n3, cr1n7n4, pr2n7n5, cr2n7n6, pr0n15n1, cr0n15n2, pr1n15n3, cr1n15n4, pr2n15n5, cr2n15n6, bn26n1⟩
     dsimp only
     refine d_three 23 24 25 (by kernel_rfl) ?_ ?_ ?_
     ·
      refine o_callf rfl rfl rfl rfl (.c rfl (.c rfl .n)) ce58 (con_from (ex := 0) (ey := 0) (ez := 0) (fx := qcx) (fy := qcy) (fz := qcz) (hbex := by omega) (hbey := by omega) (hbez := by omega) (hbfx := by omega) (hbfy := by omega) (hbfz := by omega)) (.n) ?_
      rintro ⟨pr0n23n1, cr0n23n2, pr1n23n3, cr1n23n4, pr2n23n5, cr2n23n6⟩ -
      dsimp only [List.append_eq, List.nil_append, List.cons_append]
      exact d_weakT (hD10 (pr0n7n1, cr0n7n2, pr1n7n3, cr1n7n4, pr2n7n5, cr2n7n6, pr0n15n1, cr0n15n2, pr1n15n3, cr1n15n4, pr2n15n5, cr2n15n6, pr0n23n1, cr0n23n2, pr1n23n3, cr1n23n4, pr2n23n5, cr2n23n6, bn26n1)) (by kernel_rfl) ((.of rfl) : SubM _ _) .rfl .rfl ((.of [0, 1, 2, 3, 4, 5, 6, 7, 8, 9, 10, 11, 12, 13, 14, 15, 16] rfl) : SelR _ _ _)
     ·
      refine o_ef0W rfl rfl rfl rfl (ef_alloc zr89 rfl) (fun bn24n1 _ => ?_)
      exact d_weakT (hD12 (pr0n7n1, cr0n7n2, pr1n7n3, cr1n7n4, pr2n7n5, cr2n7n6, pr0n15n1, cr0n15n2, pr1n15n3, cr1n15n4, pr2n15n5, cr2n15n6, bn24n1, bn26n1)) (by kernel_rfl) ((.of rfl) : SubM _ _) (perm_c 1 rfl (perm_c 0 rfl .nil)) .rfl ((.of [0, 1, 2, 3, 4, 5, 6, 7, 8, 9, 10, 11, 12, 13] rfl) : SelR _ _ _)
     ·
      refine o_ef0W rfl rfl rfl rfl (ef_alloc zr89 rfl) (fun bn25n1 _ => ?_)
      exact d_weakT (hD13 (pr0n7n1, cr0n7n2, pr1n7n3, cr1n7n4, pr2n7n5, cr2n7n6, pr0n15n1, cr0n15n2, pr1n15n3, cr1n15n4, pr2n15n5, cr2n15n6, bn25n1, bn26n1)) (by kernel_rfl) ((.of rfl) : SubM _ _) (perm_c 1 rfl (perm_c 0 rfl .nil)) .rfl ((.of [0, 1, 2, 3, 4, 5, 6, 7, 8, 9, 10, 11, 12, 13] rfl) : SelR _ _ _)
    refine d_join (X := Option Addr × Nat × Option Addr × Nat × Option Addr × Nat × Nat × Nat) (k' := 6) (L' := #[true, true, true, true, true, true, true, true, true, true, true, true, true, true, true, false, true, true, true, true, true, true, true, false, true, true, false, false, false, false]) (fun (pr0n7n1, cr0n7n2, pr1n7n3, cr1n7n4, pr2n7n5, cr2n7n6, bn24n1, bn25n1) => ([(10, .pointer (some ⟨bn25n1, 0, none⟩)), (9, .pointer (some ⟨bn24n1, 0, none⟩)), (39, .agg #[.bool (decide ((qax - 0) < 0)), .slice pr0n7n1 ((Big.digs ((qax - 0).natAbs)).length) cr0n7n2, .bool (decide ((qay - 0) < 0)), .slice pr1n7n3 ((Big.digs ((qay - 0).natAbs)).length) cr1n7n4, .bool (decide ((qaz - 0) < 0)), .slice pr2n7n5 ((Big.digs ((qaz - 0).natAbs)).length) cr2n7n6]), (54, .agg #[.int .i64 qcx, .int .i64 qcy, .int .i64 qcz]), (53, .pointer (some ⟨b19, o20, none⟩)), (52, .int .i64 ((F.getD i (0, 0, 0)).2.2)), (51, .pointer (some ⟨b11, 2, none⟩)), (50, .slice pv nv cv), (49, .pointer (some ⟨b1, 0, none⟩)), (48, .agg #[.int .i64 0, .int .i64 0, .int .i64 0]), (46, .agg #[.int .i64 qbx, .int .i64 qby, .int .i64 qbz]), (45, .pointer (some ⟨b16, o17, none⟩)), (44, .int .i64 ((F.getD i (0, 0, 0)).2.1)), (43, .pointer (some ⟨b11, 1, none⟩)), (42, .slice pv nv cv), (41, .pointer (some ⟨b1, 0, none⟩)), (40, .agg #[.int .i64 0, .int .i64 0, .int .i64 0]), (38, .agg #[.int .i64 qax, .int .i64 qay, .int .i64 qaz]), (37, .pointer (some ⟨b13, o14, none⟩)), (36, .int .i64 ((F.getD i (0, 0, 0)).1)), (35, .pointer (some ⟨b11, 0, none⟩)), (34, .slice pv nv cv), (33, .pointer (some ⟨b1, 0, none⟩)), (32, .agg #[.int .i64 0, .int .i64 0, .int .i64 0]), (8, .pointer (some ⟨b12, 0, none⟩)), (31, .agg #[.int .i64 0, .int .i64 0, .int .i64 0]), (7, .pointer (some ⟨b11, 0, none⟩)), (30, .agg #[.int .i64 ((F.getD i (0, 0, 0)).1), .int .i64 ((F.getD i (0, 0, 0)).2.1), .int .i64 ((F.getD i (0, 0, 0)).2.2)]), (29, .pointer (some ⟨b8, o9, none⟩)), (28, .bool (decide (((i : Nat) : Int) < ((nf : Nat) : Int)))), (27, .int .i64 ((i : Nat) : Int)), (26, .int .i64 ((nf : Nat) : Int)), (25, .slice pf nf cf), (5, .pointer (some ⟨b6, 0, none⟩)), (3, .int .i64 0), (2, .pointer (some ⟨b2, 0, none⟩)), (1, .pointer (some ⟨b1, 0, none⟩))], [boxA bn25n1 89 [.bool false, .slice none 0 0, .bool false, .slice none 0 0, .bool false, .slice none 0 0], boxA bn24n1 89 [.bool false, .slice none 0 0, .bool false, .slice none 0 0, .bool false, .slice none 0 0]], [boxA b12 42 [.int .i64 0, .int .i64 0, .int .i64 0], boxA b11 44 [.int .i64 ((F.getD i (0, 0, 0)).1), .int .i64 ((F.getD i (0, 0, 0)).2.1), .int .i64 ((F.getD i (0, 0, 0)).2.2)], boxA b6 34 [.bool (decide (s < 0)), .slice p ((Big.digs ((s).natAbs)).length) c], mapA b23 (fun z : Int => .int .i64 z) (fun z : Int => .int .i64 z) (InK .i64) bm1, boxA b2 34 [.bool false, .slice none 0 0], boxA b1 25 [.slice pv nv cv, .slice pf nf cf]], [slF (rI .u32) pr0n7n1 cr0n7n2 (Big.digs ((qax - 0).natAbs)), slF (rI .u32) pr1n7n3 cr1n7n4 (Big.digs ((qay - 0).natAbs)), slF (rI .u32) pr2n7n5 cr2n7n6 (Big.digs ((qaz - 0).natAbs)), atF b19 o20 [.int .i64 qcx, .int .i64 qcy, .int .i64 qcz], atF b16 o17 [.int .i64 qbx, .int .i64 qby, .int .i64 qbz], atF b13 o14 [.int .i64 qax, .int .i64 qay, .int .i64 qaz], atF b8 o9 [.int .i64 ((F.getD i (0, 0, 0)).1), .int .i64 ((F.getD i (0, 0, 0)).2.1), .int .i64 ((F.getD i (0, 0, 0)).2.2)], slF (rI .u32) p c (Big.digs ((s).natAbs)), slF (rI .u32) p24 c25 (Big.digs ((0 : Int).natAbs)), slF (rI3 .i64) pv cv V, slF (rI3 .i64) pf cf F])) ?_ (fun hD19 => ?_)
    ·
     rintro ⟨pr0n7n1, cr0n7n2, pr1n7n3, cr1n7n4, pr2n7n5, cr2n7n6, bn24n1, bn25n1⟩
     dsimp only
     refine d_two 15 26 (by kernel_rfl) ?_ ?_
     ·
      refine o_callf rfl rfl rfl rfl (.c rfl (.c rfl .n)) ce58 (con_from (ex := 0) (ey := 0) (ez := 0) (fx := qbx) (fy := qby) (fz := qbz) (hbex := by omega) (hbey := by omega) (hbez := by omega) (hbfx := by omega) (hbfy := by omega) (hbfz := by omega)) (.n) ?_
      rintro ⟨pr0n15n1, cr0n15n2, pr1n15n3, cr1n15n4, pr2n15n5, cr2n15n6⟩ -
      dsimp only [List.append_eq, List.nil_append, List.cons_append]
      exact d_weakT (hD11 (pr0n7n1, cr0n7n2, pr1n7n3, cr1n7n4, pr2n7n5, cr2n7n6, pr0n15n1, cr0n15n2, pr1n15n3, cr1n15n4, pr2n15n5, cr2n15n6, bn24n1, bn25n1)) (by kernel_rfl) ((.of rfl) : SubM _ _) .rfl .rfl ((.of [0, 1, 2, 3, 4, 5, 6, 7, 8, 9, 10, 11, 12, 13] rfl) : SelR _ _ _)
     ·
      refine o_ef0W rfl rfl rfl rfl (ef_alloc zr89 rfl) (fun bn26n1 _ => ?_)
      exact d_weakT (hD14 (pr0n7n1, cr0n7n2, pr1n7n3, cr1n7n4, pr2n7n5, cr2n7n6, bn24n1, bn25n1, bn26n1)) (by kernel_rfl) ((.of rfl) : SubM _ _) .rfl .rfl ((.of [0, 1, 2, 3, 4, 5, 6, 7, 8, 9, 10] rfl) : SelR _ _ _)
    refine d_join (X := Option Addr × Nat × Option Addr × Nat × Option Addr × Nat × Nat × Nat) (k' := 6) (L' := #[true, true, true, true, true, true, true, true, true, true, true, true, true, true, true, false, true, true, true, true, true, true, true, false, true, false, true, false, false, false]) (fun (pr0n7n1, cr0n7n2, pr1n7n3, cr1n7n4, pr2n7n5, cr2n7n6, bn24n1, bn26n1) => ([(11, .pointer (some ⟨bn26n1, 0, none⟩)), (9, .pointer (some ⟨bn24n1, 0, none⟩)), (39, .agg #[.bool (decide ((qax - 0) < 0)), .slice pr0n7n1 ((Big.digs ((qax - 0).natAbs)).length) cr0n7n2, .bool (decide ((qay - 0) < 0)), .slice pr1n7n3 ((Big.digs ((qay - 0).natAbs)).length) cr1n7n4, .bool (decide ((qaz - 0) < 0)), .slice pr2n7n5 ((Big.digs ((qaz - 0).natAbs)).length) cr2n7n6]), (54, .agg #[.int .i64 qcx, .int .i64 qcy, .int .i64 qcz]), (53, .pointer (some ⟨b19, o20, none⟩)), (52, .int .i64 ((F.getD i (0, 0, 0)).2.2)), (51, .pointer (some ⟨b11, 2, none⟩)), (50, .slice pv nv cv), (49, .pointer (some ⟨b1, 0, none⟩)), (48, .agg #[.int .i64 0, .int .i64 0, .int .i64 0]), (46, .agg #[.int .i64 qbx, .int .i64 qby, .int .i64 qbz]), (45, .pointer (some ⟨b16, o17, none⟩)), (44, .int .i64 ((F.getD i (0, 0, 0)).2.1)), (43, .pointer (some ⟨b11, 1, none⟩)), (42, .slice pv nv cv), (41, .pointer (some ⟨b1, 0, none⟩)), (40, .agg #[.int .i64 0, .int .i64 0, .int .i64 0]), (38, .agg #[.int .i64 qax, .int .i64 qay, .int .i64 qaz]), (37, .pointer (some ⟨b13, o14, none⟩)), (36, .int .i64 ((F.getD i (0, 0, 0)).1)), (35, .pointer (some ⟨b11, 0, none⟩)), (34, .slice pv nv cv), (33, .pointer (some ⟨b1, 0, none⟩)), (32, .agg #[.int .i64 0, .int .i64 0, .int .i64 0]), (8, .pointer (some ⟨b12, 0, none⟩)), (31, .agg #[.int .i64 0, .int .i64 0, .int .i64 0]), (7, .pointer (some ⟨b11, 0, none⟩)), (30, .agg #[.int .i64 ((F.getD i (0, 0, 0)).1), .int .i64 ((F.getD i (0, 0, 0)).2.1), .int .i64 ((F.getD i (0, 0, 0)).2.2)]), (29, .pointer (some ⟨b8, o9, none⟩)), (28, .bool (decide (((i : Nat) : Int) < ((nf : Nat) : Int)))), (27, .int .i64 ((i : Nat) : Int)), (26, .int .i64 ((nf : Nat) : Int)), (25, .slice pf nf cf), (5, .pointer (some ⟨b6, 0, none⟩)), (3, .int .i64 0), (2, .pointer (some ⟨b2, 0, none⟩)), (1, .pointer (some ⟨b1, 0, none⟩))], [boxA bn26n1 89 [.bool false, .slice none 0 0, .bool false, .slice none 0 0, .bool false, .slice none 0 0], boxA bn24n1 89 [.bool false, .slice none 0 0, .bool false, .slice none 0 0, .bool false, .slice none 0 0]], [boxA b12 42 [.int .i64 0, .int .i64 0, .int .i64 0], boxA b11 44 [.int .i64 ((F.getD i (0, 0, 0)).1), .int .i64 ((F.getD i (0, 0, 0)).2.1), .int .i64 ((F.getD i (0, 0, 0)).2.2)], boxA b6 34 [.bool (decide (s < 0)), .slice p ((Big.digs ((s).natAbs)).length) c], mapA b23 (fun z : Int => .int .i64 z) (fun z : Int => .int .i64 z) (InK .i64) bm1, boxA b2 34 [.bool false, .slice none 0 0], boxA b1 25 [.slice pv nv cv, .slice pf nf cf]], [slF (rI .u32) pr0n7n1 cr0n7n2 (Big.digs ((qax - 0).natAbs)), slF (rI .u32) pr1n7n3 cr1n7n4 (Big.digs ((qay - 0).natAbs)), slF (rI .u32) pr2n7n5 cr2n7n6 (Big.digs ((qaz - 0).natAbs)), atF b19 o20 [.int .i64 qcx, .int .i64 qcy, .int .i64 qcz], atF b16 o17 [.int .i64 qbx, .int .i64 qby, .int .i64 qbz], atF b13 o14 [.int .i64 qax, .int .i64 qay, .int .i64 qaz], atF b8 o9 [.int .i64 ((F.getD i (0, 0, 0)).1), .int .i64 ((F.getD i (0, 0, 0)).2.1), .int .i64 ((F.getD i (0, 0, 0)).2.2)], slF (rI .u32) p c (Big.digs ((s).natAbs)), slF (rI .u32) p24 c25 (Big.digs ((0 : Int).natAbs)), slF (rI3 .i64) pv cv V, slF (rI3 .i64) pf cf F])) ?_ (fun hD20 => ?_)
    ·
     rintro ⟨pr0n7n1, cr0n7n2, pr1n7n3, cr1n7n4, pr2n7n5, cr2n7n6, bn24n1, bn26n1⟩
     dsimp only
     refine d_two 15 25 (by kernel_rfl) ?_ ?_
     ·
      refine o_callf rfl rfl rfl rfl (.c rfl (.c rfl .n)) ce58 (con_from (ex := 0) (ey := 0) (ez := 0) (fx := qbx) (fy := qby) (fz := qbz) (hbex := by omega) (hbey := by omega) (hbez := by omega) (hbfx := by omega) (hbfy := by omega) (hbfz := by omega)) (.n) ?_
      rintro ⟨pr0n15n1, cr0n15n2, pr1n15n3, cr1n15n4, pr2n15n5, cr2n15n6⟩ -
      dsimp only [List.append_eq, List.nil_append, List.cons_append]
      exact d_weakT (hD12 (pr0n7n1, cr0n7n2, pr1n7n3, cr1n7n4, pr2n7n5, cr2n7n6, pr0n15n1, cr0n15n2, pr1n15n3, cr1n15n4, pr2n15n5, cr2n15n6, bn24n1, bn26n1)) (by kernel_rfl) ((.of rfl) : SubM _ _) .rfl .rfl ((.of [0, 1, 2, 3, 4, 5, 6, 7, 8, 9, 10, 11, 12, 13] rfl) : SelR _ _ _)
     ·
      refine o_ef0W rfl rfl rfl rfl (ef_alloc zr89 rfl) (fun bn25n1 _ => ?_)
      exact d_weakT (hD14 (pr0n7n1, cr0n7n2, pr1n7n3, cr1n7n4, pr2n7n5, cr2n7n6, bn24n1, bn25n1, bn26n1)) (by kernel_rfl) ((.of rfl) : SubM _ _) (perm_c 1 rfl (perm_c 0 rfl (perm_c 0 rfl .nil))) .rfl ((.of [0, 1, 2, 3, 4, 5, 6, 7, 8, 9, 10] rfl) : SelR _ _ _)
    refine d_join (X := Option Addr × Nat × Option Addr × Nat × Option Addr × Nat × Nat × Nat) (k' := 6) (L' := #[true, true, true, true, true, true, true, true, true, true, true, true, true, true, true, false, true, true, true, true, true, true, true, false, false, true, true, false, false, false]) (fun (pr0n7n1, cr0n7n2, pr1n7n3, cr1n7n4, pr2n7n5, cr2n7n6, bn25n1, bn26n1) => ([(11, .pointer (some ⟨bn26n1, 0, none⟩)), (10, .pointer (some ⟨bn25n1, 0, none⟩)), (39, .agg #[.bool (decide ((qax - 0) < 0)), .slice pr0n7n1 ((Big.digs ((qax - 0).natAbs)).length) cr0n7n2, .bool (decide ((qay - 0) < 0)), .slice pr1n7n3 ((Big.digs ((qay - 0).natAbs)).length) cr1n7n4, .bool (decide ((qaz - 0) < 0)), .slice pr2n7n5 ((Big.digs ((qaz - 0).natAbs)).length) cr2n7n6]), (54, .agg #[.int .i64 qcx, .int .i64 qcy, .int .i64 qcz]), (53, .pointer (some ⟨b19, o20, none⟩)), (52, .int .i64 ((F.getD i (0, 0, 0)).2.2)), (51, .pointer (some ⟨b11, 2, none⟩)), (50, .slice pv nv cv), (49, .pointer (some ⟨b1, 0, none⟩)), (48, .agg #[.int .i64 0, .int .i64 0, .int .i64 0]), (46, .agg #[.int .i64 qbx, .int .i64 qby, .int .i64 qbz]), (45, .pointer (some ⟨b16, o17, none⟩)), (44, .int .i64 ((F.getD i (0, 0, 0)).2.1)), (43, .pointer (some ⟨b11, 1, none⟩)), (42, .slice pv nv cv), (41, .pointer (some ⟨b1, 0, none⟩)), (40, .agg #[.int .i64 0, .int .i64 0, .int .i64 0]), (38, .agg #[.int .i64 qax, .int .i64 qay, .int .i64 qaz]), (37, .pointer (some ⟨b13, o14, none⟩)), (36, .int .i64 ((F.getD i (0, 0, 0)).1)), (35, .pointer (some ⟨b11, 0, none⟩)), (34, .slice pv nv cv), (33, .pointer (some ⟨b1, 0, none⟩)), (32, .agg #[.int .i64 0, .int .i64 0, .int .i64 0]), (8, .pointer (some ⟨b12, 0, none⟩)), (31, .agg #[.int .i64 0, .int .i64 0, .int .i64 0]), (7, .pointer (some ⟨b11, 0, none⟩)), (30, .agg #[.int .i64 ((F.getD i (0, 0, 0)).1), .int .i64 ((F.getD i (0, 0, 0)).2.1), .int .i64 ((F.getD i (0, 0, 0)).2.2)]), (29, .pointer (some ⟨b8, o9, none⟩)), (28, .bool (decide (((i : Nat) : Int) < ((nf : Nat) : Int)))), (27, .int .i64 ((i : Nat) : Int)), (26, .int .i64 ((nf : Nat) : Int)), (25, .slice pf nf cf), (5, .pointer (some ⟨b6, 0, none⟩)), (3, .int .i64 0), (2, .pointer (some ⟨b2, 0, none⟩)), (1, .pointer (some ⟨b1, 0, none⟩))], [boxA bn26n1 89 [.bool false, .slice none 0 0, .bool false, .slice none 0 0, .bool false, .slice none 0 0], boxA bn25n1 89 [.bool false, .slice none 0 0, .bool false, .slice none 0 0, .bool false, .slice none 0 0]], [boxA b12 42 [.int .i64 0, .int .i64 0, .int .i64 0], boxA b11 44 [.int .i64 ((F.getD i (0, 0, 0)).1), .int .i64 ((F.getD i (0, 0, 0)).2.1), .int .i64 ((F.getD i (0, 0, 0)).2.2)], boxA b6 34 [.bool (decide (s < 0)), .slice p ((Big.digs ((s).natAbs)).length) c], mapA b23 (fun z : Int => .int .i64 z) (fun z : Int => .int .i64 z) (InK .i64) bm1, boxA b2 34 [.bool false, .slice none 0 0], boxA b1 25 [.slice pv nv cv, .slice pf nf cf]], [slF (rI .u32) pr0n7n1 cr0n7n2 (Big.digs ((qax - 0).natAbs)), slF (rI .u32) pr1n7n3 cr1n7n4 (Big.digs ((qay - 0).natAbs)), slF (rI .u32) pr2n7n5 cr2n7n6 (Big.digs ((qaz - 0).natAbs)), atF b19 o20 [.int .i64 qcx, .int .i64 qcy, .int .i64 qcz], atF b16 o17 [.int .i64 qbx, .int .i64 qby, .int .i64 qbz], atF b13 o14 [.int .i64 qax, .int .i64 qay, .int .i64 qaz], atF b8 o9 [.int .i64 ((F.getD i (0, 0, 0)).1), .int .i64 ((F.getD i (0, 0, 0)).2.1), .int .i64 ((F.getD i (0, 0, 0)).2.2)], slF (rI .u32) p c (Big.digs ((s).natAbs)), slF (rI .u32) p24 c25 (Big.digs ((0 : Int).natAbs)), slF (rI3 .i64) pv cv V, slF (rI3 .i64) pf cf F])) ?_ (fun hD21 => ?_)
    ·
     rintro ⟨pr0n7n1, cr0n7n2, pr1n7n3, cr1n7n4, pr2n7n5, cr2n7n6, bn25n1, bn26n1⟩
     dsimp only
     refine d_two 15 24 (by kernel_rfl) ?_ ?_
     ·
      refine o_callf rfl rfl rfl rfl (.c rfl (.c rfl .n)) ce58 (con_from (ex := 0) (ey := 0) (ez := 0) (fx := qbx) (fy := qby) (fz := qbz) (hbex := by omega) (hbey := by omega) (hbez := by omega) (hbfx := by omega) (hbfy := by omega) (hbfz := by omega)) (.n) ?_
      rintro ⟨pr0n15n1, cr0n15n2, pr1n15n3, cr1n15n4, pr2n15n5, cr2n15n6⟩ -
      dsimp only [List.append_eq, List.nil_append, List.cons_append]
      exact d_weakT (hD13 (pr0n7n1, cr0n7n2, pr1n7n3, cr1n7n4, pr2n7n5, cr2n7n6, pr0n15n1, cr0n15n2, pr1n15n3, cr1n15n4, pr2n15n5, cr2n15n6, bn25n1, bn26n1)) (by kernel_rfl) ((.of rfl) : SubM _ _) .rfl .rfl ((.of [0, 1, 2, 3, 4, 5, 6, 7, 8, 9, 10, 11, 12, 13] rfl) : SelR _ _ _)
     ·
      refine o_ef0W rfl rfl rfl rfl (ef_alloc zr89 rfl) (fun bn24n1 _ => ?_)
      exact d_weakT (hD14 (pr0n7n1, cr0n7n2, pr1n7n3, cr1n7n4, pr2n7n5, cr2n7n6, bn24n1, bn25n1, bn26n1)) (by kernel_rfl) ((.of rfl) : SubM _ _) (perm_c 1 rfl (perm_c 1 rfl (perm_c 0 rfl .nil))) .rfl ((.of [0, 1, 2, 3, 4, 5, 6, 7, 8, 9, 10] rfl) : SelR _ _ _)
    refine d_join (X := Nat × Nat × Nat) (k' := 6) (L' := #[true, true, true, true, true, true, true, false, true, true, true, true, true, true, true, false, true, true, true, true, true, true, true, false, true, true, true, false, false, false]) (fun (bn24n1, bn25n1, bn26n1) => ([(11, .pointer (some ⟨bn26n1, 0, none⟩)), (10, .pointer (some ⟨bn25n1, 0, none⟩)), (9, .pointer (some ⟨bn24n1, 0, none⟩)), (54, .agg #[.int .i64 qcx, .int .i64 qcy, .int .i64 qcz]), (53, .pointer (some ⟨b19, o20, none⟩)), (52, .int .i64 ((F.getD i (0, 0, 0)).2.2)), (51, .pointer (some ⟨b11, 2, none⟩)), (50, .slice pv nv cv), (49, .pointer (some ⟨b1, 0, none⟩)), (48, .agg #[.int .i64 0, .int .i64 0, .int .i64 0]), (46, .agg #[.int .i64 qbx, .int .i64 qby, .int .i64 qbz]), (45, .pointer (some ⟨b16, o17, none⟩)), (44, .int .i64 ((F.getD i (0, 0, 0)).2.1)), (43, .pointer (some ⟨b11, 1, none⟩)), (42, .slice pv nv cv), (41, .pointer (some ⟨b1, 0, none⟩)), (40, .agg #[.int .i64 0, .int .i64 0, .int .i64 0]), (38, .agg #[.int .i64 qax, .int .i64 qay, .int .i64 qaz]), (37, .pointer (some ⟨b13, o14, none⟩)), (36, .int .i64 ((F.getD i (0, 0, 0)).1)), (35, .pointer (some ⟨b11, 0, none⟩)), (34, .slice pv nv cv), (33, .pointer (some ⟨b1, 0, none⟩)), (32, .agg #[.int .i64 0, .int .i64 0, .int .i64 0]), (8, .pointer (some ⟨b12, 0, none⟩)), (31, .agg #[.int .i64 0, .int .i64 0, .int .i64 0]), (7, .pointer (some ⟨b11, 0, none⟩)), (30, .agg #[.int .i64 ((F.getD i (0, 0, 0)).1), .int .i64 ((F.getD i (0, 0, 0)).2.1), .int .i64 ((F.getD i (0, 0, 0)).2.2)]), (29, .pointer (some ⟨b8, o9, none⟩)), (28, .bool (decide (((i : Nat) : Int) < ((nf : Nat) : Int)))), (27, .int .i64 ((i : Nat) : Int)), (26, .int .i64 ((nf : Nat) : Int)), (25, .slice pf nf cf), (5, .pointer (some ⟨b6, 0, none⟩)), (3, .int .i64 0), (2, .pointer (some ⟨b2, 0, none⟩)), (1, .pointer (some ⟨b1, 0, none⟩))], [boxA bn26n1 89 [.bool false, .slice none 0 0, .bool false, .slice none 0 0, .bool false, .slice none 0 0], boxA bn25n1 89 [.bool false, .slice none 0 0, .bool false, .slice none 0 0, .bool false, .slice none 0 0], boxA bn24n1 89 [.bool false, .slice none 0 0, .bool false, .slice none 0 0, .bool false, .slice none 0 0]], [boxA b12 42 [.int .i64 0, .int .i64 0, .int .i64 0], boxA b11 44 [.int .i64 ((F.getD i (0, 0, 0)).1), .int .i64 ((F.getD i (0, 0, 0)).2.1), .int .i64 ((F.getD i (0, 0, 0)).2.2)], boxA b6 34 [.bool (decide (s < 0)), .slice p ((Big.digs ((s).natAbs)).length) c], mapA b23 (fun z : Int => .int .i64 z) (fun z : Int => .int .i64 z) (InK .i64) bm1, boxA b2 34 [.bool false, .slice none 0 0], boxA b1 25 [.slice pv nv cv, .slice pf nf cf]], [atF b19 o20 [.int .i64 qcx, .int .i64 qcy, .int .i64 qcz], atF b16 o17 [.int .i64 qbx, .int .i64 qby, .int .i64 qbz], atF b13 o14 [.int .i64 qax, .int .i64 qay, .int .i64 qaz], atF b8 o9 [.int .i64 ((F.getD i (0, 0, 0)).1), .int .i64 ((F.getD i (0, 0, 0)).2.1), .int .i64 ((F.getD i (0, 0, 0)).2.2)], slF (rI .u32) p c (Big.digs ((s).natAbs)), slF (rI .u32) p24 c25 (Big.digs ((0 : Int).natAbs)), slF (rI3 .i64) pv cv V, slF (rI3 .i64) pf cf F])) ?_ (fun hD22 => ?_)
    ·
     rintro ⟨bn24n1, bn25n1, bn26n1⟩
     dsimp only
     refine d_one 7 (by kernel_rfl) ?_
     ·
      refine o_callf rfl rfl rfl rfl (.c rfl (.c rfl .n)) ce58 (con_from (ex := 0) (ey := 0) (ez := 0) (fx := qax) (fy := qay) (fz := qaz) (hbex := by omega) (hbey := by omega) (hbez := by omega) (hbfx := by omega) (hbfy := by omega) (hbfz := by omega)) (.n) ?_
      rintro ⟨pr0n7n1, cr0n7n2, pr1n7n3, cr1n7n4, pr2n7n5, cr2n7n6⟩ -
      dsimp only [List.append_eq, List.nil_append, List.cons_append]
      exact d_weakT (hD14 (pr0n7n1, cr0n7n2, pr1n7n3, cr1n7n4, pr2n7n5, cr2n7n6, bn24n1, bn25n1, bn26n1)) (by kernel_rfl) ((.of rfl) : SubM _ _) .rfl .rfl ((.of [0, 1, 2, 3, 4, 5, 6, 7, 8, 9, 10] rfl) : SelR _ _ _)
    refine d_join (X := Option Addr × Nat × Option Addr × Nat × Option Addr × Nat × Option Addr × Nat × Option Addr × Nat × Option Addr × Nat) (k' := 7) (L' := #[true, true, true, true, true, true, true, true, true, true, true, true, true, true, true, true, true, true, true, true, true, true, true, false, false, false, false, false, false, false]) (fun (pr0n7n1, cr0n7n2, pr1n7n3, cr1n7n4, pr2n7n5, cr2n7n6, pr0n15n1, cr0n15n2, pr1n15n3, cr1n15n4, pr2n15n5, cr2n15n6) => ([(47, .agg #[.bool (decide ((qbx - 0) < 0)), .slice pr0n15n1 ((Big.digs ((qbx - 0).natAbs)).length) cr0n15n2, .bool (decide ((qby - 0) < 0)), .slice pr1n15n3 ((Big.digs ((qby - 0).natAbs)).length) cr1n15n4, .bool (decide ((qbz - 0) < 0)), .slice pr2n15n5 ((Big.digs ((qbz - 0).natAbs)).length) cr2n15n6]), (39, .agg #[.bool (decide ((qax - 0) < 0)), .slice pr0n7n1 ((Big.digs ((qax - 0).natAbs)).length) cr0n7n2, .bool (decide ((qay - 0) < 0)), .slice pr1n7n3 ((Big.digs ((qay - 0).natAbs)).length) cr1n7n4, .bool (decide ((qaz - 0) < 0)), .slice pr2n7n5 ((Big.digs ((qaz - 0).natAbs)).length) cr2n7n6]), (54, .agg #[.int .i64 qcx, .int .i64 qcy, .int .i64 qcz]), (53, .pointer (some ⟨b19, o20, none⟩)), (52, .int .i64 ((F.getD i (0, 0, 0)).2.2)), (51, .pointer (some ⟨b11, 2, none⟩)), (50, .slice pv nv cv), (49, .pointer (some ⟨b1, 0, none⟩)), (48, .agg #[.int .i64 0, .int .i64 0, .int .i64 0]), (46, .agg #[.int .i64 qbx, .int .i64 qby, .int .i64 qbz]), (45, .pointer (some ⟨b16, o17, none⟩)), (44, .int .i64 ((F.getD i (0, 0, 0)).2.1)), (43, .pointer (some ⟨b11, 1, none⟩)), (42, .slice pv nv cv), (41, .pointer (some ⟨b1, 0, none⟩)), (40, .agg #[.int .i64 0, .int .i64 0, .int .i64 0]), (38, .agg #[.int .i64 qax, .int .i64 qay, .int .i64 qaz]), (37, .pointer (some ⟨b13, o14, none⟩)), (36, .int .i64 ((F.getD i (0, 0, 0)).1)), (35, .pointer (some ⟨b11, 0, none⟩)), (34, .slice pv nv cv), (33, .pointer (some ⟨b1, 0, none⟩)), (32, .agg #[.int .i64 0, .int .i64 0, .int .i64 0]), (8, .pointer (some ⟨b12, 0, none⟩)), (31, .agg #[.int .i64 0, .int .i64 0, .int .i64 0]), (7, .pointer (some ⟨b11, 0, none⟩)), (30, .agg #[.int .i64 ((F.getD i (0, 0, 0)).1), .int .i64 ((F.getD i (0, 0, 0)).2.1), .int .i64 ((F.getD i (0, 0, 0)).2.2)]), (29, .pointer (some ⟨b8, o9, none⟩)), (28, .bool (decide (((i : Nat) : Int) < ((nf : Nat) : Int)))), (27, .int .i64 ((i : Nat) : Int)), (26, .int .i64 ((nf : Nat) : Int)), (25, .slice pf nf cf), (5, .pointer (some ⟨b6, 0, none⟩)), (3, .int .i64 0), (2, .pointer (some ⟨b2, 0, none⟩)), (1, .pointer (some ⟨b1, 0, none⟩))], [], [boxA b12 42 [.int .i64 0, .int .i64 0, .int .i64 0], boxA b11 44 [.int .i64 ((F.getD i (0, 0, 0)).1), .int .i64 ((F.getD i (0, 0, 0)).2.1), .int .i64 ((F.getD i (0, 0, 0)).2.2)], boxA b6 34 [.bool (decide (s < 0)), .slice p ((Big.digs ((s).natAbs)).length) c], mapA b23 (fun z : Int => .int .i64 z) (fun z : Int => .int .i64 z) (InK .i64) bm1, boxA b2 34 [.bool false, .slice none 0 0], boxA b1 25 [.slice pv nv cv, .slice pf nf cf]], [slF (rI .u32) pr0n15n1 cr0n15n2 (Big.digs ((qbx - 0).natAbs)), slF (rI .u32) pr1n15n3 cr1n15n4 (Big.digs ((qby - 0).natAbs)), slF (rI .u32) pr2n15n5 cr2n15n6 (Big.digs ((qbz - 0).natAbs)), slF (rI .u32) pr0n7n1 cr0n7n2 (Big.digs ((qax - 0).natAbs)), slF (rI .u32) pr1n7n3 cr1n7n4 (Big.digs ((qay - 0).natAbs)), slF (rI .u32) pr2n7n5 cr2n7n6 (Big.digs ((qaz - 0).natAbs)), atF b19 o20 [.int .i64 qcx, .int .i64 qcy, .int .i64 qcz], atF b16 o17 [.int .i64 qbx, .int .i64 qby, .int .i64 qbz], atF b13 o14 [.int .i64 qax, .int .i64 qay, .int .i64 qaz], atF b8 o9 [.int .i64 ((F.getD i (0, 0, 0)).1), .int .i64 ((F.getD i (0, 0, 0)).2.1), .int .i64 ((F.getD i (0, 0, 0)).2.2)], slF (rI .u32) p c (Big.digs ((s).natAbs)), slF (rI .u32) p24 c25 (Big.digs ((0 : Int).natAbs)), slF (rI3 .i64) pv cv V, slF (rI3 .i64) pf cf F])) ?_ (fun hD23 => ?_)
    ·
     rintro ⟨pr0n7n1, cr0n7n2, pr1n7n3, cr1n7n4, pr2n7n5, cr2n7n6, pr0n15n1, cr0n15n2, pr1n15n3, cr1n15n4, pr2n15n5, cr2n15n6⟩
     dsimp only
     refine d_four 23 24 25 26 (by kernel_rfl) ?_ ?_ ?_ ?_
     ·
      refine o_callf rfl rfl rfl rfl (.c rfl (.c rfl .n)) ce58 (con_from (ex := 0) (ey := 0) (ez := 0) (fx := qcx) (fy := qcy) (fz := qcz) (hbex := by omega) (hbey := by omega) (hbez := by omega) (hbfx := by omega) (hbfy := by omega) (hbfz := by omega)) (.n) ?_
      rintro ⟨pr0n23n1, cr0n23n2, pr1n23n3, cr1n23n4, pr2n23n5, cr2n23n6⟩ -
      dsimp only [List.append_eq, List.nil_append, List.cons_append]
      exact d_weakT (hD15 (pr0n7n1, cr0n7n2, pr1n7n3, cr1n7n4, pr2n7n5, cr2n7n6, pr0n15n1, cr0n15n2, pr1n15n3, cr1n15n4, pr2n15n5, cr2n15n6, pr0n23n1, cr0n23n2, pr1n23n3, cr1n23n4, pr2n23n5, cr2n23n6)) (by kernel_rfl) ((.of rfl) : SubM _ _) .rfl .rfl ((.of [0, 1, 2, 3, 4, 5, 6, 7, 8, 9, 10, 11, 12, 13, 14, 15, 16] rfl) : SelR _ _ _)
     ·
      refine o_ef0W rfl rfl rfl rfl (ef_alloc zr89 rfl) (fun bn24n1 _ => ?_)
      exact d_weakT (hD16 (pr0n7n1, cr0n7n2, pr1n7n3, cr1n7n4, pr2n7n5, cr2n7n6, pr0n15n1, cr0n15n2, pr1n15n3, cr1n15n4, pr2n15n5, cr2n15n6, bn24n1)) (by kernel_rfl) ((.of rfl) : SubM _ _) .rfl .rfl ((.of [0, 1, 2, 3, 4, 5, 6, 7, 8, 9, 10, 11, 12, 13] rfl) : SelR _ _ _)
     ·
      refine o_ef0W rfl rfl rfl rfl (ef_alloc zr89 rfl) (fun bn25n1 _ => ?_)
      exact d_weakT (hD17 (pr0n7n1, cr0n7n2, pr1n7n3, cr1n7n4, pr2n7n5, cr2n7n6, pr0n15n1, cr0n15n2, pr1n15n3, cr1n15n4, pr2n15n5, cr2n15n6, bn25n1)) (by kernel_rfl) ((.of rfl) : SubM _ _) .rfl .rfl ((.of [0, 1, 2, 3, 4, 5, 6, 7, 8, 9, 10, 11, 12, 13] rfl) : SelR _ _ _)
     ·
      refine o_ef0W rfl rfl rfl rfl (ef_alloc zr89 rfl) (fun bn26n1 _ => ?_)
      exact d_weakT (hD18 (pr0n7n1, cr0n7n2, pr1n7n3, cr1n7n4, pr2n7n5, cr2n7n6, pr0n15n1, cr0n15n2, pr1n15n3, cr1n15n4, pr2n15n5, cr2n15n6, bn26n1)) (by kernel_rfl) ((.of rfl) : SubM _ _) .rfl .rfl ((.of [0, 1, 2, 3, 4, 5, 6, 7, 8, 9, 10, 11, 12, 13] rfl) : SelR _ _ _)
    refine d_join (X := Option Addr × Nat × Option Addr × Nat × Option Addr × Nat × Nat) (k' := 7) (L' := #[true, true, true, true, true, true, true, true, true, true, true, true, true, true, true, false, true, true, true, true, true, true, true, false, true, false, false, false, false, false]) (fun (pr0n7n1, cr0n7n2, pr1n7n3, cr1n7n4, pr2n7n5, cr2n7n6, bn24n1) => ([(9, .pointer (some ⟨bn24n1, 0, none⟩)), (39, .agg #[.bool (decide ((qax - 0) < 0)), .slice pr0n7n1 ((Big.digs ((qax - 0).natAbs)).length) cr0n7n2, .bool (decide ((qay - 0) < 0)), .slice pr1n7n3 ((Big.digs ((qay - 0).natAbs)).length) cr1n7n4, .bool (decide ((qaz - 0) < 0)), .slice pr2n7n5 ((Big.digs ((qaz - 0).natAbs)).length) cr2n7n6]), (54, .agg #[.int .i64 qcx, .int .i64 qcy, .int .i64 qcz]), (53, .pointer (some ⟨b19, o20, none⟩)), (52, .int .i64 ((F.getD i (0, 0, 0)).2.2)), (51, .pointer (some ⟨b11, 2, none⟩)), (50, .slice pv nv cv), (49, .pointer (some ⟨b1, 0, none⟩)), (48, .agg #[.int .i64 0, .int .i64 0, .int .i64 0]), (46, .agg #[.int .i64 qbx, .int .i64 qby, .int .i64 qbz]), (45, .pointer (some ⟨b16, o17, none⟩)), (44, .int .i64 ((F.getD i (0, 0, 0)).2.1)), (43, .pointer (some ⟨b11, 1, none⟩)), (42, .slice pv nv cv), (41, .pointer (some ⟨b1, 0, none⟩)), (40, .agg #[.int .i64 0, .int .i64 0, .int .i64 0]), (38, .agg #[.int .i64 qax, .int .i64 qay, .int .i64 qaz]), (37, .pointer (some ⟨b13, o14, none⟩)), (36, .int .i64 ((F.getD i (0, 0, 0)).1)), (35, .pointer (some ⟨b11, 0, none⟩)), (34, .slice pv nv cv), (33, .pointer (some ⟨b1, 0, none⟩)), (32, .agg #[.int .i64 0, .int .i64 0, .int .i64 0]), (8, .pointer (some ⟨b12, 0, none⟩)), (31, .agg #[.int .i64 0, .int .i64 0, .int .i64 0]), (7, .pointer (some ⟨b11, 0, none⟩)), (30, .agg #[.int .i64 ((F.getD i (0, 0, 0)).1), .int .i64 ((F.getD i (0, 0, 0)).2.1), .int .i64 ((F.getD i (0, 0, 0)).2.2)]), (29, .pointer (some ⟨b8, o9, none⟩)), (28, .bool (decide (((i : Nat) : Int) < ((nf : Nat) : Int)))), (27, .int .i64 ((i : Nat) : Int)), (26, .int .i64 ((nf : Nat) : Int)), (25, .slice pf nf cf), (5, .pointer (some ⟨b6, 0, none⟩)), (3, .int .i64 0), (2, .pointer (some ⟨b2, 0, none⟩)), (1, .pointer (some ⟨b1, 0, none⟩))], [boxA bn24n1 89 [.bool false, .slice none 0 0, .bool false, .slice none 0 0, .bool false, .slice none 0 0]], [boxA b12 42 [.int .i64 0, .int .i64 0, .int .i64 0], boxA b11 44 [.int .i64 ((F.getD i (0, 0, 0)).1), .int .i64 ((F.getD i (0, 0, 0)).2.1), .int .i64 ((F.getD i (0, 0, 0)).2.2)], boxA b6 34 [.bool (decide (s < 0)), .slice p ((Big.digs ((s).natAbs)).length) c], mapA b23 (fun z : Int => .int .i64 z) (fun z : Int => .int .i64 z) (InK .i64) bm1, boxA b2 34 [.bool false, .slice none 0 0], boxA b1 25 [.slice pv nv cv, .slice pf nf cf]], [slF (rI .u32) pr0n7n1 cr0n7n2 (Big.digs ((qax - 0).natAbs)), slF (rI .u32) pr1n7n3 cr1n7n4 (Big.digs ((qay - 0).natAbs)), slF (rI .u32) pr2n7n5 cr2n7n6 (Big.digs ((qaz - 0).natAbs)), atF b19 o20 [.int .i64 qcx, .int .i64 qcy, .int .i64 qcz], atF b16 o17 [.int .i64 qbx, .int .i64 qby, .int .i64 qbz], atF b13 o14 [.int .i64 qax, .int .i64 qay, .int .i64 qaz], atF b8 o9 [.int .i64 ((F.getD i (0, 0, 0)).1), .int .i64 ((F.getD i (0, 0, 0)).2.1), .int .i64 ((F.getD i (0, 0, 0)).2.2)], slF (rI .u32) p c (Big.digs ((s).natAbs)), slF (rI .u32) p24 c25 (Big.digs ((0 : Int).natAbs)), slF (rI3 .i64) pv cv V, slF (rI3 .i64) pf cf F])) ?_ (fun hD24 => ?_)
    ·
     rintro ⟨pr0n7n1, cr0n7n2, pr1n7n3, cr1n7n4, pr2n7n5, cr2n7n6, bn24n1⟩
     dsimp only
     refine d_three 15 25 26 (by kernel_rfl) ?_ ?_ ?_
     ·
      refine o_callf rfl rfl rfl rfl (.c rfl (.c rfl .n)) ce58 (con_from (ex := 0) (ey := 0) (ez := 0) (fx := qbx) (fy := qby) (fz := qbz) (hbex := by omega) (hbey := by omega) (hbez := by omega) (hbfx := by omega) (hbfy := by omega) (hbfz := by omega)) (.n) ?_
      rintro ⟨pr0n15n1, cr0n15n2, pr1n15n3, cr1n15n4, pr2n15n5, cr2n15n6⟩ -
      dsimp only [List.append_eq, List.nil_append, List.cons_append]
      exact d_weakT (hD16 (pr0n7n1, cr0n7n2, pr1n7n3, cr1n7n4, pr2n7n5, cr2n7n6, pr0n15n1, cr0n15n2, pr1n15n3, cr1n15n4, pr2n15n5, cr2n15n6, bn24n1)) (by kernel_rfl) ((.of rfl) : SubM _ _) .rfl .rfl ((.of [0, 1, 2, 3, 4, 5, 6, 7, 8, 9, 10, 11, 12, 13] rfl) : SelR _ _ _)
     ·
      refine o_ef0W rfl rfl rfl rfl (ef_alloc zr89 rfl) (fun bn25n1 _ => ?_)
      exact d_weakT (hD19 (pr0n7n1, cr0n7n2, pr1n7n3, cr1n7n4, pr2n7n5, cr2n7n6, bn24n1, bn25n1)) (by kernel_rfl) ((.of rfl) : SubM _ _) .rfl .rfl ((.of [0, 1, 2, 3, 4, 5, 6, 7, 8, 9, 10] rfl) : SelR _ _ _)
     ·
      refine o_ef0W rfl rfl rfl rfl (ef_alloc zr89 rfl) (fun bn26n1 _ => ?_)
      exact d_weakT (hD20 (pr0n7n1, cr0n7n2, pr1n7n3, cr1n7n4, pr2n7n5, cr2n7n6, bn24n1, bn26n1)) (by kernel_rfl) ((.of rfl) : SubM _ _) .rfl .rfl ((.of [0, 1, 2, 3, 4, 5, 6, 7, 8, 9, 10] rfl) : SelR _ _ _)
    refine d_join (X := Option Addr × Nat × Option Addr × Nat × Option Addr × Nat × Nat) (k' := 7) (L' := #[true, true, true, true, true, true, true, true, true, true, true, true, true, true, true, false, true, true, true, true, true, true, true, false, false, true, false, false, false, false]) (fun (pr0n7n1, cr0n7n2, pr1n7n3, cr1n7n4, pr2n7n5, cr2n7n6, bn25n1) => ([(10, .pointer (some ⟨bn25n1, 0, none⟩)), (39, .agg #[.bool (decide ((qax - 0) < 0)), .slice pr0n7n1 ((Big.digs ((qax - 0).natAbs)).length) cr0n7n2, .bool (decide ((qay - 0) < 0)), .slice pr1n7n3 ((Big.digs ((qay - 0).natAbs)).length) cr1n7n4, .bool (decide ((qaz - 0) < 0)), .slice pr2n7n5 ((Big.digs ((qaz - 0).natAbs)).length) cr2n7n6]), (54, .agg #[.int .i64 qcx, .int .i64 qcy, .int .i64 qcz]), (53, .pointer (some ⟨b19, o20, none⟩)), (52, .int .i64 ((F.getD i (0, 0, 0)).2.2)), (51, .pointer (some ⟨b11, 2, none⟩)), (50, .slice pv nv cv), (49, .pointer (some ⟨b1, 0, none⟩)), (48, .agg #[.int .i64 0, .int .i64 0, .int .i64 0]), (46, .agg #[.int .i64 qbx, .int .i64 qby, .int .i64 qbz]), (45, .pointer (some ⟨b16, o17, none⟩)), (44, .int .i64 ((F.getD i (0, 0, 0)).2.1)), (43, .pointer (some ⟨b11, 1, none⟩)), (42, .slice pv nv cv), (41, .pointer (some ⟨b1, 0, none⟩)), (40, .agg #[.int .i64 0, .int .i64 0, .int .i64 0]), (38, .agg #[.int .i64 qax, .int .i64 qay, .int .i64 qaz]), (37, .pointer (some ⟨b13, o14, none⟩)), (36, .int .i64 ((F.getD i (0, 0, 0)).1)), (35, .pointer (some ⟨b11, 0, none⟩)), (34, .slice pv nv cv), (33, .pointer (some ⟨b1, 0, none⟩)), (32, .agg #[.int .i64 0, .int .i64 0, .int .i64 0]), (8, .pointer (some ⟨b12, 0, none⟩)), (31, .agg #[.int .i64 0, .int .i64 0, .int .i64 0]), (7, .pointer (some ⟨b11, 0, none⟩)), (30, .agg #[.int .i64 ((F.getD i (0, 0, 0)).1), .int .i64 ((F.getD i (0, 0, 0)).2.1), .int .i64 ((F.getD i (0, 0, 0)).2.2)]), (29, .pointer (some ⟨b8, o9, none⟩)), (28, .bool (decide (((i : Nat) : Int) < ((nf : Nat) : Int)))), (27, .int .i64 ((i : Nat) : Int)), (26, .int .i64 ((nf : Nat) : Int)), (25, .slice pf nf cf), (5, .pointer (some ⟨b6, 0, none⟩)), (3, .int .i64 0), (2, .pointer (some ⟨b2, 0, none⟩)), (1, .pointer (some ⟨b1, 0, none⟩))], [boxA bn25n1 89 [.bool false, .slice none 0 0, .bool false, .slice none 0 0, .bool false, .slice none 0 0]], [boxA b12 42 [.int .i64 0, .int .i64 0, .int .i64 0], boxA b11 44 [.int .i64 ((F.getD i (0, 0, 0)).1), .int .i64 ((F.getD i (0, 0, 0)).2.1), .int .i64 ((F.getD i (0, 0, 0)).2.2)], boxA b6 34 [.bool (decide (s < 0)), .slice p ((Big.digs ((s).natAbs)).length) c], mapA b23 (fun z : Int => .int .i64 z) (fun z : Int => .int .i64 z) (InK .i64) bm1, boxA b2 34 [.bool false, .slice none 0 0], boxA b1 25 [.slice pv nv cv, .slice pf nf cf]], [slF (rI .u32) pr0n7n1 cr0n7n2 (Big.digs ((qax - 0).natAbs)), slF (rI .u32) pr1n7n3 cr1n7n4 (Big.digs ((qay - 0).natAbs)), slF (rI .u32) pr2n7n5 cr2n7n6 (Big.digs ((qaz - 0).natAbs)), atF b19 o20 [.int .i64 qcx, .int .i64 qcy, .int .i64 qcz], atF b16 o17 [.int .i64 qbx, .int .i64 qby, .int .i64 qbz], atF b13 o14 [.int .i64 qax, .int .i64 qay, .int .i64 qaz], atF b8 o9 [.int .i64 ((F.getD i (0, 0, 0)).1), .int .i64 ((F.getD i (0, 0, 0)).2.1), .int .i64 ((F.getD i (0, 0, 0)).2.2)], slF (rI .u32) p c (Big.digs ((s).natAbs)), slF (rI .u32) p24 c25 (Big.digs ((0 : Int).natAbs)), slF (rI3 .i64) pv cv V, slF (rI3 .i64) pf cf F])) ?_ (fun hD25 => ?_)
    ·
     rintro ⟨pr0n7n1, cr0n7n2, pr1n7n3, cr1n7n4, pr2n7n5, cr2n7n6, bn25n1⟩
     dsimp only
     refine d_three 15 24 26 (by kernel_rfl) ?_ ?_ ?_
     ·
      refine o_callf rfl rfl rfl rfl (.c rfl (.c rfl .n)) ce58 (con_from (ex := 0) (ey := 0) (ez := 0) (fx := qbx) (fy := qby) (fz := qbz) (hbex := by omega) (hbey := by omega) (hbez := by omega) (hbfx := by omega) (hbfy := by omega) (hbfz := by omega)) (.n) ?_
      rintro ⟨pr0n15n1, cr0n15n2, pr1n15n3, cr1n15n4, pr2n15n5, cr2n15n6⟩ -
      dsimp only [List.append_eq, List.nil_append, List.cons_append]
      exact d_weakT (hD17 (pr0n7n1, cr0n7n2, pr1n7n3, cr1n7n4, pr2n7n5, cr2n7n6, pr0n15n1, cr0n15n2, pr1n15n3, cr1n15n4, pr2n15n5, cr2n15n6, bn25n1)) (by kernel_rfl) ((.of rfl) : SubM _ _) .rfl .rfl ((.of [0, 1, 2, 3, 4, 5, 6, 7, 8, 9, 10, 11, 12, 13] rfl) : SelR _ _ _)
     ·
      refine o_ef0W rfl rfl rfl rfl (ef_alloc zr89 rfl) (fun bn24n1 _ => ?_)
      exact d_weakT (hD19 (pr0n7n1, cr0n7n2, pr1n7n3, cr1n7n4, pr2n7n5, cr2n7n6, bn24n1, bn25n1)) (by kernel_rfl) ((.of rfl) : SubM _ _) (perm_c 1 rfl (perm_c 0 rfl .nil)) .rfl ((.of [0, 1, 2, 3, 4, 5, 6, 7, 8, 9, 10] rfl) : SelR _ _ _)
     ·
      refine o_ef0W rfl rfl rfl rfl (ef_alloc zr89 rfl) (fun bn26n1 _ => ?_)
      exact d_weakT (hD21 (pr0n7n1, cr0n7n2, pr1n7n3, cr1n7n4, pr2n7n5, cr2n7n6, bn25n1, bn26n1)) (by kernel_rfl) ((.of rfl) : SubM _ _) .rfl .rfl ((.of [0, 1, 2, 3, 4, 5, 6, 7, 8, 9, 10] rfl) : SelR _ _ _)
    refine d_join (X := Option Addr × Nat × Option Addr × Nat × Option Addr × Nat × Nat) (k' := 7) (L' := #[true, true, true, true, true, true, true, true, true, true, true, true, true, true, true, false, true, true, true, true, true, true, true, false, false, false, true, false, false, false]) (fun (pr0n7n1, cr0n7n2, pr1n7n3, cr1n7n4, pr2n7n5, cr2n7n6, bn26n1) => ([(11, .pointer (some ⟨bn26n1, 0, none⟩)), (39, .agg #[.bool (decide ((qax - 0) < 0)), .slice pr0n7n1 ((Big.digs ((qax - 0).natAbs)).length) cr0n7n2, .bool (decide ((qay - 0) < 0)), .slice pr1n7n3 ((Big.digs ((qay - 0).natAbs)).length) cr1n7n4, .bool (decide ((qaz - 0) < 0)), .slice pr2n7n5 ((Big.digs ((qaz - 0).natAbs)).length) cr2n7n6]), (54, .agg #[.int .i64 qcx, .int .i64 qcy, .int .i64 qcz]), (53, .pointer (some ⟨b19, o20, none⟩)), (52, .int .i64 ((F.getD i (0, 0, 0)).2.2)), (51, .pointer (some ⟨b11, 2, none⟩)), (50, .slice pv nv cv), (49, .pointer (some ⟨b1, 0, none⟩)), (48, .agg #[.int .i64 0, .int .i64 0, .int .i64 0]), (46, .agg #[.int .i64 qbx, .int .i64 qby, .int .i64 qbz]), (45, .pointer (some ⟨b16, o17, none⟩)), (44, .int .i64 ((F.getD i (0, 0, 0)).2.1)), (43, .pointer (some ⟨b11, 1, none⟩)), (42, .slice pv nv cv), (41, .pointer (some ⟨b1, 0, none⟩)), (40, .agg #[.int .i64 0, .int .i64 0, .int .i64 0]), (38, .agg #[.int .i64 qax, .int .i64 qay, .int .i64 qaz]), (37, .pointer (some ⟨b13, o14, none⟩)), (36, .int .i64 ((F.getD i (0, 0, 0)).1)), (35, .pointer (some ⟨b11, 0, none⟩)), (34, .slice pv nv cv), (33, .pointer (some ⟨b1, 0, none⟩)), (32, .agg #[.int .i64 0, .int .i64 0, .int .i64 0]), (8, .pointer (some ⟨b12, 0, none⟩)), (31, .agg #[.int .i64 0, .int .i64 0, .int .i64 0]), (7, .pointer (some ⟨b11, 0, none⟩)), (30, .agg #[.int .i64 ((F.getD i (0, 0, 0)).1), .int .i64 ((F.getD i (0, 0, 0)).2.1), .int .i64 ((F.getD i (0, 0, 0)).2.2)]), (29, .pointer (some ⟨b8, o9, none⟩)), (28, .bool (decide (((i : Nat) : Int) < ((nf : Nat) : Int)))), (27, .int .i64 ((i : Nat) : Int)), (26, .int .i64 ((nf : Nat) : Int)), (25, .slice pf nf cf), (5, .pointer (some ⟨b6, 0, none⟩)), (3, .int .i64 0), (2, .pointer (some ⟨b2, 0, none⟩)), (1, .pointer (some ⟨b1, 0, none⟩))], [boxA bn26n1 89 [.bool false, .slice none 0 0, .bool false, .slice none 0 0, .bool false, .slice none 0 0]], [boxA b12 42 [.int .i64 0, .int .i64 0, .int .i64 0], boxA b11 44 [.int .i64 ((F.getD i (0, 0, 0)).1), .int .i64 ((F.getD i (0, 0, 0)).2.1), .int .i64 ((F.getD i (0, 0, 0)).2.2)], boxA b6 34 [.bool (decide (s < 0)), .slice p ((Big.digs ((s).natAbs)).length) c], mapA b23 (fun z : Int => .int .i64 z) (fun z : Int => .int .i64 z) (InK .i64) bm1, boxA b2 34 [.bool false, .slice none 0 0], boxA b1 25 [.slice pv nv cv, .slice pf nf cf]], [slF (rI .u32) pr0n7n1 cr0n7n2 (Big.digs ((qax - 0).natAbs)), slF (rI .u32) pr1n7n3 cr1n7n4 (Big.digs ((qay - 0).natAbs)), slF (rI .u32) pr2n7n5 cr2n7n6 (Big.digs ((qaz - 0).natAbs)), atF b19 o20 [.int .i64 qcx, .int .i64 qcy, .int .i64 qcz], atF b16 o17 [.int .i64 qbx, .int .i64 qby, .int .i64 qbz], atF b13 o14 [.int .i64 qax, .int .i64 qay, .int .i64 qaz], atF b8 o9 [.int .i64 ((F.getD i (0, 0, 0)).1), .int .i64 ((F.getD i (0, 0, 0)).2.1), .int .i64 ((F.getD i (0, 0, 0)).2.2)], slF (rI .u32) p c (Big.digs ((s).natAbs)), slF (rI .u32) p24 c25 (Big.digs ((0 : Int).natAbs)), slF (rI3 .i64) pv cv V, slF (rI3 .i64) pf cf F])) ?_ (fun hD26 => ?_)
    ·
     rintro ⟨pr0n7n1, cr0n7n2, pr1n7n3, cr1n7n4, pr2n7n5, cr2n7n6, bn26n1⟩
     dsimp only
     refine d_three 15 24 25 (by kernel_rfl) ?_ ?_ ?_
     ·
      refine o_callf rfl rfl rfl rfl (.c rfl (.c rfl .n)) ce58 (con_from (ex := 0) (ey := 0) (ez := 0) (fx := qbx) (fy := qby) (fz := qbz) (hbex := by omega) (hbey := by omega) (hbez := by omega) (hbfx := by omega) (hbfy := by omega) (hbfz := by omega)) (.n) ?_
      rintro ⟨pr0n15n1, cr0n15n2, pr1n15n3, cr1n15n4, pr2n15n5, cr2n15n6⟩ -
      dsimp only [List.append_eq, List.nil_append, List.cons_append]
      exact d_weakT (hD18 (pr0n7n1, cr0n7n2, pr1n7n3, cr1n7n4, pr2n7n5, cr2n7n6, pr0n15n1, cr0n15n2, pr1n15n3, cr1n15n4, pr2n15n5, cr2n15n6, bn26n1)) (by kernel_rfl) ((.of rfl) : SubM _ _) .rfl .rfl ((.of [0, 1, 2, 3, 4, 5, 6, 7, 8, 9, 10, 11, 12, 13] rfl) : SelR _ _ _)
     ·
      refine o_ef0W rfl rfl rfl rfl (ef_alloc zr89 rfl) (fun bn24n1 _ => ?_)
      exact d_weakT (hD20 (pr0n7n1, cr0n7n2, pr1n7n3, cr1n7n4, pr2n7n5, cr2n7n6, bn24n1, bn26n1)) (by kernel_rfl) ((.of rfl) : SubM _ _) (perm_c 1 rfl (perm_c 0 rfl .nil)) .rfl ((.of [0, 1, 2, 3, 4, 5, 6, 7, 8, 9, 10] rfl) : SelR _ _ _)
     ·
      refine o_ef0W rfl rfl rfl rfl (ef_alloc zr89 rfl) (fun bn25n1 _ => ?_)
      exact d_weakT (hD21 (pr0n7n1, cr0n7n2, pr1n7n3, cr1n7n4, pr2n7n5, cr2n7n6, bn25n1, bn26n1)) (by kernel_rfl) ((.of rfl) : SubM _ _) (perm_c 1 rfl (perm_c 0 rfl .nil)) .rfl ((.of [0, 1, 2, 3, 4, 5, 6, 7, 8, 9, 10] rfl) : SelR _ _ _)
    refine d_join (X := Nat × Nat) (k' := 7) (L' := #[true, true, true, true, true, true, true, false, true, true, true, true, true, true, true, false, true, true, true, true, true, true, true, false, true, true, false, false, false, false]) (fun (bn24n1, bn25n1) => ([(10, .pointer (some ⟨bn25n1, 0, none⟩)), (9, .pointer (some ⟨bn24n1, 0, none⟩)), (54, .agg #[.int .i64 qcx, .int .i64 qcy, .int .i64 qcz]), (53, .pointer (some ⟨b19, o20, none⟩)), (52, .int .i64 ((F.getD i (0, 0, 0)).2.2)), (51, .pointer (some ⟨b11, 2, none⟩)), (50, .slice pv nv cv), (49, .pointer (some ⟨b1, 0, none⟩)), (48, .agg #[.int .i64 0, .int .i64 0, .int .i64 0]), (46, .agg #[.int .i64 qbx, .int .i64 qby, .int .i64 qbz]), (45, .pointer (some ⟨b16, o17, none⟩)), (44, .int .i64 ((F.getD i (0, 0, 0)).2.1)), (43, .pointer (some ⟨b11, 1, none⟩)), (42, .slice pv nv cv), (41, .pointer (some ⟨b1, 0, none⟩)), (40, .agg #[.int .i64 0, .int .i64 0, .int .i64 0]), (38, .agg #[.int .i64 qax, .int .i64 qay, .int .i64 qaz]), (37, .pointer (some ⟨b13, o14, none⟩)), (36, .int .i64 ((F.getD i (0, 0, 0)).1)), (35, .pointer (some ⟨b11, 0, none⟩)), (34, .slice pv nv cv), (33, .pointer (some ⟨b1, 0, none⟩)), (32, .agg #[.int .i64 0, .int .i64 0, .int .i64 0]), (8, .pointer (some ⟨b12, 0, none⟩)), (31, .agg #[.int .i64 0, .int .i64 0, .int .i64 0]), (7, .pointer (some ⟨b11, 0, none⟩)), (30, .agg #[.int .i64 ((F.getD i (0, 0, 0)).1), .int .i64 ((F.getD i (0, 0, 0)).2.1), .int .i64 ((F.getD i (0, 0, 0)).2.2)]), (29, .pointer (some ⟨b8, o9, none⟩)), (28, .bool (decide (((i : Nat) : Int) < ((nf : Nat) : Int)))), (27, .int .i64 ((i : Nat) : Int)), (26, .int .i64 ((nf : Nat) : Int)), (25, .slice pf nf cf), (5, .pointer (some ⟨b6, 0, none⟩)), (3, .int .i64 0), (2, .pointer (some ⟨b2, 0, none⟩)), (1, .pointer (some ⟨b1, 0, none⟩))], [boxA bn25n1 89 [.bool false, .slice none 0 0, .bool false, .slice none 0 0, .bool false, .slice none 0 0], boxA bn24n1 89 [.bool false, .slice none 0 0, .bool false, .slice none 0 0, .bool false, .slice none 0 0]], [boxA b12 42 [.int .i64 0, .int .i64 0, .int .i64 0], boxA b11 44 [.int .i64 ((F.getD i (0, 0, 0)).1), .int .i64 ((F.getD i (0, 0, 0)).2.1), .int .i64 ((F.getD i (0, 0, 0)).2.2)], boxA b6 34 [.bool (decide (s < 0)), .slice p ((Big.digs ((s).natAbs)).length) c], mapA b23 (fun z : Int => .int .i64 z) (fun z : Int => .int .i64 z) (InK .i64) bm1, boxA b2 34 [.bool false, .slice none 0 0], boxA b1 25 [.slice pv nv cv, .slice pf nf cf]], [atF b19 o20 [.int .i64 qcx, .int .i64 qcy, .int .i64 qcz], atF b16 o17 [.int .i64 qbx, .int .i64 qby, .int .i64 qbz], atF b13 o14 [.int .i64 qax, .int .i64 qay, .int .i64 qaz], atF b8 o9 [.int .i64 ((F.getD i (0, 0, 0)).1), .int .i64 ((F.getD i (0, 0, 0)).2.1), .int .i64 ((F.getD i (0, 0, 0)).2.2)], slF (rI .u32) p c (Big.digs ((s).natAbs)), slF (rI .u32) p24 c25 (Big.digs ((0 : Int).natAbs)), slF (rI3 .i64) pv cv V, slF (rI3 .i64) pf cf F])) ?_ (fun hD27 => ?_)
    ·
     rintro ⟨bn24n1, bn25n1⟩
     dsimp only
     refine d_two 7 26 (by kernel_rfl) ?_ ?_
     ·
      refine o_callf rfl rfl rfl rfl (.c rfl (.c rfl .n)) ce58 (con_from (ex := 0) (ey := 0) (ez := 0) (fx := qax) (fy := qay) (fz := qaz) (hbex := by omega) (hbey := by omega) (hbez := by omega) (hbfx := by omega) (hbfy := by omega) (hbfz := by omega)) (.n) ?_
      rintro ⟨pr0n7n1, cr0n7n2, pr1n7n3, cr1n7n4, pr2n7n5, cr2n7n6⟩ -
      dsimp only [List.append_eq, List.nil_append, List.cons_append]
      exact d_weakT (hD19 (pr0n7n1, cr0n7n2, pr1n7n3, cr1n7n4, pr2n7n5, cr2n7n6, bn24n1, bn25n1)) (by kernel_rfl) ((.of rfl) : SubM _ _) .rfl .rfl ((.of [0, 1, 2, 3, 4, 5, 6, 7, 8, 9, 10] rfl) : SelR _ _ _)
     ·
      refine o_ef0W rfl rfl rfl rfl (ef_alloc zr89 rfl) (fun bn26n1 _ => ?_)
      exact d_weakT (hD22 (bn24n1, bn25n1, bn26n1)) (by kernel_rfl) ((.of rfl) : SubM _ _) .rfl .rfl ((.of [0, 1, 2, 3, 4, 5, 6, 7] rfl) : SelR _ _ _)
    refine d_join (X := Nat × Nat) (k' := 7) (L' := #[true, true, true, true, true, true, true, false, true, true, true, true, true, true, true, false, true, true, true, true, true, true, true, false, true, false, true, false, false, false]) (fun (bn24n1, bn26n1) => ([(11, .pointer (some ⟨bn26n1, 0, none⟩)), (9, .pointer (some ⟨bn24n1, 0, none⟩)), (54, .agg #[.int .i64 qcx, .int .i64 qcy, .int .i64 qcz]), (53, .pointer (some ⟨b19, o20, none⟩)), (52, .int .i64 ((F.getD i (0, 0, 0)).2.2)), (51, .pointer (some ⟨b11, 2, none⟩)), (50, .slice pv nv cv), (49, .pointer (some ⟨b1, 0, none⟩)), (48, .agg #[.int .i64 0, .int .i64 0, .int .i64 0]), (46, .agg #[.int .i64 qbx, .int .i64 qby, .int .i64 qbz]), (45, .pointer (some ⟨b16, o17, none⟩)), (44, .int .i64 ((F.getD i (0, 0, 0)).2.1)), (43, .pointer (some ⟨b11, 1, none⟩)), (42, .slice pv nv cv), (41, .pointer (some ⟨b1, 0, none⟩)), (40, .agg #[.int .i64 0, .int .i64 0, .int .i64 0]), (38, .agg #[.int .i64 qax, .int .i64 qay, .int .i64 qaz]), (37, .pointer (some ⟨b13, o14, none⟩)), (36, .int .i64 ((F.getD i (0, 0, 0)).1)), (35, .pointer (some ⟨b11, 0, none⟩)), (34, .slice pv nv cv), (33, .pointer (some ⟨b1, 0, none⟩)), (32, .agg #[.int .i64 0, .int .i64 0, .int .i64 0]), (8, .pointer (some ⟨b12, 0, none⟩)), (31, .agg #[.int .i64 0, .int .i64 0, .int .i64 0]), (7, .pointer (some ⟨b11, 0, none⟩)), (30, .agg #[.int .i64 ((F.getD i (0, 0, 0)).1), .int .i64 ((F.getD i (0, 0, 0)).2.1), .int .i64 ((F.getD i (0, 0, 0)).2.2)]), (29, .pointer (some ⟨b8, o9, none⟩)), (28, .bool (decide (((i : Nat) : Int) < ((nf : Nat) : Int)))), (27, .int .i64 ((i : Nat) : Int)), (26, .int .i64 ((nf : Nat) : Int)), (25, .slice pf nf cf), (5, .pointer (some ⟨b6, 0, none⟩)), (3, .int .i64 0), (2, .pointer (some ⟨b2, 0, none⟩)), (1, .pointer (some ⟨b1, 0, none⟩))], [boxA bn26n1 89 [.bool false, .slice none 0 0, .bool false, .slice none 0 0, .bool false, .slice none 0 0], boxA bn24n1 89 [.bool false, .slice none 0 0, .bool false, .slice none 0 0, .bool false, .slice none 0 0]], [boxA b12 42 [.int .i64 0, .int .i64 0, .int .i64 0], boxA b11 44 [.int .i64 ((F.getD i (0, 0, 0)).1), .int .i64 ((F.getD i (0, 0, 0)).2.1), .int .i64 ((F.getD i (0, 0, 0)).2.2)], boxA b6 34 [.bool (decide (s < 0)), .slice p ((Big.digs ((s).natAbs)).length) c], mapA b23 (fun z : Int => .int .i64 z) (fun z : Int => .int .i64 z) (InK .i64) bm1, boxA b2 34 [.bool false, .slice none 0 0], boxA b1 25 [.slice pv nv cv, .slice pf nf cf]], [atF b19 o20 [.int .i64 qcx, .int .i64 qcy, .int .i64 qcz], atF b16 o17 [.int .i64 qbx, .int .i64 qby, .int .i64 qbz], atF b13 o14 [.int .i64 qax, .int .i64 qay, .int .i64 qaz], atF b8 o9 [.int .i64 ((F.getD i (0, 0, 0)).1), .int .i64 ((F.getD i (0, 0, 0)).2.1), .int .i64 ((F.getD i (0, 0, 0)).2.2)], slF (rI .u32) p c (Big.digs ((s).natAbs)), slF (rI .u32) p24 c25 (Big.digs ((0 : Int).natAbs)), slF (rI3 .i64) pv cv V, slF (rI3 .i64) pf cf F])) ?_ (fun hD28 => ?_)
    ·
     rintro ⟨bn24n1, bn26n1⟩
     dsimp only
     refine d_two 7 25 (by kernel_rfl) ?_ ?_
     ·
      refine o_callf rfl rfl rfl rfl (.c rfl (.c rfl .n)) ce58 (con_from (ex := 0) (ey := 0) (ez := 0) (fx := qax) (fy := qay) (fz := qaz) (hbex := by omega) (hbey := by omega) (hbez := by omega) (hbfx := by omega) (hbfy := by omega) (hbfz := by omega)) (.n) ?_
      rintro ⟨pr0n7n1, cr0n7n2, pr1n7n3, cr1n7n4, pr2n7n5, cr2n7n6⟩ -
      dsimp only [List.append_eq, List.nil_append, List.cons_append]
      exact d_weakT (hD20 (pr0n7n1, cr0n7n2, pr1n7n3, cr1n7n4, pr2n7n5, cr2n7n6, bn24n1, bn26n1)) (by kernel_rfl) ((.of rfl) : SubM _ _) .rfl .rfl ((.of [0, 1, 2, 3, 4, 5, 6, 7, 8, 9, 10] rfl) : SelR _ _ _)
     ·
      refine o_ef0W rfl rfl rfl rfl (ef_alloc zr89 rfl) (fun bn25n1 _ => ?_)
      exact d_weakT (hD22 (bn24n1, bn25n1, bn26n1)) (by kernel_rfl) ((.of rfl) : SubM _ _) (perm_c 1 rfl (perm_c 0 rfl (perm_c 0 rfl .nil))) .rfl ((.of [0, 1, 2, 3, 4, 5, 6, 7] rfl) : SelR _ _ _)
    refine d_join (X := Nat × Nat) (k' := 7) (L' := #[true, true, true, true, true, true, true, false, true, true, true, true, true, true, true, false, true, true, true, true, true, true, true, false, false, true, true, false, false, false]) (fun (bn25n1, bn26n1) => ([(11, .pointer (some ⟨bn26n1, 0, none⟩)), (10, .pointer (some ⟨bn25n1, 0, none⟩)), (54, .agg #[.int .i64 qcx, .int .i64 qcy, .int .i64 qcz]), (53, .pointer (some ⟨b19, o20, none⟩)), (52, .int .i64 ((F.getD i (0, 0, 0)).2.2)), (51, .pointer (some ⟨b11, 2, none⟩)), (50, .slice pv nv cv), (49, .pointer (some ⟨b1, 0, none⟩)), (48, .agg #[.int .i64 0, .int .i64 0, .int .i64 0]), (46, .agg #[.int .i64 qbx, .int .i64 qby, .int .i64 qbz]), (45, .pointer (some ⟨b16, o17, none⟩)), (44, .int .i64 ((F.getD i (0, 0, 0)).2.1)), (43, .pointer (some ⟨b11, 1, none⟩)), (42, .slice pv nv cv), (41, .pointer (some ⟨b1, 0, none⟩)), (40, .agg #[.int .i64 0, .int .i64 0, .int .i64 0]), (38, .agg #[.int .i64 qax, .int .i64 qay, .int .i64 qaz]), (37, .pointer (some ⟨b13, o14, none⟩)), (36, .int .i64 ((F.getD i (0, 0, 0)).1)), (35, .pointer (some ⟨b11, 0, none⟩)), (34, .slice pv nv cv), (33, .pointer (some ⟨b1, 0, none⟩)), (32, .agg #[.int .i64 0, .int .i64 0, .int .i64 0]), (8, .pointer (some ⟨b12, 0, none⟩)), (31, .agg #[.int .i64 0, .int .i64 0, .int .i64 0]), (7, .pointer (some ⟨b11, 0, none⟩)), (30, .agg #[.int .i64 ((F.getD i (0, 0, 0)).1), .int .i64 ((F.getD i (0, 0, 0)).2.1), .int .i64 ((F.getD i (0, 0, 0)).2.2)]), (29, .pointer (some ⟨b8, o9, none⟩)), (28, .bool (decide (((i : Nat) : Int) < ((nf : Nat) : Int)))), (27, .int .i64 ((i : Nat) : Int)), (26, .int .i64 ((nf : Nat) : Int)), (25, .slice pf nf cf), (5, .pointer (some ⟨b6, 0, none⟩)), (3, .int .i64 0), (2, .pointer (some ⟨b2, 0, none⟩)), (1, .pointer (some ⟨b1, 0, none⟩))], [boxA bn26n1 89 [.bool false, .slice none 0 0, .bool false, .slice none 0 0, .bool false, .slice none 0 0], boxA bn25n1 89 [.bool false, .slice none 0 0, .bool false, .slice none 0 0, .bool false, .slice none 0 0]], [boxA b12 42 [.int .i64 0, .int .i64 0, .int .i64 0], boxA b11 44 [.int .i64 ((F.getD i (0, 0, 0)).1), .int .i64 ((F.getD i (0, 0, 0)).2.1), .int .i64 ((F.getD i (0, 0, 0)).2.2)], boxA b6 34 [.bool (decide (s < 0)), .slice p ((Big.digs ((s).natAbs)).length) c], mapA b23 (fun z : Int => .int .i64 z) (fun z : Int => .int .i64 z) (InK .i64) bm1, boxA b2 34 [.bool false, .slice none 0 0], boxA b1 25 [.slice pv nv cv, .slice pf nf cf]], [atF b19 o20 [.int .i64 qcx, .int .i64 qcy, .int .i64 qcz], atF b16 o17 [.int .i64 qbx, .int .i64 qby, .int .i64 qbz], atF b13 o14 [.int .i64 qax, .int .i64 qay, .int .i64 qaz], atF b8 o9 [.int .i64 ((F.getD i (0, 0, 0)).1), .int .i64 ((F.getD i (0, 0, 0)).2.1), .int .i64 ((F.getD i (0, 0, 0)).2.2)], slF (rI .u32) p c (Big.digs ((s).natAbs)), slF (rI .u32) p24 c25 (Big.digs ((0 : Int).natAbs)), slF (rI3 .i64) pv cv V, slF (rI3 .i64) pf cf F])) ?_ (fun hD29 => ?_)
    ·
     rintro ⟨bn25n1, bn26n1⟩
     dsimp only
     refine d_two 7 24 (by kernel_rfl) ?_ ?_
     ·
      refine o_callf rfl rfl rfl rfl (.c rfl (.c rfl .n)) ce58 (con_from (ex := 0) (ey := 0) (ez := 0) (fx := qax) (fy := qay) (fz := qaz) (hbex := by omega) (hbey := by omega) (hbez := by omega) (hbfx := by omega) (hbfy := by omega) (hbfz := by omega)) (.n) ?_
      rintro ⟨pr0n7n1, cr0n7n2, pr1n7n3, cr1n7n4, pr2n7n5, cr2n7n6⟩ -
      dsimp only [List.append_eq, List.nil_append, List.cons_append]
      exact d_weakT (hD21 (pr0n7n1, cr0n7n2, pr1n7n3, cr1n7n4, pr2n7n5, cr2n7n6, bn25n1, bn26n1)) (by kernel_rfl) ((.of rfl) : SubM _ _) .rfl .rfl ((.of [0, 1, 2, 3, 4, 5, 6, 7, 8, 9, 10] rfl) : SelR _ _ _)
     ·
      refine o_ef0W rfl rfl rfl rfl (ef_alloc zr89 rfl) (fun bn24n1 _ => ?_)
      exact d_weakT (hD22 (bn24n1, bn25n1, bn26n1)) (by kernel_rfl) ((.of rfl) : SubM _ _) (perm_c 1 rfl (perm_c 1 rfl (perm_c 0 rfl .nil))) .rfl ((.of [0, 1, 2, 3, 4, 5, 6, 7] rfl) : SelR _ _ _)
    refine d_join (X := Option Addr × Nat × Option Addr × Nat × Option Addr × Nat) (k' := 8) (L' := #[true, true, true, true, true, true, true, true, true, true, true, true, true, true, true, false, true, true, true, true, true, true, true, false, false, false, false, false, false, false]) (fun (pr0n7n1, cr0n7n2, pr1n7n3, cr1n7n4, pr2n7n5, cr2n7n6) => ([(39, .agg #[.bool (decide ((qax - 0) < 0)), .slice pr0n7n1 ((Big.digs ((qax - 0).natAbs)).length) cr0n7n2, .bool (decide ((qay - 0) < 0)), .slice pr1n7n3 ((Big.digs ((qay - 0).natAbs)).length) cr1n7n4, .bool (decide ((qaz - 0) < 0)), .slice pr2n7n5 ((Big.digs ((qaz - 0).natAbs)).length) cr2n7n6]), (54, .agg #[.int .i64 qcx, .int .i64 qcy, .int .i64 qcz]), (53, .pointer (some ⟨b19, o20, none⟩)), (52, .int .i64 ((F.getD i (0, 0, 0)).2.2)), (51, .pointer (some ⟨b11, 2, none⟩)), (50, .slice pv nv cv), (49, .pointer (some ⟨b1, 0, none⟩)), (48, .agg #[.int .i64 0, .int .i64 0, .int .i64 0]), (46, .agg #[.int .i64 qbx, .int .i64 qby, .int .i64 qbz]), (45, .pointer (some ⟨b16, o17, none⟩)), (44, .int .i64 ((F.getD i (0, 0, 0)).2.1)), (43, .pointer (some ⟨b11, 1, none⟩)), (42, .slice pv nv cv), (41, .pointer (some ⟨b1, 0, none⟩)), (40, .agg #[.int .i64 0, .int .i64 0, .int .i64 0]), (38, .agg #[.int .i64 qax, .int .i64 qay, .int .i64 qaz]), (37, .pointer (some ⟨b13, o14, none⟩)), (36, .int .i64 ((F.getD i (0, 0, 0)).1)), (35, .pointer (some ⟨b11, 0, none⟩)), (34, .slice pv nv cv), (33, .pointer (some ⟨b1, 0, none⟩)), (32, .agg #[.int .i64 0, .int .i64 0, .int .i64 0]), (8, .pointer (some ⟨b12, 0, none⟩)), (31, .agg #[.int .i64 0, .int .i64 0, .int .i64 0]), (7, .pointer (some ⟨b11, 0, none⟩)), (30, .agg #[.int .i64 ((F.getD i (0, 0, 0)).1), .int .i64 ((F.getD i (0, 0, 0)).2.1), .int .i64 ((F.getD i (0, 0, 0)).2.2)]), (29, .pointer (some ⟨b8, o9, none⟩)), (28, .bool (decide (((i : Nat) : Int) < ((nf : Nat) : Int)))), (27, .int .i64 ((i : Nat) : Int)), (26, .int .i64 ((nf : Nat) : Int)), (25, .slice pf nf cf), (5, .pointer (some ⟨b6, 0, none⟩)), (3, .int .i64 0), (2, .pointer (some ⟨b2, 0, none⟩)), (1, .pointer (some ⟨b1, 0, none⟩))], [], [boxA b12 42 [.int .i64 0, .int .i64 0, .int .i64 0], boxA b11 44 [.int .i64 ((F.getD i (0, 0, 0)).1), .int .i64 ((F.getD i (0, 0, 0)).2.1), .int .i64 ((F.getD i (0, 0, 0)).2.2)], boxA b6 34 [.bool (decide (s < 0)), .slice p ((Big.digs ((s).natAbs)).length) c], mapA b23 (fun z : Int => .int .i64 z) (fun z : Int => .int .i64 z) (InK .i64) bm1, boxA b2 34 [.bool false, .slice none 0 0], boxA b1 25 [.slice pv nv cv, .slice pf nf cf]], [slF (rI .u32) pr0n7n1 cr0n7n2 (Big.digs ((qax - 0).natAbs)), slF (rI .u32) pr1n7n3 cr1n7n4 (Big.digs ((qay - 0).natAbs)), slF (rI .u32) pr2n7n5 cr2n7n6 (Big.digs ((qaz - 0).natAbs)), atF b19 o20 [.int .i64 qcx, .int .i64 qcy, .int .i64 qcz], atF b16 o17 [.int .i64 qbx, .int .i64 qby, .int .i64 qbz], atF b13 o14 [.int .i64 qax, .int .i64 qay, .int .i64 qaz], atF b8 o9 [.int .i64 ((F.getD i (0, 0, 0)).1), .int .i64 ((F.getD i (0, 0, 0)).2.1), .int .i64 ((F.getD i (0, 0, 0)).2.2)], slF (rI .u32) p c (Big.digs ((s).natAbs)), slF (rI .u32) p24 c25 (Big.digs ((0 : Int).natAbs)), slF (rI3 .i64) pv cv V, slF (rI3 .i64) pf cf F])) ?_ (fun hD30 => ?_)
    ·
     rintro ⟨pr0n7n1, cr0n7n2, pr1n7n3, cr1n7n4, pr2n7n5, cr2n7n6⟩
     dsimp only
     refine d_four 15 24 25 26 (by kernel_rfl) ?_ ?_ ?_ ?_
     ·
      refine o_callf rfl rfl rfl rfl (.c rfl (.c rfl .n)) ce58 (con_from (ex := 0) (ey := 0) (ez := 0) (fx := qbx) (fy := qby) (fz := qbz) (hbex := by omega) (hbey := by omega) (hbez := by omega) (hbfx := by omega) (hbfy := by omega) (hbfz := by omega)) (.n) ?_
      rintro ⟨pr0n15n1, cr0n15n2, pr1n15n3, cr1n15n4, pr2n15n5, cr2n15n6⟩ -
      dsimp only [List.append_eq, List.nil_append, List.cons_append]
      exact d_weakT (hD23 (pr0n7n1, cr0n7n2, pr1n7n3, cr1n7n4, pr2n7n5, cr2n7n6, pr0n15n1, cr0n15n2, pr1n15n3, cr1n15n4, pr2n15n5, cr2n15n6)) (by kernel_rfl) ((.of rfl) : SubM _ _) .rfl .rfl ((.of [0, 1, 2, 3, 4, 5, 6, 7, 8, 9, 10, 11, 12, 13] rfl) : SelR _ _ _)
     ·
      refine o_ef0W rfl rfl rfl rfl (ef_alloc zr89 rfl) (fun bn24n1 _ => ?_)
      exact d_weakT (hD24 (pr0n7n1, cr0n7n2, pr1n7n3, cr1n7n4, pr2n7n5, cr2n7n6, bn24n1)) (by kernel_rfl) ((.of rfl) : SubM _ _) .rfl .rfl ((.of [0, 1, 2, 3, 4, 5, 6, 7, 8, 9, 10] rfl) : SelR _ _ _)
     ·
      refine o_ef0W rfl rfl rfl rfl (ef_alloc zr89 rfl) (fun bn25n1 _ => ?_)
      exact d_weakT (hD25 (pr0n7n1, cr0n7n2, pr1n7n3, cr1n7n4, pr2n7n5, cr2n7n6, bn25n1)) (by kernel_rfl) ((.of rfl) : SubM _ _) .rfl .rfl ((.of [0, 1, 2, 3, 4, 5, 6, 7, 8, 9, 10] rfl) : SelR _ _ _)
     ·
      refine o_ef0W rfl rfl rfl rfl (ef_alloc zr89 rfl) (fun bn26n1 _ => ?_)
      exact d_weakT (hD26 (pr0n7n1, cr0n7n2, pr1n7n3, cr1n7n4, pr2n7n5, cr2n7n6, bn26n1)) (by kernel_rfl) ((.of rfl) : SubM _ _) .rfl .rfl ((.of [0, 1, 2, 3, 4, 5, 6, 7, 8, 9, 10] rfl) : SelR _ _ _)
    refine d_join (X := Nat) (k' := 8) (L' := #[true, true, true, true, true, true, true, false, true, true, true, true, true, true, true, false, true, true, true, true, true, true, true, false, true, false, false, false, false, false]) (fun bn24n1 => ([(9, .pointer (some ⟨bn24n1, 0, none⟩)), (54, .agg #[.int .i64 qcx, .int .i64 qcy, .int .i64 qcz]), (53, .pointer (some ⟨b19, o20, none⟩)), (52, .int .i64 ((F.getD i (0, 0, 0)).2.2)), (51, .pointer (some ⟨b11, 2, none⟩)), (50, .slice pv nv cv), (49, .pointer (some ⟨b1, 0, none⟩)), (48, .agg #[.int .i64 0, .int .i64 0, .int .i64 0]), (46, .agg #[.int .i64 qbx, .int .i64 qby, .int .i64 qbz]), (45, .pointer (some ⟨b16, o17, none⟩)), (44, .int .i64 ((F.getD i (0, 0, 0)).2.1)), (43, .pointer (some ⟨b11, 1, none⟩)), (42, .slice pv nv cv), (41, .pointer (some ⟨b1, 0, none⟩)), (40, .agg #[.int .i64 0, .int .i64 0, .int .i64 0]), (38, .agg #[.int .i64 qax, .int .i64 qay, .int .i64 qaz]), (37, .pointer (some ⟨b13, o14, none⟩)), (36, .int .i64 ((F.getD i (0, 0, 0)).1)), (35, .pointer (some ⟨b11, 0, none⟩)), (34, .slice pv nv cv), (33, .pointer (some ⟨b1, 0, none⟩)), (32, .agg #[.int .i64 0, .int .i64 0, .int .i64 0]), (8, .pointer (some ⟨b12, 0, none⟩)), (31, .agg #[.int .i64 0, .int .i64 0, .int .i64 0]), (7, .pointer (some ⟨b11, 0, none⟩)), (30, .agg #[.int .i64 ((F.getD i (0, 0, 0)).1), .int .i64 ((F.getD i (0, 0, 0)).2.1), .int .i64 ((F.getD i (0, 0, 0)).2.2)]), (29, .pointer (some ⟨b8, o9, none⟩)), (28, .bool (decide (((i : Nat) : Int) < ((nf : Nat) : Int)))), (27, .int .i64 ((i : Nat) : Int)), (26, .int .i64 ((nf : Nat) : Int)), (25, .slice pf nf cf), (5, .pointer (some ⟨b6, 0, none⟩)), (3, .int .i64 0), (2, .pointer (some ⟨b2, 0, none⟩)), (1, .pointer (some ⟨b1, 0, none⟩))], [boxA bn24n1 89 [.bool false, .slice none 0 0, .bool false, .slice none 0 0, .bool false, .slice none 0 0]], [boxA b12 42 [.int .i64 0, .int .i64 0, .int .i64 0], boxA b11 44 [.int .i64 ((F.getD i (0, 0, 0)).1), .int .i64 ((F.getD i (0, 0, 0)).2.1), .int .i64 ((F.getD i (0, 0, 0)).2.2)], boxA b6 34 [.bool (decide (s < 0)), .slice p ((Big.digs ((s).natAbs)).length) c], mapA b23 (fun z : Int => .int .i64 z) (fun z : Int => .int .i64 z) (InK .i64) bm1, boxA b2 34 [.bool false, .slice none 0 0], boxA b1 25 [.slice pv nv cv, .slice pf nf cf]], [atF b19 o20 [.int .i64 qcx, .int .i64 qcy, .int .i64 qcz], atF b16 o17 [.int .i64 qbx, .int .i64 qby, .int .i64 qbz], atF b13 o14 [.int .i64 qax, .int .i64 qay, .int .i64 qaz], atF b8 o9 [.int .i64 ((F.getD i (0, 0, 0)).1), .int .i64 ((F.getD i (0, 0, 0)).2.1), .int .i64 ((F.getD i (0, 0, 0)).2.2)], slF (rI .u32) p c (Big.digs ((s).natAbs)), slF (rI .u32) p24 c25 (Big.digs ((0 : Int).natAbs)), slF (rI3 .i64) pv cv V, slF (rI3 .i64) pf cf F])) ?_ (fun hD31 => ?_)
    ·
     rintro bn24n1
     dsimp only
     refine d_three 7 25 26 (by kernel_rfl) ?_ ?_ ?_
     ·
      refine o_callf rfl rfl rfl rfl (.c rfl (.c rfl .n)) ce58 (con_from (ex := 0) (ey := 0) (ez := 0) (fx := qax) (fy := qay) (fz := qaz) (hbex := by omega) (hbey := by omega) (hbez := by omega) (hbfx := by omega) (hbfy := by omega) (hbfz := by omega)) (.n) ?_
      rintro ⟨pr0n7n1, cr0n7n2, pr1n7n3, cr1n7n4, pr2n7n5, cr2n7n6⟩ -
      dsimp only [List.append_eq, List.nil_append, List.cons_append]
      exact d_weakT (hD24 (pr0n7n1, cr0n7n2, pr1n7n3, cr1n7n4, pr2n7n5, cr2n7n6, bn24n1)) (by kernel_rfl) ((.of rfl) : SubM _ _) .rfl .rfl ((.of [0, 1, 2, 3, 4, 5, 6, 7, 8, 9, 10] rfl) : SelR _ _ _)
     ·
      refine o_ef0W rfl rfl rfl rfl (ef_alloc zr89 rfl) (fun bn25n1 _ => ?_)
      exact d_weakT (hD27 (bn24n1, bn25n1)) (by kernel_rfl) ((.of rfl) : SubM _ _) .rfl .rfl ((.of [0, 1, 2, 3, 4, 5, 6, 7] rfl) : SelR _ _ _)
     ·
      refine o_ef0W rfl rfl rfl rfl (ef_alloc zr89 rfl) (fun bn26n1 _ => ?_)
      exact d_weakT (hD28 (bn24n1, bn26n1)) (by kernel_rfl) ((.of rfl) : SubM _ _) .rfl .rfl ((.of [0, 1, 2, 3, 4, 5, 6, 7] rfl) : SelR _ _ _)
    refine d_join (X := Nat) (k' := 8) (L' := #[true, true, true, true, true, true, true, false, true, true, true, true, true, true, true, false, true, true, true, true, true, true, true, false, false, true, false, false, false, false]) (fun bn25n1 => ([(10, .pointer (some ⟨bn25n1, 0, none⟩)), (54, .agg #[.int .i64 qcx, .int .i64 qcy, .int .i64 qcz]), (53, .pointer (some ⟨b19, o20, none⟩)), (52, .int .i64 ((F.getD i (0, 0, 0)).2.2)), (51, .pointer (some ⟨b11, 2, none⟩)), (50, .slice pv nv cv), (49, .pointer (some ⟨b1, 0, none⟩)), (48, .agg #[.int .i64 0, .int .i64 0, .int .i64 0]), (46, .agg #[.int .i64 qbx, .int .i64 qby, .int .i64 qbz]), (45, .pointer (some ⟨b16, o17, none⟩)), (44, .int .i64 ((F.getD i (0, 0, 0)).2.1)), (43, .pointer (some ⟨b11, 1, none⟩)), (42, .slice pv nv cv), (41, .pointer (some ⟨b1, 0, none⟩)), (40, .agg #[.int .i64 0, .int .i64 0, .int .i64 0]), (38, .agg #[.int .i64 qax, .int .i64 qay, .int .i64 qaz]), (37, .pointer (some ⟨b13, o14, none⟩)), (36, .int .i64 ((F.getD i (0, 0, 0)).1)), (35, .pointer (some ⟨b11, 0, none⟩)), (34, .slice pv nv cv), (33, .pointer (some ⟨b1, 0, none⟩)), (32, .agg #[.int .i64 0, .int .i64 0, .int .i64 0]), (8, .pointer (some ⟨b12, 0, none⟩)), (31, .agg #[.int .i64 0, .int .i64 0, .int .i64 0]), (7, .pointer (some ⟨b11, 0, none⟩)), (30, .agg #[.int .i64 ((F.getD i (0, 0, 0)).1), .int .i64 ((F.getD i (0, 0, 0)).2.1), .int .i64 ((F.getD i (0, 0, 0)).2.2)]), (29, .pointer (some ⟨b8, o9, none⟩)), (28, .bool (decide (((i : Nat) : Int) < ((nf : Nat) : Int)))), (27, .int .i64 ((i : Nat) : Int)), (26, .int .i64 ((nf : Nat) : Int)), (25, .slice pf nf cf), (5, .pointer (some ⟨b6, 0, none⟩)), (3, .int .i64 0), (2, .pointer (some ⟨b2, 0, none⟩)), (1, .pointer (some ⟨b1, 0, none⟩))], [boxA bn25n1 89 [.bool false, .slice none 0 0, .bool false, .slice none 0 0, .bool false, .slice none 0 0]], [boxA b12 42 [.int .i64 0, .int .i64 0, .int .i64 0], boxA b11 44 [.int .i64 ((F.getD i (0, 0, 0)).1), .int .i64 ((F.getD i (0, 0, 0)).2.1), .int .i64 ((F.getD i (0, 0, 0)).2.2)], boxA b6 34 [.bool (decide (s < 0)), .slice p ((Big.digs ((s).natAbs)).length) c], mapA b23 (fun z : Int => .int .i64 z) (fun z : Int => .int .i64 z) (InK .i64) bm1, boxA b2 34 [.bool false, .slice none 0 0], boxA b1 25 [.slice pv nv cv, .slice pf nf cf]], [atF b19 o20 [.int .i64 qcx, .int .i64 qcy, .int .i64 qcz], atF b16 o17 [.int .i64 qbx, .int .i64 qby, .int .i64 qbz], atF b13 o14 [.int .i64 qax, .int .i64 qay, .int .i64 qaz], atF b8 o9 [.int .i64 ((F.getD i (0, 0, 0)).1), .int .i64 ((F.getD i (0, 0, 0)).2.1), .int .i64 ((F.getD i (0, 0, 0)).2.2)], slF (rI .u32) p c (Big.digs ((s).natAbs)), slF (rI .u32) p24 c25 (Big.digs ((0 : Int).natAbs)), slF (rI3 .i64) pv cv V, slF (rI3 .i64) pf cf F])) ?_ (fun hD32 => ?_)
    ·
     rintro bn25n1
     dsimp only
     refine d_three 7 24 26 (by kernel_rfl) ?_ ?_ ?_
     ·
      refine o_callf rfl rfl rfl rfl (.c rfl (.c rfl .n)) ce58 (con_from (ex := 0) (ey := 0) (ez := 0) (fx := qax) (fy := qay) (fz := qaz) (hbex := by omega) (hbey := by omega) (hbez := by omega) (hbfx := by omega) (hbfy := by omega) (hbfz := by omega)) (.n) ?_
      rintro ⟨pr0n7n1, cr0n7n2, pr1n7n3, cr1n7n4, pr2n7n5, cr2n7n6⟩ -
      dsimp only [List.append_eq, List.nil_append, List.cons_append]
      exact d_weakT (hD25 (pr0n7n1, cr0n7n2, pr1n7n3, cr1n7n4, pr2n7n5, cr2n7n6, bn25n1)) (by kernel_rfl) ((.of rfl) : SubM _ _) .rfl .rfl ((.of [0, 1, 2, 3, 4, 5, 6, 7, 8, 9, 10] rfl) : SelR _ _ _)
     ·
      refine o_ef0W rfl rfl rfl rfl (ef_alloc zr89 rfl) (fun bn24n1 _ => ?_)
      exact d_weakT (hD27 (bn24n1, bn25n1)) (by kernel_rfl) ((.of rfl) : SubM _ _) (perm_c 1 rfl (perm_c 0 rfl .nil)) .rfl ((.of [0, 1, 2, 3, 4, 5, 6, 7] rfl) : SelR _ _ _)
     ·
      refine o_ef0W rfl rfl rfl rfl (ef_alloc zr89 rfl) (fun bn26n1 _ => ?_)
      exact d_weakT (hD29 (bn25n1, bn26n1)) (by kernel_rfl) ((.of rfl) : SubM _ _) .rfl .rfl ((.of [0, 1, 2, 3, 4, 5, 6, 7] rfl) : SelR _ _ _)
    refine d_join (X := Nat) (k' := 8) (L' := #[true, true, true, true, true, true, true, false, true, true, true, true, true, true, true, false, true, true, true, true, true, true, true, false, false, false, true, false, false, false]) (fun bn26n1 => ([(11, .pointer (some ⟨bn26n1, 0, none⟩)), (54, .agg #[.int .i64 qcx, .int .i64 qcy, .int .i64 qcz]), (53, .pointer (some ⟨b19, o20, none⟩)), (52, .int .i64 ((F.getD i (0, 0, 0)).2.2)), (51, .pointer (some ⟨b11, 2, none⟩)), (50, .slice pv nv cv), (49, .pointer (some ⟨b1, 0, none⟩)), (48, .agg #[.int .i64 0, .int .i64 0, .int .i64 0]), (46, .agg #[.int .i64 qbx, .int .i64 qby, .int .i64 qbz]), (45, .pointer (some ⟨b16, o17, none⟩)), (44, .int .i64 ((F.getD i (0, 0, 0)).2.1)), (43, .pointer (some ⟨b11, 1, none⟩)), (42, .slice pv nv cv), (41, .pointer (some ⟨b1, 0, none⟩)), (40, .agg #[.int .i64 0, .int .i64 0, .int .i64 0]), (38, .agg #[.int .i64 qax, .int .i64 qay, .int .i64 qaz]), (37, .pointer (some ⟨b13, o14, none⟩)), (36, .int .i64 ((F.getD i (0, 0, 0)).1)), (35, .pointer (some ⟨b11, 0, none⟩)), (34, .slice pv nv cv), (33, .pointer (some ⟨b1, 0, none⟩)), (32, .agg #[.int .i64 0, .int .i64 0, .int .i64 0]), (8, .pointer (some ⟨b12, 0, none⟩)), (31, .agg #[.int .i64 0, .int .i64 0, .int .i64 0]), (7, .pointer (some ⟨b11, 0, none⟩)), (30, .agg #[.int .i64 ((F.getD i (0, 0, 0)).1), .int .i64 ((F.getD i (0, 0, 0)).2.1), .int .i64 ((F.getD i (0, 0, 0)).2.2)]), (29, .pointer (some ⟨b8, o9, none⟩)), (28, .bool (decide (((i : Nat) : Int) < ((nf : Nat) : Int)))), (27, .int .i64 ((i : Nat) : Int)), (26, .int .i64 ((nf : Nat) : Int)), (25, .slice pf nf cf), (5, .pointer (some ⟨b6, 0, none⟩)), (3, .int .i64 0), (2, .pointer (some ⟨b2, 0, none⟩)), (1, .pointer (some ⟨b1, 0, none⟩))], [boxA bn26n1 89 [.bool false, .slice none 0 0, .bool false, .slice none 0 0, .bool false, .slice none 0 0]], [boxA b12 42 [.int .i64 0, .int .i64 0, .int .i64 0], boxA b11 44 [.int .i64 ((F.getD i (0, 0, 0)).1), .int .i64 ((F.getD i (0, 0, 0)).2.1), .int .i64 ((F.getD i (0, 0, 0)).2.2)], boxA b6 34 [.bool (decide (s < 0)), .slice p ((Big.digs ((s).natAbs)).length) c], mapA b23 (fun z : Int => .int .i64 z) (fun z : Int => .int .i64 z) (InK .i64) bm1, boxA b2 34 [.bool false, .slice none 0 0], boxA b1 25 [.slice pv nv cv, .slice pf nf cf]], [atF b19 o20 [.int .i64 qcx, .int .i64 qcy, .int .i64 qcz], atF b16 o17 [.int .i64 qbx, .int .i64 qby, .int .i64 qbz], atF b13 o14 [.int .i64 qax, .int .i64 qay, .int .i64 qaz], atF b8 o9 [.int .i64 ((F.getD i (0, 0, 0)).1), .int .i64 ((F.getD i (0, 0, 0)).2.1), .int .i64 ((F.getD i (0, 0, 0)).2.2)], slF (rI .u32) p c (Big.digs ((s).natAbs)), slF (rI .u32) p24 c25 (Big.digs ((0 : Int).natAbs)), slF (rI3 .i64) pv cv V, slF (rI3 .i64) pf cf F])) ?_ (fun hD33 => ?_)
    ·
     rintro bn26n1
     dsimp only
     refine d_three 7 24 25 (by kernel_rfl) ?_ ?_ ?_
     ·
      refine o_callf rfl rfl rfl rfl (.c rfl (.c rfl .n)) ce58 (con_from (ex := 0) (ey := 0) (ez := 0) (fx := qax) (fy := qay) (fz := qaz) (hbex := by omega) (hbey := by omega) (hbez := by omega) (hbfx := by omega) (hbfy := by omega) (hbfz := by omega)) (.n) ?_
      rintro ⟨pr0n7n1, cr0n7n2, pr1n7n3, cr1n7n4, pr2n7n5, cr2n7n6⟩ -
      dsimp only [List.append_eq, List.nil_append, List.cons_append]
      exact d_weakT (hD26 (pr0n7n1, cr0n7n2, pr1n7n3, cr1n7n4, pr2n7n5, cr2n7n6, bn26n1)) (by kernel_rfl) ((.of rfl) : SubM _ _) .rfl .rfl ((.of [0, 1, 2, 3, 4, 5, 6, 7, 8, 9, 10] rfl) : SelR _ _ _)
     ·
      refine o_ef0W rfl rfl rfl rfl (ef_alloc zr89 rfl) (fun bn24n1 _ => ?_)
      exact d_weakT (hD28 (bn24n1, bn26n1)) (by kernel_rfl) ((.of rfl) : SubM _ _) (perm_c 1 rfl (perm_c 0 rfl .nil)) .rfl ((.of [0, 1, 2, 3, 4, 5, 6, 7] rfl) : SelR _ _ _)
     ·
      refine o_ef0W rfl rfl rfl rfl (ef_alloc zr89 rfl) (fun bn25n1 _ => ?_)
      exact d_weakT (hD29 (bn25n1, bn26n1)) (by kernel_rfl) ((.of rfl) : SubM _ _) (perm_c 1 rfl (perm_c 0 rfl .nil)) .rfl ((.of [0, 1, 2, 3, 4, 5, 6, 7] rfl) : SelR _ _ _)
    refine d_four 7 24 25 26 (by kernel_rfl) ?_ ?_ ?_ ?_
    ·
     refine o_callf rfl rfl rfl rfl (.c rfl (.c rfl .n)) ce58 (con_from (ex := 0) (ey := 0) (ez := 0) (fx := qax) (fy := qay) (fz := qaz) (hbex := by omega) (hbey := by omega) (hbez := by omega) (hbfx := by omega) (hbfy := by omega) (hbfz := by omega)) (.n) ?_
     rintro ⟨pr0n7n1, cr0n7n2, pr1n7n3, cr1n7n4, pr2n7n5, cr2n7n6⟩ -
     dsimp only [List.append_eq, List.nil_append, List.cons_append]
     exact d_weakT (hD30 (pr0n7n1, cr0n7n2, pr1n7n3, cr1n7n4, pr2n7n5, cr2n7n6)) (by kernel_rfl) ((.of rfl) : SubM _ _) .rfl .rfl ((.of [0, 1, 2, 3, 4, 5, 6, 7, 8, 9, 10] rfl) : SelR _ _ _)
    ·
     refine o_ef0W rfl rfl rfl rfl (ef_alloc zr89 rfl) (fun bn24n1 _ => ?_)
     exact d_weakT (hD31 bn24n1) (by kernel_rfl) ((.of rfl) : SubM _ _) .rfl .rfl ((.of [0, 1, 2, 3, 4, 5, 6, 7] rfl) : SelR _ _ _)
    ·
     refine o_ef0W rfl rfl rfl rfl (ef_alloc zr89 rfl) (fun bn25n1 _ => ?_)
     exact d_weakT (hD32 bn25n1) (by kernel_rfl) ((.of rfl) : SubM _ _) .rfl .rfl ((.of [0, 1, 2, 3, 4, 5, 6, 7] rfl) : SelR _ _ _)
    ·
     refine o_ef0W rfl rfl rfl rfl (ef_alloc zr89 rfl) (fun bn26n1 _ => ?_)
     exact d_weakT (hD33 bn26n1) (by kernel_rfl) ((.of rfl) : SubM _ _) .rfl .rfl ((.of [0, 1, 2, 3, 4, 5, 6, 7] rfl) : SelR _ _ _)
   ·
    refine r_exit ?_
    refine p_then_exit ?_
    refine p_then_exit ?_
    refine p_block_here ?_
    refine p_then ?_
    refine r_seq ?_
    refine r_region ?_
    refine r_u rfl rfl (vl_load_box_agg 0 ty34 rfl rfl (.take (.take .nil))) ?_
    refine r_store_box 2 rfl rfl rfl rfl rfl sz34 rfl (.take (.take .nil)) (.s (.s .z)) ?_
    refine r_pv rfl rfl (pv_assign rfl) ?_
    refine r_nil ?_
    refine p_then ?_
    refine r_ret ?_
    obtain ⟨hz1, hz2⟩ := Ms.volC_ok hc0 (fun h => hlen (by have := hB.empty.2 h; omega))
    have hs9 : s = Ms.vol V F := by rw [hz2, hs, List.take_of_length_le (by omega)]
    exact p_ret2 Try.results16 (p, c) trivial (res_box_agg 2 ty34 rfl rfl (.take (.take .nil))) (res_tmp rfl) (by rw [hz1, ← hs9]) (ho := (.n : PickO _ _ _)) ((.e (j := 0) rfl (by rw [← hs9]) .n) : SelR _ _ _)
end Go.Proofs.Ytalfgjpbbongcaa.Sp
namespace Go.Proofs.Ytalfgjpbbongcaa.Sp
open Go
set_option linter.unusedVariables false
set_option maxRecDepth 100000
set_option maxHeartbeats 1000000
theorem con_known   : Con Try.prog 12 [] [] [] (Y := Unit) (fun y => True) (fun y => .bool true) (fun y => []) (fun y => []) := by
 refine con_intro Try.func12 rfl rfl rfl (fun c => ?_)
 show RunC _ _ _ _ _ [] [] []
 refine r_seq ?_
 refine r_region ?_
 refine r_pv rfl rfl (pv_assign rfl) ?_
 refine r_nil ?_
 refine p_then ?_
 refine r_seq ?_
 refine r_region ?_
 refine r_callf rfl rfl (.n) ce44 (con_example  ) (.n) ?_
 rintro ⟨pvA, pfA⟩ -
 dsimp only [List.append_eq, List.nil_append, List.cons_append]
 refine r_callf rfl rfl (.c rfl .n) ce16 (con_Volume (pv := pvA) (nv := 4) (cv := 4) (V := Ms.exV) (pf := pfA) (nf := 4) (cf := 4) (F := Ms.exF) (hnv := by first | rfl | assumption | decide | (simp [Ms.exV, Ms.exF]; done)) (hnf := by first | rfl | assumption | decide | (simp [Ms.exV, Ms.exF]; done))) (.c (j := 0) rfl (.c (j := 1) rfl .n)) ?_
 rintro ⟨p31, c32⟩ -
 dsimp only [List.append_eq, List.nil_append, List.cons_append]
 have e3 : Ms.volC Ms.exV Ms.exF = 0 := by exact Ms.ex_volC
 rw [e3]
 have e4 : Ms.vol Ms.exV Ms.exF = (1 : Int) := by exact Ms.ex_vol
 rw [e4]
 refine r_pv rfl rfl (pv_move rfl) ?_
 refine r_pv rfl rfl (pv_extract rfl rfl) ?_
 refine r_pv rfl rfl (pv_extract rfl rfl) ?_
 refine r_new rfl rfl (ef_alloc zr34 rfl) (fun b5 => ?_)
 refine r_store_box 0 rfl rfl rfl rfl rfl sz34 rfl (.take (.take .nil)) .z ?_
 refine r_pv rfl rfl (pv_assign rfl) ?_
 refine r_nil ?_
 refine p_then ?_
 refine r_seq ?_
 refine r_region ?_
 refine r_callf rfl rfl (.n) ce44 (con_example  ) (.n) ?_
 rintro ⟨pvB, pfB⟩ -
 dsimp only [List.append_eq, List.nil_append, List.cons_append]
 refine r_call1 rfl rfl (.c rfl .n) ce25 (con_Euler (pv := pvB) (nv := 4) (cv := 4) (V := Ms.exV) (pf := pfB) (nf := 4) (cf := 4) (F := Ms.exF) (hnv := by first | rfl | assumption | decide | (simp [Ms.exV, Ms.exF]; done)) (hnf := by first | rfl | assumption | decide | (simp [Ms.exV, Ms.exF]; done))) (.c (j := 0) rfl (.c (j := 1) rfl .n)) ?_
 have e6 : Ms.check Ms.exV Ms.exF = 0 := by exact Ms.ex_check
 rw [e6]
 have e7 : Ms.eulerR Ms.exV Ms.exF = 2 := by exact Ms.ex_euler
 rw [e7]
 refine r_pv rfl rfl (pv_move rfl) ?_
 refine r_pv rfl rfl (pv_extract rfl rfl) ?_
 refine r_pv rfl rfl (pv_extract rfl rfl) ?_
 refine r_pv rfl rfl (pv_assign rfl) ?_
 refine r_pv rfl rfl (pv_assign rfl) ?_
 refine r_nil ?_
 refine p_then ?_
 refine r_seq ?_
 refine r_region ?_
 refine r_callf rfl rfl (.n) ce44 (con_example  ) (.n) ?_
 rintro ⟨pvC, pfC⟩ -
 dsimp only [List.append_eq, List.nil_append, List.cons_append]
 refine r_new rfl rfl (ef_alloc zr25 rfl) (fun b8 => ?_)
 refine r_store_box 0 rfl rfl rfl rfl rfl sz25 rfl (.take (.take .nil)) .z ?_
 refine r_nil ?_
 refine p_then ?_
 refine r_seq ?_
 refine r_region ?_
 refine r_pv rfl rfl (pv_fieldAddr Try.underlying25 rfl sz23 rfl rfl) ?_
 refine r_u rfl rfl (vl_load_box_one 0 ty23 rfl rfl rfl) ?_
 refine r_pv rfl rfl (pv_slice0 (hi := 3) Try.underlying23 sz44 rfl (.s rfl) (.inr ⟨_, rfl⟩) (by first | omega | decide)) ?_
 refine r_more (slF_take 1 rfl 3 (by first | omega | decide)) (fun _ _ => ?_)
 refine r_pv rfl rfl (pv_fieldAddr Try.underlying25 rfl sz23 rfl rfl) ?_
 refine r_store_box 0 rfl rfl rfl rfl rfl sz23 rfl (.skip (.take .nil)) .z ?_
 refine r_nil ?_
 refine p_then ?_
 refine r_seq ?_
 refine r_region ?_
 refine r_u rfl rfl (vl_load_box_agg 0 ty25 rfl rfl (.take (.take .nil))) ?_
 refine r_callf rfl rfl (.c rfl .n) ce23 (con_Borders (pv := pvC) (nv := 4) (cv := 4) (V := Ms.exV) (pf := pfC) (nf := 3) (cf := 4) (F := (Ms.exF.take 3)) (hnv := by first | rfl | assumption | decide | (simp [Ms.exV, Ms.exF]; done)) (hnf := by first | rfl | assumption | decide | (simp [Ms.exV, Ms.exF]; done))) (.c (j := 1) rfl (.c (j := 0) rfl .n)) ?_
 rintro ⟨p29, c210, bm1⟩ hB
 dsimp only [List.append_eq, List.nil_append, List.cons_append]
 replace hB : Ms.check Ms.exV (Ms.exF.take 3) = 0 → Ms.BMap (Ms.exF.take 3) bm1 := hB
 have e11 : Ms.check Ms.exV (Ms.exF.take 3) = 0 := by exact Ms.ex_open
 rw [e11]
 have e12 : Ms.bordersR Ms.exV (Ms.exF.take 3) bm1 = Ms.exL := by exact Ms.ex_borders (hB Ms.ex_open)
 rw [e12]
 refine r_pv rfl rfl (pv_move rfl) ?_
 refine r_pv rfl rfl (pv_extract rfl rfl) ?_
 refine r_pv rfl rfl (pv_extract rfl rfl) ?_
 refine r_pv rfl rfl (pv_assign rfl) ?_
 refine r_pv rfl rfl (pv_assign rfl) ?_
 refine r_nil ?_
 refine p_then ?_
 refine r_seq ?_
 refine r_draw (OW := []) (O := [boxA b8 25 [.slice pvC 4 4, .slice pfC 3 4], boxA b5 34 [.bool (decide ((1 : Int) < 0)), .slice p31 ((Big.digs ((1 : Int).natAbs)).length) c32]]) 100000 mixed (.then .ret) (by kernel_rfl) ?_
 refine d_pv 0 rfl rfl (by kernel_rfl) (by kernel_rfl) rfl rfl (pv_move rfl) ?_
 refine d_pv 1 rfl rfl (by kernel_rfl) (by kernel_rfl) rfl rfl (pv_eql rfl rfl) ?_
 refine d_pv 2 rfl rfl (by kernel_rfl) (by kernel_rfl) rfl rfl (pv_move rfl) ?_
 refine d_pv 3 rfl rfl (by kernel_rfl) (by kernel_rfl) rfl rfl (pv_move rfl) ?_
 refine d_pv 4 rfl rfl (by kernel_rfl) (by kernel_rfl) rfl rfl (pv_eql rfl rfl) ?_
 refine d_pv 5 rfl rfl (by kernel_rfl) (by kernel_rfl) rfl rfl (pv_pick rfl rfl) ?_
 refine d_pv 6 rfl rfl (by kernel_rfl) (by kernel_rfl) rfl rfl (pv_move rfl) ?_
 refine d_pv 7 rfl rfl (by kernel_rfl) (by kernel_rfl) rfl rfl (pv_move rfl) ?_
 refine d_pv 8 rfl rfl (by kernel_rfl) (by kernel_rfl) rfl rfl (pv_eql rfl rfl) ?_
 refine d_pv 9 rfl rfl (by kernel_rfl) (by kernel_rfl) rfl rfl (pv_pick rfl rfl) ?_
 refine d_pv 10 rfl rfl (by kernel_rfl) (by kernel_rfl) rfl rfl (pv_move rfl) ?_
 refine d_u 11 rfl rfl (by kernel_rfl) (by kernel_rfl) rfl rfl (vl_load_box_agg 1 ty34 rfl rfl (.take (.take .nil))) ?_
 refine d_one 12 (by kernel_rfl) (o_callf rfl rfl rfl rfl (.c rfl .n) ce45 (rcon_Of (z := (1 : Int)) (hz := by first | rfl | assumption | decide | (simp [Ms.exV, Ms.exF]; done))) (.n) ?_)
 rintro ⟨p213, c214⟩ -
 dsimp only [List.append_eq, List.nil_append, List.cons_append]
 refine d_one 13 (by kernel_rfl) (o_call1 rfl rfl rfl rfl (.c rfl (.c rfl .n)) ce18 (rcon_SameZ (x1 := (1 : Int)) (x2 := (1 : Int)) (p1 := p31) (c1 := c32) (p2 := p213) (c2 := c214) ) (.c (j := 7) rfl (.c (j := 0) rfl .n)) ?_)
 rw [show (decide ((1 : Int) = (1 : Int))) = true from by decide]
 refine d_pv 14 rfl rfl (by kernel_rfl) (by kernel_rfl) rfl rfl (pv_pick rfl rfl) ?_
 refine d_pv 15 rfl rfl (by kernel_rfl) (by kernel_rfl) rfl rfl (pv_move rfl) ?_
 refine d_pv 16 rfl rfl (by kernel_rfl) (by kernel_rfl) rfl rfl (pv_move rfl) ?_
 refine d_pv 17 rfl rfl (by kernel_rfl) (by kernel_rfl) rfl rfl (pv_eql rfl rfl) ?_
 refine d_pv 18 rfl rfl (by kernel_rfl) (by kernel_rfl) rfl rfl (pv_pick rfl rfl) ?_
 refine d_pv 19 rfl rfl (by kernel_rfl) (by kernel_rfl) rfl rfl (pv_move rfl) ?_
 refine d_pv 20 rfl rfl (by kernel_rfl) (by kernel_rfl) rfl rfl (pv_move rfl) ?_
 refine d_pv 21 rfl rfl (by kernel_rfl) (by kernel_rfl) rfl rfl (pv_len Try.underlying37 rfl) ?_
 have e15 : (((Ms.exL).length : Nat) : Int) = 1 := by rfl
 rw [e15]
 refine d_pv 22 rfl rfl (by kernel_rfl) (by kernel_rfl) rfl rfl (pv_eql rfl rfl) ?_
 refine d_pv 23 rfl rfl (by kernel_rfl) (by kernel_rfl) rfl rfl (pv_pick rfl rfl) ?_
 refine d_pv 24 rfl rfl (by kernel_rfl) (by kernel_rfl) rfl rfl (pv_move rfl) ?_
 refine d_pv 25 rfl rfl (by kernel_rfl) (by kernel_rfl) rfl rfl (pv_move rfl) ?_
 refine d_vl 26 rfl rfl (by kernel_rfl) (by kernel_rfl) rfl rfl (vl_index (x0 := (Ms.exL.getD 0 [])) 1 0 rfl Try.underlying37 sz50 rfl (by first | rfl | assumption | (simp_all; done) | omega) rfl rfl (gD (d := []) (by first | omega | decide))) ?_
 rintro ⟨b16, o17, p18, c19⟩ -
 dsimp only [List.append_eq, List.nil_append, List.cons_append]
 refine d_u 27 rfl rfl (by kernel_rfl) (by kernel_rfl) rfl rfl (vl_load_at_one (j := 0) 0 ty50 rfl rfl rfl rfl) ?_
 refine d_one 28 (by kernel_rfl) (o_ef0 rfl rfl rfl rfl (ef_buildSlice_fl (enc := fun z : Int => [.int .i64 z]) (ok := InK .i64) (h1 := fun _ => rfl) (h2 := fun _ => rfl) (k := 3) Try.underlying50 inf3 rfl (by decide) (by decide) (by decide) (.c (x := 1) rfl rfl (fun _ _ => by exact inK_i64.2 (by omega)) (.c (x := 3) rfl rfl (fun _ _ => by exact inK_i64.2 (by omega)) (.c (x := 2) rfl rfl (fun _ _ => by exact inK_i64.2 (by omega)) .n)))) (fun b20 _ => ?_))
 refine d_freeze 0 rfl .z ?_
 refine d_one 29 (by kernel_rfl) (o_call1 rfl rfl rfl rfl (.c rfl (.c rfl .n)) ce28 (con_Eqint (p1 := p18) (n1 := (Ms.exL.getD 0 []).length) (c1 := c19) (l1 := (Ms.exL.getD 0 [])) (p2 := some ⟨b20, 0, none⟩) (n2 := 3) (c2 := 3) (l2 := [1, 3, 2]) (hn1 := by first | rfl | assumption | decide | (simp [Ms.exV, Ms.exF]; done)) (hn2 := by first | rfl | assumption | decide | (simp [Ms.exV, Ms.exF]; done))) (.c (j := 2) rfl (.c (j := 0) rfl .n)) ?_)
 rw [show (decide ((Ms.exL.getD 0 []) = ([1, 3, 2]))) = true from by decide]
 refine d_pv 30 rfl rfl (by kernel_rfl) (by kernel_rfl) rfl rfl (pv_pick rfl rfl) ?_
 refine d_pv 31 rfl rfl (by kernel_rfl) (by kernel_rfl) rfl rfl (pv_move rfl) ?_
 refine d_u 32 rfl rfl (by kernel_rfl) (by kernel_rfl) rfl rfl (vl_load_box_agg 1 ty25 rfl rfl (.take (.take .nil))) ?_
 refine d_one 33 (by kernel_rfl) (o_call1 rfl rfl rfl rfl (.c rfl .n) ce14 (con_Check (pv := pvC) (nv := 4) (cv := 4) (V := Ms.exV) (pf := pfC) (nf := 3) (cf := 4) (F := (Ms.exF.take 3)) (hnv := by first | rfl | assumption | decide | (simp [Ms.exV, Ms.exF]; done)) (hnf := by first | rfl | assumption | decide | (simp [Ms.exV, Ms.exF]; done))) (.c (j := 6) rfl (.c (j := 5) rfl .n)) ?_)
 have e21 : Ms.check Ms.exV (Ms.exF.take 3) = 0 := by exact Ms.ex_open
 rw [e21]
 refine d_pv 34 rfl rfl (by kernel_rfl) (by kernel_rfl) rfl rfl (pv_eql rfl rfl) ?_
 refine d_pv 35 rfl rfl (by kernel_rfl) (by kernel_rfl) rfl rfl (pv_pick rfl rfl) ?_
 refine d_pv 36 rfl rfl (by kernel_rfl) (by kernel_rfl) rfl rfl (pv_assign rfl) ?_
 refine d_done (by kernel_rfl) ?_
 refine p_then ?_
 refine r_ret ?_
 exact p_ret1 Try.results12 () trivial (res_tmp rfl) rfl (ho := (.n : PickO _ _ _)) (.n : SelR _ _ _)
end Go.Proofs.Ytalfgjpbbongcaa.Sp
namespace Go.Proofs.Ytalfgjpbbongcaa.Sp
open Go
set_option linter.unusedVariables false
set_option maxRecDepth 100000
set_option maxHeartbeats 1000000
theorem con_lparts {pv : Option Addr} {nv : Nat} {cv : Nat} {V : List (Int × Int × Int)} {pf : Option Addr} {nf : Nat} {cf : Nat} {F : List (Int × Int × Int)} (hnv : V.length = nv) (hnf : F.length = nf) (hg : Ms.Good V F) : Con Try.prog 29 [.agg #[.slice pv nv cv, .slice pf nf cf]] [] [slF (rI3 .i64) pv cv V, slF (rI3 .i64) pf cf F] (Y := (Option Addr)) (fun y => True) (fun y => .slice y nf nf) (fun y => []) (fun y => [slF (rI .i64) y nf (Ms.partsL F)]) := by
 refine con_intro Try.func29 rfl rfl rfl (fun c => ?_)
 show RunC _ _ _ _ _ [(0, .agg #[.slice pv nv cv, .slice pf nf cf])] [] [slF (rI3 .i64) pv cv V, slF (rI3 .i64) pf cf F]
 refine c_len 0 rfl (fun hL0 => ?_)
 refine c_len 1 rfl (fun hL1 => ?_)
 have hnv5 : nv ≤ 512 := by have := hg.nv; omega
 have hnf5 : nf ≤ 1024 := by have := hg.nf; omega
 refine r_seq ?_
 refine r_region ?_
 refine r_new rfl rfl (ef_box rfl rfl) (fun b1 => ?_)
 refine r_pv rfl rfl (pv_assign rfl) ?_
 refine r_nil ?_
 refine p_then ?_
 refine r_seq ?_
 refine r_region ?_
 refine r_pv rfl rfl (pv_fieldAddr Try.underlying25 rfl sz23 rfl rfl) ?_
 refine r_u rfl rfl (vl_load_box_one 0 ty23 rfl rfl rfl) ?_
 refine r_pv rfl rfl (pv_len Try.underlying23 rfl) ?_
 refine r_ef0 rfl rfl (ef_make (r := rI .i64) (k := nf) (x0 := 0) (γ0 := ()) Try.underlying50 inf3 rfl rfl rfl rfl (by omega) (by omega) rfl (fun _ _ => by exact inK_i64.2 (by decide)) (by decide)) (fun b2 _ => ?_)
 refine r_pv rfl rfl (pv_assign rfl) ?_
 refine r_nil ?_
 refine p_then ?_
 refine r_seq ?_
 refine r_seq ?_
 refine r_region ?_
 refine r_pv rfl rfl (pv_move rfl) ?_
 refine r_pv rfl rfl (pv_len Try.underlying50 rfl) ?_
 refine r_pv rfl rfl (pv_move rfl) ?_
 refine r_nil ?_
 refine p_then ?_
 refine r_block ?_
 refine r_loop (X := Nat × (List Int)) (fun x : Nat × (List Int) => x.1 ≤ nf ∧ x.2.length = nf ∧ ∀ k, k < x.1 → x.2.getD k 0 = (k : Int)) (fun x => [(18, .int .i64 ((x.1 : Nat) : Int)), (17, .int .i64 ((nf : Nat) : Int)), (3, .slice (some ⟨b2, 0, none⟩) nf nf), (2, .slice none 0 0), (1, .pointer (some ⟨b1, 0, none⟩))]) (fun x => [rowA 3 (rI .i64) (some ⟨b2, 0, none⟩) nf (x.2), boxA b1 25 [.slice pv nv cv, .slice pf nf cf]]) (fun x => [slF (rI3 .i64) pv cv V, slF (rI3 .i64) pf cf F]) (fun x : Nat × (List Int) => nf - x.1) (0, (List.replicate nf (0 : Int))) (show 0 ≤ nf ∧ (List.replicate nf (0 : Int)).length = nf ∧ ∀ k, k < 0 → (List.replicate nf (0 : Int)).getD k 0 = (k : Int) from by exact ⟨Nat.zero_le _, by simp, fun k h => by omega⟩) ((.e rfl (by first | rfl | (congr 1; omega) | simp_all) (.of rfl)) : SubM _ _) (ho := ((.e (i := 0) rfl (by first | rfl | (congr 1; omega) | simp_all) (.c (i := 0) rfl .n)) : PickO _ _ _)) ((.of [0, 1] rfl) : SelR _ _ _) ?_
 rintro ⟨i, A⟩ hI
 replace hI : i ≤ nf ∧ A.length = nf ∧ ∀ k, k < i → A.getD k 0 = (k : Int) := hI
 show RunC _ _ _ _ _ [(18, .int .i64 ((i : Nat) : Int)), (17, .int .i64 ((nf : Nat) : Int)), (3, .slice (some ⟨b2, 0, none⟩) nf nf), (2, .slice none 0 0), (1, .pointer (some ⟨b1, 0, none⟩))] [rowA 3 (rI .i64) (some ⟨b2, 0, none⟩) nf A, boxA b1 25 [.slice pv nv cv, .slice pf nf cf]] [slF (rI3 .i64) pv cv V, slF (rI3 .i64) pf cf F]
 obtain ⟨hi, hAl, hA⟩ := hI
 refine r_seq ?_
 refine r_region ?_
 refine r_pv rfl rfl (pv_lss rfl rfl) ?_
 refine r_nil ?_
 refine p_then ?_
 refine r_seq ?_
 refine r_cond rfl (fun h3 => ?_) (fun h3 => ?_)
 ·
  refine r_skip ?_
  refine p_then ?_
  refine r_seq ?_
  refine r_block ?_
  refine r_seq ?_
  refine r_region ?_
  refine r_pv rfl rfl (pv_move rfl) ?_
  refine r_pv rfl rfl (pv_assign rfl) ?_
  refine r_nil ?_
  refine p_then ?_
  refine r_region ?_
  refine r_pv rfl rfl (pv_move rfl) ?_
  refine r_pv rfl rfl (pv_move rfl) ?_
  refine r_pv rfl rfl (pv_move rfl) ?_
  refine r_pv rfl rfl (pv_index_sl (j := i) Try.underlying50 sz3 rfl rfl rfl (by omega)) ?_
  refine r_ef1 0 rfl rfl rfl (ef_store_row (j := i) (x0 := ((i : Nat) : Int)) (γ0 := ()) rfl rfl (by first | omega | (rw [List.length_map]; omega) | (simp only [List.length_set]; omega) | (simp; omega)) rfl rfl sz3 (fun _ _ => by exact inK_i64.2 (by omega))) (fun _ => .z) (fun _ _ => ?_)
  refine r_nil ?_
  refine p_block ?_
  refine p_then ?_
  refine r_region ?_
  refine r_pv rfl rfl (pv_add (z := (((i + 1) : Nat) : Int)) rfl rfl (w64 (by omega))) ?_
  refine r_pv rfl rfl (pv_move rfl) ?_
  refine r_nil ?_
  refine p_next ((i + 1), (A.set i ((i : Nat) : Int))) (show (i + 1) ≤ nf ∧ (A.set i ((i : Nat) : Int)).length = nf ∧ ∀ k, k < (i + 1) → (A.set i ((i : Nat) : Int)).getD k 0 = (k : Int) from by exact ⟨by omega, Ms.set_keep hAl (by omega) hA⟩) (by show nf - (i + 1) < nf - i; omega) ((.of rfl) : SubM _ _) (ho := ((.of [0, 0] rfl) : PickO _ _ _)) ((.of [0, 1] rfl) : SelR _ _ _)
 ·
  refine r_exit ?_
  refine p_then_exit ?_
  refine p_then_exit ?_
  refine p_block_here ?_
  refine p_then ?_
  refine r_seq ?_
  refine r_seq ?_
  have hA0 : A = Ms.labs F nf 0 := Ms.labs_zero hAl (fun k hk => hA k (by omega))
  refine r_region ?_
  refine r_pv rfl rfl (pv_fieldAddr Try.underlying25 rfl sz23 rfl rfl) ?_
  refine r_u rfl rfl (vl_load_box_one 1 ty23 rfl rfl rfl) ?_
  refine r_pv rfl rfl (pv_len Try.underlying23 rfl) ?_
  refine r_pv rfl rfl (pv_move rfl) ?_
  refine r_nil ?_
  refine p_then ?_
  refine r_block ?_
  refine r_loop (X := Nat × (List Int)) (fun x : Nat × (List Int) => x.1 ≤ nf ∧ x.2 = Ms.labs F nf x.1) (fun x => [(29, .int .i64 ((x.1 : Nat) : Int)), (28, .int .i64 ((nf : Nat) : Int)), (3, .slice (some ⟨b2, 0, none⟩) nf nf), (2, .slice none 0 0), (1, .pointer (some ⟨b1, 0, none⟩))]) (fun x => [rowA 3 (rI .i64) (some ⟨b2, 0, none⟩) nf (x.2), boxA b1 25 [.slice pv nv cv, .slice pf nf cf]]) (fun x => [slF (rI3 .i64) pv cv V, slF (rI3 .i64) pf cf F]) (fun x : Nat × (List Int) => nf - x.1) (0, A) (show 0 ≤ nf ∧ A = Ms.labs F nf 0 from by exact ⟨Nat.zero_le _, hA0⟩) ((.e rfl (by first | rfl | (congr 1; omega) | simp_all) (.of rfl)) : SubM _ _) (ho := ((.of [0, 0] rfl) : PickO _ _ _)) ((.of [0, 1] rfl) : SelR _ _ _) ?_
  rintro ⟨r, B⟩ hI
  replace hI : r ≤ nf ∧ B = Ms.labs F nf r := hI
  show RunC _ _ _ _ _ [(29, .int .i64 ((r : Nat) : Int)), (28, .int .i64 ((nf : Nat) : Int)), (3, .slice (some ⟨b2, 0, none⟩) nf nf), (2, .slice none 0 0), (1, .pointer (some ⟨b1, 0, none⟩))] [rowA 3 (rI .i64) (some ⟨b2, 0, none⟩) nf B, boxA b1 25 [.slice pv nv cv, .slice pf nf cf]] [slF (rI3 .i64) pv cv V, slF (rI3 .i64) pf cf F]
  obtain ⟨hr, hB⟩ := hI
  have hBl : B.length = nf := by rw [hB]; exact Ms.labs_len _ _ _
  refine r_seq ?_
  refine r_region ?_
  refine r_pv rfl rfl (pv_lss rfl rfl) ?_
  refine r_nil ?_
  refine p_then ?_
  refine r_seq ?_
  refine r_cond rfl (fun h4 => ?_) (fun h4 => ?_)
  ·
   refine r_skip ?_
   refine p_then ?_
   refine r_seq ?_
   refine r_block ?_
   refine r_seq ?_
   refine r_region ?_
   refine r_pv rfl rfl (pv_fieldAddr Try.underlying25 rfl sz23 rfl rfl) ?_
   refine r_u rfl rfl (vl_load_box_one 1 ty23 rfl rfl rfl) ?_
   refine r_pv rfl rfl (pv_len Try.underlying23 rfl) ?_
   refine r_pv rfl rfl (pv_move rfl) ?_
   refine r_nil ?_
   refine p_then ?_
   refine r_block ?_
   refine r_loop (X := Nat × (List Int)) (fun x : Nat × (List Int) => x.1 ≤ nf ∧ x.2 = (List.range x.1).foldl (Ms.rrow F nf) B) (fun x => [(34, .int .i64 ((x.1 : Nat) : Int)), (33, .int .i64 ((nf : Nat) : Int)), (32, .slice pf nf cf), (31, .pointer (some ⟨b1, 1, none⟩)), (30, .bool (decide (((r : Nat) : Int) < ((nf : Nat) : Int)))), (29, .int .i64 ((r : Nat) : Int)), (28, .int .i64 ((nf : Nat) : Int)), (3, .slice (some ⟨b2, 0, none⟩) nf nf), (2, .slice none 0 0), (1, .pointer (some ⟨b1, 0, none⟩))]) (fun x => [rowA 3 (rI .i64) (some ⟨b2, 0, none⟩) nf (x.2), boxA b1 25 [.slice pv nv cv, .slice pf nf cf]]) (fun x => [slF (rI3 .i64) pv cv V, slF (rI3 .i64) pf cf F]) (fun x : Nat × (List Int) => nf - x.1) (0, B) (show 0 ≤ nf ∧ B = (List.range 0).foldl (Ms.rrow F nf) B from by exact ⟨Nat.zero_le _, rfl⟩) ((.e rfl (by first | rfl | (congr 1; omega) | simp_all) (.of rfl)) : SubM _ _) (ho := ((.of [0, 0] rfl) : PickO _ _ _)) ((.of [0, 1] rfl) : SelR _ _ _) ?_
   rintro ⟨a, C⟩ hJ
   replace hJ : a ≤ nf ∧ C = (List.range a).foldl (Ms.rrow F nf) B := hJ
   show RunC _ _ _ _ _ [(34, .int .i64 ((a : Nat) : Int)), (33, .int .i64 ((nf : Nat) : Int)), (32, .slice pf nf cf), (31, .pointer (some ⟨b1, 1, none⟩)), (30, .bool (decide (((r : Nat) : Int) < ((nf : Nat) : Int)))), (29, .int .i64 ((r : Nat) : Int)), (28, .int .i64 ((nf : Nat) : Int)), (3, .slice (some ⟨b2, 0, none⟩) nf nf), (2, .slice none 0 0), (1, .pointer (some ⟨b1, 0, none⟩))] [rowA 3 (rI .i64) (some ⟨b2, 0, none⟩) nf C, boxA b1 25 [.slice pv nv cv, .slice pf nf cf]] [slF (rI3 .i64) pv cv V, slF (rI3 .i64) pf cf F]
   obtain ⟨ha, hC⟩ := hJ
   have hCl : C.length = nf := by rw [hC, Ms.rrow_len F nf 0]; exact hBl
   refine r_seq ?_
   refine r_region ?_
   refine r_pv rfl rfl (pv_lss rfl rfl) ?_
   refine r_nil ?_
   refine p_then ?_
   refine r_seq ?_
   refine r_cond rfl (fun h5 => ?_) (fun h5 => ?_)
   ·
    refine r_skip ?_
    refine p_then ?_
    refine r_seq ?_
    refine r_block ?_
    refine r_seq ?_
    refine r_region ?_
    refine r_pv rfl rfl (pv_move rfl) ?_
    refine r_pv rfl rfl (pv_assign rfl) ?_
    refine r_nil ?_
    refine p_then ?_
    refine r_seq ?_
    refine r_region ?_
    refine r_pv rfl rfl (pv_fieldAddr Try.underlying25 rfl sz23 rfl rfl) ?_
    refine r_u rfl rfl (vl_load_box_one 1 ty23 rfl rfl rfl) ?_
    refine r_pv rfl rfl (pv_len Try.underlying23 rfl) ?_
    refine r_pv rfl rfl (pv_move rfl) ?_
    refine r_nil ?_
    refine p_then ?_
    refine r_block ?_
    refine r_loop (X := Nat × (List Int)) (fun x : Nat × (List Int) => x.1 ≤ nf ∧ x.2 = (List.range x.1).foldl (Ms.rstep F a) C) (fun x => [(40, .int .i64 ((x.1 : Nat) : Int)), (39, .int .i64 ((nf : Nat) : Int)), (38, .slice pf nf cf), (37, .pointer (some ⟨b1, 1, none⟩)), (5, .int .i64 ((a : Nat) : Int)), (36, .int .i64 ((a : Nat) : Int)), (35, .bool (decide (((a : Nat) : Int) < ((nf : Nat) : Int)))), (34, .int .i64 ((a : Nat) : Int)), (33, .int .i64 ((nf : Nat) : Int)), (32, .slice pf nf cf), (31, .pointer (some ⟨b1, 1, none⟩)), (30, .bool (decide (((r : Nat) : Int) < ((nf : Nat) : Int)))), (29, .int .i64 ((r : Nat) : Int)), (28, .int .i64 ((nf : Nat) : Int)), (3, .slice (some ⟨b2, 0, none⟩) nf nf), (2, .slice none 0 0), (1, .pointer (some ⟨b1, 0, none⟩))]) (fun x => [rowA 3 (rI .i64) (some ⟨b2, 0, none⟩) nf (x.2), boxA b1 25 [.slice pv nv cv, .slice pf nf cf]]) (fun x => [slF (rI3 .i64) pv cv V, slF (rI3 .i64) pf cf F]) (fun x : Nat × (List Int) => nf - x.1) (0, C) (show 0 ≤ nf ∧ C = (List.range 0).foldl (Ms.rstep F a) C from by exact ⟨Nat.zero_le _, rfl⟩) ((.e rfl (by first | rfl | (congr 1; omega) | simp_all) (.of rfl)) : SubM _ _) (ho := ((.of [0, 0] rfl) : PickO _ _ _)) ((.of [0, 1] rfl) : SelR _ _ _) ?_
    rintro ⟨b, D⟩ hK
    replace hK : b ≤ nf ∧ D = (List.range b).foldl (Ms.rstep F a) C := hK
    show RunC _ _ _ _ _ [(40, .int .i64 ((b : Nat) : Int)), (39, .int .i64 ((nf : Nat) : Int)), (38, .slice pf nf cf), (37, .pointer (some ⟨b1, 1, none⟩)), (5, .int .i64 ((a : Nat) : Int)), (36, .int .i64 ((a : Nat) : Int)), (35, .bool (decide (((a : Nat) : Int) < ((nf : Nat) : Int)))), (34, .int .i64 ((a : Nat) : Int)), (33, .int .i64 ((nf : Nat) : Int)), (32, .slice pf nf cf), (31, .pointer (some ⟨b1, 1, none⟩)), (30, .bool (decide (((r : Nat) : Int) < ((nf : Nat) : Int)))), (29, .int .i64 ((r : Nat) : Int)), (28, .int .i64 ((nf : Nat) : Int)), (3, .slice (some ⟨b2, 0, none⟩) nf nf), (2, .slice none 0 0), (1, .pointer (some ⟨b1, 0, none⟩))] [rowA 3 (rI .i64) (some ⟨b2, 0, none⟩) nf D, boxA b1 25 [.slice pv nv cv, .slice pf nf cf]] [slF (rI3 .i64) pv cv V, slF (rI3 .i64) pf cf F]
    obtain ⟨hb, hD⟩ := hK
    have hDl : D.length = nf := by rw [hD, Ms.rstep_len]; exact hCl
    refine r_seq ?_
    refine r_region ?_
    refine r_pv rfl rfl (pv_lss rfl rfl) ?_
    refine r_nil ?_
    refine p_then ?_
    refine r_seq ?_
    refine r_cond rfl (fun h6 => ?_) (fun h6 => ?_)
    ·
     refine r_skip ?_
     refine p_then ?_
     refine r_seq ?_
     refine r_block ?_
     refine r_seq ?_
     refine r_region ?_
     refine r_pv rfl rfl (pv_move rfl) ?_
     refine r_pv rfl rfl (pv_assign rfl) ?_
     refine r_nil ?_
     refine p_then ?_
     refine r_seq ?_
     refine r_draw (OW := []) (O := [rowA 3 (rI .i64) (some ⟨b2, 0, none⟩) nf D, boxA b1 25 [.slice pv nv cv, .slice pf nf cf]]) 100000 mixed (.then (.block (.then (.then (.block (.block (.then (.then (.block (.block (.then (.then (.block (.then .ret)))))))))))))) (by kernel_rfl) ?_
     refine d_pv 0 rfl rfl (by kernel_rfl) (by kernel_rfl) rfl rfl (pv_fieldAddr Try.underlying25 rfl sz23 rfl rfl) ?_
     refine d_u 1 rfl rfl (by kernel_rfl) (by kernel_rfl) rfl rfl (vl_load_box_one 1 ty23 rfl rfl rfl) ?_
     refine d_pv 2 rfl rfl (by kernel_rfl) (by kernel_rfl) rfl rfl (pv_move rfl) ?_
     refine d_index_fl (x0 := (F.getD a (0, 0, 0))) 3 rfl rfl (by kernel_rfl) (by kernel_rfl) 1 a rfl Try.underlying23 sz44 rfl rfl rfl (by first | rfl | assumption | (simp; done) | omega) rfl rfl (gD (d := (0, 0, 0)) (by omega)) (fun b7 o8 hok9 => ?_)
     obtain ⟨hok9x, hok9y, hok9z⟩ := hok9
     replace hok9x := inK_i64.1 hok9x
     replace hok9y := inK_i64.1 hok9y
     replace hok9z := inK_i64.1 hok9z
     refine d_u 4 rfl rfl (by kernel_rfl) (by kernel_rfl) rfl rfl (vl_load_at_agg (j := 0) 0 ty44 rfl rfl rfl (.take (.take (.take .nil)))) ?_
     refine d_pv 5 rfl rfl (by kernel_rfl) (by kernel_rfl) rfl rfl (pv_fieldAddr Try.underlying25 rfl sz23 rfl rfl) ?_
     refine d_u 6 rfl rfl (by kernel_rfl) (by kernel_rfl) rfl rfl (vl_load_box_one 1 ty23 rfl rfl rfl) ?_
     refine d_pv 7 rfl rfl (by kernel_rfl) (by kernel_rfl) rfl rfl (pv_move rfl) ?_
     refine d_index_fl (x0 := (F.getD b (0, 0, 0))) 8 rfl rfl (by kernel_rfl) (by kernel_rfl) 2 b rfl Try.underlying23 sz44 rfl rfl rfl (by first | rfl | assumption | (simp; done) | omega) rfl rfl (gD (d := (0, 0, 0)) (by omega)) (fun b10 o11 hok12 => ?_)
     obtain ⟨hok12x, hok12y, hok12z⟩ := hok12
     replace hok12x := inK_i64.1 hok12x
     replace hok12y := inK_i64.1 hok12y
     replace hok12z := inK_i64.1 hok12z
     refine d_u 9 rfl rfl (by kernel_rfl) (by kernel_rfl) rfl rfl (vl_load_at_agg (j := 0) 0 ty44 rfl rfl rfl (.take (.take (.take .nil)))) ?_
     refine d_one 10 (by kernel_rfl) (o_call1 rfl rfl rfl rfl (.c rfl (.c rfl .n)) ce55 (con_common (ex := (F.getD a (0, 0, 0)).1) (ey := (F.getD a (0, 0, 0)).2.1) (ez := (F.getD a (0, 0, 0)).2.2) (fx := (F.getD b (0, 0, 0)).1) (fy := (F.getD b (0, 0, 0)).2.1) (fz := (F.getD b (0, 0, 0)).2.2) ) (.n) ?_)
     refine d_pv 11 rfl rfl (by kernel_rfl) (by kernel_rfl) rfl rfl (pv_geq rfl rfl) ?_
     refine d_done (by kernel_rfl) ?_
     refine p_then ?_
     refine r_cond rfl (fun hnr => ?_) (fun hnr => ?_)
     ·
      refine r_draw (OW := [rowA 3 (rI .i64) (some ⟨b2, 0, none⟩) nf D]) (O := [boxA b1 25 [.slice pv nv cv, .slice pf nf cf]]) 12 mixed (.block (.then (.then (.block (.block (.then (.then (.block (.block (.then (.then (.block (.then .ret))))))))))))) (by kernel_rfl) ?_
      refine d_pv 0 rfl rfl (by kernel_rfl) (by kernel_rfl) rfl rfl (pv_move rfl) ?_
      refine d_pv 1 rfl rfl (by kernel_rfl) (by kernel_rfl) rfl rfl (pv_move rfl) ?_
      refine d_pv 2 rfl rfl (by kernel_rfl) (by kernel_rfl) rfl rfl (pv_move rfl) ?_
      refine d_pv 3 rfl rfl (by kernel_rfl) (by kernel_rfl) rfl rfl (pv_move rfl) ?_
      refine d_pv 4 rfl rfl (by kernel_rfl) (by kernel_rfl) rfl rfl (pv_index_sl (j := a) Try.underlying50 sz3 rfl rfl rfl (by omega)) ?_
      refine d_vlw 5 rfl rfl (by kernel_rfl) (by kernel_rfl) (by kernel_rfl) rfl rfl (vl_load_row_fl 0 a rfl ty3 rfl rfl (gD (d := 0) (by omega)) rfl) (fun _ hok13 => ?_)
      replace hok13 := inK_i64.1 hok13
      refine d_pv 6 rfl rfl (by kernel_rfl) (by kernel_rfl) rfl rfl (pv_move rfl) ?_
      refine d_pv 7 rfl rfl (by kernel_rfl) (by kernel_rfl) rfl rfl (pv_move rfl) ?_
      refine d_pv 8 rfl rfl (by kernel_rfl) (by kernel_rfl) rfl rfl (pv_index_sl (j := b) Try.underlying50 sz3 rfl rfl rfl (by omega)) ?_
      refine d_vlw 9 rfl rfl (by kernel_rfl) (by kernel_rfl) (by kernel_rfl) rfl rfl (vl_load_row_fl 0 b rfl ty3 rfl rfl (gD (d := 0) (by omega)) rfl) (fun _ hok14 => ?_)
      replace hok14 := inK_i64.1 hok14
      refine d_pv 10 rfl rfl (by kernel_rfl) (by kernel_rfl) rfl rfl (pv_min rfl rfl) ?_
      refine d_pv 11 rfl rfl (by kernel_rfl) (by kernel_rfl) rfl rfl (pv_index_sl (j := a) Try.underlying50 sz3 rfl rfl rfl (by omega)) ?_
      refine d_one 12 (by kernel_rfl) (o_efw (A' := fun _ => rowA 3 (rI .i64) (some ⟨b2, 0, none⟩) nf (D.set a (min (D.getD a 0) (D.getD b 0)))) (by kernel_rfl) rfl rfl rfl (ef_store_row (j := a) (x0 := (min (D.getD a 0) (D.getD b 0))) (γ0 := ()) rfl rfl (by first | omega | (rw [List.length_map]; omega) | (simp only [List.length_set]; omega) | (simp; omega)) rfl rfl sz3 (fun _ _ => by exact inK_i64.2 (by omega))) (fun _ _ => ?_))
      refine d_done (by kernel_rfl) ?_
      refine p_block ?_
      refine p_then ?_
      refine r_region ?_
      refine r_pv rfl rfl (pv_add (z := (((b + 1) : Nat) : Int)) rfl rfl (w64 (by omega))) ?_
      refine r_pv rfl rfl (pv_move rfl) ?_
      refine r_nil ?_
      refine p_next ((b + 1), (D.set a (min (D.getD a 0) (D.getD b 0)))) (show (b + 1) ≤ nf ∧ (D.set a (min (D.getD a 0) (D.getD b 0))) = (List.range (b + 1)).foldl (Ms.rstep F a) C from by exact ⟨by omega, by rw [Ms.range_foldl, ← hD]; unfold Ms.rstep Ms.nearF; rw [if_pos (decide_eq_true (by simpa only [Int.toNat_natCast] using hnr))]⟩) (by show nf - (b + 1) < nf - b; omega) ((.of rfl) : SubM _ _) (ho := ((.of [0, 0] rfl) : PickO _ _ _)) ((.of [2, 3] rfl) : SelR _ _ _)
     ·
      refine r_skip ?_
      refine p_block ?_
      refine p_then ?_
      refine r_region ?_
      refine r_pv rfl rfl (pv_add (z := (((b + 1) : Nat) : Int)) rfl rfl (w64 (by omega))) ?_
      refine r_pv rfl rfl (pv_move rfl) ?_
      refine r_nil ?_
      refine p_next ((b + 1), D) (show (b + 1) ≤ nf ∧ D = (List.range (b + 1)).foldl (Ms.rstep F a) C from by exact ⟨by omega, by rw [Ms.range_foldl, ← hD]; unfold Ms.rstep Ms.nearF; rw [if_neg (by rw [decide_eq_true_eq]; simpa only [Int.toNat_natCast] using hnr)]⟩) (by show nf - (b + 1) < nf - b; omega) ((.of rfl) : SubM _ _) (ho := ((.of [0, 0] rfl) : PickO _ _ _)) ((.of [2, 3] rfl) : SelR _ _ _)
    ·
     refine r_exit ?_
     refine p_then_exit ?_
     refine p_then_exit ?_
     refine p_block_here ?_
     refine p_block ?_
     refine p_then ?_
     refine r_region ?_
     refine r_pv rfl rfl (pv_add (z := (((a + 1) : Nat) : Int)) rfl rfl (w64 (by omega))) ?_
     refine r_pv rfl rfl (pv_move rfl) ?_
     refine r_nil ?_
     refine p_next ((a + 1), D) (show (a + 1) ≤ nf ∧ D = (List.range (a + 1)).foldl (Ms.rrow F nf) B from by exact ⟨by omega, by have h9 : b = nf := (by omega); rw [Ms.range_foldl, ← hC, hD, h9]; rfl⟩) (by show nf - (a + 1) < nf - a; omega) ((.of rfl) : SubM _ _) (ho := ((.of [0, 0] rfl) : PickO _ _ _)) ((.of [0, 1] rfl) : SelR _ _ _)
   ·
    refine r_exit ?_
    refine p_then_exit ?_
    refine p_then_exit ?_
    refine p_block_here ?_
    refine p_block ?_
    refine p_then ?_
    refine r_region ?_
    refine r_pv rfl rfl (pv_add (z := (((r + 1) : Nat) : Int)) rfl rfl (w64 (by omega))) ?_
    refine r_pv rfl rfl (pv_move rfl) ?_
    refine r_nil ?_
    refine p_next ((r + 1), C) (show (r + 1) ≤ nf ∧ C = Ms.labs F nf (r + 1) from by exact ⟨by omega, by have h9 : a = nf := (by omega); rw [hC, h9, hB]; rfl⟩) (by show nf - (r + 1) < nf - r; omega) ((.of rfl) : SubM _ _) (ho := ((.of [0, 0] rfl) : PickO _ _ _)) ((.of [0, 1] rfl) : SelR _ _ _)
  ·
   refine r_exit ?_
   refine p_then_exit ?_
   refine p_then_exit ?_
   refine p_block_here ?_
   refine p_then ?_
   refine r_seq ?_
   refine r_region ?_
   refine r_ef0 rfl rfl (ef_makeMap (κ := Int) (ν := Int) (fun z : Int => .int .i64 z) (fun z : Int => .int .i64 z) (InK .i64)) (fun b15 _ => ?_)
   refine r_pv rfl rfl (pv_assign rfl) ?_
   refine r_nil ?_
   refine p_then ?_
   refine r_seq ?_
   refine r_seq ?_
   have hLn : B = Ms.labs F nf nf := by have h9 : r = nf := (by omega); rw [h9] at hB; exact hB
   refine r_region ?_
   refine r_pv rfl rfl (pv_move rfl) ?_
   refine r_pv rfl rfl (pv_len Try.underlying50 rfl) ?_
   refine r_pv rfl rfl (pv_move rfl) ?_
   refine r_nil ?_
   refine p_then ?_
   refine r_block ?_
   refine r_loop (X := Nat × (List Int) × (List (Int × Int))) (fun x : Nat × (List Int) × (List (Int × Int)) => x.1 ≤ nf ∧ Ms.NumI (Ms.rl F) x.1 x.2.2 ∧ x.2.1 = Ms.numsL (Ms.Er (Ms.rl F)) x.1 ++ (Ms.labs F nf nf).drop x.1) (fun x => [(73, .int .i64 ((x.1 : Nat) : Int)), (72, .int .i64 ((nf : Nat) : Int)), (71, .slice (some ⟨b2, 0, none⟩) nf nf), (7, .map (some b15)), (3, .slice (some ⟨b2, 0, none⟩) nf nf), (2, .slice none 0 0)]) (fun x => [mapA b15 (fun z : Int => .int .i64 z) (fun z : Int => .int .i64 z) (InK .i64) (x.2.2), rowA 3 (rI .i64) (some ⟨b2, 0, none⟩) nf (x.2.1), boxA b1 25 [.slice pv nv cv, .slice pf nf cf]]) (fun x => [slF (rI3 .i64) pv cv V, slF (rI3 .i64) pf cf F]) (fun x : Nat × (List Int) × (List (Int × Int)) => nf - x.1) (0, B, ([] : List (Int × Int))) (show 0 ≤ nf ∧ Ms.NumI (Ms.rl F) 0 ([] : List (Int × Int)) ∧ B = Ms.numsL (Ms.Er (Ms.rl F)) 0 ++ (Ms.labs F nf nf).drop 0 from by exact ⟨Nat.zero_le _, Ms.NumI.start _, hLn⟩) ((.e rfl (by first | rfl | (congr 1; omega) | simp_all) (.of rfl)) : SubM _ _) (ho := ((.e (i := 0) rfl (by first | rfl | (congr 1; omega) | simp_all) (.of [0, 0] rfl)) : PickO _ _ _)) ((.of [0, 1] rfl) : SelR _ _ _) ?_
   rintro ⟨i, D, nm⟩ hI
   replace hI : i ≤ nf ∧ Ms.NumI (Ms.rl F) i nm ∧ D = Ms.numsL (Ms.Er (Ms.rl F)) i ++ (Ms.labs F nf nf).drop i := hI
   show RunC _ _ _ _ _ [(73, .int .i64 ((i : Nat) : Int)), (72, .int .i64 ((nf : Nat) : Int)), (71, .slice (some ⟨b2, 0, none⟩) nf nf), (7, .map (some b15)), (3, .slice (some ⟨b2, 0, none⟩) nf nf), (2, .slice none 0 0)] [mapA b15 (fun z : Int => .int .i64 z) (fun z : Int => .int .i64 z) (InK .i64) nm, rowA 3 (rI .i64) (some ⟨b2, 0, none⟩) nf D, boxA b1 25 [.slice pv nv cv, .slice pf nf cf]] [slF (rI3 .i64) pv cv V, slF (rI3 .i64) pf cf F]
   obtain ⟨hi, hN, hD⟩ := hI
   have hDl : D.length = nf := by rw [hD, List.length_append, Ms.numsL_len, List.length_drop, Ms.labs_len]; omega
   have hNl := hN.len
   have hNc := Ms.cntF_le (Ms.Er (Ms.rl F)) i
   refine r_seq ?_
   refine r_region ?_
   refine r_pv rfl rfl (pv_lss rfl rfl) ?_
   refine r_nil ?_
   refine p_then ?_
   refine r_seq ?_
   refine r_cond rfl (fun h16 => ?_) (fun h16 => ?_)
   ·
    have hDi : D.getD i 0 = Ms.rl F i := by rw [hD, Ms.mid_get (Ms.numsL_len _ _) (by rw [Ms.labs_len]; omega)]; unfold Ms.rl; rw [hnf]
    have hrg := hN.rng (D.getD i 0)
    refine r_skip ?_
    refine p_then ?_
    refine r_seq ?_
    refine r_block ?_
    refine r_seq ?_
    refine r_region ?_
    refine r_pv rfl rfl (pv_move rfl) ?_
    refine r_pv rfl rfl (pv_index_sl (j := i) Try.underlying50 sz3 rfl rfl rfl (by omega)) ?_
    refine r_vl rfl rfl (vl_load_row_fl 1 i rfl ty3 rfl rfl (gD (d := 0) (by omega)) rfl) (fun _ hok17 => ?_)
    replace hok17 := inK_i64.1 hok17
    refine r_pv rfl rfl (pv_assign rfl) ?_
    refine r_pv rfl rfl (pv_assign rfl) ?_
    refine r_nil ?_
    refine p_then ?_
    refine r_seq ?_
    refine r_seq ?_
    refine r_region ?_
    refine r_pv rfl rfl (pv_move rfl) ?_
    refine r_pv rfl rfl (pv_move rfl) ?_
    refine r_u rfl rfl (vl_lookup2 (z := 0) (a0 := (D.getD i 0)) (v := .int .i64 ((mget nm (D.getD i 0)).getD 0)) 0 rfl ky3 Try.underlying76 zr3 rfl rfl (inK_i64.2 (by omega)) rfl) ?_
    refine r_pv rfl rfl (pv_move rfl) ?_
    refine r_pv rfl rfl (pv_extract rfl rfl) ?_
    refine r_pv rfl rfl (pv_extract rfl rfl) ?_
    refine r_pv rfl rfl (pv_assign rfl) ?_
    refine r_pv rfl rfl (pv_assign rfl) ?_
    refine r_nil ?_
    refine p_then ?_
    refine r_seq ?_
    refine r_region ?_
    refine r_pv rfl rfl (pv_move rfl) ?_
    refine r_pv rfl rfl (pv_not rfl) ?_
    refine r_nil ?_
    refine p_then ?_
    refine r_condb rfl (fun hnn => ?_) (fun hnn => ?_)
    ·
     have hmp : (mget (mput nm (D.getD i 0) (nm.length : Int)) (D.getD i 0)).getD 0 = (nm.length : Int) := by rw [mget_mput, if_pos rfl]; rfl
     refine r_region ?_
     refine r_pv rfl rfl (pv_move rfl) ?_
     refine r_pv rfl rfl (pv_move rfl) ?_
     refine r_pv rfl rfl (pv_move rfl) ?_
     refine r_u rfl rfl (vl_lenMap (encK := (fun z : Int => .int .i64 z)) (encV := (fun z : Int => .int .i64 z)) (ok := (InK .i64)) (m := nm) 0 rfl Try.underlying76 rfl) ?_
     refine r_ef1 0 rfl rfl rfl (ef_update (a0 := (D.getD i 0)) (v := (((nm).length : Nat) : Int)) ky3 Try.underlying76 rfl rfl rfl (inK_i64.2 (by omega))) (fun _ => .z) (fun _ _ => ?_)
     refine r_nil ?_
     refine p_then ?_
     refine r_region ?_
     refine r_pv rfl rfl (pv_move rfl) ?_
     refine r_pv rfl rfl (pv_move rfl) ?_
     refine r_pv rfl rfl (pv_move rfl) ?_
     refine r_pv rfl rfl (pv_move rfl) ?_
     refine r_u rfl rfl (vl_lookup1 (z := 0) (a0 := (D.getD i 0)) (v := .int .i64 ((mget (mput nm (D.getD i 0) (((nm).length : Nat) : Int)) (D.getD i 0)).getD 0)) 0 rfl ky3 Try.underlying76 zr3 rfl rfl (inK_i64.2 (by omega)) rfl) ?_
     refine r_pv rfl rfl (pv_index_sl (j := i) Try.underlying50 sz3 rfl rfl rfl (by omega)) ?_
     refine r_ef1 1 rfl rfl rfl (ef_store_row (j := i) (x0 := ((mget (mput nm (D.getD i 0) (((nm).length : Nat) : Int)) (D.getD i 0)).getD 0)) (γ0 := ()) rfl rfl (by first | omega | (rw [List.length_map]; omega) | (simp only [List.length_set]; omega) | (simp; omega)) rfl rfl sz3 (fun _ _ => by exact inK_i64.2 (by omega))) (fun _ => (.s .z)) (fun _ _ => ?_)
     refine r_nil ?_
     refine p_block ?_
     refine p_then ?_
     refine r_region ?_
     refine r_pv rfl rfl (pv_add (z := (((i + 1) : Nat) : Int)) rfl rfl (w64 (by omega))) ?_
     refine r_pv rfl rfl (pv_move rfl) ?_
     refine r_nil ?_
     refine p_next ((i + 1), (D.set i ((mget (mput nm (D.getD i 0) (((nm).length : Nat) : Int)) (D.getD i 0)).getD 0)), mput nm (D.getD i 0) (((nm).length : Nat) : Int)) (show (i + 1) ≤ nf ∧ Ms.NumI (Ms.rl F) (i + 1) (mput nm (D.getD i 0) (((nm).length : Nat) : Int)) ∧ (D.set i ((mget (mput nm (D.getD i 0) (((nm).length : Nat) : Int)) (D.getD i 0)).getD 0)) = Ms.numsL (Ms.Er (Ms.rl F)) (i + 1) ++ (Ms.labs F nf nf).drop (i + 1) from by have hp := hN.put (by rw [← hDi]; simpa using hnn); refine ⟨by omega, by rw [hDi]; exact hp.1, ?_⟩; rw [hmp, hp.2, hD]; exact Ms.set_mid (Ms.numsL_len _ _) (by rw [Ms.labs_len]; omega)) (by show nf - (i + 1) < nf - i; omega) ((.of rfl) : SubM _ _) (ho := ((.of [0, 0, 0] rfl) : PickO _ _ _)) ((.of [0, 1] rfl) : SelR _ _ _)
    ·
     refine r_skip ?_
     refine p_then ?_
     refine r_region ?_
     refine r_pv rfl rfl (pv_move rfl) ?_
     refine r_pv rfl rfl (pv_move rfl) ?_
     refine r_pv rfl rfl (pv_move rfl) ?_
     refine r_pv rfl rfl (pv_move rfl) ?_
     refine r_u rfl rfl (vl_lookup1 (z := 0) (a0 := (D.getD i 0)) (v := .int .i64 ((mget nm (D.getD i 0)).getD 0)) 0 rfl ky3 Try.underlying76 zr3 rfl rfl (inK_i64.2 (by omega)) rfl) ?_
     refine r_pv rfl rfl (pv_index_sl (j := i) Try.underlying50 sz3 rfl rfl rfl (by omega)) ?_
     refine r_ef1 1 rfl rfl rfl (ef_store_row (j := i) (x0 := ((mget nm (D.getD i 0)).getD 0)) (γ0 := ()) rfl rfl (by first | omega | (rw [List.length_map]; omega) | (simp only [List.length_set]; omega) | (simp; omega)) rfl rfl sz3 (fun _ _ => by exact inK_i64.2 (by omega))) (fun _ => (.s .z)) (fun _ _ => ?_)
     refine r_nil ?_
     refine p_block ?_
     refine p_then ?_
     refine r_region ?_
     refine r_pv rfl rfl (pv_add (z := (((i + 1) : Nat) : Int)) rfl rfl (w64 (by omega))) ?_
     refine r_pv rfl rfl (pv_move rfl) ?_
     refine r_nil ?_
     refine p_next ((i + 1), (D.set i ((mget nm (D.getD i 0)).getD 0)), nm) (show (i + 1) ≤ nf ∧ Ms.NumI (Ms.rl F) (i + 1) nm ∧ (D.set i ((mget nm (D.getD i 0)).getD 0)) = Ms.numsL (Ms.Er (Ms.rl F)) (i + 1) ++ (Ms.labs F nf nf).drop (i + 1) from by have hp := hN.keep (by rw [← hDi]; simpa using hnn); refine ⟨by omega, hp.1, ?_⟩; rw [hDi, hp.2, hD]; exact Ms.set_mid (Ms.numsL_len _ _) (by rw [Ms.labs_len]; omega)) (by show nf - (i + 1) < nf - i; omega) ((.of rfl) : SubM _ _) (ho := ((.of [0, 0, 0] rfl) : PickO _ _ _)) ((.of [0, 1] rfl) : SelR _ _ _)
   ·
    refine r_exit ?_
    refine p_then_exit ?_
    refine p_then_exit ?_
    refine p_block_here ?_
    refine p_then ?_
    refine r_seq ?_
    refine r_region ?_
    refine r_pv rfl rfl (pv_move rfl) ?_
    refine r_pv rfl rfl (pv_assign rfl) ?_
    refine r_nil ?_
    refine p_then ?_
    refine r_ret ?_
    have hfin : D = Ms.partsL F := by have h9 : i = nf := (by omega); rw [hD, h9, Ms.partsL_eq, hnf, List.drop_of_length_le (by rw [Ms.labs_len]; omega), List.append_nil]
    refine p_freeze 1 rfl (.s .z) ?_
    exact p_ret1 Try.results29 (some ⟨b2, 0, none⟩) trivial (res_tmp rfl) rfl (ho := (.n : PickO _ _ _)) ((.e (j := 0) rfl (by rw [hfin]) .n) : SelR _ _ _)
end Go.Proofs.Ytalfgjpbbongcaa.Sp
