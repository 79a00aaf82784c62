/- Lemmas on the walk and plain lemmas that the claim of this folder uses; each states its own conditions. Lines were printed by a program of ours. -/
import Derived.Test.YtalfgjpbbongcaaZ5F
set_option linter.unusedVariables false
set_option linter.unusedSimpArgs false
set_option linter.unusedSectionVars false
namespace Go.Proofs.Ytalfgjpbbongcaa.Sp
open Go
set_option linter.unusedVariables false
set_option maxRecDepth 100000
set_option maxHeartbeats 1000000
theorem con_Vector {pv : Option Addr} {nv : Nat} {cv : Nat} {V : List (Int × Int × Int)} {pf : Option Addr} {nf : Nat} {cf : Nat} {F : List (Int × Int × Int)} (hnv : V.length = nv) (hnf : F.length = nf) : Con Try.prog 21 [.agg #[.slice pv nv cv, .slice pf nf cf]] [] [slF (rI3 .i64) pv cv V, slF (rI3 .i64) pf cf F] (Y := Unit) (fun y => True) (fun y => .tuple #[.agg #[.int .i64 ((Ms.vecR V F).1), .int .i64 ((Ms.vecR V F).2.1), .int .i64 ((Ms.vecR V F).2.2)], .int .i64 (Ms.check V F)]) (fun y => []) (fun y => []) := by
 refine con_intro Try.func21 rfl rfl rfl (fun c => ?_)
 show RunC _ _ _ _ _ [(0, .agg #[.slice pv nv cv, .slice pf nf cf])] [] [slF (rI3 .i64) pv cv V, slF (rI3 .i64) pf cf F]
 refine c_len 0 rfl (fun hL0 => ?_)
 refine c_len 1 rfl (fun hL1 => ?_)
 refine r_seq ?_
 refine r_region ?_
 refine r_new rfl rfl (ef_box rfl rfl) (fun b1 => ?_)
 refine r_new rfl rfl (ef_alloc zr44 rfl) (fun b2 => ?_)
 refine r_pv rfl rfl (pv_assign rfl) ?_
 refine r_nil ?_
 refine p_then ?_
 refine r_seq ?_
 refine r_seq ?_
 refine r_region ?_
 refine r_u rfl rfl (vl_load_box_agg 1 ty25 rfl rfl (.take (.take .nil))) ?_
 refine r_call1 rfl rfl (.c rfl .n) ce14 (con_Check (pv := pv) (nv := nv) (cv := cv) (V := V) (pf := pf) (nf := nf) (cf := cf) (F := F) (hnv := by assumption) (hnf := by assumption)) (.c (j := 0) rfl (.c (j := 1) rfl .n)) ?_
 refine r_pv rfl rfl (pv_assign rfl) ?_
 refine r_nil ?_
 refine p_then ?_
 refine r_seq ?_
 refine r_region ?_
 refine r_pv rfl rfl (pv_move rfl) ?_
 refine r_pv rfl rfl (pv_neq rfl rfl) ?_
 refine r_nil ?_
 refine p_then ?_
 refine r_cond rfl (fun hcode => ?_) (fun hcode => ?_)
 ·
  refine r_seq ?_
  refine r_region ?_
  refine r_pv rfl rfl (pv_build_array zr44 rfl Try.underlying44 sz3 .n .n) ?_
  refine r_pv rfl rfl (pv_move rfl) ?_
  refine r_store_box 0 rfl rfl rfl rfl rfl sz44 rfl (.take (.take (.take .nil))) .z ?_
  refine r_pv rfl rfl (pv_assign rfl) ?_
  refine r_nil ?_
  refine p_then ?_
  refine r_ret ?_
  refine p_then_ret ?_
  have hz : Ms.vecR V F = (0, 0, 0) := by unfold Ms.vecR; rw [if_neg hcode]
  exact p_ret2 Try.results21 () trivial (res_box_agg 0 ty44 rfl rfl (.take (.take (.take .nil)))) (res_tmp rfl) (by rw [hz]) (ho := (.n : PickO _ _ _)) (.n : SelR _ _ _)
 ·
  have hc0 := Decidable.not_not.1 hcode
  have hf0 := Ms.check_form hc0
  have hg := Ms.form_zero.1 hf0
  have hnv5 : nv ≤ 512 := by have := hg.nv; omega
  have hnf5 : nf ≤ 1024 := by have := hg.nf; omega
  refine r_skip ?_
  refine p_then ?_
  refine r_seq ?_
  refine r_region ?_
  refine r_new rfl rfl (ef_alloc zr44 rfl) (fun b3 => ?_)
  refine r_nil ?_
  refine p_then ?_
  refine r_seq ?_
  refine r_seq ?_
  refine r_region ?_
  refine r_pv rfl rfl (pv_fieldAddr Try.underlying25 rfl sz23 rfl rfl) ?_
  refine r_u rfl rfl (vl_load_box_one 2 ty23 rfl rfl rfl) ?_
  refine r_pv rfl rfl (pv_len Try.underlying23 rfl) ?_
  refine r_pv rfl rfl (pv_move rfl) ?_
  refine r_nil ?_
  refine p_then ?_
  refine r_block ?_
  refine r_loop (X := Nat × (Int × Int × Int)) (fun x : Nat × (Int × Int × Int) => x.1 ≤ nf ∧ x.2 = Ms.vecS V (F.take x.1) ∧ (-(8796093022208 * (x.1 : Int)) ≤ x.2.1 ∧ x.2.1 ≤ 8796093022208 * (x.1 : Int)) ∧ (-(8796093022208 * (x.1 : Int)) ≤ x.2.2.1 ∧ x.2.2.1 ≤ 8796093022208 * (x.1 : Int)) ∧ (-(8796093022208 * (x.1 : Int)) ≤ x.2.2.2 ∧ x.2.2.2 ≤ 8796093022208 * (x.1 : Int))) (fun x => [(25, .int .i64 ((x.1 : Nat) : Int)), (24, .int .i64 ((nf : Nat) : Int)), (23, .slice pf nf cf), (5, .pointer (some ⟨b3, 0, none⟩)), (3, .int .i64 0), (2, .pointer (some ⟨b2, 0, none⟩)), (1, .pointer (some ⟨b1, 0, none⟩))]) (fun x => [boxA b3 44 [.int .i64 ((x.2).1), .int .i64 ((x.2).2.1), .int .i64 ((x.2).2.2)], boxA b2 44 [.int .i64 0, .int .i64 0, .int .i64 0], boxA b1 25 [.slice pv nv cv, .slice pf nf cf]]) (fun x => [slF (rI3 .i64) pv cv V, slF (rI3 .i64) pf cf F]) (fun x : Nat × (Int × Int × Int) => nf - x.1) (0, ((0 : Int), (0 : Int), (0 : Int))) (show 0 ≤ nf ∧ ((0 : Int), (0 : Int), (0 : Int)) = Ms.vecS V (F.take 0) ∧ (-(8796093022208 * (0 : Int)) ≤ ((0 : Int), (0 : Int), (0 : Int)).1 ∧ ((0 : Int), (0 : Int), (0 : Int)).1 ≤ 8796093022208 * (0 : Int)) ∧ (-(8796093022208 * (0 : Int)) ≤ ((0 : Int), (0 : Int), (0 : Int)).2.1 ∧ ((0 : Int), (0 : Int), (0 : Int)).2.1 ≤ 8796093022208 * (0 : Int)) ∧ (-(8796093022208 * (0 : Int)) ≤ ((0 : Int), (0 : Int), (0 : Int)).2.2 ∧ ((0 : Int), (0 : Int), (0 : Int)).2.2 ≤ 8796093022208 * (0 : Int)) from by exact ⟨Nat.zero_le _, rfl, by decide, by decide, by decide⟩) ((.e rfl (by first | rfl | (congr 1; omega) | simp_all) (.of rfl)) : SubM _ _) (ho := ((.e (i := 0) rfl (by first | rfl | (congr 1; omega) | simp_all) (.of [0, 0] rfl)) : PickO _ _ _)) ((.of [0, 1] rfl) : SelR _ _ _) ?_
  rintro ⟨i, s⟩ hI
  replace hI : i ≤ nf ∧ s = Ms.vecS V (F.take i) ∧ (-(8796093022208 * (i : Int)) ≤ s.1 ∧ s.1 ≤ 8796093022208 * (i : Int)) ∧ (-(8796093022208 * (i : Int)) ≤ s.2.1 ∧ s.2.1 ≤ 8796093022208 * (i : Int)) ∧ (-(8796093022208 * (i : Int)) ≤ s.2.2 ∧ s.2.2 ≤ 8796093022208 * (i : Int)) := hI
  show RunC _ _ _ _ _ [(25, .int .i64 ((i : Nat) : Int)), (24, .int .i64 ((nf : Nat) : Int)), (23, .slice pf nf cf), (5, .pointer (some ⟨b3, 0, none⟩)), (3, .int .i64 0), (2, .pointer (some ⟨b2, 0, none⟩)), (1, .pointer (some ⟨b1, 0, none⟩))] [boxA b3 44 [.int .i64 ((s).1), .int .i64 ((s).2.1), .int .i64 ((s).2.2)], boxA b2 44 [.int .i64 0, .int .i64 0, .int .i64 0], boxA b1 25 [.slice pv nv cv, .slice pf nf cf]] [slF (rI3 .i64) pv cv V, slF (rI3 .i64) pf cf F]
  obtain ⟨hi, hs, hb1, hb2, hb3⟩ := hI
  refine r_seq ?_
  refine r_region ?_
  refine r_pv rfl rfl (pv_lss rfl rfl) ?_
  refine r_nil ?_
  refine p_then ?_
  refine r_seq ?_
  refine r_cond rfl (fun h4 => ?_) (fun h4 => ?_)
  ·
   have hat := hg.at (show i < F.length by omega)
   have hv0 := hg.vat (i := ((F.getD i (0, 0, 0)).1).toNat) (by omega)
   have hv1 := hg.vat (i := ((F.getD i (0, 0, 0)).2.1).toNat) (by omega)
   have hv2 := hg.vat (i := ((F.getD i (0, 0, 0)).2.2).toNat) (by omega)
   refine r_skip ?_
   refine p_then ?_
   refine r_seq ?_
   refine r_block ?_
   refine r_seq ?_
   refine r_region ?_
   refine r_index_fl (x0 := (F.getD i (0, 0, 0))) 1 i rfl Try.underlying23 sz44 rfl rfl rfl (by first | rfl | assumption | (simp_all; done) | omega) rfl rfl (gD (d := (0, 0, 0)) (by omega)) (fun b5 o6 hok7 => ?_)
   obtain ⟨hok7x, hok7y, hok7z⟩ := hok7
   replace hok7x := inK_i64.1 hok7x
   replace hok7y := inK_i64.1 hok7y
   replace hok7z := inK_i64.1 hok7z
   refine r_u rfl rfl (vl_load_at_agg (j := 0) 0 ty44 rfl rfl rfl (.take (.take (.take .nil)))) ?_
   refine r_new rfl rfl (ef_alloc zr44 rfl) (fun b8 => ?_)
   refine r_store_box 0 rfl rfl rfl rfl rfl sz44 rfl (.take (.take (.take .nil))) .z ?_
   refine r_nil ?_
   refine p_then ?_
   refine r_seq ?_
   refine r_draw (OW := []) (O := [boxA b8 44 [.int .i64 ((F.getD i (0, 0, 0)).1), .int .i64 ((F.getD i (0, 0, 0)).2.1), .int .i64 ((F.getD i (0, 0, 0)).2.2)], boxA b3 44 [.int .i64 ((s).1), .int .i64 ((s).2.1), .int .i64 ((s).2.2)], boxA b2 44 [.int .i64 0, .int .i64 0, .int .i64 0], boxA b1 25 [.slice pv nv cv, .slice pf nf cf]]) 21 mixed (.then (.block (.then (.then (.block (.then .ret)))))) (by kernel_rfl) ?_
   refine d_pv 0 rfl rfl (by kernel_rfl) (by kernel_rfl) rfl rfl (pv_fieldAddr Try.underlying25 rfl sz22 rfl rfl) ?_
   refine d_u 1 rfl rfl (by kernel_rfl) (by kernel_rfl) rfl rfl (vl_load_box_one 3 ty22 rfl rfl rfl) ?_
   refine d_pv 2 rfl rfl (by kernel_rfl) (by kernel_rfl) rfl rfl (pv_indexAddr_arr (i := 0) Try.underlying44 sz3 rfl rfl (by decide) rfl) ?_
   refine d_u 3 rfl rfl (by kernel_rfl) (by kernel_rfl) rfl rfl (vl_load_box_one 0 ty3 rfl rfl rfl) ?_
   refine d_index_fl (x0 := (V.getD (((F.getD i (0, 0, 0)).1).toNat) (0, 0, 0))) 4 rfl rfl (by kernel_rfl) (by kernel_rfl) 1 (((F.getD i (0, 0, 0)).1).toNat) rfl Try.underlying22 sz42 rfl rfl rfl (by first | rfl | assumption | (simp_all; done) | omega) rfl (by omega) (gD (d := (0, 0, 0)) (by omega)) (fun b9 o10 hok11 => ?_)
   obtain ⟨hok11x, hok11y, hok11z⟩ := hok11
   replace hok11x := inK_i64.1 hok11x
   replace hok11y := inK_i64.1 hok11y
   replace hok11z := inK_i64.1 hok11z
   refine d_u 5 rfl rfl (by kernel_rfl) (by kernel_rfl) rfl rfl (vl_load_at_agg (j := 0) 0 ty42 rfl rfl rfl (.take (.take (.take .nil)))) ?_
   refine d_pv 6 rfl rfl (by kernel_rfl) (by kernel_rfl) rfl rfl (pv_fieldAddr Try.underlying25 rfl sz22 rfl rfl) ?_
   refine d_u 7 rfl rfl (by kernel_rfl) (by kernel_rfl) rfl rfl (vl_load_box_one 3 ty22 rfl rfl rfl) ?_
   refine d_pv 8 rfl rfl (by kernel_rfl) (by kernel_rfl) rfl rfl (pv_indexAddr_arr (i := 1) Try.underlying44 sz3 rfl rfl (by decide) rfl) ?_
   refine d_u 9 rfl rfl (by kernel_rfl) (by kernel_rfl) rfl rfl (vl_load_box_one 0 ty3 rfl rfl rfl) ?_
   refine d_index_fl (x0 := (V.getD (((F.getD i (0, 0, 0)).2.1).toNat) (0, 0, 0))) 10 rfl rfl (by kernel_rfl) (by kernel_rfl) 2 (((F.getD i (0, 0, 0)).2.1).toNat) rfl Try.underlying22 sz42 rfl rfl rfl (by first | rfl | assumption | (simp_all; done) | omega) rfl (by omega) (gD (d := (0, 0, 0)) (by omega)) (fun b12 o13 hok14 => ?_)
   obtain ⟨hok14x, hok14y, hok14z⟩ := hok14
   replace hok14x := inK_i64.1 hok14x
   replace hok14y := inK_i64.1 hok14y
   replace hok14z := inK_i64.1 hok14z
   refine d_u 11 rfl rfl (by kernel_rfl) (by kernel_rfl) rfl rfl (vl_load_at_agg (j := 0) 0 ty42 rfl rfl rfl (.take (.take (.take .nil)))) ?_
   refine d_pv 12 rfl rfl (by kernel_rfl) (by kernel_rfl) rfl rfl (pv_fieldAddr Try.underlying25 rfl sz22 rfl rfl) ?_
   refine d_u 13 rfl rfl (by kernel_rfl) (by kernel_rfl) rfl rfl (vl_load_box_one 3 ty22 rfl rfl rfl) ?_
   refine d_pv 14 rfl rfl (by kernel_rfl) (by kernel_rfl) rfl rfl (pv_indexAddr_arr (i := 2) Try.underlying44 sz3 rfl rfl (by decide) rfl) ?_
   refine d_u 15 rfl rfl (by kernel_rfl) (by kernel_rfl) rfl rfl (vl_load_box_one 0 ty3 rfl rfl rfl) ?_
   refine d_index_fl (x0 := (V.getD (((F.getD i (0, 0, 0)).2.2).toNat) (0, 0, 0))) 16 rfl rfl (by kernel_rfl) (by kernel_rfl) 3 (((F.getD i (0, 0, 0)).2.2).toNat) rfl Try.underlying22 sz42 rfl rfl rfl (by first | rfl | assumption | (simp_all; done) | omega) rfl (by omega) (gD (d := (0, 0, 0)) (by omega)) (fun b15 o16 hok17 => ?_)
   obtain ⟨hok17x, hok17y, hok17z⟩ := hok17
   replace hok17x := inK_i64.1 hok17x
   replace hok17y := inK_i64.1 hok17y
   replace hok17z := inK_i64.1 hok17z
   refine d_u 17 rfl rfl (by kernel_rfl) (by kernel_rfl) rfl rfl (vl_load_at_agg (j := 0) 0 ty42 rfl rfl rfl (.take (.take (.take .nil)))) ?_
   refine d_weak (m' := [(46, .agg #[.int .i64 ((V.getD (((F.getD i (0, 0, 0)).2.2).toNat) (0, 0, 0)).1), .int .i64 ((V.getD (((F.getD i (0, 0, 0)).2.2).toNat) (0, 0, 0)).2.1), .int .i64 ((V.getD (((F.getD i (0, 0, 0)).2.2).toNat) (0, 0, 0)).2.2)]), (45, .pointer (some ⟨b15, o16, none⟩)), (44, .int .i64 ((F.getD i (0, 0, 0)).2.2)), (43, .pointer (some ⟨b8, 2, none⟩)), (42, .slice pv nv cv), (41, .pointer (some ⟨b1, 0, none⟩)), (40, .agg #[.int .i64 ((V.getD (((F.getD i (0, 0, 0)).2.1).toNat) (0, 0, 0)).1), .int .i64 ((V.getD (((F.getD i (0, 0, 0)).2.1).toNat) (0, 0, 0)).2.1), .int .i64 ((V.getD (((F.getD i (0, 0, 0)).2.1).toNat) (0, 0, 0)).2.2)]), (39, .pointer (some ⟨b12, o13, none⟩)), (38, .int .i64 ((F.getD i (0, 0, 0)).2.1)), (37, .pointer (some ⟨b8, 1, none⟩)), (36, .slice pv nv cv), (35, .pointer (some ⟨b1, 0, none⟩)), (34, .agg #[.int .i64 ((V.getD (((F.getD i (0, 0, 0)).1).toNat) (0, 0, 0)).1), .int .i64 ((V.getD (((F.getD i (0, 0, 0)).1).toNat) (0, 0, 0)).2.1), .int .i64 ((V.getD (((F.getD i (0, 0, 0)).1).toNat) (0, 0, 0)).2.2)]), (33, .pointer (some ⟨b9, o10, none⟩)), (32, .int .i64 ((F.getD i (0, 0, 0)).1)), (31, .pointer (some ⟨b8, 0, none⟩)), (30, .slice pv nv cv), (29, .pointer (some ⟨b1, 0, none⟩)), (7, .pointer (some ⟨b8, 0, none⟩)), (28, .agg #[.int .i64 ((F.getD i (0, 0, 0)).1), .int .i64 ((F.getD i (0, 0, 0)).2.1), .int .i64 ((F.getD i (0, 0, 0)).2.2)]), (27, .pointer (some ⟨b5, o6, none⟩)), (26, .bool (decide (((i : Nat) : Int) < ((nf : Nat) : Int)))), (25, .int .i64 ((i : Nat) : Int)), (24, .int .i64 ((nf : Nat) : Int)), (23, .slice pf nf cf), (5, .pointer (some ⟨b3, 0, none⟩)), (3, .int .i64 0), (2, .pointer (some ⟨b2, 0, none⟩)), (1, .pointer (some ⟨b1, 0, none⟩))]) (R' := [atF b15 o16 [.int .i64 ((V.getD (((F.getD i (0, 0, 0)).2.2).toNat) (0, 0, 0)).1), .int .i64 ((V.getD (((F.getD i (0, 0, 0)).2.2).toNat) (0, 0, 0)).2.1), .int .i64 ((V.getD (((F.getD i (0, 0, 0)).2.2).toNat) (0, 0, 0)).2.2)], atF b12 o13 [.int .i64 ((V.getD (((F.getD i (0, 0, 0)).2.1).toNat) (0, 0, 0)).1), .int .i64 ((V.getD (((F.getD i (0, 0, 0)).2.1).toNat) (0, 0, 0)).2.1), .int .i64 ((V.getD (((F.getD i (0, 0, 0)).2.1).toNat) (0, 0, 0)).2.2)], atF b9 o10 [.int .i64 ((V.getD (((F.getD i (0, 0, 0)).1).toNat) (0, 0, 0)).1), .int .i64 ((V.getD (((F.getD i (0, 0, 0)).1).toNat) (0, 0, 0)).2.1), .int .i64 ((V.getD (((F.getD i (0, 0, 0)).1).toNat) (0, 0, 0)).2.2)], atF b5 o6 [.int .i64 ((F.getD i (0, 0, 0)).1), .int .i64 ((F.getD i (0, 0, 0)).2.1), .int .i64 ((F.getD i (0, 0, 0)).2.2)], slF (rI3 .i64) pv cv V, slF (rI3 .i64) pf cf F]) ((.of rfl) : SubM _ _) (List.Perm.refl _) (List.Perm.refl _) ((.of [0, 1, 2, 3, 4, 5] rfl) : SelR _ _ _) ?_
   obtain ⟨qax, hqax⟩ : ∃ z, z = (V.getD (((F.getD i (0, 0, 0)).1).toNat) (0, 0, 0)).1 := ⟨_, rfl⟩
   rw [← hqax]
   obtain ⟨qay, hqay⟩ : ∃ z, z = (V.getD (((F.getD i (0, 0, 0)).1).toNat) (0, 0, 0)).2.1 := ⟨_, rfl⟩
   rw [← hqay]
   obtain ⟨qaz, hqaz⟩ : ∃ z, z = (V.getD (((F.getD i (0, 0, 0)).1).toNat) (0, 0, 0)).2.2 := ⟨_, rfl⟩
   rw [← hqaz]
   obtain ⟨qbx, hqbx⟩ : ∃ z, z = (V.getD (((F.getD i (0, 0, 0)).2.1).toNat) (0, 0, 0)).1 := ⟨_, rfl⟩
   rw [← hqbx]
   obtain ⟨qby, hqby⟩ : ∃ z, z = (V.getD (((F.getD i (0, 0, 0)).2.1).toNat) (0, 0, 0)).2.1 := ⟨_, rfl⟩
   rw [← hqby]
   obtain ⟨qbz, hqbz⟩ : ∃ z, z = (V.getD (((F.getD i (0, 0, 0)).2.1).toNat) (0, 0, 0)).2.2 := ⟨_, rfl⟩
   rw [← hqbz]
   obtain ⟨qcx, hqcx⟩ : ∃ z, z = (V.getD (((F.getD i (0, 0, 0)).2.2).toNat) (0, 0, 0)).1 := ⟨_, rfl⟩
   rw [← hqcx]
   obtain ⟨qcy, hqcy⟩ : ∃ z, z = (V.getD (((F.getD i (0, 0, 0)).2.2).toNat) (0, 0, 0)).2.1 := ⟨_, rfl⟩
   rw [← hqcy]
   obtain ⟨qcz, hqcz⟩ : ∃ z, z = (V.getD (((F.getD i (0, 0, 0)).2.2).toNat) (0, 0, 0)).2.2 := ⟨_, rfl⟩
   rw [← hqcz]
   refine d_join (X := Nat × Nat × Nat) (k' := 0) (L' := #[true, true, true, true, true, true, true, true, true, true, true, true, true, true, true, true, true, true, true, true, true, true, true, true]) (fun (bn18n1, bn19n1, bn20n1) => ([(10, .pointer (some ⟨bn20n1, 0, none⟩)), (9, .pointer (some ⟨bn19n1, 0, none⟩)), (8, .pointer (some ⟨bn18n1, 0, none⟩)), (46, .agg #[.int .i64 qcx, .int .i64 qcy, .int .i64 qcz]), (45, .pointer (some ⟨b15, o16, none⟩)), (44, .int .i64 ((F.getD i (0, 0, 0)).2.2)), (43, .pointer (some ⟨b8, 2, none⟩)), (42, .slice pv nv cv), (41, .pointer (some ⟨b1, 0, none⟩)), (40, .agg #[.int .i64 qbx, .int .i64 qby, .int .i64 qbz]), (39, .pointer (some ⟨b12, o13, none⟩)), (38, .int .i64 ((F.getD i (0, 0, 0)).2.1)), (37, .pointer (some ⟨b8, 1, none⟩)), (36, .slice pv nv cv), (35, .pointer (some ⟨b1, 0, none⟩)), (34, .agg #[.int .i64 qax, .int .i64 qay, .int .i64 qaz]), (33, .pointer (some ⟨b9, o10, none⟩)), (32, .int .i64 ((F.getD i (0, 0, 0)).1)), (31, .pointer (some ⟨b8, 0, none⟩)), (30, .slice pv nv cv), (29, .pointer (some ⟨b1, 0, none⟩)), (7, .pointer (some ⟨b8, 0, none⟩)), (28, .agg #[.int .i64 ((F.getD i (0, 0, 0)).1), .int .i64 ((F.getD i (0, 0, 0)).2.1), .int .i64 ((F.getD i (0, 0, 0)).2.2)]), (27, .pointer (some ⟨b5, o6, none⟩)), (26, .bool (decide (((i : Nat) : Int) < ((nf : Nat) : Int)))), (25, .int .i64 ((i : Nat) : Int)), (24, .int .i64 ((nf : Nat) : Int)), (23, .slice pf nf cf), (5, .pointer (some ⟨b3, 0, none⟩)), (3, .int .i64 0), (2, .pointer (some ⟨b2, 0, none⟩)), (1, .pointer (some ⟨b1, 0, none⟩))], [boxA bn20n1 42 [.int .i64 qcx, .int .i64 qcy, .int .i64 qcz], boxA bn19n1 42 [.int .i64 qbx, .int .i64 qby, .int .i64 qbz], boxA bn18n1 42 [.int .i64 qax, .int .i64 qay, .int .i64 qaz]], [boxA b8 44 [.int .i64 ((F.getD i (0, 0, 0)).1), .int .i64 ((F.getD i (0, 0, 0)).2.1), .int .i64 ((F.getD i (0, 0, 0)).2.2)], boxA b3 44 [.int .i64 ((s).1), .int .i64 ((s).2.1), .int .i64 ((s).2.2)], boxA b2 44 [.int .i64 0, .int .i64 0, .int .i64 0], boxA b1 25 [.slice pv nv cv, .slice pf nf cf]], [atF b15 o16 [.int .i64 qcx, .int .i64 qcy, .int .i64 qcz], atF b12 o13 [.int .i64 qbx, .int .i64 qby, .int .i64 qbz], atF b9 o10 [.int .i64 qax, .int .i64 qay, .int .i64 qaz], atF b5 o6 [.int .i64 ((F.getD i (0, 0, 0)).1), .int .i64 ((F.getD i (0, 0, 0)).2.1), .int .i64 ((F.getD i (0, 0, 0)).2.2)], slF (rI3 .i64) pv cv V, slF (rI3 .i64) pf cf F])) ?_ (fun hD0 => ?_)
   ·
    rintro ⟨bn18n1, bn19n1, bn20n1⟩
    dsimp only
    refine d_done (by kernel_rfl) ?_
    refine p_then ?_
    refine r_seq ?_
    refine r_draw (OW := []) (O := [boxA bn20n1 42 [.int .i64 qcx, .int .i64 qcy, .int .i64 qcz], boxA bn19n1 42 [.int .i64 qbx, .int .i64 qby, .int .i64 qbz], boxA bn18n1 42 [.int .i64 qax, .int .i64 qay, .int .i64 qaz], boxA b8 44 [.int .i64 ((F.getD i (0, 0, 0)).1), .int .i64 ((F.getD i (0, 0, 0)).2.1), .int .i64 ((F.getD i (0, 0, 0)).2.2)], boxA b3 44 [.int .i64 ((s).1), .int .i64 ((s).2.1), .int .i64 ((s).2.2)], boxA b2 44 [.int .i64 0, .int .i64 0, .int .i64 0], boxA b1 25 [.slice pv nv cv, .slice pf nf cf]]) 34 mixed (.then (.block (.then (.then (.block (.then .ret)))))) (by kernel_rfl) ?_
    refine d_pv 0 rfl rfl (by kernel_rfl) (by kernel_rfl) rfl rfl (pv_fieldAddr Try.underlying42 rfl sz3 rfl rfl) ?_
    refine d_u 1 rfl rfl (by kernel_rfl) (by kernel_rfl) rfl rfl (vl_load_box_one 1 ty3 rfl rfl rfl) ?_
    refine d_pv 2 rfl rfl (by kernel_rfl) (by kernel_rfl) rfl rfl (pv_fieldAddr Try.underlying42 rfl sz3 rfl rfl) ?_
    refine d_u 3 rfl rfl (by kernel_rfl) (by kernel_rfl) rfl rfl (vl_load_box_one 2 ty3 rfl rfl rfl) ?_
    refine d_pv 4 rfl rfl (by kernel_rfl) (by kernel_rfl) rfl rfl (pv_sub (z := (qbx - qax)) rfl rfl (w64 (by omega))) ?_
    refine d_pv 5 rfl rfl (by kernel_rfl) (by kernel_rfl) rfl rfl (pv_fieldAddr Try.underlying42 rfl sz3 rfl rfl) ?_
    refine d_u 6 rfl rfl (by kernel_rfl) (by kernel_rfl) rfl rfl (vl_load_box_one 1 ty3 rfl rfl rfl) ?_
    refine d_pv 7 rfl rfl (by kernel_rfl) (by kernel_rfl) rfl rfl (pv_fieldAddr Try.underlying42 rfl sz3 rfl rfl) ?_
    refine d_u 8 rfl rfl (by kernel_rfl) (by kernel_rfl) rfl rfl (vl_load_box_one 2 ty3 rfl rfl rfl) ?_
    refine d_pv 9 rfl rfl (by kernel_rfl) (by kernel_rfl) rfl rfl (pv_sub (z := (qby - qay)) rfl rfl (w64 (by omega))) ?_
    refine d_pv 10 rfl rfl (by kernel_rfl) (by kernel_rfl) rfl rfl (pv_fieldAddr Try.underlying42 rfl sz3 rfl rfl) ?_
    refine d_u 11 rfl rfl (by kernel_rfl) (by kernel_rfl) rfl rfl (vl_load_box_one 1 ty3 rfl rfl rfl) ?_
    refine d_pv 12 rfl rfl (by kernel_rfl) (by kernel_rfl) rfl rfl (pv_fieldAddr Try.underlying42 rfl sz3 rfl rfl) ?_
    refine d_u 13 rfl rfl (by kernel_rfl) (by kernel_rfl) rfl rfl (vl_load_box_one 2 ty3 rfl rfl rfl) ?_
    refine d_pv 14 rfl rfl (by kernel_rfl) (by kernel_rfl) rfl rfl (pv_sub (z := (qbz - qaz)) rfl rfl (w64 (by omega))) ?_
    refine d_pv 15 rfl rfl (by kernel_rfl) (by kernel_rfl) rfl rfl (pv_build_array zr44 rfl Try.underlying44 sz3 (.c rfl (.c rfl (.c rfl .n))) (.c rfl rfl rfl (.take .nil) (.c rfl rfl rfl (.skip (.take .nil)) (.c rfl rfl rfl (.skip (.skip (.take .nil))) .n)))) ?_
    refine d_pv 16 rfl rfl (by kernel_rfl) (by kernel_rfl) rfl rfl (pv_fieldAddr Try.underlying42 rfl sz3 rfl rfl) ?_
    refine d_u 17 rfl rfl (by kernel_rfl) (by kernel_rfl) rfl rfl (vl_load_box_one 0 ty3 rfl rfl rfl) ?_
    refine d_pv 18 rfl rfl (by kernel_rfl) (by kernel_rfl) rfl rfl (pv_fieldAddr Try.underlying42 rfl sz3 rfl rfl) ?_
    refine d_u 19 rfl rfl (by kernel_rfl) (by kernel_rfl) rfl rfl (vl_load_box_one 2 ty3 rfl rfl rfl) ?_
    refine d_pv 20 rfl rfl (by kernel_rfl) (by kernel_rfl) rfl rfl (pv_sub (z := (qcx - qax)) rfl rfl (w64 (by omega))) ?_
    refine d_pv 21 rfl rfl (by kernel_rfl) (by kernel_rfl) rfl rfl (pv_fieldAddr Try.underlying42 rfl sz3 rfl rfl) ?_
    refine d_u 22 rfl rfl (by kernel_rfl) (by kernel_rfl) rfl rfl (vl_load_box_one 0 ty3 rfl rfl rfl) ?_
    refine d_pv 23 rfl rfl (by kernel_rfl) (by kernel_rfl) rfl rfl (pv_fieldAddr Try.underlying42 rfl sz3 rfl rfl) ?_
    refine d_u 24 rfl rfl (by kernel_rfl) (by kernel_rfl) rfl rfl (vl_load_box_one 2 ty3 rfl rfl rfl) ?_
    refine d_pv 25 rfl rfl (by kernel_rfl) (by kernel_rfl) rfl rfl (pv_sub (z := (qcy - qay)) rfl rfl (w64 (by omega))) ?_
    refine d_pv 26 rfl rfl (by kernel_rfl) (by kernel_rfl) rfl rfl (pv_fieldAddr Try.underlying42 rfl sz3 rfl rfl) ?_
    refine d_u 27 rfl rfl (by kernel_rfl) (by kernel_rfl) rfl rfl (vl_load_box_one 0 ty3 rfl rfl rfl) ?_
    refine d_pv 28 rfl rfl (by kernel_rfl) (by kernel_rfl) rfl rfl (pv_fieldAddr Try.underlying42 rfl sz3 rfl rfl) ?_
    refine d_u 29 rfl rfl (by kernel_rfl) (by kernel_rfl) rfl rfl (vl_load_box_one 2 ty3 rfl rfl rfl) ?_
    refine d_pv 30 rfl rfl (by kernel_rfl) (by kernel_rfl) rfl rfl (pv_sub (z := (qcz - qaz)) rfl rfl (w64 (by omega))) ?_
    refine d_pv 31 rfl rfl (by kernel_rfl) (by kernel_rfl) rfl rfl (pv_build_array zr44 rfl Try.underlying44 sz3 (.c rfl (.c rfl (.c rfl .n))) (.c rfl rfl rfl (.take .nil) (.c rfl rfl rfl (.skip (.take .nil)) (.c rfl rfl rfl (.skip (.skip (.take .nil))) .n)))) ?_
    refine d_weak (m' := [(78, .agg #[.int .i64 (qcx - qax), .int .i64 (qcy - qay), .int .i64 (qcz - qaz)]), (77, .int .i64 (qcz - qaz)), (76, .int .i64 qaz), (75, .pointer (some ⟨bn18n1, 2, none⟩)), (74, .int .i64 qcz), (73, .pointer (some ⟨bn20n1, 2, none⟩)), (72, .int .i64 (qcy - qay)), (71, .int .i64 qay), (70, .pointer (some ⟨bn18n1, 1, none⟩)), (69, .int .i64 qcy), (68, .pointer (some ⟨bn20n1, 1, none⟩)), (67, .int .i64 (qcx - qax)), (66, .int .i64 qax), (65, .pointer (some ⟨bn18n1, 0, none⟩)), (64, .int .i64 qcx), (63, .pointer (some ⟨bn20n1, 0, none⟩)), (62, .agg #[.int .i64 (qbx - qax), .int .i64 (qby - qay), .int .i64 (qbz - qaz)]), (61, .int .i64 (qbz - qaz)), (60, .int .i64 qaz), (59, .pointer (some ⟨bn18n1, 2, none⟩)), (58, .int .i64 qbz), (57, .pointer (some ⟨bn19n1, 2, none⟩)), (56, .int .i64 (qby - qay)), (55, .int .i64 qay), (54, .pointer (some ⟨bn18n1, 1, none⟩)), (53, .int .i64 qby), (52, .pointer (some ⟨bn19n1, 1, none⟩)), (51, .int .i64 (qbx - qax)), (50, .int .i64 qax), (49, .pointer (some ⟨bn18n1, 0, none⟩)), (48, .int .i64 qbx), (47, .pointer (some ⟨bn19n1, 0, none⟩)), (10, .pointer (some ⟨bn20n1, 0, none⟩)), (9, .pointer (some ⟨bn19n1, 0, none⟩)), (8, .pointer (some ⟨bn18n1, 0, none⟩)), (46, .agg #[.int .i64 qcx, .int .i64 qcy, .int .i64 qcz]), (45, .pointer (some ⟨b15, o16, none⟩)), (44, .int .i64 ((F.getD i (0, 0, 0)).2.2)), (43, .pointer (some ⟨b8, 2, none⟩)), (42, .slice pv nv cv), (41, .pointer (some ⟨b1, 0, none⟩)), (40, .agg #[.int .i64 qbx, .int .i64 qby, .int .i64 qbz]), (39, .pointer (some ⟨b12, o13, none⟩)), (38, .int .i64 ((F.getD i (0, 0, 0)).2.1)), (37, .pointer (some ⟨b8, 1, none⟩)), (36, .slice pv nv cv), (35, .pointer (some ⟨b1, 0, none⟩)), (34, .agg #[.int .i64 qax, .int .i64 qay, .int .i64 qaz]), (33, .pointer (some ⟨b9, o10, none⟩)), (32, .int .i64 ((F.getD i (0, 0, 0)).1)), (31, .pointer (some ⟨b8, 0, none⟩)), (30, .slice pv nv cv), (29, .pointer (some ⟨b1, 0, none⟩)), (7, .pointer (some ⟨b8, 0, none⟩)), (28, .agg #[.int .i64 ((F.getD i (0, 0, 0)).1), .int .i64 ((F.getD i (0, 0, 0)).2.1), .int .i64 ((F.getD i (0, 0, 0)).2.2)]), (27, .pointer (some ⟨b5, o6, none⟩)), (26, .bool (decide (((i : Nat) : Int) < ((nf : Nat) : Int)))), (25, .int .i64 ((i : Nat) : Int)), (24, .int .i64 ((nf : Nat) : Int)), (23, .slice pf nf cf), (5, .pointer (some ⟨b3, 0, none⟩)), (3, .int .i64 0), (2, .pointer (some ⟨b2, 0, none⟩)), (1, .pointer (some ⟨b1, 0, none⟩))]) (R' := [atF b15 o16 [.int .i64 qcx, .int .i64 qcy, .int .i64 qcz], atF b12 o13 [.int .i64 qbx, .int .i64 qby, .int .i64 qbz], atF b9 o10 [.int .i64 qax, .int .i64 qay, .int .i64 qaz], atF b5 o6 [.int .i64 ((F.getD i (0, 0, 0)).1), .int .i64 ((F.getD i (0, 0, 0)).2.1), .int .i64 ((F.getD i (0, 0, 0)).2.2)], slF (rI3 .i64) pv cv V, slF (rI3 .i64) pf cf F]) ((.of rfl) : SubM _ _) (List.Perm.refl _) (List.Perm.refl _) ((.of [0, 1, 2, 3, 4, 5] rfl) : SelR _ _ _) ?_
    refine d_join (X := Nat × Nat) (k' := 0) (L' := #[true, true, true, true, true, true, true, true, true, true, true, true, true, true, true, true, true, true, true, true, true, true, true, true, true, true, true, true, true, true, true, true, true, true, true, true]) (fun (bn32n1, bn33n1) => ([(12, .pointer (some ⟨bn33n1, 0, none⟩)), (11, .pointer (some ⟨bn32n1, 0, none⟩)), (78, .agg #[.int .i64 (qcx - qax), .int .i64 (qcy - qay), .int .i64 (qcz - qaz)]), (77, .int .i64 (qcz - qaz)), (76, .int .i64 qaz), (75, .pointer (some ⟨bn18n1, 2, none⟩)), (74, .int .i64 qcz), (73, .pointer (some ⟨bn20n1, 2, none⟩)), (72, .int .i64 (qcy - qay)), (71, .int .i64 qay), (70, .pointer (some ⟨bn18n1, 1, none⟩)), (69, .int .i64 qcy), (68, .pointer (some ⟨bn20n1, 1, none⟩)), (67, .int .i64 (qcx - qax)), (66, .int .i64 qax), (65, .pointer (some ⟨bn18n1, 0, none⟩)), (64, .int .i64 qcx), (63, .pointer (some ⟨bn20n1, 0, none⟩)), (62, .agg #[.int .i64 (qbx - qax), .int .i64 (qby - qay), .int .i64 (qbz - qaz)]), (61, .int .i64 (qbz - qaz)), (60, .int .i64 qaz), (59, .pointer (some ⟨bn18n1, 2, none⟩)), (58, .int .i64 qbz), (57, .pointer (some ⟨bn19n1, 2, none⟩)), (56, .int .i64 (qby - qay)), (55, .int .i64 qay), (54, .pointer (some ⟨bn18n1, 1, none⟩)), (53, .int .i64 qby), (52, .pointer (some ⟨bn19n1, 1, none⟩)), (51, .int .i64 (qbx - qax)), (50, .int .i64 qax), (49, .pointer (some ⟨bn18n1, 0, none⟩)), (48, .int .i64 qbx), (47, .pointer (some ⟨bn19n1, 0, none⟩)), (10, .pointer (some ⟨bn20n1, 0, none⟩)), (9, .pointer (some ⟨bn19n1, 0, none⟩)), (8, .pointer (some ⟨bn18n1, 0, none⟩)), (46, .agg #[.int .i64 qcx, .int .i64 qcy, .int .i64 qcz]), (45, .pointer (some ⟨b15, o16, none⟩)), (44, .int .i64 ((F.getD i (0, 0, 0)).2.2)), (43, .pointer (some ⟨b8, 2, none⟩)), (42, .slice pv nv cv), (41, .pointer (some ⟨b1, 0, none⟩)), (40, .agg #[.int .i64 qbx, .int .i64 qby, .int .i64 qbz]), (39, .pointer (some ⟨b12, o13, none⟩)), (38, .int .i64 ((F.getD i (0, 0, 0)).2.1)), (37, .pointer (some ⟨b8, 1, none⟩)), (36, .slice pv nv cv), (35, .pointer (some ⟨b1, 0, none⟩)), (34, .agg #[.int .i64 qax, .int .i64 qay, .int .i64 qaz]), (33, .pointer (some ⟨b9, o10, none⟩)), (32, .int .i64 ((F.getD i (0, 0, 0)).1)), (31, .pointer (some ⟨b8, 0, none⟩)), (30, .slice pv nv cv), (29, .pointer (some ⟨b1, 0, none⟩)), (7, .pointer (some ⟨b8, 0, none⟩)), (28, .agg #[.int .i64 ((F.getD i (0, 0, 0)).1), .int .i64 ((F.getD i (0, 0, 0)).2.1), .int .i64 ((F.getD i (0, 0, 0)).2.2)]), (27, .pointer (some ⟨b5, o6, none⟩)), (26, .bool (decide (((i : Nat) : Int) < ((nf : Nat) : Int)))), (25, .int .i64 ((i : Nat) : Int)), (24, .int .i64 ((nf : Nat) : Int)), (23, .slice pf nf cf), (5, .pointer (some ⟨b3, 0, none⟩)), (3, .int .i64 0), (2, .pointer (some ⟨b2, 0, none⟩)), (1, .pointer (some ⟨b1, 0, none⟩))], [boxA bn33n1 44 [.int .i64 (qcx - qax), .int .i64 (qcy - qay), .int .i64 (qcz - qaz)], boxA bn32n1 44 [.int .i64 (qbx - qax), .int .i64 (qby - qay), .int .i64 (qbz - qaz)]], [boxA bn20n1 42 [.int .i64 qcx, .int .i64 qcy, .int .i64 qcz], boxA bn19n1 42 [.int .i64 qbx, .int .i64 qby, .int .i64 qbz], boxA bn18n1 42 [.int .i64 qax, .int .i64 qay, .int .i64 qaz], boxA b8 44 [.int .i64 ((F.getD i (0, 0, 0)).1), .int .i64 ((F.getD i (0, 0, 0)).2.1), .int .i64 ((F.getD i (0, 0, 0)).2.2)], boxA b3 44 [.int .i64 ((s).1), .int .i64 ((s).2.1), .int .i64 ((s).2.2)], boxA b2 44 [.int .i64 0, .int .i64 0, .int .i64 0], boxA b1 25 [.slice pv nv cv, .slice pf nf cf]], [atF b15 o16 [.int .i64 qcx, .int .i64 qcy, .int .i64 qcz], atF b12 o13 [.int .i64 qbx, .int .i64 qby, .int .i64 qbz], atF b9 o10 [.int .i64 qax, .int .i64 qay, .int .i64 qaz], atF b5 o6 [.int .i64 ((F.getD i (0, 0, 0)).1), .int .i64 ((F.getD i (0, 0, 0)).2.1), .int .i64 ((F.getD i (0, 0, 0)).2.2)], slF (rI3 .i64) pv cv V, slF (rI3 .i64) pf cf F])) ?_ (fun hD0 => ?_)
    ·
     rintro ⟨bn32n1, bn33n1⟩
     dsimp only
     refine d_done (by kernel_rfl) ?_
     refine p_then ?_
     refine r_seq ?_
     have hm01 := Ms.mul_lim (a := (qbx - qax)) (b := (qcy - qay)) (by omega) (by omega)
     have hm02 := Ms.mul_lim (a := (qbx - qax)) (b := (qcz - qaz)) (by omega) (by omega)
     have hm10 := Ms.mul_lim (a := (qby - qay)) (b := (qcx - qax)) (by omega) (by omega)
     have hm12 := Ms.mul_lim (a := (qby - qay)) (b := (qcz - qaz)) (by omega) (by omega)
     have hm20 := Ms.mul_lim (a := (qbz - qaz)) (b := (qcx - qax)) (by omega) (by omega)
     have hm21 := Ms.mul_lim (a := (qbz - qaz)) (b := (qcy - qay)) (by omega) (by omega)
     refine r_region ?_
     refine r_pv rfl rfl (pv_move rfl) ?_
     refine r_nil ?_
     refine p_then ?_
     refine r_block ?_
     refine r_loopU ?_
     refine u_round ?_
     refine r_seq ?_
     refine r_region ?_
     refine r_pv rfl rfl (pv_lss rfl rfl) ?_
     refine r_nil ?_
     refine p_then ?_
     refine r_seq ?_
     refine r_cond_t rfl rfl ?_
     refine r_skip ?_
     refine p_then ?_
     refine r_seq ?_
     refine r_block ?_
     refine r_seq ?_
     refine r_region ?_
     refine r_pv rfl rfl (pv_move rfl) ?_
     refine r_pv rfl rfl (pv_assign rfl) ?_
     refine r_nil ?_
     refine p_then ?_
     refine r_seq ?_
     refine r_region ?_
     refine r_pv rfl rfl (pv_move rfl) ?_
     refine r_pv rfl rfl (pv_add (z := 1) rfl rfl (w64 (by decide))) ?_
     refine r_pv rfl rfl (pv_rem (z := 1) rfl rfl (by decide) (by decide)) ?_
     refine r_pv rfl rfl (pv_move rfl) ?_
     refine r_pv rfl rfl (pv_add (z := 2) rfl rfl (w64 (by decide))) ?_
     refine r_pv rfl rfl (pv_rem (z := 2) rfl rfl (by decide) (by decide)) ?_
     refine r_pv rfl rfl (pv_assign rfl) ?_
     refine r_pv rfl rfl (pv_assign rfl) ?_
     refine r_nil ?_
     refine p_then ?_
     refine r_weakO (.c (i := 6) rfl (.c (i := 0) rfl (.c (i := 0) rfl (.c (i := 0) rfl (.c (i := 0) rfl (.c (i := 0) rfl (.c (i := 0) rfl (.c (i := 0) rfl (.c (i := 0) rfl .n))))))))) ?_
     refine r_draw (OW := [boxA b3 44 [.int .i64 ((s).1), .int .i64 ((s).2.1), .int .i64 ((s).2.2)]]) (O := [boxA bn33n1 44 [.int .i64 (qcx - qax), .int .i64 (qcy - qay), .int .i64 (qcz - qaz)], boxA bn32n1 44 [.int .i64 (qbx - qax), .int .i64 (qby - qay), .int .i64 (qbz - qaz)], boxA bn20n1 42 [.int .i64 qcx, .int .i64 qcy, .int .i64 qcz], boxA bn19n1 42 [.int .i64 qbx, .int .i64 qby, .int .i64 qbz], boxA bn18n1 42 [.int .i64 qax, .int .i64 qay, .int .i64 qaz], boxA b8 44 [.int .i64 ((F.getD i (0, 0, 0)).1), .int .i64 ((F.getD i (0, 0, 0)).2.1), .int .i64 ((F.getD i (0, 0, 0)).2.2)], boxA b2 44 [.int .i64 0, .int .i64 0, .int .i64 0], boxA b1 25 [.slice pv nv cv, .slice pf nf cf]]) 20 mixed (.block (.then (.then (.block (.block (.then (.then (.block (.then .ret))))))))) (by kernel_rfl) ?_
     refine d_pv 0 rfl rfl (by kernel_rfl) (by kernel_rfl) rfl rfl (pv_move rfl) ?_
     refine d_pv 1 rfl rfl (by kernel_rfl) (by kernel_rfl) rfl rfl (pv_indexAddr_arr (i := 0) Try.underlying44 sz3 rfl rfl (by decide) rfl) ?_
     refine d_uw 2 rfl rfl (by kernel_rfl) (by kernel_rfl) (by kernel_rfl) rfl rfl (vl_load_box_one 0 ty3 rfl rfl rfl) ?_
     refine d_pv 3 rfl rfl (by kernel_rfl) (by kernel_rfl) rfl rfl (pv_move rfl) ?_
     refine d_pv 4 rfl rfl (by kernel_rfl) (by kernel_rfl) rfl rfl (pv_indexAddr_arr (i := 1) Try.underlying44 sz3 rfl rfl (by decide) rfl) ?_
     refine d_uw 5 rfl rfl (by kernel_rfl) (by kernel_rfl) (by kernel_rfl) rfl rfl (vl_load_box_one 2 ty3 rfl rfl rfl) ?_
     refine d_pv 6 rfl rfl (by kernel_rfl) (by kernel_rfl) rfl rfl (pv_move rfl) ?_
     refine d_pv 7 rfl rfl (by kernel_rfl) (by kernel_rfl) rfl rfl (pv_indexAddr_arr (i := 2) Try.underlying44 sz3 rfl rfl (by decide) rfl) ?_
     refine d_uw 8 rfl rfl (by kernel_rfl) (by kernel_rfl) (by kernel_rfl) rfl rfl (vl_load_box_one 1 ty3 rfl rfl rfl) ?_
     refine d_pv 9 rfl rfl (by kernel_rfl) (by kernel_rfl) rfl rfl (pv_mul (z := ((qby - qay) * (qcz - qaz))) rfl rfl (w64 (by omega))) ?_
     refine d_pv 10 rfl rfl (by kernel_rfl) (by kernel_rfl) rfl rfl (pv_move rfl) ?_
     refine d_pv 11 rfl rfl (by kernel_rfl) (by kernel_rfl) rfl rfl (pv_indexAddr_arr (i := 2) Try.underlying44 sz3 rfl rfl (by decide) rfl) ?_
     refine d_uw 12 rfl rfl (by kernel_rfl) (by kernel_rfl) (by kernel_rfl) rfl rfl (vl_load_box_one 2 ty3 rfl rfl rfl) ?_
     refine d_pv 13 rfl rfl (by kernel_rfl) (by kernel_rfl) rfl rfl (pv_move rfl) ?_
     refine d_pv 14 rfl rfl (by kernel_rfl) (by kernel_rfl) rfl rfl (pv_indexAddr_arr (i := 1) Try.underlying44 sz3 rfl rfl (by decide) rfl) ?_
     refine d_uw 15 rfl rfl (by kernel_rfl) (by kernel_rfl) (by kernel_rfl) rfl rfl (vl_load_box_one 1 ty3 rfl rfl rfl) ?_
     refine d_pv 16 rfl rfl (by kernel_rfl) (by kernel_rfl) rfl rfl (pv_mul (z := ((qbz - qaz) * (qcy - qay))) rfl rfl (w64 (by omega))) ?_
     refine d_pv 17 rfl rfl (by kernel_rfl) (by kernel_rfl) rfl rfl (pv_sub (z := (((qby - qay) * (qcz - qaz)) - ((qbz - qaz) * (qcy - qay)))) rfl rfl (w64 (by omega))) ?_
     refine d_pv 18 rfl rfl (by kernel_rfl) (by kernel_rfl) rfl rfl (pv_add (z := ((s).1 + (((qby - qay) * (qcz - qaz)) - ((qbz - qaz) * (qcy - qay))))) rfl rfl (w64 (by omega))) ?_
     refine d_pv 19 rfl rfl (by kernel_rfl) (by kernel_rfl) rfl rfl (pv_indexAddr_arr (i := 0) Try.underlying44 sz3 rfl rfl (by decide) rfl) ?_
     refine d_one 20 (by kernel_rfl) (o_store_box (by kernel_rfl) rfl rfl rfl rfl rfl sz3 rfl (.take .nil) ?_)
     refine d_done (by kernel_rfl) ?_
     refine p_block ?_
     refine p_then ?_
     refine r_region ?_
     refine r_pv rfl rfl (pv_add (z := 1) rfl rfl (w64 (by decide))) ?_
     refine r_pv rfl rfl (pv_move rfl) ?_
     refine r_nil ?_
     refine p_again ?_
     refine u_round ?_
     refine r_seq ?_
     refine r_region ?_
     refine r_pv rfl rfl (pv_lss rfl rfl) ?_
     refine r_nil ?_
     refine p_then ?_
     refine r_seq ?_
     refine r_cond_t rfl rfl ?_
     refine r_skip ?_
     refine p_then ?_
     refine r_seq ?_
     refine r_block ?_
     refine r_seq ?_
     refine r_region ?_
     refine r_pv rfl rfl (pv_move rfl) ?_
     refine r_pv rfl rfl (pv_assign rfl) ?_
     refine r_nil ?_
     refine p_then ?_
     refine r_seq ?_
     refine r_region ?_
     refine r_pv rfl rfl (pv_move rfl) ?_
     refine r_pv rfl rfl (pv_add (z := 2) rfl rfl (w64 (by decide))) ?_
     refine r_pv rfl rfl (pv_rem (z := 2) rfl rfl (by decide) (by decide)) ?_
     refine r_pv rfl rfl (pv_move rfl) ?_
     refine r_pv rfl rfl (pv_add (z := 3) rfl rfl (w64 (by decide))) ?_
     refine r_pv rfl rfl (pv_rem (z := 0) rfl rfl (by decide) (by decide)) ?_
     refine r_pv rfl rfl (pv_assign rfl) ?_
     refine r_pv rfl rfl (pv_assign rfl) ?_
     refine r_nil ?_
     refine p_then ?_
     refine r_draw (OW := [boxA b3 44 [.int .i64 ((s).1 + (((qby - qay) * (qcz - qaz)) - ((qbz - qaz) * (qcy - qay)))), .int .i64 ((s).2.1), .int .i64 ((s).2.2)]]) (O := [boxA bn33n1 44 [.int .i64 (qcx - qax), .int .i64 (qcy - qay), .int .i64 (qcz - qaz)], boxA bn32n1 44 [.int .i64 (qbx - qax), .int .i64 (qby - qay), .int .i64 (qbz - qaz)], boxA bn20n1 42 [.int .i64 qcx, .int .i64 qcy, .int .i64 qcz], boxA bn19n1 42 [.int .i64 qbx, .int .i64 qby, .int .i64 qbz], boxA bn18n1 42 [.int .i64 qax, .int .i64 qay, .int .i64 qaz], boxA b8 44 [.int .i64 ((F.getD i (0, 0, 0)).1), .int .i64 ((F.getD i (0, 0, 0)).2.1), .int .i64 ((F.getD i (0, 0, 0)).2.2)], boxA b2 44 [.int .i64 0, .int .i64 0, .int .i64 0], boxA b1 25 [.slice pv nv cv, .slice pf nf cf]]) 20 mixed (.block (.then (.then (.block (.block (.then (.then (.block (.then .ret))))))))) (by kernel_rfl) ?_
     refine d_pv 0 rfl rfl (by kernel_rfl) (by kernel_rfl) rfl rfl (pv_move rfl) ?_
     refine d_pv 1 rfl rfl (by kernel_rfl) (by kernel_rfl) rfl rfl (pv_indexAddr_arr (i := 1) Try.underlying44 sz3 rfl rfl (by decide) rfl) ?_
     refine d_uw 2 rfl rfl (by kernel_rfl) (by kernel_rfl) (by kernel_rfl) rfl rfl (vl_load_box_one 0 ty3 rfl rfl rfl) ?_
     refine d_pv 3 rfl rfl (by kernel_rfl) (by kernel_rfl) rfl rfl (pv_move rfl) ?_
     refine d_pv 4 rfl rfl (by kernel_rfl) (by kernel_rfl) rfl rfl (pv_indexAddr_arr (i := 2) Try.underlying44 sz3 rfl rfl (by decide) rfl) ?_
     refine d_uw 5 rfl rfl (by kernel_rfl) (by kernel_rfl) (by kernel_rfl) rfl rfl (vl_load_box_one 2 ty3 rfl rfl rfl) ?_
     refine d_pv 6 rfl rfl (by kernel_rfl) (by kernel_rfl) rfl rfl (pv_move rfl) ?_
     refine d_pv 7 rfl rfl (by kernel_rfl) (by kernel_rfl) rfl rfl (pv_indexAddr_arr (i := 0) Try.underlying44 sz3 rfl rfl (by decide) rfl) ?_
     refine d_uw 8 rfl rfl (by kernel_rfl) (by kernel_rfl) (by kernel_rfl) rfl rfl (vl_load_box_one 1 ty3 rfl rfl rfl) ?_
     refine d_pv 9 rfl rfl (by kernel_rfl) (by kernel_rfl) rfl rfl (pv_mul (z := ((qbz - qaz) * (qcx - qax))) rfl rfl (w64 (by omega))) ?_
     refine d_pv 10 rfl rfl (by kernel_rfl) (by kernel_rfl) rfl rfl (pv_move rfl) ?_
     refine d_pv 11 rfl rfl (by kernel_rfl) (by kernel_rfl) rfl rfl (pv_indexAddr_arr (i := 0) Try.underlying44 sz3 rfl rfl (by decide) rfl) ?_
     refine d_uw 12 rfl rfl (by kernel_rfl) (by kernel_rfl) (by kernel_rfl) rfl rfl (vl_load_box_one 2 ty3 rfl rfl rfl) ?_
     refine d_pv 13 rfl rfl (by kernel_rfl) (by kernel_rfl) rfl rfl (pv_move rfl) ?_
     refine d_pv 14 rfl rfl (by kernel_rfl) (by kernel_rfl) rfl rfl (pv_indexAddr_arr (i := 2) Try.underlying44 sz3 rfl rfl (by decide) rfl) ?_
     refine d_uw 15 rfl rfl (by kernel_rfl) (by kernel_rfl) (by kernel_rfl) rfl rfl (vl_load_box_one 1 ty3 rfl rfl rfl) ?_
     refine d_pv 16 rfl rfl (by kernel_rfl) (by kernel_rfl) rfl rfl (pv_mul (z := ((qbx - qax) * (qcz - qaz))) rfl rfl (w64 (by omega))) ?_
     refine d_pv 17 rfl rfl (by kernel_rfl) (by kernel_rfl) rfl rfl (pv_sub (z := (((qbz - qaz) * (qcx - qax)) - ((qbx - qax) * (qcz - qaz)))) rfl rfl (w64 (by omega))) ?_
     refine d_pv 18 rfl rfl (by kernel_rfl) (by kernel_rfl) rfl rfl (pv_add (z := ((s).2.1 + (((qbz - qaz) * (qcx - qax)) - ((qbx - qax) * (qcz - qaz))))) rfl rfl (w64 (by omega))) ?_
     refine d_pv 19 rfl rfl (by kernel_rfl) (by kernel_rfl) rfl rfl (pv_indexAddr_arr (i := 1) Try.underlying44 sz3 rfl rfl (by decide) rfl) ?_
     refine d_one 20 (by kernel_rfl) (o_store_box (by kernel_rfl) rfl rfl rfl rfl rfl sz3 rfl (.skip (.take .nil)) ?_)
     refine d_done (by kernel_rfl) ?_
     refine p_block ?_
     refine p_then ?_
     refine r_region ?_
     refine r_pv rfl rfl (pv_add (z := 2) rfl rfl (w64 (by decide))) ?_
     refine r_pv rfl rfl (pv_move rfl) ?_
     refine r_nil ?_
     refine p_again ?_
     refine u_round ?_
     refine r_seq ?_
     refine r_region ?_
     refine r_pv rfl rfl (pv_lss rfl rfl) ?_
     refine r_nil ?_
     refine p_then ?_
     refine r_seq ?_
     refine r_cond_t rfl rfl ?_
     refine r_skip ?_
     refine p_then ?_
     refine r_seq ?_
     refine r_block ?_
     refine r_seq ?_
     refine r_region ?_
     refine r_pv rfl rfl (pv_move rfl) ?_
     refine r_pv rfl rfl (pv_assign rfl) ?_
     refine r_nil ?_
     refine p_then ?_
     refine r_seq ?_
     refine r_region ?_
     refine r_pv rfl rfl (pv_move rfl) ?_
     refine r_pv rfl rfl (pv_add (z := 3) rfl rfl (w64 (by decide))) ?_
     refine r_pv rfl rfl (pv_rem (z := 0) rfl rfl (by decide) (by decide)) ?_
     refine r_pv rfl rfl (pv_move rfl) ?_
     refine r_pv rfl rfl (pv_add (z := 4) rfl rfl (w64 (by decide))) ?_
     refine r_pv rfl rfl (pv_rem (z := 1) rfl rfl (by decide) (by decide)) ?_
     refine r_pv rfl rfl (pv_assign rfl) ?_
     refine r_pv rfl rfl (pv_assign rfl) ?_
     refine r_nil ?_
     refine p_then ?_
     refine r_draw (OW := [boxA b3 44 [.int .i64 ((s).1 + (((qby - qay) * (qcz - qaz)) - ((qbz - qaz) * (qcy - qay)))), .int .i64 ((s).2.1 + (((qbz - qaz) * (qcx - qax)) - ((qbx - qax) * (qcz - qaz)))), .int .i64 ((s).2.2)]]) (O := [boxA bn33n1 44 [.int .i64 (qcx - qax), .int .i64 (qcy - qay), .int .i64 (qcz - qaz)], boxA bn32n1 44 [.int .i64 (qbx - qax), .int .i64 (qby - qay), .int .i64 (qbz - qaz)], boxA bn20n1 42 [.int .i64 qcx, .int .i64 qcy, .int .i64 qcz], boxA bn19n1 42 [.int .i64 qbx, .int .i64 qby, .int .i64 qbz], boxA bn18n1 42 [.int .i64 qax, .int .i64 qay, .int .i64 qaz], boxA b8 44 [.int .i64 ((F.getD i (0, 0, 0)).1), .int .i64 ((F.getD i (0, 0, 0)).2.1), .int .i64 ((F.getD i (0, 0, 0)).2.2)], boxA b2 44 [.int .i64 0, .int .i64 0, .int .i64 0], boxA b1 25 [.slice pv nv cv, .slice pf nf cf]]) 20 mixed (.block (.then (.then (.block (.block (.then (.then (.block (.then .ret))))))))) (by kernel_rfl) ?_
     refine d_pv 0 rfl rfl (by kernel_rfl) (by kernel_rfl) rfl rfl (pv_move rfl) ?_
     refine d_pv 1 rfl rfl (by kernel_rfl) (by kernel_rfl) rfl rfl (pv_indexAddr_arr (i := 2) Try.underlying44 sz3 rfl rfl (by decide) rfl) ?_
     refine d_uw 2 rfl rfl (by kernel_rfl) (by kernel_rfl) (by kernel_rfl) rfl rfl (vl_load_box_one 0 ty3 rfl rfl rfl) ?_
     refine d_pv 3 rfl rfl (by kernel_rfl) (by kernel_rfl) rfl rfl (pv_move rfl) ?_
     refine d_pv 4 rfl rfl (by kernel_rfl) (by kernel_rfl) rfl rfl (pv_indexAddr_arr (i := 0) Try.underlying44 sz3 rfl rfl (by decide) rfl) ?_
     refine d_uw 5 rfl rfl (by kernel_rfl) (by kernel_rfl) (by kernel_rfl) rfl rfl (vl_load_box_one 2 ty3 rfl rfl rfl) ?_
     refine d_pv 6 rfl rfl (by kernel_rfl) (by kernel_rfl) rfl rfl (pv_move rfl) ?_
     refine d_pv 7 rfl rfl (by kernel_rfl) (by kernel_rfl) rfl rfl (pv_indexAddr_arr (i := 1) Try.underlying44 sz3 rfl rfl (by decide) rfl) ?_
     refine d_uw 8 rfl rfl (by kernel_rfl) (by kernel_rfl) (by kernel_rfl) rfl rfl (vl_load_box_one 1 ty3 rfl rfl rfl) ?_
     refine d_pv 9 rfl rfl (by kernel_rfl) (by kernel_rfl) rfl rfl (pv_mul (z := ((qbx - qax) * (qcy - qay))) rfl rfl (w64 (by omega))) ?_
     refine d_pv 10 rfl rfl (by kernel_rfl) (by kernel_rfl) rfl rfl (pv_move rfl) ?_
     refine d_pv 11 rfl rfl (by kernel_rfl) (by kernel_rfl) rfl rfl (pv_indexAddr_arr (i := 1) Try.underlying44 sz3 rfl rfl (by decide) rfl) ?_
     refine d_uw 12 rfl rfl (by kernel_rfl) (by kernel_rfl) (by kernel_rfl) rfl rfl (vl_load_box_one 2 ty3 rfl rfl rfl) ?_
     refine d_pv 13 rfl rfl (by kernel_rfl) (by kernel_rfl) rfl rfl (pv_move rfl) ?_
     refine d_pv 14 rfl rfl (by kernel_rfl) (by kernel_rfl) rfl rfl (pv_indexAddr_arr (i := 0) Try.underlying44 sz3 rfl rfl (by decide) rfl) ?_
     refine d_uw 15 rfl rfl (by kernel_rfl) (by kernel_rfl) (by kernel_rfl) rfl rfl (vl_load_box_one 1 ty3 rfl rfl rfl) ?_
     refine d_pv 16 rfl rfl (by kernel_rfl) (by kernel_rfl) rfl rfl (pv_mul (z := ((qby - qay) * (qcx - qax))) rfl rfl (w64 (by omega))) ?_
     refine d_pv 17 rfl rfl (by kernel_rfl) (by kernel_rfl) rfl rfl (pv_sub (z := (((qbx - qax) * (qcy - qay)) - ((qby - qay) * (qcx - qax)))) rfl rfl (w64 (by omega))) ?_
     refine d_pv 18 rfl rfl (by kernel_rfl) (by kernel_rfl) rfl rfl (pv_add (z := ((s).2.2 + (((qbx - qax) * (qcy - qay)) - ((qby - qay) * (qcx - qax))))) rfl rfl (w64 (by omega))) ?_
     refine d_pv 19 rfl rfl (by kernel_rfl) (by kernel_rfl) rfl rfl (pv_indexAddr_arr (i := 2) Try.underlying44 sz3 rfl rfl (by decide) rfl) ?_
     refine d_one 20 (by kernel_rfl) (o_store_box (by kernel_rfl) rfl rfl rfl rfl rfl sz3 rfl (.skip (.skip (.take .nil))) ?_)
     refine d_done (by kernel_rfl) ?_
     refine p_block ?_
     refine p_then ?_
     refine r_region ?_
     refine r_pv rfl rfl (pv_add (z := 3) rfl rfl (w64 (by decide))) ?_
     refine r_pv rfl rfl (pv_move rfl) ?_
     refine r_nil ?_
     refine p_again ?_
     refine u_round ?_
     refine r_seq ?_
     refine r_region ?_
     refine r_pv rfl rfl (pv_lss rfl rfl) ?_
     refine r_nil ?_
     refine p_then ?_
     refine r_seq ?_
     refine r_cond_f rfl rfl ?_
     refine r_exit ?_
     refine p_then_exit ?_
     refine p_then_exit ?_
     refine p_block_here ?_
     refine p_block ?_
     refine p_then ?_
     refine r_region ?_
     refine r_pv rfl rfl (pv_add (z := (((i + 1) : Nat) : Int)) rfl rfl (w64 (by omega))) ?_
     refine r_pv rfl rfl (pv_move rfl) ?_
     refine r_nil ?_
     refine p_next ((i + 1), (((s).1 + (((qby - qay) * (qcz - qaz)) - ((qbz - qaz) * (qcy - qay)))), ((s).2.1 + (((qbz - qaz) * (qcx - qax)) - ((qbx - qax) * (qcz - qaz)))), ((s).2.2 + (((qbx - qax) * (qcy - qay)) - ((qby - qay) * (qcx - qax)))))) (show (i + 1) ≤ nf ∧ (((s).1 + (((qby - qay) * (qcz - qaz)) - ((qbz - qaz) * (qcy - qay)))), ((s).2.1 + (((qbz - qaz) * (qcx - qax)) - ((qbx - qax) * (qcz - qaz)))), ((s).2.2 + (((qbx - qax) * (qcy - qay)) - ((qby - qay) * (qcx - qax))))) = Ms.vecS V (F.take (i + 1)) ∧ (-(8796093022208 * ((i + 1) : Int)) ≤ (((s).1 + (((qby - qay) * (qcz - qaz)) - ((qbz - qaz) * (qcy - qay)))), ((s).2.1 + (((qbz - qaz) * (qcx - qax)) - ((qbx - qax) * (qcz - qaz)))), ((s).2.2 + (((qbx - qax) * (qcy - qay)) - ((qby - qay) * (qcx - qax))))).1 ∧ (((s).1 + (((qby - qay) * (qcz - qaz)) - ((qbz - qaz) * (qcy - qay)))), ((s).2.1 + (((qbz - qaz) * (qcx - qax)) - ((qbx - qax) * (qcz - qaz)))), ((s).2.2 + (((qbx - qax) * (qcy - qay)) - ((qby - qay) * (qcx - qax))))).1 ≤ 8796093022208 * ((i + 1) : Int)) ∧ (-(8796093022208 * ((i + 1) : Int)) ≤ (((s).1 + (((qby - qay) * (qcz - qaz)) - ((qbz - qaz) * (qcy - qay)))), ((s).2.1 + (((qbz - qaz) * (qcx - qax)) - ((qbx - qax) * (qcz - qaz)))), ((s).2.2 + (((qbx - qax) * (qcy - qay)) - ((qby - qay) * (qcx - qax))))).2.1 ∧ (((s).1 + (((qby - qay) * (qcz - qaz)) - ((qbz - qaz) * (qcy - qay)))), ((s).2.1 + (((qbz - qaz) * (qcx - qax)) - ((qbx - qax) * (qcz - qaz)))), ((s).2.2 + (((qbx - qax) * (qcy - qay)) - ((qby - qay) * (qcx - qax))))).2.1 ≤ 8796093022208 * ((i + 1) : Int)) ∧ (-(8796093022208 * ((i + 1) : Int)) ≤ (((s).1 + (((qby - qay) * (qcz - qaz)) - ((qbz - qaz) * (qcy - qay)))), ((s).2.1 + (((qbz - qaz) * (qcx - qax)) - ((qbx - qax) * (qcz - qaz)))), ((s).2.2 + (((qbx - qax) * (qcy - qay)) - ((qby - qay) * (qcx - qax))))).2.2 ∧ (((s).1 + (((qby - qay) * (qcz - qaz)) - ((qbz - qaz) * (qcy - qay)))), ((s).2.1 + (((qbz - qaz) * (qcx - qax)) - ((qbx - qax) * (qcz - qaz)))), ((s).2.2 + (((qbx - qax) * (qcy - qay)) - ((qby - qay) * (qcx - qax))))).2.2 ≤ 8796093022208 * ((i + 1) : Int)) from by subst hqax hqay hqaz hqbx hqby hqbz hqcx hqcy hqcz; exact ⟨by omega, by rw [Ms.vecS_take (by omega), ← hs]; simp [Ms.nrm, Ms.cross, Ms.sub, Ms.pt], by dsimp only; omega, by dsimp only; omega, by dsimp only; omega⟩) (by show nf - (i + 1) < nf - i; omega) ((.of rfl) : SubM _ _) (ho := ((.e (i := 0) rfl (by first | rfl | (congr 1; omega) | simp_all) (.of [6, 6] rfl)) : PickO _ _ _)) ((.of [4, 5] rfl) : SelR _ _ _)
    refine d_join (X := Nat × Nat) (k' := 1) (L' := #[true, true, true, true, true, true, true, true, true, true, true, true, true, true, true, true, true, true, true, true, true, true, true, true, true, true, true, true, true, true, true, true, true, true, true, false]) (fun (bn32n1, bn33n1) => ([(12, .pointer (some ⟨bn33n1, 0, none⟩)), (11, .pointer (some ⟨bn32n1, 0, none⟩)), (78, .agg #[.int .i64 (qcx - qax), .int .i64 (qcy - qay), .int .i64 (qcz - qaz)]), (77, .int .i64 (qcz - qaz)), (76, .int .i64 qaz), (75, .pointer (some ⟨bn18n1, 2, none⟩)), (74, .int .i64 qcz), (73, .pointer (some ⟨bn20n1, 2, none⟩)), (72, .int .i64 (qcy - qay)), (71, .int .i64 qay), (70, .pointer (some ⟨bn18n1, 1, none⟩)), (69, .int .i64 qcy), (68, .pointer (some ⟨bn20n1, 1, none⟩)), (67, .int .i64 (qcx - qax)), (66, .int .i64 qax), (65, .pointer (some ⟨bn18n1, 0, none⟩)), (64, .int .i64 qcx), (63, .pointer (some ⟨bn20n1, 0, none⟩)), (62, .agg #[.int .i64 (qbx - qax), .int .i64 (qby - qay), .int .i64 (qbz - qaz)]), (61, .int .i64 (qbz - qaz)), (60, .int .i64 qaz), (59, .pointer (some ⟨bn18n1, 2, none⟩)), (58, .int .i64 qbz), (57, .pointer (some ⟨bn19n1, 2, none⟩)), (56, .int .i64 (qby - qay)), (55, .int .i64 qay), (54, .pointer (some ⟨bn18n1, 1, none⟩)), (53, .int .i64 qby), (52, .pointer (some ⟨bn19n1, 1, none⟩)), (51, .int .i64 (qbx - qax)), (50, .int .i64 qax), (49, .pointer (some ⟨bn18n1, 0, none⟩)), (48, .int .i64 qbx), (47, .pointer (some ⟨bn19n1, 0, none⟩)), (10, .pointer (some ⟨bn20n1, 0, none⟩)), (9, .pointer (some ⟨bn19n1, 0, none⟩)), (8, .pointer (some ⟨bn18n1, 0, none⟩)), (46, .agg #[.int .i64 qcx, .int .i64 qcy, .int .i64 qcz]), (45, .pointer (some ⟨b15, o16, none⟩)), (44, .int .i64 ((F.getD i (0, 0, 0)).2.2)), (43, .pointer (some ⟨b8, 2, none⟩)), (42, .slice pv nv cv), (41, .pointer (some ⟨b1, 0, none⟩)), (40, .agg #[.int .i64 qbx, .int .i64 qby, .int .i64 qbz]), (39, .pointer (some ⟨b12, o13, none⟩)), (38, .int .i64 ((F.getD i (0, 0, 0)).2.1)), (37, .pointer (some ⟨b8, 1, none⟩)), (36, .slice pv nv cv), (35, .pointer (some ⟨b1, 0, none⟩)), (34, .agg #[.int .i64 qax, .int .i64 qay, .int .i64 qaz]), (33, .pointer (some ⟨b9, o10, none⟩)), (32, .int .i64 ((F.getD i (0, 0, 0)).1)), (31, .pointer (some ⟨b8, 0, none⟩)), (30, .slice pv nv cv), (29, .pointer (some ⟨b1, 0, none⟩)), (7, .pointer (some ⟨b8, 0, none⟩)), (28, .agg #[.int .i64 ((F.getD i (0, 0, 0)).1), .int .i64 ((F.getD i (0, 0, 0)).2.1), .int .i64 ((F.getD i (0, 0, 0)).2.2)]), (27, .pointer (some ⟨b5, o6, none⟩)), (26, .bool (decide (((i : Nat) : Int) < ((nf : Nat) : Int)))), (25, .int .i64 ((i : Nat) : Int)), (24, .int .i64 ((nf : Nat) : Int)), (23, .slice pf nf cf), (5, .pointer (some ⟨b3, 0, none⟩)), (3, .int .i64 0), (2, .pointer (some ⟨b2, 0, none⟩)), (1, .pointer (some ⟨b1, 0, none⟩))], [boxA bn32n1 44 [.int .i64 (qbx - qax), .int .i64 (qby - qay), .int .i64 (qbz - qaz)], boxA bn33n1 44 [.int .i64 0, .int .i64 0, .int .i64 0]], [boxA bn20n1 42 [.int .i64 qcx, .int .i64 qcy, .int .i64 qcz], boxA bn19n1 42 [.int .i64 qbx, .int .i64 qby, .int .i64 qbz], boxA bn18n1 42 [.int .i64 qax, .int .i64 qay, .int .i64 qaz], boxA b8 44 [.int .i64 ((F.getD i (0, 0, 0)).1), .int .i64 ((F.getD i (0, 0, 0)).2.1), .int .i64 ((F.getD i (0, 0, 0)).2.2)], boxA b3 44 [.int .i64 ((s).1), .int .i64 ((s).2.1), .int .i64 ((s).2.2)], boxA b2 44 [.int .i64 0, .int .i64 0, .int .i64 0], boxA b1 25 [.slice pv nv cv, .slice pf nf cf]], [atF b15 o16 [.int .i64 qcx, .int .i64 qcy, .int .i64 qcz], atF b12 o13 [.int .i64 qbx, .int .i64 qby, .int .i64 qbz], atF b9 o10 [.int .i64 qax, .int .i64 qay, .int .i64 qaz], atF b5 o6 [.int .i64 ((F.getD i (0, 0, 0)).1), .int .i64 ((F.getD i (0, 0, 0)).2.1), .int .i64 ((F.getD i (0, 0, 0)).2.2)], slF (rI3 .i64) pv cv V, slF (rI3 .i64) pf cf F])) ?_ (fun hD1 => ?_)
    ·
     rintro ⟨bn32n1, bn33n1⟩
     dsimp only
     refine d_one 35 (by kernel_rfl) ?_
     ·
      refine o_permW (perm_front (i := 1) rfl) ?_
      refine o_store_box (by kernel_rfl) rfl rfl rfl rfl rfl sz44 rfl (.take (.take (.take .nil))) ?_
      exact d_weakT (hD0 (bn32n1, bn33n1)) (by kernel_rfl) ((.of rfl) : SubM _ _) .rfl .rfl ((.of [0, 1, 2, 3, 4, 5] rfl) : SelR _ _ _)
    refine d_join (X := Nat × Nat) (k' := 2) (L' := #[true, true, true, true, true, true, true, true, true, true, true, true, true, true, true, true, true, true, true, true, true, true, true, true, true, true, true, true, true, true, true, true, true, true, false, false]) (fun (bn32n1, bn33n1) => ([(12, .pointer (some ⟨bn33n1, 0, none⟩)), (11, .pointer (some ⟨bn32n1, 0, none⟩)), (78, .agg #[.int .i64 (qcx - qax), .int .i64 (qcy - qay), .int .i64 (qcz - qaz)]), (77, .int .i64 (qcz - qaz)), (76, .int .i64 qaz), (75, .pointer (some ⟨bn18n1, 2, none⟩)), (74, .int .i64 qcz), (73, .pointer (some ⟨bn20n1, 2, none⟩)), (72, .int .i64 (qcy - qay)), (71, .int .i64 qay), (70, .pointer (some ⟨bn18n1, 1, none⟩)), (69, .int .i64 qcy), (68, .pointer (some ⟨bn20n1, 1, none⟩)), (67, .int .i64 (qcx - qax)), (66, .int .i64 qax), (65, .pointer (some ⟨bn18n1, 0, none⟩)), (64, .int .i64 qcx), (63, .pointer (some ⟨bn20n1, 0, none⟩)), (62, .agg #[.int .i64 (qbx - qax), .int .i64 (qby - qay), .int .i64 (qbz - qaz)]), (61, .int .i64 (qbz - qaz)), (60, .int .i64 qaz), (59, .pointer (some ⟨bn18n1, 2, none⟩)), (58, .int .i64 qbz), (57, .pointer (some ⟨bn19n1, 2, none⟩)), (56, .int .i64 (qby - qay)), (55, .int .i64 qay), (54, .pointer (some ⟨bn18n1, 1, none⟩)), (53, .int .i64 qby), (52, .pointer (some ⟨bn19n1, 1, none⟩)), (51, .int .i64 (qbx - qax)), (50, .int .i64 qax), (49, .pointer (some ⟨bn18n1, 0, none⟩)), (48, .int .i64 qbx), (47, .pointer (some ⟨bn19n1, 0, none⟩)), (10, .pointer (some ⟨bn20n1, 0, none⟩)), (9, .pointer (some ⟨bn19n1, 0, none⟩)), (8, .pointer (some ⟨bn18n1, 0, none⟩)), (46, .agg #[.int .i64 qcx, .int .i64 qcy, .int .i64 qcz]), (45, .pointer (some ⟨b15, o16, none⟩)), (44, .int .i64 ((F.getD i (0, 0, 0)).2.2)), (43, .pointer (some ⟨b8, 2, none⟩)), (42, .slice pv nv cv), (41, .pointer (some ⟨b1, 0, none⟩)), (40, .agg #[.int .i64 qbx, .int .i64 qby, .int .i64 qbz]), (39, .pointer (some ⟨b12, o13, none⟩)), (38, .int .i64 ((F.getD i (0, 0, 0)).2.1)), (37, .pointer (some ⟨b8, 1, none⟩)), (36, .slice pv nv cv), (35, .pointer (some ⟨b1, 0, none⟩)), (34, .agg #[.int .i64 qax, .int .i64 qay, .int .i64 qaz]), (33, .pointer (some ⟨b9, o10, none⟩)), (32, .int .i64 ((F.getD i (0, 0, 0)).1)), (31, .pointer (some ⟨b8, 0, none⟩)), (30, .slice pv nv cv), (29, .pointer (some ⟨b1, 0, none⟩)), (7, .pointer (some ⟨b8, 0, none⟩)), (28, .agg #[.int .i64 ((F.getD i (0, 0, 0)).1), .int .i64 ((F.getD i (0, 0, 0)).2.1), .int .i64 ((F.getD i (0, 0, 0)).2.2)]), (27, .pointer (some ⟨b5, o6, none⟩)), (26, .bool (decide (((i : Nat) : Int) < ((nf : Nat) : Int)))), (25, .int .i64 ((i : Nat) : Int)), (24, .int .i64 ((nf : Nat) : Int)), (23, .slice pf nf cf), (5, .pointer (some ⟨b3, 0, none⟩)), (3, .int .i64 0), (2, .pointer (some ⟨b2, 0, none⟩)), (1, .pointer (some ⟨b1, 0, none⟩))], [boxA bn33n1 44 [.int .i64 0, .int .i64 0, .int .i64 0], boxA bn32n1 44 [.int .i64 0, .int .i64 0, .int .i64 0]], [boxA bn20n1 42 [.int .i64 qcx, .int .i64 qcy, .int .i64 qcz], boxA bn19n1 42 [.int .i64 qbx, .int .i64 qby, .int .i64 qbz], boxA bn18n1 42 [.int .i64 qax, .int .i64 qay, .int .i64 qaz], boxA b8 44 [.int .i64 ((F.getD i (0, 0, 0)).1), .int .i64 ((F.getD i (0, 0, 0)).2.1), .int .i64 ((F.getD i (0, 0, 0)).2.2)], boxA b3 44 [.int .i64 ((s).1), .int .i64 ((s).2.1), .int .i64 ((s).2.2)], boxA b2 44 [.int .i64 0, .int .i64 0, .int .i64 0], boxA b1 25 [.slice pv nv cv, .slice pf nf cf]], [atF b15 o16 [.int .i64 qcx, .int .i64 qcy, .int .i64 qcz], atF b12 o13 [.int .i64 qbx, .int .i64 qby, .int .i64 qbz], atF b9 o10 [.int .i64 qax, .int .i64 qay, .int .i64 qaz], atF b5 o6 [.int .i64 ((F.getD i (0, 0, 0)).1), .int .i64 ((F.getD i (0, 0, 0)).2.1), .int .i64 ((F.getD i (0, 0, 0)).2.2)], slF (rI3 .i64) pv cv V, slF (rI3 .i64) pf cf F])) ?_ (fun hD2 => ?_)
    ·
     rintro ⟨bn32n1, bn33n1⟩
     dsimp only
     refine d_one 34 (by kernel_rfl) ?_
     ·
      refine o_permW (perm_front (i := 1) rfl) ?_
      refine o_store_box (by kernel_rfl) rfl rfl rfl rfl rfl sz44 rfl (.take (.take (.take .nil))) ?_
      exact d_weakT (hD1 (bn32n1, bn33n1)) (by kernel_rfl) ((.of rfl) : SubM _ _) .rfl .rfl ((.of [0, 1, 2, 3, 4, 5] rfl) : SelR _ _ _)
    refine d_join (X := Nat) (k' := 3) (L' := #[true, true, true, true, true, true, true, true, true, true, true, true, true, true, true, true, true, true, true, true, true, true, true, true, true, true, true, true, true, true, true, true, true, false, false, false]) (fun bn32n1 => ([(11, .pointer (some ⟨bn32n1, 0, none⟩)), (78, .agg #[.int .i64 (qcx - qax), .int .i64 (qcy - qay), .int .i64 (qcz - qaz)]), (77, .int .i64 (qcz - qaz)), (76, .int .i64 qaz), (75, .pointer (some ⟨bn18n1, 2, none⟩)), (74, .int .i64 qcz), (73, .pointer (some ⟨bn20n1, 2, none⟩)), (72, .int .i64 (qcy - qay)), (71, .int .i64 qay), (70, .pointer (some ⟨bn18n1, 1, none⟩)), (69, .int .i64 qcy), (68, .pointer (some ⟨bn20n1, 1, none⟩)), (67, .int .i64 (qcx - qax)), (66, .int .i64 qax), (65, .pointer (some ⟨bn18n1, 0, none⟩)), (64, .int .i64 qcx), (63, .pointer (some ⟨bn20n1, 0, none⟩)), (62, .agg #[.int .i64 (qbx - qax), .int .i64 (qby - qay), .int .i64 (qbz - qaz)]), (61, .int .i64 (qbz - qaz)), (60, .int .i64 qaz), (59, .pointer (some ⟨bn18n1, 2, none⟩)), (58, .int .i64 qbz), (57, .pointer (some ⟨bn19n1, 2, none⟩)), (56, .int .i64 (qby - qay)), (55, .int .i64 qay), (54, .pointer (some ⟨bn18n1, 1, none⟩)), (53, .int .i64 qby), (52, .pointer (some ⟨bn19n1, 1, none⟩)), (51, .int .i64 (qbx - qax)), (50, .int .i64 qax), (49, .pointer (some ⟨bn18n1, 0, none⟩)), (48, .int .i64 qbx), (47, .pointer (some ⟨bn19n1, 0, none⟩)), (10, .pointer (some ⟨bn20n1, 0, none⟩)), (9, .pointer (some ⟨bn19n1, 0, none⟩)), (8, .pointer (some ⟨bn18n1, 0, none⟩)), (46, .agg #[.int .i64 qcx, .int .i64 qcy, .int .i64 qcz]), (45, .pointer (some ⟨b15, o16, none⟩)), (44, .int .i64 ((F.getD i (0, 0, 0)).2.2)), (43, .pointer (some ⟨b8, 2, none⟩)), (42, .slice pv nv cv), (41, .pointer (some ⟨b1, 0, none⟩)), (40, .agg #[.int .i64 qbx, .int .i64 qby, .int .i64 qbz]), (39, .pointer (some ⟨b12, o13, none⟩)), (38, .int .i64 ((F.getD i (0, 0, 0)).2.1)), (37, .pointer (some ⟨b8, 1, none⟩)), (36, .slice pv nv cv), (35, .pointer (some ⟨b1, 0, none⟩)), (34, .agg #[.int .i64 qax, .int .i64 qay, .int .i64 qaz]), (33, .pointer (some ⟨b9, o10, none⟩)), (32, .int .i64 ((F.getD i (0, 0, 0)).1)), (31, .pointer (some ⟨b8, 0, none⟩)), (30, .slice pv nv cv), (29, .pointer (some ⟨b1, 0, none⟩)), (7, .pointer (some ⟨b8, 0, none⟩)), (28, .agg #[.int .i64 ((F.getD i (0, 0, 0)).1), .int .i64 ((F.getD i (0, 0, 0)).2.1), .int .i64 ((F.getD i (0, 0, 0)).2.2)]), (27, .pointer (some ⟨b5, o6, none⟩)), (26, .bool (decide (((i : Nat) : Int) < ((nf : Nat) : Int)))), (25, .int .i64 ((i : Nat) : Int)), (24, .int .i64 ((nf : Nat) : Int)), (23, .slice pf nf cf), (5, .pointer (some ⟨b3, 0, none⟩)), (3, .int .i64 0), (2, .pointer (some ⟨b2, 0, none⟩)), (1, .pointer (some ⟨b1, 0, none⟩))], [boxA bn32n1 44 [.int .i64 0, .int .i64 0, .int .i64 0]], [boxA bn20n1 42 [.int .i64 qcx, .int .i64 qcy, .int .i64 qcz], boxA bn19n1 42 [.int .i64 qbx, .int .i64 qby, .int .i64 qbz], boxA bn18n1 42 [.int .i64 qax, .int .i64 qay, .int .i64 qaz], boxA b8 44 [.int .i64 ((F.getD i (0, 0, 0)).1), .int .i64 ((F.getD i (0, 0, 0)).2.1), .int .i64 ((F.getD i (0, 0, 0)).2.2)], boxA b3 44 [.int .i64 ((s).1), .int .i64 ((s).2.1), .int .i64 ((s).2.2)], boxA b2 44 [.int .i64 0, .int .i64 0, .int .i64 0], boxA b1 25 [.slice pv nv cv, .slice pf nf cf]], [atF b15 o16 [.int .i64 qcx, .int .i64 qcy, .int .i64 qcz], atF b12 o13 [.int .i64 qbx, .int .i64 qby, .int .i64 qbz], atF b9 o10 [.int .i64 qax, .int .i64 qay, .int .i64 qaz], atF b5 o6 [.int .i64 ((F.getD i (0, 0, 0)).1), .int .i64 ((F.getD i (0, 0, 0)).2.1), .int .i64 ((F.getD i (0, 0, 0)).2.2)], slF (rI3 .i64) pv cv V, slF (rI3 .i64) pf cf F])) ?_ (fun hD3 => ?_)
    ·
     rintro bn32n1
     dsimp only
     refine d_one 33 (by kernel_rfl) ?_
     ·
      refine o_ef0W rfl rfl rfl rfl (ef_alloc zr44 rfl) (fun bn33n1 _ => ?_)
      exact d_weakT (hD2 (bn32n1, bn33n1)) (by kernel_rfl) ((.of rfl) : SubM _ _) .rfl .rfl ((.of [0, 1, 2, 3, 4, 5] rfl) : SelR _ _ _)
    refine d_join (X := Nat) (k' := 3) (L' := #[true, true, true, true, true, true, true, true, true, true, true, true, true, true, true, true, true, true, true, true, true, true, true, true, true, true, true, true, true, true, true, true, false, true, false, false]) (fun bn33n1 => ([(12, .pointer (some ⟨bn33n1, 0, none⟩)), (78, .agg #[.int .i64 (qcx - qax), .int .i64 (qcy - qay), .int .i64 (qcz - qaz)]), (77, .int .i64 (qcz - qaz)), (76, .int .i64 qaz), (75, .pointer (some ⟨bn18n1, 2, none⟩)), (74, .int .i64 qcz), (73, .pointer (some ⟨bn20n1, 2, none⟩)), (72, .int .i64 (qcy - qay)), (71, .int .i64 qay), (70, .pointer (some ⟨bn18n1, 1, none⟩)), (69, .int .i64 qcy), (68, .pointer (some ⟨bn20n1, 1, none⟩)), (67, .int .i64 (qcx - qax)), (66, .int .i64 qax), (65, .pointer (some ⟨bn18n1, 0, none⟩)), (64, .int .i64 qcx), (63, .pointer (some ⟨bn20n1, 0, none⟩)), (62, .agg #[.int .i64 (qbx - qax), .int .i64 (qby - qay), .int .i64 (qbz - qaz)]), (61, .int .i64 (qbz - qaz)), (60, .int .i64 qaz), (59, .pointer (some ⟨bn18n1, 2, none⟩)), (58, .int .i64 qbz), (57, .pointer (some ⟨bn19n1, 2, none⟩)), (56, .int .i64 (qby - qay)), (55, .int .i64 qay), (54, .pointer (some ⟨bn18n1, 1, none⟩)), (53, .int .i64 qby), (52, .pointer (some ⟨bn19n1, 1, none⟩)), (51, .int .i64 (qbx - qax)), (50, .int .i64 qax), (49, .pointer (some ⟨bn18n1, 0, none⟩)), (48, .int .i64 qbx), (47, .pointer (some ⟨bn19n1, 0, none⟩)), (10, .pointer (some ⟨bn20n1, 0, none⟩)), (9, .pointer (some ⟨bn19n1, 0, none⟩)), (8, .pointer (some ⟨bn18n1, 0, none⟩)), (46, .agg #[.int .i64 qcx, .int .i64 qcy, .int .i64 qcz]), (45, .pointer (some ⟨b15, o16, none⟩)), (44, .int .i64 ((F.getD i (0, 0, 0)).2.2)), (43, .pointer (some ⟨b8, 2, none⟩)), (42, .slice pv nv cv), (41, .pointer (some ⟨b1, 0, none⟩)), (40, .agg #[.int .i64 qbx, .int .i64 qby, .int .i64 qbz]), (39, .pointer (some ⟨b12, o13, none⟩)), (38, .int .i64 ((F.getD i (0, 0, 0)).2.1)), (37, .pointer (some ⟨b8, 1, none⟩)), (36, .slice pv nv cv), (35, .pointer (some ⟨b1, 0, none⟩)), (34, .agg #[.int .i64 qax, .int .i64 qay, .int .i64 qaz]), (33, .pointer (some ⟨b9, o10, none⟩)), (32, .int .i64 ((F.getD i (0, 0, 0)).1)), (31, .pointer (some ⟨b8, 0, none⟩)), (30, .slice pv nv cv), (29, .pointer (some ⟨b1, 0, none⟩)), (7, .pointer (some ⟨b8, 0, none⟩)), (28, .agg #[.int .i64 ((F.getD i (0, 0, 0)).1), .int .i64 ((F.getD i (0, 0, 0)).2.1), .int .i64 ((F.getD i (0, 0, 0)).2.2)]), (27, .pointer (some ⟨b5, o6, none⟩)), (26, .bool (decide (((i : Nat) : Int) < ((nf : Nat) : Int)))), (25, .int .i64 ((i : Nat) : Int)), (24, .int .i64 ((nf : Nat) : Int)), (23, .slice pf nf cf), (5, .pointer (some ⟨b3, 0, none⟩)), (3, .int .i64 0), (2, .pointer (some ⟨b2, 0, none⟩)), (1, .pointer (some ⟨b1, 0, none⟩))], [boxA bn33n1 44 [.int .i64 0, .int .i64 0, .int .i64 0]], [boxA bn20n1 42 [.int .i64 qcx, .int .i64 qcy, .int .i64 qcz], boxA bn19n1 42 [.int .i64 qbx, .int .i64 qby, .int .i64 qbz], boxA bn18n1 42 [.int .i64 qax, .int .i64 qay, .int .i64 qaz], boxA b8 44 [.int .i64 ((F.getD i (0, 0, 0)).1), .int .i64 ((F.getD i (0, 0, 0)).2.1), .int .i64 ((F.getD i (0, 0, 0)).2.2)], boxA b3 44 [.int .i64 ((s).1), .int .i64 ((s).2.1), .int .i64 ((s).2.2)], boxA b2 44 [.int .i64 0, .int .i64 0, .int .i64 0], boxA b1 25 [.slice pv nv cv, .slice pf nf cf]], [atF b15 o16 [.int .i64 qcx, .int .i64 qcy, .int .i64 qcz], atF b12 o13 [.int .i64 qbx, .int .i64 qby, .int .i64 qbz], atF b9 o10 [.int .i64 qax, .int .i64 qay, .int .i64 qaz], atF b5 o6 [.int .i64 ((F.getD i (0, 0, 0)).1), .int .i64 ((F.getD i (0, 0, 0)).2.1), .int .i64 ((F.getD i (0, 0, 0)).2.2)], slF (rI3 .i64) pv cv V, slF (rI3 .i64) pf cf F])) ?_ (fun hD4 => ?_)
    ·
     rintro bn33n1
     dsimp only
     refine d_one 32 (by kernel_rfl) ?_
     ·
      refine o_ef0W rfl rfl rfl rfl (ef_alloc zr44 rfl) (fun bn32n1 _ => ?_)
      exact d_weakT (hD2 (bn32n1, bn33n1)) (by kernel_rfl) ((.of rfl) : SubM _ _) (perm_c 1 rfl (perm_c 0 rfl .nil)) .rfl ((.of [0, 1, 2, 3, 4, 5] rfl) : SelR _ _ _)
    refine d_two 32 33 (by kernel_rfl) ?_ ?_
    ·
     refine o_ef0W rfl rfl rfl rfl (ef_alloc zr44 rfl) (fun bn32n1 _ => ?_)
     exact d_weakT (hD3 bn32n1) (by kernel_rfl) ((.of rfl) : SubM _ _) .rfl .rfl ((.of [0, 1, 2, 3, 4, 5] rfl) : SelR _ _ _)
    ·
     refine o_ef0W rfl rfl rfl rfl (ef_alloc zr44 rfl) (fun bn33n1 _ => ?_)
     exact d_weakT (hD4 bn33n1) (by kernel_rfl) ((.of rfl) : SubM _ _) .rfl .rfl ((.of [0, 1, 2, 3, 4, 5] rfl) : SelR _ _ _)
   refine d_join (X := Nat × Nat × Nat) (k' := 1) (L' := #[true, true, true, true, true, true, true, true, true, true, true, true, true, true, true, true, true, true, true, true, true, true, true, false]) (fun (bn18n1, bn19n1, bn20n1) => ([(10, .pointer (some ⟨bn20n1, 0, none⟩)), (9, .pointer (some ⟨bn19n1, 0, none⟩)), (8, .pointer (some ⟨bn18n1, 0, none⟩)), (46, .agg #[.int .i64 qcx, .int .i64 qcy, .int .i64 qcz]), (45, .pointer (some ⟨b15, o16, none⟩)), (44, .int .i64 ((F.getD i (0, 0, 0)).2.2)), (43, .pointer (some ⟨b8, 2, none⟩)), (42, .slice pv nv cv), (41, .pointer (some ⟨b1, 0, none⟩)), (40, .agg #[.int .i64 qbx, .int .i64 qby, .int .i64 qbz]), (39, .pointer (some ⟨b12, o13, none⟩)), (38, .int .i64 ((F.getD i (0, 0, 0)).2.1)), (37, .pointer (some ⟨b8, 1, none⟩)), (36, .slice pv nv cv), (35, .pointer (some ⟨b1, 0, none⟩)), (34, .agg #[.int .i64 qax, .int .i64 qay, .int .i64 qaz]), (33, .pointer (some ⟨b9, o10, none⟩)), (32, .int .i64 ((F.getD i (0, 0, 0)).1)), (31, .pointer (some ⟨b8, 0, none⟩)), (30, .slice pv nv cv), (29, .pointer (some ⟨b1, 0, none⟩)), (7, .pointer (some ⟨b8, 0, none⟩)), (28, .agg #[.int .i64 ((F.getD i (0, 0, 0)).1), .int .i64 ((F.getD i (0, 0, 0)).2.1), .int .i64 ((F.getD i (0, 0, 0)).2.2)]), (27, .pointer (some ⟨b5, o6, none⟩)), (26, .bool (decide (((i : Nat) : Int) < ((nf : Nat) : Int)))), (25, .int .i64 ((i : Nat) : Int)), (24, .int .i64 ((nf : Nat) : Int)), (23, .slice pf nf cf), (5, .pointer (some ⟨b3, 0, none⟩)), (3, .int .i64 0), (2, .pointer (some ⟨b2, 0, none⟩)), (1, .pointer (some ⟨b1, 0, none⟩))], [boxA bn19n1 42 [.int .i64 qbx, .int .i64 qby, .int .i64 qbz], boxA bn18n1 42 [.int .i64 qax, .int .i64 qay, .int .i64 qaz], boxA bn20n1 42 [.int .i64 0, .int .i64 0, .int .i64 0]], [boxA b8 44 [.int .i64 ((F.getD i (0, 0, 0)).1), .int .i64 ((F.getD i (0, 0, 0)).2.1), .int .i64 ((F.getD i (0, 0, 0)).2.2)], boxA b3 44 [.int .i64 ((s).1), .int .i64 ((s).2.1), .int .i64 ((s).2.2)], boxA b2 44 [.int .i64 0, .int .i64 0, .int .i64 0], boxA b1 25 [.slice pv nv cv, .slice pf nf cf]], [atF b15 o16 [.int .i64 qcx, .int .i64 qcy, .int .i64 qcz], atF b12 o13 [.int .i64 qbx, .int .i64 qby, .int .i64 qbz], atF b9 o10 [.int .i64 qax, .int .i64 qay, .int .i64 qaz], atF b5 o6 [.int .i64 ((F.getD i (0, 0, 0)).1), .int .i64 ((F.getD i (0, 0, 0)).2.1), .int .i64 ((F.getD i (0, 0, 0)).2.2)], slF (rI3 .i64) pv cv V, slF (rI3 .i64) pf cf F])) ?_ (fun hD1 => ?_)
   ·
    rintro ⟨bn18n1, bn19n1, bn20n1⟩
    dsimp only
    refine d_one 23 (by kernel_rfl) ?_
    ·
     refine o_permW (perm_front (i := 2) rfl) ?_
     refine o_store_box (by kernel_rfl) rfl rfl rfl rfl rfl sz42 rfl (.take (.take (.take .nil))) ?_
     exact d_weakT (hD0 (bn18n1, bn19n1, bn20n1)) (by kernel_rfl) ((.of rfl) : SubM _ _) .rfl .rfl ((.of [0, 1, 2, 3, 4, 5] rfl) : SelR _ _ _)
   refine d_join (X := Nat × Nat × Nat) (k' := 2) (L' := #[true, true, true, true, true, true, true, true, true, true, true, true, true, true, true, true, true, true, true, true, true, true, false, false]) (fun (bn18n1, bn19n1, bn20n1) => ([(10, .pointer (some ⟨bn20n1, 0, none⟩)), (9, .pointer (some ⟨bn19n1, 0, none⟩)), (8, .pointer (some ⟨bn18n1, 0, none⟩)), (46, .agg #[.int .i64 qcx, .int .i64 qcy, .int .i64 qcz]), (45, .pointer (some ⟨b15, o16, none⟩)), (44, .int .i64 ((F.getD i (0, 0, 0)).2.2)), (43, .pointer (some ⟨b8, 2, none⟩)), (42, .slice pv nv cv), (41, .pointer (some ⟨b1, 0, none⟩)), (40, .agg #[.int .i64 qbx, .int .i64 qby, .int .i64 qbz]), (39, .pointer (some ⟨b12, o13, none⟩)), (38, .int .i64 ((F.getD i (0, 0, 0)).2.1)), (37, .pointer (some ⟨b8, 1, none⟩)), (36, .slice pv nv cv), (35, .pointer (some ⟨b1, 0, none⟩)), (34, .agg #[.int .i64 qax, .int .i64 qay, .int .i64 qaz]), (33, .pointer (some ⟨b9, o10, none⟩)), (32, .int .i64 ((F.getD i (0, 0, 0)).1)), (31, .pointer (some ⟨b8, 0, none⟩)), (30, .slice pv nv cv), (29, .pointer (some ⟨b1, 0, none⟩)), (7, .pointer (some ⟨b8, 0, none⟩)), (28, .agg #[.int .i64 ((F.getD i (0, 0, 0)).1), .int .i64 ((F.getD i (0, 0, 0)).2.1), .int .i64 ((F.getD i (0, 0, 0)).2.2)]), (27, .pointer (some ⟨b5, o6, none⟩)), (26, .bool (decide (((i : Nat) : Int) < ((nf : Nat) : Int)))), (25, .int .i64 ((i : Nat) : Int)), (24, .int .i64 ((nf : Nat) : Int)), (23, .slice pf nf cf), (5, .pointer (some ⟨b3, 0, none⟩)), (3, .int .i64 0), (2, .pointer (some ⟨b2, 0, none⟩)), (1, .pointer (some ⟨b1, 0, none⟩))], [boxA bn18n1 42 [.int .i64 qax, .int .i64 qay, .int .i64 qaz], boxA bn20n1 42 [.int .i64 0, .int .i64 0, .int .i64 0], boxA bn19n1 42 [.int .i64 0, .int .i64 0, .int .i64 0]], [boxA b8 44 [.int .i64 ((F.getD i (0, 0, 0)).1), .int .i64 ((F.getD i (0, 0, 0)).2.1), .int .i64 ((F.getD i (0, 0, 0)).2.2)], boxA b3 44 [.int .i64 ((s).1), .int .i64 ((s).2.1), .int .i64 ((s).2.2)], boxA b2 44 [.int .i64 0, .int .i64 0, .int .i64 0], boxA b1 25 [.slice pv nv cv, .slice pf nf cf]], [atF b15 o16 [.int .i64 qcx, .int .i64 qcy, .int .i64 qcz], atF b12 o13 [.int .i64 qbx, .int .i64 qby, .int .i64 qbz], atF b9 o10 [.int .i64 qax, .int .i64 qay, .int .i64 qaz], atF b5 o6 [.int .i64 ((F.getD i (0, 0, 0)).1), .int .i64 ((F.getD i (0, 0, 0)).2.1), .int .i64 ((F.getD i (0, 0, 0)).2.2)], slF (rI3 .i64) pv cv V, slF (rI3 .i64) pf cf F])) ?_ (fun hD2 => ?_)
   ·
    rintro ⟨bn18n1, bn19n1, bn20n1⟩
    dsimp only
    refine d_one 22 (by kernel_rfl) ?_
    ·
     refine o_permW (perm_front (i := 2) rfl) ?_
     refine o_store_box (by kernel_rfl) rfl rfl rfl rfl rfl sz42 rfl (.take (.take (.take .nil))) ?_
     exact d_weakT (hD1 (bn18n1, bn19n1, bn20n1)) (by kernel_rfl) ((.of rfl) : SubM _ _) .rfl .rfl ((.of [0, 1, 2, 3, 4, 5] rfl) : SelR _ _ _)
   refine d_join (X := Nat × Nat × Nat) (k' := 3) (L' := #[true, true, true, true, true, true, true, true, true, true, true, true, true, true, true, true, true, true, true, true, true, false, false, false]) (fun (bn18n1, bn19n1, bn20n1) => ([(10, .pointer (some ⟨bn20n1, 0, none⟩)), (9, .pointer (some ⟨bn19n1, 0, none⟩)), (8, .pointer (some ⟨bn18n1, 0, none⟩)), (46, .agg #[.int .i64 qcx, .int .i64 qcy, .int .i64 qcz]), (45, .pointer (some ⟨b15, o16, none⟩)), (44, .int .i64 ((F.getD i (0, 0, 0)).2.2)), (43, .pointer (some ⟨b8, 2, none⟩)), (42, .slice pv nv cv), (41, .pointer (some ⟨b1, 0, none⟩)), (40, .agg #[.int .i64 qbx, .int .i64 qby, .int .i64 qbz]), (39, .pointer (some ⟨b12, o13, none⟩)), (38, .int .i64 ((F.getD i (0, 0, 0)).2.1)), (37, .pointer (some ⟨b8, 1, none⟩)), (36, .slice pv nv cv), (35, .pointer (some ⟨b1, 0, none⟩)), (34, .agg #[.int .i64 qax, .int .i64 qay, .int .i64 qaz]), (33, .pointer (some ⟨b9, o10, none⟩)), (32, .int .i64 ((F.getD i (0, 0, 0)).1)), (31, .pointer (some ⟨b8, 0, none⟩)), (30, .slice pv nv cv), (29, .pointer (some ⟨b1, 0, none⟩)), (7, .pointer (some ⟨b8, 0, none⟩)), (28, .agg #[.int .i64 ((F.getD i (0, 0, 0)).1), .int .i64 ((F.getD i (0, 0, 0)).2.1), .int .i64 ((F.getD i (0, 0, 0)).2.2)]), (27, .pointer (some ⟨b5, o6, none⟩)), (26, .bool (decide (((i : Nat) : Int) < ((nf : Nat) : Int)))), (25, .int .i64 ((i : Nat) : Int)), (24, .int .i64 ((nf : Nat) : Int)), (23, .slice pf nf cf), (5, .pointer (some ⟨b3, 0, none⟩)), (3, .int .i64 0), (2, .pointer (some ⟨b2, 0, none⟩)), (1, .pointer (some ⟨b1, 0, none⟩))], [boxA bn20n1 42 [.int .i64 0, .int .i64 0, .int .i64 0], boxA bn19n1 42 [.int .i64 0, .int .i64 0, .int .i64 0], boxA bn18n1 42 [.int .i64 0, .int .i64 0, .int .i64 0]], [boxA b8 44 [.int .i64 ((F.getD i (0, 0, 0)).1), .int .i64 ((F.getD i (0, 0, 0)).2.1), .int .i64 ((F.getD i (0, 0, 0)).2.2)], boxA b3 44 [.int .i64 ((s).1), .int .i64 ((s).2.1), .int .i64 ((s).2.2)], boxA b2 44 [.int .i64 0, .int .i64 0, .int .i64 0], boxA b1 25 [.slice pv nv cv, .slice pf nf cf]], [atF b15 o16 [.int .i64 qcx, .int .i64 qcy, .int .i64 qcz], atF b12 o13 [.int .i64 qbx, .int .i64 qby, .int .i64 qbz], atF b9 o10 [.int .i64 qax, .int .i64 qay, .int .i64 qaz], atF b5 o6 [.int .i64 ((F.getD i (0, 0, 0)).1), .int .i64 ((F.getD i (0, 0, 0)).2.1), .int .i64 ((F.getD i (0, 0, 0)).2.2)], slF (rI3 .i64) pv cv V, slF (rI3 .i64) pf cf F])) ?_ (fun hD3 => ?_)
   ·
    rintro ⟨bn18n1, bn19n1, bn20n1⟩
    dsimp only
    refine d_one 21 (by kernel_rfl) ?_
    ·
     refine o_permW (perm_front (i := 2) rfl) ?_
     refine o_store_box (by kernel_rfl) rfl rfl rfl rfl rfl sz42 rfl (.take (.take (.take .nil))) ?_
     exact d_weakT (hD2 (bn18n1, bn19n1, bn20n1)) (by kernel_rfl) ((.of rfl) : SubM _ _) .rfl .rfl ((.of [0, 1, 2, 3, 4, 5] rfl) : SelR _ _ _)
   refine d_join (X := Nat × Nat) (k' := 4) (L' := #[true, true, true, true, true, true, true, true, true, true, true, true, true, true, true, true, true, true, true, true, false, false, false, false]) (fun (bn18n1, bn19n1) => ([(9, .pointer (some ⟨bn19n1, 0, none⟩)), (8, .pointer (some ⟨bn18n1, 0, none⟩)), (46, .agg #[.int .i64 qcx, .int .i64 qcy, .int .i64 qcz]), (45, .pointer (some ⟨b15, o16, none⟩)), (44, .int .i64 ((F.getD i (0, 0, 0)).2.2)), (43, .pointer (some ⟨b8, 2, none⟩)), (42, .slice pv nv cv), (41, .pointer (some ⟨b1, 0, none⟩)), (40, .agg #[.int .i64 qbx, .int .i64 qby, .int .i64 qbz]), (39, .pointer (some ⟨b12, o13, none⟩)), (38, .int .i64 ((F.getD i (0, 0, 0)).2.1)), (37, .pointer (some ⟨b8, 1, none⟩)), (36, .slice pv nv cv), (35, .pointer (some ⟨b1, 0, none⟩)), (34, .agg #[.int .i64 qax, .int .i64 qay, .int .i64 qaz]), (33, .pointer (some ⟨b9, o10, none⟩)), (32, .int .i64 ((F.getD i (0, 0, 0)).1)), (31, .pointer (some ⟨b8, 0, none⟩)), (30, .slice pv nv cv), (29, .pointer (some ⟨b1, 0, none⟩)), (7, .pointer (some ⟨b8, 0, none⟩)), (28, .agg #[.int .i64 ((F.getD i (0, 0, 0)).1), .int .i64 ((F.getD i (0, 0, 0)).2.1), .int .i64 ((F.getD i (0, 0, 0)).2.2)]), (27, .pointer (some ⟨b5, o6, none⟩)), (26, .bool (decide (((i : Nat) : Int) < ((nf : Nat) : Int)))), (25, .int .i64 ((i : Nat) : Int)), (24, .int .i64 ((nf : Nat) : Int)), (23, .slice pf nf cf), (5, .pointer (some ⟨b3, 0, none⟩)), (3, .int .i64 0), (2, .pointer (some ⟨b2, 0, none⟩)), (1, .pointer (some ⟨b1, 0, none⟩))], [boxA bn19n1 42 [.int .i64 0, .int .i64 0, .int .i64 0], boxA bn18n1 42 [.int .i64 0, .int .i64 0, .int .i64 0]], [boxA b8 44 [.int .i64 ((F.getD i (0, 0, 0)).1), .int .i64 ((F.getD i (0, 0, 0)).2.1), .int .i64 ((F.getD i (0, 0, 0)).2.2)], boxA b3 44 [.int .i64 ((s).1), .int .i64 ((s).2.1), .int .i64 ((s).2.2)], boxA b2 44 [.int .i64 0, .int .i64 0, .int .i64 0], boxA b1 25 [.slice pv nv cv, .slice pf nf cf]], [atF b15 o16 [.int .i64 qcx, .int .i64 qcy, .int .i64 qcz], atF b12 o13 [.int .i64 qbx, .int .i64 qby, .int .i64 qbz], atF b9 o10 [.int .i64 qax, .int .i64 qay, .int .i64 qaz], atF b5 o6 [.int .i64 ((F.getD i (0, 0, 0)).1), .int .i64 ((F.getD i (0, 0, 0)).2.1), .int .i64 ((F.getD i (0, 0, 0)).2.2)], slF (rI3 .i64) pv cv V, slF (rI3 .i64) pf cf F])) ?_ (fun hD4 => ?_)
   ·
    rintro ⟨bn18n1, bn19n1⟩
    dsimp only
    refine d_one 20 (by kernel_rfl) ?_
    ·
     refine o_ef0W rfl rfl rfl rfl (ef_alloc zr42 rfl) (fun bn20n1 _ => ?_)
     exact d_weakT (hD3 (bn18n1, bn19n1, bn20n1)) (by kernel_rfl) ((.of rfl) : SubM _ _) .rfl .rfl ((.of [0, 1, 2, 3, 4, 5] rfl) : SelR _ _ _)
   refine d_join (X := Nat × Nat) (k' := 4) (L' := #[true, true, true, true, true, true, true, true, true, true, true, true, true, true, true, true, true, true, true, false, true, false, false, false]) (fun (bn18n1, bn20n1) => ([(10, .pointer (some ⟨bn20n1, 0, none⟩)), (8, .pointer (some ⟨bn18n1, 0, none⟩)), (46, .agg #[.int .i64 qcx, .int .i64 qcy, .int .i64 qcz]), (45, .pointer (some ⟨b15, o16, none⟩)), (44, .int .i64 ((F.getD i (0, 0, 0)).2.2)), (43, .pointer (some ⟨b8, 2, none⟩)), (42, .slice pv nv cv), (41, .pointer (some ⟨b1, 0, none⟩)), (40, .agg #[.int .i64 qbx, .int .i64 qby, .int .i64 qbz]), (39, .pointer (some ⟨b12, o13, none⟩)), (38, .int .i64 ((F.getD i (0, 0, 0)).2.1)), (37, .pointer (some ⟨b8, 1, none⟩)), (36, .slice pv nv cv), (35, .pointer (some ⟨b1, 0, none⟩)), (34, .agg #[.int .i64 qax, .int .i64 qay, .int .i64 qaz]), (33, .pointer (some ⟨b9, o10, none⟩)), (32, .int .i64 ((F.getD i (0, 0, 0)).1)), (31, .pointer (some ⟨b8, 0, none⟩)), (30, .slice pv nv cv), (29, .pointer (some ⟨b1, 0, none⟩)), (7, .pointer (some ⟨b8, 0, none⟩)), (28, .agg #[.int .i64 ((F.getD i (0, 0, 0)).1), .int .i64 ((F.getD i (0, 0, 0)).2.1), .int .i64 ((F.getD i (0, 0, 0)).2.2)]), (27, .pointer (some ⟨b5, o6, none⟩)), (26, .bool (decide (((i : Nat) : Int) < ((nf : Nat) : Int)))), (25, .int .i64 ((i : Nat) : Int)), (24, .int .i64 ((nf : Nat) : Int)), (23, .slice pf nf cf), (5, .pointer (some ⟨b3, 0, none⟩)), (3, .int .i64 0), (2, .pointer (some ⟨b2, 0, none⟩)), (1, .pointer (some ⟨b1, 0, none⟩))], [boxA bn20n1 42 [.int .i64 0, .int .i64 0, .int .i64 0], boxA bn18n1 42 [.int .i64 0, .int .i64 0, .int .i64 0]], [boxA b8 44 [.int .i64 ((F.getD i (0, 0, 0)).1), .int .i64 ((F.getD i (0, 0, 0)).2.1), .int .i64 ((F.getD i (0, 0, 0)).2.2)], boxA b3 44 [.int .i64 ((s).1), .int .i64 ((s).2.1), .int .i64 ((s).2.2)], boxA b2 44 [.int .i64 0, .int .i64 0, .int .i64 0], boxA b1 25 [.slice pv nv cv, .slice pf nf cf]], [atF b15 o16 [.int .i64 qcx, .int .i64 qcy, .int .i64 qcz], atF b12 o13 [.int .i64 qbx, .int .i64 qby, .int .i64 qbz], atF b9 o10 [.int .i64 qax, .int .i64 qay, .int .i64 qaz], atF b5 o6 [.int .i64 ((F.getD i (0, 0, 0)).1), .int .i64 ((F.getD i (0, 0, 0)).2.1), .int .i64 ((F.getD i (0, 0, 0)).2.2)], slF (rI3 .i64) pv cv V, slF (rI3 .i64) pf cf F])) ?_ (fun hD5 => ?_)
   ·
    rintro ⟨bn18n1, bn20n1⟩
    dsimp only
    refine d_one 19 (by kernel_rfl) ?_
    ·
     refine o_ef0W rfl rfl rfl rfl (ef_alloc zr42 rfl) (fun bn19n1 _ => ?_)
     exact d_weakT (hD3 (bn18n1, bn19n1, bn20n1)) (by kernel_rfl) ((.of rfl) : SubM _ _) (perm_c 1 rfl (perm_c 0 rfl (perm_c 0 rfl .nil))) .rfl ((.of [0, 1, 2, 3, 4, 5] rfl) : SelR _ _ _)
   refine d_join (X := Nat × Nat) (k' := 4) (L' := #[true, true, true, true, true, true, true, true, true, true, true, true, true, true, true, true, true, true, false, true, true, false, false, false]) (fun (bn19n1, bn20n1) => ([(10, .pointer (some ⟨bn20n1, 0, none⟩)), (9, .pointer (some ⟨bn19n1, 0, none⟩)), (46, .agg #[.int .i64 qcx, .int .i64 qcy, .int .i64 qcz]), (45, .pointer (some ⟨b15, o16, none⟩)), (44, .int .i64 ((F.getD i (0, 0, 0)).2.2)), (43, .pointer (some ⟨b8, 2, none⟩)), (42, .slice pv nv cv), (41, .pointer (some ⟨b1, 0, none⟩)), (40, .agg #[.int .i64 qbx, .int .i64 qby, .int .i64 qbz]), (39, .pointer (some ⟨b12, o13, none⟩)), (38, .int .i64 ((F.getD i (0, 0, 0)).2.1)), (37, .pointer (some ⟨b8, 1, none⟩)), (36, .slice pv nv cv), (35, .pointer (some ⟨b1, 0, none⟩)), (34, .agg #[.int .i64 qax, .int .i64 qay, .int .i64 qaz]), (33, .pointer (some ⟨b9, o10, none⟩)), (32, .int .i64 ((F.getD i (0, 0, 0)).1)), (31, .pointer (some ⟨b8, 0, none⟩)), (30, .slice pv nv cv), (29, .pointer (some ⟨b1, 0, none⟩)), (7, .pointer (some ⟨b8, 0, none⟩)), (28, .agg #[.int .i64 ((F.getD i (0, 0, 0)).1), .int .i64 ((F.getD i (0, 0, 0)).2.1), .int .i64 ((F.getD i (0, 0, 0)).2.2)]), (27, .pointer (some ⟨b5, o6, none⟩)), (26, .bool (decide (((i : Nat) : Int) < ((nf : Nat) : Int)))), (25, .int .i64 ((i : Nat) : Int)), (24, .int .i64 ((nf : Nat) : Int)), (23, .slice pf nf cf), (5, .pointer (some ⟨b3, 0, none⟩)), (3, .int .i64 0), (2, .pointer (some ⟨b2, 0, none⟩)), (1, .pointer (some ⟨b1, 0, none⟩))], [boxA bn20n1 42 [.int .i64 0, .int .i64 0, .int .i64 0], boxA bn19n1 42 [.int .i64 0, .int .i64 0, .int .i64 0]], [boxA b8 44 [.int .i64 ((F.getD i (0, 0, 0)).1), .int .i64 ((F.getD i (0, 0, 0)).2.1), .int .i64 ((F.getD i (0, 0, 0)).2.2)], boxA b3 44 [.int .i64 ((s).1), .int .i64 ((s).2.1), .int .i64 ((s).2.2)], boxA b2 44 [.int .i64 0, .int .i64 0, .int .i64 0], boxA b1 25 [.slice pv nv cv, .slice pf nf cf]], [atF b15 o16 [.int .i64 qcx, .int .i64 qcy, .int .i64 qcz], atF b12 o13 [.int .i64 qbx, .int .i64 qby, .int .i64 qbz], atF b9 o10 [.int .i64 qax, .int .i64 qay, .int .i64 qaz], atF b5 o6 [.int .i64 ((F.getD i (0, 0, 0)).1), .int .i64 ((F.getD i (0, 0, 0)).2.1), .int .i64 ((F.getD i (0, 0, 0)).2.2)], slF (rI3 .i64) pv cv V, slF (rI3 .i64) pf cf F])) ?_ (fun hD6 => ?_)
   ·
    rintro ⟨bn19n1, bn20n1⟩
    dsimp only
    refine d_one 18 (by kernel_rfl) ?_
    ·
     refine o_ef0W rfl rfl rfl rfl (ef_alloc zr42 rfl) (fun bn18n1 _ => ?_)
     exact d_weakT (hD3 (bn18n1, bn19n1, bn20n1)) (by kernel_rfl) ((.of rfl) : SubM _ _) (perm_c 1 rfl (perm_c 1 rfl (perm_c 0 rfl .nil))) .rfl ((.of [0, 1, 2, 3, 4, 5] rfl) : SelR _ _ _)
   refine d_join (X := Nat) (k' := 5) (L' := #[true, true, true, true, true, true, true, true, true, true, true, true, true, true, true, true, true, true, true, false, false, false, false, false]) (fun bn18n1 => ([(8, .pointer (some ⟨bn18n1, 0, none⟩)), (46, .agg #[.int .i64 qcx, .int .i64 qcy, .int .i64 qcz]), (45, .pointer (some ⟨b15, o16, none⟩)), (44, .int .i64 ((F.getD i (0, 0, 0)).2.2)), (43, .pointer (some ⟨b8, 2, none⟩)), (42, .slice pv nv cv), (41, .pointer (some ⟨b1, 0, none⟩)), (40, .agg #[.int .i64 qbx, .int .i64 qby, .int .i64 qbz]), (39, .pointer (some ⟨b12, o13, none⟩)), (38, .int .i64 ((F.getD i (0, 0, 0)).2.1)), (37, .pointer (some ⟨b8, 1, none⟩)), (36, .slice pv nv cv), (35, .pointer (some ⟨b1, 0, none⟩)), (34, .agg #[.int .i64 qax, .int .i64 qay, .int .i64 qaz]), (33, .pointer (some ⟨b9, o10, none⟩)), (32, .int .i64 ((F.getD i (0, 0, 0)).1)), (31, .pointer (some ⟨b8, 0, none⟩)), (30, .slice pv nv cv), (29, .pointer (some ⟨b1, 0, none⟩)), (7, .pointer (some ⟨b8, 0, none⟩)), (28, .agg #[.int .i64 ((F.getD i (0, 0, 0)).1), .int .i64 ((F.getD i (0, 0, 0)).2.1), .int .i64 ((F.getD i (0, 0, 0)).2.2)]), (27, .pointer (some ⟨b5, o6, none⟩)), (26, .bool (decide (((i : Nat) : Int) < ((nf : Nat) : Int)))), (25, .int .i64 ((i : Nat) : Int)), (24, .int .i64 ((nf : Nat) : Int)), (23, .slice pf nf cf), (5, .pointer (some ⟨b3, 0, none⟩)), (3, .int .i64 0), (2, .pointer (some ⟨b2, 0, none⟩)), (1, .pointer (some ⟨b1, 0, none⟩))], [boxA bn18n1 42 [.int .i64 0, .int .i64 0, .int .i64 0]], [boxA b8 44 [.int .i64 ((F.getD i (0, 0, 0)).1), .int .i64 ((F.getD i (0, 0, 0)).2.1), .int .i64 ((F.getD i (0, 0, 0)).2.2)], boxA b3 44 [.int .i64 ((s).1), .int .i64 ((s).2.1), .int .i64 ((s).2.2)], boxA b2 44 [.int .i64 0, .int .i64 0, .int .i64 0], boxA b1 25 [.slice pv nv cv, .slice pf nf cf]], [atF b15 o16 [.int .i64 qcx, .int .i64 qcy, .int .i64 qcz], atF b12 o13 [.int .i64 qbx, .int .i64 qby, .int .i64 qbz], atF b9 o10 [.int .i64 qax, .int .i64 qay, .int .i64 qaz], atF b5 o6 [.int .i64 ((F.getD i (0, 0, 0)).1), .int .i64 ((F.getD i (0, 0, 0)).2.1), .int .i64 ((F.getD i (0, 0, 0)).2.2)], slF (rI3 .i64) pv cv V, slF (rI3 .i64) pf cf F])) ?_ (fun hD7 => ?_)
   ·
    rintro bn18n1
    dsimp only
    refine d_two 19 20 (by kernel_rfl) ?_ ?_
    ·
     refine o_ef0W rfl rfl rfl rfl (ef_alloc zr42 rfl) (fun bn19n1 _ => ?_)
     exact d_weakT (hD4 (bn18n1, bn19n1)) (by kernel_rfl) ((.of rfl) : SubM _ _) .rfl .rfl ((.of [0, 1, 2, 3, 4, 5] rfl) : SelR _ _ _)
    ·
     refine o_ef0W rfl rfl rfl rfl (ef_alloc zr42 rfl) (fun bn20n1 _ => ?_)
     exact d_weakT (hD5 (bn18n1, bn20n1)) (by kernel_rfl) ((.of rfl) : SubM _ _) .rfl .rfl ((.of [0, 1, 2, 3, 4, 5] rfl) : SelR _ _ _)
   refine d_join (X := Nat) (k' := 5) (L' := #[true, true, true, true, true, true, true, true, true, true, true, true, true, true, true, true, true, true, false, true, false, false, false, false]) (fun bn19n1 => ([(9, .pointer (some ⟨bn19n1, 0, none⟩)), (46, .agg #[.int .i64 qcx, .int .i64 qcy, .int .i64 qcz]), (45, .pointer (some ⟨b15, o16, none⟩)), (44, .int .i64 ((F.getD i (0, 0, 0)).2.2)), (43, .pointer (some ⟨b8, 2, none⟩)), (42, .slice pv nv cv), (41, .pointer (some ⟨b1, 0, none⟩)), (40, .agg #[.int .i64 qbx, .int .i64 qby, .int .i64 qbz]), (39, .pointer (some ⟨b12, o13, none⟩)), (38, .int .i64 ((F.getD i (0, 0, 0)).2.1)), (37, .pointer (some ⟨b8, 1, none⟩)), (36, .slice pv nv cv), (35, .pointer (some ⟨b1, 0, none⟩)), (34, .agg #[.int .i64 qax, .int .i64 qay, .int .i64 qaz]), (33, .pointer (some ⟨b9, o10, none⟩)), (32, .int .i64 ((F.getD i (0, 0, 0)).1)), (31, .pointer (some ⟨b8, 0, none⟩)), (30, .slice pv nv cv), (29, .pointer (some ⟨b1, 0, none⟩)), (7, .pointer (some ⟨b8, 0, none⟩)), (28, .agg #[.int .i64 ((F.getD i (0, 0, 0)).1), .int .i64 ((F.getD i (0, 0, 0)).2.1), .int .i64 ((F.getD i (0, 0, 0)).2.2)]), (27, .pointer (some ⟨b5, o6, none⟩)), (26, .bool (decide (((i : Nat) : Int) < ((nf : Nat) : Int)))), (25, .int .i64 ((i : Nat) : Int)), (24, .int .i64 ((nf : Nat) : Int)), (23, .slice pf nf cf), (5, .pointer (some ⟨b3, 0, none⟩)), (3, .int .i64 0), (2, .pointer (some ⟨b2, 0, none⟩)), (1, .pointer (some ⟨b1, 0, none⟩))], [boxA bn19n1 42 [.int .i64 0, .int .i64 0, .int .i64 0]], [boxA b8 44 [.int .i64 ((F.getD i (0, 0, 0)).1), .int .i64 ((F.getD i (0, 0, 0)).2.1), .int .i64 ((F.getD i (0, 0, 0)).2.2)], boxA b3 44 [.int .i64 ((s).1), .int .i64 ((s).2.1), .int .i64 ((s).2.2)], boxA b2 44 [.int .i64 0, .int .i64 0, .int .i64 0], boxA b1 25 [.slice pv nv cv, .slice pf nf cf]], [atF b15 o16 [.int .i64 qcx, .int .i64 qcy, .int .i64 qcz], atF b12 o13 [.int .i64 qbx, .int .i64 qby, .int .i64 qbz], atF b9 o10 [.int .i64 qax, .int .i64 qay, .int .i64 qaz], atF b5 o6 [.int .i64 ((F.getD i (0, 0, 0)).1), .int .i64 ((F.getD i (0, 0, 0)).2.1), .int .i64 ((F.getD i (0, 0, 0)).2.2)], slF (rI3 .i64) pv cv V, slF (rI3 .i64) pf cf F])) ?_ (fun hD8 => ?_)
   ·
    rintro bn19n1
    dsimp only
    refine d_two 18 20 (by kernel_rfl) ?_ ?_
    ·
     refine o_ef0W rfl rfl rfl rfl (ef_alloc zr42 rfl) (fun bn18n1 _ => ?_)
     exact d_weakT (hD4 (bn18n1, bn19n1)) (by kernel_rfl) ((.of rfl) : SubM _ _) (perm_c 1 rfl (perm_c 0 rfl .nil)) .rfl ((.of [0, 1, 2, 3, 4, 5] rfl) : SelR _ _ _)
    ·
     refine o_ef0W rfl rfl rfl rfl (ef_alloc zr42 rfl) (fun bn20n1 _ => ?_)
     exact d_weakT (hD6 (bn19n1, bn20n1)) (by kernel_rfl) ((.of rfl) : SubM _ _) .rfl .rfl ((.of [0, 1, 2, 3, 4, 5] rfl) : SelR _ _ _)
   refine d_join (X := Nat) (k' := 5) (L' := #[true, true, true, true, true, true, true, true, true, true, true, true, true, true, true, true, true, true, false, false, true, false, false, false]) (fun bn20n1 => ([(10, .pointer (some ⟨bn20n1, 0, none⟩)), (46, .agg #[.int .i64 qcx, .int .i64 qcy, .int .i64 qcz]), (45, .pointer (some ⟨b15, o16, none⟩)), (44, .int .i64 ((F.getD i (0, 0, 0)).2.2)), (43, .pointer (some ⟨b8, 2, none⟩)), (42, .slice pv nv cv), (41, .pointer (some ⟨b1, 0, none⟩)), (40, .agg #[.int .i64 qbx, .int .i64 qby, .int .i64 qbz]), (39, .pointer (some ⟨b12, o13, none⟩)), (38, .int .i64 ((F.getD i (0, 0, 0)).2.1)), (37, .pointer (some ⟨b8, 1, none⟩)), (36, .slice pv nv cv), (35, .pointer (some ⟨b1, 0, none⟩)), (34, .agg #[.int .i64 qax, .int .i64 qay, .int .i64 qaz]), (33, .pointer (some ⟨b9, o10, none⟩)), (32, .int .i64 ((F.getD i (0, 0, 0)).1)), (31, .pointer (some ⟨b8, 0, none⟩)), (30, .slice pv nv cv), (29, .pointer (some ⟨b1, 0, none⟩)), (7, .pointer (some ⟨b8, 0, none⟩)), (28, .agg #[.int .i64 ((F.getD i (0, 0, 0)).1), .int .i64 ((F.getD i (0, 0, 0)).2.1), .int .i64 ((F.getD i (0, 0, 0)).2.2)]), (27, .pointer (some ⟨b5, o6, none⟩)), (26, .bool (decide (((i : Nat) : Int) < ((nf : Nat) : Int)))), (25, .int .i64 ((i : Nat) : Int)), (24, .int .i64 ((nf : Nat) : Int)), (23, .slice pf nf cf), (5, .pointer (some ⟨b3, 0, none⟩)), (3, .int .i64 0), (2, .pointer (some ⟨b2, 0, none⟩)), (1, .pointer (some ⟨b1, 0, none⟩))], [boxA bn20n1 42 [.int .i64 0, .int .i64 0, .int .i64 0]], [boxA b8 44 [.int .i64 ((F.getD i (0, 0, 0)).1), .int .i64 ((F.getD i (0, 0, 0)).2.1), .int .i64 ((F.getD i (0, 0, 0)).2.2)], boxA b3 44 [.int .i64 ((s).1), .int .i64 ((s).2.1), .int .i64 ((s).2.2)], boxA b2 44 [.int .i64 0, .int .i64 0, .int .i64 0], boxA b1 25 [.slice pv nv cv, .slice pf nf cf]], [atF b15 o16 [.int .i64 qcx, .int .i64 qcy, .int .i64 qcz], atF b12 o13 [.int .i64 qbx, .int .i64 qby, .int .i64 qbz], atF b9 o10 [.int .i64 qax, .int .i64 qay, .int .i64 qaz], atF b5 o6 [.int .i64 ((F.getD i (0, 0, 0)).1), .int .i64 ((F.getD i (0, 0, 0)).2.1), .int .i64 ((F.getD i (0, 0, 0)).2.2)], slF (rI3 .i64) pv cv V, slF (rI3 .i64) pf cf F])) ?_ (fun hD9 => ?_)
   ·
    rintro bn20n1
    dsimp only
    refine d_two 18 19 (by kernel_rfl) ?_ ?_
    ·
     refine o_ef0W rfl rfl rfl rfl (ef_alloc zr42 rfl) (fun bn18n1 _ => ?_)
     exact d_weakT (hD5 (bn18n1, bn20n1)) (by kernel_rfl) ((.of rfl) : SubM _ _) (perm_c 1 rfl (perm_c 0 rfl .nil)) .rfl ((.of [0, 1, 2, 3, 4, 5] rfl) : SelR _ _ _)
    ·
     refine o_ef0W rfl rfl rfl rfl (ef_alloc zr42 rfl) (fun bn19n1 _ => ?_)
     exact d_weakT (hD6 (bn19n1, bn20n1)) (by kernel_rfl) ((.of rfl) : SubM _ _) (perm_c 1 rfl (perm_c 0 rfl .nil)) .rfl ((.of [0, 1, 2, 3, 4, 5] rfl) : SelR _ _ _)
   refine d_three 18 19 20 (by kernel_rfl) ?_ ?_ ?_
   ·
    refine o_ef0W rfl rfl rfl rfl (ef_alloc zr42 rfl) (fun bn18n1 _ => ?_)
    exact d_weakT (hD7 bn18n1) (by kernel_rfl) ((.of rfl) : SubM _ _) .rfl .rfl ((.of [0, 1, 2, 3, 4, 5] rfl) : SelR _ _ _)
   ·
    refine o_ef0W rfl rfl rfl rfl (ef_alloc zr42 rfl) (fun bn19n1 _ => ?_)
    exact d_weakT (hD8 bn19n1) (by kernel_rfl) ((.of rfl) : SubM _ _) .rfl .rfl ((.of [0, 1, 2, 3, 4, 5] rfl) : SelR _ _ _)
   ·
    refine o_ef0W rfl rfl rfl rfl (ef_alloc zr42 rfl) (fun bn20n1 _ => ?_)
    exact d_weakT (hD9 bn20n1) (by kernel_rfl) ((.of rfl) : SubM _ _) .rfl .rfl ((.of [0, 1, 2, 3, 4, 5] rfl) : SelR _ _ _)
  ·
   refine r_exit ?_
   refine p_then_exit ?_
   refine p_then_exit ?_
   refine p_block_here ?_
   refine p_then ?_
   refine r_seq ?_
   refine r_region ?_
   refine r_u rfl rfl (vl_load_box_agg 0 ty44 rfl rfl (.take (.take (.take .nil)))) ?_
   refine r_store_box 1 rfl rfl rfl rfl rfl sz44 rfl (.take (.take (.take .nil))) (.s .z) ?_
   refine r_pv rfl rfl (pv_assign rfl) ?_
   refine r_nil ?_
   refine p_then ?_
   refine r_ret ?_
   have hz : Ms.vecR V F = s := by unfold Ms.vecR; rw [if_pos hc0, hs, List.take_of_length_le (by omega)]
   exact p_ret2 Try.results21 () trivial (res_box_agg 1 ty44 rfl rfl (.take (.take (.take .nil)))) (res_tmp rfl) (by rw [hz, hc0]) (ho := (.n : PickO _ _ _)) (.n : SelR _ _ _)
theorem con_lvector {pv : Option Addr} {nv : Nat} {cv : Nat} {V : List (Int × Int × Int)} {pf : Option Addr} {nf : Nat} {cf : Nat} {F : List (Int × Int × Int)} (hnv : V.length = nv) (hnf : F.length = nf) (hg : Ms.Good V F) : Con Try.prog 22 [.agg #[.slice pv nv cv, .slice pf nf cf]] [] [slF (rI3 .i64) pv cv V, slF (rI3 .i64) pf cf F] (Y := Unit) (fun y => True) (fun y => .agg #[.int .i64 ((Ms.vecS V F).1), .int .i64 ((Ms.vecS V F).2.1), .int .i64 ((Ms.vecS V F).2.2)]) (fun y => []) (fun y => []) := by
 refine con_intro Try.func22 rfl rfl rfl (fun c => ?_)
 show RunC _ _ _ _ _ [(0, .agg #[.slice pv nv cv, .slice pf nf cf])] [] [slF (rI3 .i64) pv cv V, slF (rI3 .i64) pf cf F]
 refine c_len 0 rfl (fun hL0 => ?_)
 refine c_len 1 rfl (fun hL1 => ?_)
 have hnv5 : nv ≤ 512 := by have := hg.nv; omega
 have hnf5 : nf ≤ 1024 := by have := hg.nf; omega
 refine r_seq ?_
 refine r_region ?_
 refine r_new rfl rfl (ef_box rfl rfl) (fun b1 => ?_)
 refine r_new rfl rfl (ef_alloc zr44 rfl) (fun b2 => ?_)
 refine r_nil ?_
 refine p_then ?_
 refine r_seq ?_
 refine r_region ?_
 refine r_pv rfl rfl (pv_build_array zr44 rfl Try.underlying44 sz3 .n .n) ?_
 refine r_new rfl rfl (ef_alloc zr44 rfl) (fun b3 => ?_)
 refine r_store_box 0 rfl rfl rfl rfl rfl sz44 rfl (.take (.take (.take .nil))) .z ?_
 refine r_nil ?_
 refine p_then ?_
 refine r_seq ?_
 refine r_seq ?_
 refine r_region ?_
 refine r_pv rfl rfl (pv_fieldAddr Try.underlying25 rfl sz23 rfl rfl) ?_
 refine r_u rfl rfl (vl_load_box_one 2 ty23 rfl rfl rfl) ?_
 refine r_pv rfl rfl (pv_len Try.underlying23 rfl) ?_
 refine r_pv rfl rfl (pv_move rfl) ?_
 refine r_nil ?_
 refine p_then ?_
 refine r_block ?_
 refine r_loop (X := Nat × (Int × Int × Int)) (fun x : Nat × (Int × Int × Int) => x.1 ≤ nf ∧ x.2 = Ms.vecS V (F.take x.1) ∧ (-(8796093022208 * (x.1 : Int)) ≤ x.2.1 ∧ x.2.1 ≤ 8796093022208 * (x.1 : Int)) ∧ (-(8796093022208 * (x.1 : Int)) ≤ x.2.2.1 ∧ x.2.2.1 ≤ 8796093022208 * (x.1 : Int)) ∧ (-(8796093022208 * (x.1 : Int)) ≤ x.2.2.2 ∧ x.2.2.2 ≤ 8796093022208 * (x.1 : Int))) (fun x => [(15, .int .i64 ((x.1 : Nat) : Int)), (14, .int .i64 ((nf : Nat) : Int)), (13, .slice pf nf cf), (3, .pointer (some ⟨b3, 0, none⟩)), (2, .pointer (some ⟨b2, 0, none⟩)), (1, .pointer (some ⟨b1, 0, none⟩))]) (fun x => [boxA b3 44 [.int .i64 ((x.2).1), .int .i64 ((x.2).2.1), .int .i64 ((x.2).2.2)], boxA b2 44 [.int .i64 0, .int .i64 0, .int .i64 0], boxA b1 25 [.slice pv nv cv, .slice pf nf cf]]) (fun x => [slF (rI3 .i64) pv cv V, slF (rI3 .i64) pf cf F]) (fun x : Nat × (Int × Int × Int) => nf - x.1) (0, ((0 : Int), (0 : Int), (0 : Int))) (show 0 ≤ nf ∧ ((0 : Int), (0 : Int), (0 : Int)) = Ms.vecS V (F.take 0) ∧ (-(8796093022208 * (0 : Int)) ≤ ((0 : Int), (0 : Int), (0 : Int)).1 ∧ ((0 : Int), (0 : Int), (0 : Int)).1 ≤ 8796093022208 * (0 : Int)) ∧ (-(8796093022208 * (0 : Int)) ≤ ((0 : Int), (0 : Int), (0 : Int)).2.1 ∧ ((0 : Int), (0 : Int), (0 : Int)).2.1 ≤ 8796093022208 * (0 : Int)) ∧ (-(8796093022208 * (0 : Int)) ≤ ((0 : Int), (0 : Int), (0 : Int)).2.2 ∧ ((0 : Int), (0 : Int), (0 : Int)).2.2 ≤ 8796093022208 * (0 : Int)) from by exact ⟨Nat.zero_le _, rfl, by decide, by decide, by decide⟩) ((.e rfl (by first | rfl | (congr 1; omega) | simp_all) (.of rfl)) : SubM _ _) (ho := ((.e (i := 0) rfl (by first | rfl | (congr 1; omega) | simp_all) (.of [0, 0] rfl)) : PickO _ _ _)) ((.of [0, 1] rfl) : SelR _ _ _) ?_
 rintro ⟨i, s⟩ hI
 replace hI : i ≤ nf ∧ s = Ms.vecS V (F.take i) ∧ (-(8796093022208 * (i : Int)) ≤ s.1 ∧ s.1 ≤ 8796093022208 * (i : Int)) ∧ (-(8796093022208 * (i : Int)) ≤ s.2.1 ∧ s.2.1 ≤ 8796093022208 * (i : Int)) ∧ (-(8796093022208 * (i : Int)) ≤ s.2.2 ∧ s.2.2 ≤ 8796093022208 * (i : Int)) := hI
 show RunC _ _ _ _ _ [(15, .int .i64 ((i : Nat) : Int)), (14, .int .i64 ((nf : Nat) : Int)), (13, .slice pf nf cf), (3, .pointer (some ⟨b3, 0, none⟩)), (2, .pointer (some ⟨b2, 0, none⟩)), (1, .pointer (some ⟨b1, 0, none⟩))] [boxA b3 44 [.int .i64 ((s).1), .int .i64 ((s).2.1), .int .i64 ((s).2.2)], boxA b2 44 [.int .i64 0, .int .i64 0, .int .i64 0], boxA b1 25 [.slice pv nv cv, .slice pf nf cf]] [slF (rI3 .i64) pv cv V, slF (rI3 .i64) pf cf F]
 obtain ⟨hi, hs, hb1, hb2, hb3⟩ := hI
 refine r_seq ?_
 refine r_region ?_
 refine r_pv rfl rfl (pv_lss rfl rfl) ?_
 refine r_nil ?_
 refine p_then ?_
 refine r_seq ?_
 refine r_cond rfl (fun h4 => ?_) (fun h4 => ?_)
 ·
  have hat := hg.at (show i < F.length by omega)
  have hv0 := hg.vat (i := ((F.getD i (0, 0, 0)).1).toNat) (by omega)
  have hv1 := hg.vat (i := ((F.getD i (0, 0, 0)).2.1).toNat) (by omega)
  have hv2 := hg.vat (i := ((F.getD i (0, 0, 0)).2.2).toNat) (by omega)
  refine r_skip ?_
  refine p_then ?_
  refine r_seq ?_
  refine r_block ?_
  refine r_seq ?_
  refine r_region ?_
  refine r_index_fl (x0 := (F.getD i (0, 0, 0))) 1 i rfl Try.underlying23 sz44 rfl rfl rfl (by first | rfl | assumption | (simp_all; done) | omega) rfl rfl (gD (d := (0, 0, 0)) (by omega)) (fun b5 o6 hok7 => ?_)
  obtain ⟨hok7x, hok7y, hok7z⟩ := hok7
  replace hok7x := inK_i64.1 hok7x
  replace hok7y := inK_i64.1 hok7y
  replace hok7z := inK_i64.1 hok7z
  refine r_u rfl rfl (vl_load_at_agg (j := 0) 0 ty44 rfl rfl rfl (.take (.take (.take .nil)))) ?_
  refine r_new rfl rfl (ef_alloc zr44 rfl) (fun b8 => ?_)
  refine r_store_box 0 rfl rfl rfl rfl rfl sz44 rfl (.take (.take (.take .nil))) .z ?_
  refine r_nil ?_
  refine p_then ?_
  refine r_seq ?_
  refine r_draw (OW := []) (O := [boxA b8 44 [.int .i64 ((F.getD i (0, 0, 0)).1), .int .i64 ((F.getD i (0, 0, 0)).2.1), .int .i64 ((F.getD i (0, 0, 0)).2.2)], boxA b3 44 [.int .i64 ((s).1), .int .i64 ((s).2.1), .int .i64 ((s).2.2)], boxA b2 44 [.int .i64 0, .int .i64 0, .int .i64 0], boxA b1 25 [.slice pv nv cv, .slice pf nf cf]]) 28 mixed (.then (.block (.then (.then (.block (.then .ret)))))) (by kernel_rfl) ?_
  refine d_pv 0 rfl rfl (by kernel_rfl) (by kernel_rfl) rfl rfl (pv_fieldAddr Try.underlying25 rfl sz22 rfl rfl) ?_
  refine d_u 1 rfl rfl (by kernel_rfl) (by kernel_rfl) rfl rfl (vl_load_box_one 3 ty22 rfl rfl rfl) ?_
  refine d_pv 2 rfl rfl (by kernel_rfl) (by kernel_rfl) rfl rfl (pv_indexAddr_arr (i := 1) Try.underlying44 sz3 rfl rfl (by decide) rfl) ?_
  refine d_u 3 rfl rfl (by kernel_rfl) (by kernel_rfl) rfl rfl (vl_load_box_one 0 ty3 rfl rfl rfl) ?_
  refine d_index_fl (x0 := (V.getD (((F.getD i (0, 0, 0)).2.1).toNat) (0, 0, 0))) 4 rfl rfl (by kernel_rfl) (by kernel_rfl) 1 (((F.getD i (0, 0, 0)).2.1).toNat) rfl Try.underlying22 sz42 rfl rfl rfl (by first | rfl | assumption | (simp_all; done) | omega) rfl (by omega) (gD (d := (0, 0, 0)) (by omega)) (fun b9 o10 hok11 => ?_)
  obtain ⟨hok11x, hok11y, hok11z⟩ := hok11
  replace hok11x := inK_i64.1 hok11x
  replace hok11y := inK_i64.1 hok11y
  replace hok11z := inK_i64.1 hok11z
  refine d_u 5 rfl rfl (by kernel_rfl) (by kernel_rfl) rfl rfl (vl_load_at_agg (j := 0) 0 ty42 rfl rfl rfl (.take (.take (.take .nil)))) ?_
  refine d_pv 6 rfl rfl (by kernel_rfl) (by kernel_rfl) rfl rfl (pv_fieldAddr Try.underlying25 rfl sz22 rfl rfl) ?_
  refine d_u 7 rfl rfl (by kernel_rfl) (by kernel_rfl) rfl rfl (vl_load_box_one 3 ty22 rfl rfl rfl) ?_
  refine d_pv 8 rfl rfl (by kernel_rfl) (by kernel_rfl) rfl rfl (pv_indexAddr_arr (i := 0) Try.underlying44 sz3 rfl rfl (by decide) rfl) ?_
  refine d_u 9 rfl rfl (by kernel_rfl) (by kernel_rfl) rfl rfl (vl_load_box_one 0 ty3 rfl rfl rfl) ?_
  refine d_index_fl (x0 := (V.getD (((F.getD i (0, 0, 0)).1).toNat) (0, 0, 0))) 10 rfl rfl (by kernel_rfl) (by kernel_rfl) 2 (((F.getD i (0, 0, 0)).1).toNat) rfl Try.underlying22 sz42 rfl rfl rfl (by first | rfl | assumption | (simp_all; done) | omega) rfl (by omega) (gD (d := (0, 0, 0)) (by omega)) (fun b12 o13 hok14 => ?_)
  obtain ⟨hok14x, hok14y, hok14z⟩ := hok14
  replace hok14x := inK_i64.1 hok14x
  replace hok14y := inK_i64.1 hok14y
  replace hok14z := inK_i64.1 hok14z
  refine d_u 11 rfl rfl (by kernel_rfl) (by kernel_rfl) rfl rfl (vl_load_at_agg (j := 0) 0 ty42 rfl rfl rfl (.take (.take (.take .nil)))) ?_
  refine d_pv 13 rfl rfl (by kernel_rfl) (by kernel_rfl) rfl rfl (pv_fieldAddr Try.underlying25 rfl sz22 rfl rfl) ?_
  refine d_u 14 rfl rfl (by kernel_rfl) (by kernel_rfl) rfl rfl (vl_load_box_one 3 ty22 rfl rfl rfl) ?_
  refine d_pv 15 rfl rfl (by kernel_rfl) (by kernel_rfl) rfl rfl (pv_indexAddr_arr (i := 2) Try.underlying44 sz3 rfl rfl (by decide) rfl) ?_
  refine d_u 16 rfl rfl (by kernel_rfl) (by kernel_rfl) rfl rfl (vl_load_box_one 0 ty3 rfl rfl rfl) ?_
  refine d_index_fl (x0 := (V.getD (((F.getD i (0, 0, 0)).2.2).toNat) (0, 0, 0))) 17 rfl rfl (by kernel_rfl) (by kernel_rfl) 3 (((F.getD i (0, 0, 0)).2.2).toNat) rfl Try.underlying22 sz42 rfl rfl rfl (by first | rfl | assumption | (simp_all; done) | omega) rfl (by omega) (gD (d := (0, 0, 0)) (by omega)) (fun b15 o16 hok17 => ?_)
  obtain ⟨hok17x, hok17y, hok17z⟩ := hok17
  replace hok17x := inK_i64.1 hok17x
  replace hok17y := inK_i64.1 hok17y
  replace hok17z := inK_i64.1 hok17z
  refine d_u 18 rfl rfl (by kernel_rfl) (by kernel_rfl) rfl rfl (vl_load_at_agg (j := 0) 0 ty42 rfl rfl rfl (.take (.take (.take .nil)))) ?_
  refine d_pv 19 rfl rfl (by kernel_rfl) (by kernel_rfl) rfl rfl (pv_fieldAddr Try.underlying25 rfl sz22 rfl rfl) ?_
  refine d_u 20 rfl rfl (by kernel_rfl) (by kernel_rfl) rfl rfl (vl_load_box_one 3 ty22 rfl rfl rfl) ?_
  refine d_pv 21 rfl rfl (by kernel_rfl) (by kernel_rfl) rfl rfl (pv_indexAddr_arr (i := 0) Try.underlying44 sz3 rfl rfl (by decide) rfl) ?_
  refine d_u 22 rfl rfl (by kernel_rfl) (by kernel_rfl) rfl rfl (vl_load_box_one 0 ty3 rfl rfl rfl) ?_
  refine d_index_fl (x0 := (V.getD (((F.getD i (0, 0, 0)).1).toNat) (0, 0, 0))) 23 rfl rfl (by kernel_rfl) (by kernel_rfl) 4 (((F.getD i (0, 0, 0)).1).toNat) rfl Try.underlying22 sz42 rfl rfl rfl (by first | rfl | assumption | (simp_all; done) | omega) rfl (by omega) (gD (d := (0, 0, 0)) (by omega)) (fun b18 o19 hok20 => ?_)
  obtain ⟨hok20x, hok20y, hok20z⟩ := hok20
  replace hok20x := inK_i64.1 hok20x
  replace hok20y := inK_i64.1 hok20y
  replace hok20z := inK_i64.1 hok20z
  refine d_u 24 rfl rfl (by kernel_rfl) (by kernel_rfl) rfl rfl (vl_load_at_agg (j := 0) 0 ty42 rfl rfl rfl (.take (.take (.take .nil)))) ?_
  refine d_weak (m' := [(43, .agg #[.int .i64 ((V.getD (((F.getD i (0, 0, 0)).1).toNat) (0, 0, 0)).1), .int .i64 ((V.getD (((F.getD i (0, 0, 0)).1).toNat) (0, 0, 0)).2.1), .int .i64 ((V.getD (((F.getD i (0, 0, 0)).1).toNat) (0, 0, 0)).2.2)]), (42, .pointer (some ⟨b18, o19, none⟩)), (41, .int .i64 ((F.getD i (0, 0, 0)).1)), (40, .pointer (some ⟨b8, 0, none⟩)), (39, .slice pv nv cv), (38, .pointer (some ⟨b1, 0, none⟩)), (37, .agg #[.int .i64 ((V.getD (((F.getD i (0, 0, 0)).2.2).toNat) (0, 0, 0)).1), .int .i64 ((V.getD (((F.getD i (0, 0, 0)).2.2).toNat) (0, 0, 0)).2.1), .int .i64 ((V.getD (((F.getD i (0, 0, 0)).2.2).toNat) (0, 0, 0)).2.2)]), (36, .pointer (some ⟨b15, o16, none⟩)), (35, .int .i64 ((F.getD i (0, 0, 0)).2.2)), (34, .pointer (some ⟨b8, 2, none⟩)), (33, .slice pv nv cv), (32, .pointer (some ⟨b1, 0, none⟩)), (30, .agg #[.int .i64 ((V.getD (((F.getD i (0, 0, 0)).1).toNat) (0, 0, 0)).1), .int .i64 ((V.getD (((F.getD i (0, 0, 0)).1).toNat) (0, 0, 0)).2.1), .int .i64 ((V.getD (((F.getD i (0, 0, 0)).1).toNat) (0, 0, 0)).2.2)]), (29, .pointer (some ⟨b12, o13, none⟩)), (28, .int .i64 ((F.getD i (0, 0, 0)).1)), (27, .pointer (some ⟨b8, 0, none⟩)), (26, .slice pv nv cv), (25, .pointer (some ⟨b1, 0, none⟩)), (24, .agg #[.int .i64 ((V.getD (((F.getD i (0, 0, 0)).2.1).toNat) (0, 0, 0)).1), .int .i64 ((V.getD (((F.getD i (0, 0, 0)).2.1).toNat) (0, 0, 0)).2.1), .int .i64 ((V.getD (((F.getD i (0, 0, 0)).2.1).toNat) (0, 0, 0)).2.2)]), (23, .pointer (some ⟨b9, o10, none⟩)), (22, .int .i64 ((F.getD i (0, 0, 0)).2.1)), (21, .pointer (some ⟨b8, 1, none⟩)), (20, .slice pv nv cv), (19, .pointer (some ⟨b1, 0, none⟩)), (5, .pointer (some ⟨b8, 0, none⟩)), (18, .agg #[.int .i64 ((F.getD i (0, 0, 0)).1), .int .i64 ((F.getD i (0, 0, 0)).2.1), .int .i64 ((F.getD i (0, 0, 0)).2.2)]), (17, .pointer (some ⟨b5, o6, none⟩)), (16, .bool (decide (((i : Nat) : Int) < ((nf : Nat) : Int)))), (15, .int .i64 ((i : Nat) : Int)), (14, .int .i64 ((nf : Nat) : Int)), (13, .slice pf nf cf), (3, .pointer (some ⟨b3, 0, none⟩)), (2, .pointer (some ⟨b2, 0, none⟩)), (1, .pointer (some ⟨b1, 0, none⟩))]) (R' := [atF b18 o19 [.int .i64 ((V.getD (((F.getD i (0, 0, 0)).1).toNat) (0, 0, 0)).1), .int .i64 ((V.getD (((F.getD i (0, 0, 0)).1).toNat) (0, 0, 0)).2.1), .int .i64 ((V.getD (((F.getD i (0, 0, 0)).1).toNat) (0, 0, 0)).2.2)], atF b15 o16 [.int .i64 ((V.getD (((F.getD i (0, 0, 0)).2.2).toNat) (0, 0, 0)).1), .int .i64 ((V.getD (((F.getD i (0, 0, 0)).2.2).toNat) (0, 0, 0)).2.1), .int .i64 ((V.getD (((F.getD i (0, 0, 0)).2.2).toNat) (0, 0, 0)).2.2)], atF b12 o13 [.int .i64 ((V.getD (((F.getD i (0, 0, 0)).1).toNat) (0, 0, 0)).1), .int .i64 ((V.getD (((F.getD i (0, 0, 0)).1).toNat) (0, 0, 0)).2.1), .int .i64 ((V.getD (((F.getD i (0, 0, 0)).1).toNat) (0, 0, 0)).2.2)], atF b9 o10 [.int .i64 ((V.getD (((F.getD i (0, 0, 0)).2.1).toNat) (0, 0, 0)).1), .int .i64 ((V.getD (((F.getD i (0, 0, 0)).2.1).toNat) (0, 0, 0)).2.1), .int .i64 ((V.getD (((F.getD i (0, 0, 0)).2.1).toNat) (0, 0, 0)).2.2)], atF b5 o6 [.int .i64 ((F.getD i (0, 0, 0)).1), .int .i64 ((F.getD i (0, 0, 0)).2.1), .int .i64 ((F.getD i (0, 0, 0)).2.2)], slF (rI3 .i64) pv cv V, slF (rI3 .i64) pf cf F]) ((.of rfl) : SubM _ _) (List.Perm.refl _) (List.Perm.refl _) ((.of [0, 1, 2, 3, 4, 5, 6] rfl) : SelR _ _ _) ?_
  obtain ⟨qax, hqax⟩ : ∃ z, z = (V.getD (((F.getD i (0, 0, 0)).1).toNat) (0, 0, 0)).1 := ⟨_, rfl⟩
  rw [← hqax]
  obtain ⟨qay, hqay⟩ : ∃ z, z = (V.getD (((F.getD i (0, 0, 0)).1).toNat) (0, 0, 0)).2.1 := ⟨_, rfl⟩
  rw [← hqay]
  obtain ⟨qaz, hqaz⟩ : ∃ z, z = (V.getD (((F.getD i (0, 0, 0)).1).toNat) (0, 0, 0)).2.2 := ⟨_, rfl⟩
  rw [← hqaz]
  obtain ⟨qbx, hqbx⟩ : ∃ z, z = (V.getD (((F.getD i (0, 0, 0)).2.1).toNat) (0, 0, 0)).1 := ⟨_, rfl⟩
  rw [← hqbx]
  obtain ⟨qby, hqby⟩ : ∃ z, z = (V.getD (((F.getD i (0, 0, 0)).2.1).toNat) (0, 0, 0)).2.1 := ⟨_, rfl⟩
  rw [← hqby]
  obtain ⟨qbz, hqbz⟩ : ∃ z, z = (V.getD (((F.getD i (0, 0, 0)).2.1).toNat) (0, 0, 0)).2.2 := ⟨_, rfl⟩
  rw [← hqbz]
  obtain ⟨qcx, hqcx⟩ : ∃ z, z = (V.getD (((F.getD i (0, 0, 0)).2.2).toNat) (0, 0, 0)).1 := ⟨_, rfl⟩
  rw [← hqcx]
  obtain ⟨qcy, hqcy⟩ : ∃ z, z = (V.getD (((F.getD i (0, 0, 0)).2.2).toNat) (0, 0, 0)).2.1 := ⟨_, rfl⟩
  rw [← hqcy]
  obtain ⟨qcz, hqcz⟩ : ∃ z, z = (V.getD (((F.getD i (0, 0, 0)).2.2).toNat) (0, 0, 0)).2.2 := ⟨_, rfl⟩
  rw [← hqcz]
  refine d_join (X := Nat × Nat) (k' := 0) (L' := #[true, true, true, true, true, true, true, true, true, true, true, true, true, true, true, true, true, true, true, true, true, true, true, true, true, true, true, true, true, true]) (fun (bn26n1, bn27n1) => ([(7, .pointer (some ⟨bn27n1, 0, none⟩)), (6, .pointer (some ⟨bn26n1, 0, none⟩)), (44, .agg #[.int .i64 (qcx - qax), .int .i64 (qcy - qay), .int .i64 (qcz - qaz)]), (31, .agg #[.int .i64 (qbx - qax), .int .i64 (qby - qay), .int .i64 (qbz - qaz)]), (43, .agg #[.int .i64 qax, .int .i64 qay, .int .i64 qaz]), (42, .pointer (some ⟨b18, o19, none⟩)), (41, .int .i64 ((F.getD i (0, 0, 0)).1)), (40, .pointer (some ⟨b8, 0, none⟩)), (39, .slice pv nv cv), (38, .pointer (some ⟨b1, 0, none⟩)), (37, .agg #[.int .i64 qcx, .int .i64 qcy, .int .i64 qcz]), (36, .pointer (some ⟨b15, o16, none⟩)), (35, .int .i64 ((F.getD i (0, 0, 0)).2.2)), (34, .pointer (some ⟨b8, 2, none⟩)), (33, .slice pv nv cv), (32, .pointer (some ⟨b1, 0, none⟩)), (30, .agg #[.int .i64 qax, .int .i64 qay, .int .i64 qaz]), (29, .pointer (some ⟨b12, o13, none⟩)), (28, .int .i64 ((F.getD i (0, 0, 0)).1)), (27, .pointer (some ⟨b8, 0, none⟩)), (26, .slice pv nv cv), (25, .pointer (some ⟨b1, 0, none⟩)), (24, .agg #[.int .i64 qbx, .int .i64 qby, .int .i64 qbz]), (23, .pointer (some ⟨b9, o10, none⟩)), (22, .int .i64 ((F.getD i (0, 0, 0)).2.1)), (21, .pointer (some ⟨b8, 1, none⟩)), (20, .slice pv nv cv), (19, .pointer (some ⟨b1, 0, none⟩)), (5, .pointer (some ⟨b8, 0, none⟩)), (18, .agg #[.int .i64 ((F.getD i (0, 0, 0)).1), .int .i64 ((F.getD i (0, 0, 0)).2.1), .int .i64 ((F.getD i (0, 0, 0)).2.2)]), (17, .pointer (some ⟨b5, o6, none⟩)), (16, .bool (decide (((i : Nat) : Int) < ((nf : Nat) : Int)))), (15, .int .i64 ((i : Nat) : Int)), (14, .int .i64 ((nf : Nat) : Int)), (13, .slice pf nf cf), (3, .pointer (some ⟨b3, 0, none⟩)), (2, .pointer (some ⟨b2, 0, none⟩)), (1, .pointer (some ⟨b1, 0, none⟩))], [boxA bn27n1 44 [.int .i64 (qcx - qax), .int .i64 (qcy - qay), .int .i64 (qcz - qaz)], boxA bn26n1 44 [.int .i64 (qbx - qax), .int .i64 (qby - qay), .int .i64 (qbz - qaz)]], [boxA b8 44 [.int .i64 ((F.getD i (0, 0, 0)).1), .int .i64 ((F.getD i (0, 0, 0)).2.1), .int .i64 ((F.getD i (0, 0, 0)).2.2)], boxA b3 44 [.int .i64 ((s).1), .int .i64 ((s).2.1), .int .i64 ((s).2.2)], boxA b2 44 [.int .i64 0, .int .i64 0, .int .i64 0], boxA b1 25 [.slice pv nv cv, .slice pf nf cf]], [atF b18 o19 [.int .i64 qax, .int .i64 qay, .int .i64 qaz], atF b15 o16 [.int .i64 qcx, .int .i64 qcy, .int .i64 qcz], atF b12 o13 [.int .i64 qax, .int .i64 qay, .int .i64 qaz], atF b9 o10 [.int .i64 qbx, .int .i64 qby, .int .i64 qbz], atF b5 o6 [.int .i64 ((F.getD i (0, 0, 0)).1), .int .i64 ((F.getD i (0, 0, 0)).2.1), .int .i64 ((F.getD i (0, 0, 0)).2.2)], slF (rI3 .i64) pv cv V, slF (rI3 .i64) pf cf F])) ?_ (fun hD0 => ?_)
  ·
   rintro ⟨bn26n1, bn27n1⟩
   dsimp only
   refine d_done (by kernel_rfl) ?_
   refine p_then ?_
   refine r_seq ?_
   have hm01 := Ms.mul_lim (a := (qbx - qax)) (b := (qcy - qay)) (by omega) (by omega)
   have hm02 := Ms.mul_lim (a := (qbx - qax)) (b := (qcz - qaz)) (by omega) (by omega)
   have hm10 := Ms.mul_lim (a := (qby - qay)) (b := (qcx - qax)) (by omega) (by omega)
   have hm12 := Ms.mul_lim (a := (qby - qay)) (b := (qcz - qaz)) (by omega) (by omega)
   have hm20 := Ms.mul_lim (a := (qbz - qaz)) (b := (qcx - qax)) (by omega) (by omega)
   have hm21 := Ms.mul_lim (a := (qbz - qaz)) (b := (qcy - qay)) (by omega) (by omega)
   refine r_region ?_
   refine r_pv rfl rfl (pv_move rfl) ?_
   refine r_nil ?_
   refine p_then ?_
   refine r_block ?_
   refine r_loopU ?_
   refine u_round ?_
   refine r_seq ?_
   refine r_region ?_
   refine r_pv rfl rfl (pv_lss rfl rfl) ?_
   refine r_nil ?_
   refine p_then ?_
   refine r_seq ?_
   refine r_cond_t rfl rfl ?_
   refine r_skip ?_
   refine p_then ?_
   refine r_seq ?_
   refine r_block ?_
   refine r_seq ?_
   refine r_region ?_
   refine r_pv rfl rfl (pv_move rfl) ?_
   refine r_pv rfl rfl (pv_assign rfl) ?_
   refine r_nil ?_
   refine p_then ?_
   refine r_seq ?_
   refine r_region ?_
   refine r_pv rfl rfl (pv_move rfl) ?_
   refine r_pv rfl rfl (pv_add (z := 1) rfl rfl (w64 (by decide))) ?_
   refine r_pv rfl rfl (pv_rem (z := 1) rfl rfl (by decide) (by decide)) ?_
   refine r_pv rfl rfl (pv_move rfl) ?_
   refine r_pv rfl rfl (pv_add (z := 2) rfl rfl (w64 (by decide))) ?_
   refine r_pv rfl rfl (pv_rem (z := 2) rfl rfl (by decide) (by decide)) ?_
   refine r_pv rfl rfl (pv_assign rfl) ?_
   refine r_pv rfl rfl (pv_assign rfl) ?_
   refine r_nil ?_
   refine p_then ?_
   refine r_weakO (.c (i := 3) rfl (.c (i := 0) rfl (.c (i := 0) rfl (.c (i := 0) rfl (.c (i := 0) rfl (.c (i := 0) rfl .n)))))) ?_
   refine r_draw (OW := [boxA b3 44 [.int .i64 ((s).1), .int .i64 ((s).2.1), .int .i64 ((s).2.2)]]) (O := [boxA bn27n1 44 [.int .i64 (qcx - qax), .int .i64 (qcy - qay), .int .i64 (qcz - qaz)], boxA bn26n1 44 [.int .i64 (qbx - qax), .int .i64 (qby - qay), .int .i64 (qbz - qaz)], boxA b8 44 [.int .i64 ((F.getD i (0, 0, 0)).1), .int .i64 ((F.getD i (0, 0, 0)).2.1), .int .i64 ((F.getD i (0, 0, 0)).2.2)], boxA b2 44 [.int .i64 0, .int .i64 0, .int .i64 0], boxA b1 25 [.slice pv nv cv, .slice pf nf cf]]) 20 mixed (.block (.then (.then (.block (.block (.then (.then (.block (.then .ret))))))))) (by kernel_rfl) ?_
   refine d_pv 0 rfl rfl (by kernel_rfl) (by kernel_rfl) rfl rfl (pv_move rfl) ?_
   refine d_pv 1 rfl rfl (by kernel_rfl) (by kernel_rfl) rfl rfl (pv_indexAddr_arr (i := 0) Try.underlying44 sz3 rfl rfl (by decide) rfl) ?_
   refine d_uw 2 rfl rfl (by kernel_rfl) (by kernel_rfl) (by kernel_rfl) rfl rfl (vl_load_box_one 0 ty3 rfl rfl rfl) ?_
   refine d_pv 3 rfl rfl (by kernel_rfl) (by kernel_rfl) rfl rfl (pv_move rfl) ?_
   refine d_pv 4 rfl rfl (by kernel_rfl) (by kernel_rfl) rfl rfl (pv_indexAddr_arr (i := 1) Try.underlying44 sz3 rfl rfl (by decide) rfl) ?_
   refine d_uw 5 rfl rfl (by kernel_rfl) (by kernel_rfl) (by kernel_rfl) rfl rfl (vl_load_box_one 2 ty3 rfl rfl rfl) ?_
   refine d_pv 6 rfl rfl (by kernel_rfl) (by kernel_rfl) rfl rfl (pv_move rfl) ?_
   refine d_pv 7 rfl rfl (by kernel_rfl) (by kernel_rfl) rfl rfl (pv_indexAddr_arr (i := 2) Try.underlying44 sz3 rfl rfl (by decide) rfl) ?_
   refine d_uw 8 rfl rfl (by kernel_rfl) (by kernel_rfl) (by kernel_rfl) rfl rfl (vl_load_box_one 1 ty3 rfl rfl rfl) ?_
   refine d_pv 9 rfl rfl (by kernel_rfl) (by kernel_rfl) rfl rfl (pv_mul (z := ((qby - qay) * (qcz - qaz))) rfl rfl (w64 (by omega))) ?_
   refine d_pv 10 rfl rfl (by kernel_rfl) (by kernel_rfl) rfl rfl (pv_move rfl) ?_
   refine d_pv 11 rfl rfl (by kernel_rfl) (by kernel_rfl) rfl rfl (pv_indexAddr_arr (i := 2) Try.underlying44 sz3 rfl rfl (by decide) rfl) ?_
   refine d_uw 12 rfl rfl (by kernel_rfl) (by kernel_rfl) (by kernel_rfl) rfl rfl (vl_load_box_one 2 ty3 rfl rfl rfl) ?_
   refine d_pv 13 rfl rfl (by kernel_rfl) (by kernel_rfl) rfl rfl (pv_move rfl) ?_
   refine d_pv 14 rfl rfl (by kernel_rfl) (by kernel_rfl) rfl rfl (pv_indexAddr_arr (i := 1) Try.underlying44 sz3 rfl rfl (by decide) rfl) ?_
   refine d_uw 15 rfl rfl (by kernel_rfl) (by kernel_rfl) (by kernel_rfl) rfl rfl (vl_load_box_one 1 ty3 rfl rfl rfl) ?_
   refine d_pv 16 rfl rfl (by kernel_rfl) (by kernel_rfl) rfl rfl (pv_mul (z := ((qbz - qaz) * (qcy - qay))) rfl rfl (w64 (by omega))) ?_
   refine d_pv 17 rfl rfl (by kernel_rfl) (by kernel_rfl) rfl rfl (pv_sub (z := (((qby - qay) * (qcz - qaz)) - ((qbz - qaz) * (qcy - qay)))) rfl rfl (w64 (by omega))) ?_
   refine d_pv 18 rfl rfl (by kernel_rfl) (by kernel_rfl) rfl rfl (pv_add (z := ((s).1 + (((qby - qay) * (qcz - qaz)) - ((qbz - qaz) * (qcy - qay))))) rfl rfl (w64 (by omega))) ?_
   refine d_pv 19 rfl rfl (by kernel_rfl) (by kernel_rfl) rfl rfl (pv_indexAddr_arr (i := 0) Try.underlying44 sz3 rfl rfl (by decide) rfl) ?_
   refine d_one 20 (by kernel_rfl) (o_store_box (by kernel_rfl) rfl rfl rfl rfl rfl sz3 rfl (.take .nil) ?_)
   refine d_done (by kernel_rfl) ?_
   refine p_block ?_
   refine p_then ?_
   refine r_region ?_
   refine r_pv rfl rfl (pv_add (z := 1) rfl rfl (w64 (by decide))) ?_
   refine r_pv rfl rfl (pv_move rfl) ?_
   refine r_nil ?_
   refine p_again ?_
   refine u_round ?_
   refine r_seq ?_
   refine r_region ?_
   refine r_pv rfl rfl (pv_lss rfl rfl) ?_
   refine r_nil ?_
   refine p_then ?_
   refine r_seq ?_
   refine r_cond_t rfl rfl ?_
   refine r_skip ?_
   refine p_then ?_
   refine r_seq ?_
   refine r_block ?_
   refine r_seq ?_
   refine r_region ?_
   refine r_pv rfl rfl (pv_move rfl) ?_
   refine r_pv rfl rfl (pv_assign rfl) ?_
   refine r_nil ?_
   refine p_then ?_
   refine r_seq ?_
   refine r_region ?_
   refine r_pv rfl rfl (pv_move rfl) ?_
   refine r_pv rfl rfl (pv_add (z := 2) rfl rfl (w64 (by decide))) ?_
   refine r_pv rfl rfl (pv_rem (z := 2) rfl rfl (by decide) (by decide)) ?_
   refine r_pv rfl rfl (pv_move rfl) ?_
   refine r_pv rfl rfl (pv_add (z := 3) rfl rfl (w64 (by decide))) ?_
   refine r_pv rfl rfl (pv_rem (z := 0) rfl rfl (by decide) (by decide)) ?_
   refine r_pv rfl rfl (pv_assign rfl) ?_
   refine r_pv rfl rfl (pv_assign rfl) ?_
   refine r_nil ?_
   refine p_then ?_
   refine r_draw (OW := [boxA b3 44 [.int .i64 ((s).1 + (((qby - qay) * (qcz - qaz)) - ((qbz - qaz) * (qcy - qay)))), .int .i64 ((s).2.1), .int .i64 ((s).2.2)]]) (O := [boxA bn27n1 44 [.int .i64 (qcx - qax), .int .i64 (qcy - qay), .int .i64 (qcz - qaz)], boxA bn26n1 44 [.int .i64 (qbx - qax), .int .i64 (qby - qay), .int .i64 (qbz - qaz)], boxA b8 44 [.int .i64 ((F.getD i (0, 0, 0)).1), .int .i64 ((F.getD i (0, 0, 0)).2.1), .int .i64 ((F.getD i (0, 0, 0)).2.2)], boxA b2 44 [.int .i64 0, .int .i64 0, .int .i64 0], boxA b1 25 [.slice pv nv cv, .slice pf nf cf]]) 20 mixed (.block (.then (.then (.block (.block (.then (.then (.block (.then .ret))))))))) (by kernel_rfl) ?_
   refine d_pv 0 rfl rfl (by kernel_rfl) (by kernel_rfl) rfl rfl (pv_move rfl) ?_
   refine d_pv 1 rfl rfl (by kernel_rfl) (by kernel_rfl) rfl rfl (pv_indexAddr_arr (i := 1) Try.underlying44 sz3 rfl rfl (by decide) rfl) ?_
   refine d_uw 2 rfl rfl (by kernel_rfl) (by kernel_rfl) (by kernel_rfl) rfl rfl (vl_load_box_one 0 ty3 rfl rfl rfl) ?_
   refine d_pv 3 rfl rfl (by kernel_rfl) (by kernel_rfl) rfl rfl (pv_move rfl) ?_
   refine d_pv 4 rfl rfl (by kernel_rfl) (by kernel_rfl) rfl rfl (pv_indexAddr_arr (i := 2) Try.underlying44 sz3 rfl rfl (by decide) rfl) ?_
   refine d_uw 5 rfl rfl (by kernel_rfl) (by kernel_rfl) (by kernel_rfl) rfl rfl (vl_load_box_one 2 ty3 rfl rfl rfl) ?_
   refine d_pv 6 rfl rfl (by kernel_rfl) (by kernel_rfl) rfl rfl (pv_move rfl) ?_
   refine d_pv 7 rfl rfl (by kernel_rfl) (by kernel_rfl) rfl rfl (pv_indexAddr_arr (i := 0) Try.underlying44 sz3 rfl rfl (by decide) rfl) ?_
   refine d_uw 8 rfl rfl (by kernel_rfl) (by kernel_rfl) (by kernel_rfl) rfl rfl (vl_load_box_one 1 ty3 rfl rfl rfl) ?_
   refine d_pv 9 rfl rfl (by kernel_rfl) (by kernel_rfl) rfl rfl (pv_mul (z := ((qbz - qaz) * (qcx - qax))) rfl rfl (w64 (by omega))) ?_
   refine d_pv 10 rfl rfl (by kernel_rfl) (by kernel_rfl) rfl rfl (pv_move rfl) ?_
   refine d_pv 11 rfl rfl (by kernel_rfl) (by kernel_rfl) rfl rfl (pv_indexAddr_arr (i := 0) Try.underlying44 sz3 rfl rfl (by decide) rfl) ?_
   refine d_uw 12 rfl rfl (by kernel_rfl) (by kernel_rfl) (by kernel_rfl) rfl rfl (vl_load_box_one 2 ty3 rfl rfl rfl) ?_
   refine d_pv 13 rfl rfl (by kernel_rfl) (by kernel_rfl) rfl rfl (pv_move rfl) ?_
   refine d_pv 14 rfl rfl (by kernel_rfl) (by kernel_rfl) rfl rfl (pv_indexAddr_arr (i := 2) Try.underlying44 sz3 rfl rfl (by decide) rfl) ?_
   refine d_uw 15 rfl rfl (by kernel_rfl) (by kernel_rfl) (by kernel_rfl) rfl rfl (vl_load_box_one 1 ty3 rfl rfl rfl) ?_
   refine d_pv 16 rfl rfl (by kernel_rfl) (by kernel_rfl) rfl rfl (pv_mul (z := ((qbx - qax) * (qcz - qaz))) rfl rfl (w64 (by omega))) ?_
   refine d_pv 17 rfl rfl (by kernel_rfl) (by kernel_rfl) rfl rfl (pv_sub (z := (((qbz - qaz) * (qcx - qax)) - ((qbx - qax) * (qcz - qaz)))) rfl rfl (w64 (by omega))) ?_
   refine d_pv 18 rfl rfl (by kernel_rfl) (by kernel_rfl) rfl rfl (pv_add (z := ((s).2.1 + (((qbz - qaz) * (qcx - qax)) - ((qbx - qax) * (qcz - qaz))))) rfl rfl (w64 (by omega))) ?_
   refine d_pv 19 rfl rfl (by kernel_rfl) (by kernel_rfl) rfl rfl (pv_indexAddr_arr (i := 1) Try.underlying44 sz3 rfl rfl (by decide) rfl) ?_
   refine d_one 20 (by kernel_rfl) (o_store_box (by kernel_rfl) rfl rfl rfl rfl rfl sz3 rfl (.skip (.take .nil)) ?_)
   refine d_done (by kernel_rfl) ?_
   refine p_block ?_
   refine p_then ?_
   refine r_region ?_
   refine r_pv rfl rfl (pv_add (z := 2) rfl rfl (w64 (by decide))) ?_
   refine r_pv rfl rfl (pv_move rfl) ?_
   refine r_nil ?_
   refine p_again ?_
   refine u_round ?_
   refine r_seq ?_
   refine r_region ?_
   refine r_pv rfl rfl (pv_lss rfl rfl) ?_
   refine r_nil ?_
   refine p_then ?_
   refine r_seq ?_
   refine r_cond_t rfl rfl ?_
   refine r_skip ?_
   refine p_then ?_
   refine r_seq ?_
   refine r_block ?_
   refine r_seq ?_
   refine r_region ?_
   refine r_pv rfl rfl (pv_move rfl) ?_
   refine r_pv rfl rfl (pv_assign rfl) ?_
   refine r_nil ?_
   refine p_then ?_
   refine r_seq ?_
   refine r_region ?_
   refine r_pv rfl rfl (pv_move rfl) ?_
   refine r_pv rfl rfl (pv_add (z := 3) rfl rfl (w64 (by decide))) ?_
   refine r_pv rfl rfl (pv_rem (z := 0) rfl rfl (by decide) (by decide)) ?_
   refine r_pv rfl rfl (pv_move rfl) ?_
   refine r_pv rfl rfl (pv_add (z := 4) rfl rfl (w64 (by decide))) ?_
   refine r_pv rfl rfl (pv_rem (z := 1) rfl rfl (by decide) (by decide)) ?_
   refine r_pv rfl rfl (pv_assign rfl) ?_
   refine r_pv rfl rfl (pv_assign rfl) ?_
   refine r_nil ?_
   refine p_then ?_
   refine r_draw (OW := [boxA b3 44 [.int .i64 ((s).1 + (((qby - qay) * (qcz - qaz)) - ((qbz - qaz) * (qcy - qay)))), .int .i64 ((s).2.1 + (((qbz - qaz) * (qcx - qax)) - ((qbx - qax) * (qcz - qaz)))), .int .i64 ((s).2.2)]]) (O := [boxA bn27n1 44 [.int .i64 (qcx - qax), .int .i64 (qcy - qay), .int .i64 (qcz - qaz)], boxA bn26n1 44 [.int .i64 (qbx - qax), .int .i64 (qby - qay), .int .i64 (qbz - qaz)], boxA b8 44 [.int .i64 ((F.getD i (0, 0, 0)).1), .int .i64 ((F.getD i (0, 0, 0)).2.1), .int .i64 ((F.getD i (0, 0, 0)).2.2)], boxA b2 44 [.int .i64 0, .int .i64 0, .int .i64 0], boxA b1 25 [.slice pv nv cv, .slice pf nf cf]]) 20 mixed (.block (.then (.then (.block (.block (.then (.then (.block (.then .ret))))))))) (by kernel_rfl) ?_
   refine d_pv 0 rfl rfl (by kernel_rfl) (by kernel_rfl) rfl rfl (pv_move rfl) ?_
   refine d_pv 1 rfl rfl (by kernel_rfl) (by kernel_rfl) rfl rfl (pv_indexAddr_arr (i := 2) Try.underlying44 sz3 rfl rfl (by decide) rfl) ?_
   refine d_uw 2 rfl rfl (by kernel_rfl) (by kernel_rfl) (by kernel_rfl) rfl rfl (vl_load_box_one 0 ty3 rfl rfl rfl) ?_
   refine d_pv 3 rfl rfl (by kernel_rfl) (by kernel_rfl) rfl rfl (pv_move rfl) ?_
   refine d_pv 4 rfl rfl (by kernel_rfl) (by kernel_rfl) rfl rfl (pv_indexAddr_arr (i := 0) Try.underlying44 sz3 rfl rfl (by decide) rfl) ?_
   refine d_uw 5 rfl rfl (by kernel_rfl) (by kernel_rfl) (by kernel_rfl) rfl rfl (vl_load_box_one 2 ty3 rfl rfl rfl) ?_
   refine d_pv 6 rfl rfl (by kernel_rfl) (by kernel_rfl) rfl rfl (pv_move rfl) ?_
   refine d_pv 7 rfl rfl (by kernel_rfl) (by kernel_rfl) rfl rfl (pv_indexAddr_arr (i := 1) Try.underlying44 sz3 rfl rfl (by decide) rfl) ?_
   refine d_uw 8 rfl rfl (by kernel_rfl) (by kernel_rfl) (by kernel_rfl) rfl rfl (vl_load_box_one 1 ty3 rfl rfl rfl) ?_
   refine d_pv 9 rfl rfl (by kernel_rfl) (by kernel_rfl) rfl rfl (pv_mul (z := ((qbx - qax) * (qcy - qay))) rfl rfl (w64 (by omega))) ?_
   refine d_pv 10 rfl rfl (by kernel_rfl) (by kernel_rfl) rfl rfl (pv_move rfl) ?_
   refine d_pv 11 rfl rfl (by kernel_rfl) (by kernel_rfl) rfl rfl (pv_indexAddr_arr (i := 1) Try.underlying44 sz3 rfl rfl (by decide) rfl) ?_
   refine d_uw 12 rfl rfl (by kernel_rfl) (by kernel_rfl) (by kernel_rfl) rfl rfl (vl_load_box_one 2 ty3 rfl rfl rfl) ?_
   refine d_pv 13 rfl rfl (by kernel_rfl) (by kernel_rfl) rfl rfl (pv_move rfl) ?_
   refine d_pv 14 rfl rfl (by kernel_rfl) (by kernel_rfl) rfl rfl (pv_indexAddr_arr (i := 0) Try.underlying44 sz3 rfl rfl (by decide) rfl) ?_
   refine d_uw 15 rfl rfl (by kernel_rfl) (by kernel_rfl) (by kernel_rfl) rfl rfl (vl_load_box_one 1 ty3 rfl rfl rfl) ?_
   refine d_pv 16 rfl rfl (by kernel_rfl) (by kernel_rfl) rfl rfl (pv_mul (z := ((qby - qay) * (qcx - qax))) rfl rfl (w64 (by omega))) ?_
   refine d_pv 17 rfl rfl (by kernel_rfl) (by kernel_rfl) rfl rfl (pv_sub (z := (((qbx - qax) * (qcy - qay)) - ((qby - qay) * (qcx - qax)))) rfl rfl (w64 (by omega))) ?_
   refine d_pv 18 rfl rfl (by kernel_rfl) (by kernel_rfl) rfl rfl (pv_add (z := ((s).2.2 + (((qbx - qax) * (qcy - qay)) - ((qby - qay) * (qcx - qax))))) rfl rfl (w64 (by omega))) ?_
   refine d_pv 19 rfl rfl (by kernel_rfl) (by kernel_rfl) rfl rfl (pv_indexAddr_arr (i := 2) Try.underlying44 sz3 rfl rfl (by decide) rfl) ?_
   refine d_one 20 (by kernel_rfl) (o_store_box (by kernel_rfl) rfl rfl rfl rfl rfl sz3 rfl (.skip (.skip (.take .nil))) ?_)
   refine d_done (by kernel_rfl) ?_
   refine p_block ?_
   refine p_then ?_
   refine r_region ?_
   refine r_pv rfl rfl (pv_add (z := 3) rfl rfl (w64 (by decide))) ?_
   refine r_pv rfl rfl (pv_move rfl) ?_
   refine r_nil ?_
   refine p_again ?_
   refine u_round ?_
   refine r_seq ?_
   refine r_region ?_
   refine r_pv rfl rfl (pv_lss rfl rfl) ?_
   refine r_nil ?_
   refine p_then ?_
   refine r_seq ?_
   refine r_cond_f rfl rfl ?_
   refine r_exit ?_
   refine p_then_exit ?_
   refine p_then_exit ?_
   refine p_block_here ?_
   refine p_block ?_
   refine p_then ?_
   refine r_region ?_
   refine r_pv rfl rfl (pv_add (z := (((i + 1) : Nat) : Int)) rfl rfl (w64 (by omega))) ?_
   refine r_pv rfl rfl (pv_move rfl) ?_
   refine r_nil ?_
   refine p_next ((i + 1), (((s).1 + (((qby - qay) * (qcz - qaz)) - ((qbz - qaz) * (qcy - qay)))), ((s).2.1 + (((qbz - qaz) * (qcx - qax)) - ((qbx - qax) * (qcz - qaz)))), ((s).2.2 + (((qbx - qax) * (qcy - qay)) - ((qby - qay) * (qcx - qax)))))) (show (i + 1) ≤ nf ∧ (((s).1 + (((qby - qay) * (qcz - qaz)) - ((qbz - qaz) * (qcy - qay)))), ((s).2.1 + (((qbz - qaz) * (qcx - qax)) - ((qbx - qax) * (qcz - qaz)))), ((s).2.2 + (((qbx - qax) * (qcy - qay)) - ((qby - qay) * (qcx - qax))))) = Ms.vecS V (F.take (i + 1)) ∧ (-(8796093022208 * ((i + 1) : Int)) ≤ (((s).1 + (((qby - qay) * (qcz - qaz)) - ((qbz - qaz) * (qcy - qay)))), ((s).2.1 + (((qbz - qaz) * (qcx - qax)) - ((qbx - qax) * (qcz - qaz)))), ((s).2.2 + (((qbx - qax) * (qcy - qay)) - ((qby - qay) * (qcx - qax))))).1 ∧ (((s).1 + (((qby - qay) * (qcz - qaz)) - ((qbz - qaz) * (qcy - qay)))), ((s).2.1 + (((qbz - qaz) * (qcx - qax)) - ((qbx - qax) * (qcz - qaz)))), ((s).2.2 + (((qbx - qax) * (qcy - qay)) - ((qby - qay) * (qcx - qax))))).1 ≤ 8796093022208 * ((i + 1) : Int)) ∧ (-(8796093022208 * ((i + 1) : Int)) ≤ (((s).1 + (((qby - qay) * (qcz - qaz)) - ((qbz - qaz) * (qcy - qay)))), ((s).2.1 + (((qbz - qaz) * (qcx - qax)) - ((qbx - qax) * (qcz - qaz)))), ((s).2.2 + (((qbx - qax) * (qcy - qay)) - ((qby - qay) * (qcx - qax))))).2.1 ∧ (((s).1 + (((qby - qay) * (qcz - qaz)) - ((qbz - qaz) * (qcy - qay)))), ((s).2.1 + (((qbz - qaz) * (qcx - qax)) - ((qbx - qax) * (qcz - qaz)))), ((s).2.2 + (((qbx - qax) * (qcy - qay)) - ((qby - qay) * (qcx - qax))))).2.1 ≤ 8796093022208 * ((i + 1) : Int)) ∧ (-(8796093022208 * ((i + 1) : Int)) ≤ (((s).1 + (((qby - qay) * (qcz - qaz)) - ((qbz - qaz) * (qcy - qay)))), ((s).2.1 + (((qbz - qaz) * (qcx - qax)) - ((qbx - qax) * (qcz - qaz)))), ((s).2.2 + (((qbx - qax) * (qcy - qay)) - ((qby - qay) * (qcx - qax))))).2.2 ∧ (((s).1 + (((qby - qay) * (qcz - qaz)) - ((qbz - qaz) * (qcy - qay)))), ((s).2.1 + (((qbz - qaz) * (qcx - qax)) - ((qbx - qax) * (qcz - qaz)))), ((s).2.2 + (((qbx - qax) * (qcy - qay)) - ((qby - qay) * (qcx - qax))))).2.2 ≤ 8796093022208 * ((i + 1) : Int)) from by subst hqax hqay hqaz hqbx hqby hqbz hqcx hqcy hqcz; exact ⟨by omega, by rw [Ms.vecS_take (by omega), ← hs]; simp [Ms.nrm, Ms.cross, Ms.sub, Ms.pt], by dsimp only; omega, by dsimp only; omega, by dsimp only; omega⟩) (by show nf - (i + 1) < nf - i; omega) ((.of rfl) : SubM _ _) (ho := ((.e (i := 0) rfl (by first | rfl | (congr 1; omega) | simp_all) (.of [3, 3] rfl)) : PickO _ _ _)) ((.of [5, 6] rfl) : SelR _ _ _)
  refine d_join (X := Nat × Nat) (k' := 1) (L' := #[true, true, true, true, true, true, true, true, true, true, true, true, true, true, true, true, true, true, true, true, true, true, true, true, true, true, true, true, true, false]) (fun (bn26n1, bn27n1) => ([(7, .pointer (some ⟨bn27n1, 0, none⟩)), (6, .pointer (some ⟨bn26n1, 0, none⟩)), (44, .agg #[.int .i64 (qcx - qax), .int .i64 (qcy - qay), .int .i64 (qcz - qaz)]), (31, .agg #[.int .i64 (qbx - qax), .int .i64 (qby - qay), .int .i64 (qbz - qaz)]), (43, .agg #[.int .i64 qax, .int .i64 qay, .int .i64 qaz]), (42, .pointer (some ⟨b18, o19, none⟩)), (41, .int .i64 ((F.getD i (0, 0, 0)).1)), (40, .pointer (some ⟨b8, 0, none⟩)), (39, .slice pv nv cv), (38, .pointer (some ⟨b1, 0, none⟩)), (37, .agg #[.int .i64 qcx, .int .i64 qcy, .int .i64 qcz]), (36, .pointer (some ⟨b15, o16, none⟩)), (35, .int .i64 ((F.getD i (0, 0, 0)).2.2)), (34, .pointer (some ⟨b8, 2, none⟩)), (33, .slice pv nv cv), (32, .pointer (some ⟨b1, 0, none⟩)), (30, .agg #[.int .i64 qax, .int .i64 qay, .int .i64 qaz]), (29, .pointer (some ⟨b12, o13, none⟩)), (28, .int .i64 ((F.getD i (0, 0, 0)).1)), (27, .pointer (some ⟨b8, 0, none⟩)), (26, .slice pv nv cv), (25, .pointer (some ⟨b1, 0, none⟩)), (24, .agg #[.int .i64 qbx, .int .i64 qby, .int .i64 qbz]), (23, .pointer (some ⟨b9, o10, none⟩)), (22, .int .i64 ((F.getD i (0, 0, 0)).2.1)), (21, .pointer (some ⟨b8, 1, none⟩)), (20, .slice pv nv cv), (19, .pointer (some ⟨b1, 0, none⟩)), (5, .pointer (some ⟨b8, 0, none⟩)), (18, .agg #[.int .i64 ((F.getD i (0, 0, 0)).1), .int .i64 ((F.getD i (0, 0, 0)).2.1), .int .i64 ((F.getD i (0, 0, 0)).2.2)]), (17, .pointer (some ⟨b5, o6, none⟩)), (16, .bool (decide (((i : Nat) : Int) < ((nf : Nat) : Int)))), (15, .int .i64 ((i : Nat) : Int)), (14, .int .i64 ((nf : Nat) : Int)), (13, .slice pf nf cf), (3, .pointer (some ⟨b3, 0, none⟩)), (2, .pointer (some ⟨b2, 0, none⟩)), (1, .pointer (some ⟨b1, 0, none⟩))], [boxA bn26n1 44 [.int .i64 (qbx - qax), .int .i64 (qby - qay), .int .i64 (qbz - qaz)], boxA bn27n1 44 [.int .i64 0, .int .i64 0, .int .i64 0]], [boxA b8 44 [.int .i64 ((F.getD i (0, 0, 0)).1), .int .i64 ((F.getD i (0, 0, 0)).2.1), .int .i64 ((F.getD i (0, 0, 0)).2.2)], boxA b3 44 [.int .i64 ((s).1), .int .i64 ((s).2.1), .int .i64 ((s).2.2)], boxA b2 44 [.int .i64 0, .int .i64 0, .int .i64 0], boxA b1 25 [.slice pv nv cv, .slice pf nf cf]], [atF b18 o19 [.int .i64 qax, .int .i64 qay, .int .i64 qaz], atF b15 o16 [.int .i64 qcx, .int .i64 qcy, .int .i64 qcz], atF b12 o13 [.int .i64 qax, .int .i64 qay, .int .i64 qaz], atF b9 o10 [.int .i64 qbx, .int .i64 qby, .int .i64 qbz], atF b5 o6 [.int .i64 ((F.getD i (0, 0, 0)).1), .int .i64 ((F.getD i (0, 0, 0)).2.1), .int .i64 ((F.getD i (0, 0, 0)).2.2)], slF (rI3 .i64) pv cv V, slF (rI3 .i64) pf cf F])) ?_ (fun hD1 => ?_)
  ·
   rintro ⟨bn26n1, bn27n1⟩
   dsimp only
   refine d_one 29 (by kernel_rfl) ?_
   ·
    refine o_permW (perm_front (i := 1) rfl) ?_
    refine o_store_box (by kernel_rfl) rfl rfl rfl rfl rfl sz44 rfl (.take (.take (.take .nil))) ?_
    exact d_weakT (hD0 (bn26n1, bn27n1)) (by kernel_rfl) ((.of rfl) : SubM _ _) .rfl .rfl ((.of [0, 1, 2, 3, 4, 5, 6] rfl) : SelR _ _ _)
  refine d_join (X := Nat × Nat) (k' := 2) (L' := #[true, true, true, true, true, true, true, true, true, true, true, true, true, true, true, true, true, true, true, true, true, true, true, true, true, true, true, true, false, false]) (fun (bn26n1, bn27n1) => ([(7, .pointer (some ⟨bn27n1, 0, none⟩)), (6, .pointer (some ⟨bn26n1, 0, none⟩)), (44, .agg #[.int .i64 (qcx - qax), .int .i64 (qcy - qay), .int .i64 (qcz - qaz)]), (31, .agg #[.int .i64 (qbx - qax), .int .i64 (qby - qay), .int .i64 (qbz - qaz)]), (43, .agg #[.int .i64 qax, .int .i64 qay, .int .i64 qaz]), (42, .pointer (some ⟨b18, o19, none⟩)), (41, .int .i64 ((F.getD i (0, 0, 0)).1)), (40, .pointer (some ⟨b8, 0, none⟩)), (39, .slice pv nv cv), (38, .pointer (some ⟨b1, 0, none⟩)), (37, .agg #[.int .i64 qcx, .int .i64 qcy, .int .i64 qcz]), (36, .pointer (some ⟨b15, o16, none⟩)), (35, .int .i64 ((F.getD i (0, 0, 0)).2.2)), (34, .pointer (some ⟨b8, 2, none⟩)), (33, .slice pv nv cv), (32, .pointer (some ⟨b1, 0, none⟩)), (30, .agg #[.int .i64 qax, .int .i64 qay, .int .i64 qaz]), (29, .pointer (some ⟨b12, o13, none⟩)), (28, .int .i64 ((F.getD i (0, 0, 0)).1)), (27, .pointer (some ⟨b8, 0, none⟩)), (26, .slice pv nv cv), (25, .pointer (some ⟨b1, 0, none⟩)), (24, .agg #[.int .i64 qbx, .int .i64 qby, .int .i64 qbz]), (23, .pointer (some ⟨b9, o10, none⟩)), (22, .int .i64 ((F.getD i (0, 0, 0)).2.1)), (21, .pointer (some ⟨b8, 1, none⟩)), (20, .slice pv nv cv), (19, .pointer (some ⟨b1, 0, none⟩)), (5, .pointer (some ⟨b8, 0, none⟩)), (18, .agg #[.int .i64 ((F.getD i (0, 0, 0)).1), .int .i64 ((F.getD i (0, 0, 0)).2.1), .int .i64 ((F.getD i (0, 0, 0)).2.2)]), (17, .pointer (some ⟨b5, o6, none⟩)), (16, .bool (decide (((i : Nat) : Int) < ((nf : Nat) : Int)))), (15, .int .i64 ((i : Nat) : Int)), (14, .int .i64 ((nf : Nat) : Int)), (13, .slice pf nf cf), (3, .pointer (some ⟨b3, 0, none⟩)), (2, .pointer (some ⟨b2, 0, none⟩)), (1, .pointer (some ⟨b1, 0, none⟩))], [boxA bn27n1 44 [.int .i64 0, .int .i64 0, .int .i64 0], boxA bn26n1 44 [.int .i64 0, .int .i64 0, .int .i64 0]], [boxA b8 44 [.int .i64 ((F.getD i (0, 0, 0)).1), .int .i64 ((F.getD i (0, 0, 0)).2.1), .int .i64 ((F.getD i (0, 0, 0)).2.2)], boxA b3 44 [.int .i64 ((s).1), .int .i64 ((s).2.1), .int .i64 ((s).2.2)], boxA b2 44 [.int .i64 0, .int .i64 0, .int .i64 0], boxA b1 25 [.slice pv nv cv, .slice pf nf cf]], [atF b18 o19 [.int .i64 qax, .int .i64 qay, .int .i64 qaz], atF b15 o16 [.int .i64 qcx, .int .i64 qcy, .int .i64 qcz], atF b12 o13 [.int .i64 qax, .int .i64 qay, .int .i64 qaz], atF b9 o10 [.int .i64 qbx, .int .i64 qby, .int .i64 qbz], atF b5 o6 [.int .i64 ((F.getD i (0, 0, 0)).1), .int .i64 ((F.getD i (0, 0, 0)).2.1), .int .i64 ((F.getD i (0, 0, 0)).2.2)], slF (rI3 .i64) pv cv V, slF (rI3 .i64) pf cf F])) ?_ (fun hD2 => ?_)
  ·
   rintro ⟨bn26n1, bn27n1⟩
   dsimp only
   refine d_one 28 (by kernel_rfl) ?_
   ·
    refine o_permW (perm_front (i := 1) rfl) ?_
    refine o_store_box (by kernel_rfl) rfl rfl rfl rfl rfl sz44 rfl (.take (.take (.take .nil))) ?_
    exact d_weakT (hD1 (bn26n1, bn27n1)) (by kernel_rfl) ((.of rfl) : SubM _ _) .rfl .rfl ((.of [0, 1, 2, 3, 4, 5, 6] rfl) : SelR _ _ _)
  refine d_join (X := Nat) (k' := 3) (L' := #[true, true, true, true, true, true, true, true, true, true, true, true, true, true, true, true, true, true, true, true, true, true, true, true, true, true, true, false, false, false]) (fun bn26n1 => ([(6, .pointer (some ⟨bn26n1, 0, none⟩)), (44, .agg #[.int .i64 (qcx - qax), .int .i64 (qcy - qay), .int .i64 (qcz - qaz)]), (31, .agg #[.int .i64 (qbx - qax), .int .i64 (qby - qay), .int .i64 (qbz - qaz)]), (43, .agg #[.int .i64 qax, .int .i64 qay, .int .i64 qaz]), (42, .pointer (some ⟨b18, o19, none⟩)), (41, .int .i64 ((F.getD i (0, 0, 0)).1)), (40, .pointer (some ⟨b8, 0, none⟩)), (39, .slice pv nv cv), (38, .pointer (some ⟨b1, 0, none⟩)), (37, .agg #[.int .i64 qcx, .int .i64 qcy, .int .i64 qcz]), (36, .pointer (some ⟨b15, o16, none⟩)), (35, .int .i64 ((F.getD i (0, 0, 0)).2.2)), (34, .pointer (some ⟨b8, 2, none⟩)), (33, .slice pv nv cv), (32, .pointer (some ⟨b1, 0, none⟩)), (30, .agg #[.int .i64 qax, .int .i64 qay, .int .i64 qaz]), (29, .pointer (some ⟨b12, o13, none⟩)), (28, .int .i64 ((F.getD i (0, 0, 0)).1)), (27, .pointer (some ⟨b8, 0, none⟩)), (26, .slice pv nv cv), (25, .pointer (some ⟨b1, 0, none⟩)), (24, .agg #[.int .i64 qbx, .int .i64 qby, .int .i64 qbz]), (23, .pointer (some ⟨b9, o10, none⟩)), (22, .int .i64 ((F.getD i (0, 0, 0)).2.1)), (21, .pointer (some ⟨b8, 1, none⟩)), (20, .slice pv nv cv), (19, .pointer (some ⟨b1, 0, none⟩)), (5, .pointer (some ⟨b8, 0, none⟩)), (18, .agg #[.int .i64 ((F.getD i (0, 0, 0)).1), .int .i64 ((F.getD i (0, 0, 0)).2.1), .int .i64 ((F.getD i (0, 0, 0)).2.2)]), (17, .pointer (some ⟨b5, o6, none⟩)), (16, .bool (decide (((i : Nat) : Int) < ((nf : Nat) : Int)))), (15, .int .i64 ((i : Nat) : Int)), (14, .int .i64 ((nf : Nat) : Int)), (13, .slice pf nf cf), (3, .pointer (some ⟨b3, 0, none⟩)), (2, .pointer (some ⟨b2, 0, none⟩)), (1, .pointer (some ⟨b1, 0, none⟩))], [boxA bn26n1 44 [.int .i64 0, .int .i64 0, .int .i64 0]], [boxA b8 44 [.int .i64 ((F.getD i (0, 0, 0)).1), .int .i64 ((F.getD i (0, 0, 0)).2.1), .int .i64 ((F.getD i (0, 0, 0)).2.2)], boxA b3 44 [.int .i64 ((s).1), .int .i64 ((s).2.1), .int .i64 ((s).2.2)], boxA b2 44 [.int .i64 0, .int .i64 0, .int .i64 0], boxA b1 25 [.slice pv nv cv, .slice pf nf cf]], [atF b18 o19 [.int .i64 qax, .int .i64 qay, .int .i64 qaz], atF b15 o16 [.int .i64 qcx, .int .i64 qcy, .int .i64 qcz], atF b12 o13 [.int .i64 qax, .int .i64 qay, .int .i64 qaz], atF b9 o10 [.int .i64 qbx, .int .i64 qby, .int .i64 qbz], atF b5 o6 [.int .i64 ((F.getD i (0, 0, 0)).1), .int .i64 ((F.getD i (0, 0, 0)).2.1), .int .i64 ((F.getD i (0, 0, 0)).2.2)], slF (rI3 .i64) pv cv V, slF (rI3 .i64) pf cf F])) ?_ (fun hD3 => ?_)
  ·
   rintro bn26n1
   dsimp only
   refine d_one 27 (by kernel_rfl) ?_
   ·
    refine o_ef0W rfl rfl rfl rfl (ef_alloc zr44 rfl) (fun bn27n1 _ => ?_)
    exact d_weakT (hD2 (bn26n1, bn27n1)) (by kernel_rfl) ((.of rfl) : SubM _ _) .rfl .rfl ((.of [0, 1, 2, 3, 4, 5, 6] rfl) : SelR _ _ _)
  refine d_join (X := Nat) (k' := 3) (L' := #[true, true, true, true, true, true, true, true, true, true, true, true, true, true, true, true, true, true, true, true, true, true, true, true, true, true, false, true, false, false]) (fun bn27n1 => ([(7, .pointer (some ⟨bn27n1, 0, none⟩)), (44, .agg #[.int .i64 (qcx - qax), .int .i64 (qcy - qay), .int .i64 (qcz - qaz)]), (31, .agg #[.int .i64 (qbx - qax), .int .i64 (qby - qay), .int .i64 (qbz - qaz)]), (43, .agg #[.int .i64 qax, .int .i64 qay, .int .i64 qaz]), (42, .pointer (some ⟨b18, o19, none⟩)), (41, .int .i64 ((F.getD i (0, 0, 0)).1)), (40, .pointer (some ⟨b8, 0, none⟩)), (39, .slice pv nv cv), (38, .pointer (some ⟨b1, 0, none⟩)), (37, .agg #[.int .i64 qcx, .int .i64 qcy, .int .i64 qcz]), (36, .pointer (some ⟨b15, o16, none⟩)), (35, .int .i64 ((F.getD i (0, 0, 0)).2.2)), (34, .pointer (some ⟨b8, 2, none⟩)), (33, .slice pv nv cv), (32, .pointer (some ⟨b1, 0, none⟩)), (30, .agg #[.int .i64 qax, .int .i64 qay, .int .i64 qaz]), (29, .pointer (some ⟨b12, o13, none⟩)), (28, .int .i64 ((F.getD i (0, 0, 0)).1)), (27, .pointer (some ⟨b8, 0, none⟩)), (26, .slice pv nv cv), (25, .pointer (some ⟨b1, 0, none⟩)), (24, .agg #[.int .i64 qbx, .int .i64 qby, .int .i64 qbz]), (23, .pointer (some ⟨b9, o10, none⟩)), (22, .int .i64 ((F.getD i (0, 0, 0)).2.1)), (21, .pointer (some ⟨b8, 1, none⟩)), (20, .slice pv nv cv), (19, .pointer (some ⟨b1, 0, none⟩)), (5, .pointer (some ⟨b8, 0, none⟩)), (18, .agg #[.int .i64 ((F.getD i (0, 0, 0)).1), .int .i64 ((F.getD i (0, 0, 0)).2.1), .int .i64 ((F.getD i (0, 0, 0)).2.2)]), (17, .pointer (some ⟨b5, o6, none⟩)), (16, .bool (decide (((i : Nat) : Int) < ((nf : Nat) : Int)))), (15, .int .i64 ((i : Nat) : Int)), (14, .int .i64 ((nf : Nat) : Int)), (13, .slice pf nf cf), (3, .pointer (some ⟨b3, 0, none⟩)), (2, .pointer (some ⟨b2, 0, none⟩)), (1, .pointer (some ⟨b1, 0, none⟩))], [boxA bn27n1 44 [.int .i64 0, .int .i64 0, .int .i64 0]], [boxA b8 44 [.int .i64 ((F.getD i (0, 0, 0)).1), .int .i64 ((F.getD i (0, 0, 0)).2.1), .int .i64 ((F.getD i (0, 0, 0)).2.2)], boxA b3 44 [.int .i64 ((s).1), .int .i64 ((s).2.1), .int .i64 ((s).2.2)], boxA b2 44 [.int .i64 0, .int .i64 0, .int .i64 0], boxA b1 25 [.slice pv nv cv, .slice pf nf cf]], [atF b18 o19 [.int .i64 qax, .int .i64 qay, .int .i64 qaz], atF b15 o16 [.int .i64 qcx, .int .i64 qcy, .int .i64 qcz], atF b12 o13 [.int .i64 qax, .int .i64 qay, .int .i64 qaz], atF b9 o10 [.int .i64 qbx, .int .i64 qby, .int .i64 qbz], atF b5 o6 [.int .i64 ((F.getD i (0, 0, 0)).1), .int .i64 ((F.getD i (0, 0, 0)).2.1), .int .i64 ((F.getD i (0, 0, 0)).2.2)], slF (rI3 .i64) pv cv V, slF (rI3 .i64) pf cf F])) ?_ (fun hD4 => ?_)
  ·
   rintro bn27n1
   dsimp only
   refine d_one 26 (by kernel_rfl) ?_
   ·
    refine o_ef0W rfl rfl rfl rfl (ef_alloc zr44 rfl) (fun bn26n1 _ => ?_)
    exact d_weakT (hD2 (bn26n1, bn27n1)) (by kernel_rfl) ((.of rfl) : SubM _ _) (perm_c 1 rfl (perm_c 0 rfl .nil)) .rfl ((.of [0, 1, 2, 3, 4, 5, 6] rfl) : SelR _ _ _)
  refine d_join (X := Nat × Nat) (k' := 3) (L' := #[true, true, true, true, true, true, true, true, true, true, true, true, true, true, true, true, true, true, true, true, true, true, true, true, true, false, true, true, false, false]) (fun (bn26n1, bn27n1) => ([(7, .pointer (some ⟨bn27n1, 0, none⟩)), (6, .pointer (some ⟨bn26n1, 0, none⟩)), (31, .agg #[.int .i64 (qbx - qax), .int .i64 (qby - qay), .int .i64 (qbz - qaz)]), (43, .agg #[.int .i64 qax, .int .i64 qay, .int .i64 qaz]), (42, .pointer (some ⟨b18, o19, none⟩)), (41, .int .i64 ((F.getD i (0, 0, 0)).1)), (40, .pointer (some ⟨b8, 0, none⟩)), (39, .slice pv nv cv), (38, .pointer (some ⟨b1, 0, none⟩)), (37, .agg #[.int .i64 qcx, .int .i64 qcy, .int .i64 qcz]), (36, .pointer (some ⟨b15, o16, none⟩)), (35, .int .i64 ((F.getD i (0, 0, 0)).2.2)), (34, .pointer (some ⟨b8, 2, none⟩)), (33, .slice pv nv cv), (32, .pointer (some ⟨b1, 0, none⟩)), (30, .agg #[.int .i64 qax, .int .i64 qay, .int .i64 qaz]), (29, .pointer (some ⟨b12, o13, none⟩)), (28, .int .i64 ((F.getD i (0, 0, 0)).1)), (27, .pointer (some ⟨b8, 0, none⟩)), (26, .slice pv nv cv), (25, .pointer (some ⟨b1, 0, none⟩)), (24, .agg #[.int .i64 qbx, .int .i64 qby, .int .i64 qbz]), (23, .pointer (some ⟨b9, o10, none⟩)), (22, .int .i64 ((F.getD i (0, 0, 0)).2.1)), (21, .pointer (some ⟨b8, 1, none⟩)), (20, .slice pv nv cv), (19, .pointer (some ⟨b1, 0, none⟩)), (5, .pointer (some ⟨b8, 0, none⟩)), (18, .agg #[.int .i64 ((F.getD i (0, 0, 0)).1), .int .i64 ((F.getD i (0, 0, 0)).2.1), .int .i64 ((F.getD i (0, 0, 0)).2.2)]), (17, .pointer (some ⟨b5, o6, none⟩)), (16, .bool (decide (((i : Nat) : Int) < ((nf : Nat) : Int)))), (15, .int .i64 ((i : Nat) : Int)), (14, .int .i64 ((nf : Nat) : Int)), (13, .slice pf nf cf), (3, .pointer (some ⟨b3, 0, none⟩)), (2, .pointer (some ⟨b2, 0, none⟩)), (1, .pointer (some ⟨b1, 0, none⟩))], [boxA bn27n1 44 [.int .i64 0, .int .i64 0, .int .i64 0], boxA bn26n1 44 [.int .i64 0, .int .i64 0, .int .i64 0]], [boxA b8 44 [.int .i64 ((F.getD i (0, 0, 0)).1), .int .i64 ((F.getD i (0, 0, 0)).2.1), .int .i64 ((F.getD i (0, 0, 0)).2.2)], boxA b3 44 [.int .i64 ((s).1), .int .i64 ((s).2.1), .int .i64 ((s).2.2)], boxA b2 44 [.int .i64 0, .int .i64 0, .int .i64 0], boxA b1 25 [.slice pv nv cv, .slice pf nf cf]], [atF b18 o19 [.int .i64 qax, .int .i64 qay, .int .i64 qaz], atF b15 o16 [.int .i64 qcx, .int .i64 qcy, .int .i64 qcz], atF b12 o13 [.int .i64 qax, .int .i64 qay, .int .i64 qaz], atF b9 o10 [.int .i64 qbx, .int .i64 qby, .int .i64 qbz], atF b5 o6 [.int .i64 ((F.getD i (0, 0, 0)).1), .int .i64 ((F.getD i (0, 0, 0)).2.1), .int .i64 ((F.getD i (0, 0, 0)).2.2)], slF (rI3 .i64) pv cv V, slF (rI3 .i64) pf cf F])) ?_ (fun hD5 => ?_)
  ·
   rintro ⟨bn26n1, bn27n1⟩
   dsimp only
   refine d_one 25 (by kernel_rfl) ?_
   ·
    refine o_call1 rfl rfl rfl rfl (.c rfl (.c rfl .n)) ce64 (con_less (ex := qcx) (ey := qcy) (ez := qcz) (fx := qax) (fy := qay) (fz := qaz) (hbex := by first | rfl | assumption | omega | (simp; done) | (simp; omega) | (simp_all; done)) (hbey := by first | rfl | assumption | omega | (simp; done) | (simp; omega) | (simp_all; done)) (hbez := by first | rfl | assumption | omega | (simp; done) | (simp; omega) | (simp_all; done)) (hbfx := by first | rfl | assumption | omega | (simp; done) | (simp; omega) | (simp_all; done)) (hbfy := by first | rfl | assumption | omega | (simp; done) | (simp; omega) | (simp_all; done)) (hbfz := by first | rfl | assumption | omega | (simp; done) | (simp; omega) | (simp_all; done))) (.n) ?_
    exact d_weakT (hD2 (bn26n1, bn27n1)) (by kernel_rfl) ((.of rfl) : SubM _ _) .rfl .rfl ((.of [0, 1, 2, 3, 4, 5, 6] rfl) : SelR _ _ _)
  refine d_join (X := Unit) (k' := 4) (L' := #[true, true, true, true, true, true, true, true, true, true, true, true, true, true, true, true, true, true, true, true, true, true, true, true, true, true, false, false, false, false]) (fun _ => ([(44, .agg #[.int .i64 (qcx - qax), .int .i64 (qcy - qay), .int .i64 (qcz - qaz)]), (31, .agg #[.int .i64 (qbx - qax), .int .i64 (qby - qay), .int .i64 (qbz - qaz)]), (43, .agg #[.int .i64 qax, .int .i64 qay, .int .i64 qaz]), (42, .pointer (some ⟨b18, o19, none⟩)), (41, .int .i64 ((F.getD i (0, 0, 0)).1)), (40, .pointer (some ⟨b8, 0, none⟩)), (39, .slice pv nv cv), (38, .pointer (some ⟨b1, 0, none⟩)), (37, .agg #[.int .i64 qcx, .int .i64 qcy, .int .i64 qcz]), (36, .pointer (some ⟨b15, o16, none⟩)), (35, .int .i64 ((F.getD i (0, 0, 0)).2.2)), (34, .pointer (some ⟨b8, 2, none⟩)), (33, .slice pv nv cv), (32, .pointer (some ⟨b1, 0, none⟩)), (30, .agg #[.int .i64 qax, .int .i64 qay, .int .i64 qaz]), (29, .pointer (some ⟨b12, o13, none⟩)), (28, .int .i64 ((F.getD i (0, 0, 0)).1)), (27, .pointer (some ⟨b8, 0, none⟩)), (26, .slice pv nv cv), (25, .pointer (some ⟨b1, 0, none⟩)), (24, .agg #[.int .i64 qbx, .int .i64 qby, .int .i64 qbz]), (23, .pointer (some ⟨b9, o10, none⟩)), (22, .int .i64 ((F.getD i (0, 0, 0)).2.1)), (21, .pointer (some ⟨b8, 1, none⟩)), (20, .slice pv nv cv), (19, .pointer (some ⟨b1, 0, none⟩)), (5, .pointer (some ⟨b8, 0, none⟩)), (18, .agg #[.int .i64 ((F.getD i (0, 0, 0)).1), .int .i64 ((F.getD i (0, 0, 0)).2.1), .int .i64 ((F.getD i (0, 0, 0)).2.2)]), (17, .pointer (some ⟨b5, o6, none⟩)), (16, .bool (decide (((i : Nat) : Int) < ((nf : Nat) : Int)))), (15, .int .i64 ((i : Nat) : Int)), (14, .int .i64 ((nf : Nat) : Int)), (13, .slice pf nf cf), (3, .pointer (some ⟨b3, 0, none⟩)), (2, .pointer (some ⟨b2, 0, none⟩)), (1, .pointer (some ⟨b1, 0, none⟩))], [], [boxA b8 44 [.int .i64 ((F.getD i (0, 0, 0)).1), .int .i64 ((F.getD i (0, 0, 0)).2.1), .int .i64 ((F.getD i (0, 0, 0)).2.2)], boxA b3 44 [.int .i64 ((s).1), .int .i64 ((s).2.1), .int .i64 ((s).2.2)], boxA b2 44 [.int .i64 0, .int .i64 0, .int .i64 0], boxA b1 25 [.slice pv nv cv, .slice pf nf cf]], [atF b18 o19 [.int .i64 qax, .int .i64 qay, .int .i64 qaz], atF b15 o16 [.int .i64 qcx, .int .i64 qcy, .int .i64 qcz], atF b12 o13 [.int .i64 qax, .int .i64 qay, .int .i64 qaz], atF b9 o10 [.int .i64 qbx, .int .i64 qby, .int .i64 qbz], atF b5 o6 [.int .i64 ((F.getD i (0, 0, 0)).1), .int .i64 ((F.getD i (0, 0, 0)).2.1), .int .i64 ((F.getD i (0, 0, 0)).2.2)], slF (rI3 .i64) pv cv V, slF (rI3 .i64) pf cf F])) ?_ (fun hD6 => ?_)
  ·
   rintro ⟨⟩
   dsimp only
   refine d_two 26 27 (by kernel_rfl) ?_ ?_
   ·
    refine o_ef0W rfl rfl rfl rfl (ef_alloc zr44 rfl) (fun bn26n1 _ => ?_)
    exact d_weakT (hD3 bn26n1) (by kernel_rfl) ((.of rfl) : SubM _ _) .rfl .rfl ((.of [0, 1, 2, 3, 4, 5, 6] rfl) : SelR _ _ _)
   ·
    refine o_ef0W rfl rfl rfl rfl (ef_alloc zr44 rfl) (fun bn27n1 _ => ?_)
    exact d_weakT (hD4 bn27n1) (by kernel_rfl) ((.of rfl) : SubM _ _) .rfl .rfl ((.of [0, 1, 2, 3, 4, 5, 6] rfl) : SelR _ _ _)
  refine d_join (X := Nat) (k' := 4) (L' := #[true, true, true, true, true, true, true, true, true, true, true, true, true, true, true, true, true, true, true, true, true, true, true, true, true, false, true, false, false, false]) (fun bn26n1 => ([(6, .pointer (some ⟨bn26n1, 0, none⟩)), (31, .agg #[.int .i64 (qbx - qax), .int .i64 (qby - qay), .int .i64 (qbz - qaz)]), (43, .agg #[.int .i64 qax, .int .i64 qay, .int .i64 qaz]), (42, .pointer (some ⟨b18, o19, none⟩)), (41, .int .i64 ((F.getD i (0, 0, 0)).1)), (40, .pointer (some ⟨b8, 0, none⟩)), (39, .slice pv nv cv), (38, .pointer (some ⟨b1, 0, none⟩)), (37, .agg #[.int .i64 qcx, .int .i64 qcy, .int .i64 qcz]), (36, .pointer (some ⟨b15, o16, none⟩)), (35, .int .i64 ((F.getD i (0, 0, 0)).2.2)), (34, .pointer (some ⟨b8, 2, none⟩)), (33, .slice pv nv cv), (32, .pointer (some ⟨b1, 0, none⟩)), (30, .agg #[.int .i64 qax, .int .i64 qay, .int .i64 qaz]), (29, .pointer (some ⟨b12, o13, none⟩)), (28, .int .i64 ((F.getD i (0, 0, 0)).1)), (27, .pointer (some ⟨b8, 0, none⟩)), (26, .slice pv nv cv), (25, .pointer (some ⟨b1, 0, none⟩)), (24, .agg #[.int .i64 qbx, .int .i64 qby, .int .i64 qbz]), (23, .pointer (some ⟨b9, o10, none⟩)), (22, .int .i64 ((F.getD i (0, 0, 0)).2.1)), (21, .pointer (some ⟨b8, 1, none⟩)), (20, .slice pv nv cv), (19, .pointer (some ⟨b1, 0, none⟩)), (5, .pointer (some ⟨b8, 0, none⟩)), (18, .agg #[.int .i64 ((F.getD i (0, 0, 0)).1), .int .i64 ((F.getD i (0, 0, 0)).2.1), .int .i64 ((F.getD i (0, 0, 0)).2.2)]), (17, .pointer (some ⟨b5, o6, none⟩)), (16, .bool (decide (((i : Nat) : Int) < ((nf : Nat) : Int)))), (15, .int .i64 ((i : Nat) : Int)), (14, .int .i64 ((nf : Nat) : Int)), (13, .slice pf nf cf), (3, .pointer (some ⟨b3, 0, none⟩)), (2, .pointer (some ⟨b2, 0, none⟩)), (1, .pointer (some ⟨b1, 0, none⟩))], [boxA bn26n1 44 [.int .i64 0, .int .i64 0, .int .i64 0]], [boxA b8 44 [.int .i64 ((F.getD i (0, 0, 0)).1), .int .i64 ((F.getD i (0, 0, 0)).2.1), .int .i64 ((F.getD i (0, 0, 0)).2.2)], boxA b3 44 [.int .i64 ((s).1), .int .i64 ((s).2.1), .int .i64 ((s).2.2)], boxA b2 44 [.int .i64 0, .int .i64 0, .int .i64 0], boxA b1 25 [.slice pv nv cv, .slice pf nf cf]], [atF b18 o19 [.int .i64 qax, .int .i64 qay, .int .i64 qaz], atF b15 o16 [.int .i64 qcx, .int .i64 qcy, .int .i64 qcz], atF b12 o13 [.int .i64 qax, .int .i64 qay, .int .i64 qaz], atF b9 o10 [.int .i64 qbx, .int .i64 qby, .int .i64 qbz], atF b5 o6 [.int .i64 ((F.getD i (0, 0, 0)).1), .int .i64 ((F.getD i (0, 0, 0)).2.1), .int .i64 ((F.getD i (0, 0, 0)).2.2)], slF (rI3 .i64) pv cv V, slF (rI3 .i64) pf cf F])) ?_ (fun hD7 => ?_)
  ·
   rintro bn26n1
   dsimp only
   refine d_two 25 27 (by kernel_rfl) ?_ ?_
   ·
    refine o_call1 rfl rfl rfl rfl (.c rfl (.c rfl .n)) ce64 (con_less (ex := qcx) (ey := qcy) (ez := qcz) (fx := qax) (fy := qay) (fz := qaz) (hbex := by first | rfl | assumption | omega | (simp; done) | (simp; omega) | (simp_all; done)) (hbey := by first | rfl | assumption | omega | (simp; done) | (simp; omega) | (simp_all; done)) (hbez := by first | rfl | assumption | omega | (simp; done) | (simp; omega) | (simp_all; done)) (hbfx := by first | rfl | assumption | omega | (simp; done) | (simp; omega) | (simp_all; done)) (hbfy := by first | rfl | assumption | omega | (simp; done) | (simp; omega) | (simp_all; done)) (hbfz := by first | rfl | assumption | omega | (simp; done) | (simp; omega) | (simp_all; done))) (.n) ?_
    exact d_weakT (hD3 bn26n1) (by kernel_rfl) ((.of rfl) : SubM _ _) .rfl .rfl ((.of [0, 1, 2, 3, 4, 5, 6] rfl) : SelR _ _ _)
   ·
    refine o_ef0W rfl rfl rfl rfl (ef_alloc zr44 rfl) (fun bn27n1 _ => ?_)
    exact d_weakT (hD5 (bn26n1, bn27n1)) (by kernel_rfl) ((.of rfl) : SubM _ _) .rfl .rfl ((.of [0, 1, 2, 3, 4, 5, 6] rfl) : SelR _ _ _)
  refine d_join (X := Nat) (k' := 4) (L' := #[true, true, true, true, true, true, true, true, true, true, true, true, true, true, true, true, true, true, true, true, true, true, true, true, true, false, false, true, false, false]) (fun bn27n1 => ([(7, .pointer (some ⟨bn27n1, 0, none⟩)), (31, .agg #[.int .i64 (qbx - qax), .int .i64 (qby - qay), .int .i64 (qbz - qaz)]), (43, .agg #[.int .i64 qax, .int .i64 qay, .int .i64 qaz]), (42, .pointer (some ⟨b18, o19, none⟩)), (41, .int .i64 ((F.getD i (0, 0, 0)).1)), (40, .pointer (some ⟨b8, 0, none⟩)), (39, .slice pv nv cv), (38, .pointer (some ⟨b1, 0, none⟩)), (37, .agg #[.int .i64 qcx, .int .i64 qcy, .int .i64 qcz]), (36, .pointer (some ⟨b15, o16, none⟩)), (35, .int .i64 ((F.getD i (0, 0, 0)).2.2)), (34, .pointer (some ⟨b8, 2, none⟩)), (33, .slice pv nv cv), (32, .pointer (some ⟨b1, 0, none⟩)), (30, .agg #[.int .i64 qax, .int .i64 qay, .int .i64 qaz]), (29, .pointer (some ⟨b12, o13, none⟩)), (28, .int .i64 ((F.getD i (0, 0, 0)).1)), (27, .pointer (some ⟨b8, 0, none⟩)), (26, .slice pv nv cv), (25, .pointer (some ⟨b1, 0, none⟩)), (24, .agg #[.int .i64 qbx, .int .i64 qby, .int .i64 qbz]), (23, .pointer (some ⟨b9, o10, none⟩)), (22, .int .i64 ((F.getD i (0, 0, 0)).2.1)), (21, .pointer (some ⟨b8, 1, none⟩)), (20, .slice pv nv cv), (19, .pointer (some ⟨b1, 0, none⟩)), (5, .pointer (some ⟨b8, 0, none⟩)), (18, .agg #[.int .i64 ((F.getD i (0, 0, 0)).1), .int .i64 ((F.getD i (0, 0, 0)).2.1), .int .i64 ((F.getD i (0, 0, 0)).2.2)]), (17, .pointer (some ⟨b5, o6, none⟩)), (16, .bool (decide (((i : Nat) : Int) < ((nf : Nat) : Int)))), (15, .int .i64 ((i : Nat) : Int)), (14, .int .i64 ((nf : Nat) : Int)), (13, .slice pf nf cf), (3, .pointer (some ⟨b3, 0, none⟩)), (2, .pointer (some ⟨b2, 0, none⟩)), (1, .pointer (some ⟨b1, 0, none⟩))], [boxA bn27n1 44 [.int .i64 0, .int .i64 0, .int .i64 0]], [boxA b8 44 [.int .i64 ((F.getD i (0, 0, 0)).1), .int .i64 ((F.getD i (0, 0, 0)).2.1), .int .i64 ((F.getD i (0, 0, 0)).2.2)], boxA b3 44 [.int .i64 ((s).1), .int .i64 ((s).2.1), .int .i64 ((s).2.2)], boxA b2 44 [.int .i64 0, .int .i64 0, .int .i64 0], boxA b1 25 [.slice pv nv cv, .slice pf nf cf]], [atF b18 o19 [.int .i64 qax, .int .i64 qay, .int .i64 qaz], atF b15 o16 [.int .i64 qcx, .int .i64 qcy, .int .i64 qcz], atF b12 o13 [.int .i64 qax, .int .i64 qay, .int .i64 qaz], atF b9 o10 [.int .i64 qbx, .int .i64 qby, .int .i64 qbz], atF b5 o6 [.int .i64 ((F.getD i (0, 0, 0)).1), .int .i64 ((F.getD i (0, 0, 0)).2.1), .int .i64 ((F.getD i (0, 0, 0)).2.2)], slF (rI3 .i64) pv cv V, slF (rI3 .i64) pf cf F])) ?_ (fun hD8 => ?_)
  ·
   rintro bn27n1
   dsimp only
   refine d_two 25 26 (by kernel_rfl) ?_ ?_
   ·
    refine o_call1 rfl rfl rfl rfl (.c rfl (.c rfl .n)) ce64 (con_less (ex := qcx) (ey := qcy) (ez := qcz) (fx := qax) (fy := qay) (fz := qaz) (hbex := by first | rfl | assumption | omega | (simp; done) | (simp; omega) | (simp_all; done)) (hbey := by first | rfl | assumption | omega | (simp; done) | (simp; omega) | (simp_all; done)) (hbez := by first | rfl | assumption | omega | (simp; done) | (simp; omega) | (simp_all; done)) (hbfx := by first | rfl | assumption | omega | (simp; done) | (simp; omega) | (simp_all; done)) (hbfy := by first | rfl | assumption | omega | (simp; done) | (simp; omega) | (simp_all; done)) (hbfz := by first | rfl | assumption | omega | (simp; done) | (simp; omega) | (simp_all; done))) (.n) ?_
    exact d_weakT (hD4 bn27n1) (by kernel_rfl) ((.of rfl) : SubM _ _) .rfl .rfl ((.of [0, 1, 2, 3, 4, 5, 6] rfl) : SelR _ _ _)
   ·
    refine o_ef0W rfl rfl rfl rfl (ef_alloc zr44 rfl) (fun bn26n1 _ => ?_)
    exact d_weakT (hD5 (bn26n1, bn27n1)) (by kernel_rfl) ((.of rfl) : SubM _ _) (perm_c 1 rfl (perm_c 0 rfl .nil)) .rfl ((.of [0, 1, 2, 3, 4, 5, 6] rfl) : SelR _ _ _)
  refine d_join (X := Nat × Nat) (k' := 4) (L' := #[true, true, true, true, true, true, true, true, true, true, true, true, false, true, true, true, true, true, true, true, true, true, true, true, true, false, true, true, false, false]) (fun (bn26n1, bn27n1) => ([(7, .pointer (some ⟨bn27n1, 0, none⟩)), (6, .pointer (some ⟨bn26n1, 0, none⟩)), (43, .agg #[.int .i64 qax, .int .i64 qay, .int .i64 qaz]), (42, .pointer (some ⟨b18, o19, none⟩)), (41, .int .i64 ((F.getD i (0, 0, 0)).1)), (40, .pointer (some ⟨b8, 0, none⟩)), (39, .slice pv nv cv), (38, .pointer (some ⟨b1, 0, none⟩)), (37, .agg #[.int .i64 qcx, .int .i64 qcy, .int .i64 qcz]), (36, .pointer (some ⟨b15, o16, none⟩)), (35, .int .i64 ((F.getD i (0, 0, 0)).2.2)), (34, .pointer (some ⟨b8, 2, none⟩)), (33, .slice pv nv cv), (32, .pointer (some ⟨b1, 0, none⟩)), (30, .agg #[.int .i64 qax, .int .i64 qay, .int .i64 qaz]), (29, .pointer (some ⟨b12, o13, none⟩)), (28, .int .i64 ((F.getD i (0, 0, 0)).1)), (27, .pointer (some ⟨b8, 0, none⟩)), (26, .slice pv nv cv), (25, .pointer (some ⟨b1, 0, none⟩)), (24, .agg #[.int .i64 qbx, .int .i64 qby, .int .i64 qbz]), (23, .pointer (some ⟨b9, o10, none⟩)), (22, .int .i64 ((F.getD i (0, 0, 0)).2.1)), (21, .pointer (some ⟨b8, 1, none⟩)), (20, .slice pv nv cv), (19, .pointer (some ⟨b1, 0, none⟩)), (5, .pointer (some ⟨b8, 0, none⟩)), (18, .agg #[.int .i64 ((F.getD i (0, 0, 0)).1), .int .i64 ((F.getD i (0, 0, 0)).2.1), .int .i64 ((F.getD i (0, 0, 0)).2.2)]), (17, .pointer (some ⟨b5, o6, none⟩)), (16, .bool (decide (((i : Nat) : Int) < ((nf : Nat) : Int)))), (15, .int .i64 ((i : Nat) : Int)), (14, .int .i64 ((nf : Nat) : Int)), (13, .slice pf nf cf), (3, .pointer (some ⟨b3, 0, none⟩)), (2, .pointer (some ⟨b2, 0, none⟩)), (1, .pointer (some ⟨b1, 0, none⟩))], [boxA bn27n1 44 [.int .i64 0, .int .i64 0, .int .i64 0], boxA bn26n1 44 [.int .i64 0, .int .i64 0, .int .i64 0]], [boxA b8 44 [.int .i64 ((F.getD i (0, 0, 0)).1), .int .i64 ((F.getD i (0, 0, 0)).2.1), .int .i64 ((F.getD i (0, 0, 0)).2.2)], boxA b3 44 [.int .i64 ((s).1), .int .i64 ((s).2.1), .int .i64 ((s).2.2)], boxA b2 44 [.int .i64 0, .int .i64 0, .int .i64 0], boxA b1 25 [.slice pv nv cv, .slice pf nf cf]], [atF b18 o19 [.int .i64 qax, .int .i64 qay, .int .i64 qaz], atF b15 o16 [.int .i64 qcx, .int .i64 qcy, .int .i64 qcz], atF b12 o13 [.int .i64 qax, .int .i64 qay, .int .i64 qaz], atF b9 o10 [.int .i64 qbx, .int .i64 qby, .int .i64 qbz], atF b5 o6 [.int .i64 ((F.getD i (0, 0, 0)).1), .int .i64 ((F.getD i (0, 0, 0)).2.1), .int .i64 ((F.getD i (0, 0, 0)).2.2)], slF (rI3 .i64) pv cv V, slF (rI3 .i64) pf cf F])) ?_ (fun hD9 => ?_)
  ·
   rintro ⟨bn26n1, bn27n1⟩
   dsimp only
   refine d_one 12 (by kernel_rfl) ?_
   ·
    refine o_call1 rfl rfl rfl rfl (.c rfl (.c rfl .n)) ce64 (con_less (ex := qbx) (ey := qby) (ez := qbz) (fx := qax) (fy := qay) (fz := qaz) (hbex := by first | rfl | assumption | omega | (simp; done) | (simp; omega) | (simp_all; done)) (hbey := by first | rfl | assumption | omega | (simp; done) | (simp; omega) | (simp_all; done)) (hbez := by first | rfl | assumption | omega | (simp; done) | (simp; omega) | (simp_all; done)) (hbfx := by first | rfl | assumption | omega | (simp; done) | (simp; omega) | (simp_all; done)) (hbfy := by first | rfl | assumption | omega | (simp; done) | (simp; omega) | (simp_all; done)) (hbfz := by first | rfl | assumption | omega | (simp; done) | (simp; omega) | (simp_all; done))) (.n) ?_
    exact d_weakT (hD5 (bn26n1, bn27n1)) (by kernel_rfl) ((.of rfl) : SubM _ _) .rfl .rfl ((.of [0, 1, 2, 3, 4, 5, 6] rfl) : SelR _ _ _)
  refine d_join (X := Unit) (k' := 5) (L' := #[true, true, true, true, true, true, true, true, true, true, true, true, true, true, true, true, true, true, true, true, true, true, true, true, true, false, false, false, false, false]) (fun _ => ([(31, .agg #[.int .i64 (qbx - qax), .int .i64 (qby - qay), .int .i64 (qbz - qaz)]), (43, .agg #[.int .i64 qax, .int .i64 qay, .int .i64 qaz]), (42, .pointer (some ⟨b18, o19, none⟩)), (41, .int .i64 ((F.getD i (0, 0, 0)).1)), (40, .pointer (some ⟨b8, 0, none⟩)), (39, .slice pv nv cv), (38, .pointer (some ⟨b1, 0, none⟩)), (37, .agg #[.int .i64 qcx, .int .i64 qcy, .int .i64 qcz]), (36, .pointer (some ⟨b15, o16, none⟩)), (35, .int .i64 ((F.getD i (0, 0, 0)).2.2)), (34, .pointer (some ⟨b8, 2, none⟩)), (33, .slice pv nv cv), (32, .pointer (some ⟨b1, 0, none⟩)), (30, .agg #[.int .i64 qax, .int .i64 qay, .int .i64 qaz]), (29, .pointer (some ⟨b12, o13, none⟩)), (28, .int .i64 ((F.getD i (0, 0, 0)).1)), (27, .pointer (some ⟨b8, 0, none⟩)), (26, .slice pv nv cv), (25, .pointer (some ⟨b1, 0, none⟩)), (24, .agg #[.int .i64 qbx, .int .i64 qby, .int .i64 qbz]), (23, .pointer (some ⟨b9, o10, none⟩)), (22, .int .i64 ((F.getD i (0, 0, 0)).2.1)), (21, .pointer (some ⟨b8, 1, none⟩)), (20, .slice pv nv cv), (19, .pointer (some ⟨b1, 0, none⟩)), (5, .pointer (some ⟨b8, 0, none⟩)), (18, .agg #[.int .i64 ((F.getD i (0, 0, 0)).1), .int .i64 ((F.getD i (0, 0, 0)).2.1), .int .i64 ((F.getD i (0, 0, 0)).2.2)]), (17, .pointer (some ⟨b5, o6, none⟩)), (16, .bool (decide (((i : Nat) : Int) < ((nf : Nat) : Int)))), (15, .int .i64 ((i : Nat) : Int)), (14, .int .i64 ((nf : Nat) : Int)), (13, .slice pf nf cf), (3, .pointer (some ⟨b3, 0, none⟩)), (2, .pointer (some ⟨b2, 0, none⟩)), (1, .pointer (some ⟨b1, 0, none⟩))], [], [boxA b8 44 [.int .i64 ((F.getD i (0, 0, 0)).1), .int .i64 ((F.getD i (0, 0, 0)).2.1), .int .i64 ((F.getD i (0, 0, 0)).2.2)], boxA b3 44 [.int .i64 ((s).1), .int .i64 ((s).2.1), .int .i64 ((s).2.2)], boxA b2 44 [.int .i64 0, .int .i64 0, .int .i64 0], boxA b1 25 [.slice pv nv cv, .slice pf nf cf]], [atF b18 o19 [.int .i64 qax, .int .i64 qay, .int .i64 qaz], atF b15 o16 [.int .i64 qcx, .int .i64 qcy, .int .i64 qcz], atF b12 o13 [.int .i64 qax, .int .i64 qay, .int .i64 qaz], atF b9 o10 [.int .i64 qbx, .int .i64 qby, .int .i64 qbz], atF b5 o6 [.int .i64 ((F.getD i (0, 0, 0)).1), .int .i64 ((F.getD i (0, 0, 0)).2.1), .int .i64 ((F.getD i (0, 0, 0)).2.2)], slF (rI3 .i64) pv cv V, slF (rI3 .i64) pf cf F])) ?_ (fun hD10 => ?_)
  ·
   rintro ⟨⟩
   dsimp only
   refine d_three 25 26 27 (by kernel_rfl) ?_ ?_ ?_
   ·
    refine o_call1 rfl rfl rfl rfl (.c rfl (.c rfl .n)) ce64 (con_less (ex := qcx) (ey := qcy) (ez := qcz) (fx := qax) (fy := qay) (fz := qaz) (hbex := by first | rfl | assumption | omega | (simp; done) | (simp; omega) | (simp_all; done)) (hbey := by first | rfl | assumption | omega | (simp; done) | (simp; omega) | (simp_all; done)) (hbez := by first | rfl | assumption | omega | (simp; done) | (simp; omega) | (simp_all; done)) (hbfx := by first | rfl | assumption | omega | (simp; done) | (simp; omega) | (simp_all; done)) (hbfy := by first | rfl | assumption | omega | (simp; done) | (simp; omega) | (simp_all; done)) (hbfz := by first | rfl | assumption | omega | (simp; done) | (simp; omega) | (simp_all; done))) (.n) ?_
    exact d_weakT (hD6 ()) (by kernel_rfl) ((.of rfl) : SubM _ _) .rfl .rfl ((.of [0, 1, 2, 3, 4, 5, 6] rfl) : SelR _ _ _)
   ·
    refine o_ef0W rfl rfl rfl rfl (ef_alloc zr44 rfl) (fun bn26n1 _ => ?_)
    exact d_weakT (hD7 bn26n1) (by kernel_rfl) ((.of rfl) : SubM _ _) .rfl .rfl ((.of [0, 1, 2, 3, 4, 5, 6] rfl) : SelR _ _ _)
   ·
    refine o_ef0W rfl rfl rfl rfl (ef_alloc zr44 rfl) (fun bn27n1 _ => ?_)
    exact d_weakT (hD8 bn27n1) (by kernel_rfl) ((.of rfl) : SubM _ _) .rfl .rfl ((.of [0, 1, 2, 3, 4, 5, 6] rfl) : SelR _ _ _)
  refine d_join (X := Nat) (k' := 5) (L' := #[true, true, true, true, true, true, true, true, true, true, true, true, false, true, true, true, true, true, true, true, true, true, true, true, true, false, true, false, false, false]) (fun bn26n1 => ([(6, .pointer (some ⟨bn26n1, 0, none⟩)), (43, .agg #[.int .i64 qax, .int .i64 qay, .int .i64 qaz]), (42, .pointer (some ⟨b18, o19, none⟩)), (41, .int .i64 ((F.getD i (0, 0, 0)).1)), (40, .pointer (some ⟨b8, 0, none⟩)), (39, .slice pv nv cv), (38, .pointer (some ⟨b1, 0, none⟩)), (37, .agg #[.int .i64 qcx, .int .i64 qcy, .int .i64 qcz]), (36, .pointer (some ⟨b15, o16, none⟩)), (35, .int .i64 ((F.getD i (0, 0, 0)).2.2)), (34, .pointer (some ⟨b8, 2, none⟩)), (33, .slice pv nv cv), (32, .pointer (some ⟨b1, 0, none⟩)), (30, .agg #[.int .i64 qax, .int .i64 qay, .int .i64 qaz]), (29, .pointer (some ⟨b12, o13, none⟩)), (28, .int .i64 ((F.getD i (0, 0, 0)).1)), (27, .pointer (some ⟨b8, 0, none⟩)), (26, .slice pv nv cv), (25, .pointer (some ⟨b1, 0, none⟩)), (24, .agg #[.int .i64 qbx, .int .i64 qby, .int .i64 qbz]), (23, .pointer (some ⟨b9, o10, none⟩)), (22, .int .i64 ((F.getD i (0, 0, 0)).2.1)), (21, .pointer (some ⟨b8, 1, none⟩)), (20, .slice pv nv cv), (19, .pointer (some ⟨b1, 0, none⟩)), (5, .pointer (some ⟨b8, 0, none⟩)), (18, .agg #[.int .i64 ((F.getD i (0, 0, 0)).1), .int .i64 ((F.getD i (0, 0, 0)).2.1), .int .i64 ((F.getD i (0, 0, 0)).2.2)]), (17, .pointer (some ⟨b5, o6, none⟩)), (16, .bool (decide (((i : Nat) : Int) < ((nf : Nat) : Int)))), (15, .int .i64 ((i : Nat) : Int)), (14, .int .i64 ((nf : Nat) : Int)), (13, .slice pf nf cf), (3, .pointer (some ⟨b3, 0, none⟩)), (2, .pointer (some ⟨b2, 0, none⟩)), (1, .pointer (some ⟨b1, 0, none⟩))], [boxA bn26n1 44 [.int .i64 0, .int .i64 0, .int .i64 0]], [boxA b8 44 [.int .i64 ((F.getD i (0, 0, 0)).1), .int .i64 ((F.getD i (0, 0, 0)).2.1), .int .i64 ((F.getD i (0, 0, 0)).2.2)], boxA b3 44 [.int .i64 ((s).1), .int .i64 ((s).2.1), .int .i64 ((s).2.2)], boxA b2 44 [.int .i64 0, .int .i64 0, .int .i64 0], boxA b1 25 [.slice pv nv cv, .slice pf nf cf]], [atF b18 o19 [.int .i64 qax, .int .i64 qay, .int .i64 qaz], atF b15 o16 [.int .i64 qcx, .int .i64 qcy, .int .i64 qcz], atF b12 o13 [.int .i64 qax, .int .i64 qay, .int .i64 qaz], atF b9 o10 [.int .i64 qbx, .int .i64 qby, .int .i64 qbz], atF b5 o6 [.int .i64 ((F.getD i (0, 0, 0)).1), .int .i64 ((F.getD i (0, 0, 0)).2.1), .int .i64 ((F.getD i (0, 0, 0)).2.2)], slF (rI3 .i64) pv cv V, slF (rI3 .i64) pf cf F])) ?_ (fun hD11 => ?_)
  ·
   rintro bn26n1
   dsimp only
   refine d_two 12 27 (by kernel_rfl) ?_ ?_
   ·
    refine o_call1 rfl rfl rfl rfl (.c rfl (.c rfl .n)) ce64 (con_less (ex := qbx) (ey := qby) (ez := qbz) (fx := qax) (fy := qay) (fz := qaz) (hbex := by first | rfl | assumption | omega | (simp; done) | (simp; omega) | (simp_all; done)) (hbey := by first | rfl | assumption | omega | (simp; done) | (simp; omega) | (simp_all; done)) (hbez := by first | rfl | assumption | omega | (simp; done) | (simp; omega) | (simp_all; done)) (hbfx := by first | rfl | assumption | omega | (simp; done) | (simp; omega) | (simp_all; done)) (hbfy := by first | rfl | assumption | omega | (simp; done) | (simp; omega) | (simp_all; done)) (hbfz := by first | rfl | assumption | omega | (simp; done) | (simp; omega) | (simp_all; done))) (.n) ?_
    exact d_weakT (hD7 bn26n1) (by kernel_rfl) ((.of rfl) : SubM _ _) .rfl .rfl ((.of [0, 1, 2, 3, 4, 5, 6] rfl) : SelR _ _ _)
   ·
    refine o_ef0W rfl rfl rfl rfl (ef_alloc zr44 rfl) (fun bn27n1 _ => ?_)
    exact d_weakT (hD9 (bn26n1, bn27n1)) (by kernel_rfl) ((.of rfl) : SubM _ _) .rfl .rfl ((.of [0, 1, 2, 3, 4, 5, 6] rfl) : SelR _ _ _)
  refine d_join (X := Nat) (k' := 5) (L' := #[true, true, true, true, true, true, true, true, true, true, true, true, false, true, true, true, true, true, true, true, true, true, true, true, true, false, false, true, false, false]) (fun bn27n1 => ([(7, .pointer (some ⟨bn27n1, 0, none⟩)), (43, .agg #[.int .i64 qax, .int .i64 qay, .int .i64 qaz]), (42, .pointer (some ⟨b18, o19, none⟩)), (41, .int .i64 ((F.getD i (0, 0, 0)).1)), (40, .pointer (some ⟨b8, 0, none⟩)), (39, .slice pv nv cv), (38, .pointer (some ⟨b1, 0, none⟩)), (37, .agg #[.int .i64 qcx, .int .i64 qcy, .int .i64 qcz]), (36, .pointer (some ⟨b15, o16, none⟩)), (35, .int .i64 ((F.getD i (0, 0, 0)).2.2)), (34, .pointer (some ⟨b8, 2, none⟩)), (33, .slice pv nv cv), (32, .pointer (some ⟨b1, 0, none⟩)), (30, .agg #[.int .i64 qax, .int .i64 qay, .int .i64 qaz]), (29, .pointer (some ⟨b12, o13, none⟩)), (28, .int .i64 ((F.getD i (0, 0, 0)).1)), (27, .pointer (some ⟨b8, 0, none⟩)), (26, .slice pv nv cv), (25, .pointer (some ⟨b1, 0, none⟩)), (24, .agg #[.int .i64 qbx, .int .i64 qby, .int .i64 qbz]), (23, .pointer (some ⟨b9, o10, none⟩)), (22, .int .i64 ((F.getD i (0, 0, 0)).2.1)), (21, .pointer (some ⟨b8, 1, none⟩)), (20, .slice pv nv cv), (19, .pointer (some ⟨b1, 0, none⟩)), (5, .pointer (some ⟨b8, 0, none⟩)), (18, .agg #[.int .i64 ((F.getD i (0, 0, 0)).1), .int .i64 ((F.getD i (0, 0, 0)).2.1), .int .i64 ((F.getD i (0, 0, 0)).2.2)]), (17, .pointer (some ⟨b5, o6, none⟩)), (16, .bool (decide (((i : Nat) : Int) < ((nf : Nat) : Int)))), (15, .int .i64 ((i : Nat) : Int)), (14, .int .i64 ((nf : Nat) : Int)), (13, .slice pf nf cf), (3, .pointer (some ⟨b3, 0, none⟩)), (2, .pointer (some ⟨b2, 0, none⟩)), (1, .pointer (some ⟨b1, 0, none⟩))], [boxA bn27n1 44 [.int .i64 0, .int .i64 0, .int .i64 0]], [boxA b8 44 [.int .i64 ((F.getD i (0, 0, 0)).1), .int .i64 ((F.getD i (0, 0, 0)).2.1), .int .i64 ((F.getD i (0, 0, 0)).2.2)], boxA b3 44 [.int .i64 ((s).1), .int .i64 ((s).2.1), .int .i64 ((s).2.2)], boxA b2 44 [.int .i64 0, .int .i64 0, .int .i64 0], boxA b1 25 [.slice pv nv cv, .slice pf nf cf]], [atF b18 o19 [.int .i64 qax, .int .i64 qay, .int .i64 qaz], atF b15 o16 [.int .i64 qcx, .int .i64 qcy, .int .i64 qcz], atF b12 o13 [.int .i64 qax, .int .i64 qay, .int .i64 qaz], atF b9 o10 [.int .i64 qbx, .int .i64 qby, .int .i64 qbz], atF b5 o6 [.int .i64 ((F.getD i (0, 0, 0)).1), .int .i64 ((F.getD i (0, 0, 0)).2.1), .int .i64 ((F.getD i (0, 0, 0)).2.2)], slF (rI3 .i64) pv cv V, slF (rI3 .i64) pf cf F])) ?_ (fun hD12 => ?_)
  ·
   rintro bn27n1
   dsimp only
   refine d_two 12 26 (by kernel_rfl) ?_ ?_
   ·
    refine o_call1 rfl rfl rfl rfl (.c rfl (.c rfl .n)) ce64 (con_less (ex := qbx) (ey := qby) (ez := qbz) (fx := qax) (fy := qay) (fz := qaz) (hbex := by first | rfl | assumption | omega | (simp; done) | (simp; omega) | (simp_all; done)) (hbey := by first | rfl | assumption | omega | (simp; done) | (simp; omega) | (simp_all; done)) (hbez := by first | rfl | assumption | omega | (simp; done) | (simp; omega) | (simp_all; done)) (hbfx := by first | rfl | assumption | omega | (simp; done) | (simp; omega) | (simp_all; done)) (hbfy := by first | rfl | assumption | omega | (simp; done) | (simp; omega) | (simp_all; done)) (hbfz := by first | rfl | assumption | omega | (simp; done) | (simp; omega) | (simp_all; done))) (.n) ?_
    exact d_weakT (hD8 bn27n1) (by kernel_rfl) ((.of rfl) : SubM _ _) .rfl .rfl ((.of [0, 1, 2, 3, 4, 5, 6] rfl) : SelR _ _ _)
   ·
    refine o_ef0W rfl rfl rfl rfl (ef_alloc zr44 rfl) (fun bn26n1 _ => ?_)
    exact d_weakT (hD9 (bn26n1, bn27n1)) (by kernel_rfl) ((.of rfl) : SubM _ _) (perm_c 1 rfl (perm_c 0 rfl .nil)) .rfl ((.of [0, 1, 2, 3, 4, 5, 6] rfl) : SelR _ _ _)
  refine d_three 12 26 27 (by kernel_rfl) ?_ ?_ ?_
  ·
   refine o_call1 rfl rfl rfl rfl (.c rfl (.c rfl .n)) ce64 (con_less (ex := qbx) (ey := qby) (ez := qbz) (fx := qax) (fy := qay) (fz := qaz) (hbex := by first | rfl | assumption | omega | (simp; done) | (simp; omega) | (simp_all; done)) (hbey := by first | rfl | assumption | omega | (simp; done) | (simp; omega) | (simp_all; done)) (hbez := by first | rfl | assumption | omega | (simp; done) | (simp; omega) | (simp_all; done)) (hbfx := by first | rfl | assumption | omega | (simp; done) | (simp; omega) | (simp_all; done)) (hbfy := by first | rfl | assumption | omega | (simp; done) | (simp; omega) | (simp_all; done)) (hbfz := by first | rfl | assumption | omega | (simp; done) | (simp; omega) | (simp_all; done))) (.n) ?_
   exact d_weakT (hD10 ()) (by kernel_rfl) ((.of rfl) : SubM _ _) .rfl .rfl ((.of [0, 1, 2, 3, 4, 5, 6] rfl) : SelR _ _ _)
  ·
   refine o_ef0W rfl rfl rfl rfl (ef_alloc zr44 rfl) (fun bn26n1 _ => ?_)
   exact d_weakT (hD11 bn26n1) (by kernel_rfl) ((.of rfl) : SubM _ _) .rfl .rfl ((.of [0, 1, 2, 3, 4, 5, 6] rfl) : SelR _ _ _)
  ·
   refine o_ef0W rfl rfl rfl rfl (ef_alloc zr44 rfl) (fun bn27n1 _ => ?_)
   exact d_weakT (hD12 bn27n1) (by kernel_rfl) ((.of rfl) : SubM _ _) .rfl .rfl ((.of [0, 1, 2, 3, 4, 5, 6] rfl) : SelR _ _ _)
 ·
  refine r_exit ?_
  refine p_then_exit ?_
  refine p_then_exit ?_
  refine p_block_here ?_
  refine p_then ?_
  refine r_seq ?_
  refine r_region ?_
  refine r_u rfl rfl (vl_load_box_agg 0 ty44 rfl rfl (.take (.take (.take .nil)))) ?_
  refine r_store_box 1 rfl rfl rfl rfl rfl sz44 rfl (.take (.take (.take .nil))) (.s .z) ?_
  refine r_nil ?_
  refine p_then ?_
  refine r_ret ?_
  have hz : Ms.vecS V F = s := by rw [hs, List.take_of_length_le (by omega)]
  exact p_ret1 Try.results22 () trivial (res_box_agg 1 ty44 rfl rfl (.take (.take (.take .nil)))) (by rw [hz]) (ho := (.n : PickO _ _ _)) (.n : SelR _ _ _)
end Go.Proofs.Ytalfgjpbbongcaa.Sp
namespace Go.Proofs.Ytalfgjpbbongcaa.Sp
open Go
set_option linter.unusedVariables false
set_option maxRecDepth 100000
set_option maxHeartbeats 1000000
theorem con_MeshVectors {pv : Option Addr} {nv : Nat} {cv : Nat} {V : List (Int × Int × Int)} {pf : Option Addr} {nf : Nat} {cf : Nat} {F : List (Int × Int × Int)} (hnv : V.length = nv) (hnf : F.length = nf) : Con Try.prog 5 [.agg #[.slice pv nv cv, .slice pf nf cf]] [] [slF (rI3 .i64) pv cv V, slF (rI3 .i64) pf cf F] (Y := Unit) (fun y => True) (fun y => .bool true) (fun y => []) (fun y => []) := by
 refine con_intro Try.func5 rfl rfl rfl (fun c => ?_)
 show RunC _ _ _ _ _ [(0, .agg #[.slice pv nv cv, .slice pf nf cf])] [] [slF (rI3 .i64) pv cv V, slF (rI3 .i64) pf cf F]
 refine c_len 0 rfl (fun hL0 => ?_)
 refine c_len 1 rfl (fun hL1 => ?_)
 refine r_seq ?_
 refine r_region ?_
 refine r_new rfl rfl (ef_box rfl rfl) (fun b1 => ?_)
 refine r_pv rfl rfl (pv_assign rfl) ?_
 refine r_nil ?_
 refine p_then ?_
 refine r_seq ?_
 refine r_seq ?_
 refine r_region ?_
 refine r_call1 rfl rfl (.n) ce12 (con_known  ) (.n) ?_
 refine r_pv rfl rfl (pv_not rfl) ?_
 refine r_nil ?_
 refine p_then ?_
 refine r_cond_f rfl rfl ?_
 refine r_skip ?_
 refine p_then ?_
 refine r_seq ?_
 refine r_seq ?_
 refine r_region ?_
 refine r_u rfl rfl (vl_load_box_agg 0 ty25 rfl rfl (.take (.take .nil))) ?_
 refine r_call1 rfl rfl (.c rfl .n) ce13 (con_few (pv := pv) (nv := nv) (cv := cv) (V := V) (pf := pf) (nf := nf) (cf := cf) (F := F) (hnv := by assumption) (hnf := by assumption)) (.c (j := 0) rfl (.c (j := 1) rfl .n)) ?_
 refine r_pv rfl rfl (pv_notd rfl) ?_
 refine r_nil ?_
 refine p_then ?_
 refine r_cond rfl (fun h2 => ?_) (fun h2 => ?_)
 ·
  refine r_seq ?_
  refine r_region ?_
  refine r_pv rfl rfl (pv_assign rfl) ?_
  refine r_nil ?_
  refine p_then ?_
  refine r_ret ?_
  refine p_then_ret ?_
  exact p_ret1 Try.results5 () trivial (res_tmp rfl) rfl (ho := (.n : PickO _ _ _)) (.n : SelR _ _ _)
 ·
  refine r_skip ?_
  refine p_then ?_
  refine r_seq ?_
  refine r_region ?_
  refine r_u rfl rfl (vl_load_box_agg 0 ty25 rfl rfl (.take (.take .nil))) ?_
  refine r_call1 rfl rfl (.c rfl .n) ce21 (con_Vector (pv := pv) (nv := nv) (cv := cv) (V := V) (pf := pf) (nf := nf) (cf := cf) (F := F) (hnv := by assumption) (hnf := by assumption)) (.c (j := 0) rfl (.c (j := 1) rfl .n)) ?_
  refine r_pv rfl rfl (pv_move rfl) ?_
  refine r_pv rfl rfl (pv_extract rfl rfl) ?_
  refine r_pv rfl rfl (pv_extract rfl rfl) ?_
  refine r_new rfl rfl (ef_alloc zr44 rfl) (fun b3 => ?_)
  refine r_store_box 0 rfl rfl rfl rfl rfl sz44 rfl (.take (.take (.take .nil))) .z ?_
  refine r_pv rfl rfl (pv_assign rfl) ?_
  refine r_nil ?_
  refine p_then ?_
  refine r_seq ?_
  refine r_seq ?_
  refine r_region ?_
  refine r_u rfl rfl (vl_load_box_agg 1 ty25 rfl rfl (.take (.take .nil))) ?_
  refine r_call1 rfl rfl (.c rfl .n) ce15 (con_lcheck (pv := pv) (nv := nv) (cv := cv) (V := V) (pf := pf) (nf := nf) (cf := cf) (F := F) (hnv := by assumption) (hnf := by assumption)) (.c (j := 0) rfl (.c (j := 1) rfl .n)) ?_
  refine r_pv rfl rfl (pv_assign rfl) ?_
  refine r_nil ?_
  refine p_then ?_
  refine r_seq ?_
  refine r_region ?_
  refine r_pv rfl rfl (pv_move rfl) ?_
  refine r_pv rfl rfl (pv_neq rfl rfl) ?_
  refine r_nil ?_
  refine p_then ?_
  refine r_cond rfl (fun hc => ?_) (fun hc => ?_)
  ·
   have hz : Ms.vecR V F = (0, 0, 0) := by unfold Ms.vecR; rw [if_neg hc]
   refine r_cut (X := Unit) (fun x => True) (fun x => [(2, .bool true), (4, .int .i64 (Ms.check V F)), (3, .pointer (some ⟨b3, 0, none⟩)), (1, .pointer (some ⟨b1, 0, none⟩))]) (fun x => [boxA b3 44 [.int .i64 ((Ms.vecR V F).1), .int .i64 ((Ms.vecR V F).2.1), .int .i64 ((Ms.vecR V F).2.2)], boxA b1 25 [.slice pv nv cv, .slice pf nf cf]]) (fun x => [slF (rI3 .i64) pv cv V, slF (rI3 .i64) pf cf F]) ?_ ?_
   ·
    refine r_region ?_
    refine r_pv rfl rfl (pv_move rfl) ?_
    refine r_pv rfl rfl (pv_move rfl) ?_
    refine r_pv rfl rfl (pv_eql rfl rfl) ?_
    refine r_pv_dec rfl rfl (pv_move rfl) (fun h4 => ?_) (fun h4 => ?_)
    ·
     refine r_u rfl rfl (vl_load_box_agg 0 ty44 rfl rfl (.take (.take (.take .nil)))) ?_
     refine r_pv rfl rfl (pv_build_array zr44 rfl Try.underlying44 sz3 .n .n) ?_
     refine r_pv rfl rfl (pv_agg_eql (p := (Ms.vecR V F).1 = 0 ∧ (Ms.vecR V F).2.1 = 0 ∧ (Ms.vecR V F).2.2 = 0) (by kernel_rfl) rfl rfl (eqr_array Try.underlying44 sz3 (eqi_one ty3 rfl rfl (eqr_int Try.underlying3) (eqi_one ty3 rfl rfl (eqr_int Try.underlying3) (eqi_one ty3 rfl rfl (eqr_int Try.underlying3) eqi_nil)))) (by simp [Bool.decide_and])) ?_
     refine r_pv rfl rfl (pv_pick rfl rfl) ?_
     refine r_pv rfl rfl (pv_assign rfl) ?_
     refine r_nil ?_
     exact p_cut () (show True from by first | trivial | omega | simp_all) ((.e rfl (congrArg Value.bool (by first | (simp_all; done) | (simp [hz]; done))) (.of rfl)) : SubM _ _) (ho := ((.of [0, 0] rfl) : PickO _ _ _)) ((.of [0, 1] rfl) : SelR _ _ _)
    ·
     refine r_guard_no rfl rfl ?_
     refine r_guard_no rfl rfl ?_
     refine r_guard_no rfl rfl ?_
     refine r_pv rfl rfl (pv_pick rfl rfl) ?_
     refine r_pv rfl rfl (pv_assign rfl) ?_
     refine r_nil ?_
     exact p_cut () (show True from by first | trivial | omega | simp_all) ((.e rfl (congrArg Value.bool (by first | (simp_all; done) | (simp [hz]; done))) (.of rfl)) : SubM _ _) (ho := ((.of [0, 0] rfl) : PickO _ _ _)) ((.of [0, 1] rfl) : SelR _ _ _)
   ·
    rintro ⟨⟩ -
    show RunC _ _ _ _ _ [(2, .bool true), (4, .int .i64 (Ms.check V F)), (3, .pointer (some ⟨b3, 0, none⟩)), (1, .pointer (some ⟨b1, 0, none⟩))] [boxA b3 44 [.int .i64 ((Ms.vecR V F).1), .int .i64 ((Ms.vecR V F).2.1), .int .i64 ((Ms.vecR V F).2.2)], boxA b1 25 [.slice pv nv cv, .slice pf nf cf]] [slF (rI3 .i64) pv cv V, slF (rI3 .i64) pf cf F]
    refine r_ret ?_
    refine p_then_ret ?_
    exact p_ret1 Try.results5 () trivial (res_tmp rfl) rfl (ho := (.n : PickO _ _ _)) (.n : SelR _ _ _)
  ·
   have hc0 := Decidable.not_not.1 hc
   have hf0 := Ms.check_form hc0
   have hg := Ms.form_zero.1 hf0
   have hnv5 : nv ≤ 512 := by have := hg.nv; omega
   have hnf5 : nf ≤ 1024 := by have := hg.nf; omega
   have hz : Ms.vecR V F = Ms.vecS V F := by unfold Ms.vecR; rw [if_pos hc0]
   have hcl : ¬ (0 < (((Ms.loops (fun jj => mget (Ms.nextM F) jj) nv).length : Nat) : Int)) → ¬ Ms.bnd F ≠ [] := fun h hb => h (by have h8 := (Ms.loops_bnd hg (Ms.nextM_bmap F)).2 hb; rw [hnv] at h8; omega)
   refine r_skip ?_
   refine p_then ?_
   refine r_cut (X := Unit) (fun x => True) (fun x => [(2, .bool true)]) (fun x => [boxA b3 44 [.int .i64 ((Ms.vecR V F).1), .int .i64 ((Ms.vecR V F).2.1), .int .i64 ((Ms.vecR V F).2.2)], boxA b1 25 [.slice pv nv cv, .slice pf nf cf]]) (fun x => [slF (rI3 .i64) pv cv V, slF (rI3 .i64) pf cf F]) ?_ ?_
   ·
    refine r_draw (OW := []) (O := [boxA b3 44 [.int .i64 ((Ms.vecR V F).1), .int .i64 ((Ms.vecR V F).2.1), .int .i64 ((Ms.vecR V F).2.2)], boxA b1 25 [.slice pv nv cv, .slice pf nf cf]]) 100000 mixed (.then .ret) (by kernel_rfl) ?_
    refine d_pv 0 rfl rfl (by kernel_rfl) (by kernel_rfl) rfl rfl (pv_move rfl) ?_
    refine d_pv 1 rfl rfl (by kernel_rfl) (by kernel_rfl) rfl rfl (pv_eql rfl rfl) ?_
    refine d_pv_dec 2 rfl rfl (by kernel_rfl) (by kernel_rfl) rfl rfl (pv_move rfl) (fun h5 => ?_) (fun h5 => ?_)
    ·
     refine d_u 3 rfl rfl (by kernel_rfl) (by kernel_rfl) rfl rfl (vl_load_box_agg 0 ty44 rfl rfl (.take (.take (.take .nil)))) ?_
     refine d_u 4 rfl rfl (by kernel_rfl) (by kernel_rfl) rfl rfl (vl_load_box_agg 1 ty25 rfl rfl (.take (.take .nil))) ?_
     refine d_one 5 (by kernel_rfl) (o_call1 rfl rfl rfl rfl (.c rfl .n) ce22 (con_lvector (pv := pv) (nv := nv) (cv := cv) (V := V) (pf := pf) (nf := nf) (cf := cf) (F := F) (hnv := by assumption) (hnf := by assumption) (hg := by first | rfl | assumption | omega | (simp; done) | (simp; omega) | (simp_all; done))) (.c (j := 0) rfl (.c (j := 1) rfl .n)) ?_)
     refine d_pv 6 rfl rfl (by kernel_rfl) (by kernel_rfl) rfl rfl (pv_agg_eql (p := (Ms.vecR V F).1 = (Ms.vecS V F).1 ∧ (Ms.vecR V F).2.1 = (Ms.vecS V F).2.1 ∧ (Ms.vecR V F).2.2 = (Ms.vecS V F).2.2) (by kernel_rfl) rfl rfl (eqr_array Try.underlying44 sz3 (eqi_one ty3 rfl rfl (eqr_int Try.underlying3) (eqi_one ty3 rfl rfl (eqr_int Try.underlying3) (eqi_one ty3 rfl rfl (eqr_int Try.underlying3) eqi_nil)))) (by simp [Bool.decide_and])) ?_
     refine d_pv 7 rfl rfl (by kernel_rfl) (by kernel_rfl) rfl rfl (pv_pick rfl rfl) ?_
     refine d_pv_dec 8 rfl rfl (by kernel_rfl) (by kernel_rfl) rfl rfl (pv_move rfl) (fun h6 => ?_) (fun h6 => ?_)
     ·
      refine d_u 9 rfl rfl (by kernel_rfl) (by kernel_rfl) rfl rfl (vl_load_box_agg 1 ty25 rfl rfl (.take (.take .nil))) ?_
      refine d_one 10 (by kernel_rfl) (o_callf rfl rfl rfl rfl (.c rfl .n) ce17 (con_lborders (pv := pv) (nv := nv) (cv := cv) (V := V) (pf := pf) (nf := nf) (cf := cf) (F := F) (hnv := by assumption) (hnf := by assumption) (hg := by first | rfl | assumption | omega | (simp; done) | (simp; omega) | (simp_all; done))) (.c (j := 0) rfl (.c (j := 1) rfl .n)) ?_)
      rintro ⟨p27, c28⟩ -
      dsimp only [List.append_eq, List.nil_append, List.cons_append]
      refine d_pv 11 rfl rfl (by kernel_rfl) (by kernel_rfl) rfl rfl (pv_len Try.underlying37 rfl) ?_
      refine d_pv 12 rfl rfl (by kernel_rfl) (by kernel_rfl) rfl rfl (pv_gtr rfl rfl) ?_
      refine d_pv_dec 13 rfl rfl (by kernel_rfl) (by kernel_rfl) rfl rfl (pv_move rfl) (fun hln => ?_) (fun hln => ?_)
      ·
       refine d_skip 14 rfl rfl (by kernel_rfl) (by kernel_rfl) rfl rfl ?_
       refine d_skip 15 rfl rfl (by kernel_rfl) (by kernel_rfl) rfl rfl ?_
       refine d_skip 16 rfl rfl (by kernel_rfl) (by kernel_rfl) rfl rfl ?_
       refine d_pv 17 rfl rfl (by kernel_rfl) (by kernel_rfl) rfl rfl (pv_pick rfl rfl) ?_
       refine d_pv 18 rfl rfl (by kernel_rfl) (by kernel_rfl) rfl rfl (pv_pick rfl rfl) ?_
       refine d_pv 19 rfl rfl (by kernel_rfl) (by kernel_rfl) rfl rfl (pv_assign rfl) ?_
       refine d_done (by kernel_rfl) ?_
       exact p_cut () (show True from by first | trivial | omega | simp_all) ((.c rfl .n) : SubM _ _) (ho := ((.of [0, 0] rfl) : PickO _ _ _)) ((.of [1, 2] rfl) : SelR _ _ _)
      ·
       refine d_u 14 rfl rfl (by kernel_rfl) (by kernel_rfl) rfl rfl (vl_load_box_agg 0 ty44 rfl rfl (.take (.take (.take .nil)))) ?_
       refine d_pv 15 rfl rfl (by kernel_rfl) (by kernel_rfl) rfl rfl (pv_build_array zr44 rfl Try.underlying44 sz3 .n .n) ?_
       refine d_pv 16 rfl rfl (by kernel_rfl) (by kernel_rfl) rfl rfl (pv_agg_eql (p := (Ms.vecR V F).1 = 0 ∧ (Ms.vecR V F).2.1 = 0 ∧ (Ms.vecR V F).2.2 = 0) (by kernel_rfl) rfl rfl (eqr_array Try.underlying44 sz3 (eqi_one ty3 rfl rfl (eqr_int Try.underlying3) (eqi_one ty3 rfl rfl (eqr_int Try.underlying3) (eqi_one ty3 rfl rfl (eqr_int Try.underlying3) eqi_nil)))) (by simp [Bool.decide_and])) ?_
       refine d_pv 17 rfl rfl (by kernel_rfl) (by kernel_rfl) rfl rfl (pv_pick rfl rfl) ?_
       refine d_pv 18 rfl rfl (by kernel_rfl) (by kernel_rfl) rfl rfl (pv_pick rfl rfl) ?_
       refine d_pv 19 rfl rfl (by kernel_rfl) (by kernel_rfl) rfl rfl (pv_assign rfl) ?_
       refine d_done (by kernel_rfl) ?_
       exact p_cut () (show True from by first | trivial | omega | simp_all) ((.e rfl (congrArg Value.bool (by first | (simp [hz, hc0]; done) | (simp_all; done) | (have h9 := Ms.vec_closed hc0 (hcl (by simpa using hln)); simp [hz, h9]; done))) .n) : SubM _ _) (ho := ((.of [0, 0] rfl) : PickO _ _ _)) ((.of [1, 2] rfl) : SelR _ _ _)
     ·
      refine d_skip 9 rfl rfl (by kernel_rfl) (by kernel_rfl) rfl rfl ?_
      refine d_skip 10 rfl rfl (by kernel_rfl) (by kernel_rfl) rfl rfl ?_
      refine d_skip 11 rfl rfl (by kernel_rfl) (by kernel_rfl) rfl rfl ?_
      refine d_skip 12 rfl rfl (by kernel_rfl) (by kernel_rfl) rfl rfl ?_
      refine d_skip 13 rfl rfl (by kernel_rfl) (by kernel_rfl) rfl rfl ?_
      refine d_skip 14 rfl rfl (by kernel_rfl) (by kernel_rfl) rfl rfl ?_
      refine d_skip 15 rfl rfl (by kernel_rfl) (by kernel_rfl) rfl rfl ?_
      refine d_skip 16 rfl rfl (by kernel_rfl) (by kernel_rfl) rfl rfl ?_
      refine d_skip 17 rfl rfl (by kernel_rfl) (by kernel_rfl) rfl rfl ?_
      refine d_pv 18 rfl rfl (by kernel_rfl) (by kernel_rfl) rfl rfl (pv_pick rfl rfl) ?_
      refine d_pv 19 rfl rfl (by kernel_rfl) (by kernel_rfl) rfl rfl (pv_assign rfl) ?_
      refine d_done (by kernel_rfl) ?_
      exact p_cut () (show True from by first | trivial | omega | simp_all) ((.e rfl (congrArg Value.bool (by first | (simp [hz, hc0]; done) | (simp_all; done) | (have h9 := Ms.vec_closed hc0 (hcl (by simpa using hln)); simp [hz, h9]; done))) .n) : SubM _ _) (ho := ((.of [0, 0] rfl) : PickO _ _ _)) ((.of [0, 1] rfl) : SelR _ _ _)
    ·
     refine d_skip 3 rfl rfl (by kernel_rfl) (by kernel_rfl) rfl rfl ?_
     refine d_skip 4 rfl rfl (by kernel_rfl) (by kernel_rfl) rfl rfl ?_
     refine d_skip 5 rfl rfl (by kernel_rfl) (by kernel_rfl) rfl rfl ?_
     refine d_skip 6 rfl rfl (by kernel_rfl) (by kernel_rfl) rfl rfl ?_
     refine d_pv 7 rfl rfl (by kernel_rfl) (by kernel_rfl) rfl rfl (pv_pick rfl rfl) ?_
     refine d_pv 8 rfl rfl (by kernel_rfl) (by kernel_rfl) rfl rfl (pv_move rfl) ?_
     refine d_skip 9 rfl rfl (by kernel_rfl) (by kernel_rfl) rfl rfl ?_
     refine d_skip 10 rfl rfl (by kernel_rfl) (by kernel_rfl) rfl rfl ?_
     refine d_skip 11 rfl rfl (by kernel_rfl) (by kernel_rfl) rfl rfl ?_
     refine d_skip 12 rfl rfl (by kernel_rfl) (by kernel_rfl) rfl rfl ?_
     refine d_skip 13 rfl rfl (by kernel_rfl) (by kernel_rfl) rfl rfl ?_
     refine d_skip 14 rfl rfl (by kernel_rfl) (by kernel_rfl) rfl rfl ?_
     refine d_skip 15 rfl rfl (by kernel_rfl) (by kernel_rfl) rfl rfl ?_
     refine d_skip 16 rfl rfl (by kernel_rfl) (by kernel_rfl) rfl rfl ?_
     refine d_skip 17 rfl rfl (by kernel_rfl) (by kernel_rfl) rfl rfl ?_
     refine d_pv 18 rfl rfl (by kernel_rfl) (by kernel_rfl) rfl rfl (pv_pick rfl rfl) ?_
     refine d_pv 19 rfl rfl (by kernel_rfl) (by kernel_rfl) rfl rfl (pv_assign rfl) ?_
     refine d_done (by kernel_rfl) ?_
     exact p_cut () (show True from by first | trivial | omega | simp_all) ((.e rfl (congrArg Value.bool (by first | (simp [hz, hc0]; done) | (simp_all; done) | (have h9 := Ms.vec_closed hc0 (hcl (by simpa using hln)); simp [hz, h9]; done))) .n) : SubM _ _) (ho := ((.of [0, 0] rfl) : PickO _ _ _)) ((.of [0, 1] rfl) : SelR _ _ _)
   ·
    rintro ⟨⟩ -
    show RunC _ _ _ _ _ [(2, .bool true)] [boxA b3 44 [.int .i64 ((Ms.vecR V F).1), .int .i64 ((Ms.vecR V F).2.1), .int .i64 ((Ms.vecR V F).2.2)], boxA b1 25 [.slice pv nv cv, .slice pf nf cf]] [slF (rI3 .i64) pv cv V, slF (rI3 .i64) pf cf F]
    refine r_ret ?_
    exact p_ret1 Try.results5 () trivial (res_tmp rfl) rfl (ho := (.n : PickO _ _ _)) (.n : SelR _ _ _)
end Go.Proofs.Ytalfgjpbbongcaa.Sp
