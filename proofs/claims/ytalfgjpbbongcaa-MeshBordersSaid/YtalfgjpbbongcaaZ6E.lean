/- Lemmas on the walk and plain lemmas that the claim of this folder uses; each states its own conditions. Lines were printed by a program of ours. -/
import Derived.Test.YtalfgjpbbongcaaZ6D
set_option linter.unusedVariables false
set_option linter.unusedSimpArgs false
set_option linter.unusedSectionVars false
namespace Go.Proofs.Ytalfgjpbbongcaa.Sp
open Go
set_option linter.unusedVariables false
set_option maxRecDepth 100000
set_option maxHeartbeats 1000000
theorem con_sides {pv : Option Addr} {nv : Nat} {cv : Nat} {V : List (Int × Int × Int)} {pf : Option Addr} {nf : Nat} {cf : Nat} {F : List (Int × Int × Int)} (hnv : V.length = nv) (hnf : F.length = nf) (hg : Ms.Good V F) : Con Try.prog 66 [.agg #[.slice pv nv cv, .slice pf nf cf]] [] [slF (rI3 .i64) pv cv V, slF (rI3 .i64) pf cf F] (Y := Nat × (List ((Int × Int) × Tri))) (fun y => Raw y.2 (Ms.sides F)) (fun y => .map (some y.1)) (fun y => [mapA y.1 (fun z : Int × Int => .agg #[.int .i64 z.1, .int .i64 z.2]) (fun z : Option Addr × Nat × Nat => .slice z.1 z.2.1 z.2.2) (fun z => InK .i64 z.1 ∧ InK .i64 z.2) (y.2)]) (fun y => [rawF (rI .i64) (y.2) (Ms.sides F)]) := by
 refine con_intro Try.func66 rfl rfl rfl (fun c => ?_)
 show RunC _ _ _ _ _ [(0, .agg #[.slice pv nv cv, .slice pf nf cf])] [] [slF (rI3 .i64) pv cv V, slF (rI3 .i64) pf cf F]
 refine c_len 0 rfl (fun hL0 => ?_)
 refine c_len 1 rfl (fun hL1 => ?_)
 have hnv5 : nv ≤ 512 := by have := hg.nv; omega
 have hnf5 : nf ≤ 1024 := by have := hg.nf; omega
 refine r_seq ?_
 refine r_region ?_
 refine r_new rfl rfl (ef_box rfl rfl) (fun b1 => ?_)
 refine r_pv rfl rfl (pv_assign rfl) ?_
 refine r_nil ?_
 refine p_then ?_
 refine r_seq ?_
 refine r_region ?_
 refine r_ef0 rfl rfl (ef_makeMap (κ := Int × Int) (ν := Option Addr × Nat × Nat) (fun z : Int × Int => .agg #[.int .i64 z.1, .int .i64 z.2]) (fun z : Option Addr × Nat × Nat => .slice z.1 z.2.1 z.2.2) (fun z => InK .i64 z.1 ∧ InK .i64 z.2)) (fun b2 _ => ?_)
 refine r_pv rfl rfl (pv_assign rfl) ?_
 refine r_nil ?_
 refine p_then ?_
 refine r_seq ?_
 refine r_seq ?_
 refine c_mem (fun w mm => mm.mrNew 3 (rI .i64)) ?_
 refine r_region ?_
 refine r_pv rfl rfl (pv_fieldAddr Try.underlying25 rfl sz23 rfl rfl) ?_
 refine r_u rfl rfl (vl_load_box_one 1 ty23 rfl rfl rfl) ?_
 refine r_pv rfl rfl (pv_len Try.underlying23 rfl) ?_
 refine r_pv rfl rfl (pv_move rfl) ?_
 refine r_nil ?_
 refine p_then ?_
 refine r_block ?_
 refine r_loop (X := Nat) (fun x : Nat => x ≤ nf) (fun x => [(12, .int .i64 ((x : Nat) : Int)), (11, .int .i64 ((nf : Nat) : Int)), (10, .slice pf nf cf), (3, .map (some b2)), (2, .map none)]) (fun x => [mrA b2 (fun z : Int × Int => .agg #[.int .i64 z.1, .int .i64 z.2]) (fun z => InK .i64 z.1 ∧ InK .i64 z.2) 3 (rI .i64) (Ms.sides (F.take x)), boxA b1 25 [.slice pv nv cv, .slice pf nf cf]]) (fun x => [slF (rI3 .i64) pv cv V, slF (rI3 .i64) pf cf F]) (fun x : Nat => nf - x) 0 (show 0 ≤ nf from by exact Nat.zero_le _) ((.e rfl (by first | rfl | (congr 1; omega) | simp_all) (.of rfl)) : SubM _ _) (ho := ((.e (i := 0) rfl (by rfl) (.c (i := 0) rfl .n)) : PickO _ _ _)) ((.of [0, 1] rfl) : SelR _ _ _) ?_
 rintro i hI
 replace hI : i ≤ nf := hI
 show RunC _ _ _ _ _ [(12, .int .i64 ((i : Nat) : Int)), (11, .int .i64 ((nf : Nat) : Int)), (10, .slice pf nf cf), (3, .map (some b2)), (2, .map none)] [mrA b2 (fun z : Int × Int => .agg #[.int .i64 z.1, .int .i64 z.2]) (fun z => InK .i64 z.1 ∧ InK .i64 z.2) 3 (rI .i64) (Ms.sides (F.take i)), boxA b1 25 [.slice pv nv cv, .slice pf nf cf]] [slF (rI3 .i64) pv cv V, slF (rI3 .i64) pf cf F]
 refine r_seq ?_
 refine r_region ?_
 refine r_pv rfl rfl (pv_lss rfl rfl) ?_
 refine r_nil ?_
 refine p_then ?_
 refine r_seq ?_
 refine r_cond rfl (fun h3 => ?_) (fun h3 => ?_)
 ·
  have hat := hg.at (show i < F.length by omega)
  have hsl0 := Ms.sides_len (F.take i)
  rw [List.length_take] at hsl0
  refine r_skip ?_
  refine p_then ?_
  refine r_seq ?_
  refine r_block ?_
  refine r_seq ?_
  refine r_region ?_
  refine r_pv rfl rfl (pv_move rfl) ?_
  refine r_index_fl (x0 := (F.getD i (0, 0, 0))) 1 i rfl Try.underlying23 sz44 rfl rfl rfl (by first | rfl | assumption | (simp; done) | omega) rfl rfl (gD (d := (0, 0, 0)) (by omega)) (fun b4 o5 hok6 => ?_)
  obtain ⟨hok6x, hok6y, hok6z⟩ := hok6
  replace hok6x := inK_i64.1 hok6x
  replace hok6y := inK_i64.1 hok6y
  replace hok6z := inK_i64.1 hok6z
  refine r_u rfl rfl (vl_load_at_agg (j := 0) 0 ty44 rfl rfl rfl (.take (.take (.take .nil)))) ?_
  refine r_new rfl rfl (ef_alloc zr44 rfl) (fun b7 => ?_)
  refine r_pv rfl rfl (pv_assign rfl) ?_
  refine r_store_box 0 rfl rfl rfl rfl rfl sz44 rfl (.take (.take (.take .nil))) .z ?_
  refine r_nil ?_
  refine p_then ?_
  refine r_seq ?_
  refine r_region ?_
  refine r_u rfl rfl (vl_load_box_agg 0 ty44 rfl rfl (.take (.take (.take .nil)))) ?_
  refine r_call1 rfl rfl (.c rfl .n) ce47 (con_edges (ex := (F.getD i (0, 0, 0)).1) (ey := (F.getD i (0, 0, 0)).2.1) (ez := (F.getD i (0, 0, 0)).2.2) ) (.n) ?_
  refine r_pv rfl rfl (pv_move rfl) ?_
  refine r_nil ?_
  refine p_then ?_
  refine r_block ?_
  refine r_loopU ?_
  refine u_round ?_
  refine r_seq ?_
  refine r_region ?_
  refine r_pv rfl rfl (pv_lss rfl rfl) ?_
  refine r_nil ?_
  refine p_then ?_
  refine r_seq ?_
  refine r_cond_t rfl rfl ?_
  refine r_skip ?_
  refine p_then ?_
  refine r_seq ?_
  refine r_block ?_
  refine r_seq ?_
  refine r_region ?_
  refine r_pv rfl rfl (pv_index_agg (i := 0) Try.underlying74 ty73 rfl rfl (by decide) (.take (.take .nil))) ?_
  refine r_new rfl rfl (ef_alloc zr73 rfl) (fun b8 => ?_)
  refine r_store_box 0 rfl rfl rfl rfl rfl sz73 rfl (.take (.take .nil)) .z ?_
  refine r_nil ?_
  refine p_then ?_
  refine c_memx (fun w mm => mm.mrOpen 2 ((min ((F.getD i (0, 0, 0)).1) ((F.getD i (0, 0, 0)).2.1)), (max ((F.getD i (0, 0, 0)).1) ((F.getD i (0, 0, 0)).2.1))) rfl) ?_
  rintro ⟨raw0, pz0, cz0⟩ ⟨hraw0, hgt0⟩
  dsimp only [List.eraseIdx] at hgt0 ⊢
  obtain ⟨lz0, hlz0⟩ : ∃ z, z = (mget (Ms.sides (F.take i)) ((min ((F.getD i (0, 0, 0)).1) ((F.getD i (0, 0, 0)).2.1)), (max ((F.getD i (0, 0, 0)).1) ((F.getD i (0, 0, 0)).2.1)))).getD [] := ⟨_, rfl⟩
  rw [← hlz0] at hgt0 ⊢
  have hlb0 : lz0.length ≤ 4000 := by have h9 := hsl0 ((min ((F.getD i (0, 0, 0)).1) ((F.getD i (0, 0, 0)).2.1)), (max ((F.getD i (0, 0, 0)).1) ((F.getD i (0, 0, 0)).2.1))); rw [← hlz0] at h9; omega
  refine r_weakO (.c (i := 1) rfl (.c (i := 0) rfl (.c (i := 0) rfl (.c (i := 0) rfl (.c (i := 0) rfl (.c (i := 0) rfl .n)))))) ?_
  refine r_draw (OW := [rowA 3 (rI .i64) pz0 cz0 lz0, mapA b2 (fun z : Int × Int => .agg #[.int .i64 z.1, .int .i64 z.2]) (fun z : Option Addr × Nat × Nat => .slice z.1 z.2.1 z.2.2) (fun z => InK .i64 z.1 ∧ InK .i64 z.2) raw0]) (O := [allA (mrest 3 (rI .i64) ((min ((F.getD i (0, 0, 0)).1) ((F.getD i (0, 0, 0)).2.1)), (max ((F.getD i (0, 0, 0)).1) ((F.getD i (0, 0, 0)).2.1))) raw0 (Ms.sides (F.take i))), boxA b8 73 [.int .i64 ((F.getD i (0, 0, 0)).1), .int .i64 ((F.getD i (0, 0, 0)).2.1)], boxA b7 44 [.int .i64 ((F.getD i (0, 0, 0)).1), .int .i64 ((F.getD i (0, 0, 0)).2.1), .int .i64 ((F.getD i (0, 0, 0)).2.2)], boxA b1 25 [.slice pv nv cv, .slice pf nf cf]]) 9 mixed (.block (.then (.then (.block (.block (.then (.then (.block (.then .ret))))))))) (by kernel_rfl) ?_
  refine d_pv 0 rfl rfl (by kernel_rfl) (by kernel_rfl) rfl rfl (pv_move rfl) ?_
  refine d_uw 1 rfl rfl (by kernel_rfl) (by kernel_rfl) (by kernel_rfl) rfl rfl (vl_load_box_agg 3 ty73 rfl rfl (.take (.take .nil))) ?_
  refine d_pv 3 rfl rfl (by kernel_rfl) (by kernel_rfl) rfl rfl (pv_move rfl) ?_
  refine d_uw 4 rfl rfl (by kernel_rfl) (by kernel_rfl) (by kernel_rfl) rfl rfl (vl_load_box_agg 3 ty73 rfl rfl (.take (.take .nil))) ?_
  refine d_pv 7 rfl rfl (by kernel_rfl) (by kernel_rfl) rfl rfl (pv_move rfl) ?_
  refine d_weak (m' := [(29, .int .i64 ((i : Nat) : Int)), (26, .agg #[.int .i64 ((F.getD i (0, 0, 0)).1), .int .i64 ((F.getD i (0, 0, 0)).2.1)]), (25, .map (some b2)), (23, .agg #[.int .i64 ((F.getD i (0, 0, 0)).1), .int .i64 ((F.getD i (0, 0, 0)).2.1)]), (22, .map (some b2)), (7, .pointer (some ⟨b8, 0, none⟩)), (21, .agg #[.int .i64 ((F.getD i (0, 0, 0)).1), .int .i64 ((F.getD i (0, 0, 0)).2.1)]), (20, .bool true), (19, .int .i64 0), (18, .agg #[.int .i64 ((F.getD i (0, 0, 0)).1), .int .i64 ((F.getD i (0, 0, 0)).2.1), .int .i64 ((F.getD i (0, 0, 0)).2.1), .int .i64 ((F.getD i (0, 0, 0)).2.2), .int .i64 ((F.getD i (0, 0, 0)).2.2), .int .i64 ((F.getD i (0, 0, 0)).1)]), (17, .agg #[.int .i64 ((F.getD i (0, 0, 0)).1), .int .i64 ((F.getD i (0, 0, 0)).2.1), .int .i64 ((F.getD i (0, 0, 0)).2.2)]), (4, .int .i64 ((i : Nat) : Int)), (5, .pointer (some ⟨b7, 0, none⟩)), (16, .agg #[.int .i64 ((F.getD i (0, 0, 0)).1), .int .i64 ((F.getD i (0, 0, 0)).2.1), .int .i64 ((F.getD i (0, 0, 0)).2.2)]), (15, .pointer (some ⟨b4, o5, none⟩)), (14, .int .i64 ((i : Nat) : Int)), (13, .bool (decide (((i : Nat) : Int) < ((nf : Nat) : Int)))), (12, .int .i64 ((i : Nat) : Int)), (11, .int .i64 ((nf : Nat) : Int)), (10, .slice pf nf cf), (3, .map (some b2)), (2, .map none)]) (R' := [atF b4 o5 [.int .i64 ((F.getD i (0, 0, 0)).1), .int .i64 ((F.getD i (0, 0, 0)).2.1), .int .i64 ((F.getD i (0, 0, 0)).2.2)], slF (rI3 .i64) pv cv V, slF (rI3 .i64) pf cf F]) ((.of rfl) : SubM _ _) (List.Perm.refl _) (List.Perm.refl _) ((.of [0, 1, 2] rfl) : SelR _ _ _) ?_
  refine d_join (X := Nat × Option Addr × Nat) (k' := 0) (L' := #[true, true, true, true, true, true, true, true, true, true, true]) (fun (bn8n1, pn9n1, cn9n2) => ([(31, .slice pn9n1 (lz0.length + 1) cn9n2), (30, .slice (some ⟨bn8n1, 0, none⟩) 1 1), (28, .slice pz0 (lz0.length) cz0), (27, .agg #[.int .i64 (min ((F.getD i (0, 0, 0)).1) ((F.getD i (0, 0, 0)).2.1)), .int .i64 (max ((F.getD i (0, 0, 0)).1) ((F.getD i (0, 0, 0)).2.1))]), (24, .agg #[.int .i64 (min ((F.getD i (0, 0, 0)).1) ((F.getD i (0, 0, 0)).2.1)), .int .i64 (max ((F.getD i (0, 0, 0)).1) ((F.getD i (0, 0, 0)).2.1))]), (29, .int .i64 ((i : Nat) : Int)), (26, .agg #[.int .i64 ((F.getD i (0, 0, 0)).1), .int .i64 ((F.getD i (0, 0, 0)).2.1)]), (25, .map (some b2)), (23, .agg #[.int .i64 ((F.getD i (0, 0, 0)).1), .int .i64 ((F.getD i (0, 0, 0)).2.1)]), (22, .map (some b2)), (7, .pointer (some ⟨b8, 0, none⟩)), (21, .agg #[.int .i64 ((F.getD i (0, 0, 0)).1), .int .i64 ((F.getD i (0, 0, 0)).2.1)]), (20, .bool true), (19, .int .i64 0), (18, .agg #[.int .i64 ((F.getD i (0, 0, 0)).1), .int .i64 ((F.getD i (0, 0, 0)).2.1), .int .i64 ((F.getD i (0, 0, 0)).2.1), .int .i64 ((F.getD i (0, 0, 0)).2.2), .int .i64 ((F.getD i (0, 0, 0)).2.2), .int .i64 ((F.getD i (0, 0, 0)).1)]), (17, .agg #[.int .i64 ((F.getD i (0, 0, 0)).1), .int .i64 ((F.getD i (0, 0, 0)).2.1), .int .i64 ((F.getD i (0, 0, 0)).2.2)]), (4, .int .i64 ((i : Nat) : Int)), (5, .pointer (some ⟨b7, 0, none⟩)), (16, .agg #[.int .i64 ((F.getD i (0, 0, 0)).1), .int .i64 ((F.getD i (0, 0, 0)).2.1), .int .i64 ((F.getD i (0, 0, 0)).2.2)]), (15, .pointer (some ⟨b4, o5, none⟩)), (14, .int .i64 ((i : Nat) : Int)), (13, .bool (decide (((i : Nat) : Int) < ((nf : Nat) : Int)))), (12, .int .i64 ((i : Nat) : Int)), (11, .int .i64 ((nf : Nat) : Int)), (10, .slice pf nf cf), (3, .map (some b2)), (2, .map none)], [mapA b2 (fun z : Int × Int => .agg #[.int .i64 z.1, .int .i64 z.2]) (fun z : Option Addr × Nat × Nat => .slice z.1 z.2.1 z.2.2) (fun z => InK .i64 z.1 ∧ InK .i64 z.2) (mput raw0 ((min ((F.getD i (0, 0, 0)).1) ((F.getD i (0, 0, 0)).2.1)), (max ((F.getD i (0, 0, 0)).1) ((F.getD i (0, 0, 0)).2.1))) (pn9n1, lz0.length + 1, cn9n2)), rowA 3 (rI .i64) pn9n1 cn9n2 (lz0 ++ ([((i : Nat) : Int)]))], [emA, allA (mrest 3 (rI .i64) ((min ((F.getD i (0, 0, 0)).1) ((F.getD i (0, 0, 0)).2.1)), (max ((F.getD i (0, 0, 0)).1) ((F.getD i (0, 0, 0)).2.1))) raw0 (Ms.sides (F.take i))), boxA b8 73 [.int .i64 ((F.getD i (0, 0, 0)).1), .int .i64 ((F.getD i (0, 0, 0)).2.1)], boxA b7 44 [.int .i64 ((F.getD i (0, 0, 0)).1), .int .i64 ((F.getD i (0, 0, 0)).2.1), .int .i64 ((F.getD i (0, 0, 0)).2.2)], boxA b1 25 [.slice pv nv cv, .slice pf nf cf]], [slF (rI .i64) (some ⟨bn8n1, 0, none⟩) 1 ([((i : Nat) : Int)]), atF b4 o5 [.int .i64 ((F.getD i (0, 0, 0)).1), .int .i64 ((F.getD i (0, 0, 0)).2.1), .int .i64 ((F.getD i (0, 0, 0)).2.2)], slF (rI3 .i64) pv cv V, slF (rI3 .i64) pf cf F])) ?_ (fun hD0 => ?_)
  ·
   rintro ⟨bn8n1, pn9n1, cn9n2⟩
   dsimp only
   refine d_done (by kernel_rfl) ?_
   refine p_block ?_
   refine p_then ?_
   refine c_mem (fun w mm => (mm.perm (perm_c 0 rfl (perm_c 0 rfl (perm_c 1 rfl (List.Perm.refl _))))).mrClose (xs := (lz0 ++ ([((i : Nat) : Int)]))) ((min ((F.getD i (0, 0, 0)).1) ((F.getD i (0, 0, 0)).2.1)), (max ((F.getD i (0, 0, 0)).1) ((F.getD i (0, 0, 0)).2.1))) hraw0 (by simp)) ?_
   try dsimp only [List.eraseIdx]
   obtain ⟨Mq0, hMq0⟩ : ∃ z, z = Ms.sideS (Ms.sides (F.take i)) (Ms.pl (((F.getD i (0, 0, 0)).1), ((F.getD i (0, 0, 0)).2.1)), ((i : Nat) : Int)) := ⟨_, rfl⟩
   rw [show mput (Ms.sides (F.take i)) ((min ((F.getD i (0, 0, 0)).1) ((F.getD i (0, 0, 0)).2.1)), (max ((F.getD i (0, 0, 0)).1) ((F.getD i (0, 0, 0)).2.1))) (lz0 ++ ([((i : Nat) : Int)])) = Mq0 by rw [hMq0, hlz0]; rfl]
   have hsl1 := Ms.sideS_len hsl0 (Ms.pl (((F.getD i (0, 0, 0)).1), ((F.getD i (0, 0, 0)).2.1)), ((i : Nat) : Int))
   rw [← hMq0] at hsl1
   refine r_region ?_
   refine r_pv rfl rfl (pv_add (z := 1) rfl rfl (w64 (by decide))) ?_
   refine r_pv rfl rfl (pv_move rfl) ?_
   refine r_nil ?_
   refine p_again ?_
   refine u_round ?_
   refine r_seq ?_
   refine r_region ?_
   refine r_pv rfl rfl (pv_lss rfl rfl) ?_
   refine r_nil ?_
   refine p_then ?_
   refine r_seq ?_
   refine r_cond_t rfl rfl ?_
   refine r_skip ?_
   refine p_then ?_
   refine r_seq ?_
   refine r_block ?_
   refine r_seq ?_
   refine r_region ?_
   refine r_pv rfl rfl (pv_index_agg (i := 1) Try.underlying74 ty73 rfl rfl (by decide) (.skip (.skip (.take (.take .nil))))) ?_
   refine r_new rfl rfl (ef_alloc zr73 rfl) (fun b9 => ?_)
   refine r_store_box 0 rfl rfl rfl rfl rfl sz73 rfl (.take (.take .nil)) .z ?_
   refine r_nil ?_
   refine p_then ?_
   refine c_memx (fun w mm => mm.mrOpen 1 ((min ((F.getD i (0, 0, 0)).2.1) ((F.getD i (0, 0, 0)).2.2)), (max ((F.getD i (0, 0, 0)).2.1) ((F.getD i (0, 0, 0)).2.2))) rfl) ?_
   rintro ⟨raw1, pz1, cz1⟩ ⟨hraw1, hgt1⟩
   dsimp only [List.eraseIdx] at hgt1 ⊢
   obtain ⟨lz1, hlz1⟩ : ∃ z, z = (mget Mq0 ((min ((F.getD i (0, 0, 0)).2.1) ((F.getD i (0, 0, 0)).2.2)), (max ((F.getD i (0, 0, 0)).2.1) ((F.getD i (0, 0, 0)).2.2)))).getD [] := ⟨_, rfl⟩
   rw [← hlz1] at hgt1 ⊢
   have hlb1 : lz1.length ≤ 4000 := by have h9 := hsl1 ((min ((F.getD i (0, 0, 0)).2.1) ((F.getD i (0, 0, 0)).2.2)), (max ((F.getD i (0, 0, 0)).2.1) ((F.getD i (0, 0, 0)).2.2))); rw [← hlz1] at h9; omega
   refine r_weakO (.c (i := 1) rfl (.c (i := 0) rfl (.c (i := 0) rfl (.c (i := 0) rfl (.c (i := 0) rfl (.c (i := 0) rfl (.c (i := 0) rfl (.c (i := 0) rfl .n)))))))) ?_
   refine r_draw (OW := [rowA 3 (rI .i64) pz1 cz1 lz1, mapA b2 (fun z : Int × Int => .agg #[.int .i64 z.1, .int .i64 z.2]) (fun z : Option Addr × Nat × Nat => .slice z.1 z.2.1 z.2.2) (fun z => InK .i64 z.1 ∧ InK .i64 z.2) raw1]) (O := [allA (mrest 3 (rI .i64) ((min ((F.getD i (0, 0, 0)).2.1) ((F.getD i (0, 0, 0)).2.2)), (max ((F.getD i (0, 0, 0)).2.1) ((F.getD i (0, 0, 0)).2.2))) raw1 Mq0), boxA b9 73 [.int .i64 ((F.getD i (0, 0, 0)).2.1), .int .i64 ((F.getD i (0, 0, 0)).2.2)], emA, boxA b8 73 [.int .i64 ((F.getD i (0, 0, 0)).1), .int .i64 ((F.getD i (0, 0, 0)).2.1)], boxA b7 44 [.int .i64 ((F.getD i (0, 0, 0)).1), .int .i64 ((F.getD i (0, 0, 0)).2.1), .int .i64 ((F.getD i (0, 0, 0)).2.2)], boxA b1 25 [.slice pv nv cv, .slice pf nf cf]]) 9 mixed (.block (.then (.then (.block (.block (.then (.then (.block (.then .ret))))))))) (by kernel_rfl) ?_
   refine d_pv 0 rfl rfl (by kernel_rfl) (by kernel_rfl) rfl rfl (pv_move rfl) ?_
   refine d_uw 1 rfl rfl (by kernel_rfl) (by kernel_rfl) (by kernel_rfl) rfl rfl (vl_load_box_agg 3 ty73 rfl rfl (.take (.take .nil))) ?_
   refine d_pv 3 rfl rfl (by kernel_rfl) (by kernel_rfl) rfl rfl (pv_move rfl) ?_
   refine d_uw 4 rfl rfl (by kernel_rfl) (by kernel_rfl) (by kernel_rfl) rfl rfl (vl_load_box_agg 3 ty73 rfl rfl (.take (.take .nil))) ?_
   refine d_pv 7 rfl rfl (by kernel_rfl) (by kernel_rfl) rfl rfl (pv_move rfl) ?_
   refine d_weak (m' := [(29, .int .i64 ((i : Nat) : Int)), (26, .agg #[.int .i64 ((F.getD i (0, 0, 0)).2.1), .int .i64 ((F.getD i (0, 0, 0)).2.2)]), (25, .map (some b2)), (23, .agg #[.int .i64 ((F.getD i (0, 0, 0)).2.1), .int .i64 ((F.getD i (0, 0, 0)).2.2)]), (22, .map (some b2)), (7, .pointer (some ⟨b9, 0, none⟩)), (21, .agg #[.int .i64 ((F.getD i (0, 0, 0)).2.1), .int .i64 ((F.getD i (0, 0, 0)).2.2)]), (20, .bool true), (19, .int .i64 1), (32, .int .i64 1), (31, .slice pn9n1 (lz0.length + 1) cn9n2), (30, .slice (some ⟨bn8n1, 0, none⟩) 1 1), (28, .slice pz0 (lz0.length) cz0), (27, .agg #[.int .i64 (min ((F.getD i (0, 0, 0)).1) ((F.getD i (0, 0, 0)).2.1)), .int .i64 (max ((F.getD i (0, 0, 0)).1) ((F.getD i (0, 0, 0)).2.1))]), (24, .agg #[.int .i64 (min ((F.getD i (0, 0, 0)).1) ((F.getD i (0, 0, 0)).2.1)), .int .i64 (max ((F.getD i (0, 0, 0)).1) ((F.getD i (0, 0, 0)).2.1))]), (18, .agg #[.int .i64 ((F.getD i (0, 0, 0)).1), .int .i64 ((F.getD i (0, 0, 0)).2.1), .int .i64 ((F.getD i (0, 0, 0)).2.1), .int .i64 ((F.getD i (0, 0, 0)).2.2), .int .i64 ((F.getD i (0, 0, 0)).2.2), .int .i64 ((F.getD i (0, 0, 0)).1)]), (17, .agg #[.int .i64 ((F.getD i (0, 0, 0)).1), .int .i64 ((F.getD i (0, 0, 0)).2.1), .int .i64 ((F.getD i (0, 0, 0)).2.2)]), (4, .int .i64 ((i : Nat) : Int)), (5, .pointer (some ⟨b7, 0, none⟩)), (16, .agg #[.int .i64 ((F.getD i (0, 0, 0)).1), .int .i64 ((F.getD i (0, 0, 0)).2.1), .int .i64 ((F.getD i (0, 0, 0)).2.2)]), (15, .pointer (some ⟨b4, o5, none⟩)), (14, .int .i64 ((i : Nat) : Int)), (13, .bool (decide (((i : Nat) : Int) < ((nf : Nat) : Int)))), (12, .int .i64 ((i : Nat) : Int)), (11, .int .i64 ((nf : Nat) : Int)), (10, .slice pf nf cf), (3, .map (some b2)), (2, .map none)]) (R' := [slF (rI .i64) (some ⟨bn8n1, 0, none⟩) 1 ([((i : Nat) : Int)]), atF b4 o5 [.int .i64 ((F.getD i (0, 0, 0)).1), .int .i64 ((F.getD i (0, 0, 0)).2.1), .int .i64 ((F.getD i (0, 0, 0)).2.2)], slF (rI3 .i64) pv cv V, slF (rI3 .i64) pf cf F]) ((.of rfl) : SubM _ _) (List.Perm.refl _) (List.Perm.refl _) ((.of [0, 1, 2, 3] rfl) : SelR _ _ _) ?_
   refine d_join (X := Nat × Option Addr × Nat) (k' := 0) (L' := #[true, true, true, true, true, true, true, true, true, true, true]) (fun (bn8n1, pn9n1, cn9n2) => ([(31, .slice pn9n1 (lz1.length + 1) cn9n2), (30, .slice (some ⟨bn8n1, 0, none⟩) 1 1), (28, .slice pz1 (lz1.length) cz1), (27, .agg #[.int .i64 (min ((F.getD i (0, 0, 0)).2.1) ((F.getD i (0, 0, 0)).2.2)), .int .i64 (max ((F.getD i (0, 0, 0)).2.1) ((F.getD i (0, 0, 0)).2.2))]), (24, .agg #[.int .i64 (min ((F.getD i (0, 0, 0)).2.1) ((F.getD i (0, 0, 0)).2.2)), .int .i64 (max ((F.getD i (0, 0, 0)).2.1) ((F.getD i (0, 0, 0)).2.2))]), (29, .int .i64 ((i : Nat) : Int)), (26, .agg #[.int .i64 ((F.getD i (0, 0, 0)).2.1), .int .i64 ((F.getD i (0, 0, 0)).2.2)]), (25, .map (some b2)), (23, .agg #[.int .i64 ((F.getD i (0, 0, 0)).2.1), .int .i64 ((F.getD i (0, 0, 0)).2.2)]), (22, .map (some b2)), (7, .pointer (some ⟨b9, 0, none⟩)), (21, .agg #[.int .i64 ((F.getD i (0, 0, 0)).2.1), .int .i64 ((F.getD i (0, 0, 0)).2.2)]), (20, .bool true), (19, .int .i64 1), (32, .int .i64 1), (18, .agg #[.int .i64 ((F.getD i (0, 0, 0)).1), .int .i64 ((F.getD i (0, 0, 0)).2.1), .int .i64 ((F.getD i (0, 0, 0)).2.1), .int .i64 ((F.getD i (0, 0, 0)).2.2), .int .i64 ((F.getD i (0, 0, 0)).2.2), .int .i64 ((F.getD i (0, 0, 0)).1)]), (17, .agg #[.int .i64 ((F.getD i (0, 0, 0)).1), .int .i64 ((F.getD i (0, 0, 0)).2.1), .int .i64 ((F.getD i (0, 0, 0)).2.2)]), (4, .int .i64 ((i : Nat) : Int)), (5, .pointer (some ⟨b7, 0, none⟩)), (16, .agg #[.int .i64 ((F.getD i (0, 0, 0)).1), .int .i64 ((F.getD i (0, 0, 0)).2.1), .int .i64 ((F.getD i (0, 0, 0)).2.2)]), (15, .pointer (some ⟨b4, o5, none⟩)), (14, .int .i64 ((i : Nat) : Int)), (13, .bool (decide (((i : Nat) : Int) < ((nf : Nat) : Int)))), (12, .int .i64 ((i : Nat) : Int)), (11, .int .i64 ((nf : Nat) : Int)), (10, .slice pf nf cf), (3, .map (some b2)), (2, .map none)], [mapA b2 (fun z : Int × Int => .agg #[.int .i64 z.1, .int .i64 z.2]) (fun z : Option Addr × Nat × Nat => .slice z.1 z.2.1 z.2.2) (fun z => InK .i64 z.1 ∧ InK .i64 z.2) (mput raw1 ((min ((F.getD i (0, 0, 0)).2.1) ((F.getD i (0, 0, 0)).2.2)), (max ((F.getD i (0, 0, 0)).2.1) ((F.getD i (0, 0, 0)).2.2))) (pn9n1, lz1.length + 1, cn9n2)), rowA 3 (rI .i64) pn9n1 cn9n2 (lz1 ++ ([((i : Nat) : Int)]))], [emA, allA (mrest 3 (rI .i64) ((min ((F.getD i (0, 0, 0)).2.1) ((F.getD i (0, 0, 0)).2.2)), (max ((F.getD i (0, 0, 0)).2.1) ((F.getD i (0, 0, 0)).2.2))) raw1 Mq0), boxA b9 73 [.int .i64 ((F.getD i (0, 0, 0)).2.1), .int .i64 ((F.getD i (0, 0, 0)).2.2)], emA, boxA b8 73 [.int .i64 ((F.getD i (0, 0, 0)).1), .int .i64 ((F.getD i (0, 0, 0)).2.1)], boxA b7 44 [.int .i64 ((F.getD i (0, 0, 0)).1), .int .i64 ((F.getD i (0, 0, 0)).2.1), .int .i64 ((F.getD i (0, 0, 0)).2.2)], boxA b1 25 [.slice pv nv cv, .slice pf nf cf]], [slF (rI .i64) (some ⟨bn8n1, 0, none⟩) 1 ([((i : Nat) : Int)]), slF (rI .i64) (some ⟨bn8n1, 0, none⟩) 1 ([((i : Nat) : Int)]), atF b4 o5 [.int .i64 ((F.getD i (0, 0, 0)).1), .int .i64 ((F.getD i (0, 0, 0)).2.1), .int .i64 ((F.getD i (0, 0, 0)).2.2)], slF (rI3 .i64) pv cv V, slF (rI3 .i64) pf cf F])) ?_ (fun hD0 => ?_)
   ·
    rintro ⟨bn8n1, pn9n1, cn9n2⟩
    dsimp only
    refine d_done (by kernel_rfl) ?_
    refine p_block ?_
    refine p_then ?_
    refine c_mem (fun w mm => (mm.perm (perm_c 0 rfl (perm_c 0 rfl (perm_c 1 rfl (List.Perm.refl _))))).mrClose (xs := (lz1 ++ ([((i : Nat) : Int)]))) ((min ((F.getD i (0, 0, 0)).2.1) ((F.getD i (0, 0, 0)).2.2)), (max ((F.getD i (0, 0, 0)).2.1) ((F.getD i (0, 0, 0)).2.2))) hraw1 (by simp)) ?_
    try dsimp only [List.eraseIdx]
    obtain ⟨Mq1, hMq1⟩ : ∃ z, z = Ms.sideS Mq0 (Ms.pl (((F.getD i (0, 0, 0)).2.1), ((F.getD i (0, 0, 0)).2.2)), ((i : Nat) : Int)) := ⟨_, rfl⟩
    rw [show mput Mq0 ((min ((F.getD i (0, 0, 0)).2.1) ((F.getD i (0, 0, 0)).2.2)), (max ((F.getD i (0, 0, 0)).2.1) ((F.getD i (0, 0, 0)).2.2))) (lz1 ++ ([((i : Nat) : Int)])) = Mq1 by rw [hMq1, hlz1]; rfl]
    have hsl2 := Ms.sideS_len hsl1 (Ms.pl (((F.getD i (0, 0, 0)).2.1), ((F.getD i (0, 0, 0)).2.2)), ((i : Nat) : Int))
    rw [← hMq1] at hsl2
    refine r_region ?_
    refine r_pv rfl rfl (pv_add (z := 2) rfl rfl (w64 (by decide))) ?_
    refine r_pv rfl rfl (pv_move rfl) ?_
    refine r_nil ?_
    refine p_again ?_
    refine u_round ?_
    refine r_seq ?_
    refine r_region ?_
    refine r_pv rfl rfl (pv_lss rfl rfl) ?_
    refine r_nil ?_
    refine p_then ?_
    refine r_seq ?_
    refine r_cond_t rfl rfl ?_
    refine r_skip ?_
    refine p_then ?_
    refine r_seq ?_
    refine r_block ?_
    refine r_seq ?_
    refine r_region ?_
    refine r_pv rfl rfl (pv_index_agg (i := 2) Try.underlying74 ty73 rfl rfl (by decide) (.skip (.skip (.skip (.skip (.take (.take .nil))))))) ?_
    refine r_new rfl rfl (ef_alloc zr73 rfl) (fun b10 => ?_)
    refine r_store_box 0 rfl rfl rfl rfl rfl sz73 rfl (.take (.take .nil)) .z ?_
    refine r_nil ?_
    refine p_then ?_
    refine c_memx (fun w mm => mm.mrOpen 1 ((min ((F.getD i (0, 0, 0)).2.2) ((F.getD i (0, 0, 0)).1)), (max ((F.getD i (0, 0, 0)).2.2) ((F.getD i (0, 0, 0)).1))) rfl) ?_
    rintro ⟨raw2, pz2, cz2⟩ ⟨hraw2, hgt2⟩
    dsimp only [List.eraseIdx] at hgt2 ⊢
    obtain ⟨lz2, hlz2⟩ : ∃ z, z = (mget Mq1 ((min ((F.getD i (0, 0, 0)).2.2) ((F.getD i (0, 0, 0)).1)), (max ((F.getD i (0, 0, 0)).2.2) ((F.getD i (0, 0, 0)).1)))).getD [] := ⟨_, rfl⟩
    rw [← hlz2] at hgt2 ⊢
    have hlb2 : lz2.length ≤ 4000 := by have h9 := hsl2 ((min ((F.getD i (0, 0, 0)).2.2) ((F.getD i (0, 0, 0)).1)), (max ((F.getD i (0, 0, 0)).2.2) ((F.getD i (0, 0, 0)).1))); rw [← hlz2] at h9; omega
    refine r_weakO (.c (i := 1) rfl (.c (i := 0) rfl (.c (i := 0) rfl (.c (i := 0) rfl (.c (i := 0) rfl (.c (i := 0) rfl (.c (i := 0) rfl (.c (i := 0) rfl (.c (i := 0) rfl (.c (i := 0) rfl .n)))))))))) ?_
    refine r_draw (OW := [rowA 3 (rI .i64) pz2 cz2 lz2, mapA b2 (fun z : Int × Int => .agg #[.int .i64 z.1, .int .i64 z.2]) (fun z : Option Addr × Nat × Nat => .slice z.1 z.2.1 z.2.2) (fun z => InK .i64 z.1 ∧ InK .i64 z.2) raw2]) (O := [allA (mrest 3 (rI .i64) ((min ((F.getD i (0, 0, 0)).2.2) ((F.getD i (0, 0, 0)).1)), (max ((F.getD i (0, 0, 0)).2.2) ((F.getD i (0, 0, 0)).1))) raw2 Mq1), boxA b10 73 [.int .i64 ((F.getD i (0, 0, 0)).2.2), .int .i64 ((F.getD i (0, 0, 0)).1)], emA, boxA b9 73 [.int .i64 ((F.getD i (0, 0, 0)).2.1), .int .i64 ((F.getD i (0, 0, 0)).2.2)], emA, boxA b8 73 [.int .i64 ((F.getD i (0, 0, 0)).1), .int .i64 ((F.getD i (0, 0, 0)).2.1)], boxA b7 44 [.int .i64 ((F.getD i (0, 0, 0)).1), .int .i64 ((F.getD i (0, 0, 0)).2.1), .int .i64 ((F.getD i (0, 0, 0)).2.2)], boxA b1 25 [.slice pv nv cv, .slice pf nf cf]]) 9 mixed (.block (.then (.then (.block (.block (.then (.then (.block (.then .ret))))))))) (by kernel_rfl) ?_
    refine d_pv 0 rfl rfl (by kernel_rfl) (by kernel_rfl) rfl rfl (pv_move rfl) ?_
    refine d_uw 1 rfl rfl (by kernel_rfl) (by kernel_rfl) (by kernel_rfl) rfl rfl (vl_load_box_agg 3 ty73 rfl rfl (.take (.take .nil))) ?_
    refine d_pv 3 rfl rfl (by kernel_rfl) (by kernel_rfl) rfl rfl (pv_move rfl) ?_
    refine d_uw 4 rfl rfl (by kernel_rfl) (by kernel_rfl) (by kernel_rfl) rfl rfl (vl_load_box_agg 3 ty73 rfl rfl (.take (.take .nil))) ?_
    refine d_pv 7 rfl rfl (by kernel_rfl) (by kernel_rfl) rfl rfl (pv_move rfl) ?_
    refine d_weak (m' := [(29, .int .i64 ((i : Nat) : Int)), (26, .agg #[.int .i64 ((F.getD i (0, 0, 0)).2.2), .int .i64 ((F.getD i (0, 0, 0)).1)]), (25, .map (some b2)), (23, .agg #[.int .i64 ((F.getD i (0, 0, 0)).2.2), .int .i64 ((F.getD i (0, 0, 0)).1)]), (22, .map (some b2)), (7, .pointer (some ⟨b10, 0, none⟩)), (21, .agg #[.int .i64 ((F.getD i (0, 0, 0)).2.2), .int .i64 ((F.getD i (0, 0, 0)).1)]), (20, .bool true), (19, .int .i64 2), (32, .int .i64 2), (31, .slice pn9n1 (lz1.length + 1) cn9n2), (30, .slice (some ⟨bn8n1, 0, none⟩) 1 1), (28, .slice pz1 (lz1.length) cz1), (27, .agg #[.int .i64 (min ((F.getD i (0, 0, 0)).2.1) ((F.getD i (0, 0, 0)).2.2)), .int .i64 (max ((F.getD i (0, 0, 0)).2.1) ((F.getD i (0, 0, 0)).2.2))]), (24, .agg #[.int .i64 (min ((F.getD i (0, 0, 0)).2.1) ((F.getD i (0, 0, 0)).2.2)), .int .i64 (max ((F.getD i (0, 0, 0)).2.1) ((F.getD i (0, 0, 0)).2.2))]), (18, .agg #[.int .i64 ((F.getD i (0, 0, 0)).1), .int .i64 ((F.getD i (0, 0, 0)).2.1), .int .i64 ((F.getD i (0, 0, 0)).2.1), .int .i64 ((F.getD i (0, 0, 0)).2.2), .int .i64 ((F.getD i (0, 0, 0)).2.2), .int .i64 ((F.getD i (0, 0, 0)).1)]), (17, .agg #[.int .i64 ((F.getD i (0, 0, 0)).1), .int .i64 ((F.getD i (0, 0, 0)).2.1), .int .i64 ((F.getD i (0, 0, 0)).2.2)]), (4, .int .i64 ((i : Nat) : Int)), (5, .pointer (some ⟨b7, 0, none⟩)), (16, .agg #[.int .i64 ((F.getD i (0, 0, 0)).1), .int .i64 ((F.getD i (0, 0, 0)).2.1), .int .i64 ((F.getD i (0, 0, 0)).2.2)]), (15, .pointer (some ⟨b4, o5, none⟩)), (14, .int .i64 ((i : Nat) : Int)), (13, .bool (decide (((i : Nat) : Int) < ((nf : Nat) : Int)))), (12, .int .i64 ((i : Nat) : Int)), (11, .int .i64 ((nf : Nat) : Int)), (10, .slice pf nf cf), (3, .map (some b2)), (2, .map none)]) (R' := [slF (rI .i64) (some ⟨bn8n1, 0, none⟩) 1 ([((i : Nat) : Int)]), slF (rI .i64) (some ⟨bn8n1, 0, none⟩) 1 ([((i : Nat) : Int)]), atF b4 o5 [.int .i64 ((F.getD i (0, 0, 0)).1), .int .i64 ((F.getD i (0, 0, 0)).2.1), .int .i64 ((F.getD i (0, 0, 0)).2.2)], slF (rI3 .i64) pv cv V, slF (rI3 .i64) pf cf F]) ((.of rfl) : SubM _ _) (List.Perm.refl _) (List.Perm.refl _) ((.of [0, 0, 2, 3, 4] rfl) : SelR _ _ _) ?_
    refine d_join (X := Nat × Option Addr × Nat) (k' := 0) (L' := #[true, true, true, true, true, true, true, true, true, true, true]) (fun (bn8n1, pn9n1, cn9n2) => ([(31, .slice pn9n1 (lz2.length + 1) cn9n2), (30, .slice (some ⟨bn8n1, 0, none⟩) 1 1), (28, .slice pz2 (lz2.length) cz2), (27, .agg #[.int .i64 (min ((F.getD i (0, 0, 0)).2.2) ((F.getD i (0, 0, 0)).1)), .int .i64 (max ((F.getD i (0, 0, 0)).2.2) ((F.getD i (0, 0, 0)).1))]), (24, .agg #[.int .i64 (min ((F.getD i (0, 0, 0)).2.2) ((F.getD i (0, 0, 0)).1)), .int .i64 (max ((F.getD i (0, 0, 0)).2.2) ((F.getD i (0, 0, 0)).1))]), (29, .int .i64 ((i : Nat) : Int)), (26, .agg #[.int .i64 ((F.getD i (0, 0, 0)).2.2), .int .i64 ((F.getD i (0, 0, 0)).1)]), (25, .map (some b2)), (23, .agg #[.int .i64 ((F.getD i (0, 0, 0)).2.2), .int .i64 ((F.getD i (0, 0, 0)).1)]), (22, .map (some b2)), (7, .pointer (some ⟨b10, 0, none⟩)), (21, .agg #[.int .i64 ((F.getD i (0, 0, 0)).2.2), .int .i64 ((F.getD i (0, 0, 0)).1)]), (20, .bool true), (19, .int .i64 2), (32, .int .i64 2), (18, .agg #[.int .i64 ((F.getD i (0, 0, 0)).1), .int .i64 ((F.getD i (0, 0, 0)).2.1), .int .i64 ((F.getD i (0, 0, 0)).2.1), .int .i64 ((F.getD i (0, 0, 0)).2.2), .int .i64 ((F.getD i (0, 0, 0)).2.2), .int .i64 ((F.getD i (0, 0, 0)).1)]), (17, .agg #[.int .i64 ((F.getD i (0, 0, 0)).1), .int .i64 ((F.getD i (0, 0, 0)).2.1), .int .i64 ((F.getD i (0, 0, 0)).2.2)]), (4, .int .i64 ((i : Nat) : Int)), (5, .pointer (some ⟨b7, 0, none⟩)), (16, .agg #[.int .i64 ((F.getD i (0, 0, 0)).1), .int .i64 ((F.getD i (0, 0, 0)).2.1), .int .i64 ((F.getD i (0, 0, 0)).2.2)]), (15, .pointer (some ⟨b4, o5, none⟩)), (14, .int .i64 ((i : Nat) : Int)), (13, .bool (decide (((i : Nat) : Int) < ((nf : Nat) : Int)))), (12, .int .i64 ((i : Nat) : Int)), (11, .int .i64 ((nf : Nat) : Int)), (10, .slice pf nf cf), (3, .map (some b2)), (2, .map none)], [mapA b2 (fun z : Int × Int => .agg #[.int .i64 z.1, .int .i64 z.2]) (fun z : Option Addr × Nat × Nat => .slice z.1 z.2.1 z.2.2) (fun z => InK .i64 z.1 ∧ InK .i64 z.2) (mput raw2 ((min ((F.getD i (0, 0, 0)).2.2) ((F.getD i (0, 0, 0)).1)), (max ((F.getD i (0, 0, 0)).2.2) ((F.getD i (0, 0, 0)).1))) (pn9n1, lz2.length + 1, cn9n2)), rowA 3 (rI .i64) pn9n1 cn9n2 (lz2 ++ ([((i : Nat) : Int)]))], [emA, allA (mrest 3 (rI .i64) ((min ((F.getD i (0, 0, 0)).2.2) ((F.getD i (0, 0, 0)).1)), (max ((F.getD i (0, 0, 0)).2.2) ((F.getD i (0, 0, 0)).1))) raw2 Mq1), boxA b10 73 [.int .i64 ((F.getD i (0, 0, 0)).2.2), .int .i64 ((F.getD i (0, 0, 0)).1)], emA, boxA b9 73 [.int .i64 ((F.getD i (0, 0, 0)).2.1), .int .i64 ((F.getD i (0, 0, 0)).2.2)], emA, boxA b8 73 [.int .i64 ((F.getD i (0, 0, 0)).1), .int .i64 ((F.getD i (0, 0, 0)).2.1)], boxA b7 44 [.int .i64 ((F.getD i (0, 0, 0)).1), .int .i64 ((F.getD i (0, 0, 0)).2.1), .int .i64 ((F.getD i (0, 0, 0)).2.2)], boxA b1 25 [.slice pv nv cv, .slice pf nf cf]], [slF (rI .i64) (some ⟨bn8n1, 0, none⟩) 1 ([((i : Nat) : Int)]), slF (rI .i64) (some ⟨bn8n1, 0, none⟩) 1 ([((i : Nat) : Int)]), slF (rI .i64) (some ⟨bn8n1, 0, none⟩) 1 ([((i : Nat) : Int)]), atF b4 o5 [.int .i64 ((F.getD i (0, 0, 0)).1), .int .i64 ((F.getD i (0, 0, 0)).2.1), .int .i64 ((F.getD i (0, 0, 0)).2.2)], slF (rI3 .i64) pv cv V, slF (rI3 .i64) pf cf F])) ?_ (fun hD0 => ?_)
    ·
     rintro ⟨bn8n1, pn9n1, cn9n2⟩
     dsimp only
     refine d_done (by kernel_rfl) ?_
     refine p_block ?_
     refine p_then ?_
     refine c_mem (fun w mm => (mm.perm (perm_c 0 rfl (perm_c 0 rfl (perm_c 1 rfl (List.Perm.refl _))))).mrClose (xs := (lz2 ++ ([((i : Nat) : Int)]))) ((min ((F.getD i (0, 0, 0)).2.2) ((F.getD i (0, 0, 0)).1)), (max ((F.getD i (0, 0, 0)).2.2) ((F.getD i (0, 0, 0)).1))) hraw2 (by simp)) ?_
     try dsimp only [List.eraseIdx]
     obtain ⟨Mq2, hMq2⟩ : ∃ z, z = Ms.sideS Mq1 (Ms.pl (((F.getD i (0, 0, 0)).2.2), ((F.getD i (0, 0, 0)).1)), ((i : Nat) : Int)) := ⟨_, rfl⟩
     rw [show mput Mq1 ((min ((F.getD i (0, 0, 0)).2.2) ((F.getD i (0, 0, 0)).1)), (max ((F.getD i (0, 0, 0)).2.2) ((F.getD i (0, 0, 0)).1))) (lz2 ++ ([((i : Nat) : Int)])) = Mq2 by rw [hMq2, hlz2]; rfl]
     have hsl3 := Ms.sideS_len hsl2 (Ms.pl (((F.getD i (0, 0, 0)).2.2), ((F.getD i (0, 0, 0)).1)), ((i : Nat) : Int))
     rw [← hMq2] at hsl3
     refine r_region ?_
     refine r_pv rfl rfl (pv_add (z := 3) rfl rfl (w64 (by decide))) ?_
     refine r_pv rfl rfl (pv_move rfl) ?_
     refine r_nil ?_
     refine p_again ?_
     refine u_round ?_
     refine r_seq ?_
     refine r_region ?_
     refine r_pv rfl rfl (pv_lss rfl rfl) ?_
     refine r_nil ?_
     refine p_then ?_
     refine r_seq ?_
     refine r_cond_f rfl rfl ?_
     refine r_exit ?_
     refine p_then_exit ?_
     refine p_then_exit ?_
     refine p_block_here ?_
     refine p_block ?_
     refine p_then ?_
     refine r_region ?_
     refine r_pv rfl rfl (pv_add (z := (((i + 1) : Nat) : Int)) rfl rfl (w64 (by omega))) ?_
     refine r_pv rfl rfl (pv_move rfl) ?_
     refine r_nil ?_
     refine p_next (i + 1) (show (i + 1) ≤ nf from by exact (by omega : i + 1 ≤ nf)) (by show nf - (i + 1) < nf - i; omega) ((.of rfl) : SubM _ _) (ho := ((.e (i := 0) rfl (by rw [hMq2, hMq1, hMq0, Ms.sides_take (by omega)]) (.c (i := 7) rfl .n)) : PickO _ _ _)) ((.of [4, 5] rfl) : SelR _ _ _)
    refine d_join (X := Nat × Option Addr × Nat) (k' := 1) (L' := #[true, true, true, true, true, true, true, true, true, true, false]) (fun (bn8n1, pn9n1, cn9n2) => ([(31, .slice pn9n1 (lz2.length + 1) cn9n2), (30, .slice (some ⟨bn8n1, 0, none⟩) 1 1), (28, .slice pz2 (lz2.length) cz2), (27, .agg #[.int .i64 (min ((F.getD i (0, 0, 0)).2.2) ((F.getD i (0, 0, 0)).1)), .int .i64 (max ((F.getD i (0, 0, 0)).2.2) ((F.getD i (0, 0, 0)).1))]), (24, .agg #[.int .i64 (min ((F.getD i (0, 0, 0)).2.2) ((F.getD i (0, 0, 0)).1)), .int .i64 (max ((F.getD i (0, 0, 0)).2.2) ((F.getD i (0, 0, 0)).1))]), (29, .int .i64 ((i : Nat) : Int)), (26, .agg #[.int .i64 ((F.getD i (0, 0, 0)).2.2), .int .i64 ((F.getD i (0, 0, 0)).1)]), (25, .map (some b2)), (23, .agg #[.int .i64 ((F.getD i (0, 0, 0)).2.2), .int .i64 ((F.getD i (0, 0, 0)).1)]), (22, .map (some b2)), (7, .pointer (some ⟨b10, 0, none⟩)), (21, .agg #[.int .i64 ((F.getD i (0, 0, 0)).2.2), .int .i64 ((F.getD i (0, 0, 0)).1)]), (20, .bool true), (19, .int .i64 2), (32, .int .i64 2), (18, .agg #[.int .i64 ((F.getD i (0, 0, 0)).1), .int .i64 ((F.getD i (0, 0, 0)).2.1), .int .i64 ((F.getD i (0, 0, 0)).2.1), .int .i64 ((F.getD i (0, 0, 0)).2.2), .int .i64 ((F.getD i (0, 0, 0)).2.2), .int .i64 ((F.getD i (0, 0, 0)).1)]), (17, .agg #[.int .i64 ((F.getD i (0, 0, 0)).1), .int .i64 ((F.getD i (0, 0, 0)).2.1), .int .i64 ((F.getD i (0, 0, 0)).2.2)]), (4, .int .i64 ((i : Nat) : Int)), (5, .pointer (some ⟨b7, 0, none⟩)), (16, .agg #[.int .i64 ((F.getD i (0, 0, 0)).1), .int .i64 ((F.getD i (0, 0, 0)).2.1), .int .i64 ((F.getD i (0, 0, 0)).2.2)]), (15, .pointer (some ⟨b4, o5, none⟩)), (14, .int .i64 ((i : Nat) : Int)), (13, .bool (decide (((i : Nat) : Int) < ((nf : Nat) : Int)))), (12, .int .i64 ((i : Nat) : Int)), (11, .int .i64 ((nf : Nat) : Int)), (10, .slice pf nf cf), (3, .map (some b2)), (2, .map none)], [rowA 3 (rI .i64) pn9n1 cn9n2 (lz2 ++ ([((i : Nat) : Int)])), mapA b2 (fun z : Int × Int => .agg #[.int .i64 z.1, .int .i64 z.2]) (fun z : Option Addr × Nat × Nat => .slice z.1 z.2.1 z.2.2) (fun z => InK .i64 z.1 ∧ InK .i64 z.2) raw2], [emA, allA (mrest 3 (rI .i64) ((min ((F.getD i (0, 0, 0)).2.2) ((F.getD i (0, 0, 0)).1)), (max ((F.getD i (0, 0, 0)).2.2) ((F.getD i (0, 0, 0)).1))) raw2 Mq1), boxA b10 73 [.int .i64 ((F.getD i (0, 0, 0)).2.2), .int .i64 ((F.getD i (0, 0, 0)).1)], emA, boxA b9 73 [.int .i64 ((F.getD i (0, 0, 0)).2.1), .int .i64 ((F.getD i (0, 0, 0)).2.2)], emA, boxA b8 73 [.int .i64 ((F.getD i (0, 0, 0)).1), .int .i64 ((F.getD i (0, 0, 0)).2.1)], boxA b7 44 [.int .i64 ((F.getD i (0, 0, 0)).1), .int .i64 ((F.getD i (0, 0, 0)).2.1), .int .i64 ((F.getD i (0, 0, 0)).2.2)], boxA b1 25 [.slice pv nv cv, .slice pf nf cf]], [slF (rI .i64) (some ⟨bn8n1, 0, none⟩) 1 ([((i : Nat) : Int)]), slF (rI .i64) (some ⟨bn8n1, 0, none⟩) 1 ([((i : Nat) : Int)]), slF (rI .i64) (some ⟨bn8n1, 0, none⟩) 1 ([((i : Nat) : Int)]), atF b4 o5 [.int .i64 ((F.getD i (0, 0, 0)).1), .int .i64 ((F.getD i (0, 0, 0)).2.1), .int .i64 ((F.getD i (0, 0, 0)).2.2)], slF (rI3 .i64) pv cv V, slF (rI3 .i64) pf cf F])) ?_ (fun hD1 => ?_)
    ·
     rintro ⟨bn8n1, pn9n1, cn9n2⟩
     dsimp only
     refine d_one 10 (by kernel_rfl) ?_
     ·
      refine o_permW (perm_front (i := 1) rfl) ?_
      refine o_efw (A' := fun _ => mapA b2 (fun z : Int × Int => .agg #[.int .i64 z.1, .int .i64 z.2]) (fun z : Option Addr × Nat × Nat => .slice z.1 z.2.1 z.2.2) (fun z => InK .i64 z.1 ∧ InK .i64 z.2) (mput raw2 ((min ((F.getD i (0, 0, 0)).2.2) ((F.getD i (0, 0, 0)).1)), (max ((F.getD i (0, 0, 0)).2.2) ((F.getD i (0, 0, 0)).1))) (pn9n1, lz2.length + 1, cn9n2))) (by kernel_rfl) rfl rfl rfl (ef_update (a0 := ((min ((F.getD i (0, 0, 0)).2.2) ((F.getD i (0, 0, 0)).1)), (max ((F.getD i (0, 0, 0)).2.2) ((F.getD i (0, 0, 0)).1)))) (v := (pn9n1, lz2.length + 1, cn9n2)) ky73 Try.underlying98 rfl rfl rfl (⟨inK_i64.2 (by omega), inK_i64.2 (by omega)⟩)) (fun _ _ => ?_)
      exact d_weakT (hD0 (bn8n1, pn9n1, cn9n2)) (by kernel_rfl) ((.of rfl) : SubM _ _) .rfl .rfl ((.of [0, 0, 0, 3, 4, 5] rfl) : SelR _ _ _)
    refine d_join (X := Nat) (k' := 2) (L' := #[true, true, true, true, true, true, true, true, true, false, false]) (fun bn8n1 => ([(30, .slice (some ⟨bn8n1, 0, none⟩) 1 1), (28, .slice pz2 (lz2.length) cz2), (27, .agg #[.int .i64 (min ((F.getD i (0, 0, 0)).2.2) ((F.getD i (0, 0, 0)).1)), .int .i64 (max ((F.getD i (0, 0, 0)).2.2) ((F.getD i (0, 0, 0)).1))]), (24, .agg #[.int .i64 (min ((F.getD i (0, 0, 0)).2.2) ((F.getD i (0, 0, 0)).1)), .int .i64 (max ((F.getD i (0, 0, 0)).2.2) ((F.getD i (0, 0, 0)).1))]), (29, .int .i64 ((i : Nat) : Int)), (26, .agg #[.int .i64 ((F.getD i (0, 0, 0)).2.2), .int .i64 ((F.getD i (0, 0, 0)).1)]), (25, .map (some b2)), (23, .agg #[.int .i64 ((F.getD i (0, 0, 0)).2.2), .int .i64 ((F.getD i (0, 0, 0)).1)]), (22, .map (some b2)), (7, .pointer (some ⟨b10, 0, none⟩)), (21, .agg #[.int .i64 ((F.getD i (0, 0, 0)).2.2), .int .i64 ((F.getD i (0, 0, 0)).1)]), (20, .bool true), (19, .int .i64 2), (32, .int .i64 2), (31, .slice pn9n1 (lz1.length + 1) cn9n2), (18, .agg #[.int .i64 ((F.getD i (0, 0, 0)).1), .int .i64 ((F.getD i (0, 0, 0)).2.1), .int .i64 ((F.getD i (0, 0, 0)).2.1), .int .i64 ((F.getD i (0, 0, 0)).2.2), .int .i64 ((F.getD i (0, 0, 0)).2.2), .int .i64 ((F.getD i (0, 0, 0)).1)]), (17, .agg #[.int .i64 ((F.getD i (0, 0, 0)).1), .int .i64 ((F.getD i (0, 0, 0)).2.1), .int .i64 ((F.getD i (0, 0, 0)).2.2)]), (4, .int .i64 ((i : Nat) : Int)), (5, .pointer (some ⟨b7, 0, none⟩)), (16, .agg #[.int .i64 ((F.getD i (0, 0, 0)).1), .int .i64 ((F.getD i (0, 0, 0)).2.1), .int .i64 ((F.getD i (0, 0, 0)).2.2)]), (15, .pointer (some ⟨b4, o5, none⟩)), (14, .int .i64 ((i : Nat) : Int)), (13, .bool (decide (((i : Nat) : Int) < ((nf : Nat) : Int)))), (12, .int .i64 ((i : Nat) : Int)), (11, .int .i64 ((nf : Nat) : Int)), (10, .slice pf nf cf), (3, .map (some b2)), (2, .map none)], [rowA 3 (rI .i64) pz2 cz2 lz2, mapA b2 (fun z : Int × Int => .agg #[.int .i64 z.1, .int .i64 z.2]) (fun z : Option Addr × Nat × Nat => .slice z.1 z.2.1 z.2.2) (fun z => InK .i64 z.1 ∧ InK .i64 z.2) raw2], [emA, allA (mrest 3 (rI .i64) ((min ((F.getD i (0, 0, 0)).2.2) ((F.getD i (0, 0, 0)).1)), (max ((F.getD i (0, 0, 0)).2.2) ((F.getD i (0, 0, 0)).1))) raw2 Mq1), boxA b10 73 [.int .i64 ((F.getD i (0, 0, 0)).2.2), .int .i64 ((F.getD i (0, 0, 0)).1)], emA, boxA b9 73 [.int .i64 ((F.getD i (0, 0, 0)).2.1), .int .i64 ((F.getD i (0, 0, 0)).2.2)], emA, boxA b8 73 [.int .i64 ((F.getD i (0, 0, 0)).1), .int .i64 ((F.getD i (0, 0, 0)).2.1)], boxA b7 44 [.int .i64 ((F.getD i (0, 0, 0)).1), .int .i64 ((F.getD i (0, 0, 0)).2.1), .int .i64 ((F.getD i (0, 0, 0)).2.2)], boxA b1 25 [.slice pv nv cv, .slice pf nf cf]], [slF (rI .i64) (some ⟨bn8n1, 0, none⟩) 1 ([((i : Nat) : Int)]), slF (rI .i64) (some ⟨bn8n1, 0, none⟩) 1 ([((i : Nat) : Int)]), slF (rI .i64) (some ⟨bn8n1, 0, none⟩) 1 ([((i : Nat) : Int)]), atF b4 o5 [.int .i64 ((F.getD i (0, 0, 0)).1), .int .i64 ((F.getD i (0, 0, 0)).2.1), .int .i64 ((F.getD i (0, 0, 0)).2.2)], slF (rI3 .i64) pv cv V, slF (rI3 .i64) pf cf F])) ?_ (fun hD2 => ?_)
    ·
     rintro bn8n1
     dsimp only
     refine d_one 9 (by kernel_rfl) ?_
     ·
      refine o_efw (A' := fun v : Option Addr × Nat => rowA 3 (rI .i64) v.1 v.2 (lz2 ++ ([((i : Nat) : Int)]))) (by kernel_rfl) rfl rfl rfl (ef_append 0 rfl Try.underlying50 inf3 (by decide) rfl rfl (by first | rfl | assumption | (simp; done) | omega) rfl (by first | rfl | assumption | (simp; done) | omega) (by omega) (by omega)) ?_
      rintro ⟨pn9n1, cn9n2⟩ -
      dsimp only [List.append_eq, List.nil_append, List.cons_append]
      exact d_weakT (hD1 (bn8n1, pn9n1, cn9n2)) (by kernel_rfl) ((.of rfl) : SubM _ _) .rfl .rfl ((.of [0, 0, 0, 3, 4, 5] rfl) : SelR _ _ _)
    refine d_join (X := Unit) (k' := 3) (L' := #[true, true, true, true, true, true, true, true, false, false, false]) (fun _ => ([(28, .slice pz2 (lz2.length) cz2), (27, .agg #[.int .i64 (min ((F.getD i (0, 0, 0)).2.2) ((F.getD i (0, 0, 0)).1)), .int .i64 (max ((F.getD i (0, 0, 0)).2.2) ((F.getD i (0, 0, 0)).1))]), (24, .agg #[.int .i64 (min ((F.getD i (0, 0, 0)).2.2) ((F.getD i (0, 0, 0)).1)), .int .i64 (max ((F.getD i (0, 0, 0)).2.2) ((F.getD i (0, 0, 0)).1))]), (29, .int .i64 ((i : Nat) : Int)), (26, .agg #[.int .i64 ((F.getD i (0, 0, 0)).2.2), .int .i64 ((F.getD i (0, 0, 0)).1)]), (25, .map (some b2)), (23, .agg #[.int .i64 ((F.getD i (0, 0, 0)).2.2), .int .i64 ((F.getD i (0, 0, 0)).1)]), (22, .map (some b2)), (7, .pointer (some ⟨b10, 0, none⟩)), (21, .agg #[.int .i64 ((F.getD i (0, 0, 0)).2.2), .int .i64 ((F.getD i (0, 0, 0)).1)]), (20, .bool true), (19, .int .i64 2), (32, .int .i64 2), (31, .slice pn9n1 (lz1.length + 1) cn9n2), (30, .slice (some ⟨bn8n1, 0, none⟩) 1 1), (18, .agg #[.int .i64 ((F.getD i (0, 0, 0)).1), .int .i64 ((F.getD i (0, 0, 0)).2.1), .int .i64 ((F.getD i (0, 0, 0)).2.1), .int .i64 ((F.getD i (0, 0, 0)).2.2), .int .i64 ((F.getD i (0, 0, 0)).2.2), .int .i64 ((F.getD i (0, 0, 0)).1)]), (17, .agg #[.int .i64 ((F.getD i (0, 0, 0)).1), .int .i64 ((F.getD i (0, 0, 0)).2.1), .int .i64 ((F.getD i (0, 0, 0)).2.2)]), (4, .int .i64 ((i : Nat) : Int)), (5, .pointer (some ⟨b7, 0, none⟩)), (16, .agg #[.int .i64 ((F.getD i (0, 0, 0)).1), .int .i64 ((F.getD i (0, 0, 0)).2.1), .int .i64 ((F.getD i (0, 0, 0)).2.2)]), (15, .pointer (some ⟨b4, o5, none⟩)), (14, .int .i64 ((i : Nat) : Int)), (13, .bool (decide (((i : Nat) : Int) < ((nf : Nat) : Int)))), (12, .int .i64 ((i : Nat) : Int)), (11, .int .i64 ((nf : Nat) : Int)), (10, .slice pf nf cf), (3, .map (some b2)), (2, .map none)], [rowA 3 (rI .i64) pz2 cz2 lz2, mapA b2 (fun z : Int × Int => .agg #[.int .i64 z.1, .int .i64 z.2]) (fun z : Option Addr × Nat × Nat => .slice z.1 z.2.1 z.2.2) (fun z => InK .i64 z.1 ∧ InK .i64 z.2) raw2], [allA (mrest 3 (rI .i64) ((min ((F.getD i (0, 0, 0)).2.2) ((F.getD i (0, 0, 0)).1)), (max ((F.getD i (0, 0, 0)).2.2) ((F.getD i (0, 0, 0)).1))) raw2 Mq1), boxA b10 73 [.int .i64 ((F.getD i (0, 0, 0)).2.2), .int .i64 ((F.getD i (0, 0, 0)).1)], emA, boxA b9 73 [.int .i64 ((F.getD i (0, 0, 0)).2.1), .int .i64 ((F.getD i (0, 0, 0)).2.2)], emA, boxA b8 73 [.int .i64 ((F.getD i (0, 0, 0)).1), .int .i64 ((F.getD i (0, 0, 0)).2.1)], boxA b7 44 [.int .i64 ((F.getD i (0, 0, 0)).1), .int .i64 ((F.getD i (0, 0, 0)).2.1), .int .i64 ((F.getD i (0, 0, 0)).2.2)], boxA b1 25 [.slice pv nv cv, .slice pf nf cf]], [slF (rI .i64) (some ⟨bn8n1, 0, none⟩) 1 ([((i : Nat) : Int)]), slF (rI .i64) (some ⟨bn8n1, 0, none⟩) 1 ([((i : Nat) : Int)]), atF b4 o5 [.int .i64 ((F.getD i (0, 0, 0)).1), .int .i64 ((F.getD i (0, 0, 0)).2.1), .int .i64 ((F.getD i (0, 0, 0)).2.2)], slF (rI3 .i64) pv cv V, slF (rI3 .i64) pf cf F])) ?_ (fun hD3 => ?_)
    ·
     rintro ⟨⟩
     dsimp only
     refine d_one 8 (by kernel_rfl) ?_
     ·
      refine o_ef0 rfl rfl rfl rfl (ef_buildSlice_fl (enc := fun z : Int => [.int .i64 z]) (ok := InK .i64) (h1 := fun _ => rfl) (h2 := fun _ => rfl) (k := 1) Try.underlying50 inf3 rfl (by decide) (by decide) (by decide) (.c (x := ((i : Nat) : Int)) rfl rfl (fun _ _ => by exact inK_i64.2 (by omega)) .n)) (fun bn8n1 _ => ?_)
      refine d_freeze 0 rfl .z ?_
      exact d_weakT (hD2 bn8n1) (by kernel_rfl) ((.of rfl) : SubM _ _) .rfl .rfl ((.of [0, 0, 0, 3, 4, 5] rfl) : SelR _ _ _)
    refine d_join (X := Nat) (k' := 4) (L' := #[true, true, true, true, true, false, false, true, true, false, false]) (fun bn8n1 => ([(30, .slice (some ⟨bn8n1, 0, none⟩) 1 1), (24, .agg #[.int .i64 (min ((F.getD i (0, 0, 0)).2.2) ((F.getD i (0, 0, 0)).1)), .int .i64 (max ((F.getD i (0, 0, 0)).2.2) ((F.getD i (0, 0, 0)).1))]), (29, .int .i64 ((i : Nat) : Int)), (26, .agg #[.int .i64 ((F.getD i (0, 0, 0)).2.2), .int .i64 ((F.getD i (0, 0, 0)).1)]), (25, .map (some b2)), (23, .agg #[.int .i64 ((F.getD i (0, 0, 0)).2.2), .int .i64 ((F.getD i (0, 0, 0)).1)]), (22, .map (some b2)), (7, .pointer (some ⟨b10, 0, none⟩)), (21, .agg #[.int .i64 ((F.getD i (0, 0, 0)).2.2), .int .i64 ((F.getD i (0, 0, 0)).1)]), (20, .bool true), (19, .int .i64 2), (32, .int .i64 2), (31, .slice pn9n1 (lz1.length + 1) cn9n2), (28, .slice pz1 (lz1.length) cz1), (27, .agg #[.int .i64 (min ((F.getD i (0, 0, 0)).2.1) ((F.getD i (0, 0, 0)).2.2)), .int .i64 (max ((F.getD i (0, 0, 0)).2.1) ((F.getD i (0, 0, 0)).2.2))]), (18, .agg #[.int .i64 ((F.getD i (0, 0, 0)).1), .int .i64 ((F.getD i (0, 0, 0)).2.1), .int .i64 ((F.getD i (0, 0, 0)).2.1), .int .i64 ((F.getD i (0, 0, 0)).2.2), .int .i64 ((F.getD i (0, 0, 0)).2.2), .int .i64 ((F.getD i (0, 0, 0)).1)]), (17, .agg #[.int .i64 ((F.getD i (0, 0, 0)).1), .int .i64 ((F.getD i (0, 0, 0)).2.1), .int .i64 ((F.getD i (0, 0, 0)).2.2)]), (4, .int .i64 ((i : Nat) : Int)), (5, .pointer (some ⟨b7, 0, none⟩)), (16, .agg #[.int .i64 ((F.getD i (0, 0, 0)).1), .int .i64 ((F.getD i (0, 0, 0)).2.1), .int .i64 ((F.getD i (0, 0, 0)).2.2)]), (15, .pointer (some ⟨b4, o5, none⟩)), (14, .int .i64 ((i : Nat) : Int)), (13, .bool (decide (((i : Nat) : Int) < ((nf : Nat) : Int)))), (12, .int .i64 ((i : Nat) : Int)), (11, .int .i64 ((nf : Nat) : Int)), (10, .slice pf nf cf), (3, .map (some b2)), (2, .map none)], [rowA 3 (rI .i64) pz2 cz2 lz2, mapA b2 (fun z : Int × Int => .agg #[.int .i64 z.1, .int .i64 z.2]) (fun z : Option Addr × Nat × Nat => .slice z.1 z.2.1 z.2.2) (fun z => InK .i64 z.1 ∧ InK .i64 z.2) raw2], [emA, allA (mrest 3 (rI .i64) ((min ((F.getD i (0, 0, 0)).2.2) ((F.getD i (0, 0, 0)).1)), (max ((F.getD i (0, 0, 0)).2.2) ((F.getD i (0, 0, 0)).1))) raw2 Mq1), boxA b10 73 [.int .i64 ((F.getD i (0, 0, 0)).2.2), .int .i64 ((F.getD i (0, 0, 0)).1)], emA, boxA b9 73 [.int .i64 ((F.getD i (0, 0, 0)).2.1), .int .i64 ((F.getD i (0, 0, 0)).2.2)], emA, boxA b8 73 [.int .i64 ((F.getD i (0, 0, 0)).1), .int .i64 ((F.getD i (0, 0, 0)).2.1)], boxA b7 44 [.int .i64 ((F.getD i (0, 0, 0)).1), .int .i64 ((F.getD i (0, 0, 0)).2.1), .int .i64 ((F.getD i (0, 0, 0)).2.2)], boxA b1 25 [.slice pv nv cv, .slice pf nf cf]], [slF (rI .i64) (some ⟨bn8n1, 0, none⟩) 1 ([((i : Nat) : Int)]), slF (rI .i64) (some ⟨bn8n1, 0, none⟩) 1 ([((i : Nat) : Int)]), slF (rI .i64) (some ⟨bn8n1, 0, none⟩) 1 ([((i : Nat) : Int)]), atF b4 o5 [.int .i64 ((F.getD i (0, 0, 0)).1), .int .i64 ((F.getD i (0, 0, 0)).2.1), .int .i64 ((F.getD i (0, 0, 0)).2.2)], slF (rI3 .i64) pv cv V, slF (rI3 .i64) pf cf F])) ?_ (fun hD4 => ?_)
    ·
     rintro bn8n1
     dsimp only
     refine d_one 5 (by kernel_rfl) ?_
     ·
      refine o_call1 rfl rfl rfl rfl (.c rfl .n) ce75 (con_plain (ex := ((F.getD i (0, 0, 0)).2.2)) (ey := ((F.getD i (0, 0, 0)).1)) ) (.n) ?_
      refine d_uw 6 rfl rfl (by kernel_rfl) (by kernel_rfl) (by kernel_rfl) rfl rfl (vl_lookup1 (z := (none, 0, 0)) (a0 := ((min ((F.getD i (0, 0, 0)).2.2) ((F.getD i (0, 0, 0)).1)), (max ((F.getD i (0, 0, 0)).2.2) ((F.getD i (0, 0, 0)).1)))) (v := .slice pz2 (lz2.length) cz2) 1 rfl ky73 Try.underlying98 zr50 rfl rfl (⟨inK_i64.2 (by omega), inK_i64.2 (by omega)⟩) (by rw [hgt2])) ?_
      exact d_weakT (hD2 bn8n1) (by kernel_rfl) ((.of rfl) : SubM _ _) .rfl .rfl ((.of [0, 0, 0, 3, 4, 5] rfl) : SelR _ _ _)
    refine d_join (X := Unit) (k' := 5) (L' := #[true, true, true, true, true, false, false, true, false, false, false]) (fun _ => ([(24, .agg #[.int .i64 (min ((F.getD i (0, 0, 0)).2.2) ((F.getD i (0, 0, 0)).1)), .int .i64 (max ((F.getD i (0, 0, 0)).2.2) ((F.getD i (0, 0, 0)).1))]), (29, .int .i64 ((i : Nat) : Int)), (26, .agg #[.int .i64 ((F.getD i (0, 0, 0)).2.2), .int .i64 ((F.getD i (0, 0, 0)).1)]), (25, .map (some b2)), (23, .agg #[.int .i64 ((F.getD i (0, 0, 0)).2.2), .int .i64 ((F.getD i (0, 0, 0)).1)]), (22, .map (some b2)), (7, .pointer (some ⟨b10, 0, none⟩)), (21, .agg #[.int .i64 ((F.getD i (0, 0, 0)).2.2), .int .i64 ((F.getD i (0, 0, 0)).1)]), (20, .bool true), (19, .int .i64 2), (32, .int .i64 2), (31, .slice pn9n1 (lz1.length + 1) cn9n2), (30, .slice (some ⟨bn8n1, 0, none⟩) 1 1), (28, .slice pz1 (lz1.length) cz1), (27, .agg #[.int .i64 (min ((F.getD i (0, 0, 0)).2.1) ((F.getD i (0, 0, 0)).2.2)), .int .i64 (max ((F.getD i (0, 0, 0)).2.1) ((F.getD i (0, 0, 0)).2.2))]), (18, .agg #[.int .i64 ((F.getD i (0, 0, 0)).1), .int .i64 ((F.getD i (0, 0, 0)).2.1), .int .i64 ((F.getD i (0, 0, 0)).2.1), .int .i64 ((F.getD i (0, 0, 0)).2.2), .int .i64 ((F.getD i (0, 0, 0)).2.2), .int .i64 ((F.getD i (0, 0, 0)).1)]), (17, .agg #[.int .i64 ((F.getD i (0, 0, 0)).1), .int .i64 ((F.getD i (0, 0, 0)).2.1), .int .i64 ((F.getD i (0, 0, 0)).2.2)]), (4, .int .i64 ((i : Nat) : Int)), (5, .pointer (some ⟨b7, 0, none⟩)), (16, .agg #[.int .i64 ((F.getD i (0, 0, 0)).1), .int .i64 ((F.getD i (0, 0, 0)).2.1), .int .i64 ((F.getD i (0, 0, 0)).2.2)]), (15, .pointer (some ⟨b4, o5, none⟩)), (14, .int .i64 ((i : Nat) : Int)), (13, .bool (decide (((i : Nat) : Int) < ((nf : Nat) : Int)))), (12, .int .i64 ((i : Nat) : Int)), (11, .int .i64 ((nf : Nat) : Int)), (10, .slice pf nf cf), (3, .map (some b2)), (2, .map none)], [rowA 3 (rI .i64) pz2 cz2 lz2, mapA b2 (fun z : Int × Int => .agg #[.int .i64 z.1, .int .i64 z.2]) (fun z : Option Addr × Nat × Nat => .slice z.1 z.2.1 z.2.2) (fun z => InK .i64 z.1 ∧ InK .i64 z.2) raw2], [allA (mrest 3 (rI .i64) ((min ((F.getD i (0, 0, 0)).2.2) ((F.getD i (0, 0, 0)).1)), (max ((F.getD i (0, 0, 0)).2.2) ((F.getD i (0, 0, 0)).1))) raw2 Mq1), boxA b10 73 [.int .i64 ((F.getD i (0, 0, 0)).2.2), .int .i64 ((F.getD i (0, 0, 0)).1)], emA, boxA b9 73 [.int .i64 ((F.getD i (0, 0, 0)).2.1), .int .i64 ((F.getD i (0, 0, 0)).2.2)], emA, boxA b8 73 [.int .i64 ((F.getD i (0, 0, 0)).1), .int .i64 ((F.getD i (0, 0, 0)).2.1)], boxA b7 44 [.int .i64 ((F.getD i (0, 0, 0)).1), .int .i64 ((F.getD i (0, 0, 0)).2.1), .int .i64 ((F.getD i (0, 0, 0)).2.2)], boxA b1 25 [.slice pv nv cv, .slice pf nf cf]], [slF (rI .i64) (some ⟨bn8n1, 0, none⟩) 1 ([((i : Nat) : Int)]), slF (rI .i64) (some ⟨bn8n1, 0, none⟩) 1 ([((i : Nat) : Int)]), atF b4 o5 [.int .i64 ((F.getD i (0, 0, 0)).1), .int .i64 ((F.getD i (0, 0, 0)).2.1), .int .i64 ((F.getD i (0, 0, 0)).2.2)], slF (rI3 .i64) pv cv V, slF (rI3 .i64) pf cf F])) ?_ (fun hD5 => ?_)
    ·
     rintro ⟨⟩
     dsimp only
     refine d_two 5 8 (by kernel_rfl) ?_ ?_
     ·
      refine o_call1 rfl rfl rfl rfl (.c rfl .n) ce75 (con_plain (ex := ((F.getD i (0, 0, 0)).2.2)) (ey := ((F.getD i (0, 0, 0)).1)) ) (.n) ?_
      refine d_uw 6 rfl rfl (by kernel_rfl) (by kernel_rfl) (by kernel_rfl) rfl rfl (vl_lookup1 (z := (none, 0, 0)) (a0 := ((min ((F.getD i (0, 0, 0)).2.2) ((F.getD i (0, 0, 0)).1)), (max ((F.getD i (0, 0, 0)).2.2) ((F.getD i (0, 0, 0)).1)))) (v := .slice pz2 (lz2.length) cz2) 1 rfl ky73 Try.underlying98 zr50 rfl rfl (⟨inK_i64.2 (by omega), inK_i64.2 (by omega)⟩) (by rw [hgt2])) ?_
      exact d_weakT (hD3 ()) (by kernel_rfl) ((.of rfl) : SubM _ _) .rfl .rfl ((.of [0, 0, 2, 3, 4] rfl) : SelR _ _ _)
     ·
      refine o_ef0 rfl rfl rfl rfl (ef_buildSlice_fl (enc := fun z : Int => [.int .i64 z]) (ok := InK .i64) (h1 := fun _ => rfl) (h2 := fun _ => rfl) (k := 1) Try.underlying50 inf3 rfl (by decide) (by decide) (by decide) (.c (x := ((i : Nat) : Int)) rfl rfl (fun _ _ => by exact inK_i64.2 (by omega)) .n)) (fun bn8n1 _ => ?_)
      refine d_freeze 0 rfl .z ?_
      exact d_weakT (hD4 bn8n1) (by kernel_rfl) ((.of rfl) : SubM _ _) .rfl .rfl ((.of [0, 0, 0, 3, 4, 5] rfl) : SelR _ _ _)
    refine d_join (X := Nat) (k' := 5) (L' := #[true, true, false, true, true, false, false, true, true, false, false]) (fun bn8n1 => ([(30, .slice (some ⟨bn8n1, 0, none⟩) 1 1), (29, .int .i64 ((i : Nat) : Int)), (26, .agg #[.int .i64 ((F.getD i (0, 0, 0)).2.2), .int .i64 ((F.getD i (0, 0, 0)).1)]), (25, .map (some b2)), (23, .agg #[.int .i64 ((F.getD i (0, 0, 0)).2.2), .int .i64 ((F.getD i (0, 0, 0)).1)]), (22, .map (some b2)), (7, .pointer (some ⟨b10, 0, none⟩)), (21, .agg #[.int .i64 ((F.getD i (0, 0, 0)).2.2), .int .i64 ((F.getD i (0, 0, 0)).1)]), (20, .bool true), (19, .int .i64 2), (32, .int .i64 2), (31, .slice pn9n1 (lz1.length + 1) cn9n2), (28, .slice pz1 (lz1.length) cz1), (27, .agg #[.int .i64 (min ((F.getD i (0, 0, 0)).2.1) ((F.getD i (0, 0, 0)).2.2)), .int .i64 (max ((F.getD i (0, 0, 0)).2.1) ((F.getD i (0, 0, 0)).2.2))]), (24, .agg #[.int .i64 (min ((F.getD i (0, 0, 0)).2.1) ((F.getD i (0, 0, 0)).2.2)), .int .i64 (max ((F.getD i (0, 0, 0)).2.1) ((F.getD i (0, 0, 0)).2.2))]), (18, .agg #[.int .i64 ((F.getD i (0, 0, 0)).1), .int .i64 ((F.getD i (0, 0, 0)).2.1), .int .i64 ((F.getD i (0, 0, 0)).2.1), .int .i64 ((F.getD i (0, 0, 0)).2.2), .int .i64 ((F.getD i (0, 0, 0)).2.2), .int .i64 ((F.getD i (0, 0, 0)).1)]), (17, .agg #[.int .i64 ((F.getD i (0, 0, 0)).1), .int .i64 ((F.getD i (0, 0, 0)).2.1), .int .i64 ((F.getD i (0, 0, 0)).2.2)]), (4, .int .i64 ((i : Nat) : Int)), (5, .pointer (some ⟨b7, 0, none⟩)), (16, .agg #[.int .i64 ((F.getD i (0, 0, 0)).1), .int .i64 ((F.getD i (0, 0, 0)).2.1), .int .i64 ((F.getD i (0, 0, 0)).2.2)]), (15, .pointer (some ⟨b4, o5, none⟩)), (14, .int .i64 ((i : Nat) : Int)), (13, .bool (decide (((i : Nat) : Int) < ((nf : Nat) : Int)))), (12, .int .i64 ((i : Nat) : Int)), (11, .int .i64 ((nf : Nat) : Int)), (10, .slice pf nf cf), (3, .map (some b2)), (2, .map none)], [rowA 3 (rI .i64) pz2 cz2 lz2, mapA b2 (fun z : Int × Int => .agg #[.int .i64 z.1, .int .i64 z.2]) (fun z : Option Addr × Nat × Nat => .slice z.1 z.2.1 z.2.2) (fun z => InK .i64 z.1 ∧ InK .i64 z.2) raw2], [emA, allA (mrest 3 (rI .i64) ((min ((F.getD i (0, 0, 0)).2.2) ((F.getD i (0, 0, 0)).1)), (max ((F.getD i (0, 0, 0)).2.2) ((F.getD i (0, 0, 0)).1))) raw2 Mq1), boxA b10 73 [.int .i64 ((F.getD i (0, 0, 0)).2.2), .int .i64 ((F.getD i (0, 0, 0)).1)], emA, boxA b9 73 [.int .i64 ((F.getD i (0, 0, 0)).2.1), .int .i64 ((F.getD i (0, 0, 0)).2.2)], emA, boxA b8 73 [.int .i64 ((F.getD i (0, 0, 0)).1), .int .i64 ((F.getD i (0, 0, 0)).2.1)], boxA b7 44 [.int .i64 ((F.getD i (0, 0, 0)).1), .int .i64 ((F.getD i (0, 0, 0)).2.1), .int .i64 ((F.getD i (0, 0, 0)).2.2)], boxA b1 25 [.slice pv nv cv, .slice pf nf cf]], [slF (rI .i64) (some ⟨bn8n1, 0, none⟩) 1 ([((i : Nat) : Int)]), slF (rI .i64) (some ⟨bn8n1, 0, none⟩) 1 ([((i : Nat) : Int)]), slF (rI .i64) (some ⟨bn8n1, 0, none⟩) 1 ([((i : Nat) : Int)]), atF b4 o5 [.int .i64 ((F.getD i (0, 0, 0)).1), .int .i64 ((F.getD i (0, 0, 0)).2.1), .int .i64 ((F.getD i (0, 0, 0)).2.2)], slF (rI3 .i64) pv cv V, slF (rI3 .i64) pf cf F])) ?_ (fun hD6 => ?_)
    ·
     rintro bn8n1
     dsimp only
     refine d_one 2 (by kernel_rfl) ?_
     ·
      refine o_call1 rfl rfl rfl rfl (.c rfl .n) ce75 (con_plain (ex := ((F.getD i (0, 0, 0)).2.2)) (ey := ((F.getD i (0, 0, 0)).1)) ) (.n) ?_
      exact d_weakT (hD4 bn8n1) (by kernel_rfl) ((.of rfl) : SubM _ _) .rfl .rfl ((.of [0, 0, 0, 3, 4, 5] rfl) : SelR _ _ _)
    refine d_two 2 8 (by kernel_rfl) ?_ ?_
    ·
     refine o_call1 rfl rfl rfl rfl (.c rfl .n) ce75 (con_plain (ex := ((F.getD i (0, 0, 0)).2.2)) (ey := ((F.getD i (0, 0, 0)).1)) ) (.n) ?_
     exact d_weakT (hD5 ()) (by kernel_rfl) ((.of rfl) : SubM _ _) .rfl .rfl ((.of [0, 0, 2, 3, 4] rfl) : SelR _ _ _)
    ·
     refine o_ef0 rfl rfl rfl rfl (ef_buildSlice_fl (enc := fun z : Int => [.int .i64 z]) (ok := InK .i64) (h1 := fun _ => rfl) (h2 := fun _ => rfl) (k := 1) Try.underlying50 inf3 rfl (by decide) (by decide) (by decide) (.c (x := ((i : Nat) : Int)) rfl rfl (fun _ _ => by exact inK_i64.2 (by omega)) .n)) (fun bn8n1 _ => ?_)
     refine d_freeze 0 rfl .z ?_
     exact d_weakT (hD6 bn8n1) (by kernel_rfl) ((.of rfl) : SubM _ _) .rfl .rfl ((.of [0, 0, 0, 3, 4, 5] rfl) : SelR _ _ _)
   refine d_join (X := Nat × Option Addr × Nat) (k' := 1) (L' := #[true, true, true, true, true, true, true, true, true, true, false]) (fun (bn8n1, pn9n1, cn9n2) => ([(31, .slice pn9n1 (lz1.length + 1) cn9n2), (30, .slice (some ⟨bn8n1, 0, none⟩) 1 1), (28, .slice pz1 (lz1.length) cz1), (27, .agg #[.int .i64 (min ((F.getD i (0, 0, 0)).2.1) ((F.getD i (0, 0, 0)).2.2)), .int .i64 (max ((F.getD i (0, 0, 0)).2.1) ((F.getD i (0, 0, 0)).2.2))]), (24, .agg #[.int .i64 (min ((F.getD i (0, 0, 0)).2.1) ((F.getD i (0, 0, 0)).2.2)), .int .i64 (max ((F.getD i (0, 0, 0)).2.1) ((F.getD i (0, 0, 0)).2.2))]), (29, .int .i64 ((i : Nat) : Int)), (26, .agg #[.int .i64 ((F.getD i (0, 0, 0)).2.1), .int .i64 ((F.getD i (0, 0, 0)).2.2)]), (25, .map (some b2)), (23, .agg #[.int .i64 ((F.getD i (0, 0, 0)).2.1), .int .i64 ((F.getD i (0, 0, 0)).2.2)]), (22, .map (some b2)), (7, .pointer (some ⟨b9, 0, none⟩)), (21, .agg #[.int .i64 ((F.getD i (0, 0, 0)).2.1), .int .i64 ((F.getD i (0, 0, 0)).2.2)]), (20, .bool true), (19, .int .i64 1), (32, .int .i64 1), (18, .agg #[.int .i64 ((F.getD i (0, 0, 0)).1), .int .i64 ((F.getD i (0, 0, 0)).2.1), .int .i64 ((F.getD i (0, 0, 0)).2.1), .int .i64 ((F.getD i (0, 0, 0)).2.2), .int .i64 ((F.getD i (0, 0, 0)).2.2), .int .i64 ((F.getD i (0, 0, 0)).1)]), (17, .agg #[.int .i64 ((F.getD i (0, 0, 0)).1), .int .i64 ((F.getD i (0, 0, 0)).2.1), .int .i64 ((F.getD i (0, 0, 0)).2.2)]), (4, .int .i64 ((i : Nat) : Int)), (5, .pointer (some ⟨b7, 0, none⟩)), (16, .agg #[.int .i64 ((F.getD i (0, 0, 0)).1), .int .i64 ((F.getD i (0, 0, 0)).2.1), .int .i64 ((F.getD i (0, 0, 0)).2.2)]), (15, .pointer (some ⟨b4, o5, none⟩)), (14, .int .i64 ((i : Nat) : Int)), (13, .bool (decide (((i : Nat) : Int) < ((nf : Nat) : Int)))), (12, .int .i64 ((i : Nat) : Int)), (11, .int .i64 ((nf : Nat) : Int)), (10, .slice pf nf cf), (3, .map (some b2)), (2, .map none)], [rowA 3 (rI .i64) pn9n1 cn9n2 (lz1 ++ ([((i : Nat) : Int)])), mapA b2 (fun z : Int × Int => .agg #[.int .i64 z.1, .int .i64 z.2]) (fun z : Option Addr × Nat × Nat => .slice z.1 z.2.1 z.2.2) (fun z => InK .i64 z.1 ∧ InK .i64 z.2) raw1], [emA, allA (mrest 3 (rI .i64) ((min ((F.getD i (0, 0, 0)).2.1) ((F.getD i (0, 0, 0)).2.2)), (max ((F.getD i (0, 0, 0)).2.1) ((F.getD i (0, 0, 0)).2.2))) raw1 Mq0), boxA b9 73 [.int .i64 ((F.getD i (0, 0, 0)).2.1), .int .i64 ((F.getD i (0, 0, 0)).2.2)], emA, boxA b8 73 [.int .i64 ((F.getD i (0, 0, 0)).1), .int .i64 ((F.getD i (0, 0, 0)).2.1)], boxA b7 44 [.int .i64 ((F.getD i (0, 0, 0)).1), .int .i64 ((F.getD i (0, 0, 0)).2.1), .int .i64 ((F.getD i (0, 0, 0)).2.2)], boxA b1 25 [.slice pv nv cv, .slice pf nf cf]], [slF (rI .i64) (some ⟨bn8n1, 0, none⟩) 1 ([((i : Nat) : Int)]), slF (rI .i64) (some ⟨bn8n1, 0, none⟩) 1 ([((i : Nat) : Int)]), atF b4 o5 [.int .i64 ((F.getD i (0, 0, 0)).1), .int .i64 ((F.getD i (0, 0, 0)).2.1), .int .i64 ((F.getD i (0, 0, 0)).2.2)], slF (rI3 .i64) pv cv V, slF (rI3 .i64) pf cf F])) ?_ (fun hD1 => ?_)
   ·
    rintro ⟨bn8n1, pn9n1, cn9n2⟩
    dsimp only
    refine d_one 10 (by kernel_rfl) ?_
    ·
     refine o_permW (perm_front (i := 1) rfl) ?_
     refine o_efw (A' := fun _ => mapA b2 (fun z : Int × Int => .agg #[.int .i64 z.1, .int .i64 z.2]) (fun z : Option Addr × Nat × Nat => .slice z.1 z.2.1 z.2.2) (fun z => InK .i64 z.1 ∧ InK .i64 z.2) (mput raw1 ((min ((F.getD i (0, 0, 0)).2.1) ((F.getD i (0, 0, 0)).2.2)), (max ((F.getD i (0, 0, 0)).2.1) ((F.getD i (0, 0, 0)).2.2))) (pn9n1, lz1.length + 1, cn9n2))) (by kernel_rfl) rfl rfl rfl (ef_update (a0 := ((min ((F.getD i (0, 0, 0)).2.1) ((F.getD i (0, 0, 0)).2.2)), (max ((F.getD i (0, 0, 0)).2.1) ((F.getD i (0, 0, 0)).2.2)))) (v := (pn9n1, lz1.length + 1, cn9n2)) ky73 Try.underlying98 rfl rfl rfl (⟨inK_i64.2 (by omega), inK_i64.2 (by omega)⟩)) (fun _ _ => ?_)
     exact d_weakT (hD0 (bn8n1, pn9n1, cn9n2)) (by kernel_rfl) ((.of rfl) : SubM _ _) .rfl .rfl ((.of [0, 0, 2, 3, 4] rfl) : SelR _ _ _)
   refine d_join (X := Nat) (k' := 2) (L' := #[true, true, true, true, true, true, true, true, true, false, false]) (fun bn8n1 => ([(30, .slice (some ⟨bn8n1, 0, none⟩) 1 1), (28, .slice pz1 (lz1.length) cz1), (27, .agg #[.int .i64 (min ((F.getD i (0, 0, 0)).2.1) ((F.getD i (0, 0, 0)).2.2)), .int .i64 (max ((F.getD i (0, 0, 0)).2.1) ((F.getD i (0, 0, 0)).2.2))]), (24, .agg #[.int .i64 (min ((F.getD i (0, 0, 0)).2.1) ((F.getD i (0, 0, 0)).2.2)), .int .i64 (max ((F.getD i (0, 0, 0)).2.1) ((F.getD i (0, 0, 0)).2.2))]), (29, .int .i64 ((i : Nat) : Int)), (26, .agg #[.int .i64 ((F.getD i (0, 0, 0)).2.1), .int .i64 ((F.getD i (0, 0, 0)).2.2)]), (25, .map (some b2)), (23, .agg #[.int .i64 ((F.getD i (0, 0, 0)).2.1), .int .i64 ((F.getD i (0, 0, 0)).2.2)]), (22, .map (some b2)), (7, .pointer (some ⟨b9, 0, none⟩)), (21, .agg #[.int .i64 ((F.getD i (0, 0, 0)).2.1), .int .i64 ((F.getD i (0, 0, 0)).2.2)]), (20, .bool true), (19, .int .i64 1), (32, .int .i64 1), (31, .slice pn9n1 (lz0.length + 1) cn9n2), (18, .agg #[.int .i64 ((F.getD i (0, 0, 0)).1), .int .i64 ((F.getD i (0, 0, 0)).2.1), .int .i64 ((F.getD i (0, 0, 0)).2.1), .int .i64 ((F.getD i (0, 0, 0)).2.2), .int .i64 ((F.getD i (0, 0, 0)).2.2), .int .i64 ((F.getD i (0, 0, 0)).1)]), (17, .agg #[.int .i64 ((F.getD i (0, 0, 0)).1), .int .i64 ((F.getD i (0, 0, 0)).2.1), .int .i64 ((F.getD i (0, 0, 0)).2.2)]), (4, .int .i64 ((i : Nat) : Int)), (5, .pointer (some ⟨b7, 0, none⟩)), (16, .agg #[.int .i64 ((F.getD i (0, 0, 0)).1), .int .i64 ((F.getD i (0, 0, 0)).2.1), .int .i64 ((F.getD i (0, 0, 0)).2.2)]), (15, .pointer (some ⟨b4, o5, none⟩)), (14, .int .i64 ((i : Nat) : Int)), (13, .bool (decide (((i : Nat) : Int) < ((nf : Nat) : Int)))), (12, .int .i64 ((i : Nat) : Int)), (11, .int .i64 ((nf : Nat) : Int)), (10, .slice pf nf cf), (3, .map (some b2)), (2, .map none)], [rowA 3 (rI .i64) pz1 cz1 lz1, mapA b2 (fun z : Int × Int => .agg #[.int .i64 z.1, .int .i64 z.2]) (fun z : Option Addr × Nat × Nat => .slice z.1 z.2.1 z.2.2) (fun z => InK .i64 z.1 ∧ InK .i64 z.2) raw1], [emA, allA (mrest 3 (rI .i64) ((min ((F.getD i (0, 0, 0)).2.1) ((F.getD i (0, 0, 0)).2.2)), (max ((F.getD i (0, 0, 0)).2.1) ((F.getD i (0, 0, 0)).2.2))) raw1 Mq0), boxA b9 73 [.int .i64 ((F.getD i (0, 0, 0)).2.1), .int .i64 ((F.getD i (0, 0, 0)).2.2)], emA, boxA b8 73 [.int .i64 ((F.getD i (0, 0, 0)).1), .int .i64 ((F.getD i (0, 0, 0)).2.1)], boxA b7 44 [.int .i64 ((F.getD i (0, 0, 0)).1), .int .i64 ((F.getD i (0, 0, 0)).2.1), .int .i64 ((F.getD i (0, 0, 0)).2.2)], boxA b1 25 [.slice pv nv cv, .slice pf nf cf]], [slF (rI .i64) (some ⟨bn8n1, 0, none⟩) 1 ([((i : Nat) : Int)]), slF (rI .i64) (some ⟨bn8n1, 0, none⟩) 1 ([((i : Nat) : Int)]), atF b4 o5 [.int .i64 ((F.getD i (0, 0, 0)).1), .int .i64 ((F.getD i (0, 0, 0)).2.1), .int .i64 ((F.getD i (0, 0, 0)).2.2)], slF (rI3 .i64) pv cv V, slF (rI3 .i64) pf cf F])) ?_ (fun hD2 => ?_)
   ·
    rintro bn8n1
    dsimp only
    refine d_one 9 (by kernel_rfl) ?_
    ·
     refine o_efw (A' := fun v : Option Addr × Nat => rowA 3 (rI .i64) v.1 v.2 (lz1 ++ ([((i : Nat) : Int)]))) (by kernel_rfl) rfl rfl rfl (ef_append 0 rfl Try.underlying50 inf3 (by decide) rfl rfl (by first | rfl | assumption | (simp; done) | omega) rfl (by first | rfl | assumption | (simp; done) | omega) (by omega) (by omega)) ?_
     rintro ⟨pn9n1, cn9n2⟩ -
     dsimp only [List.append_eq, List.nil_append, List.cons_append]
     exact d_weakT (hD1 (bn8n1, pn9n1, cn9n2)) (by kernel_rfl) ((.of rfl) : SubM _ _) .rfl .rfl ((.of [0, 0, 2, 3, 4] rfl) : SelR _ _ _)
   refine d_join (X := Unit) (k' := 3) (L' := #[true, true, true, true, true, true, true, true, false, false, false]) (fun _ => ([(28, .slice pz1 (lz1.length) cz1), (27, .agg #[.int .i64 (min ((F.getD i (0, 0, 0)).2.1) ((F.getD i (0, 0, 0)).2.2)), .int .i64 (max ((F.getD i (0, 0, 0)).2.1) ((F.getD i (0, 0, 0)).2.2))]), (24, .agg #[.int .i64 (min ((F.getD i (0, 0, 0)).2.1) ((F.getD i (0, 0, 0)).2.2)), .int .i64 (max ((F.getD i (0, 0, 0)).2.1) ((F.getD i (0, 0, 0)).2.2))]), (29, .int .i64 ((i : Nat) : Int)), (26, .agg #[.int .i64 ((F.getD i (0, 0, 0)).2.1), .int .i64 ((F.getD i (0, 0, 0)).2.2)]), (25, .map (some b2)), (23, .agg #[.int .i64 ((F.getD i (0, 0, 0)).2.1), .int .i64 ((F.getD i (0, 0, 0)).2.2)]), (22, .map (some b2)), (7, .pointer (some ⟨b9, 0, none⟩)), (21, .agg #[.int .i64 ((F.getD i (0, 0, 0)).2.1), .int .i64 ((F.getD i (0, 0, 0)).2.2)]), (20, .bool true), (19, .int .i64 1), (32, .int .i64 1), (31, .slice pn9n1 (lz0.length + 1) cn9n2), (30, .slice (some ⟨bn8n1, 0, none⟩) 1 1), (18, .agg #[.int .i64 ((F.getD i (0, 0, 0)).1), .int .i64 ((F.getD i (0, 0, 0)).2.1), .int .i64 ((F.getD i (0, 0, 0)).2.1), .int .i64 ((F.getD i (0, 0, 0)).2.2), .int .i64 ((F.getD i (0, 0, 0)).2.2), .int .i64 ((F.getD i (0, 0, 0)).1)]), (17, .agg #[.int .i64 ((F.getD i (0, 0, 0)).1), .int .i64 ((F.getD i (0, 0, 0)).2.1), .int .i64 ((F.getD i (0, 0, 0)).2.2)]), (4, .int .i64 ((i : Nat) : Int)), (5, .pointer (some ⟨b7, 0, none⟩)), (16, .agg #[.int .i64 ((F.getD i (0, 0, 0)).1), .int .i64 ((F.getD i (0, 0, 0)).2.1), .int .i64 ((F.getD i (0, 0, 0)).2.2)]), (15, .pointer (some ⟨b4, o5, none⟩)), (14, .int .i64 ((i : Nat) : Int)), (13, .bool (decide (((i : Nat) : Int) < ((nf : Nat) : Int)))), (12, .int .i64 ((i : Nat) : Int)), (11, .int .i64 ((nf : Nat) : Int)), (10, .slice pf nf cf), (3, .map (some b2)), (2, .map none)], [rowA 3 (rI .i64) pz1 cz1 lz1, mapA b2 (fun z : Int × Int => .agg #[.int .i64 z.1, .int .i64 z.2]) (fun z : Option Addr × Nat × Nat => .slice z.1 z.2.1 z.2.2) (fun z => InK .i64 z.1 ∧ InK .i64 z.2) raw1], [allA (mrest 3 (rI .i64) ((min ((F.getD i (0, 0, 0)).2.1) ((F.getD i (0, 0, 0)).2.2)), (max ((F.getD i (0, 0, 0)).2.1) ((F.getD i (0, 0, 0)).2.2))) raw1 Mq0), boxA b9 73 [.int .i64 ((F.getD i (0, 0, 0)).2.1), .int .i64 ((F.getD i (0, 0, 0)).2.2)], emA, boxA b8 73 [.int .i64 ((F.getD i (0, 0, 0)).1), .int .i64 ((F.getD i (0, 0, 0)).2.1)], boxA b7 44 [.int .i64 ((F.getD i (0, 0, 0)).1), .int .i64 ((F.getD i (0, 0, 0)).2.1), .int .i64 ((F.getD i (0, 0, 0)).2.2)], boxA b1 25 [.slice pv nv cv, .slice pf nf cf]], [slF (rI .i64) (some ⟨bn8n1, 0, none⟩) 1 ([((i : Nat) : Int)]), atF b4 o5 [.int .i64 ((F.getD i (0, 0, 0)).1), .int .i64 ((F.getD i (0, 0, 0)).2.1), .int .i64 ((F.getD i (0, 0, 0)).2.2)], slF (rI3 .i64) pv cv V, slF (rI3 .i64) pf cf F])) ?_ (fun hD3 => ?_)
   ·
    rintro ⟨⟩
    dsimp only
    refine d_one 8 (by kernel_rfl) ?_
    ·
     refine o_ef0 rfl rfl rfl rfl (ef_buildSlice_fl (enc := fun z : Int => [.int .i64 z]) (ok := InK .i64) (h1 := fun _ => rfl) (h2 := fun _ => rfl) (k := 1) Try.underlying50 inf3 rfl (by decide) (by decide) (by decide) (.c (x := ((i : Nat) : Int)) rfl rfl (fun _ _ => by exact inK_i64.2 (by omega)) .n)) (fun bn8n1 _ => ?_)
     refine d_freeze 0 rfl .z ?_
     exact d_weakT (hD2 bn8n1) (by kernel_rfl) ((.of rfl) : SubM _ _) .rfl .rfl ((.of [0, 0, 2, 3, 4] rfl) : SelR _ _ _)
   refine d_join (X := Nat) (k' := 4) (L' := #[true, true, true, true, true, false, false, true, true, false, false]) (fun bn8n1 => ([(30, .slice (some ⟨bn8n1, 0, none⟩) 1 1), (24, .agg #[.int .i64 (min ((F.getD i (0, 0, 0)).2.1) ((F.getD i (0, 0, 0)).2.2)), .int .i64 (max ((F.getD i (0, 0, 0)).2.1) ((F.getD i (0, 0, 0)).2.2))]), (29, .int .i64 ((i : Nat) : Int)), (26, .agg #[.int .i64 ((F.getD i (0, 0, 0)).2.1), .int .i64 ((F.getD i (0, 0, 0)).2.2)]), (25, .map (some b2)), (23, .agg #[.int .i64 ((F.getD i (0, 0, 0)).2.1), .int .i64 ((F.getD i (0, 0, 0)).2.2)]), (22, .map (some b2)), (7, .pointer (some ⟨b9, 0, none⟩)), (21, .agg #[.int .i64 ((F.getD i (0, 0, 0)).2.1), .int .i64 ((F.getD i (0, 0, 0)).2.2)]), (20, .bool true), (19, .int .i64 1), (32, .int .i64 1), (31, .slice pn9n1 (lz0.length + 1) cn9n2), (28, .slice pz0 (lz0.length) cz0), (27, .agg #[.int .i64 (min ((F.getD i (0, 0, 0)).1) ((F.getD i (0, 0, 0)).2.1)), .int .i64 (max ((F.getD i (0, 0, 0)).1) ((F.getD i (0, 0, 0)).2.1))]), (18, .agg #[.int .i64 ((F.getD i (0, 0, 0)).1), .int .i64 ((F.getD i (0, 0, 0)).2.1), .int .i64 ((F.getD i (0, 0, 0)).2.1), .int .i64 ((F.getD i (0, 0, 0)).2.2), .int .i64 ((F.getD i (0, 0, 0)).2.2), .int .i64 ((F.getD i (0, 0, 0)).1)]), (17, .agg #[.int .i64 ((F.getD i (0, 0, 0)).1), .int .i64 ((F.getD i (0, 0, 0)).2.1), .int .i64 ((F.getD i (0, 0, 0)).2.2)]), (4, .int .i64 ((i : Nat) : Int)), (5, .pointer (some ⟨b7, 0, none⟩)), (16, .agg #[.int .i64 ((F.getD i (0, 0, 0)).1), .int .i64 ((F.getD i (0, 0, 0)).2.1), .int .i64 ((F.getD i (0, 0, 0)).2.2)]), (15, .pointer (some ⟨b4, o5, none⟩)), (14, .int .i64 ((i : Nat) : Int)), (13, .bool (decide (((i : Nat) : Int) < ((nf : Nat) : Int)))), (12, .int .i64 ((i : Nat) : Int)), (11, .int .i64 ((nf : Nat) : Int)), (10, .slice pf nf cf), (3, .map (some b2)), (2, .map none)], [rowA 3 (rI .i64) pz1 cz1 lz1, mapA b2 (fun z : Int × Int => .agg #[.int .i64 z.1, .int .i64 z.2]) (fun z : Option Addr × Nat × Nat => .slice z.1 z.2.1 z.2.2) (fun z => InK .i64 z.1 ∧ InK .i64 z.2) raw1], [emA, allA (mrest 3 (rI .i64) ((min ((F.getD i (0, 0, 0)).2.1) ((F.getD i (0, 0, 0)).2.2)), (max ((F.getD i (0, 0, 0)).2.1) ((F.getD i (0, 0, 0)).2.2))) raw1 Mq0), boxA b9 73 [.int .i64 ((F.getD i (0, 0, 0)).2.1), .int .i64 ((F.getD i (0, 0, 0)).2.2)], emA, boxA b8 73 [.int .i64 ((F.getD i (0, 0, 0)).1), .int .i64 ((F.getD i (0, 0, 0)).2.1)], boxA b7 44 [.int .i64 ((F.getD i (0, 0, 0)).1), .int .i64 ((F.getD i (0, 0, 0)).2.1), .int .i64 ((F.getD i (0, 0, 0)).2.2)], boxA b1 25 [.slice pv nv cv, .slice pf nf cf]], [slF (rI .i64) (some ⟨bn8n1, 0, none⟩) 1 ([((i : Nat) : Int)]), slF (rI .i64) (some ⟨bn8n1, 0, none⟩) 1 ([((i : Nat) : Int)]), atF b4 o5 [.int .i64 ((F.getD i (0, 0, 0)).1), .int .i64 ((F.getD i (0, 0, 0)).2.1), .int .i64 ((F.getD i (0, 0, 0)).2.2)], slF (rI3 .i64) pv cv V, slF (rI3 .i64) pf cf F])) ?_ (fun hD4 => ?_)
   ·
    rintro bn8n1
    dsimp only
    refine d_one 5 (by kernel_rfl) ?_
    ·
     refine o_call1 rfl rfl rfl rfl (.c rfl .n) ce75 (con_plain (ex := ((F.getD i (0, 0, 0)).2.1)) (ey := ((F.getD i (0, 0, 0)).2.2)) ) (.n) ?_
     refine d_uw 6 rfl rfl (by kernel_rfl) (by kernel_rfl) (by kernel_rfl) rfl rfl (vl_lookup1 (z := (none, 0, 0)) (a0 := ((min ((F.getD i (0, 0, 0)).2.1) ((F.getD i (0, 0, 0)).2.2)), (max ((F.getD i (0, 0, 0)).2.1) ((F.getD i (0, 0, 0)).2.2)))) (v := .slice pz1 (lz1.length) cz1) 1 rfl ky73 Try.underlying98 zr50 rfl rfl (⟨inK_i64.2 (by omega), inK_i64.2 (by omega)⟩) (by rw [hgt1])) ?_
     exact d_weakT (hD2 bn8n1) (by kernel_rfl) ((.of rfl) : SubM _ _) .rfl .rfl ((.of [0, 0, 2, 3, 4] rfl) : SelR _ _ _)
   refine d_join (X := Unit) (k' := 5) (L' := #[true, true, true, true, true, false, false, true, false, false, false]) (fun _ => ([(24, .agg #[.int .i64 (min ((F.getD i (0, 0, 0)).2.1) ((F.getD i (0, 0, 0)).2.2)), .int .i64 (max ((F.getD i (0, 0, 0)).2.1) ((F.getD i (0, 0, 0)).2.2))]), (29, .int .i64 ((i : Nat) : Int)), (26, .agg #[.int .i64 ((F.getD i (0, 0, 0)).2.1), .int .i64 ((F.getD i (0, 0, 0)).2.2)]), (25, .map (some b2)), (23, .agg #[.int .i64 ((F.getD i (0, 0, 0)).2.1), .int .i64 ((F.getD i (0, 0, 0)).2.2)]), (22, .map (some b2)), (7, .pointer (some ⟨b9, 0, none⟩)), (21, .agg #[.int .i64 ((F.getD i (0, 0, 0)).2.1), .int .i64 ((F.getD i (0, 0, 0)).2.2)]), (20, .bool true), (19, .int .i64 1), (32, .int .i64 1), (31, .slice pn9n1 (lz0.length + 1) cn9n2), (30, .slice (some ⟨bn8n1, 0, none⟩) 1 1), (28, .slice pz0 (lz0.length) cz0), (27, .agg #[.int .i64 (min ((F.getD i (0, 0, 0)).1) ((F.getD i (0, 0, 0)).2.1)), .int .i64 (max ((F.getD i (0, 0, 0)).1) ((F.getD i (0, 0, 0)).2.1))]), (18, .agg #[.int .i64 ((F.getD i (0, 0, 0)).1), .int .i64 ((F.getD i (0, 0, 0)).2.1), .int .i64 ((F.getD i (0, 0, 0)).2.1), .int .i64 ((F.getD i (0, 0, 0)).2.2), .int .i64 ((F.getD i (0, 0, 0)).2.2), .int .i64 ((F.getD i (0, 0, 0)).1)]), (17, .agg #[.int .i64 ((F.getD i (0, 0, 0)).1), .int .i64 ((F.getD i (0, 0, 0)).2.1), .int .i64 ((F.getD i (0, 0, 0)).2.2)]), (4, .int .i64 ((i : Nat) : Int)), (5, .pointer (some ⟨b7, 0, none⟩)), (16, .agg #[.int .i64 ((F.getD i (0, 0, 0)).1), .int .i64 ((F.getD i (0, 0, 0)).2.1), .int .i64 ((F.getD i (0, 0, 0)).2.2)]), (15, .pointer (some ⟨b4, o5, none⟩)), (14, .int .i64 ((i : Nat) : Int)), (13, .bool (decide (((i : Nat) : Int) < ((nf : Nat) : Int)))), (12, .int .i64 ((i : Nat) : Int)), (11, .int .i64 ((nf : Nat) : Int)), (10, .slice pf nf cf), (3, .map (some b2)), (2, .map none)], [rowA 3 (rI .i64) pz1 cz1 lz1, mapA b2 (fun z : Int × Int => .agg #[.int .i64 z.1, .int .i64 z.2]) (fun z : Option Addr × Nat × Nat => .slice z.1 z.2.1 z.2.2) (fun z => InK .i64 z.1 ∧ InK .i64 z.2) raw1], [allA (mrest 3 (rI .i64) ((min ((F.getD i (0, 0, 0)).2.1) ((F.getD i (0, 0, 0)).2.2)), (max ((F.getD i (0, 0, 0)).2.1) ((F.getD i (0, 0, 0)).2.2))) raw1 Mq0), boxA b9 73 [.int .i64 ((F.getD i (0, 0, 0)).2.1), .int .i64 ((F.getD i (0, 0, 0)).2.2)], emA, boxA b8 73 [.int .i64 ((F.getD i (0, 0, 0)).1), .int .i64 ((F.getD i (0, 0, 0)).2.1)], boxA b7 44 [.int .i64 ((F.getD i (0, 0, 0)).1), .int .i64 ((F.getD i (0, 0, 0)).2.1), .int .i64 ((F.getD i (0, 0, 0)).2.2)], boxA b1 25 [.slice pv nv cv, .slice pf nf cf]], [slF (rI .i64) (some ⟨bn8n1, 0, none⟩) 1 ([((i : Nat) : Int)]), atF b4 o5 [.int .i64 ((F.getD i (0, 0, 0)).1), .int .i64 ((F.getD i (0, 0, 0)).2.1), .int .i64 ((F.getD i (0, 0, 0)).2.2)], slF (rI3 .i64) pv cv V, slF (rI3 .i64) pf cf F])) ?_ (fun hD5 => ?_)
   ·
    rintro ⟨⟩
    dsimp only
    refine d_two 5 8 (by kernel_rfl) ?_ ?_
    ·
     refine o_call1 rfl rfl rfl rfl (.c rfl .n) ce75 (con_plain (ex := ((F.getD i (0, 0, 0)).2.1)) (ey := ((F.getD i (0, 0, 0)).2.2)) ) (.n) ?_
     refine d_uw 6 rfl rfl (by kernel_rfl) (by kernel_rfl) (by kernel_rfl) rfl rfl (vl_lookup1 (z := (none, 0, 0)) (a0 := ((min ((F.getD i (0, 0, 0)).2.1) ((F.getD i (0, 0, 0)).2.2)), (max ((F.getD i (0, 0, 0)).2.1) ((F.getD i (0, 0, 0)).2.2)))) (v := .slice pz1 (lz1.length) cz1) 1 rfl ky73 Try.underlying98 zr50 rfl rfl (⟨inK_i64.2 (by omega), inK_i64.2 (by omega)⟩) (by rw [hgt1])) ?_
     exact d_weakT (hD3 ()) (by kernel_rfl) ((.of rfl) : SubM _ _) .rfl .rfl ((.of [0, 1, 2, 3] rfl) : SelR _ _ _)
    ·
     refine o_ef0 rfl rfl rfl rfl (ef_buildSlice_fl (enc := fun z : Int => [.int .i64 z]) (ok := InK .i64) (h1 := fun _ => rfl) (h2 := fun _ => rfl) (k := 1) Try.underlying50 inf3 rfl (by decide) (by decide) (by decide) (.c (x := ((i : Nat) : Int)) rfl rfl (fun _ _ => by exact inK_i64.2 (by omega)) .n)) (fun bn8n1 _ => ?_)
     refine d_freeze 0 rfl .z ?_
     exact d_weakT (hD4 bn8n1) (by kernel_rfl) ((.of rfl) : SubM _ _) .rfl .rfl ((.of [0, 0, 2, 3, 4] rfl) : SelR _ _ _)
   refine d_join (X := Nat) (k' := 5) (L' := #[true, true, false, true, true, false, false, true, true, false, false]) (fun bn8n1 => ([(30, .slice (some ⟨bn8n1, 0, none⟩) 1 1), (29, .int .i64 ((i : Nat) : Int)), (26, .agg #[.int .i64 ((F.getD i (0, 0, 0)).2.1), .int .i64 ((F.getD i (0, 0, 0)).2.2)]), (25, .map (some b2)), (23, .agg #[.int .i64 ((F.getD i (0, 0, 0)).2.1), .int .i64 ((F.getD i (0, 0, 0)).2.2)]), (22, .map (some b2)), (7, .pointer (some ⟨b9, 0, none⟩)), (21, .agg #[.int .i64 ((F.getD i (0, 0, 0)).2.1), .int .i64 ((F.getD i (0, 0, 0)).2.2)]), (20, .bool true), (19, .int .i64 1), (32, .int .i64 1), (31, .slice pn9n1 (lz0.length + 1) cn9n2), (28, .slice pz0 (lz0.length) cz0), (27, .agg #[.int .i64 (min ((F.getD i (0, 0, 0)).1) ((F.getD i (0, 0, 0)).2.1)), .int .i64 (max ((F.getD i (0, 0, 0)).1) ((F.getD i (0, 0, 0)).2.1))]), (24, .agg #[.int .i64 (min ((F.getD i (0, 0, 0)).1) ((F.getD i (0, 0, 0)).2.1)), .int .i64 (max ((F.getD i (0, 0, 0)).1) ((F.getD i (0, 0, 0)).2.1))]), (18, .agg #[.int .i64 ((F.getD i (0, 0, 0)).1), .int .i64 ((F.getD i (0, 0, 0)).2.1), .int .i64 ((F.getD i (0, 0, 0)).2.1), .int .i64 ((F.getD i (0, 0, 0)).2.2), .int .i64 ((F.getD i (0, 0, 0)).2.2), .int .i64 ((F.getD i (0, 0, 0)).1)]), (17, .agg #[.int .i64 ((F.getD i (0, 0, 0)).1), .int .i64 ((F.getD i (0, 0, 0)).2.1), .int .i64 ((F.getD i (0, 0, 0)).2.2)]), (4, .int .i64 ((i : Nat) : Int)), (5, .pointer (some ⟨b7, 0, none⟩)), (16, .agg #[.int .i64 ((F.getD i (0, 0, 0)).1), .int .i64 ((F.getD i (0, 0, 0)).2.1), .int .i64 ((F.getD i (0, 0, 0)).2.2)]), (15, .pointer (some ⟨b4, o5, none⟩)), (14, .int .i64 ((i : Nat) : Int)), (13, .bool (decide (((i : Nat) : Int) < ((nf : Nat) : Int)))), (12, .int .i64 ((i : Nat) : Int)), (11, .int .i64 ((nf : Nat) : Int)), (10, .slice pf nf cf), (3, .map (some b2)), (2, .map none)], [rowA 3 (rI .i64) pz1 cz1 lz1, mapA b2 (fun z : Int × Int => .agg #[.int .i64 z.1, .int .i64 z.2]) (fun z : Option Addr × Nat × Nat => .slice z.1 z.2.1 z.2.2) (fun z => InK .i64 z.1 ∧ InK .i64 z.2) raw1], [emA, allA (mrest 3 (rI .i64) ((min ((F.getD i (0, 0, 0)).2.1) ((F.getD i (0, 0, 0)).2.2)), (max ((F.getD i (0, 0, 0)).2.1) ((F.getD i (0, 0, 0)).2.2))) raw1 Mq0), boxA b9 73 [.int .i64 ((F.getD i (0, 0, 0)).2.1), .int .i64 ((F.getD i (0, 0, 0)).2.2)], emA, boxA b8 73 [.int .i64 ((F.getD i (0, 0, 0)).1), .int .i64 ((F.getD i (0, 0, 0)).2.1)], boxA b7 44 [.int .i64 ((F.getD i (0, 0, 0)).1), .int .i64 ((F.getD i (0, 0, 0)).2.1), .int .i64 ((F.getD i (0, 0, 0)).2.2)], boxA b1 25 [.slice pv nv cv, .slice pf nf cf]], [slF (rI .i64) (some ⟨bn8n1, 0, none⟩) 1 ([((i : Nat) : Int)]), slF (rI .i64) (some ⟨bn8n1, 0, none⟩) 1 ([((i : Nat) : Int)]), atF b4 o5 [.int .i64 ((F.getD i (0, 0, 0)).1), .int .i64 ((F.getD i (0, 0, 0)).2.1), .int .i64 ((F.getD i (0, 0, 0)).2.2)], slF (rI3 .i64) pv cv V, slF (rI3 .i64) pf cf F])) ?_ (fun hD6 => ?_)
   ·
    rintro bn8n1
    dsimp only
    refine d_one 2 (by kernel_rfl) ?_
    ·
     refine o_call1 rfl rfl rfl rfl (.c rfl .n) ce75 (con_plain (ex := ((F.getD i (0, 0, 0)).2.1)) (ey := ((F.getD i (0, 0, 0)).2.2)) ) (.n) ?_
     exact d_weakT (hD4 bn8n1) (by kernel_rfl) ((.of rfl) : SubM _ _) .rfl .rfl ((.of [0, 0, 2, 3, 4] rfl) : SelR _ _ _)
   refine d_two 2 8 (by kernel_rfl) ?_ ?_
   ·
    refine o_call1 rfl rfl rfl rfl (.c rfl .n) ce75 (con_plain (ex := ((F.getD i (0, 0, 0)).2.1)) (ey := ((F.getD i (0, 0, 0)).2.2)) ) (.n) ?_
    exact d_weakT (hD5 ()) (by kernel_rfl) ((.of rfl) : SubM _ _) .rfl .rfl ((.of [0, 1, 2, 3] rfl) : SelR _ _ _)
   ·
    refine o_ef0 rfl rfl rfl rfl (ef_buildSlice_fl (enc := fun z : Int => [.int .i64 z]) (ok := InK .i64) (h1 := fun _ => rfl) (h2 := fun _ => rfl) (k := 1) Try.underlying50 inf3 rfl (by decide) (by decide) (by decide) (.c (x := ((i : Nat) : Int)) rfl rfl (fun _ _ => by exact inK_i64.2 (by omega)) .n)) (fun bn8n1 _ => ?_)
    refine d_freeze 0 rfl .z ?_
    exact d_weakT (hD6 bn8n1) (by kernel_rfl) ((.of rfl) : SubM _ _) .rfl .rfl ((.of [0, 0, 2, 3, 4] rfl) : SelR _ _ _)
  refine d_join (X := Nat × Option Addr × Nat) (k' := 1) (L' := #[true, true, true, true, true, true, true, true, true, true, false]) (fun (bn8n1, pn9n1, cn9n2) => ([(31, .slice pn9n1 (lz0.length + 1) cn9n2), (30, .slice (some ⟨bn8n1, 0, none⟩) 1 1), (28, .slice pz0 (lz0.length) cz0), (27, .agg #[.int .i64 (min ((F.getD i (0, 0, 0)).1) ((F.getD i (0, 0, 0)).2.1)), .int .i64 (max ((F.getD i (0, 0, 0)).1) ((F.getD i (0, 0, 0)).2.1))]), (24, .agg #[.int .i64 (min ((F.getD i (0, 0, 0)).1) ((F.getD i (0, 0, 0)).2.1)), .int .i64 (max ((F.getD i (0, 0, 0)).1) ((F.getD i (0, 0, 0)).2.1))]), (29, .int .i64 ((i : Nat) : Int)), (26, .agg #[.int .i64 ((F.getD i (0, 0, 0)).1), .int .i64 ((F.getD i (0, 0, 0)).2.1)]), (25, .map (some b2)), (23, .agg #[.int .i64 ((F.getD i (0, 0, 0)).1), .int .i64 ((F.getD i (0, 0, 0)).2.1)]), (22, .map (some b2)), (7, .pointer (some ⟨b8, 0, none⟩)), (21, .agg #[.int .i64 ((F.getD i (0, 0, 0)).1), .int .i64 ((F.getD i (0, 0, 0)).2.1)]), (20, .bool true), (19, .int .i64 0), (18, .agg #[.int .i64 ((F.getD i (0, 0, 0)).1), .int .i64 ((F.getD i (0, 0, 0)).2.1), .int .i64 ((F.getD i (0, 0, 0)).2.1), .int .i64 ((F.getD i (0, 0, 0)).2.2), .int .i64 ((F.getD i (0, 0, 0)).2.2), .int .i64 ((F.getD i (0, 0, 0)).1)]), (17, .agg #[.int .i64 ((F.getD i (0, 0, 0)).1), .int .i64 ((F.getD i (0, 0, 0)).2.1), .int .i64 ((F.getD i (0, 0, 0)).2.2)]), (4, .int .i64 ((i : Nat) : Int)), (5, .pointer (some ⟨b7, 0, none⟩)), (16, .agg #[.int .i64 ((F.getD i (0, 0, 0)).1), .int .i64 ((F.getD i (0, 0, 0)).2.1), .int .i64 ((F.getD i (0, 0, 0)).2.2)]), (15, .pointer (some ⟨b4, o5, none⟩)), (14, .int .i64 ((i : Nat) : Int)), (13, .bool (decide (((i : Nat) : Int) < ((nf : Nat) : Int)))), (12, .int .i64 ((i : Nat) : Int)), (11, .int .i64 ((nf : Nat) : Int)), (10, .slice pf nf cf), (3, .map (some b2)), (2, .map none)], [rowA 3 (rI .i64) pn9n1 cn9n2 (lz0 ++ ([((i : Nat) : Int)])), mapA b2 (fun z : Int × Int => .agg #[.int .i64 z.1, .int .i64 z.2]) (fun z : Option Addr × Nat × Nat => .slice z.1 z.2.1 z.2.2) (fun z => InK .i64 z.1 ∧ InK .i64 z.2) raw0], [emA, allA (mrest 3 (rI .i64) ((min ((F.getD i (0, 0, 0)).1) ((F.getD i (0, 0, 0)).2.1)), (max ((F.getD i (0, 0, 0)).1) ((F.getD i (0, 0, 0)).2.1))) raw0 (Ms.sides (F.take i))), boxA b8 73 [.int .i64 ((F.getD i (0, 0, 0)).1), .int .i64 ((F.getD i (0, 0, 0)).2.1)], boxA b7 44 [.int .i64 ((F.getD i (0, 0, 0)).1), .int .i64 ((F.getD i (0, 0, 0)).2.1), .int .i64 ((F.getD i (0, 0, 0)).2.2)], boxA b1 25 [.slice pv nv cv, .slice pf nf cf]], [slF (rI .i64) (some ⟨bn8n1, 0, none⟩) 1 ([((i : Nat) : Int)]), atF b4 o5 [.int .i64 ((F.getD i (0, 0, 0)).1), .int .i64 ((F.getD i (0, 0, 0)).2.1), .int .i64 ((F.getD i (0, 0, 0)).2.2)], slF (rI3 .i64) pv cv V, slF (rI3 .i64) pf cf F])) ?_ (fun hD1 => ?_)
  ·
   rintro ⟨bn8n1, pn9n1, cn9n2⟩
   dsimp only
   refine d_one 10 (by kernel_rfl) ?_
   ·
    refine o_permW (perm_front (i := 1) rfl) ?_
    refine o_efw (A' := fun _ => mapA b2 (fun z : Int × Int => .agg #[.int .i64 z.1, .int .i64 z.2]) (fun z : Option Addr × Nat × Nat => .slice z.1 z.2.1 z.2.2) (fun z => InK .i64 z.1 ∧ InK .i64 z.2) (mput raw0 ((min ((F.getD i (0, 0, 0)).1) ((F.getD i (0, 0, 0)).2.1)), (max ((F.getD i (0, 0, 0)).1) ((F.getD i (0, 0, 0)).2.1))) (pn9n1, lz0.length + 1, cn9n2))) (by kernel_rfl) rfl rfl rfl (ef_update (a0 := ((min ((F.getD i (0, 0, 0)).1) ((F.getD i (0, 0, 0)).2.1)), (max ((F.getD i (0, 0, 0)).1) ((F.getD i (0, 0, 0)).2.1)))) (v := (pn9n1, lz0.length + 1, cn9n2)) ky73 Try.underlying98 rfl rfl rfl (⟨inK_i64.2 (by omega), inK_i64.2 (by omega)⟩)) (fun _ _ => ?_)
    exact d_weakT (hD0 (bn8n1, pn9n1, cn9n2)) (by kernel_rfl) ((.of rfl) : SubM _ _) .rfl .rfl ((.of [0, 1, 2, 3] rfl) : SelR _ _ _)
  refine d_join (X := Nat) (k' := 2) (L' := #[true, true, true, true, true, true, true, true, true, false, false]) (fun bn8n1 => ([(30, .slice (some ⟨bn8n1, 0, none⟩) 1 1), (28, .slice pz0 (lz0.length) cz0), (27, .agg #[.int .i64 (min ((F.getD i (0, 0, 0)).1) ((F.getD i (0, 0, 0)).2.1)), .int .i64 (max ((F.getD i (0, 0, 0)).1) ((F.getD i (0, 0, 0)).2.1))]), (24, .agg #[.int .i64 (min ((F.getD i (0, 0, 0)).1) ((F.getD i (0, 0, 0)).2.1)), .int .i64 (max ((F.getD i (0, 0, 0)).1) ((F.getD i (0, 0, 0)).2.1))]), (29, .int .i64 ((i : Nat) : Int)), (26, .agg #[.int .i64 ((F.getD i (0, 0, 0)).1), .int .i64 ((F.getD i (0, 0, 0)).2.1)]), (25, .map (some b2)), (23, .agg #[.int .i64 ((F.getD i (0, 0, 0)).1), .int .i64 ((F.getD i (0, 0, 0)).2.1)]), (22, .map (some b2)), (7, .pointer (some ⟨b8, 0, none⟩)), (21, .agg #[.int .i64 ((F.getD i (0, 0, 0)).1), .int .i64 ((F.getD i (0, 0, 0)).2.1)]), (20, .bool true), (19, .int .i64 0), (18, .agg #[.int .i64 ((F.getD i (0, 0, 0)).1), .int .i64 ((F.getD i (0, 0, 0)).2.1), .int .i64 ((F.getD i (0, 0, 0)).2.1), .int .i64 ((F.getD i (0, 0, 0)).2.2), .int .i64 ((F.getD i (0, 0, 0)).2.2), .int .i64 ((F.getD i (0, 0, 0)).1)]), (17, .agg #[.int .i64 ((F.getD i (0, 0, 0)).1), .int .i64 ((F.getD i (0, 0, 0)).2.1), .int .i64 ((F.getD i (0, 0, 0)).2.2)]), (4, .int .i64 ((i : Nat) : Int)), (5, .pointer (some ⟨b7, 0, none⟩)), (16, .agg #[.int .i64 ((F.getD i (0, 0, 0)).1), .int .i64 ((F.getD i (0, 0, 0)).2.1), .int .i64 ((F.getD i (0, 0, 0)).2.2)]), (15, .pointer (some ⟨b4, o5, none⟩)), (14, .int .i64 ((i : Nat) : Int)), (13, .bool (decide (((i : Nat) : Int) < ((nf : Nat) : Int)))), (12, .int .i64 ((i : Nat) : Int)), (11, .int .i64 ((nf : Nat) : Int)), (10, .slice pf nf cf), (3, .map (some b2)), (2, .map none)], [rowA 3 (rI .i64) pz0 cz0 lz0, mapA b2 (fun z : Int × Int => .agg #[.int .i64 z.1, .int .i64 z.2]) (fun z : Option Addr × Nat × Nat => .slice z.1 z.2.1 z.2.2) (fun z => InK .i64 z.1 ∧ InK .i64 z.2) raw0], [emA, allA (mrest 3 (rI .i64) ((min ((F.getD i (0, 0, 0)).1) ((F.getD i (0, 0, 0)).2.1)), (max ((F.getD i (0, 0, 0)).1) ((F.getD i (0, 0, 0)).2.1))) raw0 (Ms.sides (F.take i))), boxA b8 73 [.int .i64 ((F.getD i (0, 0, 0)).1), .int .i64 ((F.getD i (0, 0, 0)).2.1)], boxA b7 44 [.int .i64 ((F.getD i (0, 0, 0)).1), .int .i64 ((F.getD i (0, 0, 0)).2.1), .int .i64 ((F.getD i (0, 0, 0)).2.2)], boxA b1 25 [.slice pv nv cv, .slice pf nf cf]], [slF (rI .i64) (some ⟨bn8n1, 0, none⟩) 1 ([((i : Nat) : Int)]), atF b4 o5 [.int .i64 ((F.getD i (0, 0, 0)).1), .int .i64 ((F.getD i (0, 0, 0)).2.1), .int .i64 ((F.getD i (0, 0, 0)).2.2)], slF (rI3 .i64) pv cv V, slF (rI3 .i64) pf cf F])) ?_ (fun hD2 => ?_)
  ·
   rintro bn8n1
   dsimp only
   refine d_one 9 (by kernel_rfl) ?_
   ·
    refine o_efw (A' := fun v : Option Addr × Nat => rowA 3 (rI .i64) v.1 v.2 (lz0 ++ ([((i : Nat) : Int)]))) (by kernel_rfl) rfl rfl rfl (ef_append 0 rfl Try.underlying50 inf3 (by decide) rfl rfl (by first | rfl | assumption | (simp; done) | omega) rfl (by first | rfl | assumption | (simp; done) | omega) (by omega) (by omega)) ?_
    rintro ⟨pn9n1, cn9n2⟩ -
    dsimp only [List.append_eq, List.nil_append, List.cons_append]
    exact d_weakT (hD1 (bn8n1, pn9n1, cn9n2)) (by kernel_rfl) ((.of rfl) : SubM _ _) .rfl .rfl ((.of [0, 1, 2, 3] rfl) : SelR _ _ _)
  refine d_join (X := Unit) (k' := 3) (L' := #[true, true, true, true, true, true, true, true, false, false, false]) (fun _ => ([(28, .slice pz0 (lz0.length) cz0), (27, .agg #[.int .i64 (min ((F.getD i (0, 0, 0)).1) ((F.getD i (0, 0, 0)).2.1)), .int .i64 (max ((F.getD i (0, 0, 0)).1) ((F.getD i (0, 0, 0)).2.1))]), (24, .agg #[.int .i64 (min ((F.getD i (0, 0, 0)).1) ((F.getD i (0, 0, 0)).2.1)), .int .i64 (max ((F.getD i (0, 0, 0)).1) ((F.getD i (0, 0, 0)).2.1))]), (29, .int .i64 ((i : Nat) : Int)), (26, .agg #[.int .i64 ((F.getD i (0, 0, 0)).1), .int .i64 ((F.getD i (0, 0, 0)).2.1)]), (25, .map (some b2)), (23, .agg #[.int .i64 ((F.getD i (0, 0, 0)).1), .int .i64 ((F.getD i (0, 0, 0)).2.1)]), (22, .map (some b2)), (7, .pointer (some ⟨b8, 0, none⟩)), (21, .agg #[.int .i64 ((F.getD i (0, 0, 0)).1), .int .i64 ((F.getD i (0, 0, 0)).2.1)]), (20, .bool true), (19, .int .i64 0), (18, .agg #[.int .i64 ((F.getD i (0, 0, 0)).1), .int .i64 ((F.getD i (0, 0, 0)).2.1), .int .i64 ((F.getD i (0, 0, 0)).2.1), .int .i64 ((F.getD i (0, 0, 0)).2.2), .int .i64 ((F.getD i (0, 0, 0)).2.2), .int .i64 ((F.getD i (0, 0, 0)).1)]), (17, .agg #[.int .i64 ((F.getD i (0, 0, 0)).1), .int .i64 ((F.getD i (0, 0, 0)).2.1), .int .i64 ((F.getD i (0, 0, 0)).2.2)]), (4, .int .i64 ((i : Nat) : Int)), (5, .pointer (some ⟨b7, 0, none⟩)), (16, .agg #[.int .i64 ((F.getD i (0, 0, 0)).1), .int .i64 ((F.getD i (0, 0, 0)).2.1), .int .i64 ((F.getD i (0, 0, 0)).2.2)]), (15, .pointer (some ⟨b4, o5, none⟩)), (14, .int .i64 ((i : Nat) : Int)), (13, .bool (decide (((i : Nat) : Int) < ((nf : Nat) : Int)))), (12, .int .i64 ((i : Nat) : Int)), (11, .int .i64 ((nf : Nat) : Int)), (10, .slice pf nf cf), (3, .map (some b2)), (2, .map none)], [rowA 3 (rI .i64) pz0 cz0 lz0, mapA b2 (fun z : Int × Int => .agg #[.int .i64 z.1, .int .i64 z.2]) (fun z : Option Addr × Nat × Nat => .slice z.1 z.2.1 z.2.2) (fun z => InK .i64 z.1 ∧ InK .i64 z.2) raw0], [allA (mrest 3 (rI .i64) ((min ((F.getD i (0, 0, 0)).1) ((F.getD i (0, 0, 0)).2.1)), (max ((F.getD i (0, 0, 0)).1) ((F.getD i (0, 0, 0)).2.1))) raw0 (Ms.sides (F.take i))), boxA b8 73 [.int .i64 ((F.getD i (0, 0, 0)).1), .int .i64 ((F.getD i (0, 0, 0)).2.1)], boxA b7 44 [.int .i64 ((F.getD i (0, 0, 0)).1), .int .i64 ((F.getD i (0, 0, 0)).2.1), .int .i64 ((F.getD i (0, 0, 0)).2.2)], boxA b1 25 [.slice pv nv cv, .slice pf nf cf]], [atF b4 o5 [.int .i64 ((F.getD i (0, 0, 0)).1), .int .i64 ((F.getD i (0, 0, 0)).2.1), .int .i64 ((F.getD i (0, 0, 0)).2.2)], slF (rI3 .i64) pv cv V, slF (rI3 .i64) pf cf F])) ?_ (fun hD3 => ?_)
  ·
   rintro ⟨⟩
   dsimp only
   refine d_one 8 (by kernel_rfl) ?_
   ·
    refine o_ef0 rfl rfl rfl rfl (ef_buildSlice_fl (enc := fun z : Int => [.int .i64 z]) (ok := InK .i64) (h1 := fun _ => rfl) (h2 := fun _ => rfl) (k := 1) Try.underlying50 inf3 rfl (by decide) (by decide) (by decide) (.c (x := ((i : Nat) : Int)) rfl rfl (fun _ _ => by exact inK_i64.2 (by omega)) .n)) (fun bn8n1 _ => ?_)
    refine d_freeze 0 rfl .z ?_
    exact d_weakT (hD2 bn8n1) (by kernel_rfl) ((.of rfl) : SubM _ _) .rfl .rfl ((.of [0, 1, 2, 3] rfl) : SelR _ _ _)
  refine d_join (X := Nat) (k' := 4) (L' := #[true, true, true, true, true, false, false, true, true, false, false]) (fun bn8n1 => ([(30, .slice (some ⟨bn8n1, 0, none⟩) 1 1), (24, .agg #[.int .i64 (min ((F.getD i (0, 0, 0)).1) ((F.getD i (0, 0, 0)).2.1)), .int .i64 (max ((F.getD i (0, 0, 0)).1) ((F.getD i (0, 0, 0)).2.1))]), (29, .int .i64 ((i : Nat) : Int)), (26, .agg #[.int .i64 ((F.getD i (0, 0, 0)).1), .int .i64 ((F.getD i (0, 0, 0)).2.1)]), (25, .map (some b2)), (23, .agg #[.int .i64 ((F.getD i (0, 0, 0)).1), .int .i64 ((F.getD i (0, 0, 0)).2.1)]), (22, .map (some b2)), (7, .pointer (some ⟨b8, 0, none⟩)), (21, .agg #[.int .i64 ((F.getD i (0, 0, 0)).1), .int .i64 ((F.getD i (0, 0, 0)).2.1)]), (20, .bool true), (19, .int .i64 0), (18, .agg #[.int .i64 ((F.getD i (0, 0, 0)).1), .int .i64 ((F.getD i (0, 0, 0)).2.1), .int .i64 ((F.getD i (0, 0, 0)).2.1), .int .i64 ((F.getD i (0, 0, 0)).2.2), .int .i64 ((F.getD i (0, 0, 0)).2.2), .int .i64 ((F.getD i (0, 0, 0)).1)]), (17, .agg #[.int .i64 ((F.getD i (0, 0, 0)).1), .int .i64 ((F.getD i (0, 0, 0)).2.1), .int .i64 ((F.getD i (0, 0, 0)).2.2)]), (4, .int .i64 ((i : Nat) : Int)), (5, .pointer (some ⟨b7, 0, none⟩)), (16, .agg #[.int .i64 ((F.getD i (0, 0, 0)).1), .int .i64 ((F.getD i (0, 0, 0)).2.1), .int .i64 ((F.getD i (0, 0, 0)).2.2)]), (15, .pointer (some ⟨b4, o5, none⟩)), (14, .int .i64 ((i : Nat) : Int)), (13, .bool (decide (((i : Nat) : Int) < ((nf : Nat) : Int)))), (12, .int .i64 ((i : Nat) : Int)), (11, .int .i64 ((nf : Nat) : Int)), (10, .slice pf nf cf), (3, .map (some b2)), (2, .map none)], [rowA 3 (rI .i64) pz0 cz0 lz0, mapA b2 (fun z : Int × Int => .agg #[.int .i64 z.1, .int .i64 z.2]) (fun z : Option Addr × Nat × Nat => .slice z.1 z.2.1 z.2.2) (fun z => InK .i64 z.1 ∧ InK .i64 z.2) raw0], [emA, allA (mrest 3 (rI .i64) ((min ((F.getD i (0, 0, 0)).1) ((F.getD i (0, 0, 0)).2.1)), (max ((F.getD i (0, 0, 0)).1) ((F.getD i (0, 0, 0)).2.1))) raw0 (Ms.sides (F.take i))), boxA b8 73 [.int .i64 ((F.getD i (0, 0, 0)).1), .int .i64 ((F.getD i (0, 0, 0)).2.1)], boxA b7 44 [.int .i64 ((F.getD i (0, 0, 0)).1), .int .i64 ((F.getD i (0, 0, 0)).2.1), .int .i64 ((F.getD i (0, 0, 0)).2.2)], boxA b1 25 [.slice pv nv cv, .slice pf nf cf]], [slF (rI .i64) (some ⟨bn8n1, 0, none⟩) 1 ([((i : Nat) : Int)]), atF b4 o5 [.int .i64 ((F.getD i (0, 0, 0)).1), .int .i64 ((F.getD i (0, 0, 0)).2.1), .int .i64 ((F.getD i (0, 0, 0)).2.2)], slF (rI3 .i64) pv cv V, slF (rI3 .i64) pf cf F])) ?_ (fun hD4 => ?_)
  ·
   rintro bn8n1
   dsimp only
   refine d_one 5 (by kernel_rfl) ?_
   ·
    refine o_call1 rfl rfl rfl rfl (.c rfl .n) ce75 (con_plain (ex := ((F.getD i (0, 0, 0)).1)) (ey := ((F.getD i (0, 0, 0)).2.1)) ) (.n) ?_
    refine d_uw 6 rfl rfl (by kernel_rfl) (by kernel_rfl) (by kernel_rfl) rfl rfl (vl_lookup1 (z := (none, 0, 0)) (a0 := ((min ((F.getD i (0, 0, 0)).1) ((F.getD i (0, 0, 0)).2.1)), (max ((F.getD i (0, 0, 0)).1) ((F.getD i (0, 0, 0)).2.1)))) (v := .slice pz0 (lz0.length) cz0) 1 rfl ky73 Try.underlying98 zr50 rfl rfl (⟨inK_i64.2 (by omega), inK_i64.2 (by omega)⟩) (by rw [hgt0])) ?_
    exact d_weakT (hD2 bn8n1) (by kernel_rfl) ((.of rfl) : SubM _ _) .rfl .rfl ((.of [0, 1, 2, 3] rfl) : SelR _ _ _)
  refine d_join (X := Unit) (k' := 5) (L' := #[true, true, true, true, true, false, false, true, false, false, false]) (fun _ => ([(24, .agg #[.int .i64 (min ((F.getD i (0, 0, 0)).1) ((F.getD i (0, 0, 0)).2.1)), .int .i64 (max ((F.getD i (0, 0, 0)).1) ((F.getD i (0, 0, 0)).2.1))]), (29, .int .i64 ((i : Nat) : Int)), (26, .agg #[.int .i64 ((F.getD i (0, 0, 0)).1), .int .i64 ((F.getD i (0, 0, 0)).2.1)]), (25, .map (some b2)), (23, .agg #[.int .i64 ((F.getD i (0, 0, 0)).1), .int .i64 ((F.getD i (0, 0, 0)).2.1)]), (22, .map (some b2)), (7, .pointer (some ⟨b8, 0, none⟩)), (21, .agg #[.int .i64 ((F.getD i (0, 0, 0)).1), .int .i64 ((F.getD i (0, 0, 0)).2.1)]), (20, .bool true), (19, .int .i64 0), (18, .agg #[.int .i64 ((F.getD i (0, 0, 0)).1), .int .i64 ((F.getD i (0, 0, 0)).2.1), .int .i64 ((F.getD i (0, 0, 0)).2.1), .int .i64 ((F.getD i (0, 0, 0)).2.2), .int .i64 ((F.getD i (0, 0, 0)).2.2), .int .i64 ((F.getD i (0, 0, 0)).1)]), (17, .agg #[.int .i64 ((F.getD i (0, 0, 0)).1), .int .i64 ((F.getD i (0, 0, 0)).2.1), .int .i64 ((F.getD i (0, 0, 0)).2.2)]), (4, .int .i64 ((i : Nat) : Int)), (5, .pointer (some ⟨b7, 0, none⟩)), (16, .agg #[.int .i64 ((F.getD i (0, 0, 0)).1), .int .i64 ((F.getD i (0, 0, 0)).2.1), .int .i64 ((F.getD i (0, 0, 0)).2.2)]), (15, .pointer (some ⟨b4, o5, none⟩)), (14, .int .i64 ((i : Nat) : Int)), (13, .bool (decide (((i : Nat) : Int) < ((nf : Nat) : Int)))), (12, .int .i64 ((i : Nat) : Int)), (11, .int .i64 ((nf : Nat) : Int)), (10, .slice pf nf cf), (3, .map (some b2)), (2, .map none)], [rowA 3 (rI .i64) pz0 cz0 lz0, mapA b2 (fun z : Int × Int => .agg #[.int .i64 z.1, .int .i64 z.2]) (fun z : Option Addr × Nat × Nat => .slice z.1 z.2.1 z.2.2) (fun z => InK .i64 z.1 ∧ InK .i64 z.2) raw0], [allA (mrest 3 (rI .i64) ((min ((F.getD i (0, 0, 0)).1) ((F.getD i (0, 0, 0)).2.1)), (max ((F.getD i (0, 0, 0)).1) ((F.getD i (0, 0, 0)).2.1))) raw0 (Ms.sides (F.take i))), boxA b8 73 [.int .i64 ((F.getD i (0, 0, 0)).1), .int .i64 ((F.getD i (0, 0, 0)).2.1)], boxA b7 44 [.int .i64 ((F.getD i (0, 0, 0)).1), .int .i64 ((F.getD i (0, 0, 0)).2.1), .int .i64 ((F.getD i (0, 0, 0)).2.2)], boxA b1 25 [.slice pv nv cv, .slice pf nf cf]], [atF b4 o5 [.int .i64 ((F.getD i (0, 0, 0)).1), .int .i64 ((F.getD i (0, 0, 0)).2.1), .int .i64 ((F.getD i (0, 0, 0)).2.2)], slF (rI3 .i64) pv cv V, slF (rI3 .i64) pf cf F])) ?_ (fun hD5 => ?_)
  ·
   rintro ⟨⟩
   dsimp only
   refine d_two 5 8 (by kernel_rfl) ?_ ?_
   ·
    refine o_call1 rfl rfl rfl rfl (.c rfl .n) ce75 (con_plain (ex := ((F.getD i (0, 0, 0)).1)) (ey := ((F.getD i (0, 0, 0)).2.1)) ) (.n) ?_
    refine d_uw 6 rfl rfl (by kernel_rfl) (by kernel_rfl) (by kernel_rfl) rfl rfl (vl_lookup1 (z := (none, 0, 0)) (a0 := ((min ((F.getD i (0, 0, 0)).1) ((F.getD i (0, 0, 0)).2.1)), (max ((F.getD i (0, 0, 0)).1) ((F.getD i (0, 0, 0)).2.1)))) (v := .slice pz0 (lz0.length) cz0) 1 rfl ky73 Try.underlying98 zr50 rfl rfl (⟨inK_i64.2 (by omega), inK_i64.2 (by omega)⟩) (by rw [hgt0])) ?_
    exact d_weakT (hD3 ()) (by kernel_rfl) ((.of rfl) : SubM _ _) .rfl .rfl ((.of [0, 1, 2] rfl) : SelR _ _ _)
   ·
    refine o_ef0 rfl rfl rfl rfl (ef_buildSlice_fl (enc := fun z : Int => [.int .i64 z]) (ok := InK .i64) (h1 := fun _ => rfl) (h2 := fun _ => rfl) (k := 1) Try.underlying50 inf3 rfl (by decide) (by decide) (by decide) (.c (x := ((i : Nat) : Int)) rfl rfl (fun _ _ => by exact inK_i64.2 (by omega)) .n)) (fun bn8n1 _ => ?_)
    refine d_freeze 0 rfl .z ?_
    exact d_weakT (hD4 bn8n1) (by kernel_rfl) ((.of rfl) : SubM _ _) .rfl .rfl ((.of [0, 1, 2, 3] rfl) : SelR _ _ _)
  refine d_join (X := Nat) (k' := 5) (L' := #[true, true, false, true, true, false, false, true, true, false, false]) (fun bn8n1 => ([(30, .slice (some ⟨bn8n1, 0, none⟩) 1 1), (29, .int .i64 ((i : Nat) : Int)), (26, .agg #[.int .i64 ((F.getD i (0, 0, 0)).1), .int .i64 ((F.getD i (0, 0, 0)).2.1)]), (25, .map (some b2)), (23, .agg #[.int .i64 ((F.getD i (0, 0, 0)).1), .int .i64 ((F.getD i (0, 0, 0)).2.1)]), (22, .map (some b2)), (7, .pointer (some ⟨b8, 0, none⟩)), (21, .agg #[.int .i64 ((F.getD i (0, 0, 0)).1), .int .i64 ((F.getD i (0, 0, 0)).2.1)]), (20, .bool true), (19, .int .i64 0), (18, .agg #[.int .i64 ((F.getD i (0, 0, 0)).1), .int .i64 ((F.getD i (0, 0, 0)).2.1), .int .i64 ((F.getD i (0, 0, 0)).2.1), .int .i64 ((F.getD i (0, 0, 0)).2.2), .int .i64 ((F.getD i (0, 0, 0)).2.2), .int .i64 ((F.getD i (0, 0, 0)).1)]), (17, .agg #[.int .i64 ((F.getD i (0, 0, 0)).1), .int .i64 ((F.getD i (0, 0, 0)).2.1), .int .i64 ((F.getD i (0, 0, 0)).2.2)]), (4, .int .i64 ((i : Nat) : Int)), (5, .pointer (some ⟨b7, 0, none⟩)), (16, .agg #[.int .i64 ((F.getD i (0, 0, 0)).1), .int .i64 ((F.getD i (0, 0, 0)).2.1), .int .i64 ((F.getD i (0, 0, 0)).2.2)]), (15, .pointer (some ⟨b4, o5, none⟩)), (14, .int .i64 ((i : Nat) : Int)), (13, .bool (decide (((i : Nat) : Int) < ((nf : Nat) : Int)))), (12, .int .i64 ((i : Nat) : Int)), (11, .int .i64 ((nf : Nat) : Int)), (10, .slice pf nf cf), (3, .map (some b2)), (2, .map none)], [rowA 3 (rI .i64) pz0 cz0 lz0, mapA b2 (fun z : Int × Int => .agg #[.int .i64 z.1, .int .i64 z.2]) (fun z : Option Addr × Nat × Nat => .slice z.1 z.2.1 z.2.2) (fun z => InK .i64 z.1 ∧ InK .i64 z.2) raw0], [emA, allA (mrest 3 (rI .i64) ((min ((F.getD i (0, 0, 0)).1) ((F.getD i (0, 0, 0)).2.1)), (max ((F.getD i (0, 0, 0)).1) ((F.getD i (0, 0, 0)).2.1))) raw0 (Ms.sides (F.take i))), boxA b8 73 [.int .i64 ((F.getD i (0, 0, 0)).1), .int .i64 ((F.getD i (0, 0, 0)).2.1)], boxA b7 44 [.int .i64 ((F.getD i (0, 0, 0)).1), .int .i64 ((F.getD i (0, 0, 0)).2.1), .int .i64 ((F.getD i (0, 0, 0)).2.2)], boxA b1 25 [.slice pv nv cv, .slice pf nf cf]], [slF (rI .i64) (some ⟨bn8n1, 0, none⟩) 1 ([((i : Nat) : Int)]), atF b4 o5 [.int .i64 ((F.getD i (0, 0, 0)).1), .int .i64 ((F.getD i (0, 0, 0)).2.1), .int .i64 ((F.getD i (0, 0, 0)).2.2)], slF (rI3 .i64) pv cv V, slF (rI3 .i64) pf cf F])) ?_ (fun hD6 => ?_)
  ·
   rintro bn8n1
   dsimp only
   refine d_one 2 (by kernel_rfl) ?_
   ·
    refine o_call1 rfl rfl rfl rfl (.c rfl .n) ce75 (con_plain (ex := ((F.getD i (0, 0, 0)).1)) (ey := ((F.getD i (0, 0, 0)).2.1)) ) (.n) ?_
    exact d_weakT (hD4 bn8n1) (by kernel_rfl) ((.of rfl) : SubM _ _) .rfl .rfl ((.of [0, 1, 2, 3] rfl) : SelR _ _ _)
  refine d_two 2 8 (by kernel_rfl) ?_ ?_
  ·
   refine o_call1 rfl rfl rfl rfl (.c rfl .n) ce75 (con_plain (ex := ((F.getD i (0, 0, 0)).1)) (ey := ((F.getD i (0, 0, 0)).2.1)) ) (.n) ?_
   exact d_weakT (hD5 ()) (by kernel_rfl) ((.of rfl) : SubM _ _) .rfl .rfl ((.of [0, 1, 2] rfl) : SelR _ _ _)
  ·
   refine o_ef0 rfl rfl rfl rfl (ef_buildSlice_fl (enc := fun z : Int => [.int .i64 z]) (ok := InK .i64) (h1 := fun _ => rfl) (h2 := fun _ => rfl) (k := 1) Try.underlying50 inf3 rfl (by decide) (by decide) (by decide) (.c (x := ((i : Nat) : Int)) rfl rfl (fun _ _ => by exact inK_i64.2 (by omega)) .n)) (fun bn8n1 _ => ?_)
   refine d_freeze 0 rfl .z ?_
   exact d_weakT (hD6 bn8n1) (by kernel_rfl) ((.of rfl) : SubM _ _) .rfl .rfl ((.of [0, 1, 2, 3] rfl) : SelR _ _ _)
 ·
  refine r_exit ?_
  refine p_then_exit ?_
  refine p_then_exit ?_
  refine p_block_here ?_
  refine p_then ?_
  refine r_seq ?_
  have e11 : Ms.sides (F.take i) = Ms.sides F := by rw [List.take_of_length_le (by omega)]
  rw [e11]
  refine c_memx (fun w mm => mm.mrFreeze 0 rfl) ?_
  rintro rawZ hrawZ
  dsimp only [List.set]
  refine r_region ?_
  refine r_pv rfl rfl (pv_move rfl) ?_
  refine r_pv rfl rfl (pv_assign rfl) ?_
  refine r_nil ?_
  refine p_then ?_
  refine r_ret ?_
  exact p_ret1 Try.results66 (b2, rawZ) hrawZ (res_tmp rfl) rfl (ho := ((.c (i := 0) rfl .n) : PickO _ _ _)) ((.c (j := 0) rfl .n) : SelR _ _ _)
end Go.Proofs.Ytalfgjpbbongcaa.Sp
namespace Go.Proofs.Ytalfgjpbbongcaa.Sp
open Go
set_option linter.unusedVariables false
set_option maxRecDepth 100000
set_option maxHeartbeats 1000000
theorem con_Euler {pv : Option Addr} {nv : Nat} {cv : Nat} {V : List (Int × Int × Int)} {pf : Option Addr} {nf : Nat} {cf : Nat} {F : List (Int × Int × Int)} (hnv : V.length = nv) (hnf : F.length = nf) : Con Try.prog 25 [.agg #[.slice pv nv cv, .slice pf nf cf]] [] [slF (rI3 .i64) pv cv V, slF (rI3 .i64) pf cf F] (Y := Unit) (fun y => True) (fun y => .tuple #[.int .i64 (Ms.eulerR V F), .int .i64 (Ms.check V F)]) (fun y => []) (fun y => []) := by
 refine con_intro Try.func25 rfl rfl rfl (fun c => ?_)
 show RunC _ _ _ _ _ [(0, .agg #[.slice pv nv cv, .slice pf nf cf])] [] [slF (rI3 .i64) pv cv V, slF (rI3 .i64) pf cf F]
 refine c_len 0 rfl (fun hL0 => ?_)
 refine c_len 1 rfl (fun hL1 => ?_)
 refine r_seq ?_
 refine r_region ?_
 refine r_new rfl rfl (ef_box rfl rfl) (fun b1 => ?_)
 refine r_pv rfl rfl (pv_assign rfl) ?_
 refine r_pv rfl rfl (pv_assign rfl) ?_
 refine r_nil ?_
 refine p_then ?_
 refine r_seq ?_
 refine r_seq ?_
 refine r_region ?_
 refine r_u rfl rfl (vl_load_box_agg 0 ty25 rfl rfl (.take (.take .nil))) ?_
 refine r_call1 rfl rfl (.c rfl .n) ce14 (con_Check (pv := pv) (nv := nv) (cv := cv) (V := V) (pf := pf) (nf := nf) (cf := cf) (F := F) (hnv := by assumption) (hnf := by assumption)) (.c (j := 0) rfl (.c (j := 1) rfl .n)) ?_
 refine r_pv rfl rfl (pv_assign rfl) ?_
 refine r_nil ?_
 refine p_then ?_
 refine r_seq ?_
 refine r_region ?_
 refine r_pv rfl rfl (pv_move rfl) ?_
 refine r_pv rfl rfl (pv_neq rfl rfl) ?_
 refine r_nil ?_
 refine p_then ?_
 refine r_cond rfl (fun hcode => ?_) (fun hcode => ?_)
 ·
  refine r_seq ?_
  refine r_region ?_
  refine r_pv rfl rfl (pv_move rfl) ?_
  refine r_pv rfl rfl (pv_assign rfl) ?_
  refine r_pv rfl rfl (pv_assign rfl) ?_
  refine r_nil ?_
  refine p_then ?_
  refine r_ret ?_
  refine p_then_ret ?_
  have hz : Ms.eulerR V F = 0 := by unfold Ms.eulerR; rw [if_neg hcode]
  exact p_ret2 Try.results25 () trivial (res_tmp rfl) (res_tmp rfl) (by rw [hz]) (ho := (.n : PickO _ _ _)) (.n : SelR _ _ _)
 ·
  have hc0 := Decidable.not_not.1 hcode
  have hf0 := Ms.check_form hc0
  have hg := Ms.form_zero.1 hf0
  have hnv5 : nv ≤ 512 := by have := hg.nv; omega
  have hnf5 : nf ≤ 1024 := by have := hg.nf; omega
  refine r_skip ?_
  refine p_then ?_
  refine r_seq ?_
  refine r_region ?_
  refine r_ef0 rfl rfl (ef_makeMap (κ := Int) (ν := Bool) (fun z : Int => .int .i64 z) (fun z : Bool => .bool z) (InK .i64)) (fun b2 _ => ?_)
  refine r_pv rfl rfl (pv_assign rfl) ?_
  refine r_nil ?_
  refine p_then ?_
  refine r_seq ?_
  refine r_seq ?_
  refine r_region ?_
  refine r_pv rfl rfl (pv_fieldAddr Try.underlying25 rfl sz23 rfl rfl) ?_
  refine r_u rfl rfl (vl_load_box_one 1 ty23 rfl rfl rfl) ?_
  refine r_pv rfl rfl (pv_len Try.underlying23 rfl) ?_
  refine r_pv rfl rfl (pv_move rfl) ?_
  refine r_nil ?_
  refine p_then ?_
  refine r_block ?_
  refine r_loop (X := Nat) (fun x : Nat => x ≤ nf) (fun x => [(19, .int .i64 ((x : Nat) : Int)), (18, .int .i64 ((nf : Nat) : Int)), (17, .slice pf nf cf), (5, .map (some b2)), (3, .int .i64 0), (2, .int .i64 0), (1, .pointer (some ⟨b1, 0, none⟩))]) (fun x => [mapA b2 (fun z : Int => .int .i64 z) (fun z : Bool => .bool z) (InK .i64) (Ms.usedM (F.take x)), boxA b1 25 [.slice pv nv cv, .slice pf nf cf]]) (fun x => [slF (rI3 .i64) pv cv V, slF (rI3 .i64) pf cf F]) (fun x : Nat => nf - x) 0 (show 0 ≤ nf from by exact Nat.zero_le _) ((.e rfl (by first | rfl | (congr 1; omega) | simp_all) (.of rfl)) : SubM _ _) (ho := ((.e (i := 0) rfl (by rfl) (.c (i := 0) rfl .n)) : PickO _ _ _)) ((.of [0, 1] rfl) : SelR _ _ _) ?_
  rintro i hI
  replace hI : i ≤ nf := hI
  show RunC _ _ _ _ _ [(19, .int .i64 ((i : Nat) : Int)), (18, .int .i64 ((nf : Nat) : Int)), (17, .slice pf nf cf), (5, .map (some b2)), (3, .int .i64 0), (2, .int .i64 0), (1, .pointer (some ⟨b1, 0, none⟩))] [mapA b2 (fun z : Int => .int .i64 z) (fun z : Bool => .bool z) (InK .i64) (Ms.usedM (F.take i)), boxA b1 25 [.slice pv nv cv, .slice pf nf cf]] [slF (rI3 .i64) pv cv V, slF (rI3 .i64) pf cf F]
  refine r_seq ?_
  refine r_region ?_
  refine r_pv rfl rfl (pv_lss rfl rfl) ?_
  refine r_nil ?_
  refine p_then ?_
  refine r_seq ?_
  refine r_cond rfl (fun h3 => ?_) (fun h3 => ?_)
  ·
   have hat := hg.at (show i < F.length by omega)
   refine r_skip ?_
   refine p_then ?_
   refine r_seq ?_
   refine r_block ?_
   refine r_seq ?_
   refine r_region ?_
   refine r_index_fl (x0 := (F.getD i (0, 0, 0))) 1 i rfl Try.underlying23 sz44 rfl rfl rfl (by first | rfl | assumption | (simp_all; done) | omega) rfl rfl (gD (d := (0, 0, 0)) (by omega)) (fun b4 o5 hok6 => ?_)
   obtain ⟨hok6x, hok6y, hok6z⟩ := hok6
   replace hok6x := inK_i64.1 hok6x
   replace hok6y := inK_i64.1 hok6y
   replace hok6z := inK_i64.1 hok6z
   refine r_u rfl rfl (vl_load_at_agg (j := 0) 0 ty44 rfl rfl rfl (.take (.take (.take .nil)))) ?_
   refine r_new rfl rfl (ef_alloc zr44 rfl) (fun b7 => ?_)
   refine r_store_box 0 rfl rfl rfl rfl rfl sz44 rfl (.take (.take (.take .nil))) .z ?_
   refine r_nil ?_
   refine p_then ?_
   refine r_seq ?_
   refine r_region ?_
   refine r_u rfl rfl (vl_load_box_agg 0 ty44 rfl rfl (.take (.take (.take .nil)))) ?_
   refine r_pv rfl rfl (pv_move rfl) ?_
   refine r_nil ?_
   refine p_then ?_
   refine r_block ?_
   refine r_loopU ?_
   refine u_round ?_
   refine r_seq ?_
   refine r_region ?_
   refine r_pv rfl rfl (pv_lss rfl rfl) ?_
   refine r_nil ?_
   refine p_then ?_
   refine r_seq ?_
   refine r_cond_t rfl rfl ?_
   refine r_skip ?_
   refine p_then ?_
   refine r_seq ?_
   refine r_block ?_
   refine r_seq ?_
   refine r_region ?_
   refine r_pv rfl rfl (pv_index_one (i := 0) Try.underlying44 ty3 rfl rfl (by decide) rfl) ?_
   refine r_pv rfl rfl (pv_assign rfl) ?_
   refine r_nil ?_
   refine p_then ?_
   refine r_region ?_
   refine r_pv rfl rfl (pv_move rfl) ?_
   refine r_pv rfl rfl (pv_move rfl) ?_
   refine r_ef1 1 rfl rfl rfl (ef_update (a0 := (F.getD i (0, 0, 0)).1) (v := true) ky3 Try.underlying94 rfl rfl rfl (inK_i64.2 (by omega))) (fun _ => (.s .z)) (fun _ _ => ?_)
   refine r_nil ?_
   refine p_block ?_
   refine p_then ?_
   refine r_region ?_
   refine r_pv rfl rfl (pv_add (z := 1) rfl rfl (w64 (by decide))) ?_
   refine r_pv rfl rfl (pv_move rfl) ?_
   refine r_nil ?_
   refine p_again ?_
   refine u_round ?_
   refine r_seq ?_
   refine r_region ?_
   refine r_pv rfl rfl (pv_lss rfl rfl) ?_
   refine r_nil ?_
   refine p_then ?_
   refine r_seq ?_
   refine r_cond_t rfl rfl ?_
   refine r_skip ?_
   refine p_then ?_
   refine r_seq ?_
   refine r_block ?_
   refine r_seq ?_
   refine r_region ?_
   refine r_pv rfl rfl (pv_index_one (i := 1) Try.underlying44 ty3 rfl rfl (by decide) rfl) ?_
   refine r_pv rfl rfl (pv_assign rfl) ?_
   refine r_nil ?_
   refine p_then ?_
   refine r_region ?_
   refine r_pv rfl rfl (pv_move rfl) ?_
   refine r_pv rfl rfl (pv_move rfl) ?_
   refine r_ef1 1 rfl rfl rfl (ef_update (a0 := (F.getD i (0, 0, 0)).2.1) (v := true) ky3 Try.underlying94 rfl rfl rfl (inK_i64.2 (by omega))) (fun _ => (.s .z)) (fun _ _ => ?_)
   refine r_nil ?_
   refine p_block ?_
   refine p_then ?_
   refine r_region ?_
   refine r_pv rfl rfl (pv_add (z := 2) rfl rfl (w64 (by decide))) ?_
   refine r_pv rfl rfl (pv_move rfl) ?_
   refine r_nil ?_
   refine p_again ?_
   refine u_round ?_
   refine r_seq ?_
   refine r_region ?_
   refine r_pv rfl rfl (pv_lss rfl rfl) ?_
   refine r_nil ?_
   refine p_then ?_
   refine r_seq ?_
   refine r_cond_t rfl rfl ?_
   refine r_skip ?_
   refine p_then ?_
   refine r_seq ?_
   refine r_block ?_
   refine r_seq ?_
   refine r_region ?_
   refine r_pv rfl rfl (pv_index_one (i := 2) Try.underlying44 ty3 rfl rfl (by decide) rfl) ?_
   refine r_pv rfl rfl (pv_assign rfl) ?_
   refine r_nil ?_
   refine p_then ?_
   refine r_region ?_
   refine r_pv rfl rfl (pv_move rfl) ?_
   refine r_pv rfl rfl (pv_move rfl) ?_
   refine r_ef1 1 rfl rfl rfl (ef_update (a0 := (F.getD i (0, 0, 0)).2.2) (v := true) ky3 Try.underlying94 rfl rfl rfl (inK_i64.2 (by omega))) (fun _ => (.s .z)) (fun _ _ => ?_)
   refine r_nil ?_
   refine p_block ?_
   refine p_then ?_
   refine r_region ?_
   refine r_pv rfl rfl (pv_add (z := 3) rfl rfl (w64 (by decide))) ?_
   refine r_pv rfl rfl (pv_move rfl) ?_
   refine r_nil ?_
   refine p_again ?_
   refine u_round ?_
   refine r_seq ?_
   refine r_region ?_
   refine r_pv rfl rfl (pv_lss rfl rfl) ?_
   refine r_nil ?_
   refine p_then ?_
   refine r_seq ?_
   refine r_cond_f rfl rfl ?_
   refine r_exit ?_
   refine p_then_exit ?_
   refine p_then_exit ?_
   refine p_block_here ?_
   refine p_block ?_
   refine p_then ?_
   refine r_region ?_
   refine r_pv rfl rfl (pv_add (z := (((i + 1) : Nat) : Int)) rfl rfl (w64 (by omega))) ?_
   refine r_pv rfl rfl (pv_move rfl) ?_
   refine r_nil ?_
   refine p_next (i + 1) (show (i + 1) ≤ nf from by exact (by omega : i + 1 ≤ nf)) (by show nf - (i + 1) < nf - i; omega) ((.of rfl) : SubM _ _) (ho := ((.e (i := 1) rfl (by rw [Ms.usedM_take (by omega)]) (.c (i := 1) rfl .n)) : PickO _ _ _)) ((.of [1, 2] rfl) : SelR _ _ _)
  ·
   have hul := Ms.usedM_len F
   have hsn := Ms.sidesN_len F
   refine r_exit ?_
   refine p_then_exit ?_
   refine p_then_exit ?_
   refine p_block_here ?_
   refine p_then ?_
   refine r_seq ?_
   have e8 : Ms.usedM (F.take i) = Ms.usedM F := by rw [List.take_of_length_le (by omega)]
   rw [e8]
   refine r_draw (OW := []) (O := [mapA b2 (fun z : Int => .int .i64 z) (fun z : Bool => .bool z) (InK .i64) (Ms.usedM F), boxA b1 25 [.slice pv nv cv, .slice pf nf cf]]) 100000 mixed (.then .ret) (by kernel_rfl) ?_
   refine d_pv 0 rfl rfl (by kernel_rfl) (by kernel_rfl) rfl rfl (pv_move rfl) ?_
   refine d_u 1 rfl rfl (by kernel_rfl) (by kernel_rfl) rfl rfl (vl_lenMap (encK := (fun z : Int => .int .i64 z)) (encV := (fun z : Bool => .bool z)) (ok := (InK .i64)) (m := Ms.usedM F) 0 rfl Try.underlying94 rfl) ?_
   refine d_u 2 rfl rfl (by kernel_rfl) (by kernel_rfl) rfl rfl (vl_load_box_agg 1 ty25 rfl rfl (.take (.take .nil))) ?_
   refine d_pv 6 rfl rfl (by kernel_rfl) (by kernel_rfl) rfl rfl (pv_fieldAddr Try.underlying25 rfl sz23 rfl rfl) ?_
   refine d_u 7 rfl rfl (by kernel_rfl) (by kernel_rfl) rfl rfl (vl_load_box_one 1 ty23 rfl rfl rfl) ?_
   refine d_pv 8 rfl rfl (by kernel_rfl) (by kernel_rfl) rfl rfl (pv_len Try.underlying23 rfl) ?_
   refine d_one 3 (by kernel_rfl) (o_callf rfl rfl rfl rfl (.c rfl .n) ce66 (con_sides (pv := pv) (nv := nv) (cv := cv) (V := V) (pf := pf) (nf := nf) (cf := cf) (F := F) (hnv := by assumption) (hnf := by assumption) (hg := by first | rfl | assumption | omega | (simp; done) | (simp; omega) | (simp_all; done))) (.c (j := 0) rfl (.c (j := 1) rfl .n)) ?_)
   rintro ⟨bZ, rawZ⟩ hraw
   dsimp only [List.append_eq, List.nil_append, List.cons_append]
   replace hraw : Raw rawZ (Ms.sides F) := hraw
   refine d_u 4 rfl rfl (by kernel_rfl) (by kernel_rfl) rfl rfl (vl_lenMap (encK := (fun z : Int × Int => .agg #[.int .i64 z.1, .int .i64 z.2])) (encV := (fun z : Option Addr × Nat × Nat => .slice z.1 z.2.1 z.2.2)) (ok := (fun z => InK .i64 z.1 ∧ InK .i64 z.2)) (m := rawZ) 0 rfl Try.underlying98 rfl) ?_
   have hrl := hraw.length
   refine d_pv 5 rfl rfl (by kernel_rfl) (by kernel_rfl) rfl rfl (pv_sub (z := ((((Ms.usedM F).length : Nat) : Int) - (((rawZ).length : Nat) : Int))) rfl rfl (w64 (by omega))) ?_
   refine d_pv 9 rfl rfl (by kernel_rfl) (by kernel_rfl) rfl rfl (pv_add (z := (((((Ms.usedM F).length : Nat) : Int) - (((rawZ).length : Nat) : Int)) + ((nf : Nat) : Int))) rfl rfl (w64 (by omega))) ?_
   refine d_pv 10 rfl rfl (by kernel_rfl) (by kernel_rfl) rfl rfl (pv_assign rfl) ?_
   refine d_pv 11 rfl rfl (by kernel_rfl) (by kernel_rfl) rfl rfl (pv_assign rfl) ?_
   refine d_done (by kernel_rfl) ?_
   refine p_then ?_
   refine r_ret ?_
   have hz : Ms.eulerR V F = Ms.eulerP F := by unfold Ms.eulerR; rw [if_pos hc0]
   exact p_ret2 Try.results25 () trivial (res_tmp rfl) (res_tmp rfl) (by rw [hz, hc0, Ms.eulerP, hnf, hraw.length]) (ho := (.n : PickO _ _ _)) (.n : SelR _ _ _)
theorem con_example   : Con Try.prog 44 [] [] [] (Y := (Option Addr) × (Option Addr)) (fun y => True) (fun y => .agg #[.slice (y.1) 4 4, .slice (y.2) 4 4]) (fun y => []) (fun y => [slF (rI3 .i64) (y.1) 4 (Ms.exV), slF (rI3 .i64) (y.2) 4 (Ms.exF)]) := by
 refine con_intro Try.func44 rfl rfl rfl (fun c => ?_)
 show RunC _ _ _ _ _ [] [] []
 refine r_seq ?_
 refine r_region ?_
 refine r_new rfl rfl (ef_alloc zr25 rfl) (fun b1 => ?_)
 refine r_nil ?_
 refine p_then ?_
 refine r_seq ?_
 refine r_region ?_
 refine r_pv rfl rfl (pv_build_struct zr42 rfl Try.underlying42 (.c sz3 (.c sz3 (.c sz3 .n))) .n .n) ?_
 refine r_pv rfl rfl (pv_build_struct zr42 rfl Try.underlying42 (.c sz3 (.c sz3 (.c sz3 .n))) (.c rfl .n) (.c rfl rfl rfl (.take .nil) .n)) ?_
 refine r_pv rfl rfl (pv_build_struct zr42 rfl Try.underlying42 (.c sz3 (.c sz3 (.c sz3 .n))) (.c rfl .n) (.c rfl rfl rfl (.skip (.take .nil)) .n)) ?_
 refine r_pv rfl rfl (pv_build_struct zr42 rfl Try.underlying42 (.c sz3 (.c sz3 (.c sz3 .n))) (.c rfl .n) (.c rfl rfl rfl (.skip (.skip (.take .nil))) .n)) ?_
 refine r_ef0 rfl rfl (ef_buildSlice_fl (enc := fun z : Int × Int × Int => [.int .i64 z.1, .int .i64 z.2.1, .int .i64 z.2.2]) (ok := fun z => InK .i64 z.1 ∧ InK .i64 z.2.1 ∧ InK .i64 z.2.2) (h1 := fun _ => rfl) (h2 := fun _ => rfl) (k := 4) Try.underlying22 inf42 rfl (by decide) (by decide) (by decide) (.c (x := (0, 0, 0)) rfl rfl (fun _ _ => by exact ⟨inK_i64.2 (by first | omega | decide | (dsimp only; omega)), inK_i64.2 (by first | omega | decide | (dsimp only; omega)), inK_i64.2 (by first | omega | decide | (dsimp only; omega))⟩) (.c (x := (1, 0, 0)) rfl rfl (fun _ _ => by exact ⟨inK_i64.2 (by first | omega | decide | (dsimp only; omega)), inK_i64.2 (by first | omega | decide | (dsimp only; omega)), inK_i64.2 (by first | omega | decide | (dsimp only; omega))⟩) (.c (x := (0, 1, 0)) rfl rfl (fun _ _ => by exact ⟨inK_i64.2 (by first | omega | decide | (dsimp only; omega)), inK_i64.2 (by first | omega | decide | (dsimp only; omega)), inK_i64.2 (by first | omega | decide | (dsimp only; omega))⟩) (.c (x := (0, 0, 1)) rfl rfl (fun _ _ => by exact ⟨inK_i64.2 (by first | omega | decide | (dsimp only; omega)), inK_i64.2 (by first | omega | decide | (dsimp only; omega)), inK_i64.2 (by first | omega | decide | (dsimp only; omega))⟩) .n))))) (fun b2 _ => ?_)
 refine r_pv rfl rfl (pv_build_array zr44 rfl Try.underlying44 sz3 (.c rfl (.c rfl (.c rfl .n))) (.c rfl rfl rfl (.take .nil) (.c rfl rfl rfl (.skip (.take .nil)) (.c rfl rfl rfl (.skip (.skip (.take .nil))) .n)))) ?_
 refine r_pv rfl rfl (pv_build_array zr44 rfl Try.underlying44 sz3 (.c rfl (.c rfl (.c rfl .n))) (.c rfl rfl rfl (.take .nil) (.c rfl rfl rfl (.skip (.take .nil)) (.c rfl rfl rfl (.skip (.skip (.take .nil))) .n)))) ?_
 refine r_pv rfl rfl (pv_build_array zr44 rfl Try.underlying44 sz3 (.c rfl (.c rfl (.c rfl .n))) (.c rfl rfl rfl (.take .nil) (.c rfl rfl rfl (.skip (.take .nil)) (.c rfl rfl rfl (.skip (.skip (.take .nil))) .n)))) ?_
 refine r_pv rfl rfl (pv_build_array zr44 rfl Try.underlying44 sz3 (.c rfl (.c rfl (.c rfl .n))) (.c rfl rfl rfl (.take .nil) (.c rfl rfl rfl (.skip (.take .nil)) (.c rfl rfl rfl (.skip (.skip (.take .nil))) .n)))) ?_
 refine r_ef0 rfl rfl (ef_buildSlice_fl (enc := fun z : Int × Int × Int => [.int .i64 z.1, .int .i64 z.2.1, .int .i64 z.2.2]) (ok := fun z => InK .i64 z.1 ∧ InK .i64 z.2.1 ∧ InK .i64 z.2.2) (h1 := fun _ => rfl) (h2 := fun _ => rfl) (k := 4) Try.underlying23 inf44 rfl (by decide) (by decide) (by decide) (.c (x := (0, 2, 1)) rfl rfl (fun _ _ => by exact ⟨inK_i64.2 (by first | omega | decide | (dsimp only; omega)), inK_i64.2 (by first | omega | decide | (dsimp only; omega)), inK_i64.2 (by first | omega | decide | (dsimp only; omega))⟩) (.c (x := (0, 1, 3)) rfl rfl (fun _ _ => by exact ⟨inK_i64.2 (by first | omega | decide | (dsimp only; omega)), inK_i64.2 (by first | omega | decide | (dsimp only; omega)), inK_i64.2 (by first | omega | decide | (dsimp only; omega))⟩) (.c (x := (0, 3, 2)) rfl rfl (fun _ _ => by exact ⟨inK_i64.2 (by first | omega | decide | (dsimp only; omega)), inK_i64.2 (by first | omega | decide | (dsimp only; omega)), inK_i64.2 (by first | omega | decide | (dsimp only; omega))⟩) (.c (x := (1, 2, 3)) rfl rfl (fun _ _ => by exact ⟨inK_i64.2 (by first | omega | decide | (dsimp only; omega)), inK_i64.2 (by first | omega | decide | (dsimp only; omega)), inK_i64.2 (by first | omega | decide | (dsimp only; omega))⟩) .n))))) (fun b3 _ => ?_)
 refine r_pv rfl rfl (pv_build_struct zr25 rfl Try.underlying25 (.c sz22 (.c sz23 .n)) (.c rfl (.c rfl .n)) (.c rfl rfl rfl (.take .nil) (.c rfl rfl rfl (.skip (.take .nil)) .n))) ?_
 refine r_store_box 2 rfl rfl rfl rfl rfl sz25 rfl (.take (.take .nil)) (.s (.s .z)) ?_
 refine r_nil ?_
 refine p_then ?_
 refine r_ret ?_
 refine p_freeze 0 rfl .z ?_
 refine p_freeze 1 rfl (.s .z) ?_
 exact p_ret1 Try.results44 (some ⟨b2, 0, none⟩, some ⟨b3, 0, none⟩) trivial (res_box_agg 2 ty25 rfl rfl (.take (.take .nil))) rfl (ho := (.n : PickO _ _ _)) ((.e (j := 0) rfl rfl (.e (j := 1) rfl rfl .n)) : SelR _ _ _)
end Go.Proofs.Ytalfgjpbbongcaa.Sp
