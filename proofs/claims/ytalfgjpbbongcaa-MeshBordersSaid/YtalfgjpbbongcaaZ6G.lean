/- Lemmas on the walk and plain lemmas that the claim of this folder uses; each states its own conditions. Lines were printed by a program of ours. -/
import Derived.Test.YtalfgjpbbongcaaZ6F
set_option linter.unusedVariables false
set_option linter.unusedSimpArgs false
set_option linter.unusedSectionVars false
namespace Go.Proofs.Ytalfgjpbbongcaa.Sp
open Go
set_option linter.unusedVariables false
set_option maxRecDepth 100000
set_option maxHeartbeats 1000000
theorem con_Parts {pv : Option Addr} {nv : Nat} {cv : Nat} {V : List (Int × Int × Int)} {pf : Option Addr} {nf : Nat} {cf : Nat} {F : List (Int × Int × Int)} (hnv : V.length = nv) (hnf : F.length = nf) : Con Try.prog 24 [.agg #[.slice pv nv cv, .slice pf nf cf]] [] [slF (rI3 .i64) pv cv V, slF (rI3 .i64) pf cf F] (Y := (Option Addr) × Nat) (fun y => True) (fun y => .tuple #[.slice (y.1) ((if Ms.check V F = 0 then Ms.partsL F else []).length) (y.2), .int .i64 (Ms.check V F)]) (fun y => []) (fun y => [slF (rI .i64) (y.1) (y.2) (if Ms.check V F = 0 then Ms.partsL F else [])]) := by
  refine con_intro Try.func24 rfl rfl rfl (fun c => ?_)
  show RunC _ _ _ _ _ [(0, .agg #[.slice pv nv cv, .slice pf nf cf])] [] [slF (rI3 .i64) pv cv V, slF (rI3 .i64) pf cf F]
  refine c_len 0 rfl (fun hL0 => ?_)
  refine c_len 1 rfl (fun hL1 => ?_)
  refine r_seq ?_
  refine r_region ?_
  refine r_new rfl rfl (ef_box rfl rfl) (fun b1 => ?_)
  refine r_pv rfl rfl (pv_assign rfl) ?_
  refine r_pv rfl rfl (pv_assign rfl) ?_
  refine r_nil ?_
  refine p_then ?_
  refine r_seq ?_
  refine r_seq ?_
  refine r_region ?_
  refine r_u rfl rfl (vl_load_box_agg 0 ty25 rfl rfl (.take (.take .nil))) ?_
  refine r_call1 rfl rfl (.c rfl .n) ce14 (con_Check (pv := pv) (nv := nv) (cv := cv) (V := V) (pf := pf) (nf := nf) (cf := cf) (F := F) (hnv := by assumption) (hnf := by assumption)) (.c (j := 0) rfl (.c (j := 1) rfl .n)) ?_
  refine r_pv rfl rfl (pv_assign rfl) ?_
  refine r_nil ?_
  refine p_then ?_
  refine r_seq ?_
  refine r_region ?_
  refine r_pv rfl rfl (pv_move rfl) ?_
  refine r_pv rfl rfl (pv_neq rfl rfl) ?_
  refine r_nil ?_
  refine p_then ?_
  refine r_cond rfl (fun hcode => ?_) (fun hcode => ?_)
  ·
    refine r_seq ?_
    refine r_region ?_
    refine r_pv rfl rfl (pv_move rfl) ?_
    refine r_pv rfl rfl (pv_assign rfl) ?_
    refine r_pv rfl rfl (pv_assign rfl) ?_
    refine r_nil ?_
    refine p_then ?_
    refine r_ret ?_
    refine p_then_ret ?_
    have hz : (if Ms.check V F = 0 then Ms.partsL F else []) = [] := if_neg hcode
    refine p_nilF (rI .i64) ?_
    exact p_ret2 Try.results24 (none, 0) trivial (res_tmp rfl) (res_tmp rfl) (by rw [hz]; rfl) (ho := (.n : PickO _ _ _)) ((.e (j := 0) rfl (by rw [hz]) .n) : SelR _ _ _)
  ·
    have hc0 := Decidable.not_not.1 hcode
    have hf0 := Ms.check_form hc0
    have hg := Ms.form_zero.1 hf0
    have hnv5 : nv ≤ 512 := by have := hg.nv; omega
    have hnf5 : nf ≤ 1024 := by have := hg.nf; omega
    refine r_skip ?_
    refine p_then ?_
    refine r_seq ?_
    refine r_region ?_
    refine r_ef0 rfl rfl (ef_makeMap (κ := Int) (ν := Int) (fun z : Int => .int .i64 z) (fun z : Int => .int .i64 z) (InK .i64)) (fun b2 _ => ?_)
    refine r_pv rfl rfl (pv_assign rfl) ?_
    refine r_nil ?_
    refine p_then ?_
    refine r_seq ?_
    refine r_seq ?_
    refine r_region ?_
    refine r_u rfl rfl (vl_load_box_agg 1 ty25 rfl rfl (.take (.take .nil))) ?_
    refine r_callf rfl rfl (.c rfl .n) ce66 (con_sides (pv := pv) (nv := nv) (cv := cv) (V := V) (pf := pf) (nf := nf) (cf := cf) (F := F) (hnv := by assumption) (hnf := by assumption) (hg := by first | rfl | assumption | omega | (simp; done) | (simp; omega) | (simp_all; done))) (.c (j := 0) rfl (.c (j := 1) rfl .n)) ?_
    rintro ⟨bZ, rawZ⟩ hraw
    dsimp only [List.append_eq, List.nil_append, List.cons_append]
    replace hraw : Raw rawZ (Ms.sides F) := hraw
    refine r_ef1 0 rfl rfl rfl (ef_range Try.underlying98 rfl) (fun _ => .z) (fun it3 _ => ?_)
    refine r_nil ?_
    refine p_then ?_
    refine r_block ?_
    refine r_loop (X := (List ((Int × Int) × Tri)) × (List (Int × Int))) (fun x : (List ((Int × Int) × Tri)) × (List (Int × Int)) => Ms.UC (Ms.Lof F (x.1.map Prod.fst)) x.2 ∧ (x.1.map Prod.fst).Nodup ∧ ∀ q ∈ x.1.map Prod.fst, q ∈ rawZ.map Prod.fst) (fun x => [(24, .pointer (some ⟨it3, 0, none⟩)), (5, .map (some b2)), (3, .int .i64 0), (2, .slice none 0 0), (1, .pointer (some ⟨b1, 0, none⟩))]) (fun x => [itA bZ it3 (fun z : Int × Int => .agg #[.int .i64 z.1, .int .i64 z.2]) (fun z : Option Addr × Nat × Nat => .slice z.1 z.2.1 z.2.2) (fun z => InK .i64 z.1 ∧ InK .i64 z.2) rawZ (x.1), mapA b2 (fun z : Int => .int .i64 z) (fun z : Int => .int .i64 z) (InK .i64) (x.2), boxA b1 25 [.slice pv nv cv, .slice pf nf cf]]) (fun x => [rawF (rI .i64) rawZ (Ms.sides F), slF (rI3 .i64) pv cv V, slF (rI3 .i64) pf cf F]) (fun x : (List ((Int × Int) × Tri)) × (List (Int × Int)) => rawZ.length - x.1.length) (([] : List ((Int × Int) × Tri)), ([] : List (Int × Int))) (show Ms.UC (Ms.Lof F (([] : List ((Int × Int) × Tri)).map Prod.fst)) ([] : List (Int × Int)) ∧ (([] : List ((Int × Int) × Tri)).map Prod.fst).Nodup ∧ ∀ q ∈ ([] : List ((Int × Int) × Tri)).map Prod.fst, q ∈ rawZ.map Prod.fst from by exact ⟨Ms.UC.nil, by simp, fun q h => (by cases h)⟩) ((.of rfl) : SubM _ _) (ho := ((.e (i := 0) rfl (by first | rfl | (congr 1; omega) | simp_all) (.e (i := 0) rfl (by first | rfl | (congr 1; omega) | simp_all) (.c (i := 0) rfl .n))) : PickO _ _ _)) ((.of [0, 1, 2] rfl) : SelR _ _ _) ?_
    rintro ⟨vis, uu⟩ hBB
    replace hBB : Ms.UC (Ms.Lof F (vis.map Prod.fst)) uu ∧ (vis.map Prod.fst).Nodup ∧ ∀ q ∈ vis.map Prod.fst, q ∈ rawZ.map Prod.fst := hBB
    show RunC _ _ _ _ _ [(24, .pointer (some ⟨it3, 0, none⟩)), (5, .map (some b2)), (3, .int .i64 0), (2, .slice none 0 0), (1, .pointer (some ⟨b1, 0, none⟩))] [itA bZ it3 (fun z : Int × Int => .agg #[.int .i64 z.1, .int .i64 z.2]) (fun z : Option Addr × Nat × Nat => .slice z.1 z.2.1 z.2.2) (fun z => InK .i64 z.1 ∧ InK .i64 z.2) rawZ vis, mapA b2 (fun z : Int => .int .i64 z) (fun z : Int => .int .i64 z) (InK .i64) uu, boxA b1 25 [.slice pv nv cv, .slice pf nf cf]] [rawF (rI .i64) rawZ (Ms.sides F), slF (rI3 .i64) pv cv V, slF (rI3 .i64) pf cf F]
    obtain ⟨hB, hBn, hBs⟩ := hBB
    refine r_seq ?_
    refine r_region ?_
    refine r_next 0 rfl rfl rfl rfl (fun _ => .z) (fun e hem hen => ?_) (fun hperm => ?_)
    ·
      have hsl9 : (Ms.sl F e.1).length ≤ 3 * F.length := Ms.sides_len F e.1
      have hdl : ((Ms.sl F e.1).drop 1).length = (Ms.sl F e.1).length - 1 := List.length_drop
      have hkey : e.1 ∈ (Ms.sides F).map (·.1) := by rw [← hraw.keys]; exact List.mem_map_of_mem hem
      have hslp := Ms.sl_ne hkey
      have hx0 := Ms.sl_rng (F := F) (k := e.1) (Ms.getD_mem (l := (Ms.sl F e.1)) (i := 0) 0 hslp)
      refine r_pv rfl rfl (pv_extract rfl rfl) ?_
      refine r_nil ?_
      refine p_then ?_
      refine r_seq ?_
      refine r_cond_t rfl rfl ?_
      refine r_skip ?_
      refine p_then ?_
      refine r_block ?_
      refine r_seq ?_
      refine r_region ?_
      refine r_u rfl rfl (vl_entry (p := e) 0 rfl rfl) ?_
      refine r_pv rfl rfl (pv_extract rfl rfl) ?_
      refine r_pv rfl rfl (pv_assign rfl) ?_
      refine r_nil ?_
      refine p_then ?_
      refine r_seq ?_
      have e4 : e.2 = ((mget rawZ e.1).getD (none, 0, 0)) := by rw [Ms.mget_of_mem (by rw [hraw.keys]; exact Ms.sides_nodup F) hem]; rfl
      rw [e4]
      refine c_rawget 0 rfl e.1 (fun p5 c6 hg7 => ?_)
      rw [hg7]
      dsimp only
      have e8 : ((mget (Ms.sides F) e.1).getD []) = (Ms.sl F e.1) := by rfl
      rw [e8]
      refine c_len 0 rfl (fun hLs => ?_)
      refine r_region ?_
      refine r_pv rfl rfl (pv_move rfl) ?_
      refine r_pv rfl rfl (pv_slice (lo := 1) (hi := (Ms.sl F e.1).length) Try.underlying50 sz3 rfl (.s rfl) .n (.inr ⟨_, rfl⟩) (.inl ⟨rfl, rfl⟩) (by omega) (by omega)) ?_
      refine r_more (slF_part 0 rfl 1 ((Ms.sl F e.1).length) (by omega) (by omega)) (fun _ _ => ?_)
      refine r_pv rfl rfl (pv_len Try.underlying50 rfl) ?_
      refine r_pv rfl rfl (pv_move rfl) ?_
      refine r_nil ?_
      refine p_then ?_
      refine r_block ?_
      have e9 : (Ms.sl F e.1).take ((Ms.sl F e.1).length) = (Ms.sl F e.1) := by exact List.take_length
      rw [e9]
      refine r_loop (X := Nat × (List (Int × Int))) (fun x : Nat × (List (Int × Int)) => x.1 ≤ (Ms.sl F e.1).length - 1 ∧ Ms.UC (Ms.Lof F (vis.map Prod.fst) ++ (((Ms.sl F e.1).drop 1).take x.1).map (fun jj => ((Ms.sl F e.1).getD 0 0, jj))) x.2) (fun x => [(32, .int .i64 ((x.1 : Nat) : Int)), (31, .int .i64 ((((Ms.sl F e.1).length) - 1 : Nat) : Int)), (30, .slice (newP p5 c6 1 1) (((Ms.sl F e.1).length) - 1) (c6 - 1)), (29, .slice p5 ((Ms.sl F e.1).length) c6), (7, .slice p5 ((Ms.sl F e.1).length) c6), (28, .slice p5 ((Ms.sl F e.1).length) c6), (27, .tuple #[.agg #[.int .i64 (e.1.1), .int .i64 (e.1.2)], .slice p5 ((Ms.sl F e.1).length) c6]), (26, .bool true), (25, .tuple #[.bool true, .agg #[.int .i64 (e.1.1), .int .i64 (e.1.2)], .slice p5 ((Ms.sl F e.1).length) c6]), (24, .pointer (some ⟨it3, 0, none⟩)), (5, .map (some b2)), (3, .int .i64 0), (2, .slice none 0 0), (1, .pointer (some ⟨b1, 0, none⟩))]) (fun x => [itA bZ it3 (fun z : Int × Int => .agg #[.int .i64 z.1, .int .i64 z.2]) (fun z : Option Addr × Nat × Nat => .slice z.1 z.2.1 z.2.2) (fun z => InK .i64 z.1 ∧ InK .i64 z.2) rawZ (vis ++ [e]), mapA b2 (fun z : Int => .int .i64 z) (fun z : Int => .int .i64 z) (InK .i64) (x.2), boxA b1 25 [.slice pv nv cv, .slice pf nf cf]]) (fun x => [slF (rI .i64) (newP p5 c6 1 1) (c6 - 1) ((Ms.sl F e.1).drop 1), slF (rI .i64) p5 c6 (Ms.sl F e.1), rawF (rI .i64) rawZ (Ms.sides F), slF (rI3 .i64) pv cv V, slF (rI3 .i64) pf cf F]) (fun x : Nat × (List (Int × Int)) => (Ms.sl F e.1).length - 1 - x.1) (0, uu) (show 0 ≤ (Ms.sl F e.1).length - 1 ∧ Ms.UC (Ms.Lof F (vis.map Prod.fst) ++ (((Ms.sl F e.1).drop 1).take 0).map (fun jj => ((Ms.sl F e.1).getD 0 0, jj))) uu from by exact ⟨Nat.zero_le _, by simpa using hB⟩) ((.e rfl (by first | rfl | (congr 1; omega) | simp_all) (.of rfl)) : SubM _ _) (ho := ((.of [0, 0, 0] rfl) : PickO _ _ _)) ((.of [0, 1, 2, 3, 4] rfl) : SelR _ _ _) ?_
      rintro ⟨j, uu2⟩ hJ
      replace hJ : j ≤ (Ms.sl F e.1).length - 1 ∧ Ms.UC (Ms.Lof F (vis.map Prod.fst) ++ (((Ms.sl F e.1).drop 1).take j).map (fun jj => ((Ms.sl F e.1).getD 0 0, jj))) uu2 := hJ
      show RunC _ _ _ _ _ [(32, .int .i64 ((j : Nat) : Int)), (31, .int .i64 ((((Ms.sl F e.1).length) - 1 : Nat) : Int)), (30, .slice (newP p5 c6 1 1) (((Ms.sl F e.1).length) - 1) (c6 - 1)), (29, .slice p5 ((Ms.sl F e.1).length) c6), (7, .slice p5 ((Ms.sl F e.1).length) c6), (28, .slice p5 ((Ms.sl F e.1).length) c6), (27, .tuple #[.agg #[.int .i64 (e.1.1), .int .i64 (e.1.2)], .slice p5 ((Ms.sl F e.1).length) c6]), (26, .bool true), (25, .tuple #[.bool true, .agg #[.int .i64 (e.1.1), .int .i64 (e.1.2)], .slice p5 ((Ms.sl F e.1).length) c6]), (24, .pointer (some ⟨it3, 0, none⟩)), (5, .map (some b2)), (3, .int .i64 0), (2, .slice none 0 0), (1, .pointer (some ⟨b1, 0, none⟩))] [itA bZ it3 (fun z : Int × Int => .agg #[.int .i64 z.1, .int .i64 z.2]) (fun z : Option Addr × Nat × Nat => .slice z.1 z.2.1 z.2.2) (fun z => InK .i64 z.1 ∧ InK .i64 z.2) rawZ (vis ++ [e]), mapA b2 (fun z : Int => .int .i64 z) (fun z : Int => .int .i64 z) (InK .i64) uu2, boxA b1 25 [.slice pv nv cv, .slice pf nf cf]] [slF (rI .i64) (newP p5 c6 1 1) (c6 - 1) ((Ms.sl F e.1).drop 1), slF (rI .i64) p5 c6 (Ms.sl F e.1), rawF (rI .i64) rawZ (Ms.sides F), slF (rI3 .i64) pv cv V, slF (rI3 .i64) pf cf F]
      obtain ⟨hj, hU⟩ := hJ
      refine r_seq ?_
      refine r_region ?_
      refine r_pv rfl rfl (pv_lss rfl rfl) ?_
      refine r_nil ?_
      refine p_then ?_
      refine r_seq ?_
      refine r_cond rfl (fun h10 => ?_) (fun h10 => ?_)
      ·
        have hxj := Ms.sl_rng (F := F) (k := e.1) (List.mem_of_mem_drop (Ms.getD_mem (l := (Ms.sl F e.1).drop 1) (i := j) 0 (by rw [List.length_drop]; omega)))
        refine r_skip ?_
        refine p_then ?_
        refine r_seq ?_
        refine r_block ?_
        refine r_seq ?_
        refine r_region ?_
        refine r_index_fl (x0 := (((Ms.sl F e.1).drop 1).getD j 0)) 0 j rfl Try.underlying50 sz3 rfl rfl rfl (by first | rfl | assumption | (simp; done) | omega) rfl rfl (gD (d := 0) (by omega)) (fun b11 o12 hok13 => ?_)
        replace hok13 := inK_i64.1 hok13
        refine r_u rfl rfl (vl_load_at_one (j := 0) 0 ty3 rfl rfl rfl rfl) ?_
        refine r_pv rfl rfl (pv_assign rfl) ?_
        refine r_nil ?_
        refine p_then ?_
        refine r_region ?_
        refine r_pv rfl rfl (pv_move rfl) ?_
        refine r_pv rfl rfl (pv_move rfl) ?_
        refine r_index_fl (x0 := ((Ms.sl F e.1).getD 0 0)) 2 0 rfl Try.underlying50 sz3 rfl rfl rfl (by first | rfl | assumption | (simp; done) | omega) rfl rfl (gD (d := 0) (by omega)) (fun b14 o15 hok16 => ?_)
        replace hok16 := inK_i64.1 hok16
        refine r_u rfl rfl (vl_load_at_one (j := 0) 0 ty3 rfl rfl rfl rfl) ?_
        refine r_pv rfl rfl (pv_move rfl) ?_
        refine l_perm (perm_front (i := 1) rfl) ?_
        refine r_callo (A := [mapA b2 (fun z : Int => .int .i64 z) (fun z : Int => .int .i64 z) (InK .i64) uu2]) (F := [itA bZ it3 (fun z : Int × Int => .agg #[.int .i64 z.1, .int .i64 z.2]) (fun z : Option Addr × Nat × Nat => .slice z.1 z.2.1 z.2.2) (fun z => InK .i64 z.1 ∧ InK .i64 z.2) rawZ (vis ++ [e]), boxA b1 25 [.slice pv nv cv, .slice pf nf cf]]) (first := []) (cap := []) rfl rfl rfl (.c rfl (.c rfl (.c rfl .n))) ce48 (con_join (b := b2) (U := uu2) (i0 := ((Ms.sl F e.1).getD 0 0)) (k0 := (((Ms.sl F e.1).drop 1).getD j 0)) (hU := by exact hU.ok) (hi0 := by first | rfl | assumption | omega | (simp; done) | (simp; omega) | (simp_all; done)) (hk0 := by first | rfl | assumption | omega | (simp; done) | (simp; omega) | (simp_all; done))) (.n) ?_
        rintro ⟨⟩ -
        dsimp only [List.append_eq, List.nil_append, List.cons_append]
        refine r_nil ?_
        refine p_block ?_
        refine p_then ?_
        refine r_region ?_
        refine r_pv rfl rfl (pv_add (z := (((j + 1) : Nat) : Int)) rfl rfl (w64 (by omega))) ?_
        refine r_pv rfl rfl (pv_move rfl) ?_
        refine r_nil ?_
        refine p_next ((j + 1), Ms.joinU uu2 ((Ms.sl F e.1).getD 0 0) (((Ms.sl F e.1).drop 1).getD j 0)) (show (j + 1) ≤ (Ms.sl F e.1).length - 1 ∧ Ms.UC (Ms.Lof F (vis.map Prod.fst) ++ (((Ms.sl F e.1).drop 1).take (j + 1)).map (fun jj => ((Ms.sl F e.1).getD 0 0, jj))) (Ms.joinU uu2 ((Ms.sl F e.1).getD 0 0) (((Ms.sl F e.1).drop 1).getD j 0)) from by exact ⟨by omega, by rw [Ms.star_take (by rw [List.length_drop]; omega), ← List.append_assoc]; exact hU.step hx0.1 hxj.1⟩) (by omega) ((.of rfl) : SubM _ _) (ho := ((.of [1, 0, 0] rfl) : PickO _ _ _)) ((.of [2, 3, 4, 5, 6] rfl) : SelR _ _ _)
      ·
        refine r_exit ?_
        refine p_then_exit ?_
        refine p_then_exit ?_
        refine p_block_here ?_
        refine p_block ?_
        have hvs : ((vis ++ [e]).map Prod.fst).Nodup ∧ ∀ q ∈ (vis ++ [e]).map Prod.fst, q ∈ rawZ.map Prod.fst := by
          rw [List.map_append]
          exact ⟨Ms.nodup_step hBn hen, fun q hq => (List.mem_append.1 hq).elim (hBs q) (fun h => by simp at h; subst h; exact List.mem_map_of_mem hem)⟩
        refine p_next ((vis ++ [e]), uu2) (show Ms.UC (Ms.Lof F ((vis ++ [e]).map Prod.fst)) uu2 ∧ ((vis ++ [e]).map Prod.fst).Nodup ∧ ∀ q ∈ (vis ++ [e]).map Prod.fst, q ∈ rawZ.map Prod.fst from by refine ⟨?_, hvs.1, hvs.2⟩; rw [List.map_append, List.map_cons, List.map_nil, Ms.Lof_snoc]; have h9 := hU; rw [List.take_of_length_le (by omega)] at h9; exact h9) (by have h8 := Ms.len_of_sub hvs.1 hvs.2; simp only [List.length_map, List.length_append, List.length_cons, List.length_nil] at *; omega) ((.of rfl) : SubM _ _) (ho := ((.of [0, 0, 0] rfl) : PickO _ _ _)) ((.of [2, 3, 4] rfl) : SelR _ _ _)
    ·
      refine r_pv rfl rfl (pv_extract rfl rfl) ?_
      refine r_nil ?_
      refine p_then ?_
      refine r_seq ?_
      refine r_cond_f rfl rfl ?_
      refine r_exit ?_
      refine p_then_exit ?_
      refine p_then_exit ?_
      refine p_block_here ?_
      refine p_then ?_
      refine r_seq ?_
      refine r_region ?_
      refine r_pv rfl rfl (pv_assign rfl) ?_
      refine r_nil ?_
      refine p_then ?_
      refine r_seq ?_
      have hcls : ∀ a b, a < F.length → b < F.length → (Ms.find uu (a : Int) = Ms.find uu (b : Int) ↔ Ms.Cls F F.length a b) := fun a b ha hb => (hB.conn a b (by omega) (by omega)).trans (Ms.parts_eq hg.dg (fun k hk => by rw [← hraw.keys] at hk; obtain ⟨q, hq, rfl⟩ := List.mem_map.1 hk; exact List.mem_map_of_mem (hperm.mem_iff.2 hq)) ha hb)
      refine r_region ?_
      refine r_ef0 rfl rfl (ef_makeMap (κ := Int) (ν := Int) (fun z : Int => .int .i64 z) (fun z : Int => .int .i64 z) (InK .i64)) (fun b17 _ => ?_)
      refine r_pv rfl rfl (pv_assign rfl) ?_
      refine r_nil ?_
      refine p_then ?_
      refine r_seq ?_
      refine r_seq ?_
      refine c_nilrow 3 (rI .i64) ?_
      refine r_region ?_
      refine r_pv rfl rfl (pv_fieldAddr Try.underlying25 rfl sz23 rfl rfl) ?_
      refine r_u rfl rfl (vl_load_box_one 4 ty23 rfl rfl rfl) ?_
      refine r_pv rfl rfl (pv_len Try.underlying23 rfl) ?_
      refine r_pv rfl rfl (pv_move rfl) ?_
      refine r_nil ?_
      refine p_then ?_
      refine r_block ?_
      refine r_loop (X := Nat × (Option Addr) × Nat × (List Int) × (List (Int × Int))) (fun x : Nat × (Option Addr) × Nat × (List Int) × (List (Int × Int)) => x.1 ≤ nf ∧ Ms.NumI (fun jj : Nat => Ms.find uu (jj : Int)) x.1 x.2.2.2.2 ∧ x.2.2.2.1 = Ms.numsL (Ms.Er (fun jj : Nat => Ms.find uu (jj : Int))) x.1) (fun x => [(10, .slice (x.2.1) (x.2.2.2.1.length) (x.2.2.1)), (47, .int .i64 ((x.1 : Nat) : Int)), (46, .int .i64 ((nf : Nat) : Int)), (11, .map (some b17)), (5, .map (some b2)), (3, .int .i64 0), (2, .slice none 0 0)]) (fun x => [rowA 3 (rI .i64) (x.2.1) (x.2.2.1) (x.2.2.2.1), mapA b17 (fun z : Int => .int .i64 z) (fun z : Int => .int .i64 z) (InK .i64) (x.2.2.2.2), itA bZ it3 (fun z : Int × Int => .agg #[.int .i64 z.1, .int .i64 z.2]) (fun z : Option Addr × Nat × Nat => .slice z.1 z.2.1 z.2.2) (fun z => InK .i64 z.1 ∧ InK .i64 z.2) rawZ vis, mapA b2 (fun z : Int => .int .i64 z) (fun z : Int => .int .i64 z) (InK .i64) uu, boxA b1 25 [.slice pv nv cv, .slice pf nf cf]]) (fun x => [rawF (rI .i64) rawZ (Ms.sides F), slF (rI3 .i64) pv cv V, slF (rI3 .i64) pf cf F]) (fun x : Nat × (Option Addr) × Nat × (List Int) × (List (Int × Int)) => nf - x.1) (0, none, 0, ([] : List Int), ([] : List (Int × Int))) (show 0 ≤ nf ∧ Ms.NumI (fun jj : Nat => Ms.find uu (jj : Int)) 0 ([] : List (Int × Int)) ∧ ([] : List Int) = Ms.numsL (Ms.Er (fun jj : Nat => Ms.find uu (jj : Int))) 0 from by exact ⟨Nat.zero_le _, Ms.NumI.start _, rfl⟩) ((.e rfl (by first | rfl | (congr 1; omega) | simp_all) (.e rfl (by first | rfl | (congr 1; omega) | simp_all) (.of rfl))) : SubM _ _) (ho := ((.e (i := 0) rfl (by first | rfl | (congr 1; omega) | simp_all) (.e (i := 0) rfl (by first | rfl | (congr 1; omega) | simp_all) (.of [0, 0, 0] rfl))) : PickO _ _ _)) ((.of [0, 1, 2] rfl) : SelR _ _ _) ?_
      rintro ⟨i, p, c, A, nm⟩ hI
      replace hI : i ≤ nf ∧ Ms.NumI (fun jj : Nat => Ms.find uu (jj : Int)) i nm ∧ A = Ms.numsL (Ms.Er (fun jj : Nat => Ms.find uu (jj : Int))) i := hI
      show RunC _ _ _ _ _ [(10, .slice p (A.length) c), (47, .int .i64 ((i : Nat) : Int)), (46, .int .i64 ((nf : Nat) : Int)), (11, .map (some b17)), (5, .map (some b2)), (3, .int .i64 0), (2, .slice none 0 0)] [rowA 3 (rI .i64) p c A, mapA b17 (fun z : Int => .int .i64 z) (fun z : Int => .int .i64 z) (InK .i64) nm, itA bZ it3 (fun z : Int × Int => .agg #[.int .i64 z.1, .int .i64 z.2]) (fun z : Option Addr × Nat × Nat => .slice z.1 z.2.1 z.2.2) (fun z => InK .i64 z.1 ∧ InK .i64 z.2) rawZ vis, mapA b2 (fun z : Int => .int .i64 z) (fun z : Int => .int .i64 z) (InK .i64) uu, boxA b1 25 [.slice pv nv cv, .slice pf nf cf]] [rawF (rI .i64) rawZ (Ms.sides F), slF (rI3 .i64) pv cv V, slF (rI3 .i64) pf cf F]
      obtain ⟨hi, hN, hA⟩ := hI
      have hNl := hN.len
      have hNc := Ms.cntF_le (Ms.Er (fun jj : Nat => Ms.find uu (jj : Int))) i
      have hAl : A.length = i := by rw [hA]; exact Ms.numsL_len _ _
      have hrg := hN.rng (Ms.find uu ((i : Nat) : Int))
      refine r_seq ?_
      refine r_region ?_
      refine r_pv rfl rfl (pv_lss rfl rfl) ?_
      refine r_nil ?_
      refine p_then ?_
      refine r_seq ?_
      refine r_cond rfl (fun h18 => ?_) (fun h18 => ?_)
      ·
        have hfr := Ms.find_rng hB.ok ((i : Nat) : Int) (by omega)
        refine r_skip ?_
        refine p_then ?_
        refine r_seq ?_
        refine r_block ?_
        refine r_seq ?_
        refine r_region ?_
        refine r_pv rfl rfl (pv_move rfl) ?_
        refine r_pv rfl rfl (pv_assign rfl) ?_
        refine r_nil ?_
        refine p_then ?_
        refine r_seq ?_
        refine r_region ?_
        refine r_pv rfl rfl (pv_move rfl) ?_
        refine r_pv rfl rfl (pv_move rfl) ?_
        refine l_perm (perm_front (i := 3) rfl) ?_
        refine r_callo (A := [mapA b2 (fun z : Int => .int .i64 z) (fun z : Int => .int .i64 z) (InK .i64) uu]) (F := [rowA 3 (rI .i64) p c A, mapA b17 (fun z : Int => .int .i64 z) (fun z : Int => .int .i64 z) (InK .i64) nm, itA bZ it3 (fun z : Int × Int => .agg #[.int .i64 z.1, .int .i64 z.2]) (fun z : Option Addr × Nat × Nat => .slice z.1 z.2.1 z.2.2) (fun z => InK .i64 z.1 ∧ InK .i64 z.2) rawZ vis, boxA b1 25 [.slice pv nv cv, .slice pf nf cf]]) (first := []) (cap := []) rfl rfl rfl (.c rfl (.c rfl .n)) ce49 (con_find (b := b2) (U := uu) (i0 := ((i : Nat) : Int)) (hU := by exact hB.ok) (hi0 := by first | rfl | assumption | omega | (simp; done) | (simp; omega) | (simp_all; done))) (.n) ?_
        rintro ⟨⟩ -
        dsimp only [List.append_eq, List.nil_append, List.cons_append]
        refine r_pv rfl rfl (pv_assign rfl) ?_
        refine r_nil ?_
        refine p_then ?_
        refine r_seq ?_
        refine r_region ?_
        refine r_pv rfl rfl (pv_move rfl) ?_
        refine r_pv rfl rfl (pv_move rfl) ?_
        refine r_u rfl rfl (vl_lookup2 (z := 0) (a0 := (Ms.find uu ((i : Nat) : Int))) (v := .int .i64 ((mget nm (Ms.find uu ((i : Nat) : Int))).getD 0)) 2 rfl ky3 Try.underlying76 zr3 rfl rfl (inK_i64.2 (by omega)) rfl) ?_
        refine r_pv rfl rfl (pv_move rfl) ?_
        refine r_pv rfl rfl (pv_extract rfl rfl) ?_
        refine r_pv rfl rfl (pv_extract rfl rfl) ?_
        refine r_pv rfl rfl (pv_assign rfl) ?_
        refine r_pv rfl rfl (pv_assign rfl) ?_
        refine r_nil ?_
        refine p_then ?_
        refine r_seq ?_
        refine r_seq ?_
        refine r_region ?_
        refine r_pv rfl rfl (pv_move rfl) ?_
        refine r_pv rfl rfl (pv_not rfl) ?_
        refine r_nil ?_
        refine p_then ?_
        refine r_condb rfl (fun hnn => ?_) (fun hnn => ?_)
        ·
          refine r_seq ?_
          refine r_region ?_
          refine r_pv rfl rfl (pv_move rfl) ?_
          refine r_u rfl rfl (vl_lenMap (encK := (fun z : Int => .int .i64 z)) (encV := (fun z : Int => .int .i64 z)) (ok := (InK .i64)) (m := nm) 2 rfl Try.underlying76 rfl) ?_
          refine r_pv rfl rfl (pv_assign rfl) ?_
          refine r_nil ?_
          refine p_then ?_
          refine r_region ?_
          refine r_pv rfl rfl (pv_move rfl) ?_
          refine r_pv rfl rfl (pv_move rfl) ?_
          refine r_pv rfl rfl (pv_move rfl) ?_
          refine r_ef1 2 rfl rfl rfl (ef_update (a0 := (Ms.find uu ((i : Nat) : Int))) (v := (((nm).length : Nat) : Int)) ky3 Try.underlying76 rfl rfl rfl (inK_i64.2 (by omega))) (fun _ => (.s (.s .z))) (fun _ _ => ?_)
          refine r_nil ?_
          refine p_then ?_
          refine r_region ?_
          refine r_pv rfl rfl (pv_move rfl) ?_
          refine r_pv rfl rfl (pv_move rfl) ?_
          refine r_ef0 rfl rfl (ef_buildSlice_fl (enc := fun z : Int => [.int .i64 z]) (ok := InK .i64) (h1 := fun _ => rfl) (h2 := fun _ => rfl) (k := 1) Try.underlying50 inf3 rfl (by decide) (by decide) (by decide) (.c (x := (((nm).length : Nat) : Int)) rfl rfl (fun _ _ => by exact inK_i64.2 (by omega)) .n)) (fun b19 _ => ?_)
          refine r_freeze 0 rfl .z ?_
          refine r_ef1 2 rfl rfl rfl (ef_append 0 rfl Try.underlying50 inf3 (by decide) rfl rfl (by first | rfl | assumption | (simp; done) | omega) rfl (by first | rfl | assumption | (simp; done) | omega) (by omega) (by omega)) (fun _ => (.s (.s .z))) ?_
          rintro ⟨p20, c21⟩ -
          dsimp only [List.append_eq, List.nil_append, List.cons_append]
          refine r_pv rfl rfl (pv_assign rfl) ?_
          refine r_nil ?_
          refine p_block ?_
          refine p_then ?_
          refine r_region ?_
          refine r_pv rfl rfl (pv_add (z := (((i + 1) : Nat) : Int)) rfl rfl (w64 (by omega))) ?_
          refine r_pv rfl rfl (pv_move rfl) ?_
          refine r_nil ?_
          refine p_next ((i + 1), p20, c21, (A ++ ([(((nm).length : Nat) : Int)])), mput nm (Ms.find uu ((i : Nat) : Int)) (((nm).length : Nat) : Int)) (show (i + 1) ≤ nf ∧ Ms.NumI (fun jj : Nat => Ms.find uu (jj : Int)) (i + 1) (mput nm (Ms.find uu ((i : Nat) : Int)) (((nm).length : Nat) : Int)) ∧ (A ++ ([(((nm).length : Nat) : Int)])) = Ms.numsL (Ms.Er (fun jj : Nat => Ms.find uu (jj : Int))) (i + 1) from by have hp := hN.put (by simpa using hnn); exact ⟨by omega, hp.1, by rw [hp.2, hA]⟩) (by show nf - (i + 1) < nf - i; omega) ((.e rfl (by simp) (.of rfl)) : SubM _ _) (ho := ((.of [2, 2, 2, 1, 1] rfl) : PickO _ _ _)) ((.of [1, 2, 3] rfl) : SelR _ _ _)
        ·
          refine r_skip ?_
          refine p_then ?_
          refine r_region ?_
          refine r_pv rfl rfl (pv_move rfl) ?_
          refine r_pv rfl rfl (pv_move rfl) ?_
          refine r_ef0 rfl rfl (ef_buildSlice_fl (enc := fun z : Int => [.int .i64 z]) (ok := InK .i64) (h1 := fun _ => rfl) (h2 := fun _ => rfl) (k := 1) Try.underlying50 inf3 rfl (by decide) (by decide) (by decide) (.c (x := ((mget nm (Ms.find uu ((i : Nat) : Int))).getD 0)) rfl rfl (fun _ _ => by exact inK_i64.2 (by omega)) .n)) (fun b22 _ => ?_)
          refine r_freeze 0 rfl .z ?_
          refine r_ef1 2 rfl rfl rfl (ef_append 0 rfl Try.underlying50 inf3 (by decide) rfl rfl (by first | rfl | assumption | (simp; done) | omega) rfl (by first | rfl | assumption | (simp; done) | omega) (by omega) (by omega)) (fun _ => (.s (.s .z))) ?_
          rintro ⟨p23, c24⟩ -
          dsimp only [List.append_eq, List.nil_append, List.cons_append]
          refine r_pv rfl rfl (pv_assign rfl) ?_
          refine r_nil ?_
          refine p_block ?_
          refine p_then ?_
          refine r_region ?_
          refine r_pv rfl rfl (pv_add (z := (((i + 1) : Nat) : Int)) rfl rfl (w64 (by omega))) ?_
          refine r_pv rfl rfl (pv_move rfl) ?_
          refine r_nil ?_
          refine p_next ((i + 1), p23, c24, (A ++ ([((mget nm (Ms.find uu ((i : Nat) : Int))).getD 0)])), nm) (show (i + 1) ≤ nf ∧ Ms.NumI (fun jj : Nat => Ms.find uu (jj : Int)) (i + 1) nm ∧ (A ++ ([((mget nm (Ms.find uu ((i : Nat) : Int))).getD 0)])) = Ms.numsL (Ms.Er (fun jj : Nat => Ms.find uu (jj : Int))) (i + 1) from by have hp := hN.keep (by simpa using hnn); exact ⟨by omega, hp.1, by rw [hp.2, hA]⟩) (by show nf - (i + 1) < nf - i; omega) ((.e rfl (by simp) (.of rfl)) : SubM _ _) (ho := ((.of [2, 2, 2, 1, 1] rfl) : PickO _ _ _)) ((.of [1, 2, 3] rfl) : SelR _ _ _)
      ·
        refine r_exit ?_
        refine p_then_exit ?_
        refine p_then_exit ?_
        refine p_block_here ?_
        refine p_then ?_
        refine r_seq ?_
        refine r_region ?_
        refine r_pv rfl rfl (pv_move rfl) ?_
        refine r_pv rfl rfl (pv_assign rfl) ?_
        refine r_pv rfl rfl (pv_assign rfl) ?_
        refine r_nil ?_
        refine p_then ?_
        refine r_ret ?_
        have hz : (if Ms.check V F = 0 then Ms.partsL F else []) = A := by rw [if_pos hc0, hA, show i = nf by omega, ← hnf]; exact (Ms.parts_of hg.dg hcls).symm
        refine p_freeze 0 rfl .z ?_
        exact p_ret2 Try.results24 (p, c) trivial (res_tmp rfl) (res_tmp rfl) (by rw [hz, hc0]) (ho := (.n : PickO _ _ _)) ((.e (j := 0) rfl (by rw [hz]) .n) : SelR _ _ _)
end Go.Proofs.Ytalfgjpbbongcaa.Sp
namespace Go.Proofs.Ytalfgjpbbongcaa.Sp
open Go
set_option linter.unusedVariables false
set_option maxRecDepth 100000
set_option maxHeartbeats 1000000
theorem con_leuler {pv : Option Addr} {nv : Nat} {cv : Nat} {V : List (Int × Int × Int)} {pf : Option Addr} {nf : Nat} {cf : Nat} {F : List (Int × Int × Int)} (hnv : V.length = nv) (hnf : F.length = nf) (hg : Ms.Good V F) : Con Try.prog 30 [.agg #[.slice pv nv cv, .slice pf nf cf]] [] [slF (rI3 .i64) pv cv V, slF (rI3 .i64) pf cf F] (Y := Unit) (fun y => True) (fun y => .int .i64 (Ms.eulerL V F)) (fun y => []) (fun y => []) := by
 refine con_intro Try.func30 rfl rfl rfl (fun c => ?_)
 show RunC _ _ _ _ _ [(0, .agg #[.slice pv nv cv, .slice pf nf cf])] [] [slF (rI3 .i64) pv cv V, slF (rI3 .i64) pf cf F]
 refine c_len 0 rfl (fun hL0 => ?_)
 refine c_len 1 rfl (fun hL1 => ?_)
 have hnv5 : nv ≤ 512 := by have := hg.nv; omega
 have hnf5 : nf ≤ 1024 := by have := hg.nf; omega
 have hln := Ms.all_len F
 refine r_seq ?_
 refine r_region ?_
 refine r_new rfl rfl (ef_box rfl rfl) (fun b1 => ?_)
 refine r_pv rfl rfl (pv_assign rfl) ?_
 refine r_nil ?_
 refine p_then ?_
 refine r_seq ?_
 refine r_region ?_
 refine r_pv rfl rfl (pv_fieldAddr Try.underlying25 rfl sz23 rfl rfl) ?_
 refine r_u rfl rfl (vl_load_box_one 0 ty23 rfl rfl rfl) ?_
 refine r_pv rfl rfl (pv_len Try.underlying23 rfl) ?_
 refine r_pv rfl rfl (pv_assign rfl) ?_
 refine r_nil ?_
 refine p_then ?_
 refine r_seq ?_
 refine r_seq ?_
 refine r_region ?_
 refine r_pv rfl rfl (pv_fieldAddr Try.underlying25 rfl sz22 rfl rfl) ?_
 refine r_u rfl rfl (vl_load_box_one 0 ty22 rfl rfl rfl) ?_
 refine r_pv rfl rfl (pv_len Try.underlying22 rfl) ?_
 refine r_pv rfl rfl (pv_move rfl) ?_
 refine r_nil ?_
 refine p_then ?_
 refine r_block ?_
 refine r_loop (X := Nat × Nat) (fun x : Nat × Nat => x.1 ≤ nv ∧ x.2 = nf + Ms.usedN F x.1) (fun x => [(3, .int .i64 ((x.2 : Nat) : Int)), (16, .int .i64 ((x.1 : Nat) : Int)), (15, .int .i64 ((nv : Nat) : Int)), (2, .int .i64 0), (1, .pointer (some ⟨b1, 0, none⟩))]) (fun x => [boxA b1 25 [.slice pv nv cv, .slice pf nf cf]]) (fun x => [slF (rI3 .i64) pv cv V, slF (rI3 .i64) pf cf F]) (fun x : Nat × Nat => nv - x.1) (0, nf) (show 0 ≤ nv ∧ nf = nf + Ms.usedN F 0 from by exact ⟨Nat.zero_le _, rfl⟩) ((.c rfl (.e rfl (by first | rfl | (congr 1; omega) | simp_all) (.of rfl))) : SubM _ _) (ho := ((.c (i := 0) rfl .n) : PickO _ _ _)) ((.of [0, 1] rfl) : SelR _ _ _) ?_
 rintro ⟨v, q⟩ hI
 replace hI : v ≤ nv ∧ q = nf + Ms.usedN F v := hI
 show RunC _ _ _ _ _ [(3, .int .i64 ((q : Nat) : Int)), (16, .int .i64 ((v : Nat) : Int)), (15, .int .i64 ((nv : Nat) : Int)), (2, .int .i64 0), (1, .pointer (some ⟨b1, 0, none⟩))] [boxA b1 25 [.slice pv nv cv, .slice pf nf cf]] [slF (rI3 .i64) pv cv V, slF (rI3 .i64) pf cf F]
 obtain ⟨hv, hq⟩ := hI
 have hql := Ms.usedN_le F v
 refine r_seq ?_
 refine r_region ?_
 refine r_pv rfl rfl (pv_lss rfl rfl) ?_
 refine r_nil ?_
 refine p_then ?_
 refine r_seq ?_
 refine r_cond rfl (fun h2 => ?_) (fun h2 => ?_)
 ·
  refine r_skip ?_
  refine p_then ?_
  refine r_cut (X := Nat) (fun x => x = nf + Ms.usedN F (v + 1)) (fun x => [(3, .int .i64 ((x : Nat) : Int)), (17, .bool (decide (((v : Nat) : Int) < ((nv : Nat) : Int)))), (16, .int .i64 ((v : Nat) : Int)), (15, .int .i64 ((nv : Nat) : Int)), (2, .int .i64 0), (1, .pointer (some ⟨b1, 0, none⟩))]) (fun x => [boxA b1 25 [.slice pv nv cv, .slice pf nf cf]]) (fun x => [slF (rI3 .i64) pv cv V, slF (rI3 .i64) pf cf F]) ?_ ?_
  ·
   refine r_block ?_
   refine r_seq ?_
   refine r_region ?_
   refine r_pv rfl rfl (pv_move rfl) ?_
   refine r_pv rfl rfl (pv_assign rfl) ?_
   refine r_nil ?_
   refine p_then ?_
   refine r_seq ?_
   refine r_region ?_
   refine r_pv rfl rfl (pv_fieldAddr Try.underlying25 rfl sz23 rfl rfl) ?_
   refine r_u rfl rfl (vl_load_box_one 0 ty23 rfl rfl rfl) ?_
   refine r_pv rfl rfl (pv_len Try.underlying23 rfl) ?_
   refine r_pv rfl rfl (pv_move rfl) ?_
   refine r_nil ?_
   refine p_then ?_
   refine r_block ?_
   refine r_loop (X := Nat) (fun x : Nat => x ≤ nf ∧ ∀ k, k < x → Ms.hasV (F.getD k (0, 0, 0)) (v : Int) = false) (fun x => [(3, .int .i64 ((q : Nat) : Int)), (22, .int .i64 ((x : Nat) : Int)), (21, .int .i64 ((nf : Nat) : Int)), (20, .slice pf nf cf), (19, .pointer (some ⟨b1, 1, none⟩)), (4, .int .i64 ((v : Nat) : Int)), (18, .int .i64 ((v : Nat) : Int)), (17, .bool (decide (((v : Nat) : Int) < ((nv : Nat) : Int)))), (16, .int .i64 ((v : Nat) : Int)), (15, .int .i64 ((nv : Nat) : Int)), (2, .int .i64 0), (1, .pointer (some ⟨b1, 0, none⟩))]) (fun x => [boxA b1 25 [.slice pv nv cv, .slice pf nf cf]]) (fun x => [slF (rI3 .i64) pv cv V, slF (rI3 .i64) pf cf F]) (fun x : Nat => nf - x) 0 (show 0 ≤ nf ∧ ∀ k, k < 0 → Ms.hasV (F.getD k (0, 0, 0)) (v : Int) = false from by exact ⟨Nat.zero_le _, fun k h => by omega⟩) ((.c rfl (.e rfl (by first | rfl | (congr 1; omega) | simp_all) (.of rfl))) : SubM _ _) (ho := ((.c (i := 0) rfl .n) : PickO _ _ _)) ((.of [0, 1] rfl) : SelR _ _ _) ?_
   rintro j hJ
   replace hJ : j ≤ nf ∧ ∀ k, k < j → Ms.hasV (F.getD k (0, 0, 0)) (v : Int) = false := hJ
   show RunC _ _ _ _ _ [(3, .int .i64 ((q : Nat) : Int)), (22, .int .i64 ((j : Nat) : Int)), (21, .int .i64 ((nf : Nat) : Int)), (20, .slice pf nf cf), (19, .pointer (some ⟨b1, 1, none⟩)), (4, .int .i64 ((v : Nat) : Int)), (18, .int .i64 ((v : Nat) : Int)), (17, .bool (decide (((v : Nat) : Int) < ((nv : Nat) : Int)))), (16, .int .i64 ((v : Nat) : Int)), (15, .int .i64 ((nv : Nat) : Int)), (2, .int .i64 0), (1, .pointer (some ⟨b1, 0, none⟩))] [boxA b1 25 [.slice pv nv cv, .slice pf nf cf]] [slF (rI3 .i64) pv cv V, slF (rI3 .i64) pf cf F]
   obtain ⟨hj, hno⟩ := hJ
   refine r_seq ?_
   refine r_region ?_
   refine r_pv rfl rfl (pv_lss rfl rfl) ?_
   refine r_nil ?_
   refine p_then ?_
   refine r_seq ?_
   refine r_cond rfl (fun h3 => ?_) (fun h3 => ?_)
   ·
    refine r_skip ?_
    refine p_then ?_
    refine r_seq ?_
    refine r_block ?_
    refine r_seq ?_
    refine r_region ?_
    refine r_index_fl (x0 := (F.getD j (0, 0, 0))) 1 j rfl Try.underlying23 sz44 rfl rfl rfl (by first | rfl | assumption | (simp; done) | omega) rfl rfl (gD (d := (0, 0, 0)) (by omega)) (fun b4 o5 hok6 => ?_)
    obtain ⟨hok6x, hok6y, hok6z⟩ := hok6
    replace hok6x := inK_i64.1 hok6x
    replace hok6y := inK_i64.1 hok6y
    replace hok6z := inK_i64.1 hok6z
    refine r_u rfl rfl (vl_load_at_agg (j := 0) 0 ty44 rfl rfl rfl (.take (.take (.take .nil)))) ?_
    refine r_new rfl rfl (ef_alloc zr44 rfl) (fun b7 => ?_)
    refine r_store_box 0 rfl rfl rfl rfl rfl sz44 rfl (.take (.take (.take .nil))) .z ?_
    refine r_nil ?_
    refine p_then ?_
    refine r_seq ?_
    refine r_region ?_
    refine r_u rfl rfl (vl_load_box_agg 0 ty44 rfl rfl (.take (.take (.take .nil)))) ?_
    refine r_pv rfl rfl (pv_move rfl) ?_
    refine r_call1 rfl rfl (.c rfl (.c rfl .n)) ce52 (con_has (ex := (F.getD j (0, 0, 0)).1) (ey := (F.getD j (0, 0, 0)).2.1) (ez := (F.getD j (0, 0, 0)).2.2) (w := ((v : Nat) : Int)) ) (.n) ?_
    refine r_nil ?_
    refine p_then ?_
    refine r_condb rfl (fun hhas => ?_) (fun hhas => ?_)
    ·
     refine r_seq ?_
     refine r_region ?_
     refine r_pv rfl rfl (pv_move rfl) ?_
     refine r_pv rfl rfl (pv_add (z := (((q + 1) : Nat) : Int)) rfl rfl (w64 (by omega))) ?_
     refine r_pv rfl rfl (pv_assign rfl) ?_
     refine r_nil ?_
     refine p_then ?_
     refine r_exit ?_
     refine p_block_past rfl ?_
     refine p_then_exit ?_
     refine p_then_exit ?_
     refine p_block_here ?_
     refine p_block ?_
     exact p_cut (q + 1) (show (q + 1) = nf + Ms.usedN F (v + 1) from by rw [Ms.usedN_succ, if_pos (Ms.any_true (0, 0, 0) (i := j) (by omega) hhas), hq]; omega) ((.of rfl) : SubM _ _) (ho := ((.c (i := 1) rfl .n) : PickO _ _ _)) ((.of [1, 2] rfl) : SelR _ _ _)
    ·
     refine r_skip ?_
     refine p_block ?_
     refine p_then ?_
     refine r_region ?_
     refine r_pv rfl rfl (pv_add (z := (((j + 1) : Nat) : Int)) rfl rfl (w64 (by omega))) ?_
     refine r_pv rfl rfl (pv_move rfl) ?_
     refine r_nil ?_
     refine p_next (j + 1) (show (j + 1) ≤ nf ∧ ∀ k, k < (j + 1) → Ms.hasV (F.getD k (0, 0, 0)) (v : Int) = false from by exact ⟨by omega, Ms.all_lt_succ (P := fun k => Ms.hasV (F.getD k (0, 0, 0)) (v : Int) = false) hno (by simpa using hhas)⟩) (by show nf - (j + 1) < nf - j; omega) ((.of rfl) : SubM _ _) (ho := ((.c (i := 1) rfl .n) : PickO _ _ _)) ((.of [1, 2] rfl) : SelR _ _ _)
   ·
    refine r_exit ?_
    refine p_then_exit ?_
    refine p_then_exit ?_
    refine p_block_here ?_
    refine p_block ?_
    exact p_cut q (show q = nf + Ms.usedN F (v + 1) from by rw [Ms.usedN_succ, if_neg (by rw [Ms.any_false (0, 0, 0) (fun k hk => hno k (by omega))]; decide), hq]; rfl) ((.of rfl) : SubM _ _) (ho := ((.c (i := 0) rfl .n) : PickO _ _ _)) ((.of [0, 1] rfl) : SelR _ _ _)
  ·
   rintro q2 hC
   replace hC : q2 = nf + Ms.usedN F (v + 1) := hC
   show RunC _ _ _ _ _ [(3, .int .i64 ((q2 : Nat) : Int)), (17, .bool (decide (((v : Nat) : Int) < ((nv : Nat) : Int)))), (16, .int .i64 ((v : Nat) : Int)), (15, .int .i64 ((nv : Nat) : Int)), (2, .int .i64 0), (1, .pointer (some ⟨b1, 0, none⟩))] [boxA b1 25 [.slice pv nv cv, .slice pf nf cf]] [slF (rI3 .i64) pv cv V, slF (rI3 .i64) pf cf F]
   have hql := Ms.usedN_le F (v + 1)
   refine r_region ?_
   refine r_pv rfl rfl (pv_add (z := (((v + 1) : Nat) : Int)) rfl rfl (w64 (by omega))) ?_
   refine r_pv rfl rfl (pv_move rfl) ?_
   refine r_nil ?_
   refine p_next ((v + 1), q2) (show (v + 1) ≤ nv ∧ q2 = nf + Ms.usedN F (v + 1) from by exact ⟨by omega, hC⟩) (by show nv - (v + 1) < nv - v; omega) ((.of rfl) : SubM _ _) (ho := ((.c (i := 0) rfl .n) : PickO _ _ _)) ((.of [0, 1] rfl) : SelR _ _ _)
 ·
  refine r_exit ?_
  refine p_then_exit ?_
  refine p_then_exit ?_
  refine p_block_here ?_
  refine p_then ?_
  refine r_seq ?_
  refine r_region ?_
  refine r_u rfl rfl (vl_load_box_agg 0 ty25 rfl rfl (.take (.take .nil))) ?_
  refine r_callf rfl rfl (.c rfl .n) ce50 (con_all (pv := pv) (nv := nv) (cv := cv) (V := V) (pf := pf) (nf := nf) (cf := cf) (F := F) (hnv := by assumption) (hnf := by assumption) (hbf := by first | rfl | assumption | omega | (simp; done) | (simp; omega) | (simp_all; done))) (.c (j := 0) rfl (.c (j := 1) rfl .n)) ?_
  rintro ⟨p28, c29⟩ -
  dsimp only [List.append_eq, List.nil_append, List.cons_append]
  refine r_pv rfl rfl (pv_assign rfl) ?_
  refine r_nil ?_
  refine p_then ?_
  refine r_seq ?_
  refine r_seq ?_
  refine r_region ?_
  refine r_pv rfl rfl (pv_move rfl) ?_
  refine r_pv rfl rfl (pv_len Try.underlying80 rfl) ?_
  refine r_pv rfl rfl (pv_move rfl) ?_
  refine r_nil ?_
  refine p_then ?_
  refine r_block ?_
  refine r_loop (X := Nat × Int) (fun x : Nat × Int => x.1 ≤ (Ms.all F).length ∧ x.2 = ((q : Nat) : Int) - ((((Ms.all F).take x.1).filter (Ms.oneway F)).length : Int)) (fun x => [(3, .int .i64 (x.2)), (37, .int .i64 ((x.1 : Nat) : Int)), (36, .int .i64 (((Ms.all F).length : Nat) : Int)), (35, .slice p28 ((Ms.all F).length) c29), (7, .slice p28 ((Ms.all F).length) c29), (2, .int .i64 0)]) (fun x => [boxA b1 25 [.slice pv nv cv, .slice pf nf cf]]) (fun x => [slF (rI2 .i64) p28 c29 (Ms.all F), slF (rI3 .i64) pv cv V, slF (rI3 .i64) pf cf F]) (fun x : Nat × Int => (Ms.all F).length - x.1) (0, ((q : Nat) : Int)) (show 0 ≤ (Ms.all F).length ∧ ((q : Nat) : Int) = ((q : Nat) : Int) - ((((Ms.all F).take 0).filter (Ms.oneway F)).length : Int) from by exact ⟨Nat.zero_le _, by simp⟩) ((.c rfl (.e rfl (by first | rfl | (congr 1; omega) | simp_all) (.of rfl))) : SubM _ _) (ho := ((.c (i := 0) rfl .n) : PickO _ _ _)) ((.of [0, 1, 2] rfl) : SelR _ _ _) ?_
  rintro ⟨i, z⟩ hK
  replace hK : i ≤ (Ms.all F).length ∧ z = ((q : Nat) : Int) - ((((Ms.all F).take i).filter (Ms.oneway F)).length : Int) := hK
  show RunC _ _ _ _ _ [(3, .int .i64 z), (37, .int .i64 ((i : Nat) : Int)), (36, .int .i64 (((Ms.all F).length : Nat) : Int)), (35, .slice p28 ((Ms.all F).length) c29), (7, .slice p28 ((Ms.all F).length) c29), (2, .int .i64 0)] [boxA b1 25 [.slice pv nv cv, .slice pf nf cf]] [slF (rI2 .i64) p28 c29 (Ms.all F), slF (rI3 .i64) pv cv V, slF (rI3 .i64) pf cf F]
  obtain ⟨hi, hz⟩ := hK
  have hql2 := List.length_filter_le (Ms.oneway F) ((Ms.all F).take i)
  rw [List.length_take] at hql2
  refine r_seq ?_
  refine r_region ?_
  refine r_pv rfl rfl (pv_lss rfl rfl) ?_
  refine r_nil ?_
  refine p_then ?_
  refine r_seq ?_
  refine r_cond rfl (fun h10 => ?_) (fun h10 => ?_)
  ·
   have har := Ms.all_rng hg (Ms.getD_mem (l := Ms.all F) (i := i) (0, 0) (by omega))
   refine r_skip ?_
   refine p_then ?_
   refine r_seq ?_
   refine r_block ?_
   refine r_seq ?_
   refine r_region ?_
   refine r_index_fl (x0 := ((Ms.all F).getD i (0, 0))) 0 i rfl Try.underlying80 sz72 rfl rfl rfl (by first | rfl | assumption | (simp; done) | omega) rfl rfl (gD (d := (0, 0)) (by omega)) (fun b11 o12 hok13 => ?_)
   obtain ⟨hok13x, hok13y⟩ := hok13
   replace hok13x := inK_i64.1 hok13x
   replace hok13y := inK_i64.1 hok13y
   refine r_u rfl rfl (vl_load_at_agg (j := 0) 0 ty72 rfl rfl rfl (.take (.take .nil))) ?_
   refine r_new rfl rfl (ef_alloc zr72 rfl) (fun b14 => ?_)
   refine r_store_box 0 rfl rfl rfl rfl rfl sz72 rfl (.take (.take .nil)) .z ?_
   refine r_nil ?_
   refine p_then ?_
   refine r_cut (X := Unit) (fun x => True) (fun x => [(55, .bool (decide ((((Ms.all F).getD i (0, 0)).1 < ((Ms.all F).getD i (0, 0)).2) ∨ ((((Ms.count (Ms.all F) ((((Ms.all F).getD i (0, 0)).2), (((Ms.all F).getD i (0, 0)).1))) : Nat) : Int) = 0)))), (9, .pointer (some ⟨b14, 0, none⟩)), (40, .agg #[.int .i64 (((Ms.all F).getD i (0, 0)).1), .int .i64 (((Ms.all F).getD i (0, 0)).2)]), (39, .pointer (some ⟨b11, o12, none⟩)), (38, .bool (decide (((i : Nat) : Int) < (((Ms.all F).length : Nat) : Int)))), (3, .int .i64 z), (37, .int .i64 ((i : Nat) : Int)), (36, .int .i64 (((Ms.all F).length : Nat) : Int)), (35, .slice p28 ((Ms.all F).length) c29), (7, .slice p28 ((Ms.all F).length) c29), (2, .int .i64 0)]) (fun x => [boxA b14 72 [.int .i64 (((Ms.all F).getD i (0, 0)).1), .int .i64 (((Ms.all F).getD i (0, 0)).2)], boxA b1 25 [.slice pv nv cv, .slice pf nf cf]]) (fun x => [atF b11 o12 [.int .i64 (((Ms.all F).getD i (0, 0)).1), .int .i64 (((Ms.all F).getD i (0, 0)).2)], slF (rI2 .i64) p28 c29 (Ms.all F), slF (rI3 .i64) pv cv V, slF (rI3 .i64) pf cf F]) ?_ ?_
   ·
    refine r_region ?_
    refine r_pv rfl rfl (pv_indexAddr_arr (i := 0) Try.underlying72 sz3 rfl rfl (by decide) rfl) ?_
    refine r_u rfl rfl (vl_load_box_one 0 ty3 rfl rfl rfl) ?_
    refine r_pv rfl rfl (pv_indexAddr_arr (i := 1) Try.underlying72 sz3 rfl rfl (by decide) rfl) ?_
    refine r_u rfl rfl (vl_load_box_one 0 ty3 rfl rfl rfl) ?_
    refine r_pv rfl rfl (pv_lss rfl rfl) ?_
    refine r_pv_dec rfl rfl (pv_move rfl) (fun h15 => ?_) (fun h15 => ?_)
    ·
     refine r_guard_no rfl rfl ?_
     refine r_guard_no rfl rfl ?_
     refine r_guard_no rfl rfl ?_
     refine r_guard_no rfl rfl ?_
     refine r_guard_no rfl rfl ?_
     refine r_guard_no rfl rfl ?_
     refine r_guard_no rfl rfl ?_
     refine r_guard_no rfl rfl ?_
     refine r_pv rfl rfl (pv_pick rfl rfl) ?_
     refine r_nil ?_
     exact p_cut () (show True from by first | trivial | omega | simp_all) ((.e rfl (congrArg Value.bool (by first | (simp_all; done) | (simp_all; omega) | (simp; omega) | omega)) (.of rfl)) : SubM _ _) (ho := ((.of [0, 0] rfl) : PickO _ _ _)) ((.of [0, 1, 2, 3] rfl) : SelR _ _ _)
    ·
     refine r_pv rfl rfl (pv_move rfl) ?_
     refine r_pv rfl rfl (pv_indexAddr_arr (i := 1) Try.underlying72 sz3 rfl rfl (by decide) rfl) ?_
     refine r_u rfl rfl (vl_load_box_one 0 ty3 rfl rfl rfl) ?_
     refine r_pv rfl rfl (pv_indexAddr_arr (i := 0) Try.underlying72 sz3 rfl rfl (by decide) rfl) ?_
     refine r_u rfl rfl (vl_load_box_one 0 ty3 rfl rfl rfl) ?_
     refine r_pv rfl rfl (pv_build_array zr72 rfl Try.underlying72 sz3 (.c rfl (.c rfl .n)) (.c rfl rfl rfl (.take .nil) (.c rfl rfl rfl (.skip (.take .nil)) .n))) ?_
     refine r_call1 rfl rfl (.c rfl (.c rfl .n)) ce51 (con_count (p := p28) (n := (Ms.all F).length) (cap := c29) (l := Ms.all F) (ex := ((Ms.all F).getD i (0, 0)).2) (ey := ((Ms.all F).getD i (0, 0)).1) (hn := by first | rfl | assumption | omega | (simp; done) | (simp; omega) | (simp_all; done))) (.c (j := 1) rfl .n) ?_
     refine r_pv rfl rfl (pv_eql rfl rfl) ?_
     refine r_pv rfl rfl (pv_pick rfl rfl) ?_
     refine r_nil ?_
     exact p_cut () (show True from by first | trivial | omega | simp_all) ((.e rfl (congrArg Value.bool (by first | (simp_all; done) | (simp_all; omega) | (simp; omega) | omega)) (.of rfl)) : SubM _ _) (ho := ((.of [0, 0] rfl) : PickO _ _ _)) ((.of [0, 1, 2, 3] rfl) : SelR _ _ _)
   ·
    rintro ⟨⟩ -
    show RunC _ _ _ _ _ [(55, .bool (decide ((((Ms.all F).getD i (0, 0)).1 < ((Ms.all F).getD i (0, 0)).2) ∨ ((((Ms.count (Ms.all F) ((((Ms.all F).getD i (0, 0)).2), (((Ms.all F).getD i (0, 0)).1))) : Nat) : Int) = 0)))), (9, .pointer (some ⟨b14, 0, none⟩)), (40, .agg #[.int .i64 (((Ms.all F).getD i (0, 0)).1), .int .i64 (((Ms.all F).getD i (0, 0)).2)]), (39, .pointer (some ⟨b11, o12, none⟩)), (38, .bool (decide (((i : Nat) : Int) < (((Ms.all F).length : Nat) : Int)))), (3, .int .i64 z), (37, .int .i64 ((i : Nat) : Int)), (36, .int .i64 (((Ms.all F).length : Nat) : Int)), (35, .slice p28 ((Ms.all F).length) c29), (7, .slice p28 ((Ms.all F).length) c29), (2, .int .i64 0)] [boxA b14 72 [.int .i64 (((Ms.all F).getD i (0, 0)).1), .int .i64 (((Ms.all F).getD i (0, 0)).2)], boxA b1 25 [.slice pv nv cv, .slice pf nf cf]] [atF b11 o12 [.int .i64 (((Ms.all F).getD i (0, 0)).1), .int .i64 (((Ms.all F).getD i (0, 0)).2)], slF (rI2 .i64) p28 c29 (Ms.all F), slF (rI3 .i64) pv cv V, slF (rI3 .i64) pf cf F]
    refine r_cond rfl (fun how => ?_) (fun how => ?_)
    ·
     refine r_region ?_
     refine r_pv rfl rfl (pv_move rfl) ?_
     refine r_pv rfl rfl (pv_sub (z := (z - 1)) rfl rfl (w64 (by omega))) ?_
     refine r_pv rfl rfl (pv_assign rfl) ?_
     refine r_nil ?_
     refine p_block ?_
     refine p_then ?_
     refine r_region ?_
     refine r_pv rfl rfl (pv_add (z := (((i + 1) : Nat) : Int)) rfl rfl (w64 (by omega))) ?_
     refine r_pv rfl rfl (pv_move rfl) ?_
     refine r_nil ?_
     refine p_next ((i + 1), (z - 1)) (show (i + 1) ≤ (Ms.all F).length ∧ (z - 1) = ((q : Nat) : Int) - ((((Ms.all F).take (i + 1)).filter (Ms.oneway F)).length : Int) from by exact ⟨by omega, by rw [Ms.filt_take (0, 0) (Ms.oneway F) (by omega), if_pos (show Ms.oneway F ((Ms.all F).getD i (0, 0)) = true from decide_eq_true (how.imp id (fun h => Ms.count_zero.1 (by omega)))), hz]; omega⟩) (by show (Ms.all F).length - (i + 1) < (Ms.all F).length - i; omega) ((.of rfl) : SubM _ _) (ho := ((.c (i := 1) rfl .n) : PickO _ _ _)) ((.of [1, 2, 3] rfl) : SelR _ _ _)
    ·
     refine r_skip ?_
     refine p_block ?_
     refine p_then ?_
     refine r_region ?_
     refine r_pv rfl rfl (pv_add (z := (((i + 1) : Nat) : Int)) rfl rfl (w64 (by omega))) ?_
     refine r_pv rfl rfl (pv_move rfl) ?_
     refine r_nil ?_
     refine p_next ((i + 1), z) (show (i + 1) ≤ (Ms.all F).length ∧ z = ((q : Nat) : Int) - ((((Ms.all F).take (i + 1)).filter (Ms.oneway F)).length : Int) from by exact ⟨by omega, by rw [Ms.filt_take (0, 0) (Ms.oneway F) (by omega), if_neg (by unfold Ms.oneway; rw [decide_eq_true_eq]; exact fun h => how (h.imp id (fun h => by have := Ms.count_zero.2 h; omega))), hz]; rfl⟩) (by show (Ms.all F).length - (i + 1) < (Ms.all F).length - i; omega) ((.of rfl) : SubM _ _) (ho := ((.c (i := 1) rfl .n) : PickO _ _ _)) ((.of [1, 2, 3] rfl) : SelR _ _ _)
  ·
   refine r_exit ?_
   refine p_then_exit ?_
   refine p_then_exit ?_
   refine p_block_here ?_
   refine p_then ?_
   refine r_seq ?_
   refine r_region ?_
   refine r_pv rfl rfl (pv_move rfl) ?_
   refine r_pv rfl rfl (pv_assign rfl) ?_
   refine r_nil ?_
   refine p_then ?_
   refine r_ret ?_
   have hvn : v = nv := by omega
   have hz2 : Ms.eulerL V F = z := by unfold Ms.eulerL; rw [hz, List.take_of_length_le (by omega), hq, hvn, hnf, hnv]; omega
   exact p_ret1 Try.results30 () trivial (res_tmp rfl) (by rw [hz2]) (ho := (.n : PickO _ _ _)) (.n : SelR _ _ _)
end Go.Proofs.Ytalfgjpbbongcaa.Sp
namespace Go.Proofs.Ytalfgjpbbongcaa.Sp
open Go
set_option linter.unusedVariables false
set_option maxRecDepth 100000
set_option maxHeartbeats 1000000
theorem con_MB1 {p1 : Option Addr} {n1 : Nat} {c1 : Nat} {l1 : List (Int)} {p2 : Option Addr} {n2 : Nat} {c2 : Nat} {l2 : List (Int)} (hn1 : l1.length = n1) (hn2 : l2.length = n2) : Con Try.prog 27 [.slice p1 n1 c1, .slice p2 n2 c2] [] [slF (rI .i64) p1 c1 l1, slF (rI .i64) p2 c2 l2] (Y := Unit) (fun y => True) (fun y => .bool (decide (l1 = l2))) (fun y => []) (fun y => []) := by
 refine con_intro Try.func27 rfl rfl rfl (fun c => ?_)
 show RunC _ _ _ _ _ [(0, .slice p1 n1 c1), (1, .slice p2 n2 c2)] [] [slF (rI .i64) p1 c1 l1, slF (rI .i64) p2 c2 l2]
 refine c_len 0 rfl (fun hL0 => ?_)
 refine c_len 1 rfl (fun hL1 => ?_)
 refine r_seq ?_
 refine r_region ?_
 refine r_pv rfl rfl (pv_assign rfl) ?_
 refine r_nil ?_
 refine p_then ?_
 refine r_seq ?_
 refine r_region ?_
 refine r_pv rfl rfl (pv_move rfl) ?_
 refine r_pv rfl rfl (pv_move rfl) ?_
 refine r_call1 rfl rfl (.c rfl (.c rfl .n)) ce28 (con_Eqint (p1 := p1) (n1 := n1) (c1 := c1) (l1 := l1) (p2 := p2) (n2 := n2) (c2 := c2) (l2 := l2) (hn1 := by assumption) (hn2 := by assumption)) (.c (j := 0) rfl (.c (j := 1) rfl .n)) ?_
 refine r_pv rfl rfl (pv_assign rfl) ?_
 refine r_nil ?_
 refine p_then ?_
 refine r_ret ?_
 exact p_ret1 Try.results27 () trivial (res_tmp rfl) rfl (ho := (.n : PickO _ _ _)) (.n : SelR _ _ _)
theorem con_EFrows {p1 : Option Addr} {n1 : Nat} {c1 : Nat} {l1 : List (List Int)} {p2 : Option Addr} {n2 : Nat} {c2 : Nat} {l2 : List (List Int)} (hn1 : l1.length = n1) (hn2 : l2.length = n2) : Con Try.prog 26 [.slice p1 n1 c1, .slice p2 n2 c2, .func (.func 27) #[] #[]] [] [slF (rS (rI .i64)) p1 c1 l1, slF (rS (rI .i64)) p2 c2 l2] (Y := Unit) (fun y => True) (fun y => .bool (decide (l1 = l2))) (fun y => []) (fun y => []) := by
 refine con_intro Try.func26 rfl rfl rfl (fun c => ?_)
 show RunC _ _ _ _ _ [(0, .slice p1 n1 c1), (1, .slice p2 n2 c2), (2, .func (.func 27) #[] #[])] [] [slF (rS (rI .i64)) p1 c1 l1, slF (rS (rI .i64)) p2 c2 l2]
 refine c_len 0 rfl (fun hL0 => ?_)
 refine c_len 1 rfl (fun hL1 => ?_)
 refine r_seq ?_
 refine r_region ?_
 refine r_pv rfl rfl (pv_assign rfl) ?_
 refine r_nil ?_
 refine p_then ?_
 refine r_seq ?_
 refine r_seq ?_
 refine r_region ?_
 refine r_pv rfl rfl (pv_move rfl) ?_
 refine r_pv rfl rfl (pv_len Try.underlying37 rfl) ?_
 refine r_pv rfl rfl (pv_move rfl) ?_
 refine r_pv rfl rfl (pv_len Try.underlying37 rfl) ?_
 refine r_pv rfl rfl (pv_neq rfl rfl) ?_
 refine r_nil ?_
 refine p_then ?_
 refine r_cond rfl (fun hlen => ?_) (fun hlen => ?_)
 ·
  refine r_seq ?_
  refine r_region ?_
  refine r_pv rfl rfl (pv_assign rfl) ?_
  refine r_nil ?_
  refine p_then ?_
  refine r_ret ?_
  refine p_then_ret ?_
  exact p_ret1 Try.results26 () trivial (res_tmp rfl) (congrArg Value.bool (decide_eq_false (fun h => hlen (by rw [← hn1, ← hn2, h])))) (ho := (.n : PickO _ _ _)) (.n : SelR _ _ _)
 ·
  refine r_skip ?_
  refine p_then ?_
  refine r_seq ?_
  refine r_seq ?_
  refine r_region ?_
  refine r_pv rfl rfl (pv_move rfl) ?_
  refine r_pv rfl rfl (pv_len Try.underlying37 rfl) ?_
  refine r_pv rfl rfl (pv_move rfl) ?_
  refine r_nil ?_
  refine p_then ?_
  refine r_block ?_
  refine r_loop (X := Nat) (fun x : Nat => x ≤ n1 ∧ ∀ j, j < x → l1.getD j [] = l2.getD j []) (fun x => [(17, .int .i64 ((x : Nat) : Int)), (16, .int .i64 ((n1 : Nat) : Int)), (15, .slice p1 n1 c1), (1, .slice p2 n2 c2), (2, .func (.func 27) #[] #[])]) (fun x => []) (fun x => [slF (rS (rI .i64)) p1 c1 l1, slF (rS (rI .i64)) p2 c2 l2]) (fun x : Nat => n1 - x) 0 (show 0 ≤ n1 ∧ ∀ j, j < 0 → l1.getD j [] = l2.getD j [] from by exact ⟨by omega, fun j h => by omega⟩) ((.e rfl (by first | rfl | (congr 1; omega) | simp_all) (.of rfl)) : SubM _ _) (ho := (.n : PickO _ _ _)) ((.of [0, 1] rfl) : SelR _ _ _) ?_
  rintro i hI
  replace hI : i ≤ n1 ∧ ∀ j, j < i → l1.getD j [] = l2.getD j [] := hI
  show RunC _ _ _ _ _ [(17, .int .i64 ((i : Nat) : Int)), (16, .int .i64 ((n1 : Nat) : Int)), (15, .slice p1 n1 c1), (1, .slice p2 n2 c2), (2, .func (.func 27) #[] #[])] [] [slF (rS (rI .i64)) p1 c1 l1, slF (rS (rI .i64)) p2 c2 l2]
  obtain ⟨hi, hall⟩ := hI
  refine r_seq ?_
  refine r_region ?_
  refine r_pv rfl rfl (pv_lss rfl rfl) ?_
  refine r_nil ?_
  refine p_then ?_
  refine r_seq ?_
  refine r_cond rfl (fun h1 => ?_) (fun h1 => ?_)
  ·
   refine r_skip ?_
   refine p_then ?_
   refine r_seq ?_
   refine r_block ?_
   refine r_seq ?_
   refine r_region ?_
   refine r_pv rfl rfl (pv_move rfl) ?_
   refine r_vl rfl rfl (vl_index (x0 := (l1.getD i [])) 0 i rfl Try.underlying37 sz50 rfl (by first | rfl | assumption | (simp_all; done) | omega) rfl rfl (gD (d := []) (by omega))) ?_
   rintro ⟨b2, o3, p4, c5⟩ -
   dsimp only [List.append_eq, List.nil_append, List.cons_append]
   refine r_u rfl rfl (vl_load_at_one (j := 0) 0 ty50 rfl rfl rfl rfl) ?_
   refine r_pv rfl rfl (pv_assign rfl) ?_
   refine r_pv rfl rfl (pv_assign rfl) ?_
   refine r_nil ?_
   refine p_then ?_
   refine r_seq ?_
   refine r_region ?_
   refine r_pv rfl rfl (pv_move rfl) ?_
   refine r_pv rfl rfl (pv_move rfl) ?_
   refine r_vl rfl rfl (vl_index (x0 := (l2.getD i [])) 3 i rfl Try.underlying37 sz50 rfl (by first | rfl | assumption | (simp_all; done) | omega) rfl rfl (gD (d := []) (by omega))) ?_
   rintro ⟨b6, o7, p8, c9⟩ -
   dsimp only [List.append_eq, List.nil_append, List.cons_append]
   refine r_u rfl rfl (vl_load_at_one (j := 0) 0 ty50 rfl rfl rfl rfl) ?_
   refine r_pv rfl rfl (pv_assign rfl) ?_
   refine r_nil ?_
   refine p_then ?_
   refine r_seq ?_
   refine r_region ?_
   refine r_pv rfl rfl (pv_move rfl) ?_
   refine r_pv rfl rfl (pv_move rfl) ?_
   refine r_pv rfl rfl (pv_move rfl) ?_
   refine r_call (first := []) (cap := []) rfl rfl rfl (.c rfl (.c rfl .n)) ce27 (con_MB1 (p1 := p4) (n1 := (l1.getD i []).length) (c1 := c5) (l1 := (l1.getD i [])) (p2 := p8) (n2 := (l2.getD i []).length) (c2 := c9) (l2 := (l2.getD i [])) (hn1 := by first | rfl | assumption | omega | (simp; done) | (simp; omega) | (simp_all; done)) (hn2 := by first | rfl | assumption | omega | (simp; done) | (simp; omega) | (simp_all; done))) (.c (j := 3) rfl (.c (j := 1) rfl .n)) ?_
   rintro ⟨⟩ -
   dsimp only [List.append_eq, List.nil_append, List.cons_append]
   refine r_pv rfl rfl (pv_notd rfl) ?_
   refine r_nil ?_
   refine p_then ?_
   refine r_cond rfl (fun hd => ?_) (fun hd => ?_)
   ·
    refine r_seq ?_
    refine r_region ?_
    refine r_pv rfl rfl (pv_assign rfl) ?_
    refine r_nil ?_
    refine p_then ?_
    refine r_ret ?_
    refine p_block_ret ?_
    refine p_then_ret ?_
    refine p_then_ret ?_
    refine p_block_ret ?_
    refine p_then_ret ?_
    exact p_ret1 Try.results26 () trivial (res_tmp rfl) (congrArg Value.bool (decide_eq_false (fun h => hd (by simp [h])))) (ho := (.n : PickO _ _ _)) (.n : SelR _ _ _)
   ·
    refine r_skip ?_
    refine p_block ?_
    refine p_then ?_
    refine r_region ?_
    refine r_pv rfl rfl (pv_add (z := (((i + 1) : Nat) : Int)) rfl rfl (w64 (by omega))) ?_
    refine r_pv rfl rfl (pv_move rfl) ?_
    refine r_nil ?_
    refine p_next (i + 1) (show (i + 1) ≤ n1 ∧ ∀ j, j < (i + 1) → l1.getD j [] = l2.getD j [] from by exact ⟨by omega, Ms.all_lt_succ (P := fun j => l1.getD j [] = l2.getD j []) hall (Decidable.not_not.1 hd)⟩) (by show n1 - (i + 1) < n1 - i; omega) ((.of rfl) : SubM _ _) (ho := (.n : PickO _ _ _)) ((.of [4, 5] rfl) : SelR _ _ _)
  ·
   refine r_exit ?_
   refine p_then_exit ?_
   refine p_then_exit ?_
   refine p_block_here ?_
   refine p_then ?_
   refine r_seq ?_
   refine r_region ?_
   refine r_pv rfl rfl (pv_assign rfl) ?_
   refine r_nil ?_
   refine p_then ?_
   refine r_ret ?_
   exact p_ret1 Try.results26 () trivial (res_tmp rfl) (congrArg Value.bool (decide_eq_true (Ms.ext_getD [] (by omega) (fun j hj => hall j (by omega))))) (ho := (.n : PickO _ _ _)) (.n : SelR _ _ _)
end Go.Proofs.Ytalfgjpbbongcaa.Sp
namespace Go.Proofs.Ytalfgjpbbongcaa.Sp
open Go
set_option linter.unusedVariables false
set_option maxRecDepth 100000
set_option maxHeartbeats 1000000
theorem con_MeshBorders {pv : Option Addr} {nv : Nat} {cv : Nat} {V : List (Int × Int × Int)} {pf : Option Addr} {nf : Nat} {cf : Nat} {F : List (Int × Int × Int)} (hnv : V.length = nv) (hnf : F.length = nf) : Con Try.prog 6 [.agg #[.slice pv nv cv, .slice pf nf cf]] [] [slF (rI3 .i64) pv cv V, slF (rI3 .i64) pf cf F] (Y := Unit) (fun y => True) (fun y => .bool true) (fun y => []) (fun y => []) := by
 refine con_intro Try.func6 rfl rfl rfl (fun c => ?_)
 show RunC _ _ _ _ _ [(0, .agg #[.slice pv nv cv, .slice pf nf cf])] [] [slF (rI3 .i64) pv cv V, slF (rI3 .i64) pf cf F]
 refine c_len 0 rfl (fun hL0 => ?_)
 refine c_len 1 rfl (fun hL1 => ?_)
 refine r_seq ?_
 refine r_region ?_
 refine r_new rfl rfl (ef_box rfl rfl) (fun b1 => ?_)
 refine r_pv rfl rfl (pv_assign rfl) ?_
 refine r_nil ?_
 refine p_then ?_
 refine r_seq ?_
 refine r_seq ?_
 refine r_region ?_
 refine r_call1 rfl rfl (.n) ce12 (con_known  ) (.n) ?_
 refine r_pv rfl rfl (pv_not rfl) ?_
 refine r_nil ?_
 refine p_then ?_
 refine r_cond_f rfl rfl ?_
 refine r_skip ?_
 refine p_then ?_
 refine r_seq ?_
 refine r_seq ?_
 refine r_region ?_
 refine r_u rfl rfl (vl_load_box_agg 0 ty25 rfl rfl (.take (.take .nil))) ?_
 refine r_call1 rfl rfl (.c rfl .n) ce13 (con_few (pv := pv) (nv := nv) (cv := cv) (V := V) (pf := pf) (nf := nf) (cf := cf) (F := F) (hnv := by assumption) (hnf := by assumption)) (.c (j := 0) rfl (.c (j := 1) rfl .n)) ?_
 refine r_pv rfl rfl (pv_notd rfl) ?_
 refine r_nil ?_
 refine p_then ?_
 refine r_cond rfl (fun h2 => ?_) (fun h2 => ?_)
 ·
  refine r_seq ?_
  refine r_region ?_
  refine r_pv rfl rfl (pv_assign rfl) ?_
  refine r_nil ?_
  refine p_then ?_
  refine r_ret ?_
  refine p_then_ret ?_
  exact p_ret1 Try.results6 () trivial (res_tmp rfl) rfl (ho := (.n : PickO _ _ _)) (.n : SelR _ _ _)
 ·
  refine r_skip ?_
  refine p_then ?_
  refine r_seq ?_
  refine r_region ?_
  refine r_u rfl rfl (vl_load_box_agg 0 ty25 rfl rfl (.take (.take .nil))) ?_
  refine r_callf rfl rfl (.c rfl .n) ce23 (con_Borders (pv := pv) (nv := nv) (cv := cv) (V := V) (pf := pf) (nf := nf) (cf := cf) (F := F) (hnv := by assumption) (hnf := by assumption)) (.c (j := 0) rfl (.c (j := 1) rfl .n)) ?_
  rintro ⟨p23, c24, bm1⟩ hB
  dsimp only [List.append_eq, List.nil_append, List.cons_append]
  replace hB : Ms.check V F = 0 → Ms.BMap F bm1 := hB
  refine r_pv rfl rfl (pv_move rfl) ?_
  refine r_pv rfl rfl (pv_extract rfl rfl) ?_
  refine r_pv rfl rfl (pv_extract rfl rfl) ?_
  refine r_pv rfl rfl (pv_assign rfl) ?_
  refine r_pv rfl rfl (pv_assign rfl) ?_
  refine r_nil ?_
  refine p_then ?_
  refine r_seq ?_
  refine r_region ?_
  refine r_u rfl rfl (vl_load_box_agg 0 ty25 rfl rfl (.take (.take .nil))) ?_
  refine r_callf rfl rfl (.c rfl .n) ce24 (con_Parts (pv := pv) (nv := nv) (cv := cv) (V := V) (pf := pf) (nf := nf) (cf := cf) (F := F) (hnv := by assumption) (hnf := by assumption)) (.c (j := 1) rfl (.c (j := 2) rfl .n)) ?_
  rintro ⟨p25, c26⟩ -
  dsimp only [List.append_eq, List.nil_append, List.cons_append]
  refine r_pv rfl rfl (pv_move rfl) ?_
  refine r_pv rfl rfl (pv_extract rfl rfl) ?_
  refine r_pv rfl rfl (pv_extract rfl rfl) ?_
  refine r_pv rfl rfl (pv_assign rfl) ?_
  refine r_pv rfl rfl (pv_assign rfl) ?_
  refine r_nil ?_
  refine p_then ?_
  refine r_seq ?_
  refine r_region ?_
  refine r_u rfl rfl (vl_load_box_agg 0 ty25 rfl rfl (.take (.take .nil))) ?_
  refine r_call1 rfl rfl (.c rfl .n) ce25 (con_Euler (pv := pv) (nv := nv) (cv := cv) (V := V) (pf := pf) (nf := nf) (cf := cf) (F := F) (hnv := by assumption) (hnf := by assumption)) (.c (j := 2) rfl (.c (j := 3) rfl .n)) ?_
  refine r_pv rfl rfl (pv_move rfl) ?_
  refine r_pv rfl rfl (pv_extract rfl rfl) ?_
  refine r_pv rfl rfl (pv_extract rfl rfl) ?_
  refine r_pv rfl rfl (pv_assign rfl) ?_
  refine r_pv rfl rfl (pv_assign rfl) ?_
  refine r_nil ?_
  refine p_then ?_
  refine r_seq ?_
  refine r_seq ?_
  refine r_region ?_
  refine r_u rfl rfl (vl_load_box_agg 0 ty25 rfl rfl (.take (.take .nil))) ?_
  refine r_call1 rfl rfl (.c rfl .n) ce15 (con_lcheck (pv := pv) (nv := nv) (cv := cv) (V := V) (pf := pf) (nf := nf) (cf := cf) (F := F) (hnv := by assumption) (hnf := by assumption)) (.c (j := 2) rfl (.c (j := 3) rfl .n)) ?_
  refine r_pv rfl rfl (pv_assign rfl) ?_
  refine r_nil ?_
  refine p_then ?_
  refine r_seq ?_
  refine r_region ?_
  refine r_pv rfl rfl (pv_move rfl) ?_
  refine r_pv rfl rfl (pv_neq rfl rfl) ?_
  refine r_nil ?_
  refine p_then ?_
  refine r_cond rfl (fun hc => ?_) (fun hc => ?_)
  ·
   have hz1 : Ms.bordersR V F bm1 = [] := by unfold Ms.bordersR; rw [if_neg hc]
   have hz2 : (if Ms.check V F = 0 then Ms.partsL F else []) = [] := if_neg hc
   have hz3 : Ms.eulerR V F = 0 := by unfold Ms.eulerR; rw [if_neg hc]
   refine r_cut (X := Unit) (fun x => True) (fun x => [(2, .bool true), (8, .int .i64 (Ms.check V F)), (7, .int .i64 (Ms.eulerR V F)), (6, .int .i64 (Ms.check V F)), (5, .slice p25 ((if Ms.check V F = 0 then Ms.partsL F else []).length) c26), (4, .int .i64 (Ms.check V F)), (3, .slice p23 ((Ms.bordersR V F bm1).length) c24), (1, .pointer (some ⟨b1, 0, none⟩))]) (fun x => [boxA b1 25 [.slice pv nv cv, .slice pf nf cf]]) (fun x => [slF (rI .i64) p25 c26 (if Ms.check V F = 0 then Ms.partsL F else []), slF (rS (rI .i64)) p23 c24 (Ms.bordersR V F bm1), slF (rI3 .i64) pv cv V, slF (rI3 .i64) pf cf F]) ?_ ?_
   ·
    refine r_region ?_
    refine r_pv rfl rfl (pv_move rfl) ?_
    refine r_pv rfl rfl (pv_move rfl) ?_
    refine r_pv rfl rfl (pv_eql rfl rfl) ?_
    refine r_pv_dec rfl rfl (pv_move rfl) (fun h7 => ?_) (fun h7 => ?_)
    ·
     refine r_pv rfl rfl (pv_move rfl) ?_
     refine r_pv rfl rfl (pv_move rfl) ?_
     refine r_pv rfl rfl (pv_eql rfl rfl) ?_
     refine r_pv rfl rfl (pv_pick rfl rfl) ?_
     refine r_pv_dec rfl rfl (pv_move rfl) (fun h8 => ?_) (fun h8 => ?_)
     ·
      refine r_pv rfl rfl (pv_move rfl) ?_
      refine r_pv rfl rfl (pv_move rfl) ?_
      refine r_pv rfl rfl (pv_eql rfl rfl) ?_
      refine r_pv rfl rfl (pv_pick rfl rfl) ?_
      refine r_pv_dec rfl rfl (pv_move rfl) (fun h9 => ?_) (fun h9 => ?_)
      ·
       refine r_pv rfl rfl (pv_move rfl) ?_
       refine r_pv rfl rfl (pv_len Try.underlying37 rfl) ?_
       refine r_pv rfl rfl (pv_eql rfl rfl) ?_
       refine r_pv rfl rfl (pv_pick rfl rfl) ?_
       refine r_pv_dec rfl rfl (pv_move rfl) (fun h10 => ?_) (fun h10 => ?_)
       ·
        refine r_pv rfl rfl (pv_move rfl) ?_
        refine r_pv rfl rfl (pv_len Try.underlying50 rfl) ?_
        refine r_pv rfl rfl (pv_eql rfl rfl) ?_
        refine r_pv rfl rfl (pv_pick rfl rfl) ?_
        refine r_pv_dec rfl rfl (pv_move rfl) (fun h11 => ?_) (fun h11 => ?_)
        ·
         refine r_pv rfl rfl (pv_move rfl) ?_
         refine r_pv rfl rfl (pv_eql rfl rfl) ?_
         refine r_pv rfl rfl (pv_pick rfl rfl) ?_
         refine r_pv rfl rfl (pv_assign rfl) ?_
         refine r_nil ?_
         exact p_cut () (show True from by first | trivial | omega | simp_all) ((.e rfl (congrArg Value.bool (by first | (simp [hz1, hz2, hz3]; done) | (simp_all; done))) (.of rfl)) : SubM _ _) (ho := ((.c (i := 0) rfl .n) : PickO _ _ _)) ((.of [0, 1, 2, 3] rfl) : SelR _ _ _)
        ·
         refine r_guard_no rfl rfl ?_
         refine r_guard_no rfl rfl ?_
         refine r_pv rfl rfl (pv_pick rfl rfl) ?_
         refine r_pv rfl rfl (pv_assign rfl) ?_
         refine r_nil ?_
         exact p_cut () (show True from by first | trivial | omega | simp_all) ((.e rfl (congrArg Value.bool (by first | (simp [hz1, hz2, hz3]; done) | (simp_all; done))) (.of rfl)) : SubM _ _) (ho := ((.c (i := 0) rfl .n) : PickO _ _ _)) ((.of [0, 1, 2, 3] rfl) : SelR _ _ _)
       ·
        refine r_guard_no rfl rfl ?_
        refine r_guard_no rfl rfl ?_
        refine r_guard_no rfl rfl ?_
        refine r_pv rfl rfl (pv_pick rfl rfl) ?_
        refine r_pv rfl rfl (pv_move rfl) ?_
        refine r_guard_no rfl rfl ?_
        refine r_guard_no rfl rfl ?_
        refine r_pv rfl rfl (pv_pick rfl rfl) ?_
        refine r_pv rfl rfl (pv_assign rfl) ?_
        refine r_nil ?_
        exact p_cut () (show True from by first | trivial | omega | simp_all) ((.e rfl (congrArg Value.bool (by first | (simp [hz1, hz2, hz3]; done) | (simp_all; done))) (.of rfl)) : SubM _ _) (ho := ((.c (i := 0) rfl .n) : PickO _ _ _)) ((.of [0, 1, 2, 3] rfl) : SelR _ _ _)
      ·
       refine r_guard_no rfl rfl ?_
       refine r_guard_no rfl rfl ?_
       refine r_guard_no rfl rfl ?_
       refine r_pv rfl rfl (pv_pick rfl rfl) ?_
       refine r_pv rfl rfl (pv_move rfl) ?_
       refine r_guard_no rfl rfl ?_
       refine r_guard_no rfl rfl ?_
       refine r_guard_no rfl rfl ?_
       refine r_pv rfl rfl (pv_pick rfl rfl) ?_
       refine r_pv rfl rfl (pv_move rfl) ?_
       refine r_guard_no rfl rfl ?_
       refine r_guard_no rfl rfl ?_
       refine r_pv rfl rfl (pv_pick rfl rfl) ?_
       refine r_pv rfl rfl (pv_assign rfl) ?_
       refine r_nil ?_
       exact p_cut () (show True from by first | trivial | omega | simp_all) ((.e rfl (congrArg Value.bool (by first | (simp [hz1, hz2, hz3]; done) | (simp_all; done))) (.of rfl)) : SubM _ _) (ho := ((.c (i := 0) rfl .n) : PickO _ _ _)) ((.of [0, 1, 2, 3] rfl) : SelR _ _ _)
     ·
      refine r_guard_no rfl rfl ?_
      refine r_guard_no rfl rfl ?_
      refine r_guard_no rfl rfl ?_
      refine r_pv rfl rfl (pv_pick rfl rfl) ?_
      refine r_pv rfl rfl (pv_move rfl) ?_
      refine r_guard_no rfl rfl ?_
      refine r_guard_no rfl rfl ?_
      refine r_guard_no rfl rfl ?_
      refine r_pv rfl rfl (pv_pick rfl rfl) ?_
      refine r_pv rfl rfl (pv_move rfl) ?_
      refine r_guard_no rfl rfl ?_
      refine r_guard_no rfl rfl ?_
      refine r_guard_no rfl rfl ?_
      refine r_pv rfl rfl (pv_pick rfl rfl) ?_
      refine r_pv rfl rfl (pv_move rfl) ?_
      refine r_guard_no rfl rfl ?_
      refine r_guard_no rfl rfl ?_
      refine r_pv rfl rfl (pv_pick rfl rfl) ?_
      refine r_pv rfl rfl (pv_assign rfl) ?_
      refine r_nil ?_
      exact p_cut () (show True from by first | trivial | omega | simp_all) ((.e rfl (congrArg Value.bool (by first | (simp [hz1, hz2, hz3]; done) | (simp_all; done))) (.of rfl)) : SubM _ _) (ho := ((.c (i := 0) rfl .n) : PickO _ _ _)) ((.of [0, 1, 2, 3] rfl) : SelR _ _ _)
    ·
     refine r_guard_no rfl rfl ?_
     refine r_guard_no rfl rfl ?_
     refine r_guard_no rfl rfl ?_
     refine r_pv rfl rfl (pv_pick rfl rfl) ?_
     refine r_pv rfl rfl (pv_move rfl) ?_
     refine r_guard_no rfl rfl ?_
     refine r_guard_no rfl rfl ?_
     refine r_guard_no rfl rfl ?_
     refine r_pv rfl rfl (pv_pick rfl rfl) ?_
     refine r_pv rfl rfl (pv_move rfl) ?_
     refine r_guard_no rfl rfl ?_
     refine r_guard_no rfl rfl ?_
     refine r_guard_no rfl rfl ?_
     refine r_pv rfl rfl (pv_pick rfl rfl) ?_
     refine r_pv rfl rfl (pv_move rfl) ?_
     refine r_guard_no rfl rfl ?_
     refine r_guard_no rfl rfl ?_
     refine r_guard_no rfl rfl ?_
     refine r_pv rfl rfl (pv_pick rfl rfl) ?_
     refine r_pv rfl rfl (pv_move rfl) ?_
     refine r_guard_no rfl rfl ?_
     refine r_guard_no rfl rfl ?_
     refine r_pv rfl rfl (pv_pick rfl rfl) ?_
     refine r_pv rfl rfl (pv_assign rfl) ?_
     refine r_nil ?_
     exact p_cut () (show True from by first | trivial | omega | simp_all) ((.e rfl (congrArg Value.bool (by first | (simp [hz1, hz2, hz3]; done) | (simp_all; done))) (.of rfl)) : SubM _ _) (ho := ((.c (i := 0) rfl .n) : PickO _ _ _)) ((.of [0, 1, 2, 3] rfl) : SelR _ _ _)
   ·
    rintro ⟨⟩ -
    show RunC _ _ _ _ _ [(2, .bool true), (8, .int .i64 (Ms.check V F)), (7, .int .i64 (Ms.eulerR V F)), (6, .int .i64 (Ms.check V F)), (5, .slice p25 ((if Ms.check V F = 0 then Ms.partsL F else []).length) c26), (4, .int .i64 (Ms.check V F)), (3, .slice p23 ((Ms.bordersR V F bm1).length) c24), (1, .pointer (some ⟨b1, 0, none⟩))] [boxA b1 25 [.slice pv nv cv, .slice pf nf cf]] [slF (rI .i64) p25 c26 (if Ms.check V F = 0 then Ms.partsL F else []), slF (rS (rI .i64)) p23 c24 (Ms.bordersR V F bm1), slF (rI3 .i64) pv cv V, slF (rI3 .i64) pf cf F]
    refine r_ret ?_
    refine p_then_ret ?_
    exact p_ret1 Try.results6 () trivial (res_tmp rfl) rfl (ho := (.n : PickO _ _ _)) (.n : SelR _ _ _)
  ·
   have hc0 := Decidable.not_not.1 hc
   have hf0 := Ms.check_form hc0
   have hg := Ms.form_zero.1 hf0
   have hnv5 : nv ≤ 512 := by have := hg.nv; omega
   have hnf5 : nf ≤ 1024 := by have := hg.nf; omega
   have hz1 : Ms.bordersR V F bm1 = Ms.loops (fun jj => mget (Ms.nextM F) jj) nv := by unfold Ms.bordersR; rw [if_pos hc0, Ms.bmap_unique (Ms.border_uniq hc0) (hB hc0) (Ms.nextM_bmap F), hnv]
   have hz2 : (if Ms.check V F = 0 then Ms.partsL F else []) = Ms.partsL F := if_pos hc0
   have hz3 : Ms.eulerR V F = Ms.eulerL V F := by unfold Ms.eulerR; rw [if_pos hc0, Ms.euler_same hc0]
   have hpl : (Ms.partsL F).length = nf := by rw [Ms.partsL_eq, Ms.numsL_len, hnf]
   refine r_skip ?_
   refine p_then ?_
   refine r_cut (X := Unit) (fun x => True) (fun x => [(2, .bool true)]) (fun x => [boxA b1 25 [.slice pv nv cv, .slice pf nf cf]]) (fun x => [slF (rI .i64) p25 c26 (if Ms.check V F = 0 then Ms.partsL F else []), slF (rS (rI .i64)) p23 c24 (Ms.bordersR V F bm1), slF (rI3 .i64) pv cv V, slF (rI3 .i64) pf cf F]) ?_ ?_
   ·
    refine r_region ?_
    refine r_pv rfl rfl (pv_move rfl) ?_
    refine r_pv rfl rfl (pv_eql rfl rfl) ?_
    refine r_pv_dec rfl rfl (pv_move rfl) (fun h12 => ?_) (fun h12 => ?_)
    ·
     refine r_pv rfl rfl (pv_move rfl) ?_
     refine r_pv rfl rfl (pv_eql rfl rfl) ?_
     refine r_pv rfl rfl (pv_pick rfl rfl) ?_
     refine r_pv_dec rfl rfl (pv_move rfl) (fun h13 => ?_) (fun h13 => ?_)
     ·
      refine r_pv rfl rfl (pv_move rfl) ?_
      refine r_pv rfl rfl (pv_eql rfl rfl) ?_
      refine r_pv rfl rfl (pv_pick rfl rfl) ?_
      refine r_pv_dec rfl rfl (pv_move rfl) (fun h14 => ?_) (fun h14 => ?_)
      ·
       refine r_pv rfl rfl (pv_move rfl) ?_
       refine r_u rfl rfl (vl_load_box_agg 0 ty25 rfl rfl (.take (.take .nil))) ?_
       refine r_callf rfl rfl (.c rfl .n) ce17 (con_lborders (pv := pv) (nv := nv) (cv := cv) (V := V) (pf := pf) (nf := nf) (cf := cf) (F := F) (hnv := by assumption) (hnf := by assumption) (hg := by first | rfl | assumption | omega | (simp; done) | (simp; omega) | (simp_all; done))) (.c (j := 2) rfl (.c (j := 3) rfl .n)) ?_
       rintro ⟨p215, c216⟩ -
       dsimp only [List.append_eq, List.nil_append, List.cons_append]
       refine r_call1 rfl rfl (.c rfl (.c rfl (.c rfl .n))) ce26 (con_EFrows (p1 := p23) (n1 := (Ms.bordersR V F bm1).length) (c1 := c24) (l1 := Ms.bordersR V F bm1) (p2 := p215) (n2 := (Ms.loops (fun jj => mget (Ms.nextM F) jj) nv).length) (c2 := c216) (l2 := Ms.loops (fun jj => mget (Ms.nextM F) jj) nv) (hn1 := by first | rfl | assumption | omega | (simp; done) | (simp; omega) | (simp_all; done)) (hn2 := by first | rfl | assumption | omega | (simp; done) | (simp; omega) | (simp_all; done))) (.c (j := 2) rfl (.c (j := 0) rfl .n)) ?_
       refine r_pv rfl rfl (pv_pick rfl rfl) ?_
       refine r_pv_dec rfl rfl (pv_move rfl) (fun h17 => ?_) (fun h17 => ?_)
       ·
        refine r_pv rfl rfl (pv_move rfl) ?_
        refine r_u rfl rfl (vl_load_box_agg 0 ty25 rfl rfl (.take (.take .nil))) ?_
        refine r_callf rfl rfl (.c rfl .n) ce29 (con_lparts (pv := pv) (nv := nv) (cv := cv) (V := V) (pf := pf) (nf := nf) (cf := cf) (F := F) (hnv := by assumption) (hnf := by assumption) (hg := by first | rfl | assumption | omega | (simp; done) | (simp; omega) | (simp_all; done))) (.c (j := 3) rfl (.c (j := 4) rfl .n)) ?_
        rintro p218 -
        dsimp only [List.append_eq, List.nil_append, List.cons_append]
        refine r_call1 rfl rfl (.c rfl (.c rfl .n)) ce28 (con_Eqint (p1 := p25) (n1 := (if Ms.check V F = 0 then Ms.partsL F else []).length) (c1 := c26) (l1 := if Ms.check V F = 0 then Ms.partsL F else []) (p2 := p218) (n2 := nf) (c2 := nf) (l2 := Ms.partsL F) (hn1 := by first | rfl | assumption | omega | (simp; done) | (simp; omega) | (simp_all; done)) (hn2 := by first | rfl | assumption | omega | (simp; done) | (simp; omega) | (simp_all; done))) (.c (j := 2) rfl (.c (j := 0) rfl .n)) ?_
        refine r_pv rfl rfl (pv_pick rfl rfl) ?_
        refine r_pv_dec rfl rfl (pv_move rfl) (fun h19 => ?_) (fun h19 => ?_)
        ·
         refine r_pv rfl rfl (pv_move rfl) ?_
         refine r_u rfl rfl (vl_load_box_agg 0 ty25 rfl rfl (.take (.take .nil))) ?_
         refine r_call1 rfl rfl (.c rfl .n) ce30 (con_leuler (pv := pv) (nv := nv) (cv := cv) (V := V) (pf := pf) (nf := nf) (cf := cf) (F := F) (hnv := by assumption) (hnf := by assumption) (hg := by first | rfl | assumption | omega | (simp; done) | (simp; omega) | (simp_all; done))) (.c (j := 4) rfl (.c (j := 5) rfl .n)) ?_
         refine r_pv rfl rfl (pv_eql rfl rfl) ?_
         refine r_pv rfl rfl (pv_pick rfl rfl) ?_
         refine r_pv rfl rfl (pv_assign rfl) ?_
         refine r_nil ?_
         exact p_cut () (show True from by first | trivial | omega | simp_all) ((.e rfl (congrArg Value.bool (by first | (simp only [hz1, hz2, hz3, decide_true]; done) | (simp [hz1, hz2, hz3, hc0]; done) | (simp_all; done))) .n) : SubM _ _) (ho := ((.c (i := 0) rfl .n) : PickO _ _ _)) ((.of [2, 3, 4, 5] rfl) : SelR _ _ _)
        ·
         refine r_guard_no rfl rfl ?_
         refine r_guard_no rfl rfl ?_
         refine r_guard_no rfl rfl ?_
         refine r_guard_no rfl rfl ?_
         refine r_pv rfl rfl (pv_pick rfl rfl) ?_
         refine r_pv rfl rfl (pv_assign rfl) ?_
         refine r_nil ?_
         exact p_cut () (show True from by first | trivial | omega | simp_all) ((.e rfl (congrArg Value.bool (by first | (simp only [hz1, hz2, hz3, decide_true]; done) | (simp [hz1, hz2, hz3, hc0]; done) | (simp_all; done))) .n) : SubM _ _) (ho := ((.c (i := 0) rfl .n) : PickO _ _ _)) ((.of [2, 3, 4, 5] rfl) : SelR _ _ _)
       ·
        refine r_guard_no rfl rfl ?_
        refine r_guard_no rfl rfl ?_
        refine r_guard_no rfl rfl ?_
        refine r_guard_no rfl rfl ?_
        refine r_pv rfl rfl (pv_pick rfl rfl) ?_
        refine r_pv rfl rfl (pv_move rfl) ?_
        refine r_guard_no rfl rfl ?_
        refine r_guard_no rfl rfl ?_
        refine r_guard_no rfl rfl ?_
        refine r_guard_no rfl rfl ?_
        refine r_pv rfl rfl (pv_pick rfl rfl) ?_
        refine r_pv rfl rfl (pv_assign rfl) ?_
        refine r_nil ?_
        exact p_cut () (show True from by first | trivial | omega | simp_all) ((.e rfl (congrArg Value.bool (by first | (simp only [hz1, hz2, hz3, decide_true]; done) | (simp [hz1, hz2, hz3, hc0]; done) | (simp_all; done))) .n) : SubM _ _) (ho := ((.c (i := 0) rfl .n) : PickO _ _ _)) ((.of [1, 2, 3, 4] rfl) : SelR _ _ _)
      ·
       refine r_guard_no rfl rfl ?_
       refine r_guard_no rfl rfl ?_
       refine r_guard_no rfl rfl ?_
       refine r_guard_no rfl rfl ?_
       refine r_pv rfl rfl (pv_pick rfl rfl) ?_
       refine r_pv rfl rfl (pv_move rfl) ?_
       refine r_guard_no rfl rfl ?_
       refine r_guard_no rfl rfl ?_
       refine r_guard_no rfl rfl ?_
       refine r_guard_no rfl rfl ?_
       refine r_pv rfl rfl (pv_pick rfl rfl) ?_
       refine r_pv rfl rfl (pv_move rfl) ?_
       refine r_guard_no rfl rfl ?_
       refine r_guard_no rfl rfl ?_
       refine r_guard_no rfl rfl ?_
       refine r_guard_no rfl rfl ?_
       refine r_pv rfl rfl (pv_pick rfl rfl) ?_
       refine r_pv rfl rfl (pv_assign rfl) ?_
       refine r_nil ?_
       exact p_cut () (show True from by first | trivial | omega | simp_all) ((.e rfl (congrArg Value.bool (by first | (simp only [hz1, hz2, hz3, decide_true]; done) | (simp [hz1, hz2, hz3, hc0]; done) | (simp_all; done))) .n) : SubM _ _) (ho := ((.c (i := 0) rfl .n) : PickO _ _ _)) ((.of [0, 1, 2, 3] rfl) : SelR _ _ _)
     ·
      refine r_guard_no rfl rfl ?_
      refine r_guard_no rfl rfl ?_
      refine r_pv rfl rfl (pv_pick rfl rfl) ?_
      refine r_pv rfl rfl (pv_move rfl) ?_
      refine r_guard_no rfl rfl ?_
      refine r_guard_no rfl rfl ?_
      refine r_guard_no rfl rfl ?_
      refine r_guard_no rfl rfl ?_
      refine r_pv rfl rfl (pv_pick rfl rfl) ?_
      refine r_pv rfl rfl (pv_move rfl) ?_
      refine r_guard_no rfl rfl ?_
      refine r_guard_no rfl rfl ?_
      refine r_guard_no rfl rfl ?_
      refine r_guard_no rfl rfl ?_
      refine r_pv rfl rfl (pv_pick rfl rfl) ?_
      refine r_pv rfl rfl (pv_move rfl) ?_
      refine r_guard_no rfl rfl ?_
      refine r_guard_no rfl rfl ?_
      refine r_guard_no rfl rfl ?_
      refine r_guard_no rfl rfl ?_
      refine r_pv rfl rfl (pv_pick rfl rfl) ?_
      refine r_pv rfl rfl (pv_assign rfl) ?_
      refine r_nil ?_
      exact p_cut () (show True from by first | trivial | omega | simp_all) ((.e rfl (congrArg Value.bool (by first | (simp only [hz1, hz2, hz3, decide_true]; done) | (simp [hz1, hz2, hz3, hc0]; done) | (simp_all; done))) .n) : SubM _ _) (ho := ((.c (i := 0) rfl .n) : PickO _ _ _)) ((.of [0, 1, 2, 3] rfl) : SelR _ _ _)
    ·
     refine r_guard_no rfl rfl ?_
     refine r_guard_no rfl rfl ?_
     refine r_pv rfl rfl (pv_pick rfl rfl) ?_
     refine r_pv rfl rfl (pv_move rfl) ?_
     refine r_guard_no rfl rfl ?_
     refine r_guard_no rfl rfl ?_
     refine r_pv rfl rfl (pv_pick rfl rfl) ?_
     refine r_pv rfl rfl (pv_move rfl) ?_
     refine r_guard_no rfl rfl ?_
     refine r_guard_no rfl rfl ?_
     refine r_guard_no rfl rfl ?_
     refine r_guard_no rfl rfl ?_
     refine r_pv rfl rfl (pv_pick rfl rfl) ?_
     refine r_pv rfl rfl (pv_move rfl) ?_
     refine r_guard_no rfl rfl ?_
     refine r_guard_no rfl rfl ?_
     refine r_guard_no rfl rfl ?_
     refine r_guard_no rfl rfl ?_
     refine r_pv rfl rfl (pv_pick rfl rfl) ?_
     refine r_pv rfl rfl (pv_move rfl) ?_
     refine r_guard_no rfl rfl ?_
     refine r_guard_no rfl rfl ?_
     refine r_guard_no rfl rfl ?_
     refine r_guard_no rfl rfl ?_
     refine r_pv rfl rfl (pv_pick rfl rfl) ?_
     refine r_pv rfl rfl (pv_assign rfl) ?_
     refine r_nil ?_
     exact p_cut () (show True from by first | trivial | omega | simp_all) ((.e rfl (congrArg Value.bool (by first | (simp only [hz1, hz2, hz3, decide_true]; done) | (simp [hz1, hz2, hz3, hc0]; done) | (simp_all; done))) .n) : SubM _ _) (ho := ((.c (i := 0) rfl .n) : PickO _ _ _)) ((.of [0, 1, 2, 3] rfl) : SelR _ _ _)
   ·
    rintro ⟨⟩ -
    show RunC _ _ _ _ _ [(2, .bool true)] [boxA b1 25 [.slice pv nv cv, .slice pf nf cf]] [slF (rI .i64) p25 c26 (if Ms.check V F = 0 then Ms.partsL F else []), slF (rS (rI .i64)) p23 c24 (Ms.bordersR V F bm1), slF (rI3 .i64) pv cv V, slF (rI3 .i64) pf cf F]
    refine r_ret ?_
    exact p_ret1 Try.results6 () trivial (res_tmp rfl) rfl (ho := (.n : PickO _ _ _)) (.n : SelR _ _ _)
end Go.Proofs.Ytalfgjpbbongcaa.Sp
