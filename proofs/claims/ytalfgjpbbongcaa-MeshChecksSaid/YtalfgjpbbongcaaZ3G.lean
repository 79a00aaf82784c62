/- Lemmas on the walk and plain lemmas that the claim of this folder uses; each states its own conditions. Lines were printed by a program of ours. -/
import Derived.Test.YtalfgjpbbongcaaZ3F
set_option linter.unusedVariables false
set_option linter.unusedSimpArgs false
set_option linter.unusedSectionVars false
namespace Go.Proofs.Ytalfgjpbbongcaa.Sp
open Go
set_option linter.unusedVariables false
set_option maxRecDepth 100000
set_option maxHeartbeats 1000000
theorem con_known   : Con Try.prog 12 [] [] [] (Y := Unit) (fun y => True) (fun y => .bool true) (fun y => []) (fun y => []) := by
 refine con_intro Try.func12 rfl rfl rfl (fun c => ?_)
 show RunC _ _ _ _ _ [] [] []
 refine r_seq ?_
 refine r_region ?_
 refine r_pv rfl rfl (pv_assign rfl) ?_
 refine r_nil ?_
 refine p_then ?_
 refine r_seq ?_
 refine r_region ?_
 refine r_callf rfl rfl (.n) ce44 (con_example  ) (.n) ?_
 rintro ⟨pvA, pfA⟩ -
 dsimp only [List.append_eq, List.nil_append, List.cons_append]
 refine r_callf rfl rfl ((.c rfl .n)) ce16 (con_Volume (pv := pvA) (nv := 4) (cv := 4) (V := Ms.exV) (pf := pfA) (nf := 4) (cf := 4) (F := Ms.exF) (hnv := by first | rfl | assumption | decide | (simp [Ms.exV, Ms.exF]; done)) (hnf := by first | rfl | assumption | decide | (simp [Ms.exV, Ms.exF]; done))) ((.c (j := 0) rfl (.c (j := 1) rfl .n))) ?_
 rintro ⟨p31, c32⟩ -
 dsimp only [List.append_eq, List.nil_append, List.cons_append]
 have e3 : Ms.volC Ms.exV Ms.exF = 0 := by exact Ms.ex_volC
 rw [e3]
 have e4 : Ms.vol Ms.exV Ms.exF = (1 : Int) := by exact Ms.ex_vol
 rw [e4]
 refine r_pv rfl rfl (pv_move rfl) ?_
 refine r_pv rfl rfl (pv_extract rfl rfl) ?_
 refine r_pv rfl rfl (pv_extract rfl rfl) ?_
 refine r_new rfl rfl (ef_alloc zr34 rfl) (fun b5 => ?_)
 refine r_store_box 0 rfl rfl rfl rfl rfl sz34 rfl (.take (.take .nil)) .z ?_
 refine r_pv rfl rfl (pv_assign rfl) ?_
 refine r_nil ?_
 refine p_then ?_
 refine r_seq ?_
 refine r_region ?_
 refine r_callf rfl rfl (.n) ce44 (con_example  ) (.n) ?_
 rintro ⟨pvB, pfB⟩ -
 dsimp only [List.append_eq, List.nil_append, List.cons_append]
 refine r_call1 rfl rfl ((.c rfl .n)) ce25 (con_Euler (pv := pvB) (nv := 4) (cv := 4) (V := Ms.exV) (pf := pfB) (nf := 4) (cf := 4) (F := Ms.exF) (hnv := by first | rfl | assumption | decide | (simp [Ms.exV, Ms.exF]; done)) (hnf := by first | rfl | assumption | decide | (simp [Ms.exV, Ms.exF]; done))) ((.c (j := 0) rfl (.c (j := 1) rfl .n))) ?_
 have e6 : Ms.check Ms.exV Ms.exF = 0 := by exact Ms.ex_check
 rw [e6]
 have e7 : Ms.eulerR Ms.exV Ms.exF = 2 := by exact Ms.ex_euler
 rw [e7]
 refine r_pv rfl rfl (pv_move rfl) ?_
 refine r_pv rfl rfl (pv_extract rfl rfl) ?_
 refine r_pv rfl rfl (pv_extract rfl rfl) ?_
 refine r_pv rfl rfl (pv_assign rfl) ?_
 refine r_pv rfl rfl (pv_assign rfl) ?_
 refine r_nil ?_
 refine p_then ?_
 refine r_seq ?_
 refine r_region ?_
 refine r_callf rfl rfl (.n) ce44 (con_example  ) (.n) ?_
 rintro ⟨pvC, pfC⟩ -
 dsimp only [List.append_eq, List.nil_append, List.cons_append]
 refine r_new rfl rfl (ef_alloc zr25 rfl) (fun b8 => ?_)
 refine r_store_box 0 rfl rfl rfl rfl rfl sz25 rfl (.take (.take .nil)) .z ?_
 refine r_nil ?_
 refine p_then ?_
 refine r_seq ?_
 refine r_region ?_
 refine r_pv rfl rfl (pv_fieldAddr Try.underlying25 rfl sz23 rfl rfl) ?_
 refine r_u rfl rfl (vl_load_box_one 0 ty23 rfl rfl rfl) ?_
 refine r_pv rfl rfl (pv_slice0 (hi := 3) Try.underlying23 sz44 rfl (.s rfl) (.inr ⟨_, rfl⟩) (by first | omega | decide)) ?_
 refine r_more (slF_take 1 rfl (3) (by first | omega | decide)) (fun _ _ => ?_)
 refine r_pv rfl rfl (pv_fieldAddr Try.underlying25 rfl sz23 rfl rfl) ?_
 refine r_store_box 0 rfl rfl rfl rfl rfl sz23 rfl (.skip (.take .nil)) .z ?_
 refine r_nil ?_
 refine p_then ?_
 refine r_seq ?_
 refine r_region ?_
 refine r_u rfl rfl (vl_load_box_agg 0 ty25 rfl rfl (.take (.take .nil))) ?_
 refine r_callf rfl rfl ((.c rfl .n)) ce23 (con_Borders (pv := pvC) (nv := 4) (cv := 4) (V := Ms.exV) (pf := pfC) (nf := 3) (cf := 4) (F := (Ms.exF.take (3))) (hnv := by first | rfl | assumption | decide | (simp [Ms.exV, Ms.exF]; done)) (hnf := by first | rfl | assumption | decide | (simp [Ms.exV, Ms.exF]; done))) ((.c (j := 1) rfl (.c (j := 0) rfl .n))) ?_
 rintro ⟨p29, c210, bm1⟩ hB
 dsimp only [List.append_eq, List.nil_append, List.cons_append]
 replace hB : Ms.check Ms.exV (Ms.exF.take (3)) = 0 → Ms.BMap (Ms.exF.take (3)) bm1 := hB
 have e11 : Ms.check Ms.exV (Ms.exF.take (3)) = 0 := by exact Ms.ex_open
 rw [e11]
 have e12 : Ms.bordersR Ms.exV (Ms.exF.take (3)) bm1 = Ms.exL := by exact Ms.ex_borders (hB Ms.ex_open)
 rw [e12]
 refine r_pv rfl rfl (pv_move rfl) ?_
 refine r_pv rfl rfl (pv_extract rfl rfl) ?_
 refine r_pv rfl rfl (pv_extract rfl rfl) ?_
 refine r_pv rfl rfl (pv_assign rfl) ?_
 refine r_pv rfl rfl (pv_assign rfl) ?_
 refine r_nil ?_
 refine p_then ?_
 refine r_seq ?_
 refine r_draw (OW := []) (O := [boxA b8 25 [.slice (pvC) (4) (4), .slice (pfC) (3) (4)], boxA b5 34 [.bool (decide (((1 : Int)) < 0)), .slice (p31) ((Big.digs (((1 : Int)).natAbs)).length) (c32)]]) 100000 mixed (.then .ret) (by kernel_rfl) ?_
 refine d_pv 0 rfl rfl (by kernel_rfl) (by kernel_rfl) rfl rfl (pv_move rfl) ?_
 refine d_pv 1 rfl rfl (by kernel_rfl) (by kernel_rfl) rfl rfl (pv_eql rfl rfl) ?_
 refine d_pv 2 rfl rfl (by kernel_rfl) (by kernel_rfl) rfl rfl (pv_move rfl) ?_
 refine d_pv 3 rfl rfl (by kernel_rfl) (by kernel_rfl) rfl rfl (pv_move rfl) ?_
 refine d_pv 4 rfl rfl (by kernel_rfl) (by kernel_rfl) rfl rfl (pv_eql rfl rfl) ?_
 refine d_pv 5 rfl rfl (by kernel_rfl) (by kernel_rfl) rfl rfl (pv_pick rfl rfl) ?_
 refine d_pv 6 rfl rfl (by kernel_rfl) (by kernel_rfl) rfl rfl (pv_move rfl) ?_
 refine d_pv 7 rfl rfl (by kernel_rfl) (by kernel_rfl) rfl rfl (pv_move rfl) ?_
 refine d_pv 8 rfl rfl (by kernel_rfl) (by kernel_rfl) rfl rfl (pv_eql rfl rfl) ?_
 refine d_pv 9 rfl rfl (by kernel_rfl) (by kernel_rfl) rfl rfl (pv_pick rfl rfl) ?_
 refine d_pv 10 rfl rfl (by kernel_rfl) (by kernel_rfl) rfl rfl (pv_move rfl) ?_
 refine d_u 11 rfl rfl (by kernel_rfl) (by kernel_rfl) rfl rfl (vl_load_box_agg 1 ty34 rfl rfl (.take (.take .nil))) ?_
 refine d_one 12 (by kernel_rfl) (o_callf rfl rfl rfl rfl ((.c rfl .n)) ce45 (rcon_Of (z := (1 : Int)) (hz := by first | rfl | assumption | decide | (simp [Ms.exV, Ms.exF]; done))) (.n) ?_)
 rintro ⟨p213, c214⟩ -
 dsimp only [List.append_eq, List.nil_append, List.cons_append]
 refine d_one 13 (by kernel_rfl) (o_call1 rfl rfl rfl rfl ((.c rfl (.c rfl .n))) ce18 (rcon_SameZ (x1 := (1 : Int)) (x2 := (1 : Int)) (p1 := p31) (c1 := c32) (p2 := p213) (c2 := c214) ) ((.c (j := 7) rfl (.c (j := 0) rfl .n))) ?_)
 rw [show (decide ((1 : Int) = (1 : Int))) = true from by decide]
 refine d_pv 14 rfl rfl (by kernel_rfl) (by kernel_rfl) rfl rfl (pv_pick rfl rfl) ?_
 refine d_pv 15 rfl rfl (by kernel_rfl) (by kernel_rfl) rfl rfl (pv_move rfl) ?_
 refine d_pv 16 rfl rfl (by kernel_rfl) (by kernel_rfl) rfl rfl (pv_move rfl) ?_
 refine d_pv 17 rfl rfl (by kernel_rfl) (by kernel_rfl) rfl rfl (pv_eql rfl rfl) ?_
 refine d_pv 18 rfl rfl (by kernel_rfl) (by kernel_rfl) rfl rfl (pv_pick rfl rfl) ?_
 refine d_pv 19 rfl rfl (by kernel_rfl) (by kernel_rfl) rfl rfl (pv_move rfl) ?_
 refine d_pv 20 rfl rfl (by kernel_rfl) (by kernel_rfl) rfl rfl (pv_move rfl) ?_
 refine d_pv 21 rfl rfl (by kernel_rfl) (by kernel_rfl) rfl rfl (pv_len Try.underlying37 rfl) ?_
 have e15 : (((Ms.exL).length : Nat) : Int) = 1 := by rfl
 rw [e15]
 refine d_pv 22 rfl rfl (by kernel_rfl) (by kernel_rfl) rfl rfl (pv_eql rfl rfl) ?_
 refine d_pv 23 rfl rfl (by kernel_rfl) (by kernel_rfl) rfl rfl (pv_pick rfl rfl) ?_
 refine d_pv 24 rfl rfl (by kernel_rfl) (by kernel_rfl) rfl rfl (pv_move rfl) ?_
 refine d_pv 25 rfl rfl (by kernel_rfl) (by kernel_rfl) rfl rfl (pv_move rfl) ?_
 refine d_vl 26 rfl rfl (by kernel_rfl) (by kernel_rfl) rfl rfl (vl_index (x0 := (Ms.exL.getD (0) [])) 1 (0) rfl Try.underlying37 sz50 rfl (by first | rfl | assumption | (simp_all; done) | omega) rfl (rfl) (gD (d := []) (by first | omega | decide))) ?_
 rintro ⟨b16, o17, p18, c19⟩ -
 dsimp only [List.append_eq, List.nil_append, List.cons_append]
 refine d_u 27 rfl rfl (by kernel_rfl) (by kernel_rfl) rfl rfl (vl_load_at_one (j := 0) 0 ty50 rfl rfl rfl rfl) ?_
 refine d_one 28 (by kernel_rfl) (o_ef0 rfl rfl rfl rfl (ef_buildSlice_fl (enc := fun z : Int => [.int .i64 z]) (ok := InK .i64) (h1 := fun _ => rfl) (h2 := fun _ => rfl) (k := 3) Try.underlying50 inf3 rfl (by decide) (by decide) (by decide) (.c (x := 1) rfl rfl (fun _ _ => by exact inK_i64.2 (by omega)) (.c (x := 3) rfl rfl (fun _ _ => by exact inK_i64.2 (by omega)) (.c (x := 2) rfl rfl (fun _ _ => by exact inK_i64.2 (by omega)) .n)))) (fun b20 _ => ?_))
 refine d_freeze 0 rfl .z ?_
 refine d_one 29 (by kernel_rfl) (o_call1 rfl rfl rfl rfl ((.c rfl (.c rfl .n))) ce28 (con_Eqint (p1 := p18) (n1 := (Ms.exL.getD (0) []).length) (c1 := c19) (l1 := (Ms.exL.getD (0) [])) (p2 := some ⟨b20, 0, none⟩) (n2 := 3) (c2 := 3) (l2 := [1, 3, 2]) (hn1 := by first | rfl | assumption | decide | (simp [Ms.exV, Ms.exF]; done)) (hn2 := by first | rfl | assumption | decide | (simp [Ms.exV, Ms.exF]; done))) ((.c (j := 2) rfl (.c (j := 0) rfl .n))) ?_)
 rw [show (decide ((Ms.exL.getD (0) []) = ([1, 3, 2]))) = true from by decide]
 refine d_pv 30 rfl rfl (by kernel_rfl) (by kernel_rfl) rfl rfl (pv_pick rfl rfl) ?_
 refine d_pv 31 rfl rfl (by kernel_rfl) (by kernel_rfl) rfl rfl (pv_move rfl) ?_
 refine d_u 32 rfl rfl (by kernel_rfl) (by kernel_rfl) rfl rfl (vl_load_box_agg 1 ty25 rfl rfl (.take (.take .nil))) ?_
 refine d_one 33 (by kernel_rfl) (o_call1 rfl rfl rfl rfl ((.c rfl .n)) ce14 (con_Check (pv := pvC) (nv := 4) (cv := 4) (V := Ms.exV) (pf := pfC) (nf := 3) (cf := 4) (F := (Ms.exF.take (3))) (hnv := by first | rfl | assumption | decide | (simp [Ms.exV, Ms.exF]; done)) (hnf := by first | rfl | assumption | decide | (simp [Ms.exV, Ms.exF]; done))) ((.c (j := 6) rfl (.c (j := 5) rfl .n))) ?_)
 have e21 : Ms.check Ms.exV (Ms.exF.take (3)) = 0 := by exact Ms.ex_open
 rw [e21]
 refine d_pv 34 rfl rfl (by kernel_rfl) (by kernel_rfl) rfl rfl (pv_eql rfl rfl) ?_
 refine d_pv 35 rfl rfl (by kernel_rfl) (by kernel_rfl) rfl rfl (pv_pick rfl rfl) ?_
 refine d_pv 36 rfl rfl (by kernel_rfl) (by kernel_rfl) rfl rfl (pv_assign rfl) ?_
 refine d_done (by kernel_rfl) ?_
 refine p_then ?_
 refine r_ret ?_
 exact p_ret1 Try.results12 () (trivial) (res_tmp rfl) (rfl) (ho := (.n : PickO _ _ _)) (.n : SelR _ _ _)
end Go.Proofs.Ytalfgjpbbongcaa.Sp
namespace Go.Proofs.Ytalfgjpbbongcaa.Sp
open Go
set_option linter.unusedVariables false
set_option maxRecDepth 100000
set_option maxHeartbeats 1000000
theorem con_MeshChecks {pv : Option Addr} {nv : Nat} {cv : Nat} {V : List (Int × Int × Int)} {pf : Option Addr} {nf : Nat} {cf : Nat} {F : List (Int × Int × Int)} (hnv : V.length = nv) (hnf : F.length = nf) : Con Try.prog 3 [.agg #[.slice (pv) (nv) (cv), .slice (pf) (nf) (cf)]] [] [slF (rI3 .i64) (pv) (cv) (V), slF (rI3 .i64) (pf) (cf) (F)] (Y := Unit) (fun y => True) (fun y => .bool true) (fun y => []) (fun y => []) := by
 refine con_intro Try.func3 rfl rfl rfl (fun c => ?_)
 show RunC _ _ _ _ _ [(0, .agg #[.slice (pv) (nv) (cv), .slice (pf) (nf) (cf)])] [] [slF (rI3 .i64) (pv) (cv) (V), slF (rI3 .i64) (pf) (cf) (F)]
 refine c_len 0 rfl (fun hL0 => ?_)
 refine c_len 1 rfl (fun hL1 => ?_)
 refine r_seq ?_
 refine r_region ?_
 refine r_new rfl rfl (ef_box rfl rfl) (fun b1 => ?_)
 refine r_pv rfl rfl (pv_assign rfl) ?_
 refine r_nil ?_
 refine p_then ?_
 refine r_seq ?_
 refine r_seq ?_
 refine r_region ?_
 refine r_call1 rfl rfl (.n) ce12 (con_known  ) (.n) ?_
 refine r_pv rfl rfl (pv_not rfl) ?_
 refine r_nil ?_
 refine p_then ?_
 refine r_cond_f rfl rfl ?_
 refine r_skip ?_
 refine p_then ?_
 refine r_seq ?_
 refine r_seq ?_
 refine r_region ?_
 refine r_u rfl rfl (vl_load_box_agg 0 ty25 rfl rfl (.take (.take .nil))) ?_
 refine r_call1 rfl rfl ((.c rfl .n)) ce13 (con_few (pv := pv) (nv := nv) (cv := cv) (V := V) (pf := pf) (nf := nf) (cf := cf) (F := F) (hnv := by first | rfl | assumption | omega | (simp; done) | (simp; omega) | (simp_all; done)) (hnf := by first | rfl | assumption | omega | (simp; done) | (simp; omega) | (simp_all; done))) ((.c (j := 0) rfl (.c (j := 1) rfl .n))) ?_
 refine r_pv rfl rfl (pv_notd rfl) ?_
 refine r_nil ?_
 refine p_then ?_
 refine r_cond rfl (fun h2 => ?_) (fun h2 => ?_)
 ·
  refine r_seq ?_
  refine r_region ?_
  refine r_pv rfl rfl (pv_assign rfl) ?_
  refine r_nil ?_
  refine p_then ?_
  refine r_ret ?_
  refine p_then_ret ?_
  exact p_ret1 Try.results3 () (trivial) (res_tmp rfl) (rfl) (ho := (.n : PickO _ _ _)) (.n : SelR _ _ _)
 ·
  refine r_skip ?_
  refine p_then ?_
  refine r_seq ?_
  refine r_draw (OW := []) (O := [boxA b1 25 [.slice (pv) (nv) (cv), .slice (pf) (nf) (cf)]]) 100000 mixed (.then .ret) (by kernel_rfl) ?_
  refine d_u 0 rfl rfl (by kernel_rfl) (by kernel_rfl) rfl rfl (vl_load_box_agg 0 ty25 rfl rfl (.take (.take .nil))) ?_
  refine d_u 2 rfl rfl (by kernel_rfl) (by kernel_rfl) rfl rfl (vl_load_box_agg 0 ty25 rfl rfl (.take (.take .nil))) ?_
  refine d_one 1 (by kernel_rfl) (o_call1 rfl rfl rfl rfl ((.c rfl .n)) ce14 (con_Check (pv := pv) (nv := nv) (cv := cv) (V := V) (pf := pf) (nf := nf) (cf := cf) (F := F) (hnv := by first | rfl | assumption | omega | (simp; done) | (simp; omega) | (simp_all; done)) (hnf := by first | rfl | assumption | omega | (simp; done) | (simp; omega) | (simp_all; done))) ((.c (j := 0) rfl (.c (j := 1) rfl .n))) ?_)
  refine d_one 3 (by kernel_rfl) (o_call1 rfl rfl rfl rfl ((.c rfl .n)) ce15 (con_lcheck (pv := pv) (nv := nv) (cv := cv) (V := V) (pf := pf) (nf := nf) (cf := cf) (F := F) (hnv := by first | rfl | assumption | omega | (simp; done) | (simp; omega) | (simp_all; done)) (hnf := by first | rfl | assumption | omega | (simp; done) | (simp; omega) | (simp_all; done))) ((.c (j := 0) rfl (.c (j := 1) rfl .n))) ?_)
  refine d_pv 4 rfl rfl (by kernel_rfl) (by kernel_rfl) rfl rfl (pv_eql rfl rfl) ?_
  refine d_pv 5 rfl rfl (by kernel_rfl) (by kernel_rfl) rfl rfl (pv_assign rfl) ?_
  refine d_done (by kernel_rfl) ?_
  refine p_then ?_
  refine r_ret ?_
  exact p_ret1 Try.results3 () (trivial) (res_tmp rfl) (congrArg Value.bool (by simp)) (ho := (.n : PickO _ _ _)) (.n : SelR _ _ _)
end Go.Proofs.Ytalfgjpbbongcaa.Sp
