/- The law ShutterMoves holds, tied to the program's text: for every input that reads as data the program returns true, and the input reads behind the call as it did before. The table of signs is read as the start lays it. No condition beyond those of the given statement. -/
import Derived.Test.YtjeahiahjgifgaaGreatDoorZ5F
import Derived.Laws.Rows
set_option linter.unusedVariables false
set_option linter.unusedSimpArgs false
set_option linter.unusedSectionVars false
open Go.Proofs.Tryz renaming underlying3 → yc, prog → yd, underlying60 → ye
namespace Go.Proofs.YtjeahiahjgifgaaGreatDoor
open Go Go.ChangeShapes Go.WideShapes Go.ChangeAt Go.RowKit Sp
set_option linter.unusedVariables false
set_option maxRecDepth 100000
namespace LawShutterMoves
theorem op29:Opens yd 29 (rP (rI .i64) (rP (rI .i64) (rP (rP (rI .i64) (rP (rI3 .i64) (rP (rI .i64) (rP (rI .i64) (rP (rI .i64) (rI .i64)))))) (rP (rI .i64) (rP (rI3 .i64) (rP (rI .i64) (rP (rI .i64) (rP (rI .i64) (rI .i64))))))))):=zCa (ps:=[(3,0),(3,1),(27,2),(27,10)]) Tryz.underlying29 (by kernel_rfl) rfl (opensL_cons (by kernel_rfl) (zoa yc) (opensL_cons (by kernel_rfl) (zoa yc) (opensL_cons (by kernel_rfl) (zCa (ps:=[(3,0),(23,1),(25,4)]) Tryz.underlying27 (by kernel_rfl) rfl (opensL_cons (by kernel_rfl) (zoa yc) (opensL_cons (by kernel_rfl) (zCb (zCa (ps:=[(3,0),(3,1),(3,2)]) Tryz.underlying23 (by kernel_rfl) rfl (opensL_cons (by kernel_rfl) (zoa yc) (opensL_cons (by kernel_rfl) (zoa yc) (opensL_one (by kernel_rfl) (zoa yc))))) conv3) (opensL_one (by kernel_rfl) (zCa (ps:=[(3,0),(3,1),(3,2),(3,3)]) Tryz.underlying25 (by kernel_rfl) rfl (opensL_cons (by kernel_rfl) (zoa yc) (opensL_cons (by kernel_rfl) (zoa yc) (opensL_cons (by kernel_rfl) (zoa yc) (opensL_one (by kernel_rfl) (zoa yc)))))))))) (opensL_one (by kernel_rfl) (zCa (ps:=[(3,0),(23,1),(25,4)]) Tryz.underlying27 (by kernel_rfl) rfl (opensL_cons (by kernel_rfl) (zoa yc) (opensL_cons (by kernel_rfl) (zCb (zCa (ps:=[(3,0),(3,1),(3,2)]) Tryz.underlying23 (by kernel_rfl) rfl (opensL_cons (by kernel_rfl) (zoa yc) (opensL_cons (by kernel_rfl) (zoa yc) (opensL_one (by kernel_rfl) (zoa yc))))) conv3) (opensL_one (by kernel_rfl) (zCa (ps:=[(3,0),(3,1),(3,2),(3,3)]) Tryz.underlying25 (by kernel_rfl) rfl (opensL_cons (by kernel_rfl) (zoa yc) (opensL_cons (by kernel_rfl) (zoa yc) (opensL_cons (by kernel_rfl) (zoa yc) (opensL_one (by kernel_rfl) (zoa yc))))))))))))))
theorem op39:Opens yd 39 (rP (rP (rI .i64) (rI2 .i64)) (rP (rI2 .i64) (rP (rI .i64) (rI .i64)))):=zCa (ps:=[(37,0),(35,3),(3,5),(3,6)]) Tryz.underlying39 (by kernel_rfl) rfl (opensL_cons (by kernel_rfl) (zCa (ps:=[(3,0),(35,1)]) Tryz.underlying37 (by kernel_rfl) rfl (opensL_cons (by kernel_rfl) (zoa yc) (opensL_one (by kernel_rfl) (zCb (zCa (ps:=[(3,0),(3,1)]) Tryz.underlying35 (by kernel_rfl) rfl (opensL_cons (by kernel_rfl) (zoa yc) (opensL_one (by kernel_rfl) (zoa yc)))) conv2)))) (opensL_cons (by kernel_rfl) (zCb (zCa (ps:=[(3,0),(3,1)]) Tryz.underlying35 (by kernel_rfl) rfl (opensL_cons (by kernel_rfl) (zoa yc) (opensL_one (by kernel_rfl) (zoa yc)))) conv2) (opensL_cons (by kernel_rfl) (zoa yc) (opensL_one (by kernel_rfl) (zoa yc)))))
theorem op61:Opens yd 61 (rI3 .i8):=zCb (zZd (k:=1) (ps:=[(60,0),(60,1),(60,2)]) Tryz.underlying61 (by kernel_rfl) (by kernel_rfl) rfl (opensL_cons (by kernel_rfl) (zoa ye) (opensL_cons (by kernel_rfl) (zoa ye) (opensL_one (by kernel_rfl) (zoa ye))))) conv3
theorem laid:laidOutB yd=true:=by kernel_rfl
theorem gS : yd.globalNamed "fiducial/shutter.signs" = some 0 := by kernel_rfl
theorem tS:(yd.globals[0]?).map (·.type)=some 138:=by kernel_rfl
abbrev rSg:=rS (rI3 .i64)
abbrev vSg:List (Int×Int×Int)→DU→Prop:=slV (V3i .i64)
theorem o140:OpensV yd 140 (rI3 .i64) (V3i .i64):=opensV_conv (opensV_struct (ps:=[(3,0),(3,1),(3,2)]) Tryz.underlying140 (by kernel_rfl) rfl (opensLV_cons (by kernel_rfl) (opensV_int yc) (opensLV_cons (by kernel_rfl) (opensV_int yc) (opensLV_one (by kernel_rfl) (opensV_int yc))))) convV3
theorem o136:OpensV yd 136 rSg vSg:=opensV_slice Tryz.underlying136 (by kernel_rfl) (by decide) o140
theorem o137:OpensV yd 137 (rP rSg (rP rSg rSg)) (agV (lVc vSg (lVc vSg (lV1 vSg)))):=opensV_array (k:=1) (ps:=[(136,0),(136,1),(136,2)]) Tryz.underlying137 (by kernel_rfl) (by kernel_rfl) rfl (opensLV_cons (by kernel_rfl) o136 (opensLV_cons (by kernel_rfl) o136 (opensLV_one (by kernel_rfl) o136)))
theorem o138:OpensV yd 138 (rP (rP rSg (rP rSg rSg)) (rP (rP rSg (rP rSg rSg)) (rP rSg (rP rSg rSg)))) (agV (lVc (agV (lVc vSg (lVc vSg (lV1 vSg)))) (lVc (agV (lVc vSg (lVc vSg (lV1 vSg)))) (lV1 (agV (lVc vSg (lVc vSg (lV1 vSg)))))))):=opensV_array (k:=3) (ps:=[(137,0),(137,3),(137,6)]) Tryz.underlying138 (by kernel_rfl) (by kernel_rfl) rfl (opensLV_cons (by kernel_rfl) o137 (opensLV_cons (by kernel_rfl) o137 (opensLV_one (by kernel_rfl) o137)))
theorem signs {W : World} (h : laidMetH yd [("fiducial/shutter.signs", Rows.laid_fiducial_shutter_signs)] W) : sgF.on (whole W) := by
  have h2 : laidMet yd [("fiducial/shutter.signs", Rows.laid_fiducial_shutter_signs)] W := h
  obtain ⟨y,γ,hV,hvar,hok⟩:=laid_open gS tS o138 h2
  obtain ⟨⟨l0,l1,l2⟩,⟨l3,l4,l5⟩,l6,l7,l8⟩:=y
  obtain ⟨⟨g0,g1,g2⟩,⟨g3,g4,g5⟩,g6,g7,g8⟩:=γ
  obtain ⟨ds,hds,hV⟩:=hV
  obtain rfl:=DataW.agg.inj hds
  obtain ⟨⟨d1,e1,h1⟩,⟨d2,e2,h2⟩,d3,e3,h3⟩:=hV
  obtain rfl:=DataW.agg.inj e1
  obtain rfl:=DataW.agg.inj e2
  obtain rfl:=DataW.agg.inj e3
  obtain ⟨k0,k1,k2⟩:=h1
  obtain ⟨k3,k4,k5⟩:=h2
  obtain ⟨k6,k7,k8⟩:=h3
  obtain rfl:l0=Sh.sg00:=slV_is k0 rfl
  obtain rfl:l1=Sh.sg01:=slV_is k1 rfl
  obtain rfl:l2=Sh.sg02:=slV_is k2 rfl
  obtain rfl:l3=Sh.sg10:=slV_is k3 rfl
  obtain rfl:l4=Sh.sg11:=slV_is k4 rfl
  obtain rfl:l5=Sh.sg12:=slV_is k5 rfl
  obtain rfl:l6=Sh.sg20:=slV_is k6 rfl
  obtain rfl:l7=Sh.sg21:=slV_is k7 rfl
  obtain rfl:l8=Sh.sg22:=slV_is k8 rfl
  obtain ⟨⟨a0,a1,a2⟩,⟨a3,a4,a5⟩,a6,a7,a8⟩:=hok
  exact ⟨((g0,g1,g2),(g3,g4,g5),g6,g7,g8),at_of_var gS hvar,a0,a1,a2,a3,a4,a5,a6,a7,a8,trivial⟩
theorem door_met (os : Os) (args : Array Value) : laidMetH yd [("fiducial/shutter.signs", Rows.laid_fiducial_shutter_signs)] ((World.doorLaid yd 50 os).forCall (fun _ _ => 0) ⟨#[], args, []⟩).memory :=
  laidMetH_of_parts3 (fuel:=8) (laidMet_of_run' 8 (by kernel_rfl) (by kernel_rfl)) (by kernel_rfl) (by kernel_rfl)
theorem reads (os:Os) {H:Type} (enc:TypeId×Value→H):∃places,DataW.whole enc yd ((World.doorLaid yd 50 os).forCall (fun _ _=>0) ⟨#[],#[.agg #[.int .i64 0,.int .i64 0,.int .i64 0,.int .i64 0,.int .i64 0,.int .i64 0,.int .i64 0,.int .i64 0,.int .i64 0,.int .i64 0,.int .i64 0,.int .i64 0,.int .i64 0,.int .i64 0,.int .i64 0,.int .i64 0,.int .i64 0,.int .i64 0],.agg #[.int .i64 0,.int .i64 0,.int .i64 0,.int .i64 0,.int .i64 0,.int .i64 0,.int .i64 0],.agg #[.int .i8 0,.int .i8 0,.int .i8 0]],[]⟩).memory Tryz.f5.params.toList Rows.shutterMovesSpec.vars false #[.agg #[.int .i64 0,.int .i64 0,.int .i64 0,.int .i64 0,.int .i64 0,.int .i64 0,.int .i64 0,.int .i64 0,.int .i64 0,.int .i64 0,.int .i64 0,.int .i64 0,.int .i64 0,.int .i64 0,.int .i64 0,.int .i64 0,.int .i64 0,.int .i64 0],.agg #[.int .i64 0,.int .i64 0,.int .i64 0,.int .i64 0,.int .i64 0,.int .i64 0,.int .i64 0],.agg #[.int .i8 0,.int .i8 0,.int .i8 0]].toList 8=some ([.agg [.lit (.int .i64 0),.lit (.int .i64 0),.agg [.lit (.int .i64 0),.agg [.lit (.int .i64 0),.lit (.int .i64 0),.lit (.int .i64 0)],.agg [.lit (.int .i64 0),.lit (.int .i64 0),.lit (.int .i64 0),.lit (.int .i64 0)]],.agg [.lit (.int .i64 0),.agg [.lit (.int .i64 0),.lit (.int .i64 0),.lit (.int .i64 0)],.agg [.lit (.int .i64 0),.lit (.int .i64 0),.lit (.int .i64 0),.lit (.int .i64 0)]]],.agg [.agg [.lit (.int .i64 0),.agg [.lit (.int .i64 0),.lit (.int .i64 0)]],.agg [.lit (.int .i64 0),.lit (.int .i64 0)],.lit (.int .i64 0),.lit (.int .i64 0)],.agg [.lit (.int .i8 0),.lit (.int .i8 0),.lit (.int .i8 0)]],[],places):=⟨[],by kernel_rfl⟩
set_option maxHeartbeats 2000000 in
theorem lifted (os:Os) (started:os.Started) (H:Type) (enc:TypeId×Value→H) (F:Stop.Interp):
    ReturnsInHanded {} Tryz.checked os 5 .any ((OpenSpec.ofChange Rows.shutterMovesSpec).preRow enc yd Tryz.f5 Rows.shutterMovesRow.domain false Rows.shutterMovesRow.laid) (((OpenSpec.ofChange Rows.shutterMovesSpec).at F).post enc yd Tryz.f5 false true false false):=by
  obtain ⟨places,hx⟩:=reads os enc
  refine returnsInHanded_of_row (C:=Tryz.checked) (s:=OpenSpec.ofChange Rows.shutterMovesSpec) (show ownKnob yd.godebug=none by kernel_rfl) started (by kernel_rfl) Tryz.func5
    (witness_row_atRef (enc:=enc) (C:=Tryz.checked) false (World.doorLaid yd 50 os) #[.agg #[.int .i64 0,.int .i64 0,.int .i64 0,.int .i64 0,.int .i64 0,.int .i64 0,.int .i64 0,.int .i64 0,.int .i64 0,.int .i64 0,.int .i64 0,.int .i64 0,.int .i64 0,.int .i64 0,.int .i64 0,.int .i64 0,.int .i64 0,.int .i64 0],.agg #[.int .i64 0,.int .i64 0,.int .i64 0,.int .i64 0,.int .i64 0,.int .i64 0,.int .i64 0],.agg #[.int .i8 0,.int .i8 0,.int .i8 0]] rfl (by kernel_rfl) (by kernel_rfl) (by kernel_rfl) (OpenSpec.preRow_of_cond 8 hx (by kernel_rfl) (fun k hk=>by cases hk) (by kernel_rfl) (door_met os _))) ?_
  intro W base args ds gs before hval0 hW hcnd hk _ hL _ _
  have hval:∀(j:Nat) t v,Tryz.f5.params[j]? =some t→args[j]? =some v→Value.okWide yd W .any base t v:=hval0
  have hW':=hW
  obtain ⟨p,q,hA0,hV,rfl,hfz,hnd⟩:=hW
  have hA:DataW.TrodAll enc yd W 0 (fun _=>true) true Tryz.f5.params.toList args.toList ds p:=hA0
  rw [Tryz.params5] at hA hval
  obtain ⟨v0,v1,v2,d0,d1,d2,p0,p1,p2,rfl,rfl,rfl,h0,h1,h2⟩:=trodAll_three hA
  obtain ⟨rfl,rfl⟩:=trodVars_none hV
  obtain ⟨⟨a00,a01,⟨a020,⟨a021a,a021b,a021c⟩,⟨a0220,a0221,a0222,a0223⟩⟩,⟨a030,⟨a031a,a031b,a031c⟩,⟨a0320,a0321,a0322,a0323⟩⟩⟩,⟨_,_,⟨_,_,⟨_,_,_,_⟩⟩,⟨_,_,⟨_,_,_,_⟩⟩⟩,rfl,o0⟩:=zFd op29 ⟨_,Tryz.underlying29⟩ (hval 0 29 v0 rfl rfl) h0
  obtain ⟨⟨⟨a100,⟨a101a,a101b⟩⟩,⟨a11a,a11b⟩,a12,a13⟩,⟨⟨_,_⟩,_,_,_⟩,rfl,o1⟩:=zFd op39 ⟨_,Tryz.underlying39⟩ (hval 1 39 v1 rfl rfl) h1
  obtain ⟨⟨a2a,a2b,a2c⟩,_,rfl,o2⟩:=zKe op61 Tryz.underlying61 (hval 2 61 v2 rfl rfl) h2
  clear hA0 hval0
  simp only [List.append_nil] at hW'
  refine zLe (s:=Rows.shutterMovesSpec) laid (by kernel_rfl) rfl (by kernel_rfl) Tryz.underlying4 hW' ⟨rfl,rfl,rfl⟩ ?_ (zFc (s:=⟨a00,a01,a020,a021a,a021b,a021c,a0220,a0221,a0222,a0223,a030,a031a,a031b,a031c,a0320,a0321,a0322,a0323⟩) (cm:=⟨a100,a101a,a101b⟩) (zt.1 o0.1) (zt.1 o0.2.1) (zt.1 o0.2.2.1.1) (zt.1 o0.2.2.2.1) (zt.1 o0.2.2.1.2.1.1) (zt.1 o0.2.2.1.2.1.2.1) (zt.1 o0.2.2.1.2.1.2.2) (zt.1 o0.2.2.1.2.2.1) (zt.1 o0.2.2.1.2.2.2.1) (zt.1 o0.2.2.1.2.2.2.2.1) (zt.1 o0.2.2.1.2.2.2.2.2) (zt.1 o0.2.2.2.2.1.1) (zt.1 o0.2.2.2.2.1.2.1) (zt.1 o0.2.2.2.2.1.2.2) (zt.1 o0.2.2.2.2.2.1) (zt.1 o0.2.2.2.2.2.2.1) (zt.1 o0.2.2.2.2.2.2.2.1) (zt.1 o0.2.2.2.2.2.2.2.2) (zt.1 o1.1.1) (zt.1 o1.1.2.1) (zt.1 o1.1.2.2) (zt.1 o1.2.1.1) (zt.1 o1.2.1.2) (zt.1 o1.2.2.1) (zt.1 o1.2.2.2) (zhf.1 o2.1) (zhf.1 o2.2.1) (zhf.1 o2.2.2))
  exact ⟨signs hL,trivial⟩
theorem said:Rows.ShutterMovesSaid:=
  OpenClaim.holds_of_cond 5 Tryz.f5 rfl rfl rfl rfl rfl rfl rfl ⟨rfl,rfl,rfl,rfl,rfl⟩ rfl rfl rfl rfl rfl (by kernel_rfl) Tryz.func5 (by kernel_rfl)
    (of_decide_eq_true (by kernel_rfl)) (by unfold Func.isWrapper;first|(rw [if_pos (by decide +kernel)];kernel_rfl)|(rw [if_neg (by decide +kernel)];exact ⟨rfl,rfl⟩))
    (fun os started H enc _ F=>by rw [OpenClaim.pre_eq_preRow];exact lifted os started H enc F)
theorem plain (f : FuncId) (fn : Func) (hf : Tryz.pinned.checked.prog.funcNamed "fiducial/fiduciallaw19.ShutterMoves" = some f) (hfn : Tryz.pinned.checked.prog.funcs[f]? = some fn) :
    false=Tryz.pinned.checked.prog.looks []∧∀(j:Nat) t,fn.params[j]? =some t→Tryz.pinned.checked.prog.wantsStandIn t=false:=by
  obtain rfl : f = 5 := Option.some.inj ((show yd.funcNamed "fiducial/fiduciallaw19.ShutterMoves" = some 5 by kernel_rfl).symm.trans hf) |>.symm
  obtain rfl:fn=Tryz.f5:=(Option.some.inj (Tryz.func5.symm.trans hfn)).symm
  refine ⟨by kernel_rfl,fun j t ht=> ?_⟩
  rw [Tryz.params5] at ht
  have hm:=Array.mem_of_getElem? ht
  simp only [List.mem_toArray,List.mem_cons,List.not_mem_nil,or_false] at hm
  rcases hm with rfl|rfl|rfl
  · exact (show yd.wantsStandIn 29=false by kernel_rfl)
  · exact (show yd.wantsStandIn 39=false by kernel_rfl)
  · exact (show yd.wantsStandIn 61=false by kernel_rfl)
end LawShutterMoves
theorem provedShutterMoves:Rows.ShutterMovesCardSaid:=
  Claim7.holds_tied_plain_at .later [] _ _ _ _ LawShutterMoves.said (fun _ h=>by cases h) (by kernel_rfl) (fun _ h=>by cases h) shutterMoves_row_tie rfl ⟨rfl,rfl⟩ (by kernel_rfl) rfl LawShutterMoves.plain (by kernel_rfl)
end Go.Proofs.YtjeahiahjgifgaaGreatDoor
