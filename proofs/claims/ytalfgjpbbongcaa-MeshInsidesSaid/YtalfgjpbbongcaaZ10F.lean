/- Lemmas on the walk and plain lemmas that the claim of this folder uses; each states its own conditions. Lines were printed by a program of ours. -/
import Derived.Test.YtalfgjpbbongcaaZ10E
set_option linter.unusedVariables false
set_option linter.unusedSimpArgs false
set_option linter.unusedSectionVars false
namespace Go.Proofs.Ytalfgjpbbongcaa.Sp
open Go
set_option linter.unusedVariables false
set_option maxRecDepth 100000
set_option maxHeartbeats 1000000
theorem zAe {ex:Int} {ey:Int} {ez:Int} {wa0:Wd} {wa1:Wd} {wa2:Wd} {fx:Int} {fy:Int} {fz:Int} {wb0:Wd} {wb1:Wd} {wb2:Wd} {gx:Int} {gy:Int} {gz:Int} {wd0:Wd} {wd1:Wd} {wd2:Wd} (hlex:Big.ln ex≤10) (hley:Big.ln ey≤10) (hlez:Big.ln ez≤10) (hlfx:Big.ln fx≤10) (hlfy:Big.ln fy≤10) (hlfz:Big.ln fz≤10) (hlgx:Big.ln gx≤10) (hlgy:Big.ln gy≤10) (hlgz:Big.ln gz≤10):Con Try.prog 80 [.agg #[wa0.b,wa0.l,wa1.b,wa1.l,wa2.b,wa2.l],.agg #[wb0.b,wb0.l,wb1.b,wb1.l,wb2.b,wb2.l],.agg #[wd0.b,wd0.l,wd1.b,wd1.l,wd2.b,wd2.l]] [] [zF wa0 ex,zF wa1 ey,zF wa2 ez,zF wb0 fx,zF wb1 fy,zF wb2 fz,zF wd0 gx,zF wd1 gy,zF wd2 gz] (Y:=Unit) (fun y=>True) (fun y=> .bool (Ms.holds (ex,ey,ez) (fx,fy,fz) (gx,gy,gz))) (fun y=>[]) (fun y=>[]):=by
 refine zB Try.func80 rfl rfl rfl (fun c=> ?_)
 show RunC _ _ _ _ _ [(0,.agg #[wa0.b,wa0.l,wa1.b,wa1.l,wa2.b,wa2.l]),(1,.agg #[wb0.b,wb0.l,wb1.b,wb1.l,wb2.b,wb2.l]),(2,.agg #[wd0.b,wd0.l,wd1.b,wd1.l,wd2.b,wd2.l])] [] [zF wa0 ex,zF wa1 ey,zF wa2 ez,zF wb0 fx,zF wb1 fy,zF wb2 fz,zF wd0 gx,zF wd1 gy,zF wd2 gz]
 have hca0:Big.ln (ey*fz - ez*fy)≤21:=Big.zU (by omega) (by omega) (by omega) (by omega)
 have hca1:Big.ln (ez*fx - ex*fz)≤21:=Big.zU (by omega) (by omega) (by omega) (by omega)
 have hca2:Big.ln (ex*fy - ey*fx)≤21:=Big.zU (by omega) (by omega) (by omega) (by omega)
 have hcb0:Big.ln (fy*gz - fz*gy)≤21:=Big.zU (by omega) (by omega) (by omega) (by omega)
 have hcb1:Big.ln (fz*gx - fx*gz)≤21:=Big.zU (by omega) (by omega) (by omega) (by omega)
 have hcb2:Big.ln (fx*gy - fy*gx)≤21:=Big.zU (by omega) (by omega) (by omega) (by omega)
 have hcc0:Big.ln (gy*ez - gz*ey)≤21:=Big.zU (by omega) (by omega) (by omega) (by omega)
 have hcc1:Big.ln (gz*ex - gx*ez)≤21:=Big.zU (by omega) (by omega) (by omega) (by omega)
 have hcc2:Big.ln (gx*ey - gy*ex)≤21:=Big.zU (by omega) (by omega) (by omega) (by omega)
 have hm0:Big.ln ((fy*gz - fz*gy)+(gy*ez - gz*ey))≤22:=by have h2:=Big.zab (fy*gz - fz*gy) (gy*ez - gz*ey);omega
 have hm1:Big.ln ((fz*gx - fx*gz)+(gz*ex - gx*ez))≤22:=by have h2:=Big.zab (fz*gx - fx*gz) (gz*ex - gx*ez);omega
 have hm2:Big.ln ((fx*gy - fy*gx)+(gx*ey - gy*ex))≤22:=by have h2:=Big.zab (fx*gy - fy*gx) (gx*ey - gy*ex);omega
 have hn0:Big.ln ((ey*fz - ez*fy)+((fy*gz - fz*gy)+(gy*ez - gz*ey)))≤23:=by have h1:=Big.zab (ey*fz - ez*fy) ((fy*gz - fz*gy)+(gy*ez - gz*ey));have h2:=Big.zab (fy*gz - fz*gy) (gy*ez - gz*ey);omega
 have hn1:Big.ln ((ez*fx - ex*fz)+((fz*gx - fx*gz)+(gz*ex - gx*ez)))≤23:=by have h1:=Big.zab (ez*fx - ex*fz) ((fz*gx - fx*gz)+(gz*ex - gx*ez));have h2:=Big.zab (fz*gx - fx*gz) (gz*ex - gx*ez);omega
 have hn2:Big.ln ((ex*fy - ey*fx)+((fx*gy - fy*gx)+(gx*ey - gy*ex)))≤23:=by have h1:=Big.zab (ex*fy - ey*fx) ((fx*gy - fy*gx)+(gx*ey - gy*ex));have h2:=Big.zab (fx*gy - fy*gx) (gx*ey - gy*ex);omega
 have hd0:=Big.zQb (ex,ey,ez) ((fy*gz - fz*gy),(fz*gx - fx*gz),(fx*gy - fy*gx)) (by dsimp only;omega) (by dsimp only;omega) (by dsimp only;omega) (by dsimp only;omega) (by dsimp only;omega) (by dsimp only;omega)
 have hd1:=Big.zQb ((ey*fz - ez*fy),(ez*fx - ex*fz),(ex*fy - ey*fx)) (((ey*fz - ez*fy)+((fy*gz - fz*gy)+(gy*ez - gz*ey))),((ez*fx - ex*fz)+((fz*gx - fx*gz)+(gz*ex - gx*ez))),((ex*fy - ey*fx)+((fx*gy - fy*gx)+(gx*ey - gy*ex)))) (by dsimp only;omega) (by dsimp only;omega) (by dsimp only;omega) (by dsimp only;omega) (by dsimp only;omega) (by dsimp only;omega)
 have hd2:=Big.zQb ((fy*gz - fz*gy),(fz*gx - fx*gz),(fx*gy - fy*gx)) (((ey*fz - ez*fy)+((fy*gz - fz*gy)+(gy*ez - gz*ey))),((ez*fx - ex*fz)+((fz*gx - fx*gz)+(gz*ex - gx*ez))),((ex*fy - ey*fx)+((fx*gy - fy*gx)+(gx*ey - gy*ex)))) (by dsimp only;omega) (by dsimp only;omega) (by dsimp only;omega) (by dsimp only;omega) (by dsimp only;omega) (by dsimp only;omega)
 have hd3:=Big.zQb ((gy*ez - gz*ey),(gz*ex - gx*ez),(gx*ey - gy*ex)) (((ey*fz - ez*fy)+((fy*gz - fz*gy)+(gy*ez - gz*ey))),((ez*fx - ex*fz)+((fz*gx - fx*gz)+(gz*ex - gx*ez))),((ex*fy - ey*fx)+((fx*gy - fy*gx)+(gx*ey - gy*ex)))) (by dsimp only;omega) (by dsimp only;omega) (by dsimp only;omega) (by dsimp only;omega) (by dsimp only;omega) (by dsimp only;omega)
 refine zh<|c_addF (zF wz 0) (fun g _=>zF_zero g)<|za<|zS rfl rfl (zca rfl rfl) (fun b1=> ?_)
 refine zS rfl rfl (zca rfl rfl) (fun b2=> ?_)
 refine zS rfl rfl (zca rfl rfl) (fun b3=> ?_)
 refine r_pv rfl rfl (ze rfl)<|zj<|zc<|zh<|za<|r_pv rfl rfl (zK zr89 rfl Try.underlying89 sz34 .n .n)<|zS rfl rfl (zn zr89 rfl) (fun b4=> ?_)
 refine zx 0 rfl rfl rfl rfl rfl sz89 rfl (.take (.take (.take (.take (.take (.take .nil)))))) .z<|zj<|zc<|zh<|zla (OW:=[]) (O:=[boxA b4 89 [.bool false,.slice none 0 0,.bool false,.slice none 0 0,.bool false,.slice none 0 0],boxA b3 89 [wd0.b,wd0.l,wd1.b,wd1.l,wd2.b,wd2.l],boxA b2 89 [wb0.b,wb0.l,wb1.b,wb1.l,wb2.b,wb2.l],boxA b1 89 [wa0.b,wa0.l,wa1.b,wa1.l,wa2.b,wa2.l]]) 12 mixed (.then .ret) (by kernel_rfl)<|d_u 0 rfl rfl (by kernel_rfl) (by kernel_rfl) rfl rfl (zf 3 ty89 rfl rfl (.take (.take (.take (.take (.take (.take .nil)))))))<|d_u 1 rfl rfl (by kernel_rfl) (by kernel_rfl) rfl rfl (zf 2 ty89 rfl rfl (.take (.take (.take (.take (.take (.take .nil)))))))<|d_u 3 rfl rfl (by kernel_rfl) (by kernel_rfl) rfl rfl (zf 2 ty89 rfl rfl (.take (.take (.take (.take (.take (.take .nil)))))))<|d_u 4 rfl rfl (by kernel_rfl) (by kernel_rfl) rfl rfl (zf 1 ty89 rfl rfl (.take (.take (.take (.take (.take (.take .nil)))))))<|d_u 6 rfl rfl (by kernel_rfl) (by kernel_rfl) rfl rfl (zf 1 ty89 rfl rfl (.take (.take (.take (.take (.take (.take .nil)))))))<|d_u 7 rfl rfl (by kernel_rfl) (by kernel_rfl) rfl rfl (zf 3 ty89 rfl rfl (.take (.take (.take (.take (.take (.take .nil)))))))<|zPb (m':=[(21,.agg #[wa0.b,wa0.l,wa1.b,wa1.l,wa2.b,wa2.l]),(20,.agg #[wd0.b,wd0.l,wd1.b,wd1.l,wd2.b,wd2.l]),(18,.agg #[wd0.b,wd0.l,wd1.b,wd1.l,wd2.b,wd2.l]),(17,.agg #[wb0.b,wb0.l,wb1.b,wb1.l,wb2.b,wb2.l]),(15,.agg #[wb0.b,wb0.l,wb1.b,wb1.l,wb2.b,wb2.l]),(14,.agg #[wa0.b,wa0.l,wa1.b,wa1.l,wa2.b,wa2.l]),(7,.pointer (some ⟨b4,0,none⟩)),(6,.bool false),(5,.pointer (some ⟨b3,0,none⟩)),(4,.pointer (some ⟨b2,0,none⟩)),(3,.pointer (some ⟨b1,0,none⟩))]) (R':=[zF wz 0,zF wa0 ex,zF wa1 ey,zF wa2 ez,zF wb0 fx,zF wb1 fy,zF wb2 fz,zF wd0 gx,zF wd1 gy,zF wd2 gz]) ((.of rfl):SubM _ _) (List.Perm.refl _) (List.Perm.refl _) ((.of [0,1,2,3,4,5,6,7,8,9] rfl):SelR _ _ _)<|zL (X:=Wd×Wd×Wd×Wd×Wd×Wd×Wd×Wd×Wd×Nat×Nat×Nat) (k':=0) (L':=(lb 15 32767)) (fun (u2_1,u2_2,u2_3,u5_1,u5_2,u5_3,u8_1,u8_2,u8_3,u9_1,u10_1,u11_1)=>([(10,.pointer (some ⟨u11_1,0,none⟩)),(9,.pointer (some ⟨u10_1,0,none⟩)),(8,.pointer (some ⟨u9_1,0,none⟩)),(7,.pointer (some ⟨b4,0,none⟩)),(6,.bool false),(5,.pointer (some ⟨b3,0,none⟩)),(4,.pointer (some ⟨b2,0,none⟩)),(3,.pointer (some ⟨b1,0,none⟩))],[boxA u11_1 89 (cw [u8_1,u8_2,u8_3]),boxA u10_1 89 (cw [u5_1,u5_2,u5_3]),boxA u9_1 89 (cw [u2_1,u2_2,u2_3])],[boxA b4 89 [.bool false,.slice none 0 0,.bool false,.slice none 0 0,.bool false,.slice none 0 0],boxA b3 89 (cw [wd0,wd1,wd2]),boxA b2 89 (cw [wb0,wb1,wb2]),boxA b1 89 (cw [wa0,wa1,wa2])],[zF u8_1 (gy*ez - gz*ey),zF u8_2 (gz*ex - gx*ez),zF u8_3 (gx*ey - gy*ex),zF u5_1 (fy*gz - fz*gy),zF u5_2 (fz*gx - fx*gz),zF u5_3 (fx*gy - fy*gx),zF u2_1 (ey*fz - ez*fy),zF u2_2 (ez*fx - ex*fz),zF u2_3 (ex*fy - ey*fx),zF wz 0,zF wa0 ex,zF wa1 ey,zF wa2 ez,zF wb0 fx,zF wb1 fy,zF wb2 fz,zF wd0 gx,zF wd1 gy,zF wd2 gz])) ?_ (fun hD0=> ?_)
 ·
  rintro ⟨u2_1,u2_2,u2_3,u5_1,u5_2,u5_3,u8_1,u8_2,u8_3,u9_1,u10_1,u11_1⟩
  dsimp only [cw]
  refine zma (by kernel_rfl)<|zc<|zh<|zh<|za<|r_pv rfl rfl (zb rfl)<|zj<|zc<|zr<|zSa<|zQ<|zh<|za<|r_pv rfl rfl (zD rfl rfl)<|zj<|zc<|zh<|zT rfl rfl<|zw<|zc<|zh<|zr<|zh<|za<|r_pv rfl rfl (zb rfl)<|r_pv rfl rfl (ze rfl)<|zj<|zc<|zgb (.c (i:=3) rfl (.c (i:=0) rfl (.c (i:=0) rfl (.c (i:=0) rfl (.c (i:=0) rfl (.c (i:=0) rfl (.c (i:=0) rfl .n)))))))<|zla (OW:=[boxA b4 89 [.bool false,.slice none 0 0,.bool false,.slice none 0 0,.bool false,.slice none 0 0]]) (O:=[boxA u11_1 89 [u8_1.b,u8_1.l,u8_2.b,u8_2.l,u8_3.b,u8_3.l],boxA u10_1 89 [u5_1.b,u5_1.l,u5_2.b,u5_2.l,u5_3.b,u5_3.l],boxA u9_1 89 [u2_1.b,u2_1.l,u2_2.b,u2_2.l,u2_3.b,u2_3.l],boxA b3 89 [wd0.b,wd0.l,wd1.b,wd1.l,wd2.b,wd2.l],boxA b2 89 [wb0.b,wb0.l,wb1.b,wb1.l,wb2.b,wb2.l],boxA b1 89 [wa0.b,wa0.l,wa1.b,wa1.l,wa2.b,wa2.l]]) 13 mixed (.block (.then (.then (.block (.then .ret))))) (by kernel_rfl)<|d_pv 0 rfl rfl (by kernel_rfl) (by kernel_rfl) rfl rfl (zb rfl)<|d_pv 1 rfl rfl (by kernel_rfl) (by kernel_rfl) rfl rfl (zb rfl)<|d_pv 2 rfl rfl (by kernel_rfl) (by kernel_rfl) rfl rfl (zg (i:=0) Try.underlying89 sz34 rfl rfl (by decide) rfl)<|d_uw 3 rfl rfl (by kernel_rfl) (by kernel_rfl) (by kernel_rfl) rfl rfl (zf 3 ty34 rfl rfl (.take (.take .nil)))<|d_pv 4 rfl rfl (by kernel_rfl) (by kernel_rfl) rfl rfl (zb rfl)<|d_pv 5 rfl rfl (by kernel_rfl) (by kernel_rfl) rfl rfl (zg (i:=0) Try.underlying89 sz34 rfl rfl (by decide) rfl)<|d_uw 6 rfl rfl (by kernel_rfl) (by kernel_rfl) (by kernel_rfl) rfl rfl (zf 2 ty34 rfl rfl (.take (.take .nil)))<|d_pv 7 rfl rfl (by kernel_rfl) (by kernel_rfl) rfl rfl (zb rfl)<|d_pv 8 rfl rfl (by kernel_rfl) (by kernel_rfl) rfl rfl (zg (i:=0) Try.underlying89 sz34 rfl rfl (by decide) rfl)<|d_uw 9 rfl rfl (by kernel_rfl) (by kernel_rfl) (by kernel_rfl) rfl rfl (zf 1 ty34 rfl rfl (.take (.take .nil)))<|zE 10 (by kernel_rfl) (zu rfl rfl rfl rfl (.c rfl (.c rfl .n)) ce59 (zlb (w1:=u5_1) (w2:=u8_1) (x1:=(fy*gz - fz*gy)) (x2:=(gy*ez - gz*ey)) (hb1:=by omega) (hb2:=by omega)) (.c (j:=3) rfl (.c (j:=0) rfl .n)) ?_)
  rintro w35 -
  dsimp only [List.append_eq,List.nil_append,List.cons_append]
  refine zE 11 (by kernel_rfl) (zu rfl rfl rfl rfl (.c rfl (.c rfl .n)) ce59 (zlb (w1:=u2_1) (w2:=w35) (x1:=(ey*fz - ez*fy)) (x2:=(fy*gz - fz*gy)+(gy*ez - gz*ey)) (hb1:=by omega) (hb2:=by omega)) (.c (j:=7) rfl (.c (j:=0) rfl .n)) ?_)
  rintro w36 -
  dsimp only [List.append_eq,List.nil_append,List.cons_append]
  refine d_pv 12 rfl rfl (by kernel_rfl) (by kernel_rfl) rfl rfl (zg (i:=0) Try.underlying89 sz34 rfl rfl (by decide) rfl)<|zE 13 (by kernel_rfl) (zM (by kernel_rfl) rfl rfl rfl rfl rfl sz34 rfl (.take (.take .nil)) ?_)
  refine zma (by kernel_rfl)<|zA<|zc<|za<|r_pv rfl rfl (zC (z:=1) rfl rfl (w64 (by decide)))<|r_pv rfl rfl (zb rfl)<|zj<|zba<|zQ<|zh<|za<|r_pv rfl rfl (zD rfl rfl)<|zj<|zc<|zh<|zT rfl rfl<|zw<|zc<|zh<|zr<|zh<|za<|r_pv rfl rfl (zb rfl)<|r_pv rfl rfl (ze rfl)<|zj<|zc<|zla (OW:=[boxA b4 89 [w36.b,w36.l,.bool false,.slice none 0 0,.bool false,.slice none 0 0]]) (O:=[boxA u11_1 89 [u8_1.b,u8_1.l,u8_2.b,u8_2.l,u8_3.b,u8_3.l],boxA u10_1 89 [u5_1.b,u5_1.l,u5_2.b,u5_2.l,u5_3.b,u5_3.l],boxA u9_1 89 [u2_1.b,u2_1.l,u2_2.b,u2_2.l,u2_3.b,u2_3.l],boxA b3 89 [wd0.b,wd0.l,wd1.b,wd1.l,wd2.b,wd2.l],boxA b2 89 [wb0.b,wb0.l,wb1.b,wb1.l,wb2.b,wb2.l],boxA b1 89 [wa0.b,wa0.l,wa1.b,wa1.l,wa2.b,wa2.l]]) 13 mixed (.block (.then (.then (.block (.then .ret))))) (by kernel_rfl)<|d_pv 0 rfl rfl (by kernel_rfl) (by kernel_rfl) rfl rfl (zb rfl)<|d_pv 1 rfl rfl (by kernel_rfl) (by kernel_rfl) rfl rfl (zb rfl)<|d_pv 2 rfl rfl (by kernel_rfl) (by kernel_rfl) rfl rfl (zg (i:=1) Try.underlying89 sz34 rfl rfl (by decide) rfl)<|d_uw 3 rfl rfl (by kernel_rfl) (by kernel_rfl) (by kernel_rfl) rfl rfl (zf 3 ty34 rfl rfl (.skip (.skip (.take (.take .nil)))))<|d_pv 4 rfl rfl (by kernel_rfl) (by kernel_rfl) rfl rfl (zb rfl)<|d_pv 5 rfl rfl (by kernel_rfl) (by kernel_rfl) rfl rfl (zg (i:=1) Try.underlying89 sz34 rfl rfl (by decide) rfl)<|d_uw 6 rfl rfl (by kernel_rfl) (by kernel_rfl) (by kernel_rfl) rfl rfl (zf 2 ty34 rfl rfl (.skip (.skip (.take (.take .nil)))))<|d_pv 7 rfl rfl (by kernel_rfl) (by kernel_rfl) rfl rfl (zb rfl)<|d_pv 8 rfl rfl (by kernel_rfl) (by kernel_rfl) rfl rfl (zg (i:=1) Try.underlying89 sz34 rfl rfl (by decide) rfl)<|d_uw 9 rfl rfl (by kernel_rfl) (by kernel_rfl) (by kernel_rfl) rfl rfl (zf 1 ty34 rfl rfl (.skip (.skip (.take (.take .nil)))))<|zE 10 (by kernel_rfl) (zu rfl rfl rfl rfl (.c rfl (.c rfl .n)) ce59 (zlb (w1:=u5_2) (w2:=u8_2) (x1:=(fz*gx - fx*gz)) (x2:=(gz*ex - gx*ez)) (hb1:=by omega) (hb2:=by omega)) (.c (j:=6) rfl (.c (j:=3) rfl .n)) ?_)
  rintro w37 -
  dsimp only [List.append_eq,List.nil_append,List.cons_append]
  refine zE 11 (by kernel_rfl) (zu rfl rfl rfl rfl (.c rfl (.c rfl .n)) ce59 (zlb (w1:=u2_2) (w2:=w37) (x1:=(ez*fx - ex*fz)) (x2:=(fz*gx - fx*gz)+(gz*ex - gx*ez)) (hb1:=by omega) (hb2:=by omega)) (.c (j:=10) rfl (.c (j:=0) rfl .n)) ?_)
  rintro w38 -
  dsimp only [List.append_eq,List.nil_append,List.cons_append]
  refine d_pv 12 rfl rfl (by kernel_rfl) (by kernel_rfl) rfl rfl (zg (i:=1) Try.underlying89 sz34 rfl rfl (by decide) rfl)<|zE 13 (by kernel_rfl) (zM (by kernel_rfl) rfl rfl rfl rfl rfl sz34 rfl (.skip (.skip (.take (.take .nil)))) ?_)
  refine zma (by kernel_rfl)<|zA<|zc<|za<|r_pv rfl rfl (zC (z:=2) rfl rfl (w64 (by decide)))<|r_pv rfl rfl (zb rfl)<|zj<|zba<|zQ<|zh<|za<|r_pv rfl rfl (zD rfl rfl)<|zj<|zc<|zh<|zT rfl rfl<|zw<|zc<|zh<|zr<|zh<|za<|r_pv rfl rfl (zb rfl)<|r_pv rfl rfl (ze rfl)<|zj<|zc<|zla (OW:=[boxA b4 89 [w36.b,w36.l,w38.b,w38.l,.bool false,.slice none 0 0]]) (O:=[boxA u11_1 89 [u8_1.b,u8_1.l,u8_2.b,u8_2.l,u8_3.b,u8_3.l],boxA u10_1 89 [u5_1.b,u5_1.l,u5_2.b,u5_2.l,u5_3.b,u5_3.l],boxA u9_1 89 [u2_1.b,u2_1.l,u2_2.b,u2_2.l,u2_3.b,u2_3.l],boxA b3 89 [wd0.b,wd0.l,wd1.b,wd1.l,wd2.b,wd2.l],boxA b2 89 [wb0.b,wb0.l,wb1.b,wb1.l,wb2.b,wb2.l],boxA b1 89 [wa0.b,wa0.l,wa1.b,wa1.l,wa2.b,wa2.l]]) 13 mixed (.block (.then (.then (.block (.then .ret))))) (by kernel_rfl)<|d_pv 0 rfl rfl (by kernel_rfl) (by kernel_rfl) rfl rfl (zb rfl)<|d_pv 1 rfl rfl (by kernel_rfl) (by kernel_rfl) rfl rfl (zb rfl)<|d_pv 2 rfl rfl (by kernel_rfl) (by kernel_rfl) rfl rfl (zg (i:=2) Try.underlying89 sz34 rfl rfl (by decide) rfl)<|d_uw 3 rfl rfl (by kernel_rfl) (by kernel_rfl) (by kernel_rfl) rfl rfl (zf 3 ty34 rfl rfl (.skip (.skip (.skip (.skip (.take (.take .nil)))))))<|d_pv 4 rfl rfl (by kernel_rfl) (by kernel_rfl) rfl rfl (zb rfl)<|d_pv 5 rfl rfl (by kernel_rfl) (by kernel_rfl) rfl rfl (zg (i:=2) Try.underlying89 sz34 rfl rfl (by decide) rfl)<|d_uw 6 rfl rfl (by kernel_rfl) (by kernel_rfl) (by kernel_rfl) rfl rfl (zf 2 ty34 rfl rfl (.skip (.skip (.skip (.skip (.take (.take .nil)))))))<|d_pv 7 rfl rfl (by kernel_rfl) (by kernel_rfl) rfl rfl (zb rfl)<|d_pv 8 rfl rfl (by kernel_rfl) (by kernel_rfl) rfl rfl (zg (i:=2) Try.underlying89 sz34 rfl rfl (by decide) rfl)<|d_uw 9 rfl rfl (by kernel_rfl) (by kernel_rfl) (by kernel_rfl) rfl rfl (zf 1 ty34 rfl rfl (.skip (.skip (.skip (.skip (.take (.take .nil)))))))<|zE 10 (by kernel_rfl) (zu rfl rfl rfl rfl (.c rfl (.c rfl .n)) ce59 (zlb (w1:=u5_3) (w2:=u8_3) (x1:=(fx*gy - fy*gx)) (x2:=(gx*ey - gy*ex)) (hb1:=by omega) (hb2:=by omega)) (.c (j:=9) rfl (.c (j:=6) rfl .n)) ?_)
  rintro w39 -
  dsimp only [List.append_eq,List.nil_append,List.cons_append]
  refine zE 11 (by kernel_rfl) (zu rfl rfl rfl rfl (.c rfl (.c rfl .n)) ce59 (zlb (w1:=u2_3) (w2:=w39) (x1:=(ex*fy - ey*fx)) (x2:=(fx*gy - fy*gx)+(gx*ey - gy*ex)) (hb1:=by omega) (hb2:=by omega)) (.c (j:=13) rfl (.c (j:=0) rfl .n)) ?_)
  rintro w310 -
  dsimp only [List.append_eq,List.nil_append,List.cons_append]
  refine d_pv 12 rfl rfl (by kernel_rfl) (by kernel_rfl) rfl rfl (zg (i:=2) Try.underlying89 sz34 rfl rfl (by decide) rfl)<|zE 13 (by kernel_rfl) (zM (by kernel_rfl) rfl rfl rfl rfl rfl sz34 rfl (.skip (.skip (.skip (.skip (.take (.take .nil)))))) ?_)
  refine zma (by kernel_rfl)<|zA<|zc<|za<|r_pv rfl rfl (zC (z:=3) rfl rfl (w64 (by decide)))<|r_pv rfl rfl (zb rfl)<|zj<|zba<|zQ<|zh<|za<|r_pv rfl rfl (zD rfl rfl)<|zj<|zc<|zh<|zva rfl rfl<|zaa<|zk<|zk<|zt<|zc<|zh<|zh<|za<|r_u rfl rfl (zf 6 ty89 rfl rfl (.take (.take (.take (.take (.take (.take .nil)))))))<|r_u rfl rfl (zf 2 ty89 rfl rfl (.take (.take (.take (.take (.take (.take .nil)))))))<|zea rfl rfl (.c rfl (.c rfl .n)) ce60 (zjb (ex:=ex) (ey:=ey) (ez:=ez) (wa0:=wa0) (wa1:=wa1) (wa2:=wa2) (fx:=(fy*gz - fz*gy)) (fy:=(fz*gx - fx*gz)) (fz:=(fx*gy - fy*gx)) (wb0:=u5_1) (wb1:=u5_2) (wb2:=u5_3) (hlex:=by omega) (hley:=by omega) (hlez:=by omega) (hlfx:=by omega) (hlfy:=by omega) (hlfz:=by omega)) (.c (j:=16) rfl (.c (j:=17) rfl (.c (j:=18) rfl (.c (j:=9) rfl (.c (j:=10) rfl (.c (j:=11) rfl .n)))))) ?_
  rintro w311 -
  dsimp only [List.append_eq,List.nil_append,List.cons_append]
  refine zY rfl rfl (.c rfl .n) ce81 (zVa (w1:=w311) (x1:=Ms.dot (ex,ey,ez) ((fy*gz - fz*gy),(fz*gx - fx*gz),(fx*gy - fy*gx)))) (.c (j:=0) rfl .n)<|r_pv rfl rfl (zZa rfl rfl)<|zj<|zc<|zI rfl (fun hdet=> ?_) (fun hdet=> ?_)
  ·
   refine zh<|za<|r_pv rfl rfl (ze rfl)<|zj<|zc<|zP<|zl ?_
   exact zG Try.results80 () trivial (zz rfl) (congrArg Value.bool (Ms.holds_1 hdet)) (ho:=(.n:PickO _ _ _)) (.n:SelR _ _ _)
  ·
   refine zw<|zc<|zh<|zh<|za<|r_u rfl rfl (zf 0 ty89 rfl rfl (.take (.take (.take (.take (.take (.take .nil)))))))<|zY rfl rfl (.c rfl .n) ce102 (zAd (ex:=(ey*fz - ez*fy)+((fy*gz - fz*gy)+(gy*ez - gz*ey))) (ey:=(ez*fx - ex*fz)+((fz*gx - fx*gz)+(gz*ex - gx*ez))) (ez:=(ex*fy - ey*fx)+((fx*gy - fy*gx)+(gx*ey - gy*ex))) (wa0:=w36) (wa1:=w38) (wa2:=w310) (hlex:=by omega) (hley:=by omega) (hlez:=by omega)) (.c (j:=5) rfl (.c (j:=3) rfl (.c (j:=1) rfl .n)))<|r_pv rfl rfl (zpc rfl)<|zj<|zc<|zI rfl (fun hz=> ?_) (fun hz=> ?_)
   ·
    refine zLa (X:=Unit) (fun x=>True) (fun x=>[(6,.bool (decide (((0≤(Ms.dot ((ey*fz - ez*fy),(ez*fx - ex*fz),(ex*fy - ey*fx)) (((ey*fz - ez*fy)+((fy*gz - fz*gy)+(gy*ez - gz*ey))),((ez*fx - ex*fz)+((fz*gx - fx*gz)+(gz*ex - gx*ez))),((ex*fy - ey*fx)+((fx*gy - fy*gx)+(gx*ey - gy*ex))))).sign)∧(0≤(Ms.dot ((fy*gz - fz*gy),(fz*gx - fx*gz),(fx*gy - fy*gx)) (((ey*fz - ez*fy)+((fy*gz - fz*gy)+(gy*ez - gz*ey))),((ez*fx - ex*fz)+((fz*gx - fx*gz)+(gz*ex - gx*ez))),((ex*fy - ey*fx)+((fx*gy - fy*gx)+(gx*ey - gy*ex))))).sign))∧(0≤(Ms.dot ((gy*ez - gz*ey),(gz*ex - gx*ez),(gx*ey - gy*ex)) (((ey*fz - ez*fy)+((fy*gz - fz*gy)+(gy*ez - gz*ey))),((ez*fx - ex*fz)+((fz*gx - fx*gz)+(gz*ex - gx*ez))),((ex*fy - ey*fx)+((fx*gy - fy*gx)+(gx*ey - gy*ex))))).sign)))),(10,.pointer (some ⟨u11_1,0,none⟩)),(9,.pointer (some ⟨u10_1,0,none⟩)),(8,.pointer (some ⟨u9_1,0,none⟩)),(5,.pointer (some ⟨b3,0,none⟩)),(4,.pointer (some ⟨b2,0,none⟩)),(3,.pointer (some ⟨b1,0,none⟩))]) (fun x=>[boxA b4 89 (cw [w36,w38,w310]),boxA u11_1 89 (cw [u8_1,u8_2,u8_3]),boxA u10_1 89 (cw [u5_1,u5_2,u5_3]),boxA u9_1 89 (cw [u2_1,u2_2,u2_3]),boxA b3 89 (cw [wd0,wd1,wd2]),boxA b2 89 (cw [wb0,wb1,wb2]),boxA b1 89 (cw [wa0,wa1,wa2])]) (fun x=>[zF w311 (Ms.dot (ex,ey,ez) ((fy*gz - fz*gy),(fz*gx - fx*gz),(fx*gy - fy*gx))),zF w310 ((ex*fy - ey*fx)+((fx*gy - fy*gx)+(gx*ey - gy*ex))),zF w39 ((fx*gy - fy*gx)+(gx*ey - gy*ex)),zF w38 ((ez*fx - ex*fz)+((fz*gx - fx*gz)+(gz*ex - gx*ez))),zF w37 ((fz*gx - fx*gz)+(gz*ex - gx*ez)),zF w36 ((ey*fz - ez*fy)+((fy*gz - fz*gy)+(gy*ez - gz*ey))),zF w35 ((fy*gz - fz*gy)+(gy*ez - gz*ey)),zF u8_1 (gy*ez - gz*ey),zF u8_2 (gz*ex - gx*ez),zF u8_3 (gx*ey - gy*ex),zF u5_1 (fy*gz - fz*gy),zF u5_2 (fz*gx - fx*gz),zF u5_3 (fx*gy - fy*gx),zF u2_1 (ey*fz - ez*fy),zF u2_2 (ez*fx - ex*fz),zF u2_3 (ex*fy - ey*fx),zF wz 0,zF wa0 ex,zF wa1 ey,zF wa2 ez,zF wb0 fx,zF wb1 fy,zF wb2 fz,zF wd0 gx,zF wd1 gy,zF wd2 gz]) ?_ ?_
    ·
     refine za<|r_u rfl rfl (zf 3 ty89 rfl rfl (.take (.take (.take (.take (.take (.take .nil)))))))<|r_u rfl rfl (zf 0 ty89 rfl rfl (.take (.take (.take (.take (.take (.take .nil)))))))<|zea rfl rfl (.c rfl (.c rfl .n)) ce60 (zjb (ex:=(ey*fz - ez*fy)) (ey:=(ez*fx - ex*fz)) (ez:=(ex*fy - ey*fx)) (wa0:=u2_1) (wa1:=u2_2) (wa2:=u2_3) (fx:=(ey*fz - ez*fy)+((fy*gz - fz*gy)+(gy*ez - gz*ey))) (fy:=(ez*fx - ex*fz)+((fz*gx - fx*gz)+(gz*ex - gx*ez))) (fz:=(ex*fy - ey*fx)+((fx*gy - fy*gx)+(gx*ey - gy*ex))) (wb0:=w36) (wb1:=w38) (wb2:=w310) (hlex:=by omega) (hley:=by omega) (hlez:=by omega) (hlfx:=by omega) (hlfy:=by omega) (hlfz:=by omega)) (.c (j:=13) rfl (.c (j:=14) rfl (.c (j:=15) rfl (.c (j:=5) rfl (.c (j:=3) rfl (.c (j:=1) rfl .n)))))) ?_
     rintro w312 -
     dsimp only [List.append_eq,List.nil_append,List.cons_append]
     refine zY rfl rfl (.c rfl .n) ce81 (zVa (w1:=w312) (x1:=Ms.dot ((ey*fz - ez*fy),(ez*fx - ex*fz),(ex*fy - ey*fx)) (((ey*fz - ez*fy)+((fy*gz - fz*gy)+(gy*ez - gz*ey))),((ez*fx - ex*fz)+((fz*gx - fx*gz)+(gz*ex - gx*ez))),((ex*fy - ey*fx)+((fx*gy - fy*gx)+(gx*ey - gy*ex)))))) (.c (j:=0) rfl .n)<|r_pv rfl rfl (zeb rfl rfl)<|zZ rfl rfl (zb rfl) (fun h13=> ?_) (fun h13=> ?_)
     ·
      refine r_u rfl rfl (zf 2 ty89 rfl rfl (.take (.take (.take (.take (.take (.take .nil)))))))<|r_u rfl rfl (zf 0 ty89 rfl rfl (.take (.take (.take (.take (.take (.take .nil)))))))<|zea rfl rfl (.c rfl (.c rfl .n)) ce60 (zjb (ex:=(fy*gz - fz*gy)) (ey:=(fz*gx - fx*gz)) (ez:=(fx*gy - fy*gx)) (wa0:=u5_1) (wa1:=u5_2) (wa2:=u5_3) (fx:=(ey*fz - ez*fy)+((fy*gz - fz*gy)+(gy*ez - gz*ey))) (fy:=(ez*fx - ex*fz)+((fz*gx - fx*gz)+(gz*ex - gx*ez))) (fz:=(ex*fy - ey*fx)+((fx*gy - fy*gx)+(gx*ey - gy*ex))) (wb0:=w36) (wb1:=w38) (wb2:=w310) (hlex:=by omega) (hley:=by omega) (hlez:=by omega) (hlfx:=by omega) (hlfy:=by omega) (hlfz:=by omega)) (.c (j:=11) rfl (.c (j:=12) rfl (.c (j:=13) rfl (.c (j:=6) rfl (.c (j:=4) rfl (.c (j:=2) rfl .n)))))) ?_
      rintro w314 -
      dsimp only [List.append_eq,List.nil_append,List.cons_append]
      refine zY rfl rfl (.c rfl .n) ce81 (zVa (w1:=w314) (x1:=Ms.dot ((fy*gz - fz*gy),(fz*gx - fx*gz),(fx*gy - fy*gx)) (((ey*fz - ez*fy)+((fy*gz - fz*gy)+(gy*ez - gz*ey))),((ez*fx - ex*fz)+((fz*gx - fx*gz)+(gz*ex - gx*ez))),((ex*fy - ey*fx)+((fx*gy - fy*gx)+(gx*ey - gy*ex)))))) (.c (j:=0) rfl .n)<|r_pv rfl rfl (zeb rfl rfl)<|r_pv rfl rfl (zy rfl rfl)<|zZ rfl rfl (zb rfl) (fun h15=> ?_) (fun h15=> ?_)
      ·
       refine r_u rfl rfl (zf 1 ty89 rfl rfl (.take (.take (.take (.take (.take (.take .nil)))))))<|r_u rfl rfl (zf 0 ty89 rfl rfl (.take (.take (.take (.take (.take (.take .nil)))))))<|zea rfl rfl (.c rfl (.c rfl .n)) ce60 (zjb (ex:=(gy*ez - gz*ey)) (ey:=(gz*ex - gx*ez)) (ez:=(gx*ey - gy*ex)) (wa0:=u8_1) (wa1:=u8_2) (wa2:=u8_3) (fx:=(ey*fz - ez*fy)+((fy*gz - fz*gy)+(gy*ez - gz*ey))) (fy:=(ez*fx - ex*fz)+((fz*gx - fx*gz)+(gz*ex - gx*ez))) (fz:=(ex*fy - ey*fx)+((fx*gy - fy*gx)+(gx*ey - gy*ex))) (wb0:=w36) (wb1:=w38) (wb2:=w310) (hlex:=by omega) (hley:=by omega) (hlez:=by omega) (hlfx:=by omega) (hlfy:=by omega) (hlfz:=by omega)) (.c (j:=9) rfl (.c (j:=10) rfl (.c (j:=11) rfl (.c (j:=7) rfl (.c (j:=5) rfl (.c (j:=3) rfl .n)))))) ?_
       rintro w316 -
       dsimp only [List.append_eq,List.nil_append,List.cons_append]
       refine zY rfl rfl (.c rfl .n) ce81 (zVa (w1:=w316) (x1:=Ms.dot ((gy*ez - gz*ey),(gz*ex - gx*ez),(gx*ey - gy*ex)) (((ey*fz - ez*fy)+((fy*gz - fz*gy)+(gy*ez - gz*ey))),((ez*fx - ex*fz)+((fz*gx - fx*gz)+(gz*ex - gx*ez))),((ex*fy - ey*fx)+((fx*gy - fy*gx)+(gx*ey - gy*ex)))))) (.c (j:=0) rfl .n)<|r_pv rfl rfl (zeb rfl rfl)<|r_pv rfl rfl (zy rfl rfl)<|r_pv rfl rfl (ze rfl)<|zj ?_
       exact zfa () (show True from by first|trivial|omega|simp_all) ((.e rfl (congrArg Value.bool (by first|(simp_all;done)|(simp_all;omega)|(simp;omega)|omega)) (.of rfl)):SubM _ _) (ho:=((.of [0,0,0,0,0,0,0] rfl):PickO _ _ _)) ((.of [3,4,5,6,7,8,9,10,11,12,13,14,15,16,17,18,19,20,21,22,23,24,25,26,27,28] rfl):SelR _ _ _)
      ·
       refine zi rfl rfl<|zi rfl rfl<|zi rfl rfl<|zi rfl rfl<|zi rfl rfl<|r_pv rfl rfl (zy rfl rfl)<|r_pv rfl rfl (ze rfl)<|zj ?_
       exact zfa () (show True from by first|trivial|omega|simp_all) ((.e rfl (congrArg Value.bool (by first|(simp_all;done)|(simp_all;omega)|(simp;omega)|omega)) (.of rfl)):SubM _ _) (ho:=((.of [0,0,0,0,0,0,0] rfl):PickO _ _ _)) ((.of [2,3,4,5,6,7,8,9,10,11,12,13,14,15,16,17,18,19,20,21,22,23,24,25,26,27] rfl):SelR _ _ _)
     ·
      refine zi rfl rfl<|zi rfl rfl<|zi rfl rfl<|zi rfl rfl<|zi rfl rfl<|r_pv rfl rfl (zy rfl rfl)<|r_pv rfl rfl (zb rfl)<|zi rfl rfl<|zi rfl rfl<|zi rfl rfl<|zi rfl rfl<|zi rfl rfl<|r_pv rfl rfl (zy rfl rfl)<|r_pv rfl rfl (ze rfl)<|zj ?_
      exact zfa () (show True from by first|trivial|omega|simp_all) ((.e rfl (congrArg Value.bool (by first|(simp_all;done)|(simp_all;omega)|(simp;omega)|omega)) (.of rfl)):SubM _ _) (ho:=((.of [0,0,0,0,0,0,0] rfl):PickO _ _ _)) ((.of [1,2,3,4,5,6,7,8,9,10,11,12,13,14,15,16,17,18,19,20,21,22,23,24,25,26] rfl):SelR _ _ _)
    ·
     rintro ⟨⟩ -
     try dsimp only [cw]
     refine zP<|zl ?_
     exact zG Try.results80 () trivial (zz rfl) (congrArg Value.bool (Ms.holds_2 (Decidable.not_not.1 hdet) hz)) (ho:=(.n:PickO _ _ _)) (.n:SelR _ _ _)
   ·
    refine zw<|zc<|zh<|za<|r_pv rfl rfl (ze rfl)<|zj<|zc<|zLa (X:=Unit) (fun x=>True) (fun x=>[(6,.bool (decide (((Ms.dot ((ey*fz - ez*fy),(ez*fx - ex*fz),(ex*fy - ey*fx)) ((ey*fz - ez*fy),(ez*fx - ex*fz),(ex*fy - ey*fx))=0∧Ms.dot (ex,ey,ez) (fx,fy,fz)≤0)∨(Ms.dot ((fy*gz - fz*gy),(fz*gx - fx*gz),(fx*gy - fy*gx)) ((fy*gz - fz*gy),(fz*gx - fx*gz),(fx*gy - fy*gx))=0∧Ms.dot (fx,fy,fz) (gx,gy,gz)≤0))∨(Ms.dot ((gy*ez - gz*ey),(gz*ex - gx*ez),(gx*ey - gy*ex)) ((gy*ez - gz*ey),(gz*ex - gx*ez),(gx*ey - gy*ex))=0∧Ms.dot (gx,gy,gz) (ex,ey,ez)≤0))))]) (fun x=>[boxA b4 89 (cw [w36,w38,w310]),boxA u11_1 89 (cw [u8_1,u8_2,u8_3]),boxA u10_1 89 (cw [u5_1,u5_2,u5_3]),boxA u9_1 89 (cw [u2_1,u2_2,u2_3]),boxA b3 89 (cw [wd0,wd1,wd2]),boxA b2 89 (cw [wb0,wb1,wb2]),boxA b1 89 (cw [wa0,wa1,wa2])]) (fun x=>[zF w311 (Ms.dot (ex,ey,ez) ((fy*gz - fz*gy),(fz*gx - fx*gz),(fx*gy - fy*gx))),zF w310 ((ex*fy - ey*fx)+((fx*gy - fy*gx)+(gx*ey - gy*ex))),zF w39 ((fx*gy - fy*gx)+(gx*ey - gy*ex)),zF w38 ((ez*fx - ex*fz)+((fz*gx - fx*gz)+(gz*ex - gx*ez))),zF w37 ((fz*gx - fx*gz)+(gz*ex - gx*ez)),zF w36 ((ey*fz - ez*fy)+((fy*gz - fz*gy)+(gy*ez - gz*ey))),zF w35 ((fy*gz - fz*gy)+(gy*ez - gz*ey)),zF u8_1 (gy*ez - gz*ey),zF u8_2 (gz*ex - gx*ez),zF u8_3 (gx*ey - gy*ex),zF u5_1 (fy*gz - fz*gy),zF u5_2 (fz*gx - fx*gz),zF u5_3 (fx*gy - fy*gx),zF u2_1 (ey*fz - ez*fy),zF u2_2 (ez*fx - ex*fz),zF u2_3 (ex*fy - ey*fx),zF wz 0,zF wa0 ex,zF wa1 ey,zF wa2 ez,zF wb0 fx,zF wb1 fy,zF wb2 fz,zF wd0 gx,zF wd1 gy,zF wd2 gz]) ?_ ?_
    ·
     refine za<|r_pv rfl rfl (zb rfl)<|r_u rfl rfl (zf 6 ty89 rfl rfl (.take (.take (.take (.take (.take (.take .nil)))))))<|r_u rfl rfl (zf 5 ty89 rfl rfl (.take (.take (.take (.take (.take (.take .nil)))))))<|r_u rfl rfl (zf 3 ty89 rfl rfl (.take (.take (.take (.take (.take (.take .nil)))))))<|zjc (first:=[]) (cap:=[]) rfl rfl rfl (.c rfl (.c rfl (.c rfl .n))) ce103 (zfc (ex:=ex) (ey:=ey) (ez:=ez) (wa0:=wa0) (wa1:=wa1) (wa2:=wa2) (fx:=fx) (fy:=fy) (fz:=fz) (wb0:=wb0) (wb1:=wb1) (wb2:=wb2) (gx:=(ey*fz - ez*fy)) (gy:=(ez*fx - ex*fz)) (gz:=(ex*fy - ey*fx)) (wd0:=u2_1) (wd1:=u2_2) (wd2:=u2_3) (hlex:=by omega) (hley:=by omega) (hlez:=by omega) (hlfx:=by omega) (hlfy:=by omega) (hlfz:=by omega) (hlgx:=by omega) (hlgy:=by omega) (hlgz:=by omega)) (.c (j:=17) rfl (.c (j:=18) rfl (.c (j:=19) rfl (.c (j:=20) rfl (.c (j:=21) rfl (.c (j:=22) rfl (.c (j:=13) rfl (.c (j:=14) rfl (.c (j:=15) rfl .n))))))))) ?_
     rintro ⟨⟩ -
     dsimp only [List.append_eq,List.nil_append,List.cons_append]
     refine zZ rfl rfl (zb rfl) (fun h17=> ?_) (fun h17=> ?_)
     ·
      refine zi rfl rfl<|zi rfl rfl<|zi rfl rfl<|zi rfl rfl<|zi rfl rfl<|r_pv rfl rfl (zy rfl rfl)<|r_pv rfl rfl (zb rfl)<|zi rfl rfl<|zi rfl rfl<|zi rfl rfl<|zi rfl rfl<|zi rfl rfl<|r_pv rfl rfl (zy rfl rfl)<|r_pv rfl rfl (ze rfl)<|zj ?_
      exact zfa () (show True from by first|trivial|omega|simp_all) ((.e rfl (congrArg Value.bool (by first|(simp_all;done)|(simp_all;omega)|(simp;omega)|omega)) .n):SubM _ _) (ho:=((.of [0,0,0,0,0,0,0] rfl):PickO _ _ _)) ((.of [0,1,2,3,4,5,6,7,8,9,10,11,12,13,14,15,16,17,18,19,20,21,22,23,24,25] rfl):SelR _ _ _)
     ·
      refine r_pv rfl rfl (zb rfl)<|r_u rfl rfl (zf 5 ty89 rfl rfl (.take (.take (.take (.take (.take (.take .nil)))))))<|r_u rfl rfl (zf 4 ty89 rfl rfl (.take (.take (.take (.take (.take (.take .nil)))))))<|r_u rfl rfl (zf 2 ty89 rfl rfl (.take (.take (.take (.take (.take (.take .nil)))))))<|zjc (first:=[]) (cap:=[]) rfl rfl rfl (.c rfl (.c rfl (.c rfl .n))) ce103 (zfc (ex:=fx) (ey:=fy) (ez:=fz) (wa0:=wb0) (wa1:=wb1) (wa2:=wb2) (fx:=gx) (fy:=gy) (fz:=gz) (wb0:=wd0) (wb1:=wd1) (wb2:=wd2) (gx:=(fy*gz - fz*gy)) (gy:=(fz*gx - fx*gz)) (gz:=(fx*gy - fy*gx)) (wd0:=u5_1) (wd1:=u5_2) (wd2:=u5_3) (hlex:=by omega) (hley:=by omega) (hlez:=by omega) (hlfx:=by omega) (hlfy:=by omega) (hlfz:=by omega) (hlgx:=by omega) (hlgy:=by omega) (hlgz:=by omega)) (.c (j:=20) rfl (.c (j:=21) rfl (.c (j:=22) rfl (.c (j:=23) rfl (.c (j:=24) rfl (.c (j:=25) rfl (.c (j:=10) rfl (.c (j:=11) rfl (.c (j:=12) rfl .n))))))))) ?_
      rintro ⟨⟩ -
      dsimp only [List.append_eq,List.nil_append,List.cons_append]
      refine r_pv rfl rfl (zy rfl rfl)<|zZ rfl rfl (zb rfl) (fun h18=> ?_) (fun h18=> ?_)
      ·
       refine zi rfl rfl<|zi rfl rfl<|zi rfl rfl<|zi rfl rfl<|zi rfl rfl<|r_pv rfl rfl (zy rfl rfl)<|r_pv rfl rfl (ze rfl)<|zj ?_
       exact zfa () (show True from by first|trivial|omega|simp_all) ((.e rfl (congrArg Value.bool (by first|(simp_all;done)|(simp_all;omega)|(simp;omega)|omega)) .n):SubM _ _) (ho:=((.of [0,0,0,0,0,0,0] rfl):PickO _ _ _)) ((.of [0,1,2,3,4,5,6,7,8,9,10,11,12,13,14,15,16,17,18,19,20,21,22,23,24,25] rfl):SelR _ _ _)
      ·
       refine r_pv rfl rfl (zb rfl)<|r_u rfl rfl (zf 4 ty89 rfl rfl (.take (.take (.take (.take (.take (.take .nil)))))))<|r_u rfl rfl (zf 6 ty89 rfl rfl (.take (.take (.take (.take (.take (.take .nil)))))))<|r_u rfl rfl (zf 1 ty89 rfl rfl (.take (.take (.take (.take (.take (.take .nil)))))))<|zjc (first:=[]) (cap:=[]) rfl rfl rfl (.c rfl (.c rfl (.c rfl .n))) ce103 (zfc (ex:=gx) (ey:=gy) (ez:=gz) (wa0:=wd0) (wa1:=wd1) (wa2:=wd2) (fx:=ex) (fy:=ey) (fz:=ez) (wb0:=wa0) (wb1:=wa1) (wb2:=wa2) (gx:=(gy*ez - gz*ey)) (gy:=(gz*ex - gx*ez)) (gz:=(gx*ey - gy*ex)) (wd0:=u8_1) (wd1:=u8_2) (wd2:=u8_3) (hlex:=by omega) (hley:=by omega) (hlez:=by omega) (hlfx:=by omega) (hlfy:=by omega) (hlfz:=by omega) (hlgx:=by omega) (hlgy:=by omega) (hlgz:=by omega)) (.c (j:=23) rfl (.c (j:=24) rfl (.c (j:=25) rfl (.c (j:=17) rfl (.c (j:=18) rfl (.c (j:=19) rfl (.c (j:=7) rfl (.c (j:=8) rfl (.c (j:=9) rfl .n))))))))) ?_
       rintro ⟨⟩ -
       dsimp only [List.append_eq,List.nil_append,List.cons_append]
       refine r_pv rfl rfl (zy rfl rfl)<|r_pv rfl rfl (ze rfl)<|zj ?_
       exact zfa () (show True from by first|trivial|omega|simp_all) ((.e rfl (congrArg Value.bool (by first|(simp_all;done)|(simp_all;omega)|(simp;omega)|omega)) .n):SubM _ _) (ho:=((.of [0,0,0,0,0,0,0] rfl):PickO _ _ _)) ((.of [0,1,2,3,4,5,6,7,8,9,10,11,12,13,14,15,16,17,18,19,20,21,22,23,24,25] rfl):SelR _ _ _)
    ·
     rintro ⟨⟩ -
     try dsimp only [cw]
     refine zP ?_
     exact zG Try.results80 () trivial (zz rfl) (congrArg Value.bool (Ms.holds_3 (Decidable.not_not.1 hdet) (Decidable.not_not.1 hz))) (ho:=(.n:PickO _ _ _)) (.n:SelR _ _ _)
 refine zL (X:=Wd×Wd×Wd×Wd×Wd×Wd×Wd×Wd×Wd×Nat×Nat×Nat) (k':=1) (L':=(lb 15 16383)) (fun (u2_1,u2_2,u2_3,u5_1,u5_2,u5_3,u8_1,u8_2,u8_3,u9_1,u10_1,u11_1)=>([(10,.pointer (some ⟨u11_1,0,none⟩)),(9,.pointer (some ⟨u10_1,0,none⟩)),(8,.pointer (some ⟨u9_1,0,none⟩)),(22,.agg (cw [u8_1,u8_2,u8_3]).toArray),(7,.pointer (some ⟨b4,0,none⟩)),(6,.bool false),(5,.pointer (some ⟨b3,0,none⟩)),(4,.pointer (some ⟨b2,0,none⟩)),(3,.pointer (some ⟨b1,0,none⟩))],[boxA u10_1 89 (cw [u5_1,u5_2,u5_3]),boxA u9_1 89 (cw [u2_1,u2_2,u2_3]),boxA u11_1 89 [.bool false,.slice none 0 0,.bool false,.slice none 0 0,.bool false,.slice none 0 0]],[boxA b4 89 [.bool false,.slice none 0 0,.bool false,.slice none 0 0,.bool false,.slice none 0 0],boxA b3 89 (cw [wd0,wd1,wd2]),boxA b2 89 (cw [wb0,wb1,wb2]),boxA b1 89 (cw [wa0,wa1,wa2])],[zF u8_1 (gy*ez - gz*ey),zF u8_2 (gz*ex - gx*ez),zF u8_3 (gx*ey - gy*ex),zF u5_1 (fy*gz - fz*gy),zF u5_2 (fz*gx - fx*gz),zF u5_3 (fx*gy - fy*gx),zF u2_1 (ey*fz - ez*fy),zF u2_2 (ez*fx - ex*fz),zF u2_3 (ex*fy - ey*fx),zF wz 0,zF wa0 ex,zF wa1 ey,zF wa2 ez,zF wb0 fx,zF wb1 fy,zF wb2 fz,zF wd0 gx,zF wd1 gy,zF wd2 gz])) ?_ (fun hD1=> ?_)
 ·
  rintro ⟨u2_1,u2_2,u2_3,u5_1,u5_2,u5_3,u8_1,u8_2,u8_3,u9_1,u10_1,u11_1⟩
  dsimp only [cw]
  refine zE 14 (by kernel_rfl) ?_
  ·
   refine zzb (zia (i:=2) rfl)<|zM (by kernel_rfl) rfl rfl rfl rfl rfl sz89 rfl (.take (.take (.take (.take (.take (.take .nil)))))) ?_
   exact zp (hD0 (u2_1,u2_2,u2_3,u5_1,u5_2,u5_3,u8_1,u8_2,u8_3,u9_1,u10_1,u11_1)) (by kernel_rfl) ((.of rfl):SubM _ _) .rfl .rfl ((.of [0,1,2,3,4,5,6,7,8,9,10,11,12,13,14,15,16,17,18] rfl):SelR _ _ _)
 refine zL (X:=Wd×Wd×Wd×Wd×Wd×Wd×Wd×Wd×Wd×Nat×Nat×Nat) (k':=2) (L':=(lb 15 8191)) (fun (u2_1,u2_2,u2_3,u5_1,u5_2,u5_3,u8_1,u8_2,u8_3,u9_1,u10_1,u11_1)=>([(10,.pointer (some ⟨u11_1,0,none⟩)),(9,.pointer (some ⟨u10_1,0,none⟩)),(8,.pointer (some ⟨u9_1,0,none⟩)),(22,.agg (cw [u8_1,u8_2,u8_3]).toArray),(19,.agg (cw [u5_1,u5_2,u5_3]).toArray),(7,.pointer (some ⟨b4,0,none⟩)),(6,.bool false),(5,.pointer (some ⟨b3,0,none⟩)),(4,.pointer (some ⟨b2,0,none⟩)),(3,.pointer (some ⟨b1,0,none⟩))],[boxA u9_1 89 (cw [u2_1,u2_2,u2_3]),boxA u11_1 89 [.bool false,.slice none 0 0,.bool false,.slice none 0 0,.bool false,.slice none 0 0],boxA u10_1 89 [.bool false,.slice none 0 0,.bool false,.slice none 0 0,.bool false,.slice none 0 0]],[boxA b4 89 [.bool false,.slice none 0 0,.bool false,.slice none 0 0,.bool false,.slice none 0 0],boxA b3 89 (cw [wd0,wd1,wd2]),boxA b2 89 (cw [wb0,wb1,wb2]),boxA b1 89 (cw [wa0,wa1,wa2])],[zF u8_1 (gy*ez - gz*ey),zF u8_2 (gz*ex - gx*ez),zF u8_3 (gx*ey - gy*ex),zF u5_1 (fy*gz - fz*gy),zF u5_2 (fz*gx - fx*gz),zF u5_3 (fx*gy - fy*gx),zF u2_1 (ey*fz - ez*fy),zF u2_2 (ez*fx - ex*fz),zF u2_3 (ex*fy - ey*fx),zF wz 0,zF wa0 ex,zF wa1 ey,zF wa2 ez,zF wb0 fx,zF wb1 fy,zF wb2 fz,zF wd0 gx,zF wd1 gy,zF wd2 gz])) ?_ (fun hD2=> ?_)
 ·
  rintro ⟨u2_1,u2_2,u2_3,u5_1,u5_2,u5_3,u8_1,u8_2,u8_3,u9_1,u10_1,u11_1⟩
  dsimp only [cw]
  refine zE 13 (by kernel_rfl) ?_
  ·
   refine zzb (zia (i:=2) rfl)<|zM (by kernel_rfl) rfl rfl rfl rfl rfl sz89 rfl (.take (.take (.take (.take (.take (.take .nil)))))) ?_
   exact zp (hD1 (u2_1,u2_2,u2_3,u5_1,u5_2,u5_3,u8_1,u8_2,u8_3,u9_1,u10_1,u11_1)) (by kernel_rfl) ((.of rfl):SubM _ _) .rfl .rfl ((.of [0,1,2,3,4,5,6,7,8,9,10,11,12,13,14,15,16,17,18] rfl):SelR _ _ _)
 refine zL (X:=Wd×Wd×Wd×Wd×Wd×Wd×Wd×Wd×Wd×Nat×Nat×Nat) (k':=3) (L':=(lb 15 4095)) (fun (u2_1,u2_2,u2_3,u5_1,u5_2,u5_3,u8_1,u8_2,u8_3,u9_1,u10_1,u11_1)=>([(10,.pointer (some ⟨u11_1,0,none⟩)),(9,.pointer (some ⟨u10_1,0,none⟩)),(8,.pointer (some ⟨u9_1,0,none⟩)),(22,.agg (cw [u8_1,u8_2,u8_3]).toArray),(19,.agg (cw [u5_1,u5_2,u5_3]).toArray),(16,.agg (cw [u2_1,u2_2,u2_3]).toArray),(7,.pointer (some ⟨b4,0,none⟩)),(6,.bool false),(5,.pointer (some ⟨b3,0,none⟩)),(4,.pointer (some ⟨b2,0,none⟩)),(3,.pointer (some ⟨b1,0,none⟩))],[boxA u11_1 89 [.bool false,.slice none 0 0,.bool false,.slice none 0 0,.bool false,.slice none 0 0],boxA u10_1 89 [.bool false,.slice none 0 0,.bool false,.slice none 0 0,.bool false,.slice none 0 0],boxA u9_1 89 [.bool false,.slice none 0 0,.bool false,.slice none 0 0,.bool false,.slice none 0 0]],[boxA b4 89 [.bool false,.slice none 0 0,.bool false,.slice none 0 0,.bool false,.slice none 0 0],boxA b3 89 (cw [wd0,wd1,wd2]),boxA b2 89 (cw [wb0,wb1,wb2]),boxA b1 89 (cw [wa0,wa1,wa2])],[zF u8_1 (gy*ez - gz*ey),zF u8_2 (gz*ex - gx*ez),zF u8_3 (gx*ey - gy*ex),zF u5_1 (fy*gz - fz*gy),zF u5_2 (fz*gx - fx*gz),zF u5_3 (fx*gy - fy*gx),zF u2_1 (ey*fz - ez*fy),zF u2_2 (ez*fx - ex*fz),zF u2_3 (ex*fy - ey*fx),zF wz 0,zF wa0 ex,zF wa1 ey,zF wa2 ez,zF wb0 fx,zF wb1 fy,zF wb2 fz,zF wd0 gx,zF wd1 gy,zF wd2 gz])) ?_ (fun hD3=> ?_)
 ·
  rintro ⟨u2_1,u2_2,u2_3,u5_1,u5_2,u5_3,u8_1,u8_2,u8_3,u9_1,u10_1,u11_1⟩
  dsimp only [cw]
  refine zE 12 (by kernel_rfl) ?_
  ·
   refine zzb (zia (i:=2) rfl)<|zM (by kernel_rfl) rfl rfl rfl rfl rfl sz89 rfl (.take (.take (.take (.take (.take (.take .nil)))))) ?_
   exact zp (hD2 (u2_1,u2_2,u2_3,u5_1,u5_2,u5_3,u8_1,u8_2,u8_3,u9_1,u10_1,u11_1)) (by kernel_rfl) ((.of rfl):SubM _ _) .rfl .rfl ((.of [0,1,2,3,4,5,6,7,8,9,10,11,12,13,14,15,16,17,18] rfl):SelR _ _ _)
 refine zL (X:=Wd×Wd×Wd×Wd×Wd×Wd×Wd×Wd×Wd×Nat×Nat) (k':=4) (L':=(lb 15 2047)) (fun (u2_1,u2_2,u2_3,u5_1,u5_2,u5_3,u8_1,u8_2,u8_3,u9_1,u10_1)=>([(9,.pointer (some ⟨u10_1,0,none⟩)),(8,.pointer (some ⟨u9_1,0,none⟩)),(22,.agg (cw [u8_1,u8_2,u8_3]).toArray),(19,.agg (cw [u5_1,u5_2,u5_3]).toArray),(16,.agg (cw [u2_1,u2_2,u2_3]).toArray),(7,.pointer (some ⟨b4,0,none⟩)),(6,.bool false),(5,.pointer (some ⟨b3,0,none⟩)),(4,.pointer (some ⟨b2,0,none⟩)),(3,.pointer (some ⟨b1,0,none⟩))],[boxA u10_1 89 [.bool false,.slice none 0 0,.bool false,.slice none 0 0,.bool false,.slice none 0 0],boxA u9_1 89 [.bool false,.slice none 0 0,.bool false,.slice none 0 0,.bool false,.slice none 0 0]],[boxA b4 89 [.bool false,.slice none 0 0,.bool false,.slice none 0 0,.bool false,.slice none 0 0],boxA b3 89 (cw [wd0,wd1,wd2]),boxA b2 89 (cw [wb0,wb1,wb2]),boxA b1 89 (cw [wa0,wa1,wa2])],[zF u8_1 (gy*ez - gz*ey),zF u8_2 (gz*ex - gx*ez),zF u8_3 (gx*ey - gy*ex),zF u5_1 (fy*gz - fz*gy),zF u5_2 (fz*gx - fx*gz),zF u5_3 (fx*gy - fy*gx),zF u2_1 (ey*fz - ez*fy),zF u2_2 (ez*fx - ex*fz),zF u2_3 (ex*fy - ey*fx),zF wz 0,zF wa0 ex,zF wa1 ey,zF wa2 ez,zF wb0 fx,zF wb1 fy,zF wb2 fz,zF wd0 gx,zF wd1 gy,zF wd2 gz])) ?_ (fun hD4=> ?_)
 ·
  rintro ⟨u2_1,u2_2,u2_3,u5_1,u5_2,u5_3,u8_1,u8_2,u8_3,u9_1,u10_1⟩
  dsimp only [cw]
  refine zE 11 (by kernel_rfl) ?_
  ·
   refine zO rfl rfl rfl rfl (zn zr89 rfl) (fun u11_1 _=> ?_)
   exact zp (hD3 (u2_1,u2_2,u2_3,u5_1,u5_2,u5_3,u8_1,u8_2,u8_3,u9_1,u10_1,u11_1)) (by kernel_rfl) ((.of rfl):SubM _ _) .rfl .rfl ((.of [0,1,2,3,4,5,6,7,8,9,10,11,12,13,14,15,16,17,18] rfl):SelR _ _ _)
 refine zL (X:=Wd×Wd×Wd×Wd×Wd×Wd×Wd×Wd×Wd×Nat×Nat) (k':=4) (L':=(lb 15 3071)) (fun (u2_1,u2_2,u2_3,u5_1,u5_2,u5_3,u8_1,u8_2,u8_3,u9_1,u11_1)=>([(10,.pointer (some ⟨u11_1,0,none⟩)),(8,.pointer (some ⟨u9_1,0,none⟩)),(22,.agg (cw [u8_1,u8_2,u8_3]).toArray),(19,.agg (cw [u5_1,u5_2,u5_3]).toArray),(16,.agg (cw [u2_1,u2_2,u2_3]).toArray),(7,.pointer (some ⟨b4,0,none⟩)),(6,.bool false),(5,.pointer (some ⟨b3,0,none⟩)),(4,.pointer (some ⟨b2,0,none⟩)),(3,.pointer (some ⟨b1,0,none⟩))],[boxA u11_1 89 [.bool false,.slice none 0 0,.bool false,.slice none 0 0,.bool false,.slice none 0 0],boxA u9_1 89 [.bool false,.slice none 0 0,.bool false,.slice none 0 0,.bool false,.slice none 0 0]],[boxA b4 89 [.bool false,.slice none 0 0,.bool false,.slice none 0 0,.bool false,.slice none 0 0],boxA b3 89 (cw [wd0,wd1,wd2]),boxA b2 89 (cw [wb0,wb1,wb2]),boxA b1 89 (cw [wa0,wa1,wa2])],[zF u8_1 (gy*ez - gz*ey),zF u8_2 (gz*ex - gx*ez),zF u8_3 (gx*ey - gy*ex),zF u5_1 (fy*gz - fz*gy),zF u5_2 (fz*gx - fx*gz),zF u5_3 (fx*gy - fy*gx),zF u2_1 (ey*fz - ez*fy),zF u2_2 (ez*fx - ex*fz),zF u2_3 (ex*fy - ey*fx),zF wz 0,zF wa0 ex,zF wa1 ey,zF wa2 ez,zF wb0 fx,zF wb1 fy,zF wb2 fz,zF wd0 gx,zF wd1 gy,zF wd2 gz])) ?_ (fun hD5=> ?_)
 ·
  rintro ⟨u2_1,u2_2,u2_3,u5_1,u5_2,u5_3,u8_1,u8_2,u8_3,u9_1,u11_1⟩
  dsimp only [cw]
  refine zE 10 (by kernel_rfl) ?_
  ·
   refine zO rfl rfl rfl rfl (zn zr89 rfl) (fun u10_1 _=> ?_)
   exact zp (hD3 (u2_1,u2_2,u2_3,u5_1,u5_2,u5_3,u8_1,u8_2,u8_3,u9_1,u10_1,u11_1)) (by kernel_rfl) ((.of rfl):SubM _ _) (zR 1 rfl (zR 0 rfl (zR 0 rfl .nil))) .rfl ((.of [0,1,2,3,4,5,6,7,8,9,10,11,12,13,14,15,16,17,18] rfl):SelR _ _ _)
 refine zL (X:=Wd×Wd×Wd×Wd×Wd×Wd×Wd×Wd×Wd×Nat×Nat) (k':=4) (L':=(lb 15 3583)) (fun (u2_1,u2_2,u2_3,u5_1,u5_2,u5_3,u8_1,u8_2,u8_3,u10_1,u11_1)=>([(10,.pointer (some ⟨u11_1,0,none⟩)),(9,.pointer (some ⟨u10_1,0,none⟩)),(22,.agg (cw [u8_1,u8_2,u8_3]).toArray),(19,.agg (cw [u5_1,u5_2,u5_3]).toArray),(16,.agg (cw [u2_1,u2_2,u2_3]).toArray),(7,.pointer (some ⟨b4,0,none⟩)),(6,.bool false),(5,.pointer (some ⟨b3,0,none⟩)),(4,.pointer (some ⟨b2,0,none⟩)),(3,.pointer (some ⟨b1,0,none⟩))],[boxA u11_1 89 [.bool false,.slice none 0 0,.bool false,.slice none 0 0,.bool false,.slice none 0 0],boxA u10_1 89 [.bool false,.slice none 0 0,.bool false,.slice none 0 0,.bool false,.slice none 0 0]],[boxA b4 89 [.bool false,.slice none 0 0,.bool false,.slice none 0 0,.bool false,.slice none 0 0],boxA b3 89 (cw [wd0,wd1,wd2]),boxA b2 89 (cw [wb0,wb1,wb2]),boxA b1 89 (cw [wa0,wa1,wa2])],[zF u8_1 (gy*ez - gz*ey),zF u8_2 (gz*ex - gx*ez),zF u8_3 (gx*ey - gy*ex),zF u5_1 (fy*gz - fz*gy),zF u5_2 (fz*gx - fx*gz),zF u5_3 (fx*gy - fy*gx),zF u2_1 (ey*fz - ez*fy),zF u2_2 (ez*fx - ex*fz),zF u2_3 (ex*fy - ey*fx),zF wz 0,zF wa0 ex,zF wa1 ey,zF wa2 ez,zF wb0 fx,zF wb1 fy,zF wb2 fz,zF wd0 gx,zF wd1 gy,zF wd2 gz])) ?_ (fun hD6=> ?_)
 ·
  rintro ⟨u2_1,u2_2,u2_3,u5_1,u5_2,u5_3,u8_1,u8_2,u8_3,u10_1,u11_1⟩
  dsimp only [cw]
  refine zE 9 (by kernel_rfl) ?_
  ·
   refine zO rfl rfl rfl rfl (zn zr89 rfl) (fun u9_1 _=> ?_)
   exact zp (hD3 (u2_1,u2_2,u2_3,u5_1,u5_2,u5_3,u8_1,u8_2,u8_3,u9_1,u10_1,u11_1)) (by kernel_rfl) ((.of rfl):SubM _ _) (zR 1 rfl (zR 1 rfl (zR 0 rfl .nil))) .rfl ((.of [0,1,2,3,4,5,6,7,8,9,10,11,12,13,14,15,16,17,18] rfl):SelR _ _ _)
 refine zL (X:=Wd×Wd×Wd×Wd×Wd×Wd×Nat×Nat×Nat) (k':=4) (L':=(lb 15 3839)) (fun (u2_1,u2_2,u2_3,u5_1,u5_2,u5_3,u9_1,u10_1,u11_1)=>([(10,.pointer (some ⟨u11_1,0,none⟩)),(9,.pointer (some ⟨u10_1,0,none⟩)),(8,.pointer (some ⟨u9_1,0,none⟩)),(19,.agg (cw [u5_1,u5_2,u5_3]).toArray),(16,.agg (cw [u2_1,u2_2,u2_3]).toArray),(21,.agg (cw [wa0,wa1,wa2]).toArray),(20,.agg (cw [wd0,wd1,wd2]).toArray),(7,.pointer (some ⟨b4,0,none⟩)),(6,.bool false),(5,.pointer (some ⟨b3,0,none⟩)),(4,.pointer (some ⟨b2,0,none⟩)),(3,.pointer (some ⟨b1,0,none⟩))],[boxA u11_1 89 [.bool false,.slice none 0 0,.bool false,.slice none 0 0,.bool false,.slice none 0 0],boxA u10_1 89 [.bool false,.slice none 0 0,.bool false,.slice none 0 0,.bool false,.slice none 0 0],boxA u9_1 89 [.bool false,.slice none 0 0,.bool false,.slice none 0 0,.bool false,.slice none 0 0]],[boxA b4 89 [.bool false,.slice none 0 0,.bool false,.slice none 0 0,.bool false,.slice none 0 0],boxA b3 89 (cw [wd0,wd1,wd2]),boxA b2 89 (cw [wb0,wb1,wb2]),boxA b1 89 (cw [wa0,wa1,wa2])],[zF u5_1 (fy*gz - fz*gy),zF u5_2 (fz*gx - fx*gz),zF u5_3 (fx*gy - fy*gx),zF u2_1 (ey*fz - ez*fy),zF u2_2 (ez*fx - ex*fz),zF u2_3 (ex*fy - ey*fx),zF wz 0,zF wa0 ex,zF wa1 ey,zF wa2 ez,zF wb0 fx,zF wb1 fy,zF wb2 fz,zF wd0 gx,zF wd1 gy,zF wd2 gz])) ?_ (fun hD7=> ?_)
 ·
  rintro ⟨u2_1,u2_2,u2_3,u5_1,u5_2,u5_3,u9_1,u10_1,u11_1⟩
  dsimp only [cw]
  refine zE 8 (by kernel_rfl) ?_
  ·
   refine zu rfl rfl rfl rfl (.c rfl (.c rfl .n)) ce61 (zka (ex:=gx) (ey:=gy) (ez:=gz) (wa0:=wd0) (wa1:=wd1) (wa2:=wd2) (fx:=ex) (fy:=ey) (fz:=ez) (wb0:=wa0) (wb1:=wa1) (wb2:=wa2) (hlex:=by omega) (hley:=by omega) (hlez:=by omega) (hlfx:=by omega) (hlfy:=by omega) (hlfz:=by omega)) (.c (j:=13) rfl (.c (j:=14) rfl (.c (j:=15) rfl (.c (j:=7) rfl (.c (j:=8) rfl (.c (j:=9) rfl .n)))))) ?_
   rintro ⟨u8_1,u8_2,u8_3⟩ -
   dsimp only [List.append_eq,List.nil_append,List.cons_append]
   exact zp (hD3 (u2_1,u2_2,u2_3,u5_1,u5_2,u5_3,u8_1,u8_2,u8_3,u9_1,u10_1,u11_1)) (by kernel_rfl) ((.of rfl):SubM _ _) .rfl .rfl ((.of [0,1,2,3,4,5,6,7,8,9,10,11,12,13,14,15,16,17,18] rfl):SelR _ _ _)
 refine zL (X:=Wd×Wd×Wd×Wd×Wd×Wd×Wd×Wd×Wd×Nat) (k':=5) (L':=(lb 15 1023)) (fun (u2_1,u2_2,u2_3,u5_1,u5_2,u5_3,u8_1,u8_2,u8_3,u9_1)=>([(8,.pointer (some ⟨u9_1,0,none⟩)),(22,.agg (cw [u8_1,u8_2,u8_3]).toArray),(19,.agg (cw [u5_1,u5_2,u5_3]).toArray),(16,.agg (cw [u2_1,u2_2,u2_3]).toArray),(7,.pointer (some ⟨b4,0,none⟩)),(6,.bool false),(5,.pointer (some ⟨b3,0,none⟩)),(4,.pointer (some ⟨b2,0,none⟩)),(3,.pointer (some ⟨b1,0,none⟩))],[boxA u9_1 89 [.bool false,.slice none 0 0,.bool false,.slice none 0 0,.bool false,.slice none 0 0]],[boxA b4 89 [.bool false,.slice none 0 0,.bool false,.slice none 0 0,.bool false,.slice none 0 0],boxA b3 89 (cw [wd0,wd1,wd2]),boxA b2 89 (cw [wb0,wb1,wb2]),boxA b1 89 (cw [wa0,wa1,wa2])],[zF u8_1 (gy*ez - gz*ey),zF u8_2 (gz*ex - gx*ez),zF u8_3 (gx*ey - gy*ex),zF u5_1 (fy*gz - fz*gy),zF u5_2 (fz*gx - fx*gz),zF u5_3 (fx*gy - fy*gx),zF u2_1 (ey*fz - ez*fy),zF u2_2 (ez*fx - ex*fz),zF u2_3 (ex*fy - ey*fx),zF wz 0,zF wa0 ex,zF wa1 ey,zF wa2 ez,zF wb0 fx,zF wb1 fy,zF wb2 fz,zF wd0 gx,zF wd1 gy,zF wd2 gz])) ?_ (fun hD8=> ?_)
 ·
  rintro ⟨u2_1,u2_2,u2_3,u5_1,u5_2,u5_3,u8_1,u8_2,u8_3,u9_1⟩
  dsimp only [cw]
  refine zMa 10 11 (by kernel_rfl) ?_ ?_
  ·
   refine zO rfl rfl rfl rfl (zn zr89 rfl) (fun u10_1 _=> ?_)
   exact zp (hD4 (u2_1,u2_2,u2_3,u5_1,u5_2,u5_3,u8_1,u8_2,u8_3,u9_1,u10_1)) (by kernel_rfl) ((.of rfl):SubM _ _) .rfl .rfl ((.of [0,1,2,3,4,5,6,7,8,9,10,11,12,13,14,15,16,17,18] rfl):SelR _ _ _)
  ·
   refine zO rfl rfl rfl rfl (zn zr89 rfl) (fun u11_1 _=> ?_)
   exact zp (hD5 (u2_1,u2_2,u2_3,u5_1,u5_2,u5_3,u8_1,u8_2,u8_3,u9_1,u11_1)) (by kernel_rfl) ((.of rfl):SubM _ _) .rfl .rfl ((.of [0,1,2,3,4,5,6,7,8,9,10,11,12,13,14,15,16,17,18] rfl):SelR _ _ _)
 refine zL (X:=Wd×Wd×Wd×Wd×Wd×Wd×Wd×Wd×Wd×Nat) (k':=5) (L':=(lb 15 1535)) (fun (u2_1,u2_2,u2_3,u5_1,u5_2,u5_3,u8_1,u8_2,u8_3,u10_1)=>([(9,.pointer (some ⟨u10_1,0,none⟩)),(22,.agg (cw [u8_1,u8_2,u8_3]).toArray),(19,.agg (cw [u5_1,u5_2,u5_3]).toArray),(16,.agg (cw [u2_1,u2_2,u2_3]).toArray),(7,.pointer (some ⟨b4,0,none⟩)),(6,.bool false),(5,.pointer (some ⟨b3,0,none⟩)),(4,.pointer (some ⟨b2,0,none⟩)),(3,.pointer (some ⟨b1,0,none⟩))],[boxA u10_1 89 [.bool false,.slice none 0 0,.bool false,.slice none 0 0,.bool false,.slice none 0 0]],[boxA b4 89 [.bool false,.slice none 0 0,.bool false,.slice none 0 0,.bool false,.slice none 0 0],boxA b3 89 (cw [wd0,wd1,wd2]),boxA b2 89 (cw [wb0,wb1,wb2]),boxA b1 89 (cw [wa0,wa1,wa2])],[zF u8_1 (gy*ez - gz*ey),zF u8_2 (gz*ex - gx*ez),zF u8_3 (gx*ey - gy*ex),zF u5_1 (fy*gz - fz*gy),zF u5_2 (fz*gx - fx*gz),zF u5_3 (fx*gy - fy*gx),zF u2_1 (ey*fz - ez*fy),zF u2_2 (ez*fx - ex*fz),zF u2_3 (ex*fy - ey*fx),zF wz 0,zF wa0 ex,zF wa1 ey,zF wa2 ez,zF wb0 fx,zF wb1 fy,zF wb2 fz,zF wd0 gx,zF wd1 gy,zF wd2 gz])) ?_ (fun hD9=> ?_)
 ·
  rintro ⟨u2_1,u2_2,u2_3,u5_1,u5_2,u5_3,u8_1,u8_2,u8_3,u10_1⟩
  dsimp only [cw]
  refine zMa 9 11 (by kernel_rfl) ?_ ?_
  ·
   refine zO rfl rfl rfl rfl (zn zr89 rfl) (fun u9_1 _=> ?_)
   exact zp (hD4 (u2_1,u2_2,u2_3,u5_1,u5_2,u5_3,u8_1,u8_2,u8_3,u9_1,u10_1)) (by kernel_rfl) ((.of rfl):SubM _ _) (zR 1 rfl (zR 0 rfl .nil)) .rfl ((.of [0,1,2,3,4,5,6,7,8,9,10,11,12,13,14,15,16,17,18] rfl):SelR _ _ _)
  ·
   refine zO rfl rfl rfl rfl (zn zr89 rfl) (fun u11_1 _=> ?_)
   exact zp (hD6 (u2_1,u2_2,u2_3,u5_1,u5_2,u5_3,u8_1,u8_2,u8_3,u10_1,u11_1)) (by kernel_rfl) ((.of rfl):SubM _ _) .rfl .rfl ((.of [0,1,2,3,4,5,6,7,8,9,10,11,12,13,14,15,16,17,18] rfl):SelR _ _ _)
 refine zL (X:=Wd×Wd×Wd×Wd×Wd×Wd×Wd×Wd×Wd×Nat) (k':=5) (L':=(lb 15 2559)) (fun (u2_1,u2_2,u2_3,u5_1,u5_2,u5_3,u8_1,u8_2,u8_3,u11_1)=>([(10,.pointer (some ⟨u11_1,0,none⟩)),(22,.agg (cw [u8_1,u8_2,u8_3]).toArray),(19,.agg (cw [u5_1,u5_2,u5_3]).toArray),(16,.agg (cw [u2_1,u2_2,u2_3]).toArray),(7,.pointer (some ⟨b4,0,none⟩)),(6,.bool false),(5,.pointer (some ⟨b3,0,none⟩)),(4,.pointer (some ⟨b2,0,none⟩)),(3,.pointer (some ⟨b1,0,none⟩))],[boxA u11_1 89 [.bool false,.slice none 0 0,.bool false,.slice none 0 0,.bool false,.slice none 0 0]],[boxA b4 89 [.bool false,.slice none 0 0,.bool false,.slice none 0 0,.bool false,.slice none 0 0],boxA b3 89 (cw [wd0,wd1,wd2]),boxA b2 89 (cw [wb0,wb1,wb2]),boxA b1 89 (cw [wa0,wa1,wa2])],[zF u8_1 (gy*ez - gz*ey),zF u8_2 (gz*ex - gx*ez),zF u8_3 (gx*ey - gy*ex),zF u5_1 (fy*gz - fz*gy),zF u5_2 (fz*gx - fx*gz),zF u5_3 (fx*gy - fy*gx),zF u2_1 (ey*fz - ez*fy),zF u2_2 (ez*fx - ex*fz),zF u2_3 (ex*fy - ey*fx),zF wz 0,zF wa0 ex,zF wa1 ey,zF wa2 ez,zF wb0 fx,zF wb1 fy,zF wb2 fz,zF wd0 gx,zF wd1 gy,zF wd2 gz])) ?_ (fun hD10=> ?_)
 ·
  rintro ⟨u2_1,u2_2,u2_3,u5_1,u5_2,u5_3,u8_1,u8_2,u8_3,u11_1⟩
  dsimp only [cw]
  refine zMa 9 10 (by kernel_rfl) ?_ ?_
  ·
   refine zO rfl rfl rfl rfl (zn zr89 rfl) (fun u9_1 _=> ?_)
   exact zp (hD5 (u2_1,u2_2,u2_3,u5_1,u5_2,u5_3,u8_1,u8_2,u8_3,u9_1,u11_1)) (by kernel_rfl) ((.of rfl):SubM _ _) (zR 1 rfl (zR 0 rfl .nil)) .rfl ((.of [0,1,2,3,4,5,6,7,8,9,10,11,12,13,14,15,16,17,18] rfl):SelR _ _ _)
  ·
   refine zO rfl rfl rfl rfl (zn zr89 rfl) (fun u10_1 _=> ?_)
   exact zp (hD6 (u2_1,u2_2,u2_3,u5_1,u5_2,u5_3,u8_1,u8_2,u8_3,u10_1,u11_1)) (by kernel_rfl) ((.of rfl):SubM _ _) (zR 1 rfl (zR 0 rfl .nil)) .rfl ((.of [0,1,2,3,4,5,6,7,8,9,10,11,12,13,14,15,16,17,18] rfl):SelR _ _ _)
 refine zL (X:=Wd×Wd×Wd×Wd×Wd×Wd×Nat×Nat) (k':=5) (L':=(lb 15 1791)) (fun (u2_1,u2_2,u2_3,u5_1,u5_2,u5_3,u9_1,u10_1)=>([(9,.pointer (some ⟨u10_1,0,none⟩)),(8,.pointer (some ⟨u9_1,0,none⟩)),(19,.agg (cw [u5_1,u5_2,u5_3]).toArray),(16,.agg (cw [u2_1,u2_2,u2_3]).toArray),(21,.agg (cw [wa0,wa1,wa2]).toArray),(20,.agg (cw [wd0,wd1,wd2]).toArray),(7,.pointer (some ⟨b4,0,none⟩)),(6,.bool false),(5,.pointer (some ⟨b3,0,none⟩)),(4,.pointer (some ⟨b2,0,none⟩)),(3,.pointer (some ⟨b1,0,none⟩))],[boxA u10_1 89 [.bool false,.slice none 0 0,.bool false,.slice none 0 0,.bool false,.slice none 0 0],boxA u9_1 89 [.bool false,.slice none 0 0,.bool false,.slice none 0 0,.bool false,.slice none 0 0]],[boxA b4 89 [.bool false,.slice none 0 0,.bool false,.slice none 0 0,.bool false,.slice none 0 0],boxA b3 89 (cw [wd0,wd1,wd2]),boxA b2 89 (cw [wb0,wb1,wb2]),boxA b1 89 (cw [wa0,wa1,wa2])],[zF u5_1 (fy*gz - fz*gy),zF u5_2 (fz*gx - fx*gz),zF u5_3 (fx*gy - fy*gx),zF u2_1 (ey*fz - ez*fy),zF u2_2 (ez*fx - ex*fz),zF u2_3 (ex*fy - ey*fx),zF wz 0,zF wa0 ex,zF wa1 ey,zF wa2 ez,zF wb0 fx,zF wb1 fy,zF wb2 fz,zF wd0 gx,zF wd1 gy,zF wd2 gz])) ?_ (fun hD11=> ?_)
 ·
  rintro ⟨u2_1,u2_2,u2_3,u5_1,u5_2,u5_3,u9_1,u10_1⟩
  dsimp only [cw]
  refine zMa 8 11 (by kernel_rfl) ?_ ?_
  ·
   refine zu rfl rfl rfl rfl (.c rfl (.c rfl .n)) ce61 (zka (ex:=gx) (ey:=gy) (ez:=gz) (wa0:=wd0) (wa1:=wd1) (wa2:=wd2) (fx:=ex) (fy:=ey) (fz:=ez) (wb0:=wa0) (wb1:=wa1) (wb2:=wa2) (hlex:=by omega) (hley:=by omega) (hlez:=by omega) (hlfx:=by omega) (hlfy:=by omega) (hlfz:=by omega)) (.c (j:=13) rfl (.c (j:=14) rfl (.c (j:=15) rfl (.c (j:=7) rfl (.c (j:=8) rfl (.c (j:=9) rfl .n)))))) ?_
   rintro ⟨u8_1,u8_2,u8_3⟩ -
   dsimp only [List.append_eq,List.nil_append,List.cons_append]
   exact zp (hD4 (u2_1,u2_2,u2_3,u5_1,u5_2,u5_3,u8_1,u8_2,u8_3,u9_1,u10_1)) (by kernel_rfl) ((.of rfl):SubM _ _) .rfl .rfl ((.of [0,1,2,3,4,5,6,7,8,9,10,11,12,13,14,15,16,17,18] rfl):SelR _ _ _)
  ·
   refine zO rfl rfl rfl rfl (zn zr89 rfl) (fun u11_1 _=> ?_)
   exact zp (hD7 (u2_1,u2_2,u2_3,u5_1,u5_2,u5_3,u9_1,u10_1,u11_1)) (by kernel_rfl) ((.of rfl):SubM _ _) .rfl .rfl ((.of [0,1,2,3,4,5,6,7,8,9,10,11,12,13,14,15] rfl):SelR _ _ _)
 refine zL (X:=Wd×Wd×Wd×Wd×Wd×Wd×Nat×Nat) (k':=5) (L':=(lb 15 2815)) (fun (u2_1,u2_2,u2_3,u5_1,u5_2,u5_3,u9_1,u11_1)=>([(10,.pointer (some ⟨u11_1,0,none⟩)),(8,.pointer (some ⟨u9_1,0,none⟩)),(19,.agg (cw [u5_1,u5_2,u5_3]).toArray),(16,.agg (cw [u2_1,u2_2,u2_3]).toArray),(21,.agg (cw [wa0,wa1,wa2]).toArray),(20,.agg (cw [wd0,wd1,wd2]).toArray),(7,.pointer (some ⟨b4,0,none⟩)),(6,.bool false),(5,.pointer (some ⟨b3,0,none⟩)),(4,.pointer (some ⟨b2,0,none⟩)),(3,.pointer (some ⟨b1,0,none⟩))],[boxA u11_1 89 [.bool false,.slice none 0 0,.bool false,.slice none 0 0,.bool false,.slice none 0 0],boxA u9_1 89 [.bool false,.slice none 0 0,.bool false,.slice none 0 0,.bool false,.slice none 0 0]],[boxA b4 89 [.bool false,.slice none 0 0,.bool false,.slice none 0 0,.bool false,.slice none 0 0],boxA b3 89 (cw [wd0,wd1,wd2]),boxA b2 89 (cw [wb0,wb1,wb2]),boxA b1 89 (cw [wa0,wa1,wa2])],[zF u5_1 (fy*gz - fz*gy),zF u5_2 (fz*gx - fx*gz),zF u5_3 (fx*gy - fy*gx),zF u2_1 (ey*fz - ez*fy),zF u2_2 (ez*fx - ex*fz),zF u2_3 (ex*fy - ey*fx),zF wz 0,zF wa0 ex,zF wa1 ey,zF wa2 ez,zF wb0 fx,zF wb1 fy,zF wb2 fz,zF wd0 gx,zF wd1 gy,zF wd2 gz])) ?_ (fun hD12=> ?_)
 ·
  rintro ⟨u2_1,u2_2,u2_3,u5_1,u5_2,u5_3,u9_1,u11_1⟩
  dsimp only [cw]
  refine zMa 8 10 (by kernel_rfl) ?_ ?_
  ·
   refine zu rfl rfl rfl rfl (.c rfl (.c rfl .n)) ce61 (zka (ex:=gx) (ey:=gy) (ez:=gz) (wa0:=wd0) (wa1:=wd1) (wa2:=wd2) (fx:=ex) (fy:=ey) (fz:=ez) (wb0:=wa0) (wb1:=wa1) (wb2:=wa2) (hlex:=by omega) (hley:=by omega) (hlez:=by omega) (hlfx:=by omega) (hlfy:=by omega) (hlfz:=by omega)) (.c (j:=13) rfl (.c (j:=14) rfl (.c (j:=15) rfl (.c (j:=7) rfl (.c (j:=8) rfl (.c (j:=9) rfl .n)))))) ?_
   rintro ⟨u8_1,u8_2,u8_3⟩ -
   dsimp only [List.append_eq,List.nil_append,List.cons_append]
   exact zp (hD5 (u2_1,u2_2,u2_3,u5_1,u5_2,u5_3,u8_1,u8_2,u8_3,u9_1,u11_1)) (by kernel_rfl) ((.of rfl):SubM _ _) .rfl .rfl ((.of [0,1,2,3,4,5,6,7,8,9,10,11,12,13,14,15,16,17,18] rfl):SelR _ _ _)
  ·
   refine zO rfl rfl rfl rfl (zn zr89 rfl) (fun u10_1 _=> ?_)
   exact zp (hD7 (u2_1,u2_2,u2_3,u5_1,u5_2,u5_3,u9_1,u10_1,u11_1)) (by kernel_rfl) ((.of rfl):SubM _ _) (zR 1 rfl (zR 0 rfl (zR 0 rfl .nil))) .rfl ((.of [0,1,2,3,4,5,6,7,8,9,10,11,12,13,14,15] rfl):SelR _ _ _)
 refine zL (X:=Wd×Wd×Wd×Wd×Wd×Wd×Nat×Nat) (k':=5) (L':=(lb 15 3327)) (fun (u2_1,u2_2,u2_3,u5_1,u5_2,u5_3,u10_1,u11_1)=>([(10,.pointer (some ⟨u11_1,0,none⟩)),(9,.pointer (some ⟨u10_1,0,none⟩)),(19,.agg (cw [u5_1,u5_2,u5_3]).toArray),(16,.agg (cw [u2_1,u2_2,u2_3]).toArray),(21,.agg (cw [wa0,wa1,wa2]).toArray),(20,.agg (cw [wd0,wd1,wd2]).toArray),(7,.pointer (some ⟨b4,0,none⟩)),(6,.bool false),(5,.pointer (some ⟨b3,0,none⟩)),(4,.pointer (some ⟨b2,0,none⟩)),(3,.pointer (some ⟨b1,0,none⟩))],[boxA u11_1 89 [.bool false,.slice none 0 0,.bool false,.slice none 0 0,.bool false,.slice none 0 0],boxA u10_1 89 [.bool false,.slice none 0 0,.bool false,.slice none 0 0,.bool false,.slice none 0 0]],[boxA b4 89 [.bool false,.slice none 0 0,.bool false,.slice none 0 0,.bool false,.slice none 0 0],boxA b3 89 (cw [wd0,wd1,wd2]),boxA b2 89 (cw [wb0,wb1,wb2]),boxA b1 89 (cw [wa0,wa1,wa2])],[zF u5_1 (fy*gz - fz*gy),zF u5_2 (fz*gx - fx*gz),zF u5_3 (fx*gy - fy*gx),zF u2_1 (ey*fz - ez*fy),zF u2_2 (ez*fx - ex*fz),zF u2_3 (ex*fy - ey*fx),zF wz 0,zF wa0 ex,zF wa1 ey,zF wa2 ez,zF wb0 fx,zF wb1 fy,zF wb2 fz,zF wd0 gx,zF wd1 gy,zF wd2 gz])) ?_ (fun hD13=> ?_)
 ·
  rintro ⟨u2_1,u2_2,u2_3,u5_1,u5_2,u5_3,u10_1,u11_1⟩
  dsimp only [cw]
  refine zMa 8 9 (by kernel_rfl) ?_ ?_
  ·
   refine zu rfl rfl rfl rfl (.c rfl (.c rfl .n)) ce61 (zka (ex:=gx) (ey:=gy) (ez:=gz) (wa0:=wd0) (wa1:=wd1) (wa2:=wd2) (fx:=ex) (fy:=ey) (fz:=ez) (wb0:=wa0) (wb1:=wa1) (wb2:=wa2) (hlex:=by omega) (hley:=by omega) (hlez:=by omega) (hlfx:=by omega) (hlfy:=by omega) (hlfz:=by omega)) (.c (j:=13) rfl (.c (j:=14) rfl (.c (j:=15) rfl (.c (j:=7) rfl (.c (j:=8) rfl (.c (j:=9) rfl .n)))))) ?_
   rintro ⟨u8_1,u8_2,u8_3⟩ -
   dsimp only [List.append_eq,List.nil_append,List.cons_append]
   exact zp (hD6 (u2_1,u2_2,u2_3,u5_1,u5_2,u5_3,u8_1,u8_2,u8_3,u10_1,u11_1)) (by kernel_rfl) ((.of rfl):SubM _ _) .rfl .rfl ((.of [0,1,2,3,4,5,6,7,8,9,10,11,12,13,14,15,16,17,18] rfl):SelR _ _ _)
  ·
   refine zO rfl rfl rfl rfl (zn zr89 rfl) (fun u9_1 _=> ?_)
   exact zp (hD7 (u2_1,u2_2,u2_3,u5_1,u5_2,u5_3,u9_1,u10_1,u11_1)) (by kernel_rfl) ((.of rfl):SubM _ _) (zR 1 rfl (zR 1 rfl (zR 0 rfl .nil))) .rfl ((.of [0,1,2,3,4,5,6,7,8,9,10,11,12,13,14,15] rfl):SelR _ _ _)
 refine zL (X:=Wd×Wd×Wd×Nat×Nat×Nat) (k':=5) (L':=(lb 15 3807)) (fun (u2_1,u2_2,u2_3,u9_1,u10_1,u11_1)=>([(10,.pointer (some ⟨u11_1,0,none⟩)),(9,.pointer (some ⟨u10_1,0,none⟩)),(8,.pointer (some ⟨u9_1,0,none⟩)),(16,.agg (cw [u2_1,u2_2,u2_3]).toArray),(21,.agg (cw [wa0,wa1,wa2]).toArray),(20,.agg (cw [wd0,wd1,wd2]).toArray),(18,.agg (cw [wd0,wd1,wd2]).toArray),(17,.agg (cw [wb0,wb1,wb2]).toArray),(7,.pointer (some ⟨b4,0,none⟩)),(6,.bool false),(5,.pointer (some ⟨b3,0,none⟩)),(4,.pointer (some ⟨b2,0,none⟩)),(3,.pointer (some ⟨b1,0,none⟩))],[boxA u11_1 89 [.bool false,.slice none 0 0,.bool false,.slice none 0 0,.bool false,.slice none 0 0],boxA u10_1 89 [.bool false,.slice none 0 0,.bool false,.slice none 0 0,.bool false,.slice none 0 0],boxA u9_1 89 [.bool false,.slice none 0 0,.bool false,.slice none 0 0,.bool false,.slice none 0 0]],[boxA b4 89 [.bool false,.slice none 0 0,.bool false,.slice none 0 0,.bool false,.slice none 0 0],boxA b3 89 (cw [wd0,wd1,wd2]),boxA b2 89 (cw [wb0,wb1,wb2]),boxA b1 89 (cw [wa0,wa1,wa2])],[zF u2_1 (ey*fz - ez*fy),zF u2_2 (ez*fx - ex*fz),zF u2_3 (ex*fy - ey*fx),zF wz 0,zF wa0 ex,zF wa1 ey,zF wa2 ez,zF wb0 fx,zF wb1 fy,zF wb2 fz,zF wd0 gx,zF wd1 gy,zF wd2 gz])) ?_ (fun hD14=> ?_)
 ·
  rintro ⟨u2_1,u2_2,u2_3,u9_1,u10_1,u11_1⟩
  dsimp only [cw]
  refine zE 5 (by kernel_rfl) ?_
  ·
   refine zu rfl rfl rfl rfl (.c rfl (.c rfl .n)) ce61 (zka (ex:=fx) (ey:=fy) (ez:=fz) (wa0:=wb0) (wa1:=wb1) (wa2:=wb2) (fx:=gx) (fy:=gy) (fz:=gz) (wb0:=wd0) (wb1:=wd1) (wb2:=wd2) (hlex:=by omega) (hley:=by omega) (hlez:=by omega) (hlfx:=by omega) (hlfy:=by omega) (hlfz:=by omega)) (.c (j:=7) rfl (.c (j:=8) rfl (.c (j:=9) rfl (.c (j:=10) rfl (.c (j:=11) rfl (.c (j:=12) rfl .n)))))) ?_
   rintro ⟨u5_1,u5_2,u5_3⟩ -
   dsimp only [List.append_eq,List.nil_append,List.cons_append]
   exact zp (hD7 (u2_1,u2_2,u2_3,u5_1,u5_2,u5_3,u9_1,u10_1,u11_1)) (by kernel_rfl) ((.of rfl):SubM _ _) .rfl .rfl ((.of [0,1,2,3,4,5,6,7,8,9,10,11,12,13,14,15] rfl):SelR _ _ _)
 refine zL (X:=Wd×Wd×Wd×Wd×Wd×Wd×Wd×Wd×Wd) (k':=6) (L':=(lb 15 511)) (fun (u2_1,u2_2,u2_3,u5_1,u5_2,u5_3,u8_1,u8_2,u8_3)=>([(22,.agg (cw [u8_1,u8_2,u8_3]).toArray),(19,.agg (cw [u5_1,u5_2,u5_3]).toArray),(16,.agg (cw [u2_1,u2_2,u2_3]).toArray),(7,.pointer (some ⟨b4,0,none⟩)),(6,.bool false),(5,.pointer (some ⟨b3,0,none⟩)),(4,.pointer (some ⟨b2,0,none⟩)),(3,.pointer (some ⟨b1,0,none⟩))],[],[boxA b4 89 [.bool false,.slice none 0 0,.bool false,.slice none 0 0,.bool false,.slice none 0 0],boxA b3 89 (cw [wd0,wd1,wd2]),boxA b2 89 (cw [wb0,wb1,wb2]),boxA b1 89 (cw [wa0,wa1,wa2])],[zF u8_1 (gy*ez - gz*ey),zF u8_2 (gz*ex - gx*ez),zF u8_3 (gx*ey - gy*ex),zF u5_1 (fy*gz - fz*gy),zF u5_2 (fz*gx - fx*gz),zF u5_3 (fx*gy - fy*gx),zF u2_1 (ey*fz - ez*fy),zF u2_2 (ez*fx - ex*fz),zF u2_3 (ex*fy - ey*fx),zF wz 0,zF wa0 ex,zF wa1 ey,zF wa2 ez,zF wb0 fx,zF wb1 fy,zF wb2 fz,zF wd0 gx,zF wd1 gy,zF wd2 gz])) ?_ (fun hD15=> ?_)
 ·
  rintro ⟨u2_1,u2_2,u2_3,u5_1,u5_2,u5_3,u8_1,u8_2,u8_3⟩
  dsimp only [cw]
  refine zPa 9 10 11 (by kernel_rfl) ?_ ?_ ?_
  ·
   refine zO rfl rfl rfl rfl (zn zr89 rfl) (fun u9_1 _=> ?_)
   exact zp (hD8 (u2_1,u2_2,u2_3,u5_1,u5_2,u5_3,u8_1,u8_2,u8_3,u9_1)) (by kernel_rfl) ((.of rfl):SubM _ _) .rfl .rfl ((.of [0,1,2,3,4,5,6,7,8,9,10,11,12,13,14,15,16,17,18] rfl):SelR _ _ _)
  ·
   refine zO rfl rfl rfl rfl (zn zr89 rfl) (fun u10_1 _=> ?_)
   exact zp (hD9 (u2_1,u2_2,u2_3,u5_1,u5_2,u5_3,u8_1,u8_2,u8_3,u10_1)) (by kernel_rfl) ((.of rfl):SubM _ _) .rfl .rfl ((.of [0,1,2,3,4,5,6,7,8,9,10,11,12,13,14,15,16,17,18] rfl):SelR _ _ _)
  ·
   refine zO rfl rfl rfl rfl (zn zr89 rfl) (fun u11_1 _=> ?_)
   exact zp (hD10 (u2_1,u2_2,u2_3,u5_1,u5_2,u5_3,u8_1,u8_2,u8_3,u11_1)) (by kernel_rfl) ((.of rfl):SubM _ _) .rfl .rfl ((.of [0,1,2,3,4,5,6,7,8,9,10,11,12,13,14,15,16,17,18] rfl):SelR _ _ _)
 refine zL (X:=Wd×Wd×Wd×Wd×Wd×Wd×Nat) (k':=6) (L':=(lb 15 767)) (fun (u2_1,u2_2,u2_3,u5_1,u5_2,u5_3,u9_1)=>([(8,.pointer (some ⟨u9_1,0,none⟩)),(19,.agg (cw [u5_1,u5_2,u5_3]).toArray),(16,.agg (cw [u2_1,u2_2,u2_3]).toArray),(21,.agg (cw [wa0,wa1,wa2]).toArray),(20,.agg (cw [wd0,wd1,wd2]).toArray),(7,.pointer (some ⟨b4,0,none⟩)),(6,.bool false),(5,.pointer (some ⟨b3,0,none⟩)),(4,.pointer (some ⟨b2,0,none⟩)),(3,.pointer (some ⟨b1,0,none⟩))],[boxA u9_1 89 [.bool false,.slice none 0 0,.bool false,.slice none 0 0,.bool false,.slice none 0 0]],[boxA b4 89 [.bool false,.slice none 0 0,.bool false,.slice none 0 0,.bool false,.slice none 0 0],boxA b3 89 (cw [wd0,wd1,wd2]),boxA b2 89 (cw [wb0,wb1,wb2]),boxA b1 89 (cw [wa0,wa1,wa2])],[zF u5_1 (fy*gz - fz*gy),zF u5_2 (fz*gx - fx*gz),zF u5_3 (fx*gy - fy*gx),zF u2_1 (ey*fz - ez*fy),zF u2_2 (ez*fx - ex*fz),zF u2_3 (ex*fy - ey*fx),zF wz 0,zF wa0 ex,zF wa1 ey,zF wa2 ez,zF wb0 fx,zF wb1 fy,zF wb2 fz,zF wd0 gx,zF wd1 gy,zF wd2 gz])) ?_ (fun hD16=> ?_)
 ·
  rintro ⟨u2_1,u2_2,u2_3,u5_1,u5_2,u5_3,u9_1⟩
  dsimp only [cw]
  refine zPa 8 10 11 (by kernel_rfl) ?_ ?_ ?_
  ·
   refine zu rfl rfl rfl rfl (.c rfl (.c rfl .n)) ce61 (zka (ex:=gx) (ey:=gy) (ez:=gz) (wa0:=wd0) (wa1:=wd1) (wa2:=wd2) (fx:=ex) (fy:=ey) (fz:=ez) (wb0:=wa0) (wb1:=wa1) (wb2:=wa2) (hlex:=by omega) (hley:=by omega) (hlez:=by omega) (hlfx:=by omega) (hlfy:=by omega) (hlfz:=by omega)) (.c (j:=13) rfl (.c (j:=14) rfl (.c (j:=15) rfl (.c (j:=7) rfl (.c (j:=8) rfl (.c (j:=9) rfl .n)))))) ?_
   rintro ⟨u8_1,u8_2,u8_3⟩ -
   dsimp only [List.append_eq,List.nil_append,List.cons_append]
   exact zp (hD8 (u2_1,u2_2,u2_3,u5_1,u5_2,u5_3,u8_1,u8_2,u8_3,u9_1)) (by kernel_rfl) ((.of rfl):SubM _ _) .rfl .rfl ((.of [0,1,2,3,4,5,6,7,8,9,10,11,12,13,14,15,16,17,18] rfl):SelR _ _ _)
  ·
   refine zO rfl rfl rfl rfl (zn zr89 rfl) (fun u10_1 _=> ?_)
   exact zp (hD11 (u2_1,u2_2,u2_3,u5_1,u5_2,u5_3,u9_1,u10_1)) (by kernel_rfl) ((.of rfl):SubM _ _) .rfl .rfl ((.of [0,1,2,3,4,5,6,7,8,9,10,11,12,13,14,15] rfl):SelR _ _ _)
  ·
   refine zO rfl rfl rfl rfl (zn zr89 rfl) (fun u11_1 _=> ?_)
   exact zp (hD12 (u2_1,u2_2,u2_3,u5_1,u5_2,u5_3,u9_1,u11_1)) (by kernel_rfl) ((.of rfl):SubM _ _) .rfl .rfl ((.of [0,1,2,3,4,5,6,7,8,9,10,11,12,13,14,15] rfl):SelR _ _ _)
 refine zL (X:=Wd×Wd×Wd×Wd×Wd×Wd×Nat) (k':=6) (L':=(lb 15 1279)) (fun (u2_1,u2_2,u2_3,u5_1,u5_2,u5_3,u10_1)=>([(9,.pointer (some ⟨u10_1,0,none⟩)),(19,.agg (cw [u5_1,u5_2,u5_3]).toArray),(16,.agg (cw [u2_1,u2_2,u2_3]).toArray),(21,.agg (cw [wa0,wa1,wa2]).toArray),(20,.agg (cw [wd0,wd1,wd2]).toArray),(7,.pointer (some ⟨b4,0,none⟩)),(6,.bool false),(5,.pointer (some ⟨b3,0,none⟩)),(4,.pointer (some ⟨b2,0,none⟩)),(3,.pointer (some ⟨b1,0,none⟩))],[boxA u10_1 89 [.bool false,.slice none 0 0,.bool false,.slice none 0 0,.bool false,.slice none 0 0]],[boxA b4 89 [.bool false,.slice none 0 0,.bool false,.slice none 0 0,.bool false,.slice none 0 0],boxA b3 89 (cw [wd0,wd1,wd2]),boxA b2 89 (cw [wb0,wb1,wb2]),boxA b1 89 (cw [wa0,wa1,wa2])],[zF u5_1 (fy*gz - fz*gy),zF u5_2 (fz*gx - fx*gz),zF u5_3 (fx*gy - fy*gx),zF u2_1 (ey*fz - ez*fy),zF u2_2 (ez*fx - ex*fz),zF u2_3 (ex*fy - ey*fx),zF wz 0,zF wa0 ex,zF wa1 ey,zF wa2 ez,zF wb0 fx,zF wb1 fy,zF wb2 fz,zF wd0 gx,zF wd1 gy,zF wd2 gz])) ?_ (fun hD17=> ?_)
 ·
  rintro ⟨u2_1,u2_2,u2_3,u5_1,u5_2,u5_3,u10_1⟩
  dsimp only [cw]
  refine zPa 8 9 11 (by kernel_rfl) ?_ ?_ ?_
  ·
   refine zu rfl rfl rfl rfl (.c rfl (.c rfl .n)) ce61 (zka (ex:=gx) (ey:=gy) (ez:=gz) (wa0:=wd0) (wa1:=wd1) (wa2:=wd2) (fx:=ex) (fy:=ey) (fz:=ez) (wb0:=wa0) (wb1:=wa1) (wb2:=wa2) (hlex:=by omega) (hley:=by omega) (hlez:=by omega) (hlfx:=by omega) (hlfy:=by omega) (hlfz:=by omega)) (.c (j:=13) rfl (.c (j:=14) rfl (.c (j:=15) rfl (.c (j:=7) rfl (.c (j:=8) rfl (.c (j:=9) rfl .n)))))) ?_
   rintro ⟨u8_1,u8_2,u8_3⟩ -
   dsimp only [List.append_eq,List.nil_append,List.cons_append]
   exact zp (hD9 (u2_1,u2_2,u2_3,u5_1,u5_2,u5_3,u8_1,u8_2,u8_3,u10_1)) (by kernel_rfl) ((.of rfl):SubM _ _) .rfl .rfl ((.of [0,1,2,3,4,5,6,7,8,9,10,11,12,13,14,15,16,17,18] rfl):SelR _ _ _)
  ·
   refine zO rfl rfl rfl rfl (zn zr89 rfl) (fun u9_1 _=> ?_)
   exact zp (hD11 (u2_1,u2_2,u2_3,u5_1,u5_2,u5_3,u9_1,u10_1)) (by kernel_rfl) ((.of rfl):SubM _ _) (zR 1 rfl (zR 0 rfl .nil)) .rfl ((.of [0,1,2,3,4,5,6,7,8,9,10,11,12,13,14,15] rfl):SelR _ _ _)
  ·
   refine zO rfl rfl rfl rfl (zn zr89 rfl) (fun u11_1 _=> ?_)
   exact zp (hD13 (u2_1,u2_2,u2_3,u5_1,u5_2,u5_3,u10_1,u11_1)) (by kernel_rfl) ((.of rfl):SubM _ _) .rfl .rfl ((.of [0,1,2,3,4,5,6,7,8,9,10,11,12,13,14,15] rfl):SelR _ _ _)
 refine zL (X:=Wd×Wd×Wd×Wd×Wd×Wd×Nat) (k':=6) (L':=(lb 15 2303)) (fun (u2_1,u2_2,u2_3,u5_1,u5_2,u5_3,u11_1)=>([(10,.pointer (some ⟨u11_1,0,none⟩)),(19,.agg (cw [u5_1,u5_2,u5_3]).toArray),(16,.agg (cw [u2_1,u2_2,u2_3]).toArray),(21,.agg (cw [wa0,wa1,wa2]).toArray),(20,.agg (cw [wd0,wd1,wd2]).toArray),(7,.pointer (some ⟨b4,0,none⟩)),(6,.bool false),(5,.pointer (some ⟨b3,0,none⟩)),(4,.pointer (some ⟨b2,0,none⟩)),(3,.pointer (some ⟨b1,0,none⟩))],[boxA u11_1 89 [.bool false,.slice none 0 0,.bool false,.slice none 0 0,.bool false,.slice none 0 0]],[boxA b4 89 [.bool false,.slice none 0 0,.bool false,.slice none 0 0,.bool false,.slice none 0 0],boxA b3 89 (cw [wd0,wd1,wd2]),boxA b2 89 (cw [wb0,wb1,wb2]),boxA b1 89 (cw [wa0,wa1,wa2])],[zF u5_1 (fy*gz - fz*gy),zF u5_2 (fz*gx - fx*gz),zF u5_3 (fx*gy - fy*gx),zF u2_1 (ey*fz - ez*fy),zF u2_2 (ez*fx - ex*fz),zF u2_3 (ex*fy - ey*fx),zF wz 0,zF wa0 ex,zF wa1 ey,zF wa2 ez,zF wb0 fx,zF wb1 fy,zF wb2 fz,zF wd0 gx,zF wd1 gy,zF wd2 gz])) ?_ (fun hD18=> ?_)
 ·
  rintro ⟨u2_1,u2_2,u2_3,u5_1,u5_2,u5_3,u11_1⟩
  dsimp only [cw]
  refine zPa 8 9 10 (by kernel_rfl) ?_ ?_ ?_
  ·
   refine zu rfl rfl rfl rfl (.c rfl (.c rfl .n)) ce61 (zka (ex:=gx) (ey:=gy) (ez:=gz) (wa0:=wd0) (wa1:=wd1) (wa2:=wd2) (fx:=ex) (fy:=ey) (fz:=ez) (wb0:=wa0) (wb1:=wa1) (wb2:=wa2) (hlex:=by omega) (hley:=by omega) (hlez:=by omega) (hlfx:=by omega) (hlfy:=by omega) (hlfz:=by omega)) (.c (j:=13) rfl (.c (j:=14) rfl (.c (j:=15) rfl (.c (j:=7) rfl (.c (j:=8) rfl (.c (j:=9) rfl .n)))))) ?_
   rintro ⟨u8_1,u8_2,u8_3⟩ -
   dsimp only [List.append_eq,List.nil_append,List.cons_append]
   exact zp (hD10 (u2_1,u2_2,u2_3,u5_1,u5_2,u5_3,u8_1,u8_2,u8_3,u11_1)) (by kernel_rfl) ((.of rfl):SubM _ _) .rfl .rfl ((.of [0,1,2,3,4,5,6,7,8,9,10,11,12,13,14,15,16,17,18] rfl):SelR _ _ _)
  ·
   refine zO rfl rfl rfl rfl (zn zr89 rfl) (fun u9_1 _=> ?_)
   exact zp (hD12 (u2_1,u2_2,u2_3,u5_1,u5_2,u5_3,u9_1,u11_1)) (by kernel_rfl) ((.of rfl):SubM _ _) (zR 1 rfl (zR 0 rfl .nil)) .rfl ((.of [0,1,2,3,4,5,6,7,8,9,10,11,12,13,14,15] rfl):SelR _ _ _)
  ·
   refine zO rfl rfl rfl rfl (zn zr89 rfl) (fun u10_1 _=> ?_)
   exact zp (hD13 (u2_1,u2_2,u2_3,u5_1,u5_2,u5_3,u10_1,u11_1)) (by kernel_rfl) ((.of rfl):SubM _ _) (zR 1 rfl (zR 0 rfl .nil)) .rfl ((.of [0,1,2,3,4,5,6,7,8,9,10,11,12,13,14,15] rfl):SelR _ _ _)
 refine zL (X:=Wd×Wd×Wd×Nat×Nat) (k':=6) (L':=(lb 15 1759)) (fun (u2_1,u2_2,u2_3,u9_1,u10_1)=>([(9,.pointer (some ⟨u10_1,0,none⟩)),(8,.pointer (some ⟨u9_1,0,none⟩)),(16,.agg (cw [u2_1,u2_2,u2_3]).toArray),(21,.agg (cw [wa0,wa1,wa2]).toArray),(20,.agg (cw [wd0,wd1,wd2]).toArray),(18,.agg (cw [wd0,wd1,wd2]).toArray),(17,.agg (cw [wb0,wb1,wb2]).toArray),(7,.pointer (some ⟨b4,0,none⟩)),(6,.bool false),(5,.pointer (some ⟨b3,0,none⟩)),(4,.pointer (some ⟨b2,0,none⟩)),(3,.pointer (some ⟨b1,0,none⟩))],[boxA u10_1 89 [.bool false,.slice none 0 0,.bool false,.slice none 0 0,.bool false,.slice none 0 0],boxA u9_1 89 [.bool false,.slice none 0 0,.bool false,.slice none 0 0,.bool false,.slice none 0 0]],[boxA b4 89 [.bool false,.slice none 0 0,.bool false,.slice none 0 0,.bool false,.slice none 0 0],boxA b3 89 (cw [wd0,wd1,wd2]),boxA b2 89 (cw [wb0,wb1,wb2]),boxA b1 89 (cw [wa0,wa1,wa2])],[zF u2_1 (ey*fz - ez*fy),zF u2_2 (ez*fx - ex*fz),zF u2_3 (ex*fy - ey*fx),zF wz 0,zF wa0 ex,zF wa1 ey,zF wa2 ez,zF wb0 fx,zF wb1 fy,zF wb2 fz,zF wd0 gx,zF wd1 gy,zF wd2 gz])) ?_ (fun hD19=> ?_)
 ·
  rintro ⟨u2_1,u2_2,u2_3,u9_1,u10_1⟩
  dsimp only [cw]
  refine zMa 5 11 (by kernel_rfl) ?_ ?_
  ·
   refine zu rfl rfl rfl rfl (.c rfl (.c rfl .n)) ce61 (zka (ex:=fx) (ey:=fy) (ez:=fz) (wa0:=wb0) (wa1:=wb1) (wa2:=wb2) (fx:=gx) (fy:=gy) (fz:=gz) (wb0:=wd0) (wb1:=wd1) (wb2:=wd2) (hlex:=by omega) (hley:=by omega) (hlez:=by omega) (hlfx:=by omega) (hlfy:=by omega) (hlfz:=by omega)) (.c (j:=7) rfl (.c (j:=8) rfl (.c (j:=9) rfl (.c (j:=10) rfl (.c (j:=11) rfl (.c (j:=12) rfl .n)))))) ?_
   rintro ⟨u5_1,u5_2,u5_3⟩ -
   dsimp only [List.append_eq,List.nil_append,List.cons_append]
   exact zp (hD11 (u2_1,u2_2,u2_3,u5_1,u5_2,u5_3,u9_1,u10_1)) (by kernel_rfl) ((.of rfl):SubM _ _) .rfl .rfl ((.of [0,1,2,3,4,5,6,7,8,9,10,11,12,13,14,15] rfl):SelR _ _ _)
  ·
   refine zO rfl rfl rfl rfl (zn zr89 rfl) (fun u11_1 _=> ?_)
   exact zp (hD14 (u2_1,u2_2,u2_3,u9_1,u10_1,u11_1)) (by kernel_rfl) ((.of rfl):SubM _ _) .rfl .rfl ((.of [0,1,2,3,4,5,6,7,8,9,10,11,12] rfl):SelR _ _ _)
 refine zL (X:=Wd×Wd×Wd×Nat×Nat) (k':=6) (L':=(lb 15 2783)) (fun (u2_1,u2_2,u2_3,u9_1,u11_1)=>([(10,.pointer (some ⟨u11_1,0,none⟩)),(8,.pointer (some ⟨u9_1,0,none⟩)),(16,.agg (cw [u2_1,u2_2,u2_3]).toArray),(21,.agg (cw [wa0,wa1,wa2]).toArray),(20,.agg (cw [wd0,wd1,wd2]).toArray),(18,.agg (cw [wd0,wd1,wd2]).toArray),(17,.agg (cw [wb0,wb1,wb2]).toArray),(7,.pointer (some ⟨b4,0,none⟩)),(6,.bool false),(5,.pointer (some ⟨b3,0,none⟩)),(4,.pointer (some ⟨b2,0,none⟩)),(3,.pointer (some ⟨b1,0,none⟩))],[boxA u11_1 89 [.bool false,.slice none 0 0,.bool false,.slice none 0 0,.bool false,.slice none 0 0],boxA u9_1 89 [.bool false,.slice none 0 0,.bool false,.slice none 0 0,.bool false,.slice none 0 0]],[boxA b4 89 [.bool false,.slice none 0 0,.bool false,.slice none 0 0,.bool false,.slice none 0 0],boxA b3 89 (cw [wd0,wd1,wd2]),boxA b2 89 (cw [wb0,wb1,wb2]),boxA b1 89 (cw [wa0,wa1,wa2])],[zF u2_1 (ey*fz - ez*fy),zF u2_2 (ez*fx - ex*fz),zF u2_3 (ex*fy - ey*fx),zF wz 0,zF wa0 ex,zF wa1 ey,zF wa2 ez,zF wb0 fx,zF wb1 fy,zF wb2 fz,zF wd0 gx,zF wd1 gy,zF wd2 gz])) ?_ (fun hD20=> ?_)
 ·
  rintro ⟨u2_1,u2_2,u2_3,u9_1,u11_1⟩
  dsimp only [cw]
  refine zMa 5 10 (by kernel_rfl) ?_ ?_
  ·
   refine zu rfl rfl rfl rfl (.c rfl (.c rfl .n)) ce61 (zka (ex:=fx) (ey:=fy) (ez:=fz) (wa0:=wb0) (wa1:=wb1) (wa2:=wb2) (fx:=gx) (fy:=gy) (fz:=gz) (wb0:=wd0) (wb1:=wd1) (wb2:=wd2) (hlex:=by omega) (hley:=by omega) (hlez:=by omega) (hlfx:=by omega) (hlfy:=by omega) (hlfz:=by omega)) (.c (j:=7) rfl (.c (j:=8) rfl (.c (j:=9) rfl (.c (j:=10) rfl (.c (j:=11) rfl (.c (j:=12) rfl .n)))))) ?_
   rintro ⟨u5_1,u5_2,u5_3⟩ -
   dsimp only [List.append_eq,List.nil_append,List.cons_append]
   exact zp (hD12 (u2_1,u2_2,u2_3,u5_1,u5_2,u5_3,u9_1,u11_1)) (by kernel_rfl) ((.of rfl):SubM _ _) .rfl .rfl ((.of [0,1,2,3,4,5,6,7,8,9,10,11,12,13,14,15] rfl):SelR _ _ _)
  ·
   refine zO rfl rfl rfl rfl (zn zr89 rfl) (fun u10_1 _=> ?_)
   exact zp (hD14 (u2_1,u2_2,u2_3,u9_1,u10_1,u11_1)) (by kernel_rfl) ((.of rfl):SubM _ _) (zR 1 rfl (zR 0 rfl (zR 0 rfl .nil))) .rfl ((.of [0,1,2,3,4,5,6,7,8,9,10,11,12] rfl):SelR _ _ _)
 refine zL (X:=Wd×Wd×Wd×Nat×Nat) (k':=6) (L':=(lb 15 3295)) (fun (u2_1,u2_2,u2_3,u10_1,u11_1)=>([(10,.pointer (some ⟨u11_1,0,none⟩)),(9,.pointer (some ⟨u10_1,0,none⟩)),(16,.agg (cw [u2_1,u2_2,u2_3]).toArray),(21,.agg (cw [wa0,wa1,wa2]).toArray),(20,.agg (cw [wd0,wd1,wd2]).toArray),(18,.agg (cw [wd0,wd1,wd2]).toArray),(17,.agg (cw [wb0,wb1,wb2]).toArray),(7,.pointer (some ⟨b4,0,none⟩)),(6,.bool false),(5,.pointer (some ⟨b3,0,none⟩)),(4,.pointer (some ⟨b2,0,none⟩)),(3,.pointer (some ⟨b1,0,none⟩))],[boxA u11_1 89 [.bool false,.slice none 0 0,.bool false,.slice none 0 0,.bool false,.slice none 0 0],boxA u10_1 89 [.bool false,.slice none 0 0,.bool false,.slice none 0 0,.bool false,.slice none 0 0]],[boxA b4 89 [.bool false,.slice none 0 0,.bool false,.slice none 0 0,.bool false,.slice none 0 0],boxA b3 89 (cw [wd0,wd1,wd2]),boxA b2 89 (cw [wb0,wb1,wb2]),boxA b1 89 (cw [wa0,wa1,wa2])],[zF u2_1 (ey*fz - ez*fy),zF u2_2 (ez*fx - ex*fz),zF u2_3 (ex*fy - ey*fx),zF wz 0,zF wa0 ex,zF wa1 ey,zF wa2 ez,zF wb0 fx,zF wb1 fy,zF wb2 fz,zF wd0 gx,zF wd1 gy,zF wd2 gz])) ?_ (fun hD21=> ?_)
 ·
  rintro ⟨u2_1,u2_2,u2_3,u10_1,u11_1⟩
  dsimp only [cw]
  refine zMa 5 9 (by kernel_rfl) ?_ ?_
  ·
   refine zu rfl rfl rfl rfl (.c rfl (.c rfl .n)) ce61 (zka (ex:=fx) (ey:=fy) (ez:=fz) (wa0:=wb0) (wa1:=wb1) (wa2:=wb2) (fx:=gx) (fy:=gy) (fz:=gz) (wb0:=wd0) (wb1:=wd1) (wb2:=wd2) (hlex:=by omega) (hley:=by omega) (hlez:=by omega) (hlfx:=by omega) (hlfy:=by omega) (hlfz:=by omega)) (.c (j:=7) rfl (.c (j:=8) rfl (.c (j:=9) rfl (.c (j:=10) rfl (.c (j:=11) rfl (.c (j:=12) rfl .n)))))) ?_
   rintro ⟨u5_1,u5_2,u5_3⟩ -
   dsimp only [List.append_eq,List.nil_append,List.cons_append]
   exact zp (hD13 (u2_1,u2_2,u2_3,u5_1,u5_2,u5_3,u10_1,u11_1)) (by kernel_rfl) ((.of rfl):SubM _ _) .rfl .rfl ((.of [0,1,2,3,4,5,6,7,8,9,10,11,12,13,14,15] rfl):SelR _ _ _)
  ·
   refine zO rfl rfl rfl rfl (zn zr89 rfl) (fun u9_1 _=> ?_)
   exact zp (hD14 (u2_1,u2_2,u2_3,u9_1,u10_1,u11_1)) (by kernel_rfl) ((.of rfl):SubM _ _) (zR 1 rfl (zR 1 rfl (zR 0 rfl .nil))) .rfl ((.of [0,1,2,3,4,5,6,7,8,9,10,11,12] rfl):SelR _ _ _)
 refine zL (X:=Nat×Nat×Nat) (k':=6) (L':=(lb 15 3803)) (fun (u9_1,u10_1,u11_1)=>([(10,.pointer (some ⟨u11_1,0,none⟩)),(9,.pointer (some ⟨u10_1,0,none⟩)),(8,.pointer (some ⟨u9_1,0,none⟩)),(21,.agg (cw [wa0,wa1,wa2]).toArray),(20,.agg (cw [wd0,wd1,wd2]).toArray),(18,.agg (cw [wd0,wd1,wd2]).toArray),(17,.agg (cw [wb0,wb1,wb2]).toArray),(15,.agg (cw [wb0,wb1,wb2]).toArray),(14,.agg (cw [wa0,wa1,wa2]).toArray),(7,.pointer (some ⟨b4,0,none⟩)),(6,.bool false),(5,.pointer (some ⟨b3,0,none⟩)),(4,.pointer (some ⟨b2,0,none⟩)),(3,.pointer (some ⟨b1,0,none⟩))],[boxA u11_1 89 [.bool false,.slice none 0 0,.bool false,.slice none 0 0,.bool false,.slice none 0 0],boxA u10_1 89 [.bool false,.slice none 0 0,.bool false,.slice none 0 0,.bool false,.slice none 0 0],boxA u9_1 89 [.bool false,.slice none 0 0,.bool false,.slice none 0 0,.bool false,.slice none 0 0]],[boxA b4 89 [.bool false,.slice none 0 0,.bool false,.slice none 0 0,.bool false,.slice none 0 0],boxA b3 89 (cw [wd0,wd1,wd2]),boxA b2 89 (cw [wb0,wb1,wb2]),boxA b1 89 (cw [wa0,wa1,wa2])],[zF wz 0,zF wa0 ex,zF wa1 ey,zF wa2 ez,zF wb0 fx,zF wb1 fy,zF wb2 fz,zF wd0 gx,zF wd1 gy,zF wd2 gz])) ?_ (fun hD22=> ?_)
 ·
  rintro ⟨u9_1,u10_1,u11_1⟩
  dsimp only [cw]
  refine zE 2 (by kernel_rfl) ?_
  ·
   refine zu rfl rfl rfl rfl (.c rfl (.c rfl .n)) ce61 (zka (ex:=ex) (ey:=ey) (ez:=ez) (wa0:=wa0) (wa1:=wa1) (wa2:=wa2) (fx:=fx) (fy:=fy) (fz:=fz) (wb0:=wb0) (wb1:=wb1) (wb2:=wb2) (hlex:=by omega) (hley:=by omega) (hlez:=by omega) (hlfx:=by omega) (hlfy:=by omega) (hlfz:=by omega)) (.c (j:=1) rfl (.c (j:=2) rfl (.c (j:=3) rfl (.c (j:=4) rfl (.c (j:=5) rfl (.c (j:=6) rfl .n)))))) ?_
   rintro ⟨u2_1,u2_2,u2_3⟩ -
   dsimp only [List.append_eq,List.nil_append,List.cons_append]
   exact zp (hD14 (u2_1,u2_2,u2_3,u9_1,u10_1,u11_1)) (by kernel_rfl) ((.of rfl):SubM _ _) .rfl .rfl ((.of [0,1,2,3,4,5,6,7,8,9,10,11,12] rfl):SelR _ _ _)
 refine zL (X:=Wd×Wd×Wd×Wd×Wd×Wd) (k':=7) (L':=(lb 15 255)) (fun (u2_1,u2_2,u2_3,u5_1,u5_2,u5_3)=>([(19,.agg (cw [u5_1,u5_2,u5_3]).toArray),(16,.agg (cw [u2_1,u2_2,u2_3]).toArray),(21,.agg (cw [wa0,wa1,wa2]).toArray),(20,.agg (cw [wd0,wd1,wd2]).toArray),(7,.pointer (some ⟨b4,0,none⟩)),(6,.bool false),(5,.pointer (some ⟨b3,0,none⟩)),(4,.pointer (some ⟨b2,0,none⟩)),(3,.pointer (some ⟨b1,0,none⟩))],[],[boxA b4 89 [.bool false,.slice none 0 0,.bool false,.slice none 0 0,.bool false,.slice none 0 0],boxA b3 89 (cw [wd0,wd1,wd2]),boxA b2 89 (cw [wb0,wb1,wb2]),boxA b1 89 (cw [wa0,wa1,wa2])],[zF u5_1 (fy*gz - fz*gy),zF u5_2 (fz*gx - fx*gz),zF u5_3 (fx*gy - fy*gx),zF u2_1 (ey*fz - ez*fy),zF u2_2 (ez*fx - ex*fz),zF u2_3 (ex*fy - ey*fx),zF wz 0,zF wa0 ex,zF wa1 ey,zF wa2 ez,zF wb0 fx,zF wb1 fy,zF wb2 fz,zF wd0 gx,zF wd1 gy,zF wd2 gz])) ?_ (fun hD23=> ?_)
 ·
  rintro ⟨u2_1,u2_2,u2_3,u5_1,u5_2,u5_3⟩
  dsimp only [cw]
  refine zMc 8 9 10 11 (by kernel_rfl) ?_ ?_ ?_ ?_
  ·
   refine zu rfl rfl rfl rfl (.c rfl (.c rfl .n)) ce61 (zka (ex:=gx) (ey:=gy) (ez:=gz) (wa0:=wd0) (wa1:=wd1) (wa2:=wd2) (fx:=ex) (fy:=ey) (fz:=ez) (wb0:=wa0) (wb1:=wa1) (wb2:=wa2) (hlex:=by omega) (hley:=by omega) (hlez:=by omega) (hlfx:=by omega) (hlfy:=by omega) (hlfz:=by omega)) (.c (j:=13) rfl (.c (j:=14) rfl (.c (j:=15) rfl (.c (j:=7) rfl (.c (j:=8) rfl (.c (j:=9) rfl .n)))))) ?_
   rintro ⟨u8_1,u8_2,u8_3⟩ -
   dsimp only [List.append_eq,List.nil_append,List.cons_append]
   exact zp (hD15 (u2_1,u2_2,u2_3,u5_1,u5_2,u5_3,u8_1,u8_2,u8_3)) (by kernel_rfl) ((.of rfl):SubM _ _) .rfl .rfl ((.of [0,1,2,3,4,5,6,7,8,9,10,11,12,13,14,15,16,17,18] rfl):SelR _ _ _)
  ·
   refine zO rfl rfl rfl rfl (zn zr89 rfl) (fun u9_1 _=> ?_)
   exact zp (hD16 (u2_1,u2_2,u2_3,u5_1,u5_2,u5_3,u9_1)) (by kernel_rfl) ((.of rfl):SubM _ _) .rfl .rfl ((.of [0,1,2,3,4,5,6,7,8,9,10,11,12,13,14,15] rfl):SelR _ _ _)
  ·
   refine zO rfl rfl rfl rfl (zn zr89 rfl) (fun u10_1 _=> ?_)
   exact zp (hD17 (u2_1,u2_2,u2_3,u5_1,u5_2,u5_3,u10_1)) (by kernel_rfl) ((.of rfl):SubM _ _) .rfl .rfl ((.of [0,1,2,3,4,5,6,7,8,9,10,11,12,13,14,15] rfl):SelR _ _ _)
  ·
   refine zO rfl rfl rfl rfl (zn zr89 rfl) (fun u11_1 _=> ?_)
   exact zp (hD18 (u2_1,u2_2,u2_3,u5_1,u5_2,u5_3,u11_1)) (by kernel_rfl) ((.of rfl):SubM _ _) .rfl .rfl ((.of [0,1,2,3,4,5,6,7,8,9,10,11,12,13,14,15] rfl):SelR _ _ _)
 refine zL (X:=Wd×Wd×Wd×Nat) (k':=7) (L':=(lb 15 735)) (fun (u2_1,u2_2,u2_3,u9_1)=>([(8,.pointer (some ⟨u9_1,0,none⟩)),(16,.agg (cw [u2_1,u2_2,u2_3]).toArray),(21,.agg (cw [wa0,wa1,wa2]).toArray),(20,.agg (cw [wd0,wd1,wd2]).toArray),(18,.agg (cw [wd0,wd1,wd2]).toArray),(17,.agg (cw [wb0,wb1,wb2]).toArray),(7,.pointer (some ⟨b4,0,none⟩)),(6,.bool false),(5,.pointer (some ⟨b3,0,none⟩)),(4,.pointer (some ⟨b2,0,none⟩)),(3,.pointer (some ⟨b1,0,none⟩))],[boxA u9_1 89 [.bool false,.slice none 0 0,.bool false,.slice none 0 0,.bool false,.slice none 0 0]],[boxA b4 89 [.bool false,.slice none 0 0,.bool false,.slice none 0 0,.bool false,.slice none 0 0],boxA b3 89 (cw [wd0,wd1,wd2]),boxA b2 89 (cw [wb0,wb1,wb2]),boxA b1 89 (cw [wa0,wa1,wa2])],[zF u2_1 (ey*fz - ez*fy),zF u2_2 (ez*fx - ex*fz),zF u2_3 (ex*fy - ey*fx),zF wz 0,zF wa0 ex,zF wa1 ey,zF wa2 ez,zF wb0 fx,zF wb1 fy,zF wb2 fz,zF wd0 gx,zF wd1 gy,zF wd2 gz])) ?_ (fun hD24=> ?_)
 ·
  rintro ⟨u2_1,u2_2,u2_3,u9_1⟩
  dsimp only [cw]
  refine zPa 5 10 11 (by kernel_rfl) ?_ ?_ ?_
  ·
   refine zu rfl rfl rfl rfl (.c rfl (.c rfl .n)) ce61 (zka (ex:=fx) (ey:=fy) (ez:=fz) (wa0:=wb0) (wa1:=wb1) (wa2:=wb2) (fx:=gx) (fy:=gy) (fz:=gz) (wb0:=wd0) (wb1:=wd1) (wb2:=wd2) (hlex:=by omega) (hley:=by omega) (hlez:=by omega) (hlfx:=by omega) (hlfy:=by omega) (hlfz:=by omega)) (.c (j:=7) rfl (.c (j:=8) rfl (.c (j:=9) rfl (.c (j:=10) rfl (.c (j:=11) rfl (.c (j:=12) rfl .n)))))) ?_
   rintro ⟨u5_1,u5_2,u5_3⟩ -
   dsimp only [List.append_eq,List.nil_append,List.cons_append]
   exact zp (hD16 (u2_1,u2_2,u2_3,u5_1,u5_2,u5_3,u9_1)) (by kernel_rfl) ((.of rfl):SubM _ _) .rfl .rfl ((.of [0,1,2,3,4,5,6,7,8,9,10,11,12,13,14,15] rfl):SelR _ _ _)
  ·
   refine zO rfl rfl rfl rfl (zn zr89 rfl) (fun u10_1 _=> ?_)
   exact zp (hD19 (u2_1,u2_2,u2_3,u9_1,u10_1)) (by kernel_rfl) ((.of rfl):SubM _ _) .rfl .rfl ((.of [0,1,2,3,4,5,6,7,8,9,10,11,12] rfl):SelR _ _ _)
  ·
   refine zO rfl rfl rfl rfl (zn zr89 rfl) (fun u11_1 _=> ?_)
   exact zp (hD20 (u2_1,u2_2,u2_3,u9_1,u11_1)) (by kernel_rfl) ((.of rfl):SubM _ _) .rfl .rfl ((.of [0,1,2,3,4,5,6,7,8,9,10,11,12] rfl):SelR _ _ _)
 refine zL (X:=Wd×Wd×Wd×Nat) (k':=7) (L':=(lb 15 1247)) (fun (u2_1,u2_2,u2_3,u10_1)=>([(9,.pointer (some ⟨u10_1,0,none⟩)),(16,.agg (cw [u2_1,u2_2,u2_3]).toArray),(21,.agg (cw [wa0,wa1,wa2]).toArray),(20,.agg (cw [wd0,wd1,wd2]).toArray),(18,.agg (cw [wd0,wd1,wd2]).toArray),(17,.agg (cw [wb0,wb1,wb2]).toArray),(7,.pointer (some ⟨b4,0,none⟩)),(6,.bool false),(5,.pointer (some ⟨b3,0,none⟩)),(4,.pointer (some ⟨b2,0,none⟩)),(3,.pointer (some ⟨b1,0,none⟩))],[boxA u10_1 89 [.bool false,.slice none 0 0,.bool false,.slice none 0 0,.bool false,.slice none 0 0]],[boxA b4 89 [.bool false,.slice none 0 0,.bool false,.slice none 0 0,.bool false,.slice none 0 0],boxA b3 89 (cw [wd0,wd1,wd2]),boxA b2 89 (cw [wb0,wb1,wb2]),boxA b1 89 (cw [wa0,wa1,wa2])],[zF u2_1 (ey*fz - ez*fy),zF u2_2 (ez*fx - ex*fz),zF u2_3 (ex*fy - ey*fx),zF wz 0,zF wa0 ex,zF wa1 ey,zF wa2 ez,zF wb0 fx,zF wb1 fy,zF wb2 fz,zF wd0 gx,zF wd1 gy,zF wd2 gz])) ?_ (fun hD25=> ?_)
 ·
  rintro ⟨u2_1,u2_2,u2_3,u10_1⟩
  dsimp only [cw]
  refine zPa 5 9 11 (by kernel_rfl) ?_ ?_ ?_
  ·
   refine zu rfl rfl rfl rfl (.c rfl (.c rfl .n)) ce61 (zka (ex:=fx) (ey:=fy) (ez:=fz) (wa0:=wb0) (wa1:=wb1) (wa2:=wb2) (fx:=gx) (fy:=gy) (fz:=gz) (wb0:=wd0) (wb1:=wd1) (wb2:=wd2) (hlex:=by omega) (hley:=by omega) (hlez:=by omega) (hlfx:=by omega) (hlfy:=by omega) (hlfz:=by omega)) (.c (j:=7) rfl (.c (j:=8) rfl (.c (j:=9) rfl (.c (j:=10) rfl (.c (j:=11) rfl (.c (j:=12) rfl .n)))))) ?_
   rintro ⟨u5_1,u5_2,u5_3⟩ -
   dsimp only [List.append_eq,List.nil_append,List.cons_append]
   exact zp (hD17 (u2_1,u2_2,u2_3,u5_1,u5_2,u5_3,u10_1)) (by kernel_rfl) ((.of rfl):SubM _ _) .rfl .rfl ((.of [0,1,2,3,4,5,6,7,8,9,10,11,12,13,14,15] rfl):SelR _ _ _)
  ·
   refine zO rfl rfl rfl rfl (zn zr89 rfl) (fun u9_1 _=> ?_)
   exact zp (hD19 (u2_1,u2_2,u2_3,u9_1,u10_1)) (by kernel_rfl) ((.of rfl):SubM _ _) (zR 1 rfl (zR 0 rfl .nil)) .rfl ((.of [0,1,2,3,4,5,6,7,8,9,10,11,12] rfl):SelR _ _ _)
  ·
   refine zO rfl rfl rfl rfl (zn zr89 rfl) (fun u11_1 _=> ?_)
   exact zp (hD21 (u2_1,u2_2,u2_3,u10_1,u11_1)) (by kernel_rfl) ((.of rfl):SubM _ _) .rfl .rfl ((.of [0,1,2,3,4,5,6,7,8,9,10,11,12] rfl):SelR _ _ _)
 refine zL (X:=Wd×Wd×Wd×Nat) (k':=7) (L':=(lb 15 2271)) (fun (u2_1,u2_2,u2_3,u11_1)=>([(10,.pointer (some ⟨u11_1,0,none⟩)),(16,.agg (cw [u2_1,u2_2,u2_3]).toArray),(21,.agg (cw [wa0,wa1,wa2]).toArray),(20,.agg (cw [wd0,wd1,wd2]).toArray),(18,.agg (cw [wd0,wd1,wd2]).toArray),(17,.agg (cw [wb0,wb1,wb2]).toArray),(7,.pointer (some ⟨b4,0,none⟩)),(6,.bool false),(5,.pointer (some ⟨b3,0,none⟩)),(4,.pointer (some ⟨b2,0,none⟩)),(3,.pointer (some ⟨b1,0,none⟩))],[boxA u11_1 89 [.bool false,.slice none 0 0,.bool false,.slice none 0 0,.bool false,.slice none 0 0]],[boxA b4 89 [.bool false,.slice none 0 0,.bool false,.slice none 0 0,.bool false,.slice none 0 0],boxA b3 89 (cw [wd0,wd1,wd2]),boxA b2 89 (cw [wb0,wb1,wb2]),boxA b1 89 (cw [wa0,wa1,wa2])],[zF u2_1 (ey*fz - ez*fy),zF u2_2 (ez*fx - ex*fz),zF u2_3 (ex*fy - ey*fx),zF wz 0,zF wa0 ex,zF wa1 ey,zF wa2 ez,zF wb0 fx,zF wb1 fy,zF wb2 fz,zF wd0 gx,zF wd1 gy,zF wd2 gz])) ?_ (fun hD26=> ?_)
 ·
  rintro ⟨u2_1,u2_2,u2_3,u11_1⟩
  dsimp only [cw]
  refine zPa 5 9 10 (by kernel_rfl) ?_ ?_ ?_
  ·
   refine zu rfl rfl rfl rfl (.c rfl (.c rfl .n)) ce61 (zka (ex:=fx) (ey:=fy) (ez:=fz) (wa0:=wb0) (wa1:=wb1) (wa2:=wb2) (fx:=gx) (fy:=gy) (fz:=gz) (wb0:=wd0) (wb1:=wd1) (wb2:=wd2) (hlex:=by omega) (hley:=by omega) (hlez:=by omega) (hlfx:=by omega) (hlfy:=by omega) (hlfz:=by omega)) (.c (j:=7) rfl (.c (j:=8) rfl (.c (j:=9) rfl (.c (j:=10) rfl (.c (j:=11) rfl (.c (j:=12) rfl .n)))))) ?_
   rintro ⟨u5_1,u5_2,u5_3⟩ -
   dsimp only [List.append_eq,List.nil_append,List.cons_append]
   exact zp (hD18 (u2_1,u2_2,u2_3,u5_1,u5_2,u5_3,u11_1)) (by kernel_rfl) ((.of rfl):SubM _ _) .rfl .rfl ((.of [0,1,2,3,4,5,6,7,8,9,10,11,12,13,14,15] rfl):SelR _ _ _)
  ·
   refine zO rfl rfl rfl rfl (zn zr89 rfl) (fun u9_1 _=> ?_)
   exact zp (hD20 (u2_1,u2_2,u2_3,u9_1,u11_1)) (by kernel_rfl) ((.of rfl):SubM _ _) (zR 1 rfl (zR 0 rfl .nil)) .rfl ((.of [0,1,2,3,4,5,6,7,8,9,10,11,12] rfl):SelR _ _ _)
  ·
   refine zO rfl rfl rfl rfl (zn zr89 rfl) (fun u10_1 _=> ?_)
   exact zp (hD21 (u2_1,u2_2,u2_3,u10_1,u11_1)) (by kernel_rfl) ((.of rfl):SubM _ _) (zR 1 rfl (zR 0 rfl .nil)) .rfl ((.of [0,1,2,3,4,5,6,7,8,9,10,11,12] rfl):SelR _ _ _)
 refine zL (X:=Nat×Nat) (k':=7) (L':=(lb 15 1755)) (fun (u9_1,u10_1)=>([(9,.pointer (some ⟨u10_1,0,none⟩)),(8,.pointer (some ⟨u9_1,0,none⟩)),(21,.agg (cw [wa0,wa1,wa2]).toArray),(20,.agg (cw [wd0,wd1,wd2]).toArray),(18,.agg (cw [wd0,wd1,wd2]).toArray),(17,.agg (cw [wb0,wb1,wb2]).toArray),(15,.agg (cw [wb0,wb1,wb2]).toArray),(14,.agg (cw [wa0,wa1,wa2]).toArray),(7,.pointer (some ⟨b4,0,none⟩)),(6,.bool false),(5,.pointer (some ⟨b3,0,none⟩)),(4,.pointer (some ⟨b2,0,none⟩)),(3,.pointer (some ⟨b1,0,none⟩))],[boxA u10_1 89 [.bool false,.slice none 0 0,.bool false,.slice none 0 0,.bool false,.slice none 0 0],boxA u9_1 89 [.bool false,.slice none 0 0,.bool false,.slice none 0 0,.bool false,.slice none 0 0]],[boxA b4 89 [.bool false,.slice none 0 0,.bool false,.slice none 0 0,.bool false,.slice none 0 0],boxA b3 89 (cw [wd0,wd1,wd2]),boxA b2 89 (cw [wb0,wb1,wb2]),boxA b1 89 (cw [wa0,wa1,wa2])],[zF wz 0,zF wa0 ex,zF wa1 ey,zF wa2 ez,zF wb0 fx,zF wb1 fy,zF wb2 fz,zF wd0 gx,zF wd1 gy,zF wd2 gz])) ?_ (fun hD27=> ?_)
 ·
  rintro ⟨u9_1,u10_1⟩
  dsimp only [cw]
  refine zMa 2 11 (by kernel_rfl) ?_ ?_
  ·
   refine zu rfl rfl rfl rfl (.c rfl (.c rfl .n)) ce61 (zka (ex:=ex) (ey:=ey) (ez:=ez) (wa0:=wa0) (wa1:=wa1) (wa2:=wa2) (fx:=fx) (fy:=fy) (fz:=fz) (wb0:=wb0) (wb1:=wb1) (wb2:=wb2) (hlex:=by omega) (hley:=by omega) (hlez:=by omega) (hlfx:=by omega) (hlfy:=by omega) (hlfz:=by omega)) (.c (j:=1) rfl (.c (j:=2) rfl (.c (j:=3) rfl (.c (j:=4) rfl (.c (j:=5) rfl (.c (j:=6) rfl .n)))))) ?_
   rintro ⟨u2_1,u2_2,u2_3⟩ -
   dsimp only [List.append_eq,List.nil_append,List.cons_append]
   exact zp (hD19 (u2_1,u2_2,u2_3,u9_1,u10_1)) (by kernel_rfl) ((.of rfl):SubM _ _) .rfl .rfl ((.of [0,1,2,3,4,5,6,7,8,9,10,11,12] rfl):SelR _ _ _)
  ·
   refine zO rfl rfl rfl rfl (zn zr89 rfl) (fun u11_1 _=> ?_)
   exact zp (hD22 (u9_1,u10_1,u11_1)) (by kernel_rfl) ((.of rfl):SubM _ _) .rfl .rfl ((.of [0,1,2,3,4,5,6,7,8,9] rfl):SelR _ _ _)
 refine zL (X:=Nat×Nat) (k':=7) (L':=(lb 15 2779)) (fun (u9_1,u11_1)=>([(10,.pointer (some ⟨u11_1,0,none⟩)),(8,.pointer (some ⟨u9_1,0,none⟩)),(21,.agg (cw [wa0,wa1,wa2]).toArray),(20,.agg (cw [wd0,wd1,wd2]).toArray),(18,.agg (cw [wd0,wd1,wd2]).toArray),(17,.agg (cw [wb0,wb1,wb2]).toArray),(15,.agg (cw [wb0,wb1,wb2]).toArray),(14,.agg (cw [wa0,wa1,wa2]).toArray),(7,.pointer (some ⟨b4,0,none⟩)),(6,.bool false),(5,.pointer (some ⟨b3,0,none⟩)),(4,.pointer (some ⟨b2,0,none⟩)),(3,.pointer (some ⟨b1,0,none⟩))],[boxA u11_1 89 [.bool false,.slice none 0 0,.bool false,.slice none 0 0,.bool false,.slice none 0 0],boxA u9_1 89 [.bool false,.slice none 0 0,.bool false,.slice none 0 0,.bool false,.slice none 0 0]],[boxA b4 89 [.bool false,.slice none 0 0,.bool false,.slice none 0 0,.bool false,.slice none 0 0],boxA b3 89 (cw [wd0,wd1,wd2]),boxA b2 89 (cw [wb0,wb1,wb2]),boxA b1 89 (cw [wa0,wa1,wa2])],[zF wz 0,zF wa0 ex,zF wa1 ey,zF wa2 ez,zF wb0 fx,zF wb1 fy,zF wb2 fz,zF wd0 gx,zF wd1 gy,zF wd2 gz])) ?_ (fun hD28=> ?_)
 ·
  rintro ⟨u9_1,u11_1⟩
  dsimp only [cw]
  refine zMa 2 10 (by kernel_rfl) ?_ ?_
  ·
   refine zu rfl rfl rfl rfl (.c rfl (.c rfl .n)) ce61 (zka (ex:=ex) (ey:=ey) (ez:=ez) (wa0:=wa0) (wa1:=wa1) (wa2:=wa2) (fx:=fx) (fy:=fy) (fz:=fz) (wb0:=wb0) (wb1:=wb1) (wb2:=wb2) (hlex:=by omega) (hley:=by omega) (hlez:=by omega) (hlfx:=by omega) (hlfy:=by omega) (hlfz:=by omega)) (.c (j:=1) rfl (.c (j:=2) rfl (.c (j:=3) rfl (.c (j:=4) rfl (.c (j:=5) rfl (.c (j:=6) rfl .n)))))) ?_
   rintro ⟨u2_1,u2_2,u2_3⟩ -
   dsimp only [List.append_eq,List.nil_append,List.cons_append]
   exact zp (hD20 (u2_1,u2_2,u2_3,u9_1,u11_1)) (by kernel_rfl) ((.of rfl):SubM _ _) .rfl .rfl ((.of [0,1,2,3,4,5,6,7,8,9,10,11,12] rfl):SelR _ _ _)
  ·
   refine zO rfl rfl rfl rfl (zn zr89 rfl) (fun u10_1 _=> ?_)
   exact zp (hD22 (u9_1,u10_1,u11_1)) (by kernel_rfl) ((.of rfl):SubM _ _) (zR 1 rfl (zR 0 rfl (zR 0 rfl .nil))) .rfl ((.of [0,1,2,3,4,5,6,7,8,9] rfl):SelR _ _ _)
 refine zL (X:=Nat×Nat) (k':=7) (L':=(lb 15 3291)) (fun (u10_1,u11_1)=>([(10,.pointer (some ⟨u11_1,0,none⟩)),(9,.pointer (some ⟨u10_1,0,none⟩)),(21,.agg (cw [wa0,wa1,wa2]).toArray),(20,.agg (cw [wd0,wd1,wd2]).toArray),(18,.agg (cw [wd0,wd1,wd2]).toArray),(17,.agg (cw [wb0,wb1,wb2]).toArray),(15,.agg (cw [wb0,wb1,wb2]).toArray),(14,.agg (cw [wa0,wa1,wa2]).toArray),(7,.pointer (some ⟨b4,0,none⟩)),(6,.bool false),(5,.pointer (some ⟨b3,0,none⟩)),(4,.pointer (some ⟨b2,0,none⟩)),(3,.pointer (some ⟨b1,0,none⟩))],[boxA u11_1 89 [.bool false,.slice none 0 0,.bool false,.slice none 0 0,.bool false,.slice none 0 0],boxA u10_1 89 [.bool false,.slice none 0 0,.bool false,.slice none 0 0,.bool false,.slice none 0 0]],[boxA b4 89 [.bool false,.slice none 0 0,.bool false,.slice none 0 0,.bool false,.slice none 0 0],boxA b3 89 (cw [wd0,wd1,wd2]),boxA b2 89 (cw [wb0,wb1,wb2]),boxA b1 89 (cw [wa0,wa1,wa2])],[zF wz 0,zF wa0 ex,zF wa1 ey,zF wa2 ez,zF wb0 fx,zF wb1 fy,zF wb2 fz,zF wd0 gx,zF wd1 gy,zF wd2 gz])) ?_ (fun hD29=> ?_)
 ·
  rintro ⟨u10_1,u11_1⟩
  dsimp only [cw]
  refine zMa 2 9 (by kernel_rfl) ?_ ?_
  ·
   refine zu rfl rfl rfl rfl (.c rfl (.c rfl .n)) ce61 (zka (ex:=ex) (ey:=ey) (ez:=ez) (wa0:=wa0) (wa1:=wa1) (wa2:=wa2) (fx:=fx) (fy:=fy) (fz:=fz) (wb0:=wb0) (wb1:=wb1) (wb2:=wb2) (hlex:=by omega) (hley:=by omega) (hlez:=by omega) (hlfx:=by omega) (hlfy:=by omega) (hlfz:=by omega)) (.c (j:=1) rfl (.c (j:=2) rfl (.c (j:=3) rfl (.c (j:=4) rfl (.c (j:=5) rfl (.c (j:=6) rfl .n)))))) ?_
   rintro ⟨u2_1,u2_2,u2_3⟩ -
   dsimp only [List.append_eq,List.nil_append,List.cons_append]
   exact zp (hD21 (u2_1,u2_2,u2_3,u10_1,u11_1)) (by kernel_rfl) ((.of rfl):SubM _ _) .rfl .rfl ((.of [0,1,2,3,4,5,6,7,8,9,10,11,12] rfl):SelR _ _ _)
  ·
   refine zO rfl rfl rfl rfl (zn zr89 rfl) (fun u9_1 _=> ?_)
   exact zp (hD22 (u9_1,u10_1,u11_1)) (by kernel_rfl) ((.of rfl):SubM _ _) (zR 1 rfl (zR 1 rfl (zR 0 rfl .nil))) .rfl ((.of [0,1,2,3,4,5,6,7,8,9] rfl):SelR _ _ _)
 refine zL (X:=Wd×Wd×Wd) (k':=8) (L':=(lb 15 223)) (fun (u2_1,u2_2,u2_3)=>([(16,.agg (cw [u2_1,u2_2,u2_3]).toArray),(21,.agg (cw [wa0,wa1,wa2]).toArray),(20,.agg (cw [wd0,wd1,wd2]).toArray),(18,.agg (cw [wd0,wd1,wd2]).toArray),(17,.agg (cw [wb0,wb1,wb2]).toArray),(7,.pointer (some ⟨b4,0,none⟩)),(6,.bool false),(5,.pointer (some ⟨b3,0,none⟩)),(4,.pointer (some ⟨b2,0,none⟩)),(3,.pointer (some ⟨b1,0,none⟩))],[],[boxA b4 89 [.bool false,.slice none 0 0,.bool false,.slice none 0 0,.bool false,.slice none 0 0],boxA b3 89 (cw [wd0,wd1,wd2]),boxA b2 89 (cw [wb0,wb1,wb2]),boxA b1 89 (cw [wa0,wa1,wa2])],[zF u2_1 (ey*fz - ez*fy),zF u2_2 (ez*fx - ex*fz),zF u2_3 (ex*fy - ey*fx),zF wz 0,zF wa0 ex,zF wa1 ey,zF wa2 ez,zF wb0 fx,zF wb1 fy,zF wb2 fz,zF wd0 gx,zF wd1 gy,zF wd2 gz])) ?_ (fun hD30=> ?_)
 ·
  rintro ⟨u2_1,u2_2,u2_3⟩
  dsimp only [cw]
  refine zMc 5 9 10 11 (by kernel_rfl) ?_ ?_ ?_ ?_
  ·
   refine zu rfl rfl rfl rfl (.c rfl (.c rfl .n)) ce61 (zka (ex:=fx) (ey:=fy) (ez:=fz) (wa0:=wb0) (wa1:=wb1) (wa2:=wb2) (fx:=gx) (fy:=gy) (fz:=gz) (wb0:=wd0) (wb1:=wd1) (wb2:=wd2) (hlex:=by omega) (hley:=by omega) (hlez:=by omega) (hlfx:=by omega) (hlfy:=by omega) (hlfz:=by omega)) (.c (j:=7) rfl (.c (j:=8) rfl (.c (j:=9) rfl (.c (j:=10) rfl (.c (j:=11) rfl (.c (j:=12) rfl .n)))))) ?_
   rintro ⟨u5_1,u5_2,u5_3⟩ -
   dsimp only [List.append_eq,List.nil_append,List.cons_append]
   exact zp (hD23 (u2_1,u2_2,u2_3,u5_1,u5_2,u5_3)) (by kernel_rfl) ((.of rfl):SubM _ _) .rfl .rfl ((.of [0,1,2,3,4,5,6,7,8,9,10,11,12,13,14,15] rfl):SelR _ _ _)
  ·
   refine zO rfl rfl rfl rfl (zn zr89 rfl) (fun u9_1 _=> ?_)
   exact zp (hD24 (u2_1,u2_2,u2_3,u9_1)) (by kernel_rfl) ((.of rfl):SubM _ _) .rfl .rfl ((.of [0,1,2,3,4,5,6,7,8,9,10,11,12] rfl):SelR _ _ _)
  ·
   refine zO rfl rfl rfl rfl (zn zr89 rfl) (fun u10_1 _=> ?_)
   exact zp (hD25 (u2_1,u2_2,u2_3,u10_1)) (by kernel_rfl) ((.of rfl):SubM _ _) .rfl .rfl ((.of [0,1,2,3,4,5,6,7,8,9,10,11,12] rfl):SelR _ _ _)
  ·
   refine zO rfl rfl rfl rfl (zn zr89 rfl) (fun u11_1 _=> ?_)
   exact zp (hD26 (u2_1,u2_2,u2_3,u11_1)) (by kernel_rfl) ((.of rfl):SubM _ _) .rfl .rfl ((.of [0,1,2,3,4,5,6,7,8,9,10,11,12] rfl):SelR _ _ _)
 refine zL (X:=Nat) (k':=8) (L':=(lb 15 731)) (fun u9_1=>([(8,.pointer (some ⟨u9_1,0,none⟩)),(21,.agg (cw [wa0,wa1,wa2]).toArray),(20,.agg (cw [wd0,wd1,wd2]).toArray),(18,.agg (cw [wd0,wd1,wd2]).toArray),(17,.agg (cw [wb0,wb1,wb2]).toArray),(15,.agg (cw [wb0,wb1,wb2]).toArray),(14,.agg (cw [wa0,wa1,wa2]).toArray),(7,.pointer (some ⟨b4,0,none⟩)),(6,.bool false),(5,.pointer (some ⟨b3,0,none⟩)),(4,.pointer (some ⟨b2,0,none⟩)),(3,.pointer (some ⟨b1,0,none⟩))],[boxA u9_1 89 [.bool false,.slice none 0 0,.bool false,.slice none 0 0,.bool false,.slice none 0 0]],[boxA b4 89 [.bool false,.slice none 0 0,.bool false,.slice none 0 0,.bool false,.slice none 0 0],boxA b3 89 (cw [wd0,wd1,wd2]),boxA b2 89 (cw [wb0,wb1,wb2]),boxA b1 89 (cw [wa0,wa1,wa2])],[zF wz 0,zF wa0 ex,zF wa1 ey,zF wa2 ez,zF wb0 fx,zF wb1 fy,zF wb2 fz,zF wd0 gx,zF wd1 gy,zF wd2 gz])) ?_ (fun hD31=> ?_)
 ·
  rintro u9_1
  dsimp only [cw]
  refine zPa 2 10 11 (by kernel_rfl) ?_ ?_ ?_
  ·
   refine zu rfl rfl rfl rfl (.c rfl (.c rfl .n)) ce61 (zka (ex:=ex) (ey:=ey) (ez:=ez) (wa0:=wa0) (wa1:=wa1) (wa2:=wa2) (fx:=fx) (fy:=fy) (fz:=fz) (wb0:=wb0) (wb1:=wb1) (wb2:=wb2) (hlex:=by omega) (hley:=by omega) (hlez:=by omega) (hlfx:=by omega) (hlfy:=by omega) (hlfz:=by omega)) (.c (j:=1) rfl (.c (j:=2) rfl (.c (j:=3) rfl (.c (j:=4) rfl (.c (j:=5) rfl (.c (j:=6) rfl .n)))))) ?_
   rintro ⟨u2_1,u2_2,u2_3⟩ -
   dsimp only [List.append_eq,List.nil_append,List.cons_append]
   exact zp (hD24 (u2_1,u2_2,u2_3,u9_1)) (by kernel_rfl) ((.of rfl):SubM _ _) .rfl .rfl ((.of [0,1,2,3,4,5,6,7,8,9,10,11,12] rfl):SelR _ _ _)
  ·
   refine zO rfl rfl rfl rfl (zn zr89 rfl) (fun u10_1 _=> ?_)
   exact zp (hD27 (u9_1,u10_1)) (by kernel_rfl) ((.of rfl):SubM _ _) .rfl .rfl ((.of [0,1,2,3,4,5,6,7,8,9] rfl):SelR _ _ _)
  ·
   refine zO rfl rfl rfl rfl (zn zr89 rfl) (fun u11_1 _=> ?_)
   exact zp (hD28 (u9_1,u11_1)) (by kernel_rfl) ((.of rfl):SubM _ _) .rfl .rfl ((.of [0,1,2,3,4,5,6,7,8,9] rfl):SelR _ _ _)
 refine zL (X:=Nat) (k':=8) (L':=(lb 15 1243)) (fun u10_1=>([(9,.pointer (some ⟨u10_1,0,none⟩)),(21,.agg (cw [wa0,wa1,wa2]).toArray),(20,.agg (cw [wd0,wd1,wd2]).toArray),(18,.agg (cw [wd0,wd1,wd2]).toArray),(17,.agg (cw [wb0,wb1,wb2]).toArray),(15,.agg (cw [wb0,wb1,wb2]).toArray),(14,.agg (cw [wa0,wa1,wa2]).toArray),(7,.pointer (some ⟨b4,0,none⟩)),(6,.bool false),(5,.pointer (some ⟨b3,0,none⟩)),(4,.pointer (some ⟨b2,0,none⟩)),(3,.pointer (some ⟨b1,0,none⟩))],[boxA u10_1 89 [.bool false,.slice none 0 0,.bool false,.slice none 0 0,.bool false,.slice none 0 0]],[boxA b4 89 [.bool false,.slice none 0 0,.bool false,.slice none 0 0,.bool false,.slice none 0 0],boxA b3 89 (cw [wd0,wd1,wd2]),boxA b2 89 (cw [wb0,wb1,wb2]),boxA b1 89 (cw [wa0,wa1,wa2])],[zF wz 0,zF wa0 ex,zF wa1 ey,zF wa2 ez,zF wb0 fx,zF wb1 fy,zF wb2 fz,zF wd0 gx,zF wd1 gy,zF wd2 gz])) ?_ (fun hD32=> ?_)
 ·
  rintro u10_1
  dsimp only [cw]
  refine zPa 2 9 11 (by kernel_rfl) ?_ ?_ ?_
  ·
   refine zu rfl rfl rfl rfl (.c rfl (.c rfl .n)) ce61 (zka (ex:=ex) (ey:=ey) (ez:=ez) (wa0:=wa0) (wa1:=wa1) (wa2:=wa2) (fx:=fx) (fy:=fy) (fz:=fz) (wb0:=wb0) (wb1:=wb1) (wb2:=wb2) (hlex:=by omega) (hley:=by omega) (hlez:=by omega) (hlfx:=by omega) (hlfy:=by omega) (hlfz:=by omega)) (.c (j:=1) rfl (.c (j:=2) rfl (.c (j:=3) rfl (.c (j:=4) rfl (.c (j:=5) rfl (.c (j:=6) rfl .n)))))) ?_
   rintro ⟨u2_1,u2_2,u2_3⟩ -
   dsimp only [List.append_eq,List.nil_append,List.cons_append]
   exact zp (hD25 (u2_1,u2_2,u2_3,u10_1)) (by kernel_rfl) ((.of rfl):SubM _ _) .rfl .rfl ((.of [0,1,2,3,4,5,6,7,8,9,10,11,12] rfl):SelR _ _ _)
  ·
   refine zO rfl rfl rfl rfl (zn zr89 rfl) (fun u9_1 _=> ?_)
   exact zp (hD27 (u9_1,u10_1)) (by kernel_rfl) ((.of rfl):SubM _ _) (zR 1 rfl (zR 0 rfl .nil)) .rfl ((.of [0,1,2,3,4,5,6,7,8,9] rfl):SelR _ _ _)
  ·
   refine zO rfl rfl rfl rfl (zn zr89 rfl) (fun u11_1 _=> ?_)
   exact zp (hD29 (u10_1,u11_1)) (by kernel_rfl) ((.of rfl):SubM _ _) .rfl .rfl ((.of [0,1,2,3,4,5,6,7,8,9] rfl):SelR _ _ _)
 refine zL (X:=Nat) (k':=8) (L':=(lb 15 2267)) (fun u11_1=>([(10,.pointer (some ⟨u11_1,0,none⟩)),(21,.agg (cw [wa0,wa1,wa2]).toArray),(20,.agg (cw [wd0,wd1,wd2]).toArray),(18,.agg (cw [wd0,wd1,wd2]).toArray),(17,.agg (cw [wb0,wb1,wb2]).toArray),(15,.agg (cw [wb0,wb1,wb2]).toArray),(14,.agg (cw [wa0,wa1,wa2]).toArray),(7,.pointer (some ⟨b4,0,none⟩)),(6,.bool false),(5,.pointer (some ⟨b3,0,none⟩)),(4,.pointer (some ⟨b2,0,none⟩)),(3,.pointer (some ⟨b1,0,none⟩))],[boxA u11_1 89 [.bool false,.slice none 0 0,.bool false,.slice none 0 0,.bool false,.slice none 0 0]],[boxA b4 89 [.bool false,.slice none 0 0,.bool false,.slice none 0 0,.bool false,.slice none 0 0],boxA b3 89 (cw [wd0,wd1,wd2]),boxA b2 89 (cw [wb0,wb1,wb2]),boxA b1 89 (cw [wa0,wa1,wa2])],[zF wz 0,zF wa0 ex,zF wa1 ey,zF wa2 ez,zF wb0 fx,zF wb1 fy,zF wb2 fz,zF wd0 gx,zF wd1 gy,zF wd2 gz])) ?_ (fun hD33=> ?_)
 ·
  rintro u11_1
  dsimp only [cw]
  refine zPa 2 9 10 (by kernel_rfl) ?_ ?_ ?_
  ·
   refine zu rfl rfl rfl rfl (.c rfl (.c rfl .n)) ce61 (zka (ex:=ex) (ey:=ey) (ez:=ez) (wa0:=wa0) (wa1:=wa1) (wa2:=wa2) (fx:=fx) (fy:=fy) (fz:=fz) (wb0:=wb0) (wb1:=wb1) (wb2:=wb2) (hlex:=by omega) (hley:=by omega) (hlez:=by omega) (hlfx:=by omega) (hlfy:=by omega) (hlfz:=by omega)) (.c (j:=1) rfl (.c (j:=2) rfl (.c (j:=3) rfl (.c (j:=4) rfl (.c (j:=5) rfl (.c (j:=6) rfl .n)))))) ?_
   rintro ⟨u2_1,u2_2,u2_3⟩ -
   dsimp only [List.append_eq,List.nil_append,List.cons_append]
   exact zp (hD26 (u2_1,u2_2,u2_3,u11_1)) (by kernel_rfl) ((.of rfl):SubM _ _) .rfl .rfl ((.of [0,1,2,3,4,5,6,7,8,9,10,11,12] rfl):SelR _ _ _)
  ·
   refine zO rfl rfl rfl rfl (zn zr89 rfl) (fun u9_1 _=> ?_)
   exact zp (hD28 (u9_1,u11_1)) (by kernel_rfl) ((.of rfl):SubM _ _) (zR 1 rfl (zR 0 rfl .nil)) .rfl ((.of [0,1,2,3,4,5,6,7,8,9] rfl):SelR _ _ _)
  ·
   refine zO rfl rfl rfl rfl (zn zr89 rfl) (fun u10_1 _=> ?_)
   exact zp (hD29 (u10_1,u11_1)) (by kernel_rfl) ((.of rfl):SubM _ _) (zR 1 rfl (zR 0 rfl .nil)) .rfl ((.of [0,1,2,3,4,5,6,7,8,9] rfl):SelR _ _ _)
 refine zMc 2 9 10 11 (by kernel_rfl) ?_ ?_ ?_ ?_
 ·
  refine zu rfl rfl rfl rfl (.c rfl (.c rfl .n)) ce61 (zka (ex:=ex) (ey:=ey) (ez:=ez) (wa0:=wa0) (wa1:=wa1) (wa2:=wa2) (fx:=fx) (fy:=fy) (fz:=fz) (wb0:=wb0) (wb1:=wb1) (wb2:=wb2) (hlex:=by omega) (hley:=by omega) (hlez:=by omega) (hlfx:=by omega) (hlfy:=by omega) (hlfz:=by omega)) (.c (j:=1) rfl (.c (j:=2) rfl (.c (j:=3) rfl (.c (j:=4) rfl (.c (j:=5) rfl (.c (j:=6) rfl .n)))))) ?_
  rintro ⟨u2_1,u2_2,u2_3⟩ -
  dsimp only [List.append_eq,List.nil_append,List.cons_append]
  exact zp (hD30 (u2_1,u2_2,u2_3)) (by kernel_rfl) ((.of rfl):SubM _ _) .rfl .rfl ((.of [0,1,2,3,4,5,6,7,8,9,10,11,12] rfl):SelR _ _ _)
 ·
  refine zO rfl rfl rfl rfl (zn zr89 rfl) (fun u9_1 _=> ?_)
  exact zp (hD31 u9_1) (by kernel_rfl) ((.of rfl):SubM _ _) .rfl .rfl ((.of [0,1,2,3,4,5,6,7,8,9] rfl):SelR _ _ _)
 ·
  refine zO rfl rfl rfl rfl (zn zr89 rfl) (fun u10_1 _=> ?_)
  exact zp (hD32 u10_1) (by kernel_rfl) ((.of rfl):SubM _ _) .rfl .rfl ((.of [0,1,2,3,4,5,6,7,8,9] rfl):SelR _ _ _)
 ·
  refine zO rfl rfl rfl rfl (zn zr89 rfl) (fun u11_1 _=> ?_)
  exact zp (hD33 u11_1) (by kernel_rfl) ((.of rfl):SubM _ _) .rfl .rfl ((.of [0,1,2,3,4,5,6,7,8,9] rfl):SelR _ _ _)
theorem zUc {ex:Int} {ey:Int} {ez:Int} {fx:Int} {fy:Int} {fz:Int} (hbex: -1073741824≤ex∧ex≤1073741824) (hbey: -1073741824≤ey∧ey≤1073741824) (hbez: -1073741824≤ez∧ez≤1073741824) (hbfx: -1073741824≤fx∧fx≤1073741824) (hbfy: -1073741824≤fy∧fy≤1073741824) (hbfz: -1073741824≤fz∧fz≤1073741824):Con Try.prog 106 [.agg #[.int .i64 ex,.int .i64 ey,.int .i64 ez],.agg #[.int .i64 fx,.int .i64 fy,.int .i64 fz]] [] [] (Y:=Unit) (fun y=>True) (fun y=> .bool (Ms.lbtw (ex,ey,ez) (fx,fy,fz))) (fun y=>[]) (fun y=>[]):=by
 refine zB Try.func106 rfl rfl rfl (fun c=> ?_)
 show RunC _ _ _ _ _ [(0,.agg #[.int .i64 ex,.int .i64 ey,.int .i64 ez]),(1,.agg #[.int .i64 fx,.int .i64 fy,.int .i64 fz])] [] []
 refine zh<|za<|zS rfl rfl (zca rfl rfl) (fun b1=> ?_)
 refine zS rfl rfl (zca rfl rfl) (fun b2=> ?_)
 refine r_pv rfl rfl (ze rfl)<|zj<|zc<|zh<|zh<|za<|r_u rfl rfl (zf 1 ty44 rfl rfl (.take (.take (.take .nil))))<|r_u rfl rfl (zf 0 ty44 rfl rfl (.take (.take (.take .nil))))<|zY rfl rfl (.c rfl (.c rfl .n)) ce104 (zrb (ex:=ex) (ey:=ey) (ez:=ez) (fx:=fx) (fy:=fy) (fz:=fz) (hbex:=by assumption) (hbey:=by assumption) (hbez:=by assumption) (hbfx:=by assumption) (hbfy:=by assumption) (hbfz:=by assumption)) (.n)<|r_pv rfl rfl (zK zr44 rfl Try.underlying44 sz3 .n .n)<|r_pv rfl rfl (zCd (p:=(ey*fz - ez*fy)=0∧(ez*fx - ex*fz)=0∧(ex*fy - ey*fx)=0) (by kernel_rfl) rfl rfl (zvc Try.underlying44 sz3 (zFb ty3 rfl rfl (zEb Try.underlying3) (zFb ty3 rfl rfl (zEb Try.underlying3) (zFb ty3 rfl rfl (zEb Try.underlying3) zld)))) (by simp [Bool.decide_and]))<|zj<|zc<|zI rfl (fun hcr=> ?_) (fun hcr=> ?_)
 ·
  refine zh<|za<|r_pv rfl rfl (ze rfl)<|zj<|zc<|zP<|zl ?_
  exact zG Try.results106 () trivial (zz rfl) (congrArg Value.bool (Ms.lbtw_0 hcr)) (ho:=(.n:PickO _ _ _)) (.n:SelR _ _ _)
 ·
  refine zw<|zc<|zh<|zh<|za<|r_pv rfl rfl (zb rfl)<|zj<|zc<|zr<|zSa<|zQ<|zh<|za<|r_pv rfl rfl (zD rfl rfl)<|zj<|zc<|zh<|zT rfl rfl<|zw<|zc<|zh<|zr<|zh<|za<|r_pv rfl rfl (zb rfl)<|r_pv rfl rfl (ze rfl)<|zj<|zc<|zLa (X:=Unit) (fun x=>True) (fun x=>[(35,.bool (decide (((0<ex)∧(0<fx))∨((ex<0)∧(fx<0))))),(5,.int .i64 0),(13,.int .i64 0),(12,.bool true),(11,.int .i64 0),(4,.bool false),(3,.pointer (some ⟨b2,0,none⟩)),(2,.pointer (some ⟨b1,0,none⟩))]) (fun x=>[boxA b2 44 [.int .i64 fx,.int .i64 fy,.int .i64 fz],boxA b1 44 [.int .i64 ex,.int .i64 ey,.int .i64 ez]]) (fun x=>[]) ?_ ?_
  ·
   refine za<|r_pv rfl rfl (zb rfl)<|r_pv rfl rfl (zg (i:=0) Try.underlying44 sz3 rfl rfl (by decide) rfl)<|r_u rfl rfl (zd 1 ty3 rfl rfl rfl)<|r_pv rfl rfl (zRa rfl rfl)<|zZ rfl rfl (zb rfl) (fun h3=> ?_) (fun h3=> ?_)
   ·
    refine r_pv rfl rfl (zb rfl)<|r_pv rfl rfl (zg (i:=0) Try.underlying44 sz3 rfl rfl (by decide) rfl)<|r_u rfl rfl (zd 0 ty3 rfl rfl rfl)<|r_pv rfl rfl (zRa rfl rfl)<|r_pv rfl rfl (zy rfl rfl)<|zZ rfl rfl (zb rfl) (fun h4=> ?_) (fun h4=> ?_)
    ·
     refine zi rfl rfl<|zi rfl rfl<|zi rfl rfl<|zi rfl rfl<|zi rfl rfl<|zi rfl rfl<|zi rfl rfl<|zi rfl rfl<|zi rfl rfl<|zi rfl rfl<|r_pv rfl rfl (zy rfl rfl)<|zj ?_
     exact zfa () (show True from by first|trivial|omega|simp_all) ((.e rfl (congrArg Value.bool (by first|(simp_all;done)|(simp_all;omega)|(simp;omega)|omega)) (.of rfl)):SubM _ _) (ho:=((.of [0,0] rfl):PickO _ _ _)) (.n:SelR _ _ _)
    ·
     refine r_pv rfl rfl (zb rfl)<|r_pv rfl rfl (zg (i:=0) Try.underlying44 sz3 rfl rfl (by decide) rfl)<|r_u rfl rfl (zd 1 ty3 rfl rfl rfl)<|r_pv rfl rfl (zD rfl rfl)<|zZ rfl rfl (zb rfl) (fun h5=> ?_) (fun h5=> ?_)
     ·
      refine r_pv rfl rfl (zb rfl)<|r_pv rfl rfl (zg (i:=0) Try.underlying44 sz3 rfl rfl (by decide) rfl)<|r_u rfl rfl (zd 0 ty3 rfl rfl rfl)<|r_pv rfl rfl (zD rfl rfl)<|r_pv rfl rfl (zy rfl rfl)<|r_pv rfl rfl (zy rfl rfl)<|zj ?_
      exact zfa () (show True from by first|trivial|omega|simp_all) ((.e rfl (congrArg Value.bool (by first|(simp_all;done)|(simp_all;omega)|(simp;omega)|omega)) (.of rfl)):SubM _ _) (ho:=((.of [0,0] rfl):PickO _ _ _)) (.n:SelR _ _ _)
     ·
      refine zi rfl rfl<|zi rfl rfl<|zi rfl rfl<|zi rfl rfl<|r_pv rfl rfl (zy rfl rfl)<|r_pv rfl rfl (zy rfl rfl)<|zj ?_
      exact zfa () (show True from by first|trivial|omega|simp_all) ((.e rfl (congrArg Value.bool (by first|(simp_all;done)|(simp_all;omega)|(simp;omega)|omega)) (.of rfl)):SubM _ _) (ho:=((.of [0,0] rfl):PickO _ _ _)) (.n:SelR _ _ _)
   ·
    refine zi rfl rfl<|zi rfl rfl<|zi rfl rfl<|zi rfl rfl<|r_pv rfl rfl (zy rfl rfl)<|r_pv rfl rfl (zb rfl)<|r_pv rfl rfl (zb rfl)<|r_pv rfl rfl (zg (i:=0) Try.underlying44 sz3 rfl rfl (by decide) rfl)<|r_u rfl rfl (zd 1 ty3 rfl rfl rfl)<|r_pv rfl rfl (zD rfl rfl)<|zZ rfl rfl (zb rfl) (fun h6=> ?_) (fun h6=> ?_)
    ·
     refine r_pv rfl rfl (zb rfl)<|r_pv rfl rfl (zg (i:=0) Try.underlying44 sz3 rfl rfl (by decide) rfl)<|r_u rfl rfl (zd 0 ty3 rfl rfl rfl)<|r_pv rfl rfl (zD rfl rfl)<|r_pv rfl rfl (zy rfl rfl)<|r_pv rfl rfl (zy rfl rfl)<|zj ?_
     exact zfa () (show True from by first|trivial|omega|simp_all) ((.e rfl (congrArg Value.bool (by first|(simp_all;done)|(simp_all;omega)|(simp;omega)|omega)) (.of rfl)):SubM _ _) (ho:=((.of [0,0] rfl):PickO _ _ _)) (.n:SelR _ _ _)
    ·
     refine zi rfl rfl<|zi rfl rfl<|zi rfl rfl<|zi rfl rfl<|r_pv rfl rfl (zy rfl rfl)<|r_pv rfl rfl (zy rfl rfl)<|zj ?_
     exact zfa () (show True from by first|trivial|omega|simp_all) ((.e rfl (congrArg Value.bool (by first|(simp_all;done)|(simp_all;omega)|(simp;omega)|omega)) (.of rfl)):SubM _ _) (ho:=((.of [0,0] rfl):PickO _ _ _)) (.n:SelR _ _ _)
  ·
   rintro ⟨⟩ -
   try dsimp only
   refine zI rfl (fun hsg=> ?_) (fun hsg=> ?_)
   ·
    refine zh<|za<|r_pv rfl rfl (ze rfl)<|zj<|zc<|zP<|zq<|zl<|zl<|zq<|zl ?_
    exact zG Try.results106 () trivial (zz rfl) (congrArg Value.bool (Ms.lbtw_1 hsg)) (ho:=(.n:PickO _ _ _)) (.n:SelR _ _ _)
   ·
    have hsg0:=hsg
    refine zw<|zA<|zc<|za<|r_pv rfl rfl (zC (z:=1) rfl rfl (w64 (by decide)))<|r_pv rfl rfl (zb rfl)<|zj<|zba<|zQ<|zh<|za<|r_pv rfl rfl (zD rfl rfl)<|zj<|zc<|zh<|zT rfl rfl<|zw<|zc<|zh<|zr<|zh<|za<|r_pv rfl rfl (zb rfl)<|r_pv rfl rfl (ze rfl)<|zj<|zc<|zLa (X:=Unit) (fun x=>True) (fun x=>[(35,.bool (decide (((0<ey)∧(0<fy))∨((ey<0)∧(fy<0))))),(5,.int .i64 1),(13,.int .i64 1),(12,.bool true),(11,.int .i64 1),(36,.int .i64 1),(4,.bool false),(3,.pointer (some ⟨b2,0,none⟩)),(2,.pointer (some ⟨b1,0,none⟩))]) (fun x=>[boxA b2 44 [.int .i64 fx,.int .i64 fy,.int .i64 fz],boxA b1 44 [.int .i64 ex,.int .i64 ey,.int .i64 ez]]) (fun x=>[]) ?_ ?_
    ·
     refine za<|r_pv rfl rfl (zb rfl)<|r_pv rfl rfl (zg (i:=1) Try.underlying44 sz3 rfl rfl (by decide) rfl)<|r_u rfl rfl (zd 1 ty3 rfl rfl rfl)<|r_pv rfl rfl (zRa rfl rfl)<|zZ rfl rfl (zb rfl) (fun h7=> ?_) (fun h7=> ?_)
     ·
      refine r_pv rfl rfl (zb rfl)<|r_pv rfl rfl (zg (i:=1) Try.underlying44 sz3 rfl rfl (by decide) rfl)<|r_u rfl rfl (zd 0 ty3 rfl rfl rfl)<|r_pv rfl rfl (zRa rfl rfl)<|r_pv rfl rfl (zy rfl rfl)<|zZ rfl rfl (zb rfl) (fun h8=> ?_) (fun h8=> ?_)
      ·
       refine zi rfl rfl<|zi rfl rfl<|zi rfl rfl<|zi rfl rfl<|zi rfl rfl<|zi rfl rfl<|zi rfl rfl<|zi rfl rfl<|zi rfl rfl<|zi rfl rfl<|r_pv rfl rfl (zy rfl rfl)<|zj ?_
       exact zfa () (show True from by first|trivial|omega|simp_all) ((.e rfl (congrArg Value.bool (by first|(simp_all;done)|(simp_all;omega)|(simp;omega)|omega)) (.of rfl)):SubM _ _) (ho:=((.of [0,0] rfl):PickO _ _ _)) (.n:SelR _ _ _)
      ·
       refine r_pv rfl rfl (zb rfl)<|r_pv rfl rfl (zg (i:=1) Try.underlying44 sz3 rfl rfl (by decide) rfl)<|r_u rfl rfl (zd 1 ty3 rfl rfl rfl)<|r_pv rfl rfl (zD rfl rfl)<|zZ rfl rfl (zb rfl) (fun h9=> ?_) (fun h9=> ?_)
       ·
        refine r_pv rfl rfl (zb rfl)<|r_pv rfl rfl (zg (i:=1) Try.underlying44 sz3 rfl rfl (by decide) rfl)<|r_u rfl rfl (zd 0 ty3 rfl rfl rfl)<|r_pv rfl rfl (zD rfl rfl)<|r_pv rfl rfl (zy rfl rfl)<|r_pv rfl rfl (zy rfl rfl)<|zj ?_
        exact zfa () (show True from by first|trivial|omega|simp_all) ((.e rfl (congrArg Value.bool (by first|(simp_all;done)|(simp_all;omega)|(simp;omega)|omega)) (.of rfl)):SubM _ _) (ho:=((.of [0,0] rfl):PickO _ _ _)) (.n:SelR _ _ _)
       ·
        refine zi rfl rfl<|zi rfl rfl<|zi rfl rfl<|zi rfl rfl<|r_pv rfl rfl (zy rfl rfl)<|r_pv rfl rfl (zy rfl rfl)<|zj ?_
        exact zfa () (show True from by first|trivial|omega|simp_all) ((.e rfl (congrArg Value.bool (by first|(simp_all;done)|(simp_all;omega)|(simp;omega)|omega)) (.of rfl)):SubM _ _) (ho:=((.of [0,0] rfl):PickO _ _ _)) (.n:SelR _ _ _)
     ·
      refine zi rfl rfl<|zi rfl rfl<|zi rfl rfl<|zi rfl rfl<|r_pv rfl rfl (zy rfl rfl)<|r_pv rfl rfl (zb rfl)<|r_pv rfl rfl (zb rfl)<|r_pv rfl rfl (zg (i:=1) Try.underlying44 sz3 rfl rfl (by decide) rfl)<|r_u rfl rfl (zd 1 ty3 rfl rfl rfl)<|r_pv rfl rfl (zD rfl rfl)<|zZ rfl rfl (zb rfl) (fun h10=> ?_) (fun h10=> ?_)
      ·
       refine r_pv rfl rfl (zb rfl)<|r_pv rfl rfl (zg (i:=1) Try.underlying44 sz3 rfl rfl (by decide) rfl)<|r_u rfl rfl (zd 0 ty3 rfl rfl rfl)<|r_pv rfl rfl (zD rfl rfl)<|r_pv rfl rfl (zy rfl rfl)<|r_pv rfl rfl (zy rfl rfl)<|zj ?_
       exact zfa () (show True from by first|trivial|omega|simp_all) ((.e rfl (congrArg Value.bool (by first|(simp_all;done)|(simp_all;omega)|(simp;omega)|omega)) (.of rfl)):SubM _ _) (ho:=((.of [0,0] rfl):PickO _ _ _)) (.n:SelR _ _ _)
      ·
       refine zi rfl rfl<|zi rfl rfl<|zi rfl rfl<|zi rfl rfl<|r_pv rfl rfl (zy rfl rfl)<|r_pv rfl rfl (zy rfl rfl)<|zj ?_
       exact zfa () (show True from by first|trivial|omega|simp_all) ((.e rfl (congrArg Value.bool (by first|(simp_all;done)|(simp_all;omega)|(simp;omega)|omega)) (.of rfl)):SubM _ _) (ho:=((.of [0,0] rfl):PickO _ _ _)) (.n:SelR _ _ _)
    ·
     rintro ⟨⟩ -
     try dsimp only
     refine zI rfl (fun hsg=> ?_) (fun hsg=> ?_)
     ·
      refine zh<|za<|r_pv rfl rfl (ze rfl)<|zj<|zc<|zP<|zq<|zl<|zl<|zq<|zl ?_
      exact zG Try.results106 () trivial (zz rfl) (congrArg Value.bool (Ms.lbtw_2 hsg)) (ho:=(.n:PickO _ _ _)) (.n:SelR _ _ _)
     ·
      have hsg1:=hsg
      refine zw<|zA<|zc<|za<|r_pv rfl rfl (zC (z:=2) rfl rfl (w64 (by decide)))<|r_pv rfl rfl (zb rfl)<|zj<|zba<|zQ<|zh<|za<|r_pv rfl rfl (zD rfl rfl)<|zj<|zc<|zh<|zT rfl rfl<|zw<|zc<|zh<|zr<|zh<|za<|r_pv rfl rfl (zb rfl)<|r_pv rfl rfl (ze rfl)<|zj<|zc<|zLa (X:=Unit) (fun x=>True) (fun x=>[(35,.bool (decide (((0<ez)∧(0<fz))∨((ez<0)∧(fz<0))))),(5,.int .i64 2),(13,.int .i64 2),(12,.bool true),(11,.int .i64 2),(36,.int .i64 2),(4,.bool false),(3,.pointer (some ⟨b2,0,none⟩)),(2,.pointer (some ⟨b1,0,none⟩))]) (fun x=>[boxA b2 44 [.int .i64 fx,.int .i64 fy,.int .i64 fz],boxA b1 44 [.int .i64 ex,.int .i64 ey,.int .i64 ez]]) (fun x=>[]) ?_ ?_
      ·
       refine za<|r_pv rfl rfl (zb rfl)<|r_pv rfl rfl (zg (i:=2) Try.underlying44 sz3 rfl rfl (by decide) rfl)<|r_u rfl rfl (zd 1 ty3 rfl rfl rfl)<|r_pv rfl rfl (zRa rfl rfl)<|zZ rfl rfl (zb rfl) (fun h11=> ?_) (fun h11=> ?_)
       ·
        refine r_pv rfl rfl (zb rfl)<|r_pv rfl rfl (zg (i:=2) Try.underlying44 sz3 rfl rfl (by decide) rfl)<|r_u rfl rfl (zd 0 ty3 rfl rfl rfl)<|r_pv rfl rfl (zRa rfl rfl)<|r_pv rfl rfl (zy rfl rfl)<|zZ rfl rfl (zb rfl) (fun h12=> ?_) (fun h12=> ?_)
        ·
         refine zi rfl rfl<|zi rfl rfl<|zi rfl rfl<|zi rfl rfl<|zi rfl rfl<|zi rfl rfl<|zi rfl rfl<|zi rfl rfl<|zi rfl rfl<|zi rfl rfl<|r_pv rfl rfl (zy rfl rfl)<|zj ?_
         exact zfa () (show True from by first|trivial|omega|simp_all) ((.e rfl (congrArg Value.bool (by first|(simp_all;done)|(simp_all;omega)|(simp;omega)|omega)) (.of rfl)):SubM _ _) (ho:=((.of [0,0] rfl):PickO _ _ _)) (.n:SelR _ _ _)
        ·
         refine r_pv rfl rfl (zb rfl)<|r_pv rfl rfl (zg (i:=2) Try.underlying44 sz3 rfl rfl (by decide) rfl)<|r_u rfl rfl (zd 1 ty3 rfl rfl rfl)<|r_pv rfl rfl (zD rfl rfl)<|zZ rfl rfl (zb rfl) (fun h13=> ?_) (fun h13=> ?_)
         ·
          refine r_pv rfl rfl (zb rfl)<|r_pv rfl rfl (zg (i:=2) Try.underlying44 sz3 rfl rfl (by decide) rfl)<|r_u rfl rfl (zd 0 ty3 rfl rfl rfl)<|r_pv rfl rfl (zD rfl rfl)<|r_pv rfl rfl (zy rfl rfl)<|r_pv rfl rfl (zy rfl rfl)<|zj ?_
          exact zfa () (show True from by first|trivial|omega|simp_all) ((.e rfl (congrArg Value.bool (by first|(simp_all;done)|(simp_all;omega)|(simp;omega)|omega)) (.of rfl)):SubM _ _) (ho:=((.of [0,0] rfl):PickO _ _ _)) (.n:SelR _ _ _)
         ·
          refine zi rfl rfl<|zi rfl rfl<|zi rfl rfl<|zi rfl rfl<|r_pv rfl rfl (zy rfl rfl)<|r_pv rfl rfl (zy rfl rfl)<|zj ?_
          exact zfa () (show True from by first|trivial|omega|simp_all) ((.e rfl (congrArg Value.bool (by first|(simp_all;done)|(simp_all;omega)|(simp;omega)|omega)) (.of rfl)):SubM _ _) (ho:=((.of [0,0] rfl):PickO _ _ _)) (.n:SelR _ _ _)
       ·
        refine zi rfl rfl<|zi rfl rfl<|zi rfl rfl<|zi rfl rfl<|r_pv rfl rfl (zy rfl rfl)<|r_pv rfl rfl (zb rfl)<|r_pv rfl rfl (zb rfl)<|r_pv rfl rfl (zg (i:=2) Try.underlying44 sz3 rfl rfl (by decide) rfl)<|r_u rfl rfl (zd 1 ty3 rfl rfl rfl)<|r_pv rfl rfl (zD rfl rfl)<|zZ rfl rfl (zb rfl) (fun h14=> ?_) (fun h14=> ?_)
        ·
         refine r_pv rfl rfl (zb rfl)<|r_pv rfl rfl (zg (i:=2) Try.underlying44 sz3 rfl rfl (by decide) rfl)<|r_u rfl rfl (zd 0 ty3 rfl rfl rfl)<|r_pv rfl rfl (zD rfl rfl)<|r_pv rfl rfl (zy rfl rfl)<|r_pv rfl rfl (zy rfl rfl)<|zj ?_
         exact zfa () (show True from by first|trivial|omega|simp_all) ((.e rfl (congrArg Value.bool (by first|(simp_all;done)|(simp_all;omega)|(simp;omega)|omega)) (.of rfl)):SubM _ _) (ho:=((.of [0,0] rfl):PickO _ _ _)) (.n:SelR _ _ _)
        ·
         refine zi rfl rfl<|zi rfl rfl<|zi rfl rfl<|zi rfl rfl<|r_pv rfl rfl (zy rfl rfl)<|r_pv rfl rfl (zy rfl rfl)<|zj ?_
         exact zfa () (show True from by first|trivial|omega|simp_all) ((.e rfl (congrArg Value.bool (by first|(simp_all;done)|(simp_all;omega)|(simp;omega)|omega)) (.of rfl)):SubM _ _) (ho:=((.of [0,0] rfl):PickO _ _ _)) (.n:SelR _ _ _)
      ·
       rintro ⟨⟩ -
       try dsimp only
       refine zI rfl (fun hsg=> ?_) (fun hsg=> ?_)
       ·
        refine zh<|za<|r_pv rfl rfl (ze rfl)<|zj<|zc<|zP<|zq<|zl<|zl<|zq<|zl ?_
        exact zG Try.results106 () trivial (zz rfl) (congrArg Value.bool (Ms.lbtw_3 hsg)) (ho:=(.n:PickO _ _ _)) (.n:SelR _ _ _)
       ·
        have hsg2:=hsg
        refine zw<|zA<|zc<|za<|r_pv rfl rfl (zC (z:=3) rfl rfl (w64 (by decide)))<|r_pv rfl rfl (zb rfl)<|zj<|zba<|zQ<|zh<|za<|r_pv rfl rfl (zD rfl rfl)<|zj<|zc<|zh<|zva rfl rfl<|zaa<|zk<|zk<|zt<|zc<|zh<|za<|r_pv rfl rfl (ze rfl)<|zj<|zc<|zP ?_
        exact zG Try.results106 () trivial (zz rfl) (congrArg Value.bool (Ms.lbtw_4 (Decidable.not_not.1 hcr) hsg0 hsg1 hsg2)) (ho:=(.n:PickO _ _ _)) (.n:SelR _ _ _)
theorem con_on {ex:Int} {ey:Int} {ez:Int} {fx:Int} {fy:Int} {fz:Int} {gx:Int} {gy:Int} {gz:Int} (hbex: -4194304≤ex∧ex≤4194304) (hbey: -4194304≤ey∧ey≤4194304) (hbez: -4194304≤ez∧ez≤4194304) (hbfx: -4194304≤fx∧fx≤4194304) (hbfy: -4194304≤fy∧fy≤4194304) (hbfz: -4194304≤fz∧fz≤4194304) (hbgx: -4194304≤gx∧gx≤4194304) (hbgy: -4194304≤gy∧gy≤4194304) (hbgz: -4194304≤gz∧gz≤4194304):Con Try.prog 82 [.agg #[.int .i64 ex,.int .i64 ey,.int .i64 ez],.agg #[.int .i64 fx,.int .i64 fy,.int .i64 fz],.agg #[.int .i64 gx,.int .i64 gy,.int .i64 gz]] [] [] (Y:=Unit) (fun y=>True) (fun y=> .bool (Ms.on_ (ex,ey,ez) (fx,fy,fz) (gx,gy,gz))) (fun y=>[]) (fun y=>[]):=by
 refine zB Try.func82 rfl rfl rfl (fun c=> ?_)
 show RunC _ _ _ _ _ [(0,.agg #[.int .i64 ex,.int .i64 ey,.int .i64 ez]),(1,.agg #[.int .i64 fx,.int .i64 fy,.int .i64 fz]),(2,.agg #[.int .i64 gx,.int .i64 gy,.int .i64 gz])] [] []
 have hwex: -8388608≤ex∧ex≤8388608:=⟨by omega,by omega⟩
 have hwey: -8388608≤ey∧ey≤8388608:=⟨by omega,by omega⟩
 have hwez: -8388608≤ez∧ez≤8388608:=⟨by omega,by omega⟩
 have hwfx: -8388608≤fx∧fx≤8388608:=⟨by omega,by omega⟩
 have hwfy: -8388608≤fy∧fy≤8388608:=⟨by omega,by omega⟩
 have hwfz: -8388608≤fz∧fz≤8388608:=⟨by omega,by omega⟩
 have hwgx: -8388608≤gx∧gx≤8388608:=⟨by omega,by omega⟩
 have hwgy: -8388608≤gy∧gy≤8388608:=⟨by omega,by omega⟩
 have hwgz: -8388608≤gz∧gz≤8388608:=⟨by omega,by omega⟩
 have hBex: -1073741824≤ex∧ex≤1073741824:=⟨by omega,by omega⟩
 have hBey: -1073741824≤ey∧ey≤1073741824:=⟨by omega,by omega⟩
 have hBez: -1073741824≤ez∧ez≤1073741824:=⟨by omega,by omega⟩
 have hBfx: -1073741824≤fx∧fx≤1073741824:=⟨by omega,by omega⟩
 have hBfy: -1073741824≤fy∧fy≤1073741824:=⟨by omega,by omega⟩
 have hBfz: -1073741824≤fz∧fz≤1073741824:=⟨by omega,by omega⟩
 have hBgx: -1073741824≤gx∧gx≤1073741824:=⟨by omega,by omega⟩
 have hBgy: -1073741824≤gy∧gy≤1073741824:=⟨by omega,by omega⟩
 have hBgz: -1073741824≤gz∧gz≤1073741824:=⟨by omega,by omega⟩
 have hCex: -4611686018427387903≤ex∧ex≤4611686018427387903:=⟨by omega,by omega⟩
 have hCey: -4611686018427387903≤ey∧ey≤4611686018427387903:=⟨by omega,by omega⟩
 have hCez: -4611686018427387903≤ez∧ez≤4611686018427387903:=⟨by omega,by omega⟩
 have hCfx: -4611686018427387903≤fx∧fx≤4611686018427387903:=⟨by omega,by omega⟩
 have hCfy: -4611686018427387903≤fy∧fy≤4611686018427387903:=⟨by omega,by omega⟩
 have hCfz: -4611686018427387903≤fz∧fz≤4611686018427387903:=⟨by omega,by omega⟩
 have hCgx: -4611686018427387903≤gx∧gx≤4611686018427387903:=⟨by omega,by omega⟩
 have hCgy: -4611686018427387903≤gy∧gy≤4611686018427387903:=⟨by omega,by omega⟩
 have hCgz: -4611686018427387903≤gz∧gz≤4611686018427387903:=⟨by omega,by omega⟩
 have hDex: -4611686018427387904≤ex∧ex≤4611686018427387904:=⟨by omega,by omega⟩
 have hDey: -4611686018427387904≤ey∧ey≤4611686018427387904:=⟨by omega,by omega⟩
 have hDez: -4611686018427387904≤ez∧ez≤4611686018427387904:=⟨by omega,by omega⟩
 have hFfx: -2147483648≤fx∧fx≤2147483648:=⟨by omega,by omega⟩
 have hFfy: -2147483648≤fy∧fy≤2147483648:=⟨by omega,by omega⟩
 have hFfz: -2147483648≤fz∧fz≤2147483648:=⟨by omega,by omega⟩
 have hFgx: -2147483648≤gx∧gx≤2147483648:=⟨by omega,by omega⟩
 have hFgy: -2147483648≤gy∧gy≤2147483648:=⟨by omega,by omega⟩
 have hFgz: -2147483648≤gz∧gz≤2147483648:=⟨by omega,by omega⟩
 have hw0: -8388608≤(fx - ex)∧(fx - ex)≤8388608:=⟨by omega,by omega⟩
 have hw1: -8388608≤(fy - ey)∧(fy - ey)≤8388608:=⟨by omega,by omega⟩
 have hw2: -8388608≤(fz - ez)∧(fz - ez)≤8388608:=⟨by omega,by omega⟩
 have hw3: -8388608≤(gx - ex)∧(gx - ex)≤8388608:=⟨by omega,by omega⟩
 have hw4: -8388608≤(gy - ey)∧(gy - ey)≤8388608:=⟨by omega,by omega⟩
 have hw5: -8388608≤(gz - ez)∧(gz - ez)≤8388608:=⟨by omega,by omega⟩
 have hB0: -1073741824≤(fx - ex)∧(fx - ex)≤1073741824:=⟨by omega,by omega⟩
 have hB1: -1073741824≤(fy - ey)∧(fy - ey)≤1073741824:=⟨by omega,by omega⟩
 have hB2: -1073741824≤(fz - ez)∧(fz - ez)≤1073741824:=⟨by omega,by omega⟩
 have hB3: -1073741824≤(gx - ex)∧(gx - ex)≤1073741824:=⟨by omega,by omega⟩
 have hB4: -1073741824≤(gy - ey)∧(gy - ey)≤1073741824:=⟨by omega,by omega⟩
 have hB5: -1073741824≤(gz - ez)∧(gz - ez)≤1073741824:=⟨by omega,by omega⟩
 obtain ⟨hia0,hla0,hma0⟩:=Ms.lim3 (Ms.cross_lim hwey hwfz hwez hwfy)
 obtain ⟨hia1,hla1,hma1⟩:=Ms.lim3 (Ms.cross_lim hwez hwfx hwex hwfz)
 obtain ⟨hia2,hla2,hma2⟩:=Ms.lim3 (Ms.cross_lim hwex hwfy hwey hwfx)
 obtain ⟨hib0,hlb0,hmb0⟩:=Ms.lim3 (Ms.cross_lim hwfy hwgz hwfz hwgy)
 obtain ⟨hib1,hlb1,hmb1⟩:=Ms.lim3 (Ms.cross_lim hwfz hwgx hwfx hwgz)
 obtain ⟨hib2,hlb2,hmb2⟩:=Ms.lim3 (Ms.cross_lim hwfx hwgy hwfy hwgx)
 obtain ⟨hic0,hlc0,hmc0⟩:=Ms.lim3 (Ms.cross_lim hwgy hwez hwgz hwey)
 obtain ⟨hic1,hlc1,hmc1⟩:=Ms.lim3 (Ms.cross_lim hwgz hwex hwgx hwez)
 obtain ⟨hic2,hlc2,hmc2⟩:=Ms.lim3 (Ms.cross_lim hwgx hwey hwgy hwex)
 obtain ⟨hin0,hln0,hmn0⟩:=Ms.lim3 (Ms.cross_lim hw1 hw5 hw2 hw4)
 obtain ⟨hin1,hln1,hmn1⟩:=Ms.lim3 (Ms.cross_lim hw2 hw3 hw0 hw5)
 obtain ⟨hin2,hln2,hmn2⟩:=Ms.lim3 (Ms.cross_lim hw0 hw4 hw1 hw3)
 obtain ⟨hda0,hda1,hda2,hda3,hda4,hda5⟩:=Ms.dot_lim hla0 hla1 hla2 hln0 hln1 hln2
 obtain ⟨hdb0,hdb1,hdb2,hdb3,hdb4,hdb5⟩:=Ms.dot_lim hlb0 hlb1 hlb2 hln0 hln1 hln2
 obtain ⟨hdc0,hdc1,hdc2,hdc3,hdc4,hdc5⟩:=Ms.dot_lim hlc0 hlc1 hlc2 hln0 hln1 hln2
 have hl0:Big.ln (0:Int)≤1099511627776:=by rw [Big.zyc];omega
 have hdd:Big.ln (Ms.det (ex,ey,ez) (fx,fy,fz) (gx,gy,gz))≤1099511627776:=Nat.le_trans (Big.zha (by omega) (by omega) (by omega) (by omega) (by omega) (by omega) (by omega) (by omega) (by omega)) (by decide)
 refine zh<|za<|zS rfl rfl (zca rfl rfl) (fun b1=> ?_)
 refine zS rfl rfl (zca rfl rfl) (fun b2=> ?_)
 refine zS rfl rfl (zca rfl rfl) (fun b3=> ?_)
 refine r_pv rfl rfl (ze rfl)<|zj<|zc<|zh<|zh<|za<|r_u rfl rfl (zf 2 ty44 rfl rfl (.take (.take (.take .nil))))<|r_u rfl rfl (zf 1 ty44 rfl rfl (.take (.take (.take .nil))))<|r_u rfl rfl (zf 0 ty44 rfl rfl (.take (.take (.take .nil))))<|zea rfl rfl (.c rfl (.c rfl (.c rfl .n))) ce63 (zAb (ex:=ex) (ey:=ey) (ez:=ez) (fx:=fx) (fy:=fy) (fz:=fz) (gx:=gx) (gy:=gy) (gz:=gz) (hbex:=by assumption) (hbey:=by assumption) (hbez:=by assumption) (hbfx:=by assumption) (hbfy:=by assumption) (hbfz:=by assumption) (hbgx:=by assumption) (hbgy:=by assumption) (hbgz:=by assumption)) (.n) ?_
 rintro w34 -
 dsimp only [List.append_eq,List.nil_append,List.cons_append]
 refine zY rfl rfl (.c rfl .n) ce83 (zNa (w1:=w34) (x1:=Ms.det (ex,ey,ez) (fx,fy,fz) (gx,gy,gz)) (hln:=by assumption)) (.c (j:=0) rfl .n)<|r_pv rfl rfl (zZa rfl rfl)<|zj<|zc<|zI rfl (fun hdet=> ?_) (fun hdet=> ?_)
 ·
  refine zh<|za<|r_pv rfl rfl (ze rfl)<|zj<|zc<|zP<|zl ?_
  exact zG Try.results82 () trivial (zz rfl) (congrArg Value.bool (Ms.on_1 hdet)) (ho:=(.n:PickO _ _ _)) (.n:SelR _ _ _)
 ·
  refine zw<|zc<|zh<|zla (OW:=[]) (O:=[boxA b3 44 [.int .i64 gx,.int .i64 gy,.int .i64 gz],boxA b2 44 [.int .i64 fx,.int .i64 fy,.int .i64 fz],boxA b1 44 [.int .i64 ex,.int .i64 ey,.int .i64 ez]]) 8 mixed (.then .ret) (by kernel_rfl)<|d_u 0 rfl rfl (by kernel_rfl) (by kernel_rfl) rfl rfl (zf 1 ty44 rfl rfl (.take (.take (.take .nil))))<|d_u 1 rfl rfl (by kernel_rfl) (by kernel_rfl) rfl rfl (zf 2 ty44 rfl rfl (.take (.take (.take .nil))))<|d_u 3 rfl rfl (by kernel_rfl) (by kernel_rfl) rfl rfl (zf 0 ty44 rfl rfl (.take (.take (.take .nil))))<|d_u 4 rfl rfl (by kernel_rfl) (by kernel_rfl) rfl rfl (zf 2 ty44 rfl rfl (.take (.take (.take .nil))))<|zPb (m':=[(23,.agg #[.int .i64 ex,.int .i64 ey,.int .i64 ez]),(22,.agg #[.int .i64 gx,.int .i64 gy,.int .i64 gz]),(20,.agg #[.int .i64 ex,.int .i64 ey,.int .i64 ez]),(19,.agg #[.int .i64 fx,.int .i64 fy,.int .i64 fz]),(6,.bool false),(5,.pointer (some ⟨b3,0,none⟩)),(4,.pointer (some ⟨b2,0,none⟩)),(3,.pointer (some ⟨b1,0,none⟩))]) (R':=[zF w34 (Ms.det (ex,ey,ez) (fx,fy,fz) (gx,gy,gz))]) ((.of rfl):SubM _ _) (List.Perm.refl _) (List.Perm.refl _) ((.c (j:=0) rfl .n):SelR _ _ _)<|zL (X:=Nat) (k':=0) (L':=(lb 9 511)) (fun u7_1=>([(7,.pointer (some ⟨u7_1,0,none⟩)),(6,.bool false),(5,.pointer (some ⟨b3,0,none⟩)),(4,.pointer (some ⟨b2,0,none⟩)),(3,.pointer (some ⟨b1,0,none⟩))],[boxA u7_1 44 [.int .i64 ((fy - ey)*(gz - ez) - (fz - ez)*(gy - ey)),.int .i64 ((fz - ez)*(gx - ex) - (fx - ex)*(gz - ez)),.int .i64 ((fx - ex)*(gy - ey) - (fy - ey)*(gx - ex))]],[boxA b3 44 [.int .i64 gx,.int .i64 gy,.int .i64 gz],boxA b2 44 [.int .i64 fx,.int .i64 fy,.int .i64 fz],boxA b1 44 [.int .i64 ex,.int .i64 ey,.int .i64 ez]],[zF w34 (Ms.det (ex,ey,ez) (fx,fy,fz) (gx,gy,gz))])) ?_ (fun hD0=> ?_)
  ·
   rintro u7_1
   dsimp only
   refine zma (by kernel_rfl)<|zc<|zh<|zh<|za<|r_u rfl rfl (zf 0 ty44 rfl rfl (.take (.take (.take .nil))))<|r_pv rfl rfl (zK zr44 rfl Try.underlying44 sz3 .n .n)<|r_pv rfl rfl (zLc (p:=((fy - ey)*(gz - ez) - (fz - ez)*(gy - ey))=0∧((fz - ez)*(gx - ex) - (fx - ex)*(gz - ez))=0∧((fx - ex)*(gy - ey) - (fy - ey)*(gx - ex))=0) (by kernel_rfl) rfl rfl (zvc Try.underlying44 sz3 (zFb ty3 rfl rfl (zEb Try.underlying3) (zFb ty3 rfl rfl (zEb Try.underlying3) (zFb ty3 rfl rfl (zEb Try.underlying3) zld)))) (by simp [Bool.decide_and]))<|zj<|zc<|zI rfl (fun hz=> ?_) (fun hz=> ?_)
   ·
    refine zLa (X:=Unit) (fun x=>True) (fun x=>[(6,.bool (decide ((((Ms.lbtw (ex,ey,ez) (fx,fy,fz))=true)∨((Ms.lbtw (fx,fy,fz) (gx,gy,gz))=true))∨((Ms.lbtw (gx,gy,gz) (ex,ey,ez))=true)))),(7,.pointer (some ⟨u7_1,0,none⟩)),(5,.pointer (some ⟨b3,0,none⟩)),(4,.pointer (some ⟨b2,0,none⟩)),(3,.pointer (some ⟨b1,0,none⟩))]) (fun x=>[boxA u7_1 44 [.int .i64 ((fy - ey)*(gz - ez) - (fz - ez)*(gy - ey)),.int .i64 ((fz - ez)*(gx - ex) - (fx - ex)*(gz - ez)),.int .i64 ((fx - ex)*(gy - ey) - (fy - ey)*(gx - ex))],boxA b3 44 [.int .i64 gx,.int .i64 gy,.int .i64 gz],boxA b2 44 [.int .i64 fx,.int .i64 fy,.int .i64 fz],boxA b1 44 [.int .i64 ex,.int .i64 ey,.int .i64 ez]]) (fun x=>[zF w34 (Ms.det (ex,ey,ez) (fx,fy,fz) (gx,gy,gz))]) ?_ ?_
    ·
     refine za<|r_u rfl rfl (zf 3 ty44 rfl rfl (.take (.take (.take .nil))))<|r_u rfl rfl (zf 2 ty44 rfl rfl (.take (.take (.take .nil))))<|zY rfl rfl (.c rfl (.c rfl .n)) ce106 (zUc (ex:=ex) (ey:=ey) (ez:=ez) (fx:=fx) (fy:=fy) (fz:=fz) (hbex:=by assumption) (hbey:=by assumption) (hbez:=by assumption) (hbfx:=by assumption) (hbfy:=by assumption) (hbfz:=by assumption)) (.n)<|zWb rfl rfl (zb rfl) (fun h5=> ?_) (fun h5=> ?_)
     ·
      refine zi rfl rfl<|zi rfl rfl<|zi rfl rfl<|r_pv rfl rfl (zy rfl rfl)<|r_pv rfl rfl (zb rfl)<|zi rfl rfl<|zi rfl rfl<|zi rfl rfl<|r_pv rfl rfl (zy rfl rfl)<|r_pv rfl rfl (ze rfl)<|zj ?_
      exact zfa () (show True from by first|trivial|omega|simp_all) ((.e rfl (congrArg Value.bool (by first|(simp_all;done)|(simp_all;omega)|(simp;omega)|omega)) (.of rfl)):SubM _ _) (ho:=((.of [0,0,0,0] rfl):PickO _ _ _)) ((.c (j:=0) rfl .n):SelR _ _ _)
     ·
      refine r_u rfl rfl (zf 2 ty44 rfl rfl (.take (.take (.take .nil))))<|r_u rfl rfl (zf 1 ty44 rfl rfl (.take (.take (.take .nil))))<|zY rfl rfl (.c rfl (.c rfl .n)) ce106 (zUc (ex:=fx) (ey:=fy) (ez:=fz) (fx:=gx) (fy:=gy) (fz:=gz) (hbex:=by assumption) (hbey:=by assumption) (hbez:=by assumption) (hbfx:=by assumption) (hbfy:=by assumption) (hbfz:=by assumption)) (.n)<|r_pv rfl rfl (zy rfl rfl)<|zWb rfl rfl (zb rfl) (fun h6=> ?_) (fun h6=> ?_)
      ·
       refine zi rfl rfl<|zi rfl rfl<|zi rfl rfl<|r_pv rfl rfl (zy rfl rfl)<|r_pv rfl rfl (ze rfl)<|zj ?_
       exact zfa () (show True from by first|trivial|omega|simp_all) ((.e rfl (congrArg Value.bool (by first|(simp_all;done)|(simp_all;omega)|(simp;omega)|omega)) (.of rfl)):SubM _ _) (ho:=((.of [0,0,0,0] rfl):PickO _ _ _)) ((.c (j:=0) rfl .n):SelR _ _ _)
      ·
       refine r_u rfl rfl (zf 1 ty44 rfl rfl (.take (.take (.take .nil))))<|r_u rfl rfl (zf 3 ty44 rfl rfl (.take (.take (.take .nil))))<|zY rfl rfl (.c rfl (.c rfl .n)) ce106 (zUc (ex:=gx) (ey:=gy) (ez:=gz) (fx:=ex) (fy:=ey) (fz:=ez) (hbex:=by assumption) (hbey:=by assumption) (hbez:=by assumption) (hbfx:=by assumption) (hbfy:=by assumption) (hbfz:=by assumption)) (.n)<|r_pv rfl rfl (zy rfl rfl)<|r_pv rfl rfl (ze rfl)<|zj ?_
       exact zfa () (show True from by first|trivial|omega|simp_all) ((.e rfl (congrArg Value.bool (by first|(simp_all;done)|(simp_all;omega)|(simp;omega)|omega)) (.of rfl)):SubM _ _) (ho:=((.of [0,0,0,0] rfl):PickO _ _ _)) ((.c (j:=0) rfl .n):SelR _ _ _)
    ·
     rintro ⟨⟩ -
     try dsimp only
     refine zP<|zl ?_
     exact zG Try.results82 () trivial (zz rfl) (congrArg Value.bool (Ms.on_2 (Decidable.not_not.1 hdet) hz)) (ho:=(.n:PickO _ _ _)) (.n:SelR _ _ _)
   ·
    refine zw<|zc<|zh<|zh<|za<|r_u rfl rfl (zf 3 ty44 rfl rfl (.take (.take (.take .nil))))<|r_u rfl rfl (zf 2 ty44 rfl rfl (.take (.take (.take .nil))))<|r_pv rfl rfl (zK zr136 rfl Try.underlying136 sz44 (.c rfl (.c rfl .n)) (.c rfl rfl rfl (.take (.take (.take .nil))) (.c rfl rfl rfl (.skip (.skip (.skip (.take (.take (.take .nil)))))) .n)))<|r_u rfl rfl (zf 2 ty44 rfl rfl (.take (.take (.take .nil))))<|r_u rfl rfl (zf 1 ty44 rfl rfl (.take (.take (.take .nil))))<|r_pv rfl rfl (zK zr136 rfl Try.underlying136 sz44 (.c rfl (.c rfl .n)) (.c rfl rfl rfl (.take (.take (.take .nil))) (.c rfl rfl rfl (.skip (.skip (.skip (.take (.take (.take .nil)))))) .n)))<|r_u rfl rfl (zf 1 ty44 rfl rfl (.take (.take (.take .nil))))<|r_u rfl rfl (zf 3 ty44 rfl rfl (.take (.take (.take .nil))))<|r_pv rfl rfl (zK zr136 rfl Try.underlying136 sz44 (.c rfl (.c rfl .n)) (.c rfl rfl rfl (.take (.take (.take .nil))) (.c rfl rfl rfl (.skip (.skip (.skip (.take (.take (.take .nil)))))) .n)))<|r_pv rfl rfl (zK zr137 rfl Try.underlying137 sz136 (.c rfl (.c rfl (.c rfl .n))) (.c rfl rfl rfl (.take (.take (.take (.take (.take (.take .nil)))))) (.c rfl rfl rfl (.skip (.skip (.skip (.skip (.skip (.skip (.take (.take (.take (.take (.take (.take .nil)))))))))))) (.c rfl rfl rfl (.skip (.skip (.skip (.skip (.skip (.skip (.skip (.skip (.skip (.skip (.skip (.skip (.take (.take (.take (.take (.take (.take .nil)))))))))))))))))) .n))))<|r_pv rfl rfl (zb rfl)<|zj<|zc<|zr<|zSa<|zQ<|zh<|za<|r_pv rfl rfl (zD rfl rfl)<|zj<|zc<|zh<|zT rfl rfl<|zw<|zc<|zh<|zr<|zh<|za<|r_pv rfl rfl (zza (i:=0) Try.underlying137 ty136 rfl rfl (by decide) (.take (.take (.take (.take (.take (.take .nil)))))))<|zS rfl rfl (zn zr136 rfl) (fun b7=> ?_)
    refine zx 0 rfl rfl rfl rfl rfl sz136 rfl (.take (.take (.take (.take (.take (.take .nil)))))) .z<|zj<|zc<|zh<|za<|r_pv rfl rfl (zg (i:=0) Try.underlying136 sz44 rfl rfl (by decide) rfl)<|r_u rfl rfl (zf 0 ty44 rfl rfl (.take (.take (.take .nil))))<|r_pv rfl rfl (zg (i:=1) Try.underlying136 sz44 rfl rfl (by decide) rfl)<|r_u rfl rfl (zf 0 ty44 rfl rfl (.skip (.skip (.skip (.take (.take (.take .nil)))))))<|zY rfl rfl (.c rfl (.c rfl .n)) ce104 (zrb (ex:=ex) (ey:=ey) (ez:=ez) (fx:=fx) (fy:=fy) (fz:=fz) (hbex:=by assumption) (hbey:=by assumption) (hbez:=by assumption) (hbfx:=by assumption) (hbfy:=by assumption) (hbfz:=by assumption)) (.n)<|zS rfl rfl (zn zr44 rfl) (fun b8=> ?_)
    refine zx 0 rfl rfl rfl rfl rfl sz44 rfl (.take (.take (.take .nil))) .z<|zj<|zc<|zh<|za<|zea rfl rfl (.c rfl .n) ce45 (zpa (z:=(0:Int)) (hz:=by decide)) (.n) ?_
    rintro w39 -
    dsimp only [List.append_eq,List.nil_append,List.cons_append]
    refine zS rfl rfl (zn zr34 rfl) (fun b10=> ?_)
    refine zx 0 rfl rfl rfl rfl rfl sz34 rfl (.take (.take .nil)) .z<|zj<|zc<|zh<|zh<|za<|r_pv rfl rfl (zb rfl)<|zj<|zc<|zr<|zSa<|zQ<|zh<|za<|r_pv rfl rfl (zD rfl rfl)<|zj<|zc<|zh<|zT rfl rfl<|zw<|zc<|zh<|zr<|zh<|za<|r_pv rfl rfl (zb rfl)<|r_pv rfl rfl (ze rfl)<|zj<|zc<|zla (OW:=[boxA b10 34 [w39.b,w39.l]]) (O:=[boxA b8 44 [.int .i64 (ey*fz - ez*fy),.int .i64 (ez*fx - ex*fz),.int .i64 (ex*fy - ey*fx)],boxA b7 136 [.int .i64 ex,.int .i64 ey,.int .i64 ez,.int .i64 fx,.int .i64 fy,.int .i64 fz],boxA u7_1 44 [.int .i64 ((fy - ey)*(gz - ez) - (fz - ez)*(gy - ey)),.int .i64 ((fz - ez)*(gx - ex) - (fx - ex)*(gz - ez)),.int .i64 ((fx - ex)*(gy - ey) - (fy - ey)*(gx - ex))],boxA b3 44 [.int .i64 gx,.int .i64 gy,.int .i64 gz],boxA b2 44 [.int .i64 fx,.int .i64 fy,.int .i64 fz],boxA b1 44 [.int .i64 ex,.int .i64 ey,.int .i64 ez]]) 11 mixed (.block (.then (.then (.block (.then (.block (.then (.then (.block (.then .ret)))))))))) (by kernel_rfl)<|d_uw 0 rfl rfl (by kernel_rfl) (by kernel_rfl) (by kernel_rfl) rfl rfl (zf 0 ty34 rfl rfl (.take (.take .nil)))<|d_pv 1 rfl rfl (by kernel_rfl) (by kernel_rfl) rfl rfl (zb rfl)<|d_pv 2 rfl rfl (by kernel_rfl) (by kernel_rfl) rfl rfl (zg (i:=0) Try.underlying44 sz3 rfl rfl (by decide) rfl)<|d_uw 3 rfl rfl (by kernel_rfl) (by kernel_rfl) (by kernel_rfl) rfl rfl (zd 1 ty3 rfl rfl rfl)<|d_pv 5 rfl rfl (by kernel_rfl) (by kernel_rfl) rfl rfl (zb rfl)<|d_pv 6 rfl rfl (by kernel_rfl) (by kernel_rfl) rfl rfl (zg (i:=0) Try.underlying44 sz3 rfl rfl (by decide) rfl)<|d_uw 7 rfl rfl (by kernel_rfl) (by kernel_rfl) (by kernel_rfl) rfl rfl (zd 3 ty3 rfl rfl rfl)<|zE 4 (by kernel_rfl) (zu rfl rfl rfl rfl (.c rfl .n) ce45 (zpa (z:=(ey*fz - ez*fy)) (hz:=by assumption)) (.n) ?_)
    rintro w311 -
    dsimp only [List.append_eq,List.nil_append,List.cons_append]
    refine zE 8 (by kernel_rfl) (zu rfl rfl rfl rfl (.c rfl .n) ce45 (zpa (z:=((fy - ey)*(gz - ez) - (fz - ez)*(gy - ey))) (hz:=by assumption)) (.n) ?_)
    rintro w312 -
    dsimp only [List.append_eq,List.nil_append,List.cons_append]
    refine zE 9 (by kernel_rfl) (zu rfl rfl rfl rfl (.c rfl (.c rfl .n)) ce97 (zXa (w1:=w311) (w2:=w312) (x1:=(ey*fz - ez*fy)) (x2:=((fy - ey)*(gz - ez) - (fz - ez)*(gy - ey))) (hb1:=by assumption) (hb2:=by assumption)) (.c (j:=1) rfl (.c (j:=0) rfl .n)) ?_)
    rintro w313 -
    dsimp only [List.append_eq,List.nil_append,List.cons_append]
    refine zE 10 (by kernel_rfl) (zu rfl rfl rfl rfl (.c rfl (.c rfl .n)) ce62 (zWa (w1:=w39) (w2:=w313) (x1:=(0:Int)) (x2:=(ey*fz - ez*fy)*((fy - ey)*(gz - ez) - (fz - ez)*(gy - ey))) (hb1:=by assumption) (hb2:=by assumption)) (.c (j:=3) rfl (.c (j:=0) rfl .n)) ?_)
    rintro w314 -
    dsimp only [List.append_eq,List.nil_append,List.cons_append]
    refine zE 11 (by kernel_rfl) (zM (by kernel_rfl) rfl rfl rfl rfl rfl sz34 rfl (.take (.take .nil)) ?_)
    refine zma (by kernel_rfl)<|zA<|zc<|za<|r_pv rfl rfl (zC (z:=1) rfl rfl (w64 (by decide)))<|r_pv rfl rfl (zb rfl)<|zj<|zba<|zQ<|zh<|za<|r_pv rfl rfl (zD rfl rfl)<|zj<|zc<|zh<|zT rfl rfl<|zw<|zc<|zh<|zr<|zh<|za<|r_pv rfl rfl (zb rfl)<|r_pv rfl rfl (ze rfl)<|zj<|zc<|zla (OW:=[boxA b10 34 [w314.b,w314.l]]) (O:=[boxA b8 44 [.int .i64 (ey*fz - ez*fy),.int .i64 (ez*fx - ex*fz),.int .i64 (ex*fy - ey*fx)],boxA b7 136 [.int .i64 ex,.int .i64 ey,.int .i64 ez,.int .i64 fx,.int .i64 fy,.int .i64 fz],boxA u7_1 44 [.int .i64 ((fy - ey)*(gz - ez) - (fz - ez)*(gy - ey)),.int .i64 ((fz - ez)*(gx - ex) - (fx - ex)*(gz - ez)),.int .i64 ((fx - ex)*(gy - ey) - (fy - ey)*(gx - ex))],boxA b3 44 [.int .i64 gx,.int .i64 gy,.int .i64 gz],boxA b2 44 [.int .i64 fx,.int .i64 fy,.int .i64 fz],boxA b1 44 [.int .i64 ex,.int .i64 ey,.int .i64 ez]]) 11 mixed (.block (.then (.then (.block (.then (.block (.then (.then (.block (.then .ret)))))))))) (by kernel_rfl)<|d_uw 0 rfl rfl (by kernel_rfl) (by kernel_rfl) (by kernel_rfl) rfl rfl (zf 0 ty34 rfl rfl (.take (.take .nil)))<|d_pv 1 rfl rfl (by kernel_rfl) (by kernel_rfl) rfl rfl (zb rfl)<|d_pv 2 rfl rfl (by kernel_rfl) (by kernel_rfl) rfl rfl (zg (i:=1) Try.underlying44 sz3 rfl rfl (by decide) rfl)<|d_uw 3 rfl rfl (by kernel_rfl) (by kernel_rfl) (by kernel_rfl) rfl rfl (zd 1 ty3 rfl rfl rfl)<|d_pv 5 rfl rfl (by kernel_rfl) (by kernel_rfl) rfl rfl (zb rfl)<|d_pv 6 rfl rfl (by kernel_rfl) (by kernel_rfl) rfl rfl (zg (i:=1) Try.underlying44 sz3 rfl rfl (by decide) rfl)<|d_uw 7 rfl rfl (by kernel_rfl) (by kernel_rfl) (by kernel_rfl) rfl rfl (zd 3 ty3 rfl rfl rfl)<|zE 4 (by kernel_rfl) (zu rfl rfl rfl rfl (.c rfl .n) ce45 (zpa (z:=(ez*fx - ex*fz)) (hz:=by assumption)) (.n) ?_)
    rintro w315 -
    dsimp only [List.append_eq,List.nil_append,List.cons_append]
    refine zE 8 (by kernel_rfl) (zu rfl rfl rfl rfl (.c rfl .n) ce45 (zpa (z:=((fz - ez)*(gx - ex) - (fx - ex)*(gz - ez))) (hz:=by assumption)) (.n) ?_)
    rintro w316 -
    dsimp only [List.append_eq,List.nil_append,List.cons_append]
    refine zE 9 (by kernel_rfl) (zu rfl rfl rfl rfl (.c rfl (.c rfl .n)) ce97 (zXa (w1:=w315) (w2:=w316) (x1:=(ez*fx - ex*fz)) (x2:=((fz - ez)*(gx - ex) - (fx - ex)*(gz - ez))) (hb1:=by assumption) (hb2:=by assumption)) (.c (j:=1) rfl (.c (j:=0) rfl .n)) ?_)
    rintro w317 -
    dsimp only [List.append_eq,List.nil_append,List.cons_append]
    refine zE 10 (by kernel_rfl) (zu rfl rfl rfl rfl (.c rfl (.c rfl .n)) ce62 (zWa (w1:=w314) (w2:=w317) (x1:=(0:Int)+((ey*fz - ez*fy)*((fy - ey)*(gz - ez) - (fz - ez)*(gy - ey)))) (x2:=(ez*fx - ex*fz)*((fz - ez)*(gx - ex) - (fx - ex)*(gz - ez))) (hb1:=by assumption) (hb2:=by assumption)) (.c (j:=3) rfl (.c (j:=0) rfl .n)) ?_)
    rintro w318 -
    dsimp only [List.append_eq,List.nil_append,List.cons_append]
    refine zE 11 (by kernel_rfl) (zM (by kernel_rfl) rfl rfl rfl rfl rfl sz34 rfl (.take (.take .nil)) ?_)
    refine zma (by kernel_rfl)<|zA<|zc<|za<|r_pv rfl rfl (zC (z:=2) rfl rfl (w64 (by decide)))<|r_pv rfl rfl (zb rfl)<|zj<|zba<|zQ<|zh<|za<|r_pv rfl rfl (zD rfl rfl)<|zj<|zc<|zh<|zT rfl rfl<|zw<|zc<|zh<|zr<|zh<|za<|r_pv rfl rfl (zb rfl)<|r_pv rfl rfl (ze rfl)<|zj<|zc<|zla (OW:=[boxA b10 34 [w318.b,w318.l]]) (O:=[boxA b8 44 [.int .i64 (ey*fz - ez*fy),.int .i64 (ez*fx - ex*fz),.int .i64 (ex*fy - ey*fx)],boxA b7 136 [.int .i64 ex,.int .i64 ey,.int .i64 ez,.int .i64 fx,.int .i64 fy,.int .i64 fz],boxA u7_1 44 [.int .i64 ((fy - ey)*(gz - ez) - (fz - ez)*(gy - ey)),.int .i64 ((fz - ez)*(gx - ex) - (fx - ex)*(gz - ez)),.int .i64 ((fx - ex)*(gy - ey) - (fy - ey)*(gx - ex))],boxA b3 44 [.int .i64 gx,.int .i64 gy,.int .i64 gz],boxA b2 44 [.int .i64 fx,.int .i64 fy,.int .i64 fz],boxA b1 44 [.int .i64 ex,.int .i64 ey,.int .i64 ez]]) 11 mixed (.block (.then (.then (.block (.then (.block (.then (.then (.block (.then .ret)))))))))) (by kernel_rfl)<|d_uw 0 rfl rfl (by kernel_rfl) (by kernel_rfl) (by kernel_rfl) rfl rfl (zf 0 ty34 rfl rfl (.take (.take .nil)))<|d_pv 1 rfl rfl (by kernel_rfl) (by kernel_rfl) rfl rfl (zb rfl)<|d_pv 2 rfl rfl (by kernel_rfl) (by kernel_rfl) rfl rfl (zg (i:=2) Try.underlying44 sz3 rfl rfl (by decide) rfl)<|d_uw 3 rfl rfl (by kernel_rfl) (by kernel_rfl) (by kernel_rfl) rfl rfl (zd 1 ty3 rfl rfl rfl)<|d_pv 5 rfl rfl (by kernel_rfl) (by kernel_rfl) rfl rfl (zb rfl)<|d_pv 6 rfl rfl (by kernel_rfl) (by kernel_rfl) rfl rfl (zg (i:=2) Try.underlying44 sz3 rfl rfl (by decide) rfl)<|d_uw 7 rfl rfl (by kernel_rfl) (by kernel_rfl) (by kernel_rfl) rfl rfl (zd 3 ty3 rfl rfl rfl)<|zE 4 (by kernel_rfl) (zu rfl rfl rfl rfl (.c rfl .n) ce45 (zpa (z:=(ex*fy - ey*fx)) (hz:=by assumption)) (.n) ?_)
    rintro w319 -
    dsimp only [List.append_eq,List.nil_append,List.cons_append]
    refine zE 8 (by kernel_rfl) (zu rfl rfl rfl rfl (.c rfl .n) ce45 (zpa (z:=((fx - ex)*(gy - ey) - (fy - ey)*(gx - ex))) (hz:=by assumption)) (.n) ?_)
    rintro w320 -
    dsimp only [List.append_eq,List.nil_append,List.cons_append]
    refine zE 9 (by kernel_rfl) (zu rfl rfl rfl rfl (.c rfl (.c rfl .n)) ce97 (zXa (w1:=w319) (w2:=w320) (x1:=(ex*fy - ey*fx)) (x2:=((fx - ex)*(gy - ey) - (fy - ey)*(gx - ex))) (hb1:=by assumption) (hb2:=by assumption)) (.c (j:=1) rfl (.c (j:=0) rfl .n)) ?_)
    rintro w321 -
    dsimp only [List.append_eq,List.nil_append,List.cons_append]
    refine zE 10 (by kernel_rfl) (zu rfl rfl rfl rfl (.c rfl (.c rfl .n)) ce62 (zWa (w1:=w318) (w2:=w321) (x1:=((0:Int)+((ey*fz - ez*fy)*((fy - ey)*(gz - ez) - (fz - ez)*(gy - ey))))+((ez*fx - ex*fz)*((fz - ez)*(gx - ex) - (fx - ex)*(gz - ez)))) (x2:=(ex*fy - ey*fx)*((fx - ex)*(gy - ey) - (fy - ey)*(gx - ex))) (hb1:=by assumption) (hb2:=by assumption)) (.c (j:=3) rfl (.c (j:=0) rfl .n)) ?_)
    rintro w322 -
    dsimp only [List.append_eq,List.nil_append,List.cons_append]
    refine zE 11 (by kernel_rfl) (zM (by kernel_rfl) rfl rfl rfl rfl rfl sz34 rfl (.take (.take .nil)) ?_)
    refine zma (by kernel_rfl)<|zA<|zc<|za<|r_pv rfl rfl (zC (z:=3) rfl rfl (w64 (by decide)))<|r_pv rfl rfl (zb rfl)<|zj<|zba<|zQ<|zh<|za<|r_pv rfl rfl (zD rfl rfl)<|zj<|zc<|zh<|zva rfl rfl<|zaa<|zk<|zk<|zt<|zc<|zh<|za<|r_u rfl rfl (zf 0 ty34 rfl rfl (.take (.take .nil)))<|zY rfl rfl (.c rfl .n) ce83 (zNa (w1:=w322) (x1:=(((0:Int)+((ey*fz - ez*fy)*((fy - ey)*(gz - ez) - (fz - ez)*(gy - ey))))+((ez*fx - ex*fz)*((fz - ez)*(gx - ex) - (fx - ex)*(gz - ez))))+((ex*fy - ey*fx)*((fx - ex)*(gy - ey) - (fy - ey)*(gx - ex)))) (hln:=by assumption)) (.c (j:=0) rfl .n)<|r_pv rfl rfl (zD rfl rfl)<|zj<|zc<|zI rfl (fun hng=> ?_) (fun hng=> ?_)
    ·
     refine zh<|za<|r_pv rfl rfl (ze rfl)<|zj<|zc<|zP<|zq<|zl<|zl<|zq<|zl ?_
     exact zG Try.results82 () trivial (zz rfl) (congrArg Value.bool (Ms.on_3a (Decidable.not_not.1 hdet) hz hng)) (ho:=(.n:PickO _ _ _)) (.n:SelR _ _ _)
    ·
     have hng0:=hng
     refine zw<|zA<|zc<|za<|r_pv rfl rfl (zC (z:=1) rfl rfl (w64 (by decide)))<|r_pv rfl rfl (zb rfl)<|zj<|zba<|zQ<|zh<|za<|r_pv rfl rfl (zD rfl rfl)<|zj<|zc<|zh<|zT rfl rfl<|zw<|zc<|zh<|zr<|zh<|za<|r_pv rfl rfl (zza (i:=1) Try.underlying137 ty136 rfl rfl (by decide) (.skip (.skip (.skip (.skip (.skip (.skip (.take (.take (.take (.take (.take (.take .nil)))))))))))))<|zS rfl rfl (zn zr136 rfl) (fun b23=> ?_)
     refine zx 0 rfl rfl rfl rfl rfl sz136 rfl (.take (.take (.take (.take (.take (.take .nil)))))) .z<|zj<|zc<|zh<|za<|r_pv rfl rfl (zg (i:=0) Try.underlying136 sz44 rfl rfl (by decide) rfl)<|r_u rfl rfl (zf 0 ty44 rfl rfl (.take (.take (.take .nil))))<|r_pv rfl rfl (zg (i:=1) Try.underlying136 sz44 rfl rfl (by decide) rfl)<|r_u rfl rfl (zf 0 ty44 rfl rfl (.skip (.skip (.skip (.take (.take (.take .nil)))))))<|zY rfl rfl (.c rfl (.c rfl .n)) ce104 (zrb (ex:=fx) (ey:=fy) (ez:=fz) (fx:=gx) (fy:=gy) (fz:=gz) (hbex:=by assumption) (hbey:=by assumption) (hbez:=by assumption) (hbfx:=by assumption) (hbfy:=by assumption) (hbfz:=by assumption)) (.n)<|zS rfl rfl (zn zr44 rfl) (fun b24=> ?_)
     refine zx 0 rfl rfl rfl rfl rfl sz44 rfl (.take (.take (.take .nil))) .z<|zj<|zc<|zh<|za<|zea rfl rfl (.c rfl .n) ce45 (zpa (z:=(0:Int)) (hz:=by decide)) (.n) ?_
     rintro w325 -
     dsimp only [List.append_eq,List.nil_append,List.cons_append]
     refine zS rfl rfl (zn zr34 rfl) (fun b26=> ?_)
     refine zx 0 rfl rfl rfl rfl rfl sz34 rfl (.take (.take .nil)) .z<|zj<|zc<|zh<|zh<|za<|r_pv rfl rfl (zb rfl)<|zj<|zc<|zr<|zSa<|zQ<|zh<|za<|r_pv rfl rfl (zD rfl rfl)<|zj<|zc<|zh<|zT rfl rfl<|zw<|zc<|zh<|zr<|zh<|za<|r_pv rfl rfl (zb rfl)<|r_pv rfl rfl (ze rfl)<|zj<|zc<|zla (OW:=[boxA b26 34 [w325.b,w325.l]]) (O:=[boxA b24 44 [.int .i64 (fy*gz - fz*gy),.int .i64 (fz*gx - fx*gz),.int .i64 (fx*gy - fy*gx)],boxA b23 136 [.int .i64 fx,.int .i64 fy,.int .i64 fz,.int .i64 gx,.int .i64 gy,.int .i64 gz],boxA b10 34 [w322.b,w322.l],boxA b8 44 [.int .i64 (ey*fz - ez*fy),.int .i64 (ez*fx - ex*fz),.int .i64 (ex*fy - ey*fx)],boxA b7 136 [.int .i64 ex,.int .i64 ey,.int .i64 ez,.int .i64 fx,.int .i64 fy,.int .i64 fz],boxA u7_1 44 [.int .i64 ((fy - ey)*(gz - ez) - (fz - ez)*(gy - ey)),.int .i64 ((fz - ez)*(gx - ex) - (fx - ex)*(gz - ez)),.int .i64 ((fx - ex)*(gy - ey) - (fy - ey)*(gx - ex))],boxA b3 44 [.int .i64 gx,.int .i64 gy,.int .i64 gz],boxA b2 44 [.int .i64 fx,.int .i64 fy,.int .i64 fz],boxA b1 44 [.int .i64 ex,.int .i64 ey,.int .i64 ez]]) 11 mixed (.block (.then (.then (.block (.then (.block (.then (.then (.block (.then .ret)))))))))) (by kernel_rfl)<|d_uw 0 rfl rfl (by kernel_rfl) (by kernel_rfl) (by kernel_rfl) rfl rfl (zf 0 ty34 rfl rfl (.take (.take .nil)))<|d_pv 1 rfl rfl (by kernel_rfl) (by kernel_rfl) rfl rfl (zb rfl)<|d_pv 2 rfl rfl (by kernel_rfl) (by kernel_rfl) rfl rfl (zg (i:=0) Try.underlying44 sz3 rfl rfl (by decide) rfl)<|d_uw 3 rfl rfl (by kernel_rfl) (by kernel_rfl) (by kernel_rfl) rfl rfl (zd 1 ty3 rfl rfl rfl)<|d_pv 5 rfl rfl (by kernel_rfl) (by kernel_rfl) rfl rfl (zb rfl)<|d_pv 6 rfl rfl (by kernel_rfl) (by kernel_rfl) rfl rfl (zg (i:=0) Try.underlying44 sz3 rfl rfl (by decide) rfl)<|d_uw 7 rfl rfl (by kernel_rfl) (by kernel_rfl) (by kernel_rfl) rfl rfl (zd 6 ty3 rfl rfl rfl)<|zE 4 (by kernel_rfl) (zu rfl rfl rfl rfl (.c rfl .n) ce45 (zpa (z:=(fy*gz - fz*gy)) (hz:=by assumption)) (.n) ?_)
     rintro w327 -
     dsimp only [List.append_eq,List.nil_append,List.cons_append]
     refine zE 8 (by kernel_rfl) (zu rfl rfl rfl rfl (.c rfl .n) ce45 (zpa (z:=((fy - ey)*(gz - ez) - (fz - ez)*(gy - ey))) (hz:=by assumption)) (.n) ?_)
     rintro w328 -
     dsimp only [List.append_eq,List.nil_append,List.cons_append]
     refine zE 9 (by kernel_rfl) (zu rfl rfl rfl rfl (.c rfl (.c rfl .n)) ce97 (zXa (w1:=w327) (w2:=w328) (x1:=(fy*gz - fz*gy)) (x2:=((fy - ey)*(gz - ez) - (fz - ez)*(gy - ey))) (hb1:=by assumption) (hb2:=by assumption)) (.c (j:=1) rfl (.c (j:=0) rfl .n)) ?_)
     rintro w329 -
     dsimp only [List.append_eq,List.nil_append,List.cons_append]
     refine zE 10 (by kernel_rfl) (zu rfl rfl rfl rfl (.c rfl (.c rfl .n)) ce62 (zWa (w1:=w325) (w2:=w329) (x1:=(0:Int)) (x2:=(fy*gz - fz*gy)*((fy - ey)*(gz - ez) - (fz - ez)*(gy - ey))) (hb1:=by assumption) (hb2:=by assumption)) (.c (j:=3) rfl (.c (j:=0) rfl .n)) ?_)
     rintro w330 -
     dsimp only [List.append_eq,List.nil_append,List.cons_append]
     refine zE 11 (by kernel_rfl) (zM (by kernel_rfl) rfl rfl rfl rfl rfl sz34 rfl (.take (.take .nil)) ?_)
     refine zma (by kernel_rfl)<|zA<|zc<|za<|r_pv rfl rfl (zC (z:=1) rfl rfl (w64 (by decide)))<|r_pv rfl rfl (zb rfl)<|zj<|zba<|zQ<|zh<|za<|r_pv rfl rfl (zD rfl rfl)<|zj<|zc<|zh<|zT rfl rfl<|zw<|zc<|zh<|zr<|zh<|za<|r_pv rfl rfl (zb rfl)<|r_pv rfl rfl (ze rfl)<|zj<|zc<|zla (OW:=[boxA b26 34 [w330.b,w330.l]]) (O:=[boxA b24 44 [.int .i64 (fy*gz - fz*gy),.int .i64 (fz*gx - fx*gz),.int .i64 (fx*gy - fy*gx)],boxA b23 136 [.int .i64 fx,.int .i64 fy,.int .i64 fz,.int .i64 gx,.int .i64 gy,.int .i64 gz],boxA b10 34 [w322.b,w322.l],boxA b8 44 [.int .i64 (ey*fz - ez*fy),.int .i64 (ez*fx - ex*fz),.int .i64 (ex*fy - ey*fx)],boxA b7 136 [.int .i64 ex,.int .i64 ey,.int .i64 ez,.int .i64 fx,.int .i64 fy,.int .i64 fz],boxA u7_1 44 [.int .i64 ((fy - ey)*(gz - ez) - (fz - ez)*(gy - ey)),.int .i64 ((fz - ez)*(gx - ex) - (fx - ex)*(gz - ez)),.int .i64 ((fx - ex)*(gy - ey) - (fy - ey)*(gx - ex))],boxA b3 44 [.int .i64 gx,.int .i64 gy,.int .i64 gz],boxA b2 44 [.int .i64 fx,.int .i64 fy,.int .i64 fz],boxA b1 44 [.int .i64 ex,.int .i64 ey,.int .i64 ez]]) 11 mixed (.block (.then (.then (.block (.then (.block (.then (.then (.block (.then .ret)))))))))) (by kernel_rfl)<|d_uw 0 rfl rfl (by kernel_rfl) (by kernel_rfl) (by kernel_rfl) rfl rfl (zf 0 ty34 rfl rfl (.take (.take .nil)))<|d_pv 1 rfl rfl (by kernel_rfl) (by kernel_rfl) rfl rfl (zb rfl)<|d_pv 2 rfl rfl (by kernel_rfl) (by kernel_rfl) rfl rfl (zg (i:=1) Try.underlying44 sz3 rfl rfl (by decide) rfl)<|d_uw 3 rfl rfl (by kernel_rfl) (by kernel_rfl) (by kernel_rfl) rfl rfl (zd 1 ty3 rfl rfl rfl)<|d_pv 5 rfl rfl (by kernel_rfl) (by kernel_rfl) rfl rfl (zb rfl)<|d_pv 6 rfl rfl (by kernel_rfl) (by kernel_rfl) rfl rfl (zg (i:=1) Try.underlying44 sz3 rfl rfl (by decide) rfl)<|d_uw 7 rfl rfl (by kernel_rfl) (by kernel_rfl) (by kernel_rfl) rfl rfl (zd 6 ty3 rfl rfl rfl)<|zE 4 (by kernel_rfl) (zu rfl rfl rfl rfl (.c rfl .n) ce45 (zpa (z:=(fz*gx - fx*gz)) (hz:=by assumption)) (.n) ?_)
     rintro w331 -
     dsimp only [List.append_eq,List.nil_append,List.cons_append]
     refine zE 8 (by kernel_rfl) (zu rfl rfl rfl rfl (.c rfl .n) ce45 (zpa (z:=((fz - ez)*(gx - ex) - (fx - ex)*(gz - ez))) (hz:=by assumption)) (.n) ?_)
     rintro w332 -
     dsimp only [List.append_eq,List.nil_append,List.cons_append]
     refine zE 9 (by kernel_rfl) (zu rfl rfl rfl rfl (.c rfl (.c rfl .n)) ce97 (zXa (w1:=w331) (w2:=w332) (x1:=(fz*gx - fx*gz)) (x2:=((fz - ez)*(gx - ex) - (fx - ex)*(gz - ez))) (hb1:=by assumption) (hb2:=by assumption)) (.c (j:=1) rfl (.c (j:=0) rfl .n)) ?_)
     rintro w333 -
     dsimp only [List.append_eq,List.nil_append,List.cons_append]
     refine zE 10 (by kernel_rfl) (zu rfl rfl rfl rfl (.c rfl (.c rfl .n)) ce62 (zWa (w1:=w330) (w2:=w333) (x1:=(0:Int)+((fy*gz - fz*gy)*((fy - ey)*(gz - ez) - (fz - ez)*(gy - ey)))) (x2:=(fz*gx - fx*gz)*((fz - ez)*(gx - ex) - (fx - ex)*(gz - ez))) (hb1:=by assumption) (hb2:=by assumption)) (.c (j:=3) rfl (.c (j:=0) rfl .n)) ?_)
     rintro w334 -
     dsimp only [List.append_eq,List.nil_append,List.cons_append]
     refine zE 11 (by kernel_rfl) (zM (by kernel_rfl) rfl rfl rfl rfl rfl sz34 rfl (.take (.take .nil)) ?_)
     refine zma (by kernel_rfl)<|zA<|zc<|za<|r_pv rfl rfl (zC (z:=2) rfl rfl (w64 (by decide)))<|r_pv rfl rfl (zb rfl)<|zj<|zba<|zQ<|zh<|za<|r_pv rfl rfl (zD rfl rfl)<|zj<|zc<|zh<|zT rfl rfl<|zw<|zc<|zh<|zr<|zh<|za<|r_pv rfl rfl (zb rfl)<|r_pv rfl rfl (ze rfl)<|zj<|zc<|zla (OW:=[boxA b26 34 [w334.b,w334.l]]) (O:=[boxA b24 44 [.int .i64 (fy*gz - fz*gy),.int .i64 (fz*gx - fx*gz),.int .i64 (fx*gy - fy*gx)],boxA b23 136 [.int .i64 fx,.int .i64 fy,.int .i64 fz,.int .i64 gx,.int .i64 gy,.int .i64 gz],boxA b10 34 [w322.b,w322.l],boxA b8 44 [.int .i64 (ey*fz - ez*fy),.int .i64 (ez*fx - ex*fz),.int .i64 (ex*fy - ey*fx)],boxA b7 136 [.int .i64 ex,.int .i64 ey,.int .i64 ez,.int .i64 fx,.int .i64 fy,.int .i64 fz],boxA u7_1 44 [.int .i64 ((fy - ey)*(gz - ez) - (fz - ez)*(gy - ey)),.int .i64 ((fz - ez)*(gx - ex) - (fx - ex)*(gz - ez)),.int .i64 ((fx - ex)*(gy - ey) - (fy - ey)*(gx - ex))],boxA b3 44 [.int .i64 gx,.int .i64 gy,.int .i64 gz],boxA b2 44 [.int .i64 fx,.int .i64 fy,.int .i64 fz],boxA b1 44 [.int .i64 ex,.int .i64 ey,.int .i64 ez]]) 11 mixed (.block (.then (.then (.block (.then (.block (.then (.then (.block (.then .ret)))))))))) (by kernel_rfl)<|d_uw 0 rfl rfl (by kernel_rfl) (by kernel_rfl) (by kernel_rfl) rfl rfl (zf 0 ty34 rfl rfl (.take (.take .nil)))<|d_pv 1 rfl rfl (by kernel_rfl) (by kernel_rfl) rfl rfl (zb rfl)<|d_pv 2 rfl rfl (by kernel_rfl) (by kernel_rfl) rfl rfl (zg (i:=2) Try.underlying44 sz3 rfl rfl (by decide) rfl)<|d_uw 3 rfl rfl (by kernel_rfl) (by kernel_rfl) (by kernel_rfl) rfl rfl (zd 1 ty3 rfl rfl rfl)<|d_pv 5 rfl rfl (by kernel_rfl) (by kernel_rfl) rfl rfl (zb rfl)<|d_pv 6 rfl rfl (by kernel_rfl) (by kernel_rfl) rfl rfl (zg (i:=2) Try.underlying44 sz3 rfl rfl (by decide) rfl)<|d_uw 7 rfl rfl (by kernel_rfl) (by kernel_rfl) (by kernel_rfl) rfl rfl (zd 6 ty3 rfl rfl rfl)<|zE 4 (by kernel_rfl) (zu rfl rfl rfl rfl (.c rfl .n) ce45 (zpa (z:=(fx*gy - fy*gx)) (hz:=by assumption)) (.n) ?_)
     rintro w335 -
     dsimp only [List.append_eq,List.nil_append,List.cons_append]
     refine zE 8 (by kernel_rfl) (zu rfl rfl rfl rfl (.c rfl .n) ce45 (zpa (z:=((fx - ex)*(gy - ey) - (fy - ey)*(gx - ex))) (hz:=by assumption)) (.n) ?_)
     rintro w336 -
     dsimp only [List.append_eq,List.nil_append,List.cons_append]
     refine zE 9 (by kernel_rfl) (zu rfl rfl rfl rfl (.c rfl (.c rfl .n)) ce97 (zXa (w1:=w335) (w2:=w336) (x1:=(fx*gy - fy*gx)) (x2:=((fx - ex)*(gy - ey) - (fy - ey)*(gx - ex))) (hb1:=by assumption) (hb2:=by assumption)) (.c (j:=1) rfl (.c (j:=0) rfl .n)) ?_)
     rintro w337 -
     dsimp only [List.append_eq,List.nil_append,List.cons_append]
     refine zE 10 (by kernel_rfl) (zu rfl rfl rfl rfl (.c rfl (.c rfl .n)) ce62 (zWa (w1:=w334) (w2:=w337) (x1:=((0:Int)+((fy*gz - fz*gy)*((fy - ey)*(gz - ez) - (fz - ez)*(gy - ey))))+((fz*gx - fx*gz)*((fz - ez)*(gx - ex) - (fx - ex)*(gz - ez)))) (x2:=(fx*gy - fy*gx)*((fx - ex)*(gy - ey) - (fy - ey)*(gx - ex))) (hb1:=by assumption) (hb2:=by assumption)) (.c (j:=3) rfl (.c (j:=0) rfl .n)) ?_)
     rintro w338 -
     dsimp only [List.append_eq,List.nil_append,List.cons_append]
     refine zE 11 (by kernel_rfl) (zM (by kernel_rfl) rfl rfl rfl rfl rfl sz34 rfl (.take (.take .nil)) ?_)
     refine zma (by kernel_rfl)<|zA<|zc<|za<|r_pv rfl rfl (zC (z:=3) rfl rfl (w64 (by decide)))<|r_pv rfl rfl (zb rfl)<|zj<|zba<|zQ<|zh<|za<|r_pv rfl rfl (zD rfl rfl)<|zj<|zc<|zh<|zva rfl rfl<|zaa<|zk<|zk<|zt<|zc<|zh<|za<|r_u rfl rfl (zf 0 ty34 rfl rfl (.take (.take .nil)))<|zY rfl rfl (.c rfl .n) ce83 (zNa (w1:=w338) (x1:=(((0:Int)+((fy*gz - fz*gy)*((fy - ey)*(gz - ez) - (fz - ez)*(gy - ey))))+((fz*gx - fx*gz)*((fz - ez)*(gx - ex) - (fx - ex)*(gz - ez))))+((fx*gy - fy*gx)*((fx - ex)*(gy - ey) - (fy - ey)*(gx - ex)))) (hln:=by assumption)) (.c (j:=0) rfl .n)<|r_pv rfl rfl (zD rfl rfl)<|zj<|zc<|zI rfl (fun hng=> ?_) (fun hng=> ?_)
     ·
      refine zh<|za<|r_pv rfl rfl (ze rfl)<|zj<|zc<|zP<|zq<|zl<|zl<|zq<|zl ?_
      exact zG Try.results82 () trivial (zz rfl) (congrArg Value.bool (Ms.on_3b (Decidable.not_not.1 hdet) hz hng)) (ho:=(.n:PickO _ _ _)) (.n:SelR _ _ _)
     ·
      have hng1:=hng
      refine zw<|zA<|zc<|za<|r_pv rfl rfl (zC (z:=2) rfl rfl (w64 (by decide)))<|r_pv rfl rfl (zb rfl)<|zj<|zba<|zQ<|zh<|za<|r_pv rfl rfl (zD rfl rfl)<|zj<|zc<|zh<|zT rfl rfl<|zw<|zc<|zh<|zr<|zh<|za<|r_pv rfl rfl (zza (i:=2) Try.underlying137 ty136 rfl rfl (by decide) (.skip (.skip (.skip (.skip (.skip (.skip (.skip (.skip (.skip (.skip (.skip (.skip (.take (.take (.take (.take (.take (.take .nil)))))))))))))))))))<|zS rfl rfl (zn zr136 rfl) (fun b39=> ?_)
      refine zx 0 rfl rfl rfl rfl rfl sz136 rfl (.take (.take (.take (.take (.take (.take .nil)))))) .z<|zj<|zc<|zh<|za<|r_pv rfl rfl (zg (i:=0) Try.underlying136 sz44 rfl rfl (by decide) rfl)<|r_u rfl rfl (zf 0 ty44 rfl rfl (.take (.take (.take .nil))))<|r_pv rfl rfl (zg (i:=1) Try.underlying136 sz44 rfl rfl (by decide) rfl)<|r_u rfl rfl (zf 0 ty44 rfl rfl (.skip (.skip (.skip (.take (.take (.take .nil)))))))<|zY rfl rfl (.c rfl (.c rfl .n)) ce104 (zrb (ex:=gx) (ey:=gy) (ez:=gz) (fx:=ex) (fy:=ey) (fz:=ez) (hbex:=by assumption) (hbey:=by assumption) (hbez:=by assumption) (hbfx:=by assumption) (hbfy:=by assumption) (hbfz:=by assumption)) (.n)<|zS rfl rfl (zn zr44 rfl) (fun b40=> ?_)
      refine zx 0 rfl rfl rfl rfl rfl sz44 rfl (.take (.take (.take .nil))) .z<|zj<|zc<|zh<|za<|zea rfl rfl (.c rfl .n) ce45 (zpa (z:=(0:Int)) (hz:=by decide)) (.n) ?_
      rintro w341 -
      dsimp only [List.append_eq,List.nil_append,List.cons_append]
      refine zS rfl rfl (zn zr34 rfl) (fun b42=> ?_)
      refine zx 0 rfl rfl rfl rfl rfl sz34 rfl (.take (.take .nil)) .z<|zj<|zc<|zh<|zh<|za<|r_pv rfl rfl (zb rfl)<|zj<|zc<|zr<|zSa<|zQ<|zh<|za<|r_pv rfl rfl (zD rfl rfl)<|zj<|zc<|zh<|zT rfl rfl<|zw<|zc<|zh<|zr<|zh<|za<|r_pv rfl rfl (zb rfl)<|r_pv rfl rfl (ze rfl)<|zj<|zc<|zla (OW:=[boxA b42 34 [w341.b,w341.l]]) (O:=[boxA b40 44 [.int .i64 (gy*ez - gz*ey),.int .i64 (gz*ex - gx*ez),.int .i64 (gx*ey - gy*ex)],boxA b39 136 [.int .i64 gx,.int .i64 gy,.int .i64 gz,.int .i64 ex,.int .i64 ey,.int .i64 ez],boxA b26 34 [w338.b,w338.l],boxA b24 44 [.int .i64 (fy*gz - fz*gy),.int .i64 (fz*gx - fx*gz),.int .i64 (fx*gy - fy*gx)],boxA b23 136 [.int .i64 fx,.int .i64 fy,.int .i64 fz,.int .i64 gx,.int .i64 gy,.int .i64 gz],boxA b10 34 [w322.b,w322.l],boxA b8 44 [.int .i64 (ey*fz - ez*fy),.int .i64 (ez*fx - ex*fz),.int .i64 (ex*fy - ey*fx)],boxA b7 136 [.int .i64 ex,.int .i64 ey,.int .i64 ez,.int .i64 fx,.int .i64 fy,.int .i64 fz],boxA u7_1 44 [.int .i64 ((fy - ey)*(gz - ez) - (fz - ez)*(gy - ey)),.int .i64 ((fz - ez)*(gx - ex) - (fx - ex)*(gz - ez)),.int .i64 ((fx - ex)*(gy - ey) - (fy - ey)*(gx - ex))],boxA b3 44 [.int .i64 gx,.int .i64 gy,.int .i64 gz],boxA b2 44 [.int .i64 fx,.int .i64 fy,.int .i64 fz],boxA b1 44 [.int .i64 ex,.int .i64 ey,.int .i64 ez]]) 11 mixed (.block (.then (.then (.block (.then (.block (.then (.then (.block (.then .ret)))))))))) (by kernel_rfl)<|d_uw 0 rfl rfl (by kernel_rfl) (by kernel_rfl) (by kernel_rfl) rfl rfl (zf 0 ty34 rfl rfl (.take (.take .nil)))<|d_pv 1 rfl rfl (by kernel_rfl) (by kernel_rfl) rfl rfl (zb rfl)<|d_pv 2 rfl rfl (by kernel_rfl) (by kernel_rfl) rfl rfl (zg (i:=0) Try.underlying44 sz3 rfl rfl (by decide) rfl)<|d_uw 3 rfl rfl (by kernel_rfl) (by kernel_rfl) (by kernel_rfl) rfl rfl (zd 1 ty3 rfl rfl rfl)<|d_pv 5 rfl rfl (by kernel_rfl) (by kernel_rfl) rfl rfl (zb rfl)<|d_pv 6 rfl rfl (by kernel_rfl) (by kernel_rfl) rfl rfl (zg (i:=0) Try.underlying44 sz3 rfl rfl (by decide) rfl)<|d_uw 7 rfl rfl (by kernel_rfl) (by kernel_rfl) (by kernel_rfl) rfl rfl (zd 9 ty3 rfl rfl rfl)<|zE 4 (by kernel_rfl) (zu rfl rfl rfl rfl (.c rfl .n) ce45 (zpa (z:=(gy*ez - gz*ey)) (hz:=by assumption)) (.n) ?_)
      rintro w343 -
      dsimp only [List.append_eq,List.nil_append,List.cons_append]
      refine zE 8 (by kernel_rfl) (zu rfl rfl rfl rfl (.c rfl .n) ce45 (zpa (z:=((fy - ey)*(gz - ez) - (fz - ez)*(gy - ey))) (hz:=by assumption)) (.n) ?_)
      rintro w344 -
      dsimp only [List.append_eq,List.nil_append,List.cons_append]
      refine zE 9 (by kernel_rfl) (zu rfl rfl rfl rfl (.c rfl (.c rfl .n)) ce97 (zXa (w1:=w343) (w2:=w344) (x1:=(gy*ez - gz*ey)) (x2:=((fy - ey)*(gz - ez) - (fz - ez)*(gy - ey))) (hb1:=by assumption) (hb2:=by assumption)) (.c (j:=1) rfl (.c (j:=0) rfl .n)) ?_)
      rintro w345 -
      dsimp only [List.append_eq,List.nil_append,List.cons_append]
      refine zE 10 (by kernel_rfl) (zu rfl rfl rfl rfl (.c rfl (.c rfl .n)) ce62 (zWa (w1:=w341) (w2:=w345) (x1:=(0:Int)) (x2:=(gy*ez - gz*ey)*((fy - ey)*(gz - ez) - (fz - ez)*(gy - ey))) (hb1:=by assumption) (hb2:=by assumption)) (.c (j:=3) rfl (.c (j:=0) rfl .n)) ?_)
      rintro w346 -
      dsimp only [List.append_eq,List.nil_append,List.cons_append]
      refine zE 11 (by kernel_rfl) (zM (by kernel_rfl) rfl rfl rfl rfl rfl sz34 rfl (.take (.take .nil)) ?_)
      refine zma (by kernel_rfl)<|zA<|zc<|za<|r_pv rfl rfl (zC (z:=1) rfl rfl (w64 (by decide)))<|r_pv rfl rfl (zb rfl)<|zj<|zba<|zQ<|zh<|za<|r_pv rfl rfl (zD rfl rfl)<|zj<|zc<|zh<|zT rfl rfl<|zw<|zc<|zh<|zr<|zh<|za<|r_pv rfl rfl (zb rfl)<|r_pv rfl rfl (ze rfl)<|zj<|zc<|zla (OW:=[boxA b42 34 [w346.b,w346.l]]) (O:=[boxA b40 44 [.int .i64 (gy*ez - gz*ey),.int .i64 (gz*ex - gx*ez),.int .i64 (gx*ey - gy*ex)],boxA b39 136 [.int .i64 gx,.int .i64 gy,.int .i64 gz,.int .i64 ex,.int .i64 ey,.int .i64 ez],boxA b26 34 [w338.b,w338.l],boxA b24 44 [.int .i64 (fy*gz - fz*gy),.int .i64 (fz*gx - fx*gz),.int .i64 (fx*gy - fy*gx)],boxA b23 136 [.int .i64 fx,.int .i64 fy,.int .i64 fz,.int .i64 gx,.int .i64 gy,.int .i64 gz],boxA b10 34 [w322.b,w322.l],boxA b8 44 [.int .i64 (ey*fz - ez*fy),.int .i64 (ez*fx - ex*fz),.int .i64 (ex*fy - ey*fx)],boxA b7 136 [.int .i64 ex,.int .i64 ey,.int .i64 ez,.int .i64 fx,.int .i64 fy,.int .i64 fz],boxA u7_1 44 [.int .i64 ((fy - ey)*(gz - ez) - (fz - ez)*(gy - ey)),.int .i64 ((fz - ez)*(gx - ex) - (fx - ex)*(gz - ez)),.int .i64 ((fx - ex)*(gy - ey) - (fy - ey)*(gx - ex))],boxA b3 44 [.int .i64 gx,.int .i64 gy,.int .i64 gz],boxA b2 44 [.int .i64 fx,.int .i64 fy,.int .i64 fz],boxA b1 44 [.int .i64 ex,.int .i64 ey,.int .i64 ez]]) 11 mixed (.block (.then (.then (.block (.then (.block (.then (.then (.block (.then .ret)))))))))) (by kernel_rfl)<|d_uw 0 rfl rfl (by kernel_rfl) (by kernel_rfl) (by kernel_rfl) rfl rfl (zf 0 ty34 rfl rfl (.take (.take .nil)))<|d_pv 1 rfl rfl (by kernel_rfl) (by kernel_rfl) rfl rfl (zb rfl)<|d_pv 2 rfl rfl (by kernel_rfl) (by kernel_rfl) rfl rfl (zg (i:=1) Try.underlying44 sz3 rfl rfl (by decide) rfl)<|d_uw 3 rfl rfl (by kernel_rfl) (by kernel_rfl) (by kernel_rfl) rfl rfl (zd 1 ty3 rfl rfl rfl)<|d_pv 5 rfl rfl (by kernel_rfl) (by kernel_rfl) rfl rfl (zb rfl)<|d_pv 6 rfl rfl (by kernel_rfl) (by kernel_rfl) rfl rfl (zg (i:=1) Try.underlying44 sz3 rfl rfl (by decide) rfl)<|d_uw 7 rfl rfl (by kernel_rfl) (by kernel_rfl) (by kernel_rfl) rfl rfl (zd 9 ty3 rfl rfl rfl)<|zE 4 (by kernel_rfl) (zu rfl rfl rfl rfl (.c rfl .n) ce45 (zpa (z:=(gz*ex - gx*ez)) (hz:=by assumption)) (.n) ?_)
      rintro w347 -
      dsimp only [List.append_eq,List.nil_append,List.cons_append]
      refine zE 8 (by kernel_rfl) (zu rfl rfl rfl rfl (.c rfl .n) ce45 (zpa (z:=((fz - ez)*(gx - ex) - (fx - ex)*(gz - ez))) (hz:=by assumption)) (.n) ?_)
      rintro w348 -
      dsimp only [List.append_eq,List.nil_append,List.cons_append]
      refine zE 9 (by kernel_rfl) (zu rfl rfl rfl rfl (.c rfl (.c rfl .n)) ce97 (zXa (w1:=w347) (w2:=w348) (x1:=(gz*ex - gx*ez)) (x2:=((fz - ez)*(gx - ex) - (fx - ex)*(gz - ez))) (hb1:=by assumption) (hb2:=by assumption)) (.c (j:=1) rfl (.c (j:=0) rfl .n)) ?_)
      rintro w349 -
      dsimp only [List.append_eq,List.nil_append,List.cons_append]
      refine zE 10 (by kernel_rfl) (zu rfl rfl rfl rfl (.c rfl (.c rfl .n)) ce62 (zWa (w1:=w346) (w2:=w349) (x1:=(0:Int)+((gy*ez - gz*ey)*((fy - ey)*(gz - ez) - (fz - ez)*(gy - ey)))) (x2:=(gz*ex - gx*ez)*((fz - ez)*(gx - ex) - (fx - ex)*(gz - ez))) (hb1:=by assumption) (hb2:=by assumption)) (.c (j:=3) rfl (.c (j:=0) rfl .n)) ?_)
      rintro w350 -
      dsimp only [List.append_eq,List.nil_append,List.cons_append]
      refine zE 11 (by kernel_rfl) (zM (by kernel_rfl) rfl rfl rfl rfl rfl sz34 rfl (.take (.take .nil)) ?_)
      refine zma (by kernel_rfl)<|zA<|zc<|za<|r_pv rfl rfl (zC (z:=2) rfl rfl (w64 (by decide)))<|r_pv rfl rfl (zb rfl)<|zj<|zba<|zQ<|zh<|za<|r_pv rfl rfl (zD rfl rfl)<|zj<|zc<|zh<|zT rfl rfl<|zw<|zc<|zh<|zr<|zh<|za<|r_pv rfl rfl (zb rfl)<|r_pv rfl rfl (ze rfl)<|zj<|zc<|zla (OW:=[boxA b42 34 [w350.b,w350.l]]) (O:=[boxA b40 44 [.int .i64 (gy*ez - gz*ey),.int .i64 (gz*ex - gx*ez),.int .i64 (gx*ey - gy*ex)],boxA b39 136 [.int .i64 gx,.int .i64 gy,.int .i64 gz,.int .i64 ex,.int .i64 ey,.int .i64 ez],boxA b26 34 [w338.b,w338.l],boxA b24 44 [.int .i64 (fy*gz - fz*gy),.int .i64 (fz*gx - fx*gz),.int .i64 (fx*gy - fy*gx)],boxA b23 136 [.int .i64 fx,.int .i64 fy,.int .i64 fz,.int .i64 gx,.int .i64 gy,.int .i64 gz],boxA b10 34 [w322.b,w322.l],boxA b8 44 [.int .i64 (ey*fz - ez*fy),.int .i64 (ez*fx - ex*fz),.int .i64 (ex*fy - ey*fx)],boxA b7 136 [.int .i64 ex,.int .i64 ey,.int .i64 ez,.int .i64 fx,.int .i64 fy,.int .i64 fz],boxA u7_1 44 [.int .i64 ((fy - ey)*(gz - ez) - (fz - ez)*(gy - ey)),.int .i64 ((fz - ez)*(gx - ex) - (fx - ex)*(gz - ez)),.int .i64 ((fx - ex)*(gy - ey) - (fy - ey)*(gx - ex))],boxA b3 44 [.int .i64 gx,.int .i64 gy,.int .i64 gz],boxA b2 44 [.int .i64 fx,.int .i64 fy,.int .i64 fz],boxA b1 44 [.int .i64 ex,.int .i64 ey,.int .i64 ez]]) 11 mixed (.block (.then (.then (.block (.then (.block (.then (.then (.block (.then .ret)))))))))) (by kernel_rfl)<|d_uw 0 rfl rfl (by kernel_rfl) (by kernel_rfl) (by kernel_rfl) rfl rfl (zf 0 ty34 rfl rfl (.take (.take .nil)))<|d_pv 1 rfl rfl (by kernel_rfl) (by kernel_rfl) rfl rfl (zb rfl)<|d_pv 2 rfl rfl (by kernel_rfl) (by kernel_rfl) rfl rfl (zg (i:=2) Try.underlying44 sz3 rfl rfl (by decide) rfl)<|d_uw 3 rfl rfl (by kernel_rfl) (by kernel_rfl) (by kernel_rfl) rfl rfl (zd 1 ty3 rfl rfl rfl)<|d_pv 5 rfl rfl (by kernel_rfl) (by kernel_rfl) rfl rfl (zb rfl)<|d_pv 6 rfl rfl (by kernel_rfl) (by kernel_rfl) rfl rfl (zg (i:=2) Try.underlying44 sz3 rfl rfl (by decide) rfl)<|d_uw 7 rfl rfl (by kernel_rfl) (by kernel_rfl) (by kernel_rfl) rfl rfl (zd 9 ty3 rfl rfl rfl)<|zE 4 (by kernel_rfl) (zu rfl rfl rfl rfl (.c rfl .n) ce45 (zpa (z:=(gx*ey - gy*ex)) (hz:=by assumption)) (.n) ?_)
      rintro w351 -
      dsimp only [List.append_eq,List.nil_append,List.cons_append]
      refine zE 8 (by kernel_rfl) (zu rfl rfl rfl rfl (.c rfl .n) ce45 (zpa (z:=((fx - ex)*(gy - ey) - (fy - ey)*(gx - ex))) (hz:=by assumption)) (.n) ?_)
      rintro w352 -
      dsimp only [List.append_eq,List.nil_append,List.cons_append]
      refine zE 9 (by kernel_rfl) (zu rfl rfl rfl rfl (.c rfl (.c rfl .n)) ce97 (zXa (w1:=w351) (w2:=w352) (x1:=(gx*ey - gy*ex)) (x2:=((fx - ex)*(gy - ey) - (fy - ey)*(gx - ex))) (hb1:=by assumption) (hb2:=by assumption)) (.c (j:=1) rfl (.c (j:=0) rfl .n)) ?_)
      rintro w353 -
      dsimp only [List.append_eq,List.nil_append,List.cons_append]
      refine zE 10 (by kernel_rfl) (zu rfl rfl rfl rfl (.c rfl (.c rfl .n)) ce62 (zWa (w1:=w350) (w2:=w353) (x1:=((0:Int)+((gy*ez - gz*ey)*((fy - ey)*(gz - ez) - (fz - ez)*(gy - ey))))+((gz*ex - gx*ez)*((fz - ez)*(gx - ex) - (fx - ex)*(gz - ez)))) (x2:=(gx*ey - gy*ex)*((fx - ex)*(gy - ey) - (fy - ey)*(gx - ex))) (hb1:=by assumption) (hb2:=by assumption)) (.c (j:=3) rfl (.c (j:=0) rfl .n)) ?_)
      rintro w354 -
      dsimp only [List.append_eq,List.nil_append,List.cons_append]
      refine zE 11 (by kernel_rfl) (zM (by kernel_rfl) rfl rfl rfl rfl rfl sz34 rfl (.take (.take .nil)) ?_)
      refine zma (by kernel_rfl)<|zA<|zc<|za<|r_pv rfl rfl (zC (z:=3) rfl rfl (w64 (by decide)))<|r_pv rfl rfl (zb rfl)<|zj<|zba<|zQ<|zh<|za<|r_pv rfl rfl (zD rfl rfl)<|zj<|zc<|zh<|zva rfl rfl<|zaa<|zk<|zk<|zt<|zc<|zh<|za<|r_u rfl rfl (zf 0 ty34 rfl rfl (.take (.take .nil)))<|zY rfl rfl (.c rfl .n) ce83 (zNa (w1:=w354) (x1:=(((0:Int)+((gy*ez - gz*ey)*((fy - ey)*(gz - ez) - (fz - ez)*(gy - ey))))+((gz*ex - gx*ez)*((fz - ez)*(gx - ex) - (fx - ex)*(gz - ez))))+((gx*ey - gy*ex)*((fx - ex)*(gy - ey) - (fy - ey)*(gx - ex)))) (hln:=by assumption)) (.c (j:=0) rfl .n)<|r_pv rfl rfl (zD rfl rfl)<|zj<|zc<|zI rfl (fun hng=> ?_) (fun hng=> ?_)
      ·
       refine zh<|za<|r_pv rfl rfl (ze rfl)<|zj<|zc<|zP<|zq<|zl<|zl<|zq<|zl ?_
       exact zG Try.results82 () trivial (zz rfl) (congrArg Value.bool (Ms.on_3c (Decidable.not_not.1 hdet) hz hng)) (ho:=(.n:PickO _ _ _)) (.n:SelR _ _ _)
      ·
       have hng2:=hng
       refine zw<|zA<|zc<|za<|r_pv rfl rfl (zC (z:=3) rfl rfl (w64 (by decide)))<|r_pv rfl rfl (zb rfl)<|zj<|zba<|zQ<|zh<|za<|r_pv rfl rfl (zD rfl rfl)<|zj<|zc<|zh<|zva rfl rfl<|zaa<|zk<|zk<|zt<|zc<|zh<|za<|r_pv rfl rfl (ze rfl)<|zj<|zc<|zP ?_
       exact zG Try.results82 () trivial (zz rfl) (congrArg Value.bool (Ms.on_4 (Decidable.not_not.1 hdet) hz hng0 hng1 hng2)) (ho:=(.n:PickO _ _ _)) (.n:SelR _ _ _)
  refine zL (X:=Nat) (k':=1) (L':=(lb 9 255)) (fun u7_1=>([(7,.pointer (some ⟨u7_1,0,none⟩)),(25,.agg #[.int .i64 ((fy - ey)*(gz - ez) - (fz - ez)*(gy - ey)),.int .i64 ((fz - ez)*(gx - ex) - (fx - ex)*(gz - ez)),.int .i64 ((fx - ex)*(gy - ey) - (fy - ey)*(gx - ex))]),(6,.bool false),(5,.pointer (some ⟨b3,0,none⟩)),(4,.pointer (some ⟨b2,0,none⟩)),(3,.pointer (some ⟨b1,0,none⟩))],[boxA u7_1 44 [.int .i64 0,.int .i64 0,.int .i64 0]],[boxA b3 44 [.int .i64 gx,.int .i64 gy,.int .i64 gz],boxA b2 44 [.int .i64 fx,.int .i64 fy,.int .i64 fz],boxA b1 44 [.int .i64 ex,.int .i64 ey,.int .i64 ez]],[zF w34 (Ms.det (ex,ey,ez) (fx,fy,fz) (gx,gy,gz))])) ?_ (fun hD1=> ?_)
  ·
   rintro u7_1
   dsimp only
   refine zE 8 (by kernel_rfl) ?_
   ·
    refine zM (by kernel_rfl) rfl rfl rfl rfl rfl sz44 rfl (.take (.take (.take .nil))) ?_
    exact zp (hD0 u7_1) (by kernel_rfl) ((.of rfl):SubM _ _) .rfl .rfl ((.c (j:=0) rfl .n):SelR _ _ _)
  refine zL (X:=Unit) (k':=2) (L':=(lb 9 127)) (fun _=>([(25,.agg #[.int .i64 ((fy - ey)*(gz - ez) - (fz - ez)*(gy - ey)),.int .i64 ((fz - ez)*(gx - ex) - (fx - ex)*(gz - ez)),.int .i64 ((fx - ex)*(gy - ey) - (fy - ey)*(gx - ex))]),(6,.bool false),(5,.pointer (some ⟨b3,0,none⟩)),(4,.pointer (some ⟨b2,0,none⟩)),(3,.pointer (some ⟨b1,0,none⟩))],[],[boxA b3 44 [.int .i64 gx,.int .i64 gy,.int .i64 gz],boxA b2 44 [.int .i64 fx,.int .i64 fy,.int .i64 fz],boxA b1 44 [.int .i64 ex,.int .i64 ey,.int .i64 ez]],[zF w34 (Ms.det (ex,ey,ez) (fx,fy,fz) (gx,gy,gz))])) ?_ (fun hD2=> ?_)
  ·
   rintro ⟨⟩
   dsimp only
   refine zE 7 (by kernel_rfl) ?_
   ·
    refine zO rfl rfl rfl rfl (zn zr44 rfl) (fun u7_1 _=> ?_)
    exact zp (hD1 u7_1) (by kernel_rfl) ((.of rfl):SubM _ _) .rfl .rfl ((.c (j:=0) rfl .n):SelR _ _ _)
  refine zL (X:=Nat) (k':=2) (L':=(lb 9 191)) (fun u7_1=>([(7,.pointer (some ⟨u7_1,0,none⟩)),(24,.agg #[.int .i64 (gx - ex),.int .i64 (gy - ey),.int .i64 (gz - ez)]),(21,.agg #[.int .i64 (fx - ex),.int .i64 (fy - ey),.int .i64 (fz - ez)]),(6,.bool false),(5,.pointer (some ⟨b3,0,none⟩)),(4,.pointer (some ⟨b2,0,none⟩)),(3,.pointer (some ⟨b1,0,none⟩))],[boxA u7_1 44 [.int .i64 0,.int .i64 0,.int .i64 0]],[boxA b3 44 [.int .i64 gx,.int .i64 gy,.int .i64 gz],boxA b2 44 [.int .i64 fx,.int .i64 fy,.int .i64 fz],boxA b1 44 [.int .i64 ex,.int .i64 ey,.int .i64 ez]],[zF w34 (Ms.det (ex,ey,ez) (fx,fy,fz) (gx,gy,gz))])) ?_ (fun hD3=> ?_)
  ·
   rintro u7_1
   dsimp only
   refine zE 6 (by kernel_rfl) ?_
   ·
    refine zqa rfl rfl rfl rfl (.c rfl (.c rfl .n)) ce104 (zrb (ex:=(fx - ex)) (ey:=(fy - ey)) (ez:=(fz - ez)) (fx:=(gx - ex)) (fy:=(gy - ey)) (fz:=(gz - ez)) (hbex:=by assumption) (hbey:=by assumption) (hbez:=by assumption) (hbfx:=by assumption) (hbfy:=by assumption) (hbfz:=by assumption)) (.n) ?_
    exact zp (hD1 u7_1) (by kernel_rfl) ((.of rfl):SubM _ _) .rfl .rfl ((.c (j:=0) rfl .n):SelR _ _ _)
  refine zL (X:=Unit) (k':=3) (L':=(lb 9 63)) (fun _=>([(24,.agg #[.int .i64 (gx - ex),.int .i64 (gy - ey),.int .i64 (gz - ez)]),(21,.agg #[.int .i64 (fx - ex),.int .i64 (fy - ey),.int .i64 (fz - ez)]),(6,.bool false),(5,.pointer (some ⟨b3,0,none⟩)),(4,.pointer (some ⟨b2,0,none⟩)),(3,.pointer (some ⟨b1,0,none⟩))],[],[boxA b3 44 [.int .i64 gx,.int .i64 gy,.int .i64 gz],boxA b2 44 [.int .i64 fx,.int .i64 fy,.int .i64 fz],boxA b1 44 [.int .i64 ex,.int .i64 ey,.int .i64 ez]],[zF w34 (Ms.det (ex,ey,ez) (fx,fy,fz) (gx,gy,gz))])) ?_ (fun hD4=> ?_)
  ·
   rintro ⟨⟩
   dsimp only
   refine zMa 6 7 (by kernel_rfl) ?_ ?_
   ·
    refine zqa rfl rfl rfl rfl (.c rfl (.c rfl .n)) ce104 (zrb (ex:=(fx - ex)) (ey:=(fy - ey)) (ez:=(fz - ez)) (fx:=(gx - ex)) (fy:=(gy - ey)) (fz:=(gz - ez)) (hbex:=by assumption) (hbey:=by assumption) (hbez:=by assumption) (hbfx:=by assumption) (hbfy:=by assumption) (hbfz:=by assumption)) (.n) ?_
    exact zp (hD2 ()) (by kernel_rfl) ((.of rfl):SubM _ _) .rfl .rfl ((.c (j:=0) rfl .n):SelR _ _ _)
   ·
    refine zO rfl rfl rfl rfl (zn zr44 rfl) (fun u7_1 _=> ?_)
    exact zp (hD3 u7_1) (by kernel_rfl) ((.of rfl):SubM _ _) .rfl .rfl ((.c (j:=0) rfl .n):SelR _ _ _)
  refine zL (X:=Nat) (k':=3) (L':=(lb 9 159)) (fun u7_1=>([(7,.pointer (some ⟨u7_1,0,none⟩)),(21,.agg #[.int .i64 (fx - ex),.int .i64 (fy - ey),.int .i64 (fz - ez)]),(23,.agg #[.int .i64 ex,.int .i64 ey,.int .i64 ez]),(22,.agg #[.int .i64 gx,.int .i64 gy,.int .i64 gz]),(6,.bool false),(5,.pointer (some ⟨b3,0,none⟩)),(4,.pointer (some ⟨b2,0,none⟩)),(3,.pointer (some ⟨b1,0,none⟩))],[boxA u7_1 44 [.int .i64 0,.int .i64 0,.int .i64 0]],[boxA b3 44 [.int .i64 gx,.int .i64 gy,.int .i64 gz],boxA b2 44 [.int .i64 fx,.int .i64 fy,.int .i64 fz],boxA b1 44 [.int .i64 ex,.int .i64 ey,.int .i64 ez]],[zF w34 (Ms.det (ex,ey,ez) (fx,fy,fz) (gx,gy,gz))])) ?_ (fun hD5=> ?_)
  ·
   rintro u7_1
   dsimp only
   refine zE 5 (by kernel_rfl) ?_
   ·
    refine zqa rfl rfl rfl rfl (.c rfl (.c rfl .n)) ce105 (zRc (ex:=gx) (ey:=gy) (ez:=gz) (fx:=ex) (fy:=ey) (fz:=ez) (hbex:=by assumption) (hbey:=by assumption) (hbez:=by assumption) (hbfx:=by assumption) (hbfy:=by assumption) (hbfz:=by assumption)) (.n) ?_
    exact zp (hD3 u7_1) (by kernel_rfl) ((.of rfl):SubM _ _) .rfl .rfl ((.c (j:=0) rfl .n):SelR _ _ _)
  refine zL (X:=Unit) (k':=4) (L':=(lb 9 31)) (fun _=>([(21,.agg #[.int .i64 (fx - ex),.int .i64 (fy - ey),.int .i64 (fz - ez)]),(23,.agg #[.int .i64 ex,.int .i64 ey,.int .i64 ez]),(22,.agg #[.int .i64 gx,.int .i64 gy,.int .i64 gz]),(6,.bool false),(5,.pointer (some ⟨b3,0,none⟩)),(4,.pointer (some ⟨b2,0,none⟩)),(3,.pointer (some ⟨b1,0,none⟩))],[],[boxA b3 44 [.int .i64 gx,.int .i64 gy,.int .i64 gz],boxA b2 44 [.int .i64 fx,.int .i64 fy,.int .i64 fz],boxA b1 44 [.int .i64 ex,.int .i64 ey,.int .i64 ez]],[zF w34 (Ms.det (ex,ey,ez) (fx,fy,fz) (gx,gy,gz))])) ?_ (fun hD6=> ?_)
  ·
   rintro ⟨⟩
   dsimp only
   refine zMa 5 7 (by kernel_rfl) ?_ ?_
   ·
    refine zqa rfl rfl rfl rfl (.c rfl (.c rfl .n)) ce105 (zRc (ex:=gx) (ey:=gy) (ez:=gz) (fx:=ex) (fy:=ey) (fz:=ez) (hbex:=by assumption) (hbey:=by assumption) (hbez:=by assumption) (hbfx:=by assumption) (hbfy:=by assumption) (hbfz:=by assumption)) (.n) ?_
    exact zp (hD4 ()) (by kernel_rfl) ((.of rfl):SubM _ _) .rfl .rfl ((.c (j:=0) rfl .n):SelR _ _ _)
   ·
    refine zO rfl rfl rfl rfl (zn zr44 rfl) (fun u7_1 _=> ?_)
    exact zp (hD5 u7_1) (by kernel_rfl) ((.of rfl):SubM _ _) .rfl .rfl ((.c (j:=0) rfl .n):SelR _ _ _)
  refine zL (X:=Nat) (k':=4) (L':=(lb 9 155)) (fun u7_1=>([(7,.pointer (some ⟨u7_1,0,none⟩)),(23,.agg #[.int .i64 ex,.int .i64 ey,.int .i64 ez]),(22,.agg #[.int .i64 gx,.int .i64 gy,.int .i64 gz]),(20,.agg #[.int .i64 ex,.int .i64 ey,.int .i64 ez]),(19,.agg #[.int .i64 fx,.int .i64 fy,.int .i64 fz]),(6,.bool false),(5,.pointer (some ⟨b3,0,none⟩)),(4,.pointer (some ⟨b2,0,none⟩)),(3,.pointer (some ⟨b1,0,none⟩))],[boxA u7_1 44 [.int .i64 0,.int .i64 0,.int .i64 0]],[boxA b3 44 [.int .i64 gx,.int .i64 gy,.int .i64 gz],boxA b2 44 [.int .i64 fx,.int .i64 fy,.int .i64 fz],boxA b1 44 [.int .i64 ex,.int .i64 ey,.int .i64 ez]],[zF w34 (Ms.det (ex,ey,ez) (fx,fy,fz) (gx,gy,gz))])) ?_ (fun hD7=> ?_)
  ·
   rintro u7_1
   dsimp only
   refine zE 2 (by kernel_rfl) ?_
   ·
    refine zqa rfl rfl rfl rfl (.c rfl (.c rfl .n)) ce105 (zRc (ex:=fx) (ey:=fy) (ez:=fz) (fx:=ex) (fy:=ey) (fz:=ez) (hbex:=by assumption) (hbey:=by assumption) (hbez:=by assumption) (hbfx:=by assumption) (hbfy:=by assumption) (hbfz:=by assumption)) (.n) ?_
    exact zp (hD5 u7_1) (by kernel_rfl) ((.of rfl):SubM _ _) .rfl .rfl ((.c (j:=0) rfl .n):SelR _ _ _)
  refine zMa 2 7 (by kernel_rfl) ?_ ?_
  ·
   refine zqa rfl rfl rfl rfl (.c rfl (.c rfl .n)) ce105 (zRc (ex:=fx) (ey:=fy) (ez:=fz) (fx:=ex) (fy:=ey) (fz:=ez) (hbex:=by assumption) (hbey:=by assumption) (hbez:=by assumption) (hbfx:=by assumption) (hbfy:=by assumption) (hbfz:=by assumption)) (.n) ?_
   exact zp (hD6 ()) (by kernel_rfl) ((.of rfl):SubM _ _) .rfl .rfl ((.c (j:=0) rfl .n):SelR _ _ _)
  ·
   refine zO rfl rfl rfl rfl (zn zr44 rfl) (fun u7_1 _=> ?_)
   exact zp (hD7 u7_1) (by kernel_rfl) ((.of rfl):SubM _ _) .rfl .rfl ((.c (j:=0) rfl .n):SelR _ _ _)
end Go.Proofs.Ytalfgjpbbongcaa.Sp
namespace Go.Proofs.Ytalfgjpbbongcaa.Sp
open Go
set_option linter.unusedVariables false
set_option maxRecDepth 100000
set_option maxHeartbeats 1000000
theorem zrd {p:Option Addr} {n:Nat} {cap:Nat} {l:List T9} {dx:Int} {dy:Int} {dz:Int} (hn:l.length=n) (hnb:n≤1024) (hl9:∀x∈l,Ms.small9 x) (hbdx: -1073741824≤dx∧dx≤1073741824) (hbdy: -1073741824≤dy∧dy≤1073741824) (hbdz: -1073741824≤dz∧dz≤1073741824):Con Try.prog 84 [.slice p n cap,.agg #[.int .i64 dx,.int .i64 dy,.int .i64 dz]] [] [slF (rI9 .i64) p cap l] (Y:=Unit) (fun y=>True) (fun y=> .tuple #[.int .i64 (Ms.crN (dx,dy,dz) l),.bool (Ms.crB (dx,dy,dz) l)]) (fun y=>[]) (fun y=>[]):=by
 refine zB Try.func84 rfl rfl rfl (fun c=> ?_)
 show RunC _ _ _ _ _ [(0,.slice p n cap),(1,.agg #[.int .i64 dx,.int .i64 dy,.int .i64 dz])] [] [slF (rI9 .i64) p cap l]
 refine zoa 0 rfl (fun hL0=> ?_)
 refine zh<|za<|zS rfl rfl (zca rfl rfl) (fun b1=> ?_)
 refine r_pv rfl rfl (ze rfl)<|r_pv rfl rfl (ze rfl)<|zj<|zc<|zh<|za<|r_pv rfl rfl (ze rfl)<|zj<|zc<|zh<|zh<|za<|r_pv rfl rfl (zb rfl)<|r_pv rfl rfl (zX Try.underlying118 rfl)<|r_pv rfl rfl (zb rfl)<|zj<|zc<|zr<|zua (X:=Nat×Int) (fun x:Nat×Int=>Ms.CrI (dx,dy,dz) l x.1 x.2) (fun x=>[(6,.int .i64 (x.2)),(13,.int .i64 ((x.1:Nat):Int)),(12,.int .i64 ((n:Nat):Int)),(11,.slice p n cap),(3,.pointer (some ⟨b1,0,none⟩))]) (fun x=>[boxA b1 44 [.int .i64 dx,.int .i64 dy,.int .i64 dz]]) (fun x=>[slF (rI9 .i64) p cap l]) (fun x:Nat×Int=>n - x.1) (0,(0:Int)) (show Ms.CrI (dx,dy,dz) l 0 (0:Int) from by exact Ms.CrI.start _ _) ((.e rfl (by first|rfl|(congr 1;omega)|simp_all) (.e rfl (by first|rfl|(congr 1;omega)|simp_all) (.of rfl))):SubM _ _) (ho:=((.c (i:=0) rfl .n):PickO _ _ _)) ((.c (j:=0) rfl .n):SelR _ _ _) ?_
 rintro ⟨i,z⟩ hI
 replace hI:Ms.CrI (dx,dy,dz) l i z:=hI
 try dsimp only
 have hile:=hI.le
 have hilo:=hI.lo
 have hihi:=hI.hi
 refine zh<|za<|r_pv rfl rfl (zD rfl rfl)<|zj<|zc<|zh<|zI rfl (fun h2=> ?_) (fun h2=> ?_)
 ·
  have hsx:=hl9 _ (Ms.getD_mem ((0,0,0),(0,0,0),(0,0,0)) (show i<l.length by omega))
  obtain ⟨⟨hs1,hs2,hs3⟩,⟨hs4,hs5,hs6⟩,hs7,hs8,hs9⟩:=hsx
  unfold Ms.lim4 at hs1 hs2 hs3 hs4 hs5 hs6 hs7 hs8 hs9
  refine zw<|zc<|zh<|zr<|zh<|za<|zW (x0:=(l.getD i ((0,0,0),(0,0,0),(0,0,0)))) 0 i rfl Try.underlying118 sz119 rfl rfl rfl (by first|rfl|assumption|(simp_all;done)|omega) rfl rfl (gD (d:=((0,0,0),(0,0,0),(0,0,0))) (by omega)) (fun b3 o4 hok5=> ?_)
  obtain ⟨⟨hok51,hok52,hok53⟩,⟨hok54,hok55,hok56⟩,hok57,hok58,hok59⟩:=hok5
  replace hok51:=zo.1 hok51
  replace hok52:=zo.1 hok52
  replace hok53:=zo.1 hok53
  replace hok54:=zo.1 hok54
  replace hok55:=zo.1 hok55
  replace hok56:=zo.1 hok56
  replace hok57:=zo.1 hok57
  replace hok58:=zo.1 hok58
  replace hok59:=zo.1 hok59
  refine r_u rfl rfl (zN (j:=0) 0 ty119 rfl rfl rfl (.take (.take (.take (.take (.take (.take (.take (.take (.take .nil))))))))))<|zS rfl rfl (zn zr119 rfl) (fun b6=> ?_)
  refine zx 0 rfl rfl rfl rfl rfl sz119 rfl (.take (.take (.take (.take (.take (.take (.take (.take (.take .nil))))))))) .z<|zj<|zc<|zh<|za<|r_pv rfl rfl (zg (i:=0) Try.underlying119 sz44 rfl rfl (by decide) rfl)<|r_u rfl rfl (zf 0 ty44 rfl rfl (.take (.take (.take .nil))))<|r_pv rfl rfl (zg (i:=1) Try.underlying119 sz44 rfl rfl (by decide) rfl)<|r_u rfl rfl (zf 0 ty44 rfl rfl (.skip (.skip (.skip (.take (.take (.take .nil)))))))<|r_pv rfl rfl (zg (i:=2) Try.underlying119 sz44 rfl rfl (by decide) rfl)<|r_u rfl rfl (zf 0 ty44 rfl rfl (.skip (.skip (.skip (.skip (.skip (.skip (.take (.take (.take .nil))))))))))<|zea rfl rfl (.c rfl (.c rfl (.c rfl .n))) ce63 (zAb (ex:=(l.getD i ((0,0,0),(0,0,0),(0,0,0))).1.1) (ey:=(l.getD i ((0,0,0),(0,0,0),(0,0,0))).1.2.1) (ez:=(l.getD i ((0,0,0),(0,0,0),(0,0,0))).1.2.2) (fx:=(l.getD i ((0,0,0),(0,0,0),(0,0,0))).2.1.1) (fy:=(l.getD i ((0,0,0),(0,0,0),(0,0,0))).2.1.2.1) (fz:=(l.getD i ((0,0,0),(0,0,0),(0,0,0))).2.1.2.2) (gx:=(l.getD i ((0,0,0),(0,0,0),(0,0,0))).2.2.1) (gy:=(l.getD i ((0,0,0),(0,0,0),(0,0,0))).2.2.2.1) (gz:=(l.getD i ((0,0,0),(0,0,0),(0,0,0))).2.2.2.2) (hbex:=by omega) (hbey:=by omega) (hbez:=by omega) (hbfx:=by omega) (hbfy:=by omega) (hbfz:=by omega) (hbgx:=by omega) (hbgy:=by omega) (hbgz:=by omega)) (.n) ?_
  rintro w37 -
  dsimp only [List.append_eq,List.nil_append,List.cons_append]
  refine zY rfl rfl (.c rfl .n) ce83 (zNa (w1:=w37) (x1:=Ms.det (((l.getD i ((0,0,0),(0,0,0),(0,0,0))).1.1),((l.getD i ((0,0,0),(0,0,0),(0,0,0))).1.2.1),((l.getD i ((0,0,0),(0,0,0),(0,0,0))).1.2.2)) (((l.getD i ((0,0,0),(0,0,0),(0,0,0))).2.1.1),((l.getD i ((0,0,0),(0,0,0),(0,0,0))).2.1.2.1),((l.getD i ((0,0,0),(0,0,0),(0,0,0))).2.1.2.2)) (((l.getD i ((0,0,0),(0,0,0),(0,0,0))).2.2.1),((l.getD i ((0,0,0),(0,0,0),(0,0,0))).2.2.2.1),((l.getD i ((0,0,0),(0,0,0),(0,0,0))).2.2.2.2))) (hln:=by exact Nat.le_trans (Big.zha (by omega) (by omega) (by omega) (by omega) (by omega) (by omega) (by omega) (by omega) (by omega)) (by decide))) (.c (j:=0) rfl .n)<|r_pv rfl rfl (ze rfl)<|zj<|zc<|zh<|zla (OW:=[]) (O:=[boxA b6 119 [.int .i64 ((l.getD i ((0,0,0),(0,0,0),(0,0,0))).1.1),.int .i64 ((l.getD i ((0,0,0),(0,0,0),(0,0,0))).1.2.1),.int .i64 ((l.getD i ((0,0,0),(0,0,0),(0,0,0))).1.2.2),.int .i64 ((l.getD i ((0,0,0),(0,0,0),(0,0,0))).2.1.1),.int .i64 ((l.getD i ((0,0,0),(0,0,0),(0,0,0))).2.1.2.1),.int .i64 ((l.getD i ((0,0,0),(0,0,0),(0,0,0))).2.1.2.2),.int .i64 ((l.getD i ((0,0,0),(0,0,0),(0,0,0))).2.2.1),.int .i64 ((l.getD i ((0,0,0),(0,0,0),(0,0,0))).2.2.2.1),.int .i64 ((l.getD i ((0,0,0),(0,0,0),(0,0,0))).2.2.2.2)],boxA b1 44 [.int .i64 dx,.int .i64 dy,.int .i64 dz]]) 23 mixed (.then (.block (.then (.then (.block (.then .ret)))))) (by kernel_rfl)<|d_u 0 rfl rfl (by kernel_rfl) (by kernel_rfl) rfl rfl (zf 1 ty44 rfl rfl (.take (.take (.take .nil))))<|d_pv 1 rfl rfl (by kernel_rfl) (by kernel_rfl) rfl rfl (zg (i:=0) Try.underlying119 sz44 rfl rfl (by decide) rfl)<|d_u 2 rfl rfl (by kernel_rfl) (by kernel_rfl) rfl rfl (zf 0 ty44 rfl rfl (.take (.take (.take .nil))))<|d_pv 3 rfl rfl (by kernel_rfl) (by kernel_rfl) rfl rfl (zg (i:=1) Try.underlying119 sz44 rfl rfl (by decide) rfl)<|d_u 4 rfl rfl (by kernel_rfl) (by kernel_rfl) rfl rfl (zf 0 ty44 rfl rfl (.skip (.skip (.skip (.take (.take (.take .nil)))))))<|d_u 7 rfl rfl (by kernel_rfl) (by kernel_rfl) rfl rfl (zf 1 ty44 rfl rfl (.take (.take (.take .nil))))<|d_pv 8 rfl rfl (by kernel_rfl) (by kernel_rfl) rfl rfl (zg (i:=1) Try.underlying119 sz44 rfl rfl (by decide) rfl)<|d_u 9 rfl rfl (by kernel_rfl) (by kernel_rfl) rfl rfl (zf 0 ty44 rfl rfl (.skip (.skip (.skip (.take (.take (.take .nil)))))))<|d_pv 10 rfl rfl (by kernel_rfl) (by kernel_rfl) rfl rfl (zg (i:=2) Try.underlying119 sz44 rfl rfl (by decide) rfl)<|d_u 11 rfl rfl (by kernel_rfl) (by kernel_rfl) rfl rfl (zf 0 ty44 rfl rfl (.skip (.skip (.skip (.skip (.skip (.skip (.take (.take (.take .nil))))))))))<|d_u 14 rfl rfl (by kernel_rfl) (by kernel_rfl) rfl rfl (zf 1 ty44 rfl rfl (.take (.take (.take .nil)))) ?_
  refine d_pv 15 rfl rfl (by kernel_rfl) (by kernel_rfl) rfl rfl (zg (i:=2) Try.underlying119 sz44 rfl rfl (by decide) rfl)<|d_u 16 rfl rfl (by kernel_rfl) (by kernel_rfl) rfl rfl (zf 0 ty44 rfl rfl (.skip (.skip (.skip (.skip (.skip (.skip (.take (.take (.take .nil))))))))))<|d_pv 17 rfl rfl (by kernel_rfl) (by kernel_rfl) rfl rfl (zg (i:=0) Try.underlying119 sz44 rfl rfl (by decide) rfl)<|d_u 18 rfl rfl (by kernel_rfl) (by kernel_rfl) rfl rfl (zf 0 ty44 rfl rfl (.take (.take (.take .nil))))<|zPb (m':=[(43,.agg #[.int .i64 ((l.getD i ((0,0,0),(0,0,0),(0,0,0))).1.1),.int .i64 ((l.getD i ((0,0,0),(0,0,0),(0,0,0))).1.2.1),.int .i64 ((l.getD i ((0,0,0),(0,0,0),(0,0,0))).1.2.2)]),(41,.agg #[.int .i64 ((l.getD i ((0,0,0),(0,0,0),(0,0,0))).2.2.1),.int .i64 ((l.getD i ((0,0,0),(0,0,0),(0,0,0))).2.2.2.1),.int .i64 ((l.getD i ((0,0,0),(0,0,0),(0,0,0))).2.2.2.2)]),(39,.agg #[.int .i64 dx,.int .i64 dy,.int .i64 dz]),(36,.agg #[.int .i64 ((l.getD i ((0,0,0),(0,0,0),(0,0,0))).2.2.1),.int .i64 ((l.getD i ((0,0,0),(0,0,0),(0,0,0))).2.2.2.1),.int .i64 ((l.getD i ((0,0,0),(0,0,0),(0,0,0))).2.2.2.2)]),(34,.agg #[.int .i64 ((l.getD i ((0,0,0),(0,0,0),(0,0,0))).2.1.1),.int .i64 ((l.getD i ((0,0,0),(0,0,0),(0,0,0))).2.1.2.1),.int .i64 ((l.getD i ((0,0,0),(0,0,0),(0,0,0))).2.1.2.2)]),(32,.agg #[.int .i64 dx,.int .i64 dy,.int .i64 dz]),(29,.agg #[.int .i64 ((l.getD i ((0,0,0),(0,0,0),(0,0,0))).2.1.1),.int .i64 ((l.getD i ((0,0,0),(0,0,0),(0,0,0))).2.1.2.1),.int .i64 ((l.getD i ((0,0,0),(0,0,0),(0,0,0))).2.1.2.2)]),(27,.agg #[.int .i64 ((l.getD i ((0,0,0),(0,0,0),(0,0,0))).1.1),.int .i64 ((l.getD i ((0,0,0),(0,0,0),(0,0,0))).1.2.1),.int .i64 ((l.getD i ((0,0,0),(0,0,0),(0,0,0))).1.2.2)]),(25,.agg #[.int .i64 dx,.int .i64 dy,.int .i64 dz]),(9,.int .i64 ((Ms.det (((l.getD i ((0,0,0),(0,0,0),(0,0,0))).1.1),((l.getD i ((0,0,0),(0,0,0),(0,0,0))).1.2.1),((l.getD i ((0,0,0),(0,0,0),(0,0,0))).1.2.2)) (((l.getD i ((0,0,0),(0,0,0),(0,0,0))).2.1.1),((l.getD i ((0,0,0),(0,0,0),(0,0,0))).2.1.2.1),((l.getD i ((0,0,0),(0,0,0),(0,0,0))).2.1.2.2)) (((l.getD i ((0,0,0),(0,0,0),(0,0,0))).2.2.1),((l.getD i ((0,0,0),(0,0,0),(0,0,0))).2.2.2.1),((l.getD i ((0,0,0),(0,0,0),(0,0,0))).2.2.2.2))).sign)),(6,.int .i64 z),(13,.int .i64 ((i:Nat):Int)),(12,.int .i64 ((n:Nat):Int)),(11,.slice p n cap),(3,.pointer (some ⟨b1,0,none⟩))]) (R':=[zF w37 (Ms.det (((l.getD i ((0,0,0),(0,0,0),(0,0,0))).1.1),((l.getD i ((0,0,0),(0,0,0),(0,0,0))).1.2.1),((l.getD i ((0,0,0),(0,0,0),(0,0,0))).1.2.2)) (((l.getD i ((0,0,0),(0,0,0),(0,0,0))).2.1.1),((l.getD i ((0,0,0),(0,0,0),(0,0,0))).2.1.2.1),((l.getD i ((0,0,0),(0,0,0),(0,0,0))).2.1.2.2)) (((l.getD i ((0,0,0),(0,0,0),(0,0,0))).2.2.1),((l.getD i ((0,0,0),(0,0,0),(0,0,0))).2.2.2.1),((l.getD i ((0,0,0),(0,0,0),(0,0,0))).2.2.2.2))),slF (rI9 .i64) p cap l]) ((.of rfl):SubM _ _) (List.Perm.refl _) (List.Perm.refl _) ((.of [0,2] rfl):SelR _ _ _) ?_
  obtain ⟨qd1,hqd1⟩:∃z,z=(l.getD i ((0,0,0),(0,0,0),(0,0,0))).1.1:=⟨_,rfl⟩
  rw [← hqd1]
  obtain ⟨qd2,hqd2⟩:∃z,z=(l.getD i ((0,0,0),(0,0,0),(0,0,0))).1.2.1:=⟨_,rfl⟩
  rw [← hqd2]
  obtain ⟨qd3,hqd3⟩:∃z,z=(l.getD i ((0,0,0),(0,0,0),(0,0,0))).1.2.2:=⟨_,rfl⟩
  rw [← hqd3]
  obtain ⟨qd4,hqd4⟩:∃z,z=(l.getD i ((0,0,0),(0,0,0),(0,0,0))).2.2.1:=⟨_,rfl⟩
  rw [← hqd4]
  obtain ⟨qd5,hqd5⟩:∃z,z=(l.getD i ((0,0,0),(0,0,0),(0,0,0))).2.2.2.1:=⟨_,rfl⟩
  rw [← hqd5]
  obtain ⟨qd6,hqd6⟩:∃z,z=(l.getD i ((0,0,0),(0,0,0),(0,0,0))).2.2.2.2:=⟨_,rfl⟩
  rw [← hqd6]
  obtain ⟨qd7,hqd7⟩:∃z,z=(l.getD i ((0,0,0),(0,0,0),(0,0,0))).2.1.1:=⟨_,rfl⟩
  rw [← hqd7]
  obtain ⟨qd8,hqd8⟩:∃z,z=(l.getD i ((0,0,0),(0,0,0),(0,0,0))).2.1.2.1:=⟨_,rfl⟩
  rw [← hqd8]
  obtain ⟨qd9,hqd9⟩:∃z,z=(l.getD i ((0,0,0),(0,0,0),(0,0,0))).2.1.2.2:=⟨_,rfl⟩
  rw [← hqd9]
  refine zL (X:=Wd×Wd×Wd×Nat) (k':=0) (L':=(lb 24 16777215)) (fun (u5_1,u12_1,u19_1,u22_1)=>([(10,.pointer (some ⟨u22_1,0,none⟩)),(9,.int .i64 ((Ms.det (qd1,qd2,qd3) (qd7,qd8,qd9) (qd4,qd5,qd6)).sign)),(6,.int .i64 z),(13,.int .i64 ((i:Nat):Int)),(12,.int .i64 ((n:Nat):Int)),(11,.slice p n cap),(3,.pointer (some ⟨b1,0,none⟩))],[boxA u22_1 44 [.int .i64 ((Ms.det (dx,dy,dz) (qd1,qd2,qd3) (qd7,qd8,qd9)).sign),.int .i64 ((Ms.det (dx,dy,dz) (qd7,qd8,qd9) (qd4,qd5,qd6)).sign),.int .i64 ((Ms.det (dx,dy,dz) (qd4,qd5,qd6) (qd1,qd2,qd3)).sign)]],[boxA b6 119 [.int .i64 qd1,.int .i64 qd2,.int .i64 qd3,.int .i64 qd7,.int .i64 qd8,.int .i64 qd9,.int .i64 qd4,.int .i64 qd5,.int .i64 qd6],boxA b1 44 [.int .i64 dx,.int .i64 dy,.int .i64 dz]],[zF u19_1 (Ms.det (dx,dy,dz) (qd4,qd5,qd6) (qd1,qd2,qd3)),zF u12_1 (Ms.det (dx,dy,dz) (qd7,qd8,qd9) (qd4,qd5,qd6)),zF u5_1 (Ms.det (dx,dy,dz) (qd1,qd2,qd3) (qd7,qd8,qd9)),zF w37 (Ms.det (qd1,qd2,qd3) (qd7,qd8,qd9) (qd4,qd5,qd6)),slF (rI9 .i64) p cap l])) ?_ (fun hD0=> ?_)
  ·
   rintro ⟨u5_1,u12_1,u19_1,u22_1⟩
   dsimp only
   refine zma (by kernel_rfl) ?_
   subst hqd1 hqd2 hqd3 hqd4 hqd5 hqd6 hqd7 hqd8 hqd9
   refine zc<|zh<|zLa (X:=Unit) (fun x=>True) (fun x=>[(59,.bool (decide ((((Ms.det (dx,dy,dz) (((l.getD i ((0,0,0),(0,0,0),(0,0,0))).1.1),((l.getD i ((0,0,0),(0,0,0),(0,0,0))).1.2.1),((l.getD i ((0,0,0),(0,0,0),(0,0,0))).1.2.2)) (((l.getD i ((0,0,0),(0,0,0),(0,0,0))).2.1.1),((l.getD i ((0,0,0),(0,0,0),(0,0,0))).2.1.2.1),((l.getD i ((0,0,0),(0,0,0),(0,0,0))).2.1.2.2))).sign=0)∨((Ms.det (dx,dy,dz) (((l.getD i ((0,0,0),(0,0,0),(0,0,0))).2.1.1),((l.getD i ((0,0,0),(0,0,0),(0,0,0))).2.1.2.1),((l.getD i ((0,0,0),(0,0,0),(0,0,0))).2.1.2.2)) (((l.getD i ((0,0,0),(0,0,0),(0,0,0))).2.2.1),((l.getD i ((0,0,0),(0,0,0),(0,0,0))).2.2.2.1),((l.getD i ((0,0,0),(0,0,0),(0,0,0))).2.2.2.2))).sign=0))∨((Ms.det (dx,dy,dz) (((l.getD i ((0,0,0),(0,0,0),(0,0,0))).2.2.1),((l.getD i ((0,0,0),(0,0,0),(0,0,0))).2.2.2.1),((l.getD i ((0,0,0),(0,0,0),(0,0,0))).2.2.2.2)) (((l.getD i ((0,0,0),(0,0,0),(0,0,0))).1.1),((l.getD i ((0,0,0),(0,0,0),(0,0,0))).1.2.1),((l.getD i ((0,0,0),(0,0,0),(0,0,0))).1.2.2))).sign=0)))),(10,.pointer (some ⟨u22_1,0,none⟩)),(9,.int .i64 ((Ms.det (((l.getD i ((0,0,0),(0,0,0),(0,0,0))).1.1),((l.getD i ((0,0,0),(0,0,0),(0,0,0))).1.2.1),((l.getD i ((0,0,0),(0,0,0),(0,0,0))).1.2.2)) (((l.getD i ((0,0,0),(0,0,0),(0,0,0))).2.1.1),((l.getD i ((0,0,0),(0,0,0),(0,0,0))).2.1.2.1),((l.getD i ((0,0,0),(0,0,0),(0,0,0))).2.1.2.2)) (((l.getD i ((0,0,0),(0,0,0),(0,0,0))).2.2.1),((l.getD i ((0,0,0),(0,0,0),(0,0,0))).2.2.2.1),((l.getD i ((0,0,0),(0,0,0),(0,0,0))).2.2.2.2))).sign)),(6,.int .i64 z),(13,.int .i64 ((i:Nat):Int)),(12,.int .i64 ((n:Nat):Int)),(11,.slice p n cap),(3,.pointer (some ⟨b1,0,none⟩))]) (fun x=>[boxA u22_1 44 [.int .i64 ((Ms.det (dx,dy,dz) (((l.getD i ((0,0,0),(0,0,0),(0,0,0))).1.1),((l.getD i ((0,0,0),(0,0,0),(0,0,0))).1.2.1),((l.getD i ((0,0,0),(0,0,0),(0,0,0))).1.2.2)) (((l.getD i ((0,0,0),(0,0,0),(0,0,0))).2.1.1),((l.getD i ((0,0,0),(0,0,0),(0,0,0))).2.1.2.1),((l.getD i ((0,0,0),(0,0,0),(0,0,0))).2.1.2.2))).sign),.int .i64 ((Ms.det (dx,dy,dz) (((l.getD i ((0,0,0),(0,0,0),(0,0,0))).2.1.1),((l.getD i ((0,0,0),(0,0,0),(0,0,0))).2.1.2.1),((l.getD i ((0,0,0),(0,0,0),(0,0,0))).2.1.2.2)) (((l.getD i ((0,0,0),(0,0,0),(0,0,0))).2.2.1),((l.getD i ((0,0,0),(0,0,0),(0,0,0))).2.2.2.1),((l.getD i ((0,0,0),(0,0,0),(0,0,0))).2.2.2.2))).sign),.int .i64 ((Ms.det (dx,dy,dz) (((l.getD i ((0,0,0),(0,0,0),(0,0,0))).2.2.1),((l.getD i ((0,0,0),(0,0,0),(0,0,0))).2.2.2.1),((l.getD i ((0,0,0),(0,0,0),(0,0,0))).2.2.2.2)) (((l.getD i ((0,0,0),(0,0,0),(0,0,0))).1.1),((l.getD i ((0,0,0),(0,0,0),(0,0,0))).1.2.1),((l.getD i ((0,0,0),(0,0,0),(0,0,0))).1.2.2))).sign)],boxA b6 119 [.int .i64 ((l.getD i ((0,0,0),(0,0,0),(0,0,0))).1.1),.int .i64 ((l.getD i ((0,0,0),(0,0,0),(0,0,0))).1.2.1),.int .i64 ((l.getD i ((0,0,0),(0,0,0),(0,0,0))).1.2.2),.int .i64 ((l.getD i ((0,0,0),(0,0,0),(0,0,0))).2.1.1),.int .i64 ((l.getD i ((0,0,0),(0,0,0),(0,0,0))).2.1.2.1),.int .i64 ((l.getD i ((0,0,0),(0,0,0),(0,0,0))).2.1.2.2),.int .i64 ((l.getD i ((0,0,0),(0,0,0),(0,0,0))).2.2.1),.int .i64 ((l.getD i ((0,0,0),(0,0,0),(0,0,0))).2.2.2.1),.int .i64 ((l.getD i ((0,0,0),(0,0,0),(0,0,0))).2.2.2.2)],boxA b1 44 [.int .i64 dx,.int .i64 dy,.int .i64 dz]]) (fun x=>[zF u19_1 (Ms.det (dx,dy,dz) (((l.getD i ((0,0,0),(0,0,0),(0,0,0))).2.2.1),((l.getD i ((0,0,0),(0,0,0),(0,0,0))).2.2.2.1),((l.getD i ((0,0,0),(0,0,0),(0,0,0))).2.2.2.2)) (((l.getD i ((0,0,0),(0,0,0),(0,0,0))).1.1),((l.getD i ((0,0,0),(0,0,0),(0,0,0))).1.2.1),((l.getD i ((0,0,0),(0,0,0),(0,0,0))).1.2.2))),zF u12_1 (Ms.det (dx,dy,dz) (((l.getD i ((0,0,0),(0,0,0),(0,0,0))).2.1.1),((l.getD i ((0,0,0),(0,0,0),(0,0,0))).2.1.2.1),((l.getD i ((0,0,0),(0,0,0),(0,0,0))).2.1.2.2)) (((l.getD i ((0,0,0),(0,0,0),(0,0,0))).2.2.1),((l.getD i ((0,0,0),(0,0,0),(0,0,0))).2.2.2.1),((l.getD i ((0,0,0),(0,0,0),(0,0,0))).2.2.2.2))),zF u5_1 (Ms.det (dx,dy,dz) (((l.getD i ((0,0,0),(0,0,0),(0,0,0))).1.1),((l.getD i ((0,0,0),(0,0,0),(0,0,0))).1.2.1),((l.getD i ((0,0,0),(0,0,0),(0,0,0))).1.2.2)) (((l.getD i ((0,0,0),(0,0,0),(0,0,0))).2.1.1),((l.getD i ((0,0,0),(0,0,0),(0,0,0))).2.1.2.1),((l.getD i ((0,0,0),(0,0,0),(0,0,0))).2.1.2.2))),zF w37 (Ms.det (((l.getD i ((0,0,0),(0,0,0),(0,0,0))).1.1),((l.getD i ((0,0,0),(0,0,0),(0,0,0))).1.2.1),((l.getD i ((0,0,0),(0,0,0),(0,0,0))).1.2.2)) (((l.getD i ((0,0,0),(0,0,0),(0,0,0))).2.1.1),((l.getD i ((0,0,0),(0,0,0),(0,0,0))).2.1.2.1),((l.getD i ((0,0,0),(0,0,0),(0,0,0))).2.1.2.2)) (((l.getD i ((0,0,0),(0,0,0),(0,0,0))).2.2.1),((l.getD i ((0,0,0),(0,0,0),(0,0,0))).2.2.2.1),((l.getD i ((0,0,0),(0,0,0),(0,0,0))).2.2.2.2))),slF (rI9 .i64) p cap l]) ?_ ?_
   ·
    refine za<|r_pv rfl rfl (zg (i:=0) Try.underlying44 sz3 rfl rfl (by decide) rfl)<|r_u rfl rfl (zd 0 ty3 rfl rfl rfl)<|r_pv rfl rfl (zxa rfl rfl)<|zZ rfl rfl (zb rfl) (fun h8=> ?_) (fun h8=> ?_)
    ·
     refine zi rfl rfl<|zi rfl rfl<|zi rfl rfl<|r_pv rfl rfl (zy rfl rfl)<|r_pv rfl rfl (zb rfl)<|zi rfl rfl<|zi rfl rfl<|zi rfl rfl<|r_pv rfl rfl (zy rfl rfl)<|zj ?_
     exact zfa () (show True from by first|trivial|omega|simp_all) ((.e rfl (congrArg Value.bool (by first|(simp_all;done)|(simp_all;omega)|(simp;omega)|omega)) (.of rfl)):SubM _ _) (ho:=((.of [0,0,0] rfl):PickO _ _ _)) ((.of [0,1,2,3,4] rfl):SelR _ _ _)
    ·
     refine r_pv rfl rfl (zg (i:=1) Try.underlying44 sz3 rfl rfl (by decide) rfl)<|r_u rfl rfl (zd 0 ty3 rfl rfl rfl)<|r_pv rfl rfl (zxa rfl rfl)<|r_pv rfl rfl (zy rfl rfl)<|zZ rfl rfl (zb rfl) (fun h9=> ?_) (fun h9=> ?_)
     ·
      refine zi rfl rfl<|zi rfl rfl<|zi rfl rfl<|r_pv rfl rfl (zy rfl rfl)<|zj ?_
      exact zfa () (show True from by first|trivial|omega|simp_all) ((.e rfl (congrArg Value.bool (by first|(simp_all;done)|(simp_all;omega)|(simp;omega)|omega)) (.of rfl)):SubM _ _) (ho:=((.of [0,0,0] rfl):PickO _ _ _)) ((.of [0,1,2,3,4] rfl):SelR _ _ _)
     ·
      refine r_pv rfl rfl (zg (i:=2) Try.underlying44 sz3 rfl rfl (by decide) rfl)<|r_u rfl rfl (zd 0 ty3 rfl rfl rfl)<|r_pv rfl rfl (zxa rfl rfl)<|r_pv rfl rfl (zy rfl rfl)<|zj ?_
      exact zfa () (show True from by first|trivial|omega|simp_all) ((.e rfl (congrArg Value.bool (by first|(simp_all;done)|(simp_all;omega)|(simp;omega)|omega)) (.of rfl)):SubM _ _) (ho:=((.of [0,0,0] rfl):PickO _ _ _)) ((.of [0,1,2,3,4] rfl):SelR _ _ _)
   ·
    rintro ⟨⟩ -
    try dsimp only
    refine zI rfl (fun hbad=> ?_) (fun hbad=> ?_)
    ·
     refine zh<|za<|r_pv rfl rfl (ze rfl)<|r_pv rfl rfl (ze rfl)<|zj<|zc<|zP<|zl<|zq<|zl<|zl<|zq<|zl ?_
     obtain ⟨hv1,hv2⟩:=Ms.crN_bad (Ms.cr_bad (show i<l.length by omega) (Ms.bad_iff.2 hbad))
     exact zmb Try.results84 () trivial (zz rfl) (zz rfl) (by rw [hv1,hv2]) (ho:=(.n:PickO _ _ _)) (.n:SelR _ _ _)
    ·
     refine zw<|zc<|zLa (X:=Unit) (fun x=>True) (fun x=>[(75,.bool (decide ((((Ms.det (dx,dy,dz) (((l.getD i ((0,0,0),(0,0,0),(0,0,0))).1.1),((l.getD i ((0,0,0),(0,0,0),(0,0,0))).1.2.1),((l.getD i ((0,0,0),(0,0,0),(0,0,0))).1.2.2)) (((l.getD i ((0,0,0),(0,0,0),(0,0,0))).2.1.1),((l.getD i ((0,0,0),(0,0,0),(0,0,0))).2.1.2.1),((l.getD i ((0,0,0),(0,0,0),(0,0,0))).2.1.2.2))).sign=(Ms.det (((l.getD i ((0,0,0),(0,0,0),(0,0,0))).1.1),((l.getD i ((0,0,0),(0,0,0),(0,0,0))).1.2.1),((l.getD i ((0,0,0),(0,0,0),(0,0,0))).1.2.2)) (((l.getD i ((0,0,0),(0,0,0),(0,0,0))).2.1.1),((l.getD i ((0,0,0),(0,0,0),(0,0,0))).2.1.2.1),((l.getD i ((0,0,0),(0,0,0),(0,0,0))).2.1.2.2)) (((l.getD i ((0,0,0),(0,0,0),(0,0,0))).2.2.1),((l.getD i ((0,0,0),(0,0,0),(0,0,0))).2.2.2.1),((l.getD i ((0,0,0),(0,0,0),(0,0,0))).2.2.2.2))).sign)∧((Ms.det (dx,dy,dz) (((l.getD i ((0,0,0),(0,0,0),(0,0,0))).2.1.1),((l.getD i ((0,0,0),(0,0,0),(0,0,0))).2.1.2.1),((l.getD i ((0,0,0),(0,0,0),(0,0,0))).2.1.2.2)) (((l.getD i ((0,0,0),(0,0,0),(0,0,0))).2.2.1),((l.getD i ((0,0,0),(0,0,0),(0,0,0))).2.2.2.1),((l.getD i ((0,0,0),(0,0,0),(0,0,0))).2.2.2.2))).sign=(Ms.det (((l.getD i ((0,0,0),(0,0,0),(0,0,0))).1.1),((l.getD i ((0,0,0),(0,0,0),(0,0,0))).1.2.1),((l.getD i ((0,0,0),(0,0,0),(0,0,0))).1.2.2)) (((l.getD i ((0,0,0),(0,0,0),(0,0,0))).2.1.1),((l.getD i ((0,0,0),(0,0,0),(0,0,0))).2.1.2.1),((l.getD i ((0,0,0),(0,0,0),(0,0,0))).2.1.2.2)) (((l.getD i ((0,0,0),(0,0,0),(0,0,0))).2.2.1),((l.getD i ((0,0,0),(0,0,0),(0,0,0))).2.2.2.1),((l.getD i ((0,0,0),(0,0,0),(0,0,0))).2.2.2.2))).sign))∧((Ms.det (dx,dy,dz) (((l.getD i ((0,0,0),(0,0,0),(0,0,0))).2.2.1),((l.getD i ((0,0,0),(0,0,0),(0,0,0))).2.2.2.1),((l.getD i ((0,0,0),(0,0,0),(0,0,0))).2.2.2.2)) (((l.getD i ((0,0,0),(0,0,0),(0,0,0))).1.1),((l.getD i ((0,0,0),(0,0,0),(0,0,0))).1.2.1),((l.getD i ((0,0,0),(0,0,0),(0,0,0))).1.2.2))).sign=(Ms.det (((l.getD i ((0,0,0),(0,0,0),(0,0,0))).1.1),((l.getD i ((0,0,0),(0,0,0),(0,0,0))).1.2.1),((l.getD i ((0,0,0),(0,0,0),(0,0,0))).1.2.2)) (((l.getD i ((0,0,0),(0,0,0),(0,0,0))).2.1.1),((l.getD i ((0,0,0),(0,0,0),(0,0,0))).2.1.2.1),((l.getD i ((0,0,0),(0,0,0),(0,0,0))).2.1.2.2)) (((l.getD i ((0,0,0),(0,0,0),(0,0,0))).2.2.1),((l.getD i ((0,0,0),(0,0,0),(0,0,0))).2.2.2.1),((l.getD i ((0,0,0),(0,0,0),(0,0,0))).2.2.2.2))).sign)))),(9,.int .i64 ((Ms.det (((l.getD i ((0,0,0),(0,0,0),(0,0,0))).1.1),((l.getD i ((0,0,0),(0,0,0),(0,0,0))).1.2.1),((l.getD i ((0,0,0),(0,0,0),(0,0,0))).1.2.2)) (((l.getD i ((0,0,0),(0,0,0),(0,0,0))).2.1.1),((l.getD i ((0,0,0),(0,0,0),(0,0,0))).2.1.2.1),((l.getD i ((0,0,0),(0,0,0),(0,0,0))).2.1.2.2)) (((l.getD i ((0,0,0),(0,0,0),(0,0,0))).2.2.1),((l.getD i ((0,0,0),(0,0,0),(0,0,0))).2.2.2.1),((l.getD i ((0,0,0),(0,0,0),(0,0,0))).2.2.2.2))).sign)),(6,.int .i64 z),(13,.int .i64 ((i:Nat):Int)),(12,.int .i64 ((n:Nat):Int)),(11,.slice p n cap),(3,.pointer (some ⟨b1,0,none⟩))]) (fun x=>[boxA u22_1 44 [.int .i64 ((Ms.det (dx,dy,dz) (((l.getD i ((0,0,0),(0,0,0),(0,0,0))).1.1),((l.getD i ((0,0,0),(0,0,0),(0,0,0))).1.2.1),((l.getD i ((0,0,0),(0,0,0),(0,0,0))).1.2.2)) (((l.getD i ((0,0,0),(0,0,0),(0,0,0))).2.1.1),((l.getD i ((0,0,0),(0,0,0),(0,0,0))).2.1.2.1),((l.getD i ((0,0,0),(0,0,0),(0,0,0))).2.1.2.2))).sign),.int .i64 ((Ms.det (dx,dy,dz) (((l.getD i ((0,0,0),(0,0,0),(0,0,0))).2.1.1),((l.getD i ((0,0,0),(0,0,0),(0,0,0))).2.1.2.1),((l.getD i ((0,0,0),(0,0,0),(0,0,0))).2.1.2.2)) (((l.getD i ((0,0,0),(0,0,0),(0,0,0))).2.2.1),((l.getD i ((0,0,0),(0,0,0),(0,0,0))).2.2.2.1),((l.getD i ((0,0,0),(0,0,0),(0,0,0))).2.2.2.2))).sign),.int .i64 ((Ms.det (dx,dy,dz) (((l.getD i ((0,0,0),(0,0,0),(0,0,0))).2.2.1),((l.getD i ((0,0,0),(0,0,0),(0,0,0))).2.2.2.1),((l.getD i ((0,0,0),(0,0,0),(0,0,0))).2.2.2.2)) (((l.getD i ((0,0,0),(0,0,0),(0,0,0))).1.1),((l.getD i ((0,0,0),(0,0,0),(0,0,0))).1.2.1),((l.getD i ((0,0,0),(0,0,0),(0,0,0))).1.2.2))).sign)],boxA b6 119 [.int .i64 ((l.getD i ((0,0,0),(0,0,0),(0,0,0))).1.1),.int .i64 ((l.getD i ((0,0,0),(0,0,0),(0,0,0))).1.2.1),.int .i64 ((l.getD i ((0,0,0),(0,0,0),(0,0,0))).1.2.2),.int .i64 ((l.getD i ((0,0,0),(0,0,0),(0,0,0))).2.1.1),.int .i64 ((l.getD i ((0,0,0),(0,0,0),(0,0,0))).2.1.2.1),.int .i64 ((l.getD i ((0,0,0),(0,0,0),(0,0,0))).2.1.2.2),.int .i64 ((l.getD i ((0,0,0),(0,0,0),(0,0,0))).2.2.1),.int .i64 ((l.getD i ((0,0,0),(0,0,0),(0,0,0))).2.2.2.1),.int .i64 ((l.getD i ((0,0,0),(0,0,0),(0,0,0))).2.2.2.2)],boxA b1 44 [.int .i64 dx,.int .i64 dy,.int .i64 dz]]) (fun x=>[zF u19_1 (Ms.det (dx,dy,dz) (((l.getD i ((0,0,0),(0,0,0),(0,0,0))).2.2.1),((l.getD i ((0,0,0),(0,0,0),(0,0,0))).2.2.2.1),((l.getD i ((0,0,0),(0,0,0),(0,0,0))).2.2.2.2)) (((l.getD i ((0,0,0),(0,0,0),(0,0,0))).1.1),((l.getD i ((0,0,0),(0,0,0),(0,0,0))).1.2.1),((l.getD i ((0,0,0),(0,0,0),(0,0,0))).1.2.2))),zF u12_1 (Ms.det (dx,dy,dz) (((l.getD i ((0,0,0),(0,0,0),(0,0,0))).2.1.1),((l.getD i ((0,0,0),(0,0,0),(0,0,0))).2.1.2.1),((l.getD i ((0,0,0),(0,0,0),(0,0,0))).2.1.2.2)) (((l.getD i ((0,0,0),(0,0,0),(0,0,0))).2.2.1),((l.getD i ((0,0,0),(0,0,0),(0,0,0))).2.2.2.1),((l.getD i ((0,0,0),(0,0,0),(0,0,0))).2.2.2.2))),zF u5_1 (Ms.det (dx,dy,dz) (((l.getD i ((0,0,0),(0,0,0),(0,0,0))).1.1),((l.getD i ((0,0,0),(0,0,0),(0,0,0))).1.2.1),((l.getD i ((0,0,0),(0,0,0),(0,0,0))).1.2.2)) (((l.getD i ((0,0,0),(0,0,0),(0,0,0))).2.1.1),((l.getD i ((0,0,0),(0,0,0),(0,0,0))).2.1.2.1),((l.getD i ((0,0,0),(0,0,0),(0,0,0))).2.1.2.2))),zF w37 (Ms.det (((l.getD i ((0,0,0),(0,0,0),(0,0,0))).1.1),((l.getD i ((0,0,0),(0,0,0),(0,0,0))).1.2.1),((l.getD i ((0,0,0),(0,0,0),(0,0,0))).1.2.2)) (((l.getD i ((0,0,0),(0,0,0),(0,0,0))).2.1.1),((l.getD i ((0,0,0),(0,0,0),(0,0,0))).2.1.2.1),((l.getD i ((0,0,0),(0,0,0),(0,0,0))).2.1.2.2)) (((l.getD i ((0,0,0),(0,0,0),(0,0,0))).2.2.1),((l.getD i ((0,0,0),(0,0,0),(0,0,0))).2.2.2.1),((l.getD i ((0,0,0),(0,0,0),(0,0,0))).2.2.2.2))),slF (rI9 .i64) p cap l]) ?_ ?_
     ·
      refine za<|r_pv rfl rfl (zg (i:=0) Try.underlying44 sz3 rfl rfl (by decide) rfl)<|r_u rfl rfl (zd 0 ty3 rfl rfl rfl)<|r_pv rfl rfl (zb rfl)<|r_pv rfl rfl (zxa rfl rfl)<|zZ rfl rfl (zb rfl) (fun h10=> ?_) (fun h10=> ?_)
      ·
       refine r_pv rfl rfl (zg (i:=1) Try.underlying44 sz3 rfl rfl (by decide) rfl)<|r_u rfl rfl (zd 0 ty3 rfl rfl rfl)<|r_pv rfl rfl (zb rfl)<|r_pv rfl rfl (zxa rfl rfl)<|r_pv rfl rfl (zy rfl rfl)<|zZ rfl rfl (zb rfl) (fun h11=> ?_) (fun h11=> ?_)
       ·
        refine r_pv rfl rfl (zg (i:=2) Try.underlying44 sz3 rfl rfl (by decide) rfl)<|r_u rfl rfl (zd 0 ty3 rfl rfl rfl)<|r_pv rfl rfl (zb rfl)<|r_pv rfl rfl (zxa rfl rfl)<|r_pv rfl rfl (zy rfl rfl)<|zj ?_
        exact zfa () (show True from by first|trivial|omega|simp_all) ((.e rfl (congrArg Value.bool (by first|(simp_all;done)|(simp_all;omega)|(simp;omega)|omega)) (.of rfl)):SubM _ _) (ho:=((.of [0,0,0] rfl):PickO _ _ _)) ((.of [0,1,2,3,4] rfl):SelR _ _ _)
       ·
        refine zi rfl rfl<|zi rfl rfl<|zi rfl rfl<|zi rfl rfl<|r_pv rfl rfl (zy rfl rfl)<|zj ?_
        exact zfa () (show True from by first|trivial|omega|simp_all) ((.e rfl (congrArg Value.bool (by first|(simp_all;done)|(simp_all;omega)|(simp;omega)|omega)) (.of rfl)):SubM _ _) (ho:=((.of [0,0,0] rfl):PickO _ _ _)) ((.of [0,1,2,3,4] rfl):SelR _ _ _)
      ·
       refine zi rfl rfl<|zi rfl rfl<|zi rfl rfl<|zi rfl rfl<|r_pv rfl rfl (zy rfl rfl)<|r_pv rfl rfl (zb rfl)<|zi rfl rfl<|zi rfl rfl<|zi rfl rfl<|zi rfl rfl<|r_pv rfl rfl (zy rfl rfl)<|zj ?_
       exact zfa () (show True from by first|trivial|omega|simp_all) ((.e rfl (congrArg Value.bool (by first|(simp_all;done)|(simp_all;omega)|(simp;omega)|omega)) (.of rfl)):SubM _ _) (ho:=((.of [0,0,0] rfl):PickO _ _ _)) ((.of [0,1,2,3,4] rfl):SelR _ _ _)
     ·
      rintro ⟨⟩ -
      try dsimp only
      refine zI rfl (fun hhit=> ?_) (fun hhit=> ?_)
      ·
       have hs0: -1≤(Ms.det (((l.getD i ((0,0,0),(0,0,0),(0,0,0))).1.1),((l.getD i ((0,0,0),(0,0,0),(0,0,0))).1.2.1),((l.getD i ((0,0,0),(0,0,0),(0,0,0))).1.2.2)) (((l.getD i ((0,0,0),(0,0,0),(0,0,0))).2.1.1),((l.getD i ((0,0,0),(0,0,0),(0,0,0))).2.1.2.1),((l.getD i ((0,0,0),(0,0,0),(0,0,0))).2.1.2.2)) (((l.getD i ((0,0,0),(0,0,0),(0,0,0))).2.2.1),((l.getD i ((0,0,0),(0,0,0),(0,0,0))).2.2.2.1),((l.getD i ((0,0,0),(0,0,0),(0,0,0))).2.2.2.2))).sign∧(Ms.det (((l.getD i ((0,0,0),(0,0,0),(0,0,0))).1.1),((l.getD i ((0,0,0),(0,0,0),(0,0,0))).1.2.1),((l.getD i ((0,0,0),(0,0,0),(0,0,0))).1.2.2)) (((l.getD i ((0,0,0),(0,0,0),(0,0,0))).2.1.1),((l.getD i ((0,0,0),(0,0,0),(0,0,0))).2.1.2.1),((l.getD i ((0,0,0),(0,0,0),(0,0,0))).2.1.2.2)) (((l.getD i ((0,0,0),(0,0,0),(0,0,0))).2.2.1),((l.getD i ((0,0,0),(0,0,0),(0,0,0))).2.2.2.1),((l.getD i ((0,0,0),(0,0,0),(0,0,0))).2.2.2.2))).sign≤1:=Ms.sgn_rng _
       refine za<|r_pv rfl rfl (zb rfl)<|r_pv rfl rfl (zb rfl)<|r_pv rfl rfl (zC (z:=(z+(Ms.det (((l.getD i ((0,0,0),(0,0,0),(0,0,0))).1.1),((l.getD i ((0,0,0),(0,0,0),(0,0,0))).1.2.1),((l.getD i ((0,0,0),(0,0,0),(0,0,0))).1.2.2)) (((l.getD i ((0,0,0),(0,0,0),(0,0,0))).2.1.1),((l.getD i ((0,0,0),(0,0,0),(0,0,0))).2.1.2.1),((l.getD i ((0,0,0),(0,0,0),(0,0,0))).2.1.2.2)) (((l.getD i ((0,0,0),(0,0,0),(0,0,0))).2.2.1),((l.getD i ((0,0,0),(0,0,0),(0,0,0))).2.2.2.1),((l.getD i ((0,0,0),(0,0,0),(0,0,0))).2.2.2.2))).sign)) rfl rfl (w64 (by omega)))<|r_pv rfl rfl (ze rfl)<|zj<|zA<|zc<|za<|r_pv rfl rfl (zC (z:=(((i+1):Nat):Int)) rfl rfl (w64 (by omega)))<|r_pv rfl rfl (zb rfl)<|zj<|zga ((i+1),(z+(Ms.det (((l.getD i ((0,0,0),(0,0,0),(0,0,0))).1.1),((l.getD i ((0,0,0),(0,0,0),(0,0,0))).1.2.1),((l.getD i ((0,0,0),(0,0,0),(0,0,0))).1.2.2)) (((l.getD i ((0,0,0),(0,0,0),(0,0,0))).2.1.1),((l.getD i ((0,0,0),(0,0,0),(0,0,0))).2.1.2.1),((l.getD i ((0,0,0),(0,0,0),(0,0,0))).2.1.2.2)) (((l.getD i ((0,0,0),(0,0,0),(0,0,0))).2.2.1),((l.getD i ((0,0,0),(0,0,0),(0,0,0))).2.2.2.1),((l.getD i ((0,0,0),(0,0,0),(0,0,0))).2.2.2.2))).sign)) (show Ms.CrI (dx,dy,dz) l (i+1) (z+(Ms.det (((l.getD i ((0,0,0),(0,0,0),(0,0,0))).1.1),((l.getD i ((0,0,0),(0,0,0),(0,0,0))).1.2.1),((l.getD i ((0,0,0),(0,0,0),(0,0,0))).1.2.2)) (((l.getD i ((0,0,0),(0,0,0),(0,0,0))).2.1.1),((l.getD i ((0,0,0),(0,0,0),(0,0,0))).2.1.2.1),((l.getD i ((0,0,0),(0,0,0),(0,0,0))).2.1.2.2)) (((l.getD i ((0,0,0),(0,0,0),(0,0,0))).2.2.1),((l.getD i ((0,0,0),(0,0,0),(0,0,0))).2.2.2.1),((l.getD i ((0,0,0),(0,0,0),(0,0,0))).2.2.2.2))).sign) from by exact hI.yes (by omega) (Ms.bad_no hbad) (Ms.hit_yes hhit)) (by show n - (i+1)<n - i;omega) ((.of rfl):SubM _ _) (ho:=((.c (i:=2) rfl .n):PickO _ _ _)) ((.c (j:=4) rfl .n):SelR _ _ _)
      ·
       refine zw<|zA<|zc<|za<|r_pv rfl rfl (zC (z:=(((i+1):Nat):Int)) rfl rfl (w64 (by omega)))<|r_pv rfl rfl (zb rfl)<|zj<|zga ((i+1),z) (show Ms.CrI (dx,dy,dz) l (i+1) z from by exact hI.not (by omega) (Ms.bad_no hbad) (Ms.hit_not hhit)) (by show n - (i+1)<n - i;omega) ((.of rfl):SubM _ _) (ho:=((.c (i:=2) rfl .n):PickO _ _ _)) ((.c (j:=4) rfl .n):SelR _ _ _)
  refine zL (X:=Wd×Wd×Wd×Nat) (k':=1) (L':=(lb 24 8388607)) (fun (u5_1,u12_1,u19_1,u22_1)=>([(10,.pointer (some ⟨u22_1,0,none⟩)),(46,.agg #[.int .i64 ((Ms.det (dx,dy,dz) (qd1,qd2,qd3) (qd7,qd8,qd9)).sign),.int .i64 ((Ms.det (dx,dy,dz) (qd7,qd8,qd9) (qd4,qd5,qd6)).sign),.int .i64 ((Ms.det (dx,dy,dz) (qd4,qd5,qd6) (qd1,qd2,qd3)).sign)]),(9,.int .i64 ((Ms.det (qd1,qd2,qd3) (qd7,qd8,qd9) (qd4,qd5,qd6)).sign)),(6,.int .i64 z),(13,.int .i64 ((i:Nat):Int)),(12,.int .i64 ((n:Nat):Int)),(11,.slice p n cap),(3,.pointer (some ⟨b1,0,none⟩))],[boxA u22_1 44 [.int .i64 0,.int .i64 0,.int .i64 0]],[boxA b6 119 [.int .i64 qd1,.int .i64 qd2,.int .i64 qd3,.int .i64 qd7,.int .i64 qd8,.int .i64 qd9,.int .i64 qd4,.int .i64 qd5,.int .i64 qd6],boxA b1 44 [.int .i64 dx,.int .i64 dy,.int .i64 dz]],[zF u19_1 (Ms.det (dx,dy,dz) (qd4,qd5,qd6) (qd1,qd2,qd3)),zF u12_1 (Ms.det (dx,dy,dz) (qd7,qd8,qd9) (qd4,qd5,qd6)),zF u5_1 (Ms.det (dx,dy,dz) (qd1,qd2,qd3) (qd7,qd8,qd9)),zF w37 (Ms.det (qd1,qd2,qd3) (qd7,qd8,qd9) (qd4,qd5,qd6)),slF (rI9 .i64) p cap l])) ?_ (fun hD1=> ?_)
  ·
   rintro ⟨u5_1,u12_1,u19_1,u22_1⟩
   dsimp only
   refine zE 23 (by kernel_rfl) ?_
   ·
    refine zM (by kernel_rfl) rfl rfl rfl rfl rfl sz44 rfl (.take (.take (.take .nil))) ?_
    exact zp (hD0 (u5_1,u12_1,u19_1,u22_1)) (by kernel_rfl) ((.of rfl):SubM _ _) .rfl .rfl ((.of [0,1,2,3,4] rfl):SelR _ _ _)
  refine zL (X:=Wd×Wd×Wd) (k':=2) (L':=(lb 24 4194303)) (fun (u5_1,u12_1,u19_1)=>([(46,.agg #[.int .i64 ((Ms.det (dx,dy,dz) (qd1,qd2,qd3) (qd7,qd8,qd9)).sign),.int .i64 ((Ms.det (dx,dy,dz) (qd7,qd8,qd9) (qd4,qd5,qd6)).sign),.int .i64 ((Ms.det (dx,dy,dz) (qd4,qd5,qd6) (qd1,qd2,qd3)).sign)]),(9,.int .i64 ((Ms.det (qd1,qd2,qd3) (qd7,qd8,qd9) (qd4,qd5,qd6)).sign)),(6,.int .i64 z),(13,.int .i64 ((i:Nat):Int)),(12,.int .i64 ((n:Nat):Int)),(11,.slice p n cap),(3,.pointer (some ⟨b1,0,none⟩))],[],[boxA b6 119 [.int .i64 qd1,.int .i64 qd2,.int .i64 qd3,.int .i64 qd7,.int .i64 qd8,.int .i64 qd9,.int .i64 qd4,.int .i64 qd5,.int .i64 qd6],boxA b1 44 [.int .i64 dx,.int .i64 dy,.int .i64 dz]],[zF u19_1 (Ms.det (dx,dy,dz) (qd4,qd5,qd6) (qd1,qd2,qd3)),zF u12_1 (Ms.det (dx,dy,dz) (qd7,qd8,qd9) (qd4,qd5,qd6)),zF u5_1 (Ms.det (dx,dy,dz) (qd1,qd2,qd3) (qd7,qd8,qd9)),zF w37 (Ms.det (qd1,qd2,qd3) (qd7,qd8,qd9) (qd4,qd5,qd6)),slF (rI9 .i64) p cap l])) ?_ (fun hD2=> ?_)
  ·
   rintro ⟨u5_1,u12_1,u19_1⟩
   dsimp only
   refine zE 22 (by kernel_rfl) ?_
   ·
    refine zO rfl rfl rfl rfl (zn zr44 rfl) (fun u22_1 _=> ?_)
    exact zp (hD1 (u5_1,u12_1,u19_1,u22_1)) (by kernel_rfl) ((.of rfl):SubM _ _) .rfl .rfl ((.of [0,1,2,3,4] rfl):SelR _ _ _)
  refine zL (X:=Wd×Wd×Wd×Nat) (k':=3) (L':=(lb 24 5242879)) (fun (u5_1,u12_1,u19_1,u22_1)=>([(10,.pointer (some ⟨u22_1,0,none⟩)),(44,.agg #[u19_1.b,u19_1.l]),(38,.int .i64 ((Ms.det (dx,dy,dz) (qd7,qd8,qd9) (qd4,qd5,qd6)).sign)),(31,.int .i64 ((Ms.det (dx,dy,dz) (qd1,qd2,qd3) (qd7,qd8,qd9)).sign)),(9,.int .i64 ((Ms.det (qd1,qd2,qd3) (qd7,qd8,qd9) (qd4,qd5,qd6)).sign)),(6,.int .i64 z),(13,.int .i64 ((i:Nat):Int)),(12,.int .i64 ((n:Nat):Int)),(11,.slice p n cap),(3,.pointer (some ⟨b1,0,none⟩))],[boxA u22_1 44 [.int .i64 0,.int .i64 0,.int .i64 0]],[boxA b6 119 [.int .i64 qd1,.int .i64 qd2,.int .i64 qd3,.int .i64 qd7,.int .i64 qd8,.int .i64 qd9,.int .i64 qd4,.int .i64 qd5,.int .i64 qd6],boxA b1 44 [.int .i64 dx,.int .i64 dy,.int .i64 dz]],[zF u19_1 (Ms.det (dx,dy,dz) (qd4,qd5,qd6) (qd1,qd2,qd3)),zF u12_1 (Ms.det (dx,dy,dz) (qd7,qd8,qd9) (qd4,qd5,qd6)),zF u5_1 (Ms.det (dx,dy,dz) (qd1,qd2,qd3) (qd7,qd8,qd9)),zF w37 (Ms.det (qd1,qd2,qd3) (qd7,qd8,qd9) (qd4,qd5,qd6)),slF (rI9 .i64) p cap l])) ?_ (fun hD3=> ?_)
  ·
   rintro ⟨u5_1,u12_1,u19_1,u22_1⟩
   dsimp only
   refine zE 20 (by kernel_rfl) ?_
   ·
    refine zqa rfl rfl rfl rfl (.c rfl .n) ce83 (zNa (w1:=u19_1) (x1:=Ms.det (dx,dy,dz) (qd4,qd5,qd6) (qd1,qd2,qd3)) (hln:=by exact Nat.le_trans (Big.zha (by omega) (by omega) (by omega) (by omega) (by omega) (by omega) (by omega) (by omega) (by omega)) (by decide))) (.c (j:=0) rfl .n)<|d_pv 21 rfl rfl (by kernel_rfl) (by kernel_rfl) rfl rfl (zK zr44 rfl Try.underlying44 sz3 (.c rfl (.c rfl (.c rfl .n))) (.c rfl rfl rfl (.take .nil) (.c rfl rfl rfl (.skip (.take .nil)) (.c rfl rfl rfl (.skip (.skip (.take .nil))) .n)))) ?_
    exact zp (hD1 (u5_1,u12_1,u19_1,u22_1)) (by kernel_rfl) ((.of rfl):SubM _ _) .rfl .rfl ((.of [0,1,2,3,4] rfl):SelR _ _ _)
  refine zL (X:=Wd×Wd×Wd) (k':=4) (L':=(lb 24 1048575)) (fun (u5_1,u12_1,u19_1)=>([(44,.agg #[u19_1.b,u19_1.l]),(38,.int .i64 ((Ms.det (dx,dy,dz) (qd7,qd8,qd9) (qd4,qd5,qd6)).sign)),(31,.int .i64 ((Ms.det (dx,dy,dz) (qd1,qd2,qd3) (qd7,qd8,qd9)).sign)),(9,.int .i64 ((Ms.det (qd1,qd2,qd3) (qd7,qd8,qd9) (qd4,qd5,qd6)).sign)),(6,.int .i64 z),(13,.int .i64 ((i:Nat):Int)),(12,.int .i64 ((n:Nat):Int)),(11,.slice p n cap),(3,.pointer (some ⟨b1,0,none⟩))],[],[boxA b6 119 [.int .i64 qd1,.int .i64 qd2,.int .i64 qd3,.int .i64 qd7,.int .i64 qd8,.int .i64 qd9,.int .i64 qd4,.int .i64 qd5,.int .i64 qd6],boxA b1 44 [.int .i64 dx,.int .i64 dy,.int .i64 dz]],[zF u19_1 (Ms.det (dx,dy,dz) (qd4,qd5,qd6) (qd1,qd2,qd3)),zF u12_1 (Ms.det (dx,dy,dz) (qd7,qd8,qd9) (qd4,qd5,qd6)),zF u5_1 (Ms.det (dx,dy,dz) (qd1,qd2,qd3) (qd7,qd8,qd9)),zF w37 (Ms.det (qd1,qd2,qd3) (qd7,qd8,qd9) (qd4,qd5,qd6)),slF (rI9 .i64) p cap l])) ?_ (fun hD4=> ?_)
  ·
   rintro ⟨u5_1,u12_1,u19_1⟩
   dsimp only
   refine zMa 20 22 (by kernel_rfl) ?_ ?_
   ·
    refine zqa rfl rfl rfl rfl (.c rfl .n) ce83 (zNa (w1:=u19_1) (x1:=Ms.det (dx,dy,dz) (qd4,qd5,qd6) (qd1,qd2,qd3)) (hln:=by exact Nat.le_trans (Big.zha (by omega) (by omega) (by omega) (by omega) (by omega) (by omega) (by omega) (by omega) (by omega)) (by decide))) (.c (j:=0) rfl .n)<|d_pv 21 rfl rfl (by kernel_rfl) (by kernel_rfl) rfl rfl (zK zr44 rfl Try.underlying44 sz3 (.c rfl (.c rfl (.c rfl .n))) (.c rfl rfl rfl (.take .nil) (.c rfl rfl rfl (.skip (.take .nil)) (.c rfl rfl rfl (.skip (.skip (.take .nil))) .n)))) ?_
    exact zp (hD2 (u5_1,u12_1,u19_1)) (by kernel_rfl) ((.of rfl):SubM _ _) .rfl .rfl ((.of [0,1,2,3,4] rfl):SelR _ _ _)
   ·
    refine zO rfl rfl rfl rfl (zn zr44 rfl) (fun u22_1 _=> ?_)
    exact zp (hD3 (u5_1,u12_1,u19_1,u22_1)) (by kernel_rfl) ((.of rfl):SubM _ _) .rfl .rfl ((.of [0,1,2,3,4] rfl):SelR _ _ _)
  refine zL (X:=Wd×Wd×Nat) (k':=4) (L':=(lb 24 4718591)) (fun (u5_1,u12_1,u22_1)=>([(10,.pointer (some ⟨u22_1,0,none⟩)),(38,.int .i64 ((Ms.det (dx,dy,dz) (qd7,qd8,qd9) (qd4,qd5,qd6)).sign)),(31,.int .i64 ((Ms.det (dx,dy,dz) (qd1,qd2,qd3) (qd7,qd8,qd9)).sign)),(43,.agg #[.int .i64 qd1,.int .i64 qd2,.int .i64 qd3]),(41,.agg #[.int .i64 qd4,.int .i64 qd5,.int .i64 qd6]),(39,.agg #[.int .i64 dx,.int .i64 dy,.int .i64 dz]),(9,.int .i64 ((Ms.det (qd1,qd2,qd3) (qd7,qd8,qd9) (qd4,qd5,qd6)).sign)),(6,.int .i64 z),(13,.int .i64 ((i:Nat):Int)),(12,.int .i64 ((n:Nat):Int)),(11,.slice p n cap),(3,.pointer (some ⟨b1,0,none⟩))],[boxA u22_1 44 [.int .i64 0,.int .i64 0,.int .i64 0]],[boxA b6 119 [.int .i64 qd1,.int .i64 qd2,.int .i64 qd3,.int .i64 qd7,.int .i64 qd8,.int .i64 qd9,.int .i64 qd4,.int .i64 qd5,.int .i64 qd6],boxA b1 44 [.int .i64 dx,.int .i64 dy,.int .i64 dz]],[zF u12_1 (Ms.det (dx,dy,dz) (qd7,qd8,qd9) (qd4,qd5,qd6)),zF u5_1 (Ms.det (dx,dy,dz) (qd1,qd2,qd3) (qd7,qd8,qd9)),zF w37 (Ms.det (qd1,qd2,qd3) (qd7,qd8,qd9) (qd4,qd5,qd6)),slF (rI9 .i64) p cap l])) ?_ (fun hD5=> ?_)
  ·
   rintro ⟨u5_1,u12_1,u22_1⟩
   dsimp only
   refine zE 19 (by kernel_rfl) ?_
   ·
    refine zu rfl rfl rfl rfl (.c rfl (.c rfl (.c rfl .n))) ce63 (zAb (ex:=dx) (ey:=dy) (ez:=dz) (fx:=qd4) (fy:=qd5) (fz:=qd6) (gx:=qd1) (gy:=qd2) (gz:=qd3) (hbex:=by omega) (hbey:=by omega) (hbez:=by omega) (hbfx:=by omega) (hbfy:=by omega) (hbfz:=by omega) (hbgx:=by omega) (hbgy:=by omega) (hbgz:=by omega)) (.n) ?_
    rintro u19_1 -
    dsimp only [List.append_eq,List.nil_append,List.cons_append]
    exact zp (hD3 (u5_1,u12_1,u19_1,u22_1)) (by kernel_rfl) ((.of rfl):SubM _ _) .rfl .rfl ((.of [0,1,2,3,4] rfl):SelR _ _ _)
  refine zL (X:=Wd×Wd) (k':=5) (L':=(lb 24 524287)) (fun (u5_1,u12_1)=>([(38,.int .i64 ((Ms.det (dx,dy,dz) (qd7,qd8,qd9) (qd4,qd5,qd6)).sign)),(31,.int .i64 ((Ms.det (dx,dy,dz) (qd1,qd2,qd3) (qd7,qd8,qd9)).sign)),(43,.agg #[.int .i64 qd1,.int .i64 qd2,.int .i64 qd3]),(41,.agg #[.int .i64 qd4,.int .i64 qd5,.int .i64 qd6]),(39,.agg #[.int .i64 dx,.int .i64 dy,.int .i64 dz]),(9,.int .i64 ((Ms.det (qd1,qd2,qd3) (qd7,qd8,qd9) (qd4,qd5,qd6)).sign)),(6,.int .i64 z),(13,.int .i64 ((i:Nat):Int)),(12,.int .i64 ((n:Nat):Int)),(11,.slice p n cap),(3,.pointer (some ⟨b1,0,none⟩))],[],[boxA b6 119 [.int .i64 qd1,.int .i64 qd2,.int .i64 qd3,.int .i64 qd7,.int .i64 qd8,.int .i64 qd9,.int .i64 qd4,.int .i64 qd5,.int .i64 qd6],boxA b1 44 [.int .i64 dx,.int .i64 dy,.int .i64 dz]],[zF u12_1 (Ms.det (dx,dy,dz) (qd7,qd8,qd9) (qd4,qd5,qd6)),zF u5_1 (Ms.det (dx,dy,dz) (qd1,qd2,qd3) (qd7,qd8,qd9)),zF w37 (Ms.det (qd1,qd2,qd3) (qd7,qd8,qd9) (qd4,qd5,qd6)),slF (rI9 .i64) p cap l])) ?_ (fun hD6=> ?_)
  ·
   rintro ⟨u5_1,u12_1⟩
   dsimp only
   refine zMa 19 22 (by kernel_rfl) ?_ ?_
   ·
    refine zu rfl rfl rfl rfl (.c rfl (.c rfl (.c rfl .n))) ce63 (zAb (ex:=dx) (ey:=dy) (ez:=dz) (fx:=qd4) (fy:=qd5) (fz:=qd6) (gx:=qd1) (gy:=qd2) (gz:=qd3) (hbex:=by omega) (hbey:=by omega) (hbez:=by omega) (hbfx:=by omega) (hbfy:=by omega) (hbfz:=by omega) (hbgx:=by omega) (hbgy:=by omega) (hbgz:=by omega)) (.n) ?_
    rintro u19_1 -
    dsimp only [List.append_eq,List.nil_append,List.cons_append]
    exact zp (hD4 (u5_1,u12_1,u19_1)) (by kernel_rfl) ((.of rfl):SubM _ _) .rfl .rfl ((.of [0,1,2,3,4] rfl):SelR _ _ _)
   ·
    refine zO rfl rfl rfl rfl (zn zr44 rfl) (fun u22_1 _=> ?_)
    exact zp (hD5 (u5_1,u12_1,u22_1)) (by kernel_rfl) ((.of rfl):SubM _ _) .rfl .rfl ((.of [0,1,2,3] rfl):SelR _ _ _)
  refine zL (X:=Wd×Wd×Nat) (k':=5) (L':=(lb 24 4710399)) (fun (u5_1,u12_1,u22_1)=>([(10,.pointer (some ⟨u22_1,0,none⟩)),(37,.agg #[u12_1.b,u12_1.l]),(31,.int .i64 ((Ms.det (dx,dy,dz) (qd1,qd2,qd3) (qd7,qd8,qd9)).sign)),(43,.agg #[.int .i64 qd1,.int .i64 qd2,.int .i64 qd3]),(41,.agg #[.int .i64 qd4,.int .i64 qd5,.int .i64 qd6]),(39,.agg #[.int .i64 dx,.int .i64 dy,.int .i64 dz]),(9,.int .i64 ((Ms.det (qd1,qd2,qd3) (qd7,qd8,qd9) (qd4,qd5,qd6)).sign)),(6,.int .i64 z),(13,.int .i64 ((i:Nat):Int)),(12,.int .i64 ((n:Nat):Int)),(11,.slice p n cap),(3,.pointer (some ⟨b1,0,none⟩))],[boxA u22_1 44 [.int .i64 0,.int .i64 0,.int .i64 0]],[boxA b6 119 [.int .i64 qd1,.int .i64 qd2,.int .i64 qd3,.int .i64 qd7,.int .i64 qd8,.int .i64 qd9,.int .i64 qd4,.int .i64 qd5,.int .i64 qd6],boxA b1 44 [.int .i64 dx,.int .i64 dy,.int .i64 dz]],[zF u12_1 (Ms.det (dx,dy,dz) (qd7,qd8,qd9) (qd4,qd5,qd6)),zF u5_1 (Ms.det (dx,dy,dz) (qd1,qd2,qd3) (qd7,qd8,qd9)),zF w37 (Ms.det (qd1,qd2,qd3) (qd7,qd8,qd9) (qd4,qd5,qd6)),slF (rI9 .i64) p cap l])) ?_ (fun hD7=> ?_)
  ·
   rintro ⟨u5_1,u12_1,u22_1⟩
   dsimp only
   refine zE 13 (by kernel_rfl) ?_
   ·
    refine zqa rfl rfl rfl rfl (.c rfl .n) ce83 (zNa (w1:=u12_1) (x1:=Ms.det (dx,dy,dz) (qd7,qd8,qd9) (qd4,qd5,qd6)) (hln:=by exact Nat.le_trans (Big.zha (by omega) (by omega) (by omega) (by omega) (by omega) (by omega) (by omega) (by omega) (by omega)) (by decide))) (.c (j:=0) rfl .n) ?_
    exact zp (hD5 (u5_1,u12_1,u22_1)) (by kernel_rfl) ((.of rfl):SubM _ _) .rfl .rfl ((.of [0,1,2,3] rfl):SelR _ _ _)
  refine zL (X:=Wd×Wd) (k':=6) (L':=(lb 24 516095)) (fun (u5_1,u12_1)=>([(37,.agg #[u12_1.b,u12_1.l]),(31,.int .i64 ((Ms.det (dx,dy,dz) (qd1,qd2,qd3) (qd7,qd8,qd9)).sign)),(43,.agg #[.int .i64 qd1,.int .i64 qd2,.int .i64 qd3]),(41,.agg #[.int .i64 qd4,.int .i64 qd5,.int .i64 qd6]),(39,.agg #[.int .i64 dx,.int .i64 dy,.int .i64 dz]),(9,.int .i64 ((Ms.det (qd1,qd2,qd3) (qd7,qd8,qd9) (qd4,qd5,qd6)).sign)),(6,.int .i64 z),(13,.int .i64 ((i:Nat):Int)),(12,.int .i64 ((n:Nat):Int)),(11,.slice p n cap),(3,.pointer (some ⟨b1,0,none⟩))],[],[boxA b6 119 [.int .i64 qd1,.int .i64 qd2,.int .i64 qd3,.int .i64 qd7,.int .i64 qd8,.int .i64 qd9,.int .i64 qd4,.int .i64 qd5,.int .i64 qd6],boxA b1 44 [.int .i64 dx,.int .i64 dy,.int .i64 dz]],[zF u12_1 (Ms.det (dx,dy,dz) (qd7,qd8,qd9) (qd4,qd5,qd6)),zF u5_1 (Ms.det (dx,dy,dz) (qd1,qd2,qd3) (qd7,qd8,qd9)),zF w37 (Ms.det (qd1,qd2,qd3) (qd7,qd8,qd9) (qd4,qd5,qd6)),slF (rI9 .i64) p cap l])) ?_ (fun hD8=> ?_)
  ·
   rintro ⟨u5_1,u12_1⟩
   dsimp only
   refine zMa 13 22 (by kernel_rfl) ?_ ?_
   ·
    refine zqa rfl rfl rfl rfl (.c rfl .n) ce83 (zNa (w1:=u12_1) (x1:=Ms.det (dx,dy,dz) (qd7,qd8,qd9) (qd4,qd5,qd6)) (hln:=by exact Nat.le_trans (Big.zha (by omega) (by omega) (by omega) (by omega) (by omega) (by omega) (by omega) (by omega) (by omega)) (by decide))) (.c (j:=0) rfl .n) ?_
    exact zp (hD6 (u5_1,u12_1)) (by kernel_rfl) ((.of rfl):SubM _ _) .rfl .rfl ((.of [0,1,2,3] rfl):SelR _ _ _)
   ·
    refine zO rfl rfl rfl rfl (zn zr44 rfl) (fun u22_1 _=> ?_)
    exact zp (hD7 (u5_1,u12_1,u22_1)) (by kernel_rfl) ((.of rfl):SubM _ _) .rfl .rfl ((.of [0,1,2,3] rfl):SelR _ _ _)
  refine zL (X:=Wd×Nat) (k':=6) (L':=(lb 24 4706303)) (fun (u5_1,u22_1)=>([(10,.pointer (some ⟨u22_1,0,none⟩)),(31,.int .i64 ((Ms.det (dx,dy,dz) (qd1,qd2,qd3) (qd7,qd8,qd9)).sign)),(43,.agg #[.int .i64 qd1,.int .i64 qd2,.int .i64 qd3]),(41,.agg #[.int .i64 qd4,.int .i64 qd5,.int .i64 qd6]),(39,.agg #[.int .i64 dx,.int .i64 dy,.int .i64 dz]),(36,.agg #[.int .i64 qd4,.int .i64 qd5,.int .i64 qd6]),(34,.agg #[.int .i64 qd7,.int .i64 qd8,.int .i64 qd9]),(32,.agg #[.int .i64 dx,.int .i64 dy,.int .i64 dz]),(9,.int .i64 ((Ms.det (qd1,qd2,qd3) (qd7,qd8,qd9) (qd4,qd5,qd6)).sign)),(6,.int .i64 z),(13,.int .i64 ((i:Nat):Int)),(12,.int .i64 ((n:Nat):Int)),(11,.slice p n cap),(3,.pointer (some ⟨b1,0,none⟩))],[boxA u22_1 44 [.int .i64 0,.int .i64 0,.int .i64 0]],[boxA b6 119 [.int .i64 qd1,.int .i64 qd2,.int .i64 qd3,.int .i64 qd7,.int .i64 qd8,.int .i64 qd9,.int .i64 qd4,.int .i64 qd5,.int .i64 qd6],boxA b1 44 [.int .i64 dx,.int .i64 dy,.int .i64 dz]],[zF u5_1 (Ms.det (dx,dy,dz) (qd1,qd2,qd3) (qd7,qd8,qd9)),zF w37 (Ms.det (qd1,qd2,qd3) (qd7,qd8,qd9) (qd4,qd5,qd6)),slF (rI9 .i64) p cap l])) ?_ (fun hD9=> ?_)
  ·
   rintro ⟨u5_1,u22_1⟩
   dsimp only
   refine zE 12 (by kernel_rfl) ?_
   ·
    refine zu rfl rfl rfl rfl (.c rfl (.c rfl (.c rfl .n))) ce63 (zAb (ex:=dx) (ey:=dy) (ez:=dz) (fx:=qd7) (fy:=qd8) (fz:=qd9) (gx:=qd4) (gy:=qd5) (gz:=qd6) (hbex:=by omega) (hbey:=by omega) (hbez:=by omega) (hbfx:=by omega) (hbfy:=by omega) (hbfz:=by omega) (hbgx:=by omega) (hbgy:=by omega) (hbgz:=by omega)) (.n) ?_
    rintro u12_1 -
    dsimp only [List.append_eq,List.nil_append,List.cons_append]
    exact zp (hD7 (u5_1,u12_1,u22_1)) (by kernel_rfl) ((.of rfl):SubM _ _) .rfl .rfl ((.of [0,1,2,3] rfl):SelR _ _ _)
  refine zL (X:=Wd) (k':=7) (L':=(lb 24 511999)) (fun u5_1=>([(31,.int .i64 ((Ms.det (dx,dy,dz) (qd1,qd2,qd3) (qd7,qd8,qd9)).sign)),(43,.agg #[.int .i64 qd1,.int .i64 qd2,.int .i64 qd3]),(41,.agg #[.int .i64 qd4,.int .i64 qd5,.int .i64 qd6]),(39,.agg #[.int .i64 dx,.int .i64 dy,.int .i64 dz]),(36,.agg #[.int .i64 qd4,.int .i64 qd5,.int .i64 qd6]),(34,.agg #[.int .i64 qd7,.int .i64 qd8,.int .i64 qd9]),(32,.agg #[.int .i64 dx,.int .i64 dy,.int .i64 dz]),(9,.int .i64 ((Ms.det (qd1,qd2,qd3) (qd7,qd8,qd9) (qd4,qd5,qd6)).sign)),(6,.int .i64 z),(13,.int .i64 ((i:Nat):Int)),(12,.int .i64 ((n:Nat):Int)),(11,.slice p n cap),(3,.pointer (some ⟨b1,0,none⟩))],[],[boxA b6 119 [.int .i64 qd1,.int .i64 qd2,.int .i64 qd3,.int .i64 qd7,.int .i64 qd8,.int .i64 qd9,.int .i64 qd4,.int .i64 qd5,.int .i64 qd6],boxA b1 44 [.int .i64 dx,.int .i64 dy,.int .i64 dz]],[zF u5_1 (Ms.det (dx,dy,dz) (qd1,qd2,qd3) (qd7,qd8,qd9)),zF w37 (Ms.det (qd1,qd2,qd3) (qd7,qd8,qd9) (qd4,qd5,qd6)),slF (rI9 .i64) p cap l])) ?_ (fun hD10=> ?_)
  ·
   rintro u5_1
   dsimp only
   refine zMa 12 22 (by kernel_rfl) ?_ ?_
   ·
    refine zu rfl rfl rfl rfl (.c rfl (.c rfl (.c rfl .n))) ce63 (zAb (ex:=dx) (ey:=dy) (ez:=dz) (fx:=qd7) (fy:=qd8) (fz:=qd9) (gx:=qd4) (gy:=qd5) (gz:=qd6) (hbex:=by omega) (hbey:=by omega) (hbez:=by omega) (hbfx:=by omega) (hbfy:=by omega) (hbfz:=by omega) (hbgx:=by omega) (hbgy:=by omega) (hbgz:=by omega)) (.n) ?_
    rintro u12_1 -
    dsimp only [List.append_eq,List.nil_append,List.cons_append]
    exact zp (hD8 (u5_1,u12_1)) (by kernel_rfl) ((.of rfl):SubM _ _) .rfl .rfl ((.of [0,1,2,3] rfl):SelR _ _ _)
   ·
    refine zO rfl rfl rfl rfl (zn zr44 rfl) (fun u22_1 _=> ?_)
    exact zp (hD9 (u5_1,u22_1)) (by kernel_rfl) ((.of rfl):SubM _ _) .rfl .rfl ((.of [0,1,2] rfl):SelR _ _ _)
  refine zL (X:=Wd×Nat) (k':=7) (L':=(lb 24 4706239)) (fun (u5_1,u22_1)=>([(10,.pointer (some ⟨u22_1,0,none⟩)),(30,.agg #[u5_1.b,u5_1.l]),(43,.agg #[.int .i64 qd1,.int .i64 qd2,.int .i64 qd3]),(41,.agg #[.int .i64 qd4,.int .i64 qd5,.int .i64 qd6]),(39,.agg #[.int .i64 dx,.int .i64 dy,.int .i64 dz]),(36,.agg #[.int .i64 qd4,.int .i64 qd5,.int .i64 qd6]),(34,.agg #[.int .i64 qd7,.int .i64 qd8,.int .i64 qd9]),(32,.agg #[.int .i64 dx,.int .i64 dy,.int .i64 dz]),(9,.int .i64 ((Ms.det (qd1,qd2,qd3) (qd7,qd8,qd9) (qd4,qd5,qd6)).sign)),(6,.int .i64 z),(13,.int .i64 ((i:Nat):Int)),(12,.int .i64 ((n:Nat):Int)),(11,.slice p n cap),(3,.pointer (some ⟨b1,0,none⟩))],[boxA u22_1 44 [.int .i64 0,.int .i64 0,.int .i64 0]],[boxA b6 119 [.int .i64 qd1,.int .i64 qd2,.int .i64 qd3,.int .i64 qd7,.int .i64 qd8,.int .i64 qd9,.int .i64 qd4,.int .i64 qd5,.int .i64 qd6],boxA b1 44 [.int .i64 dx,.int .i64 dy,.int .i64 dz]],[zF u5_1 (Ms.det (dx,dy,dz) (qd1,qd2,qd3) (qd7,qd8,qd9)),zF w37 (Ms.det (qd1,qd2,qd3) (qd7,qd8,qd9) (qd4,qd5,qd6)),slF (rI9 .i64) p cap l])) ?_ (fun hD11=> ?_)
  ·
   rintro ⟨u5_1,u22_1⟩
   dsimp only
   refine zE 6 (by kernel_rfl) ?_
   ·
    refine zqa rfl rfl rfl rfl (.c rfl .n) ce83 (zNa (w1:=u5_1) (x1:=Ms.det (dx,dy,dz) (qd1,qd2,qd3) (qd7,qd8,qd9)) (hln:=by exact Nat.le_trans (Big.zha (by omega) (by omega) (by omega) (by omega) (by omega) (by omega) (by omega) (by omega) (by omega)) (by decide))) (.c (j:=0) rfl .n) ?_
    exact zp (hD9 (u5_1,u22_1)) (by kernel_rfl) ((.of rfl):SubM _ _) .rfl .rfl ((.of [0,1,2] rfl):SelR _ _ _)
  refine zL (X:=Wd) (k':=8) (L':=(lb 24 511935)) (fun u5_1=>([(30,.agg #[u5_1.b,u5_1.l]),(43,.agg #[.int .i64 qd1,.int .i64 qd2,.int .i64 qd3]),(41,.agg #[.int .i64 qd4,.int .i64 qd5,.int .i64 qd6]),(39,.agg #[.int .i64 dx,.int .i64 dy,.int .i64 dz]),(36,.agg #[.int .i64 qd4,.int .i64 qd5,.int .i64 qd6]),(34,.agg #[.int .i64 qd7,.int .i64 qd8,.int .i64 qd9]),(32,.agg #[.int .i64 dx,.int .i64 dy,.int .i64 dz]),(9,.int .i64 ((Ms.det (qd1,qd2,qd3) (qd7,qd8,qd9) (qd4,qd5,qd6)).sign)),(6,.int .i64 z),(13,.int .i64 ((i:Nat):Int)),(12,.int .i64 ((n:Nat):Int)),(11,.slice p n cap),(3,.pointer (some ⟨b1,0,none⟩))],[],[boxA b6 119 [.int .i64 qd1,.int .i64 qd2,.int .i64 qd3,.int .i64 qd7,.int .i64 qd8,.int .i64 qd9,.int .i64 qd4,.int .i64 qd5,.int .i64 qd6],boxA b1 44 [.int .i64 dx,.int .i64 dy,.int .i64 dz]],[zF u5_1 (Ms.det (dx,dy,dz) (qd1,qd2,qd3) (qd7,qd8,qd9)),zF w37 (Ms.det (qd1,qd2,qd3) (qd7,qd8,qd9) (qd4,qd5,qd6)),slF (rI9 .i64) p cap l])) ?_ (fun hD12=> ?_)
  ·
   rintro u5_1
   dsimp only
   refine zMa 6 22 (by kernel_rfl) ?_ ?_
   ·
    refine zqa rfl rfl rfl rfl (.c rfl .n) ce83 (zNa (w1:=u5_1) (x1:=Ms.det (dx,dy,dz) (qd1,qd2,qd3) (qd7,qd8,qd9)) (hln:=by exact Nat.le_trans (Big.zha (by omega) (by omega) (by omega) (by omega) (by omega) (by omega) (by omega) (by omega) (by omega)) (by decide))) (.c (j:=0) rfl .n) ?_
    exact zp (hD10 u5_1) (by kernel_rfl) ((.of rfl):SubM _ _) .rfl .rfl ((.of [0,1,2] rfl):SelR _ _ _)
   ·
    refine zO rfl rfl rfl rfl (zn zr44 rfl) (fun u22_1 _=> ?_)
    exact zp (hD11 (u5_1,u22_1)) (by kernel_rfl) ((.of rfl):SubM _ _) .rfl .rfl ((.of [0,1,2] rfl):SelR _ _ _)
  refine zL (X:=Nat) (k':=8) (L':=(lb 24 4706207)) (fun u22_1=>([(10,.pointer (some ⟨u22_1,0,none⟩)),(43,.agg #[.int .i64 qd1,.int .i64 qd2,.int .i64 qd3]),(41,.agg #[.int .i64 qd4,.int .i64 qd5,.int .i64 qd6]),(39,.agg #[.int .i64 dx,.int .i64 dy,.int .i64 dz]),(36,.agg #[.int .i64 qd4,.int .i64 qd5,.int .i64 qd6]),(34,.agg #[.int .i64 qd7,.int .i64 qd8,.int .i64 qd9]),(32,.agg #[.int .i64 dx,.int .i64 dy,.int .i64 dz]),(29,.agg #[.int .i64 qd7,.int .i64 qd8,.int .i64 qd9]),(27,.agg #[.int .i64 qd1,.int .i64 qd2,.int .i64 qd3]),(25,.agg #[.int .i64 dx,.int .i64 dy,.int .i64 dz]),(9,.int .i64 ((Ms.det (qd1,qd2,qd3) (qd7,qd8,qd9) (qd4,qd5,qd6)).sign)),(6,.int .i64 z),(13,.int .i64 ((i:Nat):Int)),(12,.int .i64 ((n:Nat):Int)),(11,.slice p n cap),(3,.pointer (some ⟨b1,0,none⟩))],[boxA u22_1 44 [.int .i64 0,.int .i64 0,.int .i64 0]],[boxA b6 119 [.int .i64 qd1,.int .i64 qd2,.int .i64 qd3,.int .i64 qd7,.int .i64 qd8,.int .i64 qd9,.int .i64 qd4,.int .i64 qd5,.int .i64 qd6],boxA b1 44 [.int .i64 dx,.int .i64 dy,.int .i64 dz]],[zF w37 (Ms.det (qd1,qd2,qd3) (qd7,qd8,qd9) (qd4,qd5,qd6)),slF (rI9 .i64) p cap l])) ?_ (fun hD13=> ?_)
  ·
   rintro u22_1
   dsimp only
   refine zE 5 (by kernel_rfl) ?_
   ·
    refine zu rfl rfl rfl rfl (.c rfl (.c rfl (.c rfl .n))) ce63 (zAb (ex:=dx) (ey:=dy) (ez:=dz) (fx:=qd1) (fy:=qd2) (fz:=qd3) (gx:=qd7) (gy:=qd8) (gz:=qd9) (hbex:=by omega) (hbey:=by omega) (hbez:=by omega) (hbfx:=by omega) (hbfy:=by omega) (hbfz:=by omega) (hbgx:=by omega) (hbgy:=by omega) (hbgz:=by omega)) (.n) ?_
    rintro u5_1 -
    dsimp only [List.append_eq,List.nil_append,List.cons_append]
    exact zp (hD11 (u5_1,u22_1)) (by kernel_rfl) ((.of rfl):SubM _ _) .rfl .rfl ((.of [0,1,2] rfl):SelR _ _ _)
  refine zMa 5 22 (by kernel_rfl) ?_ ?_
  ·
   refine zu rfl rfl rfl rfl (.c rfl (.c rfl (.c rfl .n))) ce63 (zAb (ex:=dx) (ey:=dy) (ez:=dz) (fx:=qd1) (fy:=qd2) (fz:=qd3) (gx:=qd7) (gy:=qd8) (gz:=qd9) (hbex:=by omega) (hbey:=by omega) (hbez:=by omega) (hbfx:=by omega) (hbfy:=by omega) (hbfz:=by omega) (hbgx:=by omega) (hbgy:=by omega) (hbgz:=by omega)) (.n) ?_
   rintro u5_1 -
   dsimp only [List.append_eq,List.nil_append,List.cons_append]
   exact zp (hD12 u5_1) (by kernel_rfl) ((.of rfl):SubM _ _) .rfl .rfl ((.of [0,1,2] rfl):SelR _ _ _)
  ·
   refine zO rfl rfl rfl rfl (zn zr44 rfl) (fun u22_1 _=> ?_)
   exact zp (hD13 u22_1) (by kernel_rfl) ((.of rfl):SubM _ _) .rfl .rfl ((.of [0,1] rfl):SelR _ _ _)
 ·
  refine zaa<|zk<|zk<|zt<|zc<|zh<|za<|r_pv rfl rfl (zb rfl)<|r_pv rfl rfl (ze rfl)<|r_pv rfl rfl (ze rfl)<|zj<|zc<|zP ?_
  obtain ⟨hf1,hf2⟩:=hI.fin (by omega)
  obtain ⟨hv1,hv2⟩:=Ms.crN_good hf1
  exact zmb Try.results84 () trivial (zz rfl) (zz rfl) (by rw [hv1,hv2,hf2]) (ho:=(.n:PickO _ _ _)) (.n:SelR _ _ _)
theorem zsd {pv:Option Addr} {nv:Nat} {cv:Nat} {V:List (Int×Int×Int)} {pf:Option Addr} {nf:Nat} {cf:Nat} {F:List (Int×Int×Int)} {px:Int} {py:Int} {pz:Int} (hnv:V.length=nv) (hnf:F.length=nf) (hg:Ms.Good V F) (hppx:Ms.lim1 px) (hppy:Ms.lim1 py) (hppz:Ms.lim1 pz):Con Try.prog 42 [.agg #[.slice pv nv cv,.slice pf nf cf],.agg #[.int .i64 px,.int .i64 py,.int .i64 pz]] [] [slF (rI3 .i64) pv cv V,slF (rI3 .i64) pf cf F] (Y:=Unit) (fun y=>True) (fun y=> .tuple #[.int .i64 (Ms.wdN V F (px,py,pz)),.bool (Ms.wdB V F (px,py,pz))]) (fun y=>[]) (fun y=>[]):=by
 refine zB Try.func42 rfl rfl rfl (fun c=> ?_)
 show RunC _ _ _ _ _ [(0,.agg #[.slice pv nv cv,.slice pf nf cf]),(1,.agg #[.int .i64 px,.int .i64 py,.int .i64 pz])] [] [slF (rI3 .i64) pv cv V,slF (rI3 .i64) pf cf F]
 refine zoa 0 rfl (fun hL0=> ?_)
 refine zoa 1 rfl (fun hL1=> ?_)
 have hnv5:nv≤512:=by have:=hg.nv;omega
 have hnf5:nf≤1024:=by have:=hg.nf;omega
 have hl9:=Ms.opn_small hg (p:=(px,py,pz)) hppx hppy hppz
 have hqpx: -1048576≤px∧px≤1048576:=hppx
 have hqpy: -1048576≤py∧py≤1048576:=hppy
 have hqpz: -1048576≤pz∧pz≤1048576:=hppz
 have hol:=Ms.opn_len (V:=V) (F:=F) (p:=(px,py,pz))
 refine zh<|za<|zS rfl rfl (zca rfl rfl) (fun b1=> ?_)
 refine zS rfl rfl (zca rfl rfl) (fun b2=> ?_)
 refine r_pv rfl rfl (ze rfl)<|r_pv rfl rfl (ze rfl)<|zj<|zc<|zh<|za<|zKa rfl rfl (zCa (rI9 .i64) Try.underlying118 inf119) (fun b3 _=> ?_)
 refine r_pv rfl rfl (ze rfl)<|zj<|zc<|zh<|zh<|za<|r_pv rfl rfl (zm Try.underlying25 rfl sz23 rfl rfl)<|r_u rfl rfl (zd 2 ty23 rfl rfl rfl)<|r_pv rfl rfl (zX Try.underlying23 rfl)<|r_pv rfl rfl (zb rfl)<|zj<|zc<|zr<|zua (X:=Nat×(Option Addr)×Nat) (fun x:Nat×(Option Addr)×Nat=>x.1≤nf∧(Ms.tris V (F.take x.1) (px,py,pz)).any Ms.hldB=false) (fun x=>[(6,.slice (x.2.1) ((Ms.opn V (F.take x.1) (px,py,pz)).length) (x.2.2)),(17,.int .i64 ((x.1:Nat):Int)),(16,.int .i64 ((nf:Nat):Int)),(15,.slice pf nf cf),(3,.pointer (some ⟨b2,0,none⟩)),(2,.pointer (some ⟨b1,0,none⟩))]) (fun x=>[rowA 119 (rI9 .i64) (x.2.1) (x.2.2) (Ms.opn V (F.take x.1) (px,py,pz)),boxA b2 42 [.int .i64 px,.int .i64 py,.int .i64 pz],boxA b1 25 [.slice pv nv cv,.slice pf nf cf]]) (fun x=>[slF (rI3 .i64) pv cv V,slF (rI3 .i64) pf cf F]) (fun x:Nat×(Option Addr)×Nat=>nf - x.1) (0,some ⟨b3,0,none⟩,0) (show 0≤nf∧(Ms.tris V (F.take 0) (px,py,pz)).any Ms.hldB=false from by exact ⟨Nat.zero_le _,rfl⟩) ((.e rfl (by first|rfl|(congr 1;omega)|simp_all) (.e rfl (by first|rfl|(congr 1;omega)|simp_all) (.of rfl))):SubM _ _) (ho:=((.e (i:=0) rfl (by first|rfl|(congr 1;omega)|simp_all) (.of [0,0] rfl)):PickO _ _ _)) ((.of [0,1] rfl):SelR _ _ _) ?_
 rintro ⟨i,p7,c7⟩ hI
 replace hI:i≤nf∧(Ms.tris V (F.take i) (px,py,pz)).any Ms.hldB=false:=hI
 try dsimp only
 obtain ⟨hi,hno⟩:=hI
 have hoi:=Ms.opn_len (V:=V) (F:=F.take i) (p:=(px,py,pz))
 rw [List.length_take] at hoi
 refine zh<|za<|r_pv rfl rfl (zD rfl rfl)<|zj<|zc<|zh<|zI rfl (fun h4=> ?_) (fun h4=> ?_)
 ·
  have hat:=hg.at (show i<F.length by omega)
  have hv0:=hg.vat (i:=((F.getD i (0,0,0)).1).toNat) (by omega)
  have hv1:=hg.vat (i:=((F.getD i (0,0,0)).2.1).toNat) (by omega)
  have hv2:=hg.vat (i:=((F.getD i (0,0,0)).2.2).toNat) (by omega)
  refine zw<|zc<|zh<|zr<|zh<|za<|zW (x0:=(F.getD i (0,0,0))) 1 i rfl Try.underlying23 sz44 rfl rfl rfl (by first|rfl|assumption|(simp_all;done)|omega) rfl rfl (gD (d:=(0,0,0)) (by omega)) (fun b5 o6 hok7=> ?_)
  obtain ⟨hok7x,hok7y,hok7z⟩:=hok7
  replace hok7x:=zo.1 hok7x
  replace hok7y:=zo.1 hok7y
  replace hok7z:=zo.1 hok7z
  refine r_u rfl rfl (zN (j:=0) 0 ty44 rfl rfl rfl (.take (.take (.take .nil))))<|zS rfl rfl (zn zr44 rfl) (fun b8=> ?_)
  refine zx 0 rfl rfl rfl rfl rfl sz44 rfl (.take (.take (.take .nil))) .z<|zj<|zc<|zh<|zla (OW:=[]) (O:=[boxA b8 44 [.int .i64 ((F.getD i (0,0,0)).1),.int .i64 ((F.getD i (0,0,0)).2.1),.int .i64 ((F.getD i (0,0,0)).2.2)],rowA 119 (rI9 .i64) p7 c7 (Ms.opn V (F.take i) (px,py,pz)),boxA b2 42 [.int .i64 px,.int .i64 py,.int .i64 pz],boxA b1 25 [.slice pv nv cv,.slice pf nf cf]]) 26 mixed (.then (.block (.then (.then (.block (.then .ret)))))) (by kernel_rfl)<|d_pv 0 rfl rfl (by kernel_rfl) (by kernel_rfl) rfl rfl (zm Try.underlying25 rfl sz22 rfl rfl)<|d_u 1 rfl rfl (by kernel_rfl) (by kernel_rfl) rfl rfl (zd 3 ty22 rfl rfl rfl)<|d_pv 2 rfl rfl (by kernel_rfl) (by kernel_rfl) rfl rfl (zg (i:=0) Try.underlying44 sz3 rfl rfl (by decide) rfl)<|d_u 3 rfl rfl (by kernel_rfl) (by kernel_rfl) rfl rfl (zd 0 ty3 rfl rfl rfl)<|zta (x0:=(V.getD (((F.getD i (0,0,0)).1).toNat) (0,0,0))) 4 rfl rfl (by kernel_rfl) (by kernel_rfl) 1 (((F.getD i (0,0,0)).1).toNat) rfl Try.underlying22 sz42 rfl rfl rfl (by first|rfl|assumption|(simp_all;done)|omega) rfl (by omega) (gD (d:=(0,0,0)) (by omega)) (fun b9 o10 hok11=> ?_)
  obtain ⟨hok11x,hok11y,hok11z⟩:=hok11
  replace hok11x:=zo.1 hok11x
  replace hok11y:=zo.1 hok11y
  replace hok11z:=zo.1 hok11z
  refine d_u 5 rfl rfl (by kernel_rfl) (by kernel_rfl) rfl rfl (zN (j:=0) 0 ty42 rfl rfl rfl (.take (.take (.take .nil))))<|d_u 6 rfl rfl (by kernel_rfl) (by kernel_rfl) rfl rfl (zf 2 ty42 rfl rfl (.take (.take (.take .nil))))<|d_pv 8 rfl rfl (by kernel_rfl) (by kernel_rfl) rfl rfl (zm Try.underlying25 rfl sz22 rfl rfl)<|d_u 9 rfl rfl (by kernel_rfl) (by kernel_rfl) rfl rfl (zd 3 ty22 rfl rfl rfl)<|d_pv 10 rfl rfl (by kernel_rfl) (by kernel_rfl) rfl rfl (zg (i:=1) Try.underlying44 sz3 rfl rfl (by decide) rfl)<|d_u 11 rfl rfl (by kernel_rfl) (by kernel_rfl) rfl rfl (zd 0 ty3 rfl rfl rfl)<|zta (x0:=(V.getD (((F.getD i (0,0,0)).2.1).toNat) (0,0,0))) 12 rfl rfl (by kernel_rfl) (by kernel_rfl) 2 (((F.getD i (0,0,0)).2.1).toNat) rfl Try.underlying22 sz42 rfl rfl rfl (by first|rfl|assumption|(simp_all;done)|omega) rfl (by omega) (gD (d:=(0,0,0)) (by omega)) (fun b12 o13 hok14=> ?_)
  obtain ⟨hok14x,hok14y,hok14z⟩:=hok14
  replace hok14x:=zo.1 hok14x
  replace hok14y:=zo.1 hok14y
  replace hok14z:=zo.1 hok14z
  refine d_u 13 rfl rfl (by kernel_rfl) (by kernel_rfl) rfl rfl (zN (j:=0) 0 ty42 rfl rfl rfl (.take (.take (.take .nil))))<|d_u 14 rfl rfl (by kernel_rfl) (by kernel_rfl) rfl rfl (zf 2 ty42 rfl rfl (.take (.take (.take .nil))))<|d_pv 16 rfl rfl (by kernel_rfl) (by kernel_rfl) rfl rfl (zm Try.underlying25 rfl sz22 rfl rfl)<|d_u 17 rfl rfl (by kernel_rfl) (by kernel_rfl) rfl rfl (zd 3 ty22 rfl rfl rfl)<|d_pv 18 rfl rfl (by kernel_rfl) (by kernel_rfl) rfl rfl (zg (i:=2) Try.underlying44 sz3 rfl rfl (by decide) rfl)<|d_u 19 rfl rfl (by kernel_rfl) (by kernel_rfl) rfl rfl (zd 0 ty3 rfl rfl rfl)<|zta (x0:=(V.getD (((F.getD i (0,0,0)).2.2).toNat) (0,0,0))) 20 rfl rfl (by kernel_rfl) (by kernel_rfl) 3 (((F.getD i (0,0,0)).2.2).toNat) rfl Try.underlying22 sz42 rfl rfl rfl (by first|rfl|assumption|(simp_all;done)|omega) rfl (by omega) (gD (d:=(0,0,0)) (by omega)) (fun b15 o16 hok17=> ?_)
  obtain ⟨hok17x,hok17y,hok17z⟩:=hok17
  replace hok17x:=zo.1 hok17x
  replace hok17y:=zo.1 hok17y
  replace hok17z:=zo.1 hok17z
  refine d_u 21 rfl rfl (by kernel_rfl) (by kernel_rfl) rfl rfl (zN (j:=0) 0 ty42 rfl rfl rfl (.take (.take (.take .nil))))<|d_u 22 rfl rfl (by kernel_rfl) (by kernel_rfl) rfl rfl (zf 2 ty42 rfl rfl (.take (.take (.take .nil))))<|zPb (m':=[(43,.agg #[.int .i64 px,.int .i64 py,.int .i64 pz]),(42,.agg #[.int .i64 ((V.getD (((F.getD i (0,0,0)).2.2).toNat) (0,0,0)).1),.int .i64 ((V.getD (((F.getD i (0,0,0)).2.2).toNat) (0,0,0)).2.1),.int .i64 ((V.getD (((F.getD i (0,0,0)).2.2).toNat) (0,0,0)).2.2)]),(35,.agg #[.int .i64 px,.int .i64 py,.int .i64 pz]),(34,.agg #[.int .i64 ((V.getD (((F.getD i (0,0,0)).2.1).toNat) (0,0,0)).1),.int .i64 ((V.getD (((F.getD i (0,0,0)).2.1).toNat) (0,0,0)).2.1),.int .i64 ((V.getD (((F.getD i (0,0,0)).2.1).toNat) (0,0,0)).2.2)]),(27,.agg #[.int .i64 px,.int .i64 py,.int .i64 pz]),(26,.agg #[.int .i64 ((V.getD (((F.getD i (0,0,0)).1).toNat) (0,0,0)).1),.int .i64 ((V.getD (((F.getD i (0,0,0)).1).toNat) (0,0,0)).2.1),.int .i64 ((V.getD (((F.getD i (0,0,0)).1).toNat) (0,0,0)).2.2)]),(6,.slice p7 ((Ms.opn V (F.take i) (px,py,pz)).length) c7),(17,.int .i64 ((i:Nat):Int)),(16,.int .i64 ((nf:Nat):Int)),(15,.slice pf nf cf),(3,.pointer (some ⟨b2,0,none⟩)),(2,.pointer (some ⟨b1,0,none⟩))]) (R':=[slF (rI3 .i64) pv cv V,slF (rI3 .i64) pf cf F]) ((.of rfl):SubM _ _) (List.Perm.refl _) (List.Perm.refl _) ((.of [4,5] rfl):SelR _ _ _) ?_
  obtain ⟨qd1,hqd1⟩:∃z,z=(V.getD (((F.getD i (0,0,0)).2.2).toNat) (0,0,0)).1:=⟨_,rfl⟩
  rw [← hqd1]
  obtain ⟨qd2,hqd2⟩:∃z,z=(V.getD (((F.getD i (0,0,0)).2.2).toNat) (0,0,0)).2.1:=⟨_,rfl⟩
  rw [← hqd2]
  obtain ⟨qd3,hqd3⟩:∃z,z=(V.getD (((F.getD i (0,0,0)).2.2).toNat) (0,0,0)).2.2:=⟨_,rfl⟩
  rw [← hqd3]
  obtain ⟨qd4,hqd4⟩:∃z,z=(V.getD (((F.getD i (0,0,0)).2.1).toNat) (0,0,0)).1:=⟨_,rfl⟩
  rw [← hqd4]
  obtain ⟨qd5,hqd5⟩:∃z,z=(V.getD (((F.getD i (0,0,0)).2.1).toNat) (0,0,0)).2.1:=⟨_,rfl⟩
  rw [← hqd5]
  obtain ⟨qd6,hqd6⟩:∃z,z=(V.getD (((F.getD i (0,0,0)).2.1).toNat) (0,0,0)).2.2:=⟨_,rfl⟩
  rw [← hqd6]
  obtain ⟨qd7,hqd7⟩:∃z,z=(V.getD (((F.getD i (0,0,0)).1).toNat) (0,0,0)).1:=⟨_,rfl⟩
  rw [← hqd7]
  obtain ⟨qd8,hqd8⟩:∃z,z=(V.getD (((F.getD i (0,0,0)).1).toNat) (0,0,0)).2.1:=⟨_,rfl⟩
  rw [← hqd8]
  obtain ⟨qd9,hqd9⟩:∃z,z=(V.getD (((F.getD i (0,0,0)).1).toNat) (0,0,0)).2.2:=⟨_,rfl⟩
  rw [← hqd9]
  refine zL (X:=Nat) (k':=0) (L':=(lb 27 134217727)) (fun u25_1=>([(9,.pointer (some ⟨u25_1,0,none⟩)),(6,.slice p7 ((Ms.opn V (F.take i) (px,py,pz)).length) c7),(17,.int .i64 ((i:Nat):Int)),(16,.int .i64 ((nf:Nat):Int)),(15,.slice pf nf cf),(3,.pointer (some ⟨b2,0,none⟩)),(2,.pointer (some ⟨b1,0,none⟩))],[boxA u25_1 119 [.int .i64 (qd7 - px),.int .i64 (qd8 - py),.int .i64 (qd9 - pz),.int .i64 (qd4 - px),.int .i64 (qd5 - py),.int .i64 (qd6 - pz),.int .i64 (qd1 - px),.int .i64 (qd2 - py),.int .i64 (qd3 - pz)]],[boxA b8 44 [.int .i64 ((F.getD i (0,0,0)).1),.int .i64 ((F.getD i (0,0,0)).2.1),.int .i64 ((F.getD i (0,0,0)).2.2)],rowA 119 (rI9 .i64) p7 c7 (Ms.opn V (F.take i) (px,py,pz)),boxA b2 42 [.int .i64 px,.int .i64 py,.int .i64 pz],boxA b1 25 [.slice pv nv cv,.slice pf nf cf]],[slF (rI3 .i64) pv cv V,slF (rI3 .i64) pf cf F])) ?_ (fun hD0=> ?_)
  ·
   rintro u25_1
   dsimp only
   refine zma (by kernel_rfl) ?_
   subst hqd1 hqd2 hqd3 hqd4 hqd5 hqd6 hqd7 hqd8 hqd9
   refine zc<|zh<|zh<|za<|r_pv rfl rfl (zg (i:=0) Try.underlying119 sz44 rfl rfl (by decide) rfl)<|r_u rfl rfl (zf 0 ty44 rfl rfl (.take (.take (.take .nil))))<|r_pv rfl rfl (zg (i:=1) Try.underlying119 sz44 rfl rfl (by decide) rfl)<|r_u rfl rfl (zf 0 ty44 rfl rfl (.skip (.skip (.skip (.take (.take (.take .nil)))))))<|r_pv rfl rfl (zg (i:=2) Try.underlying119 sz44 rfl rfl (by decide) rfl)<|r_u rfl rfl (zf 0 ty44 rfl rfl (.skip (.skip (.skip (.skip (.skip (.skip (.take (.take (.take .nil))))))))))<|zY rfl rfl (.c rfl (.c rfl (.c rfl .n))) ce82 (con_on (ex:=(((V.getD (((F.getD i (0,0,0)).1).toNat) (0,0,0)).1) - px)) (ey:=(((V.getD (((F.getD i (0,0,0)).1).toNat) (0,0,0)).2.1) - py)) (ez:=(((V.getD (((F.getD i (0,0,0)).1).toNat) (0,0,0)).2.2) - pz)) (fx:=(((V.getD (((F.getD i (0,0,0)).2.1).toNat) (0,0,0)).1) - px)) (fy:=(((V.getD (((F.getD i (0,0,0)).2.1).toNat) (0,0,0)).2.1) - py)) (fz:=(((V.getD (((F.getD i (0,0,0)).2.1).toNat) (0,0,0)).2.2) - pz)) (gx:=(((V.getD (((F.getD i (0,0,0)).2.2).toNat) (0,0,0)).1) - px)) (gy:=(((V.getD (((F.getD i (0,0,0)).2.2).toNat) (0,0,0)).2.1) - py)) (gz:=(((V.getD (((F.getD i (0,0,0)).2.2).toNat) (0,0,0)).2.2) - pz)) (hbex:=by first|rfl|assumption|omega|(exact Nat.le_trans (Big.zha (by omega) (by omega) (by omega) (by omega) (by omega) (by omega) (by omega) (by omega) (by omega)) (by decide))) (hbey:=by first|rfl|assumption|omega|(exact Nat.le_trans (Big.zha (by omega) (by omega) (by omega) (by omega) (by omega) (by omega) (by omega) (by omega) (by omega)) (by decide))) (hbez:=by first|rfl|assumption|omega|(exact Nat.le_trans (Big.zha (by omega) (by omega) (by omega) (by omega) (by omega) (by omega) (by omega) (by omega) (by omega)) (by decide))) (hbfx:=by first|rfl|assumption|omega|(exact Nat.le_trans (Big.zha (by omega) (by omega) (by omega) (by omega) (by omega) (by omega) (by omega) (by omega) (by omega)) (by decide))) (hbfy:=by first|rfl|assumption|omega|(exact Nat.le_trans (Big.zha (by omega) (by omega) (by omega) (by omega) (by omega) (by omega) (by omega) (by omega) (by omega)) (by decide))) (hbfz:=by first|rfl|assumption|omega|(exact Nat.le_trans (Big.zha (by omega) (by omega) (by omega) (by omega) (by omega) (by omega) (by omega) (by omega) (by omega)) (by decide))) (hbgx:=by first|rfl|assumption|omega|(exact Nat.le_trans (Big.zha (by omega) (by omega) (by omega) (by omega) (by omega) (by omega) (by omega) (by omega) (by omega)) (by decide))) (hbgy:=by first|rfl|assumption|omega|(exact Nat.le_trans (Big.zha (by omega) (by omega) (by omega) (by omega) (by omega) (by omega) (by omega) (by omega) (by omega)) (by decide))) (hbgz:=by first|rfl|assumption|omega|(exact Nat.le_trans (Big.zha (by omega) (by omega) (by omega) (by omega) (by omega) (by omega) (by omega) (by omega) (by omega)) (by decide)))) (.n) ?_
   refine zj<|zc<|zGa rfl (fun hon=> ?_) (fun hon=> ?_)
   ·
    refine zh<|za<|r_pv rfl rfl (ze rfl)<|r_pv rfl rfl (ze rfl)<|zj<|zc<|zP<|zl<|zq<|zl<|zl<|zq<|zl ?_
    obtain ⟨hv1,hv2⟩:=Ms.wd_on (V:=V) (p:=(px,py,pz)) (show i<F.length by omega) hon
    exact zmb Try.results42 () trivial (zz rfl) (zz rfl) (by rw [hv1,hv2]) (ho:=(.n:PickO _ _ _)) (.n:SelR _ _ _)
   ·
    refine zw<|zc<|zh<|za<|r_pv rfl rfl (zg (i:=0) Try.underlying119 sz44 rfl rfl (by decide) rfl)<|r_u rfl rfl (zf 0 ty44 rfl rfl (.take (.take (.take .nil))))<|r_pv rfl rfl (zg (i:=1) Try.underlying119 sz44 rfl rfl (by decide) rfl)<|r_u rfl rfl (zf 0 ty44 rfl rfl (.skip (.skip (.skip (.take (.take (.take .nil)))))))<|r_pv rfl rfl (zg (i:=2) Try.underlying119 sz44 rfl rfl (by decide) rfl)<|r_u rfl rfl (zf 0 ty44 rfl rfl (.skip (.skip (.skip (.skip (.skip (.skip (.take (.take (.take .nil))))))))))<|zea rfl rfl (.c rfl (.c rfl (.c rfl .n))) ce63 (zAb (ex:=(((V.getD (((F.getD i (0,0,0)).1).toNat) (0,0,0)).1) - px)) (ey:=(((V.getD (((F.getD i (0,0,0)).1).toNat) (0,0,0)).2.1) - py)) (ez:=(((V.getD (((F.getD i (0,0,0)).1).toNat) (0,0,0)).2.2) - pz)) (fx:=(((V.getD (((F.getD i (0,0,0)).2.1).toNat) (0,0,0)).1) - px)) (fy:=(((V.getD (((F.getD i (0,0,0)).2.1).toNat) (0,0,0)).2.1) - py)) (fz:=(((V.getD (((F.getD i (0,0,0)).2.1).toNat) (0,0,0)).2.2) - pz)) (gx:=(((V.getD (((F.getD i (0,0,0)).2.2).toNat) (0,0,0)).1) - px)) (gy:=(((V.getD (((F.getD i (0,0,0)).2.2).toNat) (0,0,0)).2.1) - py)) (gz:=(((V.getD (((F.getD i (0,0,0)).2.2).toNat) (0,0,0)).2.2) - pz)) (hbex:=by first|rfl|assumption|omega|(exact Nat.le_trans (Big.zha (by omega) (by omega) (by omega) (by omega) (by omega) (by omega) (by omega) (by omega) (by omega)) (by decide))) (hbey:=by first|rfl|assumption|omega|(exact Nat.le_trans (Big.zha (by omega) (by omega) (by omega) (by omega) (by omega) (by omega) (by omega) (by omega) (by omega)) (by decide))) (hbez:=by first|rfl|assumption|omega|(exact Nat.le_trans (Big.zha (by omega) (by omega) (by omega) (by omega) (by omega) (by omega) (by omega) (by omega) (by omega)) (by decide))) (hbfx:=by first|rfl|assumption|omega|(exact Nat.le_trans (Big.zha (by omega) (by omega) (by omega) (by omega) (by omega) (by omega) (by omega) (by omega) (by omega)) (by decide))) (hbfy:=by first|rfl|assumption|omega|(exact Nat.le_trans (Big.zha (by omega) (by omega) (by omega) (by omega) (by omega) (by omega) (by omega) (by omega) (by omega)) (by decide))) (hbfz:=by first|rfl|assumption|omega|(exact Nat.le_trans (Big.zha (by omega) (by omega) (by omega) (by omega) (by omega) (by omega) (by omega) (by omega) (by omega)) (by decide))) (hbgx:=by first|rfl|assumption|omega|(exact Nat.le_trans (Big.zha (by omega) (by omega) (by omega) (by omega) (by omega) (by omega) (by omega) (by omega) (by omega)) (by decide))) (hbgy:=by first|rfl|assumption|omega|(exact Nat.le_trans (Big.zha (by omega) (by omega) (by omega) (by omega) (by omega) (by omega) (by omega) (by omega) (by omega)) (by decide))) (hbgz:=by first|rfl|assumption|omega|(exact Nat.le_trans (Big.zha (by omega) (by omega) (by omega) (by omega) (by omega) (by omega) (by omega) (by omega) (by omega)) (by decide)))) (.n) ?_
    rintro w318 -
    dsimp only [List.append_eq,List.nil_append,List.cons_append]
    refine zY rfl rfl (.c rfl .n) ce83 (zNa (w1:=w318) (x1:=Ms.det ((((V.getD (((F.getD i (0,0,0)).1).toNat) (0,0,0)).1) - px),(((V.getD (((F.getD i (0,0,0)).1).toNat) (0,0,0)).2.1) - py),(((V.getD (((F.getD i (0,0,0)).1).toNat) (0,0,0)).2.2) - pz)) ((((V.getD (((F.getD i (0,0,0)).2.1).toNat) (0,0,0)).1) - px),(((V.getD (((F.getD i (0,0,0)).2.1).toNat) (0,0,0)).2.1) - py),(((V.getD (((F.getD i (0,0,0)).2.1).toNat) (0,0,0)).2.2) - pz)) ((((V.getD (((F.getD i (0,0,0)).2.2).toNat) (0,0,0)).1) - px),(((V.getD (((F.getD i (0,0,0)).2.2).toNat) (0,0,0)).2.1) - py),(((V.getD (((F.getD i (0,0,0)).2.2).toNat) (0,0,0)).2.2) - pz))) (hln:=by first|rfl|assumption|omega|(exact Nat.le_trans (Big.zha (by omega) (by omega) (by omega) (by omega) (by omega) (by omega) (by omega) (by omega) (by omega)) (by decide)))) (.c (j:=0) rfl .n)<|r_pv rfl rfl (zZa rfl rfl)<|zj<|zc<|zI rfl (fun hop=> ?_) (fun hop=> ?_)
    ·
     refine za<|r_pv rfl rfl (zb rfl)<|r_u rfl rfl (zf 0 ty119 rfl rfl (.take (.take (.take (.take (.take (.take (.take (.take (.take .nil))))))))))<|zKa rfl rfl (zJ (enc:=fun z:T9=>[.int .i64 z.1.1,.int .i64 z.1.2.1,.int .i64 z.1.2.2,.int .i64 z.2.1.1,.int .i64 z.2.1.2.1,.int .i64 z.2.1.2.2,.int .i64 z.2.2.1,.int .i64 z.2.2.2.1,.int .i64 z.2.2.2.2]) (ok:=fun z=>(InK .i64 z.1.1∧InK .i64 z.1.2.1∧InK .i64 z.1.2.2)∧(InK .i64 z.2.1.1∧InK .i64 z.2.1.2.1∧InK .i64 z.2.1.2.2)∧(InK .i64 z.2.2.1∧InK .i64 z.2.2.2.1∧InK .i64 z.2.2.2.2)) (h1:=fun _=>rfl) (h2:=fun _=>rfl) (k:=1) Try.underlying118 inf119 rfl (by decide) (by decide) (by decide) (.c (x:=(((((V.getD (((F.getD i (0,0,0)).1).toNat) (0,0,0)).1) - px),(((V.getD (((F.getD i (0,0,0)).1).toNat) (0,0,0)).2.1) - py),(((V.getD (((F.getD i (0,0,0)).1).toNat) (0,0,0)).2.2) - pz)),((((V.getD (((F.getD i (0,0,0)).2.1).toNat) (0,0,0)).1) - px),(((V.getD (((F.getD i (0,0,0)).2.1).toNat) (0,0,0)).2.1) - py),(((V.getD (((F.getD i (0,0,0)).2.1).toNat) (0,0,0)).2.2) - pz)),((((V.getD (((F.getD i (0,0,0)).2.2).toNat) (0,0,0)).1) - px),(((V.getD (((F.getD i (0,0,0)).2.2).toNat) (0,0,0)).2.1) - py),(((V.getD (((F.getD i (0,0,0)).2.2).toNat) (0,0,0)).2.2) - pz)))) rfl rfl (fun _ _=>by exact ⟨⟨zo.2 (by first|omega|decide|(dsimp only;omega)),zo.2 (by first|omega|decide|(dsimp only;omega)),zo.2 (by first|omega|decide|(dsimp only;omega))⟩,⟨zo.2 (by first|omega|decide|(dsimp only;omega)),zo.2 (by first|omega|decide|(dsimp only;omega)),zo.2 (by first|omega|decide|(dsimp only;omega))⟩,⟨zo.2 (by first|omega|decide|(dsimp only;omega)),zo.2 (by first|omega|decide|(dsimp only;omega)),zo.2 (by first|omega|decide|(dsimp only;omega))⟩⟩) .n)) (fun b19 _=> ?_)
     refine zEa 0 rfl .z<|zJa 3 rfl rfl rfl (zsa 0 rfl Try.underlying118 inf119 (by decide) rfl rfl (by first|rfl|assumption|(simp_all;done)|omega) rfl (by first|rfl|assumption|(simp_all;done)|omega) (by omega) (by omega)) (fun _=>(.s (.s (.s .z)))) ?_
     rintro ⟨p20,c21⟩ -
     dsimp only [List.append_eq,List.nil_append,List.cons_append]
     refine r_pv rfl rfl (ze rfl)<|zj<|zA<|zc<|za<|r_pv rfl rfl (zC (z:=(((i+1):Nat):Int)) rfl rfl (w64 (by omega)))<|r_pv rfl rfl (zb rfl)<|zj<|zga ((i+1),p20,c21) (show (i+1)≤nf∧(Ms.tris V (F.take (i+1)) (px,py,pz)).any Ms.hldB=false from by exact ⟨by omega,Ms.hld_not (by omega) hno hon⟩) (by show nf - (i+1)<nf - i;omega) ((.e rfl (by dsimp only;rw [Ms.opn_yes (V:=V) (F:=F) (p:=(px,py,pz)) (i:=i) (by omega) hop];simp) (.of rfl)):SubM _ _) (ho:=((.e (i:=3) rfl (by dsimp only;rw [Ms.opn_yes (V:=V) (F:=F) (p:=(px,py,pz)) (i:=i) (by omega) hop];rfl) (.of [3,3] rfl)):PickO _ _ _)) ((.of [2,3] rfl):SelR _ _ _)
    ·
     refine zw<|zA<|zc<|za<|r_pv rfl rfl (zC (z:=(((i+1):Nat):Int)) rfl rfl (w64 (by omega)))<|r_pv rfl rfl (zb rfl)<|zj<|zga ((i+1),p7,c7) (show (i+1)≤nf∧(Ms.tris V (F.take (i+1)) (px,py,pz)).any Ms.hldB=false from by exact ⟨by omega,Ms.hld_not (by omega) hno hon⟩) (by show nf - (i+1)<nf - i;omega) ((.e rfl (by dsimp only;rw [Ms.opn_not (V:=V) (F:=F) (p:=(px,py,pz)) (i:=i) (by omega) hop]) (.of rfl)):SubM _ _) (ho:=((.e (i:=2) rfl (by dsimp only;rw [Ms.opn_not (V:=V) (F:=F) (p:=(px,py,pz)) (i:=i) (by omega) hop]) (.of [2,2] rfl)):PickO _ _ _)) ((.of [1,2] rfl):SelR _ _ _)
  refine zL (X:=Nat) (k':=1) (L':=(lb 27 67108863)) (fun u25_1=>([(9,.pointer (some ⟨u25_1,0,none⟩)),(45,.agg #[.int .i64 (qd7 - px),.int .i64 (qd8 - py),.int .i64 (qd9 - pz),.int .i64 (qd4 - px),.int .i64 (qd5 - py),.int .i64 (qd6 - pz),.int .i64 (qd1 - px),.int .i64 (qd2 - py),.int .i64 (qd3 - pz)]),(6,.slice p7 ((Ms.opn V (F.take i) (px,py,pz)).length) c7),(17,.int .i64 ((i:Nat):Int)),(16,.int .i64 ((nf:Nat):Int)),(15,.slice pf nf cf),(3,.pointer (some ⟨b2,0,none⟩)),(2,.pointer (some ⟨b1,0,none⟩))],[boxA u25_1 119 [.int .i64 0,.int .i64 0,.int .i64 0,.int .i64 0,.int .i64 0,.int .i64 0,.int .i64 0,.int .i64 0,.int .i64 0]],[boxA b8 44 [.int .i64 ((F.getD i (0,0,0)).1),.int .i64 ((F.getD i (0,0,0)).2.1),.int .i64 ((F.getD i (0,0,0)).2.2)],rowA 119 (rI9 .i64) p7 c7 (Ms.opn V (F.take i) (px,py,pz)),boxA b2 42 [.int .i64 px,.int .i64 py,.int .i64 pz],boxA b1 25 [.slice pv nv cv,.slice pf nf cf]],[slF (rI3 .i64) pv cv V,slF (rI3 .i64) pf cf F])) ?_ (fun hD1=> ?_)
  ·
   rintro u25_1
   dsimp only
   refine zE 26 (by kernel_rfl) ?_
   ·
    refine zM (by kernel_rfl) rfl rfl rfl rfl rfl sz119 rfl (.take (.take (.take (.take (.take (.take (.take (.take (.take .nil))))))))) ?_
    exact zp (hD0 u25_1) (by kernel_rfl) ((.of rfl):SubM _ _) .rfl .rfl ((.of [0,1] rfl):SelR _ _ _)
  refine zL (X:=Unit) (k':=2) (L':=(lb 27 33554431)) (fun _=>([(45,.agg #[.int .i64 (qd7 - px),.int .i64 (qd8 - py),.int .i64 (qd9 - pz),.int .i64 (qd4 - px),.int .i64 (qd5 - py),.int .i64 (qd6 - pz),.int .i64 (qd1 - px),.int .i64 (qd2 - py),.int .i64 (qd3 - pz)]),(6,.slice p7 ((Ms.opn V (F.take i) (px,py,pz)).length) c7),(17,.int .i64 ((i:Nat):Int)),(16,.int .i64 ((nf:Nat):Int)),(15,.slice pf nf cf),(3,.pointer (some ⟨b2,0,none⟩)),(2,.pointer (some ⟨b1,0,none⟩))],[],[boxA b8 44 [.int .i64 ((F.getD i (0,0,0)).1),.int .i64 ((F.getD i (0,0,0)).2.1),.int .i64 ((F.getD i (0,0,0)).2.2)],rowA 119 (rI9 .i64) p7 c7 (Ms.opn V (F.take i) (px,py,pz)),boxA b2 42 [.int .i64 px,.int .i64 py,.int .i64 pz],boxA b1 25 [.slice pv nv cv,.slice pf nf cf]],[slF (rI3 .i64) pv cv V,slF (rI3 .i64) pf cf F])) ?_ (fun hD2=> ?_)
  ·
   rintro ⟨⟩
   dsimp only
   refine zE 25 (by kernel_rfl) ?_
   ·
    refine zO rfl rfl rfl rfl (zn zr119 rfl) (fun u25_1 _=> ?_)
    exact zp (hD1 u25_1) (by kernel_rfl) ((.of rfl):SubM _ _) .rfl .rfl ((.of [0,1] rfl):SelR _ _ _)
  refine zL (X:=Nat) (k':=3) (L':=(lb 27 41943039)) (fun u25_1=>([(9,.pointer (some ⟨u25_1,0,none⟩)),(36,.agg #[.int .i64 (qd4 - px),.int .i64 (qd5 - py),.int .i64 (qd6 - pz)]),(28,.agg #[.int .i64 (qd7 - px),.int .i64 (qd8 - py),.int .i64 (qd9 - pz)]),(43,.agg #[.int .i64 px,.int .i64 py,.int .i64 pz]),(42,.agg #[.int .i64 qd1,.int .i64 qd2,.int .i64 qd3]),(6,.slice p7 ((Ms.opn V (F.take i) (px,py,pz)).length) c7),(17,.int .i64 ((i:Nat):Int)),(16,.int .i64 ((nf:Nat):Int)),(15,.slice pf nf cf),(3,.pointer (some ⟨b2,0,none⟩)),(2,.pointer (some ⟨b1,0,none⟩))],[boxA u25_1 119 [.int .i64 0,.int .i64 0,.int .i64 0,.int .i64 0,.int .i64 0,.int .i64 0,.int .i64 0,.int .i64 0,.int .i64 0]],[boxA b8 44 [.int .i64 ((F.getD i (0,0,0)).1),.int .i64 ((F.getD i (0,0,0)).2.1),.int .i64 ((F.getD i (0,0,0)).2.2)],rowA 119 (rI9 .i64) p7 c7 (Ms.opn V (F.take i) (px,py,pz)),boxA b2 42 [.int .i64 px,.int .i64 py,.int .i64 pz],boxA b1 25 [.slice pv nv cv,.slice pf nf cf]],[slF (rI3 .i64) pv cv V,slF (rI3 .i64) pf cf F])) ?_ (fun hD3=> ?_)
  ·
   rintro u25_1
   dsimp only
   refine zE 23 (by kernel_rfl) ?_
   ·
    refine zqa rfl rfl rfl rfl (.c rfl (.c rfl .n)) ce64 (zKb (ex:=qd1) (ey:=qd2) (ez:=qd3) (fx:=px) (fy:=py) (fz:=pz) (hbex:=by first|rfl|assumption|omega|(exact Nat.le_trans (Big.zha (by omega) (by omega) (by omega) (by omega) (by omega) (by omega) (by omega) (by omega) (by omega)) (by decide))) (hbey:=by first|rfl|assumption|omega|(exact Nat.le_trans (Big.zha (by omega) (by omega) (by omega) (by omega) (by omega) (by omega) (by omega) (by omega) (by omega)) (by decide))) (hbez:=by first|rfl|assumption|omega|(exact Nat.le_trans (Big.zha (by omega) (by omega) (by omega) (by omega) (by omega) (by omega) (by omega) (by omega) (by omega)) (by decide))) (hbfx:=by first|rfl|assumption|omega|(exact Nat.le_trans (Big.zha (by omega) (by omega) (by omega) (by omega) (by omega) (by omega) (by omega) (by omega) (by omega)) (by decide))) (hbfy:=by first|rfl|assumption|omega|(exact Nat.le_trans (Big.zha (by omega) (by omega) (by omega) (by omega) (by omega) (by omega) (by omega) (by omega) (by omega)) (by decide))) (hbfz:=by first|rfl|assumption|omega|(exact Nat.le_trans (Big.zha (by omega) (by omega) (by omega) (by omega) (by omega) (by omega) (by omega) (by omega) (by omega)) (by decide)))) (.n)<|d_pv 24 rfl rfl (by kernel_rfl) (by kernel_rfl) rfl rfl (zK zr119 rfl Try.underlying119 sz44 (.c rfl (.c rfl (.c rfl .n))) (.c rfl rfl rfl (.take (.take (.take .nil))) (.c rfl rfl rfl (.skip (.skip (.skip (.take (.take (.take .nil)))))) (.c rfl rfl rfl (.skip (.skip (.skip (.skip (.skip (.skip (.take (.take (.take .nil))))))))) .n)))) ?_
    exact zp (hD1 u25_1) (by kernel_rfl) ((.of rfl):SubM _ _) .rfl .rfl ((.of [0,1] rfl):SelR _ _ _)
  refine zL (X:=Unit) (k':=4) (L':=(lb 27 8388607)) (fun _=>([(36,.agg #[.int .i64 (qd4 - px),.int .i64 (qd5 - py),.int .i64 (qd6 - pz)]),(28,.agg #[.int .i64 (qd7 - px),.int .i64 (qd8 - py),.int .i64 (qd9 - pz)]),(43,.agg #[.int .i64 px,.int .i64 py,.int .i64 pz]),(42,.agg #[.int .i64 qd1,.int .i64 qd2,.int .i64 qd3]),(6,.slice p7 ((Ms.opn V (F.take i) (px,py,pz)).length) c7),(17,.int .i64 ((i:Nat):Int)),(16,.int .i64 ((nf:Nat):Int)),(15,.slice pf nf cf),(3,.pointer (some ⟨b2,0,none⟩)),(2,.pointer (some ⟨b1,0,none⟩))],[],[boxA b8 44 [.int .i64 ((F.getD i (0,0,0)).1),.int .i64 ((F.getD i (0,0,0)).2.1),.int .i64 ((F.getD i (0,0,0)).2.2)],rowA 119 (rI9 .i64) p7 c7 (Ms.opn V (F.take i) (px,py,pz)),boxA b2 42 [.int .i64 px,.int .i64 py,.int .i64 pz],boxA b1 25 [.slice pv nv cv,.slice pf nf cf]],[slF (rI3 .i64) pv cv V,slF (rI3 .i64) pf cf F])) ?_ (fun hD4=> ?_)
  ·
   rintro ⟨⟩
   dsimp only
   refine zMa 23 25 (by kernel_rfl) ?_ ?_
   ·
    refine zqa rfl rfl rfl rfl (.c rfl (.c rfl .n)) ce64 (zKb (ex:=qd1) (ey:=qd2) (ez:=qd3) (fx:=px) (fy:=py) (fz:=pz) (hbex:=by first|rfl|assumption|omega|(exact Nat.le_trans (Big.zha (by omega) (by omega) (by omega) (by omega) (by omega) (by omega) (by omega) (by omega) (by omega)) (by decide))) (hbey:=by first|rfl|assumption|omega|(exact Nat.le_trans (Big.zha (by omega) (by omega) (by omega) (by omega) (by omega) (by omega) (by omega) (by omega) (by omega)) (by decide))) (hbez:=by first|rfl|assumption|omega|(exact Nat.le_trans (Big.zha (by omega) (by omega) (by omega) (by omega) (by omega) (by omega) (by omega) (by omega) (by omega)) (by decide))) (hbfx:=by first|rfl|assumption|omega|(exact Nat.le_trans (Big.zha (by omega) (by omega) (by omega) (by omega) (by omega) (by omega) (by omega) (by omega) (by omega)) (by decide))) (hbfy:=by first|rfl|assumption|omega|(exact Nat.le_trans (Big.zha (by omega) (by omega) (by omega) (by omega) (by omega) (by omega) (by omega) (by omega) (by omega)) (by decide))) (hbfz:=by first|rfl|assumption|omega|(exact Nat.le_trans (Big.zha (by omega) (by omega) (by omega) (by omega) (by omega) (by omega) (by omega) (by omega) (by omega)) (by decide)))) (.n)<|d_pv 24 rfl rfl (by kernel_rfl) (by kernel_rfl) rfl rfl (zK zr119 rfl Try.underlying119 sz44 (.c rfl (.c rfl (.c rfl .n))) (.c rfl rfl rfl (.take (.take (.take .nil))) (.c rfl rfl rfl (.skip (.skip (.skip (.take (.take (.take .nil)))))) (.c rfl rfl rfl (.skip (.skip (.skip (.skip (.skip (.skip (.take (.take (.take .nil))))))))) .n)))) ?_
    exact zp (hD2 ()) (by kernel_rfl) ((.of rfl):SubM _ _) .rfl .rfl ((.of [0,1] rfl):SelR _ _ _)
   ·
    refine zO rfl rfl rfl rfl (zn zr119 rfl) (fun u25_1 _=> ?_)
    exact zp (hD3 u25_1) (by kernel_rfl) ((.of rfl):SubM _ _) .rfl .rfl ((.of [0,1] rfl):SelR _ _ _)
  refine zL (X:=Nat) (k':=4) (L':=(lb 27 41910271)) (fun u25_1=>([(9,.pointer (some ⟨u25_1,0,none⟩)),(28,.agg #[.int .i64 (qd7 - px),.int .i64 (qd8 - py),.int .i64 (qd9 - pz)]),(43,.agg #[.int .i64 px,.int .i64 py,.int .i64 pz]),(42,.agg #[.int .i64 qd1,.int .i64 qd2,.int .i64 qd3]),(35,.agg #[.int .i64 px,.int .i64 py,.int .i64 pz]),(34,.agg #[.int .i64 qd4,.int .i64 qd5,.int .i64 qd6]),(6,.slice p7 ((Ms.opn V (F.take i) (px,py,pz)).length) c7),(17,.int .i64 ((i:Nat):Int)),(16,.int .i64 ((nf:Nat):Int)),(15,.slice pf nf cf),(3,.pointer (some ⟨b2,0,none⟩)),(2,.pointer (some ⟨b1,0,none⟩))],[boxA u25_1 119 [.int .i64 0,.int .i64 0,.int .i64 0,.int .i64 0,.int .i64 0,.int .i64 0,.int .i64 0,.int .i64 0,.int .i64 0]],[boxA b8 44 [.int .i64 ((F.getD i (0,0,0)).1),.int .i64 ((F.getD i (0,0,0)).2.1),.int .i64 ((F.getD i (0,0,0)).2.2)],rowA 119 (rI9 .i64) p7 c7 (Ms.opn V (F.take i) (px,py,pz)),boxA b2 42 [.int .i64 px,.int .i64 py,.int .i64 pz],boxA b1 25 [.slice pv nv cv,.slice pf nf cf]],[slF (rI3 .i64) pv cv V,slF (rI3 .i64) pf cf F])) ?_ (fun hD5=> ?_)
  ·
   rintro u25_1
   dsimp only
   refine zE 15 (by kernel_rfl) ?_
   ·
    refine zqa rfl rfl rfl rfl (.c rfl (.c rfl .n)) ce64 (zKb (ex:=qd4) (ey:=qd5) (ez:=qd6) (fx:=px) (fy:=py) (fz:=pz) (hbex:=by first|rfl|assumption|omega|(exact Nat.le_trans (Big.zha (by omega) (by omega) (by omega) (by omega) (by omega) (by omega) (by omega) (by omega) (by omega)) (by decide))) (hbey:=by first|rfl|assumption|omega|(exact Nat.le_trans (Big.zha (by omega) (by omega) (by omega) (by omega) (by omega) (by omega) (by omega) (by omega) (by omega)) (by decide))) (hbez:=by first|rfl|assumption|omega|(exact Nat.le_trans (Big.zha (by omega) (by omega) (by omega) (by omega) (by omega) (by omega) (by omega) (by omega) (by omega)) (by decide))) (hbfx:=by first|rfl|assumption|omega|(exact Nat.le_trans (Big.zha (by omega) (by omega) (by omega) (by omega) (by omega) (by omega) (by omega) (by omega) (by omega)) (by decide))) (hbfy:=by first|rfl|assumption|omega|(exact Nat.le_trans (Big.zha (by omega) (by omega) (by omega) (by omega) (by omega) (by omega) (by omega) (by omega) (by omega)) (by decide))) (hbfz:=by first|rfl|assumption|omega|(exact Nat.le_trans (Big.zha (by omega) (by omega) (by omega) (by omega) (by omega) (by omega) (by omega) (by omega) (by omega)) (by decide)))) (.n) ?_
    exact zp (hD3 u25_1) (by kernel_rfl) ((.of rfl):SubM _ _) .rfl .rfl ((.of [0,1] rfl):SelR _ _ _)
  refine zL (X:=Unit) (k':=5) (L':=(lb 27 8355839)) (fun _=>([(28,.agg #[.int .i64 (qd7 - px),.int .i64 (qd8 - py),.int .i64 (qd9 - pz)]),(43,.agg #[.int .i64 px,.int .i64 py,.int .i64 pz]),(42,.agg #[.int .i64 qd1,.int .i64 qd2,.int .i64 qd3]),(35,.agg #[.int .i64 px,.int .i64 py,.int .i64 pz]),(34,.agg #[.int .i64 qd4,.int .i64 qd5,.int .i64 qd6]),(6,.slice p7 ((Ms.opn V (F.take i) (px,py,pz)).length) c7),(17,.int .i64 ((i:Nat):Int)),(16,.int .i64 ((nf:Nat):Int)),(15,.slice pf nf cf),(3,.pointer (some ⟨b2,0,none⟩)),(2,.pointer (some ⟨b1,0,none⟩))],[],[boxA b8 44 [.int .i64 ((F.getD i (0,0,0)).1),.int .i64 ((F.getD i (0,0,0)).2.1),.int .i64 ((F.getD i (0,0,0)).2.2)],rowA 119 (rI9 .i64) p7 c7 (Ms.opn V (F.take i) (px,py,pz)),boxA b2 42 [.int .i64 px,.int .i64 py,.int .i64 pz],boxA b1 25 [.slice pv nv cv,.slice pf nf cf]],[slF (rI3 .i64) pv cv V,slF (rI3 .i64) pf cf F])) ?_ (fun hD6=> ?_)
  ·
   rintro ⟨⟩
   dsimp only
   refine zMa 15 25 (by kernel_rfl) ?_ ?_
   ·
    refine zqa rfl rfl rfl rfl (.c rfl (.c rfl .n)) ce64 (zKb (ex:=qd4) (ey:=qd5) (ez:=qd6) (fx:=px) (fy:=py) (fz:=pz) (hbex:=by first|rfl|assumption|omega|(exact Nat.le_trans (Big.zha (by omega) (by omega) (by omega) (by omega) (by omega) (by omega) (by omega) (by omega) (by omega)) (by decide))) (hbey:=by first|rfl|assumption|omega|(exact Nat.le_trans (Big.zha (by omega) (by omega) (by omega) (by omega) (by omega) (by omega) (by omega) (by omega) (by omega)) (by decide))) (hbez:=by first|rfl|assumption|omega|(exact Nat.le_trans (Big.zha (by omega) (by omega) (by omega) (by omega) (by omega) (by omega) (by omega) (by omega) (by omega)) (by decide))) (hbfx:=by first|rfl|assumption|omega|(exact Nat.le_trans (Big.zha (by omega) (by omega) (by omega) (by omega) (by omega) (by omega) (by omega) (by omega) (by omega)) (by decide))) (hbfy:=by first|rfl|assumption|omega|(exact Nat.le_trans (Big.zha (by omega) (by omega) (by omega) (by omega) (by omega) (by omega) (by omega) (by omega) (by omega)) (by decide))) (hbfz:=by first|rfl|assumption|omega|(exact Nat.le_trans (Big.zha (by omega) (by omega) (by omega) (by omega) (by omega) (by omega) (by omega) (by omega) (by omega)) (by decide)))) (.n) ?_
    exact zp (hD4 ()) (by kernel_rfl) ((.of rfl):SubM _ _) .rfl .rfl ((.of [0,1] rfl):SelR _ _ _)
   ·
    refine zO rfl rfl rfl rfl (zn zr119 rfl) (fun u25_1 _=> ?_)
    exact zp (hD5 u25_1) (by kernel_rfl) ((.of rfl):SubM _ _) .rfl .rfl ((.of [0,1] rfl):SelR _ _ _)
  refine zL (X:=Nat) (k':=5) (L':=(lb 27 41910143)) (fun u25_1=>([(9,.pointer (some ⟨u25_1,0,none⟩)),(43,.agg #[.int .i64 px,.int .i64 py,.int .i64 pz]),(42,.agg #[.int .i64 qd1,.int .i64 qd2,.int .i64 qd3]),(35,.agg #[.int .i64 px,.int .i64 py,.int .i64 pz]),(34,.agg #[.int .i64 qd4,.int .i64 qd5,.int .i64 qd6]),(27,.agg #[.int .i64 px,.int .i64 py,.int .i64 pz]),(26,.agg #[.int .i64 qd7,.int .i64 qd8,.int .i64 qd9]),(6,.slice p7 ((Ms.opn V (F.take i) (px,py,pz)).length) c7),(17,.int .i64 ((i:Nat):Int)),(16,.int .i64 ((nf:Nat):Int)),(15,.slice pf nf cf),(3,.pointer (some ⟨b2,0,none⟩)),(2,.pointer (some ⟨b1,0,none⟩))],[boxA u25_1 119 [.int .i64 0,.int .i64 0,.int .i64 0,.int .i64 0,.int .i64 0,.int .i64 0,.int .i64 0,.int .i64 0,.int .i64 0]],[boxA b8 44 [.int .i64 ((F.getD i (0,0,0)).1),.int .i64 ((F.getD i (0,0,0)).2.1),.int .i64 ((F.getD i (0,0,0)).2.2)],rowA 119 (rI9 .i64) p7 c7 (Ms.opn V (F.take i) (px,py,pz)),boxA b2 42 [.int .i64 px,.int .i64 py,.int .i64 pz],boxA b1 25 [.slice pv nv cv,.slice pf nf cf]],[slF (rI3 .i64) pv cv V,slF (rI3 .i64) pf cf F])) ?_ (fun hD7=> ?_)
  ·
   rintro u25_1
   dsimp only
   refine zE 7 (by kernel_rfl) ?_
   ·
    refine zqa rfl rfl rfl rfl (.c rfl (.c rfl .n)) ce64 (zKb (ex:=qd7) (ey:=qd8) (ez:=qd9) (fx:=px) (fy:=py) (fz:=pz) (hbex:=by first|rfl|assumption|omega|(exact Nat.le_trans (Big.zha (by omega) (by omega) (by omega) (by omega) (by omega) (by omega) (by omega) (by omega) (by omega)) (by decide))) (hbey:=by first|rfl|assumption|omega|(exact Nat.le_trans (Big.zha (by omega) (by omega) (by omega) (by omega) (by omega) (by omega) (by omega) (by omega) (by omega)) (by decide))) (hbez:=by first|rfl|assumption|omega|(exact Nat.le_trans (Big.zha (by omega) (by omega) (by omega) (by omega) (by omega) (by omega) (by omega) (by omega) (by omega)) (by decide))) (hbfx:=by first|rfl|assumption|omega|(exact Nat.le_trans (Big.zha (by omega) (by omega) (by omega) (by omega) (by omega) (by omega) (by omega) (by omega) (by omega)) (by decide))) (hbfy:=by first|rfl|assumption|omega|(exact Nat.le_trans (Big.zha (by omega) (by omega) (by omega) (by omega) (by omega) (by omega) (by omega) (by omega) (by omega)) (by decide))) (hbfz:=by first|rfl|assumption|omega|(exact Nat.le_trans (Big.zha (by omega) (by omega) (by omega) (by omega) (by omega) (by omega) (by omega) (by omega) (by omega)) (by decide)))) (.n) ?_
    exact zp (hD5 u25_1) (by kernel_rfl) ((.of rfl):SubM _ _) .rfl .rfl ((.of [0,1] rfl):SelR _ _ _)
  refine zMa 7 25 (by kernel_rfl) ?_ ?_
  ·
   refine zqa rfl rfl rfl rfl (.c rfl (.c rfl .n)) ce64 (zKb (ex:=qd7) (ey:=qd8) (ez:=qd9) (fx:=px) (fy:=py) (fz:=pz) (hbex:=by first|rfl|assumption|omega|(exact Nat.le_trans (Big.zha (by omega) (by omega) (by omega) (by omega) (by omega) (by omega) (by omega) (by omega) (by omega)) (by decide))) (hbey:=by first|rfl|assumption|omega|(exact Nat.le_trans (Big.zha (by omega) (by omega) (by omega) (by omega) (by omega) (by omega) (by omega) (by omega) (by omega)) (by decide))) (hbez:=by first|rfl|assumption|omega|(exact Nat.le_trans (Big.zha (by omega) (by omega) (by omega) (by omega) (by omega) (by omega) (by omega) (by omega) (by omega)) (by decide))) (hbfx:=by first|rfl|assumption|omega|(exact Nat.le_trans (Big.zha (by omega) (by omega) (by omega) (by omega) (by omega) (by omega) (by omega) (by omega) (by omega)) (by decide))) (hbfy:=by first|rfl|assumption|omega|(exact Nat.le_trans (Big.zha (by omega) (by omega) (by omega) (by omega) (by omega) (by omega) (by omega) (by omega) (by omega)) (by decide))) (hbfz:=by first|rfl|assumption|omega|(exact Nat.le_trans (Big.zha (by omega) (by omega) (by omega) (by omega) (by omega) (by omega) (by omega) (by omega) (by omega)) (by decide)))) (.n) ?_
   exact zp (hD6 ()) (by kernel_rfl) ((.of rfl):SubM _ _) .rfl .rfl ((.of [0,1] rfl):SelR _ _ _)
  ·
   refine zO rfl rfl rfl rfl (zn zr119 rfl) (fun u25_1 _=> ?_)
   exact zp (hD7 u25_1) (by kernel_rfl) ((.of rfl):SubM _ _) .rfl .rfl ((.of [0,1] rfl):SelR _ _ _)
 ·
  refine zaa<|zk<|zk<|zt<|zc<|zh ?_
  have hin:i=nf:=by omega
  have e22:(F.take i)=F:=by rw [List.take_of_length_le (by omega)]
  rw [e22]
  refine ztd 0 rfl .z<|za<|r_pv rfl rfl (ze rfl)<|zj<|zc<|zr<|zua (X:=Nat) (fun x:Nat=>1≤x∧x≤Ms.kst (Ms.opn V F (px,py,pz))) (fun x=>[(10,.int .i64 ((x:Nat):Int)),(6,.slice p7 ((Ms.opn V F (px,py,pz)).length) c7)]) (fun x=>[boxA b2 42 [.int .i64 px,.int .i64 py,.int .i64 pz],boxA b1 25 [.slice pv nv cv,.slice pf nf cf]]) (fun x=>[slF (rI9 .i64) p7 c7 (Ms.opn V F (px,py,pz)),slF (rI3 .i64) pv cv V,slF (rI3 .i64) pf cf F]) (fun x:Nat=>Ms.kst (Ms.opn V F (px,py,pz)) - x) 1 (show 1≤1∧1≤Ms.kst (Ms.opn V F (px,py,pz)) from by exact ⟨Nat.le_refl _,Ms.kst_one⟩) ((.e rfl (by first|rfl|(congr 1;omega)|simp_all) (.c rfl .n)):SubM _ _) (ho:=((.of [1,1] rfl):PickO _ _ _)) ((.of [0,1,2] rfl):SelR _ _ _) ?_
  rintro k hI
  replace hI:1≤k∧k≤Ms.kst (Ms.opn V F (px,py,pz)):=hI
  try dsimp only
  obtain ⟨hk1,hk2⟩:=hI
  obtain ⟨hkk,hkk2⟩:=Ms.kst_le hg hk2
  refine zh<|zr<|zh<|za<|r_pv rfl rfl (zb rfl)<|r_pv rfl rfl (zb rfl)<|r_pv rfl rfl (zb rfl)<|r_pv rfl rfl (zb rfl)<|r_pv rfl rfl (znb (z:=(((k*k):Nat):Int)) rfl rfl (w64 (by omega)))<|r_pv rfl rfl (zK zr44 rfl Try.underlying44 sz3 (.c rfl (.c rfl (.c rfl .n))) (.c rfl rfl rfl (.take .nil) (.c rfl rfl rfl (.skip (.take .nil)) (.c rfl rfl rfl (.skip (.skip (.take .nil))) .n))))<|zY rfl rfl (.c rfl (.c rfl .n)) ce84 (zrd (p:=p7) (n:=(Ms.opn V F (px,py,pz)).length) (cap:=c7) (l:=Ms.opn V F (px,py,pz)) (dx:=1) (dy:=((k:Nat):Int)) (dz:=(((k*k):Nat):Int)) (hn:=by first|rfl|assumption|omega|(exact Nat.le_trans (Big.zha (by omega) (by omega) (by omega) (by omega) (by omega) (by omega) (by omega) (by omega) (by omega)) (by decide))) (hnb:=by first|rfl|assumption|omega|(exact Nat.le_trans (Big.zha (by omega) (by omega) (by omega) (by omega) (by omega) (by omega) (by omega) (by omega) (by omega)) (by decide))) (hl9:=by first|rfl|assumption|omega|(exact Nat.le_trans (Big.zha (by omega) (by omega) (by omega) (by omega) (by omega) (by omega) (by omega) (by omega) (by omega)) (by decide))) (hbdx:=by first|rfl|assumption|omega|(exact Nat.le_trans (Big.zha (by omega) (by omega) (by omega) (by omega) (by omega) (by omega) (by omega) (by omega) (by omega)) (by decide))) (hbdy:=by first|rfl|assumption|omega|(exact Nat.le_trans (Big.zha (by omega) (by omega) (by omega) (by omega) (by omega) (by omega) (by omega) (by omega) (by omega)) (by decide))) (hbdz:=by first|rfl|assumption|omega|(exact Nat.le_trans (Big.zha (by omega) (by omega) (by omega) (by omega) (by omega) (by omega) (by omega) (by omega) (by omega)) (by decide)))) (.c (j:=0) rfl .n)<|r_pv rfl rfl (zb rfl)<|r_pv rfl rfl (zja rfl rfl)<|r_pv rfl rfl (zja rfl rfl)<|r_pv rfl rfl (ze rfl)<|r_pv rfl rfl (ze rfl)<|zj<|zc<|zh<|za<|r_pv rfl rfl (zb rfl)<|zj<|zc<|zGa rfl (fun hok=> ?_) (fun hok=> ?_)
  ·
   refine zh<|za<|r_pv rfl rfl (zb rfl)<|r_pv rfl rfl (ze rfl)<|r_pv rfl rfl (ze rfl)<|zj<|zc<|zP<|zq<|zl<|zl<|zq ?_
   have hgo:=Ms.crB_true hok
   have hcr:=(Ms.crN_good hgo).1
   have hkd:=Ms.k_done hk1 hk2 hgo
   obtain ⟨hv1,hv2⟩:=Ms.wd_go (show (Ms.tris V F (px,py,pz)).any Ms.hldB=false by have h8:=hno;rwa [hin,List.take_of_length_le (by omega)] at h8)
   exact zmb Try.results42 () trivial (zz rfl) (zz rfl) (by rw [hv1,hv2,←hkd];exact congrArg (fun z=>Value.tuple #[.int .i64 z,.bool true]) hcr.symm) (ho:=(.n:PickO _ _ _)) (.n:SelR _ _ _)
  ·
   refine zw<|zA<|zc<|za<|r_pv rfl rfl (zb rfl)<|r_pv rfl rfl (zC (z:=(((k+1):Nat):Int)) rfl rfl (w64 (by omega)))<|r_pv rfl rfl (ze rfl)<|zj<|zga (k+1) (show 1≤(k+1)∧(k+1)≤Ms.kst (Ms.opn V F (px,py,pz)) from by have hm:=Ms.k_more hk2 (Ms.crB_false hok);exact ⟨by omega,hm⟩) (by have hm:=Ms.k_more hk2 (Ms.crB_false hok);show _ - (k+1)<_ - k;omega) ((.e rfl (by first|rfl|(congr 1;omega)|simp_all) (.c rfl .n)):SubM _ _) (ho:=((.of [0,0] rfl):PickO _ _ _)) ((.of [0,1,2] rfl):SelR _ _ _)
end Go.Proofs.Ytalfgjpbbongcaa.Sp
