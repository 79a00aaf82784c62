/- Lemmas on the walk and plain lemmas that the claim of this folder uses; each states its own conditions. Lines were printed by a program of ours. -/
import Derived.Test.YtefbbhiaalcjfaaZ6D
set_option linter.unusedVariables false
set_option linter.unusedSimpArgs false
set_option linter.unusedSectionVars false
namespace Go.Proofs.Ytefbbhiaalcjfaa.Sp
open Go
set_option linter.unusedVariables false
set_option maxRecDepth 100000
set_option maxHeartbeats 1000000
theorem zzb {ar:Int} {le:Int} {tp:Int} {rt:Int} {bt:Int} {sx:Int} {sy:Int} {xx:Int} {xy:Int} {yy:Int} {ms:Int} {mx:Int} {my:Int}:Con Try.prog 23 [.agg #[.int .i64 ar,.int .i64 le,.int .i64 tp,.int .i64 rt,.int .i64 bt,.int .i64 sx,.int .i64 sy,.int .i64 xx,.int .i64 xy,.int .i64 yy,.int .i64 ms,.int .i64 mx,.int .i64 my]] [] [] (Y:=Wd×Wd×Wd×Wd×Wd×Wd) (fun y=>True) (fun y=> .tuple #[.agg #[y.1.b,y.1.l,y.2.1.b,y.2.1.l],.agg #[y.2.2.1.b,y.2.2.1.l,y.2.2.2.1.b,y.2.2.2.1.l],.agg #[y.2.2.2.2.1.b,y.2.2.2.2.1.l,y.2.2.2.2.2.b,y.2.2.2.2.2.l],.int .i64 (if Bl.ok ar le tp rt bt sx sy xx xy yy ms mx my then 0 else 1)]) (fun y=>[]) (fun y=>[qF (decide (Bl.ok ar le tp rt bt sx sy xx xy yy ms mx my)) y.1 y.2.1 (if Bl.ok ar le tp rt bt sx sy xx xy yy ms mx my then Rat.divInt (xx*ar - sx*sx) (ar*ar) else 0),qF (decide (Bl.ok ar le tp rt bt sx sy xx xy yy ms mx my)) y.2.2.1 y.2.2.2.1 (if Bl.ok ar le tp rt bt sx sy xx xy yy ms mx my then Rat.divInt (xy*ar - sx*sy) (ar*ar) else 0),qF (decide (Bl.ok ar le tp rt bt sx sy xx xy yy ms mx my)) y.2.2.2.2.1 y.2.2.2.2.2 (if Bl.ok ar le tp rt bt sx sy xx xy yy ms mx my then Rat.divInt (yy*ar - sy*sy) (ar*ar) else 0)]):=by
 refine zr Try.func23 rfl rfl rfl (fun c=> ?_)
 show RunC _ _ _ _ _ [(0,.agg #[.int .i64 ar,.int .i64 le,.int .i64 tp,.int .i64 rt,.int .i64 bt,.int .i64 sx,.int .i64 sy,.int .i64 xx,.int .i64 xy,.int .i64 yy,.int .i64 ms,.int .i64 mx,.int .i64 my])] [] []
 refine zi<|zc<|zP rfl rfl (zW rfl rfl) (fun b1=> ?_)
 refine zP rfl rfl (zB zr45 rfl) (fun b2=> ?_)
 refine zP rfl rfl (zB zr45 rfl) (fun b3=> ?_)
 refine zP rfl rfl (zB zr45 rfl) (fun b4=> ?_)
 refine r_pv rfl rfl (zd rfl)<|zk<|zf<|zi<|zi<|zc<|r_u rfl rfl (zh 3 ty51 rfl rfl (.take (.take (.take (.take (.take (.take (.take (.take (.take (.take (.take (.take (.take .nil))))))))))))))<|zO rfl rfl (.c rfl .n) ce28 (zxc (ar:=ar) (le:=le) (tp:=tp) (rt:=rt) (bt:=bt) (sx:=sx) (sy:=sy) (xx:=xx) (xy:=xy) (yy:=yy) (ms:=ms) (mx:=mx) (my:=my)) (.n)<|r_pv rfl rfl (zd rfl)<|zk<|zf<|zi<|zc<|r_pv rfl rfl (zb rfl)<|r_pv rfl rfl (zCa rfl rfl)<|zk<|zf<|zE rfl (fun hc=> ?_) (fun hc=> ?_)
 ·
  have hok:¬Bl.ok ar le tp rt bt sx sy xx xy yy ms mx my:=fun k=>hc (if_pos k)
  refine zi<|zc<|r_pv rfl rfl (zG zr45 rfl Try.underlying45 (.c sz43 (.c sz43 .n)) .n .n)<|r_pv rfl rfl (zG zr45 rfl Try.underlying45 (.c sz43 (.c sz43 .n)) .n .n)<|r_pv rfl rfl (zG zr45 rfl Try.underlying45 (.c sz43 (.c sz43 .n)) .n .n)<|r_pv rfl rfl (zb rfl)<|zo 2 rfl rfl rfl rfl rfl sz45 rfl (.take (.take (.take (.take .nil)))) (.s (.s .z))<|zo 1 rfl rfl rfl rfl rfl sz45 rfl (.take (.take (.take (.take .nil)))) (.s .z)<|zo 0 rfl rfl rfl rfl rfl sz45 rfl (.take (.take (.take (.take .nil)))) .z<|r_pv rfl rfl (zd rfl)<|zk<|zf<|zI<|zt<|zqb (qF false wz wz 0) (fun g _=>qF_none g) ?_
  exact zrf Try.results23 (wz,wz,wz,wz,wz,wz) trivial (zu 2 ty45 rfl rfl (.take (.take (.take (.take .nil))))) (zu 1 ty45 rfl rfl (.take (.take (.take (.take .nil))))) (zu 0 ty45 rfl rfl (.take (.take (.take (.take .nil))))) (zq rfl) (by simp only [if_neg hok];rfl) (ho:=(.n:PickO _ _ _)) ((.e (j:=0) rfl (by rw [if_neg hok,decide_eq_false hok]) (.e (j:=0) rfl (by rw [if_neg hok,decide_eq_false hok]) (.e (j:=0) rfl (by rw [if_neg hok,decide_eq_false hok]) .n))):SelR _ _ _)
 ·
  have hok:Bl.ok ar le tp rt bt sx sy xx xy yy ms mx my:=Bl.c0.1 (Decidable.not_not.1 hc)
  have ho9:=hok
  unfold Bl.ok at ho9
  have e0:=Bl.mul_b (x:=ar) (y:=le) (m:=4096) (n:=63) (by omega) (by omega)
  have e1:=Bl.mul_b (x:=ar) (y:=rt) (m:=4096) (n:=63) (by omega) (by omega)
  have e2:=Bl.mul_b (x:=ar) (y:=tp) (m:=4096) (n:=63) (by omega) (by omega)
  have e3:=Bl.mul_b (x:=ar) (y:=bt) (m:=4096) (n:=63) (by omega) (by omega)
  have e4:=Bl.mul_b (x:=ms) (y:=le) (m:=268431360) (n:=63) (by omega) (by omega)
  have e5:=Bl.mul_b (x:=ms) (y:=rt) (m:=268431360) (n:=63) (by omega) (by omega)
  have e6:=Bl.mul_b (x:=ms) (y:=tp) (m:=268431360) (n:=63) (by omega) (by omega)
  have e7:=Bl.mul_b (x:=ms) (y:=bt) (m:=268431360) (n:=63) (by omega) (by omega)
  refine zz<|zf<|zi<|zib 3 rfl (.s (.s (.s .z)))<|zc<|r_pv rfl rfl (zVa .n (.c rfl .n))<|r_pv rfl rfl (zd rfl)<|zk<|zf<|zi<|zDa (.c (i:=2) rfl (.c (i:=1) rfl (.c (i:=0) rfl (.c (i:=0) rfl .n))))<|zja (OW:=[boxA b2 45 [.bool false,.slice none 0 0,.bool false,.slice none 0 0],boxA b3 45 [.bool false,.slice none 0 0,.bool false,.slice none 0 0],boxA b4 45 [.bool false,.slice none 0 0,.bool false,.slice none 0 0]]) (O:=[emA]) 24 mixed (.then .ret) (by kernel_rfl)<|d_pv 0 rfl rfl (by kernel_rfl) (by kernel_rfl) rfl rfl (zb rfl)<|d_pv 1 rfl rfl (by kernel_rfl) (by kernel_rfl) rfl rfl (zg Try.underlying51 rfl sz3 rfl rfl)<|d_u 2 rfl rfl (by kernel_rfl) (by kernel_rfl) rfl rfl (zl (j:=7) 0 ty3 rfl rfl rfl rfl)<|d_pv 3 rfl rfl (by kernel_rfl) (by kernel_rfl) rfl rfl (zg Try.underlying51 rfl sz3 rfl rfl)<|d_u 4 rfl rfl (by kernel_rfl) (by kernel_rfl) rfl rfl (zl (j:=5) 0 ty3 rfl rfl rfl rfl)<|d_pv 5 rfl rfl (by kernel_rfl) (by kernel_rfl) rfl rfl (zg Try.underlying51 rfl sz3 rfl rfl)<|d_u 6 rfl rfl (by kernel_rfl) (by kernel_rfl) rfl rfl (zl (j:=5) 0 ty3 rfl rfl rfl rfl)<|d_pv 8 rfl rfl (by kernel_rfl) (by kernel_rfl) rfl rfl (zb rfl)<|d_pv 9 rfl rfl (by kernel_rfl) (by kernel_rfl) rfl rfl (zg Try.underlying51 rfl sz3 rfl rfl)<|d_u 10 rfl rfl (by kernel_rfl) (by kernel_rfl) rfl rfl (zl (j:=8) 0 ty3 rfl rfl rfl rfl)<|d_pv 11 rfl rfl (by kernel_rfl) (by kernel_rfl) rfl rfl (zg Try.underlying51 rfl sz3 rfl rfl)<|d_u 12 rfl rfl (by kernel_rfl) (by kernel_rfl) rfl rfl (zl (j:=5) 0 ty3 rfl rfl rfl rfl)<|d_pv 13 rfl rfl (by kernel_rfl) (by kernel_rfl) rfl rfl (zg Try.underlying51 rfl sz3 rfl rfl)<|d_u 14 rfl rfl (by kernel_rfl) (by kernel_rfl) rfl rfl (zl (j:=6) 0 ty3 rfl rfl rfl rfl)<|d_pv 16 rfl rfl (by kernel_rfl) (by kernel_rfl) rfl rfl (zb rfl)<|d_pv 17 rfl rfl (by kernel_rfl) (by kernel_rfl) rfl rfl (zg Try.underlying51 rfl sz3 rfl rfl)<|d_u 18 rfl rfl (by kernel_rfl) (by kernel_rfl) rfl rfl (zl (j:=9) 0 ty3 rfl rfl rfl rfl)<|d_pv 19 rfl rfl (by kernel_rfl) (by kernel_rfl) rfl rfl (zg Try.underlying51 rfl sz3 rfl rfl)<|d_u 20 rfl rfl (by kernel_rfl) (by kernel_rfl) rfl rfl (zl (j:=6) 0 ty3 rfl rfl rfl rfl)<|d_pv 21 rfl rfl (by kernel_rfl) (by kernel_rfl) rfl rfl (zg Try.underlying51 rfl sz3 rfl rfl)<|d_u 22 rfl rfl (by kernel_rfl) (by kernel_rfl) rfl rfl (zl (j:=6) 0 ty3 rfl rfl rfl rfl)<|zV 7 (by kernel_rfl) (zId (first:=[]) (cap:=[.pointer (some ⟨b1,0,none⟩)]) rfl rfl rfl rfl rfl (.c rfl (.c rfl (.c rfl .n))) ce48 (zub (ar:=ar) (le:=le) (tp:=tp) (rt:=rt) (bt:=bt) (sx:=sx) (sy:=sy) (xx:=xx) (xy:=xy) (yy:=yy) (ms:=ms) (mx:=mx) (my:=my) (bb:=b1) (u:=xx) (v:=sx) (w:=sx) (ho:=by first|rfl|assumption|omega) (hp:=by first|rfl|assumption|omega) (hs:=by first|rfl|assumption|omega) (ht:=by first|rfl|assumption|omega)) (.c (j:=0) rfl .n) ?_)
  rintro ⟨w35,w46⟩ -
  dsimp only [List.append_eq,List.nil_append,List.cons_append]
  refine zV 15 (by kernel_rfl) (zId (first:=[]) (cap:=[.pointer (some ⟨b1,0,none⟩)]) rfl rfl rfl rfl rfl (.c rfl (.c rfl (.c rfl .n))) ce48 (zub (ar:=ar) (le:=le) (tp:=tp) (rt:=rt) (bt:=bt) (sx:=sx) (sy:=sy) (xx:=xx) (xy:=xy) (yy:=yy) (ms:=ms) (mx:=mx) (my:=my) (bb:=b1) (u:=xy) (v:=sx) (w:=sy) (ho:=by first|rfl|assumption|omega) (hp:=by first|rfl|assumption|omega) (hs:=by first|rfl|assumption|omega) (ht:=by first|rfl|assumption|omega)) (.c (j:=1) rfl .n) ?_)
  rintro ⟨w37,w48⟩ -
  dsimp only [List.append_eq,List.nil_append,List.cons_append]
  refine zV 23 (by kernel_rfl) (zId (first:=[]) (cap:=[.pointer (some ⟨b1,0,none⟩)]) rfl rfl rfl rfl rfl (.c rfl (.c rfl (.c rfl .n))) ce48 (zub (ar:=ar) (le:=le) (tp:=tp) (rt:=rt) (bt:=bt) (sx:=sx) (sy:=sy) (xx:=xx) (xy:=xy) (yy:=yy) (ms:=ms) (mx:=mx) (my:=my) (bb:=b1) (u:=yy) (v:=sy) (w:=sy) (ho:=by first|rfl|assumption|omega) (hp:=by first|rfl|assumption|omega) (hs:=by first|rfl|assumption|omega) (ht:=by first|rfl|assumption|omega)) (.c (j:=2) rfl .n) ?_)
  rintro ⟨w39,w410⟩ -
  dsimp only [List.append_eq,List.nil_append,List.cons_append]
  refine zV 24 (by kernel_rfl) (zL (by kernel_rfl) rfl rfl rfl rfl rfl sz45 rfl (.take (.take (.take (.take .nil)))) ?_)
  refine zPa (zoa (i:=1) rfl)<|zV 25 (by kernel_rfl) (zL (by kernel_rfl) rfl rfl rfl rfl rfl sz45 rfl (.take (.take (.take (.take .nil)))) ?_)
  refine zPa (zoa (i:=2) rfl)<|zV 26 (by kernel_rfl) (zL (by kernel_rfl) rfl rfl rfl rfl rfl sz45 rfl (.take (.take (.take (.take .nil)))) ?_)
  refine d_pv 27 rfl rfl (by kernel_rfl) (by kernel_rfl) rfl rfl (zd rfl)<|zfa (by kernel_rfl)<|zf<|zI ?_
  exact zrf Try.results23 (w35,w46,w37,w48,w39,w410) trivial (zu 2 ty45 rfl rfl (.take (.take (.take (.take .nil))))) (zu 1 ty45 rfl rfl (.take (.take (.take (.take .nil))))) (zu 0 ty45 rfl rfl (.take (.take (.take (.take .nil))))) (zq rfl) (by rw [if_pos hok]) (ho:=(.n:PickO _ _ _)) ((.e (j:=2) rfl (by rw [if_pos hok,decide_eq_true hok]) (.e (j:=1) rfl (by rw [if_pos hok,decide_eq_true hok]) (.e (j:=0) rfl (by rw [if_pos hok,decide_eq_true hok]) .n))):SelR _ _ _)
theorem zNc {ar:Int} {le:Int} {tp:Int} {rt:Int} {bt:Int} {sx:Int} {sy:Int} {xx:Int} {xy:Int} {yy:Int} {ms:Int} {mx:Int} {my:Int} (hok:Bl.ok ar le tp rt bt sx sy xx xy yy ms mx my):Con Try.prog 23 [.agg #[.int .i64 (ar),.int .i64 (le),.int .i64 (tp),.int .i64 (rt),.int .i64 (bt),.int .i64 (sx),.int .i64 (sy),.int .i64 (xx),.int .i64 (xy),.int .i64 (yy),.int .i64 (ms),.int .i64 (mx),.int .i64 (my)]] [] [] (Y:=(Wd)×(Wd)×(Wd)×(Wd)×(Wd)×(Wd)) (fun y=>True) (fun y=> .tuple #[.agg #[y.1.b,y.1.l,y.2.1.b,y.2.1.l],.agg #[y.2.2.1.b,y.2.2.1.l,y.2.2.2.1.b,y.2.2.2.1.l],.agg #[y.2.2.2.2.1.b,y.2.2.2.2.1.l,y.2.2.2.2.2.b,y.2.2.2.2.2.l],.int .i64 (0)]) (fun y=>[]) (fun y=>[qF true y.1 y.2.1 (Rat.divInt (xx*ar - sx*sx) (ar*ar)),qF true y.2.2.1 y.2.2.2.1 (Rat.divInt (xy*ar - sx*sy) (ar*ar)),qF true y.2.2.2.2.1 y.2.2.2.2.2 (Rat.divInt (yy*ar - sy*sy) (ar*ar))]):=by
  have h:= @zzb ar le tp rt bt sx sy xx xy yy ms mx my
  simp only [if_pos hok,decide_eq_true hok] at h
  exact h
theorem zMb {ar:Int} {le:Int} {tp:Int} {rt:Int} {bt:Int} {sx:Int} {sy:Int} {xx:Int} {xy:Int} {yy:Int} {ms:Int} {mx:Int} {my:Int}:Con Try.prog 19 [.agg #[.int .i64 ar,.int .i64 le,.int .i64 tp,.int .i64 rt,.int .i64 bt,.int .i64 sx,.int .i64 sy,.int .i64 xx,.int .i64 xy,.int .i64 yy,.int .i64 ms,.int .i64 mx,.int .i64 my]] [] [] (Y:=Wd×Wd×Wd×Wd) (fun y=>True) (fun y=> .tuple #[.agg #[y.1.b,y.1.l,y.2.1.b,y.2.1.l,y.2.2.1.b,y.2.2.1.l,y.2.2.2.b,y.2.2.2.l],.int .i64 (if Bl.ok ar le tp rt bt sx sy xx xy yy ms mx my then (if ms=0 then 13 else 0) else 1)]) (fun y=>[]) (fun y=>[qF (decide (Bl.ok ar le tp rt bt sx sy xx xy yy ms mx my∧ms≠0)) y.1 y.2.1 (if Bl.ok ar le tp rt bt sx sy xx xy yy ms mx my∧ms≠0 then Rat.divInt (2*mx+ms) (2*ms) else 0),qF (decide (Bl.ok ar le tp rt bt sx sy xx xy yy ms mx my∧ms≠0)) y.2.2.1 y.2.2.2 (if Bl.ok ar le tp rt bt sx sy xx xy yy ms mx my∧ms≠0 then Rat.divInt (2*my+ms) (2*ms) else 0)]):=by
 refine zr Try.func19 rfl rfl rfl (fun c=> ?_)
 show RunC _ _ _ _ _ [(0,.agg #[.int .i64 ar,.int .i64 le,.int .i64 tp,.int .i64 rt,.int .i64 bt,.int .i64 sx,.int .i64 sy,.int .i64 xx,.int .i64 xy,.int .i64 yy,.int .i64 ms,.int .i64 mx,.int .i64 my])] [] []
 refine zi<|zc<|zP rfl rfl (zW rfl rfl) (fun b1=> ?_)
 refine zP rfl rfl (zB zr47 rfl) (fun b2=> ?_)
 refine r_pv rfl rfl (zd rfl)<|zk<|zf<|zi<|zi<|zc<|r_u rfl rfl (zh 1 ty51 rfl rfl (.take (.take (.take (.take (.take (.take (.take (.take (.take (.take (.take (.take (.take .nil))))))))))))))<|zO rfl rfl (.c rfl .n) ce28 (zxc (ar:=ar) (le:=le) (tp:=tp) (rt:=rt) (bt:=bt) (sx:=sx) (sy:=sy) (xx:=xx) (xy:=xy) (yy:=yy) (ms:=ms) (mx:=mx) (my:=my)) (.n)<|r_pv rfl rfl (zd rfl)<|zk<|zf<|zi<|zc<|r_pv rfl rfl (zb rfl)<|r_pv rfl rfl (zCa rfl rfl)<|zk<|zf<|zE rfl (fun hc=> ?_) (fun hc=> ?_)
 ·
  have hok:¬Bl.ok ar le tp rt bt sx sy xx xy yy ms mx my:=fun k=>hc (if_pos k)
  have hno:¬(Bl.ok ar le tp rt bt sx sy xx xy yy ms mx my∧ms≠0):=fun k=>hok k.1
  refine zi<|zc<|r_pv rfl rfl (zG zr47 rfl Try.underlying47 (.c sz45 (.c sz45 .n)) .n .n)<|r_pv rfl rfl (zb rfl)<|zo 0 rfl rfl rfl rfl rfl sz47 rfl (.take (.take (.take (.take (.take (.take (.take (.take .nil)))))))) .z<|r_pv rfl rfl (zd rfl)<|zk<|zf<|zI<|zt<|zqb (qF false wz wz 0) (fun g _=>qF_none g) ?_
  exact zya Try.results19 (wz,wz,wz,wz) trivial (zu 0 ty47 rfl rfl (.take (.take (.take (.take (.take (.take (.take (.take .nil))))))))) (zq rfl) (by simp only [if_neg hok];rfl) (ho:=(.n:PickO _ _ _)) ((.e (j:=0) rfl (by rw [if_neg hno,decide_eq_false hno]) (.e (j:=0) rfl (by rw [if_neg hno,decide_eq_false hno]) .n)):SelR _ _ _)
 ·
  have hok:Bl.ok ar le tp rt bt sx sy xx xy yy ms mx my:=Bl.c0.1 (Decidable.not_not.1 hc)
  have ho9:=hok
  unfold Bl.ok at ho9
  have e0:=Bl.mul_b (x:=ar) (y:=le) (m:=4096) (n:=63) (by omega) (by omega)
  have e1:=Bl.mul_b (x:=ar) (y:=rt) (m:=4096) (n:=63) (by omega) (by omega)
  have e2:=Bl.mul_b (x:=ar) (y:=tp) (m:=4096) (n:=63) (by omega) (by omega)
  have e3:=Bl.mul_b (x:=ar) (y:=bt) (m:=4096) (n:=63) (by omega) (by omega)
  have e4:=Bl.mul_b (x:=ms) (y:=le) (m:=268431360) (n:=63) (by omega) (by omega)
  have e5:=Bl.mul_b (x:=ms) (y:=rt) (m:=268431360) (n:=63) (by omega) (by omega)
  have e6:=Bl.mul_b (x:=ms) (y:=tp) (m:=268431360) (n:=63) (by omega) (by omega)
  have e7:=Bl.mul_b (x:=ms) (y:=bt) (m:=268431360) (n:=63) (by omega) (by omega)
  refine zz<|zf<|zi<|zi<|zc<|r_pv rfl rfl (zg Try.underlying51 rfl sz3 rfl rfl)<|r_u rfl rfl (ze 1 ty3 rfl rfl rfl)<|r_pv rfl rfl (zqa rfl rfl)<|zk<|zf<|zE rfl (fun hm=> ?_) (fun hm=> ?_)
  ·
   have hno:¬(Bl.ok ar le tp rt bt sx sy xx xy yy ms mx my∧ms≠0):=fun k=>k.2 hm
   refine zi<|zc<|r_pv rfl rfl (zG zr47 rfl Try.underlying47 (.c sz45 (.c sz45 .n)) .n .n)<|zo 0 rfl rfl rfl rfl rfl sz47 rfl (.take (.take (.take (.take (.take (.take (.take (.take .nil)))))))) .z<|r_pv rfl rfl (zd rfl)<|zk<|zf<|zI<|zt<|zqb (qF false wz wz 0) (fun g _=>qF_none g) ?_
   exact zya Try.results19 (wz,wz,wz,wz) trivial (zu 0 ty47 rfl rfl (.take (.take (.take (.take (.take (.take (.take (.take .nil))))))))) (zq rfl) (by rw [if_pos hok,if_pos hm];rfl) (ho:=(.n:PickO _ _ _)) ((.e (j:=0) rfl (by rw [if_neg hno,decide_eq_false hno]) (.e (j:=0) rfl (by rw [if_neg hno,decide_eq_false hno]) .n)):SelR _ _ _)
  ·
   have hye:Bl.ok ar le tp rt bt sx sy xx xy yy ms mx my∧ms≠0:=⟨hok,hm⟩
   refine zz<|zf<|zi<|zja (OW:=[boxA b2 47 [.bool false,.slice none 0 0,.bool false,.slice none 0 0,.bool false,.slice none 0 0,.bool false,.slice none 0 0]]) (O:=[boxA b1 51 [.int .i64 ar,.int .i64 le,.int .i64 tp,.int .i64 rt,.int .i64 bt,.int .i64 sx,.int .i64 sy,.int .i64 xx,.int .i64 xy,.int .i64 yy,.int .i64 ms,.int .i64 mx,.int .i64 my]]) 21 mixed (.then .ret) (by kernel_rfl)<|d_pv 0 rfl rfl (by kernel_rfl) (by kernel_rfl) rfl rfl (zg Try.underlying51 rfl sz3 rfl rfl)<|d_uw 1 rfl rfl (by kernel_rfl) (by kernel_rfl) (by kernel_rfl) rfl rfl (ze 1 ty3 rfl rfl rfl)<|d_pv 2 rfl rfl (by kernel_rfl) (by kernel_rfl) rfl rfl (zka (z:=(2*mx)) rfl rfl (w64 (by omega)))<|d_pv 3 rfl rfl (by kernel_rfl) (by kernel_rfl) rfl rfl (zg Try.underlying51 rfl sz3 rfl rfl)<|d_uw 4 rfl rfl (by kernel_rfl) (by kernel_rfl) (by kernel_rfl) rfl rfl (ze 1 ty3 rfl rfl rfl)<|d_pv 5 rfl rfl (by kernel_rfl) (by kernel_rfl) rfl rfl (zC (z:=((2*mx)+ms)) rfl rfl (w64 (by omega)))<|d_pv 6 rfl rfl (by kernel_rfl) (by kernel_rfl) rfl rfl (zg Try.underlying51 rfl sz3 rfl rfl)<|d_uw 7 rfl rfl (by kernel_rfl) (by kernel_rfl) (by kernel_rfl) rfl rfl (ze 1 ty3 rfl rfl rfl)<|d_pv 8 rfl rfl (by kernel_rfl) (by kernel_rfl) rfl rfl (zka (z:=(2*ms)) rfl rfl (w64 (by omega)))<|d_pv 10 rfl rfl (by kernel_rfl) (by kernel_rfl) rfl rfl (zg Try.underlying51 rfl sz3 rfl rfl)<|d_uw 11 rfl rfl (by kernel_rfl) (by kernel_rfl) (by kernel_rfl) rfl rfl (ze 1 ty3 rfl rfl rfl)<|d_pv 12 rfl rfl (by kernel_rfl) (by kernel_rfl) rfl rfl (zka (z:=(2*my)) rfl rfl (w64 (by omega)))<|d_pv 13 rfl rfl (by kernel_rfl) (by kernel_rfl) rfl rfl (zg Try.underlying51 rfl sz3 rfl rfl)<|d_uw 14 rfl rfl (by kernel_rfl) (by kernel_rfl) (by kernel_rfl) rfl rfl (ze 1 ty3 rfl rfl rfl)<|d_pv 15 rfl rfl (by kernel_rfl) (by kernel_rfl) rfl rfl (zC (z:=((2*my)+ms)) rfl rfl (w64 (by omega)))<|d_pv 16 rfl rfl (by kernel_rfl) (by kernel_rfl) rfl rfl (zg Try.underlying51 rfl sz3 rfl rfl)<|d_uw 17 rfl rfl (by kernel_rfl) (by kernel_rfl) (by kernel_rfl) rfl rfl (ze 1 ty3 rfl rfl rfl)<|d_pv 18 rfl rfl (by kernel_rfl) (by kernel_rfl) rfl rfl (zka (z:=(2*ms)) rfl rfl (w64 (by omega)))<|zV 9 (by kernel_rfl) (zU rfl rfl rfl rfl (.c rfl (.c rfl .n)) ce41 (znc (z1:=((2*mx)+ms)) (z2:=(2*ms)) (hz1:=by first|rfl|assumption|omega) (hz2:=by first|rfl|assumption|omega) (hy:=by first|rfl|assumption|omega)) (.n) ?_)
   rintro ⟨w33,w44⟩ -
   dsimp only [List.append_eq,List.nil_append,List.cons_append]
   refine zV 19 (by kernel_rfl) (zU rfl rfl rfl rfl (.c rfl (.c rfl .n)) ce41 (znc (z1:=((2*my)+ms)) (z2:=(2*ms)) (hz1:=by first|rfl|assumption|omega) (hz2:=by first|rfl|assumption|omega) (hy:=by first|rfl|assumption|omega)) (.n) ?_)
   rintro ⟨w35,w46⟩ -
   dsimp only [List.append_eq,List.nil_append,List.cons_append]
   refine d_pv 20 rfl rfl (by kernel_rfl) (by kernel_rfl) rfl rfl (zG zr47 rfl Try.underlying47 (.c sz45 (.c sz45 .n)) (.c rfl (.c rfl .n)) (.c rfl rfl rfl (.take (.take (.take (.take .nil)))) (.c rfl rfl rfl (.skip (.skip (.skip (.skip (.take (.take (.take (.take .nil)))))))) .n)))<|zV 21 (by kernel_rfl) (zL (by kernel_rfl) rfl rfl rfl rfl rfl sz47 rfl (.take (.take (.take (.take (.take (.take (.take (.take .nil)))))))) ?_)
   refine d_pv 22 rfl rfl (by kernel_rfl) (by kernel_rfl) rfl rfl (zd rfl)<|zfa (by kernel_rfl)<|zf<|zI ?_
   exact zya Try.results19 (w33,w44,w35,w46) trivial (zu 0 ty47 rfl rfl (.take (.take (.take (.take (.take (.take (.take (.take .nil))))))))) (zq rfl) (by rw [if_pos hok,if_neg hm]) (ho:=(.n:PickO _ _ _)) ((.e (j:=1) rfl (by rw [if_pos hye,decide_eq_true hye]) (.e (j:=0) rfl (by rw [if_pos hye,decide_eq_true hye]) .n)):SelR _ _ _)
theorem zkd {ar:Int} {le:Int} {tp:Int} {rt:Int} {bt:Int} {sx:Int} {sy:Int} {xx:Int} {xy:Int} {yy:Int} {ms:Int} {mx:Int} {my:Int} (hok:Bl.ok ar le tp rt bt sx sy xx xy yy ms mx my) (hm:ms≠0):Con Try.prog 19 [.agg #[.int .i64 (ar),.int .i64 (le),.int .i64 (tp),.int .i64 (rt),.int .i64 (bt),.int .i64 (sx),.int .i64 (sy),.int .i64 (xx),.int .i64 (xy),.int .i64 (yy),.int .i64 (ms),.int .i64 (mx),.int .i64 (my)]] [] [] (Y:=(Wd)×(Wd)×(Wd)×(Wd)) (fun y=>True) (fun y=> .tuple #[.agg #[y.1.b,y.1.l,y.2.1.b,y.2.1.l,y.2.2.1.b,y.2.2.1.l,y.2.2.2.b,y.2.2.2.l],.int .i64 (0)]) (fun y=>[]) (fun y=>[qF true y.1 y.2.1 (Rat.divInt (2*mx+ms) (2*ms)),qF true y.2.2.1 y.2.2.2 (Rat.divInt (2*my+ms) (2*ms))]):=by
  have h:= @zMb ar le tp rt bt sx sy xx xy yy ms mx my
  have h2:Bl.ok ar le tp rt bt sx sy xx xy yy ms mx my∧ms≠0:=⟨hok,hm⟩
  simp only [if_pos hok,if_neg hm,if_pos h2,decide_eq_true h2] at h
  exact h
end Go.Proofs.Ytefbbhiaalcjfaa.Sp
namespace Go.Proofs.Ytefbbhiaalcjfaa.Fl
open Sp (Bb b0)
instance (e:Bool) (w n j k:Nat):Decidable (nb e w n j k):=by unfold nb;infer_instance
theorem Lst.cert {n:Nat} {f:Nat→Bool} {adj:Nat→Nat→Prop} (c p:Nat→Nat) (hf:∀i,f i=true→i<n)
    (h1:∀i,i<n→f i=true→c i≤i∧(c i=i∨(f (p i)=true∧adj i (p i)∧p i<i∧c (p i)=c i)))
    (h2:∀i,i<n→∀k,k<n→f i=true→f k=true→adj i k→c i=c k):Lst (fun j=>f j=true) adj c:=by
  refine ⟨fun i hi=>(h1 i (hf i hi) hi).1,fun i=> ?_,fun i k hi hk ha=>h2 i (hf i hi) k (hf k hk) hi hk ha⟩
  induction i using Nat.strongRecOn with
  |ind i ih=>
    intro hi
    rcases (h1 i (hf i hi) hi).2 with e|⟨a,b,d,e⟩
    · rw [e];exact .refl i
    · rw [← e];exact .step hi a b (ih (p i) d a)
def pixK:List Int:=[9,9,0,0,0,9,0,5,0,0,0,5]
def labK:List Int:=[0,0,-1,-1,-1,0,-1,1,-1,-1,-1,1]
def cK (i:Nat):Nat:=([0,0,2,3,4,0,6,7,8,9,10,7]:List Nat).getD i 0
def pK (i:Nat):Nat:=([0,0,2,3,4,1,6,7,8,9,10,7]:List Nat).getD i 0
theorem lstK:Lst (fun j=>ge pixK 5 j=true) (nb false 4 12) cK:=
  Lst.cert (n:=12) (f:=ge pixK 5) cK pK (fun i hi=>ge_lt (l:=pixK) hi) (by decide +kernel) (by decide +kernel)
theorem labcK:LabC 12 (ge pixK 5) cK labK:=⟨rfl,by decide +kernel,by decide +kernel⟩
theorem labrK:LabR 4 3 9 pixK 5 labK:=LabR.yes (w:=4) (n:=12) (by decide +kernel) rfl (labcK.lab lstK)
def blK:List Bb:=[⟨3,0,0,1,1,2,1,2,1,1,27,18,9⟩,⟨2,3,1,3,2,6,3,18,9,5,10,30,15⟩]
theorem blsK:BlsR 4 3 9 pixK 5 blK:=BlsR.yes (w:=4) (n:=12) (by decide +kernel) rfl lstK labcK (by decide +kernel)
def pixH:List Int:=[1,1,1,1,0,1,1,1,1]
theorem holK:HolR 3 3 1 pixH 1 1:=
  HolR.yes (w:=3) (h:=3) (n:=9) (c:=id) (by decide +kernel) rfl
    (Lst.cert (n:=9) (f:=lo pixH 1) id id (fun i hi=>lo_lt (l:=pixH) hi) (by decide +kernel) (by decide +kernel)) (by decide +kernel)
end Go.Proofs.Ytefbbhiaalcjfaa.Fl
namespace Go.Proofs.Ytefbbhiaalcjfaa.Sp
open Go
set_option linter.unusedVariables false
set_option maxRecDepth 100000
set_option maxHeartbeats 1000000
theorem zVe:Con Try.prog 9 [] [] [] (Y:=Unit) (fun y=>True) (fun y=> .bool true) (fun y=>[]) (fun y=>[]):=by
 refine zr Try.func9 rfl rfl rfl (fun c=> ?_)
 show RunC _ _ _ _ _ [] [] []
 refine zi<|zc<|r_pv rfl rfl (zd rfl)<|zk<|zf<|zi<|zc<|zwa rfl rfl (zJ (enc:=fun z:Int=>[.int .i64 z]) (ok:=InK .i64) (h1:=fun _=>rfl) (h2:=fun _=>rfl) (k:=12) Try.underlying22 inf3 rfl (by decide) (by decide) (by decide) (.c (x:=9) rfl rfl (fun _ _=>by exact zj.2 (by omega)) (.c (x:=9) rfl rfl (fun _ _=>by exact zj.2 (by omega)) (.c (x:=0) rfl rfl (fun _ _=>by exact zj.2 (by omega)) (.c (x:=0) rfl rfl (fun _ _=>by exact zj.2 (by omega)) (.c (x:=0) rfl rfl (fun _ _=>by exact zj.2 (by omega)) (.c (x:=9) rfl rfl (fun _ _=>by exact zj.2 (by omega)) (.c (x:=0) rfl rfl (fun _ _=>by exact zj.2 (by omega)) (.c (x:=5) rfl rfl (fun _ _=>by exact zj.2 (by omega)) (.c (x:=0) rfl rfl (fun _ _=>by exact zj.2 (by omega)) (.c (x:=0) rfl rfl (fun _ _=>by exact zj.2 (by omega)) (.c (x:=0) rfl rfl (fun _ _=>by exact zj.2 (by omega)) (.c (x:=5) rfl rfl (fun _ _=>by exact zj.2 (by omega)) .n))))))))))))) (fun b1 _=> ?_)
 refine r_pv rfl rfl (zG zr24 rfl Try.underlying24 (.c sz3 (.c sz3 (.c sz3 (.c sz22 .n)))) (.c rfl (.c rfl (.c rfl (.c rfl .n)))) (.c rfl rfl rfl (.take .nil) (.c rfl rfl rfl (.skip (.take .nil)) (.c rfl rfl rfl (.skip (.skip (.take .nil))) (.c rfl rfl rfl (.skip (.skip (.skip (.take .nil)))) .n)))))<|zP rfl rfl (zB zr24 rfl) (fun b2=> ?_)
 refine zo 0 rfl rfl rfl rfl rfl sz24 rfl (.take (.take (.take (.take .nil)))) .z<|zk<|zf<|zi<|zc<|r_u rfl rfl (zh 0 ty24 rfl rfl (.take (.take (.take (.take .nil)))))<|zha 1 rfl (.s .z)<|zy rfl rfl (.c rfl (.c rfl .n)) ce11 (zDe (w:=4) (h:=3) (m:=9) (p:=some ⟨b1,0,none⟩) (n:=12) (cap:=12) (l:=[9,9,0,0,0,9,0,5,0,0,0,5]) (th:=5) (hn:=by first|rfl|assumption|omega|decide|(decide +kernel))) (.c (j:=0) rfl .n) ?_
 rintro ⟨p33,c34,oL⟩ hL
 dsimp only [List.append_eq,List.nil_append,List.cons_append]
 replace hL:Fl.LabR 4 3 9 ([9,9,0,0,0,9,0,5,0,0,0,5]) 5 oL:=hL
 have e5:oL=Fl.labK:=by exact hL.uniq Fl.labrK
 subst e5
 have e6:=Fl.ask0.2 (show Bl.rok 4 3 9 ([9,9,0,0,0,9,0,5,0,0,0,5])∧(0:Int)≤5∧(5:Int)≤65536 by decide +kernel)
 rw [e6]
 refine r_pv rfl rfl (zb rfl)<|r_pv rfl rfl (zp rfl rfl)<|r_pv rfl rfl (zp rfl rfl)<|r_pv rfl rfl (zd rfl)<|r_pv rfl rfl (zd rfl)<|zk<|zf<|zi<|zc<|r_u rfl rfl (zh 0 ty24 rfl rfl (.take (.take (.take (.take .nil)))))<|zy rfl rfl (.c rfl (.c rfl .n)) ce17 (zCb (w:=4) (h:=3) (m:=9) (p:=some ⟨b1,0,none⟩) (n:=12) (cap:=12) (l:=[9,9,0,0,0,9,0,5,0,0,0,5]) (th:=5) (hn:=by first|rfl|assumption|omega|decide|(decide +kernel))) (.c (j:=1) rfl .n) ?_
 rintro ⟨p37,c38,aB⟩ hB
 dsimp only [List.append_eq,List.nil_append,List.cons_append]
 replace hB:Fl.BlsR 4 3 9 ([9,9,0,0,0,9,0,5,0,0,0,5]) 5 aB:=hB
 have e9:aB=Fl.blK:=by exact hB.uniq Fl.blsK
 subst e9
 have e10:=Fl.ask0.2 (show Bl.rok 4 3 9 ([9,9,0,0,0,9,0,5,0,0,0,5])∧(0:Int)≤5∧(5:Int)≤65536 by decide +kernel)
 rw [e10]
 refine r_pv rfl rfl (zb rfl)<|r_pv rfl rfl (zp rfl rfl)<|r_pv rfl rfl (zp rfl rfl)<|r_pv rfl rfl (zd rfl)<|r_pv rfl rfl (zd rfl)<|zk<|zf<|zi<|zi<|zc<|r_pv rfl rfl (zb rfl)<|r_pv rfl rfl (zb rfl)<|r_pv rfl rfl (zC (z:=0) rfl rfl (w64 (by decide)))<|r_pv rfl rfl (zCa rfl rfl) ?_
 rw [show false=false from by decide]
 refine r_pv rfl rfl (zb rfl)<|r_pv rfl rfl (zb rfl)<|zwa rfl rfl (zJ (enc:=fun z:Int=>[.int .i64 z]) (ok:=InK .i64) (h1:=fun _=>rfl) (h2:=fun _=>rfl) (k:=12) Try.underlying22 inf3 rfl (by decide) (by decide) (by decide) (.c (x:=0) rfl rfl (fun _ _=>by exact zj.2 (by omega)) (.c (x:=0) rfl rfl (fun _ _=>by exact zj.2 (by omega)) (.c (x:=(-1)) rfl rfl (fun _ _=>by exact zj.2 (by omega)) (.c (x:=(-1)) rfl rfl (fun _ _=>by exact zj.2 (by omega)) (.c (x:=(-1)) rfl rfl (fun _ _=>by exact zj.2 (by omega)) (.c (x:=0) rfl rfl (fun _ _=>by exact zj.2 (by omega)) (.c (x:=(-1)) rfl rfl (fun _ _=>by exact zj.2 (by omega)) (.c (x:=1) rfl rfl (fun _ _=>by exact zj.2 (by omega)) (.c (x:=(-1)) rfl rfl (fun _ _=>by exact zj.2 (by omega)) (.c (x:=(-1)) rfl rfl (fun _ _=>by exact zj.2 (by omega)) (.c (x:=(-1)) rfl rfl (fun _ _=>by exact zj.2 (by omega)) (.c (x:=1) rfl rfl (fun _ _=>by exact zj.2 (by omega)) .n))))))))))))) (fun b11 _=> ?_)
 refine zha 0 rfl .z<|zO rfl rfl (.c rfl (.c rfl .n)) ce13 (zCe (p1:=p33) (n1:=(Fl.labK.length)) (c1:=c34) (l1:=Fl.labK) (p2:=some ⟨b11,0,none⟩) (n2:=12) (c2:=12) (l2:=[0,0,(-1),(-1),(-1),0,(-1),1,(-1),(-1),(-1),1]) (hn1:=by first|rfl|assumption|omega|decide|(decide +kernel)) (hn2:=by first|rfl|assumption|omega|decide|(decide +kernel))) (.c (j:=2) rfl (.c (j:=0) rfl .n)) ?_
 rw [show (decide (Fl.labK=([0,0,(-1),(-1),(-1),0,(-1),1,(-1),(-1),(-1),1])))=true from by decide +kernel]
 refine r_pv rfl rfl (zbb rfl)<|r_pv rfl rfl (zm rfl rfl)<|r_pv rfl rfl (zb rfl)<|r_pv rfl rfl (zb rfl)<|r_pv rfl rfl (zM Try.underlying35 rfl)<|r_pv rfl rfl (zCa rfl rfl) ?_
 rw [show (decide ((((Fl.blK.length):Nat):Int)≠2))=false from by decide +kernel]
 refine r_pv rfl rfl (zm rfl rfl)<|zk<|zf<|zKa rfl rfl<|zz<|zf<|zi<|zc<|r_pv rfl rfl (zb rfl)<|zK (x0:=(Fl.blK.getD 0 b0)) 1 0 rfl Try.underlying35 sz51 rfl rfl rfl (by first|rfl|assumption|(simp_all;done)|omega) rfl rfl (gD (d:=b0) (by first|omega|decide)) (fun b12 o13 hok14=> ?_)
 obtain ⟨hok140,hok141,hok142,hok143,hok144,hok145,hok146,hok147,hok148,hok149,hok1410,hok1411,hok1412⟩:=hok14
 replace hok140:=zj.1 hok140
 replace hok141:=zj.1 hok141
 replace hok142:=zj.1 hok142
 replace hok143:=zj.1 hok143
 replace hok144:=zj.1 hok144
 replace hok145:=zj.1 hok145
 replace hok146:=zj.1 hok146
 replace hok147:=zj.1 hok147
 replace hok148:=zj.1 hok148
 replace hok149:=zj.1 hok149
 replace hok1410:=zj.1 hok1410
 replace hok1411:=zj.1 hok1411
 replace hok1412:=zj.1 hok1412
 refine r_u rfl rfl (zpa (j:=0) 0 ty51 rfl rfl rfl (.take (.take (.take (.take (.take (.take (.take (.take (.take (.take (.take (.take (.take .nil))))))))))))))<|zy rfl rfl (.c rfl .n) ce19 (zkd (ar:=(Fl.blK.getD 0 b0).ar) (le:=(Fl.blK.getD 0 b0).le) (tp:=(Fl.blK.getD 0 b0).tp) (rt:=(Fl.blK.getD 0 b0).rt) (bt:=(Fl.blK.getD 0 b0).bt) (sx:=(Fl.blK.getD 0 b0).sx) (sy:=(Fl.blK.getD 0 b0).sy) (xx:=(Fl.blK.getD 0 b0).xx) (xy:=(Fl.blK.getD 0 b0).xy) (yy:=(Fl.blK.getD 0 b0).yy) (ms:=(Fl.blK.getD 0 b0).ms) (mx:=(Fl.blK.getD 0 b0).mx) (my:=(Fl.blK.getD 0 b0).my) (hok:=by first|rfl|assumption|omega|decide|(decide +kernel)) (hm:=by first|rfl|assumption|omega|decide|(decide +kernel))) (.n) ?_
 rintro ⟨w315,w416,w517,w618⟩ -
 dsimp only [List.append_eq,List.nil_append,List.cons_append]
 refine r_pv rfl rfl (zb rfl)<|r_pv rfl rfl (zp rfl rfl)<|r_pv rfl rfl (zp rfl rfl)<|zP rfl rfl (zB zr47 rfl) (fun b19=> ?_)
 refine zo 0 rfl rfl rfl rfl rfl sz47 rfl (.take (.take (.take (.take (.take (.take (.take (.take .nil)))))))) .z<|r_pv rfl rfl (zd rfl)<|zk<|zf<|zi<|zc<|r_pv rfl rfl (zb rfl)<|zK (x0:=(Fl.blK.getD 0 b0)) 4 0 rfl Try.underlying35 sz51 rfl rfl rfl (by first|rfl|assumption|(simp_all;done)|omega) rfl rfl (gD (d:=b0) (by first|omega|decide)) (fun b20 o21 hok22=> ?_)
 obtain ⟨hok220,hok221,hok222,hok223,hok224,hok225,hok226,hok227,hok228,hok229,hok2210,hok2211,hok2212⟩:=hok22
 replace hok220:=zj.1 hok220
 replace hok221:=zj.1 hok221
 replace hok222:=zj.1 hok222
 replace hok223:=zj.1 hok223
 replace hok224:=zj.1 hok224
 replace hok225:=zj.1 hok225
 replace hok226:=zj.1 hok226
 replace hok227:=zj.1 hok227
 replace hok228:=zj.1 hok228
 replace hok229:=zj.1 hok229
 replace hok2210:=zj.1 hok2210
 replace hok2211:=zj.1 hok2211
 replace hok2212:=zj.1 hok2212
 refine r_u rfl rfl (zpa (j:=0) 0 ty51 rfl rfl rfl (.take (.take (.take (.take (.take (.take (.take (.take (.take (.take (.take (.take (.take .nil))))))))))))))<|zy rfl rfl (.c rfl .n) ce23 (zNc (ar:=(Fl.blK.getD 0 b0).ar) (le:=(Fl.blK.getD 0 b0).le) (tp:=(Fl.blK.getD 0 b0).tp) (rt:=(Fl.blK.getD 0 b0).rt) (bt:=(Fl.blK.getD 0 b0).bt) (sx:=(Fl.blK.getD 0 b0).sx) (sy:=(Fl.blK.getD 0 b0).sy) (xx:=(Fl.blK.getD 0 b0).xx) (xy:=(Fl.blK.getD 0 b0).xy) (yy:=(Fl.blK.getD 0 b0).yy) (ms:=(Fl.blK.getD 0 b0).ms) (mx:=(Fl.blK.getD 0 b0).mx) (my:=(Fl.blK.getD 0 b0).my) (hok:=by first|rfl|assumption|omega|decide|(decide +kernel))) (.n) ?_
 rintro ⟨w323,w424,w525,w626,w727,w828⟩ -
 dsimp only [List.append_eq,List.nil_append,List.cons_append]
 refine r_pv rfl rfl (zb rfl)<|r_pv rfl rfl (zp rfl rfl)<|r_pv rfl rfl (zp rfl rfl)<|r_pv rfl rfl (zp rfl rfl)<|r_pv rfl rfl (zp rfl rfl)<|zP rfl rfl (zB zr45 rfl) (fun b29=> ?_)
 refine zP rfl rfl (zB zr45 rfl) (fun b30=> ?_)
 refine zP rfl rfl (zB zr45 rfl) (fun b31=> ?_)
 refine zo 2 rfl rfl rfl rfl rfl sz45 rfl (.take (.take (.take (.take .nil)))) (.s (.s .z))<|zo 1 rfl rfl rfl rfl rfl sz45 rfl (.take (.take (.take (.take .nil)))) (.s .z)<|zo 0 rfl rfl rfl rfl rfl sz45 rfl (.take (.take (.take (.take .nil)))) .z<|r_pv rfl rfl (zd rfl)<|zk<|zf<|zi<|zc<|zwa rfl rfl (zJ (enc:=fun z:Int=>[.int .i64 z]) (ok:=InK .i64) (h1:=fun _=>rfl) (h2:=fun _=>rfl) (k:=9) Try.underlying22 inf3 rfl (by decide) (by decide) (by decide) (.c (x:=1) rfl rfl (fun _ _=>by exact zj.2 (by omega)) (.c (x:=1) rfl rfl (fun _ _=>by exact zj.2 (by omega)) (.c (x:=1) rfl rfl (fun _ _=>by exact zj.2 (by omega)) (.c (x:=1) rfl rfl (fun _ _=>by exact zj.2 (by omega)) (.c (x:=0) rfl rfl (fun _ _=>by exact zj.2 (by omega)) (.c (x:=1) rfl rfl (fun _ _=>by exact zj.2 (by omega)) (.c (x:=1) rfl rfl (fun _ _=>by exact zj.2 (by omega)) (.c (x:=1) rfl rfl (fun _ _=>by exact zj.2 (by omega)) (.c (x:=1) rfl rfl (fun _ _=>by exact zj.2 (by omega)) .n)))))))))) (fun b32 _=> ?_)
 refine r_pv rfl rfl (zG zr24 rfl Try.underlying24 (.c sz3 (.c sz3 (.c sz3 (.c sz22 .n)))) (.c rfl (.c rfl (.c rfl (.c rfl .n)))) (.c rfl rfl rfl (.take .nil) (.c rfl rfl rfl (.skip (.take .nil)) (.c rfl rfl rfl (.skip (.skip (.take .nil))) (.c rfl rfl rfl (.skip (.skip (.skip (.take .nil)))) .n)))))<|zha 0 rfl .z<|zy rfl rfl (.c rfl (.c rfl .n)) ce14 (zEe (w:=3) (h:=3) (m:=1) (p:=some ⟨b32,0,none⟩) (n:=9) (cap:=9) (l:=[1,1,1,1,0,1,1,1,1]) (th:=1) (hn:=by first|rfl|assumption|omega|decide|(decide +kernel))) (.c (j:=0) rfl .n) ?_
 rintro zH hH
 dsimp only [List.append_eq,List.nil_append,List.cons_append]
 replace hH:Fl.HolR 3 3 1 ([1,1,1,1,0,1,1,1,1]) 1 zH:=hH
 have e33:zH=1:=by exact hH.uniq Fl.holK
 subst e33
 have e34:=Fl.ask0.2 (show Bl.rok 3 3 1 ([1,1,1,1,0,1,1,1,1])∧(0:Int)≤1∧(1:Int)≤65536 by decide +kernel)
 rw [e34]
 refine r_pv rfl rfl (zb rfl)<|r_pv rfl rfl (zp rfl rfl)<|r_pv rfl rfl (zp rfl rfl)<|r_pv rfl rfl (zd rfl)<|r_pv rfl rfl (zd rfl)<|zk<|zf<|zi<|zc<|zy rfl rfl (.c rfl (.c rfl .n)) ce32 (zEc (z1:=7) (z2:=6) (hz1:=by first|rfl|assumption|omega|decide|(decide +kernel)) (hz2:=by first|rfl|assumption|omega|decide|(decide +kernel)) (hy:=by first|rfl|assumption|omega|decide|(decide +kernel))) (.n) ?_
 rintro ⟨w335,w436⟩ -
 dsimp only [List.append_eq,List.nil_append,List.cons_append]
 refine r_pv rfl rfl (zb rfl)<|r_pv rfl rfl (zp rfl rfl)<|r_pv rfl rfl (zp rfl rfl)<|zP rfl rfl (zB zr45 rfl) (fun b37=> ?_)
 refine zo 0 rfl rfl rfl rfl rfl sz45 rfl (.take (.take (.take (.take .nil)))) .z<|r_pv rfl rfl (zd rfl)<|zk<|zf<|zi<|zc<|zy rfl rfl (.c rfl (.c rfl .n)) ce32 (zEc (z1:=2) (z2:=9) (hz1:=by first|rfl|assumption|omega|decide|(decide +kernel)) (hz2:=by first|rfl|assumption|omega|decide|(decide +kernel)) (hy:=by first|rfl|assumption|omega|decide|(decide +kernel))) (.n) ?_
 rintro ⟨w338,w439⟩ -
 dsimp only [List.append_eq,List.nil_append,List.cons_append]
 refine r_pv rfl rfl (zb rfl)<|r_pv rfl rfl (zp rfl rfl)<|r_pv rfl rfl (zp rfl rfl)<|zP rfl rfl (zB zr45 rfl) (fun b40=> ?_)
 refine zo 0 rfl rfl rfl rfl rfl sz45 rfl (.take (.take (.take (.take .nil)))) .z<|r_pv rfl rfl (zd rfl)<|zk<|zf<|zi<|zc<|r_pv rfl rfl (zb rfl)<|r_pv rfl rfl (zb rfl)<|r_pv rfl rfl (zC (z:=0) rfl rfl (w64 (by decide)))<|r_pv rfl rfl (zb rfl)<|r_pv rfl rfl (zC (z:=0) rfl rfl (w64 (by decide)))<|r_pv rfl rfl (zqa rfl rfl) ?_
 rw [show true=true from by decide]
 refine r_pv rfl rfl (zb rfl)<|r_pv rfl rfl (zb rfl)<|r_pv rfl rfl (zqa rfl rfl) ?_
 rw [show true=true from by decide]
 refine r_pv rfl rfl (zm rfl rfl)<|r_pv rfl rfl (zb rfl)<|r_pv rfl rfl (zg Try.underlying47 rfl sz45 rfl rfl)<|r_u rfl rfl (zh 6 ty45 rfl rfl (.take (.take (.take (.take .nil)))))<|r_u rfl rfl (zh 1 ty45 rfl rfl (.take (.take (.take (.take .nil)))))<|zO rfl rfl (.c rfl (.c rfl .n)) ce20 (zBa (u1:=w315) (v1:=w416) (q1:=Rat.divInt (2*((Fl.blK.getD 0 b0).mx)+((Fl.blK.getD 0 b0).ms)) (2*((Fl.blK.getD 0 b0).ms))) (u2:=w335) (v2:=w436) (q2:=Rat.divInt 7 6) (hl:=by first|rfl|assumption|omega|decide|(decide +kernel))) (.c (j:=7) rfl (.c (j:=1) rfl .n)) ?_
 rw [show (decide ((Rat.divInt (2*((Fl.blK.getD 0 b0).mx)+((Fl.blK.getD 0 b0).ms)) (2*((Fl.blK.getD 0 b0).ms)))=(Rat.divInt 7 6)))=true from by decide +kernel]
 refine r_pv rfl rfl (zm rfl rfl)<|r_pv rfl rfl (zb rfl)<|r_u rfl rfl (zh 5 ty45 rfl rfl (.take (.take (.take (.take .nil)))))<|r_u rfl rfl (zh 0 ty45 rfl rfl (.take (.take (.take (.take .nil)))))<|zO rfl rfl (.c rfl (.c rfl .n)) ce20 (zBa (u1:=w323) (v1:=w424) (q1:=Rat.divInt (((Fl.blK.getD 0 b0).xx)*((Fl.blK.getD 0 b0).ar) - ((Fl.blK.getD 0 b0).sx)*((Fl.blK.getD 0 b0).sx)) (((Fl.blK.getD 0 b0).ar)*((Fl.blK.getD 0 b0).ar))) (u2:=w338) (v2:=w439) (q2:=Rat.divInt 2 9) (hl:=by first|rfl|assumption|omega|decide|(decide +kernel))) (.c (j:=3) rfl (.c (j:=0) rfl .n)) ?_
 rw [show (decide ((Rat.divInt (((Fl.blK.getD 0 b0).xx)*((Fl.blK.getD 0 b0).ar) - ((Fl.blK.getD 0 b0).sx)*((Fl.blK.getD 0 b0).sx)) (((Fl.blK.getD 0 b0).ar)*((Fl.blK.getD 0 b0).ar)))=(Rat.divInt 2 9)))=true from by decide +kernel]
 refine r_pv rfl rfl (zm rfl rfl)<|r_pv rfl rfl (zb rfl)<|r_u rfl rfl (zh 3 ty45 rfl rfl (.take (.take (.take (.take .nil)))))<|r_u rfl rfl (zh 0 ty45 rfl rfl (.take (.take (.take (.take .nil)))))<|zO rfl rfl (.c rfl (.c rfl .n)) ce20 (zBa (u1:=w727) (v1:=w828) (q1:=Rat.divInt (((Fl.blK.getD 0 b0).yy)*((Fl.blK.getD 0 b0).ar) - ((Fl.blK.getD 0 b0).sy)*((Fl.blK.getD 0 b0).sy)) (((Fl.blK.getD 0 b0).ar)*((Fl.blK.getD 0 b0).ar))) (u2:=w338) (v2:=w439) (q2:=Rat.divInt 2 9) (hl:=by first|rfl|assumption|omega|decide|(decide +kernel))) (.c (j:=5) rfl (.c (j:=0) rfl .n)) ?_
 rw [show (decide ((Rat.divInt (((Fl.blK.getD 0 b0).yy)*((Fl.blK.getD 0 b0).ar) - ((Fl.blK.getD 0 b0).sy)*((Fl.blK.getD 0 b0).sy)) (((Fl.blK.getD 0 b0).ar)*((Fl.blK.getD 0 b0).ar)))=(Rat.divInt 2 9)))=true from by decide +kernel]
 refine r_pv rfl rfl (zm rfl rfl)<|r_pv rfl rfl (zb rfl)<|r_pv rfl rfl (zb rfl)<|zK (x0:=(Fl.blK.getD 0 b0)) 11 0 rfl Try.underlying35 sz51 rfl rfl rfl (by first|rfl|assumption|(simp_all;done)|omega) rfl rfl (gD (d:=b0) (by first|omega|decide)) (fun b41 o42 hok43=> ?_)
 obtain ⟨hok430,hok431,hok432,hok433,hok434,hok435,hok436,hok437,hok438,hok439,hok4310,hok4311,hok4312⟩:=hok43
 replace hok430:=zj.1 hok430
 replace hok431:=zj.1 hok431
 replace hok432:=zj.1 hok432
 replace hok433:=zj.1 hok433
 replace hok434:=zj.1 hok434
 replace hok435:=zj.1 hok435
 replace hok436:=zj.1 hok436
 replace hok437:=zj.1 hok437
 replace hok438:=zj.1 hok438
 replace hok439:=zj.1 hok439
 replace hok4310:=zj.1 hok4310
 replace hok4311:=zj.1 hok4311
 replace hok4312:=zj.1 hok4312
 refine r_u rfl rfl (zpa (j:=0) 0 ty51 rfl rfl rfl (.take (.take (.take (.take (.take (.take (.take (.take (.take (.take (.take (.take (.take .nil))))))))))))))<|r_pv rfl rfl (zG zr51 rfl Try.underlying51 (.c sz3 (.c sz3 (.c sz3 (.c sz3 (.c sz3 (.c sz3 (.c sz3 (.c sz3 (.c sz3 (.c sz3 (.c sz3 (.c sz3 (.c sz3 .n))))))))))))) (.c rfl (.c rfl (.c rfl (.c rfl (.c rfl (.c rfl (.c rfl (.c rfl (.c rfl (.c rfl (.c rfl .n))))))))))) (.c rfl rfl rfl (.take .nil) (.c rfl rfl rfl (.skip (.skip (.skip (.take .nil)))) (.c rfl rfl rfl (.skip (.skip (.skip (.skip (.take .nil))))) (.c rfl rfl rfl (.skip (.skip (.skip (.skip (.skip (.take .nil)))))) (.c rfl rfl rfl (.skip (.skip (.skip (.skip (.skip (.skip (.take .nil))))))) (.c rfl rfl rfl (.skip (.skip (.skip (.skip (.skip (.skip (.skip (.take .nil)))))))) (.c rfl rfl rfl (.skip (.skip (.skip (.skip (.skip (.skip (.skip (.skip (.take .nil))))))))) (.c rfl rfl rfl (.skip (.skip (.skip (.skip (.skip (.skip (.skip (.skip (.skip (.take .nil)))))))))) (.c rfl rfl rfl (.skip (.skip (.skip (.skip (.skip (.skip (.skip (.skip (.skip (.skip (.take .nil))))))))))) (.c rfl rfl rfl (.skip (.skip (.skip (.skip (.skip (.skip (.skip (.skip (.skip (.skip (.skip (.take .nil)))))))))))) (.c rfl rfl rfl (.skip (.skip (.skip (.skip (.skip (.skip (.skip (.skip (.skip (.skip (.skip (.skip (.take .nil))))))))))))) .n))))))))))))<|r_pv rfl rfl (zWd (p:=(Fl.blK.getD 0 b0).ar=3∧(Fl.blK.getD 0 b0).le=0∧(Fl.blK.getD 0 b0).tp=0∧(Fl.blK.getD 0 b0).rt=1∧(Fl.blK.getD 0 b0).bt=1∧(Fl.blK.getD 0 b0).sx=2∧(Fl.blK.getD 0 b0).sy=1∧(Fl.blK.getD 0 b0).xx=2∧(Fl.blK.getD 0 b0).xy=1∧(Fl.blK.getD 0 b0).yy=1∧(Fl.blK.getD 0 b0).ms=27∧(Fl.blK.getD 0 b0).mx=18∧(Fl.blK.getD 0 b0).my=9) (by kernel_rfl) rfl rfl (zVd Try.underlying51 (by kernel_rfl) (zXa (by decide) ty3 rfl rfl (zWa Try.underlying3) (zXa (by decide) ty3 rfl rfl (zWa Try.underlying3) (zXa (by decide) ty3 rfl rfl (zWa Try.underlying3) (zXa (by decide) ty3 rfl rfl (zWa Try.underlying3) (zXa (by decide) ty3 rfl rfl (zWa Try.underlying3) (zXa (by decide) ty3 rfl rfl (zWa Try.underlying3) (zXa (by decide) ty3 rfl rfl (zWa Try.underlying3) (zXa (by decide) ty3 rfl rfl (zWa Try.underlying3) (zXa (by decide) ty3 rfl rfl (zWa Try.underlying3) (zXa (by decide) ty3 rfl rfl (zWa Try.underlying3) (zXa (by decide) ty3 rfl rfl (zWa Try.underlying3) (zXa (by decide) ty3 rfl rfl (zWa Try.underlying3) (zXa (by decide) ty3 rfl rfl (zWa Try.underlying3) zvf)))))))))))))) (by simp [Bool.decide_and])) ?_
 rw [show (decide ((Fl.blK.getD 0 b0).ar=3∧(Fl.blK.getD 0 b0).le=0∧(Fl.blK.getD 0 b0).tp=0∧(Fl.blK.getD 0 b0).rt=1∧(Fl.blK.getD 0 b0).bt=1∧(Fl.blK.getD 0 b0).sx=2∧(Fl.blK.getD 0 b0).sy=1∧(Fl.blK.getD 0 b0).xx=2∧(Fl.blK.getD 0 b0).xy=1∧(Fl.blK.getD 0 b0).yy=1∧(Fl.blK.getD 0 b0).ms=27∧(Fl.blK.getD 0 b0).mx=18∧(Fl.blK.getD 0 b0).my=9))=true from by decide +kernel]
 refine r_pv rfl rfl (zm rfl rfl)<|r_pv rfl rfl (zd rfl)<|zk<|zf<|zI ?_
 exact zD Try.results9 () trivial (zq rfl) rfl (ho:=(.n:PickO _ _ _)) (.n:SelR _ _ _)
end Go.Proofs.Ytefbbhiaalcjfaa.Sp
namespace Go.Proofs.Ytefbbhiaalcjfaa.Fl
open Sp (Bb b0)
theorem tog_comm (a b:Bb):tog a b=tog b a:=by unfold tog;simp only [Bb.mk.injEq];omega
theorem tog_assoc (a b c:Bb):tog (tog a b) c=tog a (tog b c):=by unfold tog;simp only [Bb.mk.injEq];omega
def om:Option Bb→Option Bb→Option Bb
  |none,b=>b
  |some a,none=>some a
  |some a,some b=>some (tog a b)
theorem om_none (a:Option Bb):om a none=a:=by cases a <;> rfl
theorem om_comm (a b:Option Bb):om a b=om b a:=by
  cases a <;> cases b <;> simp only [om]
  rw [tog_comm]
theorem om_assoc (a b c:Option Bb):om (om a b) c=om a (om b c):=by
  cases a <;> cases b <;> cases c <;> simp only [om]
  rw [tog_assoc]
def sumP:List (Option Bb)→Option Bb
  |[]=>none
  |a :: t=>om a (sumP t)
def sumO (l:List Bb):Option Bb:=sumP (l.map some)
theorem sumP_append (A B:List (Option Bb)):sumP (A++B)=om (sumP A) (sumP B):=by
  induction A with
  |nil=>rfl
  |cons a t ih=>rw [List.cons_append,sumP,ih,sumP,om_assoc]
theorem sumO_append (A B:List Bb):sumO (A++B)=om (sumO A) (sumO B):=by unfold sumO;rw [List.map_append,sumP_append]
theorem sumO_cons (x:Bb) (B:List Bb):sumO (x :: B)=om (some x) (sumO B):=rfl
theorem acc_om {w:Nat} {l o:List Int} {k:Int} {i:Nat} (hx:o.getD i 0=k):acc w l o k (i+1)=om (acc w l o k i) (some (one w l i)):=by
  rw [acc_next hx];cases acc w l o k i <;> rfl
section
variable {w n : Nat} {f : Nat → Bool} {adj : Nat → Nat → Prop} {c : Nat → Nat} {l o : List Int}
theorem cnt_surj (q:Nat→Bool):∀n k,k<cnt q n→∃j,j<n∧q j=true∧cnt q j=k:=by
  intro n
  induction n with
  |zero=>intro k h;exact absurd h (by simp [cnt])
  |succ n ih=>
    intro k h
    rw [cnt_succ] at h
    by_cases e:k<cnt q n
    · obtain ⟨j,a,b,d⟩:=ih k e;exact ⟨j,by omega,b,d⟩
    · by_cases x : q n = true
      · rw [if_pos x] at h;exact ⟨n,by omega,x,by omega⟩
      · rw [if_neg x] at h;omega
theorem acc_all (h:LabC n f c o) {k:Nat} (hk:k<cnt (ldr f c) n):acc w l o (k:Int) n≠none:=by
  obtain ⟨j,a,b,d⟩:=cnt_surj _ _ _ hk
  refine acc_some n ⟨j,a,?_⟩
  rw [h.yes j a (ldr_iff.1 b).1,(ldr_iff.1 b).2,d]
end
theorem BlsR.ok {w h m th:Int} {l:List Int} {A:List Bb} (a:BlsR w h m l th A):∀g∈A,okb g:=by
  intro g hg
  by_cases e:Bl.rok w h m l∧0≤th∧th≤65536
  · obtain ⟨c, o, h1, h2, h3⟩ := a.1 e
    obtain ⟨u,v,rfl,rfl,hw,hh,hn,hb⟩:=rok_n e.1 rfl
    rw [h3] at hg
    obtain ⟨k,hk,rfl⟩:=List.mem_map.1 hg
    exact gb_okn (acc_all h2 (List.mem_range.1 hk)) (acc_ok hw hh.2 hn hb (rok_g e.1 rfl) _ (Nat.le_refl _))
  · rw [a.2 e] at hg;cases hg
def tar:List Bb→Int
  |[]=>0
  |a :: t=>a.ar+tar t
theorem tar_append (A B:List Bb):tar (A++B)=tar A+tar B:=by
  induction A with
  |nil=>simp [tar]
  |cons a t ih=>rw [List.cons_append,tar,ih,tar];omega
theorem tar_sum:∀A:List Bb,(∀s,sumO A=some s→s.ar=tar A)
  |[]=>fun s h=>by cases h
  |a :: t=>fun s h=>by
    rw [sumO_cons] at h
    cases e:sumO t with
    |none=>
      rw [e] at h;cases h
      cases t with
      |nil=>simp [tar]
      |cons b t=>rw [sumO_cons] at e;cases h2:sumO t <;> rw [h2] at e <;> cases e
    |some b=>rw [e] at h;cases h;have:=tar_sum t b e;show a.ar+b.ar=_;rw [this];rfl
theorem tar_pos {A:List Bb} (h:∀x∈A,okb x):0≤tar A:=by
  induction A with
  |nil=>exact Int.le_refl _
  |cons a t ih=>have h1:=(h a (by simp)).1;have h2:=ih fun x hx=>h x (by simp [hx]);rw [tar];omega
theorem split2 {A:List Bb} {i:Nat} (h:i+1<A.length):∃P x Q y,A=P++x :: (Q++[y])∧P.length=i∧A.getD i b0=x∧A.getD (A.length - 1) b0=y∧∀v,(A.set i v).take (A.length - 1)=P++v :: Q:=by
  have hne:A.drop (i+1)≠[]:=fun e=>by have:=congrArg List.length e;rw [List.length_drop] at this;simp at this;omega
  have e1:A=A.take i++A[i] :: ((A.drop (i+1)).dropLast++[(A.drop (i+1)).getLast hne]):=by
    rw [List.dropLast_concat_getLast hne,←List.drop_eq_getElem_cons (show i<A.length by omega),List.take_append_drop]
  obtain ⟨P,hP⟩:∃P,P=A.take i:=⟨_,rfl⟩
  obtain ⟨Q,hQ⟩:∃Q,Q=(A.drop (i+1)).dropLast:=⟨_,rfl⟩
  obtain ⟨x,hx⟩:∃x,x=A[i]:=⟨_,rfl⟩
  obtain ⟨y,hy⟩:∃y,y=(A.drop (i+1)).getLast hne:=⟨_,rfl⟩
  rw [← hP,←hQ,←hx,←hy] at e1
  have hl:P.length=i:=by rw [hP,List.length_take];omega
  refine ⟨P,x,Q,y,e1,hl,?_,?_,fun v=> ?_⟩
  · rw [List.getD_eq_getElem?_getD,List.getElem?_eq_getElem (by omega),hx];rfl
  · rw [e1, List.getD_eq_getElem?_getD]
    have e2:(P++x :: (Q++[y])).length - 1=P.length+(Q.length+1):=by simp
    rw [e2,List.getElem?_append_right (by omega),Nat.add_sub_cancel_left,List.getElem?_cons_succ,List.getElem?_append_right (Nat.le_refl _)];simp
  · have e2 : A.length - 1 = P.length + (Q.length + 1) := by rw [e1]; simp
    rw [e2,e1,←hl,List.set_append_right _ _ (Nat.le_refl _),Nat.sub_self,List.set_cons_zero,List.take_append,List.take_of_length_le (by omega),Nat.add_sub_cancel_left,List.take_succ_cons,List.take_append,List.take_of_length_le (Nat.le_refl _),Nat.sub_self]
    simp
structure WhI (T:Option Bb) (N k:Nat) (A:List Bb):Prop where
  sum:sumO A=T
  ok:∀x∈A,okb x
  len:k+A.length=N
theorem WhI.step {T:Option Bb} {N k i:Nat} {A:List Bb} (h:WhI T N k A) (hT:∀s,T=some s→s.ar≤4096) (hi:i+1<A.length):
    okb (A.getD i b0)∧okb (A.getD (A.length - 1) b0)∧(A.getD i b0).ar+(A.getD (A.length - 1) b0).ar≤4096∧WhI T N (k+1) ((A.set i (tog (A.getD i b0) (A.getD (A.length - 1) b0))).take (A.length - 1)):=by
  obtain ⟨P,x,Q,y,e1,e2,e3,e4,e5⟩:=split2 hi
  rw [e5,e3,e4]
  have hx:okb x:=h.ok x (by rw [e1];simp)
  have hy:okb y:=h.ok y (by rw [e1];simp)
  have hP:=tar_pos (A:=P) fun z hz=>h.ok z (by rw [e1];simp [hz])
  have hQ:=tar_pos (A:=Q) fun z hz=>h.ok z (by rw [e1];simp [hz])
  have hs:x.ar+y.ar≤4096:=by
    cases e:T with
    |none=>
      have:=h.sum;rw [e1,e,sumO_append,sumO_cons] at this
      cases h1:sumO P <;> cases h2:sumO (Q++[y]) <;> rw [h1,h2] at this <;> cases this
    |some s=>
      have h1:=tar_sum A s (by rw [h.sum,e])
      rw [e1,tar_append,tar,tar_append,tar,tar] at h1
      have:=hT s e;omega
  refine ⟨hx,hy,hs,?_,fun z hz=> ?_,?_⟩
  · rw [← h.sum, e1, sumO_append, sumO_append, sumO_cons, sumO_cons, sumO_append, sumO_cons]
    have:sumO ([]:List Bb)=none:=rfl
    rw [this,om_none]
    congr 1
    rw [om_comm (sumO Q),←om_assoc];rfl
  · rcases List.mem_append.1 hz with a | a
    · exact h.ok z (by rw [e1];simp [a])
    · rcases List.mem_cons.1 a with a | a
      · rw [a];exact tog_ok hx hy hs
      · exact h.ok z (by rw [e1];simp [a])
  · have:=h.len;rw [e1] at this;simp only [List.length_append,List.length_cons,List.length_nil] at this ⊢;omega
theorem WhI.nil {T:Option Bb} {N k:Nat} {A:List Bb} (h:WhI T N k A) (hl:A.length=0):T=none:=by
  rw [← h.sum,List.length_eq_zero_iff.1 hl];rfl
theorem WhI.one {T:Option Bb} {N k:Nat} {A:List Bb} (h:WhI T N k A) (hl:A.length=1):A.getD 0 b0=gb T:=by
  obtain ⟨x,rfl⟩:=List.length_eq_one_iff.1 hl
  rw [← h.sum];rfl
end Go.Proofs.Ytefbbhiaalcjfaa.Fl
namespace Go.Proofs.Ytefbbhiaalcjfaa.Fl
open Sp (Bb b0)
theorem sumO_perm {A B:List Bb} (h:A.Perm B):sumO A=sumO B:=by
  induction h with
  |nil=>rfl
  |cons x _ ih=>rw [sumO_cons,sumO_cons,ih]
  |swap x y l=>rw [sumO_cons,sumO_cons,sumO_cons,sumO_cons,←om_assoc,←om_assoc,om_comm (some y)]
  |trans _ _ a b=>rw [a,b]
theorem om_map {T:Bb→Bb} (hT:∀a b,T (tog a b)=tog (T a) (T b)) (a b:Option Bb):(om a b).map T=om (a.map T) (b.map T):=by
  cases a <;> cases b <;> simp only [om,Option.map_none,Option.map_some]
  rw [hT]
theorem sumO_map {T:Bb→Bb} (hT:∀a b,T (tog a b)=tog (T a) (T b)) (A:List Bb):(sumO A).map T=sumO (A.map T):=by
  induction A with
  |nil=>rfl
  |cons x A ih=>rw [sumO_cons,om_map hT,ih,List.map_cons,sumO_cons];rfl
theorem zoc {α:Type} [DecidableEq α] {A B:List α} (ha:A.Nodup) (hb:B.Nodup) (h:∀x,x∈A↔x∈B):A.Perm B:=by
  rw [List.perm_iff_count]
  intro x
  rw [List.Nodup.count ha,List.Nodup.count hb]
  simp only [h x]
theorem asc_eq:∀{A B:List Nat},A.Pairwise (· < ·)→B.Pairwise (· < ·)→(∀x,x∈A↔x∈B)→A=B
  |[],[],_,_,_=>rfl
  |[],b :: B,_,_,h=>absurd ((h b).2 (List.mem_cons_self ..)) (by simp)
  |a :: A,[],_,_,h=>absurd ((h a).1 (List.mem_cons_self ..)) (by simp)
  |a :: A,b :: B,ha,hb,h=>by
    rw [List.pairwise_cons] at ha hb
    have e:a=b:=by
      rcases List.mem_cons.1 ((h a).1 (List.mem_cons_self ..)) with e|e
      · exact e
      · rcases List.mem_cons.1 ((h b).2 (List.mem_cons_self ..)) with f | f
        · exact f.symm
        · have:=hb.1 _ e;have:=ha.1 _ f;omega
    subst e
    rw [asc_eq ha.2 hb.2 fun x=> ?_]
    constructor
    · intro hx
      rcases List.mem_cons.1 ((h x).1 (List.mem_cons_of_mem _ hx)) with e|e
      · subst e;exact absurd (ha.1 _ hx) (Nat.lt_irrefl _)
      · exact e
    · intro hx
      rcases List.mem_cons.1 ((h x).2 (List.mem_cons_of_mem _ hx)) with e|e
      · subst e;exact absurd (hb.1 _ hx) (Nat.lt_irrefl _)
      · exact e
def cpx (f:Nat→Bool) (c:Nat→Nat) (n i:Nat):List Nat:=(List.range n).filter fun j=>f j&&decide (c j=i)
def cls (w:Nat) (l:List Int) (f:Nat→Bool) (c:Nat→Nat) (n i:Nat):Option Bb:=sumO ((cpx f c n i).map (one w l))
def lds (f:Nat→Bool) (c:Nat→Nat) (n:Nat):List Nat:=(List.range n).filter (ldr f c)
theorem cpx_mem {f:Nat→Bool} {c:Nat→Nat} {n i j:Nat}:j∈cpx f c n i↔j<n∧f j=true∧c j=i:=by simp [cpx]
theorem cpx_nodup (f:Nat→Bool) (c:Nat→Nat) (n i:Nat):(cpx f c n i).Nodup:=List.nodup_range.sublist List.filter_sublist
theorem lds_mem {f:Nat→Bool} {c:Nat→Nat} {n i:Nat}:i∈lds f c n↔i<n∧f i=true∧c i=i:=by simp [lds,ldr]
theorem lds_cnt (q:Nat→Bool) (n:Nat):((List.range n).filter q).map (fun i=>cnt q i)=List.range (cnt q n):=by
  induction n with
  |zero=>rfl
  |succ n ih=>
    rw [List.range_succ,List.filter_append,List.map_append,ih,cnt_succ]
    by_cases h:q n=true
    · simp [h,List.range_succ]
    · simp [h]
theorem cnt_inj (q:Nat→Bool) {i j:Nat} (hi:q i=true) (hj:q j=true) (h:cnt q i=cnt q j):i=j:=by
  rcases Nat.lt_trichotomy i j with k|k|k
  · have:=cnt_lt q k hi;omega
  · exact k
  · have:=cnt_lt q k hj;omega
section
variable {w n : Nat} {f : Nat → Bool} {adj : Nat → Nat → Prop} {c : Nat → Nat} {l o : List Int}
theorem acc_cls (hc:Lst (fun j=>f j=true) adj c) (h:LabC n f c o) {i:Nat} (hi:ldr f c i=true):∀m,m≤n→acc w l o (cnt (ldr f c) i:Int) m=sumO (((List.range m).filter fun j=>f j&&decide (c j=i)).map (one w l)):=by
  intro m
  induction m with
  |zero=>intro _;rfl
  |succ m ih=>
    intro hm
    rw [List.range_succ,List.filter_append,List.map_append,sumO_append,←ih (by omega)]
    by_cases e:f m=true∧c m=i
    · have hx : o.getD m 0 = (cnt (ldr f c) i : Int) := by rw [h.yes m (by omega) e.1, e.2]
      rw [acc_om hx];simp [e.1,e.2];rfl
    · have hx:¬o.getD m 0=(cnt (ldr f c) i:Int):=fun k=>by
        by_cases hf:f m=true
        · rw [h.yes m (by omega) hf] at k
          exact e ⟨hf,cnt_inj (ldr f c) (ldr_iff.2 ⟨hc.mem hf,hc.idem hf⟩) hi (by omega)⟩
        · rw [h.not m (by omega) hf] at k;omega
      rw [acc_keep hx]
      have:(f m&&decide (c m=i))=false:=by
        by_cases hf:f m=true
        · have hne : ¬ c m = i := fun k => e ⟨hf, k⟩
          simp [hf,hne]
        · simp [hf]
      simp [this];exact (om_none _).symm
theorem bls_lds (hc:Lst (fun j=>f j=true) adj c) (h:LabC n f c o):bls w l o (cnt (ldr f c) n) n=(lds f c n).map fun i=>gb (cls w l f c n i):=by
  unfold bls
  rw [← lds_cnt (ldr f c) n,List.map_map]
  refine List.map_congr_left fun i hi=> ?_
  have hl:=(List.mem_filter.1 hi).2
  show gb (acc w l o _ n)=_
  rw [acc_cls hc h hl n (Nat.le_refl _)];rfl
end
structure Mv (w1 n1:Nat) (l1:List Int) (f1:Nat→Bool) (adj1:Nat→Nat→Prop) (w2 n2:Nat) (l2:List Int) (f2:Nat→Bool) (adj2:Nat→Nat→Prop) (φ:Nat→Nat) (T:Bb→Bb):Prop where
  to:∀i,f1 i=true→f2 (φ i)=true
  inj:∀i j,f1 i=true→f1 j=true→φ i=φ j→i=j
  sur:∀j,f2 j=true→∃i,f1 i=true∧φ i=j
  adj:∀i j,f1 i=true→f1 j=true→(adj1 i j↔adj2 (φ i) (φ j))
  one:∀i,f1 i=true→T (one w1 l1 i)=one w2 l2 (φ i)
  tog:∀a b,T (tog a b)=tog (T a) (T b)
  lt1:∀i,f1 i=true→i<n1
  lt2:∀i,f2 i=true→i<n2
section
variable {w1 n1 w2 n2 : Nat} {l1 l2 : List Int} {f1 f2 : Nat → Bool} {adj1 adj2 : Nat → Nat → Prop} {φ : Nat → Nat} {T : Bb → Bb} {c1 c2 : Nat → Nat}
theorem Mv.conn (h:Mv w1 n1 l1 f1 adj1 w2 n2 l2 f2 adj2 φ T) {i j:Nat} (k:Conn (fun j=>f1 j=true) adj1 i j):Conn (fun j=>f2 j=true) adj2 (φ i) (φ j):=by
  induction k with
  |refl=>exact .refl _
  |step a b d _ ih=>exact .step (h.to _ a) (h.to _ b) ((h.adj _ _ a b).1 d) ih
theorem Mv.back (h:Mv w1 n1 l1 f1 adj1 w2 n2 l2 f2 adj2 φ T) {x y:Nat} (k:Conn (fun j=>f2 j=true) adj2 x y):∀i,f1 i=true→φ i=x→∃j,f1 j=true∧φ j=y∧Conn (fun j=>f1 j=true) adj1 i j:=by
  induction k with
  |refl=>exact fun i hi e=>⟨i,hi,e,.refl _⟩
  |step a b d _ ih=>
    intro i hi e
    obtain ⟨j,hj,ej⟩:=h.sur _ b
    obtain ⟨k,hk,ek,ck⟩:=ih j hj ej
    exact ⟨k,hk,ek,.step hi hj ((h.adj i j hi hj).2 (by rw [e,ej];exact d)) ck⟩
theorem Mv.iff (h:Mv w1 n1 l1 f1 adj1 w2 n2 l2 f2 adj2 φ T) (h1:Lst (fun j=>f1 j=true) adj1 c1) (h2:Lst (fun j=>f2 j=true) adj2 c2) (s1:∀i j,adj1 i j→adj1 j i) (s2:∀i j,adj2 i j→adj2 j i) {i j:Nat} (hi:f1 i=true) (hj:f1 j=true):c2 (φ i)=c2 (φ j)↔c1 i=c1 j:=by
  rw [h1.iff s1 hi hj,h2.iff s2 (h.to _ hi) (h.to _ hj)]
  constructor
  · intro k
    obtain ⟨m,hm,em,cm⟩:=h.back k i hi rfl
    rw [← h.inj _ _ hm hj em];exact cm
  · exact h.conn
theorem Mv.cls (h:Mv w1 n1 l1 f1 adj1 w2 n2 l2 f2 adj2 φ T) (h1:Lst (fun j=>f1 j=true) adj1 c1) (h2:Lst (fun j=>f2 j=true) adj2 c2) (s1:∀i j,adj1 i j→adj1 j i) (s2:∀i j,adj2 i j→adj2 j i) {i:Nat} (hi:f1 i=true):
    Fl.cls w2 l2 f2 c2 n2 (c2 (φ i))=(Fl.cls w1 l1 f1 c1 n1 (c1 i)).map T:=by
  unfold Fl.cls
  rw [sumO_map h.tog]
  have e:((cpx f1 c1 n1 (c1 i)).map (Fl.one w1 l1)).map T=((cpx f1 c1 n1 (c1 i)).map φ).map (Fl.one w2 l2):=by
    rw [List.map_map,List.map_map]
    exact List.map_congr_left fun j hj=>h.one j (cpx_mem.1 hj).2.1
  rw [e]
  refine sumO_perm (List.Perm.map _ (zoc (cpx_nodup ..) ?_ fun x=> ?_))
  · rw [List.nodup_iff_pairwise_ne, List.pairwise_map]
    exact (List.nodup_iff_pairwise_ne.1 (cpx_nodup f1 c1 n1 (c1 i))).imp_of_mem fun {a b} ha hb hab e=>hab (h.inj a b (cpx_mem.1 ha).2.1 (cpx_mem.1 hb).2.1 e)
  · rw [cpx_mem, List.mem_map]
    constructor
    · rintro ⟨hx, fx, cx⟩
      obtain ⟨j,hj,rfl⟩:=h.sur x fx
      exact ⟨j,cpx_mem.2 ⟨h.lt1 j hj,hj,(h.iff h1 h2 s1 s2 hj hi).1 cx⟩,rfl⟩
    · rintro ⟨j, hj, rfl⟩
      obtain ⟨a,b,d⟩:=cpx_mem.1 hj
      exact ⟨h.lt2 _ (h.to _ b),h.to _ b,(h.iff h1 h2 s1 s2 b hi).2 d⟩
theorem cls_some {w n:Nat} {l:List Int} {f:Nat→Bool} {c:Nat→Nat} {i j:Nat} (hj:j∈cpx f c n i):Fl.cls w l f c n i≠none:=by
  unfold Fl.cls
  cases e:cpx f c n i with
  |nil=>rw [e] at hj;cases hj
  |cons a t=>rw [List.map_cons,sumO_cons];cases sumO (t.map (one w l)) <;> simp [om]
theorem gb_map {a:Option Bb} {T:Bb→Bb} (h:a≠none):gb (a.map T)=T (gb a):=by
  cases a with
  |none=>exact absurd rfl h
  |some a=>rfl
theorem Mv.some (h:Mv w1 n1 l1 f1 adj1 w2 n2 l2 f2 adj2 φ T) (h1:Lst (fun j=>f1 j=true) adj1 c1) (h2:Lst (fun j=>f2 j=true) adj2 c2) (s1:∀i j,adj1 i j→adj1 j i) (s2:∀i j,adj2 i j→adj2 j i):
    (lds f2 c2 n2).length=(lds f1 c1 n1).length∧∀a∈(lds f1 c1 n1).map (fun i=>gb (Fl.cls w1 l1 f1 c1 n1 i)),T a∈(lds f2 c2 n2).map (fun i=>gb (Fl.cls w2 l2 f2 c2 n2 i)):=by
  have hp:(lds f2 c2 n2).Perm ((lds f1 c1 n1).map fun i=>c2 (φ i)):=by
    refine zoc (List.nodup_range.sublist List.filter_sublist) ?_ fun x=> ?_
    · rw [List.nodup_iff_pairwise_ne, List.pairwise_map]
      have hn:(lds f1 c1 n1).Nodup:=List.nodup_range.sublist List.filter_sublist
      refine (List.nodup_iff_pairwise_ne.1 hn).imp_of_mem fun {a b} ha hb hab e=>hab ?_
      obtain ⟨_,fa,ca⟩:=lds_mem.1 ha
      obtain ⟨_,fb,cb⟩:=lds_mem.1 hb
      rw [← ca,←cb];exact (h.iff h1 h2 s1 s2 fa fb).1 e
    · rw [lds_mem, List.mem_map]
      constructor
      · rintro ⟨_, fx, cx⟩
        obtain ⟨j,hj,rfl⟩:=h.sur x fx
        refine ⟨c1 j,lds_mem.2 ⟨h.lt1 _ (h1.mem hj),h1.mem hj,h1.idem hj⟩,?_⟩
        rw [← cx];exact ((h.iff h1 h2 s1 s2 (h1.mem hj) hj).2 (h1.idem hj)).trans (by rw [cx])
      · rintro ⟨i, hi, rfl⟩
        obtain ⟨_,fi,_⟩:=lds_mem.1 hi
        have m:=h2.mem (h.to _ fi)
        exact ⟨h.lt2 _ m,m,h2.idem (h.to _ fi)⟩
  refine ⟨by rw [hp.length_eq,List.length_map],fun a ha=> ?_⟩
  obtain ⟨i,hi,rfl⟩:=List.mem_map.1 ha
  obtain ⟨ii,fi,ci⟩:=lds_mem.1 hi
  have k:=h.cls h1 h2 s1 s2 fi
  rw [ci] at k
  refine List.mem_map.2 ⟨c2 (φ i),hp.mem_iff.2 (List.mem_map.2 ⟨i,hi,rfl⟩),?_⟩
  show gb _=_
  rw [k];exact gb_map (cls_some (j:=i) (cpx_mem.2 ⟨ii,fi,ci⟩))
theorem Mv.all (h:Mv w1 n1 l1 f1 adj1 w2 n2 l2 f2 adj2 φ T) (h1:Lst (fun j=>f1 j=true) adj1 c1) (h2:Lst (fun j=>f2 j=true) adj2 c2) (s1:∀i j,adj1 i j→adj1 j i) (s2:∀i j,adj2 i j→adj2 j i)
    (hm:∀i j,f1 i=true→f1 j=true→i<j→φ i<φ j):(lds f2 c2 n2).map (fun i=>gb (Fl.cls w2 l2 f2 c2 n2 i))=((lds f1 c1 n1).map (fun i=>gb (Fl.cls w1 l1 f1 c1 n1 i))).map T:=by
  have hc:∀i,f1 i=true→c2 (φ i)=φ (c1 i):=fun i hi=>by
    obtain ⟨j,hj,ej⟩:=h.sur _ (h2.mem (h.to _ hi))
    have e1:c1 j=c1 i:=(h.iff h1 h2 s1 s2 hj hi).1 (by rw [ej];exact h2.idem (h.to _ hi))
    have a:=h2.le _ (h.to _ (h1.mem hi))
    rw [(h.iff h1 h2 s1 s2 (h1.mem hi) hi).2 (h1.idem hi),←ej] at a
    have b:=h1.le j hj
    rw [e1] at b
    rcases Nat.lt_or_eq_of_le b with b|b
    · have:=hm _ _ (h1.mem hi) hj b;omega
    · rw [← ej,b]
  have hl:lds f2 c2 n2=(lds f1 c1 n1).map φ:=by
    refine asc_eq (List.Pairwise.filter _ List.pairwise_lt_range) ?_ fun x=> ?_
    · rw [List.pairwise_map]
      have hp:(lds f1 c1 n1).Pairwise (· < ·):=List.Pairwise.filter _ List.pairwise_lt_range
      exact hp.imp_of_mem fun {a b} ha hb hab=>hm a b (lds_mem.1 ha).2.1 (lds_mem.1 hb).2.1 hab
    · rw [lds_mem, List.mem_map]
      constructor
      · rintro ⟨_, fx, cx⟩
        obtain ⟨j,hj,rfl⟩:=h.sur x fx
        rw [hc j hj] at cx
        have e:=h.inj _ _ (h1.mem hj) hj cx
        exact ⟨j,lds_mem.2 ⟨h.lt1 j hj,hj,e⟩,rfl⟩
      · rintro ⟨i, hi, rfl⟩
        obtain ⟨_,fi,ci⟩:=lds_mem.1 hi
        exact ⟨h.lt2 _ (h.to _ fi),h.to _ fi,by rw [hc i fi,ci]⟩
  rw [hl,List.map_map,List.map_map]
  refine List.map_congr_left fun i hi=> ?_
  obtain ⟨ii,fi,ci⟩:=lds_mem.1 hi
  have k:=h.cls h1 h2 s1 s2 fi
  rw [hc i fi,ci] at k
  show gb _=T _
  rw [k];exact gb_map (cls_some (j:=i) (cpx_mem.2 ⟨ii,fi,ci⟩))
end
end Go.Proofs.Ytefbbhiaalcjfaa.Fl
namespace Go.Proofs.Ytefbbhiaalcjfaa.Fl
open Sp (Bb b0)
def sh (w dx dy i:Nat):Nat:=(i / w+dy)*(w+4)+(i%w+dx)
def tu (w h i:Nat):Nat:=i%w*h+i / w
def shB (dx dy:Int) (a:Bb):Bb:=
  ⟨a.ar,a.le+dx,a.tp+dy,a.rt+dx,a.bt+dy,a.sx+a.ar*dx,a.sy+a.ar*dy,a.xx+2*(a.sx*dx)+a.ar*(dx*dx),a.xy+a.sx*dy+a.sy*dx+a.ar*(dx*dy),a.yy+2*(a.sy*dy)+a.ar*(dy*dy),a.ms,a.mx+a.ms*dx,a.my+a.ms*dy⟩
def swB (a:Bb):Bb:=⟨a.ar,a.tp,a.le,a.bt,a.rt,a.sy,a.sx,a.yy,a.xy,a.xx,a.ms,a.my,a.mx⟩
theorem shB_tog (dx dy:Int) (a b:Bb):shB dx dy (tog a b)=tog (shB dx dy a) (shB dx dy b):=by
  obtain ⟨a1,a2,a3,a4,a5,a6,a7,a8,a9,a10,a11,a12,a13⟩:=a
  obtain ⟨b1,b2,b3,b4,b5,b6,b7,b8,b9,b10,b11,b12,b13⟩:=b
  simp only [shB,tog,Bb.mk.injEq,Int.add_mul,Int.mul_add]
  refine ⟨trivial,?_,?_,?_,?_,?_,?_,?_,?_,?_,trivial,?_,?_⟩ <;> omega
theorem swB_tog (a b:Bb):swB (tog a b)=tog (swB a) (swB b):=rfl
section
variable {w h dx dy i : Nat} (hw : 0 < w)
include hw
theorem sh_mod (hx:dx≤4):sh w dx dy i%(w+4)=i%w+dx:=by
  have:=Nat.mod_lt i hw
  unfold sh;rw [Nat.mul_comm,Nat.mul_add_mod,Nat.mod_eq_of_lt (by omega)]
theorem sh_div (hx:dx≤4):sh w dx dy i / (w+4)=i / w+dy:=by
  have:=Nat.mod_lt i hw
  unfold sh;rw [Nat.mul_comm,Nat.mul_add_div (by omega),Nat.div_eq_of_lt (show i%w+dx<w+4 by omega),Nat.add_zero]
theorem sh_inj (hx:dx≤4) {j:Nat} (e:sh w dx dy i=sh w dx dy j):i=j:=by
  have a:=sh_mod (w:=w) (dy:=dy) (i:=i) hw hx;have b:=sh_mod (w:=w) (dy:=dy) (i:=j) hw hx
  have c:=sh_div (w:=w) (dy:=dy) (i:=i) hw hx;have d:=sh_div (w:=w) (dy:=dy) (i:=j) hw hx
  rw [e] at a c
  have p:=Nat.div_add_mod i w;have q:=Nat.div_add_mod j w
  have e1:i%w=j%w:=by omega
  have e2:i / w=j / w:=by omega
  rw [e1,e2] at p;omega
theorem sh_mono (hx:dx≤4) {j:Nat} (e:i<j):sh w dx dy i<sh w dx dy j:=by
  have hi:=Nat.mod_lt i hw;have hj:=Nat.mod_lt j hw
  have p:=Nat.div_add_mod i w;have q:=Nat.div_add_mod j w
  have k:i / w≤j / w:=Nat.div_le_div_right (by omega)
  unfold sh
  rcases Nat.lt_or_eq_of_le k with k|k
  · have : (i / w + dy + 1) * (w + 4) ≤ (j / w + dy) * (w + 4) := Nat.mul_le_mul_right _ (by omega)
    rw [Nat.add_mul _ 1,Nat.one_mul] at this;omega
  · rw [k];rw [k] at p;omega
theorem sh_lt (hx:dx≤4) (hy:dy≤4) (hi:i<w*h):sh w dx dy i<(w+4)*(h+4):=by
  have a:=Nat.mod_lt i hw
  have b:=Nat.div_lt_of_lt_mul hi
  have:(i / w+dy+1)*(w+4)≤(h+4)*(w+4):=Nat.mul_le_mul_right _ (by omega)
  rw [Nat.add_mul _ 1,Nat.one_mul,Nat.mul_comm (h+4)] at this
  unfold sh;omega
theorem tu_mod (hi:i<w*h):tu w h i%h=i / w:=by
  have b:=Nat.div_lt_of_lt_mul hi
  unfold tu;rw [Nat.mul_comm,Nat.mul_add_mod,Nat.mod_eq_of_lt b]
theorem tu_div (hi:i<w*h):tu w h i / h=i%w:=by
  have b:=Nat.div_lt_of_lt_mul hi
  unfold tu;rw [Nat.mul_comm,Nat.mul_add_div (Nat.lt_of_le_of_lt (Nat.zero_le _) b),Nat.div_eq_of_lt b,Nat.add_zero]
theorem tu_lt (hi:i<w*h):tu w h i<h*w:=by
  have a:=Nat.mod_lt i hw
  have b:=Nat.div_lt_of_lt_mul hi
  have:(i%w+1)*h≤w*h:=Nat.mul_le_mul_right _ (by omega)
  rw [Nat.add_mul _ 1,Nat.one_mul,Nat.mul_comm w] at this
  unfold tu;omega
theorem tu_tu (hi:i<w*h):tu h w (tu w h i)=i:=by
  have a:=tu_mod (h:=h) hw hi;have b:=tu_div (h:=h) hw hi
  show tu w h i%h*w+tu w h i / h=i
  rw [a,b,Nat.mul_comm];exact Nat.div_add_mod i w
end
structure Bg (w h dx dy:Nat) (l B:List Int) (k:Nat):Prop where
  len:B.length=(w+4)*(h+4)
  old:∀i,i<k→B.getD (sh w dx dy i) 0=l.getD i 0
  zero:∀j,(∀i,i<k→sh w dx dy i≠j)→B.getD j 0=0
structure Tn (w h:Nat) (l C:List Int) (k:Nat):Prop where
  len:C.length=w*h
  old:∀i,i<k→C.getD (tu w h i) 0=l.getD i 0
theorem Bg.start (w h dx dy:Nat) (l:List Int):Bg w h dx dy l (List.replicate ((w+4)*(h+4)) 0) 0:=
  ⟨by simp,fun i hi=>by omega,fun j _=>by rw [List.getD_eq_getElem?_getD,List.getElem?_replicate];split <;> rfl⟩
theorem Tn.start (w h:Nat) (l:List Int) {n:Nat} (hn:n=w*h):Tn w h l (List.replicate n 0) 0:=⟨by simp [hn],fun i hi=>by omega⟩
theorem Bg.put {w h dx dy k:Nat} {l B:List Int} (hw:0<w) (hx:dx≤4) (hy:dy≤4) (hk:k<w*h) (b:Bg w h dx dy l B k):Bg w h dx dy l (B.set (sh w dx dy k) (l.getD k 0)) (k+1):=by
  have hlt:=sh_lt (h:=h) hw hx hy hk
  refine ⟨by rw [List.length_set];exact b.len,fun i hi=> ?_,fun j hj=> ?_⟩
  · by_cases e : i = k
    · subst e;exact Big.getD_set_self (by rw [b.len];exact hlt) _
    · rw [Big.getD_set_ne (fun x=>e (sh_inj hw hx x)) _];exact b.old i (by omega)
  · rw [Big.getD_set_ne (fun x=>hj k (by omega) x.symm) _];exact b.zero j fun i hi=>hj i (by omega)
theorem Tn.put {w h k:Nat} {l C:List Int} (hw:0<w) (hk:k<w*h) (b:Tn w h l C k):Tn w h l (C.set (tu w h k) (l.getD k 0)) (k+1):=by
  have hlt:=tu_lt (h:=h) hw hk
  refine ⟨by rw [List.length_set];exact b.len,fun i hi=> ?_⟩
  by_cases e:i=k
  · subst e;exact Big.getD_set_self (by rw [b.len,Nat.mul_comm];exact hlt) _
  · rw [Big.getD_set_ne (fun x=>e (by rw [← tu_tu (h:=h) hw (show i<w*h by omega),x,tu_tu hw hk])) _];exact b.old i (by omega)
section
variable {w h dx dy n : Nat} {l B C : List Int} {th m : Int} (hw : 0 < w) (hx : dx ≤ 4) (hy : dy ≤ 4) (hn : l.length = n) (hwh : n = w * h) (hth : 1 ≤ th)
include hw hn hwh
theorem Bg.mv (hx:dx≤4) (hy:dy≤4) (hth:1≤th) (b:Bg w h dx dy l B n):Mv w n l (ge l th) (nb false w n) (w+4) ((w+4)*(h+4)) B (ge B th) (nb false (w+4) ((w+4)*(h+4))) (sh w dx dy) (shB dx dy):=by
  have hlt:∀i,ge l th i=true→i<n:=fun i hi=>by have:=ge_lt hi;omega
  have hs:∀i,i<n→sh w dx dy i<B.length:=fun i hi=>by rw [b.len];exact sh_lt hw hx hy (by omega)
  refine ⟨fun i hi=> ?_,fun i j _ _ e=>sh_inj hw hx e,fun j hj=> ?_,fun i j hi hj=> ?_,fun i hi=> ?_,shB_tog _ _,hlt,fun j hj=>by have:=ge_lt hj;rw [b.len] at this;exact this⟩
  · rw [ge_iff (hs i (hlt i hi)),b.old i (hlt i hi)];exact (ge_iff (by rw [hn];exact hlt i hi)).1 hi
  · have hj' := (ge_iff (ge_lt hj)).1 hj
    by_cases e:∃i,i<n∧sh w dx dy i=j
    · obtain ⟨i, hi, rfl⟩ := e
      exact ⟨i,(ge_iff (by omega)).2 (by rw [← b.old i hi];exact hj'),rfl⟩
    · rw [b.zero j fun i hi k=>e ⟨i,hi,k⟩] at hj';omega
  · have li := hlt i hi; have lj := hlt j hj
    have a1:=sh_mod (w:=w) (dy:=dy) (i:=i) hw hx;have a2:=sh_mod (w:=w) (dy:=dy) (i:=j) hw hx
    have d1:=sh_div (w:=w) (dy:=dy) (i:=i) hw hx;have d2:=sh_div (w:=w) (dy:=dy) (i:=j) hw hx
    have s1:=sh_lt (h:=h) hw hx hy (show i<w*h by omega);have s2:=sh_lt (h:=h) hw hx hy (show j<w*h by omega)
    unfold nb
    rw [a1,a2,d1,d2]
    have x1:(((i%w+dx:Nat):Int) - ((j%w+dx:Nat):Int))=((i%w:Nat):Int) - ((j%w:Nat):Int):=by
      generalize i%w=p;generalize j%w=q;omega
    have x2:(((i / w+dy:Nat):Int) - ((j / w+dy:Nat):Int))=((i / w:Nat):Int) - ((j / w:Nat):Int):=by
      generalize i / w=p;generalize j / w=q;omega
    rw [x1,x2]
    exact ⟨fun ⟨_,_,c,k⟩=>⟨s1,s2,fun e=>c (sh_inj hw hx e),k⟩,fun ⟨_,_,c,k⟩=>⟨li,lj,fun e=>c (by rw [e]),k⟩⟩
  · have li := hlt i hi
    have a1:=sh_mod (w:=w) (dy:=dy) (i:=i) hw hx;have d1:=sh_div (w:=w) (dy:=dy) (i:=i) hw hx
    unfold one shB
    rw [a1,d1,b.old i li]
    simp only [Bb.mk.injEq,Int.natCast_add,Int.add_mul,Int.mul_add,Int.one_mul]
    generalize ((i%w:Nat):Int)=p;generalize ((i / w:Nat):Int)=q
    refine ⟨trivial,trivial,trivial,trivial,trivial,trivial,trivial,?_,?_,?_,trivial,trivial,trivial⟩ <;> grind
theorem Tn.mv (hh:0<h) (t:Tn w h l C n):Mv w n l (ge l th) (nb false w n) h n C (ge C th) (nb false h n) (tu w h) swB:=by
  have hlt:∀i,ge l th i=true→i<n:=fun i hi=>by have:=ge_lt hi;omega
  have hc:C.length=n:=by rw [t.len,hwh]
  have ht:∀i,i<n→tu w h i<n:=fun i hi=>by have:=tu_lt (h:=h) hw (show i<w*h by omega);rw [hwh,Nat.mul_comm];exact this
  have hinj:∀i j,i<n→j<n→tu w h i=tu w h j→i=j:=fun i j hi hj e=>by rw [← tu_tu (h:=h) hw (show i<w*h by omega),e,tu_tu hw (by omega)]
  refine ⟨fun i hi=> ?_,fun i j hi hj e=>hinj i j (hlt i hi) (hlt j hj) e,fun j hj=> ?_,fun i j hi hj=> ?_,fun i hi=> ?_,swB_tog,hlt,fun j hj=>by have:=ge_lt hj;omega⟩
  · rw [ge_iff (by rw [hc];exact ht i (hlt i hi)),t.old i (hlt i hi)];exact (ge_iff (by rw [hn];exact hlt i hi)).1 hi
  · have hj' := (ge_iff (ge_lt hj)).1 hj
    have lj:j<h*w:=by have:=ge_lt hj;rw [hc,hwh,Nat.mul_comm] at this;exact this
    have e:=tu_tu (w:=h) (h:=w) hh lj
    have li:=tu_lt (w:=h) (h:=w) hh lj
    refine ⟨tu h w j,(ge_iff (by omega)).2 ?_,e⟩
    rw [← t.old _ (by omega),e];exact hj'
  · have li := hlt i hi; have lj := hlt j hj
    have a1:=tu_mod (h:=h) hw (show i<w*h by omega);have a2:=tu_mod (h:=h) hw (show j<w*h by omega)
    have d1:=tu_div (h:=h) hw (show i<w*h by omega);have d2:=tu_div (h:=h) hw (show j<w*h by omega)
    unfold nb
    rw [a1,a2,d1,d2]
    constructor
    · rintro ⟨_, _, c, k1, k2, k3⟩
      exact ⟨ht i li,ht j lj,fun e=>c (hinj i j li lj e),k2,k1,k3.imp id fun k=>by omega⟩
    · rintro ⟨_, _, c, k1, k2, k3⟩
      exact ⟨li,lj,fun e=>c (by rw [e]),k2,k1,k3.imp id fun k=>by omega⟩
  · have li := hlt i hi
    have a1:=tu_mod (h:=h) hw (show i<w*h by omega);have d1:=tu_div (h:=h) hw (show i<w*h by omega)
    unfold one swB
    rw [a1,d1,t.old i li]
    simp only [Bb.mk.injEq,true_and,and_true]
    exact Int.mul_comm _ _
theorem Bg.rok (b:Bg w h dx dy l B n) (r:Bl.rok w h m l) (h1:w≤60) (h2:h≤60):Bl.rok ((w+4:Nat):Int) ((h+4:Nat):Int) m B:=by
  have g:=rok_g r hn
  refine ⟨by omega,by omega,r.2.2.1,by rw [b.len,Int.natCast_mul],?_⟩
  rintro ⟨x,hx,hb⟩
  obtain ⟨j,hj,e⟩:=Big.mem_getD hx
  by_cases k:∃i,i<n∧sh w dx dy i=j
  · obtain ⟨i, hi, rfl⟩ := k
    rw [b.old i hi] at e
    exact r.2.2.2.2 ⟨x,by rw [← e];exact Big.getD_mem (by omega),hb⟩
  · rw [b.zero j fun i hi q => k ⟨i, hi, q⟩] at e
    have:=r.2.2.1;omega
theorem Tn.rok (hh:0<h) (t:Tn w h l C n) (r:Bl.rok w h m l):Bl.rok (h:Int) (w:Int) m C:=by
  refine ⟨r.2.1,r.1,r.2.2.1,by rw [t.len,Int.natCast_mul,Int.mul_comm],?_⟩
  rintro ⟨x,hx,hb⟩
  obtain ⟨j,hj,e⟩:=Big.mem_getD hx
  have lj:j<h*w:=by rw [t.len,Nat.mul_comm] at hj;exact hj
  have li:=tu_lt (w:=h) (h:=w) hh lj
  rw [← tu_tu (w:=h) (h:=w) hh lj,t.old _ (by omega)] at e
  exact r.2.2.2.2 ⟨x,by rw [← e];exact Big.getD_mem (by omega),hb⟩
end
theorem blsR_lds {w n:Nat} {h m th:Int} {l:List Int} {A:List Bb} (e:Bl.rok (w:Int) h m l∧0≤th∧th≤65536) (hn:l.length=n) (a:BlsR w h m l th A):∃c,Lst (fun j=>ge l th j=true) (nb false w n) c∧A=(lds (ge l th) c n).map fun i=>gb (cls w l (ge l th) c n i):=by
  obtain ⟨c,o,h1,h2,h3⟩:=a.1 e
  subst hn
  rw [Int.toNat_natCast] at h1 h3
  exact ⟨c,h1,by rw [h3];exact bls_lds h1 h2⟩
theorem bls_shift {w h dx dy n:Nat} {l B:List Int} {th m:Int} {A1 A2:List Bb} (r:Bl.rok w h m l) (hw:w≤60) (hh:h≤60) (hx:dx≤4) (hy:dy≤4) (hn:l.length=n) (hwh:n=w*h) (hth:1≤th∧th≤65536) (b:Bg w h dx dy l B n)
    (a1:BlsR w h m l th A1) (a2:BlsR ((w+4:Nat):Int) ((h+4:Nat):Int) m B th A2):A2=A1.map (shB dx dy):=by
  have hw0:0<w:=by have:=r.1;omega
  obtain ⟨c1,l1,rfl⟩:=blsR_lds ⟨r,by omega⟩ hn a1
  obtain ⟨c2,l2,rfl⟩:=blsR_lds ⟨b.rok hw0 hn hwh r hw hh,by omega⟩ b.len a2
  exact (b.mv hw0 hn hwh hx hy hth.1).all l1 l2 (fun _ _=>nb_symm) (fun _ _=>nb_symm) fun i j _ _ e=>sh_mono hw0 hx e
theorem bls_turn {w h n:Nat} {l C:List Int} {th m:Int} {A1 A3:List Bb} (r:Bl.rok w h m l) (hn:l.length=n) (hwh:n=w*h) (hth:1≤th∧th≤65536) (t:Tn w h l C n)
    (a1:BlsR w h m l th A1) (a3:BlsR (h:Int) (w:Int) m C th A3):A3.length=A1.length∧∀a∈A1,swB a∈A3:=by
  have hw0:0<w:=by have:=r.1;omega
  have hh0:0<h:=by have:=r.2.1;omega
  obtain ⟨c1,l1,rfl⟩:=blsR_lds ⟨r,by omega⟩ hn a1
  obtain ⟨c2,l2,rfl⟩:=blsR_lds ⟨t.rok hw0 hn hwh hh0 r,by omega⟩ (n:=n) (by rw [t.len,hwh]) a3
  have k:=(t.mv (th:=th) hw0 hn hwh hh0).some l1 l2 (fun _ _=>nb_symm) (fun _ _=>nb_symm)
  exact ⟨by rw [List.length_map,List.length_map];exact k.1,k.2⟩
theorem sumO_ms:∀{A:List Bb},(∀x∈A,1≤x.ms)→∀s,sumO A=some s→1≤s.ms
  |[],_,s,e=>by cases e
  |x :: A,h,s,e=>by
    rw [sumO_cons] at e
    have hx:=h x (List.mem_cons_self ..)
    cases k:sumO A with
    |none=>rw [k] at e;obtain rfl:=Option.some.inj e;exact hx
    |some t=>
      rw [k] at e;obtain rfl:=Option.some.inj e
      have:=sumO_ms (fun y hy=>h y (List.mem_cons_of_mem _ hy)) t k
      show 1≤x.ms+t.ms;omega
theorem bls_ms {w n:Nat} {h m th:Int} {l:List Int} {A:List Bb} (r:Bl.rok (w:Int) h m l) (hth:1≤th∧th≤65536) (hn:l.length=n) (a:BlsR w h m l th A):∀g∈A,1≤g.ms:=by
  obtain ⟨c1,l1,rfl⟩:=blsR_lds ⟨r,by omega⟩ hn a
  intro g hg
  obtain ⟨i,hi,rfl⟩:=List.mem_map.1 hg
  obtain ⟨ii,fi,ci⟩:=lds_mem.1 hi
  have hs:=cls_some (w:=w) (l:=l) (cpx_mem.2 ⟨ii,fi,ci⟩)
  show 1≤(gb _).ms
  cases e:cls w l (ge l th) c1 n i with
  |none=>exact absurd e hs
  |some s=>
    refine sumO_ms (fun x hx=> ?_) s e
    obtain ⟨j,hj,rfl⟩:=List.mem_map.1 hx
    obtain ⟨jj,fj,_⟩:=cpx_mem.1 hj
    have:=(ge_iff (show j<l.length by omega)).1 fj
    show 1≤l.getD j 0;omega
theorem cen_sh {mx ms dx:Int} (h:ms≠0):Rat.divInt (2*mx+ms) (2*ms)+(dx:Rat)=Rat.divInt (2*(mx+ms*dx)+ms) (2*ms):=by
  have e:(dx:Rat)=Rat.divInt (dx*(2*ms)) (1*(2*ms)):=by rw [Rat.divInt_mul_right (by omega),Rat.divInt_eq_div];simp;grind
  rw [e,Int.one_mul,Rat.divInt_add_divInt _ _ (by omega) (by omega),←Int.add_mul,Rat.divInt_mul_right (by omega)]
  congr 1
  rw [Int.mul_comm dx,Int.mul_assoc,Int.mul_add];omega
theorem in_sh {xx sx ar dx:Int}:(xx+2*(sx*dx)+ar*(dx*dx))*ar - (sx+ar*dx)*(sx+ar*dx)=xx*ar - sx*sx:=by grind
theorem in_sh2 {xy sx sy ar dx dy:Int}:(xy+sx*dy+sy*dx+ar*(dx*dy))*ar - (sx+ar*dx)*(sy+ar*dy)=xy*ar - sx*sy:=by grind
def mt (t a:Bb):Prop:=(((((((((t.ar=a.ar∧t.le=a.tp)∧t.tp=a.le)∧t.rt=a.bt)∧t.sx=a.sy)∧t.sy=a.sx)∧t.xx=a.yy)∧t.xy=a.xy)∧t.mx=a.my)∧t.ms=a.ms)
instance (t a:Bb):Decidable (mt t a):=inferInstanceAs (Decidable (_∧_))
theorem mt_sw (a:Bb):mt (swB a) a:=⟨⟨⟨⟨⟨⟨⟨⟨⟨rfl,rfl⟩,rfl⟩,rfl⟩,rfl⟩,rfl⟩,rfl⟩,rfl⟩,rfl⟩,rfl⟩
theorem nor4 {a b c d:Prop} (h:¬(((a∨b)∨c)∨d)):((¬a∧¬b)∧¬c)∧¬d:=⟨⟨⟨fun k=>h (.inl (.inl (.inl k))),fun k=>h (.inl (.inl (.inr k)))⟩,fun k=>h (.inl (.inr k))⟩,fun k=>h (.inr k)⟩
theorem map_gD {A:List Bb} {T:Bb→Bb} {k:Nat} (h:k<A.length):(A.map T).getD k b0=T (A.getD k b0):=by
  rw [List.getD_eq_getElem?_getD,List.getElem?_map,List.getD_eq_getElem?_getD,List.getElem?_eq_getElem h];rfl
end Go.Proofs.Ytefbbhiaalcjfaa.Fl
namespace Go.Proofs.Ytefbbhiaalcjfaa.Fl
theorem hq_q {n d:Int} (hd:d≠0) (h1: -9223372036854775808≤n∧n≤9223372036854775807) (h2: -9223372036854775808≤d∧d≤9223372036854775807):Big.hq (Rat.divInt n d)≤3:=by
  have a:=Big.ztd h1.1 h1.2
  have b:=Big.ztd h2.1 h2.2
  have:=Big.hq_divInt (n:=n) hd;omega
end Go.Proofs.Ytefbbhiaalcjfaa.Fl
namespace Go.Proofs.Ytefbbhiaalcjfaa.Fl
open Sp (Bb b0)
theorem cen_hq {g:Bb} (h:okb g) (hm:¬g.ms=0):Big.hq (Rat.divInt (2*g.mx+g.ms) (2*g.ms))≤3∧Big.hq (Rat.divInt (2*g.my+g.ms) (2*g.ms))≤3:=by
  have ho:=h
  unfold okb Bl.ok at ho
  have a1:=Bl.mul_b (x:=g.ms) (y:=g.rt) (m:=268431360) (n:=63) (by omega) (by omega)
  have a2:=Bl.mul_b (x:=g.ms) (y:=g.bt) (m:=268431360) (n:=63) (by omega) (by omega)
  have a3:=Bl.mul_b (x:=g.ms) (y:=g.le) (m:=268431360) (n:=63) (by omega) (by omega)
  have a4:=Bl.mul_b (x:=g.ms) (y:=g.tp) (m:=268431360) (n:=63) (by omega) (by omega)
  exact ⟨hq_q (by omega) (by omega) (by omega),hq_q (by omega) (by omega) (by omega)⟩
theorem in_hq {g:Bb} (h:okb g):Big.hq (Rat.divInt (g.xx*g.ar - g.sx*g.sx) (g.ar*g.ar))≤3∧Big.hq (Rat.divInt (g.xy*g.ar - g.sx*g.sy) (g.ar*g.ar))≤3∧Big.hq (Rat.divInt (g.yy*g.ar - g.sy*g.sy) (g.ar*g.ar))≤3:=by
  have ho:=h
  unfold okb Bl.ok at ho
  have a1:=Bl.mul_b (x:=g.ar) (y:=g.rt) (m:=4096) (n:=63) (by omega) (by omega)
  have a2:=Bl.mul_b (x:=g.ar) (y:=g.bt) (m:=4096) (n:=63) (by omega) (by omega)
  have a3:=Bl.mul_b (x:=g.ar) (y:=g.le) (m:=4096) (n:=63) (by omega) (by omega)
  have a4:=Bl.mul_b (x:=g.ar) (y:=g.tp) (m:=4096) (n:=63) (by omega) (by omega)
  have b1:=Bl.mul_b (x:=g.xx) (y:=g.ar) (m:=16257024) (n:=4096) (by omega) (by omega)
  have b2:=Bl.mul_b (x:=g.xy) (y:=g.ar) (m:=16257024) (n:=4096) (by omega) (by omega)
  have b3:=Bl.mul_b (x:=g.yy) (y:=g.ar) (m:=16257024) (n:=4096) (by omega) (by omega)
  have c1:=Bl.mul_b (x:=g.sx) (y:=g.sx) (m:=258048) (n:=258048) (by omega) (by omega)
  have c2:=Bl.mul_b (x:=g.sx) (y:=g.sy) (m:=258048) (n:=258048) (by omega) (by omega)
  have c3:=Bl.mul_b (x:=g.sy) (y:=g.sy) (m:=258048) (n:=258048) (by omega) (by omega)
  have d1:=Bl.mul_b (x:=g.ar) (y:=g.ar) (m:=4096) (n:=4096) (by omega) (by omega)
  have d2:g.ar*g.ar≠0:=Int.mul_ne_zero (by omega) (by omega)
  exact ⟨hq_q d2 (by omega) (by omega),hq_q d2 (by omega) (by omega),hq_q d2 (by omega) (by omega)⟩
end Go.Proofs.Ytefbbhiaalcjfaa.Fl
namespace Go.Proofs.Ytefbbhiaalcjfaa.Sp
open Go
set_option linter.unusedVariables false
set_option maxRecDepth 100000
set_option maxHeartbeats 8000000
theorem zhe {ar:Int} {le:Int} {tp:Int} {rt:Int} {bt:Int} {sx:Int} {sy:Int} {xx:Int} {xy:Int} {yy:Int} {ms:Int} {mx:Int} {my:Int} {pA:Option Addr} {cA:Nat} {A1:List Bb} {k:Nat} {b15:Nat} {b21:Nat} (hk:k<A1.length):Con Try.prog 25 [.agg #[.int .i64 ar,.int .i64 le,.int .i64 tp,.int .i64 rt,.int .i64 bt,.int .i64 sx,.int .i64 sy,.int .i64 xx,.int .i64 xy,.int .i64 yy,.int .i64 ms,.int .i64 mx,.int .i64 my],.pointer (some ⟨b15,0,none⟩),.pointer (some ⟨b21,0,none⟩)] [] [atF b15 0 [.slice pA (A1.length) cA],atF b21 0 [.int .i64 ((k:Nat):Int)],slF (rI13 .i64) pA cA A1] (Y:=Unit) (fun y=>True) (fun y=> .bool (decide (Fl.mt (⟨ar,le,tp,rt,bt,sx,sy,xx,xy,yy,ms,mx,my⟩:Bb) (A1.getD k b0)))) (fun y=>[]) (fun y=>[]):=by
  refine zr Try.func25 rfl rfl rfl (fun c=> ?_)
  show RunC _ _ _ _ _ [(0,.agg #[.int .i64 ar,.int .i64 le,.int .i64 tp,.int .i64 rt,.int .i64 bt,.int .i64 sx,.int .i64 sy,.int .i64 xx,.int .i64 xy,.int .i64 yy,.int .i64 ms,.int .i64 mx,.int .i64 my]),(1,.pointer (some ⟨b15,0,none⟩)),(2,.pointer (some ⟨b21,0,none⟩))] [] [atF b15 0 [.slice pA (A1.length) cA],atF b21 0 [.int .i64 ((k:Nat):Int)],slF (rI13 .i64) pA cA A1]
  refine zca 2 rfl (fun hL2=> ?_)
  refine zi<|zc<|zP rfl rfl (zW rfl rfl) (fun b1=> ?_)
  refine r_pv rfl rfl (zd rfl)<|zk<|zf<|zUa (X:=Unit) (fun x=>True) (fun x=>[(4,.bool (decide ((((((((((ar=(A1.getD k b0).ar)∧(le=(A1.getD k b0).tp))∧(tp=(A1.getD k b0).le))∧(rt=(A1.getD k b0).bt))∧(sx=(A1.getD k b0).sy))∧(sy=(A1.getD k b0).sx))∧(xx=(A1.getD k b0).yy))∧(xy=(A1.getD k b0).xy))∧(mx=(A1.getD k b0).my))∧(ms=(A1.getD k b0).ms))))]) (fun x=>[boxA b1 51 [.int .i64 ar,.int .i64 le,.int .i64 tp,.int .i64 rt,.int .i64 bt,.int .i64 sx,.int .i64 sy,.int .i64 xx,.int .i64 xy,.int .i64 yy,.int .i64 ms,.int .i64 mx,.int .i64 my]]) (fun x=>[atF b15 0 [.slice pA (A1.length) cA],atF b21 0 [.int .i64 ((k:Nat):Int)],slF (rI13 .i64) pA cA A1]) ?_ ?_
  ·
    refine zja (OW:=[]) (O:=[boxA b1 51 [.int .i64 ar,.int .i64 le,.int .i64 tp,.int .i64 rt,.int .i64 bt,.int .i64 sx,.int .i64 sy,.int .i64 xx,.int .i64 xy,.int .i64 yy,.int .i64 ms,.int .i64 mx,.int .i64 my]]) 100000 mixed (.then .ret) (by kernel_rfl)<|zjb (X:=PLift (¬((((((((((ar=(A1.getD k b0).ar)∧(le=(A1.getD k b0).tp))∧(tp=(A1.getD k b0).le))∧(rt=(A1.getD k b0).bt))∧(sx=(A1.getD k b0).sy))∧(sy=(A1.getD k b0).sx))∧(xx=(A1.getD k b0).yy))∧(xy=(A1.getD k b0).xy))∧(mx=(A1.getD k b0).my))∧(ms=(A1.getD k b0).ms)))) (k':=10) (L':=(lb 99 618970019642690137449562111)) (fun _=>([(93,.bool false),(4,.bool false),(3,.pointer (some ⟨b1,0,none⟩)),(0,.agg #[.int .i64 ar,.int .i64 le,.int .i64 tp,.int .i64 rt,.int .i64 bt,.int .i64 sx,.int .i64 sy,.int .i64 xx,.int .i64 xy,.int .i64 yy,.int .i64 ms,.int .i64 mx,.int .i64 my]),(1,.pointer (some ⟨b15,0,none⟩)),(2,.pointer (some ⟨b21,0,none⟩))],[],[boxA b1 51 [.int .i64 ar,.int .i64 le,.int .i64 tp,.int .i64 rt,.int .i64 bt,.int .i64 sx,.int .i64 sy,.int .i64 xx,.int .i64 xy,.int .i64 yy,.int .i64 ms,.int .i64 mx,.int .i64 my]],[atF b15 0 [.slice pA (A1.length) cA],atF b21 0 [.int .i64 ((k:Nat):Int)],slF (rI13 .i64) pA cA A1])) ?_ (fun hJ8=> ?_)
    · as_aux_lemma =>
      rintro ⟨hx9⟩
      dsimp only
      refine zN 89 rfl rfl (by kernel_rfl) (by kernel_rfl) rfl rfl<|zN 90 rfl rfl (by kernel_rfl) (by kernel_rfl) rfl rfl<|zN 91 rfl rfl (by kernel_rfl) (by kernel_rfl) rfl rfl<|zN 92 rfl rfl (by kernel_rfl) (by kernel_rfl) rfl rfl<|zN 93 rfl rfl (by kernel_rfl) (by kernel_rfl) rfl rfl<|zN 94 rfl rfl (by kernel_rfl) (by kernel_rfl) rfl rfl<|zN 95 rfl rfl (by kernel_rfl) (by kernel_rfl) rfl rfl<|zN 96 rfl rfl (by kernel_rfl) (by kernel_rfl) rfl rfl<|d_pv 97 rfl rfl (by kernel_rfl) (by kernel_rfl) rfl rfl (zm rfl rfl)<|d_pv 98 rfl rfl (by kernel_rfl) (by kernel_rfl) rfl rfl (zd rfl)<|zfa (by kernel_rfl) ?_
      exact zda () (show True from by first|trivial|omega|simp_all) ((.e rfl (congrArg Value.bool (by first|exact (decide_eq_false hx9).symm|exact decide_eq_false hx9)) .n):SubM _ _) (ho:=((.c (i:=0) rfl .n):PickO _ _ _)) ((.of [0,1,2] rfl):SelR _ _ _)
    refine zjb (X:=PLift (¬((((((((((ar=(A1.getD k b0).ar)∧(le=(A1.getD k b0).tp))∧(tp=(A1.getD k b0).le))∧(rt=(A1.getD k b0).bt))∧(sx=(A1.getD k b0).sy))∧(sy=(A1.getD k b0).sx))∧(xx=(A1.getD k b0).yy))∧(xy=(A1.getD k b0).xy))∧(mx=(A1.getD k b0).my))∧(ms=(A1.getD k b0).ms)))) (k':=20) (L':=(lb 99 604462909807314587353087)) (fun _=>([(83,.bool false),(4,.bool false),(3,.pointer (some ⟨b1,0,none⟩)),(0,.agg #[.int .i64 ar,.int .i64 le,.int .i64 tp,.int .i64 rt,.int .i64 bt,.int .i64 sx,.int .i64 sy,.int .i64 xx,.int .i64 xy,.int .i64 yy,.int .i64 ms,.int .i64 mx,.int .i64 my]),(1,.pointer (some ⟨b15,0,none⟩)),(2,.pointer (some ⟨b21,0,none⟩))],[],[boxA b1 51 [.int .i64 ar,.int .i64 le,.int .i64 tp,.int .i64 rt,.int .i64 bt,.int .i64 sx,.int .i64 sy,.int .i64 xx,.int .i64 xy,.int .i64 yy,.int .i64 ms,.int .i64 mx,.int .i64 my]],[atF b15 0 [.slice pA (A1.length) cA],atF b21 0 [.int .i64 ((k:Nat):Int)],slF (rI13 .i64) pA cA A1])) ?_ (fun hJ7=> ?_)
    · as_aux_lemma =>
      rintro ⟨hx9⟩
      dsimp only
      refine zN 79 rfl rfl (by kernel_rfl) (by kernel_rfl) rfl rfl<|zN 80 rfl rfl (by kernel_rfl) (by kernel_rfl) rfl rfl<|zN 81 rfl rfl (by kernel_rfl) (by kernel_rfl) rfl rfl<|zN 82 rfl rfl (by kernel_rfl) (by kernel_rfl) rfl rfl<|zN 83 rfl rfl (by kernel_rfl) (by kernel_rfl) rfl rfl<|zN 84 rfl rfl (by kernel_rfl) (by kernel_rfl) rfl rfl<|zN 85 rfl rfl (by kernel_rfl) (by kernel_rfl) rfl rfl<|zN 86 rfl rfl (by kernel_rfl) (by kernel_rfl) rfl rfl<|d_pv 87 rfl rfl (by kernel_rfl) (by kernel_rfl) rfl rfl (zm rfl rfl)<|d_pv 88 rfl rfl (by kernel_rfl) (by kernel_rfl) rfl rfl (zb rfl) ?_
      exact zza (hJ8 ⟨hx9⟩) (by kernel_rfl) ((.of rfl):SubM _ _) .rfl .rfl ((.of [0,1,2] rfl):SelR _ _ _)
    refine zjb (X:=PLift (¬((((((((((ar=(A1.getD k b0).ar)∧(le=(A1.getD k b0).tp))∧(tp=(A1.getD k b0).le))∧(rt=(A1.getD k b0).bt))∧(sx=(A1.getD k b0).sy))∧(sy=(A1.getD k b0).sx))∧(xx=(A1.getD k b0).yy))∧(xy=(A1.getD k b0).xy))∧(mx=(A1.getD k b0).my))∧(ms=(A1.getD k b0).ms)))) (k':=30) (L':=(lb 99 590295810358705651711)) (fun _=>([(73,.bool false),(4,.bool false),(3,.pointer (some ⟨b1,0,none⟩)),(0,.agg #[.int .i64 ar,.int .i64 le,.int .i64 tp,.int .i64 rt,.int .i64 bt,.int .i64 sx,.int .i64 sy,.int .i64 xx,.int .i64 xy,.int .i64 yy,.int .i64 ms,.int .i64 mx,.int .i64 my]),(1,.pointer (some ⟨b15,0,none⟩)),(2,.pointer (some ⟨b21,0,none⟩))],[],[boxA b1 51 [.int .i64 ar,.int .i64 le,.int .i64 tp,.int .i64 rt,.int .i64 bt,.int .i64 sx,.int .i64 sy,.int .i64 xx,.int .i64 xy,.int .i64 yy,.int .i64 ms,.int .i64 mx,.int .i64 my]],[atF b15 0 [.slice pA (A1.length) cA],atF b21 0 [.int .i64 ((k:Nat):Int)],slF (rI13 .i64) pA cA A1])) ?_ (fun hJ6=> ?_)
    · as_aux_lemma =>
      rintro ⟨hx9⟩
      dsimp only
      refine zN 69 rfl rfl (by kernel_rfl) (by kernel_rfl) rfl rfl<|zN 70 rfl rfl (by kernel_rfl) (by kernel_rfl) rfl rfl<|zN 71 rfl rfl (by kernel_rfl) (by kernel_rfl) rfl rfl<|zN 72 rfl rfl (by kernel_rfl) (by kernel_rfl) rfl rfl<|zN 73 rfl rfl (by kernel_rfl) (by kernel_rfl) rfl rfl<|zN 74 rfl rfl (by kernel_rfl) (by kernel_rfl) rfl rfl<|zN 75 rfl rfl (by kernel_rfl) (by kernel_rfl) rfl rfl<|zN 76 rfl rfl (by kernel_rfl) (by kernel_rfl) rfl rfl<|d_pv 77 rfl rfl (by kernel_rfl) (by kernel_rfl) rfl rfl (zm rfl rfl)<|d_pv 78 rfl rfl (by kernel_rfl) (by kernel_rfl) rfl rfl (zb rfl) ?_
      exact zza (hJ7 ⟨hx9⟩) (by kernel_rfl) ((.of rfl):SubM _ _) .rfl .rfl ((.of [0,1,2] rfl):SelR _ _ _)
    refine zjb (X:=PLift (¬((((((((((ar=(A1.getD k b0).ar)∧(le=(A1.getD k b0).tp))∧(tp=(A1.getD k b0).le))∧(rt=(A1.getD k b0).bt))∧(sx=(A1.getD k b0).sy))∧(sy=(A1.getD k b0).sx))∧(xx=(A1.getD k b0).yy))∧(xy=(A1.getD k b0).xy))∧(mx=(A1.getD k b0).my))∧(ms=(A1.getD k b0).ms)))) (k':=40) (L':=(lb 99 576460752303423487)) (fun _=>([(63,.bool false),(4,.bool false),(3,.pointer (some ⟨b1,0,none⟩)),(0,.agg #[.int .i64 ar,.int .i64 le,.int .i64 tp,.int .i64 rt,.int .i64 bt,.int .i64 sx,.int .i64 sy,.int .i64 xx,.int .i64 xy,.int .i64 yy,.int .i64 ms,.int .i64 mx,.int .i64 my]),(1,.pointer (some ⟨b15,0,none⟩)),(2,.pointer (some ⟨b21,0,none⟩))],[],[boxA b1 51 [.int .i64 ar,.int .i64 le,.int .i64 tp,.int .i64 rt,.int .i64 bt,.int .i64 sx,.int .i64 sy,.int .i64 xx,.int .i64 xy,.int .i64 yy,.int .i64 ms,.int .i64 mx,.int .i64 my]],[atF b15 0 [.slice pA (A1.length) cA],atF b21 0 [.int .i64 ((k:Nat):Int)],slF (rI13 .i64) pA cA A1])) ?_ (fun hJ5=> ?_)
    · as_aux_lemma =>
      rintro ⟨hx9⟩
      dsimp only
      refine zN 59 rfl rfl (by kernel_rfl) (by kernel_rfl) rfl rfl<|zN 60 rfl rfl (by kernel_rfl) (by kernel_rfl) rfl rfl<|zN 61 rfl rfl (by kernel_rfl) (by kernel_rfl) rfl rfl<|zN 62 rfl rfl (by kernel_rfl) (by kernel_rfl) rfl rfl<|zN 63 rfl rfl (by kernel_rfl) (by kernel_rfl) rfl rfl<|zN 64 rfl rfl (by kernel_rfl) (by kernel_rfl) rfl rfl<|zN 65 rfl rfl (by kernel_rfl) (by kernel_rfl) rfl rfl<|zN 66 rfl rfl (by kernel_rfl) (by kernel_rfl) rfl rfl<|d_pv 67 rfl rfl (by kernel_rfl) (by kernel_rfl) rfl rfl (zm rfl rfl)<|d_pv 68 rfl rfl (by kernel_rfl) (by kernel_rfl) rfl rfl (zb rfl) ?_
      exact zza (hJ6 ⟨hx9⟩) (by kernel_rfl) ((.of rfl):SubM _ _) .rfl .rfl ((.of [0,1,2] rfl):SelR _ _ _)
    refine zjb (X:=PLift (¬((((((((((ar=(A1.getD k b0).ar)∧(le=(A1.getD k b0).tp))∧(tp=(A1.getD k b0).le))∧(rt=(A1.getD k b0).bt))∧(sx=(A1.getD k b0).sy))∧(sy=(A1.getD k b0).sx))∧(xx=(A1.getD k b0).yy))∧(xy=(A1.getD k b0).xy))∧(mx=(A1.getD k b0).my))∧(ms=(A1.getD k b0).ms)))) (k':=50) (L':=(lb 99 562949953421311)) (fun _=>([(53,.bool false),(4,.bool false),(3,.pointer (some ⟨b1,0,none⟩)),(0,.agg #[.int .i64 ar,.int .i64 le,.int .i64 tp,.int .i64 rt,.int .i64 bt,.int .i64 sx,.int .i64 sy,.int .i64 xx,.int .i64 xy,.int .i64 yy,.int .i64 ms,.int .i64 mx,.int .i64 my]),(1,.pointer (some ⟨b15,0,none⟩)),(2,.pointer (some ⟨b21,0,none⟩))],[],[boxA b1 51 [.int .i64 ar,.int .i64 le,.int .i64 tp,.int .i64 rt,.int .i64 bt,.int .i64 sx,.int .i64 sy,.int .i64 xx,.int .i64 xy,.int .i64 yy,.int .i64 ms,.int .i64 mx,.int .i64 my]],[atF b15 0 [.slice pA (A1.length) cA],atF b21 0 [.int .i64 ((k:Nat):Int)],slF (rI13 .i64) pA cA A1])) ?_ (fun hJ4=> ?_)
    · as_aux_lemma =>
      rintro ⟨hx9⟩
      dsimp only
      refine zN 49 rfl rfl (by kernel_rfl) (by kernel_rfl) rfl rfl<|zN 50 rfl rfl (by kernel_rfl) (by kernel_rfl) rfl rfl<|zN 51 rfl rfl (by kernel_rfl) (by kernel_rfl) rfl rfl<|zN 52 rfl rfl (by kernel_rfl) (by kernel_rfl) rfl rfl<|zN 53 rfl rfl (by kernel_rfl) (by kernel_rfl) rfl rfl<|zN 54 rfl rfl (by kernel_rfl) (by kernel_rfl) rfl rfl<|zN 55 rfl rfl (by kernel_rfl) (by kernel_rfl) rfl rfl<|zN 56 rfl rfl (by kernel_rfl) (by kernel_rfl) rfl rfl<|d_pv 57 rfl rfl (by kernel_rfl) (by kernel_rfl) rfl rfl (zm rfl rfl)<|d_pv 58 rfl rfl (by kernel_rfl) (by kernel_rfl) rfl rfl (zb rfl) ?_
      exact zza (hJ5 ⟨hx9⟩) (by kernel_rfl) ((.of rfl):SubM _ _) .rfl .rfl ((.of [0,1,2] rfl):SelR _ _ _)
    refine zjb (X:=PLift (¬((((((((((ar=(A1.getD k b0).ar)∧(le=(A1.getD k b0).tp))∧(tp=(A1.getD k b0).le))∧(rt=(A1.getD k b0).bt))∧(sx=(A1.getD k b0).sy))∧(sy=(A1.getD k b0).sx))∧(xx=(A1.getD k b0).yy))∧(xy=(A1.getD k b0).xy))∧(mx=(A1.getD k b0).my))∧(ms=(A1.getD k b0).ms)))) (k':=60) (L':=(lb 99 549755813887)) (fun _=>([(43,.bool false),(4,.bool false),(3,.pointer (some ⟨b1,0,none⟩)),(0,.agg #[.int .i64 ar,.int .i64 le,.int .i64 tp,.int .i64 rt,.int .i64 bt,.int .i64 sx,.int .i64 sy,.int .i64 xx,.int .i64 xy,.int .i64 yy,.int .i64 ms,.int .i64 mx,.int .i64 my]),(1,.pointer (some ⟨b15,0,none⟩)),(2,.pointer (some ⟨b21,0,none⟩))],[],[boxA b1 51 [.int .i64 ar,.int .i64 le,.int .i64 tp,.int .i64 rt,.int .i64 bt,.int .i64 sx,.int .i64 sy,.int .i64 xx,.int .i64 xy,.int .i64 yy,.int .i64 ms,.int .i64 mx,.int .i64 my]],[atF b15 0 [.slice pA (A1.length) cA],atF b21 0 [.int .i64 ((k:Nat):Int)],slF (rI13 .i64) pA cA A1])) ?_ (fun hJ3=> ?_)
    · as_aux_lemma =>
      rintro ⟨hx9⟩
      dsimp only
      refine zN 39 rfl rfl (by kernel_rfl) (by kernel_rfl) rfl rfl<|zN 40 rfl rfl (by kernel_rfl) (by kernel_rfl) rfl rfl<|zN 41 rfl rfl (by kernel_rfl) (by kernel_rfl) rfl rfl<|zN 42 rfl rfl (by kernel_rfl) (by kernel_rfl) rfl rfl<|zN 43 rfl rfl (by kernel_rfl) (by kernel_rfl) rfl rfl<|zN 44 rfl rfl (by kernel_rfl) (by kernel_rfl) rfl rfl<|zN 45 rfl rfl (by kernel_rfl) (by kernel_rfl) rfl rfl<|zN 46 rfl rfl (by kernel_rfl) (by kernel_rfl) rfl rfl<|d_pv 47 rfl rfl (by kernel_rfl) (by kernel_rfl) rfl rfl (zm rfl rfl)<|d_pv 48 rfl rfl (by kernel_rfl) (by kernel_rfl) rfl rfl (zb rfl) ?_
      exact zza (hJ4 ⟨hx9⟩) (by kernel_rfl) ((.of rfl):SubM _ _) .rfl .rfl ((.of [0,1,2] rfl):SelR _ _ _)
    refine zjb (X:=PLift (¬((((((((((ar=(A1.getD k b0).ar)∧(le=(A1.getD k b0).tp))∧(tp=(A1.getD k b0).le))∧(rt=(A1.getD k b0).bt))∧(sx=(A1.getD k b0).sy))∧(sy=(A1.getD k b0).sx))∧(xx=(A1.getD k b0).yy))∧(xy=(A1.getD k b0).xy))∧(mx=(A1.getD k b0).my))∧(ms=(A1.getD k b0).ms)))) (k':=70) (L':=(lb 99 536870911)) (fun _=>([(33,.bool false),(4,.bool false),(3,.pointer (some ⟨b1,0,none⟩)),(0,.agg #[.int .i64 ar,.int .i64 le,.int .i64 tp,.int .i64 rt,.int .i64 bt,.int .i64 sx,.int .i64 sy,.int .i64 xx,.int .i64 xy,.int .i64 yy,.int .i64 ms,.int .i64 mx,.int .i64 my]),(1,.pointer (some ⟨b15,0,none⟩)),(2,.pointer (some ⟨b21,0,none⟩))],[],[boxA b1 51 [.int .i64 ar,.int .i64 le,.int .i64 tp,.int .i64 rt,.int .i64 bt,.int .i64 sx,.int .i64 sy,.int .i64 xx,.int .i64 xy,.int .i64 yy,.int .i64 ms,.int .i64 mx,.int .i64 my]],[atF b15 0 [.slice pA (A1.length) cA],atF b21 0 [.int .i64 ((k:Nat):Int)],slF (rI13 .i64) pA cA A1])) ?_ (fun hJ2=> ?_)
    · as_aux_lemma =>
      rintro ⟨hx9⟩
      dsimp only
      refine zN 29 rfl rfl (by kernel_rfl) (by kernel_rfl) rfl rfl<|zN 30 rfl rfl (by kernel_rfl) (by kernel_rfl) rfl rfl<|zN 31 rfl rfl (by kernel_rfl) (by kernel_rfl) rfl rfl<|zN 32 rfl rfl (by kernel_rfl) (by kernel_rfl) rfl rfl<|zN 33 rfl rfl (by kernel_rfl) (by kernel_rfl) rfl rfl<|zN 34 rfl rfl (by kernel_rfl) (by kernel_rfl) rfl rfl<|zN 35 rfl rfl (by kernel_rfl) (by kernel_rfl) rfl rfl<|zN 36 rfl rfl (by kernel_rfl) (by kernel_rfl) rfl rfl<|d_pv 37 rfl rfl (by kernel_rfl) (by kernel_rfl) rfl rfl (zm rfl rfl)<|d_pv 38 rfl rfl (by kernel_rfl) (by kernel_rfl) rfl rfl (zb rfl) ?_
      exact zza (hJ3 ⟨hx9⟩) (by kernel_rfl) ((.of rfl):SubM _ _) .rfl .rfl ((.of [0,1,2] rfl):SelR _ _ _)
    refine zjb (X:=PLift (¬((((((((((ar=(A1.getD k b0).ar)∧(le=(A1.getD k b0).tp))∧(tp=(A1.getD k b0).le))∧(rt=(A1.getD k b0).bt))∧(sx=(A1.getD k b0).sy))∧(sy=(A1.getD k b0).sx))∧(xx=(A1.getD k b0).yy))∧(xy=(A1.getD k b0).xy))∧(mx=(A1.getD k b0).my))∧(ms=(A1.getD k b0).ms)))) (k':=80) (L':=(lb 99 524287)) (fun _=>([(23,.bool false),(4,.bool false),(3,.pointer (some ⟨b1,0,none⟩)),(0,.agg #[.int .i64 ar,.int .i64 le,.int .i64 tp,.int .i64 rt,.int .i64 bt,.int .i64 sx,.int .i64 sy,.int .i64 xx,.int .i64 xy,.int .i64 yy,.int .i64 ms,.int .i64 mx,.int .i64 my]),(1,.pointer (some ⟨b15,0,none⟩)),(2,.pointer (some ⟨b21,0,none⟩))],[],[boxA b1 51 [.int .i64 ar,.int .i64 le,.int .i64 tp,.int .i64 rt,.int .i64 bt,.int .i64 sx,.int .i64 sy,.int .i64 xx,.int .i64 xy,.int .i64 yy,.int .i64 ms,.int .i64 mx,.int .i64 my]],[atF b15 0 [.slice pA (A1.length) cA],atF b21 0 [.int .i64 ((k:Nat):Int)],slF (rI13 .i64) pA cA A1])) ?_ (fun hJ1=> ?_)
    · as_aux_lemma =>
      rintro ⟨hx9⟩
      dsimp only
      refine zN 19 rfl rfl (by kernel_rfl) (by kernel_rfl) rfl rfl<|zN 20 rfl rfl (by kernel_rfl) (by kernel_rfl) rfl rfl<|zN 21 rfl rfl (by kernel_rfl) (by kernel_rfl) rfl rfl<|zN 22 rfl rfl (by kernel_rfl) (by kernel_rfl) rfl rfl<|zN 23 rfl rfl (by kernel_rfl) (by kernel_rfl) rfl rfl<|zN 24 rfl rfl (by kernel_rfl) (by kernel_rfl) rfl rfl<|zN 25 rfl rfl (by kernel_rfl) (by kernel_rfl) rfl rfl<|zN 26 rfl rfl (by kernel_rfl) (by kernel_rfl) rfl rfl<|d_pv 27 rfl rfl (by kernel_rfl) (by kernel_rfl) rfl rfl (zm rfl rfl)<|d_pv 28 rfl rfl (by kernel_rfl) (by kernel_rfl) rfl rfl (zb rfl) ?_
      exact zza (hJ2 ⟨hx9⟩) (by kernel_rfl) ((.of rfl):SubM _ _) .rfl .rfl ((.of [0,1,2] rfl):SelR _ _ _)
    refine zjb (X:=PLift (¬((((((((((ar=(A1.getD k b0).ar)∧(le=(A1.getD k b0).tp))∧(tp=(A1.getD k b0).le))∧(rt=(A1.getD k b0).bt))∧(sx=(A1.getD k b0).sy))∧(sy=(A1.getD k b0).sx))∧(xx=(A1.getD k b0).yy))∧(xy=(A1.getD k b0).xy))∧(mx=(A1.getD k b0).my))∧(ms=(A1.getD k b0).ms)))) (k':=90) (L':=(lb 99 511)) (fun _=>([(13,.bool false),(4,.bool false),(3,.pointer (some ⟨b1,0,none⟩)),(0,.agg #[.int .i64 ar,.int .i64 le,.int .i64 tp,.int .i64 rt,.int .i64 bt,.int .i64 sx,.int .i64 sy,.int .i64 xx,.int .i64 xy,.int .i64 yy,.int .i64 ms,.int .i64 mx,.int .i64 my]),(1,.pointer (some ⟨b15,0,none⟩)),(2,.pointer (some ⟨b21,0,none⟩))],[],[boxA b1 51 [.int .i64 ar,.int .i64 le,.int .i64 tp,.int .i64 rt,.int .i64 bt,.int .i64 sx,.int .i64 sy,.int .i64 xx,.int .i64 xy,.int .i64 yy,.int .i64 ms,.int .i64 mx,.int .i64 my]],[atF b15 0 [.slice pA (A1.length) cA],atF b21 0 [.int .i64 ((k:Nat):Int)],slF (rI13 .i64) pA cA A1])) ?_ (fun hJ0=> ?_)
    · as_aux_lemma =>
      rintro ⟨hx9⟩
      dsimp only
      refine zN 9 rfl rfl (by kernel_rfl) (by kernel_rfl) rfl rfl<|zN 10 rfl rfl (by kernel_rfl) (by kernel_rfl) rfl rfl<|zN 11 rfl rfl (by kernel_rfl) (by kernel_rfl) rfl rfl<|zN 12 rfl rfl (by kernel_rfl) (by kernel_rfl) rfl rfl<|zN 13 rfl rfl (by kernel_rfl) (by kernel_rfl) rfl rfl<|zN 14 rfl rfl (by kernel_rfl) (by kernel_rfl) rfl rfl<|zN 15 rfl rfl (by kernel_rfl) (by kernel_rfl) rfl rfl<|zN 16 rfl rfl (by kernel_rfl) (by kernel_rfl) rfl rfl<|d_pv 17 rfl rfl (by kernel_rfl) (by kernel_rfl) rfl rfl (zm rfl rfl)<|d_pv 18 rfl rfl (by kernel_rfl) (by kernel_rfl) rfl rfl (zb rfl) ?_
      exact zza (hJ1 ⟨hx9⟩) (by kernel_rfl) ((.of rfl):SubM _ _) .rfl .rfl ((.of [0,1,2] rfl):SelR _ _ _)
    refine d_pv 0 rfl rfl (by kernel_rfl) (by kernel_rfl) rfl rfl (zg Try.underlying51 rfl sz3 rfl rfl)<|d_u 1 rfl rfl (by kernel_rfl) (by kernel_rfl) rfl rfl (ze 0 ty3 rfl rfl rfl)<|d_u 2 rfl rfl (by kernel_rfl) (by kernel_rfl) rfl rfl (zl (j:=0) 0 ty35 rfl rfl rfl rfl)<|d_u 3 rfl rfl (by kernel_rfl) (by kernel_rfl) rfl rfl (zl (j:=0) 1 ty3 rfl rfl rfl rfl)<|zaa (x0:=(A1.getD k b0)) 4 rfl rfl (by kernel_rfl) (by kernel_rfl) 2 k rfl Try.underlying35 sz51 rfl rfl rfl (by first|rfl|assumption|omega) rfl rfl (gD (d:=b0) (by omega)) (fun b2 o3 hok4=> ?_)
    obtain ⟨hok40,hok41,hok42,hok43,hok44,hok45,hok46,hok47,hok48,hok49,hok410,hok411,hok412⟩:=hok4
    replace hok40:=zj.1 hok40
    replace hok41:=zj.1 hok41
    replace hok42:=zj.1 hok42
    replace hok43:=zj.1 hok43
    replace hok44:=zj.1 hok44
    replace hok45:=zj.1 hok45
    replace hok46:=zj.1 hok46
    replace hok47:=zj.1 hok47
    replace hok48:=zj.1 hok48
    replace hok49:=zj.1 hok49
    replace hok410:=zj.1 hok410
    replace hok411:=zj.1 hok411
    replace hok412:=zj.1 hok412
    refine d_pv 5 rfl rfl (by kernel_rfl) (by kernel_rfl) rfl rfl (zg Try.underlying51 rfl sz3 rfl rfl)<|d_u 6 rfl rfl (by kernel_rfl) (by kernel_rfl) rfl rfl (zl (j:=0) 0 ty3 rfl rfl rfl rfl)<|d_pv 7 rfl rfl (by kernel_rfl) (by kernel_rfl) rfl rfl (zqa rfl rfl)<|zTa 8 rfl rfl (by kernel_rfl) (by kernel_rfl) rfl rfl (zb rfl) (fun h5=> ?_) (fun h5=> ?_)
    · as_aux_lemma =>
      refine d_pv 9 rfl rfl (by kernel_rfl) (by kernel_rfl) rfl rfl (zg Try.underlying51 rfl sz3 rfl rfl)<|d_u 10 rfl rfl (by kernel_rfl) (by kernel_rfl) rfl rfl (ze 0 ty3 rfl rfl rfl)<|d_u 11 rfl rfl (by kernel_rfl) (by kernel_rfl) rfl rfl (zl (j:=0) 1 ty35 rfl rfl rfl rfl)<|d_u 12 rfl rfl (by kernel_rfl) (by kernel_rfl) rfl rfl (zl (j:=0) 2 ty3 rfl rfl rfl rfl)<|zaa (x0:=(A1.getD k b0)) 13 rfl rfl (by kernel_rfl) (by kernel_rfl) 3 k rfl Try.underlying35 sz51 rfl rfl rfl (by first|rfl|assumption|omega) rfl rfl (gD (d:=b0) (by omega)) (fun b6 o7 hok8=> ?_)
      obtain ⟨hok80,hok81,hok82,hok83,hok84,hok85,hok86,hok87,hok88,hok89,hok810,hok811,hok812⟩:=hok8
      replace hok80:=zj.1 hok80
      replace hok81:=zj.1 hok81
      replace hok82:=zj.1 hok82
      replace hok83:=zj.1 hok83
      replace hok84:=zj.1 hok84
      replace hok85:=zj.1 hok85
      replace hok86:=zj.1 hok86
      replace hok87:=zj.1 hok87
      replace hok88:=zj.1 hok88
      replace hok89:=zj.1 hok89
      replace hok810:=zj.1 hok810
      replace hok811:=zj.1 hok811
      replace hok812:=zj.1 hok812
      refine d_pv 14 rfl rfl (by kernel_rfl) (by kernel_rfl) rfl rfl (zg Try.underlying51 rfl sz3 rfl rfl)<|d_u 15 rfl rfl (by kernel_rfl) (by kernel_rfl) rfl rfl (zl (j:=2) 0 ty3 rfl rfl rfl rfl)<|d_pv 16 rfl rfl (by kernel_rfl) (by kernel_rfl) rfl rfl (zqa rfl rfl)<|d_pv 17 rfl rfl (by kernel_rfl) (by kernel_rfl) rfl rfl (zm rfl rfl)<|zTa 18 rfl rfl (by kernel_rfl) (by kernel_rfl) rfl rfl (zb rfl) (fun h9=> ?_) (fun h9=> ?_)
      · as_aux_lemma =>
        refine d_pv 19 rfl rfl (by kernel_rfl) (by kernel_rfl) rfl rfl (zg Try.underlying51 rfl sz3 rfl rfl)<|d_u 20 rfl rfl (by kernel_rfl) (by kernel_rfl) rfl rfl (ze 0 ty3 rfl rfl rfl)<|d_u 21 rfl rfl (by kernel_rfl) (by kernel_rfl) rfl rfl (zl (j:=0) 2 ty35 rfl rfl rfl rfl)<|d_u 22 rfl rfl (by kernel_rfl) (by kernel_rfl) rfl rfl (zl (j:=0) 3 ty3 rfl rfl rfl rfl)<|zaa (x0:=(A1.getD k b0)) 23 rfl rfl (by kernel_rfl) (by kernel_rfl) 4 k rfl Try.underlying35 sz51 rfl rfl rfl (by first|rfl|assumption|omega) rfl rfl (gD (d:=b0) (by omega)) (fun b10 o11 hok12=> ?_)
        obtain ⟨hok120,hok121,hok122,hok123,hok124,hok125,hok126,hok127,hok128,hok129,hok1210,hok1211,hok1212⟩:=hok12
        replace hok120:=zj.1 hok120
        replace hok121:=zj.1 hok121
        replace hok122:=zj.1 hok122
        replace hok123:=zj.1 hok123
        replace hok124:=zj.1 hok124
        replace hok125:=zj.1 hok125
        replace hok126:=zj.1 hok126
        replace hok127:=zj.1 hok127
        replace hok128:=zj.1 hok128
        replace hok129:=zj.1 hok129
        replace hok1210:=zj.1 hok1210
        replace hok1211:=zj.1 hok1211
        replace hok1212:=zj.1 hok1212
        refine d_pv 24 rfl rfl (by kernel_rfl) (by kernel_rfl) rfl rfl (zg Try.underlying51 rfl sz3 rfl rfl)<|d_u 25 rfl rfl (by kernel_rfl) (by kernel_rfl) rfl rfl (zl (j:=1) 0 ty3 rfl rfl rfl rfl)<|d_pv 26 rfl rfl (by kernel_rfl) (by kernel_rfl) rfl rfl (zqa rfl rfl)<|d_pv 27 rfl rfl (by kernel_rfl) (by kernel_rfl) rfl rfl (zm rfl rfl)<|zTa 28 rfl rfl (by kernel_rfl) (by kernel_rfl) rfl rfl (zb rfl) (fun h13=> ?_) (fun h13=> ?_)
        · as_aux_lemma =>
          refine d_pv 29 rfl rfl (by kernel_rfl) (by kernel_rfl) rfl rfl (zg Try.underlying51 rfl sz3 rfl rfl)<|d_u 30 rfl rfl (by kernel_rfl) (by kernel_rfl) rfl rfl (ze 0 ty3 rfl rfl rfl)<|d_u 31 rfl rfl (by kernel_rfl) (by kernel_rfl) rfl rfl (zl (j:=0) 3 ty35 rfl rfl rfl rfl)<|d_u 32 rfl rfl (by kernel_rfl) (by kernel_rfl) rfl rfl (zl (j:=0) 4 ty3 rfl rfl rfl rfl)<|zaa (x0:=(A1.getD k b0)) 33 rfl rfl (by kernel_rfl) (by kernel_rfl) 5 k rfl Try.underlying35 sz51 rfl rfl rfl (by first|rfl|assumption|omega) rfl rfl (gD (d:=b0) (by omega)) (fun b14 o15 hok16=> ?_)
          obtain ⟨hok160,hok161,hok162,hok163,hok164,hok165,hok166,hok167,hok168,hok169,hok1610,hok1611,hok1612⟩:=hok16
          replace hok160:=zj.1 hok160
          replace hok161:=zj.1 hok161
          replace hok162:=zj.1 hok162
          replace hok163:=zj.1 hok163
          replace hok164:=zj.1 hok164
          replace hok165:=zj.1 hok165
          replace hok166:=zj.1 hok166
          replace hok167:=zj.1 hok167
          replace hok168:=zj.1 hok168
          replace hok169:=zj.1 hok169
          replace hok1610:=zj.1 hok1610
          replace hok1611:=zj.1 hok1611
          replace hok1612:=zj.1 hok1612
          refine d_pv 34 rfl rfl (by kernel_rfl) (by kernel_rfl) rfl rfl (zg Try.underlying51 rfl sz3 rfl rfl)<|d_u 35 rfl rfl (by kernel_rfl) (by kernel_rfl) rfl rfl (zl (j:=4) 0 ty3 rfl rfl rfl rfl)<|d_pv 36 rfl rfl (by kernel_rfl) (by kernel_rfl) rfl rfl (zqa rfl rfl)<|d_pv 37 rfl rfl (by kernel_rfl) (by kernel_rfl) rfl rfl (zm rfl rfl)<|zTa 38 rfl rfl (by kernel_rfl) (by kernel_rfl) rfl rfl (zb rfl) (fun h17=> ?_) (fun h17=> ?_)
          · as_aux_lemma =>
            refine d_pv 39 rfl rfl (by kernel_rfl) (by kernel_rfl) rfl rfl (zg Try.underlying51 rfl sz3 rfl rfl)<|d_u 40 rfl rfl (by kernel_rfl) (by kernel_rfl) rfl rfl (ze 0 ty3 rfl rfl rfl)<|d_u 41 rfl rfl (by kernel_rfl) (by kernel_rfl) rfl rfl (zl (j:=0) 4 ty35 rfl rfl rfl rfl)<|d_u 42 rfl rfl (by kernel_rfl) (by kernel_rfl) rfl rfl (zl (j:=0) 5 ty3 rfl rfl rfl rfl)<|zaa (x0:=(A1.getD k b0)) 43 rfl rfl (by kernel_rfl) (by kernel_rfl) 6 k rfl Try.underlying35 sz51 rfl rfl rfl (by first|rfl|assumption|omega) rfl rfl (gD (d:=b0) (by omega)) (fun b18 o19 hok20=> ?_)
            obtain ⟨hok200,hok201,hok202,hok203,hok204,hok205,hok206,hok207,hok208,hok209,hok2010,hok2011,hok2012⟩:=hok20
            replace hok200:=zj.1 hok200
            replace hok201:=zj.1 hok201
            replace hok202:=zj.1 hok202
            replace hok203:=zj.1 hok203
            replace hok204:=zj.1 hok204
            replace hok205:=zj.1 hok205
            replace hok206:=zj.1 hok206
            replace hok207:=zj.1 hok207
            replace hok208:=zj.1 hok208
            replace hok209:=zj.1 hok209
            replace hok2010:=zj.1 hok2010
            replace hok2011:=zj.1 hok2011
            replace hok2012:=zj.1 hok2012
            refine d_pv 44 rfl rfl (by kernel_rfl) (by kernel_rfl) rfl rfl (zg Try.underlying51 rfl sz3 rfl rfl)<|d_u 45 rfl rfl (by kernel_rfl) (by kernel_rfl) rfl rfl (zl (j:=6) 0 ty3 rfl rfl rfl rfl)<|d_pv 46 rfl rfl (by kernel_rfl) (by kernel_rfl) rfl rfl (zqa rfl rfl)<|d_pv 47 rfl rfl (by kernel_rfl) (by kernel_rfl) rfl rfl (zm rfl rfl)<|zTa 48 rfl rfl (by kernel_rfl) (by kernel_rfl) rfl rfl (zb rfl) (fun h21=> ?_) (fun h21=> ?_)
            · as_aux_lemma =>
              refine d_pv 49 rfl rfl (by kernel_rfl) (by kernel_rfl) rfl rfl (zg Try.underlying51 rfl sz3 rfl rfl)<|d_u 50 rfl rfl (by kernel_rfl) (by kernel_rfl) rfl rfl (ze 0 ty3 rfl rfl rfl)<|d_u 51 rfl rfl (by kernel_rfl) (by kernel_rfl) rfl rfl (zl (j:=0) 5 ty35 rfl rfl rfl rfl)<|d_u 52 rfl rfl (by kernel_rfl) (by kernel_rfl) rfl rfl (zl (j:=0) 6 ty3 rfl rfl rfl rfl)<|zaa (x0:=(A1.getD k b0)) 53 rfl rfl (by kernel_rfl) (by kernel_rfl) 7 k rfl Try.underlying35 sz51 rfl rfl rfl (by first|rfl|assumption|omega) rfl rfl (gD (d:=b0) (by omega)) (fun b22 o23 hok24=> ?_)
              obtain ⟨hok240,hok241,hok242,hok243,hok244,hok245,hok246,hok247,hok248,hok249,hok2410,hok2411,hok2412⟩:=hok24
              replace hok240:=zj.1 hok240
              replace hok241:=zj.1 hok241
              replace hok242:=zj.1 hok242
              replace hok243:=zj.1 hok243
              replace hok244:=zj.1 hok244
              replace hok245:=zj.1 hok245
              replace hok246:=zj.1 hok246
              replace hok247:=zj.1 hok247
              replace hok248:=zj.1 hok248
              replace hok249:=zj.1 hok249
              replace hok2410:=zj.1 hok2410
              replace hok2411:=zj.1 hok2411
              replace hok2412:=zj.1 hok2412
              refine d_pv 54 rfl rfl (by kernel_rfl) (by kernel_rfl) rfl rfl (zg Try.underlying51 rfl sz3 rfl rfl)<|d_u 55 rfl rfl (by kernel_rfl) (by kernel_rfl) rfl rfl (zl (j:=5) 0 ty3 rfl rfl rfl rfl)<|d_pv 56 rfl rfl (by kernel_rfl) (by kernel_rfl) rfl rfl (zqa rfl rfl)<|d_pv 57 rfl rfl (by kernel_rfl) (by kernel_rfl) rfl rfl (zm rfl rfl)<|zTa 58 rfl rfl (by kernel_rfl) (by kernel_rfl) rfl rfl (zb rfl) (fun h25=> ?_) (fun h25=> ?_)
              · as_aux_lemma =>
                refine d_pv 59 rfl rfl (by kernel_rfl) (by kernel_rfl) rfl rfl (zg Try.underlying51 rfl sz3 rfl rfl)<|d_u 60 rfl rfl (by kernel_rfl) (by kernel_rfl) rfl rfl (ze 0 ty3 rfl rfl rfl)<|d_u 61 rfl rfl (by kernel_rfl) (by kernel_rfl) rfl rfl (zl (j:=0) 6 ty35 rfl rfl rfl rfl)<|d_u 62 rfl rfl (by kernel_rfl) (by kernel_rfl) rfl rfl (zl (j:=0) 7 ty3 rfl rfl rfl rfl)<|zaa (x0:=(A1.getD k b0)) 63 rfl rfl (by kernel_rfl) (by kernel_rfl) 8 k rfl Try.underlying35 sz51 rfl rfl rfl (by first|rfl|assumption|omega) rfl rfl (gD (d:=b0) (by omega)) (fun b26 o27 hok28=> ?_)
                obtain ⟨hok280,hok281,hok282,hok283,hok284,hok285,hok286,hok287,hok288,hok289,hok2810,hok2811,hok2812⟩:=hok28
                replace hok280:=zj.1 hok280
                replace hok281:=zj.1 hok281
                replace hok282:=zj.1 hok282
                replace hok283:=zj.1 hok283
                replace hok284:=zj.1 hok284
                replace hok285:=zj.1 hok285
                replace hok286:=zj.1 hok286
                replace hok287:=zj.1 hok287
                replace hok288:=zj.1 hok288
                replace hok289:=zj.1 hok289
                replace hok2810:=zj.1 hok2810
                replace hok2811:=zj.1 hok2811
                replace hok2812:=zj.1 hok2812
                refine d_pv 64 rfl rfl (by kernel_rfl) (by kernel_rfl) rfl rfl (zg Try.underlying51 rfl sz3 rfl rfl)<|d_u 65 rfl rfl (by kernel_rfl) (by kernel_rfl) rfl rfl (zl (j:=9) 0 ty3 rfl rfl rfl rfl)<|d_pv 66 rfl rfl (by kernel_rfl) (by kernel_rfl) rfl rfl (zqa rfl rfl)<|d_pv 67 rfl rfl (by kernel_rfl) (by kernel_rfl) rfl rfl (zm rfl rfl)<|zTa 68 rfl rfl (by kernel_rfl) (by kernel_rfl) rfl rfl (zb rfl) (fun h29=> ?_) (fun h29=> ?_)
                · as_aux_lemma =>
                  refine d_pv 69 rfl rfl (by kernel_rfl) (by kernel_rfl) rfl rfl (zg Try.underlying51 rfl sz3 rfl rfl)<|d_u 70 rfl rfl (by kernel_rfl) (by kernel_rfl) rfl rfl (ze 0 ty3 rfl rfl rfl)<|d_u 71 rfl rfl (by kernel_rfl) (by kernel_rfl) rfl rfl (zl (j:=0) 7 ty35 rfl rfl rfl rfl)<|d_u 72 rfl rfl (by kernel_rfl) (by kernel_rfl) rfl rfl (zl (j:=0) 8 ty3 rfl rfl rfl rfl)<|zaa (x0:=(A1.getD k b0)) 73 rfl rfl (by kernel_rfl) (by kernel_rfl) 9 k rfl Try.underlying35 sz51 rfl rfl rfl (by first|rfl|assumption|omega) rfl rfl (gD (d:=b0) (by omega)) (fun b30 o31 hok32=> ?_)
                  obtain ⟨hok320,hok321,hok322,hok323,hok324,hok325,hok326,hok327,hok328,hok329,hok3210,hok3211,hok3212⟩:=hok32
                  replace hok320:=zj.1 hok320
                  replace hok321:=zj.1 hok321
                  replace hok322:=zj.1 hok322
                  replace hok323:=zj.1 hok323
                  replace hok324:=zj.1 hok324
                  replace hok325:=zj.1 hok325
                  replace hok326:=zj.1 hok326
                  replace hok327:=zj.1 hok327
                  replace hok328:=zj.1 hok328
                  replace hok329:=zj.1 hok329
                  replace hok3210:=zj.1 hok3210
                  replace hok3211:=zj.1 hok3211
                  replace hok3212:=zj.1 hok3212
                  refine d_pv 74 rfl rfl (by kernel_rfl) (by kernel_rfl) rfl rfl (zg Try.underlying51 rfl sz3 rfl rfl)<|d_u 75 rfl rfl (by kernel_rfl) (by kernel_rfl) rfl rfl (zl (j:=8) 0 ty3 rfl rfl rfl rfl)<|d_pv 76 rfl rfl (by kernel_rfl) (by kernel_rfl) rfl rfl (zqa rfl rfl)<|d_pv 77 rfl rfl (by kernel_rfl) (by kernel_rfl) rfl rfl (zm rfl rfl)<|zTa 78 rfl rfl (by kernel_rfl) (by kernel_rfl) rfl rfl (zb rfl) (fun h33=> ?_) (fun h33=> ?_)
                  · as_aux_lemma =>
                    refine d_pv 79 rfl rfl (by kernel_rfl) (by kernel_rfl) rfl rfl (zg Try.underlying51 rfl sz3 rfl rfl)<|d_u 80 rfl rfl (by kernel_rfl) (by kernel_rfl) rfl rfl (ze 0 ty3 rfl rfl rfl)<|d_u 81 rfl rfl (by kernel_rfl) (by kernel_rfl) rfl rfl (zl (j:=0) 8 ty35 rfl rfl rfl rfl)<|d_u 82 rfl rfl (by kernel_rfl) (by kernel_rfl) rfl rfl (zl (j:=0) 9 ty3 rfl rfl rfl rfl)<|zaa (x0:=(A1.getD k b0)) 83 rfl rfl (by kernel_rfl) (by kernel_rfl) 10 k rfl Try.underlying35 sz51 rfl rfl rfl (by first|rfl|assumption|omega) rfl rfl (gD (d:=b0) (by omega)) (fun b34 o35 hok36=> ?_)
                    obtain ⟨hok360,hok361,hok362,hok363,hok364,hok365,hok366,hok367,hok368,hok369,hok3610,hok3611,hok3612⟩:=hok36
                    replace hok360:=zj.1 hok360
                    replace hok361:=zj.1 hok361
                    replace hok362:=zj.1 hok362
                    replace hok363:=zj.1 hok363
                    replace hok364:=zj.1 hok364
                    replace hok365:=zj.1 hok365
                    replace hok366:=zj.1 hok366
                    replace hok367:=zj.1 hok367
                    replace hok368:=zj.1 hok368
                    replace hok369:=zj.1 hok369
                    replace hok3610:=zj.1 hok3610
                    replace hok3611:=zj.1 hok3611
                    replace hok3612:=zj.1 hok3612
                    refine d_pv 84 rfl rfl (by kernel_rfl) (by kernel_rfl) rfl rfl (zg Try.underlying51 rfl sz3 rfl rfl)<|d_u 85 rfl rfl (by kernel_rfl) (by kernel_rfl) rfl rfl (zl (j:=12) 0 ty3 rfl rfl rfl rfl)<|d_pv 86 rfl rfl (by kernel_rfl) (by kernel_rfl) rfl rfl (zqa rfl rfl)<|d_pv 87 rfl rfl (by kernel_rfl) (by kernel_rfl) rfl rfl (zm rfl rfl)<|zTa 88 rfl rfl (by kernel_rfl) (by kernel_rfl) rfl rfl (zb rfl) (fun h37=> ?_) (fun h37=> ?_)
                    · as_aux_lemma =>
                      refine d_pv 89 rfl rfl (by kernel_rfl) (by kernel_rfl) rfl rfl (zg Try.underlying51 rfl sz3 rfl rfl)<|d_u 90 rfl rfl (by kernel_rfl) (by kernel_rfl) rfl rfl (ze 0 ty3 rfl rfl rfl)<|d_u 91 rfl rfl (by kernel_rfl) (by kernel_rfl) rfl rfl (zl (j:=0) 9 ty35 rfl rfl rfl rfl)<|d_u 92 rfl rfl (by kernel_rfl) (by kernel_rfl) rfl rfl (zl (j:=0) 10 ty3 rfl rfl rfl rfl)<|zaa (x0:=(A1.getD k b0)) 93 rfl rfl (by kernel_rfl) (by kernel_rfl) 11 k rfl Try.underlying35 sz51 rfl rfl rfl (by first|rfl|assumption|omega) rfl rfl (gD (d:=b0) (by omega)) (fun b38 o39 hok40=> ?_)
                      obtain ⟨hok400,hok401,hok402,hok403,hok404,hok405,hok406,hok407,hok408,hok409,hok4010,hok4011,hok4012⟩:=hok40
                      replace hok400:=zj.1 hok400
                      replace hok401:=zj.1 hok401
                      replace hok402:=zj.1 hok402
                      replace hok403:=zj.1 hok403
                      replace hok404:=zj.1 hok404
                      replace hok405:=zj.1 hok405
                      replace hok406:=zj.1 hok406
                      replace hok407:=zj.1 hok407
                      replace hok408:=zj.1 hok408
                      replace hok409:=zj.1 hok409
                      replace hok4010:=zj.1 hok4010
                      replace hok4011:=zj.1 hok4011
                      replace hok4012:=zj.1 hok4012
                      refine d_pv 94 rfl rfl (by kernel_rfl) (by kernel_rfl) rfl rfl (zg Try.underlying51 rfl sz3 rfl rfl)<|d_u 95 rfl rfl (by kernel_rfl) (by kernel_rfl) rfl rfl (zl (j:=10) 0 ty3 rfl rfl rfl rfl)<|d_pv 96 rfl rfl (by kernel_rfl) (by kernel_rfl) rfl rfl (zqa rfl rfl)<|d_pv 97 rfl rfl (by kernel_rfl) (by kernel_rfl) rfl rfl (zm rfl rfl)<|d_pv 98 rfl rfl (by kernel_rfl) (by kernel_rfl) rfl rfl (zd rfl)<|zfa (by kernel_rfl) ?_
                      exact zda () (show True from by first|trivial|omega|simp_all) ((.e rfl (congrArg Value.bool (by first|exact decide_eq_decide.2 ⟨fun e=>⟨⟨⟨⟨⟨⟨⟨⟨⟨h5,h9⟩,h13⟩,h17⟩,h21⟩,h25⟩,h29⟩,h33⟩,h37⟩,e⟩,fun e=>e.2⟩|exact decide_eq_decide.2 ⟨fun e=>e.2,fun e=>⟨⟨⟨⟨⟨⟨⟨⟨⟨h5,h9⟩,h13⟩,h17⟩,h21⟩,h25⟩,h29⟩,h33⟩,h37⟩,e⟩⟩)) .n):SubM _ _) (ho:=((.c (i:=0) rfl .n):PickO _ _ _)) ((.of [10,11,12] rfl):SelR _ _ _)
                    · as_aux_lemma =>
                      exact zza (hJ8 ⟨fun e=>h37 e.1.2⟩) (by kernel_rfl) ((.of rfl):SubM _ _) .rfl .rfl ((.of [9,10,11] rfl):SelR _ _ _)
                  · as_aux_lemma =>
                    exact zza (hJ7 ⟨fun e=>h33 e.1.1.2⟩) (by kernel_rfl) ((.of rfl):SubM _ _) .rfl .rfl ((.of [8,9,10] rfl):SelR _ _ _)
                · as_aux_lemma =>
                  exact zza (hJ6 ⟨fun e=>h29 e.1.1.1.2⟩) (by kernel_rfl) ((.of rfl):SubM _ _) .rfl .rfl ((.of [7,8,9] rfl):SelR _ _ _)
              · as_aux_lemma =>
                exact zza (hJ5 ⟨fun e=>h25 e.1.1.1.1.2⟩) (by kernel_rfl) ((.of rfl):SubM _ _) .rfl .rfl ((.of [6,7,8] rfl):SelR _ _ _)
            · as_aux_lemma =>
              exact zza (hJ4 ⟨fun e=>h21 e.1.1.1.1.1.2⟩) (by kernel_rfl) ((.of rfl):SubM _ _) .rfl .rfl ((.of [5,6,7] rfl):SelR _ _ _)
          · as_aux_lemma =>
            exact zza (hJ3 ⟨fun e=>h17 e.1.1.1.1.1.1.2⟩) (by kernel_rfl) ((.of rfl):SubM _ _) .rfl .rfl ((.of [4,5,6] rfl):SelR _ _ _)
        · as_aux_lemma =>
          exact zza (hJ2 ⟨fun e=>h13 e.1.1.1.1.1.1.1.2⟩) (by kernel_rfl) ((.of rfl):SubM _ _) .rfl .rfl ((.of [3,4,5] rfl):SelR _ _ _)
      · as_aux_lemma =>
        exact zza (hJ1 ⟨fun e=>h9 e.1.1.1.1.1.1.1.1.2⟩) (by kernel_rfl) ((.of rfl):SubM _ _) .rfl .rfl ((.of [2,3,4] rfl):SelR _ _ _)
    · as_aux_lemma =>
      exact zza (hJ0 ⟨fun e=>h5 e.1.1.1.1.1.1.1.1.1⟩) (by kernel_rfl) ((.of rfl):SubM _ _) .rfl .rfl ((.of [1,2,3] rfl):SelR _ _ _)
  ·
    rintro ⟨⟩ -
    try dsimp only
    refine zI ?_
    exact zD Try.results25 () trivial (zq rfl) rfl (ho:=(.n:PickO _ _ _)) (.n:SelR _ _ _)
end Go.Proofs.Ytefbbhiaalcjfaa.Sp
namespace Go.Proofs.Ytefbbhiaalcjfaa.Sp
open Go
set_option linter.unusedVariables false
set_option maxRecDepth 100000
set_option maxHeartbeats 8000000
theorem zsc {p:Option Addr} {n:Nat} {cap:Nat} {l:List Bb} {pA:Option Addr} {cA:Nat} {A1:List Bb} {k:Nat} {b15:Nat} {b21:Nat} (hn:l.length=n) (hk:k<A1.length):Con Try.prog 49 [.slice p n cap,.func (.func 25) #[] #[.pointer (some ⟨b15,0,none⟩),.pointer (some ⟨b21,0,none⟩)]] [] [slF (rI13 .i64) p cap l,atF b15 0 [.slice pA (A1.length) cA],atF b21 0 [.int .i64 ((k:Nat):Int)],slF (rI13 .i64) pA cA A1] (Y:=Int) (fun y=>(0≤y↔∃g∈l,Fl.mt g (A1.getD k b0))) (fun y=> .int .i64 y) (fun y=>[]) (fun y=>[]):=by
 refine zr Try.func49 rfl rfl rfl (fun c=> ?_)
 show RunC _ _ _ _ _ [(0,.slice p n cap),(1,.func (.func 25) #[] #[.pointer (some ⟨b15,0,none⟩),.pointer (some ⟨b21,0,none⟩)])] [] [slF (rI13 .i64) p cap l,atF b15 0 [.slice pA (A1.length) cA],atF b21 0 [.int .i64 ((k:Nat):Int)],slF (rI13 .i64) pA cA A1]
 refine zca 0 rfl (fun hL0=> ?_)
 refine zca 3 rfl (fun hL3=> ?_)
 refine zi<|zc<|r_pv rfl rfl (zd rfl)<|zk<|zf<|zi<|zi<|zc<|r_pv rfl rfl (zb rfl)<|r_pv rfl rfl (zM Try.underlying35 rfl)<|r_pv rfl rfl (zb rfl)<|zk<|zf<|zA<|zna (X:=Nat) (fun x:Nat=>x≤n∧∀j,j<x→¬Fl.mt (l.getD j b0) (A1.getD k b0)) (fun x=>[(8,.int .i64 ((x:Nat):Int)),(7,.int .i64 ((n:Nat):Int)),(0,.slice p n cap),(1,.func (.func 25) #[] #[.pointer (some ⟨b15,0,none⟩),.pointer (some ⟨b21,0,none⟩)])]) (fun x=>[]) (fun x=>[slF (rI13 .i64) p cap l,atF b15 0 [.slice pA (A1.length) cA],atF b21 0 [.int .i64 ((k:Nat):Int)],slF (rI13 .i64) pA cA A1]) (fun x:Nat=>n - x) 0 (show 0≤n∧∀j,j<0→¬Fl.mt (l.getD j b0) (A1.getD k b0) from by exact ⟨by omega,fun j h=>by omega⟩) ((.e rfl (by first|rfl|(congr 1;omega)|simp_all) (.of rfl)):SubM _ _) (ho:=(.n:PickO _ _ _)) ((.of [0,1,2,3] rfl):SelR _ _ _) ?_
 rintro i hI
 replace hI:i≤n∧∀j,j<i→¬Fl.mt (l.getD j b0) (A1.getD k b0):=hI
 try dsimp only
 obtain ⟨hi,hall⟩:=hI
 refine zi<|zc<|r_pv rfl rfl (zZ rfl rfl)<|zk<|zf<|zi<|zE rfl (fun h1=> ?_) (fun h1=> ?_)
 ·
  refine zz<|zf<|zi<|zA<|zi<|zc<|r_pv rfl rfl (zb rfl)<|r_pv rfl rfl (zd rfl)<|zk<|zf<|zi<|zc<|r_pv rfl rfl (zb rfl)<|r_pv rfl rfl (zb rfl)<|r_pv rfl rfl (zb rfl)<|zK (x0:=(l.getD i b0)) 0 i rfl Try.underlying35 sz51 rfl rfl rfl (by first|rfl|assumption|(simp_all;done)|omega) rfl rfl (gD (d:=b0) (by omega)) (fun b2 o3 hok4=> ?_)
  obtain ⟨hok40,hok41,hok42,hok43,hok44,hok45,hok46,hok47,hok48,hok49,hok410,hok411,hok412⟩:=hok4
  replace hok40:=zj.1 hok40
  replace hok41:=zj.1 hok41
  replace hok42:=zj.1 hok42
  replace hok43:=zj.1 hok43
  replace hok44:=zj.1 hok44
  replace hok45:=zj.1 hok45
  replace hok46:=zj.1 hok46
  replace hok47:=zj.1 hok47
  replace hok48:=zj.1 hok48
  replace hok49:=zj.1 hok49
  replace hok410:=zj.1 hok410
  replace hok411:=zj.1 hok411
  replace hok412:=zj.1 hok412
  refine r_u rfl rfl (zpa (j:=0) 0 ty51 rfl rfl rfl (.take (.take (.take (.take (.take (.take (.take (.take (.take (.take (.take (.take (.take .nil))))))))))))))<|zPb (first:=[]) (cap:=[.pointer (some ⟨b15,0,none⟩),.pointer (some ⟨b21,0,none⟩)]) rfl rfl rfl (.c rfl .n) ce25 (zhe (ar:=(l.getD i b0).ar) (le:=(l.getD i b0).le) (tp:=(l.getD i b0).tp) (rt:=(l.getD i b0).rt) (bt:=(l.getD i b0).bt) (sx:=(l.getD i b0).sx) (sy:=(l.getD i b0).sy) (xx:=(l.getD i b0).xx) (xy:=(l.getD i b0).xy) (yy:=(l.getD i b0).yy) (ms:=(l.getD i b0).ms) (mx:=(l.getD i b0).mx) (my:=(l.getD i b0).my) (pA:=pA) (cA:=cA) (A1:=A1) (k:=k) (b15:=b15) (b21:=b21) (hk:=by assumption)) (.c (j:=2) rfl (.c (j:=3) rfl (.c (j:=4) rfl .n))) ?_
  rintro ⟨⟩ -
  dsimp only [List.append_eq,List.nil_append,List.cons_append]
  refine zk<|zf<|zE rfl (fun hb=> ?_) (fun hb=> ?_)
  ·
   refine zi<|zc<|r_pv rfl rfl (zb rfl)<|r_pv rfl rfl (zd rfl)<|zk<|zf<|zI<|zY<|zt<|zt<|zY<|zt ?_
   exact zD Try.results49 ((i:Nat):Int) (⟨fun _=>⟨l.getD i b0,Fl.gB_mem (by omega),hb⟩,fun _=>by omega⟩) (zq rfl) rfl (ho:=(.n:PickO _ _ _)) (.n:SelR _ _ _)
  ·
   refine zz<|zT<|zf<|zc<|r_pv rfl rfl (zC (z:=(((i+1):Nat):Int)) rfl rfl (w64 (by omega)))<|r_pv rfl rfl (zb rfl)<|zk<|zea (i+1) (show (i+1)≤n∧∀j,j<(i+1)→¬Fl.mt (l.getD j b0) (A1.getD k b0) from by refine ⟨by omega,fun j hj=> ?_⟩;by_cases e:j=i;subst e;exact hb;exact hall j (by omega)) (by show n - (i+1)<n - i;omega) ((.of rfl):SubM _ _) (ho:=(.n:PickO _ _ _)) ((.of [1,2,3,4] rfl):SelR _ _ _)
 ·
  refine zia<|zn<|zn<|zv<|zf<|zi<|zc<|r_pv rfl rfl (zd rfl)<|zk<|zf<|zI ?_
  exact zD Try.results49 (-1) (⟨fun h=>by omega,fun ⟨g,hg,hb⟩=>by obtain ⟨j,hj,e⟩:=Fl.mem_gB hg;have:=hall j (by omega);rw [e] at this;exact absurd hb this⟩) (zq rfl) rfl (ho:=(.n:PickO _ _ _)) (.n:SelR _ _ _)
theorem zNb {p:Option Addr} {n:Nat} {cap:Nat} {l:List Bb} {pA:Option Addr} {cA:Nat} {A1:List Bb} {k:Nat} {b15:Nat} {b21:Nat} (hn:l.length=n) (hk:k<A1.length):Con Try.prog 24 [.slice p n cap,.func (.func 25) #[] #[.pointer (some ⟨b15,0,none⟩),.pointer (some ⟨b21,0,none⟩)]] [] [slF (rI13 .i64) p cap l,atF b15 0 [.slice pA (A1.length) cA],atF b21 0 [.int .i64 ((k:Nat):Int)],slF (rI13 .i64) pA cA A1] (Y:=Unit) (fun y=>True) (fun y=> .bool (decide (∃g∈l,Fl.mt g (A1.getD k b0)))) (fun y=>[]) (fun y=>[]):=by
 refine zr Try.func24 rfl rfl rfl (fun c=> ?_)
 show RunC _ _ _ _ _ [(0,.slice p n cap),(1,.func (.func 25) #[] #[.pointer (some ⟨b15,0,none⟩),.pointer (some ⟨b21,0,none⟩)])] [] [slF (rI13 .i64) p cap l,atF b15 0 [.slice pA (A1.length) cA],atF b21 0 [.int .i64 ((k:Nat):Int)],slF (rI13 .i64) pA cA A1]
 refine zca 0 rfl (fun hL0=> ?_)
 refine zca 3 rfl (fun hL3=> ?_)
 refine zi<|zc<|r_pv rfl rfl (zd rfl)<|zk<|zf<|zi<|zc<|r_pv rfl rfl (zb rfl)<|r_pv rfl rfl (zb rfl)<|zy rfl rfl (.c rfl (.c rfl .n)) ce49 (zsc (p:=p) (n:=n) (cap:=cap) (l:=l) (pA:=pA) (cA:=cA) (A1:=A1) (k:=k) (b15:=b15) (b21:=b21) (hn:=by assumption) (hk:=by assumption)) (.c (j:=0) rfl (.c (j:=1) rfl (.c (j:=2) rfl (.c (j:=3) rfl .n)))) ?_
 rintro r1 hr
 dsimp only [List.append_eq,List.nil_append,List.cons_append]
 replace hr:(0≤r1↔∃g∈l,Fl.mt g (A1.getD k b0)):=hr
 refine r_pv rfl rfl (zFa rfl rfl)<|r_pv rfl rfl (zd rfl)<|zk<|zf<|zI ?_
 exact zD Try.results24 () trivial (zq rfl) (congrArg Value.bool (decide_eq_decide.2 hr.symm)) (ho:=(.n:PickO _ _ _)) (.n:SelR _ _ _)
end Go.Proofs.Ytefbbhiaalcjfaa.Sp
namespace Go.Proofs.Ytefbbhiaalcjfaa.Sp
open Go
set_option linter.unusedVariables false
set_option maxRecDepth 100000
set_option maxHeartbeats 8000000
theorem zOc {w:Int} {h:Int} {m:Int} {p:Option Addr} {n:Nat} {cap:Nat} {l:List Int} {th:Int} {xa:Int} {xb:Int} (hn:l.length=n) (hth9: -9223372036854775808≤th∧th≤9223372036854775807) (hxa:0≤xa∧xa≤255) (hxb:0≤xb∧xb≤255):Con Try.prog 6 [.agg #[.int .i64 w,.int .i64 h,.int .i64 m,.slice p n cap],.int .i64 th,.agg #[.int .u8 xa,.int .u8 xb]] [] [slF (rI .i64) p cap l] (Y:=Unit) (fun y=>True) (fun y=> .bool true) (fun y=>[]) (fun y=>[]):=by
 refine zr Try.func6 rfl rfl rfl (fun c=> ?_)
 show RunC _ _ _ _ _ [(0,.agg #[.int .i64 w,.int .i64 h,.int .i64 m,.slice p n cap]),(1,.int .i64 th),(2,.agg #[.int .u8 xa,.int .u8 xb])] [] [slF (rI .i64) p cap l]
 refine zca 0 rfl (fun hL0=> ?_)
 refine zi<|zc<|zP rfl rfl (zW rfl rfl) (fun b1=> ?_)
 refine zP rfl rfl (zW rfl rfl) (fun b2=> ?_)
 refine r_pv rfl rfl (zd rfl)<|zk<|zf<|zi<|zi<|zc<|zO rfl rfl (.n) ce9 (zVe) (.n)<|r_pv rfl rfl (zbb rfl)<|zk<|zf<|zKa rfl rfl<|zz<|zf<|zi<|zUa (X:=Unit) (fun x=>True) (fun x=>[(52,.bool (decide ((((10<w)∨(10<h))∨(((if Bl.rok w h m l then (if 0≤th∧th≤65536 then 0 else 2) else 1):Int)≠0))∨(th=0)))),(6,.bool false),(5,.pointer (some ⟨b2,0,none⟩)),(3,.pointer (some ⟨b1,0,none⟩)),(1,.int .i64 th)]) (fun x=>[boxA b2 40 [.int .u8 xa,.int .u8 xb],boxA b1 24 [.int .i64 w,.int .i64 h,.int .i64 m,.slice p n cap]]) (fun x=>[slF (rI .i64) p cap l]) ?_ ?_
 ·
  refine zc<|r_pv rfl rfl (zg Try.underlying24 rfl sz3 rfl rfl)<|r_u rfl rfl (ze 1 ty3 rfl rfl rfl)<|r_pv rfl rfl (zua rfl rfl)<|zR rfl rfl (zb rfl) (fun h3=> ?_) (fun h3=> ?_)
  ·
   refine za rfl rfl<|za rfl rfl<|za rfl rfl<|r_pv rfl rfl (zm rfl rfl)<|r_pv rfl rfl (zb rfl)<|za rfl rfl<|za rfl rfl<|za rfl rfl<|za rfl rfl<|r_pv rfl rfl (zm rfl rfl)<|r_pv rfl rfl (zb rfl)<|za rfl rfl<|za rfl rfl<|r_pv rfl rfl (zm rfl rfl)<|zk ?_
   exact zda () (show True from by first|trivial|omega|simp_all) ((.e rfl (congrArg Value.bool (by first|(simp_all;done)|(simp_all;omega)|(simp;omega)|omega)) (.of rfl)):SubM _ _) (ho:=((.of [0,0] rfl):PickO _ _ _)) ((.c (j:=0) rfl .n):SelR _ _ _)
  ·
   refine r_pv rfl rfl (zg Try.underlying24 rfl sz3 rfl rfl)<|r_u rfl rfl (ze 1 ty3 rfl rfl rfl)<|r_pv rfl rfl (zua rfl rfl)<|r_pv rfl rfl (zm rfl rfl)<|zR rfl rfl (zb rfl) (fun h4=> ?_) (fun h4=> ?_)
   ·
    refine za rfl rfl<|za rfl rfl<|za rfl rfl<|za rfl rfl<|r_pv rfl rfl (zm rfl rfl)<|r_pv rfl rfl (zb rfl)<|za rfl rfl<|za rfl rfl<|r_pv rfl rfl (zm rfl rfl)<|zk ?_
    exact zda () (show True from by first|trivial|omega|simp_all) ((.e rfl (congrArg Value.bool (by first|(simp_all;done)|(simp_all;omega)|(simp;omega)|omega)) (.of rfl)):SubM _ _) (ho:=((.of [0,0] rfl):PickO _ _ _)) ((.c (j:=0) rfl .n):SelR _ _ _)
   ·
    refine r_u rfl rfl (zh 1 ty24 rfl rfl (.take (.take (.take (.take .nil)))))<|r_pv rfl rfl (zb rfl)<|zO rfl rfl (.c rfl (.c rfl .n)) ce16 (zZd (w:=w) (h:=h) (m:=m) (p:=p) (n:=n) (cap:=cap) (l:=l) (th:=th) (hn:=by assumption)) (.c (j:=0) rfl .n)<|r_pv rfl rfl (zCa rfl rfl)<|r_pv rfl rfl (zm rfl rfl)<|zR rfl rfl (zb rfl) (fun h5=> ?_) (fun h5=> ?_)
    ·
     refine za rfl rfl<|za rfl rfl<|r_pv rfl rfl (zm rfl rfl)<|zk ?_
     exact zda () (show True from by first|trivial|omega|simp_all) ((.e rfl (congrArg Value.bool (by first|(simp_all;done)|(simp_all;omega)|(simp;omega)|omega)) (.of rfl)):SubM _ _) (ho:=((.of [0,0] rfl):PickO _ _ _)) ((.c (j:=0) rfl .n):SelR _ _ _)
    ·
     refine r_pv rfl rfl (zb rfl)<|r_pv rfl rfl (zqa rfl rfl)<|r_pv rfl rfl (zm rfl rfl)<|zk ?_
     exact zda () (show True from by first|trivial|omega|simp_all) ((.e rfl (congrArg Value.bool (by first|(simp_all;done)|(simp_all;omega)|(simp;omega)|omega)) (.of rfl)):SubM _ _) (ho:=((.of [0,0] rfl):PickO _ _ _)) ((.c (j:=0) rfl .n):SelR _ _ _)
 ·
  rintro ⟨⟩ -
  try dsimp only
  refine zE rfl (fun hq=> ?_) (fun hq=> ?_)
  ·
   refine zi<|zc<|r_pv rfl rfl (zd rfl)<|zk<|zf<|zI<|zt ?_
   exact zD Try.results6 () trivial (zq rfl) rfl (ho:=(.n:PickO _ _ _)) (.n:SelR _ _ _)
  ·
   obtain ⟨⟨⟨hq1,hq2⟩,hq3⟩,hq4⟩:=Fl.nor4 hq
   have hok9:=Fl.ask0.1 (Decidable.not_not.1 hq3)
   have hth:1≤th∧th≤65536:=by omega
   obtain ⟨wn,hn9,rfl,rfl,hw9,hh9,hwh,hb9⟩:=Fl.rok_n hok9.1 hn
   obtain ⟨na,e6⟩:∃q:Nat,xa=(q:Int):=⟨xa.toNat,by omega⟩
   subst e6
   obtain ⟨nb,e7⟩:∃q:Nat,xb=(q:Int):=⟨xb.toNat,by omega⟩
   subst e7
   refine zz<|zf<|zi<|zja (OW:=[]) (O:=[boxA b2 40 [.int .u8 ((na:Nat):Int),.int .u8 ((nb:Nat):Int)],boxA b1 24 [.int .i64 ((wn:Nat):Int),.int .i64 ((hn9:Nat):Int),.int .i64 m,.slice p n cap]]) 100000 mixed (.then .ret) (by kernel_rfl)<|d_pv 0 rfl rfl (by kernel_rfl) (by kernel_rfl) rfl rfl (zAa (i:=0) Try.underlying40 sz5 rfl rfl (by decide) rfl)<|d_u 1 rfl rfl (by kernel_rfl) (by kernel_rfl) rfl rfl (ze 0 ty5 rfl rfl rfl)<|d_pv 2 rfl rfl (by kernel_rfl) (by kernel_rfl) rfl rfl (zx (z:=((na:Nat):Int)) rfl (by rw [Try.underlying5];rfl) Try.underlying3 (w64 (by omega)))<|d_pv 3 rfl rfl (by kernel_rfl) (by kernel_rfl) rfl rfl (zHa (z:=(((na%5):Nat):Int)) rfl rfl (by omega) (remN (by omega) (by omega)))<|d_pv 4 rfl rfl (by kernel_rfl) (by kernel_rfl) rfl rfl (zAa (i:=1) Try.underlying40 sz5 rfl rfl (by decide) rfl)<|d_u 5 rfl rfl (by kernel_rfl) (by kernel_rfl) rfl rfl (ze 0 ty5 rfl rfl rfl)<|d_pv 6 rfl rfl (by kernel_rfl) (by kernel_rfl) rfl rfl (zx (z:=((nb:Nat):Int)) rfl (by rw [Try.underlying5];rfl) Try.underlying3 (w64 (by omega)))<|d_pv 7 rfl rfl (by kernel_rfl) (by kernel_rfl) rfl rfl (zHa (z:=(((nb%5):Nat):Int)) rfl rfl (by omega) (remN (by omega) (by omega)))<|d_pv 8 rfl rfl (by kernel_rfl) (by kernel_rfl) rfl rfl (zd rfl)<|d_pv 9 rfl rfl (by kernel_rfl) (by kernel_rfl) rfl rfl (zd rfl)<|zfa (by kernel_rfl)<|zf<|zi ?_
   obtain ⟨dx,hdx⟩:∃z:Nat,z=(na%5):=⟨_,rfl⟩
   rw [← hdx]
   obtain ⟨dy,hdy⟩:∃z:Nat,z=(nb%5):=⟨_,rfl⟩
   rw [← hdy]
   have hdx4:dx≤4:=by rw [hdx];omega
   have hdy4:dy≤4:=by rw [hdy];omega
   have hbb:(wn+4)*(hn9+4)≤14*14:=Nat.mul_le_mul (by omega) (by omega)
   refine zc<|r_pv rfl rfl (zg Try.underlying24 rfl sz3 rfl rfl)<|r_u rfl rfl (ze 1 ty3 rfl rfl rfl)<|r_pv rfl rfl (zC (z:=(((wn+4):Nat):Int)) rfl rfl (w64 (by omega)))<|r_pv rfl rfl (zg Try.underlying24 rfl sz3 rfl rfl)<|r_u rfl rfl (ze 1 ty3 rfl rfl rfl)<|r_pv rfl rfl (zC (z:=(((hn9+4):Nat):Int)) rfl rfl (w64 (by omega)))<|r_pv rfl rfl (zg Try.underlying24 rfl sz3 rfl rfl)<|r_u rfl rfl (ze 1 ty3 rfl rfl rfl)<|r_pv rfl rfl (zG zr24 rfl Try.underlying24 (.c sz3 (.c sz3 (.c sz3 (.c sz22 .n)))) (.c rfl (.c rfl (.c rfl .n))) (.c rfl rfl rfl (.take .nil) (.c rfl rfl rfl (.skip (.take .nil)) (.c rfl rfl rfl (.skip (.skip (.take .nil))) .n))))<|zP rfl rfl (zB zr24 rfl) (fun b8=> ?_)
   refine zo 0 rfl rfl rfl rfl rfl sz24 rfl (.take (.take (.take (.take .nil)))) .z<|zk<|zf<|zi<|zja (OW:=[]) (O:=[boxA b8 24 [.int .i64 (((wn+4):Nat):Int),.int .i64 (((hn9+4):Nat):Int),.int .i64 m,.slice none 0 0],boxA b2 40 [.int .u8 ((na:Nat):Int),.int .u8 ((nb:Nat):Int)],boxA b1 24 [.int .i64 ((wn:Nat):Int),.int .i64 ((hn9:Nat):Int),.int .i64 m,.slice p n cap]]) 12 mixed (.then .ret) (by kernel_rfl)<|d_pv 0 rfl rfl (by kernel_rfl) (by kernel_rfl) rfl rfl (zg Try.underlying24 rfl sz3 rfl rfl)<|d_u 1 rfl rfl (by kernel_rfl) (by kernel_rfl) rfl rfl (ze 2 ty3 rfl rfl rfl)<|d_pv 2 rfl rfl (by kernel_rfl) (by kernel_rfl) rfl rfl (zg Try.underlying24 rfl sz3 rfl rfl)<|d_u 3 rfl rfl (by kernel_rfl) (by kernel_rfl) rfl rfl (ze 2 ty3 rfl rfl rfl)<|d_pv 4 rfl rfl (by kernel_rfl) (by kernel_rfl) rfl rfl (zg Try.underlying24 rfl sz3 rfl rfl)<|d_u 5 rfl rfl (by kernel_rfl) (by kernel_rfl) rfl rfl (ze 2 ty3 rfl rfl rfl)<|d_pv 6 rfl rfl (by kernel_rfl) (by kernel_rfl) rfl rfl (zg Try.underlying24 rfl sz22 rfl rfl)<|d_u 7 rfl rfl (by kernel_rfl) (by kernel_rfl) rfl rfl (ze 2 ty22 rfl rfl rfl)<|d_pv 8 rfl rfl (by kernel_rfl) (by kernel_rfl) rfl rfl (zM Try.underlying22 rfl)<|zof (m':=[(78,.int .i64 ((n:Nat):Int)),(75,.int .i64 m),(73,.int .i64 ((wn:Nat):Int)),(71,.int .i64 ((hn9:Nat):Int)),(9,.pointer (some ⟨b8,0,none⟩)),(8,.int .i64 ((dy:Nat):Int)),(7,.int .i64 ((dx:Nat):Int)),(6,.bool false),(3,.pointer (some ⟨b1,0,none⟩)),(1,.int .i64 th)]) (R':=[slF (rI .i64) p cap l]) ((.of rfl):SubM _ _) (List.Perm.refl _) (List.Perm.refl _) ((.c (j:=0) rfl .n):SelR _ _ _)<|zjb (X:=Nat×Nat) (k':=0) (L':=(lb 13 8191)) (fun (u9_1,u11_1)=>([(10,.pointer (some ⟨u11_1,0,none⟩)),(9,.pointer (some ⟨b8,0,none⟩)),(8,.int .i64 ((dy:Nat):Int)),(7,.int .i64 ((dx:Nat):Int)),(6,.bool false),(3,.pointer (some ⟨b1,0,none⟩)),(1,.int .i64 th)],[boxA u11_1 24 [.int .i64 ((hn9:Nat):Int),.int .i64 ((wn:Nat):Int),.int .i64 m,.slice (some ⟨u9_1,0,none⟩) n n]],[rowA 3 (rI .i64) (some ⟨u9_1,0,none⟩) n (List.replicate n 0),boxA b8 24 [.int .i64 (((wn+4):Nat):Int),.int .i64 (((hn9+4):Nat):Int),.int .i64 m,.slice none 0 0],boxA b2 40 [.int .u8 ((na:Nat):Int),.int .u8 ((nb:Nat):Int)],boxA b1 24 [.int .i64 ((wn:Nat):Int),.int .i64 ((hn9:Nat):Int),.int .i64 m,.slice p n cap]],[slF (rI .i64) p cap l])) ?_ (fun hD0=> ?_)
   ·
    rintro ⟨u9_1,u11_1⟩
    dsimp only
    refine zfa (by kernel_rfl)<|zf<|zi<|zc<|r_pv rfl rfl (zg Try.underlying24 rfl sz3 rfl rfl)<|r_u rfl rfl (ze 2 ty3 rfl rfl rfl)<|r_pv rfl rfl (zg Try.underlying24 rfl sz3 rfl rfl)<|r_u rfl rfl (ze 2 ty3 rfl rfl rfl)<|r_pv rfl rfl (zka (z:=((((wn+4)*(hn9+4)):Nat):Int)) rfl rfl (w64 (by omega)))<|zwa rfl rfl (zOa (r:=rI .i64) (k:=((wn+4)*(hn9+4))) (x0:=0) (γ0:=()) Try.underlying22 inf3 rfl rfl rfl rfl (by omega) (by omega) rfl (fun _ _=>by exact zj.2 (by decide)) (by decide)) (fun b9 _=> ?_)
    refine r_pv rfl rfl (zg Try.underlying24 rfl sz22 rfl rfl)<|zo 3 rfl rfl rfl rfl rfl sz22 rfl (.skip (.skip (.skip (.take .nil)))) (.s (.s (.s .z)))<|zk<|zf<|zi<|zi<|zc<|r_pv rfl rfl (zg Try.underlying24 rfl sz22 rfl rfl)<|r_u rfl rfl (ze 5 ty22 rfl rfl rfl)<|r_pv rfl rfl (zM Try.underlying22 rfl)<|r_pv rfl rfl (zb rfl)<|zk<|zf<|zA<|zna (X:=Nat×(List Int)×(List Int)) (fun x:Nat×(List Int)×(List Int)=>x.1≤n∧Fl.Bg wn hn9 dx dy l x.2.1 x.1∧Fl.Tn wn hn9 l x.2.2 x.1) (fun x=>[(91,.int .i64 ((x.1:Nat):Int)),(90,.int .i64 ((n:Nat):Int)),(89,.slice p n cap),(10,.pointer (some ⟨u11_1,0,none⟩)),(9,.pointer (some ⟨b8,0,none⟩)),(8,.int .i64 ((dy:Nat):Int)),(7,.int .i64 ((dx:Nat):Int)),(6,.bool false),(3,.pointer (some ⟨b1,0,none⟩)),(1,.int .i64 th)]) (fun x=>[rowA 3 (rI .i64) (some ⟨b9,0,none⟩) ((wn+4)*(hn9+4)) (x.2.1),boxA u11_1 24 [.int .i64 ((hn9:Nat):Int),.int .i64 ((wn:Nat):Int),.int .i64 m,.slice (some ⟨u9_1,0,none⟩) n n],rowA 3 (rI .i64) (some ⟨u9_1,0,none⟩) n (x.2.2),boxA b8 24 [.int .i64 (((wn+4):Nat):Int),.int .i64 (((hn9+4):Nat):Int),.int .i64 m,.slice (some ⟨b9,0,none⟩) ((wn+4)*(hn9+4)) ((wn+4)*(hn9+4))],boxA b2 40 [.int .u8 ((na:Nat):Int),.int .u8 ((nb:Nat):Int)],boxA b1 24 [.int .i64 ((wn:Nat):Int),.int .i64 ((hn9:Nat):Int),.int .i64 m,.slice p n cap]]) (fun x=>[slF (rI .i64) p cap l]) (fun x:Nat×(List Int)×(List Int)=>n - x.1) (0,List.replicate ((wn+4)*(hn9+4)) 0,List.replicate n 0) (show 0≤n∧Fl.Bg wn hn9 dx dy l (List.replicate ((wn+4)*(hn9+4)) 0) 0∧Fl.Tn wn hn9 l (List.replicate n 0) 0 from by exact ⟨Nat.zero_le _,Fl.Bg.start _ _ _ _ _,Fl.Tn.start _ _ _ hwh⟩) ((.e rfl (by first|rfl|(congr 1;omega)|simp_all) (.of rfl)):SubM _ _) (ho:=((.of [0,0,0,0,0,0] rfl):PickO _ _ _)) ((.c (j:=0) rfl .n):SelR _ _ _) ?_
    rintro ⟨i,BL,CL⟩ hI
    replace hI:i≤n∧Fl.Bg wn hn9 dx dy l BL i∧Fl.Tn wn hn9 l CL i:=hI
    try dsimp only
    obtain ⟨hi,hBg,hTn⟩:=hI
    refine zi<|zc<|r_pv rfl rfl (zZ rfl rfl)<|zk<|zf<|zi<|zE rfl (fun h10=> ?_) (fun h10=> ?_)
    ·
     have hiw:i<wn*hn9:=by omega
     have hs13:=Fl.sh_lt (dx:=dx) (dy:=dy) (h:=hn9) (show 0<wn by omega) hdx4 hdy4 hiw
     have ht14:=Fl.tu_lt (h:=hn9) (show 0<wn by omega) hiw
     have e13:(((i / wn)+dy)*(wn+4)+(i%wn))+dx=Fl.sh wn dx dy i:=by unfold Fl.sh;omega
     have e14:(i%wn)*hn9+(i / wn)=Fl.tu wn hn9 i:=rfl
     have hm1:=Nat.mod_lt i (show 0<wn by omega)
     have hd1:=Nat.div_lt_of_lt_mul hiw
     have hmm1:((i / wn)+dy)*(wn+4)≤14*14:=Nat.mul_le_mul (by omega) (by omega)
     have hmm2:(i%wn)*hn9≤14*14:=Nat.mul_le_mul (by omega) (by omega)
     have hmc9:=Nat.mul_comm hn9 wn
     have hbl:=hBg.len
     have hcl:=hTn.len
     have hnn1:=Int.natCast_nonneg (i / wn)
     have hnn2:=Int.natCast_nonneg (i%wn)
     refine zz<|zf<|zi<|zA<|zi<|zc<|r_pv rfl rfl (zb rfl)<|zK (x0:=(l.getD i 0)) 0 i rfl Try.underlying22 sz3 rfl rfl rfl (by first|rfl|assumption|(rw [List.length_map];done)|omega) rfl rfl (gD (d:=0) (by omega)) (fun b11 o12 hok13=> ?_)
     replace hok13:=zj.1 hok13
     refine r_u rfl rfl (zl (j:=0) 0 ty3 rfl rfl rfl rfl)<|r_pv rfl rfl (zd rfl)<|r_pv rfl rfl (zd rfl)<|zk<|zf<|zi<|zja (OW:=[]) (O:=[rowA 3 (rI .i64) (some ⟨b9,0,none⟩) ((wn+4)*(hn9+4)) BL,boxA u11_1 24 [.int .i64 ((hn9:Nat):Int),.int .i64 ((wn:Nat):Int),.int .i64 m,.slice (some ⟨u9_1,0,none⟩) n n],rowA 3 (rI .i64) (some ⟨u9_1,0,none⟩) n CL,boxA b8 24 [.int .i64 (((wn+4):Nat):Int),.int .i64 (((hn9+4):Nat):Int),.int .i64 m,.slice (some ⟨b9,0,none⟩) ((wn+4)*(hn9+4)) ((wn+4)*(hn9+4))],boxA b2 40 [.int .u8 ((na:Nat):Int),.int .u8 ((nb:Nat):Int)],boxA b1 24 [.int .i64 ((wn:Nat):Int),.int .i64 ((hn9:Nat):Int),.int .i64 m,.slice p n cap]]) 100000 mixed (.then (.block (.then (.then (.block (.then .ret)))))) (by kernel_rfl)<|d_pv 0 rfl rfl (by kernel_rfl) (by kernel_rfl) rfl rfl (zb rfl)<|d_pv 1 rfl rfl (by kernel_rfl) (by kernel_rfl) rfl rfl (zg Try.underlying24 rfl sz3 rfl rfl)<|d_u 2 rfl rfl (by kernel_rfl) (by kernel_rfl) rfl rfl (ze 5 ty3 rfl rfl rfl)<|d_pv 3 rfl rfl (by kernel_rfl) (by kernel_rfl) rfl rfl (zHa (z:=(((i%wn):Nat):Int)) rfl rfl (by omega) (remN (by omega) (by omega)))<|d_pv 4 rfl rfl (by kernel_rfl) (by kernel_rfl) rfl rfl (zb rfl)<|d_pv 5 rfl rfl (by kernel_rfl) (by kernel_rfl) rfl rfl (zg Try.underlying24 rfl sz3 rfl rfl)<|d_u 6 rfl rfl (by kernel_rfl) (by kernel_rfl) rfl rfl (ze 5 ty3 rfl rfl rfl)<|d_pv 7 rfl rfl (by kernel_rfl) (by kernel_rfl) rfl rfl (zMa (z:=(((i / wn):Nat):Int)) rfl rfl (by omega) (by rw [quoN (z:=(((i / wn):Nat):Int)) (by omega) (by omega)];exact w64 (by omega)))<|d_pv 8 rfl rfl (by kernel_rfl) (by kernel_rfl) rfl rfl (zd rfl)<|d_pv 9 rfl rfl (by kernel_rfl) (by kernel_rfl) rfl rfl (zd rfl)<|zfa (by kernel_rfl)<|zf<|zi<|zc<|r_pv rfl rfl (zg Try.underlying24 rfl sz22 rfl rfl)<|r_u rfl rfl (ze 3 ty22 rfl rfl rfl)<|r_pv rfl rfl (zb rfl)<|r_pv rfl rfl (zb rfl)<|r_pv rfl rfl (zC (z:=((((i / wn)+dy):Nat):Int)) rfl rfl (w64 (by omega)))<|r_pv rfl rfl (zg Try.underlying24 rfl sz3 rfl rfl)<|r_u rfl rfl (ze 3 ty3 rfl rfl rfl)<|r_pv rfl rfl (zka (z:=(((((i / wn)+dy)*(wn+4)):Nat):Int)) rfl rfl (w64 (by omega)))<|r_pv rfl rfl (zb rfl)<|r_pv rfl rfl (zC (z:=((((((i / wn)+dy)*(wn+4))+(i%wn)):Nat):Int)) rfl rfl (w64 (by omega)))<|r_pv rfl rfl (zb rfl)<|r_pv rfl rfl (zC (z:=(((((((i / wn)+dy)*(wn+4))+(i%wn))+dx):Nat):Int)) rfl rfl (w64 (by omega)))<|r_pv rfl rfl (zb rfl)<|r_pv rfl rfl (zS (j:=(((((i / wn)+dy)*(wn+4))+(i%wn))+dx)) Try.underlying22 sz3 rfl rfl rfl (by omega))<|zxa 0 rfl rfl rfl (zQ (j:=(((((i / wn)+dy)*(wn+4))+(i%wn))+dx)) (x0:=(l.getD i 0)) (γ0:=()) rfl rfl (by first|omega|(rw [List.length_map];omega)|(simp only [List.length_set];omega)|(simp;done)|(simp;omega)) rfl rfl sz3 (fun _ _=>by exact zj.2 (by omega))) (fun _=> .z) (fun _ _=> ?_)
     refine zk<|zf<|zc<|r_pv rfl rfl (zg Try.underlying24 rfl sz22 rfl rfl)<|r_u rfl rfl (ze 1 ty22 rfl rfl rfl)<|r_pv rfl rfl (zb rfl)<|r_pv rfl rfl (zg Try.underlying24 rfl sz3 rfl rfl)<|r_u rfl rfl (ze 5 ty3 rfl rfl rfl)<|r_pv rfl rfl (zka (z:=((((i%wn)*hn9):Nat):Int)) rfl rfl (w64 (by omega)))<|r_pv rfl rfl (zb rfl)<|r_pv rfl rfl (zC (z:=(((((i%wn)*hn9)+(i / wn)):Nat):Int)) rfl rfl (w64 (by omega)))<|r_pv rfl rfl (zb rfl)<|r_pv rfl rfl (zS (j:=(((i%wn)*hn9)+(i / wn))) Try.underlying22 sz3 rfl rfl rfl (by omega))<|zxa 2 rfl rfl rfl (zQ (j:=(((i%wn)*hn9)+(i / wn))) (x0:=(l.getD i 0)) (γ0:=()) rfl rfl (by first|omega|(rw [List.length_map];omega)|(simp only [List.length_set];omega)|(simp;done)|(simp;omega)) rfl rfl sz3 (fun _ _=>by exact zj.2 (by omega))) (fun _=>(.s (.s .z))) (fun _ _=> ?_)
     refine zk<|zT<|zf<|zc<|r_pv rfl rfl (zC (z:=(((i+1):Nat):Int)) rfl rfl (w64 (by omega)))<|r_pv rfl rfl (zb rfl)<|zk<|zea ((i+1),(BL.set (((((i / wn)+dy)*(wn+4))+(i%wn))+dx) (l.getD i 0)),(CL.set (((i%wn)*hn9)+(i / wn)) (l.getD i 0))) (show (i+1)≤n∧Fl.Bg wn hn9 dx dy l (BL.set (((((i / wn)+dy)*(wn+4))+(i%wn))+dx) (l.getD i 0)) (i+1)∧Fl.Tn wn hn9 l (CL.set (((i%wn)*hn9)+(i / wn)) (l.getD i 0)) (i+1) from by exact ⟨by omega,by rw [e13];exact hBg.put (by omega) hdx4 hdy4 hiw,by exact hTn.put (by omega) hiw⟩) (by show n - (i+1)<n - i;omega) ((.of rfl):SubM _ _) (ho:=((.of [0,0,0,0,0,0] rfl):PickO _ _ _)) ((.c (j:=1) rfl .n):SelR _ _ _)
    ·
     refine zia<|zn<|zn<|zv<|zf<|zi ?_
     have hi9:i=n:=by omega
     rw [hi9] at hBg hTn
     refine zGc 0 rfl .z<|zGc 2 rfl (.s (.s .z)) ?_
     have hokB:=hBg.rok (by omega) hn hwh hok9.1 (by omega) (by omega)
     have hokC:=hTn.rok (by omega) hn hwh (by omega) hok9.1
     have hlB:=hBg.len
     have hlC:CL.length=n:=by rw [hTn.len,hwh]
     refine zc<|r_u rfl rfl (zh 5 ty24 rfl rfl (.take (.take (.take (.take .nil)))))<|r_pv rfl rfl (zb rfl)<|zy rfl rfl (.c rfl (.c rfl .n)) ce17 (zCb (w:=((wn:Nat):Int)) (h:=((hn9:Nat):Int)) (m:=m) (p:=p) (n:=n) (cap:=cap) (l:=l) (th:=th) (hn:=by assumption)) (.c (j:=2) rfl .n) ?_
     rintro ⟨p314,c315,A1⟩ hA1
     dsimp only [List.append_eq,List.nil_append,List.cons_append]
     replace hA1:Fl.BlsR ((wn:Nat):Int) ((hn9:Nat):Int) m l th A1:=hA1
     have e16:((if Bl.rok ((wn:Nat):Int) ((hn9:Nat):Int) m l then (if 0≤th∧th≤65536 then 0 else 2) else 1):Int)=0:=by exact Fl.ask0.2 hok9
     rw [e16]
     refine r_pv rfl rfl (zb rfl)<|r_pv rfl rfl (zp rfl rfl)<|r_pv rfl rfl (zp rfl rfl)<|zP rfl rfl (zB zr35 rfl) (fun b17=> ?_)
     refine zo 0 rfl rfl rfl rfl rfl sz35 rfl (.take .nil) .z<|r_pv rfl rfl (zd rfl)<|zk<|zf<|zi<|zc<|r_u rfl rfl (zh 4 ty24 rfl rfl (.take (.take (.take (.take .nil)))))<|r_pv rfl rfl (zb rfl)<|zy rfl rfl (.c rfl (.c rfl .n)) ce17 (zCb (w:=(((wn+4):Nat):Int)) (h:=(((hn9+4):Nat):Int)) (m:=m) (p:=some ⟨b9,0,none⟩) (n:=((wn+4)*(hn9+4))) (cap:=((wn+4)*(hn9+4))) (l:=BL) (th:=th) (hn:=by first|rfl|assumption|omega)) (.c (j:=2) rfl .n) ?_
     rintro ⟨p318,c319,A2⟩ hA2
     dsimp only [List.append_eq,List.nil_append,List.cons_append]
     replace hA2:Fl.BlsR (((wn+4):Nat):Int) (((hn9+4):Nat):Int) m BL th A2:=hA2
     have e20:((if Bl.rok (((wn+4):Nat):Int) (((hn9+4):Nat):Int) m BL then (if 0≤th∧th≤65536 then 0 else 2) else 1):Int)=0:=by exact Fl.ask0.2 ⟨hokB,hok9.2⟩
     rw [e20]
     refine r_pv rfl rfl (zb rfl)<|r_pv rfl rfl (zp rfl rfl)<|r_pv rfl rfl (zp rfl rfl)<|r_pv rfl rfl (zd rfl)<|r_pv rfl rfl (zd rfl)<|zk<|zf<|zi<|zc<|r_u rfl rfl (zh 2 ty24 rfl rfl (.take (.take (.take (.take .nil)))))<|r_pv rfl rfl (zb rfl)<|zy rfl rfl (.c rfl (.c rfl .n)) ce17 (zCb (w:=((hn9:Nat):Int)) (h:=((wn:Nat):Int)) (m:=m) (p:=some ⟨u9_1,0,none⟩) (n:=n) (cap:=n) (l:=CL) (th:=th) (hn:=by first|rfl|assumption|omega)) (.c (j:=2) rfl .n) ?_
     rintro ⟨p321,c322,A3⟩ hA3
     dsimp only [List.append_eq,List.nil_append,List.cons_append]
     replace hA3:Fl.BlsR ((hn9:Nat):Int) ((wn:Nat):Int) m CL th A3:=hA3
     have e23:((if Bl.rok ((hn9:Nat):Int) ((wn:Nat):Int) m CL then (if 0≤th∧th≤65536 then 0 else 2) else 1):Int)=0:=by exact Fl.ask0.2 ⟨hokC,hok9.2⟩
     rw [e23]
     refine r_pv rfl rfl (zb rfl)<|r_pv rfl rfl (zp rfl rfl)<|r_pv rfl rfl (zp rfl rfl)<|r_pv rfl rfl (zd rfl)<|r_pv rfl rfl (zd rfl)<|zk<|zf<|zi<|zi ?_
     have e24:(A1.map (Fl.shB ((dx:Nat):Int) ((dy:Nat):Int)))=A2:=by exact (Fl.bls_shift hok9.1 (by omega) (by omega) hdx4 hdy4 hn hwh hth hBg hA1 hA2).symm
     subst e24
     have h3:=Fl.bls_turn hok9.1 hn hwh hth hTn hA1 hA3
     have hms:=Fl.bls_ms hok9.1 hth hn hA1
     have hokA:=hA1.ok
     have hokA2:=hA2.ok
     refine zc<|r_pv rfl rfl (zb rfl)<|r_pv rfl rfl (zb rfl)<|r_pv rfl rfl (zC (z:=0) rfl rfl (w64 (by decide)))<|r_pv rfl rfl (zb rfl)<|r_pv rfl rfl (zC (z:=0) rfl rfl (w64 (by decide)))<|r_pv rfl rfl (zCa rfl rfl)<|r_pv rfl rfl (zb rfl)<|r_u rfl rfl (ze 0 ty35 rfl rfl rfl)<|r_pv rfl rfl (zM Try.underlying35 rfl)<|r_pv rfl rfl (zb rfl)<|r_pv rfl rfl (zM Try.underlying35 rfl)<|r_pv rfl rfl (zCa rfl rfl) ?_
     rw [show (decide ((((A1.length):Nat):Int)≠((((A1.map (Fl.shB ((dx:Nat):Int) ((dy:Nat):Int))).length):Nat):Int)))=false from by exact decide_eq_false (not_not_intro (by rw [List.length_map]))]
     refine r_pv rfl rfl (zm rfl rfl)<|r_pv rfl rfl (zb rfl)<|r_u rfl rfl (ze 0 ty35 rfl rfl rfl)<|r_pv rfl rfl (zM Try.underlying35 rfl)<|r_pv rfl rfl (zb rfl)<|r_pv rfl rfl (zM Try.underlying35 rfl)<|r_pv rfl rfl (zCa rfl rfl) ?_
     rw [show (decide ((((A1.length):Nat):Int)≠(((A3.length):Nat):Int)))=false from by exact decide_eq_false (not_not_intro (by rw [h3.1]))]
     refine r_pv rfl rfl (zm rfl rfl)<|zk<|zf<|zKa rfl rfl<|zz<|zf<|zi<|zi<|zib 0 rfl .z<|zca 3 rfl (fun hLof=> ?_)
     refine zc<|r_u rfl rfl (zl (j:=0) 0 ty35 rfl rfl rfl rfl)<|r_pv rfl rfl (zM Try.underlying35 rfl)<|r_pv rfl rfl (zb rfl)<|zk<|zf<|zA<|zna (X:=Nat) (fun x:Nat=>x≤A1.length) (fun x=>[(169,.int .i64 ((x:Nat):Int)),(168,.int .i64 (((A1.length):Nat):Int)),(19,.slice p321 (A3.length) c322),(17,.slice p318 ((A1.map (Fl.shB ((dx:Nat):Int) ((dy:Nat):Int))).length) c319),(15,.pointer (some ⟨b17,0,none⟩)),(8,.int .i64 ((dy:Nat):Int)),(7,.int .i64 ((dx:Nat):Int))]) (fun x=>[boxA u11_1 24 [.int .i64 ((hn9:Nat):Int),.int .i64 ((wn:Nat):Int),.int .i64 m,.slice (some ⟨u9_1,0,none⟩) n n],boxA b8 24 [.int .i64 (((wn+4):Nat):Int),.int .i64 (((hn9+4):Nat):Int),.int .i64 m,.slice (some ⟨b9,0,none⟩) ((wn+4)*(hn9+4)) ((wn+4)*(hn9+4))],boxA b2 40 [.int .u8 ((na:Nat):Int),.int .u8 ((nb:Nat):Int)],boxA b1 24 [.int .i64 ((wn:Nat):Int),.int .i64 ((hn9:Nat):Int),.int .i64 m,.slice p n cap]]) (fun x=>[atF b17 0 [.slice p314 (A1.length) c315],slF (rI13 .i64) p321 c322 A3,slF (rI13 .i64) p318 c319 (A1.map (Fl.shB ((dx:Nat):Int) ((dy:Nat):Int))),slF (rI13 .i64) p314 c315 A1,slF (rI .i64) (some ⟨u9_1,0,none⟩) n CL,slF (rI .i64) (some ⟨b9,0,none⟩) ((wn+4)*(hn9+4)) BL,slF (rI .i64) p cap l]) (fun x:Nat=>A1.length - x) 0 (show 0≤A1.length from by exact Nat.zero_le _) ((.e rfl (by first|rfl|(congr 1;omega)|simp_all) (.of rfl)):SubM _ _) (ho:=((.of [2,3,3,3] rfl):PickO _ _ _)) ((.of [0,1,2,3,4,5,6] rfl):SelR _ _ _) ?_
     rintro k hK
     replace hK:k≤A1.length:=hK
     try dsimp only
     refine zi<|zc<|r_pv rfl rfl (zZ rfl rfl)<|zk<|zf<|zi<|zE rfl (fun h25=> ?_) (fun h25=> ?_)
     ·
      have hAk:=Fl.map_gD (T:=Fl.shB ((dx:Nat):Int) ((dy:Nat):Int)) (show k<A1.length by omega)
      have hmem:=Fl.gB_mem (show k<A1.length by omega)
      have hlm:(A1.map (Fl.shB ((dx:Nat):Int) ((dy:Nat):Int))).length=A1.length:=List.length_map _
      refine zz<|zf<|zi<|zA<|zi<|zc<|r_pv rfl rfl (zb rfl)<|zP rfl rfl (zB zr3 rfl) (fun b26=> ?_)
      refine zo 0 rfl rfl rfl rfl rfl sz3 rfl (.take .nil) .z<|zk<|zf<|zi<|zc<|r_u rfl rfl (zl (j:=0) 0 ty35 rfl rfl rfl rfl)<|r_u rfl rfl (ze 0 ty3 rfl rfl rfl)<|zK (x0:=(A1.getD k b0)) 3 k rfl Try.underlying35 sz51 rfl rfl rfl (by first|rfl|assumption|(rw [List.length_map];done)|omega) rfl rfl (gD (d:=b0) (by omega)) (fun b27 o28 hok29=> ?_)
      obtain ⟨hok290,hok291,hok292,hok293,hok294,hok295,hok296,hok297,hok298,hok299,hok2910,hok2911,hok2912⟩:=hok29
      replace hok290:=zj.1 hok290
      replace hok291:=zj.1 hok291
      replace hok292:=zj.1 hok292
      replace hok293:=zj.1 hok293
      replace hok294:=zj.1 hok294
      replace hok295:=zj.1 hok295
      replace hok296:=zj.1 hok296
      replace hok297:=zj.1 hok297
      replace hok298:=zj.1 hok298
      replace hok299:=zj.1 hok299
      replace hok2910:=zj.1 hok2910
      replace hok2911:=zj.1 hok2911
      replace hok2912:=zj.1 hok2912
      refine r_u rfl rfl (zpa (j:=0) 0 ty51 rfl rfl rfl (.take (.take (.take (.take (.take (.take (.take (.take (.take (.take (.take (.take (.take .nil)))))))))))))) ?_
      obtain ⟨g1,hg1⟩:∃z:Bb,z=(A1.getD k b0):=⟨_,rfl⟩
      rw [← hg1]
      rw [← hg1] at hAk hmem
      have hokg1:=hokA _ hmem
      have hms1:=hms _ hmem
      have ho9:=hokg1
      unfold Fl.okb Bl.ok at ho9
      refine zy rfl rfl (.c rfl .n) ce19 (zMb (ar:=g1.ar) (le:=g1.le) (tp:=g1.tp) (rt:=g1.rt) (bt:=g1.bt) (sx:=g1.sx) (sy:=g1.sy) (xx:=g1.xx) (xy:=g1.xy) (yy:=g1.yy) (ms:=g1.ms) (mx:=g1.mx) (my:=g1.my)) (.n) ?_
      rintro ⟨w330,w431,w532,w633⟩ -
      dsimp only [List.append_eq,List.nil_append,List.cons_append]
      have e34:((if Bl.ok g1.ar g1.le g1.tp g1.rt g1.bt g1.sx g1.sy g1.xx g1.xy g1.yy g1.ms g1.mx g1.my then (if g1.ms=0 then 13 else 0) else 1):Int)=0:=by exact (if_pos hokg1).trans (if_neg (by omega))
      rw [e34]
      have e35:(decide (Bl.ok g1.ar g1.le g1.tp g1.rt g1.bt g1.sx g1.sy g1.xx g1.xy g1.yy g1.ms g1.mx g1.my∧g1.ms≠0))=true:=by exact decide_eq_true ⟨hokg1,by omega⟩
      rw [e35]
      have e36:((if Bl.ok g1.ar g1.le g1.tp g1.rt g1.bt g1.sx g1.sy g1.xx g1.xy g1.yy g1.ms g1.mx g1.my∧g1.ms≠0 then Rat.divInt (2*g1.mx+g1.ms) (2*g1.ms) else 0):Rat)=(Rat.divInt (2*g1.mx+g1.ms) (2*g1.ms)):=by exact if_pos ⟨hokg1,by omega⟩
      rw [e36]
      have e37:((if Bl.ok g1.ar g1.le g1.tp g1.rt g1.bt g1.sx g1.sy g1.xx g1.xy g1.yy g1.ms g1.mx g1.my∧g1.ms≠0 then Rat.divInt (2*g1.my+g1.ms) (2*g1.ms) else 0):Rat)=(Rat.divInt (2*g1.my+g1.ms) (2*g1.ms)):=by exact if_pos ⟨hokg1,by omega⟩
      rw [e37]
      have hcq1:=Fl.cen_hq hokg1 (by omega)
      have hdq1:=Big.hq_64 (z:=((dx:Nat):Int)) (by omega) (by omega)
      have hdq2:=Big.hq_64 (z:=((dy:Nat):Int)) (by omega) (by omega)
      have hcs1:=Big.hq_add (Rat.divInt (2*g1.mx+g1.ms) (2*g1.ms)) ((((dx:Nat):Int):Int):Rat)
      have hcs2:=Big.hq_add (Rat.divInt (2*g1.my+g1.ms) (2*g1.ms)) ((((dy:Nat):Int):Int):Rat)
      refine r_pv rfl rfl (zb rfl)<|r_pv rfl rfl (zp rfl rfl)<|r_pv rfl rfl (zp rfl rfl)<|zP rfl rfl (zB zr47 rfl) (fun b38=> ?_)
      refine zo 0 rfl rfl rfl rfl rfl sz47 rfl (.take (.take (.take (.take (.take (.take (.take (.take .nil)))))))) .z<|r_pv rfl rfl (zd rfl)<|zk<|zf<|zi<|zc<|r_pv rfl rfl (zb rfl)<|r_u rfl rfl (ze 1 ty3 rfl rfl rfl)<|zK (x0:=((A1.map (Fl.shB ((dx:Nat):Int) ((dy:Nat):Int))).getD k b0)) 5 k rfl Try.underlying35 sz51 rfl rfl rfl (by first|rfl|assumption|(rw [List.length_map];done)|omega) rfl rfl (gD (d:=b0) (by omega)) (fun b39 o40 hok41=> ?_)
      obtain ⟨hok410,hok411,hok412,hok413,hok414,hok415,hok416,hok417,hok418,hok419,hok4110,hok4111,hok4112⟩:=hok41
      replace hok410:=zj.1 hok410
      replace hok411:=zj.1 hok411
      replace hok412:=zj.1 hok412
      replace hok413:=zj.1 hok413
      replace hok414:=zj.1 hok414
      replace hok415:=zj.1 hok415
      replace hok416:=zj.1 hok416
      replace hok417:=zj.1 hok417
      replace hok418:=zj.1 hok418
      replace hok419:=zj.1 hok419
      replace hok4110:=zj.1 hok4110
      replace hok4111:=zj.1 hok4111
      replace hok4112:=zj.1 hok4112
      refine r_u rfl rfl (zpa (j:=0) 0 ty51 rfl rfl rfl (.take (.take (.take (.take (.take (.take (.take (.take (.take (.take (.take (.take (.take .nil)))))))))))))) ?_
      obtain ⟨g2,hg2⟩:∃z:Bb,z=((A1.map (Fl.shB ((dx:Nat):Int) ((dy:Nat):Int))).getD k b0):=⟨_,rfl⟩
      rw [← hg2]
      rw [← hg2] at hAk
      have hokg2:Fl.okb g2:=by rw [hg2];exact hokA2 _ (Fl.gB_mem (by omega))
      have hms2:g2.ms=g1.ms:=by rw [hAk];rfl
      refine zy rfl rfl (.c rfl .n) ce19 (zMb (ar:=g2.ar) (le:=g2.le) (tp:=g2.tp) (rt:=g2.rt) (bt:=g2.bt) (sx:=g2.sx) (sy:=g2.sy) (xx:=g2.xx) (xy:=g2.xy) (yy:=g2.yy) (ms:=g2.ms) (mx:=g2.mx) (my:=g2.my)) (.n) ?_
      rintro ⟨w342,w443,w544,w645⟩ -
      dsimp only [List.append_eq,List.nil_append,List.cons_append]
      have e46:((if Bl.ok g2.ar g2.le g2.tp g2.rt g2.bt g2.sx g2.sy g2.xx g2.xy g2.yy g2.ms g2.mx g2.my then (if g2.ms=0 then 13 else 0) else 1):Int)=0:=by exact (if_pos hokg2).trans (if_neg (by omega))
      rw [e46]
      have e47:(decide (Bl.ok g2.ar g2.le g2.tp g2.rt g2.bt g2.sx g2.sy g2.xx g2.xy g2.yy g2.ms g2.mx g2.my∧g2.ms≠0))=true:=by exact decide_eq_true ⟨hokg2,by omega⟩
      rw [e47]
      have e48:((if Bl.ok g2.ar g2.le g2.tp g2.rt g2.bt g2.sx g2.sy g2.xx g2.xy g2.yy g2.ms g2.mx g2.my∧g2.ms≠0 then Rat.divInt (2*g2.mx+g2.ms) (2*g2.ms) else 0):Rat)=(Rat.divInt (2*g2.mx+g2.ms) (2*g2.ms)):=by exact if_pos ⟨hokg2,by omega⟩
      rw [e48]
      have e49:((if Bl.ok g2.ar g2.le g2.tp g2.rt g2.bt g2.sx g2.sy g2.xx g2.xy g2.yy g2.ms g2.mx g2.my∧g2.ms≠0 then Rat.divInt (2*g2.my+g2.ms) (2*g2.ms) else 0):Rat)=(Rat.divInt (2*g2.my+g2.ms) (2*g2.ms)):=by exact if_pos ⟨hokg2,by omega⟩
      rw [e49]
      have hcq2:=Fl.cen_hq hokg2 (by omega)
      refine r_pv rfl rfl (zb rfl)<|r_pv rfl rfl (zp rfl rfl)<|r_pv rfl rfl (zp rfl rfl)<|zP rfl rfl (zB zr47 rfl) (fun b50=> ?_)
      refine zo 0 rfl rfl rfl rfl rfl sz47 rfl (.take (.take (.take (.take (.take (.take (.take (.take .nil)))))))) .z<|r_pv rfl rfl (zd rfl)<|zk<|zf<|zi<|zi<|zja (OW:=[]) (O:=[boxA b50 47 [w342.b,w342.l,w443.b,w443.l,w544.b,w544.l,w645.b,w645.l],boxA b38 47 [w330.b,w330.l,w431.b,w431.l,w532.b,w532.l,w633.b,w633.l],boxA b26 3 [.int .i64 ((k:Nat):Int)],boxA u11_1 24 [.int .i64 ((hn9:Nat):Int),.int .i64 ((wn:Nat):Int),.int .i64 m,.slice (some ⟨u9_1,0,none⟩) n n],boxA b8 24 [.int .i64 (((wn+4):Nat):Int),.int .i64 (((hn9+4):Nat):Int),.int .i64 m,.slice (some ⟨b9,0,none⟩) ((wn+4)*(hn9+4)) ((wn+4)*(hn9+4))],boxA b2 40 [.int .u8 ((na:Nat):Int),.int .u8 ((nb:Nat):Int)],boxA b1 24 [.int .i64 ((wn:Nat):Int),.int .i64 ((hn9:Nat):Int),.int .i64 m,.slice p n cap]]) 100000 mixed (.then (.then (.block (.then (.then (.block (.then .ret))))))) (by kernel_rfl)<|d_pv 0 rfl rfl (by kernel_rfl) (by kernel_rfl) rfl rfl (zb rfl)<|d_pv 1 rfl rfl (by kernel_rfl) (by kernel_rfl) rfl rfl (zCa rfl rfl)<|d_pv 2 rfl rfl (by kernel_rfl) (by kernel_rfl) rfl rfl (zb rfl)<|d_pv 3 rfl rfl (by kernel_rfl) (by kernel_rfl) rfl rfl (zb rfl)<|d_pv 4 rfl rfl (by kernel_rfl) (by kernel_rfl) rfl rfl (zCa rfl rfl)<|d_pv 5 rfl rfl (by kernel_rfl) (by kernel_rfl) rfl rfl (zm rfl rfl)<|d_pv 6 rfl rfl (by kernel_rfl) (by kernel_rfl) rfl rfl (zb rfl)<|d_pv 7 rfl rfl (by kernel_rfl) (by kernel_rfl) rfl rfl (zg Try.underlying47 rfl sz45 rfl rfl)<|d_u 8 rfl rfl (by kernel_rfl) (by kernel_rfl) rfl rfl (zh 1 ty45 rfl rfl (.take (.take (.take (.take .nil)))))<|d_pv 9 rfl rfl (by kernel_rfl) (by kernel_rfl) rfl rfl (zb rfl)<|d_pv 12 rfl rfl (by kernel_rfl) (by kernel_rfl) rfl rfl (zg Try.underlying47 rfl sz45 rfl rfl)<|d_u 13 rfl rfl (by kernel_rfl) (by kernel_rfl) rfl rfl (zh 0 ty45 rfl rfl (.take (.take (.take (.take .nil)))))<|zV 10 (by kernel_rfl) (zU rfl rfl rfl rfl (.c rfl .n) ce22 (zTd (z:=((dx:Nat):Int)) (hz:=by first|rfl|assumption|omega)) (.n) ?_)
      rintro ⟨w351,w452⟩ -
      dsimp only [List.append_eq,List.nil_append,List.cons_append]
      refine zV 11 (by kernel_rfl) (zU rfl rfl rfl rfl (.c rfl (.c rfl .n)) ce21 (zmc (k1:=true) (u1:=w330) (v1:=w431) (q1:=(Rat.divInt (2*g1.mx+g1.ms) (2*g1.ms))) (k2:=true) (u2:=w351) (v2:=w452) (q2:=((((dx:Nat):Int):Int):Rat)) (hl:=by first|rfl|assumption|omega)) (.c (j:=4) rfl (.c (j:=0) rfl .n)) ?_)
      rintro ⟨w353,w454⟩ -
      dsimp only [List.append_eq,List.nil_append,List.cons_append]
      refine zV 14 (by kernel_rfl) (zdc rfl rfl rfl rfl (.c rfl (.c rfl .n)) ce20 (zBa (u1:=w353) (v1:=w454) (q1:=(Rat.divInt (2*g1.mx+g1.ms) (2*g1.ms))+((((dx:Nat):Int):Int):Rat)) (u2:=w342) (v2:=w443) (q2:=(Rat.divInt (2*g2.mx+g2.ms) (2*g2.ms))) (hl:=by first|rfl|assumption|omega)) (.c (j:=0) rfl (.c (j:=2) rfl .n)) ?_)
      rw [show (decide (((Rat.divInt (2*g1.mx+g1.ms) (2*g1.ms))+((((dx:Nat):Int):Int):Rat))=(Rat.divInt (2*g2.mx+g2.ms) (2*g2.ms))))=true from by exact decide_eq_true (by rw [hAk];exact Fl.cen_sh (by omega))]
      refine d_pv 15 rfl rfl (by kernel_rfl) (by kernel_rfl) rfl rfl (zbb rfl)<|d_pv 16 rfl rfl (by kernel_rfl) (by kernel_rfl) rfl rfl (zm rfl rfl)<|d_pv 17 rfl rfl (by kernel_rfl) (by kernel_rfl) rfl rfl (zb rfl)<|d_pv 18 rfl rfl (by kernel_rfl) (by kernel_rfl) rfl rfl (zg Try.underlying47 rfl sz45 rfl rfl)<|d_u 19 rfl rfl (by kernel_rfl) (by kernel_rfl) rfl rfl (zh 1 ty45 rfl rfl (.skip (.skip (.skip (.skip (.take (.take (.take (.take .nil)))))))))<|d_pv 20 rfl rfl (by kernel_rfl) (by kernel_rfl) rfl rfl (zb rfl)<|d_pv 23 rfl rfl (by kernel_rfl) (by kernel_rfl) rfl rfl (zg Try.underlying47 rfl sz45 rfl rfl)<|d_u 24 rfl rfl (by kernel_rfl) (by kernel_rfl) rfl rfl (zh 0 ty45 rfl rfl (.skip (.skip (.skip (.skip (.take (.take (.take (.take .nil)))))))))<|zV 21 (by kernel_rfl) (zU rfl rfl rfl rfl (.c rfl .n) ce22 (zTd (z:=((dy:Nat):Int)) (hz:=by first|rfl|assumption|omega)) (.n) ?_)
      rintro ⟨w355,w456⟩ -
      dsimp only [List.append_eq,List.nil_append,List.cons_append]
      refine zV 22 (by kernel_rfl) (zU rfl rfl rfl rfl (.c rfl (.c rfl .n)) ce21 (zmc (k1:=true) (u1:=w532) (v1:=w633) (q1:=(Rat.divInt (2*g1.my+g1.ms) (2*g1.ms))) (k2:=true) (u2:=w355) (v2:=w456) (q2:=((((dy:Nat):Int):Int):Rat)) (hl:=by first|rfl|assumption|omega)) (.c (j:=7) rfl (.c (j:=0) rfl .n)) ?_)
      rintro ⟨w357,w458⟩ -
      dsimp only [List.append_eq,List.nil_append,List.cons_append]
      refine zV 25 (by kernel_rfl) (zdc rfl rfl rfl rfl (.c rfl (.c rfl .n)) ce20 (zBa (u1:=w357) (v1:=w458) (q1:=(Rat.divInt (2*g1.my+g1.ms) (2*g1.ms))+((((dy:Nat):Int):Int):Rat)) (u2:=w544) (v2:=w645) (q2:=(Rat.divInt (2*g2.my+g2.ms) (2*g2.ms))) (hl:=by first|rfl|assumption|omega)) (.c (j:=0) rfl (.c (j:=5) rfl .n)) ?_)
      rw [show (decide (((Rat.divInt (2*g1.my+g1.ms) (2*g1.ms))+((((dy:Nat):Int):Int):Rat))=(Rat.divInt (2*g2.my+g2.ms) (2*g2.ms))))=true from by exact decide_eq_true (by rw [hAk];exact Fl.cen_sh (by omega))]
      refine d_pv 26 rfl rfl (by kernel_rfl) (by kernel_rfl) rfl rfl (zbb rfl)<|d_pv 27 rfl rfl (by kernel_rfl) (by kernel_rfl) rfl rfl (zm rfl rfl)<|zfa (by kernel_rfl)<|zf<|zKa rfl rfl<|zz<|zf<|zi<|zc<|r_u rfl rfl (zl (j:=0) 10 ty35 rfl rfl rfl rfl)<|r_u rfl rfl (ze 2 ty3 rfl rfl rfl)<|zK (x0:=(A1.getD k b0)) 13 k rfl Try.underlying35 sz51 rfl rfl rfl (by first|rfl|assumption|(rw [List.length_map];done)|omega) rfl rfl (gD (d:=b0) (by omega)) (fun b59 o60 hok61=> ?_)
      obtain ⟨hok610,hok611,hok612,hok613,hok614,hok615,hok616,hok617,hok618,hok619,hok6110,hok6111,hok6112⟩:=hok61
      replace hok610:=zj.1 hok610
      replace hok611:=zj.1 hok611
      replace hok612:=zj.1 hok612
      replace hok613:=zj.1 hok613
      replace hok614:=zj.1 hok614
      replace hok615:=zj.1 hok615
      replace hok616:=zj.1 hok616
      replace hok617:=zj.1 hok617
      replace hok618:=zj.1 hok618
      replace hok619:=zj.1 hok619
      replace hok6110:=zj.1 hok6110
      replace hok6111:=zj.1 hok6111
      replace hok6112:=zj.1 hok6112
      refine r_u rfl rfl (zpa (j:=0) 0 ty51 rfl rfl rfl (.take (.take (.take (.take (.take (.take (.take (.take (.take (.take (.take (.take (.take .nil)))))))))))))) ?_
      have e62:((A1.getD k b0):Bb)=g1:=by exact hg1.symm
      rw [e62]
      refine zy rfl rfl (.c rfl .n) ce23 (zzb (ar:=g1.ar) (le:=g1.le) (tp:=g1.tp) (rt:=g1.rt) (bt:=g1.bt) (sx:=g1.sx) (sy:=g1.sy) (xx:=g1.xx) (xy:=g1.xy) (yy:=g1.yy) (ms:=g1.ms) (mx:=g1.mx) (my:=g1.my)) (.n) ?_
      rintro ⟨w363,w464,w565,w666,w767,w868⟩ -
      dsimp only [List.append_eq,List.nil_append,List.cons_append]
      have e69:((if Bl.ok g1.ar g1.le g1.tp g1.rt g1.bt g1.sx g1.sy g1.xx g1.xy g1.yy g1.ms g1.mx g1.my then 0 else 1):Int)=0:=by exact if_pos hokg1
      rw [e69]
      have e70:(decide (Bl.ok g1.ar g1.le g1.tp g1.rt g1.bt g1.sx g1.sy g1.xx g1.xy g1.yy g1.ms g1.mx g1.my))=true:=by exact decide_eq_true hokg1
      rw [e70]
      have e71:((if Bl.ok g1.ar g1.le g1.tp g1.rt g1.bt g1.sx g1.sy g1.xx g1.xy g1.yy g1.ms g1.mx g1.my then Rat.divInt (g1.xx*g1.ar - g1.sx*g1.sx) (g1.ar*g1.ar) else 0):Rat)=(Rat.divInt (g1.xx*g1.ar - g1.sx*g1.sx) (g1.ar*g1.ar)):=by exact if_pos hokg1
      rw [e71]
      have e72:((if Bl.ok g1.ar g1.le g1.tp g1.rt g1.bt g1.sx g1.sy g1.xx g1.xy g1.yy g1.ms g1.mx g1.my then Rat.divInt (g1.xy*g1.ar - g1.sx*g1.sy) (g1.ar*g1.ar) else 0):Rat)=(Rat.divInt (g1.xy*g1.ar - g1.sx*g1.sy) (g1.ar*g1.ar)):=by exact if_pos hokg1
      rw [e72]
      have e73:((if Bl.ok g1.ar g1.le g1.tp g1.rt g1.bt g1.sx g1.sy g1.xx g1.xy g1.yy g1.ms g1.mx g1.my then Rat.divInt (g1.yy*g1.ar - g1.sy*g1.sy) (g1.ar*g1.ar) else 0):Rat)=(Rat.divInt (g1.yy*g1.ar - g1.sy*g1.sy) (g1.ar*g1.ar)):=by exact if_pos hokg1
      rw [e73]
      have hiq1:=Fl.in_hq hokg1
      refine r_pv rfl rfl (zb rfl)<|r_pv rfl rfl (zp rfl rfl)<|r_pv rfl rfl (zp rfl rfl)<|r_pv rfl rfl (zp rfl rfl)<|r_pv rfl rfl (zp rfl rfl)<|zP rfl rfl (zB zr45 rfl) (fun b74=> ?_)
      refine zP rfl rfl (zB zr45 rfl) (fun b75=> ?_)
      refine zP rfl rfl (zB zr45 rfl) (fun b76=> ?_)
      refine zo 2 rfl rfl rfl rfl rfl sz45 rfl (.take (.take (.take (.take .nil)))) (.s (.s .z))<|zo 1 rfl rfl rfl rfl rfl sz45 rfl (.take (.take (.take (.take .nil)))) (.s .z)<|zo 0 rfl rfl rfl rfl rfl sz45 rfl (.take (.take (.take (.take .nil)))) .z<|r_pv rfl rfl (zd rfl)<|zk<|zf<|zi<|zc<|r_pv rfl rfl (zb rfl)<|r_u rfl rfl (ze 5 ty3 rfl rfl rfl)<|zK (x0:=((A1.map (Fl.shB ((dx:Nat):Int) ((dy:Nat):Int))).getD k b0)) 16 k rfl Try.underlying35 sz51 rfl rfl rfl (by first|rfl|assumption|(rw [List.length_map];done)|omega) rfl rfl (gD (d:=b0) (by omega)) (fun b77 o78 hok79=> ?_)
      obtain ⟨hok790,hok791,hok792,hok793,hok794,hok795,hok796,hok797,hok798,hok799,hok7910,hok7911,hok7912⟩:=hok79
      replace hok790:=zj.1 hok790
      replace hok791:=zj.1 hok791
      replace hok792:=zj.1 hok792
      replace hok793:=zj.1 hok793
      replace hok794:=zj.1 hok794
      replace hok795:=zj.1 hok795
      replace hok796:=zj.1 hok796
      replace hok797:=zj.1 hok797
      replace hok798:=zj.1 hok798
      replace hok799:=zj.1 hok799
      replace hok7910:=zj.1 hok7910
      replace hok7911:=zj.1 hok7911
      replace hok7912:=zj.1 hok7912
      refine r_u rfl rfl (zpa (j:=0) 0 ty51 rfl rfl rfl (.take (.take (.take (.take (.take (.take (.take (.take (.take (.take (.take (.take (.take .nil)))))))))))))) ?_
      have e80:(((A1.map (Fl.shB ((dx:Nat):Int) ((dy:Nat):Int))).getD k b0):Bb)=g2:=by exact hg2.symm
      rw [e80]
      refine zy rfl rfl (.c rfl .n) ce23 (zzb (ar:=g2.ar) (le:=g2.le) (tp:=g2.tp) (rt:=g2.rt) (bt:=g2.bt) (sx:=g2.sx) (sy:=g2.sy) (xx:=g2.xx) (xy:=g2.xy) (yy:=g2.yy) (ms:=g2.ms) (mx:=g2.mx) (my:=g2.my)) (.n) ?_
      rintro ⟨w381,w482,w583,w684,w785,w886⟩ -
      dsimp only [List.append_eq,List.nil_append,List.cons_append]
      have e87:((if Bl.ok g2.ar g2.le g2.tp g2.rt g2.bt g2.sx g2.sy g2.xx g2.xy g2.yy g2.ms g2.mx g2.my then 0 else 1):Int)=0:=by exact if_pos hokg2
      rw [e87]
      have e88:(decide (Bl.ok g2.ar g2.le g2.tp g2.rt g2.bt g2.sx g2.sy g2.xx g2.xy g2.yy g2.ms g2.mx g2.my))=true:=by exact decide_eq_true hokg2
      rw [e88]
      have e89:((if Bl.ok g2.ar g2.le g2.tp g2.rt g2.bt g2.sx g2.sy g2.xx g2.xy g2.yy g2.ms g2.mx g2.my then Rat.divInt (g2.xx*g2.ar - g2.sx*g2.sx) (g2.ar*g2.ar) else 0):Rat)=(Rat.divInt (g2.xx*g2.ar - g2.sx*g2.sx) (g2.ar*g2.ar)):=by exact if_pos hokg2
      rw [e89]
      have e90:((if Bl.ok g2.ar g2.le g2.tp g2.rt g2.bt g2.sx g2.sy g2.xx g2.xy g2.yy g2.ms g2.mx g2.my then Rat.divInt (g2.xy*g2.ar - g2.sx*g2.sy) (g2.ar*g2.ar) else 0):Rat)=(Rat.divInt (g2.xy*g2.ar - g2.sx*g2.sy) (g2.ar*g2.ar)):=by exact if_pos hokg2
      rw [e90]
      have e91:((if Bl.ok g2.ar g2.le g2.tp g2.rt g2.bt g2.sx g2.sy g2.xx g2.xy g2.yy g2.ms g2.mx g2.my then Rat.divInt (g2.yy*g2.ar - g2.sy*g2.sy) (g2.ar*g2.ar) else 0):Rat)=(Rat.divInt (g2.yy*g2.ar - g2.sy*g2.sy) (g2.ar*g2.ar)):=by exact if_pos hokg2
      rw [e91]
      have hiq2:=Fl.in_hq hokg2
      refine r_pv rfl rfl (zb rfl)<|r_pv rfl rfl (zp rfl rfl)<|r_pv rfl rfl (zp rfl rfl)<|r_pv rfl rfl (zp rfl rfl)<|r_pv rfl rfl (zp rfl rfl)<|zP rfl rfl (zB zr45 rfl) (fun b92=> ?_)
      refine zP rfl rfl (zB zr45 rfl) (fun b93=> ?_)
      refine zP rfl rfl (zB zr45 rfl) (fun b94=> ?_)
      refine zo 2 rfl rfl rfl rfl rfl sz45 rfl (.take (.take (.take (.take .nil)))) (.s (.s .z))<|zo 1 rfl rfl rfl rfl rfl sz45 rfl (.take (.take (.take (.take .nil)))) (.s .z)<|zo 0 rfl rfl rfl rfl rfl sz45 rfl (.take (.take (.take (.take .nil)))) .z<|r_pv rfl rfl (zd rfl)<|zk<|zf<|zi<|zi<|zc<|r_pv rfl rfl (zb rfl)<|r_pv rfl rfl (zCa rfl rfl)<|r_pv rfl rfl (zb rfl)<|r_pv rfl rfl (zb rfl)<|r_pv rfl rfl (zCa rfl rfl)<|r_pv rfl rfl (zm rfl rfl)<|r_pv rfl rfl (zb rfl)<|r_u rfl rfl (zh 5 ty45 rfl rfl (.take (.take (.take (.take .nil)))))<|r_u rfl rfl (zh 2 ty45 rfl rfl (.take (.take (.take (.take .nil)))))<|zO rfl rfl (.c rfl (.c rfl .n)) ce20 (zBa (u1:=w363) (v1:=w464) (q1:=(Rat.divInt (g1.xx*g1.ar - g1.sx*g1.sx) (g1.ar*g1.ar))) (u2:=w381) (v2:=w482) (q2:=(Rat.divInt (g2.xx*g2.ar - g2.sx*g2.sx) (g2.ar*g2.ar))) (hl:=by first|rfl|assumption|omega)) (.c (j:=4) rfl (.c (j:=0) rfl .n)) ?_
      rw [show (decide ((Rat.divInt (g1.xx*g1.ar - g1.sx*g1.sx) (g1.ar*g1.ar))=(Rat.divInt (g2.xx*g2.ar - g2.sx*g2.sx) (g2.ar*g2.ar))))=true from by exact decide_eq_true (by rw [hAk];simp only [Fl.shB];rw [Fl.in_sh])]
      refine r_pv rfl rfl (zbb rfl)<|r_pv rfl rfl (zm rfl rfl)<|r_pv rfl rfl (zb rfl)<|r_u rfl rfl (zh 4 ty45 rfl rfl (.take (.take (.take (.take .nil)))))<|r_u rfl rfl (zh 1 ty45 rfl rfl (.take (.take (.take (.take .nil)))))<|zO rfl rfl (.c rfl (.c rfl .n)) ce20 (zBa (u1:=w565) (v1:=w666) (q1:=(Rat.divInt (g1.xy*g1.ar - g1.sx*g1.sy) (g1.ar*g1.ar))) (u2:=w583) (v2:=w684) (q2:=(Rat.divInt (g2.xy*g2.ar - g2.sx*g2.sy) (g2.ar*g2.ar))) (hl:=by first|rfl|assumption|omega)) (.c (j:=5) rfl (.c (j:=1) rfl .n)) ?_
      rw [show (decide ((Rat.divInt (g1.xy*g1.ar - g1.sx*g1.sy) (g1.ar*g1.ar))=(Rat.divInt (g2.xy*g2.ar - g2.sx*g2.sy) (g2.ar*g2.ar))))=true from by exact decide_eq_true (by rw [hAk];simp only [Fl.shB];rw [Fl.in_sh2])]
      refine r_pv rfl rfl (zbb rfl)<|r_pv rfl rfl (zm rfl rfl)<|r_pv rfl rfl (zb rfl)<|r_u rfl rfl (zh 3 ty45 rfl rfl (.take (.take (.take (.take .nil)))))<|r_u rfl rfl (zh 0 ty45 rfl rfl (.take (.take (.take (.take .nil)))))<|zO rfl rfl (.c rfl (.c rfl .n)) ce20 (zBa (u1:=w767) (v1:=w868) (q1:=(Rat.divInt (g1.yy*g1.ar - g1.sy*g1.sy) (g1.ar*g1.ar))) (u2:=w785) (v2:=w886) (q2:=(Rat.divInt (g2.yy*g2.ar - g2.sy*g2.sy) (g2.ar*g2.ar))) (hl:=by first|rfl|assumption|omega)) (.c (j:=6) rfl (.c (j:=2) rfl .n)) ?_
      rw [show (decide ((Rat.divInt (g1.yy*g1.ar - g1.sy*g1.sy) (g1.ar*g1.ar))=(Rat.divInt (g2.yy*g2.ar - g2.sy*g2.sy) (g2.ar*g2.ar))))=true from by exact decide_eq_true (by rw [hAk];simp only [Fl.shB];rw [Fl.in_sh])]
      refine r_pv rfl rfl (zbb rfl)<|r_pv rfl rfl (zm rfl rfl)<|zk<|zf<|zKa rfl rfl<|zz<|zf<|zi<|zib 8 rfl (.s (.s (.s (.s (.s (.s (.s (.s .z))))))))<|zc<|r_pv rfl rfl (zb rfl)<|r_pv rfl rfl (zVa .n (.c rfl (.c rfl .n)))<|zO rfl rfl (.c rfl (.c rfl .n)) ce24 (zNb (p:=p321) (n:=(A3.length)) (cap:=c322) (l:=A3) (pA:=p314) (cA:=c315) (A1:=A1) (k:=k) (b15:=b17) (b21:=b26) (hn:=by first|rfl|assumption|omega) (hk:=by first|rfl|assumption|omega)) (.c (j:=20) rfl (.c (j:=19) rfl (.c (j:=0) rfl (.c (j:=22) rfl .n)))) ?_
      rw [show (decide (∃g∈A3,Fl.mt g (A1.getD k b0)))=true from by exact decide_eq_true ⟨Fl.swB (A1.getD k b0),h3.2 _ (Fl.gB_mem (by omega)),Fl.mt_sw _⟩]
      refine r_pv rfl rfl (zd rfl)<|zk<|zf<|zi<|zc<|r_pv rfl rfl (zb rfl)<|r_pv rfl rfl (zbb rfl)<|zk<|zf<|zKa rfl rfl<|zz<|zT<|zf<|zc<|r_pv rfl rfl (zC (z:=(((k+1):Nat):Int)) rfl rfl (w64 (by omega)))<|r_pv rfl rfl (zb rfl)<|zk<|zea (k+1) (show (k+1)≤A1.length from by omega) (by show A1.length - (k+1)<A1.length - k;omega) ((.of rfl):SubM _ _) (ho:=((.of [9,9,9,9] rfl):PickO _ _ _)) ((.of [19,20,21,22,23,24,25] rfl):SelR _ _ _)
     ·
      refine zia<|zn<|zn<|zv<|zf<|zi<|zc<|r_pv rfl rfl (zd rfl)<|zk<|zf<|zI ?_
      exact zD Try.results6 () trivial (zq rfl) rfl (ho:=(.n:PickO _ _ _)) (.n:SelR _ _ _)
   refine zjb (X:=Nat×Nat) (k':=1) (L':=(lb 13 4095)) (fun (u9_1,u11_1)=>([(10,.pointer (some ⟨u11_1,0,none⟩)),(80,.agg #[.int .i64 ((hn9:Nat):Int),.int .i64 ((wn:Nat):Int),.int .i64 m,.slice (some ⟨u9_1,0,none⟩) n n]),(9,.pointer (some ⟨b8,0,none⟩)),(8,.int .i64 ((dy:Nat):Int)),(7,.int .i64 ((dx:Nat):Int)),(6,.bool false),(3,.pointer (some ⟨b1,0,none⟩)),(1,.int .i64 th)],[boxA u11_1 24 [.int .i64 0,.int .i64 0,.int .i64 0,.slice none 0 0]],[rowA 3 (rI .i64) (some ⟨u9_1,0,none⟩) n (List.replicate n 0),boxA b8 24 [.int .i64 (((wn+4):Nat):Int),.int .i64 (((hn9+4):Nat):Int),.int .i64 m,.slice none 0 0],boxA b2 40 [.int .u8 ((na:Nat):Int),.int .u8 ((nb:Nat):Int)],boxA b1 24 [.int .i64 ((wn:Nat):Int),.int .i64 ((hn9:Nat):Int),.int .i64 m,.slice p n cap]],[slF (rI .i64) p cap l])) ?_ (fun hD1=> ?_)
   ·
    rintro ⟨u9_1,u11_1⟩
    dsimp only
    refine zV 12 (by kernel_rfl) ?_
    ·
     refine zL (by kernel_rfl) rfl rfl rfl rfl rfl sz24 rfl (.take (.take (.take (.take .nil)))) ?_
     exact zza (hD0 (u9_1,u11_1)) (by kernel_rfl) ((.of rfl):SubM _ _) .rfl .rfl ((.c (j:=0) rfl .n):SelR _ _ _)
   refine zjb (X:=Nat) (k':=2) (L':=(lb 13 2047)) (fun u9_1=>([(80,.agg #[.int .i64 ((hn9:Nat):Int),.int .i64 ((wn:Nat):Int),.int .i64 m,.slice (some ⟨u9_1,0,none⟩) n n]),(9,.pointer (some ⟨b8,0,none⟩)),(8,.int .i64 ((dy:Nat):Int)),(7,.int .i64 ((dx:Nat):Int)),(6,.bool false),(3,.pointer (some ⟨b1,0,none⟩)),(1,.int .i64 th)],[],[rowA 3 (rI .i64) (some ⟨u9_1,0,none⟩) n (List.replicate n 0),boxA b8 24 [.int .i64 (((wn+4):Nat):Int),.int .i64 (((hn9+4):Nat):Int),.int .i64 m,.slice none 0 0],boxA b2 40 [.int .u8 ((na:Nat):Int),.int .u8 ((nb:Nat):Int)],boxA b1 24 [.int .i64 ((wn:Nat):Int),.int .i64 ((hn9:Nat):Int),.int .i64 m,.slice p n cap]],[slF (rI .i64) p cap l])) ?_ (fun hD2=> ?_)
   ·
    rintro u9_1
    dsimp only
    refine zV 11 (by kernel_rfl) ?_
    ·
     refine zne rfl rfl rfl rfl (zB zr24 rfl) (fun u11_1 _=> ?_)
     exact zza (hD1 (u9_1,u11_1)) (by kernel_rfl) ((.of rfl):SubM _ _) .rfl .rfl ((.c (j:=0) rfl .n):SelR _ _ _)
   refine zjb (X:=Nat) (k':=3) (L':=(lb 13 2559)) (fun u11_1=>([(10,.pointer (some ⟨u11_1,0,none⟩)),(78,.int .i64 ((n:Nat):Int)),(75,.int .i64 m),(73,.int .i64 ((wn:Nat):Int)),(71,.int .i64 ((hn9:Nat):Int)),(9,.pointer (some ⟨b8,0,none⟩)),(8,.int .i64 ((dy:Nat):Int)),(7,.int .i64 ((dx:Nat):Int)),(6,.bool false),(3,.pointer (some ⟨b1,0,none⟩)),(1,.int .i64 th)],[boxA u11_1 24 [.int .i64 0,.int .i64 0,.int .i64 0,.slice none 0 0]],[boxA b8 24 [.int .i64 (((wn+4):Nat):Int),.int .i64 (((hn9+4):Nat):Int),.int .i64 m,.slice none 0 0],boxA b2 40 [.int .u8 ((na:Nat):Int),.int .u8 ((nb:Nat):Int)],boxA b1 24 [.int .i64 ((wn:Nat):Int),.int .i64 ((hn9:Nat):Int),.int .i64 m,.slice p n cap]],[slF (rI .i64) p cap l])) ?_ (fun hD3=> ?_)
   ·
    rintro u11_1
    dsimp only
    refine zV 9 (by kernel_rfl) ?_
    ·
     refine ztf rfl rfl rfl rfl (zOa (r:=rI .i64) (k:=n) (x0:=0) (γ0:=()) Try.underlying22 inf3 rfl rfl rfl rfl (by omega) (by omega) rfl (fun _ _=>by exact zj.2 (by decide)) (by decide)) (fun u9_1 _=> ?_)
     refine d_pv 10 rfl rfl (by kernel_rfl) (by kernel_rfl) rfl rfl (zG zr24 rfl Try.underlying24 (.c sz3 (.c sz3 (.c sz3 (.c sz22 .n)))) (.c rfl (.c rfl (.c rfl (.c rfl .n)))) (.c rfl rfl rfl (.take .nil) (.c rfl rfl rfl (.skip (.take .nil)) (.c rfl rfl rfl (.skip (.skip (.take .nil))) (.c rfl rfl rfl (.skip (.skip (.skip (.take .nil)))) .n))))) ?_
     exact zza (hD1 (u9_1,u11_1)) (by kernel_rfl) ((.of rfl):SubM _ _) .rfl .rfl ((.c (j:=0) rfl .n):SelR _ _ _)
   refine d_two 9 11 (by kernel_rfl) ?_ ?_
   ·
    refine ztf rfl rfl rfl rfl (zOa (r:=rI .i64) (k:=n) (x0:=0) (γ0:=()) Try.underlying22 inf3 rfl rfl rfl rfl (by omega) (by omega) rfl (fun _ _=>by exact zj.2 (by decide)) (by decide)) (fun u9_1 _=> ?_)
    refine d_pv 10 rfl rfl (by kernel_rfl) (by kernel_rfl) rfl rfl (zG zr24 rfl Try.underlying24 (.c sz3 (.c sz3 (.c sz3 (.c sz22 .n)))) (.c rfl (.c rfl (.c rfl (.c rfl .n)))) (.c rfl rfl rfl (.take .nil) (.c rfl rfl rfl (.skip (.take .nil)) (.c rfl rfl rfl (.skip (.skip (.take .nil))) (.c rfl rfl rfl (.skip (.skip (.skip (.take .nil)))) .n))))) ?_
    exact zza (hD2 u9_1) (by kernel_rfl) ((.of rfl):SubM _ _) .rfl .rfl ((.c (j:=0) rfl .n):SelR _ _ _)
   ·
    refine zne rfl rfl rfl rfl (zB zr24 rfl) (fun u11_1 _=> ?_)
    exact zza (hD3 u11_1) (by kernel_rfl) ((.of rfl):SubM _ _) .rfl .rfl ((.c (j:=0) rfl .n):SelR _ _ _)
end Go.Proofs.Ytefbbhiaalcjfaa.Sp
