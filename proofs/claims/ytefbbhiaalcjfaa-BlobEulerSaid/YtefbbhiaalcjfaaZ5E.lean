/- Lemmas on the walk and plain lemmas that the claim of this folder uses; each states its own conditions. Lines were printed by a program of ours. -/
import Derived.Test.YtefbbhiaalcjfaaZ5D
set_option linter.unusedVariables false
set_option linter.unusedSimpArgs false
set_option linter.unusedSectionVars false
namespace Go.Proofs.Ytefbbhiaalcjfaa.Sp
open Go
set_option linter.unusedVariables false
set_option maxRecDepth 100000
set_option maxHeartbeats 8000000
theorem zyd {ar:Int} {le:Int} {tp:Int} {rt:Int} {bt:Int} {sx:Int} {sy:Int} {xx:Int} {xy:Int} {yy:Int} {ms:Int} {mx:Int} {my:Int}:Con Try.prog 23 [.agg #[.int .i64 ar,.int .i64 le,.int .i64 tp,.int .i64 rt,.int .i64 bt,.int .i64 sx,.int .i64 sy,.int .i64 xx,.int .i64 xy,.int .i64 yy,.int .i64 ms,.int .i64 mx,.int .i64 my]] [] [] (Y:=Wd×Wd×Wd×Wd×Wd×Wd) (fun y=>True) (fun y=> .tuple #[.agg #[y.1.b,y.1.l,y.2.1.b,y.2.1.l],.agg #[y.2.2.1.b,y.2.2.1.l,y.2.2.2.1.b,y.2.2.2.1.l],.agg #[y.2.2.2.2.1.b,y.2.2.2.2.1.l,y.2.2.2.2.2.b,y.2.2.2.2.2.l],.int .i64 (if Bl.ok ar le tp rt bt sx sy xx xy yy ms mx my then 0 else 1)]) (fun y=>[]) (fun y=>[qF (decide (Bl.ok ar le tp rt bt sx sy xx xy yy ms mx my)) y.1 y.2.1 (if Bl.ok ar le tp rt bt sx sy xx xy yy ms mx my then Rat.divInt (xx*ar - sx*sx) (ar*ar) else 0),qF (decide (Bl.ok ar le tp rt bt sx sy xx xy yy ms mx my)) y.2.2.1 y.2.2.2.1 (if Bl.ok ar le tp rt bt sx sy xx xy yy ms mx my then Rat.divInt (xy*ar - sx*sy) (ar*ar) else 0),qF (decide (Bl.ok ar le tp rt bt sx sy xx xy yy ms mx my)) y.2.2.2.2.1 y.2.2.2.2.2 (if Bl.ok ar le tp rt bt sx sy xx xy yy ms mx my then Rat.divInt (yy*ar - sy*sy) (ar*ar) else 0)]):=by
 refine zr Try.func23 rfl rfl rfl (fun c=> ?_)
 show RunC _ _ _ _ _ [(0,.agg #[.int .i64 ar,.int .i64 le,.int .i64 tp,.int .i64 rt,.int .i64 bt,.int .i64 sx,.int .i64 sy,.int .i64 xx,.int .i64 xy,.int .i64 yy,.int .i64 ms,.int .i64 mx,.int .i64 my])] [] []
 refine zi<|zc<|zS rfl rfl (zX rfl rfl) (fun b1=> ?_)
 refine zS rfl rfl (zG zr45 rfl) (fun b2=> ?_)
 refine zS rfl rfl (zG zr45 rfl) (fun b3=> ?_)
 refine zS rfl rfl (zG zr45 rfl) (fun b4=> ?_)
 refine r_pv rfl rfl (zd rfl)<|zj<|ze<|zi<|zi<|zc<|r_u rfl rfl (zh 3 ty51 rfl rfl (.take (.take (.take (.take (.take (.take (.take (.take (.take (.take (.take (.take (.take .nil))))))))))))))<|zO rfl rfl (.c rfl .n) ce28 (ztc (ar:=ar) (le:=le) (tp:=tp) (rt:=rt) (bt:=bt) (sx:=sx) (sy:=sy) (xx:=xx) (xy:=xy) (yy:=yy) (ms:=ms) (mx:=mx) (my:=my)) (.n)<|r_pv rfl rfl (zd rfl)<|zj<|ze<|zi<|zc<|r_pv rfl rfl (zb rfl)<|r_pv rfl rfl (zIa rfl rfl)<|zj<|ze<|zD rfl (fun hc=> ?_) (fun hc=> ?_)
 ·
  have hok:¬Bl.ok ar le tp rt bt sx sy xx xy yy ms mx my:=fun k=>hc (if_pos k)
  refine zi<|zc<|r_pv rfl rfl (zK zr45 rfl Try.underlying45 (.c sz43 (.c sz43 .n)) .n .n)<|r_pv rfl rfl (zK zr45 rfl Try.underlying45 (.c sz43 (.c sz43 .n)) .n .n)<|r_pv rfl rfl (zK zr45 rfl Try.underlying45 (.c sz43 (.c sz43 .n)) .n .n)<|r_pv rfl rfl (zb rfl)<|zo 2 rfl rfl rfl rfl rfl sz45 rfl (.take (.take (.take (.take .nil)))) (.s (.s .z))<|zo 1 rfl rfl rfl rfl rfl sz45 rfl (.take (.take (.take (.take .nil)))) (.s .z)<|zo 0 rfl rfl rfl rfl rfl sz45 rfl (.take (.take (.take (.take .nil)))) .z<|r_pv rfl rfl (zd rfl)<|zj<|ze<|zI<|zt<|zpb (qF false wz wz 0) (fun g _=>qF_none g) ?_
  exact zjf Try.results23 (wz,wz,wz,wz,wz,wz) trivial (zu 2 ty45 rfl rfl (.take (.take (.take (.take .nil))))) (zu 1 ty45 rfl rfl (.take (.take (.take (.take .nil))))) (zu 0 ty45 rfl rfl (.take (.take (.take (.take .nil))))) (zq rfl) (by simp only [if_neg hok];rfl) (ho:=(.n:PickO _ _ _)) ((.e (j:=0) rfl (by rw [if_neg hok,decide_eq_false hok]) (.e (j:=0) rfl (by rw [if_neg hok,decide_eq_false hok]) (.e (j:=0) rfl (by rw [if_neg hok,decide_eq_false hok]) .n))):SelR _ _ _)
 ·
  have hok:Bl.ok ar le tp rt bt sx sy xx xy yy ms mx my:=Bl.c0.1 (Decidable.not_not.1 hc)
  have ho9:=hok
  unfold Bl.ok at ho9
  have e0:=Bl.mul_b (x:=ar) (y:=le) (m:=4096) (n:=63) (by omega) (by omega)
  have e1:=Bl.mul_b (x:=ar) (y:=rt) (m:=4096) (n:=63) (by omega) (by omega)
  have e2:=Bl.mul_b (x:=ar) (y:=tp) (m:=4096) (n:=63) (by omega) (by omega)
  have e3:=Bl.mul_b (x:=ar) (y:=bt) (m:=4096) (n:=63) (by omega) (by omega)
  have e4:=Bl.mul_b (x:=ms) (y:=le) (m:=268431360) (n:=63) (by omega) (by omega)
  have e5:=Bl.mul_b (x:=ms) (y:=rt) (m:=268431360) (n:=63) (by omega) (by omega)
  have e6:=Bl.mul_b (x:=ms) (y:=tp) (m:=268431360) (n:=63) (by omega) (by omega)
  have e7:=Bl.mul_b (x:=ms) (y:=bt) (m:=268431360) (n:=63) (by omega) (by omega)
  refine zA<|ze<|zi<|zfb 3 rfl (.s (.s (.s .z)))<|zc<|r_pv rfl rfl (zQa .n (.c rfl .n))<|r_pv rfl rfl (zd rfl)<|zj<|ze<|zi<|zza (.c (i:=2) rfl (.c (i:=1) rfl (.c (i:=0) rfl (.c (i:=0) rfl .n))))<|zja (OW:=[boxA b2 45 (cw [wz,wz]),boxA b3 45 (cw [wz,wz]),boxA b4 45 (cw [wz,wz])]) (O:=[emA]) 24 mixed (.then .ret) (by kernel_rfl)<|d_pv 0 rfl rfl (by kernel_rfl) (by kernel_rfl) rfl rfl (zb rfl)<|d_pv 1 rfl rfl (by kernel_rfl) (by kernel_rfl) rfl rfl (zg Try.underlying51 rfl sz3 rfl rfl)<|d_u 2 rfl rfl (by kernel_rfl) (by kernel_rfl) rfl rfl (zl (j:=7) 0 ty3 rfl rfl rfl rfl)<|d_pv 3 rfl rfl (by kernel_rfl) (by kernel_rfl) rfl rfl (zg Try.underlying51 rfl sz3 rfl rfl)<|d_u 4 rfl rfl (by kernel_rfl) (by kernel_rfl) rfl rfl (zl (j:=5) 0 ty3 rfl rfl rfl rfl)<|d_pv 5 rfl rfl (by kernel_rfl) (by kernel_rfl) rfl rfl (zg Try.underlying51 rfl sz3 rfl rfl)<|d_u 6 rfl rfl (by kernel_rfl) (by kernel_rfl) rfl rfl (zl (j:=5) 0 ty3 rfl rfl rfl rfl)<|d_pv 8 rfl rfl (by kernel_rfl) (by kernel_rfl) rfl rfl (zb rfl)<|d_pv 9 rfl rfl (by kernel_rfl) (by kernel_rfl) rfl rfl (zg Try.underlying51 rfl sz3 rfl rfl)<|d_u 10 rfl rfl (by kernel_rfl) (by kernel_rfl) rfl rfl (zl (j:=8) 0 ty3 rfl rfl rfl rfl)<|d_pv 11 rfl rfl (by kernel_rfl) (by kernel_rfl) rfl rfl (zg Try.underlying51 rfl sz3 rfl rfl)<|d_u 12 rfl rfl (by kernel_rfl) (by kernel_rfl) rfl rfl (zl (j:=5) 0 ty3 rfl rfl rfl rfl)<|d_pv 13 rfl rfl (by kernel_rfl) (by kernel_rfl) rfl rfl (zg Try.underlying51 rfl sz3 rfl rfl)<|d_u 14 rfl rfl (by kernel_rfl) (by kernel_rfl) rfl rfl (zl (j:=6) 0 ty3 rfl rfl rfl rfl)<|d_pv 16 rfl rfl (by kernel_rfl) (by kernel_rfl) rfl rfl (zb rfl)<|d_pv 17 rfl rfl (by kernel_rfl) (by kernel_rfl) rfl rfl (zg Try.underlying51 rfl sz3 rfl rfl)<|d_u 18 rfl rfl (by kernel_rfl) (by kernel_rfl) rfl rfl (zl (j:=9) 0 ty3 rfl rfl rfl rfl)<|d_pv 19 rfl rfl (by kernel_rfl) (by kernel_rfl) rfl rfl (zg Try.underlying51 rfl sz3 rfl rfl)<|d_u 20 rfl rfl (by kernel_rfl) (by kernel_rfl) rfl rfl (zl (j:=6) 0 ty3 rfl rfl rfl rfl)<|d_pv 21 rfl rfl (by kernel_rfl) (by kernel_rfl) rfl rfl (zg Try.underlying51 rfl sz3 rfl rfl)<|d_u 22 rfl rfl (by kernel_rfl) (by kernel_rfl) rfl rfl (zl (j:=6) 0 ty3 rfl rfl rfl rfl)<|zV 7 (by kernel_rfl) (zCd (first:=[]) (cap:=[.pointer (some ⟨b1,0,none⟩)]) rfl rfl rfl rfl rfl (.c rfl (.c rfl (.c rfl .n))) ce48 (ztb (ar:=ar) (le:=le) (tp:=tp) (rt:=rt) (bt:=bt) (sx:=sx) (sy:=sy) (xx:=xx) (xy:=xy) (yy:=yy) (ms:=ms) (mx:=mx) (my:=my) (bb:=b1) (u:=xx) (v:=sx) (w:=sx) (ho:=by first|rfl|assumption|omega) (hp:=by first|rfl|assumption|omega) (hs:=by first|rfl|assumption|omega) (ht:=by first|rfl|assumption|omega)) (.c (j:=0) rfl .n) ?_)
  rintro ⟨w35,w46⟩ -
  dsimp only [List.append_eq,List.nil_append,List.cons_append]
  refine zV 15 (by kernel_rfl) (zCd (first:=[]) (cap:=[.pointer (some ⟨b1,0,none⟩)]) rfl rfl rfl rfl rfl (.c rfl (.c rfl (.c rfl .n))) ce48 (ztb (ar:=ar) (le:=le) (tp:=tp) (rt:=rt) (bt:=bt) (sx:=sx) (sy:=sy) (xx:=xx) (xy:=xy) (yy:=yy) (ms:=ms) (mx:=mx) (my:=my) (bb:=b1) (u:=xy) (v:=sx) (w:=sy) (ho:=by first|rfl|assumption|omega) (hp:=by first|rfl|assumption|omega) (hs:=by first|rfl|assumption|omega) (ht:=by first|rfl|assumption|omega)) (.c (j:=1) rfl .n) ?_)
  rintro ⟨w37,w48⟩ -
  dsimp only [List.append_eq,List.nil_append,List.cons_append]
  refine zV 23 (by kernel_rfl) (zCd (first:=[]) (cap:=[.pointer (some ⟨b1,0,none⟩)]) rfl rfl rfl rfl rfl (.c rfl (.c rfl (.c rfl .n))) ce48 (ztb (ar:=ar) (le:=le) (tp:=tp) (rt:=rt) (bt:=bt) (sx:=sx) (sy:=sy) (xx:=xx) (xy:=xy) (yy:=yy) (ms:=ms) (mx:=mx) (my:=my) (bb:=b1) (u:=yy) (v:=sy) (w:=sy) (ho:=by first|rfl|assumption|omega) (hp:=by first|rfl|assumption|omega) (hs:=by first|rfl|assumption|omega) (ht:=by first|rfl|assumption|omega)) (.c (j:=2) rfl .n) ?_)
  rintro ⟨w39,w410⟩ -
  dsimp only [List.append_eq,List.nil_append,List.cons_append]
  refine zV 24 (by kernel_rfl) (zL (by kernel_rfl) rfl rfl rfl rfl rfl sz45 rfl (.take (.take (.take (.take .nil)))) ?_)
  refine zMa (zna (i:=1) rfl)<|zV 25 (by kernel_rfl) (zL (by kernel_rfl) rfl rfl rfl rfl rfl sz45 rfl (.take (.take (.take (.take .nil)))) ?_)
  refine zMa (zna (i:=2) rfl)<|zV 26 (by kernel_rfl) (zL (by kernel_rfl) rfl rfl rfl rfl rfl sz45 rfl (.take (.take (.take (.take .nil)))) ?_)
  refine d_pv 27 rfl rfl (by kernel_rfl) (by kernel_rfl) rfl rfl (zd rfl)<|zga (by kernel_rfl)<|ze<|zI ?_
  exact zjf Try.results23 (w35,w46,w37,w48,w39,w410) trivial (zu 2 ty45 rfl rfl (.take (.take (.take (.take .nil))))) (zu 1 ty45 rfl rfl (.take (.take (.take (.take .nil))))) (zu 0 ty45 rfl rfl (.take (.take (.take (.take .nil))))) (zq rfl) (by rw [if_pos hok]) (ho:=(.n:PickO _ _ _)) ((.e (j:=2) rfl (by rw [if_pos hok,decide_eq_true hok]) (.e (j:=1) rfl (by rw [if_pos hok,decide_eq_true hok]) (.e (j:=0) rfl (by rw [if_pos hok,decide_eq_true hok]) .n))):SelR _ _ _)
theorem zIc {ar:Int} {le:Int} {tp:Int} {rt:Int} {bt:Int} {sx:Int} {sy:Int} {xx:Int} {xy:Int} {yy:Int} {ms:Int} {mx:Int} {my:Int} (hok:Bl.ok ar le tp rt bt sx sy xx xy yy ms mx my):Con Try.prog 23 [.agg #[.int .i64 (ar),.int .i64 (le),.int .i64 (tp),.int .i64 (rt),.int .i64 (bt),.int .i64 (sx),.int .i64 (sy),.int .i64 (xx),.int .i64 (xy),.int .i64 (yy),.int .i64 (ms),.int .i64 (mx),.int .i64 (my)]] [] [] (Y:=(Wd)×(Wd)×(Wd)×(Wd)×(Wd)×(Wd)) (fun y=>True) (fun y=> .tuple #[.agg #[y.1.b,y.1.l,y.2.1.b,y.2.1.l],.agg #[y.2.2.1.b,y.2.2.1.l,y.2.2.2.1.b,y.2.2.2.1.l],.agg #[y.2.2.2.2.1.b,y.2.2.2.2.1.l,y.2.2.2.2.2.b,y.2.2.2.2.2.l],.int .i64 (0)]) (fun y=>[]) (fun y=>[qF true y.1 y.2.1 (Rat.divInt (xx*ar - sx*sx) (ar*ar)),qF true y.2.2.1 y.2.2.2.1 (Rat.divInt (xy*ar - sx*sy) (ar*ar)),qF true y.2.2.2.2.1 y.2.2.2.2.2 (Rat.divInt (yy*ar - sy*sy) (ar*ar))]):=by
  have h:= @zyd ar le tp rt bt sx sy xx xy yy ms mx my
  simp only [if_pos hok,decide_eq_true hok] at h
  exact h
theorem zbe {ar:Int} {le:Int} {tp:Int} {rt:Int} {bt:Int} {sx:Int} {sy:Int} {xx:Int} {xy:Int} {yy:Int} {ms:Int} {mx:Int} {my:Int}:Con Try.prog 19 [.agg #[.int .i64 ar,.int .i64 le,.int .i64 tp,.int .i64 rt,.int .i64 bt,.int .i64 sx,.int .i64 sy,.int .i64 xx,.int .i64 xy,.int .i64 yy,.int .i64 ms,.int .i64 mx,.int .i64 my]] [] [] (Y:=Wd×Wd×Wd×Wd) (fun y=>True) (fun y=> .tuple #[.agg #[y.1.b,y.1.l,y.2.1.b,y.2.1.l,y.2.2.1.b,y.2.2.1.l,y.2.2.2.b,y.2.2.2.l],.int .i64 (if Bl.ok ar le tp rt bt sx sy xx xy yy ms mx my then (if ms=0 then 13 else 0) else 1)]) (fun y=>[]) (fun y=>[qF (decide (Bl.ok ar le tp rt bt sx sy xx xy yy ms mx my∧ms≠0)) y.1 y.2.1 (if Bl.ok ar le tp rt bt sx sy xx xy yy ms mx my∧ms≠0 then Rat.divInt (2*mx+ms) (2*ms) else 0),qF (decide (Bl.ok ar le tp rt bt sx sy xx xy yy ms mx my∧ms≠0)) y.2.2.1 y.2.2.2 (if Bl.ok ar le tp rt bt sx sy xx xy yy ms mx my∧ms≠0 then Rat.divInt (2*my+ms) (2*ms) else 0)]):=by
 refine zr Try.func19 rfl rfl rfl (fun c=> ?_)
 show RunC _ _ _ _ _ [(0,.agg #[.int .i64 ar,.int .i64 le,.int .i64 tp,.int .i64 rt,.int .i64 bt,.int .i64 sx,.int .i64 sy,.int .i64 xx,.int .i64 xy,.int .i64 yy,.int .i64 ms,.int .i64 mx,.int .i64 my])] [] []
 refine zi<|zc<|zS rfl rfl (zX rfl rfl) (fun b1=> ?_)
 refine zS rfl rfl (zG zr47 rfl) (fun b2=> ?_)
 refine r_pv rfl rfl (zd rfl)<|zj<|ze<|zi<|zi<|zc<|r_u rfl rfl (zh 1 ty51 rfl rfl (.take (.take (.take (.take (.take (.take (.take (.take (.take (.take (.take (.take (.take .nil))))))))))))))<|zO rfl rfl (.c rfl .n) ce28 (ztc (ar:=ar) (le:=le) (tp:=tp) (rt:=rt) (bt:=bt) (sx:=sx) (sy:=sy) (xx:=xx) (xy:=xy) (yy:=yy) (ms:=ms) (mx:=mx) (my:=my)) (.n)<|r_pv rfl rfl (zd rfl)<|zj<|ze<|zi<|zc<|r_pv rfl rfl (zb rfl)<|r_pv rfl rfl (zIa rfl rfl)<|zj<|ze<|zD rfl (fun hc=> ?_) (fun hc=> ?_)
 ·
  have hok:¬Bl.ok ar le tp rt bt sx sy xx xy yy ms mx my:=fun k=>hc (if_pos k)
  have hno:¬(Bl.ok ar le tp rt bt sx sy xx xy yy ms mx my∧ms≠0):=fun k=>hok k.1
  refine zi<|zc<|r_pv rfl rfl (zK zr47 rfl Try.underlying47 (.c sz45 (.c sz45 .n)) .n .n)<|r_pv rfl rfl (zb rfl)<|zo 0 rfl rfl rfl rfl rfl sz47 rfl (.take (.take (.take (.take (.take (.take (.take (.take .nil)))))))) .z<|r_pv rfl rfl (zd rfl)<|zj<|ze<|zI<|zt<|zpb (qF false wz wz 0) (fun g _=>qF_none g) ?_
  exact zva Try.results19 (wz,wz,wz,wz) trivial (zu 0 ty47 rfl rfl (.take (.take (.take (.take (.take (.take (.take (.take .nil))))))))) (zq rfl) (by simp only [if_neg hok];rfl) (ho:=(.n:PickO _ _ _)) ((.e (j:=0) rfl (by rw [if_neg hno,decide_eq_false hno]) (.e (j:=0) rfl (by rw [if_neg hno,decide_eq_false hno]) .n)):SelR _ _ _)
 ·
  have hok:Bl.ok ar le tp rt bt sx sy xx xy yy ms mx my:=Bl.c0.1 (Decidable.not_not.1 hc)
  have ho9:=hok
  unfold Bl.ok at ho9
  have e0:=Bl.mul_b (x:=ar) (y:=le) (m:=4096) (n:=63) (by omega) (by omega)
  have e1:=Bl.mul_b (x:=ar) (y:=rt) (m:=4096) (n:=63) (by omega) (by omega)
  have e2:=Bl.mul_b (x:=ar) (y:=tp) (m:=4096) (n:=63) (by omega) (by omega)
  have e3:=Bl.mul_b (x:=ar) (y:=bt) (m:=4096) (n:=63) (by omega) (by omega)
  have e4:=Bl.mul_b (x:=ms) (y:=le) (m:=268431360) (n:=63) (by omega) (by omega)
  have e5:=Bl.mul_b (x:=ms) (y:=rt) (m:=268431360) (n:=63) (by omega) (by omega)
  have e6:=Bl.mul_b (x:=ms) (y:=tp) (m:=268431360) (n:=63) (by omega) (by omega)
  have e7:=Bl.mul_b (x:=ms) (y:=bt) (m:=268431360) (n:=63) (by omega) (by omega)
  refine zA<|ze<|zi<|zi<|zc<|r_pv rfl rfl (zg Try.underlying51 rfl sz3 rfl rfl)<|r_u rfl rfl (zf 1 ty3 rfl rfl rfl)<|r_pv rfl rfl (zua rfl rfl)<|zj<|ze<|zD rfl (fun hm=> ?_) (fun hm=> ?_)
  ·
   have hno:¬(Bl.ok ar le tp rt bt sx sy xx xy yy ms mx my∧ms≠0):=fun k=>k.2 hm
   refine zi<|zc<|r_pv rfl rfl (zK zr47 rfl Try.underlying47 (.c sz45 (.c sz45 .n)) .n .n)<|zo 0 rfl rfl rfl rfl rfl sz47 rfl (.take (.take (.take (.take (.take (.take (.take (.take .nil)))))))) .z<|r_pv rfl rfl (zd rfl)<|zj<|ze<|zI<|zt<|zpb (qF false wz wz 0) (fun g _=>qF_none g) ?_
   exact zva Try.results19 (wz,wz,wz,wz) trivial (zu 0 ty47 rfl rfl (.take (.take (.take (.take (.take (.take (.take (.take .nil))))))))) (zq rfl) (by rw [if_pos hok,if_pos hm];rfl) (ho:=(.n:PickO _ _ _)) ((.e (j:=0) rfl (by rw [if_neg hno,decide_eq_false hno]) (.e (j:=0) rfl (by rw [if_neg hno,decide_eq_false hno]) .n)):SelR _ _ _)
  ·
   have hye:Bl.ok ar le tp rt bt sx sy xx xy yy ms mx my∧ms≠0:=⟨hok,hm⟩
   refine zA<|ze<|zi<|zja (OW:=[boxA b2 47 (cw [wz,wz,wz,wz])]) (O:=[boxA b1 51 [.int .i64 ar,.int .i64 le,.int .i64 tp,.int .i64 rt,.int .i64 bt,.int .i64 sx,.int .i64 sy,.int .i64 xx,.int .i64 xy,.int .i64 yy,.int .i64 ms,.int .i64 mx,.int .i64 my]]) 21 mixed (.then .ret) (by kernel_rfl)<|d_pv 0 rfl rfl (by kernel_rfl) (by kernel_rfl) rfl rfl (zg Try.underlying51 rfl sz3 rfl rfl)<|d_uw 1 rfl rfl (by kernel_rfl) (by kernel_rfl) (by kernel_rfl) rfl rfl (zf 1 ty3 rfl rfl rfl)<|d_pv 2 rfl rfl (by kernel_rfl) (by kernel_rfl) rfl rfl (zla (z:=(2*mx)) rfl rfl (w64 (by omega)))<|d_pv 3 rfl rfl (by kernel_rfl) (by kernel_rfl) rfl rfl (zg Try.underlying51 rfl sz3 rfl rfl)<|d_uw 4 rfl rfl (by kernel_rfl) (by kernel_rfl) (by kernel_rfl) rfl rfl (zf 1 ty3 rfl rfl rfl)<|d_pv 5 rfl rfl (by kernel_rfl) (by kernel_rfl) rfl rfl (zy (z:=((2*mx)+ms)) rfl rfl (w64 (by omega)))<|d_pv 6 rfl rfl (by kernel_rfl) (by kernel_rfl) rfl rfl (zg Try.underlying51 rfl sz3 rfl rfl)<|d_uw 7 rfl rfl (by kernel_rfl) (by kernel_rfl) (by kernel_rfl) rfl rfl (zf 1 ty3 rfl rfl rfl)<|d_pv 8 rfl rfl (by kernel_rfl) (by kernel_rfl) rfl rfl (zla (z:=(2*ms)) rfl rfl (w64 (by omega)))<|d_pv 10 rfl rfl (by kernel_rfl) (by kernel_rfl) rfl rfl (zg Try.underlying51 rfl sz3 rfl rfl)<|d_uw 11 rfl rfl (by kernel_rfl) (by kernel_rfl) (by kernel_rfl) rfl rfl (zf 1 ty3 rfl rfl rfl)<|d_pv 12 rfl rfl (by kernel_rfl) (by kernel_rfl) rfl rfl (zla (z:=(2*my)) rfl rfl (w64 (by omega)))<|d_pv 13 rfl rfl (by kernel_rfl) (by kernel_rfl) rfl rfl (zg Try.underlying51 rfl sz3 rfl rfl)<|d_uw 14 rfl rfl (by kernel_rfl) (by kernel_rfl) (by kernel_rfl) rfl rfl (zf 1 ty3 rfl rfl rfl)<|d_pv 15 rfl rfl (by kernel_rfl) (by kernel_rfl) rfl rfl (zy (z:=((2*my)+ms)) rfl rfl (w64 (by omega)))<|d_pv 16 rfl rfl (by kernel_rfl) (by kernel_rfl) rfl rfl (zg Try.underlying51 rfl sz3 rfl rfl)<|d_uw 17 rfl rfl (by kernel_rfl) (by kernel_rfl) (by kernel_rfl) rfl rfl (zf 1 ty3 rfl rfl rfl)<|d_pv 18 rfl rfl (by kernel_rfl) (by kernel_rfl) rfl rfl (zla (z:=(2*ms)) rfl rfl (w64 (by omega)))<|zV 9 (by kernel_rfl) (zT rfl rfl rfl rfl (.c rfl (.c rfl .n)) ce41 (zkc (z1:=((2*mx)+ms)) (z2:=(2*ms)) (hz1:=by first|rfl|assumption|omega) (hz2:=by first|rfl|assumption|omega) (hy:=by first|rfl|assumption|omega)) (.n) ?_)
   rintro ⟨w33,w44⟩ -
   dsimp only [List.append_eq,List.nil_append,List.cons_append]
   refine zV 19 (by kernel_rfl) (zT rfl rfl rfl rfl (.c rfl (.c rfl .n)) ce41 (zkc (z1:=((2*my)+ms)) (z2:=(2*ms)) (hz1:=by first|rfl|assumption|omega) (hz2:=by first|rfl|assumption|omega) (hy:=by first|rfl|assumption|omega)) (.n) ?_)
   rintro ⟨w35,w46⟩ -
   dsimp only [List.append_eq,List.nil_append,List.cons_append]
   refine d_pv 20 rfl rfl (by kernel_rfl) (by kernel_rfl) rfl rfl (zK zr47 rfl Try.underlying47 (.c sz45 (.c sz45 .n)) (.c rfl (.c rfl .n)) (.c rfl rfl rfl (.take (.take (.take (.take .nil)))) (.c rfl rfl rfl (.skip (.skip (.skip (.skip (.take (.take (.take (.take .nil)))))))) .n)))<|zV 21 (by kernel_rfl) (zL (by kernel_rfl) rfl rfl rfl rfl rfl sz47 rfl (.take (.take (.take (.take (.take (.take (.take (.take .nil)))))))) ?_)
   refine d_pv 22 rfl rfl (by kernel_rfl) (by kernel_rfl) rfl rfl (zd rfl)<|zga (by kernel_rfl)<|ze<|zI ?_
   exact zva Try.results19 (w33,w44,w35,w46) trivial (zu 0 ty47 rfl rfl (.take (.take (.take (.take (.take (.take (.take (.take .nil))))))))) (zq rfl) (by rw [if_pos hok,if_neg hm]) (ho:=(.n:PickO _ _ _)) ((.e (j:=1) rfl (by rw [if_pos hye,decide_eq_true hye]) (.e (j:=0) rfl (by rw [if_pos hye,decide_eq_true hye]) .n)):SelR _ _ _)
theorem zgd {ar:Int} {le:Int} {tp:Int} {rt:Int} {bt:Int} {sx:Int} {sy:Int} {xx:Int} {xy:Int} {yy:Int} {ms:Int} {mx:Int} {my:Int} (hok:Bl.ok ar le tp rt bt sx sy xx xy yy ms mx my) (hm:ms≠0):Con Try.prog 19 [.agg #[.int .i64 (ar),.int .i64 (le),.int .i64 (tp),.int .i64 (rt),.int .i64 (bt),.int .i64 (sx),.int .i64 (sy),.int .i64 (xx),.int .i64 (xy),.int .i64 (yy),.int .i64 (ms),.int .i64 (mx),.int .i64 (my)]] [] [] (Y:=(Wd)×(Wd)×(Wd)×(Wd)) (fun y=>True) (fun y=> .tuple #[.agg #[y.1.b,y.1.l,y.2.1.b,y.2.1.l,y.2.2.1.b,y.2.2.1.l,y.2.2.2.b,y.2.2.2.l],.int .i64 (0)]) (fun y=>[]) (fun y=>[qF true y.1 y.2.1 (Rat.divInt (2*mx+ms) (2*ms)),qF true y.2.2.1 y.2.2.2 (Rat.divInt (2*my+ms) (2*ms))]):=by
  have h:= @zbe ar le tp rt bt sx sy xx xy yy ms mx my
  have h2:Bl.ok ar le tp rt bt sx sy xx xy yy ms mx my∧ms≠0:=⟨hok,hm⟩
  simp only [if_pos hok,if_neg hm,if_pos h2,decide_eq_true h2] at h
  exact h
end Go.Proofs.Ytefbbhiaalcjfaa.Sp
namespace Go.Proofs.Ytefbbhiaalcjfaa.Fl
open Sp (Bb b0)
instance (e:Bool) (w n j k:Nat):Decidable (nb e w n j k):=by unfold nb;infer_instance
theorem Lst.cert {n:Nat} {f:Nat→Bool} {adj:Nat→Nat→Prop} (c p:Nat→Nat) (hf:∀i,f i=true→i<n)
    (h1:∀i,i<n→f i=true→c i≤i∧(c i=i∨(f (p i)=true∧adj i (p i)∧p i<i∧c (p i)=c i)))
    (h2:∀i,i<n→∀k,k<n→f i=true→f k=true→adj i k→c i=c k):Lst (fun j=>f j=true) adj c:=by
  refine ⟨fun i hi=>(h1 i (hf i hi) hi).1,fun i=> ?_,fun i k hi hk ha=>h2 i (hf i hi) k (hf k hk) hi hk ha⟩
  induction i using Nat.strongRecOn with
  |ind i ih=>
    intro hi
    rcases (h1 i (hf i hi) hi).2 with e|⟨a,b,d,e⟩
    · rw [e];exact .refl i
    · rw [← e];exact .step hi a b (ih (p i) d a)
def pixK:List Int:=[9,9,0,0,0,9,0,5,0,0,0,5]
def labK:List Int:=[0,0,-1,-1,-1,0,-1,1,-1,-1,-1,1]
def cK (i:Nat):Nat:=([0,0,2,3,4,0,6,7,8,9,10,7]:List Nat).getD i 0
def pK (i:Nat):Nat:=([0,0,2,3,4,1,6,7,8,9,10,7]:List Nat).getD i 0
theorem lstK:Lst (fun j=>ge pixK 5 j=true) (nb false 4 12) cK:=
  Lst.cert (n:=12) (f:=ge pixK 5) cK pK (fun i hi=>ge_lt (l:=pixK) hi) (by decide +kernel) (by decide +kernel)
theorem labcK:LabC 12 (ge pixK 5) cK labK:=⟨rfl,by decide +kernel,by decide +kernel⟩
theorem labrK:LabR 4 3 9 pixK 5 labK:=LabR.yes (w:=4) (n:=12) (by decide +kernel) rfl (labcK.lab lstK)
def blK:List Bb:=[⟨3,0,0,1,1,2,1,2,1,1,27,18,9⟩,⟨2,3,1,3,2,6,3,18,9,5,10,30,15⟩]
theorem blsK:BlsR 4 3 9 pixK 5 blK:=BlsR.yes (w:=4) (n:=12) (by decide +kernel) rfl lstK labcK (by decide +kernel)
def pixH:List Int:=[1,1,1,1,0,1,1,1,1]
theorem holK:HolR 3 3 1 pixH 1 1:=
  HolR.yes (w:=3) (h:=3) (n:=9) (c:=id) (by decide +kernel) rfl
    (Lst.cert (n:=9) (f:=lo pixH 1) id id (fun i hi=>lo_lt (l:=pixH) hi) (by decide +kernel) (by decide +kernel)) (by decide +kernel)
end Go.Proofs.Ytefbbhiaalcjfaa.Fl
namespace Go.Proofs.Ytefbbhiaalcjfaa.Sp
open Go
set_option linter.unusedVariables false
set_option maxRecDepth 100000
set_option maxHeartbeats 8000000
theorem zOe:Con Try.prog 9 [] [] [] (Y:=Unit) (fun y=>True) (fun y=> .bool true) (fun y=>[]) (fun y=>[]):=by
 refine zr Try.func9 rfl rfl rfl (fun c=> ?_)
 show RunC _ _ _ _ _ [] [] []
 refine zi<|zc<|r_pv rfl rfl (zd rfl)<|zj<|ze<|zi<|zc<|zta rfl rfl (zE (enc:=fun z:Int=>[.int .i64 z]) (ok:=InK .i64) (h1:=fun _=>rfl) (h2:=fun _=>rfl) (k:=12) Try.underlying22 inf3 rfl (by decide) (by decide) (by decide) (.c (x:=9) rfl rfl (fun _ _=>by exact zn.2 (by omega)) (.c (x:=9) rfl rfl (fun _ _=>by exact zn.2 (by omega)) (.c (x:=0) rfl rfl (fun _ _=>by exact zn.2 (by omega)) (.c (x:=0) rfl rfl (fun _ _=>by exact zn.2 (by omega)) (.c (x:=0) rfl rfl (fun _ _=>by exact zn.2 (by omega)) (.c (x:=9) rfl rfl (fun _ _=>by exact zn.2 (by omega)) (.c (x:=0) rfl rfl (fun _ _=>by exact zn.2 (by omega)) (.c (x:=5) rfl rfl (fun _ _=>by exact zn.2 (by omega)) (.c (x:=0) rfl rfl (fun _ _=>by exact zn.2 (by omega)) (.c (x:=0) rfl rfl (fun _ _=>by exact zn.2 (by omega)) (.c (x:=0) rfl rfl (fun _ _=>by exact zn.2 (by omega)) (.c (x:=5) rfl rfl (fun _ _=>by exact zn.2 (by omega)) .n))))))))))))) (fun b1 _=> ?_)
 refine r_pv rfl rfl (zK zr24 rfl Try.underlying24 (.c sz3 (.c sz3 (.c sz3 (.c sz22 .n)))) (.c rfl (.c rfl (.c rfl (.c rfl .n)))) (.c rfl rfl rfl (.take .nil) (.c rfl rfl rfl (.skip (.take .nil)) (.c rfl rfl rfl (.skip (.skip (.take .nil))) (.c rfl rfl rfl (.skip (.skip (.skip (.take .nil)))) .n)))))<|zS rfl rfl (zG zr24 rfl) (fun b2=> ?_)
 refine zo 0 rfl rfl rfl rfl rfl sz24 rfl (.take (.take (.take (.take .nil)))) .z<|zj<|ze<|zi<|zc<|r_u rfl rfl (zh 0 ty24 rfl rfl (.take (.take (.take (.take .nil)))))<|zea 1 rfl (.s .z)<|zB rfl rfl (.c rfl (.c rfl .n)) ce11 (zwe (w:=4) (h:=3) (m:=9) (p:=some ⟨b1,0,none⟩) (n:=12) (cap:=12) (l:=[9,9,0,0,0,9,0,5,0,0,0,5]) (th:=5) (hn:=by first|rfl|assumption|omega|decide|(decide +kernel))) (.c (j:=0) rfl .n) ?_
 rintro ⟨p33,c34,oL⟩ hL
 dsimp only [List.append_eq,List.nil_append,List.cons_append]
 replace hL:Fl.LabR 4 3 9 ([9,9,0,0,0,9,0,5,0,0,0,5]) 5 oL:=hL
 have e5:oL=Fl.labK:=by exact hL.uniq Fl.labrK
 subst e5
 have e6:=Fl.ask0.2 (show Bl.rok 4 3 9 ([9,9,0,0,0,9,0,5,0,0,0,5])∧(0:Int)≤5∧(5:Int)≤65536 by decide +kernel)
 rw [e6]
 refine r_pv rfl rfl (zb rfl)<|r_pv rfl rfl (zp rfl rfl)<|r_pv rfl rfl (zp rfl rfl)<|r_pv rfl rfl (zd rfl)<|r_pv rfl rfl (zd rfl)<|zj<|ze<|zi<|zc<|r_u rfl rfl (zh 0 ty24 rfl rfl (.take (.take (.take (.take .nil)))))<|zB rfl rfl (.c rfl (.c rfl .n)) ce17 (zWc (w:=4) (h:=3) (m:=9) (p:=some ⟨b1,0,none⟩) (n:=12) (cap:=12) (l:=[9,9,0,0,0,9,0,5,0,0,0,5]) (th:=5) (hn:=by first|rfl|assumption|omega|decide|(decide +kernel))) (.c (j:=1) rfl .n) ?_
 rintro ⟨p37,c38,aB⟩ hB
 dsimp only [List.append_eq,List.nil_append,List.cons_append]
 replace hB:Fl.BlsR 4 3 9 ([9,9,0,0,0,9,0,5,0,0,0,5]) 5 aB:=hB
 have e9:aB=Fl.blK:=by exact hB.uniq Fl.blsK
 subst e9
 have e10:=Fl.ask0.2 (show Bl.rok 4 3 9 ([9,9,0,0,0,9,0,5,0,0,0,5])∧(0:Int)≤5∧(5:Int)≤65536 by decide +kernel)
 rw [e10]
 refine r_pv rfl rfl (zb rfl)<|r_pv rfl rfl (zp rfl rfl)<|r_pv rfl rfl (zp rfl rfl)<|r_pv rfl rfl (zd rfl)<|r_pv rfl rfl (zd rfl)<|zj<|ze<|zi<|zi<|zc<|r_pv rfl rfl (zb rfl)<|r_pv rfl rfl (zb rfl)<|r_pv rfl rfl (zy (z:=0) rfl rfl (w64 (by decide)))<|r_pv rfl rfl (zIa rfl rfl) ?_
 rw [show false=false from by decide]
 refine r_pv rfl rfl (zb rfl)<|r_pv rfl rfl (zb rfl)<|zta rfl rfl (zE (enc:=fun z:Int=>[.int .i64 z]) (ok:=InK .i64) (h1:=fun _=>rfl) (h2:=fun _=>rfl) (k:=12) Try.underlying22 inf3 rfl (by decide) (by decide) (by decide) (.c (x:=0) rfl rfl (fun _ _=>by exact zn.2 (by omega)) (.c (x:=0) rfl rfl (fun _ _=>by exact zn.2 (by omega)) (.c (x:=(-1)) rfl rfl (fun _ _=>by exact zn.2 (by omega)) (.c (x:=(-1)) rfl rfl (fun _ _=>by exact zn.2 (by omega)) (.c (x:=(-1)) rfl rfl (fun _ _=>by exact zn.2 (by omega)) (.c (x:=0) rfl rfl (fun _ _=>by exact zn.2 (by omega)) (.c (x:=(-1)) rfl rfl (fun _ _=>by exact zn.2 (by omega)) (.c (x:=1) rfl rfl (fun _ _=>by exact zn.2 (by omega)) (.c (x:=(-1)) rfl rfl (fun _ _=>by exact zn.2 (by omega)) (.c (x:=(-1)) rfl rfl (fun _ _=>by exact zn.2 (by omega)) (.c (x:=(-1)) rfl rfl (fun _ _=>by exact zn.2 (by omega)) (.c (x:=1) rfl rfl (fun _ _=>by exact zn.2 (by omega)) .n))))))))))))) (fun b11 _=> ?_)
 refine zea 0 rfl .z<|zO rfl rfl (.c rfl (.c rfl .n)) ce13 (zve (p1:=p33) (n1:=(Fl.labK.length)) (c1:=c34) (l1:=Fl.labK) (p2:=some ⟨b11,0,none⟩) (n2:=12) (c2:=12) (l2:=[0,0,(-1),(-1),(-1),0,(-1),1,(-1),(-1),(-1),1]) (hn1:=by first|rfl|assumption|omega|decide|(decide +kernel)) (hn2:=by first|rfl|assumption|omega|decide|(decide +kernel))) (.c (j:=2) rfl (.c (j:=0) rfl .n)) ?_
 rw [show (decide (Fl.labK=([0,0,(-1),(-1),(-1),0,(-1),1,(-1),(-1),(-1),1])))=true from by decide +kernel]
 refine r_pv rfl rfl (zCb rfl)<|r_pv rfl rfl (zk rfl rfl)<|r_pv rfl rfl (zb rfl)<|r_pv rfl rfl (zb rfl)<|r_pv rfl rfl (zM Try.underlying35 rfl)<|r_pv rfl rfl (zIa rfl rfl) ?_
 rw [show (decide ((((Fl.blK.length):Nat):Int)≠2))=false from by decide +kernel]
 refine r_pv rfl rfl (zk rfl rfl)<|zj<|ze<|zUa rfl rfl<|zA<|ze<|zi<|zc<|r_pv rfl rfl (zb rfl)<|zQ (x0:=(Fl.blK.getD 0 b0)) 1 0 rfl Try.underlying35 sz51 rfl rfl rfl (by first|rfl|assumption|(simp_all;done)|omega) rfl rfl (gD (d:=b0) (by first|omega|decide)) (fun b12 o13 hok14=> ?_)
 obtain ⟨hok140,hok141,hok142,hok143,hok144,hok145,hok146,hok147,hok148,hok149,hok1410,hok1411,hok1412⟩:=hok14
 replace hok140:=zn.1 hok140
 replace hok141:=zn.1 hok141
 replace hok142:=zn.1 hok142
 replace hok143:=zn.1 hok143
 replace hok144:=zn.1 hok144
 replace hok145:=zn.1 hok145
 replace hok146:=zn.1 hok146
 replace hok147:=zn.1 hok147
 replace hok148:=zn.1 hok148
 replace hok149:=zn.1 hok149
 replace hok1410:=zn.1 hok1410
 replace hok1411:=zn.1 hok1411
 replace hok1412:=zn.1 hok1412
 refine r_u rfl rfl (zJa (j:=0) 0 ty51 rfl rfl rfl (.take (.take (.take (.take (.take (.take (.take (.take (.take (.take (.take (.take (.take .nil))))))))))))))<|zB rfl rfl (.c rfl .n) ce19 (zgd (ar:=(Fl.blK.getD 0 b0).ar) (le:=(Fl.blK.getD 0 b0).le) (tp:=(Fl.blK.getD 0 b0).tp) (rt:=(Fl.blK.getD 0 b0).rt) (bt:=(Fl.blK.getD 0 b0).bt) (sx:=(Fl.blK.getD 0 b0).sx) (sy:=(Fl.blK.getD 0 b0).sy) (xx:=(Fl.blK.getD 0 b0).xx) (xy:=(Fl.blK.getD 0 b0).xy) (yy:=(Fl.blK.getD 0 b0).yy) (ms:=(Fl.blK.getD 0 b0).ms) (mx:=(Fl.blK.getD 0 b0).mx) (my:=(Fl.blK.getD 0 b0).my) (hok:=by first|rfl|assumption|omega|decide|(decide +kernel)) (hm:=by first|rfl|assumption|omega|decide|(decide +kernel))) (.n) ?_
 rintro ⟨w315,w416,w517,w618⟩ -
 dsimp only [List.append_eq,List.nil_append,List.cons_append]
 refine r_pv rfl rfl (zb rfl)<|r_pv rfl rfl (zp rfl rfl)<|r_pv rfl rfl (zp rfl rfl)<|zS rfl rfl (zG zr47 rfl) (fun b19=> ?_)
 refine zo 0 rfl rfl rfl rfl rfl sz47 rfl (.take (.take (.take (.take (.take (.take (.take (.take .nil)))))))) .z<|r_pv rfl rfl (zd rfl)<|zj<|ze<|zi<|zc<|r_pv rfl rfl (zb rfl)<|zQ (x0:=(Fl.blK.getD 0 b0)) 4 0 rfl Try.underlying35 sz51 rfl rfl rfl (by first|rfl|assumption|(simp_all;done)|omega) rfl rfl (gD (d:=b0) (by first|omega|decide)) (fun b20 o21 hok22=> ?_)
 obtain ⟨hok220,hok221,hok222,hok223,hok224,hok225,hok226,hok227,hok228,hok229,hok2210,hok2211,hok2212⟩:=hok22
 replace hok220:=zn.1 hok220
 replace hok221:=zn.1 hok221
 replace hok222:=zn.1 hok222
 replace hok223:=zn.1 hok223
 replace hok224:=zn.1 hok224
 replace hok225:=zn.1 hok225
 replace hok226:=zn.1 hok226
 replace hok227:=zn.1 hok227
 replace hok228:=zn.1 hok228
 replace hok229:=zn.1 hok229
 replace hok2210:=zn.1 hok2210
 replace hok2211:=zn.1 hok2211
 replace hok2212:=zn.1 hok2212
 refine r_u rfl rfl (zJa (j:=0) 0 ty51 rfl rfl rfl (.take (.take (.take (.take (.take (.take (.take (.take (.take (.take (.take (.take (.take .nil))))))))))))))<|zB rfl rfl (.c rfl .n) ce23 (zIc (ar:=(Fl.blK.getD 0 b0).ar) (le:=(Fl.blK.getD 0 b0).le) (tp:=(Fl.blK.getD 0 b0).tp) (rt:=(Fl.blK.getD 0 b0).rt) (bt:=(Fl.blK.getD 0 b0).bt) (sx:=(Fl.blK.getD 0 b0).sx) (sy:=(Fl.blK.getD 0 b0).sy) (xx:=(Fl.blK.getD 0 b0).xx) (xy:=(Fl.blK.getD 0 b0).xy) (yy:=(Fl.blK.getD 0 b0).yy) (ms:=(Fl.blK.getD 0 b0).ms) (mx:=(Fl.blK.getD 0 b0).mx) (my:=(Fl.blK.getD 0 b0).my) (hok:=by first|rfl|assumption|omega|decide|(decide +kernel))) (.n) ?_
 rintro ⟨w323,w424,w525,w626,w727,w828⟩ -
 dsimp only [List.append_eq,List.nil_append,List.cons_append]
 refine r_pv rfl rfl (zb rfl)<|r_pv rfl rfl (zp rfl rfl)<|r_pv rfl rfl (zp rfl rfl)<|r_pv rfl rfl (zp rfl rfl)<|r_pv rfl rfl (zp rfl rfl)<|zS rfl rfl (zG zr45 rfl) (fun b29=> ?_)
 refine zS rfl rfl (zG zr45 rfl) (fun b30=> ?_)
 refine zS rfl rfl (zG zr45 rfl) (fun b31=> ?_)
 refine zo 2 rfl rfl rfl rfl rfl sz45 rfl (.take (.take (.take (.take .nil)))) (.s (.s .z))<|zo 1 rfl rfl rfl rfl rfl sz45 rfl (.take (.take (.take (.take .nil)))) (.s .z)<|zo 0 rfl rfl rfl rfl rfl sz45 rfl (.take (.take (.take (.take .nil)))) .z<|r_pv rfl rfl (zd rfl)<|zj<|ze<|zi<|zc<|zta rfl rfl (zE (enc:=fun z:Int=>[.int .i64 z]) (ok:=InK .i64) (h1:=fun _=>rfl) (h2:=fun _=>rfl) (k:=9) Try.underlying22 inf3 rfl (by decide) (by decide) (by decide) (.c (x:=1) rfl rfl (fun _ _=>by exact zn.2 (by omega)) (.c (x:=1) rfl rfl (fun _ _=>by exact zn.2 (by omega)) (.c (x:=1) rfl rfl (fun _ _=>by exact zn.2 (by omega)) (.c (x:=1) rfl rfl (fun _ _=>by exact zn.2 (by omega)) (.c (x:=0) rfl rfl (fun _ _=>by exact zn.2 (by omega)) (.c (x:=1) rfl rfl (fun _ _=>by exact zn.2 (by omega)) (.c (x:=1) rfl rfl (fun _ _=>by exact zn.2 (by omega)) (.c (x:=1) rfl rfl (fun _ _=>by exact zn.2 (by omega)) (.c (x:=1) rfl rfl (fun _ _=>by exact zn.2 (by omega)) .n)))))))))) (fun b32 _=> ?_)
 refine r_pv rfl rfl (zK zr24 rfl Try.underlying24 (.c sz3 (.c sz3 (.c sz3 (.c sz22 .n)))) (.c rfl (.c rfl (.c rfl (.c rfl .n)))) (.c rfl rfl rfl (.take .nil) (.c rfl rfl rfl (.skip (.take .nil)) (.c rfl rfl rfl (.skip (.skip (.take .nil))) (.c rfl rfl rfl (.skip (.skip (.skip (.take .nil)))) .n)))))<|zea 0 rfl .z<|zB rfl rfl (.c rfl (.c rfl .n)) ce14 (zVc (w:=3) (h:=3) (m:=1) (p:=some ⟨b32,0,none⟩) (n:=9) (cap:=9) (l:=[1,1,1,1,0,1,1,1,1]) (th:=1) (hn:=by first|rfl|assumption|omega|decide|(decide +kernel))) (.c (j:=0) rfl .n) ?_
 rintro zH hH
 dsimp only [List.append_eq,List.nil_append,List.cons_append]
 replace hH:Fl.HolR 3 3 1 ([1,1,1,1,0,1,1,1,1]) 1 zH:=hH
 have e33:zH=1:=by exact hH.uniq Fl.holK
 subst e33
 have e34:=Fl.ask0.2 (show Bl.rok 3 3 1 ([1,1,1,1,0,1,1,1,1])∧(0:Int)≤1∧(1:Int)≤65536 by decide +kernel)
 rw [e34]
 refine r_pv rfl rfl (zb rfl)<|r_pv rfl rfl (zp rfl rfl)<|r_pv rfl rfl (zp rfl rfl)<|r_pv rfl rfl (zd rfl)<|r_pv rfl rfl (zd rfl)<|zj<|ze<|zi<|zc<|zB rfl rfl (.c rfl (.c rfl .n)) ce32 (zzc (z1:=7) (z2:=6) (hz1:=by first|rfl|assumption|omega|decide|(decide +kernel)) (hz2:=by first|rfl|assumption|omega|decide|(decide +kernel)) (hy:=by first|rfl|assumption|omega|decide|(decide +kernel))) (.n) ?_
 rintro ⟨w335,w436⟩ -
 dsimp only [List.append_eq,List.nil_append,List.cons_append]
 refine r_pv rfl rfl (zb rfl)<|r_pv rfl rfl (zp rfl rfl)<|r_pv rfl rfl (zp rfl rfl)<|zS rfl rfl (zG zr45 rfl) (fun b37=> ?_)
 refine zo 0 rfl rfl rfl rfl rfl sz45 rfl (.take (.take (.take (.take .nil)))) .z<|r_pv rfl rfl (zd rfl)<|zj<|ze<|zi<|zc<|zB rfl rfl (.c rfl (.c rfl .n)) ce32 (zzc (z1:=2) (z2:=9) (hz1:=by first|rfl|assumption|omega|decide|(decide +kernel)) (hz2:=by first|rfl|assumption|omega|decide|(decide +kernel)) (hy:=by first|rfl|assumption|omega|decide|(decide +kernel))) (.n) ?_
 rintro ⟨w338,w439⟩ -
 dsimp only [List.append_eq,List.nil_append,List.cons_append]
 refine r_pv rfl rfl (zb rfl)<|r_pv rfl rfl (zp rfl rfl)<|r_pv rfl rfl (zp rfl rfl)<|zS rfl rfl (zG zr45 rfl) (fun b40=> ?_)
 refine zo 0 rfl rfl rfl rfl rfl sz45 rfl (.take (.take (.take (.take .nil)))) .z<|r_pv rfl rfl (zd rfl)<|zj<|ze<|zi<|zc<|r_pv rfl rfl (zb rfl)<|r_pv rfl rfl (zb rfl)<|r_pv rfl rfl (zy (z:=0) rfl rfl (w64 (by decide)))<|r_pv rfl rfl (zb rfl)<|r_pv rfl rfl (zy (z:=0) rfl rfl (w64 (by decide)))<|r_pv rfl rfl (zua rfl rfl) ?_
 rw [show true=true from by decide]
 refine r_pv rfl rfl (zb rfl)<|r_pv rfl rfl (zb rfl)<|r_pv rfl rfl (zua rfl rfl) ?_
 rw [show true=true from by decide]
 refine r_pv rfl rfl (zk rfl rfl)<|r_pv rfl rfl (zb rfl)<|r_pv rfl rfl (zg Try.underlying47 rfl sz45 rfl rfl)<|r_u rfl rfl (zh 6 ty45 rfl rfl (.take (.take (.take (.take .nil)))))<|r_u rfl rfl (zh 1 ty45 rfl rfl (.take (.take (.take (.take .nil)))))<|zO rfl rfl (.c rfl (.c rfl .n)) ce20 (zob (u1:=w315) (v1:=w416) (q1:=Rat.divInt (2*((Fl.blK.getD 0 b0).mx)+((Fl.blK.getD 0 b0).ms)) (2*((Fl.blK.getD 0 b0).ms))) (u2:=w335) (v2:=w436) (q2:=Rat.divInt 7 6) (hl:=by first|rfl|assumption|omega|decide|(decide +kernel))) (.c (j:=7) rfl (.c (j:=1) rfl .n)) ?_
 rw [show (decide ((Rat.divInt (2*((Fl.blK.getD 0 b0).mx)+((Fl.blK.getD 0 b0).ms)) (2*((Fl.blK.getD 0 b0).ms)))=(Rat.divInt 7 6)))=true from by decide +kernel]
 refine r_pv rfl rfl (zk rfl rfl)<|r_pv rfl rfl (zb rfl)<|r_u rfl rfl (zh 5 ty45 rfl rfl (.take (.take (.take (.take .nil)))))<|r_u rfl rfl (zh 0 ty45 rfl rfl (.take (.take (.take (.take .nil)))))<|zO rfl rfl (.c rfl (.c rfl .n)) ce20 (zob (u1:=w323) (v1:=w424) (q1:=Rat.divInt (((Fl.blK.getD 0 b0).xx)*((Fl.blK.getD 0 b0).ar) - ((Fl.blK.getD 0 b0).sx)*((Fl.blK.getD 0 b0).sx)) (((Fl.blK.getD 0 b0).ar)*((Fl.blK.getD 0 b0).ar))) (u2:=w338) (v2:=w439) (q2:=Rat.divInt 2 9) (hl:=by first|rfl|assumption|omega|decide|(decide +kernel))) (.c (j:=3) rfl (.c (j:=0) rfl .n)) ?_
 rw [show (decide ((Rat.divInt (((Fl.blK.getD 0 b0).xx)*((Fl.blK.getD 0 b0).ar) - ((Fl.blK.getD 0 b0).sx)*((Fl.blK.getD 0 b0).sx)) (((Fl.blK.getD 0 b0).ar)*((Fl.blK.getD 0 b0).ar)))=(Rat.divInt 2 9)))=true from by decide +kernel]
 refine r_pv rfl rfl (zk rfl rfl)<|r_pv rfl rfl (zb rfl)<|r_u rfl rfl (zh 3 ty45 rfl rfl (.take (.take (.take (.take .nil)))))<|r_u rfl rfl (zh 0 ty45 rfl rfl (.take (.take (.take (.take .nil)))))<|zO rfl rfl (.c rfl (.c rfl .n)) ce20 (zob (u1:=w727) (v1:=w828) (q1:=Rat.divInt (((Fl.blK.getD 0 b0).yy)*((Fl.blK.getD 0 b0).ar) - ((Fl.blK.getD 0 b0).sy)*((Fl.blK.getD 0 b0).sy)) (((Fl.blK.getD 0 b0).ar)*((Fl.blK.getD 0 b0).ar))) (u2:=w338) (v2:=w439) (q2:=Rat.divInt 2 9) (hl:=by first|rfl|assumption|omega|decide|(decide +kernel))) (.c (j:=5) rfl (.c (j:=0) rfl .n)) ?_
 rw [show (decide ((Rat.divInt (((Fl.blK.getD 0 b0).yy)*((Fl.blK.getD 0 b0).ar) - ((Fl.blK.getD 0 b0).sy)*((Fl.blK.getD 0 b0).sy)) (((Fl.blK.getD 0 b0).ar)*((Fl.blK.getD 0 b0).ar)))=(Rat.divInt 2 9)))=true from by decide +kernel]
 refine r_pv rfl rfl (zk rfl rfl)<|r_pv rfl rfl (zb rfl)<|r_pv rfl rfl (zb rfl)<|zQ (x0:=(Fl.blK.getD 0 b0)) 11 0 rfl Try.underlying35 sz51 rfl rfl rfl (by first|rfl|assumption|(simp_all;done)|omega) rfl rfl (gD (d:=b0) (by first|omega|decide)) (fun b41 o42 hok43=> ?_)
 obtain ⟨hok430,hok431,hok432,hok433,hok434,hok435,hok436,hok437,hok438,hok439,hok4310,hok4311,hok4312⟩:=hok43
 replace hok430:=zn.1 hok430
 replace hok431:=zn.1 hok431
 replace hok432:=zn.1 hok432
 replace hok433:=zn.1 hok433
 replace hok434:=zn.1 hok434
 replace hok435:=zn.1 hok435
 replace hok436:=zn.1 hok436
 replace hok437:=zn.1 hok437
 replace hok438:=zn.1 hok438
 replace hok439:=zn.1 hok439
 replace hok4310:=zn.1 hok4310
 replace hok4311:=zn.1 hok4311
 replace hok4312:=zn.1 hok4312
 refine r_u rfl rfl (zJa (j:=0) 0 ty51 rfl rfl rfl (.take (.take (.take (.take (.take (.take (.take (.take (.take (.take (.take (.take (.take .nil))))))))))))))<|r_pv rfl rfl (zK zr51 rfl Try.underlying51 (.c sz3 (.c sz3 (.c sz3 (.c sz3 (.c sz3 (.c sz3 (.c sz3 (.c sz3 (.c sz3 (.c sz3 (.c sz3 (.c sz3 (.c sz3 .n))))))))))))) (.c rfl (.c rfl (.c rfl (.c rfl (.c rfl (.c rfl (.c rfl (.c rfl (.c rfl (.c rfl (.c rfl .n))))))))))) (.c rfl rfl rfl (.take .nil) (.c rfl rfl rfl (.skip (.skip (.skip (.take .nil)))) (.c rfl rfl rfl (.skip (.skip (.skip (.skip (.take .nil))))) (.c rfl rfl rfl (.skip (.skip (.skip (.skip (.skip (.take .nil)))))) (.c rfl rfl rfl (.skip (.skip (.skip (.skip (.skip (.skip (.take .nil))))))) (.c rfl rfl rfl (.skip (.skip (.skip (.skip (.skip (.skip (.skip (.take .nil)))))))) (.c rfl rfl rfl (.skip (.skip (.skip (.skip (.skip (.skip (.skip (.skip (.take .nil))))))))) (.c rfl rfl rfl (.skip (.skip (.skip (.skip (.skip (.skip (.skip (.skip (.skip (.take .nil)))))))))) (.c rfl rfl rfl (.skip (.skip (.skip (.skip (.skip (.skip (.skip (.skip (.skip (.skip (.take .nil))))))))))) (.c rfl rfl rfl (.skip (.skip (.skip (.skip (.skip (.skip (.skip (.skip (.skip (.skip (.skip (.take .nil)))))))))))) (.c rfl rfl rfl (.skip (.skip (.skip (.skip (.skip (.skip (.skip (.skip (.skip (.skip (.skip (.skip (.take .nil))))))))))))) .n))))))))))))<|r_pv rfl rfl (zQd (p:=(Fl.blK.getD 0 b0).ar=3∧(Fl.blK.getD 0 b0).le=0∧(Fl.blK.getD 0 b0).tp=0∧(Fl.blK.getD 0 b0).rt=1∧(Fl.blK.getD 0 b0).bt=1∧(Fl.blK.getD 0 b0).sx=2∧(Fl.blK.getD 0 b0).sy=1∧(Fl.blK.getD 0 b0).xx=2∧(Fl.blK.getD 0 b0).xy=1∧(Fl.blK.getD 0 b0).yy=1∧(Fl.blK.getD 0 b0).ms=27∧(Fl.blK.getD 0 b0).mx=18∧(Fl.blK.getD 0 b0).my=9) (by kernel_rfl) rfl rfl (zPd Try.underlying51 (by kernel_rfl) (zSa (by decide) ty3 rfl rfl (zRa Try.underlying3) (zSa (by decide) ty3 rfl rfl (zRa Try.underlying3) (zSa (by decide) ty3 rfl rfl (zRa Try.underlying3) (zSa (by decide) ty3 rfl rfl (zRa Try.underlying3) (zSa (by decide) ty3 rfl rfl (zRa Try.underlying3) (zSa (by decide) ty3 rfl rfl (zRa Try.underlying3) (zSa (by decide) ty3 rfl rfl (zRa Try.underlying3) (zSa (by decide) ty3 rfl rfl (zRa Try.underlying3) (zSa (by decide) ty3 rfl rfl (zRa Try.underlying3) (zSa (by decide) ty3 rfl rfl (zRa Try.underlying3) (zSa (by decide) ty3 rfl rfl (zRa Try.underlying3) (zSa (by decide) ty3 rfl rfl (zRa Try.underlying3) (zSa (by decide) ty3 rfl rfl (zRa Try.underlying3) znf)))))))))))))) (by simp [Bool.decide_and])) ?_
 rw [show (decide ((Fl.blK.getD 0 b0).ar=3∧(Fl.blK.getD 0 b0).le=0∧(Fl.blK.getD 0 b0).tp=0∧(Fl.blK.getD 0 b0).rt=1∧(Fl.blK.getD 0 b0).bt=1∧(Fl.blK.getD 0 b0).sx=2∧(Fl.blK.getD 0 b0).sy=1∧(Fl.blK.getD 0 b0).xx=2∧(Fl.blK.getD 0 b0).xy=1∧(Fl.blK.getD 0 b0).yy=1∧(Fl.blK.getD 0 b0).ms=27∧(Fl.blK.getD 0 b0).mx=18∧(Fl.blK.getD 0 b0).my=9))=true from by decide +kernel]
 refine r_pv rfl rfl (zk rfl rfl)<|r_pv rfl rfl (zd rfl)<|zj<|ze<|zI ?_
 exact zC Try.results9 () trivial (zq rfl) rfl (ho:=(.n:PickO _ _ _)) (.n:SelR _ _ _)
end Go.Proofs.Ytefbbhiaalcjfaa.Sp
namespace Go.Proofs.Ytefbbhiaalcjfaa.Sp
open Go
set_option linter.unusedVariables false
set_option maxRecDepth 100000
set_option maxHeartbeats 8000000
theorem zyf {w:Int} {h:Int} {m:Int} {p:Option Addr} {n:Nat} {cap:Nat} {l:List Int} (hn:l.length=n):Con Try.prog 10 [.agg #[.int .i64 w,.int .i64 h,.int .i64 m,.slice p n cap]] [] [slF (rI .i64) p cap l] (Y:=Unit) (fun y=>True) (fun y=> .bool (decide (((n:Nat):Int)≤200))) (fun y=>[]) (fun y=>[]):=by
 refine zr Try.func10 rfl rfl rfl (fun c=> ?_)
 show RunC _ _ _ _ _ [(0,.agg #[.int .i64 w,.int .i64 h,.int .i64 m,.slice p n cap])] [] [slF (rI .i64) p cap l]
 refine zca 0 rfl (fun hL0=> ?_)
 refine zi<|zc<|zS rfl rfl (zX rfl rfl) (fun b1=> ?_)
 refine r_pv rfl rfl (zd rfl)<|zj<|ze<|zi<|zc<|r_pv rfl rfl (zg Try.underlying24 rfl sz22 rfl rfl)<|r_u rfl rfl (zf 0 ty22 rfl rfl rfl)<|r_pv rfl rfl (zM Try.underlying22 rfl)<|r_pv rfl rfl (zqc rfl rfl)<|r_pv rfl rfl (zd rfl)<|zj<|ze<|zI ?_
 exact zC Try.results10 () trivial (zq rfl) rfl (ho:=(.n:PickO _ _ _)) (.n:SelR _ _ _)
end Go.Proofs.Ytefbbhiaalcjfaa.Sp
namespace Go.Proofs.Ytefbbhiaalcjfaa.Eu
set_option linter.unusedVariables false
set_option linter.unusedSectionVars false
section
variable {α β : Type}
theorem nd_len [DecidableEq α] {I:List α}:∀{O:List α},I.Nodup→(∀x∈I,x∈O)→I.length≤O.length:=by
  induction I with
  |nil=>intro O _ _;exact Nat.zero_le _
  |cons a I ih=>
    intro O hn hs
    obtain ⟨h1,h2⟩:=List.nodup_cons.1 hn
    have ha:=hs a (List.mem_cons_self ..)
    have h3:=ih (O:=O.erase a) h2 fun x hx=>(List.mem_erase_of_ne (fun e=>h1 (by subst e;exact hx))).2 (hs x (List.mem_cons_of_mem _ hx))
    rw [List.length_erase_of_mem ha] at h3
    have:=List.length_pos_of_mem ha
    rw [List.length_cons];omega
theorem nd_map {l:List α} {f:α→β} (hl:l.Nodup) (hf:∀a∈l,∀b∈l,f a=f b→a=b):(l.map f).Nodup:=by
  induction l with
  |nil=>exact List.nodup_nil
  |cons a l ih=>
    obtain ⟨h1,h2⟩:=List.nodup_cons.1 hl
    rw [List.map_cons]
    refine List.nodup_cons.2 ⟨fun hm=> ?_,ih h2 fun x hx y hy=>hf x (List.mem_cons_of_mem _ hx) y (List.mem_cons_of_mem _ hy)⟩
    obtain ⟨b,hb,e⟩:=List.mem_map.1 hm
    exact h1 ((hf b (List.mem_cons_of_mem _ hb) a (List.mem_cons_self ..) e) ▸ hb)
inductive Cn (E:List (α×α)):α→α→Prop
  |refl (a:α):Cn E a a
  |step {a b c:α}:(a,b)∈E∨(b,a)∈E→Cn E b c→Cn E a c
variable {E F : List (α × α)}
theorem Cn.trans {a b c:α} (h:Cn E a b) (k:Cn E b c):Cn E a c:=by
  induction h with
  |refl=>exact k
  |step x _ ih=>exact .step x (ih k)
theorem Cn.one {a b:α} (h:(a,b)∈E):Cn E a b:= .step (.inl h) (.refl _)
theorem Cn.symm {a b:α} (h:Cn E a b):Cn E b a:=by
  induction h with
  |refl=>exact .refl _
  |step x _ ih=>exact ih.trans (.step x.symm (.refl _))
theorem Cn.mono {a b:α} (hs:∀e∈E,e∈F) (h:Cn E a b):Cn F a b:=by
  induction h with
  |refl=>exact .refl _
  |step x _ ih=>exact .step (x.imp (hs _) (hs _)) ih
theorem Cn.const {γ:Type} {f:α→γ} (hf:∀e∈E,f e.1=f e.2) {a b:α} (h:Cn E a b):f a=f b:=by
  induction h with
  |refl=>rfl
  |step x _ ih=>exact (x.elim (fun k=>hf _ k) (fun k=>(hf _ k).symm)).trans ih
theorem Cn.cons {e:α×α} {a b:α} (h:Cn (e :: E) a b):Cn E a b∨(Cn E a e.1∧Cn E e.2 b)∨(Cn E a e.2∧Cn E e.1 b):=by
  induction h with
  |refl=>exact .inl (.refl _)
  | @step a b c x k ih=>
    have hx:(a,b)=e∨(b,a)=e∨Cn E a b:=by
      rcases x with x|x
      · rcases List.mem_cons.1 x with x | x
        · exact .inl x
        · exact .inr (.inr (.one x))
      · rcases List.mem_cons.1 x with x | x
        · exact .inr (.inl x)
        · exact .inr (.inr (Cn.one x).symm)
    rcases hx with rfl|rfl|hx
    · rcases ih with ih | ⟨i1, i2⟩ | ⟨i1, i2⟩
      · exact .inr (.inl ⟨.refl _,ih⟩)
      · exact .inr (.inl ⟨.refl _,i2⟩)
      · exact .inl i2
    · rcases ih with ih | ⟨i1, i2⟩ | ⟨i1, i2⟩
      · exact .inr (.inr ⟨.refl _,ih⟩)
      · exact .inl i2
      · exact .inr (.inr ⟨.refl _,i2⟩)
    · rcases ih with ih | ⟨i1, i2⟩ | ⟨i1, i2⟩
      · exact .inl (hx.trans ih)
      · exact .inr (.inl ⟨hx.trans i1,i2⟩)
      · exact .inr (.inr ⟨hx.trans i1,i2⟩)
structure Tv (E:List (α×α)) (V R:List α):Prop where
  nd:R.Nodup
  sub:∀r∈R,r∈V
  cov:∀v∈V,∃r∈R,Cn E v r
  ind:∀r∈R,∀s∈R,Cn E r s→r=s
theorem Tv.le [DecidableEq α] {V R S:List α} (h:Tv E V R) (k:Tv E V S):R.length≤S.length:=by
  have hx:∀r:α,∃s:α,r∈R→s∈S∧Cn E r s:=fun r=>by
    by_cases hr:r∈R
    · obtain ⟨s,a,b⟩:=k.cov r (h.sub r hr);exact ⟨s,fun _=>⟨a,b⟩⟩
    · exact ⟨r,fun c=>absurd c hr⟩
  let f:=fun r=>Classical.choose (hx r)
  have hf:∀r,r∈R→f r∈S∧Cn E r (f r):=fun r=>Classical.choose_spec (hx r)
  have:=nd_len (I:=R.map f) (O:=S) (nd_map h.nd fun a ha b hb e=>h.ind a ha b hb ((hf a ha).2.trans (e ▸ (hf b hb).2.symm))) fun x hx=>by
    obtain ⟨r,hr,rfl⟩:=List.mem_map.1 hx;exact (hf r hr).1
  rwa [List.length_map] at this
theorem Tv.len [DecidableEq α] {V R S:List α} (h:Tv E V R) (k:Tv E V S):R.length=S.length:=Nat.le_antisymm (h.le k) (k.le h)
theorem Tv.nil {V:List α} (h:V.Nodup):Tv [] V V:=⟨h,fun _ h=>h,fun v hv=>⟨v,hv,.refl _⟩,fun r _ s _ k=>by
  cases k with
  |refl=>rfl
  |step x _=>simp at x⟩
theorem Tv.congr {V R:List α} (h:Tv E V R) (he:∀e,e∈E↔e∈F):Tv F V R:=
  ⟨h.nd,h.sub,fun v hv=>let ⟨r,a,b⟩:=h.cov v hv;⟨r,a,b.mono fun e k=>(he e).1 k⟩,fun r hr s hs k=>h.ind r hr s hs (k.mono fun e k=>(he e).2 k)⟩
theorem Tv.same {V R:List α} {e:α×α} (h:Tv E V R) (hc:Cn E e.1 e.2):Tv (e :: E) V R:=
  ⟨h.nd,h.sub,fun v hv=>let ⟨r,a,b⟩:=h.cov v hv;⟨r,a,b.mono fun e k=>List.mem_cons_of_mem _ k⟩,fun r hr s hs k=>h.ind r hr s hs (by
    rcases k.cons with k|⟨a,b⟩|⟨a,b⟩
    · exact k
    · exact a.trans (hc.trans b)
    · exact a.trans (hc.symm.trans b))⟩
theorem Tv.join [DecidableEq α] {V R:List α} {e:α×α} (h:Tv E V R) (h1:e.1∈V) (h2:e.2∈V) (hc:¬Cn E e.1 e.2):∃S,Tv (e :: E) V S∧S.length+1=R.length:=by
  obtain ⟨r1,a1,b1⟩:=h.cov _ h1
  obtain ⟨r2,a2,b2⟩:=h.cov _ h2
  have hne:r2≠r1:=fun x=>hc (b1.trans (by subst x;exact b2.symm))
  have up:∀{a b:α},Cn E a b→Cn (e :: E) a b:=fun k=>k.mono fun e k=>List.mem_cons_of_mem _ k
  have he:Cn (e :: E) e.1 e.2:= .one (List.mem_cons_self ..)
  refine ⟨R.erase r1,⟨h.nd.erase _,fun r hr=>h.sub r (List.mem_of_mem_erase hr),fun v hv=> ?_,fun r hr s hs k=> ?_⟩,?_⟩
  · obtain ⟨r, a, b⟩ := h.cov v hv
    by_cases hx:r=r1
    · subst hx
      exact ⟨r2,(List.mem_erase_of_ne hne).2 a2,(up b).trans ((up b1).symm.trans (he.trans (up b2)))⟩
    · exact ⟨r,(List.mem_erase_of_ne hx).2 a,up b⟩
  · have hr1 := (h.nd.mem_erase_iff.1 hr)
    have hs1:=(h.nd.mem_erase_iff.1 hs)
    rcases k.cons with k|⟨a,b⟩|⟨a,b⟩
    · exact h.ind r hr1.2 s hs1.2 k
    · exact absurd (h.ind r hr1.2 r1 a1 (a.trans b1)) hr1.1
    · exact absurd (h.ind s hs1.2 r1 a1 (b.symm.trans b1)) hs1.1
  · rw [List.length_erase_of_mem a1]
    have:=List.length_pos_of_mem a1
    omega
theorem Tv.ex [DecidableEq α] {V:List α} (hV:V.Nodup):∀(E:List (α×α)),(∀e∈E,e.1∈V∧e.2∈V)→∃R,Tv E V R
  |[],_=>⟨V,Tv.nil hV⟩
  |e :: E,h=>by
    obtain ⟨R,k⟩:=Tv.ex hV E fun x hx=>h x (List.mem_cons_of_mem _ hx)
    obtain ⟨h1,h2⟩:=h e (List.mem_cons_self ..)
    by_cases hc:Cn E e.1 e.2
    · exact ⟨R,k.same hc⟩
    · obtain ⟨S,a,_⟩:=k.join h1 h2 hc;exact ⟨S,a⟩
end
section
variable {α β : Type} [DecidableEq α] [DecidableEq β]
abbrev DL (α β:Type):=List ((α×α)×(β×β))
def pr (L:DL α β):List (α×α):=L.map (·.1)
def du (L:DL α β):List (β×β):=L.map (·.2)
def bil (X:α→Int) (D:β→Int) (L:DL α β):Int:=(L.map fun e=>(X e.1.2 - X e.1.1)*(D e.2.2 - D e.2.1)).sum
theorem bil_zero {X:α→Int} {D:β→Int} {L:DL α β} (h:∀e∈L,X e.1.2=X e.1.1∨D e.2.2=D e.2.1):bil X D L=0:=by
  unfold bil
  induction L with
  |nil=>rfl
  |cons e L ih=>
    rw [List.map_cons,List.sum_cons,ih fun x hx=>h x (List.mem_cons_of_mem _ hx)]
    rcases h e (List.mem_cons_self ..) with k|k <;> rw [k] <;> simp
theorem bil_append (X:α→Int) (D:β→Int) (A B:DL α β):bil X D (A++B)=bil X D A+bil X D B:=by
  unfold bil;rw [List.map_append,List.sum_append]
theorem not_both {A B:DL α β} {e:(α×α)×(β×β)} (hb:∀X D,bil X D (A++e :: B)=0) (h1:¬Cn (pr A) e.1.1 e.1.2) (h2:¬Cn (du B) e.2.1 e.2.2):False:=by
  classical
  let X:α→Int:=fun a=>if Cn (pr A) e.1.1 a then 1 else 0
  let D:β→Int:=fun b=>if Cn (du B) e.2.1 b then 1 else 0
  have h:=hb X D
  have hA:bil X D A=0:=bil_zero fun x hx=> .inl (by
    have hm:Cn (pr A) x.1.1 x.1.2:= .one (List.mem_map.2 ⟨x,hx,rfl⟩)
    have:Cn (pr A) e.1.1 x.1.2↔Cn (pr A) e.1.1 x.1.1:=⟨fun k=>k.trans hm.symm,fun k=>k.trans hm⟩
    simp only [X,this])
  have hB:bil X D B=0:=bil_zero fun x hx=> .inr (by
    have hm:Cn (du B) x.2.1 x.2.2:= .one (List.mem_map.2 ⟨x,hx,rfl⟩)
    have:Cn (du B) e.2.1 x.2.2↔Cn (du B) e.2.1 x.2.1:=⟨fun k=>k.trans hm.symm,fun k=>k.trans hm⟩
    simp only [D,this])
  have he:bil X D (e :: B)=(X e.1.2 - X e.1.1)*(D e.2.2 - D e.2.1)+bil X D B:=by unfold bil;rw [List.map_cons,List.sum_cons]
  rw [bil_append,hA,he,hB] at h
  have x1:X e.1.1=1:=if_pos (Cn.refl _)
  have x2:X e.1.2=0:=if_neg h1
  have d1:D e.2.1=1:=if_pos (Cn.refl _)
  have d2:D e.2.2=0:=if_neg h2
  rw [x1,x2,d1,d2] at h
  omega
structure Pln (V:List α) (W:List β) (L:DL α β):Prop where
  ndV:V.Nodup
  ndW:W.Nodup
  inV:∀e∈L,e.1.1∈V∧e.1.2∈V
  inW:∀e∈L,e.2.1∈W∧e.2.2∈W
  bil:∀X D,bil X D L=0
  oneV:∃r∈V,∀v∈V,Cn (pr L) v r
  oneW:∃r∈W,∀v∈W,Cn (du L) v r
  cnt:V.length+W.length=L.length+2
theorem bil_perm {L M:DL α β} (h:L.Perm M) (X:α→Int) (D:β→Int):bil X D L=bil X D M:=by
  unfold bil
  induction h with
  |nil=>rfl
  |cons x _ ih=>simp only [List.map_cons,List.sum_cons,ih]
  |swap x y _=>simp only [List.map_cons,List.sum_cons];omega
  |trans _ _ i1 i2=>exact i1.trans i2
theorem mem_pr {A B:DL α β} (h:A.Perm B) (e:α×α):e∈pr A↔e∈pr B:=(h.map _).mem_iff
theorem mem_du {A B:DL α β} (h:A.Perm B) (e:β×β):e∈du A↔e∈du B:=(h.map _).mem_iff
variable {V : List α} {W : List β} {L : DL α β}
theorem Pln.exV (h:Pln V W L) {A B:DL α β} (hp:(A++B).Perm L):∃R,Tv (pr A) V R:=Tv.ex h.ndV _ fun e he=>by
  obtain ⟨x,hx,rfl⟩:=List.mem_map.1 he
  exact h.inV x (hp.mem_iff.1 (List.mem_append_left _ hx))
theorem Pln.exW (h:Pln V W L) {A B:DL α β} (hp:(A++B).Perm L):∃R,Tv (du B) W R:=Tv.ex h.ndW _ fun e he=>by
  obtain ⟨x,hx,rfl⟩:=List.mem_map.1 he
  exact h.inW x (hp.mem_iff.1 (List.mem_append_right _ hx))
theorem Pln.step (h:Pln V W L) {A B:DL α β} {e:(α×α)×(β×β)} (hp:(A++e :: B).Perm L) {R R2:List α} {Q Q2:List β} (a:Tv (pr A) V R) (b:Tv (du (e :: B)) W Q) (c:Tv (pr (e :: A)) V R2) (d:Tv (du B) W Q2):
    R.length+Q2.length≤R2.length+1+Q.length:=by
  have hm:e∈L:=hp.mem_iff.1 (by simp)
  have hb:∀X D,Eu.bil X D (A++e :: B)=0:=fun X D=>by rw [bil_perm hp];exact h.bil X D
  by_cases k1:Cn (pr A) e.1.1 e.1.2
  · have e1 := (a.same (e := e.1) k1).len c
    by_cases k2:Cn (du B) e.2.1 e.2.2
    · have e2:=(d.same (e:=e.2) k2).len b;omega
    · obtain ⟨S, s1, s2⟩ := d.join (e := e.2) (h.inW e hm).1 (h.inW e hm).2 k2
      have e2:=s1.len b;omega
  · obtain ⟨S, s1, s2⟩ := a.join (e := e.1) (h.inV e hm).1 (h.inV e hm).2 k1
    have e1:=s1.len c
    by_cases k2:Cn (du B) e.2.1 e.2.2
    · have e2:=(d.same (e:=e.2) k2).len b;omega
    · exact (not_both hb k1 k2).elim
theorem Pln.up (h:Pln V W L):∀(B A:DL α β),(A++B).Perm L→∀{R:List α} {Q:List β},Tv (pr A) V R→Tv (du B) W Q→R.length+A.length+W.length≤1+L.length+Q.length
  |[],A,hp,R,Q,a,b=>by
    have hA:A.Perm L:=by simpa using hp
    have h1:=b.len (Tv.nil h.ndW)
    obtain ⟨r,hr,hc⟩:=h.oneV
    have h2:R.length=1:=a.len (S:=[r]) ⟨by simp,fun x hx=>by rw [List.mem_singleton] at hx;subst hx;exact hr,fun v hv=>⟨r,by simp,(hc v hv).mono fun e k=>(mem_pr hA e).2 k⟩,fun x hx y hy _=>by rw [List.mem_singleton] at hx hy;rw [hx,hy]⟩
    have h3:=hA.length_eq
    omega
  |e :: B,A,hp,R,Q,a,b=>by
    have hp2:((e :: A)++B).Perm L:=(List.perm_middle.symm.trans hp)
    obtain ⟨R2,c⟩:=h.exV hp2
    obtain ⟨Q2,d⟩:=h.exW hp2
    have h1:=h.step hp a b c d
    have h2:=h.up B (e :: A) hp2 c d
    rw [List.length_cons] at h2;omega
theorem Pln.down (h:Pln V W L):∀(A B:DL α β),(A++B).Perm L→∀{R:List α} {Q:List β},Tv (pr A) V R→Tv (du B) W Q→V.length+Q.length≤R.length+A.length+1
  |[],B,hp,R,Q,a,b=>by
    have hB:B.Perm L:=by simpa using hp
    have h1:=a.len (Tv.nil h.ndV)
    obtain ⟨r,hr,hc⟩:=h.oneW
    have h2:Q.length=1:=b.len (S:=[r]) ⟨by simp,fun x hx=>by rw [List.mem_singleton] at hx;subst hx;exact hr,fun v hv=>⟨r,by simp,(hc v hv).mono fun e k=>(mem_du hB e).2 k⟩,fun x hx y hy _=>by rw [List.mem_singleton] at hx hy;rw [hx,hy]⟩
    rw [List.length_nil];omega
  |e :: A,B,hp,R,Q,a,b=>by
    have hp2:(A++e :: B).Perm L:=(List.perm_middle.trans hp)
    obtain ⟨R2,c⟩:=h.exV hp2
    obtain ⟨Q2,d⟩:=h.exW hp2
    have h1:=h.step hp2 c d a b
    have h2:=h.down A (e :: B) hp2 c d
    rw [List.length_cons];omega
theorem Pln.euler (h:Pln V W L) {A B:DL α β} (hp:(A++B).Perm L) {R:List α} {Q:List β} (a:Tv (pr A) V R) (b:Tv (du B) W Q):R.length+A.length+1=V.length+Q.length:=by
  have h1:=h.up B A hp a b
  have h2:=h.down A B hp a b
  have h3:=h.cnt
  omega
end
end Go.Proofs.Ytefbbhiaalcjfaa.Eu
namespace Go.Proofs.Ytefbbhiaalcjfaa.Eu
set_option linter.unusedVariables false
abbrev P2:=Nat×Nat
def sm (n:Nat) (f:Nat→Int):Int:=((List.range n).map f).sum
theorem sm_zero (f:Nat→Int):sm 0 f=0:=rfl
theorem sm_succ (n:Nat) (f:Nat→Int):sm (n+1) f=sm n f+f n:=by
  unfold sm;rw [List.range_succ,List.map_append,List.sum_append];simp
theorem sm_congr {n:Nat} {f g:Nat→Int} (h:∀i,i<n→f i=g i):sm n f=sm n g:=by
  induction n with
  |zero=>rfl
  |succ n ih=>rw [sm_succ,sm_succ,ih fun i hi=>h i (by omega),h n (by omega)]
theorem sm_add (n:Nat) (f g:Nat→Int):sm n (fun i=>f i+g i)=sm n f+sm n g:=by
  induction n with
  |zero=>rfl
  |succ n ih=>rw [sm_succ,sm_succ,sm_succ,ih];omega
theorem sm_neg (n:Nat) (f:Nat→Int):sm n (fun i=> - f i)= - sm n f:=by
  induction n with
  |zero=>rfl
  |succ n ih=>rw [sm_succ,sm_succ,ih];omega
theorem sm_mul (n:Nat) (c:Int) (f:Nat→Int):sm n (fun i=>c*f i)=c*sm n f:=by
  induction n with
  |zero=>rw [sm_zero,sm_zero,Int.mul_zero]
  |succ n ih=>rw [sm_succ,sm_succ,ih,Int.mul_add]
theorem sm_zeros (n:Nat):sm n (fun _=>0)=0:=by
  induction n with
  |zero=>rfl
  |succ n ih=>rw [sm_succ,ih];rfl
theorem sm_swap (n m:Nat) (f:Nat→Nat→Int):sm m (fun y=>sm n (fun x=>f x y))=sm n (fun x=>sm m (fun y=>f x y)):=by
  induction m with
  |zero=>rw [sm_zero];exact (sm_zeros n).symm.trans (sm_congr fun i _=>rfl)
  |succ m ih=>rw [sm_succ,ih,←sm_add];exact sm_congr fun x _=>(sm_succ m _).symm
theorem sm_first (n:Nat) (f:Nat→Int):sm (n+1) f=f 0+sm n (fun i=>f (i+1)):=by
  induction n with
  |zero=>rw [sm_succ,sm_zero,sm_zero];omega
  |succ n ih=>rw [sm_succ,ih,sm_succ n];omega
theorem sm_parts (n:Nat) (a g:Nat→Int):sm (n+1) (fun i=>a i*(g (i+1) - g i))=a n*g (n+1) - a 0*g 0 - sm n (fun i=>(a (i+1) - a i)*g (i+1)):=by
  induction n with
  |zero=>rw [sm_succ,sm_zero,sm_zero];grind
  |succ n ih=>rw [sm_succ,ih,sm_succ n];grind
def gr (n m:Nat):List P2:=(List.range m).flatMap fun y=>(List.range n).map fun x=>(x,y)
theorem mem_gr {n m:Nat} {p:P2}:p∈gr n m↔p.1<n∧p.2<m:=by
  unfold gr
  rw [List.mem_flatMap]
  constructor
  · rintro ⟨y, hy, h⟩
    obtain ⟨x,hx,rfl⟩:=List.mem_map.1 h
    exact ⟨List.mem_range.1 hx,List.mem_range.1 hy⟩
  · rintro ⟨h1, h2⟩
    exact ⟨p.2,List.mem_range.2 h2,List.mem_map.2 ⟨p.1,List.mem_range.2 h1,rfl⟩⟩
theorem gr_succ (n m:Nat):gr n (m+1)=gr n m++(List.range n).map fun x=>(x,m):=by
  unfold gr;rw [List.range_succ,List.flatMap_append];simp
theorem gr_len (n m:Nat):(gr n m).length=n*m:=by
  induction m with
  |zero=>rfl
  |succ m ih=>rw [gr_succ,List.length_append,ih,List.length_map,List.length_range,Nat.mul_succ]
theorem gr_nd (n m:Nat):(gr n m).Nodup:=by
  induction m with
  |zero=>exact List.nodup_nil
  |succ m ih=>
    rw [gr_succ]
    refine List.nodup_append.2 ⟨ih,nd_map List.nodup_range fun a _ b _ e=>(Prod.mk.inj e).1,fun a ha b hb e=> ?_⟩
    obtain ⟨x,_,rfl⟩:=List.mem_map.1 hb
    have:=(mem_gr.1 ha).2
    rw [e] at this;dsimp only at this;omega
theorem gr_sum (n m:Nat) (f:P2→Int):((gr n m).map f).sum=sm m (fun y=>sm n (fun x=>f (x,y))):=by
  induction m with
  |zero=>rfl
  |succ m ih=>rw [gr_succ,List.map_append,List.sum_append,ih,sm_succ,List.map_map];rfl
def om (P Q x y:Nat):P2:=if x=0∨x=P+1∨y=0∨y=Q+1 then (0,0) else (x,y)
def win (P Q:Nat):List P2:=(0,0) :: (gr P Q).map fun p=>(p.1+1,p.2+1)
def hor (P Q:Nat):DL P2 P2:=(gr P (Q+1)).map fun p=>((p,(p.1+1,p.2)),(om P Q (p.1+1) p.2,om P Q (p.1+1) (p.2+1)))
def ver (P Q:Nat):DL P2 P2:=(gr (P+1) Q).map fun p=>((p,(p.1,p.2+1)),(om P Q (p.1+1) (p.2+1),om P Q p.1 (p.2+1)))
def grl (P Q:Nat):DL P2 P2:=hor P Q++ver P Q
theorem om_mem {P Q x y:Nat} (hx:x≤P+1) (hy:y≤Q+1):om P Q x y∈win P Q:=by
  unfold om win
  split
  · exact List.mem_cons_self ..
  · refine List.mem_cons_of_mem _ (List.mem_map.2 ⟨(x - 1, y - 1), mem_gr.2 ⟨?_, ?_⟩, ?_⟩)
    · show x - 1<P;omega
    · show y - 1<Q;omega
    · show (x - 1+1,y - 1+1)=(x,y);rw [show x - 1+1=x by omega,show y - 1+1=y by omega]
theorem bil_hor (P Q:Nat) (X D:P2→Int):bil X D (hor P Q)=sm (Q+1) (fun y=>sm P (fun x=>(X (x+1,y) - X (x,y))*(D (om P Q (x+1) (y+1)) - D (om P Q (x+1) y)))):=by
  unfold bil hor;rw [List.map_map,gr_sum];rfl
theorem bil_ver (P Q:Nat) (X D:P2→Int):bil X D (ver P Q)=sm Q (fun y=>sm (P+1) (fun x=>(X (x,y+1) - X (x,y))*(D (om P Q x (y+1)) - D (om P Q (x+1) (y+1))))):=by
  unfold bil ver;rw [List.map_map,gr_sum];rfl
theorem bil_grl (P Q:Nat) (X D:P2→Int):bil X D (grl P Q)=0:=by
  unfold grl
  rw [bil_append,bil_hor,bil_ver]
  let G:Nat→Nat→Int:=fun x y=>D (om P Q x y) - D (0,0)
  have g0:∀x,G x 0=0:=fun x=>by show D (om P Q x 0) - _=0;unfold om;rw [if_pos (by omega)];omega
  have g1:∀x,G x (Q+1)=0:=fun x=>by show D (om P Q x (Q+1)) - _=0;unfold om;rw [if_pos (by omega)];omega
  have g2:∀y,G 0 y=0:=fun y=>by show D (om P Q 0 y) - _=0;unfold om;rw [if_pos (by omega)];omega
  have g3:∀y,G (P+1) y=0:=fun y=>by show D (om P Q (P+1) y) - _=0;unfold om;rw [if_pos (by omega)];omega
  have h1:sm (Q+1) (fun y=>sm P (fun x=>(X (x+1,y) - X (x,y))*(D (om P Q (x+1) (y+1)) - D (om P Q (x+1) y))))= - sm P (fun x=>sm Q (fun y=>((X (x+1,y+1) - X (x,y+1)) - (X (x+1,y) - X (x,y)))*G (x+1) (y+1))):=by
    rw [sm_swap,←sm_neg]
    refine sm_congr fun x _=> ?_
    have:=sm_parts Q (fun y=>X (x+1,y) - X (x,y)) (fun y=>G (x+1) y)
    rw [g0,g1] at this
    refine (sm_congr fun y _=> ?_).trans (this.trans (by grind))
    show _*_=_*((D _ - D (0,0)) - (D _ - D (0,0)));grind
  have h2:sm Q (fun y=>sm (P+1) (fun x=>(X (x,y+1) - X (x,y))*(D (om P Q x (y+1)) - D (om P Q (x+1) (y+1)))))=sm Q (fun y=>sm P (fun x=>((X (x+1,y+1) - X (x+1,y)) - (X (x,y+1) - X (x,y)))*G (x+1) (y+1))):=by
    refine sm_congr fun y _=> ?_
    have:=sm_parts P (fun x=>X (x,y+1) - X (x,y)) (fun x=>G x (y+1))
    rw [g2,g3] at this
    have h3:=sm_neg (P+1) (fun x=>(X (x,y+1) - X (x,y))*(G (x+1) (y+1) - G x (y+1)))
    refine (sm_congr fun x _=> ?_).trans (h3.trans (by rw [this];grind))
    show _*_= - (_*((D _ - D (0,0)) - (D _ - D (0,0))));grind
  rw [h1,h2,sm_swap P Q]
  have h4:sm P (fun x=>sm Q (fun y=>((X (x+1,y+1) - X (x,y+1)) - (X (x+1,y) - X (x,y)))*G (x+1) (y+1)))=sm P (fun x=>sm Q (fun y=>((X (x+1,y+1) - X (x+1,y)) - (X (x,y+1) - X (x,y)))*G (x+1) (y+1))):=
    sm_congr fun x _=>sm_congr fun y _=>by grind
  rw [h4];omega
theorem mem_hor {P Q x y:Nat} (hx:x<P) (hy:y<Q+1):(((x,y),(x+1,y)),(om P Q (x+1) y,om P Q (x+1) (y+1)))∈grl P Q:=
  List.mem_append_left _ (List.mem_map.2 ⟨(x,y),mem_gr.2 ⟨hx,hy⟩,rfl⟩)
theorem mem_ver {P Q x y:Nat} (hx:x<P+1) (hy:y<Q):(((x,y),(x,y+1)),(om P Q (x+1) (y+1),om P Q x (y+1)))∈grl P Q:=
  List.mem_append_right _ (List.mem_map.2 ⟨(x,y),mem_gr.2 ⟨hx,hy⟩,rfl⟩)
theorem mem_grl {P Q:Nat} {e:(P2×P2)×(P2×P2)} (h:e∈grl P Q):(∃x y,x<P∧y<Q+1∧e=(((x,y),(x+1,y)),(om P Q (x+1) y,om P Q (x+1) (y+1))))∨∃x y,x<P+1∧y<Q∧e=(((x,y),(x,y+1)),(om P Q (x+1) (y+1),om P Q x (y+1))):=by
  rcases List.mem_append.1 h with h|h
  · obtain ⟨⟨x, y⟩, hp, rfl⟩ := List.mem_map.1 h
    exact .inl ⟨x,y,(mem_gr.1 hp).1,(mem_gr.1 hp).2,rfl⟩
  · obtain ⟨⟨x, y⟩, hp, rfl⟩ := List.mem_map.1 h
    exact .inr ⟨x,y,(mem_gr.1 hp).1,(mem_gr.1 hp).2,rfl⟩
theorem pr_of {L:DL P2 P2} {a b:P2} {d:P2×P2} (h:((a,b),d)∈L):Cn (pr L) a b:=Cn.one (List.mem_map.2 ⟨_,h,rfl⟩)
theorem du_of {L:DL P2 P2} {a b:P2} {d:P2×P2} (h:(d,(a,b))∈L):Cn (du L) a b:=Cn.one (List.mem_map.2 ⟨_,h,rfl⟩)
theorem pln (P Q:Nat):Pln (gr (P+1) (Q+1)) (win P Q) (grl P Q):=by
  refine ⟨gr_nd _ _,?_,fun e he=> ?_,fun e he=> ?_,bil_grl P Q,⟨(0,0),mem_gr.2 ⟨by show 0<_;omega,by show 0<_;omega⟩,?_⟩,⟨(0,0),List.mem_cons_self ..,?_⟩,?_⟩
  · refine List.nodup_cons.2 ⟨fun h => ?_, nd_map (gr_nd _ _) fun a _ b _ e => ?_⟩
    · obtain ⟨p, _, e⟩ := List.mem_map.1 h
      have:=(Prod.mk.inj e).1;omega
    · obtain ⟨e1, e2⟩ := Prod.mk.inj e
      exact Prod.ext (by omega) (by omega)
  · rcases mem_grl he with ⟨x, y, hx, hy, rfl⟩ | ⟨x, y, hx, hy, rfl⟩
    · exact ⟨mem_gr.2 ⟨by show x<_;omega,hy⟩,mem_gr.2 ⟨by show x+1<_;omega,hy⟩⟩
    · exact ⟨mem_gr.2 ⟨hx,by show y<_;omega⟩,mem_gr.2 ⟨hx,by show y+1<_;omega⟩⟩
  · rcases mem_grl he with ⟨x, y, hx, hy, rfl⟩ | ⟨x, y, hx, hy, rfl⟩
    · exact ⟨om_mem (by omega) (by omega),om_mem (by omega) (by omega)⟩
    · exact ⟨om_mem (by omega) (by omega),om_mem (by omega) (by omega)⟩
  · have hx:∀x y:Nat,x<P+1→y<Q+1→Cn (pr (grl P Q)) (x,y) (0,y):=fun x y=>by
      induction x with
      |zero=>intro _ _;exact .refl _
      |succ x ih=>intro h1 h2;exact (pr_of (mem_hor (by omega) h2)).symm.trans (ih (by omega) h2)
    have hy:∀y:Nat,y<Q+1→Cn (pr (grl P Q)) (0,y) (0,0):=fun y=>by
      induction y with
      |zero=>intro _;exact .refl _
      |succ y ih=>intro h2;exact (pr_of (mem_ver (by omega) (by omega))).symm.trans (ih (by omega))
    rintro ⟨x,y⟩ hv
    obtain ⟨h1,h2⟩:=mem_gr.1 hv
    exact (hx x y h1 h2).trans (hy y h2)
  · have hy:∀x y:Nat,x<P→y<Q+1→Cn (du (grl P Q)) (om P Q (x+1) y) (0,0):=fun x y=>by
      induction y with
      |zero=>intro _ _;unfold om;rw [if_pos (by omega)];exact .refl _
      |succ y ih=>intro h1 h2;exact (du_of (mem_hor h1 (show y<Q+1 by omega))).symm.trans (ih h1 (by omega))
    intro v hv
    rcases List.mem_cons.1 hv with rfl|hv
    · exact .refl _
    · obtain ⟨⟨x, y⟩, hp, rfl⟩ := List.mem_map.1 hv
      obtain ⟨h1,h2⟩:=mem_gr.1 hp
      dsimp only at h1 h2
      have:=hy x (y+1) h1 (by omega)
      unfold om at this
      rwa [if_neg (by omega)] at this
  · unfold win grl hor ver
    rw [List.length_cons,List.length_append,List.length_map,List.length_map,List.length_map,gr_len,gr_len,gr_len,gr_len]
    simp only [Nat.add_mul,Nat.mul_add,Nat.mul_one,Nat.one_mul];omega
end Go.Proofs.Ytefbbhiaalcjfaa.Eu
namespace Go.Proofs.Ytefbbhiaalcjfaa.Eu
open Go.Proofs.Ytefbbhiaalcjfaa.Fl
set_option linter.unusedVariables false
def pos (w j:Nat):P2:=(j%w+1,j / w+1)
def ix (w:Nat) (p:P2):Nat:=(p.2 - 1)*w+(p.1 - 1)
def inn (w h:Nat) (p:P2):Prop:=(1≤p.1∧p.1≤w)∧1≤p.2∧p.2≤h
instance (w h:Nat) (p:P2):Decidable (inn w h p):=by unfold inn;infer_instance
def pic (w h:Nat) (f:Nat→Bool) (p:P2):Bool:=decide (inn w h p)&&f (ix w p)
section
variable {w h n : Nat} {f : Nat → Bool} {g : Nat → Bool}
theorem ix_pos (hw:0<w) (j:Nat):ix w (pos w j)=j:=by
  unfold ix pos
  show (j / w+1 - 1)*w+(j%w+1 - 1)=j
  rw [Nat.add_sub_cancel,Nat.add_sub_cancel,Nat.mul_comm];exact Nat.div_add_mod j w
theorem pos_inn (hn:n=w*h) {j:Nat} (hj:j<n):inn w h (pos w j):=by
  subst hn
  have hw:0<w:=by
    rcases Nat.eq_zero_or_pos w with e|e
    · subst e;rw [Nat.zero_mul] at hj;omega
    · exact e
  have:=Nat.mod_lt j hw
  have:=Nat.div_lt_of_lt_mul hj
  exact ⟨⟨by show 1≤j%w+1;omega,by show j%w+1≤w;omega⟩,Nat.le_add_left 1 (j / w),this⟩
theorem ix_md (hn:n=w*h) {p:P2} (hp:inn w h p):ix w p<n∧ix w p%w=p.1 - 1∧ix w p / w=p.2 - 1:=by
  obtain ⟨⟨a,b⟩,c,d⟩:=hp
  have h1:(ix w p)%w=p.1 - 1:=by unfold ix;rw [Nat.add_comm,Nat.add_mul_mod_self_right,Nat.mod_eq_of_lt (by omega)]
  have h2:(ix w p) / w=p.2 - 1:=by unfold ix;rw [Nat.add_comm,Nat.add_mul_div_right _ _ (by omega),Nat.div_eq_of_lt (by omega)];omega
  refine ⟨?_,h1,h2⟩
  have h3:(p.2 - 1)*w+w≤w*h:=by
    have:=Nat.mul_le_mul_right w (show p.2 - 1+1≤h by omega)
    rw [Nat.add_mul,Nat.one_mul,Nat.mul_comm h w] at this;exact this
  unfold ix;omega
theorem pos_ix (hn:n=w*h) {p:P2} (hp:inn w h p):pos w (ix w p)=p:=by
  obtain ⟨_,a,b⟩:=ix_md hn hp
  obtain ⟨⟨_,_⟩,_,_⟩:=hp
  unfold pos;rw [a,b];exact Prod.ext (by show p.1 - 1+1=p.1;omega) (by show p.2 - 1+1=p.2;omega)
theorem pic_pos (hn:n=w*h) {j:Nat} (hj:j<n):pic w h f (pos w j)=f j:=by
  have hi:=pos_inn hn hj
  have hw:0<w:=by have:=hi.1;omega
  unfold pic;rw [ix_pos hw,decide_eq_true hi,Bool.true_and]
theorem pic_iff {p:P2}:pic w h f p=true↔inn w h p∧f (ix w p)=true:=by unfold pic;simp
def kg (p q:P2):Prop:=(p.1≤q.1+1∧q.1≤p.1+1)∧p.2≤q.2+1∧q.2≤p.2+1
theorem nb_of (hn:n=w*h) {e:Bool} {p q:P2} (hp:inn w h p) (hq:inn w h q) (hk:kg p q) (hne:p≠q) (he:e=true∨p.1=q.1∨p.2=q.2):nb e w n (ix w p) (ix w q):=by
  obtain ⟨a1,a2,a3⟩:=ix_md hn hp
  obtain ⟨b1,b2,b3⟩:=ix_md hn hq
  obtain ⟨⟨p1,p2⟩,p3,p4⟩:=hp
  obtain ⟨⟨q1,q2⟩,q3,q4⟩:=hq
  obtain ⟨⟨k1,k2⟩,k3,k4⟩:=hk
  unfold nb
  refine ⟨a1,b1,fun x=> ?_,?_,?_,?_⟩
  · rw [x] at a2 a3
    exact hne (Prod.ext (by omega) (by omega))
  · rw [a2,b2];omega
  · rw [a3,b3];omega
  · rw [a2, b2, a3, b3]
    refine he.imp id fun x=> ?_
    rcases x with x|x <;> omega
theorem of_nb {e:Bool} {i k:Nat} (hk:nb e w n i k):kg (pos w i) (pos w k)∧(e=false→(pos w i).1=(pos w k).1∨(pos w i).2=(pos w k).2):=by
  obtain ⟨_,_,h3,h4,h5,h6⟩:=hk
  unfold kg pos
  dsimp only
  generalize i%w=a at *;generalize k%w=b at *;generalize i / w=c at *;generalize k / w=d at*
  refine ⟨⟨⟨by omega,by omega⟩,by omega,by omega⟩,fun x=> ?_⟩
  rcases h6 with h6|h6
  · rw [x] at h6;cases h6
  · omega
theorem pos_inj (hw:0<w) {i k:Nat} (e:pos w i=pos w k):i=k:=by rw [← ix_pos hw i,e,ix_pos hw]
def inA (w h:Nat) (f:Nat→Bool) (e:(P2×P2)×(P2×P2)):Bool:=pic w h f e.1.1&&pic w h f e.1.2
def lkA (w h:Nat) (f:Nat→Bool):DL P2 P2:=(grl (w+1) (h+1)).filter (inA w h f)
def lkB (w h:Nat) (f:Nat→Bool):DL P2 P2:=(grl (w+1) (h+1)).filter (fun e=> !inA w h f e)
theorem lk_perm:(lkA w h f++lkB w h f).Perm (grl (w+1) (h+1)):=List.filter_append_perm _ _
theorem lk_to {p q:P2} (hp:pic w h f p=true) (hq:pic w h f q=true) (hk:kg p q) (he:p.1=q.1∨p.2=q.2):Cn (pr (lkA w h f)) p q:=by
  have hi:=(pic_iff.1 hp).1
  have hj:=(pic_iff.1 hq).1
  obtain ⟨⟨p1,p2⟩,p3,p4⟩:=hi
  obtain ⟨⟨q1,q2⟩,q3,q4⟩:=hj
  obtain ⟨⟨k1,k2⟩,k3,k4⟩:=hk
  obtain ⟨x,y⟩:=p
  obtain ⟨u,v⟩:=q
  dsimp only at*
  by_cases e1:x=u
  · subst e1
    by_cases e2:y=v
    · subst e2;exact .refl _
    · by_cases e3 : y < v
      · obtain rfl : v = y + 1 := by omega
        exact pr_of (List.mem_filter.2 ⟨mem_ver (P:=w+1) (Q:=h+1) (by omega) (by omega),by unfold inA;rw [hp,hq];rfl⟩)
      · obtain rfl : y = v + 1 := by omega
        exact (pr_of (List.mem_filter.2 ⟨mem_ver (P:=w+1) (Q:=h+1) (by omega) (by omega),by unfold inA;rw [hp,hq];rfl⟩)).symm
  · obtain rfl : y = v := by omega
    by_cases e3:x<u
    · obtain rfl : u = x + 1 := by omega
      exact pr_of (List.mem_filter.2 ⟨mem_hor (P:=w+1) (Q:=h+1) (by omega) (by omega),by unfold inA;rw [hp,hq];rfl⟩)
    · obtain rfl : x = u + 1 := by omega
      exact (pr_of (List.mem_filter.2 ⟨mem_hor (P:=w+1) (Q:=h+1) (by omega) (by omega),by unfold inA;rw [hp,hq];rfl⟩)).symm
theorem conn_to (hn:n=w*h) {i k:Nat} (hc:Conn (fun j=>f j=true) (nb false w n) i k):i<n→f i=true→Cn (pr (lkA w h f)) (pos w i) (pos w k):=by
  induction hc with
  |refl=>intro _ _;exact .refl _
  |step a b d _ ih=>
    intro hi hf
    obtain ⟨k1,k2⟩:=of_nb d
    exact (lk_to (by rw [pic_pos hn hi];exact a) (by rw [pic_pos hn d.2.1];exact b) k1 (k2 rfl)).trans (ih d.2.1 b)
def rl (w h:Nat) (f:Nat→Bool) (c:Nat→Nat) (p:P2):Nat ⊕ P2:=if pic w h f p=true then .inl (c (ix w p)) else .inr p
theorem regions {c:Nat→Nat} (hn:n=w*h) (hf:∀j,f j=true→j<n) (hc:Lst (fun j=>f j=true) (nb false w n) c):
    Tv (pr (lkA w h f)) (gr (w+2) (h+2)) (((List.range n).filter (ldr f c)).map (pos w)++(gr (w+2) (h+2)).filter (fun p=> !pic w h f p)):=by
  have hlab:∀e∈pr (lkA w h f),rl w h f c e.1=rl w h f c e.2:=fun e he=>by
    obtain ⟨x,hx,rfl⟩:=List.mem_map.1 he
    obtain ⟨hm,ha⟩:=List.mem_filter.1 hx
    unfold inA at ha
    obtain ⟨a1,a2⟩:=Bool.and_eq_true_iff.1 ha
    unfold rl
    simp only [a1,a2,if_true]
    obtain ⟨i1,f1⟩:=pic_iff.1 a1
    obtain ⟨i2,f2⟩:=pic_iff.1 a2
    refine congrArg Sum.inl (hc.same _ _ f1 f2 (nb_of hn i1 i2 ?_ ?_ ?_))
    · rcases mem_grl hm with ⟨x,y,_,_,rfl⟩|⟨x,y,_,_,rfl⟩ <;> (unfold kg;dsimp only;omega)
    · rcases mem_grl hm with ⟨x,y,_,_,rfl⟩|⟨x,y,_,_,rfl⟩ <;> (intro e;have e1:=congrArg Prod.fst e;have e2:=congrArg Prod.snd e;dsimp only at e1 e2;omega)
    · rcases mem_grl hm with ⟨x,y,_,_,rfl⟩|⟨x,y,_,_,rfl⟩ <;> simp
  have hld:∀j,j∈(List.range n).filter (ldr f c)→j<n∧f j=true∧c j=j:=fun j hj=>by
    obtain ⟨h1,h2⟩:=List.mem_filter.1 hj
    unfold ldr at h2
    simp only [Bool.and_eq_true,decide_eq_true_eq] at h2
    exact ⟨List.mem_range.1 h1,h2⟩
  have hwp:∀j,j<n→0<w:=fun j hj=>by have:=(pos_inn hn hj).1;omega
  refine ⟨List.nodup_append.2 ⟨nd_map (List.nodup_range.filter _) fun a ha b hb e=>pos_inj (hwp a (hld a ha).1) e,(gr_nd _ _).filter _,fun a ha b hb e=> ?_⟩,fun r hr=> ?_,fun v hv=> ?_,fun r hr s hs k=> ?_⟩
  · obtain ⟨j, hj, rfl⟩ := List.mem_map.1 ha
    subst e
    have:=(List.mem_filter.1 hb).2
    rw [pic_pos hn (hld j hj).1,(hld j hj).2.1] at this;cases this
  · rcases List.mem_append.1 hr with hr | hr
    · obtain ⟨j, hj, rfl⟩ := List.mem_map.1 hr
      obtain ⟨⟨_,_⟩,_,_⟩:=pos_inn hn (hld j hj).1
      exact mem_gr.2 ⟨by omega,by omega⟩
    · exact (List.mem_filter.1 hr).1
  · by_cases hp : pic w h f v = true
    · obtain ⟨hi, hfv⟩ := pic_iff.1 hp
      have hcn:=hc.conn _ hfv
      have hx:=ix_md hn hi
      have hfc:=hc.mem hfv
      refine ⟨pos w (c (ix w v)),List.mem_append_left _ (List.mem_map.2 ⟨c (ix w v),List.mem_filter.2 ⟨List.mem_range.2 (hf _ hfc),?_⟩,rfl⟩),?_⟩
      · unfold ldr;simp only [Bool.and_eq_true,decide_eq_true_eq];exact ⟨hfc,hc.idem hfv⟩
      · have := conn_to hn hcn hx.1 hfv
        rwa [pos_ix hn hi] at this
    · exact ⟨v,List.mem_append_right _ (List.mem_filter.2 ⟨hv,by simp [hp]⟩),.refl _⟩
  · have hl := k.const hlab
    unfold rl at hl
    rcases List.mem_append.1 hr with hr|hr <;> rcases List.mem_append.1 hs with hs|hs
    · obtain ⟨i, hi, rfl⟩ := List.mem_map.1 hr
      obtain ⟨j,hj,rfl⟩:=List.mem_map.1 hs
      obtain ⟨i1,i2,i3⟩:=hld i hi
      obtain ⟨j1,j2,j3⟩:=hld j hj
      rw [pic_pos hn i1,pic_pos hn j1,if_pos i2,if_pos j2,ix_pos (hwp i i1),ix_pos (hwp i i1),i3,j3] at hl
      rw [Sum.inl.inj hl]
    · obtain ⟨i, hi, rfl⟩ := List.mem_map.1 hr
      obtain ⟨i1,i2,i3⟩:=hld i hi
      have hs2:=(List.mem_filter.1 hs).2
      rw [pic_pos hn i1,if_pos i2,if_neg (by simpa using hs2)] at hl;cases hl
    · obtain ⟨j, hj, rfl⟩ := List.mem_map.1 hs
      obtain ⟨j1,j2,j3⟩:=hld j hj
      have hr2:=(List.mem_filter.1 hr).2
      rw [pic_pos hn j1,if_pos j2,if_neg (by simpa using hr2)] at hl;cases hl
    · have hr2 := (List.mem_filter.1 hr).2
      have hs2:=(List.mem_filter.1 hs).2
      rw [if_neg (by simpa using hr2),if_neg (by simpa using hs2)] at hl
      exact Sum.inr.inj hl
def hd (a b:Nat) (u:P2):Prop:=(u.1=a∨u.1+1=a)∧(u.2=b∨u.2+1=b)
def lab (w h n:Nat) (g:Nat→Bool) (d:Nat→Nat) (u:P2):Option Nat:=if inn w h u∧¬brd n g d (edg w h) (d (ix w u))=true then some (d (ix w u)) else none
theorem lab_kg {d:Nat→Nat} (hn:n=w*h) (hd:Lst (fun j=>g j=true) (nb true w n) d) (hg:∀j,j<n→(g j=true↔f j=false)) {u v:P2} (hu:pic w h f u=false) (hv:pic w h f v=false) (hk:kg u v):lab w h n g d u=lab w h n g d v:=by
  have hgi:∀{p:P2},pic w h f p=false→inn w h p→g (ix w p)=true:=fun {p} hp hi=>(hg _ (ix_md hn hi).1).2 (by
    cases hc:f (ix w p)
    · rfl
    · have:=(pic_iff (w:=w) (h:=h) (f:=f)).2 ⟨hi,hc⟩;rw [hp] at this;cases this)
  have hfr:∀{p q:P2},pic w h f p=false→inn w h p→¬inn w h q→kg p q→brd n g d (edg w h) (d (ix w p))=true:=fun {p q} hp hi hq hk=>by
    obtain ⟨a1,a2,a3⟩:=ix_md hn hi
    refine brd_iff.2 ⟨ix w p,a1,hgi hp hi,edg_iff.2 ?_,rfl⟩
    rw [a2,a3]
    unfold inn at hi hq;unfold kg at hk
    omega
  unfold lab
  by_cases h1:inn w h u <;> by_cases h2:inn w h v
  · by_cases e : u = v
    · subst e;rfl
    · rw [hd.same _ _ (hgi hu h1) (hgi hv h2) (nb_of hn h1 h2 hk e (.inl rfl))]
      simp only [h1,h2,true_and]
  · rw [if_neg (fun x=>x.2 (hfr hu h1 h2 hk)),if_neg (fun x=>h2 x.1)]
  · rw [if_neg (fun x=>h1 x.1),if_neg (fun x=>x.2 (hfr hv h2 h1 (by unfold kg at *;omega)))]
  · rw [if_neg (fun x=>h1 x.1),if_neg (fun x=>h2 x.1)]
theorem lab_out {d:Nat→Nat} {u:P2} (h1:¬inn w h u):lab w h n g d u=none:=if_neg fun x=>h1 x.1
def wl (w h n:Nat) (f g:Nat→Bool) (d:Nat→Nat) (v:P2):Option Nat ⊕ P2:=
  if v=(0,0) then .inl none
  else if pic w h f (v.1 - 1,v.2 - 1)=false then .inl (lab w h n g d (v.1 - 1,v.2 - 1))
  else if pic w h f (v.1,v.2 - 1)=false then .inl (lab w h n g d (v.1,v.2 - 1))
  else if pic w h f (v.1 - 1,v.2)=false then .inl (lab w h n g d (v.1 - 1,v.2))
  else if pic w h f (v.1,v.2)=false then .inl (lab w h n g d (v.1,v.2))
  else .inr v
theorem wl_of {d:Nat→Nat} (hn:n=w*h) (hL:Lst (fun j=>g j=true) (nb true w n) d) (hg:∀j,j<n→(g j=true↔f j=false)) {a b:Nat} {u:P2} (hu:pic w h f u=false) (h1:u.1≤w+1) (h2:u.2≤h+1) (hh:hd a b u):
    wl w h n f g d (om (w+1) (h+1) a b)= .inl (lab w h n g d u):=by
  unfold hd at hh
  unfold om
  split
  · rename_i k
    rw [lab_out (by unfold inn;omega)];rfl
  · rename_i k
    unfold wl
    rw [if_neg (fun e=>by have:=congrArg Prod.fst e;dsimp only at this;omega)]
    dsimp only
    split
    · rename_i p;rw [lab_kg hn hL hg p hu (by unfold kg;dsimp only;omega)]
    rename_i p1
    split
    · rename_i p;rw [lab_kg hn hL hg p hu (by unfold kg;dsimp only;omega)]
    rename_i p2
    split
    · rename_i p;rw [lab_kg hn hL hg p hu (by unfold kg;dsimp only;omega)]
    rename_i p3
    split
    · rename_i p;rw [lab_kg hn hL hg p hu (by unfold kg;dsimp only;omega)]
    rename_i p4
    exfalso
    obtain ⟨x,y⟩:=u
    dsimp only at hh hu
    have:(x,y)=(a - 1,b - 1)∨(x,y)=(a,b - 1)∨(x,y)=(a - 1,b)∨(x,y)=(a,b):=by
      rcases hh.1 with e|e <;> rcases hh.2 with e2|e2
      · subst e;subst e2;simp
      · subst e;subst e2;simp
      · subst e;subst e2;simp
      · subst e;subst e2;simp
    rcases this with e|e|e|e <;> rw [e] at hu <;> contradiction
def ph (w h:Nat) (u:P2):P2:=om (w+1) (h+1) u.1 u.2
theorem inB_of {e:(P2×P2)×(P2×P2)} (hm:e∈grl (w+1) (h+1)) (hx:pic w h f e.1.1=false∨pic w h f e.1.2=false):e∈lkB w h f:=by
  refine List.mem_filter.2 ⟨hm,?_⟩
  unfold inA
  rcases hx with hx|hx <;> rw [hx] <;> simp
theorem ph_of {a b:Nat} {u:P2} (hu:pic w h f u=false) (h1:u.1≤w+1) (h2:u.2≤h+1) (hh:hd a b u):Cn (du (lkB w h f)) (om (w+1) (h+1) a b) (ph w h u):=by
  obtain ⟨x,y⟩:=u
  unfold hd at hh
  dsimp only at*
  have k1:Cn (du (lkB w h f)) (om (w+1) (h+1) (x+1) y) (om (w+1) (h+1) x y):=by
    cases y with
    |zero=>unfold om;rw [if_pos (by omega),if_pos (by omega)];exact .refl _
    |succ y=>exact du_of (inB_of (mem_ver (P:=w+1) (Q:=h+1) (by omega) (by omega)) (.inr hu))
  have k2:Cn (du (lkB w h f)) (om (w+1) (h+1) x (y+1)) (om (w+1) (h+1) x y):=by
    cases x with
    |zero=>unfold om;rw [if_pos (by omega),if_pos (by omega)];exact .refl _
    |succ x=>exact (du_of (inB_of (mem_hor (P:=w+1) (Q:=h+1) (by omega) (by omega)) (.inr hu))).symm
  have k3:Cn (du (lkB w h f)) (om (w+1) (h+1) (x+1) (y+1)) (om (w+1) (h+1) x (y+1)):=by
    by_cases e:y=h+1
    · subst e;unfold om;rw [if_pos (by omega),if_pos (by omega)];exact .refl _
    · exact du_of (inB_of (mem_ver (P:=w+1) (Q:=h+1) (by omega) (by omega)) (.inl hu))
  rcases hh.1 with e|e <;> rcases hh.2 with e2|e2
  · subst e;subst e2;exact .refl _
  · subst e;subst e2;exact k2
  · subst e;subst e2;exact k1
  · subst e;subst e2;exact k3.trans k2
theorem ph_kg {u v:P2} (hu:pic w h f u=false) (hv:pic w h f v=false) (h1:u.1≤w+1) (h2:u.2≤h+1) (h3:v.1≤w+1) (h4:v.2≤h+1) (hk:kg u v):Cn (du (lkB w h f)) (ph w h u) (ph w h v):=by
  unfold kg at hk
  have a:=ph_of (a:=max u.1 v.1) (b:=max u.2 v.2) hu h1 h2 (by unfold hd;omega)
  have b:=ph_of (a:=max u.1 v.1) (b:=max u.2 v.2) hv h3 h4 (by unfold hd;omega)
  exact a.symm.trans b
theorem ph_out {u:P2} (h1:u.1≤w+1) (h2:u.2≤h+1) (ho:¬inn w h u):Cn (du (lkB w h f)) (ph w h u) (0,0):=by
  have hu:pic w h f u=false:=by
    cases hc:pic w h f u
    · rfl
    · exact absurd (pic_iff.1 hc).1 ho
  unfold inn at ho
  have a:=ph_of (a:=if u.1=w+1 then w+2 else u.1) (b:=if u.2=h+1 then h+2 else u.2) hu h1 h2 (by unfold hd;constructor <;> (split <;> omega))
  refine a.symm.trans ?_
  unfold om
  rw [if_pos (by
    by_cases e1:u.1=w+1
    · rw [if_pos e1];omega
    · by_cases e2 : u.2 = h + 1
      · rw [if_pos e2];omega
      · rw [if_neg e1,if_neg e2];omega)]
  exact .refl _
theorem pos_le (hn:n=w*h) {j:Nat} (hj:j<n):(pos w j).1≤w+1∧(pos w j).2≤h+1:=by
  obtain ⟨⟨_,_⟩,_,_⟩:=pos_inn hn hj
  omega
theorem ph_pos (hn:n=w*h) {j:Nat} (hj:j<n):ph w h (pos w j)=pos w j:=by
  obtain ⟨⟨_,_⟩,_,_⟩:=pos_inn hn hj
  unfold ph om;rw [if_neg (by omega)]
theorem conn_ph (hn:n=w*h) (hg:∀j,j<n→(g j=true↔f j=false)) {i k:Nat} (hc:Conn (fun j=>g j=true) (nb true w n) i k):i<n→g i=true→Cn (du (lkB w h f)) (ph w h (pos w i)) (ph w h (pos w k)):=by
  induction hc with
  |refl=>intro _ _;exact .refl _
  |step a b d _ ih=>
    intro hi hf
    have hk:=d.2.1
    exact (ph_kg (by rw [pic_pos hn hi];exact (hg _ hi).1 a) (by rw [pic_pos hn hk];exact (hg _ hk).1 b) (pos_le hn hi).1 (pos_le hn hi).2 (pos_le hn hk).1 (pos_le hn hk).2 (of_nb d).1).trans (ih hk b)
def full (w h:Nat) (f:Nat→Bool) (p:P2):Bool:=(pic w h f p&&pic w h f (p.1+1,p.2))&&(pic w h f (p.1,p.2+1)&&pic w h f (p.1+1,p.2+1))
def hls (n w h:Nat) (g:Nat→Bool) (d:Nat→Nat):List Nat:=(List.range n).filter (fun j=>ldr g d j&& !brd n g d (edg w h) j)
def fls (w h:Nat) (f:Nat→Bool):List P2:=(gr (w+1) (h+1)).filter (full w h f)
theorem mem_hls {d:Nat→Nat} {j:Nat}:j∈hls n w h g d↔j<n∧g j=true∧d j=j∧¬brd n g d (edg w h) j=true:=by
  unfold hls ldr
  rw [List.mem_filter,List.mem_range]
  simp [and_assoc]
theorem mem_fls {p:P2} (hp:p∈fls w h f):(p.1<w+1∧p.2<h+1)∧full w h f p=true:=⟨mem_gr.1 (List.mem_filter.1 hp).1,(List.mem_filter.1 hp).2⟩
theorem holes {d:Nat→Nat} (hn:n=w*h) (hL:Lst (fun j=>g j=true) (nb true w n) d) (hgn:∀j,g j=true→j<n) (hg:∀j,j<n→(g j=true↔f j=false)):
    Tv (du (lkB w h f)) (win (w+1) (h+1)) ((0,0) :: ((hls n w h g d).map (pos w)++(fls w h f).map (fun p=>(p.1+1,p.2+1)))):=by
  have hlb:∀e∈du (lkB w h f),wl w h n f g d e.1=wl w h n f g d e.2:=fun e he=>by
    obtain ⟨x,hx,rfl⟩:=List.mem_map.1 he
    obtain ⟨hm,ha⟩:=List.mem_filter.1 hx
    unfold inA at ha
    rcases mem_grl hm with ⟨x,y,h1,h2,rfl⟩|⟨x,y,h1,h2,rfl⟩
    · dsimp only at ha ⊢
      cases hc:pic w h f (x,y)
      · rw [wl_of hn hL hg hc (by dsimp only;omega) (by dsimp only;omega) (by unfold hd;dsimp only;omega),wl_of hn hL hg hc (by dsimp only;omega) (by dsimp only;omega) (by unfold hd;dsimp only;omega)]
      · rw [hc, Bool.true_and] at ha
        have hc2:pic w h f (x+1,y)=false:=by simpa using ha
        rw [wl_of hn hL hg hc2 (by dsimp only;omega) (by dsimp only;omega) (by unfold hd;dsimp only;omega),wl_of hn hL hg hc2 (by dsimp only;omega) (by dsimp only;omega) (by unfold hd;dsimp only;omega)]
    · dsimp only at ha ⊢
      cases hc:pic w h f (x,y)
      · rw [wl_of hn hL hg hc (by dsimp only;omega) (by dsimp only;omega) (by unfold hd;dsimp only;omega),wl_of hn hL hg hc (by dsimp only;omega) (by dsimp only;omega) (by unfold hd;dsimp only;omega)]
      · rw [hc, Bool.true_and] at ha
        have hc2:pic w h f (x,y+1)=false:=by simpa using ha
        rw [wl_of hn hL hg hc2 (by dsimp only;omega) (by dsimp only;omega) (by unfold hd;dsimp only;omega),wl_of hn hL hg hc2 (by dsimp only;omega) (by dsimp only;omega) (by unfold hd;dsimp only;omega)]
  have hwp:∀j,j<n→0<w:=fun j hj=>by have:=(pos_inn hn hj).1;omega
  have lp:∀j,j∈hls n w h g d→wl w h n f g d (pos w j)= .inl (some j):=fun j hj=>by
    obtain ⟨j1,j2,j3,j4⟩:=mem_hls.1 hj
    have hp:pic w h f (pos w j)=false:=by rw [pic_pos hn j1];exact (hg _ j1).1 j2
    have:=wl_of (a:=(pos w j).1) (b:=(pos w j).2) hn hL hg hp (pos_le hn j1).1 (pos_le hn j1).2 (by unfold hd;simp)
    have e:om (w+1) (h+1) (pos w j).1 (pos w j).2=pos w j:=ph_pos hn j1
    rw [e] at this
    rw [this];unfold lab;rw [ix_pos (hwp j j1),j3,if_pos ⟨pos_inn hn j1,j4⟩]
  have lf:∀p,p∈fls w h f→wl w h n f g d (p.1+1,p.2+1)= .inr (p.1+1,p.2+1):=fun p hp=>by
    obtain ⟨_,h3⟩:=mem_fls hp
    unfold full at h3
    simp only [Bool.and_eq_true] at h3
    obtain ⟨⟨a,b⟩,c,e⟩:=h3
    unfold wl
    rw [if_neg (fun e=>by have:=congrArg Prod.fst e;dsimp only at this;omega)]
    dsimp only
    rw [Nat.add_sub_cancel,Nat.add_sub_cancel,a,b,c,e];simp
  refine ⟨List.nodup_cons.2 ⟨fun hm=> ?_,List.nodup_append.2 ⟨nd_map (List.nodup_range.filter _) fun a ha b hb e=>pos_inj (hwp a (mem_hls.1 ha).1) e,nd_map ((gr_nd _ _).filter _) fun a _ b _ e=>by
      obtain ⟨e1,e2⟩:=Prod.mk.inj e
      exact Prod.ext (by omega) (by omega),fun a ha b hb e=> ?_⟩⟩,fun r hr=> ?_,fun v hv=> ?_,fun r hr s hs k=> ?_⟩
  · rcases List.mem_append.1 hm with hm | hm
    · obtain ⟨j, _, e⟩ := List.mem_map.1 hm
      have:=congrArg Prod.fst e;unfold pos at this;dsimp only at this;omega
    · obtain ⟨j, _, e⟩ := List.mem_map.1 hm
      have:=congrArg Prod.fst e;dsimp only at this;omega
  · obtain ⟨j, hj, rfl⟩ := List.mem_map.1 ha
    obtain ⟨p,hp,rfl⟩:=List.mem_map.1 hb
    have h1:=lp j hj
    rw [e,lf p hp] at h1;cases h1
  · rcases List.mem_cons.1 hr with rfl | hr
    · exact List.mem_cons_self ..
    · refine List.mem_cons_of_mem _ ?_
      rcases List.mem_append.1 hr with hr|hr
      · obtain ⟨j, hj, rfl⟩ := List.mem_map.1 hr
        obtain ⟨⟨_,_⟩,_,_⟩:=pos_inn hn (mem_hls.1 hj).1
        exact List.mem_map.2 ⟨((pos w j).1 - 1,(pos w j).2 - 1),mem_gr.2 ⟨by dsimp only;omega,by dsimp only;omega⟩,Prod.ext (by dsimp only;omega) (by dsimp only;omega)⟩
      · obtain ⟨p, hp, rfl⟩ := List.mem_map.1 hr
        exact List.mem_map.2 ⟨p,(List.mem_filter.1 hp).1,rfl⟩
  · rcases List.mem_cons.1 hv with rfl | hv
    · exact ⟨(0,0),List.mem_cons_self ..,.refl _⟩
    obtain ⟨p,hp,rfl⟩:=List.mem_map.1 hv
    obtain ⟨p1,p2⟩:=mem_gr.1 hp
    by_cases hfl:full w h f p=true
    · exact ⟨_,List.mem_cons_of_mem _ (List.mem_append_right _ (List.mem_map.2 ⟨p,List.mem_filter.2 ⟨hp,hfl⟩,rfl⟩)),.refl _⟩
    have hu:∃u:P2,pic w h f u=false∧u.1≤w+1∧u.2≤h+1∧hd (p.1+1) (p.2+1) u:=by
      unfold full at hfl
      by_cases q1:pic w h f p=true
      · by_cases q2 : pic w h f (p.1 + 1, p.2) = true
        · by_cases q3 : pic w h f (p.1, p.2 + 1) = true
          · by_cases q4 : pic w h f (p.1 + 1, p.2 + 1) = true
            · exact absurd (by rw [q1,q2,q3,q4];rfl) hfl
            · exact ⟨_,by simpa using q4,by dsimp only;omega,by dsimp only;omega,by unfold hd;dsimp only;omega⟩
          · exact ⟨_,by simpa using q3,by dsimp only;omega,by dsimp only;omega,by unfold hd;dsimp only;omega⟩
        · exact ⟨_,by simpa using q2,by dsimp only;omega,by dsimp only;omega,by unfold hd;dsimp only;omega⟩
      · exact ⟨p,by simpa using q1,by omega,by omega,by unfold hd;omega⟩
    obtain ⟨u,u1,u2,u3,u4⟩:=hu
    have h1:=ph_of u1 u2 u3 u4
    have e:om (w+1) (h+1) (p.1+1) (p.2+1)=(p.1+1,p.2+1):=by unfold om;rw [if_neg (by omega)]
    rw [e] at h1
    by_cases hi:inn w h u
    · have hx := ix_md hn hi
      have hgu:g (ix w u)=true:=(hg _ hx.1).2 (by
        cases hc:f (ix w u)
        · rfl
        · have:=(pic_iff (w:=w) (h:=h) (f:=f)).2 ⟨hi,hc⟩;rw [u1] at this;cases this)
      have hgd:=hL.mem hgu
      have h2:=conn_ph hn hg (hL.conn _ hgu) hx.1 hgu
      rw [pos_ix hn hi] at h2
      by_cases hb:brd n g d (edg w h) (d (ix w u))=true
      · obtain ⟨k, k1, k2, k3, k4⟩ := brd_iff.1 hb
        have h3:=conn_ph hn hg (hL.conn _ k2) k1 k2
        rw [k4] at h3
        have hp:pic w h f (pos w k)=false:=by rw [pic_pos hn k1];exact (hg _ k1).1 k2
        have hpl:=pos_le hn k1
        have hin:=pos_inn hn k1
        have hq:∃q:P2,¬inn w h q∧q.1≤w+1∧q.2≤h+1∧kg (pos w k) q:=by
          have k5:=edg_iff.1 k3
          have e1:(pos w k).1=k%w+1:=rfl
          have e2:(pos w k).2=k / w+1:=rfl
          rcases k5 with k5|k5|k5|k5
          · exact ⟨(0,(pos w k).2),by unfold inn;dsimp only;omega,by dsimp only;omega,by dsimp only;omega,by unfold kg;dsimp only;omega⟩
          · exact ⟨((pos w k).1,0),by unfold inn;dsimp only;omega,by dsimp only;omega,by dsimp only;omega,by unfold kg;dsimp only;omega⟩
          · exact ⟨(w+1,(pos w k).2),by unfold inn;dsimp only;omega,by dsimp only;omega,by dsimp only;omega,by unfold kg;dsimp only;omega⟩
          · exact ⟨((pos w k).1,h+1),by unfold inn;dsimp only;omega,by dsimp only;omega,by dsimp only;omega,by unfold kg;dsimp only;omega⟩
        obtain ⟨q,q1,q2,q3,q4⟩:=hq
        have hpq:pic w h f q=false:=by
          cases hc:pic w h f q
          · rfl
          · exact absurd (pic_iff.1 hc).1 q1
        exact ⟨(0,0),List.mem_cons_self ..,h1.trans (h2.trans (h3.symm.trans ((ph_kg hp hpq hpl.1 hpl.2 q2 q3 q4).trans (ph_out q2 q3 q1))))⟩
      · have hdn := hgn _ hgd
        refine ⟨pos w (d (ix w u)),List.mem_cons_of_mem _ (List.mem_append_left _ (List.mem_map.2 ⟨_,mem_hls.2 ⟨hdn,hgd,hL.idem hgu,hb⟩,rfl⟩)),?_⟩
        rw [ph_pos hn hdn] at h2
        exact h1.trans h2
    · exact ⟨(0,0),List.mem_cons_self ..,h1.trans (ph_out u2 u3 hi)⟩
  · have hl := k.const hlb
    have l0:wl w h n f g d (0,0)= .inl none:=rfl
    have cls:∀r,r∈((0,0) :: ((hls n w h g d).map (pos w)++(fls w h f).map (fun p=>(p.1+1,p.2+1))))→(r=(0,0)∧wl w h n f g d r= .inl none)∨(∃j,r=pos w j∧wl w h n f g d r= .inl (some j))∨wl w h n f g d r= .inr r:=fun r hr=>by
      rcases List.mem_cons.1 hr with rfl|hr
      · exact .inl ⟨rfl,l0⟩
      · rcases List.mem_append.1 hr with hr | hr
        · obtain ⟨j, hj, rfl⟩ := List.mem_map.1 hr
          exact .inr (.inl ⟨j,rfl,lp j hj⟩)
        · obtain ⟨p, hp, rfl⟩ := List.mem_map.1 hr
          exact .inr (.inr (lf p hp))
    rcases cls r hr with ⟨e1,a⟩|⟨j,e1,a⟩|a <;> rcases cls s hs with ⟨e2,b⟩|⟨i,e2,b⟩|b <;> rw [a,b] at hl
    · rw [e1,e2]
    · cases hl
    · cases hl
    · cases hl
    · rw [e1,e2,Option.some.inj (Sum.inl.inj hl)]
    · cases hl
    · cases hl
    · cases hl
    · exact Sum.inr.inj hl
end
end Go.Proofs.Ytefbbhiaalcjfaa.Eu
namespace Go.Proofs.Ytefbbhiaalcjfaa.Eu
open Go.Proofs.Ytefbbhiaalcjfaa.Fl
set_option linter.unusedVariables false
theorem len_sum {α:Type} (p:α→Bool) (l:List α):((l.filter p).length:Int)=(l.map fun a=>if p a=true then (1:Int) else 0).sum:=by
  induction l with
  |nil=>rfl
  |cons a l ih=>
    rw [List.filter_cons,List.map_cons,List.sum_cons,←ih]
    split
    · rw [List.length_cons];omega
    · omega
def b1 (a:Bool):Int:=if a=true then 1 else 0
def q4 (a b c d:Bool):Int:=b1 a+b1 b+b1 c+b1 d - 2*(b1 (a&&b)+b1 (c&&d)) - 2*(b1 (a&&c)+b1 (b&&d))+4*b1 ((a&&b)&&(c&&d))
theorem sm_sub (n:Nat) (f g:Nat→Int):sm n (fun i=>f i - g i)=sm n f - sm n g:=by
  induction n with
  |zero=>rfl
  |succ n ih=>rw [sm_succ,sm_succ,sm_succ,ih];omega
theorem sm_two (n:Nat) (f:Nat→Int) (h0:f 0=0) (h1:f n=0):sm n (fun i=>f i+f (i+1))=2*sm (n+1) f:=by
  rw [sm_add]
  have a:=sm_succ n f
  have b:=sm_first n f
  omega
section
variable {w h n : Nat} {f g : Nat → Bool}
theorem pic_out {x y:Nat} (ho:¬inn w h (x,y)):pic w h f (x,y)=false:=by
  cases hc:pic w h f (x,y)
  · rfl
  · exact absurd (pic_iff.1 hc).1 ho
def win4 (w h:Nat) (f:Nat→Bool) (x y:Nat):Int:=q4 (pic w h f (x,y)) (pic w h f (x+1,y)) (pic w h f (x,y+1)) (pic w h f (x+1,y+1))
def allq (w h:Nat) (f:Nat→Bool):Int:=sm (h+1) (fun y=>sm (w+1) (fun x=>win4 w h f x y))
theorem sum_pts:sm (h+1) (fun y=>sm (w+1) (fun x=>b1 (pic w h f (x,y))+b1 (pic w h f (x+1,y))+b1 (pic w h f (x,y+1))+b1 (pic w h f (x+1,y+1))))=4*(((gr (w+2) (h+2)).filter (pic w h f)).length:Int):=by
  have z:∀x y,¬inn w h (x,y)→b1 (pic w h f (x,y))=0:=fun x y ho=>by rw [pic_out ho];rfl
  have h1:∀y,sm (w+1) (fun x=>b1 (pic w h f (x,y))+b1 (pic w h f (x+1,y)))=2*sm (w+2) (fun x=>b1 (pic w h f (x,y))):=fun y=>
    sm_two (w+1) (fun x=>b1 (pic w h f (x,y))) (z _ _ (by unfold inn;dsimp only;omega)) (z _ _ (by unfold inn;dsimp only;omega))
  have z2:∀y,(y=0∨y=h+1)→2*sm (w+2) (fun x=>b1 (pic w h f (x,y)))=0:=fun y hy=>by
    rw [sm_congr (g:=fun _=>0) (fun x _=>z _ _ (by unfold inn;dsimp only;omega)),sm_zeros];rfl
  have h2:=sm_two (h+1) (fun y=>2*sm (w+2) (fun x=>b1 (pic w h f (x,y)))) (z2 _ (.inl rfl)) (z2 _ (.inr rfl))
  have h3:sm (h+1) (fun y=>sm (w+1) (fun x=>b1 (pic w h f (x,y))+b1 (pic w h f (x+1,y))+b1 (pic w h f (x,y+1))+b1 (pic w h f (x+1,y+1))))=sm (h+1) (fun y=>2*sm (w+2) (fun x=>b1 (pic w h f (x,y)))+2*sm (w+2) (fun x=>b1 (pic w h f (x,y+1)))):=by
    refine sm_congr fun y _=> ?_
    rw [← h1 y,←h1 (y+1),←sm_add]
    exact sm_congr fun x _=>by omega
  rw [h3,h2,sm_mul,len_sum,gr_sum]
  have:sm (h+2) (fun y=>sm (w+2) (fun x=>b1 (pic w h f (x,y))))=sm (h+2) (fun y=>sm (w+2) (fun x=>if pic w h f (x,y)=true then (1:Int) else 0)):=rfl
  rw [← this]
  show 2*(2*sm (h+2) _)=_
  omega
theorem sum_hor:sm (h+1) (fun y=>sm (w+1) (fun x=>b1 (pic w h f (x,y)&&pic w h f (x+1,y))+b1 (pic w h f (x,y+1)&&pic w h f (x+1,y+1))))=2*(((hor (w+1) (h+1)).filter (inA w h f)).length:Int):=by
  have z2:∀y,(y=0∨y=h+1)→sm (w+1) (fun x=>b1 (pic w h f (x,y)&&pic w h f (x+1,y)))=0:=fun y hy=>by
    rw [sm_congr (g:=fun _=>0) (fun x _=>by rw [pic_out (by unfold inn;dsimp only;omega)];rfl),sm_zeros]
  have h2:=sm_two (h+1) (fun y=>sm (w+1) (fun x=>b1 (pic w h f (x,y)&&pic w h f (x+1,y)))) (z2 _ (.inl rfl)) (z2 _ (.inr rfl))
  have h3:((hor (w+1) (h+1)).filter (inA w h f)).length=((gr (w+1) (h+2)).filter (fun p=>pic w h f p&&pic w h f (p.1+1,p.2))).length:=by
    unfold hor;rw [List.filter_map,List.length_map];rfl
  rw [h3,len_sum,gr_sum,sm_congr fun y _=>sm_add (w+1) (fun x=>b1 (pic w h f (x,y)&&pic w h f (x+1,y))) (fun x=>b1 (pic w h f (x,y+1)&&pic w h f (x+1,y+1)))]
  exact h2
theorem sum_ver:sm (h+1) (fun y=>sm (w+1) (fun x=>b1 (pic w h f (x,y)&&pic w h f (x,y+1))+b1 (pic w h f (x+1,y)&&pic w h f (x+1,y+1))))=2*(((ver (w+1) (h+1)).filter (inA w h f)).length:Int):=by
  have h1:∀y,sm (w+1) (fun x=>b1 (pic w h f (x,y)&&pic w h f (x,y+1))+b1 (pic w h f (x+1,y)&&pic w h f (x+1,y+1)))=2*sm (w+2) (fun x=>b1 (pic w h f (x,y)&&pic w h f (x,y+1))):=fun y=>
    sm_two (w+1) (fun x=>b1 (pic w h f (x,y)&&pic w h f (x,y+1))) (by rw [pic_out (x:=0) (y:=y) (by unfold inn;dsimp only;omega)];rfl) (by rw [pic_out (x:=w+1) (y:=y) (by unfold inn;dsimp only;omega)];rfl)
  have h3:((ver (w+1) (h+1)).filter (inA w h f)).length=((gr (w+2) (h+1)).filter (fun p=>pic w h f p&&pic w h f (p.1,p.2+1))).length:=by
    unfold ver;rw [List.filter_map,List.length_map];rfl
  rw [h3,len_sum,gr_sum,sm_congr fun y _=>h1 y,sm_mul]
  rfl
theorem sum_full:sm (h+1) (fun y=>sm (w+1) (fun x=>b1 ((pic w h f (x,y)&&pic w h f (x+1,y))&&(pic w h f (x,y+1)&&pic w h f (x+1,y+1)))))=((fls w h f).length:Int):=by
  unfold fls;rw [len_sum,gr_sum];rfl
theorem euler {c d:Nat→Nat} (hn:n=w*h) (hf:∀j,f j=true→j<n) (hc:Lst (fun j=>f j=true) (nb false w n) c) (hL:Lst (fun j=>g j=true) (nb true w n) d) (hgn:∀j,g j=true→j<n) (hg:∀j,j<n→(g j=true↔f j=false)):
    4*((cnt (ldr f c) n:Int) - (hol n g d (edg w h):Int))=allq w h f:=by
  have h1:=(pln (w+1) (h+1)).euler lk_perm (regions hn hf hc) (holes hn hL hgn hg)
  have h2:(cnt (ldr f c) n)=((List.range n).filter (ldr f c)).length:=rfl
  have h3:(hol n g d (edg w h))=(hls n w h g d).length:=rfl
  have h4:=(List.filter_append_perm (pic w h f) (gr (w+2) (h+2))).length_eq
  rw [List.length_append] at h4
  rw [List.length_append,List.length_map,List.length_cons,List.length_append,List.length_map,List.length_map,←h2,←h3] at h1
  have h5:(lkA w h f).length=((hor (w+1) (h+1)).filter (inA w h f)).length+((ver (w+1) (h+1)).filter (inA w h f)).length:=by
    unfold lkA grl;rw [List.filter_append,List.length_append]
  have e1:=sum_pts (w:=w) (h:=h) (f:=f)
  have e2:=sum_hor (w:=w) (h:=h) (f:=f)
  have e3:=sum_ver (w:=w) (h:=h) (f:=f)
  have e4:=sum_full (w:=w) (h:=h) (f:=f)
  have h6:allq w h f=sm (h+1) (fun y=>sm (w+1) (fun x=>b1 (pic w h f (x,y))+b1 (pic w h f (x+1,y))+b1 (pic w h f (x,y+1))+b1 (pic w h f (x+1,y+1)))) -
      2*sm (h+1) (fun y=>sm (w+1) (fun x=>b1 (pic w h f (x,y)&&pic w h f (x+1,y))+b1 (pic w h f (x,y+1)&&pic w h f (x+1,y+1)))) -
      2*sm (h+1) (fun y=>sm (w+1) (fun x=>b1 (pic w h f (x,y)&&pic w h f (x,y+1))+b1 (pic w h f (x+1,y)&&pic w h f (x+1,y+1))))+
      4*sm (h+1) (fun y=>sm (w+1) (fun x=>b1 ((pic w h f (x,y)&&pic w h f (x+1,y))&&(pic w h f (x,y+1)&&pic w h f (x+1,y+1))))):=by
    unfold allq win4 q4
    rw [← sm_mul,←sm_mul,←sm_mul,←sm_sub,←sm_sub,←sm_add]
    refine sm_congr fun y _=> ?_
    rw [← sm_mul,←sm_mul,←sm_mul,←sm_sub,←sm_sub,←sm_add]
  rw [h6,e1,e2,e3,e4]
  have h7:(gr (w+1+1) (h+1+1)).length=(gr (w+2) (h+2)).length:=rfl
  rw [h7] at h1
  omega
end
end Go.Proofs.Ytefbbhiaalcjfaa.Eu
namespace Go.Proofs.Ytefbbhiaalcjfaa.Eu
open Go.Proofs.Ytefbbhiaalcjfaa.Fl Go.Proofs.Ytefbbhiaalcjfaa.Sp
set_option linter.unusedVariables false
def picI (w h:Nat) (f:Nat→Bool) (x y:Int):Bool:=pic w h f ((x+1).toNat,(y+1).toNat)
theorem picI_no {w h:Nat} {f:Nat→Bool} {x y:Int} (hx:¬((0≤x∧x<w)∧0≤y∧y<h)):picI w h f x y=false:=pic_out (by unfold inn;dsimp only;omega)
theorem picI_ge {w h n:Nat} {l:List Int} {th x y:Int} (hn:l.length=n) (hwh:n=w*h) (hx:(0≤x∧x<w)∧0≤y∧y<h):picI w h (ge l th) x y=decide (th≤l.getD (y*w+x).toNat 0):=by
  obtain ⟨h0,h1,h2,h3⟩:=pix hx.1 hx.2
  have hi:inn w h ((x+1).toNat,(y+1).toNat):=by unfold inn;dsimp only;omega
  have e:ix w ((x+1).toNat,(y+1).toNat)=(y*w+x).toNat:=by
    have hd:=ix_md hwh hi
    have k1:=Nat.div_add_mod (ix w ((x+1).toNat,(y+1).toNat)) w
    have k2:=Nat.div_add_mod (y*w+x).toNat w
    rw [hd.2.1,hd.2.2] at k1
    rw [h2,h3] at k2
    dsimp only at k1
    have a1:(y+1).toNat - 1=y.toNat:=by omega
    have a2:(x+1).toNat - 1=x.toNat:=by omega
    rw [a1,a2] at k1
    omega
  unfold picI pic
  rw [decide_eq_true hi,Bool.true_and,e]
  unfold ge
  rw [decide_eq_true (by omega),Bool.true_and]
theorem picI_dec {w h n:Nat} {l:List Int} {th x y:Int} (hn:l.length=n) (hwh:n=w*h):decide (((((0≤x)∧(0≤y))∧(x<(w:Int)))∧(y<(h:Int)))∧(th≤l.getD (y*w+x).toNat 0))=picI w h (ge l th) x y:=by
  by_cases k:(0≤x∧x<(w:Int))∧0≤y∧y<(h:Int)
  · rw [picI_ge hn hwh k, decide_eq_decide]
    exact ⟨fun h=>h.2,fun h=>⟨⟨⟨⟨k.1.1,k.2.1⟩,k.1.2⟩,k.2.2⟩,h⟩⟩
  · rw [picI_no k];exact decide_eq_false fun h=>k ⟨⟨h.1.1.1.1,h.1.1.2⟩,h.1.1.1.2,h.1.2⟩
theorem b1_t {a:Bool} (h:a=true):b1 a=1:=by rw [h];rfl
theorem b1_f2 {a:Bool} (h:a=false):b1 a=0:=by rw [h];rfl
theorem b1_r (a:Bool):0≤b1 a∧b1 a≤1:=by cases a <;> decide
theorem q4_1 {a b c d:Bool} (h:b1 a+b1 b+b1 c+b1 d=1):q4 a b c d=1:=by revert h;cases a <;> cases b <;> cases c <;> cases d <;> decide
theorem q4_3 {a b c d:Bool} (h:b1 a+b1 b+b1 c+b1 d=3):q4 a b c d= -1:=by revert h;cases a <;> cases b <;> cases c <;> cases d <;> decide
theorem q4_2 {a b c d:Bool} (h:b1 a+b1 b+b1 c+b1 d=2∧a=d):q4 a b c d=2:=by revert h;cases a <;> cases b <;> cases c <;> cases d <;> decide
theorem q4_0 {a b c d:Bool} (h1:¬b1 a+b1 b+b1 c+b1 d=1) (h3:¬b1 a+b1 b+b1 c+b1 d=3) (h2:¬(b1 a+b1 b+b1 c+b1 d=2∧a=d)):q4 a b c d=0:=by revert h1 h2 h3;cases a <;> cases b <;> cases c <;> cases d <;> decide
theorem q4_b (a b c d:Bool): -2≤q4 a b c d∧q4 a b c d≤2:=by cases a <;> cases b <;> cases c <;> cases d <;> decide
theorem sm_b {n:Nat} {f:Nat→Int} {c:Int} (h:∀i,-c≤f i∧f i≤c): -(c*n)≤sm n f∧sm n f≤c*n:=by
  induction n with
  |zero=>rw [sm_zero];simp
  |succ n ih=>
    have:=h n
    rw [sm_succ,Int.natCast_add,Int.mul_add]
    have e:c*((1:Nat):Int)=c:=by simp
    rw [e];omega
def part (w h:Nat) (f:Nat→Bool) (i k:Nat):Int:=sm i (fun y=>sm (w+1) (fun x=>win4 w h f x y))+sm k (fun x=>win4 w h f x i)
theorem part_row (w h:Nat) (f:Nat→Bool) (i:Nat):part w h f i (w+1)=part w h f (i+1) 0:=by unfold part;rw [sm_succ i,sm_zero];omega
theorem part_k (w h:Nat) (f:Nat→Bool) (i k:Nat):part w h f i (k+1)=part w h f i k+win4 w h f k i:=by unfold part;rw [sm_succ];omega
theorem part_all (w h:Nat) (f:Nat→Bool):part w h f (h+1) 0=allq w h f:=by unfold part allq;rw [sm_zero];omega
theorem part_b {w h:Nat} {f:Nat→Bool} {i k:Nat} (hw:w≤64) (hi:i≤65) (hk:k≤65): -10000≤part w h f i k∧part w h f i k≤10000:=by
  have h1:∀x y,-2≤win4 w h f x y∧win4 w h f x y≤2:=fun x y=>q4_b _ _ _ _
  have h2:∀y,-130≤sm (w+1) (fun x=>win4 w h f x y)∧sm (w+1) (fun x=>win4 w h f x y)≤130:=fun y=>by
    have:=sm_b (n:=w+1) (fun x=>h1 x y)
    rw [Int.natCast_add] at this;omega
  have h3:=sm_b (n:=i) h2
  have h4:=sm_b (n:=k) (fun x=>h1 x i)
  unfold part
  omega
theorem win_I {w h:Nat} {f:Nat→Bool} (k i:Nat):win4 w h f k i=q4 (picI w h f ((k:Int) - 1) ((i:Int) - 1)) (picI w h f ((k:Int) - 1+1) ((i:Int) - 1)) (picI w h f ((k:Int) - 1) ((i:Int) - 1+1)) (picI w h f ((k:Int) - 1+1) ((i:Int) - 1+1)):=by
  unfold win4 picI
  have e1:∀j:Nat,((j:Int) - 1+1).toNat=j:=fun j=>by omega
  have e2:∀j:Nat,((j:Int) - 1+1+1).toNat=j+1:=fun j=>by omega
  simp only [e1,e2]
theorem law {w h n:Nat} {m th z:Int} {l:List Int} {A:List Bb} (hok:Bl.rok w h m l∧0≤th∧th≤65536) (hn:l.length=n) (hwh:n=w*h) (hA:BlsR w h m l th A) (hz:HolR w h m l th z):4*((A.length:Int) - z)=allq w h (ge l th):=by
  subst hn
  obtain ⟨c,o,hc,_,e⟩:=hA.1 hok
  obtain ⟨d,hd,e2⟩:=hz.1 hok
  have hlen:A.length=cnt (ldr (ge l th) c) l.length:=by rw [e,bls_len]
  rw [hlen,e2]
  refine euler hwh (fun j hj=> ?_) hc hd (fun j hj=> ?_) (fun j hj=> ?_)
  · unfold ge at hj;simp only [Bool.and_eq_true,decide_eq_true_eq] at hj;omega
  · unfold lo at hj;simp only [Bool.and_eq_true,decide_eq_true_eq] at hj;omega
  · unfold lo ge;rw [decide_eq_true hj];simp
theorem law_b {w h n:Nat} {m th z:Int} {l:List Int} {A:List Bb} (hok:Bl.rok w h m l∧0≤th∧th≤65536) (hn:l.length=n) (hA:BlsR w h m l th A) (hz:HolR w h m l th z):A.length≤n∧0≤z∧z≤n:=by
  subst hn
  obtain ⟨c,o,hc,_,e⟩:=hA.1 hok
  obtain ⟨d,hd,e2⟩:=hz.1 hok
  have h1:=cnt_le (ldr (ge l th) c) l.length
  have h2:hol l.length (lo l th) d (edg (w:Int).toNat (h:Int).toNat)≤l.length:=cnt_le _ _
  refine ⟨?_,by omega,by omega⟩
  rw [e,bls_len];exact h1
end Go.Proofs.Ytefbbhiaalcjfaa.Eu
namespace Go.Proofs.Ytefbbhiaalcjfaa.Sp
open Go
set_option linter.unusedVariables false
set_option maxRecDepth 100000
set_option maxHeartbeats 8000000
theorem zYa {w:Nat} {h:Nat} {m:Int} {p:Option Addr} {n:Nat} {cap:Nat} {l:List Int} {th:Int} {bR:Nat} {bT:Nat} {ex:Int} {ey:Int} (hn:l.length=n) (hw:1≤w∧w≤64) (hh:1≤h∧h≤64) (hwh:n=w*h) (hb:n≤4096) (hex: -1≤ex∧ex≤64) (hey: -1≤ey∧ey≤64):Con Try.prog 18 [.int .i64 ex,.int .i64 ey,.pointer (some ⟨bR,0,none⟩),.pointer (some ⟨bT,0,none⟩)] [] [atF bR 0 [.int .i64 ((w:Nat):Int),.int .i64 ((h:Nat):Int),.int .i64 m,.slice p n cap],atF bT 0 [.int .i64 th],slF (rI .i64) p cap l] (Y:=Unit) (fun y=>True) (fun y=> .bool (Eu.picI w h (Fl.ge l th) ex ey)) (fun y=>[]) (fun y=>[]):=by
  refine zr Try.func18 rfl rfl rfl (fun c=> ?_)
  show RunC _ _ _ _ _ [(0,.int .i64 ex),(1,.int .i64 ey),(2,.pointer (some ⟨bR,0,none⟩)),(3,.pointer (some ⟨bT,0,none⟩))] [] [atF bR 0 [.int .i64 ((w:Nat):Int),.int .i64 ((h:Nat):Int),.int .i64 m,.slice p n cap],atF bT 0 [.int .i64 th],slF (rI .i64) p cap l]
  refine zca 2 rfl (fun hL2=> ?_)
  have hp:(0≤ex∧ex<(w:Int))∧(0≤ey∧ey<(h:Int))→0≤ey*(w:Int)+ex∧(ey*(w:Int)+ex).toNat<w*h:=fun k=>⟨(Fl.pix k.1 k.2).1,(Fl.pix k.1 k.2).2.1⟩
  refine zi<|zc<|r_pv rfl rfl (zd rfl)<|zj<|ze<|zFa (X:=Unit) (fun x=>True) (fun x=>[(6,.bool (decide (((((0≤ex)∧(0≤ey))∧(ex<((w:Nat):Int)))∧(ey<((h:Nat):Int)))∧(th≤(l.getD (((ey*((w:Nat):Int))+ex).toNat) 0)))))]) (fun x=>[]) (fun x=>[atF bR 0 [.int .i64 ((w:Nat):Int),.int .i64 ((h:Nat):Int),.int .i64 m,.slice p n cap],atF bT 0 [.int .i64 th],slF (rI .i64) p cap l]) ?_ ?_
  ·
    refine zja (OW:=[]) (O:=[]) 100000 mixed (.then .ret) (by kernel_rfl)<|zEd (X:=PLift (¬(((((0≤ex)∧(0≤ey))∧(ex<((w:Nat):Int)))∧(ey<((h:Nat):Int)))∧(th≤(l.getD (((ey*((w:Nat):Int))+ex).toNat) 0))))) (k':=14) (L':=(lb 33 524287)) (fun _=>([(25,.bool false),(6,.bool false),(0,.int .i64 ex),(1,.int .i64 ey),(2,.pointer (some ⟨bR,0,none⟩)),(3,.pointer (some ⟨bT,0,none⟩))],[],[],[atF bR 0 [.int .i64 ((w:Nat):Int),.int .i64 ((h:Nat):Int),.int .i64 m,.slice p n cap],atF bT 0 [.int .i64 th],slF (rI .i64) p cap l])) ?_ (fun hJ3=> ?_)
    · as_aux_lemma =>
      rintro ⟨hx9⟩
      dsimp only
      refine zha 19 rfl rfl (by kernel_rfl) (by kernel_rfl) rfl rfl<|zha 20 rfl rfl (by kernel_rfl) (by kernel_rfl) rfl rfl<|zha 21 rfl rfl (by kernel_rfl) (by kernel_rfl) rfl rfl<|zha 22 rfl rfl (by kernel_rfl) (by kernel_rfl) rfl rfl<|zha 23 rfl rfl (by kernel_rfl) (by kernel_rfl) rfl rfl<|zha 24 rfl rfl (by kernel_rfl) (by kernel_rfl) rfl rfl<|zha 25 rfl rfl (by kernel_rfl) (by kernel_rfl) rfl rfl<|zha 26 rfl rfl (by kernel_rfl) (by kernel_rfl) rfl rfl<|zha 27 rfl rfl (by kernel_rfl) (by kernel_rfl) rfl rfl<|zha 28 rfl rfl (by kernel_rfl) (by kernel_rfl) rfl rfl<|zha 29 rfl rfl (by kernel_rfl) (by kernel_rfl) rfl rfl<|zha 30 rfl rfl (by kernel_rfl) (by kernel_rfl) rfl rfl<|d_pv 31 rfl rfl (by kernel_rfl) (by kernel_rfl) rfl rfl (zk rfl rfl)<|d_pv 32 rfl rfl (by kernel_rfl) (by kernel_rfl) rfl rfl (zd rfl)<|zga (by kernel_rfl) ?_
      exact zZ () (show True from by first|trivial|omega|simp_all) ((.e rfl (congrArg Value.bool (by first|exact (decide_eq_false hx9).symm|exact decide_eq_false hx9)) .n):SubM _ _) (ho:=(.n:PickO _ _ _)) ((.of [0,1,2] rfl):SelR _ _ _)
    refine zEd (X:=PLift (¬(((((0≤ex)∧(0≤ey))∧(ex<((w:Nat):Int)))∧(ey<((h:Nat):Int)))∧(th≤(l.getD (((ey*((w:Nat):Int))+ex).toNat) 0))))) (k':=20) (L':=(lb 33 8191)) (fun _=>([(19,.bool false),(6,.bool false),(0,.int .i64 ex),(1,.int .i64 ey),(2,.pointer (some ⟨bR,0,none⟩)),(3,.pointer (some ⟨bT,0,none⟩))],[],[],[atF bR 0 [.int .i64 ((w:Nat):Int),.int .i64 ((h:Nat):Int),.int .i64 m,.slice p n cap],atF bT 0 [.int .i64 th],slF (rI .i64) p cap l])) ?_ (fun hJ2=> ?_)
    · as_aux_lemma =>
      rintro ⟨hx9⟩
      dsimp only
      refine zha 13 rfl rfl (by kernel_rfl) (by kernel_rfl) rfl rfl<|zha 14 rfl rfl (by kernel_rfl) (by kernel_rfl) rfl rfl<|zha 15 rfl rfl (by kernel_rfl) (by kernel_rfl) rfl rfl<|zha 16 rfl rfl (by kernel_rfl) (by kernel_rfl) rfl rfl<|d_pv 17 rfl rfl (by kernel_rfl) (by kernel_rfl) rfl rfl (zk rfl rfl)<|d_pv 18 rfl rfl (by kernel_rfl) (by kernel_rfl) rfl rfl (zb rfl) ?_
      exact zyb (hJ3 ⟨hx9⟩) (by kernel_rfl) ((.of rfl):SubM _ _) .rfl .rfl ((.of [0,1,2] rfl):SelR _ _ _)
    refine zEd (X:=PLift (¬(((((0≤ex)∧(0≤ey))∧(ex<((w:Nat):Int)))∧(ey<((h:Nat):Int)))∧(th≤(l.getD (((ey*((w:Nat):Int))+ex).toNat) 0))))) (k':=26) (L':=(lb 33 127)) (fun _=>([(13,.bool false),(6,.bool false),(0,.int .i64 ex),(1,.int .i64 ey),(2,.pointer (some ⟨bR,0,none⟩)),(3,.pointer (some ⟨bT,0,none⟩))],[],[],[atF bR 0 [.int .i64 ((w:Nat):Int),.int .i64 ((h:Nat):Int),.int .i64 m,.slice p n cap],atF bT 0 [.int .i64 th],slF (rI .i64) p cap l])) ?_ (fun hJ1=> ?_)
    · as_aux_lemma =>
      rintro ⟨hx9⟩
      dsimp only
      refine zha 7 rfl rfl (by kernel_rfl) (by kernel_rfl) rfl rfl<|zha 8 rfl rfl (by kernel_rfl) (by kernel_rfl) rfl rfl<|zha 9 rfl rfl (by kernel_rfl) (by kernel_rfl) rfl rfl<|zha 10 rfl rfl (by kernel_rfl) (by kernel_rfl) rfl rfl<|d_pv 11 rfl rfl (by kernel_rfl) (by kernel_rfl) rfl rfl (zk rfl rfl)<|d_pv 12 rfl rfl (by kernel_rfl) (by kernel_rfl) rfl rfl (zb rfl) ?_
      exact zyb (hJ2 ⟨hx9⟩) (by kernel_rfl) ((.of rfl):SubM _ _) .rfl .rfl ((.of [0,1,2] rfl):SelR _ _ _)
    refine zEd (X:=PLift (¬(((((0≤ex)∧(0≤ey))∧(ex<((w:Nat):Int)))∧(ey<((h:Nat):Int)))∧(th≤(l.getD (((ey*((w:Nat):Int))+ex).toNat) 0))))) (k':=30) (L':=(lb 33 7)) (fun _=>([(9,.bool false),(6,.bool false),(0,.int .i64 ex),(1,.int .i64 ey),(2,.pointer (some ⟨bR,0,none⟩)),(3,.pointer (some ⟨bT,0,none⟩))],[],[],[atF bR 0 [.int .i64 ((w:Nat):Int),.int .i64 ((h:Nat):Int),.int .i64 m,.slice p n cap],atF bT 0 [.int .i64 th],slF (rI .i64) p cap l])) ?_ (fun hJ0=> ?_)
    · as_aux_lemma =>
      rintro ⟨hx9⟩
      dsimp only
      refine zha 3 rfl rfl (by kernel_rfl) (by kernel_rfl) rfl rfl<|zha 4 rfl rfl (by kernel_rfl) (by kernel_rfl) rfl rfl<|d_pv 5 rfl rfl (by kernel_rfl) (by kernel_rfl) rfl rfl (zk rfl rfl)<|d_pv 6 rfl rfl (by kernel_rfl) (by kernel_rfl) rfl rfl (zb rfl) ?_
      exact zyb (hJ1 ⟨hx9⟩) (by kernel_rfl) ((.of rfl):SubM _ _) .rfl .rfl ((.of [0,1,2] rfl):SelR _ _ _)
    refine d_pv 0 rfl rfl (by kernel_rfl) (by kernel_rfl) rfl rfl (zb rfl)<|d_pv 1 rfl rfl (by kernel_rfl) (by kernel_rfl) rfl rfl (zya rfl rfl)<|zvb 2 rfl rfl (by kernel_rfl) (by kernel_rfl) rfl rfl (zb rfl) (fun h1=> ?_) (fun h1=> ?_)
    · as_aux_lemma =>
      refine d_pv 3 rfl rfl (by kernel_rfl) (by kernel_rfl) rfl rfl (zb rfl)<|d_pv 4 rfl rfl (by kernel_rfl) (by kernel_rfl) rfl rfl (zya rfl rfl)<|d_pv 5 rfl rfl (by kernel_rfl) (by kernel_rfl) rfl rfl (zk rfl rfl)<|zvb 6 rfl rfl (by kernel_rfl) (by kernel_rfl) rfl rfl (zb rfl) (fun h2=> ?_) (fun h2=> ?_)
      · as_aux_lemma =>
        refine d_pv 7 rfl rfl (by kernel_rfl) (by kernel_rfl) rfl rfl (zb rfl)<|d_pv 8 rfl rfl (by kernel_rfl) (by kernel_rfl) rfl rfl (zg Try.underlying24 rfl sz3 rfl rfl)<|d_u 9 rfl rfl (by kernel_rfl) (by kernel_rfl) rfl rfl (zl (j:=0) 0 ty3 rfl rfl rfl rfl)<|d_pv 10 rfl rfl (by kernel_rfl) (by kernel_rfl) rfl rfl (zW rfl rfl)<|d_pv 11 rfl rfl (by kernel_rfl) (by kernel_rfl) rfl rfl (zk rfl rfl)<|zvb 12 rfl rfl (by kernel_rfl) (by kernel_rfl) rfl rfl (zb rfl) (fun h3=> ?_) (fun h3=> ?_)
        · as_aux_lemma =>
          refine d_pv 13 rfl rfl (by kernel_rfl) (by kernel_rfl) rfl rfl (zb rfl)<|d_pv 14 rfl rfl (by kernel_rfl) (by kernel_rfl) rfl rfl (zg Try.underlying24 rfl sz3 rfl rfl)<|d_u 15 rfl rfl (by kernel_rfl) (by kernel_rfl) rfl rfl (zl (j:=1) 0 ty3 rfl rfl rfl rfl)<|d_pv 16 rfl rfl (by kernel_rfl) (by kernel_rfl) rfl rfl (zW rfl rfl)<|d_pv 17 rfl rfl (by kernel_rfl) (by kernel_rfl) rfl rfl (zk rfl rfl)<|zvb 18 rfl rfl (by kernel_rfl) (by kernel_rfl) rfl rfl (zb rfl) (fun h4=> ?_) (fun h4=> ?_)
          · as_aux_lemma =>
            refine d_pv 19 rfl rfl (by kernel_rfl) (by kernel_rfl) rfl rfl (zg Try.underlying24 rfl sz22 rfl rfl)<|d_u 20 rfl rfl (by kernel_rfl) (by kernel_rfl) rfl rfl (zl (j:=3) 0 ty22 rfl rfl rfl rfl)<|d_pv 21 rfl rfl (by kernel_rfl) (by kernel_rfl) rfl rfl (zb rfl)<|d_pv 22 rfl rfl (by kernel_rfl) (by kernel_rfl) rfl rfl (zg Try.underlying24 rfl sz3 rfl rfl)<|d_u 23 rfl rfl (by kernel_rfl) (by kernel_rfl) rfl rfl (zl (j:=0) 0 ty3 rfl rfl rfl rfl)<|d_pv 24 rfl rfl (by kernel_rfl) (by kernel_rfl) rfl rfl (zla (z:=(ey*((w:Nat):Int))) rfl rfl (w64 (by omega)))<|d_pv 25 rfl rfl (by kernel_rfl) (by kernel_rfl) rfl rfl (zb rfl)<|d_pv 26 rfl rfl (by kernel_rfl) (by kernel_rfl) rfl rfl (zy (z:=((ey*((w:Nat):Int))+ex)) rfl rfl (w64 (by omega)))<|zoa (x0:=(l.getD (((ey*((w:Nat):Int))+ex).toNat) 0)) 27 rfl rfl (by kernel_rfl) (by kernel_rfl) 2 (((ey*((w:Nat):Int))+ex).toNat) rfl Try.underlying22 sz3 rfl rfl rfl (by first|rfl|assumption|(simp_all;done)|omega) rfl (by omega) (gD (d:=0) (by omega)) (fun b5 o6 hok7=> ?_)
            replace hok7:=zn.1 hok7
            refine d_u 28 rfl rfl (by kernel_rfl) (by kernel_rfl) rfl rfl (zl (j:=0) 0 ty3 rfl rfl rfl rfl)<|d_u 29 rfl rfl (by kernel_rfl) (by kernel_rfl) rfl rfl (zl (j:=0) 2 ty3 rfl rfl rfl rfl)<|d_pv 30 rfl rfl (by kernel_rfl) (by kernel_rfl) rfl rfl (zya rfl rfl)<|d_pv 31 rfl rfl (by kernel_rfl) (by kernel_rfl) rfl rfl (zk rfl rfl)<|d_pv 32 rfl rfl (by kernel_rfl) (by kernel_rfl) rfl rfl (zd rfl)<|zga (by kernel_rfl) ?_
            exact zZ () (show True from by first|trivial|omega|simp_all) ((.e rfl (congrArg Value.bool (by first|exact decide_eq_decide.2 ⟨fun e=>⟨⟨⟨⟨h1,h2⟩,h3⟩,h4⟩,e⟩,fun e=>e.2⟩|exact decide_eq_decide.2 ⟨fun e=>e.2,fun e=>⟨⟨⟨⟨h1,h2⟩,h3⟩,h4⟩,e⟩⟩)) .n):SubM _ _) (ho:=(.n:PickO _ _ _)) ((.of [1,2,3] rfl):SelR _ _ _)
          · as_aux_lemma =>
            exact zyb (hJ3 ⟨fun e=>h4 e.1.2⟩) (by kernel_rfl) ((.of rfl):SubM _ _) .rfl .rfl ((.of [0,1,2] rfl):SelR _ _ _)
        · as_aux_lemma =>
          exact zyb (hJ2 ⟨fun e=>h3 e.1.1.2⟩) (by kernel_rfl) ((.of rfl):SubM _ _) .rfl .rfl ((.of [0,1,2] rfl):SelR _ _ _)
      · as_aux_lemma =>
        exact zyb (hJ1 ⟨fun e=>h2 e.1.1.1.2⟩) (by kernel_rfl) ((.of rfl):SubM _ _) .rfl .rfl ((.of [0,1,2] rfl):SelR _ _ _)
    · as_aux_lemma =>
      exact zyb (hJ0 ⟨fun e=>h1 e.1.1.1.1⟩) (by kernel_rfl) ((.of rfl):SubM _ _) .rfl .rfl ((.of [0,1,2] rfl):SelR _ _ _)
  ·
    rintro ⟨⟩ -
    try dsimp only
    refine zI ?_
    exact zC Try.results18 () trivial (zq rfl) (congrArg Value.bool (Eu.picI_dec hn hwh).symm) (ho:=(.n:PickO _ _ _)) (.n:SelR _ _ _)
theorem zJc {w:Int} {h:Int} {m:Int} {p:Option Addr} {n:Nat} {cap:Nat} {l:List Int} {th:Int} (hn:l.length=n) (hth9: -9223372036854775808≤th∧th≤9223372036854775807):Con Try.prog 5 [.agg #[.int .i64 w,.int .i64 h,.int .i64 m,.slice p n cap],.int .i64 th] [] [slF (rI .i64) p cap l] (Y:=Unit) (fun y=>True) (fun y=> .bool true) (fun y=>[]) (fun y=>[]):=by
 refine zr Try.func5 rfl rfl rfl (fun c=> ?_)
 show RunC _ _ _ _ _ [(0,.agg #[.int .i64 w,.int .i64 h,.int .i64 m,.slice p n cap]),(1,.int .i64 th)] [] [slF (rI .i64) p cap l]
 refine zca 0 rfl (fun hL0=> ?_)
 refine zi<|zc<|zS rfl rfl (zX rfl rfl) (fun b1=> ?_)
 refine zS rfl rfl (zX rfl rfl) (fun b2=> ?_)
 refine r_pv rfl rfl (zd rfl)<|zj<|ze<|zi<|zi<|zc<|zO rfl rfl (.n) ce9 (zOe) (.n)<|r_pv rfl rfl (zCb rfl)<|zj<|ze<|zUa rfl rfl<|zA<|ze<|zi<|zFa (X:=Unit) (fun x=>True) (fun x=>[(26,.bool (decide ((¬(((n:Nat):Int)≤200))∨(((if Bl.rok w h m l then (if 0≤th∧th≤65536 then 0 else 2) else 1):Int)≠0)))),(4,.bool false),(3,.pointer (some ⟨b2,0,none⟩)),(2,.pointer (some ⟨b1,0,none⟩))]) (fun x=>[boxA b2 3 [.int .i64 th],boxA b1 24 [.int .i64 w,.int .i64 h,.int .i64 m,.slice p n cap]]) (fun x=>[slF (rI .i64) p cap l]) ?_ ?_
 ·
  refine zc<|r_u rfl rfl (zh 1 ty24 rfl rfl (.take (.take (.take (.take .nil)))))<|zO rfl rfl (.c rfl .n) ce10 (zyf (w:=w) (h:=h) (m:=m) (p:=p) (n:=n) (cap:=cap) (l:=l) (hn:=by assumption)) (.c (j:=0) rfl .n)<|r_pv rfl rfl (zjb rfl)<|zP rfl rfl (zb rfl) (fun h3=> ?_) (fun h3=> ?_)
  ·
   refine za rfl rfl<|za rfl rfl<|za rfl rfl<|za rfl rfl<|r_pv rfl rfl (zk rfl rfl)<|zj ?_
   exact zZ () (show True from by first|trivial|omega|simp_all) ((.e rfl (congrArg Value.bool (by first|(simp_all;done)|(simp_all;omega)|(simp;omega)|omega)) (.of rfl)):SubM _ _) (ho:=((.of [0,0] rfl):PickO _ _ _)) ((.c (j:=0) rfl .n):SelR _ _ _)
  ·
   refine r_u rfl rfl (zh 1 ty24 rfl rfl (.take (.take (.take (.take .nil)))))<|r_u rfl rfl (zf 0 ty3 rfl rfl rfl)<|zO rfl rfl (.c rfl (.c rfl .n)) ce16 (zSd (w:=w) (h:=h) (m:=m) (p:=p) (n:=n) (cap:=cap) (l:=l) (th:=th) (hn:=by assumption)) (.c (j:=0) rfl .n)<|r_pv rfl rfl (zIa rfl rfl)<|r_pv rfl rfl (zk rfl rfl)<|zj ?_
   exact zZ () (show True from by first|trivial|omega|simp_all) ((.e rfl (congrArg Value.bool (by first|(simp_all;done)|(simp_all;omega)|(simp;omega)|omega)) (.of rfl)):SubM _ _) (ho:=((.of [0,0] rfl):PickO _ _ _)) ((.c (j:=0) rfl .n):SelR _ _ _)
 ·
  rintro ⟨⟩ -
  try dsimp only
  refine zD rfl (fun hq=> ?_) (fun hq=> ?_)
  ·
   refine zi<|zc<|r_pv rfl rfl (zd rfl)<|zj<|ze<|zI<|zt ?_
   exact zC Try.results5 () trivial (zq rfl) rfl (ho:=(.n:PickO _ _ _)) (.n:SelR _ _ _)
  ·
   obtain ⟨hq1,hq2⟩:=not_or.1 hq
   have hok9:=Fl.ask0.1 (Decidable.not_not.1 hq2)
   obtain ⟨hq3,hq4⟩:=id hok9
   obtain ⟨wn,hn9,rfl,rfl,hw9,hh9,hwh,hb9⟩:=Fl.rok_n hok9.1 hn
   refine zA<|ze<|zi<|zc<|r_u rfl rfl (zh 1 ty24 rfl rfl (.take (.take (.take (.take .nil)))))<|r_u rfl rfl (zf 0 ty3 rfl rfl rfl)<|zB rfl rfl (.c rfl (.c rfl .n)) ce17 (zWc (w:=((wn:Nat):Int)) (h:=((hn9:Nat):Int)) (m:=m) (p:=p) (n:=n) (cap:=cap) (l:=l) (th:=th) (hn:=by assumption)) (.c (j:=0) rfl .n) ?_
   rintro ⟨p34,c35,A6⟩ hA
   dsimp only [List.append_eq,List.nil_append,List.cons_append]
   replace hA:Fl.BlsR ((wn:Nat):Int) ((hn9:Nat):Int) m l th A6:=hA
   refine r_pv rfl rfl (zb rfl)<|r_pv rfl rfl (zp rfl rfl)<|r_pv rfl rfl (zp rfl rfl)<|r_pv rfl rfl (zd rfl)<|r_pv rfl rfl (zd rfl)<|zj<|ze<|zi<|zc<|r_u rfl rfl (zh 1 ty24 rfl rfl (.take (.take (.take (.take .nil)))))<|r_u rfl rfl (zf 0 ty3 rfl rfl rfl)<|zB rfl rfl (.c rfl (.c rfl .n)) ce14 (zVc (w:=((wn:Nat):Int)) (h:=((hn9:Nat):Int)) (m:=m) (p:=p) (n:=n) (cap:=cap) (l:=l) (th:=th) (hn:=by assumption)) (.c (j:=1) rfl .n) ?_
   rintro z97 hZ
   dsimp only [List.append_eq,List.nil_append,List.cons_append]
   replace hZ:Fl.HolR ((wn:Nat):Int) ((hn9:Nat):Int) m l th z97:=hZ
   refine r_pv rfl rfl (zb rfl)<|r_pv rfl rfl (zp rfl rfl)<|r_pv rfl rfl (zp rfl rfl)<|r_pv rfl rfl (zd rfl)<|r_pv rfl rfl (zd rfl)<|zj<|ze<|zi<|zfb 1 rfl (.s .z)<|zfb 0 rfl .z<|zc<|r_pv rfl rfl (zQa .n (.c rfl (.c rfl .n)))<|r_pv rfl rfl (zd rfl)<|zj<|ze<|zi<|zc<|r_pv rfl rfl (zd rfl)<|zj<|ze<|zi<|zi<|zc<|r_pv rfl rfl (zd rfl)<|zj<|ze<|zz<|zma (X:=Nat) (fun x:Nat=>x≤hn9+1) (fun x=>[(10,.int .i64 (Eu.part wn hn9 (Fl.ge l th) x 0)),(11,.int .i64 (((x:Nat):Int) - 1)),(9,.func (.func 18) #[] #[.pointer (some ⟨b1,0,none⟩),.pointer (some ⟨b2,0,none⟩)]),(8,.int .i64 (if Bl.rok ((wn:Nat):Int) ((hn9:Nat):Int) m l then (if 0≤th∧th≤65536 then 0 else 2) else 1)),(7,.int .i64 z97),(6,.int .i64 (if Bl.rok ((wn:Nat):Int) ((hn9:Nat):Int) m l then (if 0≤th∧th≤65536 then 0 else 2) else 1)),(5,.slice p34 (A6.length) c35),(4,.bool false),(2,.pointer (some ⟨b1,0,none⟩))]) (fun x=>[]) (fun x=>[atF b2 0 [.int .i64 th],atF b1 0 [.int .i64 ((wn:Nat):Int),.int .i64 ((hn9:Nat):Int),.int .i64 m,.slice p n cap],slF (rI13 .i64) p34 c35 A6,slF (rI .i64) p cap l]) (fun x:Nat=>hn9+1 - x) 0 (show 0≤hn9+1 from by exact Nat.zero_le _) ((.e rfl (by first|rfl|(congr 1;omega)|simp_all) (.e rfl (by first|rfl|(congr 1;omega)|simp_all) (.of rfl))):SubM _ _) (ho:=(.n:PickO _ _ _)) ((.of [0,1,2,3] rfl):SelR _ _ _) ?_
   rintro i hI
   replace hI:i≤hn9+1:=hI
   try dsimp only
   refine zi<|zi<|zc<|r_pv rfl rfl (zb rfl)<|r_pv rfl rfl (zg Try.underlying24 rfl sz3 rfl rfl)<|r_u rfl rfl (zl (j:=1) 1 ty3 rfl rfl rfl rfl)<|r_pv rfl rfl (zW rfl rfl)<|zj<|ze<|zD rfl (fun h8=> ?_) (fun h8=> ?_)
   ·
    refine zA<|ze<|zi<|zz<|zi<|zc<|r_pv rfl rfl (zd rfl)<|zj<|ze<|zz<|zma (X:=Nat) (fun x:Nat=>x≤wn+1) (fun x=>[(10,.int .i64 (Eu.part wn hn9 (Fl.ge l th) i x)),(12,.int .i64 (((x:Nat):Int) - 1)),(11,.int .i64 (((i:Nat):Int) - 1)),(9,.func (.func 18) #[] #[.pointer (some ⟨b1,0,none⟩),.pointer (some ⟨b2,0,none⟩)]),(8,.int .i64 (if Bl.rok ((wn:Nat):Int) ((hn9:Nat):Int) m l then (if 0≤th∧th≤65536 then 0 else 2) else 1)),(7,.int .i64 z97),(6,.int .i64 (if Bl.rok ((wn:Nat):Int) ((hn9:Nat):Int) m l then (if 0≤th∧th≤65536 then 0 else 2) else 1)),(5,.slice p34 (A6.length) c35),(4,.bool false),(2,.pointer (some ⟨b1,0,none⟩))]) (fun x=>[]) (fun x=>[atF b2 0 [.int .i64 th],atF b1 0 [.int .i64 ((wn:Nat):Int),.int .i64 ((hn9:Nat):Int),.int .i64 m,.slice p n cap],slF (rI13 .i64) p34 c35 A6,slF (rI .i64) p cap l]) (fun x:Nat=>wn+1 - x) 0 (show 0≤wn+1 from by exact Nat.zero_le _) ((.c rfl (.e rfl (by first|rfl|(congr 1;omega)|simp_all) (.of rfl))):SubM _ _) (ho:=(.n:PickO _ _ _)) ((.of [0,1,2,3] rfl):SelR _ _ _) ?_
    rintro k hK
    replace hK:k≤wn+1:=hK
    try dsimp only
    refine zi<|zi<|zc<|r_pv rfl rfl (zb rfl)<|r_pv rfl rfl (zg Try.underlying24 rfl sz3 rfl rfl)<|r_u rfl rfl (zl (j:=0) 1 ty3 rfl rfl rfl rfl)<|r_pv rfl rfl (zW rfl rfl)<|zj<|ze<|zD rfl (fun h9=> ?_) (fun h9=> ?_)
    ·
     refine zA<|ze<|zi<|zz<|zi ?_
     have hpb:=Eu.part_b (w:=wn) (h:=hn9) (f:=(Fl.ge l th)) (i:=i) (k:=k) (by omega) (by omega) (by omega)
     have hpk:=Eu.part_k wn hn9 (Fl.ge l th) i k
     have hwin:=Eu.win_I (w:=wn) (h:=hn9) (f:=(Fl.ge l th)) k i
     have hb1:=Eu.b1_r (Eu.picI wn hn9 (Fl.ge l th) (((k:Nat):Int) - 1) (((i:Nat):Int) - 1))
     have hb2:=Eu.b1_r (Eu.picI wn hn9 (Fl.ge l th) ((((k:Nat):Int) - 1)+1) (((i:Nat):Int) - 1))
     have hb3:=Eu.b1_r (Eu.picI wn hn9 (Fl.ge l th) (((k:Nat):Int) - 1) ((((i:Nat):Int) - 1)+1))
     have hb4:=Eu.b1_r (Eu.picI wn hn9 (Fl.ge l th) ((((k:Nat):Int) - 1)+1) ((((i:Nat):Int) - 1)+1))
     refine zc<|r_pv rfl rfl (zd rfl)<|zj<|ze<|zi<|zi<|zc<|r_pv rfl rfl (zb rfl)<|r_pv rfl rfl (zb rfl)<|r_pv rfl rfl (zb rfl)<|zeb (first:=[]) (cap:=[.pointer (some ⟨b1,0,none⟩),.pointer (some ⟨b2,0,none⟩)]) rfl rfl rfl (.c rfl (.c rfl .n)) ce18 (zYa (w:=wn) (h:=hn9) (m:=m) (p:=p) (n:=n) (cap:=cap) (l:=l) (th:=th) (bR:=b1) (bT:=b2) (ex:=(((k:Nat):Int) - 1)) (ey:=(((i:Nat):Int) - 1)) (hn:=by assumption) (hw:=by first|rfl|assumption|omega) (hh:=by first|rfl|assumption|omega) (hwh:=by first|rfl|assumption|omega) (hb:=by first|rfl|assumption|omega) (hex:=by first|rfl|assumption|omega) (hey:=by first|rfl|assumption|omega)) (.c (j:=1) rfl (.c (j:=0) rfl (.c (j:=3) rfl .n))) ?_
     rintro ⟨⟩ -
     dsimp only [List.append_eq,List.nil_append,List.cons_append]
     refine r_pv rfl rfl (zb rfl)<|r_pv rfl rfl (zb rfl)<|r_pv rfl rfl (zy (z:=((((k:Nat):Int) - 1)+1)) rfl rfl (w64 (by first|omega|(simp;done))))<|r_pv rfl rfl (zb rfl)<|zeb (first:=[]) (cap:=[.pointer (some ⟨b1,0,none⟩),.pointer (some ⟨b2,0,none⟩)]) rfl rfl rfl (.c rfl (.c rfl .n)) ce18 (zYa (w:=wn) (h:=hn9) (m:=m) (p:=p) (n:=n) (cap:=cap) (l:=l) (th:=th) (bR:=b1) (bT:=b2) (ex:=((((k:Nat):Int) - 1)+1)) (ey:=(((i:Nat):Int) - 1)) (hn:=by assumption) (hw:=by first|rfl|assumption|omega) (hh:=by first|rfl|assumption|omega) (hwh:=by first|rfl|assumption|omega) (hb:=by first|rfl|assumption|omega) (hex:=by first|rfl|assumption|omega) (hey:=by first|rfl|assumption|omega)) (.c (j:=1) rfl (.c (j:=0) rfl (.c (j:=3) rfl .n))) ?_
     rintro ⟨⟩ -
     dsimp only [List.append_eq,List.nil_append,List.cons_append]
     refine r_pv rfl rfl (zb rfl)<|r_pv rfl rfl (zb rfl)<|r_pv rfl rfl (zb rfl)<|r_pv rfl rfl (zy (z:=((((i:Nat):Int) - 1)+1)) rfl rfl (w64 (by first|omega|(simp;done))))<|zeb (first:=[]) (cap:=[.pointer (some ⟨b1,0,none⟩),.pointer (some ⟨b2,0,none⟩)]) rfl rfl rfl (.c rfl (.c rfl .n)) ce18 (zYa (w:=wn) (h:=hn9) (m:=m) (p:=p) (n:=n) (cap:=cap) (l:=l) (th:=th) (bR:=b1) (bT:=b2) (ex:=(((k:Nat):Int) - 1)) (ey:=((((i:Nat):Int) - 1)+1)) (hn:=by assumption) (hw:=by first|rfl|assumption|omega) (hh:=by first|rfl|assumption|omega) (hwh:=by first|rfl|assumption|omega) (hb:=by first|rfl|assumption|omega) (hex:=by first|rfl|assumption|omega) (hey:=by first|rfl|assumption|omega)) (.c (j:=1) rfl (.c (j:=0) rfl (.c (j:=3) rfl .n))) ?_
     rintro ⟨⟩ -
     dsimp only [List.append_eq,List.nil_append,List.cons_append]
     refine r_pv rfl rfl (zb rfl)<|r_pv rfl rfl (zb rfl)<|r_pv rfl rfl (zy (z:=((((k:Nat):Int) - 1)+1)) rfl rfl (w64 (by first|omega|(simp;done))))<|r_pv rfl rfl (zb rfl)<|r_pv rfl rfl (zy (z:=((((i:Nat):Int) - 1)+1)) rfl rfl (w64 (by first|omega|(simp;done))))<|zeb (first:=[]) (cap:=[.pointer (some ⟨b1,0,none⟩),.pointer (some ⟨b2,0,none⟩)]) rfl rfl rfl (.c rfl (.c rfl .n)) ce18 (zYa (w:=wn) (h:=hn9) (m:=m) (p:=p) (n:=n) (cap:=cap) (l:=l) (th:=th) (bR:=b1) (bT:=b2) (ex:=((((k:Nat):Int) - 1)+1)) (ey:=((((i:Nat):Int) - 1)+1)) (hn:=by assumption) (hw:=by first|rfl|assumption|omega) (hh:=by first|rfl|assumption|omega) (hwh:=by first|rfl|assumption|omega) (hb:=by first|rfl|assumption|omega) (hex:=by first|rfl|assumption|omega) (hey:=by first|rfl|assumption|omega)) (.c (j:=1) rfl (.c (j:=0) rfl (.c (j:=3) rfl .n))) ?_
     rintro ⟨⟩ -
     dsimp only [List.append_eq,List.nil_append,List.cons_append]
     refine zta rfl rfl (zE (enc:=fun b:Bool=>[.bool b]) (ok:=fun _=>True) (h1:=fun _=>rfl) (h2:=fun _=>rfl) (k:=4) Try.underlying39 inf4 rfl (by decide) (by decide) (by decide) (.c (x:=(Eu.picI wn hn9 (Fl.ge l th) (((k:Nat):Int) - 1) (((i:Nat):Int) - 1))) rfl rfl (fun _ _=>by trivial) (.c (x:=(Eu.picI wn hn9 (Fl.ge l th) ((((k:Nat):Int) - 1)+1) (((i:Nat):Int) - 1))) rfl rfl (fun _ _=>by trivial) (.c (x:=(Eu.picI wn hn9 (Fl.ge l th) (((k:Nat):Int) - 1) ((((i:Nat):Int) - 1)+1))) rfl rfl (fun _ _=>by trivial) (.c (x:=(Eu.picI wn hn9 (Fl.ge l th) ((((k:Nat):Int) - 1)+1) ((((i:Nat):Int) - 1)+1))) rfl rfl (fun _ _=>by trivial) .n))))) (fun b10 _=> ?_)
     refine r_pv rfl rfl (zM Try.underlying39 rfl)<|r_pv rfl rfl (zb rfl)<|zj<|ze<|zz<|zmf<|zcc<|zi<|zc<|r_pv rfl rfl (zW rfl rfl)<|zj<|ze<|zi<|zub rfl rfl<|zA<|ze<|zFa (X:=Unit) (fun x=>True) (fun x=>[(13,.int .i64 (0+Eu.b1 (Eu.picI wn hn9 (Fl.ge l th) (((k:Nat):Int) - 1) (((i:Nat):Int) - 1)))),(75,.bool true),(74,.int .i64 0),(73,.int .i64 4),(72,.slice (some ⟨b10,0,none⟩) 4 4),(10,.int .i64 (Eu.part wn hn9 (Fl.ge l th) i k)),(12,.int .i64 (((k:Nat):Int) - 1)),(11,.int .i64 (((i:Nat):Int) - 1)),(9,.func (.func 18) #[] #[.pointer (some ⟨b1,0,none⟩),.pointer (some ⟨b2,0,none⟩)]),(8,.int .i64 (if Bl.rok ((wn:Nat):Int) ((hn9:Nat):Int) m l then (if 0≤th∧th≤65536 then 0 else 2) else 1)),(7,.int .i64 z97),(6,.int .i64 (if Bl.rok ((wn:Nat):Int) ((hn9:Nat):Int) m l then (if 0≤th∧th≤65536 then 0 else 2) else 1)),(5,.slice p34 (A6.length) c35),(4,.bool false),(2,.pointer (some ⟨b1,0,none⟩))]) (fun x=>[rowA 4 rB (some ⟨b10,0,none⟩) 4 ([(Eu.picI wn hn9 (Fl.ge l th) (((k:Nat):Int) - 1) (((i:Nat):Int) - 1)),(Eu.picI wn hn9 (Fl.ge l th) ((((k:Nat):Int) - 1)+1) (((i:Nat):Int) - 1)),(Eu.picI wn hn9 (Fl.ge l th) (((k:Nat):Int) - 1) ((((i:Nat):Int) - 1)+1)),(Eu.picI wn hn9 (Fl.ge l th) ((((k:Nat):Int) - 1)+1) ((((i:Nat):Int) - 1)+1))])]) (fun x=>[atF b2 0 [.int .i64 th],atF b1 0 [.int .i64 ((wn:Nat):Int),.int .i64 ((hn9:Nat):Int),.int .i64 m,.slice p n cap],slF (rI13 .i64) p34 c35 A6,slF (rI .i64) p cap l]) ?_ ?_
     ·
      refine zz<|zi<|zc<|r_pv rfl rfl (zN (j:=0) Try.underlying39 sz4 rfl rfl rfl (by first|omega|(simp;done)))<|r_vl rfl rfl (zU 0 0 rfl ty4 rfl rfl (gD (d:=false) (by first|omega|(simp;done))) rfl) (fun _ hok11=> ?_)
      refine r_pv rfl rfl (zd rfl)<|zj<|ze<|zi<|zc<|r_pv rfl rfl (zb rfl)<|zj<|ze<|zib rfl (fun h78=> ?_) (fun h78=> ?_)
      ·
       refine zc<|r_pv rfl rfl (zb rfl)<|r_pv rfl rfl (zy (z:=1) rfl rfl (w64 (by decide)))<|r_pv rfl rfl (zd rfl)<|zj<|zJ ?_
       exact zZ () (show True from by first|trivial|omega|simp_all) ((.e rfl (by refine congrArg (Value.int .i64) ?_;rw [Eu.b1_t (show (Eu.picI wn hn9 (Fl.ge l th) (((k:Nat):Int) - 1) (((i:Nat):Int) - 1))=true from h78)];rfl) (.of rfl)):SubM _ _) (ho:=((.c (i:=0) rfl .n):PickO _ _ _)) ((.of [0,1,2,3] rfl):SelR _ _ _)
      ·
       refine zA<|zJ ?_
       exact zZ () (show True from by first|trivial|omega|simp_all) ((.e rfl (by refine congrArg (Value.int .i64) ?_;rw [Eu.b1_f2 (show (Eu.picI wn hn9 (Fl.ge l th) (((k:Nat):Int) - 1) (((i:Nat):Int) - 1))=false from h78)];omega) (.of rfl)):SubM _ _) (ho:=((.c (i:=0) rfl .n):PickO _ _ _)) ((.of [0,1,2,3] rfl):SelR _ _ _)
     ·
      rintro ⟨⟩ -
      try dsimp only
      refine zc<|r_pv rfl rfl (zy (z:=1) rfl rfl (w64 (by decide)))<|r_pv rfl rfl (zb rfl)<|zj<|zCc<|zcc<|zi<|zc<|r_pv rfl rfl (zW rfl rfl)<|zj<|ze<|zi<|zub rfl rfl<|zA<|ze<|zFa (X:=Unit) (fun x=>True) (fun x=>[(13,.int .i64 ((0+Eu.b1 (Eu.picI wn hn9 (Fl.ge l th) (((k:Nat):Int) - 1) (((i:Nat):Int) - 1)))+Eu.b1 (Eu.picI wn hn9 (Fl.ge l th) ((((k:Nat):Int) - 1)+1) (((i:Nat):Int) - 1)))),(75,.bool true),(74,.int .i64 1),(81,.int .i64 1),(73,.int .i64 4),(72,.slice (some ⟨b10,0,none⟩) 4 4),(10,.int .i64 (Eu.part wn hn9 (Fl.ge l th) i k)),(12,.int .i64 (((k:Nat):Int) - 1)),(11,.int .i64 (((i:Nat):Int) - 1)),(9,.func (.func 18) #[] #[.pointer (some ⟨b1,0,none⟩),.pointer (some ⟨b2,0,none⟩)]),(8,.int .i64 (if Bl.rok ((wn:Nat):Int) ((hn9:Nat):Int) m l then (if 0≤th∧th≤65536 then 0 else 2) else 1)),(7,.int .i64 z97),(6,.int .i64 (if Bl.rok ((wn:Nat):Int) ((hn9:Nat):Int) m l then (if 0≤th∧th≤65536 then 0 else 2) else 1)),(5,.slice p34 (A6.length) c35),(4,.bool false),(2,.pointer (some ⟨b1,0,none⟩))]) (fun x=>[rowA 4 rB (some ⟨b10,0,none⟩) 4 ([(Eu.picI wn hn9 (Fl.ge l th) (((k:Nat):Int) - 1) (((i:Nat):Int) - 1)),(Eu.picI wn hn9 (Fl.ge l th) ((((k:Nat):Int) - 1)+1) (((i:Nat):Int) - 1)),(Eu.picI wn hn9 (Fl.ge l th) (((k:Nat):Int) - 1) ((((i:Nat):Int) - 1)+1)),(Eu.picI wn hn9 (Fl.ge l th) ((((k:Nat):Int) - 1)+1) ((((i:Nat):Int) - 1)+1))])]) (fun x=>[atF b2 0 [.int .i64 th],atF b1 0 [.int .i64 ((wn:Nat):Int),.int .i64 ((hn9:Nat):Int),.int .i64 m,.slice p n cap],slF (rI13 .i64) p34 c35 A6,slF (rI .i64) p cap l]) ?_ ?_
      ·
       refine zz<|zi<|zc<|r_pv rfl rfl (zN (j:=1) Try.underlying39 sz4 rfl rfl rfl (by first|omega|(simp;done)))<|r_vl rfl rfl (zU 0 1 rfl ty4 rfl rfl (gD (d:=false) (by first|omega|(simp;done))) rfl) (fun _ hok12=> ?_)
       refine r_pv rfl rfl (zd rfl)<|zj<|ze<|zi<|zc<|r_pv rfl rfl (zb rfl)<|zj<|ze<|zib rfl (fun h78=> ?_) (fun h78=> ?_)
       ·
        refine zc<|r_pv rfl rfl (zb rfl)<|r_pv rfl rfl (zy (z:=((0+Eu.b1 (Eu.picI wn hn9 (Fl.ge l th) (((k:Nat):Int) - 1) (((i:Nat):Int) - 1)))+1)) rfl rfl (w64 (by first|omega|(simp;done))))<|r_pv rfl rfl (zd rfl)<|zj<|zJ ?_
        exact zZ () (show True from by first|trivial|omega|simp_all) ((.e rfl (by refine congrArg (Value.int .i64) ?_;rw [Eu.b1_t (show (Eu.picI wn hn9 (Fl.ge l th) ((((k:Nat):Int) - 1)+1) (((i:Nat):Int) - 1))=true from h78)]) (.of rfl)):SubM _ _) (ho:=((.c (i:=0) rfl .n):PickO _ _ _)) ((.of [0,1,2,3] rfl):SelR _ _ _)
       ·
        refine zA<|zJ ?_
        exact zZ () (show True from by first|trivial|omega|simp_all) ((.e rfl (by refine congrArg (Value.int .i64) ?_;rw [Eu.b1_f2 (show (Eu.picI wn hn9 (Fl.ge l th) ((((k:Nat):Int) - 1)+1) (((i:Nat):Int) - 1))=false from h78)];omega) (.of rfl)):SubM _ _) (ho:=((.c (i:=0) rfl .n):PickO _ _ _)) ((.of [0,1,2,3] rfl):SelR _ _ _)
      ·
       rintro ⟨⟩ -
       try dsimp only
       refine zc<|r_pv rfl rfl (zy (z:=2) rfl rfl (w64 (by decide)))<|r_pv rfl rfl (zb rfl)<|zj<|zCc<|zcc<|zi<|zc<|r_pv rfl rfl (zW rfl rfl)<|zj<|ze<|zi<|zub rfl rfl<|zA<|ze<|zFa (X:=Unit) (fun x=>True) (fun x=>[(13,.int .i64 (((0+Eu.b1 (Eu.picI wn hn9 (Fl.ge l th) (((k:Nat):Int) - 1) (((i:Nat):Int) - 1)))+Eu.b1 (Eu.picI wn hn9 (Fl.ge l th) ((((k:Nat):Int) - 1)+1) (((i:Nat):Int) - 1)))+Eu.b1 (Eu.picI wn hn9 (Fl.ge l th) (((k:Nat):Int) - 1) ((((i:Nat):Int) - 1)+1)))),(75,.bool true),(74,.int .i64 2),(81,.int .i64 2),(73,.int .i64 4),(72,.slice (some ⟨b10,0,none⟩) 4 4),(10,.int .i64 (Eu.part wn hn9 (Fl.ge l th) i k)),(12,.int .i64 (((k:Nat):Int) - 1)),(11,.int .i64 (((i:Nat):Int) - 1)),(9,.func (.func 18) #[] #[.pointer (some ⟨b1,0,none⟩),.pointer (some ⟨b2,0,none⟩)]),(8,.int .i64 (if Bl.rok ((wn:Nat):Int) ((hn9:Nat):Int) m l then (if 0≤th∧th≤65536 then 0 else 2) else 1)),(7,.int .i64 z97),(6,.int .i64 (if Bl.rok ((wn:Nat):Int) ((hn9:Nat):Int) m l then (if 0≤th∧th≤65536 then 0 else 2) else 1)),(5,.slice p34 (A6.length) c35),(4,.bool false),(2,.pointer (some ⟨b1,0,none⟩))]) (fun x=>[rowA 4 rB (some ⟨b10,0,none⟩) 4 ([(Eu.picI wn hn9 (Fl.ge l th) (((k:Nat):Int) - 1) (((i:Nat):Int) - 1)),(Eu.picI wn hn9 (Fl.ge l th) ((((k:Nat):Int) - 1)+1) (((i:Nat):Int) - 1)),(Eu.picI wn hn9 (Fl.ge l th) (((k:Nat):Int) - 1) ((((i:Nat):Int) - 1)+1)),(Eu.picI wn hn9 (Fl.ge l th) ((((k:Nat):Int) - 1)+1) ((((i:Nat):Int) - 1)+1))])]) (fun x=>[atF b2 0 [.int .i64 th],atF b1 0 [.int .i64 ((wn:Nat):Int),.int .i64 ((hn9:Nat):Int),.int .i64 m,.slice p n cap],slF (rI13 .i64) p34 c35 A6,slF (rI .i64) p cap l]) ?_ ?_
       ·
        refine zz<|zi<|zc<|r_pv rfl rfl (zN (j:=2) Try.underlying39 sz4 rfl rfl rfl (by first|omega|(simp;done)))<|r_vl rfl rfl (zU 0 2 rfl ty4 rfl rfl (gD (d:=false) (by first|omega|(simp;done))) rfl) (fun _ hok13=> ?_)
        refine r_pv rfl rfl (zd rfl)<|zj<|ze<|zi<|zc<|r_pv rfl rfl (zb rfl)<|zj<|ze<|zib rfl (fun h78=> ?_) (fun h78=> ?_)
        ·
         refine zc<|r_pv rfl rfl (zb rfl)<|r_pv rfl rfl (zy (z:=(((0+Eu.b1 (Eu.picI wn hn9 (Fl.ge l th) (((k:Nat):Int) - 1) (((i:Nat):Int) - 1)))+Eu.b1 (Eu.picI wn hn9 (Fl.ge l th) ((((k:Nat):Int) - 1)+1) (((i:Nat):Int) - 1)))+1)) rfl rfl (w64 (by first|omega|(simp;done))))<|r_pv rfl rfl (zd rfl)<|zj<|zJ ?_
         exact zZ () (show True from by first|trivial|omega|simp_all) ((.e rfl (by refine congrArg (Value.int .i64) ?_;rw [Eu.b1_t (show (Eu.picI wn hn9 (Fl.ge l th) (((k:Nat):Int) - 1) ((((i:Nat):Int) - 1)+1))=true from h78)]) (.of rfl)):SubM _ _) (ho:=((.c (i:=0) rfl .n):PickO _ _ _)) ((.of [0,1,2,3] rfl):SelR _ _ _)
        ·
         refine zA<|zJ ?_
         exact zZ () (show True from by first|trivial|omega|simp_all) ((.e rfl (by refine congrArg (Value.int .i64) ?_;rw [Eu.b1_f2 (show (Eu.picI wn hn9 (Fl.ge l th) (((k:Nat):Int) - 1) ((((i:Nat):Int) - 1)+1))=false from h78)];omega) (.of rfl)):SubM _ _) (ho:=((.c (i:=0) rfl .n):PickO _ _ _)) ((.of [0,1,2,3] rfl):SelR _ _ _)
       ·
        rintro ⟨⟩ -
        try dsimp only
        refine zc<|r_pv rfl rfl (zy (z:=3) rfl rfl (w64 (by decide)))<|r_pv rfl rfl (zb rfl)<|zj<|zCc<|zcc<|zi<|zc<|r_pv rfl rfl (zW rfl rfl)<|zj<|ze<|zi<|zub rfl rfl<|zA<|ze<|zFa (X:=Unit) (fun x=>True) (fun x=>[(13,.int .i64 ((((0+Eu.b1 (Eu.picI wn hn9 (Fl.ge l th) (((k:Nat):Int) - 1) (((i:Nat):Int) - 1)))+Eu.b1 (Eu.picI wn hn9 (Fl.ge l th) ((((k:Nat):Int) - 1)+1) (((i:Nat):Int) - 1)))+Eu.b1 (Eu.picI wn hn9 (Fl.ge l th) (((k:Nat):Int) - 1) ((((i:Nat):Int) - 1)+1)))+Eu.b1 (Eu.picI wn hn9 (Fl.ge l th) ((((k:Nat):Int) - 1)+1) ((((i:Nat):Int) - 1)+1)))),(75,.bool true),(74,.int .i64 3),(81,.int .i64 3),(73,.int .i64 4),(72,.slice (some ⟨b10,0,none⟩) 4 4),(10,.int .i64 (Eu.part wn hn9 (Fl.ge l th) i k)),(12,.int .i64 (((k:Nat):Int) - 1)),(11,.int .i64 (((i:Nat):Int) - 1)),(9,.func (.func 18) #[] #[.pointer (some ⟨b1,0,none⟩),.pointer (some ⟨b2,0,none⟩)]),(8,.int .i64 (if Bl.rok ((wn:Nat):Int) ((hn9:Nat):Int) m l then (if 0≤th∧th≤65536 then 0 else 2) else 1)),(7,.int .i64 z97),(6,.int .i64 (if Bl.rok ((wn:Nat):Int) ((hn9:Nat):Int) m l then (if 0≤th∧th≤65536 then 0 else 2) else 1)),(5,.slice p34 (A6.length) c35),(4,.bool false),(2,.pointer (some ⟨b1,0,none⟩))]) (fun x=>[rowA 4 rB (some ⟨b10,0,none⟩) 4 ([(Eu.picI wn hn9 (Fl.ge l th) (((k:Nat):Int) - 1) (((i:Nat):Int) - 1)),(Eu.picI wn hn9 (Fl.ge l th) ((((k:Nat):Int) - 1)+1) (((i:Nat):Int) - 1)),(Eu.picI wn hn9 (Fl.ge l th) (((k:Nat):Int) - 1) ((((i:Nat):Int) - 1)+1)),(Eu.picI wn hn9 (Fl.ge l th) ((((k:Nat):Int) - 1)+1) ((((i:Nat):Int) - 1)+1))])]) (fun x=>[atF b2 0 [.int .i64 th],atF b1 0 [.int .i64 ((wn:Nat):Int),.int .i64 ((hn9:Nat):Int),.int .i64 m,.slice p n cap],slF (rI13 .i64) p34 c35 A6,slF (rI .i64) p cap l]) ?_ ?_
        ·
         refine zz<|zi<|zc<|r_pv rfl rfl (zN (j:=3) Try.underlying39 sz4 rfl rfl rfl (by first|omega|(simp;done)))<|r_vl rfl rfl (zU 0 3 rfl ty4 rfl rfl (gD (d:=false) (by first|omega|(simp;done))) rfl) (fun _ hok14=> ?_)
         refine r_pv rfl rfl (zd rfl)<|zj<|ze<|zi<|zc<|r_pv rfl rfl (zb rfl)<|zj<|ze<|zib rfl (fun h78=> ?_) (fun h78=> ?_)
         ·
          refine zc<|r_pv rfl rfl (zb rfl)<|r_pv rfl rfl (zy (z:=((((0+Eu.b1 (Eu.picI wn hn9 (Fl.ge l th) (((k:Nat):Int) - 1) (((i:Nat):Int) - 1)))+Eu.b1 (Eu.picI wn hn9 (Fl.ge l th) ((((k:Nat):Int) - 1)+1) (((i:Nat):Int) - 1)))+Eu.b1 (Eu.picI wn hn9 (Fl.ge l th) (((k:Nat):Int) - 1) ((((i:Nat):Int) - 1)+1)))+1)) rfl rfl (w64 (by first|omega|(simp;done))))<|r_pv rfl rfl (zd rfl)<|zj<|zJ ?_
          exact zZ () (show True from by first|trivial|omega|simp_all) ((.e rfl (by refine congrArg (Value.int .i64) ?_;rw [Eu.b1_t (show (Eu.picI wn hn9 (Fl.ge l th) ((((k:Nat):Int) - 1)+1) ((((i:Nat):Int) - 1)+1))=true from h78)]) (.of rfl)):SubM _ _) (ho:=((.c (i:=0) rfl .n):PickO _ _ _)) ((.of [0,1,2,3] rfl):SelR _ _ _)
         ·
          refine zA<|zJ ?_
          exact zZ () (show True from by first|trivial|omega|simp_all) ((.e rfl (by refine congrArg (Value.int .i64) ?_;rw [Eu.b1_f2 (show (Eu.picI wn hn9 (Fl.ge l th) ((((k:Nat):Int) - 1)+1) ((((i:Nat):Int) - 1)+1))=false from h78)];omega) (.of rfl)):SubM _ _) (ho:=((.c (i:=0) rfl .n):PickO _ _ _)) ((.of [0,1,2,3] rfl):SelR _ _ _)
        ·
         rintro ⟨⟩ -
         try dsimp only
         refine zc<|r_pv rfl rfl (zy (z:=4) rfl rfl (w64 (by decide)))<|r_pv rfl rfl (zb rfl)<|zj<|zCc<|zcc<|zi<|zc<|r_pv rfl rfl (zW rfl rfl)<|zj<|ze<|zi<|zUa rfl rfl<|zfa<|zm<|zm<|zv<|ze<|zz<|zi<|zc<|r_pv rfl rfl (zb rfl)<|r_pv rfl rfl (zua rfl rfl)<|r_pv rfl rfl (zd rfl)<|zj<|ze<|zD rfl (fun h1=> ?_) (fun h1=> ?_)
         ·
          refine zc<|r_pv rfl rfl (zb rfl)<|r_pv rfl rfl (zy (z:=((Eu.part wn hn9 (Fl.ge l th) i k)+1)) rfl rfl (w64 (by first|omega|(simp;done))))<|r_pv rfl rfl (zd rfl)<|zj<|zJ<|zJ<|ze<|zc<|r_pv rfl rfl (zb rfl)<|r_pv rfl rfl (zy (z:=((((k:Nat):Int) - 1)+1)) rfl rfl (w64 (by first|omega|(simp;done))))<|r_pv rfl rfl (zd rfl)<|zj<|zba (k+1) (show (k+1)≤wn+1 from by show k+1≤wn+1;omega) (by show wn+1 - (k+1)<wn+1 - k;omega) ((.e rfl (by refine congrArg (Value.int .i64) ?_;have h9:=Eu.q4_1 (a:=(Eu.picI wn hn9 (Fl.ge l th) (((k:Nat):Int) - 1) (((i:Nat):Int) - 1))) (b:=(Eu.picI wn hn9 (Fl.ge l th) ((((k:Nat):Int) - 1)+1) (((i:Nat):Int) - 1))) (c:=(Eu.picI wn hn9 (Fl.ge l th) (((k:Nat):Int) - 1) ((((i:Nat):Int) - 1)+1))) (d:=(Eu.picI wn hn9 (Fl.ge l th) ((((k:Nat):Int) - 1)+1) ((((i:Nat):Int) - 1)+1))) (by omega);rw [← hwin] at h9;omega) (.e rfl (by first|rfl|(congr 1;omega)|simp_all) (.of rfl))):SubM _ _) (ho:=(.n:PickO _ _ _)) ((.of [0,1,2,3] rfl):SelR _ _ _)
         ·
          refine zi<|zc<|r_pv rfl rfl (zb rfl)<|r_pv rfl rfl (zua rfl rfl)<|r_pv rfl rfl (zd rfl)<|zj<|ze<|zD rfl (fun h3=> ?_) (fun h3=> ?_)
          ·
           refine zc<|r_pv rfl rfl (zb rfl)<|r_pv rfl rfl (zda (z:=((Eu.part wn hn9 (Fl.ge l th) i k) - 1)) rfl rfl (w64 (by first|omega|(simp;done))))<|r_pv rfl rfl (zd rfl)<|zj<|zJ<|zJ<|ze<|zc<|r_pv rfl rfl (zb rfl)<|r_pv rfl rfl (zy (z:=((((k:Nat):Int) - 1)+1)) rfl rfl (w64 (by first|omega|(simp;done))))<|r_pv rfl rfl (zd rfl)<|zj<|zba (k+1) (show (k+1)≤wn+1 from by show k+1≤wn+1;omega) (by show wn+1 - (k+1)<wn+1 - k;omega) ((.e rfl (by refine congrArg (Value.int .i64) ?_;have h9:=Eu.q4_3 (a:=(Eu.picI wn hn9 (Fl.ge l th) (((k:Nat):Int) - 1) (((i:Nat):Int) - 1))) (b:=(Eu.picI wn hn9 (Fl.ge l th) ((((k:Nat):Int) - 1)+1) (((i:Nat):Int) - 1))) (c:=(Eu.picI wn hn9 (Fl.ge l th) (((k:Nat):Int) - 1) ((((i:Nat):Int) - 1)+1))) (d:=(Eu.picI wn hn9 (Fl.ge l th) ((((k:Nat):Int) - 1)+1) ((((i:Nat):Int) - 1)+1))) (by omega);rw [← hwin] at h9;omega) (.e rfl (by first|rfl|(congr 1;omega)|simp_all) (.of rfl))):SubM _ _) (ho:=(.n:PickO _ _ _)) ((.of [0,1,2,3] rfl):SelR _ _ _)
          ·
           refine zFa (X:=Unit) (fun x=>True) (fun x=>[(92,.bool (decide ((((((0+Eu.b1 (Eu.picI wn hn9 (Fl.ge l th) (((k:Nat):Int) - 1) (((i:Nat):Int) - 1)))+Eu.b1 (Eu.picI wn hn9 (Fl.ge l th) ((((k:Nat):Int) - 1)+1) (((i:Nat):Int) - 1)))+Eu.b1 (Eu.picI wn hn9 (Fl.ge l th) (((k:Nat):Int) - 1) ((((i:Nat):Int) - 1)+1)))+Eu.b1 (Eu.picI wn hn9 (Fl.ge l th) ((((k:Nat):Int) - 1)+1) ((((i:Nat):Int) - 1)+1)))=2)∧((Eu.picI wn hn9 (Fl.ge l th) (((k:Nat):Int) - 1) (((i:Nat):Int) - 1))=(Eu.picI wn hn9 (Fl.ge l th) ((((k:Nat):Int) - 1)+1) ((((i:Nat):Int) - 1)+1)))))),(10,.int .i64 (Eu.part wn hn9 (Fl.ge l th) i k)),(12,.int .i64 (((k:Nat):Int) - 1)),(11,.int .i64 (((i:Nat):Int) - 1)),(9,.func (.func 18) #[] #[.pointer (some ⟨b1,0,none⟩),.pointer (some ⟨b2,0,none⟩)]),(8,.int .i64 (if Bl.rok ((wn:Nat):Int) ((hn9:Nat):Int) m l then (if 0≤th∧th≤65536 then 0 else 2) else 1)),(7,.int .i64 z97),(6,.int .i64 (if Bl.rok ((wn:Nat):Int) ((hn9:Nat):Int) m l then (if 0≤th∧th≤65536 then 0 else 2) else 1)),(5,.slice p34 (A6.length) c35),(4,.bool false),(2,.pointer (some ⟨b1,0,none⟩))]) (fun x=>[rowA 4 rB (some ⟨b10,0,none⟩) 4 ([(Eu.picI wn hn9 (Fl.ge l th) (((k:Nat):Int) - 1) (((i:Nat):Int) - 1)),(Eu.picI wn hn9 (Fl.ge l th) ((((k:Nat):Int) - 1)+1) (((i:Nat):Int) - 1)),(Eu.picI wn hn9 (Fl.ge l th) (((k:Nat):Int) - 1) ((((i:Nat):Int) - 1)+1)),(Eu.picI wn hn9 (Fl.ge l th) ((((k:Nat):Int) - 1)+1) ((((i:Nat):Int) - 1)+1))])]) (fun x=>[atF b2 0 [.int .i64 th],atF b1 0 [.int .i64 ((wn:Nat):Int),.int .i64 ((hn9:Nat):Int),.int .i64 m,.slice p n cap],slF (rI13 .i64) p34 c35 A6,slF (rI .i64) p cap l]) ?_ ?_
           ·
            refine zc<|r_pv rfl rfl (zb rfl)<|r_pv rfl rfl (zua rfl rfl)<|zP rfl rfl (zb rfl) (fun h15=> ?_) (fun h15=> ?_)
            ·
             refine r_pv rfl rfl (zb rfl)<|r_pv rfl rfl (zb rfl)<|r_pv rfl rfl (zb rfl)<|zeb (first:=[]) (cap:=[.pointer (some ⟨b1,0,none⟩),.pointer (some ⟨b2,0,none⟩)]) rfl rfl rfl (.c rfl (.c rfl .n)) ce18 (zYa (w:=wn) (h:=hn9) (m:=m) (p:=p) (n:=n) (cap:=cap) (l:=l) (th:=th) (bR:=b1) (bT:=b2) (ex:=(((k:Nat):Int) - 1)) (ey:=(((i:Nat):Int) - 1)) (hn:=by assumption) (hw:=by first|rfl|assumption|omega) (hh:=by first|rfl|assumption|omega) (hwh:=by first|rfl|assumption|omega) (hb:=by first|rfl|assumption|omega) (hex:=by first|rfl|assumption|omega) (hey:=by first|rfl|assumption|omega)) (.c (j:=1) rfl (.c (j:=0) rfl (.c (j:=3) rfl .n))) ?_
             rintro ⟨⟩ -
             dsimp only [List.append_eq,List.nil_append,List.cons_append]
             refine r_pv rfl rfl (zb rfl)<|r_pv rfl rfl (zb rfl)<|r_pv rfl rfl (zy (z:=((((k:Nat):Int) - 1)+1)) rfl rfl (w64 (by first|omega|(simp;done))))<|r_pv rfl rfl (zb rfl)<|r_pv rfl rfl (zy (z:=((((i:Nat):Int) - 1)+1)) rfl rfl (w64 (by first|omega|(simp;done))))<|zeb (first:=[]) (cap:=[.pointer (some ⟨b1,0,none⟩),.pointer (some ⟨b2,0,none⟩)]) rfl rfl rfl (.c rfl (.c rfl .n)) ce18 (zYa (w:=wn) (h:=hn9) (m:=m) (p:=p) (n:=n) (cap:=cap) (l:=l) (th:=th) (bR:=b1) (bT:=b2) (ex:=((((k:Nat):Int) - 1)+1)) (ey:=((((i:Nat):Int) - 1)+1)) (hn:=by assumption) (hw:=by first|rfl|assumption|omega) (hh:=by first|rfl|assumption|omega) (hwh:=by first|rfl|assumption|omega) (hb:=by first|rfl|assumption|omega) (hex:=by first|rfl|assumption|omega) (hey:=by first|rfl|assumption|omega)) (.c (j:=1) rfl (.c (j:=0) rfl (.c (j:=3) rfl .n))) ?_
             rintro ⟨⟩ -
             dsimp only [List.append_eq,List.nil_append,List.cons_append]
             refine r_pv rfl rfl (zWb Try.underlying4 rfl rfl)<|r_pv rfl rfl (zk rfl rfl)<|r_pv rfl rfl (zd rfl)<|zj ?_
             exact zZ () (show True from by first|trivial|omega|simp_all) ((.e rfl (congrArg Value.bool (by first|(simp_all;done)|(simp_all;omega)|(simp;omega)|omega)) (.of rfl)):SubM _ _) (ho:=((.c (i:=0) rfl .n):PickO _ _ _)) ((.of [0,1,2,3] rfl):SelR _ _ _)
            ·
             refine za rfl rfl<|za rfl rfl<|za rfl rfl<|za rfl rfl<|za rfl rfl<|za rfl rfl<|za rfl rfl<|za rfl rfl<|za rfl rfl<|za rfl rfl<|za rfl rfl<|r_pv rfl rfl (zk rfl rfl)<|r_pv rfl rfl (zd rfl)<|zj ?_
             exact zZ () (show True from by first|trivial|omega|simp_all) ((.e rfl (congrArg Value.bool (by first|(simp_all;done)|(simp_all;omega)|(simp;omega)|omega)) (.of rfl)):SubM _ _) (ho:=((.c (i:=0) rfl .n):PickO _ _ _)) ((.of [0,1,2,3] rfl):SelR _ _ _)
           ·
            rintro ⟨⟩ -
            try dsimp only
            refine zD rfl (fun h2=> ?_) (fun h2=> ?_)
            ·
             refine zc<|r_pv rfl rfl (zb rfl)<|r_pv rfl rfl (zy (z:=((Eu.part wn hn9 (Fl.ge l th) i k)+2)) rfl rfl (w64 (by first|omega|(simp;done))))<|r_pv rfl rfl (zd rfl)<|zj<|zJ<|zJ<|ze<|zc<|r_pv rfl rfl (zb rfl)<|r_pv rfl rfl (zy (z:=((((k:Nat):Int) - 1)+1)) rfl rfl (w64 (by first|omega|(simp;done))))<|r_pv rfl rfl (zd rfl)<|zj<|zba (k+1) (show (k+1)≤wn+1 from by show k+1≤wn+1;omega) (by show wn+1 - (k+1)<wn+1 - k;omega) ((.e rfl (by refine congrArg (Value.int .i64) ?_;have h9:=Eu.q4_2 (a:=(Eu.picI wn hn9 (Fl.ge l th) (((k:Nat):Int) - 1) (((i:Nat):Int) - 1))) (b:=(Eu.picI wn hn9 (Fl.ge l th) ((((k:Nat):Int) - 1)+1) (((i:Nat):Int) - 1))) (c:=(Eu.picI wn hn9 (Fl.ge l th) (((k:Nat):Int) - 1) ((((i:Nat):Int) - 1)+1))) (d:=(Eu.picI wn hn9 (Fl.ge l th) ((((k:Nat):Int) - 1)+1) ((((i:Nat):Int) - 1)+1))) ⟨by omega,h2.2⟩;rw [← hwin] at h9;omega) (.e rfl (by first|rfl|(congr 1;omega)|simp_all) (.of rfl))):SubM _ _) (ho:=(.n:PickO _ _ _)) ((.of [0,1,2,3] rfl):SelR _ _ _)
            ·
             refine zA<|zJ<|zJ<|ze<|zc<|r_pv rfl rfl (zb rfl)<|r_pv rfl rfl (zy (z:=((((k:Nat):Int) - 1)+1)) rfl rfl (w64 (by first|omega|(simp;done))))<|r_pv rfl rfl (zd rfl)<|zj<|zba (k+1) (show (k+1)≤wn+1 from by show k+1≤wn+1;omega) (by show wn+1 - (k+1)<wn+1 - k;omega) ((.e rfl (by refine congrArg (Value.int .i64) ?_;have h9:=Eu.q4_0 (a:=(Eu.picI wn hn9 (Fl.ge l th) (((k:Nat):Int) - 1) (((i:Nat):Int) - 1))) (b:=(Eu.picI wn hn9 (Fl.ge l th) ((((k:Nat):Int) - 1)+1) (((i:Nat):Int) - 1))) (c:=(Eu.picI wn hn9 (Fl.ge l th) (((k:Nat):Int) - 1) ((((i:Nat):Int) - 1)+1))) (d:=(Eu.picI wn hn9 (Fl.ge l th) ((((k:Nat):Int) - 1)+1) ((((i:Nat):Int) - 1)+1))) (by omega) (by omega) (fun h=>h2 ⟨by omega,h.2⟩);rw [← hwin] at h9;omega) (.e rfl (by first|rfl|(congr 1;omega)|simp_all) (.of rfl))):SubM _ _) (ho:=(.n:PickO _ _ _)) ((.of [0,1,2,3] rfl):SelR _ _ _)
    ·
     refine zfa<|zm<|zm<|zv<|zJ<|ze<|zc<|r_pv rfl rfl (zb rfl)<|r_pv rfl rfl (zy (z:=((((i:Nat):Int) - 1)+1)) rfl rfl (w64 (by first|omega|(simp;done))))<|r_pv rfl rfl (zd rfl)<|zj<|zba (i+1) (show (i+1)≤hn9+1 from by show i+1≤hn9+1;omega) (by show hn9+1 - (i+1)<hn9+1 - i;omega) ((.e rfl (by refine congrArg (Value.int .i64) ?_;rw [show k=wn+1 by omega,Eu.part_row]) (.e rfl (by first|rfl|(congr 1;omega)|simp_all) (.of rfl))):SubM _ _) (ho:=(.n:PickO _ _ _)) ((.of [0,1,2,3] rfl):SelR _ _ _)
   ·
    refine zfa<|zm<|zm<|zv<|ze<|zi ?_
    have hlw:=Eu.law hok9 hn hwh hA hZ
    obtain ⟨hlb1,hlb2,hlb3⟩:=Eu.law_b hok9 hn hA hZ
    have hpa:=Eu.part_all wn hn9 (Fl.ge l th)
    have hi9:i=hn9+1:=by omega
    refine zc<|r_pv rfl rfl (zb rfl)<|r_pv rfl rfl (zua rfl rfl) ?_
    rw [show (decide (((if Bl.rok ((wn:Nat):Int) ((hn9:Nat):Int) m l then (if 0≤th∧th≤65536 then 0 else 2) else 1):Int)=0))=true from by exact decide_eq_true (Fl.ask0.2 hok9)]
    refine r_pv rfl rfl (zb rfl)<|r_pv rfl rfl (zb rfl)<|r_pv rfl rfl (zua rfl rfl) ?_
    rw [show (decide (((if Bl.rok ((wn:Nat):Int) ((hn9:Nat):Int) m l then (if 0≤th∧th≤65536 then 0 else 2) else 1):Int)=0))=true from by exact decide_eq_true (Fl.ask0.2 hok9)]
    refine r_pv rfl rfl (zk rfl rfl)<|r_pv rfl rfl (zb rfl)<|r_pv rfl rfl (zb rfl)<|r_pv rfl rfl (zM Try.underlying35 rfl)<|r_pv rfl rfl (zb rfl)<|r_pv rfl rfl (zda (z:=((((A6.length):Nat):Int) - z97)) rfl rfl (w64 (by first|omega|(simp;done))))<|r_pv rfl rfl (zla (z:=(4*((((A6.length):Nat):Int) - z97))) rfl rfl (w64 (by first|omega|(simp;done))))<|r_pv rfl rfl (zb rfl)<|r_pv rfl rfl (zua rfl rfl) ?_
    rw [show (decide ((4*((((A6.length):Nat):Int) - z97))=(Eu.part wn hn9 (Fl.ge l th) i 0)))=true from by exact decide_eq_true (by rw [hi9,hpa];exact hlw)]
    refine r_pv rfl rfl (zk rfl rfl)<|r_pv rfl rfl (zd rfl)<|zj<|ze<|zI ?_
    exact zC Try.results5 () trivial (zq rfl) rfl (ho:=(.n:PickO _ _ _)) (.n:SelR _ _ _)
end Go.Proofs.Ytefbbhiaalcjfaa.Sp
