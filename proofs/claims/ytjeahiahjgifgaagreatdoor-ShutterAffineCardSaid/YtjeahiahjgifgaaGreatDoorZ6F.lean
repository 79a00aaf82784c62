/- Lemmas on the walk and plain lemmas that the claim of this folder uses; each states its own conditions. Lines were printed by a program of ours. -/
import Derived.Test.YtjeahiahjgifgaaGreatDoorZ6E
set_option linter.unusedVariables false
set_option linter.unusedSimpArgs false
set_option linter.unusedSectionVars false
namespace Go.Proofs.YtjeahiahjgifgaaGreatDoor.Sp
open Go
set_option linter.unusedVariables false
set_option maxRecDepth 100000
set_option maxHeartbeats 8000000
theorem zTb {cm:Sh.C} {h:Int} (h64fo: -9223372036854775808≤cm.fo∧cm.fo≤9223372036854775807) (h64cx: -9223372036854775808≤cm.cx∧cm.cx≤9223372036854775807) (h64cy: -9223372036854775808≤cm.cy∧cm.cy≤9223372036854775807) (h64h: -9223372036854775808≤h∧h≤9223372036854775807):Con Tryz.prog 45 [.agg #[.int .i64 (cm.fo),.int .i64 (cm.cx),.int .i64 (cm.cy)],.int .i64 h] [] [] (Y:=Unit) (fun y=>True) (fun y=> .bool (decide (Sh.cam cm∧Sh.inb h))) (fun y=>[]) (fun y=>[]):=by
 refine zA Tryz.func45 rfl rfl rfl (fun c=> ?_)
 show RunC _ _ _ _ _ [(0,.agg #[.int .i64 (cm.fo),.int .i64 (cm.cx),.int .i64 (cm.cy)]),(1,.int .i64 h)] [] []
 refine zk<|zc<|zK rfl rfl (zfa rfl rfl) (fun b1=> ?_)
 refine r_pv rfl rfl (zh rfl)<|zl<|zg<|zKa (X:=Unit) (fun x=>True) (fun x=>[(4,.bool (decide (((1≤cm.fo)∧(cm.fo≤1048576))∧(Sh.wi 1048576 ([cm.cx,cm.cy,h])))))]) (fun x=>[boxA b1 37 [.int .i64 (cm.fo),.int .i64 (cm.cx),.int .i64 (cm.cy)]]) (fun x=>[]) ?_ ?_
 ·
  refine zc<|r_pv rfl rfl (zi Tryz.underlying37 rfl sz3 rfl rfl)<|r_u rfl rfl (zf 0 ty3 rfl rfl rfl)<|r_pv rfl rfl (zqb rfl rfl)<|zta rfl rfl (zd rfl) (fun h2=> ?_) (fun h2=> ?_)
  ·
   refine r_pv rfl rfl (zi Tryz.underlying37 rfl sz3 rfl rfl)<|r_u rfl rfl (zf 0 ty3 rfl rfl rfl)<|r_pv rfl rfl (zLc rfl rfl)<|r_pv rfl rfl (zW rfl rfl)<|zta rfl rfl (zd rfl) (fun h3=> ?_) (fun h3=> ?_)
   ·
    refine r_pv rfl rfl (zi Tryz.underlying37 rfl sz35 rfl rfl)<|r_pv rfl rfl (zi Tryz.underlying35 rfl sz3 rfl rfl)<|r_u rfl rfl (zf 0 ty3 rfl rfl rfl)<|r_pv rfl rfl (zi Tryz.underlying37 rfl sz35 rfl rfl)<|r_pv rfl rfl (zi Tryz.underlying35 rfl sz3 rfl rfl)<|r_u rfl rfl (zf 0 ty3 rfl rfl rfl)<|r_pv rfl rfl (zd rfl)<|zLa rfl rfl (zda (enc:=fun z:Int=>[.int .i64 z]) (ok:=InK .i64) (h1:=fun _=>rfl) (h2:=fun _=>rfl) (k:=3) Tryz.underlying51 inf3 rfl (by decide) (by decide) (by decide) (.c (x:=cm.cx) rfl rfl (fun _ _=>by exact zD.2 (by omega)) (.c (x:=cm.cy) rfl rfl (fun _ _=>by exact zD.2 (by omega)) (.c (x:=h) rfl rfl (fun _ _=>by exact zD.2 (by omega)) .n)))) (fun b4 _=> ?_)
    refine zsa 0 rfl .z<|zX rfl rfl (.c rfl (.c rfl .n)) ce42 (znb (p:=some ⟨b4,0,none⟩) (n:=3) (cap:=3) (l:=[cm.cx,cm.cy,h]) (m:=1048576) (hn:=by first|rfl|assumption|decide|omega) (hm:=by first|rfl|assumption|decide|omega)) (.c (j:=0) rfl .n)<|r_pv rfl rfl (zW rfl rfl)<|r_pv rfl rfl (zh rfl)<|zl ?_
    exact zoa () (show True from by first|trivial|omega|simp_all) ((.e rfl (congrArg Value.bool (by first|(simp_all;done)|(simp_all;omega)|(simp;omega)|omega)) .n):SubM _ _) (ho:=((.c (i:=1) rfl .n):PickO _ _ _)) (.n:SelR _ _ _)
   ·
    refine zm rfl rfl<|zm rfl rfl<|zm rfl rfl<|zm rfl rfl<|zm rfl rfl<|zm rfl rfl<|zm rfl rfl<|zm rfl rfl<|zm rfl rfl<|r_pv rfl rfl (zW rfl rfl)<|r_pv rfl rfl (zh rfl)<|zl ?_
    exact zoa () (show True from by first|trivial|omega|simp_all) ((.e rfl (congrArg Value.bool (by first|(simp_all;done)|(simp_all;omega)|(simp;omega)|omega)) .n):SubM _ _) (ho:=((.c (i:=0) rfl .n):PickO _ _ _)) (.n:SelR _ _ _)
  ·
   refine zm rfl rfl<|zm rfl rfl<|zm rfl rfl<|r_pv rfl rfl (zW rfl rfl)<|r_pv rfl rfl (zd rfl)<|zm rfl rfl<|zm rfl rfl<|zm rfl rfl<|zm rfl rfl<|zm rfl rfl<|zm rfl rfl<|zm rfl rfl<|zm rfl rfl<|zm rfl rfl<|r_pv rfl rfl (zW rfl rfl)<|r_pv rfl rfl (zh rfl)<|zl ?_
   exact zoa () (show True from by first|trivial|omega|simp_all) ((.e rfl (congrArg Value.bool (by first|(simp_all;done)|(simp_all;omega)|(simp;omega)|omega)) .n):SubM _ _) (ho:=((.c (i:=0) rfl .n):PickO _ _ _)) (.n:SelR _ _ _)
 ·
  rintro ⟨⟩ -
  try dsimp only
  refine zT ?_
  exact zO Tryz.results45 () trivial (zG rfl) (congrArg Value.bool (decide_eq_decide.2 (by unfold Sh.cam Sh.inb;rw [Sh.wi_3];constructor <;> intro k <;> omega))) (ho:=(.n:PickO _ _ _)) (.n:SelR _ _ _)
theorem zcc {u:Int} {v:Int} (h64u: -9223372036854775808≤u∧u≤9223372036854775807) (h64v: -9223372036854775808≤v∧v≤9223372036854775807):Con Tryz.prog 46 [.agg #[.int .i64 u,.int .i64 v]] [] [] (Y:=Unit) (fun y=>True) (fun y=> .bool (decide (Sh.inb u∧Sh.inb v∧Sh.inr (Sh.ro v)))) (fun y=>[]) (fun y=>[]):=by
 refine zA Tryz.func46 rfl rfl rfl (fun c=> ?_)
 show RunC _ _ _ _ _ [(0,.agg #[.int .i64 u,.int .i64 v])] [] []
 refine zk<|zc<|zK rfl rfl (zfa rfl rfl) (fun b1=> ?_)
 refine r_pv rfl rfl (zh rfl)<|zl<|zg<|zKa (X:=Unit) (fun x=>True) (fun x=>[(2,.bool (decide ((Sh.wi 1048576 ([u,v]))∧(0≤(Sh.ro v)∧(Sh.ro v)<64))))]) (fun x=>[boxA b1 35 [.int .i64 u,.int .i64 v]]) (fun x=>[]) ?_ ?_
 ·
  refine zc<|r_pv rfl rfl (zi Tryz.underlying35 rfl sz3 rfl rfl)<|r_u rfl rfl (zf 0 ty3 rfl rfl rfl)<|r_pv rfl rfl (zi Tryz.underlying35 rfl sz3 rfl rfl)<|r_u rfl rfl (zf 0 ty3 rfl rfl rfl)<|zLa rfl rfl (zda (enc:=fun z:Int=>[.int .i64 z]) (ok:=InK .i64) (h1:=fun _=>rfl) (h2:=fun _=>rfl) (k:=2) Tryz.underlying51 inf3 rfl (by decide) (by decide) (by decide) (.c (x:=u) rfl rfl (fun _ _=>by exact zD.2 (by omega)) (.c (x:=v) rfl rfl (fun _ _=>by exact zD.2 (by omega)) .n))) (fun b2 _=> ?_)
  refine zsa 0 rfl .z<|zX rfl rfl (.c rfl (.c rfl .n)) ce42 (znb (p:=some ⟨b2,0,none⟩) (n:=2) (cap:=2) (l:=[u,v]) (m:=1048576) (hn:=by first|rfl|assumption|decide|omega) (hm:=by first|rfl|assumption|decide|omega)) (.c (j:=0) rfl .n)<|zta rfl rfl (zd rfl) (fun h3=> ?_) (fun h3=> ?_)
  ·
   refine r_u rfl rfl (ze 1 ty35 rfl rfl (.take (.take .nil)))<|zX rfl rfl (.c rfl .n) ce74 (zHd (u:=u) (v:=v)) (.n)<|zX rfl rfl (.c rfl .n) ce44 (zwc (r:=(Sh.ro v))) (.n)<|r_pv rfl rfl (zW rfl rfl)<|r_pv rfl rfl (zh rfl)<|zl ?_
   exact zoa () (show True from by first|trivial|omega|simp_all) ((.e rfl (congrArg Value.bool (by first|(simp_all;done)|(simp_all;omega)|(simp;omega)|omega)) .n):SubM _ _) (ho:=((.c (i:=1) rfl .n):PickO _ _ _)) (.n:SelR _ _ _)
  ·
   refine zm rfl rfl<|zm rfl rfl<|zm rfl rfl<|r_pv rfl rfl (zW rfl rfl)<|r_pv rfl rfl (zh rfl)<|zl ?_
   exact zoa () (show True from by first|trivial|omega|simp_all) ((.e rfl (congrArg Value.bool (by first|(simp_all;done)|(simp_all;omega)|(simp;omega)|omega)) .n):SubM _ _) (ho:=((.c (i:=1) rfl .n):PickO _ _ _)) (.n:SelR _ _ _)
 ·
  rintro ⟨⟩ -
  try dsimp only
  refine zT ?_
  exact zO Tryz.results46 () trivial (zG rfl) (congrArg Value.bool (decide_eq_decide.2 (by unfold Sh.inb Sh.inr;rw [Sh.wi_2];constructor <;> intro k <;> omega))) (ho:=(.n:PickO _ _ _)) (.n:SelR _ _ _)
end Go.Proofs.YtjeahiahjgifgaaGreatDoor.Sp
namespace Go.Proofs.YtjeahiahjgifgaaGreatDoor.Sp
open Go
set_option linter.unusedVariables false
set_option maxRecDepth 100000
set_option maxHeartbeats 8000000
theorem znd {s:Sh.S} {cm:Sh.C} {u:Int} {v:Int} {h:Int} (hfi: -9223372036854775808≤s.fi∧s.fi≤9223372036854775807) (hst: -9223372036854775808≤s.st∧s.st≤9223372036854775807) (hta: -9223372036854775808≤s.ta∧s.ta≤9223372036854775807) (htb: -9223372036854775808≤s.tb∧s.tb≤9223372036854775807) (hxa: -9223372036854775808≤s.xa∧s.xa≤9223372036854775807) (hya: -9223372036854775808≤s.ya∧s.ya≤9223372036854775807) (hza: -9223372036854775808≤s.za∧s.za≤9223372036854775807) (hqa: -9223372036854775808≤s.qa∧s.qa≤9223372036854775807) (hqb: -9223372036854775808≤s.qb∧s.qb≤9223372036854775807) (hqc: -9223372036854775808≤s.qc∧s.qc≤9223372036854775807) (hqd: -9223372036854775808≤s.qd∧s.qd≤9223372036854775807) (hxb: -9223372036854775808≤s.xb∧s.xb≤9223372036854775807) (hyb: -9223372036854775808≤s.yb∧s.yb≤9223372036854775807) (hzb: -9223372036854775808≤s.zb∧s.zb≤9223372036854775807) (hra: -9223372036854775808≤s.ra∧s.ra≤9223372036854775807) (hrb: -9223372036854775808≤s.rb∧s.rb≤9223372036854775807) (hrc: -9223372036854775808≤s.rc∧s.rc≤9223372036854775807) (hrd: -9223372036854775808≤s.rd∧s.rd≤9223372036854775807) (h64fo: -9223372036854775808≤cm.fo∧cm.fo≤9223372036854775807) (h64cx: -9223372036854775808≤cm.cx∧cm.cx≤9223372036854775807) (h64cy: -9223372036854775808≤cm.cy∧cm.cy≤9223372036854775807) (h64u: -9223372036854775808≤u∧u≤9223372036854775807) (h64v: -9223372036854775808≤v∧v≤9223372036854775807) (h64h: -9223372036854775808≤h∧h≤9223372036854775807):Con Tryz.prog 24 [.agg #[.int .i64 (s.fi),.int .i64 (s.st),.int .i64 (s.ta),.int .i64 (s.xa),.int .i64 (s.ya),.int .i64 (s.za),.int .i64 (s.qa),.int .i64 (s.qb),.int .i64 (s.qc),.int .i64 (s.qd),.int .i64 (s.tb),.int .i64 (s.xb),.int .i64 (s.yb),.int .i64 (s.zb),.int .i64 (s.ra),.int .i64 (s.rb),.int .i64 (s.rc),.int .i64 (s.rd)],.agg #[.int .i64 (cm.fo),.int .i64 (cm.cx),.int .i64 (cm.cy)],.agg #[.int .i64 u,.int .i64 v],.int .i64 h] [] [sgF] (Y:=Wd×Wd×Wd×Wd) (fun y=>Sh.Gc s cm u v h≠0→y.1=wz∧y.2.1=wz∧y.2.2.1=wz∧y.2.2.2=wz) (fun y=> .tuple #[.agg #[y.1.b,y.1.l,y.2.1.b,y.2.1.l,y.2.2.1.b,y.2.2.1.l,y.2.2.2.b,y.2.2.2.l],.int .i64 (Sh.Gc s cm u v h)]) (fun y=>[]) (fun y=>[qF (decide (Sh.Gc s cm u v h=0)) y.1 y.2.1 (Sh.Gx s cm u v h),qF (decide (Sh.Gc s cm u v h=0)) y.2.2.1 y.2.2.2 (Sh.Gy s cm u v h)]):=by
 refine zA Tryz.func24 rfl rfl rfl (fun c=> ?_)
 show RunC _ _ _ _ _ [(0,.agg #[.int .i64 (s.fi),.int .i64 (s.st),.int .i64 (s.ta),.int .i64 (s.xa),.int .i64 (s.ya),.int .i64 (s.za),.int .i64 (s.qa),.int .i64 (s.qb),.int .i64 (s.qc),.int .i64 (s.qd),.int .i64 (s.tb),.int .i64 (s.xb),.int .i64 (s.yb),.int .i64 (s.zb),.int .i64 (s.ra),.int .i64 (s.rb),.int .i64 (s.rc),.int .i64 (s.rd)]),(1,.agg #[.int .i64 (cm.fo),.int .i64 (cm.cx),.int .i64 (cm.cy)]),(2,.agg #[.int .i64 u,.int .i64 v]),(3,.int .i64 h)] [] [sgF]
 refine zk<|zc<|zK rfl rfl (zfa rfl rfl) (fun b1=> ?_)
 refine zK rfl rfl (zfa rfl rfl) (fun b2=> ?_)
 refine zK rfl rfl (zfa rfl rfl) (fun b3=> ?_)
 refine zK rfl rfl (zq zr46 rfl) (fun b4=> ?_)
 refine r_pv rfl rfl (zh rfl)<|zl<|zg<|zk<|zk<|zc<|r_u rfl rfl (ze 3 ty29 rfl rfl (.take (.take (.take (.take (.take (.take (.take (.take (.take (.take (.take (.take (.take (.take (.take (.take (.take (.take .nil)))))))))))))))))))<|zX rfl rfl (.c rfl (.c rfl .n)) ce12 (zlc (s:=s) (n:=1) (hfi:=by assumption) (hst:=by assumption) (hta:=by assumption) (htb:=by assumption) (hxa:=by assumption) (hya:=by assumption) (hza:=by assumption) (hqa:=by assumption) (hqb:=by assumption) (hqc:=by assumption) (hqd:=by assumption) (hxb:=by assumption) (hyb:=by assumption) (hzb:=by assumption) (hra:=by assumption) (hrb:=by assumption) (hrc:=by assumption) (hrd:=by assumption)) (.n)<|r_pv rfl rfl (zh rfl)<|zl<|zg<|zk<|zc<|r_pv rfl rfl (zd rfl)<|r_pv rfl rfl (ztb rfl rfl)<|zl<|zg<|zV rfl (fun hc=> ?_) (fun hc=> ?_)
 ·
  refine zk<|zc<|r_pv rfl rfl (zw zr46 rfl Tryz.underlying46 (.c sz44 (.c sz44 .n)) .n .n)<|r_pv rfl rfl (zd rfl)<|zn 0 rfl rfl rfl rfl rfl sz46 rfl (.take (.take (.take (.take (.take (.take (.take (.take .nil)))))))) .z<|r_pv rfl rfl (zh rfl)<|zl<|zg<|zT<|zx<|zQa (qF false wz wz 0) (fun g _=>qF_none g) ?_
  have hg9:Sh.Gc s cm u v h=Sh.chk s 1:=if_neg hc
  have hg8:¬Sh.Gc s cm u v h=0:=by rw [hg9];exact hc
  have hx9:Sh.Gx s cm u v h=0:=if_neg hg8
  have hy9:Sh.Gy s cm u v h=0:=if_neg hg8
  exact zDa Tryz.results24 (wz,wz,wz,wz) (fun _=>⟨rfl,rfl,rfl,rfl⟩) (zu 0 ty46 rfl rfl (.take (.take (.take (.take (.take (.take (.take (.take .nil))))))))) (zG rfl) (by rw [hg9];rfl) (ho:=(.n:PickO _ _ _)) ((.e (j:=0) rfl (by rw [hx9,decide_eq_false hg8]) (.e (j:=0) rfl (by rw [hy9,decide_eq_false hg8]) .n)):SelR _ _ _)
 ·
  have hc0:Sh.chk s 1=0:=Decidable.not_not.1 hc
  obtain ⟨hok,-,hlt,hnd⟩:=Sh.chk_ok hc0
  refine zE<|zg<|zk<|zKa (X:=Unit) (fun x=>True) (fun x=>[(25,.bool (decide ((¬(Sh.cam cm∧Sh.inb h))∨(¬(Sh.inb u∧Sh.inb v∧Sh.inr (Sh.ro v)))))),(9,.int .i64 0),(8,.pointer (some ⟨b4,0,none⟩)),(6,.pointer (some ⟨b3,0,none⟩)),(5,.pointer (some ⟨b2,0,none⟩)),(4,.pointer (some ⟨b1,0,none⟩)),(3,.int .i64 h)]) (fun x=>[boxA b4 46 (cw [wz,wz,wz,wz]),boxA b3 35 [.int .i64 u,.int .i64 v],boxA b2 37 [.int .i64 (cm.fo),.int .i64 (cm.cx),.int .i64 (cm.cy)],boxA b1 29 (cS s)]) (fun x=>[sgF]) ?_ ?_
  ·
   refine zc<|r_u rfl rfl (ze 2 ty37 rfl rfl (.take (.take (.take .nil))))<|r_pv rfl rfl (zd rfl)<|zX rfl rfl (.c rfl (.c rfl .n)) ce45 (zTb (cm:=cm) (h:=h) (h64fo:=by assumption) (h64cx:=by assumption) (h64cy:=by assumption) (h64h:=by assumption)) (.n)<|r_pv rfl rfl (zSa rfl)<|zta rfl rfl (zd rfl) (fun h5=> ?_) (fun h5=> ?_)
   ·
    refine zm rfl rfl<|zm rfl rfl<|zm rfl rfl<|r_pv rfl rfl (zW rfl rfl)<|zl ?_
    exact zoa () (show True from by first|trivial|omega|simp_all) ((.e rfl (congrArg Value.bool (by first|(simp_all;done)|(simp_all;omega)|(simp;omega)|omega)) (.of rfl)):SubM _ _) (ho:=((.of [0,0,0,0] rfl):PickO _ _ _)) ((.c (j:=0) rfl .n):SelR _ _ _)
   ·
    refine r_u rfl rfl (ze 1 ty35 rfl rfl (.take (.take .nil)))<|zX rfl rfl (.c rfl .n) ce46 (zcc (u:=u) (v:=v) (h64u:=by assumption) (h64v:=by assumption)) (.n)<|r_pv rfl rfl (zSa rfl)<|r_pv rfl rfl (zW rfl rfl)<|zl ?_
    exact zoa () (show True from by first|trivial|omega|simp_all) ((.e rfl (congrArg Value.bool (by first|(simp_all;done)|(simp_all;omega)|(simp;omega)|omega)) (.of rfl)):SubM _ _) (ho:=((.of [0,0,0,0] rfl):PickO _ _ _)) ((.c (j:=0) rfl .n):SelR _ _ _)
  ·
   rintro ⟨⟩ -
   try dsimp only [cw]
   refine zV rfl (fun hcp=> ?_) (fun hcp=> ?_)
   ·
    have hcp2:¬Sh.cp cm u v h:=fun k=>hcp.elim (fun e=>e ⟨k.1,k.2.2.2.1⟩) (fun e=>e ⟨k.2.1,k.2.2.1,k.2.2.2.2⟩)
    refine zk<|zc<|r_pv rfl rfl (zw zr46 rfl Tryz.underlying46 (.c sz44 (.c sz44 .n)) .n .n)<|zn 0 rfl rfl rfl rfl rfl sz46 rfl (.take (.take (.take (.take (.take (.take (.take (.take .nil)))))))) .z<|r_pv rfl rfl (zh rfl)<|zl<|zg<|zT<|zx<|zQa (qF false wz wz 0) (fun g _=>qF_none g) ?_
    have hg9:Sh.Gc s cm u v h=2:=(if_pos hc0).trans (if_neg hcp2)
    have hg8:¬Sh.Gc s cm u v h=0:=by rw [hg9];decide
    have hx9:Sh.Gx s cm u v h=0:=if_neg hg8
    have hy9:Sh.Gy s cm u v h=0:=if_neg hg8
    exact zDa Tryz.results24 (wz,wz,wz,wz) (fun _=>⟨rfl,rfl,rfl,rfl⟩) (zu 0 ty46 rfl rfl (.take (.take (.take (.take (.take (.take (.take (.take .nil))))))))) (zG rfl) (by rw [hg9];rfl) (ho:=(.n:PickO _ _ _)) ((.e (j:=0) rfl (by rw [hx9,decide_eq_false hg8]) (.e (j:=0) rfl (by rw [hy9,decide_eq_false hg8]) .n)):SelR _ _ _)
   ·
    have hca:=Decidable.not_not.1 (fun e=>hcp (Or.inl e))
    have hcb:=Decidable.not_not.1 (fun e=>hcp (Or.inr e))
    have hcp2:Sh.cp cm u v h:=⟨hca.1,hcb.1,hcb.2.1,hca.2,hcb.2.2⟩
    refine zE<|zg<|zk<|zc<|r_u rfl rfl (ze 3 ty29 rfl rfl (.take (.take (.take (.take (.take (.take (.take (.take (.take (.take (.take (.take (.take (.take (.take (.take (.take (.take .nil)))))))))))))))))))<|r_u rfl rfl (ze 2 ty37 rfl rfl (.take (.take (.take .nil))))<|r_u rfl rfl (ze 1 ty35 rfl rfl (.take (.take .nil)))<|r_pv rfl rfl (zd rfl)<|zJ rfl rfl (.c rfl (.c rfl (.c rfl (.c rfl .n)))) ce47 (zhd (s:=s) (cm:=cm) (u:=u) (v:=v) (h:=h) (hok:=by first|rfl|assumption|decide|omega) (hlt:=by first|rfl|assumption|decide|omega) (hc:=by exact hcp2.1) (hu:=by exact hcp2.2.1) (hv:=by exact hcp2.2.2.1) (hh:=by exact hcp2.2.2.2.1) (hr:=by exact hcp2.2.2.2.2)) (.c (j:=0) rfl .n) ?_
    rintro ⟨w16,w27,w38,w49⟩ hph
    dsimp only [List.append_eq,List.nil_append,List.cons_append]
    replace hph:Sh.gc s cm u v h≠0→w16=wz∧w27=wz∧w38=wz∧w49=wz:=hph
    refine r_pv rfl rfl (zy rfl rfl)<|r_pv rfl rfl (zy rfl rfl)<|zn 0 rfl rfl rfl rfl rfl sz46 rfl (.take (.take (.take (.take (.take (.take (.take (.take .nil)))))))) .z<|r_pv rfl rfl (zh rfl)<|zl<|zg<|zT ?_
    have hg9:Sh.Gc s cm u v h=Sh.gc s cm u v h:=(if_pos hc0).trans (if_pos hcp2)
    have hx9:Sh.Gx s cm u v h=Sh.gx s cm u v h:=by by_cases k:Sh.gc s cm u v h=0;rw [show Sh.Gx s cm u v h=Sh.gx s cm u v h from if_pos (hg9.trans k)];(rw [show Sh.Gx s cm u v h=0 from if_neg (fun e=>k (hg9.symm.trans e)),show Sh.gx s cm u v h=0 from if_neg k])
    have hy9:Sh.Gy s cm u v h=Sh.gy s cm u v h:=by by_cases k:Sh.gc s cm u v h=0;rw [show Sh.Gy s cm u v h=Sh.gy s cm u v h from if_pos (hg9.trans k)];(rw [show Sh.Gy s cm u v h=0 from if_neg (fun e=>k (hg9.symm.trans e)),show Sh.gy s cm u v h=0 from if_neg k])
    exact zDa Tryz.results24 (w16,w27,w38,w49) (fun k=>hph (by rw [← hg9];exact k)) (zu 0 ty46 rfl rfl (.take (.take (.take (.take (.take (.take (.take (.take .nil))))))))) (zG rfl) (by rw [hg9]) (ho:=(.n:PickO _ _ _)) ((.e (j:=0) rfl (by rw [hx9,hg9]) (.e (j:=1) rfl (by rw [hy9,hg9]) .n)):SelR _ _ _)
end Go.Proofs.YtjeahiahjgifgaaGreatDoor.Sp
namespace Go.Proofs.YtjeahiahjgifgaaGreatDoor.Sp
open Go
set_option linter.unusedVariables false
set_option maxRecDepth 100000
set_option maxHeartbeats 8000000
theorem zZc {s:Sh.S} {cm:Sh.C} {u:Int} {v:Int} {r:Int} {h:Int} (hfi: -9223372036854775808≤s.fi∧s.fi≤9223372036854775807) (hst: -9223372036854775808≤s.st∧s.st≤9223372036854775807) (hta: -9223372036854775808≤s.ta∧s.ta≤9223372036854775807) (htb: -9223372036854775808≤s.tb∧s.tb≤9223372036854775807) (hxa: -9223372036854775808≤s.xa∧s.xa≤9223372036854775807) (hya: -9223372036854775808≤s.ya∧s.ya≤9223372036854775807) (hza: -9223372036854775808≤s.za∧s.za≤9223372036854775807) (hqa: -9223372036854775808≤s.qa∧s.qa≤9223372036854775807) (hqb: -9223372036854775808≤s.qb∧s.qb≤9223372036854775807) (hqc: -9223372036854775808≤s.qc∧s.qc≤9223372036854775807) (hqd: -9223372036854775808≤s.qd∧s.qd≤9223372036854775807) (hxb: -9223372036854775808≤s.xb∧s.xb≤9223372036854775807) (hyb: -9223372036854775808≤s.yb∧s.yb≤9223372036854775807) (hzb: -9223372036854775808≤s.zb∧s.zb≤9223372036854775807) (hra: -9223372036854775808≤s.ra∧s.ra≤9223372036854775807) (hrb: -9223372036854775808≤s.rb∧s.rb≤9223372036854775807) (hrc: -9223372036854775808≤s.rc∧s.rc≤9223372036854775807) (hrd: -9223372036854775808≤s.rd∧s.rd≤9223372036854775807) (h64fo: -9223372036854775808≤cm.fo∧cm.fo≤9223372036854775807) (h64cx: -9223372036854775808≤cm.cx∧cm.cx≤9223372036854775807) (h64cy: -9223372036854775808≤cm.cy∧cm.cy≤9223372036854775807) (h64u: -9223372036854775808≤u∧u≤9223372036854775807) (h64v: -9223372036854775808≤v∧v≤9223372036854775807) (h64r: -9223372036854775808≤r∧r≤9223372036854775807) (h64h: -9223372036854775808≤h∧h≤9223372036854775807):Con Tryz.prog 14 [.agg #[.int .i64 (s.fi),.int .i64 (s.st),.int .i64 (s.ta),.int .i64 (s.xa),.int .i64 (s.ya),.int .i64 (s.za),.int .i64 (s.qa),.int .i64 (s.qb),.int .i64 (s.qc),.int .i64 (s.qd),.int .i64 (s.tb),.int .i64 (s.xb),.int .i64 (s.yb),.int .i64 (s.zb),.int .i64 (s.ra),.int .i64 (s.rb),.int .i64 (s.rc),.int .i64 (s.rd)],.agg #[.int .i64 (cm.fo),.int .i64 (cm.cx),.int .i64 (cm.cy)],.agg #[.int .i64 u,.int .i64 v],.int .i64 r,.int .i64 h] [] [sgF] (Y:=Wd×Wd×Wd×Wd) (fun y=>Sh.Cc s cm u v r h≠0→y.1=wz∧y.2.1=wz∧y.2.2.1=wz∧y.2.2.2=wz) (fun y=> .tuple #[.agg #[y.1.b,y.1.l,y.2.1.b,y.2.1.l,y.2.2.1.b,y.2.2.1.l,y.2.2.2.b,y.2.2.2.l],.int .i64 (Sh.Cc s cm u v r h)]) (fun y=>[]) (fun y=>[qF (decide (Sh.Cc s cm u v r h=0)) y.1 y.2.1 (Sh.Cx s cm u v r h),qF (decide (Sh.Cc s cm u v r h=0)) y.2.2.1 y.2.2.2 (Sh.Cy s cm u v r h)]):=by
 refine zA Tryz.func14 rfl rfl rfl (fun c=> ?_)
 show RunC _ _ _ _ _ [(0,.agg #[.int .i64 (s.fi),.int .i64 (s.st),.int .i64 (s.ta),.int .i64 (s.xa),.int .i64 (s.ya),.int .i64 (s.za),.int .i64 (s.qa),.int .i64 (s.qb),.int .i64 (s.qc),.int .i64 (s.qd),.int .i64 (s.tb),.int .i64 (s.xb),.int .i64 (s.yb),.int .i64 (s.zb),.int .i64 (s.ra),.int .i64 (s.rb),.int .i64 (s.rc),.int .i64 (s.rd)]),(1,.agg #[.int .i64 (cm.fo),.int .i64 (cm.cx),.int .i64 (cm.cy)]),(2,.agg #[.int .i64 u,.int .i64 v]),(3,.int .i64 r),(4,.int .i64 h)] [] [sgF]
 refine zk<|zc<|zK rfl rfl (zfa rfl rfl) (fun b1=> ?_)
 refine zK rfl rfl (zfa rfl rfl) (fun b2=> ?_)
 refine zK rfl rfl (zfa rfl rfl) (fun b3=> ?_)
 refine zK rfl rfl (zq zr46 rfl) (fun b4=> ?_)
 refine r_pv rfl rfl (zh rfl)<|zl<|zg<|zk<|zk<|zc<|r_u rfl rfl (ze 3 ty29 rfl rfl (.take (.take (.take (.take (.take (.take (.take (.take (.take (.take (.take (.take (.take (.take (.take (.take (.take (.take .nil)))))))))))))))))))<|zX rfl rfl (.c rfl (.c rfl .n)) ce12 (zlc (s:=s) (n:=1) (hfi:=by assumption) (hst:=by assumption) (hta:=by assumption) (htb:=by assumption) (hxa:=by assumption) (hya:=by assumption) (hza:=by assumption) (hqa:=by assumption) (hqb:=by assumption) (hqc:=by assumption) (hqd:=by assumption) (hxb:=by assumption) (hyb:=by assumption) (hzb:=by assumption) (hra:=by assumption) (hrb:=by assumption) (hrc:=by assumption) (hrd:=by assumption)) (.n)<|r_pv rfl rfl (zh rfl)<|zl<|zg<|zk<|zc<|r_pv rfl rfl (zd rfl)<|r_pv rfl rfl (ztb rfl rfl)<|zl<|zg<|zV rfl (fun hc=> ?_) (fun hc=> ?_)
 ·
  refine zk<|zc<|r_pv rfl rfl (zw zr46 rfl Tryz.underlying46 (.c sz44 (.c sz44 .n)) .n .n)<|r_pv rfl rfl (zd rfl)<|zn 0 rfl rfl rfl rfl rfl sz46 rfl (.take (.take (.take (.take (.take (.take (.take (.take .nil)))))))) .z<|r_pv rfl rfl (zh rfl)<|zl<|zg<|zT<|zx<|zQa (qF false wz wz 0) (fun g _=>qF_none g) ?_
  have hg9:Sh.Cc s cm u v r h=Sh.chk s 1:=if_neg hc
  have hg8:¬Sh.Cc s cm u v r h=0:=by rw [hg9];exact hc
  have hx9:Sh.Cx s cm u v r h=0:=if_neg hg8
  have hy9:Sh.Cy s cm u v r h=0:=if_neg hg8
  exact zDa Tryz.results14 (wz,wz,wz,wz) (fun _=>⟨rfl,rfl,rfl,rfl⟩) (zu 0 ty46 rfl rfl (.take (.take (.take (.take (.take (.take (.take (.take .nil))))))))) (zG rfl) (by rw [hg9];rfl) (ho:=(.n:PickO _ _ _)) ((.e (j:=0) rfl (by rw [hx9,decide_eq_false hg8]) (.e (j:=0) rfl (by rw [hy9,decide_eq_false hg8]) .n)):SelR _ _ _)
 ·
  have hc0:Sh.chk s 1=0:=Decidable.not_not.1 hc
  obtain ⟨hok,-,hlt,hnd⟩:=Sh.chk_ok hc0
  refine zE<|zg<|zk<|zKa (X:=Unit) (fun x=>True) (fun x=>[(34,.bool (decide (((¬(0≤r∧r<64))∨(¬(Sh.cam cm∧Sh.inb h)))∨(¬(Sh.inb u∧Sh.inb v∧Sh.inr (Sh.ro v)))))),(11,.int .i64 0),(10,.pointer (some ⟨b4,0,none⟩)),(7,.pointer (some ⟨b3,0,none⟩)),(6,.pointer (some ⟨b2,0,none⟩)),(5,.pointer (some ⟨b1,0,none⟩)),(3,.int .i64 r),(4,.int .i64 h)]) (fun x=>[boxA b4 46 (cw [wz,wz,wz,wz]),boxA b3 35 [.int .i64 u,.int .i64 v],boxA b2 37 [.int .i64 (cm.fo),.int .i64 (cm.cx),.int .i64 (cm.cy)],boxA b1 29 (cS s)]) (fun x=>[sgF]) ?_ ?_
  ·
   refine zc<|r_pv rfl rfl (zd rfl)<|zX rfl rfl (.c rfl .n) ce44 (zwc (r:=r)) (.n)<|r_pv rfl rfl (zSa rfl)<|zta rfl rfl (zd rfl) (fun h5=> ?_) (fun h5=> ?_)
   ·
    refine zm rfl rfl<|zm rfl rfl<|zm rfl rfl<|zm rfl rfl<|r_pv rfl rfl (zW rfl rfl)<|r_pv rfl rfl (zd rfl)<|zm rfl rfl<|zm rfl rfl<|zm rfl rfl<|r_pv rfl rfl (zW rfl rfl)<|zl ?_
    exact zoa () (show True from by first|trivial|omega|simp_all) ((.e rfl (congrArg Value.bool (by first|(simp_all;done)|(simp_all;omega)|(simp;omega)|omega)) (.of rfl)):SubM _ _) (ho:=((.of [0,0,0,0] rfl):PickO _ _ _)) ((.c (j:=0) rfl .n):SelR _ _ _)
   ·
    refine r_u rfl rfl (ze 2 ty37 rfl rfl (.take (.take (.take .nil))))<|r_pv rfl rfl (zd rfl)<|zX rfl rfl (.c rfl (.c rfl .n)) ce45 (zTb (cm:=cm) (h:=h) (h64fo:=by assumption) (h64cx:=by assumption) (h64cy:=by assumption) (h64h:=by assumption)) (.n)<|r_pv rfl rfl (zSa rfl)<|r_pv rfl rfl (zW rfl rfl)<|zta rfl rfl (zd rfl) (fun h6=> ?_) (fun h6=> ?_)
    ·
     refine zm rfl rfl<|zm rfl rfl<|zm rfl rfl<|r_pv rfl rfl (zW rfl rfl)<|zl ?_
     exact zoa () (show True from by first|trivial|omega|simp_all) ((.e rfl (congrArg Value.bool (by first|(simp_all;done)|(simp_all;omega)|(simp;omega)|omega)) (.of rfl)):SubM _ _) (ho:=((.of [0,0,0,0] rfl):PickO _ _ _)) ((.c (j:=0) rfl .n):SelR _ _ _)
    ·
     refine r_u rfl rfl (ze 1 ty35 rfl rfl (.take (.take .nil)))<|zX rfl rfl (.c rfl .n) ce46 (zcc (u:=u) (v:=v) (h64u:=by assumption) (h64v:=by assumption)) (.n)<|r_pv rfl rfl (zSa rfl)<|r_pv rfl rfl (zW rfl rfl)<|zl ?_
     exact zoa () (show True from by first|trivial|omega|simp_all) ((.e rfl (congrArg Value.bool (by first|(simp_all;done)|(simp_all;omega)|(simp;omega)|omega)) (.of rfl)):SubM _ _) (ho:=((.of [0,0,0,0] rfl):PickO _ _ _)) ((.c (j:=0) rfl .n):SelR _ _ _)
  ·
   rintro ⟨⟩ -
   try dsimp only [cw]
   refine zV rfl (fun hcr=> ?_) (fun hcr=> ?_)
   ·
    have hcr2:¬(Sh.inr r∧Sh.cp cm u v h):=fun k=>hcr.elim (fun e=>e.elim (fun e=>e k.1) (fun e=>e ⟨k.2.1,k.2.2.2.2.1⟩)) (fun e=>e ⟨k.2.2.1,k.2.2.2.1,k.2.2.2.2.2⟩)
    refine zk<|zc<|r_pv rfl rfl (zw zr46 rfl Tryz.underlying46 (.c sz44 (.c sz44 .n)) .n .n)<|zn 0 rfl rfl rfl rfl rfl sz46 rfl (.take (.take (.take (.take (.take (.take (.take (.take .nil)))))))) .z<|r_pv rfl rfl (zh rfl)<|zl<|zg<|zT<|zx<|zQa (qF false wz wz 0) (fun g _=>qF_none g) ?_
    have hg9:Sh.Cc s cm u v r h=2:=(if_pos hc0).trans (if_neg hcr2)
    have hg8:¬Sh.Cc s cm u v r h=0:=by rw [hg9];decide
    have hx9:Sh.Cx s cm u v r h=0:=if_neg hg8
    have hy9:Sh.Cy s cm u v r h=0:=if_neg hg8
    exact zDa Tryz.results14 (wz,wz,wz,wz) (fun _=>⟨rfl,rfl,rfl,rfl⟩) (zu 0 ty46 rfl rfl (.take (.take (.take (.take (.take (.take (.take (.take .nil))))))))) (zG rfl) (by rw [hg9];rfl) (ho:=(.n:PickO _ _ _)) ((.e (j:=0) rfl (by rw [hx9,decide_eq_false hg8]) (.e (j:=0) rfl (by rw [hy9,decide_eq_false hg8]) .n)):SelR _ _ _)
   ·
    have hir2:=Decidable.not_not.1 (fun e=>hcr (Or.inl (Or.inl e)))
    have hca:=Decidable.not_not.1 (fun e=>hcr (Or.inl (Or.inr e)))
    have hcb:=Decidable.not_not.1 (fun e=>hcr (Or.inr e))
    have hcp2:Sh.cp cm u v h:=⟨hca.1,hcb.1,hcb.2.1,hca.2,hcb.2.2⟩
    have hgq:=Sh.gx_hq hok hcp2.1 hcp2.2.1 hcp2.2.2.1 hcp2.2.2.2.2 hcp2.2.2.2.1
    refine zE<|zg<|zk<|zc<|r_u rfl rfl (ze 3 ty29 rfl rfl (.take (.take (.take (.take (.take (.take (.take (.take (.take (.take (.take (.take (.take (.take (.take (.take (.take (.take .nil)))))))))))))))))))<|r_u rfl rfl (ze 2 ty37 rfl rfl (.take (.take (.take .nil))))<|r_u rfl rfl (ze 1 ty35 rfl rfl (.take (.take .nil)))<|r_pv rfl rfl (zd rfl)<|zJ rfl rfl (.c rfl (.c rfl (.c rfl (.c rfl .n)))) ce47 (zhd (s:=s) (cm:=cm) (u:=u) (v:=v) (h:=h) (hok:=by first|rfl|assumption|decide|omega) (hlt:=by first|rfl|assumption|decide|omega) (hc:=by exact hcp2.1) (hu:=by exact hcp2.2.1) (hv:=by exact hcp2.2.2.1) (hh:=by exact hcp2.2.2.2.1) (hr:=by exact hcp2.2.2.2.2)) (.c (j:=0) rfl .n) ?_
    rintro ⟨w17,w28,w39,w410⟩ hy11
    dsimp only [List.append_eq,List.nil_append,List.cons_append]
    replace hy11:Sh.gc s cm u v h≠0→w17=wz∧w28=wz∧w39=wz∧w410=wz:=hy11
    refine r_pv rfl rfl (zd rfl)<|r_pv rfl rfl (zy rfl rfl)<|r_pv rfl rfl (zy rfl rfl)<|zK rfl rfl (zq zr46 rfl) (fun b12=> ?_)
    refine zn 0 rfl rfl rfl rfl rfl sz46 rfl (.take (.take (.take (.take (.take (.take (.take (.take .nil)))))))) .z<|r_pv rfl rfl (zh rfl)<|zl<|zg<|zk<|zk<|zc<|r_pv rfl rfl (zd rfl)<|r_pv rfl rfl (ztb rfl rfl)<|zl<|zg<|zV rfl (fun hgg=> ?_) (fun hgg=> ?_)
    ·
     refine zk<|zc<|r_pv rfl rfl (zw zr46 rfl Tryz.underlying46 (.c sz44 (.c sz44 .n)) .n .n)<|r_pv rfl rfl (zd rfl)<|zn 1 rfl rfl rfl rfl rfl sz46 rfl (.take (.take (.take (.take (.take (.take (.take (.take .nil)))))))) (.s .z)<|r_pv rfl rfl (zh rfl)<|zl<|zg<|zT<|zx<|zQa (qF false wz wz 0) (fun g _=>qF_none g) ?_
     have hg9:Sh.Cc s cm u v r h=Sh.gc s cm u v h:=((if_pos hc0).trans (if_pos ⟨hir2,hcp2⟩)).trans (if_neg hgg)
     have hg8:¬Sh.Cc s cm u v r h=0:=by rw [hg9];exact hgg
     have hx9:Sh.Cx s cm u v r h=0:=if_neg hg8
     have hy9:Sh.Cy s cm u v r h=0:=if_neg hg8
     exact zDa Tryz.results14 (wz,wz,wz,wz) (fun _=>⟨rfl,rfl,rfl,rfl⟩) (zu 1 ty46 rfl rfl (.take (.take (.take (.take (.take (.take (.take (.take .nil))))))))) (zG rfl) (by rw [hg9];rfl) (ho:=(.n:PickO _ _ _)) ((.e (j:=0) rfl (by rw [hx9,decide_eq_false hg8]) (.e (j:=0) rfl (by rw [hy9,decide_eq_false hg8]) .n)):SelR _ _ _)
    ·
     have hgz:=Decidable.not_not.1 hgg
     refine zE<|zg<|zk<|zc<|r_u rfl rfl (ze 4 ty29 rfl rfl (.take (.take (.take (.take (.take (.take (.take (.take (.take (.take (.take (.take (.take (.take (.take (.take (.take (.take .nil)))))))))))))))))))<|r_u rfl rfl (ze 3 ty37 rfl rfl (.take (.take (.take .nil))))<|r_pv rfl rfl (zd rfl)<|r_u rfl rfl (ze 0 ty46 rfl rfl (.take (.take (.take (.take (.take (.take (.take (.take .nil)))))))))<|r_pv rfl rfl (zd rfl)<|zJ rfl rfl (.c rfl (.c rfl (.c rfl (.c rfl (.c rfl .n))))) ce48 (zRe (s:=s) (cm:=cm) (r:=r) (k1:=(decide (Sh.gc s cm u v h=0))) (u1:=w17) (v1:=w28) (ax:=(Sh.gx s cm u v h)) (k2:=(decide (Sh.gc s cm u v h=0))) (u2:=w39) (v2:=w410) (ay:=(Sh.gy s cm u v h)) (h:=h) (hok:=by first|rfl|assumption|decide|omega) (hlt:=by first|rfl|assumption|decide|omega) (hc:=by exact hcp2.1) (hr:=by exact hir2) (hqx:=by exact hgq.1) (hqy:=by exact hgq.2) (hh:=by exact hcp2.2.2.2.1)) (.c (j:=2) rfl (.c (j:=0) rfl (.c (j:=1) rfl .n))) ?_
     rintro ⟨w113,w214,w315,w416⟩ hph
     dsimp only [List.append_eq,List.nil_append,List.cons_append]
     replace hph:Sh.ic s r (Sh.gx s cm u v h) (Sh.gy s cm u v h) h≠0→w113=wz∧w214=wz∧w315=wz∧w416=wz:=hph
     refine r_pv rfl rfl (zy rfl rfl)<|r_pv rfl rfl (zy rfl rfl)<|zn 1 rfl rfl rfl rfl rfl sz46 rfl (.take (.take (.take (.take (.take (.take (.take (.take .nil)))))))) (.s .z)<|r_pv rfl rfl (zh rfl)<|zl<|zg<|zT ?_
     have hg9:Sh.Cc s cm u v r h=Sh.ic s r (Sh.gx s cm u v h) (Sh.gy s cm u v h) h:=((if_pos hc0).trans (if_pos ⟨hir2,hcp2⟩)).trans (if_pos hgz)
     have hx9:Sh.Cx s cm u v r h=Sh.ix s cm r (Sh.gx s cm u v h) (Sh.gy s cm u v h) h:=by by_cases k:Sh.ic s r (Sh.gx s cm u v h) (Sh.gy s cm u v h) h=0;rw [show Sh.Cx s cm u v r h=Sh.ix s cm r (Sh.gx s cm u v h) (Sh.gy s cm u v h) h from if_pos (hg9.trans k)];(rw [show Sh.Cx s cm u v r h=0 from if_neg (fun e=>k (hg9.symm.trans e)),show Sh.ix s cm r (Sh.gx s cm u v h) (Sh.gy s cm u v h) h=0 from if_neg k])
     have hy9:Sh.Cy s cm u v r h=Sh.iy s cm r (Sh.gx s cm u v h) (Sh.gy s cm u v h) h:=by by_cases k:Sh.ic s r (Sh.gx s cm u v h) (Sh.gy s cm u v h) h=0;rw [show Sh.Cy s cm u v r h=Sh.iy s cm r (Sh.gx s cm u v h) (Sh.gy s cm u v h) h from if_pos (hg9.trans k)];(rw [show Sh.Cy s cm u v r h=0 from if_neg (fun e=>k (hg9.symm.trans e)),show Sh.iy s cm r (Sh.gx s cm u v h) (Sh.gy s cm u v h) h=0 from if_neg k])
     exact zDa Tryz.results14 (w113,w214,w315,w416) (fun k=>hph (by rw [← hg9];exact k)) (zu 1 ty46 rfl rfl (.take (.take (.take (.take (.take (.take (.take (.take .nil))))))))) (zG rfl) (by rw [hg9]) (ho:=(.n:PickO _ _ _)) ((.e (j:=0) rfl (by rw [hx9,hg9]) (.e (j:=1) rfl (by rw [hy9,hg9]) .n)):SelR _ _ _)
end Go.Proofs.YtjeahiahjgifgaaGreatDoor.Sp
namespace Go.Proofs.YtjeahiahjgifgaaGreatDoor.Sh
open Go.Proofs.YtjeahiahjgifgaaGreatDoor.Big
theorem k0:((0:Int):Rat)=0:=rfl
theorem k1:((1:Int):Rat)=1:=rfl
theorem k2:((2:Int):Rat)=2:=rfl
def mm (x y:Int):Rat:=((x:Int):Rat)*((y:Int):Rat)
def nn (q:Q4):Rat:=((((q.1:Int):Rat)*((q.1:Int):Rat)+((q.2.1:Int):Rat)*((q.2.1:Int):Rat))+((q.2.2.1:Int):Rat)*((q.2.2.1:Int):Rat))+((q.2.2.2:Int):Rat)*((q.2.2.2:Int):Rat)
theorem e4 (a b c d:Rat):s4 a b c d=a+b+c+d:=by unfold s4;rw [k0];grind
theorem e2 (a b:Rat):s2 a b=a+b:=by unfold s2;rw [k0];grind
theorem frc_affine {s:S} (a b:Int):frc s (a+b) - frc s a=frc s (a+2*b) - frc s (a+b):=by
  rw [frc_eq,frc_eq,frc_eq]
  have e:((tm s (a+b) - s.ta:Int):Rat) - ((tm s a - s.ta:Int):Rat)=((tm s (a+2*b) - s.ta:Int):Rat) - ((tm s (a+b) - s.ta:Int):Rat):=by
    rw [← Rat.intCast_sub,←Rat.intCast_sub]
    congr 1
    unfold tm
    rw [Int.add_mul,Int.add_mul,Int.mul_assoc];omega
  rw [Rat.div_def,Rat.div_def,Rat.div_def]
  generalize (((s.tb - s.ta:Int):Rat))⁻¹ =i
  grind
theorem ps_affine {s:S} (a b x y:Int):ps s (a+b) x y - ps s a x y=ps s (a+2*b) x y - ps s (a+b) x y:=by
  have:=frc_affine (s:=s) a b
  unfold ps
  grind
end Go.Proofs.YtjeahiahjgifgaaGreatDoor.Sh
namespace Go.Proofs.YtjeahiahjgifgaaGreatDoor.Sh
open Go.Proofs.YtjeahiahjgifgaaGreatDoor.Big
def Pc (s:S) (r:Int):Int:=if chk s 1=0 then (if inr r then (if z4 (rot s r) then 13 else 0) else 2) else chk s 1
def Pq (s:S) (r:Int):Q4:=if Pc s r=0 then rot s r else (0,0,0,0)
def Pp (s:S) (r:Int):R3:=if Pc s r=0 then pos s r else (0,0,0)
def seen (s:S) (c:C) (x y:Rat) (h r:Int):Prop:=(ic s r x y h=0∧0≤sgq (iy s c r x y h - ((64*r:Int):Rat)))∧sgq (iy s c r x y h - ((64*r+64:Int):Rat))<0
instance (s:S) (c:C) (x y:Rat) (h r:Int):Decidable (seen s c x y h r):=by unfold seen;infer_instance
def rc (c:C) (h:Int):Prop:=cam c∧inb h
instance (c:C) (h:Int):Decidable (rc c h):=by unfold rc;infer_instance
def lcam (c:C) (lr ll:List Int):Prop:=(∀r∈lr,0≤r∧r<64)∧cam c∧wi 1048576 ll
instance (c:C) (lr ll:List Int):Decidable (lcam c lr ll):=by unfold lcam;infer_instance
def exS:S:=⟨0,10,0,0,0,1000,0,1,0,0,100,100,0,1000,0,1,0,0⟩
def exC:C:=⟨640,0,0⟩
theorem ex_chk:chk exS 64=0:=by decide +kernel
theorem ex_gc:Gc exS exC 64 128 0=0:=by decide +kernel
theorem ex_gx:Gx exS exC 64 128 0=((120:Int):Rat):=by decide +kernel
theorem ex_gy:Gy exS exC 64 128 0=((-200:Int):Rat):=by decide +kernel
theorem ex_cc:Cc exS exC 64 128 0 0=0:=by decide +kernel
theorem ex_cx:Cx exS exC 64 128 0 0=Rat.divInt 384 5:=by decide +kernel
theorem ex_cy:Cy exS exC 64 128 0 0=((128:Int):Rat):=by decide +kernel
end Go.Proofs.YtjeahiahjgifgaaGreatDoor.Sh
namespace Go.Proofs.YtjeahiahjgifgaaGreatDoor.Sp
open Go
set_option linter.unusedVariables false
set_option maxRecDepth 100000
set_option maxHeartbeats 8000000
theorem ztc {u1:Wd} {v1:Wd} {q1:Rat} {u2:Wd} {v2:Wd} {q2:Rat} {u3:Wd} {v3:Wd} {q3:Rat} {u4:Wd} {v4:Wd} {q4:Rat} (hl1:Big.hq q1+Big.hq q3+1≤1048576) (hl2:Big.hq q2+Big.hq q4+1≤1048576):Con Tryz.prog 21 [.agg #[u1.b,u1.l,v1.b,v1.l,u2.b,u2.l,v2.b,v2.l],.agg #[u3.b,u3.l,v3.b,v3.l,u4.b,u4.l,v4.b,v4.l]] [] [qF true u1 v1 q1,qF true u2 v2 q2,qF true u3 v3 q3,qF true u4 v4 q4] (Y:=Unit) (fun y=>True) (fun y=> .bool (decide (q1=q3∧q2=q4))) (fun y=>[]) (fun y=>[]):=by
 refine zA Tryz.func21 rfl rfl rfl (fun c=> ?_)
 show RunC _ _ _ _ _ [(0,.agg #[u1.b,u1.l,v1.b,v1.l,u2.b,u2.l,v2.b,v2.l]),(1,.agg #[u3.b,u3.l,v3.b,v3.l,u4.b,u4.l,v4.b,v4.l])] [] [qF true u1 v1 q1,qF true u2 v2 q2,qF true u3 v3 q3,qF true u4 v4 q4]
 refine zk<|zc<|zK rfl rfl (zfa rfl rfl) (fun b1=> ?_)
 refine zK rfl rfl (zfa rfl rfl) (fun b2=> ?_)
 refine r_pv rfl rfl (zh rfl)<|zl<|zg<|zKa (X:=Unit) (fun x=>True) (fun x=>[(4,.bool (decide ((q1=q3)∧(q2=q4))))]) (fun x=>[boxA b2 46 (cw [u3,v3,u4,v4]),boxA b1 46 (cw [u1,v1,u2,v2])]) (fun x=>[qF true u1 v1 q1,qF true u2 v2 q2,qF true u3 v3 q3,qF true u4 v4 q4]) ?_ ?_
 ·
  refine zc<|r_pv rfl rfl (zi Tryz.underlying46 rfl sz44 rfl rfl)<|r_u rfl rfl (ze 1 ty44 rfl rfl (.take (.take (.take (.take .nil)))))<|r_pv rfl rfl (zi Tryz.underlying46 rfl sz44 rfl rfl)<|r_u rfl rfl (ze 0 ty44 rfl rfl (.take (.take (.take (.take .nil)))))<|zX rfl rfl (.c rfl (.c rfl .n)) ce27 (zEb (u1:=u1) (v1:=v1) (q1:=q1) (u2:=u3) (v2:=v3) (q2:=q3) (hl:=by assumption)) (.c (j:=0) rfl (.c (j:=2) rfl .n))<|zta rfl rfl (zd rfl) (fun h3=> ?_) (fun h3=> ?_)
  ·
   refine r_pv rfl rfl (zi Tryz.underlying46 rfl sz44 rfl rfl)<|r_u rfl rfl (ze 1 ty44 rfl rfl (.skip (.skip (.skip (.skip (.take (.take (.take (.take .nil)))))))))<|r_pv rfl rfl (zi Tryz.underlying46 rfl sz44 rfl rfl)<|r_u rfl rfl (ze 0 ty44 rfl rfl (.skip (.skip (.skip (.skip (.take (.take (.take (.take .nil)))))))))<|zX rfl rfl (.c rfl (.c rfl .n)) ce27 (zEb (u1:=u2) (v1:=v2) (q1:=q2) (u2:=u4) (v2:=v4) (q2:=q4) (hl:=by assumption)) (.c (j:=1) rfl (.c (j:=3) rfl .n))<|r_pv rfl rfl (zW rfl rfl)<|r_pv rfl rfl (zh rfl)<|zl ?_
   exact zoa () (show True from by first|trivial|omega|simp_all) ((.e rfl (congrArg Value.bool (by first|(simp_all;done)|(simp_all;omega)|(simp;omega)|omega)) .n):SubM _ _) (ho:=((.of [0,0] rfl):PickO _ _ _)) ((.of [0,1,2,3] rfl):SelR _ _ _)
  ·
   refine zm rfl rfl<|zm rfl rfl<|zm rfl rfl<|zm rfl rfl<|zm rfl rfl<|r_pv rfl rfl (zW rfl rfl)<|r_pv rfl rfl (zh rfl)<|zl ?_
   exact zoa () (show True from by first|trivial|omega|simp_all) ((.e rfl (congrArg Value.bool (by first|(simp_all;done)|(simp_all;omega)|(simp;omega)|omega)) .n):SubM _ _) (ho:=((.of [0,0] rfl):PickO _ _ _)) ((.of [0,1,2,3] rfl):SelR _ _ _)
 ·
  rintro ⟨⟩ -
  try dsimp only [cw]
  refine zT ?_
  exact zO Tryz.results21 () trivial (zG rfl) rfl (ho:=(.n:PickO _ _ _)) (.n:SelR _ _ _)
theorem zyb:Con Tryz.prog 40 [] [] [] (Y:=Unit) (fun y=>True) (fun y=> .agg #[.int .i64 0,.int .i64 10,.int .i64 0,.int .i64 0,.int .i64 0,.int .i64 1000,.int .i64 0,.int .i64 1,.int .i64 0,.int .i64 0,.int .i64 100,.int .i64 100,.int .i64 0,.int .i64 1000,.int .i64 0,.int .i64 1,.int .i64 0,.int .i64 0]) (fun y=>[]) (fun y=>[]):=by
 refine zA Tryz.func40 rfl rfl rfl (fun c=> ?_)
 show RunC _ _ _ _ _ [] [] []
 refine zk<|zc<|zK rfl rfl (zq zr29 rfl) (fun b1=> ?_)
 refine zl<|zg<|zk<|zc<|r_pv rfl rfl (zw zr25 rfl Tryz.underlying25 (.c sz3 (.c sz3 (.c sz3 (.c sz3 .n)))) (.c rfl .n) (.c rfl rfl rfl (.skip (.take .nil)) .n))<|zK rfl rfl (zq zr25 rfl) (fun b2=> ?_)
 refine zn 0 rfl rfl rfl rfl rfl sz25 rfl (.take (.take (.take (.take .nil)))) .z<|zl<|zg<|zk<|zc<|r_pv rfl rfl (zw zr23 rfl Tryz.underlying23 (.c sz3 (.c sz3 (.c sz3 .n))) (.c rfl .n) (.c rfl rfl rfl (.skip (.skip (.take .nil))) .n))<|r_u rfl rfl (ze 0 ty25 rfl rfl (.take (.take (.take (.take .nil)))))<|r_pv rfl rfl (zw zr27 rfl Tryz.underlying27 (.c sz3 (.c sz23 (.c sz25 .n))) (.c rfl (.c rfl .n)) (.c rfl rfl rfl (.skip (.take (.take (.take .nil)))) (.c rfl rfl rfl (.skip (.skip (.skip (.skip (.take (.take (.take (.take .nil)))))))) .n)))<|r_pv rfl rfl (zw zr23 rfl Tryz.underlying23 (.c sz3 (.c sz3 (.c sz3 .n))) (.c rfl (.c rfl .n)) (.c rfl rfl rfl (.take .nil) (.c rfl rfl rfl (.skip (.skip (.take .nil))) .n)))<|r_u rfl rfl (ze 0 ty25 rfl rfl (.take (.take (.take (.take .nil)))))<|r_pv rfl rfl (zw zr27 rfl Tryz.underlying27 (.c sz3 (.c sz23 (.c sz25 .n))) (.c rfl (.c rfl (.c rfl .n))) (.c rfl rfl rfl (.take .nil) (.c rfl rfl rfl (.skip (.take (.take (.take .nil)))) (.c rfl rfl rfl (.skip (.skip (.skip (.skip (.take (.take (.take (.take .nil)))))))) .n))))<|r_pv rfl rfl (zw zr29 rfl Tryz.underlying29 (.c sz3 (.c sz3 (.c sz27 (.c sz27 .n)))) (.c rfl (.c rfl (.c rfl .n))) (.c rfl rfl rfl (.skip (.take .nil)) (.c rfl rfl rfl (.skip (.skip (.take (.take (.take (.take (.take (.take (.take (.take .nil)))))))))) (.c rfl rfl rfl (.skip (.skip (.skip (.skip (.skip (.skip (.skip (.skip (.skip (.skip (.take (.take (.take (.take (.take (.take (.take (.take .nil)))))))))))))))))) .n))))<|zn 1 rfl rfl rfl rfl rfl sz29 rfl (.take (.take (.take (.take (.take (.take (.take (.take (.take (.take (.take (.take (.take (.take (.take (.take (.take (.take .nil)))))))))))))))))) (.s .z)<|zl<|zg<|zT ?_
 exact zO Tryz.results40 () trivial (zu 1 ty29 rfl rfl (.take (.take (.take (.take (.take (.take (.take (.take (.take (.take (.take (.take (.take (.take (.take (.take (.take (.take .nil))))))))))))))))))) rfl (ho:=(.n:PickO _ _ _)) (.n:SelR _ _ _)
end Go.Proofs.YtjeahiahjgifgaaGreatDoor.Sp
namespace Go.Proofs.YtjeahiahjgifgaaGreatDoor.Sp
open Go
set_option linter.unusedVariables false
set_option maxRecDepth 100000
set_option maxHeartbeats 8000000
theorem zbf:Con Tryz.prog 11 [] [] [sgF] (Y:=Unit) (fun y=>True) (fun y=> .bool true) (fun y=>[]) (fun y=>[]):=by
 refine zA Tryz.func11 rfl rfl rfl (fun c=> ?_)
 show RunC _ _ _ _ _ [] [] [sgF]
 refine zk<|zc<|r_pv rfl rfl (zh rfl)<|zl<|zg<|zk<|zc<|r_pv rfl rfl (zw zr37 rfl Tryz.underlying37 (.c sz3 (.c sz35 .n)) (.c rfl .n) (.c rfl rfl rfl (.take .nil) .n))<|zK rfl rfl (zq zr37 rfl) (fun b1=> ?_)
 refine zn 0 rfl rfl rfl rfl rfl sz37 rfl (.take (.take (.take .nil))) .z<|zl<|zg<|zk<|zS (OW:=[]) (O:=[boxA b1 37 [.int .i64 640,.int .i64 0,.int .i64 0]]) 8 mixed (.then .ret) (by kernel_rfl)<|d_u 1 rfl rfl (by kernel_rfl) (by kernel_rfl) rfl rfl (ze 0 ty37 rfl rfl (.take (.take (.take .nil))))<|d_pv 2 rfl rfl (by kernel_rfl) (by kernel_rfl) rfl rfl (zw zr35 rfl Tryz.underlying35 (.c sz3 (.c sz3 .n)) (.c rfl (.c rfl .n)) (.c rfl rfl rfl (.take .nil) (.c rfl rfl rfl (.skip (.take .nil)) .n)))<|zFc (m':=[(12,.agg #[.int .i64 64,.int .i64 128]),(11,.agg #[.int .i64 640,.int .i64 0,.int .i64 0]),(1,.pointer (some ⟨b1,0,none⟩)),(0,.bool false)]) (R':=[sgF]) ((.of rfl):SubM _ _) (List.Perm.refl _) (List.Perm.refl _) ((.c (j:=0) rfl .n):SelR _ _ _)<|zka (X:=Wd×Wd×Wd×Wd×Nat) (k':=0) (L':=(lb 10 1023)) (fun (u3_1,u3_2,u3_3,u3_4,u7_1)=>([(3,.int .i64 (Sh.Gc Sh.exS Sh.exC 64 128 0)),(2,.pointer (some ⟨u7_1,0,none⟩)),(1,.pointer (some ⟨b1,0,none⟩)),(0,.bool false)],[boxA u7_1 46 (cw [u3_1,u3_2,u3_3,u3_4])],[boxA b1 37 [.int .i64 640,.int .i64 0,.int .i64 0]],[qF (decide (Sh.Gc Sh.exS Sh.exC 64 128 0=0)) u3_1 u3_2 (Sh.Gx Sh.exS Sh.exC 64 128 0),qF (decide (Sh.Gc Sh.exS Sh.exC 64 128 0=0)) u3_3 u3_4 (Sh.Gy Sh.exS Sh.exC 64 128 0),sgF])) ?_ (fun hD0=> ?_)
 ·
  rintro ⟨u3_1,u3_2,u3_3,u3_4,u7_1⟩
  dsimp only [cw,cS]
  refine zR (by kernel_rfl)<|zg<|zk ?_
  have e2:(decide (Sh.Gc Sh.exS Sh.exC 64 128 0=0))=true:=by exact decide_eq_true Sh.ex_gc
  rw [e2]
  have e3:(Sh.Gx Sh.exS Sh.exC 64 128 0:Rat)=((120:Int):Rat):=by exact Sh.ex_gx
  rw [e3]
  have e4:(Sh.Gy Sh.exS Sh.exC 64 128 0:Rat)=((-200:Int):Rat):=by exact Sh.ex_gy
  rw [e4]
  have e5:(Sh.Gc Sh.exS Sh.exC 64 128 0:Int)=0:=by exact Sh.ex_gc
  rw [e5]
  refine zS (OW:=[]) (O:=[boxA u7_1 46 (cw [u3_1,u3_2,u3_3,u3_4]),boxA b1 37 [.int .i64 640,.int .i64 0,.int .i64 0]]) 8 mixed (.then .ret) (by kernel_rfl)<|d_u 1 rfl rfl (by kernel_rfl) (by kernel_rfl) rfl rfl (ze 1 ty37 rfl rfl (.take (.take (.take .nil))))<|d_pv 2 rfl rfl (by kernel_rfl) (by kernel_rfl) rfl rfl (zw zr35 rfl Tryz.underlying35 (.c sz3 (.c sz3 .n)) (.c rfl (.c rfl .n)) (.c rfl rfl rfl (.take .nil) (.c rfl rfl rfl (.skip (.take .nil)) .n)))<|zFc (m':=[(19,.agg #[.int .i64 64,.int .i64 128]),(18,.agg #[.int .i64 640,.int .i64 0,.int .i64 0]),(3,.int .i64 0),(2,.pointer (some ⟨u7_1,0,none⟩)),(0,.bool false)]) (R':=[qF true u3_1 u3_2 ((120:Int):Rat),qF true u3_3 u3_4 ((-200:Int):Rat),sgF]) ((.of rfl):SubM _ _) (List.Perm.refl _) (List.Perm.refl _) ((.of [0,1,2] rfl):SelR _ _ _)<|zka (X:=Wd×Wd×Wd×Wd×Nat) (k':=0) (L':=(lb 10 1023)) (fun (u3_1r2,u3_2r2,u3_3r2,u3_4r2,u7_1r2)=>([(5,.int .i64 (Sh.Cc Sh.exS Sh.exC 64 128 0 0)),(4,.pointer (some ⟨u7_1r2,0,none⟩)),(3,.int .i64 0),(2,.pointer (some ⟨u7_1,0,none⟩)),(0,.bool false)],[boxA u7_1r2 46 (cw [u3_1r2,u3_2r2,u3_3r2,u3_4r2])],[boxA u7_1 46 (cw [u3_1,u3_2,u3_3,u3_4]),boxA b1 37 [.int .i64 640,.int .i64 0,.int .i64 0]],[qF (decide (Sh.Cc Sh.exS Sh.exC 64 128 0 0=0)) u3_1r2 u3_2r2 (Sh.Cx Sh.exS Sh.exC 64 128 0 0),qF (decide (Sh.Cc Sh.exS Sh.exC 64 128 0 0=0)) u3_3r2 u3_4r2 (Sh.Cy Sh.exS Sh.exC 64 128 0 0),qF true u3_1 u3_2 ((120:Int):Rat),qF true u3_3 u3_4 ((-200:Int):Rat),sgF])) ?_ (fun hD0=> ?_)
  ·
   rintro ⟨u3_1r2,u3_2r2,u3_3r2,u3_4r2,u7_1r2⟩
   dsimp only [cw,cS]
   refine zR (by kernel_rfl)<|zg<|zk ?_
   have e6:(decide (Sh.Cc Sh.exS Sh.exC 64 128 0 0=0))=true:=by exact decide_eq_true Sh.ex_cc
   rw [e6]
   have e7:(Sh.Cx Sh.exS Sh.exC 64 128 0 0:Rat)=Rat.divInt 384 5:=by exact Sh.ex_cx
   rw [e7]
   have e8:(Sh.Cy Sh.exS Sh.exC 64 128 0 0:Rat)=((128:Int):Rat):=by exact Sh.ex_cy
   rw [e8]
   have e9:(Sh.Cc Sh.exS Sh.exC 64 128 0 0:Int)=0:=by exact Sh.ex_cc
   rw [e9]
   refine zc<|zJ rfl rfl (.c rfl (.c rfl .n)) ce41 (zxe (z1:=384) (z2:=5) (hz1:=by first|rfl|assumption|decide|omega|exact Sh.hqX) (hz2:=by first|rfl|assumption|decide|omega|exact Sh.hqX) (hy:=by first|rfl|assumption|decide|omega|exact Sh.hqX)) (.n) ?_
   rintro ⟨w310,w411⟩ -
   dsimp only [List.append_eq,List.nil_append,List.cons_append]
   refine r_pv rfl rfl (zd rfl)<|r_pv rfl rfl (zy rfl rfl)<|r_pv rfl rfl (zy rfl rfl)<|zK rfl rfl (zq zr44 rfl) (fun b12=> ?_)
   refine zn 0 rfl rfl rfl rfl rfl sz44 rfl (.take (.take (.take (.take .nil)))) .z<|r_pv rfl rfl (zh rfl)<|zl<|zg<|zk<|zS (OW:=[]) (O:=[boxA b12 44 (cw [w310,w411]),boxA u7_1r2 46 (cw [u3_1r2,u3_2r2,u3_3r2,u3_4r2]),boxA u7_1 46 (cw [u3_1,u3_2,u3_3,u3_4]),boxA b1 37 [.int .i64 640,.int .i64 0,.int .i64 0]]) 100000 mixed (.then .ret) (by kernel_rfl)<|d_pv 0 rfl rfl (by kernel_rfl) (by kernel_rfl) rfl rfl (zd rfl)<|d_pv 1 rfl rfl (by kernel_rfl) (by kernel_rfl) rfl rfl (zMa rfl rfl)<|d_pv 2 rfl rfl (by kernel_rfl) (by kernel_rfl) rfl rfl (zd rfl)<|d_pv 3 rfl rfl (by kernel_rfl) (by kernel_rfl) rfl rfl (zd rfl)<|d_pv 4 rfl rfl (by kernel_rfl) (by kernel_rfl) rfl rfl (zMa rfl rfl)<|d_pv 5 rfl rfl (by kernel_rfl) (by kernel_rfl) rfl rfl (zW rfl rfl)<|d_pv 6 rfl rfl (by kernel_rfl) (by kernel_rfl) rfl rfl (zd rfl)<|d_u 7 rfl rfl (by kernel_rfl) (by kernel_rfl) rfl rfl (ze 2 ty46 rfl rfl (.take (.take (.take (.take (.take (.take (.take (.take .nil)))))))))<|zt 8 (by kernel_rfl) (zo rfl rfl rfl rfl (.c rfl .n) ce22 (zYb (z:=120) (hz:=by first|rfl|assumption|decide|omega|exact Sh.hqX)) (.n) ?_)
   rintro ⟨w313,w414⟩ -
   dsimp only [List.append_eq,List.nil_append,List.cons_append]
   refine zt 9 (by kernel_rfl) (zo rfl rfl rfl rfl (.c rfl .n) ce22 (zYb (z:=(-200)) (hz:=by first|rfl|assumption|decide|omega|exact Sh.hqX)) (.n) ?_)
   rintro ⟨w315,w416⟩ -
   dsimp only [List.append_eq,List.nil_append,List.cons_append]
   refine d_pv 10 rfl rfl (by kernel_rfl) (by kernel_rfl) rfl rfl (zw zr46 rfl Tryz.underlying46 (.c sz44 (.c sz44 .n)) (.c rfl (.c rfl .n)) (.c rfl rfl rfl (.take (.take (.take (.take .nil)))) (.c rfl rfl rfl (.skip (.skip (.skip (.skip (.take (.take (.take (.take .nil)))))))) .n)))<|zt 11 (by kernel_rfl) (zFa rfl rfl rfl rfl (.c rfl (.c rfl .n)) ce21 (ztc (u1:=u3_1) (v1:=u3_2) (q1:=((120:Int):Rat)) (u2:=u3_3) (v2:=u3_4) (q2:=((-200:Int):Rat)) (u3:=w313) (v3:=w414) (q3:=((120:Int):Rat)) (u4:=w315) (v4:=w416) (q4:=(((-200):Int):Rat)) (hl1:=by first|rfl|assumption|decide|omega|exact Sh.hqX) (hl2:=by first|rfl|assumption|decide|omega|exact Sh.hqX)) (.c (j:=5) rfl (.c (j:=6) rfl (.c (j:=1) rfl (.c (j:=0) rfl .n)))) ?_)
   rw [show (decide (((120:Int):Rat)=((120:Int):Rat)∧((-200:Int):Rat)=(((-200):Int):Rat)))=true from by exact decide_eq_true ⟨rfl,rfl⟩]
   refine d_pv 12 rfl rfl (by kernel_rfl) (by kernel_rfl) rfl rfl (zW rfl rfl)<|d_pv 13 rfl rfl (by kernel_rfl) (by kernel_rfl) rfl rfl (zd rfl)<|d_u 14 rfl rfl (by kernel_rfl) (by kernel_rfl) rfl rfl (ze 1 ty46 rfl rfl (.take (.take (.take (.take (.take (.take (.take (.take .nil)))))))))<|d_u 15 rfl rfl (by kernel_rfl) (by kernel_rfl) rfl rfl (ze 0 ty44 rfl rfl (.take (.take (.take (.take .nil)))))<|zt 16 (by kernel_rfl) (zo rfl rfl rfl rfl (.c rfl .n) ce22 (zYb (z:=128) (hz:=by first|rfl|assumption|decide|omega|exact Sh.hqX)) (.n) ?_)
   rintro ⟨w317,w418⟩ -
   dsimp only [List.append_eq,List.nil_append,List.cons_append]
   refine d_pv 17 rfl rfl (by kernel_rfl) (by kernel_rfl) rfl rfl (zw zr46 rfl Tryz.underlying46 (.c sz44 (.c sz44 .n)) (.c rfl (.c rfl .n)) (.c rfl rfl rfl (.take (.take (.take (.take .nil)))) (.c rfl rfl rfl (.skip (.skip (.skip (.skip (.take (.take (.take (.take .nil)))))))) .n)))<|zt 18 (by kernel_rfl) (zFa rfl rfl rfl rfl (.c rfl (.c rfl .n)) ce21 (ztc (u1:=u3_1r2) (v1:=u3_2r2) (q1:=(Rat.divInt 384 5)) (u2:=u3_3r2) (v2:=u3_4r2) (q2:=((128:Int):Rat)) (u3:=w310) (v3:=w411) (q3:=Rat.divInt 384 5) (u4:=w317) (v4:=w418) (q4:=((128:Int):Rat)) (hl1:=by first|rfl|assumption|decide|omega|exact Sh.hqX) (hl2:=by first|rfl|assumption|decide|omega|exact Sh.hqX)) (.c (j:=4) rfl (.c (j:=5) rfl (.c (j:=3) rfl (.c (j:=0) rfl .n)))) ?_)
   rw [show (decide ((Rat.divInt 384 5)=(Rat.divInt 384 5)∧((128:Int):Rat)=((128:Int):Rat)))=true from by exact decide_eq_true ⟨rfl,rfl⟩]
   refine d_pv 19 rfl rfl (by kernel_rfl) (by kernel_rfl) rfl rfl (zW rfl rfl)<|d_pv 20 rfl rfl (by kernel_rfl) (by kernel_rfl) rfl rfl (zd rfl)<|zt 21 (by kernel_rfl) (zFa rfl rfl rfl rfl (.n) ce40 (zyb) (.n) ?_)
   refine zt 22 (by kernel_rfl) (zFa rfl rfl rfl rfl (.c rfl (.c rfl .n)) ce12 (zlc (s:=Sh.exS) (n:=64) (hfi:=by first|rfl|assumption|decide|omega|exact Sh.hqX) (hst:=by first|rfl|assumption|decide|omega|exact Sh.hqX) (hta:=by first|rfl|assumption|decide|omega|exact Sh.hqX) (htb:=by first|rfl|assumption|decide|omega|exact Sh.hqX) (hxa:=by first|rfl|assumption|decide|omega|exact Sh.hqX) (hya:=by first|rfl|assumption|decide|omega|exact Sh.hqX) (hza:=by first|rfl|assumption|decide|omega|exact Sh.hqX) (hqa:=by first|rfl|assumption|decide|omega|exact Sh.hqX) (hqb:=by first|rfl|assumption|decide|omega|exact Sh.hqX) (hqc:=by first|rfl|assumption|decide|omega|exact Sh.hqX) (hqd:=by first|rfl|assumption|decide|omega|exact Sh.hqX) (hxb:=by first|rfl|assumption|decide|omega|exact Sh.hqX) (hyb:=by first|rfl|assumption|decide|omega|exact Sh.hqX) (hzb:=by first|rfl|assumption|decide|omega|exact Sh.hqX) (hra:=by first|rfl|assumption|decide|omega|exact Sh.hqX) (hrb:=by first|rfl|assumption|decide|omega|exact Sh.hqX) (hrc:=by first|rfl|assumption|decide|omega|exact Sh.hqX) (hrd:=by first|rfl|assumption|decide|omega|exact Sh.hqX)) (.n) ?_)
   refine d_pv 23 rfl rfl (by kernel_rfl) (by kernel_rfl) rfl rfl (zMa rfl rfl) ?_
   rw [show (decide (Sh.chk Sh.exS 64=0))=true from by exact decide_eq_true Sh.ex_chk]
   refine d_pv 24 rfl rfl (by kernel_rfl) (by kernel_rfl) rfl rfl (zW rfl rfl)<|d_pv 25 rfl rfl (by kernel_rfl) (by kernel_rfl) rfl rfl (zh rfl)<|zR (by kernel_rfl)<|zg<|zT ?_
   exact zO Tryz.results11 () trivial (zG rfl) rfl (ho:=(.n:PickO _ _ _)) (.n:SelR _ _ _)
  refine zka (X:=Wd×Wd×Wd×Wd×Nat) (k':=2) (L':=(lb 10 255)) (fun (u3_1r2,u3_2r2,u3_3r2,u3_4r2,u7_1r2)=>([(4,.pointer (some ⟨u7_1r2,0,none⟩)),(22,.int .i64 (Sh.Cc Sh.exS Sh.exC 64 128 0 0)),(21,.agg (cw [u3_1r2,u3_2r2,u3_3r2,u3_4r2]).toArray),(3,.int .i64 0),(2,.pointer (some ⟨u7_1,0,none⟩)),(0,.bool false)],[boxA u7_1r2 46 (cw [wz,wz,wz,wz])],[boxA u7_1 46 (cw [u3_1,u3_2,u3_3,u3_4]),boxA b1 37 [.int .i64 640,.int .i64 0,.int .i64 0]],[qF (decide (Sh.Cc Sh.exS Sh.exC 64 128 0 0=0)) u3_1r2 u3_2r2 (Sh.Cx Sh.exS Sh.exC 64 128 0 0),qF (decide (Sh.Cc Sh.exS Sh.exC 64 128 0 0=0)) u3_3r2 u3_4r2 (Sh.Cy Sh.exS Sh.exC 64 128 0 0),qF true u3_1 u3_2 ((120:Int):Rat),qF true u3_3 u3_4 ((-200:Int):Rat),sgF])) ?_ (fun hD1=> ?_)
  ·
   rintro ⟨u3_1r2,u3_2r2,u3_3r2,u3_4r2,u7_1r2⟩
   dsimp only [cw,cS]
   refine zt 8 (by kernel_rfl) ?_
   ·
    refine zr (by kernel_rfl) rfl rfl rfl rfl rfl sz46 rfl (.take (.take (.take (.take (.take (.take (.take (.take .nil))))))))<|d_pv 9 rfl rfl (by kernel_rfl) (by kernel_rfl) rfl rfl (zh rfl) ?_
    exact zP (hD0 (u3_1r2,u3_2r2,u3_3r2,u3_4r2,u7_1r2)) (by kernel_rfl) ((.of rfl):SubM _ _) .rfl .rfl ((.of [0,1,2,3,4] rfl):SelR _ _ _)
  refine zka (X:=Wd×Wd×Wd×Wd) (k':=3) (L':=(lb 10 127)) (fun (u3_1r2,u3_2r2,u3_3r2,u3_4r2)=>([(22,.int .i64 (Sh.Cc Sh.exS Sh.exC 64 128 0 0)),(21,.agg (cw [u3_1r2,u3_2r2,u3_3r2,u3_4r2]).toArray),(3,.int .i64 0),(2,.pointer (some ⟨u7_1,0,none⟩)),(0,.bool false)],[],[boxA u7_1 46 (cw [u3_1,u3_2,u3_3,u3_4]),boxA b1 37 [.int .i64 640,.int .i64 0,.int .i64 0]],[qF (decide (Sh.Cc Sh.exS Sh.exC 64 128 0 0=0)) u3_1r2 u3_2r2 (Sh.Cx Sh.exS Sh.exC 64 128 0 0),qF (decide (Sh.Cc Sh.exS Sh.exC 64 128 0 0=0)) u3_3r2 u3_4r2 (Sh.Cy Sh.exS Sh.exC 64 128 0 0),qF true u3_1 u3_2 ((120:Int):Rat),qF true u3_3 u3_4 ((-200:Int):Rat),sgF])) ?_ (fun hD2=> ?_)
  ·
   rintro ⟨u3_1r2,u3_2r2,u3_3r2,u3_4r2⟩
   dsimp only [cw,cS]
   refine zt 7 (by kernel_rfl) ?_
   ·
    refine zxa rfl rfl rfl rfl (zq zr46 rfl) (fun u7_1r2 _=> ?_)
    exact zP (hD1 (u3_1r2,u3_2r2,u3_3r2,u3_4r2,u7_1r2)) (by kernel_rfl) ((.of rfl):SubM _ _) .rfl .rfl ((.of [0,1,2,3,4] rfl):SelR _ _ _)
  refine zka (X:=Nat) (k':=6) (L':=(lb 10 135)) (fun u7_1r2=>([(4,.pointer (some ⟨u7_1r2,0,none⟩)),(17,.agg #[.int .i64 0,.int .i64 10,.int .i64 0,.int .i64 0,.int .i64 0,.int .i64 1000,.int .i64 0,.int .i64 1,.int .i64 0,.int .i64 0,.int .i64 100,.int .i64 100,.int .i64 0,.int .i64 1000,.int .i64 0,.int .i64 1,.int .i64 0,.int .i64 0]),(19,.agg #[.int .i64 64,.int .i64 128]),(18,.agg #[.int .i64 640,.int .i64 0,.int .i64 0]),(3,.int .i64 0),(2,.pointer (some ⟨u7_1,0,none⟩)),(0,.bool false)],[boxA u7_1r2 46 (cw [wz,wz,wz,wz])],[boxA u7_1 46 (cw [u3_1,u3_2,u3_3,u3_4]),boxA b1 37 [.int .i64 640,.int .i64 0,.int .i64 0]],[qF true u3_1 u3_2 ((120:Int):Rat),qF true u3_3 u3_4 ((-200:Int):Rat),sgF])) ?_ (fun hD3=> ?_)
  ·
   rintro u7_1r2
   dsimp only [cw,cS]
   refine zt 3 (by kernel_rfl) ?_
   ·
    refine zo rfl rfl rfl rfl (.c rfl (.c rfl (.c rfl (.c rfl (.c rfl .n))))) ce14 (zZc (s:=Sh.exS) (cm:=Sh.exC) (u:=64) (v:=128) (r:=0) (h:=0) (hfi:=by first|rfl|assumption|decide|omega|exact Sh.hqX) (hst:=by first|rfl|assumption|decide|omega|exact Sh.hqX) (hta:=by first|rfl|assumption|decide|omega|exact Sh.hqX) (htb:=by first|rfl|assumption|decide|omega|exact Sh.hqX) (hxa:=by first|rfl|assumption|decide|omega|exact Sh.hqX) (hya:=by first|rfl|assumption|decide|omega|exact Sh.hqX) (hza:=by first|rfl|assumption|decide|omega|exact Sh.hqX) (hqa:=by first|rfl|assumption|decide|omega|exact Sh.hqX) (hqb:=by first|rfl|assumption|decide|omega|exact Sh.hqX) (hqc:=by first|rfl|assumption|decide|omega|exact Sh.hqX) (hqd:=by first|rfl|assumption|decide|omega|exact Sh.hqX) (hxb:=by first|rfl|assumption|decide|omega|exact Sh.hqX) (hyb:=by first|rfl|assumption|decide|omega|exact Sh.hqX) (hzb:=by first|rfl|assumption|decide|omega|exact Sh.hqX) (hra:=by first|rfl|assumption|decide|omega|exact Sh.hqX) (hrb:=by first|rfl|assumption|decide|omega|exact Sh.hqX) (hrc:=by first|rfl|assumption|decide|omega|exact Sh.hqX) (hrd:=by first|rfl|assumption|decide|omega|exact Sh.hqX) (h64fo:=by first|rfl|assumption|decide|omega|exact Sh.hqX) (h64cx:=by first|rfl|assumption|decide|omega|exact Sh.hqX) (h64cy:=by first|rfl|assumption|decide|omega|exact Sh.hqX) (h64u:=by first|rfl|assumption|decide|omega|exact Sh.hqX) (h64v:=by first|rfl|assumption|decide|omega|exact Sh.hqX) (h64r:=by first|rfl|assumption|decide|omega|exact Sh.hqX) (h64h:=by first|rfl|assumption|decide|omega|exact Sh.hqX)) (.c (j:=2) rfl .n) ?_
    rintro ⟨u3_1r2,u3_2r2,u3_3r2,u3_4r2⟩ hph2
    dsimp only [List.append_eq,List.nil_append,List.cons_append]
    replace hph2:Sh.Cc Sh.exS Sh.exC 64 128 0 0≠0→u3_1r2=wz∧u3_2r2=wz∧u3_3r2=wz∧u3_4r2=wz:=hph2
    refine d_pv 4 rfl rfl (by kernel_rfl) (by kernel_rfl) rfl rfl (zd rfl)<|d_pv 5 rfl rfl (by kernel_rfl) (by kernel_rfl) rfl rfl (zy rfl rfl)<|d_pv 6 rfl rfl (by kernel_rfl) (by kernel_rfl) rfl rfl (zy rfl rfl) ?_
    exact zP (hD1 (u3_1r2,u3_2r2,u3_3r2,u3_4r2,u7_1r2)) (by kernel_rfl) ((.of rfl):SubM _ _) .rfl .rfl ((.of [0,1,2,3,4] rfl):SelR _ _ _)
  refine zka (X:=Unit) (k':=7) (L':=(lb 10 7)) (fun _=>([(17,.agg #[.int .i64 0,.int .i64 10,.int .i64 0,.int .i64 0,.int .i64 0,.int .i64 1000,.int .i64 0,.int .i64 1,.int .i64 0,.int .i64 0,.int .i64 100,.int .i64 100,.int .i64 0,.int .i64 1000,.int .i64 0,.int .i64 1,.int .i64 0,.int .i64 0]),(19,.agg #[.int .i64 64,.int .i64 128]),(18,.agg #[.int .i64 640,.int .i64 0,.int .i64 0]),(3,.int .i64 0),(2,.pointer (some ⟨u7_1,0,none⟩)),(0,.bool false)],[],[boxA u7_1 46 (cw [u3_1,u3_2,u3_3,u3_4]),boxA b1 37 [.int .i64 640,.int .i64 0,.int .i64 0]],[qF true u3_1 u3_2 ((120:Int):Rat),qF true u3_3 u3_4 ((-200:Int):Rat),sgF])) ?_ (fun hD4=> ?_)
  ·
   rintro ⟨⟩
   dsimp only [cw,cS]
   refine zrb 3 7 (by kernel_rfl) ?_ ?_
   ·
    refine zo rfl rfl rfl rfl (.c rfl (.c rfl (.c rfl (.c rfl (.c rfl .n))))) ce14 (zZc (s:=Sh.exS) (cm:=Sh.exC) (u:=64) (v:=128) (r:=0) (h:=0) (hfi:=by first|rfl|assumption|decide|omega|exact Sh.hqX) (hst:=by first|rfl|assumption|decide|omega|exact Sh.hqX) (hta:=by first|rfl|assumption|decide|omega|exact Sh.hqX) (htb:=by first|rfl|assumption|decide|omega|exact Sh.hqX) (hxa:=by first|rfl|assumption|decide|omega|exact Sh.hqX) (hya:=by first|rfl|assumption|decide|omega|exact Sh.hqX) (hza:=by first|rfl|assumption|decide|omega|exact Sh.hqX) (hqa:=by first|rfl|assumption|decide|omega|exact Sh.hqX) (hqb:=by first|rfl|assumption|decide|omega|exact Sh.hqX) (hqc:=by first|rfl|assumption|decide|omega|exact Sh.hqX) (hqd:=by first|rfl|assumption|decide|omega|exact Sh.hqX) (hxb:=by first|rfl|assumption|decide|omega|exact Sh.hqX) (hyb:=by first|rfl|assumption|decide|omega|exact Sh.hqX) (hzb:=by first|rfl|assumption|decide|omega|exact Sh.hqX) (hra:=by first|rfl|assumption|decide|omega|exact Sh.hqX) (hrb:=by first|rfl|assumption|decide|omega|exact Sh.hqX) (hrc:=by first|rfl|assumption|decide|omega|exact Sh.hqX) (hrd:=by first|rfl|assumption|decide|omega|exact Sh.hqX) (h64fo:=by first|rfl|assumption|decide|omega|exact Sh.hqX) (h64cx:=by first|rfl|assumption|decide|omega|exact Sh.hqX) (h64cy:=by first|rfl|assumption|decide|omega|exact Sh.hqX) (h64u:=by first|rfl|assumption|decide|omega|exact Sh.hqX) (h64v:=by first|rfl|assumption|decide|omega|exact Sh.hqX) (h64r:=by first|rfl|assumption|decide|omega|exact Sh.hqX) (h64h:=by first|rfl|assumption|decide|omega|exact Sh.hqX)) (.c (j:=2) rfl .n) ?_
    rintro ⟨u3_1r2,u3_2r2,u3_3r2,u3_4r2⟩ hph2
    dsimp only [List.append_eq,List.nil_append,List.cons_append]
    replace hph2:Sh.Cc Sh.exS Sh.exC 64 128 0 0≠0→u3_1r2=wz∧u3_2r2=wz∧u3_3r2=wz∧u3_4r2=wz:=hph2
    refine d_pv 4 rfl rfl (by kernel_rfl) (by kernel_rfl) rfl rfl (zd rfl)<|d_pv 5 rfl rfl (by kernel_rfl) (by kernel_rfl) rfl rfl (zy rfl rfl)<|d_pv 6 rfl rfl (by kernel_rfl) (by kernel_rfl) rfl rfl (zy rfl rfl) ?_
    exact zP (hD2 (u3_1r2,u3_2r2,u3_3r2,u3_4r2)) (by kernel_rfl) ((.of rfl):SubM _ _) .rfl .rfl ((.of [0,1,2,3,4] rfl):SelR _ _ _)
   ·
    refine zxa rfl rfl rfl rfl (zq zr46 rfl) (fun u7_1r2 _=> ?_)
    exact zP (hD3 u7_1r2) (by kernel_rfl) ((.of rfl):SubM _ _) .rfl .rfl ((.of [0,1,2] rfl):SelR _ _ _)
  refine zka (X:=Nat) (k':=7) (L':=(lb 10 134)) (fun u7_1r2=>([(4,.pointer (some ⟨u7_1r2,0,none⟩)),(19,.agg #[.int .i64 64,.int .i64 128]),(18,.agg #[.int .i64 640,.int .i64 0,.int .i64 0]),(3,.int .i64 0),(2,.pointer (some ⟨u7_1,0,none⟩)),(0,.bool false)],[boxA u7_1r2 46 (cw [wz,wz,wz,wz])],[boxA u7_1 46 (cw [u3_1,u3_2,u3_3,u3_4]),boxA b1 37 [.int .i64 640,.int .i64 0,.int .i64 0]],[qF true u3_1 u3_2 ((120:Int):Rat),qF true u3_3 u3_4 ((-200:Int):Rat),sgF])) ?_ (fun hD5=> ?_)
  ·
   rintro u7_1r2
   dsimp only [cw,cS]
   refine zt 0 (by kernel_rfl) ?_
   ·
    refine zFa rfl rfl rfl rfl (.n) ce40 (zyb) (.n) ?_
    exact zP (hD3 u7_1r2) (by kernel_rfl) ((.of rfl):SubM _ _) .rfl .rfl ((.of [0,1,2] rfl):SelR _ _ _)
  refine zrb 0 7 (by kernel_rfl) ?_ ?_
  ·
   refine zFa rfl rfl rfl rfl (.n) ce40 (zyb) (.n) ?_
   exact zP (hD4 ()) (by kernel_rfl) ((.of rfl):SubM _ _) .rfl .rfl ((.of [0,1,2] rfl):SelR _ _ _)
  ·
   refine zxa rfl rfl rfl rfl (zq zr46 rfl) (fun u7_1r2 _=> ?_)
   exact zP (hD5 u7_1r2) (by kernel_rfl) ((.of rfl):SubM _ _) .rfl .rfl ((.of [0,1,2] rfl):SelR _ _ _)
 refine zka (X:=Wd×Wd×Wd×Wd×Nat) (k':=2) (L':=(lb 10 255)) (fun (u3_1,u3_2,u3_3,u3_4,u7_1)=>([(2,.pointer (some ⟨u7_1,0,none⟩)),(15,.int .i64 (Sh.Gc Sh.exS Sh.exC 64 128 0)),(14,.agg (cw [u3_1,u3_2,u3_3,u3_4]).toArray),(1,.pointer (some ⟨b1,0,none⟩)),(0,.bool false)],[boxA u7_1 46 (cw [wz,wz,wz,wz])],[boxA b1 37 [.int .i64 640,.int .i64 0,.int .i64 0]],[qF (decide (Sh.Gc Sh.exS Sh.exC 64 128 0=0)) u3_1 u3_2 (Sh.Gx Sh.exS Sh.exC 64 128 0),qF (decide (Sh.Gc Sh.exS Sh.exC 64 128 0=0)) u3_3 u3_4 (Sh.Gy Sh.exS Sh.exC 64 128 0),sgF])) ?_ (fun hD1=> ?_)
 ·
  rintro ⟨u3_1,u3_2,u3_3,u3_4,u7_1⟩
  dsimp only [cw,cS]
  refine zt 8 (by kernel_rfl) ?_
  ·
   refine zr (by kernel_rfl) rfl rfl rfl rfl rfl sz46 rfl (.take (.take (.take (.take (.take (.take (.take (.take .nil))))))))<|d_pv 9 rfl rfl (by kernel_rfl) (by kernel_rfl) rfl rfl (zh rfl) ?_
   exact zP (hD0 (u3_1,u3_2,u3_3,u3_4,u7_1)) (by kernel_rfl) ((.of rfl):SubM _ _) .rfl .rfl ((.of [0,1,2] rfl):SelR _ _ _)
 refine zka (X:=Wd×Wd×Wd×Wd) (k':=3) (L':=(lb 10 127)) (fun (u3_1,u3_2,u3_3,u3_4)=>([(15,.int .i64 (Sh.Gc Sh.exS Sh.exC 64 128 0)),(14,.agg (cw [u3_1,u3_2,u3_3,u3_4]).toArray),(1,.pointer (some ⟨b1,0,none⟩)),(0,.bool false)],[],[boxA b1 37 [.int .i64 640,.int .i64 0,.int .i64 0]],[qF (decide (Sh.Gc Sh.exS Sh.exC 64 128 0=0)) u3_1 u3_2 (Sh.Gx Sh.exS Sh.exC 64 128 0),qF (decide (Sh.Gc Sh.exS Sh.exC 64 128 0=0)) u3_3 u3_4 (Sh.Gy Sh.exS Sh.exC 64 128 0),sgF])) ?_ (fun hD2=> ?_)
 ·
  rintro ⟨u3_1,u3_2,u3_3,u3_4⟩
  dsimp only [cw,cS]
  refine zt 7 (by kernel_rfl) ?_
  ·
   refine zxa rfl rfl rfl rfl (zq zr46 rfl) (fun u7_1 _=> ?_)
   exact zP (hD1 (u3_1,u3_2,u3_3,u3_4,u7_1)) (by kernel_rfl) ((.of rfl):SubM _ _) .rfl .rfl ((.of [0,1,2] rfl):SelR _ _ _)
 refine zka (X:=Nat) (k':=6) (L':=(lb 10 135)) (fun u7_1=>([(2,.pointer (some ⟨u7_1,0,none⟩)),(10,.agg #[.int .i64 0,.int .i64 10,.int .i64 0,.int .i64 0,.int .i64 0,.int .i64 1000,.int .i64 0,.int .i64 1,.int .i64 0,.int .i64 0,.int .i64 100,.int .i64 100,.int .i64 0,.int .i64 1000,.int .i64 0,.int .i64 1,.int .i64 0,.int .i64 0]),(12,.agg #[.int .i64 64,.int .i64 128]),(11,.agg #[.int .i64 640,.int .i64 0,.int .i64 0]),(1,.pointer (some ⟨b1,0,none⟩)),(0,.bool false)],[boxA u7_1 46 (cw [wz,wz,wz,wz])],[boxA b1 37 [.int .i64 640,.int .i64 0,.int .i64 0]],[sgF])) ?_ (fun hD3=> ?_)
 ·
  rintro u7_1
  dsimp only [cw,cS]
  refine zt 3 (by kernel_rfl) ?_
  ·
   refine zo rfl rfl rfl rfl (.c rfl (.c rfl (.c rfl (.c rfl .n)))) ce24 (znd (s:=Sh.exS) (cm:=Sh.exC) (u:=64) (v:=128) (h:=0) (hfi:=by first|rfl|assumption|decide|omega|exact Sh.hqX) (hst:=by first|rfl|assumption|decide|omega|exact Sh.hqX) (hta:=by first|rfl|assumption|decide|omega|exact Sh.hqX) (htb:=by first|rfl|assumption|decide|omega|exact Sh.hqX) (hxa:=by first|rfl|assumption|decide|omega|exact Sh.hqX) (hya:=by first|rfl|assumption|decide|omega|exact Sh.hqX) (hza:=by first|rfl|assumption|decide|omega|exact Sh.hqX) (hqa:=by first|rfl|assumption|decide|omega|exact Sh.hqX) (hqb:=by first|rfl|assumption|decide|omega|exact Sh.hqX) (hqc:=by first|rfl|assumption|decide|omega|exact Sh.hqX) (hqd:=by first|rfl|assumption|decide|omega|exact Sh.hqX) (hxb:=by first|rfl|assumption|decide|omega|exact Sh.hqX) (hyb:=by first|rfl|assumption|decide|omega|exact Sh.hqX) (hzb:=by first|rfl|assumption|decide|omega|exact Sh.hqX) (hra:=by first|rfl|assumption|decide|omega|exact Sh.hqX) (hrb:=by first|rfl|assumption|decide|omega|exact Sh.hqX) (hrc:=by first|rfl|assumption|decide|omega|exact Sh.hqX) (hrd:=by first|rfl|assumption|decide|omega|exact Sh.hqX) (h64fo:=by first|rfl|assumption|decide|omega|exact Sh.hqX) (h64cx:=by first|rfl|assumption|decide|omega|exact Sh.hqX) (h64cy:=by first|rfl|assumption|decide|omega|exact Sh.hqX) (h64u:=by first|rfl|assumption|decide|omega|exact Sh.hqX) (h64v:=by first|rfl|assumption|decide|omega|exact Sh.hqX) (h64h:=by first|rfl|assumption|decide|omega|exact Sh.hqX)) (.c (j:=0) rfl .n) ?_
   rintro ⟨u3_1,u3_2,u3_3,u3_4⟩ hph1
   dsimp only [List.append_eq,List.nil_append,List.cons_append]
   replace hph1:Sh.Gc Sh.exS Sh.exC 64 128 0≠0→u3_1=wz∧u3_2=wz∧u3_3=wz∧u3_4=wz:=hph1
   refine d_pv 4 rfl rfl (by kernel_rfl) (by kernel_rfl) rfl rfl (zd rfl)<|d_pv 5 rfl rfl (by kernel_rfl) (by kernel_rfl) rfl rfl (zy rfl rfl)<|d_pv 6 rfl rfl (by kernel_rfl) (by kernel_rfl) rfl rfl (zy rfl rfl) ?_
   exact zP (hD1 (u3_1,u3_2,u3_3,u3_4,u7_1)) (by kernel_rfl) ((.of rfl):SubM _ _) .rfl .rfl ((.of [0,1,2] rfl):SelR _ _ _)
 refine zka (X:=Unit) (k':=7) (L':=(lb 10 7)) (fun _=>([(10,.agg #[.int .i64 0,.int .i64 10,.int .i64 0,.int .i64 0,.int .i64 0,.int .i64 1000,.int .i64 0,.int .i64 1,.int .i64 0,.int .i64 0,.int .i64 100,.int .i64 100,.int .i64 0,.int .i64 1000,.int .i64 0,.int .i64 1,.int .i64 0,.int .i64 0]),(12,.agg #[.int .i64 64,.int .i64 128]),(11,.agg #[.int .i64 640,.int .i64 0,.int .i64 0]),(1,.pointer (some ⟨b1,0,none⟩)),(0,.bool false)],[],[boxA b1 37 [.int .i64 640,.int .i64 0,.int .i64 0]],[sgF])) ?_ (fun hD4=> ?_)
 ·
  rintro ⟨⟩
  dsimp only
  refine zrb 3 7 (by kernel_rfl) ?_ ?_
  ·
   refine zo rfl rfl rfl rfl (.c rfl (.c rfl (.c rfl (.c rfl .n)))) ce24 (znd (s:=Sh.exS) (cm:=Sh.exC) (u:=64) (v:=128) (h:=0) (hfi:=by first|rfl|assumption|decide|omega|exact Sh.hqX) (hst:=by first|rfl|assumption|decide|omega|exact Sh.hqX) (hta:=by first|rfl|assumption|decide|omega|exact Sh.hqX) (htb:=by first|rfl|assumption|decide|omega|exact Sh.hqX) (hxa:=by first|rfl|assumption|decide|omega|exact Sh.hqX) (hya:=by first|rfl|assumption|decide|omega|exact Sh.hqX) (hza:=by first|rfl|assumption|decide|omega|exact Sh.hqX) (hqa:=by first|rfl|assumption|decide|omega|exact Sh.hqX) (hqb:=by first|rfl|assumption|decide|omega|exact Sh.hqX) (hqc:=by first|rfl|assumption|decide|omega|exact Sh.hqX) (hqd:=by first|rfl|assumption|decide|omega|exact Sh.hqX) (hxb:=by first|rfl|assumption|decide|omega|exact Sh.hqX) (hyb:=by first|rfl|assumption|decide|omega|exact Sh.hqX) (hzb:=by first|rfl|assumption|decide|omega|exact Sh.hqX) (hra:=by first|rfl|assumption|decide|omega|exact Sh.hqX) (hrb:=by first|rfl|assumption|decide|omega|exact Sh.hqX) (hrc:=by first|rfl|assumption|decide|omega|exact Sh.hqX) (hrd:=by first|rfl|assumption|decide|omega|exact Sh.hqX) (h64fo:=by first|rfl|assumption|decide|omega|exact Sh.hqX) (h64cx:=by first|rfl|assumption|decide|omega|exact Sh.hqX) (h64cy:=by first|rfl|assumption|decide|omega|exact Sh.hqX) (h64u:=by first|rfl|assumption|decide|omega|exact Sh.hqX) (h64v:=by first|rfl|assumption|decide|omega|exact Sh.hqX) (h64h:=by first|rfl|assumption|decide|omega|exact Sh.hqX)) (.c (j:=0) rfl .n) ?_
   rintro ⟨u3_1,u3_2,u3_3,u3_4⟩ hph1
   dsimp only [List.append_eq,List.nil_append,List.cons_append]
   replace hph1:Sh.Gc Sh.exS Sh.exC 64 128 0≠0→u3_1=wz∧u3_2=wz∧u3_3=wz∧u3_4=wz:=hph1
   refine d_pv 4 rfl rfl (by kernel_rfl) (by kernel_rfl) rfl rfl (zd rfl)<|d_pv 5 rfl rfl (by kernel_rfl) (by kernel_rfl) rfl rfl (zy rfl rfl)<|d_pv 6 rfl rfl (by kernel_rfl) (by kernel_rfl) rfl rfl (zy rfl rfl) ?_
   exact zP (hD2 (u3_1,u3_2,u3_3,u3_4)) (by kernel_rfl) ((.of rfl):SubM _ _) .rfl .rfl ((.of [0,1,2] rfl):SelR _ _ _)
  ·
   refine zxa rfl rfl rfl rfl (zq zr46 rfl) (fun u7_1 _=> ?_)
   exact zP (hD3 u7_1) (by kernel_rfl) ((.of rfl):SubM _ _) .rfl .rfl ((.c (j:=0) rfl .n):SelR _ _ _)
 refine zka (X:=Nat) (k':=7) (L':=(lb 10 134)) (fun u7_1=>([(2,.pointer (some ⟨u7_1,0,none⟩)),(12,.agg #[.int .i64 64,.int .i64 128]),(11,.agg #[.int .i64 640,.int .i64 0,.int .i64 0]),(1,.pointer (some ⟨b1,0,none⟩)),(0,.bool false)],[boxA u7_1 46 (cw [wz,wz,wz,wz])],[boxA b1 37 [.int .i64 640,.int .i64 0,.int .i64 0]],[sgF])) ?_ (fun hD5=> ?_)
 ·
  rintro u7_1
  dsimp only [cw,cS]
  refine zt 0 (by kernel_rfl) ?_
  ·
   refine zFa rfl rfl rfl rfl (.n) ce40 (zyb) (.n) ?_
   exact zP (hD3 u7_1) (by kernel_rfl) ((.of rfl):SubM _ _) .rfl .rfl ((.c (j:=0) rfl .n):SelR _ _ _)
 refine zrb 0 7 (by kernel_rfl) ?_ ?_
 ·
  refine zFa rfl rfl rfl rfl (.n) ce40 (zyb) (.n) ?_
  exact zP (hD4 ()) (by kernel_rfl) ((.of rfl):SubM _ _) .rfl .rfl ((.c (j:=0) rfl .n):SelR _ _ _)
 ·
  refine zxa rfl rfl rfl rfl (zq zr46 rfl) (fun u7_1 _=> ?_)
  exact zP (hD5 u7_1) (by kernel_rfl) ((.of rfl):SubM _ _) .rfl .rfl ((.c (j:=0) rfl .n):SelR _ _ _)
end Go.Proofs.YtjeahiahjgifgaaGreatDoor.Sp
namespace Go.Proofs.YtjeahiahjgifgaaGreatDoor.Sp
open Go
set_option linter.unusedVariables false
set_option maxRecDepth 100000
set_option maxHeartbeats 8000000
theorem zyd {s:Sh.S} {r:Int} (hfi: -9223372036854775808≤s.fi∧s.fi≤9223372036854775807) (hst: -9223372036854775808≤s.st∧s.st≤9223372036854775807) (hta: -9223372036854775808≤s.ta∧s.ta≤9223372036854775807) (htb: -9223372036854775808≤s.tb∧s.tb≤9223372036854775807) (hxa: -9223372036854775808≤s.xa∧s.xa≤9223372036854775807) (hya: -9223372036854775808≤s.ya∧s.ya≤9223372036854775807) (hza: -9223372036854775808≤s.za∧s.za≤9223372036854775807) (hqa: -9223372036854775808≤s.qa∧s.qa≤9223372036854775807) (hqb: -9223372036854775808≤s.qb∧s.qb≤9223372036854775807) (hqc: -9223372036854775808≤s.qc∧s.qc≤9223372036854775807) (hqd: -9223372036854775808≤s.qd∧s.qd≤9223372036854775807) (hxb: -9223372036854775808≤s.xb∧s.xb≤9223372036854775807) (hyb: -9223372036854775808≤s.yb∧s.yb≤9223372036854775807) (hzb: -9223372036854775808≤s.zb∧s.zb≤9223372036854775807) (hra: -9223372036854775808≤s.ra∧s.ra≤9223372036854775807) (hrb: -9223372036854775808≤s.rb∧s.rb≤9223372036854775807) (hrc: -9223372036854775808≤s.rc∧s.rc≤9223372036854775807) (hrd: -9223372036854775808≤s.rd∧s.rd≤9223372036854775807) (h64r: -9223372036854775808≤r∧r≤9223372036854775807):Con Tryz.prog 26 [.agg #[.int .i64 (s.fi),.int .i64 (s.st),.int .i64 (s.ta),.int .i64 (s.xa),.int .i64 (s.ya),.int .i64 (s.za),.int .i64 (s.qa),.int .i64 (s.qb),.int .i64 (s.qc),.int .i64 (s.qd),.int .i64 (s.tb),.int .i64 (s.xb),.int .i64 (s.yb),.int .i64 (s.zb),.int .i64 (s.ra),.int .i64 (s.rb),.int .i64 (s.rc),.int .i64 (s.rd)],.int .i64 r] [] [] (Y:=Wd×Wd×Wd×Wd×Wd×Wd) (fun y=>Sh.Pc s r≠0→y.1=wz∧y.2.1=wz∧y.2.2.1=wz∧y.2.2.2.1=wz∧y.2.2.2.2.1=wz∧y.2.2.2.2.2=wz) (fun y=> .tuple #[.agg #[y.1.b,y.1.l,y.2.1.b,y.2.1.l,y.2.2.1.b,y.2.2.1.l,y.2.2.2.1.b,y.2.2.2.1.l,y.2.2.2.2.1.b,y.2.2.2.2.1.l,y.2.2.2.2.2.b,y.2.2.2.2.2.l],.agg #[.int .i64 ((Sh.Pq s r).1),.int .i64 ((Sh.Pq s r).2.1),.int .i64 ((Sh.Pq s r).2.2.1),.int .i64 ((Sh.Pq s r).2.2.2)],.int .i64 (Sh.Pc s r)]) (fun y=>[]) (fun y=>[qF (decide (Sh.Pc s r=0)) y.1 y.2.1 ((Sh.Pp s r).1),qF (decide (Sh.Pc s r=0)) y.2.2.1 y.2.2.2.1 ((Sh.Pp s r).2.1),qF (decide (Sh.Pc s r=0)) y.2.2.2.2.1 y.2.2.2.2.2 ((Sh.Pp s r).2.2)]):=by
 refine zA Tryz.func26 rfl rfl rfl (fun c=> ?_)
 show RunC _ _ _ _ _ [(0,.agg #[.int .i64 (s.fi),.int .i64 (s.st),.int .i64 (s.ta),.int .i64 (s.xa),.int .i64 (s.ya),.int .i64 (s.za),.int .i64 (s.qa),.int .i64 (s.qb),.int .i64 (s.qc),.int .i64 (s.qd),.int .i64 (s.tb),.int .i64 (s.xb),.int .i64 (s.yb),.int .i64 (s.zb),.int .i64 (s.ra),.int .i64 (s.rb),.int .i64 (s.rc),.int .i64 (s.rd)]),(1,.int .i64 r)] [] []
 refine zk<|zc<|zK rfl rfl (zfa rfl rfl) (fun b1=> ?_)
 refine zK rfl rfl (zq zr54 rfl) (fun b2=> ?_)
 refine zK rfl rfl (zq zr25 rfl) (fun b3=> ?_)
 refine r_pv rfl rfl (zh rfl)<|zl<|zg<|zk<|zk<|zc<|r_u rfl rfl (ze 2 ty29 rfl rfl (.take (.take (.take (.take (.take (.take (.take (.take (.take (.take (.take (.take (.take (.take (.take (.take (.take (.take .nil)))))))))))))))))))<|zX rfl rfl (.c rfl (.c rfl .n)) ce12 (zlc (s:=s) (n:=1) (hfi:=by assumption) (hst:=by assumption) (hta:=by assumption) (htb:=by assumption) (hxa:=by assumption) (hya:=by assumption) (hza:=by assumption) (hqa:=by assumption) (hqb:=by assumption) (hqc:=by assumption) (hqd:=by assumption) (hxb:=by assumption) (hyb:=by assumption) (hzb:=by assumption) (hra:=by assumption) (hrb:=by assumption) (hrc:=by assumption) (hrd:=by assumption)) (.n)<|r_pv rfl rfl (zh rfl)<|zl<|zg<|zk<|zc<|r_pv rfl rfl (zd rfl)<|r_pv rfl rfl (ztb rfl rfl)<|zl<|zg<|zV rfl (fun hc=> ?_) (fun hc=> ?_)
 ·
  refine zk<|zc<|r_pv rfl rfl (zBa zr54 rfl Tryz.underlying54 sz44 .n .n)<|r_pv rfl rfl (zw zr25 rfl Tryz.underlying25 (.c sz3 (.c sz3 (.c sz3 (.c sz3 .n)))) .n .n)<|r_pv rfl rfl (zd rfl)<|zn 1 rfl rfl rfl rfl rfl sz54 rfl (.take (.take (.take (.take (.take (.take (.take (.take (.take (.take (.take (.take .nil)))))))))))) (.s .z)<|zn 0 rfl rfl rfl rfl rfl sz25 rfl (.take (.take (.take (.take .nil)))) .z<|r_pv rfl rfl (zh rfl)<|zl<|zg<|zT<|zx<|zQa (qF false wz wz 0) (fun g _=>qF_none g) ?_
  have hg9:Sh.Pc s r=Sh.chk s 1:=if_neg hc
  have hg8:¬Sh.Pc s r=0:=by rw [hg9];exact hc
  have hx9:Sh.Pp s r=(0,0,0):=if_neg hg8
  have hy9:Sh.Pq s r=(0,0,0,0):=if_neg hg8
  exact zZb Tryz.results26 (wz,wz,wz,wz,wz,wz) (fun _=>⟨rfl,rfl,rfl,rfl,rfl,rfl⟩) (zu 1 ty54 rfl rfl (.take (.take (.take (.take (.take (.take (.take (.take (.take (.take (.take (.take .nil))))))))))))) (zu 0 ty25 rfl rfl (.take (.take (.take (.take .nil))))) (zG rfl) (by rw [hg9,hy9];rfl) (ho:=(.n:PickO _ _ _)) ((.e (j:=0) rfl (by rw [hx9,decide_eq_false hg8]) (.e (j:=0) rfl (by rw [hx9,decide_eq_false hg8]) (.e (j:=0) rfl (by rw [hx9,decide_eq_false hg8]) .n))):SelR _ _ _)
 ·
  have hc0:Sh.chk s 1=0:=Decidable.not_not.1 hc
  obtain ⟨hok,-,hlt,hnd⟩:=Sh.chk_ok hc0
  refine zE<|zg<|zk<|zk<|zc<|r_pv rfl rfl (zd rfl)<|zX rfl rfl (.c rfl .n) ce44 (zwc (r:=r)) (.n)<|r_pv rfl rfl (zSa rfl)<|zl<|zg<|zV rfl (fun hin=> ?_) (fun hin=> ?_)
  ·
   refine zk<|zc<|r_pv rfl rfl (zBa zr54 rfl Tryz.underlying54 sz44 .n .n)<|r_pv rfl rfl (zw zr25 rfl Tryz.underlying25 (.c sz3 (.c sz3 (.c sz3 (.c sz3 .n)))) .n .n)<|zn 1 rfl rfl rfl rfl rfl sz54 rfl (.take (.take (.take (.take (.take (.take (.take (.take (.take (.take (.take (.take .nil)))))))))))) (.s .z)<|zn 0 rfl rfl rfl rfl rfl sz25 rfl (.take (.take (.take (.take .nil)))) .z<|r_pv rfl rfl (zh rfl)<|zl<|zg<|zT<|zx<|zQa (qF false wz wz 0) (fun g _=>qF_none g) ?_
   have hg9:Sh.Pc s r=2:=(if_pos hc0).trans (if_neg hin)
   have hg8:¬Sh.Pc s r=0:=by rw [hg9];decide
   have hx9:Sh.Pp s r=(0,0,0):=if_neg hg8
   have hy9:Sh.Pq s r=(0,0,0,0):=if_neg hg8
   exact zZb Tryz.results26 (wz,wz,wz,wz,wz,wz) (fun _=>⟨rfl,rfl,rfl,rfl,rfl,rfl⟩) (zu 1 ty54 rfl rfl (.take (.take (.take (.take (.take (.take (.take (.take (.take (.take (.take (.take .nil))))))))))))) (zu 0 ty25 rfl rfl (.take (.take (.take (.take .nil))))) (zG rfl) (by rw [hg9,hy9];rfl) (ho:=(.n:PickO _ _ _)) ((.e (j:=0) rfl (by rw [hx9,decide_eq_false hg8]) (.e (j:=0) rfl (by rw [hx9,decide_eq_false hg8]) (.e (j:=0) rfl (by rw [hx9,decide_eq_false hg8]) .n))):SelR _ _ _)
  ·
   have hin2:=Decidable.not_not.1 hin
   refine zE<|zg<|zk<|zc<|r_u rfl rfl (ze 2 ty29 rfl rfl (.take (.take (.take (.take (.take (.take (.take (.take (.take (.take (.take (.take (.take (.take (.take (.take (.take (.take .nil)))))))))))))))))))<|r_pv rfl rfl (zd rfl)<|zX rfl rfl (.c rfl (.c rfl .n)) ce43 (zzb (s:=s) (r:=r) (hok:=by first|rfl|assumption|decide|omega) (hr:=by first|rfl|assumption|decide|omega)) (.n)<|zK rfl rfl (zq zr25 rfl) (fun b4=> ?_)
   refine zn 0 rfl rfl rfl rfl rfl sz25 rfl (.take (.take (.take (.take .nil)))) .z<|zl<|zg<|zk<|zk<|zc<|r_u rfl rfl (ze 0 ty25 rfl rfl (.take (.take (.take (.take .nil)))))<|r_pv rfl rfl (zw zr25 rfl Tryz.underlying25 (.c sz3 (.c sz3 (.c sz3 (.c sz3 .n)))) .n .n)<|r_pv rfl rfl (zvb (p:=(Sh.rot s r).1=0∧(Sh.rot s r).2.1=0∧(Sh.rot s r).2.2.1=0∧(Sh.rot s r).2.2.2=0) (by kernel_rfl) rfl rfl (zub Tryz.underlying25 (by kernel_rfl) (zHa (by decide) ty3 rfl rfl (zGa Tryz.underlying3) (zHa (by decide) ty3 rfl rfl (zGa Tryz.underlying3) (zHa (by decide) ty3 rfl rfl (zGa Tryz.underlying3) (zHa (by decide) ty3 rfl rfl (zGa Tryz.underlying3) zvc))))) (by simp [Bool.decide_and]))<|zl<|zg<|zV rfl (fun hz4=> ?_) (fun hz4=> ?_)
   ·
    refine zk<|zc<|r_pv rfl rfl (zBa zr54 rfl Tryz.underlying54 sz44 .n .n)<|r_pv rfl rfl (zw zr25 rfl Tryz.underlying25 (.c sz3 (.c sz3 (.c sz3 (.c sz3 .n)))) .n .n)<|zn 2 rfl rfl rfl rfl rfl sz54 rfl (.take (.take (.take (.take (.take (.take (.take (.take (.take (.take (.take (.take .nil)))))))))))) (.s (.s .z))<|zn 1 rfl rfl rfl rfl rfl sz25 rfl (.take (.take (.take (.take .nil)))) (.s .z)<|r_pv rfl rfl (zh rfl)<|zl<|zg<|zT<|zx<|zQa (qF false wz wz 0) (fun g _=>qF_none g) ?_
    have hg9:Sh.Pc s r=13:=((if_pos hc0).trans (if_pos hin2)).trans (if_pos hz4)
    have hg8:¬Sh.Pc s r=0:=by rw [hg9];decide
    have hx9:Sh.Pp s r=(0,0,0):=if_neg hg8
    have hy9:Sh.Pq s r=(0,0,0,0):=if_neg hg8
    exact zZb Tryz.results26 (wz,wz,wz,wz,wz,wz) (fun _=>⟨rfl,rfl,rfl,rfl,rfl,rfl⟩) (zu 2 ty54 rfl rfl (.take (.take (.take (.take (.take (.take (.take (.take (.take (.take (.take (.take .nil))))))))))))) (zu 1 ty25 rfl rfl (.take (.take (.take (.take .nil))))) (zG rfl) (by rw [hg9,hy9];rfl) (ho:=(.n:PickO _ _ _)) ((.e (j:=0) rfl (by rw [hx9,decide_eq_false hg8]) (.e (j:=0) rfl (by rw [hx9,decide_eq_false hg8]) (.e (j:=0) rfl (by rw [hx9,decide_eq_false hg8]) .n))):SelR _ _ _)
   ·
    refine zE<|zg<|zk<|zea (.c (i:=2) rfl (.c (i:=1) rfl (.c (i:=0) rfl (.c (i:=0) rfl .n))))<|zS (OW:=[boxA b2 54 (cw [wz,wz,wz,wz,wz,wz]),boxA b3 25 [.int .i64 0,.int .i64 0,.int .i64 0,.int .i64 0]]) (O:=[boxA b4 25 [.int .i64 ((Sh.rot s r).1),.int .i64 ((Sh.rot s r).2.1),.int .i64 ((Sh.rot s r).2.2.1),.int .i64 ((Sh.rot s r).2.2.2)],boxA b1 29 (cS s)]) 4 mixed (.then .ret) (by kernel_rfl)<|d_uw 0 rfl rfl (by kernel_rfl) (by kernel_rfl) (by kernel_rfl) rfl rfl (ze 3 ty29 rfl rfl (.take (.take (.take (.take (.take (.take (.take (.take (.take (.take (.take (.take (.take (.take (.take (.take (.take (.take .nil)))))))))))))))))))<|d_pv 1 rfl rfl (by kernel_rfl) (by kernel_rfl) rfl rfl (zd rfl)<|d_u 3 rfl rfl (by kernel_rfl) (by kernel_rfl) rfl rfl (ze 0 ty25 rfl rfl (.take (.take (.take (.take .nil)))))<|zt 2 (by kernel_rfl) (zo rfl rfl rfl rfl (.c rfl (.c rfl .n)) ce61 (zSb (s:=s) (r:=r) (hok:=by first|rfl|assumption|decide|omega) (hr:=by first|rfl|assumption|decide|omega) (hlt:=by first|rfl|assumption|decide|omega)) (.n) ?_)
    rintro ⟨w15,w26,w37,w48,w59,w610⟩ -
    dsimp only [List.append_eq,List.nil_append,List.cons_append]
    refine zt 4 (by kernel_rfl) (zr (by kernel_rfl) rfl rfl rfl rfl rfl sz54 rfl (.take (.take (.take (.take (.take (.take (.take (.take (.take (.take (.take (.take .nil)))))))))))) ?_)
    refine zWa (zpa (i:=1) rfl)<|zt 5 (by kernel_rfl) (zr (by kernel_rfl) rfl rfl rfl rfl rfl sz25 rfl (.take (.take (.take (.take .nil)))) ?_)
    refine d_pv 6 rfl rfl (by kernel_rfl) (by kernel_rfl) rfl rfl (zh rfl)<|zR (by kernel_rfl)<|zg<|zT ?_
    have hg9:Sh.Pc s r=0:=((if_pos hc0).trans (if_pos hin2)).trans (if_neg hz4)
    have hx9:Sh.Pp s r=Sh.pos s r:=if_pos hg9
    have hy9:Sh.Pq s r=Sh.rot s r:=if_pos hg9
    exact zZb Tryz.results26 (w15,w26,w37,w48,w59,w610) (fun k=>absurd hg9 k) (zu 1 ty54 rfl rfl (.take (.take (.take (.take (.take (.take (.take (.take (.take (.take (.take (.take .nil))))))))))))) (zu 0 ty25 rfl rfl (.take (.take (.take (.take .nil))))) (zG rfl) (by rw [hg9,hy9]) (ho:=(.n:PickO _ _ _)) ((.e (j:=0) rfl (by rw [hx9,decide_eq_true hg9]) (.e (j:=1) rfl (by rw [hx9,decide_eq_true hg9]) (.e (j:=2) rfl (by rw [hx9,decide_eq_true hg9]) .n))):SelR _ _ _)
end Go.Proofs.YtjeahiahjgifgaaGreatDoor.Sp
namespace Go.Proofs.YtjeahiahjgifgaaGreatDoor.Sh
open Go.Proofs.YtjeahiahjgifgaaGreatDoor.Big
theorem Pc_zero {s:S} {r:Int} (g:Pc s r=0):chk s 1=0∧inr r∧¬z4 (rot s r):=by
  unfold Pc at g
  split at g
  · rename_i h1; split at g
    · rename_i h2; split at g
      · cases g
      · rename_i h3;exact ⟨h1,h2,h3⟩
    · cases g
  · rename_i h1;exact absurd g h1
end Go.Proofs.YtjeahiahjgifgaaGreatDoor.Sh
namespace Go.Proofs.YtjeahiahjgifgaaGreatDoor.Sp
open Go
set_option linter.unusedVariables false
set_option maxRecDepth 100000
set_option maxHeartbeats 8000000
theorem zAc {s:Sh.S} {ea:Int} {eb:Int} (hfi: -9223372036854775808≤s.fi∧s.fi≤9223372036854775807) (hst: -9223372036854775808≤s.st∧s.st≤9223372036854775807) (hta: -9223372036854775808≤s.ta∧s.ta≤9223372036854775807) (htb: -9223372036854775808≤s.tb∧s.tb≤9223372036854775807) (hxa: -9223372036854775808≤s.xa∧s.xa≤9223372036854775807) (hya: -9223372036854775808≤s.ya∧s.ya≤9223372036854775807) (hza: -9223372036854775808≤s.za∧s.za≤9223372036854775807) (hqa: -9223372036854775808≤s.qa∧s.qa≤9223372036854775807) (hqb: -9223372036854775808≤s.qb∧s.qb≤9223372036854775807) (hqc: -9223372036854775808≤s.qc∧s.qc≤9223372036854775807) (hqd: -9223372036854775808≤s.qd∧s.qd≤9223372036854775807) (hxb: -9223372036854775808≤s.xb∧s.xb≤9223372036854775807) (hyb: -9223372036854775808≤s.yb∧s.yb≤9223372036854775807) (hzb: -9223372036854775808≤s.zb∧s.zb≤9223372036854775807) (hra: -9223372036854775808≤s.ra∧s.ra≤9223372036854775807) (hrb: -9223372036854775808≤s.rb∧s.rb≤9223372036854775807) (hrc: -9223372036854775808≤s.rc∧s.rc≤9223372036854775807) (hrd: -9223372036854775808≤s.rd∧s.rd≤9223372036854775807) (ha:0≤ea∧ea≤255) (hb:0≤eb∧eb≤255):Con Tryz.prog 6 [.agg #[.int .i64 (s.fi),.int .i64 (s.st),.int .i64 (s.ta),.int .i64 (s.xa),.int .i64 (s.ya),.int .i64 (s.za),.int .i64 (s.qa),.int .i64 (s.qb),.int .i64 (s.qc),.int .i64 (s.qd),.int .i64 (s.tb),.int .i64 (s.xb),.int .i64 (s.yb),.int .i64 (s.zb),.int .i64 (s.ra),.int .i64 (s.rb),.int .i64 (s.rc),.int .i64 (s.rd)],.int .u8 ea,.int .u8 eb] [] [sgF] (Y:=Unit) (fun y=>True) (fun y=> .bool true) (fun y=>[]) (fun y=>[]):=by
 refine zA Tryz.func6 rfl rfl rfl (fun c=> ?_)
 show RunC _ _ _ _ _ [(0,.agg #[.int .i64 (s.fi),.int .i64 (s.st),.int .i64 (s.ta),.int .i64 (s.xa),.int .i64 (s.ya),.int .i64 (s.za),.int .i64 (s.qa),.int .i64 (s.qb),.int .i64 (s.qc),.int .i64 (s.qd),.int .i64 (s.tb),.int .i64 (s.xb),.int .i64 (s.yb),.int .i64 (s.zb),.int .i64 (s.ra),.int .i64 (s.rb),.int .i64 (s.rc),.int .i64 (s.rd)]),(1,.int .u8 ea),(2,.int .u8 eb)] [] [sgF]
 refine zk<|zc<|zK rfl rfl (zfa rfl rfl) (fun b1=> ?_)
 refine r_pv rfl rfl (zh rfl)<|zl<|zg<|zk<|zk<|zc<|zX rfl rfl (.n) ce11 (zbf) (.c (j:=0) rfl .n)<|r_pv rfl rfl (zNb rfl)<|zl<|zg<|zua rfl rfl<|zE<|zg<|zk<|zc<|r_pv rfl rfl (zd rfl)<|r_pv rfl rfl (zL (z:=ea) rfl (by rw [Tryz.underlying5];rfl) Tryz.underlying3 (w64 (by omega)))<|r_pv rfl rfl (zUa (z:=(ea%20)) rfl rfl (by omega) (remN (by omega) (by omega)))<|r_pv rfl rfl (zd rfl)<|r_pv rfl rfl (zL (z:=eb) rfl (by rw [Tryz.underlying5];rfl) Tryz.underlying3 (w64 (by omega)))<|r_pv rfl rfl (zUa (z:=(eb%20)) rfl rfl (by omega) (remN (by omega) (by omega)))<|r_pv rfl rfl (zh rfl)<|r_pv rfl rfl (zh rfl)<|zl<|zg<|zk<|zc<|r_u rfl rfl (ze 0 ty29 rfl rfl (.take (.take (.take (.take (.take (.take (.take (.take (.take (.take (.take (.take (.take (.take (.take (.take (.take (.take .nil)))))))))))))))))))<|r_pv rfl rfl (zd rfl)<|zJ rfl rfl (.c rfl (.c rfl .n)) ce26 (zyd (s:=s) (r:=(ea%20)) (hfi:=by assumption) (hst:=by assumption) (hta:=by assumption) (htb:=by assumption) (hxa:=by assumption) (hya:=by assumption) (hza:=by assumption) (hqa:=by assumption) (hqb:=by assumption) (hqc:=by assumption) (hqd:=by assumption) (hxb:=by assumption) (hyb:=by assumption) (hzb:=by assumption) (hra:=by assumption) (hrb:=by assumption) (hrc:=by assumption) (hrd:=by assumption) (h64r:=by first|rfl|assumption|decide|omega|(exact Sh.hqX))) (.n) ?_
 rintro ⟨w12,w23,w34,w45,w56,w67⟩ hph1
 dsimp only [List.append_eq,List.nil_append,List.cons_append]
 replace hph1:Sh.Pc s (ea%20)≠0→w12=wz∧w23=wz∧w34=wz∧w45=wz∧w56=wz∧w67=wz:=hph1
 refine r_pv rfl rfl (zd rfl)<|r_pv rfl rfl (zy rfl rfl)<|r_pv rfl rfl (zy rfl rfl)<|r_pv rfl rfl (zy rfl rfl)<|zK rfl rfl (zq zr54 rfl) (fun b8=> ?_)
 refine zK rfl rfl (zq zr25 rfl) (fun b9=> ?_)
 refine zn 1 rfl rfl rfl rfl rfl sz54 rfl (.take (.take (.take (.take (.take (.take (.take (.take (.take (.take (.take (.take .nil)))))))))))) (.s .z)<|zn 0 rfl rfl rfl rfl rfl sz25 rfl (.take (.take (.take (.take .nil)))) .z<|r_pv rfl rfl (zh rfl)<|zl<|zg<|zk<|zc<|r_u rfl rfl (ze 2 ty29 rfl rfl (.take (.take (.take (.take (.take (.take (.take (.take (.take (.take (.take (.take (.take (.take (.take (.take (.take (.take .nil)))))))))))))))))))<|r_pv rfl rfl (zd rfl)<|r_pv rfl rfl (zd rfl)<|r_pv rfl rfl (zM (z:=((ea%20)+(eb%20))) rfl rfl (w64 (by omega)))<|zJ rfl rfl (.c rfl (.c rfl .n)) ce26 (zyd (s:=s) (r:=((ea%20)+(eb%20))) (hfi:=by assumption) (hst:=by assumption) (hta:=by assumption) (htb:=by assumption) (hxa:=by assumption) (hya:=by assumption) (hza:=by assumption) (hqa:=by assumption) (hqb:=by assumption) (hqc:=by assumption) (hqd:=by assumption) (hxb:=by assumption) (hyb:=by assumption) (hzb:=by assumption) (hra:=by assumption) (hrb:=by assumption) (hrc:=by assumption) (hrd:=by assumption) (h64r:=by first|rfl|assumption|decide|omega|(exact Sh.hqX))) (.n) ?_
 rintro ⟨w110,w211,w312,w413,w514,w615⟩ hph2
 dsimp only [List.append_eq,List.nil_append,List.cons_append]
 replace hph2:Sh.Pc s ((ea%20)+(eb%20))≠0→w110=wz∧w211=wz∧w312=wz∧w413=wz∧w514=wz∧w615=wz:=hph2
 refine r_pv rfl rfl (zd rfl)<|r_pv rfl rfl (zy rfl rfl)<|r_pv rfl rfl (zy rfl rfl)<|r_pv rfl rfl (zy rfl rfl)<|zK rfl rfl (zq zr54 rfl) (fun b16=> ?_)
 refine zK rfl rfl (zq zr25 rfl) (fun b17=> ?_)
 refine zn 1 rfl rfl rfl rfl rfl sz54 rfl (.take (.take (.take (.take (.take (.take (.take (.take (.take (.take (.take (.take .nil)))))))))))) (.s .z)<|zn 0 rfl rfl rfl rfl rfl sz25 rfl (.take (.take (.take (.take .nil)))) .z<|r_pv rfl rfl (zh rfl)<|zl<|zg<|zk<|zc<|r_u rfl rfl (ze 4 ty29 rfl rfl (.take (.take (.take (.take (.take (.take (.take (.take (.take (.take (.take (.take (.take (.take (.take (.take (.take (.take .nil)))))))))))))))))))<|r_pv rfl rfl (zd rfl)<|r_pv rfl rfl (zd rfl)<|r_pv rfl rfl (zTa (z:=(2*(eb%20))) rfl rfl (w64 (by omega)))<|r_pv rfl rfl (zM (z:=((ea%20)+(2*(eb%20)))) rfl rfl (w64 (by omega)))<|zJ rfl rfl (.c rfl (.c rfl .n)) ce26 (zyd (s:=s) (r:=((ea%20)+(2*(eb%20)))) (hfi:=by assumption) (hst:=by assumption) (hta:=by assumption) (htb:=by assumption) (hxa:=by assumption) (hya:=by assumption) (hza:=by assumption) (hqa:=by assumption) (hqb:=by assumption) (hqc:=by assumption) (hqd:=by assumption) (hxb:=by assumption) (hyb:=by assumption) (hzb:=by assumption) (hra:=by assumption) (hrb:=by assumption) (hrc:=by assumption) (hrd:=by assumption) (h64r:=by first|rfl|assumption|decide|omega|(exact Sh.hqX))) (.n) ?_
 rintro ⟨w118,w219,w320,w421,w522,w623⟩ hph3
 dsimp only [List.append_eq,List.nil_append,List.cons_append]
 replace hph3:Sh.Pc s ((ea%20)+(2*(eb%20)))≠0→w118=wz∧w219=wz∧w320=wz∧w421=wz∧w522=wz∧w623=wz:=hph3
 refine r_pv rfl rfl (zd rfl)<|r_pv rfl rfl (zy rfl rfl)<|r_pv rfl rfl (zy rfl rfl)<|r_pv rfl rfl (zy rfl rfl)<|zK rfl rfl (zq zr54 rfl) (fun b24=> ?_)
 refine zK rfl rfl (zq zr25 rfl) (fun b25=> ?_)
 refine zn 1 rfl rfl rfl rfl rfl sz54 rfl (.take (.take (.take (.take (.take (.take (.take (.take (.take (.take (.take (.take .nil)))))))))))) (.s .z)<|zn 0 rfl rfl rfl rfl rfl sz25 rfl (.take (.take (.take (.take .nil)))) .z<|r_pv rfl rfl (zh rfl)<|zl<|zg<|zk<|zKa (X:=Unit) (fun x=>True) (fun x=>[(62,.bool (decide (((Sh.Pc s (ea%20)≠0)∨(Sh.Pc s ((ea%20)+(eb%20))≠0))∨(Sh.Pc s ((ea%20)+(2*(eb%20)))≠0)))),(15,.pointer (some ⟨b24,0,none⟩)),(12,.pointer (some ⟨b16,0,none⟩)),(9,.pointer (some ⟨b8,0,none⟩))]) (fun x=>[boxA b24 54 (cw [w118,w219,w320,w421,w522,w623]),boxA b16 54 (cw [w110,w211,w312,w413,w514,w615]),boxA b8 54 (cw [w12,w23,w34,w45,w56,w67])]) (fun x=>[qF (decide (Sh.Pc s ((ea%20)+(2*(eb%20)))=0)) w118 w219 ((Sh.Pp s ((ea%20)+(2*(eb%20)))).1),qF (decide (Sh.Pc s ((ea%20)+(2*(eb%20)))=0)) w320 w421 ((Sh.Pp s ((ea%20)+(2*(eb%20)))).2.1),qF (decide (Sh.Pc s ((ea%20)+(2*(eb%20)))=0)) w522 w623 ((Sh.Pp s ((ea%20)+(2*(eb%20)))).2.2),qF (decide (Sh.Pc s ((ea%20)+(eb%20))=0)) w110 w211 ((Sh.Pp s ((ea%20)+(eb%20))).1),qF (decide (Sh.Pc s ((ea%20)+(eb%20))=0)) w312 w413 ((Sh.Pp s ((ea%20)+(eb%20))).2.1),qF (decide (Sh.Pc s ((ea%20)+(eb%20))=0)) w514 w615 ((Sh.Pp s ((ea%20)+(eb%20))).2.2),qF (decide (Sh.Pc s (ea%20)=0)) w12 w23 ((Sh.Pp s (ea%20)).1),qF (decide (Sh.Pc s (ea%20)=0)) w34 w45 ((Sh.Pp s (ea%20)).2.1),qF (decide (Sh.Pc s (ea%20)=0)) w56 w67 ((Sh.Pp s (ea%20)).2.2),sgF]) ?_ ?_
 ·
  refine zc<|r_pv rfl rfl (zd rfl)<|r_pv rfl rfl (ztb rfl rfl)<|zta rfl rfl (zd rfl) (fun h26=> ?_) (fun h26=> ?_)
  ·
   refine zm rfl rfl<|zm rfl rfl<|r_pv rfl rfl (zW rfl rfl)<|r_pv rfl rfl (zd rfl)<|zm rfl rfl<|zm rfl rfl<|r_pv rfl rfl (zW rfl rfl)<|zl ?_
   exact zoa () (show True from by first|trivial|omega|simp_all) ((.e rfl (congrArg Value.bool (by first|(simp_all;done)|(simp_all;omega)|(simp;omega)|omega)) (.of rfl)):SubM _ _) (ho:=((.of [1,2,3] rfl):PickO _ _ _)) ((.of [0,1,2,3,4,5,6,7,8,9] rfl):SelR _ _ _)
  ·
   refine r_pv rfl rfl (zd rfl)<|r_pv rfl rfl (ztb rfl rfl)<|r_pv rfl rfl (zW rfl rfl)<|zta rfl rfl (zd rfl) (fun h27=> ?_) (fun h27=> ?_)
   ·
    refine zm rfl rfl<|zm rfl rfl<|r_pv rfl rfl (zW rfl rfl)<|zl ?_
    exact zoa () (show True from by first|trivial|omega|simp_all) ((.e rfl (congrArg Value.bool (by first|(simp_all;done)|(simp_all;omega)|(simp;omega)|omega)) (.of rfl)):SubM _ _) (ho:=((.of [1,2,3] rfl):PickO _ _ _)) ((.of [0,1,2,3,4,5,6,7,8,9] rfl):SelR _ _ _)
   ·
    refine r_pv rfl rfl (zd rfl)<|r_pv rfl rfl (ztb rfl rfl)<|r_pv rfl rfl (zW rfl rfl)<|zl ?_
    exact zoa () (show True from by first|trivial|omega|simp_all) ((.e rfl (congrArg Value.bool (by first|(simp_all;done)|(simp_all;omega)|(simp;omega)|omega)) (.of rfl)):SubM _ _) (ho:=((.of [1,2,3] rfl):PickO _ _ _)) ((.of [0,1,2,3,4,5,6,7,8,9] rfl):SelR _ _ _)
 ·
  rintro ⟨⟩ -
  try dsimp only [cw]
  refine zV rfl (fun h62=> ?_) (fun h62=> ?_)
  ·
   refine zk<|zc<|r_pv rfl rfl (zh rfl)<|zl<|zg<|zT<|zx ?_
   exact zO Tryz.results6 () trivial (zG rfl) rfl (ho:=(.n:PickO _ _ _)) (.n:SelR _ _ _)
  ·
   have hP1:Sh.Pc s (ea%20)=0:=Decidable.not_not.1 (fun k=>h62 (Or.inl (Or.inl k)))
   have hP2:Sh.Pc s ((ea%20)+(eb%20))=0:=Decidable.not_not.1 (fun k=>h62 (Or.inl (Or.inr k)))
   have hP3:Sh.Pc s ((ea%20)+(2*(eb%20)))=0:=Decidable.not_not.1 (fun k=>h62 (Or.inr k))
   obtain ⟨hc1,hi1,hz1⟩:=Sh.Pc_zero hP1
   obtain ⟨hp1a,hp1b,hp1c⟩:=Sh.pos_hq (Sh.chk_ok hc1).1 ⟨hi1.1,Int.le_of_lt hi1.2⟩
   have e28:(decide (Sh.Pc s (ea%20)=0))=true:=by exact decide_eq_true hP1
   rw [e28]
   have e29:Sh.Pp s (ea%20)=Sh.pos s (ea%20):=by exact if_pos hP1
   rw [e29]
   obtain ⟨hc2,hi2,hz2⟩:=Sh.Pc_zero hP2
   obtain ⟨hp2a,hp2b,hp2c⟩:=Sh.pos_hq (Sh.chk_ok hc2).1 ⟨hi2.1,Int.le_of_lt hi2.2⟩
   have e30:(decide (Sh.Pc s ((ea%20)+(eb%20))=0))=true:=by exact decide_eq_true hP2
   rw [e30]
   have e31:Sh.Pp s ((ea%20)+(eb%20))=Sh.pos s ((ea%20)+(eb%20)):=by exact if_pos hP2
   rw [e31]
   obtain ⟨hc3,hi3,hz3⟩:=Sh.Pc_zero hP3
   obtain ⟨hp3a,hp3b,hp3c⟩:=Sh.pos_hq (Sh.chk_ok hc3).1 ⟨hi3.1,Int.le_of_lt hi3.2⟩
   have e32:(decide (Sh.Pc s ((ea%20)+(2*(eb%20)))=0))=true:=by exact decide_eq_true hP3
   rw [e32]
   have e33:Sh.Pp s ((ea%20)+(2*(eb%20)))=Sh.pos s ((ea%20)+(2*(eb%20))):=by exact if_pos hP3
   rw [e33]
   refine zE<|zg<|zk<|zk<|zc<|r_pv rfl rfl (zd rfl)<|zl<|zg<|zv<|zPa<|zaa<|zk<|zc<|r_pv rfl rfl (zU rfl rfl)<|zl<|zg<|zk<|zca rfl rfl<|zE<|zg<|zk<|zv<|zk<|zc<|r_pv rfl rfl (zd rfl)<|r_pv rfl rfl (zh rfl)<|zl<|zg<|zk<|zS (OW:=[]) (O:=[boxA b24 54 (cw [w118,w219,w320,w421,w522,w623]),boxA b16 54 (cw [w110,w211,w312,w413,w514,w615]),boxA b8 54 (cw [w12,w23,w34,w45,w56,w67])]) 100000 mixed (.then (.block (.then (.then (.block (.then .ret)))))) (by kernel_rfl)<|d_pv 0 rfl rfl (by kernel_rfl) (by kernel_rfl) rfl rfl (zd rfl)<|d_pv 1 rfl rfl (by kernel_rfl) (by kernel_rfl) rfl rfl (zj (i:=0) Tryz.underlying54 sz44 rfl rfl (by decide) rfl)<|d_u 2 rfl rfl (by kernel_rfl) (by kernel_rfl) rfl rfl (ze 1 ty44 rfl rfl (.take (.take (.take (.take .nil)))))<|d_pv 3 rfl rfl (by kernel_rfl) (by kernel_rfl) rfl rfl (zd rfl)<|d_pv 4 rfl rfl (by kernel_rfl) (by kernel_rfl) rfl rfl (zj (i:=0) Tryz.underlying54 sz44 rfl rfl (by decide) rfl)<|d_u 5 rfl rfl (by kernel_rfl) (by kernel_rfl) rfl rfl (ze 2 ty44 rfl rfl (.take (.take (.take (.take .nil)))))<|d_pv 7 rfl rfl (by kernel_rfl) (by kernel_rfl) rfl rfl (zd rfl)<|d_pv 8 rfl rfl (by kernel_rfl) (by kernel_rfl) rfl rfl (zj (i:=0) Tryz.underlying54 sz44 rfl rfl (by decide) rfl)<|d_u 9 rfl rfl (by kernel_rfl) (by kernel_rfl) rfl rfl (ze 0 ty44 rfl rfl (.take (.take (.take (.take .nil)))))<|d_pv 10 rfl rfl (by kernel_rfl) (by kernel_rfl) rfl rfl (zd rfl)<|d_pv 11 rfl rfl (by kernel_rfl) (by kernel_rfl) rfl rfl (zj (i:=0) Tryz.underlying54 sz44 rfl rfl (by decide) rfl)<|d_u 12 rfl rfl (by kernel_rfl) (by kernel_rfl) rfl rfl (ze 1 ty44 rfl rfl (.take (.take (.take (.take .nil)))))<|zt 6 (by kernel_rfl) (zo rfl rfl rfl rfl (.c rfl (.c rfl .n)) ce28 (zxb (k1:=true) (u1:=w110) (v1:=w211) (q1:=(Sh.pos s ((ea%20)+(eb%20))).1) (k2:=true) (u2:=w12) (v2:=w23) (q2:=(Sh.pos s (ea%20)).1) (hl:=by first|rfl|assumption|decide|omega|(exact Sh.hqX))) (.c (j:=3) rfl (.c (j:=6) rfl .n)) ?_)
   rintro ⟨w334,w435⟩ -
   dsimp only [List.append_eq,List.nil_append,List.cons_append]
   refine zt 13 (by kernel_rfl) (zo rfl rfl rfl rfl (.c rfl (.c rfl .n)) ce28 (zxb (k1:=true) (u1:=w118) (v1:=w219) (q1:=(Sh.pos s ((ea%20)+(2*(eb%20)))).1) (k2:=true) (u2:=w110) (v2:=w211) (q2:=(Sh.pos s ((ea%20)+(eb%20))).1) (hl:=by first|rfl|assumption|decide|omega|(exact Sh.hqX))) (.c (j:=1) rfl (.c (j:=4) rfl .n)) ?_)
   rintro ⟨w336,w437⟩ -
   dsimp only [List.append_eq,List.nil_append,List.cons_append]
   refine zt 14 (by kernel_rfl) (zFa rfl rfl rfl rfl (.c rfl (.c rfl .n)) ce27 (zEb (u1:=w334) (v1:=w435) (q1:=((Sh.pos s ((ea%20)+(eb%20))).1) - ((Sh.pos s (ea%20)).1)) (u2:=w336) (v2:=w437) (q2:=((Sh.pos s ((ea%20)+(2*(eb%20)))).1) - ((Sh.pos s ((ea%20)+(eb%20))).1)) (hl:=by first|rfl|assumption|decide|omega|(exact Sh.hqX))) (.c (j:=1) rfl (.c (j:=0) rfl .n)) ?_)
   rw [show (decide ((((Sh.pos s ((ea%20)+(eb%20))).1) - ((Sh.pos s (ea%20)).1))=(((Sh.pos s ((ea%20)+(2*(eb%20)))).1) - ((Sh.pos s ((ea%20)+(eb%20))).1))))=true from by exact decide_eq_true (Sh.ps_affine (ea%20) (eb%20) _ _)]
   refine d_pv 15 rfl rfl (by kernel_rfl) (by kernel_rfl) rfl rfl (zNb rfl)<|zR (by kernel_rfl)<|zg<|zua rfl rfl<|zE<|zN<|zg<|zc<|r_pv rfl rfl (zM (z:=1) rfl rfl (w64 (by decide)))<|r_pv rfl rfl (zd rfl)<|zl<|zha<|zaa<|zk<|zc<|r_pv rfl rfl (zU rfl rfl)<|zl<|zg<|zk<|zca rfl rfl<|zE<|zg<|zk<|zv<|zk<|zc<|r_pv rfl rfl (zd rfl)<|r_pv rfl rfl (zh rfl)<|zl<|zg<|zk<|zS (OW:=[]) (O:=[boxA b24 54 (cw [w118,w219,w320,w421,w522,w623]),boxA b16 54 (cw [w110,w211,w312,w413,w514,w615]),boxA b8 54 (cw [w12,w23,w34,w45,w56,w67])]) 100000 mixed (.then (.block (.then (.then (.block (.then .ret)))))) (by kernel_rfl)<|d_pv 0 rfl rfl (by kernel_rfl) (by kernel_rfl) rfl rfl (zd rfl)<|d_pv 1 rfl rfl (by kernel_rfl) (by kernel_rfl) rfl rfl (zj (i:=1) Tryz.underlying54 sz44 rfl rfl (by decide) rfl)<|d_u 2 rfl rfl (by kernel_rfl) (by kernel_rfl) rfl rfl (ze 1 ty44 rfl rfl (.skip (.skip (.skip (.skip (.take (.take (.take (.take .nil)))))))))<|d_pv 3 rfl rfl (by kernel_rfl) (by kernel_rfl) rfl rfl (zd rfl)<|d_pv 4 rfl rfl (by kernel_rfl) (by kernel_rfl) rfl rfl (zj (i:=1) Tryz.underlying54 sz44 rfl rfl (by decide) rfl)<|d_u 5 rfl rfl (by kernel_rfl) (by kernel_rfl) rfl rfl (ze 2 ty44 rfl rfl (.skip (.skip (.skip (.skip (.take (.take (.take (.take .nil)))))))))<|d_pv 7 rfl rfl (by kernel_rfl) (by kernel_rfl) rfl rfl (zd rfl)<|d_pv 8 rfl rfl (by kernel_rfl) (by kernel_rfl) rfl rfl (zj (i:=1) Tryz.underlying54 sz44 rfl rfl (by decide) rfl)<|d_u 9 rfl rfl (by kernel_rfl) (by kernel_rfl) rfl rfl (ze 0 ty44 rfl rfl (.skip (.skip (.skip (.skip (.take (.take (.take (.take .nil)))))))))<|d_pv 10 rfl rfl (by kernel_rfl) (by kernel_rfl) rfl rfl (zd rfl)<|d_pv 11 rfl rfl (by kernel_rfl) (by kernel_rfl) rfl rfl (zj (i:=1) Tryz.underlying54 sz44 rfl rfl (by decide) rfl)<|d_u 12 rfl rfl (by kernel_rfl) (by kernel_rfl) rfl rfl (ze 1 ty44 rfl rfl (.skip (.skip (.skip (.skip (.take (.take (.take (.take .nil)))))))))<|zt 6 (by kernel_rfl) (zo rfl rfl rfl rfl (.c rfl (.c rfl .n)) ce28 (zxb (k1:=true) (u1:=w312) (v1:=w413) (q1:=(Sh.pos s ((ea%20)+(eb%20))).2.1) (k2:=true) (u2:=w34) (v2:=w45) (q2:=(Sh.pos s (ea%20)).2.1) (hl:=by first|rfl|assumption|decide|omega|(exact Sh.hqX))) (.c (j:=6) rfl (.c (j:=9) rfl .n)) ?_)
   rintro ⟨w338,w439⟩ -
   dsimp only [List.append_eq,List.nil_append,List.cons_append]
   refine zt 13 (by kernel_rfl) (zo rfl rfl rfl rfl (.c rfl (.c rfl .n)) ce28 (zxb (k1:=true) (u1:=w320) (v1:=w421) (q1:=(Sh.pos s ((ea%20)+(2*(eb%20)))).2.1) (k2:=true) (u2:=w312) (v2:=w413) (q2:=(Sh.pos s ((ea%20)+(eb%20))).2.1) (hl:=by first|rfl|assumption|decide|omega|(exact Sh.hqX))) (.c (j:=4) rfl (.c (j:=7) rfl .n)) ?_)
   rintro ⟨w340,w441⟩ -
   dsimp only [List.append_eq,List.nil_append,List.cons_append]
   refine zt 14 (by kernel_rfl) (zFa rfl rfl rfl rfl (.c rfl (.c rfl .n)) ce27 (zEb (u1:=w338) (v1:=w439) (q1:=((Sh.pos s ((ea%20)+(eb%20))).2.1) - ((Sh.pos s (ea%20)).2.1)) (u2:=w340) (v2:=w441) (q2:=((Sh.pos s ((ea%20)+(2*(eb%20)))).2.1) - ((Sh.pos s ((ea%20)+(eb%20))).2.1)) (hl:=by first|rfl|assumption|decide|omega|(exact Sh.hqX))) (.c (j:=1) rfl (.c (j:=0) rfl .n)) ?_)
   rw [show (decide ((((Sh.pos s ((ea%20)+(eb%20))).2.1) - ((Sh.pos s (ea%20)).2.1))=(((Sh.pos s ((ea%20)+(2*(eb%20)))).2.1) - ((Sh.pos s ((ea%20)+(eb%20))).2.1))))=true from by exact decide_eq_true (Sh.ps_affine (ea%20) (eb%20) _ _)]
   refine d_pv 15 rfl rfl (by kernel_rfl) (by kernel_rfl) rfl rfl (zNb rfl)<|zR (by kernel_rfl)<|zg<|zua rfl rfl<|zE<|zN<|zg<|zc<|r_pv rfl rfl (zM (z:=2) rfl rfl (w64 (by decide)))<|r_pv rfl rfl (zd rfl)<|zl<|zha<|zaa<|zk<|zc<|r_pv rfl rfl (zU rfl rfl)<|zl<|zg<|zk<|zca rfl rfl<|zE<|zg<|zk<|zv<|zk<|zc<|r_pv rfl rfl (zd rfl)<|r_pv rfl rfl (zh rfl)<|zl<|zg<|zk<|zS (OW:=[]) (O:=[boxA b24 54 (cw [w118,w219,w320,w421,w522,w623]),boxA b16 54 (cw [w110,w211,w312,w413,w514,w615]),boxA b8 54 (cw [w12,w23,w34,w45,w56,w67])]) 100000 mixed (.then (.block (.then (.then (.block (.then .ret)))))) (by kernel_rfl)<|d_pv 0 rfl rfl (by kernel_rfl) (by kernel_rfl) rfl rfl (zd rfl)<|d_pv 1 rfl rfl (by kernel_rfl) (by kernel_rfl) rfl rfl (zj (i:=2) Tryz.underlying54 sz44 rfl rfl (by decide) rfl)<|d_u 2 rfl rfl (by kernel_rfl) (by kernel_rfl) rfl rfl (ze 1 ty44 rfl rfl (.skip (.skip (.skip (.skip (.skip (.skip (.skip (.skip (.take (.take (.take (.take .nil)))))))))))))<|d_pv 3 rfl rfl (by kernel_rfl) (by kernel_rfl) rfl rfl (zd rfl)<|d_pv 4 rfl rfl (by kernel_rfl) (by kernel_rfl) rfl rfl (zj (i:=2) Tryz.underlying54 sz44 rfl rfl (by decide) rfl)<|d_u 5 rfl rfl (by kernel_rfl) (by kernel_rfl) rfl rfl (ze 2 ty44 rfl rfl (.skip (.skip (.skip (.skip (.skip (.skip (.skip (.skip (.take (.take (.take (.take .nil)))))))))))))<|d_pv 7 rfl rfl (by kernel_rfl) (by kernel_rfl) rfl rfl (zd rfl)<|d_pv 8 rfl rfl (by kernel_rfl) (by kernel_rfl) rfl rfl (zj (i:=2) Tryz.underlying54 sz44 rfl rfl (by decide) rfl)<|d_u 9 rfl rfl (by kernel_rfl) (by kernel_rfl) rfl rfl (ze 0 ty44 rfl rfl (.skip (.skip (.skip (.skip (.skip (.skip (.skip (.skip (.take (.take (.take (.take .nil)))))))))))))<|d_pv 10 rfl rfl (by kernel_rfl) (by kernel_rfl) rfl rfl (zd rfl)<|d_pv 11 rfl rfl (by kernel_rfl) (by kernel_rfl) rfl rfl (zj (i:=2) Tryz.underlying54 sz44 rfl rfl (by decide) rfl)<|d_u 12 rfl rfl (by kernel_rfl) (by kernel_rfl) rfl rfl (ze 1 ty44 rfl rfl (.skip (.skip (.skip (.skip (.skip (.skip (.skip (.skip (.take (.take (.take (.take .nil)))))))))))))<|zt 6 (by kernel_rfl) (zo rfl rfl rfl rfl (.c rfl (.c rfl .n)) ce28 (zxb (k1:=true) (u1:=w514) (v1:=w615) (q1:=(Sh.pos s ((ea%20)+(eb%20))).2.2) (k2:=true) (u2:=w56) (v2:=w67) (q2:=(Sh.pos s (ea%20)).2.2) (hl:=by first|rfl|assumption|decide|omega|(exact Sh.hqX))) (.c (j:=9) rfl (.c (j:=12) rfl .n)) ?_)
   rintro ⟨w342,w443⟩ -
   dsimp only [List.append_eq,List.nil_append,List.cons_append]
   refine zt 13 (by kernel_rfl) (zo rfl rfl rfl rfl (.c rfl (.c rfl .n)) ce28 (zxb (k1:=true) (u1:=w522) (v1:=w623) (q1:=(Sh.pos s ((ea%20)+(2*(eb%20)))).2.2) (k2:=true) (u2:=w514) (v2:=w615) (q2:=(Sh.pos s ((ea%20)+(eb%20))).2.2) (hl:=by first|rfl|assumption|decide|omega|(exact Sh.hqX))) (.c (j:=7) rfl (.c (j:=10) rfl .n)) ?_)
   rintro ⟨w344,w445⟩ -
   dsimp only [List.append_eq,List.nil_append,List.cons_append]
   refine zt 14 (by kernel_rfl) (zFa rfl rfl rfl rfl (.c rfl (.c rfl .n)) ce27 (zEb (u1:=w342) (v1:=w443) (q1:=((Sh.pos s ((ea%20)+(eb%20))).2.2) - ((Sh.pos s (ea%20)).2.2)) (u2:=w344) (v2:=w445) (q2:=((Sh.pos s ((ea%20)+(2*(eb%20)))).2.2) - ((Sh.pos s ((ea%20)+(eb%20))).2.2)) (hl:=by first|rfl|assumption|decide|omega|(exact Sh.hqX))) (.c (j:=1) rfl (.c (j:=0) rfl .n)) ?_)
   rw [show (decide ((((Sh.pos s ((ea%20)+(eb%20))).2.2) - ((Sh.pos s (ea%20)).2.2))=(((Sh.pos s ((ea%20)+(2*(eb%20)))).2.2) - ((Sh.pos s ((ea%20)+(eb%20))).2.2))))=true from by exact decide_eq_true (Sh.ps_affine (ea%20) (eb%20) _ _)]
   refine d_pv 15 rfl rfl (by kernel_rfl) (by kernel_rfl) rfl rfl (zNb rfl)<|zR (by kernel_rfl)<|zg<|zua rfl rfl<|zE<|zN<|zg<|zc<|r_pv rfl rfl (zM (z:=3) rfl rfl (w64 (by decide)))<|r_pv rfl rfl (zd rfl)<|zl<|zha<|zaa<|zk<|zc<|r_pv rfl rfl (zU rfl rfl)<|zl<|zg<|zk<|zua rfl rfl<|zna<|zp<|zp<|zH<|zg<|zk<|zc<|r_pv rfl rfl (zh rfl)<|zl<|zg<|zT ?_
   exact zO Tryz.results6 () trivial (zG rfl) rfl (ho:=(.n:PickO _ _ _)) (.n:SelR _ _ _)
end Go.Proofs.YtjeahiahjgifgaaGreatDoor.Sp
