/- Lemmas on the walk and plain lemmas that the claim of this folder uses; each states its own conditions. Lines were printed by a program of ours. -/
import Derived.Test.YtjeahiahjgifgaaGreatDoorZ4F
set_option linter.unusedVariables false
set_option linter.unusedSimpArgs false
set_option linter.unusedSectionVars false
open Go.Value renaming int → yc, pointer → ye
open Go.IntKind renaming i64 → yd
open Go.Proofs.Tryz renaming underlying39 → yf, underlying35 → yg, underlying3 → yi, underlying51 → yj, underlying29 → yk, underlying27 → yl, underlying46 → yo
open Go.Proofs.YtjeahiahjgifgaaGreatDoor.Sh renaming Cc → yh, Cx → ym, Cy → yn
namespace Go.Proofs.YtjeahiahjgifgaaGreatDoor.Sp
open Go
set_option linter.unusedVariables false
set_option maxRecDepth 100000
set_option maxHeartbeats 8000000
theorem zBc {s:Sh.S} {cm:Sh.C} {u:Int} {v:Int} {rr:Int} {h:Int} (hfi: -9223372036854775808≤s.fi∧s.fi≤9223372036854775807) (hst: -9223372036854775808≤s.st∧s.st≤9223372036854775807) (hta: -9223372036854775808≤s.ta∧s.ta≤9223372036854775807) (htb: -9223372036854775808≤s.tb∧s.tb≤9223372036854775807) (hxa: -9223372036854775808≤s.xa∧s.xa≤9223372036854775807) (hya: -9223372036854775808≤s.ya∧s.ya≤9223372036854775807) (hza: -9223372036854775808≤s.za∧s.za≤9223372036854775807) (hqa: -9223372036854775808≤s.qa∧s.qa≤9223372036854775807) (hqb: -9223372036854775808≤s.qb∧s.qb≤9223372036854775807) (hqc: -9223372036854775808≤s.qc∧s.qc≤9223372036854775807) (hqd: -9223372036854775808≤s.qd∧s.qd≤9223372036854775807) (hxb: -9223372036854775808≤s.xb∧s.xb≤9223372036854775807) (hyb: -9223372036854775808≤s.yb∧s.yb≤9223372036854775807) (hzb: -9223372036854775808≤s.zb∧s.zb≤9223372036854775807) (hra: -9223372036854775808≤s.ra∧s.ra≤9223372036854775807) (hrb: -9223372036854775808≤s.rb∧s.rb≤9223372036854775807) (hrc: -9223372036854775808≤s.rc∧s.rc≤9223372036854775807) (hrd: -9223372036854775808≤s.rd∧s.rd≤9223372036854775807) (h64fo: -9223372036854775808≤cm.fo∧cm.fo≤9223372036854775807) (h64cx: -9223372036854775808≤cm.cx∧cm.cx≤9223372036854775807) (h64cy: -9223372036854775808≤cm.cy∧cm.cy≤9223372036854775807) (h64u: -9223372036854775808≤u∧u≤9223372036854775807) (h64v: -9223372036854775808≤v∧v≤9223372036854775807) (h64rr: -9223372036854775808≤rr∧rr≤9223372036854775807) (h64h: -9223372036854775808≤h∧h≤9223372036854775807):Con Tryz.prog 4 [.agg #[yc yd (s.fi),yc yd (s.st),yc yd (s.ta),yc yd (s.xa),yc yd (s.ya),yc yd (s.za),yc yd (s.qa),yc yd (s.qb),yc yd (s.qc),yc yd (s.qd),yc yd (s.tb),yc yd (s.xb),yc yd (s.yb),yc yd (s.zb),yc yd (s.ra),yc yd (s.rb),yc yd (s.rc),yc yd (s.rd)],.agg #[yc yd (cm.fo),yc yd (cm.cx),yc yd (cm.cy),yc yd u,yc yd v,yc yd rr,yc yd h]] [] [sgF] (Y:=Unit) (fun y=>True) (fun y=> .bool true) (fun y=>[]) (fun y=>[]):=by
 refine zw Tryz.func4 rfl rfl rfl (fun c=> ?_)
 show RunC _ _ _ _ _ [(0,.agg #[yc yd (s.fi),yc yd (s.st),yc yd (s.ta),yc yd (s.xa),yc yd (s.ya),yc yd (s.za),yc yd (s.qa),yc yd (s.qb),yc yd (s.qc),yc yd (s.qd),yc yd (s.tb),yc yd (s.xb),yc yd (s.yb),yc yd (s.zb),yc yd (s.ra),yc yd (s.rb),yc yd (s.rc),yc yd (s.rd)]),(1,.agg #[yc yd (cm.fo),yc yd (cm.cx),yc yd (cm.cy),yc yd u,yc yd v,yc yd rr,yc yd h])] [] [sgF]
 have hro:=Sh.ro_b h64v
 refine zj<|zc<|zG rfl rfl (zaa rfl rfl) (fun b1=> ?_)
 refine zG rfl rfl (zaa rfl rfl) (fun b2=> ?_)
 refine e_p (zi rfl)<|zk<|zg<|zj<|zj<|zc<|zW rfl rfl (.n) ce11 (zxf) (.c (j:=0) rfl .n)<|e_p (zec rfl)<|zk<|zg<|zwa rfl rfl<|zy<|zg<|zj<|zc<|e_ru (zd 1 ty29 rfl rfl (.t8 (.t8 (.t2 .nil))))<|e_p (zf yf rfl sz37 rfl rfl)<|e_ru (zd 0 ty37 rfl rfl (.t2 (.take .nil)))<|e_p (zf yf rfl sz35 rfl rfl)<|e_ru (zd 0 ty35 rfl rfl (.s2 (.skip (.t2 .nil))))<|e_p (zf yf rfl sz3 rfl rfl)<|e_ru (ze 0 ty3 rfl rfl rfl)<|e_p (zf yf rfl sz3 rfl rfl)<|e_ru (ze 0 ty3 rfl rfl rfl)<|zH rfl rfl (.c rfl (.c rfl (.c rfl (.c rfl (.c rfl .n))))) ce14 (zAc (s:=s) (cm:=cm) (u:=u) (v:=v) (r:=rr) (h:=h) (hfi:=ass) (hst:=ass) (hta:=ass) (htb:=ass) (hxa:=ass) (hya:=ass) (hza:=ass) (hqa:=ass) (hqb:=ass) (hqc:=ass) (hqd:=ass) (hxb:=ass) (hyb:=ass) (hzb:=ass) (hra:=ass) (hrb:=ass) (hrc:=ass) (hrd:=ass) (h64fo:=ass) (h64cx:=ass) (h64cy:=ass) (h64u:=ass) (h64v:=ass) (h64r:=ass) (h64h:=ass)) (.c (j:=0) rfl .n) ?_
 rintro ⟨w13,w24,w35,w46⟩ hph1
 dsimp only [aq,nq,cq]
 replace hph1:yh s cm u v rr h≠0→w13=wz∧w24=wz∧w35=wz∧w46=wz:=hph1
 refine e_mv rfl<|e_p (zA rfl rfl)<|e_p (zA rfl rfl)<|zG rfl rfl (zn zr46 rfl) (fun b7=> ?_)
 refine zl 0 rfl rfl rfl rfl rfl sz46 rfl (.t8 .nil) .z<|e_p (zi rfl)<|zk<|zg<|zj<|zc<|e_ru (zd 2 ty29 rfl rfl (.t8 (.t8 (.t2 .nil))))<|zW rfl rfl (.c rfl (.c rfl .n)) ce13 (zVe (s:=s) (n:=1) (hfi:=ass) (hst:=ass) (hta:=ass) (htb:=ass) (hxa:=ass) (hya:=ass) (hza:=ass) (hqa:=ass) (hqb:=ass) (hqc:=ass) (hqd:=ass) (hxb:=ass) (hyb:=ass) (hzb:=ass) (hra:=ass) (hrb:=ass) (hrc:=ass) (hrd:=ass)) (.n)<|e_p (zi rfl)<|zk<|zg<|zDa (X:=Unit) (fun x=>True) (fun x=>[(7,yc yd (Sh.tg s (Sh.inr rr∧Sh.cp cm u v h))),(6,yc yd (yh s cm u v rr h)),(5,ye (some ⟨b7,0,none⟩)),(3,ye (some ⟨b2,0,none⟩)),(2,ye (some ⟨b1,0,none⟩))]) (fun x=>[boxA b7 46 (cw [w13,w24,w35,w46]),boxA b2 39 [yc yd (cm.fo),yc yd (cm.cx),yc yd (cm.cy),yc yd u,yc yd v,yc yd rr,yc yd h],boxA b1 29 (cS s)]) (fun x=>[qF (decide (yh s cm u v rr h=0)) w13 w24 (ym s cm u v rr h),qF (decide (yh s cm u v rr h=0)) w35 w46 (yn s cm u v rr h),sgF]) ?_ ?_
 ·
  refine zDa (X:=Unit) (fun x=>True) (fun x=>[(52,.bool (decide ((Sh.chk s 1=0)∧(¬(Sh.lcam cm ([(Sh.ro v),rr]) ([u,v,h])))))),(7,yc yd (Sh.chk s 1)),(6,yc yd (yh s cm u v rr h)),(5,ye (some ⟨b7,0,none⟩)),(3,ye (some ⟨b2,0,none⟩)),(2,ye (some ⟨b1,0,none⟩))]) (fun x=>[boxA b7 46 (cw [w13,w24,w35,w46]),boxA b2 39 [yc yd (cm.fo),yc yd (cm.cx),yc yd (cm.cy),yc yd u,yc yd v,yc yd rr,yc yd h],boxA b1 29 (cS s)]) (fun x=>[qF (decide (yh s cm u v rr h=0)) w13 w24 (ym s cm u v rr h),qF (decide (yh s cm u v rr h=0)) w35 w46 (yn s cm u v rr h),sgF]) ?_ ?_
  ·
   refine zP (OW:=[]) (O:=[boxA b7 46 (cw [w13,w24,w35,w46]),boxA b2 39 [yc yd (cm.fo),yc yd (cm.cx),yc yd (cm.cy),yc yd u,yc yd v,yc yd rr,yc yd h],boxA b1 29 (cS s)]) 100000 mixed (.then (.then .ret)) kr<|e_dm 0 rfl rfl rfl<|e_pv 1 rfl rfl (zPa rfl rfl)<|zEc 2 rfl rfl kr kr rfl rfl (zla rfl) (fun h8=> ?_) (fun h8=> ?_)
   ·
    refine e_pv 3 rfl rfl (zf yf rfl sz37 rfl rfl)<|e_u 4 rfl rfl (zd 1 ty37 rfl rfl (.t2 (.take .nil)))<|e_pv 5 rfl rfl (zf yf rfl sz35 rfl rfl)<|e_pv 6 rfl rfl (zf yg rfl sz3 rfl rfl)<|e_u 7 rfl rfl (ze 1 ty3 rfl rfl rfl)<|e_pv 9 rfl rfl (zf yf rfl sz3 rfl rfl)<|e_u 10 rfl rfl (ze 1 ty3 rfl rfl rfl)<|e_pv 12 rfl rfl (zf yf rfl sz35 rfl rfl)<|e_pv 13 rfl rfl (zf yg rfl sz3 rfl rfl)<|e_u 14 rfl rfl (ze 1 ty3 rfl rfl rfl)<|e_pv 15 rfl rfl (zf yf rfl sz35 rfl rfl)<|e_pv 16 rfl rfl (zf yg rfl sz3 rfl rfl)<|e_u 17 rfl rfl (ze 1 ty3 rfl rfl rfl)<|e_pv 18 rfl rfl (zf yf rfl sz3 rfl rfl)<|e_u 19 rfl rfl (ze 1 ty3 rfl rfl rfl)<|zEb (m':=[(48,yc yd h),(46,yc yd v),(43,yc yd u),(39,yc yd rr),(36,yc yd v),(33,.agg #[yc yd (cm.fo),yc yd (cm.cx),yc yd (cm.cy)]),(31,.bool true),(7,yc yd (Sh.chk s 1)),(6,yc yd (yh s cm u v rr h)),(5,ye (some ⟨b7,0,none⟩)),(3,ye (some ⟨b2,0,none⟩)),(2,ye (some ⟨b1,0,none⟩))]) (R':=[qF (decide (yh s cm u v rr h=0)) w13 w24 (ym s cm u v rr h),qF (decide (yh s cm u v rr h=0)) w35 w46 (yn s cm u v rr h),sgF]) ((.of rfl):SubM _ _) (List.Perm.refl _) (List.Perm.refl _) ((.of [0,1,2] rfl):SelR _ _ _)<|zY (X:=Nat×Nat) (k':=0) (L':=(lb 24 16777215)) (fun (u11_1,u20_1)=>([(52,.bool (decide (¬(Sh.lcam cm ([(Sh.ro v),rr]) ([u,v,h]))))),(7,yc yd (Sh.chk s 1)),(6,yc yd (yh s cm u v rr h)),(5,ye (some ⟨b7,0,none⟩)),(3,ye (some ⟨b2,0,none⟩)),(2,ye (some ⟨b1,0,none⟩))],[],[emA,emA,boxA b7 46 (cw [w13,w24,w35,w46]),boxA b2 39 [yc yd (cm.fo),yc yd (cm.cx),yc yd (cm.cy),yc yd u,yc yd v,yc yd rr,yc yd h],boxA b1 29 (cS s)],[slF (rI .i64) (some ⟨u20_1,0,none⟩) 3 ([u,v,h]),slF (rI .i64) (some ⟨u11_1,0,none⟩) 2 ([(Sh.ro v),rr]),qF (decide (yh s cm u v rr h=0)) w13 w24 (ym s cm u v rr h),qF (decide (yh s cm u v rr h=0)) w35 w46 (yn s cm u v rr h),sgF])) ?_ (fun hD0=> ?_)
    ·
     rintro ⟨u11_1,u20_1⟩
     dsimp only [cw,cS]
     refine zN kr ?_
     exact zga () (show True from by first|trivial|omega|simp_all) ((.e rfl (congrArg Value.bool cbu) (.of rfl)):SubM _ _) (ho:=((.of [2,2,2] rfl):PickO _ _ _)) ((.of [2,3,4] rfl):SelR _ _ _)
    refine zY (X:=Nat×Nat) (k':=3) (L':=(lb 24 2097151)) (fun (u11_1,u20_1)=>([(49,.slice (some ⟨u20_1,0,none⟩) 3 3),(40,.slice (some ⟨u11_1,0,none⟩) 2 2),(33,.agg #[yc yd (cm.fo),yc yd (cm.cx),yc yd (cm.cy)]),(31,.bool true),(7,yc yd (Sh.chk s 1)),(6,yc yd (yh s cm u v rr h)),(5,ye (some ⟨b7,0,none⟩)),(3,ye (some ⟨b2,0,none⟩)),(2,ye (some ⟨b1,0,none⟩))],[],[emA,emA,boxA b7 46 (cw [w13,w24,w35,w46]),boxA b2 39 [yc yd (cm.fo),yc yd (cm.cx),yc yd (cm.cy),yc yd u,yc yd v,yc yd rr,yc yd h],boxA b1 29 (cS s)],[slF (rI .i64) (some ⟨u20_1,0,none⟩) 3 ([u,v,h]),slF (rI .i64) (some ⟨u11_1,0,none⟩) 2 ([(Sh.ro v),rr]),qF (decide (yh s cm u v rr h=0)) w13 w24 (ym s cm u v rr h),qF (decide (yh s cm u v rr h=0)) w35 w46 (yn s cm u v rr h),sgF])) ?_ (fun hD1=> ?_)
    ·
     rintro ⟨u11_1,u20_1⟩
     dsimp only [cw,cS]
     refine zya 21 kr ?_
     ·
      refine zCa rfl rfl rfl rfl (.c rfl (.c rfl (.c rfl .n))) ce15 (zye (cm:=cm) (p1:=some ⟨u11_1,0,none⟩) (n1:=2) (c1:=2) (lr:=[(Sh.ro v),rr]) (p2:=some ⟨u20_1,0,none⟩) (n2:=3) (c2:=3) (ll:=[u,v,h]) (h64fo:=ass) (h64cx:=ass) (h64cy:=ass) (hn1:=cbd) (hn2:=cbd)) (.c (j:=1) rfl (.c (j:=0) rfl .n))<|e_pv 22 rfl rfl (zTa rfl)<|e_pv 23 rfl rfl (zK rfl rfl) ?_
      exact zx (hD0 (u11_1,u20_1)) kr ((.of rfl):SubM _ _) .rfl .rfl ((.of [0,1,2,3,4] rfl):SelR _ _ _)
    refine zY (X:=Nat) (k':=4) (L':=(lb 24 1048575)) (fun u11_1=>([(40,.slice (some ⟨u11_1,0,none⟩) 2 2),(48,yc yd h),(46,yc yd v),(43,yc yd u),(33,.agg #[yc yd (cm.fo),yc yd (cm.cx),yc yd (cm.cy)]),(31,.bool true),(7,yc yd (Sh.chk s 1)),(6,yc yd (yh s cm u v rr h)),(5,ye (some ⟨b7,0,none⟩)),(3,ye (some ⟨b2,0,none⟩)),(2,ye (some ⟨b1,0,none⟩))],[],[emA,boxA b7 46 (cw [w13,w24,w35,w46]),boxA b2 39 [yc yd (cm.fo),yc yd (cm.cx),yc yd (cm.cy),yc yd u,yc yd v,yc yd rr,yc yd h],boxA b1 29 (cS s)],[slF (rI .i64) (some ⟨u11_1,0,none⟩) 2 ([(Sh.ro v),rr]),qF (decide (yh s cm u v rr h=0)) w13 w24 (ym s cm u v rr h),qF (decide (yh s cm u v rr h=0)) w35 w46 (yn s cm u v rr h),sgF])) ?_ (fun hD2=> ?_)
    ·
     rintro u11_1
     dsimp only [cw,cS]
     refine zya 20 kr ?_
     ·
      refine zMe rfl rfl rfl rfl (zO (enc:=fun z:Int=>[yc yd z]) (ok:=InK .i64) (h1:=fun _=>rfl) (h2:=fun _=>rfl) (k:=3) yj inf3 rfl dd dd dd (.c (x:=u) rfl rfl (fun _ _=>by exact zq.2 om) (.c (x:=v) rfl rfl (fun _ _=>by exact zq.2 om) (.c (x:=h) rfl rfl (fun _ _=>by exact zq.2 om) .n)))) (fun u20_1 _=> ?_)
      refine zmc 0 rfl .z ?_
      exact zx (hD1 (u11_1,u20_1)) kr ((.of rfl):SubM _ _) .rfl .rfl ((.of [0,1,2,3,4] rfl):SelR _ _ _)
    refine zY (X:=Nat) (k':=4) (L':=(lb 24 2095103)) (fun u20_1=>([(49,.slice (some ⟨u20_1,0,none⟩) 3 3),(37,yc yd (Sh.ro v)),(39,yc yd rr),(33,.agg #[yc yd (cm.fo),yc yd (cm.cx),yc yd (cm.cy)]),(31,.bool true),(7,yc yd (Sh.chk s 1)),(6,yc yd (yh s cm u v rr h)),(5,ye (some ⟨b7,0,none⟩)),(3,ye (some ⟨b2,0,none⟩)),(2,ye (some ⟨b1,0,none⟩))],[],[emA,boxA b7 46 (cw [w13,w24,w35,w46]),boxA b2 39 [yc yd (cm.fo),yc yd (cm.cx),yc yd (cm.cy),yc yd u,yc yd v,yc yd rr,yc yd h],boxA b1 29 (cS s)],[slF (rI .i64) (some ⟨u20_1,0,none⟩) 3 ([u,v,h]),qF (decide (yh s cm u v rr h=0)) w13 w24 (ym s cm u v rr h),qF (decide (yh s cm u v rr h=0)) w35 w46 (yn s cm u v rr h),sgF])) ?_ (fun hD3=> ?_)
    ·
     rintro u20_1
     dsimp only [cw,cS]
     refine zya 11 kr ?_
     ·
      refine zMe rfl rfl rfl rfl (zO (enc:=fun z:Int=>[yc yd z]) (ok:=InK .i64) (h1:=fun _=>rfl) (h2:=fun _=>rfl) (k:=2) yj inf3 rfl dd dd dd (.c (x:=(Sh.ro v)) rfl rfl (fun _ _=>by exact zq.2 om) (.c (x:=rr) rfl rfl (fun _ _=>by exact zq.2 om) .n))) (fun u11_1 _=> ?_)
      refine zmc 0 rfl .z ?_
      exact zx (hD1 (u11_1,u20_1)) kr ((.of rfl):SubM _ _) .rfl .rfl ((.of [1,0,2,3,4] rfl):SelR _ _ _)
    refine zY (X:=Unit) (k':=5) (L':=(lb 24 1046527)) (fun _=>([(37,yc yd (Sh.ro v)),(48,yc yd h),(46,yc yd v),(43,yc yd u),(39,yc yd rr),(33,.agg #[yc yd (cm.fo),yc yd (cm.cx),yc yd (cm.cy)]),(31,.bool true),(7,yc yd (Sh.chk s 1)),(6,yc yd (yh s cm u v rr h)),(5,ye (some ⟨b7,0,none⟩)),(3,ye (some ⟨b2,0,none⟩)),(2,ye (some ⟨b1,0,none⟩))],[],[boxA b7 46 (cw [w13,w24,w35,w46]),boxA b2 39 [yc yd (cm.fo),yc yd (cm.cx),yc yd (cm.cy),yc yd u,yc yd v,yc yd rr,yc yd h],boxA b1 29 (cS s)],[qF (decide (yh s cm u v rr h=0)) w13 w24 (ym s cm u v rr h),qF (decide (yh s cm u v rr h=0)) w35 w46 (yn s cm u v rr h),sgF])) ?_ (fun hD4=> ?_)
    ·
     rintro ⟨⟩
     dsimp only [cw,cS]
     refine zXa 11 20 kr ?_ ?_
     ·
      refine zMe rfl rfl rfl rfl (zO (enc:=fun z:Int=>[yc yd z]) (ok:=InK .i64) (h1:=fun _=>rfl) (h2:=fun _=>rfl) (k:=2) yj inf3 rfl dd dd dd (.c (x:=(Sh.ro v)) rfl rfl (fun _ _=>by exact zq.2 om) (.c (x:=rr) rfl rfl (fun _ _=>by exact zq.2 om) .n))) (fun u11_1 _=> ?_)
      refine zmc 0 rfl .z ?_
      exact zx (hD2 u11_1) kr ((.of rfl):SubM _ _) .rfl .rfl ((.of [0,1,2,3] rfl):SelR _ _ _)
     ·
      refine zMe rfl rfl rfl rfl (zO (enc:=fun z:Int=>[yc yd z]) (ok:=InK .i64) (h1:=fun _=>rfl) (h2:=fun _=>rfl) (k:=3) yj inf3 rfl dd dd dd (.c (x:=u) rfl rfl (fun _ _=>by exact zq.2 om) (.c (x:=v) rfl rfl (fun _ _=>by exact zq.2 om) (.c (x:=h) rfl rfl (fun _ _=>by exact zq.2 om) .n)))) (fun u20_1 _=> ?_)
      refine zmc 0 rfl .z ?_
      exact zx (hD3 u20_1) kr ((.of rfl):SubM _ _) .rfl .rfl ((.of [0,1,2,3] rfl):SelR _ _ _)
    refine zY (X:=Nat) (k':=5) (L':=(lb 24 2094847)) (fun u20_1=>([(49,.slice (some ⟨u20_1,0,none⟩) 3 3),(39,yc yd rr),(36,yc yd v),(33,.agg #[yc yd (cm.fo),yc yd (cm.cx),yc yd (cm.cy)]),(31,.bool true),(7,yc yd (Sh.chk s 1)),(6,yc yd (yh s cm u v rr h)),(5,ye (some ⟨b7,0,none⟩)),(3,ye (some ⟨b2,0,none⟩)),(2,ye (some ⟨b1,0,none⟩))],[],[emA,boxA b7 46 (cw [w13,w24,w35,w46]),boxA b2 39 [yc yd (cm.fo),yc yd (cm.cx),yc yd (cm.cy),yc yd u,yc yd v,yc yd rr,yc yd h],boxA b1 29 (cS s)],[slF (rI .i64) (some ⟨u20_1,0,none⟩) 3 ([u,v,h]),qF (decide (yh s cm u v rr h=0)) w13 w24 (ym s cm u v rr h),qF (decide (yh s cm u v rr h=0)) w35 w46 (yn s cm u v rr h),sgF])) ?_ (fun hD5=> ?_)
    ·
     rintro u20_1
     dsimp only [cw,cS]
     refine zya 8 kr ?_
     ·
      refine zCa rfl rfl rfl rfl (.c rfl .n) ce16 (zZb (v:=v) (h64v:=ass)) (.n) ?_
      exact zx (hD3 u20_1) kr ((.of rfl):SubM _ _) .rfl .rfl ((.of [0,1,2,3] rfl):SelR _ _ _)
    refine zXa 8 20 kr ?_ ?_
    ·
     refine zCa rfl rfl rfl rfl (.c rfl .n) ce16 (zZb (v:=v) (h64v:=ass)) (.n) ?_
     exact zx (hD4 ()) kr ((.of rfl):SubM _ _) .rfl .rfl ((.of [0,1,2] rfl):SelR _ _ _)
    ·
     refine zMe rfl rfl rfl rfl (zO (enc:=fun z:Int=>[yc yd z]) (ok:=InK .i64) (h1:=fun _=>rfl) (h2:=fun _=>rfl) (k:=3) yj inf3 rfl dd dd dd (.c (x:=u) rfl rfl (fun _ _=>by exact zq.2 om) (.c (x:=v) rfl rfl (fun _ _=>by exact zq.2 om) (.c (x:=h) rfl rfl (fun _ _=>by exact zq.2 om) .n)))) (fun u20_1 _=> ?_)
     refine zmc 0 rfl .z ?_
     exact zx (hD5 u20_1) kr ((.of rfl):SubM _ _) .rfl .rfl ((.of [0,1,2,3] rfl):SelR _ _ _)
   ·
    refine e_skip 3 rfl rfl<|e_skip 4 rfl rfl<|e_skip 5 rfl rfl<|e_skip 6 rfl rfl<|e_skip 7 rfl rfl<|e_skip 8 rfl rfl<|e_skip 9 rfl rfl<|e_skip 10 rfl rfl<|e_skip 11 rfl rfl<|e_skip 12 rfl rfl<|e_skip 13 rfl rfl<|e_skip 14 rfl rfl<|e_skip 15 rfl rfl<|e_skip 16 rfl rfl<|e_skip 17 rfl rfl<|e_skip 18 rfl rfl<|e_skip 19 rfl rfl<|e_skip 20 rfl rfl<|e_skip 21 rfl rfl<|e_skip 22 rfl rfl<|e_pv 23 rfl rfl (zK rfl rfl)<|zN kr ?_
    exact zga () (show True from by first|trivial|omega|simp_all) ((.e rfl (congrArg Value.bool cbu) (.of rfl)):SubM _ _) (ho:=((.of [0,0,0] rfl):PickO _ _ _)) ((.of [0,1,2] rfl):SelR _ _ _)
  ·
   rintro ⟨⟩ -
   try dsimp only [cw]
   refine zT rfl (fun h52=> ?_) (fun h52=> ?_)
   ·
    refine zc<|e_p (zi rfl)<|zk ?_
    exact zga () (show True from by first|trivial|omega|simp_all) ((.e rfl (congrArg (Value.int .i64) (Sh.tg_yes Sh.lcam_c h52)) (.of rfl)):SubM _ _) (ho:=((.of [0,0,0] rfl):PickO _ _ _)) ((.of [0,1,2] rfl):SelR _ _ _)
   ·
    refine zy ?_
    exact zga () (show True from by first|trivial|omega|simp_all) ((.e rfl (congrArg (Value.int .i64) (Sh.tg_no Sh.lcam_c h52)) (.of rfl)):SubM _ _) (ho:=((.of [0,0,0] rfl):PickO _ _ _)) ((.of [0,1,2] rfl):SelR _ _ _)
 ·
  rintro ⟨⟩ -
  try dsimp only [cw]
  refine zj<|zc<|e_p (zt zr46 rfl yo (.c sz44 (.c sz44 .n)) .n .n)<|zG rfl rfl (zn zr46 rfl) (fun b9=> ?_)
  refine zl 0 rfl rfl rfl rfl rfl sz46 rfl (.t8 .nil) .z<|zk<|zg<|zDa (X:=Wd×Wd×Wd×Wd) (fun x=>True) (fun x=>[(7,yc yd (yh s cm u v rr h)),(8,ye (some ⟨b9,0,none⟩)),(6,yc yd (yh s cm u v rr h)),(5,ye (some ⟨b7,0,none⟩)),(3,ye (some ⟨b2,0,none⟩)),(2,ye (some ⟨b1,0,none⟩))]) (fun x=>[boxA b9 46 (cw [x.1,x.2.1,x.2.2.1,x.2.2.2]),boxA b7 46 (cw [w13,w24,w35,w46]),boxA b2 39 [yc yd (cm.fo),yc yd (cm.cx),yc yd (cm.cy),yc yd u,yc yd v,yc yd rr,yc yd h],boxA b1 29 (cS s)]) (fun x=>[qF (decide (yh s cm u v rr h=0)) x.1 x.2.1 (ym s cm u v rr h),qF (decide (yh s cm u v rr h=0)) x.2.2.1 x.2.2.2 (yn s cm u v rr h),qF (decide (yh s cm u v rr h=0)) w13 w24 (ym s cm u v rr h),qF (decide (yh s cm u v rr h=0)) w35 w46 (yn s cm u v rr h),sgF]) ?_ ?_
  ·
   refine zj<|zc<|e_mv rfl<|e_p (zPa rfl rfl)<|zk<|zg<|zT rfl (fun h55=> ?_) (fun h55=> ?_)
   ·
    obtain ⟨hc0,hcp⟩:=Sh.tg_zero h55
    obtain ⟨hok,-,hlt,hnd⟩:=Sh.chk_ok hc0
    have hgq:=Sh.gx_hq hok hcp.2.1 hcp.2.2.1 hcp.2.2.2.1 hcp.2.2.2.2.2 hcp.2.2.2.2.1
    refine zj<|zc<|e_ru (zd 3 ty29 rfl rfl (.t8 (.t8 (.t2 .nil))))<|e_p (zf yf rfl sz37 rfl rfl)<|e_ru (zd 2 ty37 rfl rfl (.t2 (.take .nil)))<|e_p (zf yf rfl sz35 rfl rfl)<|e_ru (zd 2 ty35 rfl rfl (.s2 (.skip (.t2 .nil))))<|e_p (zf yf rfl sz3 rfl rfl)<|e_ru (ze 2 ty3 rfl rfl rfl)<|zH rfl rfl (.c rfl (.c rfl (.c rfl (.c rfl .n)))) ce17 (zze (s:=s) (cm:=cm) (u:=u) (v:=v) (h:=h) (hok:=by exact hok) (hlt:=by exact hlt) (hc:=by exact hcp.2.1) (hu:=by exact hcp.2.2.1) (hv:=by exact hcp.2.2.2.1) (hh:=by exact hcp.2.2.2.2.1) (hr:=by exact hcp.2.2.2.2.2)) (.n) ?_
    rintro ⟨w110,w211,w312,w413⟩ hy14
    dsimp only [aq,nq,cq]
    replace hy14:Sh.gc s cm u v h≠0→w110=wz∧w211=wz∧w312=wz∧w413=wz:=hy14
    refine e_mv rfl<|e_p (zA rfl rfl)<|e_p (zA rfl rfl)<|zG rfl rfl (zn zr46 rfl) (fun b15=> ?_)
    refine zl 0 rfl rfl rfl rfl rfl sz46 rfl (.t8 .nil) .z<|e_p (zi rfl)<|zk<|zg<|zj<|zc<|e_mv rfl<|e_p (zi rfl)<|zk<|zg<|zj<|zc<|e_mv rfl<|e_p (zPa rfl rfl)<|zk<|zg<|zT rfl (fun h69=> ?_) (fun h69=> ?_)
    ·
     refine zZ (.c (i:=1) rfl (.c (i:=0) rfl (.c (i:=0) rfl (.c (i:=0) rfl (.c (i:=0) rfl .n)))))<|zP (OW:=[boxA b9 46 (cw [wz,wz,wz,wz])]) (O:=[boxA b15 46 (cw [w110,w211,w312,w413]),boxA b7 46 (cw [w13,w24,w35,w46]),boxA b2 39 [yc yd (cm.fo),yc yd (cm.cx),yc yd (cm.cy),yc yd u,yc yd v,yc yd rr,yc yd h],boxA b1 29 (cS s)]) 13 mixed (.then .ret) kr<|e_uw 0 rfl rfl (zd 4 ty29 rfl rfl (.t8 (.t8 (.t2 .nil))))<|e_pv 1 rfl rfl (zf yf rfl sz37 rfl rfl)<|e_uw 2 rfl rfl (zd 3 ty37 rfl rfl (.t2 (.take .nil)))<|e_pv 3 rfl rfl (zf yf rfl sz3 rfl rfl)<|e_uw 4 rfl rfl (ze 3 ty3 rfl rfl rfl)<|e_uw 5 rfl rfl (zd 1 ty46 rfl rfl (.t8 .nil))<|e_pv 6 rfl rfl (zf yf rfl sz3 rfl rfl)<|e_uw 7 rfl rfl (ze 3 ty3 rfl rfl rfl)<|e_one 8 (zm rfl rfl rfl rfl (.c rfl (.c rfl .n)) ce19 (zOf (k1:=(decide (Sh.gc s cm u v h=0))) (u1:=w110) (v1:=w211) (ax:=(Sh.gx s cm u v h)) (k2:=(decide (Sh.gc s cm u v h=0))) (u2:=w312) (v2:=w413) (ay:=(Sh.gy s cm u v h)) (h:=h) (h64h:=ass)) (.c (j:=0) rfl (.c (j:=1) rfl .n)) ?_)
     rintro ⟨w316,w417⟩ -
     dsimp only [aq,nq,cq]
     refine e_one 9 (zm rfl rfl rfl rfl (.c rfl (.c rfl (.c rfl (.c rfl .n)))) ce18 (zXe (s:=s) (cm:=cm) (r:=rr) (k1:=(decide (Sh.gc s cm u v h=0))) (u1:=w110) (v1:=w211) (ax:=(Sh.gx s cm u v h)) (k2:=(decide (Sh.gc s cm u v h=0))) (u2:=w312) (v2:=w413) (ay:=(Sh.gy s cm u v h)) (k3:=true) (u3:=w316) (v3:=w417) (h:=h) (hok:=by exact hok) (hlt:=by exact hlt) (hc:=by exact hcp.2.1) (hr:=by exact hcp.1) (hqx:=by exact hgq.1) (hqy:=by exact hgq.2) (hh:=by exact hcp.2.2.2.2.1)) (.c (j:=1) rfl (.c (j:=2) rfl (.c (j:=0) rfl .n))) ?_)
     rintro ⟨w118,w219,w320,w421⟩ hy22
     dsimp only [aq,nq,cq]
     replace hy22:Sh.ic s rr (Sh.gx s cm u v h) (Sh.gy s cm u v h) h≠0→w118=wz∧w219=wz∧w320=wz∧w421=wz:=hy22
     refine e_dm 10 rfl rfl rfl<|e_pv 11 rfl rfl (zA rfl rfl)<|e_pv 12 rfl rfl (zA rfl rfl)<|e_one 13 (zo kr rfl rfl rfl rfl rfl sz46 rfl (.t8 .nil) ?_)
     refine e_pv 14 rfl rfl (zi rfl)<|zN kr ?_
     have hg9:(yh s cm u v rr h)=(Sh.ic s rr (Sh.gx s cm u v h) (Sh.gy s cm u v h) h):=((if_pos hc0).trans (if_pos hcp)).trans (if_pos h69)
     have hx9:(ym s cm u v rr h)=(Sh.ix s cm rr (Sh.gx s cm u v h) (Sh.gy s cm u v h) h):=by by_cases k:(Sh.ic s rr (Sh.gx s cm u v h) (Sh.gy s cm u v h) h)=0;rw [show (ym s cm u v rr h)=(Sh.ix s cm rr (Sh.gx s cm u v h) (Sh.gy s cm u v h) h) from if_pos (hg9.trans k)];(rw [show (ym s cm u v rr h)=0 from if_neg (fun e=>k (hg9.symm.trans e)),show (Sh.ix s cm rr (Sh.gx s cm u v h) (Sh.gy s cm u v h) h)=0 from if_neg k])
     have hy9:(yn s cm u v rr h)=(Sh.iy s cm rr (Sh.gx s cm u v h) (Sh.gy s cm u v h) h):=by by_cases k:(Sh.ic s rr (Sh.gx s cm u v h) (Sh.gy s cm u v h) h)=0;rw [show (yn s cm u v rr h)=(Sh.iy s cm rr (Sh.gx s cm u v h) (Sh.gy s cm u v h) h) from if_pos (hg9.trans k)];(rw [show (yn s cm u v rr h)=0 from if_neg (fun e=>k (hg9.symm.trans e)),show (Sh.iy s cm rr (Sh.gx s cm u v h) (Sh.gy s cm u v h) h)=0 from if_neg k])
     exact zga (w118,w219,w320,w421) (show True from by first|trivial|omega|simp_all) ((.e rfl (congrArg (Value.int .i64) (hg9.symm)) (.of rfl)):SubM _ _) (ho:=((.of [0,1,1,1] rfl):PickO _ _ _)) ((.e (j:=0) rfl (by first|rw [hx9,hg9]|rw [hy9,hg9]) (.e (j:=1) rfl (by first|rw [hx9,hg9]|rw [hy9,hg9]) (.of [5,6,7] rfl))):SelR _ _ _)
    ·
     refine zy<|zab (qF false wz wz 0) (fun g _=>qF_none g) ?_
     have hg8:¬(yh s cm u v rr h)=0:=by rw [show (yh s cm u v rr h)=Sh.gc s cm u v h from ((if_pos hc0).trans (if_pos hcp)).trans (if_neg h69)];exact h69
     have hx9:(ym s cm u v rr h)=0:=if_neg hg8
     have hy9:(yn s cm u v rr h)=0:=if_neg hg8
     exact zga (wz,wz,wz,wz) (show True from by first|trivial|omega|simp_all) ((.e rfl (congrArg (Value.int .i64) ((((if_pos hc0).trans (if_pos hcp)).trans (if_neg h69)).symm)) (.of rfl)):SubM _ _) (ho:=((.e (i:=1) rfl (by first|rfl|(congr 1;omega)|simp_all) (.of [1,1,1] rfl)):PickO _ _ _)) ((.e (j:=0) rfl (by first|rw [hx9,decide_eq_false hg8]|rw [hy9,decide_eq_false hg8]) (.e (j:=0) rfl (by first|rw [hx9,decide_eq_false hg8]|rw [hy9,decide_eq_false hg8]) (.of [3,4,5] rfl))):SelR _ _ _)
   ·
    refine zy<|zab (qF false wz wz 0) (fun g _=>qF_none g) ?_
    have hg8:¬(yh s cm u v rr h)=0:=by rw [Sh.Cc_tg h55];exact h55
    have hx9:(ym s cm u v rr h)=0:=if_neg hg8
    have hy9:(yn s cm u v rr h)=0:=if_neg hg8
    exact zga (wz,wz,wz,wz) (show True from by first|trivial|omega|simp_all) ((.e rfl (congrArg (Value.int .i64) ((Sh.Cc_tg h55).symm)) (.of rfl)):SubM _ _) (ho:=((.e (i:=0) rfl (by first|rfl|(congr 1;omega)|simp_all) (.of [0,0,0] rfl)):PickO _ _ _)) ((.e (j:=0) rfl (by first|rw [hx9,decide_eq_false hg8]|rw [hy9,decide_eq_false hg8]) (.e (j:=0) rfl (by first|rw [hx9,decide_eq_false hg8]|rw [hy9,decide_eq_false hg8]) (.of [1,2,3] rfl))):SelR _ _ _)
  ·
   rintro ⟨z1,z2,z3,z4⟩ -
   try dsimp only [cw]
   refine zj<|zj<|zc<|e_ru (zd 1 ty46 rfl rfl (.t8 .nil))<|e_mv rfl<|e_ru (zd 0 ty46 rfl rfl (.t8 .nil))<|e_mv rfl<|zW rfl rfl (.c rfl (.c rfl (.c rfl (.c rfl .n)))) ce20 (zWe (u1:=w13) (v1:=w24) (q1:=(ym s cm u v rr h)) (k1:=(decide (yh s cm u v rr h=0))) (u2:=w35) (v2:=w46) (q2:=(yn s cm u v rr h)) (k2:=(decide (yh s cm u v rr h=0))) (u3:=z1) (v3:=z2) (q3:=(ym s cm u v rr h)) (k3:=(decide (yh s cm u v rr h=0))) (u4:=z3) (v4:=z4) (q4:=(yn s cm u v rr h)) (k4:=(decide (yh s cm u v rr h=0))) (e:=yh s cm u v rr h) (co:=(yh s cm u v rr h)) (hec:=by rfl) (hk:=by intro k;exact ⟨decide_eq_true k,decide_eq_true k,decide_eq_true k,decide_eq_true k,rfl,rfl⟩) (hz:=by exact hph1) (hb:=by exact Sh.hb4 (Sh.Cx_hq s cm u v rr h) (Sh.Cx_hq s cm u v rr h))) (.c (j:=2) rfl (.c (j:=3) rfl (.c (j:=0) rfl (.c (j:=1) rfl .n))))<|e_p (zec rfl)<|zk<|zg<|zwa rfl rfl<|zy<|zg<|zDa (X:=Unit) (fun x=>True) (fun x=>[(11,.bool (decide ((s.xa=s.xb∧s.ya=s.yb∧s.za=s.zb)∧(s.qa=s.ra∧s.qb=s.rb∧s.qc=s.rc∧s.qd=s.rd)))),(6,yc yd (yh s cm u v rr h)),(5,ye (some ⟨b7,0,none⟩)),(3,ye (some ⟨b2,0,none⟩))]) (fun x=>[boxA b7 46 (cw [w13,w24,w35,w46]),boxA b2 39 [yc yd (cm.fo),yc yd (cm.cx),yc yd (cm.cy),yc yd u,yc yd v,yc yd rr,yc yd h]]) (fun x=>[qF (decide (yh s cm u v rr h=0)) w13 w24 (ym s cm u v rr h),qF (decide (yh s cm u v rr h=0)) w35 w46 (yn s cm u v rr h),sgF]) ?_ ?_
   ·
    refine zc<|e_p (zf yk rfl sz27 rfl rfl)<|e_p (zf yl rfl sz23 rfl rfl)<|e_ru (zd 3 ty23 rfl rfl (.s2 (.skip (.t2 (.take .nil)))))<|e_p (zf yk rfl sz27 rfl rfl)<|e_p (zf yl rfl sz23 rfl rfl)<|e_ru (zd 3 ty23 rfl rfl (.s8 (.s2 (.skip (.t2 (.take .nil))))))<|e_p (zZa (p:=s.xa=s.xb∧s.ya=s.yb∧s.za=s.zb) kr rfl rfl (zYa Tryz.underlying23 kr (zta dd ty3 rfl rfl (zsa yi) (zta dd ty3 rfl rfl (zsa yi) (zta dd ty3 rfl rfl (zsa yi) zGb)))) (by simp [Bool.decide_and]))<|zka rfl rfl (zla rfl) (fun h23=> ?_) (fun h23=> ?_)
    ·
     refine e_p (zf yk rfl sz27 rfl rfl)<|e_p (zf yl rfl sz25 rfl rfl)<|e_ru (zd 3 ty25 rfl rfl (.s4 (.s2 (.t4 .nil))))<|e_p (zf yk rfl sz27 rfl rfl)<|e_p (zf yl rfl sz25 rfl rfl)<|e_ru (zd 3 ty25 rfl rfl (.s8 (.s4 (.s2 (.t4 .nil)))))<|e_p (zZa (p:=s.qa=s.ra∧s.qb=s.rb∧s.qc=s.rc∧s.qd=s.rd) kr rfl rfl (zYa Tryz.underlying25 kr (zta dd ty3 rfl rfl (zsa yi) (zta dd ty3 rfl rfl (zsa yi) (zta dd ty3 rfl rfl (zsa yi) (zta dd ty3 rfl rfl (zsa yi) zGb))))) (by simp [Bool.decide_and]))<|e_p (zK rfl rfl)<|e_p (zi rfl)<|zk ?_
     exact zga () (show True from by first|trivial|omega|simp_all) ((.e rfl (congrArg Value.bool cbu) (.of rfl)):SubM _ _) (ho:=((.of [1,1] rfl):PickO _ _ _)) ((.of [2,3,4] rfl):SelR _ _ _)
    ·
     refine e_no<|e_no<|e_no<|e_no<|e_no<|e_no<|e_no<|e_p (zK rfl rfl)<|e_p (zi rfl)<|zk ?_
     exact zga () (show True from by first|trivial|omega|simp_all) ((.e rfl (congrArg Value.bool cbu) (.of rfl)):SubM _ _) (ho:=((.of [1,1] rfl):PickO _ _ _)) ((.of [2,3,4] rfl):SelR _ _ _)
   ·
    rintro ⟨⟩ -
    try dsimp only [cw]
    refine zDa (X:=Unit) (fun x=>True) (fun x=>[(4,.bool true)]) (fun x=>[]) (fun x=>[sgF]) ?_ ?_
    ·
     refine zP (OW:=[]) (O:=[boxA b7 46 (cw [w13,w24,w35,w46]),boxA b2 39 [yc yd (cm.fo),yc yd (cm.cx),yc yd (cm.cy),yc yd u,yc yd v,yc yd rr,yc yd h]]) 100000 mixed (.then .ret) kr<|e_dm 0 rfl rfl rfl<|e_pv 1 rfl rfl (zDb rfl rfl)<|zEc 2 rfl rfl kr kr rfl rfl (zla rfl) (fun hA=> ?_) (fun hA=> ?_)
     ·
      refine e_skip 3 rfl rfl<|e_skip 4 rfl rfl<|e_skip 5 rfl rfl<|e_skip 6 rfl rfl<|e_skip 7 rfl rfl<|e_skip 8 rfl rfl<|e_skip 9 rfl rfl<|e_skip 10 rfl rfl<|e_skip 11 rfl rfl<|e_skip 12 rfl rfl<|e_skip 13 rfl rfl<|e_pv 14 rfl rfl (zK rfl rfl)<|e_dm 15 rfl rfl rfl<|e_skip 16 rfl rfl<|e_skip 17 rfl rfl<|e_skip 18 rfl rfl<|e_skip 19 rfl rfl<|e_skip 20 rfl rfl<|e_skip 21 rfl rfl<|e_skip 22 rfl rfl<|e_skip 23 rfl rfl<|e_skip 24 rfl rfl<|e_skip 25 rfl rfl<|e_skip 26 rfl rfl<|e_pv 27 rfl rfl (zK rfl rfl)<|e_pv 28 rfl rfl (zi rfl)<|zN kr ?_
      exact zga () (show True from by first|trivial|omega|simp_all) ((.c rfl .n):SubM _ _) (ho:=(.n:PickO _ _ _)) ((.c (j:=2) rfl .n):SelR _ _ _)
     ·
      refine e_dm 3 rfl rfl rfl<|e_pv 4 rfl rfl (zTa rfl)<|zEc 5 rfl rfl kr kr rfl rfl (zla rfl) (fun hB=> ?_) (fun hB=> ?_)
      ·
       refine e_pv 6 rfl rfl (zf yf rfl sz35 rfl rfl)<|e_pv 7 rfl rfl (zf yg rfl sz3 rfl rfl)<|e_u 8 rfl rfl (ze 1 ty3 rfl rfl rfl)<|e_pv 10 rfl rfl (zf yf rfl sz3 rfl rfl)<|e_u 11 rfl rfl (ze 1 ty3 rfl rfl rfl)<|e_one 9 (zCa rfl rfl rfl rfl (.c rfl .n) ce16 (zZb (v:=v) (h64v:=ass)) (.n) ?_)
       refine e_pv 12 rfl rfl (zDb rfl rfl)<|e_pv 13 rfl rfl (zK rfl rfl)<|e_pv 14 rfl rfl (zK rfl rfl)<|zEc 15 rfl rfl kr kr rfl rfl (zla rfl) (fun hD=> ?_) (fun hD=> ?_)
       ·
        refine e_skip 16 rfl rfl<|e_skip 17 rfl rfl<|e_skip 18 rfl rfl<|e_skip 19 rfl rfl<|e_skip 20 rfl rfl<|e_skip 21 rfl rfl<|e_skip 22 rfl rfl<|e_skip 23 rfl rfl<|e_skip 24 rfl rfl<|e_skip 25 rfl rfl<|e_skip 26 rfl rfl<|e_pv 27 rfl rfl (zK rfl rfl)<|e_pv 28 rfl rfl (zi rfl)<|zN kr ?_
        exact zga () (show True from by first|trivial|omega|simp_all) ((.c rfl .n):SubM _ _) (ho:=(.n:PickO _ _ _)) ((.c (j:=2) rfl .n):SelR _ _ _)
       ·
        have hC0:=Decidable.not_not.1 hA
        have e24:(decide (yh s cm u v rr h=0))=true:=by exact decide_eq_true hC0
        rw [e24]
        have e25:(ym s cm u v rr h:Rat)=((u:Int):Rat):=by first|exact (Sh.Csame hC0 (Decidable.not_not.1 hD)).1|exact (Sh.Crest hC0 (Decidable.not_not.1 hB)).1
        rw [e25]
        have e26:(yn s cm u v rr h:Rat)=((v:Int):Rat):=by first|exact (Sh.Csame hC0 (Decidable.not_not.1 hD)).2|exact (Sh.Crest hC0 (Decidable.not_not.1 hB)).2
        rw [e26]
        refine e_u 16 rfl rfl (zd 0 ty46 rfl rfl (.t8 .nil))<|e_pv 17 rfl rfl (zf yf rfl sz35 rfl rfl)<|e_pv 18 rfl rfl (zf yg rfl sz3 rfl rfl)<|e_u 19 rfl rfl (ze 1 ty3 rfl rfl rfl)<|e_pv 21 rfl rfl (zf yf rfl sz35 rfl rfl)<|e_pv 22 rfl rfl (zf yg rfl sz3 rfl rfl)<|e_u 23 rfl rfl (ze 1 ty3 rfl rfl rfl)<|e_one 20 (zm rfl rfl rfl rfl (.c rfl .n) ce22 (zja (z:=u) (hz:=ass)) (.n) ?_)
        rintro ⟨w327,w428⟩ -
        dsimp only [aq,nq,cq]
        refine e_one 24 (zm rfl rfl rfl rfl (.c rfl .n) ce22 (zja (z:=v) (hz:=ass)) (.n) ?_)
        rintro ⟨w329,w430⟩ -
        dsimp only [aq,nq,cq]
        refine e_pv 25 rfl rfl (zt zr46 rfl yo (.c sz44 (.c sz44 .n)) (.c rfl (.c rfl .n)) (.c rfl rfl rfl (.t4 .nil) (.c rfl rfl rfl (.s4 (.t4 .nil)) .n)))<|e_one 26 (zCa rfl rfl rfl rfl (.c rfl (.c rfl .n)) ce21 (zzb (u1:=w13) (v1:=w24) (q1:=((u:Int):Rat)) (u2:=w35) (v2:=w46) (q2:=((v:Int):Rat)) (u3:=w327) (v3:=w428) (q3:=((u:Int):Rat)) (u4:=w329) (v4:=w430) (q4:=((v:Int):Rat)) (hl1:=by exact Sh.hqX) (hl2:=by exact Sh.hqX)) (.c (j:=2) rfl (.c (j:=3) rfl (.c (j:=1) rfl (.c (j:=0) rfl .n)))) ?_)
        rw [show (decide (((u:Int):Rat)=((u:Int):Rat)∧((v:Int):Rat)=((v:Int):Rat)))=true from by exact decide_eq_true ⟨rfl,rfl⟩]
        refine e_pv 27 rfl rfl (zK rfl rfl)<|e_pv 28 rfl rfl (zi rfl)<|zN kr ?_
        exact zga () (show True from by first|trivial|omega|simp_all) ((.c rfl .n):SubM _ _) (ho:=(.n:PickO _ _ _)) ((.c (j:=4) rfl .n):SelR _ _ _)
      ·
       refine e_skip 6 rfl rfl<|e_skip 7 rfl rfl<|e_skip 8 rfl rfl<|e_skip 9 rfl rfl<|e_skip 10 rfl rfl<|e_skip 11 rfl rfl<|e_skip 12 rfl rfl<|e_pv 13 rfl rfl (zK rfl rfl)<|e_pv 14 rfl rfl (zK rfl rfl)<|e_dm 15 rfl rfl rfl ?_
       have hC0:=Decidable.not_not.1 hA
       have e31:(decide (yh s cm u v rr h=0))=true:=by exact decide_eq_true hC0
       rw [e31]
       have e32:(ym s cm u v rr h:Rat)=((u:Int):Rat):=by first|exact (Sh.Csame hC0 (Decidable.not_not.1 hD)).1|exact (Sh.Crest hC0 (Decidable.not_not.1 hB)).1
       rw [e32]
       have e33:(yn s cm u v rr h:Rat)=((v:Int):Rat):=by first|exact (Sh.Csame hC0 (Decidable.not_not.1 hD)).2|exact (Sh.Crest hC0 (Decidable.not_not.1 hB)).2
       rw [e33]
       refine e_u 16 rfl rfl (zd 0 ty46 rfl rfl (.t8 .nil))<|e_pv 17 rfl rfl (zf yf rfl sz35 rfl rfl)<|e_pv 18 rfl rfl (zf yg rfl sz3 rfl rfl)<|e_u 19 rfl rfl (ze 1 ty3 rfl rfl rfl)<|e_pv 21 rfl rfl (zf yf rfl sz35 rfl rfl)<|e_pv 22 rfl rfl (zf yg rfl sz3 rfl rfl)<|e_u 23 rfl rfl (ze 1 ty3 rfl rfl rfl)<|e_one 20 (zm rfl rfl rfl rfl (.c rfl .n) ce22 (zja (z:=u) (hz:=ass)) (.n) ?_)
       rintro ⟨w334,w435⟩ -
       dsimp only [aq,nq,cq]
       refine e_one 24 (zm rfl rfl rfl rfl (.c rfl .n) ce22 (zja (z:=v) (hz:=ass)) (.n) ?_)
       rintro ⟨w336,w437⟩ -
       dsimp only [aq,nq,cq]
       refine e_pv 25 rfl rfl (zt zr46 rfl yo (.c sz44 (.c sz44 .n)) (.c rfl (.c rfl .n)) (.c rfl rfl rfl (.t4 .nil) (.c rfl rfl rfl (.s4 (.t4 .nil)) .n)))<|e_one 26 (zCa rfl rfl rfl rfl (.c rfl (.c rfl .n)) ce21 (zzb (u1:=w13) (v1:=w24) (q1:=((u:Int):Rat)) (u2:=w35) (v2:=w46) (q2:=((v:Int):Rat)) (u3:=w334) (v3:=w435) (q3:=((u:Int):Rat)) (u4:=w336) (v4:=w437) (q4:=((v:Int):Rat)) (hl1:=by exact Sh.hqX) (hl2:=by exact Sh.hqX)) (.c (j:=2) rfl (.c (j:=3) rfl (.c (j:=1) rfl (.c (j:=0) rfl .n)))) ?_)
       rw [show (decide (((u:Int):Rat)=((u:Int):Rat)∧((v:Int):Rat)=((v:Int):Rat)))=true from by exact decide_eq_true ⟨rfl,rfl⟩]
       refine e_pv 27 rfl rfl (zK rfl rfl)<|e_pv 28 rfl rfl (zi rfl)<|zN kr ?_
       exact zga () (show True from by first|trivial|omega|simp_all) ((.c rfl .n):SubM _ _) (ho:=(.n:PickO _ _ _)) ((.c (j:=4) rfl .n):SelR _ _ _)
    ·
     rintro ⟨⟩ -
     try dsimp only
     refine zS ?_
     exact zM Tryz.results4 () trivial (zD rfl) rfl (ho:=(.n:PickO _ _ _)) (.n:SelR _ _ _)
end Go.Proofs.YtjeahiahjgifgaaGreatDoor.Sp
