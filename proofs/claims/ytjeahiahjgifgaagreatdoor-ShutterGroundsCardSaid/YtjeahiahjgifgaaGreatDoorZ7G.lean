/- Lemmas on the walk and plain lemmas that the claim of this folder uses; each states its own conditions. Lines were printed by a program of ours. -/
import Derived.Test.YtjeahiahjgifgaaGreatDoorZ7F
set_option linter.unusedVariables false
set_option linter.unusedSimpArgs false
set_option linter.unusedSectionVars false
open Go.Value renaming int → yc, pointer → ye
open Go.IntKind renaming i64 → yd
open Go.Proofs.Tryz renaming underlying39 → yf, underlying35 → yj, underlying51 → yl
open Go.Proofs.YtjeahiahjgifgaaGreatDoor.Sh renaming Gx → yg, Gy → yh, Gc → yi, ro → yk
namespace Go.Proofs.YtjeahiahjgifgaaGreatDoor.Sp
open Go
set_option linter.unusedVariables false
set_option maxRecDepth 100000
set_option maxHeartbeats 8000000
theorem zHc {s:Sh.S} {cm:Sh.C} {u:Int} {v:Int} {rr:Int} {h:Int} (hfi: -9223372036854775808≤s.fi∧s.fi≤9223372036854775807) (hst: -9223372036854775808≤s.st∧s.st≤9223372036854775807) (hta: -9223372036854775808≤s.ta∧s.ta≤9223372036854775807) (htb: -9223372036854775808≤s.tb∧s.tb≤9223372036854775807) (hxa: -9223372036854775808≤s.xa∧s.xa≤9223372036854775807) (hya: -9223372036854775808≤s.ya∧s.ya≤9223372036854775807) (hza: -9223372036854775808≤s.za∧s.za≤9223372036854775807) (hqa: -9223372036854775808≤s.qa∧s.qa≤9223372036854775807) (hqb: -9223372036854775808≤s.qb∧s.qb≤9223372036854775807) (hqc: -9223372036854775808≤s.qc∧s.qc≤9223372036854775807) (hqd: -9223372036854775808≤s.qd∧s.qd≤9223372036854775807) (hxb: -9223372036854775808≤s.xb∧s.xb≤9223372036854775807) (hyb: -9223372036854775808≤s.yb∧s.yb≤9223372036854775807) (hzb: -9223372036854775808≤s.zb∧s.zb≤9223372036854775807) (hra: -9223372036854775808≤s.ra∧s.ra≤9223372036854775807) (hrb: -9223372036854775808≤s.rb∧s.rb≤9223372036854775807) (hrc: -9223372036854775808≤s.rc∧s.rc≤9223372036854775807) (hrd: -9223372036854775808≤s.rd∧s.rd≤9223372036854775807) (h64fo: -9223372036854775808≤cm.fo∧cm.fo≤9223372036854775807) (h64cx: -9223372036854775808≤cm.cx∧cm.cx≤9223372036854775807) (h64cy: -9223372036854775808≤cm.cy∧cm.cy≤9223372036854775807) (h64u: -9223372036854775808≤u∧u≤9223372036854775807) (h64v: -9223372036854775808≤v∧v≤9223372036854775807) (h64rr: -9223372036854775808≤rr∧rr≤9223372036854775807) (h64h: -9223372036854775808≤h∧h≤9223372036854775807):Con Tryz.prog 7 [.agg #[yc yd (s.fi),yc yd (s.st),yc yd (s.ta),yc yd (s.xa),yc yd (s.ya),yc yd (s.za),yc yd (s.qa),yc yd (s.qb),yc yd (s.qc),yc yd (s.qd),yc yd (s.tb),yc yd (s.xb),yc yd (s.yb),yc yd (s.zb),yc yd (s.ra),yc yd (s.rb),yc yd (s.rc),yc yd (s.rd)],.agg #[yc yd (cm.fo),yc yd (cm.cx),yc yd (cm.cy),yc yd u,yc yd v,yc yd rr,yc yd h]] [] [sgF] (Y:=Unit) (fun y=>True) (fun y=> .bool true) (fun y=>[]) (fun y=>[]):=by
 refine zw Tryz.func7 rfl rfl rfl (fun c=> ?_)
 show RunC _ _ _ _ _ [(0,.agg #[yc yd (s.fi),yc yd (s.st),yc yd (s.ta),yc yd (s.xa),yc yd (s.ya),yc yd (s.za),yc yd (s.qa),yc yd (s.qb),yc yd (s.qc),yc yd (s.qd),yc yd (s.tb),yc yd (s.xb),yc yd (s.yb),yc yd (s.zb),yc yd (s.ra),yc yd (s.rb),yc yd (s.rc),yc yd (s.rd)]),(1,.agg #[yc yd (cm.fo),yc yd (cm.cx),yc yd (cm.cy),yc yd u,yc yd v,yc yd rr,yc yd h])] [] [sgF]
 have hro:=Sh.ro_b h64v
 refine zj<|zc<|zG rfl rfl (zZ rfl rfl) (fun b1=> ?_)
 refine zG rfl rfl (zZ rfl rfl) (fun b2=> ?_)
 refine e_p (zh rfl)<|zk<|zg<|zj<|zj<|zc<|zU rfl rfl (.n) ce11 (zAf) (.c (j:=0) rfl .n)<|e_p (zZb rfl)<|zk<|zg<|zva rfl rfl<|zx<|zg<|zj<|zc<|e_ru (zd 1 ty29 rfl rfl (.t8 (.t8 (.t2 .nil))))<|e_p (zf yf rfl sz37 rfl rfl)<|e_ru (zd 0 ty37 rfl rfl (.t2 (.take .nil)))<|e_p (zf yf rfl sz35 rfl rfl)<|e_ru (zd 0 ty35 rfl rfl (.s2 (.skip (.t2 .nil))))<|e_p (zf yf rfl sz3 rfl rfl)<|e_ru (ze 0 ty3 rfl rfl rfl)<|zH rfl rfl (.c rfl (.c rfl (.c rfl (.c rfl .n)))) ce24 (zOc (s:=s) (cm:=cm) (u:=u) (v:=v) (h:=h) (hfi:=ass) (hst:=ass) (hta:=ass) (htb:=ass) (hxa:=ass) (hya:=ass) (hza:=ass) (hqa:=ass) (hqb:=ass) (hqc:=ass) (hqd:=ass) (hxb:=ass) (hyb:=ass) (hzb:=ass) (hra:=ass) (hrb:=ass) (hrc:=ass) (hrd:=ass) (h64fo:=ass) (h64cx:=ass) (h64cy:=ass) (h64u:=ass) (h64v:=ass) (h64h:=ass)) (.c (j:=0) rfl .n) ?_
 rintro ⟨w13,w24,w35,w46⟩ hph1
 dsimp only [aq,nq,cq]
 replace hph1:yi s cm u v h≠0→w13=wz∧w24=wz∧w35=wz∧w46=wz:=hph1
 refine e_mv rfl<|e_p (zy rfl rfl)<|e_p (zy rfl rfl)<|zG rfl rfl (zn zr46 rfl) (fun b7=> ?_)
 refine zl 0 rfl rfl rfl rfl rfl sz46 rfl (.t8 .nil) .z<|e_p (zh rfl)<|zk<|zg<|zj<|zc<|e_ru (zd 2 ty29 rfl rfl (.t8 (.t8 (.t2 .nil))))<|zU rfl rfl (.c rfl (.c rfl .n)) ce13 (zbf (s:=s) (n:=1) (hfi:=ass) (hst:=ass) (hta:=ass) (htb:=ass) (hxa:=ass) (hya:=ass) (hza:=ass) (hqa:=ass) (hqb:=ass) (hqc:=ass) (hqd:=ass) (hxb:=ass) (hyb:=ass) (hzb:=ass) (hra:=ass) (hrb:=ass) (hrc:=ass) (hrd:=ass)) (.n)<|e_p (zh rfl)<|zk<|zg<|zDa (X:=Unit) (fun x=>True) (fun x=>[(7,yc yd (Sh.tg s (Sh.cp cm u v h))),(6,yc yd (yi s cm u v h)),(5,ye (some ⟨b7,0,none⟩)),(3,ye (some ⟨b2,0,none⟩)),(2,ye (some ⟨b1,0,none⟩))]) (fun x=>[boxA b7 46 (cw [w13,w24,w35,w46]),boxA b2 39 [yc yd (cm.fo),yc yd (cm.cx),yc yd (cm.cy),yc yd u,yc yd v,yc yd rr,yc yd h],boxA b1 29 (cS s)]) (fun x=>[qF (decide (yi s cm u v h=0)) w13 w24 (yg s cm u v h),qF (decide (yi s cm u v h=0)) w35 w46 (yh s cm u v h),sgF]) ?_ ?_
 ·
  refine zDa (X:=Unit) (fun x=>True) (fun x=>[(47,.bool (decide ((Sh.chk s 1=0)∧(¬(Sh.lcam cm ([(yk v)]) ([u,v,h])))))),(7,yc yd (Sh.chk s 1)),(6,yc yd (yi s cm u v h)),(5,ye (some ⟨b7,0,none⟩)),(3,ye (some ⟨b2,0,none⟩)),(2,ye (some ⟨b1,0,none⟩))]) (fun x=>[boxA b7 46 (cw [w13,w24,w35,w46]),boxA b2 39 [yc yd (cm.fo),yc yd (cm.cx),yc yd (cm.cy),yc yd u,yc yd v,yc yd rr,yc yd h],boxA b1 29 (cS s)]) (fun x=>[qF (decide (yi s cm u v h=0)) w13 w24 (yg s cm u v h),qF (decide (yi s cm u v h=0)) w35 w46 (yh s cm u v h),sgF]) ?_ ?_
  ·
   refine zQ (OW:=[]) (O:=[boxA b7 46 (cw [w13,w24,w35,w46]),boxA b2 39 [yc yd (cm.fo),yc yd (cm.cx),yc yd (cm.cy),yc yd u,yc yd v,yc yd rr,yc yd h],boxA b1 29 (cS s)]) 100000 mixed (.then (.then .ret)) kr<|e_dm 0 rfl rfl rfl<|e_pv 1 rfl rfl (zOa rfl rfl)<|zGe 2 rfl rfl kr kr rfl rfl (zka rfl) (fun h8=> ?_) (fun h8=> ?_)
   ·
    refine e_pv 3 rfl rfl (zf yf rfl sz37 rfl rfl)<|e_u 4 rfl rfl (zd 1 ty37 rfl rfl (.t2 (.take .nil)))<|e_pv 5 rfl rfl (zf yf rfl sz35 rfl rfl)<|e_pv 6 rfl rfl (zf yj rfl sz3 rfl rfl)<|e_u 7 rfl rfl (ze 1 ty3 rfl rfl rfl)<|e_pv 10 rfl rfl (zf yf rfl sz35 rfl rfl)<|e_pv 11 rfl rfl (zf yj rfl sz3 rfl rfl)<|e_u 12 rfl rfl (ze 1 ty3 rfl rfl rfl)<|e_pv 13 rfl rfl (zf yf rfl sz35 rfl rfl)<|e_pv 14 rfl rfl (zf yj rfl sz3 rfl rfl)<|e_u 15 rfl rfl (ze 1 ty3 rfl rfl rfl)<|e_pv 16 rfl rfl (zf yf rfl sz3 rfl rfl)<|e_u 17 rfl rfl (ze 1 ty3 rfl rfl rfl)<|zEb (m':=[(43,yc yd h),(41,yc yd v),(38,yc yd u),(33,yc yd v),(30,.agg #[yc yd (cm.fo),yc yd (cm.cx),yc yd (cm.cy)]),(28,.bool true),(7,yc yd (Sh.chk s 1)),(6,yc yd (yi s cm u v h)),(5,ye (some ⟨b7,0,none⟩)),(3,ye (some ⟨b2,0,none⟩)),(2,ye (some ⟨b1,0,none⟩))]) (R':=[qF (decide (yi s cm u v h=0)) w13 w24 (yg s cm u v h),qF (decide (yi s cm u v h=0)) w35 w46 (yh s cm u v h),sgF]) ((.of rfl):SubM _ _) (List.Perm.refl _) (List.Perm.refl _) ((.of [0,1,2] rfl):SelR _ _ _)<|zY (X:=Nat×Nat) (k':=0) (L':=(lb 22 4194303)) (fun (u9_1,u18_1)=>([(47,.bool (decide (¬(Sh.lcam cm ([(yk v)]) ([u,v,h]))))),(7,yc yd (Sh.chk s 1)),(6,yc yd (yi s cm u v h)),(5,ye (some ⟨b7,0,none⟩)),(3,ye (some ⟨b2,0,none⟩)),(2,ye (some ⟨b1,0,none⟩))],[],[emA,emA,boxA b7 46 (cw [w13,w24,w35,w46]),boxA b2 39 [yc yd (cm.fo),yc yd (cm.cx),yc yd (cm.cy),yc yd u,yc yd v,yc yd rr,yc yd h],boxA b1 29 (cS s)],[slF (rI .i64) (some ⟨u18_1,0,none⟩) 3 ([u,v,h]),slF (rI .i64) (some ⟨u9_1,0,none⟩) 1 ([(yk v)]),qF (decide (yi s cm u v h=0)) w13 w24 (yg s cm u v h),qF (decide (yi s cm u v h=0)) w35 w46 (yh s cm u v h),sgF])) ?_ (fun hD0=> ?_)
    ·
     rintro ⟨u9_1,u18_1⟩
     dsimp only [cw,cS]
     refine zP kr ?_
     exact zha () (show True from by first|trivial|omega|simp_all) ((.e rfl (congrArg Value.bool cbu) (.of rfl)):SubM _ _) (ho:=((.of [2,2,2] rfl):PickO _ _ _)) ((.of [2,3,4] rfl):SelR _ _ _)
    refine zY (X:=Nat×Nat) (k':=3) (L':=(lb 22 524287)) (fun (u9_1,u18_1)=>([(44,.slice (some ⟨u18_1,0,none⟩) 3 3),(35,.slice (some ⟨u9_1,0,none⟩) 1 1),(30,.agg #[yc yd (cm.fo),yc yd (cm.cx),yc yd (cm.cy)]),(28,.bool true),(7,yc yd (Sh.chk s 1)),(6,yc yd (yi s cm u v h)),(5,ye (some ⟨b7,0,none⟩)),(3,ye (some ⟨b2,0,none⟩)),(2,ye (some ⟨b1,0,none⟩))],[],[emA,emA,boxA b7 46 (cw [w13,w24,w35,w46]),boxA b2 39 [yc yd (cm.fo),yc yd (cm.cx),yc yd (cm.cy),yc yd u,yc yd v,yc yd rr,yc yd h],boxA b1 29 (cS s)],[slF (rI .i64) (some ⟨u18_1,0,none⟩) 3 ([u,v,h]),slF (rI .i64) (some ⟨u9_1,0,none⟩) 1 ([(yk v)]),qF (decide (yi s cm u v h=0)) w13 w24 (yg s cm u v h),qF (decide (yi s cm u v h=0)) w35 w46 (yh s cm u v h),sgF])) ?_ (fun hD1=> ?_)
    ·
     rintro ⟨u9_1,u18_1⟩
     dsimp only [cw,cS]
     refine zxa 19 kr ?_
     ·
      refine zCa rfl rfl rfl rfl (.c rfl (.c rfl (.c rfl .n))) ce15 (zCe (cm:=cm) (p1:=some ⟨u9_1,0,none⟩) (n1:=1) (c1:=1) (lr:=[(yk v)]) (p2:=some ⟨u18_1,0,none⟩) (n2:=3) (c2:=3) (ll:=[u,v,h]) (h64fo:=ass) (h64cx:=ass) (h64cy:=ass) (hn1:=cbd) (hn2:=cbd)) (.c (j:=1) rfl (.c (j:=0) rfl .n))<|e_pv 20 rfl rfl (zLa rfl)<|e_pv 21 rfl rfl (zL rfl rfl) ?_
      exact zA (hD0 (u9_1,u18_1)) kr ((.of rfl):SubM _ _) .rfl .rfl ((.of [0,1,2,3,4] rfl):SelR _ _ _)
    refine zY (X:=Nat) (k':=4) (L':=(lb 22 262143)) (fun u9_1=>([(35,.slice (some ⟨u9_1,0,none⟩) 1 1),(43,yc yd h),(41,yc yd v),(38,yc yd u),(30,.agg #[yc yd (cm.fo),yc yd (cm.cx),yc yd (cm.cy)]),(28,.bool true),(7,yc yd (Sh.chk s 1)),(6,yc yd (yi s cm u v h)),(5,ye (some ⟨b7,0,none⟩)),(3,ye (some ⟨b2,0,none⟩)),(2,ye (some ⟨b1,0,none⟩))],[],[emA,boxA b7 46 (cw [w13,w24,w35,w46]),boxA b2 39 [yc yd (cm.fo),yc yd (cm.cx),yc yd (cm.cy),yc yd u,yc yd v,yc yd rr,yc yd h],boxA b1 29 (cS s)],[slF (rI .i64) (some ⟨u9_1,0,none⟩) 1 ([(yk v)]),qF (decide (yi s cm u v h=0)) w13 w24 (yg s cm u v h),qF (decide (yi s cm u v h=0)) w35 w46 (yh s cm u v h),sgF])) ?_ (fun hD2=> ?_)
    ·
     rintro u9_1
     dsimp only [cw,cS]
     refine zxa 18 kr ?_
     ·
      refine zTe rfl rfl rfl rfl (zN (enc:=fun z:Int=>[yc yd z]) (ok:=InK .i64) (h1:=fun _=>rfl) (h2:=fun _=>rfl) (k:=3) yl inf3 rfl dd dd dd (.c (x:=u) rfl rfl (fun _ _=>by exact zq.2 om) (.c (x:=v) rfl rfl (fun _ _=>by exact zq.2 om) (.c (x:=h) rfl rfl (fun _ _=>by exact zq.2 om) .n)))) (fun u18_1 _=> ?_)
      refine zgc 0 rfl .z ?_
      exact zA (hD1 (u9_1,u18_1)) kr ((.of rfl):SubM _ _) .rfl .rfl ((.of [0,1,2,3,4] rfl):SelR _ _ _)
    refine zY (X:=Nat) (k':=4) (L':=(lb 22 523775)) (fun u18_1=>([(44,.slice (some ⟨u18_1,0,none⟩) 3 3),(34,yc yd (yk v)),(30,.agg #[yc yd (cm.fo),yc yd (cm.cx),yc yd (cm.cy)]),(28,.bool true),(7,yc yd (Sh.chk s 1)),(6,yc yd (yi s cm u v h)),(5,ye (some ⟨b7,0,none⟩)),(3,ye (some ⟨b2,0,none⟩)),(2,ye (some ⟨b1,0,none⟩))],[],[emA,boxA b7 46 (cw [w13,w24,w35,w46]),boxA b2 39 [yc yd (cm.fo),yc yd (cm.cx),yc yd (cm.cy),yc yd u,yc yd v,yc yd rr,yc yd h],boxA b1 29 (cS s)],[slF (rI .i64) (some ⟨u18_1,0,none⟩) 3 ([u,v,h]),qF (decide (yi s cm u v h=0)) w13 w24 (yg s cm u v h),qF (decide (yi s cm u v h=0)) w35 w46 (yh s cm u v h),sgF])) ?_ (fun hD3=> ?_)
    ·
     rintro u18_1
     dsimp only [cw,cS]
     refine zxa 9 kr ?_
     ·
      refine zTe rfl rfl rfl rfl (zN (enc:=fun z:Int=>[yc yd z]) (ok:=InK .i64) (h1:=fun _=>rfl) (h2:=fun _=>rfl) (k:=1) yl inf3 rfl dd dd dd (.c (x:=(yk v)) rfl rfl (fun _ _=>by exact zq.2 om) .n)) (fun u9_1 _=> ?_)
      refine zgc 0 rfl .z ?_
      exact zA (hD1 (u9_1,u18_1)) kr ((.of rfl):SubM _ _) .rfl .rfl ((.of [1,0,2,3,4] rfl):SelR _ _ _)
    refine zY (X:=Unit) (k':=5) (L':=(lb 22 261631)) (fun _=>([(34,yc yd (yk v)),(43,yc yd h),(41,yc yd v),(38,yc yd u),(30,.agg #[yc yd (cm.fo),yc yd (cm.cx),yc yd (cm.cy)]),(28,.bool true),(7,yc yd (Sh.chk s 1)),(6,yc yd (yi s cm u v h)),(5,ye (some ⟨b7,0,none⟩)),(3,ye (some ⟨b2,0,none⟩)),(2,ye (some ⟨b1,0,none⟩))],[],[boxA b7 46 (cw [w13,w24,w35,w46]),boxA b2 39 [yc yd (cm.fo),yc yd (cm.cx),yc yd (cm.cy),yc yd u,yc yd v,yc yd rr,yc yd h],boxA b1 29 (cS s)],[qF (decide (yi s cm u v h=0)) w13 w24 (yg s cm u v h),qF (decide (yi s cm u v h=0)) w35 w46 (yh s cm u v h),sgF])) ?_ (fun hD4=> ?_)
    ·
     rintro ⟨⟩
     dsimp only [cw,cS]
     refine zXa 9 18 kr ?_ ?_
     ·
      refine zTe rfl rfl rfl rfl (zN (enc:=fun z:Int=>[yc yd z]) (ok:=InK .i64) (h1:=fun _=>rfl) (h2:=fun _=>rfl) (k:=1) yl inf3 rfl dd dd dd (.c (x:=(yk v)) rfl rfl (fun _ _=>by exact zq.2 om) .n)) (fun u9_1 _=> ?_)
      refine zgc 0 rfl .z ?_
      exact zA (hD2 u9_1) kr ((.of rfl):SubM _ _) .rfl .rfl ((.of [0,1,2,3] rfl):SelR _ _ _)
     ·
      refine zTe rfl rfl rfl rfl (zN (enc:=fun z:Int=>[yc yd z]) (ok:=InK .i64) (h1:=fun _=>rfl) (h2:=fun _=>rfl) (k:=3) yl inf3 rfl dd dd dd (.c (x:=u) rfl rfl (fun _ _=>by exact zq.2 om) (.c (x:=v) rfl rfl (fun _ _=>by exact zq.2 om) (.c (x:=h) rfl rfl (fun _ _=>by exact zq.2 om) .n)))) (fun u18_1 _=> ?_)
      refine zgc 0 rfl .z ?_
      exact zA (hD3 u18_1) kr ((.of rfl):SubM _ _) .rfl .rfl ((.of [0,1,2,3] rfl):SelR _ _ _)
    refine zY (X:=Nat) (k':=5) (L':=(lb 22 523519)) (fun u18_1=>([(44,.slice (some ⟨u18_1,0,none⟩) 3 3),(33,yc yd v),(30,.agg #[yc yd (cm.fo),yc yd (cm.cx),yc yd (cm.cy)]),(28,.bool true),(7,yc yd (Sh.chk s 1)),(6,yc yd (yi s cm u v h)),(5,ye (some ⟨b7,0,none⟩)),(3,ye (some ⟨b2,0,none⟩)),(2,ye (some ⟨b1,0,none⟩))],[],[emA,boxA b7 46 (cw [w13,w24,w35,w46]),boxA b2 39 [yc yd (cm.fo),yc yd (cm.cx),yc yd (cm.cy),yc yd u,yc yd v,yc yd rr,yc yd h],boxA b1 29 (cS s)],[slF (rI .i64) (some ⟨u18_1,0,none⟩) 3 ([u,v,h]),qF (decide (yi s cm u v h=0)) w13 w24 (yg s cm u v h),qF (decide (yi s cm u v h=0)) w35 w46 (yh s cm u v h),sgF])) ?_ (fun hD5=> ?_)
    ·
     rintro u18_1
     dsimp only [cw,cS]
     refine zxa 8 kr ?_
     ·
      refine zCa rfl rfl rfl rfl (.c rfl .n) ce16 (zMb (v:=v) (h64v:=ass)) (.n) ?_
      exact zA (hD3 u18_1) kr ((.of rfl):SubM _ _) .rfl .rfl ((.of [0,1,2,3] rfl):SelR _ _ _)
    refine zXa 8 18 kr ?_ ?_
    ·
     refine zCa rfl rfl rfl rfl (.c rfl .n) ce16 (zMb (v:=v) (h64v:=ass)) (.n) ?_
     exact zA (hD4 ()) kr ((.of rfl):SubM _ _) .rfl .rfl ((.of [0,1,2] rfl):SelR _ _ _)
    ·
     refine zTe rfl rfl rfl rfl (zN (enc:=fun z:Int=>[yc yd z]) (ok:=InK .i64) (h1:=fun _=>rfl) (h2:=fun _=>rfl) (k:=3) yl inf3 rfl dd dd dd (.c (x:=u) rfl rfl (fun _ _=>by exact zq.2 om) (.c (x:=v) rfl rfl (fun _ _=>by exact zq.2 om) (.c (x:=h) rfl rfl (fun _ _=>by exact zq.2 om) .n)))) (fun u18_1 _=> ?_)
     refine zgc 0 rfl .z ?_
     exact zA (hD5 u18_1) kr ((.of rfl):SubM _ _) .rfl .rfl ((.of [0,1,2,3] rfl):SelR _ _ _)
   ·
    refine e_skip 3 rfl rfl<|e_skip 4 rfl rfl<|e_skip 5 rfl rfl<|e_skip 6 rfl rfl<|e_skip 7 rfl rfl<|e_skip 8 rfl rfl<|e_skip 9 rfl rfl<|e_skip 10 rfl rfl<|e_skip 11 rfl rfl<|e_skip 12 rfl rfl<|e_skip 13 rfl rfl<|e_skip 14 rfl rfl<|e_skip 15 rfl rfl<|e_skip 16 rfl rfl<|e_skip 17 rfl rfl<|e_skip 18 rfl rfl<|e_skip 19 rfl rfl<|e_skip 20 rfl rfl<|e_pv 21 rfl rfl (zL rfl rfl)<|zP kr ?_
    exact zha () (show True from by first|trivial|omega|simp_all) ((.e rfl (congrArg Value.bool cbu) (.of rfl)):SubM _ _) (ho:=((.of [0,0,0] rfl):PickO _ _ _)) ((.of [0,1,2] rfl):SelR _ _ _)
  ·
   rintro ⟨⟩ -
   try dsimp only [cw]
   refine zT rfl (fun h47=> ?_) (fun h47=> ?_)
   ·
    refine zc<|e_p (zh rfl)<|zk ?_
    exact zha () (show True from by first|trivial|omega|simp_all) ((.e rfl (congrArg (Value.int .i64) (Sh.tg_yes Sh.lcam_g h47)) (.of rfl)):SubM _ _) (ho:=((.of [0,0,0] rfl):PickO _ _ _)) ((.of [0,1,2] rfl):SelR _ _ _)
   ·
    refine zx ?_
    exact zha () (show True from by first|trivial|omega|simp_all) ((.e rfl (congrArg (Value.int .i64) (Sh.tg_no Sh.lcam_g h47)) (.of rfl)):SubM _ _) (ho:=((.of [0,0,0] rfl):PickO _ _ _)) ((.of [0,1,2] rfl):SelR _ _ _)
 ·
  rintro ⟨⟩ -
  try dsimp only [cw]
  refine zj<|zc<|e_p (zu zr46 rfl Tryz.underlying46 (.c sz44 (.c sz44 .n)) .n .n)<|zG rfl rfl (zn zr46 rfl) (fun b9=> ?_)
  refine zl 0 rfl rfl rfl rfl rfl sz46 rfl (.t8 .nil) .z<|zk<|zg<|zDa (X:=Wd×Wd×Wd×Wd) (fun x=>True) (fun x=>[(7,yc yd (yi s cm u v h)),(8,ye (some ⟨b9,0,none⟩)),(6,yc yd (yi s cm u v h)),(5,ye (some ⟨b7,0,none⟩)),(3,ye (some ⟨b2,0,none⟩)),(2,ye (some ⟨b1,0,none⟩))]) (fun x=>[boxA b9 46 (cw [x.1,x.2.1,x.2.2.1,x.2.2.2]),boxA b7 46 (cw [w13,w24,w35,w46]),boxA b2 39 [yc yd (cm.fo),yc yd (cm.cx),yc yd (cm.cy),yc yd u,yc yd v,yc yd rr,yc yd h],boxA b1 29 (cS s)]) (fun x=>[qF (decide (yi s cm u v h=0)) x.1 x.2.1 (yg s cm u v h),qF (decide (yi s cm u v h=0)) x.2.2.1 x.2.2.2 (yh s cm u v h),qF (decide (yi s cm u v h=0)) w13 w24 (yg s cm u v h),qF (decide (yi s cm u v h=0)) w35 w46 (yh s cm u v h),sgF]) ?_ ?_
  ·
   refine zj<|zc<|e_mv rfl<|e_p (zOa rfl rfl)<|zk<|zg<|zT rfl (fun h50=> ?_) (fun h50=> ?_)
   ·
    obtain ⟨hc0,hcp⟩:=Sh.tg_zero h50
    obtain ⟨hok,-,hlt,hnd⟩:=Sh.chk_ok hc0
    refine zc<|e_ru (zd 3 ty29 rfl rfl (.t8 (.t8 (.t2 .nil))))<|e_p (zf yf rfl sz37 rfl rfl)<|e_ru (zd 2 ty37 rfl rfl (.t2 (.take .nil)))<|e_p (zf yf rfl sz35 rfl rfl)<|e_ru (zd 2 ty35 rfl rfl (.s2 (.skip (.t2 .nil))))<|e_p (zf yf rfl sz3 rfl rfl)<|e_ru (ze 2 ty3 rfl rfl rfl)<|zH rfl rfl (.c rfl (.c rfl (.c rfl (.c rfl .n)))) ce17 (zDe (s:=s) (cm:=cm) (u:=u) (v:=v) (h:=h) (hok:=by exact hok) (hlt:=by exact hlt) (hc:=by exact hcp.1) (hu:=by exact hcp.2.1) (hv:=by exact hcp.2.2.1) (hh:=by exact hcp.2.2.2.1) (hr:=by exact hcp.2.2.2.2)) (.n) ?_
    rintro ⟨w110,w211,w312,w413⟩ hy14
    dsimp only [aq,nq,cq]
    replace hy14:Sh.gc s cm u v h≠0→w110=wz∧w211=wz∧w312=wz∧w413=wz:=hy14
    refine e_mv rfl<|e_p (zy rfl rfl)<|e_p (zy rfl rfl)<|zl 0 rfl rfl rfl rfl rfl sz46 rfl (.t8 .nil) .z<|e_p (zh rfl)<|zk ?_
    have hg9:(yi s cm u v h)=(Sh.gc s cm u v h):=(if_pos hc0).trans (if_pos hcp)
    have hx9:(yg s cm u v h)=(Sh.gx s cm u v h):=by by_cases k:(Sh.gc s cm u v h)=0;rw [show (yg s cm u v h)=(Sh.gx s cm u v h) from if_pos (hg9.trans k)];(rw [show (yg s cm u v h)=0 from if_neg (fun e=>k (hg9.symm.trans e)),show (Sh.gx s cm u v h)=0 from if_neg k])
    have hy9:(yh s cm u v h)=(Sh.gy s cm u v h):=by by_cases k:(Sh.gc s cm u v h)=0;rw [show (yh s cm u v h)=(Sh.gy s cm u v h) from if_pos (hg9.trans k)];(rw [show (yh s cm u v h)=0 from if_neg (fun e=>k (hg9.symm.trans e)),show (Sh.gy s cm u v h)=0 from if_neg k])
    exact zha (w110,w211,w312,w413) (show True from by first|trivial|omega|simp_all) ((.e rfl (congrArg (Value.int .i64) (hg9.symm)) (.of rfl)):SubM _ _) (ho:=((.of [0,0,0,0] rfl):PickO _ _ _)) ((.e (j:=0) rfl (by first|rw [hx9,hg9]|rw [hy9,hg9]) (.e (j:=1) rfl (by first|rw [hx9,hg9]|rw [hy9,hg9]) (.of [2,3,4] rfl))):SelR _ _ _)
   ·
    refine zx<|zYa (qF false wz wz 0) (fun g _=>qF_none g) ?_
    have hg8:¬(yi s cm u v h)=0:=by rw [Sh.Gc_tg h50];exact h50
    have hx9:(yg s cm u v h)=0:=if_neg hg8
    have hy9:(yh s cm u v h)=0:=if_neg hg8
    exact zha (wz,wz,wz,wz) (show True from by first|trivial|omega|simp_all) ((.e rfl (congrArg (Value.int .i64) ((Sh.Gc_tg h50).symm)) (.of rfl)):SubM _ _) (ho:=((.e (i:=0) rfl (by first|rfl|(congr 1;omega)|simp_all) (.of [0,0,0] rfl)):PickO _ _ _)) ((.e (j:=0) rfl (by first|rw [hx9,decide_eq_false hg8]|rw [hy9,decide_eq_false hg8]) (.e (j:=0) rfl (by first|rw [hx9,decide_eq_false hg8]|rw [hy9,decide_eq_false hg8]) (.of [1,2,3] rfl))):SelR _ _ _)
  ·
   rintro ⟨z1,z2,z3,z4⟩ -
   try dsimp only [cw]
   refine zj<|zj<|zc<|e_ru (zd 1 ty46 rfl rfl (.t8 .nil))<|e_mv rfl<|e_ru (zd 0 ty46 rfl rfl (.t8 .nil))<|e_mv rfl<|zU rfl rfl (.c rfl (.c rfl (.c rfl (.c rfl .n)))) ce20 (zcf (u1:=w13) (v1:=w24) (q1:=(yg s cm u v h)) (k1:=(decide (yi s cm u v h=0))) (u2:=w35) (v2:=w46) (q2:=(yh s cm u v h)) (k2:=(decide (yi s cm u v h=0))) (u3:=z1) (v3:=z2) (q3:=(yg s cm u v h)) (k3:=(decide (yi s cm u v h=0))) (u4:=z3) (v4:=z4) (q4:=(yh s cm u v h)) (k4:=(decide (yi s cm u v h=0))) (e:=yi s cm u v h) (co:=(yi s cm u v h)) (hec:=by rfl) (hk:=by intro k;exact ⟨decide_eq_true k,decide_eq_true k,decide_eq_true k,decide_eq_true k,rfl,rfl⟩) (hz:=by exact hph1) (hb:=by exact Sh.hb4 (Sh.Gx_hq s cm u v h) (Sh.Gx_hq s cm u v h))) (.c (j:=2) rfl (.c (j:=3) rfl (.c (j:=0) rfl (.c (j:=1) rfl .n))))<|e_p (zZb rfl)<|zk<|zg<|zva rfl rfl<|zx<|zg<|zj<|zj<|zc<|e_mv rfl<|e_p (zCb rfl rfl)<|zk<|zg<|zT rfl (fun hG=> ?_) (fun hG=> ?_)
   ·
    refine zj<|zc<|e_p (zh rfl)<|zk<|zg<|zS<|zt ?_
    exact zM Tryz.results7 () trivial (zD rfl) rfl (ho:=(.n:PickO _ _ _)) (.n:SelR _ _ _)
   ·
    have hG0:=Decidable.not_not.1 hG
    obtain ⟨hc0,hcp,hgz⟩:=Sh.Gc_zero hG0
    have e15:(decide (yi s cm u v h=0))=true:=by exact decide_eq_true hG0
    rw [e15]
    refine zx<|zg<|zj<|zIe (eF w13 w24 (some (yg s cm u v h))) (fun g h=>qF_e (Holds.get 2 rfl h))<|zIe (eF w35 w46 (some (yh s cm u v h))) (fun g h=>qF_e (Holds.get 4 rfl h))<|zQ (OW:=[]) (O:=[boxA b9 46 (cw [z1,z2,z3,z4]),boxA b7 46 (cw [w13,w24,w35,w46]),boxA b2 39 [yc yd (cm.fo),yc yd (cm.cx),yc yd (cm.cy),yc yd u,yc yd v,yc yd rr,yc yd h],boxA b1 29 (cS s)]) 15 mixed (.then .ret) kr<|e_u 0 rfl rfl (zd 3 ty29 rfl rfl (.t8 (.t8 (.t2 .nil))))<|e_pv 1 rfl rfl (zf yf rfl sz37 rfl rfl)<|e_u 2 rfl rfl (zd 2 ty37 rfl rfl (.t2 (.take .nil)))<|e_pv 3 rfl rfl (zf yf rfl sz35 rfl rfl)<|e_pv 4 rfl rfl (zf yj rfl sz3 rfl rfl)<|e_u 5 rfl rfl (ze 2 ty3 rfl rfl rfl)<|e_u 7 rfl rfl (zd 1 ty46 rfl rfl (.t8 .nil))<|e_pv 8 rfl rfl (zf yf rfl sz3 rfl rfl)<|e_u 9 rfl rfl (ze 2 ty3 rfl rfl rfl)<|zEb (m':=[(80,yc yd h),(78,.agg (cw [w13,w24,w35,w46]).toArray),(76,yc yd v),(73,.agg #[yc yd (cm.fo),yc yd (cm.cx),yc yd (cm.cy)]),(71,.agg #[yc yd (s.fi),yc yd (s.st),yc yd (s.ta),yc yd (s.xa),yc yd (s.ya),yc yd (s.za),yc yd (s.qa),yc yd (s.qb),yc yd (s.qc),yc yd (s.qd),yc yd (s.tb),yc yd (s.xb),yc yd (s.yb),yc yd (s.zb),yc yd (s.ra),yc yd (s.rb),yc yd (s.rc),yc yd (s.rd)]),(3,ye (some ⟨b2,0,none⟩))]) (R':=[eF w35 w46 (some (yh s cm u v h)),eF w13 w24 (some (yg s cm u v h)),qF true z1 z2 (yg s cm u v h),qF true z3 z4 (yh s cm u v h),qF true w13 w24 (yg s cm u v h),qF true w35 w46 (yh s cm u v h),sgF]) ((.of rfl):SubM _ _) (List.Perm.refl _) (List.Perm.refl _) ((.of [0,1,2,3,4,5,6] rfl):SelR _ _ _)<|zY (X:=Wd×Wd×Wd×Wd×Nat) (k':=0) (L':=(lb 17 131071)) (fun (u10_1r2,u10_2r2,u10_3r2,u10_4r2,u14_1r2)=>([(10,yc yd (Sh.Ic s cm (yk v) (some (yg s cm u v h)).isSome ((some (yg s cm u v h)).getD 0) (some (yh s cm u v h)).isSome ((some (yh s cm u v h)).getD 0) h)),(9,ye (some ⟨u14_1r2,0,none⟩)),(3,ye (some ⟨b2,0,none⟩))],[boxA u14_1r2 46 (cw [u10_1r2,u10_2r2,u10_3r2,u10_4r2])],[boxA b9 46 (cw [z1,z2,z3,z4]),boxA b7 46 (cw [w13,w24,w35,w46]),boxA b2 39 [yc yd (cm.fo),yc yd (cm.cx),yc yd (cm.cy),yc yd u,yc yd v,yc yd rr,yc yd h],boxA b1 29 (cS s)],[qF (decide (Sh.Ic s cm (yk v) (some (yg s cm u v h)).isSome ((some (yg s cm u v h)).getD 0) (some (yh s cm u v h)).isSome ((some (yh s cm u v h)).getD 0) h=0)) u10_1r2 u10_2r2 (Sh.Ix s cm (yk v) (some (yg s cm u v h)).isSome ((some (yg s cm u v h)).getD 0) (some (yh s cm u v h)).isSome ((some (yh s cm u v h)).getD 0) h),qF (decide (Sh.Ic s cm (yk v) (some (yg s cm u v h)).isSome ((some (yg s cm u v h)).getD 0) (some (yh s cm u v h)).isSome ((some (yh s cm u v h)).getD 0) h=0)) u10_3r2 u10_4r2 (Sh.Iy s cm (yk v) (some (yg s cm u v h)).isSome ((some (yg s cm u v h)).getD 0) (some (yh s cm u v h)).isSome ((some (yh s cm u v h)).getD 0) h),eF w35 w46 (some (yh s cm u v h)),eF w13 w24 (some (yg s cm u v h)),qF true z1 z2 (yg s cm u v h),qF true z3 z4 (yh s cm u v h),qF true w13 w24 (yg s cm u v h),qF true w35 w46 (yh s cm u v h),sgF])) ?_ (fun hD0=> ?_)
    ·
     rintro ⟨u10_1r2,u10_2r2,u10_3r2,u10_4r2,u14_1r2⟩
     dsimp only [cw,cS]
     refine zP kr<|zg<|zj ?_
     have e18:(decide (Sh.Ic s cm (yk v) (some (yg s cm u v h)).isSome ((some (yg s cm u v h)).getD 0) (some (yh s cm u v h)).isSome ((some (yh s cm u v h)).getD 0) h=0))=true:=by exact decide_eq_true (Sh.GI hG0).1
     rw [e18]
     have e19:(Sh.Ix s cm (yk v) (some (yg s cm u v h)).isSome ((some (yg s cm u v h)).getD 0) (some (yh s cm u v h)).isSome ((some (yh s cm u v h)).getD 0) h:Rat)=((u:Int):Rat):=by exact (Sh.GI hG0).2.1
     rw [e19]
     have e20:(Sh.Iy s cm (yk v) (some (yg s cm u v h)).isSome ((some (yg s cm u v h)).getD 0) (some (yh s cm u v h)).isSome ((some (yh s cm u v h)).getD 0) h:Rat)=((v:Int):Rat):=by exact (Sh.GI hG0).2.2
     rw [e20]
     have e21:(Sh.Ic s cm (yk v) (some (yg s cm u v h)).isSome ((some (yg s cm u v h)).getD 0) (some (yh s cm u v h)).isSome ((some (yh s cm u v h)).getD 0) h:Int)=0:=by exact (Sh.GI hG0).1
     rw [e21]
     refine zQ (OW:=[]) (O:=[boxA u14_1r2 46 (cw [u10_1r2,u10_2r2,u10_3r2,u10_4r2]),boxA b9 46 (cw [z1,z2,z3,z4]),boxA b7 46 (cw [w13,w24,w35,w46]),boxA b2 39 [yc yd (cm.fo),yc yd (cm.cx),yc yd (cm.cy),yc yd u,yc yd v,yc yd rr,yc yd h],boxA b1 29 (cS s)]) 100000 mixed (.then .ret) kr<|e_dm 0 rfl rfl rfl<|e_pv 1 rfl rfl (zOa rfl rfl)<|e_dm 2 rfl rfl rfl<|e_u 3 rfl rfl (zd 0 ty46 rfl rfl (.t8 .nil))<|e_pv 4 rfl rfl (zf yf rfl sz35 rfl rfl)<|e_pv 5 rfl rfl (zf yj rfl sz3 rfl rfl)<|e_u 6 rfl rfl (ze 3 ty3 rfl rfl rfl)<|e_pv 8 rfl rfl (zf yf rfl sz35 rfl rfl)<|e_pv 9 rfl rfl (zf yj rfl sz3 rfl rfl)<|e_u 10 rfl rfl (ze 3 ty3 rfl rfl rfl)<|e_one 7 (zm rfl rfl rfl rfl (.c rfl .n) ce22 (zra (z:=u) (hz:=ass)) (.n) ?_)
     rintro ⟨w322,w423⟩ -
     dsimp only [aq,nq,cq]
     refine e_one 11 (zm rfl rfl rfl rfl (.c rfl .n) ce22 (zra (z:=v) (hz:=ass)) (.n) ?_)
     rintro ⟨w324,w425⟩ -
     dsimp only [aq,nq,cq]
     refine e_pv 12 rfl rfl (zu zr46 rfl Tryz.underlying46 (.c sz44 (.c sz44 .n)) (.c rfl (.c rfl .n)) (.c rfl rfl rfl (.t4 .nil) (.c rfl rfl rfl (.s4 (.t4 .nil)) .n)))<|e_one 13 (zCa rfl rfl rfl rfl (.c rfl (.c rfl .n)) ce21 (zFb (u1:=u10_1r2) (v1:=u10_2r2) (q1:=((u:Int):Rat)) (u2:=u10_3r2) (v2:=u10_4r2) (q2:=((v:Int):Rat)) (u3:=w322) (v3:=w423) (q3:=((u:Int):Rat)) (u4:=w324) (v4:=w425) (q4:=((v:Int):Rat)) (hl1:=by exact Sh.hqX) (hl2:=by exact Sh.hqX)) (.c (j:=2) rfl (.c (j:=3) rfl (.c (j:=1) rfl (.c (j:=0) rfl .n)))) ?_)
     rw [show (decide (((u:Int):Rat)=((u:Int):Rat)∧((v:Int):Rat)=((v:Int):Rat)))=true from by exact decide_eq_true ⟨rfl,rfl⟩]
     refine e_pv 14 rfl rfl (zL rfl rfl)<|e_pv 15 rfl rfl (zh rfl)<|zP kr<|zg<|zS ?_
     exact zM Tryz.results7 () trivial (zD rfl) rfl (ho:=(.n:PickO _ _ _)) (.n:SelR _ _ _)
    refine zY (X:=Wd×Wd×Wd×Wd×Nat) (k':=2) (L':=(lb 17 32767)) (fun (u10_1r2,u10_2r2,u10_3r2,u10_4r2,u14_1r2)=>([(9,ye (some ⟨u14_1r2,0,none⟩)),(83,yc yd (Sh.Ic s cm (yk v) (some (yg s cm u v h)).isSome ((some (yg s cm u v h)).getD 0) (some (yh s cm u v h)).isSome ((some (yh s cm u v h)).getD 0) h)),(82,.agg (cw [u10_1r2,u10_2r2,u10_3r2,u10_4r2]).toArray),(3,ye (some ⟨b2,0,none⟩))],[boxA u14_1r2 46 (cw [wz,wz,wz,wz])],[boxA b9 46 (cw [z1,z2,z3,z4]),boxA b7 46 (cw [w13,w24,w35,w46]),boxA b2 39 [yc yd (cm.fo),yc yd (cm.cx),yc yd (cm.cy),yc yd u,yc yd v,yc yd rr,yc yd h],boxA b1 29 (cS s)],[qF (decide (Sh.Ic s cm (yk v) (some (yg s cm u v h)).isSome ((some (yg s cm u v h)).getD 0) (some (yh s cm u v h)).isSome ((some (yh s cm u v h)).getD 0) h=0)) u10_1r2 u10_2r2 (Sh.Ix s cm (yk v) (some (yg s cm u v h)).isSome ((some (yg s cm u v h)).getD 0) (some (yh s cm u v h)).isSome ((some (yh s cm u v h)).getD 0) h),qF (decide (Sh.Ic s cm (yk v) (some (yg s cm u v h)).isSome ((some (yg s cm u v h)).getD 0) (some (yh s cm u v h)).isSome ((some (yh s cm u v h)).getD 0) h=0)) u10_3r2 u10_4r2 (Sh.Iy s cm (yk v) (some (yg s cm u v h)).isSome ((some (yg s cm u v h)).getD 0) (some (yh s cm u v h)).isSome ((some (yh s cm u v h)).getD 0) h),eF w35 w46 (some (yh s cm u v h)),eF w13 w24 (some (yg s cm u v h)),qF true z1 z2 (yg s cm u v h),qF true z3 z4 (yh s cm u v h),qF true w13 w24 (yg s cm u v h),qF true w35 w46 (yh s cm u v h),sgF])) ?_ (fun hD1=> ?_)
    ·
     rintro ⟨u10_1r2,u10_2r2,u10_3r2,u10_4r2,u14_1r2⟩
     dsimp only [cw,cS]
     refine zxa 15 kr ?_
     ·
      refine zp kr rfl rfl rfl rfl rfl sz46 rfl (.t8 .nil)<|e_pv 16 rfl rfl (zh rfl) ?_
      exact zA (hD0 (u10_1r2,u10_2r2,u10_3r2,u10_4r2,u14_1r2)) kr ((.of rfl):SubM _ _) .rfl .rfl ((.of [0,1,2,3,4,5,6,7,8] rfl):SelR _ _ _)
    refine zY (X:=Wd×Wd×Wd×Wd) (k':=3) (L':=(lb 17 16383)) (fun (u10_1r2,u10_2r2,u10_3r2,u10_4r2)=>([(83,yc yd (Sh.Ic s cm (yk v) (some (yg s cm u v h)).isSome ((some (yg s cm u v h)).getD 0) (some (yh s cm u v h)).isSome ((some (yh s cm u v h)).getD 0) h)),(82,.agg (cw [u10_1r2,u10_2r2,u10_3r2,u10_4r2]).toArray),(3,ye (some ⟨b2,0,none⟩))],[],[boxA b9 46 (cw [z1,z2,z3,z4]),boxA b7 46 (cw [w13,w24,w35,w46]),boxA b2 39 [yc yd (cm.fo),yc yd (cm.cx),yc yd (cm.cy),yc yd u,yc yd v,yc yd rr,yc yd h],boxA b1 29 (cS s)],[qF (decide (Sh.Ic s cm (yk v) (some (yg s cm u v h)).isSome ((some (yg s cm u v h)).getD 0) (some (yh s cm u v h)).isSome ((some (yh s cm u v h)).getD 0) h=0)) u10_1r2 u10_2r2 (Sh.Ix s cm (yk v) (some (yg s cm u v h)).isSome ((some (yg s cm u v h)).getD 0) (some (yh s cm u v h)).isSome ((some (yh s cm u v h)).getD 0) h),qF (decide (Sh.Ic s cm (yk v) (some (yg s cm u v h)).isSome ((some (yg s cm u v h)).getD 0) (some (yh s cm u v h)).isSome ((some (yh s cm u v h)).getD 0) h=0)) u10_3r2 u10_4r2 (Sh.Iy s cm (yk v) (some (yg s cm u v h)).isSome ((some (yg s cm u v h)).getD 0) (some (yh s cm u v h)).isSome ((some (yh s cm u v h)).getD 0) h),eF w35 w46 (some (yh s cm u v h)),eF w13 w24 (some (yg s cm u v h)),qF true z1 z2 (yg s cm u v h),qF true z3 z4 (yh s cm u v h),qF true w13 w24 (yg s cm u v h),qF true w35 w46 (yh s cm u v h),sgF])) ?_ (fun hD2=> ?_)
    ·
     rintro ⟨u10_1r2,u10_2r2,u10_3r2,u10_4r2⟩
     dsimp only [cw,cS]
     refine zxa 14 kr ?_
     ·
      refine zoa rfl rfl rfl rfl (zn zr46 rfl) (fun u14_1r2 _=> ?_)
      exact zA (hD1 (u10_1r2,u10_2r2,u10_3r2,u10_4r2,u14_1r2)) kr ((.of rfl):SubM _ _) .rfl .rfl ((.of [0,1,2,3,4,5,6,7,8] rfl):SelR _ _ _)
    refine zY (X:=Nat) (k':=6) (L':=(lb 17 17407)) (fun u14_1r2=>([(9,ye (some ⟨u14_1r2,0,none⟩)),(77,yc yd (yk v)),(80,yc yd h),(78,.agg (cw [w13,w24,w35,w46]).toArray),(73,.agg #[yc yd (cm.fo),yc yd (cm.cx),yc yd (cm.cy)]),(71,.agg #[yc yd (s.fi),yc yd (s.st),yc yd (s.ta),yc yd (s.xa),yc yd (s.ya),yc yd (s.za),yc yd (s.qa),yc yd (s.qb),yc yd (s.qc),yc yd (s.qd),yc yd (s.tb),yc yd (s.xb),yc yd (s.yb),yc yd (s.zb),yc yd (s.ra),yc yd (s.rb),yc yd (s.rc),yc yd (s.rd)]),(3,ye (some ⟨b2,0,none⟩))],[boxA u14_1r2 46 (cw [wz,wz,wz,wz])],[boxA b9 46 (cw [z1,z2,z3,z4]),boxA b7 46 (cw [w13,w24,w35,w46]),boxA b2 39 [yc yd (cm.fo),yc yd (cm.cx),yc yd (cm.cy),yc yd u,yc yd v,yc yd rr,yc yd h],boxA b1 29 (cS s)],[eF w35 w46 (some (yh s cm u v h)),eF w13 w24 (some (yg s cm u v h)),qF true z1 z2 (yg s cm u v h),qF true z3 z4 (yh s cm u v h),qF true w13 w24 (yg s cm u v h),qF true w35 w46 (yh s cm u v h),sgF])) ?_ (fun hD3=> ?_)
    ·
     rintro u14_1r2
     dsimp only [cw,cS]
     refine zxa 10 kr ?_
     ·
      refine zm rfl rfl rfl rfl (.c rfl (.c rfl (.c rfl (.c rfl (.c rfl .n))))) ce29 (zqe (s:=s) (cm:=cm) (r:=(yk v)) (u1:=w13) (v1:=w24) (lx:=(some (yg s cm u v h))) (u2:=w35) (v2:=w46) (ly:=(some (yh s cm u v h))) (h:=h) (hfi:=ass) (hst:=ass) (hta:=ass) (htb:=ass) (hxa:=ass) (hya:=ass) (hza:=ass) (hqa:=ass) (hqb:=ass) (hqc:=ass) (hqd:=ass) (hxb:=ass) (hyb:=ass) (hzb:=ass) (hra:=ass) (hrb:=ass) (hrc:=ass) (hrd:=ass) (h64fo:=ass) (h64cx:=ass) (h64cy:=ass) (h64r:=by have h9:=hcp.2.2.2.2;unfold Sh.inr at h9;omega) (h64h:=ass) (hqx:=by exact (Sh.Gx_hq s cm u v h).1) (hqy:=by exact (Sh.Gx_hq s cm u v h).2)) (.c (j:=6) rfl (.c (j:=1) rfl (.c (j:=0) rfl .n))) ?_
      rintro ⟨u10_1r2,u10_2r2,u10_3r2,u10_4r2⟩ hy26
      dsimp only [aq,nq,cq]
      replace hy26:Sh.Ic s cm (yk v) (some (yg s cm u v h)).isSome ((some (yg s cm u v h)).getD 0) (some (yh s cm u v h)).isSome ((some (yh s cm u v h)).getD 0) h≠0→u10_1r2=wz∧u10_2r2=wz∧u10_3r2=wz∧u10_4r2=wz:=hy26
      refine e_dm 11 rfl rfl rfl<|e_pv 12 rfl rfl (zy rfl rfl)<|e_pv 13 rfl rfl (zy rfl rfl) ?_
      exact zA (hD1 (u10_1r2,u10_2r2,u10_3r2,u10_4r2,u14_1r2)) kr ((.of rfl):SubM _ _) .rfl .rfl ((.of [0,1,2,3,4,5,6,7,8] rfl):SelR _ _ _)
    refine zY (X:=Unit) (k':=7) (L':=(lb 17 1023)) (fun _=>([(77,yc yd (yk v)),(80,yc yd h),(78,.agg (cw [w13,w24,w35,w46]).toArray),(73,.agg #[yc yd (cm.fo),yc yd (cm.cx),yc yd (cm.cy)]),(71,.agg #[yc yd (s.fi),yc yd (s.st),yc yd (s.ta),yc yd (s.xa),yc yd (s.ya),yc yd (s.za),yc yd (s.qa),yc yd (s.qb),yc yd (s.qc),yc yd (s.qd),yc yd (s.tb),yc yd (s.xb),yc yd (s.yb),yc yd (s.zb),yc yd (s.ra),yc yd (s.rb),yc yd (s.rc),yc yd (s.rd)]),(3,ye (some ⟨b2,0,none⟩))],[],[boxA b9 46 (cw [z1,z2,z3,z4]),boxA b7 46 (cw [w13,w24,w35,w46]),boxA b2 39 [yc yd (cm.fo),yc yd (cm.cx),yc yd (cm.cy),yc yd u,yc yd v,yc yd rr,yc yd h],boxA b1 29 (cS s)],[eF w35 w46 (some (yh s cm u v h)),eF w13 w24 (some (yg s cm u v h)),qF true z1 z2 (yg s cm u v h),qF true z3 z4 (yh s cm u v h),qF true w13 w24 (yg s cm u v h),qF true w35 w46 (yh s cm u v h),sgF])) ?_ (fun hD4=> ?_)
    ·
     rintro ⟨⟩
     dsimp only [cw,cS]
     refine zXa 10 14 kr ?_ ?_
     ·
      refine zm rfl rfl rfl rfl (.c rfl (.c rfl (.c rfl (.c rfl (.c rfl .n))))) ce29 (zqe (s:=s) (cm:=cm) (r:=(yk v)) (u1:=w13) (v1:=w24) (lx:=(some (yg s cm u v h))) (u2:=w35) (v2:=w46) (ly:=(some (yh s cm u v h))) (h:=h) (hfi:=ass) (hst:=ass) (hta:=ass) (htb:=ass) (hxa:=ass) (hya:=ass) (hza:=ass) (hqa:=ass) (hqb:=ass) (hqc:=ass) (hqd:=ass) (hxb:=ass) (hyb:=ass) (hzb:=ass) (hra:=ass) (hrb:=ass) (hrc:=ass) (hrd:=ass) (h64fo:=ass) (h64cx:=ass) (h64cy:=ass) (h64r:=by have h9:=hcp.2.2.2.2;unfold Sh.inr at h9;omega) (h64h:=ass) (hqx:=by exact (Sh.Gx_hq s cm u v h).1) (hqy:=by exact (Sh.Gx_hq s cm u v h).2)) (.c (j:=6) rfl (.c (j:=1) rfl (.c (j:=0) rfl .n))) ?_
      rintro ⟨u10_1r2,u10_2r2,u10_3r2,u10_4r2⟩ hy27
      dsimp only [aq,nq,cq]
      replace hy27:Sh.Ic s cm (yk v) (some (yg s cm u v h)).isSome ((some (yg s cm u v h)).getD 0) (some (yh s cm u v h)).isSome ((some (yh s cm u v h)).getD 0) h≠0→u10_1r2=wz∧u10_2r2=wz∧u10_3r2=wz∧u10_4r2=wz:=hy27
      refine e_dm 11 rfl rfl rfl<|e_pv 12 rfl rfl (zy rfl rfl)<|e_pv 13 rfl rfl (zy rfl rfl) ?_
      exact zA (hD2 (u10_1r2,u10_2r2,u10_3r2,u10_4r2)) kr ((.of rfl):SubM _ _) .rfl .rfl ((.of [0,1,2,3,4,5,6,7,8] rfl):SelR _ _ _)
     ·
      refine zoa rfl rfl rfl rfl (zn zr46 rfl) (fun u14_1r2 _=> ?_)
      exact zA (hD3 u14_1r2) kr ((.of rfl):SubM _ _) .rfl .rfl ((.of [0,1,2,3,4,5,6] rfl):SelR _ _ _)
    refine zY (X:=Nat) (k':=7) (L':=(lb 17 17343)) (fun u14_1r2=>([(9,ye (some ⟨u14_1r2,0,none⟩)),(80,yc yd h),(78,.agg (cw [w13,w24,w35,w46]).toArray),(76,yc yd v),(73,.agg #[yc yd (cm.fo),yc yd (cm.cx),yc yd (cm.cy)]),(71,.agg #[yc yd (s.fi),yc yd (s.st),yc yd (s.ta),yc yd (s.xa),yc yd (s.ya),yc yd (s.za),yc yd (s.qa),yc yd (s.qb),yc yd (s.qc),yc yd (s.qd),yc yd (s.tb),yc yd (s.xb),yc yd (s.yb),yc yd (s.zb),yc yd (s.ra),yc yd (s.rb),yc yd (s.rc),yc yd (s.rd)]),(3,ye (some ⟨b2,0,none⟩))],[boxA u14_1r2 46 (cw [wz,wz,wz,wz])],[boxA b9 46 (cw [z1,z2,z3,z4]),boxA b7 46 (cw [w13,w24,w35,w46]),boxA b2 39 [yc yd (cm.fo),yc yd (cm.cx),yc yd (cm.cy),yc yd u,yc yd v,yc yd rr,yc yd h],boxA b1 29 (cS s)],[eF w35 w46 (some (yh s cm u v h)),eF w13 w24 (some (yg s cm u v h)),qF true z1 z2 (yg s cm u v h),qF true z3 z4 (yh s cm u v h),qF true w13 w24 (yg s cm u v h),qF true w35 w46 (yh s cm u v h),sgF])) ?_ (fun hD5=> ?_)
    ·
     rintro u14_1r2
     dsimp only [cw,cS]
     refine zxa 6 kr ?_
     ·
      refine zCa rfl rfl rfl rfl (.c rfl .n) ce16 (zMb (v:=v) (h64v:=ass)) (.n) ?_
      exact zA (hD3 u14_1r2) kr ((.of rfl):SubM _ _) .rfl .rfl ((.of [0,1,2,3,4,5,6] rfl):SelR _ _ _)
    refine zXa 6 14 kr ?_ ?_
    ·
     refine zCa rfl rfl rfl rfl (.c rfl .n) ce16 (zMb (v:=v) (h64v:=ass)) (.n) ?_
     exact zA (hD4 ()) kr ((.of rfl):SubM _ _) .rfl .rfl ((.of [0,1,2,3,4,5,6] rfl):SelR _ _ _)
    ·
     refine zoa rfl rfl rfl rfl (zn zr46 rfl) (fun u14_1r2 _=> ?_)
     exact zA (hD5 u14_1r2) kr ((.of rfl):SubM _ _) .rfl .rfl ((.of [0,1,2,3,4,5,6] rfl):SelR _ _ _)
end Go.Proofs.YtjeahiahjgifgaaGreatDoor.Sp
