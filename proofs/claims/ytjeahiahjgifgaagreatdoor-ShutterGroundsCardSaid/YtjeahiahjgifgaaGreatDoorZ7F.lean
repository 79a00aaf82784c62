/- Lemmas on the walk and plain lemmas that the claim of this folder uses; each states its own conditions. Lines were printed by a program of ours. -/
import Derived.Test.YtjeahiahjgifgaaGreatDoorZ7E
set_option linter.unusedVariables false
set_option linter.unusedSimpArgs false
set_option linter.unusedSectionVars false
open Go.Value renaming int → yc, pointer → ye
open Go.IntKind renaming i64 → yd
open Go.Proofs.Tryz renaming underlying54 → yf, underlying27 → yi, underlying29 → yj, underlying25 → yl, underlying97 → ym, underlying46 → yp, underlying3 → yq, underlying23 → yr, underlying123 → yu, underlying83 → yw, underlying35 → yA, underlying51 → yD, underlying37 → yE, prog → yF, results13 → yJ, underlying92 → yK, results17 → yM, results29 → yN
open Go.Proofs.YtjeahiahjgifgaaGreatDoor.Sh renaming rot → yg, ro → yh, mat → yk, ay → yn, mm → yo, au → yt, pk → yv, pos → yx, exS → yz, exC → yB, gd → yC, sumL → yG, ax → yH, tim → yI, mm_hq → yL, az → yO, frc → yP
open Go.Proofs.YtjeahiahjgifgaaGreatDoor.Big renaming hq → yQ
namespace Go.Proofs.YtjeahiahjgifgaaGreatDoor.Sp
open Go
set_option linter.unusedVariables false
set_option maxRecDepth 100000
set_option maxHeartbeats 8000000
theorem zbf {s:Sh.S} {n:Int} (hfi: -9223372036854775808≤s.fi∧s.fi≤9223372036854775807) (hst: -9223372036854775808≤s.st∧s.st≤9223372036854775807) (hta: -9223372036854775808≤s.ta∧s.ta≤9223372036854775807) (htb: -9223372036854775808≤s.tb∧s.tb≤9223372036854775807) (hxa: -9223372036854775808≤s.xa∧s.xa≤9223372036854775807) (hya: -9223372036854775808≤s.ya∧s.ya≤9223372036854775807) (hza: -9223372036854775808≤s.za∧s.za≤9223372036854775807) (hqa: -9223372036854775808≤s.qa∧s.qa≤9223372036854775807) (hqb: -9223372036854775808≤s.qb∧s.qb≤9223372036854775807) (hqc: -9223372036854775808≤s.qc∧s.qc≤9223372036854775807) (hqd: -9223372036854775808≤s.qd∧s.qd≤9223372036854775807) (hxb: -9223372036854775808≤s.xb∧s.xb≤9223372036854775807) (hyb: -9223372036854775808≤s.yb∧s.yb≤9223372036854775807) (hzb: -9223372036854775808≤s.zb∧s.zb≤9223372036854775807) (hra: -9223372036854775808≤s.ra∧s.ra≤9223372036854775807) (hrb: -9223372036854775808≤s.rb∧s.rb≤9223372036854775807) (hrc: -9223372036854775808≤s.rc∧s.rc≤9223372036854775807) (hrd: -9223372036854775808≤s.rd∧s.rd≤9223372036854775807):Con yF 13 [.agg #[yc yd (s.fi),yc yd (s.st),yc yd (s.ta),yc yd (s.xa),yc yd (s.ya),yc yd (s.za),yc yd (s.qa),yc yd (s.qb),yc yd (s.qc),yc yd (s.qd),yc yd (s.tb),yc yd (s.xb),yc yd (s.yb),yc yd (s.zb),yc yd (s.ra),yc yd (s.rb),yc yd (s.rc),yc yd (s.rd)],yc yd n] [] [] (Y:=Unit) (fun y=>True) (fun y=> yc yd (Sh.chk s n)) (fun y=>[]) (fun y=>[]):=by
 refine zw Tryz.func13 rfl rfl rfl (fun c=> ?_)
 show RunC _ _ _ _ _ [(0,.agg #[yc yd (s.fi),yc yd (s.st),yc yd (s.ta),yc yd (s.xa),yc yd (s.ya),yc yd (s.za),yc yd (s.qa),yc yd (s.qb),yc yd (s.qc),yc yd (s.qd),yc yd (s.tb),yc yd (s.xb),yc yd (s.yb),yc yd (s.zb),yc yd (s.ra),yc yd (s.rb),yc yd (s.rc),yc yd (s.rd)]),(1,yc yd n)] [] []
 refine zj<|zc<|zG rfl rfl (zZ rfl rfl) (fun b1=> ?_)
 refine e_p (zh rfl)<|zk<|zg<|zj<|zDa (X:=Unit) (fun x=>True) (fun x=>[(28,.bool (decide (n<1∨64<n∨¬Sh.okN s))),(4,yc yd 0),(2,ye (some ⟨b1,0,none⟩)),(1,yc yd n)]) (fun x=>[boxA b1 29 (cS s)]) (fun x=>[]) ?_ ?_
 ·
  refine zc<|e_mv rfl<|e_p (zR rfl rfl)<|zja rfl rfl (zka rfl) (fun g1=> ?_) (fun g1=> ?_)
  ·
   refine e_no<|e_no<|e_p (zL rfl rfl)<|e_mv rfl<|e_no<|e_no<|e_no<|e_no<|e_no<|e_no<|e_no<|e_no<|e_no<|e_no<|e_no<|e_no<|e_no<|e_p (zL rfl rfl)<|zk ?_
   exact zha () (show True from by first|trivial|omega|simp_all) ((.e rfl (congrArg Value.bool (by first|exact (decide_eq_true (Or.inl g1)).symm|exact (decide_eq_true (Or.inr (Or.inl g2))).symm|exact decide_eq_decide.2 ⟨fun k=>Or.inr (Or.inr k),fun k=>k.elim (fun e=>absurd e g1) (fun k=>k.elim (fun e=>absurd e g2) _root_.id)⟩)) (.of rfl)):SubM _ _) (ho:=((.c (i:=0) rfl .n):PickO _ _ _)) (.n:SelR _ _ _)
  ·
   refine e_mv rfl<|e_p (zfb rfl rfl)<|e_p (zL rfl rfl)<|zja rfl rfl (zka rfl) (fun g2=> ?_) (fun g2=> ?_)
   ·
    refine e_no<|e_no<|e_no<|e_no<|e_no<|e_no<|e_no<|e_no<|e_no<|e_no<|e_no<|e_no<|e_no<|e_p (zL rfl rfl)<|zk ?_
    exact zha () (show True from by first|trivial|omega|simp_all) ((.e rfl (congrArg Value.bool (by first|exact (decide_eq_true (Or.inl g1)).symm|exact (decide_eq_true (Or.inr (Or.inl g2))).symm|exact decide_eq_decide.2 ⟨fun k=>Or.inr (Or.inr k),fun k=>k.elim (fun e=>absurd e g1) (fun k=>k.elim (fun e=>absurd e g2) _root_.id)⟩)) (.of rfl)):SubM _ _) (ho:=((.c (i:=0) rfl .n):PickO _ _ _)) (.n:SelR _ _ _)
   ·
    refine e_p (zf yj rfl sz3 rfl rfl)<|e_ru (ze 0 ty3 rfl rfl rfl)<|e_p (zf yj rfl sz3 rfl rfl)<|e_ru (ze 0 ty3 rfl rfl rfl)<|e_p (zf yj rfl sz27 rfl rfl)<|e_p (zf yi rfl sz3 rfl rfl)<|e_ru (ze 0 ty3 rfl rfl rfl)<|e_p (zf yj rfl sz27 rfl rfl)<|e_p (zf yi rfl sz3 rfl rfl)<|e_ru (ze 0 ty3 rfl rfl rfl)<|zJa rfl rfl (zN (enc:=fun z:Int=>[yc yd z]) (ok:=InK .i64) (h1:=fun _=>rfl) (h2:=fun _=>rfl) (k:=4) yD inf3 rfl dd dd dd (.c (x:=s.fi) rfl rfl (fun _ _=>by exact zq.2 om) (.c (x:=s.st) rfl rfl (fun _ _=>by exact zq.2 om) (.c (x:=s.ta) rfl rfl (fun _ _=>by exact zq.2 om) (.c (x:=s.tb) rfl rfl (fun _ _=>by exact zq.2 om) .n))))) (fun b2 _=> ?_)
    refine zia 0 rfl .z<|zU rfl rfl (.c rfl (.c rfl .n)) ce23 (zsb (p:=some ⟨b2,0,none⟩) (n:=4) (cap:=4) (l:=[s.fi,s.st,s.ta,s.tb]) (m:=1073741824) (hn:=cbd) (hm:=cbd)) (.c (j:=0) rfl .n)<|e_p (zLa rfl)<|e_p (zL rfl rfl)<|zk ?_
    exact zha () (show True from by first|trivial|omega|simp_all) ((.e rfl (congrArg Value.bool (by first|exact (decide_eq_true (Or.inl g1)).symm|exact (decide_eq_true (Or.inr (Or.inl g2))).symm|exact decide_eq_decide.2 ⟨fun k=>Or.inr (Or.inr k),fun k=>k.elim (fun e=>absurd e g1) (fun k=>k.elim (fun e=>absurd e g2) _root_.id)⟩)) (.of rfl)):SubM _ _) (ho:=((.c (i:=1) rfl .n):PickO _ _ _)) (.n:SelR _ _ _)
 ·
  rintro ⟨⟩ -
  try dsimp only
  refine zT rfl (fun h1=> ?_) (fun h1=> ?_)
  ·
   refine zj<|zc<|e_p (zh rfl)<|zk<|zg<|zS<|zt ?_
   exact zM yJ () trivial (zD rfl) (by rw [Sh.chk_1 h1]) (ho:=(.n:PickO _ _ _)) (.n:SelR _ _ _)
  ·
   refine zx<|zg<|zj<|zj<|zc<|e_p (zf yj rfl sz27 rfl rfl)<|e_ru (zd 0 ty27 rfl rfl (.s2 (.t8 .nil)))<|e_p (zf yj rfl sz27 rfl rfl)<|e_ru (zd 0 ty27 rfl rfl (.s8 (.s2 (.t8 .nil))))<|zJa rfl rfl (zN (enc:=fun z:Ep=>[yc yd z.tm,yc yd z.x,yc yd z.y,yc yd z.z,yc yd z.a,yc yd z.b,yc yd z.c,yc yd z.d]) (ok:=okEp .i64) (h1:=fun _=>rfl) (h2:=fun _=>rfl) (k:=2) yK inf27 rfl dd dd dd (.c (x:=(⟨s.ta,s.xa,s.ya,s.za,s.qa,s.qb,s.qc,s.qd⟩:Ep)) rfl rfl (fun _ _=>by exact ⟨zq.2 (by first|omega|decide|(dsimp only;omega)),zq.2 (by first|omega|decide|(dsimp only;omega)),zq.2 (by first|omega|decide|(dsimp only;omega)),zq.2 (by first|omega|decide|(dsimp only;omega)),zq.2 (by first|omega|decide|(dsimp only;omega)),zq.2 (by first|omega|decide|(dsimp only;omega)),zq.2 (by first|omega|decide|(dsimp only;omega)),zq.2 (by first|omega|decide|(dsimp only;omega))⟩) (.c (x:=(⟨s.tb,s.xb,s.yb,s.zb,s.ra,s.rb,s.rc,s.rd⟩:Ep)) rfl rfl (fun _ _=>by exact ⟨zq.2 (by first|omega|decide|(dsimp only;omega)),zq.2 (by first|omega|decide|(dsimp only;omega)),zq.2 (by first|omega|decide|(dsimp only;omega)),zq.2 (by first|omega|decide|(dsimp only;omega)),zq.2 (by first|omega|decide|(dsimp only;omega)),zq.2 (by first|omega|decide|(dsimp only;omega)),zq.2 (by first|omega|decide|(dsimp only;omega)),zq.2 (by first|omega|decide|(dsimp only;omega))⟩) .n))) (fun b3 _=> ?_)
   refine e_p (zga yK rfl)<|e_mv rfl<|zk<|zg<|zv<|zPa<|zW<|zj<|zc<|e_p (zR rfl rfl)<|zk<|zg<|zj<|zX rfl rfl<|zx<|zg<|zj<|zv<|zj<|zc<|e_p (zta (j:=0) yK sz27 rfl rfl rfl (by first|omega|(simp;done)))<|r_vl rfl rfl (zxb 0 0 rfl ty27 rfl rfl (gD (d:=ep0) (by first|omega|(simp;done)))) (fun _ hok4=> ?_)
   obtain ⟨hok40,hok41,hok42,hok43,hok44,hok45,hok46,hok47⟩:=hok4
   replace hok40:=zq.1 hok40
   replace hok41:=zq.1 hok41
   replace hok42:=zq.1 hok42
   replace hok43:=zq.1 hok43
   replace hok44:=zq.1 hok44
   replace hok45:=zq.1 hok45
   replace hok46:=zq.1 hok46
   replace hok47:=zq.1 hok47
   refine zG rfl rfl (zn zr27 rfl) (fun b5=> ?_)
   refine zl 0 rfl rfl rfl rfl rfl sz27 rfl (.t8 .nil) .z<|zk<|zg ?_
   have e6:((([(⟨s.ta,s.xa,s.ya,s.za,s.qa,s.qb,s.qc,s.qd⟩:Ep),(⟨s.tb,s.xb,s.yb,s.zb,s.ra,s.rb,s.rc,s.rd⟩:Ep)]).getD 0 ep0).tm:Int)=s.ta:=by rfl
   rw [e6]
   have e7:((([(⟨s.ta,s.xa,s.ya,s.za,s.qa,s.qb,s.qc,s.qd⟩:Ep),(⟨s.tb,s.xb,s.yb,s.zb,s.ra,s.rb,s.rc,s.rd⟩:Ep)]).getD 0 ep0).x:Int)=s.xa:=by rfl
   rw [e7]
   have e8:((([(⟨s.ta,s.xa,s.ya,s.za,s.qa,s.qb,s.qc,s.qd⟩:Ep),(⟨s.tb,s.xb,s.yb,s.zb,s.ra,s.rb,s.rc,s.rd⟩:Ep)]).getD 0 ep0).y:Int)=s.ya:=by rfl
   rw [e8]
   have e9:((([(⟨s.ta,s.xa,s.ya,s.za,s.qa,s.qb,s.qc,s.qd⟩:Ep),(⟨s.tb,s.xb,s.yb,s.zb,s.ra,s.rb,s.rc,s.rd⟩:Ep)]).getD 0 ep0).z:Int)=s.za:=by rfl
   rw [e9]
   have e10:((([(⟨s.ta,s.xa,s.ya,s.za,s.qa,s.qb,s.qc,s.qd⟩:Ep),(⟨s.tb,s.xb,s.yb,s.zb,s.ra,s.rb,s.rc,s.rd⟩:Ep)]).getD 0 ep0).a:Int)=s.qa:=by rfl
   rw [e10]
   have e11:((([(⟨s.ta,s.xa,s.ya,s.za,s.qa,s.qb,s.qc,s.qd⟩:Ep),(⟨s.tb,s.xb,s.yb,s.zb,s.ra,s.rb,s.rc,s.rd⟩:Ep)]).getD 0 ep0).b:Int)=s.qb:=by rfl
   rw [e11]
   have e12:((([(⟨s.ta,s.xa,s.ya,s.za,s.qa,s.qb,s.qc,s.qd⟩:Ep),(⟨s.tb,s.xb,s.yb,s.zb,s.ra,s.rb,s.rc,s.rd⟩:Ep)]).getD 0 ep0).c:Int)=s.qc:=by rfl
   rw [e12]
   have e13:((([(⟨s.ta,s.xa,s.ya,s.za,s.qa,s.qb,s.qc,s.qd⟩:Ep),(⟨s.tb,s.xb,s.yb,s.zb,s.ra,s.rb,s.rc,s.rd⟩:Ep)]).getD 0 ep0).d:Int)=s.qd:=by rfl
   rw [e13]
   refine zDa (X:=Unit) (fun x=>True) (fun x=>[(67,.bool (decide ((¬(Sh.wi 1048576 ([s.xa,s.ya,s.za])))∨(¬(Sh.wi 32768 ([s.qa,s.qb,s.qc,s.qd])))))),(6,ye (some ⟨b5,0,none⟩)),(38,.agg #[yc yd (s.ta),yc yd (s.xa),yc yd (s.ya),yc yd (s.za),yc yd (s.qa),yc yd (s.qb),yc yd (s.qc),yc yd (s.qd)]),(37,rowPtr (some ⟨b3,0,none⟩) (0*8)),(36,.bool true),(35,yc yd 0),(34,yc yd 2),(33,.slice (some ⟨b3,0,none⟩) 2 2),(4,yc yd 0),(2,ye (some ⟨b1,0,none⟩)),(1,yc yd n)]) (fun x=>[boxA b5 27 [yc yd (s.ta),yc yd (s.xa),yc yd (s.ya),yc yd (s.za),yc yd (s.qa),yc yd (s.qb),yc yd (s.qc),yc yd (s.qd)],rowA 27 (rI8 .i64) (some ⟨b3,0,none⟩) 2 ([(⟨s.ta,s.xa,s.ya,s.za,s.qa,s.qb,s.qc,s.qd⟩:Ep),(⟨s.tb,s.xb,s.yb,s.zb,s.ra,s.rb,s.rc,s.rd⟩:Ep)]),boxA b1 29 (cS s)]) (fun x=>[]) ?_ ?_
   ·
    refine zc<|e_p (zf yi rfl sz23 rfl rfl)<|e_p (zf yr rfl sz3 rfl rfl)<|e_ru (ze 0 ty3 rfl rfl rfl)<|e_p (zf yi rfl sz23 rfl rfl)<|e_p (zf yr rfl sz3 rfl rfl)<|e_ru (ze 0 ty3 rfl rfl rfl)<|e_p (zf yi rfl sz23 rfl rfl)<|e_p (zf yr rfl sz3 rfl rfl)<|e_ru (ze 0 ty3 rfl rfl rfl)<|zJa rfl rfl (zN (enc:=fun z:Int=>[yc yd z]) (ok:=InK .i64) (h1:=fun _=>rfl) (h2:=fun _=>rfl) (k:=3) yD inf3 rfl dd dd dd (.c (x:=s.xa) rfl rfl (fun _ _=>by exact zq.2 om) (.c (x:=s.ya) rfl rfl (fun _ _=>by exact zq.2 om) (.c (x:=s.za) rfl rfl (fun _ _=>by exact zq.2 om) .n)))) (fun b14 _=> ?_)
    refine zia 0 rfl .z<|zU rfl rfl (.c rfl (.c rfl .n)) ce23 (zsb (p:=some ⟨b14,0,none⟩) (n:=3) (cap:=3) (l:=[s.xa,s.ya,s.za]) (m:=1048576) (hn:=cbd) (hm:=cbd)) (.c (j:=0) rfl .n)<|e_p (zLa rfl)<|zja rfl rfl (zka rfl) (fun h15=> ?_) (fun h15=> ?_)
    ·
     refine e_no<|e_no<|e_no<|e_no<|e_no<|e_no<|e_no<|e_no<|e_no<|e_no<|e_no<|e_no<|e_no<|e_no<|e_no<|e_p (zL rfl rfl)<|zk ?_
     exact zha () (show True from by first|trivial|omega|simp_all) ((.e rfl (congrArg Value.bool cbu) (.of rfl)):SubM _ _) (ho:=((.of [1,1,1] rfl):PickO _ _ _)) (.n:SelR _ _ _)
    ·
     refine e_p (zf yi rfl sz25 rfl rfl)<|e_p (zf yl rfl sz3 rfl rfl)<|e_ru (ze 1 ty3 rfl rfl rfl)<|e_p (zf yi rfl sz25 rfl rfl)<|e_p (zf yl rfl sz3 rfl rfl)<|e_ru (ze 1 ty3 rfl rfl rfl)<|e_p (zf yi rfl sz25 rfl rfl)<|e_p (zf yl rfl sz3 rfl rfl)<|e_ru (ze 1 ty3 rfl rfl rfl)<|e_p (zf yi rfl sz25 rfl rfl)<|e_p (zf yl rfl sz3 rfl rfl)<|e_ru (ze 1 ty3 rfl rfl rfl)<|zJa rfl rfl (zN (enc:=fun z:Int=>[yc yd z]) (ok:=InK .i64) (h1:=fun _=>rfl) (h2:=fun _=>rfl) (k:=4) yD inf3 rfl dd dd dd (.c (x:=s.qa) rfl rfl (fun _ _=>by exact zq.2 om) (.c (x:=s.qb) rfl rfl (fun _ _=>by exact zq.2 om) (.c (x:=s.qc) rfl rfl (fun _ _=>by exact zq.2 om) (.c (x:=s.qd) rfl rfl (fun _ _=>by exact zq.2 om) .n))))) (fun b16 _=> ?_)
     refine zia 0 rfl .z<|zU rfl rfl (.c rfl (.c rfl .n)) ce23 (zsb (p:=some ⟨b16,0,none⟩) (n:=4) (cap:=4) (l:=[s.qa,s.qb,s.qc,s.qd]) (m:=32768) (hn:=cbd) (hm:=cbd)) (.c (j:=0) rfl .n)<|e_p (zLa rfl)<|e_p (zL rfl rfl)<|zk ?_
     exact zha () (show True from by first|trivial|omega|simp_all) ((.e rfl (congrArg Value.bool cbu) (.of rfl)):SubM _ _) (ho:=((.of [2,2,2] rfl):PickO _ _ _)) (.n:SelR _ _ _)
   ·
    rintro ⟨⟩ -
    try dsimp only
    refine zT rfl (fun hA=> ?_) (fun hA=> ?_)
    ·
     have hbad:¬Sh.okA s:=fun k=>hA.elim (fun e=>e k.1) (fun e=>e k.2)
     refine zj<|zc<|e_p (zh rfl)<|zk<|zg<|zS<|zea<|zt<|zt<|zea<|zt ?_
     exact zM yJ () trivial (zD rfl) (by rw [Sh.chk_2 h1 hbad]) (ho:=(.n:PickO _ _ _)) (.n:SelR _ _ _)
    ·
     have hokA:Sh.okA s:=⟨Decidable.not_not.1 (fun e=>hA (Or.inl e)),Decidable.not_not.1 (fun e=>hA (Or.inr e))⟩
     refine zx<|zJ<|zg<|zc<|e_p (zI (z:=1) rfl rfl (w64 dd))<|e_mv rfl<|zk<|zfa<|zW<|zj<|zc<|e_p (zR rfl rfl)<|zk<|zg<|zj<|zX rfl rfl<|zx<|zg<|zj<|zv<|zj<|zc<|e_p (zta (j:=1) yK sz27 rfl rfl rfl (by first|omega|(simp;done)))<|r_vl rfl rfl (zxb 1 1 rfl ty27 rfl rfl (gD (d:=ep0) (by first|omega|(simp;done)))) (fun _ hok17=> ?_)
     obtain ⟨hok170,hok171,hok172,hok173,hok174,hok175,hok176,hok177⟩:=hok17
     replace hok170:=zq.1 hok170
     replace hok171:=zq.1 hok171
     replace hok172:=zq.1 hok172
     replace hok173:=zq.1 hok173
     replace hok174:=zq.1 hok174
     replace hok175:=zq.1 hok175
     replace hok176:=zq.1 hok176
     replace hok177:=zq.1 hok177
     refine zG rfl rfl (zn zr27 rfl) (fun b18=> ?_)
     refine zl 0 rfl rfl rfl rfl rfl sz27 rfl (.t8 .nil) .z<|zk<|zg ?_
     have e19:((([(⟨s.ta,s.xa,s.ya,s.za,s.qa,s.qb,s.qc,s.qd⟩:Ep),(⟨s.tb,s.xb,s.yb,s.zb,s.ra,s.rb,s.rc,s.rd⟩:Ep)]).getD 1 ep0).tm:Int)=s.tb:=by rfl
     rw [e19]
     have e20:((([(⟨s.ta,s.xa,s.ya,s.za,s.qa,s.qb,s.qc,s.qd⟩:Ep),(⟨s.tb,s.xb,s.yb,s.zb,s.ra,s.rb,s.rc,s.rd⟩:Ep)]).getD 1 ep0).x:Int)=s.xb:=by rfl
     rw [e20]
     have e21:((([(⟨s.ta,s.xa,s.ya,s.za,s.qa,s.qb,s.qc,s.qd⟩:Ep),(⟨s.tb,s.xb,s.yb,s.zb,s.ra,s.rb,s.rc,s.rd⟩:Ep)]).getD 1 ep0).y:Int)=s.yb:=by rfl
     rw [e21]
     have e22:((([(⟨s.ta,s.xa,s.ya,s.za,s.qa,s.qb,s.qc,s.qd⟩:Ep),(⟨s.tb,s.xb,s.yb,s.zb,s.ra,s.rb,s.rc,s.rd⟩:Ep)]).getD 1 ep0).z:Int)=s.zb:=by rfl
     rw [e22]
     have e23:((([(⟨s.ta,s.xa,s.ya,s.za,s.qa,s.qb,s.qc,s.qd⟩:Ep),(⟨s.tb,s.xb,s.yb,s.zb,s.ra,s.rb,s.rc,s.rd⟩:Ep)]).getD 1 ep0).a:Int)=s.ra:=by rfl
     rw [e23]
     have e24:((([(⟨s.ta,s.xa,s.ya,s.za,s.qa,s.qb,s.qc,s.qd⟩:Ep),(⟨s.tb,s.xb,s.yb,s.zb,s.ra,s.rb,s.rc,s.rd⟩:Ep)]).getD 1 ep0).b:Int)=s.rb:=by rfl
     rw [e24]
     have e25:((([(⟨s.ta,s.xa,s.ya,s.za,s.qa,s.qb,s.qc,s.qd⟩:Ep),(⟨s.tb,s.xb,s.yb,s.zb,s.ra,s.rb,s.rc,s.rd⟩:Ep)]).getD 1 ep0).c:Int)=s.rc:=by rfl
     rw [e25]
     have e26:((([(⟨s.ta,s.xa,s.ya,s.za,s.qa,s.qb,s.qc,s.qd⟩:Ep),(⟨s.tb,s.xb,s.yb,s.zb,s.ra,s.rb,s.rc,s.rd⟩:Ep)]).getD 1 ep0).d:Int)=s.rd:=by rfl
     rw [e26]
     refine zDa (X:=Unit) (fun x=>True) (fun x=>[(67,.bool (decide ((¬(Sh.wi 1048576 ([s.xb,s.yb,s.zb])))∨(¬(Sh.wi 32768 ([s.ra,s.rb,s.rc,s.rd])))))),(6,ye (some ⟨b18,0,none⟩)),(38,.agg #[yc yd (s.tb),yc yd (s.xb),yc yd (s.yb),yc yd (s.zb),yc yd (s.ra),yc yd (s.rb),yc yd (s.rc),yc yd (s.rd)]),(37,rowPtr (some ⟨b3,0,none⟩) (1*8)),(36,.bool true),(35,yc yd 1),(68,yc yd 1),(34,yc yd 2),(33,.slice (some ⟨b3,0,none⟩) 2 2),(4,yc yd 0),(2,ye (some ⟨b1,0,none⟩)),(1,yc yd n)]) (fun x=>[boxA b18 27 [yc yd (s.tb),yc yd (s.xb),yc yd (s.yb),yc yd (s.zb),yc yd (s.ra),yc yd (s.rb),yc yd (s.rc),yc yd (s.rd)],boxA b5 27 [yc yd (s.ta),yc yd (s.xa),yc yd (s.ya),yc yd (s.za),yc yd (s.qa),yc yd (s.qb),yc yd (s.qc),yc yd (s.qd)],rowA 27 (rI8 .i64) (some ⟨b3,0,none⟩) 2 ([(⟨s.ta,s.xa,s.ya,s.za,s.qa,s.qb,s.qc,s.qd⟩:Ep),(⟨s.tb,s.xb,s.yb,s.zb,s.ra,s.rb,s.rc,s.rd⟩:Ep)]),boxA b1 29 (cS s)]) (fun x=>[]) ?_ ?_
     ·
      refine zc<|e_p (zf yi rfl sz23 rfl rfl)<|e_p (zf yr rfl sz3 rfl rfl)<|e_ru (ze 0 ty3 rfl rfl rfl)<|e_p (zf yi rfl sz23 rfl rfl)<|e_p (zf yr rfl sz3 rfl rfl)<|e_ru (ze 0 ty3 rfl rfl rfl)<|e_p (zf yi rfl sz23 rfl rfl)<|e_p (zf yr rfl sz3 rfl rfl)<|e_ru (ze 0 ty3 rfl rfl rfl)<|zJa rfl rfl (zN (enc:=fun z:Int=>[yc yd z]) (ok:=InK .i64) (h1:=fun _=>rfl) (h2:=fun _=>rfl) (k:=3) yD inf3 rfl dd dd dd (.c (x:=s.xb) rfl rfl (fun _ _=>by exact zq.2 om) (.c (x:=s.yb) rfl rfl (fun _ _=>by exact zq.2 om) (.c (x:=s.zb) rfl rfl (fun _ _=>by exact zq.2 om) .n)))) (fun b27 _=> ?_)
      refine zia 0 rfl .z<|zU rfl rfl (.c rfl (.c rfl .n)) ce23 (zsb (p:=some ⟨b27,0,none⟩) (n:=3) (cap:=3) (l:=[s.xb,s.yb,s.zb]) (m:=1048576) (hn:=cbd) (hm:=cbd)) (.c (j:=0) rfl .n)<|e_p (zLa rfl)<|zja rfl rfl (zka rfl) (fun h28=> ?_) (fun h28=> ?_)
      ·
       refine e_no<|e_no<|e_no<|e_no<|e_no<|e_no<|e_no<|e_no<|e_no<|e_no<|e_no<|e_no<|e_no<|e_no<|e_no<|e_p (zL rfl rfl)<|zk ?_
       exact zha () (show True from by first|trivial|omega|simp_all) ((.e rfl (congrArg Value.bool cbu) (.of rfl)):SubM _ _) (ho:=((.of [1,1,1,1] rfl):PickO _ _ _)) (.n:SelR _ _ _)
      ·
       refine e_p (zf yi rfl sz25 rfl rfl)<|e_p (zf yl rfl sz3 rfl rfl)<|e_ru (ze 1 ty3 rfl rfl rfl)<|e_p (zf yi rfl sz25 rfl rfl)<|e_p (zf yl rfl sz3 rfl rfl)<|e_ru (ze 1 ty3 rfl rfl rfl)<|e_p (zf yi rfl sz25 rfl rfl)<|e_p (zf yl rfl sz3 rfl rfl)<|e_ru (ze 1 ty3 rfl rfl rfl)<|e_p (zf yi rfl sz25 rfl rfl)<|e_p (zf yl rfl sz3 rfl rfl)<|e_ru (ze 1 ty3 rfl rfl rfl)<|zJa rfl rfl (zN (enc:=fun z:Int=>[yc yd z]) (ok:=InK .i64) (h1:=fun _=>rfl) (h2:=fun _=>rfl) (k:=4) yD inf3 rfl dd dd dd (.c (x:=s.ra) rfl rfl (fun _ _=>by exact zq.2 om) (.c (x:=s.rb) rfl rfl (fun _ _=>by exact zq.2 om) (.c (x:=s.rc) rfl rfl (fun _ _=>by exact zq.2 om) (.c (x:=s.rd) rfl rfl (fun _ _=>by exact zq.2 om) .n))))) (fun b29 _=> ?_)
       refine zia 0 rfl .z<|zU rfl rfl (.c rfl (.c rfl .n)) ce23 (zsb (p:=some ⟨b29,0,none⟩) (n:=4) (cap:=4) (l:=[s.ra,s.rb,s.rc,s.rd]) (m:=32768) (hn:=cbd) (hm:=cbd)) (.c (j:=0) rfl .n)<|e_p (zLa rfl)<|e_p (zL rfl rfl)<|zk ?_
       exact zha () (show True from by first|trivial|omega|simp_all) ((.e rfl (congrArg Value.bool cbu) (.of rfl)):SubM _ _) (ho:=((.of [2,2,2,2] rfl):PickO _ _ _)) (.n:SelR _ _ _)
     ·
      rintro ⟨⟩ -
      try dsimp only
      refine zT rfl (fun hA=> ?_) (fun hA=> ?_)
      ·
       have hbad:¬Sh.okB s:=fun k=>hA.elim (fun e=>e k.1) (fun e=>e k.2)
       refine zj<|zc<|e_p (zh rfl)<|zk<|zg<|zS<|zea<|zt<|zt<|zea<|zt ?_
       exact zM yJ () trivial (zD rfl) (by rw [Sh.chk_3 h1 hokA hbad]) (ho:=(.n:PickO _ _ _)) (.n:SelR _ _ _)
      ·
       have hokB:Sh.okB s:=⟨Decidable.not_not.1 (fun e=>hA (Or.inl e)),Decidable.not_not.1 (fun e=>hA (Or.inr e))⟩
       refine zx<|zJ<|zg<|zc<|e_p (zI (z:=2) rfl rfl (w64 dd))<|e_mv rfl<|zk<|zfa<|zW<|zj<|zc<|e_p (zR rfl rfl)<|zk<|zg<|zj<|zva rfl rfl<|zla<|zo<|zo<|zB<|zg<|zj<|zDa (X:=Unit) (fun x=>True) (fun x=>[(89,.bool (decide (((s.qa=0∧s.qb=0∧s.qc=0∧s.qd=0)∨(s.ra=0∧s.rb=0∧s.rc=0∧s.rd=0))∨(s.tb≤s.ta)))),(4,yc yd 0),(2,ye (some ⟨b1,0,none⟩)),(1,yc yd n)]) (fun x=>[boxA b18 27 [yc yd (s.tb),yc yd (s.xb),yc yd (s.yb),yc yd (s.zb),yc yd (s.ra),yc yd (s.rb),yc yd (s.rc),yc yd (s.rd)],boxA b5 27 [yc yd (s.ta),yc yd (s.xa),yc yd (s.ya),yc yd (s.za),yc yd (s.qa),yc yd (s.qb),yc yd (s.qc),yc yd (s.qd)],rowA 27 (rI8 .i64) (some ⟨b3,0,none⟩) 2 ([(⟨s.ta,s.xa,s.ya,s.za,s.qa,s.qb,s.qc,s.qd⟩:Ep),(⟨s.tb,s.xb,s.yb,s.zb,s.ra,s.rb,s.rc,s.rd⟩:Ep)]),boxA b1 29 (cS s)]) (fun x=>[]) ?_ ?_
       ·
        refine zc<|e_p (zf yj rfl sz27 rfl rfl)<|e_p (zf yi rfl sz25 rfl rfl)<|e_ru (zd 3 ty25 rfl rfl (.s4 (.s2 (.t4 .nil))))<|e_p (zu zr25 rfl yl (.c sz3 (.c sz3 (.c sz3 (.c sz3 .n)))) .n .n)<|e_p (zlb (p:=s.qa=0∧s.qb=0∧s.qc=0∧s.qd=0) kr rfl rfl (zkb yl kr (zAa dd ty3 rfl rfl (zza yq) (zAa dd ty3 rfl rfl (zza yq) (zAa dd ty3 rfl rfl (zza yq) (zAa dd ty3 rfl rfl (zza yq) zRb))))) (by simp [Bool.decide_and]))<|zja rfl rfl (zka rfl) (fun h30=> ?_) (fun h30=> ?_)
        ·
         refine e_no<|e_no<|e_no<|e_no<|e_no<|e_p (zL rfl rfl)<|e_mv rfl<|e_no<|e_no<|e_no<|e_no<|e_no<|e_no<|e_no<|e_p (zL rfl rfl)<|zk ?_
         exact zha () (show True from by first|trivial|omega|simp_all) ((.e rfl (congrArg Value.bool cbu) (.of rfl)):SubM _ _) (ho:=((.of [0,0,0,0] rfl):PickO _ _ _)) (.n:SelR _ _ _)
        ·
         refine e_p (zf yj rfl sz27 rfl rfl)<|e_p (zf yi rfl sz25 rfl rfl)<|e_ru (zd 3 ty25 rfl rfl (.s8 (.s4 (.s2 (.t4 .nil)))))<|e_p (zu zr25 rfl yl (.c sz3 (.c sz3 (.c sz3 (.c sz3 .n)))) .n .n)<|e_p (zlb (p:=s.ra=0∧s.rb=0∧s.rc=0∧s.rd=0) kr rfl rfl (zkb yl kr (zAa dd ty3 rfl rfl (zza yq) (zAa dd ty3 rfl rfl (zza yq) (zAa dd ty3 rfl rfl (zza yq) (zAa dd ty3 rfl rfl (zza yq) zRb))))) (by simp [Bool.decide_and]))<|e_p (zL rfl rfl)<|zja rfl rfl (zka rfl) (fun h31=> ?_) (fun h31=> ?_)
         ·
          refine e_no<|e_no<|e_no<|e_no<|e_no<|e_no<|e_no<|e_p (zL rfl rfl)<|zk ?_
          exact zha () (show True from by first|trivial|omega|simp_all) ((.e rfl (congrArg Value.bool cbu) (.of rfl)):SubM _ _) (ho:=((.of [0,0,0,0] rfl):PickO _ _ _)) (.n:SelR _ _ _)
         ·
          refine e_p (zf yj rfl sz27 rfl rfl)<|e_p (zf yi rfl sz3 rfl rfl)<|e_ru (ze 3 ty3 rfl rfl rfl)<|e_p (zf yj rfl sz27 rfl rfl)<|e_p (zf yi rfl sz3 rfl rfl)<|e_ru (ze 3 ty3 rfl rfl rfl)<|e_p (zlc rfl rfl)<|e_p (zL rfl rfl)<|zk ?_
          exact zha () (show True from by first|trivial|omega|simp_all) ((.e rfl (congrArg Value.bool cbu) (.of rfl)):SubM _ _) (ho:=((.of [0,0,0,0] rfl):PickO _ _ _)) (.n:SelR _ _ _)
       ·
        rintro ⟨⟩ -
        try dsimp only
        refine zT rfl (fun h4=> ?_) (fun h4=> ?_)
        ·
         refine zj<|zc<|e_p (zh rfl)<|zk<|zg<|zS<|zt ?_
         exact zM yJ () trivial (zD rfl) (by rw [Sh.chk_4 h1 hokA hokB (or_assoc.1 h4)]) (ho:=(.n:PickO _ _ _)) (.n:SelR _ _ _)
        ·
         have hok:Sh.Ok s:=Sh.ok_of (Decidable.not_not.1 fun e=>h1 (Or.inr (Or.inr e))) hokA hokB
         refine zx<|zg<|zj<|zj<|zc<|e_mv rfl<|e_mv rfl<|zk<|zg<|zv<|zFa (X:=Nat) (fun x:Nat=>x≤n.toNat∧∀j:Nat,j<x→¬Sh.z4 (yg s (j:Int))) (fun x=>[(91,yc yd ((x:Nat):Int)),(90,yc yd n),(2,ye (some ⟨b1,0,none⟩))]) (fun x=>[boxA b18 27 [yc yd (s.tb),yc yd (s.xb),yc yd (s.yb),yc yd (s.zb),yc yd (s.ra),yc yd (s.rb),yc yd (s.rc),yc yd (s.rd)],boxA b5 27 [yc yd (s.ta),yc yd (s.xa),yc yd (s.ya),yc yd (s.za),yc yd (s.qa),yc yd (s.qb),yc yd (s.qc),yc yd (s.qd)],rowA 27 (rI8 .i64) (some ⟨b3,0,none⟩) 2 ([(⟨s.ta,s.xa,s.ya,s.za,s.qa,s.qb,s.qc,s.qd⟩:Ep),(⟨s.tb,s.xb,s.yb,s.zb,s.ra,s.rb,s.rc,s.rd⟩:Ep)]),boxA b1 29 (cS s)]) (fun x=>[]) (fun x:Nat=>n.toNat - x) 0 (show 0≤n.toNat∧∀j:Nat,j<0→¬Sh.z4 (yg s (j:Int)) from by exact ⟨Nat.zero_le _,fun j h=>by omega⟩) ((.e rfl (by first|rfl|(congr 1;omega)|simp_all) (.c rfl (.c rfl .n))):SubM _ _) (ho:=((.of [0,0,0,0] rfl):PickO _ _ _)) (.n:SelR _ _ _) ?_
         rintro r hI
         replace hI:r≤n.toNat∧∀j:Nat,j<r→¬Sh.z4 (yg s (j:Int)):=hI
         try dsimp only
         obtain ⟨hr,hall⟩:=hI
         refine zj<|zc<|e_p (zR rfl rfl)<|zk<|zg<|zj<|zT rfl (fun h32=> ?_) (fun h32=> ?_)
         ·
          refine zx<|zg<|zj<|zv<|zj<|zc<|e_mv rfl<|e_p (zh rfl)<|zk<|zg<|zj<|zc<|e_ru (zd 3 ty29 rfl rfl (.t8 (.t8 (.t2 .nil))))<|e_mv rfl<|zU rfl rfl (.c rfl (.c rfl .n)) ce33 (zTd (s:=s) (r:=((r:Nat):Int)) (hok:=cbd) (hr:=cbd)) (.n)<|e_p (zu zr25 rfl yl (.c sz3 (.c sz3 (.c sz3 (.c sz3 .n)))) .n .n)<|e_p (zlb (p:=(yg s ((r:Nat):Int)).1=0∧(yg s ((r:Nat):Int)).2.1=0∧(yg s ((r:Nat):Int)).2.2.1=0∧(yg s ((r:Nat):Int)).2.2.2=0) kr rfl rfl (zkb yl kr (zAa dd ty3 rfl rfl (zza yq) (zAa dd ty3 rfl rfl (zza yq) (zAa dd ty3 rfl rfl (zza yq) (zAa dd ty3 rfl rfl (zza yq) zRb))))) (by simp [Bool.decide_and]))<|zk<|zg<|zT rfl (fun hz4=> ?_) (fun hz4=> ?_)
          ·
           refine zj<|zc<|e_p (zh rfl)<|zk<|zg<|zS<|zea<|zt<|zt<|zea<|zt ?_
           exact zM yJ () trivial (zD rfl) (by rw [Sh.chk_5 h1 hokA hokB (fun k=>h4 (or_assoc.2 k)) ⟨r,by omega,hz4⟩]) (ho:=(.n:PickO _ _ _)) (.n:SelR _ _ _)
          ·
           refine zx<|zJ<|zg<|zc<|e_p (zI (z:=(((r+1):Nat):Int)) rfl rfl (w64 om))<|e_mv rfl<|zk<|zBa (r+1) (show (r+1)≤n.toNat∧∀j:Nat,j<(r+1)→¬Sh.z4 (yg s (j:Int)) from by refine ⟨by omega,fun j hj=> ?_⟩;by_cases e:j=r;(subst e;exact hz4);exact hall j om) (by show n.toNat - (r+1)<n.toNat - r;omega) ((.of rfl):SubM _ _) (ho:=((.of [0,0,0,0] rfl):PickO _ _ _)) (.n:SelR _ _ _)
         ·
          refine zla<|zo<|zo<|zB<|zg<|zj<|zc<|e_p (zh rfl)<|zk<|zg<|zS ?_
          exact zM yJ () trivial (zD rfl) (by rw [Sh.chk_6 h1 hokA hokB (fun k=>h4 (or_assoc.2 k)) (fun ⟨j,hj,k⟩=>hall j om k)]) (ho:=(.n:PickO _ _ _)) (.n:SelR _ _ _)
theorem zGc {s:Sh.S} {r:Int} (hok:Sh.Ok s) (hr:0≤r∧r≤64) (hlt:s.ta<s.tb):Con yF 51 [.agg #[yc yd (s.fi),yc yd (s.st),yc yd (s.ta),yc yd (s.xa),yc yd (s.ya),yc yd (s.za),yc yd (s.qa),yc yd (s.qb),yc yd (s.qc),yc yd (s.qd),yc yd (s.tb),yc yd (s.xb),yc yd (s.yb),yc yd (s.zb),yc yd (s.ra),yc yd (s.rb),yc yd (s.rc),yc yd (s.rd)],yc yd r] [] [] (Y:=Wd×Wd×Wd×Wd×Wd×Wd) (fun y=>True) (fun y=> .agg #[y.1.b,y.1.l,y.2.1.b,y.2.1.l,y.2.2.1.b,y.2.2.1.l,y.2.2.2.1.b,y.2.2.2.1.l,y.2.2.2.2.1.b,y.2.2.2.2.1.l,y.2.2.2.2.2.b,y.2.2.2.2.2.l]) (fun y=>[]) (fun y=>[qF true y.1 y.2.1 ((yx s r).1),qF true y.2.2.1 y.2.2.2.1 ((yx s r).2.1),qF true y.2.2.2.2.1 y.2.2.2.2.2 ((yx s r).2.2)]):=by
 refine zw Tryz.func51 rfl rfl rfl (fun c=> ?_)
 show RunC _ _ _ _ _ [(0,.agg #[yc yd (s.fi),yc yd (s.st),yc yd (s.ta),yc yd (s.xa),yc yd (s.ya),yc yd (s.za),yc yd (s.qa),yc yd (s.qb),yc yd (s.qc),yc yd (s.qd),yc yd (s.tb),yc yd (s.xb),yc yd (s.yb),yc yd (s.zb),yc yd (s.ra),yc yd (s.rb),yc yd (s.rc),yc yd (s.rd)]),(1,yc yd r)] [] []
 have hn:=hok.n
 have hpa:=hok.pa
 have hpb:=hok.pb
 have hqa:=hok.qa
 have hqb:=hok.qb
 have htm:=Sh.tm_b hok hr
 have hrs: -(64*1073741824)≤r*s.st∧r*s.st≤64*1073741824:=by have h8:=htm;unfold Sh.tm at h8;have h9:=Sh.mul_b (x:=r) (y:=s.st) (m:=64) (n:=1073741824) om om;omega
 have hfq:=Sh.frc_hq hok hr
 refine zj<|zc<|zG rfl rfl (zZ rfl rfl) (fun b1=> ?_)
 refine zG rfl rfl (zn zr54 rfl) (fun b2=> ?_)
 refine zk<|zg<|zj<|zc<|e_p (zf yj rfl sz3 rfl rfl)<|e_ru (ze 1 ty3 rfl rfl rfl)<|e_mv rfl<|e_p (zf yj rfl sz3 rfl rfl)<|e_ru (ze 1 ty3 rfl rfl rfl)<|e_p (zQa (z:=(r*s.st)) rfl rfl (w64 om))<|e_p (zI (z:=(s.fi+(r*s.st))) rfl rfl (w64 om))<|e_p (zf yj rfl sz27 rfl rfl)<|e_p (zf yi rfl sz3 rfl rfl)<|e_ru (ze 1 ty3 rfl rfl rfl)<|e_p (zma (z:=((s.fi+(r*s.st)) - s.ta)) rfl rfl (w64 om))<|e_p (zf yj rfl sz27 rfl rfl)<|e_p (zf yi rfl sz3 rfl rfl)<|e_ru (ze 1 ty3 rfl rfl rfl)<|e_p (zf yj rfl sz27 rfl rfl)<|e_p (zf yi rfl sz3 rfl rfl)<|e_ru (ze 1 ty3 rfl rfl rfl)<|e_p (zma (z:=(s.tb - s.ta)) rfl rfl (w64 om))<|zH rfl rfl (.c rfl (.c rfl .n)) ce41 (zEd (z1:=((s.fi+(r*s.st)) - s.ta)) (z2:=(s.tb - s.ta)) (hz1:=yH) (hz2:=yH) (hy:=yH)) (.n) ?_
 rintro ⟨w33,w44⟩ -
 dsimp only [aq,nq,cq]
 refine e_mv rfl<|e_p (zy rfl rfl)<|e_p (zy rfl rfl)<|zG rfl rfl (zn zr44 rfl) (fun b5=> ?_)
 refine zl 0 rfl rfl rfl rfl rfl sz44 rfl (.t4 .nil) .z<|e_p (zh rfl)<|zk<|zg<|zj ?_
 have e6:s.fi+(r*s.st)=Sh.tm s r:=by rfl
 rw [e6]
 have e7:(Rat.divInt ((Sh.tm s r) - s.ta) (s.tb - s.ta):Rat)=yP s r:=by rfl
 rw [e7]
 refine zc<|e_p (zsa zr54 rfl yf sz44 .n .n)<|zG rfl rfl (zn zr54 rfl) (fun b8=> ?_)
 refine zl 0 rfl rfl rfl rfl rfl sz54 rfl (.t8 (.t4 .nil)) .z<|zk<|zg<|zj<|zQ (OW:=[]) (O:=[boxA b8 54 (cw [wz,wz,wz,wz,wz,wz]),boxA b5 44 (cw [w33,w44]),boxA b2 54 (cw [wz,wz,wz,wz,wz,wz]),boxA b1 29 (cS s)]) 28 mixed (.then .ret) kr<|e_pv 0 rfl rfl (zf yj rfl sz27 rfl rfl)<|e_pv 1 rfl rfl (zf yi rfl sz23 rfl rfl)<|e_pv 2 rfl rfl (zf yr rfl sz3 rfl rfl)<|e_u 3 rfl rfl (ze 3 ty3 rfl rfl rfl)<|e_pv 4 rfl rfl (zf yj rfl sz27 rfl rfl)<|e_pv 5 rfl rfl (zf yi rfl sz23 rfl rfl)<|e_pv 6 rfl rfl (zf yr rfl sz3 rfl rfl)<|e_u 7 rfl rfl (ze 3 ty3 rfl rfl rfl)<|e_pv 8 rfl rfl (zf yj rfl sz27 rfl rfl)<|e_pv 9 rfl rfl (zf yi rfl sz23 rfl rfl)<|e_pv 10 rfl rfl (zf yr rfl sz3 rfl rfl)<|e_u 11 rfl rfl (ze 3 ty3 rfl rfl rfl)<|e_pv 12 rfl rfl (zsa zr123 rfl yu sz3 (.c rfl (.c rfl (.c rfl .n))) (.c rfl rfl rfl (.take .nil) (.c rfl rfl rfl (.skip (.take .nil)) (.c rfl rfl rfl (.s2 (.take .nil)) .n))))<|e_pv 13 rfl rfl (zf yj rfl sz27 rfl rfl)<|e_pv 14 rfl rfl (zf yi rfl sz23 rfl rfl)<|e_pv 15 rfl rfl (zf yr rfl sz3 rfl rfl)<|e_u 16 rfl rfl (ze 3 ty3 rfl rfl rfl)<|e_pv 17 rfl rfl (zf yj rfl sz27 rfl rfl)<|e_pv 18 rfl rfl (zf yi rfl sz23 rfl rfl)<|e_pv 19 rfl rfl (zf yr rfl sz3 rfl rfl)<|e_u 20 rfl rfl (ze 3 ty3 rfl rfl rfl)<|e_pv 21 rfl rfl (zf yj rfl sz27 rfl rfl)<|e_pv 22 rfl rfl (zf yi rfl sz23 rfl rfl)<|e_pv 23 rfl rfl (zf yr rfl sz3 rfl rfl)<|e_u 24 rfl rfl (ze 3 ty3 rfl rfl rfl)<|e_pv 25 rfl rfl (zsa zr123 rfl yu sz3 (.c rfl (.c rfl (.c rfl .n))) (.c rfl rfl rfl (.take .nil) (.c rfl rfl rfl (.skip (.take .nil)) (.c rfl rfl rfl (.s2 (.take .nil)) .n))))<|zEb (m':=[(59,.agg #[yc yd (s.xb),yc yd (s.yb),yc yd (s.zb)]),(46,.agg #[yc yd (s.xa),yc yd (s.ya),yc yd (s.za)]),(7,ye (some ⟨b8,0,none⟩)),(5,ye (some ⟨b5,0,none⟩)),(4,ye (some ⟨b2,0,none⟩))]) (R':=[qF true w33 w44 (yP s r)]) ((.of rfl):SubM _ _) (List.Perm.refl _) (List.Perm.refl _) ((.c (j:=0) rfl .n):SelR _ _ _)<|zY (X:=Nat×Nat) (k':=0) (L':=(lb 30 1073741823)) (fun (u26_1,u27_1)=>([(9,ye (some ⟨u27_1,0,none⟩)),(8,ye (some ⟨u26_1,0,none⟩)),(7,ye (some ⟨b8,0,none⟩)),(5,ye (some ⟨b5,0,none⟩)),(4,ye (some ⟨b2,0,none⟩))],[boxA u27_1 123 [yc yd (s.xb),yc yd (s.yb),yc yd (s.zb)],boxA u26_1 123 [yc yd (s.xa),yc yd (s.ya),yc yd (s.za)]],[boxA b8 54 (cw [wz,wz,wz,wz,wz,wz]),boxA b5 44 (cw [w33,w44]),boxA b2 54 (cw [wz,wz,wz,wz,wz,wz]),boxA b1 29 (cS s)],[qF true w33 w44 (yP s r)])) ?_ (fun hD0=> ?_)
 ·
  rintro ⟨u26_1,u27_1⟩
  dsimp only [cw,cS]
  refine zP kr<|zg<|zj<|zj<|zc<|e_mv rfl<|zk<|zg<|zv<|zPa<|zW<|zj<|zc<|e_p (zR rfl rfl)<|zk<|zg<|zj<|zX rfl rfl<|zx<|zg<|zj<|zv<|zj<|zc<|e_mv rfl<|e_p (zh rfl)<|zk<|zg<|zba (.c (i:=2) rfl (.c (i:=0) rfl (.c (i:=0) rfl (.c (i:=0) rfl (.c (i:=0) rfl .n)))))<|zQ (OW:=[boxA b8 54 (cw [wz,wz,wz,wz,wz,wz])]) (O:=[boxA u27_1 123 [yc yd (s.xb),yc yd (s.yb),yc yd (s.zb)],boxA u26_1 123 [yc yd (s.xa),yc yd (s.ya),yc yd (s.za)],boxA b5 44 (cw [w33,w44]),boxA b2 54 (cw [wz,wz,wz,wz,wz,wz])]) 17 mixed (.block (.then (.then (.block (.then .ret))))) kr<|e_dm 0 rfl rfl rfl<|e_dm 1 rfl rfl rfl<|e_pv 2 rfl rfl (zi (i:=0) yu sz3 rfl rfl dd rfl)<|e_uw 3 rfl rfl (ze 2 ty3 rfl rfl rfl)<|e_uw 5 rfl rfl (zd 3 ty44 rfl rfl (.t4 .nil))<|e_dm 6 rfl rfl rfl<|e_pv 7 rfl rfl (zi (i:=0) yu sz3 rfl rfl dd rfl)<|e_uw 8 rfl rfl (ze 1 ty3 rfl rfl rfl)<|e_dm 9 rfl rfl rfl<|e_pv 10 rfl rfl (zi (i:=0) yu sz3 rfl rfl dd rfl)<|e_uw 11 rfl rfl (ze 2 ty3 rfl rfl rfl)<|e_pv 12 rfl rfl (zma (z:=(s.xb - s.xa)) rfl rfl (w64 om))<|e_one 4 (zm rfl rfl rfl rfl (.c rfl .n) ce22 (zra (z:=s.xa) (hz:=yH)) (.n) ?_)
  rintro ⟨w39,w410⟩ -
  dsimp only [aq,nq,cq]
  refine e_one 13 (zm rfl rfl rfl rfl (.c rfl .n) ce22 (zra (z:=(s.xb - s.xa)) (hz:=yH)) (.n) ?_)
  rintro ⟨w311,w412⟩ -
  dsimp only [aq,nq,cq]
  refine e_one 14 (zm rfl rfl rfl rfl (.c rfl (.c rfl .n)) ce54 (zWa (k1:=true) (u1:=w33) (v1:=w44) (q1:=yP s r) (k2:=true) (u2:=w311) (v2:=w412) (q2:=(((s.xb - s.xa):Int):Rat)) (hl:=yH)) (.c (j:=2) rfl (.c (j:=0) rfl .n)) ?_)
  rintro ⟨w313,w414⟩ -
  dsimp only [aq,nq,cq]
  refine e_one 15 (zm rfl rfl rfl rfl (.c rfl (.c rfl .n)) ce25 (zNa (k1:=true) (u1:=w39) (v1:=w410) (q1:=((s.xa:Int):Rat)) (k2:=true) (u2:=w313) (v2:=w414) (q2:=(yP s r)*(((s.xb - s.xa):Int):Rat)) (hl:=yH)) (.c (j:=2) rfl (.c (j:=0) rfl .n)) ?_)
  rintro ⟨w315,w416⟩ -
  dsimp only [aq,nq,cq]
  refine e_pv 16 rfl rfl (zi (i:=0) yf sz44 rfl rfl dd rfl)<|e_one 17 (zp kr rfl rfl rfl rfl rfl sz44 rfl (.t4 .nil) ?_)
  refine zP kr<|zJ<|zg<|zc<|e_p (zI (z:=1) rfl rfl (w64 dd))<|e_mv rfl<|zk<|zfa<|zW<|zj<|zc<|e_p (zR rfl rfl)<|zk<|zg<|zj<|zX rfl rfl<|zx<|zg<|zj<|zv<|zj<|zc<|e_mv rfl<|e_p (zh rfl)<|zk<|zg<|zQ (OW:=[boxA b8 54 (cw [w315,w416,wz,wz,wz,wz])]) (O:=[boxA u27_1 123 [yc yd (s.xb),yc yd (s.yb),yc yd (s.zb)],boxA u26_1 123 [yc yd (s.xa),yc yd (s.ya),yc yd (s.za)],boxA b5 44 (cw [w33,w44]),boxA b2 54 (cw [wz,wz,wz,wz,wz,wz])]) 17 mixed (.block (.then (.then (.block (.then .ret))))) kr<|e_dm 0 rfl rfl rfl<|e_dm 1 rfl rfl rfl<|e_pv 2 rfl rfl (zi (i:=1) yu sz3 rfl rfl dd rfl)<|e_uw 3 rfl rfl (ze 2 ty3 rfl rfl rfl)<|e_uw 5 rfl rfl (zd 3 ty44 rfl rfl (.t4 .nil))<|e_dm 6 rfl rfl rfl<|e_pv 7 rfl rfl (zi (i:=1) yu sz3 rfl rfl dd rfl)<|e_uw 8 rfl rfl (ze 1 ty3 rfl rfl rfl)<|e_dm 9 rfl rfl rfl<|e_pv 10 rfl rfl (zi (i:=1) yu sz3 rfl rfl dd rfl)<|e_uw 11 rfl rfl (ze 2 ty3 rfl rfl rfl)<|e_pv 12 rfl rfl (zma (z:=(s.yb - s.ya)) rfl rfl (w64 om))<|e_one 4 (zm rfl rfl rfl rfl (.c rfl .n) ce22 (zra (z:=s.ya) (hz:=yH)) (.n) ?_)
  rintro ⟨w317,w418⟩ -
  dsimp only [aq,nq,cq]
  refine e_one 13 (zm rfl rfl rfl rfl (.c rfl .n) ce22 (zra (z:=(s.yb - s.ya)) (hz:=yH)) (.n) ?_)
  rintro ⟨w319,w420⟩ -
  dsimp only [aq,nq,cq]
  refine e_one 14 (zm rfl rfl rfl rfl (.c rfl (.c rfl .n)) ce54 (zWa (k1:=true) (u1:=w33) (v1:=w44) (q1:=yP s r) (k2:=true) (u2:=w319) (v2:=w420) (q2:=(((s.yb - s.ya):Int):Rat)) (hl:=yH)) (.c (j:=6) rfl (.c (j:=0) rfl .n)) ?_)
  rintro ⟨w321,w422⟩ -
  dsimp only [aq,nq,cq]
  refine e_one 15 (zm rfl rfl rfl rfl (.c rfl (.c rfl .n)) ce25 (zNa (k1:=true) (u1:=w317) (v1:=w418) (q1:=((s.ya:Int):Rat)) (k2:=true) (u2:=w321) (v2:=w422) (q2:=(yP s r)*(((s.yb - s.ya):Int):Rat)) (hl:=yH)) (.c (j:=2) rfl (.c (j:=0) rfl .n)) ?_)
  rintro ⟨w323,w424⟩ -
  dsimp only [aq,nq,cq]
  refine e_pv 16 rfl rfl (zi (i:=1) yf sz44 rfl rfl dd rfl)<|e_one 17 (zp kr rfl rfl rfl rfl rfl sz44 rfl (.s4 (.t4 .nil)) ?_)
  refine zP kr<|zJ<|zg<|zc<|e_p (zI (z:=2) rfl rfl (w64 dd))<|e_mv rfl<|zk<|zfa<|zW<|zj<|zc<|e_p (zR rfl rfl)<|zk<|zg<|zj<|zX rfl rfl<|zx<|zg<|zj<|zv<|zj<|zc<|e_mv rfl<|e_p (zh rfl)<|zk<|zg<|zQ (OW:=[boxA b8 54 (cw [w315,w416,w323,w424,wz,wz])]) (O:=[boxA u27_1 123 [yc yd (s.xb),yc yd (s.yb),yc yd (s.zb)],boxA u26_1 123 [yc yd (s.xa),yc yd (s.ya),yc yd (s.za)],boxA b5 44 (cw [w33,w44]),boxA b2 54 (cw [wz,wz,wz,wz,wz,wz])]) 17 mixed (.block (.then (.then (.block (.then .ret))))) kr<|e_dm 0 rfl rfl rfl<|e_dm 1 rfl rfl rfl<|e_pv 2 rfl rfl (zi (i:=2) yu sz3 rfl rfl dd rfl)<|e_uw 3 rfl rfl (ze 2 ty3 rfl rfl rfl)<|e_uw 5 rfl rfl (zd 3 ty44 rfl rfl (.t4 .nil))<|e_dm 6 rfl rfl rfl<|e_pv 7 rfl rfl (zi (i:=2) yu sz3 rfl rfl dd rfl)<|e_uw 8 rfl rfl (ze 1 ty3 rfl rfl rfl)<|e_dm 9 rfl rfl rfl<|e_pv 10 rfl rfl (zi (i:=2) yu sz3 rfl rfl dd rfl)<|e_uw 11 rfl rfl (ze 2 ty3 rfl rfl rfl)<|e_pv 12 rfl rfl (zma (z:=(s.zb - s.za)) rfl rfl (w64 om))<|e_one 4 (zm rfl rfl rfl rfl (.c rfl .n) ce22 (zra (z:=s.za) (hz:=yH)) (.n) ?_)
  rintro ⟨w325,w426⟩ -
  dsimp only [aq,nq,cq]
  refine e_one 13 (zm rfl rfl rfl rfl (.c rfl .n) ce22 (zra (z:=(s.zb - s.za)) (hz:=yH)) (.n) ?_)
  rintro ⟨w327,w428⟩ -
  dsimp only [aq,nq,cq]
  refine e_one 14 (zm rfl rfl rfl rfl (.c rfl (.c rfl .n)) ce54 (zWa (k1:=true) (u1:=w33) (v1:=w44) (q1:=yP s r) (k2:=true) (u2:=w327) (v2:=w428) (q2:=(((s.zb - s.za):Int):Rat)) (hl:=yH)) (.c (j:=10) rfl (.c (j:=0) rfl .n)) ?_)
  rintro ⟨w329,w430⟩ -
  dsimp only [aq,nq,cq]
  refine e_one 15 (zm rfl rfl rfl rfl (.c rfl (.c rfl .n)) ce25 (zNa (k1:=true) (u1:=w325) (v1:=w426) (q1:=((s.za:Int):Rat)) (k2:=true) (u2:=w329) (v2:=w430) (q2:=(yP s r)*(((s.zb - s.za):Int):Rat)) (hl:=yH)) (.c (j:=2) rfl (.c (j:=0) rfl .n)) ?_)
  rintro ⟨w331,w432⟩ -
  dsimp only [aq,nq,cq]
  refine e_pv 16 rfl rfl (zi (i:=2) yf sz44 rfl rfl dd rfl)<|e_one 17 (zp kr rfl rfl rfl rfl rfl sz44 rfl (.s8 (.t4 .nil)) ?_)
  refine zP kr<|zJ<|zg<|zc<|e_p (zI (z:=3) rfl rfl (w64 dd))<|e_mv rfl<|zk<|zfa<|zW<|zj<|zc<|e_p (zR rfl rfl)<|zk<|zg<|zj<|zva rfl rfl<|zla<|zo<|zo<|zB<|zg<|zj<|zc<|e_ru (zd 0 ty54 rfl rfl (.t8 (.t4 .nil)))<|zl 4 rfl rfl rfl rfl rfl sz54 rfl (.t8 (.t4 .nil)) (.s (.s (.s (.s .z))))<|zk<|zg<|zS ?_
  exact zM Tryz.results51 (w315,w416,w323,w424,w331,w432) trivial (zr 4 ty54 rfl rfl (.t8 (.t4 .nil))) rfl (ho:=(.n:PickO _ _ _)) ((.of [8,4,0] rfl):SelR _ _ _)
 refine zY (X:=Nat×Nat) (k':=1) (L':=(lb 30 536870911)) (fun (u26_1,u27_1)=>([(9,ye (some ⟨u27_1,0,none⟩)),(8,ye (some ⟨u26_1,0,none⟩)),(59,.agg #[yc yd (s.xb),yc yd (s.yb),yc yd (s.zb)]),(7,ye (some ⟨b8,0,none⟩)),(5,ye (some ⟨b5,0,none⟩)),(4,ye (some ⟨b2,0,none⟩))],[boxA u26_1 123 [yc yd (s.xa),yc yd (s.ya),yc yd (s.za)],boxA u27_1 123 [yc yd 0,yc yd 0,yc yd 0]],[boxA b8 54 (cw [wz,wz,wz,wz,wz,wz]),boxA b5 44 (cw [w33,w44]),boxA b2 54 (cw [wz,wz,wz,wz,wz,wz]),boxA b1 29 (cS s)],[qF true w33 w44 (yP s r)])) ?_ (fun hD1=> ?_)
 ·
  rintro ⟨u26_1,u27_1⟩
  dsimp only [cw,cS]
  refine zxa 29 kr ?_
  ·
   refine zJc (zqa (i:=1) rfl)<|zp kr rfl rfl rfl rfl rfl sz123 rfl (.t2 (.take .nil)) ?_
   exact zA (hD0 (u26_1,u27_1)) kr ((.of rfl):SubM _ _) .rfl .rfl ((.c (j:=0) rfl .n):SelR _ _ _)
 refine zY (X:=Nat×Nat) (k':=2) (L':=(lb 30 268435455)) (fun (u26_1,u27_1)=>([(9,ye (some ⟨u27_1,0,none⟩)),(8,ye (some ⟨u26_1,0,none⟩)),(59,.agg #[yc yd (s.xb),yc yd (s.yb),yc yd (s.zb)]),(46,.agg #[yc yd (s.xa),yc yd (s.ya),yc yd (s.za)]),(7,ye (some ⟨b8,0,none⟩)),(5,ye (some ⟨b5,0,none⟩)),(4,ye (some ⟨b2,0,none⟩))],[boxA u27_1 123 [yc yd 0,yc yd 0,yc yd 0],boxA u26_1 123 [yc yd 0,yc yd 0,yc yd 0]],[boxA b8 54 (cw [wz,wz,wz,wz,wz,wz]),boxA b5 44 (cw [w33,w44]),boxA b2 54 (cw [wz,wz,wz,wz,wz,wz]),boxA b1 29 (cS s)],[qF true w33 w44 (yP s r)])) ?_ (fun hD2=> ?_)
 ·
  rintro ⟨u26_1,u27_1⟩
  dsimp only [cw,cS]
  refine zxa 28 kr ?_
  ·
   refine zJc (zqa (i:=1) rfl)<|zp kr rfl rfl rfl rfl rfl sz123 rfl (.t2 (.take .nil)) ?_
   exact zA (hD1 (u26_1,u27_1)) kr ((.of rfl):SubM _ _) .rfl .rfl ((.c (j:=0) rfl .n):SelR _ _ _)
 refine zY (X:=Nat) (k':=3) (L':=(lb 30 134217727)) (fun u26_1=>([(8,ye (some ⟨u26_1,0,none⟩)),(59,.agg #[yc yd (s.xb),yc yd (s.yb),yc yd (s.zb)]),(46,.agg #[yc yd (s.xa),yc yd (s.ya),yc yd (s.za)]),(7,ye (some ⟨b8,0,none⟩)),(5,ye (some ⟨b5,0,none⟩)),(4,ye (some ⟨b2,0,none⟩))],[boxA u26_1 123 [yc yd 0,yc yd 0,yc yd 0]],[boxA b8 54 (cw [wz,wz,wz,wz,wz,wz]),boxA b5 44 (cw [w33,w44]),boxA b2 54 (cw [wz,wz,wz,wz,wz,wz]),boxA b1 29 (cS s)],[qF true w33 w44 (yP s r)])) ?_ (fun hD3=> ?_)
 ·
  rintro u26_1
  dsimp only [cw,cS]
  refine zxa 27 kr ?_
  ·
   refine zoa rfl rfl rfl rfl (zn zr123 rfl) (fun u27_1 _=> ?_)
   exact zA (hD2 (u26_1,u27_1)) kr ((.of rfl):SubM _ _) .rfl .rfl ((.c (j:=0) rfl .n):SelR _ _ _)
 refine zY (X:=Nat) (k':=3) (L':=(lb 30 201326591)) (fun u27_1=>([(9,ye (some ⟨u27_1,0,none⟩)),(59,.agg #[yc yd (s.xb),yc yd (s.yb),yc yd (s.zb)]),(46,.agg #[yc yd (s.xa),yc yd (s.ya),yc yd (s.za)]),(7,ye (some ⟨b8,0,none⟩)),(5,ye (some ⟨b5,0,none⟩)),(4,ye (some ⟨b2,0,none⟩))],[boxA u27_1 123 [yc yd 0,yc yd 0,yc yd 0]],[boxA b8 54 (cw [wz,wz,wz,wz,wz,wz]),boxA b5 44 (cw [w33,w44]),boxA b2 54 (cw [wz,wz,wz,wz,wz,wz]),boxA b1 29 (cS s)],[qF true w33 w44 (yP s r)])) ?_ (fun hD4=> ?_)
 ·
  rintro u27_1
  dsimp only [cw,cS]
  refine zxa 26 kr ?_
  ·
   refine zoa rfl rfl rfl rfl (zn zr123 rfl) (fun u26_1 _=> ?_)
   exact zA (hD2 (u26_1,u27_1)) kr ((.of rfl):SubM _ _) (zoc 1 rfl (zoc 0 rfl .nil)) .rfl ((.c (j:=0) rfl .n):SelR _ _ _)
 refine zXa 26 27 kr ?_ ?_
 ·
  refine zoa rfl rfl rfl rfl (zn zr123 rfl) (fun u26_1 _=> ?_)
  exact zA (hD3 u26_1) kr ((.of rfl):SubM _ _) .rfl .rfl ((.c (j:=0) rfl .n):SelR _ _ _)
 ·
  refine zoa rfl rfl rfl rfl (zn zr123 rfl) (fun u27_1 _=> ?_)
  exact zA (hD4 u27_1) kr ((.of rfl):SubM _ _) .rfl .rfl ((.c (j:=0) rfl .n):SelR _ _ _)
theorem zMb {v:Int} (h64v: -9223372036854775808≤v∧v≤9223372036854775807):Con yF 16 [yc yd v] [] [] (Y:=Unit) (fun y=>True) (fun y=> yc yd (yh v)) (fun y=>[]) (fun y=>[]):=by
 refine zw Tryz.func16 rfl rfl rfl (fun c=> ?_)
 show RunC _ _ _ _ _ [(0,yc yd v)] [] []
 have ht:=Sh.tm64 v
 have hd:=Int.tmod_add_mul_tdiv v 64
 refine zj<|zc<|e_p (zh rfl)<|zk<|zg<|zj<|zc<|e_mv rfl<|e_p (zcb (z:=(v).tdiv 64) rfl rfl (by first|omega|decide) (w64 (by first|omega|decide)))<|e_p (zh rfl)<|zk<|zg<|zj<|zj<|zc<|e_mv rfl<|e_p (zgb (z:=(v).tmod 64) rfl rfl (by first|omega|decide) rfl)<|e_p (zR rfl rfl)<|zk<|zg<|zT rfl (fun hneg=> ?_) (fun hneg=> ?_)
 ·
  have hro:=Sh.ro_lt hneg
  refine zc<|e_mv rfl<|e_p (zma (z:=((v).tdiv 64 - 1)) rfl rfl (w64 (by (unfold yh at hro;omega))))<|e_p (zh rfl)<|zk<|zg<|zj<|zc<|e_mv rfl<|e_p (zh rfl)<|zk<|zg<|zS ?_
  exact zM Tryz.results16 () trivial (zD rfl) (by rw [hro]) (ho:=(.n:PickO _ _ _)) (.n:SelR _ _ _)
 ·
  have hro:=Sh.ro_ge hneg
  refine zx<|zg<|zj<|zc<|e_mv rfl<|e_p (zh rfl)<|zk<|zg<|zS ?_
  exact zM Tryz.results16 () trivial (zD rfl) (by rw [hro]) (ho:=(.n:PickO _ _ _)) (.n:SelR _ _ _)
end Go.Proofs.YtjeahiahjgifgaaGreatDoor.Sp
namespace Go.Proofs.YtjeahiahjgifgaaGreatDoor.Sp
open Go
set_option linter.unusedVariables false
set_option maxRecDepth 100000
set_option maxHeartbeats 8000000
theorem zCe {cm:Sh.C} {p1:Option Addr} {n1:Nat} {c1:Nat} {lr:List Int} {p2:Option Addr} {n2:Nat} {c2:Nat} {ll:List Int} (h64fo: -9223372036854775808≤cm.fo∧cm.fo≤9223372036854775807) (h64cx: -9223372036854775808≤cm.cx∧cm.cx≤9223372036854775807) (h64cy: -9223372036854775808≤cm.cy∧cm.cy≤9223372036854775807) (hn1:lr.length=n1) (hn2:ll.length=n2):Con yF 15 [.agg #[yc yd (cm.fo),yc yd (cm.cx),yc yd (cm.cy)],.slice p1 n1 c1,.slice p2 n2 c2] [] [slF (rI .i64) p1 c1 lr,slF (rI .i64) p2 c2 ll] (Y:=Unit) (fun y=>True) (fun y=> .bool (decide (Sh.lcam cm lr ll))) (fun y=>[]) (fun y=>[]):=by
 refine zw Tryz.func15 rfl rfl rfl (fun c=> ?_)
 show RunC _ _ _ _ _ [(0,.agg #[yc yd (cm.fo),yc yd (cm.cx),yc yd (cm.cy)]),(1,.slice p1 n1 c1),(2,.slice p2 n2 c2)] [] [slF (rI .i64) p1 c1 lr,slF (rI .i64) p2 c2 ll]
 refine zua 0 rfl (fun hL0=> ?_)
 refine zua 1 rfl (fun hL1=> ?_)
 refine zj<|zc<|zG rfl rfl (zZ rfl rfl) (fun b1=> ?_)
 refine e_p (zh rfl)<|zk<|zg<|zj<|zj<|zc<|e_mv rfl<|e_p (zga yD rfl)<|e_mv rfl<|zk<|zg<|zv<|zFa (X:=Nat) (fun x:Nat=>x≤n1∧∀j,j<x→0≤lr.getD j 0∧lr.getD j 0<64) (fun x=>[(11,yc yd ((x:Nat):Int)),(10,yc yd ((n1:Nat):Int)),(9,.slice p1 n1 c1),(3,ye (some ⟨b1,0,none⟩)),(2,.slice p2 n2 c2)]) (fun x=>[boxA b1 37 [yc yd (cm.fo),yc yd (cm.cx),yc yd (cm.cy)]]) (fun x=>[slF (rI .i64) p1 c1 lr,slF (rI .i64) p2 c2 ll]) (fun x:Nat=>n1 - x) 0 (show 0≤n1∧∀j,j<0→0≤lr.getD j 0∧lr.getD j 0<64 from by exact ⟨Nat.zero_le _,fun j h=>by omega⟩) ((.e rfl (by first|rfl|(congr 1;omega)|simp_all) (.of rfl)):SubM _ _) (ho:=((.c (i:=0) rfl .n):PickO _ _ _)) ((.of [0,1] rfl):SelR _ _ _) ?_
 rintro i hI
 replace hI:i≤n1∧∀j,j<i→0≤lr.getD j 0∧lr.getD j 0<64:=hI
 try dsimp only
 obtain ⟨hi,hall⟩:=hI
 refine zj<|zc<|e_p (zR rfl rfl)<|zk<|zg<|zj<|zT rfl (fun h2=> ?_) (fun h2=> ?_)
 ·
  refine zx<|zg<|zj<|zv<|zj<|zc<|zV (x0:=(lr.getD i 0)) 0 i rfl yD sz3 rfl rfl rfl cbs rfl rfl (gD (d:=0) om) (fun b3 o4 hok5=> ?_)
  replace hok5:=zq.1 hok5
  refine e_ru (zC (j:=0) 0 ty3 rfl rfl rfl rfl)<|e_p (zh rfl)<|zk<|zg<|zDa (X:=Unit) (fun x=>True) (fun x=>[(20,.bool (decide (((lr.getD i 0)<0)∨(64≤(lr.getD i 0))))),(11,yc yd ((i:Nat):Int)),(10,yc yd ((n1:Nat):Int)),(9,.slice p1 n1 c1),(3,ye (some ⟨b1,0,none⟩)),(2,.slice p2 n2 c2)]) (fun x=>[boxA b1 37 [yc yd (cm.fo),yc yd (cm.cx),yc yd (cm.cy)]]) (fun x=>[atF b3 o4 [yc yd (lr.getD i 0)],slF (rI .i64) p1 c1 lr,slF (rI .i64) p2 c2 ll]) ?_ ?_
  ·
   refine zc<|e_mv rfl<|e_p (zR rfl rfl)<|zja rfl rfl (zka rfl) (fun h6=> ?_) (fun h6=> ?_)
   ·
    refine e_no<|e_no<|e_p (zL rfl rfl)<|zk ?_
    exact zha () (show True from by first|trivial|omega|simp_all) ((.e rfl (congrArg Value.bool cbu) (.of rfl)):SubM _ _) (ho:=((.c (i:=0) rfl .n):PickO _ _ _)) ((.of [0,1,2] rfl):SelR _ _ _)
   ·
    refine e_mv rfl<|e_p (zub rfl rfl)<|e_p (zL rfl rfl)<|zk ?_
    exact zha () (show True from by first|trivial|omega|simp_all) ((.e rfl (congrArg Value.bool cbu) (.of rfl)):SubM _ _) (ho:=((.c (i:=0) rfl .n):PickO _ _ _)) ((.of [0,1,2] rfl):SelR _ _ _)
  ·
   rintro ⟨⟩ -
   try dsimp only
   refine zT rfl (fun hb=> ?_) (fun hb=> ?_)
   ·
    refine zj<|zc<|e_p (zh rfl)<|zk<|zg<|zS<|zea<|zt<|zt<|zea<|zt ?_
    exact zM Tryz.results15 () trivial (zD rfl) (congrArg Value.bool (decide_eq_false (fun k=>Sh.rows_not (j:=i) om hb k.1))) (ho:=(.n:PickO _ _ _)) (.n:SelR _ _ _)
   ·
    refine zx<|zJ<|zg<|zc<|e_p (zI (z:=(((i+1):Nat):Int)) rfl rfl (w64 om))<|e_mv rfl<|zk<|zBa (i+1) (show (i+1)≤n1∧∀j,j<(i+1)→0≤lr.getD j 0∧lr.getD j 0<64 from by refine ⟨by omega,fun j hj=> ?_⟩;by_cases e:j=i;(subst e;omega);exact hall j om) (by show n1 - (i+1)<n1 - i;omega) ((.of rfl):SubM _ _) (ho:=((.c (i:=0) rfl .n):PickO _ _ _)) ((.of [1,2] rfl):SelR _ _ _)
 ·
  refine zla<|zo<|zo<|zB<|zg<|zDa (X:=Unit) (fun x=>True) (fun x=>[(6,.bool (decide ((((1≤cm.fo)∧(cm.fo≤1048576))∧(Sh.wi 1048576 ([cm.cx,cm.cy])))∧(Sh.wi 1048576 ll))))]) (fun x=>[boxA b1 37 [yc yd (cm.fo),yc yd (cm.cx),yc yd (cm.cy)]]) (fun x=>[slF (rI .i64) p1 c1 lr,slF (rI .i64) p2 c2 ll]) ?_ ?_
  ·
   refine zc<|e_p (zf yE rfl sz3 rfl rfl)<|e_ru (ze 0 ty3 rfl rfl rfl)<|e_p (zub rfl rfl)<|zja rfl rfl (zka rfl) (fun h7=> ?_) (fun h7=> ?_)
   ·
    refine e_p (zf yE rfl sz3 rfl rfl)<|e_ru (ze 0 ty3 rfl rfl rfl)<|e_p (zlc rfl rfl)<|e_p (zL rfl rfl)<|zja rfl rfl (zka rfl) (fun h8=> ?_) (fun h8=> ?_)
    ·
     refine e_p (zf yE rfl sz35 rfl rfl)<|e_p (zf yA rfl sz3 rfl rfl)<|e_ru (ze 0 ty3 rfl rfl rfl)<|e_p (zf yE rfl sz35 rfl rfl)<|e_p (zf yA rfl sz3 rfl rfl)<|e_ru (ze 0 ty3 rfl rfl rfl)<|zJa rfl rfl (zN (enc:=fun z:Int=>[yc yd z]) (ok:=InK .i64) (h1:=fun _=>rfl) (h2:=fun _=>rfl) (k:=2) yD inf3 rfl dd dd dd (.c (x:=cm.cx) rfl rfl (fun _ _=>by exact zq.2 om) (.c (x:=cm.cy) rfl rfl (fun _ _=>by exact zq.2 om) .n))) (fun b9 _=> ?_)
     refine zia 0 rfl .z<|zU rfl rfl (.c rfl (.c rfl .n)) ce23 (zsb (p:=some ⟨b9,0,none⟩) (n:=2) (cap:=2) (l:=[cm.cx,cm.cy]) (m:=1048576) (hn:=cbd) (hm:=cbd)) (.c (j:=0) rfl .n)<|e_p (zL rfl rfl)<|zja rfl rfl (zka rfl) (fun h10=> ?_) (fun h10=> ?_)
     ·
      refine e_mv rfl<|zU rfl rfl (.c rfl (.c rfl .n)) ce23 (zsb (p:=p2) (n:=n2) (cap:=c2) (l:=ll) (m:=1048576) (hn:=ass) (hm:=cbd)) (.c (j:=2) rfl .n)<|e_p (zL rfl rfl)<|e_p (zh rfl)<|zk ?_
      exact zha () (show True from by first|trivial|omega|simp_all) ((.e rfl (congrArg Value.bool cbu) .n):SubM _ _) (ho:=((.c (i:=1) rfl .n):PickO _ _ _)) ((.of [1,2] rfl):SelR _ _ _)
     ·
      refine e_no<|e_no<|e_p (zL rfl rfl)<|e_p (zh rfl)<|zk ?_
      exact zha () (show True from by first|trivial|omega|simp_all) ((.e rfl (congrArg Value.bool cbu) .n):SubM _ _) (ho:=((.c (i:=1) rfl .n):PickO _ _ _)) ((.of [1,2] rfl):SelR _ _ _)
    ·
     refine e_no<|e_no<|e_no<|e_no<|e_no<|e_no<|e_no<|e_no<|e_p (zL rfl rfl)<|e_mv rfl<|e_no<|e_no<|e_p (zL rfl rfl)<|e_p (zh rfl)<|zk ?_
     exact zha () (show True from by first|trivial|omega|simp_all) ((.e rfl (congrArg Value.bool cbu) .n):SubM _ _) (ho:=((.c (i:=0) rfl .n):PickO _ _ _)) ((.of [0,1] rfl):SelR _ _ _)
   ·
    refine e_no<|e_no<|e_no<|e_p (zL rfl rfl)<|e_mv rfl<|e_no<|e_no<|e_no<|e_no<|e_no<|e_no<|e_no<|e_no<|e_p (zL rfl rfl)<|e_mv rfl<|e_no<|e_no<|e_p (zL rfl rfl)<|e_p (zh rfl)<|zk ?_
    exact zha () (show True from by first|trivial|omega|simp_all) ((.e rfl (congrArg Value.bool cbu) .n):SubM _ _) (ho:=((.c (i:=0) rfl .n):PickO _ _ _)) ((.of [0,1] rfl):SelR _ _ _)
  ·
   rintro ⟨⟩ -
   try dsimp only
   refine zS ?_
   exact zM Tryz.results15 () trivial (zD rfl) (congrArg Value.bool (decide_eq_decide.2 (by have hrows:=Sh.rows_get (l:=lr) (fun j hj=>hall j om);unfold Sh.lcam Sh.cam;rw [Sh.wi_2];exact ⟨fun k=>⟨⟨k.2.1.1,k.2.1.2⟩,k.2.2⟩,fun k=>⟨hrows,⟨k.1.1,k.1.2⟩,k.2⟩⟩))) (ho:=(.n:PickO _ _ _)) (.n:SelR _ _ _)
theorem zFb {u1:Wd} {v1:Wd} {q1:Rat} {u2:Wd} {v2:Wd} {q2:Rat} {u3:Wd} {v3:Wd} {q3:Rat} {u4:Wd} {v4:Wd} {q4:Rat} (hl1:yQ q1+yQ q3+1≤1048576) (hl2:yQ q2+yQ q4+1≤1048576):Con yF 21 [.agg #[u1.b,u1.l,v1.b,v1.l,u2.b,u2.l,v2.b,v2.l],.agg #[u3.b,u3.l,v3.b,v3.l,u4.b,u4.l,v4.b,v4.l]] [] [qF true u1 v1 q1,qF true u2 v2 q2,qF true u3 v3 q3,qF true u4 v4 q4] (Y:=Unit) (fun y=>True) (fun y=> .bool (decide (q1=q3∧q2=q4))) (fun y=>[]) (fun y=>[]):=by
 refine zw Tryz.func21 rfl rfl rfl (fun c=> ?_)
 show RunC _ _ _ _ _ [(0,.agg #[u1.b,u1.l,v1.b,v1.l,u2.b,u2.l,v2.b,v2.l]),(1,.agg #[u3.b,u3.l,v3.b,v3.l,u4.b,u4.l,v4.b,v4.l])] [] [qF true u1 v1 q1,qF true u2 v2 q2,qF true u3 v3 q3,qF true u4 v4 q4]
 refine zj<|zc<|zG rfl rfl (zZ rfl rfl) (fun b1=> ?_)
 refine zG rfl rfl (zZ rfl rfl) (fun b2=> ?_)
 refine e_p (zh rfl)<|zk<|zg<|zDa (X:=Unit) (fun x=>True) (fun x=>[(4,.bool (decide ((q1=q3)∧(q2=q4))))]) (fun x=>[boxA b2 46 (cw [u3,v3,u4,v4]),boxA b1 46 (cw [u1,v1,u2,v2])]) (fun x=>[qF true u1 v1 q1,qF true u2 v2 q2,qF true u3 v3 q3,qF true u4 v4 q4]) ?_ ?_
 ·
  refine zc<|e_p (zf yp rfl sz44 rfl rfl)<|e_ru (zd 1 ty44 rfl rfl (.t4 .nil))<|e_p (zf yp rfl sz44 rfl rfl)<|e_ru (zd 0 ty44 rfl rfl (.t4 .nil))<|zU rfl rfl (.c rfl (.c rfl .n)) ce27 (zGd (u1:=u1) (v1:=v1) (q1:=q1) (u2:=u3) (v2:=v3) (q2:=q3) (hl:=ass)) (.c (j:=0) rfl (.c (j:=2) rfl .n))<|zja rfl rfl (zka rfl) (fun h3=> ?_) (fun h3=> ?_)
  ·
   refine e_p (zf yp rfl sz44 rfl rfl)<|e_ru (zd 1 ty44 rfl rfl (.s4 (.t4 .nil)))<|e_p (zf yp rfl sz44 rfl rfl)<|e_ru (zd 0 ty44 rfl rfl (.s4 (.t4 .nil)))<|zU rfl rfl (.c rfl (.c rfl .n)) ce27 (zGd (u1:=u2) (v1:=v2) (q1:=q2) (u2:=u4) (v2:=v4) (q2:=q4) (hl:=ass)) (.c (j:=1) rfl (.c (j:=3) rfl .n))<|e_p (zL rfl rfl)<|e_p (zh rfl)<|zk ?_
   exact zha () (show True from by first|trivial|omega|simp_all) ((.e rfl (congrArg Value.bool cbu) .n):SubM _ _) (ho:=((.of [0,0] rfl):PickO _ _ _)) ((.of [0,1,2,3] rfl):SelR _ _ _)
  ·
   refine e_no<|e_no<|e_no<|e_no<|e_no<|e_p (zL rfl rfl)<|e_p (zh rfl)<|zk ?_
   exact zha () (show True from by first|trivial|omega|simp_all) ((.e rfl (congrArg Value.bool cbu) .n):SubM _ _) (ho:=((.of [0,0] rfl):PickO _ _ _)) ((.of [0,1,2,3] rfl):SelR _ _ _)
 ·
  rintro ⟨⟩ -
  try dsimp only [cw]
  refine zS ?_
  exact zM Tryz.results21 () trivial (zD rfl) rfl (ho:=(.n:PickO _ _ _)) (.n:SelR _ _ _)
theorem zRf {u1:Wd} {v1:Wd} {u2:Wd} {v2:Wd}:Con yF 55 [.agg #[u1.b,u1.l,v1.b,v1.l,u2.b,u2.l,v2.b,v2.l]] [] [] (Y:=Unit) (fun y=>True) (fun y=> .bool (decide (Wd.zz u1 v1∧Wd.zz u2 v2))) (fun y=>[]) (fun y=>[]):=by
 refine zw Tryz.func55 rfl rfl rfl (fun c=> ?_)
 show RunC _ _ _ _ _ [(0,.agg #[u1.b,u1.l,v1.b,v1.l,u2.b,u2.l,v2.b,v2.l])] [] []
 refine zj<|zc<|zG rfl rfl (zZ rfl rfl) (fun b1=> ?_)
 refine e_p (zh rfl)<|zk<|zg<|zDa (X:=Unit) (fun x=>True) (fun x=>[(2,.bool (decide ((Wd.zz u1 v1)∧(Wd.zz u2 v2))))]) (fun x=>[boxA b1 46 (cw [u1,v1,u2,v2])]) (fun x=>[]) ?_ ?_
 ·
  refine zc<|e_p (zf yp rfl sz44 rfl rfl)<|e_ru (zd 0 ty44 rfl rfl (.t4 .nil))<|zU rfl rfl (.c rfl .n) ce34 (zHd (u1:=u1) (v1:=v1)) (.n)<|zja rfl rfl (zka rfl) (fun h2=> ?_) (fun h2=> ?_)
  ·
   refine e_p (zf yp rfl sz44 rfl rfl)<|e_ru (zd 0 ty44 rfl rfl (.s4 (.t4 .nil)))<|zU rfl rfl (.c rfl .n) ce34 (zHd (u1:=u2) (v1:=v2)) (.n)<|e_p (zL rfl rfl)<|e_p (zh rfl)<|zk ?_
   exact zha () (show True from by first|trivial|omega|simp_all) ((.e rfl (congrArg Value.bool cbu) .n):SubM _ _) (ho:=((.c (i:=0) rfl .n):PickO _ _ _)) (.n:SelR _ _ _)
  ·
   refine e_no<|e_no<|e_no<|e_p (zL rfl rfl)<|e_p (zh rfl)<|zk ?_
   exact zha () (show True from by first|trivial|omega|simp_all) ((.e rfl (congrArg Value.bool cbu) .n):SubM _ _) (ho:=((.c (i:=0) rfl .n):PickO _ _ _)) (.n:SelR _ _ _)
 ·
  rintro ⟨⟩ -
  try dsimp only [cw]
  refine zS ?_
  exact zM Tryz.results55 () trivial (zD rfl) rfl (ho:=(.n:PickO _ _ _)) (.n:SelR _ _ _)
theorem zcf {u1:Wd} {v1:Wd} {q1:Rat} {k1:Bool} {u2:Wd} {v2:Wd} {q2:Rat} {k2:Bool} {u3:Wd} {v3:Wd} {q3:Rat} {k3:Bool} {u4:Wd} {v4:Wd} {q4:Rat} {k4:Bool} {e:Int} {co:Int} (hec:e=co) (hk:co=0→k1=true∧k2=true∧k3=true∧k4=true∧q1=q3∧q2=q4) (hz:co≠0→u1=wz∧v1=wz∧u2=wz∧v2=wz) (hb:∀i∈[q1,q2,q3,q4],yQ i≤5000):Con yF 20 [.agg #[u1.b,u1.l,v1.b,v1.l,u2.b,u2.l,v2.b,v2.l],yc yd e,.agg #[u3.b,u3.l,v3.b,v3.l,u4.b,u4.l,v4.b,v4.l],yc yd co] [] [qF k1 u1 v1 q1,qF k2 u2 v2 q2,qF k3 u3 v3 q3,qF k4 u4 v4 q4] (Y:=Unit) (fun y=>True) (fun y=> .bool true) (fun y=>[]) (fun y=>[]):=by
 refine zw Tryz.func20 rfl rfl rfl (fun c=> ?_)
 show RunC _ _ _ _ _ [(0,.agg #[u1.b,u1.l,v1.b,v1.l,u2.b,u2.l,v2.b,v2.l]),(1,yc yd e),(2,.agg #[u3.b,u3.l,v3.b,v3.l,u4.b,u4.l,v4.b,v4.l]),(3,yc yd co)] [] [qF k1 u1 v1 q1,qF k2 u2 v2 q2,qF k3 u3 v3 q3,qF k4 u4 v4 q4]
 have hb1:yQ q1≤5000:=hb q1 (by simp)
 have hb2:yQ q2≤5000:=hb q2 (by simp)
 have hb3:yQ q3≤5000:=hb q3 (by simp)
 have hb4:yQ q4≤5000:=hb q4 (by simp)
 refine zj<|zc<|zG rfl rfl (zZ rfl rfl) (fun b1=> ?_)
 refine zG rfl rfl (zZ rfl rfl) (fun b2=> ?_)
 refine e_p (zh rfl)<|zk<|zg<|zj<|zj<|zc<|e_mv rfl<|e_p (zCb rfl rfl)<|zk<|zg<|zT rfl (fun hc=> ?_) (fun hc=> ?_)
 ·
  obtain ⟨hz1,hz2,hz3,hz4⟩:=hz hc
  refine zj<|zc<|e_mv rfl<|e_mv rfl<|e_p (zOa rfl rfl) ?_
  rw [show (decide (e=co))=true from by exact decide_eq_true hec]
  refine e_mv rfl<|e_ru (zd 1 ty46 rfl rfl (.t8 .nil))<|zU rfl rfl (.c rfl .n) ce55 (zRf (u1:=u1) (v1:=v1) (u2:=u2) (v2:=v2)) (.n) ?_
  rw [show (decide (Wd.zz u1 v1∧Wd.zz u2 v2))=true from by exact decide_eq_true (by rw [hz1,hz2,hz3,hz4];exact ⟨Wd.zz_wz,Wd.zz_wz⟩)]
  refine e_p (zL rfl rfl)<|e_p (zh rfl)<|zk<|zg<|zS<|zt ?_
  exact zM Tryz.results20 () trivial (zD rfl) rfl (ho:=(.n:PickO _ _ _)) (.n:SelR _ _ _)
 ·
  have hc0:=Decidable.not_not.1 hc
  obtain ⟨hk1,hk2,hk3,hk4,hk5,hk6⟩:=hk hc0
  have e3:k1=true:=by exact hk1
  subst e3
  have e4:k2=true:=by exact hk2
  subst e4
  have e5:k3=true:=by exact hk3
  subst e5
  have e6:k4=true:=by exact hk4
  subst e6
  refine zx<|zg<|zj<|zc<|e_mv rfl<|e_p (zOa rfl rfl) ?_
  rw [show (decide (e=0))=true from by exact decide_eq_true (hec.trans hc0)]
  refine e_mv rfl<|e_ru (zd 1 ty46 rfl rfl (.t8 .nil))<|e_ru (zd 0 ty46 rfl rfl (.t8 .nil))<|zU rfl rfl (.c rfl (.c rfl .n)) ce21 (zFb (u1:=u1) (v1:=v1) (q1:=q1) (u2:=u2) (v2:=v2) (q2:=q2) (u3:=u3) (v3:=v3) (q3:=q3) (u4:=u4) (v4:=v4) (q4:=q4) (hl1:=cbo) (hl2:=cbo)) (.c (j:=0) rfl (.c (j:=1) rfl (.c (j:=2) rfl (.c (j:=3) rfl .n)))) ?_
  rw [show (decide (q1=q3∧q2=q4))=true from by exact decide_eq_true ⟨hk5,hk6⟩]
  refine e_p (zL rfl rfl)<|e_p (zh rfl)<|zk<|zg<|zS ?_
  exact zM Tryz.results20 () trivial (zD rfl) rfl (ho:=(.n:PickO _ _ _)) (.n:SelR _ _ _)
theorem zJb:Con yF 40 [] [] [] (Y:=Unit) (fun y=>True) (fun y=> .agg #[yc yd 0,yc yd 10,yc yd 0,yc yd 0,yc yd 0,yc yd 1000,yc yd 0,yc yd 1,yc yd 0,yc yd 0,yc yd 100,yc yd 100,yc yd 0,yc yd 1000,yc yd 0,yc yd 1,yc yd 0,yc yd 0]) (fun y=>[]) (fun y=>[]):=by
 refine zw Tryz.func40 rfl rfl rfl (fun c=> ?_)
 show RunC _ _ _ _ _ [] [] []
 refine zj<|zc<|zG rfl rfl (zn zr29 rfl) (fun b1=> ?_)
 refine zk<|zg<|zj<|zc<|e_p (zu zr25 rfl yl (.c sz3 (.c sz3 (.c sz3 (.c sz3 .n)))) (.c rfl .n) (.c rfl rfl rfl (.skip (.take .nil)) .n))<|zG rfl rfl (zn zr25 rfl) (fun b2=> ?_)
 refine zl 0 rfl rfl rfl rfl rfl sz25 rfl (.t4 .nil) .z<|zk<|zg<|zj<|zc<|e_p (zu zr23 rfl yr (.c sz3 (.c sz3 (.c sz3 .n))) (.c rfl .n) (.c rfl rfl rfl (.s2 (.take .nil)) .n))<|e_ru (zd 0 ty25 rfl rfl (.t4 .nil))<|e_p (zu zr27 rfl yi (.c sz3 (.c sz23 (.c sz25 .n))) (.c rfl (.c rfl .n)) (.c rfl rfl rfl (.skip (.t2 (.take .nil))) (.c rfl rfl rfl (.s4 (.t4 .nil)) .n)))<|e_p (zu zr23 rfl yr (.c sz3 (.c sz3 (.c sz3 .n))) (.c rfl (.c rfl .n)) (.c rfl rfl rfl (.take .nil) (.c rfl rfl rfl (.s2 (.take .nil)) .n)))<|e_ru (zd 0 ty25 rfl rfl (.t4 .nil))<|e_p (zu zr27 rfl yi (.c sz3 (.c sz23 (.c sz25 .n))) (.c rfl (.c rfl (.c rfl .n))) (.c rfl rfl rfl (.take .nil) (.c rfl rfl rfl (.skip (.t2 (.take .nil))) (.c rfl rfl rfl (.s4 (.t4 .nil)) .n))))<|e_p (zu zr29 rfl yj (.c sz3 (.c sz3 (.c sz27 (.c sz27 .n)))) (.c rfl (.c rfl (.c rfl .n))) (.c rfl rfl rfl (.skip (.take .nil)) (.c rfl rfl rfl (.s2 (.t8 .nil)) (.c rfl rfl rfl (.s8 (.s2 (.t8 .nil))) .n))))<|zl 1 rfl rfl rfl rfl rfl sz29 rfl (.t8 (.t8 (.t2 .nil))) (.s .z)<|zk<|zg<|zS ?_
 exact zM Tryz.results40 () trivial (zr 1 ty29 rfl rfl (.t8 (.t8 (.t2 .nil)))) rfl (ho:=(.n:PickO _ _ _)) (.n:SelR _ _ _)
end Go.Proofs.YtjeahiahjgifgaaGreatDoor.Sp
namespace Go.Proofs.YtjeahiahjgifgaaGreatDoor.Sp
open Go
set_option linter.unusedVariables false
set_option maxRecDepth 100000
set_option maxHeartbeats 8000000
theorem zAf:Con yF 11 [] [] [sgF] (Y:=Unit) (fun y=>True) (fun y=> .bool true) (fun y=>[]) (fun y=>[]):=by
 refine zw Tryz.func11 rfl rfl rfl (fun c=> ?_)
 show RunC _ _ _ _ _ [] [] [sgF]
 refine zj<|zc<|e_p (zh rfl)<|zk<|zg<|zj<|zc<|e_p (zu zr37 rfl yE (.c sz3 (.c sz35 .n)) (.c rfl .n) (.c rfl rfl rfl (.take .nil) .n))<|zG rfl rfl (zn zr37 rfl) (fun b1=> ?_)
 refine zl 0 rfl rfl rfl rfl rfl sz37 rfl (.t2 (.take .nil)) .z<|zk<|zg<|zj<|zQ (OW:=[]) (O:=[boxA b1 37 [yc yd 640,yc yd 0,yc yd 0]]) 8 mixed (.then .ret) kr<|e_u 1 rfl rfl (zd 0 ty37 rfl rfl (.t2 (.take .nil)))<|e_pv 2 rfl rfl (zu zr35 rfl yA (.c sz3 (.c sz3 .n)) (.c rfl (.c rfl .n)) (.c rfl rfl rfl (.take .nil) (.c rfl rfl rfl (.skip (.take .nil)) .n)))<|zEb (m':=[(12,.agg #[yc yd 64,yc yd 128]),(11,.agg #[yc yd 640,yc yd 0,yc yd 0]),(1,ye (some ⟨b1,0,none⟩)),(0,.bool false)]) (R':=[sgF]) ((.of rfl):SubM _ _) (List.Perm.refl _) (List.Perm.refl _) ((.c (j:=0) rfl .n):SelR _ _ _)<|zY (X:=Wd×Wd×Wd×Wd×Nat) (k':=0) (L':=(lb 10 1023)) (fun (u3_1,u3_2,u3_3,u3_4,u7_1)=>([(3,yc yd (Sh.Gc yz yB 64 128 0)),(2,ye (some ⟨u7_1,0,none⟩)),(1,ye (some ⟨b1,0,none⟩)),(0,.bool false)],[boxA u7_1 46 (cw [u3_1,u3_2,u3_3,u3_4])],[boxA b1 37 [yc yd 640,yc yd 0,yc yd 0]],[qF (decide (Sh.Gc yz yB 64 128 0=0)) u3_1 u3_2 (Sh.Gx yz yB 64 128 0),qF (decide (Sh.Gc yz yB 64 128 0=0)) u3_3 u3_4 (Sh.Gy yz yB 64 128 0),sgF])) ?_ (fun hD0=> ?_)
 ·
  rintro ⟨u3_1,u3_2,u3_3,u3_4,u7_1⟩
  dsimp only [cw,cS]
  refine zP kr<|zg<|zj ?_
  have e2:(decide (Sh.Gc yz yB 64 128 0=0))=true:=by exact decide_eq_true Sh.ex_gc
  rw [e2]
  have e3:(Sh.Gx yz yB 64 128 0:Rat)=((120:Int):Rat):=by exact Sh.ex_gx
  rw [e3]
  have e4:(Sh.Gy yz yB 64 128 0:Rat)=((-200:Int):Rat):=by exact Sh.ex_gy
  rw [e4]
  have e5:(Sh.Gc yz yB 64 128 0:Int)=0:=by exact Sh.ex_gc
  rw [e5]
  refine zQ (OW:=[]) (O:=[boxA u7_1 46 (cw [u3_1,u3_2,u3_3,u3_4]),boxA b1 37 [yc yd 640,yc yd 0,yc yd 0]]) 8 mixed (.then .ret) kr<|e_u 1 rfl rfl (zd 1 ty37 rfl rfl (.t2 (.take .nil)))<|e_pv 2 rfl rfl (zu zr35 rfl yA (.c sz3 (.c sz3 .n)) (.c rfl (.c rfl .n)) (.c rfl rfl rfl (.take .nil) (.c rfl rfl rfl (.skip (.take .nil)) .n)))<|zEb (m':=[(19,.agg #[yc yd 64,yc yd 128]),(18,.agg #[yc yd 640,yc yd 0,yc yd 0]),(3,yc yd 0),(2,ye (some ⟨u7_1,0,none⟩)),(0,.bool false)]) (R':=[qF true u3_1 u3_2 ((120:Int):Rat),qF true u3_3 u3_4 ((-200:Int):Rat),sgF]) ((.of rfl):SubM _ _) (List.Perm.refl _) (List.Perm.refl _) ((.of [0,1,2] rfl):SelR _ _ _)<|zY (X:=Wd×Wd×Wd×Wd×Nat) (k':=0) (L':=(lb 10 1023)) (fun (u3_1r2,u3_2r2,u3_3r2,u3_4r2,u7_1r2)=>([(5,yc yd (Sh.Cc yz yB 64 128 0 0)),(4,ye (some ⟨u7_1r2,0,none⟩)),(3,yc yd 0),(2,ye (some ⟨u7_1,0,none⟩)),(0,.bool false)],[boxA u7_1r2 46 (cw [u3_1r2,u3_2r2,u3_3r2,u3_4r2])],[boxA u7_1 46 (cw [u3_1,u3_2,u3_3,u3_4]),boxA b1 37 [yc yd 640,yc yd 0,yc yd 0]],[qF (decide (Sh.Cc yz yB 64 128 0 0=0)) u3_1r2 u3_2r2 (Sh.Cx yz yB 64 128 0 0),qF (decide (Sh.Cc yz yB 64 128 0 0=0)) u3_3r2 u3_4r2 (Sh.Cy yz yB 64 128 0 0),qF true u3_1 u3_2 ((120:Int):Rat),qF true u3_3 u3_4 ((-200:Int):Rat),sgF])) ?_ (fun hD0=> ?_)
  ·
   rintro ⟨u3_1r2,u3_2r2,u3_3r2,u3_4r2,u7_1r2⟩
   dsimp only [cw,cS]
   refine zP kr<|zg<|zj ?_
   have e6:(decide (Sh.Cc yz yB 64 128 0 0=0))=true:=by exact decide_eq_true Sh.ex_cc
   rw [e6]
   have e7:(Sh.Cx yz yB 64 128 0 0:Rat)=Rat.divInt 384 5:=by exact Sh.ex_cx
   rw [e7]
   have e8:(Sh.Cy yz yB 64 128 0 0:Rat)=((128:Int):Rat):=by exact Sh.ex_cy
   rw [e8]
   have e9:(Sh.Cc yz yB 64 128 0 0:Int)=0:=by exact Sh.ex_cc
   rw [e9]
   refine zc<|zH rfl rfl (.c rfl (.c rfl .n)) ce41 (zEd (z1:=384) (z2:=5) (hz1:=yn) (hz2:=yn) (hy:=yn)) (.n) ?_
   rintro ⟨w310,w411⟩ -
   dsimp only [aq,nq,cq]
   refine e_mv rfl<|e_p (zy rfl rfl)<|e_p (zy rfl rfl)<|zG rfl rfl (zn zr44 rfl) (fun b12=> ?_)
   refine zl 0 rfl rfl rfl rfl rfl sz44 rfl (.t4 .nil) .z<|e_p (zh rfl)<|zk<|zg<|zj<|zQ (OW:=[]) (O:=[boxA b12 44 (cw [w310,w411]),boxA u7_1r2 46 (cw [u3_1r2,u3_2r2,u3_3r2,u3_4r2]),boxA u7_1 46 (cw [u3_1,u3_2,u3_3,u3_4]),boxA b1 37 [yc yd 640,yc yd 0,yc yd 0]]) 100000 mixed (.then .ret) kr<|e_dm 0 rfl rfl rfl<|e_pv 1 rfl rfl (zOa rfl rfl)<|e_dm 2 rfl rfl rfl<|e_dm 3 rfl rfl rfl<|e_pv 4 rfl rfl (zOa rfl rfl)<|e_pv 5 rfl rfl (zL rfl rfl)<|e_dm 6 rfl rfl rfl<|e_u 7 rfl rfl (zd 2 ty46 rfl rfl (.t8 .nil))<|e_one 8 (zm rfl rfl rfl rfl (.c rfl .n) ce22 (zra (z:=120) (hz:=yn)) (.n) ?_)
   rintro ⟨w313,w414⟩ -
   dsimp only [aq,nq,cq]
   refine e_one 9 (zm rfl rfl rfl rfl (.c rfl .n) ce22 (zra (z:=(-200)) (hz:=yn)) (.n) ?_)
   rintro ⟨w315,w416⟩ -
   dsimp only [aq,nq,cq]
   refine e_pv 10 rfl rfl (zu zr46 rfl yp (.c sz44 (.c sz44 .n)) (.c rfl (.c rfl .n)) (.c rfl rfl rfl (.t4 .nil) (.c rfl rfl rfl (.s4 (.t4 .nil)) .n)))<|e_one 11 (zCa rfl rfl rfl rfl (.c rfl (.c rfl .n)) ce21 (zFb (u1:=u3_1) (v1:=u3_2) (q1:=((120:Int):Rat)) (u2:=u3_3) (v2:=u3_4) (q2:=((-200:Int):Rat)) (u3:=w313) (v3:=w414) (q3:=((120:Int):Rat)) (u4:=w315) (v4:=w416) (q4:=(((-200):Int):Rat)) (hl1:=yn) (hl2:=yn)) (.c (j:=5) rfl (.c (j:=6) rfl (.c (j:=1) rfl (.c (j:=0) rfl .n)))) ?_)
   rw [show (decide (((120:Int):Rat)=((120:Int):Rat)∧((-200:Int):Rat)=(((-200):Int):Rat)))=true from by exact decide_eq_true ⟨rfl,rfl⟩]
   refine e_pv 12 rfl rfl (zL rfl rfl)<|e_dm 13 rfl rfl rfl<|e_u 14 rfl rfl (zd 1 ty46 rfl rfl (.t8 .nil))<|e_u 15 rfl rfl (zd 0 ty44 rfl rfl (.t4 .nil))<|e_one 16 (zm rfl rfl rfl rfl (.c rfl .n) ce22 (zra (z:=128) (hz:=yn)) (.n) ?_)
   rintro ⟨w317,w418⟩ -
   dsimp only [aq,nq,cq]
   refine e_pv 17 rfl rfl (zu zr46 rfl yp (.c sz44 (.c sz44 .n)) (.c rfl (.c rfl .n)) (.c rfl rfl rfl (.t4 .nil) (.c rfl rfl rfl (.s4 (.t4 .nil)) .n)))<|e_one 18 (zCa rfl rfl rfl rfl (.c rfl (.c rfl .n)) ce21 (zFb (u1:=u3_1r2) (v1:=u3_2r2) (q1:=(Rat.divInt 384 5)) (u2:=u3_3r2) (v2:=u3_4r2) (q2:=((128:Int):Rat)) (u3:=w310) (v3:=w411) (q3:=Rat.divInt 384 5) (u4:=w317) (v4:=w418) (q4:=((128:Int):Rat)) (hl1:=yn) (hl2:=yn)) (.c (j:=4) rfl (.c (j:=5) rfl (.c (j:=3) rfl (.c (j:=0) rfl .n)))) ?_)
   rw [show (decide ((Rat.divInt 384 5)=(Rat.divInt 384 5)∧((128:Int):Rat)=((128:Int):Rat)))=true from by exact decide_eq_true ⟨rfl,rfl⟩]
   refine e_pv 19 rfl rfl (zL rfl rfl)<|e_dm 20 rfl rfl rfl<|e_one 21 (zCa rfl rfl rfl rfl (.n) ce40 (zJb) (.n) ?_)
   refine e_one 22 (zCa rfl rfl rfl rfl (.c rfl (.c rfl .n)) ce12 (zyc (s:=yz) (n:=64) (hfi:=yn) (hst:=yn) (hta:=yn) (htb:=yn) (hxa:=yn) (hya:=yn) (hza:=yn) (hqa:=yn) (hqb:=yn) (hqc:=yn) (hqd:=yn) (hxb:=yn) (hyb:=yn) (hzb:=yn) (hra:=yn) (hrb:=yn) (hrc:=yn) (hrd:=yn)) (.n) ?_)
   refine e_pv 23 rfl rfl (zOa rfl rfl) ?_
   rw [show (decide (Sh.chk yz 64=0))=true from by exact decide_eq_true Sh.ex_chk]
   refine e_pv 24 rfl rfl (zL rfl rfl)<|e_pv 25 rfl rfl (zh rfl)<|zP kr<|zg<|zS ?_
   exact zM Tryz.results11 () trivial (zD rfl) rfl (ho:=(.n:PickO _ _ _)) (.n:SelR _ _ _)
  refine zY (X:=Wd×Wd×Wd×Wd×Nat) (k':=2) (L':=(lb 10 255)) (fun (u3_1r2,u3_2r2,u3_3r2,u3_4r2,u7_1r2)=>([(4,ye (some ⟨u7_1r2,0,none⟩)),(22,yc yd (Sh.Cc yz yB 64 128 0 0)),(21,.agg (cw [u3_1r2,u3_2r2,u3_3r2,u3_4r2]).toArray),(3,yc yd 0),(2,ye (some ⟨u7_1,0,none⟩)),(0,.bool false)],[boxA u7_1r2 46 (cw [wz,wz,wz,wz])],[boxA u7_1 46 (cw [u3_1,u3_2,u3_3,u3_4]),boxA b1 37 [yc yd 640,yc yd 0,yc yd 0]],[qF (decide (Sh.Cc yz yB 64 128 0 0=0)) u3_1r2 u3_2r2 (Sh.Cx yz yB 64 128 0 0),qF (decide (Sh.Cc yz yB 64 128 0 0=0)) u3_3r2 u3_4r2 (Sh.Cy yz yB 64 128 0 0),qF true u3_1 u3_2 ((120:Int):Rat),qF true u3_3 u3_4 ((-200:Int):Rat),sgF])) ?_ (fun hD1=> ?_)
  ·
   rintro ⟨u3_1r2,u3_2r2,u3_3r2,u3_4r2,u7_1r2⟩
   dsimp only [cw,cS]
   refine zxa 8 kr ?_
   ·
    refine zp kr rfl rfl rfl rfl rfl sz46 rfl (.t8 .nil)<|e_pv 9 rfl rfl (zh rfl) ?_
    exact zA (hD0 (u3_1r2,u3_2r2,u3_3r2,u3_4r2,u7_1r2)) kr ((.of rfl):SubM _ _) .rfl .rfl ((.of [0,1,2,3,4] rfl):SelR _ _ _)
  refine zY (X:=Wd×Wd×Wd×Wd) (k':=3) (L':=(lb 10 127)) (fun (u3_1r2,u3_2r2,u3_3r2,u3_4r2)=>([(22,yc yd (Sh.Cc yz yB 64 128 0 0)),(21,.agg (cw [u3_1r2,u3_2r2,u3_3r2,u3_4r2]).toArray),(3,yc yd 0),(2,ye (some ⟨u7_1,0,none⟩)),(0,.bool false)],[],[boxA u7_1 46 (cw [u3_1,u3_2,u3_3,u3_4]),boxA b1 37 [yc yd 640,yc yd 0,yc yd 0]],[qF (decide (Sh.Cc yz yB 64 128 0 0=0)) u3_1r2 u3_2r2 (Sh.Cx yz yB 64 128 0 0),qF (decide (Sh.Cc yz yB 64 128 0 0=0)) u3_3r2 u3_4r2 (Sh.Cy yz yB 64 128 0 0),qF true u3_1 u3_2 ((120:Int):Rat),qF true u3_3 u3_4 ((-200:Int):Rat),sgF])) ?_ (fun hD2=> ?_)
  ·
   rintro ⟨u3_1r2,u3_2r2,u3_3r2,u3_4r2⟩
   dsimp only [cw,cS]
   refine zxa 7 kr ?_
   ·
    refine zoa rfl rfl rfl rfl (zn zr46 rfl) (fun u7_1r2 _=> ?_)
    exact zA (hD1 (u3_1r2,u3_2r2,u3_3r2,u3_4r2,u7_1r2)) kr ((.of rfl):SubM _ _) .rfl .rfl ((.of [0,1,2,3,4] rfl):SelR _ _ _)
  refine zY (X:=Nat) (k':=6) (L':=(lb 10 135)) (fun u7_1r2=>([(4,ye (some ⟨u7_1r2,0,none⟩)),(17,.agg #[yc yd 0,yc yd 10,yc yd 0,yc yd 0,yc yd 0,yc yd 1000,yc yd 0,yc yd 1,yc yd 0,yc yd 0,yc yd 100,yc yd 100,yc yd 0,yc yd 1000,yc yd 0,yc yd 1,yc yd 0,yc yd 0]),(19,.agg #[yc yd 64,yc yd 128]),(18,.agg #[yc yd 640,yc yd 0,yc yd 0]),(3,yc yd 0),(2,ye (some ⟨u7_1,0,none⟩)),(0,.bool false)],[boxA u7_1r2 46 (cw [wz,wz,wz,wz])],[boxA u7_1 46 (cw [u3_1,u3_2,u3_3,u3_4]),boxA b1 37 [yc yd 640,yc yd 0,yc yd 0]],[qF true u3_1 u3_2 ((120:Int):Rat),qF true u3_3 u3_4 ((-200:Int):Rat),sgF])) ?_ (fun hD3=> ?_)
  ·
   rintro u7_1r2
   dsimp only [cw,cS]
   refine zxa 3 kr ?_
   ·
    refine zm rfl rfl rfl rfl (.c rfl (.c rfl (.c rfl (.c rfl (.c rfl .n))))) ce14 (zod (s:=yz) (cm:=yB) (u:=64) (v:=128) (r:=0) (h:=0) (hfi:=yn) (hst:=yn) (hta:=yn) (htb:=yn) (hxa:=yn) (hya:=yn) (hza:=yn) (hqa:=yn) (hqb:=yn) (hqc:=yn) (hqd:=yn) (hxb:=yn) (hyb:=yn) (hzb:=yn) (hra:=yn) (hrb:=yn) (hrc:=yn) (hrd:=yn) (h64fo:=yn) (h64cx:=yn) (h64cy:=yn) (h64u:=yn) (h64v:=yn) (h64r:=yn) (h64h:=yn)) (.c (j:=2) rfl .n) ?_
    rintro ⟨u3_1r2,u3_2r2,u3_3r2,u3_4r2⟩ hph2
    dsimp only [aq,nq,cq]
    replace hph2:Sh.Cc yz yB 64 128 0 0≠0→u3_1r2=wz∧u3_2r2=wz∧u3_3r2=wz∧u3_4r2=wz:=hph2
    refine e_dm 4 rfl rfl rfl<|e_pv 5 rfl rfl (zy rfl rfl)<|e_pv 6 rfl rfl (zy rfl rfl) ?_
    exact zA (hD1 (u3_1r2,u3_2r2,u3_3r2,u3_4r2,u7_1r2)) kr ((.of rfl):SubM _ _) .rfl .rfl ((.of [0,1,2,3,4] rfl):SelR _ _ _)
  refine zY (X:=Unit) (k':=7) (L':=(lb 10 7)) (fun _=>([(17,.agg #[yc yd 0,yc yd 10,yc yd 0,yc yd 0,yc yd 0,yc yd 1000,yc yd 0,yc yd 1,yc yd 0,yc yd 0,yc yd 100,yc yd 100,yc yd 0,yc yd 1000,yc yd 0,yc yd 1,yc yd 0,yc yd 0]),(19,.agg #[yc yd 64,yc yd 128]),(18,.agg #[yc yd 640,yc yd 0,yc yd 0]),(3,yc yd 0),(2,ye (some ⟨u7_1,0,none⟩)),(0,.bool false)],[],[boxA u7_1 46 (cw [u3_1,u3_2,u3_3,u3_4]),boxA b1 37 [yc yd 640,yc yd 0,yc yd 0]],[qF true u3_1 u3_2 ((120:Int):Rat),qF true u3_3 u3_4 ((-200:Int):Rat),sgF])) ?_ (fun hD4=> ?_)
  ·
   rintro ⟨⟩
   dsimp only [cw,cS]
   refine zXa 3 7 kr ?_ ?_
   ·
    refine zm rfl rfl rfl rfl (.c rfl (.c rfl (.c rfl (.c rfl (.c rfl .n))))) ce14 (zod (s:=yz) (cm:=yB) (u:=64) (v:=128) (r:=0) (h:=0) (hfi:=yn) (hst:=yn) (hta:=yn) (htb:=yn) (hxa:=yn) (hya:=yn) (hza:=yn) (hqa:=yn) (hqb:=yn) (hqc:=yn) (hqd:=yn) (hxb:=yn) (hyb:=yn) (hzb:=yn) (hra:=yn) (hrb:=yn) (hrc:=yn) (hrd:=yn) (h64fo:=yn) (h64cx:=yn) (h64cy:=yn) (h64u:=yn) (h64v:=yn) (h64r:=yn) (h64h:=yn)) (.c (j:=2) rfl .n) ?_
    rintro ⟨u3_1r2,u3_2r2,u3_3r2,u3_4r2⟩ hph2
    dsimp only [aq,nq,cq]
    replace hph2:Sh.Cc yz yB 64 128 0 0≠0→u3_1r2=wz∧u3_2r2=wz∧u3_3r2=wz∧u3_4r2=wz:=hph2
    refine e_dm 4 rfl rfl rfl<|e_pv 5 rfl rfl (zy rfl rfl)<|e_pv 6 rfl rfl (zy rfl rfl) ?_
    exact zA (hD2 (u3_1r2,u3_2r2,u3_3r2,u3_4r2)) kr ((.of rfl):SubM _ _) .rfl .rfl ((.of [0,1,2,3,4] rfl):SelR _ _ _)
   ·
    refine zoa rfl rfl rfl rfl (zn zr46 rfl) (fun u7_1r2 _=> ?_)
    exact zA (hD3 u7_1r2) kr ((.of rfl):SubM _ _) .rfl .rfl ((.of [0,1,2] rfl):SelR _ _ _)
  refine zY (X:=Nat) (k':=7) (L':=(lb 10 134)) (fun u7_1r2=>([(4,ye (some ⟨u7_1r2,0,none⟩)),(19,.agg #[yc yd 64,yc yd 128]),(18,.agg #[yc yd 640,yc yd 0,yc yd 0]),(3,yc yd 0),(2,ye (some ⟨u7_1,0,none⟩)),(0,.bool false)],[boxA u7_1r2 46 (cw [wz,wz,wz,wz])],[boxA u7_1 46 (cw [u3_1,u3_2,u3_3,u3_4]),boxA b1 37 [yc yd 640,yc yd 0,yc yd 0]],[qF true u3_1 u3_2 ((120:Int):Rat),qF true u3_3 u3_4 ((-200:Int):Rat),sgF])) ?_ (fun hD5=> ?_)
  ·
   rintro u7_1r2
   dsimp only [cw,cS]
   refine zxa 0 kr ?_
   ·
    refine zCa rfl rfl rfl rfl (.n) ce40 (zJb) (.n) ?_
    exact zA (hD3 u7_1r2) kr ((.of rfl):SubM _ _) .rfl .rfl ((.of [0,1,2] rfl):SelR _ _ _)
  refine zXa 0 7 kr ?_ ?_
  ·
   refine zCa rfl rfl rfl rfl (.n) ce40 (zJb) (.n) ?_
   exact zA (hD4 ()) kr ((.of rfl):SubM _ _) .rfl .rfl ((.of [0,1,2] rfl):SelR _ _ _)
  ·
   refine zoa rfl rfl rfl rfl (zn zr46 rfl) (fun u7_1r2 _=> ?_)
   exact zA (hD5 u7_1r2) kr ((.of rfl):SubM _ _) .rfl .rfl ((.of [0,1,2] rfl):SelR _ _ _)
 refine zY (X:=Wd×Wd×Wd×Wd×Nat) (k':=2) (L':=(lb 10 255)) (fun (u3_1,u3_2,u3_3,u3_4,u7_1)=>([(2,ye (some ⟨u7_1,0,none⟩)),(15,yc yd (Sh.Gc yz yB 64 128 0)),(14,.agg (cw [u3_1,u3_2,u3_3,u3_4]).toArray),(1,ye (some ⟨b1,0,none⟩)),(0,.bool false)],[boxA u7_1 46 (cw [wz,wz,wz,wz])],[boxA b1 37 [yc yd 640,yc yd 0,yc yd 0]],[qF (decide (Sh.Gc yz yB 64 128 0=0)) u3_1 u3_2 (Sh.Gx yz yB 64 128 0),qF (decide (Sh.Gc yz yB 64 128 0=0)) u3_3 u3_4 (Sh.Gy yz yB 64 128 0),sgF])) ?_ (fun hD1=> ?_)
 ·
  rintro ⟨u3_1,u3_2,u3_3,u3_4,u7_1⟩
  dsimp only [cw,cS]
  refine zxa 8 kr ?_
  ·
   refine zp kr rfl rfl rfl rfl rfl sz46 rfl (.t8 .nil)<|e_pv 9 rfl rfl (zh rfl) ?_
   exact zA (hD0 (u3_1,u3_2,u3_3,u3_4,u7_1)) kr ((.of rfl):SubM _ _) .rfl .rfl ((.of [0,1,2] rfl):SelR _ _ _)
 refine zY (X:=Wd×Wd×Wd×Wd) (k':=3) (L':=(lb 10 127)) (fun (u3_1,u3_2,u3_3,u3_4)=>([(15,yc yd (Sh.Gc yz yB 64 128 0)),(14,.agg (cw [u3_1,u3_2,u3_3,u3_4]).toArray),(1,ye (some ⟨b1,0,none⟩)),(0,.bool false)],[],[boxA b1 37 [yc yd 640,yc yd 0,yc yd 0]],[qF (decide (Sh.Gc yz yB 64 128 0=0)) u3_1 u3_2 (Sh.Gx yz yB 64 128 0),qF (decide (Sh.Gc yz yB 64 128 0=0)) u3_3 u3_4 (Sh.Gy yz yB 64 128 0),sgF])) ?_ (fun hD2=> ?_)
 ·
  rintro ⟨u3_1,u3_2,u3_3,u3_4⟩
  dsimp only [cw,cS]
  refine zxa 7 kr ?_
  ·
   refine zoa rfl rfl rfl rfl (zn zr46 rfl) (fun u7_1 _=> ?_)
   exact zA (hD1 (u3_1,u3_2,u3_3,u3_4,u7_1)) kr ((.of rfl):SubM _ _) .rfl .rfl ((.of [0,1,2] rfl):SelR _ _ _)
 refine zY (X:=Nat) (k':=6) (L':=(lb 10 135)) (fun u7_1=>([(2,ye (some ⟨u7_1,0,none⟩)),(10,.agg #[yc yd 0,yc yd 10,yc yd 0,yc yd 0,yc yd 0,yc yd 1000,yc yd 0,yc yd 1,yc yd 0,yc yd 0,yc yd 100,yc yd 100,yc yd 0,yc yd 1000,yc yd 0,yc yd 1,yc yd 0,yc yd 0]),(12,.agg #[yc yd 64,yc yd 128]),(11,.agg #[yc yd 640,yc yd 0,yc yd 0]),(1,ye (some ⟨b1,0,none⟩)),(0,.bool false)],[boxA u7_1 46 (cw [wz,wz,wz,wz])],[boxA b1 37 [yc yd 640,yc yd 0,yc yd 0]],[sgF])) ?_ (fun hD3=> ?_)
 ·
  rintro u7_1
  dsimp only [cw,cS]
  refine zxa 3 kr ?_
  ·
   refine zm rfl rfl rfl rfl (.c rfl (.c rfl (.c rfl (.c rfl .n)))) ce24 (zOc (s:=yz) (cm:=yB) (u:=64) (v:=128) (h:=0) (hfi:=yn) (hst:=yn) (hta:=yn) (htb:=yn) (hxa:=yn) (hya:=yn) (hza:=yn) (hqa:=yn) (hqb:=yn) (hqc:=yn) (hqd:=yn) (hxb:=yn) (hyb:=yn) (hzb:=yn) (hra:=yn) (hrb:=yn) (hrc:=yn) (hrd:=yn) (h64fo:=yn) (h64cx:=yn) (h64cy:=yn) (h64u:=yn) (h64v:=yn) (h64h:=yn)) (.c (j:=0) rfl .n) ?_
   rintro ⟨u3_1,u3_2,u3_3,u3_4⟩ hph1
   dsimp only [aq,nq,cq]
   replace hph1:Sh.Gc yz yB 64 128 0≠0→u3_1=wz∧u3_2=wz∧u3_3=wz∧u3_4=wz:=hph1
   refine e_dm 4 rfl rfl rfl<|e_pv 5 rfl rfl (zy rfl rfl)<|e_pv 6 rfl rfl (zy rfl rfl) ?_
   exact zA (hD1 (u3_1,u3_2,u3_3,u3_4,u7_1)) kr ((.of rfl):SubM _ _) .rfl .rfl ((.of [0,1,2] rfl):SelR _ _ _)
 refine zY (X:=Unit) (k':=7) (L':=(lb 10 7)) (fun _=>([(10,.agg #[yc yd 0,yc yd 10,yc yd 0,yc yd 0,yc yd 0,yc yd 1000,yc yd 0,yc yd 1,yc yd 0,yc yd 0,yc yd 100,yc yd 100,yc yd 0,yc yd 1000,yc yd 0,yc yd 1,yc yd 0,yc yd 0]),(12,.agg #[yc yd 64,yc yd 128]),(11,.agg #[yc yd 640,yc yd 0,yc yd 0]),(1,ye (some ⟨b1,0,none⟩)),(0,.bool false)],[],[boxA b1 37 [yc yd 640,yc yd 0,yc yd 0]],[sgF])) ?_ (fun hD4=> ?_)
 ·
  rintro ⟨⟩
  dsimp only
  refine zXa 3 7 kr ?_ ?_
  ·
   refine zm rfl rfl rfl rfl (.c rfl (.c rfl (.c rfl (.c rfl .n)))) ce24 (zOc (s:=yz) (cm:=yB) (u:=64) (v:=128) (h:=0) (hfi:=yn) (hst:=yn) (hta:=yn) (htb:=yn) (hxa:=yn) (hya:=yn) (hza:=yn) (hqa:=yn) (hqb:=yn) (hqc:=yn) (hqd:=yn) (hxb:=yn) (hyb:=yn) (hzb:=yn) (hra:=yn) (hrb:=yn) (hrc:=yn) (hrd:=yn) (h64fo:=yn) (h64cx:=yn) (h64cy:=yn) (h64u:=yn) (h64v:=yn) (h64h:=yn)) (.c (j:=0) rfl .n) ?_
   rintro ⟨u3_1,u3_2,u3_3,u3_4⟩ hph1
   dsimp only [aq,nq,cq]
   replace hph1:Sh.Gc yz yB 64 128 0≠0→u3_1=wz∧u3_2=wz∧u3_3=wz∧u3_4=wz:=hph1
   refine e_dm 4 rfl rfl rfl<|e_pv 5 rfl rfl (zy rfl rfl)<|e_pv 6 rfl rfl (zy rfl rfl) ?_
   exact zA (hD2 (u3_1,u3_2,u3_3,u3_4)) kr ((.of rfl):SubM _ _) .rfl .rfl ((.of [0,1,2] rfl):SelR _ _ _)
  ·
   refine zoa rfl rfl rfl rfl (zn zr46 rfl) (fun u7_1 _=> ?_)
   exact zA (hD3 u7_1) kr ((.of rfl):SubM _ _) .rfl .rfl ((.c (j:=0) rfl .n):SelR _ _ _)
 refine zY (X:=Nat) (k':=7) (L':=(lb 10 134)) (fun u7_1=>([(2,ye (some ⟨u7_1,0,none⟩)),(12,.agg #[yc yd 64,yc yd 128]),(11,.agg #[yc yd 640,yc yd 0,yc yd 0]),(1,ye (some ⟨b1,0,none⟩)),(0,.bool false)],[boxA u7_1 46 (cw [wz,wz,wz,wz])],[boxA b1 37 [yc yd 640,yc yd 0,yc yd 0]],[sgF])) ?_ (fun hD5=> ?_)
 ·
  rintro u7_1
  dsimp only [cw,cS]
  refine zxa 0 kr ?_
  ·
   refine zCa rfl rfl rfl rfl (.n) ce40 (zJb) (.n) ?_
   exact zA (hD3 u7_1) kr ((.of rfl):SubM _ _) .rfl .rfl ((.c (j:=0) rfl .n):SelR _ _ _)
 refine zXa 0 7 kr ?_ ?_
 ·
  refine zCa rfl rfl rfl rfl (.n) ce40 (zJb) (.n) ?_
  exact zA (hD4 ()) kr ((.of rfl):SubM _ _) .rfl .rfl ((.c (j:=0) rfl .n):SelR _ _ _)
 ·
  refine zoa rfl rfl rfl rfl (zn zr46 rfl) (fun u7_1 _=> ?_)
  exact zA (hD5 u7_1) kr ((.of rfl):SubM _ _) .rfl .rfl ((.c (j:=0) rfl .n):SelR _ _ _)
end Go.Proofs.YtjeahiahjgifgaaGreatDoor.Sp
namespace Go.Proofs.YtjeahiahjgifgaaGreatDoor.Sp
open Go
set_option linter.unusedVariables false
set_option maxRecDepth 100000
set_option maxHeartbeats 8000000
theorem zSf {p:Option Addr} {n:Nat} {cap:Nat} {l:List Rat} (hn:l.length=n) (hn9:n≤9) (hl:Sh.hqAll 20 l):Con yF 85 [.slice p n cap] [] [slF rQ p cap l] (Y:=Wd×Wd) (fun y=>True) (fun y=> .agg #[y.1.b,y.1.l,y.2.b,y.2.l]) (fun y=>[]) (fun y=>[qF true y.1 y.2 (yG l)]):=by
 refine zw Tryz.func85 rfl rfl rfl (fun c=> ?_)
 show RunC _ _ _ _ _ [(0,.slice p n cap)] [] [slF rQ p cap l]
 refine zua 0 rfl (fun hL0=> ?_)
 refine zj<|zc<|zG rfl rfl (zn zr44 rfl) (fun b1=> ?_)
 refine zk<|zg<|zj<|zc<|zH rfl rfl (.c rfl .n) ce22 (zra (z:=0) (hz:=by first|rfl|assumption|omega|(have h1:=Sh.sumL_hq hl i om;have h2:=Sh.hqAll_get hl i om;omega))) (.n) ?_
 rintro ⟨w32,w43⟩ -
 dsimp only [aq,nq,cq]
 refine zG rfl rfl (zn zr44 rfl) (fun b4=> ?_)
 refine zl 0 rfl rfl rfl rfl rfl sz44 rfl (.t4 .nil) .z<|zk<|zg<|zj<|zj<|zc<|e_p (zh rfl)<|zk<|zg<|zv<|zFa (X:=Nat×Wd×Wd) (fun x:Nat×Wd×Wd=>x.1≤n) (fun x=>[(4,yc yd ((x.1:Nat):Int)),(3,ye (some ⟨b4,0,none⟩)),(2,ye (some ⟨b1,0,none⟩)),(0,.slice p n cap)]) (fun x=>[boxA b4 44 (cw [x.2.1,x.2.2]),boxA b1 44 (cw [wz,wz])]) (fun x=>[qF true x.2.1 x.2.2 (yG (l.take x.1)),qF true w32 w43 ((0:Int):Rat),slF rQ p cap l]) (fun x:Nat×Wd×Wd=>n - x.1) (0,w32,w43) (show 0≤n from by exact Nat.zero_le _) ((.e rfl (by first|rfl|(congr 1;omega)|simp_all) (.of rfl)):SubM _ _) (ho:=((.of [0,0] rfl):PickO _ _ _)) ((.e (j:=0) rfl (by rfl) (.of [0,1] rfl)):SelR _ _ _) ?_
 rintro ⟨i,wa,wb⟩ hI
 replace hI:i≤n:=hI
 try dsimp only [cw]
 refine zj<|zj<|zc<|e_mv rfl<|e_mv rfl<|e_p (zga yw rfl)<|e_p (zR rfl rfl)<|zk<|zg<|zT rfl (fun h5=> ?_) (fun h5=> ?_)
 ·
  refine zx<|zg<|zj<|zv<|zQ (OW:=[boxA b4 44 (cw [wa,wb])]) (O:=[boxA b1 44 (cw [wz,wz])]) 6 mixed (.block (.then (.then (.block (.then .ret))))) kr<|e_uw 0 rfl rfl (zd 0 ty44 rfl rfl (.t4 .nil))<|e_dm 1 rfl rfl rfl<|e_dm 2 rfl rfl rfl<|d_vl 3 rfl rfl kr kr rfl rfl (zJd (x0:=(l.getD i (0:Rat))) 2 i rfl yw sz44 rfl cbs rfl rfl (gD (d:=(0:Rat)) om)) ?_
  rintro ⟨b6,o7,w8,w9⟩ -
  dsimp only [aq,nq,cq]
  refine d_mapR open_rQ<|e_u 4 rfl rfl (zca (j:=0) 0 ty44 rfl rfl rfl (.t4 .nil))<|e_one 5 (zm rfl rfl rfl rfl (.c rfl (.c rfl .n)) ce25 (zNa (k1:=true) (u1:=wa) (v1:=wb) (q1:=(yG (l.take i))) (k2:=true) (u2:=w8) (v2:=w9) (q2:=(l.getD i (0:Rat))) (hl:=by first|rfl|assumption|omega|(have h1:=Sh.sumL_hq hl i om;have h2:=Sh.hqAll_get hl i om;omega))) (.c (j:=2) rfl (.c (j:=1) rfl .n)) ?_)
  rintro ⟨w310,w411⟩ -
  dsimp only [aq,nq,cq]
  refine e_one 6 (zp kr rfl rfl rfl rfl rfl sz44 rfl (.t4 .nil) ?_)
  refine zP kr<|zJ<|zg<|zc<|e_mv rfl<|e_p (zI (z:=(((i+1):Nat):Int)) rfl rfl (w64 om))<|e_p (zh rfl)<|zk<|zBa ((i+1),w310,w411) (show (i+1)≤n from by omega) (by show n - (i+1)<n - i;omega) ((.of rfl):SubM _ _) (ho:=((.of [0,0] rfl):PickO _ _ _)) ((.e (j:=0) rfl (by rw [Sh.sumL_take om]) (.of [4,5] rfl)):SelR _ _ _)
 ·
  refine zla<|zo<|zo<|zB<|zg<|zj<|zc<|e_ru (zd 0 ty44 rfl rfl (.t4 .nil))<|zl 1 rfl rfl rfl rfl rfl sz44 rfl (.t4 .nil) (.s .z)<|zk<|zg<|zS ?_
  have hfin:l.take i=l:=List.take_of_length_le om
  exact zM Tryz.results85 (wa,wb) trivial (zr 1 ty44 rfl rfl (.t4 .nil)) rfl (ho:=(.n:PickO _ _ _)) ((.e (j:=0) rfl (by rw [hfin]) .n):SelR _ _ _)
theorem zTa {ea:Int} {eb:Int} (ha: -9223372036854775808≤ea∧ea≤9223372036854775807) (hb: -9223372036854775808≤eb∧eb≤9223372036854775807):Con yF 83 [yc yd ea,yc yd eb] [] [] (Y:=Wd×Wd) (fun y=>True) (fun y=> .agg #[y.1.b,y.1.l,y.2.b,y.2.l]) (fun y=>[]) (fun y=>[qF true y.1 y.2 (yo ea eb)]):=by
 refine zw Tryz.func83 rfl rfl rfl (fun c=> ?_)
 show RunC _ _ _ _ _ [(0,yc yd ea),(1,yc yd eb)] [] []
 refine zj<|zc<|zG rfl rfl (zn zr44 rfl) (fun b1=> ?_)
 refine zk<|zg<|zj<|zc<|e_mv rfl<|zH rfl rfl (.c rfl .n) ce22 (zra (z:=ea) (hz:=ass)) (.n) ?_
 rintro ⟨w32,w43⟩ -
 dsimp only [aq,nq,cq]
 refine e_mv rfl<|zH rfl rfl (.c rfl .n) ce22 (zra (z:=eb) (hz:=ass)) (.n) ?_
 rintro ⟨w34,w45⟩ -
 dsimp only [aq,nq,cq]
 refine zH rfl rfl (.c rfl (.c rfl .n)) ce54 (zWa (k1:=true) (u1:=w32) (v1:=w43) (q1:=((ea:Int):Rat)) (k2:=true) (u2:=w34) (v2:=w45) (q2:=((eb:Int):Rat)) (hl:=yH)) (.c (j:=1) rfl (.c (j:=0) rfl .n)) ?_
 rintro ⟨w36,w47⟩ -
 dsimp only [aq,nq,cq]
 refine zl 0 rfl rfl rfl rfl rfl sz44 rfl (.t4 .nil) .z<|zk<|zg<|zS ?_
 exact zM Tryz.results83 (w36,w47) trivial (zr 0 ty44 rfl rfl (.t4 .nil)) rfl (ho:=(.n:PickO _ _ _)) ((.c (j:=0) rfl .n):SelR _ _ _)
theorem zYb {p:Option Addr} {n:Nat} {cap:Nat} {l:List Rat} (hn:l.length=n) (hn9:n≤9) (hl:Sh.hqAll 20 l):Con yF 84 [.slice p n cap] [] [slF rQ p cap l] (Y:=Wd×Wd) (fun y=>True) (fun y=> .agg #[y.1.b,y.1.l,y.2.b,y.2.l]) (fun y=>[]) (fun y=>[qF true y.1 y.2 (yG l)]):=by
 refine zw Tryz.func84 rfl rfl rfl (fun c=> ?_)
 show RunC _ _ _ _ _ [(0,.slice p n cap)] [] [slF rQ p cap l]
 refine zua 0 rfl (fun hL0=> ?_)
 refine zj<|zc<|zG rfl rfl (zn zr44 rfl) (fun b1=> ?_)
 refine zk<|zg<|zj<|zc<|e_mv rfl<|zH rfl rfl (.c rfl .n) ce85 (zSf (p:=p) (n:=n) (cap:=cap) (l:=l) (hn:=ass) (hn9:=ass) (hl:=ass)) (.c (j:=0) rfl .n) ?_
 rintro ⟨w32,w43⟩ -
 dsimp only [aq,nq,cq]
 refine zl 0 rfl rfl rfl rfl rfl sz44 rfl (.t4 .nil) .z<|zk<|zg<|zS ?_
 exact zM Tryz.results84 (w32,w43) trivial (zr 0 ty44 rfl rfl (.t4 .nil)) rfl (ho:=(.n:PickO _ _ _)) ((.c (j:=0) rfl .n):SelR _ _ _)
theorem zPc {k1:Bool} {u1:Wd} {v1:Wd} {q1:Rat} (hl:yQ q1+yQ q1+1≤1048576):Con yF 86 [.agg #[u1.b,u1.l,v1.b,v1.l]] [] [qF k1 u1 v1 q1] (Y:=Wd×Wd) (fun y=>True) (fun y=> .agg #[y.1.b,y.1.l,y.2.b,y.2.l]) (fun y=>[]) (fun y=>[qF true y.1 y.2 (q1+q1)]):=by
 refine zw Tryz.func86 rfl rfl rfl (fun c=> ?_)
 show RunC _ _ _ _ _ [(0,.agg #[u1.b,u1.l,v1.b,v1.l])] [] [qF k1 u1 v1 q1]
 refine zj<|zc<|zG rfl rfl (zZ rfl rfl) (fun b1=> ?_)
 refine zG rfl rfl (zn zr44 rfl) (fun b2=> ?_)
 refine zk<|zg<|zj<|zc<|e_ru (zd 1 ty44 rfl rfl (.t4 .nil))<|e_ru (zd 1 ty44 rfl rfl (.t4 .nil))<|zH rfl rfl (.c rfl (.c rfl .n)) ce25 (zNa (k1:=k1) (u1:=u1) (v1:=v1) (q1:=q1) (k2:=k1) (u2:=u1) (v2:=v1) (q2:=q1) (hl:=ass)) (.c (j:=0) rfl (.c (j:=0) rfl .n)) ?_
 rintro ⟨w33,w44⟩ -
 dsimp only [aq,nq,cq]
 refine zl 0 rfl rfl rfl rfl rfl sz44 rfl (.t4 .nil) .z<|zk<|zg<|zS ?_
 exact zM Tryz.results86 (w33,w44) trivial (zr 0 ty44 rfl rfl (.t4 .nil)) rfl (ho:=(.n:PickO _ _ _)) ((.c (j:=0) rfl .n):SelR _ _ _)
end Go.Proofs.YtjeahiahjgifgaaGreatDoor.Sp
namespace Go.Proofs.YtjeahiahjgifgaaGreatDoor.Sp
open Go
set_option linter.unusedVariables false
set_option maxRecDepth 100000
set_option maxHeartbeats 8000000
theorem zpd {q:Sh.Q4} (hsm:Sh.sm q):Con yF 50 [.agg #[yc yd (q.1),yc yd (q.2.1),yc yd (q.2.2.1),yc yd (q.2.2.2)]] [] [] (Y:=Wd×Wd×Wd×Wd×Wd×Wd×Wd×Wd×Wd×Wd×Wd×Wd×Wd×Wd×Wd×Wd×Wd×Wd) (fun y=>True) (fun y=> .agg #[y.1.b,y.1.l,y.2.1.b,y.2.1.l,y.2.2.1.b,y.2.2.1.l,y.2.2.2.1.b,y.2.2.2.1.l,y.2.2.2.2.1.b,y.2.2.2.2.1.l,y.2.2.2.2.2.1.b,y.2.2.2.2.2.1.l,y.2.2.2.2.2.2.1.b,y.2.2.2.2.2.2.1.l,y.2.2.2.2.2.2.2.1.b,y.2.2.2.2.2.2.2.1.l,y.2.2.2.2.2.2.2.2.1.b,y.2.2.2.2.2.2.2.2.1.l,y.2.2.2.2.2.2.2.2.2.1.b,y.2.2.2.2.2.2.2.2.2.1.l,y.2.2.2.2.2.2.2.2.2.2.1.b,y.2.2.2.2.2.2.2.2.2.2.1.l,y.2.2.2.2.2.2.2.2.2.2.2.1.b,y.2.2.2.2.2.2.2.2.2.2.2.1.l,y.2.2.2.2.2.2.2.2.2.2.2.2.1.b,y.2.2.2.2.2.2.2.2.2.2.2.2.1.l,y.2.2.2.2.2.2.2.2.2.2.2.2.2.1.b,y.2.2.2.2.2.2.2.2.2.2.2.2.2.1.l,y.2.2.2.2.2.2.2.2.2.2.2.2.2.2.1.b,y.2.2.2.2.2.2.2.2.2.2.2.2.2.2.1.l,y.2.2.2.2.2.2.2.2.2.2.2.2.2.2.2.1.b,y.2.2.2.2.2.2.2.2.2.2.2.2.2.2.2.1.l,y.2.2.2.2.2.2.2.2.2.2.2.2.2.2.2.2.1.b,y.2.2.2.2.2.2.2.2.2.2.2.2.2.2.2.2.1.l,y.2.2.2.2.2.2.2.2.2.2.2.2.2.2.2.2.2.b,y.2.2.2.2.2.2.2.2.2.2.2.2.2.2.2.2.2.l]) (fun y=>[]) (fun y=>[qF true y.1 y.2.1 ((yk q).1.1),qF true y.2.2.1 y.2.2.2.1 ((yk q).1.2.1),qF true y.2.2.2.2.1 y.2.2.2.2.2.1 ((yk q).1.2.2),qF true y.2.2.2.2.2.2.1 y.2.2.2.2.2.2.2.1 ((yk q).2.1.1),qF true y.2.2.2.2.2.2.2.2.1 y.2.2.2.2.2.2.2.2.2.1 ((yk q).2.1.2.1),qF true y.2.2.2.2.2.2.2.2.2.2.1 y.2.2.2.2.2.2.2.2.2.2.2.1 ((yk q).2.1.2.2),qF true y.2.2.2.2.2.2.2.2.2.2.2.2.1 y.2.2.2.2.2.2.2.2.2.2.2.2.2.1 ((yk q).2.2.1),qF true y.2.2.2.2.2.2.2.2.2.2.2.2.2.2.1 y.2.2.2.2.2.2.2.2.2.2.2.2.2.2.2.1 ((yk q).2.2.2.1),qF true y.2.2.2.2.2.2.2.2.2.2.2.2.2.2.2.2.1 y.2.2.2.2.2.2.2.2.2.2.2.2.2.2.2.2.2 ((yk q).2.2.2.2)]):=by
 refine zw Tryz.func50 rfl rfl rfl (fun c=> ?_)
 show RunC _ _ _ _ _ [(0,.agg #[yc yd (q.1),yc yd (q.2.1),yc yd (q.2.2.1),yc yd (q.2.2.2)])] [] []
 obtain ⟨hm1,hm2,hm3,hm4⟩:=hsm
 have hmm00:=yL (a:=q.1) (b:=q.1) om om
 have hmm01:=yL (a:=q.1) (b:=q.2.1) om om
 have hmm02:=yL (a:=q.1) (b:=q.2.2.1) om om
 have hmm03:=yL (a:=q.1) (b:=q.2.2.2) om om
 have hmm11:=yL (a:=q.2.1) (b:=q.2.1) om om
 have hmm12:=yL (a:=q.2.1) (b:=q.2.2.1) om om
 have hmm13:=yL (a:=q.2.1) (b:=q.2.2.2) om om
 have hmm22:=yL (a:=q.2.2.1) (b:=q.2.2.1) om om
 have hmm23:=yL (a:=q.2.2.1) (b:=q.2.2.2) om om
 have hmm33:=yL (a:=q.2.2.2) (b:=q.2.2.2) om om
 refine zj<|zc<|zG rfl rfl (zZ rfl rfl) (fun b1=> ?_)
 refine zG rfl rfl (zn zr97 rfl) (fun b2=> ?_)
 refine zk<|zg<|zj<|zc<|e_p (zh rfl)<|zk<|zg<|zj<|zc<|e_p (zh rfl)<|zk<|zg<|zj<|zc<|e_p (zh rfl)<|zk<|zg<|zj<|zc<|e_p (zh rfl)<|zk<|zg<|zj<|zQ (OW:=[]) (O:=[boxA b2 97 (cw [wz,wz,wz,wz,wz,wz,wz,wz,wz,wz,wz,wz,wz,wz,wz,wz,wz,wz]),boxA b1 25 [yc yd (q.1),yc yd (q.2.1),yc yd (q.2.2.1),yc yd (q.2.2.2)]]) 100000 mixed (.then .ret) kr<|e_pv 0 rfl rfl (zf yl rfl sz3 rfl rfl)<|e_u 1 rfl rfl (ze 1 ty3 rfl rfl rfl)<|e_pv 2 rfl rfl (zf yl rfl sz3 rfl rfl)<|e_u 3 rfl rfl (ze 1 ty3 rfl rfl rfl)<|e_pv 4 rfl rfl (zf yl rfl sz3 rfl rfl)<|e_u 5 rfl rfl (ze 1 ty3 rfl rfl rfl)<|e_pv 6 rfl rfl (zf yl rfl sz3 rfl rfl)<|e_u 7 rfl rfl (ze 1 ty3 rfl rfl rfl)<|e_pv 8 rfl rfl (zh rfl)<|e_pv 9 rfl rfl (zh rfl)<|e_pv 10 rfl rfl (zh rfl)<|e_pv 11 rfl rfl (zh rfl)<|zP kr<|zg<|zj<|zc<|e_mv rfl<|e_mv rfl<|e_mv rfl<|e_mv rfl<|zya (first:=[]) (cap:=[]) rfl rfl rfl (.c rfl (.c rfl .n)) ce83 (zTa (ea:=q.1) (eb:=q.1) (ha:=yt) (hb:=yt)) (.n) ?_
 rintro ⟨w33,w44⟩ -
 dsimp only [aq,nq,cq]
 refine e_mv rfl<|e_mv rfl<|e_mv rfl<|zya (first:=[]) (cap:=[]) rfl rfl rfl (.c rfl (.c rfl .n)) ce83 (zTa (ea:=q.2.1) (eb:=q.2.1) (ha:=yt) (hb:=yt)) (.n) ?_
 rintro ⟨w35,w46⟩ -
 dsimp only [aq,nq,cq]
 refine e_mv rfl<|e_mv rfl<|e_mv rfl<|e_mv rfl<|zya (first:=[]) (cap:=[]) rfl rfl rfl (.c rfl (.c rfl .n)) ce83 (zTa (ea:=q.2.2.1) (eb:=q.2.2.1) (ha:=yt) (hb:=yt)) (.n) ?_
 rintro ⟨w37,w48⟩ -
 dsimp only [aq,nq,cq]
 refine zya (first:=[]) (cap:=[]) rfl rfl rfl (.c rfl .n) ce62 (zrb (k1:=true) (u1:=w37) (v1:=w48) (q1:=(yo q.2.2.1 q.2.2.1)) (hl:=yt)) (.c (j:=0) rfl .n) ?_
 rintro ⟨w39,w410⟩ -
 dsimp only [aq,nq,cq]
 refine e_mv rfl<|e_mv rfl<|e_mv rfl<|e_mv rfl<|zya (first:=[]) (cap:=[]) rfl rfl rfl (.c rfl (.c rfl .n)) ce83 (zTa (ea:=q.2.2.2) (eb:=q.2.2.2) (ha:=yt) (hb:=yt)) (.n) ?_
 rintro ⟨w311,w412⟩ -
 dsimp only [aq,nq,cq]
 refine zya (first:=[]) (cap:=[]) rfl rfl rfl (.c rfl .n) ce62 (zrb (k1:=true) (u1:=w311) (v1:=w412) (q1:=(yo q.2.2.2 q.2.2.2)) (hl:=yt)) (.c (j:=0) rfl .n) ?_
 rintro ⟨w313,w414⟩ -
 dsimp only [aq,nq,cq]
 refine zJa rfl rfl (zIa (r:=rQ) (k:=4) yw inf44 rfl dd dd dd (.c (x:=(yo q.1 q.1)) (cs:=[w33.b,w33.l,w44.b,w44.l]) (w33,w44) rfl rfl rfl (fun g hr=>Holds.get 5 rfl hr) (.c (x:=(yo q.2.1 q.2.1)) (cs:=[w35.b,w35.l,w46.b,w46.l]) (w35,w46) rfl rfl rfl (fun g hr=>Holds.get 4 rfl hr) (.c (x:=(- (yo q.2.2.1 q.2.2.1))) (cs:=[w39.b,w39.l,w410.b,w410.l]) (w39,w410) rfl rfl rfl (fun g hr=>Holds.get 2 rfl hr) (.c (x:=(- (yo q.2.2.2 q.2.2.2))) (cs:=[w313.b,w313.l,w414.b,w414.l]) (w313,w414) rfl rfl rfl (fun g hr=>Holds.get 0 rfl hr) .n))))) (fun b15 _=> ?_)
 refine zia 0 rfl .z<|zya (first:=[]) (cap:=[]) rfl rfl rfl (.c rfl .n) ce84 (zYb (p:=some ⟨b15,0,none⟩) (n:=4) (cap:=4) (l:=[(yo q.1 q.1),(yo q.2.1 q.2.1),(- (yo q.2.2.1 q.2.2.1)),(- (yo q.2.2.2 q.2.2.2))]) (hn:=yt) (hn9:=yt) (hl:=yt)) (.c (j:=0) rfl .n) ?_
 rintro ⟨w316,w417⟩ -
 dsimp only [aq,nq,cq]
 have e18:((yG ([(yo q.1 q.1),(yo q.2.1 q.2.1),(- (yo q.2.2.1 q.2.2.1)),(- (yo q.2.2.2 q.2.2.2))])):Rat)=(yk q).1.1:=by exact Sh.d_ppmm q.1 q.2.1 q.2.2.1 q.2.2.2
 rw [e18]
 refine e_mv rfl<|e_mv rfl<|e_mv rfl<|e_mv rfl<|e_mv rfl<|zya (first:=[]) (cap:=[]) rfl rfl rfl (.c rfl (.c rfl .n)) ce83 (zTa (ea:=q.2.1) (eb:=q.2.2.1) (ha:=yt) (hb:=yt)) (.n) ?_
 rintro ⟨w319,w420⟩ -
 dsimp only [aq,nq,cq]
 refine e_mv rfl<|e_mv rfl<|e_mv rfl<|e_mv rfl<|zya (first:=[]) (cap:=[]) rfl rfl rfl (.c rfl (.c rfl .n)) ce83 (zTa (ea:=q.1) (eb:=q.2.2.2) (ha:=yt) (hb:=yt)) (.n) ?_
 rintro ⟨w321,w422⟩ -
 dsimp only [aq,nq,cq]
 refine zya (first:=[]) (cap:=[]) rfl rfl rfl (.c rfl .n) ce62 (zrb (k1:=true) (u1:=w321) (v1:=w422) (q1:=(yo q.1 q.2.2.2)) (hl:=yt)) (.c (j:=0) rfl .n) ?_
 rintro ⟨w323,w424⟩ -
 dsimp only [aq,nq,cq]
 refine zJa rfl rfl (zIa (r:=rQ) (k:=2) yw inf44 rfl dd dd dd (.c (x:=(yo q.2.1 q.2.2.1)) (cs:=[w319.b,w319.l,w420.b,w420.l]) (w319,w420) rfl rfl rfl (fun g hr=>Holds.get 2 rfl hr) (.c (x:=(- (yo q.1 q.2.2.2))) (cs:=[w323.b,w323.l,w424.b,w424.l]) (w323,w424) rfl rfl rfl (fun g hr=>Holds.get 0 rfl hr) .n))) (fun b25 _=> ?_)
 refine zia 0 rfl .z<|zya (first:=[]) (cap:=[]) rfl rfl rfl (.c rfl .n) ce84 (zYb (p:=some ⟨b25,0,none⟩) (n:=2) (cap:=2) (l:=[(yo q.2.1 q.2.2.1),(- (yo q.1 q.2.2.2))]) (hn:=yt) (hn9:=yt) (hl:=yt)) (.c (j:=0) rfl .n) ?_
 rintro ⟨w326,w427⟩ -
 dsimp only [aq,nq,cq]
 refine zya (first:=[]) (cap:=[]) rfl rfl rfl (.c rfl .n) ce86 (zPc (k1:=true) (u1:=w326) (v1:=w427) (q1:=(yG ([(yo q.2.1 q.2.2.1),(- (yo q.1 q.2.2.2))]))) (hl:=yt)) (.c (j:=0) rfl .n) ?_
 rintro ⟨w328,w429⟩ -
 dsimp only [aq,nq,cq]
 have e30:((yG ([(yo q.2.1 q.2.2.1),(- (yo q.1 q.2.2.2))]))+(yG ([(yo q.2.1 q.2.2.1),(- (yo q.1 q.2.2.2))])):Rat)=(yk q).1.2.1:=by exact Sh.o_pm q.2.1 q.2.2.1 q.1 q.2.2.2
 rw [e30]
 refine e_mv rfl<|e_mv rfl<|e_mv rfl<|e_mv rfl<|e_mv rfl<|zya (first:=[]) (cap:=[]) rfl rfl rfl (.c rfl (.c rfl .n)) ce83 (zTa (ea:=q.2.1) (eb:=q.2.2.2) (ha:=yt) (hb:=yt)) (.n) ?_
 rintro ⟨w331,w432⟩ -
 dsimp only [aq,nq,cq]
 refine e_mv rfl<|e_mv rfl<|e_mv rfl<|zya (first:=[]) (cap:=[]) rfl rfl rfl (.c rfl (.c rfl .n)) ce83 (zTa (ea:=q.1) (eb:=q.2.2.1) (ha:=yt) (hb:=yt)) (.n) ?_
 rintro ⟨w333,w434⟩ -
 dsimp only [aq,nq,cq]
 refine zJa rfl rfl (zIa (r:=rQ) (k:=2) yw inf44 rfl dd dd dd (.c (x:=(yo q.2.1 q.2.2.2)) (cs:=[w331.b,w331.l,w432.b,w432.l]) (w331,w432) rfl rfl rfl (fun g hr=>Holds.get 1 rfl hr) (.c (x:=(yo q.1 q.2.2.1)) (cs:=[w333.b,w333.l,w434.b,w434.l]) (w333,w434) rfl rfl rfl (fun g hr=>Holds.get 0 rfl hr) .n))) (fun b35 _=> ?_)
 refine zia 0 rfl .z<|zya (first:=[]) (cap:=[]) rfl rfl rfl (.c rfl .n) ce84 (zYb (p:=some ⟨b35,0,none⟩) (n:=2) (cap:=2) (l:=[(yo q.2.1 q.2.2.2),(yo q.1 q.2.2.1)]) (hn:=yt) (hn9:=yt) (hl:=yt)) (.c (j:=0) rfl .n) ?_
 rintro ⟨w336,w437⟩ -
 dsimp only [aq,nq,cq]
 refine zya (first:=[]) (cap:=[]) rfl rfl rfl (.c rfl .n) ce86 (zPc (k1:=true) (u1:=w336) (v1:=w437) (q1:=(yG ([(yo q.2.1 q.2.2.2),(yo q.1 q.2.2.1)]))) (hl:=yt)) (.c (j:=0) rfl .n) ?_
 rintro ⟨w338,w439⟩ -
 dsimp only [aq,nq,cq]
 have e40:((yG ([(yo q.2.1 q.2.2.2),(yo q.1 q.2.2.1)]))+(yG ([(yo q.2.1 q.2.2.2),(yo q.1 q.2.2.1)])):Rat)=(yk q).1.2.2:=by exact Sh.o_pp q.2.1 q.2.2.2 q.1 q.2.2.1
 rw [e40]
 refine e_p (zsa zr54 rfl yf sz44 (.c rfl (.c rfl (.c rfl .n))) (.c rfl rfl rfl (.t4 .nil) (.c rfl rfl rfl (.s4 (.t4 .nil)) (.c rfl rfl rfl (.s8 (.t4 .nil)) .n))))<|e_mv rfl<|e_mv rfl<|e_mv rfl<|e_mv rfl<|e_mv rfl<|zya (first:=[]) (cap:=[]) rfl rfl rfl (.c rfl (.c rfl .n)) ce83 (zTa (ea:=q.2.1) (eb:=q.2.2.1) (ha:=yt) (hb:=yt)) (.n) ?_
 rintro ⟨w341,w442⟩ -
 dsimp only [aq,nq,cq]
 refine e_mv rfl<|e_mv rfl<|e_mv rfl<|zya (first:=[]) (cap:=[]) rfl rfl rfl (.c rfl (.c rfl .n)) ce83 (zTa (ea:=q.1) (eb:=q.2.2.2) (ha:=yt) (hb:=yt)) (.n) ?_
 rintro ⟨w343,w444⟩ -
 dsimp only [aq,nq,cq]
 refine zJa rfl rfl (zIa (r:=rQ) (k:=2) yw inf44 rfl dd dd dd (.c (x:=(yo q.2.1 q.2.2.1)) (cs:=[w341.b,w341.l,w442.b,w442.l]) (w341,w442) rfl rfl rfl (fun g hr=>Holds.get 1 rfl hr) (.c (x:=(yo q.1 q.2.2.2)) (cs:=[w343.b,w343.l,w444.b,w444.l]) (w343,w444) rfl rfl rfl (fun g hr=>Holds.get 0 rfl hr) .n))) (fun b45 _=> ?_)
 refine zia 0 rfl .z<|zya (first:=[]) (cap:=[]) rfl rfl rfl (.c rfl .n) ce84 (zYb (p:=some ⟨b45,0,none⟩) (n:=2) (cap:=2) (l:=[(yo q.2.1 q.2.2.1),(yo q.1 q.2.2.2)]) (hn:=yt) (hn9:=yt) (hl:=yt)) (.c (j:=0) rfl .n) ?_
 rintro ⟨w346,w447⟩ -
 dsimp only [aq,nq,cq]
 refine zya (first:=[]) (cap:=[]) rfl rfl rfl (.c rfl .n) ce86 (zPc (k1:=true) (u1:=w346) (v1:=w447) (q1:=(yG ([(yo q.2.1 q.2.2.1),(yo q.1 q.2.2.2)]))) (hl:=yt)) (.c (j:=0) rfl .n) ?_
 rintro ⟨w348,w449⟩ -
 dsimp only [aq,nq,cq]
 have e50:((yG ([(yo q.2.1 q.2.2.1),(yo q.1 q.2.2.2)]))+(yG ([(yo q.2.1 q.2.2.1),(yo q.1 q.2.2.2)])):Rat)=(yk q).2.1.1:=by exact Sh.o_pp q.2.1 q.2.2.1 q.1 q.2.2.2
 rw [e50]
 refine e_mv rfl<|e_mv rfl<|e_mv rfl<|e_mv rfl<|zya (first:=[]) (cap:=[]) rfl rfl rfl (.c rfl (.c rfl .n)) ce83 (zTa (ea:=q.1) (eb:=q.1) (ha:=yt) (hb:=yt)) (.n) ?_
 rintro ⟨w351,w452⟩ -
 dsimp only [aq,nq,cq]
 refine e_mv rfl<|e_mv rfl<|e_mv rfl<|e_mv rfl<|zya (first:=[]) (cap:=[]) rfl rfl rfl (.c rfl (.c rfl .n)) ce83 (zTa (ea:=q.2.1) (eb:=q.2.1) (ha:=yt) (hb:=yt)) (.n) ?_
 rintro ⟨w353,w454⟩ -
 dsimp only [aq,nq,cq]
 refine zya (first:=[]) (cap:=[]) rfl rfl rfl (.c rfl .n) ce62 (zrb (k1:=true) (u1:=w353) (v1:=w454) (q1:=(yo q.2.1 q.2.1)) (hl:=yt)) (.c (j:=0) rfl .n) ?_
 rintro ⟨w355,w456⟩ -
 dsimp only [aq,nq,cq]
 refine e_mv rfl<|e_mv rfl<|e_mv rfl<|zya (first:=[]) (cap:=[]) rfl rfl rfl (.c rfl (.c rfl .n)) ce83 (zTa (ea:=q.2.2.1) (eb:=q.2.2.1) (ha:=yt) (hb:=yt)) (.n) ?_
 rintro ⟨w357,w458⟩ -
 dsimp only [aq,nq,cq]
 refine e_mv rfl<|e_mv rfl<|e_mv rfl<|e_mv rfl<|zya (first:=[]) (cap:=[]) rfl rfl rfl (.c rfl (.c rfl .n)) ce83 (zTa (ea:=q.2.2.2) (eb:=q.2.2.2) (ha:=yt) (hb:=yt)) (.n) ?_
 rintro ⟨w359,w460⟩ -
 dsimp only [aq,nq,cq]
 refine zya (first:=[]) (cap:=[]) rfl rfl rfl (.c rfl .n) ce62 (zrb (k1:=true) (u1:=w359) (v1:=w460) (q1:=(yo q.2.2.2 q.2.2.2)) (hl:=yt)) (.c (j:=0) rfl .n) ?_
 rintro ⟨w361,w462⟩ -
 dsimp only [aq,nq,cq]
 refine zJa rfl rfl (zIa (r:=rQ) (k:=4) yw inf44 rfl dd dd dd (.c (x:=(yo q.1 q.1)) (cs:=[w351.b,w351.l,w452.b,w452.l]) (w351,w452) rfl rfl rfl (fun g hr=>Holds.get 5 rfl hr) (.c (x:=(- (yo q.2.1 q.2.1))) (cs:=[w355.b,w355.l,w456.b,w456.l]) (w355,w456) rfl rfl rfl (fun g hr=>Holds.get 3 rfl hr) (.c (x:=(yo q.2.2.1 q.2.2.1)) (cs:=[w357.b,w357.l,w458.b,w458.l]) (w357,w458) rfl rfl rfl (fun g hr=>Holds.get 2 rfl hr) (.c (x:=(- (yo q.2.2.2 q.2.2.2))) (cs:=[w361.b,w361.l,w462.b,w462.l]) (w361,w462) rfl rfl rfl (fun g hr=>Holds.get 0 rfl hr) .n))))) (fun b63 _=> ?_)
 refine zia 0 rfl .z<|zya (first:=[]) (cap:=[]) rfl rfl rfl (.c rfl .n) ce84 (zYb (p:=some ⟨b63,0,none⟩) (n:=4) (cap:=4) (l:=[(yo q.1 q.1),(- (yo q.2.1 q.2.1)),(yo q.2.2.1 q.2.2.1),(- (yo q.2.2.2 q.2.2.2))]) (hn:=yt) (hn9:=yt) (hl:=yt)) (.c (j:=0) rfl .n) ?_
 rintro ⟨w364,w465⟩ -
 dsimp only [aq,nq,cq]
 have e66:((yG ([(yo q.1 q.1),(- (yo q.2.1 q.2.1)),(yo q.2.2.1 q.2.2.1),(- (yo q.2.2.2 q.2.2.2))])):Rat)=(yk q).2.1.2.1:=by exact Sh.d_pmpm q.1 q.2.1 q.2.2.1 q.2.2.2
 rw [e66]
 refine e_mv rfl<|e_mv rfl<|e_mv rfl<|e_mv rfl<|e_mv rfl<|zya (first:=[]) (cap:=[]) rfl rfl rfl (.c rfl (.c rfl .n)) ce83 (zTa (ea:=q.2.2.1) (eb:=q.2.2.2) (ha:=yt) (hb:=yt)) (.n) ?_
 rintro ⟨w367,w468⟩ -
 dsimp only [aq,nq,cq]
 refine e_mv rfl<|e_mv rfl<|e_mv rfl<|e_mv rfl<|zya (first:=[]) (cap:=[]) rfl rfl rfl (.c rfl (.c rfl .n)) ce83 (zTa (ea:=q.1) (eb:=q.2.1) (ha:=yt) (hb:=yt)) (.n) ?_
 rintro ⟨w369,w470⟩ -
 dsimp only [aq,nq,cq]
 refine zya (first:=[]) (cap:=[]) rfl rfl rfl (.c rfl .n) ce62 (zrb (k1:=true) (u1:=w369) (v1:=w470) (q1:=(yo q.1 q.2.1)) (hl:=yt)) (.c (j:=0) rfl .n) ?_
 rintro ⟨w371,w472⟩ -
 dsimp only [aq,nq,cq]
 refine zJa rfl rfl (zIa (r:=rQ) (k:=2) yw inf44 rfl dd dd dd (.c (x:=(yo q.2.2.1 q.2.2.2)) (cs:=[w367.b,w367.l,w468.b,w468.l]) (w367,w468) rfl rfl rfl (fun g hr=>Holds.get 2 rfl hr) (.c (x:=(- (yo q.1 q.2.1))) (cs:=[w371.b,w371.l,w472.b,w472.l]) (w371,w472) rfl rfl rfl (fun g hr=>Holds.get 0 rfl hr) .n))) (fun b73 _=> ?_)
 refine zia 0 rfl .z<|zya (first:=[]) (cap:=[]) rfl rfl rfl (.c rfl .n) ce84 (zYb (p:=some ⟨b73,0,none⟩) (n:=2) (cap:=2) (l:=[(yo q.2.2.1 q.2.2.2),(- (yo q.1 q.2.1))]) (hn:=yt) (hn9:=yt) (hl:=yt)) (.c (j:=0) rfl .n) ?_
 rintro ⟨w374,w475⟩ -
 dsimp only [aq,nq,cq]
 refine zya (first:=[]) (cap:=[]) rfl rfl rfl (.c rfl .n) ce86 (zPc (k1:=true) (u1:=w374) (v1:=w475) (q1:=(yG ([(yo q.2.2.1 q.2.2.2),(- (yo q.1 q.2.1))]))) (hl:=yt)) (.c (j:=0) rfl .n) ?_
 rintro ⟨w376,w477⟩ -
 dsimp only [aq,nq,cq]
 have e78:((yG ([(yo q.2.2.1 q.2.2.2),(- (yo q.1 q.2.1))]))+(yG ([(yo q.2.2.1 q.2.2.2),(- (yo q.1 q.2.1))])):Rat)=(yk q).2.1.2.2:=by exact Sh.o_pm q.2.2.1 q.2.2.2 q.1 q.2.1
 rw [e78]
 refine e_p (zsa zr54 rfl yf sz44 (.c rfl (.c rfl (.c rfl .n))) (.c rfl rfl rfl (.t4 .nil) (.c rfl rfl rfl (.s4 (.t4 .nil)) (.c rfl rfl rfl (.s8 (.t4 .nil)) .n))))<|e_mv rfl<|e_mv rfl<|e_mv rfl<|e_mv rfl<|e_mv rfl<|zya (first:=[]) (cap:=[]) rfl rfl rfl (.c rfl (.c rfl .n)) ce83 (zTa (ea:=q.2.1) (eb:=q.2.2.2) (ha:=yt) (hb:=yt)) (.n) ?_
 rintro ⟨w379,w480⟩ -
 dsimp only [aq,nq,cq]
 refine e_mv rfl<|e_mv rfl<|e_mv rfl<|e_mv rfl<|zya (first:=[]) (cap:=[]) rfl rfl rfl (.c rfl (.c rfl .n)) ce83 (zTa (ea:=q.1) (eb:=q.2.2.1) (ha:=yt) (hb:=yt)) (.n) ?_
 rintro ⟨w381,w482⟩ -
 dsimp only [aq,nq,cq]
 refine zya (first:=[]) (cap:=[]) rfl rfl rfl (.c rfl .n) ce62 (zrb (k1:=true) (u1:=w381) (v1:=w482) (q1:=(yo q.1 q.2.2.1)) (hl:=yt)) (.c (j:=0) rfl .n) ?_
 rintro ⟨w383,w484⟩ -
 dsimp only [aq,nq,cq]
 refine zJa rfl rfl (zIa (r:=rQ) (k:=2) yw inf44 rfl dd dd dd (.c (x:=(yo q.2.1 q.2.2.2)) (cs:=[w379.b,w379.l,w480.b,w480.l]) (w379,w480) rfl rfl rfl (fun g hr=>Holds.get 2 rfl hr) (.c (x:=(- (yo q.1 q.2.2.1))) (cs:=[w383.b,w383.l,w484.b,w484.l]) (w383,w484) rfl rfl rfl (fun g hr=>Holds.get 0 rfl hr) .n))) (fun b85 _=> ?_)
 refine zia 0 rfl .z<|zya (first:=[]) (cap:=[]) rfl rfl rfl (.c rfl .n) ce84 (zYb (p:=some ⟨b85,0,none⟩) (n:=2) (cap:=2) (l:=[(yo q.2.1 q.2.2.2),(- (yo q.1 q.2.2.1))]) (hn:=yt) (hn9:=yt) (hl:=yt)) (.c (j:=0) rfl .n) ?_
 rintro ⟨w386,w487⟩ -
 dsimp only [aq,nq,cq]
 refine zya (first:=[]) (cap:=[]) rfl rfl rfl (.c rfl .n) ce86 (zPc (k1:=true) (u1:=w386) (v1:=w487) (q1:=(yG ([(yo q.2.1 q.2.2.2),(- (yo q.1 q.2.2.1))]))) (hl:=yt)) (.c (j:=0) rfl .n) ?_
 rintro ⟨w388,w489⟩ -
 dsimp only [aq,nq,cq]
 have e90:((yG ([(yo q.2.1 q.2.2.2),(- (yo q.1 q.2.2.1))]))+(yG ([(yo q.2.1 q.2.2.2),(- (yo q.1 q.2.2.1))])):Rat)=(yk q).2.2.1:=by exact Sh.o_pm q.2.1 q.2.2.2 q.1 q.2.2.1
 rw [e90]
 refine e_mv rfl<|e_mv rfl<|e_mv rfl<|e_mv rfl<|e_mv rfl<|zya (first:=[]) (cap:=[]) rfl rfl rfl (.c rfl (.c rfl .n)) ce83 (zTa (ea:=q.2.2.1) (eb:=q.2.2.2) (ha:=yt) (hb:=yt)) (.n) ?_
 rintro ⟨w391,w492⟩ -
 dsimp only [aq,nq,cq]
 refine e_mv rfl<|e_mv rfl<|e_mv rfl<|zya (first:=[]) (cap:=[]) rfl rfl rfl (.c rfl (.c rfl .n)) ce83 (zTa (ea:=q.1) (eb:=q.2.1) (ha:=yt) (hb:=yt)) (.n) ?_
 rintro ⟨w393,w494⟩ -
 dsimp only [aq,nq,cq]
 refine zJa rfl rfl (zIa (r:=rQ) (k:=2) yw inf44 rfl dd dd dd (.c (x:=(yo q.2.2.1 q.2.2.2)) (cs:=[w391.b,w391.l,w492.b,w492.l]) (w391,w492) rfl rfl rfl (fun g hr=>Holds.get 1 rfl hr) (.c (x:=(yo q.1 q.2.1)) (cs:=[w393.b,w393.l,w494.b,w494.l]) (w393,w494) rfl rfl rfl (fun g hr=>Holds.get 0 rfl hr) .n))) (fun b95 _=> ?_)
 refine zia 0 rfl .z<|zya (first:=[]) (cap:=[]) rfl rfl rfl (.c rfl .n) ce84 (zYb (p:=some ⟨b95,0,none⟩) (n:=2) (cap:=2) (l:=[(yo q.2.2.1 q.2.2.2),(yo q.1 q.2.1)]) (hn:=yt) (hn9:=yt) (hl:=yt)) (.c (j:=0) rfl .n) ?_
 rintro ⟨w396,w497⟩ -
 dsimp only [aq,nq,cq]
 refine zya (first:=[]) (cap:=[]) rfl rfl rfl (.c rfl .n) ce86 (zPc (k1:=true) (u1:=w396) (v1:=w497) (q1:=(yG ([(yo q.2.2.1 q.2.2.2),(yo q.1 q.2.1)]))) (hl:=yt)) (.c (j:=0) rfl .n) ?_
 rintro ⟨w398,w499⟩ -
 dsimp only [aq,nq,cq]
 have e100:((yG ([(yo q.2.2.1 q.2.2.2),(yo q.1 q.2.1)]))+(yG ([(yo q.2.2.1 q.2.2.2),(yo q.1 q.2.1)])):Rat)=(yk q).2.2.2.1:=by exact Sh.o_pp q.2.2.1 q.2.2.2 q.1 q.2.1
 rw [e100]
 refine e_mv rfl<|e_mv rfl<|e_mv rfl<|e_mv rfl<|zya (first:=[]) (cap:=[]) rfl rfl rfl (.c rfl (.c rfl .n)) ce83 (zTa (ea:=q.1) (eb:=q.1) (ha:=yt) (hb:=yt)) (.n) ?_
 rintro ⟨w3101,w4102⟩ -
 dsimp only [aq,nq,cq]
 refine e_mv rfl<|e_mv rfl<|e_mv rfl<|e_mv rfl<|zya (first:=[]) (cap:=[]) rfl rfl rfl (.c rfl (.c rfl .n)) ce83 (zTa (ea:=q.2.1) (eb:=q.2.1) (ha:=yt) (hb:=yt)) (.n) ?_
 rintro ⟨w3103,w4104⟩ -
 dsimp only [aq,nq,cq]
 refine zya (first:=[]) (cap:=[]) rfl rfl rfl (.c rfl .n) ce62 (zrb (k1:=true) (u1:=w3103) (v1:=w4104) (q1:=(yo q.2.1 q.2.1)) (hl:=yt)) (.c (j:=0) rfl .n) ?_
 rintro ⟨w3105,w4106⟩ -
 dsimp only [aq,nq,cq]
 refine e_mv rfl<|e_mv rfl<|e_mv rfl<|e_mv rfl<|zya (first:=[]) (cap:=[]) rfl rfl rfl (.c rfl (.c rfl .n)) ce83 (zTa (ea:=q.2.2.1) (eb:=q.2.2.1) (ha:=yt) (hb:=yt)) (.n) ?_
 rintro ⟨w3107,w4108⟩ -
 dsimp only [aq,nq,cq]
 refine zya (first:=[]) (cap:=[]) rfl rfl rfl (.c rfl .n) ce62 (zrb (k1:=true) (u1:=w3107) (v1:=w4108) (q1:=(yo q.2.2.1 q.2.2.1)) (hl:=yt)) (.c (j:=0) rfl .n) ?_
 rintro ⟨w3109,w4110⟩ -
 dsimp only [aq,nq,cq]
 refine e_mv rfl<|e_mv rfl<|e_mv rfl<|zya (first:=[]) (cap:=[]) rfl rfl rfl (.c rfl (.c rfl .n)) ce83 (zTa (ea:=q.2.2.2) (eb:=q.2.2.2) (ha:=yt) (hb:=yt)) (.n) ?_
 rintro ⟨w3111,w4112⟩ -
 dsimp only [aq,nq,cq]
 refine zJa rfl rfl (zIa (r:=rQ) (k:=4) yw inf44 rfl dd dd dd (.c (x:=(yo q.1 q.1)) (cs:=[w3101.b,w3101.l,w4102.b,w4102.l]) (w3101,w4102) rfl rfl rfl (fun g hr=>Holds.get 5 rfl hr) (.c (x:=(- (yo q.2.1 q.2.1))) (cs:=[w3105.b,w3105.l,w4106.b,w4106.l]) (w3105,w4106) rfl rfl rfl (fun g hr=>Holds.get 3 rfl hr) (.c (x:=(- (yo q.2.2.1 q.2.2.1))) (cs:=[w3109.b,w3109.l,w4110.b,w4110.l]) (w3109,w4110) rfl rfl rfl (fun g hr=>Holds.get 1 rfl hr) (.c (x:=(yo q.2.2.2 q.2.2.2)) (cs:=[w3111.b,w3111.l,w4112.b,w4112.l]) (w3111,w4112) rfl rfl rfl (fun g hr=>Holds.get 0 rfl hr) .n))))) (fun b113 _=> ?_)
 refine zia 0 rfl .z<|zya (first:=[]) (cap:=[]) rfl rfl rfl (.c rfl .n) ce84 (zYb (p:=some ⟨b113,0,none⟩) (n:=4) (cap:=4) (l:=[(yo q.1 q.1),(- (yo q.2.1 q.2.1)),(- (yo q.2.2.1 q.2.2.1)),(yo q.2.2.2 q.2.2.2)]) (hn:=yt) (hn9:=yt) (hl:=yt)) (.c (j:=0) rfl .n) ?_
 rintro ⟨w3114,w4115⟩ -
 dsimp only [aq,nq,cq]
 have e116:((yG ([(yo q.1 q.1),(- (yo q.2.1 q.2.1)),(- (yo q.2.2.1 q.2.2.1)),(yo q.2.2.2 q.2.2.2)])):Rat)=(yk q).2.2.2.2:=by exact Sh.d_pmmp q.1 q.2.1 q.2.2.1 q.2.2.2
 rw [e116]
 refine e_p (zsa zr54 rfl yf sz44 (.c rfl (.c rfl (.c rfl .n))) (.c rfl rfl rfl (.t4 .nil) (.c rfl rfl rfl (.s4 (.t4 .nil)) (.c rfl rfl rfl (.s8 (.t4 .nil)) .n))))<|e_p (zsa zr97 rfl ym sz54 (.c rfl (.c rfl (.c rfl .n))) (.c rfl rfl rfl (.t8 (.t4 .nil)) (.c rfl rfl rfl (.s8 (.s4 (.t8 (.t4 .nil)))) (.c rfl rfl rfl (.s8 (.s8 (.s8 (.t8 (.t4 .nil))))) .n))))<|zl 9 rfl rfl rfl rfl rfl sz97 rfl (.t8 (.t8 (.t8 (.t8 (.t4 .nil))))) (.s (.s (.s (.s (.s (.s (.s (.s (.s .z)))))))))<|zk<|zg<|zS ?_
 exact zM Tryz.results50 (w316,w417,w328,w429,w338,w439,w348,w449,w364,w465,w376,w477,w388,w489,w398,w499,w3114,w4115) trivial (zr 9 ty97 rfl rfl (.t8 (.t8 (.t8 (.t8 (.t4 .nil)))))) rfl (ho:=(.n:PickO _ _ _)) ((.of [49,43,38,33,25,19,13,8,0] rfl):SelR _ _ _)
end Go.Proofs.YtjeahiahjgifgaaGreatDoor.Sp
namespace Go.Proofs.YtjeahiahjgifgaaGreatDoor.Sp
open Go
set_option linter.unusedVariables false
set_option maxRecDepth 100000
set_option maxHeartbeats 8000000
theorem zqd {u1:Wd} {u2:Wd} {u3:Wd} {u4:Wd} {u5:Wd} {u6:Wd} {u7:Wd} {u8:Wd} {u9:Wd} {u10:Wd} {u11:Wd} {u12:Wd} {u13:Wd} {u14:Wd} {u15:Wd} {u16:Wd} {u17:Wd} {u18:Wd} {mm:Sh.M9} {x1:Wd} {x2:Wd} {x3:Wd} {x4:Wd} {x5:Wd} {x6:Wd} {vv:Sh.R3} {tp:Bool} {k:Nat} (hm:Sh.hqMt mm 50) (hv:Sh.hqV vv k) (hk:k≤1000):Con yF 49 [.agg #[u1.b,u1.l,u2.b,u2.l,u3.b,u3.l,u4.b,u4.l,u5.b,u5.l,u6.b,u6.l,u7.b,u7.l,u8.b,u8.l,u9.b,u9.l,u10.b,u10.l,u11.b,u11.l,u12.b,u12.l,u13.b,u13.l,u14.b,u14.l,u15.b,u15.l,u16.b,u16.l,u17.b,u17.l,u18.b,u18.l],.agg #[x1.b,x1.l,x2.b,x2.l,x3.b,x3.l,x4.b,x4.l,x5.b,x5.l,x6.b,x6.l],.bool tp] [] [qF true u1 u2 (mm.1.1),qF true u3 u4 (mm.1.2.1),qF true u5 u6 (mm.1.2.2),qF true u7 u8 (mm.2.1.1),qF true u9 u10 (mm.2.1.2.1),qF true u11 u12 (mm.2.1.2.2),qF true u13 u14 (mm.2.2.1),qF true u15 u16 (mm.2.2.2.1),qF true u17 u18 (mm.2.2.2.2),qF true x1 x2 (vv.1),qF true x3 x4 (vv.2.1),qF true x5 x6 (vv.2.2)] (Y:=Wd×Wd×Wd×Wd×Wd×Wd) (fun y=>True) (fun y=> .agg #[y.1.b,y.1.l,y.2.1.b,y.2.1.l,y.2.2.1.b,y.2.2.1.l,y.2.2.2.1.b,y.2.2.2.1.l,y.2.2.2.2.1.b,y.2.2.2.2.1.l,y.2.2.2.2.2.b,y.2.2.2.2.2.l]) (fun y=>[]) (fun y=>[qF true y.1 y.2.1 ((yI (yv tp mm) vv).1),qF true y.2.2.1 y.2.2.2.1 ((yI (yv tp mm) vv).2.1),qF true y.2.2.2.2.1 y.2.2.2.2.2 ((yI (yv tp mm) vv).2.2)]):=by
 refine zw Tryz.func49 rfl rfl rfl (fun c=> ?_)
 show RunC _ _ _ _ _ [(0,.agg #[u1.b,u1.l,u2.b,u2.l,u3.b,u3.l,u4.b,u4.l,u5.b,u5.l,u6.b,u6.l,u7.b,u7.l,u8.b,u8.l,u9.b,u9.l,u10.b,u10.l,u11.b,u11.l,u12.b,u12.l,u13.b,u13.l,u14.b,u14.l,u15.b,u15.l,u16.b,u16.l,u17.b,u17.l,u18.b,u18.l]),(1,.agg #[x1.b,x1.l,x2.b,x2.l,x3.b,x3.l,x4.b,x4.l,x5.b,x5.l,x6.b,x6.l]),(2,.bool tp)] [] [qF true u1 u2 (mm.1.1),qF true u3 u4 (mm.1.2.1),qF true u5 u6 (mm.1.2.2),qF true u7 u8 (mm.2.1.1),qF true u9 u10 (mm.2.1.2.1),qF true u11 u12 (mm.2.1.2.2),qF true u13 u14 (mm.2.2.1),qF true u15 u16 (mm.2.2.2.1),qF true u17 u18 (mm.2.2.2.2),qF true x1 x2 (vv.1),qF true x3 x4 (vv.2.1),qF true x5 x6 (vv.2.2)]
 have hp:=Sh.pk_hq (b:=tp) hm
 obtain ⟨⟨hm1,hm2,hm3⟩,⟨hm4,hm5,hm6⟩,⟨hm7,hm8,hm9⟩⟩:=hp
 obtain ⟨hv1,hv2,hv3⟩:=hv
 refine zj<|zc<|zG rfl rfl (zZ rfl rfl) (fun b1=> ?_)
 refine zG rfl rfl (zZ rfl rfl) (fun b2=> ?_)
 refine zG rfl rfl (zn zr54 rfl) (fun b3=> ?_)
 refine zk<|zg<|zj<|zc<|e_p (zsa zr54 rfl yf sz44 .n .n)<|zG rfl rfl (zn zr54 rfl) (fun b4=> ?_)
 refine zl 0 rfl rfl rfl rfl rfl sz54 rfl (.t8 (.t4 .nil)) .z<|zk<|zg<|zj<|zj<|zc<|e_mv rfl<|zk<|zg<|zv<|zPa<|zW<|zj<|zc<|e_p (zR rfl rfl)<|zk<|zg<|zj<|zX rfl rfl<|zx<|zg<|zj<|zv<|zj<|zc<|e_mv rfl<|e_p (zh rfl)<|zk<|zg<|zj<|zc<|e_mv rfl<|zH rfl rfl (.c rfl .n) ce22 (zra (z:=0) (hz:=yO)) (.n) ?_
 rintro ⟨w35,w46⟩ -
 dsimp only [aq,nq,cq]
 refine e_p (zi (i:=0) yf sz44 rfl rfl dd rfl)<|zl 0 rfl rfl rfl rfl rfl sz44 rfl (.t4 .nil) .z<|zk<|zg<|zj<|zc<|e_mv rfl<|zk<|zg<|zv<|zPa<|zW<|zj<|zc<|e_p (zR rfl rfl)<|zk<|zg<|zj<|zX rfl rfl<|zx<|zg<|zj<|zv<|zj<|zc<|e_mv rfl<|e_p (zh rfl)<|zk<|zg<|zj<|zc<|e_mv rfl<|e_mv rfl<|e_p (zi (i:=0) ym sz54 rfl rfl dd rfl)<|e_p (zi (i:=0) yf sz44 rfl rfl dd rfl)<|e_ru (zd 3 ty44 rfl rfl (.t4 .nil))<|zG rfl rfl (zn zr44 rfl) (fun b7=> ?_)
 refine zl 0 rfl rfl rfl rfl rfl sz44 rfl (.t4 .nil) .z<|zk<|zg<|zDa (X:=Wd×Wd) (fun x=>True) (fun x=>[(10,ye (some ⟨b7,0,none⟩)),(9,yc yd 0),(18,yc yd 0),(8,yc yd 0),(12,yc yd 0),(7,ye (some ⟨b4,0,none⟩)),(6,ye (some ⟨b3,0,none⟩)),(4,ye (some ⟨b2,0,none⟩)),(3,ye (some ⟨b1,0,none⟩)),(2,.bool tp)]) (fun x=>[boxA b7 44 (cw [x.1,x.2]),boxA b4 54 (cw [w35,w46,wz,wz,wz,wz]),boxA b3 54 (cw [wz,wz,wz,wz,wz,wz]),boxA b2 54 (cw [x1,x2,x3,x4,x5,x6]),boxA b1 97 (cw [u1,u2,u3,u4,u5,u6,u7,u8,u9,u10,u11,u12,u13,u14,u15,u16,u17,u18])]) (fun x=>[qF true x.1 x.2 ((yv tp mm).1.1),qF true w35 w46 ((0:Int):Rat),qF true u1 u2 (mm.1.1),qF true u3 u4 (mm.1.2.1),qF true u5 u6 (mm.1.2.2),qF true u7 u8 (mm.2.1.1),qF true u9 u10 (mm.2.1.2.1),qF true u11 u12 (mm.2.1.2.2),qF true u13 u14 (mm.2.2.1),qF true u15 u16 (mm.2.2.2.1),qF true u17 u18 (mm.2.2.2.2),qF true x1 x2 (vv.1),qF true x3 x4 (vv.2.1),qF true x5 x6 (vv.2.2)]) ?_ ?_
 ·
  refine zj<|zc<|e_mv rfl<|zk<|zg<|zRa rfl (fun h24=> ?_) (fun h24=> ?_)
  ·
   refine zc<|e_mv rfl<|e_mv rfl<|e_p (zi (i:=0) ym sz54 rfl rfl dd rfl)<|e_p (zi (i:=0) yf sz44 rfl rfl dd rfl)<|e_ru (zd 4 ty44 rfl rfl (.t4 .nil))<|zl 0 rfl rfl rfl rfl rfl sz44 rfl (.t4 .nil) .z<|zk ?_
   exact zha (u1,u2) (show True from by first|trivial|omega|simp_all) ((.of rfl):SubM _ _) (ho:=((.of [0,0,0,0,0] rfl):PickO _ _ _)) ((.e (j:=1) rfl (by rw [h24];rfl) (.of [0,1,2,3,4,5,6,7,8,9,10,11,12] rfl)):SelR _ _ _)
  ·
   refine zx ?_
   exact zha (u1,u2) (show True from by first|trivial|omega|simp_all) ((.of rfl):SubM _ _) (ho:=((.of [0,0,0,0,0] rfl):PickO _ _ _)) ((.e (j:=1) rfl (by rw [h24];rfl) (.of [0,1,2,3,4,5,6,7,8,9,10,11,12] rfl)):SelR _ _ _)
 ·
  rintro ⟨wy00,vy00⟩ -
  dsimp only [cw,cS]
  refine zba (.c (i:=1) rfl (.c (i:=0) rfl (.c (i:=0) rfl (.c (i:=0) rfl (.c (i:=0) rfl .n)))))<|zQ (OW:=[boxA b4 54 (cw [w35,w46,wz,wz,wz,wz])]) (O:=[boxA b7 44 (cw [wy00,vy00]),boxA b3 54 (cw [wz,wz,wz,wz,wz,wz]),boxA b2 54 (cw [x1,x2,x3,x4,x5,x6]),boxA b1 97 (cw [u1,u2,u3,u4,u5,u6,u7,u8,u9,u10,u11,u12,u13,u14,u15,u16,u17,u18])]) 11 mixed (.block (.then (.then (.block (.block (.then (.then (.block (.then .ret))))))))) kr<|e_dm 0 rfl rfl rfl<|e_dm 1 rfl rfl rfl<|e_pv 2 rfl rfl (zi (i:=0) yf sz44 rfl rfl dd rfl)<|e_uw 3 rfl rfl (zd 0 ty44 rfl rfl (.t4 .nil))<|e_uw 4 rfl rfl (zd 1 ty44 rfl rfl (.t4 .nil))<|e_dm 5 rfl rfl rfl<|e_pv 6 rfl rfl (zi (i:=0) yf sz44 rfl rfl dd rfl)<|e_uw 7 rfl rfl (zd 3 ty44 rfl rfl (.t4 .nil))<|e_one 8 (zm rfl rfl rfl rfl (.c rfl (.c rfl .n)) ce54 (zWa (k1:=true) (u1:=wy00) (v1:=vy00) (q1:=(yv tp mm).1.1) (k2:=true) (u2:=x1) (v2:=x2) (q2:=vv.1) (hl:=yO)) (.c (j:=0) rfl (.c (j:=11) rfl .n)) ?_)
  rintro ⟨w38,w49⟩ -
  dsimp only [aq,nq,cq]
  refine e_one 9 (zm rfl rfl rfl rfl (.c rfl (.c rfl .n)) ce25 (zNa (k1:=true) (u1:=w35) (v1:=w46) (q1:=((0:Int):Rat)) (k2:=true) (u2:=w38) (v2:=w49) (q2:=((yv tp mm).1.1)*vv.1) (hl:=yO)) (.c (j:=2) rfl (.c (j:=0) rfl .n)) ?_)
  rintro ⟨w310,w411⟩ -
  dsimp only [aq,nq,cq]
  refine e_pv 10 rfl rfl (zi (i:=0) yf sz44 rfl rfl dd rfl)<|e_one 11 (zp kr rfl rfl rfl rfl rfl sz44 rfl (.t4 .nil) ?_)
  refine zP kr<|zJ<|zg<|zc<|e_p (zI (z:=1) rfl rfl (w64 dd))<|e_mv rfl<|zk<|zfa<|zW<|zj<|zc<|e_p (zR rfl rfl)<|zk<|zg<|zj<|zX rfl rfl<|zx<|zg<|zj<|zv<|zj<|zc<|e_mv rfl<|e_p (zh rfl)<|zk<|zg<|zj<|zc<|e_mv rfl<|e_mv rfl<|e_p (zi (i:=0) ym sz54 rfl rfl dd rfl)<|e_p (zi (i:=1) yf sz44 rfl rfl dd rfl)<|e_ru (zd 4 ty44 rfl rfl (.s4 (.t4 .nil)))<|zG rfl rfl (zn zr44 rfl) (fun b12=> ?_)
  refine zl 0 rfl rfl rfl rfl rfl sz44 rfl (.t4 .nil) .z<|zk<|zg<|zDa (X:=Wd×Wd) (fun x=>True) (fun x=>[(10,ye (some ⟨b12,0,none⟩)),(9,yc yd 1),(18,yc yd 1),(8,yc yd 0),(12,yc yd 0),(7,ye (some ⟨b4,0,none⟩)),(6,ye (some ⟨b3,0,none⟩)),(4,ye (some ⟨b2,0,none⟩)),(3,ye (some ⟨b1,0,none⟩)),(2,.bool tp)]) (fun x=>[boxA b12 44 (cw [x.1,x.2]),boxA b4 54 (cw [w310,w411,wz,wz,wz,wz]),boxA b3 54 (cw [wz,wz,wz,wz,wz,wz]),boxA b2 54 (cw [x1,x2,x3,x4,x5,x6]),boxA b1 97 (cw [u1,u2,u3,u4,u5,u6,u7,u8,u9,u10,u11,u12,u13,u14,u15,u16,u17,u18])]) (fun x=>[qF true x.1 x.2 ((yv tp mm).1.2.1),qF true w310 w411 (((0:Int):Rat)+(((yv tp mm).1.1)*vv.1)),qF true u1 u2 (mm.1.1),qF true u3 u4 (mm.1.2.1),qF true u5 u6 (mm.1.2.2),qF true u7 u8 (mm.2.1.1),qF true u9 u10 (mm.2.1.2.1),qF true u11 u12 (mm.2.1.2.2),qF true u13 u14 (mm.2.2.1),qF true u15 u16 (mm.2.2.2.1),qF true u17 u18 (mm.2.2.2.2),qF true x1 x2 (vv.1),qF true x3 x4 (vv.2.1),qF true x5 x6 (vv.2.2)]) ?_ ?_
  ·
   refine zj<|zc<|e_mv rfl<|zk<|zg<|zRa rfl (fun h24=> ?_) (fun h24=> ?_)
   ·
    refine zc<|e_mv rfl<|e_mv rfl<|e_p (zi (i:=1) ym sz54 rfl rfl dd rfl)<|e_p (zi (i:=0) yf sz44 rfl rfl dd rfl)<|e_ru (zd 5 ty44 rfl rfl (.s8 (.s4 (.t4 .nil))))<|zl 0 rfl rfl rfl rfl rfl sz44 rfl (.t4 .nil) .z<|zk ?_
    exact zha (u7,u8) (show True from by first|trivial|omega|simp_all) ((.of rfl):SubM _ _) (ho:=((.of [0,0,1,1,1] rfl):PickO _ _ _)) ((.e (j:=7) rfl (by rw [h24];rfl) (.of [0,4,5,6,7,8,9,10,11,12,13,14,15] rfl)):SelR _ _ _)
   ·
    refine zx ?_
    exact zha (u3,u4) (show True from by first|trivial|omega|simp_all) ((.of rfl):SubM _ _) (ho:=((.of [0,0,1,1,1] rfl):PickO _ _ _)) ((.e (j:=5) rfl (by rw [h24];rfl) (.of [0,4,5,6,7,8,9,10,11,12,13,14,15] rfl)):SelR _ _ _)
  ·
   rintro ⟨wy01,vy01⟩ -
   dsimp only [cw,cS]
   refine zba (.c (i:=1) rfl (.c (i:=0) rfl (.c (i:=0) rfl (.c (i:=0) rfl (.c (i:=0) rfl .n)))))<|zQ (OW:=[boxA b4 54 (cw [w310,w411,wz,wz,wz,wz])]) (O:=[boxA b12 44 (cw [wy01,vy01]),boxA b3 54 (cw [wz,wz,wz,wz,wz,wz]),boxA b2 54 (cw [x1,x2,x3,x4,x5,x6]),boxA b1 97 (cw [u1,u2,u3,u4,u5,u6,u7,u8,u9,u10,u11,u12,u13,u14,u15,u16,u17,u18])]) 11 mixed (.block (.then (.then (.block (.block (.then (.then (.block (.then .ret))))))))) kr<|e_dm 0 rfl rfl rfl<|e_dm 1 rfl rfl rfl<|e_pv 2 rfl rfl (zi (i:=0) yf sz44 rfl rfl dd rfl)<|e_uw 3 rfl rfl (zd 0 ty44 rfl rfl (.t4 .nil))<|e_uw 4 rfl rfl (zd 1 ty44 rfl rfl (.t4 .nil))<|e_dm 5 rfl rfl rfl<|e_pv 6 rfl rfl (zi (i:=1) yf sz44 rfl rfl dd rfl)<|e_uw 7 rfl rfl (zd 3 ty44 rfl rfl (.s4 (.t4 .nil)))<|e_one 8 (zm rfl rfl rfl rfl (.c rfl (.c rfl .n)) ce54 (zWa (k1:=true) (u1:=wy01) (v1:=vy01) (q1:=(yv tp mm).1.2.1) (k2:=true) (u2:=x3) (v2:=x4) (q2:=vv.2.1) (hl:=yO)) (.c (j:=0) rfl (.c (j:=12) rfl .n)) ?_)
   rintro ⟨w313,w414⟩ -
   dsimp only [aq,nq,cq]
   refine e_one 9 (zm rfl rfl rfl rfl (.c rfl (.c rfl .n)) ce25 (zNa (k1:=true) (u1:=w310) (v1:=w411) (q1:=((0:Int):Rat)+(((yv tp mm).1.1)*vv.1)) (k2:=true) (u2:=w313) (v2:=w414) (q2:=((yv tp mm).1.2.1)*vv.2.1) (hl:=yO)) (.c (j:=2) rfl (.c (j:=0) rfl .n)) ?_)
   rintro ⟨w315,w416⟩ -
   dsimp only [aq,nq,cq]
   refine e_pv 10 rfl rfl (zi (i:=0) yf sz44 rfl rfl dd rfl)<|e_one 11 (zp kr rfl rfl rfl rfl rfl sz44 rfl (.t4 .nil) ?_)
   refine zP kr<|zJ<|zg<|zc<|e_p (zI (z:=2) rfl rfl (w64 dd))<|e_mv rfl<|zk<|zfa<|zW<|zj<|zc<|e_p (zR rfl rfl)<|zk<|zg<|zj<|zX rfl rfl<|zx<|zg<|zj<|zv<|zj<|zc<|e_mv rfl<|e_p (zh rfl)<|zk<|zg<|zj<|zc<|e_mv rfl<|e_mv rfl<|e_p (zi (i:=0) ym sz54 rfl rfl dd rfl)<|e_p (zi (i:=2) yf sz44 rfl rfl dd rfl)<|e_ru (zd 4 ty44 rfl rfl (.s8 (.t4 .nil)))<|zG rfl rfl (zn zr44 rfl) (fun b17=> ?_)
   refine zl 0 rfl rfl rfl rfl rfl sz44 rfl (.t4 .nil) .z<|zk<|zg<|zDa (X:=Wd×Wd) (fun x=>True) (fun x=>[(10,ye (some ⟨b17,0,none⟩)),(9,yc yd 2),(18,yc yd 2),(8,yc yd 0),(12,yc yd 0),(7,ye (some ⟨b4,0,none⟩)),(6,ye (some ⟨b3,0,none⟩)),(4,ye (some ⟨b2,0,none⟩)),(3,ye (some ⟨b1,0,none⟩)),(2,.bool tp)]) (fun x=>[boxA b17 44 (cw [x.1,x.2]),boxA b4 54 (cw [w315,w416,wz,wz,wz,wz]),boxA b3 54 (cw [wz,wz,wz,wz,wz,wz]),boxA b2 54 (cw [x1,x2,x3,x4,x5,x6]),boxA b1 97 (cw [u1,u2,u3,u4,u5,u6,u7,u8,u9,u10,u11,u12,u13,u14,u15,u16,u17,u18])]) (fun x=>[qF true x.1 x.2 ((yv tp mm).1.2.2),qF true w315 w416 ((((0:Int):Rat)+(((yv tp mm).1.1)*vv.1))+(((yv tp mm).1.2.1)*vv.2.1)),qF true u1 u2 (mm.1.1),qF true u3 u4 (mm.1.2.1),qF true u5 u6 (mm.1.2.2),qF true u7 u8 (mm.2.1.1),qF true u9 u10 (mm.2.1.2.1),qF true u11 u12 (mm.2.1.2.2),qF true u13 u14 (mm.2.2.1),qF true u15 u16 (mm.2.2.2.1),qF true u17 u18 (mm.2.2.2.2),qF true x1 x2 (vv.1),qF true x3 x4 (vv.2.1),qF true x5 x6 (vv.2.2)]) ?_ ?_
   ·
    refine zj<|zc<|e_mv rfl<|zk<|zg<|zRa rfl (fun h24=> ?_) (fun h24=> ?_)
    ·
     refine zc<|e_mv rfl<|e_mv rfl<|e_p (zi (i:=2) ym sz54 rfl rfl dd rfl)<|e_p (zi (i:=0) yf sz44 rfl rfl dd rfl)<|e_ru (zd 5 ty44 rfl rfl (.s8 (.s8 (.s8 (.t4 .nil)))))<|zl 0 rfl rfl rfl rfl rfl sz44 rfl (.t4 .nil) .z<|zk ?_
     exact zha (u13,u14) (show True from by first|trivial|omega|simp_all) ((.of rfl):SubM _ _) (ho:=((.of [0,0,1,1,1] rfl):PickO _ _ _)) ((.e (j:=10) rfl (by rw [h24];rfl) (.of [0,4,5,6,7,8,9,10,11,12,13,14,15] rfl)):SelR _ _ _)
    ·
     refine zx ?_
     exact zha (u5,u6) (show True from by first|trivial|omega|simp_all) ((.of rfl):SubM _ _) (ho:=((.of [0,0,1,1,1] rfl):PickO _ _ _)) ((.e (j:=6) rfl (by rw [h24];rfl) (.of [0,4,5,6,7,8,9,10,11,12,13,14,15] rfl)):SelR _ _ _)
   ·
    rintro ⟨wy02,vy02⟩ -
    dsimp only [cw,cS]
    refine zba (.c (i:=1) rfl (.c (i:=0) rfl (.c (i:=0) rfl (.c (i:=0) rfl (.c (i:=0) rfl .n)))))<|zQ (OW:=[boxA b4 54 (cw [w315,w416,wz,wz,wz,wz])]) (O:=[boxA b17 44 (cw [wy02,vy02]),boxA b3 54 (cw [wz,wz,wz,wz,wz,wz]),boxA b2 54 (cw [x1,x2,x3,x4,x5,x6]),boxA b1 97 (cw [u1,u2,u3,u4,u5,u6,u7,u8,u9,u10,u11,u12,u13,u14,u15,u16,u17,u18])]) 11 mixed (.block (.then (.then (.block (.block (.then (.then (.block (.then .ret))))))))) kr<|e_dm 0 rfl rfl rfl<|e_dm 1 rfl rfl rfl<|e_pv 2 rfl rfl (zi (i:=0) yf sz44 rfl rfl dd rfl)<|e_uw 3 rfl rfl (zd 0 ty44 rfl rfl (.t4 .nil))<|e_uw 4 rfl rfl (zd 1 ty44 rfl rfl (.t4 .nil))<|e_dm 5 rfl rfl rfl<|e_pv 6 rfl rfl (zi (i:=2) yf sz44 rfl rfl dd rfl)<|e_uw 7 rfl rfl (zd 3 ty44 rfl rfl (.s8 (.t4 .nil)))<|e_one 8 (zm rfl rfl rfl rfl (.c rfl (.c rfl .n)) ce54 (zWa (k1:=true) (u1:=wy02) (v1:=vy02) (q1:=(yv tp mm).1.2.2) (k2:=true) (u2:=x5) (v2:=x6) (q2:=vv.2.2) (hl:=yO)) (.c (j:=0) rfl (.c (j:=13) rfl .n)) ?_)
    rintro ⟨w318,w419⟩ -
    dsimp only [aq,nq,cq]
    refine e_one 9 (zm rfl rfl rfl rfl (.c rfl (.c rfl .n)) ce25 (zNa (k1:=true) (u1:=w315) (v1:=w416) (q1:=(((0:Int):Rat)+(((yv tp mm).1.1)*vv.1))+(((yv tp mm).1.2.1)*vv.2.1)) (k2:=true) (u2:=w318) (v2:=w419) (q2:=((yv tp mm).1.2.2)*vv.2.2) (hl:=yO)) (.c (j:=2) rfl (.c (j:=0) rfl .n)) ?_)
    rintro ⟨w320,w421⟩ -
    dsimp only [aq,nq,cq]
    refine e_pv 10 rfl rfl (zi (i:=0) yf sz44 rfl rfl dd rfl)<|e_one 11 (zp kr rfl rfl rfl rfl rfl sz44 rfl (.t4 .nil) ?_)
    refine zP kr<|zJ<|zg<|zc<|e_p (zI (z:=3) rfl rfl (w64 dd))<|e_mv rfl<|zk<|zfa<|zW<|zj<|zc<|e_p (zR rfl rfl)<|zk<|zg<|zj<|zva rfl rfl<|zla<|zo<|zo<|zB<|zJ<|zg ?_
    have e22:(((((0:Int):Rat)+(((yv tp mm).1.1)*vv.1))+(((yv tp mm).1.2.1)*vv.2.1))+(((yv tp mm).1.2.2)*vv.2.2):Rat)=(yI (yv tp mm) vv).1:=by rfl
    rw [e22]
    refine zc<|e_p (zI (z:=1) rfl rfl (w64 dd))<|e_mv rfl<|zk<|zfa<|zW<|zj<|zc<|e_p (zR rfl rfl)<|zk<|zg<|zj<|zX rfl rfl<|zx<|zg<|zj<|zv<|zj<|zc<|e_mv rfl<|e_p (zh rfl)<|zk<|zg<|zj<|zc<|e_mv rfl<|zH rfl rfl (.c rfl .n) ce22 (zra (z:=0) (hz:=yO)) (.n) ?_
    rintro ⟨w323,w424⟩ -
    dsimp only [aq,nq,cq]
    refine e_p (zi (i:=1) yf sz44 rfl rfl dd rfl)<|zl 0 rfl rfl rfl rfl rfl sz44 rfl (.s4 (.t4 .nil)) .z<|zk<|zg<|zj<|zc<|e_mv rfl<|zk<|zg<|zv<|zPa<|zW<|zj<|zc<|e_p (zR rfl rfl)<|zk<|zg<|zj<|zX rfl rfl<|zx<|zg<|zj<|zv<|zj<|zc<|e_mv rfl<|e_p (zh rfl)<|zk<|zg<|zj<|zc<|e_mv rfl<|e_mv rfl<|e_p (zi (i:=1) ym sz54 rfl rfl dd rfl)<|e_p (zi (i:=0) yf sz44 rfl rfl dd rfl)<|e_ru (zd 4 ty44 rfl rfl (.s8 (.s4 (.t4 .nil))))<|zG rfl rfl (zn zr44 rfl) (fun b25=> ?_)
    refine zl 0 rfl rfl rfl rfl rfl sz44 rfl (.t4 .nil) .z<|zk<|zg<|zDa (X:=Wd×Wd) (fun x=>True) (fun x=>[(10,ye (some ⟨b25,0,none⟩)),(9,yc yd 0),(18,yc yd 0),(8,yc yd 1),(12,yc yd 1),(7,ye (some ⟨b4,0,none⟩)),(6,ye (some ⟨b3,0,none⟩)),(4,ye (some ⟨b2,0,none⟩)),(3,ye (some ⟨b1,0,none⟩)),(2,.bool tp)]) (fun x=>[boxA b25 44 (cw [x.1,x.2]),boxA b4 54 (cw [w320,w421,w323,w424,wz,wz]),boxA b3 54 (cw [wz,wz,wz,wz,wz,wz]),boxA b2 54 (cw [x1,x2,x3,x4,x5,x6]),boxA b1 97 (cw [u1,u2,u3,u4,u5,u6,u7,u8,u9,u10,u11,u12,u13,u14,u15,u16,u17,u18])]) (fun x=>[qF true x.1 x.2 ((yv tp mm).2.1.1),qF true w323 w424 ((0:Int):Rat),qF true w320 w421 ((yI (yv tp mm) vv).1),qF true u1 u2 (mm.1.1),qF true u3 u4 (mm.1.2.1),qF true u5 u6 (mm.1.2.2),qF true u7 u8 (mm.2.1.1),qF true u9 u10 (mm.2.1.2.1),qF true u11 u12 (mm.2.1.2.2),qF true u13 u14 (mm.2.2.1),qF true u15 u16 (mm.2.2.2.1),qF true u17 u18 (mm.2.2.2.2),qF true x1 x2 (vv.1),qF true x3 x4 (vv.2.1),qF true x5 x6 (vv.2.2)]) ?_ ?_
    ·
     refine zj<|zc<|e_mv rfl<|zk<|zg<|zRa rfl (fun h24=> ?_) (fun h24=> ?_)
     ·
      refine zc<|e_mv rfl<|e_mv rfl<|e_p (zi (i:=0) ym sz54 rfl rfl dd rfl)<|e_p (zi (i:=1) yf sz44 rfl rfl dd rfl)<|e_ru (zd 5 ty44 rfl rfl (.s4 (.t4 .nil)))<|zl 0 rfl rfl rfl rfl rfl sz44 rfl (.t4 .nil) .z<|zk ?_
      exact zha (u3,u4) (show True from by first|trivial|omega|simp_all) ((.of rfl):SubM _ _) (ho:=((.of [0,0,1,1,1] rfl):PickO _ _ _)) ((.e (j:=6) rfl (by rw [h24];rfl) (.of [0,1,5,6,7,8,9,10,11,12,13,14,15,16] rfl)):SelR _ _ _)
     ·
      refine zx ?_
      exact zha (u7,u8) (show True from by first|trivial|omega|simp_all) ((.of rfl):SubM _ _) (ho:=((.of [0,0,1,1,1] rfl):PickO _ _ _)) ((.e (j:=8) rfl (by rw [h24];rfl) (.of [0,1,5,6,7,8,9,10,11,12,13,14,15,16] rfl)):SelR _ _ _)
    ·
     rintro ⟨wy10,vy10⟩ -
     dsimp only [cw,cS]
     refine zba (.c (i:=1) rfl (.c (i:=0) rfl (.c (i:=0) rfl (.c (i:=0) rfl (.c (i:=0) rfl .n)))))<|zQ (OW:=[boxA b4 54 (cw [w320,w421,w323,w424,wz,wz])]) (O:=[boxA b25 44 (cw [wy10,vy10]),boxA b3 54 (cw [wz,wz,wz,wz,wz,wz]),boxA b2 54 (cw [x1,x2,x3,x4,x5,x6]),boxA b1 97 (cw [u1,u2,u3,u4,u5,u6,u7,u8,u9,u10,u11,u12,u13,u14,u15,u16,u17,u18])]) 11 mixed (.block (.then (.then (.block (.block (.then (.then (.block (.then .ret))))))))) kr<|e_dm 0 rfl rfl rfl<|e_dm 1 rfl rfl rfl<|e_pv 2 rfl rfl (zi (i:=1) yf sz44 rfl rfl dd rfl)<|e_uw 3 rfl rfl (zd 0 ty44 rfl rfl (.s4 (.t4 .nil)))<|e_uw 4 rfl rfl (zd 1 ty44 rfl rfl (.t4 .nil))<|e_dm 5 rfl rfl rfl<|e_pv 6 rfl rfl (zi (i:=0) yf sz44 rfl rfl dd rfl)<|e_uw 7 rfl rfl (zd 3 ty44 rfl rfl (.t4 .nil))<|e_one 8 (zm rfl rfl rfl rfl (.c rfl (.c rfl .n)) ce54 (zWa (k1:=true) (u1:=wy10) (v1:=vy10) (q1:=(yv tp mm).2.1.1) (k2:=true) (u2:=x1) (v2:=x2) (q2:=vv.1) (hl:=yO)) (.c (j:=0) rfl (.c (j:=12) rfl .n)) ?_)
     rintro ⟨w326,w427⟩ -
     dsimp only [aq,nq,cq]
     refine e_one 9 (zm rfl rfl rfl rfl (.c rfl (.c rfl .n)) ce25 (zNa (k1:=true) (u1:=w323) (v1:=w424) (q1:=((0:Int):Rat)) (k2:=true) (u2:=w326) (v2:=w427) (q2:=((yv tp mm).2.1.1)*vv.1) (hl:=yO)) (.c (j:=2) rfl (.c (j:=0) rfl .n)) ?_)
     rintro ⟨w328,w429⟩ -
     dsimp only [aq,nq,cq]
     refine e_pv 10 rfl rfl (zi (i:=1) yf sz44 rfl rfl dd rfl)<|e_one 11 (zp kr rfl rfl rfl rfl rfl sz44 rfl (.s4 (.t4 .nil)) ?_)
     refine zP kr<|zJ<|zg<|zc<|e_p (zI (z:=1) rfl rfl (w64 dd))<|e_mv rfl<|zk<|zfa<|zW<|zj<|zc<|e_p (zR rfl rfl)<|zk<|zg<|zj<|zX rfl rfl<|zx<|zg<|zj<|zv<|zj<|zc<|e_mv rfl<|e_p (zh rfl)<|zk<|zg<|zj<|zc<|e_mv rfl<|e_mv rfl<|e_p (zi (i:=1) ym sz54 rfl rfl dd rfl)<|e_p (zi (i:=1) yf sz44 rfl rfl dd rfl)<|e_ru (zd 4 ty44 rfl rfl (.s8 (.s8 (.t4 .nil))))<|zG rfl rfl (zn zr44 rfl) (fun b30=> ?_)
     refine zl 0 rfl rfl rfl rfl rfl sz44 rfl (.t4 .nil) .z<|zk<|zg<|zDa (X:=Wd×Wd) (fun x=>True) (fun x=>[(10,ye (some ⟨b30,0,none⟩)),(9,yc yd 1),(18,yc yd 1),(8,yc yd 1),(12,yc yd 1),(7,ye (some ⟨b4,0,none⟩)),(6,ye (some ⟨b3,0,none⟩)),(4,ye (some ⟨b2,0,none⟩)),(3,ye (some ⟨b1,0,none⟩)),(2,.bool tp)]) (fun x=>[boxA b30 44 (cw [x.1,x.2]),boxA b4 54 (cw [w320,w421,w328,w429,wz,wz]),boxA b3 54 (cw [wz,wz,wz,wz,wz,wz]),boxA b2 54 (cw [x1,x2,x3,x4,x5,x6]),boxA b1 97 (cw [u1,u2,u3,u4,u5,u6,u7,u8,u9,u10,u11,u12,u13,u14,u15,u16,u17,u18])]) (fun x=>[qF true x.1 x.2 ((yv tp mm).2.1.2.1),qF true w328 w429 (((0:Int):Rat)+(((yv tp mm).2.1.1)*vv.1)),qF true w320 w421 ((yI (yv tp mm) vv).1),qF true u1 u2 (mm.1.1),qF true u3 u4 (mm.1.2.1),qF true u5 u6 (mm.1.2.2),qF true u7 u8 (mm.2.1.1),qF true u9 u10 (mm.2.1.2.1),qF true u11 u12 (mm.2.1.2.2),qF true u13 u14 (mm.2.2.1),qF true u15 u16 (mm.2.2.2.1),qF true u17 u18 (mm.2.2.2.2),qF true x1 x2 (vv.1),qF true x3 x4 (vv.2.1),qF true x5 x6 (vv.2.2)]) ?_ ?_
     ·
      refine zj<|zc<|e_mv rfl<|zk<|zg<|zRa rfl (fun h24=> ?_) (fun h24=> ?_)
      ·
       refine zc<|e_mv rfl<|e_mv rfl<|e_p (zi (i:=1) ym sz54 rfl rfl dd rfl)<|e_p (zi (i:=1) yf sz44 rfl rfl dd rfl)<|e_ru (zd 5 ty44 rfl rfl (.s8 (.s8 (.t4 .nil))))<|zl 0 rfl rfl rfl rfl rfl sz44 rfl (.t4 .nil) .z<|zk ?_
       exact zha (u9,u10) (show True from by first|trivial|omega|simp_all) ((.of rfl):SubM _ _) (ho:=((.of [0,0,1,1,1] rfl):PickO _ _ _)) ((.e (j:=9) rfl (by rw [h24];rfl) (.of [0,4,5,6,7,8,9,10,11,12,13,14,15,16] rfl)):SelR _ _ _)
      ·
       refine zx ?_
       exact zha (u9,u10) (show True from by first|trivial|omega|simp_all) ((.of rfl):SubM _ _) (ho:=((.of [0,0,1,1,1] rfl):PickO _ _ _)) ((.e (j:=9) rfl (by rw [h24];rfl) (.of [0,4,5,6,7,8,9,10,11,12,13,14,15,16] rfl)):SelR _ _ _)
     ·
      rintro ⟨wy11,vy11⟩ -
      dsimp only [cw,cS]
      refine zba (.c (i:=1) rfl (.c (i:=0) rfl (.c (i:=0) rfl (.c (i:=0) rfl (.c (i:=0) rfl .n)))))<|zQ (OW:=[boxA b4 54 (cw [w320,w421,w328,w429,wz,wz])]) (O:=[boxA b30 44 (cw [wy11,vy11]),boxA b3 54 (cw [wz,wz,wz,wz,wz,wz]),boxA b2 54 (cw [x1,x2,x3,x4,x5,x6]),boxA b1 97 (cw [u1,u2,u3,u4,u5,u6,u7,u8,u9,u10,u11,u12,u13,u14,u15,u16,u17,u18])]) 11 mixed (.block (.then (.then (.block (.block (.then (.then (.block (.then .ret))))))))) kr<|e_dm 0 rfl rfl rfl<|e_dm 1 rfl rfl rfl<|e_pv 2 rfl rfl (zi (i:=1) yf sz44 rfl rfl dd rfl)<|e_uw 3 rfl rfl (zd 0 ty44 rfl rfl (.s4 (.t4 .nil)))<|e_uw 4 rfl rfl (zd 1 ty44 rfl rfl (.t4 .nil))<|e_dm 5 rfl rfl rfl<|e_pv 6 rfl rfl (zi (i:=1) yf sz44 rfl rfl dd rfl)<|e_uw 7 rfl rfl (zd 3 ty44 rfl rfl (.s4 (.t4 .nil)))<|e_one 8 (zm rfl rfl rfl rfl (.c rfl (.c rfl .n)) ce54 (zWa (k1:=true) (u1:=wy11) (v1:=vy11) (q1:=(yv tp mm).2.1.2.1) (k2:=true) (u2:=x3) (v2:=x4) (q2:=vv.2.1) (hl:=yO)) (.c (j:=0) rfl (.c (j:=13) rfl .n)) ?_)
      rintro ⟨w331,w432⟩ -
      dsimp only [aq,nq,cq]
      refine e_one 9 (zm rfl rfl rfl rfl (.c rfl (.c rfl .n)) ce25 (zNa (k1:=true) (u1:=w328) (v1:=w429) (q1:=((0:Int):Rat)+(((yv tp mm).2.1.1)*vv.1)) (k2:=true) (u2:=w331) (v2:=w432) (q2:=((yv tp mm).2.1.2.1)*vv.2.1) (hl:=yO)) (.c (j:=2) rfl (.c (j:=0) rfl .n)) ?_)
      rintro ⟨w333,w434⟩ -
      dsimp only [aq,nq,cq]
      refine e_pv 10 rfl rfl (zi (i:=1) yf sz44 rfl rfl dd rfl)<|e_one 11 (zp kr rfl rfl rfl rfl rfl sz44 rfl (.s4 (.t4 .nil)) ?_)
      refine zP kr<|zJ<|zg<|zc<|e_p (zI (z:=2) rfl rfl (w64 dd))<|e_mv rfl<|zk<|zfa<|zW<|zj<|zc<|e_p (zR rfl rfl)<|zk<|zg<|zj<|zX rfl rfl<|zx<|zg<|zj<|zv<|zj<|zc<|e_mv rfl<|e_p (zh rfl)<|zk<|zg<|zj<|zc<|e_mv rfl<|e_mv rfl<|e_p (zi (i:=1) ym sz54 rfl rfl dd rfl)<|e_p (zi (i:=2) yf sz44 rfl rfl dd rfl)<|e_ru (zd 4 ty44 rfl rfl (.s8 (.s8 (.s4 (.t4 .nil)))))<|zG rfl rfl (zn zr44 rfl) (fun b35=> ?_)
      refine zl 0 rfl rfl rfl rfl rfl sz44 rfl (.t4 .nil) .z<|zk<|zg<|zDa (X:=Wd×Wd) (fun x=>True) (fun x=>[(10,ye (some ⟨b35,0,none⟩)),(9,yc yd 2),(18,yc yd 2),(8,yc yd 1),(12,yc yd 1),(7,ye (some ⟨b4,0,none⟩)),(6,ye (some ⟨b3,0,none⟩)),(4,ye (some ⟨b2,0,none⟩)),(3,ye (some ⟨b1,0,none⟩)),(2,.bool tp)]) (fun x=>[boxA b35 44 (cw [x.1,x.2]),boxA b4 54 (cw [w320,w421,w333,w434,wz,wz]),boxA b3 54 (cw [wz,wz,wz,wz,wz,wz]),boxA b2 54 (cw [x1,x2,x3,x4,x5,x6]),boxA b1 97 (cw [u1,u2,u3,u4,u5,u6,u7,u8,u9,u10,u11,u12,u13,u14,u15,u16,u17,u18])]) (fun x=>[qF true x.1 x.2 ((yv tp mm).2.1.2.2),qF true w333 w434 ((((0:Int):Rat)+(((yv tp mm).2.1.1)*vv.1))+(((yv tp mm).2.1.2.1)*vv.2.1)),qF true w320 w421 ((yI (yv tp mm) vv).1),qF true u1 u2 (mm.1.1),qF true u3 u4 (mm.1.2.1),qF true u5 u6 (mm.1.2.2),qF true u7 u8 (mm.2.1.1),qF true u9 u10 (mm.2.1.2.1),qF true u11 u12 (mm.2.1.2.2),qF true u13 u14 (mm.2.2.1),qF true u15 u16 (mm.2.2.2.1),qF true u17 u18 (mm.2.2.2.2),qF true x1 x2 (vv.1),qF true x3 x4 (vv.2.1),qF true x5 x6 (vv.2.2)]) ?_ ?_
      ·
       refine zj<|zc<|e_mv rfl<|zk<|zg<|zRa rfl (fun h24=> ?_) (fun h24=> ?_)
       ·
        refine zc<|e_mv rfl<|e_mv rfl<|e_p (zi (i:=2) ym sz54 rfl rfl dd rfl)<|e_p (zi (i:=1) yf sz44 rfl rfl dd rfl)<|e_ru (zd 5 ty44 rfl rfl (.s8 (.s8 (.s8 (.s4 (.t4 .nil))))))<|zl 0 rfl rfl rfl rfl rfl sz44 rfl (.t4 .nil) .z<|zk ?_
        exact zha (u15,u16) (show True from by first|trivial|omega|simp_all) ((.of rfl):SubM _ _) (ho:=((.of [0,0,1,1,1] rfl):PickO _ _ _)) ((.e (j:=12) rfl (by rw [h24];rfl) (.of [0,4,5,6,7,8,9,10,11,12,13,14,15,16] rfl)):SelR _ _ _)
       ·
        refine zx ?_
        exact zha (u11,u12) (show True from by first|trivial|omega|simp_all) ((.of rfl):SubM _ _) (ho:=((.of [0,0,1,1,1] rfl):PickO _ _ _)) ((.e (j:=10) rfl (by rw [h24];rfl) (.of [0,4,5,6,7,8,9,10,11,12,13,14,15,16] rfl)):SelR _ _ _)
      ·
       rintro ⟨wy12,vy12⟩ -
       dsimp only [cw,cS]
       refine zba (.c (i:=1) rfl (.c (i:=0) rfl (.c (i:=0) rfl (.c (i:=0) rfl (.c (i:=0) rfl .n)))))<|zQ (OW:=[boxA b4 54 (cw [w320,w421,w333,w434,wz,wz])]) (O:=[boxA b35 44 (cw [wy12,vy12]),boxA b3 54 (cw [wz,wz,wz,wz,wz,wz]),boxA b2 54 (cw [x1,x2,x3,x4,x5,x6]),boxA b1 97 (cw [u1,u2,u3,u4,u5,u6,u7,u8,u9,u10,u11,u12,u13,u14,u15,u16,u17,u18])]) 11 mixed (.block (.then (.then (.block (.block (.then (.then (.block (.then .ret))))))))) kr<|e_dm 0 rfl rfl rfl<|e_dm 1 rfl rfl rfl<|e_pv 2 rfl rfl (zi (i:=1) yf sz44 rfl rfl dd rfl)<|e_uw 3 rfl rfl (zd 0 ty44 rfl rfl (.s4 (.t4 .nil)))<|e_uw 4 rfl rfl (zd 1 ty44 rfl rfl (.t4 .nil))<|e_dm 5 rfl rfl rfl<|e_pv 6 rfl rfl (zi (i:=2) yf sz44 rfl rfl dd rfl)<|e_uw 7 rfl rfl (zd 3 ty44 rfl rfl (.s8 (.t4 .nil)))<|e_one 8 (zm rfl rfl rfl rfl (.c rfl (.c rfl .n)) ce54 (zWa (k1:=true) (u1:=wy12) (v1:=vy12) (q1:=(yv tp mm).2.1.2.2) (k2:=true) (u2:=x5) (v2:=x6) (q2:=vv.2.2) (hl:=yO)) (.c (j:=0) rfl (.c (j:=14) rfl .n)) ?_)
       rintro ⟨w336,w437⟩ -
       dsimp only [aq,nq,cq]
       refine e_one 9 (zm rfl rfl rfl rfl (.c rfl (.c rfl .n)) ce25 (zNa (k1:=true) (u1:=w333) (v1:=w434) (q1:=(((0:Int):Rat)+(((yv tp mm).2.1.1)*vv.1))+(((yv tp mm).2.1.2.1)*vv.2.1)) (k2:=true) (u2:=w336) (v2:=w437) (q2:=((yv tp mm).2.1.2.2)*vv.2.2) (hl:=yO)) (.c (j:=2) rfl (.c (j:=0) rfl .n)) ?_)
       rintro ⟨w338,w439⟩ -
       dsimp only [aq,nq,cq]
       refine e_pv 10 rfl rfl (zi (i:=1) yf sz44 rfl rfl dd rfl)<|e_one 11 (zp kr rfl rfl rfl rfl rfl sz44 rfl (.s4 (.t4 .nil)) ?_)
       refine zP kr<|zJ<|zg<|zc<|e_p (zI (z:=3) rfl rfl (w64 dd))<|e_mv rfl<|zk<|zfa<|zW<|zj<|zc<|e_p (zR rfl rfl)<|zk<|zg<|zj<|zva rfl rfl<|zla<|zo<|zo<|zB<|zJ<|zg ?_
       have e40:(((((0:Int):Rat)+(((yv tp mm).2.1.1)*vv.1))+(((yv tp mm).2.1.2.1)*vv.2.1))+(((yv tp mm).2.1.2.2)*vv.2.2):Rat)=(yI (yv tp mm) vv).2.1:=by rfl
       rw [e40]
       refine zc<|e_p (zI (z:=2) rfl rfl (w64 dd))<|e_mv rfl<|zk<|zfa<|zW<|zj<|zc<|e_p (zR rfl rfl)<|zk<|zg<|zj<|zX rfl rfl<|zx<|zg<|zj<|zv<|zj<|zc<|e_mv rfl<|e_p (zh rfl)<|zk<|zg<|zj<|zc<|e_mv rfl<|zH rfl rfl (.c rfl .n) ce22 (zra (z:=0) (hz:=yO)) (.n) ?_
       rintro ⟨w341,w442⟩ -
       dsimp only [aq,nq,cq]
       refine e_p (zi (i:=2) yf sz44 rfl rfl dd rfl)<|zl 0 rfl rfl rfl rfl rfl sz44 rfl (.s8 (.t4 .nil)) .z<|zk<|zg<|zj<|zc<|e_mv rfl<|zk<|zg<|zv<|zPa<|zW<|zj<|zc<|e_p (zR rfl rfl)<|zk<|zg<|zj<|zX rfl rfl<|zx<|zg<|zj<|zv<|zj<|zc<|e_mv rfl<|e_p (zh rfl)<|zk<|zg<|zj<|zc<|e_mv rfl<|e_mv rfl<|e_p (zi (i:=2) ym sz54 rfl rfl dd rfl)<|e_p (zi (i:=0) yf sz44 rfl rfl dd rfl)<|e_ru (zd 4 ty44 rfl rfl (.s8 (.s8 (.s8 (.t4 .nil)))))<|zG rfl rfl (zn zr44 rfl) (fun b43=> ?_)
       refine zl 0 rfl rfl rfl rfl rfl sz44 rfl (.t4 .nil) .z<|zk<|zg<|zDa (X:=Wd×Wd) (fun x=>True) (fun x=>[(10,ye (some ⟨b43,0,none⟩)),(9,yc yd 0),(18,yc yd 0),(8,yc yd 2),(12,yc yd 2),(7,ye (some ⟨b4,0,none⟩)),(6,ye (some ⟨b3,0,none⟩)),(4,ye (some ⟨b2,0,none⟩)),(3,ye (some ⟨b1,0,none⟩)),(2,.bool tp)]) (fun x=>[boxA b43 44 (cw [x.1,x.2]),boxA b4 54 (cw [w320,w421,w338,w439,w341,w442]),boxA b3 54 (cw [wz,wz,wz,wz,wz,wz]),boxA b2 54 (cw [x1,x2,x3,x4,x5,x6]),boxA b1 97 (cw [u1,u2,u3,u4,u5,u6,u7,u8,u9,u10,u11,u12,u13,u14,u15,u16,u17,u18])]) (fun x=>[qF true x.1 x.2 ((yv tp mm).2.2.1),qF true w341 w442 ((0:Int):Rat),qF true w338 w439 ((yI (yv tp mm) vv).2.1),qF true w320 w421 ((yI (yv tp mm) vv).1),qF true u1 u2 (mm.1.1),qF true u3 u4 (mm.1.2.1),qF true u5 u6 (mm.1.2.2),qF true u7 u8 (mm.2.1.1),qF true u9 u10 (mm.2.1.2.1),qF true u11 u12 (mm.2.1.2.2),qF true u13 u14 (mm.2.2.1),qF true u15 u16 (mm.2.2.2.1),qF true u17 u18 (mm.2.2.2.2),qF true x1 x2 (vv.1),qF true x3 x4 (vv.2.1),qF true x5 x6 (vv.2.2)]) ?_ ?_
       ·
        refine zj<|zc<|e_mv rfl<|zk<|zg<|zRa rfl (fun h24=> ?_) (fun h24=> ?_)
        ·
         refine zc<|e_mv rfl<|e_mv rfl<|e_p (zi (i:=0) ym sz54 rfl rfl dd rfl)<|e_p (zi (i:=2) yf sz44 rfl rfl dd rfl)<|e_ru (zd 5 ty44 rfl rfl (.s8 (.t4 .nil)))<|zl 0 rfl rfl rfl rfl rfl sz44 rfl (.t4 .nil) .z<|zk ?_
         exact zha (u5,u6) (show True from by first|trivial|omega|simp_all) ((.of rfl):SubM _ _) (ho:=((.of [0,0,1,1,1] rfl):PickO _ _ _)) ((.e (j:=8) rfl (by rw [h24];rfl) (.of [0,1,5,6,7,8,9,10,11,12,13,14,15,16,17] rfl)):SelR _ _ _)
        ·
         refine zx ?_
         exact zha (u13,u14) (show True from by first|trivial|omega|simp_all) ((.of rfl):SubM _ _) (ho:=((.of [0,0,1,1,1] rfl):PickO _ _ _)) ((.e (j:=12) rfl (by rw [h24];rfl) (.of [0,1,5,6,7,8,9,10,11,12,13,14,15,16,17] rfl)):SelR _ _ _)
       ·
        rintro ⟨wy20,vy20⟩ -
        dsimp only [cw,cS]
        refine zba (.c (i:=1) rfl (.c (i:=0) rfl (.c (i:=0) rfl (.c (i:=0) rfl (.c (i:=0) rfl .n)))))<|zQ (OW:=[boxA b4 54 (cw [w320,w421,w338,w439,w341,w442])]) (O:=[boxA b43 44 (cw [wy20,vy20]),boxA b3 54 (cw [wz,wz,wz,wz,wz,wz]),boxA b2 54 (cw [x1,x2,x3,x4,x5,x6]),boxA b1 97 (cw [u1,u2,u3,u4,u5,u6,u7,u8,u9,u10,u11,u12,u13,u14,u15,u16,u17,u18])]) 11 mixed (.block (.then (.then (.block (.block (.then (.then (.block (.then .ret))))))))) kr<|e_dm 0 rfl rfl rfl<|e_dm 1 rfl rfl rfl<|e_pv 2 rfl rfl (zi (i:=2) yf sz44 rfl rfl dd rfl)<|e_uw 3 rfl rfl (zd 0 ty44 rfl rfl (.s8 (.t4 .nil)))<|e_uw 4 rfl rfl (zd 1 ty44 rfl rfl (.t4 .nil))<|e_dm 5 rfl rfl rfl<|e_pv 6 rfl rfl (zi (i:=0) yf sz44 rfl rfl dd rfl)<|e_uw 7 rfl rfl (zd 3 ty44 rfl rfl (.t4 .nil))<|e_one 8 (zm rfl rfl rfl rfl (.c rfl (.c rfl .n)) ce54 (zWa (k1:=true) (u1:=wy20) (v1:=vy20) (q1:=(yv tp mm).2.2.1) (k2:=true) (u2:=x1) (v2:=x2) (q2:=vv.1) (hl:=yO)) (.c (j:=0) rfl (.c (j:=13) rfl .n)) ?_)
        rintro ⟨w344,w445⟩ -
        dsimp only [aq,nq,cq]
        refine e_one 9 (zm rfl rfl rfl rfl (.c rfl (.c rfl .n)) ce25 (zNa (k1:=true) (u1:=w341) (v1:=w442) (q1:=((0:Int):Rat)) (k2:=true) (u2:=w344) (v2:=w445) (q2:=((yv tp mm).2.2.1)*vv.1) (hl:=yO)) (.c (j:=2) rfl (.c (j:=0) rfl .n)) ?_)
        rintro ⟨w346,w447⟩ -
        dsimp only [aq,nq,cq]
        refine e_pv 10 rfl rfl (zi (i:=2) yf sz44 rfl rfl dd rfl)<|e_one 11 (zp kr rfl rfl rfl rfl rfl sz44 rfl (.s8 (.t4 .nil)) ?_)
        refine zP kr<|zJ<|zg<|zc<|e_p (zI (z:=1) rfl rfl (w64 dd))<|e_mv rfl<|zk<|zfa<|zW<|zj<|zc<|e_p (zR rfl rfl)<|zk<|zg<|zj<|zX rfl rfl<|zx<|zg<|zj<|zv<|zj<|zc<|e_mv rfl<|e_p (zh rfl)<|zk<|zg<|zj<|zc<|e_mv rfl<|e_mv rfl<|e_p (zi (i:=2) ym sz54 rfl rfl dd rfl)<|e_p (zi (i:=1) yf sz44 rfl rfl dd rfl)<|e_ru (zd 4 ty44 rfl rfl (.s8 (.s8 (.s8 (.s4 (.t4 .nil))))))<|zG rfl rfl (zn zr44 rfl) (fun b48=> ?_)
        refine zl 0 rfl rfl rfl rfl rfl sz44 rfl (.t4 .nil) .z<|zk<|zg<|zDa (X:=Wd×Wd) (fun x=>True) (fun x=>[(10,ye (some ⟨b48,0,none⟩)),(9,yc yd 1),(18,yc yd 1),(8,yc yd 2),(12,yc yd 2),(7,ye (some ⟨b4,0,none⟩)),(6,ye (some ⟨b3,0,none⟩)),(4,ye (some ⟨b2,0,none⟩)),(3,ye (some ⟨b1,0,none⟩)),(2,.bool tp)]) (fun x=>[boxA b48 44 (cw [x.1,x.2]),boxA b4 54 (cw [w320,w421,w338,w439,w346,w447]),boxA b3 54 (cw [wz,wz,wz,wz,wz,wz]),boxA b2 54 (cw [x1,x2,x3,x4,x5,x6]),boxA b1 97 (cw [u1,u2,u3,u4,u5,u6,u7,u8,u9,u10,u11,u12,u13,u14,u15,u16,u17,u18])]) (fun x=>[qF true x.1 x.2 ((yv tp mm).2.2.2.1),qF true w346 w447 (((0:Int):Rat)+(((yv tp mm).2.2.1)*vv.1)),qF true w338 w439 ((yI (yv tp mm) vv).2.1),qF true w320 w421 ((yI (yv tp mm) vv).1),qF true u1 u2 (mm.1.1),qF true u3 u4 (mm.1.2.1),qF true u5 u6 (mm.1.2.2),qF true u7 u8 (mm.2.1.1),qF true u9 u10 (mm.2.1.2.1),qF true u11 u12 (mm.2.1.2.2),qF true u13 u14 (mm.2.2.1),qF true u15 u16 (mm.2.2.2.1),qF true u17 u18 (mm.2.2.2.2),qF true x1 x2 (vv.1),qF true x3 x4 (vv.2.1),qF true x5 x6 (vv.2.2)]) ?_ ?_
        ·
         refine zj<|zc<|e_mv rfl<|zk<|zg<|zRa rfl (fun h24=> ?_) (fun h24=> ?_)
         ·
          refine zc<|e_mv rfl<|e_mv rfl<|e_p (zi (i:=1) ym sz54 rfl rfl dd rfl)<|e_p (zi (i:=2) yf sz44 rfl rfl dd rfl)<|e_ru (zd 5 ty44 rfl rfl (.s8 (.s8 (.s4 (.t4 .nil)))))<|zl 0 rfl rfl rfl rfl rfl sz44 rfl (.t4 .nil) .z<|zk ?_
          exact zha (u11,u12) (show True from by first|trivial|omega|simp_all) ((.of rfl):SubM _ _) (ho:=((.of [0,0,1,1,1] rfl):PickO _ _ _)) ((.e (j:=11) rfl (by rw [h24];rfl) (.of [0,4,5,6,7,8,9,10,11,12,13,14,15,16,17] rfl)):SelR _ _ _)
         ·
          refine zx ?_
          exact zha (u15,u16) (show True from by first|trivial|omega|simp_all) ((.of rfl):SubM _ _) (ho:=((.of [0,0,1,1,1] rfl):PickO _ _ _)) ((.e (j:=13) rfl (by rw [h24];rfl) (.of [0,4,5,6,7,8,9,10,11,12,13,14,15,16,17] rfl)):SelR _ _ _)
        ·
         rintro ⟨wy21,vy21⟩ -
         dsimp only [cw,cS]
         refine zba (.c (i:=1) rfl (.c (i:=0) rfl (.c (i:=0) rfl (.c (i:=0) rfl (.c (i:=0) rfl .n)))))<|zQ (OW:=[boxA b4 54 (cw [w320,w421,w338,w439,w346,w447])]) (O:=[boxA b48 44 (cw [wy21,vy21]),boxA b3 54 (cw [wz,wz,wz,wz,wz,wz]),boxA b2 54 (cw [x1,x2,x3,x4,x5,x6]),boxA b1 97 (cw [u1,u2,u3,u4,u5,u6,u7,u8,u9,u10,u11,u12,u13,u14,u15,u16,u17,u18])]) 11 mixed (.block (.then (.then (.block (.block (.then (.then (.block (.then .ret))))))))) kr<|e_dm 0 rfl rfl rfl<|e_dm 1 rfl rfl rfl<|e_pv 2 rfl rfl (zi (i:=2) yf sz44 rfl rfl dd rfl)<|e_uw 3 rfl rfl (zd 0 ty44 rfl rfl (.s8 (.t4 .nil)))<|e_uw 4 rfl rfl (zd 1 ty44 rfl rfl (.t4 .nil))<|e_dm 5 rfl rfl rfl<|e_pv 6 rfl rfl (zi (i:=1) yf sz44 rfl rfl dd rfl)<|e_uw 7 rfl rfl (zd 3 ty44 rfl rfl (.s4 (.t4 .nil)))<|e_one 8 (zm rfl rfl rfl rfl (.c rfl (.c rfl .n)) ce54 (zWa (k1:=true) (u1:=wy21) (v1:=vy21) (q1:=(yv tp mm).2.2.2.1) (k2:=true) (u2:=x3) (v2:=x4) (q2:=vv.2.1) (hl:=yO)) (.c (j:=0) rfl (.c (j:=14) rfl .n)) ?_)
         rintro ⟨w349,w450⟩ -
         dsimp only [aq,nq,cq]
         refine e_one 9 (zm rfl rfl rfl rfl (.c rfl (.c rfl .n)) ce25 (zNa (k1:=true) (u1:=w346) (v1:=w447) (q1:=((0:Int):Rat)+(((yv tp mm).2.2.1)*vv.1)) (k2:=true) (u2:=w349) (v2:=w450) (q2:=((yv tp mm).2.2.2.1)*vv.2.1) (hl:=yO)) (.c (j:=2) rfl (.c (j:=0) rfl .n)) ?_)
         rintro ⟨w351,w452⟩ -
         dsimp only [aq,nq,cq]
         refine e_pv 10 rfl rfl (zi (i:=2) yf sz44 rfl rfl dd rfl)<|e_one 11 (zp kr rfl rfl rfl rfl rfl sz44 rfl (.s8 (.t4 .nil)) ?_)
         refine zP kr<|zJ<|zg<|zc<|e_p (zI (z:=2) rfl rfl (w64 dd))<|e_mv rfl<|zk<|zfa<|zW<|zj<|zc<|e_p (zR rfl rfl)<|zk<|zg<|zj<|zX rfl rfl<|zx<|zg<|zj<|zv<|zj<|zc<|e_mv rfl<|e_p (zh rfl)<|zk<|zg<|zj<|zc<|e_mv rfl<|e_mv rfl<|e_p (zi (i:=2) ym sz54 rfl rfl dd rfl)<|e_p (zi (i:=2) yf sz44 rfl rfl dd rfl)<|e_ru (zd 4 ty44 rfl rfl (.s8 (.s8 (.s8 (.s8 (.t4 .nil))))))<|zG rfl rfl (zn zr44 rfl) (fun b53=> ?_)
         refine zl 0 rfl rfl rfl rfl rfl sz44 rfl (.t4 .nil) .z<|zk<|zg<|zDa (X:=Wd×Wd) (fun x=>True) (fun x=>[(10,ye (some ⟨b53,0,none⟩)),(9,yc yd 2),(18,yc yd 2),(8,yc yd 2),(12,yc yd 2),(7,ye (some ⟨b4,0,none⟩)),(6,ye (some ⟨b3,0,none⟩)),(4,ye (some ⟨b2,0,none⟩)),(3,ye (some ⟨b1,0,none⟩)),(2,.bool tp)]) (fun x=>[boxA b53 44 (cw [x.1,x.2]),boxA b4 54 (cw [w320,w421,w338,w439,w351,w452]),boxA b3 54 (cw [wz,wz,wz,wz,wz,wz]),boxA b2 54 (cw [x1,x2,x3,x4,x5,x6]),boxA b1 97 (cw [u1,u2,u3,u4,u5,u6,u7,u8,u9,u10,u11,u12,u13,u14,u15,u16,u17,u18])]) (fun x=>[qF true x.1 x.2 ((yv tp mm).2.2.2.2),qF true w351 w452 ((((0:Int):Rat)+(((yv tp mm).2.2.1)*vv.1))+(((yv tp mm).2.2.2.1)*vv.2.1)),qF true w338 w439 ((yI (yv tp mm) vv).2.1),qF true w320 w421 ((yI (yv tp mm) vv).1),qF true u1 u2 (mm.1.1),qF true u3 u4 (mm.1.2.1),qF true u5 u6 (mm.1.2.2),qF true u7 u8 (mm.2.1.1),qF true u9 u10 (mm.2.1.2.1),qF true u11 u12 (mm.2.1.2.2),qF true u13 u14 (mm.2.2.1),qF true u15 u16 (mm.2.2.2.1),qF true u17 u18 (mm.2.2.2.2),qF true x1 x2 (vv.1),qF true x3 x4 (vv.2.1),qF true x5 x6 (vv.2.2)]) ?_ ?_
         ·
          refine zj<|zc<|e_mv rfl<|zk<|zg<|zRa rfl (fun h24=> ?_) (fun h24=> ?_)
          ·
           refine zc<|e_mv rfl<|e_mv rfl<|e_p (zi (i:=2) ym sz54 rfl rfl dd rfl)<|e_p (zi (i:=2) yf sz44 rfl rfl dd rfl)<|e_ru (zd 5 ty44 rfl rfl (.s8 (.s8 (.s8 (.s8 (.t4 .nil))))))<|zl 0 rfl rfl rfl rfl rfl sz44 rfl (.t4 .nil) .z<|zk ?_
           exact zha (u17,u18) (show True from by first|trivial|omega|simp_all) ((.of rfl):SubM _ _) (ho:=((.of [0,0,1,1,1] rfl):PickO _ _ _)) ((.e (j:=14) rfl (by rw [h24];rfl) (.of [0,4,5,6,7,8,9,10,11,12,13,14,15,16,17] rfl)):SelR _ _ _)
          ·
           refine zx ?_
           exact zha (u17,u18) (show True from by first|trivial|omega|simp_all) ((.of rfl):SubM _ _) (ho:=((.of [0,0,1,1,1] rfl):PickO _ _ _)) ((.e (j:=14) rfl (by rw [h24];rfl) (.of [0,4,5,6,7,8,9,10,11,12,13,14,15,16,17] rfl)):SelR _ _ _)
         ·
          rintro ⟨wy22,vy22⟩ -
          dsimp only [cw,cS]
          refine zba (.c (i:=1) rfl (.c (i:=0) rfl (.c (i:=0) rfl (.c (i:=0) rfl (.c (i:=0) rfl .n)))))<|zQ (OW:=[boxA b4 54 (cw [w320,w421,w338,w439,w351,w452])]) (O:=[boxA b53 44 (cw [wy22,vy22]),boxA b3 54 (cw [wz,wz,wz,wz,wz,wz]),boxA b2 54 (cw [x1,x2,x3,x4,x5,x6]),boxA b1 97 (cw [u1,u2,u3,u4,u5,u6,u7,u8,u9,u10,u11,u12,u13,u14,u15,u16,u17,u18])]) 11 mixed (.block (.then (.then (.block (.block (.then (.then (.block (.then .ret))))))))) kr<|e_dm 0 rfl rfl rfl<|e_dm 1 rfl rfl rfl<|e_pv 2 rfl rfl (zi (i:=2) yf sz44 rfl rfl dd rfl)<|e_uw 3 rfl rfl (zd 0 ty44 rfl rfl (.s8 (.t4 .nil)))<|e_uw 4 rfl rfl (zd 1 ty44 rfl rfl (.t4 .nil))<|e_dm 5 rfl rfl rfl<|e_pv 6 rfl rfl (zi (i:=2) yf sz44 rfl rfl dd rfl)<|e_uw 7 rfl rfl (zd 3 ty44 rfl rfl (.s8 (.t4 .nil)))<|e_one 8 (zm rfl rfl rfl rfl (.c rfl (.c rfl .n)) ce54 (zWa (k1:=true) (u1:=wy22) (v1:=vy22) (q1:=(yv tp mm).2.2.2.2) (k2:=true) (u2:=x5) (v2:=x6) (q2:=vv.2.2) (hl:=yO)) (.c (j:=0) rfl (.c (j:=15) rfl .n)) ?_)
          rintro ⟨w354,w455⟩ -
          dsimp only [aq,nq,cq]
          refine e_one 9 (zm rfl rfl rfl rfl (.c rfl (.c rfl .n)) ce25 (zNa (k1:=true) (u1:=w351) (v1:=w452) (q1:=(((0:Int):Rat)+(((yv tp mm).2.2.1)*vv.1))+(((yv tp mm).2.2.2.1)*vv.2.1)) (k2:=true) (u2:=w354) (v2:=w455) (q2:=((yv tp mm).2.2.2.2)*vv.2.2) (hl:=yO)) (.c (j:=2) rfl (.c (j:=0) rfl .n)) ?_)
          rintro ⟨w356,w457⟩ -
          dsimp only [aq,nq,cq]
          refine e_pv 10 rfl rfl (zi (i:=2) yf sz44 rfl rfl dd rfl)<|e_one 11 (zp kr rfl rfl rfl rfl rfl sz44 rfl (.s8 (.t4 .nil)) ?_)
          refine zP kr<|zJ<|zg<|zc<|e_p (zI (z:=3) rfl rfl (w64 dd))<|e_mv rfl<|zk<|zfa<|zW<|zj<|zc<|e_p (zR rfl rfl)<|zk<|zg<|zj<|zva rfl rfl<|zla<|zo<|zo<|zB<|zJ<|zg ?_
          have e58:(((((0:Int):Rat)+(((yv tp mm).2.2.1)*vv.1))+(((yv tp mm).2.2.2.1)*vv.2.1))+(((yv tp mm).2.2.2.2)*vv.2.2):Rat)=(yI (yv tp mm) vv).2.2:=by rfl
          rw [e58]
          refine zc<|e_p (zI (z:=3) rfl rfl (w64 dd))<|e_mv rfl<|zk<|zfa<|zW<|zj<|zc<|e_p (zR rfl rfl)<|zk<|zg<|zj<|zva rfl rfl<|zla<|zo<|zo<|zB<|zg<|zj<|zc<|e_ru (zd 0 ty54 rfl rfl (.t8 (.t4 .nil)))<|zl 2 rfl rfl rfl rfl rfl sz54 rfl (.t8 (.t4 .nil)) (.s (.s .z))<|zk<|zg<|zS ?_
          exact zM Tryz.results49 (w320,w421,w338,w439,w356,w457) trivial (zr 2 ty54 rfl rfl (.t8 (.t4 .nil))) rfl (ho:=(.n:PickO _ _ _)) ((.of [5,4,0] rfl):SelR _ _ _)
end Go.Proofs.YtjeahiahjgifgaaGreatDoor.Sp
namespace Go.Proofs.YtjeahiahjgifgaaGreatDoor.Sp
open Go
set_option linter.unusedVariables false
set_option maxRecDepth 100000
set_option maxHeartbeats 8000000
theorem zDe {s:Sh.S} {cm:Sh.C} {u:Int} {v:Int} {h:Int} (hok:Sh.Ok s) (hlt:s.ta<s.tb) (hc:Sh.cam cm) (hu:Sh.inb u) (hv:Sh.inb v) (hh:Sh.inb h) (hr:0≤yh v∧yh v<64):Con yF 17 [.agg #[yc yd (s.fi),yc yd (s.st),yc yd (s.ta),yc yd (s.xa),yc yd (s.ya),yc yd (s.za),yc yd (s.qa),yc yd (s.qb),yc yd (s.qc),yc yd (s.qd),yc yd (s.tb),yc yd (s.xb),yc yd (s.yb),yc yd (s.zb),yc yd (s.ra),yc yd (s.rb),yc yd (s.rc),yc yd (s.rd)],.agg #[yc yd (cm.fo),yc yd (cm.cx),yc yd (cm.cy)],.agg #[yc yd u,yc yd v],yc yd h] [] [] (Y:=Wd×Wd×Wd×Wd) (fun y=>Sh.gc s cm u v h≠0→y.1=wz∧y.2.1=wz∧y.2.2.1=wz∧y.2.2.2=wz) (fun y=> .tuple #[.agg #[y.1.b,y.1.l,y.2.1.b,y.2.1.l,y.2.2.1.b,y.2.2.1.l,y.2.2.2.b,y.2.2.2.l],yc yd (Sh.gc s cm u v h)]) (fun y=>[]) (fun y=>[qF (decide (Sh.gc s cm u v h=0)) y.1 y.2.1 (Sh.gx s cm u v h),qF (decide (Sh.gc s cm u v h=0)) y.2.2.1 y.2.2.2 (Sh.gy s cm u v h)]):=by
 refine zw Tryz.func17 rfl rfl rfl (fun c=> ?_)
 show RunC _ _ _ _ _ [(0,.agg #[yc yd (s.fi),yc yd (s.st),yc yd (s.ta),yc yd (s.xa),yc yd (s.ya),yc yd (s.za),yc yd (s.qa),yc yd (s.qb),yc yd (s.qc),yc yd (s.qd),yc yd (s.tb),yc yd (s.xb),yc yd (s.yb),yc yd (s.zb),yc yd (s.ra),yc yd (s.rb),yc yd (s.rc),yc yd (s.rd)]),(1,.agg #[yc yd (cm.fo),yc yd (cm.cx),yc yd (cm.cy)]),(2,.agg #[yc yd u,yc yd v]),(3,yc yd h)] [] []
 have hr2:0≤yh v∧yh v≤64:=⟨hr.1,Int.le_of_lt hr.2⟩
 have hcu:=hc
 unfold Sh.cam at hcu
 have hu2:=hu
 have hv2:=hv
 have hh2:=hh
 unfold Sh.inb at hu2 hv2 hh2
 have hpq:=Sh.pos_hq hok hr2
 obtain ⟨hp1,hp2,hp3⟩:=hpq
 have hgd:=Sh.gd_hq hok hc hu hv hr
 obtain ⟨hgd1,hgd2,hgd3⟩:=hgd
 have hgk:=Sh.gk_hq hok hc hu hv hr hh
 have hsm:=Sh.rot_b hok hr2
 have h64v: -9223372036854775808≤v∧v≤9223372036854775807:=by omega
 refine zj<|zc<|zG rfl rfl (zZ rfl rfl) (fun b1=> ?_)
 refine zG rfl rfl (zZ rfl rfl) (fun b2=> ?_)
 refine zG rfl rfl (zZ rfl rfl) (fun b3=> ?_)
 refine zG rfl rfl (zn zr46 rfl) (fun b4=> ?_)
 refine e_p (zh rfl)<|zk<|zg<|zj<|zQ (OW:=[]) (O:=[boxA b4 46 (cw [wz,wz,wz,wz]),boxA b3 35 [yc yd u,yc yd v],boxA b2 37 [yc yd (cm.fo),yc yd (cm.cx),yc yd (cm.cy)],boxA b1 29 (cS s)]) 6 mixed (.then .ret) kr<|e_u 0 rfl rfl (zd 3 ty29 rfl rfl (.t8 (.t8 (.t2 .nil))))<|e_pv 1 rfl rfl (zf yA rfl sz3 rfl rfl)<|e_u 2 rfl rfl (ze 1 ty3 rfl rfl rfl)<|zEb (m':=[(17,yc yd v),(15,.agg #[yc yd (s.fi),yc yd (s.st),yc yd (s.ta),yc yd (s.xa),yc yd (s.ya),yc yd (s.za),yc yd (s.qa),yc yd (s.qb),yc yd (s.qc),yc yd (s.qd),yc yd (s.tb),yc yd (s.xb),yc yd (s.yb),yc yd (s.zb),yc yd (s.ra),yc yd (s.rb),yc yd (s.rc),yc yd (s.rd)]),(8,ye (some ⟨b4,0,none⟩)),(6,ye (some ⟨b3,0,none⟩)),(5,ye (some ⟨b2,0,none⟩)),(4,ye (some ⟨b1,0,none⟩)),(3,yc yd h)]) (R':=[]) ((.of rfl):SubM _ _) (List.Perm.refl _) (List.Perm.refl _) (.n:SelR _ _ _)<|zY (X:=Nat) (k':=0) (L':=(lb 7 127)) (fun u5_1=>([(10,ye (some ⟨u5_1,0,none⟩)),(8,ye (some ⟨b4,0,none⟩)),(6,ye (some ⟨b3,0,none⟩)),(5,ye (some ⟨b2,0,none⟩)),(4,ye (some ⟨b1,0,none⟩)),(3,yc yd h)],[boxA u5_1 25 [yc yd ((yg s (yh v)).1),yc yd ((yg s (yh v)).2.1),yc yd ((yg s (yh v)).2.2.1),yc yd ((yg s (yh v)).2.2.2)]],[boxA b4 46 (cw [wz,wz,wz,wz]),boxA b3 35 [yc yd u,yc yd v],boxA b2 37 [yc yd (cm.fo),yc yd (cm.cx),yc yd (cm.cy)],boxA b1 29 (cS s)],[])) ?_ (fun hD0=> ?_)
 ·
  rintro u5_1
  dsimp only [cw,cS]
  refine zP kr<|zg<|zj<|zj<|zc<|e_ru (zd 0 ty25 rfl rfl (.t4 .nil))<|e_p (zu zr25 rfl yl (.c sz3 (.c sz3 (.c sz3 (.c sz3 .n)))) .n .n)<|e_p (zlb (p:=(yg s (yh v)).1=0∧(yg s (yh v)).2.1=0∧(yg s (yh v)).2.2.1=0∧(yg s (yh v)).2.2.2=0) kr rfl rfl (zkb yl kr (zAa dd ty3 rfl rfl (zza yq) (zAa dd ty3 rfl rfl (zza yq) (zAa dd ty3 rfl rfl (zza yq) (zAa dd ty3 rfl rfl (zza yq) zRb))))) (by simp [Bool.decide_and]))<|zk<|zg<|zT rfl (fun hz4=> ?_) (fun hz4=> ?_)
  ·
   refine zj<|zc<|e_p (zu zr46 rfl yp (.c sz44 (.c sz44 .n)) .n .n)<|zl 1 rfl rfl rfl rfl rfl sz46 rfl (.t8 .nil) (.s .z)<|e_p (zh rfl)<|zk<|zg<|zS<|zt<|zYa (qF false wz wz 0) (fun g _=>qF_none g) ?_
   have hg9:Sh.gc s cm u v h=13:=if_pos hz4
   have hg8:¬Sh.gc s cm u v h=0:=by rw [hg9];decide
   have hx9:Sh.gx s cm u v h=0:=if_neg hg8
   have hy9:Sh.gy s cm u v h=0:=if_neg hg8
   exact zEa yM (wz,wz,wz,wz) (fun _=>⟨rfl,rfl,rfl,rfl⟩) (zr 1 ty46 rfl rfl (.t8 .nil)) (zD rfl) (by rw [hg9];rfl) (ho:=(.n:PickO _ _ _)) ((.e (j:=0) rfl (by rw [hx9,decide_eq_false hg8]) (.e (j:=0) rfl (by rw [hy9,decide_eq_false hg8]) .n)):SelR _ _ _)
  ·
   refine zx<|zg<|zj<|zQ (OW:=[]) (O:=[boxA u5_1 25 [yc yd ((yg s (yh v)).1),yc yd ((yg s (yh v)).2.1),yc yd ((yg s (yh v)).2.2.1),yc yd ((yg s (yh v)).2.2.2)],boxA b4 46 (cw [wz,wz,wz,wz]),boxA b3 35 [yc yd u,yc yd v],boxA b2 37 [yc yd (cm.fo),yc yd (cm.cx),yc yd (cm.cy)],boxA b1 29 (cS s)]) 22 mixed (.then .ret) kr<|e_u 0 rfl rfl (zd 0 ty25 rfl rfl (.t4 .nil))<|e_pv 2 rfl rfl (zf yA rfl sz3 rfl rfl)<|e_u 3 rfl rfl (ze 2 ty3 rfl rfl rfl)<|e_pv 4 rfl rfl (zf yE rfl sz35 rfl rfl)<|e_pv 5 rfl rfl (zf yA rfl sz3 rfl rfl)<|e_u 6 rfl rfl (ze 3 ty3 rfl rfl rfl)<|e_pv 7 rfl rfl (zma (z:=(u - cm.cx)) rfl rfl (w64 om))<|e_pv 9 rfl rfl (zf yA rfl sz3 rfl rfl)<|e_u 10 rfl rfl (ze 2 ty3 rfl rfl rfl)<|e_pv 11 rfl rfl (zf yE rfl sz35 rfl rfl)<|e_pv 12 rfl rfl (zf yA rfl sz3 rfl rfl)<|e_u 13 rfl rfl (ze 3 ty3 rfl rfl rfl)<|e_pv 14 rfl rfl (zma (z:=(v - cm.cy)) rfl rfl (w64 om))<|e_pv 16 rfl rfl (zf yE rfl sz3 rfl rfl)<|e_u 17 rfl rfl (ze 3 ty3 rfl rfl rfl)<|zEb (m':=[(41,yc yd (cm.fo)),(38,yc yd (v - cm.cy)),(31,yc yd (u - cm.cx)),(24,.agg #[yc yd ((yg s (yh v)).1),yc yd ((yg s (yh v)).2.1),yc yd ((yg s (yh v)).2.2.1),yc yd ((yg s (yh v)).2.2.2)]),(8,ye (some ⟨b4,0,none⟩)),(6,ye (some ⟨b3,0,none⟩)),(4,ye (some ⟨b1,0,none⟩)),(3,yc yd h)]) (R':=[]) ((.of rfl):SubM _ _) (List.Perm.refl _) (List.Perm.refl _) (.n:SelR _ _ _)<|zY (X:=Wd×Wd×Wd×Wd×Wd×Wd×Nat) (k':=0) (L':=(lb 23 8388607)) (fun (u20_1r2,u20_2r2,u20_3r2,u20_4r2,u20_5r2,u20_6r2,u21_1r2)=>([(11,ye (some ⟨u21_1r2,0,none⟩)),(8,ye (some ⟨b4,0,none⟩)),(6,ye (some ⟨b3,0,none⟩)),(4,ye (some ⟨b1,0,none⟩)),(3,yc yd h)],[boxA u21_1r2 54 (cw [u20_1r2,u20_2r2,u20_3r2,u20_4r2,u20_5r2,u20_6r2])],[boxA u5_1 25 [yc yd ((yg s (yh v)).1),yc yd ((yg s (yh v)).2.1),yc yd ((yg s (yh v)).2.2.1),yc yd ((yg s (yh v)).2.2.2)],boxA b4 46 (cw [wz,wz,wz,wz]),boxA b3 35 [yc yd u,yc yd v],boxA b2 37 [yc yd (cm.fo),yc yd (cm.cx),yc yd (cm.cy)],boxA b1 29 (cS s)],[qF true u20_1r2 u20_2r2 ((yI (yv false (yk (yg s (yh v)))) (Sh.gv cm u v)).1),qF true u20_3r2 u20_4r2 ((yI (yv false (yk (yg s (yh v)))) (Sh.gv cm u v)).2.1),qF true u20_5r2 u20_6r2 ((yI (yv false (yk (yg s (yh v)))) (Sh.gv cm u v)).2.2)])) ?_ (fun hD0=> ?_)
   ·
    rintro ⟨u20_1r2,u20_2r2,u20_3r2,u20_4r2,u20_5r2,u20_6r2,u21_1r2⟩
    dsimp only [cw,cS]
    refine zP kr<|zg<|zj ?_
    have e5:yI (yv false (yk (yg s (yh v)))) (Sh.gv cm u v)=yC s cm u v:=by rfl
    rw [e5]
    refine zQ (OW:=[]) (O:=[boxA u21_1r2 54 (cw [u20_1r2,u20_2r2,u20_3r2,u20_4r2,u20_5r2,u20_6r2]),boxA u5_1 25 [yc yd ((yg s (yh v)).1),yc yd ((yg s (yh v)).2.1),yc yd ((yg s (yh v)).2.2.1),yc yd ((yg s (yh v)).2.2.2)],boxA b4 46 (cw [wz,wz,wz,wz]),boxA b3 35 [yc yd u,yc yd v],boxA b2 37 [yc yd (cm.fo),yc yd (cm.cx),yc yd (cm.cy)],boxA b1 29 (cS s)]) 6 mixed (.then .ret) kr<|e_u 0 rfl rfl (zd 5 ty29 rfl rfl (.t8 (.t8 (.t2 .nil))))<|e_pv 1 rfl rfl (zf yA rfl sz3 rfl rfl)<|e_u 2 rfl rfl (ze 3 ty3 rfl rfl rfl)<|zEb (m':=[(47,yc yd v),(45,.agg #[yc yd (s.fi),yc yd (s.st),yc yd (s.ta),yc yd (s.xa),yc yd (s.ya),yc yd (s.za),yc yd (s.qa),yc yd (s.qb),yc yd (s.qc),yc yd (s.qd),yc yd (s.tb),yc yd (s.xb),yc yd (s.yb),yc yd (s.zb),yc yd (s.ra),yc yd (s.rb),yc yd (s.rc),yc yd (s.rd)]),(11,ye (some ⟨u21_1r2,0,none⟩)),(8,ye (some ⟨b4,0,none⟩)),(3,yc yd h)]) (R':=[qF true u20_1r2 u20_2r2 ((yC s cm u v).1),qF true u20_3r2 u20_4r2 ((yC s cm u v).2.1),qF true u20_5r2 u20_6r2 ((yC s cm u v).2.2)]) ((.of rfl):SubM _ _) (List.Perm.refl _) (List.Perm.refl _) ((.of [0,1,2] rfl):SelR _ _ _)<|zY (X:=Wd×Wd×Wd×Wd×Wd×Wd×Nat) (k':=0) (L':=(lb 7 127)) (fun (u4_1r3,u4_2r3,u4_3r3,u4_4r3,u4_5r3,u4_6r3,u5_1r3)=>([(12,ye (some ⟨u5_1r3,0,none⟩)),(11,ye (some ⟨u21_1r2,0,none⟩)),(8,ye (some ⟨b4,0,none⟩)),(3,yc yd h)],[boxA u5_1r3 54 (cw [u4_1r3,u4_2r3,u4_3r3,u4_4r3,u4_5r3,u4_6r3])],[boxA u21_1r2 54 (cw [u20_1r2,u20_2r2,u20_3r2,u20_4r2,u20_5r2,u20_6r2]),boxA u5_1 25 [yc yd ((yg s (yh v)).1),yc yd ((yg s (yh v)).2.1),yc yd ((yg s (yh v)).2.2.1),yc yd ((yg s (yh v)).2.2.2)],boxA b4 46 (cw [wz,wz,wz,wz]),boxA b3 35 [yc yd u,yc yd v],boxA b2 37 [yc yd (cm.fo),yc yd (cm.cx),yc yd (cm.cy)],boxA b1 29 (cS s)],[qF true u4_1r3 u4_2r3 ((yx s (yh v)).1),qF true u4_3r3 u4_4r3 ((yx s (yh v)).2.1),qF true u4_5r3 u4_6r3 ((yx s (yh v)).2.2),qF true u20_1r2 u20_2r2 ((yC s cm u v).1),qF true u20_3r2 u20_4r2 ((yC s cm u v).2.1),qF true u20_5r2 u20_6r2 ((yC s cm u v).2.2)])) ?_ (fun hD0=> ?_)
    ·
     rintro ⟨u4_1r3,u4_2r3,u4_3r3,u4_4r3,u4_5r3,u4_6r3,u5_1r3⟩
     dsimp only [cw,cS]
     refine zP kr<|zg<|zj<|zQ (OW:=[]) (O:=[boxA u5_1r3 54 (cw [u4_1r3,u4_2r3,u4_3r3,u4_4r3,u4_5r3,u4_6r3]),boxA u21_1r2 54 (cw [u20_1r2,u20_2r2,u20_3r2,u20_4r2,u20_5r2,u20_6r2]),boxA u5_1 25 [yc yd ((yg s (yh v)).1),yc yd ((yg s (yh v)).2.1),yc yd ((yg s (yh v)).2.2.1),yc yd ((yg s (yh v)).2.2.2)],boxA b4 46 (cw [wz,wz,wz,wz]),boxA b3 35 [yc yd u,yc yd v],boxA b2 37 [yc yd (cm.fo),yc yd (cm.cx),yc yd (cm.cy)],boxA b1 29 (cS s)]) 12 mixed (.then .ret) kr<|e_dm 0 rfl rfl rfl<|e_pv 2 rfl rfl (zi (i:=2) yf sz44 rfl rfl dd rfl)<|e_u 3 rfl rfl (zd 0 ty44 rfl rfl (.s8 (.t4 .nil)))<|e_pv 5 rfl rfl (zi (i:=2) yf sz44 rfl rfl dd rfl)<|e_u 6 rfl rfl (zd 1 ty44 rfl rfl (.s8 (.t4 .nil)))<|zEb (m':=[(57,.agg (cw [u20_5r2,u20_6r2]).toArray),(54,.agg (cw [u4_5r3,u4_6r3]).toArray),(51,yc yd h),(12,ye (some ⟨u5_1r3,0,none⟩)),(11,ye (some ⟨u21_1r2,0,none⟩)),(8,ye (some ⟨b4,0,none⟩))]) (R':=[qF true u4_1r3 u4_2r3 ((yx s (yh v)).1),qF true u4_3r3 u4_4r3 ((yx s (yh v)).2.1),qF true u4_5r3 u4_6r3 ((yx s (yh v)).2.2),qF true u20_1r2 u20_2r2 ((yC s cm u v).1),qF true u20_3r2 u20_4r2 ((yC s cm u v).2.1),qF true u20_5r2 u20_6r2 ((yC s cm u v).2.2)]) ((.of rfl):SubM _ _) (List.Perm.refl _) (List.Perm.refl _) ((.of [0,1,2,3,4,5] rfl):SelR _ _ _)<|zY (X:=Wd×Wd×Nat) (k':=0) (L':=(lb 14 16383)) (fun (u7_1r4,u7_2r4,u11_1r4)=>([(14,yc yd (if ((yC s cm u v).2.2)=0 then 14 else 0)),(13,ye (some ⟨u11_1r4,0,none⟩)),(12,ye (some ⟨u5_1r3,0,none⟩)),(11,ye (some ⟨u21_1r2,0,none⟩)),(8,ye (some ⟨b4,0,none⟩))],[boxA u11_1r4 44 (cw [u7_1r4,u7_2r4])],[boxA u5_1r3 54 (cw [u4_1r3,u4_2r3,u4_3r3,u4_4r3,u4_5r3,u4_6r3]),boxA u21_1r2 54 (cw [u20_1r2,u20_2r2,u20_3r2,u20_4r2,u20_5r2,u20_6r2]),boxA u5_1 25 [yc yd ((yg s (yh v)).1),yc yd ((yg s (yh v)).2.1),yc yd ((yg s (yh v)).2.2.1),yc yd ((yg s (yh v)).2.2.2)],boxA b4 46 (cw [wz,wz,wz,wz]),boxA b3 35 [yc yd u,yc yd v],boxA b2 37 [yc yd (cm.fo),yc yd (cm.cx),yc yd (cm.cy)],boxA b1 29 (cS s)],[qF (decide (((yC s cm u v).2.2)≠0)) u7_1r4 u7_2r4 ((((h:Int):Rat) - ((yx s (yh v)).2.2)) / ((yC s cm u v).2.2)),qF true u4_1r3 u4_2r3 ((yx s (yh v)).1),qF true u4_3r3 u4_4r3 ((yx s (yh v)).2.1),qF true u4_5r3 u4_6r3 ((yx s (yh v)).2.2),qF true u20_1r2 u20_2r2 ((yC s cm u v).1),qF true u20_3r2 u20_4r2 ((yC s cm u v).2.1),qF true u20_5r2 u20_6r2 ((yC s cm u v).2.2)])) ?_ (fun hD0=> ?_)
     ·
      rintro ⟨u7_1r4,u7_2r4,u11_1r4⟩
      dsimp only [cw,cS]
      refine zP kr<|zg<|zj<|zj<|zc<|e_mv rfl<|e_p (zCb rfl rfl)<|zk<|zg<|zT rfl (fun hd=> ?_) (fun hd=> ?_)
      ·
       have hd0:(yC s cm u v).2.2=0:=Decidable.byContradiction fun k=>hd (if_neg k)
       refine zj<|zc<|e_p (zu zr46 rfl yp (.c sz44 (.c sz44 .n)) .n .n)<|zl 4 rfl rfl rfl rfl rfl sz46 rfl (.t8 .nil) (.s (.s (.s (.s .z))))<|e_p (zh rfl)<|zk<|zg<|zS<|zt<|zYa (qF false wz wz 0) (fun g _=>qF_none g) ?_
       have hg9:Sh.gc s cm u v h=13:=by unfold Sh.gc;rw [if_neg hz4,if_pos hd0]
       have hg8:¬Sh.gc s cm u v h=0:=by rw [hg9];decide
       have hx9:Sh.gx s cm u v h=0:=if_neg hg8
       have hy9:Sh.gy s cm u v h=0:=if_neg hg8
       exact zEa yM (wz,wz,wz,wz) (fun _=>⟨rfl,rfl,rfl,rfl⟩) (zr 4 ty46 rfl rfl (.t8 .nil)) (zD rfl) (by rw [hg9];rfl) (ho:=(.n:PickO _ _ _)) ((.e (j:=0) rfl (by rw [hx9,decide_eq_false hg8]) (.e (j:=0) rfl (by rw [hy9,decide_eq_false hg8]) .n)):SelR _ _ _)
      ·
       have hd1:=Decidable.not_not.1 hd
       have hd0:(yC s cm u v).2.2≠0:=fun k=>by rw [if_pos k] at hd1;cases hd1
       have e6:((((h:Int):Rat) - ((yx s (yh v)).2.2)) / ((yC s cm u v).2.2):Rat)=Sh.gk s cm u v h:=by rfl
       rw [e6]
       have e7:(decide (((yC s cm u v).2.2)≠0))=true:=by exact decide_eq_true hd0
       rw [e7]
       refine zx<|zg<|zj<|zj<|zc<|e_ru (zd 0 ty44 rfl rfl (.t4 .nil))<|zU rfl rfl (.c rfl .n) ce53 (zFd (k1:=true) (u1:=u7_1r4) (v1:=u7_2r4) (q1:=Sh.gk s cm u v h) (hl:=yH)) (.c (j:=0) rfl .n)<|e_p (zlc rfl rfl)<|zk<|zg<|zT rfl (fun hs=> ?_) (fun hs=> ?_)
       ·
        have hs0:=Big.sgq_le.1 hs
        refine zj<|zc<|e_p (zu zr46 rfl yp (.c sz44 (.c sz44 .n)) .n .n)<|zl 4 rfl rfl rfl rfl rfl sz46 rfl (.t8 .nil) (.s (.s (.s (.s .z))))<|e_p (zh rfl)<|zk<|zg<|zS<|zt<|zYa (qF false wz wz 0) (fun g _=>qF_none g) ?_
        have hg9:Sh.gc s cm u v h=20:=by unfold Sh.gc;rw [if_neg hz4,if_neg hd0,if_pos hs0]
        have hg8:¬Sh.gc s cm u v h=0:=by rw [hg9];decide
        have hx9:Sh.gx s cm u v h=0:=if_neg hg8
        have hy9:Sh.gy s cm u v h=0:=if_neg hg8
        exact zEa yM (wz,wz,wz,wz) (fun _=>⟨rfl,rfl,rfl,rfl⟩) (zr 4 ty46 rfl rfl (.t8 .nil)) (zD rfl) (by rw [hg9];rfl) (ho:=(.n:PickO _ _ _)) ((.e (j:=0) rfl (by rw [hx9,decide_eq_false hg8]) (.e (j:=0) rfl (by rw [hy9,decide_eq_false hg8]) .n)):SelR _ _ _)
       ·
        have hs0:¬Sh.gk s cm u v h≤0:=fun k=>hs (Big.sgq_le.2 k)
        have hg9:Sh.gc s cm u v h=0:=by unfold Sh.gc;rw [if_neg hz4,if_neg hd0,if_neg hs0]
        refine zx<|zg<|zj<|zba (.c (i:=4) rfl (.c (i:=0) rfl (.c (i:=0) rfl (.c (i:=0) rfl .n))))<|zQ (OW:=[boxA b4 46 (cw [wz,wz,wz,wz])]) (O:=[boxA u11_1r4 44 (cw [u7_1r4,u7_2r4]),boxA u5_1r3 54 (cw [u4_1r3,u4_2r3,u4_3r3,u4_4r3,u4_5r3,u4_6r3]),boxA u21_1r2 54 (cw [u20_1r2,u20_2r2,u20_3r2,u20_4r2,u20_5r2,u20_6r2])]) 15 mixed (.then .ret) kr<|e_pv 0 rfl rfl (zi (i:=0) yf sz44 rfl rfl dd rfl)<|e_uw 1 rfl rfl (zd 2 ty44 rfl rfl (.t4 .nil))<|e_uw 2 rfl rfl (zd 1 ty44 rfl rfl (.t4 .nil))<|e_pv 3 rfl rfl (zi (i:=0) yf sz44 rfl rfl dd rfl)<|e_uw 4 rfl rfl (zd 3 ty44 rfl rfl (.t4 .nil))<|e_pv 7 rfl rfl (zi (i:=1) yf sz44 rfl rfl dd rfl)<|e_uw 8 rfl rfl (zd 2 ty44 rfl rfl (.s4 (.t4 .nil)))<|e_uw 9 rfl rfl (zd 1 ty44 rfl rfl (.t4 .nil))<|e_pv 10 rfl rfl (zi (i:=1) yf sz44 rfl rfl dd rfl)<|e_uw 11 rfl rfl (zd 3 ty44 rfl rfl (.s4 (.t4 .nil)))<|e_one 5 (zm rfl rfl rfl rfl (.c rfl (.c rfl .n)) ce54 (zWa (k1:=true) (u1:=u7_1r4) (v1:=u7_2r4) (q1:=Sh.gk s cm u v h) (k2:=true) (u2:=u20_1r2) (v2:=u20_2r2) (q2:=(yC s cm u v).1) (hl:=yH)) (.c (j:=0) rfl (.c (j:=4) rfl .n)) ?_)
        rintro ⟨w38,w49⟩ -
        dsimp only [aq,nq,cq]
        refine e_one 6 (zm rfl rfl rfl rfl (.c rfl (.c rfl .n)) ce25 (zNa (k1:=true) (u1:=u4_1r3) (v1:=u4_2r3) (q1:=(yx s (yh v)).1) (k2:=true) (u2:=w38) (v2:=w49) (q2:=(Sh.gk s cm u v h)*((yC s cm u v).1)) (hl:=yH)) (.c (j:=2) rfl (.c (j:=0) rfl .n)) ?_)
        rintro ⟨w310,w411⟩ -
        dsimp only [aq,nq,cq]
        refine e_one 12 (zm rfl rfl rfl rfl (.c rfl (.c rfl .n)) ce54 (zWa (k1:=true) (u1:=u7_1r4) (v1:=u7_2r4) (q1:=Sh.gk s cm u v h) (k2:=true) (u2:=u20_3r2) (v2:=u20_4r2) (q2:=(yC s cm u v).2.1) (hl:=yH)) (.c (j:=2) rfl (.c (j:=7) rfl .n)) ?_)
        rintro ⟨w312,w413⟩ -
        dsimp only [aq,nq,cq]
        refine e_one 13 (zm rfl rfl rfl rfl (.c rfl (.c rfl .n)) ce25 (zNa (k1:=true) (u1:=u4_3r3) (v1:=u4_4r3) (q1:=(yx s (yh v)).2.1) (k2:=true) (u2:=w312) (v2:=w413) (q2:=(Sh.gk s cm u v h)*((yC s cm u v).2.1)) (hl:=yH)) (.c (j:=5) rfl (.c (j:=0) rfl .n)) ?_)
        rintro ⟨w314,w415⟩ -
        dsimp only [aq,nq,cq]
        refine e_pv 14 rfl rfl (zu zr46 rfl yp (.c sz44 (.c sz44 .n)) (.c rfl (.c rfl .n)) (.c rfl rfl rfl (.t4 .nil) (.c rfl rfl rfl (.s4 (.t4 .nil)) .n)))<|e_one 15 (zp kr rfl rfl rfl rfl rfl sz46 rfl (.t8 .nil) ?_)
        refine e_pv 16 rfl rfl (zh rfl)<|zP kr<|zg<|zS ?_
        have hx9:Sh.gx s cm u v h=_:=if_pos hg9
        have hy9:Sh.gy s cm u v h=_:=if_pos hg9
        exact zEa yM (w310,w411,w314,w415) (fun k=>absurd hg9 k) (zr 0 ty46 rfl rfl (.t8 .nil)) (zD rfl) (by rw [hg9]) (ho:=(.n:PickO _ _ _)) ((.e (j:=2) rfl (by rw [hx9,decide_eq_true hg9]) (.e (j:=0) rfl (by rw [hy9,decide_eq_true hg9]) .n)):SelR _ _ _)
     refine zY (X:=Wd×Wd×Nat) (k':=2) (L':=(lb 14 4095)) (fun (u7_1r4,u7_2r4,u11_1r4)=>([(13,ye (some ⟨u11_1r4,0,none⟩)),(60,yc yd (if ((yC s cm u v).2.2)=0 then 14 else 0)),(59,.agg (cw [u7_1r4,u7_2r4]).toArray),(12,ye (some ⟨u5_1r3,0,none⟩)),(11,ye (some ⟨u21_1r2,0,none⟩)),(8,ye (some ⟨b4,0,none⟩))],[boxA u11_1r4 44 (cw [wz,wz])],[boxA u5_1r3 54 (cw [u4_1r3,u4_2r3,u4_3r3,u4_4r3,u4_5r3,u4_6r3]),boxA u21_1r2 54 (cw [u20_1r2,u20_2r2,u20_3r2,u20_4r2,u20_5r2,u20_6r2]),boxA u5_1 25 [yc yd ((yg s (yh v)).1),yc yd ((yg s (yh v)).2.1),yc yd ((yg s (yh v)).2.2.1),yc yd ((yg s (yh v)).2.2.2)],boxA b4 46 (cw [wz,wz,wz,wz]),boxA b3 35 [yc yd u,yc yd v],boxA b2 37 [yc yd (cm.fo),yc yd (cm.cx),yc yd (cm.cy)],boxA b1 29 (cS s)],[qF (decide (((yC s cm u v).2.2)≠0)) u7_1r4 u7_2r4 ((((h:Int):Rat) - ((yx s (yh v)).2.2)) / ((yC s cm u v).2.2)),qF true u4_1r3 u4_2r3 ((yx s (yh v)).1),qF true u4_3r3 u4_4r3 ((yx s (yh v)).2.1),qF true u4_5r3 u4_6r3 ((yx s (yh v)).2.2),qF true u20_1r2 u20_2r2 ((yC s cm u v).1),qF true u20_3r2 u20_4r2 ((yC s cm u v).2.1),qF true u20_5r2 u20_6r2 ((yC s cm u v).2.2)])) ?_ (fun hD1=> ?_)
     ·
      rintro ⟨u7_1r4,u7_2r4,u11_1r4⟩
      dsimp only [cw,cS]
      refine zxa 12 kr ?_
      ·
       refine zp kr rfl rfl rfl rfl rfl sz44 rfl (.t4 .nil)<|e_pv 13 rfl rfl (zh rfl) ?_
       exact zA (hD0 (u7_1r4,u7_2r4,u11_1r4)) kr ((.of rfl):SubM _ _) .rfl .rfl ((.of [0,1,2,3,4,5,6] rfl):SelR _ _ _)
     refine zY (X:=Wd×Wd) (k':=3) (L':=(lb 14 2047)) (fun (u7_1r4,u7_2r4)=>([(60,yc yd (if ((yC s cm u v).2.2)=0 then 14 else 0)),(59,.agg (cw [u7_1r4,u7_2r4]).toArray),(12,ye (some ⟨u5_1r3,0,none⟩)),(11,ye (some ⟨u21_1r2,0,none⟩)),(8,ye (some ⟨b4,0,none⟩))],[],[boxA u5_1r3 54 (cw [u4_1r3,u4_2r3,u4_3r3,u4_4r3,u4_5r3,u4_6r3]),boxA u21_1r2 54 (cw [u20_1r2,u20_2r2,u20_3r2,u20_4r2,u20_5r2,u20_6r2]),boxA u5_1 25 [yc yd ((yg s (yh v)).1),yc yd ((yg s (yh v)).2.1),yc yd ((yg s (yh v)).2.2.1),yc yd ((yg s (yh v)).2.2.2)],boxA b4 46 (cw [wz,wz,wz,wz]),boxA b3 35 [yc yd u,yc yd v],boxA b2 37 [yc yd (cm.fo),yc yd (cm.cx),yc yd (cm.cy)],boxA b1 29 (cS s)],[qF (decide (((yC s cm u v).2.2)≠0)) u7_1r4 u7_2r4 ((((h:Int):Rat) - ((yx s (yh v)).2.2)) / ((yC s cm u v).2.2)),qF true u4_1r3 u4_2r3 ((yx s (yh v)).1),qF true u4_3r3 u4_4r3 ((yx s (yh v)).2.1),qF true u4_5r3 u4_6r3 ((yx s (yh v)).2.2),qF true u20_1r2 u20_2r2 ((yC s cm u v).1),qF true u20_3r2 u20_4r2 ((yC s cm u v).2.1),qF true u20_5r2 u20_6r2 ((yC s cm u v).2.2)])) ?_ (fun hD2=> ?_)
     ·
      rintro ⟨u7_1r4,u7_2r4⟩
      dsimp only [cw,cS]
      refine zxa 11 kr ?_
      ·
       refine zoa rfl rfl rfl rfl (zn zr44 rfl) (fun u11_1r4 _=> ?_)
       exact zA (hD1 (u7_1r4,u7_2r4,u11_1r4)) kr ((.of rfl):SubM _ _) .rfl .rfl ((.of [0,1,2,3,4,5,6] rfl):SelR _ _ _)
     refine zY (X:=Wd×Wd×Nat) (k':=6) (L':=(lb 14 2175)) (fun (u4_1r4,u4_2r4,u11_1r4)=>([(13,ye (some ⟨u11_1r4,0,none⟩)),(55,.agg (cw [u4_1r4,u4_2r4]).toArray),(57,.agg (cw [u20_5r2,u20_6r2]).toArray),(12,ye (some ⟨u5_1r3,0,none⟩)),(11,ye (some ⟨u21_1r2,0,none⟩)),(8,ye (some ⟨b4,0,none⟩))],[boxA u11_1r4 44 (cw [wz,wz])],[boxA u5_1r3 54 (cw [u4_1r3,u4_2r3,u4_3r3,u4_4r3,u4_5r3,u4_6r3]),boxA u21_1r2 54 (cw [u20_1r2,u20_2r2,u20_3r2,u20_4r2,u20_5r2,u20_6r2]),boxA u5_1 25 [yc yd ((yg s (yh v)).1),yc yd ((yg s (yh v)).2.1),yc yd ((yg s (yh v)).2.2.1),yc yd ((yg s (yh v)).2.2.2)],boxA b4 46 (cw [wz,wz,wz,wz]),boxA b3 35 [yc yd u,yc yd v],boxA b2 37 [yc yd (cm.fo),yc yd (cm.cx),yc yd (cm.cy)],boxA b1 29 (cS s)],[qF true u4_1r4 u4_2r4 (((h:Int):Rat) - ((yx s (yh v)).2.2)),qF true u4_1r3 u4_2r3 ((yx s (yh v)).1),qF true u4_3r3 u4_4r3 ((yx s (yh v)).2.1),qF true u4_5r3 u4_6r3 ((yx s (yh v)).2.2),qF true u20_1r2 u20_2r2 ((yC s cm u v).1),qF true u20_3r2 u20_4r2 ((yC s cm u v).2.1),qF true u20_5r2 u20_6r2 ((yC s cm u v).2.2)])) ?_ (fun hD3=> ?_)
     ·
      rintro ⟨u4_1r4,u4_2r4,u11_1r4⟩
      dsimp only [cw,cS]
      refine zxa 7 kr ?_
      ·
       refine zm rfl rfl rfl rfl (.c rfl (.c rfl .n)) ce52 (zWc (k1:=true) (u1:=u4_1r4) (v1:=u4_2r4) (q1:=((h:Int):Rat) - ((yx s (yh v)).2.2)) (k2:=true) (u2:=u20_5r2) (v2:=u20_6r2) (q2:=(yC s cm u v).2.2) (hl:=yH)) (.c (j:=0) rfl (.c (j:=6) rfl .n)) ?_
       rintro ⟨u7_1r4,u7_2r4⟩ -
       dsimp only [aq,nq,cq]
       refine e_dm 8 rfl rfl rfl<|e_pv 9 rfl rfl (zy rfl rfl)<|e_pv 10 rfl rfl (zy rfl rfl) ?_
       exact zA (hD1 (u7_1r4,u7_2r4,u11_1r4)) kr ((.of rfl):SubM _ _) .rfl .rfl ((.of [0,2,3,4,5,6,7] rfl):SelR _ _ _)
     refine zY (X:=Wd×Wd) (k':=7) (L':=(lb 14 127)) (fun (u4_1r4,u4_2r4)=>([(55,.agg (cw [u4_1r4,u4_2r4]).toArray),(57,.agg (cw [u20_5r2,u20_6r2]).toArray),(12,ye (some ⟨u5_1r3,0,none⟩)),(11,ye (some ⟨u21_1r2,0,none⟩)),(8,ye (some ⟨b4,0,none⟩))],[],[boxA u5_1r3 54 (cw [u4_1r3,u4_2r3,u4_3r3,u4_4r3,u4_5r3,u4_6r3]),boxA u21_1r2 54 (cw [u20_1r2,u20_2r2,u20_3r2,u20_4r2,u20_5r2,u20_6r2]),boxA u5_1 25 [yc yd ((yg s (yh v)).1),yc yd ((yg s (yh v)).2.1),yc yd ((yg s (yh v)).2.2.1),yc yd ((yg s (yh v)).2.2.2)],boxA b4 46 (cw [wz,wz,wz,wz]),boxA b3 35 [yc yd u,yc yd v],boxA b2 37 [yc yd (cm.fo),yc yd (cm.cx),yc yd (cm.cy)],boxA b1 29 (cS s)],[qF true u4_1r4 u4_2r4 (((h:Int):Rat) - ((yx s (yh v)).2.2)),qF true u4_1r3 u4_2r3 ((yx s (yh v)).1),qF true u4_3r3 u4_4r3 ((yx s (yh v)).2.1),qF true u4_5r3 u4_6r3 ((yx s (yh v)).2.2),qF true u20_1r2 u20_2r2 ((yC s cm u v).1),qF true u20_3r2 u20_4r2 ((yC s cm u v).2.1),qF true u20_5r2 u20_6r2 ((yC s cm u v).2.2)])) ?_ (fun hD4=> ?_)
     ·
      rintro ⟨u4_1r4,u4_2r4⟩
      dsimp only [cw,cS]
      refine zXa 7 11 kr ?_ ?_
      ·
       refine zm rfl rfl rfl rfl (.c rfl (.c rfl .n)) ce52 (zWc (k1:=true) (u1:=u4_1r4) (v1:=u4_2r4) (q1:=((h:Int):Rat) - ((yx s (yh v)).2.2)) (k2:=true) (u2:=u20_5r2) (v2:=u20_6r2) (q2:=(yC s cm u v).2.2) (hl:=yH)) (.c (j:=0) rfl (.c (j:=6) rfl .n)) ?_
       rintro ⟨u7_1r4,u7_2r4⟩ -
       dsimp only [aq,nq,cq]
       refine e_dm 8 rfl rfl rfl<|e_pv 9 rfl rfl (zy rfl rfl)<|e_pv 10 rfl rfl (zy rfl rfl) ?_
       exact zA (hD2 (u7_1r4,u7_2r4)) kr ((.of rfl):SubM _ _) .rfl .rfl ((.of [0,2,3,4,5,6,7] rfl):SelR _ _ _)
      ·
       refine zoa rfl rfl rfl rfl (zn zr44 rfl) (fun u11_1r4 _=> ?_)
       exact zA (hD3 (u4_1r4,u4_2r4,u11_1r4)) kr ((.of rfl):SubM _ _) .rfl .rfl ((.of [0,1,2,3,4,5,6] rfl):SelR _ _ _)
     refine zY (X:=Wd×Wd×Nat) (k':=7) (L':=(lb 14 2159)) (fun (u1_1r4,u1_2r4,u11_1r4)=>([(13,ye (some ⟨u11_1r4,0,none⟩)),(52,.agg (cw [u1_1r4,u1_2r4]).toArray),(57,.agg (cw [u20_5r2,u20_6r2]).toArray),(54,.agg (cw [u4_5r3,u4_6r3]).toArray),(12,ye (some ⟨u5_1r3,0,none⟩)),(11,ye (some ⟨u21_1r2,0,none⟩)),(8,ye (some ⟨b4,0,none⟩))],[boxA u11_1r4 44 (cw [wz,wz])],[boxA u5_1r3 54 (cw [u4_1r3,u4_2r3,u4_3r3,u4_4r3,u4_5r3,u4_6r3]),boxA u21_1r2 54 (cw [u20_1r2,u20_2r2,u20_3r2,u20_4r2,u20_5r2,u20_6r2]),boxA u5_1 25 [yc yd ((yg s (yh v)).1),yc yd ((yg s (yh v)).2.1),yc yd ((yg s (yh v)).2.2.1),yc yd ((yg s (yh v)).2.2.2)],boxA b4 46 (cw [wz,wz,wz,wz]),boxA b3 35 [yc yd u,yc yd v],boxA b2 37 [yc yd (cm.fo),yc yd (cm.cx),yc yd (cm.cy)],boxA b1 29 (cS s)],[qF true u1_1r4 u1_2r4 ((h:Int):Rat),qF true u4_1r3 u4_2r3 ((yx s (yh v)).1),qF true u4_3r3 u4_4r3 ((yx s (yh v)).2.1),qF true u4_5r3 u4_6r3 ((yx s (yh v)).2.2),qF true u20_1r2 u20_2r2 ((yC s cm u v).1),qF true u20_3r2 u20_4r2 ((yC s cm u v).2.1),qF true u20_5r2 u20_6r2 ((yC s cm u v).2.2)])) ?_ (fun hD5=> ?_)
     ·
      rintro ⟨u1_1r4,u1_2r4,u11_1r4⟩
      dsimp only [cw,cS]
      refine zxa 4 kr ?_
      ·
       refine zm rfl rfl rfl rfl (.c rfl (.c rfl .n)) ce28 (zmd (k1:=true) (u1:=u1_1r4) (v1:=u1_2r4) (q1:=((h:Int):Rat)) (k2:=true) (u2:=u4_5r3) (v2:=u4_6r3) (q2:=(yx s (yh v)).2.2) (hl:=yH)) (.c (j:=0) rfl (.c (j:=3) rfl .n)) ?_
       rintro ⟨u4_1r4,u4_2r4⟩ -
       dsimp only [aq,nq,cq]
       exact zA (hD3 (u4_1r4,u4_2r4,u11_1r4)) kr ((.of rfl):SubM _ _) .rfl .rfl ((.of [0,2,3,4,5,6,7] rfl):SelR _ _ _)
     refine zY (X:=Wd×Wd) (k':=8) (L':=(lb 14 111)) (fun (u1_1r4,u1_2r4)=>([(52,.agg (cw [u1_1r4,u1_2r4]).toArray),(57,.agg (cw [u20_5r2,u20_6r2]).toArray),(54,.agg (cw [u4_5r3,u4_6r3]).toArray),(12,ye (some ⟨u5_1r3,0,none⟩)),(11,ye (some ⟨u21_1r2,0,none⟩)),(8,ye (some ⟨b4,0,none⟩))],[],[boxA u5_1r3 54 (cw [u4_1r3,u4_2r3,u4_3r3,u4_4r3,u4_5r3,u4_6r3]),boxA u21_1r2 54 (cw [u20_1r2,u20_2r2,u20_3r2,u20_4r2,u20_5r2,u20_6r2]),boxA u5_1 25 [yc yd ((yg s (yh v)).1),yc yd ((yg s (yh v)).2.1),yc yd ((yg s (yh v)).2.2.1),yc yd ((yg s (yh v)).2.2.2)],boxA b4 46 (cw [wz,wz,wz,wz]),boxA b3 35 [yc yd u,yc yd v],boxA b2 37 [yc yd (cm.fo),yc yd (cm.cx),yc yd (cm.cy)],boxA b1 29 (cS s)],[qF true u1_1r4 u1_2r4 ((h:Int):Rat),qF true u4_1r3 u4_2r3 ((yx s (yh v)).1),qF true u4_3r3 u4_4r3 ((yx s (yh v)).2.1),qF true u4_5r3 u4_6r3 ((yx s (yh v)).2.2),qF true u20_1r2 u20_2r2 ((yC s cm u v).1),qF true u20_3r2 u20_4r2 ((yC s cm u v).2.1),qF true u20_5r2 u20_6r2 ((yC s cm u v).2.2)])) ?_ (fun hD6=> ?_)
     ·
      rintro ⟨u1_1r4,u1_2r4⟩
      dsimp only [cw,cS]
      refine zXa 4 11 kr ?_ ?_
      ·
       refine zm rfl rfl rfl rfl (.c rfl (.c rfl .n)) ce28 (zmd (k1:=true) (u1:=u1_1r4) (v1:=u1_2r4) (q1:=((h:Int):Rat)) (k2:=true) (u2:=u4_5r3) (v2:=u4_6r3) (q2:=(yx s (yh v)).2.2) (hl:=yH)) (.c (j:=0) rfl (.c (j:=3) rfl .n)) ?_
       rintro ⟨u4_1r4,u4_2r4⟩ -
       dsimp only [aq,nq,cq]
       exact zA (hD4 (u4_1r4,u4_2r4)) kr ((.of rfl):SubM _ _) .rfl .rfl ((.of [0,2,3,4,5,6,7] rfl):SelR _ _ _)
      ·
       refine zoa rfl rfl rfl rfl (zn zr44 rfl) (fun u11_1r4 _=> ?_)
       exact zA (hD5 (u1_1r4,u1_2r4,u11_1r4)) kr ((.of rfl):SubM _ _) .rfl .rfl ((.of [0,1,2,3,4,5,6] rfl):SelR _ _ _)
     refine zY (X:=Nat) (k':=8) (L':=(lb 14 2157)) (fun u11_1r4=>([(13,ye (some ⟨u11_1r4,0,none⟩)),(57,.agg (cw [u20_5r2,u20_6r2]).toArray),(54,.agg (cw [u4_5r3,u4_6r3]).toArray),(51,yc yd h),(12,ye (some ⟨u5_1r3,0,none⟩)),(11,ye (some ⟨u21_1r2,0,none⟩)),(8,ye (some ⟨b4,0,none⟩))],[boxA u11_1r4 44 (cw [wz,wz])],[boxA u5_1r3 54 (cw [u4_1r3,u4_2r3,u4_3r3,u4_4r3,u4_5r3,u4_6r3]),boxA u21_1r2 54 (cw [u20_1r2,u20_2r2,u20_3r2,u20_4r2,u20_5r2,u20_6r2]),boxA u5_1 25 [yc yd ((yg s (yh v)).1),yc yd ((yg s (yh v)).2.1),yc yd ((yg s (yh v)).2.2.1),yc yd ((yg s (yh v)).2.2.2)],boxA b4 46 (cw [wz,wz,wz,wz]),boxA b3 35 [yc yd u,yc yd v],boxA b2 37 [yc yd (cm.fo),yc yd (cm.cx),yc yd (cm.cy)],boxA b1 29 (cS s)],[qF true u4_1r3 u4_2r3 ((yx s (yh v)).1),qF true u4_3r3 u4_4r3 ((yx s (yh v)).2.1),qF true u4_5r3 u4_6r3 ((yx s (yh v)).2.2),qF true u20_1r2 u20_2r2 ((yC s cm u v).1),qF true u20_3r2 u20_4r2 ((yC s cm u v).2.1),qF true u20_5r2 u20_6r2 ((yC s cm u v).2.2)])) ?_ (fun hD7=> ?_)
     ·
      rintro u11_1r4
      dsimp only [cw,cS]
      refine zxa 1 kr ?_
      ·
       refine zm rfl rfl rfl rfl (.c rfl .n) ce22 (zra (z:=h) (hz:=yH)) (.n) ?_
       rintro ⟨u1_1r4,u1_2r4⟩ -
       dsimp only [aq,nq,cq]
       exact zA (hD5 (u1_1r4,u1_2r4,u11_1r4)) kr ((.of rfl):SubM _ _) .rfl .rfl ((.of [0,1,2,3,4,5,6] rfl):SelR _ _ _)
     refine zXa 1 11 kr ?_ ?_
     ·
      refine zm rfl rfl rfl rfl (.c rfl .n) ce22 (zra (z:=h) (hz:=yH)) (.n) ?_
      rintro ⟨u1_1r4,u1_2r4⟩ -
      dsimp only [aq,nq,cq]
      exact zA (hD6 (u1_1r4,u1_2r4)) kr ((.of rfl):SubM _ _) .rfl .rfl ((.of [0,1,2,3,4,5,6] rfl):SelR _ _ _)
     ·
      refine zoa rfl rfl rfl rfl (zn zr44 rfl) (fun u11_1r4 _=> ?_)
      exact zA (hD7 u11_1r4) kr ((.of rfl):SubM _ _) .rfl .rfl ((.of [0,1,2,3,4,5] rfl):SelR _ _ _)
    refine zY (X:=Wd×Wd×Wd×Wd×Wd×Wd×Nat) (k':=1) (L':=(lb 7 63)) (fun (u4_1r3,u4_2r3,u4_3r3,u4_4r3,u4_5r3,u4_6r3,u5_1r3)=>([(12,ye (some ⟨u5_1r3,0,none⟩)),(49,.agg (cw [u4_1r3,u4_2r3,u4_3r3,u4_4r3,u4_5r3,u4_6r3]).toArray),(11,ye (some ⟨u21_1r2,0,none⟩)),(8,ye (some ⟨b4,0,none⟩)),(3,yc yd h)],[boxA u5_1r3 54 (cw [wz,wz,wz,wz,wz,wz])],[boxA u21_1r2 54 (cw [u20_1r2,u20_2r2,u20_3r2,u20_4r2,u20_5r2,u20_6r2]),boxA u5_1 25 [yc yd ((yg s (yh v)).1),yc yd ((yg s (yh v)).2.1),yc yd ((yg s (yh v)).2.2.1),yc yd ((yg s (yh v)).2.2.2)],boxA b4 46 (cw [wz,wz,wz,wz]),boxA b3 35 [yc yd u,yc yd v],boxA b2 37 [yc yd (cm.fo),yc yd (cm.cx),yc yd (cm.cy)],boxA b1 29 (cS s)],[qF true u4_1r3 u4_2r3 ((yx s (yh v)).1),qF true u4_3r3 u4_4r3 ((yx s (yh v)).2.1),qF true u4_5r3 u4_6r3 ((yx s (yh v)).2.2),qF true u20_1r2 u20_2r2 ((yC s cm u v).1),qF true u20_3r2 u20_4r2 ((yC s cm u v).2.1),qF true u20_5r2 u20_6r2 ((yC s cm u v).2.2)])) ?_ (fun hD1=> ?_)
    ·
     rintro ⟨u4_1r3,u4_2r3,u4_3r3,u4_4r3,u4_5r3,u4_6r3,u5_1r3⟩
     dsimp only [cw,cS]
     refine zxa 6 kr ?_
     ·
      refine zp kr rfl rfl rfl rfl rfl sz54 rfl (.t8 (.t4 .nil)) ?_
      exact zA (hD0 (u4_1r3,u4_2r3,u4_3r3,u4_4r3,u4_5r3,u4_6r3,u5_1r3)) kr ((.of rfl):SubM _ _) .rfl .rfl ((.of [0,1,2,3,4,5] rfl):SelR _ _ _)
    refine zY (X:=Wd×Wd×Wd×Wd×Wd×Wd) (k':=2) (L':=(lb 7 31)) (fun (u4_1r3,u4_2r3,u4_3r3,u4_4r3,u4_5r3,u4_6r3)=>([(49,.agg (cw [u4_1r3,u4_2r3,u4_3r3,u4_4r3,u4_5r3,u4_6r3]).toArray),(11,ye (some ⟨u21_1r2,0,none⟩)),(8,ye (some ⟨b4,0,none⟩)),(3,yc yd h)],[],[boxA u21_1r2 54 (cw [u20_1r2,u20_2r2,u20_3r2,u20_4r2,u20_5r2,u20_6r2]),boxA u5_1 25 [yc yd ((yg s (yh v)).1),yc yd ((yg s (yh v)).2.1),yc yd ((yg s (yh v)).2.2.1),yc yd ((yg s (yh v)).2.2.2)],boxA b4 46 (cw [wz,wz,wz,wz]),boxA b3 35 [yc yd u,yc yd v],boxA b2 37 [yc yd (cm.fo),yc yd (cm.cx),yc yd (cm.cy)],boxA b1 29 (cS s)],[qF true u4_1r3 u4_2r3 ((yx s (yh v)).1),qF true u4_3r3 u4_4r3 ((yx s (yh v)).2.1),qF true u4_5r3 u4_6r3 ((yx s (yh v)).2.2),qF true u20_1r2 u20_2r2 ((yC s cm u v).1),qF true u20_3r2 u20_4r2 ((yC s cm u v).2.1),qF true u20_5r2 u20_6r2 ((yC s cm u v).2.2)])) ?_ (fun hD2=> ?_)
    ·
     rintro ⟨u4_1r3,u4_2r3,u4_3r3,u4_4r3,u4_5r3,u4_6r3⟩
     dsimp only [cw,cS]
     refine zxa 5 kr ?_
     ·
      refine zoa rfl rfl rfl rfl (zn zr54 rfl) (fun u5_1r3 _=> ?_)
      exact zA (hD1 (u4_1r3,u4_2r3,u4_3r3,u4_4r3,u4_5r3,u4_6r3,u5_1r3)) kr ((.of rfl):SubM _ _) .rfl .rfl ((.of [0,1,2,3,4,5] rfl):SelR _ _ _)
    refine zY (X:=Nat) (k':=2) (L':=(lb 7 47)) (fun u5_1r3=>([(12,ye (some ⟨u5_1r3,0,none⟩)),(48,yc yd (yh v)),(45,.agg #[yc yd (s.fi),yc yd (s.st),yc yd (s.ta),yc yd (s.xa),yc yd (s.ya),yc yd (s.za),yc yd (s.qa),yc yd (s.qb),yc yd (s.qc),yc yd (s.qd),yc yd (s.tb),yc yd (s.xb),yc yd (s.yb),yc yd (s.zb),yc yd (s.ra),yc yd (s.rb),yc yd (s.rc),yc yd (s.rd)]),(11,ye (some ⟨u21_1r2,0,none⟩)),(8,ye (some ⟨b4,0,none⟩)),(3,yc yd h)],[boxA u5_1r3 54 (cw [wz,wz,wz,wz,wz,wz])],[boxA u21_1r2 54 (cw [u20_1r2,u20_2r2,u20_3r2,u20_4r2,u20_5r2,u20_6r2]),boxA u5_1 25 [yc yd ((yg s (yh v)).1),yc yd ((yg s (yh v)).2.1),yc yd ((yg s (yh v)).2.2.1),yc yd ((yg s (yh v)).2.2.2)],boxA b4 46 (cw [wz,wz,wz,wz]),boxA b3 35 [yc yd u,yc yd v],boxA b2 37 [yc yd (cm.fo),yc yd (cm.cx),yc yd (cm.cy)],boxA b1 29 (cS s)],[qF true u20_1r2 u20_2r2 ((yC s cm u v).1),qF true u20_3r2 u20_4r2 ((yC s cm u v).2.1),qF true u20_5r2 u20_6r2 ((yC s cm u v).2.2)])) ?_ (fun hD3=> ?_)
    ·
     rintro u5_1r3
     dsimp only [cw,cS]
     refine zxa 4 kr ?_
     ·
      refine zm rfl rfl rfl rfl (.c rfl (.c rfl .n)) ce51 (zGc (s:=s) (r:=(yh v)) (hok:=ass) (hr:=yH) (hlt:=ass)) (.n) ?_
      rintro ⟨u4_1r3,u4_2r3,u4_3r3,u4_4r3,u4_5r3,u4_6r3⟩ -
      dsimp only [aq,nq,cq]
      exact zA (hD1 (u4_1r3,u4_2r3,u4_3r3,u4_4r3,u4_5r3,u4_6r3,u5_1r3)) kr ((.of rfl):SubM _ _) .rfl .rfl ((.of [0,1,2,3,4,5] rfl):SelR _ _ _)
    refine zY (X:=Unit) (k':=3) (L':=(lb 7 15)) (fun _=>([(48,yc yd (yh v)),(45,.agg #[yc yd (s.fi),yc yd (s.st),yc yd (s.ta),yc yd (s.xa),yc yd (s.ya),yc yd (s.za),yc yd (s.qa),yc yd (s.qb),yc yd (s.qc),yc yd (s.qd),yc yd (s.tb),yc yd (s.xb),yc yd (s.yb),yc yd (s.zb),yc yd (s.ra),yc yd (s.rb),yc yd (s.rc),yc yd (s.rd)]),(11,ye (some ⟨u21_1r2,0,none⟩)),(8,ye (some ⟨b4,0,none⟩)),(3,yc yd h)],[],[boxA u21_1r2 54 (cw [u20_1r2,u20_2r2,u20_3r2,u20_4r2,u20_5r2,u20_6r2]),boxA u5_1 25 [yc yd ((yg s (yh v)).1),yc yd ((yg s (yh v)).2.1),yc yd ((yg s (yh v)).2.2.1),yc yd ((yg s (yh v)).2.2.2)],boxA b4 46 (cw [wz,wz,wz,wz]),boxA b3 35 [yc yd u,yc yd v],boxA b2 37 [yc yd (cm.fo),yc yd (cm.cx),yc yd (cm.cy)],boxA b1 29 (cS s)],[qF true u20_1r2 u20_2r2 ((yC s cm u v).1),qF true u20_3r2 u20_4r2 ((yC s cm u v).2.1),qF true u20_5r2 u20_6r2 ((yC s cm u v).2.2)])) ?_ (fun hD4=> ?_)
    ·
     rintro ⟨⟩
     dsimp only [cw,cS]
     refine zXa 4 5 kr ?_ ?_
     ·
      refine zm rfl rfl rfl rfl (.c rfl (.c rfl .n)) ce51 (zGc (s:=s) (r:=(yh v)) (hok:=ass) (hr:=yH) (hlt:=ass)) (.n) ?_
      rintro ⟨u4_1r3,u4_2r3,u4_3r3,u4_4r3,u4_5r3,u4_6r3⟩ -
      dsimp only [aq,nq,cq]
      exact zA (hD2 (u4_1r3,u4_2r3,u4_3r3,u4_4r3,u4_5r3,u4_6r3)) kr ((.of rfl):SubM _ _) .rfl .rfl ((.of [0,1,2,3,4,5] rfl):SelR _ _ _)
     ·
      refine zoa rfl rfl rfl rfl (zn zr54 rfl) (fun u5_1r3 _=> ?_)
      exact zA (hD3 u5_1r3) kr ((.of rfl):SubM _ _) .rfl .rfl ((.of [0,1,2] rfl):SelR _ _ _)
    refine zY (X:=Nat) (k':=3) (L':=(lb 7 39)) (fun u5_1r3=>([(12,ye (some ⟨u5_1r3,0,none⟩)),(47,yc yd v),(45,.agg #[yc yd (s.fi),yc yd (s.st),yc yd (s.ta),yc yd (s.xa),yc yd (s.ya),yc yd (s.za),yc yd (s.qa),yc yd (s.qb),yc yd (s.qc),yc yd (s.qd),yc yd (s.tb),yc yd (s.xb),yc yd (s.yb),yc yd (s.zb),yc yd (s.ra),yc yd (s.rb),yc yd (s.rc),yc yd (s.rd)]),(11,ye (some ⟨u21_1r2,0,none⟩)),(8,ye (some ⟨b4,0,none⟩)),(3,yc yd h)],[boxA u5_1r3 54 (cw [wz,wz,wz,wz,wz,wz])],[boxA u21_1r2 54 (cw [u20_1r2,u20_2r2,u20_3r2,u20_4r2,u20_5r2,u20_6r2]),boxA u5_1 25 [yc yd ((yg s (yh v)).1),yc yd ((yg s (yh v)).2.1),yc yd ((yg s (yh v)).2.2.1),yc yd ((yg s (yh v)).2.2.2)],boxA b4 46 (cw [wz,wz,wz,wz]),boxA b3 35 [yc yd u,yc yd v],boxA b2 37 [yc yd (cm.fo),yc yd (cm.cx),yc yd (cm.cy)],boxA b1 29 (cS s)],[qF true u20_1r2 u20_2r2 ((yC s cm u v).1),qF true u20_3r2 u20_4r2 ((yC s cm u v).2.1),qF true u20_5r2 u20_6r2 ((yC s cm u v).2.2)])) ?_ (fun hD5=> ?_)
    ·
     rintro u5_1r3
     dsimp only [cw,cS]
     refine zxa 3 kr ?_
     ·
      refine zCa rfl rfl rfl rfl (.c rfl .n) ce16 (zMb (v:=v) (h64v:=yH)) (.n) ?_
      exact zA (hD3 u5_1r3) kr ((.of rfl):SubM _ _) .rfl .rfl ((.of [0,1,2] rfl):SelR _ _ _)
    refine zXa 3 5 kr ?_ ?_
    ·
     refine zCa rfl rfl rfl rfl (.c rfl .n) ce16 (zMb (v:=v) (h64v:=yH)) (.n) ?_
     exact zA (hD4 ()) kr ((.of rfl):SubM _ _) .rfl .rfl ((.of [0,1,2] rfl):SelR _ _ _)
    ·
     refine zoa rfl rfl rfl rfl (zn zr54 rfl) (fun u5_1r3 _=> ?_)
     exact zA (hD5 u5_1r3) kr ((.of rfl):SubM _ _) .rfl .rfl ((.of [0,1,2] rfl):SelR _ _ _)
   refine zY (X:=Wd×Wd×Wd×Wd×Wd×Wd×Nat) (k':=1) (L':=(lb 23 4194303)) (fun (u20_1r2,u20_2r2,u20_3r2,u20_4r2,u20_5r2,u20_6r2,u21_1r2)=>([(11,ye (some ⟨u21_1r2,0,none⟩)),(44,.agg (cw [u20_1r2,u20_2r2,u20_3r2,u20_4r2,u20_5r2,u20_6r2]).toArray),(8,ye (some ⟨b4,0,none⟩)),(6,ye (some ⟨b3,0,none⟩)),(4,ye (some ⟨b1,0,none⟩)),(3,yc yd h)],[boxA u21_1r2 54 (cw [wz,wz,wz,wz,wz,wz])],[boxA u5_1 25 [yc yd ((yg s (yh v)).1),yc yd ((yg s (yh v)).2.1),yc yd ((yg s (yh v)).2.2.1),yc yd ((yg s (yh v)).2.2.2)],boxA b4 46 (cw [wz,wz,wz,wz]),boxA b3 35 [yc yd u,yc yd v],boxA b2 37 [yc yd (cm.fo),yc yd (cm.cx),yc yd (cm.cy)],boxA b1 29 (cS s)],[qF true u20_1r2 u20_2r2 ((yI (yv false (yk (yg s (yh v)))) (Sh.gv cm u v)).1),qF true u20_3r2 u20_4r2 ((yI (yv false (yk (yg s (yh v)))) (Sh.gv cm u v)).2.1),qF true u20_5r2 u20_6r2 ((yI (yv false (yk (yg s (yh v)))) (Sh.gv cm u v)).2.2)])) ?_ (fun hD1=> ?_)
   ·
    rintro ⟨u20_1r2,u20_2r2,u20_3r2,u20_4r2,u20_5r2,u20_6r2,u21_1r2⟩
    dsimp only [cw,cS]
    refine zxa 22 kr ?_
    ·
     refine zp kr rfl rfl rfl rfl rfl sz54 rfl (.t8 (.t4 .nil)) ?_
     exact zA (hD0 (u20_1r2,u20_2r2,u20_3r2,u20_4r2,u20_5r2,u20_6r2,u21_1r2)) kr ((.of rfl):SubM _ _) .rfl .rfl ((.of [0,1,2] rfl):SelR _ _ _)
   refine zY (X:=Wd×Wd×Wd×Wd×Wd×Wd) (k':=2) (L':=(lb 23 2097151)) (fun (u20_1r2,u20_2r2,u20_3r2,u20_4r2,u20_5r2,u20_6r2)=>([(44,.agg (cw [u20_1r2,u20_2r2,u20_3r2,u20_4r2,u20_5r2,u20_6r2]).toArray),(8,ye (some ⟨b4,0,none⟩)),(6,ye (some ⟨b3,0,none⟩)),(4,ye (some ⟨b1,0,none⟩)),(3,yc yd h)],[],[boxA u5_1 25 [yc yd ((yg s (yh v)).1),yc yd ((yg s (yh v)).2.1),yc yd ((yg s (yh v)).2.2.1),yc yd ((yg s (yh v)).2.2.2)],boxA b4 46 (cw [wz,wz,wz,wz]),boxA b3 35 [yc yd u,yc yd v],boxA b2 37 [yc yd (cm.fo),yc yd (cm.cx),yc yd (cm.cy)],boxA b1 29 (cS s)],[qF true u20_1r2 u20_2r2 ((yI (yv false (yk (yg s (yh v)))) (Sh.gv cm u v)).1),qF true u20_3r2 u20_4r2 ((yI (yv false (yk (yg s (yh v)))) (Sh.gv cm u v)).2.1),qF true u20_5r2 u20_6r2 ((yI (yv false (yk (yg s (yh v)))) (Sh.gv cm u v)).2.2)])) ?_ (fun hD2=> ?_)
   ·
    rintro ⟨u20_1r2,u20_2r2,u20_3r2,u20_4r2,u20_5r2,u20_6r2⟩
    dsimp only [cw,cS]
    refine zxa 21 kr ?_
    ·
     refine zoa rfl rfl rfl rfl (zn zr54 rfl) (fun u21_1r2 _=> ?_)
     exact zA (hD1 (u20_1r2,u20_2r2,u20_3r2,u20_4r2,u20_5r2,u20_6r2,u21_1r2)) kr ((.of rfl):SubM _ _) .rfl .rfl ((.of [0,1,2] rfl):SelR _ _ _)
   refine zY (X:=Wd×Wd×Wd×Wd×Wd×Wd×Wd×Wd×Wd×Wd×Wd×Wd×Wd×Wd×Wd×Wd×Wd×Wd×Wd×Wd×Wd×Wd×Wd×Wd×Nat) (k':=2) (L':=(lb 23 3145727)) (fun (u1_1r2,u1_2r2,u1_3r2,u1_4r2,u1_5r2,u1_6r2,u1_7r2,u1_8r2,u1_9r2,u1_10r2,u1_11r2,u1_12r2,u1_13r2,u1_14r2,u1_15r2,u1_16r2,u1_17r2,u1_18r2,u8_1r2,u8_2r2,u15_1r2,u15_2r2,u18_1r2,u18_2r2,u21_1r2)=>([(11,ye (some ⟨u21_1r2,0,none⟩)),(43,.agg (cw [u8_1r2,u8_2r2,u15_1r2,u15_2r2,u18_1r2,u18_2r2]).toArray),(25,.agg (cw [u1_1r2,u1_2r2,u1_3r2,u1_4r2,u1_5r2,u1_6r2,u1_7r2,u1_8r2,u1_9r2,u1_10r2,u1_11r2,u1_12r2,u1_13r2,u1_14r2,u1_15r2,u1_16r2,u1_17r2,u1_18r2]).toArray),(8,ye (some ⟨b4,0,none⟩)),(6,ye (some ⟨b3,0,none⟩)),(4,ye (some ⟨b1,0,none⟩)),(3,yc yd h)],[boxA u21_1r2 54 (cw [wz,wz,wz,wz,wz,wz])],[boxA u5_1 25 [yc yd ((yg s (yh v)).1),yc yd ((yg s (yh v)).2.1),yc yd ((yg s (yh v)).2.2.1),yc yd ((yg s (yh v)).2.2.2)],boxA b4 46 (cw [wz,wz,wz,wz]),boxA b3 35 [yc yd u,yc yd v],boxA b2 37 [yc yd (cm.fo),yc yd (cm.cx),yc yd (cm.cy)],boxA b1 29 (cS s)],[qF true u18_1r2 u18_2r2 ((cm.fo:Int):Rat),qF true u15_1r2 u15_2r2 (((v - cm.cy):Int):Rat),qF true u8_1r2 u8_2r2 (((u - cm.cx):Int):Rat),qF true u1_1r2 u1_2r2 ((yk (yg s (yh v))).1.1),qF true u1_3r2 u1_4r2 ((yk (yg s (yh v))).1.2.1),qF true u1_5r2 u1_6r2 ((yk (yg s (yh v))).1.2.2),qF true u1_7r2 u1_8r2 ((yk (yg s (yh v))).2.1.1),qF true u1_9r2 u1_10r2 ((yk (yg s (yh v))).2.1.2.1),qF true u1_11r2 u1_12r2 ((yk (yg s (yh v))).2.1.2.2),qF true u1_13r2 u1_14r2 ((yk (yg s (yh v))).2.2.1),qF true u1_15r2 u1_16r2 ((yk (yg s (yh v))).2.2.2.1),qF true u1_17r2 u1_18r2 ((yk (yg s (yh v))).2.2.2.2)])) ?_ (fun hD3=> ?_)
   ·
    rintro ⟨u1_1r2,u1_2r2,u1_3r2,u1_4r2,u1_5r2,u1_6r2,u1_7r2,u1_8r2,u1_9r2,u1_10r2,u1_11r2,u1_12r2,u1_13r2,u1_14r2,u1_15r2,u1_16r2,u1_17r2,u1_18r2,u8_1r2,u8_2r2,u15_1r2,u15_2r2,u18_1r2,u18_2r2,u21_1r2⟩
    dsimp only [cw,cS]
    refine zxa 20 kr ?_
    ·
     refine zm rfl rfl rfl rfl (.c rfl (.c rfl (.c rfl .n))) ce49 (zqd (u1:=u1_1r2) (u2:=u1_2r2) (u3:=u1_3r2) (u4:=u1_4r2) (u5:=u1_5r2) (u6:=u1_6r2) (u7:=u1_7r2) (u8:=u1_8r2) (u9:=u1_9r2) (u10:=u1_10r2) (u11:=u1_11r2) (u12:=u1_12r2) (u13:=u1_13r2) (u14:=u1_14r2) (u15:=u1_15r2) (u16:=u1_16r2) (u17:=u1_17r2) (u18:=u1_18r2) (mm:=(yk (yg s (yh v)))) (x1:=u8_1r2) (x2:=u8_2r2) (x3:=u15_1r2) (x4:=u15_2r2) (x5:=u18_1r2) (x6:=u18_2r2) (vv:=(Sh.gv cm u v)) (tp:=false) (k:=3) (hm:=by exact Sh.mat_hq hsm) (hv:=by exact Sh.gv_hq hc hu hv) (hk:=yH)) (.c (j:=3) rfl (.c (j:=4) rfl (.c (j:=5) rfl (.c (j:=6) rfl (.c (j:=7) rfl (.c (j:=8) rfl (.c (j:=9) rfl (.c (j:=10) rfl (.c (j:=11) rfl (.c (j:=2) rfl (.c (j:=1) rfl (.c (j:=0) rfl .n)))))))))))) ?_
     rintro ⟨u20_1r2,u20_2r2,u20_3r2,u20_4r2,u20_5r2,u20_6r2⟩ -
     dsimp only [aq,nq,cq]
     exact zA (hD1 (u20_1r2,u20_2r2,u20_3r2,u20_4r2,u20_5r2,u20_6r2,u21_1r2)) kr ((.of rfl):SubM _ _) .rfl .rfl ((.of [0,1,2] rfl):SelR _ _ _)
   refine zY (X:=Wd×Wd×Wd×Wd×Wd×Wd×Wd×Wd×Wd×Wd×Wd×Wd×Wd×Wd×Wd×Wd×Wd×Wd×Wd×Wd×Wd×Wd×Wd×Wd) (k':=3) (L':=(lb 23 1048575)) (fun (u1_1r2,u1_2r2,u1_3r2,u1_4r2,u1_5r2,u1_6r2,u1_7r2,u1_8r2,u1_9r2,u1_10r2,u1_11r2,u1_12r2,u1_13r2,u1_14r2,u1_15r2,u1_16r2,u1_17r2,u1_18r2,u8_1r2,u8_2r2,u15_1r2,u15_2r2,u18_1r2,u18_2r2)=>([(43,.agg (cw [u8_1r2,u8_2r2,u15_1r2,u15_2r2,u18_1r2,u18_2r2]).toArray),(25,.agg (cw [u1_1r2,u1_2r2,u1_3r2,u1_4r2,u1_5r2,u1_6r2,u1_7r2,u1_8r2,u1_9r2,u1_10r2,u1_11r2,u1_12r2,u1_13r2,u1_14r2,u1_15r2,u1_16r2,u1_17r2,u1_18r2]).toArray),(8,ye (some ⟨b4,0,none⟩)),(6,ye (some ⟨b3,0,none⟩)),(4,ye (some ⟨b1,0,none⟩)),(3,yc yd h)],[],[boxA u5_1 25 [yc yd ((yg s (yh v)).1),yc yd ((yg s (yh v)).2.1),yc yd ((yg s (yh v)).2.2.1),yc yd ((yg s (yh v)).2.2.2)],boxA b4 46 (cw [wz,wz,wz,wz]),boxA b3 35 [yc yd u,yc yd v],boxA b2 37 [yc yd (cm.fo),yc yd (cm.cx),yc yd (cm.cy)],boxA b1 29 (cS s)],[qF true u18_1r2 u18_2r2 ((cm.fo:Int):Rat),qF true u15_1r2 u15_2r2 (((v - cm.cy):Int):Rat),qF true u8_1r2 u8_2r2 (((u - cm.cx):Int):Rat),qF true u1_1r2 u1_2r2 ((yk (yg s (yh v))).1.1),qF true u1_3r2 u1_4r2 ((yk (yg s (yh v))).1.2.1),qF true u1_5r2 u1_6r2 ((yk (yg s (yh v))).1.2.2),qF true u1_7r2 u1_8r2 ((yk (yg s (yh v))).2.1.1),qF true u1_9r2 u1_10r2 ((yk (yg s (yh v))).2.1.2.1),qF true u1_11r2 u1_12r2 ((yk (yg s (yh v))).2.1.2.2),qF true u1_13r2 u1_14r2 ((yk (yg s (yh v))).2.2.1),qF true u1_15r2 u1_16r2 ((yk (yg s (yh v))).2.2.2.1),qF true u1_17r2 u1_18r2 ((yk (yg s (yh v))).2.2.2.2)])) ?_ (fun hD4=> ?_)
   ·
    rintro ⟨u1_1r2,u1_2r2,u1_3r2,u1_4r2,u1_5r2,u1_6r2,u1_7r2,u1_8r2,u1_9r2,u1_10r2,u1_11r2,u1_12r2,u1_13r2,u1_14r2,u1_15r2,u1_16r2,u1_17r2,u1_18r2,u8_1r2,u8_2r2,u15_1r2,u15_2r2,u18_1r2,u18_2r2⟩
    dsimp only [cw,cS]
    refine zXa 20 21 kr ?_ ?_
    ·
     refine zm rfl rfl rfl rfl (.c rfl (.c rfl (.c rfl .n))) ce49 (zqd (u1:=u1_1r2) (u2:=u1_2r2) (u3:=u1_3r2) (u4:=u1_4r2) (u5:=u1_5r2) (u6:=u1_6r2) (u7:=u1_7r2) (u8:=u1_8r2) (u9:=u1_9r2) (u10:=u1_10r2) (u11:=u1_11r2) (u12:=u1_12r2) (u13:=u1_13r2) (u14:=u1_14r2) (u15:=u1_15r2) (u16:=u1_16r2) (u17:=u1_17r2) (u18:=u1_18r2) (mm:=(yk (yg s (yh v)))) (x1:=u8_1r2) (x2:=u8_2r2) (x3:=u15_1r2) (x4:=u15_2r2) (x5:=u18_1r2) (x6:=u18_2r2) (vv:=(Sh.gv cm u v)) (tp:=false) (k:=3) (hm:=by exact Sh.mat_hq hsm) (hv:=by exact Sh.gv_hq hc hu hv) (hk:=yH)) (.c (j:=3) rfl (.c (j:=4) rfl (.c (j:=5) rfl (.c (j:=6) rfl (.c (j:=7) rfl (.c (j:=8) rfl (.c (j:=9) rfl (.c (j:=10) rfl (.c (j:=11) rfl (.c (j:=2) rfl (.c (j:=1) rfl (.c (j:=0) rfl .n)))))))))))) ?_
     rintro ⟨u20_1r2,u20_2r2,u20_3r2,u20_4r2,u20_5r2,u20_6r2⟩ -
     dsimp only [aq,nq,cq]
     exact zA (hD2 (u20_1r2,u20_2r2,u20_3r2,u20_4r2,u20_5r2,u20_6r2)) kr ((.of rfl):SubM _ _) .rfl .rfl ((.of [0,1,2] rfl):SelR _ _ _)
    ·
     refine zoa rfl rfl rfl rfl (zn zr54 rfl) (fun u21_1r2 _=> ?_)
     exact zA (hD3 (u1_1r2,u1_2r2,u1_3r2,u1_4r2,u1_5r2,u1_6r2,u1_7r2,u1_8r2,u1_9r2,u1_10r2,u1_11r2,u1_12r2,u1_13r2,u1_14r2,u1_15r2,u1_16r2,u1_17r2,u1_18r2,u8_1r2,u8_2r2,u15_1r2,u15_2r2,u18_1r2,u18_2r2,u21_1r2)) kr ((.of rfl):SubM _ _) .rfl .rfl ((.of [0,1,2,3,4,5,6,7,8,9,10,11] rfl):SelR _ _ _)
   refine zY (X:=Wd×Wd×Wd×Wd×Wd×Wd×Wd×Wd×Wd×Wd×Wd×Wd×Wd×Wd×Wd×Wd×Wd×Wd×Wd×Wd×Wd×Wd×Nat) (k':=4) (L':=(lb 23 2359295)) (fun (u1_1r2,u1_2r2,u1_3r2,u1_4r2,u1_5r2,u1_6r2,u1_7r2,u1_8r2,u1_9r2,u1_10r2,u1_11r2,u1_12r2,u1_13r2,u1_14r2,u1_15r2,u1_16r2,u1_17r2,u1_18r2,u8_1r2,u8_2r2,u15_1r2,u15_2r2,u21_1r2)=>([(11,ye (some ⟨u21_1r2,0,none⟩)),(39,.agg (cw [u15_1r2,u15_2r2]).toArray),(32,.agg (cw [u8_1r2,u8_2r2]).toArray),(25,.agg (cw [u1_1r2,u1_2r2,u1_3r2,u1_4r2,u1_5r2,u1_6r2,u1_7r2,u1_8r2,u1_9r2,u1_10r2,u1_11r2,u1_12r2,u1_13r2,u1_14r2,u1_15r2,u1_16r2,u1_17r2,u1_18r2]).toArray),(41,yc yd (cm.fo)),(8,ye (some ⟨b4,0,none⟩)),(6,ye (some ⟨b3,0,none⟩)),(4,ye (some ⟨b1,0,none⟩)),(3,yc yd h)],[boxA u21_1r2 54 (cw [wz,wz,wz,wz,wz,wz])],[boxA u5_1 25 [yc yd ((yg s (yh v)).1),yc yd ((yg s (yh v)).2.1),yc yd ((yg s (yh v)).2.2.1),yc yd ((yg s (yh v)).2.2.2)],boxA b4 46 (cw [wz,wz,wz,wz]),boxA b3 35 [yc yd u,yc yd v],boxA b2 37 [yc yd (cm.fo),yc yd (cm.cx),yc yd (cm.cy)],boxA b1 29 (cS s)],[qF true u15_1r2 u15_2r2 (((v - cm.cy):Int):Rat),qF true u8_1r2 u8_2r2 (((u - cm.cx):Int):Rat),qF true u1_1r2 u1_2r2 ((yk (yg s (yh v))).1.1),qF true u1_3r2 u1_4r2 ((yk (yg s (yh v))).1.2.1),qF true u1_5r2 u1_6r2 ((yk (yg s (yh v))).1.2.2),qF true u1_7r2 u1_8r2 ((yk (yg s (yh v))).2.1.1),qF true u1_9r2 u1_10r2 ((yk (yg s (yh v))).2.1.2.1),qF true u1_11r2 u1_12r2 ((yk (yg s (yh v))).2.1.2.2),qF true u1_13r2 u1_14r2 ((yk (yg s (yh v))).2.2.1),qF true u1_15r2 u1_16r2 ((yk (yg s (yh v))).2.2.2.1),qF true u1_17r2 u1_18r2 ((yk (yg s (yh v))).2.2.2.2)])) ?_ (fun hD5=> ?_)
   ·
    rintro ⟨u1_1r2,u1_2r2,u1_3r2,u1_4r2,u1_5r2,u1_6r2,u1_7r2,u1_8r2,u1_9r2,u1_10r2,u1_11r2,u1_12r2,u1_13r2,u1_14r2,u1_15r2,u1_16r2,u1_17r2,u1_18r2,u8_1r2,u8_2r2,u15_1r2,u15_2r2,u21_1r2⟩
    dsimp only [cw,cS]
    refine zxa 18 kr ?_
    ·
     refine zm rfl rfl rfl rfl (.c rfl .n) ce22 (zra (z:=cm.fo) (hz:=yH)) (.n) ?_
     rintro ⟨u18_1r2,u18_2r2⟩ -
     dsimp only [aq,nq,cq]
     refine e_pv 19 rfl rfl (zsa zr54 rfl yf sz44 (.c rfl (.c rfl (.c rfl .n))) (.c rfl rfl rfl (.t4 .nil) (.c rfl rfl rfl (.s4 (.t4 .nil)) (.c rfl rfl rfl (.s8 (.t4 .nil)) .n)))) ?_
     exact zA (hD3 (u1_1r2,u1_2r2,u1_3r2,u1_4r2,u1_5r2,u1_6r2,u1_7r2,u1_8r2,u1_9r2,u1_10r2,u1_11r2,u1_12r2,u1_13r2,u1_14r2,u1_15r2,u1_16r2,u1_17r2,u1_18r2,u8_1r2,u8_2r2,u15_1r2,u15_2r2,u18_1r2,u18_2r2,u21_1r2)) kr ((.of rfl):SubM _ _) .rfl .rfl ((.of [0,1,2,3,4,5,6,7,8,9,10,11] rfl):SelR _ _ _)
   refine zY (X:=Wd×Wd×Wd×Wd×Wd×Wd×Wd×Wd×Wd×Wd×Wd×Wd×Wd×Wd×Wd×Wd×Wd×Wd×Wd×Wd×Wd×Wd) (k':=5) (L':=(lb 23 262143)) (fun (u1_1r2,u1_2r2,u1_3r2,u1_4r2,u1_5r2,u1_6r2,u1_7r2,u1_8r2,u1_9r2,u1_10r2,u1_11r2,u1_12r2,u1_13r2,u1_14r2,u1_15r2,u1_16r2,u1_17r2,u1_18r2,u8_1r2,u8_2r2,u15_1r2,u15_2r2)=>([(39,.agg (cw [u15_1r2,u15_2r2]).toArray),(32,.agg (cw [u8_1r2,u8_2r2]).toArray),(25,.agg (cw [u1_1r2,u1_2r2,u1_3r2,u1_4r2,u1_5r2,u1_6r2,u1_7r2,u1_8r2,u1_9r2,u1_10r2,u1_11r2,u1_12r2,u1_13r2,u1_14r2,u1_15r2,u1_16r2,u1_17r2,u1_18r2]).toArray),(41,yc yd (cm.fo)),(8,ye (some ⟨b4,0,none⟩)),(6,ye (some ⟨b3,0,none⟩)),(4,ye (some ⟨b1,0,none⟩)),(3,yc yd h)],[],[boxA u5_1 25 [yc yd ((yg s (yh v)).1),yc yd ((yg s (yh v)).2.1),yc yd ((yg s (yh v)).2.2.1),yc yd ((yg s (yh v)).2.2.2)],boxA b4 46 (cw [wz,wz,wz,wz]),boxA b3 35 [yc yd u,yc yd v],boxA b2 37 [yc yd (cm.fo),yc yd (cm.cx),yc yd (cm.cy)],boxA b1 29 (cS s)],[qF true u15_1r2 u15_2r2 (((v - cm.cy):Int):Rat),qF true u8_1r2 u8_2r2 (((u - cm.cx):Int):Rat),qF true u1_1r2 u1_2r2 ((yk (yg s (yh v))).1.1),qF true u1_3r2 u1_4r2 ((yk (yg s (yh v))).1.2.1),qF true u1_5r2 u1_6r2 ((yk (yg s (yh v))).1.2.2),qF true u1_7r2 u1_8r2 ((yk (yg s (yh v))).2.1.1),qF true u1_9r2 u1_10r2 ((yk (yg s (yh v))).2.1.2.1),qF true u1_11r2 u1_12r2 ((yk (yg s (yh v))).2.1.2.2),qF true u1_13r2 u1_14r2 ((yk (yg s (yh v))).2.2.1),qF true u1_15r2 u1_16r2 ((yk (yg s (yh v))).2.2.2.1),qF true u1_17r2 u1_18r2 ((yk (yg s (yh v))).2.2.2.2)])) ?_ (fun hD6=> ?_)
   ·
    rintro ⟨u1_1r2,u1_2r2,u1_3r2,u1_4r2,u1_5r2,u1_6r2,u1_7r2,u1_8r2,u1_9r2,u1_10r2,u1_11r2,u1_12r2,u1_13r2,u1_14r2,u1_15r2,u1_16r2,u1_17r2,u1_18r2,u8_1r2,u8_2r2,u15_1r2,u15_2r2⟩
    dsimp only [cw,cS]
    refine zXa 18 21 kr ?_ ?_
    ·
     refine zm rfl rfl rfl rfl (.c rfl .n) ce22 (zra (z:=cm.fo) (hz:=yH)) (.n) ?_
     rintro ⟨u18_1r2,u18_2r2⟩ -
     dsimp only [aq,nq,cq]
     refine e_pv 19 rfl rfl (zsa zr54 rfl yf sz44 (.c rfl (.c rfl (.c rfl .n))) (.c rfl rfl rfl (.t4 .nil) (.c rfl rfl rfl (.s4 (.t4 .nil)) (.c rfl rfl rfl (.s8 (.t4 .nil)) .n)))) ?_
     exact zA (hD4 (u1_1r2,u1_2r2,u1_3r2,u1_4r2,u1_5r2,u1_6r2,u1_7r2,u1_8r2,u1_9r2,u1_10r2,u1_11r2,u1_12r2,u1_13r2,u1_14r2,u1_15r2,u1_16r2,u1_17r2,u1_18r2,u8_1r2,u8_2r2,u15_1r2,u15_2r2,u18_1r2,u18_2r2)) kr ((.of rfl):SubM _ _) .rfl .rfl ((.of [0,1,2,3,4,5,6,7,8,9,10,11] rfl):SelR _ _ _)
    ·
     refine zoa rfl rfl rfl rfl (zn zr54 rfl) (fun u21_1r2 _=> ?_)
     exact zA (hD5 (u1_1r2,u1_2r2,u1_3r2,u1_4r2,u1_5r2,u1_6r2,u1_7r2,u1_8r2,u1_9r2,u1_10r2,u1_11r2,u1_12r2,u1_13r2,u1_14r2,u1_15r2,u1_16r2,u1_17r2,u1_18r2,u8_1r2,u8_2r2,u15_1r2,u15_2r2,u21_1r2)) kr ((.of rfl):SubM _ _) .rfl .rfl ((.of [0,1,2,3,4,5,6,7,8,9,10] rfl):SelR _ _ _)
   refine zY (X:=Wd×Wd×Wd×Wd×Wd×Wd×Wd×Wd×Wd×Wd×Wd×Wd×Wd×Wd×Wd×Wd×Wd×Wd×Wd×Wd×Nat) (k':=5) (L':=(lb 23 2326527)) (fun (u1_1r2,u1_2r2,u1_3r2,u1_4r2,u1_5r2,u1_6r2,u1_7r2,u1_8r2,u1_9r2,u1_10r2,u1_11r2,u1_12r2,u1_13r2,u1_14r2,u1_15r2,u1_16r2,u1_17r2,u1_18r2,u8_1r2,u8_2r2,u21_1r2)=>([(11,ye (some ⟨u21_1r2,0,none⟩)),(32,.agg (cw [u8_1r2,u8_2r2]).toArray),(25,.agg (cw [u1_1r2,u1_2r2,u1_3r2,u1_4r2,u1_5r2,u1_6r2,u1_7r2,u1_8r2,u1_9r2,u1_10r2,u1_11r2,u1_12r2,u1_13r2,u1_14r2,u1_15r2,u1_16r2,u1_17r2,u1_18r2]).toArray),(41,yc yd (cm.fo)),(38,yc yd (v - cm.cy)),(8,ye (some ⟨b4,0,none⟩)),(6,ye (some ⟨b3,0,none⟩)),(4,ye (some ⟨b1,0,none⟩)),(3,yc yd h)],[boxA u21_1r2 54 (cw [wz,wz,wz,wz,wz,wz])],[boxA u5_1 25 [yc yd ((yg s (yh v)).1),yc yd ((yg s (yh v)).2.1),yc yd ((yg s (yh v)).2.2.1),yc yd ((yg s (yh v)).2.2.2)],boxA b4 46 (cw [wz,wz,wz,wz]),boxA b3 35 [yc yd u,yc yd v],boxA b2 37 [yc yd (cm.fo),yc yd (cm.cx),yc yd (cm.cy)],boxA b1 29 (cS s)],[qF true u8_1r2 u8_2r2 (((u - cm.cx):Int):Rat),qF true u1_1r2 u1_2r2 ((yk (yg s (yh v))).1.1),qF true u1_3r2 u1_4r2 ((yk (yg s (yh v))).1.2.1),qF true u1_5r2 u1_6r2 ((yk (yg s (yh v))).1.2.2),qF true u1_7r2 u1_8r2 ((yk (yg s (yh v))).2.1.1),qF true u1_9r2 u1_10r2 ((yk (yg s (yh v))).2.1.2.1),qF true u1_11r2 u1_12r2 ((yk (yg s (yh v))).2.1.2.2),qF true u1_13r2 u1_14r2 ((yk (yg s (yh v))).2.2.1),qF true u1_15r2 u1_16r2 ((yk (yg s (yh v))).2.2.2.1),qF true u1_17r2 u1_18r2 ((yk (yg s (yh v))).2.2.2.2)])) ?_ (fun hD7=> ?_)
   ·
    rintro ⟨u1_1r2,u1_2r2,u1_3r2,u1_4r2,u1_5r2,u1_6r2,u1_7r2,u1_8r2,u1_9r2,u1_10r2,u1_11r2,u1_12r2,u1_13r2,u1_14r2,u1_15r2,u1_16r2,u1_17r2,u1_18r2,u8_1r2,u8_2r2,u21_1r2⟩
    dsimp only [cw,cS]
    refine zxa 15 kr ?_
    ·
     refine zm rfl rfl rfl rfl (.c rfl .n) ce22 (zra (z:=(v - cm.cy)) (hz:=yH)) (.n) ?_
     rintro ⟨u15_1r2,u15_2r2⟩ -
     dsimp only [aq,nq,cq]
     exact zA (hD5 (u1_1r2,u1_2r2,u1_3r2,u1_4r2,u1_5r2,u1_6r2,u1_7r2,u1_8r2,u1_9r2,u1_10r2,u1_11r2,u1_12r2,u1_13r2,u1_14r2,u1_15r2,u1_16r2,u1_17r2,u1_18r2,u8_1r2,u8_2r2,u15_1r2,u15_2r2,u21_1r2)) kr ((.of rfl):SubM _ _) .rfl .rfl ((.of [0,1,2,3,4,5,6,7,8,9,10] rfl):SelR _ _ _)
   refine zY (X:=Wd×Wd×Wd×Wd×Wd×Wd×Wd×Wd×Wd×Wd×Wd×Wd×Wd×Wd×Wd×Wd×Wd×Wd×Wd×Wd) (k':=6) (L':=(lb 23 229375)) (fun (u1_1r2,u1_2r2,u1_3r2,u1_4r2,u1_5r2,u1_6r2,u1_7r2,u1_8r2,u1_9r2,u1_10r2,u1_11r2,u1_12r2,u1_13r2,u1_14r2,u1_15r2,u1_16r2,u1_17r2,u1_18r2,u8_1r2,u8_2r2)=>([(32,.agg (cw [u8_1r2,u8_2r2]).toArray),(25,.agg (cw [u1_1r2,u1_2r2,u1_3r2,u1_4r2,u1_5r2,u1_6r2,u1_7r2,u1_8r2,u1_9r2,u1_10r2,u1_11r2,u1_12r2,u1_13r2,u1_14r2,u1_15r2,u1_16r2,u1_17r2,u1_18r2]).toArray),(41,yc yd (cm.fo)),(38,yc yd (v - cm.cy)),(8,ye (some ⟨b4,0,none⟩)),(6,ye (some ⟨b3,0,none⟩)),(4,ye (some ⟨b1,0,none⟩)),(3,yc yd h)],[],[boxA u5_1 25 [yc yd ((yg s (yh v)).1),yc yd ((yg s (yh v)).2.1),yc yd ((yg s (yh v)).2.2.1),yc yd ((yg s (yh v)).2.2.2)],boxA b4 46 (cw [wz,wz,wz,wz]),boxA b3 35 [yc yd u,yc yd v],boxA b2 37 [yc yd (cm.fo),yc yd (cm.cx),yc yd (cm.cy)],boxA b1 29 (cS s)],[qF true u8_1r2 u8_2r2 (((u - cm.cx):Int):Rat),qF true u1_1r2 u1_2r2 ((yk (yg s (yh v))).1.1),qF true u1_3r2 u1_4r2 ((yk (yg s (yh v))).1.2.1),qF true u1_5r2 u1_6r2 ((yk (yg s (yh v))).1.2.2),qF true u1_7r2 u1_8r2 ((yk (yg s (yh v))).2.1.1),qF true u1_9r2 u1_10r2 ((yk (yg s (yh v))).2.1.2.1),qF true u1_11r2 u1_12r2 ((yk (yg s (yh v))).2.1.2.2),qF true u1_13r2 u1_14r2 ((yk (yg s (yh v))).2.2.1),qF true u1_15r2 u1_16r2 ((yk (yg s (yh v))).2.2.2.1),qF true u1_17r2 u1_18r2 ((yk (yg s (yh v))).2.2.2.2)])) ?_ (fun hD8=> ?_)
   ·
    rintro ⟨u1_1r2,u1_2r2,u1_3r2,u1_4r2,u1_5r2,u1_6r2,u1_7r2,u1_8r2,u1_9r2,u1_10r2,u1_11r2,u1_12r2,u1_13r2,u1_14r2,u1_15r2,u1_16r2,u1_17r2,u1_18r2,u8_1r2,u8_2r2⟩
    dsimp only [cw,cS]
    refine zXa 15 21 kr ?_ ?_
    ·
     refine zm rfl rfl rfl rfl (.c rfl .n) ce22 (zra (z:=(v - cm.cy)) (hz:=yH)) (.n) ?_
     rintro ⟨u15_1r2,u15_2r2⟩ -
     dsimp only [aq,nq,cq]
     exact zA (hD6 (u1_1r2,u1_2r2,u1_3r2,u1_4r2,u1_5r2,u1_6r2,u1_7r2,u1_8r2,u1_9r2,u1_10r2,u1_11r2,u1_12r2,u1_13r2,u1_14r2,u1_15r2,u1_16r2,u1_17r2,u1_18r2,u8_1r2,u8_2r2,u15_1r2,u15_2r2)) kr ((.of rfl):SubM _ _) .rfl .rfl ((.of [0,1,2,3,4,5,6,7,8,9,10] rfl):SelR _ _ _)
    ·
     refine zoa rfl rfl rfl rfl (zn zr54 rfl) (fun u21_1r2 _=> ?_)
     exact zA (hD7 (u1_1r2,u1_2r2,u1_3r2,u1_4r2,u1_5r2,u1_6r2,u1_7r2,u1_8r2,u1_9r2,u1_10r2,u1_11r2,u1_12r2,u1_13r2,u1_14r2,u1_15r2,u1_16r2,u1_17r2,u1_18r2,u8_1r2,u8_2r2,u21_1r2)) kr ((.of rfl):SubM _ _) .rfl .rfl ((.of [0,1,2,3,4,5,6,7,8,9] rfl):SelR _ _ _)
   refine zY (X:=Wd×Wd×Wd×Wd×Wd×Wd×Wd×Wd×Wd×Wd×Wd×Wd×Wd×Wd×Wd×Wd×Wd×Wd×Nat) (k':=6) (L':=(lb 23 2326271)) (fun (u1_1r2,u1_2r2,u1_3r2,u1_4r2,u1_5r2,u1_6r2,u1_7r2,u1_8r2,u1_9r2,u1_10r2,u1_11r2,u1_12r2,u1_13r2,u1_14r2,u1_15r2,u1_16r2,u1_17r2,u1_18r2,u21_1r2)=>([(11,ye (some ⟨u21_1r2,0,none⟩)),(25,.agg (cw [u1_1r2,u1_2r2,u1_3r2,u1_4r2,u1_5r2,u1_6r2,u1_7r2,u1_8r2,u1_9r2,u1_10r2,u1_11r2,u1_12r2,u1_13r2,u1_14r2,u1_15r2,u1_16r2,u1_17r2,u1_18r2]).toArray),(41,yc yd (cm.fo)),(38,yc yd (v - cm.cy)),(31,yc yd (u - cm.cx)),(8,ye (some ⟨b4,0,none⟩)),(6,ye (some ⟨b3,0,none⟩)),(4,ye (some ⟨b1,0,none⟩)),(3,yc yd h)],[boxA u21_1r2 54 (cw [wz,wz,wz,wz,wz,wz])],[boxA u5_1 25 [yc yd ((yg s (yh v)).1),yc yd ((yg s (yh v)).2.1),yc yd ((yg s (yh v)).2.2.1),yc yd ((yg s (yh v)).2.2.2)],boxA b4 46 (cw [wz,wz,wz,wz]),boxA b3 35 [yc yd u,yc yd v],boxA b2 37 [yc yd (cm.fo),yc yd (cm.cx),yc yd (cm.cy)],boxA b1 29 (cS s)],[qF true u1_1r2 u1_2r2 ((yk (yg s (yh v))).1.1),qF true u1_3r2 u1_4r2 ((yk (yg s (yh v))).1.2.1),qF true u1_5r2 u1_6r2 ((yk (yg s (yh v))).1.2.2),qF true u1_7r2 u1_8r2 ((yk (yg s (yh v))).2.1.1),qF true u1_9r2 u1_10r2 ((yk (yg s (yh v))).2.1.2.1),qF true u1_11r2 u1_12r2 ((yk (yg s (yh v))).2.1.2.2),qF true u1_13r2 u1_14r2 ((yk (yg s (yh v))).2.2.1),qF true u1_15r2 u1_16r2 ((yk (yg s (yh v))).2.2.2.1),qF true u1_17r2 u1_18r2 ((yk (yg s (yh v))).2.2.2.2)])) ?_ (fun hD9=> ?_)
   ·
    rintro ⟨u1_1r2,u1_2r2,u1_3r2,u1_4r2,u1_5r2,u1_6r2,u1_7r2,u1_8r2,u1_9r2,u1_10r2,u1_11r2,u1_12r2,u1_13r2,u1_14r2,u1_15r2,u1_16r2,u1_17r2,u1_18r2,u21_1r2⟩
    dsimp only [cw,cS]
    refine zxa 8 kr ?_
    ·
     refine zm rfl rfl rfl rfl (.c rfl .n) ce22 (zra (z:=(u - cm.cx)) (hz:=yH)) (.n) ?_
     rintro ⟨u8_1r2,u8_2r2⟩ -
     dsimp only [aq,nq,cq]
     exact zA (hD7 (u1_1r2,u1_2r2,u1_3r2,u1_4r2,u1_5r2,u1_6r2,u1_7r2,u1_8r2,u1_9r2,u1_10r2,u1_11r2,u1_12r2,u1_13r2,u1_14r2,u1_15r2,u1_16r2,u1_17r2,u1_18r2,u8_1r2,u8_2r2,u21_1r2)) kr ((.of rfl):SubM _ _) .rfl .rfl ((.of [0,1,2,3,4,5,6,7,8,9] rfl):SelR _ _ _)
   refine zY (X:=Wd×Wd×Wd×Wd×Wd×Wd×Wd×Wd×Wd×Wd×Wd×Wd×Wd×Wd×Wd×Wd×Wd×Wd) (k':=7) (L':=(lb 23 229119)) (fun (u1_1r2,u1_2r2,u1_3r2,u1_4r2,u1_5r2,u1_6r2,u1_7r2,u1_8r2,u1_9r2,u1_10r2,u1_11r2,u1_12r2,u1_13r2,u1_14r2,u1_15r2,u1_16r2,u1_17r2,u1_18r2)=>([(25,.agg (cw [u1_1r2,u1_2r2,u1_3r2,u1_4r2,u1_5r2,u1_6r2,u1_7r2,u1_8r2,u1_9r2,u1_10r2,u1_11r2,u1_12r2,u1_13r2,u1_14r2,u1_15r2,u1_16r2,u1_17r2,u1_18r2]).toArray),(41,yc yd (cm.fo)),(38,yc yd (v - cm.cy)),(31,yc yd (u - cm.cx)),(8,ye (some ⟨b4,0,none⟩)),(6,ye (some ⟨b3,0,none⟩)),(4,ye (some ⟨b1,0,none⟩)),(3,yc yd h)],[],[boxA u5_1 25 [yc yd ((yg s (yh v)).1),yc yd ((yg s (yh v)).2.1),yc yd ((yg s (yh v)).2.2.1),yc yd ((yg s (yh v)).2.2.2)],boxA b4 46 (cw [wz,wz,wz,wz]),boxA b3 35 [yc yd u,yc yd v],boxA b2 37 [yc yd (cm.fo),yc yd (cm.cx),yc yd (cm.cy)],boxA b1 29 (cS s)],[qF true u1_1r2 u1_2r2 ((yk (yg s (yh v))).1.1),qF true u1_3r2 u1_4r2 ((yk (yg s (yh v))).1.2.1),qF true u1_5r2 u1_6r2 ((yk (yg s (yh v))).1.2.2),qF true u1_7r2 u1_8r2 ((yk (yg s (yh v))).2.1.1),qF true u1_9r2 u1_10r2 ((yk (yg s (yh v))).2.1.2.1),qF true u1_11r2 u1_12r2 ((yk (yg s (yh v))).2.1.2.2),qF true u1_13r2 u1_14r2 ((yk (yg s (yh v))).2.2.1),qF true u1_15r2 u1_16r2 ((yk (yg s (yh v))).2.2.2.1),qF true u1_17r2 u1_18r2 ((yk (yg s (yh v))).2.2.2.2)])) ?_ (fun hD10=> ?_)
   ·
    rintro ⟨u1_1r2,u1_2r2,u1_3r2,u1_4r2,u1_5r2,u1_6r2,u1_7r2,u1_8r2,u1_9r2,u1_10r2,u1_11r2,u1_12r2,u1_13r2,u1_14r2,u1_15r2,u1_16r2,u1_17r2,u1_18r2⟩
    dsimp only [cw,cS]
    refine zXa 8 21 kr ?_ ?_
    ·
     refine zm rfl rfl rfl rfl (.c rfl .n) ce22 (zra (z:=(u - cm.cx)) (hz:=yH)) (.n) ?_
     rintro ⟨u8_1r2,u8_2r2⟩ -
     dsimp only [aq,nq,cq]
     exact zA (hD8 (u1_1r2,u1_2r2,u1_3r2,u1_4r2,u1_5r2,u1_6r2,u1_7r2,u1_8r2,u1_9r2,u1_10r2,u1_11r2,u1_12r2,u1_13r2,u1_14r2,u1_15r2,u1_16r2,u1_17r2,u1_18r2,u8_1r2,u8_2r2)) kr ((.of rfl):SubM _ _) .rfl .rfl ((.of [0,1,2,3,4,5,6,7,8,9] rfl):SelR _ _ _)
    ·
     refine zoa rfl rfl rfl rfl (zn zr54 rfl) (fun u21_1r2 _=> ?_)
     exact zA (hD9 (u1_1r2,u1_2r2,u1_3r2,u1_4r2,u1_5r2,u1_6r2,u1_7r2,u1_8r2,u1_9r2,u1_10r2,u1_11r2,u1_12r2,u1_13r2,u1_14r2,u1_15r2,u1_16r2,u1_17r2,u1_18r2,u21_1r2)) kr ((.of rfl):SubM _ _) .rfl .rfl ((.of [0,1,2,3,4,5,6,7,8] rfl):SelR _ _ _)
   refine zY (X:=Nat) (k':=7) (L':=(lb 23 2326269)) (fun u21_1r2=>([(11,ye (some ⟨u21_1r2,0,none⟩)),(41,yc yd (cm.fo)),(38,yc yd (v - cm.cy)),(31,yc yd (u - cm.cx)),(24,.agg #[yc yd ((yg s (yh v)).1),yc yd ((yg s (yh v)).2.1),yc yd ((yg s (yh v)).2.2.1),yc yd ((yg s (yh v)).2.2.2)]),(8,ye (some ⟨b4,0,none⟩)),(6,ye (some ⟨b3,0,none⟩)),(4,ye (some ⟨b1,0,none⟩)),(3,yc yd h)],[boxA u21_1r2 54 (cw [wz,wz,wz,wz,wz,wz])],[boxA u5_1 25 [yc yd ((yg s (yh v)).1),yc yd ((yg s (yh v)).2.1),yc yd ((yg s (yh v)).2.2.1),yc yd ((yg s (yh v)).2.2.2)],boxA b4 46 (cw [wz,wz,wz,wz]),boxA b3 35 [yc yd u,yc yd v],boxA b2 37 [yc yd (cm.fo),yc yd (cm.cx),yc yd (cm.cy)],boxA b1 29 (cS s)],[])) ?_ (fun hD11=> ?_)
   ·
    rintro u21_1r2
    dsimp only [cw,cS]
    refine zxa 1 kr ?_
    ·
     refine zm rfl rfl rfl rfl (.c rfl .n) ce50 (zpd (q:=(yg s (yh v))) (hsm:=yH)) (.n) ?_
     rintro ⟨u1_1r2,u1_2r2,u1_3r2,u1_4r2,u1_5r2,u1_6r2,u1_7r2,u1_8r2,u1_9r2,u1_10r2,u1_11r2,u1_12r2,u1_13r2,u1_14r2,u1_15r2,u1_16r2,u1_17r2,u1_18r2⟩ -
     dsimp only [aq,nq,cq]
     exact zA (hD9 (u1_1r2,u1_2r2,u1_3r2,u1_4r2,u1_5r2,u1_6r2,u1_7r2,u1_8r2,u1_9r2,u1_10r2,u1_11r2,u1_12r2,u1_13r2,u1_14r2,u1_15r2,u1_16r2,u1_17r2,u1_18r2,u21_1r2)) kr ((.of rfl):SubM _ _) .rfl .rfl ((.of [0,1,2,3,4,5,6,7,8] rfl):SelR _ _ _)
   refine zXa 1 21 kr ?_ ?_
   ·
    refine zm rfl rfl rfl rfl (.c rfl .n) ce50 (zpd (q:=(yg s (yh v))) (hsm:=yH)) (.n) ?_
    rintro ⟨u1_1r2,u1_2r2,u1_3r2,u1_4r2,u1_5r2,u1_6r2,u1_7r2,u1_8r2,u1_9r2,u1_10r2,u1_11r2,u1_12r2,u1_13r2,u1_14r2,u1_15r2,u1_16r2,u1_17r2,u1_18r2⟩ -
    dsimp only [aq,nq,cq]
    exact zA (hD10 (u1_1r2,u1_2r2,u1_3r2,u1_4r2,u1_5r2,u1_6r2,u1_7r2,u1_8r2,u1_9r2,u1_10r2,u1_11r2,u1_12r2,u1_13r2,u1_14r2,u1_15r2,u1_16r2,u1_17r2,u1_18r2)) kr ((.of rfl):SubM _ _) .rfl .rfl ((.of [0,1,2,3,4,5,6,7,8] rfl):SelR _ _ _)
   ·
    refine zoa rfl rfl rfl rfl (zn zr54 rfl) (fun u21_1r2 _=> ?_)
    exact zA (hD11 u21_1r2) kr ((.of rfl):SubM _ _) .rfl .rfl (.n:SelR _ _ _)
 refine zY (X:=Nat) (k':=1) (L':=(lb 7 63)) (fun u5_1=>([(10,ye (some ⟨u5_1,0,none⟩)),(19,.agg #[yc yd ((yg s (yh v)).1),yc yd ((yg s (yh v)).2.1),yc yd ((yg s (yh v)).2.2.1),yc yd ((yg s (yh v)).2.2.2)]),(8,ye (some ⟨b4,0,none⟩)),(6,ye (some ⟨b3,0,none⟩)),(5,ye (some ⟨b2,0,none⟩)),(4,ye (some ⟨b1,0,none⟩)),(3,yc yd h)],[boxA u5_1 25 [yc yd 0,yc yd 0,yc yd 0,yc yd 0]],[boxA b4 46 (cw [wz,wz,wz,wz]),boxA b3 35 [yc yd u,yc yd v],boxA b2 37 [yc yd (cm.fo),yc yd (cm.cx),yc yd (cm.cy)],boxA b1 29 (cS s)],[])) ?_ (fun hD1=> ?_)
 ·
  rintro u5_1
  dsimp only [cw,cS]
  refine zxa 6 kr ?_
  ·
   refine zp kr rfl rfl rfl rfl rfl sz25 rfl (.t4 .nil) ?_
   exact zA (hD0 u5_1) kr ((.of rfl):SubM _ _) .rfl .rfl (.n:SelR _ _ _)
 refine zY (X:=Unit) (k':=2) (L':=(lb 7 31)) (fun _=>([(19,.agg #[yc yd ((yg s (yh v)).1),yc yd ((yg s (yh v)).2.1),yc yd ((yg s (yh v)).2.2.1),yc yd ((yg s (yh v)).2.2.2)]),(8,ye (some ⟨b4,0,none⟩)),(6,ye (some ⟨b3,0,none⟩)),(5,ye (some ⟨b2,0,none⟩)),(4,ye (some ⟨b1,0,none⟩)),(3,yc yd h)],[],[boxA b4 46 (cw [wz,wz,wz,wz]),boxA b3 35 [yc yd u,yc yd v],boxA b2 37 [yc yd (cm.fo),yc yd (cm.cx),yc yd (cm.cy)],boxA b1 29 (cS s)],[])) ?_ (fun hD2=> ?_)
 ·
  rintro ⟨⟩
  dsimp only [cw,cS]
  refine zxa 5 kr ?_
  ·
   refine zoa rfl rfl rfl rfl (zn zr25 rfl) (fun u5_1 _=> ?_)
   exact zA (hD1 u5_1) kr ((.of rfl):SubM _ _) .rfl .rfl (.n:SelR _ _ _)
 refine zY (X:=Nat) (k':=2) (L':=(lb 7 47)) (fun u5_1=>([(10,ye (some ⟨u5_1,0,none⟩)),(18,yc yd (yh v)),(15,.agg #[yc yd (s.fi),yc yd (s.st),yc yd (s.ta),yc yd (s.xa),yc yd (s.ya),yc yd (s.za),yc yd (s.qa),yc yd (s.qb),yc yd (s.qc),yc yd (s.qd),yc yd (s.tb),yc yd (s.xb),yc yd (s.yb),yc yd (s.zb),yc yd (s.ra),yc yd (s.rb),yc yd (s.rc),yc yd (s.rd)]),(8,ye (some ⟨b4,0,none⟩)),(6,ye (some ⟨b3,0,none⟩)),(5,ye (some ⟨b2,0,none⟩)),(4,ye (some ⟨b1,0,none⟩)),(3,yc yd h)],[boxA u5_1 25 [yc yd 0,yc yd 0,yc yd 0,yc yd 0]],[boxA b4 46 (cw [wz,wz,wz,wz]),boxA b3 35 [yc yd u,yc yd v],boxA b2 37 [yc yd (cm.fo),yc yd (cm.cx),yc yd (cm.cy)],boxA b1 29 (cS s)],[])) ?_ (fun hD3=> ?_)
 ·
  rintro u5_1
  dsimp only [cw,cS]
  refine zxa 4 kr ?_
  ·
   refine zCa rfl rfl rfl rfl (.c rfl (.c rfl .n)) ce33 (zTd (s:=s) (r:=(yh v)) (hok:=ass) (hr:=yH)) (.n) ?_
   exact zA (hD1 u5_1) kr ((.of rfl):SubM _ _) .rfl .rfl (.n:SelR _ _ _)
 refine zY (X:=Unit) (k':=3) (L':=(lb 7 15)) (fun _=>([(18,yc yd (yh v)),(15,.agg #[yc yd (s.fi),yc yd (s.st),yc yd (s.ta),yc yd (s.xa),yc yd (s.ya),yc yd (s.za),yc yd (s.qa),yc yd (s.qb),yc yd (s.qc),yc yd (s.qd),yc yd (s.tb),yc yd (s.xb),yc yd (s.yb),yc yd (s.zb),yc yd (s.ra),yc yd (s.rb),yc yd (s.rc),yc yd (s.rd)]),(8,ye (some ⟨b4,0,none⟩)),(6,ye (some ⟨b3,0,none⟩)),(5,ye (some ⟨b2,0,none⟩)),(4,ye (some ⟨b1,0,none⟩)),(3,yc yd h)],[],[boxA b4 46 (cw [wz,wz,wz,wz]),boxA b3 35 [yc yd u,yc yd v],boxA b2 37 [yc yd (cm.fo),yc yd (cm.cx),yc yd (cm.cy)],boxA b1 29 (cS s)],[])) ?_ (fun hD4=> ?_)
 ·
  rintro ⟨⟩
  dsimp only [cw,cS]
  refine zXa 4 5 kr ?_ ?_
  ·
   refine zCa rfl rfl rfl rfl (.c rfl (.c rfl .n)) ce33 (zTd (s:=s) (r:=(yh v)) (hok:=ass) (hr:=yH)) (.n) ?_
   exact zA (hD2 ()) kr ((.of rfl):SubM _ _) .rfl .rfl (.n:SelR _ _ _)
  ·
   refine zoa rfl rfl rfl rfl (zn zr25 rfl) (fun u5_1 _=> ?_)
   exact zA (hD3 u5_1) kr ((.of rfl):SubM _ _) .rfl .rfl (.n:SelR _ _ _)
 refine zY (X:=Nat) (k':=3) (L':=(lb 7 39)) (fun u5_1=>([(10,ye (some ⟨u5_1,0,none⟩)),(17,yc yd v),(15,.agg #[yc yd (s.fi),yc yd (s.st),yc yd (s.ta),yc yd (s.xa),yc yd (s.ya),yc yd (s.za),yc yd (s.qa),yc yd (s.qb),yc yd (s.qc),yc yd (s.qd),yc yd (s.tb),yc yd (s.xb),yc yd (s.yb),yc yd (s.zb),yc yd (s.ra),yc yd (s.rb),yc yd (s.rc),yc yd (s.rd)]),(8,ye (some ⟨b4,0,none⟩)),(6,ye (some ⟨b3,0,none⟩)),(5,ye (some ⟨b2,0,none⟩)),(4,ye (some ⟨b1,0,none⟩)),(3,yc yd h)],[boxA u5_1 25 [yc yd 0,yc yd 0,yc yd 0,yc yd 0]],[boxA b4 46 (cw [wz,wz,wz,wz]),boxA b3 35 [yc yd u,yc yd v],boxA b2 37 [yc yd (cm.fo),yc yd (cm.cx),yc yd (cm.cy)],boxA b1 29 (cS s)],[])) ?_ (fun hD5=> ?_)
 ·
  rintro u5_1
  dsimp only [cw,cS]
  refine zxa 3 kr ?_
  ·
   refine zCa rfl rfl rfl rfl (.c rfl .n) ce16 (zMb (v:=v) (h64v:=yH)) (.n) ?_
   exact zA (hD3 u5_1) kr ((.of rfl):SubM _ _) .rfl .rfl (.n:SelR _ _ _)
 refine zXa 3 5 kr ?_ ?_
 ·
  refine zCa rfl rfl rfl rfl (.c rfl .n) ce16 (zMb (v:=v) (h64v:=yH)) (.n) ?_
  exact zA (hD4 ()) kr ((.of rfl):SubM _ _) .rfl .rfl (.n:SelR _ _ _)
 ·
  refine zoa rfl rfl rfl rfl (zn zr25 rfl) (fun u5_1 _=> ?_)
  exact zA (hD5 u5_1) kr ((.of rfl):SubM _ _) .rfl .rfl (.n:SelR _ _ _)
end Go.Proofs.YtjeahiahjgifgaaGreatDoor.Sp
namespace Go.Proofs.YtjeahiahjgifgaaGreatDoor.Sp
open Go
set_option linter.unusedVariables false
set_option maxRecDepth 100000
set_option maxHeartbeats 8000000
theorem zqe {s:Sh.S} {cm:Sh.C} {r:Int} {u1:Wd} {v1:Wd} {lx:Option Rat} {u2:Wd} {v2:Wd} {ly:Option Rat} {h:Int} (hfi: -9223372036854775808≤s.fi∧s.fi≤9223372036854775807) (hst: -9223372036854775808≤s.st∧s.st≤9223372036854775807) (hta: -9223372036854775808≤s.ta∧s.ta≤9223372036854775807) (htb: -9223372036854775808≤s.tb∧s.tb≤9223372036854775807) (hxa: -9223372036854775808≤s.xa∧s.xa≤9223372036854775807) (hya: -9223372036854775808≤s.ya∧s.ya≤9223372036854775807) (hza: -9223372036854775808≤s.za∧s.za≤9223372036854775807) (hqa: -9223372036854775808≤s.qa∧s.qa≤9223372036854775807) (hqb: -9223372036854775808≤s.qb∧s.qb≤9223372036854775807) (hqc: -9223372036854775808≤s.qc∧s.qc≤9223372036854775807) (hqd: -9223372036854775808≤s.qd∧s.qd≤9223372036854775807) (hxb: -9223372036854775808≤s.xb∧s.xb≤9223372036854775807) (hyb: -9223372036854775808≤s.yb∧s.yb≤9223372036854775807) (hzb: -9223372036854775808≤s.zb∧s.zb≤9223372036854775807) (hra: -9223372036854775808≤s.ra∧s.ra≤9223372036854775807) (hrb: -9223372036854775808≤s.rb∧s.rb≤9223372036854775807) (hrc: -9223372036854775808≤s.rc∧s.rc≤9223372036854775807) (hrd: -9223372036854775808≤s.rd∧s.rd≤9223372036854775807) (h64fo: -9223372036854775808≤cm.fo∧cm.fo≤9223372036854775807) (h64cx: -9223372036854775808≤cm.cx∧cm.cx≤9223372036854775807) (h64cy: -9223372036854775808≤cm.cy∧cm.cy≤9223372036854775807) (h64r: -9223372036854775808≤r∧r≤9223372036854775807) (h64h: -9223372036854775808≤h∧h≤9223372036854775807) (hqx:yQ (lx.getD 0)≤400) (hqy:yQ (ly.getD 0)≤400):Con yF 29 [.agg #[yc yd (s.fi),yc yd (s.st),yc yd (s.ta),yc yd (s.xa),yc yd (s.ya),yc yd (s.za),yc yd (s.qa),yc yd (s.qb),yc yd (s.qc),yc yd (s.qd),yc yd (s.tb),yc yd (s.xb),yc yd (s.yb),yc yd (s.zb),yc yd (s.ra),yc yd (s.rb),yc yd (s.rc),yc yd (s.rd)],.agg #[yc yd (cm.fo),yc yd (cm.cx),yc yd (cm.cy)],yc yd r,.agg #[u1.b,u1.l,v1.b,v1.l,u2.b,u2.l,v2.b,v2.l],yc yd h] [] [sgF,eF u1 v1 lx,eF u2 v2 ly] (Y:=Wd×Wd×Wd×Wd) (fun y=>Sh.Ic s cm r lx.isSome (lx.getD 0) ly.isSome (ly.getD 0) h≠0→y.1=wz∧y.2.1=wz∧y.2.2.1=wz∧y.2.2.2=wz) (fun y=> .tuple #[.agg #[y.1.b,y.1.l,y.2.1.b,y.2.1.l,y.2.2.1.b,y.2.2.1.l,y.2.2.2.b,y.2.2.2.l],yc yd (Sh.Ic s cm r lx.isSome (lx.getD 0) ly.isSome (ly.getD 0) h)]) (fun y=>[]) (fun y=>[qF (decide (Sh.Ic s cm r lx.isSome (lx.getD 0) ly.isSome (ly.getD 0) h=0)) y.1 y.2.1 (Sh.Ix s cm r lx.isSome (lx.getD 0) ly.isSome (ly.getD 0) h),qF (decide (Sh.Ic s cm r lx.isSome (lx.getD 0) ly.isSome (ly.getD 0) h=0)) y.2.2.1 y.2.2.2 (Sh.Iy s cm r lx.isSome (lx.getD 0) ly.isSome (ly.getD 0) h)]):=by
 refine zw Tryz.func29 rfl rfl rfl (fun c=> ?_)
 show RunC _ _ _ _ _ [(0,.agg #[yc yd (s.fi),yc yd (s.st),yc yd (s.ta),yc yd (s.xa),yc yd (s.ya),yc yd (s.za),yc yd (s.qa),yc yd (s.qb),yc yd (s.qc),yc yd (s.qd),yc yd (s.tb),yc yd (s.xb),yc yd (s.yb),yc yd (s.zb),yc yd (s.ra),yc yd (s.rb),yc yd (s.rc),yc yd (s.rd)]),(1,.agg #[yc yd (cm.fo),yc yd (cm.cx),yc yd (cm.cy)]),(2,yc yd r),(3,.agg #[u1.b,u1.l,v1.b,v1.l,u2.b,u2.l,v2.b,v2.l]),(4,yc yd h)] [] [sgF,eF u1 v1 lx,eF u2 v2 ly]
 refine zj<|zc<|zG rfl rfl (zZ rfl rfl) (fun b1=> ?_)
 refine zG rfl rfl (zZ rfl rfl) (fun b2=> ?_)
 refine zG rfl rfl (zZ rfl rfl) (fun b3=> ?_)
 refine zG rfl rfl (zn zr46 rfl) (fun b4=> ?_)
 refine e_p (zh rfl)<|zk<|zg<|zj<|zj<|zc<|e_ru (zd 3 ty29 rfl rfl (.t8 (.t8 (.t2 .nil))))<|zU rfl rfl (.c rfl (.c rfl .n)) ce12 (zyc (s:=s) (n:=1) (hfi:=ass) (hst:=ass) (hta:=ass) (htb:=ass) (hxa:=ass) (hya:=ass) (hza:=ass) (hqa:=ass) (hqb:=ass) (hqc:=ass) (hqd:=ass) (hxb:=ass) (hyb:=ass) (hzb:=ass) (hra:=ass) (hrb:=ass) (hrc:=ass) (hrd:=ass)) (.n)<|e_p (zh rfl)<|zk<|zg<|zj<|zc<|e_mv rfl<|e_p (zCb rfl rfl)<|zk<|zg<|zT rfl (fun hc=> ?_) (fun hc=> ?_)
 ·
  refine zj<|zc<|e_p (zu zr46 rfl yp (.c sz44 (.c sz44 .n)) .n .n)<|e_mv rfl<|zl 0 rfl rfl rfl rfl rfl sz46 rfl (.t8 .nil) .z<|e_p (zh rfl)<|zk<|zg<|zS<|zt<|zYa (qF false wz wz 0) (fun g _=>qF_none g) ?_
  have hg9:Sh.Ic s cm r lx.isSome (lx.getD 0) ly.isSome (ly.getD 0) h=Sh.chk s 1:=if_neg hc
  have hg8:¬Sh.Ic s cm r lx.isSome (lx.getD 0) ly.isSome (ly.getD 0) h=0:=by rw [hg9];exact hc
  have hx9:Sh.Ix s cm r lx.isSome (lx.getD 0) ly.isSome (ly.getD 0) h=0:=if_neg hg8
  have hy9:Sh.Iy s cm r lx.isSome (lx.getD 0) ly.isSome (ly.getD 0) h=0:=if_neg hg8
  exact zEa yN (wz,wz,wz,wz) (fun _=>⟨rfl,rfl,rfl,rfl⟩) (zr 0 ty46 rfl rfl (.t8 .nil)) (zD rfl) (by rw [hg9];rfl) (ho:=(.n:PickO _ _ _)) ((.e (j:=0) rfl (by rw [hx9,decide_eq_false hg8]) (.e (j:=0) rfl (by rw [hy9,decide_eq_false hg8]) .n)):SelR _ _ _)
 ·
  have hc0:Sh.chk s 1=0:=Decidable.not_not.1 hc
  obtain ⟨hok,-,hlt,hnd⟩:=Sh.chk_ok hc0
  refine zx<|zg<|zj<|zDa (X:=Unit) (fun x=>True) (fun x=>[(27,.bool (decide ((¬(0≤r∧r<64))∨(¬(Sh.cam cm∧Sh.inb h))))),(11,yc yd 0),(10,ye (some ⟨b4,0,none⟩)),(8,ye (some ⟨b3,0,none⟩)),(6,ye (some ⟨b2,0,none⟩)),(5,ye (some ⟨b1,0,none⟩)),(2,yc yd r),(4,yc yd h)]) (fun x=>[boxA b4 46 (cw [wz,wz,wz,wz]),boxA b3 46 (cw [u1,v1,u2,v2]),boxA b2 37 [yc yd (cm.fo),yc yd (cm.cx),yc yd (cm.cy)],boxA b1 29 (cS s)]) (fun x=>[sgF,eF u1 v1 lx,eF u2 v2 ly]) ?_ ?_
  ·
   refine zc<|e_mv rfl<|zU rfl rfl (.c rfl .n) ce44 (zKc (r:=r)) (.n)<|e_p (zLa rfl)<|zja rfl rfl (zka rfl) (fun h5=> ?_) (fun h5=> ?_)
   ·
    refine e_no<|e_no<|e_no<|e_no<|e_p (zL rfl rfl)<|zk ?_
    exact zha () (show True from by first|trivial|omega|simp_all) ((.e rfl (congrArg Value.bool cbu) (.of rfl)):SubM _ _) (ho:=((.of [0,0,0,0] rfl):PickO _ _ _)) ((.of [0,1,2] rfl):SelR _ _ _)
   ·
    refine e_ru (zd 2 ty37 rfl rfl (.t2 (.take .nil)))<|e_mv rfl<|zU rfl rfl (.c rfl (.c rfl .n)) ce45 (zIb (cm:=cm) (h:=h) (h64fo:=ass) (h64cx:=ass) (h64cy:=ass) (h64h:=ass)) (.n)<|e_p (zLa rfl)<|e_p (zL rfl rfl)<|zk ?_
    exact zha () (show True from by first|trivial|omega|simp_all) ((.e rfl (congrArg Value.bool cbu) (.of rfl)):SubM _ _) (ho:=((.of [0,0,0,0] rfl):PickO _ _ _)) ((.of [0,1,2] rfl):SelR _ _ _)
  ·
   rintro ⟨⟩ -
   try dsimp only [cw]
   refine zT rfl (fun hcr=> ?_) (fun hcr=> ?_)
   ·
    have hcr2:¬Sh.cr cm r h:=fun k=>hcr.elim (fun e=>e k.1) (fun e=>e k.2)
    refine zj<|zc<|e_p (zu zr46 rfl yp (.c sz44 (.c sz44 .n)) .n .n)<|zl 0 rfl rfl rfl rfl rfl sz46 rfl (.t8 .nil) .z<|e_p (zh rfl)<|zk<|zg<|zS<|zt<|zYa (qF false wz wz 0) (fun g _=>qF_none g) ?_
    have hg9:Sh.Ic s cm r lx.isSome (lx.getD 0) ly.isSome (ly.getD 0) h=2:=(if_pos hc0).trans (if_neg hcr2)
    have hg8:¬Sh.Ic s cm r lx.isSome (lx.getD 0) ly.isSome (ly.getD 0) h=0:=by rw [hg9];decide
    have hx9:Sh.Ix s cm r lx.isSome (lx.getD 0) ly.isSome (ly.getD 0) h=0:=if_neg hg8
    have hy9:Sh.Iy s cm r lx.isSome (lx.getD 0) ly.isSome (ly.getD 0) h=0:=if_neg hg8
    exact zEa yN (wz,wz,wz,wz) (fun _=>⟨rfl,rfl,rfl,rfl⟩) (zr 0 ty46 rfl rfl (.t8 .nil)) (zD rfl) (by rw [hg9];rfl) (ho:=(.n:PickO _ _ _)) ((.e (j:=0) rfl (by rw [hx9,decide_eq_false hg8]) (.e (j:=0) rfl (by rw [hy9,decide_eq_false hg8]) .n)):SelR _ _ _)
   ·
    have hca:=Decidable.not_not.1 (fun e=>hcr (Or.inl e))
    have hcb:=Decidable.not_not.1 (fun e=>hcr (Or.inr e))
    have hcr2:Sh.cr cm r h:=⟨hca,hcb⟩
    refine zx<|zg<|zj<|zj<|zc<|e_ru (zd 1 ty46 rfl rfl (.t8 .nil))<|zU rfl rfl (.c rfl .n) ce63 (zSd (u1:=u1) (v1:=v1) (lx:=lx) (u2:=u2) (v2:=v2) (ly:=ly)) (.c (j:=1) rfl (.c (j:=2) rfl .n))<|e_p (zLa rfl)<|zk<|zg<|zT rfl (fun hcn=> ?_) (fun hcn=> ?_)
    ·
     have hcn2:=hcn
     refine zj<|zc<|e_p (zu zr46 rfl yp (.c sz44 (.c sz44 .n)) .n .n)<|zl 0 rfl rfl rfl rfl rfl sz46 rfl (.t8 .nil) .z<|e_p (zh rfl)<|zk<|zg<|zS<|zt<|zYa (qF false wz wz 0) (fun g _=>qF_none g) ?_
     have hg9:Sh.Ic s cm r lx.isSome (lx.getD 0) ly.isSome (ly.getD 0) h=1:=((if_pos hc0).trans (if_pos hcr2)).trans (if_neg hcn2)
     have hg8:¬Sh.Ic s cm r lx.isSome (lx.getD 0) ly.isSome (ly.getD 0) h=0:=by rw [hg9];decide
     have hx9:Sh.Ix s cm r lx.isSome (lx.getD 0) ly.isSome (ly.getD 0) h=0:=if_neg hg8
     have hy9:Sh.Iy s cm r lx.isSome (lx.getD 0) ly.isSome (ly.getD 0) h=0:=if_neg hg8
     exact zEa yN (wz,wz,wz,wz) (fun _=>⟨rfl,rfl,rfl,rfl⟩) (zr 0 ty46 rfl rfl (.t8 .nil)) (zD rfl) (by rw [hg9];rfl) (ho:=(.n:PickO _ _ _)) ((.e (j:=0) rfl (by rw [hx9,decide_eq_false hg8]) (.e (j:=0) rfl (by rw [hy9,decide_eq_false hg8]) .n)):SelR _ _ _)
    ·
     have hcn2:=Decidable.not_not.1 hcn
     refine zx<|zg<|zj<|zIe (qF lx.isSome u1 v1 (lx.getD 0)) (eF_weak 1 rfl)<|zIe (qF ly.isSome u2 v2 (ly.getD 0)) (eF_weak 3 rfl)<|zc<|e_ru (zd 3 ty29 rfl rfl (.t8 (.t8 (.t2 .nil))))<|e_ru (zd 2 ty37 rfl rfl (.t2 (.take .nil)))<|e_mv rfl<|e_ru (zd 1 ty46 rfl rfl (.t8 .nil))<|e_mv rfl<|zH rfl rfl (.c rfl (.c rfl (.c rfl (.c rfl (.c rfl .n))))) ce48 (zje (s:=s) (cm:=cm) (r:=r) (k1:=lx.isSome) (u1:=u1) (v1:=v1) (ax:=(lx.getD 0)) (k2:=ly.isSome) (u2:=u2) (v2:=v2) (ay:=(ly.getD 0)) (h:=h) (hok:=cbd) (hlt:=cbd) (hc:=by exact hcr2.2.1) (hr:=by exact hcr2.1) (hqx:=ass) (hqy:=ass) (hh:=by exact hcr2.2.2)) (.c (j:=2) rfl (.c (j:=1) rfl (.c (j:=0) rfl .n))) ?_
     rintro ⟨w16,w27,w38,w49⟩ hph
     dsimp only [aq,nq,cq]
     replace hph:Sh.ic s r (lx.getD 0) (ly.getD 0) h≠0→w16=wz∧w27=wz∧w38=wz∧w49=wz:=hph
     refine e_p (zy rfl rfl)<|e_p (zy rfl rfl)<|zl 0 rfl rfl rfl rfl rfl sz46 rfl (.t8 .nil) .z<|e_p (zh rfl)<|zk<|zg<|zS ?_
     have hg9:Sh.Ic s cm r lx.isSome (lx.getD 0) ly.isSome (ly.getD 0) h=Sh.ic s r (lx.getD 0) (ly.getD 0) h:=((if_pos hc0).trans (if_pos hcr2)).trans (if_pos hcn2)
     have hx9:Sh.Ix s cm r lx.isSome (lx.getD 0) ly.isSome (ly.getD 0) h=Sh.ix s cm r (lx.getD 0) (ly.getD 0) h:=by by_cases k:Sh.ic s r (lx.getD 0) (ly.getD 0) h=0;rw [show Sh.Ix s cm r lx.isSome (lx.getD 0) ly.isSome (ly.getD 0) h=Sh.ix s cm r (lx.getD 0) (ly.getD 0) h from if_pos (hg9.trans k)];(rw [show Sh.Ix s cm r lx.isSome (lx.getD 0) ly.isSome (ly.getD 0) h=0 from if_neg (fun e=>k (hg9.symm.trans e)),show Sh.ix s cm r (lx.getD 0) (ly.getD 0) h=0 from if_neg k])
     have hy9:Sh.Iy s cm r lx.isSome (lx.getD 0) ly.isSome (ly.getD 0) h=Sh.iy s cm r (lx.getD 0) (ly.getD 0) h:=by by_cases k:Sh.ic s r (lx.getD 0) (ly.getD 0) h=0;rw [show Sh.Iy s cm r lx.isSome (lx.getD 0) ly.isSome (ly.getD 0) h=Sh.iy s cm r (lx.getD 0) (ly.getD 0) h from if_pos (hg9.trans k)];(rw [show Sh.Iy s cm r lx.isSome (lx.getD 0) ly.isSome (ly.getD 0) h=0 from if_neg (fun e=>k (hg9.symm.trans e)),show Sh.iy s cm r (lx.getD 0) (ly.getD 0) h=0 from if_neg k])
     exact zEa yN (w16,w27,w38,w49) (fun k=>hph (by rw [← hg9];exact k)) (zr 0 ty46 rfl rfl (.t8 .nil)) (zD rfl) (by rw [hg9]) (ho:=(.n:PickO _ _ _)) ((.e (j:=0) rfl (by rw [hx9,hg9]) (.e (j:=1) rfl (by rw [hy9,hg9]) .n)):SelR _ _ _)
end Go.Proofs.YtjeahiahjgifgaaGreatDoor.Sp
namespace Go.Proofs.YtjeahiahjgifgaaGreatDoor.Sh
open Go.Proofs.YtjeahiahjgifgaaGreatDoor.Big
theorem Gc_zero {s:S} {c:C} {u v h:Int} (g:Gc s c u v h=0):chk s 1=0∧cp c u v h∧gc s c u v h=0:=by
  unfold Gc at g
  split at g
  · rename_i h1; split at g
    · rename_i h2;exact ⟨h1,h2,g⟩
    · cases g
  · rename_i h1;exact absurd g h1
theorem Gx_hq (s:S) (c:C) (u v h:Int):hq (Gx s c u v h)≤400∧hq (Gy s c u v h)≤400:=by
  unfold Gx Gy
  split
  · rename_i g
    obtain ⟨h1,h2,h3⟩:=Gc_zero g
    exact gx_hq (chk_ok h1).1 h2.1 h2.2.1 h2.2.2.1 h2.2.2.2.2 h2.2.2.2.1
  · rw [hq_zero];exact ⟨by decide,by decide⟩
theorem Gxx {s:S} {c:C} {u v h:Int} (g:Gc s c u v h=0):Gx s c u v h=gx s c u v h∧Gy s c u v h=gy s c u v h:=⟨if_pos g,if_pos g⟩
theorem GI {s:S} {c:C} {u v h:Int} (g:Gc s c u v h=0):Ic s c (ro v) true (Gx s c u v h) true (Gy s c u v h) h=0∧Ix s c (ro v) true (Gx s c u v h) true (Gy s c u v h) h=((u:Int):Rat)∧Iy s c (ro v) true (Gx s c u v h) true (Gy s c u v h) h=((v:Int):Rat):=by
  obtain ⟨h1,h2,h3⟩:=Gc_zero g
  obtain ⟨e1,e2⟩:=Gxx g
  rw [e1,e2]
  obtain ⟨a,b,d⟩:=ground_image h2.1 h3
  have hcr:cr c (ro v) h:=⟨h2.2.2.2.2,h2.1,h2.2.2.2.1⟩
  have hI:Ic s c (ro v) true (gx s c u v h) true (gy s c u v h) h=0:=by unfold Ic;rw [if_pos h1,if_pos hcr,if_pos ⟨rfl,rfl⟩];exact a
  exact ⟨hI,(if_pos hI).trans b,(if_pos hI).trans d⟩
theorem ro_b {v:Int} (h: -9223372036854775808≤v∧v≤9223372036854775807): -9223372036854775808≤ro v∧ro v≤9223372036854775807:=by unfold ro;omega
theorem hb4 {a b c d:Rat} {k:Nat} {m:Nat} (h1:hq a≤k∧hq b≤k) (h2:hq c≤m∧hq d≤m) (hk:k≤5000:=by decide) (hm:m≤5000:=by decide):∀i∈[a,b,c,d],hq i≤5000:=fun i hi=>by
  simp only [List.mem_cons,List.not_mem_nil,or_false] at hi
  rcases hi with rfl|rfl|rfl|rfl <;> omega
def tg (s:S) (p:Prop) [Decidable p]:Int:=if chk s 1=0 then (if p then 0 else 2) else chk s 1
theorem tg_yes {s:S} {p q:Prop} [Decidable p] (hq:q↔p) (g:chk s 1=0∧¬q):(2:Int)=tg s p:=by unfold tg;rw [if_pos g.1,if_neg (fun k=>g.2 (hq.2 k))]
theorem tg_no {s:S} {p q:Prop} [Decidable p] (hq:q↔p) (g:¬(chk s 1=0∧¬q)):chk s 1=tg s p:=by
  unfold tg
  by_cases h:chk s 1=0
  · rw [if_pos h,if_pos (Decidable.byContradiction fun k=>g ⟨h,fun e=>k (hq.1 e)⟩),h]
  · rw [if_neg h]
theorem tg_zero {s:S} {p:Prop} [Decidable p] (g:tg s p=0):chk s 1=0∧p:=by
  unfold tg at g
  split at g
  · rename_i h1; split at g
    · rename_i h2;exact ⟨h1,h2⟩
    · cases g
  · rename_i h1;exact absurd g h1
theorem Gc_tg {s:S} {c:C} {u v h:Int} (g:¬tg s (cp c u v h)=0):Gc s c u v h=tg s (cp c u v h):=by
  unfold Gc tg at*
  by_cases h1:chk s 1=0
  · by_cases h2 : cp c u v h
    · rw [if_pos h1,if_pos h2] at g;exact absurd rfl g
    · rw [if_pos h1,if_neg h2,if_pos h1,if_neg h2]
  · rw [if_neg h1,if_neg h1]
end Go.Proofs.YtjeahiahjgifgaaGreatDoor.Sh
