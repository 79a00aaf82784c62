/- Lemmas on the walk and plain lemmas that the claim of this folder uses; each states its own conditions. Lines were printed by a program of ours. -/
import Derived.Test.YtjeahiahjgifgaaGreatDoorZ10E
set_option linter.unusedVariables false
set_option linter.unusedSimpArgs false
set_option linter.unusedSectionVars false
open Go.Value renaming int → yc, pointer → ye
open Go.IntKind renaming i64 → yd
open Go.Proofs.Tryz renaming underlying54 → yf, underlying27 → yg, underlying29 → yi, underlying25 → yj, underlying51 → yk, underlying46 → yl, underlying97 → ym, underlying75 → yo, underlying3 → yq, underlying23 → yr, underlying123 → yu, underlying83 → yw, prog → yC, underlying37 → yD, underlying35 → yH, results13 → yL, underlying92 → yN, results37 → yP
open Go.Proofs.YtjeahiahjgifgaaGreatDoor.Sh renaming rot → yh, ay → yn, mm → yp, au → yt, pk → yv, pos → yx, exS → yz, mat → yA, exC → yB, sumL → yE, id → yF, ax → yG, Rl → yI, tim → yJ, rowsL → yK, ic → yM, mm_hq → yO, az → yQ, Rc → yR, frc → yS
open Go.Proofs.YtjeahiahjgifgaaGreatDoor.Big renaming hq → yT
namespace Go.Proofs.YtjeahiahjgifgaaGreatDoor.Sp
open Go
set_option linter.unusedVariables false
set_option maxRecDepth 100000
set_option maxHeartbeats 8000000
theorem zYe {s:Sh.S} {n:Int} (hfi: -9223372036854775808≤s.fi∧s.fi≤9223372036854775807) (hst: -9223372036854775808≤s.st∧s.st≤9223372036854775807) (hta: -9223372036854775808≤s.ta∧s.ta≤9223372036854775807) (htb: -9223372036854775808≤s.tb∧s.tb≤9223372036854775807) (hxa: -9223372036854775808≤s.xa∧s.xa≤9223372036854775807) (hya: -9223372036854775808≤s.ya∧s.ya≤9223372036854775807) (hza: -9223372036854775808≤s.za∧s.za≤9223372036854775807) (hqa: -9223372036854775808≤s.qa∧s.qa≤9223372036854775807) (hqb: -9223372036854775808≤s.qb∧s.qb≤9223372036854775807) (hqc: -9223372036854775808≤s.qc∧s.qc≤9223372036854775807) (hqd: -9223372036854775808≤s.qd∧s.qd≤9223372036854775807) (hxb: -9223372036854775808≤s.xb∧s.xb≤9223372036854775807) (hyb: -9223372036854775808≤s.yb∧s.yb≤9223372036854775807) (hzb: -9223372036854775808≤s.zb∧s.zb≤9223372036854775807) (hra: -9223372036854775808≤s.ra∧s.ra≤9223372036854775807) (hrb: -9223372036854775808≤s.rb∧s.rb≤9223372036854775807) (hrc: -9223372036854775808≤s.rc∧s.rc≤9223372036854775807) (hrd: -9223372036854775808≤s.rd∧s.rd≤9223372036854775807):Con yC 13 [.agg #[yc yd (s.fi),yc yd (s.st),yc yd (s.ta),yc yd (s.xa),yc yd (s.ya),yc yd (s.za),yc yd (s.qa),yc yd (s.qb),yc yd (s.qc),yc yd (s.qd),yc yd (s.tb),yc yd (s.xb),yc yd (s.yb),yc yd (s.zb),yc yd (s.ra),yc yd (s.rb),yc yd (s.rc),yc yd (s.rd)],yc yd n] [] [] (Y:=Unit) (fun y=>True) (fun y=> yc yd (Sh.chk s n)) (fun y=>[]) (fun y=>[]):=by
 refine zv Tryz.func13 rfl rfl rfl (fun c=> ?_)
 show RunC _ _ _ _ _ [(0,.agg #[yc yd (s.fi),yc yd (s.st),yc yd (s.ta),yc yd (s.xa),yc yd (s.ya),yc yd (s.za),yc yd (s.qa),yc yd (s.qb),yc yd (s.qc),yc yd (s.qd),yc yd (s.tb),yc yd (s.xb),yc yd (s.yb),yc yd (s.zb),yc yd (s.ra),yc yd (s.rb),yc yd (s.rc),yc yd (s.rd)]),(1,yc yd n)] [] []
 refine zj<|zc<|zE rfl rfl (zZ rfl rfl) (fun b1=> ?_)
 refine e_p (zh rfl)<|zk<|zg<|zj<|zAa (X:=Unit) (fun x=>True) (fun x=>[(28,.bool (decide (n<1∨64<n∨¬Sh.okN s))),(4,yc yd 0),(2,ye (some ⟨b1,0,none⟩)),(1,yc yd n)]) (fun x=>[boxA b1 29 (cS s)]) (fun x=>[]) ?_ ?_
 ·
  refine zc<|e_mv rfl<|e_p (zO rfl rfl)<|zja rfl rfl (zka rfl) (fun g1=> ?_) (fun g1=> ?_)
  ·
   refine e_no<|e_no<|e_p (zK rfl rfl)<|e_mv rfl<|e_no<|e_no<|e_no<|e_no<|e_no<|e_no<|e_no<|e_no<|e_no<|e_no<|e_no<|e_no<|e_no<|e_p (zK rfl rfl)<|zk ?_
   exact zha () (show True from by first|trivial|omega|simp_all) ((.e rfl (congrArg Value.bool (by first|exact (decide_eq_true (Or.inl g1)).symm|exact (decide_eq_true (Or.inr (Or.inl g2))).symm|exact decide_eq_decide.2 ⟨fun k=>Or.inr (Or.inr k),fun k=>k.elim (fun e=>absurd e g1) (fun k=>k.elim (fun e=>absurd e g2) _root_.id)⟩)) (.of rfl)):SubM _ _) (ho:=((.c (i:=0) rfl .n):PickO _ _ _)) (.n:SelR _ _ _)
  ·
   refine e_mv rfl<|e_p (zbb rfl rfl)<|e_p (zK rfl rfl)<|zja rfl rfl (zka rfl) (fun g2=> ?_) (fun g2=> ?_)
   ·
    refine e_no<|e_no<|e_no<|e_no<|e_no<|e_no<|e_no<|e_no<|e_no<|e_no<|e_no<|e_no<|e_no<|e_p (zK rfl rfl)<|zk ?_
    exact zha () (show True from by first|trivial|omega|simp_all) ((.e rfl (congrArg Value.bool (by first|exact (decide_eq_true (Or.inl g1)).symm|exact (decide_eq_true (Or.inr (Or.inl g2))).symm|exact decide_eq_decide.2 ⟨fun k=>Or.inr (Or.inr k),fun k=>k.elim (fun e=>absurd e g1) (fun k=>k.elim (fun e=>absurd e g2) _root_.id)⟩)) (.of rfl)):SubM _ _) (ho:=((.c (i:=0) rfl .n):PickO _ _ _)) (.n:SelR _ _ _)
   ·
    refine e_p (zf yi rfl sz3 rfl rfl)<|e_ru (ze 0 ty3 rfl rfl rfl)<|e_p (zf yi rfl sz3 rfl rfl)<|e_ru (ze 0 ty3 rfl rfl rfl)<|e_p (zf yi rfl sz27 rfl rfl)<|e_p (zf yg rfl sz3 rfl rfl)<|e_ru (ze 0 ty3 rfl rfl rfl)<|e_p (zf yi rfl sz27 rfl rfl)<|e_p (zf yg rfl sz3 rfl rfl)<|e_ru (ze 0 ty3 rfl rfl rfl)<|zDa rfl rfl (zR (enc:=fun z:Int=>[yc yd z]) (ok:=InK .i64) (h1:=fun _=>rfl) (h2:=fun _=>rfl) (k:=4) yk inf3 rfl dd dd dd (.c (x:=s.fi) rfl rfl (fun _ _=>by exact zq.2 om) (.c (x:=s.st) rfl rfl (fun _ _=>by exact zq.2 om) (.c (x:=s.ta) rfl rfl (fun _ _=>by exact zq.2 om) (.c (x:=s.tb) rfl rfl (fun _ _=>by exact zq.2 om) .n))))) (fun b2 _=> ?_)
    refine zia 0 rfl .z<|zU rfl rfl (.c rfl (.c rfl .n)) ce23 (zrb (p:=some ⟨b2,0,none⟩) (n:=4) (cap:=4) (l:=[s.fi,s.st,s.ta,s.tb]) (m:=1073741824) (hn:=cbd) (hm:=cbd)) (.c (j:=0) rfl .n)<|e_p (zKa rfl)<|e_p (zK rfl rfl)<|zk ?_
    exact zha () (show True from by first|trivial|omega|simp_all) ((.e rfl (congrArg Value.bool (by first|exact (decide_eq_true (Or.inl g1)).symm|exact (decide_eq_true (Or.inr (Or.inl g2))).symm|exact decide_eq_decide.2 ⟨fun k=>Or.inr (Or.inr k),fun k=>k.elim (fun e=>absurd e g1) (fun k=>k.elim (fun e=>absurd e g2) _root_.id)⟩)) (.of rfl)):SubM _ _) (ho:=((.c (i:=1) rfl .n):PickO _ _ _)) (.n:SelR _ _ _)
 ·
  rintro ⟨⟩ -
  try dsimp only
  refine zT rfl (fun h1=> ?_) (fun h1=> ?_)
  ·
   refine zj<|zc<|e_p (zh rfl)<|zk<|zg<|zS<|zu ?_
   exact zM yL () trivial (zC rfl) (by rw [Sh.chk_1 h1]) (ho:=(.n:PickO _ _ _)) (.n:SelR _ _ _)
  ·
   refine zw<|zg<|zj<|zj<|zc<|e_p (zf yi rfl sz27 rfl rfl)<|e_ru (zd 0 ty27 rfl rfl (.s2 (.t8 .nil)))<|e_p (zf yi rfl sz27 rfl rfl)<|e_ru (zd 0 ty27 rfl rfl (.s8 (.s2 (.t8 .nil))))<|zDa rfl rfl (zR (enc:=fun z:Ep=>[yc yd z.tm,yc yd z.x,yc yd z.y,yc yd z.z,yc yd z.a,yc yd z.b,yc yd z.c,yc yd z.d]) (ok:=okEp .i64) (h1:=fun _=>rfl) (h2:=fun _=>rfl) (k:=2) yN inf27 rfl dd dd dd (.c (x:=(⟨s.ta,s.xa,s.ya,s.za,s.qa,s.qb,s.qc,s.qd⟩:Ep)) rfl rfl (fun _ _=>by exact ⟨zq.2 (by first|omega|decide|(dsimp only;omega)),zq.2 (by first|omega|decide|(dsimp only;omega)),zq.2 (by first|omega|decide|(dsimp only;omega)),zq.2 (by first|omega|decide|(dsimp only;omega)),zq.2 (by first|omega|decide|(dsimp only;omega)),zq.2 (by first|omega|decide|(dsimp only;omega)),zq.2 (by first|omega|decide|(dsimp only;omega)),zq.2 (by first|omega|decide|(dsimp only;omega))⟩) (.c (x:=(⟨s.tb,s.xb,s.yb,s.zb,s.ra,s.rb,s.rc,s.rd⟩:Ep)) rfl rfl (fun _ _=>by exact ⟨zq.2 (by first|omega|decide|(dsimp only;omega)),zq.2 (by first|omega|decide|(dsimp only;omega)),zq.2 (by first|omega|decide|(dsimp only;omega)),zq.2 (by first|omega|decide|(dsimp only;omega)),zq.2 (by first|omega|decide|(dsimp only;omega)),zq.2 (by first|omega|decide|(dsimp only;omega)),zq.2 (by first|omega|decide|(dsimp only;omega)),zq.2 (by first|omega|decide|(dsimp only;omega))⟩) .n))) (fun b3 _=> ?_)
   refine e_p (zfa yN rfl)<|e_mv rfl<|zk<|zg<|zt<|zMa<|zV<|zj<|zc<|e_p (zO rfl rfl)<|zk<|zg<|zj<|zX rfl rfl<|zw<|zg<|zj<|zt<|zj<|zc<|e_p (zra (j:=0) yN sz27 rfl rfl rfl (by first|omega|(simp;done)))<|r_vl rfl rfl (zvb 0 0 rfl ty27 rfl rfl (gD (d:=ep0) (by first|omega|(simp;done)))) (fun _ hok4=> ?_)
   obtain ⟨hok40,hok41,hok42,hok43,hok44,hok45,hok46,hok47⟩:=hok4
   replace hok40:=zq.1 hok40
   replace hok41:=zq.1 hok41
   replace hok42:=zq.1 hok42
   replace hok43:=zq.1 hok43
   replace hok44:=zq.1 hok44
   replace hok45:=zq.1 hok45
   replace hok46:=zq.1 hok46
   replace hok47:=zq.1 hok47
   refine zE rfl rfl (zo zr27 rfl) (fun b5=> ?_)
   refine zl 0 rfl rfl rfl rfl rfl sz27 rfl (.t8 .nil) .z<|zk<|zg ?_
   have e6:((([(⟨s.ta,s.xa,s.ya,s.za,s.qa,s.qb,s.qc,s.qd⟩:Ep),(⟨s.tb,s.xb,s.yb,s.zb,s.ra,s.rb,s.rc,s.rd⟩:Ep)]).getD 0 ep0).tm:Int)=s.ta:=by rfl
   rw [e6]
   have e7:((([(⟨s.ta,s.xa,s.ya,s.za,s.qa,s.qb,s.qc,s.qd⟩:Ep),(⟨s.tb,s.xb,s.yb,s.zb,s.ra,s.rb,s.rc,s.rd⟩:Ep)]).getD 0 ep0).x:Int)=s.xa:=by rfl
   rw [e7]
   have e8:((([(⟨s.ta,s.xa,s.ya,s.za,s.qa,s.qb,s.qc,s.qd⟩:Ep),(⟨s.tb,s.xb,s.yb,s.zb,s.ra,s.rb,s.rc,s.rd⟩:Ep)]).getD 0 ep0).y:Int)=s.ya:=by rfl
   rw [e8]
   have e9:((([(⟨s.ta,s.xa,s.ya,s.za,s.qa,s.qb,s.qc,s.qd⟩:Ep),(⟨s.tb,s.xb,s.yb,s.zb,s.ra,s.rb,s.rc,s.rd⟩:Ep)]).getD 0 ep0).z:Int)=s.za:=by rfl
   rw [e9]
   have e10:((([(⟨s.ta,s.xa,s.ya,s.za,s.qa,s.qb,s.qc,s.qd⟩:Ep),(⟨s.tb,s.xb,s.yb,s.zb,s.ra,s.rb,s.rc,s.rd⟩:Ep)]).getD 0 ep0).a:Int)=s.qa:=by rfl
   rw [e10]
   have e11:((([(⟨s.ta,s.xa,s.ya,s.za,s.qa,s.qb,s.qc,s.qd⟩:Ep),(⟨s.tb,s.xb,s.yb,s.zb,s.ra,s.rb,s.rc,s.rd⟩:Ep)]).getD 0 ep0).b:Int)=s.qb:=by rfl
   rw [e11]
   have e12:((([(⟨s.ta,s.xa,s.ya,s.za,s.qa,s.qb,s.qc,s.qd⟩:Ep),(⟨s.tb,s.xb,s.yb,s.zb,s.ra,s.rb,s.rc,s.rd⟩:Ep)]).getD 0 ep0).c:Int)=s.qc:=by rfl
   rw [e12]
   have e13:((([(⟨s.ta,s.xa,s.ya,s.za,s.qa,s.qb,s.qc,s.qd⟩:Ep),(⟨s.tb,s.xb,s.yb,s.zb,s.ra,s.rb,s.rc,s.rd⟩:Ep)]).getD 0 ep0).d:Int)=s.qd:=by rfl
   rw [e13]
   refine zAa (X:=Unit) (fun x=>True) (fun x=>[(67,.bool (decide ((¬(Sh.wi 1048576 ([s.xa,s.ya,s.za])))∨(¬(Sh.wi 32768 ([s.qa,s.qb,s.qc,s.qd])))))),(6,ye (some ⟨b5,0,none⟩)),(38,.agg #[yc yd (s.ta),yc yd (s.xa),yc yd (s.ya),yc yd (s.za),yc yd (s.qa),yc yd (s.qb),yc yd (s.qc),yc yd (s.qd)]),(37,rowPtr (some ⟨b3,0,none⟩) (0*8)),(36,.bool true),(35,yc yd 0),(34,yc yd 2),(33,.slice (some ⟨b3,0,none⟩) 2 2),(4,yc yd 0),(2,ye (some ⟨b1,0,none⟩)),(1,yc yd n)]) (fun x=>[boxA b5 27 [yc yd (s.ta),yc yd (s.xa),yc yd (s.ya),yc yd (s.za),yc yd (s.qa),yc yd (s.qb),yc yd (s.qc),yc yd (s.qd)],rowA 27 (rI8 .i64) (some ⟨b3,0,none⟩) 2 ([(⟨s.ta,s.xa,s.ya,s.za,s.qa,s.qb,s.qc,s.qd⟩:Ep),(⟨s.tb,s.xb,s.yb,s.zb,s.ra,s.rb,s.rc,s.rd⟩:Ep)]),boxA b1 29 (cS s)]) (fun x=>[]) ?_ ?_
   ·
    refine zc<|e_p (zf yg rfl sz23 rfl rfl)<|e_p (zf yr rfl sz3 rfl rfl)<|e_ru (ze 0 ty3 rfl rfl rfl)<|e_p (zf yg rfl sz23 rfl rfl)<|e_p (zf yr rfl sz3 rfl rfl)<|e_ru (ze 0 ty3 rfl rfl rfl)<|e_p (zf yg rfl sz23 rfl rfl)<|e_p (zf yr rfl sz3 rfl rfl)<|e_ru (ze 0 ty3 rfl rfl rfl)<|zDa rfl rfl (zR (enc:=fun z:Int=>[yc yd z]) (ok:=InK .i64) (h1:=fun _=>rfl) (h2:=fun _=>rfl) (k:=3) yk inf3 rfl dd dd dd (.c (x:=s.xa) rfl rfl (fun _ _=>by exact zq.2 om) (.c (x:=s.ya) rfl rfl (fun _ _=>by exact zq.2 om) (.c (x:=s.za) rfl rfl (fun _ _=>by exact zq.2 om) .n)))) (fun b14 _=> ?_)
    refine zia 0 rfl .z<|zU rfl rfl (.c rfl (.c rfl .n)) ce23 (zrb (p:=some ⟨b14,0,none⟩) (n:=3) (cap:=3) (l:=[s.xa,s.ya,s.za]) (m:=1048576) (hn:=cbd) (hm:=cbd)) (.c (j:=0) rfl .n)<|e_p (zKa rfl)<|zja rfl rfl (zka rfl) (fun h15=> ?_) (fun h15=> ?_)
    ·
     refine e_no<|e_no<|e_no<|e_no<|e_no<|e_no<|e_no<|e_no<|e_no<|e_no<|e_no<|e_no<|e_no<|e_no<|e_no<|e_p (zK rfl rfl)<|zk ?_
     exact zha () (show True from by first|trivial|omega|simp_all) ((.e rfl (congrArg Value.bool cbu) (.of rfl)):SubM _ _) (ho:=((.of [1,1,1] rfl):PickO _ _ _)) (.n:SelR _ _ _)
    ·
     refine e_p (zf yg rfl sz25 rfl rfl)<|e_p (zf yj rfl sz3 rfl rfl)<|e_ru (ze 1 ty3 rfl rfl rfl)<|e_p (zf yg rfl sz25 rfl rfl)<|e_p (zf yj rfl sz3 rfl rfl)<|e_ru (ze 1 ty3 rfl rfl rfl)<|e_p (zf yg rfl sz25 rfl rfl)<|e_p (zf yj rfl sz3 rfl rfl)<|e_ru (ze 1 ty3 rfl rfl rfl)<|e_p (zf yg rfl sz25 rfl rfl)<|e_p (zf yj rfl sz3 rfl rfl)<|e_ru (ze 1 ty3 rfl rfl rfl)<|zDa rfl rfl (zR (enc:=fun z:Int=>[yc yd z]) (ok:=InK .i64) (h1:=fun _=>rfl) (h2:=fun _=>rfl) (k:=4) yk inf3 rfl dd dd dd (.c (x:=s.qa) rfl rfl (fun _ _=>by exact zq.2 om) (.c (x:=s.qb) rfl rfl (fun _ _=>by exact zq.2 om) (.c (x:=s.qc) rfl rfl (fun _ _=>by exact zq.2 om) (.c (x:=s.qd) rfl rfl (fun _ _=>by exact zq.2 om) .n))))) (fun b16 _=> ?_)
     refine zia 0 rfl .z<|zU rfl rfl (.c rfl (.c rfl .n)) ce23 (zrb (p:=some ⟨b16,0,none⟩) (n:=4) (cap:=4) (l:=[s.qa,s.qb,s.qc,s.qd]) (m:=32768) (hn:=cbd) (hm:=cbd)) (.c (j:=0) rfl .n)<|e_p (zKa rfl)<|e_p (zK rfl rfl)<|zk ?_
     exact zha () (show True from by first|trivial|omega|simp_all) ((.e rfl (congrArg Value.bool cbu) (.of rfl)):SubM _ _) (ho:=((.of [2,2,2] rfl):PickO _ _ _)) (.n:SelR _ _ _)
   ·
    rintro ⟨⟩ -
    try dsimp only
    refine zT rfl (fun hA=> ?_) (fun hA=> ?_)
    ·
     have hbad:¬Sh.okA s:=fun k=>hA.elim (fun e=>e k.1) (fun e=>e k.2)
     refine zj<|zc<|e_p (zh rfl)<|zk<|zg<|zS<|zda<|zu<|zu<|zda<|zu ?_
     exact zM yL () trivial (zC rfl) (by rw [Sh.chk_2 h1 hbad]) (ho:=(.n:PickO _ _ _)) (.n:SelR _ _ _)
    ·
     have hokA:Sh.okA s:=⟨Decidable.not_not.1 (fun e=>hA (Or.inl e)),Decidable.not_not.1 (fun e=>hA (Or.inr e))⟩
     refine zw<|zI<|zg<|zc<|e_p (zH (z:=1) rfl rfl (w64 dd))<|e_mv rfl<|zk<|zea<|zV<|zj<|zc<|e_p (zO rfl rfl)<|zk<|zg<|zj<|zX rfl rfl<|zw<|zg<|zj<|zt<|zj<|zc<|e_p (zra (j:=1) yN sz27 rfl rfl rfl (by first|omega|(simp;done)))<|r_vl rfl rfl (zvb 1 1 rfl ty27 rfl rfl (gD (d:=ep0) (by first|omega|(simp;done)))) (fun _ hok17=> ?_)
     obtain ⟨hok170,hok171,hok172,hok173,hok174,hok175,hok176,hok177⟩:=hok17
     replace hok170:=zq.1 hok170
     replace hok171:=zq.1 hok171
     replace hok172:=zq.1 hok172
     replace hok173:=zq.1 hok173
     replace hok174:=zq.1 hok174
     replace hok175:=zq.1 hok175
     replace hok176:=zq.1 hok176
     replace hok177:=zq.1 hok177
     refine zE rfl rfl (zo zr27 rfl) (fun b18=> ?_)
     refine zl 0 rfl rfl rfl rfl rfl sz27 rfl (.t8 .nil) .z<|zk<|zg ?_
     have e19:((([(⟨s.ta,s.xa,s.ya,s.za,s.qa,s.qb,s.qc,s.qd⟩:Ep),(⟨s.tb,s.xb,s.yb,s.zb,s.ra,s.rb,s.rc,s.rd⟩:Ep)]).getD 1 ep0).tm:Int)=s.tb:=by rfl
     rw [e19]
     have e20:((([(⟨s.ta,s.xa,s.ya,s.za,s.qa,s.qb,s.qc,s.qd⟩:Ep),(⟨s.tb,s.xb,s.yb,s.zb,s.ra,s.rb,s.rc,s.rd⟩:Ep)]).getD 1 ep0).x:Int)=s.xb:=by rfl
     rw [e20]
     have e21:((([(⟨s.ta,s.xa,s.ya,s.za,s.qa,s.qb,s.qc,s.qd⟩:Ep),(⟨s.tb,s.xb,s.yb,s.zb,s.ra,s.rb,s.rc,s.rd⟩:Ep)]).getD 1 ep0).y:Int)=s.yb:=by rfl
     rw [e21]
     have e22:((([(⟨s.ta,s.xa,s.ya,s.za,s.qa,s.qb,s.qc,s.qd⟩:Ep),(⟨s.tb,s.xb,s.yb,s.zb,s.ra,s.rb,s.rc,s.rd⟩:Ep)]).getD 1 ep0).z:Int)=s.zb:=by rfl
     rw [e22]
     have e23:((([(⟨s.ta,s.xa,s.ya,s.za,s.qa,s.qb,s.qc,s.qd⟩:Ep),(⟨s.tb,s.xb,s.yb,s.zb,s.ra,s.rb,s.rc,s.rd⟩:Ep)]).getD 1 ep0).a:Int)=s.ra:=by rfl
     rw [e23]
     have e24:((([(⟨s.ta,s.xa,s.ya,s.za,s.qa,s.qb,s.qc,s.qd⟩:Ep),(⟨s.tb,s.xb,s.yb,s.zb,s.ra,s.rb,s.rc,s.rd⟩:Ep)]).getD 1 ep0).b:Int)=s.rb:=by rfl
     rw [e24]
     have e25:((([(⟨s.ta,s.xa,s.ya,s.za,s.qa,s.qb,s.qc,s.qd⟩:Ep),(⟨s.tb,s.xb,s.yb,s.zb,s.ra,s.rb,s.rc,s.rd⟩:Ep)]).getD 1 ep0).c:Int)=s.rc:=by rfl
     rw [e25]
     have e26:((([(⟨s.ta,s.xa,s.ya,s.za,s.qa,s.qb,s.qc,s.qd⟩:Ep),(⟨s.tb,s.xb,s.yb,s.zb,s.ra,s.rb,s.rc,s.rd⟩:Ep)]).getD 1 ep0).d:Int)=s.rd:=by rfl
     rw [e26]
     refine zAa (X:=Unit) (fun x=>True) (fun x=>[(67,.bool (decide ((¬(Sh.wi 1048576 ([s.xb,s.yb,s.zb])))∨(¬(Sh.wi 32768 ([s.ra,s.rb,s.rc,s.rd])))))),(6,ye (some ⟨b18,0,none⟩)),(38,.agg #[yc yd (s.tb),yc yd (s.xb),yc yd (s.yb),yc yd (s.zb),yc yd (s.ra),yc yd (s.rb),yc yd (s.rc),yc yd (s.rd)]),(37,rowPtr (some ⟨b3,0,none⟩) (1*8)),(36,.bool true),(35,yc yd 1),(68,yc yd 1),(34,yc yd 2),(33,.slice (some ⟨b3,0,none⟩) 2 2),(4,yc yd 0),(2,ye (some ⟨b1,0,none⟩)),(1,yc yd n)]) (fun x=>[boxA b18 27 [yc yd (s.tb),yc yd (s.xb),yc yd (s.yb),yc yd (s.zb),yc yd (s.ra),yc yd (s.rb),yc yd (s.rc),yc yd (s.rd)],boxA b5 27 [yc yd (s.ta),yc yd (s.xa),yc yd (s.ya),yc yd (s.za),yc yd (s.qa),yc yd (s.qb),yc yd (s.qc),yc yd (s.qd)],rowA 27 (rI8 .i64) (some ⟨b3,0,none⟩) 2 ([(⟨s.ta,s.xa,s.ya,s.za,s.qa,s.qb,s.qc,s.qd⟩:Ep),(⟨s.tb,s.xb,s.yb,s.zb,s.ra,s.rb,s.rc,s.rd⟩:Ep)]),boxA b1 29 (cS s)]) (fun x=>[]) ?_ ?_
     ·
      refine zc<|e_p (zf yg rfl sz23 rfl rfl)<|e_p (zf yr rfl sz3 rfl rfl)<|e_ru (ze 0 ty3 rfl rfl rfl)<|e_p (zf yg rfl sz23 rfl rfl)<|e_p (zf yr rfl sz3 rfl rfl)<|e_ru (ze 0 ty3 rfl rfl rfl)<|e_p (zf yg rfl sz23 rfl rfl)<|e_p (zf yr rfl sz3 rfl rfl)<|e_ru (ze 0 ty3 rfl rfl rfl)<|zDa rfl rfl (zR (enc:=fun z:Int=>[yc yd z]) (ok:=InK .i64) (h1:=fun _=>rfl) (h2:=fun _=>rfl) (k:=3) yk inf3 rfl dd dd dd (.c (x:=s.xb) rfl rfl (fun _ _=>by exact zq.2 om) (.c (x:=s.yb) rfl rfl (fun _ _=>by exact zq.2 om) (.c (x:=s.zb) rfl rfl (fun _ _=>by exact zq.2 om) .n)))) (fun b27 _=> ?_)
      refine zia 0 rfl .z<|zU rfl rfl (.c rfl (.c rfl .n)) ce23 (zrb (p:=some ⟨b27,0,none⟩) (n:=3) (cap:=3) (l:=[s.xb,s.yb,s.zb]) (m:=1048576) (hn:=cbd) (hm:=cbd)) (.c (j:=0) rfl .n)<|e_p (zKa rfl)<|zja rfl rfl (zka rfl) (fun h28=> ?_) (fun h28=> ?_)
      ·
       refine e_no<|e_no<|e_no<|e_no<|e_no<|e_no<|e_no<|e_no<|e_no<|e_no<|e_no<|e_no<|e_no<|e_no<|e_no<|e_p (zK rfl rfl)<|zk ?_
       exact zha () (show True from by first|trivial|omega|simp_all) ((.e rfl (congrArg Value.bool cbu) (.of rfl)):SubM _ _) (ho:=((.of [1,1,1,1] rfl):PickO _ _ _)) (.n:SelR _ _ _)
      ·
       refine e_p (zf yg rfl sz25 rfl rfl)<|e_p (zf yj rfl sz3 rfl rfl)<|e_ru (ze 1 ty3 rfl rfl rfl)<|e_p (zf yg rfl sz25 rfl rfl)<|e_p (zf yj rfl sz3 rfl rfl)<|e_ru (ze 1 ty3 rfl rfl rfl)<|e_p (zf yg rfl sz25 rfl rfl)<|e_p (zf yj rfl sz3 rfl rfl)<|e_ru (ze 1 ty3 rfl rfl rfl)<|e_p (zf yg rfl sz25 rfl rfl)<|e_p (zf yj rfl sz3 rfl rfl)<|e_ru (ze 1 ty3 rfl rfl rfl)<|zDa rfl rfl (zR (enc:=fun z:Int=>[yc yd z]) (ok:=InK .i64) (h1:=fun _=>rfl) (h2:=fun _=>rfl) (k:=4) yk inf3 rfl dd dd dd (.c (x:=s.ra) rfl rfl (fun _ _=>by exact zq.2 om) (.c (x:=s.rb) rfl rfl (fun _ _=>by exact zq.2 om) (.c (x:=s.rc) rfl rfl (fun _ _=>by exact zq.2 om) (.c (x:=s.rd) rfl rfl (fun _ _=>by exact zq.2 om) .n))))) (fun b29 _=> ?_)
       refine zia 0 rfl .z<|zU rfl rfl (.c rfl (.c rfl .n)) ce23 (zrb (p:=some ⟨b29,0,none⟩) (n:=4) (cap:=4) (l:=[s.ra,s.rb,s.rc,s.rd]) (m:=32768) (hn:=cbd) (hm:=cbd)) (.c (j:=0) rfl .n)<|e_p (zKa rfl)<|e_p (zK rfl rfl)<|zk ?_
       exact zha () (show True from by first|trivial|omega|simp_all) ((.e rfl (congrArg Value.bool cbu) (.of rfl)):SubM _ _) (ho:=((.of [2,2,2,2] rfl):PickO _ _ _)) (.n:SelR _ _ _)
     ·
      rintro ⟨⟩ -
      try dsimp only
      refine zT rfl (fun hA=> ?_) (fun hA=> ?_)
      ·
       have hbad:¬Sh.okB s:=fun k=>hA.elim (fun e=>e k.1) (fun e=>e k.2)
       refine zj<|zc<|e_p (zh rfl)<|zk<|zg<|zS<|zda<|zu<|zu<|zda<|zu ?_
       exact zM yL () trivial (zC rfl) (by rw [Sh.chk_3 h1 hokA hbad]) (ho:=(.n:PickO _ _ _)) (.n:SelR _ _ _)
      ·
       have hokB:Sh.okB s:=⟨Decidable.not_not.1 (fun e=>hA (Or.inl e)),Decidable.not_not.1 (fun e=>hA (Or.inr e))⟩
       refine zw<|zI<|zg<|zc<|e_p (zH (z:=2) rfl rfl (w64 dd))<|e_mv rfl<|zk<|zea<|zV<|zj<|zc<|e_p (zO rfl rfl)<|zk<|zg<|zj<|zta rfl rfl<|zla<|zn<|zn<|zA<|zg<|zj<|zAa (X:=Unit) (fun x=>True) (fun x=>[(89,.bool (decide (((s.qa=0∧s.qb=0∧s.qc=0∧s.qd=0)∨(s.ra=0∧s.rb=0∧s.rc=0∧s.rd=0))∨(s.tb≤s.ta)))),(4,yc yd 0),(2,ye (some ⟨b1,0,none⟩)),(1,yc yd n)]) (fun x=>[boxA b18 27 [yc yd (s.tb),yc yd (s.xb),yc yd (s.yb),yc yd (s.zb),yc yd (s.ra),yc yd (s.rb),yc yd (s.rc),yc yd (s.rd)],boxA b5 27 [yc yd (s.ta),yc yd (s.xa),yc yd (s.ya),yc yd (s.za),yc yd (s.qa),yc yd (s.qb),yc yd (s.qc),yc yd (s.qd)],rowA 27 (rI8 .i64) (some ⟨b3,0,none⟩) 2 ([(⟨s.ta,s.xa,s.ya,s.za,s.qa,s.qb,s.qc,s.qd⟩:Ep),(⟨s.tb,s.xb,s.yb,s.zb,s.ra,s.rb,s.rc,s.rd⟩:Ep)]),boxA b1 29 (cS s)]) (fun x=>[]) ?_ ?_
       ·
        refine zc<|e_p (zf yi rfl sz27 rfl rfl)<|e_p (zf yg rfl sz25 rfl rfl)<|e_ru (zd 3 ty25 rfl rfl (.s4 (.s2 (.t4 .nil))))<|e_p (zx zr25 rfl yj (.c sz3 (.c sz3 (.c sz3 (.c sz3 .n)))) .n .n)<|e_p (zkb (p:=s.qa=0∧s.qb=0∧s.qc=0∧s.qd=0) kr rfl rfl (zjb yj kr (zza dd ty3 rfl rfl (zya yq) (zza dd ty3 rfl rfl (zya yq) (zza dd ty3 rfl rfl (zya yq) (zza dd ty3 rfl rfl (zya yq) zQb))))) (by simp [Bool.decide_and]))<|zja rfl rfl (zka rfl) (fun h30=> ?_) (fun h30=> ?_)
        ·
         refine e_no<|e_no<|e_no<|e_no<|e_no<|e_p (zK rfl rfl)<|e_mv rfl<|e_no<|e_no<|e_no<|e_no<|e_no<|e_no<|e_no<|e_p (zK rfl rfl)<|zk ?_
         exact zha () (show True from by first|trivial|omega|simp_all) ((.e rfl (congrArg Value.bool cbu) (.of rfl)):SubM _ _) (ho:=((.of [0,0,0,0] rfl):PickO _ _ _)) (.n:SelR _ _ _)
        ·
         refine e_p (zf yi rfl sz27 rfl rfl)<|e_p (zf yg rfl sz25 rfl rfl)<|e_ru (zd 3 ty25 rfl rfl (.s8 (.s4 (.s2 (.t4 .nil)))))<|e_p (zx zr25 rfl yj (.c sz3 (.c sz3 (.c sz3 (.c sz3 .n)))) .n .n)<|e_p (zkb (p:=s.ra=0∧s.rb=0∧s.rc=0∧s.rd=0) kr rfl rfl (zjb yj kr (zza dd ty3 rfl rfl (zya yq) (zza dd ty3 rfl rfl (zya yq) (zza dd ty3 rfl rfl (zya yq) (zza dd ty3 rfl rfl (zya yq) zQb))))) (by simp [Bool.decide_and]))<|e_p (zK rfl rfl)<|zja rfl rfl (zka rfl) (fun h31=> ?_) (fun h31=> ?_)
         ·
          refine e_no<|e_no<|e_no<|e_no<|e_no<|e_no<|e_no<|e_p (zK rfl rfl)<|zk ?_
          exact zha () (show True from by first|trivial|omega|simp_all) ((.e rfl (congrArg Value.bool cbu) (.of rfl)):SubM _ _) (ho:=((.of [0,0,0,0] rfl):PickO _ _ _)) (.n:SelR _ _ _)
         ·
          refine e_p (zf yi rfl sz27 rfl rfl)<|e_p (zf yg rfl sz3 rfl rfl)<|e_ru (ze 3 ty3 rfl rfl rfl)<|e_p (zf yi rfl sz27 rfl rfl)<|e_p (zf yg rfl sz3 rfl rfl)<|e_ru (ze 3 ty3 rfl rfl rfl)<|e_p (zKb rfl rfl)<|e_p (zK rfl rfl)<|zk ?_
          exact zha () (show True from by first|trivial|omega|simp_all) ((.e rfl (congrArg Value.bool cbu) (.of rfl)):SubM _ _) (ho:=((.of [0,0,0,0] rfl):PickO _ _ _)) (.n:SelR _ _ _)
       ·
        rintro ⟨⟩ -
        try dsimp only
        refine zT rfl (fun h4=> ?_) (fun h4=> ?_)
        ·
         refine zj<|zc<|e_p (zh rfl)<|zk<|zg<|zS<|zu ?_
         exact zM yL () trivial (zC rfl) (by rw [Sh.chk_4 h1 hokA hokB (or_assoc.1 h4)]) (ho:=(.n:PickO _ _ _)) (.n:SelR _ _ _)
        ·
         have hok:Sh.Ok s:=Sh.ok_of (Decidable.not_not.1 fun e=>h1 (Or.inr (Or.inr e))) hokA hokB
         refine zw<|zg<|zj<|zj<|zc<|e_mv rfl<|e_mv rfl<|zk<|zg<|zt<|zBa (X:=Nat) (fun x:Nat=>x≤n.toNat∧∀j:Nat,j<x→¬Sh.z4 (yh s (j:Int))) (fun x=>[(91,yc yd ((x:Nat):Int)),(90,yc yd n),(2,ye (some ⟨b1,0,none⟩))]) (fun x=>[boxA b18 27 [yc yd (s.tb),yc yd (s.xb),yc yd (s.yb),yc yd (s.zb),yc yd (s.ra),yc yd (s.rb),yc yd (s.rc),yc yd (s.rd)],boxA b5 27 [yc yd (s.ta),yc yd (s.xa),yc yd (s.ya),yc yd (s.za),yc yd (s.qa),yc yd (s.qb),yc yd (s.qc),yc yd (s.qd)],rowA 27 (rI8 .i64) (some ⟨b3,0,none⟩) 2 ([(⟨s.ta,s.xa,s.ya,s.za,s.qa,s.qb,s.qc,s.qd⟩:Ep),(⟨s.tb,s.xb,s.yb,s.zb,s.ra,s.rb,s.rc,s.rd⟩:Ep)]),boxA b1 29 (cS s)]) (fun x=>[]) (fun x:Nat=>n.toNat - x) 0 (show 0≤n.toNat∧∀j:Nat,j<0→¬Sh.z4 (yh s (j:Int)) from by exact ⟨Nat.zero_le _,fun j h=>by omega⟩) ((.e rfl (by first|rfl|(congr 1;omega)|simp_all) (.c rfl (.c rfl .n))):SubM _ _) (ho:=((.of [0,0,0,0] rfl):PickO _ _ _)) (.n:SelR _ _ _) ?_
         rintro r hI
         replace hI:r≤n.toNat∧∀j:Nat,j<r→¬Sh.z4 (yh s (j:Int)):=hI
         try dsimp only
         obtain ⟨hr,hall⟩:=hI
         refine zj<|zc<|e_p (zO rfl rfl)<|zk<|zg<|zj<|zT rfl (fun h32=> ?_) (fun h32=> ?_)
         ·
          refine zw<|zg<|zj<|zt<|zj<|zc<|e_mv rfl<|e_p (zh rfl)<|zk<|zg<|zj<|zc<|e_ru (zd 3 ty29 rfl rfl (.t8 (.t8 (.t2 .nil))))<|e_mv rfl<|zU rfl rfl (.c rfl (.c rfl .n)) ce33 (zOe (s:=s) (r:=((r:Nat):Int)) (hok:=cbd) (hr:=cbd)) (.n)<|e_p (zx zr25 rfl yj (.c sz3 (.c sz3 (.c sz3 (.c sz3 .n)))) .n .n)<|e_p (zkb (p:=(yh s ((r:Nat):Int)).1=0∧(yh s ((r:Nat):Int)).2.1=0∧(yh s ((r:Nat):Int)).2.2.1=0∧(yh s ((r:Nat):Int)).2.2.2=0) kr rfl rfl (zjb yj kr (zza dd ty3 rfl rfl (zya yq) (zza dd ty3 rfl rfl (zya yq) (zza dd ty3 rfl rfl (zya yq) (zza dd ty3 rfl rfl (zya yq) zQb))))) (by simp [Bool.decide_and]))<|zk<|zg<|zT rfl (fun hz4=> ?_) (fun hz4=> ?_)
          ·
           refine zj<|zc<|e_p (zh rfl)<|zk<|zg<|zS<|zda<|zu<|zu<|zda<|zu ?_
           exact zM yL () trivial (zC rfl) (by rw [Sh.chk_5 h1 hokA hokB (fun k=>h4 (or_assoc.2 k)) ⟨r,by omega,hz4⟩]) (ho:=(.n:PickO _ _ _)) (.n:SelR _ _ _)
          ·
           refine zw<|zI<|zg<|zc<|e_p (zH (z:=(((r+1):Nat):Int)) rfl rfl (w64 om))<|e_mv rfl<|zk<|zwa (r+1) (show (r+1)≤n.toNat∧∀j:Nat,j<(r+1)→¬Sh.z4 (yh s (j:Int)) from by refine ⟨by omega,fun j hj=> ?_⟩;by_cases e:j=r;(subst e;exact hz4);exact hall j om) (by show n.toNat - (r+1)<n.toNat - r;omega) ((.of rfl):SubM _ _) (ho:=((.of [0,0,0,0] rfl):PickO _ _ _)) (.n:SelR _ _ _)
         ·
          refine zla<|zn<|zn<|zA<|zg<|zj<|zc<|e_p (zh rfl)<|zk<|zg<|zS ?_
          exact zM yL () trivial (zC rfl) (by rw [Sh.chk_6 h1 hokA hokB (fun k=>h4 (or_assoc.2 k)) (fun ⟨j,hj,k⟩=>hall j om k)]) (ho:=(.n:PickO _ _ _)) (.n:SelR _ _ _)
theorem zUd {s:Sh.S} {r:Int} (hok:Sh.Ok s) (hr:0≤r∧r≤64) (hlt:s.ta<s.tb):Con yC 51 [.agg #[yc yd (s.fi),yc yd (s.st),yc yd (s.ta),yc yd (s.xa),yc yd (s.ya),yc yd (s.za),yc yd (s.qa),yc yd (s.qb),yc yd (s.qc),yc yd (s.qd),yc yd (s.tb),yc yd (s.xb),yc yd (s.yb),yc yd (s.zb),yc yd (s.ra),yc yd (s.rb),yc yd (s.rc),yc yd (s.rd)],yc yd r] [] [] (Y:=Wd×Wd×Wd×Wd×Wd×Wd) (fun y=>True) (fun y=> .agg #[y.1.b,y.1.l,y.2.1.b,y.2.1.l,y.2.2.1.b,y.2.2.1.l,y.2.2.2.1.b,y.2.2.2.1.l,y.2.2.2.2.1.b,y.2.2.2.2.1.l,y.2.2.2.2.2.b,y.2.2.2.2.2.l]) (fun y=>[]) (fun y=>[qF true y.1 y.2.1 ((yx s r).1),qF true y.2.2.1 y.2.2.2.1 ((yx s r).2.1),qF true y.2.2.2.2.1 y.2.2.2.2.2 ((yx s r).2.2)]):=by
 refine zv Tryz.func51 rfl rfl rfl (fun c=> ?_)
 show RunC _ _ _ _ _ [(0,.agg #[yc yd (s.fi),yc yd (s.st),yc yd (s.ta),yc yd (s.xa),yc yd (s.ya),yc yd (s.za),yc yd (s.qa),yc yd (s.qb),yc yd (s.qc),yc yd (s.qd),yc yd (s.tb),yc yd (s.xb),yc yd (s.yb),yc yd (s.zb),yc yd (s.ra),yc yd (s.rb),yc yd (s.rc),yc yd (s.rd)]),(1,yc yd r)] [] []
 have hn:=hok.n
 have hpa:=hok.pa
 have hpb:=hok.pb
 have hqa:=hok.qa
 have hqb:=hok.qb
 have htm:=Sh.tm_b hok hr
 have hrs: -(64*1073741824)≤r*s.st∧r*s.st≤64*1073741824:=by have h8:=htm;unfold Sh.tm at h8;have h9:=Sh.mul_b (x:=r) (y:=s.st) (m:=64) (n:=1073741824) om om;omega
 have hfq:=Sh.frc_hq hok hr
 refine zj<|zc<|zE rfl rfl (zZ rfl rfl) (fun b1=> ?_)
 refine zE rfl rfl (zo zr54 rfl) (fun b2=> ?_)
 refine zk<|zg<|zj<|zc<|e_p (zf yi rfl sz3 rfl rfl)<|e_ru (ze 1 ty3 rfl rfl rfl)<|e_mv rfl<|e_p (zf yi rfl sz3 rfl rfl)<|e_ru (ze 1 ty3 rfl rfl rfl)<|e_p (zJa (z:=(r*s.st)) rfl rfl (w64 om))<|e_p (zH (z:=(s.fi+(r*s.st))) rfl rfl (w64 om))<|e_p (zf yi rfl sz27 rfl rfl)<|e_p (zf yg rfl sz3 rfl rfl)<|e_ru (ze 1 ty3 rfl rfl rfl)<|e_p (zna (z:=((s.fi+(r*s.st)) - s.ta)) rfl rfl (w64 om))<|e_p (zf yi rfl sz27 rfl rfl)<|e_p (zf yg rfl sz3 rfl rfl)<|e_ru (ze 1 ty3 rfl rfl rfl)<|e_p (zf yi rfl sz27 rfl rfl)<|e_p (zf yg rfl sz3 rfl rfl)<|e_ru (ze 1 ty3 rfl rfl rfl)<|e_p (zna (z:=(s.tb - s.ta)) rfl rfl (w64 om))<|zG rfl rfl (.c rfl (.c rfl .n)) ce41 (zFd (z1:=((s.fi+(r*s.st)) - s.ta)) (z2:=(s.tb - s.ta)) (hz1:=yG) (hz2:=yG) (hy:=yG)) (.n) ?_
 rintro ⟨w33,w44⟩ -
 dsimp only [aq,nq,cq]
 refine e_mv rfl<|e_p (zy rfl rfl)<|e_p (zy rfl rfl)<|zE rfl rfl (zo zr44 rfl) (fun b5=> ?_)
 refine zl 0 rfl rfl rfl rfl rfl sz44 rfl (.t4 .nil) .z<|e_p (zh rfl)<|zk<|zg<|zj ?_
 have e6:s.fi+(r*s.st)=Sh.tm s r:=by rfl
 rw [e6]
 have e7:(Rat.divInt ((Sh.tm s r) - s.ta) (s.tb - s.ta):Rat)=yS s r:=by rfl
 rw [e7]
 refine zc<|e_p (zsa zr54 rfl yf sz44 .n .n)<|zE rfl rfl (zo zr54 rfl) (fun b8=> ?_)
 refine zl 0 rfl rfl rfl rfl rfl sz54 rfl (.t8 (.t4 .nil)) .z<|zk<|zg<|zj<|zP (OW:=[]) (O:=[boxA b8 54 (cw [wz,wz,wz,wz,wz,wz]),boxA b5 44 (cw [w33,w44]),boxA b2 54 (cw [wz,wz,wz,wz,wz,wz]),boxA b1 29 (cS s)]) 28 mixed (.then .ret) kr<|e_pv 0 rfl rfl (zf yi rfl sz27 rfl rfl)<|e_pv 1 rfl rfl (zf yg rfl sz23 rfl rfl)<|e_pv 2 rfl rfl (zf yr rfl sz3 rfl rfl)<|e_u 3 rfl rfl (ze 3 ty3 rfl rfl rfl)<|e_pv 4 rfl rfl (zf yi rfl sz27 rfl rfl)<|e_pv 5 rfl rfl (zf yg rfl sz23 rfl rfl)<|e_pv 6 rfl rfl (zf yr rfl sz3 rfl rfl)<|e_u 7 rfl rfl (ze 3 ty3 rfl rfl rfl)<|e_pv 8 rfl rfl (zf yi rfl sz27 rfl rfl)<|e_pv 9 rfl rfl (zf yg rfl sz23 rfl rfl)<|e_pv 10 rfl rfl (zf yr rfl sz3 rfl rfl)<|e_u 11 rfl rfl (ze 3 ty3 rfl rfl rfl)<|e_pv 12 rfl rfl (zsa zr123 rfl yu sz3 (.c rfl (.c rfl (.c rfl .n))) (.c rfl rfl rfl (.take .nil) (.c rfl rfl rfl (.skip (.take .nil)) (.c rfl rfl rfl (.s2 (.take .nil)) .n))))<|e_pv 13 rfl rfl (zf yi rfl sz27 rfl rfl)<|e_pv 14 rfl rfl (zf yg rfl sz23 rfl rfl)<|e_pv 15 rfl rfl (zf yr rfl sz3 rfl rfl)<|e_u 16 rfl rfl (ze 3 ty3 rfl rfl rfl)<|e_pv 17 rfl rfl (zf yi rfl sz27 rfl rfl)<|e_pv 18 rfl rfl (zf yg rfl sz23 rfl rfl)<|e_pv 19 rfl rfl (zf yr rfl sz3 rfl rfl)<|e_u 20 rfl rfl (ze 3 ty3 rfl rfl rfl)<|e_pv 21 rfl rfl (zf yi rfl sz27 rfl rfl)<|e_pv 22 rfl rfl (zf yg rfl sz23 rfl rfl)<|e_pv 23 rfl rfl (zf yr rfl sz3 rfl rfl)<|e_u 24 rfl rfl (ze 3 ty3 rfl rfl rfl)<|e_pv 25 rfl rfl (zsa zr123 rfl yu sz3 (.c rfl (.c rfl (.c rfl .n))) (.c rfl rfl rfl (.take .nil) (.c rfl rfl rfl (.skip (.take .nil)) (.c rfl rfl rfl (.s2 (.take .nil)) .n))))<|zLb (m':=[(59,.agg #[yc yd (s.xb),yc yd (s.yb),yc yd (s.zb)]),(46,.agg #[yc yd (s.xa),yc yd (s.ya),yc yd (s.za)]),(7,ye (some ⟨b8,0,none⟩)),(5,ye (some ⟨b5,0,none⟩)),(4,ye (some ⟨b2,0,none⟩))]) (R':=[qF true w33 w44 (yS s r)]) ((.of rfl):SubM _ _) (List.Perm.refl _) (List.Perm.refl _) ((.c (j:=0) rfl .n):SelR _ _ _)<|zga (X:=Nat×Nat) (k':=0) (L':=(lb 30 1073741823)) (fun (u26_1,u27_1)=>([(9,ye (some ⟨u27_1,0,none⟩)),(8,ye (some ⟨u26_1,0,none⟩)),(7,ye (some ⟨b8,0,none⟩)),(5,ye (some ⟨b5,0,none⟩)),(4,ye (some ⟨b2,0,none⟩))],[boxA u27_1 123 [yc yd (s.xb),yc yd (s.yb),yc yd (s.zb)],boxA u26_1 123 [yc yd (s.xa),yc yd (s.ya),yc yd (s.za)]],[boxA b8 54 (cw [wz,wz,wz,wz,wz,wz]),boxA b5 44 (cw [w33,w44]),boxA b2 54 (cw [wz,wz,wz,wz,wz,wz]),boxA b1 29 (cS s)],[qF true w33 w44 (yS s r)])) ?_ (fun hD0=> ?_)
 ·
  rintro ⟨u26_1,u27_1⟩
  dsimp only [cw,cS]
  refine zN kr<|zg<|zj<|zj<|zc<|e_mv rfl<|zk<|zg<|zt<|zMa<|zV<|zj<|zc<|e_p (zO rfl rfl)<|zk<|zg<|zj<|zX rfl rfl<|zw<|zg<|zj<|zt<|zj<|zc<|e_mv rfl<|e_p (zh rfl)<|zk<|zg<|zaa (.c (i:=2) rfl (.c (i:=0) rfl (.c (i:=0) rfl (.c (i:=0) rfl (.c (i:=0) rfl .n)))))<|zP (OW:=[boxA b8 54 (cw [wz,wz,wz,wz,wz,wz])]) (O:=[boxA u27_1 123 [yc yd (s.xb),yc yd (s.yb),yc yd (s.zb)],boxA u26_1 123 [yc yd (s.xa),yc yd (s.ya),yc yd (s.za)],boxA b5 44 (cw [w33,w44]),boxA b2 54 (cw [wz,wz,wz,wz,wz,wz])]) 17 mixed (.block (.then (.then (.block (.then .ret))))) kr<|e_dm 0 rfl rfl rfl<|e_dm 1 rfl rfl rfl<|e_pv 2 rfl rfl (zi (i:=0) yu sz3 rfl rfl dd rfl)<|e_uw 3 rfl rfl (ze 2 ty3 rfl rfl rfl)<|e_uw 5 rfl rfl (zd 3 ty44 rfl rfl (.t4 .nil))<|e_dm 6 rfl rfl rfl<|e_pv 7 rfl rfl (zi (i:=0) yu sz3 rfl rfl dd rfl)<|e_uw 8 rfl rfl (ze 1 ty3 rfl rfl rfl)<|e_dm 9 rfl rfl rfl<|e_pv 10 rfl rfl (zi (i:=0) yu sz3 rfl rfl dd rfl)<|e_uw 11 rfl rfl (ze 2 ty3 rfl rfl rfl)<|e_pv 12 rfl rfl (zna (z:=(s.xb - s.xa)) rfl rfl (w64 om))<|e_one 4 (zm rfl rfl rfl rfl (.c rfl .n) ce22 (zva (z:=s.xa) (hz:=yG)) (.n) ?_)
  rintro ⟨w39,w410⟩ -
  dsimp only [aq,nq,cq]
  refine e_one 13 (zm rfl rfl rfl rfl (.c rfl .n) ce22 (zva (z:=(s.xb - s.xa)) (hz:=yG)) (.n) ?_)
  rintro ⟨w311,w412⟩ -
  dsimp only [aq,nq,cq]
  refine e_one 14 (zm rfl rfl rfl rfl (.c rfl (.c rfl .n)) ce54 (zXa (k1:=true) (u1:=w33) (v1:=w44) (q1:=yS s r) (k2:=true) (u2:=w311) (v2:=w412) (q2:=(((s.xb - s.xa):Int):Rat)) (hl:=yG)) (.c (j:=2) rfl (.c (j:=0) rfl .n)) ?_)
  rintro ⟨w313,w414⟩ -
  dsimp only [aq,nq,cq]
  refine e_one 15 (zm rfl rfl rfl rfl (.c rfl (.c rfl .n)) ce25 (zNa (k1:=true) (u1:=w39) (v1:=w410) (q1:=((s.xa:Int):Rat)) (k2:=true) (u2:=w313) (v2:=w414) (q2:=(yS s r)*(((s.xb - s.xa):Int):Rat)) (hl:=yG)) (.c (j:=2) rfl (.c (j:=0) rfl .n)) ?_)
  rintro ⟨w315,w416⟩ -
  dsimp only [aq,nq,cq]
  refine e_pv 16 rfl rfl (zi (i:=0) yf sz44 rfl rfl dd rfl)<|e_one 17 (zp kr rfl rfl rfl rfl rfl sz44 rfl (.t4 .nil) ?_)
  refine zN kr<|zI<|zg<|zc<|e_p (zH (z:=1) rfl rfl (w64 dd))<|e_mv rfl<|zk<|zea<|zV<|zj<|zc<|e_p (zO rfl rfl)<|zk<|zg<|zj<|zX rfl rfl<|zw<|zg<|zj<|zt<|zj<|zc<|e_mv rfl<|e_p (zh rfl)<|zk<|zg<|zP (OW:=[boxA b8 54 (cw [w315,w416,wz,wz,wz,wz])]) (O:=[boxA u27_1 123 [yc yd (s.xb),yc yd (s.yb),yc yd (s.zb)],boxA u26_1 123 [yc yd (s.xa),yc yd (s.ya),yc yd (s.za)],boxA b5 44 (cw [w33,w44]),boxA b2 54 (cw [wz,wz,wz,wz,wz,wz])]) 17 mixed (.block (.then (.then (.block (.then .ret))))) kr<|e_dm 0 rfl rfl rfl<|e_dm 1 rfl rfl rfl<|e_pv 2 rfl rfl (zi (i:=1) yu sz3 rfl rfl dd rfl)<|e_uw 3 rfl rfl (ze 2 ty3 rfl rfl rfl)<|e_uw 5 rfl rfl (zd 3 ty44 rfl rfl (.t4 .nil))<|e_dm 6 rfl rfl rfl<|e_pv 7 rfl rfl (zi (i:=1) yu sz3 rfl rfl dd rfl)<|e_uw 8 rfl rfl (ze 1 ty3 rfl rfl rfl)<|e_dm 9 rfl rfl rfl<|e_pv 10 rfl rfl (zi (i:=1) yu sz3 rfl rfl dd rfl)<|e_uw 11 rfl rfl (ze 2 ty3 rfl rfl rfl)<|e_pv 12 rfl rfl (zna (z:=(s.yb - s.ya)) rfl rfl (w64 om))<|e_one 4 (zm rfl rfl rfl rfl (.c rfl .n) ce22 (zva (z:=s.ya) (hz:=yG)) (.n) ?_)
  rintro ⟨w317,w418⟩ -
  dsimp only [aq,nq,cq]
  refine e_one 13 (zm rfl rfl rfl rfl (.c rfl .n) ce22 (zva (z:=(s.yb - s.ya)) (hz:=yG)) (.n) ?_)
  rintro ⟨w319,w420⟩ -
  dsimp only [aq,nq,cq]
  refine e_one 14 (zm rfl rfl rfl rfl (.c rfl (.c rfl .n)) ce54 (zXa (k1:=true) (u1:=w33) (v1:=w44) (q1:=yS s r) (k2:=true) (u2:=w319) (v2:=w420) (q2:=(((s.yb - s.ya):Int):Rat)) (hl:=yG)) (.c (j:=6) rfl (.c (j:=0) rfl .n)) ?_)
  rintro ⟨w321,w422⟩ -
  dsimp only [aq,nq,cq]
  refine e_one 15 (zm rfl rfl rfl rfl (.c rfl (.c rfl .n)) ce25 (zNa (k1:=true) (u1:=w317) (v1:=w418) (q1:=((s.ya:Int):Rat)) (k2:=true) (u2:=w321) (v2:=w422) (q2:=(yS s r)*(((s.yb - s.ya):Int):Rat)) (hl:=yG)) (.c (j:=2) rfl (.c (j:=0) rfl .n)) ?_)
  rintro ⟨w323,w424⟩ -
  dsimp only [aq,nq,cq]
  refine e_pv 16 rfl rfl (zi (i:=1) yf sz44 rfl rfl dd rfl)<|e_one 17 (zp kr rfl rfl rfl rfl rfl sz44 rfl (.s4 (.t4 .nil)) ?_)
  refine zN kr<|zI<|zg<|zc<|e_p (zH (z:=2) rfl rfl (w64 dd))<|e_mv rfl<|zk<|zea<|zV<|zj<|zc<|e_p (zO rfl rfl)<|zk<|zg<|zj<|zX rfl rfl<|zw<|zg<|zj<|zt<|zj<|zc<|e_mv rfl<|e_p (zh rfl)<|zk<|zg<|zP (OW:=[boxA b8 54 (cw [w315,w416,w323,w424,wz,wz])]) (O:=[boxA u27_1 123 [yc yd (s.xb),yc yd (s.yb),yc yd (s.zb)],boxA u26_1 123 [yc yd (s.xa),yc yd (s.ya),yc yd (s.za)],boxA b5 44 (cw [w33,w44]),boxA b2 54 (cw [wz,wz,wz,wz,wz,wz])]) 17 mixed (.block (.then (.then (.block (.then .ret))))) kr<|e_dm 0 rfl rfl rfl<|e_dm 1 rfl rfl rfl<|e_pv 2 rfl rfl (zi (i:=2) yu sz3 rfl rfl dd rfl)<|e_uw 3 rfl rfl (ze 2 ty3 rfl rfl rfl)<|e_uw 5 rfl rfl (zd 3 ty44 rfl rfl (.t4 .nil))<|e_dm 6 rfl rfl rfl<|e_pv 7 rfl rfl (zi (i:=2) yu sz3 rfl rfl dd rfl)<|e_uw 8 rfl rfl (ze 1 ty3 rfl rfl rfl)<|e_dm 9 rfl rfl rfl<|e_pv 10 rfl rfl (zi (i:=2) yu sz3 rfl rfl dd rfl)<|e_uw 11 rfl rfl (ze 2 ty3 rfl rfl rfl)<|e_pv 12 rfl rfl (zna (z:=(s.zb - s.za)) rfl rfl (w64 om))<|e_one 4 (zm rfl rfl rfl rfl (.c rfl .n) ce22 (zva (z:=s.za) (hz:=yG)) (.n) ?_)
  rintro ⟨w325,w426⟩ -
  dsimp only [aq,nq,cq]
  refine e_one 13 (zm rfl rfl rfl rfl (.c rfl .n) ce22 (zva (z:=(s.zb - s.za)) (hz:=yG)) (.n) ?_)
  rintro ⟨w327,w428⟩ -
  dsimp only [aq,nq,cq]
  refine e_one 14 (zm rfl rfl rfl rfl (.c rfl (.c rfl .n)) ce54 (zXa (k1:=true) (u1:=w33) (v1:=w44) (q1:=yS s r) (k2:=true) (u2:=w327) (v2:=w428) (q2:=(((s.zb - s.za):Int):Rat)) (hl:=yG)) (.c (j:=10) rfl (.c (j:=0) rfl .n)) ?_)
  rintro ⟨w329,w430⟩ -
  dsimp only [aq,nq,cq]
  refine e_one 15 (zm rfl rfl rfl rfl (.c rfl (.c rfl .n)) ce25 (zNa (k1:=true) (u1:=w325) (v1:=w426) (q1:=((s.za:Int):Rat)) (k2:=true) (u2:=w329) (v2:=w430) (q2:=(yS s r)*(((s.zb - s.za):Int):Rat)) (hl:=yG)) (.c (j:=2) rfl (.c (j:=0) rfl .n)) ?_)
  rintro ⟨w331,w432⟩ -
  dsimp only [aq,nq,cq]
  refine e_pv 16 rfl rfl (zi (i:=2) yf sz44 rfl rfl dd rfl)<|e_one 17 (zp kr rfl rfl rfl rfl rfl sz44 rfl (.s8 (.t4 .nil)) ?_)
  refine zN kr<|zI<|zg<|zc<|e_p (zH (z:=3) rfl rfl (w64 dd))<|e_mv rfl<|zk<|zea<|zV<|zj<|zc<|e_p (zO rfl rfl)<|zk<|zg<|zj<|zta rfl rfl<|zla<|zn<|zn<|zA<|zg<|zj<|zc<|e_ru (zd 0 ty54 rfl rfl (.t8 (.t4 .nil)))<|zl 4 rfl rfl rfl rfl rfl sz54 rfl (.t8 (.t4 .nil)) (.s (.s (.s (.s .z))))<|zk<|zg<|zS ?_
  exact zM Tryz.results51 (w315,w416,w323,w424,w331,w432) trivial (zr 4 ty54 rfl rfl (.t8 (.t4 .nil))) rfl (ho:=(.n:PickO _ _ _)) ((.of [8,4,0] rfl):SelR _ _ _)
 refine zga (X:=Nat×Nat) (k':=1) (L':=(lb 30 536870911)) (fun (u26_1,u27_1)=>([(9,ye (some ⟨u27_1,0,none⟩)),(8,ye (some ⟨u26_1,0,none⟩)),(59,.agg #[yc yd (s.xb),yc yd (s.yb),yc yd (s.zb)]),(7,ye (some ⟨b8,0,none⟩)),(5,ye (some ⟨b5,0,none⟩)),(4,ye (some ⟨b2,0,none⟩))],[boxA u26_1 123 [yc yd (s.xa),yc yd (s.ya),yc yd (s.za)],boxA u27_1 123 [yc yd 0,yc yd 0,yc yd 0]],[boxA b8 54 (cw [wz,wz,wz,wz,wz,wz]),boxA b5 44 (cw [w33,w44]),boxA b2 54 (cw [wz,wz,wz,wz,wz,wz]),boxA b1 29 (cS s)],[qF true w33 w44 (yS s r)])) ?_ (fun hD1=> ?_)
 ·
  rintro ⟨u26_1,u27_1⟩
  dsimp only [cw,cS]
  refine zFa 29 kr ?_
  ·
   refine zHc (zoa (i:=1) rfl)<|zp kr rfl rfl rfl rfl rfl sz123 rfl (.t2 (.take .nil)) ?_
   exact zJ (hD0 (u26_1,u27_1)) kr ((.of rfl):SubM _ _) .rfl .rfl ((.c (j:=0) rfl .n):SelR _ _ _)
 refine zga (X:=Nat×Nat) (k':=2) (L':=(lb 30 268435455)) (fun (u26_1,u27_1)=>([(9,ye (some ⟨u27_1,0,none⟩)),(8,ye (some ⟨u26_1,0,none⟩)),(59,.agg #[yc yd (s.xb),yc yd (s.yb),yc yd (s.zb)]),(46,.agg #[yc yd (s.xa),yc yd (s.ya),yc yd (s.za)]),(7,ye (some ⟨b8,0,none⟩)),(5,ye (some ⟨b5,0,none⟩)),(4,ye (some ⟨b2,0,none⟩))],[boxA u27_1 123 [yc yd 0,yc yd 0,yc yd 0],boxA u26_1 123 [yc yd 0,yc yd 0,yc yd 0]],[boxA b8 54 (cw [wz,wz,wz,wz,wz,wz]),boxA b5 44 (cw [w33,w44]),boxA b2 54 (cw [wz,wz,wz,wz,wz,wz]),boxA b1 29 (cS s)],[qF true w33 w44 (yS s r)])) ?_ (fun hD2=> ?_)
 ·
  rintro ⟨u26_1,u27_1⟩
  dsimp only [cw,cS]
  refine zFa 28 kr ?_
  ·
   refine zHc (zoa (i:=1) rfl)<|zp kr rfl rfl rfl rfl rfl sz123 rfl (.t2 (.take .nil)) ?_
   exact zJ (hD1 (u26_1,u27_1)) kr ((.of rfl):SubM _ _) .rfl .rfl ((.c (j:=0) rfl .n):SelR _ _ _)
 refine zga (X:=Nat) (k':=3) (L':=(lb 30 134217727)) (fun u26_1=>([(8,ye (some ⟨u26_1,0,none⟩)),(59,.agg #[yc yd (s.xb),yc yd (s.yb),yc yd (s.zb)]),(46,.agg #[yc yd (s.xa),yc yd (s.ya),yc yd (s.za)]),(7,ye (some ⟨b8,0,none⟩)),(5,ye (some ⟨b5,0,none⟩)),(4,ye (some ⟨b2,0,none⟩))],[boxA u26_1 123 [yc yd 0,yc yd 0,yc yd 0]],[boxA b8 54 (cw [wz,wz,wz,wz,wz,wz]),boxA b5 44 (cw [w33,w44]),boxA b2 54 (cw [wz,wz,wz,wz,wz,wz]),boxA b1 29 (cS s)],[qF true w33 w44 (yS s r)])) ?_ (fun hD3=> ?_)
 ·
  rintro u26_1
  dsimp only [cw,cS]
  refine zFa 27 kr ?_
  ·
   refine zua rfl rfl rfl rfl (zo zr123 rfl) (fun u27_1 _=> ?_)
   exact zJ (hD2 (u26_1,u27_1)) kr ((.of rfl):SubM _ _) .rfl .rfl ((.c (j:=0) rfl .n):SelR _ _ _)
 refine zga (X:=Nat) (k':=3) (L':=(lb 30 201326591)) (fun u27_1=>([(9,ye (some ⟨u27_1,0,none⟩)),(59,.agg #[yc yd (s.xb),yc yd (s.yb),yc yd (s.zb)]),(46,.agg #[yc yd (s.xa),yc yd (s.ya),yc yd (s.za)]),(7,ye (some ⟨b8,0,none⟩)),(5,ye (some ⟨b5,0,none⟩)),(4,ye (some ⟨b2,0,none⟩))],[boxA u27_1 123 [yc yd 0,yc yd 0,yc yd 0]],[boxA b8 54 (cw [wz,wz,wz,wz,wz,wz]),boxA b5 44 (cw [w33,w44]),boxA b2 54 (cw [wz,wz,wz,wz,wz,wz]),boxA b1 29 (cS s)],[qF true w33 w44 (yS s r)])) ?_ (fun hD4=> ?_)
 ·
  rintro u27_1
  dsimp only [cw,cS]
  refine zFa 26 kr ?_
  ·
   refine zua rfl rfl rfl rfl (zo zr123 rfl) (fun u26_1 _=> ?_)
   exact zJ (hD2 (u26_1,u27_1)) kr ((.of rfl):SubM _ _) (zjc 1 rfl (zjc 0 rfl .nil)) .rfl ((.c (j:=0) rfl .n):SelR _ _ _)
 refine zib 26 27 kr ?_ ?_
 ·
  refine zua rfl rfl rfl rfl (zo zr123 rfl) (fun u26_1 _=> ?_)
  exact zJ (hD3 u26_1) kr ((.of rfl):SubM _ _) .rfl .rfl ((.c (j:=0) rfl .n):SelR _ _ _)
 ·
  refine zua rfl rfl rfl rfl (zo zr123 rfl) (fun u27_1 _=> ?_)
  exact zJ (hD4 u27_1) kr ((.of rfl):SubM _ _) .rfl .rfl ((.c (j:=0) rfl .n):SelR _ _ _)
end Go.Proofs.YtjeahiahjgifgaaGreatDoor.Sp
namespace Go.Proofs.YtjeahiahjgifgaaGreatDoor.Sp
open Go
set_option linter.unusedVariables false
set_option maxRecDepth 100000
set_option maxHeartbeats 8000000
theorem zAe {cm:Sh.C} {p1:Option Addr} {n1:Nat} {c1:Nat} {lr:List Int} {p2:Option Addr} {n2:Nat} {c2:Nat} {ll:List Int} (h64fo: -9223372036854775808≤cm.fo∧cm.fo≤9223372036854775807) (h64cx: -9223372036854775808≤cm.cx∧cm.cx≤9223372036854775807) (h64cy: -9223372036854775808≤cm.cy∧cm.cy≤9223372036854775807) (hn1:lr.length=n1) (hn2:ll.length=n2):Con yC 15 [.agg #[yc yd (cm.fo),yc yd (cm.cx),yc yd (cm.cy)],.slice p1 n1 c1,.slice p2 n2 c2] [] [slF (rI .i64) p1 c1 lr,slF (rI .i64) p2 c2 ll] (Y:=Unit) (fun y=>True) (fun y=> .bool (decide (Sh.lcam cm lr ll))) (fun y=>[]) (fun y=>[]):=by
 refine zv Tryz.func15 rfl rfl rfl (fun c=> ?_)
 show RunC _ _ _ _ _ [(0,.agg #[yc yd (cm.fo),yc yd (cm.cx),yc yd (cm.cy)]),(1,.slice p1 n1 c1),(2,.slice p2 n2 c2)] [] [slF (rI .i64) p1 c1 lr,slF (rI .i64) p2 c2 ll]
 refine zqa 0 rfl (fun hL0=> ?_)
 refine zqa 1 rfl (fun hL1=> ?_)
 refine zj<|zc<|zE rfl rfl (zZ rfl rfl) (fun b1=> ?_)
 refine e_p (zh rfl)<|zk<|zg<|zj<|zj<|zc<|e_mv rfl<|e_p (zfa yk rfl)<|e_mv rfl<|zk<|zg<|zt<|zBa (X:=Nat) (fun x:Nat=>x≤n1∧∀j,j<x→0≤lr.getD j 0∧lr.getD j 0<64) (fun x=>[(11,yc yd ((x:Nat):Int)),(10,yc yd ((n1:Nat):Int)),(9,.slice p1 n1 c1),(3,ye (some ⟨b1,0,none⟩)),(2,.slice p2 n2 c2)]) (fun x=>[boxA b1 37 [yc yd (cm.fo),yc yd (cm.cx),yc yd (cm.cy)]]) (fun x=>[slF (rI .i64) p1 c1 lr,slF (rI .i64) p2 c2 ll]) (fun x:Nat=>n1 - x) 0 (show 0≤n1∧∀j,j<0→0≤lr.getD j 0∧lr.getD j 0<64 from by exact ⟨Nat.zero_le _,fun j h=>by omega⟩) ((.e rfl (by first|rfl|(congr 1;omega)|simp_all) (.of rfl)):SubM _ _) (ho:=((.c (i:=0) rfl .n):PickO _ _ _)) ((.of [0,1] rfl):SelR _ _ _) ?_
 rintro i hI
 replace hI:i≤n1∧∀j,j<i→0≤lr.getD j 0∧lr.getD j 0<64:=hI
 try dsimp only
 obtain ⟨hi,hall⟩:=hI
 refine zj<|zc<|e_p (zO rfl rfl)<|zk<|zg<|zj<|zT rfl (fun h2=> ?_) (fun h2=> ?_)
 ·
  refine zw<|zg<|zj<|zt<|zj<|zc<|zW (x0:=(lr.getD i 0)) 0 i rfl yk sz3 rfl rfl rfl cbs rfl rfl (gD (d:=0) om) (fun b3 o4 hok5=> ?_)
  replace hok5:=zq.1 hok5
  refine e_ru (zB (j:=0) 0 ty3 rfl rfl rfl rfl)<|e_p (zh rfl)<|zk<|zg<|zAa (X:=Unit) (fun x=>True) (fun x=>[(20,.bool (decide (((lr.getD i 0)<0)∨(64≤(lr.getD i 0))))),(11,yc yd ((i:Nat):Int)),(10,yc yd ((n1:Nat):Int)),(9,.slice p1 n1 c1),(3,ye (some ⟨b1,0,none⟩)),(2,.slice p2 n2 c2)]) (fun x=>[boxA b1 37 [yc yd (cm.fo),yc yd (cm.cx),yc yd (cm.cy)]]) (fun x=>[atF b3 o4 [yc yd (lr.getD i 0)],slF (rI .i64) p1 c1 lr,slF (rI .i64) p2 c2 ll]) ?_ ?_
  ·
   refine zc<|e_mv rfl<|e_p (zO rfl rfl)<|zja rfl rfl (zka rfl) (fun h6=> ?_) (fun h6=> ?_)
   ·
    refine e_no<|e_no<|e_p (zK rfl rfl)<|zk ?_
    exact zha () (show True from by first|trivial|omega|simp_all) ((.e rfl (congrArg Value.bool cbu) (.of rfl)):SubM _ _) (ho:=((.c (i:=0) rfl .n):PickO _ _ _)) ((.of [0,1,2] rfl):SelR _ _ _)
   ·
    refine e_mv rfl<|e_p (zob rfl rfl)<|e_p (zK rfl rfl)<|zk ?_
    exact zha () (show True from by first|trivial|omega|simp_all) ((.e rfl (congrArg Value.bool cbu) (.of rfl)):SubM _ _) (ho:=((.c (i:=0) rfl .n):PickO _ _ _)) ((.of [0,1,2] rfl):SelR _ _ _)
  ·
   rintro ⟨⟩ -
   try dsimp only
   refine zT rfl (fun hb=> ?_) (fun hb=> ?_)
   ·
    refine zj<|zc<|e_p (zh rfl)<|zk<|zg<|zS<|zda<|zu<|zu<|zda<|zu ?_
    exact zM Tryz.results15 () trivial (zC rfl) (congrArg Value.bool (decide_eq_false (fun k=>Sh.rows_not (j:=i) om hb k.1))) (ho:=(.n:PickO _ _ _)) (.n:SelR _ _ _)
   ·
    refine zw<|zI<|zg<|zc<|e_p (zH (z:=(((i+1):Nat):Int)) rfl rfl (w64 om))<|e_mv rfl<|zk<|zwa (i+1) (show (i+1)≤n1∧∀j,j<(i+1)→0≤lr.getD j 0∧lr.getD j 0<64 from by refine ⟨by omega,fun j hj=> ?_⟩;by_cases e:j=i;(subst e;omega);exact hall j om) (by show n1 - (i+1)<n1 - i;omega) ((.of rfl):SubM _ _) (ho:=((.c (i:=0) rfl .n):PickO _ _ _)) ((.of [1,2] rfl):SelR _ _ _)
 ·
  refine zla<|zn<|zn<|zA<|zg<|zAa (X:=Unit) (fun x=>True) (fun x=>[(6,.bool (decide ((((1≤cm.fo)∧(cm.fo≤1048576))∧(Sh.wi 1048576 ([cm.cx,cm.cy])))∧(Sh.wi 1048576 ll))))]) (fun x=>[boxA b1 37 [yc yd (cm.fo),yc yd (cm.cx),yc yd (cm.cy)]]) (fun x=>[slF (rI .i64) p1 c1 lr,slF (rI .i64) p2 c2 ll]) ?_ ?_
  ·
   refine zc<|e_p (zf yD rfl sz3 rfl rfl)<|e_ru (ze 0 ty3 rfl rfl rfl)<|e_p (zob rfl rfl)<|zja rfl rfl (zka rfl) (fun h7=> ?_) (fun h7=> ?_)
   ·
    refine e_p (zf yD rfl sz3 rfl rfl)<|e_ru (ze 0 ty3 rfl rfl rfl)<|e_p (zKb rfl rfl)<|e_p (zK rfl rfl)<|zja rfl rfl (zka rfl) (fun h8=> ?_) (fun h8=> ?_)
    ·
     refine e_p (zf yD rfl sz35 rfl rfl)<|e_p (zf yH rfl sz3 rfl rfl)<|e_ru (ze 0 ty3 rfl rfl rfl)<|e_p (zf yD rfl sz35 rfl rfl)<|e_p (zf yH rfl sz3 rfl rfl)<|e_ru (ze 0 ty3 rfl rfl rfl)<|zDa rfl rfl (zR (enc:=fun z:Int=>[yc yd z]) (ok:=InK .i64) (h1:=fun _=>rfl) (h2:=fun _=>rfl) (k:=2) yk inf3 rfl dd dd dd (.c (x:=cm.cx) rfl rfl (fun _ _=>by exact zq.2 om) (.c (x:=cm.cy) rfl rfl (fun _ _=>by exact zq.2 om) .n))) (fun b9 _=> ?_)
     refine zia 0 rfl .z<|zU rfl rfl (.c rfl (.c rfl .n)) ce23 (zrb (p:=some ⟨b9,0,none⟩) (n:=2) (cap:=2) (l:=[cm.cx,cm.cy]) (m:=1048576) (hn:=cbd) (hm:=cbd)) (.c (j:=0) rfl .n)<|e_p (zK rfl rfl)<|zja rfl rfl (zka rfl) (fun h10=> ?_) (fun h10=> ?_)
     ·
      refine e_mv rfl<|zU rfl rfl (.c rfl (.c rfl .n)) ce23 (zrb (p:=p2) (n:=n2) (cap:=c2) (l:=ll) (m:=1048576) (hn:=ass) (hm:=cbd)) (.c (j:=2) rfl .n)<|e_p (zK rfl rfl)<|e_p (zh rfl)<|zk ?_
      exact zha () (show True from by first|trivial|omega|simp_all) ((.e rfl (congrArg Value.bool cbu) .n):SubM _ _) (ho:=((.c (i:=1) rfl .n):PickO _ _ _)) ((.of [1,2] rfl):SelR _ _ _)
     ·
      refine e_no<|e_no<|e_p (zK rfl rfl)<|e_p (zh rfl)<|zk ?_
      exact zha () (show True from by first|trivial|omega|simp_all) ((.e rfl (congrArg Value.bool cbu) .n):SubM _ _) (ho:=((.c (i:=1) rfl .n):PickO _ _ _)) ((.of [1,2] rfl):SelR _ _ _)
    ·
     refine e_no<|e_no<|e_no<|e_no<|e_no<|e_no<|e_no<|e_no<|e_p (zK rfl rfl)<|e_mv rfl<|e_no<|e_no<|e_p (zK rfl rfl)<|e_p (zh rfl)<|zk ?_
     exact zha () (show True from by first|trivial|omega|simp_all) ((.e rfl (congrArg Value.bool cbu) .n):SubM _ _) (ho:=((.c (i:=0) rfl .n):PickO _ _ _)) ((.of [0,1] rfl):SelR _ _ _)
   ·
    refine e_no<|e_no<|e_no<|e_p (zK rfl rfl)<|e_mv rfl<|e_no<|e_no<|e_no<|e_no<|e_no<|e_no<|e_no<|e_no<|e_p (zK rfl rfl)<|e_mv rfl<|e_no<|e_no<|e_p (zK rfl rfl)<|e_p (zh rfl)<|zk ?_
    exact zha () (show True from by first|trivial|omega|simp_all) ((.e rfl (congrArg Value.bool cbu) .n):SubM _ _) (ho:=((.c (i:=0) rfl .n):PickO _ _ _)) ((.of [0,1] rfl):SelR _ _ _)
  ·
   rintro ⟨⟩ -
   try dsimp only
   refine zS ?_
   exact zM Tryz.results15 () trivial (zC rfl) (congrArg Value.bool (decide_eq_decide.2 (by have hrows:=Sh.rows_get (l:=lr) (fun j hj=>hall j om);unfold Sh.lcam Sh.cam;rw [Sh.wi_2];exact ⟨fun k=>⟨⟨k.2.1.1,k.2.1.2⟩,k.2.2⟩,fun k=>⟨hrows,⟨k.1.1,k.1.2⟩,k.2⟩⟩))) (ho:=(.n:PickO _ _ _)) (.n:SelR _ _ _)
theorem zPe {k1:Bool} {u1:Wd} {v1:Wd} {ax:Rat} {k2:Bool} {u2:Wd} {v2:Wd} {ay:Rat} {h:Int} (h64h: -9223372036854775808≤h∧h≤9223372036854775807):Con yC 19 [.agg #[u1.b,u1.l,v1.b,v1.l,u2.b,u2.l,v2.b,v2.l],yc yd h] [] [qF k1 u1 v1 ax,qF k2 u2 v2 ay] (Y:=Wd×Wd) (fun y=>True) (fun y=> .agg #[u1.b,u1.l,v1.b,v1.l,u2.b,u2.l,v2.b,v2.l,y.1.b,y.1.l,y.2.b,y.2.l]) (fun y=>[]) (fun y=>[qF true y.1 y.2 ((h:Int):Rat)]):=by
 refine zv Tryz.func19 rfl rfl rfl (fun c=> ?_)
 show RunC _ _ _ _ _ [(0,.agg #[u1.b,u1.l,v1.b,v1.l,u2.b,u2.l,v2.b,v2.l]),(1,yc yd h)] [] [qF k1 u1 v1 ax,qF k2 u2 v2 ay]
 refine zj<|zc<|zE rfl rfl (zZ rfl rfl) (fun b1=> ?_)
 refine zE rfl rfl (zo zr54 rfl) (fun b2=> ?_)
 refine zk<|zg<|zj<|zP (OW:=[boxA b2 54 (cw [wz,wz,wz,wz,wz,wz])]) (O:=[boxA b1 46 (cw [u1,v1,u2,v2])]) 7 mixed (.then .ret) kr<|e_pv 0 rfl rfl (zf yl rfl sz44 rfl rfl)<|e_uw 1 rfl rfl (zd 1 ty44 rfl rfl (.t4 .nil))<|e_pv 2 rfl rfl (zf yl rfl sz44 rfl rfl)<|e_uw 3 rfl rfl (zd 1 ty44 rfl rfl (.s4 (.t4 .nil)))<|e_dm 4 rfl rfl rfl<|e_one 5 (zm rfl rfl rfl rfl (.c rfl .n) ce22 (zva (z:=h) (hz:=ass)) (.n) ?_)
 rintro ⟨w33,w44⟩ -
 dsimp only [aq,nq,cq]
 refine e_pv 6 rfl rfl (zsa zr54 rfl yf sz44 (.c rfl (.c rfl (.c rfl .n))) (.c rfl rfl rfl (.t4 .nil) (.c rfl rfl rfl (.s4 (.t4 .nil)) (.c rfl rfl rfl (.s8 (.t4 .nil)) .n))))<|e_one 7 (zp kr rfl rfl rfl rfl rfl sz54 rfl (.t8 (.t4 .nil)) ?_)
 refine zN kr<|zg<|zS ?_
 exact zM Tryz.results19 (w33,w44) trivial (zr 0 ty54 rfl rfl (.t8 (.t4 .nil))) rfl (ho:=(.n:PickO _ _ _)) ((.c (j:=0) rfl .n):SelR _ _ _)
theorem zFc {u1:Wd} {v1:Wd} {q1:Rat} {u2:Wd} {v2:Wd} {q2:Rat} {u3:Wd} {v3:Wd} {q3:Rat} {u4:Wd} {v4:Wd} {q4:Rat} (hl1:yT q1+yT q3+1≤1048576) (hl2:yT q2+yT q4+1≤1048576):Con yC 21 [.agg #[u1.b,u1.l,v1.b,v1.l,u2.b,u2.l,v2.b,v2.l],.agg #[u3.b,u3.l,v3.b,v3.l,u4.b,u4.l,v4.b,v4.l]] [] [qF true u1 v1 q1,qF true u2 v2 q2,qF true u3 v3 q3,qF true u4 v4 q4] (Y:=Unit) (fun y=>True) (fun y=> .bool (decide (q1=q3∧q2=q4))) (fun y=>[]) (fun y=>[]):=by
 refine zv Tryz.func21 rfl rfl rfl (fun c=> ?_)
 show RunC _ _ _ _ _ [(0,.agg #[u1.b,u1.l,v1.b,v1.l,u2.b,u2.l,v2.b,v2.l]),(1,.agg #[u3.b,u3.l,v3.b,v3.l,u4.b,u4.l,v4.b,v4.l])] [] [qF true u1 v1 q1,qF true u2 v2 q2,qF true u3 v3 q3,qF true u4 v4 q4]
 refine zj<|zc<|zE rfl rfl (zZ rfl rfl) (fun b1=> ?_)
 refine zE rfl rfl (zZ rfl rfl) (fun b2=> ?_)
 refine e_p (zh rfl)<|zk<|zg<|zAa (X:=Unit) (fun x=>True) (fun x=>[(4,.bool (decide ((q1=q3)∧(q2=q4))))]) (fun x=>[boxA b2 46 (cw [u3,v3,u4,v4]),boxA b1 46 (cw [u1,v1,u2,v2])]) (fun x=>[qF true u1 v1 q1,qF true u2 v2 q2,qF true u3 v3 q3,qF true u4 v4 q4]) ?_ ?_
 ·
  refine zc<|e_p (zf yl rfl sz44 rfl rfl)<|e_ru (zd 1 ty44 rfl rfl (.t4 .nil))<|e_p (zf yl rfl sz44 rfl rfl)<|e_ru (zd 0 ty44 rfl rfl (.t4 .nil))<|zU rfl rfl (.c rfl (.c rfl .n)) ce27 (zHd (u1:=u1) (v1:=v1) (q1:=q1) (u2:=u3) (v2:=v3) (q2:=q3) (hl:=ass)) (.c (j:=0) rfl (.c (j:=2) rfl .n))<|zja rfl rfl (zka rfl) (fun h3=> ?_) (fun h3=> ?_)
  ·
   refine e_p (zf yl rfl sz44 rfl rfl)<|e_ru (zd 1 ty44 rfl rfl (.s4 (.t4 .nil)))<|e_p (zf yl rfl sz44 rfl rfl)<|e_ru (zd 0 ty44 rfl rfl (.s4 (.t4 .nil)))<|zU rfl rfl (.c rfl (.c rfl .n)) ce27 (zHd (u1:=u2) (v1:=v2) (q1:=q2) (u2:=u4) (v2:=v4) (q2:=q4) (hl:=ass)) (.c (j:=1) rfl (.c (j:=3) rfl .n))<|e_p (zK rfl rfl)<|e_p (zh rfl)<|zk ?_
   exact zha () (show True from by first|trivial|omega|simp_all) ((.e rfl (congrArg Value.bool cbu) .n):SubM _ _) (ho:=((.of [0,0] rfl):PickO _ _ _)) ((.of [0,1,2,3] rfl):SelR _ _ _)
  ·
   refine e_no<|e_no<|e_no<|e_no<|e_no<|e_p (zK rfl rfl)<|e_p (zh rfl)<|zk ?_
   exact zha () (show True from by first|trivial|omega|simp_all) ((.e rfl (congrArg Value.bool cbu) .n):SubM _ _) (ho:=((.of [0,0] rfl):PickO _ _ _)) ((.of [0,1,2,3] rfl):SelR _ _ _)
 ·
  rintro ⟨⟩ -
  try dsimp only [cw]
  refine zS ?_
  exact zM Tryz.results21 () trivial (zC rfl) rfl (ho:=(.n:PickO _ _ _)) (.n:SelR _ _ _)
theorem zmd {u1:Wd} {v1:Wd} (h1:u1.n≤1048576) (h2:v1.n≤1048576):Con yC 64 [.agg #[u1.b,u1.l,v1.b,v1.l]] [] [] (Y:=Unit) (fun y=>True) (fun y=> yc yd (((u1.n+v1.n):Nat):Int)) (fun y=>[]) (fun y=>[]):=by
 refine zv Tryz.func64 rfl rfl rfl (fun c=> ?_)
 show RunC _ _ _ _ _ [(0,.agg #[u1.b,u1.l,v1.b,v1.l])] [] []
 refine zj<|zc<|zE rfl rfl (zZ rfl rfl) (fun b1=> ?_)
 refine e_p (zh rfl)<|zk<|zg<|zj<|zc<|e_p (zf Tryz.underlying44 rfl sz42 rfl rfl)<|e_p (zf Tryz.underlying42 rfl sz40 rfl rfl)<|e_ru (ze 0 ty40 rfl rfl rfl)<|e_p (zfa Tryz.underlying40 rfl)<|e_p (zf Tryz.underlying44 rfl sz42 rfl rfl)<|e_p (zf Tryz.underlying42 rfl sz40 rfl rfl)<|e_ru (ze 0 ty40 rfl rfl rfl)<|e_p (zfa Tryz.underlying40 rfl)<|e_p (zH (z:=(((u1.n+v1.n):Nat):Int)) rfl rfl (w64 om))<|e_p (zh rfl)<|zk<|zg<|zS ?_
 exact zM Tryz.results64 () trivial (zC rfl) rfl (ho:=(.n:PickO _ _ _)) (.n:SelR _ _ _)
theorem zxf {u1:Wd} {v1:Wd} {u2:Wd} {v2:Wd} (h1:u1.n≤1048576) (h2:v1.n≤1048576) (h3:u2.n≤1048576) (h4:v2.n≤1048576):Con yC 30 [.agg #[u1.b,u1.l,v1.b,v1.l,u2.b,u2.l,v2.b,v2.l]] [] [] (Y:=Unit) (fun y=>True) (fun y=> .bool (decide (u1.n+v1.n≤12∧u2.n+v2.n≤12))) (fun y=>[]) (fun y=>[]):=by
 refine zv Tryz.func30 rfl rfl rfl (fun c=> ?_)
 show RunC _ _ _ _ _ [(0,.agg #[u1.b,u1.l,v1.b,v1.l,u2.b,u2.l,v2.b,v2.l])] [] []
 refine zj<|zc<|zE rfl rfl (zZ rfl rfl) (fun b1=> ?_)
 refine e_p (zh rfl)<|zk<|zg<|zAa (X:=Unit) (fun x=>True) (fun x=>[(2,.bool (decide (((((u1.n+v1.n):Nat):Int)≤12)∧((((u2.n+v2.n):Nat):Int)≤12))))]) (fun x=>[boxA b1 46 (cw [u1,v1,u2,v2])]) (fun x=>[]) ?_ ?_
 ·
  refine zc<|e_p (zf yl rfl sz44 rfl rfl)<|e_ru (zd 0 ty44 rfl rfl (.t4 .nil))<|zU rfl rfl (.c rfl .n) ce64 (zmd (u1:=u1) (v1:=v1) (h1:=ass) (h2:=ass)) (.n)<|e_p (zKb rfl rfl)<|zja rfl rfl (zka rfl) (fun h2=> ?_) (fun h2=> ?_)
  ·
   refine e_p (zf yl rfl sz44 rfl rfl)<|e_ru (zd 0 ty44 rfl rfl (.s4 (.t4 .nil)))<|zU rfl rfl (.c rfl .n) ce64 (zmd (u1:=u2) (v1:=v2) (h1:=ass) (h2:=ass)) (.n)<|e_p (zKb rfl rfl)<|e_p (zK rfl rfl)<|e_p (zh rfl)<|zk ?_
   exact zha () (show True from by first|trivial|omega|simp_all) ((.e rfl (congrArg Value.bool cbu) .n):SubM _ _) (ho:=((.c (i:=0) rfl .n):PickO _ _ _)) (.n:SelR _ _ _)
  ·
   refine e_no<|e_no<|e_no<|e_no<|e_p (zK rfl rfl)<|e_p (zh rfl)<|zk ?_
   exact zha () (show True from by first|trivial|omega|simp_all) ((.e rfl (congrArg Value.bool cbu) .n):SubM _ _) (ho:=((.c (i:=0) rfl .n):PickO _ _ _)) (.n:SelR _ _ _)
 ·
  rintro ⟨⟩ -
  try dsimp only [cw]
  refine zS ?_
  exact zM Tryz.results30 () trivial (zC rfl) (congrArg Value.bool (decide_eq_decide.2 om)) (ho:=(.n:PickO _ _ _)) (.n:SelR _ _ _)
theorem zHb:Con yC 40 [] [] [] (Y:=Unit) (fun y=>True) (fun y=> .agg #[yc yd 0,yc yd 10,yc yd 0,yc yd 0,yc yd 0,yc yd 1000,yc yd 0,yc yd 1,yc yd 0,yc yd 0,yc yd 100,yc yd 100,yc yd 0,yc yd 1000,yc yd 0,yc yd 1,yc yd 0,yc yd 0]) (fun y=>[]) (fun y=>[]):=by
 refine zv Tryz.func40 rfl rfl rfl (fun c=> ?_)
 show RunC _ _ _ _ _ [] [] []
 refine zj<|zc<|zE rfl rfl (zo zr29 rfl) (fun b1=> ?_)
 refine zk<|zg<|zj<|zc<|e_p (zx zr25 rfl yj (.c sz3 (.c sz3 (.c sz3 (.c sz3 .n)))) (.c rfl .n) (.c rfl rfl rfl (.skip (.take .nil)) .n))<|zE rfl rfl (zo zr25 rfl) (fun b2=> ?_)
 refine zl 0 rfl rfl rfl rfl rfl sz25 rfl (.t4 .nil) .z<|zk<|zg<|zj<|zc<|e_p (zx zr23 rfl yr (.c sz3 (.c sz3 (.c sz3 .n))) (.c rfl .n) (.c rfl rfl rfl (.s2 (.take .nil)) .n))<|e_ru (zd 0 ty25 rfl rfl (.t4 .nil))<|e_p (zx zr27 rfl yg (.c sz3 (.c sz23 (.c sz25 .n))) (.c rfl (.c rfl .n)) (.c rfl rfl rfl (.skip (.t2 (.take .nil))) (.c rfl rfl rfl (.s4 (.t4 .nil)) .n)))<|e_p (zx zr23 rfl yr (.c sz3 (.c sz3 (.c sz3 .n))) (.c rfl (.c rfl .n)) (.c rfl rfl rfl (.take .nil) (.c rfl rfl rfl (.s2 (.take .nil)) .n)))<|e_ru (zd 0 ty25 rfl rfl (.t4 .nil))<|e_p (zx zr27 rfl yg (.c sz3 (.c sz23 (.c sz25 .n))) (.c rfl (.c rfl (.c rfl .n))) (.c rfl rfl rfl (.take .nil) (.c rfl rfl rfl (.skip (.t2 (.take .nil))) (.c rfl rfl rfl (.s4 (.t4 .nil)) .n))))<|e_p (zx zr29 rfl yi (.c sz3 (.c sz3 (.c sz27 (.c sz27 .n)))) (.c rfl (.c rfl (.c rfl .n))) (.c rfl rfl rfl (.skip (.take .nil)) (.c rfl rfl rfl (.s2 (.t8 .nil)) (.c rfl rfl rfl (.s8 (.s2 (.t8 .nil))) .n))))<|zl 1 rfl rfl rfl rfl rfl sz29 rfl (.t8 (.t8 (.t2 .nil))) (.s .z)<|zk<|zg<|zS ?_
 exact zM Tryz.results40 () trivial (zr 1 ty29 rfl rfl (.t8 (.t8 (.t2 .nil)))) rfl (ho:=(.n:PickO _ _ _)) (.n:SelR _ _ _)
end Go.Proofs.YtjeahiahjgifgaaGreatDoor.Sp
namespace Go.Proofs.YtjeahiahjgifgaaGreatDoor.Sp
open Go
set_option linter.unusedVariables false
set_option maxRecDepth 100000
set_option maxHeartbeats 8000000
theorem zyf:Con yC 11 [] [] [sgF] (Y:=Unit) (fun y=>True) (fun y=> .bool true) (fun y=>[]) (fun y=>[]):=by
 refine zv Tryz.func11 rfl rfl rfl (fun c=> ?_)
 show RunC _ _ _ _ _ [] [] [sgF]
 refine zj<|zc<|e_p (zh rfl)<|zk<|zg<|zj<|zc<|e_p (zx zr37 rfl yD (.c sz3 (.c sz35 .n)) (.c rfl .n) (.c rfl rfl rfl (.take .nil) .n))<|zE rfl rfl (zo zr37 rfl) (fun b1=> ?_)
 refine zl 0 rfl rfl rfl rfl rfl sz37 rfl (.t2 (.take .nil)) .z<|zk<|zg<|zj<|zP (OW:=[]) (O:=[boxA b1 37 [yc yd 640,yc yd 0,yc yd 0]]) 8 mixed (.then .ret) kr<|e_u 1 rfl rfl (zd 0 ty37 rfl rfl (.t2 (.take .nil)))<|e_pv 2 rfl rfl (zx zr35 rfl yH (.c sz3 (.c sz3 .n)) (.c rfl (.c rfl .n)) (.c rfl rfl rfl (.take .nil) (.c rfl rfl rfl (.skip (.take .nil)) .n)))<|zLb (m':=[(12,.agg #[yc yd 64,yc yd 128]),(11,.agg #[yc yd 640,yc yd 0,yc yd 0]),(1,ye (some ⟨b1,0,none⟩)),(0,.bool false)]) (R':=[sgF]) ((.of rfl):SubM _ _) (List.Perm.refl _) (List.Perm.refl _) ((.c (j:=0) rfl .n):SelR _ _ _)<|zga (X:=Wd×Wd×Wd×Wd×Nat) (k':=0) (L':=(lb 10 1023)) (fun (u3_1,u3_2,u3_3,u3_4,u7_1)=>([(3,yc yd (Sh.Gc yz yB 64 128 0)),(2,ye (some ⟨u7_1,0,none⟩)),(1,ye (some ⟨b1,0,none⟩)),(0,.bool false)],[boxA u7_1 46 (cw [u3_1,u3_2,u3_3,u3_4])],[boxA b1 37 [yc yd 640,yc yd 0,yc yd 0]],[qF (decide (Sh.Gc yz yB 64 128 0=0)) u3_1 u3_2 (Sh.Gx yz yB 64 128 0),qF (decide (Sh.Gc yz yB 64 128 0=0)) u3_3 u3_4 (Sh.Gy yz yB 64 128 0),sgF])) ?_ (fun hD0=> ?_)
 ·
  rintro ⟨u3_1,u3_2,u3_3,u3_4,u7_1⟩
  dsimp only [cw,cS]
  refine zN kr<|zg<|zj ?_
  have e2:(decide (Sh.Gc yz yB 64 128 0=0))=true:=by exact decide_eq_true Sh.ex_gc
  rw [e2]
  have e3:(Sh.Gx yz yB 64 128 0:Rat)=((120:Int):Rat):=by exact Sh.ex_gx
  rw [e3]
  have e4:(Sh.Gy yz yB 64 128 0:Rat)=((-200:Int):Rat):=by exact Sh.ex_gy
  rw [e4]
  have e5:(Sh.Gc yz yB 64 128 0:Int)=0:=by exact Sh.ex_gc
  rw [e5]
  refine zP (OW:=[]) (O:=[boxA u7_1 46 (cw [u3_1,u3_2,u3_3,u3_4]),boxA b1 37 [yc yd 640,yc yd 0,yc yd 0]]) 8 mixed (.then .ret) kr<|e_u 1 rfl rfl (zd 1 ty37 rfl rfl (.t2 (.take .nil)))<|e_pv 2 rfl rfl (zx zr35 rfl yH (.c sz3 (.c sz3 .n)) (.c rfl (.c rfl .n)) (.c rfl rfl rfl (.take .nil) (.c rfl rfl rfl (.skip (.take .nil)) .n)))<|zLb (m':=[(19,.agg #[yc yd 64,yc yd 128]),(18,.agg #[yc yd 640,yc yd 0,yc yd 0]),(3,yc yd 0),(2,ye (some ⟨u7_1,0,none⟩)),(0,.bool false)]) (R':=[qF true u3_1 u3_2 ((120:Int):Rat),qF true u3_3 u3_4 ((-200:Int):Rat),sgF]) ((.of rfl):SubM _ _) (List.Perm.refl _) (List.Perm.refl _) ((.of [0,1,2] rfl):SelR _ _ _)<|zga (X:=Wd×Wd×Wd×Wd×Nat) (k':=0) (L':=(lb 10 1023)) (fun (u3_1r2,u3_2r2,u3_3r2,u3_4r2,u7_1r2)=>([(5,yc yd (Sh.Cc yz yB 64 128 0 0)),(4,ye (some ⟨u7_1r2,0,none⟩)),(3,yc yd 0),(2,ye (some ⟨u7_1,0,none⟩)),(0,.bool false)],[boxA u7_1r2 46 (cw [u3_1r2,u3_2r2,u3_3r2,u3_4r2])],[boxA u7_1 46 (cw [u3_1,u3_2,u3_3,u3_4]),boxA b1 37 [yc yd 640,yc yd 0,yc yd 0]],[qF (decide (Sh.Cc yz yB 64 128 0 0=0)) u3_1r2 u3_2r2 (Sh.Cx yz yB 64 128 0 0),qF (decide (Sh.Cc yz yB 64 128 0 0=0)) u3_3r2 u3_4r2 (Sh.Cy yz yB 64 128 0 0),qF true u3_1 u3_2 ((120:Int):Rat),qF true u3_3 u3_4 ((-200:Int):Rat),sgF])) ?_ (fun hD0=> ?_)
  ·
   rintro ⟨u3_1r2,u3_2r2,u3_3r2,u3_4r2,u7_1r2⟩
   dsimp only [cw,cS]
   refine zN kr<|zg<|zj ?_
   have e6:(decide (Sh.Cc yz yB 64 128 0 0=0))=true:=by exact decide_eq_true Sh.ex_cc
   rw [e6]
   have e7:(Sh.Cx yz yB 64 128 0 0:Rat)=Rat.divInt 384 5:=by exact Sh.ex_cx
   rw [e7]
   have e8:(Sh.Cy yz yB 64 128 0 0:Rat)=((128:Int):Rat):=by exact Sh.ex_cy
   rw [e8]
   have e9:(Sh.Cc yz yB 64 128 0 0:Int)=0:=by exact Sh.ex_cc
   rw [e9]
   refine zc<|zG rfl rfl (.c rfl (.c rfl .n)) ce41 (zFd (z1:=384) (z2:=5) (hz1:=yn) (hz2:=yn) (hy:=yn)) (.n) ?_
   rintro ⟨w310,w411⟩ -
   dsimp only [aq,nq,cq]
   refine e_mv rfl<|e_p (zy rfl rfl)<|e_p (zy rfl rfl)<|zE rfl rfl (zo zr44 rfl) (fun b12=> ?_)
   refine zl 0 rfl rfl rfl rfl rfl sz44 rfl (.t4 .nil) .z<|e_p (zh rfl)<|zk<|zg<|zj<|zP (OW:=[]) (O:=[boxA b12 44 (cw [w310,w411]),boxA u7_1r2 46 (cw [u3_1r2,u3_2r2,u3_3r2,u3_4r2]),boxA u7_1 46 (cw [u3_1,u3_2,u3_3,u3_4]),boxA b1 37 [yc yd 640,yc yd 0,yc yd 0]]) 100000 mixed (.then .ret) kr<|e_dm 0 rfl rfl rfl<|e_pv 1 rfl rfl (zOa rfl rfl)<|e_dm 2 rfl rfl rfl<|e_dm 3 rfl rfl rfl<|e_pv 4 rfl rfl (zOa rfl rfl)<|e_pv 5 rfl rfl (zK rfl rfl)<|e_dm 6 rfl rfl rfl<|e_u 7 rfl rfl (zd 2 ty46 rfl rfl (.t8 .nil))<|e_one 8 (zm rfl rfl rfl rfl (.c rfl .n) ce22 (zva (z:=120) (hz:=yn)) (.n) ?_)
   rintro ⟨w313,w414⟩ -
   dsimp only [aq,nq,cq]
   refine e_one 9 (zm rfl rfl rfl rfl (.c rfl .n) ce22 (zva (z:=(-200)) (hz:=yn)) (.n) ?_)
   rintro ⟨w315,w416⟩ -
   dsimp only [aq,nq,cq]
   refine e_pv 10 rfl rfl (zx zr46 rfl yl (.c sz44 (.c sz44 .n)) (.c rfl (.c rfl .n)) (.c rfl rfl rfl (.t4 .nil) (.c rfl rfl rfl (.s4 (.t4 .nil)) .n)))<|e_one 11 (zLa rfl rfl rfl rfl (.c rfl (.c rfl .n)) ce21 (zFc (u1:=u3_1) (v1:=u3_2) (q1:=((120:Int):Rat)) (u2:=u3_3) (v2:=u3_4) (q2:=((-200:Int):Rat)) (u3:=w313) (v3:=w414) (q3:=((120:Int):Rat)) (u4:=w315) (v4:=w416) (q4:=(((-200):Int):Rat)) (hl1:=yn) (hl2:=yn)) (.c (j:=5) rfl (.c (j:=6) rfl (.c (j:=1) rfl (.c (j:=0) rfl .n)))) ?_)
   rw [show (decide (((120:Int):Rat)=((120:Int):Rat)∧((-200:Int):Rat)=(((-200):Int):Rat)))=true from by exact decide_eq_true ⟨rfl,rfl⟩]
   refine e_pv 12 rfl rfl (zK rfl rfl)<|e_dm 13 rfl rfl rfl<|e_u 14 rfl rfl (zd 1 ty46 rfl rfl (.t8 .nil))<|e_u 15 rfl rfl (zd 0 ty44 rfl rfl (.t4 .nil))<|e_one 16 (zm rfl rfl rfl rfl (.c rfl .n) ce22 (zva (z:=128) (hz:=yn)) (.n) ?_)
   rintro ⟨w317,w418⟩ -
   dsimp only [aq,nq,cq]
   refine e_pv 17 rfl rfl (zx zr46 rfl yl (.c sz44 (.c sz44 .n)) (.c rfl (.c rfl .n)) (.c rfl rfl rfl (.t4 .nil) (.c rfl rfl rfl (.s4 (.t4 .nil)) .n)))<|e_one 18 (zLa rfl rfl rfl rfl (.c rfl (.c rfl .n)) ce21 (zFc (u1:=u3_1r2) (v1:=u3_2r2) (q1:=(Rat.divInt 384 5)) (u2:=u3_3r2) (v2:=u3_4r2) (q2:=((128:Int):Rat)) (u3:=w310) (v3:=w411) (q3:=Rat.divInt 384 5) (u4:=w317) (v4:=w418) (q4:=((128:Int):Rat)) (hl1:=yn) (hl2:=yn)) (.c (j:=4) rfl (.c (j:=5) rfl (.c (j:=3) rfl (.c (j:=0) rfl .n)))) ?_)
   rw [show (decide ((Rat.divInt 384 5)=(Rat.divInt 384 5)∧((128:Int):Rat)=((128:Int):Rat)))=true from by exact decide_eq_true ⟨rfl,rfl⟩]
   refine e_pv 19 rfl rfl (zK rfl rfl)<|e_dm 20 rfl rfl rfl<|e_one 21 (zLa rfl rfl rfl rfl (.n) ce40 (zHb) (.n) ?_)
   refine e_one 22 (zLa rfl rfl rfl rfl (.c rfl (.c rfl .n)) ce12 (zwc (s:=yz) (n:=64) (hfi:=yn) (hst:=yn) (hta:=yn) (htb:=yn) (hxa:=yn) (hya:=yn) (hza:=yn) (hqa:=yn) (hqb:=yn) (hqc:=yn) (hqd:=yn) (hxb:=yn) (hyb:=yn) (hzb:=yn) (hra:=yn) (hrb:=yn) (hrc:=yn) (hrd:=yn)) (.n) ?_)
   refine e_pv 23 rfl rfl (zOa rfl rfl) ?_
   rw [show (decide (Sh.chk yz 64=0))=true from by exact decide_eq_true Sh.ex_chk]
   refine e_pv 24 rfl rfl (zK rfl rfl)<|e_pv 25 rfl rfl (zh rfl)<|zN kr<|zg<|zS ?_
   exact zM Tryz.results11 () trivial (zC rfl) rfl (ho:=(.n:PickO _ _ _)) (.n:SelR _ _ _)
  refine zga (X:=Wd×Wd×Wd×Wd×Nat) (k':=2) (L':=(lb 10 255)) (fun (u3_1r2,u3_2r2,u3_3r2,u3_4r2,u7_1r2)=>([(4,ye (some ⟨u7_1r2,0,none⟩)),(22,yc yd (Sh.Cc yz yB 64 128 0 0)),(21,.agg (cw [u3_1r2,u3_2r2,u3_3r2,u3_4r2]).toArray),(3,yc yd 0),(2,ye (some ⟨u7_1,0,none⟩)),(0,.bool false)],[boxA u7_1r2 46 (cw [wz,wz,wz,wz])],[boxA u7_1 46 (cw [u3_1,u3_2,u3_3,u3_4]),boxA b1 37 [yc yd 640,yc yd 0,yc yd 0]],[qF (decide (Sh.Cc yz yB 64 128 0 0=0)) u3_1r2 u3_2r2 (Sh.Cx yz yB 64 128 0 0),qF (decide (Sh.Cc yz yB 64 128 0 0=0)) u3_3r2 u3_4r2 (Sh.Cy yz yB 64 128 0 0),qF true u3_1 u3_2 ((120:Int):Rat),qF true u3_3 u3_4 ((-200:Int):Rat),sgF])) ?_ (fun hD1=> ?_)
  ·
   rintro ⟨u3_1r2,u3_2r2,u3_3r2,u3_4r2,u7_1r2⟩
   dsimp only [cw,cS]
   refine zFa 8 kr ?_
   ·
    refine zp kr rfl rfl rfl rfl rfl sz46 rfl (.t8 .nil)<|e_pv 9 rfl rfl (zh rfl) ?_
    exact zJ (hD0 (u3_1r2,u3_2r2,u3_3r2,u3_4r2,u7_1r2)) kr ((.of rfl):SubM _ _) .rfl .rfl ((.of [0,1,2,3,4] rfl):SelR _ _ _)
  refine zga (X:=Wd×Wd×Wd×Wd) (k':=3) (L':=(lb 10 127)) (fun (u3_1r2,u3_2r2,u3_3r2,u3_4r2)=>([(22,yc yd (Sh.Cc yz yB 64 128 0 0)),(21,.agg (cw [u3_1r2,u3_2r2,u3_3r2,u3_4r2]).toArray),(3,yc yd 0),(2,ye (some ⟨u7_1,0,none⟩)),(0,.bool false)],[],[boxA u7_1 46 (cw [u3_1,u3_2,u3_3,u3_4]),boxA b1 37 [yc yd 640,yc yd 0,yc yd 0]],[qF (decide (Sh.Cc yz yB 64 128 0 0=0)) u3_1r2 u3_2r2 (Sh.Cx yz yB 64 128 0 0),qF (decide (Sh.Cc yz yB 64 128 0 0=0)) u3_3r2 u3_4r2 (Sh.Cy yz yB 64 128 0 0),qF true u3_1 u3_2 ((120:Int):Rat),qF true u3_3 u3_4 ((-200:Int):Rat),sgF])) ?_ (fun hD2=> ?_)
  ·
   rintro ⟨u3_1r2,u3_2r2,u3_3r2,u3_4r2⟩
   dsimp only [cw,cS]
   refine zFa 7 kr ?_
   ·
    refine zua rfl rfl rfl rfl (zo zr46 rfl) (fun u7_1r2 _=> ?_)
    exact zJ (hD1 (u3_1r2,u3_2r2,u3_3r2,u3_4r2,u7_1r2)) kr ((.of rfl):SubM _ _) .rfl .rfl ((.of [0,1,2,3,4] rfl):SelR _ _ _)
  refine zga (X:=Nat) (k':=6) (L':=(lb 10 135)) (fun u7_1r2=>([(4,ye (some ⟨u7_1r2,0,none⟩)),(17,.agg #[yc yd 0,yc yd 10,yc yd 0,yc yd 0,yc yd 0,yc yd 1000,yc yd 0,yc yd 1,yc yd 0,yc yd 0,yc yd 100,yc yd 100,yc yd 0,yc yd 1000,yc yd 0,yc yd 1,yc yd 0,yc yd 0]),(19,.agg #[yc yd 64,yc yd 128]),(18,.agg #[yc yd 640,yc yd 0,yc yd 0]),(3,yc yd 0),(2,ye (some ⟨u7_1,0,none⟩)),(0,.bool false)],[boxA u7_1r2 46 (cw [wz,wz,wz,wz])],[boxA u7_1 46 (cw [u3_1,u3_2,u3_3,u3_4]),boxA b1 37 [yc yd 640,yc yd 0,yc yd 0]],[qF true u3_1 u3_2 ((120:Int):Rat),qF true u3_3 u3_4 ((-200:Int):Rat),sgF])) ?_ (fun hD3=> ?_)
  ·
   rintro u7_1r2
   dsimp only [cw,cS]
   refine zFa 3 kr ?_
   ·
    refine zm rfl rfl rfl rfl (.c rfl (.c rfl (.c rfl (.c rfl (.c rfl .n))))) ce14 (zld (s:=yz) (cm:=yB) (u:=64) (v:=128) (r:=0) (h:=0) (hfi:=yn) (hst:=yn) (hta:=yn) (htb:=yn) (hxa:=yn) (hya:=yn) (hza:=yn) (hqa:=yn) (hqb:=yn) (hqc:=yn) (hqd:=yn) (hxb:=yn) (hyb:=yn) (hzb:=yn) (hra:=yn) (hrb:=yn) (hrc:=yn) (hrd:=yn) (h64fo:=yn) (h64cx:=yn) (h64cy:=yn) (h64u:=yn) (h64v:=yn) (h64r:=yn) (h64h:=yn)) (.c (j:=2) rfl .n) ?_
    rintro ⟨u3_1r2,u3_2r2,u3_3r2,u3_4r2⟩ hph2
    dsimp only [aq,nq,cq]
    replace hph2:Sh.Cc yz yB 64 128 0 0≠0→u3_1r2=wz∧u3_2r2=wz∧u3_3r2=wz∧u3_4r2=wz:=hph2
    refine e_dm 4 rfl rfl rfl<|e_pv 5 rfl rfl (zy rfl rfl)<|e_pv 6 rfl rfl (zy rfl rfl) ?_
    exact zJ (hD1 (u3_1r2,u3_2r2,u3_3r2,u3_4r2,u7_1r2)) kr ((.of rfl):SubM _ _) .rfl .rfl ((.of [0,1,2,3,4] rfl):SelR _ _ _)
  refine zga (X:=Unit) (k':=7) (L':=(lb 10 7)) (fun _=>([(17,.agg #[yc yd 0,yc yd 10,yc yd 0,yc yd 0,yc yd 0,yc yd 1000,yc yd 0,yc yd 1,yc yd 0,yc yd 0,yc yd 100,yc yd 100,yc yd 0,yc yd 1000,yc yd 0,yc yd 1,yc yd 0,yc yd 0]),(19,.agg #[yc yd 64,yc yd 128]),(18,.agg #[yc yd 640,yc yd 0,yc yd 0]),(3,yc yd 0),(2,ye (some ⟨u7_1,0,none⟩)),(0,.bool false)],[],[boxA u7_1 46 (cw [u3_1,u3_2,u3_3,u3_4]),boxA b1 37 [yc yd 640,yc yd 0,yc yd 0]],[qF true u3_1 u3_2 ((120:Int):Rat),qF true u3_3 u3_4 ((-200:Int):Rat),sgF])) ?_ (fun hD4=> ?_)
  ·
   rintro ⟨⟩
   dsimp only [cw,cS]
   refine zib 3 7 kr ?_ ?_
   ·
    refine zm rfl rfl rfl rfl (.c rfl (.c rfl (.c rfl (.c rfl (.c rfl .n))))) ce14 (zld (s:=yz) (cm:=yB) (u:=64) (v:=128) (r:=0) (h:=0) (hfi:=yn) (hst:=yn) (hta:=yn) (htb:=yn) (hxa:=yn) (hya:=yn) (hza:=yn) (hqa:=yn) (hqb:=yn) (hqc:=yn) (hqd:=yn) (hxb:=yn) (hyb:=yn) (hzb:=yn) (hra:=yn) (hrb:=yn) (hrc:=yn) (hrd:=yn) (h64fo:=yn) (h64cx:=yn) (h64cy:=yn) (h64u:=yn) (h64v:=yn) (h64r:=yn) (h64h:=yn)) (.c (j:=2) rfl .n) ?_
    rintro ⟨u3_1r2,u3_2r2,u3_3r2,u3_4r2⟩ hph2
    dsimp only [aq,nq,cq]
    replace hph2:Sh.Cc yz yB 64 128 0 0≠0→u3_1r2=wz∧u3_2r2=wz∧u3_3r2=wz∧u3_4r2=wz:=hph2
    refine e_dm 4 rfl rfl rfl<|e_pv 5 rfl rfl (zy rfl rfl)<|e_pv 6 rfl rfl (zy rfl rfl) ?_
    exact zJ (hD2 (u3_1r2,u3_2r2,u3_3r2,u3_4r2)) kr ((.of rfl):SubM _ _) .rfl .rfl ((.of [0,1,2,3,4] rfl):SelR _ _ _)
   ·
    refine zua rfl rfl rfl rfl (zo zr46 rfl) (fun u7_1r2 _=> ?_)
    exact zJ (hD3 u7_1r2) kr ((.of rfl):SubM _ _) .rfl .rfl ((.of [0,1,2] rfl):SelR _ _ _)
  refine zga (X:=Nat) (k':=7) (L':=(lb 10 134)) (fun u7_1r2=>([(4,ye (some ⟨u7_1r2,0,none⟩)),(19,.agg #[yc yd 64,yc yd 128]),(18,.agg #[yc yd 640,yc yd 0,yc yd 0]),(3,yc yd 0),(2,ye (some ⟨u7_1,0,none⟩)),(0,.bool false)],[boxA u7_1r2 46 (cw [wz,wz,wz,wz])],[boxA u7_1 46 (cw [u3_1,u3_2,u3_3,u3_4]),boxA b1 37 [yc yd 640,yc yd 0,yc yd 0]],[qF true u3_1 u3_2 ((120:Int):Rat),qF true u3_3 u3_4 ((-200:Int):Rat),sgF])) ?_ (fun hD5=> ?_)
  ·
   rintro u7_1r2
   dsimp only [cw,cS]
   refine zFa 0 kr ?_
   ·
    refine zLa rfl rfl rfl rfl (.n) ce40 (zHb) (.n) ?_
    exact zJ (hD3 u7_1r2) kr ((.of rfl):SubM _ _) .rfl .rfl ((.of [0,1,2] rfl):SelR _ _ _)
  refine zib 0 7 kr ?_ ?_
  ·
   refine zLa rfl rfl rfl rfl (.n) ce40 (zHb) (.n) ?_
   exact zJ (hD4 ()) kr ((.of rfl):SubM _ _) .rfl .rfl ((.of [0,1,2] rfl):SelR _ _ _)
  ·
   refine zua rfl rfl rfl rfl (zo zr46 rfl) (fun u7_1r2 _=> ?_)
   exact zJ (hD5 u7_1r2) kr ((.of rfl):SubM _ _) .rfl .rfl ((.of [0,1,2] rfl):SelR _ _ _)
 refine zga (X:=Wd×Wd×Wd×Wd×Nat) (k':=2) (L':=(lb 10 255)) (fun (u3_1,u3_2,u3_3,u3_4,u7_1)=>([(2,ye (some ⟨u7_1,0,none⟩)),(15,yc yd (Sh.Gc yz yB 64 128 0)),(14,.agg (cw [u3_1,u3_2,u3_3,u3_4]).toArray),(1,ye (some ⟨b1,0,none⟩)),(0,.bool false)],[boxA u7_1 46 (cw [wz,wz,wz,wz])],[boxA b1 37 [yc yd 640,yc yd 0,yc yd 0]],[qF (decide (Sh.Gc yz yB 64 128 0=0)) u3_1 u3_2 (Sh.Gx yz yB 64 128 0),qF (decide (Sh.Gc yz yB 64 128 0=0)) u3_3 u3_4 (Sh.Gy yz yB 64 128 0),sgF])) ?_ (fun hD1=> ?_)
 ·
  rintro ⟨u3_1,u3_2,u3_3,u3_4,u7_1⟩
  dsimp only [cw,cS]
  refine zFa 8 kr ?_
  ·
   refine zp kr rfl rfl rfl rfl rfl sz46 rfl (.t8 .nil)<|e_pv 9 rfl rfl (zh rfl) ?_
   exact zJ (hD0 (u3_1,u3_2,u3_3,u3_4,u7_1)) kr ((.of rfl):SubM _ _) .rfl .rfl ((.of [0,1,2] rfl):SelR _ _ _)
 refine zga (X:=Wd×Wd×Wd×Wd) (k':=3) (L':=(lb 10 127)) (fun (u3_1,u3_2,u3_3,u3_4)=>([(15,yc yd (Sh.Gc yz yB 64 128 0)),(14,.agg (cw [u3_1,u3_2,u3_3,u3_4]).toArray),(1,ye (some ⟨b1,0,none⟩)),(0,.bool false)],[],[boxA b1 37 [yc yd 640,yc yd 0,yc yd 0]],[qF (decide (Sh.Gc yz yB 64 128 0=0)) u3_1 u3_2 (Sh.Gx yz yB 64 128 0),qF (decide (Sh.Gc yz yB 64 128 0=0)) u3_3 u3_4 (Sh.Gy yz yB 64 128 0),sgF])) ?_ (fun hD2=> ?_)
 ·
  rintro ⟨u3_1,u3_2,u3_3,u3_4⟩
  dsimp only [cw,cS]
  refine zFa 7 kr ?_
  ·
   refine zua rfl rfl rfl rfl (zo zr46 rfl) (fun u7_1 _=> ?_)
   exact zJ (hD1 (u3_1,u3_2,u3_3,u3_4,u7_1)) kr ((.of rfl):SubM _ _) .rfl .rfl ((.of [0,1,2] rfl):SelR _ _ _)
 refine zga (X:=Nat) (k':=6) (L':=(lb 10 135)) (fun u7_1=>([(2,ye (some ⟨u7_1,0,none⟩)),(10,.agg #[yc yd 0,yc yd 10,yc yd 0,yc yd 0,yc yd 0,yc yd 1000,yc yd 0,yc yd 1,yc yd 0,yc yd 0,yc yd 100,yc yd 100,yc yd 0,yc yd 1000,yc yd 0,yc yd 1,yc yd 0,yc yd 0]),(12,.agg #[yc yd 64,yc yd 128]),(11,.agg #[yc yd 640,yc yd 0,yc yd 0]),(1,ye (some ⟨b1,0,none⟩)),(0,.bool false)],[boxA u7_1 46 (cw [wz,wz,wz,wz])],[boxA b1 37 [yc yd 640,yc yd 0,yc yd 0]],[sgF])) ?_ (fun hD3=> ?_)
 ·
  rintro u7_1
  dsimp only [cw,cS]
  refine zFa 3 kr ?_
  ·
   refine zm rfl rfl rfl rfl (.c rfl (.c rfl (.c rfl (.c rfl .n)))) ce24 (zId (s:=yz) (cm:=yB) (u:=64) (v:=128) (h:=0) (hfi:=yn) (hst:=yn) (hta:=yn) (htb:=yn) (hxa:=yn) (hya:=yn) (hza:=yn) (hqa:=yn) (hqb:=yn) (hqc:=yn) (hqd:=yn) (hxb:=yn) (hyb:=yn) (hzb:=yn) (hra:=yn) (hrb:=yn) (hrc:=yn) (hrd:=yn) (h64fo:=yn) (h64cx:=yn) (h64cy:=yn) (h64u:=yn) (h64v:=yn) (h64h:=yn)) (.c (j:=0) rfl .n) ?_
   rintro ⟨u3_1,u3_2,u3_3,u3_4⟩ hph1
   dsimp only [aq,nq,cq]
   replace hph1:Sh.Gc yz yB 64 128 0≠0→u3_1=wz∧u3_2=wz∧u3_3=wz∧u3_4=wz:=hph1
   refine e_dm 4 rfl rfl rfl<|e_pv 5 rfl rfl (zy rfl rfl)<|e_pv 6 rfl rfl (zy rfl rfl) ?_
   exact zJ (hD1 (u3_1,u3_2,u3_3,u3_4,u7_1)) kr ((.of rfl):SubM _ _) .rfl .rfl ((.of [0,1,2] rfl):SelR _ _ _)
 refine zga (X:=Unit) (k':=7) (L':=(lb 10 7)) (fun _=>([(10,.agg #[yc yd 0,yc yd 10,yc yd 0,yc yd 0,yc yd 0,yc yd 1000,yc yd 0,yc yd 1,yc yd 0,yc yd 0,yc yd 100,yc yd 100,yc yd 0,yc yd 1000,yc yd 0,yc yd 1,yc yd 0,yc yd 0]),(12,.agg #[yc yd 64,yc yd 128]),(11,.agg #[yc yd 640,yc yd 0,yc yd 0]),(1,ye (some ⟨b1,0,none⟩)),(0,.bool false)],[],[boxA b1 37 [yc yd 640,yc yd 0,yc yd 0]],[sgF])) ?_ (fun hD4=> ?_)
 ·
  rintro ⟨⟩
  dsimp only
  refine zib 3 7 kr ?_ ?_
  ·
   refine zm rfl rfl rfl rfl (.c rfl (.c rfl (.c rfl (.c rfl .n)))) ce24 (zId (s:=yz) (cm:=yB) (u:=64) (v:=128) (h:=0) (hfi:=yn) (hst:=yn) (hta:=yn) (htb:=yn) (hxa:=yn) (hya:=yn) (hza:=yn) (hqa:=yn) (hqb:=yn) (hqc:=yn) (hqd:=yn) (hxb:=yn) (hyb:=yn) (hzb:=yn) (hra:=yn) (hrb:=yn) (hrc:=yn) (hrd:=yn) (h64fo:=yn) (h64cx:=yn) (h64cy:=yn) (h64u:=yn) (h64v:=yn) (h64h:=yn)) (.c (j:=0) rfl .n) ?_
   rintro ⟨u3_1,u3_2,u3_3,u3_4⟩ hph1
   dsimp only [aq,nq,cq]
   replace hph1:Sh.Gc yz yB 64 128 0≠0→u3_1=wz∧u3_2=wz∧u3_3=wz∧u3_4=wz:=hph1
   refine e_dm 4 rfl rfl rfl<|e_pv 5 rfl rfl (zy rfl rfl)<|e_pv 6 rfl rfl (zy rfl rfl) ?_
   exact zJ (hD2 (u3_1,u3_2,u3_3,u3_4)) kr ((.of rfl):SubM _ _) .rfl .rfl ((.of [0,1,2] rfl):SelR _ _ _)
  ·
   refine zua rfl rfl rfl rfl (zo zr46 rfl) (fun u7_1 _=> ?_)
   exact zJ (hD3 u7_1) kr ((.of rfl):SubM _ _) .rfl .rfl ((.c (j:=0) rfl .n):SelR _ _ _)
 refine zga (X:=Nat) (k':=7) (L':=(lb 10 134)) (fun u7_1=>([(2,ye (some ⟨u7_1,0,none⟩)),(12,.agg #[yc yd 64,yc yd 128]),(11,.agg #[yc yd 640,yc yd 0,yc yd 0]),(1,ye (some ⟨b1,0,none⟩)),(0,.bool false)],[boxA u7_1 46 (cw [wz,wz,wz,wz])],[boxA b1 37 [yc yd 640,yc yd 0,yc yd 0]],[sgF])) ?_ (fun hD5=> ?_)
 ·
  rintro u7_1
  dsimp only [cw,cS]
  refine zFa 0 kr ?_
  ·
   refine zLa rfl rfl rfl rfl (.n) ce40 (zHb) (.n) ?_
   exact zJ (hD3 u7_1) kr ((.of rfl):SubM _ _) .rfl .rfl ((.c (j:=0) rfl .n):SelR _ _ _)
 refine zib 0 7 kr ?_ ?_
 ·
  refine zLa rfl rfl rfl rfl (.n) ce40 (zHb) (.n) ?_
  exact zJ (hD4 ()) kr ((.of rfl):SubM _ _) .rfl .rfl ((.c (j:=0) rfl .n):SelR _ _ _)
 ·
  refine zua rfl rfl rfl rfl (zo zr46 rfl) (fun u7_1 _=> ?_)
  exact zJ (hD5 u7_1) kr ((.of rfl):SubM _ _) .rfl .rfl ((.c (j:=0) rfl .n):SelR _ _ _)
end Go.Proofs.YtjeahiahjgifgaaGreatDoor.Sp
namespace Go.Proofs.YtjeahiahjgifgaaGreatDoor.Sp
open Go
set_option linter.unusedVariables false
set_option maxRecDepth 100000
set_option maxHeartbeats 8000000
theorem zPf {p:Option Addr} {n:Nat} {cap:Nat} {l:List Rat} (hn:l.length=n) (hn9:n≤9) (hl:Sh.hqAll 20 l):Con yC 85 [.slice p n cap] [] [slF rQ p cap l] (Y:=Wd×Wd) (fun y=>True) (fun y=> .agg #[y.1.b,y.1.l,y.2.b,y.2.l]) (fun y=>[]) (fun y=>[qF true y.1 y.2 (yE l)]):=by
 refine zv Tryz.func85 rfl rfl rfl (fun c=> ?_)
 show RunC _ _ _ _ _ [(0,.slice p n cap)] [] [slF rQ p cap l]
 refine zqa 0 rfl (fun hL0=> ?_)
 refine zj<|zc<|zE rfl rfl (zo zr44 rfl) (fun b1=> ?_)
 refine zk<|zg<|zj<|zc<|zG rfl rfl (.c rfl .n) ce22 (zva (z:=0) (hz:=by first|rfl|assumption|omega|(have h1:=Sh.sumL_hq hl i om;have h2:=Sh.hqAll_get hl i om;omega))) (.n) ?_
 rintro ⟨w32,w43⟩ -
 dsimp only [aq,nq,cq]
 refine zE rfl rfl (zo zr44 rfl) (fun b4=> ?_)
 refine zl 0 rfl rfl rfl rfl rfl sz44 rfl (.t4 .nil) .z<|zk<|zg<|zj<|zj<|zc<|e_p (zh rfl)<|zk<|zg<|zt<|zBa (X:=Nat×Wd×Wd) (fun x:Nat×Wd×Wd=>x.1≤n) (fun x=>[(4,yc yd ((x.1:Nat):Int)),(3,ye (some ⟨b4,0,none⟩)),(2,ye (some ⟨b1,0,none⟩)),(0,.slice p n cap)]) (fun x=>[boxA b4 44 (cw [x.2.1,x.2.2]),boxA b1 44 (cw [wz,wz])]) (fun x=>[qF true x.2.1 x.2.2 (yE (l.take x.1)),qF true w32 w43 ((0:Int):Rat),slF rQ p cap l]) (fun x:Nat×Wd×Wd=>n - x.1) (0,w32,w43) (show 0≤n from by exact Nat.zero_le _) ((.e rfl (by first|rfl|(congr 1;omega)|simp_all) (.of rfl)):SubM _ _) (ho:=((.of [0,0] rfl):PickO _ _ _)) ((.e (j:=0) rfl (by rfl) (.of [0,1] rfl)):SelR _ _ _) ?_
 rintro ⟨i,wa,wb⟩ hI
 replace hI:i≤n:=hI
 try dsimp only [cw]
 refine zj<|zj<|zc<|e_mv rfl<|e_mv rfl<|e_p (zfa yw rfl)<|e_p (zO rfl rfl)<|zk<|zg<|zT rfl (fun h5=> ?_) (fun h5=> ?_)
 ·
  refine zw<|zg<|zj<|zt<|zP (OW:=[boxA b4 44 (cw [wa,wb])]) (O:=[boxA b1 44 (cw [wz,wz])]) 6 mixed (.block (.then (.then (.block (.then .ret))))) kr<|e_uw 0 rfl rfl (zd 0 ty44 rfl rfl (.t4 .nil))<|e_dm 1 rfl rfl rfl<|e_dm 2 rfl rfl rfl<|d_vl 3 rfl rfl kr kr rfl rfl (zLd (x0:=(l.getD i (0:Rat))) 2 i rfl yw sz44 rfl cbs rfl rfl (gD (d:=(0:Rat)) om)) ?_
  rintro ⟨b6,o7,w8,w9⟩ -
  dsimp only [aq,nq,cq]
  refine d_mapR open_rQ<|e_u 4 rfl rfl (zba (j:=0) 0 ty44 rfl rfl rfl (.t4 .nil))<|e_one 5 (zm rfl rfl rfl rfl (.c rfl (.c rfl .n)) ce25 (zNa (k1:=true) (u1:=wa) (v1:=wb) (q1:=(yE (l.take i))) (k2:=true) (u2:=w8) (v2:=w9) (q2:=(l.getD i (0:Rat))) (hl:=by first|rfl|assumption|omega|(have h1:=Sh.sumL_hq hl i om;have h2:=Sh.hqAll_get hl i om;omega))) (.c (j:=2) rfl (.c (j:=1) rfl .n)) ?_)
  rintro ⟨w310,w411⟩ -
  dsimp only [aq,nq,cq]
  refine e_one 6 (zp kr rfl rfl rfl rfl rfl sz44 rfl (.t4 .nil) ?_)
  refine zN kr<|zI<|zg<|zc<|e_mv rfl<|e_p (zH (z:=(((i+1):Nat):Int)) rfl rfl (w64 om))<|e_p (zh rfl)<|zk<|zwa ((i+1),w310,w411) (show (i+1)≤n from by omega) (by show n - (i+1)<n - i;omega) ((.of rfl):SubM _ _) (ho:=((.of [0,0] rfl):PickO _ _ _)) ((.e (j:=0) rfl (by rw [Sh.sumL_take om]) (.of [4,5] rfl)):SelR _ _ _)
 ·
  refine zla<|zn<|zn<|zA<|zg<|zj<|zc<|e_ru (zd 0 ty44 rfl rfl (.t4 .nil))<|zl 1 rfl rfl rfl rfl rfl sz44 rfl (.t4 .nil) (.s .z)<|zk<|zg<|zS ?_
  have hfin:l.take i=l:=List.take_of_length_le om
  exact zM Tryz.results85 (wa,wb) trivial (zr 1 ty44 rfl rfl (.t4 .nil)) rfl (ho:=(.n:PickO _ _ _)) ((.e (j:=0) rfl (by rw [hfin]) .n):SelR _ _ _)
theorem zRa {ea:Int} {eb:Int} (ha: -9223372036854775808≤ea∧ea≤9223372036854775807) (hb: -9223372036854775808≤eb∧eb≤9223372036854775807):Con yC 83 [yc yd ea,yc yd eb] [] [] (Y:=Wd×Wd) (fun y=>True) (fun y=> .agg #[y.1.b,y.1.l,y.2.b,y.2.l]) (fun y=>[]) (fun y=>[qF true y.1 y.2 (yp ea eb)]):=by
 refine zv Tryz.func83 rfl rfl rfl (fun c=> ?_)
 show RunC _ _ _ _ _ [(0,yc yd ea),(1,yc yd eb)] [] []
 refine zj<|zc<|zE rfl rfl (zo zr44 rfl) (fun b1=> ?_)
 refine zk<|zg<|zj<|zc<|e_mv rfl<|zG rfl rfl (.c rfl .n) ce22 (zva (z:=ea) (hz:=ass)) (.n) ?_
 rintro ⟨w32,w43⟩ -
 dsimp only [aq,nq,cq]
 refine e_mv rfl<|zG rfl rfl (.c rfl .n) ce22 (zva (z:=eb) (hz:=ass)) (.n) ?_
 rintro ⟨w34,w45⟩ -
 dsimp only [aq,nq,cq]
 refine zG rfl rfl (.c rfl (.c rfl .n)) ce54 (zXa (k1:=true) (u1:=w32) (v1:=w43) (q1:=((ea:Int):Rat)) (k2:=true) (u2:=w34) (v2:=w45) (q2:=((eb:Int):Rat)) (hl:=yG)) (.c (j:=1) rfl (.c (j:=0) rfl .n)) ?_
 rintro ⟨w36,w47⟩ -
 dsimp only [aq,nq,cq]
 refine zl 0 rfl rfl rfl rfl rfl sz44 rfl (.t4 .nil) .z<|zk<|zg<|zS ?_
 exact zM Tryz.results83 (w36,w47) trivial (zr 0 ty44 rfl rfl (.t4 .nil)) rfl (ho:=(.n:PickO _ _ _)) ((.c (j:=0) rfl .n):SelR _ _ _)
theorem zXb {p:Option Addr} {n:Nat} {cap:Nat} {l:List Rat} (hn:l.length=n) (hn9:n≤9) (hl:Sh.hqAll 20 l):Con yC 84 [.slice p n cap] [] [slF rQ p cap l] (Y:=Wd×Wd) (fun y=>True) (fun y=> .agg #[y.1.b,y.1.l,y.2.b,y.2.l]) (fun y=>[]) (fun y=>[qF true y.1 y.2 (yE l)]):=by
 refine zv Tryz.func84 rfl rfl rfl (fun c=> ?_)
 show RunC _ _ _ _ _ [(0,.slice p n cap)] [] [slF rQ p cap l]
 refine zqa 0 rfl (fun hL0=> ?_)
 refine zj<|zc<|zE rfl rfl (zo zr44 rfl) (fun b1=> ?_)
 refine zk<|zg<|zj<|zc<|e_mv rfl<|zG rfl rfl (.c rfl .n) ce85 (zPf (p:=p) (n:=n) (cap:=cap) (l:=l) (hn:=ass) (hn9:=ass) (hl:=ass)) (.c (j:=0) rfl .n) ?_
 rintro ⟨w32,w43⟩ -
 dsimp only [aq,nq,cq]
 refine zl 0 rfl rfl rfl rfl rfl sz44 rfl (.t4 .nil) .z<|zk<|zg<|zS ?_
 exact zM Tryz.results84 (w32,w43) trivial (zr 0 ty44 rfl rfl (.t4 .nil)) rfl (ho:=(.n:PickO _ _ _)) ((.c (j:=0) rfl .n):SelR _ _ _)
theorem zLc {k1:Bool} {u1:Wd} {v1:Wd} {q1:Rat} (hl:yT q1+yT q1+1≤1048576):Con yC 86 [.agg #[u1.b,u1.l,v1.b,v1.l]] [] [qF k1 u1 v1 q1] (Y:=Wd×Wd) (fun y=>True) (fun y=> .agg #[y.1.b,y.1.l,y.2.b,y.2.l]) (fun y=>[]) (fun y=>[qF true y.1 y.2 (q1+q1)]):=by
 refine zv Tryz.func86 rfl rfl rfl (fun c=> ?_)
 show RunC _ _ _ _ _ [(0,.agg #[u1.b,u1.l,v1.b,v1.l])] [] [qF k1 u1 v1 q1]
 refine zj<|zc<|zE rfl rfl (zZ rfl rfl) (fun b1=> ?_)
 refine zE rfl rfl (zo zr44 rfl) (fun b2=> ?_)
 refine zk<|zg<|zj<|zc<|e_ru (zd 1 ty44 rfl rfl (.t4 .nil))<|e_ru (zd 1 ty44 rfl rfl (.t4 .nil))<|zG rfl rfl (.c rfl (.c rfl .n)) ce25 (zNa (k1:=k1) (u1:=u1) (v1:=v1) (q1:=q1) (k2:=k1) (u2:=u1) (v2:=v1) (q2:=q1) (hl:=ass)) (.c (j:=0) rfl (.c (j:=0) rfl .n)) ?_
 rintro ⟨w33,w44⟩ -
 dsimp only [aq,nq,cq]
 refine zl 0 rfl rfl rfl rfl rfl sz44 rfl (.t4 .nil) .z<|zk<|zg<|zS ?_
 exact zM Tryz.results86 (w33,w44) trivial (zr 0 ty44 rfl rfl (.t4 .nil)) rfl (ho:=(.n:PickO _ _ _)) ((.c (j:=0) rfl .n):SelR _ _ _)
end Go.Proofs.YtjeahiahjgifgaaGreatDoor.Sp
namespace Go.Proofs.YtjeahiahjgifgaaGreatDoor.Sp
open Go
set_option linter.unusedVariables false
set_option maxRecDepth 100000
set_option maxHeartbeats 8000000
theorem znd {q:Sh.Q4} (hsm:Sh.sm q):Con yC 50 [.agg #[yc yd (q.1),yc yd (q.2.1),yc yd (q.2.2.1),yc yd (q.2.2.2)]] [] [] (Y:=Wd×Wd×Wd×Wd×Wd×Wd×Wd×Wd×Wd×Wd×Wd×Wd×Wd×Wd×Wd×Wd×Wd×Wd) (fun y=>True) (fun y=> .agg #[y.1.b,y.1.l,y.2.1.b,y.2.1.l,y.2.2.1.b,y.2.2.1.l,y.2.2.2.1.b,y.2.2.2.1.l,y.2.2.2.2.1.b,y.2.2.2.2.1.l,y.2.2.2.2.2.1.b,y.2.2.2.2.2.1.l,y.2.2.2.2.2.2.1.b,y.2.2.2.2.2.2.1.l,y.2.2.2.2.2.2.2.1.b,y.2.2.2.2.2.2.2.1.l,y.2.2.2.2.2.2.2.2.1.b,y.2.2.2.2.2.2.2.2.1.l,y.2.2.2.2.2.2.2.2.2.1.b,y.2.2.2.2.2.2.2.2.2.1.l,y.2.2.2.2.2.2.2.2.2.2.1.b,y.2.2.2.2.2.2.2.2.2.2.1.l,y.2.2.2.2.2.2.2.2.2.2.2.1.b,y.2.2.2.2.2.2.2.2.2.2.2.1.l,y.2.2.2.2.2.2.2.2.2.2.2.2.1.b,y.2.2.2.2.2.2.2.2.2.2.2.2.1.l,y.2.2.2.2.2.2.2.2.2.2.2.2.2.1.b,y.2.2.2.2.2.2.2.2.2.2.2.2.2.1.l,y.2.2.2.2.2.2.2.2.2.2.2.2.2.2.1.b,y.2.2.2.2.2.2.2.2.2.2.2.2.2.2.1.l,y.2.2.2.2.2.2.2.2.2.2.2.2.2.2.2.1.b,y.2.2.2.2.2.2.2.2.2.2.2.2.2.2.2.1.l,y.2.2.2.2.2.2.2.2.2.2.2.2.2.2.2.2.1.b,y.2.2.2.2.2.2.2.2.2.2.2.2.2.2.2.2.1.l,y.2.2.2.2.2.2.2.2.2.2.2.2.2.2.2.2.2.b,y.2.2.2.2.2.2.2.2.2.2.2.2.2.2.2.2.2.l]) (fun y=>[]) (fun y=>[qF true y.1 y.2.1 ((yA q).1.1),qF true y.2.2.1 y.2.2.2.1 ((yA q).1.2.1),qF true y.2.2.2.2.1 y.2.2.2.2.2.1 ((yA q).1.2.2),qF true y.2.2.2.2.2.2.1 y.2.2.2.2.2.2.2.1 ((yA q).2.1.1),qF true y.2.2.2.2.2.2.2.2.1 y.2.2.2.2.2.2.2.2.2.1 ((yA q).2.1.2.1),qF true y.2.2.2.2.2.2.2.2.2.2.1 y.2.2.2.2.2.2.2.2.2.2.2.1 ((yA q).2.1.2.2),qF true y.2.2.2.2.2.2.2.2.2.2.2.2.1 y.2.2.2.2.2.2.2.2.2.2.2.2.2.1 ((yA q).2.2.1),qF true y.2.2.2.2.2.2.2.2.2.2.2.2.2.2.1 y.2.2.2.2.2.2.2.2.2.2.2.2.2.2.2.1 ((yA q).2.2.2.1),qF true y.2.2.2.2.2.2.2.2.2.2.2.2.2.2.2.2.1 y.2.2.2.2.2.2.2.2.2.2.2.2.2.2.2.2.2 ((yA q).2.2.2.2)]):=by
 refine zv Tryz.func50 rfl rfl rfl (fun c=> ?_)
 show RunC _ _ _ _ _ [(0,.agg #[yc yd (q.1),yc yd (q.2.1),yc yd (q.2.2.1),yc yd (q.2.2.2)])] [] []
 obtain ⟨hm1,hm2,hm3,hm4⟩:=hsm
 have hmm00:=yO (a:=q.1) (b:=q.1) om om
 have hmm01:=yO (a:=q.1) (b:=q.2.1) om om
 have hmm02:=yO (a:=q.1) (b:=q.2.2.1) om om
 have hmm03:=yO (a:=q.1) (b:=q.2.2.2) om om
 have hmm11:=yO (a:=q.2.1) (b:=q.2.1) om om
 have hmm12:=yO (a:=q.2.1) (b:=q.2.2.1) om om
 have hmm13:=yO (a:=q.2.1) (b:=q.2.2.2) om om
 have hmm22:=yO (a:=q.2.2.1) (b:=q.2.2.1) om om
 have hmm23:=yO (a:=q.2.2.1) (b:=q.2.2.2) om om
 have hmm33:=yO (a:=q.2.2.2) (b:=q.2.2.2) om om
 refine zj<|zc<|zE rfl rfl (zZ rfl rfl) (fun b1=> ?_)
 refine zE rfl rfl (zo zr97 rfl) (fun b2=> ?_)
 refine zk<|zg<|zj<|zc<|e_p (zh rfl)<|zk<|zg<|zj<|zc<|e_p (zh rfl)<|zk<|zg<|zj<|zc<|e_p (zh rfl)<|zk<|zg<|zj<|zc<|e_p (zh rfl)<|zk<|zg<|zj<|zP (OW:=[]) (O:=[boxA b2 97 (cw [wz,wz,wz,wz,wz,wz,wz,wz,wz,wz,wz,wz,wz,wz,wz,wz,wz,wz]),boxA b1 25 [yc yd (q.1),yc yd (q.2.1),yc yd (q.2.2.1),yc yd (q.2.2.2)]]) 100000 mixed (.then .ret) kr<|e_pv 0 rfl rfl (zf yj rfl sz3 rfl rfl)<|e_u 1 rfl rfl (ze 1 ty3 rfl rfl rfl)<|e_pv 2 rfl rfl (zf yj rfl sz3 rfl rfl)<|e_u 3 rfl rfl (ze 1 ty3 rfl rfl rfl)<|e_pv 4 rfl rfl (zf yj rfl sz3 rfl rfl)<|e_u 5 rfl rfl (ze 1 ty3 rfl rfl rfl)<|e_pv 6 rfl rfl (zf yj rfl sz3 rfl rfl)<|e_u 7 rfl rfl (ze 1 ty3 rfl rfl rfl)<|e_pv 8 rfl rfl (zh rfl)<|e_pv 9 rfl rfl (zh rfl)<|e_pv 10 rfl rfl (zh rfl)<|e_pv 11 rfl rfl (zh rfl)<|zN kr<|zg<|zj<|zc<|e_mv rfl<|e_mv rfl<|e_mv rfl<|e_mv rfl<|zxa (first:=[]) (cap:=[]) rfl rfl rfl (.c rfl (.c rfl .n)) ce83 (zRa (ea:=q.1) (eb:=q.1) (ha:=yt) (hb:=yt)) (.n) ?_
 rintro ⟨w33,w44⟩ -
 dsimp only [aq,nq,cq]
 refine e_mv rfl<|e_mv rfl<|e_mv rfl<|zxa (first:=[]) (cap:=[]) rfl rfl rfl (.c rfl (.c rfl .n)) ce83 (zRa (ea:=q.2.1) (eb:=q.2.1) (ha:=yt) (hb:=yt)) (.n) ?_
 rintro ⟨w35,w46⟩ -
 dsimp only [aq,nq,cq]
 refine e_mv rfl<|e_mv rfl<|e_mv rfl<|e_mv rfl<|zxa (first:=[]) (cap:=[]) rfl rfl rfl (.c rfl (.c rfl .n)) ce83 (zRa (ea:=q.2.2.1) (eb:=q.2.2.1) (ha:=yt) (hb:=yt)) (.n) ?_
 rintro ⟨w37,w48⟩ -
 dsimp only [aq,nq,cq]
 refine zxa (first:=[]) (cap:=[]) rfl rfl rfl (.c rfl .n) ce62 (zqb (k1:=true) (u1:=w37) (v1:=w48) (q1:=(yp q.2.2.1 q.2.2.1)) (hl:=yt)) (.c (j:=0) rfl .n) ?_
 rintro ⟨w39,w410⟩ -
 dsimp only [aq,nq,cq]
 refine e_mv rfl<|e_mv rfl<|e_mv rfl<|e_mv rfl<|zxa (first:=[]) (cap:=[]) rfl rfl rfl (.c rfl (.c rfl .n)) ce83 (zRa (ea:=q.2.2.2) (eb:=q.2.2.2) (ha:=yt) (hb:=yt)) (.n) ?_
 rintro ⟨w311,w412⟩ -
 dsimp only [aq,nq,cq]
 refine zxa (first:=[]) (cap:=[]) rfl rfl rfl (.c rfl .n) ce62 (zqb (k1:=true) (u1:=w311) (v1:=w412) (q1:=(yp q.2.2.2 q.2.2.2)) (hl:=yt)) (.c (j:=0) rfl .n) ?_
 rintro ⟨w313,w414⟩ -
 dsimp only [aq,nq,cq]
 refine zDa rfl rfl (zIa (r:=rQ) (k:=4) yw inf44 rfl dd dd dd (.c (x:=(yp q.1 q.1)) (cs:=[w33.b,w33.l,w44.b,w44.l]) (w33,w44) rfl rfl rfl (fun g hr=>Holds.get 5 rfl hr) (.c (x:=(yp q.2.1 q.2.1)) (cs:=[w35.b,w35.l,w46.b,w46.l]) (w35,w46) rfl rfl rfl (fun g hr=>Holds.get 4 rfl hr) (.c (x:=(- (yp q.2.2.1 q.2.2.1))) (cs:=[w39.b,w39.l,w410.b,w410.l]) (w39,w410) rfl rfl rfl (fun g hr=>Holds.get 2 rfl hr) (.c (x:=(- (yp q.2.2.2 q.2.2.2))) (cs:=[w313.b,w313.l,w414.b,w414.l]) (w313,w414) rfl rfl rfl (fun g hr=>Holds.get 0 rfl hr) .n))))) (fun b15 _=> ?_)
 refine zia 0 rfl .z<|zxa (first:=[]) (cap:=[]) rfl rfl rfl (.c rfl .n) ce84 (zXb (p:=some ⟨b15,0,none⟩) (n:=4) (cap:=4) (l:=[(yp q.1 q.1),(yp q.2.1 q.2.1),(- (yp q.2.2.1 q.2.2.1)),(- (yp q.2.2.2 q.2.2.2))]) (hn:=yt) (hn9:=yt) (hl:=yt)) (.c (j:=0) rfl .n) ?_
 rintro ⟨w316,w417⟩ -
 dsimp only [aq,nq,cq]
 have e18:((yE ([(yp q.1 q.1),(yp q.2.1 q.2.1),(- (yp q.2.2.1 q.2.2.1)),(- (yp q.2.2.2 q.2.2.2))])):Rat)=(yA q).1.1:=by exact Sh.d_ppmm q.1 q.2.1 q.2.2.1 q.2.2.2
 rw [e18]
 refine e_mv rfl<|e_mv rfl<|e_mv rfl<|e_mv rfl<|e_mv rfl<|zxa (first:=[]) (cap:=[]) rfl rfl rfl (.c rfl (.c rfl .n)) ce83 (zRa (ea:=q.2.1) (eb:=q.2.2.1) (ha:=yt) (hb:=yt)) (.n) ?_
 rintro ⟨w319,w420⟩ -
 dsimp only [aq,nq,cq]
 refine e_mv rfl<|e_mv rfl<|e_mv rfl<|e_mv rfl<|zxa (first:=[]) (cap:=[]) rfl rfl rfl (.c rfl (.c rfl .n)) ce83 (zRa (ea:=q.1) (eb:=q.2.2.2) (ha:=yt) (hb:=yt)) (.n) ?_
 rintro ⟨w321,w422⟩ -
 dsimp only [aq,nq,cq]
 refine zxa (first:=[]) (cap:=[]) rfl rfl rfl (.c rfl .n) ce62 (zqb (k1:=true) (u1:=w321) (v1:=w422) (q1:=(yp q.1 q.2.2.2)) (hl:=yt)) (.c (j:=0) rfl .n) ?_
 rintro ⟨w323,w424⟩ -
 dsimp only [aq,nq,cq]
 refine zDa rfl rfl (zIa (r:=rQ) (k:=2) yw inf44 rfl dd dd dd (.c (x:=(yp q.2.1 q.2.2.1)) (cs:=[w319.b,w319.l,w420.b,w420.l]) (w319,w420) rfl rfl rfl (fun g hr=>Holds.get 2 rfl hr) (.c (x:=(- (yp q.1 q.2.2.2))) (cs:=[w323.b,w323.l,w424.b,w424.l]) (w323,w424) rfl rfl rfl (fun g hr=>Holds.get 0 rfl hr) .n))) (fun b25 _=> ?_)
 refine zia 0 rfl .z<|zxa (first:=[]) (cap:=[]) rfl rfl rfl (.c rfl .n) ce84 (zXb (p:=some ⟨b25,0,none⟩) (n:=2) (cap:=2) (l:=[(yp q.2.1 q.2.2.1),(- (yp q.1 q.2.2.2))]) (hn:=yt) (hn9:=yt) (hl:=yt)) (.c (j:=0) rfl .n) ?_
 rintro ⟨w326,w427⟩ -
 dsimp only [aq,nq,cq]
 refine zxa (first:=[]) (cap:=[]) rfl rfl rfl (.c rfl .n) ce86 (zLc (k1:=true) (u1:=w326) (v1:=w427) (q1:=(yE ([(yp q.2.1 q.2.2.1),(- (yp q.1 q.2.2.2))]))) (hl:=yt)) (.c (j:=0) rfl .n) ?_
 rintro ⟨w328,w429⟩ -
 dsimp only [aq,nq,cq]
 have e30:((yE ([(yp q.2.1 q.2.2.1),(- (yp q.1 q.2.2.2))]))+(yE ([(yp q.2.1 q.2.2.1),(- (yp q.1 q.2.2.2))])):Rat)=(yA q).1.2.1:=by exact Sh.o_pm q.2.1 q.2.2.1 q.1 q.2.2.2
 rw [e30]
 refine e_mv rfl<|e_mv rfl<|e_mv rfl<|e_mv rfl<|e_mv rfl<|zxa (first:=[]) (cap:=[]) rfl rfl rfl (.c rfl (.c rfl .n)) ce83 (zRa (ea:=q.2.1) (eb:=q.2.2.2) (ha:=yt) (hb:=yt)) (.n) ?_
 rintro ⟨w331,w432⟩ -
 dsimp only [aq,nq,cq]
 refine e_mv rfl<|e_mv rfl<|e_mv rfl<|zxa (first:=[]) (cap:=[]) rfl rfl rfl (.c rfl (.c rfl .n)) ce83 (zRa (ea:=q.1) (eb:=q.2.2.1) (ha:=yt) (hb:=yt)) (.n) ?_
 rintro ⟨w333,w434⟩ -
 dsimp only [aq,nq,cq]
 refine zDa rfl rfl (zIa (r:=rQ) (k:=2) yw inf44 rfl dd dd dd (.c (x:=(yp q.2.1 q.2.2.2)) (cs:=[w331.b,w331.l,w432.b,w432.l]) (w331,w432) rfl rfl rfl (fun g hr=>Holds.get 1 rfl hr) (.c (x:=(yp q.1 q.2.2.1)) (cs:=[w333.b,w333.l,w434.b,w434.l]) (w333,w434) rfl rfl rfl (fun g hr=>Holds.get 0 rfl hr) .n))) (fun b35 _=> ?_)
 refine zia 0 rfl .z<|zxa (first:=[]) (cap:=[]) rfl rfl rfl (.c rfl .n) ce84 (zXb (p:=some ⟨b35,0,none⟩) (n:=2) (cap:=2) (l:=[(yp q.2.1 q.2.2.2),(yp q.1 q.2.2.1)]) (hn:=yt) (hn9:=yt) (hl:=yt)) (.c (j:=0) rfl .n) ?_
 rintro ⟨w336,w437⟩ -
 dsimp only [aq,nq,cq]
 refine zxa (first:=[]) (cap:=[]) rfl rfl rfl (.c rfl .n) ce86 (zLc (k1:=true) (u1:=w336) (v1:=w437) (q1:=(yE ([(yp q.2.1 q.2.2.2),(yp q.1 q.2.2.1)]))) (hl:=yt)) (.c (j:=0) rfl .n) ?_
 rintro ⟨w338,w439⟩ -
 dsimp only [aq,nq,cq]
 have e40:((yE ([(yp q.2.1 q.2.2.2),(yp q.1 q.2.2.1)]))+(yE ([(yp q.2.1 q.2.2.2),(yp q.1 q.2.2.1)])):Rat)=(yA q).1.2.2:=by exact Sh.o_pp q.2.1 q.2.2.2 q.1 q.2.2.1
 rw [e40]
 refine e_p (zsa zr54 rfl yf sz44 (.c rfl (.c rfl (.c rfl .n))) (.c rfl rfl rfl (.t4 .nil) (.c rfl rfl rfl (.s4 (.t4 .nil)) (.c rfl rfl rfl (.s8 (.t4 .nil)) .n))))<|e_mv rfl<|e_mv rfl<|e_mv rfl<|e_mv rfl<|e_mv rfl<|zxa (first:=[]) (cap:=[]) rfl rfl rfl (.c rfl (.c rfl .n)) ce83 (zRa (ea:=q.2.1) (eb:=q.2.2.1) (ha:=yt) (hb:=yt)) (.n) ?_
 rintro ⟨w341,w442⟩ -
 dsimp only [aq,nq,cq]
 refine e_mv rfl<|e_mv rfl<|e_mv rfl<|zxa (first:=[]) (cap:=[]) rfl rfl rfl (.c rfl (.c rfl .n)) ce83 (zRa (ea:=q.1) (eb:=q.2.2.2) (ha:=yt) (hb:=yt)) (.n) ?_
 rintro ⟨w343,w444⟩ -
 dsimp only [aq,nq,cq]
 refine zDa rfl rfl (zIa (r:=rQ) (k:=2) yw inf44 rfl dd dd dd (.c (x:=(yp q.2.1 q.2.2.1)) (cs:=[w341.b,w341.l,w442.b,w442.l]) (w341,w442) rfl rfl rfl (fun g hr=>Holds.get 1 rfl hr) (.c (x:=(yp q.1 q.2.2.2)) (cs:=[w343.b,w343.l,w444.b,w444.l]) (w343,w444) rfl rfl rfl (fun g hr=>Holds.get 0 rfl hr) .n))) (fun b45 _=> ?_)
 refine zia 0 rfl .z<|zxa (first:=[]) (cap:=[]) rfl rfl rfl (.c rfl .n) ce84 (zXb (p:=some ⟨b45,0,none⟩) (n:=2) (cap:=2) (l:=[(yp q.2.1 q.2.2.1),(yp q.1 q.2.2.2)]) (hn:=yt) (hn9:=yt) (hl:=yt)) (.c (j:=0) rfl .n) ?_
 rintro ⟨w346,w447⟩ -
 dsimp only [aq,nq,cq]
 refine zxa (first:=[]) (cap:=[]) rfl rfl rfl (.c rfl .n) ce86 (zLc (k1:=true) (u1:=w346) (v1:=w447) (q1:=(yE ([(yp q.2.1 q.2.2.1),(yp q.1 q.2.2.2)]))) (hl:=yt)) (.c (j:=0) rfl .n) ?_
 rintro ⟨w348,w449⟩ -
 dsimp only [aq,nq,cq]
 have e50:((yE ([(yp q.2.1 q.2.2.1),(yp q.1 q.2.2.2)]))+(yE ([(yp q.2.1 q.2.2.1),(yp q.1 q.2.2.2)])):Rat)=(yA q).2.1.1:=by exact Sh.o_pp q.2.1 q.2.2.1 q.1 q.2.2.2
 rw [e50]
 refine e_mv rfl<|e_mv rfl<|e_mv rfl<|e_mv rfl<|zxa (first:=[]) (cap:=[]) rfl rfl rfl (.c rfl (.c rfl .n)) ce83 (zRa (ea:=q.1) (eb:=q.1) (ha:=yt) (hb:=yt)) (.n) ?_
 rintro ⟨w351,w452⟩ -
 dsimp only [aq,nq,cq]
 refine e_mv rfl<|e_mv rfl<|e_mv rfl<|e_mv rfl<|zxa (first:=[]) (cap:=[]) rfl rfl rfl (.c rfl (.c rfl .n)) ce83 (zRa (ea:=q.2.1) (eb:=q.2.1) (ha:=yt) (hb:=yt)) (.n) ?_
 rintro ⟨w353,w454⟩ -
 dsimp only [aq,nq,cq]
 refine zxa (first:=[]) (cap:=[]) rfl rfl rfl (.c rfl .n) ce62 (zqb (k1:=true) (u1:=w353) (v1:=w454) (q1:=(yp q.2.1 q.2.1)) (hl:=yt)) (.c (j:=0) rfl .n) ?_
 rintro ⟨w355,w456⟩ -
 dsimp only [aq,nq,cq]
 refine e_mv rfl<|e_mv rfl<|e_mv rfl<|zxa (first:=[]) (cap:=[]) rfl rfl rfl (.c rfl (.c rfl .n)) ce83 (zRa (ea:=q.2.2.1) (eb:=q.2.2.1) (ha:=yt) (hb:=yt)) (.n) ?_
 rintro ⟨w357,w458⟩ -
 dsimp only [aq,nq,cq]
 refine e_mv rfl<|e_mv rfl<|e_mv rfl<|e_mv rfl<|zxa (first:=[]) (cap:=[]) rfl rfl rfl (.c rfl (.c rfl .n)) ce83 (zRa (ea:=q.2.2.2) (eb:=q.2.2.2) (ha:=yt) (hb:=yt)) (.n) ?_
 rintro ⟨w359,w460⟩ -
 dsimp only [aq,nq,cq]
 refine zxa (first:=[]) (cap:=[]) rfl rfl rfl (.c rfl .n) ce62 (zqb (k1:=true) (u1:=w359) (v1:=w460) (q1:=(yp q.2.2.2 q.2.2.2)) (hl:=yt)) (.c (j:=0) rfl .n) ?_
 rintro ⟨w361,w462⟩ -
 dsimp only [aq,nq,cq]
 refine zDa rfl rfl (zIa (r:=rQ) (k:=4) yw inf44 rfl dd dd dd (.c (x:=(yp q.1 q.1)) (cs:=[w351.b,w351.l,w452.b,w452.l]) (w351,w452) rfl rfl rfl (fun g hr=>Holds.get 5 rfl hr) (.c (x:=(- (yp q.2.1 q.2.1))) (cs:=[w355.b,w355.l,w456.b,w456.l]) (w355,w456) rfl rfl rfl (fun g hr=>Holds.get 3 rfl hr) (.c (x:=(yp q.2.2.1 q.2.2.1)) (cs:=[w357.b,w357.l,w458.b,w458.l]) (w357,w458) rfl rfl rfl (fun g hr=>Holds.get 2 rfl hr) (.c (x:=(- (yp q.2.2.2 q.2.2.2))) (cs:=[w361.b,w361.l,w462.b,w462.l]) (w361,w462) rfl rfl rfl (fun g hr=>Holds.get 0 rfl hr) .n))))) (fun b63 _=> ?_)
 refine zia 0 rfl .z<|zxa (first:=[]) (cap:=[]) rfl rfl rfl (.c rfl .n) ce84 (zXb (p:=some ⟨b63,0,none⟩) (n:=4) (cap:=4) (l:=[(yp q.1 q.1),(- (yp q.2.1 q.2.1)),(yp q.2.2.1 q.2.2.1),(- (yp q.2.2.2 q.2.2.2))]) (hn:=yt) (hn9:=yt) (hl:=yt)) (.c (j:=0) rfl .n) ?_
 rintro ⟨w364,w465⟩ -
 dsimp only [aq,nq,cq]
 have e66:((yE ([(yp q.1 q.1),(- (yp q.2.1 q.2.1)),(yp q.2.2.1 q.2.2.1),(- (yp q.2.2.2 q.2.2.2))])):Rat)=(yA q).2.1.2.1:=by exact Sh.d_pmpm q.1 q.2.1 q.2.2.1 q.2.2.2
 rw [e66]
 refine e_mv rfl<|e_mv rfl<|e_mv rfl<|e_mv rfl<|e_mv rfl<|zxa (first:=[]) (cap:=[]) rfl rfl rfl (.c rfl (.c rfl .n)) ce83 (zRa (ea:=q.2.2.1) (eb:=q.2.2.2) (ha:=yt) (hb:=yt)) (.n) ?_
 rintro ⟨w367,w468⟩ -
 dsimp only [aq,nq,cq]
 refine e_mv rfl<|e_mv rfl<|e_mv rfl<|e_mv rfl<|zxa (first:=[]) (cap:=[]) rfl rfl rfl (.c rfl (.c rfl .n)) ce83 (zRa (ea:=q.1) (eb:=q.2.1) (ha:=yt) (hb:=yt)) (.n) ?_
 rintro ⟨w369,w470⟩ -
 dsimp only [aq,nq,cq]
 refine zxa (first:=[]) (cap:=[]) rfl rfl rfl (.c rfl .n) ce62 (zqb (k1:=true) (u1:=w369) (v1:=w470) (q1:=(yp q.1 q.2.1)) (hl:=yt)) (.c (j:=0) rfl .n) ?_
 rintro ⟨w371,w472⟩ -
 dsimp only [aq,nq,cq]
 refine zDa rfl rfl (zIa (r:=rQ) (k:=2) yw inf44 rfl dd dd dd (.c (x:=(yp q.2.2.1 q.2.2.2)) (cs:=[w367.b,w367.l,w468.b,w468.l]) (w367,w468) rfl rfl rfl (fun g hr=>Holds.get 2 rfl hr) (.c (x:=(- (yp q.1 q.2.1))) (cs:=[w371.b,w371.l,w472.b,w472.l]) (w371,w472) rfl rfl rfl (fun g hr=>Holds.get 0 rfl hr) .n))) (fun b73 _=> ?_)
 refine zia 0 rfl .z<|zxa (first:=[]) (cap:=[]) rfl rfl rfl (.c rfl .n) ce84 (zXb (p:=some ⟨b73,0,none⟩) (n:=2) (cap:=2) (l:=[(yp q.2.2.1 q.2.2.2),(- (yp q.1 q.2.1))]) (hn:=yt) (hn9:=yt) (hl:=yt)) (.c (j:=0) rfl .n) ?_
 rintro ⟨w374,w475⟩ -
 dsimp only [aq,nq,cq]
 refine zxa (first:=[]) (cap:=[]) rfl rfl rfl (.c rfl .n) ce86 (zLc (k1:=true) (u1:=w374) (v1:=w475) (q1:=(yE ([(yp q.2.2.1 q.2.2.2),(- (yp q.1 q.2.1))]))) (hl:=yt)) (.c (j:=0) rfl .n) ?_
 rintro ⟨w376,w477⟩ -
 dsimp only [aq,nq,cq]
 have e78:((yE ([(yp q.2.2.1 q.2.2.2),(- (yp q.1 q.2.1))]))+(yE ([(yp q.2.2.1 q.2.2.2),(- (yp q.1 q.2.1))])):Rat)=(yA q).2.1.2.2:=by exact Sh.o_pm q.2.2.1 q.2.2.2 q.1 q.2.1
 rw [e78]
 refine e_p (zsa zr54 rfl yf sz44 (.c rfl (.c rfl (.c rfl .n))) (.c rfl rfl rfl (.t4 .nil) (.c rfl rfl rfl (.s4 (.t4 .nil)) (.c rfl rfl rfl (.s8 (.t4 .nil)) .n))))<|e_mv rfl<|e_mv rfl<|e_mv rfl<|e_mv rfl<|e_mv rfl<|zxa (first:=[]) (cap:=[]) rfl rfl rfl (.c rfl (.c rfl .n)) ce83 (zRa (ea:=q.2.1) (eb:=q.2.2.2) (ha:=yt) (hb:=yt)) (.n) ?_
 rintro ⟨w379,w480⟩ -
 dsimp only [aq,nq,cq]
 refine e_mv rfl<|e_mv rfl<|e_mv rfl<|e_mv rfl<|zxa (first:=[]) (cap:=[]) rfl rfl rfl (.c rfl (.c rfl .n)) ce83 (zRa (ea:=q.1) (eb:=q.2.2.1) (ha:=yt) (hb:=yt)) (.n) ?_
 rintro ⟨w381,w482⟩ -
 dsimp only [aq,nq,cq]
 refine zxa (first:=[]) (cap:=[]) rfl rfl rfl (.c rfl .n) ce62 (zqb (k1:=true) (u1:=w381) (v1:=w482) (q1:=(yp q.1 q.2.2.1)) (hl:=yt)) (.c (j:=0) rfl .n) ?_
 rintro ⟨w383,w484⟩ -
 dsimp only [aq,nq,cq]
 refine zDa rfl rfl (zIa (r:=rQ) (k:=2) yw inf44 rfl dd dd dd (.c (x:=(yp q.2.1 q.2.2.2)) (cs:=[w379.b,w379.l,w480.b,w480.l]) (w379,w480) rfl rfl rfl (fun g hr=>Holds.get 2 rfl hr) (.c (x:=(- (yp q.1 q.2.2.1))) (cs:=[w383.b,w383.l,w484.b,w484.l]) (w383,w484) rfl rfl rfl (fun g hr=>Holds.get 0 rfl hr) .n))) (fun b85 _=> ?_)
 refine zia 0 rfl .z<|zxa (first:=[]) (cap:=[]) rfl rfl rfl (.c rfl .n) ce84 (zXb (p:=some ⟨b85,0,none⟩) (n:=2) (cap:=2) (l:=[(yp q.2.1 q.2.2.2),(- (yp q.1 q.2.2.1))]) (hn:=yt) (hn9:=yt) (hl:=yt)) (.c (j:=0) rfl .n) ?_
 rintro ⟨w386,w487⟩ -
 dsimp only [aq,nq,cq]
 refine zxa (first:=[]) (cap:=[]) rfl rfl rfl (.c rfl .n) ce86 (zLc (k1:=true) (u1:=w386) (v1:=w487) (q1:=(yE ([(yp q.2.1 q.2.2.2),(- (yp q.1 q.2.2.1))]))) (hl:=yt)) (.c (j:=0) rfl .n) ?_
 rintro ⟨w388,w489⟩ -
 dsimp only [aq,nq,cq]
 have e90:((yE ([(yp q.2.1 q.2.2.2),(- (yp q.1 q.2.2.1))]))+(yE ([(yp q.2.1 q.2.2.2),(- (yp q.1 q.2.2.1))])):Rat)=(yA q).2.2.1:=by exact Sh.o_pm q.2.1 q.2.2.2 q.1 q.2.2.1
 rw [e90]
 refine e_mv rfl<|e_mv rfl<|e_mv rfl<|e_mv rfl<|e_mv rfl<|zxa (first:=[]) (cap:=[]) rfl rfl rfl (.c rfl (.c rfl .n)) ce83 (zRa (ea:=q.2.2.1) (eb:=q.2.2.2) (ha:=yt) (hb:=yt)) (.n) ?_
 rintro ⟨w391,w492⟩ -
 dsimp only [aq,nq,cq]
 refine e_mv rfl<|e_mv rfl<|e_mv rfl<|zxa (first:=[]) (cap:=[]) rfl rfl rfl (.c rfl (.c rfl .n)) ce83 (zRa (ea:=q.1) (eb:=q.2.1) (ha:=yt) (hb:=yt)) (.n) ?_
 rintro ⟨w393,w494⟩ -
 dsimp only [aq,nq,cq]
 refine zDa rfl rfl (zIa (r:=rQ) (k:=2) yw inf44 rfl dd dd dd (.c (x:=(yp q.2.2.1 q.2.2.2)) (cs:=[w391.b,w391.l,w492.b,w492.l]) (w391,w492) rfl rfl rfl (fun g hr=>Holds.get 1 rfl hr) (.c (x:=(yp q.1 q.2.1)) (cs:=[w393.b,w393.l,w494.b,w494.l]) (w393,w494) rfl rfl rfl (fun g hr=>Holds.get 0 rfl hr) .n))) (fun b95 _=> ?_)
 refine zia 0 rfl .z<|zxa (first:=[]) (cap:=[]) rfl rfl rfl (.c rfl .n) ce84 (zXb (p:=some ⟨b95,0,none⟩) (n:=2) (cap:=2) (l:=[(yp q.2.2.1 q.2.2.2),(yp q.1 q.2.1)]) (hn:=yt) (hn9:=yt) (hl:=yt)) (.c (j:=0) rfl .n) ?_
 rintro ⟨w396,w497⟩ -
 dsimp only [aq,nq,cq]
 refine zxa (first:=[]) (cap:=[]) rfl rfl rfl (.c rfl .n) ce86 (zLc (k1:=true) (u1:=w396) (v1:=w497) (q1:=(yE ([(yp q.2.2.1 q.2.2.2),(yp q.1 q.2.1)]))) (hl:=yt)) (.c (j:=0) rfl .n) ?_
 rintro ⟨w398,w499⟩ -
 dsimp only [aq,nq,cq]
 have e100:((yE ([(yp q.2.2.1 q.2.2.2),(yp q.1 q.2.1)]))+(yE ([(yp q.2.2.1 q.2.2.2),(yp q.1 q.2.1)])):Rat)=(yA q).2.2.2.1:=by exact Sh.o_pp q.2.2.1 q.2.2.2 q.1 q.2.1
 rw [e100]
 refine e_mv rfl<|e_mv rfl<|e_mv rfl<|e_mv rfl<|zxa (first:=[]) (cap:=[]) rfl rfl rfl (.c rfl (.c rfl .n)) ce83 (zRa (ea:=q.1) (eb:=q.1) (ha:=yt) (hb:=yt)) (.n) ?_
 rintro ⟨w3101,w4102⟩ -
 dsimp only [aq,nq,cq]
 refine e_mv rfl<|e_mv rfl<|e_mv rfl<|e_mv rfl<|zxa (first:=[]) (cap:=[]) rfl rfl rfl (.c rfl (.c rfl .n)) ce83 (zRa (ea:=q.2.1) (eb:=q.2.1) (ha:=yt) (hb:=yt)) (.n) ?_
 rintro ⟨w3103,w4104⟩ -
 dsimp only [aq,nq,cq]
 refine zxa (first:=[]) (cap:=[]) rfl rfl rfl (.c rfl .n) ce62 (zqb (k1:=true) (u1:=w3103) (v1:=w4104) (q1:=(yp q.2.1 q.2.1)) (hl:=yt)) (.c (j:=0) rfl .n) ?_
 rintro ⟨w3105,w4106⟩ -
 dsimp only [aq,nq,cq]
 refine e_mv rfl<|e_mv rfl<|e_mv rfl<|e_mv rfl<|zxa (first:=[]) (cap:=[]) rfl rfl rfl (.c rfl (.c rfl .n)) ce83 (zRa (ea:=q.2.2.1) (eb:=q.2.2.1) (ha:=yt) (hb:=yt)) (.n) ?_
 rintro ⟨w3107,w4108⟩ -
 dsimp only [aq,nq,cq]
 refine zxa (first:=[]) (cap:=[]) rfl rfl rfl (.c rfl .n) ce62 (zqb (k1:=true) (u1:=w3107) (v1:=w4108) (q1:=(yp q.2.2.1 q.2.2.1)) (hl:=yt)) (.c (j:=0) rfl .n) ?_
 rintro ⟨w3109,w4110⟩ -
 dsimp only [aq,nq,cq]
 refine e_mv rfl<|e_mv rfl<|e_mv rfl<|zxa (first:=[]) (cap:=[]) rfl rfl rfl (.c rfl (.c rfl .n)) ce83 (zRa (ea:=q.2.2.2) (eb:=q.2.2.2) (ha:=yt) (hb:=yt)) (.n) ?_
 rintro ⟨w3111,w4112⟩ -
 dsimp only [aq,nq,cq]
 refine zDa rfl rfl (zIa (r:=rQ) (k:=4) yw inf44 rfl dd dd dd (.c (x:=(yp q.1 q.1)) (cs:=[w3101.b,w3101.l,w4102.b,w4102.l]) (w3101,w4102) rfl rfl rfl (fun g hr=>Holds.get 5 rfl hr) (.c (x:=(- (yp q.2.1 q.2.1))) (cs:=[w3105.b,w3105.l,w4106.b,w4106.l]) (w3105,w4106) rfl rfl rfl (fun g hr=>Holds.get 3 rfl hr) (.c (x:=(- (yp q.2.2.1 q.2.2.1))) (cs:=[w3109.b,w3109.l,w4110.b,w4110.l]) (w3109,w4110) rfl rfl rfl (fun g hr=>Holds.get 1 rfl hr) (.c (x:=(yp q.2.2.2 q.2.2.2)) (cs:=[w3111.b,w3111.l,w4112.b,w4112.l]) (w3111,w4112) rfl rfl rfl (fun g hr=>Holds.get 0 rfl hr) .n))))) (fun b113 _=> ?_)
 refine zia 0 rfl .z<|zxa (first:=[]) (cap:=[]) rfl rfl rfl (.c rfl .n) ce84 (zXb (p:=some ⟨b113,0,none⟩) (n:=4) (cap:=4) (l:=[(yp q.1 q.1),(- (yp q.2.1 q.2.1)),(- (yp q.2.2.1 q.2.2.1)),(yp q.2.2.2 q.2.2.2)]) (hn:=yt) (hn9:=yt) (hl:=yt)) (.c (j:=0) rfl .n) ?_
 rintro ⟨w3114,w4115⟩ -
 dsimp only [aq,nq,cq]
 have e116:((yE ([(yp q.1 q.1),(- (yp q.2.1 q.2.1)),(- (yp q.2.2.1 q.2.2.1)),(yp q.2.2.2 q.2.2.2)])):Rat)=(yA q).2.2.2.2:=by exact Sh.d_pmmp q.1 q.2.1 q.2.2.1 q.2.2.2
 rw [e116]
 refine e_p (zsa zr54 rfl yf sz44 (.c rfl (.c rfl (.c rfl .n))) (.c rfl rfl rfl (.t4 .nil) (.c rfl rfl rfl (.s4 (.t4 .nil)) (.c rfl rfl rfl (.s8 (.t4 .nil)) .n))))<|e_p (zsa zr97 rfl ym sz54 (.c rfl (.c rfl (.c rfl .n))) (.c rfl rfl rfl (.t8 (.t4 .nil)) (.c rfl rfl rfl (.s8 (.s4 (.t8 (.t4 .nil)))) (.c rfl rfl rfl (.s8 (.s8 (.s8 (.t8 (.t4 .nil))))) .n))))<|zl 9 rfl rfl rfl rfl rfl sz97 rfl (.t8 (.t8 (.t8 (.t8 (.t4 .nil))))) (.s (.s (.s (.s (.s (.s (.s (.s (.s .z)))))))))<|zk<|zg<|zS ?_
 exact zM Tryz.results50 (w316,w417,w328,w429,w338,w439,w348,w449,w364,w465,w376,w477,w388,w489,w398,w499,w3114,w4115) trivial (zr 9 ty97 rfl rfl (.t8 (.t8 (.t8 (.t8 (.t4 .nil)))))) rfl (ho:=(.n:PickO _ _ _)) ((.of [49,43,38,33,25,19,13,8,0] rfl):SelR _ _ _)
end Go.Proofs.YtjeahiahjgifgaaGreatDoor.Sp
namespace Go.Proofs.YtjeahiahjgifgaaGreatDoor.Sp
open Go
set_option linter.unusedVariables false
set_option maxRecDepth 100000
set_option maxHeartbeats 8000000
theorem zod {u1:Wd} {u2:Wd} {u3:Wd} {u4:Wd} {u5:Wd} {u6:Wd} {u7:Wd} {u8:Wd} {u9:Wd} {u10:Wd} {u11:Wd} {u12:Wd} {u13:Wd} {u14:Wd} {u15:Wd} {u16:Wd} {u17:Wd} {u18:Wd} {mm:Sh.M9} {x1:Wd} {x2:Wd} {x3:Wd} {x4:Wd} {x5:Wd} {x6:Wd} {vv:Sh.R3} {tp:Bool} {k:Nat} (hm:Sh.hqMt mm 50) (hv:Sh.hqV vv k) (hk:k≤1000):Con yC 49 [.agg #[u1.b,u1.l,u2.b,u2.l,u3.b,u3.l,u4.b,u4.l,u5.b,u5.l,u6.b,u6.l,u7.b,u7.l,u8.b,u8.l,u9.b,u9.l,u10.b,u10.l,u11.b,u11.l,u12.b,u12.l,u13.b,u13.l,u14.b,u14.l,u15.b,u15.l,u16.b,u16.l,u17.b,u17.l,u18.b,u18.l],.agg #[x1.b,x1.l,x2.b,x2.l,x3.b,x3.l,x4.b,x4.l,x5.b,x5.l,x6.b,x6.l],.bool tp] [] [qF true u1 u2 (mm.1.1),qF true u3 u4 (mm.1.2.1),qF true u5 u6 (mm.1.2.2),qF true u7 u8 (mm.2.1.1),qF true u9 u10 (mm.2.1.2.1),qF true u11 u12 (mm.2.1.2.2),qF true u13 u14 (mm.2.2.1),qF true u15 u16 (mm.2.2.2.1),qF true u17 u18 (mm.2.2.2.2),qF true x1 x2 (vv.1),qF true x3 x4 (vv.2.1),qF true x5 x6 (vv.2.2)] (Y:=Wd×Wd×Wd×Wd×Wd×Wd) (fun y=>True) (fun y=> .agg #[y.1.b,y.1.l,y.2.1.b,y.2.1.l,y.2.2.1.b,y.2.2.1.l,y.2.2.2.1.b,y.2.2.2.1.l,y.2.2.2.2.1.b,y.2.2.2.2.1.l,y.2.2.2.2.2.b,y.2.2.2.2.2.l]) (fun y=>[]) (fun y=>[qF true y.1 y.2.1 ((yJ (yv tp mm) vv).1),qF true y.2.2.1 y.2.2.2.1 ((yJ (yv tp mm) vv).2.1),qF true y.2.2.2.2.1 y.2.2.2.2.2 ((yJ (yv tp mm) vv).2.2)]):=by
 refine zv Tryz.func49 rfl rfl rfl (fun c=> ?_)
 show RunC _ _ _ _ _ [(0,.agg #[u1.b,u1.l,u2.b,u2.l,u3.b,u3.l,u4.b,u4.l,u5.b,u5.l,u6.b,u6.l,u7.b,u7.l,u8.b,u8.l,u9.b,u9.l,u10.b,u10.l,u11.b,u11.l,u12.b,u12.l,u13.b,u13.l,u14.b,u14.l,u15.b,u15.l,u16.b,u16.l,u17.b,u17.l,u18.b,u18.l]),(1,.agg #[x1.b,x1.l,x2.b,x2.l,x3.b,x3.l,x4.b,x4.l,x5.b,x5.l,x6.b,x6.l]),(2,.bool tp)] [] [qF true u1 u2 (mm.1.1),qF true u3 u4 (mm.1.2.1),qF true u5 u6 (mm.1.2.2),qF true u7 u8 (mm.2.1.1),qF true u9 u10 (mm.2.1.2.1),qF true u11 u12 (mm.2.1.2.2),qF true u13 u14 (mm.2.2.1),qF true u15 u16 (mm.2.2.2.1),qF true u17 u18 (mm.2.2.2.2),qF true x1 x2 (vv.1),qF true x3 x4 (vv.2.1),qF true x5 x6 (vv.2.2)]
 have hp:=Sh.pk_hq (b:=tp) hm
 obtain ⟨⟨hm1,hm2,hm3⟩,⟨hm4,hm5,hm6⟩,⟨hm7,hm8,hm9⟩⟩:=hp
 obtain ⟨hv1,hv2,hv3⟩:=hv
 refine zj<|zc<|zE rfl rfl (zZ rfl rfl) (fun b1=> ?_)
 refine zE rfl rfl (zZ rfl rfl) (fun b2=> ?_)
 refine zE rfl rfl (zo zr54 rfl) (fun b3=> ?_)
 refine zk<|zg<|zj<|zc<|e_p (zsa zr54 rfl yf sz44 .n .n)<|zE rfl rfl (zo zr54 rfl) (fun b4=> ?_)
 refine zl 0 rfl rfl rfl rfl rfl sz54 rfl (.t8 (.t4 .nil)) .z<|zk<|zg<|zj<|zj<|zc<|e_mv rfl<|zk<|zg<|zt<|zMa<|zV<|zj<|zc<|e_p (zO rfl rfl)<|zk<|zg<|zj<|zX rfl rfl<|zw<|zg<|zj<|zt<|zj<|zc<|e_mv rfl<|e_p (zh rfl)<|zk<|zg<|zj<|zc<|e_mv rfl<|zG rfl rfl (.c rfl .n) ce22 (zva (z:=0) (hz:=yQ)) (.n) ?_
 rintro ⟨w35,w46⟩ -
 dsimp only [aq,nq,cq]
 refine e_p (zi (i:=0) yf sz44 rfl rfl dd rfl)<|zl 0 rfl rfl rfl rfl rfl sz44 rfl (.t4 .nil) .z<|zk<|zg<|zj<|zc<|e_mv rfl<|zk<|zg<|zt<|zMa<|zV<|zj<|zc<|e_p (zO rfl rfl)<|zk<|zg<|zj<|zX rfl rfl<|zw<|zg<|zj<|zt<|zj<|zc<|e_mv rfl<|e_p (zh rfl)<|zk<|zg<|zj<|zc<|e_mv rfl<|e_mv rfl<|e_p (zi (i:=0) ym sz54 rfl rfl dd rfl)<|e_p (zi (i:=0) yf sz44 rfl rfl dd rfl)<|e_ru (zd 3 ty44 rfl rfl (.t4 .nil))<|zE rfl rfl (zo zr44 rfl) (fun b7=> ?_)
 refine zl 0 rfl rfl rfl rfl rfl sz44 rfl (.t4 .nil) .z<|zk<|zg<|zAa (X:=Wd×Wd) (fun x=>True) (fun x=>[(10,ye (some ⟨b7,0,none⟩)),(9,yc yd 0),(18,yc yd 0),(8,yc yd 0),(12,yc yd 0),(7,ye (some ⟨b4,0,none⟩)),(6,ye (some ⟨b3,0,none⟩)),(4,ye (some ⟨b2,0,none⟩)),(3,ye (some ⟨b1,0,none⟩)),(2,.bool tp)]) (fun x=>[boxA b7 44 (cw [x.1,x.2]),boxA b4 54 (cw [w35,w46,wz,wz,wz,wz]),boxA b3 54 (cw [wz,wz,wz,wz,wz,wz]),boxA b2 54 (cw [x1,x2,x3,x4,x5,x6]),boxA b1 97 (cw [u1,u2,u3,u4,u5,u6,u7,u8,u9,u10,u11,u12,u13,u14,u15,u16,u17,u18])]) (fun x=>[qF true x.1 x.2 ((yv tp mm).1.1),qF true w35 w46 ((0:Int):Rat),qF true u1 u2 (mm.1.1),qF true u3 u4 (mm.1.2.1),qF true u5 u6 (mm.1.2.2),qF true u7 u8 (mm.2.1.1),qF true u9 u10 (mm.2.1.2.1),qF true u11 u12 (mm.2.1.2.2),qF true u13 u14 (mm.2.2.1),qF true u15 u16 (mm.2.2.2.1),qF true u17 u18 (mm.2.2.2.2),qF true x1 x2 (vv.1),qF true x3 x4 (vv.2.1),qF true x5 x6 (vv.2.2)]) ?_ ?_
 ·
  refine zj<|zc<|e_mv rfl<|zk<|zg<|zPa rfl (fun h24=> ?_) (fun h24=> ?_)
  ·
   refine zc<|e_mv rfl<|e_mv rfl<|e_p (zi (i:=0) ym sz54 rfl rfl dd rfl)<|e_p (zi (i:=0) yf sz44 rfl rfl dd rfl)<|e_ru (zd 4 ty44 rfl rfl (.t4 .nil))<|zl 0 rfl rfl rfl rfl rfl sz44 rfl (.t4 .nil) .z<|zk ?_
   exact zha (u1,u2) (show True from by first|trivial|omega|simp_all) ((.of rfl):SubM _ _) (ho:=((.of [0,0,0,0,0] rfl):PickO _ _ _)) ((.e (j:=1) rfl (by rw [h24];rfl) (.of [0,1,2,3,4,5,6,7,8,9,10,11,12] rfl)):SelR _ _ _)
  ·
   refine zw ?_
   exact zha (u1,u2) (show True from by first|trivial|omega|simp_all) ((.of rfl):SubM _ _) (ho:=((.of [0,0,0,0,0] rfl):PickO _ _ _)) ((.e (j:=1) rfl (by rw [h24];rfl) (.of [0,1,2,3,4,5,6,7,8,9,10,11,12] rfl)):SelR _ _ _)
 ·
  rintro ⟨wy00,vy00⟩ -
  dsimp only [cw,cS]
  refine zaa (.c (i:=1) rfl (.c (i:=0) rfl (.c (i:=0) rfl (.c (i:=0) rfl (.c (i:=0) rfl .n)))))<|zP (OW:=[boxA b4 54 (cw [w35,w46,wz,wz,wz,wz])]) (O:=[boxA b7 44 (cw [wy00,vy00]),boxA b3 54 (cw [wz,wz,wz,wz,wz,wz]),boxA b2 54 (cw [x1,x2,x3,x4,x5,x6]),boxA b1 97 (cw [u1,u2,u3,u4,u5,u6,u7,u8,u9,u10,u11,u12,u13,u14,u15,u16,u17,u18])]) 11 mixed (.block (.then (.then (.block (.block (.then (.then (.block (.then .ret))))))))) kr<|e_dm 0 rfl rfl rfl<|e_dm 1 rfl rfl rfl<|e_pv 2 rfl rfl (zi (i:=0) yf sz44 rfl rfl dd rfl)<|e_uw 3 rfl rfl (zd 0 ty44 rfl rfl (.t4 .nil))<|e_uw 4 rfl rfl (zd 1 ty44 rfl rfl (.t4 .nil))<|e_dm 5 rfl rfl rfl<|e_pv 6 rfl rfl (zi (i:=0) yf sz44 rfl rfl dd rfl)<|e_uw 7 rfl rfl (zd 3 ty44 rfl rfl (.t4 .nil))<|e_one 8 (zm rfl rfl rfl rfl (.c rfl (.c rfl .n)) ce54 (zXa (k1:=true) (u1:=wy00) (v1:=vy00) (q1:=(yv tp mm).1.1) (k2:=true) (u2:=x1) (v2:=x2) (q2:=vv.1) (hl:=yQ)) (.c (j:=0) rfl (.c (j:=11) rfl .n)) ?_)
  rintro ⟨w38,w49⟩ -
  dsimp only [aq,nq,cq]
  refine e_one 9 (zm rfl rfl rfl rfl (.c rfl (.c rfl .n)) ce25 (zNa (k1:=true) (u1:=w35) (v1:=w46) (q1:=((0:Int):Rat)) (k2:=true) (u2:=w38) (v2:=w49) (q2:=((yv tp mm).1.1)*vv.1) (hl:=yQ)) (.c (j:=2) rfl (.c (j:=0) rfl .n)) ?_)
  rintro ⟨w310,w411⟩ -
  dsimp only [aq,nq,cq]
  refine e_pv 10 rfl rfl (zi (i:=0) yf sz44 rfl rfl dd rfl)<|e_one 11 (zp kr rfl rfl rfl rfl rfl sz44 rfl (.t4 .nil) ?_)
  refine zN kr<|zI<|zg<|zc<|e_p (zH (z:=1) rfl rfl (w64 dd))<|e_mv rfl<|zk<|zea<|zV<|zj<|zc<|e_p (zO rfl rfl)<|zk<|zg<|zj<|zX rfl rfl<|zw<|zg<|zj<|zt<|zj<|zc<|e_mv rfl<|e_p (zh rfl)<|zk<|zg<|zj<|zc<|e_mv rfl<|e_mv rfl<|e_p (zi (i:=0) ym sz54 rfl rfl dd rfl)<|e_p (zi (i:=1) yf sz44 rfl rfl dd rfl)<|e_ru (zd 4 ty44 rfl rfl (.s4 (.t4 .nil)))<|zE rfl rfl (zo zr44 rfl) (fun b12=> ?_)
  refine zl 0 rfl rfl rfl rfl rfl sz44 rfl (.t4 .nil) .z<|zk<|zg<|zAa (X:=Wd×Wd) (fun x=>True) (fun x=>[(10,ye (some ⟨b12,0,none⟩)),(9,yc yd 1),(18,yc yd 1),(8,yc yd 0),(12,yc yd 0),(7,ye (some ⟨b4,0,none⟩)),(6,ye (some ⟨b3,0,none⟩)),(4,ye (some ⟨b2,0,none⟩)),(3,ye (some ⟨b1,0,none⟩)),(2,.bool tp)]) (fun x=>[boxA b12 44 (cw [x.1,x.2]),boxA b4 54 (cw [w310,w411,wz,wz,wz,wz]),boxA b3 54 (cw [wz,wz,wz,wz,wz,wz]),boxA b2 54 (cw [x1,x2,x3,x4,x5,x6]),boxA b1 97 (cw [u1,u2,u3,u4,u5,u6,u7,u8,u9,u10,u11,u12,u13,u14,u15,u16,u17,u18])]) (fun x=>[qF true x.1 x.2 ((yv tp mm).1.2.1),qF true w310 w411 (((0:Int):Rat)+(((yv tp mm).1.1)*vv.1)),qF true u1 u2 (mm.1.1),qF true u3 u4 (mm.1.2.1),qF true u5 u6 (mm.1.2.2),qF true u7 u8 (mm.2.1.1),qF true u9 u10 (mm.2.1.2.1),qF true u11 u12 (mm.2.1.2.2),qF true u13 u14 (mm.2.2.1),qF true u15 u16 (mm.2.2.2.1),qF true u17 u18 (mm.2.2.2.2),qF true x1 x2 (vv.1),qF true x3 x4 (vv.2.1),qF true x5 x6 (vv.2.2)]) ?_ ?_
  ·
   refine zj<|zc<|e_mv rfl<|zk<|zg<|zPa rfl (fun h24=> ?_) (fun h24=> ?_)
   ·
    refine zc<|e_mv rfl<|e_mv rfl<|e_p (zi (i:=1) ym sz54 rfl rfl dd rfl)<|e_p (zi (i:=0) yf sz44 rfl rfl dd rfl)<|e_ru (zd 5 ty44 rfl rfl (.s8 (.s4 (.t4 .nil))))<|zl 0 rfl rfl rfl rfl rfl sz44 rfl (.t4 .nil) .z<|zk ?_
    exact zha (u7,u8) (show True from by first|trivial|omega|simp_all) ((.of rfl):SubM _ _) (ho:=((.of [0,0,1,1,1] rfl):PickO _ _ _)) ((.e (j:=7) rfl (by rw [h24];rfl) (.of [0,4,5,6,7,8,9,10,11,12,13,14,15] rfl)):SelR _ _ _)
   ·
    refine zw ?_
    exact zha (u3,u4) (show True from by first|trivial|omega|simp_all) ((.of rfl):SubM _ _) (ho:=((.of [0,0,1,1,1] rfl):PickO _ _ _)) ((.e (j:=5) rfl (by rw [h24];rfl) (.of [0,4,5,6,7,8,9,10,11,12,13,14,15] rfl)):SelR _ _ _)
  ·
   rintro ⟨wy01,vy01⟩ -
   dsimp only [cw,cS]
   refine zaa (.c (i:=1) rfl (.c (i:=0) rfl (.c (i:=0) rfl (.c (i:=0) rfl (.c (i:=0) rfl .n)))))<|zP (OW:=[boxA b4 54 (cw [w310,w411,wz,wz,wz,wz])]) (O:=[boxA b12 44 (cw [wy01,vy01]),boxA b3 54 (cw [wz,wz,wz,wz,wz,wz]),boxA b2 54 (cw [x1,x2,x3,x4,x5,x6]),boxA b1 97 (cw [u1,u2,u3,u4,u5,u6,u7,u8,u9,u10,u11,u12,u13,u14,u15,u16,u17,u18])]) 11 mixed (.block (.then (.then (.block (.block (.then (.then (.block (.then .ret))))))))) kr<|e_dm 0 rfl rfl rfl<|e_dm 1 rfl rfl rfl<|e_pv 2 rfl rfl (zi (i:=0) yf sz44 rfl rfl dd rfl)<|e_uw 3 rfl rfl (zd 0 ty44 rfl rfl (.t4 .nil))<|e_uw 4 rfl rfl (zd 1 ty44 rfl rfl (.t4 .nil))<|e_dm 5 rfl rfl rfl<|e_pv 6 rfl rfl (zi (i:=1) yf sz44 rfl rfl dd rfl)<|e_uw 7 rfl rfl (zd 3 ty44 rfl rfl (.s4 (.t4 .nil)))<|e_one 8 (zm rfl rfl rfl rfl (.c rfl (.c rfl .n)) ce54 (zXa (k1:=true) (u1:=wy01) (v1:=vy01) (q1:=(yv tp mm).1.2.1) (k2:=true) (u2:=x3) (v2:=x4) (q2:=vv.2.1) (hl:=yQ)) (.c (j:=0) rfl (.c (j:=12) rfl .n)) ?_)
   rintro ⟨w313,w414⟩ -
   dsimp only [aq,nq,cq]
   refine e_one 9 (zm rfl rfl rfl rfl (.c rfl (.c rfl .n)) ce25 (zNa (k1:=true) (u1:=w310) (v1:=w411) (q1:=((0:Int):Rat)+(((yv tp mm).1.1)*vv.1)) (k2:=true) (u2:=w313) (v2:=w414) (q2:=((yv tp mm).1.2.1)*vv.2.1) (hl:=yQ)) (.c (j:=2) rfl (.c (j:=0) rfl .n)) ?_)
   rintro ⟨w315,w416⟩ -
   dsimp only [aq,nq,cq]
   refine e_pv 10 rfl rfl (zi (i:=0) yf sz44 rfl rfl dd rfl)<|e_one 11 (zp kr rfl rfl rfl rfl rfl sz44 rfl (.t4 .nil) ?_)
   refine zN kr<|zI<|zg<|zc<|e_p (zH (z:=2) rfl rfl (w64 dd))<|e_mv rfl<|zk<|zea<|zV<|zj<|zc<|e_p (zO rfl rfl)<|zk<|zg<|zj<|zX rfl rfl<|zw<|zg<|zj<|zt<|zj<|zc<|e_mv rfl<|e_p (zh rfl)<|zk<|zg<|zj<|zc<|e_mv rfl<|e_mv rfl<|e_p (zi (i:=0) ym sz54 rfl rfl dd rfl)<|e_p (zi (i:=2) yf sz44 rfl rfl dd rfl)<|e_ru (zd 4 ty44 rfl rfl (.s8 (.t4 .nil)))<|zE rfl rfl (zo zr44 rfl) (fun b17=> ?_)
   refine zl 0 rfl rfl rfl rfl rfl sz44 rfl (.t4 .nil) .z<|zk<|zg<|zAa (X:=Wd×Wd) (fun x=>True) (fun x=>[(10,ye (some ⟨b17,0,none⟩)),(9,yc yd 2),(18,yc yd 2),(8,yc yd 0),(12,yc yd 0),(7,ye (some ⟨b4,0,none⟩)),(6,ye (some ⟨b3,0,none⟩)),(4,ye (some ⟨b2,0,none⟩)),(3,ye (some ⟨b1,0,none⟩)),(2,.bool tp)]) (fun x=>[boxA b17 44 (cw [x.1,x.2]),boxA b4 54 (cw [w315,w416,wz,wz,wz,wz]),boxA b3 54 (cw [wz,wz,wz,wz,wz,wz]),boxA b2 54 (cw [x1,x2,x3,x4,x5,x6]),boxA b1 97 (cw [u1,u2,u3,u4,u5,u6,u7,u8,u9,u10,u11,u12,u13,u14,u15,u16,u17,u18])]) (fun x=>[qF true x.1 x.2 ((yv tp mm).1.2.2),qF true w315 w416 ((((0:Int):Rat)+(((yv tp mm).1.1)*vv.1))+(((yv tp mm).1.2.1)*vv.2.1)),qF true u1 u2 (mm.1.1),qF true u3 u4 (mm.1.2.1),qF true u5 u6 (mm.1.2.2),qF true u7 u8 (mm.2.1.1),qF true u9 u10 (mm.2.1.2.1),qF true u11 u12 (mm.2.1.2.2),qF true u13 u14 (mm.2.2.1),qF true u15 u16 (mm.2.2.2.1),qF true u17 u18 (mm.2.2.2.2),qF true x1 x2 (vv.1),qF true x3 x4 (vv.2.1),qF true x5 x6 (vv.2.2)]) ?_ ?_
   ·
    refine zj<|zc<|e_mv rfl<|zk<|zg<|zPa rfl (fun h24=> ?_) (fun h24=> ?_)
    ·
     refine zc<|e_mv rfl<|e_mv rfl<|e_p (zi (i:=2) ym sz54 rfl rfl dd rfl)<|e_p (zi (i:=0) yf sz44 rfl rfl dd rfl)<|e_ru (zd 5 ty44 rfl rfl (.s8 (.s8 (.s8 (.t4 .nil)))))<|zl 0 rfl rfl rfl rfl rfl sz44 rfl (.t4 .nil) .z<|zk ?_
     exact zha (u13,u14) (show True from by first|trivial|omega|simp_all) ((.of rfl):SubM _ _) (ho:=((.of [0,0,1,1,1] rfl):PickO _ _ _)) ((.e (j:=10) rfl (by rw [h24];rfl) (.of [0,4,5,6,7,8,9,10,11,12,13,14,15] rfl)):SelR _ _ _)
    ·
     refine zw ?_
     exact zha (u5,u6) (show True from by first|trivial|omega|simp_all) ((.of rfl):SubM _ _) (ho:=((.of [0,0,1,1,1] rfl):PickO _ _ _)) ((.e (j:=6) rfl (by rw [h24];rfl) (.of [0,4,5,6,7,8,9,10,11,12,13,14,15] rfl)):SelR _ _ _)
   ·
    rintro ⟨wy02,vy02⟩ -
    dsimp only [cw,cS]
    refine zaa (.c (i:=1) rfl (.c (i:=0) rfl (.c (i:=0) rfl (.c (i:=0) rfl (.c (i:=0) rfl .n)))))<|zP (OW:=[boxA b4 54 (cw [w315,w416,wz,wz,wz,wz])]) (O:=[boxA b17 44 (cw [wy02,vy02]),boxA b3 54 (cw [wz,wz,wz,wz,wz,wz]),boxA b2 54 (cw [x1,x2,x3,x4,x5,x6]),boxA b1 97 (cw [u1,u2,u3,u4,u5,u6,u7,u8,u9,u10,u11,u12,u13,u14,u15,u16,u17,u18])]) 11 mixed (.block (.then (.then (.block (.block (.then (.then (.block (.then .ret))))))))) kr<|e_dm 0 rfl rfl rfl<|e_dm 1 rfl rfl rfl<|e_pv 2 rfl rfl (zi (i:=0) yf sz44 rfl rfl dd rfl)<|e_uw 3 rfl rfl (zd 0 ty44 rfl rfl (.t4 .nil))<|e_uw 4 rfl rfl (zd 1 ty44 rfl rfl (.t4 .nil))<|e_dm 5 rfl rfl rfl<|e_pv 6 rfl rfl (zi (i:=2) yf sz44 rfl rfl dd rfl)<|e_uw 7 rfl rfl (zd 3 ty44 rfl rfl (.s8 (.t4 .nil)))<|e_one 8 (zm rfl rfl rfl rfl (.c rfl (.c rfl .n)) ce54 (zXa (k1:=true) (u1:=wy02) (v1:=vy02) (q1:=(yv tp mm).1.2.2) (k2:=true) (u2:=x5) (v2:=x6) (q2:=vv.2.2) (hl:=yQ)) (.c (j:=0) rfl (.c (j:=13) rfl .n)) ?_)
    rintro ⟨w318,w419⟩ -
    dsimp only [aq,nq,cq]
    refine e_one 9 (zm rfl rfl rfl rfl (.c rfl (.c rfl .n)) ce25 (zNa (k1:=true) (u1:=w315) (v1:=w416) (q1:=(((0:Int):Rat)+(((yv tp mm).1.1)*vv.1))+(((yv tp mm).1.2.1)*vv.2.1)) (k2:=true) (u2:=w318) (v2:=w419) (q2:=((yv tp mm).1.2.2)*vv.2.2) (hl:=yQ)) (.c (j:=2) rfl (.c (j:=0) rfl .n)) ?_)
    rintro ⟨w320,w421⟩ -
    dsimp only [aq,nq,cq]
    refine e_pv 10 rfl rfl (zi (i:=0) yf sz44 rfl rfl dd rfl)<|e_one 11 (zp kr rfl rfl rfl rfl rfl sz44 rfl (.t4 .nil) ?_)
    refine zN kr<|zI<|zg<|zc<|e_p (zH (z:=3) rfl rfl (w64 dd))<|e_mv rfl<|zk<|zea<|zV<|zj<|zc<|e_p (zO rfl rfl)<|zk<|zg<|zj<|zta rfl rfl<|zla<|zn<|zn<|zA<|zI<|zg ?_
    have e22:(((((0:Int):Rat)+(((yv tp mm).1.1)*vv.1))+(((yv tp mm).1.2.1)*vv.2.1))+(((yv tp mm).1.2.2)*vv.2.2):Rat)=(yJ (yv tp mm) vv).1:=by rfl
    rw [e22]
    refine zc<|e_p (zH (z:=1) rfl rfl (w64 dd))<|e_mv rfl<|zk<|zea<|zV<|zj<|zc<|e_p (zO rfl rfl)<|zk<|zg<|zj<|zX rfl rfl<|zw<|zg<|zj<|zt<|zj<|zc<|e_mv rfl<|e_p (zh rfl)<|zk<|zg<|zj<|zc<|e_mv rfl<|zG rfl rfl (.c rfl .n) ce22 (zva (z:=0) (hz:=yQ)) (.n) ?_
    rintro ⟨w323,w424⟩ -
    dsimp only [aq,nq,cq]
    refine e_p (zi (i:=1) yf sz44 rfl rfl dd rfl)<|zl 0 rfl rfl rfl rfl rfl sz44 rfl (.s4 (.t4 .nil)) .z<|zk<|zg<|zj<|zc<|e_mv rfl<|zk<|zg<|zt<|zMa<|zV<|zj<|zc<|e_p (zO rfl rfl)<|zk<|zg<|zj<|zX rfl rfl<|zw<|zg<|zj<|zt<|zj<|zc<|e_mv rfl<|e_p (zh rfl)<|zk<|zg<|zj<|zc<|e_mv rfl<|e_mv rfl<|e_p (zi (i:=1) ym sz54 rfl rfl dd rfl)<|e_p (zi (i:=0) yf sz44 rfl rfl dd rfl)<|e_ru (zd 4 ty44 rfl rfl (.s8 (.s4 (.t4 .nil))))<|zE rfl rfl (zo zr44 rfl) (fun b25=> ?_)
    refine zl 0 rfl rfl rfl rfl rfl sz44 rfl (.t4 .nil) .z<|zk<|zg<|zAa (X:=Wd×Wd) (fun x=>True) (fun x=>[(10,ye (some ⟨b25,0,none⟩)),(9,yc yd 0),(18,yc yd 0),(8,yc yd 1),(12,yc yd 1),(7,ye (some ⟨b4,0,none⟩)),(6,ye (some ⟨b3,0,none⟩)),(4,ye (some ⟨b2,0,none⟩)),(3,ye (some ⟨b1,0,none⟩)),(2,.bool tp)]) (fun x=>[boxA b25 44 (cw [x.1,x.2]),boxA b4 54 (cw [w320,w421,w323,w424,wz,wz]),boxA b3 54 (cw [wz,wz,wz,wz,wz,wz]),boxA b2 54 (cw [x1,x2,x3,x4,x5,x6]),boxA b1 97 (cw [u1,u2,u3,u4,u5,u6,u7,u8,u9,u10,u11,u12,u13,u14,u15,u16,u17,u18])]) (fun x=>[qF true x.1 x.2 ((yv tp mm).2.1.1),qF true w323 w424 ((0:Int):Rat),qF true w320 w421 ((yJ (yv tp mm) vv).1),qF true u1 u2 (mm.1.1),qF true u3 u4 (mm.1.2.1),qF true u5 u6 (mm.1.2.2),qF true u7 u8 (mm.2.1.1),qF true u9 u10 (mm.2.1.2.1),qF true u11 u12 (mm.2.1.2.2),qF true u13 u14 (mm.2.2.1),qF true u15 u16 (mm.2.2.2.1),qF true u17 u18 (mm.2.2.2.2),qF true x1 x2 (vv.1),qF true x3 x4 (vv.2.1),qF true x5 x6 (vv.2.2)]) ?_ ?_
    ·
     refine zj<|zc<|e_mv rfl<|zk<|zg<|zPa rfl (fun h24=> ?_) (fun h24=> ?_)
     ·
      refine zc<|e_mv rfl<|e_mv rfl<|e_p (zi (i:=0) ym sz54 rfl rfl dd rfl)<|e_p (zi (i:=1) yf sz44 rfl rfl dd rfl)<|e_ru (zd 5 ty44 rfl rfl (.s4 (.t4 .nil)))<|zl 0 rfl rfl rfl rfl rfl sz44 rfl (.t4 .nil) .z<|zk ?_
      exact zha (u3,u4) (show True from by first|trivial|omega|simp_all) ((.of rfl):SubM _ _) (ho:=((.of [0,0,1,1,1] rfl):PickO _ _ _)) ((.e (j:=6) rfl (by rw [h24];rfl) (.of [0,1,5,6,7,8,9,10,11,12,13,14,15,16] rfl)):SelR _ _ _)
     ·
      refine zw ?_
      exact zha (u7,u8) (show True from by first|trivial|omega|simp_all) ((.of rfl):SubM _ _) (ho:=((.of [0,0,1,1,1] rfl):PickO _ _ _)) ((.e (j:=8) rfl (by rw [h24];rfl) (.of [0,1,5,6,7,8,9,10,11,12,13,14,15,16] rfl)):SelR _ _ _)
    ·
     rintro ⟨wy10,vy10⟩ -
     dsimp only [cw,cS]
     refine zaa (.c (i:=1) rfl (.c (i:=0) rfl (.c (i:=0) rfl (.c (i:=0) rfl (.c (i:=0) rfl .n)))))<|zP (OW:=[boxA b4 54 (cw [w320,w421,w323,w424,wz,wz])]) (O:=[boxA b25 44 (cw [wy10,vy10]),boxA b3 54 (cw [wz,wz,wz,wz,wz,wz]),boxA b2 54 (cw [x1,x2,x3,x4,x5,x6]),boxA b1 97 (cw [u1,u2,u3,u4,u5,u6,u7,u8,u9,u10,u11,u12,u13,u14,u15,u16,u17,u18])]) 11 mixed (.block (.then (.then (.block (.block (.then (.then (.block (.then .ret))))))))) kr<|e_dm 0 rfl rfl rfl<|e_dm 1 rfl rfl rfl<|e_pv 2 rfl rfl (zi (i:=1) yf sz44 rfl rfl dd rfl)<|e_uw 3 rfl rfl (zd 0 ty44 rfl rfl (.s4 (.t4 .nil)))<|e_uw 4 rfl rfl (zd 1 ty44 rfl rfl (.t4 .nil))<|e_dm 5 rfl rfl rfl<|e_pv 6 rfl rfl (zi (i:=0) yf sz44 rfl rfl dd rfl)<|e_uw 7 rfl rfl (zd 3 ty44 rfl rfl (.t4 .nil))<|e_one 8 (zm rfl rfl rfl rfl (.c rfl (.c rfl .n)) ce54 (zXa (k1:=true) (u1:=wy10) (v1:=vy10) (q1:=(yv tp mm).2.1.1) (k2:=true) (u2:=x1) (v2:=x2) (q2:=vv.1) (hl:=yQ)) (.c (j:=0) rfl (.c (j:=12) rfl .n)) ?_)
     rintro ⟨w326,w427⟩ -
     dsimp only [aq,nq,cq]
     refine e_one 9 (zm rfl rfl rfl rfl (.c rfl (.c rfl .n)) ce25 (zNa (k1:=true) (u1:=w323) (v1:=w424) (q1:=((0:Int):Rat)) (k2:=true) (u2:=w326) (v2:=w427) (q2:=((yv tp mm).2.1.1)*vv.1) (hl:=yQ)) (.c (j:=2) rfl (.c (j:=0) rfl .n)) ?_)
     rintro ⟨w328,w429⟩ -
     dsimp only [aq,nq,cq]
     refine e_pv 10 rfl rfl (zi (i:=1) yf sz44 rfl rfl dd rfl)<|e_one 11 (zp kr rfl rfl rfl rfl rfl sz44 rfl (.s4 (.t4 .nil)) ?_)
     refine zN kr<|zI<|zg<|zc<|e_p (zH (z:=1) rfl rfl (w64 dd))<|e_mv rfl<|zk<|zea<|zV<|zj<|zc<|e_p (zO rfl rfl)<|zk<|zg<|zj<|zX rfl rfl<|zw<|zg<|zj<|zt<|zj<|zc<|e_mv rfl<|e_p (zh rfl)<|zk<|zg<|zj<|zc<|e_mv rfl<|e_mv rfl<|e_p (zi (i:=1) ym sz54 rfl rfl dd rfl)<|e_p (zi (i:=1) yf sz44 rfl rfl dd rfl)<|e_ru (zd 4 ty44 rfl rfl (.s8 (.s8 (.t4 .nil))))<|zE rfl rfl (zo zr44 rfl) (fun b30=> ?_)
     refine zl 0 rfl rfl rfl rfl rfl sz44 rfl (.t4 .nil) .z<|zk<|zg<|zAa (X:=Wd×Wd) (fun x=>True) (fun x=>[(10,ye (some ⟨b30,0,none⟩)),(9,yc yd 1),(18,yc yd 1),(8,yc yd 1),(12,yc yd 1),(7,ye (some ⟨b4,0,none⟩)),(6,ye (some ⟨b3,0,none⟩)),(4,ye (some ⟨b2,0,none⟩)),(3,ye (some ⟨b1,0,none⟩)),(2,.bool tp)]) (fun x=>[boxA b30 44 (cw [x.1,x.2]),boxA b4 54 (cw [w320,w421,w328,w429,wz,wz]),boxA b3 54 (cw [wz,wz,wz,wz,wz,wz]),boxA b2 54 (cw [x1,x2,x3,x4,x5,x6]),boxA b1 97 (cw [u1,u2,u3,u4,u5,u6,u7,u8,u9,u10,u11,u12,u13,u14,u15,u16,u17,u18])]) (fun x=>[qF true x.1 x.2 ((yv tp mm).2.1.2.1),qF true w328 w429 (((0:Int):Rat)+(((yv tp mm).2.1.1)*vv.1)),qF true w320 w421 ((yJ (yv tp mm) vv).1),qF true u1 u2 (mm.1.1),qF true u3 u4 (mm.1.2.1),qF true u5 u6 (mm.1.2.2),qF true u7 u8 (mm.2.1.1),qF true u9 u10 (mm.2.1.2.1),qF true u11 u12 (mm.2.1.2.2),qF true u13 u14 (mm.2.2.1),qF true u15 u16 (mm.2.2.2.1),qF true u17 u18 (mm.2.2.2.2),qF true x1 x2 (vv.1),qF true x3 x4 (vv.2.1),qF true x5 x6 (vv.2.2)]) ?_ ?_
     ·
      refine zj<|zc<|e_mv rfl<|zk<|zg<|zPa rfl (fun h24=> ?_) (fun h24=> ?_)
      ·
       refine zc<|e_mv rfl<|e_mv rfl<|e_p (zi (i:=1) ym sz54 rfl rfl dd rfl)<|e_p (zi (i:=1) yf sz44 rfl rfl dd rfl)<|e_ru (zd 5 ty44 rfl rfl (.s8 (.s8 (.t4 .nil))))<|zl 0 rfl rfl rfl rfl rfl sz44 rfl (.t4 .nil) .z<|zk ?_
       exact zha (u9,u10) (show True from by first|trivial|omega|simp_all) ((.of rfl):SubM _ _) (ho:=((.of [0,0,1,1,1] rfl):PickO _ _ _)) ((.e (j:=9) rfl (by rw [h24];rfl) (.of [0,4,5,6,7,8,9,10,11,12,13,14,15,16] rfl)):SelR _ _ _)
      ·
       refine zw ?_
       exact zha (u9,u10) (show True from by first|trivial|omega|simp_all) ((.of rfl):SubM _ _) (ho:=((.of [0,0,1,1,1] rfl):PickO _ _ _)) ((.e (j:=9) rfl (by rw [h24];rfl) (.of [0,4,5,6,7,8,9,10,11,12,13,14,15,16] rfl)):SelR _ _ _)
     ·
      rintro ⟨wy11,vy11⟩ -
      dsimp only [cw,cS]
      refine zaa (.c (i:=1) rfl (.c (i:=0) rfl (.c (i:=0) rfl (.c (i:=0) rfl (.c (i:=0) rfl .n)))))<|zP (OW:=[boxA b4 54 (cw [w320,w421,w328,w429,wz,wz])]) (O:=[boxA b30 44 (cw [wy11,vy11]),boxA b3 54 (cw [wz,wz,wz,wz,wz,wz]),boxA b2 54 (cw [x1,x2,x3,x4,x5,x6]),boxA b1 97 (cw [u1,u2,u3,u4,u5,u6,u7,u8,u9,u10,u11,u12,u13,u14,u15,u16,u17,u18])]) 11 mixed (.block (.then (.then (.block (.block (.then (.then (.block (.then .ret))))))))) kr<|e_dm 0 rfl rfl rfl<|e_dm 1 rfl rfl rfl<|e_pv 2 rfl rfl (zi (i:=1) yf sz44 rfl rfl dd rfl)<|e_uw 3 rfl rfl (zd 0 ty44 rfl rfl (.s4 (.t4 .nil)))<|e_uw 4 rfl rfl (zd 1 ty44 rfl rfl (.t4 .nil))<|e_dm 5 rfl rfl rfl<|e_pv 6 rfl rfl (zi (i:=1) yf sz44 rfl rfl dd rfl)<|e_uw 7 rfl rfl (zd 3 ty44 rfl rfl (.s4 (.t4 .nil)))<|e_one 8 (zm rfl rfl rfl rfl (.c rfl (.c rfl .n)) ce54 (zXa (k1:=true) (u1:=wy11) (v1:=vy11) (q1:=(yv tp mm).2.1.2.1) (k2:=true) (u2:=x3) (v2:=x4) (q2:=vv.2.1) (hl:=yQ)) (.c (j:=0) rfl (.c (j:=13) rfl .n)) ?_)
      rintro ⟨w331,w432⟩ -
      dsimp only [aq,nq,cq]
      refine e_one 9 (zm rfl rfl rfl rfl (.c rfl (.c rfl .n)) ce25 (zNa (k1:=true) (u1:=w328) (v1:=w429) (q1:=((0:Int):Rat)+(((yv tp mm).2.1.1)*vv.1)) (k2:=true) (u2:=w331) (v2:=w432) (q2:=((yv tp mm).2.1.2.1)*vv.2.1) (hl:=yQ)) (.c (j:=2) rfl (.c (j:=0) rfl .n)) ?_)
      rintro ⟨w333,w434⟩ -
      dsimp only [aq,nq,cq]
      refine e_pv 10 rfl rfl (zi (i:=1) yf sz44 rfl rfl dd rfl)<|e_one 11 (zp kr rfl rfl rfl rfl rfl sz44 rfl (.s4 (.t4 .nil)) ?_)
      refine zN kr<|zI<|zg<|zc<|e_p (zH (z:=2) rfl rfl (w64 dd))<|e_mv rfl<|zk<|zea<|zV<|zj<|zc<|e_p (zO rfl rfl)<|zk<|zg<|zj<|zX rfl rfl<|zw<|zg<|zj<|zt<|zj<|zc<|e_mv rfl<|e_p (zh rfl)<|zk<|zg<|zj<|zc<|e_mv rfl<|e_mv rfl<|e_p (zi (i:=1) ym sz54 rfl rfl dd rfl)<|e_p (zi (i:=2) yf sz44 rfl rfl dd rfl)<|e_ru (zd 4 ty44 rfl rfl (.s8 (.s8 (.s4 (.t4 .nil)))))<|zE rfl rfl (zo zr44 rfl) (fun b35=> ?_)
      refine zl 0 rfl rfl rfl rfl rfl sz44 rfl (.t4 .nil) .z<|zk<|zg<|zAa (X:=Wd×Wd) (fun x=>True) (fun x=>[(10,ye (some ⟨b35,0,none⟩)),(9,yc yd 2),(18,yc yd 2),(8,yc yd 1),(12,yc yd 1),(7,ye (some ⟨b4,0,none⟩)),(6,ye (some ⟨b3,0,none⟩)),(4,ye (some ⟨b2,0,none⟩)),(3,ye (some ⟨b1,0,none⟩)),(2,.bool tp)]) (fun x=>[boxA b35 44 (cw [x.1,x.2]),boxA b4 54 (cw [w320,w421,w333,w434,wz,wz]),boxA b3 54 (cw [wz,wz,wz,wz,wz,wz]),boxA b2 54 (cw [x1,x2,x3,x4,x5,x6]),boxA b1 97 (cw [u1,u2,u3,u4,u5,u6,u7,u8,u9,u10,u11,u12,u13,u14,u15,u16,u17,u18])]) (fun x=>[qF true x.1 x.2 ((yv tp mm).2.1.2.2),qF true w333 w434 ((((0:Int):Rat)+(((yv tp mm).2.1.1)*vv.1))+(((yv tp mm).2.1.2.1)*vv.2.1)),qF true w320 w421 ((yJ (yv tp mm) vv).1),qF true u1 u2 (mm.1.1),qF true u3 u4 (mm.1.2.1),qF true u5 u6 (mm.1.2.2),qF true u7 u8 (mm.2.1.1),qF true u9 u10 (mm.2.1.2.1),qF true u11 u12 (mm.2.1.2.2),qF true u13 u14 (mm.2.2.1),qF true u15 u16 (mm.2.2.2.1),qF true u17 u18 (mm.2.2.2.2),qF true x1 x2 (vv.1),qF true x3 x4 (vv.2.1),qF true x5 x6 (vv.2.2)]) ?_ ?_
      ·
       refine zj<|zc<|e_mv rfl<|zk<|zg<|zPa rfl (fun h24=> ?_) (fun h24=> ?_)
       ·
        refine zc<|e_mv rfl<|e_mv rfl<|e_p (zi (i:=2) ym sz54 rfl rfl dd rfl)<|e_p (zi (i:=1) yf sz44 rfl rfl dd rfl)<|e_ru (zd 5 ty44 rfl rfl (.s8 (.s8 (.s8 (.s4 (.t4 .nil))))))<|zl 0 rfl rfl rfl rfl rfl sz44 rfl (.t4 .nil) .z<|zk ?_
        exact zha (u15,u16) (show True from by first|trivial|omega|simp_all) ((.of rfl):SubM _ _) (ho:=((.of [0,0,1,1,1] rfl):PickO _ _ _)) ((.e (j:=12) rfl (by rw [h24];rfl) (.of [0,4,5,6,7,8,9,10,11,12,13,14,15,16] rfl)):SelR _ _ _)
       ·
        refine zw ?_
        exact zha (u11,u12) (show True from by first|trivial|omega|simp_all) ((.of rfl):SubM _ _) (ho:=((.of [0,0,1,1,1] rfl):PickO _ _ _)) ((.e (j:=10) rfl (by rw [h24];rfl) (.of [0,4,5,6,7,8,9,10,11,12,13,14,15,16] rfl)):SelR _ _ _)
      ·
       rintro ⟨wy12,vy12⟩ -
       dsimp only [cw,cS]
       refine zaa (.c (i:=1) rfl (.c (i:=0) rfl (.c (i:=0) rfl (.c (i:=0) rfl (.c (i:=0) rfl .n)))))<|zP (OW:=[boxA b4 54 (cw [w320,w421,w333,w434,wz,wz])]) (O:=[boxA b35 44 (cw [wy12,vy12]),boxA b3 54 (cw [wz,wz,wz,wz,wz,wz]),boxA b2 54 (cw [x1,x2,x3,x4,x5,x6]),boxA b1 97 (cw [u1,u2,u3,u4,u5,u6,u7,u8,u9,u10,u11,u12,u13,u14,u15,u16,u17,u18])]) 11 mixed (.block (.then (.then (.block (.block (.then (.then (.block (.then .ret))))))))) kr<|e_dm 0 rfl rfl rfl<|e_dm 1 rfl rfl rfl<|e_pv 2 rfl rfl (zi (i:=1) yf sz44 rfl rfl dd rfl)<|e_uw 3 rfl rfl (zd 0 ty44 rfl rfl (.s4 (.t4 .nil)))<|e_uw 4 rfl rfl (zd 1 ty44 rfl rfl (.t4 .nil))<|e_dm 5 rfl rfl rfl<|e_pv 6 rfl rfl (zi (i:=2) yf sz44 rfl rfl dd rfl)<|e_uw 7 rfl rfl (zd 3 ty44 rfl rfl (.s8 (.t4 .nil)))<|e_one 8 (zm rfl rfl rfl rfl (.c rfl (.c rfl .n)) ce54 (zXa (k1:=true) (u1:=wy12) (v1:=vy12) (q1:=(yv tp mm).2.1.2.2) (k2:=true) (u2:=x5) (v2:=x6) (q2:=vv.2.2) (hl:=yQ)) (.c (j:=0) rfl (.c (j:=14) rfl .n)) ?_)
       rintro ⟨w336,w437⟩ -
       dsimp only [aq,nq,cq]
       refine e_one 9 (zm rfl rfl rfl rfl (.c rfl (.c rfl .n)) ce25 (zNa (k1:=true) (u1:=w333) (v1:=w434) (q1:=(((0:Int):Rat)+(((yv tp mm).2.1.1)*vv.1))+(((yv tp mm).2.1.2.1)*vv.2.1)) (k2:=true) (u2:=w336) (v2:=w437) (q2:=((yv tp mm).2.1.2.2)*vv.2.2) (hl:=yQ)) (.c (j:=2) rfl (.c (j:=0) rfl .n)) ?_)
       rintro ⟨w338,w439⟩ -
       dsimp only [aq,nq,cq]
       refine e_pv 10 rfl rfl (zi (i:=1) yf sz44 rfl rfl dd rfl)<|e_one 11 (zp kr rfl rfl rfl rfl rfl sz44 rfl (.s4 (.t4 .nil)) ?_)
       refine zN kr<|zI<|zg<|zc<|e_p (zH (z:=3) rfl rfl (w64 dd))<|e_mv rfl<|zk<|zea<|zV<|zj<|zc<|e_p (zO rfl rfl)<|zk<|zg<|zj<|zta rfl rfl<|zla<|zn<|zn<|zA<|zI<|zg ?_
       have e40:(((((0:Int):Rat)+(((yv tp mm).2.1.1)*vv.1))+(((yv tp mm).2.1.2.1)*vv.2.1))+(((yv tp mm).2.1.2.2)*vv.2.2):Rat)=(yJ (yv tp mm) vv).2.1:=by rfl
       rw [e40]
       refine zc<|e_p (zH (z:=2) rfl rfl (w64 dd))<|e_mv rfl<|zk<|zea<|zV<|zj<|zc<|e_p (zO rfl rfl)<|zk<|zg<|zj<|zX rfl rfl<|zw<|zg<|zj<|zt<|zj<|zc<|e_mv rfl<|e_p (zh rfl)<|zk<|zg<|zj<|zc<|e_mv rfl<|zG rfl rfl (.c rfl .n) ce22 (zva (z:=0) (hz:=yQ)) (.n) ?_
       rintro ⟨w341,w442⟩ -
       dsimp only [aq,nq,cq]
       refine e_p (zi (i:=2) yf sz44 rfl rfl dd rfl)<|zl 0 rfl rfl rfl rfl rfl sz44 rfl (.s8 (.t4 .nil)) .z<|zk<|zg<|zj<|zc<|e_mv rfl<|zk<|zg<|zt<|zMa<|zV<|zj<|zc<|e_p (zO rfl rfl)<|zk<|zg<|zj<|zX rfl rfl<|zw<|zg<|zj<|zt<|zj<|zc<|e_mv rfl<|e_p (zh rfl)<|zk<|zg<|zj<|zc<|e_mv rfl<|e_mv rfl<|e_p (zi (i:=2) ym sz54 rfl rfl dd rfl)<|e_p (zi (i:=0) yf sz44 rfl rfl dd rfl)<|e_ru (zd 4 ty44 rfl rfl (.s8 (.s8 (.s8 (.t4 .nil)))))<|zE rfl rfl (zo zr44 rfl) (fun b43=> ?_)
       refine zl 0 rfl rfl rfl rfl rfl sz44 rfl (.t4 .nil) .z<|zk<|zg<|zAa (X:=Wd×Wd) (fun x=>True) (fun x=>[(10,ye (some ⟨b43,0,none⟩)),(9,yc yd 0),(18,yc yd 0),(8,yc yd 2),(12,yc yd 2),(7,ye (some ⟨b4,0,none⟩)),(6,ye (some ⟨b3,0,none⟩)),(4,ye (some ⟨b2,0,none⟩)),(3,ye (some ⟨b1,0,none⟩)),(2,.bool tp)]) (fun x=>[boxA b43 44 (cw [x.1,x.2]),boxA b4 54 (cw [w320,w421,w338,w439,w341,w442]),boxA b3 54 (cw [wz,wz,wz,wz,wz,wz]),boxA b2 54 (cw [x1,x2,x3,x4,x5,x6]),boxA b1 97 (cw [u1,u2,u3,u4,u5,u6,u7,u8,u9,u10,u11,u12,u13,u14,u15,u16,u17,u18])]) (fun x=>[qF true x.1 x.2 ((yv tp mm).2.2.1),qF true w341 w442 ((0:Int):Rat),qF true w338 w439 ((yJ (yv tp mm) vv).2.1),qF true w320 w421 ((yJ (yv tp mm) vv).1),qF true u1 u2 (mm.1.1),qF true u3 u4 (mm.1.2.1),qF true u5 u6 (mm.1.2.2),qF true u7 u8 (mm.2.1.1),qF true u9 u10 (mm.2.1.2.1),qF true u11 u12 (mm.2.1.2.2),qF true u13 u14 (mm.2.2.1),qF true u15 u16 (mm.2.2.2.1),qF true u17 u18 (mm.2.2.2.2),qF true x1 x2 (vv.1),qF true x3 x4 (vv.2.1),qF true x5 x6 (vv.2.2)]) ?_ ?_
       ·
        refine zj<|zc<|e_mv rfl<|zk<|zg<|zPa rfl (fun h24=> ?_) (fun h24=> ?_)
        ·
         refine zc<|e_mv rfl<|e_mv rfl<|e_p (zi (i:=0) ym sz54 rfl rfl dd rfl)<|e_p (zi (i:=2) yf sz44 rfl rfl dd rfl)<|e_ru (zd 5 ty44 rfl rfl (.s8 (.t4 .nil)))<|zl 0 rfl rfl rfl rfl rfl sz44 rfl (.t4 .nil) .z<|zk ?_
         exact zha (u5,u6) (show True from by first|trivial|omega|simp_all) ((.of rfl):SubM _ _) (ho:=((.of [0,0,1,1,1] rfl):PickO _ _ _)) ((.e (j:=8) rfl (by rw [h24];rfl) (.of [0,1,5,6,7,8,9,10,11,12,13,14,15,16,17] rfl)):SelR _ _ _)
        ·
         refine zw ?_
         exact zha (u13,u14) (show True from by first|trivial|omega|simp_all) ((.of rfl):SubM _ _) (ho:=((.of [0,0,1,1,1] rfl):PickO _ _ _)) ((.e (j:=12) rfl (by rw [h24];rfl) (.of [0,1,5,6,7,8,9,10,11,12,13,14,15,16,17] rfl)):SelR _ _ _)
       ·
        rintro ⟨wy20,vy20⟩ -
        dsimp only [cw,cS]
        refine zaa (.c (i:=1) rfl (.c (i:=0) rfl (.c (i:=0) rfl (.c (i:=0) rfl (.c (i:=0) rfl .n)))))<|zP (OW:=[boxA b4 54 (cw [w320,w421,w338,w439,w341,w442])]) (O:=[boxA b43 44 (cw [wy20,vy20]),boxA b3 54 (cw [wz,wz,wz,wz,wz,wz]),boxA b2 54 (cw [x1,x2,x3,x4,x5,x6]),boxA b1 97 (cw [u1,u2,u3,u4,u5,u6,u7,u8,u9,u10,u11,u12,u13,u14,u15,u16,u17,u18])]) 11 mixed (.block (.then (.then (.block (.block (.then (.then (.block (.then .ret))))))))) kr<|e_dm 0 rfl rfl rfl<|e_dm 1 rfl rfl rfl<|e_pv 2 rfl rfl (zi (i:=2) yf sz44 rfl rfl dd rfl)<|e_uw 3 rfl rfl (zd 0 ty44 rfl rfl (.s8 (.t4 .nil)))<|e_uw 4 rfl rfl (zd 1 ty44 rfl rfl (.t4 .nil))<|e_dm 5 rfl rfl rfl<|e_pv 6 rfl rfl (zi (i:=0) yf sz44 rfl rfl dd rfl)<|e_uw 7 rfl rfl (zd 3 ty44 rfl rfl (.t4 .nil))<|e_one 8 (zm rfl rfl rfl rfl (.c rfl (.c rfl .n)) ce54 (zXa (k1:=true) (u1:=wy20) (v1:=vy20) (q1:=(yv tp mm).2.2.1) (k2:=true) (u2:=x1) (v2:=x2) (q2:=vv.1) (hl:=yQ)) (.c (j:=0) rfl (.c (j:=13) rfl .n)) ?_)
        rintro ⟨w344,w445⟩ -
        dsimp only [aq,nq,cq]
        refine e_one 9 (zm rfl rfl rfl rfl (.c rfl (.c rfl .n)) ce25 (zNa (k1:=true) (u1:=w341) (v1:=w442) (q1:=((0:Int):Rat)) (k2:=true) (u2:=w344) (v2:=w445) (q2:=((yv tp mm).2.2.1)*vv.1) (hl:=yQ)) (.c (j:=2) rfl (.c (j:=0) rfl .n)) ?_)
        rintro ⟨w346,w447⟩ -
        dsimp only [aq,nq,cq]
        refine e_pv 10 rfl rfl (zi (i:=2) yf sz44 rfl rfl dd rfl)<|e_one 11 (zp kr rfl rfl rfl rfl rfl sz44 rfl (.s8 (.t4 .nil)) ?_)
        refine zN kr<|zI<|zg<|zc<|e_p (zH (z:=1) rfl rfl (w64 dd))<|e_mv rfl<|zk<|zea<|zV<|zj<|zc<|e_p (zO rfl rfl)<|zk<|zg<|zj<|zX rfl rfl<|zw<|zg<|zj<|zt<|zj<|zc<|e_mv rfl<|e_p (zh rfl)<|zk<|zg<|zj<|zc<|e_mv rfl<|e_mv rfl<|e_p (zi (i:=2) ym sz54 rfl rfl dd rfl)<|e_p (zi (i:=1) yf sz44 rfl rfl dd rfl)<|e_ru (zd 4 ty44 rfl rfl (.s8 (.s8 (.s8 (.s4 (.t4 .nil))))))<|zE rfl rfl (zo zr44 rfl) (fun b48=> ?_)
        refine zl 0 rfl rfl rfl rfl rfl sz44 rfl (.t4 .nil) .z<|zk<|zg<|zAa (X:=Wd×Wd) (fun x=>True) (fun x=>[(10,ye (some ⟨b48,0,none⟩)),(9,yc yd 1),(18,yc yd 1),(8,yc yd 2),(12,yc yd 2),(7,ye (some ⟨b4,0,none⟩)),(6,ye (some ⟨b3,0,none⟩)),(4,ye (some ⟨b2,0,none⟩)),(3,ye (some ⟨b1,0,none⟩)),(2,.bool tp)]) (fun x=>[boxA b48 44 (cw [x.1,x.2]),boxA b4 54 (cw [w320,w421,w338,w439,w346,w447]),boxA b3 54 (cw [wz,wz,wz,wz,wz,wz]),boxA b2 54 (cw [x1,x2,x3,x4,x5,x6]),boxA b1 97 (cw [u1,u2,u3,u4,u5,u6,u7,u8,u9,u10,u11,u12,u13,u14,u15,u16,u17,u18])]) (fun x=>[qF true x.1 x.2 ((yv tp mm).2.2.2.1),qF true w346 w447 (((0:Int):Rat)+(((yv tp mm).2.2.1)*vv.1)),qF true w338 w439 ((yJ (yv tp mm) vv).2.1),qF true w320 w421 ((yJ (yv tp mm) vv).1),qF true u1 u2 (mm.1.1),qF true u3 u4 (mm.1.2.1),qF true u5 u6 (mm.1.2.2),qF true u7 u8 (mm.2.1.1),qF true u9 u10 (mm.2.1.2.1),qF true u11 u12 (mm.2.1.2.2),qF true u13 u14 (mm.2.2.1),qF true u15 u16 (mm.2.2.2.1),qF true u17 u18 (mm.2.2.2.2),qF true x1 x2 (vv.1),qF true x3 x4 (vv.2.1),qF true x5 x6 (vv.2.2)]) ?_ ?_
        ·
         refine zj<|zc<|e_mv rfl<|zk<|zg<|zPa rfl (fun h24=> ?_) (fun h24=> ?_)
         ·
          refine zc<|e_mv rfl<|e_mv rfl<|e_p (zi (i:=1) ym sz54 rfl rfl dd rfl)<|e_p (zi (i:=2) yf sz44 rfl rfl dd rfl)<|e_ru (zd 5 ty44 rfl rfl (.s8 (.s8 (.s4 (.t4 .nil)))))<|zl 0 rfl rfl rfl rfl rfl sz44 rfl (.t4 .nil) .z<|zk ?_
          exact zha (u11,u12) (show True from by first|trivial|omega|simp_all) ((.of rfl):SubM _ _) (ho:=((.of [0,0,1,1,1] rfl):PickO _ _ _)) ((.e (j:=11) rfl (by rw [h24];rfl) (.of [0,4,5,6,7,8,9,10,11,12,13,14,15,16,17] rfl)):SelR _ _ _)
         ·
          refine zw ?_
          exact zha (u15,u16) (show True from by first|trivial|omega|simp_all) ((.of rfl):SubM _ _) (ho:=((.of [0,0,1,1,1] rfl):PickO _ _ _)) ((.e (j:=13) rfl (by rw [h24];rfl) (.of [0,4,5,6,7,8,9,10,11,12,13,14,15,16,17] rfl)):SelR _ _ _)
        ·
         rintro ⟨wy21,vy21⟩ -
         dsimp only [cw,cS]
         refine zaa (.c (i:=1) rfl (.c (i:=0) rfl (.c (i:=0) rfl (.c (i:=0) rfl (.c (i:=0) rfl .n)))))<|zP (OW:=[boxA b4 54 (cw [w320,w421,w338,w439,w346,w447])]) (O:=[boxA b48 44 (cw [wy21,vy21]),boxA b3 54 (cw [wz,wz,wz,wz,wz,wz]),boxA b2 54 (cw [x1,x2,x3,x4,x5,x6]),boxA b1 97 (cw [u1,u2,u3,u4,u5,u6,u7,u8,u9,u10,u11,u12,u13,u14,u15,u16,u17,u18])]) 11 mixed (.block (.then (.then (.block (.block (.then (.then (.block (.then .ret))))))))) kr<|e_dm 0 rfl rfl rfl<|e_dm 1 rfl rfl rfl<|e_pv 2 rfl rfl (zi (i:=2) yf sz44 rfl rfl dd rfl)<|e_uw 3 rfl rfl (zd 0 ty44 rfl rfl (.s8 (.t4 .nil)))<|e_uw 4 rfl rfl (zd 1 ty44 rfl rfl (.t4 .nil))<|e_dm 5 rfl rfl rfl<|e_pv 6 rfl rfl (zi (i:=1) yf sz44 rfl rfl dd rfl)<|e_uw 7 rfl rfl (zd 3 ty44 rfl rfl (.s4 (.t4 .nil)))<|e_one 8 (zm rfl rfl rfl rfl (.c rfl (.c rfl .n)) ce54 (zXa (k1:=true) (u1:=wy21) (v1:=vy21) (q1:=(yv tp mm).2.2.2.1) (k2:=true) (u2:=x3) (v2:=x4) (q2:=vv.2.1) (hl:=yQ)) (.c (j:=0) rfl (.c (j:=14) rfl .n)) ?_)
         rintro ⟨w349,w450⟩ -
         dsimp only [aq,nq,cq]
         refine e_one 9 (zm rfl rfl rfl rfl (.c rfl (.c rfl .n)) ce25 (zNa (k1:=true) (u1:=w346) (v1:=w447) (q1:=((0:Int):Rat)+(((yv tp mm).2.2.1)*vv.1)) (k2:=true) (u2:=w349) (v2:=w450) (q2:=((yv tp mm).2.2.2.1)*vv.2.1) (hl:=yQ)) (.c (j:=2) rfl (.c (j:=0) rfl .n)) ?_)
         rintro ⟨w351,w452⟩ -
         dsimp only [aq,nq,cq]
         refine e_pv 10 rfl rfl (zi (i:=2) yf sz44 rfl rfl dd rfl)<|e_one 11 (zp kr rfl rfl rfl rfl rfl sz44 rfl (.s8 (.t4 .nil)) ?_)
         refine zN kr<|zI<|zg<|zc<|e_p (zH (z:=2) rfl rfl (w64 dd))<|e_mv rfl<|zk<|zea<|zV<|zj<|zc<|e_p (zO rfl rfl)<|zk<|zg<|zj<|zX rfl rfl<|zw<|zg<|zj<|zt<|zj<|zc<|e_mv rfl<|e_p (zh rfl)<|zk<|zg<|zj<|zc<|e_mv rfl<|e_mv rfl<|e_p (zi (i:=2) ym sz54 rfl rfl dd rfl)<|e_p (zi (i:=2) yf sz44 rfl rfl dd rfl)<|e_ru (zd 4 ty44 rfl rfl (.s8 (.s8 (.s8 (.s8 (.t4 .nil))))))<|zE rfl rfl (zo zr44 rfl) (fun b53=> ?_)
         refine zl 0 rfl rfl rfl rfl rfl sz44 rfl (.t4 .nil) .z<|zk<|zg<|zAa (X:=Wd×Wd) (fun x=>True) (fun x=>[(10,ye (some ⟨b53,0,none⟩)),(9,yc yd 2),(18,yc yd 2),(8,yc yd 2),(12,yc yd 2),(7,ye (some ⟨b4,0,none⟩)),(6,ye (some ⟨b3,0,none⟩)),(4,ye (some ⟨b2,0,none⟩)),(3,ye (some ⟨b1,0,none⟩)),(2,.bool tp)]) (fun x=>[boxA b53 44 (cw [x.1,x.2]),boxA b4 54 (cw [w320,w421,w338,w439,w351,w452]),boxA b3 54 (cw [wz,wz,wz,wz,wz,wz]),boxA b2 54 (cw [x1,x2,x3,x4,x5,x6]),boxA b1 97 (cw [u1,u2,u3,u4,u5,u6,u7,u8,u9,u10,u11,u12,u13,u14,u15,u16,u17,u18])]) (fun x=>[qF true x.1 x.2 ((yv tp mm).2.2.2.2),qF true w351 w452 ((((0:Int):Rat)+(((yv tp mm).2.2.1)*vv.1))+(((yv tp mm).2.2.2.1)*vv.2.1)),qF true w338 w439 ((yJ (yv tp mm) vv).2.1),qF true w320 w421 ((yJ (yv tp mm) vv).1),qF true u1 u2 (mm.1.1),qF true u3 u4 (mm.1.2.1),qF true u5 u6 (mm.1.2.2),qF true u7 u8 (mm.2.1.1),qF true u9 u10 (mm.2.1.2.1),qF true u11 u12 (mm.2.1.2.2),qF true u13 u14 (mm.2.2.1),qF true u15 u16 (mm.2.2.2.1),qF true u17 u18 (mm.2.2.2.2),qF true x1 x2 (vv.1),qF true x3 x4 (vv.2.1),qF true x5 x6 (vv.2.2)]) ?_ ?_
         ·
          refine zj<|zc<|e_mv rfl<|zk<|zg<|zPa rfl (fun h24=> ?_) (fun h24=> ?_)
          ·
           refine zc<|e_mv rfl<|e_mv rfl<|e_p (zi (i:=2) ym sz54 rfl rfl dd rfl)<|e_p (zi (i:=2) yf sz44 rfl rfl dd rfl)<|e_ru (zd 5 ty44 rfl rfl (.s8 (.s8 (.s8 (.s8 (.t4 .nil))))))<|zl 0 rfl rfl rfl rfl rfl sz44 rfl (.t4 .nil) .z<|zk ?_
           exact zha (u17,u18) (show True from by first|trivial|omega|simp_all) ((.of rfl):SubM _ _) (ho:=((.of [0,0,1,1,1] rfl):PickO _ _ _)) ((.e (j:=14) rfl (by rw [h24];rfl) (.of [0,4,5,6,7,8,9,10,11,12,13,14,15,16,17] rfl)):SelR _ _ _)
          ·
           refine zw ?_
           exact zha (u17,u18) (show True from by first|trivial|omega|simp_all) ((.of rfl):SubM _ _) (ho:=((.of [0,0,1,1,1] rfl):PickO _ _ _)) ((.e (j:=14) rfl (by rw [h24];rfl) (.of [0,4,5,6,7,8,9,10,11,12,13,14,15,16,17] rfl)):SelR _ _ _)
         ·
          rintro ⟨wy22,vy22⟩ -
          dsimp only [cw,cS]
          refine zaa (.c (i:=1) rfl (.c (i:=0) rfl (.c (i:=0) rfl (.c (i:=0) rfl (.c (i:=0) rfl .n)))))<|zP (OW:=[boxA b4 54 (cw [w320,w421,w338,w439,w351,w452])]) (O:=[boxA b53 44 (cw [wy22,vy22]),boxA b3 54 (cw [wz,wz,wz,wz,wz,wz]),boxA b2 54 (cw [x1,x2,x3,x4,x5,x6]),boxA b1 97 (cw [u1,u2,u3,u4,u5,u6,u7,u8,u9,u10,u11,u12,u13,u14,u15,u16,u17,u18])]) 11 mixed (.block (.then (.then (.block (.block (.then (.then (.block (.then .ret))))))))) kr<|e_dm 0 rfl rfl rfl<|e_dm 1 rfl rfl rfl<|e_pv 2 rfl rfl (zi (i:=2) yf sz44 rfl rfl dd rfl)<|e_uw 3 rfl rfl (zd 0 ty44 rfl rfl (.s8 (.t4 .nil)))<|e_uw 4 rfl rfl (zd 1 ty44 rfl rfl (.t4 .nil))<|e_dm 5 rfl rfl rfl<|e_pv 6 rfl rfl (zi (i:=2) yf sz44 rfl rfl dd rfl)<|e_uw 7 rfl rfl (zd 3 ty44 rfl rfl (.s8 (.t4 .nil)))<|e_one 8 (zm rfl rfl rfl rfl (.c rfl (.c rfl .n)) ce54 (zXa (k1:=true) (u1:=wy22) (v1:=vy22) (q1:=(yv tp mm).2.2.2.2) (k2:=true) (u2:=x5) (v2:=x6) (q2:=vv.2.2) (hl:=yQ)) (.c (j:=0) rfl (.c (j:=15) rfl .n)) ?_)
          rintro ⟨w354,w455⟩ -
          dsimp only [aq,nq,cq]
          refine e_one 9 (zm rfl rfl rfl rfl (.c rfl (.c rfl .n)) ce25 (zNa (k1:=true) (u1:=w351) (v1:=w452) (q1:=(((0:Int):Rat)+(((yv tp mm).2.2.1)*vv.1))+(((yv tp mm).2.2.2.1)*vv.2.1)) (k2:=true) (u2:=w354) (v2:=w455) (q2:=((yv tp mm).2.2.2.2)*vv.2.2) (hl:=yQ)) (.c (j:=2) rfl (.c (j:=0) rfl .n)) ?_)
          rintro ⟨w356,w457⟩ -
          dsimp only [aq,nq,cq]
          refine e_pv 10 rfl rfl (zi (i:=2) yf sz44 rfl rfl dd rfl)<|e_one 11 (zp kr rfl rfl rfl rfl rfl sz44 rfl (.s8 (.t4 .nil)) ?_)
          refine zN kr<|zI<|zg<|zc<|e_p (zH (z:=3) rfl rfl (w64 dd))<|e_mv rfl<|zk<|zea<|zV<|zj<|zc<|e_p (zO rfl rfl)<|zk<|zg<|zj<|zta rfl rfl<|zla<|zn<|zn<|zA<|zI<|zg ?_
          have e58:(((((0:Int):Rat)+(((yv tp mm).2.2.1)*vv.1))+(((yv tp mm).2.2.2.1)*vv.2.1))+(((yv tp mm).2.2.2.2)*vv.2.2):Rat)=(yJ (yv tp mm) vv).2.2:=by rfl
          rw [e58]
          refine zc<|e_p (zH (z:=3) rfl rfl (w64 dd))<|e_mv rfl<|zk<|zea<|zV<|zj<|zc<|e_p (zO rfl rfl)<|zk<|zg<|zj<|zta rfl rfl<|zla<|zn<|zn<|zA<|zg<|zj<|zc<|e_ru (zd 0 ty54 rfl rfl (.t8 (.t4 .nil)))<|zl 2 rfl rfl rfl rfl rfl sz54 rfl (.t8 (.t4 .nil)) (.s (.s .z))<|zk<|zg<|zS ?_
          exact zM Tryz.results49 (w320,w421,w338,w439,w356,w457) trivial (zr 2 ty54 rfl rfl (.t8 (.t4 .nil))) rfl (ho:=(.n:PickO _ _ _)) ((.of [5,4,0] rfl):SelR _ _ _)
end Go.Proofs.YtjeahiahjgifgaaGreatDoor.Sp
namespace Go.Proofs.YtjeahiahjgifgaaGreatDoor.Sp
open Go
set_option linter.unusedVariables false
set_option maxRecDepth 100000
set_option maxHeartbeats 8000000
theorem zJd {s:Sh.S} {cm:Sh.C} {r:Int} {k1:Bool} {u1:Wd} {v1:Wd} {ax:Rat} {k2:Bool} {u2:Wd} {v2:Wd} {ay:Rat} {k3:Bool} {u3:Wd} {v3:Wd} {h:Int} (hok:Sh.Ok s) (hlt:s.ta<s.tb) (hc:Sh.cam cm) (hr:0≤r∧r<64) (hqx:yT ax≤400) (hqy:yT ay≤400) (hh:Sh.inb h):Con yC 18 [.agg #[yc yd (s.fi),yc yd (s.st),yc yd (s.ta),yc yd (s.xa),yc yd (s.ya),yc yd (s.za),yc yd (s.qa),yc yd (s.qb),yc yd (s.qc),yc yd (s.qd),yc yd (s.tb),yc yd (s.xb),yc yd (s.yb),yc yd (s.zb),yc yd (s.ra),yc yd (s.rb),yc yd (s.rc),yc yd (s.rd)],.agg #[yc yd (cm.fo),yc yd (cm.cx),yc yd (cm.cy)],yc yd r,.agg #[u1.b,u1.l,v1.b,v1.l,u2.b,u2.l,v2.b,v2.l,u3.b,u3.l,v3.b,v3.l]] [] [qF k1 u1 v1 ax,qF k2 u2 v2 ay,qF k3 u3 v3 ((h:Int):Rat)] (Y:=Wd×Wd×Wd×Wd) (fun y=>yM s r ax ay h≠0→y.1=wz∧y.2.1=wz∧y.2.2.1=wz∧y.2.2.2=wz) (fun y=> .tuple #[.agg #[y.1.b,y.1.l,y.2.1.b,y.2.1.l,y.2.2.1.b,y.2.2.1.l,y.2.2.2.b,y.2.2.2.l],yc yd (yM s r ax ay h)]) (fun y=>[]) (fun y=>[qF (decide (yM s r ax ay h=0)) y.1 y.2.1 (Sh.ix s cm r ax ay h),qF (decide (yM s r ax ay h=0)) y.2.2.1 y.2.2.2 (Sh.iy s cm r ax ay h)]):=by
 refine zv Tryz.func18 rfl rfl rfl (fun c=> ?_)
 show RunC _ _ _ _ _ [(0,.agg #[yc yd (s.fi),yc yd (s.st),yc yd (s.ta),yc yd (s.xa),yc yd (s.ya),yc yd (s.za),yc yd (s.qa),yc yd (s.qb),yc yd (s.qc),yc yd (s.qd),yc yd (s.tb),yc yd (s.xb),yc yd (s.yb),yc yd (s.zb),yc yd (s.ra),yc yd (s.rb),yc yd (s.rc),yc yd (s.rd)]),(1,.agg #[yc yd (cm.fo),yc yd (cm.cx),yc yd (cm.cy)]),(2,yc yd r),(3,.agg #[u1.b,u1.l,v1.b,v1.l,u2.b,u2.l,v2.b,v2.l,u3.b,u3.l,v3.b,v3.l])] [] [qF k1 u1 v1 ax,qF k2 u2 v2 ay,qF k3 u3 v3 ((h:Int):Rat)]
 have hr2:0≤r∧r≤64:=⟨hr.1,Int.le_of_lt hr.2⟩
 have hcu:=hc
 unfold Sh.cam at hcu
 have hh2:=hh
 unfold Sh.inb at hh2
 have hpq:=Sh.pos_hq hok hr2
 obtain ⟨hp1,hp2,hp3⟩:=hpq
 have hsm:=Sh.rot_b hok hr2
 obtain ⟨hi1,hi2,hi3⟩:=Sh.id_hq hok hr hqx hqy hh
 refine zj<|zc<|zE rfl rfl (zZ rfl rfl) (fun b1=> ?_)
 refine zE rfl rfl (zZ rfl rfl) (fun b2=> ?_)
 refine zE rfl rfl (zZ rfl rfl) (fun b3=> ?_)
 refine zE rfl rfl (zo zr46 rfl) (fun b4=> ?_)
 refine e_p (zh rfl)<|zk<|zg<|zj<|zc<|e_ru (zd 3 ty29 rfl rfl (.t8 (.t8 (.t2 .nil))))<|e_mv rfl<|zU rfl rfl (.c rfl (.c rfl .n)) ce33 (zOe (s:=s) (r:=r) (hok:=ass) (hr:=yG)) (.n)<|zE rfl rfl (zo zr25 rfl) (fun b5=> ?_)
 refine zl 0 rfl rfl rfl rfl rfl sz25 rfl (.t4 .nil) .z<|zk<|zg<|zj<|zj<|zc<|e_ru (zd 0 ty25 rfl rfl (.t4 .nil))<|e_p (zx zr25 rfl yj (.c sz3 (.c sz3 (.c sz3 (.c sz3 .n)))) .n .n)<|e_p (zkb (p:=(yh s r).1=0∧(yh s r).2.1=0∧(yh s r).2.2.1=0∧(yh s r).2.2.2=0) kr rfl rfl (zjb yj kr (zza dd ty3 rfl rfl (zya yq) (zza dd ty3 rfl rfl (zya yq) (zza dd ty3 rfl rfl (zya yq) (zza dd ty3 rfl rfl (zya yq) zQb))))) (by simp [Bool.decide_and]))<|zk<|zg<|zT rfl (fun hz4=> ?_) (fun hz4=> ?_)
 ·
  refine zj<|zc<|e_p (zx zr46 rfl yl (.c sz44 (.c sz44 .n)) .n .n)<|zl 1 rfl rfl rfl rfl rfl sz46 rfl (.t8 .nil) (.s .z)<|e_p (zh rfl)<|zk<|zg<|zS<|zu<|zdb (qF false wz wz 0) (fun g _=>qF_none g) ?_
  have hg9:yM s r ax ay h=13:=if_pos hz4
  have hg8:¬yM s r ax ay h=0:=by rw [hg9];decide
  have hx9:Sh.ix s cm r ax ay h=0:=if_neg hg8
  have hy9:Sh.iy s cm r ax ay h=0:=if_neg hg8
  exact zCa Tryz.results18 (wz,wz,wz,wz) (fun _=>⟨rfl,rfl,rfl,rfl⟩) (zr 1 ty46 rfl rfl (.t8 .nil)) (zC rfl) (by rw [hg9];rfl) (ho:=(.n:PickO _ _ _)) ((.e (j:=0) rfl (by rw [hx9,decide_eq_false hg8]) (.e (j:=0) rfl (by rw [hy9,decide_eq_false hg8]) .n)):SelR _ _ _)
 ·
  refine zw<|zg<|zj<|zc<|e_ru (zd 4 ty29 rfl rfl (.t8 (.t8 (.t2 .nil))))<|e_mv rfl<|zG rfl rfl (.c rfl (.c rfl .n)) ce51 (zUd (s:=s) (r:=r) (hok:=ass) (hr:=yG) (hlt:=ass)) (.n) ?_
  rintro ⟨w16,w27,w38,w49,w510,w611⟩ -
  dsimp only [aq,nq,cq]
  refine zE rfl rfl (zo zr54 rfl) (fun b12=> ?_)
  refine zl 0 rfl rfl rfl rfl rfl sz54 rfl (.t8 (.t4 .nil)) .z<|zk<|zg<|zj<|zj<|zc<|e_mv rfl<|zk<|zg<|zt<|zMa<|zV<|zj<|zc<|e_p (zO rfl rfl)<|zk<|zg<|zj<|zX rfl rfl<|zw<|zg<|zj<|zt<|zj<|zc<|e_mv rfl<|e_p (zh rfl)<|zk<|zg<|zaa (.c (i:=0) rfl (.c (i:=0) rfl (.c (i:=0) rfl (.c (i:=0) rfl (.c (i:=0) rfl .n)))))<|zP (OW:=[boxA b12 54 (cw [w16,w27,w38,w49,w510,w611])]) (O:=[boxA b5 25 [yc yd ((yh s r).1),yc yd ((yh s r).2.1),yc yd ((yh s r).2.2.1),yc yd ((yh s r).2.2.2)],boxA b4 46 (cw [wz,wz,wz,wz]),boxA b3 54 (cw [u1,v1,u2,v2,u3,v3]),boxA b2 37 [yc yd (cm.fo),yc yd (cm.cx),yc yd (cm.cy)]]) 9 mixed (.block (.then (.then (.block (.then .ret))))) kr<|e_dm 0 rfl rfl rfl<|e_dm 1 rfl rfl rfl<|e_pv 2 rfl rfl (zi (i:=0) yf sz44 rfl rfl dd rfl)<|e_uw 3 rfl rfl (zd 3 ty44 rfl rfl (.t4 .nil))<|e_dm 4 rfl rfl rfl<|e_pv 5 rfl rfl (zi (i:=0) yf sz44 rfl rfl dd rfl)<|e_uw 6 rfl rfl (zd 0 ty44 rfl rfl (.t4 .nil))<|e_one 7 (zm rfl rfl rfl rfl (.c rfl (.c rfl .n)) ce28 (zEc (k1:=k1) (u1:=u1) (v1:=v1) (q1:=ax) (k2:=true) (u2:=w16) (v2:=w27) (q2:=(yx s r).1) (hl:=yG)) (.c (j:=3) rfl (.c (j:=0) rfl .n)) ?_)
  rintro ⟨w313,w414⟩ -
  dsimp only [aq,nq,cq]
  refine e_pv 8 rfl rfl (zi (i:=0) yf sz44 rfl rfl dd rfl)<|e_one 9 (zp kr rfl rfl rfl rfl rfl sz44 rfl (.t4 .nil) ?_)
  refine zN kr<|zI<|zg<|zc<|e_p (zH (z:=1) rfl rfl (w64 dd))<|e_mv rfl<|zk<|zea<|zV<|zj<|zc<|e_p (zO rfl rfl)<|zk<|zg<|zj<|zX rfl rfl<|zw<|zg<|zj<|zt<|zj<|zc<|e_mv rfl<|e_p (zh rfl)<|zk<|zg<|zP (OW:=[boxA b12 54 (cw [w313,w414,w38,w49,w510,w611])]) (O:=[boxA b5 25 [yc yd ((yh s r).1),yc yd ((yh s r).2.1),yc yd ((yh s r).2.2.1),yc yd ((yh s r).2.2.2)],boxA b4 46 (cw [wz,wz,wz,wz]),boxA b3 54 (cw [u1,v1,u2,v2,u3,v3]),boxA b2 37 [yc yd (cm.fo),yc yd (cm.cx),yc yd (cm.cy)]]) 9 mixed (.block (.then (.then (.block (.then .ret))))) kr<|e_dm 0 rfl rfl rfl<|e_dm 1 rfl rfl rfl<|e_pv 2 rfl rfl (zi (i:=1) yf sz44 rfl rfl dd rfl)<|e_uw 3 rfl rfl (zd 3 ty44 rfl rfl (.s4 (.t4 .nil)))<|e_dm 4 rfl rfl rfl<|e_pv 5 rfl rfl (zi (i:=1) yf sz44 rfl rfl dd rfl)<|e_uw 6 rfl rfl (zd 0 ty44 rfl rfl (.s4 (.t4 .nil)))<|e_one 7 (zm rfl rfl rfl rfl (.c rfl (.c rfl .n)) ce28 (zEc (k1:=k2) (u1:=u2) (v1:=v2) (q1:=ay) (k2:=true) (u2:=w38) (v2:=w49) (q2:=(yx s r).2.1) (hl:=yG)) (.c (j:=5) rfl (.c (j:=2) rfl .n)) ?_)
  rintro ⟨w315,w416⟩ -
  dsimp only [aq,nq,cq]
  refine e_pv 8 rfl rfl (zi (i:=1) yf sz44 rfl rfl dd rfl)<|e_one 9 (zp kr rfl rfl rfl rfl rfl sz44 rfl (.s4 (.t4 .nil)) ?_)
  refine zN kr<|zI<|zg<|zc<|e_p (zH (z:=2) rfl rfl (w64 dd))<|e_mv rfl<|zk<|zea<|zV<|zj<|zc<|e_p (zO rfl rfl)<|zk<|zg<|zj<|zX rfl rfl<|zw<|zg<|zj<|zt<|zj<|zc<|e_mv rfl<|e_p (zh rfl)<|zk<|zg<|zP (OW:=[boxA b12 54 (cw [w313,w414,w315,w416,w510,w611])]) (O:=[boxA b5 25 [yc yd ((yh s r).1),yc yd ((yh s r).2.1),yc yd ((yh s r).2.2.1),yc yd ((yh s r).2.2.2)],boxA b4 46 (cw [wz,wz,wz,wz]),boxA b3 54 (cw [u1,v1,u2,v2,u3,v3]),boxA b2 37 [yc yd (cm.fo),yc yd (cm.cx),yc yd (cm.cy)]]) 9 mixed (.block (.then (.then (.block (.then .ret))))) kr<|e_dm 0 rfl rfl rfl<|e_dm 1 rfl rfl rfl<|e_pv 2 rfl rfl (zi (i:=2) yf sz44 rfl rfl dd rfl)<|e_uw 3 rfl rfl (zd 3 ty44 rfl rfl (.s8 (.t4 .nil)))<|e_dm 4 rfl rfl rfl<|e_pv 5 rfl rfl (zi (i:=2) yf sz44 rfl rfl dd rfl)<|e_uw 6 rfl rfl (zd 0 ty44 rfl rfl (.s8 (.t4 .nil)))<|e_one 7 (zm rfl rfl rfl rfl (.c rfl (.c rfl .n)) ce28 (zEc (k1:=k3) (u1:=u3) (v1:=v3) (q1:=((h:Int):Rat)) (k2:=true) (u2:=w510) (v2:=w611) (q2:=(yx s r).2.2) (hl:=yG)) (.c (j:=7) rfl (.c (j:=4) rfl .n)) ?_)
  rintro ⟨w317,w418⟩ -
  dsimp only [aq,nq,cq]
  refine e_pv 8 rfl rfl (zi (i:=2) yf sz44 rfl rfl dd rfl)<|e_one 9 (zp kr rfl rfl rfl rfl rfl sz44 rfl (.s8 (.t4 .nil)) ?_)
  refine zN kr<|zI<|zg<|zc<|e_p (zH (z:=3) rfl rfl (w64 dd))<|e_mv rfl<|zk<|zea<|zV<|zj<|zc<|e_p (zO rfl rfl)<|zk<|zg<|zj<|zta rfl rfl<|zla<|zn<|zn<|zA<|zg<|zj<|zP (OW:=[]) (O:=[boxA b12 54 (cw [w313,w414,w315,w416,w317,w418]),boxA b5 25 [yc yd ((yh s r).1),yc yd ((yh s r).2.1),yc yd ((yh s r).2.2.1),yc yd ((yh s r).2.2.2)],boxA b4 46 (cw [wz,wz,wz,wz]),boxA b3 54 (cw [u1,v1,u2,v2,u3,v3]),boxA b2 37 [yc yd (cm.fo),yc yd (cm.cx),yc yd (cm.cy)]]) 5 mixed (.then .ret) kr<|e_u 0 rfl rfl (zd 1 ty25 rfl rfl (.t4 .nil))<|e_u 2 rfl rfl (zd 0 ty54 rfl rfl (.t8 (.t4 .nil)))<|zLb (m':=[(41,.agg (cw [w313,w414,w315,w416,w317,w418]).toArray),(39,.agg #[yc yd ((yh s r).1),yc yd ((yh s r).2.1),yc yd ((yh s r).2.2.1),yc yd ((yh s r).2.2.2)]),(8,ye (some ⟨b4,0,none⟩)),(5,ye (some ⟨b2,0,none⟩))]) (R':=[qF true w317 w418 (((h:Int):Rat) - ((yx s r).2.2)),qF true w315 w416 (ay - ((yx s r).2.1)),qF true w313 w414 (ax - ((yx s r).1)),qF true w16 w27 ((yx s r).1),qF true w38 w49 ((yx s r).2.1),qF true w510 w611 ((yx s r).2.2),qF k1 u1 v1 ax,qF k2 u2 v2 ay,qF k3 u3 v3 ((h:Int):Rat)]) ((.of rfl):SubM _ _) (List.Perm.refl _) (List.Perm.refl _) ((.of [0,1,2,3,4,5,6,7,8] rfl):SelR _ _ _)<|zga (X:=Wd×Wd×Wd×Wd×Wd×Wd×Nat) (k':=0) (L':=(lb 6 63)) (fun (u3_1,u3_2,u3_3,u3_4,u3_5,u3_6,u4_1)=>([(13,ye (some ⟨u4_1,0,none⟩)),(8,ye (some ⟨b4,0,none⟩)),(5,ye (some ⟨b2,0,none⟩))],[boxA u4_1 54 (cw [u3_1,u3_2,u3_3,u3_4,u3_5,u3_6])],[boxA b12 54 (cw [w313,w414,w315,w416,w317,w418]),boxA b5 25 [yc yd ((yh s r).1),yc yd ((yh s r).2.1),yc yd ((yh s r).2.2.1),yc yd ((yh s r).2.2.2)],boxA b4 46 (cw [wz,wz,wz,wz]),boxA b3 54 (cw [u1,v1,u2,v2,u3,v3]),boxA b2 37 [yc yd (cm.fo),yc yd (cm.cx),yc yd (cm.cy)]],[qF true u3_1 u3_2 ((yJ (yv true (yA (yh s r))) (Sh.iv s r ax ay h)).1),qF true u3_3 u3_4 ((yJ (yv true (yA (yh s r))) (Sh.iv s r ax ay h)).2.1),qF true u3_5 u3_6 ((yJ (yv true (yA (yh s r))) (Sh.iv s r ax ay h)).2.2),qF true w317 w418 (((h:Int):Rat) - ((yx s r).2.2)),qF true w315 w416 (ay - ((yx s r).2.1)),qF true w313 w414 (ax - ((yx s r).1)),qF k1 u1 v1 ax,qF k2 u2 v2 ay,qF k3 u3 v3 ((h:Int):Rat)])) ?_ (fun hD0=> ?_)
  ·
   rintro ⟨u3_1,u3_2,u3_3,u3_4,u3_5,u3_6,u4_1⟩
   dsimp only [cw,cS]
   refine zN kr<|zg<|zj<|zj ?_
   have e19:yJ (yv true (yA (yh s r))) (Sh.iv s r ax ay h)=yF s r ax ay h:=by rfl
   rw [e19]
   refine zc<|e_p (zi (i:=2) yf sz44 rfl rfl dd rfl)<|e_ru (zd 0 ty44 rfl rfl (.s8 (.t4 .nil)))<|zU rfl rfl (.c rfl .n) ce53 (zGd (k1:=true) (u1:=u3_5) (v1:=u3_6) (q1:=(yF s r ax ay h).2.2) (hl:=yG)) (.c (j:=2) rfl .n)<|e_p (zKb rfl rfl)<|zk<|zg<|zT rfl (fun hs=> ?_) (fun hs=> ?_)
   ·
    have hs0:=Big.sgq_le.1 hs
    refine zj<|zc<|e_p (zx zr46 rfl yl (.c sz44 (.c sz44 .n)) .n .n)<|zl 3 rfl rfl rfl rfl rfl sz46 rfl (.t8 .nil) (.s (.s (.s .z)))<|e_p (zh rfl)<|zk<|zg<|zS<|zu<|zdb (qF false wz wz 0) (fun g _=>qF_none g) ?_
    have hg9:yM s r ax ay h=20:=by unfold yM;rw [if_neg hz4,if_pos hs0]
    have hg8:¬yM s r ax ay h=0:=by rw [hg9];decide
    have hx9:Sh.ix s cm r ax ay h=0:=if_neg hg8
    have hy9:Sh.iy s cm r ax ay h=0:=if_neg hg8
    exact zCa Tryz.results18 (wz,wz,wz,wz) (fun _=>⟨rfl,rfl,rfl,rfl⟩) (zr 3 ty46 rfl rfl (.t8 .nil)) (zC rfl) (by rw [hg9];rfl) (ho:=(.n:PickO _ _ _)) ((.e (j:=0) rfl (by rw [hx9,decide_eq_false hg8]) (.e (j:=0) rfl (by rw [hy9,decide_eq_false hg8]) .n)):SelR _ _ _)
   ·
    have hs0:¬(yF s r ax ay h).2.2≤0:=fun k=>hs (Big.sgq_le.2 k)
    have hg9:yM s r ax ay h=0:=by unfold yM;rw [if_neg hz4,if_neg hs0]
    have hne9:(yF s r ax ay h).2.2≠0:=fun k=>hs0 (by rw [k];exact Rat.le_refl)
    refine zw<|zg<|zj<|zP (OW:=[]) (O:=[boxA u4_1 54 (cw [u3_1,u3_2,u3_3,u3_4,u3_5,u3_6]),boxA b12 54 (cw [w313,w414,w315,w416,w317,w418]),boxA b5 25 [yc yd ((yh s r).1),yc yd ((yh s r).2.1),yc yd ((yh s r).2.2.1),yc yd ((yh s r).2.2.2)],boxA b4 46 (cw [wz,wz,wz,wz]),boxA b3 54 (cw [u1,v1,u2,v2,u3,v3]),boxA b2 37 [yc yd (cm.fo),yc yd (cm.cx),yc yd (cm.cy)]]) 10 mixed (.then .ret) kr<|e_pv 0 rfl rfl (zf yD rfl sz3 rfl rfl)<|e_u 1 rfl rfl (ze 5 ty3 rfl rfl rfl)<|e_pv 3 rfl rfl (zi (i:=2) yf sz44 rfl rfl dd rfl)<|e_u 4 rfl rfl (zd 0 ty44 rfl rfl (.s8 (.t4 .nil)))<|zLb (m':=[(53,.agg (cw [u3_5,u3_6]).toArray),(50,yc yd (cm.fo)),(13,ye (some ⟨u4_1,0,none⟩)),(8,ye (some ⟨b4,0,none⟩)),(5,ye (some ⟨b2,0,none⟩))]) (R':=[qF true u3_1 u3_2 ((yF s r ax ay h).1),qF true u3_3 u3_4 ((yF s r ax ay h).2.1),qF true u3_5 u3_6 ((yF s r ax ay h).2.2),qF true w317 w418 (((h:Int):Rat) - ((yx s r).2.2)),qF true w315 w416 (ay - ((yx s r).2.1)),qF true w313 w414 (ax - ((yx s r).1)),qF k1 u1 v1 ax,qF k2 u2 v2 ay,qF k3 u3 v3 ((h:Int):Rat)]) ((.of rfl):SubM _ _) (List.Perm.refl _) (List.Perm.refl _) ((.of [0,1,2,3,4,5,6,7,8] rfl):SelR _ _ _)<|zga (X:=Wd×Wd×Nat) (k':=0) (L':=(lb 12 4095)) (fun (u5_1r2,u5_2r2,u9_1r2)=>([(14,ye (some ⟨u9_1r2,0,none⟩)),(13,ye (some ⟨u4_1,0,none⟩)),(8,ye (some ⟨b4,0,none⟩)),(5,ye (some ⟨b2,0,none⟩))],[boxA u9_1r2 44 (cw [u5_1r2,u5_2r2])],[boxA u4_1 54 (cw [u3_1,u3_2,u3_3,u3_4,u3_5,u3_6]),boxA b12 54 (cw [w313,w414,w315,w416,w317,w418]),boxA b5 25 [yc yd ((yh s r).1),yc yd ((yh s r).2.1),yc yd ((yh s r).2.2.1),yc yd ((yh s r).2.2.2)],boxA b4 46 (cw [wz,wz,wz,wz]),boxA b3 54 (cw [u1,v1,u2,v2,u3,v3]),boxA b2 37 [yc yd (cm.fo),yc yd (cm.cx),yc yd (cm.cy)]],[qF (decide (((yF s r ax ay h).2.2)≠0)) u5_1r2 u5_2r2 (((cm.fo:Int):Rat) / ((yF s r ax ay h).2.2)),qF true u3_1 u3_2 ((yF s r ax ay h).1),qF true u3_3 u3_4 ((yF s r ax ay h).2.1),qF true u3_5 u3_6 ((yF s r ax ay h).2.2),qF true w317 w418 (((h:Int):Rat) - ((yx s r).2.2)),qF true w315 w416 (ay - ((yx s r).2.1)),qF true w313 w414 (ax - ((yx s r).1)),qF k1 u1 v1 ax,qF k2 u2 v2 ay,qF k3 u3 v3 ((h:Int):Rat)])) ?_ (fun hD0=> ?_)
    ·
     rintro ⟨u5_1r2,u5_2r2,u9_1r2⟩
     dsimp only [cw,cS]
     refine zN kr<|zg<|zj<|zaa (.c (i:=4) rfl (.c (i:=0) rfl (.c (i:=0) rfl (.c (i:=3) rfl .n))))<|zP (OW:=[boxA b4 46 (cw [wz,wz,wz,wz])]) (O:=[boxA u9_1r2 44 (cw [u5_1r2,u5_2r2]),boxA u4_1 54 (cw [u3_1,u3_2,u3_3,u3_4,u3_5,u3_6]),boxA b2 37 [yc yd (cm.fo),yc yd (cm.cx),yc yd (cm.cy)]]) 19 mixed (.then .ret) kr<|e_pv 0 rfl rfl (zf yD rfl sz35 rfl rfl)<|e_pv 1 rfl rfl (zf yH rfl sz3 rfl rfl)<|e_uw 2 rfl rfl (ze 3 ty3 rfl rfl rfl)<|e_uw 4 rfl rfl (zd 1 ty44 rfl rfl (.t4 .nil))<|e_pv 5 rfl rfl (zi (i:=0) yf sz44 rfl rfl dd rfl)<|e_uw 6 rfl rfl (zd 2 ty44 rfl rfl (.t4 .nil))<|e_pv 9 rfl rfl (zf yD rfl sz35 rfl rfl)<|e_pv 10 rfl rfl (zf yH rfl sz3 rfl rfl)<|e_uw 11 rfl rfl (ze 3 ty3 rfl rfl rfl)<|e_uw 13 rfl rfl (zd 1 ty44 rfl rfl (.t4 .nil))<|e_pv 14 rfl rfl (zi (i:=1) yf sz44 rfl rfl dd rfl)<|e_uw 15 rfl rfl (zd 2 ty44 rfl rfl (.s4 (.t4 .nil)))<|e_one 3 (zm rfl rfl rfl rfl (.c rfl .n) ce22 (zva (z:=cm.cx) (hz:=yG)) (.n) ?_)
     rintro ⟨w320,w421⟩ -
     dsimp only [aq,nq,cq]
     refine e_one 7 (zm rfl rfl rfl rfl (.c rfl (.c rfl .n)) ce54 (zXa (k1:=(decide (((yF s r ax ay h).2.2)≠0))) (u1:=u5_1r2) (v1:=u5_2r2) (q1:=((cm.fo:Int):Rat) / ((yF s r ax ay h).2.2)) (k2:=true) (u2:=u3_1) (v2:=u3_2) (q2:=(yF s r ax ay h).1) (hl:=yG)) (.c (j:=1) rfl (.c (j:=2) rfl .n)) ?_)
     rintro ⟨w322,w423⟩ -
     dsimp only [aq,nq,cq]
     refine e_one 8 (zm rfl rfl rfl rfl (.c rfl (.c rfl .n)) ce25 (zNa (k1:=true) (u1:=w320) (v1:=w421) (q1:=((cm.cx:Int):Rat)) (k2:=true) (u2:=w322) (v2:=w423) (q2:=(((cm.fo:Int):Rat) / ((yF s r ax ay h).2.2))*((yF s r ax ay h).1)) (hl:=yG)) (.c (j:=1) rfl (.c (j:=0) rfl .n)) ?_)
     rintro ⟨w324,w425⟩ -
     dsimp only [aq,nq,cq]
     refine e_one 12 (zm rfl rfl rfl rfl (.c rfl .n) ce22 (zva (z:=cm.cy) (hz:=yG)) (.n) ?_)
     rintro ⟨w326,w427⟩ -
     dsimp only [aq,nq,cq]
     refine e_one 16 (zm rfl rfl rfl rfl (.c rfl (.c rfl .n)) ce54 (zXa (k1:=(decide (((yF s r ax ay h).2.2)≠0))) (u1:=u5_1r2) (v1:=u5_2r2) (q1:=((cm.fo:Int):Rat) / ((yF s r ax ay h).2.2)) (k2:=true) (u2:=u3_3) (v2:=u3_4) (q2:=(yF s r ax ay h).2.1) (hl:=yG)) (.c (j:=4) rfl (.c (j:=6) rfl .n)) ?_)
     rintro ⟨w328,w429⟩ -
     dsimp only [aq,nq,cq]
     refine e_one 17 (zm rfl rfl rfl rfl (.c rfl (.c rfl .n)) ce25 (zNa (k1:=true) (u1:=w326) (v1:=w427) (q1:=((cm.cy:Int):Rat)) (k2:=true) (u2:=w328) (v2:=w429) (q2:=(((cm.fo:Int):Rat) / ((yF s r ax ay h).2.2))*((yF s r ax ay h).2.1)) (hl:=yG)) (.c (j:=1) rfl (.c (j:=0) rfl .n)) ?_)
     rintro ⟨w330,w431⟩ -
     dsimp only [aq,nq,cq]
     refine e_pv 18 rfl rfl (zx zr46 rfl yl (.c sz44 (.c sz44 .n)) (.c rfl (.c rfl .n)) (.c rfl rfl rfl (.t4 .nil) (.c rfl rfl rfl (.s4 (.t4 .nil)) .n)))<|e_one 19 (zp kr rfl rfl rfl rfl rfl sz46 rfl (.t8 .nil) ?_)
     refine e_pv 20 rfl rfl (zh rfl)<|zN kr<|zg<|zS ?_
     have hx9:Sh.ix s cm r ax ay h=_:=if_pos hg9
     have hy9:Sh.iy s cm r ax ay h=_:=if_pos hg9
     exact zCa Tryz.results18 (w324,w425,w330,w431) (fun k=>absurd hg9 k) (zr 0 ty46 rfl rfl (.t8 .nil)) (zC rfl) (by rw [hg9]) (ho:=(.n:PickO _ _ _)) ((.e (j:=3) rfl (by rw [hx9,decide_eq_true hg9,Sh.quo_mul]) (.e (j:=0) rfl (by rw [hy9,decide_eq_true hg9,Sh.quo_mul]) .n)):SelR _ _ _)
    refine zga (X:=Wd×Wd×Nat) (k':=2) (L':=(lb 12 1023)) (fun (u5_1r2,u5_2r2,u9_1r2)=>([(14,ye (some ⟨u9_1r2,0,none⟩)),(56,yc yd (if ((yF s r ax ay h).2.2)=0 then 14 else 0)),(55,.agg (cw [u5_1r2,u5_2r2]).toArray),(13,ye (some ⟨u4_1,0,none⟩)),(8,ye (some ⟨b4,0,none⟩)),(5,ye (some ⟨b2,0,none⟩))],[boxA u9_1r2 44 (cw [wz,wz])],[boxA u4_1 54 (cw [u3_1,u3_2,u3_3,u3_4,u3_5,u3_6]),boxA b12 54 (cw [w313,w414,w315,w416,w317,w418]),boxA b5 25 [yc yd ((yh s r).1),yc yd ((yh s r).2.1),yc yd ((yh s r).2.2.1),yc yd ((yh s r).2.2.2)],boxA b4 46 (cw [wz,wz,wz,wz]),boxA b3 54 (cw [u1,v1,u2,v2,u3,v3]),boxA b2 37 [yc yd (cm.fo),yc yd (cm.cx),yc yd (cm.cy)]],[qF (decide (((yF s r ax ay h).2.2)≠0)) u5_1r2 u5_2r2 (((cm.fo:Int):Rat) / ((yF s r ax ay h).2.2)),qF true u3_1 u3_2 ((yF s r ax ay h).1),qF true u3_3 u3_4 ((yF s r ax ay h).2.1),qF true u3_5 u3_6 ((yF s r ax ay h).2.2),qF true w317 w418 (((h:Int):Rat) - ((yx s r).2.2)),qF true w315 w416 (ay - ((yx s r).2.1)),qF true w313 w414 (ax - ((yx s r).1)),qF k1 u1 v1 ax,qF k2 u2 v2 ay,qF k3 u3 v3 ((h:Int):Rat)])) ?_ (fun hD1=> ?_)
    ·
     rintro ⟨u5_1r2,u5_2r2,u9_1r2⟩
     dsimp only [cw,cS]
     refine zFa 10 kr ?_
     ·
      refine zp kr rfl rfl rfl rfl rfl sz44 rfl (.t4 .nil)<|e_pv 11 rfl rfl (zh rfl) ?_
      exact zJ (hD0 (u5_1r2,u5_2r2,u9_1r2)) kr ((.of rfl):SubM _ _) .rfl .rfl ((.of [0,1,2,3,4,5,6,7,8,9] rfl):SelR _ _ _)
    refine zga (X:=Wd×Wd) (k':=3) (L':=(lb 12 511)) (fun (u5_1r2,u5_2r2)=>([(56,yc yd (if ((yF s r ax ay h).2.2)=0 then 14 else 0)),(55,.agg (cw [u5_1r2,u5_2r2]).toArray),(13,ye (some ⟨u4_1,0,none⟩)),(8,ye (some ⟨b4,0,none⟩)),(5,ye (some ⟨b2,0,none⟩))],[],[boxA u4_1 54 (cw [u3_1,u3_2,u3_3,u3_4,u3_5,u3_6]),boxA b12 54 (cw [w313,w414,w315,w416,w317,w418]),boxA b5 25 [yc yd ((yh s r).1),yc yd ((yh s r).2.1),yc yd ((yh s r).2.2.1),yc yd ((yh s r).2.2.2)],boxA b4 46 (cw [wz,wz,wz,wz]),boxA b3 54 (cw [u1,v1,u2,v2,u3,v3]),boxA b2 37 [yc yd (cm.fo),yc yd (cm.cx),yc yd (cm.cy)]],[qF (decide (((yF s r ax ay h).2.2)≠0)) u5_1r2 u5_2r2 (((cm.fo:Int):Rat) / ((yF s r ax ay h).2.2)),qF true u3_1 u3_2 ((yF s r ax ay h).1),qF true u3_3 u3_4 ((yF s r ax ay h).2.1),qF true u3_5 u3_6 ((yF s r ax ay h).2.2),qF true w317 w418 (((h:Int):Rat) - ((yx s r).2.2)),qF true w315 w416 (ay - ((yx s r).2.1)),qF true w313 w414 (ax - ((yx s r).1)),qF k1 u1 v1 ax,qF k2 u2 v2 ay,qF k3 u3 v3 ((h:Int):Rat)])) ?_ (fun hD2=> ?_)
    ·
     rintro ⟨u5_1r2,u5_2r2⟩
     dsimp only [cw,cS]
     refine zFa 9 kr ?_
     ·
      refine zua rfl rfl rfl rfl (zo zr44 rfl) (fun u9_1r2 _=> ?_)
      exact zJ (hD1 (u5_1r2,u5_2r2,u9_1r2)) kr ((.of rfl):SubM _ _) .rfl .rfl ((.of [0,1,2,3,4,5,6,7,8,9] rfl):SelR _ _ _)
    refine zga (X:=Wd×Wd×Nat) (k':=6) (L':=(lb 12 543)) (fun (u2_1r2,u2_2r2,u9_1r2)=>([(14,ye (some ⟨u9_1r2,0,none⟩)),(51,.agg (cw [u2_1r2,u2_2r2]).toArray),(53,.agg (cw [u3_5,u3_6]).toArray),(13,ye (some ⟨u4_1,0,none⟩)),(8,ye (some ⟨b4,0,none⟩)),(5,ye (some ⟨b2,0,none⟩))],[boxA u9_1r2 44 (cw [wz,wz])],[boxA u4_1 54 (cw [u3_1,u3_2,u3_3,u3_4,u3_5,u3_6]),boxA b12 54 (cw [w313,w414,w315,w416,w317,w418]),boxA b5 25 [yc yd ((yh s r).1),yc yd ((yh s r).2.1),yc yd ((yh s r).2.2.1),yc yd ((yh s r).2.2.2)],boxA b4 46 (cw [wz,wz,wz,wz]),boxA b3 54 (cw [u1,v1,u2,v2,u3,v3]),boxA b2 37 [yc yd (cm.fo),yc yd (cm.cx),yc yd (cm.cy)]],[qF true u2_1r2 u2_2r2 ((cm.fo:Int):Rat),qF true u3_1 u3_2 ((yF s r ax ay h).1),qF true u3_3 u3_4 ((yF s r ax ay h).2.1),qF true u3_5 u3_6 ((yF s r ax ay h).2.2),qF true w317 w418 (((h:Int):Rat) - ((yx s r).2.2)),qF true w315 w416 (ay - ((yx s r).2.1)),qF true w313 w414 (ax - ((yx s r).1)),qF k1 u1 v1 ax,qF k2 u2 v2 ay,qF k3 u3 v3 ((h:Int):Rat)])) ?_ (fun hD3=> ?_)
    ·
     rintro ⟨u2_1r2,u2_2r2,u9_1r2⟩
     dsimp only [cw,cS]
     refine zFa 5 kr ?_
     ·
      refine zm rfl rfl rfl rfl (.c rfl (.c rfl .n)) ce52 (zVc (k1:=true) (u1:=u2_1r2) (v1:=u2_2r2) (q1:=((cm.fo:Int):Rat)) (k2:=true) (u2:=u3_5) (v2:=u3_6) (q2:=(yF s r ax ay h).2.2) (hl:=yG)) (.c (j:=0) rfl (.c (j:=3) rfl .n)) ?_
      rintro ⟨u5_1r2,u5_2r2⟩ -
      dsimp only [aq,nq,cq]
      refine e_dm 6 rfl rfl rfl<|e_pv 7 rfl rfl (zy rfl rfl)<|e_pv 8 rfl rfl (zy rfl rfl) ?_
      exact zJ (hD1 (u5_1r2,u5_2r2,u9_1r2)) kr ((.of rfl):SubM _ _) .rfl .rfl ((.of [0,2,3,4,5,6,7,8,9,10] rfl):SelR _ _ _)
    refine zga (X:=Wd×Wd) (k':=7) (L':=(lb 12 31)) (fun (u2_1r2,u2_2r2)=>([(51,.agg (cw [u2_1r2,u2_2r2]).toArray),(53,.agg (cw [u3_5,u3_6]).toArray),(13,ye (some ⟨u4_1,0,none⟩)),(8,ye (some ⟨b4,0,none⟩)),(5,ye (some ⟨b2,0,none⟩))],[],[boxA u4_1 54 (cw [u3_1,u3_2,u3_3,u3_4,u3_5,u3_6]),boxA b12 54 (cw [w313,w414,w315,w416,w317,w418]),boxA b5 25 [yc yd ((yh s r).1),yc yd ((yh s r).2.1),yc yd ((yh s r).2.2.1),yc yd ((yh s r).2.2.2)],boxA b4 46 (cw [wz,wz,wz,wz]),boxA b3 54 (cw [u1,v1,u2,v2,u3,v3]),boxA b2 37 [yc yd (cm.fo),yc yd (cm.cx),yc yd (cm.cy)]],[qF true u2_1r2 u2_2r2 ((cm.fo:Int):Rat),qF true u3_1 u3_2 ((yF s r ax ay h).1),qF true u3_3 u3_4 ((yF s r ax ay h).2.1),qF true u3_5 u3_6 ((yF s r ax ay h).2.2),qF true w317 w418 (((h:Int):Rat) - ((yx s r).2.2)),qF true w315 w416 (ay - ((yx s r).2.1)),qF true w313 w414 (ax - ((yx s r).1)),qF k1 u1 v1 ax,qF k2 u2 v2 ay,qF k3 u3 v3 ((h:Int):Rat)])) ?_ (fun hD4=> ?_)
    ·
     rintro ⟨u2_1r2,u2_2r2⟩
     dsimp only [cw,cS]
     refine zib 5 9 kr ?_ ?_
     ·
      refine zm rfl rfl rfl rfl (.c rfl (.c rfl .n)) ce52 (zVc (k1:=true) (u1:=u2_1r2) (v1:=u2_2r2) (q1:=((cm.fo:Int):Rat)) (k2:=true) (u2:=u3_5) (v2:=u3_6) (q2:=(yF s r ax ay h).2.2) (hl:=yG)) (.c (j:=0) rfl (.c (j:=3) rfl .n)) ?_
      rintro ⟨u5_1r2,u5_2r2⟩ -
      dsimp only [aq,nq,cq]
      refine e_dm 6 rfl rfl rfl<|e_pv 7 rfl rfl (zy rfl rfl)<|e_pv 8 rfl rfl (zy rfl rfl) ?_
      exact zJ (hD2 (u5_1r2,u5_2r2)) kr ((.of rfl):SubM _ _) .rfl .rfl ((.of [0,2,3,4,5,6,7,8,9,10] rfl):SelR _ _ _)
     ·
      refine zua rfl rfl rfl rfl (zo zr44 rfl) (fun u9_1r2 _=> ?_)
      exact zJ (hD3 (u2_1r2,u2_2r2,u9_1r2)) kr ((.of rfl):SubM _ _) .rfl .rfl ((.of [0,1,2,3,4,5,6,7,8,9] rfl):SelR _ _ _)
    refine zga (X:=Nat) (k':=7) (L':=(lb 12 539)) (fun u9_1r2=>([(14,ye (some ⟨u9_1r2,0,none⟩)),(53,.agg (cw [u3_5,u3_6]).toArray),(50,yc yd (cm.fo)),(13,ye (some ⟨u4_1,0,none⟩)),(8,ye (some ⟨b4,0,none⟩)),(5,ye (some ⟨b2,0,none⟩))],[boxA u9_1r2 44 (cw [wz,wz])],[boxA u4_1 54 (cw [u3_1,u3_2,u3_3,u3_4,u3_5,u3_6]),boxA b12 54 (cw [w313,w414,w315,w416,w317,w418]),boxA b5 25 [yc yd ((yh s r).1),yc yd ((yh s r).2.1),yc yd ((yh s r).2.2.1),yc yd ((yh s r).2.2.2)],boxA b4 46 (cw [wz,wz,wz,wz]),boxA b3 54 (cw [u1,v1,u2,v2,u3,v3]),boxA b2 37 [yc yd (cm.fo),yc yd (cm.cx),yc yd (cm.cy)]],[qF true u3_1 u3_2 ((yF s r ax ay h).1),qF true u3_3 u3_4 ((yF s r ax ay h).2.1),qF true u3_5 u3_6 ((yF s r ax ay h).2.2),qF true w317 w418 (((h:Int):Rat) - ((yx s r).2.2)),qF true w315 w416 (ay - ((yx s r).2.1)),qF true w313 w414 (ax - ((yx s r).1)),qF k1 u1 v1 ax,qF k2 u2 v2 ay,qF k3 u3 v3 ((h:Int):Rat)])) ?_ (fun hD5=> ?_)
    ·
     rintro u9_1r2
     dsimp only [cw,cS]
     refine zFa 2 kr ?_
     ·
      refine zm rfl rfl rfl rfl (.c rfl .n) ce22 (zva (z:=cm.fo) (hz:=yG)) (.n) ?_
      rintro ⟨u2_1r2,u2_2r2⟩ -
      dsimp only [aq,nq,cq]
      exact zJ (hD3 (u2_1r2,u2_2r2,u9_1r2)) kr ((.of rfl):SubM _ _) .rfl .rfl ((.of [0,1,2,3,4,5,6,7,8,9] rfl):SelR _ _ _)
    refine zib 2 9 kr ?_ ?_
    ·
     refine zm rfl rfl rfl rfl (.c rfl .n) ce22 (zva (z:=cm.fo) (hz:=yG)) (.n) ?_
     rintro ⟨u2_1r2,u2_2r2⟩ -
     dsimp only [aq,nq,cq]
     exact zJ (hD4 (u2_1r2,u2_2r2)) kr ((.of rfl):SubM _ _) .rfl .rfl ((.of [0,1,2,3,4,5,6,7,8,9] rfl):SelR _ _ _)
    ·
     refine zua rfl rfl rfl rfl (zo zr44 rfl) (fun u9_1r2 _=> ?_)
     exact zJ (hD5 u9_1r2) kr ((.of rfl):SubM _ _) .rfl .rfl ((.of [0,1,2,3,4,5,6,7,8] rfl):SelR _ _ _)
  refine zga (X:=Wd×Wd×Wd×Wd×Wd×Wd×Nat) (k':=1) (L':=(lb 6 31)) (fun (u3_1,u3_2,u3_3,u3_4,u3_5,u3_6,u4_1)=>([(13,ye (some ⟨u4_1,0,none⟩)),(42,.agg (cw [u3_1,u3_2,u3_3,u3_4,u3_5,u3_6]).toArray),(8,ye (some ⟨b4,0,none⟩)),(5,ye (some ⟨b2,0,none⟩))],[boxA u4_1 54 (cw [wz,wz,wz,wz,wz,wz])],[boxA b12 54 (cw [w313,w414,w315,w416,w317,w418]),boxA b5 25 [yc yd ((yh s r).1),yc yd ((yh s r).2.1),yc yd ((yh s r).2.2.1),yc yd ((yh s r).2.2.2)],boxA b4 46 (cw [wz,wz,wz,wz]),boxA b3 54 (cw [u1,v1,u2,v2,u3,v3]),boxA b2 37 [yc yd (cm.fo),yc yd (cm.cx),yc yd (cm.cy)]],[qF true u3_1 u3_2 ((yJ (yv true (yA (yh s r))) (Sh.iv s r ax ay h)).1),qF true u3_3 u3_4 ((yJ (yv true (yA (yh s r))) (Sh.iv s r ax ay h)).2.1),qF true u3_5 u3_6 ((yJ (yv true (yA (yh s r))) (Sh.iv s r ax ay h)).2.2),qF true w317 w418 (((h:Int):Rat) - ((yx s r).2.2)),qF true w315 w416 (ay - ((yx s r).2.1)),qF true w313 w414 (ax - ((yx s r).1)),qF k1 u1 v1 ax,qF k2 u2 v2 ay,qF k3 u3 v3 ((h:Int):Rat)])) ?_ (fun hD1=> ?_)
  ·
   rintro ⟨u3_1,u3_2,u3_3,u3_4,u3_5,u3_6,u4_1⟩
   dsimp only [cw,cS]
   refine zFa 5 kr ?_
   ·
    refine zp kr rfl rfl rfl rfl rfl sz54 rfl (.t8 (.t4 .nil)) ?_
    exact zJ (hD0 (u3_1,u3_2,u3_3,u3_4,u3_5,u3_6,u4_1)) kr ((.of rfl):SubM _ _) .rfl .rfl ((.of [0,1,2,3,4,5,6,7,8] rfl):SelR _ _ _)
  refine zga (X:=Wd×Wd×Wd×Wd×Wd×Wd) (k':=2) (L':=(lb 6 15)) (fun (u3_1,u3_2,u3_3,u3_4,u3_5,u3_6)=>([(42,.agg (cw [u3_1,u3_2,u3_3,u3_4,u3_5,u3_6]).toArray),(8,ye (some ⟨b4,0,none⟩)),(5,ye (some ⟨b2,0,none⟩))],[],[boxA b12 54 (cw [w313,w414,w315,w416,w317,w418]),boxA b5 25 [yc yd ((yh s r).1),yc yd ((yh s r).2.1),yc yd ((yh s r).2.2.1),yc yd ((yh s r).2.2.2)],boxA b4 46 (cw [wz,wz,wz,wz]),boxA b3 54 (cw [u1,v1,u2,v2,u3,v3]),boxA b2 37 [yc yd (cm.fo),yc yd (cm.cx),yc yd (cm.cy)]],[qF true u3_1 u3_2 ((yJ (yv true (yA (yh s r))) (Sh.iv s r ax ay h)).1),qF true u3_3 u3_4 ((yJ (yv true (yA (yh s r))) (Sh.iv s r ax ay h)).2.1),qF true u3_5 u3_6 ((yJ (yv true (yA (yh s r))) (Sh.iv s r ax ay h)).2.2),qF true w317 w418 (((h:Int):Rat) - ((yx s r).2.2)),qF true w315 w416 (ay - ((yx s r).2.1)),qF true w313 w414 (ax - ((yx s r).1)),qF k1 u1 v1 ax,qF k2 u2 v2 ay,qF k3 u3 v3 ((h:Int):Rat)])) ?_ (fun hD2=> ?_)
  ·
   rintro ⟨u3_1,u3_2,u3_3,u3_4,u3_5,u3_6⟩
   dsimp only [cw,cS]
   refine zFa 4 kr ?_
   ·
    refine zua rfl rfl rfl rfl (zo zr54 rfl) (fun u4_1 _=> ?_)
    exact zJ (hD1 (u3_1,u3_2,u3_3,u3_4,u3_5,u3_6,u4_1)) kr ((.of rfl):SubM _ _) .rfl .rfl ((.of [0,1,2,3,4,5,6,7,8] rfl):SelR _ _ _)
  refine zga (X:=Wd×Wd×Wd×Wd×Wd×Wd×Wd×Wd×Wd×Wd×Wd×Wd×Wd×Wd×Wd×Wd×Wd×Wd×Nat) (k':=2) (L':=(lb 6 23)) (fun (u1_1,u1_2,u1_3,u1_4,u1_5,u1_6,u1_7,u1_8,u1_9,u1_10,u1_11,u1_12,u1_13,u1_14,u1_15,u1_16,u1_17,u1_18,u4_1)=>([(13,ye (some ⟨u4_1,0,none⟩)),(40,.agg (cw [u1_1,u1_2,u1_3,u1_4,u1_5,u1_6,u1_7,u1_8,u1_9,u1_10,u1_11,u1_12,u1_13,u1_14,u1_15,u1_16,u1_17,u1_18]).toArray),(41,.agg (cw [w313,w414,w315,w416,w317,w418]).toArray),(8,ye (some ⟨b4,0,none⟩)),(5,ye (some ⟨b2,0,none⟩))],[boxA u4_1 54 (cw [wz,wz,wz,wz,wz,wz])],[boxA b12 54 (cw [w313,w414,w315,w416,w317,w418]),boxA b5 25 [yc yd ((yh s r).1),yc yd ((yh s r).2.1),yc yd ((yh s r).2.2.1),yc yd ((yh s r).2.2.2)],boxA b4 46 (cw [wz,wz,wz,wz]),boxA b3 54 (cw [u1,v1,u2,v2,u3,v3]),boxA b2 37 [yc yd (cm.fo),yc yd (cm.cx),yc yd (cm.cy)]],[qF true u1_1 u1_2 ((yA (yh s r)).1.1),qF true u1_3 u1_4 ((yA (yh s r)).1.2.1),qF true u1_5 u1_6 ((yA (yh s r)).1.2.2),qF true u1_7 u1_8 ((yA (yh s r)).2.1.1),qF true u1_9 u1_10 ((yA (yh s r)).2.1.2.1),qF true u1_11 u1_12 ((yA (yh s r)).2.1.2.2),qF true u1_13 u1_14 ((yA (yh s r)).2.2.1),qF true u1_15 u1_16 ((yA (yh s r)).2.2.2.1),qF true u1_17 u1_18 ((yA (yh s r)).2.2.2.2),qF true w317 w418 (((h:Int):Rat) - ((yx s r).2.2)),qF true w315 w416 (ay - ((yx s r).2.1)),qF true w313 w414 (ax - ((yx s r).1)),qF k1 u1 v1 ax,qF k2 u2 v2 ay,qF k3 u3 v3 ((h:Int):Rat)])) ?_ (fun hD3=> ?_)
  ·
   rintro ⟨u1_1,u1_2,u1_3,u1_4,u1_5,u1_6,u1_7,u1_8,u1_9,u1_10,u1_11,u1_12,u1_13,u1_14,u1_15,u1_16,u1_17,u1_18,u4_1⟩
   dsimp only [cw,cS]
   refine zFa 3 kr ?_
   ·
    refine zm rfl rfl rfl rfl (.c rfl (.c rfl (.c rfl .n))) ce49 (zod (u1:=u1_1) (u2:=u1_2) (u3:=u1_3) (u4:=u1_4) (u5:=u1_5) (u6:=u1_6) (u7:=u1_7) (u8:=u1_8) (u9:=u1_9) (u10:=u1_10) (u11:=u1_11) (u12:=u1_12) (u13:=u1_13) (u14:=u1_14) (u15:=u1_15) (u16:=u1_16) (u17:=u1_17) (u18:=u1_18) (mm:=(yA (yh s r))) (x1:=w313) (x2:=w414) (x3:=w315) (x4:=w416) (x5:=w317) (x6:=w418) (vv:=(Sh.iv s r ax ay h)) (tp:=true) (k:=414) (hm:=by exact Sh.mat_hq hsm) (hv:=by exact Sh.iv_hq hok hr hqx hqy hh) (hk:=yG)) (.c (j:=0) rfl (.c (j:=1) rfl (.c (j:=2) rfl (.c (j:=3) rfl (.c (j:=4) rfl (.c (j:=5) rfl (.c (j:=6) rfl (.c (j:=7) rfl (.c (j:=8) rfl (.c (j:=11) rfl (.c (j:=10) rfl (.c (j:=9) rfl .n)))))))))))) ?_
    rintro ⟨u3_1,u3_2,u3_3,u3_4,u3_5,u3_6⟩ -
    dsimp only [aq,nq,cq]
    exact zJ (hD1 (u3_1,u3_2,u3_3,u3_4,u3_5,u3_6,u4_1)) kr ((.of rfl):SubM _ _) .rfl .rfl ((.of [0,1,2,12,13,14,15,16,17] rfl):SelR _ _ _)
  refine zga (X:=Wd×Wd×Wd×Wd×Wd×Wd×Wd×Wd×Wd×Wd×Wd×Wd×Wd×Wd×Wd×Wd×Wd×Wd) (k':=3) (L':=(lb 6 7)) (fun (u1_1,u1_2,u1_3,u1_4,u1_5,u1_6,u1_7,u1_8,u1_9,u1_10,u1_11,u1_12,u1_13,u1_14,u1_15,u1_16,u1_17,u1_18)=>([(40,.agg (cw [u1_1,u1_2,u1_3,u1_4,u1_5,u1_6,u1_7,u1_8,u1_9,u1_10,u1_11,u1_12,u1_13,u1_14,u1_15,u1_16,u1_17,u1_18]).toArray),(41,.agg (cw [w313,w414,w315,w416,w317,w418]).toArray),(8,ye (some ⟨b4,0,none⟩)),(5,ye (some ⟨b2,0,none⟩))],[],[boxA b12 54 (cw [w313,w414,w315,w416,w317,w418]),boxA b5 25 [yc yd ((yh s r).1),yc yd ((yh s r).2.1),yc yd ((yh s r).2.2.1),yc yd ((yh s r).2.2.2)],boxA b4 46 (cw [wz,wz,wz,wz]),boxA b3 54 (cw [u1,v1,u2,v2,u3,v3]),boxA b2 37 [yc yd (cm.fo),yc yd (cm.cx),yc yd (cm.cy)]],[qF true u1_1 u1_2 ((yA (yh s r)).1.1),qF true u1_3 u1_4 ((yA (yh s r)).1.2.1),qF true u1_5 u1_6 ((yA (yh s r)).1.2.2),qF true u1_7 u1_8 ((yA (yh s r)).2.1.1),qF true u1_9 u1_10 ((yA (yh s r)).2.1.2.1),qF true u1_11 u1_12 ((yA (yh s r)).2.1.2.2),qF true u1_13 u1_14 ((yA (yh s r)).2.2.1),qF true u1_15 u1_16 ((yA (yh s r)).2.2.2.1),qF true u1_17 u1_18 ((yA (yh s r)).2.2.2.2),qF true w317 w418 (((h:Int):Rat) - ((yx s r).2.2)),qF true w315 w416 (ay - ((yx s r).2.1)),qF true w313 w414 (ax - ((yx s r).1)),qF k1 u1 v1 ax,qF k2 u2 v2 ay,qF k3 u3 v3 ((h:Int):Rat)])) ?_ (fun hD4=> ?_)
  ·
   rintro ⟨u1_1,u1_2,u1_3,u1_4,u1_5,u1_6,u1_7,u1_8,u1_9,u1_10,u1_11,u1_12,u1_13,u1_14,u1_15,u1_16,u1_17,u1_18⟩
   dsimp only [cw,cS]
   refine zib 3 4 kr ?_ ?_
   ·
    refine zm rfl rfl rfl rfl (.c rfl (.c rfl (.c rfl .n))) ce49 (zod (u1:=u1_1) (u2:=u1_2) (u3:=u1_3) (u4:=u1_4) (u5:=u1_5) (u6:=u1_6) (u7:=u1_7) (u8:=u1_8) (u9:=u1_9) (u10:=u1_10) (u11:=u1_11) (u12:=u1_12) (u13:=u1_13) (u14:=u1_14) (u15:=u1_15) (u16:=u1_16) (u17:=u1_17) (u18:=u1_18) (mm:=(yA (yh s r))) (x1:=w313) (x2:=w414) (x3:=w315) (x4:=w416) (x5:=w317) (x6:=w418) (vv:=(Sh.iv s r ax ay h)) (tp:=true) (k:=414) (hm:=by exact Sh.mat_hq hsm) (hv:=by exact Sh.iv_hq hok hr hqx hqy hh) (hk:=yG)) (.c (j:=0) rfl (.c (j:=1) rfl (.c (j:=2) rfl (.c (j:=3) rfl (.c (j:=4) rfl (.c (j:=5) rfl (.c (j:=6) rfl (.c (j:=7) rfl (.c (j:=8) rfl (.c (j:=11) rfl (.c (j:=10) rfl (.c (j:=9) rfl .n)))))))))))) ?_
    rintro ⟨u3_1,u3_2,u3_3,u3_4,u3_5,u3_6⟩ -
    dsimp only [aq,nq,cq]
    exact zJ (hD2 (u3_1,u3_2,u3_3,u3_4,u3_5,u3_6)) kr ((.of rfl):SubM _ _) .rfl .rfl ((.of [0,1,2,12,13,14,15,16,17] rfl):SelR _ _ _)
   ·
    refine zua rfl rfl rfl rfl (zo zr54 rfl) (fun u4_1 _=> ?_)
    exact zJ (hD3 (u1_1,u1_2,u1_3,u1_4,u1_5,u1_6,u1_7,u1_8,u1_9,u1_10,u1_11,u1_12,u1_13,u1_14,u1_15,u1_16,u1_17,u1_18,u4_1)) kr ((.of rfl):SubM _ _) .rfl .rfl ((.of [0,1,2,3,4,5,6,7,8,9,10,11,12,13,14] rfl):SelR _ _ _)
  refine zga (X:=Nat) (k':=3) (L':=(lb 6 21)) (fun u4_1=>([(13,ye (some ⟨u4_1,0,none⟩)),(41,.agg (cw [w313,w414,w315,w416,w317,w418]).toArray),(39,.agg #[yc yd ((yh s r).1),yc yd ((yh s r).2.1),yc yd ((yh s r).2.2.1),yc yd ((yh s r).2.2.2)]),(8,ye (some ⟨b4,0,none⟩)),(5,ye (some ⟨b2,0,none⟩))],[boxA u4_1 54 (cw [wz,wz,wz,wz,wz,wz])],[boxA b12 54 (cw [w313,w414,w315,w416,w317,w418]),boxA b5 25 [yc yd ((yh s r).1),yc yd ((yh s r).2.1),yc yd ((yh s r).2.2.1),yc yd ((yh s r).2.2.2)],boxA b4 46 (cw [wz,wz,wz,wz]),boxA b3 54 (cw [u1,v1,u2,v2,u3,v3]),boxA b2 37 [yc yd (cm.fo),yc yd (cm.cx),yc yd (cm.cy)]],[qF true w317 w418 (((h:Int):Rat) - ((yx s r).2.2)),qF true w315 w416 (ay - ((yx s r).2.1)),qF true w313 w414 (ax - ((yx s r).1)),qF k1 u1 v1 ax,qF k2 u2 v2 ay,qF k3 u3 v3 ((h:Int):Rat)])) ?_ (fun hD5=> ?_)
  ·
   rintro u4_1
   dsimp only [cw,cS]
   refine zFa 1 kr ?_
   ·
    refine zm rfl rfl rfl rfl (.c rfl .n) ce50 (znd (q:=(yh s r)) (hsm:=yG)) (.n) ?_
    rintro ⟨u1_1,u1_2,u1_3,u1_4,u1_5,u1_6,u1_7,u1_8,u1_9,u1_10,u1_11,u1_12,u1_13,u1_14,u1_15,u1_16,u1_17,u1_18⟩ -
    dsimp only [aq,nq,cq]
    exact zJ (hD3 (u1_1,u1_2,u1_3,u1_4,u1_5,u1_6,u1_7,u1_8,u1_9,u1_10,u1_11,u1_12,u1_13,u1_14,u1_15,u1_16,u1_17,u1_18,u4_1)) kr ((.of rfl):SubM _ _) .rfl .rfl ((.of [0,1,2,3,4,5,6,7,8,9,10,11,12,13,14] rfl):SelR _ _ _)
  refine zib 1 4 kr ?_ ?_
  ·
   refine zm rfl rfl rfl rfl (.c rfl .n) ce50 (znd (q:=(yh s r)) (hsm:=yG)) (.n) ?_
   rintro ⟨u1_1,u1_2,u1_3,u1_4,u1_5,u1_6,u1_7,u1_8,u1_9,u1_10,u1_11,u1_12,u1_13,u1_14,u1_15,u1_16,u1_17,u1_18⟩ -
   dsimp only [aq,nq,cq]
   exact zJ (hD4 (u1_1,u1_2,u1_3,u1_4,u1_5,u1_6,u1_7,u1_8,u1_9,u1_10,u1_11,u1_12,u1_13,u1_14,u1_15,u1_16,u1_17,u1_18)) kr ((.of rfl):SubM _ _) .rfl .rfl ((.of [0,1,2,3,4,5,6,7,8,9,10,11,15,16,17] rfl):SelR _ _ _)
  ·
   refine zua rfl rfl rfl rfl (zo zr54 rfl) (fun u4_1 _=> ?_)
   exact zJ (hD5 u4_1) kr ((.of rfl):SubM _ _) .rfl .rfl ((.of [0,1,2,6,7,8] rfl):SelR _ _ _)
end Go.Proofs.YtjeahiahjgifgaaGreatDoor.Sp
namespace Go.Proofs.YtjeahiahjgifgaaGreatDoor.Sp
open Go
set_option linter.unusedVariables false
set_option maxRecDepth 100000
set_option maxHeartbeats 8000000
theorem zQf {s:Sh.S} {cm:Sh.C} {n:Int} {u1:Wd} {v1:Wd} {lx:Option Rat} {u2:Wd} {v2:Wd} {ly:Option Rat} {h:Int} (hfi: -9223372036854775808≤s.fi∧s.fi≤9223372036854775807) (hst: -9223372036854775808≤s.st∧s.st≤9223372036854775807) (hta: -9223372036854775808≤s.ta∧s.ta≤9223372036854775807) (htb: -9223372036854775808≤s.tb∧s.tb≤9223372036854775807) (hxa: -9223372036854775808≤s.xa∧s.xa≤9223372036854775807) (hya: -9223372036854775808≤s.ya∧s.ya≤9223372036854775807) (hza: -9223372036854775808≤s.za∧s.za≤9223372036854775807) (hqa: -9223372036854775808≤s.qa∧s.qa≤9223372036854775807) (hqb: -9223372036854775808≤s.qb∧s.qb≤9223372036854775807) (hqc: -9223372036854775808≤s.qc∧s.qc≤9223372036854775807) (hqd: -9223372036854775808≤s.qd∧s.qd≤9223372036854775807) (hxb: -9223372036854775808≤s.xb∧s.xb≤9223372036854775807) (hyb: -9223372036854775808≤s.yb∧s.yb≤9223372036854775807) (hzb: -9223372036854775808≤s.zb∧s.zb≤9223372036854775807) (hra: -9223372036854775808≤s.ra∧s.ra≤9223372036854775807) (hrb: -9223372036854775808≤s.rb∧s.rb≤9223372036854775807) (hrc: -9223372036854775808≤s.rc∧s.rc≤9223372036854775807) (hrd: -9223372036854775808≤s.rd∧s.rd≤9223372036854775807) (h64fo: -9223372036854775808≤cm.fo∧cm.fo≤9223372036854775807) (h64cx: -9223372036854775808≤cm.cx∧cm.cx≤9223372036854775807) (h64cy: -9223372036854775808≤cm.cy∧cm.cy≤9223372036854775807) (h64n: -9223372036854775808≤n∧n≤9223372036854775807) (h64h: -9223372036854775808≤h∧h≤9223372036854775807) (hqx:yT (lx.getD 0)≤400) (hqy:yT (ly.getD 0)≤400):Con yC 37 [.agg #[yc yd (s.fi),yc yd (s.st),yc yd (s.ta),yc yd (s.xa),yc yd (s.ya),yc yd (s.za),yc yd (s.qa),yc yd (s.qb),yc yd (s.qc),yc yd (s.qd),yc yd (s.tb),yc yd (s.xb),yc yd (s.yb),yc yd (s.zb),yc yd (s.ra),yc yd (s.rb),yc yd (s.rc),yc yd (s.rd)],.agg #[yc yd (cm.fo),yc yd (cm.cx),yc yd (cm.cy)],yc yd n,.agg #[u1.b,u1.l,v1.b,v1.l,u2.b,u2.l,v2.b,v2.l],yc yd h] [] [sgF,eF u1 v1 lx,eF u2 v2 ly] (Y:=(Option Addr)×Nat) (fun y=>True) (fun y=> .tuple #[.slice (y.1) ((yI s cm n lx.isSome (lx.getD 0) ly.isSome (ly.getD 0) h).length) (y.2),yc yd (yR s cm n lx.isSome ly.isSome h)]) (fun y=>[]) (fun y=>[slF (rI .i64) (y.1) (y.2) (yI s cm n lx.isSome (lx.getD 0) ly.isSome (ly.getD 0) h)]):=by
 refine zv Tryz.func37 rfl rfl rfl (fun c=> ?_)
 show RunC _ _ _ _ _ [(0,.agg #[yc yd (s.fi),yc yd (s.st),yc yd (s.ta),yc yd (s.xa),yc yd (s.ya),yc yd (s.za),yc yd (s.qa),yc yd (s.qb),yc yd (s.qc),yc yd (s.qd),yc yd (s.tb),yc yd (s.xb),yc yd (s.yb),yc yd (s.zb),yc yd (s.ra),yc yd (s.rb),yc yd (s.rc),yc yd (s.rd)]),(1,.agg #[yc yd (cm.fo),yc yd (cm.cx),yc yd (cm.cy)]),(2,yc yd n),(3,.agg #[u1.b,u1.l,v1.b,v1.l,u2.b,u2.l,v2.b,v2.l]),(4,yc yd h)] [] [sgF,eF u1 v1 lx,eF u2 v2 ly]
 refine zj<|zc<|zE rfl rfl (zZ rfl rfl) (fun b1=> ?_)
 refine zE rfl rfl (zZ rfl rfl) (fun b2=> ?_)
 refine zE rfl rfl (zZ rfl rfl) (fun b3=> ?_)
 refine e_p (zh rfl)<|e_p (zh rfl)<|zk<|zg<|zj<|zj<|zc<|e_ru (zd 2 ty29 rfl rfl (.t8 (.t8 (.t2 .nil))))<|e_mv rfl<|zU rfl rfl (.c rfl (.c rfl .n)) ce12 (zwc (s:=s) (n:=n) (hfi:=cbd) (hst:=cbd) (hta:=cbd) (htb:=cbd) (hxa:=cbd) (hya:=cbd) (hza:=cbd) (hqa:=cbd) (hqb:=cbd) (hqc:=cbd) (hqd:=cbd) (hxb:=cbd) (hyb:=cbd) (hzb:=cbd) (hra:=cbd) (hrb:=cbd) (hrc:=cbd) (hrd:=cbd)) (.n)<|e_p (zh rfl)<|zk<|zg<|zj<|zc<|e_mv rfl<|e_p (zAb rfl rfl)<|zk<|zg<|zT rfl (fun hc=> ?_) (fun hc=> ?_)
 ·
  refine zj<|zc<|e_mv rfl<|e_p (zh rfl)<|e_p (zh rfl)<|zk<|zg<|zS<|zu<|zPc (rI .i64) ?_
  have hg9:yR s cm n lx.isSome ly.isSome h=Sh.chk s n:=if_neg hc
  have hg8:¬yR s cm n lx.isSome ly.isSome h=0:=by rw [hg9];exact hc
  have hx9:(yI s cm n lx.isSome (lx.getD 0) ly.isSome (ly.getD 0) h)=[]:=if_neg hg8
  exact zCa yP (none,0) trivial (zC rfl) (zC rfl) (by rw [hg9,hx9];rfl) (ho:=(.n:PickO _ _ _)) ((.e (j:=0) rfl (by rw [hx9]) .n):SelR _ _ _)
 ·
  have hc0:Sh.chk s n=0:=Decidable.not_not.1 hc
  obtain ⟨hok,hn1,hlt,hnd⟩:=Sh.chk_ok hc0
  refine zw<|zg<|zj<|zj<|zc<|e_ru (zd 1 ty37 rfl rfl (.t2 (.take .nil)))<|e_mv rfl<|zU rfl rfl (.c rfl (.c rfl .n)) ce45 (zGb (cm:=cm) (h:=h) (h64fo:=cbd) (h64cx:=cbd) (h64cy:=cbd) (h64h:=cbd)) (.n)<|e_p (zKa rfl)<|zk<|zg<|zT rfl (fun hcr=> ?_) (fun hcr=> ?_)
  ·
   refine zj<|zc<|e_p (zh rfl)<|e_p (zh rfl)<|zk<|zg<|zS<|zu<|zPc (rI .i64) ?_
   have hg9:yR s cm n lx.isSome ly.isSome h=2:=(if_pos hc0).trans (if_neg hcr)
   have hg8:¬yR s cm n lx.isSome ly.isSome h=0:=by rw [hg9];decide
   have hx9:(yI s cm n lx.isSome (lx.getD 0) ly.isSome (ly.getD 0) h)=[]:=if_neg hg8
   exact zCa yP (none,0) trivial (zC rfl) (zC rfl) (by rw [hg9,hx9];rfl) (ho:=(.n:PickO _ _ _)) ((.e (j:=0) rfl (by rw [hx9]) .n):SelR _ _ _)
  ·
   have hcr2:=Decidable.not_not.1 hcr
   refine zw<|zg<|zj<|zj<|zc<|e_ru (zd 0 ty46 rfl rfl (.t8 .nil))<|zU rfl rfl (.c rfl .n) ce63 (zTd (u1:=u1) (v1:=v1) (lx:=lx) (u2:=u2) (v2:=v2) (ly:=ly)) (.c (j:=1) rfl (.c (j:=2) rfl .n))<|e_p (zKa rfl)<|zk<|zg<|zT rfl (fun hcn=> ?_) (fun hcn=> ?_)
   ·
    refine zj<|zc<|e_p (zh rfl)<|e_p (zh rfl)<|zk<|zg<|zS<|zu<|zPc (rI .i64) ?_
    have hg9:yR s cm n lx.isSome ly.isSome h=1:=((if_pos hc0).trans (if_pos hcr2)).trans (if_neg hcn)
    have hg8:¬yR s cm n lx.isSome ly.isSome h=0:=by rw [hg9];decide
    have hx9:(yI s cm n lx.isSome (lx.getD 0) ly.isSome (ly.getD 0) h)=[]:=if_neg hg8
    exact zCa yP (none,0) trivial (zC rfl) (zC rfl) (by rw [hg9,hx9];rfl) (ho:=(.n:PickO _ _ _)) ((.e (j:=0) rfl (by rw [hx9]) .n):SelR _ _ _)
   ·
    have hcn2:=Decidable.not_not.1 hcn
    refine zw<|zg<|zj<|zwd (qF lx.isSome u1 v1 (lx.getD 0)) (eF_weak 1 rfl)<|zwd (qF ly.isSome u2 v2 (ly.getD 0)) (eF_weak 3 rfl)<|zc<|e_p (zh rfl)<|zk<|zg<|zj<|zj<|zDe 3 (rI .i64)<|zc<|e_mv rfl<|e_mv rfl<|zk<|zg<|zt<|zBa (X:=Nat×(Option Addr)×Nat×(List Int)) (fun x:Nat×(Option Addr)×Nat×(List Int)=>x.1≤n.toNat∧x.2.2.2=(yK s cm (lx.getD 0) (ly.getD 0) h x.1)) (fun x=>[(13,.slice (x.2.1) (x.2.2.2.length) (x.2.2.1)),(31,yc yd ((x.1:Nat):Int)),(30,yc yd n),(11,yc yd 0),(10,.slice none 0 0),(8,ye (some ⟨b3,0,none⟩)),(6,ye (some ⟨b2,0,none⟩)),(5,ye (some ⟨b1,0,none⟩)),(4,yc yd h)]) (fun x=>[rowA 3 (rI .i64) (x.2.1) (x.2.2.1) (x.2.2.2),boxA b3 46 (cw [u1,v1,u2,v2]),boxA b2 37 [yc yd (cm.fo),yc yd (cm.cx),yc yd (cm.cy)],boxA b1 29 (cS s)]) (fun x=>[qF ly.isSome u2 v2 (ly.getD 0),qF lx.isSome u1 v1 (lx.getD 0),sgF,eF u1 v1 lx,eF u2 v2 ly]) (fun x:Nat×(Option Addr)×Nat×(List Int)=>n.toNat - x.1) (0,none,0,([]:List Int)) (show 0≤n.toNat∧([]:List Int)=(yK s cm (lx.getD 0) (ly.getD 0) h 0) from by exact ⟨Nat.zero_le _,rfl⟩) ((.e rfl (by first|rfl|(congr 1;omega)|simp_all) (.e rfl (by first|rfl|(congr 1;omega)|simp_all) (.of rfl))):SubM _ _) (ho:=((.e (i:=0) rfl (by first|rfl|(congr 1;omega)|simp_all) (.of [0,0,0] rfl)):PickO _ _ _)) ((.of [0,1,2,3,4] rfl):SelR _ _ _) ?_
    rintro ⟨i,pR,cR,A⟩ hI
    replace hI:i≤n.toNat∧A=(yK s cm (lx.getD 0) (ly.getD 0) h i):=hI
    try dsimp only [cw]
    obtain ⟨hi,hA⟩:=hI
    have hAl:A.length≤i:=by rw [hA];exact Sh.rowsL_len i
    refine zj<|zc<|e_p (zO rfl rfl)<|zk<|zg<|zj<|zT rfl (fun h4=> ?_) (fun h4=> ?_)
    ·
     have hiq:=Sh.ix_hq hok hcr2.1 (r:=((i:Nat):Int)) ⟨by omega,by omega⟩ hqx hqy hcr2.2
     obtain ⟨-,hiq⟩:=hiq
     refine zw<|zg<|zj<|zt<|zj<|zc<|e_mv rfl<|e_p (zh rfl)<|zk<|zg<|zj<|zc<|e_ru (zd 3 ty29 rfl rfl (.t8 (.t8 (.t2 .nil))))<|e_ru (zd 2 ty37 rfl rfl (.t2 (.take .nil)))<|e_mv rfl<|e_ru (zd 1 ty46 rfl rfl (.t8 .nil))<|e_mv rfl<|zG rfl rfl (.c rfl (.c rfl (.c rfl (.c rfl (.c rfl .n))))) ce48 (zie (s:=s) (cm:=cm) (r:=((i:Nat):Int)) (k1:=lx.isSome) (u1:=u1) (v1:=v1) (ax:=(lx.getD 0)) (k2:=ly.isSome) (u2:=u2) (v2:=v2) (ay:=(ly.getD 0)) (h:=h) (hok:=by exact hok) (hlt:=by exact hlt) (hc:=by exact hcr2.1) (hr:=om) (hqx:=by exact hqx) (hqy:=by exact hqy) (hh:=by exact hcr2.2)) (.c (j:=2) rfl (.c (j:=1) rfl (.c (j:=0) rfl .n))) ?_
     rintro ⟨w15,w26,w37,w48⟩ hph
     dsimp only [aq,nq,cq]
     replace hph:yM s ((i:Nat):Int) (lx.getD 0) (ly.getD 0) h≠0→w15=wz∧w26=wz∧w37=wz∧w48=wz:=hph
     refine e_mv rfl<|e_p (zy rfl rfl)<|e_p (zy rfl rfl)<|zE rfl rfl (zo zr46 rfl) (fun b9=> ?_)
     refine zl 0 rfl rfl rfl rfl rfl sz46 rfl (.t8 .nil) .z<|e_p (zh rfl)<|zk<|zg<|zAa (X:=Unit) (fun x=>True) (fun x=>[(63,.bool (decide (Sh.seen s cm (lx.getD 0) (ly.getD 0) h ((i:Nat):Int)))),(14,yc yd ((i:Nat):Int)),(13,.slice pR (A.length) cR),(31,yc yd ((i:Nat):Int)),(30,yc yd n),(11,yc yd 0),(10,.slice none 0 0),(8,ye (some ⟨b3,0,none⟩)),(6,ye (some ⟨b2,0,none⟩)),(5,ye (some ⟨b1,0,none⟩)),(4,yc yd h)]) (fun x=>[boxA b9 46 (cw [w15,w26,w37,w48]),rowA 3 (rI .i64) pR cR A,boxA b3 46 (cw [u1,v1,u2,v2]),boxA b2 37 [yc yd (cm.fo),yc yd (cm.cx),yc yd (cm.cy)],boxA b1 29 (cS s)]) (fun x=>[qF (decide (yM s ((i:Nat):Int) (lx.getD 0) (ly.getD 0) h=0)) w15 w26 (Sh.ix s cm ((i:Nat):Int) (lx.getD 0) (ly.getD 0) h),qF (decide (yM s ((i:Nat):Int) (lx.getD 0) (ly.getD 0) h=0)) w37 w48 (Sh.iy s cm ((i:Nat):Int) (lx.getD 0) (ly.getD 0) h),qF ly.isSome u2 v2 (ly.getD 0),qF lx.isSome u1 v1 (lx.getD 0),sgF,eF u1 v1 lx,eF u2 v2 ly]) ?_ ?_
     ·
      refine zP (OW:=[]) (O:=[boxA b9 46 (cw [w15,w26,w37,w48]),rowA 3 (rI .i64) pR cR A,boxA b3 46 (cw [u1,v1,u2,v2]),boxA b2 37 [yc yd (cm.fo),yc yd (cm.cx),yc yd (cm.cy)],boxA b1 29 (cS s)]) 100000 mixed (.then (.block (.then (.then (.block (.then .ret)))))) kr<|e_dm 0 rfl rfl rfl<|e_pv 1 rfl rfl (zOa rfl rfl)<|ztc 2 rfl rfl kr kr rfl rfl (zka rfl) (fun g1=> ?_) (fun g1=> ?_)
      ·
       refine e_pv 3 rfl rfl (zf yl rfl sz44 rfl rfl)<|e_u 4 rfl rfl (zd 0 ty44 rfl rfl (.s4 (.t4 .nil)))<|e_dm 5 rfl rfl rfl<|e_pv 6 rfl rfl (zJa (z:=(((64*i):Nat):Int)) rfl rfl (w64 om))<|e_one 7 (zm rfl rfl rfl rfl (.c rfl .n) ce71 (zD (z:=(((64*i):Nat):Int)) (hz:=om)) (.n) ?_)
       rintro ⟨w310,w411⟩ -
       dsimp only [aq,nq,cq]
       refine e_one 8 (zLa rfl rfl rfl rfl (.c rfl (.c rfl .n)) ce70 (zSc (k1:=(decide (yM s ((i:Nat):Int) (lx.getD 0) (ly.getD 0) h=0))) (u1:=w37) (v1:=w48) (q1:=(Sh.iy s cm ((i:Nat):Int) (lx.getD 0) (ly.getD 0) h)) (k2:=true) (u2:=w310) (v2:=w411) (q2:=(((((64*i):Nat):Int):Int):Rat)) (hl:=yG)) (.c (j:=2) rfl (.c (j:=0) rfl .n)) ?_)
       refine e_pv 9 rfl rfl (zob rfl rfl)<|e_pv 10 rfl rfl (zK rfl rfl)<|ztc 11 rfl rfl kr kr rfl rfl (zka rfl) (fun g2=> ?_) (fun g2=> ?_)
       ·
        refine e_pv 12 rfl rfl (zf yl rfl sz44 rfl rfl)<|e_u 13 rfl rfl (zd 0 ty44 rfl rfl (.s4 (.t4 .nil)))<|e_dm 14 rfl rfl rfl<|e_pv 15 rfl rfl (zJa (z:=(((64*i):Nat):Int)) rfl rfl (w64 om))<|e_pv 16 rfl rfl (zH (z:=((((64*i)+64):Nat):Int)) rfl rfl (w64 om))<|e_one 17 (zm rfl rfl rfl rfl (.c rfl .n) ce71 (zD (z:=((((64*i)+64):Nat):Int)) (hz:=om)) (.n) ?_)
        rintro ⟨w312,w413⟩ -
        dsimp only [aq,nq,cq]
        refine e_one 18 (zLa rfl rfl rfl rfl (.c rfl (.c rfl .n)) ce70 (zSc (k1:=(decide (yM s ((i:Nat):Int) (lx.getD 0) (ly.getD 0) h=0))) (u1:=w37) (v1:=w48) (q1:=(Sh.iy s cm ((i:Nat):Int) (lx.getD 0) (ly.getD 0) h)) (k2:=true) (u2:=w312) (v2:=w413) (q2:=((((((64*i)+64):Nat):Int):Int):Rat)) (hl:=yG)) (.c (j:=3) rfl (.c (j:=0) rfl .n)) ?_)
        refine e_pv 19 rfl rfl (zO rfl rfl)<|e_pv 20 rfl rfl (zK rfl rfl)<|zN kr ?_
        exact zha () (show True from by first|trivial|omega|simp_all) ((.e rfl (congrArg Value.bool (by first|(exact (decide_eq_false (fun k=>g1 k.1.1)).symm)|(exact (decide_eq_false (fun k=>g2 k.1.2)).symm)|exact decide_eq_decide.2 ⟨fun k=>⟨⟨g1,g2⟩,k⟩,fun k=>k.2⟩)) (.of rfl)):SubM _ _) (ho:=((.of [0,0,0,0,0] rfl):PickO _ _ _)) ((.of [2,3,4,5,6,7,8] rfl):SelR _ _ _)
       ·
        refine e_skip 12 rfl rfl<|e_skip 13 rfl rfl<|e_skip 14 rfl rfl<|e_skip 15 rfl rfl<|e_skip 16 rfl rfl<|e_skip 17 rfl rfl<|e_skip 18 rfl rfl<|e_skip 19 rfl rfl<|e_pv 20 rfl rfl (zK rfl rfl)<|zN kr ?_
        exact zha () (show True from by first|trivial|omega|simp_all) ((.e rfl (congrArg Value.bool (by first|(exact (decide_eq_false (fun k=>g1 k.1.1)).symm)|(exact (decide_eq_false (fun k=>g2 k.1.2)).symm)|exact decide_eq_decide.2 ⟨fun k=>⟨⟨g1,g2⟩,k⟩,fun k=>k.2⟩)) (.of rfl)):SubM _ _) (ho:=((.of [0,0,0,0,0] rfl):PickO _ _ _)) ((.of [1,2,3,4,5,6,7] rfl):SelR _ _ _)
      ·
       refine e_skip 3 rfl rfl<|e_skip 4 rfl rfl<|e_skip 5 rfl rfl<|e_skip 6 rfl rfl<|e_skip 7 rfl rfl<|e_skip 8 rfl rfl<|e_skip 9 rfl rfl<|e_pv 10 rfl rfl (zK rfl rfl)<|e_dm 11 rfl rfl rfl<|e_skip 12 rfl rfl<|e_skip 13 rfl rfl<|e_skip 14 rfl rfl<|e_skip 15 rfl rfl<|e_skip 16 rfl rfl<|e_skip 17 rfl rfl<|e_skip 18 rfl rfl<|e_skip 19 rfl rfl<|e_pv 20 rfl rfl (zK rfl rfl)<|zN kr ?_
       exact zha () (show True from by first|trivial|omega|simp_all) ((.e rfl (congrArg Value.bool (by first|(exact (decide_eq_false (fun k=>g1 k.1.1)).symm)|(exact (decide_eq_false (fun k=>g2 k.1.2)).symm)|exact decide_eq_decide.2 ⟨fun k=>⟨⟨g1,g2⟩,k⟩,fun k=>k.2⟩)) (.of rfl)):SubM _ _) (ho:=((.of [0,0,0,0,0] rfl):PickO _ _ _)) ((.of [0,1,2,3,4,5,6] rfl):SelR _ _ _)
     ·
      rintro ⟨⟩ -
      try dsimp only [cw]
      refine zT rfl (fun hsee=> ?_) (fun hsee=> ?_)
      ·
       refine zc<|e_mv rfl<|e_mv rfl<|zDa rfl rfl (zR (enc:=fun z:Int=>[yc yd z]) (ok:=InK .i64) (h1:=fun _=>rfl) (h2:=fun _=>rfl) (k:=1) yk inf3 rfl dd dd dd (.c (x:=((i:Nat):Int)) rfl rfl (fun _ _=>by exact zq.2 om) .n)) (fun b14 _=> ?_)
       refine zia 0 rfl .z<|zeb 2 rfl rfl rfl (zVa 0 rfl yk inf3 dd rfl rfl (by first|rfl|assumption|(simp;done)|omega) rfl (by first|rfl|assumption|(simp;done)|omega) om om) (fun _=>(.s (.s .z))) ?_
       rintro ⟨p15,c16⟩ -
       dsimp only [aq,nq,cq]
       refine e_p (zh rfl)<|zk<|zI<|zg<|zc<|e_p (zH (z:=(((i+1):Nat):Int)) rfl rfl (w64 om))<|e_mv rfl<|zk<|zwa ((i+1),p15,c16,(A++([((i:Nat):Int)]))) (show (i+1)≤n.toNat∧(A++([((i:Nat):Int)]))=(yK s cm (lx.getD 0) (ly.getD 0) h (i+1)) from by exact ⟨by omega,by rw [yK,if_pos hsee,←hA]⟩) (by show n.toNat - (i+1)<n.toNat - i;omega) ((.e rfl (by simp) (.of rfl)):SubM _ _) (ho:=((.of [2,2,2,2] rfl):PickO _ _ _)) ((.of [3,4,5,6,7] rfl):SelR _ _ _)
      ·
       refine zw<|zI<|zg<|zc<|e_p (zH (z:=(((i+1):Nat):Int)) rfl rfl (w64 om))<|e_mv rfl<|zk<|zwa ((i+1),pR,cR,A) (show (i+1)≤n.toNat∧A=(yK s cm (lx.getD 0) (ly.getD 0) h (i+1)) from by exact ⟨by omega,by rw [yK,if_neg hsee,←hA,List.append_nil]⟩) (by show n.toNat - (i+1)<n.toNat - i;omega) ((.of rfl):SubM _ _) (ho:=((.of [1,1,1,1] rfl):PickO _ _ _)) ((.of [2,3,4,5,6] rfl):SelR _ _ _)
    ·
     refine zla<|zn<|zn<|zA<|zg<|zj<|zc<|e_mv rfl<|e_p (zh rfl)<|e_p (zh rfl)<|zk<|zg<|zS ?_
     have hg9:yR s cm n lx.isSome ly.isSome h=0:=((if_pos hc0).trans (if_pos hcr2)).trans (if_pos hcn2)
     have hx9:(yI s cm n lx.isSome (lx.getD 0) ly.isSome (ly.getD 0) h)=A:=(if_pos hg9).trans (by rw [hA,show n.toNat=i by omega])
     refine zOb 0 rfl .z ?_
     exact zCa yP (pR,cR) trivial (zC rfl) (zC rfl) (by rw [hg9,hx9]) (ho:=(.n:PickO _ _ _)) ((.e (j:=0) rfl (by rw [hx9]) .n):SelR _ _ _)
end Go.Proofs.YtjeahiahjgifgaaGreatDoor.Sp
namespace Go.Proofs.YtjeahiahjgifgaaGreatDoor.Sp
open Go
set_option linter.unusedVariables false
set_option maxRecDepth 100000
set_option maxHeartbeats 8000000
theorem zzf {p1:Option Addr} {n1:Nat} {c1:Nat} {l1:List Int} {p2:Option Addr} {n2:Nat} {c2:Nat} {l2:List Int} (hn1:l1.length=n1) (hn2:l2.length=n2):Con yC 39 [.slice p1 n1 c1,.slice p2 n2 c2] [] [slF (rI .i64) p1 c1 l1,slF (rI .i64) p2 c2 l2] (Y:=Unit) (fun y=>True) (fun y=> .bool (decide (l1=l2))) (fun y=>[]) (fun y=>[]):=by
 refine zv Tryz.func39 rfl rfl rfl (fun c=> ?_)
 show RunC _ _ _ _ _ [(0,.slice p1 n1 c1),(1,.slice p2 n2 c2)] [] [slF (rI .i64) p1 c1 l1,slF (rI .i64) p2 c2 l2]
 refine zqa 0 rfl (fun hL0=> ?_)
 refine zqa 1 rfl (fun hL1=> ?_)
 refine zj<|zc<|e_p (zh rfl)<|zk<|zg<|zj<|zj<|zc<|e_mv rfl<|e_p (zfa yk rfl)<|e_mv rfl<|e_p (zfa yk rfl)<|e_p (zAb rfl rfl)<|zk<|zg<|zT rfl (fun hlen=> ?_) (fun hlen=> ?_)
 ·
  refine zj<|zc<|e_p (zh rfl)<|zk<|zg<|zS<|zu ?_
  exact zM Tryz.results39 () trivial (zC rfl) (congrArg Value.bool (decide_eq_false (fun h=>hlen (by rw [← hn1,←hn2,h])))) (ho:=(.n:PickO _ _ _)) (.n:SelR _ _ _)
 ·
  refine zw<|zg<|zj<|zj<|zc<|e_mv rfl<|e_p (zfa yk rfl)<|e_mv rfl<|zk<|zg<|zt<|zBa (X:=Nat) (fun x:Nat=>x≤n1∧∀j,j<x→l1.getD j 0=l2.getD j 0) (fun x=>[(13,yc yd ((x:Nat):Int)),(12,yc yd ((n1:Nat):Int)),(0,.slice p1 n1 c1),(1,.slice p2 n2 c2)]) (fun x=>[]) (fun x=>[slF (rI .i64) p1 c1 l1,slF (rI .i64) p2 c2 l2]) (fun x:Nat=>n1 - x) 0 (show 0≤n1∧∀j,j<0→l1.getD j 0=l2.getD j 0 from by exact ⟨by omega,fun j h=>by omega⟩) ((.e rfl (by first|rfl|(congr 1;omega)|simp_all) (.of rfl)):SubM _ _) (ho:=(.n:PickO _ _ _)) ((.of [0,1] rfl):SelR _ _ _) ?_
  rintro i hI
  replace hI:i≤n1∧∀j,j<i→l1.getD j 0=l2.getD j 0:=hI
  try dsimp only
  obtain ⟨hi,hall⟩:=hI
  refine zj<|zc<|e_p (zO rfl rfl)<|zk<|zg<|zj<|zT rfl (fun h1=> ?_) (fun h1=> ?_)
  ·
   refine zw<|zg<|zj<|zt<|zj<|zc<|e_mv rfl<|e_p (zh rfl)<|zk<|zg<|zj<|zP (OW:=[]) (O:=[]) 100000 mixed (.then (.block (.then (.then (.block (.then .ret)))))) kr<|e_dm 0 rfl rfl rfl<|e_dm 1 rfl rfl rfl<|zUa (x0:=(l1.getD i 0)) 2 rfl rfl kr kr 0 i rfl yk sz3 rfl rfl rfl cbs rfl rfl (gD (d:=0) om) (fun b2 o3 hok4=> ?_)
   replace hok4:=zq.1 hok4
   refine e_u 3 rfl rfl (zB (j:=0) 0 ty3 rfl rfl rfl rfl)<|e_dm 4 rfl rfl rfl<|e_dm 5 rfl rfl rfl<|zUa (x0:=(l2.getD i 0)) 6 rfl rfl kr kr 2 i rfl yk sz3 rfl rfl rfl cbs rfl rfl (gD (d:=0) om) (fun b5 o6 hok7=> ?_)
   replace hok7:=zq.1 hok7
   refine e_u 7 rfl rfl (zB (j:=0) 0 ty3 rfl rfl rfl rfl)<|e_pv 8 rfl rfl (zAb rfl rfl)<|zN kr<|zg<|zT rfl (fun hd=> ?_) (fun hd=> ?_)
   ·
    refine zj<|zc<|e_p (zh rfl)<|zk<|zg<|zS<|zda<|zu<|zu<|zda<|zu ?_
    exact zM Tryz.results39 () trivial (zC rfl) (congrArg Value.bool (decide_eq_false (fun h=>hd (by simp [h])))) (ho:=(.n:PickO _ _ _)) (.n:SelR _ _ _)
   ·
    refine zw<|zI<|zg<|zc<|e_p (zH (z:=(((i+1):Nat):Int)) rfl rfl (w64 om))<|e_mv rfl<|zk<|zwa (i+1) (show (i+1)≤n1∧∀j,j<(i+1)→l1.getD j 0=l2.getD j 0 from by refine ⟨by omega,fun j hj=> ?_⟩;by_cases e:j=i;rw [e];exact Decidable.not_not.1 hd;exact hall j om) (by show n1 - (i+1)<n1 - i;omega) ((.of rfl):SubM _ _) (ho:=(.n:PickO _ _ _)) ((.of [2,3] rfl):SelR _ _ _)
  ·
   refine zla<|zn<|zn<|zA<|zg<|zj<|zc<|e_p (zh rfl)<|zk<|zg<|zS ?_
   exact zM Tryz.results39 () trivial (zC rfl) (congrArg Value.bool (decide_eq_true (Big.ext_getD om (fun j hj=>hall j om)))) (ho:=(.n:PickO _ _ _)) (.n:SelR _ _ _)
end Go.Proofs.YtjeahiahjgifgaaGreatDoor.Sp
namespace Go.Proofs.YtjeahiahjgifgaaGreatDoor.Sh
open Go.Proofs.YtjeahiahjgifgaaGreatDoor.Big
def tv (t:Int) (b:Bool):Int:=if t=0 then (if b=true then 0 else 1) else t
theorem tv_yes {t:Int} {b:Bool} (g:t=0∧¬b=true):(1:Int)=tv t b:=by unfold tv;rw [if_pos g.1,if_neg g.2]
theorem tv_no {t:Int} {b:Bool} (g:¬(t=0∧¬b=true)):t=tv t b:=by
  unfold tv
  by_cases h:t=0
  · rw [if_pos h,if_pos (Decidable.byContradiction fun k=>g ⟨h,k⟩),h]
  · rw [if_neg h]
theorem bt1 {P:Prop} [Decidable P] {a b:Bool} (h:P) (k:(!a)=true):true=decide (P∧¬(a&&b)=true):=(decide_eq_true ⟨h,by cases a <;> simp_all⟩).symm
theorem bt2 {P:Prop} [Decidable P] {a b:Bool} (h:P) (k:(!a)=false):(!b)=decide (P∧¬(a&&b)=true):=by
  cases a
  · cases k
  · cases b
    · exact (decide_eq_true ⟨h,by decide⟩).symm
    · exact (decide_eq_false (fun e=>e.2 rfl)).symm
theorem bt3 {P:Prop} [Decidable P] {a b:Bool} (h:¬P):false=decide (P∧¬(a&&b)=true):=(decide_eq_false (fun e=>h e.1)).symm
def tn (t:Int) (p:Prop) [Decidable p]:Int:=if t=0 then (if p then 0 else 2) else t
theorem tn_yes {t:Int} {p q:Prop} [Decidable p] (hq:q↔p) (g:t=0∧¬q):(2:Int)=tn t p:=by unfold tn;rw [if_pos g.1,if_neg (fun k=>g.2 (hq.2 k))]
theorem tn_no {t:Int} {p q:Prop} [Decidable p] (hq:q↔p) (g:¬(t=0∧¬q)):t=tn t p:=by
  unfold tn
  by_cases h:t=0
  · rw [if_pos h,if_pos (Decidable.byContradiction fun k=>g ⟨h,fun e=>k (hq.1 e)⟩),h]
  · rw [if_neg h]
theorem Rc_tv (s:S) (c:C) (n:Int) (kx ky:Bool) (h:Int):tv (tn (chk s n) (rc c h)) (kx&&ky)=Rc s c n kx ky h:=by
  unfold Rc tv tn
  by_cases h1:chk s n=0
  · by_cases h2 : rc c h
    · cases kx <;> cases ky <;> simp [h1,h2]
    · simp [h1,h2]
  · simp [h1]
theorem Rc_zero {s:S} {c:C} {n:Int} {kx ky:Bool} {h:Int} (g:Rc s c n kx ky h=0):chk s n=0∧rc c h∧(kx=true∧ky=true):=by
  unfold Rc at g
  split at g
  · rename_i h1; split at g
    · rename_i h2; split at g
      · rename_i h3;exact ⟨h1,h2,h3⟩
      · cases g
    · cases g
  · rename_i h1;exact absurd g h1
end Go.Proofs.YtjeahiahjgifgaaGreatDoor.Sh
namespace Go.Proofs.YtjeahiahjgifgaaGreatDoor.Sp
open Go
set_option linter.unusedVariables false
set_option maxRecDepth 100000
set_option maxHeartbeats 8000000
theorem zpd {s:Sh.S} {cm:Sh.C} {n:Int} {h:Int} {wa:Wd} {wb:Wd} {wc:Wd} {wd:Wd} {xa:List Int} {xb:List Int} {ya:List Int} {yb:List Int} (hfi: -9223372036854775808≤s.fi∧s.fi≤9223372036854775807) (hst: -9223372036854775808≤s.st∧s.st≤9223372036854775807) (hta: -9223372036854775808≤s.ta∧s.ta≤9223372036854775807) (htb: -9223372036854775808≤s.tb∧s.tb≤9223372036854775807) (hxa: -9223372036854775808≤s.xa∧s.xa≤9223372036854775807) (hya: -9223372036854775808≤s.ya∧s.ya≤9223372036854775807) (hza: -9223372036854775808≤s.za∧s.za≤9223372036854775807) (hqa: -9223372036854775808≤s.qa∧s.qa≤9223372036854775807) (hqb: -9223372036854775808≤s.qb∧s.qb≤9223372036854775807) (hqc: -9223372036854775808≤s.qc∧s.qc≤9223372036854775807) (hqd: -9223372036854775808≤s.qd∧s.qd≤9223372036854775807) (hxb: -9223372036854775808≤s.xb∧s.xb≤9223372036854775807) (hyb: -9223372036854775808≤s.yb∧s.yb≤9223372036854775807) (hzb: -9223372036854775808≤s.zb∧s.zb≤9223372036854775807) (hra: -9223372036854775808≤s.ra∧s.ra≤9223372036854775807) (hrb: -9223372036854775808≤s.rb∧s.rb≤9223372036854775807) (hrc: -9223372036854775808≤s.rc∧s.rc≤9223372036854775807) (hrd: -9223372036854775808≤s.rd∧s.rd≤9223372036854775807) (h64fo: -9223372036854775808≤cm.fo∧cm.fo≤9223372036854775807) (h64cx: -9223372036854775808≤cm.cx∧cm.cx≤9223372036854775807) (h64cy: -9223372036854775808≤cm.cy∧cm.cy≤9223372036854775807) (h64n: -9223372036854775808≤n∧n≤9223372036854775807) (h64h: -9223372036854775808≤h∧h≤9223372036854775807) (hxa:xa.length=wa.n) (hxb:xb.length=wb.n) (hya:ya.length=wc.n) (hyb:yb.length=wd.n) (hwa:wa.n≤1048576) (hwb:wb.n≤1048576) (hwc:wc.n≤1048576) (hwd:wd.n≤1048576):Con yC 10 [.agg #[yc yd (s.fi),yc yd (s.st),yc yd (s.ta),yc yd (s.xa),yc yd (s.ya),yc yd (s.za),yc yd (s.qa),yc yd (s.qb),yc yd (s.qc),yc yd (s.qd),yc yd (s.tb),yc yd (s.xb),yc yd (s.yb),yc yd (s.zb),yc yd (s.ra),yc yd (s.rb),yc yd (s.rc),yc yd (s.rd)],.agg #[yc yd (cm.fo),yc yd (cm.cx),yc yd (cm.cy),yc yd n,yc yd h,wa.b,wa.l,wb.b,wb.l,wc.b,wc.l,wd.b,wd.l]] [] [sgF,slF (rI .u32) (wa.p) (wa.c) xa,slF (rI .u32) (wb.p) (wb.c) xb,slF (rI .u32) (wc.p) (wc.c) ya,slF (rI .u32) (wd.p) (wd.c) yb] (Y:=Unit) (fun y=>True) (fun y=> .bool true) (fun y=>[]) (fun y=>[]):=by
 refine zv Tryz.func10 rfl rfl rfl (fun c=> ?_)
 show RunC _ _ _ _ _ [(0,.agg #[yc yd (s.fi),yc yd (s.st),yc yd (s.ta),yc yd (s.xa),yc yd (s.ya),yc yd (s.za),yc yd (s.qa),yc yd (s.qb),yc yd (s.qc),yc yd (s.qd),yc yd (s.tb),yc yd (s.xb),yc yd (s.yb),yc yd (s.zb),yc yd (s.ra),yc yd (s.rb),yc yd (s.rc),yc yd (s.rd)]),(1,.agg #[yc yd (cm.fo),yc yd (cm.cx),yc yd (cm.cy),yc yd n,yc yd h,wa.b,wa.l,wb.b,wb.l,wc.b,wc.l,wd.b,wd.l])] [] [sgF,slF (rI .u32) (wa.p) (wa.c) xa,slF (rI .u32) (wb.p) (wb.c) xb,slF (rI .u32) (wc.p) (wc.c) ya,slF (rI .u32) (wd.p) (wd.c) yb]
 refine zqa 1 rfl (fun hL1=> ?_)
 refine zfb 1 rfl (fun hE1=> ?_)
 refine zqa 2 rfl (fun hL2=> ?_)
 refine zfb 2 rfl (fun hE2=> ?_)
 refine zqa 3 rfl (fun hL3=> ?_)
 refine zfb 3 rfl (fun hE3=> ?_)
 refine zqa 4 rfl (fun hL4=> ?_)
 refine zfb 4 rfl (fun hE4=> ?_)
 have hnxa:Big.nn xa:=fun d hd=>(zL.1 (hE1 d hd)).1
 have hnxb:Big.nn xb:=fun d hd=>(zL.1 (hE2 d hd)).1
 have hnya:Big.nn ya:=fun d hd=>(zL.1 (hE3 d hd)).1
 have hnyb:Big.nn yb:=fun d hd=>(zL.1 (hE4 d hd)).1
 refine zj<|zc<|zE rfl rfl (zZ rfl rfl) (fun b1=> ?_)
 refine zE rfl rfl (zZ rfl rfl) (fun b2=> ?_)
 refine e_p (zh rfl)<|zk<|zg<|zj<|zj<|zc<|zU rfl rfl (.n) ce11 (zyf) (.c (j:=0) rfl .n)<|e_p (zhc rfl)<|zk<|zg<|zta rfl rfl<|zw<|zg<|zj<|zAa (X:=Unit) (fun x=>True) (fun x=>[(27,.bool (decide ((¬(wa.n+wb.n≤12∧wc.n+wd.n≤12))∨((12<n)∧(n≤64))))),(3,ye (some ⟨b2,0,none⟩)),(2,ye (some ⟨b1,0,none⟩))]) (fun x=>[boxA b2 75 [yc yd (cm.fo),yc yd (cm.cx),yc yd (cm.cy),yc yd n,yc yd h,wa.b,wa.l,wb.b,wb.l,wc.b,wc.l,wd.b,wd.l],boxA b1 29 (cS s)]) (fun x=>[sgF,slF (rI .u32) (wa.p) (wa.c) xa,slF (rI .u32) (wb.p) (wb.c) xb,slF (rI .u32) (wc.p) (wc.c) ya,slF (rI .u32) (wd.p) (wd.c) yb]) ?_ ?_
 ·
  refine zc<|e_p (zf yo rfl sz46 rfl rfl)<|e_ru (zd 0 ty46 rfl rfl (.s4 (.skip (.t8 .nil))))<|zU rfl rfl (.c rfl .n) ce30 (zxf (u1:=wa) (v1:=wb) (u2:=wc) (v2:=wd) (h1:=ass) (h2:=ass) (h3:=ass) (h4:=ass)) (.n)<|e_p (zKa rfl)<|zja rfl rfl (zka rfl) (fun h3=> ?_) (fun h3=> ?_)
  ·
   refine e_no<|e_no<|e_no<|e_no<|e_no<|e_no<|e_no<|e_no<|e_p (zK rfl rfl)<|zk ?_
   exact zha () (show True from by first|trivial|omega|simp_all) ((.e rfl (congrArg Value.bool cbu) (.c rfl (.c rfl .n))):SubM _ _) (ho:=((.of [0,0] rfl):PickO _ _ _)) ((.of [0,1,2,3,4] rfl):SelR _ _ _)
  ·
   refine e_p (zf yo rfl sz3 rfl rfl)<|e_ru (ze 0 ty3 rfl rfl rfl)<|e_p (zbb rfl rfl)<|zja rfl rfl (zka rfl) (fun h4=> ?_) (fun h4=> ?_)
   ·
    refine e_p (zf yo rfl sz3 rfl rfl)<|e_ru (ze 0 ty3 rfl rfl rfl)<|e_p (zKb rfl rfl)<|e_p (zK rfl rfl)<|e_p (zK rfl rfl)<|zk ?_
    exact zha () (show True from by first|trivial|omega|simp_all) ((.e rfl (congrArg Value.bool cbu) (.c rfl (.c rfl .n))):SubM _ _) (ho:=((.of [0,0] rfl):PickO _ _ _)) ((.of [0,1,2,3,4] rfl):SelR _ _ _)
   ·
    refine e_no<|e_no<|e_no<|e_p (zK rfl rfl)<|e_p (zK rfl rfl)<|zk ?_
    exact zha () (show True from by first|trivial|omega|simp_all) ((.e rfl (congrArg Value.bool cbu) (.c rfl (.c rfl .n))):SubM _ _) (ho:=((.of [0,0] rfl):PickO _ _ _)) ((.of [0,1,2,3,4] rfl):SelR _ _ _)
 ·
  rintro ⟨⟩ -
  try dsimp only
  refine zT rfl (fun h27=> ?_) (fun h27=> ?_)
  ·
   refine zj<|zc<|e_p (zh rfl)<|zk<|zg<|zS<|zu ?_
   exact zM Tryz.results10 () trivial (zC rfl) rfl (ho:=(.n:PickO _ _ _)) (.n:SelR _ _ _)
  ·
   refine zw<|zg<|zj ?_
   have hbr:=Decidable.not_not.1 (fun e=>h27 (Or.inl e))
   obtain ⟨lx,hlx⟩:∃z,z=qo ((wa.s,xa),(wb.s,xb)):=⟨_,rfl⟩
   refine zwd (eF wa wb lx) (fun g r=>by rw [hlx];exact eF_raw 1 2 rfl rfl hxa hxb hwa hwb g r) ?_
   obtain ⟨ly,hly⟩:∃z,z=qo ((wc.s,ya),(wd.s,yb)):=⟨_,rfl⟩
   refine zwd (eF wc wd ly) (fun g r=>by rw [hly];exact eF_raw 4 5 rfl rfl hya hyb hwc hwd g r) ?_
   have hqx:yT (lx.getD 0)≤400:=Nat.le_trans (by rw [hlx];exact qo_hq _ hnxa hnxb (k:=12) (by show xa.length≤12;omega) (by show xb.length≤12;omega) dd) (by decide:12≤400)
   have hqy:yT (ly.getD 0)≤400:=Nat.le_trans (by rw [hly];exact qo_hq _ hnya hnyb (k:=12) (by show ya.length≤12;omega) (by show yb.length≤12;omega) dd) (by decide:12≤400)
   refine zc<|e_ru (zd 1 ty29 rfl rfl (.t8 (.t8 (.t2 .nil))))<|e_p (zf yo rfl sz37 rfl rfl)<|e_ru (zd 0 ty37 rfl rfl (.t2 (.take .nil)))<|e_p (zf yo rfl sz3 rfl rfl)<|e_ru (ze 0 ty3 rfl rfl rfl)<|e_p (zf yo rfl sz46 rfl rfl)<|e_ru (zd 0 ty46 rfl rfl (.s4 (.skip (.t8 .nil))))<|e_p (zf yo rfl sz3 rfl rfl)<|e_ru (ze 0 ty3 rfl rfl rfl)<|zG rfl rfl (.c rfl (.c rfl (.c rfl (.c rfl (.c rfl .n))))) ce37 (zQf (s:=s) (cm:=cm) (n:=n) (u1:=wa) (v1:=wb) (lx:=lx) (u2:=wc) (v2:=wd) (ly:=ly) (h:=h) (hfi:=ass) (hst:=ass) (hta:=ass) (htb:=ass) (hxa:=ass) (hya:=ass) (hza:=ass) (hqa:=ass) (hqb:=ass) (hqc:=ass) (hqd:=ass) (hxb:=ass) (hyb:=ass) (hzb:=ass) (hra:=ass) (hrb:=ass) (hrc:=ass) (hrd:=ass) (h64fo:=ass) (h64cx:=ass) (h64cy:=ass) (h64n:=ass) (h64h:=ass) (hqx:=yG) (hqy:=yG)) (.c (j:=2) rfl (.c (j:=1) rfl (.c (j:=0) rfl .n))) ?_
   rintro ⟨p25,c26⟩ -
   dsimp only [aq,nq,cq]
   refine e_mv rfl<|e_p (zy rfl rfl)<|e_p (zy rfl rfl)<|e_p (zh rfl)<|e_p (zh rfl)<|zk<|zg<|zj<|c_nilF (rI .i64)<|zc<|e_ru (zd 1 ty29 rfl rfl (.t8 (.t8 (.t2 .nil))))<|e_p (zf yo rfl sz3 rfl rfl)<|e_ru (ze 0 ty3 rfl rfl rfl)<|zU rfl rfl (.c rfl (.c rfl .n)) ce13 (zYe (s:=s) (n:=n) (hfi:=cbd) (hst:=cbd) (hta:=cbd) (htb:=cbd) (hxa:=cbd) (hya:=cbd) (hza:=cbd) (hqa:=cbd) (hqb:=cbd) (hqc:=cbd) (hqd:=cbd) (hxb:=cbd) (hyb:=cbd) (hzb:=cbd) (hra:=cbd) (hrb:=cbd) (hrc:=cbd) (hrd:=cbd)) (.n)<|e_p (zh rfl)<|zk<|zg<|zAa (X:=Unit) (fun x=>True) (fun x=>[(7,yc yd (Sh.tn (Sh.chk s n) (Sh.rc cm h))),(6,yc yd (yR s cm n lx.isSome ly.isSome h)),(5,.slice p25 ((yI s cm n lx.isSome (lx.getD 0) ly.isSome (ly.getD 0) h).length) c26),(3,ye (some ⟨b2,0,none⟩)),(2,ye (some ⟨b1,0,none⟩))]) (fun x=>[boxA b2 75 [yc yd (cm.fo),yc yd (cm.cx),yc yd (cm.cy),yc yd n,yc yd h,wa.b,wa.l,wb.b,wb.l,wc.b,wc.l,wd.b,wd.l],boxA b1 29 (cS s)]) (fun x=>[slF (rI .i64) none 0 ([]),slF (rI .i64) p25 c26 (yI s cm n lx.isSome (lx.getD 0) ly.isSome (ly.getD 0) h),eF wc wd ly,eF wa wb lx,sgF,slF (rI .u32) (wa.p) (wa.c) xa,slF (rI .u32) (wb.p) (wb.c) xb,slF (rI .u32) (wc.p) (wc.c) ya,slF (rI .u32) (wd.p) (wd.c) yb]) ?_ ?_
   ·
    refine zAa (X:=Unit) (fun x=>True) (fun x=>[(55,.bool (decide ((Sh.chk s n=0)∧(¬(Sh.lcam cm ([]) ([h])))))),(7,yc yd (Sh.chk s n)),(6,yc yd (yR s cm n lx.isSome ly.isSome h)),(5,.slice p25 ((yI s cm n lx.isSome (lx.getD 0) ly.isSome (ly.getD 0) h).length) c26),(3,ye (some ⟨b2,0,none⟩)),(2,ye (some ⟨b1,0,none⟩))]) (fun x=>[boxA b2 75 [yc yd (cm.fo),yc yd (cm.cx),yc yd (cm.cy),yc yd n,yc yd h,wa.b,wa.l,wb.b,wb.l,wc.b,wc.l,wd.b,wd.l],boxA b1 29 (cS s)]) (fun x=>[slF (rI .i64) none 0 ([]),slF (rI .i64) p25 c26 (yI s cm n lx.isSome (lx.getD 0) ly.isSome (ly.getD 0) h),eF wc wd ly,eF wa wb lx,sgF,slF (rI .u32) (wa.p) (wa.c) xa,slF (rI .u32) (wb.p) (wb.c) xb,slF (rI .u32) (wc.p) (wc.c) ya,slF (rI .u32) (wd.p) (wd.c) yb]) ?_ ?_
    ·
     refine zc<|e_mv rfl<|e_p (zOa rfl rfl)<|zja rfl rfl (zka rfl) (fun h7=> ?_) (fun h7=> ?_)
     ·
      refine e_p (zf yo rfl sz37 rfl rfl)<|e_ru (zd 0 ty37 rfl rfl (.t2 (.take .nil)))<|e_p (zf yo rfl sz3 rfl rfl)<|e_ru (ze 0 ty3 rfl rfl rfl)<|zDa rfl rfl (zR (enc:=fun z:Int=>[yc yd z]) (ok:=InK .i64) (h1:=fun _=>rfl) (h2:=fun _=>rfl) (k:=1) yk inf3 rfl dd dd dd (.c (x:=h) rfl rfl (fun _ _=>by exact zq.2 om) .n)) (fun b8 _=> ?_)
      refine zia 0 rfl .z<|zU rfl rfl (.c rfl (.c rfl (.c rfl .n))) ce15 (zAe (cm:=cm) (p1:=none) (n1:=0) (c1:=0) (lr:=[]) (p2:=some ⟨b8,0,none⟩) (n2:=1) (c2:=1) (ll:=[h]) (h64fo:=cbd) (h64cx:=cbd) (h64cy:=cbd) (hn1:=cbd) (hn2:=cbd)) (.c (j:=1) rfl (.c (j:=0) rfl .n))<|e_p (zKa rfl)<|e_p (zK rfl rfl)<|zk ?_
      exact zha () (show True from by first|trivial|omega|simp_all) ((.e rfl (congrArg Value.bool cbu) (.of rfl)):SubM _ _) (ho:=((.of [1,1] rfl):PickO _ _ _)) ((.of [1,2,3,4,5,6,7,8,9] rfl):SelR _ _ _)
     ·
      refine e_no<|e_no<|e_no<|e_no<|e_no<|e_no<|e_no<|e_p (zK rfl rfl)<|zk ?_
      exact zha () (show True from by first|trivial|omega|simp_all) ((.e rfl (congrArg Value.bool cbu) (.of rfl)):SubM _ _) (ho:=((.of [0,0] rfl):PickO _ _ _)) ((.of [0,1,2,3,4,5,6,7,8] rfl):SelR _ _ _)
    ·
     rintro ⟨⟩ -
     try dsimp only
     refine zT rfl (fun h55=> ?_) (fun h55=> ?_)
     ·
      refine zc<|e_p (zh rfl)<|zk ?_
      exact zha () (show True from by first|trivial|omega|simp_all) ((.e rfl (congrArg (Value.int .i64) (Sh.tn_yes Sh.lcam_r h55)) (.of rfl)):SubM _ _) (ho:=((.of [0,0] rfl):PickO _ _ _)) ((.of [0,1,2,3,4,5,6,7,8] rfl):SelR _ _ _)
     ·
      refine zw ?_
      exact zha () (show True from by first|trivial|omega|simp_all) ((.e rfl (congrArg (Value.int .i64) (Sh.tn_no Sh.lcam_r h55)) (.of rfl)):SubM _ _) (ho:=((.of [0,0] rfl):PickO _ _ _)) ((.of [0,1,2,3,4,5,6,7,8] rfl):SelR _ _ _)
   ·
    rintro ⟨⟩ -
    try dsimp only
    refine zAa (X:=Unit) (fun x=>True) (fun x=>[(7,yc yd (yR s cm n lx.isSome ly.isSome h)),(6,yc yd (yR s cm n lx.isSome ly.isSome h)),(5,.slice p25 ((yI s cm n lx.isSome (lx.getD 0) ly.isSome (ly.getD 0) h).length) c26),(3,ye (some ⟨b2,0,none⟩)),(2,ye (some ⟨b1,0,none⟩))]) (fun x=>[boxA b2 75 [yc yd (cm.fo),yc yd (cm.cx),yc yd (cm.cy),yc yd n,yc yd h,wa.b,wa.l,wb.b,wb.l,wc.b,wc.l,wd.b,wd.l],boxA b1 29 (cS s)]) (fun x=>[slF (rI .i64) none 0 ([]),slF (rI .i64) p25 c26 (yI s cm n lx.isSome (lx.getD 0) ly.isSome (ly.getD 0) h),eF wc wd ly,eF wa wb lx,sgF,slF (rI .u32) (wa.p) (wa.c) xa,slF (rI .u32) (wb.p) (wb.c) xb,slF (rI .u32) (wc.p) (wc.c) ya,slF (rI .u32) (wd.p) (wd.c) yb]) ?_ ?_
    ·
     refine zAa (X:=Unit) (fun x=>True) (fun x=>[(71,.bool (decide ((Sh.tn (Sh.chk s n) (Sh.rc cm h))=0∧¬(lx.isSome&&ly.isSome)=true))),(7,yc yd (Sh.tn (Sh.chk s n) (Sh.rc cm h))),(6,yc yd (yR s cm n lx.isSome ly.isSome h)),(5,.slice p25 ((yI s cm n lx.isSome (lx.getD 0) ly.isSome (ly.getD 0) h).length) c26),(3,ye (some ⟨b2,0,none⟩)),(2,ye (some ⟨b1,0,none⟩))]) (fun x=>[boxA b2 75 [yc yd (cm.fo),yc yd (cm.cx),yc yd (cm.cy),yc yd n,yc yd h,wa.b,wa.l,wb.b,wb.l,wc.b,wc.l,wd.b,wd.l],boxA b1 29 (cS s)]) (fun x=>[slF (rI .i64) none 0 ([]),slF (rI .i64) p25 c26 (yI s cm n lx.isSome (lx.getD 0) ly.isSome (ly.getD 0) h),eF wc wd ly,eF wa wb lx,sgF,slF (rI .u32) (wa.p) (wa.c) xa,slF (rI .u32) (wb.p) (wb.c) xb,slF (rI .u32) (wc.p) (wc.c) ya,slF (rI .u32) (wd.p) (wd.c) yb]) ?_ ?_
     ·
      refine zc<|e_mv rfl<|e_p (zOa rfl rfl)<|zja rfl rfl (zka rfl) (fun h9=> ?_) (fun h9=> ?_)
      ·
       refine e_p (zf yo rfl sz46 rfl rfl)<|e_p (zf yl rfl sz44 rfl rfl)<|e_ru (zd 0 ty44 rfl rfl (.s4 (.skip (.t4 .nil))))<|zU rfl rfl (.c rfl .n) ce31 (zWc (u1:=wa) (v1:=wb) (x1:=lx)) (.c (j:=3) rfl .n)<|e_p (zhc rfl)<|zbf rfl rfl (zka rfl) (fun h10=> ?_) (fun h10=> ?_)
       ·
        refine e_no<|e_no<|e_no<|e_no<|e_no<|e_p (zK rfl rfl)<|e_p (zK rfl rfl)<|zk ?_
        exact zha () (show True from by first|trivial|omega|simp_all) ((.e rfl (congrArg Value.bool (by first|exact Sh.bt1 ass ass|exact Sh.bt2 ass ass|exact Sh.bt3 ass)) (.of rfl)):SubM _ _) (ho:=((.of [0,0] rfl):PickO _ _ _)) ((.of [0,1,2,3,4,5,6,7,8] rfl):SelR _ _ _)
       ·
        refine e_p (zf yo rfl sz46 rfl rfl)<|e_p (zf yl rfl sz44 rfl rfl)<|e_ru (zd 0 ty44 rfl rfl (.s8 (.skip (.t4 .nil))))<|zU rfl rfl (.c rfl .n) ce31 (zWc (u1:=wc) (v1:=wd) (x1:=ly)) (.c (j:=2) rfl .n)<|e_p (zhc rfl)<|e_p (zK rfl rfl)<|e_p (zK rfl rfl)<|zk ?_
        exact zha () (show True from by first|trivial|omega|simp_all) ((.e rfl (congrArg Value.bool (by first|exact Sh.bt1 ass ass|exact Sh.bt2 ass ass|exact Sh.bt3 ass)) (.of rfl)):SubM _ _) (ho:=((.of [0,0] rfl):PickO _ _ _)) ((.of [0,1,2,3,4,5,6,7,8] rfl):SelR _ _ _)
      ·
       refine e_no<|e_no<|e_no<|e_no<|e_no<|e_no<|e_no<|e_no<|e_no<|e_no<|e_no<|e_no<|e_p (zK rfl rfl)<|zk ?_
       exact zha () (show True from by first|trivial|omega|simp_all) ((.e rfl (congrArg Value.bool (by first|exact Sh.bt1 ass ass|exact Sh.bt2 ass ass|exact Sh.bt3 ass)) (.of rfl)):SubM _ _) (ho:=((.of [0,0] rfl):PickO _ _ _)) ((.of [0,1,2,3,4,5,6,7,8] rfl):SelR _ _ _)
     ·
      rintro ⟨⟩ -
      try dsimp only
      refine zT rfl (fun h71=> ?_) (fun h71=> ?_)
      ·
       refine zc<|e_p (zh rfl)<|zk ?_
       exact zha () (show True from by first|trivial|omega|simp_all) ((.e rfl (congrArg (Value.int .i64) ((Sh.tv_yes h71).trans (Sh.Rc_tv s cm n _ _ h))) (.of rfl)):SubM _ _) (ho:=((.of [0,0] rfl):PickO _ _ _)) ((.of [0,1,2,3,4,5,6,7,8] rfl):SelR _ _ _)
      ·
       refine zw ?_
       exact zha () (show True from by first|trivial|omega|simp_all) ((.e rfl (congrArg (Value.int .i64) ((Sh.tv_no h71).trans (Sh.Rc_tv s cm n _ _ h))) (.of rfl)):SubM _ _) (ho:=((.of [0,0] rfl):PickO _ _ _)) ((.of [0,1,2,3,4,5,6,7,8] rfl):SelR _ _ _)
    ·
     rintro ⟨⟩ -
     try dsimp only
     refine zj<|zj<|zc<|e_mv rfl<|e_p (zAb rfl rfl)<|zk<|zg<|zT rfl (fun h73=> ?_) (fun h73=> ?_)
     ·
      refine zj<|zc<|e_mv rfl<|e_mv rfl<|e_p (zOa rfl rfl) ?_
      rw [show (decide (yR s cm n lx.isSome ly.isSome h=(yR s cm n lx.isSome ly.isSome h)))=true from by exact decide_eq_true rfl]
      refine e_mv rfl<|e_mv rfl<|e_p (zfa yk rfl)<|e_p (zOa rfl rfl) ?_
      rw [show (decide ((((yI s cm n lx.isSome (lx.getD 0) ly.isSome (ly.getD 0) h).length:Nat):Int)=0))=true from by exact decide_eq_true (by rw [show (yI s cm n lx.isSome (lx.getD 0) ly.isSome (ly.getD 0) h)=[] from if_neg h73];rfl)]
      refine e_p (zK rfl rfl)<|e_p (zh rfl)<|zk<|zg<|zS<|zu ?_
      exact zM Tryz.results10 () trivial (zC rfl) rfl (ho:=(.n:PickO _ _ _)) (.n:SelR _ _ _)
     ·
      have hz9:=Decidable.not_not.1 h73
      obtain ⟨hc0,hcr2,hkk⟩:=Sh.Rc_zero hz9
      obtain ⟨hok,hn1,hlt,hnd⟩:=Sh.chk_ok hc0
      refine zw<|zg<|zj<|zc<|zDa rfl rfl (zHa (rI .i64) yk inf3) (fun b11 _=> ?_)
      refine e_p (zh rfl)<|zk<|zg<|zj<|zj<|zwd (qF lx.isSome wa wb (lx.getD 0)) (eF_weak 3 rfl)<|zwd (qF ly.isSome wc wd (ly.getD 0)) (eF_weak 3 rfl)<|zc<|e_p (zf yo rfl sz3 rfl rfl)<|e_ru (ze 1 ty3 rfl rfl rfl)<|e_mv rfl<|zk<|zg<|zt<|zBa (X:=Nat×(Option Addr)×Nat×(List Int)) (fun x:Nat×(Option Addr)×Nat×(List Int)=>x.1≤n.toNat∧x.2.2.2=(yK s cm (lx.getD 0) (ly.getD 0) h x.1)) (fun x=>[(8,.slice (x.2.1) (x.2.2.2.length) (x.2.2.1)),(85,yc yd ((x.1:Nat):Int)),(84,yc yd n),(6,yc yd (yR s cm n lx.isSome ly.isSome h)),(5,.slice p25 ((yI s cm n lx.isSome (lx.getD 0) ly.isSome (ly.getD 0) h).length) c26),(3,ye (some ⟨b2,0,none⟩)),(2,ye (some ⟨b1,0,none⟩))]) (fun x=>[rowA 3 (rI .i64) (x.2.1) (x.2.2.1) (x.2.2.2),boxA b2 75 [yc yd (cm.fo),yc yd (cm.cx),yc yd (cm.cy),yc yd n,yc yd h,wa.b,wa.l,wb.b,wb.l,wc.b,wc.l,wd.b,wd.l],boxA b1 29 (cS s)]) (fun x=>[qF ly.isSome wc wd (ly.getD 0),qF lx.isSome wa wb (lx.getD 0),slF (rI .i64) none 0 ([]),slF (rI .i64) p25 c26 (yI s cm n lx.isSome (lx.getD 0) ly.isSome (ly.getD 0) h),eF wc wd ly,eF wa wb lx,sgF,slF (rI .u32) (wa.p) (wa.c) xa,slF (rI .u32) (wb.p) (wb.c) xb,slF (rI .u32) (wc.p) (wc.c) ya,slF (rI .u32) (wd.p) (wd.c) yb]) (fun x:Nat×(Option Addr)×Nat×(List Int)=>n.toNat - x.1) (0,some ⟨b11,0,none⟩,0,([]:List Int)) (show 0≤n.toNat∧([]:List Int)=(yK s cm (lx.getD 0) (ly.getD 0) h 0) from by exact ⟨Nat.zero_le _,rfl⟩) ((.e rfl (by first|rfl|(congr 1;omega)|simp_all) (.e rfl (by first|rfl|(congr 1;omega)|simp_all) (.of rfl))):SubM _ _) (ho:=((.e (i:=0) rfl (by first|rfl|(congr 1;omega)|simp_all) (.of [0,0] rfl)):PickO _ _ _)) ((.of [0,1,2,3,4,5,6,7,8,9,10] rfl):SelR _ _ _) ?_
      rintro ⟨i,pR,cR,A⟩ hI
      replace hI:i≤n.toNat∧A=(yK s cm (lx.getD 0) (ly.getD 0) h i):=hI
      try dsimp only
      obtain ⟨hi,hA⟩:=hI
      have hAl:A.length≤i:=by rw [hA];exact Sh.rowsL_len i
      refine zj<|zc<|e_p (zO rfl rfl)<|zk<|zg<|zj<|zT rfl (fun h12=> ?_) (fun h12=> ?_)
      ·
       have hiq:=Sh.ix_hq hok hcr2.1 (r:=((i:Nat):Int)) ⟨by omega,by omega⟩ hqx hqy hcr2.2
       obtain ⟨-,hiq⟩:=hiq
       refine zw<|zg<|zj<|zt<|zj<|zc<|e_mv rfl<|e_p (zh rfl)<|zk<|zg<|zj<|zP (OW:=[]) (O:=[rowA 3 (rI .i64) pR cR A,boxA b2 75 [yc yd (cm.fo),yc yd (cm.cx),yc yd (cm.cy),yc yd n,yc yd h,wa.b,wa.l,wb.b,wb.l,wc.b,wc.l,wd.b,wd.l],boxA b1 29 (cS s)]) 14 mixed (.then (.block (.then (.then (.block (.then .ret)))))) kr<|e_u 0 rfl rfl (zd 2 ty29 rfl rfl (.t8 (.t8 (.t2 .nil))))<|e_pv 1 rfl rfl (zf yo rfl sz37 rfl rfl)<|e_u 2 rfl rfl (zd 1 ty37 rfl rfl (.t2 (.take .nil)))<|e_dm 3 rfl rfl rfl<|e_pv 4 rfl rfl (zf yo rfl sz46 rfl rfl)<|e_u 5 rfl rfl (zd 1 ty46 rfl rfl (.s4 (.skip (.t8 .nil))))<|e_pv 6 rfl rfl (zf yo rfl sz3 rfl rfl)<|e_u 7 rfl rfl (ze 1 ty3 rfl rfl rfl)<|zLb (m':=[(96,yc yd h),(94,.agg (cw [wa,wb,wc,wd]).toArray),(92,yc yd ((i:Nat):Int)),(91,.agg #[yc yd (cm.fo),yc yd (cm.cx),yc yd (cm.cy)]),(89,.agg #[yc yd (s.fi),yc yd (s.st),yc yd (s.ta),yc yd (s.xa),yc yd (s.ya),yc yd (s.za),yc yd (s.qa),yc yd (s.qb),yc yd (s.qc),yc yd (s.qd),yc yd (s.tb),yc yd (s.xb),yc yd (s.yb),yc yd (s.zb),yc yd (s.ra),yc yd (s.rb),yc yd (s.rc),yc yd (s.rd)]),(9,yc yd ((i:Nat):Int)),(8,.slice pR (A.length) cR),(85,yc yd ((i:Nat):Int)),(84,yc yd n),(6,yc yd (yR s cm n lx.isSome ly.isSome h)),(5,.slice p25 ((yI s cm n lx.isSome (lx.getD 0) ly.isSome (ly.getD 0) h).length) c26),(3,ye (some ⟨b2,0,none⟩)),(2,ye (some ⟨b1,0,none⟩))]) (R':=[qF ly.isSome wc wd (ly.getD 0),qF lx.isSome wa wb (lx.getD 0),slF (rI .i64) none 0 ([]),slF (rI .i64) p25 c26 (yI s cm n lx.isSome (lx.getD 0) ly.isSome (ly.getD 0) h),eF wc wd ly,eF wa wb lx,sgF,slF (rI .u32) (wa.p) (wa.c) xa,slF (rI .u32) (wb.p) (wb.c) xb,slF (rI .u32) (wc.p) (wc.c) ya,slF (rI .u32) (wd.p) (wd.c) yb]) ((.of rfl):SubM _ _) (List.Perm.refl _) (List.Perm.refl _) ((.of [0,1,2,3,4,5,6,7,8,9,10] rfl):SelR _ _ _) ?_
       obtain ⟨qd1,hqd1⟩:∃z:Int,z=yR s cm n lx.isSome ly.isSome h:=⟨_,rfl⟩
       rw [← hqd1]
       refine zga (X:=Wd×Wd×Wd×Wd×Wd×Wd×Nat) (k':=0) (L':=(lb 16 65535)) (fun (u8_1,u8_2,u9_1,u9_2,u9_3,u9_4,u13_1)=>([(11,yc yd (yM s ((i:Nat):Int) (lx.getD 0) (ly.getD 0) h)),(10,ye (some ⟨u13_1,0,none⟩)),(9,yc yd ((i:Nat):Int)),(8,.slice pR (A.length) cR),(85,yc yd ((i:Nat):Int)),(84,yc yd n),(6,yc yd qd1),(5,.slice p25 ((yI s cm n lx.isSome (lx.getD 0) ly.isSome (ly.getD 0) h).length) c26),(3,ye (some ⟨b2,0,none⟩)),(2,ye (some ⟨b1,0,none⟩))],[boxA u13_1 46 (cw [u9_1,u9_2,u9_3,u9_4])],[rowA 3 (rI .i64) pR cR A,boxA b2 75 [yc yd (cm.fo),yc yd (cm.cx),yc yd (cm.cy),yc yd n,yc yd h,wa.b,wa.l,wb.b,wb.l,wc.b,wc.l,wd.b,wd.l],boxA b1 29 (cS s)],[qF (decide (yM s ((i:Nat):Int) (lx.getD 0) (ly.getD 0) h=0)) u9_1 u9_2 (Sh.ix s cm ((i:Nat):Int) (lx.getD 0) (ly.getD 0) h),qF (decide (yM s ((i:Nat):Int) (lx.getD 0) (ly.getD 0) h=0)) u9_3 u9_4 (Sh.iy s cm ((i:Nat):Int) (lx.getD 0) (ly.getD 0) h),qF true u8_1 u8_2 ((h:Int):Rat),qF ly.isSome wc wd (ly.getD 0),qF lx.isSome wa wb (lx.getD 0),slF (rI .i64) none 0 ([]),slF (rI .i64) p25 c26 (yI s cm n lx.isSome (lx.getD 0) ly.isSome (ly.getD 0) h),eF wc wd ly,eF wa wb lx,sgF,slF (rI .u32) (wa.p) (wa.c) xa,slF (rI .u32) (wb.p) (wb.c) xb,slF (rI .u32) (wc.p) (wc.c) ya,slF (rI .u32) (wd.p) (wd.c) yb])) ?_ (fun hD0=> ?_)
       ·
        rintro ⟨u8_1,u8_2,u9_1,u9_2,u9_3,u9_4,u13_1⟩
        dsimp only [cw,cS]
        refine zN kr ?_
        subst hqd1
        refine zg<|zAa (X:=Unit) (fun x=>True) (fun x=>[(121,.bool (decide (Sh.seen s cm (lx.getD 0) (ly.getD 0) h ((i:Nat):Int)))),(9,yc yd ((i:Nat):Int)),(8,.slice pR (A.length) cR),(85,yc yd ((i:Nat):Int)),(84,yc yd n),(6,yc yd (yR s cm n lx.isSome ly.isSome h)),(5,.slice p25 ((yI s cm n lx.isSome (lx.getD 0) ly.isSome (ly.getD 0) h).length) c26),(3,ye (some ⟨b2,0,none⟩)),(2,ye (some ⟨b1,0,none⟩))]) (fun x=>[rowA 3 (rI .i64) pR cR A,boxA b2 75 [yc yd (cm.fo),yc yd (cm.cx),yc yd (cm.cy),yc yd n,yc yd h,wa.b,wa.l,wb.b,wb.l,wc.b,wc.l,wd.b,wd.l],boxA b1 29 (cS s)]) (fun x=>[qF ly.isSome wc wd (ly.getD 0),qF lx.isSome wa wb (lx.getD 0),slF (rI .i64) none 0 ([]),slF (rI .i64) p25 c26 (yI s cm n lx.isSome (lx.getD 0) ly.isSome (ly.getD 0) h),eF wc wd ly,eF wa wb lx,sgF,slF (rI .u32) (wa.p) (wa.c) xa,slF (rI .u32) (wb.p) (wb.c) xb,slF (rI .u32) (wc.p) (wc.c) ya,slF (rI .u32) (wd.p) (wd.c) yb]) ?_ ?_
        ·
         refine zP (OW:=[]) (O:=[boxA u13_1 46 (cw [u9_1,u9_2,u9_3,u9_4]),rowA 3 (rI .i64) pR cR A,boxA b2 75 [yc yd (cm.fo),yc yd (cm.cx),yc yd (cm.cy),yc yd n,yc yd h,wa.b,wa.l,wb.b,wb.l,wc.b,wc.l,wd.b,wd.l],boxA b1 29 (cS s)]) 100000 mixed (.then (.block (.then (.then (.block (.then .ret)))))) kr<|e_dm 0 rfl rfl rfl<|e_pv 1 rfl rfl (zOa rfl rfl)<|ztc 2 rfl rfl kr kr rfl rfl (zka rfl) (fun g1=> ?_) (fun g1=> ?_)
         ·
          refine e_pv 3 rfl rfl (zf yl rfl sz44 rfl rfl)<|e_u 4 rfl rfl (zd 0 ty44 rfl rfl (.s4 (.t4 .nil)))<|e_dm 5 rfl rfl rfl<|e_pv 6 rfl rfl (zJa (z:=(((64*i):Nat):Int)) rfl rfl (w64 om))<|e_one 7 (zm rfl rfl rfl rfl (.c rfl .n) ce22 (zva (z:=(((64*i):Nat):Int)) (hz:=om)) (.n) ?_)
          rintro ⟨w313,w414⟩ -
          dsimp only [aq,nq,cq]
          refine e_one 8 (zLa rfl rfl rfl rfl (.c rfl (.c rfl .n)) ce38 (zWb (k1:=(decide (yM s ((i:Nat):Int) (lx.getD 0) (ly.getD 0) h=0))) (u1:=u9_3) (v1:=u9_4) (q1:=(Sh.iy s cm ((i:Nat):Int) (lx.getD 0) (ly.getD 0) h)) (k2:=true) (u2:=w313) (v2:=w414) (q2:=(((((64*i):Nat):Int):Int):Rat)) (hl:=yG)) (.c (j:=2) rfl (.c (j:=0) rfl .n)) ?_)
          refine e_pv 9 rfl rfl (zob rfl rfl)<|e_pv 10 rfl rfl (zK rfl rfl)<|ztc 11 rfl rfl kr kr rfl rfl (zka rfl) (fun g2=> ?_) (fun g2=> ?_)
          ·
           refine e_pv 12 rfl rfl (zf yl rfl sz44 rfl rfl)<|e_u 13 rfl rfl (zd 0 ty44 rfl rfl (.s4 (.t4 .nil)))<|e_dm 14 rfl rfl rfl<|e_pv 15 rfl rfl (zJa (z:=(((64*i):Nat):Int)) rfl rfl (w64 om))<|e_pv 16 rfl rfl (zH (z:=((((64*i)+64):Nat):Int)) rfl rfl (w64 om))<|e_one 17 (zm rfl rfl rfl rfl (.c rfl .n) ce22 (zva (z:=((((64*i)+64):Nat):Int)) (hz:=om)) (.n) ?_)
           rintro ⟨w315,w416⟩ -
           dsimp only [aq,nq,cq]
           refine e_one 18 (zLa rfl rfl rfl rfl (.c rfl (.c rfl .n)) ce38 (zWb (k1:=(decide (yM s ((i:Nat):Int) (lx.getD 0) (ly.getD 0) h=0))) (u1:=u9_3) (v1:=u9_4) (q1:=(Sh.iy s cm ((i:Nat):Int) (lx.getD 0) (ly.getD 0) h)) (k2:=true) (u2:=w315) (v2:=w416) (q2:=((((((64*i)+64):Nat):Int):Int):Rat)) (hl:=yG)) (.c (j:=3) rfl (.c (j:=0) rfl .n)) ?_)
           refine e_pv 19 rfl rfl (zO rfl rfl)<|e_pv 20 rfl rfl (zK rfl rfl)<|zN kr ?_
           exact zha () (show True from by first|trivial|omega|simp_all) ((.e rfl (congrArg Value.bool (by first|(exact (decide_eq_false (fun k=>g1 k.1.1)).symm)|(exact (decide_eq_false (fun k=>g2 k.1.2)).symm)|exact decide_eq_decide.2 ⟨fun k=>⟨⟨g1,g2⟩,k⟩,fun k=>k.2⟩)) (.of rfl)):SubM _ _) (ho:=((.of [1,1,1] rfl):PickO _ _ _)) ((.of [5,6,7,8,9,10,11,12,13,14,15] rfl):SelR _ _ _)
          ·
           refine e_skip 12 rfl rfl<|e_skip 13 rfl rfl<|e_skip 14 rfl rfl<|e_skip 15 rfl rfl<|e_skip 16 rfl rfl<|e_skip 17 rfl rfl<|e_skip 18 rfl rfl<|e_skip 19 rfl rfl<|e_pv 20 rfl rfl (zK rfl rfl)<|zN kr ?_
           exact zha () (show True from by first|trivial|omega|simp_all) ((.e rfl (congrArg Value.bool (by first|(exact (decide_eq_false (fun k=>g1 k.1.1)).symm)|(exact (decide_eq_false (fun k=>g2 k.1.2)).symm)|exact decide_eq_decide.2 ⟨fun k=>⟨⟨g1,g2⟩,k⟩,fun k=>k.2⟩)) (.of rfl)):SubM _ _) (ho:=((.of [1,1,1] rfl):PickO _ _ _)) ((.of [4,5,6,7,8,9,10,11,12,13,14] rfl):SelR _ _ _)
         ·
          refine e_skip 3 rfl rfl<|e_skip 4 rfl rfl<|e_skip 5 rfl rfl<|e_skip 6 rfl rfl<|e_skip 7 rfl rfl<|e_skip 8 rfl rfl<|e_skip 9 rfl rfl<|e_pv 10 rfl rfl (zK rfl rfl)<|e_dm 11 rfl rfl rfl<|e_skip 12 rfl rfl<|e_skip 13 rfl rfl<|e_skip 14 rfl rfl<|e_skip 15 rfl rfl<|e_skip 16 rfl rfl<|e_skip 17 rfl rfl<|e_skip 18 rfl rfl<|e_skip 19 rfl rfl<|e_pv 20 rfl rfl (zK rfl rfl)<|zN kr ?_
          exact zha () (show True from by first|trivial|omega|simp_all) ((.e rfl (congrArg Value.bool (by first|(exact (decide_eq_false (fun k=>g1 k.1.1)).symm)|(exact (decide_eq_false (fun k=>g2 k.1.2)).symm)|exact decide_eq_decide.2 ⟨fun k=>⟨⟨g1,g2⟩,k⟩,fun k=>k.2⟩)) (.of rfl)):SubM _ _) (ho:=((.of [1,1,1] rfl):PickO _ _ _)) ((.of [3,4,5,6,7,8,9,10,11,12,13] rfl):SelR _ _ _)
        ·
         rintro ⟨⟩ -
         try dsimp only
         refine zT rfl (fun hsee=> ?_) (fun hsee=> ?_)
         ·
          refine zc<|e_mv rfl<|e_mv rfl<|zDa rfl rfl (zR (enc:=fun z:Int=>[yc yd z]) (ok:=InK .i64) (h1:=fun _=>rfl) (h2:=fun _=>rfl) (k:=1) yk inf3 rfl dd dd dd (.c (x:=((i:Nat):Int)) rfl rfl (fun _ _=>by exact zq.2 om) .n)) (fun b17 _=> ?_)
          refine zia 0 rfl .z<|zeb 1 rfl rfl rfl (zVa 0 rfl yk inf3 dd rfl rfl (by first|rfl|assumption|(simp;done)|omega) rfl (by first|rfl|assumption|(simp;done)|omega) om om) (fun _=>(.s .z)) ?_
          rintro ⟨p18,c19⟩ -
          dsimp only [aq,nq,cq]
          refine e_p (zh rfl)<|zk<|zI<|zg<|zc<|e_p (zH (z:=(((i+1):Nat):Int)) rfl rfl (w64 om))<|e_mv rfl<|zk<|zwa ((i+1),p18,c19,(A++([((i:Nat):Int)]))) (show (i+1)≤n.toNat∧(A++([((i:Nat):Int)]))=(yK s cm (lx.getD 0) (ly.getD 0) h (i+1)) from by exact ⟨by omega,by rw [yK,if_pos hsee,←hA]⟩) (by show n.toNat - (i+1)<n.toNat - i;omega) ((.e rfl (by simp) (.c rfl (.c rfl (.e rfl (by first|rfl|(congr 1;omega)|simp_all) (.of rfl))))):SubM _ _) (ho:=((.of [1,1,1] rfl):PickO _ _ _)) ((.of [1,2,3,4,5,6,7,8,9,10,11] rfl):SelR _ _ _)
         ·
          refine zw<|zI<|zg<|zc<|e_p (zH (z:=(((i+1):Nat):Int)) rfl rfl (w64 om))<|e_mv rfl<|zk<|zwa ((i+1),pR,cR,A) (show (i+1)≤n.toNat∧A=(yK s cm (lx.getD 0) (ly.getD 0) h (i+1)) from by exact ⟨by omega,by rw [yK,if_neg hsee,←hA,List.append_nil]⟩) (by show n.toNat - (i+1)<n.toNat - i;omega) ((.c rfl (.c rfl (.c rfl (.e rfl (by first|rfl|(congr 1;omega)|simp_all) (.of rfl))))):SubM _ _) (ho:=((.of [0,0,0] rfl):PickO _ _ _)) ((.of [0,1,2,3,4,5,6,7,8,9,10] rfl):SelR _ _ _)
       refine zga (X:=Wd×Wd×Wd×Wd×Wd×Wd×Nat) (k':=2) (L':=(lb 16 16383)) (fun (u8_1,u8_2,u9_1,u9_2,u9_3,u9_4,u13_1)=>([(10,ye (some ⟨u13_1,0,none⟩)),(100,yc yd (yM s ((i:Nat):Int) (lx.getD 0) (ly.getD 0) h)),(99,.agg (cw [u9_1,u9_2,u9_3,u9_4]).toArray),(9,yc yd ((i:Nat):Int)),(8,.slice pR (A.length) cR),(85,yc yd ((i:Nat):Int)),(84,yc yd n),(6,yc yd qd1),(5,.slice p25 ((yI s cm n lx.isSome (lx.getD 0) ly.isSome (ly.getD 0) h).length) c26),(3,ye (some ⟨b2,0,none⟩)),(2,ye (some ⟨b1,0,none⟩))],[boxA u13_1 46 (cw [wz,wz,wz,wz])],[rowA 3 (rI .i64) pR cR A,boxA b2 75 [yc yd (cm.fo),yc yd (cm.cx),yc yd (cm.cy),yc yd n,yc yd h,wa.b,wa.l,wb.b,wb.l,wc.b,wc.l,wd.b,wd.l],boxA b1 29 (cS s)],[qF (decide (yM s ((i:Nat):Int) (lx.getD 0) (ly.getD 0) h=0)) u9_1 u9_2 (Sh.ix s cm ((i:Nat):Int) (lx.getD 0) (ly.getD 0) h),qF (decide (yM s ((i:Nat):Int) (lx.getD 0) (ly.getD 0) h=0)) u9_3 u9_4 (Sh.iy s cm ((i:Nat):Int) (lx.getD 0) (ly.getD 0) h),qF true u8_1 u8_2 ((h:Int):Rat),qF ly.isSome wc wd (ly.getD 0),qF lx.isSome wa wb (lx.getD 0),slF (rI .i64) none 0 ([]),slF (rI .i64) p25 c26 (yI s cm n lx.isSome (lx.getD 0) ly.isSome (ly.getD 0) h),eF wc wd ly,eF wa wb lx,sgF,slF (rI .u32) (wa.p) (wa.c) xa,slF (rI .u32) (wb.p) (wb.c) xb,slF (rI .u32) (wc.p) (wc.c) ya,slF (rI .u32) (wd.p) (wd.c) yb])) ?_ (fun hD1=> ?_)
       ·
        rintro ⟨u8_1,u8_2,u9_1,u9_2,u9_3,u9_4,u13_1⟩
        dsimp only [cw,cS]
        refine zFa 14 kr ?_
        ·
         refine zp kr rfl rfl rfl rfl rfl sz46 rfl (.t8 .nil)<|e_pv 15 rfl rfl (zh rfl) ?_
         exact zJ (hD0 (u8_1,u8_2,u9_1,u9_2,u9_3,u9_4,u13_1)) kr ((.of rfl):SubM _ _) .rfl .rfl ((.of [0,1,2,3,4,5,6,7,8,9,10,11,12,13] rfl):SelR _ _ _)
       refine zga (X:=Wd×Wd×Wd×Wd×Wd×Wd) (k':=3) (L':=(lb 16 8191)) (fun (u8_1,u8_2,u9_1,u9_2,u9_3,u9_4)=>([(100,yc yd (yM s ((i:Nat):Int) (lx.getD 0) (ly.getD 0) h)),(99,.agg (cw [u9_1,u9_2,u9_3,u9_4]).toArray),(9,yc yd ((i:Nat):Int)),(8,.slice pR (A.length) cR),(85,yc yd ((i:Nat):Int)),(84,yc yd n),(6,yc yd qd1),(5,.slice p25 ((yI s cm n lx.isSome (lx.getD 0) ly.isSome (ly.getD 0) h).length) c26),(3,ye (some ⟨b2,0,none⟩)),(2,ye (some ⟨b1,0,none⟩))],[],[rowA 3 (rI .i64) pR cR A,boxA b2 75 [yc yd (cm.fo),yc yd (cm.cx),yc yd (cm.cy),yc yd n,yc yd h,wa.b,wa.l,wb.b,wb.l,wc.b,wc.l,wd.b,wd.l],boxA b1 29 (cS s)],[qF (decide (yM s ((i:Nat):Int) (lx.getD 0) (ly.getD 0) h=0)) u9_1 u9_2 (Sh.ix s cm ((i:Nat):Int) (lx.getD 0) (ly.getD 0) h),qF (decide (yM s ((i:Nat):Int) (lx.getD 0) (ly.getD 0) h=0)) u9_3 u9_4 (Sh.iy s cm ((i:Nat):Int) (lx.getD 0) (ly.getD 0) h),qF true u8_1 u8_2 ((h:Int):Rat),qF ly.isSome wc wd (ly.getD 0),qF lx.isSome wa wb (lx.getD 0),slF (rI .i64) none 0 ([]),slF (rI .i64) p25 c26 (yI s cm n lx.isSome (lx.getD 0) ly.isSome (ly.getD 0) h),eF wc wd ly,eF wa wb lx,sgF,slF (rI .u32) (wa.p) (wa.c) xa,slF (rI .u32) (wb.p) (wb.c) xb,slF (rI .u32) (wc.p) (wc.c) ya,slF (rI .u32) (wd.p) (wd.c) yb])) ?_ (fun hD2=> ?_)
       ·
        rintro ⟨u8_1,u8_2,u9_1,u9_2,u9_3,u9_4⟩
        dsimp only [cw,cS]
        refine zFa 13 kr ?_
        ·
         refine zua rfl rfl rfl rfl (zo zr46 rfl) (fun u13_1 _=> ?_)
         exact zJ (hD1 (u8_1,u8_2,u9_1,u9_2,u9_3,u9_4,u13_1)) kr ((.of rfl):SubM _ _) .rfl .rfl ((.of [0,1,2,3,4,5,6,7,8,9,10,11,12,13] rfl):SelR _ _ _)
       refine zga (X:=Wd×Wd×Nat) (k':=6) (L':=(lb 16 8703)) (fun (u8_1,u8_2,u13_1)=>([(10,ye (some ⟨u13_1,0,none⟩)),(97,.agg (cw [wa,wb,wc,wd,u8_1,u8_2]).toArray),(92,yc yd ((i:Nat):Int)),(91,.agg #[yc yd (cm.fo),yc yd (cm.cx),yc yd (cm.cy)]),(89,.agg #[yc yd (s.fi),yc yd (s.st),yc yd (s.ta),yc yd (s.xa),yc yd (s.ya),yc yd (s.za),yc yd (s.qa),yc yd (s.qb),yc yd (s.qc),yc yd (s.qd),yc yd (s.tb),yc yd (s.xb),yc yd (s.yb),yc yd (s.zb),yc yd (s.ra),yc yd (s.rb),yc yd (s.rc),yc yd (s.rd)]),(9,yc yd ((i:Nat):Int)),(8,.slice pR (A.length) cR),(85,yc yd ((i:Nat):Int)),(84,yc yd n),(6,yc yd qd1),(5,.slice p25 ((yI s cm n lx.isSome (lx.getD 0) ly.isSome (ly.getD 0) h).length) c26),(3,ye (some ⟨b2,0,none⟩)),(2,ye (some ⟨b1,0,none⟩))],[boxA u13_1 46 (cw [wz,wz,wz,wz])],[rowA 3 (rI .i64) pR cR A,boxA b2 75 [yc yd (cm.fo),yc yd (cm.cx),yc yd (cm.cy),yc yd n,yc yd h,wa.b,wa.l,wb.b,wb.l,wc.b,wc.l,wd.b,wd.l],boxA b1 29 (cS s)],[qF true u8_1 u8_2 ((h:Int):Rat),qF ly.isSome wc wd (ly.getD 0),qF lx.isSome wa wb (lx.getD 0),slF (rI .i64) none 0 ([]),slF (rI .i64) p25 c26 (yI s cm n lx.isSome (lx.getD 0) ly.isSome (ly.getD 0) h),eF wc wd ly,eF wa wb lx,sgF,slF (rI .u32) (wa.p) (wa.c) xa,slF (rI .u32) (wb.p) (wb.c) xb,slF (rI .u32) (wc.p) (wc.c) ya,slF (rI .u32) (wd.p) (wd.c) yb])) ?_ (fun hD3=> ?_)
       ·
        rintro ⟨u8_1,u8_2,u13_1⟩
        dsimp only [cw,cS]
        refine zFa 9 kr ?_
        ·
         refine zm rfl rfl rfl rfl (.c rfl (.c rfl (.c rfl (.c rfl .n)))) ce18 (zJd (s:=s) (cm:=cm) (r:=((i:Nat):Int)) (k1:=lx.isSome) (u1:=wa) (v1:=wb) (ax:=(lx.getD 0)) (k2:=ly.isSome) (u2:=wc) (v2:=wd) (ay:=(ly.getD 0)) (k3:=true) (u3:=u8_1) (v3:=u8_2) (h:=h) (hok:=by exact hok) (hlt:=by exact hlt) (hc:=by exact hcr2.1) (hr:=by exact ⟨by omega,by omega⟩) (hqx:=by exact hqx) (hqy:=by exact hqy) (hh:=by exact hcr2.2)) (.c (j:=2) rfl (.c (j:=1) rfl (.c (j:=0) rfl .n))) ?_
         rintro ⟨u9_1,u9_2,u9_3,u9_4⟩ hph
         dsimp only [aq,nq,cq]
         replace hph:yM s ((i:Nat):Int) (lx.getD 0) (ly.getD 0) h≠0→u9_1=wz∧u9_2=wz∧u9_3=wz∧u9_4=wz:=hph
         refine e_dm 10 rfl rfl rfl<|e_pv 11 rfl rfl (zy rfl rfl)<|e_pv 12 rfl rfl (zy rfl rfl) ?_
         exact zJ (hD1 (u8_1,u8_2,u9_1,u9_2,u9_3,u9_4,u13_1)) kr ((.of rfl):SubM _ _) .rfl .rfl ((.of [0,1,2,3,4,5,6,7,8,9,10,11,12,13] rfl):SelR _ _ _)
       refine zga (X:=Wd×Wd) (k':=7) (L':=(lb 16 511)) (fun (u8_1,u8_2)=>([(97,.agg (cw [wa,wb,wc,wd,u8_1,u8_2]).toArray),(92,yc yd ((i:Nat):Int)),(91,.agg #[yc yd (cm.fo),yc yd (cm.cx),yc yd (cm.cy)]),(89,.agg #[yc yd (s.fi),yc yd (s.st),yc yd (s.ta),yc yd (s.xa),yc yd (s.ya),yc yd (s.za),yc yd (s.qa),yc yd (s.qb),yc yd (s.qc),yc yd (s.qd),yc yd (s.tb),yc yd (s.xb),yc yd (s.yb),yc yd (s.zb),yc yd (s.ra),yc yd (s.rb),yc yd (s.rc),yc yd (s.rd)]),(9,yc yd ((i:Nat):Int)),(8,.slice pR (A.length) cR),(85,yc yd ((i:Nat):Int)),(84,yc yd n),(6,yc yd qd1),(5,.slice p25 ((yI s cm n lx.isSome (lx.getD 0) ly.isSome (ly.getD 0) h).length) c26),(3,ye (some ⟨b2,0,none⟩)),(2,ye (some ⟨b1,0,none⟩))],[],[rowA 3 (rI .i64) pR cR A,boxA b2 75 [yc yd (cm.fo),yc yd (cm.cx),yc yd (cm.cy),yc yd n,yc yd h,wa.b,wa.l,wb.b,wb.l,wc.b,wc.l,wd.b,wd.l],boxA b1 29 (cS s)],[qF true u8_1 u8_2 ((h:Int):Rat),qF ly.isSome wc wd (ly.getD 0),qF lx.isSome wa wb (lx.getD 0),slF (rI .i64) none 0 ([]),slF (rI .i64) p25 c26 (yI s cm n lx.isSome (lx.getD 0) ly.isSome (ly.getD 0) h),eF wc wd ly,eF wa wb lx,sgF,slF (rI .u32) (wa.p) (wa.c) xa,slF (rI .u32) (wb.p) (wb.c) xb,slF (rI .u32) (wc.p) (wc.c) ya,slF (rI .u32) (wd.p) (wd.c) yb])) ?_ (fun hD4=> ?_)
       ·
        rintro ⟨u8_1,u8_2⟩
        dsimp only [cw,cS]
        refine zib 9 13 kr ?_ ?_
        ·
         refine zm rfl rfl rfl rfl (.c rfl (.c rfl (.c rfl (.c rfl .n)))) ce18 (zJd (s:=s) (cm:=cm) (r:=((i:Nat):Int)) (k1:=lx.isSome) (u1:=wa) (v1:=wb) (ax:=(lx.getD 0)) (k2:=ly.isSome) (u2:=wc) (v2:=wd) (ay:=(ly.getD 0)) (k3:=true) (u3:=u8_1) (v3:=u8_2) (h:=h) (hok:=by exact hok) (hlt:=by exact hlt) (hc:=by exact hcr2.1) (hr:=by exact ⟨by omega,by omega⟩) (hqx:=by exact hqx) (hqy:=by exact hqy) (hh:=by exact hcr2.2)) (.c (j:=2) rfl (.c (j:=1) rfl (.c (j:=0) rfl .n))) ?_
         rintro ⟨u9_1,u9_2,u9_3,u9_4⟩ hph
         dsimp only [aq,nq,cq]
         replace hph:yM s ((i:Nat):Int) (lx.getD 0) (ly.getD 0) h≠0→u9_1=wz∧u9_2=wz∧u9_3=wz∧u9_4=wz:=hph
         refine e_dm 10 rfl rfl rfl<|e_pv 11 rfl rfl (zy rfl rfl)<|e_pv 12 rfl rfl (zy rfl rfl) ?_
         exact zJ (hD2 (u8_1,u8_2,u9_1,u9_2,u9_3,u9_4)) kr ((.of rfl):SubM _ _) .rfl .rfl ((.of [0,1,2,3,4,5,6,7,8,9,10,11,12,13] rfl):SelR _ _ _)
        ·
         refine zua rfl rfl rfl rfl (zo zr46 rfl) (fun u13_1 _=> ?_)
         exact zJ (hD3 (u8_1,u8_2,u13_1)) kr ((.of rfl):SubM _ _) .rfl .rfl ((.of [0,1,2,3,4,5,6,7,8,9,10,11] rfl):SelR _ _ _)
       refine zga (X:=Nat) (k':=7) (L':=(lb 16 8447)) (fun u13_1=>([(10,ye (some ⟨u13_1,0,none⟩)),(96,yc yd h),(94,.agg (cw [wa,wb,wc,wd]).toArray),(92,yc yd ((i:Nat):Int)),(91,.agg #[yc yd (cm.fo),yc yd (cm.cx),yc yd (cm.cy)]),(89,.agg #[yc yd (s.fi),yc yd (s.st),yc yd (s.ta),yc yd (s.xa),yc yd (s.ya),yc yd (s.za),yc yd (s.qa),yc yd (s.qb),yc yd (s.qc),yc yd (s.qd),yc yd (s.tb),yc yd (s.xb),yc yd (s.yb),yc yd (s.zb),yc yd (s.ra),yc yd (s.rb),yc yd (s.rc),yc yd (s.rd)]),(9,yc yd ((i:Nat):Int)),(8,.slice pR (A.length) cR),(85,yc yd ((i:Nat):Int)),(84,yc yd n),(6,yc yd qd1),(5,.slice p25 ((yI s cm n lx.isSome (lx.getD 0) ly.isSome (ly.getD 0) h).length) c26),(3,ye (some ⟨b2,0,none⟩)),(2,ye (some ⟨b1,0,none⟩))],[boxA u13_1 46 (cw [wz,wz,wz,wz])],[rowA 3 (rI .i64) pR cR A,boxA b2 75 [yc yd (cm.fo),yc yd (cm.cx),yc yd (cm.cy),yc yd n,yc yd h,wa.b,wa.l,wb.b,wb.l,wc.b,wc.l,wd.b,wd.l],boxA b1 29 (cS s)],[qF ly.isSome wc wd (ly.getD 0),qF lx.isSome wa wb (lx.getD 0),slF (rI .i64) none 0 ([]),slF (rI .i64) p25 c26 (yI s cm n lx.isSome (lx.getD 0) ly.isSome (ly.getD 0) h),eF wc wd ly,eF wa wb lx,sgF,slF (rI .u32) (wa.p) (wa.c) xa,slF (rI .u32) (wb.p) (wb.c) xb,slF (rI .u32) (wc.p) (wc.c) ya,slF (rI .u32) (wd.p) (wd.c) yb])) ?_ (fun hD5=> ?_)
       ·
        rintro u13_1
        dsimp only [cw,cS]
        refine zFa 8 kr ?_
        ·
         refine zm rfl rfl rfl rfl (.c rfl (.c rfl .n)) ce19 (zPe (k1:=lx.isSome) (u1:=wa) (v1:=wb) (ax:=(lx.getD 0)) (k2:=ly.isSome) (u2:=wc) (v2:=wd) (ay:=(ly.getD 0)) (h:=h) (h64h:=ass)) (.c (j:=1) rfl (.c (j:=0) rfl .n)) ?_
         rintro ⟨u8_1,u8_2⟩ -
         dsimp only [aq,nq,cq]
         exact zJ (hD3 (u8_1,u8_2,u13_1)) kr ((.of rfl):SubM _ _) .rfl .rfl ((.of [0,1,2,3,4,5,6,7,8,9,10,11] rfl):SelR _ _ _)
       refine zib 8 13 kr ?_ ?_
       ·
        refine zm rfl rfl rfl rfl (.c rfl (.c rfl .n)) ce19 (zPe (k1:=lx.isSome) (u1:=wa) (v1:=wb) (ax:=(lx.getD 0)) (k2:=ly.isSome) (u2:=wc) (v2:=wd) (ay:=(ly.getD 0)) (h:=h) (h64h:=ass)) (.c (j:=1) rfl (.c (j:=0) rfl .n)) ?_
        rintro ⟨u8_1,u8_2⟩ -
        dsimp only [aq,nq,cq]
        exact zJ (hD4 (u8_1,u8_2)) kr ((.of rfl):SubM _ _) .rfl .rfl ((.of [0,1,2,3,4,5,6,7,8,9,10,11] rfl):SelR _ _ _)
       ·
        refine zua rfl rfl rfl rfl (zo zr46 rfl) (fun u13_1 _=> ?_)
        exact zJ (hD5 u13_1) kr ((.of rfl):SubM _ _) .rfl .rfl ((.of [0,1,2,3,4,5,6,7,8,9,10] rfl):SelR _ _ _)
      ·
       refine zla<|zn<|zn<|zA<|zg<|zj<|zBe 0 rfl .z<|zc<|e_mv rfl<|e_p (zOa rfl rfl) ?_
       rw [show (decide (yR s cm n lx.isSome ly.isSome h=0))=true from by exact decide_eq_true hz9]
       refine e_mv rfl<|e_mv rfl<|e_mv rfl<|zU rfl rfl (.c rfl (.c rfl .n)) ce39 (zzf (p1:=p25) (n1:=(yI s cm n lx.isSome (lx.getD 0) ly.isSome (ly.getD 0) h).length) (c1:=c26) (l1:=(yI s cm n lx.isSome (lx.getD 0) ly.isSome (ly.getD 0) h)) (p2:=pR) (n2:=A.length) (c2:=cR) (l2:=A) (hn1:=yG) (hn2:=yG)) (.c (j:=4) rfl (.c (j:=0) rfl .n)) ?_
       rw [show (decide ((yI s cm n lx.isSome (lx.getD 0) ly.isSome (ly.getD 0) h)=A))=true from by exact decide_eq_true (show (yI s cm n lx.isSome (lx.getD 0) ly.isSome (ly.getD 0) h)=A from (if_pos hz9).trans (by rw [hA,show n.toNat=i by omega]))]
       refine e_p (zK rfl rfl)<|e_p (zh rfl)<|zk<|zg<|zS ?_
       exact zM Tryz.results10 () trivial (zC rfl) rfl (ho:=(.n:PickO _ _ _)) (.n:SelR _ _ _)
end Go.Proofs.YtjeahiahjgifgaaGreatDoor.Sp
