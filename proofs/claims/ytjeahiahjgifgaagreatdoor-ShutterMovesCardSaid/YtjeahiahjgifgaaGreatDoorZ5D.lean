/- Lemmas on the walk and plain lemmas that the claim of this folder uses; each states its own conditions. Lines were printed by a program of ours. -/
import Derived.Test.YtjeahiahjgifgaaGreatDoorZ5C
set_option linter.unusedVariables false
set_option linter.unusedSimpArgs false
set_option linter.unusedSectionVars false
open Go.Value renaming int → yc, pointer → ye
open Go.IntKind renaming i64 → yd
open Go.Proofs.YtjeahiahjgifgaaGreatDoor.Sh renaming rot → yf, mat → yi, ro → yk, pos → ym, ax → yn, pk → yp, tim → yu, gd → yw, az → yC
open Go.Proofs.Tryz renaming underlying140 → yg, underlying106 → yh, underlying113 → yj, underlying136 → yl, underlying117 → yo, underlying138 → yq, underlying137 → yr, underlying46 → yt, underlying3 → yv, underlying35 → yx, underlying37 → yz, underlying25 → yA, results47 → yB
namespace Go.Proofs.YtjeahiahjgifgaaGreatDoor.Sp
open Go
set_option linter.unusedVariables false
set_option maxRecDepth 100000
set_option maxHeartbeats 8000000
theorem zVb {q:Sh.Q4} (hsm:Sh.sm q):Con Tryz.prog 76 [.agg #[yc yd (q.1),yc yd (q.2.1),yc yd (q.2.2.1),yc yd (q.2.2.2)]] [] [sgF] (Y:=Wd×Wd×Wd×Wd×Wd×Wd×Wd×Wd×Wd×Wd×Wd×Wd×Wd×Wd×Wd×Wd×Wd×Wd) (fun y=>True) (fun y=> .agg #[y.1.b,y.1.l,y.2.1.b,y.2.1.l,y.2.2.1.b,y.2.2.1.l,y.2.2.2.1.b,y.2.2.2.1.l,y.2.2.2.2.1.b,y.2.2.2.2.1.l,y.2.2.2.2.2.1.b,y.2.2.2.2.2.1.l,y.2.2.2.2.2.2.1.b,y.2.2.2.2.2.2.1.l,y.2.2.2.2.2.2.2.1.b,y.2.2.2.2.2.2.2.1.l,y.2.2.2.2.2.2.2.2.1.b,y.2.2.2.2.2.2.2.2.1.l,y.2.2.2.2.2.2.2.2.2.1.b,y.2.2.2.2.2.2.2.2.2.1.l,y.2.2.2.2.2.2.2.2.2.2.1.b,y.2.2.2.2.2.2.2.2.2.2.1.l,y.2.2.2.2.2.2.2.2.2.2.2.1.b,y.2.2.2.2.2.2.2.2.2.2.2.1.l,y.2.2.2.2.2.2.2.2.2.2.2.2.1.b,y.2.2.2.2.2.2.2.2.2.2.2.2.1.l,y.2.2.2.2.2.2.2.2.2.2.2.2.2.1.b,y.2.2.2.2.2.2.2.2.2.2.2.2.2.1.l,y.2.2.2.2.2.2.2.2.2.2.2.2.2.2.1.b,y.2.2.2.2.2.2.2.2.2.2.2.2.2.2.1.l,y.2.2.2.2.2.2.2.2.2.2.2.2.2.2.2.1.b,y.2.2.2.2.2.2.2.2.2.2.2.2.2.2.2.1.l,y.2.2.2.2.2.2.2.2.2.2.2.2.2.2.2.2.1.b,y.2.2.2.2.2.2.2.2.2.2.2.2.2.2.2.2.1.l,y.2.2.2.2.2.2.2.2.2.2.2.2.2.2.2.2.2.b,y.2.2.2.2.2.2.2.2.2.2.2.2.2.2.2.2.2.l]) (fun y=>[]) (fun y=>[qF true y.1 y.2.1 ((yi q).1.1),qF true y.2.2.1 y.2.2.2.1 ((yi q).1.2.1),qF true y.2.2.2.2.1 y.2.2.2.2.2.1 ((yi q).1.2.2),qF true y.2.2.2.2.2.2.1 y.2.2.2.2.2.2.2.1 ((yi q).2.1.1),qF true y.2.2.2.2.2.2.2.2.1 y.2.2.2.2.2.2.2.2.2.1 ((yi q).2.1.2.1),qF true y.2.2.2.2.2.2.2.2.2.2.1 y.2.2.2.2.2.2.2.2.2.2.2.1 ((yi q).2.1.2.2),qF true y.2.2.2.2.2.2.2.2.2.2.2.2.1 y.2.2.2.2.2.2.2.2.2.2.2.2.2.1 ((yi q).2.2.1),qF true y.2.2.2.2.2.2.2.2.2.2.2.2.2.2.1 y.2.2.2.2.2.2.2.2.2.2.2.2.2.2.2.1 ((yi q).2.2.2.1),qF true y.2.2.2.2.2.2.2.2.2.2.2.2.2.2.2.2.1 y.2.2.2.2.2.2.2.2.2.2.2.2.2.2.2.2.2 ((yi q).2.2.2.2)]):=by
 refine zx Tryz.func76 rfl rfl rfl (fun c=> ?_)
 show RunC _ _ _ _ _ [(0,.agg #[yc yd (q.1),yc yd (q.2.1),yc yd (q.2.2.1),yc yd (q.2.2.2)])] [] [sgF]
 refine c_more (sg_open 0 rfl) (fun ⟨⟨⟨sp00,sc00⟩,⟨sp01,sc01⟩,⟨sp02,sc02⟩⟩,⟨⟨sp10,sc10⟩,⟨sp11,sc11⟩,⟨sp12,sc12⟩⟩,⟨sp20,sc20⟩,⟨sp21,sc21⟩,⟨sp22,sc22⟩⟩ _=> ?_)
 try dsimp only
 obtain ⟨hm1,hm2,hm3,hm4⟩:=hsm
 refine zj<|zc<|zJ rfl rfl (zda rfl rfl) (fun b1=> ?_)
 refine zJ rfl rfl (zp zr117 rfl) (fun b2=> ?_)
 refine zk<|zf<|zj<|zc<|e_ru (zd 1 ty25 rfl rfl (.t4 .nil))<|zV rfl rfl (.c rfl .n) ce73 (zlb (ea:=q.1) (eb:=q.2.1) (ec:=q.2.2.1) (ed:=q.2.2.2)) (.n)<|zJ rfl rfl (zp zr113 rfl) (fun b3=> ?_)
 refine zl 0 rfl rfl rfl rfl rfl sz113 rfl (.t4 .nil) .z<|zk<|zf<|zj<|zc<|zJ rfl rfl (zp zr117 rfl) (fun b4=> ?_)
 refine zk<|zf<|zj<|zj<|zc<|e_mv rfl<|zk<|zf<|zu<|zLa<|zW<|zj<|zc<|e_p (zS rfl rfl)<|zk<|zf<|zj<|zaa rfl rfl<|zB<|zf<|zj<|zu<|zj<|zc<|e_mv rfl<|e_p (zh rfl)<|zk<|zf<|zj<|zc<|e_mv rfl<|zk<|zf<|zu<|zLa<|zW<|zj<|zc<|e_p (zS rfl rfl)<|zk<|zf<|zj<|zaa rfl rfl<|zB<|zf<|zIa (X:=Wd×Wd) (fun x=>True) (fun x=>[(15,yc yd 0),(5,yc yd 0),(12,yc yd 0),(4,ye (some ⟨b4,0,none⟩)),(3,ye (some ⟨b3,0,none⟩)),(2,ye (some ⟨b2,0,none⟩))]) (fun x=>[boxA b4 117 (cw [x.1,x.2,wz,wz,wz,wz,wz,wz,wz,wz,wz,wz,wz,wz,wz,wz,wz,wz]),boxA b3 113 [yc yd (q.1),yc yd (q.2.1),yc yd (q.2.2.1),yc yd (q.2.2.2)],boxA b2 117 (cw [wz,wz,wz,wz,wz,wz,wz,wz,wz,wz,wz,wz,wz,wz,wz,wz,wz,wz])]) (fun x=>[qF true x.1 x.2 ((yi q).1.1),atF 0 0 [.slice sp00 4 sc00,.slice sp01 2 sc01,.slice sp02 2 sc02,.slice sp10 2 sc10,.slice sp11 4 sc11,.slice sp12 2 sc12,.slice sp20 2 sc20,.slice sp21 2 sc21,.slice sp22 4 sc22],slF (rI3 .i64) sp00 sc00 (Sh.sg00),slF (rI3 .i64) sp01 sc01 (Sh.sg01),slF (rI3 .i64) sp02 sc02 (Sh.sg02),slF (rI3 .i64) sp10 sc10 (Sh.sg10),slF (rI3 .i64) sp11 sc11 (Sh.sg11),slF (rI3 .i64) sp12 sc12 (Sh.sg12),slF (rI3 .i64) sp20 sc20 (Sh.sg20),slF (rI3 .i64) sp21 sc21 (Sh.sg21),slF (rI3 .i64) sp22 sc22 (Sh.sg22),sgF]) ?_ ?_
 ·
  refine zu<|zj<|zc<|e_mv rfl<|e_p (zh rfl)<|zk<|zf<|zj<|zc<|zG rfl rfl (.c rfl .n) ce71 (zy (z:=0) (hz:=yn)) (.n) ?_
  rintro ⟨w35,w46⟩ -
  dsimp only [aq,nq,cq]
  refine zJ rfl rfl (zp zr44 rfl) (fun b7=> ?_)
  refine zl 0 rfl rfl rfl rfl rfl sz44 rfl (.t4 .nil) .z<|zk<|zf<|zj<|zj<|zc<|e_mv rfl<|e_mv rfl<|e_p (zi (i:=0) yq sz137 rfl rfl dd rfl)<|e_p (zi (i:=0) yr sz136 rfl rfl dd rfl)<|e_ru (zA (j:=0) 1 ty136 rfl rfl rfl rfl)<|e_p (zea yl rfl)<|e_mv rfl<|zk<|zf<|zu<|zLa<|zW<|zj<|zc<|e_p (zS rfl rfl)<|zk<|zf<|zj<|zaa rfl rfl<|zB<|zf<|zj<|zu<|zj<|zc<|zP (x0:=(Sh.sg00.getD 0 (0,0,0))) 2 0 rfl yl sz140 rfl rfl rfl cbs rfl rfl (gD (d:=(0,0,0)) (by first|omega|decide)) (fun b8 o9 hok10=> ?_)
  obtain ⟨hok10x,hok10y,hok10z⟩:=hok10
  replace hok10x:=zt.1 hok10x
  replace hok10y:=zt.1 hok10y
  replace hok10z:=zt.1 hok10z
  refine e_ru (zX (j:=0) 0 ty140 rfl rfl rfl (.t2 (.take .nil)))<|zJ rfl rfl (zp zr140 rfl) (fun b11=> ?_)
  refine zl 0 rfl rfl rfl rfl rfl sz140 rfl (.t2 (.take .nil)) .z<|zk<|zf ?_
  have e12:((Sh.sg00.getD 0 (0,0,0)).1:Int)=1:=by rfl
  rw [e12]
  have e13:((Sh.sg00.getD 0 (0,0,0)).2.1:Int)=0:=by rfl
  rw [e13]
  have e14:((Sh.sg00.getD 0 (0,0,0)).2.2:Int)=0:=by rfl
  rw [e14]
  refine zba (.c (i:=1) rfl (.c (i:=0) rfl (.c (i:=0) rfl (.c (i:=0) rfl (.c (i:=0) rfl .n)))))<|zO (OW:=[boxA b7 44 (cw [w35,w46])]) (O:=[boxA b11 140 [yc yd 1,yc yd 0,yc yd 0],boxA b4 117 (cw [wz,wz,wz,wz,wz,wz,wz,wz,wz,wz,wz,wz,wz,wz,wz,wz,wz,wz]),boxA b3 113 [yc yd (q.1),yc yd (q.2.1),yc yd (q.2.2.1),yc yd (q.2.2.2)],boxA b2 117 (cw [wz,wz,wz,wz,wz,wz,wz,wz,wz,wz,wz,wz,wz,wz,wz,wz,wz,wz])]) 17 mixed (.block (.then (.then (.block (.then (.block (.then (.then (.block (.block (.then (.then (.block (.then .ret)))))))))))))) kr<|e_uw 0 rfl rfl (zd 0 ty44 rfl rfl (.t4 .nil))<|e_pv 1 rfl rfl (zg yg rfl sz3 rfl rfl)<|e_uw 2 rfl rfl (ze 1 ty3 rfl rfl rfl)<|e_pv 4 rfl rfl (zg yg rfl sz3 rfl rfl)<|e_uw 5 rfl rfl (ze 1 ty3 rfl rfl rfl)<|e_pv 6 rfl rfl (zi (i:=0) yj sz3 rfl rfl dd rfl)<|e_uw 7 rfl rfl (ze 3 ty3 rfl rfl rfl)<|e_pv 9 rfl rfl (zg yg rfl sz3 rfl rfl)<|e_uw 10 rfl rfl (ze 1 ty3 rfl rfl rfl)<|e_pv 11 rfl rfl (zi (i:=0) yj sz3 rfl rfl dd rfl)<|e_uw 12 rfl rfl (ze 3 ty3 rfl rfl rfl)<|e_one 3 (zm rfl rfl rfl rfl (.c rfl .n) ce71 (zy (z:=1) (hz:=yn)) (.n) ?_)
  rintro ⟨w315,w416⟩ -
  dsimp only [aq,nq,cq]
  refine e_one 8 (zm rfl rfl rfl rfl (.c rfl .n) ce71 (zy (z:=q.1) (hz:=yn)) (.n) ?_)
  rintro ⟨w317,w418⟩ -
  dsimp only [aq,nq,cq]
  refine e_one 13 (zm rfl rfl rfl rfl (.c rfl .n) ce71 (zy (z:=q.1) (hz:=yn)) (.n) ?_)
  rintro ⟨w319,w420⟩ -
  dsimp only [aq,nq,cq]
  refine e_one 14 (zm rfl rfl rfl rfl (.c rfl (.c rfl .n)) ce81 (zY (k1:=true) (u1:=w317) (v1:=w418) (q1:=((q.1:Int):Rat)) (k2:=true) (u2:=w319) (v2:=w420) (q2:=((q.1:Int):Rat)) (hl:=yn)) (.c (j:=1) rfl (.c (j:=0) rfl .n)) ?_)
  rintro ⟨w321,w422⟩ -
  dsimp only [aq,nq,cq]
  refine e_one 15 (zm rfl rfl rfl rfl (.c rfl (.c rfl .n)) ce81 (zY (k1:=true) (u1:=w315) (v1:=w416) (q1:=((1:Int):Rat)) (k2:=true) (u2:=w321) (v2:=w422) (q2:=((q.1:Int):Rat)*((q.1:Int):Rat)) (hl:=yn)) (.c (j:=3) rfl (.c (j:=0) rfl .n)) ?_)
  rintro ⟨w323,w424⟩ -
  dsimp only [aq,nq,cq]
  refine e_one 16 (zm rfl rfl rfl rfl (.c rfl (.c rfl .n)) ce80 (zka (k1:=true) (u1:=w35) (v1:=w46) (q1:=((0:Int):Rat)) (k2:=true) (u2:=w323) (v2:=w424) (q2:=((1:Int):Rat)*(((q.1:Int):Rat)*((q.1:Int):Rat))) (hl:=yn)) (.c (j:=6) rfl (.c (j:=0) rfl .n)) ?_)
  rintro ⟨w325,w426⟩ -
  dsimp only [aq,nq,cq]
  refine e_one 17 (zo kr rfl rfl rfl rfl rfl sz44 rfl (.t4 .nil) ?_)
  refine zM kr<|zK<|zf<|zc<|e_p (zI (z:=1) rfl rfl (w64 dd))<|e_mv rfl<|zk<|zga<|zW<|zj<|zc<|e_p (zS rfl rfl)<|zk<|zf<|zj<|zaa rfl rfl<|zB<|zf<|zj<|zu<|zj<|zc<|zP (x0:=(Sh.sg00.getD 1 (0,0,0))) 9 1 rfl yl sz140 rfl rfl rfl cbs rfl rfl (gD (d:=(0,0,0)) (by first|omega|decide)) (fun b27 o28 hok29=> ?_)
  obtain ⟨hok29x,hok29y,hok29z⟩:=hok29
  replace hok29x:=zt.1 hok29x
  replace hok29y:=zt.1 hok29y
  replace hok29z:=zt.1 hok29z
  refine e_ru (zX (j:=0) 0 ty140 rfl rfl rfl (.t2 (.take .nil)))<|zJ rfl rfl (zp zr140 rfl) (fun b30=> ?_)
  refine zl 0 rfl rfl rfl rfl rfl sz140 rfl (.t2 (.take .nil)) .z<|zk<|zf ?_
  have e31:((Sh.sg00.getD 1 (0,0,0)).1:Int)=1:=by rfl
  rw [e31]
  have e32:((Sh.sg00.getD 1 (0,0,0)).2.1:Int)=1:=by rfl
  rw [e32]
  have e33:((Sh.sg00.getD 1 (0,0,0)).2.2:Int)=1:=by rfl
  rw [e33]
  refine zba (.c (i:=1) rfl (.c (i:=0) rfl (.c (i:=1) rfl (.c (i:=1) rfl (.c (i:=1) rfl .n)))))<|zO (OW:=[boxA b7 44 (cw [w325,w426])]) (O:=[boxA b30 140 [yc yd 1,yc yd 1,yc yd 1],boxA b4 117 (cw [wz,wz,wz,wz,wz,wz,wz,wz,wz,wz,wz,wz,wz,wz,wz,wz,wz,wz]),boxA b3 113 [yc yd (q.1),yc yd (q.2.1),yc yd (q.2.2.1),yc yd (q.2.2.2)],boxA b2 117 (cw [wz,wz,wz,wz,wz,wz,wz,wz,wz,wz,wz,wz,wz,wz,wz,wz,wz,wz])]) 17 mixed (.block (.then (.then (.block (.then (.block (.then (.then (.block (.block (.then (.then (.block (.then .ret)))))))))))))) kr<|e_uw 0 rfl rfl (zd 0 ty44 rfl rfl (.t4 .nil))<|e_pv 1 rfl rfl (zg yg rfl sz3 rfl rfl)<|e_uw 2 rfl rfl (ze 1 ty3 rfl rfl rfl)<|e_pv 4 rfl rfl (zg yg rfl sz3 rfl rfl)<|e_uw 5 rfl rfl (ze 1 ty3 rfl rfl rfl)<|e_pv 6 rfl rfl (zi (i:=1) yj sz3 rfl rfl dd rfl)<|e_uw 7 rfl rfl (ze 3 ty3 rfl rfl rfl)<|e_pv 9 rfl rfl (zg yg rfl sz3 rfl rfl)<|e_uw 10 rfl rfl (ze 1 ty3 rfl rfl rfl)<|e_pv 11 rfl rfl (zi (i:=1) yj sz3 rfl rfl dd rfl)<|e_uw 12 rfl rfl (ze 3 ty3 rfl rfl rfl)<|e_one 3 (zm rfl rfl rfl rfl (.c rfl .n) ce71 (zy (z:=1) (hz:=yn)) (.n) ?_)
  rintro ⟨w334,w435⟩ -
  dsimp only [aq,nq,cq]
  refine e_one 8 (zm rfl rfl rfl rfl (.c rfl .n) ce71 (zy (z:=q.2.1) (hz:=yn)) (.n) ?_)
  rintro ⟨w336,w437⟩ -
  dsimp only [aq,nq,cq]
  refine e_one 13 (zm rfl rfl rfl rfl (.c rfl .n) ce71 (zy (z:=q.2.1) (hz:=yn)) (.n) ?_)
  rintro ⟨w338,w439⟩ -
  dsimp only [aq,nq,cq]
  refine e_one 14 (zm rfl rfl rfl rfl (.c rfl (.c rfl .n)) ce81 (zY (k1:=true) (u1:=w336) (v1:=w437) (q1:=((q.2.1:Int):Rat)) (k2:=true) (u2:=w338) (v2:=w439) (q2:=((q.2.1:Int):Rat)) (hl:=yn)) (.c (j:=1) rfl (.c (j:=0) rfl .n)) ?_)
  rintro ⟨w340,w441⟩ -
  dsimp only [aq,nq,cq]
  refine e_one 15 (zm rfl rfl rfl rfl (.c rfl (.c rfl .n)) ce81 (zY (k1:=true) (u1:=w334) (v1:=w435) (q1:=((1:Int):Rat)) (k2:=true) (u2:=w340) (v2:=w441) (q2:=((q.2.1:Int):Rat)*((q.2.1:Int):Rat)) (hl:=yn)) (.c (j:=3) rfl (.c (j:=0) rfl .n)) ?_)
  rintro ⟨w342,w443⟩ -
  dsimp only [aq,nq,cq]
  refine e_one 16 (zm rfl rfl rfl rfl (.c rfl (.c rfl .n)) ce80 (zka (k1:=true) (u1:=w325) (v1:=w426) (q1:=((0:Int):Rat)+(((1:Int):Rat)*(((q.1:Int):Rat)*((q.1:Int):Rat)))) (k2:=true) (u2:=w342) (v2:=w443) (q2:=((1:Int):Rat)*(((q.2.1:Int):Rat)*((q.2.1:Int):Rat))) (hl:=yn)) (.c (j:=6) rfl (.c (j:=0) rfl .n)) ?_)
  rintro ⟨w344,w445⟩ -
  dsimp only [aq,nq,cq]
  refine e_one 17 (zo kr rfl rfl rfl rfl rfl sz44 rfl (.t4 .nil) ?_)
  refine zM kr<|zK<|zf<|zc<|e_p (zI (z:=2) rfl rfl (w64 dd))<|e_mv rfl<|zk<|zga<|zW<|zj<|zc<|e_p (zS rfl rfl)<|zk<|zf<|zj<|zaa rfl rfl<|zB<|zf<|zj<|zu<|zj<|zc<|zP (x0:=(Sh.sg00.getD 2 (0,0,0))) 16 2 rfl yl sz140 rfl rfl rfl cbs rfl rfl (gD (d:=(0,0,0)) (by first|omega|decide)) (fun b46 o47 hok48=> ?_)
  obtain ⟨hok48x,hok48y,hok48z⟩:=hok48
  replace hok48x:=zt.1 hok48x
  replace hok48y:=zt.1 hok48y
  replace hok48z:=zt.1 hok48z
  refine e_ru (zX (j:=0) 0 ty140 rfl rfl rfl (.t2 (.take .nil)))<|zJ rfl rfl (zp zr140 rfl) (fun b49=> ?_)
  refine zl 0 rfl rfl rfl rfl rfl sz140 rfl (.t2 (.take .nil)) .z<|zk<|zf ?_
  have e50:((Sh.sg00.getD 2 (0,0,0)).1:Int)=(-1):=by rfl
  rw [e50]
  have e51:((Sh.sg00.getD 2 (0,0,0)).2.1:Int)=2:=by rfl
  rw [e51]
  have e52:((Sh.sg00.getD 2 (0,0,0)).2.2:Int)=2:=by rfl
  rw [e52]
  refine zba (.c (i:=1) rfl (.c (i:=0) rfl (.c (i:=1) rfl (.c (i:=1) rfl (.c (i:=1) rfl .n)))))<|zO (OW:=[boxA b7 44 (cw [w344,w445])]) (O:=[boxA b49 140 [yc yd (-1),yc yd 2,yc yd 2],boxA b4 117 (cw [wz,wz,wz,wz,wz,wz,wz,wz,wz,wz,wz,wz,wz,wz,wz,wz,wz,wz]),boxA b3 113 [yc yd (q.1),yc yd (q.2.1),yc yd (q.2.2.1),yc yd (q.2.2.2)],boxA b2 117 (cw [wz,wz,wz,wz,wz,wz,wz,wz,wz,wz,wz,wz,wz,wz,wz,wz,wz,wz])]) 17 mixed (.block (.then (.then (.block (.then (.block (.then (.then (.block (.block (.then (.then (.block (.then .ret)))))))))))))) kr<|e_uw 0 rfl rfl (zd 0 ty44 rfl rfl (.t4 .nil))<|e_pv 1 rfl rfl (zg yg rfl sz3 rfl rfl)<|e_uw 2 rfl rfl (ze 1 ty3 rfl rfl rfl)<|e_pv 4 rfl rfl (zg yg rfl sz3 rfl rfl)<|e_uw 5 rfl rfl (ze 1 ty3 rfl rfl rfl)<|e_pv 6 rfl rfl (zi (i:=2) yj sz3 rfl rfl dd rfl)<|e_uw 7 rfl rfl (ze 3 ty3 rfl rfl rfl)<|e_pv 9 rfl rfl (zg yg rfl sz3 rfl rfl)<|e_uw 10 rfl rfl (ze 1 ty3 rfl rfl rfl)<|e_pv 11 rfl rfl (zi (i:=2) yj sz3 rfl rfl dd rfl)<|e_uw 12 rfl rfl (ze 3 ty3 rfl rfl rfl)<|e_one 3 (zm rfl rfl rfl rfl (.c rfl .n) ce71 (zy (z:=(-1)) (hz:=yn)) (.n) ?_)
  rintro ⟨w353,w454⟩ -
  dsimp only [aq,nq,cq]
  refine e_one 8 (zm rfl rfl rfl rfl (.c rfl .n) ce71 (zy (z:=q.2.2.1) (hz:=yn)) (.n) ?_)
  rintro ⟨w355,w456⟩ -
  dsimp only [aq,nq,cq]
  refine e_one 13 (zm rfl rfl rfl rfl (.c rfl .n) ce71 (zy (z:=q.2.2.1) (hz:=yn)) (.n) ?_)
  rintro ⟨w357,w458⟩ -
  dsimp only [aq,nq,cq]
  refine e_one 14 (zm rfl rfl rfl rfl (.c rfl (.c rfl .n)) ce81 (zY (k1:=true) (u1:=w355) (v1:=w456) (q1:=((q.2.2.1:Int):Rat)) (k2:=true) (u2:=w357) (v2:=w458) (q2:=((q.2.2.1:Int):Rat)) (hl:=yn)) (.c (j:=1) rfl (.c (j:=0) rfl .n)) ?_)
  rintro ⟨w359,w460⟩ -
  dsimp only [aq,nq,cq]
  refine e_one 15 (zm rfl rfl rfl rfl (.c rfl (.c rfl .n)) ce81 (zY (k1:=true) (u1:=w353) (v1:=w454) (q1:=(((-1):Int):Rat)) (k2:=true) (u2:=w359) (v2:=w460) (q2:=((q.2.2.1:Int):Rat)*((q.2.2.1:Int):Rat)) (hl:=yn)) (.c (j:=3) rfl (.c (j:=0) rfl .n)) ?_)
  rintro ⟨w361,w462⟩ -
  dsimp only [aq,nq,cq]
  refine e_one 16 (zm rfl rfl rfl rfl (.c rfl (.c rfl .n)) ce80 (zka (k1:=true) (u1:=w344) (v1:=w445) (q1:=(((0:Int):Rat)+(((1:Int):Rat)*(((q.1:Int):Rat)*((q.1:Int):Rat))))+(((1:Int):Rat)*(((q.2.1:Int):Rat)*((q.2.1:Int):Rat)))) (k2:=true) (u2:=w361) (v2:=w462) (q2:=(((-1):Int):Rat)*(((q.2.2.1:Int):Rat)*((q.2.2.1:Int):Rat))) (hl:=yn)) (.c (j:=6) rfl (.c (j:=0) rfl .n)) ?_)
  rintro ⟨w363,w464⟩ -
  dsimp only [aq,nq,cq]
  refine e_one 17 (zo kr rfl rfl rfl rfl rfl sz44 rfl (.t4 .nil) ?_)
  refine zM kr<|zK<|zf<|zc<|e_p (zI (z:=3) rfl rfl (w64 dd))<|e_mv rfl<|zk<|zga<|zW<|zj<|zc<|e_p (zS rfl rfl)<|zk<|zf<|zj<|zaa rfl rfl<|zB<|zf<|zj<|zu<|zj<|zc<|zP (x0:=(Sh.sg00.getD 3 (0,0,0))) 23 3 rfl yl sz140 rfl rfl rfl cbs rfl rfl (gD (d:=(0,0,0)) (by first|omega|decide)) (fun b65 o66 hok67=> ?_)
  obtain ⟨hok67x,hok67y,hok67z⟩:=hok67
  replace hok67x:=zt.1 hok67x
  replace hok67y:=zt.1 hok67y
  replace hok67z:=zt.1 hok67z
  refine e_ru (zX (j:=0) 0 ty140 rfl rfl rfl (.t2 (.take .nil)))<|zJ rfl rfl (zp zr140 rfl) (fun b68=> ?_)
  refine zl 0 rfl rfl rfl rfl rfl sz140 rfl (.t2 (.take .nil)) .z<|zk<|zf ?_
  have e69:((Sh.sg00.getD 3 (0,0,0)).1:Int)=(-1):=by rfl
  rw [e69]
  have e70:((Sh.sg00.getD 3 (0,0,0)).2.1:Int)=3:=by rfl
  rw [e70]
  have e71:((Sh.sg00.getD 3 (0,0,0)).2.2:Int)=3:=by rfl
  rw [e71]
  refine zba (.c (i:=1) rfl (.c (i:=0) rfl (.c (i:=1) rfl (.c (i:=1) rfl (.c (i:=1) rfl .n)))))<|zO (OW:=[boxA b7 44 (cw [w363,w464])]) (O:=[boxA b68 140 [yc yd (-1),yc yd 3,yc yd 3],boxA b4 117 (cw [wz,wz,wz,wz,wz,wz,wz,wz,wz,wz,wz,wz,wz,wz,wz,wz,wz,wz]),boxA b3 113 [yc yd (q.1),yc yd (q.2.1),yc yd (q.2.2.1),yc yd (q.2.2.2)],boxA b2 117 (cw [wz,wz,wz,wz,wz,wz,wz,wz,wz,wz,wz,wz,wz,wz,wz,wz,wz,wz])]) 17 mixed (.block (.then (.then (.block (.then (.block (.then (.then (.block (.block (.then (.then (.block (.then .ret)))))))))))))) kr<|e_uw 0 rfl rfl (zd 0 ty44 rfl rfl (.t4 .nil))<|e_pv 1 rfl rfl (zg yg rfl sz3 rfl rfl)<|e_uw 2 rfl rfl (ze 1 ty3 rfl rfl rfl)<|e_pv 4 rfl rfl (zg yg rfl sz3 rfl rfl)<|e_uw 5 rfl rfl (ze 1 ty3 rfl rfl rfl)<|e_pv 6 rfl rfl (zi (i:=3) yj sz3 rfl rfl dd rfl)<|e_uw 7 rfl rfl (ze 3 ty3 rfl rfl rfl)<|e_pv 9 rfl rfl (zg yg rfl sz3 rfl rfl)<|e_uw 10 rfl rfl (ze 1 ty3 rfl rfl rfl)<|e_pv 11 rfl rfl (zi (i:=3) yj sz3 rfl rfl dd rfl)<|e_uw 12 rfl rfl (ze 3 ty3 rfl rfl rfl)<|e_one 3 (zm rfl rfl rfl rfl (.c rfl .n) ce71 (zy (z:=(-1)) (hz:=yn)) (.n) ?_)
  rintro ⟨w372,w473⟩ -
  dsimp only [aq,nq,cq]
  refine e_one 8 (zm rfl rfl rfl rfl (.c rfl .n) ce71 (zy (z:=q.2.2.2) (hz:=yn)) (.n) ?_)
  rintro ⟨w374,w475⟩ -
  dsimp only [aq,nq,cq]
  refine e_one 13 (zm rfl rfl rfl rfl (.c rfl .n) ce71 (zy (z:=q.2.2.2) (hz:=yn)) (.n) ?_)
  rintro ⟨w376,w477⟩ -
  dsimp only [aq,nq,cq]
  refine e_one 14 (zm rfl rfl rfl rfl (.c rfl (.c rfl .n)) ce81 (zY (k1:=true) (u1:=w374) (v1:=w475) (q1:=((q.2.2.2:Int):Rat)) (k2:=true) (u2:=w376) (v2:=w477) (q2:=((q.2.2.2:Int):Rat)) (hl:=yn)) (.c (j:=1) rfl (.c (j:=0) rfl .n)) ?_)
  rintro ⟨w378,w479⟩ -
  dsimp only [aq,nq,cq]
  refine e_one 15 (zm rfl rfl rfl rfl (.c rfl (.c rfl .n)) ce81 (zY (k1:=true) (u1:=w372) (v1:=w473) (q1:=(((-1):Int):Rat)) (k2:=true) (u2:=w378) (v2:=w479) (q2:=((q.2.2.2:Int):Rat)*((q.2.2.2:Int):Rat)) (hl:=yn)) (.c (j:=3) rfl (.c (j:=0) rfl .n)) ?_)
  rintro ⟨w380,w481⟩ -
  dsimp only [aq,nq,cq]
  refine e_one 16 (zm rfl rfl rfl rfl (.c rfl (.c rfl .n)) ce80 (zka (k1:=true) (u1:=w363) (v1:=w464) (q1:=((((0:Int):Rat)+(((1:Int):Rat)*(((q.1:Int):Rat)*((q.1:Int):Rat))))+(((1:Int):Rat)*(((q.2.1:Int):Rat)*((q.2.1:Int):Rat))))+((((-1):Int):Rat)*(((q.2.2.1:Int):Rat)*((q.2.2.1:Int):Rat)))) (k2:=true) (u2:=w380) (v2:=w481) (q2:=(((-1):Int):Rat)*(((q.2.2.2:Int):Rat)*((q.2.2.2:Int):Rat))) (hl:=yn)) (.c (j:=6) rfl (.c (j:=0) rfl .n)) ?_)
  rintro ⟨w382,w483⟩ -
  dsimp only [aq,nq,cq]
  refine e_one 17 (zo kr rfl rfl rfl rfl rfl sz44 rfl (.t4 .nil) ?_)
  refine zM kr<|zK<|zf<|zc<|e_p (zI (z:=4) rfl rfl (w64 dd))<|e_mv rfl<|zk<|zga<|zW<|zj<|zc<|e_p (zS rfl rfl)<|zk<|zf<|zj<|zua rfl rfl<|zla<|zn<|zn<|zC<|zf ?_
  have e84:((((((0:Int):Rat)+(((1:Int):Rat)*(((q.1:Int):Rat)*((q.1:Int):Rat))))+(((1:Int):Rat)*(((q.2.1:Int):Rat)*((q.2.1:Int):Rat))))+((((-1):Int):Rat)*(((q.2.2.1:Int):Rat)*((q.2.2.1:Int):Rat))))+((((-1):Int):Rat)*(((q.2.2.2:Int):Rat)*((q.2.2.2:Int):Rat))):Rat)=(yi q).1.1:=by rfl
  rw [e84]
  refine zba (.c (i:=2) rfl (.c (i:=0) rfl (.c (i:=1) rfl (.c (i:=1) rfl .n))))<|zO (OW:=[boxA b4 117 (cw [wz,wz,wz,wz,wz,wz,wz,wz,wz,wz,wz,wz,wz,wz,wz,wz,wz,wz])]) (O:=[boxA b7 44 (cw [w382,w483]),boxA b3 113 [yc yd (q.1),yc yd (q.2.1),yc yd (q.2.2.1),yc yd (q.2.2.2)],boxA b2 117 (cw [wz,wz,wz,wz,wz,wz,wz,wz,wz,wz,wz,wz,wz,wz,wz,wz,wz,wz])]) 5 mixed (.block (.then (.then (.block (.block (.then (.then (.block (.then .ret))))))))) kr<|e_dm 0 rfl rfl rfl<|e_dm 1 rfl rfl rfl<|e_uw 2 rfl rfl (zd 1 ty44 rfl rfl (.t4 .nil))<|e_pv 3 rfl rfl (zi (i:=0) yo sz106 rfl rfl dd rfl)<|e_pv 4 rfl rfl (zi (i:=0) yh sz44 rfl rfl dd rfl)<|e_one 5 (zo kr rfl rfl rfl rfl rfl sz44 rfl (.t4 .nil) ?_)
  refine zM kr<|zK ?_
  exact zna (w382,w483) (show True from by first|trivial|omega|simp_all) ((.of rfl):SubM _ _) (ho:=((.of [0,1,1] rfl):PickO _ _ _)) ((.of [0,29,30,31,32,33,34,35,36,37,38,39] rfl):SelR _ _ _)
 ·
  rintro ⟨wm0,vm0⟩ -
  dsimp only [cw,cS]
  refine zc<|e_p (zI (z:=1) rfl rfl (w64 dd))<|e_mv rfl<|zk<|zga<|zW<|zj<|zc<|e_p (zS rfl rfl)<|zk<|zf<|zj<|zaa rfl rfl<|zB<|zf<|zIa (X:=Wd×Wd) (fun x=>True) (fun x=>[(15,yc yd 1),(5,yc yd 0),(12,yc yd 0),(4,ye (some ⟨b4,0,none⟩)),(3,ye (some ⟨b3,0,none⟩)),(2,ye (some ⟨b2,0,none⟩))]) (fun x=>[boxA b4 117 (cw [wm0,vm0,x.1,x.2,wz,wz,wz,wz,wz,wz,wz,wz,wz,wz,wz,wz,wz,wz]),boxA b3 113 [yc yd (q.1),yc yd (q.2.1),yc yd (q.2.2.1),yc yd (q.2.2.2)],boxA b2 117 (cw [wz,wz,wz,wz,wz,wz,wz,wz,wz,wz,wz,wz,wz,wz,wz,wz,wz,wz])]) (fun x=>[qF true x.1 x.2 ((yi q).1.2.1),qF true wm0 vm0 ((yi q).1.1),atF 0 0 [.slice sp00 4 sc00,.slice sp01 2 sc01,.slice sp02 2 sc02,.slice sp10 2 sc10,.slice sp11 4 sc11,.slice sp12 2 sc12,.slice sp20 2 sc20,.slice sp21 2 sc21,.slice sp22 4 sc22],slF (rI3 .i64) sp00 sc00 (Sh.sg00),slF (rI3 .i64) sp01 sc01 (Sh.sg01),slF (rI3 .i64) sp02 sc02 (Sh.sg02),slF (rI3 .i64) sp10 sc10 (Sh.sg10),slF (rI3 .i64) sp11 sc11 (Sh.sg11),slF (rI3 .i64) sp12 sc12 (Sh.sg12),slF (rI3 .i64) sp20 sc20 (Sh.sg20),slF (rI3 .i64) sp21 sc21 (Sh.sg21),slF (rI3 .i64) sp22 sc22 (Sh.sg22),sgF]) ?_ ?_
  ·
   refine zu<|zj<|zc<|e_mv rfl<|e_p (zh rfl)<|zk<|zf<|zj<|zc<|zG rfl rfl (.c rfl .n) ce71 (zy (z:=0) (hz:=yn)) (.n) ?_
   rintro ⟨w385,w486⟩ -
   dsimp only [aq,nq,cq]
   refine zJ rfl rfl (zp zr44 rfl) (fun b87=> ?_)
   refine zl 0 rfl rfl rfl rfl rfl sz44 rfl (.t4 .nil) .z<|zk<|zf<|zj<|zj<|zc<|e_mv rfl<|e_mv rfl<|e_p (zi (i:=0) yq sz137 rfl rfl dd rfl)<|e_p (zi (i:=1) yr sz136 rfl rfl dd rfl)<|e_ru (zA (j:=1) 2 ty136 rfl rfl rfl rfl)<|e_p (zea yl rfl)<|e_mv rfl<|zk<|zf<|zu<|zLa<|zW<|zj<|zc<|e_p (zS rfl rfl)<|zk<|zf<|zj<|zaa rfl rfl<|zB<|zf<|zj<|zu<|zj<|zc<|zP (x0:=(Sh.sg01.getD 0 (0,0,0))) 4 0 rfl yl sz140 rfl rfl rfl cbs rfl rfl (gD (d:=(0,0,0)) (by first|omega|decide)) (fun b88 o89 hok90=> ?_)
   obtain ⟨hok90x,hok90y,hok90z⟩:=hok90
   replace hok90x:=zt.1 hok90x
   replace hok90y:=zt.1 hok90y
   replace hok90z:=zt.1 hok90z
   refine e_ru (zX (j:=0) 0 ty140 rfl rfl rfl (.t2 (.take .nil)))<|zJ rfl rfl (zp zr140 rfl) (fun b91=> ?_)
   refine zl 0 rfl rfl rfl rfl rfl sz140 rfl (.t2 (.take .nil)) .z<|zk<|zf ?_
   have e92:((Sh.sg01.getD 0 (0,0,0)).1:Int)=2:=by rfl
   rw [e92]
   have e93:((Sh.sg01.getD 0 (0,0,0)).2.1:Int)=1:=by rfl
   rw [e93]
   have e94:((Sh.sg01.getD 0 (0,0,0)).2.2:Int)=2:=by rfl
   rw [e94]
   refine zba (.c (i:=1) rfl (.c (i:=0) rfl (.c (i:=0) rfl (.c (i:=0) rfl (.c (i:=0) rfl .n)))))<|zO (OW:=[boxA b87 44 (cw [w385,w486])]) (O:=[boxA b91 140 [yc yd 2,yc yd 1,yc yd 2],boxA b4 117 (cw [wm0,vm0,wz,wz,wz,wz,wz,wz,wz,wz,wz,wz,wz,wz,wz,wz,wz,wz]),boxA b3 113 [yc yd (q.1),yc yd (q.2.1),yc yd (q.2.2.1),yc yd (q.2.2.2)],boxA b2 117 (cw [wz,wz,wz,wz,wz,wz,wz,wz,wz,wz,wz,wz,wz,wz,wz,wz,wz,wz])]) 17 mixed (.block (.then (.then (.block (.then (.block (.then (.then (.block (.block (.then (.then (.block (.then .ret)))))))))))))) kr<|e_uw 0 rfl rfl (zd 0 ty44 rfl rfl (.t4 .nil))<|e_pv 1 rfl rfl (zg yg rfl sz3 rfl rfl)<|e_uw 2 rfl rfl (ze 1 ty3 rfl rfl rfl)<|e_pv 4 rfl rfl (zg yg rfl sz3 rfl rfl)<|e_uw 5 rfl rfl (ze 1 ty3 rfl rfl rfl)<|e_pv 6 rfl rfl (zi (i:=1) yj sz3 rfl rfl dd rfl)<|e_uw 7 rfl rfl (ze 3 ty3 rfl rfl rfl)<|e_pv 9 rfl rfl (zg yg rfl sz3 rfl rfl)<|e_uw 10 rfl rfl (ze 1 ty3 rfl rfl rfl)<|e_pv 11 rfl rfl (zi (i:=2) yj sz3 rfl rfl dd rfl)<|e_uw 12 rfl rfl (ze 3 ty3 rfl rfl rfl)<|e_one 3 (zm rfl rfl rfl rfl (.c rfl .n) ce71 (zy (z:=2) (hz:=yn)) (.n) ?_)
   rintro ⟨w395,w496⟩ -
   dsimp only [aq,nq,cq]
   refine e_one 8 (zm rfl rfl rfl rfl (.c rfl .n) ce71 (zy (z:=q.2.1) (hz:=yn)) (.n) ?_)
   rintro ⟨w397,w498⟩ -
   dsimp only [aq,nq,cq]
   refine e_one 13 (zm rfl rfl rfl rfl (.c rfl .n) ce71 (zy (z:=q.2.2.1) (hz:=yn)) (.n) ?_)
   rintro ⟨w399,w4100⟩ -
   dsimp only [aq,nq,cq]
   refine e_one 14 (zm rfl rfl rfl rfl (.c rfl (.c rfl .n)) ce81 (zY (k1:=true) (u1:=w397) (v1:=w498) (q1:=((q.2.1:Int):Rat)) (k2:=true) (u2:=w399) (v2:=w4100) (q2:=((q.2.2.1:Int):Rat)) (hl:=yn)) (.c (j:=1) rfl (.c (j:=0) rfl .n)) ?_)
   rintro ⟨w3101,w4102⟩ -
   dsimp only [aq,nq,cq]
   refine e_one 15 (zm rfl rfl rfl rfl (.c rfl (.c rfl .n)) ce81 (zY (k1:=true) (u1:=w395) (v1:=w496) (q1:=((2:Int):Rat)) (k2:=true) (u2:=w3101) (v2:=w4102) (q2:=((q.2.1:Int):Rat)*((q.2.2.1:Int):Rat)) (hl:=yn)) (.c (j:=3) rfl (.c (j:=0) rfl .n)) ?_)
   rintro ⟨w3103,w4104⟩ -
   dsimp only [aq,nq,cq]
   refine e_one 16 (zm rfl rfl rfl rfl (.c rfl (.c rfl .n)) ce80 (zka (k1:=true) (u1:=w385) (v1:=w486) (q1:=((0:Int):Rat)) (k2:=true) (u2:=w3103) (v2:=w4104) (q2:=((2:Int):Rat)*(((q.2.1:Int):Rat)*((q.2.2.1:Int):Rat))) (hl:=yn)) (.c (j:=6) rfl (.c (j:=0) rfl .n)) ?_)
   rintro ⟨w3105,w4106⟩ -
   dsimp only [aq,nq,cq]
   refine e_one 17 (zo kr rfl rfl rfl rfl rfl sz44 rfl (.t4 .nil) ?_)
   refine zM kr<|zK<|zf<|zc<|e_p (zI (z:=1) rfl rfl (w64 dd))<|e_mv rfl<|zk<|zga<|zW<|zj<|zc<|e_p (zS rfl rfl)<|zk<|zf<|zj<|zaa rfl rfl<|zB<|zf<|zj<|zu<|zj<|zc<|zP (x0:=(Sh.sg01.getD 1 (0,0,0))) 11 1 rfl yl sz140 rfl rfl rfl cbs rfl rfl (gD (d:=(0,0,0)) (by first|omega|decide)) (fun b107 o108 hok109=> ?_)
   obtain ⟨hok109x,hok109y,hok109z⟩:=hok109
   replace hok109x:=zt.1 hok109x
   replace hok109y:=zt.1 hok109y
   replace hok109z:=zt.1 hok109z
   refine e_ru (zX (j:=0) 0 ty140 rfl rfl rfl (.t2 (.take .nil)))<|zJ rfl rfl (zp zr140 rfl) (fun b110=> ?_)
   refine zl 0 rfl rfl rfl rfl rfl sz140 rfl (.t2 (.take .nil)) .z<|zk<|zf ?_
   have e111:((Sh.sg01.getD 1 (0,0,0)).1:Int)=(-2):=by rfl
   rw [e111]
   have e112:((Sh.sg01.getD 1 (0,0,0)).2.1:Int)=0:=by rfl
   rw [e112]
   have e113:((Sh.sg01.getD 1 (0,0,0)).2.2:Int)=3:=by rfl
   rw [e113]
   refine zba (.c (i:=1) rfl (.c (i:=0) rfl (.c (i:=1) rfl (.c (i:=1) rfl (.c (i:=1) rfl .n)))))<|zO (OW:=[boxA b87 44 (cw [w3105,w4106])]) (O:=[boxA b110 140 [yc yd (-2),yc yd 0,yc yd 3],boxA b4 117 (cw [wm0,vm0,wz,wz,wz,wz,wz,wz,wz,wz,wz,wz,wz,wz,wz,wz,wz,wz]),boxA b3 113 [yc yd (q.1),yc yd (q.2.1),yc yd (q.2.2.1),yc yd (q.2.2.2)],boxA b2 117 (cw [wz,wz,wz,wz,wz,wz,wz,wz,wz,wz,wz,wz,wz,wz,wz,wz,wz,wz])]) 17 mixed (.block (.then (.then (.block (.then (.block (.then (.then (.block (.block (.then (.then (.block (.then .ret)))))))))))))) kr<|e_uw 0 rfl rfl (zd 0 ty44 rfl rfl (.t4 .nil))<|e_pv 1 rfl rfl (zg yg rfl sz3 rfl rfl)<|e_uw 2 rfl rfl (ze 1 ty3 rfl rfl rfl)<|e_pv 4 rfl rfl (zg yg rfl sz3 rfl rfl)<|e_uw 5 rfl rfl (ze 1 ty3 rfl rfl rfl)<|e_pv 6 rfl rfl (zi (i:=0) yj sz3 rfl rfl dd rfl)<|e_uw 7 rfl rfl (ze 3 ty3 rfl rfl rfl)<|e_pv 9 rfl rfl (zg yg rfl sz3 rfl rfl)<|e_uw 10 rfl rfl (ze 1 ty3 rfl rfl rfl)<|e_pv 11 rfl rfl (zi (i:=3) yj sz3 rfl rfl dd rfl)<|e_uw 12 rfl rfl (ze 3 ty3 rfl rfl rfl)<|e_one 3 (zm rfl rfl rfl rfl (.c rfl .n) ce71 (zy (z:=(-2)) (hz:=yn)) (.n) ?_)
   rintro ⟨w3114,w4115⟩ -
   dsimp only [aq,nq,cq]
   refine e_one 8 (zm rfl rfl rfl rfl (.c rfl .n) ce71 (zy (z:=q.1) (hz:=yn)) (.n) ?_)
   rintro ⟨w3116,w4117⟩ -
   dsimp only [aq,nq,cq]
   refine e_one 13 (zm rfl rfl rfl rfl (.c rfl .n) ce71 (zy (z:=q.2.2.2) (hz:=yn)) (.n) ?_)
   rintro ⟨w3118,w4119⟩ -
   dsimp only [aq,nq,cq]
   refine e_one 14 (zm rfl rfl rfl rfl (.c rfl (.c rfl .n)) ce81 (zY (k1:=true) (u1:=w3116) (v1:=w4117) (q1:=((q.1:Int):Rat)) (k2:=true) (u2:=w3118) (v2:=w4119) (q2:=((q.2.2.2:Int):Rat)) (hl:=yn)) (.c (j:=1) rfl (.c (j:=0) rfl .n)) ?_)
   rintro ⟨w3120,w4121⟩ -
   dsimp only [aq,nq,cq]
   refine e_one 15 (zm rfl rfl rfl rfl (.c rfl (.c rfl .n)) ce81 (zY (k1:=true) (u1:=w3114) (v1:=w4115) (q1:=(((-2):Int):Rat)) (k2:=true) (u2:=w3120) (v2:=w4121) (q2:=((q.1:Int):Rat)*((q.2.2.2:Int):Rat)) (hl:=yn)) (.c (j:=3) rfl (.c (j:=0) rfl .n)) ?_)
   rintro ⟨w3122,w4123⟩ -
   dsimp only [aq,nq,cq]
   refine e_one 16 (zm rfl rfl rfl rfl (.c rfl (.c rfl .n)) ce80 (zka (k1:=true) (u1:=w3105) (v1:=w4106) (q1:=((0:Int):Rat)+(((2:Int):Rat)*(((q.2.1:Int):Rat)*((q.2.2.1:Int):Rat)))) (k2:=true) (u2:=w3122) (v2:=w4123) (q2:=(((-2):Int):Rat)*(((q.1:Int):Rat)*((q.2.2.2:Int):Rat))) (hl:=yn)) (.c (j:=6) rfl (.c (j:=0) rfl .n)) ?_)
   rintro ⟨w3124,w4125⟩ -
   dsimp only [aq,nq,cq]
   refine e_one 17 (zo kr rfl rfl rfl rfl rfl sz44 rfl (.t4 .nil) ?_)
   refine zM kr<|zK<|zf<|zc<|e_p (zI (z:=2) rfl rfl (w64 dd))<|e_mv rfl<|zk<|zga<|zW<|zj<|zc<|e_p (zS rfl rfl)<|zk<|zf<|zj<|zua rfl rfl<|zla<|zn<|zn<|zC<|zf ?_
   have e126:((((0:Int):Rat)+(((2:Int):Rat)*(((q.2.1:Int):Rat)*((q.2.2.1:Int):Rat))))+((((-2):Int):Rat)*(((q.1:Int):Rat)*((q.2.2.2:Int):Rat))):Rat)=(yi q).1.2.1:=by rfl
   rw [e126]
   refine zba (.c (i:=2) rfl (.c (i:=0) rfl (.c (i:=1) rfl (.c (i:=1) rfl .n))))<|zO (OW:=[boxA b4 117 (cw [wm0,vm0,wz,wz,wz,wz,wz,wz,wz,wz,wz,wz,wz,wz,wz,wz,wz,wz])]) (O:=[boxA b87 44 (cw [w3124,w4125]),boxA b3 113 [yc yd (q.1),yc yd (q.2.1),yc yd (q.2.2.1),yc yd (q.2.2.2)],boxA b2 117 (cw [wz,wz,wz,wz,wz,wz,wz,wz,wz,wz,wz,wz,wz,wz,wz,wz,wz,wz])]) 5 mixed (.block (.then (.then (.block (.block (.then (.then (.block (.then .ret))))))))) kr<|e_dm 0 rfl rfl rfl<|e_dm 1 rfl rfl rfl<|e_uw 2 rfl rfl (zd 1 ty44 rfl rfl (.t4 .nil))<|e_pv 3 rfl rfl (zi (i:=0) yo sz106 rfl rfl dd rfl)<|e_pv 4 rfl rfl (zi (i:=1) yh sz44 rfl rfl dd rfl)<|e_one 5 (zo kr rfl rfl rfl rfl rfl sz44 rfl (.s4 (.t4 .nil)) ?_)
   refine zM kr<|zK ?_
   exact zna (w3124,w4125) (show True from by first|trivial|omega|simp_all) ((.of rfl):SubM _ _) (ho:=((.of [0,1,1] rfl):PickO _ _ _)) ((.of [0,15,16,17,18,19,20,21,22,23,24,25,26] rfl):SelR _ _ _)
  ·
   rintro ⟨wm1,vm1⟩ -
   dsimp only [cw,cS]
   refine zc<|e_p (zI (z:=2) rfl rfl (w64 dd))<|e_mv rfl<|zk<|zga<|zW<|zj<|zc<|e_p (zS rfl rfl)<|zk<|zf<|zj<|zaa rfl rfl<|zB<|zf<|zIa (X:=Wd×Wd) (fun x=>True) (fun x=>[(15,yc yd 2),(5,yc yd 0),(12,yc yd 0),(4,ye (some ⟨b4,0,none⟩)),(3,ye (some ⟨b3,0,none⟩)),(2,ye (some ⟨b2,0,none⟩))]) (fun x=>[boxA b4 117 (cw [wm0,vm0,wm1,vm1,x.1,x.2,wz,wz,wz,wz,wz,wz,wz,wz,wz,wz,wz,wz]),boxA b3 113 [yc yd (q.1),yc yd (q.2.1),yc yd (q.2.2.1),yc yd (q.2.2.2)],boxA b2 117 (cw [wz,wz,wz,wz,wz,wz,wz,wz,wz,wz,wz,wz,wz,wz,wz,wz,wz,wz])]) (fun x=>[qF true x.1 x.2 ((yi q).1.2.2),qF true wm1 vm1 ((yi q).1.2.1),qF true wm0 vm0 ((yi q).1.1),atF 0 0 [.slice sp00 4 sc00,.slice sp01 2 sc01,.slice sp02 2 sc02,.slice sp10 2 sc10,.slice sp11 4 sc11,.slice sp12 2 sc12,.slice sp20 2 sc20,.slice sp21 2 sc21,.slice sp22 4 sc22],slF (rI3 .i64) sp00 sc00 (Sh.sg00),slF (rI3 .i64) sp01 sc01 (Sh.sg01),slF (rI3 .i64) sp02 sc02 (Sh.sg02),slF (rI3 .i64) sp10 sc10 (Sh.sg10),slF (rI3 .i64) sp11 sc11 (Sh.sg11),slF (rI3 .i64) sp12 sc12 (Sh.sg12),slF (rI3 .i64) sp20 sc20 (Sh.sg20),slF (rI3 .i64) sp21 sc21 (Sh.sg21),slF (rI3 .i64) sp22 sc22 (Sh.sg22),sgF]) ?_ ?_
   ·
    refine zu<|zj<|zc<|e_mv rfl<|e_p (zh rfl)<|zk<|zf<|zj<|zc<|zG rfl rfl (.c rfl .n) ce71 (zy (z:=0) (hz:=yn)) (.n) ?_
    rintro ⟨w3127,w4128⟩ -
    dsimp only [aq,nq,cq]
    refine zJ rfl rfl (zp zr44 rfl) (fun b129=> ?_)
    refine zl 0 rfl rfl rfl rfl rfl sz44 rfl (.t4 .nil) .z<|zk<|zf<|zj<|zj<|zc<|e_mv rfl<|e_mv rfl<|e_p (zi (i:=0) yq sz137 rfl rfl dd rfl)<|e_p (zi (i:=2) yr sz136 rfl rfl dd rfl)<|e_ru (zA (j:=2) 3 ty136 rfl rfl rfl rfl)<|e_p (zea yl rfl)<|e_mv rfl<|zk<|zf<|zu<|zLa<|zW<|zj<|zc<|e_p (zS rfl rfl)<|zk<|zf<|zj<|zaa rfl rfl<|zB<|zf<|zj<|zu<|zj<|zc<|zP (x0:=(Sh.sg02.getD 0 (0,0,0))) 6 0 rfl yl sz140 rfl rfl rfl cbs rfl rfl (gD (d:=(0,0,0)) (by first|omega|decide)) (fun b130 o131 hok132=> ?_)
    obtain ⟨hok132x,hok132y,hok132z⟩:=hok132
    replace hok132x:=zt.1 hok132x
    replace hok132y:=zt.1 hok132y
    replace hok132z:=zt.1 hok132z
    refine e_ru (zX (j:=0) 0 ty140 rfl rfl rfl (.t2 (.take .nil)))<|zJ rfl rfl (zp zr140 rfl) (fun b133=> ?_)
    refine zl 0 rfl rfl rfl rfl rfl sz140 rfl (.t2 (.take .nil)) .z<|zk<|zf ?_
    have e134:((Sh.sg02.getD 0 (0,0,0)).1:Int)=2:=by rfl
    rw [e134]
    have e135:((Sh.sg02.getD 0 (0,0,0)).2.1:Int)=1:=by rfl
    rw [e135]
    have e136:((Sh.sg02.getD 0 (0,0,0)).2.2:Int)=3:=by rfl
    rw [e136]
    refine zba (.c (i:=1) rfl (.c (i:=0) rfl (.c (i:=0) rfl (.c (i:=0) rfl (.c (i:=0) rfl .n)))))<|zO (OW:=[boxA b129 44 (cw [w3127,w4128])]) (O:=[boxA b133 140 [yc yd 2,yc yd 1,yc yd 3],boxA b4 117 (cw [wm0,vm0,wm1,vm1,wz,wz,wz,wz,wz,wz,wz,wz,wz,wz,wz,wz,wz,wz]),boxA b3 113 [yc yd (q.1),yc yd (q.2.1),yc yd (q.2.2.1),yc yd (q.2.2.2)],boxA b2 117 (cw [wz,wz,wz,wz,wz,wz,wz,wz,wz,wz,wz,wz,wz,wz,wz,wz,wz,wz])]) 17 mixed (.block (.then (.then (.block (.then (.block (.then (.then (.block (.block (.then (.then (.block (.then .ret)))))))))))))) kr<|e_uw 0 rfl rfl (zd 0 ty44 rfl rfl (.t4 .nil))<|e_pv 1 rfl rfl (zg yg rfl sz3 rfl rfl)<|e_uw 2 rfl rfl (ze 1 ty3 rfl rfl rfl)<|e_pv 4 rfl rfl (zg yg rfl sz3 rfl rfl)<|e_uw 5 rfl rfl (ze 1 ty3 rfl rfl rfl)<|e_pv 6 rfl rfl (zi (i:=1) yj sz3 rfl rfl dd rfl)<|e_uw 7 rfl rfl (ze 3 ty3 rfl rfl rfl)<|e_pv 9 rfl rfl (zg yg rfl sz3 rfl rfl)<|e_uw 10 rfl rfl (ze 1 ty3 rfl rfl rfl)<|e_pv 11 rfl rfl (zi (i:=3) yj sz3 rfl rfl dd rfl)<|e_uw 12 rfl rfl (ze 3 ty3 rfl rfl rfl)<|e_one 3 (zm rfl rfl rfl rfl (.c rfl .n) ce71 (zy (z:=2) (hz:=yn)) (.n) ?_)
    rintro ⟨w3137,w4138⟩ -
    dsimp only [aq,nq,cq]
    refine e_one 8 (zm rfl rfl rfl rfl (.c rfl .n) ce71 (zy (z:=q.2.1) (hz:=yn)) (.n) ?_)
    rintro ⟨w3139,w4140⟩ -
    dsimp only [aq,nq,cq]
    refine e_one 13 (zm rfl rfl rfl rfl (.c rfl .n) ce71 (zy (z:=q.2.2.2) (hz:=yn)) (.n) ?_)
    rintro ⟨w3141,w4142⟩ -
    dsimp only [aq,nq,cq]
    refine e_one 14 (zm rfl rfl rfl rfl (.c rfl (.c rfl .n)) ce81 (zY (k1:=true) (u1:=w3139) (v1:=w4140) (q1:=((q.2.1:Int):Rat)) (k2:=true) (u2:=w3141) (v2:=w4142) (q2:=((q.2.2.2:Int):Rat)) (hl:=yn)) (.c (j:=1) rfl (.c (j:=0) rfl .n)) ?_)
    rintro ⟨w3143,w4144⟩ -
    dsimp only [aq,nq,cq]
    refine e_one 15 (zm rfl rfl rfl rfl (.c rfl (.c rfl .n)) ce81 (zY (k1:=true) (u1:=w3137) (v1:=w4138) (q1:=((2:Int):Rat)) (k2:=true) (u2:=w3143) (v2:=w4144) (q2:=((q.2.1:Int):Rat)*((q.2.2.2:Int):Rat)) (hl:=yn)) (.c (j:=3) rfl (.c (j:=0) rfl .n)) ?_)
    rintro ⟨w3145,w4146⟩ -
    dsimp only [aq,nq,cq]
    refine e_one 16 (zm rfl rfl rfl rfl (.c rfl (.c rfl .n)) ce80 (zka (k1:=true) (u1:=w3127) (v1:=w4128) (q1:=((0:Int):Rat)) (k2:=true) (u2:=w3145) (v2:=w4146) (q2:=((2:Int):Rat)*(((q.2.1:Int):Rat)*((q.2.2.2:Int):Rat))) (hl:=yn)) (.c (j:=6) rfl (.c (j:=0) rfl .n)) ?_)
    rintro ⟨w3147,w4148⟩ -
    dsimp only [aq,nq,cq]
    refine e_one 17 (zo kr rfl rfl rfl rfl rfl sz44 rfl (.t4 .nil) ?_)
    refine zM kr<|zK<|zf<|zc<|e_p (zI (z:=1) rfl rfl (w64 dd))<|e_mv rfl<|zk<|zga<|zW<|zj<|zc<|e_p (zS rfl rfl)<|zk<|zf<|zj<|zaa rfl rfl<|zB<|zf<|zj<|zu<|zj<|zc<|zP (x0:=(Sh.sg02.getD 1 (0,0,0))) 13 1 rfl yl sz140 rfl rfl rfl cbs rfl rfl (gD (d:=(0,0,0)) (by first|omega|decide)) (fun b149 o150 hok151=> ?_)
    obtain ⟨hok151x,hok151y,hok151z⟩:=hok151
    replace hok151x:=zt.1 hok151x
    replace hok151y:=zt.1 hok151y
    replace hok151z:=zt.1 hok151z
    refine e_ru (zX (j:=0) 0 ty140 rfl rfl rfl (.t2 (.take .nil)))<|zJ rfl rfl (zp zr140 rfl) (fun b152=> ?_)
    refine zl 0 rfl rfl rfl rfl rfl sz140 rfl (.t2 (.take .nil)) .z<|zk<|zf ?_
    have e153:((Sh.sg02.getD 1 (0,0,0)).1:Int)=2:=by rfl
    rw [e153]
    have e154:((Sh.sg02.getD 1 (0,0,0)).2.1:Int)=0:=by rfl
    rw [e154]
    have e155:((Sh.sg02.getD 1 (0,0,0)).2.2:Int)=2:=by rfl
    rw [e155]
    refine zba (.c (i:=1) rfl (.c (i:=0) rfl (.c (i:=1) rfl (.c (i:=1) rfl (.c (i:=1) rfl .n)))))<|zO (OW:=[boxA b129 44 (cw [w3147,w4148])]) (O:=[boxA b152 140 [yc yd 2,yc yd 0,yc yd 2],boxA b4 117 (cw [wm0,vm0,wm1,vm1,wz,wz,wz,wz,wz,wz,wz,wz,wz,wz,wz,wz,wz,wz]),boxA b3 113 [yc yd (q.1),yc yd (q.2.1),yc yd (q.2.2.1),yc yd (q.2.2.2)],boxA b2 117 (cw [wz,wz,wz,wz,wz,wz,wz,wz,wz,wz,wz,wz,wz,wz,wz,wz,wz,wz])]) 17 mixed (.block (.then (.then (.block (.then (.block (.then (.then (.block (.block (.then (.then (.block (.then .ret)))))))))))))) kr<|e_uw 0 rfl rfl (zd 0 ty44 rfl rfl (.t4 .nil))<|e_pv 1 rfl rfl (zg yg rfl sz3 rfl rfl)<|e_uw 2 rfl rfl (ze 1 ty3 rfl rfl rfl)<|e_pv 4 rfl rfl (zg yg rfl sz3 rfl rfl)<|e_uw 5 rfl rfl (ze 1 ty3 rfl rfl rfl)<|e_pv 6 rfl rfl (zi (i:=0) yj sz3 rfl rfl dd rfl)<|e_uw 7 rfl rfl (ze 3 ty3 rfl rfl rfl)<|e_pv 9 rfl rfl (zg yg rfl sz3 rfl rfl)<|e_uw 10 rfl rfl (ze 1 ty3 rfl rfl rfl)<|e_pv 11 rfl rfl (zi (i:=2) yj sz3 rfl rfl dd rfl)<|e_uw 12 rfl rfl (ze 3 ty3 rfl rfl rfl)<|e_one 3 (zm rfl rfl rfl rfl (.c rfl .n) ce71 (zy (z:=2) (hz:=yn)) (.n) ?_)
    rintro ⟨w3156,w4157⟩ -
    dsimp only [aq,nq,cq]
    refine e_one 8 (zm rfl rfl rfl rfl (.c rfl .n) ce71 (zy (z:=q.1) (hz:=yn)) (.n) ?_)
    rintro ⟨w3158,w4159⟩ -
    dsimp only [aq,nq,cq]
    refine e_one 13 (zm rfl rfl rfl rfl (.c rfl .n) ce71 (zy (z:=q.2.2.1) (hz:=yn)) (.n) ?_)
    rintro ⟨w3160,w4161⟩ -
    dsimp only [aq,nq,cq]
    refine e_one 14 (zm rfl rfl rfl rfl (.c rfl (.c rfl .n)) ce81 (zY (k1:=true) (u1:=w3158) (v1:=w4159) (q1:=((q.1:Int):Rat)) (k2:=true) (u2:=w3160) (v2:=w4161) (q2:=((q.2.2.1:Int):Rat)) (hl:=yn)) (.c (j:=1) rfl (.c (j:=0) rfl .n)) ?_)
    rintro ⟨w3162,w4163⟩ -
    dsimp only [aq,nq,cq]
    refine e_one 15 (zm rfl rfl rfl rfl (.c rfl (.c rfl .n)) ce81 (zY (k1:=true) (u1:=w3156) (v1:=w4157) (q1:=((2:Int):Rat)) (k2:=true) (u2:=w3162) (v2:=w4163) (q2:=((q.1:Int):Rat)*((q.2.2.1:Int):Rat)) (hl:=yn)) (.c (j:=3) rfl (.c (j:=0) rfl .n)) ?_)
    rintro ⟨w3164,w4165⟩ -
    dsimp only [aq,nq,cq]
    refine e_one 16 (zm rfl rfl rfl rfl (.c rfl (.c rfl .n)) ce80 (zka (k1:=true) (u1:=w3147) (v1:=w4148) (q1:=((0:Int):Rat)+(((2:Int):Rat)*(((q.2.1:Int):Rat)*((q.2.2.2:Int):Rat)))) (k2:=true) (u2:=w3164) (v2:=w4165) (q2:=((2:Int):Rat)*(((q.1:Int):Rat)*((q.2.2.1:Int):Rat))) (hl:=yn)) (.c (j:=6) rfl (.c (j:=0) rfl .n)) ?_)
    rintro ⟨w3166,w4167⟩ -
    dsimp only [aq,nq,cq]
    refine e_one 17 (zo kr rfl rfl rfl rfl rfl sz44 rfl (.t4 .nil) ?_)
    refine zM kr<|zK<|zf<|zc<|e_p (zI (z:=2) rfl rfl (w64 dd))<|e_mv rfl<|zk<|zga<|zW<|zj<|zc<|e_p (zS rfl rfl)<|zk<|zf<|zj<|zua rfl rfl<|zla<|zn<|zn<|zC<|zf ?_
    have e168:((((0:Int):Rat)+(((2:Int):Rat)*(((q.2.1:Int):Rat)*((q.2.2.2:Int):Rat))))+(((2:Int):Rat)*(((q.1:Int):Rat)*((q.2.2.1:Int):Rat))):Rat)=(yi q).1.2.2:=by rfl
    rw [e168]
    refine zba (.c (i:=2) rfl (.c (i:=0) rfl (.c (i:=1) rfl (.c (i:=1) rfl .n))))<|zO (OW:=[boxA b4 117 (cw [wm0,vm0,wm1,vm1,wz,wz,wz,wz,wz,wz,wz,wz,wz,wz,wz,wz,wz,wz])]) (O:=[boxA b129 44 (cw [w3166,w4167]),boxA b3 113 [yc yd (q.1),yc yd (q.2.1),yc yd (q.2.2.1),yc yd (q.2.2.2)],boxA b2 117 (cw [wz,wz,wz,wz,wz,wz,wz,wz,wz,wz,wz,wz,wz,wz,wz,wz,wz,wz])]) 5 mixed (.block (.then (.then (.block (.block (.then (.then (.block (.then .ret))))))))) kr<|e_dm 0 rfl rfl rfl<|e_dm 1 rfl rfl rfl<|e_uw 2 rfl rfl (zd 1 ty44 rfl rfl (.t4 .nil))<|e_pv 3 rfl rfl (zi (i:=0) yo sz106 rfl rfl dd rfl)<|e_pv 4 rfl rfl (zi (i:=2) yh sz44 rfl rfl dd rfl)<|e_one 5 (zo kr rfl rfl rfl rfl rfl sz44 rfl (.s8 (.t4 .nil)) ?_)
    refine zM kr<|zK ?_
    exact zna (w3166,w4167) (show True from by first|trivial|omega|simp_all) ((.of rfl):SubM _ _) (ho:=((.of [0,1,1] rfl):PickO _ _ _)) ((.of [0,15,16,17,18,19,20,21,22,23,24,25,26,27] rfl):SelR _ _ _)
   ·
    rintro ⟨wm2,vm2⟩ -
    dsimp only [cw,cS]
    refine zc<|e_p (zI (z:=3) rfl rfl (w64 dd))<|e_mv rfl<|zk<|zga<|zW<|zj<|zc<|e_p (zS rfl rfl)<|zk<|zf<|zj<|zua rfl rfl<|zla<|zn<|zn<|zC<|zK<|zf<|zc<|e_p (zI (z:=1) rfl rfl (w64 dd))<|e_mv rfl<|zk<|zga<|zW<|zj<|zc<|e_p (zS rfl rfl)<|zk<|zf<|zj<|zaa rfl rfl<|zB<|zf<|zj<|zu<|zj<|zc<|e_mv rfl<|e_p (zh rfl)<|zk<|zf<|zj<|zc<|e_mv rfl<|zk<|zf<|zu<|zLa<|zW<|zj<|zc<|e_p (zS rfl rfl)<|zk<|zf<|zj<|zaa rfl rfl<|zB<|zf<|zIa (X:=Wd×Wd) (fun x=>True) (fun x=>[(15,yc yd 0),(5,yc yd 1),(12,yc yd 1),(4,ye (some ⟨b4,0,none⟩)),(3,ye (some ⟨b3,0,none⟩)),(2,ye (some ⟨b2,0,none⟩))]) (fun x=>[boxA b4 117 (cw [wm0,vm0,wm1,vm1,wm2,vm2,x.1,x.2,wz,wz,wz,wz,wz,wz,wz,wz,wz,wz]),boxA b3 113 [yc yd (q.1),yc yd (q.2.1),yc yd (q.2.2.1),yc yd (q.2.2.2)],boxA b2 117 (cw [wz,wz,wz,wz,wz,wz,wz,wz,wz,wz,wz,wz,wz,wz,wz,wz,wz,wz])]) (fun x=>[qF true x.1 x.2 ((yi q).2.1.1),qF true wm2 vm2 ((yi q).1.2.2),qF true wm1 vm1 ((yi q).1.2.1),qF true wm0 vm0 ((yi q).1.1),atF 0 0 [.slice sp00 4 sc00,.slice sp01 2 sc01,.slice sp02 2 sc02,.slice sp10 2 sc10,.slice sp11 4 sc11,.slice sp12 2 sc12,.slice sp20 2 sc20,.slice sp21 2 sc21,.slice sp22 4 sc22],slF (rI3 .i64) sp00 sc00 (Sh.sg00),slF (rI3 .i64) sp01 sc01 (Sh.sg01),slF (rI3 .i64) sp02 sc02 (Sh.sg02),slF (rI3 .i64) sp10 sc10 (Sh.sg10),slF (rI3 .i64) sp11 sc11 (Sh.sg11),slF (rI3 .i64) sp12 sc12 (Sh.sg12),slF (rI3 .i64) sp20 sc20 (Sh.sg20),slF (rI3 .i64) sp21 sc21 (Sh.sg21),slF (rI3 .i64) sp22 sc22 (Sh.sg22),sgF]) ?_ ?_
    ·
     refine zu<|zj<|zc<|e_mv rfl<|e_p (zh rfl)<|zk<|zf<|zj<|zc<|zG rfl rfl (.c rfl .n) ce71 (zy (z:=0) (hz:=yn)) (.n) ?_
     rintro ⟨w3169,w4170⟩ -
     dsimp only [aq,nq,cq]
     refine zJ rfl rfl (zp zr44 rfl) (fun b171=> ?_)
     refine zl 0 rfl rfl rfl rfl rfl sz44 rfl (.t4 .nil) .z<|zk<|zf<|zj<|zj<|zc<|e_mv rfl<|e_mv rfl<|e_p (zi (i:=1) yq sz137 rfl rfl dd rfl)<|e_p (zi (i:=0) yr sz136 rfl rfl dd rfl)<|e_ru (zA (j:=3) 4 ty136 rfl rfl rfl rfl)<|e_p (zea yl rfl)<|e_mv rfl<|zk<|zf<|zu<|zLa<|zW<|zj<|zc<|e_p (zS rfl rfl)<|zk<|zf<|zj<|zaa rfl rfl<|zB<|zf<|zj<|zu<|zj<|zc<|zP (x0:=(Sh.sg10.getD 0 (0,0,0))) 8 0 rfl yl sz140 rfl rfl rfl cbs rfl rfl (gD (d:=(0,0,0)) (by first|omega|decide)) (fun b172 o173 hok174=> ?_)
     obtain ⟨hok174x,hok174y,hok174z⟩:=hok174
     replace hok174x:=zt.1 hok174x
     replace hok174y:=zt.1 hok174y
     replace hok174z:=zt.1 hok174z
     refine e_ru (zX (j:=0) 0 ty140 rfl rfl rfl (.t2 (.take .nil)))<|zJ rfl rfl (zp zr140 rfl) (fun b175=> ?_)
     refine zl 0 rfl rfl rfl rfl rfl sz140 rfl (.t2 (.take .nil)) .z<|zk<|zf ?_
     have e176:((Sh.sg10.getD 0 (0,0,0)).1:Int)=2:=by rfl
     rw [e176]
     have e177:((Sh.sg10.getD 0 (0,0,0)).2.1:Int)=1:=by rfl
     rw [e177]
     have e178:((Sh.sg10.getD 0 (0,0,0)).2.2:Int)=2:=by rfl
     rw [e178]
     refine zba (.c (i:=1) rfl (.c (i:=0) rfl (.c (i:=0) rfl (.c (i:=0) rfl (.c (i:=0) rfl .n)))))<|zO (OW:=[boxA b171 44 (cw [w3169,w4170])]) (O:=[boxA b175 140 [yc yd 2,yc yd 1,yc yd 2],boxA b4 117 (cw [wm0,vm0,wm1,vm1,wm2,vm2,wz,wz,wz,wz,wz,wz,wz,wz,wz,wz,wz,wz]),boxA b3 113 [yc yd (q.1),yc yd (q.2.1),yc yd (q.2.2.1),yc yd (q.2.2.2)],boxA b2 117 (cw [wz,wz,wz,wz,wz,wz,wz,wz,wz,wz,wz,wz,wz,wz,wz,wz,wz,wz])]) 17 mixed (.block (.then (.then (.block (.then (.block (.then (.then (.block (.block (.then (.then (.block (.then .ret)))))))))))))) kr<|e_uw 0 rfl rfl (zd 0 ty44 rfl rfl (.t4 .nil))<|e_pv 1 rfl rfl (zg yg rfl sz3 rfl rfl)<|e_uw 2 rfl rfl (ze 1 ty3 rfl rfl rfl)<|e_pv 4 rfl rfl (zg yg rfl sz3 rfl rfl)<|e_uw 5 rfl rfl (ze 1 ty3 rfl rfl rfl)<|e_pv 6 rfl rfl (zi (i:=1) yj sz3 rfl rfl dd rfl)<|e_uw 7 rfl rfl (ze 3 ty3 rfl rfl rfl)<|e_pv 9 rfl rfl (zg yg rfl sz3 rfl rfl)<|e_uw 10 rfl rfl (ze 1 ty3 rfl rfl rfl)<|e_pv 11 rfl rfl (zi (i:=2) yj sz3 rfl rfl dd rfl)<|e_uw 12 rfl rfl (ze 3 ty3 rfl rfl rfl)<|e_one 3 (zm rfl rfl rfl rfl (.c rfl .n) ce71 (zy (z:=2) (hz:=yn)) (.n) ?_)
     rintro ⟨w3179,w4180⟩ -
     dsimp only [aq,nq,cq]
     refine e_one 8 (zm rfl rfl rfl rfl (.c rfl .n) ce71 (zy (z:=q.2.1) (hz:=yn)) (.n) ?_)
     rintro ⟨w3181,w4182⟩ -
     dsimp only [aq,nq,cq]
     refine e_one 13 (zm rfl rfl rfl rfl (.c rfl .n) ce71 (zy (z:=q.2.2.1) (hz:=yn)) (.n) ?_)
     rintro ⟨w3183,w4184⟩ -
     dsimp only [aq,nq,cq]
     refine e_one 14 (zm rfl rfl rfl rfl (.c rfl (.c rfl .n)) ce81 (zY (k1:=true) (u1:=w3181) (v1:=w4182) (q1:=((q.2.1:Int):Rat)) (k2:=true) (u2:=w3183) (v2:=w4184) (q2:=((q.2.2.1:Int):Rat)) (hl:=yn)) (.c (j:=1) rfl (.c (j:=0) rfl .n)) ?_)
     rintro ⟨w3185,w4186⟩ -
     dsimp only [aq,nq,cq]
     refine e_one 15 (zm rfl rfl rfl rfl (.c rfl (.c rfl .n)) ce81 (zY (k1:=true) (u1:=w3179) (v1:=w4180) (q1:=((2:Int):Rat)) (k2:=true) (u2:=w3185) (v2:=w4186) (q2:=((q.2.1:Int):Rat)*((q.2.2.1:Int):Rat)) (hl:=yn)) (.c (j:=3) rfl (.c (j:=0) rfl .n)) ?_)
     rintro ⟨w3187,w4188⟩ -
     dsimp only [aq,nq,cq]
     refine e_one 16 (zm rfl rfl rfl rfl (.c rfl (.c rfl .n)) ce80 (zka (k1:=true) (u1:=w3169) (v1:=w4170) (q1:=((0:Int):Rat)) (k2:=true) (u2:=w3187) (v2:=w4188) (q2:=((2:Int):Rat)*(((q.2.1:Int):Rat)*((q.2.2.1:Int):Rat))) (hl:=yn)) (.c (j:=6) rfl (.c (j:=0) rfl .n)) ?_)
     rintro ⟨w3189,w4190⟩ -
     dsimp only [aq,nq,cq]
     refine e_one 17 (zo kr rfl rfl rfl rfl rfl sz44 rfl (.t4 .nil) ?_)
     refine zM kr<|zK<|zf<|zc<|e_p (zI (z:=1) rfl rfl (w64 dd))<|e_mv rfl<|zk<|zga<|zW<|zj<|zc<|e_p (zS rfl rfl)<|zk<|zf<|zj<|zaa rfl rfl<|zB<|zf<|zj<|zu<|zj<|zc<|zP (x0:=(Sh.sg10.getD 1 (0,0,0))) 15 1 rfl yl sz140 rfl rfl rfl cbs rfl rfl (gD (d:=(0,0,0)) (by first|omega|decide)) (fun b191 o192 hok193=> ?_)
     obtain ⟨hok193x,hok193y,hok193z⟩:=hok193
     replace hok193x:=zt.1 hok193x
     replace hok193y:=zt.1 hok193y
     replace hok193z:=zt.1 hok193z
     refine e_ru (zX (j:=0) 0 ty140 rfl rfl rfl (.t2 (.take .nil)))<|zJ rfl rfl (zp zr140 rfl) (fun b194=> ?_)
     refine zl 0 rfl rfl rfl rfl rfl sz140 rfl (.t2 (.take .nil)) .z<|zk<|zf ?_
     have e195:((Sh.sg10.getD 1 (0,0,0)).1:Int)=2:=by rfl
     rw [e195]
     have e196:((Sh.sg10.getD 1 (0,0,0)).2.1:Int)=0:=by rfl
     rw [e196]
     have e197:((Sh.sg10.getD 1 (0,0,0)).2.2:Int)=3:=by rfl
     rw [e197]
     refine zba (.c (i:=1) rfl (.c (i:=0) rfl (.c (i:=1) rfl (.c (i:=1) rfl (.c (i:=1) rfl .n)))))<|zO (OW:=[boxA b171 44 (cw [w3189,w4190])]) (O:=[boxA b194 140 [yc yd 2,yc yd 0,yc yd 3],boxA b4 117 (cw [wm0,vm0,wm1,vm1,wm2,vm2,wz,wz,wz,wz,wz,wz,wz,wz,wz,wz,wz,wz]),boxA b3 113 [yc yd (q.1),yc yd (q.2.1),yc yd (q.2.2.1),yc yd (q.2.2.2)],boxA b2 117 (cw [wz,wz,wz,wz,wz,wz,wz,wz,wz,wz,wz,wz,wz,wz,wz,wz,wz,wz])]) 17 mixed (.block (.then (.then (.block (.then (.block (.then (.then (.block (.block (.then (.then (.block (.then .ret)))))))))))))) kr<|e_uw 0 rfl rfl (zd 0 ty44 rfl rfl (.t4 .nil))<|e_pv 1 rfl rfl (zg yg rfl sz3 rfl rfl)<|e_uw 2 rfl rfl (ze 1 ty3 rfl rfl rfl)<|e_pv 4 rfl rfl (zg yg rfl sz3 rfl rfl)<|e_uw 5 rfl rfl (ze 1 ty3 rfl rfl rfl)<|e_pv 6 rfl rfl (zi (i:=0) yj sz3 rfl rfl dd rfl)<|e_uw 7 rfl rfl (ze 3 ty3 rfl rfl rfl)<|e_pv 9 rfl rfl (zg yg rfl sz3 rfl rfl)<|e_uw 10 rfl rfl (ze 1 ty3 rfl rfl rfl)<|e_pv 11 rfl rfl (zi (i:=3) yj sz3 rfl rfl dd rfl)<|e_uw 12 rfl rfl (ze 3 ty3 rfl rfl rfl)<|e_one 3 (zm rfl rfl rfl rfl (.c rfl .n) ce71 (zy (z:=2) (hz:=yn)) (.n) ?_)
     rintro ⟨w3198,w4199⟩ -
     dsimp only [aq,nq,cq]
     refine e_one 8 (zm rfl rfl rfl rfl (.c rfl .n) ce71 (zy (z:=q.1) (hz:=yn)) (.n) ?_)
     rintro ⟨w3200,w4201⟩ -
     dsimp only [aq,nq,cq]
     refine e_one 13 (zm rfl rfl rfl rfl (.c rfl .n) ce71 (zy (z:=q.2.2.2) (hz:=yn)) (.n) ?_)
     rintro ⟨w3202,w4203⟩ -
     dsimp only [aq,nq,cq]
     refine e_one 14 (zm rfl rfl rfl rfl (.c rfl (.c rfl .n)) ce81 (zY (k1:=true) (u1:=w3200) (v1:=w4201) (q1:=((q.1:Int):Rat)) (k2:=true) (u2:=w3202) (v2:=w4203) (q2:=((q.2.2.2:Int):Rat)) (hl:=yn)) (.c (j:=1) rfl (.c (j:=0) rfl .n)) ?_)
     rintro ⟨w3204,w4205⟩ -
     dsimp only [aq,nq,cq]
     refine e_one 15 (zm rfl rfl rfl rfl (.c rfl (.c rfl .n)) ce81 (zY (k1:=true) (u1:=w3198) (v1:=w4199) (q1:=((2:Int):Rat)) (k2:=true) (u2:=w3204) (v2:=w4205) (q2:=((q.1:Int):Rat)*((q.2.2.2:Int):Rat)) (hl:=yn)) (.c (j:=3) rfl (.c (j:=0) rfl .n)) ?_)
     rintro ⟨w3206,w4207⟩ -
     dsimp only [aq,nq,cq]
     refine e_one 16 (zm rfl rfl rfl rfl (.c rfl (.c rfl .n)) ce80 (zka (k1:=true) (u1:=w3189) (v1:=w4190) (q1:=((0:Int):Rat)+(((2:Int):Rat)*(((q.2.1:Int):Rat)*((q.2.2.1:Int):Rat)))) (k2:=true) (u2:=w3206) (v2:=w4207) (q2:=((2:Int):Rat)*(((q.1:Int):Rat)*((q.2.2.2:Int):Rat))) (hl:=yn)) (.c (j:=6) rfl (.c (j:=0) rfl .n)) ?_)
     rintro ⟨w3208,w4209⟩ -
     dsimp only [aq,nq,cq]
     refine e_one 17 (zo kr rfl rfl rfl rfl rfl sz44 rfl (.t4 .nil) ?_)
     refine zM kr<|zK<|zf<|zc<|e_p (zI (z:=2) rfl rfl (w64 dd))<|e_mv rfl<|zk<|zga<|zW<|zj<|zc<|e_p (zS rfl rfl)<|zk<|zf<|zj<|zua rfl rfl<|zla<|zn<|zn<|zC<|zf ?_
     have e210:((((0:Int):Rat)+(((2:Int):Rat)*(((q.2.1:Int):Rat)*((q.2.2.1:Int):Rat))))+(((2:Int):Rat)*(((q.1:Int):Rat)*((q.2.2.2:Int):Rat))):Rat)=(yi q).2.1.1:=by rfl
     rw [e210]
     refine zba (.c (i:=2) rfl (.c (i:=0) rfl (.c (i:=1) rfl (.c (i:=1) rfl .n))))<|zO (OW:=[boxA b4 117 (cw [wm0,vm0,wm1,vm1,wm2,vm2,wz,wz,wz,wz,wz,wz,wz,wz,wz,wz,wz,wz])]) (O:=[boxA b171 44 (cw [w3208,w4209]),boxA b3 113 [yc yd (q.1),yc yd (q.2.1),yc yd (q.2.2.1),yc yd (q.2.2.2)],boxA b2 117 (cw [wz,wz,wz,wz,wz,wz,wz,wz,wz,wz,wz,wz,wz,wz,wz,wz,wz,wz])]) 5 mixed (.block (.then (.then (.block (.block (.then (.then (.block (.then .ret))))))))) kr<|e_dm 0 rfl rfl rfl<|e_dm 1 rfl rfl rfl<|e_uw 2 rfl rfl (zd 1 ty44 rfl rfl (.t4 .nil))<|e_pv 3 rfl rfl (zi (i:=1) yo sz106 rfl rfl dd rfl)<|e_pv 4 rfl rfl (zi (i:=0) yh sz44 rfl rfl dd rfl)<|e_one 5 (zo kr rfl rfl rfl rfl rfl sz44 rfl (.s8 (.s4 (.t4 .nil))) ?_)
     refine zM kr<|zK ?_
     exact zna (w3208,w4209) (show True from by first|trivial|omega|simp_all) ((.of rfl):SubM _ _) (ho:=((.of [0,1,1] rfl):PickO _ _ _)) ((.of [0,15,16,17,18,19,20,21,22,23,24,25,26,27,28] rfl):SelR _ _ _)
    ·
     rintro ⟨wm3,vm3⟩ -
     dsimp only [cw,cS]
     refine zc<|e_p (zI (z:=1) rfl rfl (w64 dd))<|e_mv rfl<|zk<|zga<|zW<|zj<|zc<|e_p (zS rfl rfl)<|zk<|zf<|zj<|zaa rfl rfl<|zB<|zf<|zIa (X:=Wd×Wd) (fun x=>True) (fun x=>[(15,yc yd 1),(5,yc yd 1),(12,yc yd 1),(4,ye (some ⟨b4,0,none⟩)),(3,ye (some ⟨b3,0,none⟩)),(2,ye (some ⟨b2,0,none⟩))]) (fun x=>[boxA b4 117 (cw [wm0,vm0,wm1,vm1,wm2,vm2,wm3,vm3,x.1,x.2,wz,wz,wz,wz,wz,wz,wz,wz]),boxA b3 113 [yc yd (q.1),yc yd (q.2.1),yc yd (q.2.2.1),yc yd (q.2.2.2)],boxA b2 117 (cw [wz,wz,wz,wz,wz,wz,wz,wz,wz,wz,wz,wz,wz,wz,wz,wz,wz,wz])]) (fun x=>[qF true x.1 x.2 ((yi q).2.1.2.1),qF true wm3 vm3 ((yi q).2.1.1),qF true wm2 vm2 ((yi q).1.2.2),qF true wm1 vm1 ((yi q).1.2.1),qF true wm0 vm0 ((yi q).1.1),atF 0 0 [.slice sp00 4 sc00,.slice sp01 2 sc01,.slice sp02 2 sc02,.slice sp10 2 sc10,.slice sp11 4 sc11,.slice sp12 2 sc12,.slice sp20 2 sc20,.slice sp21 2 sc21,.slice sp22 4 sc22],slF (rI3 .i64) sp00 sc00 (Sh.sg00),slF (rI3 .i64) sp01 sc01 (Sh.sg01),slF (rI3 .i64) sp02 sc02 (Sh.sg02),slF (rI3 .i64) sp10 sc10 (Sh.sg10),slF (rI3 .i64) sp11 sc11 (Sh.sg11),slF (rI3 .i64) sp12 sc12 (Sh.sg12),slF (rI3 .i64) sp20 sc20 (Sh.sg20),slF (rI3 .i64) sp21 sc21 (Sh.sg21),slF (rI3 .i64) sp22 sc22 (Sh.sg22),sgF]) ?_ ?_
     ·
      refine zu<|zj<|zc<|e_mv rfl<|e_p (zh rfl)<|zk<|zf<|zj<|zc<|zG rfl rfl (.c rfl .n) ce71 (zy (z:=0) (hz:=yn)) (.n) ?_
      rintro ⟨w3211,w4212⟩ -
      dsimp only [aq,nq,cq]
      refine zJ rfl rfl (zp zr44 rfl) (fun b213=> ?_)
      refine zl 0 rfl rfl rfl rfl rfl sz44 rfl (.t4 .nil) .z<|zk<|zf<|zj<|zj<|zc<|e_mv rfl<|e_mv rfl<|e_p (zi (i:=1) yq sz137 rfl rfl dd rfl)<|e_p (zi (i:=1) yr sz136 rfl rfl dd rfl)<|e_ru (zA (j:=4) 5 ty136 rfl rfl rfl rfl)<|e_p (zea yl rfl)<|e_mv rfl<|zk<|zf<|zu<|zLa<|zW<|zj<|zc<|e_p (zS rfl rfl)<|zk<|zf<|zj<|zaa rfl rfl<|zB<|zf<|zj<|zu<|zj<|zc<|zP (x0:=(Sh.sg11.getD 0 (0,0,0))) 10 0 rfl yl sz140 rfl rfl rfl cbs rfl rfl (gD (d:=(0,0,0)) (by first|omega|decide)) (fun b214 o215 hok216=> ?_)
      obtain ⟨hok216x,hok216y,hok216z⟩:=hok216
      replace hok216x:=zt.1 hok216x
      replace hok216y:=zt.1 hok216y
      replace hok216z:=zt.1 hok216z
      refine e_ru (zX (j:=0) 0 ty140 rfl rfl rfl (.t2 (.take .nil)))<|zJ rfl rfl (zp zr140 rfl) (fun b217=> ?_)
      refine zl 0 rfl rfl rfl rfl rfl sz140 rfl (.t2 (.take .nil)) .z<|zk<|zf ?_
      have e218:((Sh.sg11.getD 0 (0,0,0)).1:Int)=1:=by rfl
      rw [e218]
      have e219:((Sh.sg11.getD 0 (0,0,0)).2.1:Int)=0:=by rfl
      rw [e219]
      have e220:((Sh.sg11.getD 0 (0,0,0)).2.2:Int)=0:=by rfl
      rw [e220]
      refine zba (.c (i:=1) rfl (.c (i:=0) rfl (.c (i:=0) rfl (.c (i:=0) rfl (.c (i:=0) rfl .n)))))<|zO (OW:=[boxA b213 44 (cw [w3211,w4212])]) (O:=[boxA b217 140 [yc yd 1,yc yd 0,yc yd 0],boxA b4 117 (cw [wm0,vm0,wm1,vm1,wm2,vm2,wm3,vm3,wz,wz,wz,wz,wz,wz,wz,wz,wz,wz]),boxA b3 113 [yc yd (q.1),yc yd (q.2.1),yc yd (q.2.2.1),yc yd (q.2.2.2)],boxA b2 117 (cw [wz,wz,wz,wz,wz,wz,wz,wz,wz,wz,wz,wz,wz,wz,wz,wz,wz,wz])]) 17 mixed (.block (.then (.then (.block (.then (.block (.then (.then (.block (.block (.then (.then (.block (.then .ret)))))))))))))) kr<|e_uw 0 rfl rfl (zd 0 ty44 rfl rfl (.t4 .nil))<|e_pv 1 rfl rfl (zg yg rfl sz3 rfl rfl)<|e_uw 2 rfl rfl (ze 1 ty3 rfl rfl rfl)<|e_pv 4 rfl rfl (zg yg rfl sz3 rfl rfl)<|e_uw 5 rfl rfl (ze 1 ty3 rfl rfl rfl)<|e_pv 6 rfl rfl (zi (i:=0) yj sz3 rfl rfl dd rfl)<|e_uw 7 rfl rfl (ze 3 ty3 rfl rfl rfl)<|e_pv 9 rfl rfl (zg yg rfl sz3 rfl rfl)<|e_uw 10 rfl rfl (ze 1 ty3 rfl rfl rfl)<|e_pv 11 rfl rfl (zi (i:=0) yj sz3 rfl rfl dd rfl)<|e_uw 12 rfl rfl (ze 3 ty3 rfl rfl rfl)<|e_one 3 (zm rfl rfl rfl rfl (.c rfl .n) ce71 (zy (z:=1) (hz:=yn)) (.n) ?_)
      rintro ⟨w3221,w4222⟩ -
      dsimp only [aq,nq,cq]
      refine e_one 8 (zm rfl rfl rfl rfl (.c rfl .n) ce71 (zy (z:=q.1) (hz:=yn)) (.n) ?_)
      rintro ⟨w3223,w4224⟩ -
      dsimp only [aq,nq,cq]
      refine e_one 13 (zm rfl rfl rfl rfl (.c rfl .n) ce71 (zy (z:=q.1) (hz:=yn)) (.n) ?_)
      rintro ⟨w3225,w4226⟩ -
      dsimp only [aq,nq,cq]
      refine e_one 14 (zm rfl rfl rfl rfl (.c rfl (.c rfl .n)) ce81 (zY (k1:=true) (u1:=w3223) (v1:=w4224) (q1:=((q.1:Int):Rat)) (k2:=true) (u2:=w3225) (v2:=w4226) (q2:=((q.1:Int):Rat)) (hl:=yn)) (.c (j:=1) rfl (.c (j:=0) rfl .n)) ?_)
      rintro ⟨w3227,w4228⟩ -
      dsimp only [aq,nq,cq]
      refine e_one 15 (zm rfl rfl rfl rfl (.c rfl (.c rfl .n)) ce81 (zY (k1:=true) (u1:=w3221) (v1:=w4222) (q1:=((1:Int):Rat)) (k2:=true) (u2:=w3227) (v2:=w4228) (q2:=((q.1:Int):Rat)*((q.1:Int):Rat)) (hl:=yn)) (.c (j:=3) rfl (.c (j:=0) rfl .n)) ?_)
      rintro ⟨w3229,w4230⟩ -
      dsimp only [aq,nq,cq]
      refine e_one 16 (zm rfl rfl rfl rfl (.c rfl (.c rfl .n)) ce80 (zka (k1:=true) (u1:=w3211) (v1:=w4212) (q1:=((0:Int):Rat)) (k2:=true) (u2:=w3229) (v2:=w4230) (q2:=((1:Int):Rat)*(((q.1:Int):Rat)*((q.1:Int):Rat))) (hl:=yn)) (.c (j:=6) rfl (.c (j:=0) rfl .n)) ?_)
      rintro ⟨w3231,w4232⟩ -
      dsimp only [aq,nq,cq]
      refine e_one 17 (zo kr rfl rfl rfl rfl rfl sz44 rfl (.t4 .nil) ?_)
      refine zM kr<|zK<|zf<|zc<|e_p (zI (z:=1) rfl rfl (w64 dd))<|e_mv rfl<|zk<|zga<|zW<|zj<|zc<|e_p (zS rfl rfl)<|zk<|zf<|zj<|zaa rfl rfl<|zB<|zf<|zj<|zu<|zj<|zc<|zP (x0:=(Sh.sg11.getD 1 (0,0,0))) 17 1 rfl yl sz140 rfl rfl rfl cbs rfl rfl (gD (d:=(0,0,0)) (by first|omega|decide)) (fun b233 o234 hok235=> ?_)
      obtain ⟨hok235x,hok235y,hok235z⟩:=hok235
      replace hok235x:=zt.1 hok235x
      replace hok235y:=zt.1 hok235y
      replace hok235z:=zt.1 hok235z
      refine e_ru (zX (j:=0) 0 ty140 rfl rfl rfl (.t2 (.take .nil)))<|zJ rfl rfl (zp zr140 rfl) (fun b236=> ?_)
      refine zl 0 rfl rfl rfl rfl rfl sz140 rfl (.t2 (.take .nil)) .z<|zk<|zf ?_
      have e237:((Sh.sg11.getD 1 (0,0,0)).1:Int)=(-1):=by rfl
      rw [e237]
      have e238:((Sh.sg11.getD 1 (0,0,0)).2.1:Int)=1:=by rfl
      rw [e238]
      have e239:((Sh.sg11.getD 1 (0,0,0)).2.2:Int)=1:=by rfl
      rw [e239]
      refine zba (.c (i:=1) rfl (.c (i:=0) rfl (.c (i:=1) rfl (.c (i:=1) rfl (.c (i:=1) rfl .n)))))<|zO (OW:=[boxA b213 44 (cw [w3231,w4232])]) (O:=[boxA b236 140 [yc yd (-1),yc yd 1,yc yd 1],boxA b4 117 (cw [wm0,vm0,wm1,vm1,wm2,vm2,wm3,vm3,wz,wz,wz,wz,wz,wz,wz,wz,wz,wz]),boxA b3 113 [yc yd (q.1),yc yd (q.2.1),yc yd (q.2.2.1),yc yd (q.2.2.2)],boxA b2 117 (cw [wz,wz,wz,wz,wz,wz,wz,wz,wz,wz,wz,wz,wz,wz,wz,wz,wz,wz])]) 17 mixed (.block (.then (.then (.block (.then (.block (.then (.then (.block (.block (.then (.then (.block (.then .ret)))))))))))))) kr<|e_uw 0 rfl rfl (zd 0 ty44 rfl rfl (.t4 .nil))<|e_pv 1 rfl rfl (zg yg rfl sz3 rfl rfl)<|e_uw 2 rfl rfl (ze 1 ty3 rfl rfl rfl)<|e_pv 4 rfl rfl (zg yg rfl sz3 rfl rfl)<|e_uw 5 rfl rfl (ze 1 ty3 rfl rfl rfl)<|e_pv 6 rfl rfl (zi (i:=1) yj sz3 rfl rfl dd rfl)<|e_uw 7 rfl rfl (ze 3 ty3 rfl rfl rfl)<|e_pv 9 rfl rfl (zg yg rfl sz3 rfl rfl)<|e_uw 10 rfl rfl (ze 1 ty3 rfl rfl rfl)<|e_pv 11 rfl rfl (zi (i:=1) yj sz3 rfl rfl dd rfl)<|e_uw 12 rfl rfl (ze 3 ty3 rfl rfl rfl)<|e_one 3 (zm rfl rfl rfl rfl (.c rfl .n) ce71 (zy (z:=(-1)) (hz:=yn)) (.n) ?_)
      rintro ⟨w3240,w4241⟩ -
      dsimp only [aq,nq,cq]
      refine e_one 8 (zm rfl rfl rfl rfl (.c rfl .n) ce71 (zy (z:=q.2.1) (hz:=yn)) (.n) ?_)
      rintro ⟨w3242,w4243⟩ -
      dsimp only [aq,nq,cq]
      refine e_one 13 (zm rfl rfl rfl rfl (.c rfl .n) ce71 (zy (z:=q.2.1) (hz:=yn)) (.n) ?_)
      rintro ⟨w3244,w4245⟩ -
      dsimp only [aq,nq,cq]
      refine e_one 14 (zm rfl rfl rfl rfl (.c rfl (.c rfl .n)) ce81 (zY (k1:=true) (u1:=w3242) (v1:=w4243) (q1:=((q.2.1:Int):Rat)) (k2:=true) (u2:=w3244) (v2:=w4245) (q2:=((q.2.1:Int):Rat)) (hl:=yn)) (.c (j:=1) rfl (.c (j:=0) rfl .n)) ?_)
      rintro ⟨w3246,w4247⟩ -
      dsimp only [aq,nq,cq]
      refine e_one 15 (zm rfl rfl rfl rfl (.c rfl (.c rfl .n)) ce81 (zY (k1:=true) (u1:=w3240) (v1:=w4241) (q1:=(((-1):Int):Rat)) (k2:=true) (u2:=w3246) (v2:=w4247) (q2:=((q.2.1:Int):Rat)*((q.2.1:Int):Rat)) (hl:=yn)) (.c (j:=3) rfl (.c (j:=0) rfl .n)) ?_)
      rintro ⟨w3248,w4249⟩ -
      dsimp only [aq,nq,cq]
      refine e_one 16 (zm rfl rfl rfl rfl (.c rfl (.c rfl .n)) ce80 (zka (k1:=true) (u1:=w3231) (v1:=w4232) (q1:=((0:Int):Rat)+(((1:Int):Rat)*(((q.1:Int):Rat)*((q.1:Int):Rat)))) (k2:=true) (u2:=w3248) (v2:=w4249) (q2:=(((-1):Int):Rat)*(((q.2.1:Int):Rat)*((q.2.1:Int):Rat))) (hl:=yn)) (.c (j:=6) rfl (.c (j:=0) rfl .n)) ?_)
      rintro ⟨w3250,w4251⟩ -
      dsimp only [aq,nq,cq]
      refine e_one 17 (zo kr rfl rfl rfl rfl rfl sz44 rfl (.t4 .nil) ?_)
      refine zM kr<|zK<|zf<|zc<|e_p (zI (z:=2) rfl rfl (w64 dd))<|e_mv rfl<|zk<|zga<|zW<|zj<|zc<|e_p (zS rfl rfl)<|zk<|zf<|zj<|zaa rfl rfl<|zB<|zf<|zj<|zu<|zj<|zc<|zP (x0:=(Sh.sg11.getD 2 (0,0,0))) 24 2 rfl yl sz140 rfl rfl rfl cbs rfl rfl (gD (d:=(0,0,0)) (by first|omega|decide)) (fun b252 o253 hok254=> ?_)
      obtain ⟨hok254x,hok254y,hok254z⟩:=hok254
      replace hok254x:=zt.1 hok254x
      replace hok254y:=zt.1 hok254y
      replace hok254z:=zt.1 hok254z
      refine e_ru (zX (j:=0) 0 ty140 rfl rfl rfl (.t2 (.take .nil)))<|zJ rfl rfl (zp zr140 rfl) (fun b255=> ?_)
      refine zl 0 rfl rfl rfl rfl rfl sz140 rfl (.t2 (.take .nil)) .z<|zk<|zf ?_
      have e256:((Sh.sg11.getD 2 (0,0,0)).1:Int)=1:=by rfl
      rw [e256]
      have e257:((Sh.sg11.getD 2 (0,0,0)).2.1:Int)=2:=by rfl
      rw [e257]
      have e258:((Sh.sg11.getD 2 (0,0,0)).2.2:Int)=2:=by rfl
      rw [e258]
      refine zba (.c (i:=1) rfl (.c (i:=0) rfl (.c (i:=1) rfl (.c (i:=1) rfl (.c (i:=1) rfl .n)))))<|zO (OW:=[boxA b213 44 (cw [w3250,w4251])]) (O:=[boxA b255 140 [yc yd 1,yc yd 2,yc yd 2],boxA b4 117 (cw [wm0,vm0,wm1,vm1,wm2,vm2,wm3,vm3,wz,wz,wz,wz,wz,wz,wz,wz,wz,wz]),boxA b3 113 [yc yd (q.1),yc yd (q.2.1),yc yd (q.2.2.1),yc yd (q.2.2.2)],boxA b2 117 (cw [wz,wz,wz,wz,wz,wz,wz,wz,wz,wz,wz,wz,wz,wz,wz,wz,wz,wz])]) 17 mixed (.block (.then (.then (.block (.then (.block (.then (.then (.block (.block (.then (.then (.block (.then .ret)))))))))))))) kr<|e_uw 0 rfl rfl (zd 0 ty44 rfl rfl (.t4 .nil))<|e_pv 1 rfl rfl (zg yg rfl sz3 rfl rfl)<|e_uw 2 rfl rfl (ze 1 ty3 rfl rfl rfl)<|e_pv 4 rfl rfl (zg yg rfl sz3 rfl rfl)<|e_uw 5 rfl rfl (ze 1 ty3 rfl rfl rfl)<|e_pv 6 rfl rfl (zi (i:=2) yj sz3 rfl rfl dd rfl)<|e_uw 7 rfl rfl (ze 3 ty3 rfl rfl rfl)<|e_pv 9 rfl rfl (zg yg rfl sz3 rfl rfl)<|e_uw 10 rfl rfl (ze 1 ty3 rfl rfl rfl)<|e_pv 11 rfl rfl (zi (i:=2) yj sz3 rfl rfl dd rfl)<|e_uw 12 rfl rfl (ze 3 ty3 rfl rfl rfl)<|e_one 3 (zm rfl rfl rfl rfl (.c rfl .n) ce71 (zy (z:=1) (hz:=yn)) (.n) ?_)
      rintro ⟨w3259,w4260⟩ -
      dsimp only [aq,nq,cq]
      refine e_one 8 (zm rfl rfl rfl rfl (.c rfl .n) ce71 (zy (z:=q.2.2.1) (hz:=yn)) (.n) ?_)
      rintro ⟨w3261,w4262⟩ -
      dsimp only [aq,nq,cq]
      refine e_one 13 (zm rfl rfl rfl rfl (.c rfl .n) ce71 (zy (z:=q.2.2.1) (hz:=yn)) (.n) ?_)
      rintro ⟨w3263,w4264⟩ -
      dsimp only [aq,nq,cq]
      refine e_one 14 (zm rfl rfl rfl rfl (.c rfl (.c rfl .n)) ce81 (zY (k1:=true) (u1:=w3261) (v1:=w4262) (q1:=((q.2.2.1:Int):Rat)) (k2:=true) (u2:=w3263) (v2:=w4264) (q2:=((q.2.2.1:Int):Rat)) (hl:=yn)) (.c (j:=1) rfl (.c (j:=0) rfl .n)) ?_)
      rintro ⟨w3265,w4266⟩ -
      dsimp only [aq,nq,cq]
      refine e_one 15 (zm rfl rfl rfl rfl (.c rfl (.c rfl .n)) ce81 (zY (k1:=true) (u1:=w3259) (v1:=w4260) (q1:=((1:Int):Rat)) (k2:=true) (u2:=w3265) (v2:=w4266) (q2:=((q.2.2.1:Int):Rat)*((q.2.2.1:Int):Rat)) (hl:=yn)) (.c (j:=3) rfl (.c (j:=0) rfl .n)) ?_)
      rintro ⟨w3267,w4268⟩ -
      dsimp only [aq,nq,cq]
      refine e_one 16 (zm rfl rfl rfl rfl (.c rfl (.c rfl .n)) ce80 (zka (k1:=true) (u1:=w3250) (v1:=w4251) (q1:=(((0:Int):Rat)+(((1:Int):Rat)*(((q.1:Int):Rat)*((q.1:Int):Rat))))+((((-1):Int):Rat)*(((q.2.1:Int):Rat)*((q.2.1:Int):Rat)))) (k2:=true) (u2:=w3267) (v2:=w4268) (q2:=((1:Int):Rat)*(((q.2.2.1:Int):Rat)*((q.2.2.1:Int):Rat))) (hl:=yn)) (.c (j:=6) rfl (.c (j:=0) rfl .n)) ?_)
      rintro ⟨w3269,w4270⟩ -
      dsimp only [aq,nq,cq]
      refine e_one 17 (zo kr rfl rfl rfl rfl rfl sz44 rfl (.t4 .nil) ?_)
      refine zM kr<|zK<|zf<|zc<|e_p (zI (z:=3) rfl rfl (w64 dd))<|e_mv rfl<|zk<|zga<|zW<|zj<|zc<|e_p (zS rfl rfl)<|zk<|zf<|zj<|zaa rfl rfl<|zB<|zf<|zj<|zu<|zj<|zc<|zP (x0:=(Sh.sg11.getD 3 (0,0,0))) 31 3 rfl yl sz140 rfl rfl rfl cbs rfl rfl (gD (d:=(0,0,0)) (by first|omega|decide)) (fun b271 o272 hok273=> ?_)
      obtain ⟨hok273x,hok273y,hok273z⟩:=hok273
      replace hok273x:=zt.1 hok273x
      replace hok273y:=zt.1 hok273y
      replace hok273z:=zt.1 hok273z
      refine e_ru (zX (j:=0) 0 ty140 rfl rfl rfl (.t2 (.take .nil)))<|zJ rfl rfl (zp zr140 rfl) (fun b274=> ?_)
      refine zl 0 rfl rfl rfl rfl rfl sz140 rfl (.t2 (.take .nil)) .z<|zk<|zf ?_
      have e275:((Sh.sg11.getD 3 (0,0,0)).1:Int)=(-1):=by rfl
      rw [e275]
      have e276:((Sh.sg11.getD 3 (0,0,0)).2.1:Int)=3:=by rfl
      rw [e276]
      have e277:((Sh.sg11.getD 3 (0,0,0)).2.2:Int)=3:=by rfl
      rw [e277]
      refine zba (.c (i:=1) rfl (.c (i:=0) rfl (.c (i:=1) rfl (.c (i:=1) rfl (.c (i:=1) rfl .n)))))<|zO (OW:=[boxA b213 44 (cw [w3269,w4270])]) (O:=[boxA b274 140 [yc yd (-1),yc yd 3,yc yd 3],boxA b4 117 (cw [wm0,vm0,wm1,vm1,wm2,vm2,wm3,vm3,wz,wz,wz,wz,wz,wz,wz,wz,wz,wz]),boxA b3 113 [yc yd (q.1),yc yd (q.2.1),yc yd (q.2.2.1),yc yd (q.2.2.2)],boxA b2 117 (cw [wz,wz,wz,wz,wz,wz,wz,wz,wz,wz,wz,wz,wz,wz,wz,wz,wz,wz])]) 17 mixed (.block (.then (.then (.block (.then (.block (.then (.then (.block (.block (.then (.then (.block (.then .ret)))))))))))))) kr<|e_uw 0 rfl rfl (zd 0 ty44 rfl rfl (.t4 .nil))<|e_pv 1 rfl rfl (zg yg rfl sz3 rfl rfl)<|e_uw 2 rfl rfl (ze 1 ty3 rfl rfl rfl)<|e_pv 4 rfl rfl (zg yg rfl sz3 rfl rfl)<|e_uw 5 rfl rfl (ze 1 ty3 rfl rfl rfl)<|e_pv 6 rfl rfl (zi (i:=3) yj sz3 rfl rfl dd rfl)<|e_uw 7 rfl rfl (ze 3 ty3 rfl rfl rfl)<|e_pv 9 rfl rfl (zg yg rfl sz3 rfl rfl)<|e_uw 10 rfl rfl (ze 1 ty3 rfl rfl rfl)<|e_pv 11 rfl rfl (zi (i:=3) yj sz3 rfl rfl dd rfl)<|e_uw 12 rfl rfl (ze 3 ty3 rfl rfl rfl)<|e_one 3 (zm rfl rfl rfl rfl (.c rfl .n) ce71 (zy (z:=(-1)) (hz:=yn)) (.n) ?_)
      rintro ⟨w3278,w4279⟩ -
      dsimp only [aq,nq,cq]
      refine e_one 8 (zm rfl rfl rfl rfl (.c rfl .n) ce71 (zy (z:=q.2.2.2) (hz:=yn)) (.n) ?_)
      rintro ⟨w3280,w4281⟩ -
      dsimp only [aq,nq,cq]
      refine e_one 13 (zm rfl rfl rfl rfl (.c rfl .n) ce71 (zy (z:=q.2.2.2) (hz:=yn)) (.n) ?_)
      rintro ⟨w3282,w4283⟩ -
      dsimp only [aq,nq,cq]
      refine e_one 14 (zm rfl rfl rfl rfl (.c rfl (.c rfl .n)) ce81 (zY (k1:=true) (u1:=w3280) (v1:=w4281) (q1:=((q.2.2.2:Int):Rat)) (k2:=true) (u2:=w3282) (v2:=w4283) (q2:=((q.2.2.2:Int):Rat)) (hl:=yn)) (.c (j:=1) rfl (.c (j:=0) rfl .n)) ?_)
      rintro ⟨w3284,w4285⟩ -
      dsimp only [aq,nq,cq]
      refine e_one 15 (zm rfl rfl rfl rfl (.c rfl (.c rfl .n)) ce81 (zY (k1:=true) (u1:=w3278) (v1:=w4279) (q1:=(((-1):Int):Rat)) (k2:=true) (u2:=w3284) (v2:=w4285) (q2:=((q.2.2.2:Int):Rat)*((q.2.2.2:Int):Rat)) (hl:=yn)) (.c (j:=3) rfl (.c (j:=0) rfl .n)) ?_)
      rintro ⟨w3286,w4287⟩ -
      dsimp only [aq,nq,cq]
      refine e_one 16 (zm rfl rfl rfl rfl (.c rfl (.c rfl .n)) ce80 (zka (k1:=true) (u1:=w3269) (v1:=w4270) (q1:=((((0:Int):Rat)+(((1:Int):Rat)*(((q.1:Int):Rat)*((q.1:Int):Rat))))+((((-1):Int):Rat)*(((q.2.1:Int):Rat)*((q.2.1:Int):Rat))))+(((1:Int):Rat)*(((q.2.2.1:Int):Rat)*((q.2.2.1:Int):Rat)))) (k2:=true) (u2:=w3286) (v2:=w4287) (q2:=(((-1):Int):Rat)*(((q.2.2.2:Int):Rat)*((q.2.2.2:Int):Rat))) (hl:=yn)) (.c (j:=6) rfl (.c (j:=0) rfl .n)) ?_)
      rintro ⟨w3288,w4289⟩ -
      dsimp only [aq,nq,cq]
      refine e_one 17 (zo kr rfl rfl rfl rfl rfl sz44 rfl (.t4 .nil) ?_)
      refine zM kr<|zK<|zf<|zc<|e_p (zI (z:=4) rfl rfl (w64 dd))<|e_mv rfl<|zk<|zga<|zW<|zj<|zc<|e_p (zS rfl rfl)<|zk<|zf<|zj<|zua rfl rfl<|zla<|zn<|zn<|zC<|zf ?_
      have e290:((((((0:Int):Rat)+(((1:Int):Rat)*(((q.1:Int):Rat)*((q.1:Int):Rat))))+((((-1):Int):Rat)*(((q.2.1:Int):Rat)*((q.2.1:Int):Rat))))+(((1:Int):Rat)*(((q.2.2.1:Int):Rat)*((q.2.2.1:Int):Rat))))+((((-1):Int):Rat)*(((q.2.2.2:Int):Rat)*((q.2.2.2:Int):Rat))):Rat)=(yi q).2.1.2.1:=by rfl
      rw [e290]
      refine zba (.c (i:=2) rfl (.c (i:=0) rfl (.c (i:=1) rfl (.c (i:=1) rfl .n))))<|zO (OW:=[boxA b4 117 (cw [wm0,vm0,wm1,vm1,wm2,vm2,wm3,vm3,wz,wz,wz,wz,wz,wz,wz,wz,wz,wz])]) (O:=[boxA b213 44 (cw [w3288,w4289]),boxA b3 113 [yc yd (q.1),yc yd (q.2.1),yc yd (q.2.2.1),yc yd (q.2.2.2)],boxA b2 117 (cw [wz,wz,wz,wz,wz,wz,wz,wz,wz,wz,wz,wz,wz,wz,wz,wz,wz,wz])]) 5 mixed (.block (.then (.then (.block (.block (.then (.then (.block (.then .ret))))))))) kr<|e_dm 0 rfl rfl rfl<|e_dm 1 rfl rfl rfl<|e_uw 2 rfl rfl (zd 1 ty44 rfl rfl (.t4 .nil))<|e_pv 3 rfl rfl (zi (i:=1) yo sz106 rfl rfl dd rfl)<|e_pv 4 rfl rfl (zi (i:=1) yh sz44 rfl rfl dd rfl)<|e_one 5 (zo kr rfl rfl rfl rfl rfl sz44 rfl (.s8 (.s8 (.t4 .nil))) ?_)
      refine zM kr<|zK ?_
      exact zna (w3288,w4289) (show True from by first|trivial|omega|simp_all) ((.of rfl):SubM _ _) (ho:=((.of [0,1,1] rfl):PickO _ _ _)) ((.of [0,29,30,31,32,33,34,35,36,37,38,39,40,41,42,43] rfl):SelR _ _ _)
     ·
      rintro ⟨wm4,vm4⟩ -
      dsimp only [cw,cS]
      refine zc<|e_p (zI (z:=2) rfl rfl (w64 dd))<|e_mv rfl<|zk<|zga<|zW<|zj<|zc<|e_p (zS rfl rfl)<|zk<|zf<|zj<|zaa rfl rfl<|zB<|zf<|zIa (X:=Wd×Wd) (fun x=>True) (fun x=>[(15,yc yd 2),(5,yc yd 1),(12,yc yd 1),(4,ye (some ⟨b4,0,none⟩)),(3,ye (some ⟨b3,0,none⟩)),(2,ye (some ⟨b2,0,none⟩))]) (fun x=>[boxA b4 117 (cw [wm0,vm0,wm1,vm1,wm2,vm2,wm3,vm3,wm4,vm4,x.1,x.2,wz,wz,wz,wz,wz,wz]),boxA b3 113 [yc yd (q.1),yc yd (q.2.1),yc yd (q.2.2.1),yc yd (q.2.2.2)],boxA b2 117 (cw [wz,wz,wz,wz,wz,wz,wz,wz,wz,wz,wz,wz,wz,wz,wz,wz,wz,wz])]) (fun x=>[qF true x.1 x.2 ((yi q).2.1.2.2),qF true wm4 vm4 ((yi q).2.1.2.1),qF true wm3 vm3 ((yi q).2.1.1),qF true wm2 vm2 ((yi q).1.2.2),qF true wm1 vm1 ((yi q).1.2.1),qF true wm0 vm0 ((yi q).1.1),atF 0 0 [.slice sp00 4 sc00,.slice sp01 2 sc01,.slice sp02 2 sc02,.slice sp10 2 sc10,.slice sp11 4 sc11,.slice sp12 2 sc12,.slice sp20 2 sc20,.slice sp21 2 sc21,.slice sp22 4 sc22],slF (rI3 .i64) sp00 sc00 (Sh.sg00),slF (rI3 .i64) sp01 sc01 (Sh.sg01),slF (rI3 .i64) sp02 sc02 (Sh.sg02),slF (rI3 .i64) sp10 sc10 (Sh.sg10),slF (rI3 .i64) sp11 sc11 (Sh.sg11),slF (rI3 .i64) sp12 sc12 (Sh.sg12),slF (rI3 .i64) sp20 sc20 (Sh.sg20),slF (rI3 .i64) sp21 sc21 (Sh.sg21),slF (rI3 .i64) sp22 sc22 (Sh.sg22),sgF]) ?_ ?_
      ·
       refine zu<|zj<|zc<|e_mv rfl<|e_p (zh rfl)<|zk<|zf<|zj<|zc<|zG rfl rfl (.c rfl .n) ce71 (zy (z:=0) (hz:=yn)) (.n) ?_
       rintro ⟨w3291,w4292⟩ -
       dsimp only [aq,nq,cq]
       refine zJ rfl rfl (zp zr44 rfl) (fun b293=> ?_)
       refine zl 0 rfl rfl rfl rfl rfl sz44 rfl (.t4 .nil) .z<|zk<|zf<|zj<|zj<|zc<|e_mv rfl<|e_mv rfl<|e_p (zi (i:=1) yq sz137 rfl rfl dd rfl)<|e_p (zi (i:=2) yr sz136 rfl rfl dd rfl)<|e_ru (zA (j:=5) 6 ty136 rfl rfl rfl rfl)<|e_p (zea yl rfl)<|e_mv rfl<|zk<|zf<|zu<|zLa<|zW<|zj<|zc<|e_p (zS rfl rfl)<|zk<|zf<|zj<|zaa rfl rfl<|zB<|zf<|zj<|zu<|zj<|zc<|zP (x0:=(Sh.sg12.getD 0 (0,0,0))) 12 0 rfl yl sz140 rfl rfl rfl cbs rfl rfl (gD (d:=(0,0,0)) (by first|omega|decide)) (fun b294 o295 hok296=> ?_)
       obtain ⟨hok296x,hok296y,hok296z⟩:=hok296
       replace hok296x:=zt.1 hok296x
       replace hok296y:=zt.1 hok296y
       replace hok296z:=zt.1 hok296z
       refine e_ru (zX (j:=0) 0 ty140 rfl rfl rfl (.t2 (.take .nil)))<|zJ rfl rfl (zp zr140 rfl) (fun b297=> ?_)
       refine zl 0 rfl rfl rfl rfl rfl sz140 rfl (.t2 (.take .nil)) .z<|zk<|zf ?_
       have e298:((Sh.sg12.getD 0 (0,0,0)).1:Int)=2:=by rfl
       rw [e298]
       have e299:((Sh.sg12.getD 0 (0,0,0)).2.1:Int)=2:=by rfl
       rw [e299]
       have e300:((Sh.sg12.getD 0 (0,0,0)).2.2:Int)=3:=by rfl
       rw [e300]
       refine zba (.c (i:=1) rfl (.c (i:=0) rfl (.c (i:=0) rfl (.c (i:=0) rfl (.c (i:=0) rfl .n)))))<|zO (OW:=[boxA b293 44 (cw [w3291,w4292])]) (O:=[boxA b297 140 [yc yd 2,yc yd 2,yc yd 3],boxA b4 117 (cw [wm0,vm0,wm1,vm1,wm2,vm2,wm3,vm3,wm4,vm4,wz,wz,wz,wz,wz,wz,wz,wz]),boxA b3 113 [yc yd (q.1),yc yd (q.2.1),yc yd (q.2.2.1),yc yd (q.2.2.2)],boxA b2 117 (cw [wz,wz,wz,wz,wz,wz,wz,wz,wz,wz,wz,wz,wz,wz,wz,wz,wz,wz])]) 17 mixed (.block (.then (.then (.block (.then (.block (.then (.then (.block (.block (.then (.then (.block (.then .ret)))))))))))))) kr<|e_uw 0 rfl rfl (zd 0 ty44 rfl rfl (.t4 .nil))<|e_pv 1 rfl rfl (zg yg rfl sz3 rfl rfl)<|e_uw 2 rfl rfl (ze 1 ty3 rfl rfl rfl)<|e_pv 4 rfl rfl (zg yg rfl sz3 rfl rfl)<|e_uw 5 rfl rfl (ze 1 ty3 rfl rfl rfl)<|e_pv 6 rfl rfl (zi (i:=2) yj sz3 rfl rfl dd rfl)<|e_uw 7 rfl rfl (ze 3 ty3 rfl rfl rfl)<|e_pv 9 rfl rfl (zg yg rfl sz3 rfl rfl)<|e_uw 10 rfl rfl (ze 1 ty3 rfl rfl rfl)<|e_pv 11 rfl rfl (zi (i:=3) yj sz3 rfl rfl dd rfl)<|e_uw 12 rfl rfl (ze 3 ty3 rfl rfl rfl)<|e_one 3 (zm rfl rfl rfl rfl (.c rfl .n) ce71 (zy (z:=2) (hz:=yn)) (.n) ?_)
       rintro ⟨w3301,w4302⟩ -
       dsimp only [aq,nq,cq]
       refine e_one 8 (zm rfl rfl rfl rfl (.c rfl .n) ce71 (zy (z:=q.2.2.1) (hz:=yn)) (.n) ?_)
       rintro ⟨w3303,w4304⟩ -
       dsimp only [aq,nq,cq]
       refine e_one 13 (zm rfl rfl rfl rfl (.c rfl .n) ce71 (zy (z:=q.2.2.2) (hz:=yn)) (.n) ?_)
       rintro ⟨w3305,w4306⟩ -
       dsimp only [aq,nq,cq]
       refine e_one 14 (zm rfl rfl rfl rfl (.c rfl (.c rfl .n)) ce81 (zY (k1:=true) (u1:=w3303) (v1:=w4304) (q1:=((q.2.2.1:Int):Rat)) (k2:=true) (u2:=w3305) (v2:=w4306) (q2:=((q.2.2.2:Int):Rat)) (hl:=yn)) (.c (j:=1) rfl (.c (j:=0) rfl .n)) ?_)
       rintro ⟨w3307,w4308⟩ -
       dsimp only [aq,nq,cq]
       refine e_one 15 (zm rfl rfl rfl rfl (.c rfl (.c rfl .n)) ce81 (zY (k1:=true) (u1:=w3301) (v1:=w4302) (q1:=((2:Int):Rat)) (k2:=true) (u2:=w3307) (v2:=w4308) (q2:=((q.2.2.1:Int):Rat)*((q.2.2.2:Int):Rat)) (hl:=yn)) (.c (j:=3) rfl (.c (j:=0) rfl .n)) ?_)
       rintro ⟨w3309,w4310⟩ -
       dsimp only [aq,nq,cq]
       refine e_one 16 (zm rfl rfl rfl rfl (.c rfl (.c rfl .n)) ce80 (zka (k1:=true) (u1:=w3291) (v1:=w4292) (q1:=((0:Int):Rat)) (k2:=true) (u2:=w3309) (v2:=w4310) (q2:=((2:Int):Rat)*(((q.2.2.1:Int):Rat)*((q.2.2.2:Int):Rat))) (hl:=yn)) (.c (j:=6) rfl (.c (j:=0) rfl .n)) ?_)
       rintro ⟨w3311,w4312⟩ -
       dsimp only [aq,nq,cq]
       refine e_one 17 (zo kr rfl rfl rfl rfl rfl sz44 rfl (.t4 .nil) ?_)
       refine zM kr<|zK<|zf<|zc<|e_p (zI (z:=1) rfl rfl (w64 dd))<|e_mv rfl<|zk<|zga<|zW<|zj<|zc<|e_p (zS rfl rfl)<|zk<|zf<|zj<|zaa rfl rfl<|zB<|zf<|zj<|zu<|zj<|zc<|zP (x0:=(Sh.sg12.getD 1 (0,0,0))) 19 1 rfl yl sz140 rfl rfl rfl cbs rfl rfl (gD (d:=(0,0,0)) (by first|omega|decide)) (fun b313 o314 hok315=> ?_)
       obtain ⟨hok315x,hok315y,hok315z⟩:=hok315
       replace hok315x:=zt.1 hok315x
       replace hok315y:=zt.1 hok315y
       replace hok315z:=zt.1 hok315z
       refine e_ru (zX (j:=0) 0 ty140 rfl rfl rfl (.t2 (.take .nil)))<|zJ rfl rfl (zp zr140 rfl) (fun b316=> ?_)
       refine zl 0 rfl rfl rfl rfl rfl sz140 rfl (.t2 (.take .nil)) .z<|zk<|zf ?_
       have e317:((Sh.sg12.getD 1 (0,0,0)).1:Int)=(-2):=by rfl
       rw [e317]
       have e318:((Sh.sg12.getD 1 (0,0,0)).2.1:Int)=0:=by rfl
       rw [e318]
       have e319:((Sh.sg12.getD 1 (0,0,0)).2.2:Int)=1:=by rfl
       rw [e319]
       refine zba (.c (i:=1) rfl (.c (i:=0) rfl (.c (i:=1) rfl (.c (i:=1) rfl (.c (i:=1) rfl .n)))))<|zO (OW:=[boxA b293 44 (cw [w3311,w4312])]) (O:=[boxA b316 140 [yc yd (-2),yc yd 0,yc yd 1],boxA b4 117 (cw [wm0,vm0,wm1,vm1,wm2,vm2,wm3,vm3,wm4,vm4,wz,wz,wz,wz,wz,wz,wz,wz]),boxA b3 113 [yc yd (q.1),yc yd (q.2.1),yc yd (q.2.2.1),yc yd (q.2.2.2)],boxA b2 117 (cw [wz,wz,wz,wz,wz,wz,wz,wz,wz,wz,wz,wz,wz,wz,wz,wz,wz,wz])]) 17 mixed (.block (.then (.then (.block (.then (.block (.then (.then (.block (.block (.then (.then (.block (.then .ret)))))))))))))) kr<|e_uw 0 rfl rfl (zd 0 ty44 rfl rfl (.t4 .nil))<|e_pv 1 rfl rfl (zg yg rfl sz3 rfl rfl)<|e_uw 2 rfl rfl (ze 1 ty3 rfl rfl rfl)<|e_pv 4 rfl rfl (zg yg rfl sz3 rfl rfl)<|e_uw 5 rfl rfl (ze 1 ty3 rfl rfl rfl)<|e_pv 6 rfl rfl (zi (i:=0) yj sz3 rfl rfl dd rfl)<|e_uw 7 rfl rfl (ze 3 ty3 rfl rfl rfl)<|e_pv 9 rfl rfl (zg yg rfl sz3 rfl rfl)<|e_uw 10 rfl rfl (ze 1 ty3 rfl rfl rfl)<|e_pv 11 rfl rfl (zi (i:=1) yj sz3 rfl rfl dd rfl)<|e_uw 12 rfl rfl (ze 3 ty3 rfl rfl rfl)<|e_one 3 (zm rfl rfl rfl rfl (.c rfl .n) ce71 (zy (z:=(-2)) (hz:=yn)) (.n) ?_)
       rintro ⟨w3320,w4321⟩ -
       dsimp only [aq,nq,cq]
       refine e_one 8 (zm rfl rfl rfl rfl (.c rfl .n) ce71 (zy (z:=q.1) (hz:=yn)) (.n) ?_)
       rintro ⟨w3322,w4323⟩ -
       dsimp only [aq,nq,cq]
       refine e_one 13 (zm rfl rfl rfl rfl (.c rfl .n) ce71 (zy (z:=q.2.1) (hz:=yn)) (.n) ?_)
       rintro ⟨w3324,w4325⟩ -
       dsimp only [aq,nq,cq]
       refine e_one 14 (zm rfl rfl rfl rfl (.c rfl (.c rfl .n)) ce81 (zY (k1:=true) (u1:=w3322) (v1:=w4323) (q1:=((q.1:Int):Rat)) (k2:=true) (u2:=w3324) (v2:=w4325) (q2:=((q.2.1:Int):Rat)) (hl:=yn)) (.c (j:=1) rfl (.c (j:=0) rfl .n)) ?_)
       rintro ⟨w3326,w4327⟩ -
       dsimp only [aq,nq,cq]
       refine e_one 15 (zm rfl rfl rfl rfl (.c rfl (.c rfl .n)) ce81 (zY (k1:=true) (u1:=w3320) (v1:=w4321) (q1:=(((-2):Int):Rat)) (k2:=true) (u2:=w3326) (v2:=w4327) (q2:=((q.1:Int):Rat)*((q.2.1:Int):Rat)) (hl:=yn)) (.c (j:=3) rfl (.c (j:=0) rfl .n)) ?_)
       rintro ⟨w3328,w4329⟩ -
       dsimp only [aq,nq,cq]
       refine e_one 16 (zm rfl rfl rfl rfl (.c rfl (.c rfl .n)) ce80 (zka (k1:=true) (u1:=w3311) (v1:=w4312) (q1:=((0:Int):Rat)+(((2:Int):Rat)*(((q.2.2.1:Int):Rat)*((q.2.2.2:Int):Rat)))) (k2:=true) (u2:=w3328) (v2:=w4329) (q2:=(((-2):Int):Rat)*(((q.1:Int):Rat)*((q.2.1:Int):Rat))) (hl:=yn)) (.c (j:=6) rfl (.c (j:=0) rfl .n)) ?_)
       rintro ⟨w3330,w4331⟩ -
       dsimp only [aq,nq,cq]
       refine e_one 17 (zo kr rfl rfl rfl rfl rfl sz44 rfl (.t4 .nil) ?_)
       refine zM kr<|zK<|zf<|zc<|e_p (zI (z:=2) rfl rfl (w64 dd))<|e_mv rfl<|zk<|zga<|zW<|zj<|zc<|e_p (zS rfl rfl)<|zk<|zf<|zj<|zua rfl rfl<|zla<|zn<|zn<|zC<|zf ?_
       have e332:((((0:Int):Rat)+(((2:Int):Rat)*(((q.2.2.1:Int):Rat)*((q.2.2.2:Int):Rat))))+((((-2):Int):Rat)*(((q.1:Int):Rat)*((q.2.1:Int):Rat))):Rat)=(yi q).2.1.2.2:=by rfl
       rw [e332]
       refine zba (.c (i:=2) rfl (.c (i:=0) rfl (.c (i:=1) rfl (.c (i:=1) rfl .n))))<|zO (OW:=[boxA b4 117 (cw [wm0,vm0,wm1,vm1,wm2,vm2,wm3,vm3,wm4,vm4,wz,wz,wz,wz,wz,wz,wz,wz])]) (O:=[boxA b293 44 (cw [w3330,w4331]),boxA b3 113 [yc yd (q.1),yc yd (q.2.1),yc yd (q.2.2.1),yc yd (q.2.2.2)],boxA b2 117 (cw [wz,wz,wz,wz,wz,wz,wz,wz,wz,wz,wz,wz,wz,wz,wz,wz,wz,wz])]) 5 mixed (.block (.then (.then (.block (.block (.then (.then (.block (.then .ret))))))))) kr<|e_dm 0 rfl rfl rfl<|e_dm 1 rfl rfl rfl<|e_uw 2 rfl rfl (zd 1 ty44 rfl rfl (.t4 .nil))<|e_pv 3 rfl rfl (zi (i:=1) yo sz106 rfl rfl dd rfl)<|e_pv 4 rfl rfl (zi (i:=2) yh sz44 rfl rfl dd rfl)<|e_one 5 (zo kr rfl rfl rfl rfl rfl sz44 rfl (.s8 (.s8 (.s4 (.t4 .nil)))) ?_)
       refine zM kr<|zK ?_
       exact zna (w3330,w4331) (show True from by first|trivial|omega|simp_all) ((.of rfl):SubM _ _) (ho:=((.of [0,1,1] rfl):PickO _ _ _)) ((.of [0,15,16,17,18,19,20,21,22,23,24,25,26,27,28,29,30] rfl):SelR _ _ _)
      ·
       rintro ⟨wm5,vm5⟩ -
       dsimp only [cw,cS]
       refine zc<|e_p (zI (z:=3) rfl rfl (w64 dd))<|e_mv rfl<|zk<|zga<|zW<|zj<|zc<|e_p (zS rfl rfl)<|zk<|zf<|zj<|zua rfl rfl<|zla<|zn<|zn<|zC<|zK<|zf<|zc<|e_p (zI (z:=2) rfl rfl (w64 dd))<|e_mv rfl<|zk<|zga<|zW<|zj<|zc<|e_p (zS rfl rfl)<|zk<|zf<|zj<|zaa rfl rfl<|zB<|zf<|zj<|zu<|zj<|zc<|e_mv rfl<|e_p (zh rfl)<|zk<|zf<|zj<|zc<|e_mv rfl<|zk<|zf<|zu<|zLa<|zW<|zj<|zc<|e_p (zS rfl rfl)<|zk<|zf<|zj<|zaa rfl rfl<|zB<|zf<|zIa (X:=Wd×Wd) (fun x=>True) (fun x=>[(15,yc yd 0),(5,yc yd 2),(12,yc yd 2),(4,ye (some ⟨b4,0,none⟩)),(3,ye (some ⟨b3,0,none⟩)),(2,ye (some ⟨b2,0,none⟩))]) (fun x=>[boxA b4 117 (cw [wm0,vm0,wm1,vm1,wm2,vm2,wm3,vm3,wm4,vm4,wm5,vm5,x.1,x.2,wz,wz,wz,wz]),boxA b3 113 [yc yd (q.1),yc yd (q.2.1),yc yd (q.2.2.1),yc yd (q.2.2.2)],boxA b2 117 (cw [wz,wz,wz,wz,wz,wz,wz,wz,wz,wz,wz,wz,wz,wz,wz,wz,wz,wz])]) (fun x=>[qF true x.1 x.2 ((yi q).2.2.1),qF true wm5 vm5 ((yi q).2.1.2.2),qF true wm4 vm4 ((yi q).2.1.2.1),qF true wm3 vm3 ((yi q).2.1.1),qF true wm2 vm2 ((yi q).1.2.2),qF true wm1 vm1 ((yi q).1.2.1),qF true wm0 vm0 ((yi q).1.1),atF 0 0 [.slice sp00 4 sc00,.slice sp01 2 sc01,.slice sp02 2 sc02,.slice sp10 2 sc10,.slice sp11 4 sc11,.slice sp12 2 sc12,.slice sp20 2 sc20,.slice sp21 2 sc21,.slice sp22 4 sc22],slF (rI3 .i64) sp00 sc00 (Sh.sg00),slF (rI3 .i64) sp01 sc01 (Sh.sg01),slF (rI3 .i64) sp02 sc02 (Sh.sg02),slF (rI3 .i64) sp10 sc10 (Sh.sg10),slF (rI3 .i64) sp11 sc11 (Sh.sg11),slF (rI3 .i64) sp12 sc12 (Sh.sg12),slF (rI3 .i64) sp20 sc20 (Sh.sg20),slF (rI3 .i64) sp21 sc21 (Sh.sg21),slF (rI3 .i64) sp22 sc22 (Sh.sg22),sgF]) ?_ ?_
       ·
        refine zu<|zj<|zc<|e_mv rfl<|e_p (zh rfl)<|zk<|zf<|zj<|zc<|zG rfl rfl (.c rfl .n) ce71 (zy (z:=0) (hz:=yn)) (.n) ?_
        rintro ⟨w3333,w4334⟩ -
        dsimp only [aq,nq,cq]
        refine zJ rfl rfl (zp zr44 rfl) (fun b335=> ?_)
        refine zl 0 rfl rfl rfl rfl rfl sz44 rfl (.t4 .nil) .z<|zk<|zf<|zj<|zj<|zc<|e_mv rfl<|e_mv rfl<|e_p (zi (i:=2) yq sz137 rfl rfl dd rfl)<|e_p (zi (i:=0) yr sz136 rfl rfl dd rfl)<|e_ru (zA (j:=6) 7 ty136 rfl rfl rfl rfl)<|e_p (zea yl rfl)<|e_mv rfl<|zk<|zf<|zu<|zLa<|zW<|zj<|zc<|e_p (zS rfl rfl)<|zk<|zf<|zj<|zaa rfl rfl<|zB<|zf<|zj<|zu<|zj<|zc<|zP (x0:=(Sh.sg20.getD 0 (0,0,0))) 14 0 rfl yl sz140 rfl rfl rfl cbs rfl rfl (gD (d:=(0,0,0)) (by first|omega|decide)) (fun b336 o337 hok338=> ?_)
        obtain ⟨hok338x,hok338y,hok338z⟩:=hok338
        replace hok338x:=zt.1 hok338x
        replace hok338y:=zt.1 hok338y
        replace hok338z:=zt.1 hok338z
        refine e_ru (zX (j:=0) 0 ty140 rfl rfl rfl (.t2 (.take .nil)))<|zJ rfl rfl (zp zr140 rfl) (fun b339=> ?_)
        refine zl 0 rfl rfl rfl rfl rfl sz140 rfl (.t2 (.take .nil)) .z<|zk<|zf ?_
        have e340:((Sh.sg20.getD 0 (0,0,0)).1:Int)=2:=by rfl
        rw [e340]
        have e341:((Sh.sg20.getD 0 (0,0,0)).2.1:Int)=1:=by rfl
        rw [e341]
        have e342:((Sh.sg20.getD 0 (0,0,0)).2.2:Int)=3:=by rfl
        rw [e342]
        refine zba (.c (i:=1) rfl (.c (i:=0) rfl (.c (i:=0) rfl (.c (i:=0) rfl (.c (i:=0) rfl .n)))))<|zO (OW:=[boxA b335 44 (cw [w3333,w4334])]) (O:=[boxA b339 140 [yc yd 2,yc yd 1,yc yd 3],boxA b4 117 (cw [wm0,vm0,wm1,vm1,wm2,vm2,wm3,vm3,wm4,vm4,wm5,vm5,wz,wz,wz,wz,wz,wz]),boxA b3 113 [yc yd (q.1),yc yd (q.2.1),yc yd (q.2.2.1),yc yd (q.2.2.2)],boxA b2 117 (cw [wz,wz,wz,wz,wz,wz,wz,wz,wz,wz,wz,wz,wz,wz,wz,wz,wz,wz])]) 17 mixed (.block (.then (.then (.block (.then (.block (.then (.then (.block (.block (.then (.then (.block (.then .ret)))))))))))))) kr<|e_uw 0 rfl rfl (zd 0 ty44 rfl rfl (.t4 .nil))<|e_pv 1 rfl rfl (zg yg rfl sz3 rfl rfl)<|e_uw 2 rfl rfl (ze 1 ty3 rfl rfl rfl)<|e_pv 4 rfl rfl (zg yg rfl sz3 rfl rfl)<|e_uw 5 rfl rfl (ze 1 ty3 rfl rfl rfl)<|e_pv 6 rfl rfl (zi (i:=1) yj sz3 rfl rfl dd rfl)<|e_uw 7 rfl rfl (ze 3 ty3 rfl rfl rfl)<|e_pv 9 rfl rfl (zg yg rfl sz3 rfl rfl)<|e_uw 10 rfl rfl (ze 1 ty3 rfl rfl rfl)<|e_pv 11 rfl rfl (zi (i:=3) yj sz3 rfl rfl dd rfl)<|e_uw 12 rfl rfl (ze 3 ty3 rfl rfl rfl)<|e_one 3 (zm rfl rfl rfl rfl (.c rfl .n) ce71 (zy (z:=2) (hz:=yn)) (.n) ?_)
        rintro ⟨w3343,w4344⟩ -
        dsimp only [aq,nq,cq]
        refine e_one 8 (zm rfl rfl rfl rfl (.c rfl .n) ce71 (zy (z:=q.2.1) (hz:=yn)) (.n) ?_)
        rintro ⟨w3345,w4346⟩ -
        dsimp only [aq,nq,cq]
        refine e_one 13 (zm rfl rfl rfl rfl (.c rfl .n) ce71 (zy (z:=q.2.2.2) (hz:=yn)) (.n) ?_)
        rintro ⟨w3347,w4348⟩ -
        dsimp only [aq,nq,cq]
        refine e_one 14 (zm rfl rfl rfl rfl (.c rfl (.c rfl .n)) ce81 (zY (k1:=true) (u1:=w3345) (v1:=w4346) (q1:=((q.2.1:Int):Rat)) (k2:=true) (u2:=w3347) (v2:=w4348) (q2:=((q.2.2.2:Int):Rat)) (hl:=yn)) (.c (j:=1) rfl (.c (j:=0) rfl .n)) ?_)
        rintro ⟨w3349,w4350⟩ -
        dsimp only [aq,nq,cq]
        refine e_one 15 (zm rfl rfl rfl rfl (.c rfl (.c rfl .n)) ce81 (zY (k1:=true) (u1:=w3343) (v1:=w4344) (q1:=((2:Int):Rat)) (k2:=true) (u2:=w3349) (v2:=w4350) (q2:=((q.2.1:Int):Rat)*((q.2.2.2:Int):Rat)) (hl:=yn)) (.c (j:=3) rfl (.c (j:=0) rfl .n)) ?_)
        rintro ⟨w3351,w4352⟩ -
        dsimp only [aq,nq,cq]
        refine e_one 16 (zm rfl rfl rfl rfl (.c rfl (.c rfl .n)) ce80 (zka (k1:=true) (u1:=w3333) (v1:=w4334) (q1:=((0:Int):Rat)) (k2:=true) (u2:=w3351) (v2:=w4352) (q2:=((2:Int):Rat)*(((q.2.1:Int):Rat)*((q.2.2.2:Int):Rat))) (hl:=yn)) (.c (j:=6) rfl (.c (j:=0) rfl .n)) ?_)
        rintro ⟨w3353,w4354⟩ -
        dsimp only [aq,nq,cq]
        refine e_one 17 (zo kr rfl rfl rfl rfl rfl sz44 rfl (.t4 .nil) ?_)
        refine zM kr<|zK<|zf<|zc<|e_p (zI (z:=1) rfl rfl (w64 dd))<|e_mv rfl<|zk<|zga<|zW<|zj<|zc<|e_p (zS rfl rfl)<|zk<|zf<|zj<|zaa rfl rfl<|zB<|zf<|zj<|zu<|zj<|zc<|zP (x0:=(Sh.sg20.getD 1 (0,0,0))) 21 1 rfl yl sz140 rfl rfl rfl cbs rfl rfl (gD (d:=(0,0,0)) (by first|omega|decide)) (fun b355 o356 hok357=> ?_)
        obtain ⟨hok357x,hok357y,hok357z⟩:=hok357
        replace hok357x:=zt.1 hok357x
        replace hok357y:=zt.1 hok357y
        replace hok357z:=zt.1 hok357z
        refine e_ru (zX (j:=0) 0 ty140 rfl rfl rfl (.t2 (.take .nil)))<|zJ rfl rfl (zp zr140 rfl) (fun b358=> ?_)
        refine zl 0 rfl rfl rfl rfl rfl sz140 rfl (.t2 (.take .nil)) .z<|zk<|zf ?_
        have e359:((Sh.sg20.getD 1 (0,0,0)).1:Int)=(-2):=by rfl
        rw [e359]
        have e360:((Sh.sg20.getD 1 (0,0,0)).2.1:Int)=0:=by rfl
        rw [e360]
        have e361:((Sh.sg20.getD 1 (0,0,0)).2.2:Int)=2:=by rfl
        rw [e361]
        refine zba (.c (i:=1) rfl (.c (i:=0) rfl (.c (i:=1) rfl (.c (i:=1) rfl (.c (i:=1) rfl .n)))))<|zO (OW:=[boxA b335 44 (cw [w3353,w4354])]) (O:=[boxA b358 140 [yc yd (-2),yc yd 0,yc yd 2],boxA b4 117 (cw [wm0,vm0,wm1,vm1,wm2,vm2,wm3,vm3,wm4,vm4,wm5,vm5,wz,wz,wz,wz,wz,wz]),boxA b3 113 [yc yd (q.1),yc yd (q.2.1),yc yd (q.2.2.1),yc yd (q.2.2.2)],boxA b2 117 (cw [wz,wz,wz,wz,wz,wz,wz,wz,wz,wz,wz,wz,wz,wz,wz,wz,wz,wz])]) 17 mixed (.block (.then (.then (.block (.then (.block (.then (.then (.block (.block (.then (.then (.block (.then .ret)))))))))))))) kr<|e_uw 0 rfl rfl (zd 0 ty44 rfl rfl (.t4 .nil))<|e_pv 1 rfl rfl (zg yg rfl sz3 rfl rfl)<|e_uw 2 rfl rfl (ze 1 ty3 rfl rfl rfl)<|e_pv 4 rfl rfl (zg yg rfl sz3 rfl rfl)<|e_uw 5 rfl rfl (ze 1 ty3 rfl rfl rfl)<|e_pv 6 rfl rfl (zi (i:=0) yj sz3 rfl rfl dd rfl)<|e_uw 7 rfl rfl (ze 3 ty3 rfl rfl rfl)<|e_pv 9 rfl rfl (zg yg rfl sz3 rfl rfl)<|e_uw 10 rfl rfl (ze 1 ty3 rfl rfl rfl)<|e_pv 11 rfl rfl (zi (i:=2) yj sz3 rfl rfl dd rfl)<|e_uw 12 rfl rfl (ze 3 ty3 rfl rfl rfl)<|e_one 3 (zm rfl rfl rfl rfl (.c rfl .n) ce71 (zy (z:=(-2)) (hz:=yn)) (.n) ?_)
        rintro ⟨w3362,w4363⟩ -
        dsimp only [aq,nq,cq]
        refine e_one 8 (zm rfl rfl rfl rfl (.c rfl .n) ce71 (zy (z:=q.1) (hz:=yn)) (.n) ?_)
        rintro ⟨w3364,w4365⟩ -
        dsimp only [aq,nq,cq]
        refine e_one 13 (zm rfl rfl rfl rfl (.c rfl .n) ce71 (zy (z:=q.2.2.1) (hz:=yn)) (.n) ?_)
        rintro ⟨w3366,w4367⟩ -
        dsimp only [aq,nq,cq]
        refine e_one 14 (zm rfl rfl rfl rfl (.c rfl (.c rfl .n)) ce81 (zY (k1:=true) (u1:=w3364) (v1:=w4365) (q1:=((q.1:Int):Rat)) (k2:=true) (u2:=w3366) (v2:=w4367) (q2:=((q.2.2.1:Int):Rat)) (hl:=yn)) (.c (j:=1) rfl (.c (j:=0) rfl .n)) ?_)
        rintro ⟨w3368,w4369⟩ -
        dsimp only [aq,nq,cq]
        refine e_one 15 (zm rfl rfl rfl rfl (.c rfl (.c rfl .n)) ce81 (zY (k1:=true) (u1:=w3362) (v1:=w4363) (q1:=(((-2):Int):Rat)) (k2:=true) (u2:=w3368) (v2:=w4369) (q2:=((q.1:Int):Rat)*((q.2.2.1:Int):Rat)) (hl:=yn)) (.c (j:=3) rfl (.c (j:=0) rfl .n)) ?_)
        rintro ⟨w3370,w4371⟩ -
        dsimp only [aq,nq,cq]
        refine e_one 16 (zm rfl rfl rfl rfl (.c rfl (.c rfl .n)) ce80 (zka (k1:=true) (u1:=w3353) (v1:=w4354) (q1:=((0:Int):Rat)+(((2:Int):Rat)*(((q.2.1:Int):Rat)*((q.2.2.2:Int):Rat)))) (k2:=true) (u2:=w3370) (v2:=w4371) (q2:=(((-2):Int):Rat)*(((q.1:Int):Rat)*((q.2.2.1:Int):Rat))) (hl:=yn)) (.c (j:=6) rfl (.c (j:=0) rfl .n)) ?_)
        rintro ⟨w3372,w4373⟩ -
        dsimp only [aq,nq,cq]
        refine e_one 17 (zo kr rfl rfl rfl rfl rfl sz44 rfl (.t4 .nil) ?_)
        refine zM kr<|zK<|zf<|zc<|e_p (zI (z:=2) rfl rfl (w64 dd))<|e_mv rfl<|zk<|zga<|zW<|zj<|zc<|e_p (zS rfl rfl)<|zk<|zf<|zj<|zua rfl rfl<|zla<|zn<|zn<|zC<|zf ?_
        have e374:((((0:Int):Rat)+(((2:Int):Rat)*(((q.2.1:Int):Rat)*((q.2.2.2:Int):Rat))))+((((-2):Int):Rat)*(((q.1:Int):Rat)*((q.2.2.1:Int):Rat))):Rat)=(yi q).2.2.1:=by rfl
        rw [e374]
        refine zba (.c (i:=2) rfl (.c (i:=0) rfl (.c (i:=1) rfl (.c (i:=1) rfl .n))))<|zO (OW:=[boxA b4 117 (cw [wm0,vm0,wm1,vm1,wm2,vm2,wm3,vm3,wm4,vm4,wm5,vm5,wz,wz,wz,wz,wz,wz])]) (O:=[boxA b335 44 (cw [w3372,w4373]),boxA b3 113 [yc yd (q.1),yc yd (q.2.1),yc yd (q.2.2.1),yc yd (q.2.2.2)],boxA b2 117 (cw [wz,wz,wz,wz,wz,wz,wz,wz,wz,wz,wz,wz,wz,wz,wz,wz,wz,wz])]) 5 mixed (.block (.then (.then (.block (.block (.then (.then (.block (.then .ret))))))))) kr<|e_dm 0 rfl rfl rfl<|e_dm 1 rfl rfl rfl<|e_uw 2 rfl rfl (zd 1 ty44 rfl rfl (.t4 .nil))<|e_pv 3 rfl rfl (zi (i:=2) yo sz106 rfl rfl dd rfl)<|e_pv 4 rfl rfl (zi (i:=0) yh sz44 rfl rfl dd rfl)<|e_one 5 (zo kr rfl rfl rfl rfl rfl sz44 rfl (.s8 (.s8 (.s8 (.t4 .nil)))) ?_)
        refine zM kr<|zK ?_
        exact zna (w3372,w4373) (show True from by first|trivial|omega|simp_all) ((.of rfl):SubM _ _) (ho:=((.of [0,1,1] rfl):PickO _ _ _)) ((.of [0,15,16,17,18,19,20,21,22,23,24,25,26,27,28,29,30,31] rfl):SelR _ _ _)
       ·
        rintro ⟨wm6,vm6⟩ -
        dsimp only [cw,cS]
        refine zc<|e_p (zI (z:=1) rfl rfl (w64 dd))<|e_mv rfl<|zk<|zga<|zW<|zj<|zc<|e_p (zS rfl rfl)<|zk<|zf<|zj<|zaa rfl rfl<|zB<|zf<|zIa (X:=Wd×Wd) (fun x=>True) (fun x=>[(15,yc yd 1),(5,yc yd 2),(12,yc yd 2),(4,ye (some ⟨b4,0,none⟩)),(3,ye (some ⟨b3,0,none⟩)),(2,ye (some ⟨b2,0,none⟩))]) (fun x=>[boxA b4 117 (cw [wm0,vm0,wm1,vm1,wm2,vm2,wm3,vm3,wm4,vm4,wm5,vm5,wm6,vm6,x.1,x.2,wz,wz]),boxA b3 113 [yc yd (q.1),yc yd (q.2.1),yc yd (q.2.2.1),yc yd (q.2.2.2)],boxA b2 117 (cw [wz,wz,wz,wz,wz,wz,wz,wz,wz,wz,wz,wz,wz,wz,wz,wz,wz,wz])]) (fun x=>[qF true x.1 x.2 ((yi q).2.2.2.1),qF true wm6 vm6 ((yi q).2.2.1),qF true wm5 vm5 ((yi q).2.1.2.2),qF true wm4 vm4 ((yi q).2.1.2.1),qF true wm3 vm3 ((yi q).2.1.1),qF true wm2 vm2 ((yi q).1.2.2),qF true wm1 vm1 ((yi q).1.2.1),qF true wm0 vm0 ((yi q).1.1),atF 0 0 [.slice sp00 4 sc00,.slice sp01 2 sc01,.slice sp02 2 sc02,.slice sp10 2 sc10,.slice sp11 4 sc11,.slice sp12 2 sc12,.slice sp20 2 sc20,.slice sp21 2 sc21,.slice sp22 4 sc22],slF (rI3 .i64) sp00 sc00 (Sh.sg00),slF (rI3 .i64) sp01 sc01 (Sh.sg01),slF (rI3 .i64) sp02 sc02 (Sh.sg02),slF (rI3 .i64) sp10 sc10 (Sh.sg10),slF (rI3 .i64) sp11 sc11 (Sh.sg11),slF (rI3 .i64) sp12 sc12 (Sh.sg12),slF (rI3 .i64) sp20 sc20 (Sh.sg20),slF (rI3 .i64) sp21 sc21 (Sh.sg21),slF (rI3 .i64) sp22 sc22 (Sh.sg22),sgF]) ?_ ?_
        ·
         refine zu<|zj<|zc<|e_mv rfl<|e_p (zh rfl)<|zk<|zf<|zj<|zc<|zG rfl rfl (.c rfl .n) ce71 (zy (z:=0) (hz:=yn)) (.n) ?_
         rintro ⟨w3375,w4376⟩ -
         dsimp only [aq,nq,cq]
         refine zJ rfl rfl (zp zr44 rfl) (fun b377=> ?_)
         refine zl 0 rfl rfl rfl rfl rfl sz44 rfl (.t4 .nil) .z<|zk<|zf<|zj<|zj<|zc<|e_mv rfl<|e_mv rfl<|e_p (zi (i:=2) yq sz137 rfl rfl dd rfl)<|e_p (zi (i:=1) yr sz136 rfl rfl dd rfl)<|e_ru (zA (j:=7) 8 ty136 rfl rfl rfl rfl)<|e_p (zea yl rfl)<|e_mv rfl<|zk<|zf<|zu<|zLa<|zW<|zj<|zc<|e_p (zS rfl rfl)<|zk<|zf<|zj<|zaa rfl rfl<|zB<|zf<|zj<|zu<|zj<|zc<|zP (x0:=(Sh.sg21.getD 0 (0,0,0))) 16 0 rfl yl sz140 rfl rfl rfl cbs rfl rfl (gD (d:=(0,0,0)) (by first|omega|decide)) (fun b378 o379 hok380=> ?_)
         obtain ⟨hok380x,hok380y,hok380z⟩:=hok380
         replace hok380x:=zt.1 hok380x
         replace hok380y:=zt.1 hok380y
         replace hok380z:=zt.1 hok380z
         refine e_ru (zX (j:=0) 0 ty140 rfl rfl rfl (.t2 (.take .nil)))<|zJ rfl rfl (zp zr140 rfl) (fun b381=> ?_)
         refine zl 0 rfl rfl rfl rfl rfl sz140 rfl (.t2 (.take .nil)) .z<|zk<|zf ?_
         have e382:((Sh.sg21.getD 0 (0,0,0)).1:Int)=2:=by rfl
         rw [e382]
         have e383:((Sh.sg21.getD 0 (0,0,0)).2.1:Int)=2:=by rfl
         rw [e383]
         have e384:((Sh.sg21.getD 0 (0,0,0)).2.2:Int)=3:=by rfl
         rw [e384]
         refine zba (.c (i:=1) rfl (.c (i:=0) rfl (.c (i:=0) rfl (.c (i:=0) rfl (.c (i:=0) rfl .n)))))<|zO (OW:=[boxA b377 44 (cw [w3375,w4376])]) (O:=[boxA b381 140 [yc yd 2,yc yd 2,yc yd 3],boxA b4 117 (cw [wm0,vm0,wm1,vm1,wm2,vm2,wm3,vm3,wm4,vm4,wm5,vm5,wm6,vm6,wz,wz,wz,wz]),boxA b3 113 [yc yd (q.1),yc yd (q.2.1),yc yd (q.2.2.1),yc yd (q.2.2.2)],boxA b2 117 (cw [wz,wz,wz,wz,wz,wz,wz,wz,wz,wz,wz,wz,wz,wz,wz,wz,wz,wz])]) 17 mixed (.block (.then (.then (.block (.then (.block (.then (.then (.block (.block (.then (.then (.block (.then .ret)))))))))))))) kr<|e_uw 0 rfl rfl (zd 0 ty44 rfl rfl (.t4 .nil))<|e_pv 1 rfl rfl (zg yg rfl sz3 rfl rfl)<|e_uw 2 rfl rfl (ze 1 ty3 rfl rfl rfl)<|e_pv 4 rfl rfl (zg yg rfl sz3 rfl rfl)<|e_uw 5 rfl rfl (ze 1 ty3 rfl rfl rfl)<|e_pv 6 rfl rfl (zi (i:=2) yj sz3 rfl rfl dd rfl)<|e_uw 7 rfl rfl (ze 3 ty3 rfl rfl rfl)<|e_pv 9 rfl rfl (zg yg rfl sz3 rfl rfl)<|e_uw 10 rfl rfl (ze 1 ty3 rfl rfl rfl)<|e_pv 11 rfl rfl (zi (i:=3) yj sz3 rfl rfl dd rfl)<|e_uw 12 rfl rfl (ze 3 ty3 rfl rfl rfl)<|e_one 3 (zm rfl rfl rfl rfl (.c rfl .n) ce71 (zy (z:=2) (hz:=yn)) (.n) ?_)
         rintro ⟨w3385,w4386⟩ -
         dsimp only [aq,nq,cq]
         refine e_one 8 (zm rfl rfl rfl rfl (.c rfl .n) ce71 (zy (z:=q.2.2.1) (hz:=yn)) (.n) ?_)
         rintro ⟨w3387,w4388⟩ -
         dsimp only [aq,nq,cq]
         refine e_one 13 (zm rfl rfl rfl rfl (.c rfl .n) ce71 (zy (z:=q.2.2.2) (hz:=yn)) (.n) ?_)
         rintro ⟨w3389,w4390⟩ -
         dsimp only [aq,nq,cq]
         refine e_one 14 (zm rfl rfl rfl rfl (.c rfl (.c rfl .n)) ce81 (zY (k1:=true) (u1:=w3387) (v1:=w4388) (q1:=((q.2.2.1:Int):Rat)) (k2:=true) (u2:=w3389) (v2:=w4390) (q2:=((q.2.2.2:Int):Rat)) (hl:=yn)) (.c (j:=1) rfl (.c (j:=0) rfl .n)) ?_)
         rintro ⟨w3391,w4392⟩ -
         dsimp only [aq,nq,cq]
         refine e_one 15 (zm rfl rfl rfl rfl (.c rfl (.c rfl .n)) ce81 (zY (k1:=true) (u1:=w3385) (v1:=w4386) (q1:=((2:Int):Rat)) (k2:=true) (u2:=w3391) (v2:=w4392) (q2:=((q.2.2.1:Int):Rat)*((q.2.2.2:Int):Rat)) (hl:=yn)) (.c (j:=3) rfl (.c (j:=0) rfl .n)) ?_)
         rintro ⟨w3393,w4394⟩ -
         dsimp only [aq,nq,cq]
         refine e_one 16 (zm rfl rfl rfl rfl (.c rfl (.c rfl .n)) ce80 (zka (k1:=true) (u1:=w3375) (v1:=w4376) (q1:=((0:Int):Rat)) (k2:=true) (u2:=w3393) (v2:=w4394) (q2:=((2:Int):Rat)*(((q.2.2.1:Int):Rat)*((q.2.2.2:Int):Rat))) (hl:=yn)) (.c (j:=6) rfl (.c (j:=0) rfl .n)) ?_)
         rintro ⟨w3395,w4396⟩ -
         dsimp only [aq,nq,cq]
         refine e_one 17 (zo kr rfl rfl rfl rfl rfl sz44 rfl (.t4 .nil) ?_)
         refine zM kr<|zK<|zf<|zc<|e_p (zI (z:=1) rfl rfl (w64 dd))<|e_mv rfl<|zk<|zga<|zW<|zj<|zc<|e_p (zS rfl rfl)<|zk<|zf<|zj<|zaa rfl rfl<|zB<|zf<|zj<|zu<|zj<|zc<|zP (x0:=(Sh.sg21.getD 1 (0,0,0))) 23 1 rfl yl sz140 rfl rfl rfl cbs rfl rfl (gD (d:=(0,0,0)) (by first|omega|decide)) (fun b397 o398 hok399=> ?_)
         obtain ⟨hok399x,hok399y,hok399z⟩:=hok399
         replace hok399x:=zt.1 hok399x
         replace hok399y:=zt.1 hok399y
         replace hok399z:=zt.1 hok399z
         refine e_ru (zX (j:=0) 0 ty140 rfl rfl rfl (.t2 (.take .nil)))<|zJ rfl rfl (zp zr140 rfl) (fun b400=> ?_)
         refine zl 0 rfl rfl rfl rfl rfl sz140 rfl (.t2 (.take .nil)) .z<|zk<|zf ?_
         have e401:((Sh.sg21.getD 1 (0,0,0)).1:Int)=2:=by rfl
         rw [e401]
         have e402:((Sh.sg21.getD 1 (0,0,0)).2.1:Int)=0:=by rfl
         rw [e402]
         have e403:((Sh.sg21.getD 1 (0,0,0)).2.2:Int)=1:=by rfl
         rw [e403]
         refine zba (.c (i:=1) rfl (.c (i:=0) rfl (.c (i:=1) rfl (.c (i:=1) rfl (.c (i:=1) rfl .n)))))<|zO (OW:=[boxA b377 44 (cw [w3395,w4396])]) (O:=[boxA b400 140 [yc yd 2,yc yd 0,yc yd 1],boxA b4 117 (cw [wm0,vm0,wm1,vm1,wm2,vm2,wm3,vm3,wm4,vm4,wm5,vm5,wm6,vm6,wz,wz,wz,wz]),boxA b3 113 [yc yd (q.1),yc yd (q.2.1),yc yd (q.2.2.1),yc yd (q.2.2.2)],boxA b2 117 (cw [wz,wz,wz,wz,wz,wz,wz,wz,wz,wz,wz,wz,wz,wz,wz,wz,wz,wz])]) 17 mixed (.block (.then (.then (.block (.then (.block (.then (.then (.block (.block (.then (.then (.block (.then .ret)))))))))))))) kr<|e_uw 0 rfl rfl (zd 0 ty44 rfl rfl (.t4 .nil))<|e_pv 1 rfl rfl (zg yg rfl sz3 rfl rfl)<|e_uw 2 rfl rfl (ze 1 ty3 rfl rfl rfl)<|e_pv 4 rfl rfl (zg yg rfl sz3 rfl rfl)<|e_uw 5 rfl rfl (ze 1 ty3 rfl rfl rfl)<|e_pv 6 rfl rfl (zi (i:=0) yj sz3 rfl rfl dd rfl)<|e_uw 7 rfl rfl (ze 3 ty3 rfl rfl rfl)<|e_pv 9 rfl rfl (zg yg rfl sz3 rfl rfl)<|e_uw 10 rfl rfl (ze 1 ty3 rfl rfl rfl)<|e_pv 11 rfl rfl (zi (i:=1) yj sz3 rfl rfl dd rfl)<|e_uw 12 rfl rfl (ze 3 ty3 rfl rfl rfl)<|e_one 3 (zm rfl rfl rfl rfl (.c rfl .n) ce71 (zy (z:=2) (hz:=yn)) (.n) ?_)
         rintro ⟨w3404,w4405⟩ -
         dsimp only [aq,nq,cq]
         refine e_one 8 (zm rfl rfl rfl rfl (.c rfl .n) ce71 (zy (z:=q.1) (hz:=yn)) (.n) ?_)
         rintro ⟨w3406,w4407⟩ -
         dsimp only [aq,nq,cq]
         refine e_one 13 (zm rfl rfl rfl rfl (.c rfl .n) ce71 (zy (z:=q.2.1) (hz:=yn)) (.n) ?_)
         rintro ⟨w3408,w4409⟩ -
         dsimp only [aq,nq,cq]
         refine e_one 14 (zm rfl rfl rfl rfl (.c rfl (.c rfl .n)) ce81 (zY (k1:=true) (u1:=w3406) (v1:=w4407) (q1:=((q.1:Int):Rat)) (k2:=true) (u2:=w3408) (v2:=w4409) (q2:=((q.2.1:Int):Rat)) (hl:=yn)) (.c (j:=1) rfl (.c (j:=0) rfl .n)) ?_)
         rintro ⟨w3410,w4411⟩ -
         dsimp only [aq,nq,cq]
         refine e_one 15 (zm rfl rfl rfl rfl (.c rfl (.c rfl .n)) ce81 (zY (k1:=true) (u1:=w3404) (v1:=w4405) (q1:=((2:Int):Rat)) (k2:=true) (u2:=w3410) (v2:=w4411) (q2:=((q.1:Int):Rat)*((q.2.1:Int):Rat)) (hl:=yn)) (.c (j:=3) rfl (.c (j:=0) rfl .n)) ?_)
         rintro ⟨w3412,w4413⟩ -
         dsimp only [aq,nq,cq]
         refine e_one 16 (zm rfl rfl rfl rfl (.c rfl (.c rfl .n)) ce80 (zka (k1:=true) (u1:=w3395) (v1:=w4396) (q1:=((0:Int):Rat)+(((2:Int):Rat)*(((q.2.2.1:Int):Rat)*((q.2.2.2:Int):Rat)))) (k2:=true) (u2:=w3412) (v2:=w4413) (q2:=((2:Int):Rat)*(((q.1:Int):Rat)*((q.2.1:Int):Rat))) (hl:=yn)) (.c (j:=6) rfl (.c (j:=0) rfl .n)) ?_)
         rintro ⟨w3414,w4415⟩ -
         dsimp only [aq,nq,cq]
         refine e_one 17 (zo kr rfl rfl rfl rfl rfl sz44 rfl (.t4 .nil) ?_)
         refine zM kr<|zK<|zf<|zc<|e_p (zI (z:=2) rfl rfl (w64 dd))<|e_mv rfl<|zk<|zga<|zW<|zj<|zc<|e_p (zS rfl rfl)<|zk<|zf<|zj<|zua rfl rfl<|zla<|zn<|zn<|zC<|zf ?_
         have e416:((((0:Int):Rat)+(((2:Int):Rat)*(((q.2.2.1:Int):Rat)*((q.2.2.2:Int):Rat))))+(((2:Int):Rat)*(((q.1:Int):Rat)*((q.2.1:Int):Rat))):Rat)=(yi q).2.2.2.1:=by rfl
         rw [e416]
         refine zba (.c (i:=2) rfl (.c (i:=0) rfl (.c (i:=1) rfl (.c (i:=1) rfl .n))))<|zO (OW:=[boxA b4 117 (cw [wm0,vm0,wm1,vm1,wm2,vm2,wm3,vm3,wm4,vm4,wm5,vm5,wm6,vm6,wz,wz,wz,wz])]) (O:=[boxA b377 44 (cw [w3414,w4415]),boxA b3 113 [yc yd (q.1),yc yd (q.2.1),yc yd (q.2.2.1),yc yd (q.2.2.2)],boxA b2 117 (cw [wz,wz,wz,wz,wz,wz,wz,wz,wz,wz,wz,wz,wz,wz,wz,wz,wz,wz])]) 5 mixed (.block (.then (.then (.block (.block (.then (.then (.block (.then .ret))))))))) kr<|e_dm 0 rfl rfl rfl<|e_dm 1 rfl rfl rfl<|e_uw 2 rfl rfl (zd 1 ty44 rfl rfl (.t4 .nil))<|e_pv 3 rfl rfl (zi (i:=2) yo sz106 rfl rfl dd rfl)<|e_pv 4 rfl rfl (zi (i:=1) yh sz44 rfl rfl dd rfl)<|e_one 5 (zo kr rfl rfl rfl rfl rfl sz44 rfl (.s8 (.s8 (.s8 (.s4 (.t4 .nil))))) ?_)
         refine zM kr<|zK ?_
         exact zna (w3414,w4415) (show True from by first|trivial|omega|simp_all) ((.of rfl):SubM _ _) (ho:=((.of [0,1,1] rfl):PickO _ _ _)) ((.of [0,15,16,17,18,19,20,21,22,23,24,25,26,27,28,29,30,31,32] rfl):SelR _ _ _)
        ·
         rintro ⟨wm7,vm7⟩ -
         dsimp only [cw,cS]
         refine zc<|e_p (zI (z:=2) rfl rfl (w64 dd))<|e_mv rfl<|zk<|zga<|zW<|zj<|zc<|e_p (zS rfl rfl)<|zk<|zf<|zj<|zaa rfl rfl<|zB<|zf<|zIa (X:=Wd×Wd) (fun x=>True) (fun x=>[(15,yc yd 2),(5,yc yd 2),(12,yc yd 2),(4,ye (some ⟨b4,0,none⟩)),(3,ye (some ⟨b3,0,none⟩)),(2,ye (some ⟨b2,0,none⟩))]) (fun x=>[boxA b4 117 (cw [wm0,vm0,wm1,vm1,wm2,vm2,wm3,vm3,wm4,vm4,wm5,vm5,wm6,vm6,wm7,vm7,x.1,x.2]),boxA b3 113 [yc yd (q.1),yc yd (q.2.1),yc yd (q.2.2.1),yc yd (q.2.2.2)],boxA b2 117 (cw [wz,wz,wz,wz,wz,wz,wz,wz,wz,wz,wz,wz,wz,wz,wz,wz,wz,wz])]) (fun x=>[qF true x.1 x.2 ((yi q).2.2.2.2),qF true wm7 vm7 ((yi q).2.2.2.1),qF true wm6 vm6 ((yi q).2.2.1),qF true wm5 vm5 ((yi q).2.1.2.2),qF true wm4 vm4 ((yi q).2.1.2.1),qF true wm3 vm3 ((yi q).2.1.1),qF true wm2 vm2 ((yi q).1.2.2),qF true wm1 vm1 ((yi q).1.2.1),qF true wm0 vm0 ((yi q).1.1),atF 0 0 [.slice sp00 4 sc00,.slice sp01 2 sc01,.slice sp02 2 sc02,.slice sp10 2 sc10,.slice sp11 4 sc11,.slice sp12 2 sc12,.slice sp20 2 sc20,.slice sp21 2 sc21,.slice sp22 4 sc22],slF (rI3 .i64) sp00 sc00 (Sh.sg00),slF (rI3 .i64) sp01 sc01 (Sh.sg01),slF (rI3 .i64) sp02 sc02 (Sh.sg02),slF (rI3 .i64) sp10 sc10 (Sh.sg10),slF (rI3 .i64) sp11 sc11 (Sh.sg11),slF (rI3 .i64) sp12 sc12 (Sh.sg12),slF (rI3 .i64) sp20 sc20 (Sh.sg20),slF (rI3 .i64) sp21 sc21 (Sh.sg21),slF (rI3 .i64) sp22 sc22 (Sh.sg22),sgF]) ?_ ?_
         ·
          refine zu<|zj<|zc<|e_mv rfl<|e_p (zh rfl)<|zk<|zf<|zj<|zc<|zG rfl rfl (.c rfl .n) ce71 (zy (z:=0) (hz:=yn)) (.n) ?_
          rintro ⟨w3417,w4418⟩ -
          dsimp only [aq,nq,cq]
          refine zJ rfl rfl (zp zr44 rfl) (fun b419=> ?_)
          refine zl 0 rfl rfl rfl rfl rfl sz44 rfl (.t4 .nil) .z<|zk<|zf<|zj<|zj<|zc<|e_mv rfl<|e_mv rfl<|e_p (zi (i:=2) yq sz137 rfl rfl dd rfl)<|e_p (zi (i:=2) yr sz136 rfl rfl dd rfl)<|e_ru (zA (j:=8) 9 ty136 rfl rfl rfl rfl)<|e_p (zea yl rfl)<|e_mv rfl<|zk<|zf<|zu<|zLa<|zW<|zj<|zc<|e_p (zS rfl rfl)<|zk<|zf<|zj<|zaa rfl rfl<|zB<|zf<|zj<|zu<|zj<|zc<|zP (x0:=(Sh.sg22.getD 0 (0,0,0))) 18 0 rfl yl sz140 rfl rfl rfl cbs rfl rfl (gD (d:=(0,0,0)) (by first|omega|decide)) (fun b420 o421 hok422=> ?_)
          obtain ⟨hok422x,hok422y,hok422z⟩:=hok422
          replace hok422x:=zt.1 hok422x
          replace hok422y:=zt.1 hok422y
          replace hok422z:=zt.1 hok422z
          refine e_ru (zX (j:=0) 0 ty140 rfl rfl rfl (.t2 (.take .nil)))<|zJ rfl rfl (zp zr140 rfl) (fun b423=> ?_)
          refine zl 0 rfl rfl rfl rfl rfl sz140 rfl (.t2 (.take .nil)) .z<|zk<|zf ?_
          have e424:((Sh.sg22.getD 0 (0,0,0)).1:Int)=1:=by rfl
          rw [e424]
          have e425:((Sh.sg22.getD 0 (0,0,0)).2.1:Int)=0:=by rfl
          rw [e425]
          have e426:((Sh.sg22.getD 0 (0,0,0)).2.2:Int)=0:=by rfl
          rw [e426]
          refine zba (.c (i:=1) rfl (.c (i:=0) rfl (.c (i:=0) rfl (.c (i:=0) rfl (.c (i:=0) rfl .n)))))<|zO (OW:=[boxA b419 44 (cw [w3417,w4418])]) (O:=[boxA b423 140 [yc yd 1,yc yd 0,yc yd 0],boxA b4 117 (cw [wm0,vm0,wm1,vm1,wm2,vm2,wm3,vm3,wm4,vm4,wm5,vm5,wm6,vm6,wm7,vm7,wz,wz]),boxA b3 113 [yc yd (q.1),yc yd (q.2.1),yc yd (q.2.2.1),yc yd (q.2.2.2)],boxA b2 117 (cw [wz,wz,wz,wz,wz,wz,wz,wz,wz,wz,wz,wz,wz,wz,wz,wz,wz,wz])]) 17 mixed (.block (.then (.then (.block (.then (.block (.then (.then (.block (.block (.then (.then (.block (.then .ret)))))))))))))) kr<|e_uw 0 rfl rfl (zd 0 ty44 rfl rfl (.t4 .nil))<|e_pv 1 rfl rfl (zg yg rfl sz3 rfl rfl)<|e_uw 2 rfl rfl (ze 1 ty3 rfl rfl rfl)<|e_pv 4 rfl rfl (zg yg rfl sz3 rfl rfl)<|e_uw 5 rfl rfl (ze 1 ty3 rfl rfl rfl)<|e_pv 6 rfl rfl (zi (i:=0) yj sz3 rfl rfl dd rfl)<|e_uw 7 rfl rfl (ze 3 ty3 rfl rfl rfl)<|e_pv 9 rfl rfl (zg yg rfl sz3 rfl rfl)<|e_uw 10 rfl rfl (ze 1 ty3 rfl rfl rfl)<|e_pv 11 rfl rfl (zi (i:=0) yj sz3 rfl rfl dd rfl)<|e_uw 12 rfl rfl (ze 3 ty3 rfl rfl rfl)<|e_one 3 (zm rfl rfl rfl rfl (.c rfl .n) ce71 (zy (z:=1) (hz:=yn)) (.n) ?_)
          rintro ⟨w3427,w4428⟩ -
          dsimp only [aq,nq,cq]
          refine e_one 8 (zm rfl rfl rfl rfl (.c rfl .n) ce71 (zy (z:=q.1) (hz:=yn)) (.n) ?_)
          rintro ⟨w3429,w4430⟩ -
          dsimp only [aq,nq,cq]
          refine e_one 13 (zm rfl rfl rfl rfl (.c rfl .n) ce71 (zy (z:=q.1) (hz:=yn)) (.n) ?_)
          rintro ⟨w3431,w4432⟩ -
          dsimp only [aq,nq,cq]
          refine e_one 14 (zm rfl rfl rfl rfl (.c rfl (.c rfl .n)) ce81 (zY (k1:=true) (u1:=w3429) (v1:=w4430) (q1:=((q.1:Int):Rat)) (k2:=true) (u2:=w3431) (v2:=w4432) (q2:=((q.1:Int):Rat)) (hl:=yn)) (.c (j:=1) rfl (.c (j:=0) rfl .n)) ?_)
          rintro ⟨w3433,w4434⟩ -
          dsimp only [aq,nq,cq]
          refine e_one 15 (zm rfl rfl rfl rfl (.c rfl (.c rfl .n)) ce81 (zY (k1:=true) (u1:=w3427) (v1:=w4428) (q1:=((1:Int):Rat)) (k2:=true) (u2:=w3433) (v2:=w4434) (q2:=((q.1:Int):Rat)*((q.1:Int):Rat)) (hl:=yn)) (.c (j:=3) rfl (.c (j:=0) rfl .n)) ?_)
          rintro ⟨w3435,w4436⟩ -
          dsimp only [aq,nq,cq]
          refine e_one 16 (zm rfl rfl rfl rfl (.c rfl (.c rfl .n)) ce80 (zka (k1:=true) (u1:=w3417) (v1:=w4418) (q1:=((0:Int):Rat)) (k2:=true) (u2:=w3435) (v2:=w4436) (q2:=((1:Int):Rat)*(((q.1:Int):Rat)*((q.1:Int):Rat))) (hl:=yn)) (.c (j:=6) rfl (.c (j:=0) rfl .n)) ?_)
          rintro ⟨w3437,w4438⟩ -
          dsimp only [aq,nq,cq]
          refine e_one 17 (zo kr rfl rfl rfl rfl rfl sz44 rfl (.t4 .nil) ?_)
          refine zM kr<|zK<|zf<|zc<|e_p (zI (z:=1) rfl rfl (w64 dd))<|e_mv rfl<|zk<|zga<|zW<|zj<|zc<|e_p (zS rfl rfl)<|zk<|zf<|zj<|zaa rfl rfl<|zB<|zf<|zj<|zu<|zj<|zc<|zP (x0:=(Sh.sg22.getD 1 (0,0,0))) 25 1 rfl yl sz140 rfl rfl rfl cbs rfl rfl (gD (d:=(0,0,0)) (by first|omega|decide)) (fun b439 o440 hok441=> ?_)
          obtain ⟨hok441x,hok441y,hok441z⟩:=hok441
          replace hok441x:=zt.1 hok441x
          replace hok441y:=zt.1 hok441y
          replace hok441z:=zt.1 hok441z
          refine e_ru (zX (j:=0) 0 ty140 rfl rfl rfl (.t2 (.take .nil)))<|zJ rfl rfl (zp zr140 rfl) (fun b442=> ?_)
          refine zl 0 rfl rfl rfl rfl rfl sz140 rfl (.t2 (.take .nil)) .z<|zk<|zf ?_
          have e443:((Sh.sg22.getD 1 (0,0,0)).1:Int)=(-1):=by rfl
          rw [e443]
          have e444:((Sh.sg22.getD 1 (0,0,0)).2.1:Int)=1:=by rfl
          rw [e444]
          have e445:((Sh.sg22.getD 1 (0,0,0)).2.2:Int)=1:=by rfl
          rw [e445]
          refine zba (.c (i:=1) rfl (.c (i:=0) rfl (.c (i:=1) rfl (.c (i:=1) rfl (.c (i:=1) rfl .n)))))<|zO (OW:=[boxA b419 44 (cw [w3437,w4438])]) (O:=[boxA b442 140 [yc yd (-1),yc yd 1,yc yd 1],boxA b4 117 (cw [wm0,vm0,wm1,vm1,wm2,vm2,wm3,vm3,wm4,vm4,wm5,vm5,wm6,vm6,wm7,vm7,wz,wz]),boxA b3 113 [yc yd (q.1),yc yd (q.2.1),yc yd (q.2.2.1),yc yd (q.2.2.2)],boxA b2 117 (cw [wz,wz,wz,wz,wz,wz,wz,wz,wz,wz,wz,wz,wz,wz,wz,wz,wz,wz])]) 17 mixed (.block (.then (.then (.block (.then (.block (.then (.then (.block (.block (.then (.then (.block (.then .ret)))))))))))))) kr<|e_uw 0 rfl rfl (zd 0 ty44 rfl rfl (.t4 .nil))<|e_pv 1 rfl rfl (zg yg rfl sz3 rfl rfl)<|e_uw 2 rfl rfl (ze 1 ty3 rfl rfl rfl)<|e_pv 4 rfl rfl (zg yg rfl sz3 rfl rfl)<|e_uw 5 rfl rfl (ze 1 ty3 rfl rfl rfl)<|e_pv 6 rfl rfl (zi (i:=1) yj sz3 rfl rfl dd rfl)<|e_uw 7 rfl rfl (ze 3 ty3 rfl rfl rfl)<|e_pv 9 rfl rfl (zg yg rfl sz3 rfl rfl)<|e_uw 10 rfl rfl (ze 1 ty3 rfl rfl rfl)<|e_pv 11 rfl rfl (zi (i:=1) yj sz3 rfl rfl dd rfl)<|e_uw 12 rfl rfl (ze 3 ty3 rfl rfl rfl)<|e_one 3 (zm rfl rfl rfl rfl (.c rfl .n) ce71 (zy (z:=(-1)) (hz:=yn)) (.n) ?_)
          rintro ⟨w3446,w4447⟩ -
          dsimp only [aq,nq,cq]
          refine e_one 8 (zm rfl rfl rfl rfl (.c rfl .n) ce71 (zy (z:=q.2.1) (hz:=yn)) (.n) ?_)
          rintro ⟨w3448,w4449⟩ -
          dsimp only [aq,nq,cq]
          refine e_one 13 (zm rfl rfl rfl rfl (.c rfl .n) ce71 (zy (z:=q.2.1) (hz:=yn)) (.n) ?_)
          rintro ⟨w3450,w4451⟩ -
          dsimp only [aq,nq,cq]
          refine e_one 14 (zm rfl rfl rfl rfl (.c rfl (.c rfl .n)) ce81 (zY (k1:=true) (u1:=w3448) (v1:=w4449) (q1:=((q.2.1:Int):Rat)) (k2:=true) (u2:=w3450) (v2:=w4451) (q2:=((q.2.1:Int):Rat)) (hl:=yn)) (.c (j:=1) rfl (.c (j:=0) rfl .n)) ?_)
          rintro ⟨w3452,w4453⟩ -
          dsimp only [aq,nq,cq]
          refine e_one 15 (zm rfl rfl rfl rfl (.c rfl (.c rfl .n)) ce81 (zY (k1:=true) (u1:=w3446) (v1:=w4447) (q1:=(((-1):Int):Rat)) (k2:=true) (u2:=w3452) (v2:=w4453) (q2:=((q.2.1:Int):Rat)*((q.2.1:Int):Rat)) (hl:=yn)) (.c (j:=3) rfl (.c (j:=0) rfl .n)) ?_)
          rintro ⟨w3454,w4455⟩ -
          dsimp only [aq,nq,cq]
          refine e_one 16 (zm rfl rfl rfl rfl (.c rfl (.c rfl .n)) ce80 (zka (k1:=true) (u1:=w3437) (v1:=w4438) (q1:=((0:Int):Rat)+(((1:Int):Rat)*(((q.1:Int):Rat)*((q.1:Int):Rat)))) (k2:=true) (u2:=w3454) (v2:=w4455) (q2:=(((-1):Int):Rat)*(((q.2.1:Int):Rat)*((q.2.1:Int):Rat))) (hl:=yn)) (.c (j:=6) rfl (.c (j:=0) rfl .n)) ?_)
          rintro ⟨w3456,w4457⟩ -
          dsimp only [aq,nq,cq]
          refine e_one 17 (zo kr rfl rfl rfl rfl rfl sz44 rfl (.t4 .nil) ?_)
          refine zM kr<|zK<|zf<|zc<|e_p (zI (z:=2) rfl rfl (w64 dd))<|e_mv rfl<|zk<|zga<|zW<|zj<|zc<|e_p (zS rfl rfl)<|zk<|zf<|zj<|zaa rfl rfl<|zB<|zf<|zj<|zu<|zj<|zc<|zP (x0:=(Sh.sg22.getD 2 (0,0,0))) 32 2 rfl yl sz140 rfl rfl rfl cbs rfl rfl (gD (d:=(0,0,0)) (by first|omega|decide)) (fun b458 o459 hok460=> ?_)
          obtain ⟨hok460x,hok460y,hok460z⟩:=hok460
          replace hok460x:=zt.1 hok460x
          replace hok460y:=zt.1 hok460y
          replace hok460z:=zt.1 hok460z
          refine e_ru (zX (j:=0) 0 ty140 rfl rfl rfl (.t2 (.take .nil)))<|zJ rfl rfl (zp zr140 rfl) (fun b461=> ?_)
          refine zl 0 rfl rfl rfl rfl rfl sz140 rfl (.t2 (.take .nil)) .z<|zk<|zf ?_
          have e462:((Sh.sg22.getD 2 (0,0,0)).1:Int)=(-1):=by rfl
          rw [e462]
          have e463:((Sh.sg22.getD 2 (0,0,0)).2.1:Int)=2:=by rfl
          rw [e463]
          have e464:((Sh.sg22.getD 2 (0,0,0)).2.2:Int)=2:=by rfl
          rw [e464]
          refine zba (.c (i:=1) rfl (.c (i:=0) rfl (.c (i:=1) rfl (.c (i:=1) rfl (.c (i:=1) rfl .n)))))<|zO (OW:=[boxA b419 44 (cw [w3456,w4457])]) (O:=[boxA b461 140 [yc yd (-1),yc yd 2,yc yd 2],boxA b4 117 (cw [wm0,vm0,wm1,vm1,wm2,vm2,wm3,vm3,wm4,vm4,wm5,vm5,wm6,vm6,wm7,vm7,wz,wz]),boxA b3 113 [yc yd (q.1),yc yd (q.2.1),yc yd (q.2.2.1),yc yd (q.2.2.2)],boxA b2 117 (cw [wz,wz,wz,wz,wz,wz,wz,wz,wz,wz,wz,wz,wz,wz,wz,wz,wz,wz])]) 17 mixed (.block (.then (.then (.block (.then (.block (.then (.then (.block (.block (.then (.then (.block (.then .ret)))))))))))))) kr<|e_uw 0 rfl rfl (zd 0 ty44 rfl rfl (.t4 .nil))<|e_pv 1 rfl rfl (zg yg rfl sz3 rfl rfl)<|e_uw 2 rfl rfl (ze 1 ty3 rfl rfl rfl)<|e_pv 4 rfl rfl (zg yg rfl sz3 rfl rfl)<|e_uw 5 rfl rfl (ze 1 ty3 rfl rfl rfl)<|e_pv 6 rfl rfl (zi (i:=2) yj sz3 rfl rfl dd rfl)<|e_uw 7 rfl rfl (ze 3 ty3 rfl rfl rfl)<|e_pv 9 rfl rfl (zg yg rfl sz3 rfl rfl)<|e_uw 10 rfl rfl (ze 1 ty3 rfl rfl rfl)<|e_pv 11 rfl rfl (zi (i:=2) yj sz3 rfl rfl dd rfl)<|e_uw 12 rfl rfl (ze 3 ty3 rfl rfl rfl)<|e_one 3 (zm rfl rfl rfl rfl (.c rfl .n) ce71 (zy (z:=(-1)) (hz:=yn)) (.n) ?_)
          rintro ⟨w3465,w4466⟩ -
          dsimp only [aq,nq,cq]
          refine e_one 8 (zm rfl rfl rfl rfl (.c rfl .n) ce71 (zy (z:=q.2.2.1) (hz:=yn)) (.n) ?_)
          rintro ⟨w3467,w4468⟩ -
          dsimp only [aq,nq,cq]
          refine e_one 13 (zm rfl rfl rfl rfl (.c rfl .n) ce71 (zy (z:=q.2.2.1) (hz:=yn)) (.n) ?_)
          rintro ⟨w3469,w4470⟩ -
          dsimp only [aq,nq,cq]
          refine e_one 14 (zm rfl rfl rfl rfl (.c rfl (.c rfl .n)) ce81 (zY (k1:=true) (u1:=w3467) (v1:=w4468) (q1:=((q.2.2.1:Int):Rat)) (k2:=true) (u2:=w3469) (v2:=w4470) (q2:=((q.2.2.1:Int):Rat)) (hl:=yn)) (.c (j:=1) rfl (.c (j:=0) rfl .n)) ?_)
          rintro ⟨w3471,w4472⟩ -
          dsimp only [aq,nq,cq]
          refine e_one 15 (zm rfl rfl rfl rfl (.c rfl (.c rfl .n)) ce81 (zY (k1:=true) (u1:=w3465) (v1:=w4466) (q1:=(((-1):Int):Rat)) (k2:=true) (u2:=w3471) (v2:=w4472) (q2:=((q.2.2.1:Int):Rat)*((q.2.2.1:Int):Rat)) (hl:=yn)) (.c (j:=3) rfl (.c (j:=0) rfl .n)) ?_)
          rintro ⟨w3473,w4474⟩ -
          dsimp only [aq,nq,cq]
          refine e_one 16 (zm rfl rfl rfl rfl (.c rfl (.c rfl .n)) ce80 (zka (k1:=true) (u1:=w3456) (v1:=w4457) (q1:=(((0:Int):Rat)+(((1:Int):Rat)*(((q.1:Int):Rat)*((q.1:Int):Rat))))+((((-1):Int):Rat)*(((q.2.1:Int):Rat)*((q.2.1:Int):Rat)))) (k2:=true) (u2:=w3473) (v2:=w4474) (q2:=(((-1):Int):Rat)*(((q.2.2.1:Int):Rat)*((q.2.2.1:Int):Rat))) (hl:=yn)) (.c (j:=6) rfl (.c (j:=0) rfl .n)) ?_)
          rintro ⟨w3475,w4476⟩ -
          dsimp only [aq,nq,cq]
          refine e_one 17 (zo kr rfl rfl rfl rfl rfl sz44 rfl (.t4 .nil) ?_)
          refine zM kr<|zK<|zf<|zc<|e_p (zI (z:=3) rfl rfl (w64 dd))<|e_mv rfl<|zk<|zga<|zW<|zj<|zc<|e_p (zS rfl rfl)<|zk<|zf<|zj<|zaa rfl rfl<|zB<|zf<|zj<|zu<|zj<|zc<|zP (x0:=(Sh.sg22.getD 3 (0,0,0))) 39 3 rfl yl sz140 rfl rfl rfl cbs rfl rfl (gD (d:=(0,0,0)) (by first|omega|decide)) (fun b477 o478 hok479=> ?_)
          obtain ⟨hok479x,hok479y,hok479z⟩:=hok479
          replace hok479x:=zt.1 hok479x
          replace hok479y:=zt.1 hok479y
          replace hok479z:=zt.1 hok479z
          refine e_ru (zX (j:=0) 0 ty140 rfl rfl rfl (.t2 (.take .nil)))<|zJ rfl rfl (zp zr140 rfl) (fun b480=> ?_)
          refine zl 0 rfl rfl rfl rfl rfl sz140 rfl (.t2 (.take .nil)) .z<|zk<|zf ?_
          have e481:((Sh.sg22.getD 3 (0,0,0)).1:Int)=1:=by rfl
          rw [e481]
          have e482:((Sh.sg22.getD 3 (0,0,0)).2.1:Int)=3:=by rfl
          rw [e482]
          have e483:((Sh.sg22.getD 3 (0,0,0)).2.2:Int)=3:=by rfl
          rw [e483]
          refine zba (.c (i:=1) rfl (.c (i:=0) rfl (.c (i:=1) rfl (.c (i:=1) rfl (.c (i:=1) rfl .n)))))<|zO (OW:=[boxA b419 44 (cw [w3475,w4476])]) (O:=[boxA b480 140 [yc yd 1,yc yd 3,yc yd 3],boxA b4 117 (cw [wm0,vm0,wm1,vm1,wm2,vm2,wm3,vm3,wm4,vm4,wm5,vm5,wm6,vm6,wm7,vm7,wz,wz]),boxA b3 113 [yc yd (q.1),yc yd (q.2.1),yc yd (q.2.2.1),yc yd (q.2.2.2)],boxA b2 117 (cw [wz,wz,wz,wz,wz,wz,wz,wz,wz,wz,wz,wz,wz,wz,wz,wz,wz,wz])]) 17 mixed (.block (.then (.then (.block (.then (.block (.then (.then (.block (.block (.then (.then (.block (.then .ret)))))))))))))) kr<|e_uw 0 rfl rfl (zd 0 ty44 rfl rfl (.t4 .nil))<|e_pv 1 rfl rfl (zg yg rfl sz3 rfl rfl)<|e_uw 2 rfl rfl (ze 1 ty3 rfl rfl rfl)<|e_pv 4 rfl rfl (zg yg rfl sz3 rfl rfl)<|e_uw 5 rfl rfl (ze 1 ty3 rfl rfl rfl)<|e_pv 6 rfl rfl (zi (i:=3) yj sz3 rfl rfl dd rfl)<|e_uw 7 rfl rfl (ze 3 ty3 rfl rfl rfl)<|e_pv 9 rfl rfl (zg yg rfl sz3 rfl rfl)<|e_uw 10 rfl rfl (ze 1 ty3 rfl rfl rfl)<|e_pv 11 rfl rfl (zi (i:=3) yj sz3 rfl rfl dd rfl)<|e_uw 12 rfl rfl (ze 3 ty3 rfl rfl rfl)<|e_one 3 (zm rfl rfl rfl rfl (.c rfl .n) ce71 (zy (z:=1) (hz:=yn)) (.n) ?_)
          rintro ⟨w3484,w4485⟩ -
          dsimp only [aq,nq,cq]
          refine e_one 8 (zm rfl rfl rfl rfl (.c rfl .n) ce71 (zy (z:=q.2.2.2) (hz:=yn)) (.n) ?_)
          rintro ⟨w3486,w4487⟩ -
          dsimp only [aq,nq,cq]
          refine e_one 13 (zm rfl rfl rfl rfl (.c rfl .n) ce71 (zy (z:=q.2.2.2) (hz:=yn)) (.n) ?_)
          rintro ⟨w3488,w4489⟩ -
          dsimp only [aq,nq,cq]
          refine e_one 14 (zm rfl rfl rfl rfl (.c rfl (.c rfl .n)) ce81 (zY (k1:=true) (u1:=w3486) (v1:=w4487) (q1:=((q.2.2.2:Int):Rat)) (k2:=true) (u2:=w3488) (v2:=w4489) (q2:=((q.2.2.2:Int):Rat)) (hl:=yn)) (.c (j:=1) rfl (.c (j:=0) rfl .n)) ?_)
          rintro ⟨w3490,w4491⟩ -
          dsimp only [aq,nq,cq]
          refine e_one 15 (zm rfl rfl rfl rfl (.c rfl (.c rfl .n)) ce81 (zY (k1:=true) (u1:=w3484) (v1:=w4485) (q1:=((1:Int):Rat)) (k2:=true) (u2:=w3490) (v2:=w4491) (q2:=((q.2.2.2:Int):Rat)*((q.2.2.2:Int):Rat)) (hl:=yn)) (.c (j:=3) rfl (.c (j:=0) rfl .n)) ?_)
          rintro ⟨w3492,w4493⟩ -
          dsimp only [aq,nq,cq]
          refine e_one 16 (zm rfl rfl rfl rfl (.c rfl (.c rfl .n)) ce80 (zka (k1:=true) (u1:=w3475) (v1:=w4476) (q1:=((((0:Int):Rat)+(((1:Int):Rat)*(((q.1:Int):Rat)*((q.1:Int):Rat))))+((((-1):Int):Rat)*(((q.2.1:Int):Rat)*((q.2.1:Int):Rat))))+((((-1):Int):Rat)*(((q.2.2.1:Int):Rat)*((q.2.2.1:Int):Rat)))) (k2:=true) (u2:=w3492) (v2:=w4493) (q2:=((1:Int):Rat)*(((q.2.2.2:Int):Rat)*((q.2.2.2:Int):Rat))) (hl:=yn)) (.c (j:=6) rfl (.c (j:=0) rfl .n)) ?_)
          rintro ⟨w3494,w4495⟩ -
          dsimp only [aq,nq,cq]
          refine e_one 17 (zo kr rfl rfl rfl rfl rfl sz44 rfl (.t4 .nil) ?_)
          refine zM kr<|zK<|zf<|zc<|e_p (zI (z:=4) rfl rfl (w64 dd))<|e_mv rfl<|zk<|zga<|zW<|zj<|zc<|e_p (zS rfl rfl)<|zk<|zf<|zj<|zua rfl rfl<|zla<|zn<|zn<|zC<|zf ?_
          have e496:((((((0:Int):Rat)+(((1:Int):Rat)*(((q.1:Int):Rat)*((q.1:Int):Rat))))+((((-1):Int):Rat)*(((q.2.1:Int):Rat)*((q.2.1:Int):Rat))))+((((-1):Int):Rat)*(((q.2.2.1:Int):Rat)*((q.2.2.1:Int):Rat))))+(((1:Int):Rat)*(((q.2.2.2:Int):Rat)*((q.2.2.2:Int):Rat))):Rat)=(yi q).2.2.2.2:=by rfl
          rw [e496]
          refine zba (.c (i:=2) rfl (.c (i:=0) rfl (.c (i:=1) rfl (.c (i:=1) rfl .n))))<|zO (OW:=[boxA b4 117 (cw [wm0,vm0,wm1,vm1,wm2,vm2,wm3,vm3,wm4,vm4,wm5,vm5,wm6,vm6,wm7,vm7,wz,wz])]) (O:=[boxA b419 44 (cw [w3494,w4495]),boxA b3 113 [yc yd (q.1),yc yd (q.2.1),yc yd (q.2.2.1),yc yd (q.2.2.2)],boxA b2 117 (cw [wz,wz,wz,wz,wz,wz,wz,wz,wz,wz,wz,wz,wz,wz,wz,wz,wz,wz])]) 5 mixed (.block (.then (.then (.block (.block (.then (.then (.block (.then .ret))))))))) kr<|e_dm 0 rfl rfl rfl<|e_dm 1 rfl rfl rfl<|e_uw 2 rfl rfl (zd 1 ty44 rfl rfl (.t4 .nil))<|e_pv 3 rfl rfl (zi (i:=2) yo sz106 rfl rfl dd rfl)<|e_pv 4 rfl rfl (zi (i:=2) yh sz44 rfl rfl dd rfl)<|e_one 5 (zo kr rfl rfl rfl rfl rfl sz44 rfl (.s8 (.s8 (.s8 (.s8 (.t4 .nil))))) ?_)
          refine zM kr<|zK ?_
          exact zna (w3494,w4495) (show True from by first|trivial|omega|simp_all) ((.of rfl):SubM _ _) (ho:=((.of [0,1,1] rfl):PickO _ _ _)) ((.of [0,29,30,31,32,33,34,35,36,37,38,39,40,41,42,43,44,45,46,47] rfl):SelR _ _ _)
         ·
          rintro ⟨wm8,vm8⟩ -
          dsimp only [cw,cS]
          refine zc<|e_p (zI (z:=3) rfl rfl (w64 dd))<|e_mv rfl<|zk<|zga<|zW<|zj<|zc<|e_p (zS rfl rfl)<|zk<|zf<|zj<|zua rfl rfl<|zla<|zn<|zn<|zC<|zK<|zf<|zc<|e_p (zI (z:=3) rfl rfl (w64 dd))<|e_mv rfl<|zk<|zga<|zW<|zj<|zc<|e_p (zS rfl rfl)<|zk<|zf<|zj<|zua rfl rfl<|zla<|zn<|zn<|zC<|zf<|zj<|zc<|e_ru (zd 0 ty117 rfl rfl (.t8 (.t8 (.t8 (.t8 (.t4 .nil))))))<|zl 2 rfl rfl rfl rfl rfl sz117 rfl (.t8 (.t8 (.t8 (.t8 (.t4 .nil))))) (.s (.s .z))<|zk<|zf<|zR ?_
          exact zL Tryz.results76 (wm0,vm0,wm1,vm1,wm2,vm2,wm3,vm3,wm4,vm4,wm5,vm5,wm6,vm6,wm7,vm7,wm8,vm8) trivial (zr 2 ty117 rfl rfl (.t8 (.t8 (.t8 (.t8 (.t4 .nil)))))) rfl (ho:=(.n:PickO _ _ _)) ((.of [8,7,6,5,4,3,2,1,0] rfl):SelR _ _ _)
end Go.Proofs.YtjeahiahjgifgaaGreatDoor.Sp
namespace Go.Proofs.YtjeahiahjgifgaaGreatDoor.Sp
open Go
set_option linter.unusedVariables false
set_option maxRecDepth 100000
set_option maxHeartbeats 8000000
theorem zWb {u1:Wd} {u2:Wd} {u3:Wd} {u4:Wd} {u5:Wd} {u6:Wd} {u7:Wd} {u8:Wd} {u9:Wd} {u10:Wd} {u11:Wd} {u12:Wd} {u13:Wd} {u14:Wd} {u15:Wd} {u16:Wd} {u17:Wd} {u18:Wd} {mm:Sh.M9} {x1:Wd} {x2:Wd} {x3:Wd} {x4:Wd} {x5:Wd} {x6:Wd} {vv:Sh.R3} {tp:Bool} {k:Nat} (hm:Sh.hqMt mm 50) (hv:Sh.hqV vv k) (hk:k≤1000):Con Tryz.prog 75 [.agg #[u1.b,u1.l,u2.b,u2.l,u3.b,u3.l,u4.b,u4.l,u5.b,u5.l,u6.b,u6.l,u7.b,u7.l,u8.b,u8.l,u9.b,u9.l,u10.b,u10.l,u11.b,u11.l,u12.b,u12.l,u13.b,u13.l,u14.b,u14.l,u15.b,u15.l,u16.b,u16.l,u17.b,u17.l,u18.b,u18.l],.agg #[x1.b,x1.l,x2.b,x2.l,x3.b,x3.l,x4.b,x4.l,x5.b,x5.l,x6.b,x6.l],.bool tp] [] [qF true u1 u2 (mm.1.1),qF true u3 u4 (mm.1.2.1),qF true u5 u6 (mm.1.2.2),qF true u7 u8 (mm.2.1.1),qF true u9 u10 (mm.2.1.2.1),qF true u11 u12 (mm.2.1.2.2),qF true u13 u14 (mm.2.2.1),qF true u15 u16 (mm.2.2.2.1),qF true u17 u18 (mm.2.2.2.2),qF true x1 x2 (vv.1),qF true x3 x4 (vv.2.1),qF true x5 x6 (vv.2.2)] (Y:=Wd×Wd×Wd×Wd×Wd×Wd) (fun y=>True) (fun y=> .agg #[y.1.b,y.1.l,y.2.1.b,y.2.1.l,y.2.2.1.b,y.2.2.1.l,y.2.2.2.1.b,y.2.2.2.1.l,y.2.2.2.2.1.b,y.2.2.2.2.1.l,y.2.2.2.2.2.b,y.2.2.2.2.2.l]) (fun y=>[]) (fun y=>[qF true y.1 y.2.1 ((yu (yp tp mm) vv).1),qF true y.2.2.1 y.2.2.2.1 ((yu (yp tp mm) vv).2.1),qF true y.2.2.2.2.1 y.2.2.2.2.2 ((yu (yp tp mm) vv).2.2)]):=by
 refine zx Tryz.func75 rfl rfl rfl (fun c=> ?_)
 show RunC _ _ _ _ _ [(0,.agg #[u1.b,u1.l,u2.b,u2.l,u3.b,u3.l,u4.b,u4.l,u5.b,u5.l,u6.b,u6.l,u7.b,u7.l,u8.b,u8.l,u9.b,u9.l,u10.b,u10.l,u11.b,u11.l,u12.b,u12.l,u13.b,u13.l,u14.b,u14.l,u15.b,u15.l,u16.b,u16.l,u17.b,u17.l,u18.b,u18.l]),(1,.agg #[x1.b,x1.l,x2.b,x2.l,x3.b,x3.l,x4.b,x4.l,x5.b,x5.l,x6.b,x6.l]),(2,.bool tp)] [] [qF true u1 u2 (mm.1.1),qF true u3 u4 (mm.1.2.1),qF true u5 u6 (mm.1.2.2),qF true u7 u8 (mm.2.1.1),qF true u9 u10 (mm.2.1.2.1),qF true u11 u12 (mm.2.1.2.2),qF true u13 u14 (mm.2.2.1),qF true u15 u16 (mm.2.2.2.1),qF true u17 u18 (mm.2.2.2.2),qF true x1 x2 (vv.1),qF true x3 x4 (vv.2.1),qF true x5 x6 (vv.2.2)]
 have hp:=Sh.pk_hq (b:=tp) hm
 obtain ⟨⟨hm1,hm2,hm3⟩,⟨hm4,hm5,hm6⟩,⟨hm7,hm8,hm9⟩⟩:=hp
 obtain ⟨hv1,hv2,hv3⟩:=hv
 refine zj<|zc<|zJ rfl rfl (zda rfl rfl) (fun b1=> ?_)
 refine zJ rfl rfl (zda rfl rfl) (fun b2=> ?_)
 refine zJ rfl rfl (zp zr106 rfl) (fun b3=> ?_)
 refine zk<|zf<|zj<|zc<|zJ rfl rfl (zp zr106 rfl) (fun b4=> ?_)
 refine zk<|zf<|zj<|zj<|zc<|e_mv rfl<|zk<|zf<|zu<|zLa<|zW<|zj<|zc<|e_p (zS rfl rfl)<|zk<|zf<|zj<|zaa rfl rfl<|zB<|zf<|zj<|zu<|zj<|zc<|e_mv rfl<|e_p (zh rfl)<|zk<|zf<|zj<|zc<|zG rfl rfl (.c rfl .n) ce71 (zy (z:=0) (hz:=yC)) (.n) ?_
 rintro ⟨w35,w46⟩ -
 dsimp only [aq,nq,cq]
 refine zJ rfl rfl (zp zr44 rfl) (fun b7=> ?_)
 refine zl 0 rfl rfl rfl rfl rfl sz44 rfl (.t4 .nil) .z<|zk<|zf<|zj<|zj<|zc<|e_mv rfl<|zk<|zf<|zu<|zLa<|zW<|zj<|zc<|e_p (zS rfl rfl)<|zk<|zf<|zj<|zaa rfl rfl<|zB<|zf<|zj<|zu<|zj<|zc<|e_mv rfl<|e_p (zh rfl)<|zk<|zf<|zj<|zc<|e_mv rfl<|e_mv rfl<|e_p (zi (i:=0) yo sz106 rfl rfl dd rfl)<|e_p (zi (i:=0) yh sz44 rfl rfl dd rfl)<|e_ru (zd 4 ty44 rfl rfl (.t4 .nil))<|zJ rfl rfl (zp zr44 rfl) (fun b8=> ?_)
 refine zl 0 rfl rfl rfl rfl rfl sz44 rfl (.t4 .nil) .z<|zk<|zf<|zIa (X:=Wd×Wd) (fun x=>True) (fun x=>[(11,ye (some ⟨b8,0,none⟩)),(10,yc yd 0),(16,yc yd 0),(9,ye (some ⟨b7,0,none⟩)),(8,yc yd 0),(12,yc yd 0),(7,ye (some ⟨b4,0,none⟩)),(6,ye (some ⟨b3,0,none⟩)),(4,ye (some ⟨b2,0,none⟩)),(3,ye (some ⟨b1,0,none⟩)),(2,.bool tp)]) (fun x=>[boxA b8 44 (cw [x.1,x.2]),boxA b7 44 (cw [w35,w46]),boxA b4 106 (cw [wz,wz,wz,wz,wz,wz]),boxA b3 106 (cw [wz,wz,wz,wz,wz,wz]),boxA b2 106 (cw [x1,x2,x3,x4,x5,x6]),boxA b1 117 (cw [u1,u2,u3,u4,u5,u6,u7,u8,u9,u10,u11,u12,u13,u14,u15,u16,u17,u18])]) (fun x=>[qF true x.1 x.2 ((yp tp mm).1.1),qF true w35 w46 ((0:Int):Rat),qF true u1 u2 (mm.1.1),qF true u3 u4 (mm.1.2.1),qF true u5 u6 (mm.1.2.2),qF true u7 u8 (mm.2.1.1),qF true u9 u10 (mm.2.1.2.1),qF true u11 u12 (mm.2.1.2.2),qF true u13 u14 (mm.2.2.1),qF true u15 u16 (mm.2.2.2.1),qF true u17 u18 (mm.2.2.2.2),qF true x1 x2 (vv.1),qF true x3 x4 (vv.2.1),qF true x5 x6 (vv.2.2)]) ?_ ?_
 ·
  refine zj<|zc<|e_mv rfl<|zk<|zf<|zhb rfl (fun h24=> ?_) (fun h24=> ?_)
  ·
   refine zc<|e_mv rfl<|e_mv rfl<|e_p (zi (i:=0) yo sz106 rfl rfl dd rfl)<|e_p (zi (i:=0) yh sz44 rfl rfl dd rfl)<|e_ru (zd 5 ty44 rfl rfl (.t4 .nil))<|zl 0 rfl rfl rfl rfl rfl sz44 rfl (.t4 .nil) .z<|zk ?_
   exact zna (u1,u2) (show True from by first|trivial|omega|simp_all) ((.of rfl):SubM _ _) (ho:=((.of [0,0,0,0,0,0] rfl):PickO _ _ _)) ((.e (j:=1) rfl (by rw [h24];rfl) (.of [0,1,2,3,4,5,6,7,8,9,10,11,12] rfl)):SelR _ _ _)
  ·
   refine zB ?_
   exact zna (u1,u2) (show True from by first|trivial|omega|simp_all) ((.of rfl):SubM _ _) (ho:=((.of [0,0,0,0,0,0] rfl):PickO _ _ _)) ((.e (j:=1) rfl (by rw [h24];rfl) (.of [0,1,2,3,4,5,6,7,8,9,10,11,12] rfl)):SelR _ _ _)
 ·
  rintro ⟨wy00,vy00⟩ -
  dsimp only [cw,cS]
  refine zba (.c (i:=1) rfl (.c (i:=0) rfl (.c (i:=0) rfl (.c (i:=0) rfl (.c (i:=0) rfl (.c (i:=0) rfl .n))))))<|zO (OW:=[boxA b7 44 (cw [w35,w46])]) (O:=[boxA b8 44 (cw [wy00,vy00]),boxA b4 106 (cw [wz,wz,wz,wz,wz,wz]),boxA b3 106 (cw [wz,wz,wz,wz,wz,wz]),boxA b2 106 (cw [x1,x2,x3,x4,x5,x6]),boxA b1 117 (cw [u1,u2,u3,u4,u5,u6,u7,u8,u9,u10,u11,u12,u13,u14,u15,u16,u17,u18])]) 7 mixed (.block (.then (.then (.block (.then (.block (.then (.then (.block (.then .ret)))))))))) kr<|e_uw 0 rfl rfl (zd 0 ty44 rfl rfl (.t4 .nil))<|e_uw 1 rfl rfl (zd 1 ty44 rfl rfl (.t4 .nil))<|e_dm 2 rfl rfl rfl<|e_pv 3 rfl rfl (zi (i:=0) yh sz44 rfl rfl dd rfl)<|e_uw 4 rfl rfl (zd 4 ty44 rfl rfl (.t4 .nil))<|e_one 5 (zm rfl rfl rfl rfl (.c rfl (.c rfl .n)) ce81 (zY (k1:=true) (u1:=wy00) (v1:=vy00) (q1:=(yp tp mm).1.1) (k2:=true) (u2:=x1) (v2:=x2) (q2:=vv.1) (hl:=yC)) (.c (j:=0) rfl (.c (j:=11) rfl .n)) ?_)
  rintro ⟨w39,w410⟩ -
  dsimp only [aq,nq,cq]
  refine e_one 6 (zm rfl rfl rfl rfl (.c rfl (.c rfl .n)) ce80 (zka (k1:=true) (u1:=w35) (v1:=w46) (q1:=((0:Int):Rat)) (k2:=true) (u2:=w39) (v2:=w410) (q2:=((yp tp mm).1.1)*vv.1) (hl:=yC)) (.c (j:=2) rfl (.c (j:=0) rfl .n)) ?_)
  rintro ⟨w311,w412⟩ -
  dsimp only [aq,nq,cq]
  refine e_one 7 (zo kr rfl rfl rfl rfl rfl sz44 rfl (.t4 .nil) ?_)
  refine zM kr<|zK<|zf<|zc<|e_p (zI (z:=1) rfl rfl (w64 dd))<|e_mv rfl<|zk<|zga<|zW<|zj<|zc<|e_p (zS rfl rfl)<|zk<|zf<|zj<|zaa rfl rfl<|zB<|zf<|zj<|zu<|zj<|zc<|e_mv rfl<|e_p (zh rfl)<|zk<|zf<|zj<|zc<|e_mv rfl<|e_mv rfl<|e_p (zi (i:=0) yo sz106 rfl rfl dd rfl)<|e_p (zi (i:=1) yh sz44 rfl rfl dd rfl)<|e_ru (zd 5 ty44 rfl rfl (.s4 (.t4 .nil)))<|zJ rfl rfl (zp zr44 rfl) (fun b13=> ?_)
  refine zl 0 rfl rfl rfl rfl rfl sz44 rfl (.t4 .nil) .z<|zk<|zf<|zIa (X:=Wd×Wd) (fun x=>True) (fun x=>[(11,ye (some ⟨b13,0,none⟩)),(10,yc yd 1),(16,yc yd 1),(9,ye (some ⟨b7,0,none⟩)),(8,yc yd 0),(12,yc yd 0),(7,ye (some ⟨b4,0,none⟩)),(6,ye (some ⟨b3,0,none⟩)),(4,ye (some ⟨b2,0,none⟩)),(3,ye (some ⟨b1,0,none⟩)),(2,.bool tp)]) (fun x=>[boxA b13 44 (cw [x.1,x.2]),boxA b7 44 (cw [w311,w412]),boxA b4 106 (cw [wz,wz,wz,wz,wz,wz]),boxA b3 106 (cw [wz,wz,wz,wz,wz,wz]),boxA b2 106 (cw [x1,x2,x3,x4,x5,x6]),boxA b1 117 (cw [u1,u2,u3,u4,u5,u6,u7,u8,u9,u10,u11,u12,u13,u14,u15,u16,u17,u18])]) (fun x=>[qF true x.1 x.2 ((yp tp mm).1.2.1),qF true w311 w412 (((0:Int):Rat)+(((yp tp mm).1.1)*vv.1)),qF true u1 u2 (mm.1.1),qF true u3 u4 (mm.1.2.1),qF true u5 u6 (mm.1.2.2),qF true u7 u8 (mm.2.1.1),qF true u9 u10 (mm.2.1.2.1),qF true u11 u12 (mm.2.1.2.2),qF true u13 u14 (mm.2.2.1),qF true u15 u16 (mm.2.2.2.1),qF true u17 u18 (mm.2.2.2.2),qF true x1 x2 (vv.1),qF true x3 x4 (vv.2.1),qF true x5 x6 (vv.2.2)]) ?_ ?_
  ·
   refine zj<|zc<|e_mv rfl<|zk<|zf<|zhb rfl (fun h24=> ?_) (fun h24=> ?_)
   ·
    refine zc<|e_mv rfl<|e_mv rfl<|e_p (zi (i:=1) yo sz106 rfl rfl dd rfl)<|e_p (zi (i:=0) yh sz44 rfl rfl dd rfl)<|e_ru (zd 6 ty44 rfl rfl (.s8 (.s4 (.t4 .nil))))<|zl 0 rfl rfl rfl rfl rfl sz44 rfl (.t4 .nil) .z<|zk ?_
    exact zna (u7,u8) (show True from by first|trivial|omega|simp_all) ((.of rfl):SubM _ _) (ho:=((.of [0,0,1,1,1,1] rfl):PickO _ _ _)) ((.e (j:=7) rfl (by rw [h24];rfl) (.of [0,4,5,6,7,8,9,10,11,12,13,14,15] rfl)):SelR _ _ _)
   ·
    refine zB ?_
    exact zna (u3,u4) (show True from by first|trivial|omega|simp_all) ((.of rfl):SubM _ _) (ho:=((.of [0,0,1,1,1,1] rfl):PickO _ _ _)) ((.e (j:=5) rfl (by rw [h24];rfl) (.of [0,4,5,6,7,8,9,10,11,12,13,14,15] rfl)):SelR _ _ _)
  ·
   rintro ⟨wy01,vy01⟩ -
   dsimp only [cw,cS]
   refine zba (.c (i:=1) rfl (.c (i:=0) rfl (.c (i:=0) rfl (.c (i:=0) rfl (.c (i:=0) rfl (.c (i:=0) rfl .n))))))<|zO (OW:=[boxA b7 44 (cw [w311,w412])]) (O:=[boxA b13 44 (cw [wy01,vy01]),boxA b4 106 (cw [wz,wz,wz,wz,wz,wz]),boxA b3 106 (cw [wz,wz,wz,wz,wz,wz]),boxA b2 106 (cw [x1,x2,x3,x4,x5,x6]),boxA b1 117 (cw [u1,u2,u3,u4,u5,u6,u7,u8,u9,u10,u11,u12,u13,u14,u15,u16,u17,u18])]) 7 mixed (.block (.then (.then (.block (.then (.block (.then (.then (.block (.then .ret)))))))))) kr<|e_uw 0 rfl rfl (zd 0 ty44 rfl rfl (.t4 .nil))<|e_uw 1 rfl rfl (zd 1 ty44 rfl rfl (.t4 .nil))<|e_dm 2 rfl rfl rfl<|e_pv 3 rfl rfl (zi (i:=1) yh sz44 rfl rfl dd rfl)<|e_uw 4 rfl rfl (zd 4 ty44 rfl rfl (.s4 (.t4 .nil)))<|e_one 5 (zm rfl rfl rfl rfl (.c rfl (.c rfl .n)) ce81 (zY (k1:=true) (u1:=wy01) (v1:=vy01) (q1:=(yp tp mm).1.2.1) (k2:=true) (u2:=x3) (v2:=x4) (q2:=vv.2.1) (hl:=yC)) (.c (j:=0) rfl (.c (j:=12) rfl .n)) ?_)
   rintro ⟨w314,w415⟩ -
   dsimp only [aq,nq,cq]
   refine e_one 6 (zm rfl rfl rfl rfl (.c rfl (.c rfl .n)) ce80 (zka (k1:=true) (u1:=w311) (v1:=w412) (q1:=((0:Int):Rat)+(((yp tp mm).1.1)*vv.1)) (k2:=true) (u2:=w314) (v2:=w415) (q2:=((yp tp mm).1.2.1)*vv.2.1) (hl:=yC)) (.c (j:=2) rfl (.c (j:=0) rfl .n)) ?_)
   rintro ⟨w316,w417⟩ -
   dsimp only [aq,nq,cq]
   refine e_one 7 (zo kr rfl rfl rfl rfl rfl sz44 rfl (.t4 .nil) ?_)
   refine zM kr<|zK<|zf<|zc<|e_p (zI (z:=2) rfl rfl (w64 dd))<|e_mv rfl<|zk<|zga<|zW<|zj<|zc<|e_p (zS rfl rfl)<|zk<|zf<|zj<|zaa rfl rfl<|zB<|zf<|zj<|zu<|zj<|zc<|e_mv rfl<|e_p (zh rfl)<|zk<|zf<|zj<|zc<|e_mv rfl<|e_mv rfl<|e_p (zi (i:=0) yo sz106 rfl rfl dd rfl)<|e_p (zi (i:=2) yh sz44 rfl rfl dd rfl)<|e_ru (zd 5 ty44 rfl rfl (.s8 (.t4 .nil)))<|zJ rfl rfl (zp zr44 rfl) (fun b18=> ?_)
   refine zl 0 rfl rfl rfl rfl rfl sz44 rfl (.t4 .nil) .z<|zk<|zf<|zIa (X:=Wd×Wd) (fun x=>True) (fun x=>[(11,ye (some ⟨b18,0,none⟩)),(10,yc yd 2),(16,yc yd 2),(9,ye (some ⟨b7,0,none⟩)),(8,yc yd 0),(12,yc yd 0),(7,ye (some ⟨b4,0,none⟩)),(6,ye (some ⟨b3,0,none⟩)),(4,ye (some ⟨b2,0,none⟩)),(3,ye (some ⟨b1,0,none⟩)),(2,.bool tp)]) (fun x=>[boxA b18 44 (cw [x.1,x.2]),boxA b7 44 (cw [w316,w417]),boxA b4 106 (cw [wz,wz,wz,wz,wz,wz]),boxA b3 106 (cw [wz,wz,wz,wz,wz,wz]),boxA b2 106 (cw [x1,x2,x3,x4,x5,x6]),boxA b1 117 (cw [u1,u2,u3,u4,u5,u6,u7,u8,u9,u10,u11,u12,u13,u14,u15,u16,u17,u18])]) (fun x=>[qF true x.1 x.2 ((yp tp mm).1.2.2),qF true w316 w417 ((((0:Int):Rat)+(((yp tp mm).1.1)*vv.1))+(((yp tp mm).1.2.1)*vv.2.1)),qF true u1 u2 (mm.1.1),qF true u3 u4 (mm.1.2.1),qF true u5 u6 (mm.1.2.2),qF true u7 u8 (mm.2.1.1),qF true u9 u10 (mm.2.1.2.1),qF true u11 u12 (mm.2.1.2.2),qF true u13 u14 (mm.2.2.1),qF true u15 u16 (mm.2.2.2.1),qF true u17 u18 (mm.2.2.2.2),qF true x1 x2 (vv.1),qF true x3 x4 (vv.2.1),qF true x5 x6 (vv.2.2)]) ?_ ?_
   ·
    refine zj<|zc<|e_mv rfl<|zk<|zf<|zhb rfl (fun h24=> ?_) (fun h24=> ?_)
    ·
     refine zc<|e_mv rfl<|e_mv rfl<|e_p (zi (i:=2) yo sz106 rfl rfl dd rfl)<|e_p (zi (i:=0) yh sz44 rfl rfl dd rfl)<|e_ru (zd 6 ty44 rfl rfl (.s8 (.s8 (.s8 (.t4 .nil)))))<|zl 0 rfl rfl rfl rfl rfl sz44 rfl (.t4 .nil) .z<|zk ?_
     exact zna (u13,u14) (show True from by first|trivial|omega|simp_all) ((.of rfl):SubM _ _) (ho:=((.of [0,0,1,1,1,1] rfl):PickO _ _ _)) ((.e (j:=10) rfl (by rw [h24];rfl) (.of [0,4,5,6,7,8,9,10,11,12,13,14,15] rfl)):SelR _ _ _)
    ·
     refine zB ?_
     exact zna (u5,u6) (show True from by first|trivial|omega|simp_all) ((.of rfl):SubM _ _) (ho:=((.of [0,0,1,1,1,1] rfl):PickO _ _ _)) ((.e (j:=6) rfl (by rw [h24];rfl) (.of [0,4,5,6,7,8,9,10,11,12,13,14,15] rfl)):SelR _ _ _)
   ·
    rintro ⟨wy02,vy02⟩ -
    dsimp only [cw,cS]
    refine zba (.c (i:=1) rfl (.c (i:=0) rfl (.c (i:=0) rfl (.c (i:=0) rfl (.c (i:=0) rfl (.c (i:=0) rfl .n))))))<|zO (OW:=[boxA b7 44 (cw [w316,w417])]) (O:=[boxA b18 44 (cw [wy02,vy02]),boxA b4 106 (cw [wz,wz,wz,wz,wz,wz]),boxA b3 106 (cw [wz,wz,wz,wz,wz,wz]),boxA b2 106 (cw [x1,x2,x3,x4,x5,x6]),boxA b1 117 (cw [u1,u2,u3,u4,u5,u6,u7,u8,u9,u10,u11,u12,u13,u14,u15,u16,u17,u18])]) 7 mixed (.block (.then (.then (.block (.then (.block (.then (.then (.block (.then .ret)))))))))) kr<|e_uw 0 rfl rfl (zd 0 ty44 rfl rfl (.t4 .nil))<|e_uw 1 rfl rfl (zd 1 ty44 rfl rfl (.t4 .nil))<|e_dm 2 rfl rfl rfl<|e_pv 3 rfl rfl (zi (i:=2) yh sz44 rfl rfl dd rfl)<|e_uw 4 rfl rfl (zd 4 ty44 rfl rfl (.s8 (.t4 .nil)))<|e_one 5 (zm rfl rfl rfl rfl (.c rfl (.c rfl .n)) ce81 (zY (k1:=true) (u1:=wy02) (v1:=vy02) (q1:=(yp tp mm).1.2.2) (k2:=true) (u2:=x5) (v2:=x6) (q2:=vv.2.2) (hl:=yC)) (.c (j:=0) rfl (.c (j:=13) rfl .n)) ?_)
    rintro ⟨w319,w420⟩ -
    dsimp only [aq,nq,cq]
    refine e_one 6 (zm rfl rfl rfl rfl (.c rfl (.c rfl .n)) ce80 (zka (k1:=true) (u1:=w316) (v1:=w417) (q1:=(((0:Int):Rat)+(((yp tp mm).1.1)*vv.1))+(((yp tp mm).1.2.1)*vv.2.1)) (k2:=true) (u2:=w319) (v2:=w420) (q2:=((yp tp mm).1.2.2)*vv.2.2) (hl:=yC)) (.c (j:=2) rfl (.c (j:=0) rfl .n)) ?_)
    rintro ⟨w321,w422⟩ -
    dsimp only [aq,nq,cq]
    refine e_one 7 (zo kr rfl rfl rfl rfl rfl sz44 rfl (.t4 .nil) ?_)
    refine zM kr<|zK<|zf<|zc<|e_p (zI (z:=3) rfl rfl (w64 dd))<|e_mv rfl<|zk<|zga<|zW<|zj<|zc<|e_p (zS rfl rfl)<|zk<|zf<|zj<|zua rfl rfl<|zla<|zn<|zn<|zC<|zf ?_
    have e23:(((((0:Int):Rat)+(((yp tp mm).1.1)*vv.1))+(((yp tp mm).1.2.1)*vv.2.1))+(((yp tp mm).1.2.2)*vv.2.2):Rat)=(yu (yp tp mm) vv).1:=by rfl
    rw [e23]
    refine zc<|e_mv rfl<|e_ru (zd 0 ty44 rfl rfl (.t4 .nil))<|e_p (zi (i:=0) yh sz44 rfl rfl dd rfl)<|zl 2 rfl rfl rfl rfl rfl sz44 rfl (.t4 .nil) (.s (.s .z))<|zk<|zK<|zf<|zc<|e_p (zI (z:=1) rfl rfl (w64 dd))<|e_mv rfl<|zk<|zga<|zW<|zj<|zc<|e_p (zS rfl rfl)<|zk<|zf<|zj<|zaa rfl rfl<|zB<|zf<|zj<|zu<|zj<|zc<|e_mv rfl<|e_p (zh rfl)<|zk<|zf<|zj<|zc<|zG rfl rfl (.c rfl .n) ce71 (zy (z:=0) (hz:=yC)) (.n) ?_
    rintro ⟨w324,w425⟩ -
    dsimp only [aq,nq,cq]
    refine zJ rfl rfl (zp zr44 rfl) (fun b26=> ?_)
    refine zl 0 rfl rfl rfl rfl rfl sz44 rfl (.t4 .nil) .z<|zk<|zf<|zj<|zj<|zc<|e_mv rfl<|zk<|zf<|zu<|zLa<|zW<|zj<|zc<|e_p (zS rfl rfl)<|zk<|zf<|zj<|zaa rfl rfl<|zB<|zf<|zj<|zu<|zj<|zc<|e_mv rfl<|e_p (zh rfl)<|zk<|zf<|zj<|zc<|e_mv rfl<|e_mv rfl<|e_p (zi (i:=1) yo sz106 rfl rfl dd rfl)<|e_p (zi (i:=0) yh sz44 rfl rfl dd rfl)<|e_ru (zd 6 ty44 rfl rfl (.s8 (.s4 (.t4 .nil))))<|zJ rfl rfl (zp zr44 rfl) (fun b27=> ?_)
    refine zl 0 rfl rfl rfl rfl rfl sz44 rfl (.t4 .nil) .z<|zk<|zf<|zIa (X:=Wd×Wd) (fun x=>True) (fun x=>[(11,ye (some ⟨b27,0,none⟩)),(10,yc yd 0),(16,yc yd 0),(9,ye (some ⟨b26,0,none⟩)),(8,yc yd 1),(12,yc yd 1),(7,ye (some ⟨b4,0,none⟩)),(6,ye (some ⟨b3,0,none⟩)),(4,ye (some ⟨b2,0,none⟩)),(3,ye (some ⟨b1,0,none⟩)),(2,.bool tp)]) (fun x=>[boxA b27 44 (cw [x.1,x.2]),boxA b26 44 (cw [w324,w425]),boxA b4 106 (cw [w321,w422,wz,wz,wz,wz]),boxA b3 106 (cw [wz,wz,wz,wz,wz,wz]),boxA b2 106 (cw [x1,x2,x3,x4,x5,x6]),boxA b1 117 (cw [u1,u2,u3,u4,u5,u6,u7,u8,u9,u10,u11,u12,u13,u14,u15,u16,u17,u18])]) (fun x=>[qF true x.1 x.2 ((yp tp mm).2.1.1),qF true w324 w425 ((0:Int):Rat),qF true w321 w422 ((yu (yp tp mm) vv).1),qF true u1 u2 (mm.1.1),qF true u3 u4 (mm.1.2.1),qF true u5 u6 (mm.1.2.2),qF true u7 u8 (mm.2.1.1),qF true u9 u10 (mm.2.1.2.1),qF true u11 u12 (mm.2.1.2.2),qF true u13 u14 (mm.2.2.1),qF true u15 u16 (mm.2.2.2.1),qF true u17 u18 (mm.2.2.2.2),qF true x1 x2 (vv.1),qF true x3 x4 (vv.2.1),qF true x5 x6 (vv.2.2)]) ?_ ?_
    ·
     refine zj<|zc<|e_mv rfl<|zk<|zf<|zhb rfl (fun h24=> ?_) (fun h24=> ?_)
     ·
      refine zc<|e_mv rfl<|e_mv rfl<|e_p (zi (i:=0) yo sz106 rfl rfl dd rfl)<|e_p (zi (i:=1) yh sz44 rfl rfl dd rfl)<|e_ru (zd 7 ty44 rfl rfl (.s4 (.t4 .nil)))<|zl 0 rfl rfl rfl rfl rfl sz44 rfl (.t4 .nil) .z<|zk ?_
      exact zna (u3,u4) (show True from by first|trivial|omega|simp_all) ((.of rfl):SubM _ _) (ho:=((.of [0,0,2,2,2,2] rfl):PickO _ _ _)) ((.e (j:=6) rfl (by rw [h24];rfl) (.of [0,1,5,6,7,8,9,10,11,12,13,14,15,16] rfl)):SelR _ _ _)
     ·
      refine zB ?_
      exact zna (u7,u8) (show True from by first|trivial|omega|simp_all) ((.of rfl):SubM _ _) (ho:=((.of [0,0,2,2,2,2] rfl):PickO _ _ _)) ((.e (j:=8) rfl (by rw [h24];rfl) (.of [0,1,5,6,7,8,9,10,11,12,13,14,15,16] rfl)):SelR _ _ _)
    ·
     rintro ⟨wy10,vy10⟩ -
     dsimp only [cw,cS]
     refine zba (.c (i:=1) rfl (.c (i:=0) rfl (.c (i:=0) rfl (.c (i:=0) rfl (.c (i:=0) rfl (.c (i:=0) rfl .n))))))<|zO (OW:=[boxA b26 44 (cw [w324,w425])]) (O:=[boxA b27 44 (cw [wy10,vy10]),boxA b4 106 (cw [w321,w422,wz,wz,wz,wz]),boxA b3 106 (cw [wz,wz,wz,wz,wz,wz]),boxA b2 106 (cw [x1,x2,x3,x4,x5,x6]),boxA b1 117 (cw [u1,u2,u3,u4,u5,u6,u7,u8,u9,u10,u11,u12,u13,u14,u15,u16,u17,u18])]) 7 mixed (.block (.then (.then (.block (.then (.block (.then (.then (.block (.then .ret)))))))))) kr<|e_uw 0 rfl rfl (zd 0 ty44 rfl rfl (.t4 .nil))<|e_uw 1 rfl rfl (zd 1 ty44 rfl rfl (.t4 .nil))<|e_dm 2 rfl rfl rfl<|e_pv 3 rfl rfl (zi (i:=0) yh sz44 rfl rfl dd rfl)<|e_uw 4 rfl rfl (zd 4 ty44 rfl rfl (.t4 .nil))<|e_one 5 (zm rfl rfl rfl rfl (.c rfl (.c rfl .n)) ce81 (zY (k1:=true) (u1:=wy10) (v1:=vy10) (q1:=(yp tp mm).2.1.1) (k2:=true) (u2:=x1) (v2:=x2) (q2:=vv.1) (hl:=yC)) (.c (j:=0) rfl (.c (j:=12) rfl .n)) ?_)
     rintro ⟨w328,w429⟩ -
     dsimp only [aq,nq,cq]
     refine e_one 6 (zm rfl rfl rfl rfl (.c rfl (.c rfl .n)) ce80 (zka (k1:=true) (u1:=w324) (v1:=w425) (q1:=((0:Int):Rat)) (k2:=true) (u2:=w328) (v2:=w429) (q2:=((yp tp mm).2.1.1)*vv.1) (hl:=yC)) (.c (j:=2) rfl (.c (j:=0) rfl .n)) ?_)
     rintro ⟨w330,w431⟩ -
     dsimp only [aq,nq,cq]
     refine e_one 7 (zo kr rfl rfl rfl rfl rfl sz44 rfl (.t4 .nil) ?_)
     refine zM kr<|zK<|zf<|zc<|e_p (zI (z:=1) rfl rfl (w64 dd))<|e_mv rfl<|zk<|zga<|zW<|zj<|zc<|e_p (zS rfl rfl)<|zk<|zf<|zj<|zaa rfl rfl<|zB<|zf<|zj<|zu<|zj<|zc<|e_mv rfl<|e_p (zh rfl)<|zk<|zf<|zj<|zc<|e_mv rfl<|e_mv rfl<|e_p (zi (i:=1) yo sz106 rfl rfl dd rfl)<|e_p (zi (i:=1) yh sz44 rfl rfl dd rfl)<|e_ru (zd 5 ty44 rfl rfl (.s8 (.s8 (.t4 .nil))))<|zJ rfl rfl (zp zr44 rfl) (fun b32=> ?_)
     refine zl 0 rfl rfl rfl rfl rfl sz44 rfl (.t4 .nil) .z<|zk<|zf<|zIa (X:=Wd×Wd) (fun x=>True) (fun x=>[(11,ye (some ⟨b32,0,none⟩)),(10,yc yd 1),(16,yc yd 1),(9,ye (some ⟨b26,0,none⟩)),(8,yc yd 1),(12,yc yd 1),(7,ye (some ⟨b4,0,none⟩)),(6,ye (some ⟨b3,0,none⟩)),(4,ye (some ⟨b2,0,none⟩)),(3,ye (some ⟨b1,0,none⟩)),(2,.bool tp)]) (fun x=>[boxA b32 44 (cw [x.1,x.2]),boxA b26 44 (cw [w330,w431]),boxA b4 106 (cw [w321,w422,wz,wz,wz,wz]),boxA b3 106 (cw [wz,wz,wz,wz,wz,wz]),boxA b2 106 (cw [x1,x2,x3,x4,x5,x6]),boxA b1 117 (cw [u1,u2,u3,u4,u5,u6,u7,u8,u9,u10,u11,u12,u13,u14,u15,u16,u17,u18])]) (fun x=>[qF true x.1 x.2 ((yp tp mm).2.1.2.1),qF true w330 w431 (((0:Int):Rat)+(((yp tp mm).2.1.1)*vv.1)),qF true w321 w422 ((yu (yp tp mm) vv).1),qF true u1 u2 (mm.1.1),qF true u3 u4 (mm.1.2.1),qF true u5 u6 (mm.1.2.2),qF true u7 u8 (mm.2.1.1),qF true u9 u10 (mm.2.1.2.1),qF true u11 u12 (mm.2.1.2.2),qF true u13 u14 (mm.2.2.1),qF true u15 u16 (mm.2.2.2.1),qF true u17 u18 (mm.2.2.2.2),qF true x1 x2 (vv.1),qF true x3 x4 (vv.2.1),qF true x5 x6 (vv.2.2)]) ?_ ?_
     ·
      refine zj<|zc<|e_mv rfl<|zk<|zf<|zhb rfl (fun h24=> ?_) (fun h24=> ?_)
      ·
       refine zc<|e_mv rfl<|e_mv rfl<|e_p (zi (i:=1) yo sz106 rfl rfl dd rfl)<|e_p (zi (i:=1) yh sz44 rfl rfl dd rfl)<|e_ru (zd 6 ty44 rfl rfl (.s8 (.s8 (.t4 .nil))))<|zl 0 rfl rfl rfl rfl rfl sz44 rfl (.t4 .nil) .z<|zk ?_
       exact zna (u9,u10) (show True from by first|trivial|omega|simp_all) ((.of rfl):SubM _ _) (ho:=((.of [0,0,1,1,1,1] rfl):PickO _ _ _)) ((.e (j:=9) rfl (by rw [h24];rfl) (.of [0,4,5,6,7,8,9,10,11,12,13,14,15,16] rfl)):SelR _ _ _)
      ·
       refine zB ?_
       exact zna (u9,u10) (show True from by first|trivial|omega|simp_all) ((.of rfl):SubM _ _) (ho:=((.of [0,0,1,1,1,1] rfl):PickO _ _ _)) ((.e (j:=9) rfl (by rw [h24];rfl) (.of [0,4,5,6,7,8,9,10,11,12,13,14,15,16] rfl)):SelR _ _ _)
     ·
      rintro ⟨wy11,vy11⟩ -
      dsimp only [cw,cS]
      refine zba (.c (i:=1) rfl (.c (i:=0) rfl (.c (i:=0) rfl (.c (i:=0) rfl (.c (i:=0) rfl (.c (i:=0) rfl .n))))))<|zO (OW:=[boxA b26 44 (cw [w330,w431])]) (O:=[boxA b32 44 (cw [wy11,vy11]),boxA b4 106 (cw [w321,w422,wz,wz,wz,wz]),boxA b3 106 (cw [wz,wz,wz,wz,wz,wz]),boxA b2 106 (cw [x1,x2,x3,x4,x5,x6]),boxA b1 117 (cw [u1,u2,u3,u4,u5,u6,u7,u8,u9,u10,u11,u12,u13,u14,u15,u16,u17,u18])]) 7 mixed (.block (.then (.then (.block (.then (.block (.then (.then (.block (.then .ret)))))))))) kr<|e_uw 0 rfl rfl (zd 0 ty44 rfl rfl (.t4 .nil))<|e_uw 1 rfl rfl (zd 1 ty44 rfl rfl (.t4 .nil))<|e_dm 2 rfl rfl rfl<|e_pv 3 rfl rfl (zi (i:=1) yh sz44 rfl rfl dd rfl)<|e_uw 4 rfl rfl (zd 4 ty44 rfl rfl (.s4 (.t4 .nil)))<|e_one 5 (zm rfl rfl rfl rfl (.c rfl (.c rfl .n)) ce81 (zY (k1:=true) (u1:=wy11) (v1:=vy11) (q1:=(yp tp mm).2.1.2.1) (k2:=true) (u2:=x3) (v2:=x4) (q2:=vv.2.1) (hl:=yC)) (.c (j:=0) rfl (.c (j:=13) rfl .n)) ?_)
      rintro ⟨w333,w434⟩ -
      dsimp only [aq,nq,cq]
      refine e_one 6 (zm rfl rfl rfl rfl (.c rfl (.c rfl .n)) ce80 (zka (k1:=true) (u1:=w330) (v1:=w431) (q1:=((0:Int):Rat)+(((yp tp mm).2.1.1)*vv.1)) (k2:=true) (u2:=w333) (v2:=w434) (q2:=((yp tp mm).2.1.2.1)*vv.2.1) (hl:=yC)) (.c (j:=2) rfl (.c (j:=0) rfl .n)) ?_)
      rintro ⟨w335,w436⟩ -
      dsimp only [aq,nq,cq]
      refine e_one 7 (zo kr rfl rfl rfl rfl rfl sz44 rfl (.t4 .nil) ?_)
      refine zM kr<|zK<|zf<|zc<|e_p (zI (z:=2) rfl rfl (w64 dd))<|e_mv rfl<|zk<|zga<|zW<|zj<|zc<|e_p (zS rfl rfl)<|zk<|zf<|zj<|zaa rfl rfl<|zB<|zf<|zj<|zu<|zj<|zc<|e_mv rfl<|e_p (zh rfl)<|zk<|zf<|zj<|zc<|e_mv rfl<|e_mv rfl<|e_p (zi (i:=1) yo sz106 rfl rfl dd rfl)<|e_p (zi (i:=2) yh sz44 rfl rfl dd rfl)<|e_ru (zd 5 ty44 rfl rfl (.s8 (.s8 (.s4 (.t4 .nil)))))<|zJ rfl rfl (zp zr44 rfl) (fun b37=> ?_)
      refine zl 0 rfl rfl rfl rfl rfl sz44 rfl (.t4 .nil) .z<|zk<|zf<|zIa (X:=Wd×Wd) (fun x=>True) (fun x=>[(11,ye (some ⟨b37,0,none⟩)),(10,yc yd 2),(16,yc yd 2),(9,ye (some ⟨b26,0,none⟩)),(8,yc yd 1),(12,yc yd 1),(7,ye (some ⟨b4,0,none⟩)),(6,ye (some ⟨b3,0,none⟩)),(4,ye (some ⟨b2,0,none⟩)),(3,ye (some ⟨b1,0,none⟩)),(2,.bool tp)]) (fun x=>[boxA b37 44 (cw [x.1,x.2]),boxA b26 44 (cw [w335,w436]),boxA b4 106 (cw [w321,w422,wz,wz,wz,wz]),boxA b3 106 (cw [wz,wz,wz,wz,wz,wz]),boxA b2 106 (cw [x1,x2,x3,x4,x5,x6]),boxA b1 117 (cw [u1,u2,u3,u4,u5,u6,u7,u8,u9,u10,u11,u12,u13,u14,u15,u16,u17,u18])]) (fun x=>[qF true x.1 x.2 ((yp tp mm).2.1.2.2),qF true w335 w436 ((((0:Int):Rat)+(((yp tp mm).2.1.1)*vv.1))+(((yp tp mm).2.1.2.1)*vv.2.1)),qF true w321 w422 ((yu (yp tp mm) vv).1),qF true u1 u2 (mm.1.1),qF true u3 u4 (mm.1.2.1),qF true u5 u6 (mm.1.2.2),qF true u7 u8 (mm.2.1.1),qF true u9 u10 (mm.2.1.2.1),qF true u11 u12 (mm.2.1.2.2),qF true u13 u14 (mm.2.2.1),qF true u15 u16 (mm.2.2.2.1),qF true u17 u18 (mm.2.2.2.2),qF true x1 x2 (vv.1),qF true x3 x4 (vv.2.1),qF true x5 x6 (vv.2.2)]) ?_ ?_
      ·
       refine zj<|zc<|e_mv rfl<|zk<|zf<|zhb rfl (fun h24=> ?_) (fun h24=> ?_)
       ·
        refine zc<|e_mv rfl<|e_mv rfl<|e_p (zi (i:=2) yo sz106 rfl rfl dd rfl)<|e_p (zi (i:=1) yh sz44 rfl rfl dd rfl)<|e_ru (zd 6 ty44 rfl rfl (.s8 (.s8 (.s8 (.s4 (.t4 .nil))))))<|zl 0 rfl rfl rfl rfl rfl sz44 rfl (.t4 .nil) .z<|zk ?_
        exact zna (u15,u16) (show True from by first|trivial|omega|simp_all) ((.of rfl):SubM _ _) (ho:=((.of [0,0,1,1,1,1] rfl):PickO _ _ _)) ((.e (j:=12) rfl (by rw [h24];rfl) (.of [0,4,5,6,7,8,9,10,11,12,13,14,15,16] rfl)):SelR _ _ _)
       ·
        refine zB ?_
        exact zna (u11,u12) (show True from by first|trivial|omega|simp_all) ((.of rfl):SubM _ _) (ho:=((.of [0,0,1,1,1,1] rfl):PickO _ _ _)) ((.e (j:=10) rfl (by rw [h24];rfl) (.of [0,4,5,6,7,8,9,10,11,12,13,14,15,16] rfl)):SelR _ _ _)
      ·
       rintro ⟨wy12,vy12⟩ -
       dsimp only [cw,cS]
       refine zba (.c (i:=1) rfl (.c (i:=0) rfl (.c (i:=0) rfl (.c (i:=0) rfl (.c (i:=0) rfl (.c (i:=0) rfl .n))))))<|zO (OW:=[boxA b26 44 (cw [w335,w436])]) (O:=[boxA b37 44 (cw [wy12,vy12]),boxA b4 106 (cw [w321,w422,wz,wz,wz,wz]),boxA b3 106 (cw [wz,wz,wz,wz,wz,wz]),boxA b2 106 (cw [x1,x2,x3,x4,x5,x6]),boxA b1 117 (cw [u1,u2,u3,u4,u5,u6,u7,u8,u9,u10,u11,u12,u13,u14,u15,u16,u17,u18])]) 7 mixed (.block (.then (.then (.block (.then (.block (.then (.then (.block (.then .ret)))))))))) kr<|e_uw 0 rfl rfl (zd 0 ty44 rfl rfl (.t4 .nil))<|e_uw 1 rfl rfl (zd 1 ty44 rfl rfl (.t4 .nil))<|e_dm 2 rfl rfl rfl<|e_pv 3 rfl rfl (zi (i:=2) yh sz44 rfl rfl dd rfl)<|e_uw 4 rfl rfl (zd 4 ty44 rfl rfl (.s8 (.t4 .nil)))<|e_one 5 (zm rfl rfl rfl rfl (.c rfl (.c rfl .n)) ce81 (zY (k1:=true) (u1:=wy12) (v1:=vy12) (q1:=(yp tp mm).2.1.2.2) (k2:=true) (u2:=x5) (v2:=x6) (q2:=vv.2.2) (hl:=yC)) (.c (j:=0) rfl (.c (j:=14) rfl .n)) ?_)
       rintro ⟨w338,w439⟩ -
       dsimp only [aq,nq,cq]
       refine e_one 6 (zm rfl rfl rfl rfl (.c rfl (.c rfl .n)) ce80 (zka (k1:=true) (u1:=w335) (v1:=w436) (q1:=(((0:Int):Rat)+(((yp tp mm).2.1.1)*vv.1))+(((yp tp mm).2.1.2.1)*vv.2.1)) (k2:=true) (u2:=w338) (v2:=w439) (q2:=((yp tp mm).2.1.2.2)*vv.2.2) (hl:=yC)) (.c (j:=2) rfl (.c (j:=0) rfl .n)) ?_)
       rintro ⟨w340,w441⟩ -
       dsimp only [aq,nq,cq]
       refine e_one 7 (zo kr rfl rfl rfl rfl rfl sz44 rfl (.t4 .nil) ?_)
       refine zM kr<|zK<|zf<|zc<|e_p (zI (z:=3) rfl rfl (w64 dd))<|e_mv rfl<|zk<|zga<|zW<|zj<|zc<|e_p (zS rfl rfl)<|zk<|zf<|zj<|zua rfl rfl<|zla<|zn<|zn<|zC<|zf ?_
       have e42:(((((0:Int):Rat)+(((yp tp mm).2.1.1)*vv.1))+(((yp tp mm).2.1.2.1)*vv.2.1))+(((yp tp mm).2.1.2.2)*vv.2.2):Rat)=(yu (yp tp mm) vv).2.1:=by rfl
       rw [e42]
       refine zc<|e_mv rfl<|e_ru (zd 0 ty44 rfl rfl (.t4 .nil))<|e_p (zi (i:=1) yh sz44 rfl rfl dd rfl)<|zl 2 rfl rfl rfl rfl rfl sz44 rfl (.s4 (.t4 .nil)) (.s (.s .z))<|zk<|zK<|zf<|zc<|e_p (zI (z:=2) rfl rfl (w64 dd))<|e_mv rfl<|zk<|zga<|zW<|zj<|zc<|e_p (zS rfl rfl)<|zk<|zf<|zj<|zaa rfl rfl<|zB<|zf<|zj<|zu<|zj<|zc<|e_mv rfl<|e_p (zh rfl)<|zk<|zf<|zj<|zc<|zG rfl rfl (.c rfl .n) ce71 (zy (z:=0) (hz:=yC)) (.n) ?_
       rintro ⟨w343,w444⟩ -
       dsimp only [aq,nq,cq]
       refine zJ rfl rfl (zp zr44 rfl) (fun b45=> ?_)
       refine zl 0 rfl rfl rfl rfl rfl sz44 rfl (.t4 .nil) .z<|zk<|zf<|zj<|zj<|zc<|e_mv rfl<|zk<|zf<|zu<|zLa<|zW<|zj<|zc<|e_p (zS rfl rfl)<|zk<|zf<|zj<|zaa rfl rfl<|zB<|zf<|zj<|zu<|zj<|zc<|e_mv rfl<|e_p (zh rfl)<|zk<|zf<|zj<|zc<|e_mv rfl<|e_mv rfl<|e_p (zi (i:=2) yo sz106 rfl rfl dd rfl)<|e_p (zi (i:=0) yh sz44 rfl rfl dd rfl)<|e_ru (zd 6 ty44 rfl rfl (.s8 (.s8 (.s8 (.t4 .nil)))))<|zJ rfl rfl (zp zr44 rfl) (fun b46=> ?_)
       refine zl 0 rfl rfl rfl rfl rfl sz44 rfl (.t4 .nil) .z<|zk<|zf<|zIa (X:=Wd×Wd) (fun x=>True) (fun x=>[(11,ye (some ⟨b46,0,none⟩)),(10,yc yd 0),(16,yc yd 0),(9,ye (some ⟨b45,0,none⟩)),(8,yc yd 2),(12,yc yd 2),(7,ye (some ⟨b4,0,none⟩)),(6,ye (some ⟨b3,0,none⟩)),(4,ye (some ⟨b2,0,none⟩)),(3,ye (some ⟨b1,0,none⟩)),(2,.bool tp)]) (fun x=>[boxA b46 44 (cw [x.1,x.2]),boxA b45 44 (cw [w343,w444]),boxA b4 106 (cw [w321,w422,w340,w441,wz,wz]),boxA b3 106 (cw [wz,wz,wz,wz,wz,wz]),boxA b2 106 (cw [x1,x2,x3,x4,x5,x6]),boxA b1 117 (cw [u1,u2,u3,u4,u5,u6,u7,u8,u9,u10,u11,u12,u13,u14,u15,u16,u17,u18])]) (fun x=>[qF true x.1 x.2 ((yp tp mm).2.2.1),qF true w343 w444 ((0:Int):Rat),qF true w340 w441 ((yu (yp tp mm) vv).2.1),qF true w321 w422 ((yu (yp tp mm) vv).1),qF true u1 u2 (mm.1.1),qF true u3 u4 (mm.1.2.1),qF true u5 u6 (mm.1.2.2),qF true u7 u8 (mm.2.1.1),qF true u9 u10 (mm.2.1.2.1),qF true u11 u12 (mm.2.1.2.2),qF true u13 u14 (mm.2.2.1),qF true u15 u16 (mm.2.2.2.1),qF true u17 u18 (mm.2.2.2.2),qF true x1 x2 (vv.1),qF true x3 x4 (vv.2.1),qF true x5 x6 (vv.2.2)]) ?_ ?_
       ·
        refine zj<|zc<|e_mv rfl<|zk<|zf<|zhb rfl (fun h24=> ?_) (fun h24=> ?_)
        ·
         refine zc<|e_mv rfl<|e_mv rfl<|e_p (zi (i:=0) yo sz106 rfl rfl dd rfl)<|e_p (zi (i:=2) yh sz44 rfl rfl dd rfl)<|e_ru (zd 7 ty44 rfl rfl (.s8 (.t4 .nil)))<|zl 0 rfl rfl rfl rfl rfl sz44 rfl (.t4 .nil) .z<|zk ?_
         exact zna (u5,u6) (show True from by first|trivial|omega|simp_all) ((.of rfl):SubM _ _) (ho:=((.of [0,0,2,2,2,2] rfl):PickO _ _ _)) ((.e (j:=8) rfl (by rw [h24];rfl) (.of [0,1,5,6,7,8,9,10,11,12,13,14,15,16,17] rfl)):SelR _ _ _)
        ·
         refine zB ?_
         exact zna (u13,u14) (show True from by first|trivial|omega|simp_all) ((.of rfl):SubM _ _) (ho:=((.of [0,0,2,2,2,2] rfl):PickO _ _ _)) ((.e (j:=12) rfl (by rw [h24];rfl) (.of [0,1,5,6,7,8,9,10,11,12,13,14,15,16,17] rfl)):SelR _ _ _)
       ·
        rintro ⟨wy20,vy20⟩ -
        dsimp only [cw,cS]
        refine zba (.c (i:=1) rfl (.c (i:=0) rfl (.c (i:=0) rfl (.c (i:=0) rfl (.c (i:=0) rfl (.c (i:=0) rfl .n))))))<|zO (OW:=[boxA b45 44 (cw [w343,w444])]) (O:=[boxA b46 44 (cw [wy20,vy20]),boxA b4 106 (cw [w321,w422,w340,w441,wz,wz]),boxA b3 106 (cw [wz,wz,wz,wz,wz,wz]),boxA b2 106 (cw [x1,x2,x3,x4,x5,x6]),boxA b1 117 (cw [u1,u2,u3,u4,u5,u6,u7,u8,u9,u10,u11,u12,u13,u14,u15,u16,u17,u18])]) 7 mixed (.block (.then (.then (.block (.then (.block (.then (.then (.block (.then .ret)))))))))) kr<|e_uw 0 rfl rfl (zd 0 ty44 rfl rfl (.t4 .nil))<|e_uw 1 rfl rfl (zd 1 ty44 rfl rfl (.t4 .nil))<|e_dm 2 rfl rfl rfl<|e_pv 3 rfl rfl (zi (i:=0) yh sz44 rfl rfl dd rfl)<|e_uw 4 rfl rfl (zd 4 ty44 rfl rfl (.t4 .nil))<|e_one 5 (zm rfl rfl rfl rfl (.c rfl (.c rfl .n)) ce81 (zY (k1:=true) (u1:=wy20) (v1:=vy20) (q1:=(yp tp mm).2.2.1) (k2:=true) (u2:=x1) (v2:=x2) (q2:=vv.1) (hl:=yC)) (.c (j:=0) rfl (.c (j:=13) rfl .n)) ?_)
        rintro ⟨w347,w448⟩ -
        dsimp only [aq,nq,cq]
        refine e_one 6 (zm rfl rfl rfl rfl (.c rfl (.c rfl .n)) ce80 (zka (k1:=true) (u1:=w343) (v1:=w444) (q1:=((0:Int):Rat)) (k2:=true) (u2:=w347) (v2:=w448) (q2:=((yp tp mm).2.2.1)*vv.1) (hl:=yC)) (.c (j:=2) rfl (.c (j:=0) rfl .n)) ?_)
        rintro ⟨w349,w450⟩ -
        dsimp only [aq,nq,cq]
        refine e_one 7 (zo kr rfl rfl rfl rfl rfl sz44 rfl (.t4 .nil) ?_)
        refine zM kr<|zK<|zf<|zc<|e_p (zI (z:=1) rfl rfl (w64 dd))<|e_mv rfl<|zk<|zga<|zW<|zj<|zc<|e_p (zS rfl rfl)<|zk<|zf<|zj<|zaa rfl rfl<|zB<|zf<|zj<|zu<|zj<|zc<|e_mv rfl<|e_p (zh rfl)<|zk<|zf<|zj<|zc<|e_mv rfl<|e_mv rfl<|e_p (zi (i:=2) yo sz106 rfl rfl dd rfl)<|e_p (zi (i:=1) yh sz44 rfl rfl dd rfl)<|e_ru (zd 5 ty44 rfl rfl (.s8 (.s8 (.s8 (.s4 (.t4 .nil))))))<|zJ rfl rfl (zp zr44 rfl) (fun b51=> ?_)
        refine zl 0 rfl rfl rfl rfl rfl sz44 rfl (.t4 .nil) .z<|zk<|zf<|zIa (X:=Wd×Wd) (fun x=>True) (fun x=>[(11,ye (some ⟨b51,0,none⟩)),(10,yc yd 1),(16,yc yd 1),(9,ye (some ⟨b45,0,none⟩)),(8,yc yd 2),(12,yc yd 2),(7,ye (some ⟨b4,0,none⟩)),(6,ye (some ⟨b3,0,none⟩)),(4,ye (some ⟨b2,0,none⟩)),(3,ye (some ⟨b1,0,none⟩)),(2,.bool tp)]) (fun x=>[boxA b51 44 (cw [x.1,x.2]),boxA b45 44 (cw [w349,w450]),boxA b4 106 (cw [w321,w422,w340,w441,wz,wz]),boxA b3 106 (cw [wz,wz,wz,wz,wz,wz]),boxA b2 106 (cw [x1,x2,x3,x4,x5,x6]),boxA b1 117 (cw [u1,u2,u3,u4,u5,u6,u7,u8,u9,u10,u11,u12,u13,u14,u15,u16,u17,u18])]) (fun x=>[qF true x.1 x.2 ((yp tp mm).2.2.2.1),qF true w349 w450 (((0:Int):Rat)+(((yp tp mm).2.2.1)*vv.1)),qF true w340 w441 ((yu (yp tp mm) vv).2.1),qF true w321 w422 ((yu (yp tp mm) vv).1),qF true u1 u2 (mm.1.1),qF true u3 u4 (mm.1.2.1),qF true u5 u6 (mm.1.2.2),qF true u7 u8 (mm.2.1.1),qF true u9 u10 (mm.2.1.2.1),qF true u11 u12 (mm.2.1.2.2),qF true u13 u14 (mm.2.2.1),qF true u15 u16 (mm.2.2.2.1),qF true u17 u18 (mm.2.2.2.2),qF true x1 x2 (vv.1),qF true x3 x4 (vv.2.1),qF true x5 x6 (vv.2.2)]) ?_ ?_
        ·
         refine zj<|zc<|e_mv rfl<|zk<|zf<|zhb rfl (fun h24=> ?_) (fun h24=> ?_)
         ·
          refine zc<|e_mv rfl<|e_mv rfl<|e_p (zi (i:=1) yo sz106 rfl rfl dd rfl)<|e_p (zi (i:=2) yh sz44 rfl rfl dd rfl)<|e_ru (zd 6 ty44 rfl rfl (.s8 (.s8 (.s4 (.t4 .nil)))))<|zl 0 rfl rfl rfl rfl rfl sz44 rfl (.t4 .nil) .z<|zk ?_
          exact zna (u11,u12) (show True from by first|trivial|omega|simp_all) ((.of rfl):SubM _ _) (ho:=((.of [0,0,1,1,1,1] rfl):PickO _ _ _)) ((.e (j:=11) rfl (by rw [h24];rfl) (.of [0,4,5,6,7,8,9,10,11,12,13,14,15,16,17] rfl)):SelR _ _ _)
         ·
          refine zB ?_
          exact zna (u15,u16) (show True from by first|trivial|omega|simp_all) ((.of rfl):SubM _ _) (ho:=((.of [0,0,1,1,1,1] rfl):PickO _ _ _)) ((.e (j:=13) rfl (by rw [h24];rfl) (.of [0,4,5,6,7,8,9,10,11,12,13,14,15,16,17] rfl)):SelR _ _ _)
        ·
         rintro ⟨wy21,vy21⟩ -
         dsimp only [cw,cS]
         refine zba (.c (i:=1) rfl (.c (i:=0) rfl (.c (i:=0) rfl (.c (i:=0) rfl (.c (i:=0) rfl (.c (i:=0) rfl .n))))))<|zO (OW:=[boxA b45 44 (cw [w349,w450])]) (O:=[boxA b51 44 (cw [wy21,vy21]),boxA b4 106 (cw [w321,w422,w340,w441,wz,wz]),boxA b3 106 (cw [wz,wz,wz,wz,wz,wz]),boxA b2 106 (cw [x1,x2,x3,x4,x5,x6]),boxA b1 117 (cw [u1,u2,u3,u4,u5,u6,u7,u8,u9,u10,u11,u12,u13,u14,u15,u16,u17,u18])]) 7 mixed (.block (.then (.then (.block (.then (.block (.then (.then (.block (.then .ret)))))))))) kr<|e_uw 0 rfl rfl (zd 0 ty44 rfl rfl (.t4 .nil))<|e_uw 1 rfl rfl (zd 1 ty44 rfl rfl (.t4 .nil))<|e_dm 2 rfl rfl rfl<|e_pv 3 rfl rfl (zi (i:=1) yh sz44 rfl rfl dd rfl)<|e_uw 4 rfl rfl (zd 4 ty44 rfl rfl (.s4 (.t4 .nil)))<|e_one 5 (zm rfl rfl rfl rfl (.c rfl (.c rfl .n)) ce81 (zY (k1:=true) (u1:=wy21) (v1:=vy21) (q1:=(yp tp mm).2.2.2.1) (k2:=true) (u2:=x3) (v2:=x4) (q2:=vv.2.1) (hl:=yC)) (.c (j:=0) rfl (.c (j:=14) rfl .n)) ?_)
         rintro ⟨w352,w453⟩ -
         dsimp only [aq,nq,cq]
         refine e_one 6 (zm rfl rfl rfl rfl (.c rfl (.c rfl .n)) ce80 (zka (k1:=true) (u1:=w349) (v1:=w450) (q1:=((0:Int):Rat)+(((yp tp mm).2.2.1)*vv.1)) (k2:=true) (u2:=w352) (v2:=w453) (q2:=((yp tp mm).2.2.2.1)*vv.2.1) (hl:=yC)) (.c (j:=2) rfl (.c (j:=0) rfl .n)) ?_)
         rintro ⟨w354,w455⟩ -
         dsimp only [aq,nq,cq]
         refine e_one 7 (zo kr rfl rfl rfl rfl rfl sz44 rfl (.t4 .nil) ?_)
         refine zM kr<|zK<|zf<|zc<|e_p (zI (z:=2) rfl rfl (w64 dd))<|e_mv rfl<|zk<|zga<|zW<|zj<|zc<|e_p (zS rfl rfl)<|zk<|zf<|zj<|zaa rfl rfl<|zB<|zf<|zj<|zu<|zj<|zc<|e_mv rfl<|e_p (zh rfl)<|zk<|zf<|zj<|zc<|e_mv rfl<|e_mv rfl<|e_p (zi (i:=2) yo sz106 rfl rfl dd rfl)<|e_p (zi (i:=2) yh sz44 rfl rfl dd rfl)<|e_ru (zd 5 ty44 rfl rfl (.s8 (.s8 (.s8 (.s8 (.t4 .nil))))))<|zJ rfl rfl (zp zr44 rfl) (fun b56=> ?_)
         refine zl 0 rfl rfl rfl rfl rfl sz44 rfl (.t4 .nil) .z<|zk<|zf<|zIa (X:=Wd×Wd) (fun x=>True) (fun x=>[(11,ye (some ⟨b56,0,none⟩)),(10,yc yd 2),(16,yc yd 2),(9,ye (some ⟨b45,0,none⟩)),(8,yc yd 2),(12,yc yd 2),(7,ye (some ⟨b4,0,none⟩)),(6,ye (some ⟨b3,0,none⟩)),(4,ye (some ⟨b2,0,none⟩)),(3,ye (some ⟨b1,0,none⟩)),(2,.bool tp)]) (fun x=>[boxA b56 44 (cw [x.1,x.2]),boxA b45 44 (cw [w354,w455]),boxA b4 106 (cw [w321,w422,w340,w441,wz,wz]),boxA b3 106 (cw [wz,wz,wz,wz,wz,wz]),boxA b2 106 (cw [x1,x2,x3,x4,x5,x6]),boxA b1 117 (cw [u1,u2,u3,u4,u5,u6,u7,u8,u9,u10,u11,u12,u13,u14,u15,u16,u17,u18])]) (fun x=>[qF true x.1 x.2 ((yp tp mm).2.2.2.2),qF true w354 w455 ((((0:Int):Rat)+(((yp tp mm).2.2.1)*vv.1))+(((yp tp mm).2.2.2.1)*vv.2.1)),qF true w340 w441 ((yu (yp tp mm) vv).2.1),qF true w321 w422 ((yu (yp tp mm) vv).1),qF true u1 u2 (mm.1.1),qF true u3 u4 (mm.1.2.1),qF true u5 u6 (mm.1.2.2),qF true u7 u8 (mm.2.1.1),qF true u9 u10 (mm.2.1.2.1),qF true u11 u12 (mm.2.1.2.2),qF true u13 u14 (mm.2.2.1),qF true u15 u16 (mm.2.2.2.1),qF true u17 u18 (mm.2.2.2.2),qF true x1 x2 (vv.1),qF true x3 x4 (vv.2.1),qF true x5 x6 (vv.2.2)]) ?_ ?_
         ·
          refine zj<|zc<|e_mv rfl<|zk<|zf<|zhb rfl (fun h24=> ?_) (fun h24=> ?_)
          ·
           refine zc<|e_mv rfl<|e_mv rfl<|e_p (zi (i:=2) yo sz106 rfl rfl dd rfl)<|e_p (zi (i:=2) yh sz44 rfl rfl dd rfl)<|e_ru (zd 6 ty44 rfl rfl (.s8 (.s8 (.s8 (.s8 (.t4 .nil))))))<|zl 0 rfl rfl rfl rfl rfl sz44 rfl (.t4 .nil) .z<|zk ?_
           exact zna (u17,u18) (show True from by first|trivial|omega|simp_all) ((.of rfl):SubM _ _) (ho:=((.of [0,0,1,1,1,1] rfl):PickO _ _ _)) ((.e (j:=14) rfl (by rw [h24];rfl) (.of [0,4,5,6,7,8,9,10,11,12,13,14,15,16,17] rfl)):SelR _ _ _)
          ·
           refine zB ?_
           exact zna (u17,u18) (show True from by first|trivial|omega|simp_all) ((.of rfl):SubM _ _) (ho:=((.of [0,0,1,1,1,1] rfl):PickO _ _ _)) ((.e (j:=14) rfl (by rw [h24];rfl) (.of [0,4,5,6,7,8,9,10,11,12,13,14,15,16,17] rfl)):SelR _ _ _)
         ·
          rintro ⟨wy22,vy22⟩ -
          dsimp only [cw,cS]
          refine zba (.c (i:=1) rfl (.c (i:=0) rfl (.c (i:=0) rfl (.c (i:=0) rfl (.c (i:=0) rfl (.c (i:=0) rfl .n))))))<|zO (OW:=[boxA b45 44 (cw [w354,w455])]) (O:=[boxA b56 44 (cw [wy22,vy22]),boxA b4 106 (cw [w321,w422,w340,w441,wz,wz]),boxA b3 106 (cw [wz,wz,wz,wz,wz,wz]),boxA b2 106 (cw [x1,x2,x3,x4,x5,x6]),boxA b1 117 (cw [u1,u2,u3,u4,u5,u6,u7,u8,u9,u10,u11,u12,u13,u14,u15,u16,u17,u18])]) 7 mixed (.block (.then (.then (.block (.then (.block (.then (.then (.block (.then .ret)))))))))) kr<|e_uw 0 rfl rfl (zd 0 ty44 rfl rfl (.t4 .nil))<|e_uw 1 rfl rfl (zd 1 ty44 rfl rfl (.t4 .nil))<|e_dm 2 rfl rfl rfl<|e_pv 3 rfl rfl (zi (i:=2) yh sz44 rfl rfl dd rfl)<|e_uw 4 rfl rfl (zd 4 ty44 rfl rfl (.s8 (.t4 .nil)))<|e_one 5 (zm rfl rfl rfl rfl (.c rfl (.c rfl .n)) ce81 (zY (k1:=true) (u1:=wy22) (v1:=vy22) (q1:=(yp tp mm).2.2.2.2) (k2:=true) (u2:=x5) (v2:=x6) (q2:=vv.2.2) (hl:=yC)) (.c (j:=0) rfl (.c (j:=15) rfl .n)) ?_)
          rintro ⟨w357,w458⟩ -
          dsimp only [aq,nq,cq]
          refine e_one 6 (zm rfl rfl rfl rfl (.c rfl (.c rfl .n)) ce80 (zka (k1:=true) (u1:=w354) (v1:=w455) (q1:=(((0:Int):Rat)+(((yp tp mm).2.2.1)*vv.1))+(((yp tp mm).2.2.2.1)*vv.2.1)) (k2:=true) (u2:=w357) (v2:=w458) (q2:=((yp tp mm).2.2.2.2)*vv.2.2) (hl:=yC)) (.c (j:=2) rfl (.c (j:=0) rfl .n)) ?_)
          rintro ⟨w359,w460⟩ -
          dsimp only [aq,nq,cq]
          refine e_one 7 (zo kr rfl rfl rfl rfl rfl sz44 rfl (.t4 .nil) ?_)
          refine zM kr<|zK<|zf<|zc<|e_p (zI (z:=3) rfl rfl (w64 dd))<|e_mv rfl<|zk<|zga<|zW<|zj<|zc<|e_p (zS rfl rfl)<|zk<|zf<|zj<|zua rfl rfl<|zla<|zn<|zn<|zC<|zf ?_
          have e61:(((((0:Int):Rat)+(((yp tp mm).2.2.1)*vv.1))+(((yp tp mm).2.2.2.1)*vv.2.1))+(((yp tp mm).2.2.2.2)*vv.2.2):Rat)=(yu (yp tp mm) vv).2.2:=by rfl
          rw [e61]
          refine zc<|e_mv rfl<|e_ru (zd 0 ty44 rfl rfl (.t4 .nil))<|e_p (zi (i:=2) yh sz44 rfl rfl dd rfl)<|zl 2 rfl rfl rfl rfl rfl sz44 rfl (.s8 (.t4 .nil)) (.s (.s .z))<|zk<|zK<|zf<|zc<|e_p (zI (z:=3) rfl rfl (w64 dd))<|e_mv rfl<|zk<|zga<|zW<|zj<|zc<|e_p (zS rfl rfl)<|zk<|zf<|zj<|zua rfl rfl<|zla<|zn<|zn<|zC<|zf<|zj<|zc<|e_ru (zd 2 ty106 rfl rfl (.t8 (.t4 .nil)))<|zl 3 rfl rfl rfl rfl rfl sz106 rfl (.t8 (.t4 .nil)) (.s (.s (.s .z)))<|zk<|zf<|zR ?_
          exact zL Tryz.results75 (w321,w422,w340,w441,w359,w460) trivial (zr 3 ty106 rfl rfl (.t8 (.t4 .nil))) rfl (ho:=(.n:PickO _ _ _)) ((.of [5,4,0] rfl):SelR _ _ _)
end Go.Proofs.YtjeahiahjgifgaaGreatDoor.Sp
namespace Go.Proofs.YtjeahiahjgifgaaGreatDoor.Sp
open Go
set_option linter.unusedVariables false
set_option maxRecDepth 100000
set_option maxHeartbeats 8000000
theorem zhd {s:Sh.S} {cm:Sh.C} {u:Int} {v:Int} {h:Int} (hok:Sh.Ok s) (hlt:s.ta<s.tb) (hc:Sh.cam cm) (hu:Sh.inb u) (hv:Sh.inb v) (hh:Sh.inb h) (hr:0≤yk v∧yk v<64):Con Tryz.prog 47 [.agg #[yc yd (s.fi),yc yd (s.st),yc yd (s.ta),yc yd (s.xa),yc yd (s.ya),yc yd (s.za),yc yd (s.qa),yc yd (s.qb),yc yd (s.qc),yc yd (s.qd),yc yd (s.tb),yc yd (s.xb),yc yd (s.yb),yc yd (s.zb),yc yd (s.ra),yc yd (s.rb),yc yd (s.rc),yc yd (s.rd)],.agg #[yc yd (cm.fo),yc yd (cm.cx),yc yd (cm.cy)],.agg #[yc yd u,yc yd v],yc yd h] [] [sgF] (Y:=Wd×Wd×Wd×Wd) (fun y=>Sh.gc s cm u v h≠0→y.1=wz∧y.2.1=wz∧y.2.2.1=wz∧y.2.2.2=wz) (fun y=> .tuple #[.agg #[y.1.b,y.1.l,y.2.1.b,y.2.1.l,y.2.2.1.b,y.2.2.1.l,y.2.2.2.b,y.2.2.2.l],yc yd (Sh.gc s cm u v h)]) (fun y=>[]) (fun y=>[qF (decide (Sh.gc s cm u v h=0)) y.1 y.2.1 (Sh.gx s cm u v h),qF (decide (Sh.gc s cm u v h=0)) y.2.2.1 y.2.2.2 (Sh.gy s cm u v h)]):=by
 refine zx Tryz.func47 rfl rfl rfl (fun c=> ?_)
 show RunC _ _ _ _ _ [(0,.agg #[yc yd (s.fi),yc yd (s.st),yc yd (s.ta),yc yd (s.xa),yc yd (s.ya),yc yd (s.za),yc yd (s.qa),yc yd (s.qb),yc yd (s.qc),yc yd (s.qd),yc yd (s.tb),yc yd (s.xb),yc yd (s.yb),yc yd (s.zb),yc yd (s.ra),yc yd (s.rb),yc yd (s.rc),yc yd (s.rd)]),(1,.agg #[yc yd (cm.fo),yc yd (cm.cx),yc yd (cm.cy)]),(2,.agg #[yc yd u,yc yd v]),(3,yc yd h)] [] [sgF]
 have hr2:0≤yk v∧yk v≤64:=⟨hr.1,Int.le_of_lt hr.2⟩
 have hcu:=hc
 unfold Sh.cam at hcu
 have hu2:=hu
 have hv2:=hv
 have hh2:=hh
 unfold Sh.inb at hu2 hv2 hh2
 have hpq:=Sh.pos_hq hok hr2
 obtain ⟨hp1,hp2,hp3⟩:=hpq
 have hgd:=Sh.gd_hq hok hc hu hv hr
 obtain ⟨hgd1,hgd2,hgd3⟩:=hgd
 have hgk:=Sh.gk_hq hok hc hu hv hr hh
 have hsm:=Sh.rot_b hok hr2
 refine zj<|zc<|zJ rfl rfl (zda rfl rfl) (fun b1=> ?_)
 refine zJ rfl rfl (zda rfl rfl) (fun b2=> ?_)
 refine zJ rfl rfl (zda rfl rfl) (fun b3=> ?_)
 refine zJ rfl rfl (zp zr46 rfl) (fun b4=> ?_)
 refine e_p (zh rfl)<|zk<|zf<|zj<|zc<|e_ru (zd 1 ty35 rfl rfl (.t2 .nil))<|zV rfl rfl (.c rfl .n) ce74 (zId (u:=u) (v:=v)) (.n)<|e_p (zh rfl)<|zk<|zf<|zj<|zc<|e_ru (zd 3 ty29 rfl rfl (.t8 (.t8 (.t2 .nil))))<|e_mv rfl<|zV rfl rfl (.c rfl (.c rfl .n)) ce43 (zRb (s:=s) (r:=(yk v)) (hok:=ass) (hr:=yn)) (.n)<|zJ rfl rfl (zp zr25 rfl) (fun b5=> ?_)
 refine zl 0 rfl rfl rfl rfl rfl sz25 rfl (.t4 .nil) .z<|zk<|zf<|zj<|zj<|zc<|e_ru (zd 0 ty25 rfl rfl (.t4 .nil))<|e_p (zv zr25 rfl yA (.c sz3 (.c sz3 (.c sz3 (.c sz3 .n)))) .n .n)<|e_p (zBb (p:=(yf s (yk v)).1=0∧(yf s (yk v)).2.1=0∧(yf s (yk v)).2.2.1=0∧(yf s (yk v)).2.2.2=0) kr rfl rfl (zAb yA kr (zQa dd ty3 rfl rfl (zPa yv) (zQa dd ty3 rfl rfl (zPa yv) (zQa dd ty3 rfl rfl (zPa yv) (zQa dd ty3 rfl rfl (zPa yv) zOc))))) (by simp [Bool.decide_and]))<|zk<|zf<|zT rfl (fun hz4=> ?_) (fun hz4=> ?_)
 ·
  refine zj<|zc<|e_p (zv zr46 rfl yt (.c sz44 (.c sz44 .n)) .n .n)<|zl 1 rfl rfl rfl rfl rfl sz46 rfl (.t8 .nil) (.s .z)<|e_p (zh rfl)<|zk<|zf<|zR<|zq<|zbb (qF false wz wz 0) (fun g _=>qF_none g) ?_
  have hg9:Sh.gc s cm u v h=13:=if_pos hz4
  have hg8:¬Sh.gc s cm u v h=0:=by rw [hg9];decide
  have hx9:Sh.gx s cm u v h=0:=if_neg hg8
  have hy9:Sh.gy s cm u v h=0:=if_neg hg8
  exact zDa yB (wz,wz,wz,wz) (fun _=>⟨rfl,rfl,rfl,rfl⟩) (zr 1 ty46 rfl rfl (.t8 .nil)) (zD rfl) (by rw [hg9];rfl) (ho:=(.n:PickO _ _ _)) ((.e (j:=0) rfl (by rw [hx9,decide_eq_false hg8]) (.e (j:=0) rfl (by rw [hy9,decide_eq_false hg8]) .n)):SelR _ _ _)
 ·
  refine zB<|zf<|zj<|zc<|e_ru (zd 4 ty29 rfl rfl (.t8 (.t8 (.t2 .nil))))<|e_mv rfl<|zG rfl rfl (.c rfl (.c rfl .n)) ce61 (zCc (s:=s) (r:=(yk v)) (hok:=ass) (hr:=yn) (hlt:=ass)) (.n) ?_
  rintro ⟨w16,w27,w38,w49,w510,w611⟩ -
  dsimp only [aq,nq,cq]
  refine zJ rfl rfl (zp zr106 rfl) (fun b12=> ?_)
  refine zl 0 rfl rfl rfl rfl rfl sz106 rfl (.t8 (.t4 .nil)) .z<|zk<|zf<|zj<|zO (OW:=[]) (O:=[boxA b12 106 (cw [w16,w27,w38,w49,w510,w611]),boxA b5 25 [yc yd ((yf s (yk v)).1),yc yd ((yf s (yk v)).2.1),yc yd ((yf s (yk v)).2.2.1),yc yd ((yf s (yk v)).2.2.2)],boxA b4 46 (cw [wz,wz,wz,wz]),boxA b3 35 [yc yd u,yc yd v],boxA b2 37 [yc yd (cm.fo),yc yd (cm.cx),yc yd (cm.cy)],boxA b1 29 (cS s)]) 22 mixed (.then .ret) kr<|e_u 0 rfl rfl (zd 1 ty25 rfl rfl (.t4 .nil))<|e_pv 2 rfl rfl (zg yx rfl sz3 rfl rfl)<|e_u 3 rfl rfl (ze 3 ty3 rfl rfl rfl)<|e_pv 4 rfl rfl (zg yz rfl sz35 rfl rfl)<|e_pv 5 rfl rfl (zg yx rfl sz3 rfl rfl)<|e_u 6 rfl rfl (ze 4 ty3 rfl rfl rfl)<|e_pv 7 rfl rfl (zma (z:=(u - cm.cx)) rfl rfl (w64 om))<|e_pv 9 rfl rfl (zg yx rfl sz3 rfl rfl)<|e_u 10 rfl rfl (ze 3 ty3 rfl rfl rfl)<|e_pv 11 rfl rfl (zg yz rfl sz35 rfl rfl)<|e_pv 12 rfl rfl (zg yx rfl sz3 rfl rfl)<|e_u 13 rfl rfl (ze 4 ty3 rfl rfl rfl)<|e_pv 14 rfl rfl (zma (z:=(v - cm.cy)) rfl rfl (w64 om))<|e_pv 16 rfl rfl (zg yz rfl sz3 rfl rfl)<|e_u 17 rfl rfl (ze 4 ty3 rfl rfl rfl)<|zAc (m':=[(45,yc yd (cm.fo)),(42,yc yd (v - cm.cy)),(35,yc yd (u - cm.cx)),(28,.agg #[yc yd ((yf s (yk v)).1),yc yd ((yf s (yk v)).2.1),yc yd ((yf s (yk v)).2.2.1),yc yd ((yf s (yk v)).2.2.2)]),(12,ye (some ⟨b12,0,none⟩)),(8,ye (some ⟨b4,0,none⟩)),(3,yc yd h)]) (R':=[qF true w16 w27 ((ym s (yk v)).1),qF true w38 w49 ((ym s (yk v)).2.1),qF true w510 w611 ((ym s (yk v)).2.2),sgF]) ((.of rfl):SubM _ _) (List.Perm.refl _) (List.Perm.refl _) ((.of [0,1,2,3] rfl):SelR _ _ _)<|zia (X:=Wd×Wd×Wd×Wd×Wd×Wd×Nat) (k':=0) (L':=(lb 23 8388607)) (fun (u20_1,u20_2,u20_3,u20_4,u20_5,u20_6,u21_1)=>([(13,ye (some ⟨u21_1,0,none⟩)),(12,ye (some ⟨b12,0,none⟩)),(8,ye (some ⟨b4,0,none⟩)),(3,yc yd h)],[boxA u21_1 106 (cw [u20_1,u20_2,u20_3,u20_4,u20_5,u20_6])],[boxA b12 106 (cw [w16,w27,w38,w49,w510,w611]),boxA b5 25 [yc yd ((yf s (yk v)).1),yc yd ((yf s (yk v)).2.1),yc yd ((yf s (yk v)).2.2.1),yc yd ((yf s (yk v)).2.2.2)],boxA b4 46 (cw [wz,wz,wz,wz]),boxA b3 35 [yc yd u,yc yd v],boxA b2 37 [yc yd (cm.fo),yc yd (cm.cx),yc yd (cm.cy)],boxA b1 29 (cS s)],[qF true u20_1 u20_2 ((yu (yp false (yi (yf s (yk v)))) (Sh.gv cm u v)).1),qF true u20_3 u20_4 ((yu (yp false (yi (yf s (yk v)))) (Sh.gv cm u v)).2.1),qF true u20_5 u20_6 ((yu (yp false (yi (yf s (yk v)))) (Sh.gv cm u v)).2.2),qF true w16 w27 ((ym s (yk v)).1),qF true w38 w49 ((ym s (yk v)).2.1),qF true w510 w611 ((ym s (yk v)).2.2),sgF])) ?_ (fun hD0=> ?_)
  ·
   rintro ⟨u20_1,u20_2,u20_3,u20_4,u20_5,u20_6,u21_1⟩
   dsimp only [cw,cS]
   refine zM kr<|zf<|zj ?_
   have e13:yu (yp false (yi (yf s (yk v)))) (Sh.gv cm u v)=yw s cm u v:=by rfl
   rw [e13]
   refine zO (OW:=[]) (O:=[boxA u21_1 106 (cw [u20_1,u20_2,u20_3,u20_4,u20_5,u20_6]),boxA b12 106 (cw [w16,w27,w38,w49,w510,w611]),boxA b5 25 [yc yd ((yf s (yk v)).1),yc yd ((yf s (yk v)).2.1),yc yd ((yf s (yk v)).2.2.1),yc yd ((yf s (yk v)).2.2.2)],boxA b4 46 (cw [wz,wz,wz,wz]),boxA b3 35 [yc yd u,yc yd v],boxA b2 37 [yc yd (cm.fo),yc yd (cm.cx),yc yd (cm.cy)],boxA b1 29 (cS s)]) 12 mixed (.then .ret) kr<|e_dm 0 rfl rfl rfl<|e_pv 2 rfl rfl (zi (i:=2) yh sz44 rfl rfl dd rfl)<|e_u 3 rfl rfl (zd 1 ty44 rfl rfl (.s8 (.t4 .nil)))<|e_pv 5 rfl rfl (zi (i:=2) yh sz44 rfl rfl dd rfl)<|e_u 6 rfl rfl (zd 0 ty44 rfl rfl (.s8 (.t4 .nil)))<|zAc (m':=[(56,.agg (cw [u20_5,u20_6]).toArray),(53,.agg (cw [w510,w611]).toArray),(50,yc yd h),(13,ye (some ⟨u21_1,0,none⟩)),(12,ye (some ⟨b12,0,none⟩)),(8,ye (some ⟨b4,0,none⟩))]) (R':=[qF true u20_1 u20_2 ((yw s cm u v).1),qF true u20_3 u20_4 ((yw s cm u v).2.1),qF true u20_5 u20_6 ((yw s cm u v).2.2),qF true w16 w27 ((ym s (yk v)).1),qF true w38 w49 ((ym s (yk v)).2.1),qF true w510 w611 ((ym s (yk v)).2.2),sgF]) ((.of rfl):SubM _ _) (List.Perm.refl _) (List.Perm.refl _) ((.of [0,1,2,3,4,5,6] rfl):SelR _ _ _)<|zia (X:=Wd×Wd×Nat) (k':=0) (L':=(lb 14 16383)) (fun (u7_1r2,u7_2r2,u11_1r2)=>([(15,yc yd (if ((yw s cm u v).2.2)=0 then 14 else 0)),(14,ye (some ⟨u11_1r2,0,none⟩)),(13,ye (some ⟨u21_1,0,none⟩)),(12,ye (some ⟨b12,0,none⟩)),(8,ye (some ⟨b4,0,none⟩))],[boxA u11_1r2 44 (cw [u7_1r2,u7_2r2])],[boxA u21_1 106 (cw [u20_1,u20_2,u20_3,u20_4,u20_5,u20_6]),boxA b12 106 (cw [w16,w27,w38,w49,w510,w611]),boxA b5 25 [yc yd ((yf s (yk v)).1),yc yd ((yf s (yk v)).2.1),yc yd ((yf s (yk v)).2.2.1),yc yd ((yf s (yk v)).2.2.2)],boxA b4 46 (cw [wz,wz,wz,wz]),boxA b3 35 [yc yd u,yc yd v],boxA b2 37 [yc yd (cm.fo),yc yd (cm.cx),yc yd (cm.cy)],boxA b1 29 (cS s)],[qF (decide (((yw s cm u v).2.2)≠0)) u7_1r2 u7_2r2 ((((h:Int):Rat) - ((ym s (yk v)).2.2)) / ((yw s cm u v).2.2)),qF true u20_1 u20_2 ((yw s cm u v).1),qF true u20_3 u20_4 ((yw s cm u v).2.1),qF true u20_5 u20_6 ((yw s cm u v).2.2),qF true w16 w27 ((ym s (yk v)).1),qF true w38 w49 ((ym s (yk v)).2.1),qF true w510 w611 ((ym s (yk v)).2.2),sgF])) ?_ (fun hD0=> ?_)
   ·
    rintro ⟨u7_1r2,u7_2r2,u11_1r2⟩
    dsimp only [cw,cS]
    refine zM kr<|zf<|zj<|zj<|zc<|e_mv rfl<|e_p (zvb rfl rfl)<|zk<|zf<|zT rfl (fun hd=> ?_) (fun hd=> ?_)
    ·
     have hd0:(yw s cm u v).2.2=0:=Decidable.byContradiction fun k=>hd (if_neg k)
     refine zj<|zc<|e_p (zv zr46 rfl yt (.c sz44 (.c sz44 .n)) .n .n)<|zl 4 rfl rfl rfl rfl rfl sz46 rfl (.t8 .nil) (.s (.s (.s (.s .z))))<|e_p (zh rfl)<|zk<|zf<|zR<|zq<|zbb (qF false wz wz 0) (fun g _=>qF_none g) ?_
     have hg9:Sh.gc s cm u v h=13:=by unfold Sh.gc;rw [if_neg hz4,if_pos hd0]
     have hg8:¬Sh.gc s cm u v h=0:=by rw [hg9];decide
     have hx9:Sh.gx s cm u v h=0:=if_neg hg8
     have hy9:Sh.gy s cm u v h=0:=if_neg hg8
     exact zDa yB (wz,wz,wz,wz) (fun _=>⟨rfl,rfl,rfl,rfl⟩) (zr 4 ty46 rfl rfl (.t8 .nil)) (zD rfl) (by rw [hg9];rfl) (ho:=(.n:PickO _ _ _)) ((.e (j:=0) rfl (by rw [hx9,decide_eq_false hg8]) (.e (j:=0) rfl (by rw [hy9,decide_eq_false hg8]) .n)):SelR _ _ _)
    ·
     have hd1:=Decidable.not_not.1 hd
     have hd0:(yw s cm u v).2.2≠0:=fun k=>by rw [if_pos k] at hd1;cases hd1
     have e14:((((h:Int):Rat) - ((ym s (yk v)).2.2)) / ((yw s cm u v).2.2):Rat)=Sh.gk s cm u v h:=by rfl
     rw [e14]
     have e15:(decide (((yw s cm u v).2.2)≠0))=true:=by exact decide_eq_true hd0
     rw [e15]
     refine zB<|zf<|zj<|zj<|zc<|e_ru (zd 0 ty44 rfl rfl (.t4 .nil))<|zV rfl rfl (.c rfl .n) ce79 (zNd (k1:=true) (u1:=u7_1r2) (v1:=u7_2r2) (q1:=Sh.gk s cm u v h)) (.c (j:=0) rfl .n)<|e_p (zIc rfl rfl)<|zk<|zf<|zT rfl (fun hs=> ?_) (fun hs=> ?_)
     ·
      have hs0:=Big.sgq_le.1 hs
      refine zj<|zc<|e_p (zv zr46 rfl yt (.c sz44 (.c sz44 .n)) .n .n)<|zl 4 rfl rfl rfl rfl rfl sz46 rfl (.t8 .nil) (.s (.s (.s (.s .z))))<|e_p (zh rfl)<|zk<|zf<|zR<|zq<|zbb (qF false wz wz 0) (fun g _=>qF_none g) ?_
      have hg9:Sh.gc s cm u v h=20:=by unfold Sh.gc;rw [if_neg hz4,if_neg hd0,if_pos hs0]
      have hg8:¬Sh.gc s cm u v h=0:=by rw [hg9];decide
      have hx9:Sh.gx s cm u v h=0:=if_neg hg8
      have hy9:Sh.gy s cm u v h=0:=if_neg hg8
      exact zDa yB (wz,wz,wz,wz) (fun _=>⟨rfl,rfl,rfl,rfl⟩) (zr 4 ty46 rfl rfl (.t8 .nil)) (zD rfl) (by rw [hg9];rfl) (ho:=(.n:PickO _ _ _)) ((.e (j:=0) rfl (by rw [hx9,decide_eq_false hg8]) (.e (j:=0) rfl (by rw [hy9,decide_eq_false hg8]) .n)):SelR _ _ _)
     ·
      have hs0:¬Sh.gk s cm u v h≤0:=fun k=>hs (Big.sgq_le.2 k)
      have hg9:Sh.gc s cm u v h=0:=by unfold Sh.gc;rw [if_neg hz4,if_neg hd0,if_neg hs0]
      refine zB<|zf<|zj<|zba (.c (i:=4) rfl (.c (i:=0) rfl (.c (i:=0) rfl (.c (i:=0) rfl .n))))<|zO (OW:=[boxA b4 46 (cw [wz,wz,wz,wz])]) (O:=[boxA u11_1r2 44 (cw [u7_1r2,u7_2r2]),boxA u21_1 106 (cw [u20_1,u20_2,u20_3,u20_4,u20_5,u20_6]),boxA b12 106 (cw [w16,w27,w38,w49,w510,w611])]) 15 mixed (.then .ret) kr<|e_pv 0 rfl rfl (zi (i:=0) yh sz44 rfl rfl dd rfl)<|e_uw 1 rfl rfl (zd 3 ty44 rfl rfl (.t4 .nil))<|e_uw 2 rfl rfl (zd 1 ty44 rfl rfl (.t4 .nil))<|e_pv 3 rfl rfl (zi (i:=0) yh sz44 rfl rfl dd rfl)<|e_uw 4 rfl rfl (zd 2 ty44 rfl rfl (.t4 .nil))<|e_pv 7 rfl rfl (zi (i:=1) yh sz44 rfl rfl dd rfl)<|e_uw 8 rfl rfl (zd 3 ty44 rfl rfl (.s4 (.t4 .nil)))<|e_uw 9 rfl rfl (zd 1 ty44 rfl rfl (.t4 .nil))<|e_pv 10 rfl rfl (zi (i:=1) yh sz44 rfl rfl dd rfl)<|e_uw 11 rfl rfl (zd 2 ty44 rfl rfl (.s4 (.t4 .nil)))<|e_one 5 (zm rfl rfl rfl rfl (.c rfl (.c rfl .n)) ce81 (zY (k1:=true) (u1:=u7_1r2) (v1:=u7_2r2) (q1:=Sh.gk s cm u v h) (k2:=true) (u2:=u20_1) (v2:=u20_2) (q2:=(yw s cm u v).1) (hl:=yn)) (.c (j:=0) rfl (.c (j:=1) rfl .n)) ?_)
      rintro ⟨w316,w417⟩ -
      dsimp only [aq,nq,cq]
      refine e_one 6 (zm rfl rfl rfl rfl (.c rfl (.c rfl .n)) ce80 (zka (k1:=true) (u1:=w16) (v1:=w27) (q1:=(ym s (yk v)).1) (k2:=true) (u2:=w316) (v2:=w417) (q2:=(Sh.gk s cm u v h)*((yw s cm u v).1)) (hl:=yn)) (.c (j:=5) rfl (.c (j:=0) rfl .n)) ?_)
      rintro ⟨w318,w419⟩ -
      dsimp only [aq,nq,cq]
      refine e_one 12 (zm rfl rfl rfl rfl (.c rfl (.c rfl .n)) ce81 (zY (k1:=true) (u1:=u7_1r2) (v1:=u7_2r2) (q1:=Sh.gk s cm u v h) (k2:=true) (u2:=u20_3) (v2:=u20_4) (q2:=(yw s cm u v).2.1) (hl:=yn)) (.c (j:=2) rfl (.c (j:=4) rfl .n)) ?_)
      rintro ⟨w320,w421⟩ -
      dsimp only [aq,nq,cq]
      refine e_one 13 (zm rfl rfl rfl rfl (.c rfl (.c rfl .n)) ce80 (zka (k1:=true) (u1:=w38) (v1:=w49) (q1:=(ym s (yk v)).2.1) (k2:=true) (u2:=w320) (v2:=w421) (q2:=(Sh.gk s cm u v h)*((yw s cm u v).2.1)) (hl:=yn)) (.c (j:=8) rfl (.c (j:=0) rfl .n)) ?_)
      rintro ⟨w322,w423⟩ -
      dsimp only [aq,nq,cq]
      refine e_pv 14 rfl rfl (zv zr46 rfl yt (.c sz44 (.c sz44 .n)) (.c rfl (.c rfl .n)) (.c rfl rfl rfl (.t4 .nil) (.c rfl rfl rfl (.s4 (.t4 .nil)) .n)))<|e_one 15 (zo kr rfl rfl rfl rfl rfl sz46 rfl (.t8 .nil) ?_)
      refine e_pv 16 rfl rfl (zh rfl)<|zM kr<|zf<|zR ?_
      have hx9:Sh.gx s cm u v h=_:=if_pos hg9
      have hy9:Sh.gy s cm u v h=_:=if_pos hg9
      exact zDa yB (w318,w419,w322,w423) (fun k=>absurd hg9 k) (zr 0 ty46 rfl rfl (.t8 .nil)) (zD rfl) (by rw [hg9]) (ho:=(.n:PickO _ _ _)) ((.e (j:=2) rfl (by rw [hx9,decide_eq_true hg9]) (.e (j:=0) rfl (by rw [hy9,decide_eq_true hg9]) .n)):SelR _ _ _)
   refine zia (X:=Wd×Wd×Nat) (k':=2) (L':=(lb 14 4095)) (fun (u7_1r2,u7_2r2,u11_1r2)=>([(14,ye (some ⟨u11_1r2,0,none⟩)),(59,yc yd (if ((yw s cm u v).2.2)=0 then 14 else 0)),(58,.agg (cw [u7_1r2,u7_2r2]).toArray),(13,ye (some ⟨u21_1,0,none⟩)),(12,ye (some ⟨b12,0,none⟩)),(8,ye (some ⟨b4,0,none⟩))],[boxA u11_1r2 44 (cw [wz,wz])],[boxA u21_1 106 (cw [u20_1,u20_2,u20_3,u20_4,u20_5,u20_6]),boxA b12 106 (cw [w16,w27,w38,w49,w510,w611]),boxA b5 25 [yc yd ((yf s (yk v)).1),yc yd ((yf s (yk v)).2.1),yc yd ((yf s (yk v)).2.2.1),yc yd ((yf s (yk v)).2.2.2)],boxA b4 46 (cw [wz,wz,wz,wz]),boxA b3 35 [yc yd u,yc yd v],boxA b2 37 [yc yd (cm.fo),yc yd (cm.cx),yc yd (cm.cy)],boxA b1 29 (cS s)],[qF (decide (((yw s cm u v).2.2)≠0)) u7_1r2 u7_2r2 ((((h:Int):Rat) - ((ym s (yk v)).2.2)) / ((yw s cm u v).2.2)),qF true u20_1 u20_2 ((yw s cm u v).1),qF true u20_3 u20_4 ((yw s cm u v).2.1),qF true u20_5 u20_6 ((yw s cm u v).2.2),qF true w16 w27 ((ym s (yk v)).1),qF true w38 w49 ((ym s (yk v)).2.1),qF true w510 w611 ((ym s (yk v)).2.2),sgF])) ?_ (fun hD1=> ?_)
   ·
    rintro ⟨u7_1r2,u7_2r2,u11_1r2⟩
    dsimp only [cw,cS]
    refine zRa 12 kr ?_
    ·
     refine zo kr rfl rfl rfl rfl rfl sz44 rfl (.t4 .nil)<|e_pv 13 rfl rfl (zh rfl) ?_
     exact zN (hD0 (u7_1r2,u7_2r2,u11_1r2)) kr ((.of rfl):SubM _ _) .rfl .rfl ((.of [0,1,2,3,4,5,6,7] rfl):SelR _ _ _)
   refine zia (X:=Wd×Wd) (k':=3) (L':=(lb 14 2047)) (fun (u7_1r2,u7_2r2)=>([(59,yc yd (if ((yw s cm u v).2.2)=0 then 14 else 0)),(58,.agg (cw [u7_1r2,u7_2r2]).toArray),(13,ye (some ⟨u21_1,0,none⟩)),(12,ye (some ⟨b12,0,none⟩)),(8,ye (some ⟨b4,0,none⟩))],[],[boxA u21_1 106 (cw [u20_1,u20_2,u20_3,u20_4,u20_5,u20_6]),boxA b12 106 (cw [w16,w27,w38,w49,w510,w611]),boxA b5 25 [yc yd ((yf s (yk v)).1),yc yd ((yf s (yk v)).2.1),yc yd ((yf s (yk v)).2.2.1),yc yd ((yf s (yk v)).2.2.2)],boxA b4 46 (cw [wz,wz,wz,wz]),boxA b3 35 [yc yd u,yc yd v],boxA b2 37 [yc yd (cm.fo),yc yd (cm.cx),yc yd (cm.cy)],boxA b1 29 (cS s)],[qF (decide (((yw s cm u v).2.2)≠0)) u7_1r2 u7_2r2 ((((h:Int):Rat) - ((ym s (yk v)).2.2)) / ((yw s cm u v).2.2)),qF true u20_1 u20_2 ((yw s cm u v).1),qF true u20_3 u20_4 ((yw s cm u v).2.1),qF true u20_5 u20_6 ((yw s cm u v).2.2),qF true w16 w27 ((ym s (yk v)).1),qF true w38 w49 ((ym s (yk v)).2.1),qF true w510 w611 ((ym s (yk v)).2.2),sgF])) ?_ (fun hD2=> ?_)
   ·
    rintro ⟨u7_1r2,u7_2r2⟩
    dsimp only [cw,cS]
    refine zRa 11 kr ?_
    ·
     refine zya rfl rfl rfl rfl (zp zr44 rfl) (fun u11_1r2 _=> ?_)
     exact zN (hD1 (u7_1r2,u7_2r2,u11_1r2)) kr ((.of rfl):SubM _ _) .rfl .rfl ((.of [0,1,2,3,4,5,6,7] rfl):SelR _ _ _)
   refine zia (X:=Wd×Wd×Nat) (k':=6) (L':=(lb 14 2175)) (fun (u4_1r2,u4_2r2,u11_1r2)=>([(14,ye (some ⟨u11_1r2,0,none⟩)),(54,.agg (cw [u4_1r2,u4_2r2]).toArray),(56,.agg (cw [u20_5,u20_6]).toArray),(13,ye (some ⟨u21_1,0,none⟩)),(12,ye (some ⟨b12,0,none⟩)),(8,ye (some ⟨b4,0,none⟩))],[boxA u11_1r2 44 (cw [wz,wz])],[boxA u21_1 106 (cw [u20_1,u20_2,u20_3,u20_4,u20_5,u20_6]),boxA b12 106 (cw [w16,w27,w38,w49,w510,w611]),boxA b5 25 [yc yd ((yf s (yk v)).1),yc yd ((yf s (yk v)).2.1),yc yd ((yf s (yk v)).2.2.1),yc yd ((yf s (yk v)).2.2.2)],boxA b4 46 (cw [wz,wz,wz,wz]),boxA b3 35 [yc yd u,yc yd v],boxA b2 37 [yc yd (cm.fo),yc yd (cm.cx),yc yd (cm.cy)],boxA b1 29 (cS s)],[qF true u4_1r2 u4_2r2 (((h:Int):Rat) - ((ym s (yk v)).2.2)),qF true u20_1 u20_2 ((yw s cm u v).1),qF true u20_3 u20_4 ((yw s cm u v).2.1),qF true u20_5 u20_6 ((yw s cm u v).2.2),qF true w16 w27 ((ym s (yk v)).1),qF true w38 w49 ((ym s (yk v)).2.1),qF true w510 w611 ((ym s (yk v)).2.2),sgF])) ?_ (fun hD3=> ?_)
   ·
    rintro ⟨u4_1r2,u4_2r2,u11_1r2⟩
    dsimp only [cw,cS]
    refine zRa 7 kr ?_
    ·
     refine zm rfl rfl rfl rfl (.c rfl (.c rfl .n)) ce77 (zec (k1:=true) (u1:=u4_1r2) (v1:=u4_2r2) (q1:=((h:Int):Rat) - ((ym s (yk v)).2.2)) (k2:=true) (u2:=u20_5) (v2:=u20_6) (q2:=(yw s cm u v).2.2) (hl:=yn)) (.c (j:=0) rfl (.c (j:=3) rfl .n)) ?_
     rintro ⟨u7_1r2,u7_2r2⟩ -
     dsimp only [aq,nq,cq]
     refine e_dm 8 rfl rfl rfl<|e_pv 9 rfl rfl (zw rfl rfl)<|e_pv 10 rfl rfl (zw rfl rfl) ?_
     exact zN (hD1 (u7_1r2,u7_2r2,u11_1r2)) kr ((.of rfl):SubM _ _) .rfl .rfl ((.of [0,2,3,4,5,6,7,8] rfl):SelR _ _ _)
   refine zia (X:=Wd×Wd) (k':=7) (L':=(lb 14 127)) (fun (u4_1r2,u4_2r2)=>([(54,.agg (cw [u4_1r2,u4_2r2]).toArray),(56,.agg (cw [u20_5,u20_6]).toArray),(13,ye (some ⟨u21_1,0,none⟩)),(12,ye (some ⟨b12,0,none⟩)),(8,ye (some ⟨b4,0,none⟩))],[],[boxA u21_1 106 (cw [u20_1,u20_2,u20_3,u20_4,u20_5,u20_6]),boxA b12 106 (cw [w16,w27,w38,w49,w510,w611]),boxA b5 25 [yc yd ((yf s (yk v)).1),yc yd ((yf s (yk v)).2.1),yc yd ((yf s (yk v)).2.2.1),yc yd ((yf s (yk v)).2.2.2)],boxA b4 46 (cw [wz,wz,wz,wz]),boxA b3 35 [yc yd u,yc yd v],boxA b2 37 [yc yd (cm.fo),yc yd (cm.cx),yc yd (cm.cy)],boxA b1 29 (cS s)],[qF true u4_1r2 u4_2r2 (((h:Int):Rat) - ((ym s (yk v)).2.2)),qF true u20_1 u20_2 ((yw s cm u v).1),qF true u20_3 u20_4 ((yw s cm u v).2.1),qF true u20_5 u20_6 ((yw s cm u v).2.2),qF true w16 w27 ((ym s (yk v)).1),qF true w38 w49 ((ym s (yk v)).2.1),qF true w510 w611 ((ym s (yk v)).2.2),sgF])) ?_ (fun hD4=> ?_)
   ·
    rintro ⟨u4_1r2,u4_2r2⟩
    dsimp only [cw,cS]
    refine zqb 7 11 kr ?_ ?_
    ·
     refine zm rfl rfl rfl rfl (.c rfl (.c rfl .n)) ce77 (zec (k1:=true) (u1:=u4_1r2) (v1:=u4_2r2) (q1:=((h:Int):Rat) - ((ym s (yk v)).2.2)) (k2:=true) (u2:=u20_5) (v2:=u20_6) (q2:=(yw s cm u v).2.2) (hl:=yn)) (.c (j:=0) rfl (.c (j:=3) rfl .n)) ?_
     rintro ⟨u7_1r2,u7_2r2⟩ -
     dsimp only [aq,nq,cq]
     refine e_dm 8 rfl rfl rfl<|e_pv 9 rfl rfl (zw rfl rfl)<|e_pv 10 rfl rfl (zw rfl rfl) ?_
     exact zN (hD2 (u7_1r2,u7_2r2)) kr ((.of rfl):SubM _ _) .rfl .rfl ((.of [0,2,3,4,5,6,7,8] rfl):SelR _ _ _)
    ·
     refine zya rfl rfl rfl rfl (zp zr44 rfl) (fun u11_1r2 _=> ?_)
     exact zN (hD3 (u4_1r2,u4_2r2,u11_1r2)) kr ((.of rfl):SubM _ _) .rfl .rfl ((.of [0,1,2,3,4,5,6,7] rfl):SelR _ _ _)
   refine zia (X:=Wd×Wd×Nat) (k':=7) (L':=(lb 14 2159)) (fun (u1_1r2,u1_2r2,u11_1r2)=>([(14,ye (some ⟨u11_1r2,0,none⟩)),(51,.agg (cw [u1_1r2,u1_2r2]).toArray),(56,.agg (cw [u20_5,u20_6]).toArray),(53,.agg (cw [w510,w611]).toArray),(13,ye (some ⟨u21_1,0,none⟩)),(12,ye (some ⟨b12,0,none⟩)),(8,ye (some ⟨b4,0,none⟩))],[boxA u11_1r2 44 (cw [wz,wz])],[boxA u21_1 106 (cw [u20_1,u20_2,u20_3,u20_4,u20_5,u20_6]),boxA b12 106 (cw [w16,w27,w38,w49,w510,w611]),boxA b5 25 [yc yd ((yf s (yk v)).1),yc yd ((yf s (yk v)).2.1),yc yd ((yf s (yk v)).2.2.1),yc yd ((yf s (yk v)).2.2.2)],boxA b4 46 (cw [wz,wz,wz,wz]),boxA b3 35 [yc yd u,yc yd v],boxA b2 37 [yc yd (cm.fo),yc yd (cm.cx),yc yd (cm.cy)],boxA b1 29 (cS s)],[qF true u1_1r2 u1_2r2 ((h:Int):Rat),qF true u20_1 u20_2 ((yw s cm u v).1),qF true u20_3 u20_4 ((yw s cm u v).2.1),qF true u20_5 u20_6 ((yw s cm u v).2.2),qF true w16 w27 ((ym s (yk v)).1),qF true w38 w49 ((ym s (yk v)).2.1),qF true w510 w611 ((ym s (yk v)).2.2),sgF])) ?_ (fun hD5=> ?_)
   ·
    rintro ⟨u1_1r2,u1_2r2,u11_1r2⟩
    dsimp only [cw,cS]
    refine zRa 4 kr ?_
    ·
     refine zm rfl rfl rfl rfl (.c rfl (.c rfl .n)) ce78 (zxb (k1:=true) (u1:=u1_1r2) (v1:=u1_2r2) (q1:=((h:Int):Rat)) (k2:=true) (u2:=w510) (v2:=w611) (q2:=(ym s (yk v)).2.2) (hl:=yn)) (.c (j:=0) rfl (.c (j:=6) rfl .n)) ?_
     rintro ⟨u4_1r2,u4_2r2⟩ -
     dsimp only [aq,nq,cq]
     exact zN (hD3 (u4_1r2,u4_2r2,u11_1r2)) kr ((.of rfl):SubM _ _) .rfl .rfl ((.of [0,2,3,4,5,6,7,8] rfl):SelR _ _ _)
   refine zia (X:=Wd×Wd) (k':=8) (L':=(lb 14 111)) (fun (u1_1r2,u1_2r2)=>([(51,.agg (cw [u1_1r2,u1_2r2]).toArray),(56,.agg (cw [u20_5,u20_6]).toArray),(53,.agg (cw [w510,w611]).toArray),(13,ye (some ⟨u21_1,0,none⟩)),(12,ye (some ⟨b12,0,none⟩)),(8,ye (some ⟨b4,0,none⟩))],[],[boxA u21_1 106 (cw [u20_1,u20_2,u20_3,u20_4,u20_5,u20_6]),boxA b12 106 (cw [w16,w27,w38,w49,w510,w611]),boxA b5 25 [yc yd ((yf s (yk v)).1),yc yd ((yf s (yk v)).2.1),yc yd ((yf s (yk v)).2.2.1),yc yd ((yf s (yk v)).2.2.2)],boxA b4 46 (cw [wz,wz,wz,wz]),boxA b3 35 [yc yd u,yc yd v],boxA b2 37 [yc yd (cm.fo),yc yd (cm.cx),yc yd (cm.cy)],boxA b1 29 (cS s)],[qF true u1_1r2 u1_2r2 ((h:Int):Rat),qF true u20_1 u20_2 ((yw s cm u v).1),qF true u20_3 u20_4 ((yw s cm u v).2.1),qF true u20_5 u20_6 ((yw s cm u v).2.2),qF true w16 w27 ((ym s (yk v)).1),qF true w38 w49 ((ym s (yk v)).2.1),qF true w510 w611 ((ym s (yk v)).2.2),sgF])) ?_ (fun hD6=> ?_)
   ·
    rintro ⟨u1_1r2,u1_2r2⟩
    dsimp only [cw,cS]
    refine zqb 4 11 kr ?_ ?_
    ·
     refine zm rfl rfl rfl rfl (.c rfl (.c rfl .n)) ce78 (zxb (k1:=true) (u1:=u1_1r2) (v1:=u1_2r2) (q1:=((h:Int):Rat)) (k2:=true) (u2:=w510) (v2:=w611) (q2:=(ym s (yk v)).2.2) (hl:=yn)) (.c (j:=0) rfl (.c (j:=6) rfl .n)) ?_
     rintro ⟨u4_1r2,u4_2r2⟩ -
     dsimp only [aq,nq,cq]
     exact zN (hD4 (u4_1r2,u4_2r2)) kr ((.of rfl):SubM _ _) .rfl .rfl ((.of [0,2,3,4,5,6,7,8] rfl):SelR _ _ _)
    ·
     refine zya rfl rfl rfl rfl (zp zr44 rfl) (fun u11_1r2 _=> ?_)
     exact zN (hD5 (u1_1r2,u1_2r2,u11_1r2)) kr ((.of rfl):SubM _ _) .rfl .rfl ((.of [0,1,2,3,4,5,6,7] rfl):SelR _ _ _)
   refine zia (X:=Nat) (k':=8) (L':=(lb 14 2157)) (fun u11_1r2=>([(14,ye (some ⟨u11_1r2,0,none⟩)),(56,.agg (cw [u20_5,u20_6]).toArray),(53,.agg (cw [w510,w611]).toArray),(50,yc yd h),(13,ye (some ⟨u21_1,0,none⟩)),(12,ye (some ⟨b12,0,none⟩)),(8,ye (some ⟨b4,0,none⟩))],[boxA u11_1r2 44 (cw [wz,wz])],[boxA u21_1 106 (cw [u20_1,u20_2,u20_3,u20_4,u20_5,u20_6]),boxA b12 106 (cw [w16,w27,w38,w49,w510,w611]),boxA b5 25 [yc yd ((yf s (yk v)).1),yc yd ((yf s (yk v)).2.1),yc yd ((yf s (yk v)).2.2.1),yc yd ((yf s (yk v)).2.2.2)],boxA b4 46 (cw [wz,wz,wz,wz]),boxA b3 35 [yc yd u,yc yd v],boxA b2 37 [yc yd (cm.fo),yc yd (cm.cx),yc yd (cm.cy)],boxA b1 29 (cS s)],[qF true u20_1 u20_2 ((yw s cm u v).1),qF true u20_3 u20_4 ((yw s cm u v).2.1),qF true u20_5 u20_6 ((yw s cm u v).2.2),qF true w16 w27 ((ym s (yk v)).1),qF true w38 w49 ((ym s (yk v)).2.1),qF true w510 w611 ((ym s (yk v)).2.2),sgF])) ?_ (fun hD7=> ?_)
   ·
    rintro u11_1r2
    dsimp only [cw,cS]
    refine zRa 1 kr ?_
    ·
     refine zm rfl rfl rfl rfl (.c rfl .n) ce71 (zy (z:=h) (hz:=yn)) (.n) ?_
     rintro ⟨u1_1r2,u1_2r2⟩ -
     dsimp only [aq,nq,cq]
     exact zN (hD5 (u1_1r2,u1_2r2,u11_1r2)) kr ((.of rfl):SubM _ _) .rfl .rfl ((.of [0,1,2,3,4,5,6,7] rfl):SelR _ _ _)
   refine zqb 1 11 kr ?_ ?_
   ·
    refine zm rfl rfl rfl rfl (.c rfl .n) ce71 (zy (z:=h) (hz:=yn)) (.n) ?_
    rintro ⟨u1_1r2,u1_2r2⟩ -
    dsimp only [aq,nq,cq]
    exact zN (hD6 (u1_1r2,u1_2r2)) kr ((.of rfl):SubM _ _) .rfl .rfl ((.of [0,1,2,3,4,5,6,7] rfl):SelR _ _ _)
   ·
    refine zya rfl rfl rfl rfl (zp zr44 rfl) (fun u11_1r2 _=> ?_)
    exact zN (hD7 u11_1r2) kr ((.of rfl):SubM _ _) .rfl .rfl ((.of [0,1,2,3,4,5,6] rfl):SelR _ _ _)
  refine zia (X:=Wd×Wd×Wd×Wd×Wd×Wd×Nat) (k':=1) (L':=(lb 23 4194303)) (fun (u20_1,u20_2,u20_3,u20_4,u20_5,u20_6,u21_1)=>([(13,ye (some ⟨u21_1,0,none⟩)),(48,.agg (cw [u20_1,u20_2,u20_3,u20_4,u20_5,u20_6]).toArray),(12,ye (some ⟨b12,0,none⟩)),(8,ye (some ⟨b4,0,none⟩)),(3,yc yd h)],[boxA u21_1 106 (cw [wz,wz,wz,wz,wz,wz])],[boxA b12 106 (cw [w16,w27,w38,w49,w510,w611]),boxA b5 25 [yc yd ((yf s (yk v)).1),yc yd ((yf s (yk v)).2.1),yc yd ((yf s (yk v)).2.2.1),yc yd ((yf s (yk v)).2.2.2)],boxA b4 46 (cw [wz,wz,wz,wz]),boxA b3 35 [yc yd u,yc yd v],boxA b2 37 [yc yd (cm.fo),yc yd (cm.cx),yc yd (cm.cy)],boxA b1 29 (cS s)],[qF true u20_1 u20_2 ((yu (yp false (yi (yf s (yk v)))) (Sh.gv cm u v)).1),qF true u20_3 u20_4 ((yu (yp false (yi (yf s (yk v)))) (Sh.gv cm u v)).2.1),qF true u20_5 u20_6 ((yu (yp false (yi (yf s (yk v)))) (Sh.gv cm u v)).2.2),qF true w16 w27 ((ym s (yk v)).1),qF true w38 w49 ((ym s (yk v)).2.1),qF true w510 w611 ((ym s (yk v)).2.2),sgF])) ?_ (fun hD1=> ?_)
  ·
   rintro ⟨u20_1,u20_2,u20_3,u20_4,u20_5,u20_6,u21_1⟩
   dsimp only [cw,cS]
   refine zRa 22 kr ?_
   ·
    refine zo kr rfl rfl rfl rfl rfl sz106 rfl (.t8 (.t4 .nil)) ?_
    exact zN (hD0 (u20_1,u20_2,u20_3,u20_4,u20_5,u20_6,u21_1)) kr ((.of rfl):SubM _ _) .rfl .rfl ((.of [0,1,2,3,4,5,6] rfl):SelR _ _ _)
  refine zia (X:=Wd×Wd×Wd×Wd×Wd×Wd) (k':=2) (L':=(lb 23 2097151)) (fun (u20_1,u20_2,u20_3,u20_4,u20_5,u20_6)=>([(48,.agg (cw [u20_1,u20_2,u20_3,u20_4,u20_5,u20_6]).toArray),(12,ye (some ⟨b12,0,none⟩)),(8,ye (some ⟨b4,0,none⟩)),(3,yc yd h)],[],[boxA b12 106 (cw [w16,w27,w38,w49,w510,w611]),boxA b5 25 [yc yd ((yf s (yk v)).1),yc yd ((yf s (yk v)).2.1),yc yd ((yf s (yk v)).2.2.1),yc yd ((yf s (yk v)).2.2.2)],boxA b4 46 (cw [wz,wz,wz,wz]),boxA b3 35 [yc yd u,yc yd v],boxA b2 37 [yc yd (cm.fo),yc yd (cm.cx),yc yd (cm.cy)],boxA b1 29 (cS s)],[qF true u20_1 u20_2 ((yu (yp false (yi (yf s (yk v)))) (Sh.gv cm u v)).1),qF true u20_3 u20_4 ((yu (yp false (yi (yf s (yk v)))) (Sh.gv cm u v)).2.1),qF true u20_5 u20_6 ((yu (yp false (yi (yf s (yk v)))) (Sh.gv cm u v)).2.2),qF true w16 w27 ((ym s (yk v)).1),qF true w38 w49 ((ym s (yk v)).2.1),qF true w510 w611 ((ym s (yk v)).2.2),sgF])) ?_ (fun hD2=> ?_)
  ·
   rintro ⟨u20_1,u20_2,u20_3,u20_4,u20_5,u20_6⟩
   dsimp only [cw,cS]
   refine zRa 21 kr ?_
   ·
    refine zya rfl rfl rfl rfl (zp zr106 rfl) (fun u21_1 _=> ?_)
    exact zN (hD1 (u20_1,u20_2,u20_3,u20_4,u20_5,u20_6,u21_1)) kr ((.of rfl):SubM _ _) .rfl .rfl ((.of [0,1,2,3,4,5,6] rfl):SelR _ _ _)
  refine zia (X:=Wd×Wd×Wd×Wd×Wd×Wd×Wd×Wd×Wd×Wd×Wd×Wd×Wd×Wd×Wd×Wd×Wd×Wd×Wd×Wd×Wd×Wd×Wd×Wd×Nat) (k':=2) (L':=(lb 23 3145727)) (fun (u1_1,u1_2,u1_3,u1_4,u1_5,u1_6,u1_7,u1_8,u1_9,u1_10,u1_11,u1_12,u1_13,u1_14,u1_15,u1_16,u1_17,u1_18,u8_1,u8_2,u15_1,u15_2,u18_1,u18_2,u21_1)=>([(13,ye (some ⟨u21_1,0,none⟩)),(47,.agg (cw [u8_1,u8_2,u15_1,u15_2,u18_1,u18_2]).toArray),(29,.agg (cw [u1_1,u1_2,u1_3,u1_4,u1_5,u1_6,u1_7,u1_8,u1_9,u1_10,u1_11,u1_12,u1_13,u1_14,u1_15,u1_16,u1_17,u1_18]).toArray),(12,ye (some ⟨b12,0,none⟩)),(8,ye (some ⟨b4,0,none⟩)),(3,yc yd h)],[boxA u21_1 106 (cw [wz,wz,wz,wz,wz,wz])],[boxA b12 106 (cw [w16,w27,w38,w49,w510,w611]),boxA b5 25 [yc yd ((yf s (yk v)).1),yc yd ((yf s (yk v)).2.1),yc yd ((yf s (yk v)).2.2.1),yc yd ((yf s (yk v)).2.2.2)],boxA b4 46 (cw [wz,wz,wz,wz]),boxA b3 35 [yc yd u,yc yd v],boxA b2 37 [yc yd (cm.fo),yc yd (cm.cx),yc yd (cm.cy)],boxA b1 29 (cS s)],[qF true u18_1 u18_2 ((cm.fo:Int):Rat),qF true u15_1 u15_2 (((v - cm.cy):Int):Rat),qF true u8_1 u8_2 (((u - cm.cx):Int):Rat),qF true u1_1 u1_2 ((yi (yf s (yk v))).1.1),qF true u1_3 u1_4 ((yi (yf s (yk v))).1.2.1),qF true u1_5 u1_6 ((yi (yf s (yk v))).1.2.2),qF true u1_7 u1_8 ((yi (yf s (yk v))).2.1.1),qF true u1_9 u1_10 ((yi (yf s (yk v))).2.1.2.1),qF true u1_11 u1_12 ((yi (yf s (yk v))).2.1.2.2),qF true u1_13 u1_14 ((yi (yf s (yk v))).2.2.1),qF true u1_15 u1_16 ((yi (yf s (yk v))).2.2.2.1),qF true u1_17 u1_18 ((yi (yf s (yk v))).2.2.2.2),qF true w16 w27 ((ym s (yk v)).1),qF true w38 w49 ((ym s (yk v)).2.1),qF true w510 w611 ((ym s (yk v)).2.2),sgF])) ?_ (fun hD3=> ?_)
  ·
   rintro ⟨u1_1,u1_2,u1_3,u1_4,u1_5,u1_6,u1_7,u1_8,u1_9,u1_10,u1_11,u1_12,u1_13,u1_14,u1_15,u1_16,u1_17,u1_18,u8_1,u8_2,u15_1,u15_2,u18_1,u18_2,u21_1⟩
   dsimp only [cw,cS]
   refine zRa 20 kr ?_
   ·
    refine zm rfl rfl rfl rfl (.c rfl (.c rfl (.c rfl .n))) ce75 (zWb (u1:=u1_1) (u2:=u1_2) (u3:=u1_3) (u4:=u1_4) (u5:=u1_5) (u6:=u1_6) (u7:=u1_7) (u8:=u1_8) (u9:=u1_9) (u10:=u1_10) (u11:=u1_11) (u12:=u1_12) (u13:=u1_13) (u14:=u1_14) (u15:=u1_15) (u16:=u1_16) (u17:=u1_17) (u18:=u1_18) (mm:=(yi (yf s (yk v)))) (x1:=u8_1) (x2:=u8_2) (x3:=u15_1) (x4:=u15_2) (x5:=u18_1) (x6:=u18_2) (vv:=(Sh.gv cm u v)) (tp:=false) (k:=3) (hm:=by exact Sh.mat_hq hsm) (hv:=by exact Sh.gv_hq hc hu hv) (hk:=yn)) (.c (j:=3) rfl (.c (j:=4) rfl (.c (j:=5) rfl (.c (j:=6) rfl (.c (j:=7) rfl (.c (j:=8) rfl (.c (j:=9) rfl (.c (j:=10) rfl (.c (j:=11) rfl (.c (j:=2) rfl (.c (j:=1) rfl (.c (j:=0) rfl .n)))))))))))) ?_
    rintro ⟨u20_1,u20_2,u20_3,u20_4,u20_5,u20_6⟩ -
    dsimp only [aq,nq,cq]
    exact zN (hD1 (u20_1,u20_2,u20_3,u20_4,u20_5,u20_6,u21_1)) kr ((.of rfl):SubM _ _) .rfl .rfl ((.of [0,1,2,15,16,17,18] rfl):SelR _ _ _)
  refine zia (X:=Wd×Wd×Wd×Wd×Wd×Wd×Wd×Wd×Wd×Wd×Wd×Wd×Wd×Wd×Wd×Wd×Wd×Wd×Wd×Wd×Wd×Wd×Wd×Wd) (k':=3) (L':=(lb 23 1048575)) (fun (u1_1,u1_2,u1_3,u1_4,u1_5,u1_6,u1_7,u1_8,u1_9,u1_10,u1_11,u1_12,u1_13,u1_14,u1_15,u1_16,u1_17,u1_18,u8_1,u8_2,u15_1,u15_2,u18_1,u18_2)=>([(47,.agg (cw [u8_1,u8_2,u15_1,u15_2,u18_1,u18_2]).toArray),(29,.agg (cw [u1_1,u1_2,u1_3,u1_4,u1_5,u1_6,u1_7,u1_8,u1_9,u1_10,u1_11,u1_12,u1_13,u1_14,u1_15,u1_16,u1_17,u1_18]).toArray),(12,ye (some ⟨b12,0,none⟩)),(8,ye (some ⟨b4,0,none⟩)),(3,yc yd h)],[],[boxA b12 106 (cw [w16,w27,w38,w49,w510,w611]),boxA b5 25 [yc yd ((yf s (yk v)).1),yc yd ((yf s (yk v)).2.1),yc yd ((yf s (yk v)).2.2.1),yc yd ((yf s (yk v)).2.2.2)],boxA b4 46 (cw [wz,wz,wz,wz]),boxA b3 35 [yc yd u,yc yd v],boxA b2 37 [yc yd (cm.fo),yc yd (cm.cx),yc yd (cm.cy)],boxA b1 29 (cS s)],[qF true u18_1 u18_2 ((cm.fo:Int):Rat),qF true u15_1 u15_2 (((v - cm.cy):Int):Rat),qF true u8_1 u8_2 (((u - cm.cx):Int):Rat),qF true u1_1 u1_2 ((yi (yf s (yk v))).1.1),qF true u1_3 u1_4 ((yi (yf s (yk v))).1.2.1),qF true u1_5 u1_6 ((yi (yf s (yk v))).1.2.2),qF true u1_7 u1_8 ((yi (yf s (yk v))).2.1.1),qF true u1_9 u1_10 ((yi (yf s (yk v))).2.1.2.1),qF true u1_11 u1_12 ((yi (yf s (yk v))).2.1.2.2),qF true u1_13 u1_14 ((yi (yf s (yk v))).2.2.1),qF true u1_15 u1_16 ((yi (yf s (yk v))).2.2.2.1),qF true u1_17 u1_18 ((yi (yf s (yk v))).2.2.2.2),qF true w16 w27 ((ym s (yk v)).1),qF true w38 w49 ((ym s (yk v)).2.1),qF true w510 w611 ((ym s (yk v)).2.2),sgF])) ?_ (fun hD4=> ?_)
  ·
   rintro ⟨u1_1,u1_2,u1_3,u1_4,u1_5,u1_6,u1_7,u1_8,u1_9,u1_10,u1_11,u1_12,u1_13,u1_14,u1_15,u1_16,u1_17,u1_18,u8_1,u8_2,u15_1,u15_2,u18_1,u18_2⟩
   dsimp only [cw,cS]
   refine zqb 20 21 kr ?_ ?_
   ·
    refine zm rfl rfl rfl rfl (.c rfl (.c rfl (.c rfl .n))) ce75 (zWb (u1:=u1_1) (u2:=u1_2) (u3:=u1_3) (u4:=u1_4) (u5:=u1_5) (u6:=u1_6) (u7:=u1_7) (u8:=u1_8) (u9:=u1_9) (u10:=u1_10) (u11:=u1_11) (u12:=u1_12) (u13:=u1_13) (u14:=u1_14) (u15:=u1_15) (u16:=u1_16) (u17:=u1_17) (u18:=u1_18) (mm:=(yi (yf s (yk v)))) (x1:=u8_1) (x2:=u8_2) (x3:=u15_1) (x4:=u15_2) (x5:=u18_1) (x6:=u18_2) (vv:=(Sh.gv cm u v)) (tp:=false) (k:=3) (hm:=by exact Sh.mat_hq hsm) (hv:=by exact Sh.gv_hq hc hu hv) (hk:=yn)) (.c (j:=3) rfl (.c (j:=4) rfl (.c (j:=5) rfl (.c (j:=6) rfl (.c (j:=7) rfl (.c (j:=8) rfl (.c (j:=9) rfl (.c (j:=10) rfl (.c (j:=11) rfl (.c (j:=2) rfl (.c (j:=1) rfl (.c (j:=0) rfl .n)))))))))))) ?_
    rintro ⟨u20_1,u20_2,u20_3,u20_4,u20_5,u20_6⟩ -
    dsimp only [aq,nq,cq]
    exact zN (hD2 (u20_1,u20_2,u20_3,u20_4,u20_5,u20_6)) kr ((.of rfl):SubM _ _) .rfl .rfl ((.of [0,1,2,15,16,17,18] rfl):SelR _ _ _)
   ·
    refine zya rfl rfl rfl rfl (zp zr106 rfl) (fun u21_1 _=> ?_)
    exact zN (hD3 (u1_1,u1_2,u1_3,u1_4,u1_5,u1_6,u1_7,u1_8,u1_9,u1_10,u1_11,u1_12,u1_13,u1_14,u1_15,u1_16,u1_17,u1_18,u8_1,u8_2,u15_1,u15_2,u18_1,u18_2,u21_1)) kr ((.of rfl):SubM _ _) .rfl .rfl ((.of [0,1,2,3,4,5,6,7,8,9,10,11,12,13,14,15] rfl):SelR _ _ _)
  refine zia (X:=Wd×Wd×Wd×Wd×Wd×Wd×Wd×Wd×Wd×Wd×Wd×Wd×Wd×Wd×Wd×Wd×Wd×Wd×Wd×Wd×Wd×Wd×Nat) (k':=4) (L':=(lb 23 2359295)) (fun (u1_1,u1_2,u1_3,u1_4,u1_5,u1_6,u1_7,u1_8,u1_9,u1_10,u1_11,u1_12,u1_13,u1_14,u1_15,u1_16,u1_17,u1_18,u8_1,u8_2,u15_1,u15_2,u21_1)=>([(13,ye (some ⟨u21_1,0,none⟩)),(43,.agg (cw [u15_1,u15_2]).toArray),(36,.agg (cw [u8_1,u8_2]).toArray),(29,.agg (cw [u1_1,u1_2,u1_3,u1_4,u1_5,u1_6,u1_7,u1_8,u1_9,u1_10,u1_11,u1_12,u1_13,u1_14,u1_15,u1_16,u1_17,u1_18]).toArray),(45,yc yd (cm.fo)),(12,ye (some ⟨b12,0,none⟩)),(8,ye (some ⟨b4,0,none⟩)),(3,yc yd h)],[boxA u21_1 106 (cw [wz,wz,wz,wz,wz,wz])],[boxA b12 106 (cw [w16,w27,w38,w49,w510,w611]),boxA b5 25 [yc yd ((yf s (yk v)).1),yc yd ((yf s (yk v)).2.1),yc yd ((yf s (yk v)).2.2.1),yc yd ((yf s (yk v)).2.2.2)],boxA b4 46 (cw [wz,wz,wz,wz]),boxA b3 35 [yc yd u,yc yd v],boxA b2 37 [yc yd (cm.fo),yc yd (cm.cx),yc yd (cm.cy)],boxA b1 29 (cS s)],[qF true u15_1 u15_2 (((v - cm.cy):Int):Rat),qF true u8_1 u8_2 (((u - cm.cx):Int):Rat),qF true u1_1 u1_2 ((yi (yf s (yk v))).1.1),qF true u1_3 u1_4 ((yi (yf s (yk v))).1.2.1),qF true u1_5 u1_6 ((yi (yf s (yk v))).1.2.2),qF true u1_7 u1_8 ((yi (yf s (yk v))).2.1.1),qF true u1_9 u1_10 ((yi (yf s (yk v))).2.1.2.1),qF true u1_11 u1_12 ((yi (yf s (yk v))).2.1.2.2),qF true u1_13 u1_14 ((yi (yf s (yk v))).2.2.1),qF true u1_15 u1_16 ((yi (yf s (yk v))).2.2.2.1),qF true u1_17 u1_18 ((yi (yf s (yk v))).2.2.2.2),qF true w16 w27 ((ym s (yk v)).1),qF true w38 w49 ((ym s (yk v)).2.1),qF true w510 w611 ((ym s (yk v)).2.2),sgF])) ?_ (fun hD5=> ?_)
  ·
   rintro ⟨u1_1,u1_2,u1_3,u1_4,u1_5,u1_6,u1_7,u1_8,u1_9,u1_10,u1_11,u1_12,u1_13,u1_14,u1_15,u1_16,u1_17,u1_18,u8_1,u8_2,u15_1,u15_2,u21_1⟩
   dsimp only [cw,cS]
   refine zRa 18 kr ?_
   ·
    refine zm rfl rfl rfl rfl (.c rfl .n) ce71 (zy (z:=cm.fo) (hz:=yn)) (.n) ?_
    rintro ⟨u18_1,u18_2⟩ -
    dsimp only [aq,nq,cq]
    refine e_pv 19 rfl rfl (zTa zr106 rfl yh sz44 (.c rfl (.c rfl (.c rfl .n))) (.c rfl rfl rfl (.t4 .nil) (.c rfl rfl rfl (.s4 (.t4 .nil)) (.c rfl rfl rfl (.s8 (.t4 .nil)) .n)))) ?_
    exact zN (hD3 (u1_1,u1_2,u1_3,u1_4,u1_5,u1_6,u1_7,u1_8,u1_9,u1_10,u1_11,u1_12,u1_13,u1_14,u1_15,u1_16,u1_17,u1_18,u8_1,u8_2,u15_1,u15_2,u18_1,u18_2,u21_1)) kr ((.of rfl):SubM _ _) .rfl .rfl ((.of [0,1,2,3,4,5,6,7,8,9,10,11,12,13,14,15] rfl):SelR _ _ _)
  refine zia (X:=Wd×Wd×Wd×Wd×Wd×Wd×Wd×Wd×Wd×Wd×Wd×Wd×Wd×Wd×Wd×Wd×Wd×Wd×Wd×Wd×Wd×Wd) (k':=5) (L':=(lb 23 262143)) (fun (u1_1,u1_2,u1_3,u1_4,u1_5,u1_6,u1_7,u1_8,u1_9,u1_10,u1_11,u1_12,u1_13,u1_14,u1_15,u1_16,u1_17,u1_18,u8_1,u8_2,u15_1,u15_2)=>([(43,.agg (cw [u15_1,u15_2]).toArray),(36,.agg (cw [u8_1,u8_2]).toArray),(29,.agg (cw [u1_1,u1_2,u1_3,u1_4,u1_5,u1_6,u1_7,u1_8,u1_9,u1_10,u1_11,u1_12,u1_13,u1_14,u1_15,u1_16,u1_17,u1_18]).toArray),(45,yc yd (cm.fo)),(12,ye (some ⟨b12,0,none⟩)),(8,ye (some ⟨b4,0,none⟩)),(3,yc yd h)],[],[boxA b12 106 (cw [w16,w27,w38,w49,w510,w611]),boxA b5 25 [yc yd ((yf s (yk v)).1),yc yd ((yf s (yk v)).2.1),yc yd ((yf s (yk v)).2.2.1),yc yd ((yf s (yk v)).2.2.2)],boxA b4 46 (cw [wz,wz,wz,wz]),boxA b3 35 [yc yd u,yc yd v],boxA b2 37 [yc yd (cm.fo),yc yd (cm.cx),yc yd (cm.cy)],boxA b1 29 (cS s)],[qF true u15_1 u15_2 (((v - cm.cy):Int):Rat),qF true u8_1 u8_2 (((u - cm.cx):Int):Rat),qF true u1_1 u1_2 ((yi (yf s (yk v))).1.1),qF true u1_3 u1_4 ((yi (yf s (yk v))).1.2.1),qF true u1_5 u1_6 ((yi (yf s (yk v))).1.2.2),qF true u1_7 u1_8 ((yi (yf s (yk v))).2.1.1),qF true u1_9 u1_10 ((yi (yf s (yk v))).2.1.2.1),qF true u1_11 u1_12 ((yi (yf s (yk v))).2.1.2.2),qF true u1_13 u1_14 ((yi (yf s (yk v))).2.2.1),qF true u1_15 u1_16 ((yi (yf s (yk v))).2.2.2.1),qF true u1_17 u1_18 ((yi (yf s (yk v))).2.2.2.2),qF true w16 w27 ((ym s (yk v)).1),qF true w38 w49 ((ym s (yk v)).2.1),qF true w510 w611 ((ym s (yk v)).2.2),sgF])) ?_ (fun hD6=> ?_)
  ·
   rintro ⟨u1_1,u1_2,u1_3,u1_4,u1_5,u1_6,u1_7,u1_8,u1_9,u1_10,u1_11,u1_12,u1_13,u1_14,u1_15,u1_16,u1_17,u1_18,u8_1,u8_2,u15_1,u15_2⟩
   dsimp only [cw,cS]
   refine zqb 18 21 kr ?_ ?_
   ·
    refine zm rfl rfl rfl rfl (.c rfl .n) ce71 (zy (z:=cm.fo) (hz:=yn)) (.n) ?_
    rintro ⟨u18_1,u18_2⟩ -
    dsimp only [aq,nq,cq]
    refine e_pv 19 rfl rfl (zTa zr106 rfl yh sz44 (.c rfl (.c rfl (.c rfl .n))) (.c rfl rfl rfl (.t4 .nil) (.c rfl rfl rfl (.s4 (.t4 .nil)) (.c rfl rfl rfl (.s8 (.t4 .nil)) .n)))) ?_
    exact zN (hD4 (u1_1,u1_2,u1_3,u1_4,u1_5,u1_6,u1_7,u1_8,u1_9,u1_10,u1_11,u1_12,u1_13,u1_14,u1_15,u1_16,u1_17,u1_18,u8_1,u8_2,u15_1,u15_2,u18_1,u18_2)) kr ((.of rfl):SubM _ _) .rfl .rfl ((.of [0,1,2,3,4,5,6,7,8,9,10,11,12,13,14,15] rfl):SelR _ _ _)
   ·
    refine zya rfl rfl rfl rfl (zp zr106 rfl) (fun u21_1 _=> ?_)
    exact zN (hD5 (u1_1,u1_2,u1_3,u1_4,u1_5,u1_6,u1_7,u1_8,u1_9,u1_10,u1_11,u1_12,u1_13,u1_14,u1_15,u1_16,u1_17,u1_18,u8_1,u8_2,u15_1,u15_2,u21_1)) kr ((.of rfl):SubM _ _) .rfl .rfl ((.of [0,1,2,3,4,5,6,7,8,9,10,11,12,13,14] rfl):SelR _ _ _)
  refine zia (X:=Wd×Wd×Wd×Wd×Wd×Wd×Wd×Wd×Wd×Wd×Wd×Wd×Wd×Wd×Wd×Wd×Wd×Wd×Wd×Wd×Nat) (k':=5) (L':=(lb 23 2326527)) (fun (u1_1,u1_2,u1_3,u1_4,u1_5,u1_6,u1_7,u1_8,u1_9,u1_10,u1_11,u1_12,u1_13,u1_14,u1_15,u1_16,u1_17,u1_18,u8_1,u8_2,u21_1)=>([(13,ye (some ⟨u21_1,0,none⟩)),(36,.agg (cw [u8_1,u8_2]).toArray),(29,.agg (cw [u1_1,u1_2,u1_3,u1_4,u1_5,u1_6,u1_7,u1_8,u1_9,u1_10,u1_11,u1_12,u1_13,u1_14,u1_15,u1_16,u1_17,u1_18]).toArray),(45,yc yd (cm.fo)),(42,yc yd (v - cm.cy)),(12,ye (some ⟨b12,0,none⟩)),(8,ye (some ⟨b4,0,none⟩)),(3,yc yd h)],[boxA u21_1 106 (cw [wz,wz,wz,wz,wz,wz])],[boxA b12 106 (cw [w16,w27,w38,w49,w510,w611]),boxA b5 25 [yc yd ((yf s (yk v)).1),yc yd ((yf s (yk v)).2.1),yc yd ((yf s (yk v)).2.2.1),yc yd ((yf s (yk v)).2.2.2)],boxA b4 46 (cw [wz,wz,wz,wz]),boxA b3 35 [yc yd u,yc yd v],boxA b2 37 [yc yd (cm.fo),yc yd (cm.cx),yc yd (cm.cy)],boxA b1 29 (cS s)],[qF true u8_1 u8_2 (((u - cm.cx):Int):Rat),qF true u1_1 u1_2 ((yi (yf s (yk v))).1.1),qF true u1_3 u1_4 ((yi (yf s (yk v))).1.2.1),qF true u1_5 u1_6 ((yi (yf s (yk v))).1.2.2),qF true u1_7 u1_8 ((yi (yf s (yk v))).2.1.1),qF true u1_9 u1_10 ((yi (yf s (yk v))).2.1.2.1),qF true u1_11 u1_12 ((yi (yf s (yk v))).2.1.2.2),qF true u1_13 u1_14 ((yi (yf s (yk v))).2.2.1),qF true u1_15 u1_16 ((yi (yf s (yk v))).2.2.2.1),qF true u1_17 u1_18 ((yi (yf s (yk v))).2.2.2.2),qF true w16 w27 ((ym s (yk v)).1),qF true w38 w49 ((ym s (yk v)).2.1),qF true w510 w611 ((ym s (yk v)).2.2),sgF])) ?_ (fun hD7=> ?_)
  ·
   rintro ⟨u1_1,u1_2,u1_3,u1_4,u1_5,u1_6,u1_7,u1_8,u1_9,u1_10,u1_11,u1_12,u1_13,u1_14,u1_15,u1_16,u1_17,u1_18,u8_1,u8_2,u21_1⟩
   dsimp only [cw,cS]
   refine zRa 15 kr ?_
   ·
    refine zm rfl rfl rfl rfl (.c rfl .n) ce71 (zy (z:=(v - cm.cy)) (hz:=yn)) (.n) ?_
    rintro ⟨u15_1,u15_2⟩ -
    dsimp only [aq,nq,cq]
    exact zN (hD5 (u1_1,u1_2,u1_3,u1_4,u1_5,u1_6,u1_7,u1_8,u1_9,u1_10,u1_11,u1_12,u1_13,u1_14,u1_15,u1_16,u1_17,u1_18,u8_1,u8_2,u15_1,u15_2,u21_1)) kr ((.of rfl):SubM _ _) .rfl .rfl ((.of [0,1,2,3,4,5,6,7,8,9,10,11,12,13,14] rfl):SelR _ _ _)
  refine zia (X:=Wd×Wd×Wd×Wd×Wd×Wd×Wd×Wd×Wd×Wd×Wd×Wd×Wd×Wd×Wd×Wd×Wd×Wd×Wd×Wd) (k':=6) (L':=(lb 23 229375)) (fun (u1_1,u1_2,u1_3,u1_4,u1_5,u1_6,u1_7,u1_8,u1_9,u1_10,u1_11,u1_12,u1_13,u1_14,u1_15,u1_16,u1_17,u1_18,u8_1,u8_2)=>([(36,.agg (cw [u8_1,u8_2]).toArray),(29,.agg (cw [u1_1,u1_2,u1_3,u1_4,u1_5,u1_6,u1_7,u1_8,u1_9,u1_10,u1_11,u1_12,u1_13,u1_14,u1_15,u1_16,u1_17,u1_18]).toArray),(45,yc yd (cm.fo)),(42,yc yd (v - cm.cy)),(12,ye (some ⟨b12,0,none⟩)),(8,ye (some ⟨b4,0,none⟩)),(3,yc yd h)],[],[boxA b12 106 (cw [w16,w27,w38,w49,w510,w611]),boxA b5 25 [yc yd ((yf s (yk v)).1),yc yd ((yf s (yk v)).2.1),yc yd ((yf s (yk v)).2.2.1),yc yd ((yf s (yk v)).2.2.2)],boxA b4 46 (cw [wz,wz,wz,wz]),boxA b3 35 [yc yd u,yc yd v],boxA b2 37 [yc yd (cm.fo),yc yd (cm.cx),yc yd (cm.cy)],boxA b1 29 (cS s)],[qF true u8_1 u8_2 (((u - cm.cx):Int):Rat),qF true u1_1 u1_2 ((yi (yf s (yk v))).1.1),qF true u1_3 u1_4 ((yi (yf s (yk v))).1.2.1),qF true u1_5 u1_6 ((yi (yf s (yk v))).1.2.2),qF true u1_7 u1_8 ((yi (yf s (yk v))).2.1.1),qF true u1_9 u1_10 ((yi (yf s (yk v))).2.1.2.1),qF true u1_11 u1_12 ((yi (yf s (yk v))).2.1.2.2),qF true u1_13 u1_14 ((yi (yf s (yk v))).2.2.1),qF true u1_15 u1_16 ((yi (yf s (yk v))).2.2.2.1),qF true u1_17 u1_18 ((yi (yf s (yk v))).2.2.2.2),qF true w16 w27 ((ym s (yk v)).1),qF true w38 w49 ((ym s (yk v)).2.1),qF true w510 w611 ((ym s (yk v)).2.2),sgF])) ?_ (fun hD8=> ?_)
  ·
   rintro ⟨u1_1,u1_2,u1_3,u1_4,u1_5,u1_6,u1_7,u1_8,u1_9,u1_10,u1_11,u1_12,u1_13,u1_14,u1_15,u1_16,u1_17,u1_18,u8_1,u8_2⟩
   dsimp only [cw,cS]
   refine zqb 15 21 kr ?_ ?_
   ·
    refine zm rfl rfl rfl rfl (.c rfl .n) ce71 (zy (z:=(v - cm.cy)) (hz:=yn)) (.n) ?_
    rintro ⟨u15_1,u15_2⟩ -
    dsimp only [aq,nq,cq]
    exact zN (hD6 (u1_1,u1_2,u1_3,u1_4,u1_5,u1_6,u1_7,u1_8,u1_9,u1_10,u1_11,u1_12,u1_13,u1_14,u1_15,u1_16,u1_17,u1_18,u8_1,u8_2,u15_1,u15_2)) kr ((.of rfl):SubM _ _) .rfl .rfl ((.of [0,1,2,3,4,5,6,7,8,9,10,11,12,13,14] rfl):SelR _ _ _)
   ·
    refine zya rfl rfl rfl rfl (zp zr106 rfl) (fun u21_1 _=> ?_)
    exact zN (hD7 (u1_1,u1_2,u1_3,u1_4,u1_5,u1_6,u1_7,u1_8,u1_9,u1_10,u1_11,u1_12,u1_13,u1_14,u1_15,u1_16,u1_17,u1_18,u8_1,u8_2,u21_1)) kr ((.of rfl):SubM _ _) .rfl .rfl ((.of [0,1,2,3,4,5,6,7,8,9,10,11,12,13] rfl):SelR _ _ _)
  refine zia (X:=Wd×Wd×Wd×Wd×Wd×Wd×Wd×Wd×Wd×Wd×Wd×Wd×Wd×Wd×Wd×Wd×Wd×Wd×Nat) (k':=6) (L':=(lb 23 2326271)) (fun (u1_1,u1_2,u1_3,u1_4,u1_5,u1_6,u1_7,u1_8,u1_9,u1_10,u1_11,u1_12,u1_13,u1_14,u1_15,u1_16,u1_17,u1_18,u21_1)=>([(13,ye (some ⟨u21_1,0,none⟩)),(29,.agg (cw [u1_1,u1_2,u1_3,u1_4,u1_5,u1_6,u1_7,u1_8,u1_9,u1_10,u1_11,u1_12,u1_13,u1_14,u1_15,u1_16,u1_17,u1_18]).toArray),(45,yc yd (cm.fo)),(42,yc yd (v - cm.cy)),(35,yc yd (u - cm.cx)),(12,ye (some ⟨b12,0,none⟩)),(8,ye (some ⟨b4,0,none⟩)),(3,yc yd h)],[boxA u21_1 106 (cw [wz,wz,wz,wz,wz,wz])],[boxA b12 106 (cw [w16,w27,w38,w49,w510,w611]),boxA b5 25 [yc yd ((yf s (yk v)).1),yc yd ((yf s (yk v)).2.1),yc yd ((yf s (yk v)).2.2.1),yc yd ((yf s (yk v)).2.2.2)],boxA b4 46 (cw [wz,wz,wz,wz]),boxA b3 35 [yc yd u,yc yd v],boxA b2 37 [yc yd (cm.fo),yc yd (cm.cx),yc yd (cm.cy)],boxA b1 29 (cS s)],[qF true u1_1 u1_2 ((yi (yf s (yk v))).1.1),qF true u1_3 u1_4 ((yi (yf s (yk v))).1.2.1),qF true u1_5 u1_6 ((yi (yf s (yk v))).1.2.2),qF true u1_7 u1_8 ((yi (yf s (yk v))).2.1.1),qF true u1_9 u1_10 ((yi (yf s (yk v))).2.1.2.1),qF true u1_11 u1_12 ((yi (yf s (yk v))).2.1.2.2),qF true u1_13 u1_14 ((yi (yf s (yk v))).2.2.1),qF true u1_15 u1_16 ((yi (yf s (yk v))).2.2.2.1),qF true u1_17 u1_18 ((yi (yf s (yk v))).2.2.2.2),qF true w16 w27 ((ym s (yk v)).1),qF true w38 w49 ((ym s (yk v)).2.1),qF true w510 w611 ((ym s (yk v)).2.2),sgF])) ?_ (fun hD9=> ?_)
  ·
   rintro ⟨u1_1,u1_2,u1_3,u1_4,u1_5,u1_6,u1_7,u1_8,u1_9,u1_10,u1_11,u1_12,u1_13,u1_14,u1_15,u1_16,u1_17,u1_18,u21_1⟩
   dsimp only [cw,cS]
   refine zRa 8 kr ?_
   ·
    refine zm rfl rfl rfl rfl (.c rfl .n) ce71 (zy (z:=(u - cm.cx)) (hz:=yn)) (.n) ?_
    rintro ⟨u8_1,u8_2⟩ -
    dsimp only [aq,nq,cq]
    exact zN (hD7 (u1_1,u1_2,u1_3,u1_4,u1_5,u1_6,u1_7,u1_8,u1_9,u1_10,u1_11,u1_12,u1_13,u1_14,u1_15,u1_16,u1_17,u1_18,u8_1,u8_2,u21_1)) kr ((.of rfl):SubM _ _) .rfl .rfl ((.of [0,1,2,3,4,5,6,7,8,9,10,11,12,13] rfl):SelR _ _ _)
  refine zia (X:=Wd×Wd×Wd×Wd×Wd×Wd×Wd×Wd×Wd×Wd×Wd×Wd×Wd×Wd×Wd×Wd×Wd×Wd) (k':=7) (L':=(lb 23 229119)) (fun (u1_1,u1_2,u1_3,u1_4,u1_5,u1_6,u1_7,u1_8,u1_9,u1_10,u1_11,u1_12,u1_13,u1_14,u1_15,u1_16,u1_17,u1_18)=>([(29,.agg (cw [u1_1,u1_2,u1_3,u1_4,u1_5,u1_6,u1_7,u1_8,u1_9,u1_10,u1_11,u1_12,u1_13,u1_14,u1_15,u1_16,u1_17,u1_18]).toArray),(45,yc yd (cm.fo)),(42,yc yd (v - cm.cy)),(35,yc yd (u - cm.cx)),(12,ye (some ⟨b12,0,none⟩)),(8,ye (some ⟨b4,0,none⟩)),(3,yc yd h)],[],[boxA b12 106 (cw [w16,w27,w38,w49,w510,w611]),boxA b5 25 [yc yd ((yf s (yk v)).1),yc yd ((yf s (yk v)).2.1),yc yd ((yf s (yk v)).2.2.1),yc yd ((yf s (yk v)).2.2.2)],boxA b4 46 (cw [wz,wz,wz,wz]),boxA b3 35 [yc yd u,yc yd v],boxA b2 37 [yc yd (cm.fo),yc yd (cm.cx),yc yd (cm.cy)],boxA b1 29 (cS s)],[qF true u1_1 u1_2 ((yi (yf s (yk v))).1.1),qF true u1_3 u1_4 ((yi (yf s (yk v))).1.2.1),qF true u1_5 u1_6 ((yi (yf s (yk v))).1.2.2),qF true u1_7 u1_8 ((yi (yf s (yk v))).2.1.1),qF true u1_9 u1_10 ((yi (yf s (yk v))).2.1.2.1),qF true u1_11 u1_12 ((yi (yf s (yk v))).2.1.2.2),qF true u1_13 u1_14 ((yi (yf s (yk v))).2.2.1),qF true u1_15 u1_16 ((yi (yf s (yk v))).2.2.2.1),qF true u1_17 u1_18 ((yi (yf s (yk v))).2.2.2.2),qF true w16 w27 ((ym s (yk v)).1),qF true w38 w49 ((ym s (yk v)).2.1),qF true w510 w611 ((ym s (yk v)).2.2),sgF])) ?_ (fun hD10=> ?_)
  ·
   rintro ⟨u1_1,u1_2,u1_3,u1_4,u1_5,u1_6,u1_7,u1_8,u1_9,u1_10,u1_11,u1_12,u1_13,u1_14,u1_15,u1_16,u1_17,u1_18⟩
   dsimp only [cw,cS]
   refine zqb 8 21 kr ?_ ?_
   ·
    refine zm rfl rfl rfl rfl (.c rfl .n) ce71 (zy (z:=(u - cm.cx)) (hz:=yn)) (.n) ?_
    rintro ⟨u8_1,u8_2⟩ -
    dsimp only [aq,nq,cq]
    exact zN (hD8 (u1_1,u1_2,u1_3,u1_4,u1_5,u1_6,u1_7,u1_8,u1_9,u1_10,u1_11,u1_12,u1_13,u1_14,u1_15,u1_16,u1_17,u1_18,u8_1,u8_2)) kr ((.of rfl):SubM _ _) .rfl .rfl ((.of [0,1,2,3,4,5,6,7,8,9,10,11,12,13] rfl):SelR _ _ _)
   ·
    refine zya rfl rfl rfl rfl (zp zr106 rfl) (fun u21_1 _=> ?_)
    exact zN (hD9 (u1_1,u1_2,u1_3,u1_4,u1_5,u1_6,u1_7,u1_8,u1_9,u1_10,u1_11,u1_12,u1_13,u1_14,u1_15,u1_16,u1_17,u1_18,u21_1)) kr ((.of rfl):SubM _ _) .rfl .rfl ((.of [0,1,2,3,4,5,6,7,8,9,10,11,12] rfl):SelR _ _ _)
  refine zia (X:=Nat) (k':=7) (L':=(lb 23 2326269)) (fun u21_1=>([(13,ye (some ⟨u21_1,0,none⟩)),(45,yc yd (cm.fo)),(42,yc yd (v - cm.cy)),(35,yc yd (u - cm.cx)),(28,.agg #[yc yd ((yf s (yk v)).1),yc yd ((yf s (yk v)).2.1),yc yd ((yf s (yk v)).2.2.1),yc yd ((yf s (yk v)).2.2.2)]),(12,ye (some ⟨b12,0,none⟩)),(8,ye (some ⟨b4,0,none⟩)),(3,yc yd h)],[boxA u21_1 106 (cw [wz,wz,wz,wz,wz,wz])],[boxA b12 106 (cw [w16,w27,w38,w49,w510,w611]),boxA b5 25 [yc yd ((yf s (yk v)).1),yc yd ((yf s (yk v)).2.1),yc yd ((yf s (yk v)).2.2.1),yc yd ((yf s (yk v)).2.2.2)],boxA b4 46 (cw [wz,wz,wz,wz]),boxA b3 35 [yc yd u,yc yd v],boxA b2 37 [yc yd (cm.fo),yc yd (cm.cx),yc yd (cm.cy)],boxA b1 29 (cS s)],[qF true w16 w27 ((ym s (yk v)).1),qF true w38 w49 ((ym s (yk v)).2.1),qF true w510 w611 ((ym s (yk v)).2.2),sgF])) ?_ (fun hD11=> ?_)
  ·
   rintro u21_1
   dsimp only [cw,cS]
   refine zRa 1 kr ?_
   ·
    refine zm rfl rfl rfl rfl (.c rfl .n) ce76 (zVb (q:=(yf s (yk v))) (hsm:=yn)) (.c (j:=3) rfl .n) ?_
    rintro ⟨u1_1,u1_2,u1_3,u1_4,u1_5,u1_6,u1_7,u1_8,u1_9,u1_10,u1_11,u1_12,u1_13,u1_14,u1_15,u1_16,u1_17,u1_18⟩ -
    dsimp only [aq,nq,cq]
    exact zN (hD9 (u1_1,u1_2,u1_3,u1_4,u1_5,u1_6,u1_7,u1_8,u1_9,u1_10,u1_11,u1_12,u1_13,u1_14,u1_15,u1_16,u1_17,u1_18,u21_1)) kr ((.of rfl):SubM _ _) .rfl .rfl ((.of [0,1,2,3,4,5,6,7,8,9,10,11,12] rfl):SelR _ _ _)
  refine zqb 1 21 kr ?_ ?_
  ·
   refine zm rfl rfl rfl rfl (.c rfl .n) ce76 (zVb (q:=(yf s (yk v))) (hsm:=yn)) (.c (j:=3) rfl .n) ?_
   rintro ⟨u1_1,u1_2,u1_3,u1_4,u1_5,u1_6,u1_7,u1_8,u1_9,u1_10,u1_11,u1_12,u1_13,u1_14,u1_15,u1_16,u1_17,u1_18⟩ -
   dsimp only [aq,nq,cq]
   exact zN (hD10 (u1_1,u1_2,u1_3,u1_4,u1_5,u1_6,u1_7,u1_8,u1_9,u1_10,u1_11,u1_12,u1_13,u1_14,u1_15,u1_16,u1_17,u1_18)) kr ((.of rfl):SubM _ _) .rfl .rfl ((.of [0,1,2,3,4,5,6,7,8,9,10,11,12] rfl):SelR _ _ _)
  ·
   refine zya rfl rfl rfl rfl (zp zr106 rfl) (fun u21_1 _=> ?_)
   exact zN (hD11 u21_1) kr ((.of rfl):SubM _ _) .rfl .rfl ((.of [0,1,2,3] rfl):SelR _ _ _)
end Go.Proofs.YtjeahiahjgifgaaGreatDoor.Sp
namespace Go.Proofs.YtjeahiahjgifgaaGreatDoor.Sp
open Go
set_option linter.unusedVariables false
set_option maxRecDepth 100000
set_option maxHeartbeats 8000000
theorem zid {ce:Int} {u1:Wd} {v1:Wd} {q1:Rat} {bc:Nat} {bd:Nat} {fo:Int} {fx:Int} {fy:Int} {e1:Wd} {e2:Wd} {e3:Wd} {e4:Wd} {e5:Wd} {e6:Wd} {qz:Rat} (hce: -1048576≤ce∧ce≤1048576) (hfo: -1048576≤fo∧fo≤1048576) (hq1:Big.hq q1≤1398) (hqz:Big.hq qz≤1398) (hne:qz≠0):Con Tryz.prog 82 [yc yd ce,.agg #[u1.b,u1.l,v1.b,v1.l],ye (some ⟨bc,0,none⟩),ye (some ⟨bd,0,none⟩)] [] [qF true u1 v1 q1,atF bc 0 [yc yd fo,yc yd fx,yc yd fy],atF bd 0 [e1.b,e1.l,e2.b,e2.l,e3.b,e3.l,e4.b,e4.l,e5.b,e5.l,e6.b,e6.l],qF true e5 e6 qz] (Y:=Wd×Wd) (fun y=>True) (fun y=> .agg #[y.1.b,y.1.l,y.2.b,y.2.l]) (fun y=>[]) (fun y=>[qF true y.1 y.2 (((ce:Int):Rat)+((((fo:Int):Rat)*q1) / qz))]):=by
 refine zx Tryz.func82 rfl rfl rfl (fun c=> ?_)
 show RunC _ _ _ _ _ [(0,yc yd ce),(1,.agg #[u1.b,u1.l,v1.b,v1.l]),(2,ye (some ⟨bc,0,none⟩)),(3,ye (some ⟨bd,0,none⟩))] [] [qF true u1 v1 q1,atF bc 0 [yc yd fo,yc yd fx,yc yd fy],atF bd 0 [e1.b,e1.l,e2.b,e2.l,e3.b,e3.l,e4.b,e4.l,e5.b,e5.l,e6.b,e6.l],qF true e5 e6 qz]
 refine zj<|zc<|zJ rfl rfl (zda rfl rfl) (fun b1=> ?_)
 refine zJ rfl rfl (zp zr44 rfl) (fun b2=> ?_)
 refine zk<|zf<|zj<|zO (OW:=[]) (O:=[boxA b2 44 (cw [wz,wz]),boxA b1 44 (cw [u1,v1])]) 12 mixed (.then .ret) kr<|e_pv 0 rfl rfl (zg yz rfl sz3 rfl rfl)<|e_u 1 rfl rfl (zA (j:=0) 1 ty3 rfl rfl rfl rfl)<|e_u 3 rfl rfl (zd 1 ty44 rfl rfl (.t4 .nil))<|e_pv 5 rfl rfl (zi (i:=2) yh sz44 rfl rfl dd rfl)<|e_u 6 rfl rfl (zX (j:=8) 2 ty44 rfl rfl rfl (.s8 (.t4 .nil)))<|zAc (m':=[(16,.agg (cw [e5,e6]).toArray),(13,.agg (cw [u1,v1]).toArray),(11,yc yd fo),(6,ye (some ⟨b2,0,none⟩)),(0,yc yd ce)]) (R':=[qF true u1 v1 q1,atF bc 0 [yc yd fo,yc yd fx,yc yd fy],atF bd 0 [e1.b,e1.l,e2.b,e2.l,e3.b,e3.l,e4.b,e4.l,e5.b,e5.l,e6.b,e6.l],qF true e5 e6 qz]) ((.of rfl):SubM _ _) (List.Perm.refl _) (List.Perm.refl _) ((.of [0,1,2,3] rfl):SelR _ _ _)<|zia (X:=Wd×Wd×Wd×Wd×Wd×Wd×Nat) (k':=0) (L':=(lb 14 16383)) (fun (u2_1,u2_2,u4_1,u4_2,u7_1,u7_2,u11_1)=>([(7,ye (some ⟨u11_1,0,none⟩)),(6,ye (some ⟨b2,0,none⟩)),(0,yc yd ce)],[boxA u11_1 44 (cw [u7_1,u7_2])],[boxA b2 44 (cw [wz,wz]),boxA b1 44 (cw [u1,v1])],[qF true u7_1 u7_2 ((((fo:Int):Rat)*q1) / qz),qF true u4_1 u4_2 (((fo:Int):Rat)*q1),qF true u2_1 u2_2 ((fo:Int):Rat),qF true u1 v1 q1,atF bc 0 [yc yd fo,yc yd fx,yc yd fy],atF bd 0 [e1.b,e1.l,e2.b,e2.l,e3.b,e3.l,e4.b,e4.l,e5.b,e5.l,e6.b,e6.l],qF true e5 e6 qz])) ?_ (fun hD0=> ?_)
 ·
  rintro ⟨u2_1,u2_2,u4_1,u4_2,u7_1,u7_2,u11_1⟩
  dsimp only [cw,cS]
  refine zM kr<|zf<|zj<|zba (.c (i:=1) rfl (.c (i:=0) rfl (.c (i:=0) rfl .n)))<|zO (OW:=[boxA b2 44 (cw [wz,wz])]) (O:=[boxA u11_1 44 (cw [u7_1,u7_2]),boxA b1 44 (cw [u1,v1])]) 4 mixed (.then .ret) kr<|e_dm 0 rfl rfl rfl<|e_uw 2 rfl rfl (zd 1 ty44 rfl rfl (.t4 .nil))<|e_one 1 (zm rfl rfl rfl rfl (.c rfl .n) ce71 (zy (z:=ce) (hz:=yn)) (.n) ?_)
  rintro ⟨w33,w44⟩ -
  dsimp only [aq,nq,cq]
  refine e_one 3 (zm rfl rfl rfl rfl (.c rfl (.c rfl .n)) ce80 (zka (k1:=true) (u1:=w33) (v1:=w44) (q1:=((ce:Int):Rat)) (k2:=true) (u2:=u7_1) (v2:=u7_2) (q2:=(((fo:Int):Rat)*q1) / qz) (hl:=yn)) (.c (j:=0) rfl (.c (j:=1) rfl .n)) ?_)
  rintro ⟨w35,w46⟩ -
  dsimp only [aq,nq,cq]
  refine e_one 4 (zo kr rfl rfl rfl rfl rfl sz44 rfl (.t4 .nil) ?_)
  refine zM kr<|zf<|zR ?_
  exact zL Tryz.results82 (w35,w46) trivial (zr 0 ty44 rfl rfl (.t4 .nil)) rfl (ho:=(.n:PickO _ _ _)) ((.c (j:=0) rfl .n):SelR _ _ _)
 refine zia (X:=Wd×Wd×Wd×Wd×Wd×Wd×Nat) (k':=2) (L':=(lb 14 4095)) (fun (u2_1,u2_2,u4_1,u4_2,u7_1,u7_2,u11_1)=>([(7,ye (some ⟨u11_1,0,none⟩)),(19,yc yd 0),(18,.agg (cw [u7_1,u7_2]).toArray),(6,ye (some ⟨b2,0,none⟩)),(0,yc yd ce)],[boxA u11_1 44 (cw [wz,wz])],[boxA b2 44 (cw [wz,wz]),boxA b1 44 (cw [u1,v1])],[qF true u7_1 u7_2 ((((fo:Int):Rat)*q1) / qz),qF true u4_1 u4_2 (((fo:Int):Rat)*q1),qF true u2_1 u2_2 ((fo:Int):Rat),qF true u1 v1 q1,atF bc 0 [yc yd fo,yc yd fx,yc yd fy],atF bd 0 [e1.b,e1.l,e2.b,e2.l,e3.b,e3.l,e4.b,e4.l,e5.b,e5.l,e6.b,e6.l],qF true e5 e6 qz])) ?_ (fun hD1=> ?_)
 ·
  rintro ⟨u2_1,u2_2,u4_1,u4_2,u7_1,u7_2,u11_1⟩
  dsimp only [cw,cS]
  refine zRa 12 kr ?_
  ·
   refine zo kr rfl rfl rfl rfl rfl sz44 rfl (.t4 .nil)<|e_pv 13 rfl rfl (zh rfl) ?_
   exact zN (hD0 (u2_1,u2_2,u4_1,u4_2,u7_1,u7_2,u11_1)) kr ((.of rfl):SubM _ _) .rfl .rfl ((.of [0,1,2,3,4,5,6] rfl):SelR _ _ _)
 refine zia (X:=Wd×Wd×Wd×Wd×Wd×Wd) (k':=3) (L':=(lb 14 2047)) (fun (u2_1,u2_2,u4_1,u4_2,u7_1,u7_2)=>([(19,yc yd 0),(18,.agg (cw [u7_1,u7_2]).toArray),(6,ye (some ⟨b2,0,none⟩)),(0,yc yd ce)],[],[boxA b2 44 (cw [wz,wz]),boxA b1 44 (cw [u1,v1])],[qF true u7_1 u7_2 ((((fo:Int):Rat)*q1) / qz),qF true u4_1 u4_2 (((fo:Int):Rat)*q1),qF true u2_1 u2_2 ((fo:Int):Rat),qF true u1 v1 q1,atF bc 0 [yc yd fo,yc yd fx,yc yd fy],atF bd 0 [e1.b,e1.l,e2.b,e2.l,e3.b,e3.l,e4.b,e4.l,e5.b,e5.l,e6.b,e6.l],qF true e5 e6 qz])) ?_ (fun hD2=> ?_)
 ·
  rintro ⟨u2_1,u2_2,u4_1,u4_2,u7_1,u7_2⟩
  dsimp only [cw,cS]
  refine zRa 11 kr ?_
  ·
   refine zya rfl rfl rfl rfl (zp zr44 rfl) (fun u11_1 _=> ?_)
   exact zN (hD1 (u2_1,u2_2,u4_1,u4_2,u7_1,u7_2,u11_1)) kr ((.of rfl):SubM _ _) .rfl .rfl ((.of [0,1,2,3,4,5,6] rfl):SelR _ _ _)
 refine zia (X:=Wd×Wd×Wd×Wd×Nat) (k':=6) (L':=(lb 14 2175)) (fun (u2_1,u2_2,u4_1,u4_2,u11_1)=>([(7,ye (some ⟨u11_1,0,none⟩)),(14,.agg (cw [u4_1,u4_2]).toArray),(16,.agg (cw [e5,e6]).toArray),(6,ye (some ⟨b2,0,none⟩)),(0,yc yd ce)],[boxA u11_1 44 (cw [wz,wz])],[boxA b2 44 (cw [wz,wz]),boxA b1 44 (cw [u1,v1])],[qF true u4_1 u4_2 (((fo:Int):Rat)*q1),qF true u2_1 u2_2 ((fo:Int):Rat),qF true u1 v1 q1,atF bc 0 [yc yd fo,yc yd fx,yc yd fy],atF bd 0 [e1.b,e1.l,e2.b,e2.l,e3.b,e3.l,e4.b,e4.l,e5.b,e5.l,e6.b,e6.l],qF true e5 e6 qz])) ?_ (fun hD3=> ?_)
 ·
  rintro ⟨u2_1,u2_2,u4_1,u4_2,u11_1⟩
  dsimp only [cw,cS]
  refine zRa 7 kr ?_
  ·
   refine zm rfl rfl rfl rfl (.c rfl (.c rfl .n)) ce77 (zqc (k1:=true) (u1:=u4_1) (v1:=u4_2) (q1:=((fo:Int):Rat)*q1) (k2:=true) (u2:=e5) (v2:=e6) (q2:=qz) (hl:=yn) (hy:=ass)) (.c (j:=0) rfl (.c (j:=5) rfl .n)) ?_
   rintro ⟨u7_1,u7_2⟩ -
   dsimp only [aq,nq,cq]
   refine e_dm 8 rfl rfl rfl<|e_pv 9 rfl rfl (zw rfl rfl)<|e_pv 10 rfl rfl (zw rfl rfl) ?_
   exact zN (hD1 (u2_1,u2_2,u4_1,u4_2,u7_1,u7_2,u11_1)) kr ((.of rfl):SubM _ _) .rfl .rfl ((.of [0,1,2,3,4,5,6] rfl):SelR _ _ _)
 refine zia (X:=Wd×Wd×Wd×Wd) (k':=7) (L':=(lb 14 127)) (fun (u2_1,u2_2,u4_1,u4_2)=>([(14,.agg (cw [u4_1,u4_2]).toArray),(16,.agg (cw [e5,e6]).toArray),(6,ye (some ⟨b2,0,none⟩)),(0,yc yd ce)],[],[boxA b2 44 (cw [wz,wz]),boxA b1 44 (cw [u1,v1])],[qF true u4_1 u4_2 (((fo:Int):Rat)*q1),qF true u2_1 u2_2 ((fo:Int):Rat),qF true u1 v1 q1,atF bc 0 [yc yd fo,yc yd fx,yc yd fy],atF bd 0 [e1.b,e1.l,e2.b,e2.l,e3.b,e3.l,e4.b,e4.l,e5.b,e5.l,e6.b,e6.l],qF true e5 e6 qz])) ?_ (fun hD4=> ?_)
 ·
  rintro ⟨u2_1,u2_2,u4_1,u4_2⟩
  dsimp only [cw,cS]
  refine zqb 7 11 kr ?_ ?_
  ·
   refine zm rfl rfl rfl rfl (.c rfl (.c rfl .n)) ce77 (zqc (k1:=true) (u1:=u4_1) (v1:=u4_2) (q1:=((fo:Int):Rat)*q1) (k2:=true) (u2:=e5) (v2:=e6) (q2:=qz) (hl:=yn) (hy:=ass)) (.c (j:=0) rfl (.c (j:=5) rfl .n)) ?_
   rintro ⟨u7_1,u7_2⟩ -
   dsimp only [aq,nq,cq]
   refine e_dm 8 rfl rfl rfl<|e_pv 9 rfl rfl (zw rfl rfl)<|e_pv 10 rfl rfl (zw rfl rfl) ?_
   exact zN (hD2 (u2_1,u2_2,u4_1,u4_2,u7_1,u7_2)) kr ((.of rfl):SubM _ _) .rfl .rfl ((.of [0,1,2,3,4,5,6] rfl):SelR _ _ _)
  ·
   refine zya rfl rfl rfl rfl (zp zr44 rfl) (fun u11_1 _=> ?_)
   exact zN (hD3 (u2_1,u2_2,u4_1,u4_2,u11_1)) kr ((.of rfl):SubM _ _) .rfl .rfl ((.of [0,1,2,3,4,5] rfl):SelR _ _ _)
 refine zia (X:=Wd×Wd×Nat) (k':=7) (L':=(lb 14 2159)) (fun (u2_1,u2_2,u11_1)=>([(7,ye (some ⟨u11_1,0,none⟩)),(12,.agg (cw [u2_1,u2_2]).toArray),(16,.agg (cw [e5,e6]).toArray),(13,.agg (cw [u1,v1]).toArray),(6,ye (some ⟨b2,0,none⟩)),(0,yc yd ce)],[boxA u11_1 44 (cw [wz,wz])],[boxA b2 44 (cw [wz,wz]),boxA b1 44 (cw [u1,v1])],[qF true u2_1 u2_2 ((fo:Int):Rat),qF true u1 v1 q1,atF bc 0 [yc yd fo,yc yd fx,yc yd fy],atF bd 0 [e1.b,e1.l,e2.b,e2.l,e3.b,e3.l,e4.b,e4.l,e5.b,e5.l,e6.b,e6.l],qF true e5 e6 qz])) ?_ (fun hD5=> ?_)
 ·
  rintro ⟨u2_1,u2_2,u11_1⟩
  dsimp only [cw,cS]
  refine zRa 4 kr ?_
  ·
   refine zm rfl rfl rfl rfl (.c rfl (.c rfl .n)) ce81 (zY (k1:=true) (u1:=u2_1) (v1:=u2_2) (q1:=((fo:Int):Rat)) (k2:=true) (u2:=u1) (v2:=v1) (q2:=q1) (hl:=yn)) (.c (j:=0) rfl (.c (j:=1) rfl .n)) ?_
   rintro ⟨u4_1,u4_2⟩ -
   dsimp only [aq,nq,cq]
   exact zN (hD3 (u2_1,u2_2,u4_1,u4_2,u11_1)) kr ((.of rfl):SubM _ _) .rfl .rfl ((.of [0,1,2,3,4,5] rfl):SelR _ _ _)
 refine zia (X:=Wd×Wd) (k':=8) (L':=(lb 14 111)) (fun (u2_1,u2_2)=>([(12,.agg (cw [u2_1,u2_2]).toArray),(16,.agg (cw [e5,e6]).toArray),(13,.agg (cw [u1,v1]).toArray),(6,ye (some ⟨b2,0,none⟩)),(0,yc yd ce)],[],[boxA b2 44 (cw [wz,wz]),boxA b1 44 (cw [u1,v1])],[qF true u2_1 u2_2 ((fo:Int):Rat),qF true u1 v1 q1,atF bc 0 [yc yd fo,yc yd fx,yc yd fy],atF bd 0 [e1.b,e1.l,e2.b,e2.l,e3.b,e3.l,e4.b,e4.l,e5.b,e5.l,e6.b,e6.l],qF true e5 e6 qz])) ?_ (fun hD6=> ?_)
 ·
  rintro ⟨u2_1,u2_2⟩
  dsimp only [cw,cS]
  refine zqb 4 11 kr ?_ ?_
  ·
   refine zm rfl rfl rfl rfl (.c rfl (.c rfl .n)) ce81 (zY (k1:=true) (u1:=u2_1) (v1:=u2_2) (q1:=((fo:Int):Rat)) (k2:=true) (u2:=u1) (v2:=v1) (q2:=q1) (hl:=yn)) (.c (j:=0) rfl (.c (j:=1) rfl .n)) ?_
   rintro ⟨u4_1,u4_2⟩ -
   dsimp only [aq,nq,cq]
   exact zN (hD4 (u2_1,u2_2,u4_1,u4_2)) kr ((.of rfl):SubM _ _) .rfl .rfl ((.of [0,1,2,3,4,5] rfl):SelR _ _ _)
  ·
   refine zya rfl rfl rfl rfl (zp zr44 rfl) (fun u11_1 _=> ?_)
   exact zN (hD5 (u2_1,u2_2,u11_1)) kr ((.of rfl):SubM _ _) .rfl .rfl ((.of [0,1,2,3,4] rfl):SelR _ _ _)
 refine zia (X:=Nat) (k':=8) (L':=(lb 14 2155)) (fun u11_1=>([(7,ye (some ⟨u11_1,0,none⟩)),(16,.agg (cw [e5,e6]).toArray),(13,.agg (cw [u1,v1]).toArray),(11,yc yd fo),(6,ye (some ⟨b2,0,none⟩)),(0,yc yd ce)],[boxA u11_1 44 (cw [wz,wz])],[boxA b2 44 (cw [wz,wz]),boxA b1 44 (cw [u1,v1])],[qF true u1 v1 q1,atF bc 0 [yc yd fo,yc yd fx,yc yd fy],atF bd 0 [e1.b,e1.l,e2.b,e2.l,e3.b,e3.l,e4.b,e4.l,e5.b,e5.l,e6.b,e6.l],qF true e5 e6 qz])) ?_ (fun hD7=> ?_)
 ·
  rintro u11_1
  dsimp only [cw,cS]
  refine zRa 2 kr ?_
  ·
   refine zm rfl rfl rfl rfl (.c rfl .n) ce71 (zy (z:=fo) (hz:=yn)) (.n) ?_
   rintro ⟨u2_1,u2_2⟩ -
   dsimp only [aq,nq,cq]
   exact zN (hD5 (u2_1,u2_2,u11_1)) kr ((.of rfl):SubM _ _) .rfl .rfl ((.of [0,1,2,3,4] rfl):SelR _ _ _)
 refine zqb 2 11 kr ?_ ?_
 ·
  refine zm rfl rfl rfl rfl (.c rfl .n) ce71 (zy (z:=fo) (hz:=yn)) (.n) ?_
  rintro ⟨u2_1,u2_2⟩ -
  dsimp only [aq,nq,cq]
  exact zN (hD6 (u2_1,u2_2)) kr ((.of rfl):SubM _ _) .rfl .rfl ((.of [0,1,2,3,4] rfl):SelR _ _ _)
 ·
  refine zya rfl rfl rfl rfl (zp zr44 rfl) (fun u11_1 _=> ?_)
  exact zN (hD7 u11_1) kr ((.of rfl):SubM _ _) .rfl .rfl ((.of [0,1,2,3] rfl):SelR _ _ _)
theorem zWe {s:Sh.S} {cm:Sh.C} {r:Int} {k1:Bool} {u1:Wd} {v1:Wd} {ax:Rat} {k2:Bool} {u2:Wd} {v2:Wd} {ay:Rat} {h:Int} (hok:Sh.Ok s) (hlt:s.ta<s.tb) (hc:Sh.cam cm) (hr:0≤r∧r<64) (hqx:Big.hq ax≤400) (hqy:Big.hq ay≤400) (hh:Sh.inb h):Con Tryz.prog 48 [.agg #[yc yd (s.fi),yc yd (s.st),yc yd (s.ta),yc yd (s.xa),yc yd (s.ya),yc yd (s.za),yc yd (s.qa),yc yd (s.qb),yc yd (s.qc),yc yd (s.qd),yc yd (s.tb),yc yd (s.xb),yc yd (s.yb),yc yd (s.zb),yc yd (s.ra),yc yd (s.rb),yc yd (s.rc),yc yd (s.rd)],.agg #[yc yd (cm.fo),yc yd (cm.cx),yc yd (cm.cy)],yc yd r,.agg #[u1.b,u1.l,v1.b,v1.l,u2.b,u2.l,v2.b,v2.l],yc yd h] [] [sgF,qF k1 u1 v1 ax,qF k2 u2 v2 ay] (Y:=Wd×Wd×Wd×Wd) (fun y=>Sh.ic s r ax ay h≠0→y.1=wz∧y.2.1=wz∧y.2.2.1=wz∧y.2.2.2=wz) (fun y=> .tuple #[.agg #[y.1.b,y.1.l,y.2.1.b,y.2.1.l,y.2.2.1.b,y.2.2.1.l,y.2.2.2.b,y.2.2.2.l],yc yd (Sh.ic s r ax ay h)]) (fun y=>[]) (fun y=>[qF (decide (Sh.ic s r ax ay h=0)) y.1 y.2.1 (Sh.ix s cm r ax ay h),qF (decide (Sh.ic s r ax ay h=0)) y.2.2.1 y.2.2.2 (Sh.iy s cm r ax ay h)]):=by
 refine zx Tryz.func48 rfl rfl rfl (fun c=> ?_)
 show RunC _ _ _ _ _ [(0,.agg #[yc yd (s.fi),yc yd (s.st),yc yd (s.ta),yc yd (s.xa),yc yd (s.ya),yc yd (s.za),yc yd (s.qa),yc yd (s.qb),yc yd (s.qc),yc yd (s.qd),yc yd (s.tb),yc yd (s.xb),yc yd (s.yb),yc yd (s.zb),yc yd (s.ra),yc yd (s.rb),yc yd (s.rc),yc yd (s.rd)]),(1,.agg #[yc yd (cm.fo),yc yd (cm.cx),yc yd (cm.cy)]),(2,yc yd r),(3,.agg #[u1.b,u1.l,v1.b,v1.l,u2.b,u2.l,v2.b,v2.l]),(4,yc yd h)] [] [sgF,qF k1 u1 v1 ax,qF k2 u2 v2 ay]
 have hr2:0≤r∧r≤64:=⟨hr.1,Int.le_of_lt hr.2⟩
 have hcu:=hc
 unfold Sh.cam at hcu
 have hh2:=hh
 unfold Sh.inb at hh2
 have hpq:=Sh.pos_hq hok hr2
 obtain ⟨hp1,hp2,hp3⟩:=hpq
 have hsm:=Sh.rot_b hok hr2
 obtain ⟨hi1,hi2,hi3⟩:=Sh.id_hq hok hr hqx hqy hh
 refine zj<|zc<|zJ rfl rfl (zda rfl rfl) (fun b1=> ?_)
 refine zJ rfl rfl (zda rfl rfl) (fun b2=> ?_)
 refine zJ rfl rfl (zda rfl rfl) (fun b3=> ?_)
 refine zJ rfl rfl (zp zr46 rfl) (fun b4=> ?_)
 refine e_p (zh rfl)<|zk<|zf<|zj<|zc<|e_ru (zd 3 ty29 rfl rfl (.t8 (.t8 (.t2 .nil))))<|e_mv rfl<|zV rfl rfl (.c rfl (.c rfl .n)) ce43 (zRb (s:=s) (r:=r) (hok:=ass) (hr:=yn)) (.n)<|zJ rfl rfl (zp zr25 rfl) (fun b5=> ?_)
 refine zl 0 rfl rfl rfl rfl rfl sz25 rfl (.t4 .nil) .z<|zk<|zf<|zj<|zj<|zc<|e_ru (zd 0 ty25 rfl rfl (.t4 .nil))<|e_p (zv zr25 rfl yA (.c sz3 (.c sz3 (.c sz3 (.c sz3 .n)))) .n .n)<|e_p (zBb (p:=(yf s r).1=0∧(yf s r).2.1=0∧(yf s r).2.2.1=0∧(yf s r).2.2.2=0) kr rfl rfl (zAb yA kr (zQa dd ty3 rfl rfl (zPa yv) (zQa dd ty3 rfl rfl (zPa yv) (zQa dd ty3 rfl rfl (zPa yv) (zQa dd ty3 rfl rfl (zPa yv) zOc))))) (by simp [Bool.decide_and]))<|zk<|zf<|zT rfl (fun hz4=> ?_) (fun hz4=> ?_)
 ·
  refine zj<|zc<|e_p (zv zr46 rfl yt (.c sz44 (.c sz44 .n)) .n .n)<|zl 1 rfl rfl rfl rfl rfl sz46 rfl (.t8 .nil) (.s .z)<|e_p (zh rfl)<|zk<|zf<|zR<|zq<|zbb (qF false wz wz 0) (fun g _=>qF_none g) ?_
  have hg9:Sh.ic s r ax ay h=13:=if_pos hz4
  have hg8:¬Sh.ic s r ax ay h=0:=by rw [hg9];decide
  have hx9:Sh.ix s cm r ax ay h=0:=if_neg hg8
  have hy9:Sh.iy s cm r ax ay h=0:=if_neg hg8
  exact zDa Tryz.results48 (wz,wz,wz,wz) (fun _=>⟨rfl,rfl,rfl,rfl⟩) (zr 1 ty46 rfl rfl (.t8 .nil)) (zD rfl) (by rw [hg9];rfl) (ho:=(.n:PickO _ _ _)) ((.e (j:=0) rfl (by rw [hx9,decide_eq_false hg8]) (.e (j:=0) rfl (by rw [hy9,decide_eq_false hg8]) .n)):SelR _ _ _)
 ·
  refine zB<|zf<|zj<|zc<|e_ru (zd 4 ty29 rfl rfl (.t8 (.t8 (.t2 .nil))))<|e_mv rfl<|zG rfl rfl (.c rfl (.c rfl .n)) ce61 (zCc (s:=s) (r:=r) (hok:=ass) (hr:=yn) (hlt:=ass)) (.n) ?_
  rintro ⟨w16,w27,w38,w49,w510,w611⟩ -
  dsimp only [aq,nq,cq]
  refine zJ rfl rfl (zp zr106 rfl) (fun b12=> ?_)
  refine zl 0 rfl rfl rfl rfl rfl sz106 rfl (.t8 (.t4 .nil)) .z<|zk<|zf<|zj<|zO (OW:=[]) (O:=[boxA b12 106 (cw [w16,w27,w38,w49,w510,w611]),boxA b5 25 [yc yd ((yf s r).1),yc yd ((yf s r).2.1),yc yd ((yf s r).2.2.1),yc yd ((yf s r).2.2.2)],boxA b4 46 (cw [wz,wz,wz,wz]),boxA b3 46 (cw [u1,v1,u2,v2]),boxA b2 37 [yc yd (cm.fo),yc yd (cm.cx),yc yd (cm.cy)],boxA b1 29 (cS s)]) 20 mixed (.then .ret) kr<|e_u 0 rfl rfl (zd 1 ty25 rfl rfl (.t4 .nil))<|e_pv 2 rfl rfl (zg yt rfl sz44 rfl rfl)<|e_u 3 rfl rfl (zd 3 ty44 rfl rfl (.t4 .nil))<|e_pv 4 rfl rfl (zi (i:=0) yh sz44 rfl rfl dd rfl)<|e_u 5 rfl rfl (zd 0 ty44 rfl rfl (.t4 .nil))<|e_pv 7 rfl rfl (zg yt rfl sz44 rfl rfl)<|e_u 8 rfl rfl (zd 3 ty44 rfl rfl (.s4 (.t4 .nil)))<|e_pv 9 rfl rfl (zi (i:=1) yh sz44 rfl rfl dd rfl)<|e_u 10 rfl rfl (zd 0 ty44 rfl rfl (.s4 (.t4 .nil)))<|e_dm 12 rfl rfl rfl<|e_pv 14 rfl rfl (zi (i:=2) yh sz44 rfl rfl dd rfl)<|e_u 15 rfl rfl (zd 0 ty44 rfl rfl (.s8 (.t4 .nil)))<|zAc (m':=[(41,.agg (cw [w510,w611]).toArray),(38,yc yd h),(36,.agg (cw [w38,w49]).toArray),(34,.agg (cw [u2,v2]).toArray),(31,.agg (cw [w16,w27]).toArray),(29,.agg (cw [u1,v1]).toArray),(26,.agg #[yc yd ((yf s r).1),yc yd ((yf s r).2.1),yc yd ((yf s r).2.2.1),yc yd ((yf s r).2.2.2)]),(10,ye (some ⟨b4,0,none⟩)),(6,ye (some ⟨b2,0,none⟩))]) (R':=[qF true w16 w27 ((ym s r).1),qF true w38 w49 ((ym s r).2.1),qF true w510 w611 ((ym s r).2.2),sgF,qF k1 u1 v1 ax,qF k2 u2 v2 ay]) ((.of rfl):SubM _ _) (List.Perm.refl _) (List.Perm.refl _) ((.of [0,1,2,3,4,5] rfl):SelR _ _ _)<|zia (X:=Wd×Wd×Wd×Wd×Wd×Wd×Nat) (k':=0) (L':=(lb 21 2097151)) (fun (u18_1,u18_2,u18_3,u18_4,u18_5,u18_6,u19_1)=>([(14,ye (some ⟨u19_1,0,none⟩)),(10,ye (some ⟨b4,0,none⟩)),(6,ye (some ⟨b2,0,none⟩))],[boxA u19_1 106 (cw [u18_1,u18_2,u18_3,u18_4,u18_5,u18_6])],[boxA b12 106 (cw [w16,w27,w38,w49,w510,w611]),boxA b5 25 [yc yd ((yf s r).1),yc yd ((yf s r).2.1),yc yd ((yf s r).2.2.1),yc yd ((yf s r).2.2.2)],boxA b4 46 (cw [wz,wz,wz,wz]),boxA b3 46 (cw [u1,v1,u2,v2]),boxA b2 37 [yc yd (cm.fo),yc yd (cm.cx),yc yd (cm.cy)],boxA b1 29 (cS s)],[qF true u18_1 u18_2 ((yu (yp true (yi (yf s r))) (Sh.iv s r ax ay h)).1),qF true u18_3 u18_4 ((yu (yp true (yi (yf s r))) (Sh.iv s r ax ay h)).2.1),qF true u18_5 u18_6 ((yu (yp true (yi (yf s r))) (Sh.iv s r ax ay h)).2.2),qF true w16 w27 ((ym s r).1),qF true w38 w49 ((ym s r).2.1),qF true w510 w611 ((ym s r).2.2),sgF,qF k1 u1 v1 ax,qF k2 u2 v2 ay])) ?_ (fun hD0=> ?_)
  ·
   rintro ⟨u18_1,u18_2,u18_3,u18_4,u18_5,u18_6,u19_1⟩
   dsimp only [cw,cS]
   refine zM kr<|zf<|zj<|zj ?_
   have e13:yu (yp true (yi (yf s r))) (Sh.iv s r ax ay h)=Sh.id s r ax ay h:=by rfl
   rw [e13]
   refine zc<|e_p (zi (i:=2) yh sz44 rfl rfl dd rfl)<|e_ru (zd 0 ty44 rfl rfl (.s8 (.t4 .nil)))<|zV rfl rfl (.c rfl .n) ce79 (zNd (k1:=true) (u1:=u18_5) (v1:=u18_6) (q1:=(Sh.id s r ax ay h).2.2)) (.c (j:=2) rfl .n)<|e_p (zIc rfl rfl)<|zk<|zf<|zT rfl (fun hs=> ?_) (fun hs=> ?_)
   ·
    have hs0:=Big.sgq_le.1 hs
    refine zj<|zc<|e_p (zv zr46 rfl yt (.c sz44 (.c sz44 .n)) .n .n)<|zl 3 rfl rfl rfl rfl rfl sz46 rfl (.t8 .nil) (.s (.s (.s .z)))<|e_p (zh rfl)<|zk<|zf<|zR<|zq<|zbb (qF false wz wz 0) (fun g _=>qF_none g) ?_
    have hg9:Sh.ic s r ax ay h=20:=by unfold Sh.ic;rw [if_neg hz4,if_pos hs0]
    have hg8:¬Sh.ic s r ax ay h=0:=by rw [hg9];decide
    have hx9:Sh.ix s cm r ax ay h=0:=if_neg hg8
    have hy9:Sh.iy s cm r ax ay h=0:=if_neg hg8
    exact zDa Tryz.results48 (wz,wz,wz,wz) (fun _=>⟨rfl,rfl,rfl,rfl⟩) (zr 3 ty46 rfl rfl (.t8 .nil)) (zD rfl) (by rw [hg9];rfl) (ho:=(.n:PickO _ _ _)) ((.e (j:=0) rfl (by rw [hx9,decide_eq_false hg8]) (.e (j:=0) rfl (by rw [hy9,decide_eq_false hg8]) .n)):SelR _ _ _)
   ·
    have hs0:¬(Sh.id s r ax ay h).2.2≤0:=fun k=>hs (Big.sgq_le.2 k)
    have hg9:Sh.ic s r ax ay h=0:=by unfold Sh.ic;rw [if_neg hz4,if_neg hs0]
    have hne9:(Sh.id s r ax ay h).2.2≠0:=fun k=>hs0 (by rw [k];exact Rat.le_refl)
    refine zB<|zf<|zj<|zNc 5 rfl (.s (.s (.s (.s (.s .z)))))<|zNc 0 rfl .z<|zc<|e_p (zcc .n (.c rfl (.c rfl .n)))<|e_p (zh rfl)<|zk<|zf<|zj<|zba (.c (i:=3) rfl .n)<|zO (OW:=[boxA b4 46 (cw [wz,wz,wz,wz])]) (O:=[]) 15 mixed (.then .ret) kr<|e_dm 0 rfl rfl rfl<|e_pv 1 rfl rfl (zg yz rfl sz35 rfl rfl)<|e_pv 2 rfl rfl (zg yx rfl sz3 rfl rfl)<|e_u 3 rfl rfl (zA (j:=1) 1 ty3 rfl rfl rfl rfl)<|e_pv 4 rfl rfl (zi (i:=0) yh sz44 rfl rfl dd rfl)<|e_u 5 rfl rfl (zX (j:=0) 0 ty44 rfl rfl rfl (.t4 .nil))<|e_dm 7 rfl rfl rfl<|e_pv 8 rfl rfl (zg yz rfl sz35 rfl rfl)<|e_pv 9 rfl rfl (zg yx rfl sz3 rfl rfl)<|e_u 10 rfl rfl (zA (j:=2) 1 ty3 rfl rfl rfl rfl)<|e_pv 11 rfl rfl (zi (i:=1) yh sz44 rfl rfl dd rfl)<|e_u 12 rfl rfl (zX (j:=4) 0 ty44 rfl rfl rfl (.s4 (.t4 .nil)))<|e_one 6 (zdd (first:=[]) (cap:=[ye (some ⟨b2,0,none⟩),ye (some ⟨u19_1,0,none⟩)]) rfl rfl rfl rfl rfl (.c rfl (.c rfl .n)) ce82 (zid (ce:=cm.cx) (u1:=u18_1) (v1:=u18_2) (q1:=(Sh.id s r ax ay h).1) (bc:=b2) (bd:=u19_1) (fo:=cm.fo) (fx:=cm.cx) (fy:=cm.cy) (e1:=u18_1) (e2:=u18_2) (e3:=u18_3) (e4:=u18_4) (e5:=u18_5) (e6:=u18_6) (qz:=(Sh.id s r ax ay h).2.2) (hce:=yn) (hfo:=yn) (hq1:=yn) (hqz:=yn) (hne:=yn)) (.c (j:=2) rfl (.c (j:=1) rfl (.c (j:=0) rfl (.c (j:=4) rfl .n)))) ?_)
    rintro ⟨w314,w415⟩ -
    dsimp only [aq,nq,cq]
    refine e_one 13 (zdd (first:=[]) (cap:=[ye (some ⟨b2,0,none⟩),ye (some ⟨u19_1,0,none⟩)]) rfl rfl rfl rfl rfl (.c rfl (.c rfl .n)) ce82 (zid (ce:=cm.cy) (u1:=u18_3) (v1:=u18_4) (q1:=(Sh.id s r ax ay h).2.1) (bc:=b2) (bd:=u19_1) (fo:=cm.fo) (fx:=cm.cx) (fy:=cm.cy) (e1:=u18_1) (e2:=u18_2) (e3:=u18_3) (e4:=u18_4) (e5:=u18_5) (e6:=u18_6) (qz:=(Sh.id s r ax ay h).2.2) (hce:=yn) (hfo:=yn) (hq1:=yn) (hqz:=yn) (hne:=yn)) (.c (j:=4) rfl (.c (j:=2) rfl (.c (j:=1) rfl (.c (j:=5) rfl .n)))) ?_)
    rintro ⟨w316,w417⟩ -
    dsimp only [aq,nq,cq]
    refine e_pv 14 rfl rfl (zv zr46 rfl yt (.c sz44 (.c sz44 .n)) (.c rfl (.c rfl .n)) (.c rfl rfl rfl (.t4 .nil) (.c rfl rfl rfl (.s4 (.t4 .nil)) .n)))<|e_one 15 (zo kr rfl rfl rfl rfl rfl sz46 rfl (.t8 .nil) ?_)
    refine e_pv 16 rfl rfl (zh rfl)<|zM kr<|zf<|zR ?_
    have hx9:Sh.ix s cm r ax ay h=_:=if_pos hg9
    have hy9:Sh.iy s cm r ax ay h=_:=if_pos hg9
    exact zDa Tryz.results48 (w314,w415,w316,w417) (fun k=>absurd hg9 k) (zr 0 ty46 rfl rfl (.t8 .nil)) (zD rfl) (by rw [hg9]) (ho:=(.n:PickO _ _ _)) ((.e (j:=1) rfl (by rw [hx9,decide_eq_true hg9]) (.e (j:=0) rfl (by rw [hy9,decide_eq_true hg9]) .n)):SelR _ _ _)
  refine zia (X:=Wd×Wd×Wd×Wd×Wd×Wd×Nat) (k':=1) (L':=(lb 21 1048575)) (fun (u18_1,u18_2,u18_3,u18_4,u18_5,u18_6,u19_1)=>([(14,ye (some ⟨u19_1,0,none⟩)),(44,.agg (cw [u18_1,u18_2,u18_3,u18_4,u18_5,u18_6]).toArray),(10,ye (some ⟨b4,0,none⟩)),(6,ye (some ⟨b2,0,none⟩))],[boxA u19_1 106 (cw [wz,wz,wz,wz,wz,wz])],[boxA b12 106 (cw [w16,w27,w38,w49,w510,w611]),boxA b5 25 [yc yd ((yf s r).1),yc yd ((yf s r).2.1),yc yd ((yf s r).2.2.1),yc yd ((yf s r).2.2.2)],boxA b4 46 (cw [wz,wz,wz,wz]),boxA b3 46 (cw [u1,v1,u2,v2]),boxA b2 37 [yc yd (cm.fo),yc yd (cm.cx),yc yd (cm.cy)],boxA b1 29 (cS s)],[qF true u18_1 u18_2 ((yu (yp true (yi (yf s r))) (Sh.iv s r ax ay h)).1),qF true u18_3 u18_4 ((yu (yp true (yi (yf s r))) (Sh.iv s r ax ay h)).2.1),qF true u18_5 u18_6 ((yu (yp true (yi (yf s r))) (Sh.iv s r ax ay h)).2.2),qF true w16 w27 ((ym s r).1),qF true w38 w49 ((ym s r).2.1),qF true w510 w611 ((ym s r).2.2),sgF,qF k1 u1 v1 ax,qF k2 u2 v2 ay])) ?_ (fun hD1=> ?_)
  ·
   rintro ⟨u18_1,u18_2,u18_3,u18_4,u18_5,u18_6,u19_1⟩
   dsimp only [cw,cS]
   refine zRa 20 kr ?_
   ·
    refine zo kr rfl rfl rfl rfl rfl sz106 rfl (.t8 (.t4 .nil)) ?_
    exact zN (hD0 (u18_1,u18_2,u18_3,u18_4,u18_5,u18_6,u19_1)) kr ((.of rfl):SubM _ _) .rfl .rfl ((.of [0,1,2,3,4,5,6,7,8] rfl):SelR _ _ _)
  refine zia (X:=Wd×Wd×Wd×Wd×Wd×Wd) (k':=2) (L':=(lb 21 524287)) (fun (u18_1,u18_2,u18_3,u18_4,u18_5,u18_6)=>([(44,.agg (cw [u18_1,u18_2,u18_3,u18_4,u18_5,u18_6]).toArray),(10,ye (some ⟨b4,0,none⟩)),(6,ye (some ⟨b2,0,none⟩))],[],[boxA b12 106 (cw [w16,w27,w38,w49,w510,w611]),boxA b5 25 [yc yd ((yf s r).1),yc yd ((yf s r).2.1),yc yd ((yf s r).2.2.1),yc yd ((yf s r).2.2.2)],boxA b4 46 (cw [wz,wz,wz,wz]),boxA b3 46 (cw [u1,v1,u2,v2]),boxA b2 37 [yc yd (cm.fo),yc yd (cm.cx),yc yd (cm.cy)],boxA b1 29 (cS s)],[qF true u18_1 u18_2 ((yu (yp true (yi (yf s r))) (Sh.iv s r ax ay h)).1),qF true u18_3 u18_4 ((yu (yp true (yi (yf s r))) (Sh.iv s r ax ay h)).2.1),qF true u18_5 u18_6 ((yu (yp true (yi (yf s r))) (Sh.iv s r ax ay h)).2.2),qF true w16 w27 ((ym s r).1),qF true w38 w49 ((ym s r).2.1),qF true w510 w611 ((ym s r).2.2),sgF,qF k1 u1 v1 ax,qF k2 u2 v2 ay])) ?_ (fun hD2=> ?_)
  ·
   rintro ⟨u18_1,u18_2,u18_3,u18_4,u18_5,u18_6⟩
   dsimp only [cw,cS]
   refine zRa 19 kr ?_
   ·
    refine zya rfl rfl rfl rfl (zp zr106 rfl) (fun u19_1 _=> ?_)
    exact zN (hD1 (u18_1,u18_2,u18_3,u18_4,u18_5,u18_6,u19_1)) kr ((.of rfl):SubM _ _) .rfl .rfl ((.of [0,1,2,3,4,5,6,7,8] rfl):SelR _ _ _)
  refine zia (X:=Wd×Wd×Wd×Wd×Wd×Wd×Wd×Wd×Wd×Wd×Wd×Wd×Wd×Wd×Wd×Wd×Wd×Wd×Wd×Wd×Wd×Wd×Wd×Wd×Nat) (k':=2) (L':=(lb 21 786431)) (fun (u1_1,u1_2,u1_3,u1_4,u1_5,u1_6,u1_7,u1_8,u1_9,u1_10,u1_11,u1_12,u1_13,u1_14,u1_15,u1_16,u1_17,u1_18,u6_1,u6_2,u11_1,u11_2,u16_1,u16_2,u19_1)=>([(14,ye (some ⟨u19_1,0,none⟩)),(43,.agg (cw [u6_1,u6_2,u11_1,u11_2,u16_1,u16_2]).toArray),(27,.agg (cw [u1_1,u1_2,u1_3,u1_4,u1_5,u1_6,u1_7,u1_8,u1_9,u1_10,u1_11,u1_12,u1_13,u1_14,u1_15,u1_16,u1_17,u1_18]).toArray),(10,ye (some ⟨b4,0,none⟩)),(6,ye (some ⟨b2,0,none⟩))],[boxA u19_1 106 (cw [wz,wz,wz,wz,wz,wz])],[boxA b12 106 (cw [w16,w27,w38,w49,w510,w611]),boxA b5 25 [yc yd ((yf s r).1),yc yd ((yf s r).2.1),yc yd ((yf s r).2.2.1),yc yd ((yf s r).2.2.2)],boxA b4 46 (cw [wz,wz,wz,wz]),boxA b3 46 (cw [u1,v1,u2,v2]),boxA b2 37 [yc yd (cm.fo),yc yd (cm.cx),yc yd (cm.cy)],boxA b1 29 (cS s)],[qF true u16_1 u16_2 (((h:Int):Rat) - ((ym s r).2.2)),qF true u11_1 u11_2 (ay - ((ym s r).2.1)),qF true u6_1 u6_2 (ax - ((ym s r).1)),qF true u1_1 u1_2 ((yi (yf s r)).1.1),qF true u1_3 u1_4 ((yi (yf s r)).1.2.1),qF true u1_5 u1_6 ((yi (yf s r)).1.2.2),qF true u1_7 u1_8 ((yi (yf s r)).2.1.1),qF true u1_9 u1_10 ((yi (yf s r)).2.1.2.1),qF true u1_11 u1_12 ((yi (yf s r)).2.1.2.2),qF true u1_13 u1_14 ((yi (yf s r)).2.2.1),qF true u1_15 u1_16 ((yi (yf s r)).2.2.2.1),qF true u1_17 u1_18 ((yi (yf s r)).2.2.2.2),qF true w16 w27 ((ym s r).1),qF true w38 w49 ((ym s r).2.1),qF true w510 w611 ((ym s r).2.2),sgF,qF k1 u1 v1 ax,qF k2 u2 v2 ay])) ?_ (fun hD3=> ?_)
  ·
   rintro ⟨u1_1,u1_2,u1_3,u1_4,u1_5,u1_6,u1_7,u1_8,u1_9,u1_10,u1_11,u1_12,u1_13,u1_14,u1_15,u1_16,u1_17,u1_18,u6_1,u6_2,u11_1,u11_2,u16_1,u16_2,u19_1⟩
   dsimp only [cw,cS]
   refine zRa 18 kr ?_
   ·
    refine zm rfl rfl rfl rfl (.c rfl (.c rfl (.c rfl .n))) ce75 (zWb (u1:=u1_1) (u2:=u1_2) (u3:=u1_3) (u4:=u1_4) (u5:=u1_5) (u6:=u1_6) (u7:=u1_7) (u8:=u1_8) (u9:=u1_9) (u10:=u1_10) (u11:=u1_11) (u12:=u1_12) (u13:=u1_13) (u14:=u1_14) (u15:=u1_15) (u16:=u1_16) (u17:=u1_17) (u18:=u1_18) (mm:=(yi (yf s r))) (x1:=u6_1) (x2:=u6_2) (x3:=u11_1) (x4:=u11_2) (x5:=u16_1) (x6:=u16_2) (vv:=(Sh.iv s r ax ay h)) (tp:=true) (k:=414) (hm:=by exact Sh.mat_hq hsm) (hv:=by exact Sh.iv_hq hok hr hqx hqy hh) (hk:=yn)) (.c (j:=3) rfl (.c (j:=4) rfl (.c (j:=5) rfl (.c (j:=6) rfl (.c (j:=7) rfl (.c (j:=8) rfl (.c (j:=9) rfl (.c (j:=10) rfl (.c (j:=11) rfl (.c (j:=2) rfl (.c (j:=1) rfl (.c (j:=0) rfl .n)))))))))))) ?_
    rintro ⟨u18_1,u18_2,u18_3,u18_4,u18_5,u18_6⟩ -
    dsimp only [aq,nq,cq]
    exact zN (hD1 (u18_1,u18_2,u18_3,u18_4,u18_5,u18_6,u19_1)) kr ((.of rfl):SubM _ _) .rfl .rfl ((.of [0,1,2,15,16,17,18,19,20] rfl):SelR _ _ _)
  refine zia (X:=Wd×Wd×Wd×Wd×Wd×Wd×Wd×Wd×Wd×Wd×Wd×Wd×Wd×Wd×Wd×Wd×Wd×Wd×Wd×Wd×Wd×Wd×Wd×Wd) (k':=3) (L':=(lb 21 262143)) (fun (u1_1,u1_2,u1_3,u1_4,u1_5,u1_6,u1_7,u1_8,u1_9,u1_10,u1_11,u1_12,u1_13,u1_14,u1_15,u1_16,u1_17,u1_18,u6_1,u6_2,u11_1,u11_2,u16_1,u16_2)=>([(43,.agg (cw [u6_1,u6_2,u11_1,u11_2,u16_1,u16_2]).toArray),(27,.agg (cw [u1_1,u1_2,u1_3,u1_4,u1_5,u1_6,u1_7,u1_8,u1_9,u1_10,u1_11,u1_12,u1_13,u1_14,u1_15,u1_16,u1_17,u1_18]).toArray),(10,ye (some ⟨b4,0,none⟩)),(6,ye (some ⟨b2,0,none⟩))],[],[boxA b12 106 (cw [w16,w27,w38,w49,w510,w611]),boxA b5 25 [yc yd ((yf s r).1),yc yd ((yf s r).2.1),yc yd ((yf s r).2.2.1),yc yd ((yf s r).2.2.2)],boxA b4 46 (cw [wz,wz,wz,wz]),boxA b3 46 (cw [u1,v1,u2,v2]),boxA b2 37 [yc yd (cm.fo),yc yd (cm.cx),yc yd (cm.cy)],boxA b1 29 (cS s)],[qF true u16_1 u16_2 (((h:Int):Rat) - ((ym s r).2.2)),qF true u11_1 u11_2 (ay - ((ym s r).2.1)),qF true u6_1 u6_2 (ax - ((ym s r).1)),qF true u1_1 u1_2 ((yi (yf s r)).1.1),qF true u1_3 u1_4 ((yi (yf s r)).1.2.1),qF true u1_5 u1_6 ((yi (yf s r)).1.2.2),qF true u1_7 u1_8 ((yi (yf s r)).2.1.1),qF true u1_9 u1_10 ((yi (yf s r)).2.1.2.1),qF true u1_11 u1_12 ((yi (yf s r)).2.1.2.2),qF true u1_13 u1_14 ((yi (yf s r)).2.2.1),qF true u1_15 u1_16 ((yi (yf s r)).2.2.2.1),qF true u1_17 u1_18 ((yi (yf s r)).2.2.2.2),qF true w16 w27 ((ym s r).1),qF true w38 w49 ((ym s r).2.1),qF true w510 w611 ((ym s r).2.2),sgF,qF k1 u1 v1 ax,qF k2 u2 v2 ay])) ?_ (fun hD4=> ?_)
  ·
   rintro ⟨u1_1,u1_2,u1_3,u1_4,u1_5,u1_6,u1_7,u1_8,u1_9,u1_10,u1_11,u1_12,u1_13,u1_14,u1_15,u1_16,u1_17,u1_18,u6_1,u6_2,u11_1,u11_2,u16_1,u16_2⟩
   dsimp only [cw,cS]
   refine zqb 18 19 kr ?_ ?_
   ·
    refine zm rfl rfl rfl rfl (.c rfl (.c rfl (.c rfl .n))) ce75 (zWb (u1:=u1_1) (u2:=u1_2) (u3:=u1_3) (u4:=u1_4) (u5:=u1_5) (u6:=u1_6) (u7:=u1_7) (u8:=u1_8) (u9:=u1_9) (u10:=u1_10) (u11:=u1_11) (u12:=u1_12) (u13:=u1_13) (u14:=u1_14) (u15:=u1_15) (u16:=u1_16) (u17:=u1_17) (u18:=u1_18) (mm:=(yi (yf s r))) (x1:=u6_1) (x2:=u6_2) (x3:=u11_1) (x4:=u11_2) (x5:=u16_1) (x6:=u16_2) (vv:=(Sh.iv s r ax ay h)) (tp:=true) (k:=414) (hm:=by exact Sh.mat_hq hsm) (hv:=by exact Sh.iv_hq hok hr hqx hqy hh) (hk:=yn)) (.c (j:=3) rfl (.c (j:=4) rfl (.c (j:=5) rfl (.c (j:=6) rfl (.c (j:=7) rfl (.c (j:=8) rfl (.c (j:=9) rfl (.c (j:=10) rfl (.c (j:=11) rfl (.c (j:=2) rfl (.c (j:=1) rfl (.c (j:=0) rfl .n)))))))))))) ?_
    rintro ⟨u18_1,u18_2,u18_3,u18_4,u18_5,u18_6⟩ -
    dsimp only [aq,nq,cq]
    exact zN (hD2 (u18_1,u18_2,u18_3,u18_4,u18_5,u18_6)) kr ((.of rfl):SubM _ _) .rfl .rfl ((.of [0,1,2,15,16,17,18,19,20] rfl):SelR _ _ _)
   ·
    refine zya rfl rfl rfl rfl (zp zr106 rfl) (fun u19_1 _=> ?_)
    exact zN (hD3 (u1_1,u1_2,u1_3,u1_4,u1_5,u1_6,u1_7,u1_8,u1_9,u1_10,u1_11,u1_12,u1_13,u1_14,u1_15,u1_16,u1_17,u1_18,u6_1,u6_2,u11_1,u11_2,u16_1,u16_2,u19_1)) kr ((.of rfl):SubM _ _) .rfl .rfl ((.of [0,1,2,3,4,5,6,7,8,9,10,11,12,13,14,15,16,17] rfl):SelR _ _ _)
  refine zia (X:=Wd×Wd×Wd×Wd×Wd×Wd×Wd×Wd×Wd×Wd×Wd×Wd×Wd×Wd×Wd×Wd×Wd×Wd×Wd×Wd×Wd×Wd×Wd×Wd×Nat) (k':=4) (L':=(lb 21 589823)) (fun (u1_1,u1_2,u1_3,u1_4,u1_5,u1_6,u1_7,u1_8,u1_9,u1_10,u1_11,u1_12,u1_13,u1_14,u1_15,u1_16,u1_17,u1_18,u6_1,u6_2,u11_1,u11_2,u13_1,u13_2,u19_1)=>([(14,ye (some ⟨u19_1,0,none⟩)),(39,.agg (cw [u13_1,u13_2]).toArray),(37,.agg (cw [u11_1,u11_2]).toArray),(32,.agg (cw [u6_1,u6_2]).toArray),(27,.agg (cw [u1_1,u1_2,u1_3,u1_4,u1_5,u1_6,u1_7,u1_8,u1_9,u1_10,u1_11,u1_12,u1_13,u1_14,u1_15,u1_16,u1_17,u1_18]).toArray),(41,.agg (cw [w510,w611]).toArray),(10,ye (some ⟨b4,0,none⟩)),(6,ye (some ⟨b2,0,none⟩))],[boxA u19_1 106 (cw [wz,wz,wz,wz,wz,wz])],[boxA b12 106 (cw [w16,w27,w38,w49,w510,w611]),boxA b5 25 [yc yd ((yf s r).1),yc yd ((yf s r).2.1),yc yd ((yf s r).2.2.1),yc yd ((yf s r).2.2.2)],boxA b4 46 (cw [wz,wz,wz,wz]),boxA b3 46 (cw [u1,v1,u2,v2]),boxA b2 37 [yc yd (cm.fo),yc yd (cm.cx),yc yd (cm.cy)],boxA b1 29 (cS s)],[qF true u13_1 u13_2 ((h:Int):Rat),qF true u11_1 u11_2 (ay - ((ym s r).2.1)),qF true u6_1 u6_2 (ax - ((ym s r).1)),qF true u1_1 u1_2 ((yi (yf s r)).1.1),qF true u1_3 u1_4 ((yi (yf s r)).1.2.1),qF true u1_5 u1_6 ((yi (yf s r)).1.2.2),qF true u1_7 u1_8 ((yi (yf s r)).2.1.1),qF true u1_9 u1_10 ((yi (yf s r)).2.1.2.1),qF true u1_11 u1_12 ((yi (yf s r)).2.1.2.2),qF true u1_13 u1_14 ((yi (yf s r)).2.2.1),qF true u1_15 u1_16 ((yi (yf s r)).2.2.2.1),qF true u1_17 u1_18 ((yi (yf s r)).2.2.2.2),qF true w16 w27 ((ym s r).1),qF true w38 w49 ((ym s r).2.1),qF true w510 w611 ((ym s r).2.2),sgF,qF k1 u1 v1 ax,qF k2 u2 v2 ay])) ?_ (fun hD5=> ?_)
  ·
   rintro ⟨u1_1,u1_2,u1_3,u1_4,u1_5,u1_6,u1_7,u1_8,u1_9,u1_10,u1_11,u1_12,u1_13,u1_14,u1_15,u1_16,u1_17,u1_18,u6_1,u6_2,u11_1,u11_2,u13_1,u13_2,u19_1⟩
   dsimp only [cw,cS]
   refine zRa 16 kr ?_
   ·
    refine zm rfl rfl rfl rfl (.c rfl (.c rfl .n)) ce78 (zxb (k1:=true) (u1:=u13_1) (v1:=u13_2) (q1:=((h:Int):Rat)) (k2:=true) (u2:=w510) (v2:=w611) (q2:=(ym s r).2.2) (hl:=yn)) (.c (j:=0) rfl (.c (j:=14) rfl .n)) ?_
    rintro ⟨u16_1,u16_2⟩ -
    dsimp only [aq,nq,cq]
    refine e_pv 17 rfl rfl (zTa zr106 rfl yh sz44 (.c rfl (.c rfl (.c rfl .n))) (.c rfl rfl rfl (.t4 .nil) (.c rfl rfl rfl (.s4 (.t4 .nil)) (.c rfl rfl rfl (.s8 (.t4 .nil)) .n)))) ?_
    exact zN (hD3 (u1_1,u1_2,u1_3,u1_4,u1_5,u1_6,u1_7,u1_8,u1_9,u1_10,u1_11,u1_12,u1_13,u1_14,u1_15,u1_16,u1_17,u1_18,u6_1,u6_2,u11_1,u11_2,u16_1,u16_2,u19_1)) kr ((.of rfl):SubM _ _) .rfl .rfl ((.of [0,2,3,4,5,6,7,8,9,10,11,12,13,14,15,16,17,18] rfl):SelR _ _ _)
  refine zia (X:=Wd×Wd×Wd×Wd×Wd×Wd×Wd×Wd×Wd×Wd×Wd×Wd×Wd×Wd×Wd×Wd×Wd×Wd×Wd×Wd×Wd×Wd×Wd×Wd) (k':=5) (L':=(lb 21 65535)) (fun (u1_1,u1_2,u1_3,u1_4,u1_5,u1_6,u1_7,u1_8,u1_9,u1_10,u1_11,u1_12,u1_13,u1_14,u1_15,u1_16,u1_17,u1_18,u6_1,u6_2,u11_1,u11_2,u13_1,u13_2)=>([(39,.agg (cw [u13_1,u13_2]).toArray),(37,.agg (cw [u11_1,u11_2]).toArray),(32,.agg (cw [u6_1,u6_2]).toArray),(27,.agg (cw [u1_1,u1_2,u1_3,u1_4,u1_5,u1_6,u1_7,u1_8,u1_9,u1_10,u1_11,u1_12,u1_13,u1_14,u1_15,u1_16,u1_17,u1_18]).toArray),(41,.agg (cw [w510,w611]).toArray),(10,ye (some ⟨b4,0,none⟩)),(6,ye (some ⟨b2,0,none⟩))],[],[boxA b12 106 (cw [w16,w27,w38,w49,w510,w611]),boxA b5 25 [yc yd ((yf s r).1),yc yd ((yf s r).2.1),yc yd ((yf s r).2.2.1),yc yd ((yf s r).2.2.2)],boxA b4 46 (cw [wz,wz,wz,wz]),boxA b3 46 (cw [u1,v1,u2,v2]),boxA b2 37 [yc yd (cm.fo),yc yd (cm.cx),yc yd (cm.cy)],boxA b1 29 (cS s)],[qF true u13_1 u13_2 ((h:Int):Rat),qF true u11_1 u11_2 (ay - ((ym s r).2.1)),qF true u6_1 u6_2 (ax - ((ym s r).1)),qF true u1_1 u1_2 ((yi (yf s r)).1.1),qF true u1_3 u1_4 ((yi (yf s r)).1.2.1),qF true u1_5 u1_6 ((yi (yf s r)).1.2.2),qF true u1_7 u1_8 ((yi (yf s r)).2.1.1),qF true u1_9 u1_10 ((yi (yf s r)).2.1.2.1),qF true u1_11 u1_12 ((yi (yf s r)).2.1.2.2),qF true u1_13 u1_14 ((yi (yf s r)).2.2.1),qF true u1_15 u1_16 ((yi (yf s r)).2.2.2.1),qF true u1_17 u1_18 ((yi (yf s r)).2.2.2.2),qF true w16 w27 ((ym s r).1),qF true w38 w49 ((ym s r).2.1),qF true w510 w611 ((ym s r).2.2),sgF,qF k1 u1 v1 ax,qF k2 u2 v2 ay])) ?_ (fun hD6=> ?_)
  ·
   rintro ⟨u1_1,u1_2,u1_3,u1_4,u1_5,u1_6,u1_7,u1_8,u1_9,u1_10,u1_11,u1_12,u1_13,u1_14,u1_15,u1_16,u1_17,u1_18,u6_1,u6_2,u11_1,u11_2,u13_1,u13_2⟩
   dsimp only [cw,cS]
   refine zqb 16 19 kr ?_ ?_
   ·
    refine zm rfl rfl rfl rfl (.c rfl (.c rfl .n)) ce78 (zxb (k1:=true) (u1:=u13_1) (v1:=u13_2) (q1:=((h:Int):Rat)) (k2:=true) (u2:=w510) (v2:=w611) (q2:=(ym s r).2.2) (hl:=yn)) (.c (j:=0) rfl (.c (j:=14) rfl .n)) ?_
    rintro ⟨u16_1,u16_2⟩ -
    dsimp only [aq,nq,cq]
    refine e_pv 17 rfl rfl (zTa zr106 rfl yh sz44 (.c rfl (.c rfl (.c rfl .n))) (.c rfl rfl rfl (.t4 .nil) (.c rfl rfl rfl (.s4 (.t4 .nil)) (.c rfl rfl rfl (.s8 (.t4 .nil)) .n)))) ?_
    exact zN (hD4 (u1_1,u1_2,u1_3,u1_4,u1_5,u1_6,u1_7,u1_8,u1_9,u1_10,u1_11,u1_12,u1_13,u1_14,u1_15,u1_16,u1_17,u1_18,u6_1,u6_2,u11_1,u11_2,u16_1,u16_2)) kr ((.of rfl):SubM _ _) .rfl .rfl ((.of [0,2,3,4,5,6,7,8,9,10,11,12,13,14,15,16,17,18] rfl):SelR _ _ _)
   ·
    refine zya rfl rfl rfl rfl (zp zr106 rfl) (fun u19_1 _=> ?_)
    exact zN (hD5 (u1_1,u1_2,u1_3,u1_4,u1_5,u1_6,u1_7,u1_8,u1_9,u1_10,u1_11,u1_12,u1_13,u1_14,u1_15,u1_16,u1_17,u1_18,u6_1,u6_2,u11_1,u11_2,u13_1,u13_2,u19_1)) kr ((.of rfl):SubM _ _) .rfl .rfl ((.of [0,1,2,3,4,5,6,7,8,9,10,11,12,13,14,15,16,17] rfl):SelR _ _ _)
  refine zia (X:=Wd×Wd×Wd×Wd×Wd×Wd×Wd×Wd×Wd×Wd×Wd×Wd×Wd×Wd×Wd×Wd×Wd×Wd×Wd×Wd×Wd×Wd×Nat) (k':=5) (L':=(lb 21 581631)) (fun (u1_1,u1_2,u1_3,u1_4,u1_5,u1_6,u1_7,u1_8,u1_9,u1_10,u1_11,u1_12,u1_13,u1_14,u1_15,u1_16,u1_17,u1_18,u6_1,u6_2,u11_1,u11_2,u19_1)=>([(14,ye (some ⟨u19_1,0,none⟩)),(37,.agg (cw [u11_1,u11_2]).toArray),(32,.agg (cw [u6_1,u6_2]).toArray),(27,.agg (cw [u1_1,u1_2,u1_3,u1_4,u1_5,u1_6,u1_7,u1_8,u1_9,u1_10,u1_11,u1_12,u1_13,u1_14,u1_15,u1_16,u1_17,u1_18]).toArray),(41,.agg (cw [w510,w611]).toArray),(38,yc yd h),(10,ye (some ⟨b4,0,none⟩)),(6,ye (some ⟨b2,0,none⟩))],[boxA u19_1 106 (cw [wz,wz,wz,wz,wz,wz])],[boxA b12 106 (cw [w16,w27,w38,w49,w510,w611]),boxA b5 25 [yc yd ((yf s r).1),yc yd ((yf s r).2.1),yc yd ((yf s r).2.2.1),yc yd ((yf s r).2.2.2)],boxA b4 46 (cw [wz,wz,wz,wz]),boxA b3 46 (cw [u1,v1,u2,v2]),boxA b2 37 [yc yd (cm.fo),yc yd (cm.cx),yc yd (cm.cy)],boxA b1 29 (cS s)],[qF true u11_1 u11_2 (ay - ((ym s r).2.1)),qF true u6_1 u6_2 (ax - ((ym s r).1)),qF true u1_1 u1_2 ((yi (yf s r)).1.1),qF true u1_3 u1_4 ((yi (yf s r)).1.2.1),qF true u1_5 u1_6 ((yi (yf s r)).1.2.2),qF true u1_7 u1_8 ((yi (yf s r)).2.1.1),qF true u1_9 u1_10 ((yi (yf s r)).2.1.2.1),qF true u1_11 u1_12 ((yi (yf s r)).2.1.2.2),qF true u1_13 u1_14 ((yi (yf s r)).2.2.1),qF true u1_15 u1_16 ((yi (yf s r)).2.2.2.1),qF true u1_17 u1_18 ((yi (yf s r)).2.2.2.2),qF true w16 w27 ((ym s r).1),qF true w38 w49 ((ym s r).2.1),qF true w510 w611 ((ym s r).2.2),sgF,qF k1 u1 v1 ax,qF k2 u2 v2 ay])) ?_ (fun hD7=> ?_)
  ·
   rintro ⟨u1_1,u1_2,u1_3,u1_4,u1_5,u1_6,u1_7,u1_8,u1_9,u1_10,u1_11,u1_12,u1_13,u1_14,u1_15,u1_16,u1_17,u1_18,u6_1,u6_2,u11_1,u11_2,u19_1⟩
   dsimp only [cw,cS]
   refine zRa 13 kr ?_
   ·
    refine zm rfl rfl rfl rfl (.c rfl .n) ce71 (zy (z:=h) (hz:=yn)) (.n) ?_
    rintro ⟨u13_1,u13_2⟩ -
    dsimp only [aq,nq,cq]
    exact zN (hD5 (u1_1,u1_2,u1_3,u1_4,u1_5,u1_6,u1_7,u1_8,u1_9,u1_10,u1_11,u1_12,u1_13,u1_14,u1_15,u1_16,u1_17,u1_18,u6_1,u6_2,u11_1,u11_2,u13_1,u13_2,u19_1)) kr ((.of rfl):SubM _ _) .rfl .rfl ((.of [0,1,2,3,4,5,6,7,8,9,10,11,12,13,14,15,16,17] rfl):SelR _ _ _)
  refine zia (X:=Wd×Wd×Wd×Wd×Wd×Wd×Wd×Wd×Wd×Wd×Wd×Wd×Wd×Wd×Wd×Wd×Wd×Wd×Wd×Wd×Wd×Wd) (k':=6) (L':=(lb 21 57343)) (fun (u1_1,u1_2,u1_3,u1_4,u1_5,u1_6,u1_7,u1_8,u1_9,u1_10,u1_11,u1_12,u1_13,u1_14,u1_15,u1_16,u1_17,u1_18,u6_1,u6_2,u11_1,u11_2)=>([(37,.agg (cw [u11_1,u11_2]).toArray),(32,.agg (cw [u6_1,u6_2]).toArray),(27,.agg (cw [u1_1,u1_2,u1_3,u1_4,u1_5,u1_6,u1_7,u1_8,u1_9,u1_10,u1_11,u1_12,u1_13,u1_14,u1_15,u1_16,u1_17,u1_18]).toArray),(41,.agg (cw [w510,w611]).toArray),(38,yc yd h),(10,ye (some ⟨b4,0,none⟩)),(6,ye (some ⟨b2,0,none⟩))],[],[boxA b12 106 (cw [w16,w27,w38,w49,w510,w611]),boxA b5 25 [yc yd ((yf s r).1),yc yd ((yf s r).2.1),yc yd ((yf s r).2.2.1),yc yd ((yf s r).2.2.2)],boxA b4 46 (cw [wz,wz,wz,wz]),boxA b3 46 (cw [u1,v1,u2,v2]),boxA b2 37 [yc yd (cm.fo),yc yd (cm.cx),yc yd (cm.cy)],boxA b1 29 (cS s)],[qF true u11_1 u11_2 (ay - ((ym s r).2.1)),qF true u6_1 u6_2 (ax - ((ym s r).1)),qF true u1_1 u1_2 ((yi (yf s r)).1.1),qF true u1_3 u1_4 ((yi (yf s r)).1.2.1),qF true u1_5 u1_6 ((yi (yf s r)).1.2.2),qF true u1_7 u1_8 ((yi (yf s r)).2.1.1),qF true u1_9 u1_10 ((yi (yf s r)).2.1.2.1),qF true u1_11 u1_12 ((yi (yf s r)).2.1.2.2),qF true u1_13 u1_14 ((yi (yf s r)).2.2.1),qF true u1_15 u1_16 ((yi (yf s r)).2.2.2.1),qF true u1_17 u1_18 ((yi (yf s r)).2.2.2.2),qF true w16 w27 ((ym s r).1),qF true w38 w49 ((ym s r).2.1),qF true w510 w611 ((ym s r).2.2),sgF,qF k1 u1 v1 ax,qF k2 u2 v2 ay])) ?_ (fun hD8=> ?_)
  ·
   rintro ⟨u1_1,u1_2,u1_3,u1_4,u1_5,u1_6,u1_7,u1_8,u1_9,u1_10,u1_11,u1_12,u1_13,u1_14,u1_15,u1_16,u1_17,u1_18,u6_1,u6_2,u11_1,u11_2⟩
   dsimp only [cw,cS]
   refine zqb 13 19 kr ?_ ?_
   ·
    refine zm rfl rfl rfl rfl (.c rfl .n) ce71 (zy (z:=h) (hz:=yn)) (.n) ?_
    rintro ⟨u13_1,u13_2⟩ -
    dsimp only [aq,nq,cq]
    exact zN (hD6 (u1_1,u1_2,u1_3,u1_4,u1_5,u1_6,u1_7,u1_8,u1_9,u1_10,u1_11,u1_12,u1_13,u1_14,u1_15,u1_16,u1_17,u1_18,u6_1,u6_2,u11_1,u11_2,u13_1,u13_2)) kr ((.of rfl):SubM _ _) .rfl .rfl ((.of [0,1,2,3,4,5,6,7,8,9,10,11,12,13,14,15,16,17] rfl):SelR _ _ _)
   ·
    refine zya rfl rfl rfl rfl (zp zr106 rfl) (fun u19_1 _=> ?_)
    exact zN (hD7 (u1_1,u1_2,u1_3,u1_4,u1_5,u1_6,u1_7,u1_8,u1_9,u1_10,u1_11,u1_12,u1_13,u1_14,u1_15,u1_16,u1_17,u1_18,u6_1,u6_2,u11_1,u11_2,u19_1)) kr ((.of rfl):SubM _ _) .rfl .rfl ((.of [0,1,2,3,4,5,6,7,8,9,10,11,12,13,14,15,16] rfl):SelR _ _ _)
  refine zia (X:=Wd×Wd×Wd×Wd×Wd×Wd×Wd×Wd×Wd×Wd×Wd×Wd×Wd×Wd×Wd×Wd×Wd×Wd×Wd×Wd×Nat) (k':=6) (L':=(lb 21 579583)) (fun (u1_1,u1_2,u1_3,u1_4,u1_5,u1_6,u1_7,u1_8,u1_9,u1_10,u1_11,u1_12,u1_13,u1_14,u1_15,u1_16,u1_17,u1_18,u6_1,u6_2,u19_1)=>([(14,ye (some ⟨u19_1,0,none⟩)),(32,.agg (cw [u6_1,u6_2]).toArray),(27,.agg (cw [u1_1,u1_2,u1_3,u1_4,u1_5,u1_6,u1_7,u1_8,u1_9,u1_10,u1_11,u1_12,u1_13,u1_14,u1_15,u1_16,u1_17,u1_18]).toArray),(41,.agg (cw [w510,w611]).toArray),(38,yc yd h),(36,.agg (cw [w38,w49]).toArray),(34,.agg (cw [u2,v2]).toArray),(10,ye (some ⟨b4,0,none⟩)),(6,ye (some ⟨b2,0,none⟩))],[boxA u19_1 106 (cw [wz,wz,wz,wz,wz,wz])],[boxA b12 106 (cw [w16,w27,w38,w49,w510,w611]),boxA b5 25 [yc yd ((yf s r).1),yc yd ((yf s r).2.1),yc yd ((yf s r).2.2.1),yc yd ((yf s r).2.2.2)],boxA b4 46 (cw [wz,wz,wz,wz]),boxA b3 46 (cw [u1,v1,u2,v2]),boxA b2 37 [yc yd (cm.fo),yc yd (cm.cx),yc yd (cm.cy)],boxA b1 29 (cS s)],[qF true u6_1 u6_2 (ax - ((ym s r).1)),qF true u1_1 u1_2 ((yi (yf s r)).1.1),qF true u1_3 u1_4 ((yi (yf s r)).1.2.1),qF true u1_5 u1_6 ((yi (yf s r)).1.2.2),qF true u1_7 u1_8 ((yi (yf s r)).2.1.1),qF true u1_9 u1_10 ((yi (yf s r)).2.1.2.1),qF true u1_11 u1_12 ((yi (yf s r)).2.1.2.2),qF true u1_13 u1_14 ((yi (yf s r)).2.2.1),qF true u1_15 u1_16 ((yi (yf s r)).2.2.2.1),qF true u1_17 u1_18 ((yi (yf s r)).2.2.2.2),qF true w16 w27 ((ym s r).1),qF true w38 w49 ((ym s r).2.1),qF true w510 w611 ((ym s r).2.2),sgF,qF k1 u1 v1 ax,qF k2 u2 v2 ay])) ?_ (fun hD9=> ?_)
  ·
   rintro ⟨u1_1,u1_2,u1_3,u1_4,u1_5,u1_6,u1_7,u1_8,u1_9,u1_10,u1_11,u1_12,u1_13,u1_14,u1_15,u1_16,u1_17,u1_18,u6_1,u6_2,u19_1⟩
   dsimp only [cw,cS]
   refine zRa 11 kr ?_
   ·
    refine zm rfl rfl rfl rfl (.c rfl (.c rfl .n)) ce78 (zxb (k1:=k2) (u1:=u2) (v1:=v2) (q1:=ay) (k2:=true) (u2:=w38) (v2:=w49) (q2:=(ym s r).2.1) (hl:=yn)) (.c (j:=15) rfl (.c (j:=11) rfl .n)) ?_
    rintro ⟨u11_1,u11_2⟩ -
    dsimp only [aq,nq,cq]
    exact zN (hD7 (u1_1,u1_2,u1_3,u1_4,u1_5,u1_6,u1_7,u1_8,u1_9,u1_10,u1_11,u1_12,u1_13,u1_14,u1_15,u1_16,u1_17,u1_18,u6_1,u6_2,u11_1,u11_2,u19_1)) kr ((.of rfl):SubM _ _) .rfl .rfl ((.of [0,1,2,3,4,5,6,7,8,9,10,11,12,13,14,15,16] rfl):SelR _ _ _)
  refine zia (X:=Wd×Wd×Wd×Wd×Wd×Wd×Wd×Wd×Wd×Wd×Wd×Wd×Wd×Wd×Wd×Wd×Wd×Wd×Wd×Wd) (k':=7) (L':=(lb 21 55295)) (fun (u1_1,u1_2,u1_3,u1_4,u1_5,u1_6,u1_7,u1_8,u1_9,u1_10,u1_11,u1_12,u1_13,u1_14,u1_15,u1_16,u1_17,u1_18,u6_1,u6_2)=>([(32,.agg (cw [u6_1,u6_2]).toArray),(27,.agg (cw [u1_1,u1_2,u1_3,u1_4,u1_5,u1_6,u1_7,u1_8,u1_9,u1_10,u1_11,u1_12,u1_13,u1_14,u1_15,u1_16,u1_17,u1_18]).toArray),(41,.agg (cw [w510,w611]).toArray),(38,yc yd h),(36,.agg (cw [w38,w49]).toArray),(34,.agg (cw [u2,v2]).toArray),(10,ye (some ⟨b4,0,none⟩)),(6,ye (some ⟨b2,0,none⟩))],[],[boxA b12 106 (cw [w16,w27,w38,w49,w510,w611]),boxA b5 25 [yc yd ((yf s r).1),yc yd ((yf s r).2.1),yc yd ((yf s r).2.2.1),yc yd ((yf s r).2.2.2)],boxA b4 46 (cw [wz,wz,wz,wz]),boxA b3 46 (cw [u1,v1,u2,v2]),boxA b2 37 [yc yd (cm.fo),yc yd (cm.cx),yc yd (cm.cy)],boxA b1 29 (cS s)],[qF true u6_1 u6_2 (ax - ((ym s r).1)),qF true u1_1 u1_2 ((yi (yf s r)).1.1),qF true u1_3 u1_4 ((yi (yf s r)).1.2.1),qF true u1_5 u1_6 ((yi (yf s r)).1.2.2),qF true u1_7 u1_8 ((yi (yf s r)).2.1.1),qF true u1_9 u1_10 ((yi (yf s r)).2.1.2.1),qF true u1_11 u1_12 ((yi (yf s r)).2.1.2.2),qF true u1_13 u1_14 ((yi (yf s r)).2.2.1),qF true u1_15 u1_16 ((yi (yf s r)).2.2.2.1),qF true u1_17 u1_18 ((yi (yf s r)).2.2.2.2),qF true w16 w27 ((ym s r).1),qF true w38 w49 ((ym s r).2.1),qF true w510 w611 ((ym s r).2.2),sgF,qF k1 u1 v1 ax,qF k2 u2 v2 ay])) ?_ (fun hD10=> ?_)
  ·
   rintro ⟨u1_1,u1_2,u1_3,u1_4,u1_5,u1_6,u1_7,u1_8,u1_9,u1_10,u1_11,u1_12,u1_13,u1_14,u1_15,u1_16,u1_17,u1_18,u6_1,u6_2⟩
   dsimp only [cw,cS]
   refine zqb 11 19 kr ?_ ?_
   ·
    refine zm rfl rfl rfl rfl (.c rfl (.c rfl .n)) ce78 (zxb (k1:=k2) (u1:=u2) (v1:=v2) (q1:=ay) (k2:=true) (u2:=w38) (v2:=w49) (q2:=(ym s r).2.1) (hl:=yn)) (.c (j:=15) rfl (.c (j:=11) rfl .n)) ?_
    rintro ⟨u11_1,u11_2⟩ -
    dsimp only [aq,nq,cq]
    exact zN (hD8 (u1_1,u1_2,u1_3,u1_4,u1_5,u1_6,u1_7,u1_8,u1_9,u1_10,u1_11,u1_12,u1_13,u1_14,u1_15,u1_16,u1_17,u1_18,u6_1,u6_2,u11_1,u11_2)) kr ((.of rfl):SubM _ _) .rfl .rfl ((.of [0,1,2,3,4,5,6,7,8,9,10,11,12,13,14,15,16] rfl):SelR _ _ _)
   ·
    refine zya rfl rfl rfl rfl (zp zr106 rfl) (fun u19_1 _=> ?_)
    exact zN (hD9 (u1_1,u1_2,u1_3,u1_4,u1_5,u1_6,u1_7,u1_8,u1_9,u1_10,u1_11,u1_12,u1_13,u1_14,u1_15,u1_16,u1_17,u1_18,u6_1,u6_2,u19_1)) kr ((.of rfl):SubM _ _) .rfl .rfl ((.of [0,1,2,3,4,5,6,7,8,9,10,11,12,13,14,15] rfl):SelR _ _ _)
  refine zia (X:=Wd×Wd×Wd×Wd×Wd×Wd×Wd×Wd×Wd×Wd×Wd×Wd×Wd×Wd×Wd×Wd×Wd×Wd×Nat) (k':=7) (L':=(lb 21 579519)) (fun (u1_1,u1_2,u1_3,u1_4,u1_5,u1_6,u1_7,u1_8,u1_9,u1_10,u1_11,u1_12,u1_13,u1_14,u1_15,u1_16,u1_17,u1_18,u19_1)=>([(14,ye (some ⟨u19_1,0,none⟩)),(27,.agg (cw [u1_1,u1_2,u1_3,u1_4,u1_5,u1_6,u1_7,u1_8,u1_9,u1_10,u1_11,u1_12,u1_13,u1_14,u1_15,u1_16,u1_17,u1_18]).toArray),(41,.agg (cw [w510,w611]).toArray),(38,yc yd h),(36,.agg (cw [w38,w49]).toArray),(34,.agg (cw [u2,v2]).toArray),(31,.agg (cw [w16,w27]).toArray),(29,.agg (cw [u1,v1]).toArray),(10,ye (some ⟨b4,0,none⟩)),(6,ye (some ⟨b2,0,none⟩))],[boxA u19_1 106 (cw [wz,wz,wz,wz,wz,wz])],[boxA b12 106 (cw [w16,w27,w38,w49,w510,w611]),boxA b5 25 [yc yd ((yf s r).1),yc yd ((yf s r).2.1),yc yd ((yf s r).2.2.1),yc yd ((yf s r).2.2.2)],boxA b4 46 (cw [wz,wz,wz,wz]),boxA b3 46 (cw [u1,v1,u2,v2]),boxA b2 37 [yc yd (cm.fo),yc yd (cm.cx),yc yd (cm.cy)],boxA b1 29 (cS s)],[qF true u1_1 u1_2 ((yi (yf s r)).1.1),qF true u1_3 u1_4 ((yi (yf s r)).1.2.1),qF true u1_5 u1_6 ((yi (yf s r)).1.2.2),qF true u1_7 u1_8 ((yi (yf s r)).2.1.1),qF true u1_9 u1_10 ((yi (yf s r)).2.1.2.1),qF true u1_11 u1_12 ((yi (yf s r)).2.1.2.2),qF true u1_13 u1_14 ((yi (yf s r)).2.2.1),qF true u1_15 u1_16 ((yi (yf s r)).2.2.2.1),qF true u1_17 u1_18 ((yi (yf s r)).2.2.2.2),qF true w16 w27 ((ym s r).1),qF true w38 w49 ((ym s r).2.1),qF true w510 w611 ((ym s r).2.2),sgF,qF k1 u1 v1 ax,qF k2 u2 v2 ay])) ?_ (fun hD11=> ?_)
  ·
   rintro ⟨u1_1,u1_2,u1_3,u1_4,u1_5,u1_6,u1_7,u1_8,u1_9,u1_10,u1_11,u1_12,u1_13,u1_14,u1_15,u1_16,u1_17,u1_18,u19_1⟩
   dsimp only [cw,cS]
   refine zRa 6 kr ?_
   ·
    refine zm rfl rfl rfl rfl (.c rfl (.c rfl .n)) ce78 (zxb (k1:=k1) (u1:=u1) (v1:=v1) (q1:=ax) (k2:=true) (u2:=w16) (v2:=w27) (q2:=(ym s r).1) (hl:=yn)) (.c (j:=13) rfl (.c (j:=9) rfl .n)) ?_
    rintro ⟨u6_1,u6_2⟩ -
    dsimp only [aq,nq,cq]
    exact zN (hD9 (u1_1,u1_2,u1_3,u1_4,u1_5,u1_6,u1_7,u1_8,u1_9,u1_10,u1_11,u1_12,u1_13,u1_14,u1_15,u1_16,u1_17,u1_18,u6_1,u6_2,u19_1)) kr ((.of rfl):SubM _ _) .rfl .rfl ((.of [0,1,2,3,4,5,6,7,8,9,10,11,12,13,14,15] rfl):SelR _ _ _)
  refine zia (X:=Wd×Wd×Wd×Wd×Wd×Wd×Wd×Wd×Wd×Wd×Wd×Wd×Wd×Wd×Wd×Wd×Wd×Wd) (k':=8) (L':=(lb 21 55231)) (fun (u1_1,u1_2,u1_3,u1_4,u1_5,u1_6,u1_7,u1_8,u1_9,u1_10,u1_11,u1_12,u1_13,u1_14,u1_15,u1_16,u1_17,u1_18)=>([(27,.agg (cw [u1_1,u1_2,u1_3,u1_4,u1_5,u1_6,u1_7,u1_8,u1_9,u1_10,u1_11,u1_12,u1_13,u1_14,u1_15,u1_16,u1_17,u1_18]).toArray),(41,.agg (cw [w510,w611]).toArray),(38,yc yd h),(36,.agg (cw [w38,w49]).toArray),(34,.agg (cw [u2,v2]).toArray),(31,.agg (cw [w16,w27]).toArray),(29,.agg (cw [u1,v1]).toArray),(10,ye (some ⟨b4,0,none⟩)),(6,ye (some ⟨b2,0,none⟩))],[],[boxA b12 106 (cw [w16,w27,w38,w49,w510,w611]),boxA b5 25 [yc yd ((yf s r).1),yc yd ((yf s r).2.1),yc yd ((yf s r).2.2.1),yc yd ((yf s r).2.2.2)],boxA b4 46 (cw [wz,wz,wz,wz]),boxA b3 46 (cw [u1,v1,u2,v2]),boxA b2 37 [yc yd (cm.fo),yc yd (cm.cx),yc yd (cm.cy)],boxA b1 29 (cS s)],[qF true u1_1 u1_2 ((yi (yf s r)).1.1),qF true u1_3 u1_4 ((yi (yf s r)).1.2.1),qF true u1_5 u1_6 ((yi (yf s r)).1.2.2),qF true u1_7 u1_8 ((yi (yf s r)).2.1.1),qF true u1_9 u1_10 ((yi (yf s r)).2.1.2.1),qF true u1_11 u1_12 ((yi (yf s r)).2.1.2.2),qF true u1_13 u1_14 ((yi (yf s r)).2.2.1),qF true u1_15 u1_16 ((yi (yf s r)).2.2.2.1),qF true u1_17 u1_18 ((yi (yf s r)).2.2.2.2),qF true w16 w27 ((ym s r).1),qF true w38 w49 ((ym s r).2.1),qF true w510 w611 ((ym s r).2.2),sgF,qF k1 u1 v1 ax,qF k2 u2 v2 ay])) ?_ (fun hD12=> ?_)
  ·
   rintro ⟨u1_1,u1_2,u1_3,u1_4,u1_5,u1_6,u1_7,u1_8,u1_9,u1_10,u1_11,u1_12,u1_13,u1_14,u1_15,u1_16,u1_17,u1_18⟩
   dsimp only [cw,cS]
   refine zqb 6 19 kr ?_ ?_
   ·
    refine zm rfl rfl rfl rfl (.c rfl (.c rfl .n)) ce78 (zxb (k1:=k1) (u1:=u1) (v1:=v1) (q1:=ax) (k2:=true) (u2:=w16) (v2:=w27) (q2:=(ym s r).1) (hl:=yn)) (.c (j:=13) rfl (.c (j:=9) rfl .n)) ?_
    rintro ⟨u6_1,u6_2⟩ -
    dsimp only [aq,nq,cq]
    exact zN (hD10 (u1_1,u1_2,u1_3,u1_4,u1_5,u1_6,u1_7,u1_8,u1_9,u1_10,u1_11,u1_12,u1_13,u1_14,u1_15,u1_16,u1_17,u1_18,u6_1,u6_2)) kr ((.of rfl):SubM _ _) .rfl .rfl ((.of [0,1,2,3,4,5,6,7,8,9,10,11,12,13,14,15] rfl):SelR _ _ _)
   ·
    refine zya rfl rfl rfl rfl (zp zr106 rfl) (fun u19_1 _=> ?_)
    exact zN (hD11 (u1_1,u1_2,u1_3,u1_4,u1_5,u1_6,u1_7,u1_8,u1_9,u1_10,u1_11,u1_12,u1_13,u1_14,u1_15,u1_16,u1_17,u1_18,u19_1)) kr ((.of rfl):SubM _ _) .rfl .rfl ((.of [0,1,2,3,4,5,6,7,8,9,10,11,12,13,14] rfl):SelR _ _ _)
  refine zia (X:=Nat) (k':=8) (L':=(lb 21 579517)) (fun u19_1=>([(14,ye (some ⟨u19_1,0,none⟩)),(41,.agg (cw [w510,w611]).toArray),(38,yc yd h),(36,.agg (cw [w38,w49]).toArray),(34,.agg (cw [u2,v2]).toArray),(31,.agg (cw [w16,w27]).toArray),(29,.agg (cw [u1,v1]).toArray),(26,.agg #[yc yd ((yf s r).1),yc yd ((yf s r).2.1),yc yd ((yf s r).2.2.1),yc yd ((yf s r).2.2.2)]),(10,ye (some ⟨b4,0,none⟩)),(6,ye (some ⟨b2,0,none⟩))],[boxA u19_1 106 (cw [wz,wz,wz,wz,wz,wz])],[boxA b12 106 (cw [w16,w27,w38,w49,w510,w611]),boxA b5 25 [yc yd ((yf s r).1),yc yd ((yf s r).2.1),yc yd ((yf s r).2.2.1),yc yd ((yf s r).2.2.2)],boxA b4 46 (cw [wz,wz,wz,wz]),boxA b3 46 (cw [u1,v1,u2,v2]),boxA b2 37 [yc yd (cm.fo),yc yd (cm.cx),yc yd (cm.cy)],boxA b1 29 (cS s)],[qF true w16 w27 ((ym s r).1),qF true w38 w49 ((ym s r).2.1),qF true w510 w611 ((ym s r).2.2),sgF,qF k1 u1 v1 ax,qF k2 u2 v2 ay])) ?_ (fun hD13=> ?_)
  ·
   rintro u19_1
   dsimp only [cw,cS]
   refine zRa 1 kr ?_
   ·
    refine zm rfl rfl rfl rfl (.c rfl .n) ce76 (zVb (q:=(yf s r)) (hsm:=yn)) (.c (j:=3) rfl .n) ?_
    rintro ⟨u1_1,u1_2,u1_3,u1_4,u1_5,u1_6,u1_7,u1_8,u1_9,u1_10,u1_11,u1_12,u1_13,u1_14,u1_15,u1_16,u1_17,u1_18⟩ -
    dsimp only [aq,nq,cq]
    exact zN (hD11 (u1_1,u1_2,u1_3,u1_4,u1_5,u1_6,u1_7,u1_8,u1_9,u1_10,u1_11,u1_12,u1_13,u1_14,u1_15,u1_16,u1_17,u1_18,u19_1)) kr ((.of rfl):SubM _ _) .rfl .rfl ((.of [0,1,2,3,4,5,6,7,8,9,10,11,12,13,14] rfl):SelR _ _ _)
  refine zqb 1 19 kr ?_ ?_
  ·
   refine zm rfl rfl rfl rfl (.c rfl .n) ce76 (zVb (q:=(yf s r)) (hsm:=yn)) (.c (j:=3) rfl .n) ?_
   rintro ⟨u1_1,u1_2,u1_3,u1_4,u1_5,u1_6,u1_7,u1_8,u1_9,u1_10,u1_11,u1_12,u1_13,u1_14,u1_15,u1_16,u1_17,u1_18⟩ -
   dsimp only [aq,nq,cq]
   exact zN (hD12 (u1_1,u1_2,u1_3,u1_4,u1_5,u1_6,u1_7,u1_8,u1_9,u1_10,u1_11,u1_12,u1_13,u1_14,u1_15,u1_16,u1_17,u1_18)) kr ((.of rfl):SubM _ _) .rfl .rfl ((.of [0,1,2,3,4,5,6,7,8,9,10,11,12,13,14] rfl):SelR _ _ _)
  ·
   refine zya rfl rfl rfl rfl (zp zr106 rfl) (fun u19_1 _=> ?_)
   exact zN (hD13 u19_1) kr ((.of rfl):SubM _ _) .rfl .rfl ((.of [0,1,2,3,4,5] rfl):SelR _ _ _)
end Go.Proofs.YtjeahiahjgifgaaGreatDoor.Sp
