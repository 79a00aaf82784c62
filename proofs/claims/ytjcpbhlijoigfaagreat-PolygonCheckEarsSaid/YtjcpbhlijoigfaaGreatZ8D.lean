/- Lemmas on the walk and plain lemmas that the claim of this folder uses; each states its own conditions. Lines were printed by a program of ours. -/
import Derived.Test.YtjcpbhlijoigfaaGreatZ8C
set_option linter.unusedVariables false
set_option linter.unusedSimpArgs false
set_option linter.unusedSectionVars false
open Go.Value renaming int → ya, pointer → yc
open Go.IntKind renaming i64 → yb
open Go.Proofs.YtjcpbhlijoigfaaGreat.Big renaming digs → yd, raw → ye, valL → yi, zW → yp, ln → yq, digs_ok → yr, okL_getD → yt, okL → yv, raw_big → yw, valL_digs → yx, hq_num → yy, hq_den → yz, trimL → yB, zXa → yC, valL_nonneg → yD, pw → yE, nn → yF, hq → yH, sg → yI, zPa → yJ, qv → yK, den_ne → yL
open Go.Proofs.Tryz renaming underlying39 → yf, underlying41 → yg, underlying43 → yh, underlying69 → yj, prog → yk, underlying120 → yl, underlying121 → ym, underlying30 → yn, underlying34 → yo, underlying84 → yu, results129 → yA, results19 → yG
namespace Go.Proofs.YtjcpbhlijoigfaaGreat.Sp
open Go
set_option linter.unusedVariables false
set_option maxRecDepth 100000
set_option maxHeartbeats 8000000
theorem zOe {s:Bool} {p1:Option Addr} {n1:Nat} {c1:Nat} {l1:List Int} {t:Bool} {p2:Option Addr} {n2:Nat} {c2:Nat} {l2:List Int} (hn1:l1.length=n1) (hn2:l2.length=n2) (hm1:n1≤1048576) (hm2:n2≤1048576):Con yk 124 [.agg #[.bool s,.slice p1 n1 c1,.bool t,.slice p2 n2 c2]] [] [slF (rI .u32) p1 c1 l1,slF (rI .u32) p2 c2 l2] (Y:=Unit) (fun y=>True) (fun y=> .bool (decide (Big.qok ((s,l1),(t,l2))))) (fun y=>[]) (fun y=>[]):=by
 refine zp Tryz.func124 rfl rfl rfl (fun c=> ?_)
 show RunC _ _ _ _ _ [(0,.agg #[.bool s,.slice p1 n1 c1,.bool t,.slice p2 n2 c2])] [] [slF (rI .u32) p1 c1 l1,slF (rI .u32) p2 c2 l2]
 refine zfa 0 rfl (fun hL0=> ?_)
 refine zWa 0 rfl (fun hE0=> ?_)
 refine zfa 1 rfl (fun hL1=> ?_)
 refine zWa 1 rfl (fun hE1=> ?_)
 have hnn1:yF l1:=fun g hg=>(zH.1 (hE0 g hg)).1
 have hnn2:yF l2:=fun g hg=>(zH.1 (hE1 g hg)).1
 have hb1:yq (ye s l1)≤n1:=by have:=yC (s:=s) hnn1;omega
 have hb2:yq (ye t l2)≤n2:=by have:=yC (s:=t) hnn2;omega
 refine ze<|za<|zP rfl rfl (zV rfl rfl) (fun b1=> ?_)
 refine e_p (zb rfl)<|zh<|zd<|ze<|zAa (X:=Unit) (fun x=>True) (fun x=>[(18,.bool (decide (¬(Big.canon s l1∧Big.canon t l2∧0<ye t l2)))),(2,.bool false),(1,yc (some ⟨b1,0,none⟩))]) (fun x=>[boxA b1 43 [.bool s,.slice p1 n1 c1,.bool t,.slice p2 n2 c2]]) (fun x=>[slF (rI .u32) p1 c1 l1,slF (rI .u32) p2 c2 l2]) ?_ ?_
 ·
  refine za<|e_p (zg yh rfl sz41 rfl rfl)<|e_ru (zc 0 ty41 rfl rfl (.t2 .nil))<|zO rfl rfl (.c rfl .n) ce138 (zTc (s:=s) (p:=p1) (n:=n1) (cap:=c1) (l:=l1) (hn:=ass)) (.c (j:=0) rfl .n)<|e_p (zmb rfl)<|zS rfl rfl (zT rfl) (fun h2=> ?_) (fun h2=> ?_)
  ·
   refine e_no<|e_no<|e_no<|e_no<|e_p (zo rfl rfl)<|e_mv rfl<|e_no<|e_no<|e_no<|e_no<|e_p (zo rfl rfl)<|zh ?_
   exact zY () (show True from by first|trivial|omega|simp_all) ((.e rfl (congrArg Value.bool (by simp_all)) (.c rfl (.c rfl .n))):SubM _ _) (ho:=((.c (i:=0) rfl .n):PickO _ _ _)) ((.of [0,1] rfl):SelR _ _ _)
  ·
   refine e_p (zg yh rfl sz41 rfl rfl)<|e_ru (zc 0 ty41 rfl rfl (.s2 (.t2 .nil)))<|zO rfl rfl (.c rfl .n) ce138 (zTc (s:=t) (p:=p2) (n:=n2) (cap:=c2) (l:=l2) (hn:=ass)) (.c (j:=1) rfl .n)<|e_p (zmb rfl)<|e_p (zo rfl rfl)<|zS rfl rfl (zT rfl) (fun h3=> ?_) (fun h3=> ?_)
   ·
    refine e_no<|e_no<|e_no<|e_no<|e_p (zo rfl rfl)<|zh ?_
    exact zY () (show True from by first|trivial|omega|simp_all) ((.e rfl (congrArg Value.bool (by simp_all)) (.c rfl (.c rfl .n))):SubM _ _) (ho:=((.c (i:=0) rfl .n):PickO _ _ _)) ((.of [0,1] rfl):SelR _ _ _)
   ·
    refine e_p (zg yh rfl sz41 rfl rfl)<|e_ru (zc 0 ty41 rfl rfl (.s2 (.t2 .nil)))<|zO rfl rfl (.c rfl .n) ce120 (zwe (s:=t) (p:=p2) (n:=n2) (cap:=c2) (l:=l2) (hn:=ass)) (.c (j:=1) rfl .n)<|e_p (zVa rfl rfl)<|e_p (zo rfl rfl)<|zh ?_
    exact zY () (show True from by first|trivial|omega|simp_all) ((.e rfl (congrArg Value.bool (by exact decide_eq_decide.2 (Big.sgn_le (Decidable.not_not.1 ‹_›) (Decidable.not_not.1 ‹_›)))) (.c rfl (.c rfl .n))):SubM _ _) (ho:=((.c (i:=0) rfl .n):PickO _ _ _)) ((.of [0,1] rfl):SelR _ _ _)
 ·
  rintro ⟨⟩ -
  try dsimp only
  refine zB rfl (fun hc=> ?_) (fun hc=> ?_)
  ·
   refine ze<|za<|e_p (zb rfl)<|zh<|zd<|zJ<|zi ?_
   exact zx Tryz.results124 () trivial (zn rfl) (congrArg Value.bool (decide_eq_false (fun h=>hc ⟨h.1,h.2.1,h.2.2.1⟩))) (ho:=(.n:PickO _ _ _)) (.n:SelR _ _ _)
  ·
   refine zt<|zd<|ze<|za<|e_p (zg yh rfl sz41 rfl rfl)<|e_ru (zc 0 ty41 rfl rfl (.t2 .nil))<|e_p (zg yh rfl sz41 rfl rfl)<|e_ru (zc 0 ty41 rfl rfl (.s2 (.t2 .nil)))<|zL rfl rfl (.c rfl (.c rfl .n)) ce140 (zzf (s:=s) (p1:=p1) (n1:=n1) (c1:=c1) (l1:=l1) (t:=t) (p2:=p2) (n2:=n2) (c2:=c2) (l2:=l2) (hn1:=ass) (hn2:=ass) (hb1:=by first|rfl|assumption|omega|(rw [yp];omega)|(decide +kernel)) (hb2:=by first|rfl|assumption|omega|(rw [yp];omega)|(decide +kernel))) (.c (j:=0) rfl (.c (j:=1) rfl .n)) ?_
   rintro ⟨p34,c35⟩ -
   dsimp only [aq,nq,cq]
   refine zL rfl rfl (.c rfl .n) ce84 (zkg (z:=1) (hz:=by first|rfl|assumption|omega|(rw [yp];omega)|(decide +kernel))) (.n) ?_
   rintro ⟨p26,c27⟩ -
   dsimp only [aq,nq,cq]
   refine zO rfl rfl (.c rfl (.c rfl .n)) ce142 (zLd (x1:=((Nat.gcd (ye s l1).natAbs (ye t l2).natAbs:Nat):Int)) (x2:=1) (p1:=p34) (c1:=c35) (p2:=p26) (c2:=c27)) (.c (j:=1) rfl (.c (j:=0) rfl .n))<|e_p (zsa rfl rfl)<|e_p (zb rfl)<|zh<|zd<|zJ ?_
   exact zx Tryz.results124 () trivial (zn rfl) (congrArg Value.bool (decide_eq_decide.2 (Big.qok_gcd (x:=((s,l1),(t,l2))) (Decidable.not_not.1 hc)).symm)) (ho:=(.n:PickO _ _ _)) (.n:SelR _ _ _)
theorem zdc {w1:Wd} {w2:Wd} {x1:Int} {x2:Int} (hl1:yq x1≤1048576) (hl2:yq x2≤1048576) (hd:x2≠0):Con yk 121 [.agg #[w1.b,w1.l],.agg #[w2.b,w2.l]] [] [zF w1 x1,zF w2 x2] (Y:=Wd×Wd) (fun y=>True) (fun y=> .agg #[y.1.b,y.1.l,y.2.b,y.2.l]) (fun y=>[]) (fun y=>[qF true y.1 y.2 (Rat.divInt x1 x2)]):=by
 refine zp Tryz.func121 rfl rfl rfl (fun c=> ?_)
 show RunC _ _ _ _ _ [(0,.agg #[w1.b,w1.l]),(1,.agg #[w2.b,w2.l])] [] [zF w1 x1,zF w2 x2]
 refine ze<|za<|zP rfl rfl (zV rfl rfl) (fun b1=> ?_)
 refine zP rfl rfl (zV rfl rfl) (fun b2=> ?_)
 refine zP rfl rfl (zu zr43 rfl) (fun b3=> ?_)
 refine zh<|zd<|ze<|ze<|za<|e_ru (zc 1 ty41 rfl rfl (.t2 .nil))<|zO rfl rfl (.c rfl .n) ce120 (zWc (w1:=w2) (x1:=x2)) (.c (j:=1) rfl .n)<|e_p (zR rfl rfl)<|zh<|zd<|zB rfl (fun hneg=> ?_) (fun hneg=> ?_)
 ·
  have hs:x2<0:=by rcases Big.sign_le (x:=x2) with h|h|h <;> omega
  have hgp:=Big.gcd_pos_right (n:= -x1) (d:= -x2) om
  have hgl:=Big.zHd (n:= -x1) (d:= -x2) om
  rw [yp] at hgl
  obtain ⟨hr1,hr2⟩:=Big.red_flip (n:=x1) hs
  refine zwa (.c (i:=2) rfl (.c (i:=1) rfl (.c (i:=0) rfl .n)))<|zZ (OW:=[boxA b1 41 [w1.b,w1.l],boxA b2 41 [w2.b,w2.l]]) (O:=[boxA b3 43 (cw [wz,wz])]) 4 mixed (.then .ret) kr<|e_uw 0 rfl rfl (zc 0 ty41 rfl rfl (.t2 .nil))<|e_uw 2 rfl rfl (zc 1 ty41 rfl rfl (.t2 .nil))<|e_one 1 (zE rfl rfl rfl rfl (.c rfl .n) ce139 (ztd (w1:=w1) (x1:=x1) (hln:=by first|rfl|assumption|omega|(rw [yp];omega)|(decide +kernel))) (.c (j:=0) rfl .n) ?_)
  rintro w34 -
  dsimp only [aq,nq,cq]
  refine e_one 3 (zE rfl rfl rfl rfl (.c rfl .n) ce139 (ztd (w1:=w2) (x1:=x2) (hln:=by first|rfl|assumption|omega|(rw [yp];omega)|(decide +kernel))) (.c (j:=2) rfl .n) ?_)
  rintro w35 -
  dsimp only [aq,nq,cq]
  refine e_one 4 (zA kr rfl rfl rfl rfl rfl sz41 rfl (.t2 .nil) ?_)
  refine zab (zea (i:=1) rfl)<|e_one 5 (zA kr rfl rfl rfl rfl rfl sz41 rfl (.t2 .nil) ?_)
  refine zX kr<|zd<|ze<|za<|e_ru (zc 1 ty41 rfl rfl (.t2 .nil))<|e_ru (zc 0 ty41 rfl rfl (.t2 .nil))<|zL rfl rfl (.c rfl (.c rfl .n)) ce140 (zye (w1:=w34) (w2:=w35) (x1:= - x1) (x2:= - x2) (hb1:=by first|rfl|assumption|omega|(rw [yp];omega)|(decide +kernel)) (hb2:=by first|rfl|assumption|omega|(rw [yp];omega)|(decide +kernel))) (.c (j:=1) rfl (.c (j:=0) rfl .n)) ?_
  rintro w36 -
  dsimp only [aq,nq,cq]
  refine zP rfl rfl (zu zr41 rfl) (fun b7=> ?_)
  refine zq 0 rfl rfl rfl rfl rfl sz41 rfl (.t2 .nil) .z<|zh<|zd<|ze<|za<|e_ru (zc 2 ty41 rfl rfl (.t2 .nil))<|e_ru (zc 0 ty41 rfl rfl (.t2 .nil))<|zL rfl rfl (.c rfl (.c rfl .n)) ce141 (zDb (w1:=w34) (w2:=w36) (x1:= - x1) (x2:=((Nat.gcd (- x1).natAbs (- x2).natAbs:Nat):Int)) (hb1:=by first|rfl|assumption|omega|(rw [yp];omega)|(decide +kernel)) (hb2:=by first|rfl|assumption|omega|(rw [yp];omega)|(decide +kernel)) (hy:=by first|rfl|assumption|omega|(rw [yp];omega)|(decide +kernel))) (.c (j:=2) rfl (.c (j:=0) rfl .n)) ?_
  rintro ⟨w38,w49⟩ -
  dsimp only [aq,nq,cq]
  refine e_mv rfl<|e_p (zD rfl rfl)<|e_p (zD rfl rfl)<|e_p (zD rfl rfl)<|zq 2 rfl rfl rfl rfl rfl sz41 rfl (.t2 .nil) (.s (.s .z))<|zh<|zd<|ze<|za<|e_ru (zc 1 ty41 rfl rfl (.t2 .nil))<|e_ru (zc 0 ty41 rfl rfl (.t2 .nil))<|zL rfl rfl (.c rfl (.c rfl .n)) ce141 (zDb (w1:=w35) (w2:=w36) (x1:= - x2) (x2:=((Nat.gcd (- x1).natAbs (- x2).natAbs:Nat):Int)) (hb1:=by first|rfl|assumption|omega|(rw [yp];omega)|(decide +kernel)) (hb2:=by first|rfl|assumption|omega|(rw [yp];omega)|(decide +kernel)) (hy:=by first|rfl|assumption|omega|(rw [yp];omega)|(decide +kernel))) (.c (j:=3) rfl (.c (j:=2) rfl .n)) ?_
  rintro ⟨w310,w411⟩ -
  dsimp only [aq,nq,cq]
  refine e_mv rfl<|e_p (zD rfl rfl)<|e_p (zD rfl rfl)<|e_p (zD rfl rfl)<|zq 1 rfl rfl rfl rfl rfl sz41 rfl (.t2 .nil) (.s .z)<|zh<|zd<|ze<|za<|e_ru (zc 2 ty41 rfl rfl (.t2 .nil))<|e_ru (zc 1 ty41 rfl rfl (.t2 .nil))<|e_p (zN zr43 rfl yh (.c sz41 (.c sz41 .n)) (.c rfl (.c rfl .n)) (.c rfl rfl rfl (.t2 .nil) (.c rfl rfl rfl (.s2 (.t2 .nil)) .n)))<|zq 3 rfl rfl rfl rfl rfl sz43 rfl (.t4 .nil) (.s (.s (.s .z)))<|zh<|zd<|zJ<|zNb (qF true w38 w310 (Rat.divInt x1 x2)) (qF_close 2 0 rfl rfl (by exact ⟨hr1,hr2,Nat.le_trans (Big.hq_divInt hd) om⟩)) ?_
  exact zx Tryz.results121 (w38,w310) trivial (zC 3 ty43 rfl rfl (.t4 .nil)) rfl (ho:=(.n:PickO _ _ _)) ((.c (j:=0) rfl .n):SelR _ _ _)
 ·
  have hs:0<x2:=by rcases Big.sign_le (x:=x2) with h|h|h <;> omega
  have hgp:=Big.gcd_pos_right (n:=x1) (d:=x2) om
  have hgl:=Big.zHd (n:=x1) (d:=x2) om
  obtain ⟨hr1,hr2⟩:=Big.red_pos (n:=x1) hs
  refine zt<|zd<|ze<|za<|e_ru (zc 2 ty41 rfl rfl (.t2 .nil))<|e_ru (zc 1 ty41 rfl rfl (.t2 .nil))<|zL rfl rfl (.c rfl (.c rfl .n)) ce140 (zye (w1:=w1) (w2:=w2) (x1:=x1) (x2:=x2) (hb1:=by first|rfl|assumption|omega|(rw [yp];omega)|(decide +kernel)) (hb2:=by first|rfl|assumption|omega|(rw [yp];omega)|(decide +kernel))) (.c (j:=0) rfl (.c (j:=1) rfl .n)) ?_
  rintro w312 -
  dsimp only [aq,nq,cq]
  refine zP rfl rfl (zu zr41 rfl) (fun b13=> ?_)
  refine zq 0 rfl rfl rfl rfl rfl sz41 rfl (.t2 .nil) .z<|zh<|zd<|ze<|za<|e_ru (zc 3 ty41 rfl rfl (.t2 .nil))<|e_ru (zc 0 ty41 rfl rfl (.t2 .nil))<|zL rfl rfl (.c rfl (.c rfl .n)) ce141 (zDb (w1:=w1) (w2:=w312) (x1:=x1) (x2:=((Nat.gcd x1.natAbs x2.natAbs:Nat):Int)) (hb1:=by first|rfl|assumption|omega|(rw [yp];omega)|(decide +kernel)) (hb2:=by first|rfl|assumption|omega|(rw [yp];omega)|(decide +kernel)) (hy:=by first|rfl|assumption|omega|(rw [yp];omega)|(decide +kernel))) (.c (j:=1) rfl (.c (j:=0) rfl .n)) ?_
  rintro ⟨w314,w415⟩ -
  dsimp only [aq,nq,cq]
  refine e_mv rfl<|e_p (zD rfl rfl)<|e_p (zD rfl rfl)<|e_p (zD rfl rfl)<|zq 3 rfl rfl rfl rfl rfl sz41 rfl (.t2 .nil) (.s (.s (.s .z)))<|zh<|zd<|ze<|za<|e_ru (zc 2 ty41 rfl rfl (.t2 .nil))<|e_ru (zc 0 ty41 rfl rfl (.t2 .nil))<|zL rfl rfl (.c rfl (.c rfl .n)) ce141 (zDb (w1:=w2) (w2:=w312) (x1:=x2) (x2:=((Nat.gcd x1.natAbs x2.natAbs:Nat):Int)) (hb1:=by first|rfl|assumption|omega|(rw [yp];omega)|(decide +kernel)) (hb2:=by first|rfl|assumption|omega|(rw [yp];omega)|(decide +kernel)) (hy:=by first|rfl|assumption|omega|(rw [yp];omega)|(decide +kernel))) (.c (j:=4) rfl (.c (j:=2) rfl .n)) ?_
  rintro ⟨w316,w417⟩ -
  dsimp only [aq,nq,cq]
  refine e_mv rfl<|e_p (zD rfl rfl)<|e_p (zD rfl rfl)<|e_p (zD rfl rfl)<|zq 2 rfl rfl rfl rfl rfl sz41 rfl (.t2 .nil) (.s (.s .z))<|zh<|zd<|ze<|za<|e_ru (zc 3 ty41 rfl rfl (.t2 .nil))<|e_ru (zc 2 ty41 rfl rfl (.t2 .nil))<|e_p (zN zr43 rfl yh (.c sz41 (.c sz41 .n)) (.c rfl (.c rfl .n)) (.c rfl rfl rfl (.t2 .nil) (.c rfl rfl rfl (.s2 (.t2 .nil)) .n)))<|zq 1 rfl rfl rfl rfl rfl sz43 rfl (.t4 .nil) (.s .z)<|zh<|zd<|zJ<|zNb (qF true w314 w316 (Rat.divInt x1 x2)) (qF_close 2 0 rfl rfl (by exact ⟨hr1,hr2,Nat.le_trans (Big.hq_divInt hd) om⟩)) ?_
  exact zx Tryz.results121 (w314,w316) trivial (zC 1 ty43 rfl rfl (.t4 .nil)) rfl (ho:=(.n:PickO _ _ _)) ((.c (j:=0) rfl .n):SelR _ _ _)
theorem zPe {s:Bool} {p1:Option Addr} {n1:Nat} {c1:Nat} {l1:List Int} {t:Bool} {p2:Option Addr} {n2:Nat} {c2:Nat} {l2:List Int} (hn1:l1.length=n1) (hn2:l2.length=n2) (hm1:n1≤1048576) (hm2:n2≤1048576) (hq:Big.qok ((s,l1),(t,l2))):Con yk 125 [.agg #[.bool s,.slice p1 n1 c1,.bool t,.slice p2 n2 c2]] [] [slF (rI .u32) p1 c1 l1,slF (rI .u32) p2 c2 l2] (Y:=(Option Addr)×Nat×(Option Addr)×Nat) (fun y=>True) (fun y=> .agg #[.bool (decide (((yK ((s,l1),(t,l2))).num)<0)),.slice (y.1) ((yd (((yK ((s,l1),(t,l2))).num).natAbs)).length) (y.2.1),.bool (decide ((((yK ((s,l1),(t,l2))).den:Nat):Int)<0)),.slice (y.2.2.1) ((yd ((((yK ((s,l1),(t,l2))).den:Nat):Int).natAbs)).length) (y.2.2.2)]) (fun y=>[]) (fun y=>[slF (rI .u32) (y.1) (y.2.1) (yd (((yK ((s,l1),(t,l2))).num).natAbs)),slF (rI .u32) (y.2.2.1) (y.2.2.2) (yd ((((yK ((s,l1),(t,l2))).den:Nat):Int).natAbs))]):=by
 refine zp Tryz.func125 rfl rfl rfl (fun c=> ?_)
 show RunC _ _ _ _ _ [(0,.agg #[.bool s,.slice p1 n1 c1,.bool t,.slice p2 n2 c2])] [] [slF (rI .u32) p1 c1 l1,slF (rI .u32) p2 c2 l2]
 refine zfa 0 rfl (fun hL0=> ?_)
 refine zWa 0 rfl (fun hE0=> ?_)
 refine zfa 1 rfl (fun hL1=> ?_)
 refine zWa 1 rfl (fun hE1=> ?_)
 have hnn1:yF l1:=fun g hg=>(zH.1 (hE0 g hg)).1
 have hnn2:yF l2:=fun g hg=>(zH.1 (hE1 g hg)).1
 have hb1:yq (ye s l1)≤n1:=by have:=yC (s:=s) hnn1;omega
 have hb2:yq (ye t l2)≤n2:=by have:=yC (s:=t) hnn2;omega
 refine ze<|za<|zP rfl rfl (zV rfl rfl) (fun b1=> ?_)
 refine zP rfl rfl (zu zr43 rfl) (fun b2=> ?_)
 refine zh<|zd<|ze<|zZ (OW:=[boxA b2 43 (cw [wz,wz])]) (O:=[boxA b1 43 [.bool s,.slice p1 n1 c1,.bool t,.slice p2 n2 c2]]) 9 mixed (.then .ret) kr<|e_pv 0 rfl rfl (zg yh rfl sz41 rfl rfl)<|e_uw 1 rfl rfl (zc 1 ty41 rfl rfl (.t2 .nil))<|e_pv 4 rfl rfl (zg yh rfl sz41 rfl rfl)<|e_uw 5 rfl rfl (zc 1 ty41 rfl rfl (.s2 (.t2 .nil)))<|e_one 2 (zE rfl rfl rfl rfl (.c rfl .n) ce139 (zfe (s:=s) (p:=p1) (n:=n1) (cap:=c1) (l:=l1) (hn:=ass) (hln:=by first|rfl|assumption|omega|(rw [yp];omega)|(decide +kernel))) (.c (j:=0) rfl .n) ?_)
 rintro ⟨p23,c24⟩ -
 dsimp only [aq,nq,cq]
 refine e_one 3 (zE rfl rfl rfl rfl (.c rfl .n) ce139 (zsd (z:= - ye s l1) (p:=p23) (cap:=c24) (hln:=by first|rfl|assumption|omega|(rw [yp];omega)|(decide +kernel))) (.c (j:=0) rfl .n) ?_)
 rintro ⟨p25,c26⟩ -
 dsimp only [aq,nq,cq]
 refine e_one 6 (zE rfl rfl rfl rfl (.c rfl .n) ce139 (zfe (s:=t) (p:=p2) (n:=n2) (cap:=c2) (l:=l2) (hn:=ass) (hln:=by first|rfl|assumption|omega|(rw [yp];omega)|(decide +kernel))) (.c (j:=3) rfl .n) ?_)
 rintro ⟨p27,c28⟩ -
 dsimp only [aq,nq,cq]
 refine e_one 7 (zE rfl rfl rfl rfl (.c rfl .n) ce139 (zsd (z:= - ye t l2) (p:=p27) (cap:=c28) (hln:=by first|rfl|assumption|omega|(rw [yp];omega)|(decide +kernel))) (.c (j:=0) rfl .n) ?_)
 rintro ⟨p29,c210⟩ -
 dsimp only [aq,nq,cq]
 refine e_pv 8 rfl rfl (zN zr43 rfl yh (.c sz41 (.c sz41 .n)) (.c rfl (.c rfl .n)) (.c rfl rfl rfl (.t2 .nil) (.c rfl rfl rfl (.s2 (.t2 .nil)) .n)))<|e_one 9 (zA kr rfl rfl rfl rfl rfl sz43 rfl (.t4 .nil) ?_)
 refine zX kr<|zd<|zJ ?_
 have hz1: - - ye s l1=(yK ((s,l1),(t,l2))).num:=by rw [Int.neg_neg];exact (Big.qv_parts hq).1.symm
 have hz2: - - ye t l2=(((yK ((s,l1),(t,l2))).den:Nat):Int):=by rw [Int.neg_neg];exact (Big.qv_parts hq).2.symm
 exact zx Tryz.results125 (p25,c26,p29,c210) trivial (zC 0 ty43 rfl rfl (.t4 .nil)) (by rw [hz1,hz2]) (ho:=(.n:PickO _ _ _)) ((.e (j:=2) rfl (by rw [hz1]) (.e (j:=0) rfl (by rw [hz2]) .n)):SelR _ _ _)
theorem zge {s:Bool} {p1:Option Addr} {n1:Nat} {c1:Nat} {l1:List Int} {t:Bool} {p2:Option Addr} {n2:Nat} {c2:Nat} {l2:List Int} (hn1:l1.length=n1) (hn2:l2.length=n2) (hm1:n1≤1048576) (hm2:n2≤1048576) (hq:Big.qok ((s,l1),(t,l2))) (hl:yH (yK ((s,l1),(t,l2)))≤1048576):Con yk 125 [.agg #[.bool (s),.slice (p1) (n1) (c1),.bool (t),.slice (p2) (n2) (c2)]] [] [slF (rI .u32) (p1) (c1) (l1),slF (rI .u32) (p2) (c2) (l2)] (Y:=(Wd)×(Wd)) (fun y=>True) (fun y=> .agg #[y.1.b,y.1.l,y.2.b,y.2.l]) (fun y=>[]) (fun y=>[qF true y.1 y.2 (yK ((s,l1),(t,l2)))]):=by
  exact con_qr (zPe hn1 hn2 hm1 hm2 hq) rfl rfl hl
theorem zXc {z:Int} (hz: -9223372036854775808≤z∧z≤9223372036854775807):Con yk 93 [ya yb z] [] [] (Y:=Wd×Wd) (fun y=>True) (fun y=> .agg #[y.1.b,y.1.l,y.2.b,y.2.l]) (fun y=>[]) (fun y=>[qF true y.1 y.2 ((z:Int):Rat)]):=by
 refine zp Tryz.func93 rfl rfl rfl (fun c=> ?_)
 show RunC _ _ _ _ _ [(0,ya yb z)] [] []
 refine ze<|za<|zP rfl rfl (zu zr43 rfl) (fun b1=> ?_)
 refine zh<|zd<|ze<|za<|e_mv rfl<|zL rfl rfl (.c rfl .n) ce84 (zxf (z:=z) (hz:=ass)) (.n) ?_
 rintro w32 -
 dsimp only [aq,nq,cq]
 refine zL rfl rfl (.c rfl .n) ce84 (zxf (z:=1) (hz:=by first|rfl|assumption|omega|(rw [yp];omega)|(decide +kernel))) (.n) ?_
 rintro w33 -
 dsimp only [aq,nq,cq]
 refine e_p (zN zr43 rfl yh (.c sz41 (.c sz41 .n)) (.c rfl (.c rfl .n)) (.c rfl rfl rfl (.t2 .nil) (.c rfl rfl rfl (.s2 (.t2 .nil)) .n)))<|zq 0 rfl rfl rfl rfl rfl sz43 rfl (.t4 .nil) .z<|zh<|zd<|zJ<|zNb (qF true w32 w33 ((z:Int):Rat)) (qF_close 1 0 rfl rfl (by exact ⟨(Rat.num_intCast z).symm,by rw [Rat.den_intCast];rfl,Nat.le_trans (Big.hq_64 hz.1 hz.2) dd⟩)) ?_
 exact zx Tryz.results93 (w32,w33) trivial (zC 0 ty43 rfl rfl (.t4 .nil)) rfl (ho:=(.n:PickO _ _ _)) ((.c (j:=0) rfl .n):SelR _ _ _)
theorem zQe {s:Bool} {p1:Option Addr} {n1:Nat} {c1:Nat} {l1:List Int} {t:Bool} {p2:Option Addr} {n2:Nat} {c2:Nat} {l2:List Int} (hn1:l1.length=n1) (hn2:l2.length=n2) (hm1:n1≤1048576) (hm2:n2≤1048576):Con yk 98 [.agg #[.bool s,.slice p1 n1 c1,.bool t,.slice p2 n2 c2]] [] [slF (rI .u32) p1 c1 l1,slF (rI .u32) p2 c2 l2] (Y:=Wd×Wd) (fun y=>True) (fun y=> .agg #[y.1.b,y.1.l,y.2.b,y.2.l]) (fun y=>[]) (fun y=>[qF true y.1 y.2 (yK ((s,l1),(t,l2)))]):=by
 refine zp Tryz.func98 rfl rfl rfl (fun c=> ?_)
 show RunC _ _ _ _ _ [(0,.agg #[.bool s,.slice p1 n1 c1,.bool t,.slice p2 n2 c2])] [] [slF (rI .u32) p1 c1 l1,slF (rI .u32) p2 c2 l2]
 refine zfa 0 rfl (fun hL0=> ?_)
 refine zWa 0 rfl (fun hE0=> ?_)
 refine zfa 1 rfl (fun hL1=> ?_)
 refine zWa 1 rfl (fun hE1=> ?_)
 have hnn1:yF l1:=fun g hg=>(zH.1 (hE0 g hg)).1
 have hnn2:yF l2:=fun g hg=>(zH.1 (hE1 g hg)).1
 have hb1:yq (ye s l1)≤n1:=by have:=yC (s:=s) hnn1;omega
 have hb2:yq (ye t l2)≤n2:=by have:=yC (s:=t) hnn2;omega
 refine ze<|za<|zP rfl rfl (zV rfl rfl) (fun b1=> ?_)
 refine zP rfl rfl (zu zr43 rfl) (fun b2=> ?_)
 refine zh<|zd<|ze<|ze<|za<|e_ru (zc 1 ty43 rfl rfl (.t4 .nil))<|zO rfl rfl (.c rfl .n) ce124 (zOe (s:=s) (p1:=p1) (n1:=n1) (c1:=c1) (l1:=l1) (t:=t) (p2:=p2) (n2:=n2) (c2:=c2) (l2:=l2) (hn1:=ass) (hn2:=ass) (hm1:=ass) (hm2:=ass)) (.c (j:=0) rfl (.c (j:=1) rfl .n))<|zh<|zd<|zB rfl (fun hq=> ?_) (fun hq=> ?_)
 ·
  have hrp:=Big.raw_parts (x:=((s,l1),(t,l2))) hnn1 hnn2 hq
  have hqp:=Big.qv_parts (x:=((s,l1),(t,l2))) hq
  have hl:yH (yK ((s,l1),(t,l2)))≤1048576:=by unfold yH;rw [hqp.1,hqp.2];dsimp only;omega
  refine ze<|za<|e_ru (zc 1 ty43 rfl rfl (.t4 .nil))<|zL rfl rfl (.c rfl .n) ce125 (zge (s:=s) (p1:=p1) (n1:=n1) (c1:=c1) (l1:=l1) (t:=t) (p2:=p2) (n2:=n2) (c2:=c2) (l2:=l2) (hn1:=ass) (hn2:=ass) (hm1:=ass) (hm2:=ass) (hq:=by first|rfl|assumption|omega|(rw [yp];omega)|(decide +kernel)) (hl:=by first|rfl|assumption|omega|(rw [yp];omega)|(decide +kernel))) (.c (j:=0) rfl (.c (j:=1) rfl .n)) ?_
  rintro ⟨w33,w44⟩ -
  dsimp only [aq,nq,cq]
  refine zq 0 rfl rfl rfl rfl rfl sz43 rfl (.t4 .nil) .z<|zh<|zd<|zJ<|zi ?_
  exact zx Tryz.results98 (w33,w44) trivial (zC 0 ty43 rfl rfl (.t4 .nil)) rfl (ho:=(.n:PickO _ _ _)) ((.c (j:=0) rfl .n):SelR _ _ _)
 ·
  have hz:=Big.qv_not (x:=((s,l1),(t,l2))) hq
  refine zt<|zd<|ze<|za<|zL rfl rfl (.c rfl .n) ce93 (zXc (z:=0) (hz:=by first|rfl|assumption|omega|(rw [yp];omega)|(decide +kernel))) (.n) ?_
  rintro ⟨w35,w46⟩ -
  dsimp only [aq,nq,cq]
  refine zq 0 rfl rfl rfl rfl rfl sz43 rfl (.t4 .nil) .z<|zh<|zd<|zJ ?_
  exact zx Tryz.results98 (w35,w46) trivial (zC 0 ty43 rfl rfl (.t4 .nil)) rfl (ho:=(.n:PickO _ _ _)) ((.e (j:=0) rfl (by rw [hz];rfl) .n):SelR _ _ _)
theorem zMa {k1:Bool} {u1:Wd} {v1:Wd} {q1:Rat}:Con yk 98 [.agg #[u1.b,u1.l,v1.b,v1.l]] [] [qF k1 u1 v1 (q1)] (Y:=(Wd)×(Wd)) (fun y=>True) (fun y=> .agg #[y.1.b,y.1.l,y.2.b,y.2.l]) (fun y=>[]) (fun y=>[qF true y.1 y.2 (q1)]):=by
  exact zof (fun x hx hk h1 h2 hl=>by subst hx;exact zQe rfl rfl h1 h2)
theorem zQb {k1:Bool} {u1:Wd} {v1:Wd} {q1:Rat}:Con yk 97 [.agg #[u1.b,u1.l,v1.b,v1.l]] [] [qF k1 u1 v1 q1] (Y:=Unit) (fun y=>True) (fun y=> ya yb (Big.sgq q1)) (fun y=>[]) (fun y=>[]):=by
 refine zp Tryz.func97 rfl rfl rfl (fun c=> ?_)
 show RunC _ _ _ _ _ [(0,.agg #[u1.b,u1.l,v1.b,v1.l])] [] [qF k1 u1 v1 q1]
 refine ze<|za<|zP rfl rfl (zV rfl rfl) (fun b1=> ?_)
 refine e_p (zb rfl)<|zh<|zd<|ze<|za<|e_ru (zc 0 ty43 rfl rfl (.t4 .nil))<|zL rfl rfl (.c rfl .n) ce98 (zMa (k1:=k1) (u1:=u1) (v1:=v1) (q1:=q1)) (.c (j:=0) rfl .n) ?_
 rintro ⟨w32,w43⟩ -
 dsimp only [aq,nq,cq]
 refine e_p (zBc yh rfl ty41 rfl (.t2 .nil))<|zAc (qF_open 0 rfl) (fun _ _=> ?_)
 refine zO rfl rfl (.c rfl .n) ce120 (zWc (w1:=w32) (x1:=(q1).num)) (.c (j:=0) rfl .n)<|e_p (zb rfl)<|zh<|zd<|zJ ?_
 exact zx Tryz.results97 () trivial (zn rfl) rfl (ho:=(.n:PickO _ _ _)) (.n:SelR _ _ _)
theorem zdg {k1:Bool} {u1:Wd} {v1:Wd} {q1:Rat} (hl:yH q1≤1048576):Con yk 126 [.agg #[u1.b,u1.l,v1.b,v1.l]] [] [qF k1 u1 v1 q1] (Y:=Wd×Wd) (fun y=>True) (fun y=> .agg #[y.1.b,y.1.l,y.2.b,y.2.l]) (fun y=>[]) (fun y=>[qF true y.1 y.2 (- q1)]):=by
 refine zp Tryz.func126 rfl rfl rfl (fun c=> ?_)
 show RunC _ _ _ _ _ [(0,.agg #[u1.b,u1.l,v1.b,v1.l])] [] [qF k1 u1 v1 q1]
 have a1:=yy q1
 have a2:=yz q1
 refine ze<|za<|zP rfl rfl (zV rfl rfl) (fun b1=> ?_)
 refine zP rfl rfl (zu zr43 rfl) (fun b2=> ?_)
 refine zh<|zd<|ze<|za<|e_ru (zc 1 ty43 rfl rfl (.t4 .nil))<|zL rfl rfl (.c rfl .n) ce98 (zMa (k1:=k1) (u1:=u1) (v1:=v1) (q1:=q1)) (.c (j:=0) rfl .n) ?_
 rintro ⟨w33,w44⟩ -
 dsimp only [aq,nq,cq]
 refine zq 1 rfl rfl rfl rfl rfl sz43 rfl (.t4 .nil) (.s .z)<|zh<|zd<|ze<|zZ (OW:=[boxA b2 43 (cw [wz,wz])]) (O:=[boxA b1 43 (cw [w33,w44])]) 6 mixed (.then .ret) kr<|e_pv 0 rfl rfl (zg yh rfl sz41 rfl rfl)<|e_uw 1 rfl rfl (zc 1 ty41 rfl rfl (.t2 .nil))<|e_pv 3 rfl rfl (zg yh rfl sz41 rfl rfl)<|e_uw 4 rfl rfl (zc 1 ty41 rfl rfl (.s2 (.t2 .nil)))<|zIb (qF_open 0 rfl) (fun _ _=> ?_)
 refine e_one 2 (zE rfl rfl rfl rfl (.c rfl .n) ce139 (ztd (w1:=w33) (x1:=(q1).num) (hln:=by first|rfl|assumption|omega|(rw [yp];omega)|(decide +kernel))) (.c (j:=0) rfl .n) ?_)
 rintro w35 -
 dsimp only [aq,nq,cq]
 refine e_pv 5 rfl rfl (zN zr43 rfl yh (.c sz41 (.c sz41 .n)) (.c rfl (.c rfl .n)) (.c rfl rfl rfl (.t2 .nil) (.c rfl rfl rfl (.s2 (.t2 .nil)) .n)))<|e_one 6 (zA kr rfl rfl rfl rfl rfl sz43 rfl (.t4 .nil) ?_)
 refine zX kr<|zd<|zJ<|zNb (qF true w35 w44 (- q1)) (qF_close 0 2 rfl rfl (by exact ⟨(Rat.neg_num q1).symm,by rw [Rat.neg_den],by rw [Big.hq_neg];exact hl⟩)) ?_
 exact zx Tryz.results126 (w35,w44) trivial (zC 0 ty43 rfl rfl (.t4 .nil)) rfl (ho:=(.n:PickO _ _ _)) ((.c (j:=0) rfl .n):SelR _ _ _)
theorem zpc {k1:Bool} {u1:Wd} {v1:Wd} {q1:Rat} {k2:Bool} {u2:Wd} {v2:Wd} {q2:Rat} (hl:yH q1+yH q2+1≤1048576):Con yk 101 [.agg #[u1.b,u1.l,v1.b,v1.l],.agg #[u2.b,u2.l,v2.b,v2.l]] [] [qF k1 u1 v1 q1,qF k2 u2 v2 q2] (Y:=Wd×Wd) (fun y=>True) (fun y=> .agg #[y.1.b,y.1.l,y.2.b,y.2.l]) (fun y=>[]) (fun y=>[qF true y.1 y.2 (q1+q2)]):=by
 refine zp Tryz.func101 rfl rfl rfl (fun c=> ?_)
 show RunC _ _ _ _ _ [(0,.agg #[u1.b,u1.l,v1.b,v1.l]),(1,.agg #[u2.b,u2.l,v2.b,v2.l])] [] [qF k1 u1 v1 q1,qF k2 u2 v2 q2]
 have a1:=yy q1
 have a2:=yz q1
 have a3:=yy q2
 have a4:=yz q2
 have b1:=yJ q1.num q2.den
 have b2:=yJ q2.num q1.den
 have b3:=Big.zPc (q1.num*q2.den) (q2.num*q1.den)
 have b4:=yJ (q1.den:Int) q2.den
 have b5:=yJ q1.num q2.num
 refine ze<|za<|zP rfl rfl (zV rfl rfl) (fun b1=> ?_)
 refine zP rfl rfl (zV rfl rfl) (fun b2=> ?_)
 refine zP rfl rfl (zu zr43 rfl) (fun b3=> ?_)
 refine zh<|zd<|ze<|zwa (.c (i:=2) rfl (.c (i:=1) rfl (.c (i:=0) rfl .n)))<|zZ (OW:=[boxA b1 43 (cw [u1,v1]),boxA b2 43 (cw [u2,v2])]) (O:=[boxA b3 43 (cw [wz,wz])]) 4 mixed (.then .ret) kr<|e_uw 0 rfl rfl (zc 0 ty43 rfl rfl (.t4 .nil))<|e_uw 2 rfl rfl (zc 1 ty43 rfl rfl (.t4 .nil))<|e_one 1 (zE rfl rfl rfl rfl (.c rfl .n) ce98 (zMa (k1:=k1) (u1:=u1) (v1:=v1) (q1:=q1)) (.c (j:=0) rfl .n) ?_)
 rintro ⟨w34,w45⟩ -
 dsimp only [aq,nq,cq]
 refine e_one 3 (zE rfl rfl rfl rfl (.c rfl .n) ce98 (zMa (k1:=k2) (u1:=u2) (v1:=v2) (q1:=q2)) (.c (j:=2) rfl .n) ?_)
 rintro ⟨w36,w47⟩ -
 dsimp only [aq,nq,cq]
 refine e_one 4 (zA kr rfl rfl rfl rfl rfl sz43 rfl (.t4 .nil) ?_)
 refine zab (zea (i:=1) rfl)<|e_one 5 (zA kr rfl rfl rfl rfl rfl sz43 rfl (.t4 .nil) ?_)
 refine zX kr<|zd<|ze<|zwa (.c (i:=2) rfl (.c (i:=0) rfl (.c (i:=0) rfl .n)))<|zZ (OW:=[boxA b3 43 (cw [wz,wz])]) (O:=[boxA b2 43 (cw [w36,w47]),boxA b1 43 (cw [w34,w45])]) 17 mixed (.then .ret) kr<|e_pv 0 rfl rfl (zg yh rfl sz41 rfl rfl)<|e_uw 1 rfl rfl (zc 2 ty41 rfl rfl (.t2 .nil))<|e_pv 2 rfl rfl (zg yh rfl sz41 rfl rfl)<|e_uw 3 rfl rfl (zc 1 ty41 rfl rfl (.s2 (.t2 .nil)))<|e_pv 5 rfl rfl (zg yh rfl sz41 rfl rfl)<|e_uw 6 rfl rfl (zc 1 ty41 rfl rfl (.t2 .nil))<|e_pv 7 rfl rfl (zg yh rfl sz41 rfl rfl)<|e_uw 8 rfl rfl (zc 2 ty41 rfl rfl (.s2 (.t2 .nil)))<|e_pv 11 rfl rfl (zg yh rfl sz41 rfl rfl)<|e_uw 12 rfl rfl (zc 2 ty41 rfl rfl (.s2 (.t2 .nil)))<|e_pv 13 rfl rfl (zg yh rfl sz41 rfl rfl)<|e_uw 14 rfl rfl (zc 1 ty41 rfl rfl (.s2 (.t2 .nil)))<|zIb (qF_open 1 rfl) (fun _ _=> ?_)
 refine zIb (qF_open 2 rfl) (fun _ _=> ?_)
 refine e_one 4 (zE rfl rfl rfl rfl (.c rfl (.c rfl .n)) ce86 (zCb (w1:=w34) (w2:=w47) (x1:=(q1).num) (x2:=(((q2).den:Nat):Int)) (hb1:=by first|rfl|assumption|omega|(rw [yp];omega)|(decide +kernel)) (hb2:=by first|rfl|assumption|omega|(rw [yp];omega)|(decide +kernel))) (.c (j:=2) rfl (.c (j:=1) rfl .n)) ?_)
 rintro w38 -
 dsimp only [aq,nq,cq]
 refine e_one 9 (zE rfl rfl rfl rfl (.c rfl (.c rfl .n)) ce86 (zCb (w1:=w36) (w2:=w45) (x1:=(q2).num) (x2:=(((q1).den:Nat):Int)) (hb1:=by first|rfl|assumption|omega|(rw [yp];omega)|(decide +kernel)) (hb2:=by first|rfl|assumption|omega|(rw [yp];omega)|(decide +kernel))) (.c (j:=1) rfl (.c (j:=4) rfl .n)) ?_)
 rintro w39 -
 dsimp only [aq,nq,cq]
 refine e_one 10 (zE rfl rfl rfl rfl (.c rfl (.c rfl .n)) ce85 (zZf (w1:=w38) (w2:=w39) (x1:=((q1).num)*(((q2).den:Nat):Int)) (x2:=((q2).num)*(((q1).den:Nat):Int)) (hb1:=by first|rfl|assumption|omega|(rw [yp];omega)|(decide +kernel)) (hb2:=by first|rfl|assumption|omega|(rw [yp];omega)|(decide +kernel))) (.c (j:=1) rfl (.c (j:=0) rfl .n)) ?_)
 rintro w310 -
 dsimp only [aq,nq,cq]
 refine e_one 15 (zE rfl rfl rfl rfl (.c rfl (.c rfl .n)) ce86 (zCb (w1:=w45) (w2:=w47) (x1:=(((q1).den:Nat):Int)) (x2:=(((q2).den:Nat):Int)) (hb1:=by first|rfl|assumption|omega|(rw [yp];omega)|(decide +kernel)) (hb2:=by first|rfl|assumption|omega|(rw [yp];omega)|(decide +kernel))) (.c (j:=6) rfl (.c (j:=4) rfl .n)) ?_)
 rintro w311 -
 dsimp only [aq,nq,cq]
 refine e_one 16 (zE rfl rfl rfl rfl (.c rfl (.c rfl .n)) ce121 (zdc (w1:=w310) (w2:=w311) (x1:=(((q1).num)*(((q2).den:Nat):Int))+(((q2).num)*(((q1).den:Nat):Int))) (x2:=(((q1).den:Nat):Int)*(((q2).den:Nat):Int)) (hl1:=by first|rfl|assumption|omega|(rw [yp];omega)|(decide +kernel)) (hl2:=by first|rfl|assumption|omega|(rw [yp];omega)|(decide +kernel)) (hd:=by exact Int.mul_ne_zero (yL q1) (yL q2))) (.c (j:=1) rfl (.c (j:=0) rfl .n)) ?_)
 rintro ⟨w312,w413⟩ -
 dsimp only [aq,nq,cq]
 refine e_one 17 (zA kr rfl rfl rfl rfl rfl sz43 rfl (.t4 .nil) ?_)
 refine zX kr<|zd<|zJ ?_
 exact zx Tryz.results101 (w312,w413) trivial (zC 0 ty43 rfl rfl (.t4 .nil)) rfl (ho:=(.n:PickO _ _ _)) ((.e (j:=0) rfl (by rw [Big.add_parts]) .n):SelR _ _ _)
theorem zVb {k1:Bool} {u1:Wd} {v1:Wd} {q1:Rat} {k2:Bool} {u2:Wd} {v2:Wd} {q2:Rat} (hl:yH q1+yH q2+1≤1048576):Con yk 102 [.agg #[u1.b,u1.l,v1.b,v1.l],.agg #[u2.b,u2.l,v2.b,v2.l]] [] [qF k1 u1 v1 q1,qF k2 u2 v2 q2] (Y:=Wd×Wd) (fun y=>True) (fun y=> .agg #[y.1.b,y.1.l,y.2.b,y.2.l]) (fun y=>[]) (fun y=>[qF true y.1 y.2 (q1*q2)]):=by
 refine zp Tryz.func102 rfl rfl rfl (fun c=> ?_)
 show RunC _ _ _ _ _ [(0,.agg #[u1.b,u1.l,v1.b,v1.l]),(1,.agg #[u2.b,u2.l,v2.b,v2.l])] [] [qF k1 u1 v1 q1,qF k2 u2 v2 q2]
 have a1:=yy q1
 have a2:=yz q1
 have a3:=yy q2
 have a4:=yz q2
 have b1:=yJ q1.num q2.den
 have b2:=yJ q2.num q1.den
 have b3:=Big.zPc (q1.num*q2.den) (q2.num*q1.den)
 have b4:=yJ (q1.den:Int) q2.den
 have b5:=yJ q1.num q2.num
 refine ze<|za<|zP rfl rfl (zV rfl rfl) (fun b1=> ?_)
 refine zP rfl rfl (zV rfl rfl) (fun b2=> ?_)
 refine zP rfl rfl (zu zr43 rfl) (fun b3=> ?_)
 refine zh<|zd<|ze<|zwa (.c (i:=2) rfl (.c (i:=1) rfl (.c (i:=0) rfl .n)))<|zZ (OW:=[boxA b1 43 (cw [u1,v1]),boxA b2 43 (cw [u2,v2])]) (O:=[boxA b3 43 (cw [wz,wz])]) 4 mixed (.then .ret) kr<|e_uw 0 rfl rfl (zc 0 ty43 rfl rfl (.t4 .nil))<|e_uw 2 rfl rfl (zc 1 ty43 rfl rfl (.t4 .nil))<|e_one 1 (zE rfl rfl rfl rfl (.c rfl .n) ce98 (zMa (k1:=k1) (u1:=u1) (v1:=v1) (q1:=q1)) (.c (j:=0) rfl .n) ?_)
 rintro ⟨w34,w45⟩ -
 dsimp only [aq,nq,cq]
 refine e_one 3 (zE rfl rfl rfl rfl (.c rfl .n) ce98 (zMa (k1:=k2) (u1:=u2) (v1:=v2) (q1:=q2)) (.c (j:=2) rfl .n) ?_)
 rintro ⟨w36,w47⟩ -
 dsimp only [aq,nq,cq]
 refine e_one 4 (zA kr rfl rfl rfl rfl rfl sz43 rfl (.t4 .nil) ?_)
 refine zab (zea (i:=1) rfl)<|e_one 5 (zA kr rfl rfl rfl rfl rfl sz43 rfl (.t4 .nil) ?_)
 refine zX kr<|zd<|ze<|zwa (.c (i:=2) rfl (.c (i:=0) rfl (.c (i:=0) rfl .n)))<|zZ (OW:=[boxA b3 43 (cw [wz,wz])]) (O:=[boxA b2 43 (cw [w36,w47]),boxA b1 43 (cw [w34,w45])]) 11 mixed (.then .ret) kr<|e_pv 0 rfl rfl (zg yh rfl sz41 rfl rfl)<|e_uw 1 rfl rfl (zc 2 ty41 rfl rfl (.t2 .nil))<|e_pv 2 rfl rfl (zg yh rfl sz41 rfl rfl)<|e_uw 3 rfl rfl (zc 1 ty41 rfl rfl (.t2 .nil))<|e_pv 5 rfl rfl (zg yh rfl sz41 rfl rfl)<|e_uw 6 rfl rfl (zc 2 ty41 rfl rfl (.s2 (.t2 .nil)))<|e_pv 7 rfl rfl (zg yh rfl sz41 rfl rfl)<|e_uw 8 rfl rfl (zc 1 ty41 rfl rfl (.s2 (.t2 .nil)))<|zIb (qF_open 1 rfl) (fun _ _=> ?_)
 refine zIb (qF_open 2 rfl) (fun _ _=> ?_)
 refine e_one 4 (zE rfl rfl rfl rfl (.c rfl (.c rfl .n)) ce86 (zCb (w1:=w34) (w2:=w36) (x1:=(q1).num) (x2:=(q2).num) (hb1:=by first|rfl|assumption|omega|(rw [yp];omega)|(decide +kernel)) (hb2:=by first|rfl|assumption|omega|(rw [yp];omega)|(decide +kernel))) (.c (j:=2) rfl (.c (j:=0) rfl .n)) ?_)
 rintro w38 -
 dsimp only [aq,nq,cq]
 refine e_one 9 (zE rfl rfl rfl rfl (.c rfl (.c rfl .n)) ce86 (zCb (w1:=w45) (w2:=w47) (x1:=(((q1).den:Nat):Int)) (x2:=(((q2).den:Nat):Int)) (hb1:=by first|rfl|assumption|omega|(rw [yp];omega)|(decide +kernel)) (hb2:=by first|rfl|assumption|omega|(rw [yp];omega)|(decide +kernel))) (.c (j:=4) rfl (.c (j:=2) rfl .n)) ?_)
 rintro w39 -
 dsimp only [aq,nq,cq]
 refine e_one 10 (zE rfl rfl rfl rfl (.c rfl (.c rfl .n)) ce121 (zdc (w1:=w38) (w2:=w39) (x1:=((q1).num)*((q2).num)) (x2:=(((q1).den:Nat):Int)*(((q2).den:Nat):Int)) (hl1:=by first|rfl|assumption|omega|(rw [yp];omega)|(decide +kernel)) (hl2:=by first|rfl|assumption|omega|(rw [yp];omega)|(decide +kernel)) (hd:=by exact Int.mul_ne_zero (yL q1) (yL q2))) (.c (j:=1) rfl (.c (j:=0) rfl .n)) ?_)
 rintro ⟨w310,w411⟩ -
 dsimp only [aq,nq,cq]
 refine e_one 11 (zA kr rfl rfl rfl rfl rfl sz43 rfl (.t4 .nil) ?_)
 refine zX kr<|zd<|zJ ?_
 exact zx Tryz.results102 (w310,w411) trivial (zC 0 ty43 rfl rfl (.t4 .nil)) rfl (ho:=(.n:PickO _ _ _)) ((.e (j:=0) rfl (by rw [Big.mul_parts]) .n):SelR _ _ _)
theorem zEb {k1:Bool} {u1:Wd} {v1:Wd} {q1:Rat} {k2:Bool} {u2:Wd} {v2:Wd} {q2:Rat} (hl:yH q1+yH q2+1≤1048576):Con yk 100 [.agg #[u1.b,u1.l,v1.b,v1.l],.agg #[u2.b,u2.l,v2.b,v2.l]] [] [qF k1 u1 v1 q1,qF k2 u2 v2 q2] (Y:=Wd×Wd) (fun y=>True) (fun y=> .agg #[y.1.b,y.1.l,y.2.b,y.2.l]) (fun y=>[]) (fun y=>[qF true y.1 y.2 (q1 - q2)]):=by
 refine zp Tryz.func100 rfl rfl rfl (fun c=> ?_)
 show RunC _ _ _ _ _ [(0,.agg #[u1.b,u1.l,v1.b,v1.l]),(1,.agg #[u2.b,u2.l,v2.b,v2.l])] [] [qF k1 u1 v1 q1,qF k2 u2 v2 q2]
 have a1:=yy q1
 have a2:=yz q1
 have a3:=yy q2
 have a4:=yz q2
 refine ze<|za<|zP rfl rfl (zV rfl rfl) (fun b1=> ?_)
 refine zP rfl rfl (zV rfl rfl) (fun b2=> ?_)
 refine zP rfl rfl (zu zr43 rfl) (fun b3=> ?_)
 refine zh<|zd<|ze<|zZ (OW:=[boxA b3 43 (cw [wz,wz])]) (O:=[boxA b2 43 (cw [u2,v2]),boxA b1 43 (cw [u1,v1])]) 4 mixed (.then .ret) kr<|e_uw 0 rfl rfl (zc 2 ty43 rfl rfl (.t4 .nil))<|e_uw 1 rfl rfl (zc 1 ty43 rfl rfl (.t4 .nil))<|e_one 2 (zE rfl rfl rfl rfl (.c rfl .n) ce126 (zdg (k1:=k2) (u1:=u2) (v1:=v2) (q1:=q2) (hl:=by first|rfl|assumption|omega|(rw [yp];omega)|(decide +kernel)|(rw [Big.hq_neg];omega))) (.c (j:=1) rfl .n) ?_)
 rintro ⟨w34,w45⟩ -
 dsimp only [aq,nq,cq]
 refine e_one 3 (zE rfl rfl rfl rfl (.c rfl (.c rfl .n)) ce101 (zpc (k1:=k1) (u1:=u1) (v1:=v1) (q1:=q1) (k2:=true) (u2:=w34) (v2:=w45) (q2:= - q2) (hl:=by first|rfl|assumption|omega|(rw [yp];omega)|(decide +kernel)|(rw [Big.hq_neg];omega))) (.c (j:=1) rfl (.c (j:=0) rfl .n)) ?_)
 rintro ⟨w36,w47⟩ -
 dsimp only [aq,nq,cq]
 refine e_one 4 (zA kr rfl rfl rfl rfl rfl sz43 rfl (.t4 .nil) ?_)
 refine zX kr<|zd<|zJ ?_
 exact zx Tryz.results100 (w36,w47) trivial (zC 0 ty43 rfl rfl (.t4 .nil)) rfl (ho:=(.n:PickO _ _ _)) ((.e (j:=0) rfl (by rw [Rat.sub_eq_add_neg]) .n):SelR _ _ _)
theorem zhe {k1:Bool} {u1:Wd} {v1:Wd} {q1:Rat} {k2:Bool} {u2:Wd} {v2:Wd} {q2:Rat} (hl:yH q1+yH q2+1≤1048576):Con yk 99 [.agg #[u1.b,u1.l,v1.b,v1.l],.agg #[u2.b,u2.l,v2.b,v2.l]] [] [qF k1 u1 v1 q1,qF k2 u2 v2 q2] (Y:=Wd×Wd) (fun y=>True) (fun y=> .tuple #[.agg #[y.1.b,y.1.l,y.2.b,y.2.l],ya yb (if q2=0 then 14 else 0)]) (fun y=>[]) (fun y=>[qF (decide (q2≠0)) y.1 y.2 (q1 / q2)]):=by
 refine zp Tryz.func99 rfl rfl rfl (fun c=> ?_)
 show RunC _ _ _ _ _ [(0,.agg #[u1.b,u1.l,v1.b,v1.l]),(1,.agg #[u2.b,u2.l,v2.b,v2.l])] [] [qF k1 u1 v1 q1,qF k2 u2 v2 q2]
 have a1:=yy q1
 have a2:=yz q1
 have a3:=yy q2
 have a4:=yz q2
 have b1:=yJ q1.num q2.den
 have b2:=yJ (q1.den:Int) q2.num
 refine ze<|za<|zP rfl rfl (zV rfl rfl) (fun b1=> ?_)
 refine zP rfl rfl (zV rfl rfl) (fun b2=> ?_)
 refine zP rfl rfl (zu zr43 rfl) (fun b3=> ?_)
 refine e_p (zb rfl)<|zh<|zd<|ze<|zwa (.c (i:=2) rfl (.c (i:=1) rfl (.c (i:=0) rfl .n)))<|zZ (OW:=[boxA b1 43 (cw [u1,v1]),boxA b2 43 (cw [u2,v2])]) (O:=[boxA b3 43 (cw [wz,wz])]) 4 mixed (.then .ret) kr<|e_uw 0 rfl rfl (zc 0 ty43 rfl rfl (.t4 .nil))<|e_uw 2 rfl rfl (zc 1 ty43 rfl rfl (.t4 .nil))<|e_one 1 (zE rfl rfl rfl rfl (.c rfl .n) ce98 (zMa (k1:=k1) (u1:=u1) (v1:=v1) (q1:=q1)) (.c (j:=0) rfl .n) ?_)
 rintro ⟨w34,w45⟩ -
 dsimp only [aq,nq,cq]
 refine e_one 3 (zE rfl rfl rfl rfl (.c rfl .n) ce98 (zMa (k1:=k2) (u1:=u2) (v1:=v2) (q1:=q2)) (.c (j:=2) rfl .n) ?_)
 rintro ⟨w36,w47⟩ -
 dsimp only [aq,nq,cq]
 refine e_one 4 (zA kr rfl rfl rfl rfl rfl sz43 rfl (.t4 .nil) ?_)
 refine zab (zea (i:=1) rfl)<|e_one 5 (zA kr rfl rfl rfl rfl rfl sz43 rfl (.t4 .nil) ?_)
 refine zX kr<|zd<|ze<|ze<|za<|e_p (zg yh rfl sz41 rfl rfl)<|e_ru (zc 0 ty41 rfl rfl (.t2 .nil))<|zAc (qF_open 0 rfl) (fun _ _=> ?_)
 refine zO rfl rfl (.c rfl .n) ce120 (zWc (w1:=w36) (x1:=(q2).num)) (.c (j:=0) rfl .n)<|e_p (zsa rfl rfl)<|zh<|zd<|zB rfl (fun hz0=> ?_) (fun hz0=> ?_)
 ·
  have hx0:q2=0:=Rat.num_eq_zero.1 (Big.sign_zero.1 hz0)
  refine ze<|za<|e_p (zN zr43 rfl yh (.c sz41 (.c sz41 .n)) .n .n)<|zq 2 rfl rfl rfl rfl rfl sz43 rfl (.t4 .nil) (.s (.s .z))<|e_p (zb rfl)<|zh<|zd<|zJ<|zi<|zNb (qF false wz wz 0) (fun g _=>qF_none g) ?_
  exact zEa Tryz.results99 (wz,wz) trivial (zC 2 ty43 rfl rfl (.t4 .nil)) (zn rfl) (by rw [if_pos hx0];rfl) (ho:=(.n:PickO _ _ _)) ((.e (j:=0) rfl (by rw [Big.div_nil hx0,decide_eq_false (not_not_intro hx0)]) .n):SelR _ _ _)
 ·
  have hx1:q2.num≠0:=fun e=>hz0 (Big.sign_zero.2 e)
  have hx0:q2≠0:=fun e=>hx1 (Rat.num_eq_zero.2 e)
  refine zt<|zd<|ze<|zwa (.c (i:=2) rfl (.c (i:=0) rfl (.c (i:=0) rfl .n)))<|zZ (OW:=[boxA b3 43 (cw [wz,wz])]) (O:=[boxA b2 43 (cw [w36,w47]),boxA b1 43 (cw [w34,w45])]) 11 mixed (.then .ret) kr<|e_pv 0 rfl rfl (zg yh rfl sz41 rfl rfl)<|e_uw 1 rfl rfl (zc 2 ty41 rfl rfl (.t2 .nil))<|e_pv 2 rfl rfl (zg yh rfl sz41 rfl rfl)<|e_uw 3 rfl rfl (zc 1 ty41 rfl rfl (.s2 (.t2 .nil)))<|e_pv 5 rfl rfl (zg yh rfl sz41 rfl rfl)<|e_uw 6 rfl rfl (zc 2 ty41 rfl rfl (.s2 (.t2 .nil)))<|e_pv 7 rfl rfl (zg yh rfl sz41 rfl rfl)<|e_uw 8 rfl rfl (zc 1 ty41 rfl rfl (.t2 .nil))<|zIb (qF_open 3 rfl) (fun _ _=> ?_)
  refine e_one 4 (zE rfl rfl rfl rfl (.c rfl (.c rfl .n)) ce86 (zCb (w1:=w34) (w2:=w47) (x1:=(q1).num) (x2:=(((q2).den:Nat):Int)) (hb1:=by first|rfl|assumption|omega|(rw [yp];omega)|(decide +kernel)) (hb2:=by first|rfl|assumption|omega|(rw [yp];omega)|(decide +kernel))) (.c (j:=0) rfl (.c (j:=3) rfl .n)) ?_)
  rintro w38 -
  dsimp only [aq,nq,cq]
  refine e_one 9 (zE rfl rfl rfl rfl (.c rfl (.c rfl .n)) ce86 (zCb (w1:=w45) (w2:=w36) (x1:=(((q1).den:Nat):Int)) (x2:=(q2).num) (hb1:=by first|rfl|assumption|omega|(rw [yp];omega)|(decide +kernel)) (hb2:=by first|rfl|assumption|omega|(rw [yp];omega)|(decide +kernel))) (.c (j:=2) rfl (.c (j:=3) rfl .n)) ?_)
  rintro w39 -
  dsimp only [aq,nq,cq]
  refine e_one 10 (zE rfl rfl rfl rfl (.c rfl (.c rfl .n)) ce121 (zdc (w1:=w38) (w2:=w39) (x1:=((q1).num)*(((q2).den:Nat):Int)) (x2:=(((q1).den:Nat):Int)*((q2).num)) (hl1:=by first|rfl|assumption|omega|(rw [yp];omega)|(decide +kernel)) (hl2:=by first|rfl|assumption|omega|(rw [yp];omega)|(decide +kernel)) (hd:=by exact Int.mul_ne_zero (yL q1) hx1)) (.c (j:=1) rfl (.c (j:=0) rfl .n)) ?_)
  rintro ⟨w310,w411⟩ -
  dsimp only [aq,nq,cq]
  refine e_one 11 (zA kr rfl rfl rfl rfl rfl sz43 rfl (.t4 .nil) ?_)
  refine e_pv 12 rfl rfl (zb rfl)<|zX kr<|zd<|zJ ?_
  exact zEa Tryz.results99 (w310,w411) trivial (zC 0 ty43 rfl rfl (.t4 .nil)) (zn rfl) (by rw [if_neg hx0]) (ho:=(.n:PickO _ _ _)) ((.e (j:=0) rfl (by rw [decide_eq_true hx0,Big.div_parts hx1]) .n):SelR _ _ _)
theorem zob {k1:Bool} {u1:Wd} {v1:Wd} {q1:Rat} {k2:Bool} {u2:Wd} {v2:Wd} {q2:Rat} (hl:yH q1+yH q2+1≤1048576) (hy:q2≠0):Con yk 99 [.agg #[u1.b,u1.l,v1.b,v1.l],.agg #[u2.b,u2.l,v2.b,v2.l]] [] [qF k1 u1 v1 (q1),qF k2 u2 v2 (q2)] (Y:=(Wd)×(Wd)) (fun y=>True) (fun y=> .tuple #[.agg #[y.1.b,y.1.l,y.2.b,y.2.l],ya yb (0)]) (fun y=>[]) (fun y=>[qF true y.1 y.2 (q1 / q2)]):=by
  have h:= @zhe k1 u1 v1 q1 k2 u2 v2 q2 hl
  rw [if_neg hy,decide_eq_true hy] at h
  exact h
end Go.Proofs.YtjcpbhlijoigfaaGreat.Sp
namespace Go.Proofs.YtjcpbhlijoigfaaGreat.Sp
open Go
set_option linter.unusedVariables false
set_option maxRecDepth 100000
set_option maxHeartbeats 8000000
theorem zhb {ex:Int} {ey:Int} (hwex: -9223372036854775808≤ex∧ex≤9223372036854775807) (hwey: -9223372036854775808≤ey∧ey≤9223372036854775807):Con yk 56 [.int .i64 ex,.int .i64 ey] [] [] (Y:=Wd×Wd×Wd×Wd) (fun y=>True) (fun y=> .agg #[y.1.b,y.1.l,y.2.1.b,y.2.1.l,y.2.2.1.b,y.2.2.1.l,y.2.2.2.b,y.2.2.2.l]) (fun y=>[]) (fun y=>[qF true y.1 y.2.1 ((Pg.pq ex ey).1),qF true y.2.2.1 y.2.2.2 ((Pg.pq ex ey).2)]):=by
 refine zp Tryz.func56 rfl rfl rfl (fun c=> ?_)
 show RunC _ _ _ _ _ [(0,.int .i64 ex),(1,.int .i64 ey)] [] []
 refine ze<|za<|zP rfl rfl (zu zr69 rfl) (fun b1=> ?_)
 refine zh<|zd<|ze<|za<|e_mv rfl<|zL rfl rfl (.c rfl .n) ce93 (zXc (z:=ex) (hz:=ass)) (.n) ?_
 rintro ⟨w32,w43⟩ -
 dsimp only [aq,nq,cq]
 refine e_mv rfl<|zL rfl rfl (.c rfl .n) ce93 (zXc (z:=ey) (hz:=ass)) (.n) ?_
 rintro ⟨w34,w45⟩ -
 dsimp only [aq,nq,cq]
 refine e_p (zN zr69 rfl yj (.c sz43 (.c sz43 .n)) (.c rfl (.c rfl .n)) (.c rfl rfl rfl (.t4 .nil) (.c rfl rfl rfl (.s4 (.t4 .nil)) .n)))<|zq 0 rfl rfl rfl rfl rfl sz69 rfl (.t8 .nil) .z<|zh<|zd<|zJ ?_
 exact zx Tryz.results56 (w32,w43,w34,w45) trivial (zC 0 ty69 rfl rfl (.t8 .nil)) rfl (ho:=(.n:PickO _ _ _)) ((.e (j:=1) rfl (by first|rfl|exact id) (.e (j:=0) rfl (by first|rfl|exact id) .n)):SelR _ _ _)
theorem zie {wa0:Wd} {wa1:Wd} {wa2:Wd} {wa3:Wd} {qa:Pg.Q2} {wb0:Wd} {wb1:Wd} {wb2:Wd} {wb3:Wd} {qb:Pg.Q2} {K:Nat} {K2:Nat} (hpa:Pg.hp K qa) (hpb:Pg.hp K2 qb) (hK:2*(K+K2)+1≤1000000):Con yk 95 [.agg #[wa0.b,wa0.l,wa1.b,wa1.l,wa2.b,wa2.l,wa3.b,wa3.l],.agg #[wb0.b,wb0.l,wb1.b,wb1.l,wb2.b,wb2.l,wb3.b,wb3.l]] [] [qF true wa0 wa1 (qa.1),qF true wa2 wa3 (qa.2),qF true wb0 wb1 (qb.1),qF true wb2 wb3 (qb.2)] (Y:=Wd×Wd) (fun y=>True) (fun y=> .agg #[y.1.b,y.1.l,y.2.b,y.2.l]) (fun y=>[]) (fun y=>[qF true y.1 y.2 (Pg.prq qa qb)]):=by
 refine zp Tryz.func95 rfl rfl rfl (fun c=> ?_)
 show RunC _ _ _ _ _ [(0,.agg #[wa0.b,wa0.l,wa1.b,wa1.l,wa2.b,wa2.l,wa3.b,wa3.l]),(1,.agg #[wb0.b,wb0.l,wb1.b,wb1.l,wb2.b,wb2.l,wb3.b,wb3.l])] [] [qF true wa0 wa1 (qa.1),qF true wa2 wa3 (qa.2),qF true wb0 wb1 (qb.1),qF true wb2 wb3 (qb.2)]
 obtain ⟨hb1,hb2,hb3⟩:=Pg.pb hpa hpb
 obtain ⟨ha1,ha2⟩:=id hpa
 obtain ⟨ha3,ha4⟩:=id hpb
 refine ze<|za<|zP rfl rfl (zV rfl rfl) (fun b1=> ?_)
 refine zP rfl rfl (zV rfl rfl) (fun b2=> ?_)
 refine zP rfl rfl (zu zr43 rfl) (fun b3=> ?_)
 refine zh<|zd<|ze<|zZ (OW:=[boxA b3 43 (cw [wz,wz])]) (O:=[boxA b2 69 (cw [wb0,wb1,wb2,wb3]),boxA b1 69 (cw [wa0,wa1,wa2,wa3])]) 11 mixed (.then .ret) kr<|e_pv 0 rfl rfl (zg yj rfl sz43 rfl rfl)<|e_uw 1 rfl rfl (zc 2 ty43 rfl rfl (.t4 .nil))<|e_pv 2 rfl rfl (zg yj rfl sz43 rfl rfl)<|e_uw 3 rfl rfl (zc 1 ty43 rfl rfl (.s4 (.t4 .nil)))<|e_pv 5 rfl rfl (zg yj rfl sz43 rfl rfl)<|e_uw 6 rfl rfl (zc 1 ty43 rfl rfl (.t4 .nil))<|e_pv 7 rfl rfl (zg yj rfl sz43 rfl rfl)<|e_uw 8 rfl rfl (zc 2 ty43 rfl rfl (.s4 (.t4 .nil)))<|e_one 4 (zE rfl rfl rfl rfl (.c rfl (.c rfl .n)) ce102 (zVb (k1:=true) (u1:=wa0) (v1:=wa1) (q1:=qa.1) (k2:=true) (u2:=wb2) (v2:=wb3) (q2:=qb.2) (hl:=cbo)) (.c (j:=0) rfl (.c (j:=3) rfl .n)) ?_)
 rintro ⟨w34,w45⟩ -
 dsimp only [aq,nq,cq]
 refine e_one 9 (zE rfl rfl rfl rfl (.c rfl (.c rfl .n)) ce102 (zVb (k1:=true) (u1:=wb0) (v1:=wb1) (q1:=qb.1) (k2:=true) (u2:=wa2) (v2:=wa3) (q2:=qa.2) (hl:=cbo)) (.c (j:=3) rfl (.c (j:=2) rfl .n)) ?_)
 rintro ⟨w36,w47⟩ -
 dsimp only [aq,nq,cq]
 refine e_one 10 (zE rfl rfl rfl rfl (.c rfl (.c rfl .n)) ce100 (zEb (k1:=true) (u1:=w34) (v1:=w45) (q1:=qa.1*qb.2) (k2:=true) (u2:=w36) (v2:=w47) (q2:=qb.1*qa.2) (hl:=cbo)) (.c (j:=1) rfl (.c (j:=0) rfl .n)) ?_)
 rintro ⟨w38,w49⟩ -
 dsimp only [aq,nq,cq]
 refine e_one 11 (zA kr rfl rfl rfl rfl rfl sz43 rfl (.t4 .nil) ?_)
 refine zX kr<|zd<|zJ ?_
 exact zx Tryz.results95 (w38,w49) trivial (zC 0 ty43 rfl rfl (.t4 .nil)) rfl (ho:=(.n:PickO _ _ _)) ((.e (j:=0) rfl (by first|rfl|exact id) .n):SelR _ _ _)
theorem zHc {wa0:Wd} {wa1:Wd} {wa2:Wd} {wa3:Wd} {qa:Pg.Q2} {wb0:Wd} {wb1:Wd} {wb2:Wd} {wb3:Wd} {qb:Pg.Q2} {K:Nat} {K2:Nat} (hpa:Pg.hp K qa) (hpb:Pg.hp K2 qb) (hK:K+K2+1≤1000000):Con yk 96 [.agg #[wa0.b,wa0.l,wa1.b,wa1.l,wa2.b,wa2.l,wa3.b,wa3.l],.agg #[wb0.b,wb0.l,wb1.b,wb1.l,wb2.b,wb2.l,wb3.b,wb3.l]] [] [qF true wa0 wa1 (qa.1),qF true wa2 wa3 (qa.2),qF true wb0 wb1 (qb.1),qF true wb2 wb3 (qb.2)] (Y:=Wd×Wd×Wd×Wd) (fun y=>True) (fun y=> .agg #[y.1.b,y.1.l,y.2.1.b,y.2.1.l,y.2.2.1.b,y.2.2.1.l,y.2.2.2.b,y.2.2.2.l]) (fun y=>[]) (fun y=>[qF true y.1 y.2.1 ((Pg.awq qa qb).1),qF true y.2.2.1 y.2.2.2 ((Pg.awq qa qb).2)]):=by
 refine zp Tryz.func96 rfl rfl rfl (fun c=> ?_)
 show RunC _ _ _ _ _ [(0,.agg #[wa0.b,wa0.l,wa1.b,wa1.l,wa2.b,wa2.l,wa3.b,wa3.l]),(1,.agg #[wb0.b,wb0.l,wb1.b,wb1.l,wb2.b,wb2.l,wb3.b,wb3.l])] [] [qF true wa0 wa1 (qa.1),qF true wa2 wa3 (qa.2),qF true wb0 wb1 (qb.1),qF true wb2 wb3 (qb.2)]
 obtain ⟨ha1,ha2⟩:=id hpa
 obtain ⟨ha3,ha4⟩:=id hpb
 refine ze<|za<|zP rfl rfl (zV rfl rfl) (fun b1=> ?_)
 refine zP rfl rfl (zV rfl rfl) (fun b2=> ?_)
 refine zP rfl rfl (zu zr69 rfl) (fun b3=> ?_)
 refine zh<|zd<|ze<|zZ (OW:=[boxA b3 69 (cw [wz,wz,wz,wz])]) (O:=[boxA b2 69 (cw [wb0,wb1,wb2,wb3]),boxA b1 69 (cw [wa0,wa1,wa2,wa3])]) 11 mixed (.then .ret) kr<|e_pv 0 rfl rfl (zg yj rfl sz43 rfl rfl)<|e_uw 1 rfl rfl (zc 1 ty43 rfl rfl (.t4 .nil))<|e_pv 2 rfl rfl (zg yj rfl sz43 rfl rfl)<|e_uw 3 rfl rfl (zc 2 ty43 rfl rfl (.t4 .nil))<|e_pv 5 rfl rfl (zg yj rfl sz43 rfl rfl)<|e_uw 6 rfl rfl (zc 1 ty43 rfl rfl (.s4 (.t4 .nil)))<|e_pv 7 rfl rfl (zg yj rfl sz43 rfl rfl)<|e_uw 8 rfl rfl (zc 2 ty43 rfl rfl (.s4 (.t4 .nil)))<|e_one 4 (zE rfl rfl rfl rfl (.c rfl (.c rfl .n)) ce100 (zEb (k1:=true) (u1:=wb0) (v1:=wb1) (q1:=qb.1) (k2:=true) (u2:=wa0) (v2:=wa1) (q2:=qa.1) (hl:=cbo)) (.c (j:=2) rfl (.c (j:=0) rfl .n)) ?_)
 rintro ⟨w34,w45⟩ -
 dsimp only [aq,nq,cq]
 refine e_one 9 (zE rfl rfl rfl rfl (.c rfl (.c rfl .n)) ce100 (zEb (k1:=true) (u1:=wb2) (v1:=wb3) (q1:=qb.2) (k2:=true) (u2:=wa2) (v2:=wa3) (q2:=qa.2) (hl:=cbo)) (.c (j:=4) rfl (.c (j:=2) rfl .n)) ?_)
 rintro ⟨w36,w47⟩ -
 dsimp only [aq,nq,cq]
 refine e_pv 10 rfl rfl (zN zr69 rfl yj (.c sz43 (.c sz43 .n)) (.c rfl (.c rfl .n)) (.c rfl rfl rfl (.t4 .nil) (.c rfl rfl rfl (.s4 (.t4 .nil)) .n)))<|e_one 11 (zA kr rfl rfl rfl rfl rfl sz69 rfl (.t8 .nil) ?_)
 refine zX kr<|zd<|zJ ?_
 exact zx Tryz.results96 (w34,w45,w36,w47) trivial (zC 0 ty69 rfl rfl (.t8 .nil)) rfl (ho:=(.n:PickO _ _ _)) ((.e (j:=1) rfl (by first|rfl|exact id) (.e (j:=0) rfl (by first|rfl|exact id) .n)):SelR _ _ _)
theorem zlb {ba:Nat} {bb:Nat} {wa0:Wd} {wa1:Wd} {wa2:Wd} {wa3:Wd} {qa:Pg.Q2} {wb0:Wd} {wb1:Wd} {wb2:Wd} {wb3:Wd} {qb:Pg.Q2} {wd0:Wd} {wd1:Wd} {wd2:Wd} {wd3:Wd} {qd:Pg.Q2} {K:Nat} (hpa:Pg.hp 3 qa) (hpb:Pg.hp 3 qb) (hpd:Pg.hp K qd) (hK:2*K+23≤1000000):Con yk 94 [.agg #[wd0.b,wd0.l,wd1.b,wd1.l,wd2.b,wd2.l,wd3.b,wd3.l],.pointer (some ⟨ba,0,none⟩),.pointer (some ⟨bb,0,none⟩)] [] [atF ba 0 [wa0.b,wa0.l,wa1.b,wa1.l,wa2.b,wa2.l,wa3.b,wa3.l],atF bb 0 [wb0.b,wb0.l,wb1.b,wb1.l,wb2.b,wb2.l,wb3.b,wb3.l],qF true wa0 wa1 (qa.1),qF true wa2 wa3 (qa.2),qF true wb0 wb1 (qb.1),qF true wb2 wb3 (qb.2),qF true wd0 wd1 (qd.1),qF true wd2 wd3 (qd.2)] (Y:=Wd×Wd) (fun y=>True) (fun y=> .agg #[y.1.b,y.1.l,y.2.b,y.2.l]) (fun y=>[]) (fun y=>[qF true y.1 y.2 (Pg.sdq qa qb qd)]):=by
 refine zp Tryz.func94 rfl rfl rfl (fun c=> ?_)
 show RunC _ _ _ _ _ [(0,.agg #[wd0.b,wd0.l,wd1.b,wd1.l,wd2.b,wd2.l,wd3.b,wd3.l]),(1,.pointer (some ⟨ba,0,none⟩)),(2,.pointer (some ⟨bb,0,none⟩))] [] [atF ba 0 [wa0.b,wa0.l,wa1.b,wa1.l,wa2.b,wa2.l,wa3.b,wa3.l],atF bb 0 [wb0.b,wb0.l,wb1.b,wb1.l,wb2.b,wb2.l,wb3.b,wb3.l],qF true wa0 wa1 (qa.1),qF true wa2 wa3 (qa.2),qF true wb0 wb1 (qb.1),qF true wb2 wb3 (qb.2),qF true wd0 wd1 (qd.1),qF true wd2 wd3 (qd.2)]
 refine ze<|za<|zP rfl rfl (zV rfl rfl) (fun b1=> ?_)
 refine zP rfl rfl (zu zr43 rfl) (fun b2=> ?_)
 refine zh<|zd<|ze<|zZ (OW:=[boxA b2 43 (cw [wz,wz])]) (O:=[boxA b1 69 (cw [wd0,wd1,wd2,wd3])]) 7 mixed (.then .ret) kr<|e_u 0 rfl rfl (zG (j:=0) 0 ty69 rfl rfl rfl (.t8 .nil))<|e_u 1 rfl rfl (zG (j:=0) 1 ty69 rfl rfl rfl (.t8 .nil))<|e_u 3 rfl rfl (zG (j:=0) 0 ty69 rfl rfl rfl (.t8 .nil))<|e_uw 4 rfl rfl (zc 1 ty69 rfl rfl (.t8 .nil))<|e_one 2 (zE rfl rfl rfl rfl (.c rfl (.c rfl .n)) ce96 (zHc (wa0:=wa0) (wa1:=wa1) (wa2:=wa2) (wa3:=wa3) (qa:=qa) (wb0:=wb0) (wb1:=wb1) (wb2:=wb2) (wb3:=wb3) (qb:=qb) (K:=3) (K2:=3) (hpa:=ass) (hpb:=ass) (hK:=by first|rfl|assumption|omega|exact Pg.hp_awq hpa hpb|exact Pg.hp_awq hpa hpd)) (.c (j:=2) rfl (.c (j:=3) rfl (.c (j:=4) rfl (.c (j:=5) rfl .n)))) ?_)
 rintro ⟨wr03,wr14,wr25,wr36⟩ -
 dsimp only [aq,nq,cq]
 refine e_one 5 (zE rfl rfl rfl rfl (.c rfl (.c rfl .n)) ce96 (zHc (wa0:=wa0) (wa1:=wa1) (wa2:=wa2) (wa3:=wa3) (qa:=qa) (wb0:=wd0) (wb1:=wd1) (wb2:=wd2) (wb3:=wd3) (qb:=qd) (K:=3) (K2:=K) (hpa:=ass) (hpb:=ass) (hK:=by first|rfl|assumption|omega|exact Pg.hp_awq hpa hpb|exact Pg.hp_awq hpa hpd)) (.c (j:=4) rfl (.c (j:=5) rfl (.c (j:=8) rfl (.c (j:=9) rfl .n)))) ?_)
 rintro ⟨wr07,wr18,wr29,wr310⟩ -
 dsimp only [aq,nq,cq]
 refine e_one 6 (zE rfl rfl rfl rfl (.c rfl (.c rfl .n)) ce95 (zie (wa0:=wr03) (wa1:=wr14) (wa2:=wr25) (wa3:=wr36) (qa:=(Pg.awq qa qb)) (wb0:=wr07) (wb1:=wr18) (wb2:=wr29) (wb3:=wr310) (qb:=(Pg.awq qa qd)) (K:=(3+3+1)) (K2:=(3+K+1)) (hpa:=by first|rfl|assumption|omega|exact Pg.hp_awq hpa hpb|exact Pg.hp_awq hpa hpd) (hpb:=by first|rfl|assumption|omega|exact Pg.hp_awq hpa hpb|exact Pg.hp_awq hpa hpd) (hK:=by first|rfl|assumption|omega|exact Pg.hp_awq hpa hpb|exact Pg.hp_awq hpa hpd)) (.c (j:=2) rfl (.c (j:=3) rfl (.c (j:=0) rfl (.c (j:=1) rfl .n)))) ?_)
 rintro ⟨w311,w412⟩ -
 dsimp only [aq,nq,cq]
 refine e_one 7 (zA kr rfl rfl rfl rfl rfl sz43 rfl (.t4 .nil) ?_)
 refine zX kr<|zd<|zJ ?_
 exact zx Tryz.results94 (w311,w412) trivial (zC 0 ty43 rfl rfl (.t4 .nil)) rfl (ho:=(.n:PickO _ _ _)) ((.e (j:=0) rfl (by first|rfl|exact id) .n):SelR _ _ _)
theorem zIc {p:Option Addr} {n:Nat} {cap:Nat} {l:List Pg.Q2} {wa0:Wd} {wa1:Wd} {wa2:Wd} {wa3:Wd} {qa:Pg.Q2} {wb0:Wd} {wb1:Wd} {wb2:Wd} {wb3:Wd} {qb:Pg.Q2} {K:Nat} (hn:l.length=n) (hpa:Pg.hp 3 qa) (hpb:Pg.hp 3 qb) (hbq:Pg.bq K l) (hK:9*K+72≤500000) (hnK:n≤100000):Con yk 58 [.slice p n cap,.agg #[wa0.b,wa0.l,wa1.b,wa1.l,wa2.b,wa2.l,wa3.b,wa3.l],.agg #[wb0.b,wb0.l,wb1.b,wb1.l,wb2.b,wb2.l,wb3.b,wb3.l]] [] [slF rR p cap l,qF true wa0 wa1 (qa.1),qF true wa2 wa3 (qa.2),qF true wb0 wb1 (qb.1),qF true wb2 wb3 (qb.2)] (Y:=(Option Addr)×Nat) (fun y=>True) (fun y=> .slice (y.1) ((Pg.clL qa qb l).length) (y.2)) (fun y=>[rowA 69 rR (y.1) (y.2) (Pg.clL qa qb l)]) (fun y=>[]):=by
 refine zp Tryz.func58 rfl rfl rfl (fun c=> ?_)
 show RunC _ _ _ _ _ [(0,.slice p n cap),(1,.agg #[wa0.b,wa0.l,wa1.b,wa1.l,wa2.b,wa2.l,wa3.b,wa3.l]),(2,.agg #[wb0.b,wb0.l,wb1.b,wb1.l,wb2.b,wb2.l,wb3.b,wb3.l])] [] [slF rR p cap l,qF true wa0 wa1 (qa.1),qF true wa2 wa3 (qa.2),qF true wb0 wb1 (qb.1),qF true wb2 wb3 (qb.2)]
 refine zfa 0 rfl (fun hL0=> ?_)
 refine ze<|za<|zP rfl rfl (zV rfl rfl) (fun b1=> ?_)
 refine zP rfl rfl (zV rfl rfl) (fun b2=> ?_)
 refine e_p (zb rfl)<|zh<|zd<|ze<|zic 1 rfl (.s .z)<|zic 0 rfl .z<|za<|e_p (zZa .n (.c rfl (.c rfl .n)))<|e_p (zb rfl)<|zh<|zd<|ze<|za<|e_p (zb rfl)<|zh<|zd<|ze<|ze<|znb 69 rR<|za<|e_mv rfl<|e_p (zQ yo rfl)<|e_mv rfl<|zh<|zd<|zv<|zma (X:=Nat×(Option Addr)×Nat) (fun x:Nat×(Option Addr)×Nat=>x.1≤n) (fun x=>[(8,.slice (x.2.1) ((Pg.clN n qa qb l x.1).length) (x.2.2)),(20,.int .i64 ((x.1:Nat):Int)),(19,.int .i64 ((n:Nat):Int)),(18,.slice p n cap),(7,.func (.func 94) #[] #[.pointer (some ⟨b1,0,none⟩),.pointer (some ⟨b2,0,none⟩)]),(6,.slice none 0 0),(0,.slice p n cap)]) (fun x=>[rowA 69 rR (x.2.1) (x.2.2) (Pg.clN n qa qb l x.1)]) (fun x=>[atF b2 0 [wb0.b,wb0.l,wb1.b,wb1.l,wb2.b,wb2.l,wb3.b,wb3.l],atF b1 0 [wa0.b,wa0.l,wa1.b,wa1.l,wa2.b,wa2.l,wa3.b,wa3.l],slF rR p cap l,qF true wa0 wa1 (qa.1),qF true wa2 wa3 (qa.2),qF true wb0 wb1 (qb.1),qF true wb2 wb3 (qb.2)]) (fun x:Nat×(Option Addr)×Nat=>n - x.1) (0,none,0) (show 0≤n from by exact Nat.zero_le _) ((.e rfl (by first|rfl|(congr 1;omega)|simp_all) (.e rfl (by first|rfl|(congr 1;omega)|simp_all) (.of rfl))):SubM _ _) (ho:=((.e (i:=0) rfl (by first|rfl|(congr 1;omega)|simp_all) .n):PickO _ _ _)) ((.of [0,1,2,3,4,5,6] rfl):SelR _ _ _) ?_
 rintro ⟨i,p7,c7⟩ hI
 replace hI:i≤n:=hI
 try dsimp only
 refine ze<|za<|e_p (zR rfl rfl)<|zh<|zd<|ze<|zB rfl (fun h3=> ?_) (fun h3=> ?_)
 ·
  have hm1:(i+1)%n<n:=Nat.mod_lt _ om
  have hpi:Pg.hp K (l.getD i ((0:Rat),(0:Rat))):=Pg.bq_at hbq om
  have hpj:Pg.hp K (l.getD ((i+1)%n) ((0:Rat),(0:Rat))):=Pg.bq_at hbq om
  have hsi:=Pg.hq_sdq hpa hpb hpi
  have hsj:=Pg.hq_sdq hpa hpb hpj
  obtain ⟨hpi1,hpi2⟩:=id hpi
  obtain ⟨hpj1,hpj2⟩:=id hpj
  have hsg:=Pg.sg_mul (Pg.sdq qa qb (l.getD i ((0:Rat),(0:Rat)))) (Pg.sdq qa qb (l.getD ((i+1)%n) ((0:Rat),(0:Rat))))
  have hcl:=Pg.clN_len (n:=n) (a:=qa) (b:=qb) (l:=l) i
  refine zt<|zd<|ze<|zv<|ze<|za<|e_mv rfl<|r_vl rfl rfl (zyb (x0:=(l.getD i ((0:Rat),(0:Rat)))) 2 i rfl yo sz69 rfl cbs rfl rfl (gD (d:=((0:Rat),(0:Rat))) om)) ?_
  rintro ⟨b4,o5,w6,w7,w8,w9⟩ -
  dsimp only [aq,nq,cq]
  refine zmf open_rR<|e_ru (zG (j:=0) 0 ty69 rfl rfl rfl (.t8 .nil))<|zP rfl rfl (zu zr69 rfl) (fun b10=> ?_)
  refine e_p (zb rfl)<|zq 0 rfl rfl rfl rfl rfl sz69 rfl (.t8 .nil) .z<|zh<|zd<|ze<|za<|e_mv rfl<|e_mv rfl<|e_p (zw (z:=(((i+1):Nat):Int)) rfl rfl (w64 om))<|e_mv rfl<|e_p (zQ yo rfl)<|e_p (zoa (z:=((((i+1)%n):Nat):Int)) rfl rfl om (remN om om))<|r_vl rfl rfl (zyb (x0:=(l.getD ((i+1)%n) ((0:Rat),(0:Rat)))) 5 ((i+1)%n) rfl yo sz69 rfl cbs rfl rfl (gD (d:=((0:Rat),(0:Rat))) om)) ?_
  rintro ⟨b11,o12,w13,w14,w15,w16⟩ -
  dsimp only [aq,nq,cq]
  refine zmf open_rR<|e_ru (zG (j:=0) 0 ty69 rfl rfl rfl (.t8 .nil))<|zP rfl rfl (zu zr69 rfl) (fun b17=> ?_)
  refine zq 0 rfl rfl rfl rfl rfl sz69 rfl (.t8 .nil) .z<|zh<|zd<|ze<|zZ (OW:=[]) (O:=[boxA b17 69 (cw [w13,w14,w15,w16]),boxA b10 69 (cw [w6,w7,w8,w9]),rowA 69 rR p7 c7 (Pg.clN n qa qb l i)]) 8 mixed (.then (.block (.then (.then (.block (.then .ret)))))) kr<|e_dm 0 rfl rfl rfl<|e_u 1 rfl rfl (zc 1 ty69 rfl rfl (.t8 .nil))<|e_dm 3 rfl rfl rfl<|e_u 4 rfl rfl (zc 0 ty69 rfl rfl (.t8 .nil))<|zgd (m':=[(37,.agg (cw [w13,w14,w15,w16]).toArray),(36,.func (.func 94) #[] #[.pointer (some ⟨b1,0,none⟩),.pointer (some ⟨b2,0,none⟩)]),(34,.agg (cw [w6,w7,w8,w9]).toArray),(33,.func (.func 94) #[] #[.pointer (some ⟨b1,0,none⟩),.pointer (some ⟨b2,0,none⟩)]),(11,.pointer (some ⟨b17,0,none⟩)),(10,.pointer (some ⟨b10,0,none⟩)),(8,.slice p7 ((Pg.clN n qa qb l i).length) c7),(20,.int .i64 ((i:Nat):Int)),(19,.int .i64 ((n:Nat):Int)),(18,.slice p n cap),(7,.func (.func 94) #[] #[.pointer (some ⟨b1,0,none⟩),.pointer (some ⟨b2,0,none⟩)]),(6,.slice none 0 0),(0,.slice p n cap)]) (R':=[qF true w13 w14 ((l.getD ((i+1)%n) ((0:Rat),(0:Rat))).1),qF true w15 w16 ((l.getD ((i+1)%n) ((0:Rat),(0:Rat))).2),qF true w6 w7 ((l.getD i ((0:Rat),(0:Rat))).1),qF true w8 w9 ((l.getD i ((0:Rat),(0:Rat))).2),atF b2 0 [wb0.b,wb0.l,wb1.b,wb1.l,wb2.b,wb2.l,wb3.b,wb3.l],atF b1 0 [wa0.b,wa0.l,wa1.b,wa1.l,wa2.b,wa2.l,wa3.b,wa3.l],slF rR p cap l,qF true wa0 wa1 (qa.1),qF true wa2 wa3 (qa.2),qF true wb0 wb1 (qb.1),qF true wb2 wb3 (qb.2)]) ((.of rfl):SubM _ _) (List.Perm.refl _) (List.Perm.refl _) ((.of [1,2,4,5,6,7,8,9,10,11,12] rfl):SelR _ _ _)<|zta (X:=Wd×Wd×Wd×Wd×Nat×Nat) (k':=0) (L':=(lb 10 1023)) (fun (u2_1,u2_2,u5_1,u5_2,u6_1,u7_1)=>([(13,.pointer (some ⟨u7_1,0,none⟩)),(12,.pointer (some ⟨u6_1,0,none⟩)),(11,.pointer (some ⟨b17,0,none⟩)),(10,.pointer (some ⟨b10,0,none⟩)),(8,.slice p7 ((Pg.clN n qa qb l i).length) c7),(20,.int .i64 ((i:Nat):Int)),(19,.int .i64 ((n:Nat):Int)),(18,.slice p n cap),(7,.func (.func 94) #[] #[.pointer (some ⟨b1,0,none⟩),.pointer (some ⟨b2,0,none⟩)]),(6,.slice none 0 0),(0,.slice p n cap)],[boxA u7_1 43 (cw [u5_1,u5_2]),boxA u6_1 43 (cw [u2_1,u2_2])],[boxA b17 69 (cw [w13,w14,w15,w16]),boxA b10 69 (cw [w6,w7,w8,w9]),rowA 69 rR p7 c7 (Pg.clN n qa qb l i)],[qF true u5_1 u5_2 (Pg.sdq qa qb (l.getD ((i+1)%n) ((0:Rat),(0:Rat)))),qF true u2_1 u2_2 (Pg.sdq qa qb (l.getD i ((0:Rat),(0:Rat)))),qF true w13 w14 ((l.getD ((i+1)%n) ((0:Rat),(0:Rat))).1),qF true w15 w16 ((l.getD ((i+1)%n) ((0:Rat),(0:Rat))).2),qF true w6 w7 ((l.getD i ((0:Rat),(0:Rat))).1),qF true w8 w9 ((l.getD i ((0:Rat),(0:Rat))).2),atF b2 0 [wb0.b,wb0.l,wb1.b,wb1.l,wb2.b,wb2.l,wb3.b,wb3.l],atF b1 0 [wa0.b,wa0.l,wa1.b,wa1.l,wa2.b,wa2.l,wa3.b,wa3.l],slF rR p cap l,qF true wa0 wa1 (qa.1),qF true wa2 wa3 (qa.2),qF true wb0 wb1 (qb.1),qF true wb2 wb3 (qb.2)])) ?_ (fun hD0=> ?_)
  ·
   rintro ⟨u2_1,u2_2,u5_1,u5_2,u6_1,u7_1⟩
   dsimp only [cw]
   refine zX kr<|zd<|ze<|ze<|za<|e_ru (zc 1 ty43 rfl rfl (.t4 .nil))<|zO rfl rfl (.c rfl .n) ce97 (zQb (k1:=true) (u1:=u2_1) (v1:=u2_2) (q1:=Pg.sdq qa qb (l.getD i ((0:Rat),(0:Rat))))) (.c (j:=1) rfl .n)<|e_p (zIa rfl rfl)<|zh<|zd<|zB rfl (fun hin=> ?_) (fun hin=> ?_)
   ·
    refine zwa (.c (i:=4) rfl (.c (i:=0) rfl (.c (i:=0) rfl (.c (i:=0) rfl (.c (i:=0) rfl .n)))))<|zZ (OW:=[rowA 69 rR p7 c7 (Pg.clN n qa qb l i)]) (O:=[boxA u7_1 43 (cw [u5_1,u5_2]),boxA u6_1 43 (cw [u2_1,u2_2]),boxA b17 69 (cw [w13,w14,w15,w16]),boxA b10 69 (cw [w6,w7,w8,w9])]) 9 mixed (.then (.block (.then (.then (.block (.then .ret)))))) kr<|e_dm 0 rfl rfl rfl<|e_pv 1 rfl rfl (zg yj rfl sz43 rfl rfl)<|e_uw 2 rfl rfl (zc 4 ty43 rfl rfl (.t4 .nil))<|e_pv 4 rfl rfl (zg yj rfl sz43 rfl rfl)<|e_uw 5 rfl rfl (zc 4 ty43 rfl rfl (.s4 (.t4 .nil)))<|e_one 3 (zE rfl rfl rfl rfl (.c rfl .n) ce98 (zMa (k1:=true) (u1:=w6) (v1:=w7) (q1:=(l.getD i ((0:Rat),(0:Rat))).1)) (.c (j:=4) rfl .n) ?_)
    rintro ⟨w318,w419⟩ -
    dsimp only [aq,nq,cq]
    refine e_one 6 (zE rfl rfl rfl rfl (.c rfl .n) ce98 (zMa (k1:=true) (u1:=w8) (v1:=w9) (q1:=(l.getD i ((0:Rat),(0:Rat))).2)) (.c (j:=6) rfl .n) ?_)
    rintro ⟨w320,w421⟩ -
    dsimp only [aq,nq,cq]
    refine e_pv 7 rfl rfl (zN zr69 rfl yj (.c sz43 (.c sz43 .n)) (.c rfl (.c rfl .n)) (.c rfl rfl rfl (.t4 .nil) (.c rfl rfl rfl (.s4 (.t4 .nil)) .n)))<|e_one 8 (zEe rfl rfl rfl rfl (zgb (r:=rR) (k:=1) yo inf69 rfl dd dd dd (.c (x:=(((l.getD i ((0:Rat),(0:Rat))).1),((l.getD i ((0:Rat),(0:Rat))).2))) (cs:=[w318.b,w318.l,w419.b,w419.l,w320.b,w320.l,w421.b,w421.l]) (w318,w419,w320,w421) rfl rfl rfl (fun g hr=>⟨Holds.get 1 rfl hr,Holds.get 0 rfl hr⟩) .n)) (fun b22 _=> ?_))
    refine zUb 0 rfl .z<|e_one 9 (zBd (A':=fun v:Option Addr×Nat=>rowA 69 rR v.1 v.2 ((Pg.clN n qa qb l i)++([(((l.getD i ((0:Rat),(0:Rat))).1),((l.getD i ((0:Rat),(0:Rat))).2))]))) kr rfl rfl rfl (zza 0 rfl yo inf69 dd rfl rfl cbs rfl cbs om om) ?_)
    rintro ⟨p23,c24⟩ -
    dsimp only [aq,nq,cq]
    refine e_pv 10 rfl rfl (zb rfl)<|zX kr<|zd<|ze<|zZ (OW:=[]) (O:=[rowA 69 rR p23 c24 ((Pg.clN n qa qb l i)++([(((l.getD i ((0:Rat),(0:Rat))).1),((l.getD i ((0:Rat),(0:Rat))).2))])),emA,boxA u7_1 43 (cw [u5_1,u5_2]),boxA u6_1 43 (cw [u2_1,u2_2]),boxA b17 69 (cw [w13,w14,w15,w16]),boxA b10 69 (cw [w6,w7,w8,w9])]) 100000 mixed (.then (.block (.then (.then (.block (.then .ret)))))) kr<|e_u 0 rfl rfl (zc 3 ty43 rfl rfl (.t4 .nil))<|e_u 2 rfl rfl (zc 2 ty43 rfl rfl (.t4 .nil))<|e_one 1 (zua rfl rfl rfl rfl (.c rfl .n) ce97 (zQb (k1:=true) (u1:=u2_1) (v1:=u2_2) (q1:=Pg.sdq qa qb (l.getD i ((0:Rat),(0:Rat))))) (.c (j:=4) rfl .n) ?_)
    refine e_one 3 (zua rfl rfl rfl rfl (.c rfl .n) ce97 (zQb (k1:=true) (u1:=u5_1) (v1:=u5_2) (q1:=Pg.sdq qa qb (l.getD ((i+1)%n) ((0:Rat),(0:Rat))))) (.c (j:=3) rfl .n) ?_)
    refine e_pv 4 rfl rfl (zGa (z:=(Big.sgq (Pg.sdq qa qb (l.getD i ((0:Rat),(0:Rat))))*Big.sgq (Pg.sdq qa qb (l.getD ((i+1)%n) ((0:Rat),(0:Rat)))))) rfl rfl (w64 om))<|e_pv 5 rfl rfl (zR rfl rfl)<|zX kr<|zd<|zB rfl (fun hcr=> ?_) (fun hcr=> ?_)
    ·
     have hne:=Pg.opp hcr
     obtain ⟨hnd,hnf,⟨hnw1,hnw2⟩,hn1,hn2,⟨hnp1,hnp2⟩⟩:=Pg.nb hsi hsj hne hpi hpj
     refine ze<|zZ (OW:=[]) (O:=[rowA 69 rR p23 c24 ((Pg.clN n qa qb l i)++([(((l.getD i ((0:Rat),(0:Rat))).1),((l.getD i ((0:Rat),(0:Rat))).2))])),emA,boxA u7_1 43 (cw [u5_1,u5_2]),boxA u6_1 43 (cw [u2_1,u2_2]),boxA b17 69 (cw [w13,w14,w15,w16]),boxA b10 69 (cw [w6,w7,w8,w9])]) 9 mixed (.then (.block (.then (.then (.block (.then .ret)))))) kr<|e_u 0 rfl rfl (zc 3 ty43 rfl rfl (.t4 .nil))<|e_u 1 rfl rfl (zc 3 ty43 rfl rfl (.t4 .nil))<|e_u 2 rfl rfl (zc 2 ty43 rfl rfl (.t4 .nil))<|zgd (m':=[(61,.agg (cw [u5_1,u5_2]).toArray),(60,.agg (cw [u2_1,u2_2]).toArray),(59,.agg (cw [u2_1,u2_2]).toArray),(8,.slice p23 (((Pg.clN n qa qb l i).length)+1) c24),(11,.pointer (some ⟨b17,0,none⟩)),(10,.pointer (some ⟨b10,0,none⟩)),(20,.int .i64 ((i:Nat):Int)),(19,.int .i64 ((n:Nat):Int)),(18,.slice p n cap),(7,.func (.func 94) #[] #[.pointer (some ⟨b1,0,none⟩),.pointer (some ⟨b2,0,none⟩)]),(6,.slice none 0 0),(0,.slice p n cap)]) (R':=[slF rR (some ⟨b22,0,none⟩) 1 ([(((l.getD i ((0:Rat),(0:Rat))).1),((l.getD i ((0:Rat),(0:Rat))).2))]),qF true w320 w421 ((l.getD i ((0:Rat),(0:Rat))).2),qF true w318 w419 ((l.getD i ((0:Rat),(0:Rat))).1),qF true u5_1 u5_2 (Pg.sdq qa qb (l.getD ((i+1)%n) ((0:Rat),(0:Rat)))),qF true u2_1 u2_2 (Pg.sdq qa qb (l.getD i ((0:Rat),(0:Rat)))),qF true w13 w14 ((l.getD ((i+1)%n) ((0:Rat),(0:Rat))).1),qF true w15 w16 ((l.getD ((i+1)%n) ((0:Rat),(0:Rat))).2),qF true w6 w7 ((l.getD i ((0:Rat),(0:Rat))).1),qF true w8 w9 ((l.getD i ((0:Rat),(0:Rat))).2),atF b2 0 [wb0.b,wb0.l,wb1.b,wb1.l,wb2.b,wb2.l,wb3.b,wb3.l],atF b1 0 [wa0.b,wa0.l,wa1.b,wa1.l,wa2.b,wa2.l,wa3.b,wa3.l],slF rR p cap l,qF true wa0 wa1 (qa.1),qF true wa2 wa3 (qa.2),qF true wb0 wb1 (qb.1),qF true wb2 wb3 (qb.2)]) ((.of rfl):SubM _ _) (List.Perm.refl _) (List.Perm.refl _) ((.of [0,1,2,3,4,5,6,7,8,9,10,11,12,13,14,15] rfl):SelR _ _ _)<|zta (X:=Wd×Wd×Wd×Wd×Nat) (k':=0) (L':=(lb 11 2047)) (fun (u3_1r2,u3_2r2,u4_1r2,u4_2r2,u8_1r2)=>([(14,.pointer (some ⟨u8_1r2,0,none⟩)),(8,.slice p23 (((Pg.clN n qa qb l i).length)+1) c24),(11,.pointer (some ⟨b17,0,none⟩)),(10,.pointer (some ⟨b10,0,none⟩)),(20,.int .i64 ((i:Nat):Int)),(19,.int .i64 ((n:Nat):Int)),(18,.slice p n cap),(7,.func (.func 94) #[] #[.pointer (some ⟨b1,0,none⟩),.pointer (some ⟨b2,0,none⟩)]),(6,.slice none 0 0),(0,.slice p n cap)],[boxA u8_1r2 43 (cw [u4_1r2,u4_2r2])],[rowA 69 rR p23 c24 ((Pg.clN n qa qb l i)++([(((l.getD i ((0:Rat),(0:Rat))).1),((l.getD i ((0:Rat),(0:Rat))).2))])),emA,boxA u7_1 43 (cw [u5_1,u5_2]),boxA u6_1 43 (cw [u2_1,u2_2]),boxA b17 69 (cw [w13,w14,w15,w16]),boxA b10 69 (cw [w6,w7,w8,w9])],[qF true u4_1r2 u4_2r2 ((Pg.sdq qa qb (l.getD i ((0:Rat),(0:Rat)))) / ((Pg.sdq qa qb (l.getD i ((0:Rat),(0:Rat)))) - (Pg.sdq qa qb (l.getD ((i+1)%n) ((0:Rat),(0:Rat)))))),qF true u3_1r2 u3_2r2 ((Pg.sdq qa qb (l.getD i ((0:Rat),(0:Rat)))) - (Pg.sdq qa qb (l.getD ((i+1)%n) ((0:Rat),(0:Rat))))),slF rR (some ⟨b22,0,none⟩) 1 ([(((l.getD i ((0:Rat),(0:Rat))).1),((l.getD i ((0:Rat),(0:Rat))).2))]),qF true w320 w421 ((l.getD i ((0:Rat),(0:Rat))).2),qF true w318 w419 ((l.getD i ((0:Rat),(0:Rat))).1),qF true u5_1 u5_2 (Pg.sdq qa qb (l.getD ((i+1)%n) ((0:Rat),(0:Rat)))),qF true u2_1 u2_2 (Pg.sdq qa qb (l.getD i ((0:Rat),(0:Rat)))),qF true w13 w14 ((l.getD ((i+1)%n) ((0:Rat),(0:Rat))).1),qF true w15 w16 ((l.getD ((i+1)%n) ((0:Rat),(0:Rat))).2),qF true w6 w7 ((l.getD i ((0:Rat),(0:Rat))).1),qF true w8 w9 ((l.getD i ((0:Rat),(0:Rat))).2),atF b2 0 [wb0.b,wb0.l,wb1.b,wb1.l,wb2.b,wb2.l,wb3.b,wb3.l],atF b1 0 [wa0.b,wa0.l,wa1.b,wa1.l,wa2.b,wa2.l,wa3.b,wa3.l],slF rR p cap l,qF true wa0 wa1 (qa.1),qF true wa2 wa3 (qa.2),qF true wb0 wb1 (qb.1),qF true wb2 wb3 (qb.2)])) ?_ (fun hD0=> ?_)
     ·
      rintro ⟨u3_1r2,u3_2r2,u4_1r2,u4_2r2,u8_1r2⟩
      dsimp only [cw]
      refine zX kr<|zd<|ze<|za<|e_ru (zc 6 ty69 rfl rfl (.t8 .nil))<|e_ru (zc 5 ty69 rfl rfl (.t8 .nil))<|zL rfl rfl (.c rfl (.c rfl .n)) ce96 (zHc (wa0:=w6) (wa1:=w7) (wa2:=w8) (wa3:=w9) (qa:=(l.getD i ((0:Rat),(0:Rat)))) (wb0:=w13) (wb1:=w14) (wb2:=w15) (wb3:=w16) (qb:=(l.getD ((i+1)%n) ((0:Rat),(0:Rat)))) (K:=K) (K2:=K) (hpa:=cbo) (hpb:=cbo) (hK:=cbo)) (.c (j:=9) rfl (.c (j:=10) rfl (.c (j:=7) rfl (.c (j:=8) rfl .n)))) ?_
      rintro ⟨wr025,wr126,wr227,wr328⟩ -
      dsimp only [aq,nq,cq]
      refine zP rfl rfl (zu zr69 rfl) (fun b29=> ?_)
      refine zq 0 rfl rfl rfl rfl rfl sz69 rfl (.t8 .nil) .z<|zh<|zd<|zwa (.c (i:=2) rfl (.c (i:=0) rfl (.c (i:=0) rfl (.c (i:=0) rfl (.c (i:=0) rfl (.c (i:=0) rfl (.c (i:=0) rfl (.c (i:=0) rfl .n))))))))<|zZ (OW:=[rowA 69 rR p23 c24 ((Pg.clN n qa qb l i)++([(((l.getD i ((0:Rat),(0:Rat))).1),((l.getD i ((0:Rat),(0:Rat))).2))]))]) (O:=[boxA b29 69 (cw [wr025,wr126,wr227,wr328]),boxA u8_1r2 43 (cw [u4_1r2,u4_2r2]),emA,boxA u7_1 43 (cw [u5_1,u5_2]),boxA u6_1 43 (cw [u2_1,u2_2]),boxA b17 69 (cw [w13,w14,w15,w16]),boxA b10 69 (cw [w6,w7,w8,w9])]) 17 mixed (.block (.then (.then (.block (.then .ret))))) kr<|e_dm 0 rfl rfl rfl<|e_pv 1 rfl rfl (zg yj rfl sz43 rfl rfl)<|e_uw 2 rfl rfl (zc 7 ty43 rfl rfl (.t4 .nil))<|e_uw 3 rfl rfl (zc 2 ty43 rfl rfl (.t4 .nil))<|e_pv 4 rfl rfl (zg yj rfl sz43 rfl rfl)<|e_uw 5 rfl rfl (zc 1 ty43 rfl rfl (.t4 .nil))<|e_pv 8 rfl rfl (zg yj rfl sz43 rfl rfl)<|e_uw 9 rfl rfl (zc 7 ty43 rfl rfl (.s4 (.t4 .nil)))<|e_uw 10 rfl rfl (zc 2 ty43 rfl rfl (.t4 .nil))<|e_pv 11 rfl rfl (zg yj rfl sz43 rfl rfl)<|e_uw 12 rfl rfl (zc 1 ty43 rfl rfl (.s4 (.t4 .nil)))<|e_one 6 (zE rfl rfl rfl rfl (.c rfl (.c rfl .n)) ce102 (zVb (k1:=true) (u1:=u4_1r2) (v1:=u4_2r2) (q1:=(Pg.sdq qa qb (l.getD i ((0:Rat),(0:Rat)))) / ((Pg.sdq qa qb (l.getD i ((0:Rat),(0:Rat)))) - (Pg.sdq qa qb (l.getD ((i+1)%n) ((0:Rat),(0:Rat)))))) (k2:=true) (u2:=wr025) (v2:=wr126) (q2:=(Pg.awq (l.getD i ((0:Rat),(0:Rat))) (l.getD ((i+1)%n) ((0:Rat),(0:Rat)))).1) (hl:=cbo)) (.c (j:=2) rfl (.c (j:=0) rfl .n)) ?_)
      rintro ⟨w330,w431⟩ -
      dsimp only [aq,nq,cq]
      refine e_one 7 (zE rfl rfl rfl rfl (.c rfl (.c rfl .n)) ce101 (zpc (k1:=true) (u1:=w6) (v1:=w7) (q1:=(l.getD i ((0:Rat),(0:Rat))).1) (k2:=true) (u2:=w330) (v2:=w431) (q2:=((Pg.sdq qa qb (l.getD i ((0:Rat),(0:Rat)))) / ((Pg.sdq qa qb (l.getD i ((0:Rat),(0:Rat)))) - (Pg.sdq qa qb (l.getD ((i+1)%n) ((0:Rat),(0:Rat))))))*((Pg.awq (l.getD i ((0:Rat),(0:Rat))) (l.getD ((i+1)%n) ((0:Rat),(0:Rat)))).1)) (hl:=cbo)) (.c (j:=12) rfl (.c (j:=0) rfl .n)) ?_)
      rintro ⟨w332,w433⟩ -
      dsimp only [aq,nq,cq]
      refine e_one 13 (zE rfl rfl rfl rfl (.c rfl (.c rfl .n)) ce102 (zVb (k1:=true) (u1:=u4_1r2) (v1:=u4_2r2) (q1:=(Pg.sdq qa qb (l.getD i ((0:Rat),(0:Rat)))) / ((Pg.sdq qa qb (l.getD i ((0:Rat),(0:Rat)))) - (Pg.sdq qa qb (l.getD ((i+1)%n) ((0:Rat),(0:Rat)))))) (k2:=true) (u2:=wr227) (v2:=wr328) (q2:=(Pg.awq (l.getD i ((0:Rat),(0:Rat))) (l.getD ((i+1)%n) ((0:Rat),(0:Rat)))).2) (hl:=cbo)) (.c (j:=4) rfl (.c (j:=3) rfl .n)) ?_)
      rintro ⟨w334,w435⟩ -
      dsimp only [aq,nq,cq]
      refine e_one 14 (zE rfl rfl rfl rfl (.c rfl (.c rfl .n)) ce101 (zpc (k1:=true) (u1:=w8) (v1:=w9) (q1:=(l.getD i ((0:Rat),(0:Rat))).2) (k2:=true) (u2:=w334) (v2:=w435) (q2:=((Pg.sdq qa qb (l.getD i ((0:Rat),(0:Rat)))) / ((Pg.sdq qa qb (l.getD i ((0:Rat),(0:Rat)))) - (Pg.sdq qa qb (l.getD ((i+1)%n) ((0:Rat),(0:Rat))))))*((Pg.awq (l.getD i ((0:Rat),(0:Rat))) (l.getD ((i+1)%n) ((0:Rat),(0:Rat)))).2)) (hl:=cbo)) (.c (j:=15) rfl (.c (j:=0) rfl .n)) ?_)
      rintro ⟨w336,w437⟩ -
      dsimp only [aq,nq,cq]
      refine e_pv 15 rfl rfl (zN zr69 rfl yj (.c sz43 (.c sz43 .n)) (.c rfl (.c rfl .n)) (.c rfl rfl rfl (.t4 .nil) (.c rfl rfl rfl (.s4 (.t4 .nil)) .n)))<|e_one 16 (zEe rfl rfl rfl rfl (zgb (r:=rR) (k:=1) yo inf69 rfl dd dd dd (.c (x:=((((l.getD i ((0:Rat),(0:Rat))).1)+(((Pg.sdq qa qb (l.getD i ((0:Rat),(0:Rat)))) / ((Pg.sdq qa qb (l.getD i ((0:Rat),(0:Rat)))) - (Pg.sdq qa qb (l.getD ((i+1)%n) ((0:Rat),(0:Rat))))))*((Pg.awq (l.getD i ((0:Rat),(0:Rat))) (l.getD ((i+1)%n) ((0:Rat),(0:Rat)))).1))),(((l.getD i ((0:Rat),(0:Rat))).2)+(((Pg.sdq qa qb (l.getD i ((0:Rat),(0:Rat)))) / ((Pg.sdq qa qb (l.getD i ((0:Rat),(0:Rat)))) - (Pg.sdq qa qb (l.getD ((i+1)%n) ((0:Rat),(0:Rat))))))*((Pg.awq (l.getD i ((0:Rat),(0:Rat))) (l.getD ((i+1)%n) ((0:Rat),(0:Rat)))).2))))) (cs:=[w332.b,w332.l,w433.b,w433.l,w336.b,w336.l,w437.b,w437.l]) (w332,w433,w336,w437) rfl rfl rfl (fun g hr=>⟨Holds.get 2 rfl hr,Holds.get 0 rfl hr⟩) .n)) (fun b38 _=> ?_))
      refine zUb 0 rfl .z<|e_one 17 (zBd (A':=fun v:Option Addr×Nat=>rowA 69 rR v.1 v.2 (((Pg.clN n qa qb l i)++([(((l.getD i ((0:Rat),(0:Rat))).1),((l.getD i ((0:Rat),(0:Rat))).2))]))++([((((l.getD i ((0:Rat),(0:Rat))).1)+(((Pg.sdq qa qb (l.getD i ((0:Rat),(0:Rat)))) / ((Pg.sdq qa qb (l.getD i ((0:Rat),(0:Rat)))) - (Pg.sdq qa qb (l.getD ((i+1)%n) ((0:Rat),(0:Rat))))))*((Pg.awq (l.getD i ((0:Rat),(0:Rat))) (l.getD ((i+1)%n) ((0:Rat),(0:Rat)))).1))),(((l.getD i ((0:Rat),(0:Rat))).2)+(((Pg.sdq qa qb (l.getD i ((0:Rat),(0:Rat)))) / ((Pg.sdq qa qb (l.getD i ((0:Rat),(0:Rat)))) - (Pg.sdq qa qb (l.getD ((i+1)%n) ((0:Rat),(0:Rat))))))*((Pg.awq (l.getD i ((0:Rat),(0:Rat))) (l.getD ((i+1)%n) ((0:Rat),(0:Rat)))).2))))]))) kr rfl rfl rfl (zza 0 rfl yo inf69 dd rfl rfl cbs rfl cbs om om) ?_)
      rintro ⟨p39,c40⟩ -
      dsimp only [aq,nq,cq]
      refine e_pv 18 rfl rfl (zb rfl)<|zX kr<|zK<|zd ?_
      have hrw:(((Pg.clN n qa qb l i)++([(((l.getD i ((0:Rat),(0:Rat))).1),((l.getD i ((0:Rat),(0:Rat))).2))]))++([((((l.getD i ((0:Rat),(0:Rat))).1)+(((Pg.sdq qa qb (l.getD i ((0:Rat),(0:Rat)))) / ((Pg.sdq qa qb (l.getD i ((0:Rat),(0:Rat)))) - (Pg.sdq qa qb (l.getD ((i+1)%n) ((0:Rat),(0:Rat))))))*((Pg.awq (l.getD i ((0:Rat),(0:Rat))) (l.getD ((i+1)%n) ((0:Rat),(0:Rat)))).1))),(((l.getD i ((0:Rat),(0:Rat))).2)+(((Pg.sdq qa qb (l.getD i ((0:Rat),(0:Rat)))) / ((Pg.sdq qa qb (l.getD i ((0:Rat),(0:Rat)))) - (Pg.sdq qa qb (l.getD ((i+1)%n) ((0:Rat),(0:Rat))))))*((Pg.awq (l.getD i ((0:Rat),(0:Rat))) (l.getD ((i+1)%n) ((0:Rat),(0:Rat)))).2))))]))=Pg.clN n qa qb l (i+1):=by show _=Pg.clN n qa qb l i++Pg.clA qa qb _ _;first|(rw [Pg.clA_yes hin hcr,List.append_assoc];done)|(rw [Pg.clA_yes hin hcr,List.append_assoc];rfl)|(rw [Pg.clA_in hin hcr];done)|(rw [Pg.clA_in hin hcr];rfl)|(rw [Pg.clA_new hin hcr];done)|(rw [Pg.clA_new hin hcr];rfl)|(rw [Pg.clA_no hin hcr,List.append_nil];done)|(rw [Pg.clA_no hin hcr,List.append_nil];rfl)
      rw [hrw]
      refine za<|e_p (zw (z:=(((i+1):Nat):Int)) rfl rfl (w64 om))<|e_mv rfl<|zh<|zda ((i+1),p39,c40) (show (i+1)≤n from by show i+1≤n;omega) (by show n - (i+1)<n - i;omega) ((.e rfl (by first|(refine congrArg (fun z=>Value.slice _ z _) ?_;dsimp only;rw [← hrw];simp;done)|(refine congrArg (fun z=>Value.slice _ z _) ?_;dsimp only;rw [← hrw];done)|(refine congrArg (fun z=>Value.slice _ z _) ?_;rw [← hrw];done)|(rw [← hrw];done)) (.of rfl)):SubM _ _) (ho:=((.c (i:=0) rfl .n):PickO _ _ _)) ((.of [18,19,20,21,22,23,24] rfl):SelR _ _ _)
     refine zta (X:=Wd×Wd×Wd×Wd×Nat) (k':=2) (L':=(lb 11 511)) (fun (u3_1r2,u3_2r2,u4_1r2,u4_2r2,u8_1r2)=>([(14,.pointer (some ⟨u8_1r2,0,none⟩)),(65,.int .i64 0),(64,.agg (cw [u4_1r2,u4_2r2]).toArray),(8,.slice p23 (((Pg.clN n qa qb l i).length)+1) c24),(11,.pointer (some ⟨b17,0,none⟩)),(10,.pointer (some ⟨b10,0,none⟩)),(20,.int .i64 ((i:Nat):Int)),(19,.int .i64 ((n:Nat):Int)),(18,.slice p n cap),(7,.func (.func 94) #[] #[.pointer (some ⟨b1,0,none⟩),.pointer (some ⟨b2,0,none⟩)]),(6,.slice none 0 0),(0,.slice p n cap)],[boxA u8_1r2 43 (cw [wz,wz])],[rowA 69 rR p23 c24 ((Pg.clN n qa qb l i)++([(((l.getD i ((0:Rat),(0:Rat))).1),((l.getD i ((0:Rat),(0:Rat))).2))])),emA,boxA u7_1 43 (cw [u5_1,u5_2]),boxA u6_1 43 (cw [u2_1,u2_2]),boxA b17 69 (cw [w13,w14,w15,w16]),boxA b10 69 (cw [w6,w7,w8,w9])],[qF true u4_1r2 u4_2r2 ((Pg.sdq qa qb (l.getD i ((0:Rat),(0:Rat)))) / ((Pg.sdq qa qb (l.getD i ((0:Rat),(0:Rat)))) - (Pg.sdq qa qb (l.getD ((i+1)%n) ((0:Rat),(0:Rat)))))),qF true u3_1r2 u3_2r2 ((Pg.sdq qa qb (l.getD i ((0:Rat),(0:Rat)))) - (Pg.sdq qa qb (l.getD ((i+1)%n) ((0:Rat),(0:Rat))))),slF rR (some ⟨b22,0,none⟩) 1 ([(((l.getD i ((0:Rat),(0:Rat))).1),((l.getD i ((0:Rat),(0:Rat))).2))]),qF true w320 w421 ((l.getD i ((0:Rat),(0:Rat))).2),qF true w318 w419 ((l.getD i ((0:Rat),(0:Rat))).1),qF true u5_1 u5_2 (Pg.sdq qa qb (l.getD ((i+1)%n) ((0:Rat),(0:Rat)))),qF true u2_1 u2_2 (Pg.sdq qa qb (l.getD i ((0:Rat),(0:Rat)))),qF true w13 w14 ((l.getD ((i+1)%n) ((0:Rat),(0:Rat))).1),qF true w15 w16 ((l.getD ((i+1)%n) ((0:Rat),(0:Rat))).2),qF true w6 w7 ((l.getD i ((0:Rat),(0:Rat))).1),qF true w8 w9 ((l.getD i ((0:Rat),(0:Rat))).2),atF b2 0 [wb0.b,wb0.l,wb1.b,wb1.l,wb2.b,wb2.l,wb3.b,wb3.l],atF b1 0 [wa0.b,wa0.l,wa1.b,wa1.l,wa2.b,wa2.l,wa3.b,wa3.l],slF rR p cap l,qF true wa0 wa1 (qa.1),qF true wa2 wa3 (qa.2),qF true wb0 wb1 (qb.1),qF true wb2 wb3 (qb.2)])) ?_ (fun hD1=> ?_)
     ·
      rintro ⟨u3_1r2,u3_2r2,u4_1r2,u4_2r2,u8_1r2⟩
      dsimp only [cw]
      refine zib 9 kr ?_
      ·
       refine zA kr rfl rfl rfl rfl rfl sz43 rfl (.t4 .nil)<|e_pv 10 rfl rfl (zb rfl) ?_
       exact zaa (hD0 (u3_1r2,u3_2r2,u4_1r2,u4_2r2,u8_1r2)) kr ((.of rfl):SubM _ _) .rfl .rfl ((.of [0,1,2,3,4,5,6,7,8,9,10,11,12,13,14,15,16,17] rfl):SelR _ _ _)
     refine zta (X:=Wd×Wd×Wd×Wd) (k':=3) (L':=(lb 11 255)) (fun (u3_1r2,u3_2r2,u4_1r2,u4_2r2)=>([(65,.int .i64 0),(64,.agg (cw [u4_1r2,u4_2r2]).toArray),(8,.slice p23 (((Pg.clN n qa qb l i).length)+1) c24),(11,.pointer (some ⟨b17,0,none⟩)),(10,.pointer (some ⟨b10,0,none⟩)),(20,.int .i64 ((i:Nat):Int)),(19,.int .i64 ((n:Nat):Int)),(18,.slice p n cap),(7,.func (.func 94) #[] #[.pointer (some ⟨b1,0,none⟩),.pointer (some ⟨b2,0,none⟩)]),(6,.slice none 0 0),(0,.slice p n cap)],[],[rowA 69 rR p23 c24 ((Pg.clN n qa qb l i)++([(((l.getD i ((0:Rat),(0:Rat))).1),((l.getD i ((0:Rat),(0:Rat))).2))])),emA,boxA u7_1 43 (cw [u5_1,u5_2]),boxA u6_1 43 (cw [u2_1,u2_2]),boxA b17 69 (cw [w13,w14,w15,w16]),boxA b10 69 (cw [w6,w7,w8,w9])],[qF true u4_1r2 u4_2r2 ((Pg.sdq qa qb (l.getD i ((0:Rat),(0:Rat)))) / ((Pg.sdq qa qb (l.getD i ((0:Rat),(0:Rat)))) - (Pg.sdq qa qb (l.getD ((i+1)%n) ((0:Rat),(0:Rat)))))),qF true u3_1r2 u3_2r2 ((Pg.sdq qa qb (l.getD i ((0:Rat),(0:Rat)))) - (Pg.sdq qa qb (l.getD ((i+1)%n) ((0:Rat),(0:Rat))))),slF rR (some ⟨b22,0,none⟩) 1 ([(((l.getD i ((0:Rat),(0:Rat))).1),((l.getD i ((0:Rat),(0:Rat))).2))]),qF true w320 w421 ((l.getD i ((0:Rat),(0:Rat))).2),qF true w318 w419 ((l.getD i ((0:Rat),(0:Rat))).1),qF true u5_1 u5_2 (Pg.sdq qa qb (l.getD ((i+1)%n) ((0:Rat),(0:Rat)))),qF true u2_1 u2_2 (Pg.sdq qa qb (l.getD i ((0:Rat),(0:Rat)))),qF true w13 w14 ((l.getD ((i+1)%n) ((0:Rat),(0:Rat))).1),qF true w15 w16 ((l.getD ((i+1)%n) ((0:Rat),(0:Rat))).2),qF true w6 w7 ((l.getD i ((0:Rat),(0:Rat))).1),qF true w8 w9 ((l.getD i ((0:Rat),(0:Rat))).2),atF b2 0 [wb0.b,wb0.l,wb1.b,wb1.l,wb2.b,wb2.l,wb3.b,wb3.l],atF b1 0 [wa0.b,wa0.l,wa1.b,wa1.l,wa2.b,wa2.l,wa3.b,wa3.l],slF rR p cap l,qF true wa0 wa1 (qa.1),qF true wa2 wa3 (qa.2),qF true wb0 wb1 (qb.1),qF true wb2 wb3 (qb.2)])) ?_ (fun hD2=> ?_)
     ·
      rintro ⟨u3_1r2,u3_2r2,u4_1r2,u4_2r2⟩
      dsimp only [cw]
      refine zib 8 kr ?_
      ·
       refine zra rfl rfl rfl rfl (zu zr43 rfl) (fun u8_1r2 _=> ?_)
       exact zaa (hD1 (u3_1r2,u3_2r2,u4_1r2,u4_2r2,u8_1r2)) kr ((.of rfl):SubM _ _) .rfl .rfl ((.of [0,1,2,3,4,5,6,7,8,9,10,11,12,13,14,15,16,17] rfl):SelR _ _ _)
     refine zta (X:=Wd×Wd×Nat) (k':=6) (L':=(lb 11 271)) (fun (u3_1r2,u3_2r2,u8_1r2)=>([(14,.pointer (some ⟨u8_1r2,0,none⟩)),(62,.agg (cw [u3_1r2,u3_2r2]).toArray),(59,.agg (cw [u2_1,u2_2]).toArray),(8,.slice p23 (((Pg.clN n qa qb l i).length)+1) c24),(11,.pointer (some ⟨b17,0,none⟩)),(10,.pointer (some ⟨b10,0,none⟩)),(20,.int .i64 ((i:Nat):Int)),(19,.int .i64 ((n:Nat):Int)),(18,.slice p n cap),(7,.func (.func 94) #[] #[.pointer (some ⟨b1,0,none⟩),.pointer (some ⟨b2,0,none⟩)]),(6,.slice none 0 0),(0,.slice p n cap)],[boxA u8_1r2 43 (cw [wz,wz])],[rowA 69 rR p23 c24 ((Pg.clN n qa qb l i)++([(((l.getD i ((0:Rat),(0:Rat))).1),((l.getD i ((0:Rat),(0:Rat))).2))])),emA,boxA u7_1 43 (cw [u5_1,u5_2]),boxA u6_1 43 (cw [u2_1,u2_2]),boxA b17 69 (cw [w13,w14,w15,w16]),boxA b10 69 (cw [w6,w7,w8,w9])],[qF true u3_1r2 u3_2r2 ((Pg.sdq qa qb (l.getD i ((0:Rat),(0:Rat)))) - (Pg.sdq qa qb (l.getD ((i+1)%n) ((0:Rat),(0:Rat))))),slF rR (some ⟨b22,0,none⟩) 1 ([(((l.getD i ((0:Rat),(0:Rat))).1),((l.getD i ((0:Rat),(0:Rat))).2))]),qF true w320 w421 ((l.getD i ((0:Rat),(0:Rat))).2),qF true w318 w419 ((l.getD i ((0:Rat),(0:Rat))).1),qF true u5_1 u5_2 (Pg.sdq qa qb (l.getD ((i+1)%n) ((0:Rat),(0:Rat)))),qF true u2_1 u2_2 (Pg.sdq qa qb (l.getD i ((0:Rat),(0:Rat)))),qF true w13 w14 ((l.getD ((i+1)%n) ((0:Rat),(0:Rat))).1),qF true w15 w16 ((l.getD ((i+1)%n) ((0:Rat),(0:Rat))).2),qF true w6 w7 ((l.getD i ((0:Rat),(0:Rat))).1),qF true w8 w9 ((l.getD i ((0:Rat),(0:Rat))).2),atF b2 0 [wb0.b,wb0.l,wb1.b,wb1.l,wb2.b,wb2.l,wb3.b,wb3.l],atF b1 0 [wa0.b,wa0.l,wa1.b,wa1.l,wa2.b,wa2.l,wa3.b,wa3.l],slF rR p cap l,qF true wa0 wa1 (qa.1),qF true wa2 wa3 (qa.2),qF true wb0 wb1 (qb.1),qF true wb2 wb3 (qb.2)])) ?_ (fun hD3=> ?_)
     ·
      rintro ⟨u3_1r2,u3_2r2,u8_1r2⟩
      dsimp only [cw]
      refine zib 4 kr ?_
      ·
       refine zE rfl rfl rfl rfl (.c rfl (.c rfl .n)) ce99 (zob (k1:=true) (u1:=u2_1) (v1:=u2_2) (q1:=Pg.sdq qa qb (l.getD i ((0:Rat),(0:Rat)))) (k2:=true) (u2:=u3_1r2) (v2:=u3_2r2) (q2:=(Pg.sdq qa qb (l.getD i ((0:Rat),(0:Rat)))) - (Pg.sdq qa qb (l.getD ((i+1)%n) ((0:Rat),(0:Rat))))) (hl:=cbo) (hy:=cbo)) (.c (j:=5) rfl (.c (j:=0) rfl .n)) ?_
       rintro ⟨u4_1r2,u4_2r2⟩ -
       dsimp only [aq,nq,cq]
       refine e_dm 5 rfl rfl rfl<|e_pv 6 rfl rfl (zD rfl rfl)<|e_pv 7 rfl rfl (zD rfl rfl) ?_
       exact zaa (hD1 (u3_1r2,u3_2r2,u4_1r2,u4_2r2,u8_1r2)) kr ((.of rfl):SubM _ _) .rfl .rfl ((.of [0,1,2,3,4,5,6,7,8,9,10,11,12,13,14,15,16,17] rfl):SelR _ _ _)
     refine zta (X:=Wd×Wd) (k':=7) (L':=(lb 11 15)) (fun (u3_1r2,u3_2r2)=>([(62,.agg (cw [u3_1r2,u3_2r2]).toArray),(59,.agg (cw [u2_1,u2_2]).toArray),(8,.slice p23 (((Pg.clN n qa qb l i).length)+1) c24),(11,.pointer (some ⟨b17,0,none⟩)),(10,.pointer (some ⟨b10,0,none⟩)),(20,.int .i64 ((i:Nat):Int)),(19,.int .i64 ((n:Nat):Int)),(18,.slice p n cap),(7,.func (.func 94) #[] #[.pointer (some ⟨b1,0,none⟩),.pointer (some ⟨b2,0,none⟩)]),(6,.slice none 0 0),(0,.slice p n cap)],[],[rowA 69 rR p23 c24 ((Pg.clN n qa qb l i)++([(((l.getD i ((0:Rat),(0:Rat))).1),((l.getD i ((0:Rat),(0:Rat))).2))])),emA,boxA u7_1 43 (cw [u5_1,u5_2]),boxA u6_1 43 (cw [u2_1,u2_2]),boxA b17 69 (cw [w13,w14,w15,w16]),boxA b10 69 (cw [w6,w7,w8,w9])],[qF true u3_1r2 u3_2r2 ((Pg.sdq qa qb (l.getD i ((0:Rat),(0:Rat)))) - (Pg.sdq qa qb (l.getD ((i+1)%n) ((0:Rat),(0:Rat))))),slF rR (some ⟨b22,0,none⟩) 1 ([(((l.getD i ((0:Rat),(0:Rat))).1),((l.getD i ((0:Rat),(0:Rat))).2))]),qF true w320 w421 ((l.getD i ((0:Rat),(0:Rat))).2),qF true w318 w419 ((l.getD i ((0:Rat),(0:Rat))).1),qF true u5_1 u5_2 (Pg.sdq qa qb (l.getD ((i+1)%n) ((0:Rat),(0:Rat)))),qF true u2_1 u2_2 (Pg.sdq qa qb (l.getD i ((0:Rat),(0:Rat)))),qF true w13 w14 ((l.getD ((i+1)%n) ((0:Rat),(0:Rat))).1),qF true w15 w16 ((l.getD ((i+1)%n) ((0:Rat),(0:Rat))).2),qF true w6 w7 ((l.getD i ((0:Rat),(0:Rat))).1),qF true w8 w9 ((l.getD i ((0:Rat),(0:Rat))).2),atF b2 0 [wb0.b,wb0.l,wb1.b,wb1.l,wb2.b,wb2.l,wb3.b,wb3.l],atF b1 0 [wa0.b,wa0.l,wa1.b,wa1.l,wa2.b,wa2.l,wa3.b,wa3.l],slF rR p cap l,qF true wa0 wa1 (qa.1),qF true wa2 wa3 (qa.2),qF true wb0 wb1 (qb.1),qF true wb2 wb3 (qb.2)])) ?_ (fun hD4=> ?_)
     ·
      rintro ⟨u3_1r2,u3_2r2⟩
      dsimp only [cw]
      refine zac 4 8 kr ?_ ?_
      ·
       refine zE rfl rfl rfl rfl (.c rfl (.c rfl .n)) ce99 (zob (k1:=true) (u1:=u2_1) (v1:=u2_2) (q1:=Pg.sdq qa qb (l.getD i ((0:Rat),(0:Rat)))) (k2:=true) (u2:=u3_1r2) (v2:=u3_2r2) (q2:=(Pg.sdq qa qb (l.getD i ((0:Rat),(0:Rat)))) - (Pg.sdq qa qb (l.getD ((i+1)%n) ((0:Rat),(0:Rat))))) (hl:=cbo) (hy:=cbo)) (.c (j:=5) rfl (.c (j:=0) rfl .n)) ?_
       rintro ⟨u4_1r2,u4_2r2⟩ -
       dsimp only [aq,nq,cq]
       refine e_dm 5 rfl rfl rfl<|e_pv 6 rfl rfl (zD rfl rfl)<|e_pv 7 rfl rfl (zD rfl rfl) ?_
       exact zaa (hD2 (u3_1r2,u3_2r2,u4_1r2,u4_2r2)) kr ((.of rfl):SubM _ _) .rfl .rfl ((.of [0,1,2,3,4,5,6,7,8,9,10,11,12,13,14,15,16,17] rfl):SelR _ _ _)
      ·
       refine zra rfl rfl rfl rfl (zu zr43 rfl) (fun u8_1r2 _=> ?_)
       exact zaa (hD3 (u3_1r2,u3_2r2,u8_1r2)) kr ((.of rfl):SubM _ _) .rfl .rfl ((.of [0,1,2,3,4,5,6,7,8,9,10,11,12,13,14,15,16] rfl):SelR _ _ _)
     refine zta (X:=Nat) (k':=7) (L':=(lb 11 263)) (fun u8_1r2=>([(14,.pointer (some ⟨u8_1r2,0,none⟩)),(61,.agg (cw [u5_1,u5_2]).toArray),(60,.agg (cw [u2_1,u2_2]).toArray),(59,.agg (cw [u2_1,u2_2]).toArray),(8,.slice p23 (((Pg.clN n qa qb l i).length)+1) c24),(11,.pointer (some ⟨b17,0,none⟩)),(10,.pointer (some ⟨b10,0,none⟩)),(20,.int .i64 ((i:Nat):Int)),(19,.int .i64 ((n:Nat):Int)),(18,.slice p n cap),(7,.func (.func 94) #[] #[.pointer (some ⟨b1,0,none⟩),.pointer (some ⟨b2,0,none⟩)]),(6,.slice none 0 0),(0,.slice p n cap)],[boxA u8_1r2 43 (cw [wz,wz])],[rowA 69 rR p23 c24 ((Pg.clN n qa qb l i)++([(((l.getD i ((0:Rat),(0:Rat))).1),((l.getD i ((0:Rat),(0:Rat))).2))])),emA,boxA u7_1 43 (cw [u5_1,u5_2]),boxA u6_1 43 (cw [u2_1,u2_2]),boxA b17 69 (cw [w13,w14,w15,w16]),boxA b10 69 (cw [w6,w7,w8,w9])],[slF rR (some ⟨b22,0,none⟩) 1 ([(((l.getD i ((0:Rat),(0:Rat))).1),((l.getD i ((0:Rat),(0:Rat))).2))]),qF true w320 w421 ((l.getD i ((0:Rat),(0:Rat))).2),qF true w318 w419 ((l.getD i ((0:Rat),(0:Rat))).1),qF true u5_1 u5_2 (Pg.sdq qa qb (l.getD ((i+1)%n) ((0:Rat),(0:Rat)))),qF true u2_1 u2_2 (Pg.sdq qa qb (l.getD i ((0:Rat),(0:Rat)))),qF true w13 w14 ((l.getD ((i+1)%n) ((0:Rat),(0:Rat))).1),qF true w15 w16 ((l.getD ((i+1)%n) ((0:Rat),(0:Rat))).2),qF true w6 w7 ((l.getD i ((0:Rat),(0:Rat))).1),qF true w8 w9 ((l.getD i ((0:Rat),(0:Rat))).2),atF b2 0 [wb0.b,wb0.l,wb1.b,wb1.l,wb2.b,wb2.l,wb3.b,wb3.l],atF b1 0 [wa0.b,wa0.l,wa1.b,wa1.l,wa2.b,wa2.l,wa3.b,wa3.l],slF rR p cap l,qF true wa0 wa1 (qa.1),qF true wa2 wa3 (qa.2),qF true wb0 wb1 (qb.1),qF true wb2 wb3 (qb.2)])) ?_ (fun hD5=> ?_)
     ·
      rintro u8_1r2
      dsimp only [cw]
      refine zib 3 kr ?_
      ·
       refine zE rfl rfl rfl rfl (.c rfl (.c rfl .n)) ce100 (zEb (k1:=true) (u1:=u2_1) (v1:=u2_2) (q1:=Pg.sdq qa qb (l.getD i ((0:Rat),(0:Rat)))) (k2:=true) (u2:=u5_1) (v2:=u5_2) (q2:=Pg.sdq qa qb (l.getD ((i+1)%n) ((0:Rat),(0:Rat)))) (hl:=cbo)) (.c (j:=4) rfl (.c (j:=3) rfl .n)) ?_
       rintro ⟨u3_1r2,u3_2r2⟩ -
       dsimp only [aq,nq,cq]
       exact zaa (hD3 (u3_1r2,u3_2r2,u8_1r2)) kr ((.of rfl):SubM _ _) .rfl .rfl ((.of [0,1,2,3,4,5,6,7,8,9,10,11,12,13,14,15,16] rfl):SelR _ _ _)
     refine zac 3 8 kr ?_ ?_
     ·
      refine zE rfl rfl rfl rfl (.c rfl (.c rfl .n)) ce100 (zEb (k1:=true) (u1:=u2_1) (v1:=u2_2) (q1:=Pg.sdq qa qb (l.getD i ((0:Rat),(0:Rat)))) (k2:=true) (u2:=u5_1) (v2:=u5_2) (q2:=Pg.sdq qa qb (l.getD ((i+1)%n) ((0:Rat),(0:Rat)))) (hl:=cbo)) (.c (j:=4) rfl (.c (j:=3) rfl .n)) ?_
      rintro ⟨u3_1r2,u3_2r2⟩ -
      dsimp only [aq,nq,cq]
      exact zaa (hD4 (u3_1r2,u3_2r2)) kr ((.of rfl):SubM _ _) .rfl .rfl ((.of [0,1,2,3,4,5,6,7,8,9,10,11,12,13,14,15,16] rfl):SelR _ _ _)
     ·
      refine zra rfl rfl rfl rfl (zu zr43 rfl) (fun u8_1r2 _=> ?_)
      exact zaa (hD5 u8_1r2) kr ((.of rfl):SubM _ _) .rfl .rfl ((.of [0,1,2,3,4,5,6,7,8,9,10,11,12,13,14,15] rfl):SelR _ _ _)
    ·
     refine zt<|zK<|zd ?_
     have hrw:((Pg.clN n qa qb l i)++([(((l.getD i ((0:Rat),(0:Rat))).1),((l.getD i ((0:Rat),(0:Rat))).2))]))=Pg.clN n qa qb l (i+1):=by show _=Pg.clN n qa qb l i++Pg.clA qa qb _ _;first|(rw [Pg.clA_yes hin hcr,List.append_assoc];done)|(rw [Pg.clA_yes hin hcr,List.append_assoc];rfl)|(rw [Pg.clA_in hin hcr];done)|(rw [Pg.clA_in hin hcr];rfl)|(rw [Pg.clA_new hin hcr];done)|(rw [Pg.clA_new hin hcr];rfl)|(rw [Pg.clA_no hin hcr,List.append_nil];done)|(rw [Pg.clA_no hin hcr,List.append_nil];rfl)
     rw [hrw]
     refine za<|e_p (zw (z:=(((i+1):Nat):Int)) rfl rfl (w64 om))<|e_mv rfl<|zh<|zda ((i+1),p23,c24) (show (i+1)≤n from by show i+1≤n;omega) (by show n - (i+1)<n - i;omega) ((.e rfl (by first|(refine congrArg (fun z=>Value.slice _ z _) ?_;dsimp only;rw [← hrw];simp;done)|(refine congrArg (fun z=>Value.slice _ z _) ?_;dsimp only;rw [← hrw];done)|(refine congrArg (fun z=>Value.slice _ z _) ?_;rw [← hrw];done)|(rw [← hrw];done)) (.of rfl)):SubM _ _) (ho:=((.c (i:=0) rfl .n):PickO _ _ _)) ((.of [9,10,11,12,13,14,15] rfl):SelR _ _ _)
   ·
    refine zt<|zd<|ze<|zZ (OW:=[]) (O:=[boxA u7_1 43 (cw [u5_1,u5_2]),boxA u6_1 43 (cw [u2_1,u2_2]),boxA b17 69 (cw [w13,w14,w15,w16]),boxA b10 69 (cw [w6,w7,w8,w9]),rowA 69 rR p7 c7 (Pg.clN n qa qb l i)]) 100000 mixed (.then (.block (.then (.then (.block (.then .ret)))))) kr<|e_u 0 rfl rfl (zc 1 ty43 rfl rfl (.t4 .nil))<|e_u 2 rfl rfl (zc 0 ty43 rfl rfl (.t4 .nil))<|e_one 1 (zua rfl rfl rfl rfl (.c rfl .n) ce97 (zQb (k1:=true) (u1:=u2_1) (v1:=u2_2) (q1:=Pg.sdq qa qb (l.getD i ((0:Rat),(0:Rat))))) (.c (j:=1) rfl .n) ?_)
    refine e_one 3 (zua rfl rfl rfl rfl (.c rfl .n) ce97 (zQb (k1:=true) (u1:=u5_1) (v1:=u5_2) (q1:=Pg.sdq qa qb (l.getD ((i+1)%n) ((0:Rat),(0:Rat))))) (.c (j:=0) rfl .n) ?_)
    refine e_pv 4 rfl rfl (zGa (z:=(Big.sgq (Pg.sdq qa qb (l.getD i ((0:Rat),(0:Rat))))*Big.sgq (Pg.sdq qa qb (l.getD ((i+1)%n) ((0:Rat),(0:Rat)))))) rfl rfl (w64 om))<|e_pv 5 rfl rfl (zR rfl rfl)<|zX kr<|zd<|zB rfl (fun hcr=> ?_) (fun hcr=> ?_)
    ·
     have hne:=Pg.opp hcr
     obtain ⟨hnd,hnf,⟨hnw1,hnw2⟩,hn1,hn2,⟨hnp1,hnp2⟩⟩:=Pg.nb hsi hsj hne hpi hpj
     refine ze<|zZ (OW:=[]) (O:=[boxA u7_1 43 (cw [u5_1,u5_2]),boxA u6_1 43 (cw [u2_1,u2_2]),boxA b17 69 (cw [w13,w14,w15,w16]),boxA b10 69 (cw [w6,w7,w8,w9]),rowA 69 rR p7 c7 (Pg.clN n qa qb l i)]) 9 mixed (.then (.block (.then (.then (.block (.then .ret)))))) kr<|e_u 0 rfl rfl (zc 1 ty43 rfl rfl (.t4 .nil))<|e_u 1 rfl rfl (zc 1 ty43 rfl rfl (.t4 .nil))<|e_u 2 rfl rfl (zc 0 ty43 rfl rfl (.t4 .nil))<|zgd (m':=[(61,.agg (cw [u5_1,u5_2]).toArray),(60,.agg (cw [u2_1,u2_2]).toArray),(59,.agg (cw [u2_1,u2_2]).toArray),(11,.pointer (some ⟨b17,0,none⟩)),(10,.pointer (some ⟨b10,0,none⟩)),(8,.slice p7 ((Pg.clN n qa qb l i).length) c7),(20,.int .i64 ((i:Nat):Int)),(19,.int .i64 ((n:Nat):Int)),(18,.slice p n cap),(7,.func (.func 94) #[] #[.pointer (some ⟨b1,0,none⟩),.pointer (some ⟨b2,0,none⟩)]),(6,.slice none 0 0),(0,.slice p n cap)]) (R':=[qF true u5_1 u5_2 (Pg.sdq qa qb (l.getD ((i+1)%n) ((0:Rat),(0:Rat)))),qF true u2_1 u2_2 (Pg.sdq qa qb (l.getD i ((0:Rat),(0:Rat)))),qF true w13 w14 ((l.getD ((i+1)%n) ((0:Rat),(0:Rat))).1),qF true w15 w16 ((l.getD ((i+1)%n) ((0:Rat),(0:Rat))).2),qF true w6 w7 ((l.getD i ((0:Rat),(0:Rat))).1),qF true w8 w9 ((l.getD i ((0:Rat),(0:Rat))).2),atF b2 0 [wb0.b,wb0.l,wb1.b,wb1.l,wb2.b,wb2.l,wb3.b,wb3.l],atF b1 0 [wa0.b,wa0.l,wa1.b,wa1.l,wa2.b,wa2.l,wa3.b,wa3.l],slF rR p cap l,qF true wa0 wa1 (qa.1),qF true wa2 wa3 (qa.2),qF true wb0 wb1 (qb.1),qF true wb2 wb3 (qb.2)]) ((.of rfl):SubM _ _) (List.Perm.refl _) (List.Perm.refl _) ((.of [0,1,2,3,4,5,6,7,8,9,10,11,12] rfl):SelR _ _ _)<|zta (X:=Wd×Wd×Wd×Wd×Nat) (k':=0) (L':=(lb 11 2047)) (fun (u3_1r3,u3_2r3,u4_1r3,u4_2r3,u8_1r3)=>([(14,.pointer (some ⟨u8_1r3,0,none⟩)),(11,.pointer (some ⟨b17,0,none⟩)),(10,.pointer (some ⟨b10,0,none⟩)),(8,.slice p7 ((Pg.clN n qa qb l i).length) c7),(20,.int .i64 ((i:Nat):Int)),(19,.int .i64 ((n:Nat):Int)),(18,.slice p n cap),(7,.func (.func 94) #[] #[.pointer (some ⟨b1,0,none⟩),.pointer (some ⟨b2,0,none⟩)]),(6,.slice none 0 0),(0,.slice p n cap)],[boxA u8_1r3 43 (cw [u4_1r3,u4_2r3])],[boxA u7_1 43 (cw [u5_1,u5_2]),boxA u6_1 43 (cw [u2_1,u2_2]),boxA b17 69 (cw [w13,w14,w15,w16]),boxA b10 69 (cw [w6,w7,w8,w9]),rowA 69 rR p7 c7 (Pg.clN n qa qb l i)],[qF true u4_1r3 u4_2r3 ((Pg.sdq qa qb (l.getD i ((0:Rat),(0:Rat)))) / ((Pg.sdq qa qb (l.getD i ((0:Rat),(0:Rat)))) - (Pg.sdq qa qb (l.getD ((i+1)%n) ((0:Rat),(0:Rat)))))),qF true u3_1r3 u3_2r3 ((Pg.sdq qa qb (l.getD i ((0:Rat),(0:Rat)))) - (Pg.sdq qa qb (l.getD ((i+1)%n) ((0:Rat),(0:Rat))))),qF true u5_1 u5_2 (Pg.sdq qa qb (l.getD ((i+1)%n) ((0:Rat),(0:Rat)))),qF true u2_1 u2_2 (Pg.sdq qa qb (l.getD i ((0:Rat),(0:Rat)))),qF true w13 w14 ((l.getD ((i+1)%n) ((0:Rat),(0:Rat))).1),qF true w15 w16 ((l.getD ((i+1)%n) ((0:Rat),(0:Rat))).2),qF true w6 w7 ((l.getD i ((0:Rat),(0:Rat))).1),qF true w8 w9 ((l.getD i ((0:Rat),(0:Rat))).2),atF b2 0 [wb0.b,wb0.l,wb1.b,wb1.l,wb2.b,wb2.l,wb3.b,wb3.l],atF b1 0 [wa0.b,wa0.l,wa1.b,wa1.l,wa2.b,wa2.l,wa3.b,wa3.l],slF rR p cap l,qF true wa0 wa1 (qa.1),qF true wa2 wa3 (qa.2),qF true wb0 wb1 (qb.1),qF true wb2 wb3 (qb.2)])) ?_ (fun hD0=> ?_)
     ·
      rintro ⟨u3_1r3,u3_2r3,u4_1r3,u4_2r3,u8_1r3⟩
      dsimp only [cw]
      refine zX kr<|zd<|ze<|za<|e_ru (zc 4 ty69 rfl rfl (.t8 .nil))<|e_ru (zc 3 ty69 rfl rfl (.t8 .nil))<|zL rfl rfl (.c rfl (.c rfl .n)) ce96 (zHc (wa0:=w6) (wa1:=w7) (wa2:=w8) (wa3:=w9) (qa:=(l.getD i ((0:Rat),(0:Rat)))) (wb0:=w13) (wb1:=w14) (wb2:=w15) (wb3:=w16) (qb:=(l.getD ((i+1)%n) ((0:Rat),(0:Rat)))) (K:=K) (K2:=K) (hpa:=cbo) (hpb:=cbo) (hK:=cbo)) (.c (j:=6) rfl (.c (j:=7) rfl (.c (j:=4) rfl (.c (j:=5) rfl .n)))) ?_
      rintro ⟨wr041,wr142,wr243,wr344⟩ -
      dsimp only [aq,nq,cq]
      refine zP rfl rfl (zu zr69 rfl) (fun b45=> ?_)
      refine zq 0 rfl rfl rfl rfl rfl sz69 rfl (.t8 .nil) .z<|zh<|zd<|zwa (.c (i:=6) rfl (.c (i:=0) rfl (.c (i:=0) rfl (.c (i:=0) rfl (.c (i:=0) rfl (.c (i:=0) rfl (.c (i:=0) rfl .n)))))))<|zZ (OW:=[rowA 69 rR p7 c7 (Pg.clN n qa qb l i)]) (O:=[boxA b45 69 (cw [wr041,wr142,wr243,wr344]),boxA u8_1r3 43 (cw [u4_1r3,u4_2r3]),boxA u7_1 43 (cw [u5_1,u5_2]),boxA u6_1 43 (cw [u2_1,u2_2]),boxA b17 69 (cw [w13,w14,w15,w16]),boxA b10 69 (cw [w6,w7,w8,w9])]) 17 mixed (.block (.then (.then (.block (.then .ret))))) kr<|e_dm 0 rfl rfl rfl<|e_pv 1 rfl rfl (zg yj rfl sz43 rfl rfl)<|e_uw 2 rfl rfl (zc 6 ty43 rfl rfl (.t4 .nil))<|e_uw 3 rfl rfl (zc 2 ty43 rfl rfl (.t4 .nil))<|e_pv 4 rfl rfl (zg yj rfl sz43 rfl rfl)<|e_uw 5 rfl rfl (zc 1 ty43 rfl rfl (.t4 .nil))<|e_pv 8 rfl rfl (zg yj rfl sz43 rfl rfl)<|e_uw 9 rfl rfl (zc 6 ty43 rfl rfl (.s4 (.t4 .nil)))<|e_uw 10 rfl rfl (zc 2 ty43 rfl rfl (.t4 .nil))<|e_pv 11 rfl rfl (zg yj rfl sz43 rfl rfl)<|e_uw 12 rfl rfl (zc 1 ty43 rfl rfl (.s4 (.t4 .nil)))<|e_one 6 (zE rfl rfl rfl rfl (.c rfl (.c rfl .n)) ce102 (zVb (k1:=true) (u1:=u4_1r3) (v1:=u4_2r3) (q1:=(Pg.sdq qa qb (l.getD i ((0:Rat),(0:Rat)))) / ((Pg.sdq qa qb (l.getD i ((0:Rat),(0:Rat)))) - (Pg.sdq qa qb (l.getD ((i+1)%n) ((0:Rat),(0:Rat)))))) (k2:=true) (u2:=wr041) (v2:=wr142) (q2:=(Pg.awq (l.getD i ((0:Rat),(0:Rat))) (l.getD ((i+1)%n) ((0:Rat),(0:Rat)))).1) (hl:=cbo)) (.c (j:=2) rfl (.c (j:=0) rfl .n)) ?_)
      rintro ⟨w346,w447⟩ -
      dsimp only [aq,nq,cq]
      refine e_one 7 (zE rfl rfl rfl rfl (.c rfl (.c rfl .n)) ce101 (zpc (k1:=true) (u1:=w6) (v1:=w7) (q1:=(l.getD i ((0:Rat),(0:Rat))).1) (k2:=true) (u2:=w346) (v2:=w447) (q2:=((Pg.sdq qa qb (l.getD i ((0:Rat),(0:Rat)))) / ((Pg.sdq qa qb (l.getD i ((0:Rat),(0:Rat)))) - (Pg.sdq qa qb (l.getD ((i+1)%n) ((0:Rat),(0:Rat))))))*((Pg.awq (l.getD i ((0:Rat),(0:Rat))) (l.getD ((i+1)%n) ((0:Rat),(0:Rat)))).1)) (hl:=cbo)) (.c (j:=9) rfl (.c (j:=0) rfl .n)) ?_)
      rintro ⟨w348,w449⟩ -
      dsimp only [aq,nq,cq]
      refine e_one 13 (zE rfl rfl rfl rfl (.c rfl (.c rfl .n)) ce102 (zVb (k1:=true) (u1:=u4_1r3) (v1:=u4_2r3) (q1:=(Pg.sdq qa qb (l.getD i ((0:Rat),(0:Rat)))) / ((Pg.sdq qa qb (l.getD i ((0:Rat),(0:Rat)))) - (Pg.sdq qa qb (l.getD ((i+1)%n) ((0:Rat),(0:Rat)))))) (k2:=true) (u2:=wr243) (v2:=wr344) (q2:=(Pg.awq (l.getD i ((0:Rat),(0:Rat))) (l.getD ((i+1)%n) ((0:Rat),(0:Rat)))).2) (hl:=cbo)) (.c (j:=4) rfl (.c (j:=3) rfl .n)) ?_)
      rintro ⟨w350,w451⟩ -
      dsimp only [aq,nq,cq]
      refine e_one 14 (zE rfl rfl rfl rfl (.c rfl (.c rfl .n)) ce101 (zpc (k1:=true) (u1:=w8) (v1:=w9) (q1:=(l.getD i ((0:Rat),(0:Rat))).2) (k2:=true) (u2:=w350) (v2:=w451) (q2:=((Pg.sdq qa qb (l.getD i ((0:Rat),(0:Rat)))) / ((Pg.sdq qa qb (l.getD i ((0:Rat),(0:Rat)))) - (Pg.sdq qa qb (l.getD ((i+1)%n) ((0:Rat),(0:Rat))))))*((Pg.awq (l.getD i ((0:Rat),(0:Rat))) (l.getD ((i+1)%n) ((0:Rat),(0:Rat)))).2)) (hl:=cbo)) (.c (j:=12) rfl (.c (j:=0) rfl .n)) ?_)
      rintro ⟨w352,w453⟩ -
      dsimp only [aq,nq,cq]
      refine e_pv 15 rfl rfl (zN zr69 rfl yj (.c sz43 (.c sz43 .n)) (.c rfl (.c rfl .n)) (.c rfl rfl rfl (.t4 .nil) (.c rfl rfl rfl (.s4 (.t4 .nil)) .n)))<|e_one 16 (zEe rfl rfl rfl rfl (zgb (r:=rR) (k:=1) yo inf69 rfl dd dd dd (.c (x:=((((l.getD i ((0:Rat),(0:Rat))).1)+(((Pg.sdq qa qb (l.getD i ((0:Rat),(0:Rat)))) / ((Pg.sdq qa qb (l.getD i ((0:Rat),(0:Rat)))) - (Pg.sdq qa qb (l.getD ((i+1)%n) ((0:Rat),(0:Rat))))))*((Pg.awq (l.getD i ((0:Rat),(0:Rat))) (l.getD ((i+1)%n) ((0:Rat),(0:Rat)))).1))),(((l.getD i ((0:Rat),(0:Rat))).2)+(((Pg.sdq qa qb (l.getD i ((0:Rat),(0:Rat)))) / ((Pg.sdq qa qb (l.getD i ((0:Rat),(0:Rat)))) - (Pg.sdq qa qb (l.getD ((i+1)%n) ((0:Rat),(0:Rat))))))*((Pg.awq (l.getD i ((0:Rat),(0:Rat))) (l.getD ((i+1)%n) ((0:Rat),(0:Rat)))).2))))) (cs:=[w348.b,w348.l,w449.b,w449.l,w352.b,w352.l,w453.b,w453.l]) (w348,w449,w352,w453) rfl rfl rfl (fun g hr=>⟨Holds.get 2 rfl hr,Holds.get 0 rfl hr⟩) .n)) (fun b54 _=> ?_))
      refine zUb 0 rfl .z<|e_one 17 (zBd (A':=fun v:Option Addr×Nat=>rowA 69 rR v.1 v.2 ((Pg.clN n qa qb l i)++([((((l.getD i ((0:Rat),(0:Rat))).1)+(((Pg.sdq qa qb (l.getD i ((0:Rat),(0:Rat)))) / ((Pg.sdq qa qb (l.getD i ((0:Rat),(0:Rat)))) - (Pg.sdq qa qb (l.getD ((i+1)%n) ((0:Rat),(0:Rat))))))*((Pg.awq (l.getD i ((0:Rat),(0:Rat))) (l.getD ((i+1)%n) ((0:Rat),(0:Rat)))).1))),(((l.getD i ((0:Rat),(0:Rat))).2)+(((Pg.sdq qa qb (l.getD i ((0:Rat),(0:Rat)))) / ((Pg.sdq qa qb (l.getD i ((0:Rat),(0:Rat)))) - (Pg.sdq qa qb (l.getD ((i+1)%n) ((0:Rat),(0:Rat))))))*((Pg.awq (l.getD i ((0:Rat),(0:Rat))) (l.getD ((i+1)%n) ((0:Rat),(0:Rat)))).2))))]))) kr rfl rfl rfl (zza 0 rfl yo inf69 dd rfl rfl cbs rfl cbs om om) ?_)
      rintro ⟨p55,c56⟩ -
      dsimp only [aq,nq,cq]
      refine e_pv 18 rfl rfl (zb rfl)<|zX kr<|zK<|zd ?_
      have hrw:((Pg.clN n qa qb l i)++([((((l.getD i ((0:Rat),(0:Rat))).1)+(((Pg.sdq qa qb (l.getD i ((0:Rat),(0:Rat)))) / ((Pg.sdq qa qb (l.getD i ((0:Rat),(0:Rat)))) - (Pg.sdq qa qb (l.getD ((i+1)%n) ((0:Rat),(0:Rat))))))*((Pg.awq (l.getD i ((0:Rat),(0:Rat))) (l.getD ((i+1)%n) ((0:Rat),(0:Rat)))).1))),(((l.getD i ((0:Rat),(0:Rat))).2)+(((Pg.sdq qa qb (l.getD i ((0:Rat),(0:Rat)))) / ((Pg.sdq qa qb (l.getD i ((0:Rat),(0:Rat)))) - (Pg.sdq qa qb (l.getD ((i+1)%n) ((0:Rat),(0:Rat))))))*((Pg.awq (l.getD i ((0:Rat),(0:Rat))) (l.getD ((i+1)%n) ((0:Rat),(0:Rat)))).2))))]))=Pg.clN n qa qb l (i+1):=by show _=Pg.clN n qa qb l i++Pg.clA qa qb _ _;first|(rw [Pg.clA_yes hin hcr,List.append_assoc];done)|(rw [Pg.clA_yes hin hcr,List.append_assoc];rfl)|(rw [Pg.clA_in hin hcr];done)|(rw [Pg.clA_in hin hcr];rfl)|(rw [Pg.clA_new hin hcr];done)|(rw [Pg.clA_new hin hcr];rfl)|(rw [Pg.clA_no hin hcr,List.append_nil];done)|(rw [Pg.clA_no hin hcr,List.append_nil];rfl)
      rw [hrw]
      refine za<|e_p (zw (z:=(((i+1):Nat):Int)) rfl rfl (w64 om))<|e_mv rfl<|zh<|zda ((i+1),p55,c56) (show (i+1)≤n from by show i+1≤n;omega) (by show n - (i+1)<n - i;omega) ((.e rfl (by first|(refine congrArg (fun z=>Value.slice _ z _) ?_;dsimp only;rw [← hrw];simp;done)|(refine congrArg (fun z=>Value.slice _ z _) ?_;dsimp only;rw [← hrw];done)|(refine congrArg (fun z=>Value.slice _ z _) ?_;rw [← hrw];done)|(rw [← hrw];done)) (.of rfl)):SubM _ _) (ho:=((.c (i:=0) rfl .n):PickO _ _ _)) ((.of [15,16,17,18,19,20,21] rfl):SelR _ _ _)
     refine zta (X:=Wd×Wd×Wd×Wd×Nat) (k':=2) (L':=(lb 11 511)) (fun (u3_1r3,u3_2r3,u4_1r3,u4_2r3,u8_1r3)=>([(14,.pointer (some ⟨u8_1r3,0,none⟩)),(65,.int .i64 0),(64,.agg (cw [u4_1r3,u4_2r3]).toArray),(11,.pointer (some ⟨b17,0,none⟩)),(10,.pointer (some ⟨b10,0,none⟩)),(8,.slice p7 ((Pg.clN n qa qb l i).length) c7),(20,.int .i64 ((i:Nat):Int)),(19,.int .i64 ((n:Nat):Int)),(18,.slice p n cap),(7,.func (.func 94) #[] #[.pointer (some ⟨b1,0,none⟩),.pointer (some ⟨b2,0,none⟩)]),(6,.slice none 0 0),(0,.slice p n cap)],[boxA u8_1r3 43 (cw [wz,wz])],[boxA u7_1 43 (cw [u5_1,u5_2]),boxA u6_1 43 (cw [u2_1,u2_2]),boxA b17 69 (cw [w13,w14,w15,w16]),boxA b10 69 (cw [w6,w7,w8,w9]),rowA 69 rR p7 c7 (Pg.clN n qa qb l i)],[qF true u4_1r3 u4_2r3 ((Pg.sdq qa qb (l.getD i ((0:Rat),(0:Rat)))) / ((Pg.sdq qa qb (l.getD i ((0:Rat),(0:Rat)))) - (Pg.sdq qa qb (l.getD ((i+1)%n) ((0:Rat),(0:Rat)))))),qF true u3_1r3 u3_2r3 ((Pg.sdq qa qb (l.getD i ((0:Rat),(0:Rat)))) - (Pg.sdq qa qb (l.getD ((i+1)%n) ((0:Rat),(0:Rat))))),qF true u5_1 u5_2 (Pg.sdq qa qb (l.getD ((i+1)%n) ((0:Rat),(0:Rat)))),qF true u2_1 u2_2 (Pg.sdq qa qb (l.getD i ((0:Rat),(0:Rat)))),qF true w13 w14 ((l.getD ((i+1)%n) ((0:Rat),(0:Rat))).1),qF true w15 w16 ((l.getD ((i+1)%n) ((0:Rat),(0:Rat))).2),qF true w6 w7 ((l.getD i ((0:Rat),(0:Rat))).1),qF true w8 w9 ((l.getD i ((0:Rat),(0:Rat))).2),atF b2 0 [wb0.b,wb0.l,wb1.b,wb1.l,wb2.b,wb2.l,wb3.b,wb3.l],atF b1 0 [wa0.b,wa0.l,wa1.b,wa1.l,wa2.b,wa2.l,wa3.b,wa3.l],slF rR p cap l,qF true wa0 wa1 (qa.1),qF true wa2 wa3 (qa.2),qF true wb0 wb1 (qb.1),qF true wb2 wb3 (qb.2)])) ?_ (fun hD1=> ?_)
     ·
      rintro ⟨u3_1r3,u3_2r3,u4_1r3,u4_2r3,u8_1r3⟩
      dsimp only [cw]
      refine zib 9 kr ?_
      ·
       refine zA kr rfl rfl rfl rfl rfl sz43 rfl (.t4 .nil)<|e_pv 10 rfl rfl (zb rfl) ?_
       exact zaa (hD0 (u3_1r3,u3_2r3,u4_1r3,u4_2r3,u8_1r3)) kr ((.of rfl):SubM _ _) .rfl .rfl ((.of [0,1,2,3,4,5,6,7,8,9,10,11,12,13,14] rfl):SelR _ _ _)
     refine zta (X:=Wd×Wd×Wd×Wd) (k':=3) (L':=(lb 11 255)) (fun (u3_1r3,u3_2r3,u4_1r3,u4_2r3)=>([(65,.int .i64 0),(64,.agg (cw [u4_1r3,u4_2r3]).toArray),(11,.pointer (some ⟨b17,0,none⟩)),(10,.pointer (some ⟨b10,0,none⟩)),(8,.slice p7 ((Pg.clN n qa qb l i).length) c7),(20,.int .i64 ((i:Nat):Int)),(19,.int .i64 ((n:Nat):Int)),(18,.slice p n cap),(7,.func (.func 94) #[] #[.pointer (some ⟨b1,0,none⟩),.pointer (some ⟨b2,0,none⟩)]),(6,.slice none 0 0),(0,.slice p n cap)],[],[boxA u7_1 43 (cw [u5_1,u5_2]),boxA u6_1 43 (cw [u2_1,u2_2]),boxA b17 69 (cw [w13,w14,w15,w16]),boxA b10 69 (cw [w6,w7,w8,w9]),rowA 69 rR p7 c7 (Pg.clN n qa qb l i)],[qF true u4_1r3 u4_2r3 ((Pg.sdq qa qb (l.getD i ((0:Rat),(0:Rat)))) / ((Pg.sdq qa qb (l.getD i ((0:Rat),(0:Rat)))) - (Pg.sdq qa qb (l.getD ((i+1)%n) ((0:Rat),(0:Rat)))))),qF true u3_1r3 u3_2r3 ((Pg.sdq qa qb (l.getD i ((0:Rat),(0:Rat)))) - (Pg.sdq qa qb (l.getD ((i+1)%n) ((0:Rat),(0:Rat))))),qF true u5_1 u5_2 (Pg.sdq qa qb (l.getD ((i+1)%n) ((0:Rat),(0:Rat)))),qF true u2_1 u2_2 (Pg.sdq qa qb (l.getD i ((0:Rat),(0:Rat)))),qF true w13 w14 ((l.getD ((i+1)%n) ((0:Rat),(0:Rat))).1),qF true w15 w16 ((l.getD ((i+1)%n) ((0:Rat),(0:Rat))).2),qF true w6 w7 ((l.getD i ((0:Rat),(0:Rat))).1),qF true w8 w9 ((l.getD i ((0:Rat),(0:Rat))).2),atF b2 0 [wb0.b,wb0.l,wb1.b,wb1.l,wb2.b,wb2.l,wb3.b,wb3.l],atF b1 0 [wa0.b,wa0.l,wa1.b,wa1.l,wa2.b,wa2.l,wa3.b,wa3.l],slF rR p cap l,qF true wa0 wa1 (qa.1),qF true wa2 wa3 (qa.2),qF true wb0 wb1 (qb.1),qF true wb2 wb3 (qb.2)])) ?_ (fun hD2=> ?_)
     ·
      rintro ⟨u3_1r3,u3_2r3,u4_1r3,u4_2r3⟩
      dsimp only [cw]
      refine zib 8 kr ?_
      ·
       refine zra rfl rfl rfl rfl (zu zr43 rfl) (fun u8_1r3 _=> ?_)
       exact zaa (hD1 (u3_1r3,u3_2r3,u4_1r3,u4_2r3,u8_1r3)) kr ((.of rfl):SubM _ _) .rfl .rfl ((.of [0,1,2,3,4,5,6,7,8,9,10,11,12,13,14] rfl):SelR _ _ _)
     refine zta (X:=Wd×Wd×Nat) (k':=6) (L':=(lb 11 271)) (fun (u3_1r3,u3_2r3,u8_1r3)=>([(14,.pointer (some ⟨u8_1r3,0,none⟩)),(62,.agg (cw [u3_1r3,u3_2r3]).toArray),(59,.agg (cw [u2_1,u2_2]).toArray),(11,.pointer (some ⟨b17,0,none⟩)),(10,.pointer (some ⟨b10,0,none⟩)),(8,.slice p7 ((Pg.clN n qa qb l i).length) c7),(20,.int .i64 ((i:Nat):Int)),(19,.int .i64 ((n:Nat):Int)),(18,.slice p n cap),(7,.func (.func 94) #[] #[.pointer (some ⟨b1,0,none⟩),.pointer (some ⟨b2,0,none⟩)]),(6,.slice none 0 0),(0,.slice p n cap)],[boxA u8_1r3 43 (cw [wz,wz])],[boxA u7_1 43 (cw [u5_1,u5_2]),boxA u6_1 43 (cw [u2_1,u2_2]),boxA b17 69 (cw [w13,w14,w15,w16]),boxA b10 69 (cw [w6,w7,w8,w9]),rowA 69 rR p7 c7 (Pg.clN n qa qb l i)],[qF true u3_1r3 u3_2r3 ((Pg.sdq qa qb (l.getD i ((0:Rat),(0:Rat)))) - (Pg.sdq qa qb (l.getD ((i+1)%n) ((0:Rat),(0:Rat))))),qF true u5_1 u5_2 (Pg.sdq qa qb (l.getD ((i+1)%n) ((0:Rat),(0:Rat)))),qF true u2_1 u2_2 (Pg.sdq qa qb (l.getD i ((0:Rat),(0:Rat)))),qF true w13 w14 ((l.getD ((i+1)%n) ((0:Rat),(0:Rat))).1),qF true w15 w16 ((l.getD ((i+1)%n) ((0:Rat),(0:Rat))).2),qF true w6 w7 ((l.getD i ((0:Rat),(0:Rat))).1),qF true w8 w9 ((l.getD i ((0:Rat),(0:Rat))).2),atF b2 0 [wb0.b,wb0.l,wb1.b,wb1.l,wb2.b,wb2.l,wb3.b,wb3.l],atF b1 0 [wa0.b,wa0.l,wa1.b,wa1.l,wa2.b,wa2.l,wa3.b,wa3.l],slF rR p cap l,qF true wa0 wa1 (qa.1),qF true wa2 wa3 (qa.2),qF true wb0 wb1 (qb.1),qF true wb2 wb3 (qb.2)])) ?_ (fun hD3=> ?_)
     ·
      rintro ⟨u3_1r3,u3_2r3,u8_1r3⟩
      dsimp only [cw]
      refine zib 4 kr ?_
      ·
       refine zE rfl rfl rfl rfl (.c rfl (.c rfl .n)) ce99 (zob (k1:=true) (u1:=u2_1) (v1:=u2_2) (q1:=Pg.sdq qa qb (l.getD i ((0:Rat),(0:Rat)))) (k2:=true) (u2:=u3_1r3) (v2:=u3_2r3) (q2:=(Pg.sdq qa qb (l.getD i ((0:Rat),(0:Rat)))) - (Pg.sdq qa qb (l.getD ((i+1)%n) ((0:Rat),(0:Rat))))) (hl:=cbo) (hy:=cbo)) (.c (j:=2) rfl (.c (j:=0) rfl .n)) ?_
       rintro ⟨u4_1r3,u4_2r3⟩ -
       dsimp only [aq,nq,cq]
       refine e_dm 5 rfl rfl rfl<|e_pv 6 rfl rfl (zD rfl rfl)<|e_pv 7 rfl rfl (zD rfl rfl) ?_
       exact zaa (hD1 (u3_1r3,u3_2r3,u4_1r3,u4_2r3,u8_1r3)) kr ((.of rfl):SubM _ _) .rfl .rfl ((.of [0,1,2,3,4,5,6,7,8,9,10,11,12,13,14] rfl):SelR _ _ _)
     refine zta (X:=Wd×Wd) (k':=7) (L':=(lb 11 15)) (fun (u3_1r3,u3_2r3)=>([(62,.agg (cw [u3_1r3,u3_2r3]).toArray),(59,.agg (cw [u2_1,u2_2]).toArray),(11,.pointer (some ⟨b17,0,none⟩)),(10,.pointer (some ⟨b10,0,none⟩)),(8,.slice p7 ((Pg.clN n qa qb l i).length) c7),(20,.int .i64 ((i:Nat):Int)),(19,.int .i64 ((n:Nat):Int)),(18,.slice p n cap),(7,.func (.func 94) #[] #[.pointer (some ⟨b1,0,none⟩),.pointer (some ⟨b2,0,none⟩)]),(6,.slice none 0 0),(0,.slice p n cap)],[],[boxA u7_1 43 (cw [u5_1,u5_2]),boxA u6_1 43 (cw [u2_1,u2_2]),boxA b17 69 (cw [w13,w14,w15,w16]),boxA b10 69 (cw [w6,w7,w8,w9]),rowA 69 rR p7 c7 (Pg.clN n qa qb l i)],[qF true u3_1r3 u3_2r3 ((Pg.sdq qa qb (l.getD i ((0:Rat),(0:Rat)))) - (Pg.sdq qa qb (l.getD ((i+1)%n) ((0:Rat),(0:Rat))))),qF true u5_1 u5_2 (Pg.sdq qa qb (l.getD ((i+1)%n) ((0:Rat),(0:Rat)))),qF true u2_1 u2_2 (Pg.sdq qa qb (l.getD i ((0:Rat),(0:Rat)))),qF true w13 w14 ((l.getD ((i+1)%n) ((0:Rat),(0:Rat))).1),qF true w15 w16 ((l.getD ((i+1)%n) ((0:Rat),(0:Rat))).2),qF true w6 w7 ((l.getD i ((0:Rat),(0:Rat))).1),qF true w8 w9 ((l.getD i ((0:Rat),(0:Rat))).2),atF b2 0 [wb0.b,wb0.l,wb1.b,wb1.l,wb2.b,wb2.l,wb3.b,wb3.l],atF b1 0 [wa0.b,wa0.l,wa1.b,wa1.l,wa2.b,wa2.l,wa3.b,wa3.l],slF rR p cap l,qF true wa0 wa1 (qa.1),qF true wa2 wa3 (qa.2),qF true wb0 wb1 (qb.1),qF true wb2 wb3 (qb.2)])) ?_ (fun hD4=> ?_)
     ·
      rintro ⟨u3_1r3,u3_2r3⟩
      dsimp only [cw]
      refine zac 4 8 kr ?_ ?_
      ·
       refine zE rfl rfl rfl rfl (.c rfl (.c rfl .n)) ce99 (zob (k1:=true) (u1:=u2_1) (v1:=u2_2) (q1:=Pg.sdq qa qb (l.getD i ((0:Rat),(0:Rat)))) (k2:=true) (u2:=u3_1r3) (v2:=u3_2r3) (q2:=(Pg.sdq qa qb (l.getD i ((0:Rat),(0:Rat)))) - (Pg.sdq qa qb (l.getD ((i+1)%n) ((0:Rat),(0:Rat))))) (hl:=cbo) (hy:=cbo)) (.c (j:=2) rfl (.c (j:=0) rfl .n)) ?_
       rintro ⟨u4_1r3,u4_2r3⟩ -
       dsimp only [aq,nq,cq]
       refine e_dm 5 rfl rfl rfl<|e_pv 6 rfl rfl (zD rfl rfl)<|e_pv 7 rfl rfl (zD rfl rfl) ?_
       exact zaa (hD2 (u3_1r3,u3_2r3,u4_1r3,u4_2r3)) kr ((.of rfl):SubM _ _) .rfl .rfl ((.of [0,1,2,3,4,5,6,7,8,9,10,11,12,13,14] rfl):SelR _ _ _)
      ·
       refine zra rfl rfl rfl rfl (zu zr43 rfl) (fun u8_1r3 _=> ?_)
       exact zaa (hD3 (u3_1r3,u3_2r3,u8_1r3)) kr ((.of rfl):SubM _ _) .rfl .rfl ((.of [0,1,2,3,4,5,6,7,8,9,10,11,12,13] rfl):SelR _ _ _)
     refine zta (X:=Nat) (k':=7) (L':=(lb 11 263)) (fun u8_1r3=>([(14,.pointer (some ⟨u8_1r3,0,none⟩)),(61,.agg (cw [u5_1,u5_2]).toArray),(60,.agg (cw [u2_1,u2_2]).toArray),(59,.agg (cw [u2_1,u2_2]).toArray),(11,.pointer (some ⟨b17,0,none⟩)),(10,.pointer (some ⟨b10,0,none⟩)),(8,.slice p7 ((Pg.clN n qa qb l i).length) c7),(20,.int .i64 ((i:Nat):Int)),(19,.int .i64 ((n:Nat):Int)),(18,.slice p n cap),(7,.func (.func 94) #[] #[.pointer (some ⟨b1,0,none⟩),.pointer (some ⟨b2,0,none⟩)]),(6,.slice none 0 0),(0,.slice p n cap)],[boxA u8_1r3 43 (cw [wz,wz])],[boxA u7_1 43 (cw [u5_1,u5_2]),boxA u6_1 43 (cw [u2_1,u2_2]),boxA b17 69 (cw [w13,w14,w15,w16]),boxA b10 69 (cw [w6,w7,w8,w9]),rowA 69 rR p7 c7 (Pg.clN n qa qb l i)],[qF true u5_1 u5_2 (Pg.sdq qa qb (l.getD ((i+1)%n) ((0:Rat),(0:Rat)))),qF true u2_1 u2_2 (Pg.sdq qa qb (l.getD i ((0:Rat),(0:Rat)))),qF true w13 w14 ((l.getD ((i+1)%n) ((0:Rat),(0:Rat))).1),qF true w15 w16 ((l.getD ((i+1)%n) ((0:Rat),(0:Rat))).2),qF true w6 w7 ((l.getD i ((0:Rat),(0:Rat))).1),qF true w8 w9 ((l.getD i ((0:Rat),(0:Rat))).2),atF b2 0 [wb0.b,wb0.l,wb1.b,wb1.l,wb2.b,wb2.l,wb3.b,wb3.l],atF b1 0 [wa0.b,wa0.l,wa1.b,wa1.l,wa2.b,wa2.l,wa3.b,wa3.l],slF rR p cap l,qF true wa0 wa1 (qa.1),qF true wa2 wa3 (qa.2),qF true wb0 wb1 (qb.1),qF true wb2 wb3 (qb.2)])) ?_ (fun hD5=> ?_)
     ·
      rintro u8_1r3
      dsimp only [cw]
      refine zib 3 kr ?_
      ·
       refine zE rfl rfl rfl rfl (.c rfl (.c rfl .n)) ce100 (zEb (k1:=true) (u1:=u2_1) (v1:=u2_2) (q1:=Pg.sdq qa qb (l.getD i ((0:Rat),(0:Rat)))) (k2:=true) (u2:=u5_1) (v2:=u5_2) (q2:=Pg.sdq qa qb (l.getD ((i+1)%n) ((0:Rat),(0:Rat)))) (hl:=cbo)) (.c (j:=1) rfl (.c (j:=0) rfl .n)) ?_
       rintro ⟨u3_1r3,u3_2r3⟩ -
       dsimp only [aq,nq,cq]
       exact zaa (hD3 (u3_1r3,u3_2r3,u8_1r3)) kr ((.of rfl):SubM _ _) .rfl .rfl ((.of [0,1,2,3,4,5,6,7,8,9,10,11,12,13] rfl):SelR _ _ _)
     refine zac 3 8 kr ?_ ?_
     ·
      refine zE rfl rfl rfl rfl (.c rfl (.c rfl .n)) ce100 (zEb (k1:=true) (u1:=u2_1) (v1:=u2_2) (q1:=Pg.sdq qa qb (l.getD i ((0:Rat),(0:Rat)))) (k2:=true) (u2:=u5_1) (v2:=u5_2) (q2:=Pg.sdq qa qb (l.getD ((i+1)%n) ((0:Rat),(0:Rat)))) (hl:=cbo)) (.c (j:=1) rfl (.c (j:=0) rfl .n)) ?_
      rintro ⟨u3_1r3,u3_2r3⟩ -
      dsimp only [aq,nq,cq]
      exact zaa (hD4 (u3_1r3,u3_2r3)) kr ((.of rfl):SubM _ _) .rfl .rfl ((.of [0,1,2,3,4,5,6,7,8,9,10,11,12,13] rfl):SelR _ _ _)
     ·
      refine zra rfl rfl rfl rfl (zu zr43 rfl) (fun u8_1r3 _=> ?_)
      exact zaa (hD5 u8_1r3) kr ((.of rfl):SubM _ _) .rfl .rfl ((.of [0,1,2,3,4,5,6,7,8,9,10,11,12] rfl):SelR _ _ _)
    ·
     refine zt<|zK<|zd ?_
     have hrw:(Pg.clN n qa qb l i)=Pg.clN n qa qb l (i+1):=by show _=Pg.clN n qa qb l i++Pg.clA qa qb _ _;first|(rw [Pg.clA_yes hin hcr,List.append_assoc];done)|(rw [Pg.clA_yes hin hcr,List.append_assoc];rfl)|(rw [Pg.clA_in hin hcr];done)|(rw [Pg.clA_in hin hcr];rfl)|(rw [Pg.clA_new hin hcr];done)|(rw [Pg.clA_new hin hcr];rfl)|(rw [Pg.clA_no hin hcr,List.append_nil];done)|(rw [Pg.clA_no hin hcr,List.append_nil];rfl)
     rw [hrw]
     refine za<|e_p (zw (z:=(((i+1):Nat):Int)) rfl rfl (w64 om))<|e_mv rfl<|zh<|zda ((i+1),p7,c7) (show (i+1)≤n from by show i+1≤n;omega) (by show n - (i+1)<n - i;omega) ((.e rfl (by first|(refine congrArg (fun z=>Value.slice _ z _) ?_;dsimp only;rw [← hrw];simp;done)|(refine congrArg (fun z=>Value.slice _ z _) ?_;dsimp only;rw [← hrw];done)|(refine congrArg (fun z=>Value.slice _ z _) ?_;rw [← hrw];done)|(rw [← hrw];done)) (.of rfl)):SubM _ _) (ho:=((.c (i:=4) rfl .n):PickO _ _ _)) ((.of [6,7,8,9,10,11,12] rfl):SelR _ _ _)
  refine zta (X:=Wd×Wd×Wd×Wd×Nat×Nat) (k':=1) (L':=(lb 10 511)) (fun (u2_1,u2_2,u5_1,u5_2,u6_1,u7_1)=>([(13,.pointer (some ⟨u7_1,0,none⟩)),(12,.pointer (some ⟨u6_1,0,none⟩)),(38,.agg (cw [u5_1,u5_2]).toArray),(11,.pointer (some ⟨b17,0,none⟩)),(10,.pointer (some ⟨b10,0,none⟩)),(8,.slice p7 ((Pg.clN n qa qb l i).length) c7),(20,.int .i64 ((i:Nat):Int)),(19,.int .i64 ((n:Nat):Int)),(18,.slice p n cap),(7,.func (.func 94) #[] #[.pointer (some ⟨b1,0,none⟩),.pointer (some ⟨b2,0,none⟩)]),(6,.slice none 0 0),(0,.slice p n cap)],[boxA u6_1 43 (cw [u2_1,u2_2]),boxA u7_1 43 (cw [wz,wz])],[boxA b17 69 (cw [w13,w14,w15,w16]),boxA b10 69 (cw [w6,w7,w8,w9]),rowA 69 rR p7 c7 (Pg.clN n qa qb l i)],[qF true u5_1 u5_2 (Pg.sdq qa qb (l.getD ((i+1)%n) ((0:Rat),(0:Rat)))),qF true u2_1 u2_2 (Pg.sdq qa qb (l.getD i ((0:Rat),(0:Rat)))),qF true w13 w14 ((l.getD ((i+1)%n) ((0:Rat),(0:Rat))).1),qF true w15 w16 ((l.getD ((i+1)%n) ((0:Rat),(0:Rat))).2),qF true w6 w7 ((l.getD i ((0:Rat),(0:Rat))).1),qF true w8 w9 ((l.getD i ((0:Rat),(0:Rat))).2),atF b2 0 [wb0.b,wb0.l,wb1.b,wb1.l,wb2.b,wb2.l,wb3.b,wb3.l],atF b1 0 [wa0.b,wa0.l,wa1.b,wa1.l,wa2.b,wa2.l,wa3.b,wa3.l],slF rR p cap l,qF true wa0 wa1 (qa.1),qF true wa2 wa3 (qa.2),qF true wb0 wb1 (qb.1),qF true wb2 wb3 (qb.2)])) ?_ (fun hD1=> ?_)
  ·
   rintro ⟨u2_1,u2_2,u5_1,u5_2,u6_1,u7_1⟩
   dsimp only [cw]
   refine zib 9 kr ?_
   ·
    refine zLb (zea (i:=1) rfl)<|zA kr rfl rfl rfl rfl rfl sz43 rfl (.t4 .nil) ?_
    exact zaa (hD0 (u2_1,u2_2,u5_1,u5_2,u6_1,u7_1)) kr ((.of rfl):SubM _ _) .rfl .rfl ((.of [0,1,2,3,4,5,6,7,8,9,10,11,12] rfl):SelR _ _ _)
  refine zta (X:=Wd×Wd×Wd×Wd×Nat×Nat) (k':=2) (L':=(lb 10 255)) (fun (u2_1,u2_2,u5_1,u5_2,u6_1,u7_1)=>([(13,.pointer (some ⟨u7_1,0,none⟩)),(12,.pointer (some ⟨u6_1,0,none⟩)),(38,.agg (cw [u5_1,u5_2]).toArray),(35,.agg (cw [u2_1,u2_2]).toArray),(11,.pointer (some ⟨b17,0,none⟩)),(10,.pointer (some ⟨b10,0,none⟩)),(8,.slice p7 ((Pg.clN n qa qb l i).length) c7),(20,.int .i64 ((i:Nat):Int)),(19,.int .i64 ((n:Nat):Int)),(18,.slice p n cap),(7,.func (.func 94) #[] #[.pointer (some ⟨b1,0,none⟩),.pointer (some ⟨b2,0,none⟩)]),(6,.slice none 0 0),(0,.slice p n cap)],[boxA u7_1 43 (cw [wz,wz]),boxA u6_1 43 (cw [wz,wz])],[boxA b17 69 (cw [w13,w14,w15,w16]),boxA b10 69 (cw [w6,w7,w8,w9]),rowA 69 rR p7 c7 (Pg.clN n qa qb l i)],[qF true u5_1 u5_2 (Pg.sdq qa qb (l.getD ((i+1)%n) ((0:Rat),(0:Rat)))),qF true u2_1 u2_2 (Pg.sdq qa qb (l.getD i ((0:Rat),(0:Rat)))),qF true w13 w14 ((l.getD ((i+1)%n) ((0:Rat),(0:Rat))).1),qF true w15 w16 ((l.getD ((i+1)%n) ((0:Rat),(0:Rat))).2),qF true w6 w7 ((l.getD i ((0:Rat),(0:Rat))).1),qF true w8 w9 ((l.getD i ((0:Rat),(0:Rat))).2),atF b2 0 [wb0.b,wb0.l,wb1.b,wb1.l,wb2.b,wb2.l,wb3.b,wb3.l],atF b1 0 [wa0.b,wa0.l,wa1.b,wa1.l,wa2.b,wa2.l,wa3.b,wa3.l],slF rR p cap l,qF true wa0 wa1 (qa.1),qF true wa2 wa3 (qa.2),qF true wb0 wb1 (qb.1),qF true wb2 wb3 (qb.2)])) ?_ (fun hD2=> ?_)
  ·
   rintro ⟨u2_1,u2_2,u5_1,u5_2,u6_1,u7_1⟩
   dsimp only [cw]
   refine zib 8 kr ?_
   ·
    refine zLb (zea (i:=1) rfl)<|zA kr rfl rfl rfl rfl rfl sz43 rfl (.t4 .nil) ?_
    exact zaa (hD1 (u2_1,u2_2,u5_1,u5_2,u6_1,u7_1)) kr ((.of rfl):SubM _ _) .rfl .rfl ((.of [0,1,2,3,4,5,6,7,8,9,10,11,12] rfl):SelR _ _ _)
  refine zta (X:=Wd×Wd×Wd×Wd×Nat) (k':=3) (L':=(lb 10 127)) (fun (u2_1,u2_2,u5_1,u5_2,u6_1)=>([(12,.pointer (some ⟨u6_1,0,none⟩)),(38,.agg (cw [u5_1,u5_2]).toArray),(35,.agg (cw [u2_1,u2_2]).toArray),(11,.pointer (some ⟨b17,0,none⟩)),(10,.pointer (some ⟨b10,0,none⟩)),(8,.slice p7 ((Pg.clN n qa qb l i).length) c7),(20,.int .i64 ((i:Nat):Int)),(19,.int .i64 ((n:Nat):Int)),(18,.slice p n cap),(7,.func (.func 94) #[] #[.pointer (some ⟨b1,0,none⟩),.pointer (some ⟨b2,0,none⟩)]),(6,.slice none 0 0),(0,.slice p n cap)],[boxA u6_1 43 (cw [wz,wz])],[boxA b17 69 (cw [w13,w14,w15,w16]),boxA b10 69 (cw [w6,w7,w8,w9]),rowA 69 rR p7 c7 (Pg.clN n qa qb l i)],[qF true u5_1 u5_2 (Pg.sdq qa qb (l.getD ((i+1)%n) ((0:Rat),(0:Rat)))),qF true u2_1 u2_2 (Pg.sdq qa qb (l.getD i ((0:Rat),(0:Rat)))),qF true w13 w14 ((l.getD ((i+1)%n) ((0:Rat),(0:Rat))).1),qF true w15 w16 ((l.getD ((i+1)%n) ((0:Rat),(0:Rat))).2),qF true w6 w7 ((l.getD i ((0:Rat),(0:Rat))).1),qF true w8 w9 ((l.getD i ((0:Rat),(0:Rat))).2),atF b2 0 [wb0.b,wb0.l,wb1.b,wb1.l,wb2.b,wb2.l,wb3.b,wb3.l],atF b1 0 [wa0.b,wa0.l,wa1.b,wa1.l,wa2.b,wa2.l,wa3.b,wa3.l],slF rR p cap l,qF true wa0 wa1 (qa.1),qF true wa2 wa3 (qa.2),qF true wb0 wb1 (qb.1),qF true wb2 wb3 (qb.2)])) ?_ (fun hD3=> ?_)
  ·
   rintro ⟨u2_1,u2_2,u5_1,u5_2,u6_1⟩
   dsimp only [cw]
   refine zib 7 kr ?_
   ·
    refine zra rfl rfl rfl rfl (zu zr43 rfl) (fun u7_1 _=> ?_)
    exact zaa (hD2 (u2_1,u2_2,u5_1,u5_2,u6_1,u7_1)) kr ((.of rfl):SubM _ _) .rfl .rfl ((.of [0,1,2,3,4,5,6,7,8,9,10,11,12] rfl):SelR _ _ _)
  refine zta (X:=Wd×Wd×Wd×Wd×Nat) (k':=3) (L':=(lb 10 191)) (fun (u2_1,u2_2,u5_1,u5_2,u7_1)=>([(13,.pointer (some ⟨u7_1,0,none⟩)),(38,.agg (cw [u5_1,u5_2]).toArray),(35,.agg (cw [u2_1,u2_2]).toArray),(11,.pointer (some ⟨b17,0,none⟩)),(10,.pointer (some ⟨b10,0,none⟩)),(8,.slice p7 ((Pg.clN n qa qb l i).length) c7),(20,.int .i64 ((i:Nat):Int)),(19,.int .i64 ((n:Nat):Int)),(18,.slice p n cap),(7,.func (.func 94) #[] #[.pointer (some ⟨b1,0,none⟩),.pointer (some ⟨b2,0,none⟩)]),(6,.slice none 0 0),(0,.slice p n cap)],[boxA u7_1 43 (cw [wz,wz])],[boxA b17 69 (cw [w13,w14,w15,w16]),boxA b10 69 (cw [w6,w7,w8,w9]),rowA 69 rR p7 c7 (Pg.clN n qa qb l i)],[qF true u5_1 u5_2 (Pg.sdq qa qb (l.getD ((i+1)%n) ((0:Rat),(0:Rat)))),qF true u2_1 u2_2 (Pg.sdq qa qb (l.getD i ((0:Rat),(0:Rat)))),qF true w13 w14 ((l.getD ((i+1)%n) ((0:Rat),(0:Rat))).1),qF true w15 w16 ((l.getD ((i+1)%n) ((0:Rat),(0:Rat))).2),qF true w6 w7 ((l.getD i ((0:Rat),(0:Rat))).1),qF true w8 w9 ((l.getD i ((0:Rat),(0:Rat))).2),atF b2 0 [wb0.b,wb0.l,wb1.b,wb1.l,wb2.b,wb2.l,wb3.b,wb3.l],atF b1 0 [wa0.b,wa0.l,wa1.b,wa1.l,wa2.b,wa2.l,wa3.b,wa3.l],slF rR p cap l,qF true wa0 wa1 (qa.1),qF true wa2 wa3 (qa.2),qF true wb0 wb1 (qb.1),qF true wb2 wb3 (qb.2)])) ?_ (fun hD4=> ?_)
  ·
   rintro ⟨u2_1,u2_2,u5_1,u5_2,u7_1⟩
   dsimp only [cw]
   refine zib 6 kr ?_
   ·
    refine zra rfl rfl rfl rfl (zu zr43 rfl) (fun u6_1 _=> ?_)
    exact zaa (hD2 (u2_1,u2_2,u5_1,u5_2,u6_1,u7_1)) kr ((.of rfl):SubM _ _) (zKa 1 rfl (zKa 0 rfl .nil)) .rfl ((.of [0,1,2,3,4,5,6,7,8,9,10,11,12] rfl):SelR _ _ _)
  refine zta (X:=Wd×Wd×Nat×Nat) (k':=3) (L':=(lb 10 223)) (fun (u2_1,u2_2,u6_1,u7_1)=>([(13,.pointer (some ⟨u7_1,0,none⟩)),(12,.pointer (some ⟨u6_1,0,none⟩)),(35,.agg (cw [u2_1,u2_2]).toArray),(37,.agg (cw [w13,w14,w15,w16]).toArray),(36,.func (.func 94) #[] #[.pointer (some ⟨b1,0,none⟩),.pointer (some ⟨b2,0,none⟩)]),(11,.pointer (some ⟨b17,0,none⟩)),(10,.pointer (some ⟨b10,0,none⟩)),(8,.slice p7 ((Pg.clN n qa qb l i).length) c7),(20,.int .i64 ((i:Nat):Int)),(19,.int .i64 ((n:Nat):Int)),(18,.slice p n cap),(7,.func (.func 94) #[] #[.pointer (some ⟨b1,0,none⟩),.pointer (some ⟨b2,0,none⟩)]),(6,.slice none 0 0),(0,.slice p n cap)],[boxA u7_1 43 (cw [wz,wz]),boxA u6_1 43 (cw [wz,wz])],[boxA b17 69 (cw [w13,w14,w15,w16]),boxA b10 69 (cw [w6,w7,w8,w9]),rowA 69 rR p7 c7 (Pg.clN n qa qb l i)],[qF true u2_1 u2_2 (Pg.sdq qa qb (l.getD i ((0:Rat),(0:Rat)))),qF true w13 w14 ((l.getD ((i+1)%n) ((0:Rat),(0:Rat))).1),qF true w15 w16 ((l.getD ((i+1)%n) ((0:Rat),(0:Rat))).2),qF true w6 w7 ((l.getD i ((0:Rat),(0:Rat))).1),qF true w8 w9 ((l.getD i ((0:Rat),(0:Rat))).2),atF b2 0 [wb0.b,wb0.l,wb1.b,wb1.l,wb2.b,wb2.l,wb3.b,wb3.l],atF b1 0 [wa0.b,wa0.l,wa1.b,wa1.l,wa2.b,wa2.l,wa3.b,wa3.l],slF rR p cap l,qF true wa0 wa1 (qa.1),qF true wa2 wa3 (qa.2),qF true wb0 wb1 (qb.1),qF true wb2 wb3 (qb.2)])) ?_ (fun hD5=> ?_)
  ·
   rintro ⟨u2_1,u2_2,u6_1,u7_1⟩
   dsimp only [cw]
   refine zib 5 kr ?_
   ·
    refine zhc (first:=[]) (cap:=[.pointer (some ⟨b1,0,none⟩),.pointer (some ⟨b2,0,none⟩)]) rfl rfl rfl rfl rfl (.c rfl .n) ce94 (zlb (ba:=b1) (bb:=b2) (wa0:=wa0) (wa1:=wa1) (wa2:=wa2) (wa3:=wa3) (qa:=qa) (wb0:=wb0) (wb1:=wb1) (wb2:=wb2) (wb3:=wb3) (qb:=qb) (wd0:=w13) (wd1:=w14) (wd2:=w15) (wd3:=w16) (qd:=(l.getD ((i+1)%n) ((0:Rat),(0:Rat)))) (K:=K) (hpa:=ass) (hpb:=ass) (hpd:=cbo) (hK:=cbo)) (.c (j:=6) rfl (.c (j:=5) rfl (.c (j:=8) rfl (.c (j:=9) rfl (.c (j:=10) rfl (.c (j:=11) rfl (.c (j:=1) rfl (.c (j:=2) rfl .n)))))))) ?_
    rintro ⟨u5_1,u5_2⟩ -
    dsimp only [aq,nq,cq]
    exact zaa (hD2 (u2_1,u2_2,u5_1,u5_2,u6_1,u7_1)) kr ((.of rfl):SubM _ _) .rfl .rfl ((.of [0,1,2,3,4,5,6,7,8,9,10,11,12] rfl):SelR _ _ _)
  refine zta (X:=Wd×Wd×Wd×Wd) (k':=4) (L':=(lb 10 63)) (fun (u2_1,u2_2,u5_1,u5_2)=>([(38,.agg (cw [u5_1,u5_2]).toArray),(35,.agg (cw [u2_1,u2_2]).toArray),(11,.pointer (some ⟨b17,0,none⟩)),(10,.pointer (some ⟨b10,0,none⟩)),(8,.slice p7 ((Pg.clN n qa qb l i).length) c7),(20,.int .i64 ((i:Nat):Int)),(19,.int .i64 ((n:Nat):Int)),(18,.slice p n cap),(7,.func (.func 94) #[] #[.pointer (some ⟨b1,0,none⟩),.pointer (some ⟨b2,0,none⟩)]),(6,.slice none 0 0),(0,.slice p n cap)],[],[boxA b17 69 (cw [w13,w14,w15,w16]),boxA b10 69 (cw [w6,w7,w8,w9]),rowA 69 rR p7 c7 (Pg.clN n qa qb l i)],[qF true u5_1 u5_2 (Pg.sdq qa qb (l.getD ((i+1)%n) ((0:Rat),(0:Rat)))),qF true u2_1 u2_2 (Pg.sdq qa qb (l.getD i ((0:Rat),(0:Rat)))),qF true w13 w14 ((l.getD ((i+1)%n) ((0:Rat),(0:Rat))).1),qF true w15 w16 ((l.getD ((i+1)%n) ((0:Rat),(0:Rat))).2),qF true w6 w7 ((l.getD i ((0:Rat),(0:Rat))).1),qF true w8 w9 ((l.getD i ((0:Rat),(0:Rat))).2),atF b2 0 [wb0.b,wb0.l,wb1.b,wb1.l,wb2.b,wb2.l,wb3.b,wb3.l],atF b1 0 [wa0.b,wa0.l,wa1.b,wa1.l,wa2.b,wa2.l,wa3.b,wa3.l],slF rR p cap l,qF true wa0 wa1 (qa.1),qF true wa2 wa3 (qa.2),qF true wb0 wb1 (qb.1),qF true wb2 wb3 (qb.2)])) ?_ (fun hD6=> ?_)
  ·
   rintro ⟨u2_1,u2_2,u5_1,u5_2⟩
   dsimp only [cw]
   refine zac 6 7 kr ?_ ?_
   ·
    refine zra rfl rfl rfl rfl (zu zr43 rfl) (fun u6_1 _=> ?_)
    exact zaa (hD3 (u2_1,u2_2,u5_1,u5_2,u6_1)) kr ((.of rfl):SubM _ _) .rfl .rfl ((.of [0,1,2,3,4,5,6,7,8,9,10,11,12] rfl):SelR _ _ _)
   ·
    refine zra rfl rfl rfl rfl (zu zr43 rfl) (fun u7_1 _=> ?_)
    exact zaa (hD4 (u2_1,u2_2,u5_1,u5_2,u7_1)) kr ((.of rfl):SubM _ _) .rfl .rfl ((.of [0,1,2,3,4,5,6,7,8,9,10,11,12] rfl):SelR _ _ _)
  refine zta (X:=Wd×Wd×Nat) (k':=4) (L':=(lb 10 95)) (fun (u2_1,u2_2,u6_1)=>([(12,.pointer (some ⟨u6_1,0,none⟩)),(35,.agg (cw [u2_1,u2_2]).toArray),(37,.agg (cw [w13,w14,w15,w16]).toArray),(36,.func (.func 94) #[] #[.pointer (some ⟨b1,0,none⟩),.pointer (some ⟨b2,0,none⟩)]),(11,.pointer (some ⟨b17,0,none⟩)),(10,.pointer (some ⟨b10,0,none⟩)),(8,.slice p7 ((Pg.clN n qa qb l i).length) c7),(20,.int .i64 ((i:Nat):Int)),(19,.int .i64 ((n:Nat):Int)),(18,.slice p n cap),(7,.func (.func 94) #[] #[.pointer (some ⟨b1,0,none⟩),.pointer (some ⟨b2,0,none⟩)]),(6,.slice none 0 0),(0,.slice p n cap)],[boxA u6_1 43 (cw [wz,wz])],[boxA b17 69 (cw [w13,w14,w15,w16]),boxA b10 69 (cw [w6,w7,w8,w9]),rowA 69 rR p7 c7 (Pg.clN n qa qb l i)],[qF true u2_1 u2_2 (Pg.sdq qa qb (l.getD i ((0:Rat),(0:Rat)))),qF true w13 w14 ((l.getD ((i+1)%n) ((0:Rat),(0:Rat))).1),qF true w15 w16 ((l.getD ((i+1)%n) ((0:Rat),(0:Rat))).2),qF true w6 w7 ((l.getD i ((0:Rat),(0:Rat))).1),qF true w8 w9 ((l.getD i ((0:Rat),(0:Rat))).2),atF b2 0 [wb0.b,wb0.l,wb1.b,wb1.l,wb2.b,wb2.l,wb3.b,wb3.l],atF b1 0 [wa0.b,wa0.l,wa1.b,wa1.l,wa2.b,wa2.l,wa3.b,wa3.l],slF rR p cap l,qF true wa0 wa1 (qa.1),qF true wa2 wa3 (qa.2),qF true wb0 wb1 (qb.1),qF true wb2 wb3 (qb.2)])) ?_ (fun hD7=> ?_)
  ·
   rintro ⟨u2_1,u2_2,u6_1⟩
   dsimp only [cw]
   refine zac 5 7 kr ?_ ?_
   ·
    refine zhc (first:=[]) (cap:=[.pointer (some ⟨b1,0,none⟩),.pointer (some ⟨b2,0,none⟩)]) rfl rfl rfl rfl rfl (.c rfl .n) ce94 (zlb (ba:=b1) (bb:=b2) (wa0:=wa0) (wa1:=wa1) (wa2:=wa2) (wa3:=wa3) (qa:=qa) (wb0:=wb0) (wb1:=wb1) (wb2:=wb2) (wb3:=wb3) (qb:=qb) (wd0:=w13) (wd1:=w14) (wd2:=w15) (wd3:=w16) (qd:=(l.getD ((i+1)%n) ((0:Rat),(0:Rat)))) (K:=K) (hpa:=ass) (hpb:=ass) (hpd:=cbo) (hK:=cbo)) (.c (j:=6) rfl (.c (j:=5) rfl (.c (j:=8) rfl (.c (j:=9) rfl (.c (j:=10) rfl (.c (j:=11) rfl (.c (j:=1) rfl (.c (j:=2) rfl .n)))))))) ?_
    rintro ⟨u5_1,u5_2⟩ -
    dsimp only [aq,nq,cq]
    exact zaa (hD3 (u2_1,u2_2,u5_1,u5_2,u6_1)) kr ((.of rfl):SubM _ _) .rfl .rfl ((.of [0,1,2,3,4,5,6,7,8,9,10,11,12] rfl):SelR _ _ _)
   ·
    refine zra rfl rfl rfl rfl (zu zr43 rfl) (fun u7_1 _=> ?_)
    exact zaa (hD5 (u2_1,u2_2,u6_1,u7_1)) kr ((.of rfl):SubM _ _) .rfl .rfl ((.of [0,1,2,3,4,5,6,7,8,9,10,11] rfl):SelR _ _ _)
  refine zta (X:=Wd×Wd×Nat) (k':=4) (L':=(lb 10 159)) (fun (u2_1,u2_2,u7_1)=>([(13,.pointer (some ⟨u7_1,0,none⟩)),(35,.agg (cw [u2_1,u2_2]).toArray),(37,.agg (cw [w13,w14,w15,w16]).toArray),(36,.func (.func 94) #[] #[.pointer (some ⟨b1,0,none⟩),.pointer (some ⟨b2,0,none⟩)]),(11,.pointer (some ⟨b17,0,none⟩)),(10,.pointer (some ⟨b10,0,none⟩)),(8,.slice p7 ((Pg.clN n qa qb l i).length) c7),(20,.int .i64 ((i:Nat):Int)),(19,.int .i64 ((n:Nat):Int)),(18,.slice p n cap),(7,.func (.func 94) #[] #[.pointer (some ⟨b1,0,none⟩),.pointer (some ⟨b2,0,none⟩)]),(6,.slice none 0 0),(0,.slice p n cap)],[boxA u7_1 43 (cw [wz,wz])],[boxA b17 69 (cw [w13,w14,w15,w16]),boxA b10 69 (cw [w6,w7,w8,w9]),rowA 69 rR p7 c7 (Pg.clN n qa qb l i)],[qF true u2_1 u2_2 (Pg.sdq qa qb (l.getD i ((0:Rat),(0:Rat)))),qF true w13 w14 ((l.getD ((i+1)%n) ((0:Rat),(0:Rat))).1),qF true w15 w16 ((l.getD ((i+1)%n) ((0:Rat),(0:Rat))).2),qF true w6 w7 ((l.getD i ((0:Rat),(0:Rat))).1),qF true w8 w9 ((l.getD i ((0:Rat),(0:Rat))).2),atF b2 0 [wb0.b,wb0.l,wb1.b,wb1.l,wb2.b,wb2.l,wb3.b,wb3.l],atF b1 0 [wa0.b,wa0.l,wa1.b,wa1.l,wa2.b,wa2.l,wa3.b,wa3.l],slF rR p cap l,qF true wa0 wa1 (qa.1),qF true wa2 wa3 (qa.2),qF true wb0 wb1 (qb.1),qF true wb2 wb3 (qb.2)])) ?_ (fun hD8=> ?_)
  ·
   rintro ⟨u2_1,u2_2,u7_1⟩
   dsimp only [cw]
   refine zac 5 6 kr ?_ ?_
   ·
    refine zhc (first:=[]) (cap:=[.pointer (some ⟨b1,0,none⟩),.pointer (some ⟨b2,0,none⟩)]) rfl rfl rfl rfl rfl (.c rfl .n) ce94 (zlb (ba:=b1) (bb:=b2) (wa0:=wa0) (wa1:=wa1) (wa2:=wa2) (wa3:=wa3) (qa:=qa) (wb0:=wb0) (wb1:=wb1) (wb2:=wb2) (wb3:=wb3) (qb:=qb) (wd0:=w13) (wd1:=w14) (wd2:=w15) (wd3:=w16) (qd:=(l.getD ((i+1)%n) ((0:Rat),(0:Rat)))) (K:=K) (hpa:=ass) (hpb:=ass) (hpd:=cbo) (hK:=cbo)) (.c (j:=6) rfl (.c (j:=5) rfl (.c (j:=8) rfl (.c (j:=9) rfl (.c (j:=10) rfl (.c (j:=11) rfl (.c (j:=1) rfl (.c (j:=2) rfl .n)))))))) ?_
    rintro ⟨u5_1,u5_2⟩ -
    dsimp only [aq,nq,cq]
    exact zaa (hD4 (u2_1,u2_2,u5_1,u5_2,u7_1)) kr ((.of rfl):SubM _ _) .rfl .rfl ((.of [0,1,2,3,4,5,6,7,8,9,10,11,12] rfl):SelR _ _ _)
   ·
    refine zra rfl rfl rfl rfl (zu zr43 rfl) (fun u6_1 _=> ?_)
    exact zaa (hD5 (u2_1,u2_2,u6_1,u7_1)) kr ((.of rfl):SubM _ _) (zKa 1 rfl (zKa 0 rfl .nil)) .rfl ((.of [0,1,2,3,4,5,6,7,8,9,10,11] rfl):SelR _ _ _)
  refine zta (X:=Nat×Nat) (k':=4) (L':=(lb 10 219)) (fun (u6_1,u7_1)=>([(13,.pointer (some ⟨u7_1,0,none⟩)),(12,.pointer (some ⟨u6_1,0,none⟩)),(37,.agg (cw [w13,w14,w15,w16]).toArray),(36,.func (.func 94) #[] #[.pointer (some ⟨b1,0,none⟩),.pointer (some ⟨b2,0,none⟩)]),(34,.agg (cw [w6,w7,w8,w9]).toArray),(33,.func (.func 94) #[] #[.pointer (some ⟨b1,0,none⟩),.pointer (some ⟨b2,0,none⟩)]),(11,.pointer (some ⟨b17,0,none⟩)),(10,.pointer (some ⟨b10,0,none⟩)),(8,.slice p7 ((Pg.clN n qa qb l i).length) c7),(20,.int .i64 ((i:Nat):Int)),(19,.int .i64 ((n:Nat):Int)),(18,.slice p n cap),(7,.func (.func 94) #[] #[.pointer (some ⟨b1,0,none⟩),.pointer (some ⟨b2,0,none⟩)]),(6,.slice none 0 0),(0,.slice p n cap)],[boxA u7_1 43 (cw [wz,wz]),boxA u6_1 43 (cw [wz,wz])],[boxA b17 69 (cw [w13,w14,w15,w16]),boxA b10 69 (cw [w6,w7,w8,w9]),rowA 69 rR p7 c7 (Pg.clN n qa qb l i)],[qF true w13 w14 ((l.getD ((i+1)%n) ((0:Rat),(0:Rat))).1),qF true w15 w16 ((l.getD ((i+1)%n) ((0:Rat),(0:Rat))).2),qF true w6 w7 ((l.getD i ((0:Rat),(0:Rat))).1),qF true w8 w9 ((l.getD i ((0:Rat),(0:Rat))).2),atF b2 0 [wb0.b,wb0.l,wb1.b,wb1.l,wb2.b,wb2.l,wb3.b,wb3.l],atF b1 0 [wa0.b,wa0.l,wa1.b,wa1.l,wa2.b,wa2.l,wa3.b,wa3.l],slF rR p cap l,qF true wa0 wa1 (qa.1),qF true wa2 wa3 (qa.2),qF true wb0 wb1 (qb.1),qF true wb2 wb3 (qb.2)])) ?_ (fun hD9=> ?_)
  ·
   rintro ⟨u6_1,u7_1⟩
   dsimp only [cw]
   refine zib 2 kr ?_
   ·
    refine zhc (first:=[]) (cap:=[.pointer (some ⟨b1,0,none⟩),.pointer (some ⟨b2,0,none⟩)]) rfl rfl rfl rfl rfl (.c rfl .n) ce94 (zlb (ba:=b1) (bb:=b2) (wa0:=wa0) (wa1:=wa1) (wa2:=wa2) (wa3:=wa3) (qa:=qa) (wb0:=wb0) (wb1:=wb1) (wb2:=wb2) (wb3:=wb3) (qb:=qb) (wd0:=w6) (wd1:=w7) (wd2:=w8) (wd3:=w9) (qd:=(l.getD i ((0:Rat),(0:Rat)))) (K:=K) (hpa:=ass) (hpb:=ass) (hpd:=cbo) (hK:=cbo)) (.c (j:=5) rfl (.c (j:=4) rfl (.c (j:=7) rfl (.c (j:=8) rfl (.c (j:=9) rfl (.c (j:=10) rfl (.c (j:=2) rfl (.c (j:=3) rfl .n)))))))) ?_
    rintro ⟨u2_1,u2_2⟩ -
    dsimp only [aq,nq,cq]
    exact zaa (hD5 (u2_1,u2_2,u6_1,u7_1)) kr ((.of rfl):SubM _ _) .rfl .rfl ((.of [0,1,2,3,4,5,6,7,8,9,10,11] rfl):SelR _ _ _)
  refine zta (X:=Wd×Wd) (k':=5) (L':=(lb 10 31)) (fun (u2_1,u2_2)=>([(35,.agg (cw [u2_1,u2_2]).toArray),(37,.agg (cw [w13,w14,w15,w16]).toArray),(36,.func (.func 94) #[] #[.pointer (some ⟨b1,0,none⟩),.pointer (some ⟨b2,0,none⟩)]),(11,.pointer (some ⟨b17,0,none⟩)),(10,.pointer (some ⟨b10,0,none⟩)),(8,.slice p7 ((Pg.clN n qa qb l i).length) c7),(20,.int .i64 ((i:Nat):Int)),(19,.int .i64 ((n:Nat):Int)),(18,.slice p n cap),(7,.func (.func 94) #[] #[.pointer (some ⟨b1,0,none⟩),.pointer (some ⟨b2,0,none⟩)]),(6,.slice none 0 0),(0,.slice p n cap)],[],[boxA b17 69 (cw [w13,w14,w15,w16]),boxA b10 69 (cw [w6,w7,w8,w9]),rowA 69 rR p7 c7 (Pg.clN n qa qb l i)],[qF true u2_1 u2_2 (Pg.sdq qa qb (l.getD i ((0:Rat),(0:Rat)))),qF true w13 w14 ((l.getD ((i+1)%n) ((0:Rat),(0:Rat))).1),qF true w15 w16 ((l.getD ((i+1)%n) ((0:Rat),(0:Rat))).2),qF true w6 w7 ((l.getD i ((0:Rat),(0:Rat))).1),qF true w8 w9 ((l.getD i ((0:Rat),(0:Rat))).2),atF b2 0 [wb0.b,wb0.l,wb1.b,wb1.l,wb2.b,wb2.l,wb3.b,wb3.l],atF b1 0 [wa0.b,wa0.l,wa1.b,wa1.l,wa2.b,wa2.l,wa3.b,wa3.l],slF rR p cap l,qF true wa0 wa1 (qa.1),qF true wa2 wa3 (qa.2),qF true wb0 wb1 (qb.1),qF true wb2 wb3 (qb.2)])) ?_ (fun hD10=> ?_)
  ·
   rintro ⟨u2_1,u2_2⟩
   dsimp only [cw]
   refine zpd 5 6 7 kr ?_ ?_ ?_
   ·
    refine zhc (first:=[]) (cap:=[.pointer (some ⟨b1,0,none⟩),.pointer (some ⟨b2,0,none⟩)]) rfl rfl rfl rfl rfl (.c rfl .n) ce94 (zlb (ba:=b1) (bb:=b2) (wa0:=wa0) (wa1:=wa1) (wa2:=wa2) (wa3:=wa3) (qa:=qa) (wb0:=wb0) (wb1:=wb1) (wb2:=wb2) (wb3:=wb3) (qb:=qb) (wd0:=w13) (wd1:=w14) (wd2:=w15) (wd3:=w16) (qd:=(l.getD ((i+1)%n) ((0:Rat),(0:Rat)))) (K:=K) (hpa:=ass) (hpb:=ass) (hpd:=cbo) (hK:=cbo)) (.c (j:=6) rfl (.c (j:=5) rfl (.c (j:=8) rfl (.c (j:=9) rfl (.c (j:=10) rfl (.c (j:=11) rfl (.c (j:=1) rfl (.c (j:=2) rfl .n)))))))) ?_
    rintro ⟨u5_1,u5_2⟩ -
    dsimp only [aq,nq,cq]
    exact zaa (hD6 (u2_1,u2_2,u5_1,u5_2)) kr ((.of rfl):SubM _ _) .rfl .rfl ((.of [0,1,2,3,4,5,6,7,8,9,10,11,12] rfl):SelR _ _ _)
   ·
    refine zra rfl rfl rfl rfl (zu zr43 rfl) (fun u6_1 _=> ?_)
    exact zaa (hD7 (u2_1,u2_2,u6_1)) kr ((.of rfl):SubM _ _) .rfl .rfl ((.of [0,1,2,3,4,5,6,7,8,9,10,11] rfl):SelR _ _ _)
   ·
    refine zra rfl rfl rfl rfl (zu zr43 rfl) (fun u7_1 _=> ?_)
    exact zaa (hD8 (u2_1,u2_2,u7_1)) kr ((.of rfl):SubM _ _) .rfl .rfl ((.of [0,1,2,3,4,5,6,7,8,9,10,11] rfl):SelR _ _ _)
  refine zta (X:=Nat) (k':=5) (L':=(lb 10 91)) (fun u6_1=>([(12,.pointer (some ⟨u6_1,0,none⟩)),(37,.agg (cw [w13,w14,w15,w16]).toArray),(36,.func (.func 94) #[] #[.pointer (some ⟨b1,0,none⟩),.pointer (some ⟨b2,0,none⟩)]),(34,.agg (cw [w6,w7,w8,w9]).toArray),(33,.func (.func 94) #[] #[.pointer (some ⟨b1,0,none⟩),.pointer (some ⟨b2,0,none⟩)]),(11,.pointer (some ⟨b17,0,none⟩)),(10,.pointer (some ⟨b10,0,none⟩)),(8,.slice p7 ((Pg.clN n qa qb l i).length) c7),(20,.int .i64 ((i:Nat):Int)),(19,.int .i64 ((n:Nat):Int)),(18,.slice p n cap),(7,.func (.func 94) #[] #[.pointer (some ⟨b1,0,none⟩),.pointer (some ⟨b2,0,none⟩)]),(6,.slice none 0 0),(0,.slice p n cap)],[boxA u6_1 43 (cw [wz,wz])],[boxA b17 69 (cw [w13,w14,w15,w16]),boxA b10 69 (cw [w6,w7,w8,w9]),rowA 69 rR p7 c7 (Pg.clN n qa qb l i)],[qF true w13 w14 ((l.getD ((i+1)%n) ((0:Rat),(0:Rat))).1),qF true w15 w16 ((l.getD ((i+1)%n) ((0:Rat),(0:Rat))).2),qF true w6 w7 ((l.getD i ((0:Rat),(0:Rat))).1),qF true w8 w9 ((l.getD i ((0:Rat),(0:Rat))).2),atF b2 0 [wb0.b,wb0.l,wb1.b,wb1.l,wb2.b,wb2.l,wb3.b,wb3.l],atF b1 0 [wa0.b,wa0.l,wa1.b,wa1.l,wa2.b,wa2.l,wa3.b,wa3.l],slF rR p cap l,qF true wa0 wa1 (qa.1),qF true wa2 wa3 (qa.2),qF true wb0 wb1 (qb.1),qF true wb2 wb3 (qb.2)])) ?_ (fun hD11=> ?_)
  ·
   rintro u6_1
   dsimp only [cw]
   refine zac 2 7 kr ?_ ?_
   ·
    refine zhc (first:=[]) (cap:=[.pointer (some ⟨b1,0,none⟩),.pointer (some ⟨b2,0,none⟩)]) rfl rfl rfl rfl rfl (.c rfl .n) ce94 (zlb (ba:=b1) (bb:=b2) (wa0:=wa0) (wa1:=wa1) (wa2:=wa2) (wa3:=wa3) (qa:=qa) (wb0:=wb0) (wb1:=wb1) (wb2:=wb2) (wb3:=wb3) (qb:=qb) (wd0:=w6) (wd1:=w7) (wd2:=w8) (wd3:=w9) (qd:=(l.getD i ((0:Rat),(0:Rat)))) (K:=K) (hpa:=ass) (hpb:=ass) (hpd:=cbo) (hK:=cbo)) (.c (j:=5) rfl (.c (j:=4) rfl (.c (j:=7) rfl (.c (j:=8) rfl (.c (j:=9) rfl (.c (j:=10) rfl (.c (j:=2) rfl (.c (j:=3) rfl .n)))))))) ?_
    rintro ⟨u2_1,u2_2⟩ -
    dsimp only [aq,nq,cq]
    exact zaa (hD7 (u2_1,u2_2,u6_1)) kr ((.of rfl):SubM _ _) .rfl .rfl ((.of [0,1,2,3,4,5,6,7,8,9,10,11] rfl):SelR _ _ _)
   ·
    refine zra rfl rfl rfl rfl (zu zr43 rfl) (fun u7_1 _=> ?_)
    exact zaa (hD9 (u6_1,u7_1)) kr ((.of rfl):SubM _ _) .rfl .rfl ((.of [0,1,2,3,4,5,6,7,8,9,10] rfl):SelR _ _ _)
  refine zta (X:=Nat) (k':=5) (L':=(lb 10 155)) (fun u7_1=>([(13,.pointer (some ⟨u7_1,0,none⟩)),(37,.agg (cw [w13,w14,w15,w16]).toArray),(36,.func (.func 94) #[] #[.pointer (some ⟨b1,0,none⟩),.pointer (some ⟨b2,0,none⟩)]),(34,.agg (cw [w6,w7,w8,w9]).toArray),(33,.func (.func 94) #[] #[.pointer (some ⟨b1,0,none⟩),.pointer (some ⟨b2,0,none⟩)]),(11,.pointer (some ⟨b17,0,none⟩)),(10,.pointer (some ⟨b10,0,none⟩)),(8,.slice p7 ((Pg.clN n qa qb l i).length) c7),(20,.int .i64 ((i:Nat):Int)),(19,.int .i64 ((n:Nat):Int)),(18,.slice p n cap),(7,.func (.func 94) #[] #[.pointer (some ⟨b1,0,none⟩),.pointer (some ⟨b2,0,none⟩)]),(6,.slice none 0 0),(0,.slice p n cap)],[boxA u7_1 43 (cw [wz,wz])],[boxA b17 69 (cw [w13,w14,w15,w16]),boxA b10 69 (cw [w6,w7,w8,w9]),rowA 69 rR p7 c7 (Pg.clN n qa qb l i)],[qF true w13 w14 ((l.getD ((i+1)%n) ((0:Rat),(0:Rat))).1),qF true w15 w16 ((l.getD ((i+1)%n) ((0:Rat),(0:Rat))).2),qF true w6 w7 ((l.getD i ((0:Rat),(0:Rat))).1),qF true w8 w9 ((l.getD i ((0:Rat),(0:Rat))).2),atF b2 0 [wb0.b,wb0.l,wb1.b,wb1.l,wb2.b,wb2.l,wb3.b,wb3.l],atF b1 0 [wa0.b,wa0.l,wa1.b,wa1.l,wa2.b,wa2.l,wa3.b,wa3.l],slF rR p cap l,qF true wa0 wa1 (qa.1),qF true wa2 wa3 (qa.2),qF true wb0 wb1 (qb.1),qF true wb2 wb3 (qb.2)])) ?_ (fun hD12=> ?_)
  ·
   rintro u7_1
   dsimp only [cw]
   refine zac 2 6 kr ?_ ?_
   ·
    refine zhc (first:=[]) (cap:=[.pointer (some ⟨b1,0,none⟩),.pointer (some ⟨b2,0,none⟩)]) rfl rfl rfl rfl rfl (.c rfl .n) ce94 (zlb (ba:=b1) (bb:=b2) (wa0:=wa0) (wa1:=wa1) (wa2:=wa2) (wa3:=wa3) (qa:=qa) (wb0:=wb0) (wb1:=wb1) (wb2:=wb2) (wb3:=wb3) (qb:=qb) (wd0:=w6) (wd1:=w7) (wd2:=w8) (wd3:=w9) (qd:=(l.getD i ((0:Rat),(0:Rat)))) (K:=K) (hpa:=ass) (hpb:=ass) (hpd:=cbo) (hK:=cbo)) (.c (j:=5) rfl (.c (j:=4) rfl (.c (j:=7) rfl (.c (j:=8) rfl (.c (j:=9) rfl (.c (j:=10) rfl (.c (j:=2) rfl (.c (j:=3) rfl .n)))))))) ?_
    rintro ⟨u2_1,u2_2⟩ -
    dsimp only [aq,nq,cq]
    exact zaa (hD8 (u2_1,u2_2,u7_1)) kr ((.of rfl):SubM _ _) .rfl .rfl ((.of [0,1,2,3,4,5,6,7,8,9,10,11] rfl):SelR _ _ _)
   ·
    refine zra rfl rfl rfl rfl (zu zr43 rfl) (fun u6_1 _=> ?_)
    exact zaa (hD9 (u6_1,u7_1)) kr ((.of rfl):SubM _ _) (zKa 1 rfl (zKa 0 rfl .nil)) .rfl ((.of [0,1,2,3,4,5,6,7,8,9,10] rfl):SelR _ _ _)
  refine zpd 2 6 7 kr ?_ ?_ ?_
  ·
   refine zhc (first:=[]) (cap:=[.pointer (some ⟨b1,0,none⟩),.pointer (some ⟨b2,0,none⟩)]) rfl rfl rfl rfl rfl (.c rfl .n) ce94 (zlb (ba:=b1) (bb:=b2) (wa0:=wa0) (wa1:=wa1) (wa2:=wa2) (wa3:=wa3) (qa:=qa) (wb0:=wb0) (wb1:=wb1) (wb2:=wb2) (wb3:=wb3) (qb:=qb) (wd0:=w6) (wd1:=w7) (wd2:=w8) (wd3:=w9) (qd:=(l.getD i ((0:Rat),(0:Rat)))) (K:=K) (hpa:=ass) (hpb:=ass) (hpd:=cbo) (hK:=cbo)) (.c (j:=5) rfl (.c (j:=4) rfl (.c (j:=7) rfl (.c (j:=8) rfl (.c (j:=9) rfl (.c (j:=10) rfl (.c (j:=2) rfl (.c (j:=3) rfl .n)))))))) ?_
   rintro ⟨u2_1,u2_2⟩ -
   dsimp only [aq,nq,cq]
   exact zaa (hD10 (u2_1,u2_2)) kr ((.of rfl):SubM _ _) .rfl .rfl ((.of [0,1,2,3,4,5,6,7,8,9,10,11] rfl):SelR _ _ _)
  ·
   refine zra rfl rfl rfl rfl (zu zr43 rfl) (fun u6_1 _=> ?_)
   exact zaa (hD11 u6_1) kr ((.of rfl):SubM _ _) .rfl .rfl ((.of [0,1,2,3,4,5,6,7,8,9,10] rfl):SelR _ _ _)
  ·
   refine zra rfl rfl rfl rfl (zu zr43 rfl) (fun u7_1 _=> ?_)
   exact zaa (hD12 u7_1) kr ((.of rfl):SubM _ _) .rfl .rfl ((.of [0,1,2,3,4,5,6,7,8,9,10] rfl):SelR _ _ _)
 ·
  refine zga<|zj<|zj<|zr<|zd<|ze<|za<|e_mv rfl<|e_p (zb rfl)<|zh<|zd<|zJ ?_
  have e57:Pg.clN n qa qb l i=Pg.clL qa qb l:=by rw [show i=n by omega,Pg.clL,hn]
  rw [e57]
  exact zx Tryz.results58 (p7,c7) trivial (zn rfl) rfl (ho:=((.c (i:=0) rfl .n):PickO _ _ _)) (.n:SelR _ _ _)
end Go.Proofs.YtjcpbhlijoigfaaGreat.Sp
namespace Go.Proofs.YtjcpbhlijoigfaaGreat.Sp
open Go
set_option linter.unusedVariables false
set_option maxRecDepth 100000
set_option maxHeartbeats 8000000
theorem zje {p:Option Addr} {n:Nat} {cap:Nat} {l:List Pg.Q2} {ba:Nat} {ex:Int} {ey:Int} (hn:l.length=n) (hwex: -9223372036854775808≤ex∧ex≤9223372036854775807) (hwey: -9223372036854775808≤ey∧ey≤9223372036854775807) (hbq:Pg.bq 3 l) (hnK:n≤100000):Con yk 57 [.slice p n cap,.pointer (some ⟨ba,0,none⟩)] [] [slF rR p cap l,atF ba 0 [.int .i64 ex,.int .i64 ey]] (Y:=(Option Addr)×Nat) (fun y=>True) (fun y=> .slice (y.1) ((Pg.clL (Pg.pq ex 1) (Pg.pq ex 0) l).length) (y.2)) (fun y=>[rowA 69 rR (y.1) (y.2) (Pg.clL (Pg.pq ex 1) (Pg.pq ex 0) l)]) (fun y=>[]):=by
 refine zp Tryz.func57 rfl rfl rfl (fun c=> ?_)
 show RunC _ _ _ _ _ [(0,.slice p n cap),(1,.pointer (some ⟨ba,0,none⟩))] [] [slF rR p cap l,atF ba 0 [.int .i64 ex,.int .i64 ey]]
 refine zfa 0 rfl (fun hL0=> ?_)
 refine ze<|za<|e_p (zb rfl)<|zh<|zd<|ze<|zZ (OW:=[]) (O:=[]) 100000 mixed (.then .ret) kr<|e_dm 0 rfl rfl rfl<|e_pv 1 rfl rfl (zg yn rfl sz3 rfl rfl)<|e_u 2 rfl rfl (zl (j:=0) 1 ty3 rfl rfl rfl rfl)<|e_pv 4 rfl rfl (zg yn rfl sz3 rfl rfl)<|e_u 5 rfl rfl (zl (j:=0) 1 ty3 rfl rfl rfl rfl)<|e_one 3 (zE rfl rfl rfl rfl (.c rfl (.c rfl .n)) ce56 (zhb (ex:=ex) (ey:=1) (hwex:=ass) (hwey:=by first|rfl|assumption|omega|(exact Pg.hp_pq om om))) (.n) ?_)
 rintro ⟨wr01,wr12,wr23,wr34⟩ -
 dsimp only [aq,nq,cq]
 refine e_one 6 (zE rfl rfl rfl rfl (.c rfl (.c rfl .n)) ce56 (zhb (ex:=ex) (ey:=0) (hwex:=ass) (hwey:=by first|rfl|assumption|omega|(exact Pg.hp_pq om om))) (.n) ?_)
 rintro ⟨wr05,wr16,wr27,wr38⟩ -
 dsimp only [aq,nq,cq]
 refine e_one 7 (zE rfl rfl rfl rfl (.c rfl (.c rfl (.c rfl .n))) ce58 (zIc (p:=p) (n:=n) (cap:=cap) (l:=l) (wa0:=wr01) (wa1:=wr12) (wa2:=wr23) (wa3:=wr34) (qa:=(Pg.pq ex 1)) (wb0:=wr05) (wb1:=wr16) (wb2:=wr27) (wb3:=wr38) (qb:=(Pg.pq ex 0)) (K:=3) (hn:=ass) (hpa:=by first|rfl|assumption|omega|(exact Pg.hp_pq om om)) (hpb:=by first|rfl|assumption|omega|(exact Pg.hp_pq om om)) (hbq:=ass) (hK:=by first|rfl|assumption|omega|(exact Pg.hp_pq om om)) (hnK:=ass)) (.c (j:=4) rfl (.c (j:=2) rfl (.c (j:=3) rfl (.c (j:=0) rfl (.c (j:=1) rfl .n))))) ?_)
 rintro ⟨p29,c210⟩ -
 dsimp only [aq,nq,cq]
 refine e_pv 8 rfl rfl (zb rfl)<|zX kr<|zd<|zJ ?_
 exact zx Tryz.results57 (p29,c210) trivial (zn rfl) rfl (ho:=((.c (i:=0) rfl .n):PickO _ _ _)) (.n:SelR _ _ _)
theorem zke {p:Option Addr} {n:Nat} {cap:Nat} {l:List Pg.Q2} {ba:Nat} {ex:Int} {ey:Int} (hn:l.length=n) (hwex: -9223372036854775808≤ex∧ex≤9223372036854775807) (hwey: -9223372036854775808≤ey∧ey≤9223372036854775807) (hbq:Pg.bq 99 l) (hnK:n≤100000):Con yk 59 [.slice p n cap,.pointer (some ⟨ba,0,none⟩)] [] [slF rR p cap l,atF ba 0 [.int .i64 ex,.int .i64 ey]] (Y:=(Option Addr)×Nat) (fun y=>True) (fun y=> .slice (y.1) ((Pg.clL (Pg.pq ex 0) (Pg.pq ex 1) l).length) (y.2)) (fun y=>[rowA 69 rR (y.1) (y.2) (Pg.clL (Pg.pq ex 0) (Pg.pq ex 1) l)]) (fun y=>[]):=by
 refine zp Tryz.func59 rfl rfl rfl (fun c=> ?_)
 show RunC _ _ _ _ _ [(0,.slice p n cap),(1,.pointer (some ⟨ba,0,none⟩))] [] [slF rR p cap l,atF ba 0 [.int .i64 ex,.int .i64 ey]]
 refine zfa 0 rfl (fun hL0=> ?_)
 refine ze<|za<|e_p (zb rfl)<|zh<|zd<|ze<|zZ (OW:=[]) (O:=[]) 100000 mixed (.then .ret) kr<|e_dm 0 rfl rfl rfl<|e_pv 1 rfl rfl (zg yn rfl sz3 rfl rfl)<|e_u 2 rfl rfl (zl (j:=0) 1 ty3 rfl rfl rfl rfl)<|e_pv 4 rfl rfl (zg yn rfl sz3 rfl rfl)<|e_u 5 rfl rfl (zl (j:=0) 1 ty3 rfl rfl rfl rfl)<|e_one 3 (zE rfl rfl rfl rfl (.c rfl (.c rfl .n)) ce56 (zhb (ex:=ex) (ey:=0) (hwex:=ass) (hwey:=by first|rfl|assumption|omega|(exact Pg.hp_pq om om))) (.n) ?_)
 rintro ⟨wr01,wr12,wr23,wr34⟩ -
 dsimp only [aq,nq,cq]
 refine e_one 6 (zE rfl rfl rfl rfl (.c rfl (.c rfl .n)) ce56 (zhb (ex:=ex) (ey:=1) (hwex:=ass) (hwey:=by first|rfl|assumption|omega|(exact Pg.hp_pq om om))) (.n) ?_)
 rintro ⟨wr05,wr16,wr27,wr38⟩ -
 dsimp only [aq,nq,cq]
 refine e_one 7 (zE rfl rfl rfl rfl (.c rfl (.c rfl (.c rfl .n))) ce58 (zIc (p:=p) (n:=n) (cap:=cap) (l:=l) (wa0:=wr01) (wa1:=wr12) (wa2:=wr23) (wa3:=wr34) (qa:=(Pg.pq ex 0)) (wb0:=wr05) (wb1:=wr16) (wb2:=wr27) (wb3:=wr38) (qb:=(Pg.pq ex 1)) (K:=99) (hn:=ass) (hpa:=by first|rfl|assumption|omega|(exact Pg.hp_pq om om)) (hpb:=by first|rfl|assumption|omega|(exact Pg.hp_pq om om)) (hbq:=ass) (hK:=by first|rfl|assumption|omega|(exact Pg.hp_pq om om)) (hnK:=ass)) (.c (j:=4) rfl (.c (j:=2) rfl (.c (j:=3) rfl (.c (j:=0) rfl (.c (j:=1) rfl .n))))) ?_)
 rintro ⟨p29,c210⟩ -
 dsimp only [aq,nq,cq]
 refine e_pv 8 rfl rfl (zb rfl)<|zX kr<|zd<|zJ ?_
 exact zx Tryz.results59 (p29,c210) trivial (zn rfl) rfl (ho:=((.c (i:=0) rfl .n):PickO _ _ _)) (.n:SelR _ _ _)
theorem zle {p:Option Addr} {n:Nat} {cap:Nat} {l:List Pg.Q2} {ba:Nat} {ex:Int} {ey:Int} (hn:l.length=n) (hwex: -9223372036854775808≤ex∧ex≤9223372036854775807) (hwey: -9223372036854775808≤ey∧ey≤9223372036854775807) (hbq:Pg.bq 963 l) (hnK:n≤100000):Con yk 60 [.slice p n cap,.pointer (some ⟨ba,0,none⟩)] [] [slF rR p cap l,atF ba 0 [.int .i64 ex,.int .i64 ey]] (Y:=(Option Addr)×Nat) (fun y=>True) (fun y=> .slice (y.1) ((Pg.clL (Pg.pq 0 ey) (Pg.pq 1 ey) l).length) (y.2)) (fun y=>[rowA 69 rR (y.1) (y.2) (Pg.clL (Pg.pq 0 ey) (Pg.pq 1 ey) l)]) (fun y=>[]):=by
 refine zp Tryz.func60 rfl rfl rfl (fun c=> ?_)
 show RunC _ _ _ _ _ [(0,.slice p n cap),(1,.pointer (some ⟨ba,0,none⟩))] [] [slF rR p cap l,atF ba 0 [.int .i64 ex,.int .i64 ey]]
 refine zfa 0 rfl (fun hL0=> ?_)
 refine ze<|za<|e_p (zb rfl)<|zh<|zd<|ze<|zZ (OW:=[]) (O:=[]) 100000 mixed (.then .ret) kr<|e_dm 0 rfl rfl rfl<|e_pv 1 rfl rfl (zg yn rfl sz3 rfl rfl)<|e_u 2 rfl rfl (zl (j:=1) 1 ty3 rfl rfl rfl rfl)<|e_pv 4 rfl rfl (zg yn rfl sz3 rfl rfl)<|e_u 5 rfl rfl (zl (j:=1) 1 ty3 rfl rfl rfl rfl)<|e_one 3 (zE rfl rfl rfl rfl (.c rfl (.c rfl .n)) ce56 (zhb (ex:=0) (ey:=ey) (hwex:=by first|rfl|assumption|omega|(exact Pg.hp_pq om om)) (hwey:=ass)) (.n) ?_)
 rintro ⟨wr01,wr12,wr23,wr34⟩ -
 dsimp only [aq,nq,cq]
 refine e_one 6 (zE rfl rfl rfl rfl (.c rfl (.c rfl .n)) ce56 (zhb (ex:=1) (ey:=ey) (hwex:=by first|rfl|assumption|omega|(exact Pg.hp_pq om om)) (hwey:=ass)) (.n) ?_)
 rintro ⟨wr05,wr16,wr27,wr38⟩ -
 dsimp only [aq,nq,cq]
 refine e_one 7 (zE rfl rfl rfl rfl (.c rfl (.c rfl (.c rfl .n))) ce58 (zIc (p:=p) (n:=n) (cap:=cap) (l:=l) (wa0:=wr01) (wa1:=wr12) (wa2:=wr23) (wa3:=wr34) (qa:=(Pg.pq 0 ey)) (wb0:=wr05) (wb1:=wr16) (wb2:=wr27) (wb3:=wr38) (qb:=(Pg.pq 1 ey)) (K:=963) (hn:=ass) (hpa:=by first|rfl|assumption|omega|(exact Pg.hp_pq om om)) (hpb:=by first|rfl|assumption|omega|(exact Pg.hp_pq om om)) (hbq:=ass) (hK:=by first|rfl|assumption|omega|(exact Pg.hp_pq om om)) (hnK:=ass)) (.c (j:=4) rfl (.c (j:=2) rfl (.c (j:=3) rfl (.c (j:=0) rfl (.c (j:=1) rfl .n))))) ?_)
 rintro ⟨p29,c210⟩ -
 dsimp only [aq,nq,cq]
 refine e_pv 8 rfl rfl (zb rfl)<|zX kr<|zd<|zJ ?_
 exact zx Tryz.results60 (p29,c210) trivial (zn rfl) rfl (ho:=((.c (i:=0) rfl .n):PickO _ _ _)) (.n:SelR _ _ _)
theorem zme {p:Option Addr} {n:Nat} {cap:Nat} {l:List Pg.Q2} {ba:Nat} {ex:Int} {ey:Int} (hn:l.length=n) (hwex: -9223372036854775808≤ex∧ex≤9223372036854775807) (hwey: -9223372036854775808≤ey∧ey≤9223372036854775807) (hbq:Pg.bq 8739 l) (hnK:n≤100000):Con yk 61 [.slice p n cap,.pointer (some ⟨ba,0,none⟩)] [] [slF rR p cap l,atF ba 0 [.int .i64 ex,.int .i64 ey]] (Y:=(Option Addr)×Nat) (fun y=>True) (fun y=> .slice (y.1) ((Pg.clL (Pg.pq 1 ey) (Pg.pq 0 ey) l).length) (y.2)) (fun y=>[rowA 69 rR (y.1) (y.2) (Pg.clL (Pg.pq 1 ey) (Pg.pq 0 ey) l)]) (fun y=>[]):=by
 refine zp Tryz.func61 rfl rfl rfl (fun c=> ?_)
 show RunC _ _ _ _ _ [(0,.slice p n cap),(1,.pointer (some ⟨ba,0,none⟩))] [] [slF rR p cap l,atF ba 0 [.int .i64 ex,.int .i64 ey]]
 refine zfa 0 rfl (fun hL0=> ?_)
 refine ze<|za<|e_p (zb rfl)<|zh<|zd<|ze<|zZ (OW:=[]) (O:=[]) 100000 mixed (.then .ret) kr<|e_dm 0 rfl rfl rfl<|e_pv 1 rfl rfl (zg yn rfl sz3 rfl rfl)<|e_u 2 rfl rfl (zl (j:=1) 1 ty3 rfl rfl rfl rfl)<|e_pv 4 rfl rfl (zg yn rfl sz3 rfl rfl)<|e_u 5 rfl rfl (zl (j:=1) 1 ty3 rfl rfl rfl rfl)<|e_one 3 (zE rfl rfl rfl rfl (.c rfl (.c rfl .n)) ce56 (zhb (ex:=1) (ey:=ey) (hwex:=by first|rfl|assumption|omega|(exact Pg.hp_pq om om)) (hwey:=ass)) (.n) ?_)
 rintro ⟨wr01,wr12,wr23,wr34⟩ -
 dsimp only [aq,nq,cq]
 refine e_one 6 (zE rfl rfl rfl rfl (.c rfl (.c rfl .n)) ce56 (zhb (ex:=0) (ey:=ey) (hwex:=by first|rfl|assumption|omega|(exact Pg.hp_pq om om)) (hwey:=ass)) (.n) ?_)
 rintro ⟨wr05,wr16,wr27,wr38⟩ -
 dsimp only [aq,nq,cq]
 refine e_one 7 (zE rfl rfl rfl rfl (.c rfl (.c rfl (.c rfl .n))) ce58 (zIc (p:=p) (n:=n) (cap:=cap) (l:=l) (wa0:=wr01) (wa1:=wr12) (wa2:=wr23) (wa3:=wr34) (qa:=(Pg.pq 1 ey)) (wb0:=wr05) (wb1:=wr16) (wb2:=wr27) (wb3:=wr38) (qb:=(Pg.pq 0 ey)) (K:=8739) (hn:=ass) (hpa:=by first|rfl|assumption|omega|(exact Pg.hp_pq om om)) (hpb:=by first|rfl|assumption|omega|(exact Pg.hp_pq om om)) (hbq:=ass) (hK:=by first|rfl|assumption|omega|(exact Pg.hp_pq om om)) (hnK:=ass)) (.c (j:=4) rfl (.c (j:=2) rfl (.c (j:=3) rfl (.c (j:=0) rfl (.c (j:=1) rfl .n))))) ?_)
 rintro ⟨p29,c210⟩ -
 dsimp only [aq,nq,cq]
 refine e_pv 8 rfl rfl (zb rfl)<|zX kr<|zd<|zJ ?_
 exact zx Tryz.results61 (p29,c210) trivial (zn rfl) rfl (ho:=((.c (i:=0) rfl .n):PickO _ _ _)) (.n:SelR _ _ _)
end Go.Proofs.YtjcpbhlijoigfaaGreat.Sp
namespace Go.Proofs.YtjcpbhlijoigfaaGreat.Sp
open Go
set_option linter.unusedVariables false
set_option maxRecDepth 100000
set_option maxHeartbeats 8000000
theorem zRe {p:Option Addr} {n:Nat} {cap:Nat} {l:List Pg.P2} {ex:Int} {ey:Int} {fx:Int} {fy:Int} (hn:l.length=n) (hwex: -9223372036854775808≤ex∧ex≤9223372036854775807) (hwey: -9223372036854775808≤ey∧ey≤9223372036854775807) (hwfx: -9223372036854775808≤fx∧fx≤9223372036854775807) (hwfy: -9223372036854775808≤fy∧fy≤9223372036854775807):Con yk 19 [.slice p n cap,.agg #[.int .i64 ex,.int .i64 ey],.agg #[.int .i64 fx,.int .i64 fy]] [] [slF (rI2 .i64) p cap l] (Y:=(Option Addr)×Nat) (fun y=>True) (fun y=> .tuple #[.slice (y.1) ((Pg.wnV l (ex,ey) (fx,fy)).length) (y.2),.int .i64 (Pg.wnC l (ex,ey) (fx,fy))]) (fun y=>[rowA 69 rR (y.1) (y.2) (Pg.wnV l (ex,ey) (fx,fy))]) (fun y=>[]):=by
 refine zp Tryz.func19 rfl rfl rfl (fun c=> ?_)
 show RunC _ _ _ _ _ [(0,.slice p n cap),(1,.agg #[.int .i64 ex,.int .i64 ey]),(2,.agg #[.int .i64 fx,.int .i64 fy])] [] [slF (rI2 .i64) p cap l]
 refine zfa 0 rfl (fun hL0=> ?_)
 refine ze<|za<|zP rfl rfl (zV rfl rfl) (fun b1=> ?_)
 refine zP rfl rfl (zV rfl rfl) (fun b2=> ?_)
 refine e_p (zb rfl)<|e_p (zb rfl)<|zh<|zd<|ze<|ze<|za<|e_mv rfl<|zO rfl rfl (.c rfl .n) ce15 (zmc (p:=p) (n:=n) (cap:=cap) (l:=l) (hn:=ass)) (.c (j:=0) rfl .n)<|e_p (zb rfl)<|zh<|zd<|ze<|za<|e_mv rfl<|e_p (zLa rfl rfl)<|zh<|zd<|zB rfl (fun hbad=> ?_) (fun hbad=> ?_)
 ·
  obtain ⟨hv1,hv2⟩:=Pg.wn_bad (a:=(ex,ey)) (b:=(fx,fy)) hbad
  refine ze<|znb 69 rR ?_
  have e3:([]:List Pg.Q2)=Pg.wnV l (ex,ey) (fx,fy):=hv2.symm
  rw [e3]
  refine za<|e_mv rfl<|e_p (zb rfl)<|e_p (zb rfl)<|zh<|zd<|zJ<|zi ?_
  exact zEa yG (none,0) trivial (zn rfl) (zn rfl) (by rw [hv1,hv2];rfl) (ho:=((.c (i:=0) rfl .n):PickO _ _ _)) (.n:SelR _ _ _)
 ·
  have hz:=Decidable.not_not.1 hbad
  have hok:=Pg.ok hz
  have hrng:=hok.rng
  have h64:n≤64:=by have:=hok.n64;omega
  refine zt<|zd<|ze<|zAa (X:=Unit) (fun x=>True) (fun x=>[(24,.bool (decide (((Pg.far (ex,ey))=true)∨((Pg.far (fx,fy))=true)))),(7,.int .i64 0),(6,.slice none 0 0),(5,.pointer (some ⟨b2,0,none⟩)),(4,.pointer (some ⟨b1,0,none⟩)),(0,.slice p n cap)]) (fun x=>[boxA b2 30 [.int .i64 fx,.int .i64 fy],boxA b1 30 [.int .i64 ex,.int .i64 ey]]) (fun x=>[slF (rI2 .i64) p cap l]) ?_ ?_
  ·
   refine za<|e_ru (zc 1 ty30 rfl rfl (.t2 .nil))<|zO rfl rfl (.c rfl .n) ce46 (zlc (ex:=ex) (ey:=ey) (hwex:=ass) (hwey:=ass)) (.n)<|zqe rfl rfl (zT rfl) (fun h4=> ?_) (fun h4=> ?_)
   ·
    refine e_no<|e_no<|e_p (zo rfl rfl)<|zh ?_
    exact zY () (show True from by first|trivial|omega|simp_all) ((.e rfl (congrArg Value.bool cbu) (.of rfl)):SubM _ _) (ho:=((.of [0,0] rfl):PickO _ _ _)) ((.c (j:=0) rfl .n):SelR _ _ _)
   ·
    refine e_ru (zc 0 ty30 rfl rfl (.t2 .nil))<|zO rfl rfl (.c rfl .n) ce46 (zlc (ex:=fx) (ey:=fy) (hwex:=ass) (hwey:=ass)) (.n)<|e_p (zo rfl rfl)<|zh ?_
    exact zY () (show True from by first|trivial|omega|simp_all) ((.e rfl (congrArg Value.bool cbu) (.of rfl)):SubM _ _) (ho:=((.of [0,0] rfl):PickO _ _ _)) ((.c (j:=0) rfl .n):SelR _ _ _)
  ·
   rintro ⟨⟩ -
   try dsimp only
   refine zB rfl (fun hfar=> ?_) (fun hfar=> ?_)
   ·
    obtain ⟨hv1,hv2⟩:=Pg.wn_far (a:=(ex,ey)) (b:=(fx,fy)) hz (by simp [Pg.far] at hfar;intro h;rcases hfar with k|k;exact k h.1;exact k h.2)
    refine ze<|znb 69 rR ?_
    have e5:([]:List Pg.Q2)=Pg.wnV l (ex,ey) (fx,fy):=hv2.symm
    rw [e5]
    refine za<|e_p (zb rfl)<|e_p (zb rfl)<|zh<|zd<|zJ<|zi ?_
    exact zEa yG (none,0) trivial (zn rfl) (zn rfl) (by rw [hv1,hv2];rfl) (ho:=((.c (i:=0) rfl .n):PickO _ _ _)) (.n:SelR _ _ _)
   ·
    have hin:Pg.inR (ex,ey)∧Pg.inR (fx,fy):=by simpa [Pg.far] using hfar
    refine zt<|zd<|ze<|zAa (X:=Unit) (fun x=>True) (fun x=>[(36,.bool (decide ((fx≤ex)∨(fy≤ey)))),(7,.int .i64 0),(6,.slice none 0 0),(5,.pointer (some ⟨b2,0,none⟩)),(4,.pointer (some ⟨b1,0,none⟩)),(0,.slice p n cap)]) (fun x=>[boxA b2 30 [.int .i64 fx,.int .i64 fy],boxA b1 30 [.int .i64 ex,.int .i64 ey]]) (fun x=>[slF (rI2 .i64) p cap l]) ?_ ?_
    ·
     refine za<|e_p (zg yn rfl sz3 rfl rfl)<|e_ru (zf 1 ty3 rfl rfl rfl)<|e_p (zg yn rfl sz3 rfl rfl)<|e_ru (zf 0 ty3 rfl rfl rfl)<|e_p (zIa rfl rfl)<|zS rfl rfl (zT rfl) (fun h6=> ?_) (fun h6=> ?_)
     ·
      refine e_no<|e_no<|e_no<|e_no<|e_no<|e_p (zo rfl rfl)<|zh ?_
      exact zY () (show True from by first|trivial|omega|simp_all) ((.e rfl (congrArg Value.bool cbu) (.of rfl)):SubM _ _) (ho:=((.of [0,0] rfl):PickO _ _ _)) ((.c (j:=0) rfl .n):SelR _ _ _)
     ·
      refine e_p (zg yn rfl sz3 rfl rfl)<|e_ru (zf 1 ty3 rfl rfl rfl)<|e_p (zg yn rfl sz3 rfl rfl)<|e_ru (zf 0 ty3 rfl rfl rfl)<|e_p (zIa rfl rfl)<|e_p (zo rfl rfl)<|zh ?_
      exact zY () (show True from by first|trivial|omega|simp_all) ((.e rfl (congrArg Value.bool cbu) (.of rfl)):SubM _ _) (ho:=((.of [0,0] rfl):PickO _ _ _)) ((.c (j:=0) rfl .n):SelR _ _ _)
    ·
     rintro ⟨⟩ -
     try dsimp only
     refine zB rfl (fun hord=> ?_) (fun hord=> ?_)
     ·
      obtain ⟨hv1,hv2⟩:=Pg.wn_ord (a:=(ex,ey)) (b:=(fx,fy)) hz hin (by dsimp only;omega)
      refine ze<|znb 69 rR ?_
      have e7:([]:List Pg.Q2)=Pg.wnV l (ex,ey) (fx,fy):=hv2.symm
      rw [e7]
      refine za<|e_p (zb rfl)<|e_p (zb rfl)<|zh<|zd<|zJ<|zi ?_
      exact zEa yG (none,0) trivial (zn rfl) (zn rfl) (by rw [hv1,hv2];rfl) (ho:=((.c (i:=0) rfl .n):PickO _ _ _)) (.n:SelR _ _ _)
     ·
      obtain ⟨hv1,hv2⟩:=Pg.wn_ok (a:=(ex,ey)) (b:=(fx,fy)) hz hin (by dsimp only;omega)
      refine zt<|zd<|ze<|znb 69 rR<|za<|e_p (zb rfl)<|zh<|zd<|ze<|ze<|za<|e_mv rfl<|e_p (zQ Tryz.underlying22 rfl)<|e_mv rfl<|zh<|zd<|zv<|zma (X:=Nat×(Option Addr)×Nat) (fun x:Nat×(Option Addr)×Nat=>x.1≤n) (fun x=>[(9,.slice (x.2.1) (x.1) (x.2.2)),(39,.int .i64 ((x.1:Nat):Int)),(38,.int .i64 ((n:Nat):Int)),(37,.slice p n cap),(7,.int .i64 0),(6,.slice none 0 0),(5,.pointer (some ⟨b2,0,none⟩)),(4,.pointer (some ⟨b1,0,none⟩))]) (fun x=>[rowA 69 rR (x.2.1) (x.2.2) (Pg.pts (l.take x.1)),boxA b2 30 [.int .i64 fx,.int .i64 fy],boxA b1 30 [.int .i64 ex,.int .i64 ey]]) (fun x=>[slF (rI2 .i64) p cap l]) (fun x:Nat×(Option Addr)×Nat=>n - x.1) (0,none,0) (show 0≤n from by exact Nat.zero_le _) ((.c rfl (.e rfl (by first|rfl|(congr 1;omega)|simp_all) (.of rfl))):SubM _ _) (ho:=((.e (i:=0) rfl (by first|rfl|(congr 1;omega)|simp_all) (.of [0,0] rfl)):PickO _ _ _)) ((.c (j:=0) rfl .n):SelR _ _ _) ?_
      rintro ⟨i,p7,c7⟩ hI
      replace hI:i≤n:=hI
      try dsimp only
      refine ze<|za<|e_p (zR rfl rfl)<|zh<|zd<|ze<|zB rfl (fun h8=> ?_) (fun h8=> ?_)
      ·
       have hpl:(Pg.pts (l.take i)).length=i:=by unfold Pg.pts;rw [List.length_map,List.length_take];omega
       refine zt<|zd<|ze<|zv<|ze<|za<|zI (x0:=(l.getD i (0,0))) 0 i rfl Tryz.underlying22 sz30 rfl rfl rfl cbs rfl rfl (gD (d:=(0,0)) om) (fun b9 o10 hok11=> ?_)
       obtain ⟨hok11x,hok11y⟩:=hok11
       replace hok11x:=zm.1 hok11x
       replace hok11y:=zm.1 hok11y
       refine e_ru (zG (j:=0) 0 ty30 rfl rfl rfl (.t2 .nil))<|zP rfl rfl (zu zr30 rfl) (fun b12=> ?_)
       refine zq 0 rfl rfl rfl rfl rfl sz30 rfl (.t2 .nil) .z<|zh<|zd<|za<|e_mv rfl<|e_p (zg yn rfl sz3 rfl rfl)<|e_ru (zf 0 ty3 rfl rfl rfl)<|e_p (zg yn rfl sz3 rfl rfl)<|e_ru (zf 0 ty3 rfl rfl rfl)<|zL rfl rfl (.c rfl (.c rfl .n)) ce56 (zhb (ex:=(l.getD i (0,0)).1) (ey:=(l.getD i (0,0)).2) (hwex:=cbo) (hwey:=cbo)) (.n) ?_
       rintro ⟨wr013,wr114,wr215,wr316⟩ -
       dsimp only [aq,nq,cq]
       refine zNa rfl rfl (zgb (r:=rR) (k:=1) yo inf69 rfl dd dd dd (.c (x:=(((Pg.pq ((l.getD i (0,0)).1) ((l.getD i (0,0)).2)).1),((Pg.pq ((l.getD i (0,0)).1) ((l.getD i (0,0)).2)).2))) (cs:=[wr013.b,wr013.l,wr114.b,wr114.l,wr215.b,wr215.l,wr316.b,wr316.l]) (wr013,wr114,wr215,wr316) rfl rfl rfl (fun g hr=>⟨Holds.get 0 rfl hr,Holds.get 1 rfl hr⟩) .n)) (fun b17 _=> ?_)
       refine zna 0 rfl .z<|zOa 2 rfl rfl rfl (zza 0 rfl yo inf69 dd rfl rfl cbs rfl cbs om om) (fun _=>(.s (.s .z))) ?_
       rintro ⟨p18,c19⟩ -
       dsimp only [aq,nq,cq]
       refine e_p (zb rfl)<|zh<|zK<|zd ?_
       have hrw:((Pg.pts (l.take i))++([(((Pg.pq ((l.getD i (0,0)).1) ((l.getD i (0,0)).2)).1),((Pg.pq ((l.getD i (0,0)).1) ((l.getD i (0,0)).2)).2))]))=Pg.pts (l.take (i+1)):=by rw [Pg.pts_take om]
       rw [hrw]
       refine za<|e_p (zw (z:=(((i+1):Nat):Int)) rfl rfl (w64 om))<|e_mv rfl<|zh<|zda ((i+1),p18,c19) (show (i+1)≤n from by show i+1≤n;omega) (by show n - (i+1)<n - i;omega) ((.e rfl (by first|rfl|(congr 1;omega)|simp_all) (.of rfl)):SubM _ _) (ho:=((.of [2,2,2] rfl):PickO _ _ _)) ((.c (j:=4) rfl .n):SelR _ _ _)
      ·
       refine zga<|zj<|zj<|zr<|zd<|ze<|ze ?_
       have hin9:i=n:=by omega
       have e20:Pg.pts (l.take i)=Pg.pts l:=by rw [hin9,List.take_of_length_le om]
       rw [e20]
       have hpl:(Pg.pts l).length=i:=by unfold Pg.pts;rw [List.length_map];omega
       have hbq0:=Pg.pts_bq hrng
       have hbq1:Pg.bq 99 (Pg.clL (Pg.pq ex 1) (Pg.pq ex 0) (Pg.pts l)):=Pg.clL_bq (Pg.hp_pq om om) (Pg.hp_pq om om) hbq0
       have hbq2:Pg.bq 963 (Pg.clL (Pg.pq fx 0) (Pg.pq fx 1) (Pg.clL (Pg.pq ex 1) (Pg.pq ex 0) (Pg.pts l))):=Pg.clL_bq (Pg.hp_pq om om) (Pg.hp_pq om om) hbq1
       have hbq3:Pg.bq 8739 (Pg.clL (Pg.pq 0 ey) (Pg.pq 1 ey) (Pg.clL (Pg.pq fx 0) (Pg.pq fx 1) (Pg.clL (Pg.pq ex 1) (Pg.pq ex 0) (Pg.pts l)))):=Pg.clL_bq (Pg.hp_pq om om) (Pg.hp_pq om om) hbq2
       have hcl0:(Pg.clL (Pg.pq ex 1) (Pg.pq ex 0) (Pg.pts l)).length≤2*(Pg.pts l).length:=Pg.clL_len
       have hcl1:(Pg.clL (Pg.pq fx 0) (Pg.pq fx 1) (Pg.clL (Pg.pq ex 1) (Pg.pq ex 0) (Pg.pts l))).length≤2*(Pg.clL (Pg.pq ex 1) (Pg.pq ex 0) (Pg.pts l)).length:=Pg.clL_len
       have hcl2:(Pg.clL (Pg.pq 0 ey) (Pg.pq 1 ey) (Pg.clL (Pg.pq fx 0) (Pg.pq fx 1) (Pg.clL (Pg.pq ex 1) (Pg.pq ex 0) (Pg.pts l)))).length≤2*(Pg.clL (Pg.pq fx 0) (Pg.pq fx 1) (Pg.clL (Pg.pq ex 1) (Pg.pq ex 0) (Pg.pts l))).length:=Pg.clL_len
       refine zic 2 rfl (.s (.s .z))<|zic 1 rfl (.s .z)<|za<|e_p (zZa .n (.c rfl .n))<|e_p (zZa .n (.c rfl .n))<|e_p (zZa .n (.c rfl .n))<|e_p (zZa .n (.c rfl .n))<|zNa rfl rfl (zba (enc:=fun z:Nat×List Value=>[.func (.func z.1) #[] z.2.toArray]) (ok:=fun _=>True) (h1:=fun _=>rfl) (h2:=fun _=>rfl) (k:=4) yu inf83 rfl dd dd dd (.c (x:=(57,[.pointer (some ⟨b1,0,none⟩)])) rfl rfl (fun _ _=>by trivial) (.c (x:=(59,[.pointer (some ⟨b2,0,none⟩)])) rfl rfl (fun _ _=>by trivial) (.c (x:=(60,[.pointer (some ⟨b1,0,none⟩)])) rfl rfl (fun _ _=>by trivial) (.c (x:=(61,[.pointer (some ⟨b2,0,none⟩)])) rfl rfl (fun _ _=>by trivial) .n))))) (fun b21 _=> ?_)
       refine e_p (zQ yu rfl)<|e_mv rfl<|zh<|zd<|zv<|zvc<|zpa<|ze<|za<|e_p (zR rfl rfl)<|zh<|zd<|ze<|zva rfl rfl<|zt<|zd<|ze<|zv<|ze<|za<|e_p (zka (j:=0) yu sz83 rfl rfl rfl om)<|r_vl rfl rfl (zla (x0:=(57,[.pointer (some ⟨b1,0,none⟩)])) (v:= .func (.func 57) #[] #[.pointer (some ⟨b1,0,none⟩)]) 0 0 rfl ty83 rfl rfl (by rfl) rfl) (fun _ hok22=> ?_)
       refine e_p (zb rfl)<|zh<|zd<|za<|e_mv rfl<|e_mv rfl<|zna 1 rfl (.s .z)<|zDc (first:=[]) (cap:=[.pointer (some ⟨b1,0,none⟩)]) rfl rfl rfl (.c rfl .n) ce57 (zje (p:=p7) (n:=i) (cap:=c7) (l:=(Pg.pts l)) (ba:=b1) (ex:=ex) (ey:=ey) (hn:=cbo) (hwex:=ass) (hwey:=ass) (hbq:=cbo) (hnK:=cbo)) (.c (j:=0) rfl (.c (j:=2) rfl .n)) ?_
       rintro ⟨p223,c224⟩ -
       dsimp only [aq,nq,cq]
       refine e_p (zb rfl)<|zh<|zK<|zd<|za<|e_p (zw (z:=1) rfl rfl (w64 dd))<|e_mv rfl<|zh<|zxa<|zpa<|ze<|za<|e_p (zR rfl rfl)<|zh<|zd<|ze<|zva rfl rfl<|zt<|zd<|ze<|zv<|ze<|za<|e_p (zka (j:=1) yu sz83 rfl rfl rfl om)<|r_vl rfl rfl (zla (x0:=(59,[.pointer (some ⟨b2,0,none⟩)])) (v:= .func (.func 59) #[] #[.pointer (some ⟨b2,0,none⟩)]) 1 1 rfl ty83 rfl rfl (by rfl) rfl) (fun _ hok25=> ?_)
       refine e_p (zb rfl)<|zh<|zd<|za<|e_mv rfl<|e_mv rfl<|zna 0 rfl .z<|zDc (first:=[]) (cap:=[.pointer (some ⟨b2,0,none⟩)]) rfl rfl rfl (.c rfl .n) ce59 (zke (p:=p223) (n:=(Pg.clL (Pg.pq ex 1) (Pg.pq ex 0) (Pg.pts l)).length) (cap:=c224) (l:=(Pg.clL (Pg.pq ex 1) (Pg.pq ex 0) (Pg.pts l))) (ba:=b2) (ex:=fx) (ey:=fy) (hn:=cbo) (hwex:=ass) (hwey:=ass) (hbq:=cbo) (hnK:=cbo)) (.c (j:=0) rfl (.c (j:=2) rfl .n)) ?_
       rintro ⟨p226,c227⟩ -
       dsimp only [aq,nq,cq]
       refine e_p (zb rfl)<|zh<|zK<|zd<|za<|e_p (zw (z:=2) rfl rfl (w64 dd))<|e_mv rfl<|zh<|zxa<|zpa<|ze<|za<|e_p (zR rfl rfl)<|zh<|zd<|ze<|zva rfl rfl<|zt<|zd<|ze<|zv<|ze<|za<|e_p (zka (j:=2) yu sz83 rfl rfl rfl om)<|r_vl rfl rfl (zla (x0:=(60,[.pointer (some ⟨b1,0,none⟩)])) (v:= .func (.func 60) #[] #[.pointer (some ⟨b1,0,none⟩)]) 2 2 rfl ty83 rfl rfl (by rfl) rfl) (fun _ hok28=> ?_)
       refine e_p (zb rfl)<|zh<|zd<|za<|e_mv rfl<|e_mv rfl<|zna 0 rfl .z<|zDc (first:=[]) (cap:=[.pointer (some ⟨b1,0,none⟩)]) rfl rfl rfl (.c rfl .n) ce60 (zle (p:=p226) (n:=(Pg.clL (Pg.pq fx 0) (Pg.pq fx 1) (Pg.clL (Pg.pq ex 1) (Pg.pq ex 0) (Pg.pts l))).length) (cap:=c227) (l:=(Pg.clL (Pg.pq fx 0) (Pg.pq fx 1) (Pg.clL (Pg.pq ex 1) (Pg.pq ex 0) (Pg.pts l)))) (ba:=b1) (ex:=ex) (ey:=ey) (hn:=cbo) (hwex:=ass) (hwey:=ass) (hbq:=cbo) (hnK:=cbo)) (.c (j:=0) rfl (.c (j:=4) rfl .n)) ?_
       rintro ⟨p229,c230⟩ -
       dsimp only [aq,nq,cq]
       refine e_p (zb rfl)<|zh<|zK<|zd<|za<|e_p (zw (z:=3) rfl rfl (w64 dd))<|e_mv rfl<|zh<|zxa<|zpa<|ze<|za<|e_p (zR rfl rfl)<|zh<|zd<|ze<|zva rfl rfl<|zt<|zd<|ze<|zv<|ze<|za<|e_p (zka (j:=3) yu sz83 rfl rfl rfl om)<|r_vl rfl rfl (zla (x0:=(61,[.pointer (some ⟨b2,0,none⟩)])) (v:= .func (.func 61) #[] #[.pointer (some ⟨b2,0,none⟩)]) 3 3 rfl ty83 rfl rfl (by rfl) rfl) (fun _ hok31=> ?_)
       refine e_p (zb rfl)<|zh<|zd<|za<|e_mv rfl<|e_mv rfl<|zna 0 rfl .z<|zDc (first:=[]) (cap:=[.pointer (some ⟨b2,0,none⟩)]) rfl rfl rfl (.c rfl .n) ce61 (zme (p:=p229) (n:=(Pg.clL (Pg.pq 0 ey) (Pg.pq 1 ey) (Pg.clL (Pg.pq fx 0) (Pg.pq fx 1) (Pg.clL (Pg.pq ex 1) (Pg.pq ex 0) (Pg.pts l)))).length) (cap:=c230) (l:=(Pg.clL (Pg.pq 0 ey) (Pg.pq 1 ey) (Pg.clL (Pg.pq fx 0) (Pg.pq fx 1) (Pg.clL (Pg.pq ex 1) (Pg.pq ex 0) (Pg.pts l))))) (ba:=b2) (ex:=fx) (ey:=fy) (hn:=cbo) (hwex:=ass) (hwey:=ass) (hbq:=cbo) (hnK:=cbo)) (.c (j:=0) rfl (.c (j:=4) rfl .n)) ?_
       rintro ⟨p232,c233⟩ -
       dsimp only [aq,nq,cq]
       refine e_p (zb rfl)<|zh<|zK<|zd<|za<|e_p (zw (z:=4) rfl rfl (w64 dd))<|e_mv rfl<|zh<|zxa<|zpa<|ze<|za<|e_p (zR rfl rfl)<|zh<|zd<|ze<|zBa rfl rfl<|zga<|zj<|zj<|zr<|zd<|ze<|za<|e_mv rfl<|e_p (zb rfl)<|e_p (zb rfl)<|zh<|zd<|zJ ?_
       have e34:Pg.clL (Pg.pq 1 fy) (Pg.pq 0 fy) (Pg.clL (Pg.pq 0 ey) (Pg.pq 1 ey) (Pg.clL (Pg.pq fx 0) (Pg.pq fx 1) (Pg.clL (Pg.pq ex 1) (Pg.pq ex 0) (Pg.pts l))))=Pg.wnV l (ex,ey) (fx,fy):=by exact hv2.symm
       rw [e34]
       exact zEa yG (p232,c233) trivial (zn rfl) (zn rfl) (by first|(rw [hv1,hv2];done)|(rw [hv1,hv2];rfl)) (ho:=((.c (i:=0) rfl .n):PickO _ _ _)) (.n:SelR _ _ _)
end Go.Proofs.YtjcpbhlijoigfaaGreat.Sp
namespace Go.Proofs.YtjcpbhlijoigfaaGreat.Sp
open Go
set_option linter.unusedVariables false
set_option maxRecDepth 100000
set_option maxHeartbeats 8000000
theorem zRa {s:Bool} {p:Option Addr} {n:Nat} {cap:Nat} {l:List Int} (hn:l.length=n) (ho:yv l) (hln:n≤4398046511104):Con yk 112 [.bool s,.slice p n cap] [] [slF (rI .u32) p cap l] (Y:=(Option Addr)×Nat) (fun y=>True) (fun y=> .agg #[.bool (decide ((yI s (yi l))<0)),.slice (y.1) ((yd ((yI s (yi l)).natAbs)).length) (y.2)]) (fun y=>[]) (fun y=>[slF (rI .u32) (y.1) (y.2) (yd ((yI s (yi l)).natAbs))]):=by
 refine zp Tryz.func112 rfl rfl rfl (fun c=> ?_)
 show RunC _ _ _ _ _ [(0,.bool s),(1,.slice p n cap)] [] [slF (rI .u32) p cap l]
 refine zfa 0 rfl (fun hL0=> ?_)
 refine ze<|za<|zP rfl rfl (zu zr41 rfl) (fun b1=> ?_)
 refine zh<|zd<|ze<|za<|e_mv rfl<|e_p (zQ yf rfl)<|e_p (zb rfl)<|zh<|zd<|ze<|zv<|zma (X:=Nat) (fun x:Nat=>x≤n∧yB (l.take x)=yB l) (fun x=>[(5,ya yb ((x:Nat):Int)),(4,yc (some ⟨b1,0,none⟩)),(0,.bool s),(1,.slice p n cap)]) (fun x=>[boxA b1 41 [wz.b,wz.l]]) (fun x=>[slF (rI .u32) p cap l]) (fun x:Nat=>x) n (show n≤n∧yB (l.take n)=yB l from by exact ⟨by omega,by rw [List.take_of_length_le om]⟩) ((.of rfl):SubM _ _) (ho:=((.c (i:=0) rfl .n):PickO _ _ _)) ((.c (j:=0) rfl .n):SelR _ _ _) ?_
 rintro k hI
 replace hI:k≤n∧yB (l.take k)=yB l:=hI
 try dsimp only
 obtain ⟨hk,hT⟩:=hI
 refine ze<|zAa (X:=Unit) (fun x=>True) (fun x=>[(17,.bool (decide (0<k∧l.getD (k - 1) 0=0))),(5,ya yb ((k:Nat):Int)),(4,yc (some ⟨b1,0,none⟩)),(0,.bool s),(1,.slice p n cap)]) (fun x=>[boxA b1 41 [wz.b,wz.l]]) (fun x=>[slF (rI .u32) p cap l]) ?_ ?_
 ·
  refine za<|e_mv rfl<|e_p (zFa rfl rfl)<|zS rfl rfl (zT rfl) (fun h2=> ?_) (fun h2=> ?_)
  ·
   refine e_mv rfl<|e_mv rfl<|e_p (zja (z:=(((k:Nat):Int) - 1)) rfl rfl (w64 om))<|zI (x0:=(l.getD ((((k:Nat):Int) - 1).toNat) 0)) 0 ((((k:Nat):Int) - 1).toNat) rfl yf sz121 rfl rfl rfl cbs rfl om (gD (d:=0) om) (fun b3 o4 hok5=> ?_)
   replace hok5:=zH.1 hok5
   refine e_ru (zl (j:=0) 0 ty121 rfl rfl rfl rfl)<|e_p (zsa rfl rfl)<|e_p (zo rfl rfl)<|zh ?_
   exact zY () (show True from by first|trivial|omega|simp_all) ((.e rfl (congrArg Value.bool (by have h1:0<k:=om;have h2:((k:Int) - 1).toNat=k - 1:=om;simp [h1,h2])) (.of rfl)):SubM _ _) (ho:=((.c (i:=0) rfl .n):PickO _ _ _)) ((.c (j:=1) rfl .n):SelR _ _ _)
  ·
   refine e_no<|e_no<|e_no<|e_no<|e_no<|e_no<|e_p (zo rfl rfl)<|zh ?_
   exact zY () (show True from by first|trivial|omega|simp_all) ((.e rfl (congrArg Value.bool (by have h1:¬0<k:=om;simp [h1])) (.of rfl)):SubM _ _) (ho:=((.c (i:=0) rfl .n):PickO _ _ _)) ((.c (j:=0) rfl .n):SelR _ _ _)
 ·
  rintro ⟨⟩ -
  try dsimp only
  refine zB rfl (fun hc=> ?_) (fun hc=> ?_)
  ·
   refine zt<|zd<|zv<|za<|e_mv rfl<|e_p (zja (z:=(((k - 1):Nat):Int)) rfl rfl (w64 om))<|e_p (zb rfl)<|zh<|zK<|zda (k - 1) (show (k - 1)≤n∧yB (l.take (k - 1))=yB l from by exact ⟨by omega,by rw [← hT,Big.trim_go l hc.1 om hc.2]⟩) (by show k - 1<k;omega) ((.e rfl (by first|rfl|(congr 1;omega)|simp_all) (.of rfl)):SubM _ _) (ho:=((.c (i:=0) rfl .n):PickO _ _ _)) ((.c (j:=0) rfl .n):SelR _ _ _)
  ·
   have htr:l.take k=yd (yI s (yi l)).natAbs:=by rw [Big.sg_abs (yD ho),←Big.digs_valL ho,←hT];exact (Big.trim_stop l om hc).symm
   have hlt:(l.take k).length=k:=by rw [List.length_take];omega
   have hsg:=Big.made_sign (s:=s) ho htr hlt
   refine zga<|zj<|zj<|zr<|zd<|ze<|za<|e_mv rfl<|zqe rfl rfl (zT rfl) (fun hs=> ?_) (fun hs=> ?_)
   ·
    refine e_mv rfl<|e_p (zFa rfl rfl)<|e_p (zo rfl rfl)<|zNa rfl rfl (zDa (rI .u32) yf inf121) (fun b6 _=> ?_)
    refine e_mv rfl<|e_mv rfl<|e_p (ztb (hi:=k) yf sz121 rfl (.s rfl) (.inr ⟨_,rfl⟩) om)<|zAc (zgc 0 rfl k om) (fun _ _=> ?_)
    refine zOa 0 rfl rfl rfl (zza 0 rfl yf inf121 dd rfl rfl cbs rfl cbs om om) (fun _=> .z) ?_
    rintro ⟨p7,c8⟩ -
    dsimp only [aq,nq,cq]
    refine e_p (zN zr41 rfl yg (.c sz4 (.c sz39 .n)) (.c rfl (.c rfl .n)) (.c rfl rfl rfl (.take .nil) (.c rfl rfl rfl (.skip (.take .nil)) .n)))<|zq 1 rfl rfl rfl rfl rfl sz41 rfl (.t2 .nil) (.s .z)<|zh<|zd<|zJ ?_
    subst hs
    refine zTb 0 rfl .z ?_
    exact zx Tryz.results112 (p7,c8) trivial (zC 1 ty41 rfl rfl (.t2 .nil)) (by rw [hsg,←htr,hlt,Nat.zero_add] <;> simp) (ho:=(.n:PickO _ _ _)) ((.e (j:=0) rfl (by rw [htr] <;> rfl) .n):SelR _ _ _)
   ·
    refine e_no<|e_no<|e_p (zo rfl rfl)<|zNa rfl rfl (zDa (rI .u32) yf inf121) (fun b9 _=> ?_)
    refine e_mv rfl<|e_mv rfl<|e_p (ztb (hi:=k) yf sz121 rfl (.s rfl) (.inr ⟨_,rfl⟩) om)<|zAc (zgc 0 rfl k om) (fun _ _=> ?_)
    refine zOa 0 rfl rfl rfl (zza 0 rfl yf inf121 dd rfl rfl cbs rfl cbs om om) (fun _=> .z) ?_
    rintro ⟨p10,c11⟩ -
    dsimp only [aq,nq,cq]
    refine e_p (zN zr41 rfl yg (.c sz4 (.c sz39 .n)) (.c rfl (.c rfl .n)) (.c rfl rfl rfl (.take .nil) (.c rfl rfl rfl (.skip (.take .nil)) .n)))<|zq 1 rfl rfl rfl rfl rfl sz41 rfl (.t2 .nil) (.s .z)<|zh<|zd<|zJ ?_
    subst hs
    refine zTb 0 rfl .z ?_
    exact zx Tryz.results112 (p10,c11) trivial (zC 1 ty41 rfl rfl (.t2 .nil)) (by rw [hsg,←htr,hlt,Nat.zero_add] <;> simp) (ho:=(.n:PickO _ _ _)) ((.e (j:=0) rfl (by rw [htr] <;> rfl) .n):SelR _ _ _)
theorem zpb {s:Bool} {a:Nat} {p:Option Addr} {cap:Nat} (hln:(yd (a)).length≤4398046511104):Con yk 112 [.bool (s),.slice (p) ((yd (a)).length) (cap)] [] [slF (rI .u32) (p) (cap) (yd (a))] (Y:=(Option Addr)×(Nat)) (fun y=>True) (fun y=> .agg #[.bool (decide ((yI s (a:Int))<0)),.slice (y.1) ((yd ((yI s (a:Int)).natAbs)).length) (y.2)]) (fun y=>[]) (fun y=>[slF (rI .u32) (y.1) (y.2) (yd ((yI s (a:Int)).natAbs))]):=by
  have h:= @zRa s p (yd a).length cap (yd a) rfl (yr a) hln
  rw [yx] at h
  exact h
theorem zcb {p:Option Addr} {n:Nat} {cap:Nat} {l:List Int} {i:Nat} (hn:l.length=n) (hi:i≤4611686018427387904):Con yk 143 [.slice p n cap,ya yb ((i:Nat):Int)] [] [slF (rI .u32) p cap l] (Y:=Unit) (fun y=>True) (fun y=> .int .u64 (l.getD i 0)) (fun y=>[]) (fun y=>[]):=by
 refine zp Tryz.func143 rfl rfl rfl (fun c=> ?_)
 show RunC _ _ _ _ _ [(0,.slice p n cap),(1,ya yb ((i:Nat):Int))] [] [slF (rI .u32) p cap l]
 refine zfa 0 rfl (fun hL0=> ?_)
 refine ze<|za<|e_p (zb rfl)<|zh<|zd<|ze<|ze<|za<|e_mv rfl<|e_mv rfl<|e_p (zQ yf rfl)<|e_p (zR rfl rfl)<|zh<|zd<|zB rfl (fun h1=> ?_) (fun h1=> ?_)
 ·
  refine ze<|za<|e_mv rfl<|e_mv rfl<|zI (x0:=(l.getD i 0)) 0 i rfl yf sz121 rfl rfl rfl cbs rfl rfl (gD (d:=0) om) (fun b2 o3 hok4=> ?_)
  replace hok4:=zH.1 hok4
  refine e_ru (zl (j:=0) 0 ty121 rfl rfl rfl rfl)<|e_p (zM (z:=(l.getD i 0)) rfl (by rw [ym];rfl) yl (wu64 om))<|e_p (zb rfl)<|zh<|zd<|zJ<|zi ?_
  exact zx Tryz.results143 () trivial (zn rfl) rfl (ho:=(.n:PickO _ _ _)) (.n:SelR _ _ _)
 ·
  refine zt<|zd<|ze<|za<|e_p (zb rfl)<|zh<|zd<|zJ ?_
  exact zx Tryz.results143 () trivial (zn rfl) (by rw [show l.getD i 0=0 by simp [List.getD,List.getElem?_eq_none (show l.length≤i by omega)]]) (ho:=(.n:PickO _ _ _)) (.n:SelR _ _ _)
theorem zyc {s:Bool} {p:Option Addr} {n:Nat} {cap:Nat} {l:List Int} (hn:l.length=n):Con yk 122 [.agg #[.bool s,.slice p n cap]] [] [slF (rI .u32) p cap l] (Y:=Unit) (fun y=>True) (fun y=> .bool (decide (Big.canon s l))) (fun y=>[]) (fun y=>[]):=by
 refine zp Tryz.func122 rfl rfl rfl (fun c=> ?_)
 show RunC _ _ _ _ _ [(0,.agg #[.bool s,.slice p n cap])] [] [slF (rI .u32) p cap l]
 refine zfa 0 rfl (fun hL0=> ?_)
 refine ze<|za<|zP rfl rfl (zV rfl rfl) (fun b1=> ?_)
 refine e_p (zb rfl)<|zh<|zd<|ze<|za<|e_p (zg yg rfl sz39 rfl rfl)<|e_ru (zf 0 ty39 rfl rfl rfl)<|e_p (zQ yf rfl)<|e_p (zb rfl)<|zh<|zd<|ze<|ze<|za<|e_p (zb rfl)<|zh<|zd<|zv<|zma (X:=Nat) (fun x:Nat=>x≤n∧∀j,j<x→l.getD j 0<1000000000) (fun x=>[(4,ya yb ((x:Nat):Int)),(3,ya yb ((n:Nat):Int)),(1,yc (some ⟨b1,0,none⟩))]) (fun x=>[boxA b1 41 [.bool s,.slice p n cap]]) (fun x=>[slF (rI .u32) p cap l]) (fun x:Nat=>n - x) 0 (show 0≤n∧∀j,j<0→l.getD j 0<1000000000 from by exact ⟨by omega,fun j h=>by omega⟩) ((.e rfl (by first|rfl|(congr 1;omega)|simp_all) (.c rfl (.c rfl .n))):SubM _ _) (ho:=((.c (i:=0) rfl .n):PickO _ _ _)) ((.c (j:=0) rfl .n):SelR _ _ _) ?_
 rintro i hI
 replace hI:i≤n∧∀j,j<i→l.getD j 0<1000000000:=hI
 try dsimp only
 obtain ⟨hi,hall⟩:=hI
 refine ze<|ze<|za<|e_mv rfl<|e_mv rfl<|e_p (zR rfl rfl)<|zh<|zd<|zB rfl (fun h2=> ?_) (fun h2=> ?_)
 ·
  refine zt<|zd<|ze<|zv<|ze<|za<|e_p (zg yg rfl sz39 rfl rfl)<|e_ru (zf 0 ty39 rfl rfl rfl)<|e_mv rfl<|zI (x0:=(l.getD i 0)) 0 i rfl yf sz121 rfl rfl rfl cbs rfl rfl (gD (d:=0) om) (fun b3 o4 hok5=> ?_)
  replace hok5:=zH.1 hok5
  refine e_ru (zl (j:=0) 0 ty121 rfl rfl rfl rfl)<|e_p (zIa rfl rfl)<|zh<|zd<|zB rfl (fun hb=> ?_) (fun hb=> ?_)
  ·
   refine ze<|za<|e_p (zb rfl)<|zh<|zd<|zJ<|zk<|zi<|zi<|zk<|zi ?_
   exact zx Tryz.results122 () trivial (zn rfl) (congrArg Value.bool (decide_eq_false (fun h=>((Big.canon_more om).1 h).2 ⟨_,Big.getD_mem om,hb⟩))) (ho:=(.n:PickO _ _ _)) (.n:SelR _ _ _)
  ·
   refine zt<|zK<|zd<|za<|e_mv rfl<|e_p (zw (z:=(((i+1):Nat):Int)) rfl rfl (w64 om))<|e_p (zb rfl)<|zh<|zda (i+1) (show (i+1)≤n∧∀j,j<(i+1)→l.getD j 0<1000000000 from by refine ⟨by omega,fun j hj=> ?_⟩;by_cases e:j=i;subst e;omega;exact hall j om) (by show n - (i+1)<n - i;omega) ((.of rfl):SubM _ _) (ho:=((.c (i:=0) rfl .n):PickO _ _ _)) ((.c (j:=1) rfl .n):SelR _ _ _)
 ·
  refine zga<|zj<|zj<|zr<|zd<|ze<|ze<|za<|e_mv rfl<|e_p (zsa rfl rfl)<|zh<|zd<|zB rfl (fun h0=> ?_) (fun h0=> ?_)
  ·
   refine ze<|za<|e_p (zg yg rfl sz4 rfl rfl)<|e_ru (zf 0 ty4 rfl rfl rfl)<|e_p (zHb rfl)<|e_p (zb rfl)<|zh<|zd<|zJ<|zi ?_
   exact zx Tryz.results122 () trivial (zn rfl) (congrArg Value.bool (by have:l.length=0:=om;cases s <;> simp [Big.canon,this])) (ho:=(.n:PickO _ _ _)) (.n:SelR _ _ _)
  ·
   refine zt<|zd<|ze<|za<|e_p (zg yg rfl sz39 rfl rfl)<|e_ru (zf 0 ty39 rfl rfl rfl)<|e_mv rfl<|e_p (zja (z:=(((n:Nat):Int) - 1)) rfl rfl (w64 om))<|zI (x0:=(l.getD ((((n:Nat):Int) - 1).toNat) 0)) 0 ((((n:Nat):Int) - 1).toNat) rfl yf sz121 rfl rfl rfl cbs rfl om (gD (d:=0) om) (fun b6 o7 hok8=> ?_)
   replace hok8:=zH.1 hok8
   refine e_ru (zl (j:=0) 0 ty121 rfl rfl rfl rfl)<|e_p (zLa rfl rfl)<|e_p (zb rfl)<|zh<|zd<|zJ ?_
   exact zx Tryz.results122 () trivial (zn rfl) (congrArg Value.bool (decide_eq_decide.2 (by rw [Big.canon_more om,hn];have e:((n:Int) - 1).toNat=n - 1:=om;rw [e];exact ⟨fun h=>h.1,fun h=>⟨h,fun ⟨g,hg,hb⟩=>by obtain ⟨j,hj,e⟩:=Big.mem_getD hg;have:=hall j om;omega⟩⟩))) (ho:=(.n:PickO _ _ _)) (.n:SelR _ _ _)
theorem zUa {s:Bool} {p:Option Addr} {n:Nat} {cap:Nat} {l:List Int} (hn:l.length=n) (hln:n≤1099511627776):Con yk 111 [.agg #[.bool s,.slice p n cap]] [] [slF (rI .u32) p cap l] (Y:=(Option Addr)×Nat) (fun y=>True) (fun y=> .agg #[.bool (decide ((ye s l)<0)),.slice (y.1) ((yd ((ye s l).natAbs)).length) (y.2)]) (fun y=>[]) (fun y=>[slF (rI .u32) (y.1) (y.2) (yd ((ye s l).natAbs))]):=by
 refine zp Tryz.func111 rfl rfl rfl (fun c=> ?_)
 show RunC _ _ _ _ _ [(0,.agg #[.bool s,.slice p n cap])] [] [slF (rI .u32) p cap l]
 refine zfa 0 rfl (fun hL0=> ?_)
 refine zWa 0 rfl (fun hE0=> ?_)
 have hnn:yF l:=fun g hg=>(zH.1 (hE0 g hg)).1
 refine ze<|za<|zP rfl rfl (zV rfl rfl) (fun b1=> ?_)
 refine zP rfl rfl (zu zr41 rfl) (fun b2=> ?_)
 refine zh<|zd<|ze<|ze<|za<|e_ru (zc 1 ty41 rfl rfl (.t2 .nil))<|zO rfl rfl (.c rfl .n) ce122 (zyc (s:=s) (p:=p) (n:=n) (cap:=cap) (l:=l) (hn:=ass)) (.c (j:=0) rfl .n)<|e_p (zmb rfl)<|zh<|zd<|zB rfl (fun hc=> ?_) (fun hc=> ?_)
 ·
  refine ze<|za<|e_p (zN zr41 rfl yg (.c sz4 (.c sz39 .n)) .n .n)<|zq 0 rfl rfl rfl rfl rfl sz41 rfl (.t2 .nil) .z<|zh<|zd<|zJ<|zi ?_
  have hz:ye s l=0:=by unfold ye;rw [if_neg hc]
  refine zCd (rI .u32) ?_
  exact zx Tryz.results111 (none,0) trivial (zC 0 ty41 rfl rfl (.t2 .nil)) (by rw [hz];rfl) (ho:=(.n:PickO _ _ _)) ((.e (j:=0) rfl (by rw [hz];rfl) .n):SelR _ _ _)
 ·
  refine zt<|zd<|ze<|zZ (OW:=[boxA b2 41 [wz.b,wz.l]]) (O:=[boxA b1 41 [.bool s,.slice p n cap]]) 5 mixed (.then .ret) kr<|e_pv 0 rfl rfl (zg yg rfl sz4 rfl rfl)<|e_u 1 rfl rfl (zf 0 ty4 rfl rfl rfl)<|e_pv 3 rfl rfl (zg yg rfl sz39 rfl rfl)<|e_uw 4 rfl rfl (zf 1 ty39 rfl rfl rfl)<|e_one 2 (zra rfl rfl rfl rfl (zDa (rI .u32) yf inf121) (fun b3 _=> ?_))
  refine e_one 5 (zBd (A':=fun v:Option Addr×Nat=>rowA 121 (rI .u32) v.1 v.2 (([])++l)) kr rfl rfl rfl (zza 0 rfl yf inf121 dd rfl rfl cbs rfl cbs om om) ?_)
  rintro ⟨p4,c5⟩ -
  dsimp only [aq,nq,cq]
  refine e_pv 6 rfl rfl (zN zr41 rfl yg (.c sz4 (.c sz39 .n)) (.c rfl (.c rfl .n)) (.c rfl rfl rfl (.take .nil) (.c rfl rfl rfl (.skip (.take .nil)) .n)))<|zab (zea (i:=1) rfl)<|e_one 7 (zA kr rfl rfl rfl rfl rfl sz41 rfl (.t2 .nil) ?_)
  refine zX kr<|zd<|zJ ?_
  have hcc:Big.canon s l:=Decidable.not_not.1 hc
  have hd:yd (ye s l).natAbs=l:=by rw [Big.raw_digs hnn,if_pos hcc]
  have hs:=Big.raw_sign hnn hcc
  refine zTb 1 rfl (.s .z) ?_
  exact zx Tryz.results111 (p4,c5) trivial (zC 0 ty41 rfl rfl (.t2 .nil)) (by rw [hs,hd,hn,Nat.zero_add]) (ho:=(.n:PickO _ _ _)) ((.e (j:=0) rfl (by rw [hd] <;> rfl) .n):SelR _ _ _)
theorem zYc {z:Int} {p:Option Addr} {cap:Nat} (hln:yq z≤1099511627776):Con yk 111 [.agg #[.bool (decide ((z)<0)),.slice (p) ((yd ((z).natAbs)).length) (cap)]] [] [slF (rI .u32) (p) (cap) (yd ((z).natAbs))] (Y:=(Option Addr)×(Nat)) (fun y=>True) (fun y=> .agg #[.bool (decide ((z)<0)),.slice (y.1) ((yd ((z).natAbs)).length) (y.2)]) (fun y=>[]) (fun y=>[slF (rI .u32) (y.1) (y.2) (yd ((z).natAbs))]):=by
  have h:= @zUa (decide ((z)<0)) p (yd (z).natAbs).length cap (yd (z).natAbs) rfl hln
  rw [yw] at h
  exact h
theorem zAf {z:Int} (hz: -9223372036854775808≤z∧z≤9223372036854775807):Con yk 113 [ya yb z] [] [] (Y:=(Option Addr)×Nat) (fun y=>True) (fun y=> .agg #[.bool (decide (z<0)),.slice (y.1) ((yd ((z).natAbs)).length) (y.2)]) (fun y=>[]) (fun y=>[slF (rI .u32) (y.1) (y.2) (yd ((z).natAbs))]):=by
 refine zp Tryz.func113 rfl rfl rfl (fun c=> ?_)
 show RunC _ _ _ _ _ [(0,ya yb z)] [] []
 refine ze<|za<|zP rfl rfl (zu zr41 rfl) (fun b1=> ?_)
 refine zh<|zd<|ze<|za<|e_mv rfl<|e_p (zM (z:=(z%18446744073709551616)) rfl (by rw [Tryz.underlying3];rfl) yl (wu64m om))<|e_p (zb rfl)<|zh<|zd<|zAa (X:=Unit) (fun x=>True) (fun x=>[(3,.int .u64 ((z.natAbs:Nat):Int)),(2,yc (some ⟨b1,0,none⟩)),(0,ya yb z)]) (fun x=>[boxA b1 41 [wz.b,wz.l]]) (fun x=>[]) ?_ ?_
 ·
  refine ze<|za<|e_mv rfl<|e_p (zR rfl rfl)<|zh<|zd<|zB rfl (fun hs=> ?_) (fun hs=> ?_)
  ·
   refine za<|e_mv rfl<|e_p (zw (z:=(z+1)) rfl rfl (w64 om))<|e_p (zyd (z:=(-(z+1))) rfl (w64 om))<|e_p (zM (z:=(-(z+1))) rfl (by rw [Tryz.underlying3];rfl) yl (wu64 om))<|e_p (zw (z:=((z.natAbs:Nat):Int)) rfl rfl (wu64 om))<|e_p (zb rfl)<|zh ?_
   exact zY () (show True from by first|trivial|omega|simp_all) ((.of rfl):SubM _ _) (ho:=((.c (i:=0) rfl .n):PickO _ _ _)) (.n:SelR _ _ _)
  ·
   have e2:((z%18446744073709551616):Int)=((z.natAbs:Nat):Int):=by omega
   rw [e2]
   refine zt ?_
   exact zY () (show True from by first|trivial|omega|simp_all) ((.of rfl):SubM _ _) (ho:=((.c (i:=0) rfl .n):PickO _ _ _)) (.n:SelR _ _ _)
 ·
  rintro ⟨⟩ -
  try dsimp only
  refine ze<|za<|zNa rfl rfl (zDa (rI .u32) yf inf121) (fun b3 _=> ?_)
  refine e_p (zb rfl)<|zh<|zd<|ze<|zv<|zma (X:=Nat×(Option Addr)×Nat×(List Int)) (fun x:Nat×(Option Addr)×Nat×(List Int)=>x.1≤z.natAbs∧x.2.2.2++yd x.1=yd z.natAbs) (fun x=>[(4,.slice (x.2.1) (x.2.2.2.length) (x.2.2.1)),(3,.int .u64 ((x.1:Nat):Int)),(2,yc (some ⟨b1,0,none⟩)),(0,ya yb z)]) (fun x=>[rowA 121 (rI .u32) (x.2.1) (x.2.2.1) (x.2.2.2),boxA b1 41 [wz.b,wz.l]]) (fun x=>[]) (fun x:Nat×(Option Addr)×Nat×(List Int)=>x.1) (z.natAbs,some ⟨b3,0,none⟩,0,[]) (show z.natAbs≤z.natAbs∧([])++yd z.natAbs=yd z.natAbs from by exact ⟨Nat.le_refl _,rfl⟩) ((.e rfl (by first|rfl|(congr 1;omega)|simp_all) (.of rfl)):SubM _ _) (ho:=((.of [0,0] rfl):PickO _ _ _)) (.n:SelR _ _ _) ?_
  rintro ⟨m,p,c,os⟩ hI
  replace hI:m≤z.natAbs∧os++yd m=yd z.natAbs:=hI
  try dsimp only
  obtain ⟨hnn,hos⟩:=hI
  have hlen0:os.length+(yd m).length≤3:=by have:=congrArg List.length hos;rw [List.length_append] at this;have:=Big.zlf (show z.natAbs<18446744073709551616 by omega);omega
  refine ze<|ze<|za<|e_mv rfl<|e_p (zFa rfl rfl)<|zh<|zd<|zB rfl (fun h4=> ?_) (fun h4=> ?_)
  ·
   refine zt<|zd<|zv<|ze<|za<|e_mv rfl<|e_mv rfl<|e_p (zoa (z:=(((m%1000000000):Nat):Int)) rfl rfl om (remN om om))<|e_p (zM (z:=(((m%1000000000):Nat):Int)) rfl (by rw [yl];rfl) ym (wu32 om))<|zNa rfl rfl (zba (enc:=fun z:Int=>[.int .u32 z]) (ok:=InK .u32) (h1:=fun _=>rfl) (h2:=fun _=>rfl) (k:=1) yf inf121 rfl dd dd dd (.c (x:=(((m%1000000000):Nat):Int)) rfl rfl (fun _ _=>by exact zH.2 om) .n)) (fun b5 _=> ?_)
   refine zna 0 rfl .z<|zOa 1 rfl rfl rfl (zza 0 rfl yf inf121 dd rfl rfl cbs rfl cbs om om) (fun _=>(.s .z)) ?_
   rintro ⟨p6,c7⟩ -
   dsimp only [aq,nq,cq]
   refine e_p (zb rfl)<|zh<|zd<|za<|e_mv rfl<|e_p (zkb (z:=(((m / 1000000000):Nat):Int)) rfl rfl om (by rw [quoN (z:=(((m / 1000000000):Nat):Int)) om om];exact wu64 om))<|e_p (zb rfl)<|zh<|zK<|zda ((m / 1000000000),p6,c7,os++[((m%1000000000:Nat):Int)]) (show (m / 1000000000)≤z.natAbs∧(os++[((m%1000000000:Nat):Int)])++yd (m / 1000000000)=yd z.natAbs from by exact ⟨by omega,Big.split_step om hos⟩) (by show m / 1000000000<m;omega) ((.e rfl (by simp) (.of rfl)):SubM _ _) (ho:=((.e (i:=1) rfl (by first|rfl|(congr 1;omega)|simp_all) (.c (i:=1) rfl .n)):PickO _ _ _)) (.n:SelR _ _ _)
  ·
   have hm0:m=0:=by omega
   subst hm0
   have hd:os=yd z.natAbs:=by simpa [Big.digs_zero] using hos
   have hok:yv os:=by rw [hd];exact yr _
   have hlen:os.length≤3:=by rw [hd];exact Big.zlf om
   have hsg:yI (decide (z<0)) (yi os)=z:=by rw [hd,yx];exact Big.sg_big z
   refine zga<|zj<|zj<|zr<|zd<|ze<|za<|e_mv rfl<|e_p (zR rfl rfl)<|e_mv rfl<|zna 0 rfl .z<|zL rfl rfl (.c rfl (.c rfl .n)) ce112 (zRa (s:=decide (z<0)) (p:=p) (n:=os.length) (cap:=c) (l:=os) (hn:=by first|rfl|omega) (ho:=by exact hok) (hln:=by first|rfl|omega)) (.c (j:=0) rfl .n) ?_
   rintro ⟨p28,c29⟩ -
   dsimp only [aq,nq,cq]
   refine zq 1 rfl rfl rfl rfl rfl sz41 rfl (.t2 .nil) (.s .z)<|zh<|zd<|zJ ?_
   exact zx Tryz.results113 (p28,c29) trivial (zC 1 ty41 rfl rfl (.t2 .nil)) (by rw [hsg]) (ho:=(.n:PickO _ _ _)) ((.e (j:=0) rfl (by rw [hsg]) .n):SelR _ _ _)
theorem zBf {a:Nat} {b:Nat} {p1:Option Addr} {c1:Nat} {p2:Option Addr} {c2:Nat} (hb1:(yd a).length≤1099511627776) (hb2:(yd b).length≤1099511627776):Con yk 128 [.slice p1 ((yd a).length) c1,.slice p2 ((yd b).length) c2] [] [slF (rI .u32) p1 c1 (yd a),slF (rI .u32) p2 c2 (yd b)] (Y:=(Option Addr)×Nat) (fun y=>True) (fun y=> .slice (y.1) ((yd (a+b)).length) (y.2)) (fun y=>[]) (fun y=>[slF (rI .u32) (y.1) (y.2) (yd (a+b))]):=by
 refine zp Tryz.func128 rfl rfl rfl (fun c=> ?_)
 show RunC _ _ _ _ _ [(0,.slice p1 ((yd a).length) c1),(1,.slice p2 ((yd b).length) c2)] [] [slF (rI .u32) p1 c1 (yd a),slF (rI .u32) p2 c2 (yd b)]
 refine zfa 0 rfl (fun hL0=> ?_)
 refine zfa 1 rfl (fun hL1=> ?_)
 refine ze<|za<|e_p (zb rfl)<|zh<|zd<|ze<|za<|zNa rfl rfl (zDa (rI .u32) yf inf121) (fun b1 _=> ?_)
 refine e_p (zb rfl)<|zh<|zd<|ze<|za<|e_p (zb rfl)<|zh<|zd<|ze<|ze<|za<|e_p (zb rfl)<|zh<|zd<|zv<|zma (X:=Nat×(Option Addr)×Nat×(List Int)×Int) (fun x:Nat×(Option Addr)×Nat×(List Int)×Int=>x.1≤max (yd a).length (yd b).length∧x.2.2.2.1.length=x.1∧0≤x.2.2.2.2∧x.2.2.2.2≤1∧yv x.2.2.2.1∧yi x.2.2.2.1+yE x.1*x.2.2.2.2=yi ((yd a).take x.1)+yi ((yd b).take x.1)) (fun x=>[(6,.int .u64 (x.2.2.2.2)),(5,.slice (x.2.1) (x.2.2.2.1.length) (x.2.2.1)),(7,ya yb ((x.1:Nat):Int)),(4,.slice none 0 0),(0,.slice p1 ((yd a).length) c1),(1,.slice p2 ((yd b).length) c2)]) (fun x=>[rowA 121 (rI .u32) (x.2.1) (x.2.2.1) (x.2.2.2.1)]) (fun x=>[slF (rI .u32) p1 c1 (yd a),slF (rI .u32) p2 c2 (yd b)]) (fun x:Nat×(Option Addr)×Nat×(List Int)×Int=>max (yd a).length (yd b).length - x.1) (0,some ⟨b1,0,none⟩,0,[],0) (show 0≤max (yd a).length (yd b).length∧([]).length=0∧0≤0∧0≤1∧yv ([])∧yi ([])+yE 0*0=yi ((yd a).take 0)+yi ((yd b).take 0) from by exact ⟨by omega,rfl,by decide,by decide,Big.okL_nil,by simp [yi]⟩) ((.c rfl (.e rfl (by first|rfl|(congr 1;omega)|simp_all) (.e rfl (by first|rfl|(congr 1;omega)|simp_all) (.of rfl)))):SubM _ _) (ho:=((.c (i:=0) rfl .n):PickO _ _ _)) ((.of [0,1] rfl):SelR _ _ _) ?_
 rintro ⟨i,p,c,os,cy⟩ hI
 replace hI:i≤max (yd a).length (yd b).length∧os.length=i∧0≤cy∧cy≤1∧yv os∧yi os+yE i*cy=yi ((yd a).take i)+yi ((yd b).take i):=hI
 try dsimp only
 obtain ⟨hi,hol,hc0,hc1,hok,hv⟩:=hI
 have hg1:=yt (yr a) i
 have hg2:=yt (yr b) i
 refine ze<|zAa (X:=Unit) (fun x=>True) (fun x=>[(19,.bool (decide (i<(yd a).length∨i<(yd b).length))),(6,.int .u64 cy),(5,.slice p (os.length) c),(7,ya yb ((i:Nat):Int)),(4,.slice none 0 0),(0,.slice p1 ((yd a).length) c1),(1,.slice p2 ((yd b).length) c2)]) (fun x=>[rowA 121 (rI .u32) p c os]) (fun x=>[slF (rI .u32) p1 c1 (yd a),slF (rI .u32) p2 c2 (yd b)]) ?_ ?_
 ·
  refine za<|e_mv rfl<|e_mv rfl<|e_p (zQ yf rfl)<|e_p (zR rfl rfl)<|zS rfl rfl (zT rfl) (fun h2=> ?_) (fun h2=> ?_)
  ·
   refine e_no<|e_no<|e_no<|e_no<|e_p (zo rfl rfl)<|zh ?_
   exact zY () (show True from by first|trivial|omega|simp_all) ((.e rfl (congrArg Value.bool (by simp;omega)) (.of rfl)):SubM _ _) (ho:=((.c (i:=0) rfl .n):PickO _ _ _)) ((.of [0,1] rfl):SelR _ _ _)
  ·
   refine e_mv rfl<|e_mv rfl<|e_p (zQ yf rfl)<|e_p (zR rfl rfl)<|e_p (zo rfl rfl)<|zh ?_
   exact zY () (show True from by first|trivial|omega|simp_all) ((.e rfl (congrArg Value.bool (by simp;omega)) (.of rfl)):SubM _ _) (ho:=((.c (i:=0) rfl .n):PickO _ _ _)) ((.of [0,1] rfl):SelR _ _ _)
 ·
  rintro ⟨⟩ -
  try dsimp only
  refine zB rfl (fun hc=> ?_) (fun hc=> ?_)
  ·
   refine zt<|zd<|ze<|zv<|ze<|za<|e_mv rfl<|e_mv rfl<|zO rfl rfl (.c rfl (.c rfl .n)) ce143 (zcb (p:=p1) (n:=(yd a).length) (cap:=c1) (l:=yd a) (i:=i) (hn:=cbb) (hi:=cbb)) (.c (j:=0) rfl .n)<|e_mv rfl<|e_mv rfl<|zO rfl rfl (.c rfl (.c rfl .n)) ce143 (zcb (p:=p2) (n:=(yd b).length) (cap:=c2) (l:=yd b) (i:=i) (hn:=cbb) (hi:=cbb)) (.c (j:=1) rfl .n)<|e_p (zw (z:=((yd a).getD i 0+(yd b).getD i 0)) rfl rfl (wu64 om))<|e_mv rfl<|e_p (zw (z:=(((yd a).getD i 0+(yd b).getD i 0)+cy)) rfl rfl (wu64 om))<|e_p (zb rfl)<|zh<|zd<|ze<|za<|e_mv rfl<|e_mv rfl<|e_p (zoa (z:=((((yd a).getD i 0+(yd b).getD i 0)+cy)%1000000000)) rfl rfl om (remN om om))<|e_p (zM (z:=((((yd a).getD i 0+(yd b).getD i 0)+cy)%1000000000)) rfl (by rw [yl];rfl) ym (wu32 om))<|zNa rfl rfl (zba (enc:=fun z:Int=>[.int .u32 z]) (ok:=InK .u32) (h1:=fun _=>rfl) (h2:=fun _=>rfl) (k:=1) yf inf121 rfl dd dd dd (.c (x:=((((yd a).getD i 0+(yd b).getD i 0)+cy)%1000000000)) rfl rfl (fun _ _=>by exact zH.2 om) .n)) (fun b3 _=> ?_)
   refine zna 0 rfl .z<|zOa 1 rfl rfl rfl (zza 0 rfl yf inf121 dd rfl rfl cbs rfl cbs om om) (fun _=>(.s .z)) ?_
   rintro ⟨p4,c5⟩ -
   dsimp only [aq,nq,cq]
   refine e_p (zb rfl)<|zh<|zd<|za<|e_mv rfl<|e_p (zkb (z:=((((yd a).getD i 0+(yd b).getD i 0)+cy) / 1000000000)) rfl rfl om (by rw [quoN (z:=((((yd a).getD i 0+(yd b).getD i 0)+cy) / 1000000000)) om om];exact wu64 om))<|e_p (zb rfl)<|zh<|zK<|zd<|za<|e_mv rfl<|e_p (zw (z:=(((i+1):Nat):Int)) rfl rfl (w64 om))<|e_p (zb rfl)<|zh<|zda ((i+1),p4,c5,os++[((yd a).getD i 0+(yd b).getD i 0+cy)%1000000000],((yd a).getD i 0+(yd b).getD i 0+cy) / 1000000000) (show (i+1)≤max (yd a).length (yd b).length∧(os++[((yd a).getD i 0+(yd b).getD i 0+cy)%1000000000]).length=(i+1)∧0≤(((yd a).getD i 0+(yd b).getD i 0+cy) / 1000000000)∧(((yd a).getD i 0+(yd b).getD i 0+cy) / 1000000000)≤1∧yv (os++[((yd a).getD i 0+(yd b).getD i 0+cy)%1000000000])∧yi (os++[((yd a).getD i 0+(yd b).getD i 0+cy)%1000000000])+yE (i+1)*(((yd a).getD i 0+(yd b).getD i 0+cy) / 1000000000)=yi ((yd a).take (i+1))+yi ((yd b).take (i+1)) from by exact ⟨by omega,by simp [hol],by omega,by omega,Big.okL_snoc hok om om,Big.plus_step hol hv om⟩) (by show max (yd a).length (yd b).length - (i+1)<max (yd a).length (yd b).length - i;omega) ((.e rfl (by first|rfl|(congr 1;omega)|simp_all) (.e rfl (by simp) (.of rfl))):SubM _ _) (ho:=((.e (i:=1) rfl (by first|rfl|(congr 1;omega)|simp_all) .n):PickO _ _ _)) ((.of [1,2] rfl):SelR _ _ _)
  ·
   have hok2:=Big.okL_snoc hok hc0 (show cy<1000000000 by omega)
   have hfin:=Big.plus_end (a:=a) (b:=b) hol om om hv
   refine zga<|zj<|zj<|zr<|zd<|ze<|za<|e_mv rfl<|e_mv rfl<|e_p (zM (z:=cy) rfl (by rw [yl];rfl) ym (wu32 om))<|zNa rfl rfl (zba (enc:=fun z:Int=>[.int .u32 z]) (ok:=InK .u32) (h1:=fun _=>rfl) (h2:=fun _=>rfl) (k:=1) yf inf121 rfl dd dd dd (.c (x:=cy) rfl rfl (fun _ _=>by exact zH.2 om) .n)) (fun b6 _=> ?_)
   refine zna 0 rfl .z<|zOa 1 rfl rfl rfl (zza 0 rfl yf inf121 dd rfl rfl cbs rfl cbs om om) (fun _=>(.s .z)) ?_
   rintro ⟨p7,c8⟩ -
   dsimp only [aq,nq,cq]
   refine zna 1 rfl (.s .z)<|zL rfl rfl (.c rfl (.c rfl .n)) ce112 (zRa (s:=false) (p:=p7) (n:=os.length+1) (cap:=c8) (l:=(os++([cy]))) (hn:=by first|rfl|omega|(simp;done)|(simp;omega)) (ho:=by exact hok2) (hln:=by first|rfl|omega|(simp;done)|(simp;omega))) (.c (j:=0) rfl .n) ?_
   rintro ⟨p29,c210⟩ -
   dsimp only [aq,nq,cq]
   refine e_p (zHa yg rfl ty39 rfl rfl)<|e_p (zb rfl)<|zh<|zd<|zJ ?_
   exact zx Tryz.results128 (p29,c210) trivial (zn rfl) (by rw [hfin]) (ho:=(.n:PickO _ _ _)) ((.e (j:=0) rfl (by rw [hfin]) .n):SelR _ _ _)
theorem zWb {a:Nat} {b:Nat} {p1:Option Addr} {c1:Nat} {p2:Option Addr} {c2:Nat} (hb1:(yd a).length≤1099511627776) (hb2:(yd b).length≤1099511627776) (hab:b≤a):Con yk 130 [.slice p1 ((yd a).length) c1,.slice p2 ((yd b).length) c2] [] [slF (rI .u32) p1 c1 (yd a),slF (rI .u32) p2 c2 (yd b)] (Y:=(Option Addr)×Nat) (fun y=>True) (fun y=> .slice (y.1) ((yd (a - b)).length) (y.2)) (fun y=>[]) (fun y=>[slF (rI .u32) (y.1) (y.2) (yd (a - b))]):=by
 refine zp Tryz.func130 rfl rfl rfl (fun c=> ?_)
 show RunC _ _ _ _ _ [(0,.slice p1 ((yd a).length) c1),(1,.slice p2 ((yd b).length) c2)] [] [slF (rI .u32) p1 c1 (yd a),slF (rI .u32) p2 c2 (yd b)]
 refine zfa 0 rfl (fun hL0=> ?_)
 refine zfa 1 rfl (fun hL1=> ?_)
 refine ze<|za<|e_p (zb rfl)<|zh<|zd<|ze<|za<|zNa rfl rfl (zDa (rI .u32) yf inf121) (fun b1 _=> ?_)
 refine e_p (zb rfl)<|zh<|zd<|ze<|za<|e_p (zb rfl)<|zh<|zd<|ze<|ze<|za<|e_p (zb rfl)<|zh<|zd<|zv<|zma (X:=Nat×(Option Addr)×Nat×(List Int)×Int) (fun x:Nat×(Option Addr)×Nat×(List Int)×Int=>x.1≤(yd a).length∧x.2.2.2.1.length=x.1∧0≤x.2.2.2.2∧x.2.2.2.2≤1∧yv x.2.2.2.1∧yi x.2.2.2.1+yi ((yd b).take x.1)=yi ((yd a).take x.1)+yE x.1*x.2.2.2.2) (fun x=>[(6,.int .u64 (x.2.2.2.2)),(5,.slice (x.2.1) (x.2.2.2.1.length) (x.2.2.1)),(7,ya yb ((x.1:Nat):Int)),(4,.slice none 0 0),(0,.slice p1 ((yd a).length) c1),(1,.slice p2 ((yd b).length) c2)]) (fun x=>[rowA 121 (rI .u32) (x.2.1) (x.2.2.1) (x.2.2.2.1)]) (fun x=>[slF (rI .u32) p1 c1 (yd a),slF (rI .u32) p2 c2 (yd b)]) (fun x:Nat×(Option Addr)×Nat×(List Int)×Int=>(yd a).length - x.1) (0,some ⟨b1,0,none⟩,0,[],0) (show 0≤(yd a).length∧([]).length=0∧0≤0∧0≤1∧yv ([])∧yi ([])+yi ((yd b).take 0)=yi ((yd a).take 0)+yE 0*0 from by exact ⟨by omega,rfl,by decide,by decide,Big.okL_nil,by simp [yi]⟩) ((.c rfl (.e rfl (by first|rfl|(congr 1;omega)|simp_all) (.e rfl (by first|rfl|(congr 1;omega)|simp_all) (.of rfl)))):SubM _ _) (ho:=((.c (i:=0) rfl .n):PickO _ _ _)) ((.of [0,1] rfl):SelR _ _ _) ?_
 rintro ⟨i,p,c,os,bo⟩ hI
 replace hI:i≤(yd a).length∧os.length=i∧0≤bo∧bo≤1∧yv os∧yi os+yi ((yd b).take i)=yi ((yd a).take i)+yE i*bo:=hI
 try dsimp only
 obtain ⟨hi,hol,hc0,hc1,hok,hv⟩:=hI
 have hg1:=yt (yr a) i
 have hg2:=yt (yr b) i
 refine ze<|ze<|za<|e_mv rfl<|e_mv rfl<|e_p (zQ yf rfl)<|e_p (zR rfl rfl)<|zh<|zd<|zB rfl (fun h2=> ?_) (fun h2=> ?_)
 ·
  refine zt<|zd<|ze<|zv<|ze<|za<|e_mv rfl<|e_mv rfl<|zO rfl rfl (.c rfl (.c rfl .n)) ce143 (zcb (p:=p1) (n:=(yd a).length) (cap:=c1) (l:=yd a) (i:=i) (hn:=cbb) (hi:=cbb)) (.c (j:=0) rfl .n)<|e_p (zw (z:=(1000000000+(yd a).getD i 0)) rfl rfl (wu64 om))<|e_mv rfl<|e_mv rfl<|zO rfl rfl (.c rfl (.c rfl .n)) ce143 (zcb (p:=p2) (n:=(yd b).length) (cap:=c2) (l:=yd b) (i:=i) (hn:=cbb) (hi:=cbb)) (.c (j:=1) rfl .n)<|e_p (zja (z:=((1000000000+(yd a).getD i 0) - (yd b).getD i 0)) rfl rfl (wu64 om))<|e_mv rfl<|e_p (zja (z:=(((1000000000+(yd a).getD i 0) - (yd b).getD i 0) - bo)) rfl rfl (wu64 om))<|e_p (zb rfl)<|zh<|zd<|ze<|za<|e_mv rfl<|e_mv rfl<|e_p (zoa (z:=((((1000000000+(yd a).getD i 0) - (yd b).getD i 0) - bo)%1000000000)) rfl rfl om (remN om om))<|e_p (zM (z:=((((1000000000+(yd a).getD i 0) - (yd b).getD i 0) - bo)%1000000000)) rfl (by rw [yl];rfl) ym (wu32 om))<|zNa rfl rfl (zba (enc:=fun z:Int=>[.int .u32 z]) (ok:=InK .u32) (h1:=fun _=>rfl) (h2:=fun _=>rfl) (k:=1) yf inf121 rfl dd dd dd (.c (x:=((((1000000000+(yd a).getD i 0) - (yd b).getD i 0) - bo)%1000000000)) rfl rfl (fun _ _=>by exact zH.2 om) .n)) (fun b3 _=> ?_)
  refine zna 0 rfl .z<|zOa 1 rfl rfl rfl (zza 0 rfl yf inf121 dd rfl rfl cbs rfl cbs om om) (fun _=>(.s .z)) ?_
  rintro ⟨p4,c5⟩ -
  dsimp only [aq,nq,cq]
  refine e_p (zb rfl)<|zh<|zd<|za<|e_mv rfl<|e_p (zkb (z:=((((1000000000+(yd a).getD i 0) - (yd b).getD i 0) - bo) / 1000000000)) rfl rfl om (by rw [quoN (z:=((((1000000000+(yd a).getD i 0) - (yd b).getD i 0) - bo) / 1000000000)) om om];exact wu64 om))<|e_p (zja (z:=(1 - ((((1000000000+(yd a).getD i 0) - (yd b).getD i 0) - bo) / 1000000000))) rfl rfl (wu64 om))<|e_p (zb rfl)<|zh<|zK<|zd<|za<|e_mv rfl<|e_p (zw (z:=(((i+1):Nat):Int)) rfl rfl (w64 om))<|e_p (zb rfl)<|zh<|zda ((i+1),p4,c5,os++[(1000000000+(yd a).getD i 0 - (yd b).getD i 0 - bo)%1000000000],1 - (1000000000+(yd a).getD i 0 - (yd b).getD i 0 - bo) / 1000000000) (show (i+1)≤(yd a).length∧(os++[(1000000000+(yd a).getD i 0 - (yd b).getD i 0 - bo)%1000000000]).length=(i+1)∧0≤(1 - (1000000000+(yd a).getD i 0 - (yd b).getD i 0 - bo) / 1000000000)∧(1 - (1000000000+(yd a).getD i 0 - (yd b).getD i 0 - bo) / 1000000000)≤1∧yv (os++[(1000000000+(yd a).getD i 0 - (yd b).getD i 0 - bo)%1000000000])∧yi (os++[(1000000000+(yd a).getD i 0 - (yd b).getD i 0 - bo)%1000000000])+yi ((yd b).take (i+1))=yi ((yd a).take (i+1))+yE (i+1)*(1 - (1000000000+(yd a).getD i 0 - (yd b).getD i 0 - bo) / 1000000000) from by exact ⟨by omega,by simp [hol],by omega,by omega,Big.okL_snoc hok om om,Big.minus_step hol hv om⟩) (by show (yd a).length - (i+1)<(yd a).length - i;omega) ((.e rfl (by first|rfl|(congr 1;omega)|simp_all) (.e rfl (by simp) (.of rfl))):SubM _ _) (ho:=((.e (i:=1) rfl (by first|rfl|(congr 1;omega)|simp_all) .n):PickO _ _ _)) ((.of [1,2] rfl):SelR _ _ _)
 ·
  have htr:yB os=yd (a - b):=Big.minus_fin hab hok hc0 hol om hv
  have hfin:(yI false (yi os)).natAbs=a - b:=by rw [Big.sg_abs (yD hok)];have:=congrArg yi htr;rw [Big.valL_trim,yx] at this;omega
  refine zga<|zj<|zj<|zr<|zd<|ze<|za<|e_mv rfl<|zna 0 rfl .z<|zL rfl rfl (.c rfl (.c rfl .n)) ce112 (zRa (s:=false) (p:=p) (n:=os.length) (cap:=c) (l:=os) (hn:=by first|rfl|omega|(simp;done)|(simp;omega)) (ho:=by exact hok) (hln:=by first|rfl|omega|(simp;done)|(simp;omega))) (.c (j:=0) rfl .n) ?_
  rintro ⟨p26,c27⟩ -
  dsimp only [aq,nq,cq]
  refine e_p (zHa yg rfl ty39 rfl rfl)<|e_p (zb rfl)<|zh<|zd<|zJ ?_
  exact zx Tryz.results130 (p26,c27) trivial (zn rfl) (by rw [hfin]) (ho:=(.n:PickO _ _ _)) ((.e (j:=0) rfl (by rw [hfin]) .n):SelR _ _ _)
theorem zZc {a:Nat} {b:Nat} {p1:Option Addr} {c1:Nat} {p2:Option Addr} {c2:Nat}:Con yk 129 [.slice p1 ((yd a).length) c1,.slice p2 ((yd b).length) c2] [] [slF (rI .u32) p1 c1 (yd a),slF (rI .u32) p2 c2 (yd b)] (Y:=Unit) (fun y=>True) (fun y=> ya yb (Big.cmp (a:Int) (b:Int))) (fun y=>[]) (fun y=>[]):=by
 refine zp Tryz.func129 rfl rfl rfl (fun c=> ?_)
 show RunC _ _ _ _ _ [(0,.slice p1 ((yd a).length) c1),(1,.slice p2 ((yd b).length) c2)] [] [slF (rI .u32) p1 c1 (yd a),slF (rI .u32) p2 c2 (yd b)]
 refine zfa 0 rfl (fun hL0=> ?_)
 refine zfa 1 rfl (fun hL1=> ?_)
 refine ze<|za<|e_p (zb rfl)<|zh<|zd<|ze<|ze<|za<|e_mv rfl<|e_p (zQ yf rfl)<|e_mv rfl<|e_p (zQ yf rfl)<|e_p (zLa rfl rfl)<|zh<|zd<|zB rfl (fun hlen=> ?_) (fun hlen=> ?_)
 ·
  refine ze<|ze<|za<|e_mv rfl<|e_p (zQ yf rfl)<|e_mv rfl<|e_p (zQ yf rfl)<|e_p (zR rfl rfl)<|zh<|zd<|zB rfl (fun hll=> ?_) (fun hll=> ?_)
  ·
   refine ze<|za<|e_p (zb rfl)<|zh<|zd<|zJ<|zi<|zi ?_
   exact zx yA () trivial (zn rfl) (by rw [← Big.cmp_len om,Big.cmp_lt om]) (ho:=(.n:PickO _ _ _)) (.n:SelR _ _ _)
  ·
   refine zt<|zd<|ze<|za<|e_p (zb rfl)<|zh<|zd<|zJ<|zi ?_
   exact zx yA () trivial (zn rfl) (by rw [← Big.cmp_len om,Big.cmp_gt om]) (ho:=(.n:PickO _ _ _)) (.n:SelR _ _ _)
 ·
  replace hlen:(yd a).length=(yd b).length:=by omega
  refine zt<|zd<|ze<|ze<|za<|e_mv rfl<|e_p (zQ yf rfl)<|e_p (zja (z:=((((yd a).length:Nat):Int) - 1)) rfl rfl (w64 om))<|e_p (zb rfl)<|zh<|zd<|zv<|zma (X:=Nat) (fun x:Nat=>x≤(yd a).length∧(yd a).drop x=(yd b).drop x) (fun x=>[(5,ya yb (((x:Nat):Int) - 1)),(0,.slice p1 ((yd a).length) c1),(1,.slice p2 ((yd b).length) c2)]) (fun x=>[]) (fun x=>[slF (rI .u32) p1 c1 (yd a),slF (rI .u32) p2 c2 (yd b)]) (fun x:Nat=>x) ((yd a).length) (show ((yd a).length)≤(yd a).length∧(yd a).drop ((yd a).length)=(yd b).drop ((yd a).length) from by exact ⟨Nat.le_refl _,by rw [List.drop_length,hlen,List.drop_length]⟩) ((.e rfl (by first|rfl|(congr 1;omega)|simp_all) (.c rfl (.c rfl .n))):SubM _ _) (ho:=(.n:PickO _ _ _)) ((.of [0,1] rfl):SelR _ _ _) ?_
  rintro j hI
  replace hI:j≤(yd a).length∧(yd a).drop j=(yd b).drop j:=hI
  try dsimp only
  obtain ⟨hj,hd⟩:=hI
  refine ze<|ze<|za<|e_mv rfl<|e_p (zIa rfl rfl)<|zh<|zd<|zB rfl (fun h1=> ?_) (fun h1=> ?_)
  ·
   obtain ⟨k,rfl⟩:∃k,j=k+1:=⟨j - 1,by omega⟩
   have e2:(((((k+1):Nat):Int) - 1):Int)=((k:Nat):Int):=by omega
   rw [e2]
   refine zt<|zd<|ze<|zv<|ze<|ze<|zZ (OW:=[]) (O:=[]) 100000 mixed (.then (.then (.block (.then (.then (.block (.then .ret))))))) kr<|e_dm 0 rfl rfl rfl<|e_dm 1 rfl rfl rfl<|zca (x0:=((yd a).getD k 0)) 2 rfl rfl kr kr 0 k rfl yf sz121 rfl rfl rfl cbs rfl rfl (gD (d:=0) om) (fun b3 o4 hok5=> ?_)
   replace hok5:=zH.1 hok5
   refine e_u 3 rfl rfl (zl (j:=0) 0 ty121 rfl rfl rfl rfl)<|e_dm 4 rfl rfl rfl<|e_dm 5 rfl rfl rfl<|zca (x0:=((yd b).getD k 0)) 6 rfl rfl kr kr 2 k rfl yf sz121 rfl rfl rfl cbs rfl rfl (gD (d:=0) om) (fun b6 o7 hok8=> ?_)
   replace hok8:=zH.1 hok8
   refine e_u 7 rfl rfl (zl (j:=0) 0 ty121 rfl rfl rfl rfl)<|e_pv 8 rfl rfl (zR rfl rfl)<|zX kr<|zd<|zB rfl (fun hlt=> ?_) (fun hlt=> ?_)
   ·
    refine ze<|za<|e_p (zb rfl)<|zh<|zd<|zJ<|zi<|zk<|zi<|zi<|zk<|zi ?_
    exact zx yA () trivial (zn rfl) (by rw [← Big.cmp_at hlen om hd om,Big.cmp_lt om]) (ho:=(.n:PickO _ _ _)) (.n:SelR _ _ _)
   ·
    refine zt<|zd<|ze<|zZ (OW:=[]) (O:=[]) 100000 mixed (.then (.block (.then (.then (.block (.then .ret)))))) kr<|e_dm 0 rfl rfl rfl<|e_dm 1 rfl rfl rfl<|zca (x0:=((yd a).getD k 0)) 2 rfl rfl kr kr 2 k rfl yf sz121 rfl rfl rfl cbs rfl rfl (gD (d:=0) om) (fun b9 o10 hok11=> ?_)
    replace hok11:=zH.1 hok11
    refine e_u 3 rfl rfl (zl (j:=0) 0 ty121 rfl rfl rfl rfl)<|e_dm 4 rfl rfl rfl<|e_dm 5 rfl rfl rfl<|zca (x0:=((yd b).getD k 0)) 6 rfl rfl kr kr 4 k rfl yf sz121 rfl rfl rfl cbs rfl rfl (gD (d:=0) om) (fun b12 o13 hok14=> ?_)
    replace hok14:=zH.1 hok14
    refine e_u 7 rfl rfl (zl (j:=0) 0 ty121 rfl rfl rfl rfl)<|e_pv 8 rfl rfl (zFa rfl rfl)<|zX kr<|zd<|zB rfl (fun hgt=> ?_) (fun hgt=> ?_)
    ·
     refine ze<|za<|e_p (zb rfl)<|zh<|zd<|zJ<|zk<|zi<|zi<|zk<|zi ?_
     exact zx yA () trivial (zn rfl) (by rw [← Big.cmp_at hlen om hd om,Big.cmp_gt om]) (ho:=(.n:PickO _ _ _)) (.n:SelR _ _ _)
    ·
     refine zt<|zK<|zd<|za<|e_mv rfl<|e_p (zja (z:=(((k:Nat):Int) - 1)) rfl rfl (w64 om))<|e_p (zb rfl)<|zh<|zda k (show k≤(yd a).length∧(yd a).drop k=(yd b).drop k from by exact ⟨by omega,Big.drop_more om om hd om⟩) (by show k<k+1;omega) ((.of rfl):SubM _ _) (ho:=(.n:PickO _ _ _)) ((.of [4,5] rfl):SelR _ _ _)
  ·
   refine zga<|zj<|zj<|zr<|zd<|ze<|za<|e_p (zb rfl)<|zh<|zd<|zJ ?_
   have hj0:j=0:=by omega
   subst hj0
   have heq:=Big.cmp_eq (show yd a=yd b by simpa using hd)
   exact zx yA () trivial (zn rfl) (by rw [heq] <;> simp [Big.cmp]) (ho:=(.n:PickO _ _ _)) (.n:SelR _ _ _)
theorem zze {s:Bool} {p:Option Addr} {n:Nat} {cap:Nat} {l:List Int} (hn:l.length=n) (hln:n≤1099511627776):Con yk 106 [.agg #[.bool s,.slice p n cap]] [] [slF (rI .u32) p cap l] (Y:=(Option Addr)×Nat) (fun y=>True) (fun y=> .agg #[.bool (decide ((- ye s l)<0)),.slice (y.1) ((yd ((- ye s l).natAbs)).length) (y.2)]) (fun y=>[]) (fun y=>[slF (rI .u32) (y.1) (y.2) (yd ((- ye s l).natAbs))]):=by
 refine zp Tryz.func106 rfl rfl rfl (fun c=> ?_)
 show RunC _ _ _ _ _ [(0,.agg #[.bool s,.slice p n cap])] [] [slF (rI .u32) p cap l]
 refine zfa 0 rfl (fun hL0=> ?_)
 refine zWa 0 rfl (fun hE0=> ?_)
 have hnn:yF l:=fun g hg=>(zH.1 (hE0 g hg)).1
 have hb:yq (ye s l)≤n:=by have:=yC (s:=s) hnn;omega
 unfold yq at hb
 refine ze<|za<|zP rfl rfl (zV rfl rfl) (fun b1=> ?_)
 refine zP rfl rfl (zu zr41 rfl) (fun b2=> ?_)
 refine zh<|zd<|ze<|za<|e_ru (zc 1 ty41 rfl rfl (.t2 .nil))<|zL rfl rfl (.c rfl .n) ce111 (zUa (s:=s) (p:=p) (n:=n) (cap:=cap) (l:=l) (hn:=ass) (hln:=ass)) (.c (j:=0) rfl .n) ?_
 rintro ⟨p23,c24⟩ -
 dsimp only [aq,nq,cq]
 refine zq 1 rfl rfl rfl rfl rfl sz41 rfl (.t2 .nil) (.s .z)<|zh<|zd<|ze<|za<|e_p (zg yg rfl sz4 rfl rfl)<|e_ru (zf 1 ty4 rfl rfl rfl)<|e_p (zHb rfl)<|e_p (zg yg rfl sz39 rfl rfl)<|e_ru (zf 1 ty39 rfl rfl rfl)<|zL rfl rfl (.c rfl (.c rfl .n)) ce112 (zpb (s:= !(decide ((ye s l)<0))) (a:=(ye s l).natAbs) (p:=p23) (cap:=c24) (hln:=cbb)) (.c (j:=0) rfl .n) ?_
 rintro ⟨p25,c26⟩ -
 dsimp only [aq,nq,cq]
 refine zq 0 rfl rfl rfl rfl rfl sz41 rfl (.t2 .nil) .z<|zh<|zd<|zJ ?_
 have hz:yI (!decide (ye s l<0)) ((ye s l).natAbs:Int)= - ye s l:=by rw [Big.sg_not,Big.sg_big]
 exact zx Tryz.results106 (p25,c26) trivial (zC 0 ty41 rfl rfl (.t2 .nil)) (by rw [hz]) (ho:=(.n:PickO _ _ _)) ((.e (j:=0) rfl (by rw [hz]) .n):SelR _ _ _)
theorem zCf {z:Int} {p:Option Addr} {cap:Nat} (hln:yq z≤1099511627776):Con yk 106 [.agg #[.bool (decide ((z)<0)),.slice (p) ((yd ((z).natAbs)).length) (cap)]] [] [slF (rI .u32) (p) (cap) (yd ((z).natAbs))] (Y:=(Option Addr)×(Nat)) (fun y=>True) (fun y=> .agg #[.bool (decide ((- z)<0)),.slice (y.1) ((yd ((- z).natAbs)).length) (y.2)]) (fun y=>[]) (fun y=>[slF (rI .u32) (y.1) (y.2) (yd ((- z).natAbs))]):=by
  have h:= @zze (decide ((z)<0)) p (yd (z).natAbs).length cap (yd (z).natAbs) rfl hln
  rw [yw] at h
  exact h
theorem zMd {w1:Wd} {x1:Int} (hln:yq x1≤1099511627776):Con yk 106 [.agg #[w1.b,w1.l]] [] [zF w1 (x1)] (Y:=(Wd)) (fun y=>True) (fun y=> .agg #[y.b,y.l]) (fun y=>[]) (fun y=>[zF y (- x1)]):=by
  exact zZb (zte (fun p c=>zCf hln))
theorem zNd {s:Bool} {p:Option Addr} {n:Nat} {cap:Nat} {l:List Int} (hn:l.length=n) (hln:n≤1099511627776):Con yk 105 [.agg #[.bool s,.slice p n cap]] [] [slF (rI .u32) p cap l] (Y:=Unit) (fun y=>True) (fun y=> ya yb ((ye s l).sign)) (fun y=>[]) (fun y=>[]):=by
 refine zp Tryz.func105 rfl rfl rfl (fun c=> ?_)
 show RunC _ _ _ _ _ [(0,.agg #[.bool s,.slice p n cap])] [] [slF (rI .u32) p cap l]
 refine zfa 0 rfl (fun hL0=> ?_)
 refine zWa 0 rfl (fun hE0=> ?_)
 have hnn:yF l:=fun g hg=>(zH.1 (hE0 g hg)).1
 refine ze<|za<|zP rfl rfl (zV rfl rfl) (fun b1=> ?_)
 refine e_p (zb rfl)<|zh<|zd<|ze<|za<|e_ru (zc 0 ty41 rfl rfl (.t2 .nil))<|zL rfl rfl (.c rfl .n) ce111 (zUa (s:=s) (p:=p) (n:=n) (cap:=cap) (l:=l) (hn:=ass) (hln:=ass)) (.c (j:=0) rfl .n) ?_
 rintro ⟨p22,c23⟩ -
 dsimp only [aq,nq,cq]
 refine zq 0 rfl rfl rfl rfl rfl sz41 rfl (.t2 .nil) .z<|zh<|zd<|ze<|ze<|za<|e_p (zg yg rfl sz39 rfl rfl)<|e_ru (zf 0 ty39 rfl rfl rfl)<|e_p (zQ yf rfl)<|e_p (zsa rfl rfl)<|zh<|zd<|zB rfl (fun h0=> ?_) (fun h0=> ?_)
 ·
  refine ze<|za<|e_p (zb rfl)<|zh<|zd<|zJ<|zi ?_
  exact zx Tryz.results105 () trivial (zn rfl) (by rw [show ye s l=0 by have:=Big.len_digs_nil.1 (show (yd (ye s l).natAbs).length=0 by omega);omega];rfl) (ho:=(.n:PickO _ _ _)) (.n:SelR _ _ _)
 ·
  refine zt<|zd<|ze<|ze<|za<|e_p (zg yg rfl sz4 rfl rfl)<|e_ru (zf 0 ty4 rfl rfl rfl)<|zh<|zd<|zeb rfl (fun hs=> ?_) (fun hs=> ?_)
  ·
   refine ze<|za<|e_p (zb rfl)<|zh<|zd<|zJ<|zi ?_
   exact zx Tryz.results105 () trivial (zn rfl) (by rw [Int.sign_eq_neg_one_of_neg (by simpa using hs)]) (ho:=(.n:PickO _ _ _)) (.n:SelR _ _ _)
  ·
   refine zt<|zd<|ze<|za<|e_p (zb rfl)<|zh<|zd<|zJ ?_
   exact zx Tryz.results105 () trivial (zn rfl) (by rw [Int.sign_eq_one_of_pos (by have h2:¬ye s l<0:=(by simpa using hs);have:(ye s l).natAbs≠0:=(fun e=>h0 (by rw [e];rfl));omega)]) (ho:=(.n:PickO _ _ _)) (.n:SelR _ _ _)
theorem zjd {z:Int} {p:Option Addr} {cap:Nat} (hln:yq z≤1099511627776):Con yk 105 [.agg #[.bool (decide ((z)<0)),.slice (p) ((yd ((z).natAbs)).length) (cap)]] [] [slF (rI .u32) (p) (cap) (yd ((z).natAbs))] (Y:=Unit) (fun y=>True) (fun y=> ya yb ((z).sign)) (fun y=>[]) (fun y=>[]):=by
  have h:= @zNd (decide ((z)<0)) p (yd (z).natAbs).length cap (yd (z).natAbs) rfl hln
  rw [yw] at h
  exact h
theorem zzc {w1:Wd} {x1:Int} (hln:yq x1≤1099511627776):Con yk 105 [.agg #[w1.b,w1.l]] [] [zF w1 (x1)] (Y:=Unit) (fun y=>True) (fun y=> ya yb ((x1).sign)) (fun y=>[]) (fun y=>[]):=by
  exact zte (fun p c=>zjd hln)
theorem zAe {s:Bool} {p1:Option Addr} {n1:Nat} {c1:Nat} {l1:List Int} {t:Bool} {p2:Option Addr} {n2:Nat} {c2:Nat} {l2:List Int} (hn1:l1.length=n1) (hn2:l2.length=n2) (hm1:n1≤1099511627776) (hm2:n2≤1099511627776):Con yk 108 [.agg #[.bool s,.slice p1 n1 c1],.agg #[.bool t,.slice p2 n2 c2]] [] [slF (rI .u32) p1 c1 l1,slF (rI .u32) p2 c2 l2] (Y:=(Option Addr)×Nat) (fun y=>True) (fun y=> .agg #[.bool (decide ((ye s l1+ye t l2)<0)),.slice (y.1) ((yd ((ye s l1+ye t l2).natAbs)).length) (y.2)]) (fun y=>[]) (fun y=>[slF (rI .u32) (y.1) (y.2) (yd ((ye s l1+ye t l2).natAbs))]):=by
 refine zp Tryz.func108 rfl rfl rfl (fun c=> ?_)
 show RunC _ _ _ _ _ [(0,.agg #[.bool s,.slice p1 n1 c1]),(1,.agg #[.bool t,.slice p2 n2 c2])] [] [slF (rI .u32) p1 c1 l1,slF (rI .u32) p2 c2 l2]
 refine zfa 0 rfl (fun hL0=> ?_)
 refine zWa 0 rfl (fun hE0=> ?_)
 refine zfa 1 rfl (fun hL1=> ?_)
 refine zWa 1 rfl (fun hE1=> ?_)
 have hnn1:yF l1:=fun g hg=>(zH.1 (hE0 g hg)).1
 have hnn2:yF l2:=fun g hg=>(zH.1 (hE1 g hg)).1
 have hb1:yq (ye s l1)≤n1:=by have:=yC (s:=s) hnn1;omega
 have hb2:yq (ye t l2)≤n2:=by have:=yC (s:=t) hnn2;omega
 unfold yq at hb1 hb2
 refine ze<|za<|zP rfl rfl (zV rfl rfl) (fun b1=> ?_)
 refine zP rfl rfl (zV rfl rfl) (fun b2=> ?_)
 refine zP rfl rfl (zu zr41 rfl) (fun b3=> ?_)
 refine zh<|zd<|ze<|zwa (.c (i:=2) rfl (.c (i:=1) rfl (.c (i:=0) rfl .n)))<|zZ (OW:=[boxA b1 41 [.bool s,.slice p1 n1 c1],boxA b2 41 [.bool t,.slice p2 n2 c2]]) (O:=[boxA b3 41 [wz.b,wz.l]]) 4 mixed (.then .ret) kr<|e_uw 0 rfl rfl (zc 0 ty41 rfl rfl (.t2 .nil))<|e_uw 2 rfl rfl (zc 1 ty41 rfl rfl (.t2 .nil))<|e_one 1 (zE rfl rfl rfl rfl (.c rfl .n) ce111 (zUa (s:=s) (p:=p1) (n:=n1) (cap:=c1) (l:=l1) (hn:=ass) (hln:=ass)) (.c (j:=0) rfl .n) ?_)
 rintro ⟨p24,c25⟩ -
 dsimp only [aq,nq,cq]
 refine e_one 3 (zE rfl rfl rfl rfl (.c rfl .n) ce111 (zUa (s:=t) (p:=p2) (n:=n2) (cap:=c2) (l:=l2) (hn:=ass) (hln:=ass)) (.c (j:=2) rfl .n) ?_)
 rintro ⟨p26,c27⟩ -
 dsimp only [aq,nq,cq]
 refine e_one 4 (zA kr rfl rfl rfl rfl rfl sz41 rfl (.t2 .nil) ?_)
 refine zab (zea (i:=1) rfl)<|e_one 5 (zA kr rfl rfl rfl rfl rfl sz41 rfl (.t2 .nil) ?_)
 refine zX kr<|zd<|ze<|ze<|za<|e_p (zg yg rfl sz4 rfl rfl)<|e_ru (zf 1 ty4 rfl rfl rfl)<|e_p (zg yg rfl sz4 rfl rfl)<|e_ru (zf 0 ty4 rfl rfl rfl)<|e_p (zJc Tryz.underlying4 rfl rfl)<|zh<|zd<|zB rfl (fun hst=> ?_) (fun hst=> ?_)
 ·
  refine ze<|zwa (.c (i:=2) rfl (.c (i:=0) rfl (.c (i:=0) rfl .n)))<|zZ (OW:=[boxA b3 41 [wz.b,wz.l]]) (O:=[boxA b2 41 [.bool (decide ((ye t l2)<0)),.slice p26 ((yd ((ye t l2).natAbs)).length) c27],boxA b1 41 [.bool (decide ((ye s l1)<0)),.slice p24 ((yd ((ye s l1).natAbs)).length) c25]]) 8 mixed (.then (.then .ret)) kr<|e_pv 0 rfl rfl (zg yg rfl sz4 rfl rfl)<|e_uw 1 rfl rfl (zf 2 ty4 rfl rfl rfl)<|e_pv 2 rfl rfl (zg yg rfl sz39 rfl rfl)<|e_uw 3 rfl rfl (zf 2 ty39 rfl rfl rfl)<|e_pv 4 rfl rfl (zg yg rfl sz39 rfl rfl)<|e_uw 5 rfl rfl (zf 1 ty39 rfl rfl rfl)<|e_one 6 (zE rfl rfl rfl rfl (.c rfl (.c rfl .n)) ce128 (zBf (a:=(ye s l1).natAbs) (b:=(ye t l2).natAbs) (p1:=p24) (c1:=c25) (p2:=p26) (c2:=c27) (hb1:=by first|rfl|assumption|omega|(unfold yq;omega)|(simp;done)|(simp;omega)|(simp_all;done)) (hb2:=by first|rfl|assumption|omega|(unfold yq;omega)|(simp;done)|(simp;omega)|(simp_all;done))) (.c (j:=1) rfl (.c (j:=0) rfl .n)) ?_)
  rintro ⟨p38,c39⟩ -
  dsimp only [aq,nq,cq]
  refine e_one 7 (zE rfl rfl rfl rfl (.c rfl (.c rfl .n)) ce112 (zpb (s:=decide ((ye s l1)<0)) (a:=((ye s l1).natAbs)+((ye t l2).natAbs)) (p:=p38) (cap:=c39) (hln:=by have:=Big.len_add (ye s l1).natAbs (ye t l2).natAbs;omega)) (.c (j:=0) rfl .n) ?_)
  rintro ⟨p210,c211⟩ -
  dsimp only [aq,nq,cq]
  refine e_one 8 (zA kr rfl rfl rfl rfl rfl sz41 rfl (.t2 .nil) ?_)
  refine zX kr<|zd<|zJ<|zi ?_
  have hz:=Big.add_same hst
  exact zx Tryz.results108 (p210,c211) trivial (zC 0 ty41 rfl rfl (.t2 .nil)) (by rw [hz]) (ho:=(.n:PickO _ _ _)) ((.e (j:=0) rfl (by rw [hz]) .n):SelR _ _ _)
 ·
  refine zt<|zd<|ze<|ze<|za<|e_p (zg yg rfl sz39 rfl rfl)<|e_ru (zf 1 ty39 rfl rfl rfl)<|e_p (zg yg rfl sz39 rfl rfl)<|e_ru (zf 0 ty39 rfl rfl rfl)<|zO rfl rfl (.c rfl (.c rfl .n)) ce129 (zZc (a:=(ye s l1).natAbs) (b:=(ye t l2).natAbs) (p1:=p24) (c1:=c25) (p2:=p26) (c2:=c27)) (.c (j:=1) rfl (.c (j:=0) rfl .n))<|e_p (zIa rfl rfl)<|zh<|zd<|zB rfl (fun hcmp=> ?_) (fun hcmp=> ?_)
  ·
   have hab:(ye t l2).natAbs≤(ye s l1).natAbs:=by have:=Big.cmp_ge.1 hcmp;omega
   refine ze<|zwa (.c (i:=2) rfl (.c (i:=0) rfl (.c (i:=0) rfl .n)))<|zZ (OW:=[boxA b3 41 [wz.b,wz.l]]) (O:=[boxA b2 41 [.bool (decide ((ye t l2)<0)),.slice p26 ((yd ((ye t l2).natAbs)).length) c27],boxA b1 41 [.bool (decide ((ye s l1)<0)),.slice p24 ((yd ((ye s l1).natAbs)).length) c25]]) 8 mixed (.then (.then .ret)) kr<|e_pv 0 rfl rfl (zg yg rfl sz4 rfl rfl)<|e_uw 1 rfl rfl (zf 2 ty4 rfl rfl rfl)<|e_pv 2 rfl rfl (zg yg rfl sz39 rfl rfl)<|e_uw 3 rfl rfl (zf 2 ty39 rfl rfl rfl)<|e_pv 4 rfl rfl (zg yg rfl sz39 rfl rfl)<|e_uw 5 rfl rfl (zf 1 ty39 rfl rfl rfl)<|e_one 6 (zE rfl rfl rfl rfl (.c rfl (.c rfl .n)) ce130 (zWb (a:=(ye s l1).natAbs) (b:=(ye t l2).natAbs) (p1:=p24) (c1:=c25) (p2:=p26) (c2:=c27) (hb1:=by first|rfl|assumption|omega|(unfold yq;omega)|(simp;done)|(simp;omega)|(simp_all;done)) (hb2:=by first|rfl|assumption|omega|(unfold yq;omega)|(simp;done)|(simp;omega)|(simp_all;done)) (hab:=by first|rfl|assumption|omega|(unfold yq;omega)|(simp;done)|(simp;omega)|(simp_all;done))) (.c (j:=1) rfl (.c (j:=0) rfl .n)) ?_)
   rintro ⟨p312,c313⟩ -
   dsimp only [aq,nq,cq]
   refine e_one 7 (zE rfl rfl rfl rfl (.c rfl (.c rfl .n)) ce112 (zpb (s:=decide ((ye s l1)<0)) (a:=((ye s l1).natAbs) - ((ye t l2).natAbs)) (p:=p312) (cap:=c313) (hln:=by have:=Big.len_sub (ye s l1).natAbs (ye t l2).natAbs;omega)) (.c (j:=0) rfl .n) ?_)
   rintro ⟨p214,c215⟩ -
   dsimp only [aq,nq,cq]
   refine e_one 8 (zA kr rfl rfl rfl rfl rfl sz41 rfl (.t2 .nil) ?_)
   refine zX kr<|zd<|zJ<|zi ?_
   have hz:=Big.add_ge hst hab
   exact zx Tryz.results108 (p214,c215) trivial (zC 0 ty41 rfl rfl (.t2 .nil)) (by rw [hz]) (ho:=(.n:PickO _ _ _)) ((.e (j:=0) rfl (by rw [hz]) .n):SelR _ _ _)
  ·
   have hab:(ye s l1).natAbs≤(ye t l2).natAbs:=by have:¬((ye t l2).natAbs:Int)≤(ye s l1).natAbs:=fun h=>hcmp (Big.cmp_ge.2 h);omega
   refine zt<|zd<|ze<|zwa (.c (i:=2) rfl (.c (i:=0) rfl (.c (i:=0) rfl .n)))<|zZ (OW:=[boxA b3 41 [wz.b,wz.l]]) (O:=[boxA b2 41 [.bool (decide ((ye t l2)<0)),.slice p26 ((yd ((ye t l2).natAbs)).length) c27],boxA b1 41 [.bool (decide ((ye s l1)<0)),.slice p24 ((yd ((ye s l1).natAbs)).length) c25]]) 8 mixed (.then .ret) kr<|e_pv 0 rfl rfl (zg yg rfl sz4 rfl rfl)<|e_uw 1 rfl rfl (zf 1 ty4 rfl rfl rfl)<|e_pv 2 rfl rfl (zg yg rfl sz39 rfl rfl)<|e_uw 3 rfl rfl (zf 1 ty39 rfl rfl rfl)<|e_pv 4 rfl rfl (zg yg rfl sz39 rfl rfl)<|e_uw 5 rfl rfl (zf 2 ty39 rfl rfl rfl)<|e_one 6 (zE rfl rfl rfl rfl (.c rfl (.c rfl .n)) ce130 (zWb (a:=(ye t l2).natAbs) (b:=(ye s l1).natAbs) (p1:=p26) (c1:=c27) (p2:=p24) (c2:=c25) (hb1:=by first|rfl|assumption|omega|(unfold yq;omega)|(simp;done)|(simp;omega)|(simp_all;done)) (hb2:=by first|rfl|assumption|omega|(unfold yq;omega)|(simp;done)|(simp;omega)|(simp_all;done)) (hab:=by first|rfl|assumption|omega|(unfold yq;omega)|(simp;done)|(simp;omega)|(simp_all;done))) (.c (j:=0) rfl (.c (j:=1) rfl .n)) ?_)
   rintro ⟨p316,c317⟩ -
   dsimp only [aq,nq,cq]
   refine e_one 7 (zE rfl rfl rfl rfl (.c rfl (.c rfl .n)) ce112 (zpb (s:=decide ((ye t l2)<0)) (a:=((ye t l2).natAbs) - ((ye s l1).natAbs)) (p:=p316) (cap:=c317) (hln:=by have:=Big.len_sub (ye t l2).natAbs (ye s l1).natAbs;omega)) (.c (j:=0) rfl .n) ?_)
   rintro ⟨p218,c219⟩ -
   dsimp only [aq,nq,cq]
   refine e_one 8 (zA kr rfl rfl rfl rfl rfl sz41 rfl (.t2 .nil) ?_)
   refine zX kr<|zd<|zJ ?_
   have hz:=Big.add_lt hst hab
   exact zx Tryz.results108 (p218,c219) trivial (zC 0 ty41 rfl rfl (.t2 .nil)) (by rw [hz]) (ho:=(.n:PickO _ _ _)) ((.e (j:=0) rfl (by rw [hz]) .n):SelR _ _ _)
theorem zDf {x1:Int} {x2:Int} {p1:Option Addr} {c1:Nat} {p2:Option Addr} {c2:Nat} (hb1:yq x1≤1099511627776) (hb2:yq x2≤1099511627776):Con yk 108 [.agg #[.bool (decide ((x1)<0)),.slice (p1) ((yd ((x1).natAbs)).length) (c1)],.agg #[.bool (decide ((x2)<0)),.slice (p2) ((yd ((x2).natAbs)).length) (c2)]] [] [slF (rI .u32) (p1) (c1) (yd ((x1).natAbs)),slF (rI .u32) (p2) (c2) (yd ((x2).natAbs))] (Y:=(Option Addr)×(Nat)) (fun y=>True) (fun y=> .agg #[.bool (decide ((x1+x2)<0)),.slice (y.1) ((yd ((x1+x2).natAbs)).length) (y.2)]) (fun y=>[]) (fun y=>[slF (rI .u32) (y.1) (y.2) (yd ((x1+x2).natAbs))]):=by
  have h:= @zAe (decide ((x1)<0)) p1 (yd (x1).natAbs).length c1 (yd (x1).natAbs) (decide ((x2)<0)) p2 (yd (x2).natAbs).length c2 (yd (x2).natAbs) rfl rfl hb1 hb2
  rw [yw,yw] at h
  exact h
theorem zEf {w1:Wd} {w2:Wd} {x1:Int} {x2:Int} (hb1:yq x1≤1099511627776) (hb2:yq x2≤1099511627776):Con yk 108 [.agg #[w1.b,w1.l],.agg #[w2.b,w2.l]] [] [zF w1 (x1),zF w2 (x2)] (Y:=(Wd)) (fun y=>True) (fun y=> .agg #[y.b,y.l]) (fun y=>[]) (fun y=>[zF y (x1+x2)]):=by
  exact zZb (zEc (fun p1 c1 p2 c2=>zDf hb1 hb2))
theorem zBe {s:Bool} {p1:Option Addr} {n1:Nat} {c1:Nat} {l1:List Int} {t:Bool} {p2:Option Addr} {n2:Nat} {c2:Nat} {l2:List Int} (hn1:l1.length=n1) (hn2:l2.length=n2) (hm1:n1≤1099511627776) (hm2:n2≤1099511627776):Con yk 133 [.agg #[.bool s,.slice p1 n1 c1],.agg #[.bool t,.slice p2 n2 c2]] [] [slF (rI .u32) p1 c1 l1,slF (rI .u32) p2 c2 l2] (Y:=(Option Addr)×Nat) (fun y=>True) (fun y=> .agg #[.bool (decide ((ye s l1 - ye t l2)<0)),.slice (y.1) ((yd ((ye s l1 - ye t l2).natAbs)).length) (y.2)]) (fun y=>[]) (fun y=>[slF (rI .u32) (y.1) (y.2) (yd ((ye s l1 - ye t l2).natAbs))]):=by
 refine zp Tryz.func133 rfl rfl rfl (fun c=> ?_)
 show RunC _ _ _ _ _ [(0,.agg #[.bool s,.slice p1 n1 c1]),(1,.agg #[.bool t,.slice p2 n2 c2])] [] [slF (rI .u32) p1 c1 l1,slF (rI .u32) p2 c2 l2]
 refine zfa 0 rfl (fun hL0=> ?_)
 refine zWa 0 rfl (fun hE0=> ?_)
 refine zfa 1 rfl (fun hL1=> ?_)
 refine zWa 1 rfl (fun hE1=> ?_)
 have hnn1:yF l1:=fun g hg=>(zH.1 (hE0 g hg)).1
 have hnn2:yF l2:=fun g hg=>(zH.1 (hE1 g hg)).1
 have hb1:yq (ye s l1)≤n1:=by have:=yC (s:=s) hnn1;omega
 have hb2:yq (ye t l2)≤n2:=by have:=yC (s:=t) hnn2;omega
 unfold yq at hb1 hb2
 refine ze<|za<|zP rfl rfl (zV rfl rfl) (fun b1=> ?_)
 refine zP rfl rfl (zV rfl rfl) (fun b2=> ?_)
 refine zP rfl rfl (zu zr41 rfl) (fun b3=> ?_)
 refine zh<|zd<|ze<|zZ (OW:=[boxA b3 41 [wz.b,wz.l]]) (O:=[boxA b2 41 [.bool t,.slice p2 n2 c2],boxA b1 41 [.bool s,.slice p1 n1 c1]]) 4 mixed (.then .ret) kr<|e_uw 0 rfl rfl (zc 2 ty41 rfl rfl (.t2 .nil))<|e_uw 1 rfl rfl (zc 1 ty41 rfl rfl (.t2 .nil))<|e_one 2 (zE rfl rfl rfl rfl (.c rfl .n) ce106 (zze (s:=t) (p:=p2) (n:=n2) (cap:=c2) (l:=l2) (hn:=ass) (hln:=ass)) (.c (j:=1) rfl .n) ?_)
 rintro ⟨p24,c25⟩ -
 dsimp only [aq,nq,cq]
 refine e_one 3 (zE rfl rfl rfl rfl (.c rfl (.c rfl .n)) ce108 (zAe (s:=s) (p1:=p1) (n1:=n1) (c1:=c1) (l1:=l1) (t:=decide ((- ye t l2)<0)) (p2:=p24) (n2:=(yd ((- ye t l2).natAbs)).length) (c2:=c25) (l2:=yd ((- ye t l2).natAbs)) (hn1:=ass) (hn2:=by first|rfl|assumption|omega|(rw [Int.natAbs_neg];omega)) (hm1:=ass) (hm2:=by first|rfl|assumption|omega|(rw [Int.natAbs_neg];omega))) (.c (j:=1) rfl (.c (j:=0) rfl .n)) ?_)
 rintro ⟨p36,c37⟩ -
 dsimp only [aq,nq,cq]
 refine e_one 4 (zA kr rfl rfl rfl rfl rfl sz41 rfl (.t2 .nil) ?_)
 refine zX kr<|zd<|zJ ?_
 have hz:ye s l1+ye (decide ((- ye t l2)<0)) (yd (- ye t l2).natAbs)=ye s l1 - ye t l2:=by rw [yw];omega
 exact zx Tryz.results133 (p36,c37) trivial (zC 0 ty41 rfl rfl (.t2 .nil)) (by rw [hz]) (ho:=(.n:PickO _ _ _)) ((.e (j:=0) rfl (by rw [hz]) .n):SelR _ _ _)
theorem zqc {x1:Int} {x2:Int} {p1:Option Addr} {c1:Nat} {p2:Option Addr} {c2:Nat} (hb1:yq x1≤1099511627776) (hb2:yq x2≤1099511627776):Con yk 133 [.agg #[.bool (decide ((x1)<0)),.slice (p1) ((yd ((x1).natAbs)).length) (c1)],.agg #[.bool (decide ((x2)<0)),.slice (p2) ((yd ((x2).natAbs)).length) (c2)]] [] [slF (rI .u32) (p1) (c1) (yd ((x1).natAbs)),slF (rI .u32) (p2) (c2) (yd ((x2).natAbs))] (Y:=(Option Addr)×(Nat)) (fun y=>True) (fun y=> .agg #[.bool (decide ((x1 - x2)<0)),.slice (y.1) ((yd ((x1 - x2).natAbs)).length) (y.2)]) (fun y=>[]) (fun y=>[slF (rI .u32) (y.1) (y.2) (yd ((x1 - x2).natAbs))]):=by
  have h:= @zBe (decide ((x1)<0)) p1 (yd (x1).natAbs).length c1 (yd (x1).natAbs) (decide ((x2)<0)) p2 (yd (x2).natAbs).length c2 (yd (x2).natAbs) rfl rfl hb1 hb2
  rw [yw,yw] at h
  exact h
theorem zeg {s:Bool} {p1:Option Addr} {n1:Nat} {c1:Nat} {l1:List Int} {t:Bool} {p2:Option Addr} {n2:Nat} {c2:Nat} {l2:List Int} (hn1:l1.length=n1) (hn2:l2.length=n2) (hm1:n1≤1099511627776) (hm2:n2≤1099511627776):Con yk 73 [.agg #[.bool s,.slice p1 n1 c1],.agg #[.bool t,.slice p2 n2 c2]] [] [slF (rI .u32) p1 c1 l1,slF (rI .u32) p2 c2 l2] (Y:=(Option Addr)×Nat) (fun y=>True) (fun y=> .agg #[.bool (decide ((ye s l1*ye t l2)<0)),.slice (y.1) ((yd ((ye s l1*ye t l2).natAbs)).length) (y.2)]) (fun y=>[]) (fun y=>[slF (rI .u32) (y.1) (y.2) (yd ((ye s l1*ye t l2).natAbs))]):=by
 refine zp Tryz.func73 rfl rfl rfl (fun c=> ?_)
 show RunC _ _ _ _ _ [(0,.agg #[.bool s,.slice p1 n1 c1]),(1,.agg #[.bool t,.slice p2 n2 c2])] [] [slF (rI .u32) p1 c1 l1,slF (rI .u32) p2 c2 l2]
 refine zfa 0 rfl (fun hL0=> ?_)
 refine zWa 0 rfl (fun hE0=> ?_)
 refine zfa 1 rfl (fun hL1=> ?_)
 refine zWa 1 rfl (fun hE1=> ?_)
 have hnn1:yF l1:=fun g hg=>(zH.1 (hE0 g hg)).1
 have hnn2:yF l2:=fun g hg=>(zH.1 (hE1 g hg)).1
 have hb1:yq (ye s l1)≤n1:=by have:=yC (s:=s) hnn1;omega
 have hb2:yq (ye t l2)≤n2:=by have:=yC (s:=t) hnn2;omega
 unfold yq at hb1 hb2
 have hoa:=yr (ye s l1).natAbs
 have hob:=yr (ye t l2).natAbs
 refine ze<|za<|zP rfl rfl (zV rfl rfl) (fun b1=> ?_)
 refine zP rfl rfl (zV rfl rfl) (fun b2=> ?_)
 refine zP rfl rfl (zu zr41 rfl) (fun b3=> ?_)
 refine zh<|zd<|ze<|zwa (.c (i:=2) rfl (.c (i:=1) rfl (.c (i:=0) rfl .n)))<|zZ (OW:=[boxA b1 41 [.bool s,.slice p1 n1 c1],boxA b2 41 [.bool t,.slice p2 n2 c2]]) (O:=[boxA b3 41 [wz.b,wz.l]]) 4 mixed (.then .ret) kr<|e_uw 0 rfl rfl (zc 0 ty41 rfl rfl (.t2 .nil))<|e_uw 2 rfl rfl (zc 1 ty41 rfl rfl (.t2 .nil))<|e_one 1 (zE rfl rfl rfl rfl (.c rfl .n) ce111 (zUa (s:=s) (p:=p1) (n:=n1) (cap:=c1) (l:=l1) (hn:=ass) (hln:=ass)) (.c (j:=0) rfl .n) ?_)
 rintro ⟨p24,c25⟩ -
 dsimp only [aq,nq,cq]
 refine e_one 3 (zE rfl rfl rfl rfl (.c rfl .n) ce111 (zUa (s:=t) (p:=p2) (n:=n2) (cap:=c2) (l:=l2) (hn:=ass) (hln:=ass)) (.c (j:=2) rfl .n) ?_)
 rintro ⟨p26,c27⟩ -
 dsimp only [aq,nq,cq]
 refine e_one 4 (zA kr rfl rfl rfl rfl rfl sz41 rfl (.t2 .nil) ?_)
 refine zab (zea (i:=1) rfl)<|e_one 5 (zA kr rfl rfl rfl rfl rfl sz41 rfl (.t2 .nil) ?_)
 refine zX kr<|zd<|ze<|za<|e_p (zg yg rfl sz39 rfl rfl)<|e_ru (zf 1 ty39 rfl rfl rfl)<|e_p (zQ yf rfl)<|e_p (zg yg rfl sz39 rfl rfl)<|e_ru (zf 0 ty39 rfl rfl rfl)<|e_p (zQ yf rfl)<|e_p (zw (z:=(((((yd ((ye s l1).natAbs)).length)+((yd ((ye t l2).natAbs)).length)):Nat):Int)) rfl rfl (w64 om))<|zNa rfl rfl (zsb (r:=rI .u32) (k:=(((yd ((ye s l1).natAbs)).length)+((yd ((ye t l2).natAbs)).length))) (x0:=0) (γ0:=()) yf inf121 rfl rfl rfl rfl om om rfl (fun g _=>by exact zH.2 dd) dd) (fun b8 _=> ?_)
 refine e_p (zb rfl)<|zh<|zd<|ze<|ze<|za<|e_p (zb rfl)<|zh<|zd<|zv<|zma (X:=Nat×(List Int)) (fun x:Nat×(List Int)=>x.1≤(yd (ye s l1).natAbs).length∧x.2.length=(yd (ye s l1).natAbs).length+(yd (ye t l2).natAbs).length∧yv x.2∧(∀k,x.1+(yd (ye t l2).natAbs).length≤k→x.2.getD k 0=0)∧yi x.2=yi ((yd (ye s l1).natAbs).take x.1)*yi (yd (ye t l2).natAbs)) (fun x=>[(6,ya yb ((x.1:Nat):Int)),(5,.slice (some ⟨b8,0,none⟩) (((yd ((ye s l1).natAbs)).length)+((yd ((ye t l2).natAbs)).length)) (((yd ((ye s l1).natAbs)).length)+((yd ((ye t l2).natAbs)).length))),(4,yc (some ⟨b3,0,none⟩)),(3,yc (some ⟨b2,0,none⟩)),(2,yc (some ⟨b1,0,none⟩))]) (fun x=>[rowA 121 (rI .u32) (some ⟨b8,0,none⟩) (((yd ((ye s l1).natAbs)).length)+((yd ((ye t l2).natAbs)).length)) (x.2),boxA b2 41 [.bool (decide ((ye t l2)<0)),.slice p26 ((yd ((ye t l2).natAbs)).length) c27],boxA b1 41 [.bool (decide ((ye s l1)<0)),.slice p24 ((yd ((ye s l1).natAbs)).length) c25],boxA b3 41 [wz.b,wz.l]]) (fun x=>[slF (rI .u32) p26 c27 (yd ((ye t l2).natAbs)),slF (rI .u32) p24 c25 (yd ((ye s l1).natAbs)),slF (rI .u32) p1 c1 l1,slF (rI .u32) p2 c2 l2]) (fun x:Nat×(List Int)=>(yd (ye s l1).natAbs).length - x.1) (0,List.replicate ((yd (ye s l1).natAbs).length+(yd (ye t l2).natAbs).length) 0) (show 0≤(yd (ye s l1).natAbs).length∧(List.replicate ((yd (ye s l1).natAbs).length+(yd (ye t l2).natAbs).length) 0).length=(yd (ye s l1).natAbs).length+(yd (ye t l2).natAbs).length∧yv (List.replicate ((yd (ye s l1).natAbs).length+(yd (ye t l2).natAbs).length) 0)∧(∀k,0+(yd (ye t l2).natAbs).length≤k→(List.replicate ((yd (ye s l1).natAbs).length+(yd (ye t l2).natAbs).length) 0).getD k 0=0)∧yi (List.replicate ((yd (ye s l1).natAbs).length+(yd (ye t l2).natAbs).length) 0)=yi ((yd (ye s l1).natAbs).take 0)*yi (yd (ye t l2).natAbs) from by exact ⟨by omega,by simp,Big.okL_zeros _,fun k _=>Big.getD_zeros _ k,by simp [Big.valL_zeros,yi]⟩) ((.e rfl (by first|rfl|(congr 1;omega)|simp_all) (.of rfl)):SubM _ _) (ho:=((.e (i:=0) rfl (by first|rfl|(congr 1;omega)|simp_all) (.of [0,0,0] rfl)):PickO _ _ _)) ((.of [0,1,2,3] rfl):SelR _ _ _) ?_
 rintro ⟨i,os⟩ hI
 replace hI:i≤(yd (ye s l1).natAbs).length∧os.length=(yd (ye s l1).natAbs).length+(yd (ye t l2).natAbs).length∧yv os∧(∀k,i+(yd (ye t l2).natAbs).length≤k→os.getD k 0=0)∧yi os=yi ((yd (ye s l1).natAbs).take i)*yi (yd (ye t l2).natAbs):=hI
 try dsimp only
 obtain ⟨hi,hol,hok,hz,hv⟩:=hI
 have hg1:=yt hoa i
 refine ze<|ze<|za<|e_mv rfl<|e_p (zg yg rfl sz39 rfl rfl)<|e_ru (zf 2 ty39 rfl rfl rfl)<|e_p (zQ yf rfl)<|e_p (zR rfl rfl)<|zh<|zd<|zB rfl (fun h9=> ?_) (fun h9=> ?_)
 ·
  refine zt<|zd<|ze<|zv<|ze<|za<|e_p (zb rfl)<|zh<|zd<|ze<|ze<|za<|e_p (zb rfl)<|zh<|zd<|zv<|zma (X:=Nat×(List Int)×Int) (fun x:Nat×(List Int)×Int=>x.1≤(yd (ye t l2).natAbs).length∧x.2.1.length=(yd (ye s l1).natAbs).length+(yd (ye t l2).natAbs).length∧yv x.2.1∧0≤x.2.2∧x.2.2<1000000000∧(∀k,i+(yd (ye t l2).natAbs).length≤k→x.2.1.getD k 0=0)∧yi x.2.1+yE (i+x.1)*x.2.2=yi ((yd (ye s l1).natAbs).take i)*yi (yd (ye t l2).natAbs)+yE i*(yd (ye s l1).natAbs).getD i 0*yi ((yd (ye t l2).natAbs).take x.1)) (fun x=>[(7,.int .u64 (x.2.2)),(8,ya yb ((x.1:Nat):Int)),(6,ya yb ((i:Nat):Int)),(5,.slice (some ⟨b8,0,none⟩) (((yd ((ye s l1).natAbs)).length)+((yd ((ye t l2).natAbs)).length)) (((yd ((ye s l1).natAbs)).length)+((yd ((ye t l2).natAbs)).length))),(4,yc (some ⟨b3,0,none⟩)),(3,yc (some ⟨b2,0,none⟩)),(2,yc (some ⟨b1,0,none⟩))]) (fun x=>[rowA 121 (rI .u32) (some ⟨b8,0,none⟩) (((yd ((ye s l1).natAbs)).length)+((yd ((ye t l2).natAbs)).length)) (x.2.1),boxA b2 41 [.bool (decide ((ye t l2)<0)),.slice p26 ((yd ((ye t l2).natAbs)).length) c27],boxA b1 41 [.bool (decide ((ye s l1)<0)),.slice p24 ((yd ((ye s l1).natAbs)).length) c25],boxA b3 41 [wz.b,wz.l]]) (fun x=>[slF (rI .u32) p26 c27 (yd ((ye t l2).natAbs)),slF (rI .u32) p24 c25 (yd ((ye s l1).natAbs)),slF (rI .u32) p1 c1 l1,slF (rI .u32) p2 c2 l2]) (fun x:Nat×(List Int)×Int=>(yd (ye t l2).natAbs).length - x.1) (0,os,0) (show 0≤(yd (ye t l2).natAbs).length∧os.length=(yd (ye s l1).natAbs).length+(yd (ye t l2).natAbs).length∧yv os∧0≤0∧0<1000000000∧(∀k,i+(yd (ye t l2).natAbs).length≤k→os.getD k 0=0)∧yi os+yE (i+0)*0=yi ((yd (ye s l1).natAbs).take i)*yi (yd (ye t l2).natAbs)+yE i*(yd (ye s l1).natAbs).getD i 0*yi ((yd (ye t l2).natAbs).take 0) from by exact ⟨by omega,hol,hok,by decide,by decide,hz,by rw [hv];simp [yi]⟩) ((.c rfl (.e rfl (by first|rfl|(congr 1;omega)|simp_all) (.of rfl))):SubM _ _) (ho:=((.of [0,0,0,0] rfl):PickO _ _ _)) ((.of [0,1,2,3] rfl):SelR _ _ _) ?_
  rintro ⟨j,os2,cy⟩ hJ
  replace hJ:j≤(yd (ye t l2).natAbs).length∧os2.length=(yd (ye s l1).natAbs).length+(yd (ye t l2).natAbs).length∧yv os2∧0≤cy∧cy<1000000000∧(∀k,i+(yd (ye t l2).natAbs).length≤k→os2.getD k 0=0)∧yi os2+yE (i+j)*cy=yi ((yd (ye s l1).natAbs).take i)*yi (yd (ye t l2).natAbs)+yE i*(yd (ye s l1).natAbs).getD i 0*yi ((yd (ye t l2).natAbs).take j):=hJ
  try dsimp only
  obtain ⟨hj,hol2,hok2,hcy0,hcy1,hz2,hv2⟩:=hJ
  have hg2:=yt hob j
  have hg3:=yt hok2 (i+j)
  have hpq:=Big.mul_lim hg1 hg2
  refine ze<|ze<|za<|e_mv rfl<|e_p (zg yg rfl sz39 rfl rfl)<|e_ru (zf 1 ty39 rfl rfl rfl)<|e_p (zQ yf rfl)<|e_p (zR rfl rfl)<|zh<|zd<|zB rfl (fun h10=> ?_) (fun h10=> ?_)
  ·
   refine zt<|zd<|ze<|zv<|ze<|zZ (OW:=[]) (O:=[rowA 121 (rI .u32) (some ⟨b8,0,none⟩) (((yd ((ye s l1).natAbs)).length)+((yd ((ye t l2).natAbs)).length)) os2,boxA b2 41 [.bool (decide ((ye t l2)<0)),.slice p26 ((yd ((ye t l2).natAbs)).length) c27],boxA b1 41 [.bool (decide ((ye s l1)<0)),.slice p24 ((yd ((ye s l1).natAbs)).length) c25],boxA b3 41 [wz.b,wz.l]]) 100000 mixed (.then (.block (.then (.then (.block (.then (.block (.then (.then (.block (.then .ret))))))))))) kr<|e_dm 0 rfl rfl rfl<|e_dm 1 rfl rfl rfl<|e_dm 2 rfl rfl rfl<|e_pv 3 rfl rfl (zw (z:=(((i+j):Nat):Int)) rfl rfl (w64 om))<|e_pv 4 rfl rfl (zka (j:=(i+j)) yf sz121 rfl rfl rfl om)<|d_vl 5 rfl rfl kr kr rfl rfl (zla 0 (i+j) rfl ty121 rfl rfl (gD (d:=0) om) rfl) (fun _ hok11=> ?_)
   replace hok11:=zH.1 hok11
   refine e_pv 6 rfl rfl (zM (z:=(os2.getD (i+j) 0)) rfl (by rw [ym];rfl) yl (wu64 om))<|e_pv 7 rfl rfl (zg yg rfl sz39 rfl rfl)<|e_u 8 rfl rfl (zf 2 ty39 rfl rfl rfl)<|e_dm 9 rfl rfl rfl<|zca (x0:=((yd ((ye s l1).natAbs)).getD i 0)) 10 rfl rfl kr kr 1 i rfl yf sz121 rfl rfl rfl (by first|rfl|assumption|(simp;omega)|omega) rfl rfl (gD (d:=0) om) (fun b12 o13 hok14=> ?_)
   replace hok14:=zH.1 hok14
   refine e_u 11 rfl rfl (zl (j:=0) 0 ty121 rfl rfl rfl rfl)<|e_pv 12 rfl rfl (zM (z:=((yd ((ye s l1).natAbs)).getD i 0)) rfl (by rw [ym];rfl) yl (wu64 om))<|e_pv 13 rfl rfl (zg yg rfl sz39 rfl rfl)<|e_u 14 rfl rfl (zf 1 ty39 rfl rfl rfl)<|e_dm 15 rfl rfl rfl<|zca (x0:=((yd ((ye t l2).natAbs)).getD j 0)) 16 rfl rfl kr kr 1 j rfl yf sz121 rfl rfl rfl (by first|rfl|assumption|(simp;omega)|omega) rfl rfl (gD (d:=0) om) (fun b15 o16 hok17=> ?_)
   replace hok17:=zH.1 hok17
   refine e_u 17 rfl rfl (zl (j:=0) 0 ty121 rfl rfl rfl rfl)<|e_pv 18 rfl rfl (zM (z:=((yd ((ye t l2).natAbs)).getD j 0)) rfl (by rw [ym];rfl) yl (wu64 om))<|e_pv 19 rfl rfl (zGa (z:=(((yd ((ye s l1).natAbs)).getD i 0)*((yd ((ye t l2).natAbs)).getD j 0))) rfl rfl (wu64 om))<|e_pv 20 rfl rfl (zw (z:=((os2.getD (i+j) 0)+(((yd ((ye s l1).natAbs)).getD i 0)*((yd ((ye t l2).natAbs)).getD j 0)))) rfl rfl (wu64 om))<|e_dm 21 rfl rfl rfl<|e_pv 22 rfl rfl (zw (z:=(((os2.getD (i+j) 0)+(((yd ((ye s l1).natAbs)).getD i 0)*((yd ((ye t l2).natAbs)).getD j 0)))+cy)) rfl rfl (wu64 om))<|e_pv 23 rfl rfl (zb rfl)<|zX kr<|zd<|ze<|za<|e_mv rfl<|e_mv rfl<|e_mv rfl<|e_p (zw (z:=(((i+j):Nat):Int)) rfl rfl (w64 om))<|e_mv rfl<|e_p (zoa (z:=((((os2.getD (i+j) 0)+(((yd ((ye s l1).natAbs)).getD i 0)*((yd ((ye t l2).natAbs)).getD j 0)))+cy)%1000000000)) rfl rfl om (remN om om))<|e_p (zM (z:=((((os2.getD (i+j) 0)+(((yd ((ye s l1).natAbs)).getD i 0)*((yd ((ye t l2).natAbs)).getD j 0)))+cy)%1000000000)) rfl (by rw [yl];rfl) ym (wu32 om))<|e_p (zka (j:=(i+j)) yf sz121 rfl rfl rfl om)<|zOa 0 rfl rfl rfl (zha (j:=(i+j)) (x0:=((((os2.getD (i+j) 0)+(((yd ((ye s l1).natAbs)).getD i 0)*((yd ((ye t l2).natAbs)).getD j 0)))+cy)%1000000000)) (γ0:=()) rfl rfl (by first|omega|(rw [List.length_map];omega)|(simp only [List.length_set];omega)|(simp;done)|(simp;omega)) rfl rfl sz121 (fun _ _=>by exact zH.2 om)) (fun _=> .z) (fun _ _=> ?_)
   refine zh<|zd<|za<|e_mv rfl<|e_p (zkb (z:=((((os2.getD (i+j) 0)+(((yd ((ye s l1).natAbs)).getD i 0)*((yd ((ye t l2).natAbs)).getD j 0)))+cy) / 1000000000)) rfl rfl om (by rw [quoN (z:=((((os2.getD (i+j) 0)+(((yd ((ye s l1).natAbs)).getD i 0)*((yd ((ye t l2).natAbs)).getD j 0)))+cy) / 1000000000)) om om];exact wu64 om))<|e_p (zb rfl)<|zh<|zK<|zd<|za<|e_mv rfl<|e_p (zw (z:=(((j+1):Nat):Int)) rfl rfl (w64 om))<|e_p (zb rfl)<|zh<|zda ((j+1),os2.set (i+j) ((os2.getD (i+j) 0+(yd (ye s l1).natAbs).getD i 0*(yd (ye t l2).natAbs).getD j 0+cy)%1000000000),(os2.getD (i+j) 0+(yd (ye s l1).natAbs).getD i 0*(yd (ye t l2).natAbs).getD j 0+cy) / 1000000000) (show (j+1)≤(yd (ye t l2).natAbs).length∧(os2.set (i+j) ((os2.getD (i+j) 0+(yd (ye s l1).natAbs).getD i 0*(yd (ye t l2).natAbs).getD j 0+cy)%1000000000)).length=(yd (ye s l1).natAbs).length+(yd (ye t l2).natAbs).length∧yv (os2.set (i+j) ((os2.getD (i+j) 0+(yd (ye s l1).natAbs).getD i 0*(yd (ye t l2).natAbs).getD j 0+cy)%1000000000))∧0≤((os2.getD (i+j) 0+(yd (ye s l1).natAbs).getD i 0*(yd (ye t l2).natAbs).getD j 0+cy) / 1000000000)∧((os2.getD (i+j) 0+(yd (ye s l1).natAbs).getD i 0*(yd (ye t l2).natAbs).getD j 0+cy) / 1000000000)<1000000000∧(∀k,i+(yd (ye t l2).natAbs).length≤k→(os2.set (i+j) ((os2.getD (i+j) 0+(yd (ye s l1).natAbs).getD i 0*(yd (ye t l2).natAbs).getD j 0+cy)%1000000000)).getD k 0=0)∧yi (os2.set (i+j) ((os2.getD (i+j) 0+(yd (ye s l1).natAbs).getD i 0*(yd (ye t l2).natAbs).getD j 0+cy)%1000000000))+yE (i+(j+1))*((os2.getD (i+j) 0+(yd (ye s l1).natAbs).getD i 0*(yd (ye t l2).natAbs).getD j 0+cy) / 1000000000)=yi ((yd (ye s l1).natAbs).take i)*yi (yd (ye t l2).natAbs)+yE i*(yd (ye s l1).natAbs).getD i 0*yi ((yd (ye t l2).natAbs).take (j+1)) from by exact ⟨by omega,by simpa using hol2,Big.okL_set hok2 om om,by omega,by omega,fun k hk=>by rw [Big.getD_set_ne om];exact hz2 k om,Big.mul_step hv2 om om⟩) (by show (yd (ye t l2).natAbs).length - (j+1)<(yd (ye t l2).natAbs).length - j;omega) ((.e rfl (by first|rfl|(congr 1;omega)|simp_all) (.of rfl)):SubM _ _) (ho:=((.e (i:=0) rfl (by first|rfl|(congr 1;omega)|simp_all) (.of [0,0,0] rfl)):PickO _ _ _)) ((.of [2,3,4,5] rfl):SelR _ _ _)
  ·
   have hjb:j=(yd (ye t l2).natAbs).length:=by omega
   subst hjb
   have hv3:=hv2
   refine zga<|zj<|zj<|zr<|zd<|za<|e_mv rfl<|e_mv rfl<|e_p (zg yg rfl sz39 rfl rfl)<|e_ru (zf 1 ty39 rfl rfl rfl)<|e_p (zQ yf rfl)<|e_p (zw (z:=(((i+((yd ((ye t l2).natAbs)).length)):Nat):Int)) rfl rfl (w64 om))<|e_mv rfl<|e_p (zM (z:=cy) rfl (by rw [yl];rfl) ym (wu32 om))<|e_p (zka (j:=(i+((yd ((ye t l2).natAbs)).length))) yf sz121 rfl rfl rfl om)<|zOa 0 rfl rfl rfl (zha (j:=(i+((yd ((ye t l2).natAbs)).length))) (x0:=cy) (γ0:=()) rfl rfl (by first|omega|(rw [List.length_map];omega)|(simp only [List.length_set];omega)|(simp;done)|(simp;omega)) rfl rfl sz121 (fun _ _=>by exact zH.2 om)) (fun _=> .z) (fun _ _=> ?_)
   refine zh<|zK<|zd<|za<|e_mv rfl<|e_p (zw (z:=(((i+1):Nat):Int)) rfl rfl (w64 om))<|e_p (zb rfl)<|zh<|zda ((i+1),os2.set (i+(yd (ye t l2).natAbs).length) cy) (show (i+1)≤(yd (ye s l1).natAbs).length∧(os2.set (i+(yd (ye t l2).natAbs).length) cy).length=(yd (ye s l1).natAbs).length+(yd (ye t l2).natAbs).length∧yv (os2.set (i+(yd (ye t l2).natAbs).length) cy)∧(∀k,(i+1)+(yd (ye t l2).natAbs).length≤k→(os2.set (i+(yd (ye t l2).natAbs).length) cy).getD k 0=0)∧yi (os2.set (i+(yd (ye t l2).natAbs).length) cy)=yi ((yd (ye s l1).natAbs).take (i+1))*yi (yd (ye t l2).natAbs) from by exact ⟨by omega,by simpa using hol2,Big.okL_set hok2 om om,fun k hk=>by rw [Big.getD_set_ne om];exact hz2 k om,Big.mul_round hv3 om (hz2 _ (Nat.le_refl _))⟩) (by show (yd (ye s l1).natAbs).length - (i+1)<(yd (ye s l1).natAbs).length - i;omega) ((.of rfl):SubM _ _) (ho:=((.e (i:=0) rfl (by first|rfl|(congr 1;omega)|simp_all) (.of [0,0,0] rfl)):PickO _ _ _)) ((.of [0,1,2,3] rfl):SelR _ _ _)
 ·
  have hia:i=(yd (ye s l1).natAbs).length:=by omega
  have hfin:yI (decide (decide (ye s l1<0)≠decide (ye t l2<0))) (yi os)=ye s l1*ye t l2:=by rw [hv,hia,List.take_length,yx,yx,←Int.natCast_mul,Big.sg_mul,Big.sg_big,Big.sg_big]
  refine zga<|zj<|zj<|zr<|zd<|ze<|za<|e_p (zg yg rfl sz4 rfl rfl)<|e_ru (zf 2 ty4 rfl rfl rfl)<|e_p (zg yg rfl sz4 rfl rfl)<|e_ru (zf 1 ty4 rfl rfl rfl)<|e_p (zSa Tryz.underlying4 rfl rfl)<|e_mv rfl<|zna 0 rfl .z<|zL rfl rfl (.c rfl (.c rfl .n)) ce112 (zRa (s:=decide (decide ((ye s l1)<0)≠decide ((ye t l2)<0))) (p:=some ⟨b8,0,none⟩) (n:=(((yd ((ye s l1).natAbs)).length)+((yd ((ye t l2).natAbs)).length))) (cap:=(((yd ((ye s l1).natAbs)).length)+((yd ((ye t l2).natAbs)).length))) (l:=os) (hn:=by first|rfl|assumption|omega|(unfold yq;omega)|(simp;done)|(simp;omega)|(simp_all;done)) (ho:=by exact hok) (hln:=by first|rfl|assumption|omega|(unfold yq;omega)|(simp;done)|(simp;omega)|(simp_all;done))) (.c (j:=0) rfl .n) ?_
  rintro ⟨p218,c219⟩ -
  dsimp only [aq,nq,cq]
  refine zq 3 rfl rfl rfl rfl rfl sz41 rfl (.t2 .nil) (.s (.s (.s .z)))<|zh<|zd<|zJ ?_
  exact zx Tryz.results73 (p218,c219) trivial (zC 3 ty41 rfl rfl (.t2 .nil)) (by rw [hfin]) (ho:=(.n:PickO _ _ _)) ((.e (j:=0) rfl (by rw [hfin]) .n):SelR _ _ _)
theorem zrc {x1:Int} {x2:Int} {p1:Option Addr} {c1:Nat} {p2:Option Addr} {c2:Nat} (hb1:yq x1≤1099511627776) (hb2:yq x2≤1099511627776):Con yk 73 [.agg #[.bool (decide ((x1)<0)),.slice (p1) ((yd ((x1).natAbs)).length) (c1)],.agg #[.bool (decide ((x2)<0)),.slice (p2) ((yd ((x2).natAbs)).length) (c2)]] [] [slF (rI .u32) (p1) (c1) (yd ((x1).natAbs)),slF (rI .u32) (p2) (c2) (yd ((x2).natAbs))] (Y:=(Option Addr)×(Nat)) (fun y=>True) (fun y=> .agg #[.bool (decide ((x1*x2)<0)),.slice (y.1) ((yd ((x1*x2).natAbs)).length) (y.2)]) (fun y=>[]) (fun y=>[slF (rI .u32) (y.1) (y.2) (yd ((x1*x2).natAbs))]):=by
  have h:= @zeg (decide ((x1)<0)) p1 (yd (x1).natAbs).length c1 (yd (x1).natAbs) (decide ((x2)<0)) p2 (yd (x2).natAbs).length c2 (yd (x2).natAbs) rfl rfl hb1 hb2
  rw [yw,yw] at h
  exact h
theorem zRb {w1:Wd} {w2:Wd} {x1:Int} {x2:Int} (hb1:yq x1≤1099511627776) (hb2:yq x2≤1099511627776):Con yk 73 [.agg #[w1.b,w1.l],.agg #[w2.b,w2.l]] [] [zF w1 (x1),zF w2 (x2)] (Y:=(Wd)) (fun y=>True) (fun y=> .agg #[y.b,y.l]) (fun y=>[]) (fun y=>[zF y (x1*x2)]):=by
  exact zZb (zEc (fun p1 c1 p2 c2=>zrc hb1 hb2))
end Go.Proofs.YtjcpbhlijoigfaaGreat.Sp
namespace Go.Proofs.YtjcpbhlijoigfaaGreat.Sp
open Go
set_option linter.unusedVariables false
set_option maxRecDepth 100000
set_option maxHeartbeats 8000000
theorem zec {a:Nat} {d:Nat} {p0:Option Addr} {cap:Nat} (hb:(yd a).length≤1099511627776) (hd:d<1000000000):Con yk 145 [.slice p0 ((yd a).length) cap,.int .u64 ((d:Nat):Int)] [] [slF (rI .u32) p0 cap (yd a)] (Y:=(Option Addr)×Nat) (fun y=>True) (fun y=> .slice (y.1) ((yd (a*d)).length) (y.2)) (fun y=>[]) (fun y=>[slF (rI .u32) (y.1) (y.2) (yd (a*d))]):=by
 refine zp Tryz.func145 rfl rfl rfl (fun c=> ?_)
 show RunC _ _ _ _ _ [(0,.slice p0 ((yd a).length) cap),(1,.int .u64 ((d:Nat):Int))] [] [slF (rI .u32) p0 cap (yd a)]
 refine zfa 0 rfl (fun hL0=> ?_)
 refine ze<|za<|e_p (zb rfl)<|zh<|zd<|ze<|za<|zNa rfl rfl (zDa (rI .u32) yf inf121) (fun b1 _=> ?_)
 refine e_p (zb rfl)<|zh<|zd<|ze<|za<|e_p (zb rfl)<|zh<|zd<|ze<|ze<|za<|e_p (zb rfl)<|zh<|zd<|zv<|zma (X:=Nat×(Option Addr)×Nat×(List Int)×Int) (fun x:Nat×(Option Addr)×Nat×(List Int)×Int=>Big.ScI (yd a) (d:Int) x.1 x.2.2.2.1 x.2.2.2.2) (fun x=>[(6,.int .u64 (x.2.2.2.2)),(5,.slice (x.2.1) (x.2.2.2.1.length) (x.2.2.1)),(7,ya yb ((x.1:Nat):Int)),(4,.slice none 0 0),(0,.slice p0 ((yd a).length) cap),(1,.int .u64 ((d:Nat):Int))]) (fun x=>[rowA 121 (rI .u32) (x.2.1) (x.2.2.1) (x.2.2.2.1)]) (fun x=>[slF (rI .u32) p0 cap (yd a)]) (fun x:Nat×(Option Addr)×Nat×(List Int)×Int=>(yd a).length - x.1) (0,some ⟨b1,0,none⟩,0,[],0) (show Big.ScI (yd a) (d:Int) 0 ([]) 0 from by exact Big.ScI.start _ _) ((.c rfl (.e rfl (by first|rfl|(congr 1;omega)|simp_all) (.e rfl (by first|rfl|(congr 1;omega)|simp_all) (.of rfl)))):SubM _ _) (ho:=((.c (i:=0) rfl .n):PickO _ _ _)) ((.c (j:=0) rfl .n):SelR _ _ _) ?_
 rintro ⟨i,p,c,os,cy⟩ hI
 replace hI:Big.ScI (yd a) (d:Int) i os cy:=hI
 try dsimp only
 have hi:=hI.le
 have hol:=hI.len
 have hc0:=hI.c0
 have hc1:=hI.c1
 have hg:=yt (yr a) i
 have hsl:=Big.sc_lim hg (show 0≤(d:Int)∧(d:Int)<1000000000 by omega) ⟨hc0,hc1⟩
 refine ze<|ze<|za<|e_mv rfl<|e_mv rfl<|e_p (zQ yf rfl)<|e_p (zR rfl rfl)<|zh<|zd<|zB rfl (fun h2=> ?_) (fun h2=> ?_)
 ·
  refine zt<|zd<|ze<|zv<|ze<|za<|e_mv rfl<|e_mv rfl<|zI (x0:=((yd a).getD i 0)) 0 i rfl yf sz121 rfl rfl rfl (by first|rfl|assumption|(simp;done)|(simp;omega)|omega) rfl rfl (gD (d:=0) om) (fun b3 o4 hok5=> ?_)
  replace hok5:=zH.1 hok5
  refine e_ru (zl (j:=0) 0 ty121 rfl rfl rfl rfl)<|e_p (zM (z:=((yd a).getD i 0)) rfl (by rw [ym];rfl) yl (wu64 om))<|e_mv rfl<|e_p (zGa (z:=(((yd a).getD i 0)*((d:Nat):Int))) rfl rfl (wu64 om))<|e_mv rfl<|e_p (zw (z:=((((yd a).getD i 0)*((d:Nat):Int))+cy)) rfl rfl (wu64 om))<|e_p (zb rfl)<|zh<|zd<|ze<|za<|e_mv rfl<|e_mv rfl<|e_p (zoa (z:=(((((yd a).getD i 0)*((d:Nat):Int))+cy)%1000000000)) rfl rfl om (remN om om))<|e_p (zM (z:=(((((yd a).getD i 0)*((d:Nat):Int))+cy)%1000000000)) rfl (by rw [yl];rfl) ym (wu32 om))<|zNa rfl rfl (zba (enc:=fun z:Int=>[.int .u32 z]) (ok:=InK .u32) (h1:=fun _=>rfl) (h2:=fun _=>rfl) (k:=1) yf inf121 rfl dd dd dd (.c (x:=(((((yd a).getD i 0)*((d:Nat):Int))+cy)%1000000000)) rfl rfl (fun _ _=>by exact zH.2 om) .n)) (fun b6 _=> ?_)
  refine zna 0 rfl .z<|zOa 1 rfl rfl rfl (zza 0 rfl yf inf121 dd rfl rfl (by first|rfl|assumption|(simp;done)|(simp;omega)|omega) rfl (by first|rfl|assumption|(simp;done)|(simp;omega)|omega) om om) (fun _=>(.s .z)) ?_
  rintro ⟨p7,c8⟩ -
  dsimp only [aq,nq,cq]
  refine e_p (zb rfl)<|zh<|zd<|za<|e_mv rfl<|e_p (zkb (z:=(((((yd a).getD i 0)*((d:Nat):Int))+cy) / 1000000000)) rfl rfl om (by rw [quoN (z:=(((((yd a).getD i 0)*((d:Nat):Int))+cy) / 1000000000)) om om];exact wu64 om))<|e_p (zb rfl)<|zh<|zK<|zd<|za<|e_mv rfl<|e_p (zw (z:=(((i+1):Nat):Int)) rfl rfl (w64 om))<|e_p (zb rfl)<|zh<|zda ((i+1),p7,c8,os++[((yd a).getD i 0*(d:Int)+cy)%1000000000],((yd a).getD i 0*(d:Int)+cy) / 1000000000) (show Big.ScI (yd a) (d:Int) (i+1) (os++[((yd a).getD i 0*(d:Int)+cy)%1000000000]) (((yd a).getD i 0*(d:Int)+cy) / 1000000000) from by exact hI.step (yr a) om om) (by show (yd a).length - (i+1)<(yd a).length - i;omega) ((.e rfl (by first|rfl|(congr 1;omega)|simp_all) (.e rfl (by simp) (.of rfl))):SubM _ _) (ho:=((.e (i:=1) rfl (by first|rfl|(congr 1;omega)|simp_all) .n):PickO _ _ _)) ((.c (j:=2) rfl .n):SelR _ _ _)
 ·
  obtain ⟨hok2,hfin⟩:=hI.fin om
  refine zga<|zj<|zj<|zr<|zd<|ze<|za<|e_mv rfl<|e_mv rfl<|e_p (zM (z:=cy) rfl (by rw [yl];rfl) ym (wu32 om))<|zNa rfl rfl (zba (enc:=fun z:Int=>[.int .u32 z]) (ok:=InK .u32) (h1:=fun _=>rfl) (h2:=fun _=>rfl) (k:=1) yf inf121 rfl dd dd dd (.c (x:=cy) rfl rfl (fun _ _=>by exact zH.2 om) .n)) (fun b9 _=> ?_)
  refine zna 0 rfl .z<|zOa 1 rfl rfl rfl (zza 0 rfl yf inf121 dd rfl rfl (by first|rfl|assumption|(simp;done)|(simp;omega)|omega) rfl (by first|rfl|assumption|(simp;done)|(simp;omega)|omega) om om) (fun _=>(.s .z)) ?_
  rintro ⟨p10,c11⟩ -
  dsimp only [aq,nq,cq]
  refine zna 1 rfl (.s .z)<|zL rfl rfl (.c rfl (.c rfl .n)) ce112 (zRa (s:=false) (p:=p10) (n:=os.length+1) (cap:=c11) (l:=(os++([cy]))) (hn:=by first|rfl|omega|(simp;done)|(simp;omega)) (ho:=by exact hok2) (hln:=by first|rfl|omega|(simp;done)|(simp;omega))) (.c (j:=0) rfl .n) ?_
  rintro ⟨p212,c213⟩ -
  dsimp only [aq,nq,cq]
  refine e_p (zHa yg rfl ty39 rfl rfl)<|e_p (zb rfl)<|zh<|zd<|zJ ?_
  have hz:(yI false (yi (os++[cy]))).natAbs=a*d:=by rw [hfin];exact Int.natAbs_natCast _
  exact zx Tryz.results145 (p212,c213) trivial (zn rfl) (by rw [hz]) (ho:=(.n:PickO _ _ _)) ((.e (j:=0) rfl (by rw [hz]) .n):SelR _ _ _)
theorem zOd {a:Nat} {d:Nat} {p0:Option Addr} {cap:Nat} (hb:(yd a).length≤1099511627776) (hd:d<1000000000):Con yk 146 [.slice p0 ((yd a).length) cap,.int .u32 ((d:Nat):Int)] [] [slF (rI .u32) p0 cap (yd a)] (Y:=(Option Addr)×Nat) (fun y=>True) (fun y=> .slice (y.1) ((yd (a*1000000000+d)).length) (y.2)) (fun y=>[]) (fun y=>[slF (rI .u32) (y.1) (y.2) (yd (a*1000000000+d))]):=by
 refine zp Tryz.func146 rfl rfl rfl (fun c=> ?_)
 show RunC _ _ _ _ _ [(0,.slice p0 ((yd a).length) cap),(1,.int .u32 ((d:Nat):Int))] [] [slF (rI .u32) p0 cap (yd a)]
 refine zfa 0 rfl (fun hL0=> ?_)
 have hok2:yv ([((d:Nat):Int)]++yd a):=Big.okL_cons.2 ⟨by omega,yr a⟩
 have hz:(yI false (yi (((d:Nat):Int) :: yd a))).natAbs=a*1000000000+d:=by rw [Big.sg_abs (yD (l:=((d:Nat):Int) :: yd a) hok2)];simp only [yi,yx];omega
 refine ze<|za<|e_p (zb rfl)<|zh<|zd<|ze<|za<|e_mv rfl<|zNa rfl rfl (zba (enc:=fun z:Int=>[.int .u32 z]) (ok:=InK .u32) (h1:=fun _=>rfl) (h2:=fun _=>rfl) (k:=1) yf inf121 rfl dd dd dd (.c (x:=((d:Nat):Int)) rfl rfl (fun _ _=>by exact zH.2 om) .n)) (fun b1 _=> ?_)
 refine e_mv rfl<|zOa 0 rfl rfl rfl (zza 0 rfl yf inf121 dd rfl rfl (by first|rfl|assumption|(simp;done)|(simp;omega)|omega) rfl (by first|rfl|assumption|(simp;done)|(simp;omega)|omega) om om) (fun _=> .z) ?_
 rintro ⟨p2,c3⟩ -
 dsimp only [aq,nq,cq]
 refine zna 0 rfl .z<|zL rfl rfl (.c rfl (.c rfl .n)) ce112 (zRa (s:=false) (p:=p2) (n:=1+((yd a).length)) (cap:=c3) (l:=(([((d:Nat):Int)])++(yd a))) (hn:=by first|rfl|omega|(simp;done)|(simp;omega)) (ho:=by exact hok2) (hln:=by first|rfl|omega|(simp;done)|(simp;omega))) (.c (j:=0) rfl .n) ?_
 rintro ⟨p24,c25⟩ -
 dsimp only [aq,nq,cq]
 refine e_p (zHa yg rfl ty39 rfl rfl)<|e_p (zb rfl)<|zh<|zd<|zJ ?_
 exact zx Tryz.results146 (p24,c25) trivial (zn rfl) (by rw [hz]) (ho:=(.n:PickO _ _ _)) ((.e (j:=0) rfl (by rw [hz]) .n):SelR _ _ _)
theorem zkd {a:Nat} {mm:Nat} {p:Option Addr} {cap:Nat} (hb:(yd a).length≤1099511627776) (hm0:0<mm) (hm1:mm≤1000000000):Con yk 144 [.slice p ((yd a).length) cap,.int .u64 ((mm:Nat):Int)] [] [slF (rI .u32) p cap (yd a)] (Y:=(Option Addr)×Nat) (fun y=>True) (fun y=> .tuple #[.slice (y.1) ((yd (a / mm)).length) (y.2),.int .u64 (((a%mm):Nat):Int)]) (fun y=>[]) (fun y=>[slF (rI .u32) (y.1) (y.2) (yd (a / mm))]):=by
 refine zp Tryz.func144 rfl rfl rfl (fun c=> ?_)
 show RunC _ _ _ _ _ [(0,.slice p ((yd a).length) cap),(1,.int .u64 ((mm:Nat):Int))] [] [slF (rI .u32) p cap (yd a)]
 refine zfa 0 rfl (fun hL0=> ?_)
 refine ze<|za<|e_p (zb rfl)<|e_p (zb rfl)<|zh<|zd<|ze<|za<|e_mv rfl<|e_p (zQ yf rfl)<|zNa rfl rfl (zsb (r:=rI .u32) (k:=(yd a).length) (x0:=0) (γ0:=()) yf inf121 rfl rfl rfl rfl om om rfl (fun g _=>by exact zH.2 dd) dd) (fun b1 _=> ?_)
 refine e_p (zb rfl)<|zh<|zd<|ze<|za<|e_p (zb rfl)<|zh<|zd<|ze<|ze<|za<|e_mv rfl<|e_p (zQ yf rfl)<|e_p (zja (z:=((((yd a).length:Nat):Int) - 1)) rfl rfl (w64 om))<|e_p (zb rfl)<|zh<|zd<|zv<|zma (X:=Nat×(List Int)×(List Int)×Int) (fun x:Nat×(List Int)×(List Int)×Int=>x.2.1=List.replicate x.1 0++x.2.2.1∧Big.ShI (yd a) (mm:Int) x.1 x.2.2.1 x.2.2.2) (fun x=>[(7,.int .u64 (x.2.2.2)),(8,ya yb (((x.1:Nat):Int) - 1)),(6,.slice (some ⟨b1,0,none⟩) ((yd a).length) ((yd a).length)),(5,.int .u64 0),(4,.slice none 0 0),(0,.slice p ((yd a).length) cap),(1,.int .u64 ((mm:Nat):Int))]) (fun x=>[rowA 121 (rI .u32) (some ⟨b1,0,none⟩) ((yd a).length) (x.2.1)]) (fun x=>[slF (rI .u32) p cap (yd a)]) (fun x:Nat×(List Int)×(List Int)×Int=>x.1) ((yd a).length,(List.replicate (yd a).length 0),([]:List Int),(0:Int)) (show (List.replicate (yd a).length 0)=List.replicate ((yd a).length) 0++([]:List Int)∧Big.ShI (yd a) (mm:Int) ((yd a).length) ([]:List Int) (0:Int) from by exact ⟨by simp,Big.ShI.start om⟩) ((.e rfl (by first|rfl|(congr 1;omega)|simp_all) (.e rfl (by first|rfl|(congr 1;omega)|simp_all) (.of rfl))):SubM _ _) (ho:=((.e (i:=0) rfl (by first|rfl|(congr 1;omega)|simp_all) .n):PickO _ _ _)) ((.c (j:=0) rfl .n):SelR _ _ _) ?_
 rintro ⟨jj,os,qs,z⟩ hI
 replace hI:os=List.replicate jj 0++qs∧Big.ShI (yd a) (mm:Int) jj qs z:=hI
 try dsimp only
 obtain ⟨hos,hS⟩:=hI
 have hz0:=hS.r0
 have hz1:=hS.r1
 have hkle:=hS.le
 refine ze<|ze<|za<|e_mv rfl<|e_p (zIa rfl rfl)<|zh<|zd<|zB rfl (fun h2=> ?_) (fun h2=> ?_)
 ·
  obtain ⟨k,rfl⟩:∃k,jj=k+1:=⟨jj - 1,by omega⟩
  have e3:(((((k+1):Nat):Int) - 1):Int)=((k:Nat):Int):=by omega
  rw [e3]
  have hosl:os.length=(yd a).length:=by rw [hos,List.length_append,List.length_replicate,hS.len];omega
  have hg:=yt (yr a) k
  have hdg:=Big.sh_digit hz0 hz1 hg
  have hrm:=Int.emod_lt_of_pos (z*1000000000+(yd a).getD k 0) (show 0<(mm:Int) by omega)
  have hrm0:=Int.emod_nonneg (z*1000000000+(yd a).getD k 0) (show (mm:Int)≠0 by omega)
  refine zt<|zd<|ze<|zv<|ze<|za<|e_mv rfl<|e_p (zGa (z:=(z*1000000000)) rfl rfl (wu64 om))<|e_mv rfl<|e_mv rfl<|zI (x0:=((yd a).getD k 0)) 0 k rfl yf sz121 rfl rfl rfl (by first|rfl|assumption|(simp;done)|(simp;omega)|omega) rfl rfl (gD (d:=0) om) (fun b4 o5 hok6=> ?_)
  replace hok6:=zH.1 hok6
  refine e_ru (zl (j:=0) 0 ty121 rfl rfl rfl rfl)<|e_p (zM (z:=((yd a).getD k 0)) rfl (by rw [ym];rfl) yl (wu64 om))<|e_p (zw (z:=((z*1000000000)+((yd a).getD k 0))) rfl rfl (wu64 om))<|e_p (zb rfl)<|zh<|zd<|ze<|za<|e_mv rfl<|e_mv rfl<|e_mv rfl<|e_mv rfl<|e_p (zkb (z:=(((z*1000000000)+((yd a).getD k 0)) / ((mm:Nat):Int))) rfl rfl om (by rw [quoN (z:=(((z*1000000000)+((yd a).getD k 0)) / ((mm:Nat):Int))) om om];exact wu64 om))<|e_p (zM (z:=(((z*1000000000)+((yd a).getD k 0)) / ((mm:Nat):Int))) rfl (by rw [yl];rfl) ym (wu32 om))<|e_p (zka (j:=k) yf sz121 rfl rfl rfl om)<|zOa 0 rfl rfl rfl (zha (j:=k) (x0:=(((z*1000000000)+((yd a).getD k 0)) / ((mm:Nat):Int))) (γ0:=()) rfl rfl (by first|omega|(rw [List.length_map];omega)|(simp only [List.length_set];omega)|(simp;done)|(simp;omega)) rfl rfl sz121 (fun _ _=>by exact zH.2 om)) (fun _=> .z) (fun _ _=> ?_)
  refine zh<|zd<|za<|e_mv rfl<|e_mv rfl<|e_p (zoa (z:=(((z*1000000000)+((yd a).getD k 0))%((mm:Nat):Int))) rfl rfl om (remN om om))<|e_p (zb rfl)<|zh<|zK<|zd<|za<|e_mv rfl<|e_p (zja (z:=(((k:Nat):Int) - 1)) rfl rfl (w64 om))<|e_p (zb rfl)<|zh<|zda (k,(os.set k (((z*1000000000)+((yd a).getD k 0)) / ((mm:Nat):Int))),((z*1000000000+(yd a).getD k 0) / (mm:Int) :: qs),((z*1000000000+(yd a).getD k 0)%(mm:Int))) (show (os.set k (((z*1000000000)+((yd a).getD k 0)) / ((mm:Nat):Int)))=List.replicate k 0++((z*1000000000+(yd a).getD k 0) / (mm:Int) :: qs)∧Big.ShI (yd a) (mm:Int) k ((z*1000000000+(yd a).getD k 0) / (mm:Int) :: qs) ((z*1000000000+(yd a).getD k 0)%(mm:Int)) from by exact ⟨by rw [hos];exact Big.pad_set _,hS.step (yr a)⟩) (by show k<k+1;omega) ((.e rfl (by first|rfl|(congr 1;omega)|simp_all) (.of rfl)):SubM _ _) (ho:=((.c (i:=0) rfl .n):PickO _ _ _)) ((.c (j:=1) rfl .n):SelR _ _ _)
 ·
  have hj0:jj=0:=by omega
  have hS0:Big.ShI (yd a) (mm:Int) 0 qs z:=hj0 ▸ hS
  obtain ⟨hf1,hf2⟩:=hS0.fin
  have hoq:os=qs:=by rw [hos,hj0];rfl
  have hok2:yv os:=by rw [hoq];exact hS.ok
  have hosl:os.length=(yd a).length:=by rw [hoq,hS0.len];omega
  have hz9:(yI false (yi os)).natAbs=a / mm:=by rw [hoq,Big.sg_abs (yD hS.ok),←Big.valL_trim,hf1,yx];exact Int.toNat_natCast _
  refine zga<|zj<|zj<|zr<|zd<|ze<|za<|e_mv rfl<|zna 0 rfl .z<|zL rfl rfl (.c rfl (.c rfl .n)) ce112 (zRa (s:=false) (p:=some ⟨b1,0,none⟩) (n:=(yd a).length) (cap:=(yd a).length) (l:=os) (hn:=by first|rfl|omega|(simp;done)|(simp;omega)) (ho:=by exact hok2) (hln:=by first|rfl|omega|(simp;done)|(simp;omega))) (.c (j:=0) rfl .n) ?_
  rintro ⟨p27,c28⟩ -
  dsimp only [aq,nq,cq]
  refine e_p (zHa yg rfl ty39 rfl rfl)<|e_mv rfl<|e_p (zb rfl)<|e_p (zb rfl)<|zh<|zd<|zJ ?_
  exact zEa Tryz.results144 (p27,c28) trivial (zn rfl) (zn rfl) (by rw [hz9,hf2]) (ho:=(.n:PickO _ _ _)) ((.e (j:=0) rfl (by rw [hz9]) .n):SelR _ _ _)
theorem zPd {a:Nat} {p:Option Addr} {cap:Nat} (hb:(yd a).length≤2):Con yk 132 [.slice p ((yd a).length) cap] [] [slF (rI .u32) p cap (yd a)] (Y:=Unit) (fun y=>True) (fun y=> .int .u64 ((a:Nat):Int)) (fun y=>[]) (fun y=>[]):=by
 refine zp Tryz.func132 rfl rfl rfl (fun c=> ?_)
 show RunC _ _ _ _ _ [(0,.slice p ((yd a).length) cap)] [] [slF (rI .u32) p cap (yd a)]
 refine zfa 0 rfl (fun hL0=> ?_)
 have hpv:=Big.pair_val hb
 have hg0:=yt (yr a) 0
 have hg1:=yt (yr a) 1
 refine ze<|za<|e_p (zb rfl)<|zh<|zd<|ze<|za<|e_mv rfl<|zO rfl rfl (.c rfl (.c rfl .n)) ce143 (zcb (p:=p) (n:=(yd a).length) (cap:=cap) (l:=yd a) (i:=1) (hn:=cbb) (hi:=cbb)) (.c (j:=0) rfl .n)<|e_p (zGa (z:=((yd a).getD 1 0*1000000000)) rfl rfl (wu64 om))<|e_mv rfl<|zO rfl rfl (.c rfl (.c rfl .n)) ce143 (zcb (p:=p) (n:=(yd a).length) (cap:=cap) (l:=yd a) (i:=0) (hn:=cbb) (hi:=cbb)) (.c (j:=0) rfl .n)<|e_p (zw (z:=(((yd a).getD 1 0*1000000000)+(yd a).getD 0 0)) rfl rfl (wu64 om))<|e_p (zb rfl)<|zh<|zd<|zJ ?_
 exact zx Tryz.results132 () trivial (zn rfl) (by rw [hpv]) (ho:=(.n:PickO _ _ _)) (.n:SelR _ _ _)
end Go.Proofs.YtjcpbhlijoigfaaGreat.Sp
