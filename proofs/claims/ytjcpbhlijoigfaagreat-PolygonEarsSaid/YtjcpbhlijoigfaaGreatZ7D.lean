/- Lemmas on the walk and plain lemmas that the claim of this folder uses; each states its own conditions. Lines were printed by a program of ours. -/
import Derived.Test.YtjcpbhlijoigfaaGreatZ7C
set_option linter.unusedVariables false
set_option linter.unusedSimpArgs false
set_option linter.unusedSectionVars false
open Go.Value renaming int → ya, pointer → yc
open Go.IntKind renaming i64 → yb
open Go.Proofs.YtjcpbhlijoigfaaGreat.Big renaming digs → yd, valL → yf, trimL → ym, okL_getD → yn, digs_ok → yp, raw → yq, okL → yt, valL_digs → yv, pw → yw, sg → yx, raw_big → yy, getD_set_ne → yB, okL_snoc → yC, okL_set → yF, cmp → yG, ln → yH, LgI → yI
open Go.Proofs.Tryz renaming underlying39 → ye, underlying98 → yg, underlying121 → yh, underlying120 → yi, underlying22 → yj, underlying96 → yk, prog → yl, underlying41 → yo, underlying30 → yr, underlying2 → yu, underlying95 → yz, underlying54 → yA, results17 → yD, results76 → yE
namespace Go.Proofs.YtjcpbhlijoigfaaGreat.Sp
open Go
set_option linter.unusedVariables false
set_option maxRecDepth 100000
set_option maxHeartbeats 8000000
theorem zed {p:Option Addr} {n:Nat} {cap:Nat} {l:List Pg.P2} {hx:Int} {hy:Int} (hn:l.length=n) (hwhx: -9223372036854775808≤hx∧hx≤9223372036854775807) (hwhy: -9223372036854775808≤hy∧hy≤9223372036854775807):Con yl 17 [.slice p n cap,.agg #[.int .i64 hx,.int .i64 hy]] [] [slF (rI2 .i64) p cap l] (Y:=Unit) (fun y=>True) (fun y=> .tuple #[.int .i64 (Pg.isV l (hx,hy)),.int .i64 (Pg.isC l (hx,hy))]) (fun y=>[]) (fun y=>[]):=by
 refine zn Tryz.func17 rfl rfl rfl (fun c=> ?_)
 show RunC _ _ _ _ _ [(0,.slice p n cap),(1,.agg #[.int .i64 hx,.int .i64 hy])] [] [slF (rI2 .i64) p cap l]
 refine zia 0 rfl (fun hL0=> ?_)
 refine zg<|za<|zO rfl rfl (zS rfl rfl) (fun b1=> ?_)
 refine e_p (zb rfl)<|e_p (zb rfl)<|zh<|zd<|zg<|zg<|za<|e_mv rfl<|zN rfl rfl (.c rfl .n) ce15 (zlc (p:=p) (n:=n) (cap:=cap) (l:=l) (hn:=ass)) (.c (j:=0) rfl .n)<|e_p (zb rfl)<|zh<|zd<|zg<|za<|e_mv rfl<|e_p (zQa rfl rfl)<|zh<|zd<|zG rfl (fun hbad=> ?_) (fun hbad=> ?_)
 ·
  refine zg<|za<|e_mv rfl<|e_p (zb rfl)<|e_p (zb rfl)<|zh<|zd<|zK<|zi ?_
  obtain ⟨hv1,hv2⟩:=Pg.is_bad (q:=(hx,hy)) hbad
  exact zAa yD () trivial (zk rfl) (zk rfl) (by rw [hv1,hv2]) (ho:=(.n:PickO _ _ _)) (.n:SelR _ _ _)
 ·
  have hz:=Decidable.not_not.1 hbad
  have hok:=Pg.ok hz
  have hrng:=hok.rng
  have h64:=hok.n64
  refine zt<|zd<|zg<|zg<|za<|e_ru (zc 0 ty30 rfl rfl (.t2 .nil))<|zN rfl rfl (.c rfl .n) ce46 (zkc (ex:=hx) (ey:=hy) (hwex:=ass) (hwey:=ass)) (.n)<|zh<|zd<|zZa rfl (fun hfar=> ?_) (fun hfar=> ?_)
  ·
   refine zg<|za<|e_p (zb rfl)<|e_p (zb rfl)<|zh<|zd<|zK<|zi ?_
   obtain ⟨hv1,hv2⟩:=Pg.is_far hz hfar
   exact zAa yD () trivial (zk rfl) (zk rfl) (by rw [hv1,hv2]) (ho:=(.n:PickO _ _ _)) (.n:SelR _ _ _)
  ·
   have hrh:=Pg.far_no' hfar
   refine zt<|zd<|zg<|za<|e_p (zb rfl)<|zh<|zd<|zg<|zg<|za<|e_mv rfl<|e_p (zQ yj rfl)<|e_mv rfl<|zh<|zd<|zv<|zqa (X:=Nat) (fun x:Nat=>x≤n∧∀w,w<x→¬Pg.onS (l.getD w (0,0)) (l.getD ((w+1)%n) (0,0)) (hx,hy)) (fun x=>[(7,.int .i64 (Pg.inN n l (hx,hy) x)),(20,.int .i64 ((x:Nat):Int)),(19,.int .i64 ((n:Nat):Int)),(18,.slice p n cap),(3,.pointer (some ⟨b1,0,none⟩)),(0,.slice p n cap)]) (fun x=>[boxA b1 30 [.int .i64 hx,.int .i64 hy]]) (fun x=>[slF (rI2 .i64) p cap l]) (fun x:Nat=>n - x) 0 (show 0≤n∧∀w,w<0→¬Pg.onS (l.getD w (0,0)) (l.getD ((w+1)%n) (0,0)) (hx,hy) from by exact ⟨Nat.zero_le _,fun w h=>by omega⟩) ((.e rfl (by first|rfl|(congr 1;omega)|simp_all) (.e rfl (by first|rfl|(congr 1;omega)|simp_all) (.of rfl))):SubM _ _) (ho:=((.c (i:=0) rfl .n):PickO _ _ _)) ((.c (j:=0) rfl .n):SelR _ _ _) ?_
   rintro k hI
   replace hI:k≤n∧∀w,w<k→¬Pg.onS (l.getD w (0,0)) (l.getD ((w+1)%n) (0,0)) (hx,hy):=hI
   try dsimp only
   obtain ⟨hk,hall⟩:=hI
   refine zg<|za<|e_p (zaa rfl rfl)<|zh<|zd<|zg<|zG rfl (fun h2=> ?_) (fun h2=> ?_)
   ·
    have hm1:(k+1)%n<n:=Nat.mod_lt _ om
    have hg0:Pg.inR (l.getD k (0,0)):=Pg.Ok.gt hrng om
    have hg1:Pg.inR (l.getD ((k+1)%n) (0,0)):=Pg.Ok.gt hrng om
    have hi1:=Pg.inN_rng n l (hx,hy) k
    refine zt<|zd<|zg<|zv<|zg<|za<|e_mv rfl<|zY (x0:=(l.getD k (0,0))) 0 k rfl yj sz30 rfl rfl rfl cbs rfl rfl (gD (d:=(0,0)) om) (fun b3 o4 hok5=> ?_)
    obtain ⟨hok5x,hok5y⟩:=hok5
    replace hok5x:=zq.1 hok5x
    replace hok5y:=zq.1 hok5y
    refine e_ru (zA (j:=0) 0 ty30 rfl rfl rfl (.t2 .nil))<|zO rfl rfl (zp zr30 rfl) (fun b6=> ?_)
    refine e_p (zb rfl)<|zo 0 rfl rfl rfl rfl rfl sz30 rfl (.t2 .nil) .z<|zh<|zd<|zg<|za<|e_mv rfl<|e_mv rfl<|e_p (zI (z:=(((k+1):Nat):Int)) rfl rfl (w64 om))<|e_mv rfl<|e_p (zQ yj rfl)<|e_p (zya (z:=((((k+1)%n):Nat):Int)) rfl rfl om (remN om om))<|zY (x0:=(l.getD ((k+1)%n) (0,0))) 1 ((k+1)%n) rfl yj sz30 rfl rfl rfl cbs rfl rfl (gD (d:=(0,0)) om) (fun b7 o8 hok9=> ?_)
    obtain ⟨hok9x,hok9y⟩:=hok9
    replace hok9x:=zq.1 hok9x
    replace hok9y:=zq.1 hok9y
    refine e_ru (zA (j:=0) 0 ty30 rfl rfl rfl (.t2 .nil))<|zO rfl rfl (zp zr30 rfl) (fun b10=> ?_)
    refine zo 0 rfl rfl rfl rfl rfl sz30 rfl (.t2 .nil) .z<|zh<|zd<|zg<|zg<|za<|e_ru (zc 1 ty30 rfl rfl (.t2 .nil))<|e_ru (zc 0 ty30 rfl rfl (.t2 .nil))<|e_ru (zc 2 ty30 rfl rfl (.t2 .nil))<|zN rfl rfl (.c rfl (.c rfl (.c rfl .n))) ce50 (zac (ex:=(l.getD k (0,0)).1) (ey:=(l.getD k (0,0)).2) (fx:=(l.getD ((k+1)%n) (0,0)).1) (fy:=(l.getD ((k+1)%n) (0,0)).2) (gx:=hx) (gy:=hy) (hre:=cbo) (hrf:=cbo) (hrg:=cbo)) (.n)<|zh<|zd<|zG rfl (fun hon=> ?_) (fun hon=> ?_)
    ·
     refine zg<|za<|e_p (zb rfl)<|e_p (zb rfl)<|zh<|zd<|zK<|zi<|zm<|zi<|zi<|zm<|zi ?_
     obtain ⟨hv1,hv2⟩:=Pg.is_ok (q:=(hx,hy)) hz (by rw [hfar];decide)
     exact zAa yD () trivial (zk rfl) (zk rfl) (by rw [hv1,hv2,Pg.ins_on hn (i:=k) om hon]) (ho:=(.n:PickO _ _ _)) (.n:SelR _ _ _)
    ·
     refine zt<|zd<|zg<|zg<|za<|e_p (zf yr rfl sz3 rfl rfl)<|e_ru (ze 1 ty3 rfl rfl rfl)<|e_p (zf yr rfl sz3 rfl rfl)<|e_ru (ze 0 ty3 rfl rfl rfl)<|e_p (zBa rfl rfl)<|zh<|zd<|zG rfl (fun hsw=> ?_) (fun hsw=> ?_)
     ·
      refine za<|e_ru (zc 0 ty30 rfl rfl (.t2 .nil))<|e_ru (zc 1 ty30 rfl rfl (.t2 .nil))<|zo 1 rfl rfl rfl rfl rfl sz30 rfl (.t2 .nil) (.s .z)<|zo 0 rfl rfl rfl rfl rfl sz30 rfl (.t2 .nil) .z<|zh<|zd<|zFa (X:=Unit) (fun x=>True) (fun x=>[(62,.bool (decide ((((l.getD ((k+1)%n) (0,0)).2≤hy)∧(hy<(l.getD k (0,0)).2))∧(0<(Pg.crs (((l.getD ((k+1)%n) (0,0)).1),((l.getD ((k+1)%n) (0,0)).2)) (((l.getD k (0,0)).1),((l.getD k (0,0)).2)) (hx,hy)).sign)))),(7,.int .i64 (Pg.inN n l (hx,hy) k)),(20,.int .i64 ((k:Nat):Int)),(19,.int .i64 ((n:Nat):Int)),(18,.slice p n cap),(3,.pointer (some ⟨b1,0,none⟩)),(0,.slice p n cap)]) (fun x=>[boxA b10 30 [.int .i64 ((l.getD k (0,0)).1),.int .i64 ((l.getD k (0,0)).2)],boxA b6 30 [.int .i64 ((l.getD ((k+1)%n) (0,0)).1),.int .i64 ((l.getD ((k+1)%n) (0,0)).2)],boxA b1 30 [.int .i64 hx,.int .i64 hy]]) (fun x=>[atF b7 o8 [.int .i64 ((l.getD ((k+1)%n) (0,0)).1),.int .i64 ((l.getD ((k+1)%n) (0,0)).2)],atF b3 o4 [.int .i64 ((l.getD k (0,0)).1),.int .i64 ((l.getD k (0,0)).2)],slF (rI2 .i64) p cap l]) ?_ ?_
      ·
       refine za<|e_p (zf yr rfl sz3 rfl rfl)<|e_ru (ze 1 ty3 rfl rfl rfl)<|e_p (zf yr rfl sz3 rfl rfl)<|e_ru (ze 2 ty3 rfl rfl rfl)<|e_p (zJa rfl rfl)<|zW rfl rfl (zV rfl) (fun h11=> ?_) (fun h11=> ?_)
       ·
        refine e_p (zf yr rfl sz3 rfl rfl)<|e_ru (ze 2 ty3 rfl rfl rfl)<|e_p (zf yr rfl sz3 rfl rfl)<|e_ru (ze 0 ty3 rfl rfl rfl)<|e_p (zaa rfl rfl)<|e_p (zl rfl rfl)<|zW rfl rfl (zV rfl) (fun h12=> ?_) (fun h12=> ?_)
        ·
         refine e_ru (zc 1 ty30 rfl rfl (.t2 .nil))<|e_ru (zc 0 ty30 rfl rfl (.t2 .nil))<|e_ru (zc 2 ty30 rfl rfl (.t2 .nil))<|zN rfl rfl (.c rfl (.c rfl (.c rfl .n))) ce54 (zYa (ex:=(l.getD ((k+1)%n) (0,0)).1) (ey:=(l.getD ((k+1)%n) (0,0)).2) (fx:=(l.getD k (0,0)).1) (fy:=(l.getD k (0,0)).2) (gx:=hx) (gy:=hy) (hre:=cbo) (hrf:=cbo) (hrg:=cbo)) (.n)<|e_p (zBa rfl rfl)<|e_p (zl rfl rfl)<|zh ?_
         exact zea () (show True from by first|trivial|omega|simp_all) ((.e rfl (congrArg Value.bool cbu) (.of rfl)):SubM _ _) (ho:=((.of [0,0,0] rfl):PickO _ _ _)) ((.of [0,1,2] rfl):SelR _ _ _)
        ·
         refine e_no<|e_no<|e_no<|e_no<|e_no<|e_p (zl rfl rfl)<|zh ?_
         exact zea () (show True from by first|trivial|omega|simp_all) ((.e rfl (congrArg Value.bool cbu) (.of rfl)):SubM _ _) (ho:=((.of [0,0,0] rfl):PickO _ _ _)) ((.of [0,1,2] rfl):SelR _ _ _)
       ·
        refine e_no<|e_no<|e_no<|e_no<|e_no<|e_p (zl rfl rfl)<|e_mv rfl<|e_no<|e_no<|e_no<|e_no<|e_no<|e_p (zl rfl rfl)<|zh ?_
        exact zea () (show True from by first|trivial|omega|simp_all) ((.e rfl (congrArg Value.bool cbu) (.of rfl)):SubM _ _) (ho:=((.of [0,0,0] rfl):PickO _ _ _)) ((.of [0,1,2] rfl):SelR _ _ _)
      ·
       rintro ⟨⟩ -
       try dsimp only
       refine zG rfl (fun hhit=> ?_) (fun hhit=> ?_)
       ·
        refine za<|e_mv rfl<|e_p (zwd (z:=(-(Pg.inN n l (hx,hy) k))) rfl (w64 om))<|e_p (zb rfl)<|zh<|zP<|zd<|za<|e_p (zI (z:=(((k+1):Nat):Int)) rfl rfl (w64 om))<|e_mv rfl<|zh<|zha (k+1) (show (k+1)≤n∧∀w,w<(k+1)→¬Pg.onS (l.getD w (0,0)) (l.getD ((w+1)%n) (0,0)) (hx,hy) from by exact ⟨by omega,Ms.all_lt_succ hall hon⟩) (by show n - (k+1)<n - k;omega) ((.e rfl (by rw [Pg.inN_hit ((Pg.hit_sw hsw).2 ⟨hhit.1.1,hhit.1.2,hhit.2⟩)]) (.of rfl)):SubM _ _) (ho:=((.c (i:=2) rfl .n):PickO _ _ _)) ((.c (j:=2) rfl .n):SelR _ _ _)
       ·
        refine zt<|zP<|zd<|za<|e_p (zI (z:=(((k+1):Nat):Int)) rfl rfl (w64 om))<|e_mv rfl<|zh<|zha (k+1) (show (k+1)≤n∧∀w,w<(k+1)→¬Pg.onS (l.getD w (0,0)) (l.getD ((w+1)%n) (0,0)) (hx,hy) from by exact ⟨by omega,Ms.all_lt_succ hall hon⟩) (by show n - (k+1)<n - k;omega) ((.e rfl (by rw [Pg.inN_not (fun h=>hhit (by have h2:=(Pg.hit_sw hsw).1 h;exact ⟨⟨h2.1,h2.2.1⟩,h2.2.2⟩))]) (.of rfl)):SubM _ _) (ho:=((.c (i:=2) rfl .n):PickO _ _ _)) ((.c (j:=2) rfl .n):SelR _ _ _)
     ·
      refine zt<|zd<|zFa (X:=Unit) (fun x=>True) (fun x=>[(62,.bool (decide ((((l.getD k (0,0)).2≤hy)∧(hy<(l.getD ((k+1)%n) (0,0)).2))∧(0<(Pg.crs (((l.getD k (0,0)).1),((l.getD k (0,0)).2)) (((l.getD ((k+1)%n) (0,0)).1),((l.getD ((k+1)%n) (0,0)).2)) (hx,hy)).sign)))),(7,.int .i64 (Pg.inN n l (hx,hy) k)),(20,.int .i64 ((k:Nat):Int)),(19,.int .i64 ((n:Nat):Int)),(18,.slice p n cap),(3,.pointer (some ⟨b1,0,none⟩)),(0,.slice p n cap)]) (fun x=>[boxA b10 30 [.int .i64 ((l.getD ((k+1)%n) (0,0)).1),.int .i64 ((l.getD ((k+1)%n) (0,0)).2)],boxA b6 30 [.int .i64 ((l.getD k (0,0)).1),.int .i64 ((l.getD k (0,0)).2)],boxA b1 30 [.int .i64 hx,.int .i64 hy]]) (fun x=>[atF b7 o8 [.int .i64 ((l.getD ((k+1)%n) (0,0)).1),.int .i64 ((l.getD ((k+1)%n) (0,0)).2)],atF b3 o4 [.int .i64 ((l.getD k (0,0)).1),.int .i64 ((l.getD k (0,0)).2)],slF (rI2 .i64) p cap l]) ?_ ?_
      ·
       refine za<|e_p (zf yr rfl sz3 rfl rfl)<|e_ru (ze 1 ty3 rfl rfl rfl)<|e_p (zf yr rfl sz3 rfl rfl)<|e_ru (ze 2 ty3 rfl rfl rfl)<|e_p (zJa rfl rfl)<|zW rfl rfl (zV rfl) (fun h13=> ?_) (fun h13=> ?_)
       ·
        refine e_p (zf yr rfl sz3 rfl rfl)<|e_ru (ze 2 ty3 rfl rfl rfl)<|e_p (zf yr rfl sz3 rfl rfl)<|e_ru (ze 0 ty3 rfl rfl rfl)<|e_p (zaa rfl rfl)<|e_p (zl rfl rfl)<|zW rfl rfl (zV rfl) (fun h14=> ?_) (fun h14=> ?_)
        ·
         refine e_ru (zc 1 ty30 rfl rfl (.t2 .nil))<|e_ru (zc 0 ty30 rfl rfl (.t2 .nil))<|e_ru (zc 2 ty30 rfl rfl (.t2 .nil))<|zN rfl rfl (.c rfl (.c rfl (.c rfl .n))) ce54 (zYa (ex:=(l.getD k (0,0)).1) (ey:=(l.getD k (0,0)).2) (fx:=(l.getD ((k+1)%n) (0,0)).1) (fy:=(l.getD ((k+1)%n) (0,0)).2) (gx:=hx) (gy:=hy) (hre:=cbo) (hrf:=cbo) (hrg:=cbo)) (.n)<|e_p (zBa rfl rfl)<|e_p (zl rfl rfl)<|zh ?_
         exact zea () (show True from by first|trivial|omega|simp_all) ((.e rfl (congrArg Value.bool cbu) (.of rfl)):SubM _ _) (ho:=((.of [0,0,0] rfl):PickO _ _ _)) ((.of [0,1,2] rfl):SelR _ _ _)
        ·
         refine e_no<|e_no<|e_no<|e_no<|e_no<|e_p (zl rfl rfl)<|zh ?_
         exact zea () (show True from by first|trivial|omega|simp_all) ((.e rfl (congrArg Value.bool cbu) (.of rfl)):SubM _ _) (ho:=((.of [0,0,0] rfl):PickO _ _ _)) ((.of [0,1,2] rfl):SelR _ _ _)
       ·
        refine e_no<|e_no<|e_no<|e_no<|e_no<|e_p (zl rfl rfl)<|e_mv rfl<|e_no<|e_no<|e_no<|e_no<|e_no<|e_p (zl rfl rfl)<|zh ?_
        exact zea () (show True from by first|trivial|omega|simp_all) ((.e rfl (congrArg Value.bool cbu) (.of rfl)):SubM _ _) (ho:=((.of [0,0,0] rfl):PickO _ _ _)) ((.of [0,1,2] rfl):SelR _ _ _)
      ·
       rintro ⟨⟩ -
       try dsimp only
       refine zG rfl (fun hhit=> ?_) (fun hhit=> ?_)
       ·
        refine za<|e_mv rfl<|e_p (zwd (z:=(-(Pg.inN n l (hx,hy) k))) rfl (w64 om))<|e_p (zb rfl)<|zh<|zP<|zd<|za<|e_p (zI (z:=(((k+1):Nat):Int)) rfl rfl (w64 om))<|e_mv rfl<|zh<|zha (k+1) (show (k+1)≤n∧∀w,w<(k+1)→¬Pg.onS (l.getD w (0,0)) (l.getD ((w+1)%n) (0,0)) (hx,hy) from by exact ⟨by omega,Ms.all_lt_succ hall hon⟩) (by show n - (k+1)<n - k;omega) ((.e rfl (by rw [Pg.inN_hit ((Pg.hit_no hsw).2 ⟨hhit.1.1,hhit.1.2,hhit.2⟩)]) (.of rfl)):SubM _ _) (ho:=((.c (i:=2) rfl .n):PickO _ _ _)) ((.c (j:=2) rfl .n):SelR _ _ _)
       ·
        refine zt<|zP<|zd<|za<|e_p (zI (z:=(((k+1):Nat):Int)) rfl rfl (w64 om))<|e_mv rfl<|zh<|zha (k+1) (show (k+1)≤n∧∀w,w<(k+1)→¬Pg.onS (l.getD w (0,0)) (l.getD ((w+1)%n) (0,0)) (hx,hy) from by exact ⟨by omega,Ms.all_lt_succ hall hon⟩) (by show n - (k+1)<n - k;omega) ((.e rfl (by rw [Pg.inN_not (fun h=>hhit (by have h2:=(Pg.hit_no hsw).1 h;exact ⟨⟨h2.1,h2.2.1⟩,h2.2.2⟩))]) (.of rfl)):SubM _ _) (ho:=((.c (i:=2) rfl .n):PickO _ _ _)) ((.c (j:=2) rfl .n):SelR _ _ _)
   ·
    refine zla<|zj<|zj<|zr<|zd<|zg<|za<|e_mv rfl<|e_p (zb rfl)<|e_p (zb rfl)<|zh<|zd<|zK ?_
    obtain ⟨hv1,hv2⟩:=Pg.is_ok (q:=(hx,hy)) hz (by rw [hfar];decide)
    exact zAa yD () trivial (zk rfl) (zk rfl) (by rw [hv1,hv2,Pg.ins_go hn (fun w hw=>hall w om),show k=n by omega]) (ho:=(.n:PickO _ _ _)) (.n:SelR _ _ _)
end Go.Proofs.YtjcpbhlijoigfaaGreat.Sp
namespace Go.Proofs.YtjcpbhlijoigfaaGreat.Sp
open Go
set_option linter.unusedVariables false
section
variable {P : Program} {c : Cx} {n : Sz} {Q : Exit → Act → World → Prop} {m : Fm} {O : List As} {R : List Fa} {α : Type} {d : Option Tmp} {ty : TypeId} {ps : String} {af : Array Edge} {gd : Option (Nat × Bool)}
theorem RowOn.drop {T:TypeId} {r:Rp α} {p:Option Addr} {cap:Nat} {l:List α} {g h:Hp} (k:Nat) (hk:k≤l.length) (s:RowOn T r p cap l g h):RowOn T r (newP p cap k r.sz) (cap - k) (l.drop k) g h:=by
  rcases s with ⟨h1,h2,h3,h4⟩|⟨b,off,cells,e1,e2,e3,e4,e5,e6⟩
  · subst h3; simp at hk; subst hk
    exact .inl ⟨by unfold newP;rw [h1];split <;> rfl,by omega,rfl,h4⟩
  · by_cases e : cap = k
    · refine .inr ⟨b, off, cells, by unfold newP; rw [if_pos e, e1], by rw [List.length_drop]; omega, by omega, ?_, e5, fun i x h => ?_⟩
      · rw [e,Nat.sub_self,Nat.zero_mul];omega
      · rw [List.getElem?_drop] at h
        have:=(List.getElem?_eq_some_iff.1 h).1;omega
    · refine .inr ⟨b, off + k * r.sz, cells, ?_, by rw [List.length_drop]; omega, by omega, ?_, e5, fun i x h => ?_⟩
      · unfold newP; rw [if_neg e, e1]
        by_cases z:k*r.sz=0
        · rw [z];simp [Addr.add]
        · simp [Addr.add,z]
      · have : (cap - k) * r.sz + k * r.sz = cap * r.sz := by rw [← Nat.add_mul]; congr 1; omega
        omega
      · rw [List.getElem?_drop] at h
        obtain ⟨γ,a1,a2⟩:=e6 (k+i) x h
        refine ⟨γ,⟨a1.1,fun j v hv=> ?_⟩,a2⟩
        have:=a1.2 j v hv
        rw [Nat.add_mul] at this
        rw [show off+k*r.sz+i*r.sz+j=off+(k*r.sz+i*r.sz)+j by omega];exact this
end
end Go.Proofs.YtjcpbhlijoigfaaGreat.Sp
namespace Go.Proofs.YtjcpbhlijoigfaaGreat.Sp
open Go
set_option linter.unusedVariables false
abbrev Tr:=Option Addr×Nat×Nat
section
variable {P : Program} {c : Cx} {n : Sz} {m : Fm} {O : List As} {R : List Fa} {α : Type} {r : Rp α} {Z : List Tr} {ls : List (List α)} {d : Option Tmp} {ty : TypeId} {ps : String} {af : Array Edge} {gd : Option (Nat × Bool)}
theorem zR {x:Operand} {b o:Nat} (h:evo m x=some (.pointer (some ⟨b,o,none⟩))):PV P n ⟨d,.nilCheck x,ty,ps,af,gd⟩ m (.pointer (some ⟨b,o,none⟩)):=fun a w f=>by
  simp [execOp,f.ev h]
end
end Go.Proofs.YtjcpbhlijoigfaaGreat.Sp
namespace Go.Proofs.YtjcpbhlijoigfaaGreat.Sp
open Go
set_option linter.unusedVariables false
abbrev nv (x:Nat):Value:= .int .i64 (x:Int)
def rgC (p:Option Addr) (n cap:Nat) (B N:List Nat) (k s:Int):List Value:= .slice p n cap :: (B.map nv++(N.map nv++[.int .i64 k,.int .i64 s]))
section
variable {P : Program} {n : Sz} {m : Fm} {d : Option Tmp} {ty : TypeId} {ps : String} {af : Array Edge} {gd : Option (Nat × Bool)}
theorem zka {s e:TypeId} {x ix:Operand} {b o len i:Nat} {kk:IntKind} (hu:P.underlying s=some (.array len e)) (ht:(P.info? e).map (·.size)=some 1)
    (h:evo m x=some (.pointer (some ⟨b,o,none⟩))) (hi:evo m ix=some (.int kk (i:Int))) (hl:i<len):PV P n ⟨d,.indexAddr s x ix,ty,ps,af,gd⟩ m (.pointer (some ⟨b,o+i,none⟩)):=zna hu ht h hi hl (by rw [Nat.mul_one])
end
section
variable {p : Option Addr} {n cap : Nat} {B N : List Nat} {k s : Int} {j x : Nat}
theorem rg_B (hB:B.length=64) (hN:N.length=64) (hj:j<64):(rgC p n cap B N k s)[1+j]? =some (nv (B.getD j 0)):=by
  unfold rgC
  rw [Nat.add_comm,List.getElem?_cons_succ,List.getElem?_append_left (by rw [List.length_map];omega),List.getElem?_map,List.getD_eq_getElem?_getD,List.getElem?_eq_getElem (by omega)]
  rfl
theorem rg_N (hB:B.length=64) (hN:N.length=64) (hj:j<64):(rgC p n cap B N k s)[65+j]? =some (nv (N.getD j 0)):=by
  unfold rgC
  rw [show 65+j=(64+j)+1 by omega,List.getElem?_cons_succ,List.getElem?_append_right (by rw [List.length_map];omega),List.length_map,hB,Nat.add_sub_cancel_left,List.getElem?_append_left (by rw [List.length_map];omega),List.getElem?_map,List.getD_eq_getElem?_getD,List.getElem?_eq_getElem (by omega)]
  rfl
theorem rg_k (hB:B.length=64) (hN:N.length=64):(rgC p n cap B N k s)[129]? =some (.int .i64 k):=by
  unfold rgC
  rw [List.getElem?_cons_succ,List.getElem?_append_right (by rw [List.length_map];omega),List.length_map,hB,List.getElem?_append_right (by rw [List.length_map];omega),List.length_map,hN]
  rfl
theorem rg_s (hB:B.length=64) (hN:N.length=64):(rgC p n cap B N k s)[130]? =some (.int .i64 s):=by
  unfold rgC
  rw [List.getElem?_cons_succ,List.getElem?_append_right (by rw [List.length_map];omega),List.length_map,hB,List.getElem?_append_right (by rw [List.length_map];omega),List.length_map,hN]
  rfl
theorem upd_set {l:List Value} {o:Nat} {v:Value} (h:o<l.length):Upd l o [v] (l.set o v):=by
  refine ⟨h,?_⟩
  rw [List.set_eq_take_append_cons_drop,if_pos h];simp
theorem rg_len (hB:B.length=64) (hN:N.length=64):(rgC p n cap B N k s).length=131:=by unfold rgC;simp [hB,hN]
theorem rg_setB (hB:B.length=64) (hN:N.length=64) (hj:j<64):Upd (rgC p n cap B N k s) (1+j) [nv x] (rgC p n cap (B.set j x) N k s):=by
  have h:=upd_set (l:=rgC p n cap B N k s) (o:=1+j) (v:=nv x) (by rw [rg_len hB hN];omega)
  have e:(rgC p n cap B N k s).set (1+j) (nv x)=rgC p n cap (B.set j x) N k s:=by
    unfold rgC
    rw [Nat.add_comm,List.set_cons_succ,List.set_append_left _ _ (by rw [List.length_map];omega),List.map_set]
  rwa [e] at h
theorem rg_setN (hB:B.length=64) (hN:N.length=64) (hj:j<64):Upd (rgC p n cap B N k s) (65+j) [nv x] (rgC p n cap B (N.set j x) k s):=by
  have h:=upd_set (l:=rgC p n cap B N k s) (o:=65+j) (v:=nv x) (by rw [rg_len hB hN];omega)
  have e:(rgC p n cap B N k s).set (65+j) (nv x)=rgC p n cap B (N.set j x) k s:=by
    unfold rgC
    rw [show 65+j=(64+j)+1 by omega,List.set_cons_succ,List.set_append_right _ _ (by rw [List.length_map];omega),List.length_map,hB,Nat.add_sub_cancel_left,List.set_append_left _ _ (by rw [List.length_map];omega),List.map_set]
  rwa [e] at h
theorem rg_setk {k':Int} (hB:B.length=64) (hN:N.length=64):Upd (rgC p n cap B N k s) 129 [.int .i64 k'] (rgC p n cap B N k' s):=by
  have h:=upd_set (l:=rgC p n cap B N k s) (o:=129) (v:= .int .i64 k') (by rw [rg_len hB hN];omega)
  have e:(rgC p n cap B N k s).set 129 (.int .i64 k')=rgC p n cap B N k' s:=by
    unfold rgC
    rw [List.set_cons_succ,List.set_append_right _ _ (by rw [List.length_map];omega),List.length_map,hB,List.set_append_right _ _ (by rw [List.length_map];omega),List.length_map,hN]
    rfl
  rwa [e] at h
end
theorem rgl {p:Prop} (h:p:=by first|assumption|(simp only [List.length_set];assumption)):p:=h
end Go.Proofs.YtjcpbhlijoigfaaGreat.Sp
namespace Go.Proofs.YtjcpbhlijoigfaaGreat.Sp
open Go
set_option linter.unusedVariables false
set_option maxRecDepth 100000
set_option maxHeartbeats 8000000
theorem zLe {b:Nat} {p:Option Addr} {n:Nat} {cap:Nat} {l:List Pg.P2} {B:List Nat} {N:List Nat} {kk:Int} {s:Int} {L:List Nat} {v:Nat} {i:Nat} (hn:l.length=n) (hg:Pg.Rg n L B N) (hrng:∀x∈l,Pg.inR x) (hs:s=1∨s= -1) (hi:i<L.length) (hv:Pg.nt L i=v):Con yl 82 [.pointer (some ⟨b,0,none⟩),.int .i64 ((v:Nat):Int)] [boxA b 98 (rgC p n cap B N kk s)] [slF (rI2 .i64) p cap l] (Y:=Unit) (fun y=>True) (fun y=> .int .i64 (Pg.corn l s L i)) (fun y=>[boxA b 98 (rgC p n cap B N kk s)]) (fun y=>[]):=by
 refine zn Tryz.func82 rfl rfl rfl (fun c=> ?_)
 show RunC _ _ _ _ _ [(0,.pointer (some ⟨b,0,none⟩)),(1,.int .i64 ((v:Nat):Int))] [boxA b 98 (rgC p n cap B N kk s)] [slF (rI2 .i64) p cap l]
 refine zia 0 rfl (fun hL0=> ?_)
 have hLB:=hg.lb
 have hLN:=hg.ln
 have hn64:=hg.n64
 obtain ⟨hvn,hvN,hvB,hvN2,hvB2⟩:=hg.at hi hv
 have hq0:Pg.inR (l.getD (B.getD v 0) (0,0)):=Pg.Ok.gt hrng om
 have hq1:Pg.inR (l.getD v (0,0)):=Pg.Ok.gt hrng om
 have hq2:Pg.inR (l.getD (N.getD v 0) (0,0)):=Pg.Ok.gt hrng om
 have hsm:=Pg.s_mul (z:=Pg.crs ((l.getD (B.getD v 0) (0,0)).1,(l.getD (B.getD v 0) (0,0)).2) ((l.getD v (0,0)).1,(l.getD v (0,0)).2) ((l.getD (N.getD v 0) (0,0)).1,(l.getD (N.getD v 0) (0,0)).2)) hs
 refine zg<|za<|e_p (zb rfl)<|zh<|zd<|zg<|zba (OW:=[]) (O:=[boxA b 98 (rgC p n cap B N kk s)]) 100000 mixed (.then .ret) kr<|e_dm 0 rfl rfl rfl<|e_pv 1 rfl rfl (zR rfl)<|e_pv 2 rfl rfl (zf yg rfl sz3 rfl rfl)<|e_u 3 rfl rfl (ze 0 ty3 rfl rfl (rg_s rgl rgl))<|e_dm 4 rfl rfl rfl<|e_pv 5 rfl rfl (zR rfl)<|e_pv 6 rfl rfl (zf yg rfl sz22 rfl rfl)<|e_u 7 rfl rfl (ze 0 ty22 rfl rfl rfl)<|e_dm 8 rfl rfl rfl<|e_dm 9 rfl rfl rfl<|e_pv 10 rfl rfl (zR rfl)<|e_pv 11 rfl rfl (zf yg rfl sz96 rfl rfl)<|e_pv 12 rfl rfl (zka (i:=v) yk sz3 rfl rfl om)<|e_u 13 rfl rfl (ze 0 ty3 rfl rfl (rg_B rgl rgl om))<|zca (x0:=(l.getD (B.getD v 0) (0,0))) 14 rfl rfl kr kr 0 (B.getD v 0) rfl yj sz30 rfl rfl rfl cbs rfl rfl (gD (d:=(0,0)) om) (fun b1 o2 hok3=> ?_)
 obtain ⟨hok3x,hok3y⟩:=hok3
 replace hok3x:=zq.1 hok3x
 replace hok3y:=zq.1 hok3y
 refine e_u 15 rfl rfl (zA (j:=0) 0 ty30 rfl rfl rfl (.t2 .nil))<|e_dm 16 rfl rfl rfl<|e_pv 17 rfl rfl (zR rfl)<|e_pv 18 rfl rfl (zf yg rfl sz22 rfl rfl)<|e_u 19 rfl rfl (ze 0 ty22 rfl rfl rfl)<|e_dm 20 rfl rfl rfl<|zca (x0:=(l.getD v (0,0))) 21 rfl rfl kr kr 1 v rfl yj sz30 rfl rfl rfl cbs rfl rfl (gD (d:=(0,0)) om) (fun b4 o5 hok6=> ?_)
 obtain ⟨hok6x,hok6y⟩:=hok6
 replace hok6x:=zq.1 hok6x
 replace hok6y:=zq.1 hok6y
 refine e_u 22 rfl rfl (zA (j:=0) 0 ty30 rfl rfl rfl (.t2 .nil))<|e_dm 23 rfl rfl rfl<|e_pv 24 rfl rfl (zR rfl)<|e_pv 25 rfl rfl (zf yg rfl sz22 rfl rfl)<|e_u 26 rfl rfl (ze 0 ty22 rfl rfl rfl)<|e_dm 27 rfl rfl rfl<|e_dm 28 rfl rfl rfl<|e_pv 29 rfl rfl (zR rfl)<|e_pv 30 rfl rfl (zf yg rfl sz96 rfl rfl)<|e_pv 31 rfl rfl (zka (i:=v) yk sz3 rfl rfl om)<|e_u 32 rfl rfl (ze 0 ty3 rfl rfl (rg_N rgl rgl om))<|zca (x0:=(l.getD (N.getD v 0) (0,0))) 33 rfl rfl kr kr 2 (N.getD v 0) rfl yj sz30 rfl rfl rfl cbs rfl rfl (gD (d:=(0,0)) om) (fun b7 o8 hok9=> ?_)
 obtain ⟨hok9x,hok9y⟩:=hok9
 replace hok9x:=zq.1 hok9x
 replace hok9y:=zq.1 hok9y
 refine e_u 34 rfl rfl (zA (j:=0) 0 ty30 rfl rfl rfl (.t2 .nil))<|e_one 35 (zwa rfl rfl rfl rfl (.c rfl (.c rfl (.c rfl .n))) ce54 (zYa (ex:=(l.getD (B.getD v 0) (0,0)).1) (ey:=(l.getD (B.getD v 0) (0,0)).2) (fx:=(l.getD v (0,0)).1) (fy:=(l.getD v (0,0)).2) (gx:=(l.getD (N.getD v 0) (0,0)).1) (gy:=(l.getD (N.getD v 0) (0,0)).2) (hre:=cbo) (hrf:=cbo) (hrg:=cbo)) (.n) ?_)
 refine e_pv 36 rfl rfl (zDa (z:=(s*(Pg.crs (((l.getD (B.getD v 0) (0,0)).1),((l.getD (B.getD v 0) (0,0)).2)) (((l.getD v (0,0)).1),((l.getD v (0,0)).2)) (((l.getD (N.getD v 0) (0,0)).1),((l.getD (N.getD v 0) (0,0)).2))).sign)) rfl rfl (w64 om))<|e_pv 37 rfl rfl (zb rfl)<|zX kr<|zd<|zK ?_
 exact zx Tryz.results82 () trivial (zk rfl) (congrArg (Value.int .i64) (by unfold Pg.corn Pg.gt;rw [hv,←hvN,←hvB])) (ho:=((.c (i:=0) rfl .n):PickO _ _ _)) (.n:SelR _ _ _)
theorem zwg {b:Nat} {p:Option Addr} {n:Nat} {cap:Nat} {l:List Pg.P2} {B:List Nat} {N:List Nat} {kk:Int} {s:Int} {L:List Nat} {v:Nat} {i:Nat} (hn:l.length=n) (hg:Pg.Rg n L B N) (hrng:∀x∈l,Pg.inR x) (hs:s=1∨s= -1) (hi:i<L.length) (hv:Pg.nt L i=v) (h2:2≤L.length) (hk0:0≤kk∧kk≤64):Con yl 78 [.pointer (some ⟨b,0,none⟩),.int .i64 ((v:Nat):Int)] [boxA b 98 (rgC p n cap B N kk s)] [slF (rI2 .i64) p cap l] (Y:=Unit) (fun y=>True) (fun y=> .tuple #[]) (fun y=>[boxA b 98 (rgC p n cap (Pg.cutB B N v) (Pg.cutN B N v) (kk - 1) s)]) (fun y=>[]):=by
 refine zn Tryz.func78 rfl rfl rfl (fun c=> ?_)
 show RunC _ _ _ _ _ [(0,.pointer (some ⟨b,0,none⟩)),(1,.int .i64 ((v:Nat):Int))] [boxA b 98 (rgC p n cap B N kk s)] [slF (rI2 .i64) p cap l]
 refine zia 0 rfl (fun hL0=> ?_)
 have hLB:=hg.lb
 have hLN:=hg.ln
 have hn64:=hg.n64
 obtain ⟨hvn,hvN,hvB,hvN2,hvB2⟩:=hg.at hi hv
 have hcv:(Pg.cutN B N v).getD v 0=N.getD v 0:=by have h9:=(hg.cut hi hv h2).ln;exact Pg.cutN_v hg hi hv h2
 have hcv2:(N.set (B.getD v 0) (N.getD v 0)).getD v 0=N.getD v 0:=hcv
 have hcv3:(N.set (B.getD v 0) (N.getD v 0)).getD v 0<64:=by omega
 refine zg<|zba (OW:=[boxA b 98 (rgC p n cap B N kk s)]) (O:=[]) 16 mixed (.then .ret) kr<|e_dm 0 rfl rfl rfl<|e_dm 1 rfl rfl rfl<|e_dm 2 rfl rfl rfl<|e_pv 3 rfl rfl (zR rfl)<|e_pv 4 rfl rfl (zf yg rfl sz96 rfl rfl)<|e_pv 5 rfl rfl (zka (i:=v) yk sz3 rfl rfl om)<|e_uw 6 rfl rfl (ze 0 ty3 rfl rfl (rg_B rgl rgl om))<|e_dm 7 rfl rfl rfl<|e_dm 8 rfl rfl rfl<|e_pv 9 rfl rfl (zR rfl)<|e_pv 10 rfl rfl (zf yg rfl sz96 rfl rfl)<|e_pv 11 rfl rfl (zka (i:=v) yk sz3 rfl rfl om)<|e_uw 12 rfl rfl (ze 0 ty3 rfl rfl (rg_N rgl rgl om))<|e_pv 13 rfl rfl (zR rfl)<|e_pv 14 rfl rfl (zf yg rfl sz96 rfl rfl)<|e_pv 15 rfl rfl (zka (i:=(B.getD v 0)) yk sz3 rfl rfl om)<|e_one 16 (zy kr rfl rfl rfl rfl rfl sz3 rfl (rg_setN (x:=(N.getD v 0)) rgl rgl om) ?_)
 refine zX kr<|zd<|zg<|zba (OW:=[boxA b 98 (rgC p n cap B (N.set (B.getD v 0) (N.getD v 0)) kk s)]) (O:=[]) 16 mixed (.then .ret) kr<|e_dm 0 rfl rfl rfl<|e_dm 1 rfl rfl rfl<|e_dm 2 rfl rfl rfl<|e_pv 3 rfl rfl (zR rfl)<|e_pv 4 rfl rfl (zf yg rfl sz96 rfl rfl)<|e_pv 5 rfl rfl (zka (i:=v) yk sz3 rfl rfl om)<|e_uw 6 rfl rfl (ze 0 ty3 rfl rfl (rg_N rgl rgl om))<|e_dm 7 rfl rfl rfl<|e_dm 8 rfl rfl rfl<|e_pv 9 rfl rfl (zR rfl)<|e_pv 10 rfl rfl (zf yg rfl sz96 rfl rfl)<|e_pv 11 rfl rfl (zka (i:=v) yk sz3 rfl rfl om)<|e_uw 12 rfl rfl (ze 0 ty3 rfl rfl (rg_B rgl rgl om))<|e_pv 13 rfl rfl (zR rfl)<|e_pv 14 rfl rfl (zf yg rfl sz96 rfl rfl)<|e_pv 15 rfl rfl (zka (i:=((N.set (B.getD v 0) (N.getD v 0)).getD v 0)) yk sz3 rfl rfl om)<|e_one 16 (zy kr rfl rfl rfl rfl rfl sz3 rfl (rg_setB (x:=(B.getD v 0)) rgl rgl om) ?_)
 refine zX kr<|zd<|za<|e_mv rfl<|e_p (zR rfl)<|e_p (zf yg rfl sz3 rfl rfl)<|e_ru (ze 0 ty3 rfl rfl (rg_k rgl rgl))<|e_p (zoa (z:=(kk - 1)) rfl rfl (w64 om))<|e_p (zR rfl)<|e_p (zf yg rfl sz3 rfl rfl)<|zo 0 rfl rfl rfl rfl rfl sz3 rfl (rg_setk rgl rgl) .z<|zh<|p_end ?_
 exact p_ret0 Tryz.results78 () trivial rfl (ho:=((.c (i:=0) rfl .n):PickO _ _ _)) (.n:SelR _ _ _)
theorem zxg {b:Nat} {p:Option Addr} {n:Nat} {cap:Nat} {l:List Pg.P2} {B:List Nat} {N:List Nat} {kk:Int} {s:Int} {L:List Nat} {v:Nat} {i:Nat} (hn:l.length=n) (hg:Pg.Rg n L B N) (hrng:∀x∈l,Pg.inR x) (hs:s=1∨s= -1) (hi:i<L.length) (hv:Pg.nt L i=v) (h3:3≤L.length):Con yl 77 [.pointer (some ⟨b,0,none⟩),.int .i64 ((v:Nat):Int)] [boxA b 98 (rgC p n cap B N kk s)] [slF (rI2 .i64) p cap l] (Y:=Unit) (fun y=>True) (fun y=> .bool (decide (Pg.earI l s L i))) (fun y=>[boxA b 98 (rgC p n cap B N kk s)]) (fun y=>[]):=by
 refine zn Tryz.func77 rfl rfl rfl (fun c=> ?_)
 show RunC _ _ _ _ _ [(0,.pointer (some ⟨b,0,none⟩)),(1,.int .i64 ((v:Nat):Int))] [boxA b 98 (rgC p n cap B N kk s)] [slF (rI2 .i64) p cap l]
 refine zia 0 rfl (fun hL0=> ?_)
 have hLB:=hg.lb
 have hLN:=hg.ln
 have hn64:=hg.n64
 obtain ⟨hvn,hvN,hvB,hvN2,hvB2⟩:=hg.at hi hv
 have hq0:Pg.inR (l.getD (B.getD v 0) (0,0)):=Pg.Ok.gt hrng om
 have hq1:Pg.inR (l.getD v (0,0)):=Pg.Ok.gt hrng om
 have hq2:Pg.inR (l.getD (N.getD v 0) (0,0)):=Pg.Ok.gt hrng om
 have hin3:∀t,Pg.in3I l s L i t↔Pg.in3 s (l.getD (B.getD v 0) (0,0)) (l.getD v (0,0)) (l.getD (N.getD v 0) (0,0)) (l.getD (Pg.nt L ((i+2+t)%L.length)) (0,0)):=fun t=>by unfold Pg.in3I Pg.gt;rw [hv,←hvN,←hvB]
 refine zg<|za<|e_p (zb rfl)<|zh<|zd<|zg<|zg<|za<|e_mv rfl<|e_mv rfl<|zuc (A:=[boxA b 98 (rgC p n cap B N kk s)]) (F:=[]) (first:=[]) (cap:=[]) rfl rfl rfl (.c rfl (.c rfl .n)) ce82 (zLe (b:=b) (p:=p) (n:=n) (cap:=cap) (l:=l) (B:=B) (N:=N) (kk:=kk) (s:=s) (L:=L) (v:=v) (i:=i) (hn:=ass) (hg:=ass) (hrng:=ass) (hs:=ass) (hi:=ass) (hv:=ass)) (.c (j:=0) rfl .n) ?_
 rintro ⟨⟩ -
 dsimp only [aq,nq,cq]
 refine e_p (zJa rfl rfl)<|zh<|zd<|zG rfl (fun hco=> ?_) (fun hco=> ?_)
 ·
  refine zg<|za<|e_p (zb rfl)<|zh<|zd<|zK<|zi ?_
  exact zx Tryz.results77 () trivial (zk rfl) (congrArg Value.bool (decide_eq_false (fun h=>by have:=h.1;omega))) (ho:=((.c (i:=0) rfl .n):PickO _ _ _)) (.n:SelR _ _ _)
 ·
  refine zt<|zd<|zg<|zba (OW:=[]) (O:=[boxA b 98 (rgC p n cap B N kk s)]) 34 mixed (.then .ret) kr<|e_dm 0 rfl rfl rfl<|e_pv 1 rfl rfl (zR rfl)<|e_pv 2 rfl rfl (zf yg rfl sz22 rfl rfl)<|e_u 3 rfl rfl (ze 0 ty22 rfl rfl rfl)<|e_dm 4 rfl rfl rfl<|e_dm 5 rfl rfl rfl<|e_pv 6 rfl rfl (zR rfl)<|e_pv 7 rfl rfl (zf yg rfl sz96 rfl rfl)<|e_pv 8 rfl rfl (zka (i:=v) yk sz3 rfl rfl om)<|e_u 9 rfl rfl (ze 0 ty3 rfl rfl (rg_B rgl rgl om))<|zca (x0:=(l.getD (B.getD v 0) (0,0))) 10 rfl rfl kr kr 0 (B.getD v 0) rfl yj sz30 rfl rfl rfl cbs rfl rfl (gD (d:=(0,0)) om) (fun b1 o2 hok3=> ?_)
  obtain ⟨hok3x,hok3y⟩:=hok3
  replace hok3x:=zq.1 hok3x
  replace hok3y:=zq.1 hok3y
  refine e_u 11 rfl rfl (zA (j:=0) 0 ty30 rfl rfl rfl (.t2 .nil))<|e_dm 12 rfl rfl rfl<|e_pv 13 rfl rfl (zR rfl)<|e_pv 14 rfl rfl (zf yg rfl sz22 rfl rfl)<|e_u 15 rfl rfl (ze 0 ty22 rfl rfl rfl)<|e_dm 16 rfl rfl rfl<|zca (x0:=(l.getD v (0,0))) 17 rfl rfl kr kr 1 v rfl yj sz30 rfl rfl rfl cbs rfl rfl (gD (d:=(0,0)) om) (fun b4 o5 hok6=> ?_)
  obtain ⟨hok6x,hok6y⟩:=hok6
  replace hok6x:=zq.1 hok6x
  replace hok6y:=zq.1 hok6y
  refine e_u 18 rfl rfl (zA (j:=0) 0 ty30 rfl rfl rfl (.t2 .nil))<|e_dm 19 rfl rfl rfl<|e_pv 20 rfl rfl (zR rfl)<|e_pv 21 rfl rfl (zf yg rfl sz22 rfl rfl)<|e_u 22 rfl rfl (ze 0 ty22 rfl rfl rfl)<|e_dm 23 rfl rfl rfl<|e_dm 24 rfl rfl rfl<|e_pv 25 rfl rfl (zR rfl)<|e_pv 26 rfl rfl (zf yg rfl sz96 rfl rfl)<|e_pv 27 rfl rfl (zka (i:=v) yk sz3 rfl rfl om)<|e_u 28 rfl rfl (ze 0 ty3 rfl rfl (rg_N rgl rgl om))<|zca (x0:=(l.getD (N.getD v 0) (0,0))) 29 rfl rfl kr kr 2 (N.getD v 0) rfl yj sz30 rfl rfl rfl cbs rfl rfl (gD (d:=(0,0)) om) (fun b7 o8 hok9=> ?_)
  obtain ⟨hok9x,hok9y⟩:=hok9
  replace hok9x:=zq.1 hok9x
  replace hok9y:=zq.1 hok9y
  refine e_u 30 rfl rfl (zA (j:=0) 0 ty30 rfl rfl rfl (.t2 .nil))<|zdd (m':=[(44,.agg #[.int .i64 ((l.getD (N.getD v 0) (0,0)).1),.int .i64 ((l.getD (N.getD v 0) (0,0)).2)]),(32,.agg #[.int .i64 ((l.getD v (0,0)).1),.int .i64 ((l.getD v (0,0)).2)]),(25,.agg #[.int .i64 ((l.getD (B.getD v 0) (0,0)).1),.int .i64 ((l.getD (B.getD v 0) (0,0)).2)]),(4,.bool false),(0,.pointer (some ⟨b,0,none⟩)),(1,.int .i64 ((v:Nat):Int))]) (R':=[slF (rI2 .i64) p cap l]) ((.of rfl):SubM _ _) (List.Perm.refl _) (List.Perm.refl _) ((.c (j:=3) rfl .n):SelR _ _ _) ?_
  obtain ⟨qd1,hqd1⟩:∃z:Int,z=(l.getD (N.getD v 0) (0,0)).1:=⟨_,rfl⟩
  rw [← hqd1]
  obtain ⟨qd2,hqd2⟩:∃z:Int,z=(l.getD (N.getD v 0) (0,0)).2:=⟨_,rfl⟩
  rw [← hqd2]
  obtain ⟨qd3,hqd3⟩:∃z:Int,z=(l.getD (B.getD v 0) (0,0)).1:=⟨_,rfl⟩
  rw [← hqd3]
  obtain ⟨qd4,hqd4⟩:∃z:Int,z=(l.getD (B.getD v 0) (0,0)).2:=⟨_,rfl⟩
  rw [← hqd4]
  refine zva (X:=Nat×Nat×Nat) (k':=0) (L':=(lb 37 137438953471)) (fun (u31_1,u32_1,u33_1)=>([(7,.pointer (some ⟨u33_1,0,none⟩)),(6,.pointer (some ⟨u32_1,0,none⟩)),(5,.pointer (some ⟨u31_1,0,none⟩)),(4,.bool false),(0,.pointer (some ⟨b,0,none⟩)),(1,.int .i64 ((v:Nat):Int))],[boxA u33_1 30 [.int .i64 qd1,.int .i64 qd2],boxA u32_1 30 [.int .i64 ((l.getD v (0,0)).1),.int .i64 ((l.getD v (0,0)).2)],boxA u31_1 30 [.int .i64 qd3,.int .i64 qd4]],[boxA b 98 (rgC p n cap B N kk s)],[slF (rI2 .i64) p cap l])) ?_ (fun hD0=> ?_)
  ·
   rintro ⟨u31_1,u32_1,u33_1⟩
   dsimp only
   refine zX kr ?_
   subst hqd1 hqd2 hqd3 hqd4
   refine zd<|zg<|zg<|zba (OW:=[]) (O:=[boxA u33_1 30 [.int .i64 ((l.getD (N.getD v 0) (0,0)).1),.int .i64 ((l.getD (N.getD v 0) (0,0)).2)],boxA u32_1 30 [.int .i64 ((l.getD v (0,0)).1),.int .i64 ((l.getD v (0,0)).2)],boxA u31_1 30 [.int .i64 ((l.getD (B.getD v 0) (0,0)).1),.int .i64 ((l.getD (B.getD v 0) (0,0)).2)],boxA b 98 (rgC p n cap B N kk s)]) 100000 mixed (.then (.then .ret)) kr<|e_dm 0 rfl rfl rfl<|e_dm 1 rfl rfl rfl<|e_dm 2 rfl rfl rfl<|e_pv 3 rfl rfl (zR rfl)<|e_pv 4 rfl rfl (zf yg rfl sz96 rfl rfl)<|e_pv 5 rfl rfl (zka (i:=v) yk sz3 rfl rfl om)<|e_u 6 rfl rfl (ze 3 ty3 rfl rfl (rg_N rgl rgl om))<|e_pv 7 rfl rfl (zR rfl)<|e_pv 8 rfl rfl (zf yg rfl sz96 rfl rfl)<|e_pv 9 rfl rfl (zka (i:=(N.getD v 0)) yk sz3 rfl rfl om)<|e_u 10 rfl rfl (ze 3 ty3 rfl rfl (rg_N rgl rgl om))<|e_pv 11 rfl rfl (zb rfl)<|zX kr<|zd<|zv<|zqa (X:=Nat) (fun x:Nat=>x≤L.length - 3∧∀u,u<x→¬Pg.in3I l s L i u) (fun x=>[(8,.int .i64 (((Pg.nt L ((i+2+x)%L.length)):Nat):Int)),(7,.pointer (some ⟨u33_1,0,none⟩)),(6,.pointer (some ⟨u32_1,0,none⟩)),(5,.pointer (some ⟨u31_1,0,none⟩)),(0,.pointer (some ⟨b,0,none⟩)),(1,.int .i64 ((v:Nat):Int))]) (fun x=>[boxA u33_1 30 [.int .i64 ((l.getD (N.getD v 0) (0,0)).1),.int .i64 ((l.getD (N.getD v 0) (0,0)).2)],boxA u32_1 30 [.int .i64 ((l.getD v (0,0)).1),.int .i64 ((l.getD v (0,0)).2)],boxA u31_1 30 [.int .i64 ((l.getD (B.getD v 0) (0,0)).1),.int .i64 ((l.getD (B.getD v 0) (0,0)).2)],boxA b 98 (rgC p n cap B N kk s)]) (fun x=>[slF (rI2 .i64) p cap l]) (fun x:Nat=>L.length - 3 - x) 0 (show 0≤L.length - 3∧∀u,u<0→¬Pg.in3I l s L i u from by exact ⟨Nat.zero_le _,fun u h=>by omega⟩) ((.e rfl (by rw [hg.nx2 hi hv]) (.of rfl)):SubM _ _) (ho:=((.of [0,0,0,0] rfl):PickO _ _ _)) ((.c (j:=0) rfl .n):SelR _ _ _) ?_
   rintro t hI
   replace hI:t≤L.length - 3∧∀u,u<t→¬Pg.in3I l s L i u:=hI
   try dsimp only
   obtain ⟨ht,hall⟩:=hI
   refine zg<|zg<|za<|e_mv rfl<|e_mv rfl<|e_mv rfl<|e_p (zR rfl)<|e_p (zf yg rfl sz96 rfl rfl)<|e_p (zka (i:=v) yk sz3 rfl rfl om)<|e_ru (ze 3 ty3 rfl rfl (rg_B rgl rgl om))<|e_p (zQa rfl rfl)<|zh<|zd<|zG rfl (fun hst=> ?_) (fun hst=> ?_)
   ·
    have htl:t<L.length - 3:=by have h9:=Pg.stop_iff hg hi h3 ht;rw [← hvB] at h9;omega
    have hws:=hg.lt _ (Nat.mod_lt (i+2+t) (show 0<L.length by omega))
    have hwr:Pg.inR (l.getD (Pg.nt L ((i+2+t)%L.length)) (0,0)):=Pg.Ok.gt hrng om
    have hsm0:=Pg.s_mul (z:=Pg.crs ((l.getD (B.getD v 0) (0,0)).1,(l.getD (B.getD v 0) (0,0)).2) ((l.getD v (0,0)).1,(l.getD v (0,0)).2) ((l.getD (Pg.nt L ((i+2+t)%L.length)) (0,0)).1,(l.getD (Pg.nt L ((i+2+t)%L.length)) (0,0)).2)) hs
    have hsm1:=Pg.s_mul (z:=Pg.crs ((l.getD v (0,0)).1,(l.getD v (0,0)).2) ((l.getD (N.getD v 0) (0,0)).1,(l.getD (N.getD v 0) (0,0)).2) ((l.getD (Pg.nt L ((i+2+t)%L.length)) (0,0)).1,(l.getD (Pg.nt L ((i+2+t)%L.length)) (0,0)).2)) hs
    have hsm2:=Pg.s_mul (z:=Pg.crs ((l.getD (N.getD v 0) (0,0)).1,(l.getD (N.getD v 0) (0,0)).2) ((l.getD (B.getD v 0) (0,0)).1,(l.getD (B.getD v 0) (0,0)).2) ((l.getD (Pg.nt L ((i+2+t)%L.length)) (0,0)).1,(l.getD (Pg.nt L ((i+2+t)%L.length)) (0,0)).2)) hs
    refine zt<|zd<|zg<|zv<|zg<|za<|e_mv rfl<|e_p (zR rfl)<|e_p (zf yg rfl sz22 rfl rfl)<|e_ru (ze 3 ty22 rfl rfl rfl)<|e_mv rfl<|zY (x0:=(l.getD (Pg.nt L ((i+2+t)%L.length)) (0,0))) 0 (Pg.nt L ((i+2+t)%L.length)) rfl yj sz30 rfl rfl rfl cbs rfl rfl (gD (d:=(0,0)) om) (fun b10 o11 hok12=> ?_)
    obtain ⟨hok12x,hok12y⟩:=hok12
    replace hok12x:=zq.1 hok12x
    replace hok12y:=zq.1 hok12y
    refine e_ru (zA (j:=0) 0 ty30 rfl rfl rfl (.t2 .nil))<|zO rfl rfl (zp zr30 rfl) (fun b13=> ?_)
    refine zo 0 rfl rfl rfl rfl rfl sz30 rfl (.t2 .nil) .z<|zh<|zd<|zFa (X:=Unit) (fun x=>True) (fun x=>[(110,.bool (decide (((0≤(s*(Pg.crs (((l.getD (B.getD v 0) (0,0)).1),((l.getD (B.getD v 0) (0,0)).2)) (((l.getD v (0,0)).1),((l.getD v (0,0)).2)) (((l.getD (Pg.nt L ((i+2+t)%L.length)) (0,0)).1),((l.getD (Pg.nt L ((i+2+t)%L.length)) (0,0)).2))).sign))∧(0≤(s*(Pg.crs (((l.getD v (0,0)).1),((l.getD v (0,0)).2)) (((l.getD (N.getD v 0) (0,0)).1),((l.getD (N.getD v 0) (0,0)).2)) (((l.getD (Pg.nt L ((i+2+t)%L.length)) (0,0)).1),((l.getD (Pg.nt L ((i+2+t)%L.length)) (0,0)).2))).sign)))∧(0≤(s*(Pg.crs (((l.getD (N.getD v 0) (0,0)).1),((l.getD (N.getD v 0) (0,0)).2)) (((l.getD (B.getD v 0) (0,0)).1),((l.getD (B.getD v 0) (0,0)).2)) (((l.getD (Pg.nt L ((i+2+t)%L.length)) (0,0)).1),((l.getD (Pg.nt L ((i+2+t)%L.length)) (0,0)).2))).sign))))),(8,.int .i64 (((Pg.nt L ((i+2+t)%L.length)):Nat):Int)),(7,.pointer (some ⟨u33_1,0,none⟩)),(6,.pointer (some ⟨u32_1,0,none⟩)),(5,.pointer (some ⟨u31_1,0,none⟩)),(0,.pointer (some ⟨b,0,none⟩)),(1,.int .i64 ((v:Nat):Int))]) (fun x=>[boxA b13 30 [.int .i64 ((l.getD (Pg.nt L ((i+2+t)%L.length)) (0,0)).1),.int .i64 ((l.getD (Pg.nt L ((i+2+t)%L.length)) (0,0)).2)],boxA u33_1 30 [.int .i64 ((l.getD (N.getD v 0) (0,0)).1),.int .i64 ((l.getD (N.getD v 0) (0,0)).2)],boxA u32_1 30 [.int .i64 ((l.getD v (0,0)).1),.int .i64 ((l.getD v (0,0)).2)],boxA u31_1 30 [.int .i64 ((l.getD (B.getD v 0) (0,0)).1),.int .i64 ((l.getD (B.getD v 0) (0,0)).2)],boxA b 98 (rgC p n cap B N kk s)]) (fun x=>[atF b10 o11 [.int .i64 ((l.getD (Pg.nt L ((i+2+t)%L.length)) (0,0)).1),.int .i64 ((l.getD (Pg.nt L ((i+2+t)%L.length)) (0,0)).2)],slF (rI2 .i64) p cap l]) ?_ ?_
    ·
     refine zba (OW:=[]) (O:=[boxA b13 30 [.int .i64 ((l.getD (Pg.nt L ((i+2+t)%L.length)) (0,0)).1),.int .i64 ((l.getD (Pg.nt L ((i+2+t)%L.length)) (0,0)).2)],boxA u33_1 30 [.int .i64 ((l.getD (N.getD v 0) (0,0)).1),.int .i64 ((l.getD (N.getD v 0) (0,0)).2)],boxA u32_1 30 [.int .i64 ((l.getD v (0,0)).1),.int .i64 ((l.getD v (0,0)).2)],boxA u31_1 30 [.int .i64 ((l.getD (B.getD v 0) (0,0)).1),.int .i64 ((l.getD (B.getD v 0) (0,0)).2)],boxA b 98 (rgC p n cap B N kk s)]) 100000 mixed (.then (.block (.then (.then (.block (.then .ret)))))) kr<|e_dm 0 rfl rfl rfl<|e_pv 1 rfl rfl (zR rfl)<|e_pv 2 rfl rfl (zf yg rfl sz3 rfl rfl)<|e_u 3 rfl rfl (ze 4 ty3 rfl rfl (rg_s rgl rgl))<|e_u 4 rfl rfl (zc 3 ty30 rfl rfl (.t2 .nil))<|e_u 5 rfl rfl (zc 2 ty30 rfl rfl (.t2 .nil))<|e_u 6 rfl rfl (zc 0 ty30 rfl rfl (.t2 .nil))<|e_one 7 (zwa rfl rfl rfl rfl (.c rfl (.c rfl (.c rfl .n))) ce54 (zYa (ex:=((l.getD (B.getD v 0) (0,0)).1)) (ey:=((l.getD (B.getD v 0) (0,0)).2)) (fx:=(l.getD v (0,0)).1) (fy:=(l.getD v (0,0)).2) (gx:=(l.getD (Pg.nt L ((i+2+t)%L.length)) (0,0)).1) (gy:=(l.getD (Pg.nt L ((i+2+t)%L.length)) (0,0)).2) (hre:=cbo) (hrf:=cbo) (hrg:=cbo)) (.n) ?_)
     refine e_pv 8 rfl rfl (zDa (z:=(s*(Pg.crs (((l.getD (B.getD v 0) (0,0)).1),((l.getD (B.getD v 0) (0,0)).2)) (((l.getD v (0,0)).1),((l.getD v (0,0)).2)) (((l.getD (Pg.nt L ((i+2+t)%L.length)) (0,0)).1),((l.getD (Pg.nt L ((i+2+t)%L.length)) (0,0)).2))).sign)) rfl rfl (w64 om))<|e_pv 9 rfl rfl (zGa rfl rfl)<|znb 10 rfl rfl kr kr rfl rfl (zV rfl) (fun h14=> ?_) (fun h14=> ?_)
     ·
      refine e_dm 11 rfl rfl rfl<|e_pv 12 rfl rfl (zR rfl)<|e_pv 13 rfl rfl (zf yg rfl sz3 rfl rfl)<|e_u 14 rfl rfl (ze 4 ty3 rfl rfl (rg_s rgl rgl))<|e_u 15 rfl rfl (zc 2 ty30 rfl rfl (.t2 .nil))<|e_u 16 rfl rfl (zc 1 ty30 rfl rfl (.t2 .nil))<|e_u 17 rfl rfl (zc 0 ty30 rfl rfl (.t2 .nil))<|e_one 18 (zwa rfl rfl rfl rfl (.c rfl (.c rfl (.c rfl .n))) ce54 (zYa (ex:=(l.getD v (0,0)).1) (ey:=(l.getD v (0,0)).2) (fx:=((l.getD (N.getD v 0) (0,0)).1)) (fy:=((l.getD (N.getD v 0) (0,0)).2)) (gx:=(l.getD (Pg.nt L ((i+2+t)%L.length)) (0,0)).1) (gy:=(l.getD (Pg.nt L ((i+2+t)%L.length)) (0,0)).2) (hre:=cbo) (hrf:=cbo) (hrg:=cbo)) (.n) ?_)
      refine e_pv 19 rfl rfl (zDa (z:=(s*(Pg.crs (((l.getD v (0,0)).1),((l.getD v (0,0)).2)) (((l.getD (N.getD v 0) (0,0)).1),((l.getD (N.getD v 0) (0,0)).2)) (((l.getD (Pg.nt L ((i+2+t)%L.length)) (0,0)).1),((l.getD (Pg.nt L ((i+2+t)%L.length)) (0,0)).2))).sign)) rfl rfl (w64 om))<|e_pv 20 rfl rfl (zGa rfl rfl)<|e_pv 21 rfl rfl (zl rfl rfl)<|znb 22 rfl rfl kr kr rfl rfl (zV rfl) (fun h15=> ?_) (fun h15=> ?_)
      ·
       refine e_dm 23 rfl rfl rfl<|e_pv 24 rfl rfl (zR rfl)<|e_pv 25 rfl rfl (zf yg rfl sz3 rfl rfl)<|e_u 26 rfl rfl (ze 4 ty3 rfl rfl (rg_s rgl rgl))<|e_u 27 rfl rfl (zc 1 ty30 rfl rfl (.t2 .nil))<|e_u 28 rfl rfl (zc 3 ty30 rfl rfl (.t2 .nil))<|e_u 29 rfl rfl (zc 0 ty30 rfl rfl (.t2 .nil))<|e_one 30 (zwa rfl rfl rfl rfl (.c rfl (.c rfl (.c rfl .n))) ce54 (zYa (ex:=((l.getD (N.getD v 0) (0,0)).1)) (ey:=((l.getD (N.getD v 0) (0,0)).2)) (fx:=((l.getD (B.getD v 0) (0,0)).1)) (fy:=((l.getD (B.getD v 0) (0,0)).2)) (gx:=(l.getD (Pg.nt L ((i+2+t)%L.length)) (0,0)).1) (gy:=(l.getD (Pg.nt L ((i+2+t)%L.length)) (0,0)).2) (hre:=cbo) (hrf:=cbo) (hrg:=cbo)) (.n) ?_)
       refine e_pv 31 rfl rfl (zDa (z:=(s*(Pg.crs (((l.getD (N.getD v 0) (0,0)).1),((l.getD (N.getD v 0) (0,0)).2)) (((l.getD (B.getD v 0) (0,0)).1),((l.getD (B.getD v 0) (0,0)).2)) (((l.getD (Pg.nt L ((i+2+t)%L.length)) (0,0)).1),((l.getD (Pg.nt L ((i+2+t)%L.length)) (0,0)).2))).sign)) rfl rfl (w64 om))<|e_pv 32 rfl rfl (zGa rfl rfl)<|e_pv 33 rfl rfl (zl rfl rfl)<|zX kr ?_
       exact zea () (show True from by first|trivial|omega|simp_all) ((.e rfl (congrArg Value.bool cbu) (.of rfl)):SubM _ _) (ho:=((.of [0,0,0,0,0] rfl):PickO _ _ _)) ((.of [0,1] rfl):SelR _ _ _)
      ·
       refine e_skip 23 rfl rfl<|e_skip 24 rfl rfl<|e_skip 25 rfl rfl<|e_skip 26 rfl rfl<|e_skip 27 rfl rfl<|e_skip 28 rfl rfl<|e_skip 29 rfl rfl<|e_skip 30 rfl rfl<|e_skip 31 rfl rfl<|e_skip 32 rfl rfl<|e_pv 33 rfl rfl (zl rfl rfl)<|zX kr ?_
       exact zea () (show True from by first|trivial|omega|simp_all) ((.e rfl (congrArg Value.bool cbu) (.of rfl)):SubM _ _) (ho:=((.of [0,0,0,0,0] rfl):PickO _ _ _)) ((.of [0,1] rfl):SelR _ _ _)
     ·
      refine e_skip 11 rfl rfl<|e_skip 12 rfl rfl<|e_skip 13 rfl rfl<|e_skip 14 rfl rfl<|e_skip 15 rfl rfl<|e_skip 16 rfl rfl<|e_skip 17 rfl rfl<|e_skip 18 rfl rfl<|e_skip 19 rfl rfl<|e_skip 20 rfl rfl<|e_pv 21 rfl rfl (zl rfl rfl)<|e_dm 22 rfl rfl rfl<|e_skip 23 rfl rfl<|e_skip 24 rfl rfl<|e_skip 25 rfl rfl<|e_skip 26 rfl rfl<|e_skip 27 rfl rfl<|e_skip 28 rfl rfl<|e_skip 29 rfl rfl<|e_skip 30 rfl rfl<|e_skip 31 rfl rfl<|e_skip 32 rfl rfl<|e_pv 33 rfl rfl (zl rfl rfl)<|zX kr ?_
      exact zea () (show True from by first|trivial|omega|simp_all) ((.e rfl (congrArg Value.bool cbu) (.of rfl)):SubM _ _) (ho:=((.of [0,0,0,0,0] rfl):PickO _ _ _)) ((.of [0,1] rfl):SelR _ _ _)
    ·
     rintro ⟨⟩ -
     try dsimp only
     refine zG rfl (fun hin=> ?_) (fun hin=> ?_)
     ·
      refine zg<|za<|e_p (zb rfl)<|zh<|zd<|zK<|zm<|zi<|zi<|zm<|zi ?_
      exact zx Tryz.results77 () trivial (zk rfl) (congrArg Value.bool (decide_eq_false (fun h=>h.2 t htl ((hin3 t).2 ⟨hin.1.1,hin.1.2,hin.2⟩)))) (ho:=((.c (i:=4) rfl .n):PickO _ _ _)) (.n:SelR _ _ _)
     ·
      refine zt<|zP<|zd<|za<|e_mv rfl<|e_mv rfl<|e_p (zR rfl)<|e_p (zf yg rfl sz96 rfl rfl)<|e_p (zka (i:=(Pg.nt L ((i+2+t)%L.length))) yk sz3 rfl rfl om)<|e_ru (ze 4 ty3 rfl rfl (rg_N rgl rgl om))<|e_p (zb rfl)<|zh<|zha (t+1) (show (t+1)≤L.length - 3∧∀u,u<(t+1)→¬Pg.in3I l s L i u from by exact ⟨htl,Ms.all_lt_succ hall (fun h=>hin (by have h9:=(hin3 t).1 h;exact ⟨⟨h9.1,h9.2.1⟩,h9.2.2⟩))⟩) (by show L.length - 3 - (t+1)<L.length - 3 - t;omega) ((.e rfl (by rw [hg.nxm _ om];rfl) (.of rfl)):SubM _ _) (ho:=((.of [1,1,1,1] rfl):PickO _ _ _)) ((.c (j:=1) rfl .n):SelR _ _ _)
   ·
    have hte:t=L.length - 3:=by have h9:=Pg.stop_iff hg hi h3 ht;rw [← hvB] at h9;omega
    refine zla<|zj<|zj<|zr<|zd<|zg<|za<|e_p (zb rfl)<|zh<|zd<|zK ?_
    exact zx Tryz.results77 () trivial (zk rfl) (congrArg Value.bool (decide_eq_true ⟨by omega,fun u hu=>hall u om⟩)) (ho:=((.c (i:=3) rfl .n):PickO _ _ _)) (.n:SelR _ _ _)
  refine zva (X:=Nat×Nat×Nat) (k':=1) (L':=(lb 37 68719476735)) (fun (u31_1,u32_1,u33_1)=>([(7,.pointer (some ⟨u33_1,0,none⟩)),(6,.pointer (some ⟨u32_1,0,none⟩)),(5,.pointer (some ⟨u31_1,0,none⟩)),(44,.agg #[.int .i64 qd1,.int .i64 qd2]),(4,.bool false),(0,.pointer (some ⟨b,0,none⟩)),(1,.int .i64 ((v:Nat):Int))],[boxA u32_1 30 [.int .i64 ((l.getD v (0,0)).1),.int .i64 ((l.getD v (0,0)).2)],boxA u31_1 30 [.int .i64 qd3,.int .i64 qd4],boxA u33_1 30 [.int .i64 0,.int .i64 0]],[boxA b 98 (rgC p n cap B N kk s)],[slF (rI2 .i64) p cap l])) ?_ (fun hD1=> ?_)
  ·
   rintro ⟨u31_1,u32_1,u33_1⟩
   dsimp only
   refine zkb 36 kr ?_
   ·
    refine zNb (zga (i:=2) rfl)<|zy kr rfl rfl rfl rfl rfl sz30 rfl (.t2 .nil) ?_
    exact zda (hD0 (u31_1,u32_1,u33_1)) kr ((.of rfl):SubM _ _) .rfl .rfl ((.c (j:=0) rfl .n):SelR _ _ _)
  refine zva (X:=Nat×Nat×Nat) (k':=2) (L':=(lb 37 34359738367)) (fun (u31_1,u32_1,u33_1)=>([(7,.pointer (some ⟨u33_1,0,none⟩)),(6,.pointer (some ⟨u32_1,0,none⟩)),(5,.pointer (some ⟨u31_1,0,none⟩)),(44,.agg #[.int .i64 qd1,.int .i64 qd2]),(32,.agg #[.int .i64 ((l.getD v (0,0)).1),.int .i64 ((l.getD v (0,0)).2)]),(4,.bool false),(0,.pointer (some ⟨b,0,none⟩)),(1,.int .i64 ((v:Nat):Int))],[boxA u31_1 30 [.int .i64 qd3,.int .i64 qd4],boxA u33_1 30 [.int .i64 0,.int .i64 0],boxA u32_1 30 [.int .i64 0,.int .i64 0]],[boxA b 98 (rgC p n cap B N kk s)],[slF (rI2 .i64) p cap l])) ?_ (fun hD2=> ?_)
  ·
   rintro ⟨u31_1,u32_1,u33_1⟩
   dsimp only
   refine zkb 35 kr ?_
   ·
    refine zNb (zga (i:=2) rfl)<|zy kr rfl rfl rfl rfl rfl sz30 rfl (.t2 .nil) ?_
    exact zda (hD1 (u31_1,u32_1,u33_1)) kr ((.of rfl):SubM _ _) .rfl .rfl ((.c (j:=0) rfl .n):SelR _ _ _)
  refine zva (X:=Nat×Nat×Nat) (k':=3) (L':=(lb 37 17179869183)) (fun (u31_1,u32_1,u33_1)=>([(7,.pointer (some ⟨u33_1,0,none⟩)),(6,.pointer (some ⟨u32_1,0,none⟩)),(5,.pointer (some ⟨u31_1,0,none⟩)),(44,.agg #[.int .i64 qd1,.int .i64 qd2]),(32,.agg #[.int .i64 ((l.getD v (0,0)).1),.int .i64 ((l.getD v (0,0)).2)]),(25,.agg #[.int .i64 qd3,.int .i64 qd4]),(4,.bool false),(0,.pointer (some ⟨b,0,none⟩)),(1,.int .i64 ((v:Nat):Int))],[boxA u33_1 30 [.int .i64 0,.int .i64 0],boxA u32_1 30 [.int .i64 0,.int .i64 0],boxA u31_1 30 [.int .i64 0,.int .i64 0]],[boxA b 98 (rgC p n cap B N kk s)],[slF (rI2 .i64) p cap l])) ?_ (fun hD3=> ?_)
  ·
   rintro ⟨u31_1,u32_1,u33_1⟩
   dsimp only
   refine zkb 34 kr ?_
   ·
    refine zNb (zga (i:=2) rfl)<|zy kr rfl rfl rfl rfl rfl sz30 rfl (.t2 .nil) ?_
    exact zda (hD2 (u31_1,u32_1,u33_1)) kr ((.of rfl):SubM _ _) .rfl .rfl ((.c (j:=0) rfl .n):SelR _ _ _)
  refine zva (X:=Nat×Nat) (k':=4) (L':=(lb 37 8589934591)) (fun (u31_1,u32_1)=>([(6,.pointer (some ⟨u32_1,0,none⟩)),(5,.pointer (some ⟨u31_1,0,none⟩)),(44,.agg #[.int .i64 qd1,.int .i64 qd2]),(32,.agg #[.int .i64 ((l.getD v (0,0)).1),.int .i64 ((l.getD v (0,0)).2)]),(25,.agg #[.int .i64 qd3,.int .i64 qd4]),(4,.bool false),(0,.pointer (some ⟨b,0,none⟩)),(1,.int .i64 ((v:Nat):Int))],[boxA u32_1 30 [.int .i64 0,.int .i64 0],boxA u31_1 30 [.int .i64 0,.int .i64 0]],[boxA b 98 (rgC p n cap B N kk s)],[slF (rI2 .i64) p cap l])) ?_ (fun hD4=> ?_)
  ·
   rintro ⟨u31_1,u32_1⟩
   dsimp only
   refine zkb 33 kr ?_
   ·
    refine zua rfl rfl rfl rfl (zp zr30 rfl) (fun u33_1 _=> ?_)
    exact zda (hD3 (u31_1,u32_1,u33_1)) kr ((.of rfl):SubM _ _) .rfl .rfl ((.c (j:=0) rfl .n):SelR _ _ _)
  refine zva (X:=Nat×Nat) (k':=4) (L':=(lb 37 12884901887)) (fun (u31_1,u33_1)=>([(7,.pointer (some ⟨u33_1,0,none⟩)),(5,.pointer (some ⟨u31_1,0,none⟩)),(44,.agg #[.int .i64 qd1,.int .i64 qd2]),(32,.agg #[.int .i64 ((l.getD v (0,0)).1),.int .i64 ((l.getD v (0,0)).2)]),(25,.agg #[.int .i64 qd3,.int .i64 qd4]),(4,.bool false),(0,.pointer (some ⟨b,0,none⟩)),(1,.int .i64 ((v:Nat):Int))],[boxA u33_1 30 [.int .i64 0,.int .i64 0],boxA u31_1 30 [.int .i64 0,.int .i64 0]],[boxA b 98 (rgC p n cap B N kk s)],[slF (rI2 .i64) p cap l])) ?_ (fun hD5=> ?_)
  ·
   rintro ⟨u31_1,u33_1⟩
   dsimp only
   refine zkb 32 kr ?_
   ·
    refine zua rfl rfl rfl rfl (zp zr30 rfl) (fun u32_1 _=> ?_)
    exact zda (hD3 (u31_1,u32_1,u33_1)) kr ((.of rfl):SubM _ _) (zKa 1 rfl (zKa 0 rfl (zKa 0 rfl .nil))) .rfl ((.c (j:=0) rfl .n):SelR _ _ _)
  refine zva (X:=Nat×Nat) (k':=4) (L':=(lb 37 15032385535)) (fun (u32_1,u33_1)=>([(7,.pointer (some ⟨u33_1,0,none⟩)),(6,.pointer (some ⟨u32_1,0,none⟩)),(44,.agg #[.int .i64 qd1,.int .i64 qd2]),(32,.agg #[.int .i64 ((l.getD v (0,0)).1),.int .i64 ((l.getD v (0,0)).2)]),(25,.agg #[.int .i64 qd3,.int .i64 qd4]),(4,.bool false),(0,.pointer (some ⟨b,0,none⟩)),(1,.int .i64 ((v:Nat):Int))],[boxA u33_1 30 [.int .i64 0,.int .i64 0],boxA u32_1 30 [.int .i64 0,.int .i64 0]],[boxA b 98 (rgC p n cap B N kk s)],[slF (rI2 .i64) p cap l])) ?_ (fun hD6=> ?_)
  ·
   rintro ⟨u32_1,u33_1⟩
   dsimp only
   refine zkb 31 kr ?_
   ·
    refine zua rfl rfl rfl rfl (zp zr30 rfl) (fun u31_1 _=> ?_)
    exact zda (hD3 (u31_1,u32_1,u33_1)) kr ((.of rfl):SubM _ _) (zKa 1 rfl (zKa 1 rfl (zKa 0 rfl .nil))) .rfl ((.c (j:=0) rfl .n):SelR _ _ _)
  refine zva (X:=Nat) (k':=5) (L':=(lb 37 4294967295)) (fun u31_1=>([(5,.pointer (some ⟨u31_1,0,none⟩)),(44,.agg #[.int .i64 qd1,.int .i64 qd2]),(32,.agg #[.int .i64 ((l.getD v (0,0)).1),.int .i64 ((l.getD v (0,0)).2)]),(25,.agg #[.int .i64 qd3,.int .i64 qd4]),(4,.bool false),(0,.pointer (some ⟨b,0,none⟩)),(1,.int .i64 ((v:Nat):Int))],[boxA u31_1 30 [.int .i64 0,.int .i64 0]],[boxA b 98 (rgC p n cap B N kk s)],[slF (rI2 .i64) p cap l])) ?_ (fun hD7=> ?_)
  ·
   rintro u31_1
   dsimp only
   refine zZb 32 33 kr ?_ ?_
   ·
    refine zua rfl rfl rfl rfl (zp zr30 rfl) (fun u32_1 _=> ?_)
    exact zda (hD4 (u31_1,u32_1)) kr ((.of rfl):SubM _ _) .rfl .rfl ((.c (j:=0) rfl .n):SelR _ _ _)
   ·
    refine zua rfl rfl rfl rfl (zp zr30 rfl) (fun u33_1 _=> ?_)
    exact zda (hD5 (u31_1,u33_1)) kr ((.of rfl):SubM _ _) .rfl .rfl ((.c (j:=0) rfl .n):SelR _ _ _)
  refine zva (X:=Nat) (k':=5) (L':=(lb 37 6442450943)) (fun u32_1=>([(6,.pointer (some ⟨u32_1,0,none⟩)),(44,.agg #[.int .i64 qd1,.int .i64 qd2]),(32,.agg #[.int .i64 ((l.getD v (0,0)).1),.int .i64 ((l.getD v (0,0)).2)]),(25,.agg #[.int .i64 qd3,.int .i64 qd4]),(4,.bool false),(0,.pointer (some ⟨b,0,none⟩)),(1,.int .i64 ((v:Nat):Int))],[boxA u32_1 30 [.int .i64 0,.int .i64 0]],[boxA b 98 (rgC p n cap B N kk s)],[slF (rI2 .i64) p cap l])) ?_ (fun hD8=> ?_)
  ·
   rintro u32_1
   dsimp only
   refine zZb 31 33 kr ?_ ?_
   ·
    refine zua rfl rfl rfl rfl (zp zr30 rfl) (fun u31_1 _=> ?_)
    exact zda (hD4 (u31_1,u32_1)) kr ((.of rfl):SubM _ _) (zKa 1 rfl (zKa 0 rfl .nil)) .rfl ((.c (j:=0) rfl .n):SelR _ _ _)
   ·
    refine zua rfl rfl rfl rfl (zp zr30 rfl) (fun u33_1 _=> ?_)
    exact zda (hD6 (u32_1,u33_1)) kr ((.of rfl):SubM _ _) .rfl .rfl ((.c (j:=0) rfl .n):SelR _ _ _)
  refine zva (X:=Nat) (k':=5) (L':=(lb 37 10737418239)) (fun u33_1=>([(7,.pointer (some ⟨u33_1,0,none⟩)),(44,.agg #[.int .i64 qd1,.int .i64 qd2]),(32,.agg #[.int .i64 ((l.getD v (0,0)).1),.int .i64 ((l.getD v (0,0)).2)]),(25,.agg #[.int .i64 qd3,.int .i64 qd4]),(4,.bool false),(0,.pointer (some ⟨b,0,none⟩)),(1,.int .i64 ((v:Nat):Int))],[boxA u33_1 30 [.int .i64 0,.int .i64 0]],[boxA b 98 (rgC p n cap B N kk s)],[slF (rI2 .i64) p cap l])) ?_ (fun hD9=> ?_)
  ·
   rintro u33_1
   dsimp only
   refine zZb 31 32 kr ?_ ?_
   ·
    refine zua rfl rfl rfl rfl (zp zr30 rfl) (fun u31_1 _=> ?_)
    exact zda (hD5 (u31_1,u33_1)) kr ((.of rfl):SubM _ _) (zKa 1 rfl (zKa 0 rfl .nil)) .rfl ((.c (j:=0) rfl .n):SelR _ _ _)
   ·
    refine zua rfl rfl rfl rfl (zp zr30 rfl) (fun u32_1 _=> ?_)
    exact zda (hD6 (u32_1,u33_1)) kr ((.of rfl):SubM _ _) (zKa 1 rfl (zKa 0 rfl .nil)) .rfl ((.c (j:=0) rfl .n):SelR _ _ _)
  refine zmd 31 32 33 kr ?_ ?_ ?_
  ·
   refine zua rfl rfl rfl rfl (zp zr30 rfl) (fun u31_1 _=> ?_)
   exact zda (hD7 u31_1) kr ((.of rfl):SubM _ _) .rfl .rfl ((.c (j:=0) rfl .n):SelR _ _ _)
  ·
   refine zua rfl rfl rfl rfl (zp zr30 rfl) (fun u32_1 _=> ?_)
   exact zda (hD8 u32_1) kr ((.of rfl):SubM _ _) .rfl .rfl ((.c (j:=0) rfl .n):SelR _ _ _)
  ·
   refine zua rfl rfl rfl rfl (zp zr30 rfl) (fun u33_1 _=> ?_)
   exact zda (hD9 u33_1) kr ((.of rfl):SubM _ _) .rfl .rfl ((.c (j:=0) rfl .n):SelR _ _ _)
end Go.Proofs.YtjcpbhlijoigfaaGreat.Sp
namespace Go.Proofs.YtjcpbhlijoigfaaGreat.Sp
open Go
set_option linter.unusedVariables false
set_option maxRecDepth 100000
set_option maxHeartbeats 8000000
theorem zzf {z:Int}:Con yl 79 [.int .i64 z] [] [] (Y:=Unit) (fun y=>True) (fun y=> .bool true) (fun y=>[]) (fun y=>[]):=by
 refine zn Tryz.func79 rfl rfl rfl (fun c=> ?_)
 show RunC _ _ _ _ _ [(0,.int .i64 z)] [] []
 refine zg<|za<|e_p (zb rfl)<|zh<|zd<|zg<|za<|e_p (zb rfl)<|zh<|zd<|zK ?_
 exact zx Tryz.results79 () trivial (zk rfl) rfl (ho:=(.n:PickO _ _ _)) (.n:SelR _ _ _)
theorem zMe {b:Nat} {p:Option Addr} {n:Nat} {cap:Nat} {l:List Pg.P2} {B:List Nat} {N:List Nat} {kk:Int} {s:Int} {L:List Nat} {pb:Option Addr} {nb:Nat} {cb:Nat} {G:List Bool} (hn:l.length=n) (hg:Pg.Rg n L B N) (hrng:∀x∈l,Pg.inR x) (hs:s=1∨s= -1) (hG:Pg.Gn n L G) (hnb:G.length=nb) (h3:3≤L.length):Con yl 76 [.pointer (some ⟨b,0,none⟩),.slice pb nb cb,.func (.func 77) #[.pointer (some ⟨b,0,none⟩)] #[]] [boxA b 98 (rgC p n cap B N kk s),rowA 4 rB pb cb G] [slF (rI2 .i64) p cap l] (Y:=Int) (fun y=>Pg.Fst L (Pg.earI l s L) y) (fun y=> .int .i64 y) (fun y=>[boxA b 98 (rgC p n cap B N kk s),rowA 4 rB pb cb G]) (fun y=>[]):=by
 refine zn Tryz.func76 rfl rfl rfl (fun c=> ?_)
 show RunC _ _ _ _ _ [(0,.pointer (some ⟨b,0,none⟩)),(1,.slice pb nb cb),(2,.func (.func 77) #[.pointer (some ⟨b,0,none⟩)] #[])] [boxA b 98 (rgC p n cap B N kk s),rowA 4 rB pb cb G] [slF (rI2 .i64) p cap l]
 refine zia 0 rfl (fun hL0=> ?_)
 have hLB:=hg.lb
 have hLN:=hg.ln
 have hn64:=hg.n64
 have hGn:=hG.1
 refine zg<|za<|e_p (zb rfl)<|zh<|zd<|zg<|zg<|za<|e_mv rfl<|e_p (zR rfl)<|e_p (zf yg rfl sz22 rfl rfl)<|e_ru (ze 0 ty22 rfl rfl rfl)<|e_p (zQ yj rfl)<|e_mv rfl<|zh<|zd<|zv<|zqa (X:=Nat×Nat) (fun x:Nat×Nat=>Pg.Fs n L (Pg.earI l s L) x.1 x.2) (fun x=>[(13,.int .i64 ((x.1:Nat):Int)),(12,.int .i64 ((n:Nat):Int)),(1,.slice pb nb cb),(2,.func (.func 77) #[.pointer (some ⟨b,0,none⟩)] #[])]) (fun x=>[boxA b 98 (rgC p n cap B N kk s),rowA 4 rB pb cb G]) (fun x=>[slF (rI2 .i64) p cap l]) (fun x:Nat×Nat=>n - x.1) (0,0) (show Pg.Fs n L (Pg.earI l s L) 0 0 from by exact Pg.Fs.zero) ((.e rfl (by first|rfl|(congr 1;omega)|simp_all) (.of rfl)):SubM _ _) (ho:=((.of [0,0] rfl):PickO _ _ _)) ((.c (j:=0) rfl .n):SelR _ _ _) ?_
 rintro ⟨v,k⟩ hF
 replace hF:Pg.Fs n L (Pg.earI l s L) v k:=hF
 try dsimp only
 have hvn:=hF.vn
 refine zg<|za<|e_p (zaa rfl rfl)<|zh<|zd<|zg<|zG rfl (fun h1=> ?_) (fun h1=> ?_)
 ·
  refine zt<|zd<|zg<|zv<|zg<|za<|e_mv rfl<|e_p (zb rfl)<|zh<|zd<|zFa (X:=Unit) (fun x=>True) (fun x=>[(25,.bool (decide (((!(G.getD v false))=true)∧(Pg.earI l s L k)))),(7,.int .i64 ((v:Nat):Int)),(13,.int .i64 ((v:Nat):Int)),(12,.int .i64 ((n:Nat):Int)),(1,.slice pb nb cb),(2,.func (.func 77) #[.pointer (some ⟨b,0,none⟩)] #[])]) (fun x=>[boxA b 98 (rgC p n cap B N kk s),rowA 4 rB pb cb G]) (fun x=>[slF (rI2 .i64) p cap l]) ?_ ?_
  ·
   refine za<|e_mv rfl<|e_mv rfl<|e_ru (zfa 1 v rfl yz sz4 rfl (by first|rfl|simp_all|omega) rfl rfl om)<|r_vl rfl rfl (zZ 1 v rfl ty4 rfl rfl (gD (d:=false) om) rfl) (fun _ hok2=> ?_)
   refine e_p (zJb rfl)<|zre rfl rfl (zV rfl) (fun hgo=> ?_) (fun hgo=> ?_)
   ·
    refine e_mv rfl<|e_mv rfl<|zuc (A:=[boxA b 98 (rgC p n cap B N kk s)]) (F:=[rowA 4 rB pb cb G]) (first:=[.pointer (some ⟨b,0,none⟩)]) (cap:=[]) rfl rfl rfl (.c rfl .n) ce77 (zxg (b:=b) (p:=p) (n:=n) (cap:=cap) (l:=l) (B:=B) (N:=N) (kk:=kk) (s:=s) (L:=L) (v:=v) (i:=k) (hn:=ass) (hg:=ass) (hrng:=ass) (hs:=ass) (hi:=by first|rfl|assumption|omega|exact (hF.here hg hG om (by first|assumption|simp_all)).1|exact (hF.here hg hG om (by first|assumption|simp_all)).2) (hv:=by first|rfl|assumption|omega|exact (hF.here hg hG om (by first|assumption|simp_all)).1|exact (hF.here hg hG om (by first|assumption|simp_all)).2) (h3:=ass)) (.c (j:=0) rfl .n) ?_
    rintro ⟨⟩ -
    dsimp only [aq,nq,cq]
    refine e_p (zl rfl rfl)<|zh ?_
    exact zea () (show True from by first|trivial|omega|simp_all) ((.e rfl (congrArg Value.bool cbu) (.of rfl)):SubM _ _) (ho:=((.of [0,0] rfl):PickO _ _ _)) ((.c (j:=0) rfl .n):SelR _ _ _)
   ·
    refine e_no<|e_no<|e_no<|e_p (zl rfl rfl)<|zh ?_
    exact zea () (show True from by first|trivial|omega|simp_all) ((.e rfl (congrArg Value.bool cbu) (.of rfl)):SubM _ _) (ho:=((.of [0,0] rfl):PickO _ _ _)) ((.c (j:=0) rfl .n):SelR _ _ _)
  ·
   rintro ⟨⟩ -
   try dsimp only
   refine zG rfl (fun hear=> ?_) (fun hear=> ?_)
   ·
    refine zg<|za<|e_mv rfl<|e_p (zb rfl)<|zh<|zd<|zK<|zm<|zi<|zi<|zm<|zi ?_
    exact zx yE ((v:Nat):Int) (.inl ⟨k,(hF.here hg hG om (by first|assumption|simp_all)).1,by rw [(hF.here hg hG om (by first|assumption|simp_all)).2],hear.2,hF.no⟩) (zk rfl) rfl (ho:=((.of [0,0] rfl):PickO _ _ _)) (.n:SelR _ _ _)
   ·
    refine zt<|zP<|zd<|za<|e_p (zI (z:=(((v+1):Nat):Int)) rfl rfl (w64 om))<|e_mv rfl<|zh<|zha ((v+1),(if G.getD v false=true then k else k+1)) (show Pg.Fs n L (Pg.earI l s L) (v+1) (if G.getD v false=true then k else k+1) from by by_cases hgb:G.getD v false=true;(rw [if_pos hgb];exact hF.skip hG om hgb);(rw [if_neg hgb];exact hF.next hg om (hF.here hg hG om hgb) (fun h9=>hear (by first|exact ⟨by simpa using hgb,h9⟩|simpa using hgb)))) (by show n - (v+1)<n - v;omega) ((.of rfl):SubM _ _) (ho:=((.of [0,0] rfl):PickO _ _ _)) ((.c (j:=0) rfl .n):SelR _ _ _)
 ·
  refine zla<|zj<|zj<|zr<|zd<|zg<|za<|e_p (zb rfl)<|zh<|zd<|zK ?_
  exact zx yE (-1) (.inr ⟨rfl,Pg.Fs.fin (n:=n) (by have h9:v=n:=om;rw [h9] at hF;exact hF) hg⟩) (zk rfl) rfl (ho:=((.of [0,0] rfl):PickO _ _ _)) (.n:SelR _ _ _)
theorem zNe {b:Nat} {p:Option Addr} {n:Nat} {cap:Nat} {l:List Pg.P2} {B:List Nat} {N:List Nat} {kk:Int} {s:Int} {L:List Nat} {pb:Option Addr} {nb:Nat} {cb:Nat} {G:List Bool} (hn:l.length=n) (hg:Pg.Rg n L B N) (hrng:∀x∈l,Pg.inR x) (hs:s=1∨s= -1) (hG:Pg.Gn n L G) (hnb:G.length=nb) (h3:3≤L.length):Con yl 76 [.pointer (some ⟨b,0,none⟩),.slice pb nb cb,.func (.func 79) #[] #[]] [boxA b 98 (rgC p n cap B N kk s),rowA 4 rB pb cb G] [slF (rI2 .i64) p cap l] (Y:=Int) (fun y=>Pg.Fst L (fun _=>True) y) (fun y=> .int .i64 y) (fun y=>[boxA b 98 (rgC p n cap B N kk s),rowA 4 rB pb cb G]) (fun y=>[]):=by
 refine zn Tryz.func76 rfl rfl rfl (fun c=> ?_)
 show RunC _ _ _ _ _ [(0,.pointer (some ⟨b,0,none⟩)),(1,.slice pb nb cb),(2,.func (.func 79) #[] #[])] [boxA b 98 (rgC p n cap B N kk s),rowA 4 rB pb cb G] [slF (rI2 .i64) p cap l]
 refine zia 0 rfl (fun hL0=> ?_)
 have hLB:=hg.lb
 have hLN:=hg.ln
 have hn64:=hg.n64
 have hGn:=hG.1
 refine zg<|za<|e_p (zb rfl)<|zh<|zd<|zg<|zg<|za<|e_mv rfl<|e_p (zR rfl)<|e_p (zf yg rfl sz22 rfl rfl)<|e_ru (ze 0 ty22 rfl rfl rfl)<|e_p (zQ yj rfl)<|e_mv rfl<|zh<|zd<|zv<|zqa (X:=Nat×Nat) (fun x:Nat×Nat=>Pg.Fs n L (fun _=>True) x.1 x.2) (fun x=>[(13,.int .i64 ((x.1:Nat):Int)),(12,.int .i64 ((n:Nat):Int)),(1,.slice pb nb cb),(2,.func (.func 79) #[] #[])]) (fun x=>[boxA b 98 (rgC p n cap B N kk s),rowA 4 rB pb cb G]) (fun x=>[slF (rI2 .i64) p cap l]) (fun x:Nat×Nat=>n - x.1) (0,0) (show Pg.Fs n L (fun _=>True) 0 0 from by exact Pg.Fs.zero) ((.e rfl (by first|rfl|(congr 1;omega)|simp_all) (.of rfl)):SubM _ _) (ho:=((.of [0,0] rfl):PickO _ _ _)) ((.c (j:=0) rfl .n):SelR _ _ _) ?_
 rintro ⟨v,k⟩ hF
 replace hF:Pg.Fs n L (fun _=>True) v k:=hF
 try dsimp only
 have hvn:=hF.vn
 refine zg<|za<|e_p (zaa rfl rfl)<|zh<|zd<|zg<|zG rfl (fun h1=> ?_) (fun h1=> ?_)
 ·
  refine zt<|zd<|zg<|zv<|zg<|za<|e_mv rfl<|e_p (zb rfl)<|zh<|zd<|zFa (X:=Unit) (fun x=>True) (fun x=>[(25,.bool (decide (((!(G.getD v false))=true)∨False))),(7,.int .i64 ((v:Nat):Int)),(13,.int .i64 ((v:Nat):Int)),(12,.int .i64 ((n:Nat):Int)),(1,.slice pb nb cb),(2,.func (.func 79) #[] #[])]) (fun x=>[boxA b 98 (rgC p n cap B N kk s),rowA 4 rB pb cb G]) (fun x=>[slF (rI2 .i64) p cap l]) ?_ ?_
  ·
   refine za<|e_mv rfl<|e_mv rfl<|e_ru (zfa 1 v rfl yz sz4 rfl (by first|rfl|simp_all|omega) rfl rfl om)<|r_vl rfl rfl (zZ 1 v rfl ty4 rfl rfl (gD (d:=false) om) rfl) (fun _ hok2=> ?_)
   refine e_p (zJb rfl)<|zre rfl rfl (zV rfl) (fun hgo=> ?_) (fun hgo=> ?_)
   ·
    refine e_mv rfl<|e_mv rfl<|zBc (first:=[]) (cap:=[]) rfl rfl rfl (.c rfl .n) ce79 (zzf (z:=((v:Nat):Int))) (.n) ?_
    rintro ⟨⟩ -
    dsimp only [aq,nq,cq]
    refine e_p (zl rfl rfl)<|zh ?_
    exact zea () (show True from by first|trivial|omega|simp_all) ((.e rfl (congrArg Value.bool cbu) (.of rfl)):SubM _ _) (ho:=((.of [0,0] rfl):PickO _ _ _)) ((.c (j:=0) rfl .n):SelR _ _ _)
   ·
    refine e_no<|e_no<|e_no<|e_p (zl rfl rfl)<|zh ?_
    exact zea () (show True from by first|trivial|omega|simp_all) ((.e rfl (congrArg Value.bool cbu) (.of rfl)):SubM _ _) (ho:=((.of [0,0] rfl):PickO _ _ _)) ((.c (j:=0) rfl .n):SelR _ _ _)
  ·
   rintro ⟨⟩ -
   try dsimp only
   refine zG rfl (fun hear=> ?_) (fun hear=> ?_)
   ·
    refine zg<|za<|e_mv rfl<|e_p (zb rfl)<|zh<|zd<|zK<|zm<|zi<|zi<|zm<|zi ?_
    exact zx yE ((v:Nat):Int) (.inl ⟨k,(hF.here hg hG om (by first|assumption|simp_all)).1,by rw [(hF.here hg hG om (by first|assumption|simp_all)).2],trivial,hF.no⟩) (zk rfl) rfl (ho:=((.of [0,0] rfl):PickO _ _ _)) (.n:SelR _ _ _)
   ·
    refine zt<|zP<|zd<|za<|e_p (zI (z:=(((v+1):Nat):Int)) rfl rfl (w64 om))<|e_mv rfl<|zh<|zha ((v+1),(if G.getD v false=true then k else k+1)) (show Pg.Fs n L (fun _=>True) (v+1) (if G.getD v false=true then k else k+1) from by by_cases hgb:G.getD v false=true;(rw [if_pos hgb];exact hF.skip hG om hgb);(rw [if_neg hgb];exact hF.next hg om (hF.here hg hG om hgb) (fun h9=>hear (by first|exact ⟨by simpa using hgb,h9⟩|simpa using hgb)))) (by show n - (v+1)<n - v;omega) ((.of rfl):SubM _ _) (ho:=((.of [0,0] rfl):PickO _ _ _)) ((.c (j:=0) rfl .n):SelR _ _ _)
 ·
  refine zla<|zj<|zj<|zr<|zd<|zg<|za<|e_p (zb rfl)<|zh<|zd<|zK ?_
  exact zx yE (-1) (.inr ⟨rfl,Pg.Fs.fin (n:=n) (by have h9:v=n:=om;rw [h9] at hF;exact hF) hg⟩) (zk rfl) rfl (ho:=((.of [0,0] rfl):PickO _ _ _)) (.n:SelR _ _ _)
end Go.Proofs.YtjcpbhlijoigfaaGreat.Sp
namespace Go.Proofs.YtjcpbhlijoigfaaGreat.Sp
open Go
set_option maxRecDepth 100000
theorem zr98:Zero yl 98 (.agg #[.slice none 0 0,.int .i64 0,.int .i64 0,.int .i64 0,.int .i64 0,.int .i64 0,.int .i64 0,.int .i64 0,.int .i64 0,.int .i64 0,.int .i64 0,.int .i64 0,.int .i64 0,.int .i64 0,.int .i64 0,.int .i64 0,.int .i64 0,.int .i64 0,.int .i64 0,.int .i64 0,.int .i64 0,.int .i64 0,.int .i64 0,.int .i64 0,.int .i64 0,.int .i64 0,.int .i64 0,.int .i64 0,.int .i64 0,.int .i64 0,.int .i64 0,.int .i64 0,.int .i64 0,.int .i64 0,.int .i64 0,.int .i64 0,.int .i64 0,.int .i64 0,.int .i64 0,.int .i64 0,.int .i64 0,.int .i64 0,.int .i64 0,.int .i64 0,.int .i64 0,.int .i64 0,.int .i64 0,.int .i64 0,.int .i64 0,.int .i64 0,.int .i64 0,.int .i64 0,.int .i64 0,.int .i64 0,.int .i64 0,.int .i64 0,.int .i64 0,.int .i64 0,.int .i64 0,.int .i64 0,.int .i64 0,.int .i64 0,.int .i64 0,.int .i64 0,.int .i64 0,.int .i64 0,.int .i64 0,.int .i64 0,.int .i64 0,.int .i64 0,.int .i64 0,.int .i64 0,.int .i64 0,.int .i64 0,.int .i64 0,.int .i64 0,.int .i64 0,.int .i64 0,.int .i64 0,.int .i64 0,.int .i64 0,.int .i64 0,.int .i64 0,.int .i64 0,.int .i64 0,.int .i64 0,.int .i64 0,.int .i64 0,.int .i64 0,.int .i64 0,.int .i64 0,.int .i64 0,.int .i64 0,.int .i64 0,.int .i64 0,.int .i64 0,.int .i64 0,.int .i64 0,.int .i64 0,.int .i64 0,.int .i64 0,.int .i64 0,.int .i64 0,.int .i64 0,.int .i64 0,.int .i64 0,.int .i64 0,.int .i64 0,.int .i64 0,.int .i64 0,.int .i64 0,.int .i64 0,.int .i64 0,.int .i64 0,.int .i64 0,.int .i64 0,.int .i64 0,.int .i64 0,.int .i64 0,.int .i64 0,.int .i64 0,.int .i64 0,.int .i64 0,.int .i64 0,.int .i64 0,.int .i64 0,.int .i64 0,.int .i64 0,.int .i64 0,.int .i64 0,.int .i64 0]):=by unfold Zero;kernel_rfl
end Go.Proofs.YtjcpbhlijoigfaaGreat.Sp
namespace Go.Proofs.YtjcpbhlijoigfaaGreat.Sp
open Go
set_option linter.unusedVariables false
set_option maxRecDepth 100000
set_option maxHeartbeats 8000000
theorem zOc {p:Option Addr} {n:Nat} {cap:Nat} {l:List Pg.P2} (hn:l.length=n) (h64:n≤64) (hrng:∀x∈l,Pg.inR x):Con yl 75 [.slice p n cap] [] [slF (rI2 .i64) p cap l] (Y:=Nat×(List Nat)×(List Nat)) (fun y=>Pg.Rg n (List.range n) y.2.1 y.2.2) (fun y=> .pointer (some ⟨y.1,0,none⟩)) (fun y=>[boxA y.1 98 (rgC p n cap (y.2.1) (y.2.2) ((n:Nat):Int) (Pg.sg l))]) (fun y=>[]):=by
 refine zn Tryz.func75 rfl rfl rfl (fun c=> ?_)
 show RunC _ _ _ _ _ [(0,.slice p n cap)] [] [slF (rI2 .i64) p cap l]
 refine zia 0 rfl (fun hL0=> ?_)
 refine zg<|za<|e_p (zb rfl)<|zh<|zd<|zg<|za<|e_mv rfl<|e_mv rfl<|e_p (zQ yj rfl)<|e_p (zM zr98 rfl yg (.c sz22 (.c sz96 (.c sz96 (.c sz3 (.c sz3 .n))))) (.c rfl (.c rfl (.c rfl .n))) (.c rfl rfl rfl (.take .nil) (.c rfl rfl rfl (.s8 (.s8 (.s8 (.s8 (.s8 (.s8 (.s8 (.s8 (.s8 (.s8 (.s8 (.s8 (.s8 (.s8 (.s8 (.s8 (.skip (.take .nil)))))))))))))))))) (.c rfl rfl rfl (.s8 (.s8 (.s8 (.s8 (.s8 (.s8 (.s8 (.s8 (.s8 (.s8 (.s8 (.s8 (.s8 (.s8 (.s8 (.s8 (.s2 (.take .nil)))))))))))))))))) .n))))<|zO rfl rfl (zS rfl rfl) (fun b1=> ?_)
 refine e_p (zb rfl)<|zh<|zd<|zg<|zg<|za<|e_mv rfl<|zN rfl rfl (.c rfl .n) ce47 (zNc (p:=p) (n:=n) (cap:=cap) (l:=l) (hn:=ass) (h64:=ass) (hrng:=ass)) (.c (j:=0) rfl .n)<|e_p (zaa rfl rfl)<|zh<|zd<|zG rfl (fun hneg=> ?_) (fun hneg=> ?_)
 ·
  refine za<|e_mv rfl<|e_p (zR rfl)<|e_p (zf yg rfl sz3 rfl rfl)<|zo 0 rfl rfl rfl rfl rfl sz3 rfl (.s8 (.s8 (.s8 (.s8 (.s8 (.s8 (.s8 (.s8 (.s8 (.s8 (.s8 (.s8 (.s8 (.s8 (.s8 (.s8 (.s2 (.take .nil)))))))))))))))))) .z<|zh<|zd<|zg<|zg ?_
  change RunC _ _ _ _ _ [(15,.pointer (some ⟨b1,130,none⟩)),(14,.pointer (some ⟨b1,0,none⟩)),(13,.pointer (some ⟨b1,0,none⟩)),(12,.bool (decide (Pg.db l<0))),(11,.int .i64 (Pg.db l)),(10,.slice p n cap),(3,.pointer (some ⟨b1,0,none⟩)),(9,.pointer (some ⟨b1,0,none⟩)),(8,.agg #[.slice p n cap,.int .i64 0,.int .i64 0,.int .i64 0,.int .i64 0,.int .i64 0,.int .i64 0,.int .i64 0,.int .i64 0,.int .i64 0,.int .i64 0,.int .i64 0,.int .i64 0,.int .i64 0,.int .i64 0,.int .i64 0,.int .i64 0,.int .i64 0,.int .i64 0,.int .i64 0,.int .i64 0,.int .i64 0,.int .i64 0,.int .i64 0,.int .i64 0,.int .i64 0,.int .i64 0,.int .i64 0,.int .i64 0,.int .i64 0,.int .i64 0,.int .i64 0,.int .i64 0,.int .i64 0,.int .i64 0,.int .i64 0,.int .i64 0,.int .i64 0,.int .i64 0,.int .i64 0,.int .i64 0,.int .i64 0,.int .i64 0,.int .i64 0,.int .i64 0,.int .i64 0,.int .i64 0,.int .i64 0,.int .i64 0,.int .i64 0,.int .i64 0,.int .i64 0,.int .i64 0,.int .i64 0,.int .i64 0,.int .i64 0,.int .i64 0,.int .i64 0,.int .i64 0,.int .i64 0,.int .i64 0,.int .i64 0,.int .i64 0,.int .i64 0,.int .i64 0,.int .i64 0,.int .i64 0,.int .i64 0,.int .i64 0,.int .i64 0,.int .i64 0,.int .i64 0,.int .i64 0,.int .i64 0,.int .i64 0,.int .i64 0,.int .i64 0,.int .i64 0,.int .i64 0,.int .i64 0,.int .i64 0,.int .i64 0,.int .i64 0,.int .i64 0,.int .i64 0,.int .i64 0,.int .i64 0,.int .i64 0,.int .i64 0,.int .i64 0,.int .i64 0,.int .i64 0,.int .i64 0,.int .i64 0,.int .i64 0,.int .i64 0,.int .i64 0,.int .i64 0,.int .i64 0,.int .i64 0,.int .i64 0,.int .i64 0,.int .i64 0,.int .i64 0,.int .i64 0,.int .i64 0,.int .i64 0,.int .i64 0,.int .i64 0,.int .i64 0,.int .i64 0,.int .i64 0,.int .i64 0,.int .i64 0,.int .i64 0,.int .i64 0,.int .i64 0,.int .i64 0,.int .i64 0,.int .i64 0,.int .i64 0,.int .i64 0,.int .i64 0,.int .i64 0,.int .i64 0,.int .i64 0,.int .i64 0,.int .i64 0,.int .i64 0,.int .i64 ((n:Nat):Int),.int .i64 1]),(7,.int .i64 ((n:Nat):Int)),(6,.slice p n cap),(5,.slice p n cap),(2,.pointer none),(0,.slice p n cap)] [boxA b1 98 (rgC p n cap (List.replicate 64 0) (List.replicate 64 0) ((n:Nat):Int) (-1))] [slF (rI2 .i64) p cap l]
  have e2:(rgC p n cap (List.replicate 64 0) (List.replicate 64 0) ((n:Nat):Int) (-1))=(rgC p n cap (List.replicate 64 0) (List.replicate 64 0) ((n:Nat):Int) (Pg.sg l)):=by rw [Pg.sg_neg hneg]
  rw [e2]
  refine za<|e_mv rfl<|e_p (zQ yj rfl)<|e_mv rfl<|zh<|zd<|zv<|zqa (X:=Nat×(List Nat)×(List Nat)) (fun x:Nat×(List Nat)×(List Nat)=>x.1≤n∧x.2.1.length=64∧x.2.2.length=64∧∀u,u<x.1→x.2.1.getD u 0=(u+n - 1)%n∧x.2.2.getD u 0=(u+1)%n) (fun x=>[(18,.int .i64 ((x.1:Nat):Int)),(17,.int .i64 ((n:Nat):Int)),(3,.pointer (some ⟨b1,0,none⟩)),(2,.pointer none),(0,.slice p n cap)]) (fun x=>[boxA b1 98 (rgC p n cap (x.2.1) (x.2.2) ((n:Nat):Int) (Pg.sg l))]) (fun x=>[slF (rI2 .i64) p cap l]) (fun x:Nat×(List Nat)×(List Nat)=>n - x.1) (0,(List.replicate 64 0),(List.replicate 64 0)) (show 0≤n∧(List.replicate 64 0).length=64∧(List.replicate 64 0).length=64∧∀u,u<0→(List.replicate 64 0).getD u 0=(u+n - 1)%n∧(List.replicate 64 0).getD u 0=(u+1)%n from by exact ⟨Nat.zero_le _,List.length_replicate,List.length_replicate,fun u h=>by omega⟩) ((.e rfl (by first|rfl|(congr 1;omega)|simp_all) (.of rfl)):SubM _ _) (ho:=((.c (i:=0) rfl .n):PickO _ _ _)) ((.c (j:=0) rfl .n):SelR _ _ _) ?_
  rintro ⟨w,B,N⟩ hI
  replace hI:w≤n∧B.length=64∧N.length=64∧∀u,u<w→B.getD u 0=(u+n - 1)%n∧N.getD u 0=(u+1)%n:=hI
  try dsimp only
  obtain ⟨hw,hLB,hLN,hall⟩:=hI
  refine zg<|za<|e_p (zaa rfl rfl)<|zh<|zd<|zg<|zG rfl (fun h3=> ?_) (fun h3=> ?_)
  ·
   have hm0:0<n:=by omega
   have hm1:=Nat.mod_lt (w+n - 1) hm0
   have hm2:=Nat.mod_lt (w+1) hm0
   refine zt<|zd<|zg<|zv<|zg<|za<|e_mv rfl<|e_p (zb rfl)<|zh<|zd<|zg<|zba (OW:=[boxA b1 98 (rgC p n cap B N ((n:Nat):Int) (Pg.sg l))]) (O:=[]) 13 mixed (.then (.block (.then (.then (.block (.then .ret)))))) kr<|e_dm 0 rfl rfl rfl<|e_dm 1 rfl rfl rfl<|e_dm 2 rfl rfl rfl<|e_dm 3 rfl rfl rfl<|e_pv 4 rfl rfl (zQ yj rfl)<|e_pv 5 rfl rfl (zI (z:=(((w+n):Nat):Int)) rfl rfl (w64 om))<|e_pv 6 rfl rfl (zoa (z:=((((w+n):Nat):Int) - 1)) rfl rfl (w64 om)) ?_
   have e4:(((((w+n):Nat):Int) - 1):Int)=(((w+n - 1):Nat):Int):=by omega
   rw [e4]
   refine e_dm 7 rfl rfl rfl<|e_pv 8 rfl rfl (zQ yj rfl)<|e_pv 9 rfl rfl (zya (z:=((((w+n - 1)%n):Nat):Int)) rfl rfl om (remN om om))<|e_pv 10 rfl rfl (zR rfl)<|e_pv 11 rfl rfl (zf yg rfl sz96 rfl rfl)<|e_pv 12 rfl rfl (zka (i:=w) yk sz3 rfl rfl om)<|e_one 13 (zy kr rfl rfl rfl rfl rfl sz3 rfl (rg_setB (x:=((w+n - 1)%n)) rgl rgl om) ?_)
   refine zX kr<|zd<|zba (OW:=[boxA b1 98 (rgC p n cap (B.set w ((w+n - 1)%n)) N ((n:Nat):Int) (Pg.sg l))]) (O:=[]) 10 mixed (.block (.then (.then (.block (.then .ret))))) kr<|e_dm 0 rfl rfl rfl<|e_dm 1 rfl rfl rfl<|e_dm 2 rfl rfl rfl<|e_pv 3 rfl rfl (zI (z:=(((w+1):Nat):Int)) rfl rfl (w64 om))<|e_dm 4 rfl rfl rfl<|e_pv 5 rfl rfl (zQ yj rfl)<|e_pv 6 rfl rfl (zya (z:=((((w+1)%n):Nat):Int)) rfl rfl om (remN om om))<|e_pv 7 rfl rfl (zR rfl)<|e_pv 8 rfl rfl (zf yg rfl sz96 rfl rfl)<|e_pv 9 rfl rfl (zka (i:=w) yk sz3 rfl rfl om)<|e_one 10 (zy kr rfl rfl rfl rfl rfl sz3 rfl (rg_setN (x:=((w+1)%n)) rgl rgl om) ?_)
   refine zX kr<|zP<|zd<|za<|e_p (zI (z:=(((w+1):Nat):Int)) rfl rfl (w64 om))<|e_mv rfl<|zh<|zha ((w+1),(B.set w ((w+n - 1)%n)),(N.set w ((w+1)%n))) (show (w+1)≤n∧(B.set w ((w+n - 1)%n)).length=64∧(N.set w ((w+1)%n)).length=64∧∀u,u<(w+1)→(B.set w ((w+n - 1)%n)).getD u 0=(u+n - 1)%n∧(N.set w ((w+1)%n)).getD u 0=(u+1)%n from by refine ⟨by omega,by rw [List.length_set];exact hLB,by rw [List.length_set];exact hLN,fun u hu=> ?_⟩;rw [Pg.getD_set om,Pg.getD_set om];by_cases e:u=w;(rw [if_pos e,if_pos e,e];exact ⟨rfl,rfl⟩);(rw [if_neg e,if_neg e];exact hall u om)) (by show n - (w+1)<n - w;omega) ((.of rfl):SubM _ _) (ho:=((.c (i:=0) rfl .n):PickO _ _ _)) ((.c (j:=0) rfl .n):SelR _ _ _)
  ·
   refine zla<|zj<|zj<|zr<|zd<|zg<|za<|e_mv rfl<|e_p (zb rfl)<|zh<|zd<|zK ?_
   exact zx Tryz.results75 (b1,B,N) (Pg.Rg.mk0 h64 hLB hLN (fun u hu=>hall u om)) (zk rfl) rfl (ho:=((.c (i:=0) rfl .n):PickO _ _ _)) (.n:SelR _ _ _)
 ·
  refine zt<|zd<|zg<|zg ?_
  change RunC _ _ _ _ _ [(12,.bool (decide (Pg.db l<0))),(11,.int .i64 (Pg.db l)),(10,.slice p n cap),(3,.pointer (some ⟨b1,0,none⟩)),(9,.pointer (some ⟨b1,0,none⟩)),(8,.agg #[.slice p n cap,.int .i64 0,.int .i64 0,.int .i64 0,.int .i64 0,.int .i64 0,.int .i64 0,.int .i64 0,.int .i64 0,.int .i64 0,.int .i64 0,.int .i64 0,.int .i64 0,.int .i64 0,.int .i64 0,.int .i64 0,.int .i64 0,.int .i64 0,.int .i64 0,.int .i64 0,.int .i64 0,.int .i64 0,.int .i64 0,.int .i64 0,.int .i64 0,.int .i64 0,.int .i64 0,.int .i64 0,.int .i64 0,.int .i64 0,.int .i64 0,.int .i64 0,.int .i64 0,.int .i64 0,.int .i64 0,.int .i64 0,.int .i64 0,.int .i64 0,.int .i64 0,.int .i64 0,.int .i64 0,.int .i64 0,.int .i64 0,.int .i64 0,.int .i64 0,.int .i64 0,.int .i64 0,.int .i64 0,.int .i64 0,.int .i64 0,.int .i64 0,.int .i64 0,.int .i64 0,.int .i64 0,.int .i64 0,.int .i64 0,.int .i64 0,.int .i64 0,.int .i64 0,.int .i64 0,.int .i64 0,.int .i64 0,.int .i64 0,.int .i64 0,.int .i64 0,.int .i64 0,.int .i64 0,.int .i64 0,.int .i64 0,.int .i64 0,.int .i64 0,.int .i64 0,.int .i64 0,.int .i64 0,.int .i64 0,.int .i64 0,.int .i64 0,.int .i64 0,.int .i64 0,.int .i64 0,.int .i64 0,.int .i64 0,.int .i64 0,.int .i64 0,.int .i64 0,.int .i64 0,.int .i64 0,.int .i64 0,.int .i64 0,.int .i64 0,.int .i64 0,.int .i64 0,.int .i64 0,.int .i64 0,.int .i64 0,.int .i64 0,.int .i64 0,.int .i64 0,.int .i64 0,.int .i64 0,.int .i64 0,.int .i64 0,.int .i64 0,.int .i64 0,.int .i64 0,.int .i64 0,.int .i64 0,.int .i64 0,.int .i64 0,.int .i64 0,.int .i64 0,.int .i64 0,.int .i64 0,.int .i64 0,.int .i64 0,.int .i64 0,.int .i64 0,.int .i64 0,.int .i64 0,.int .i64 0,.int .i64 0,.int .i64 0,.int .i64 0,.int .i64 0,.int .i64 0,.int .i64 0,.int .i64 0,.int .i64 0,.int .i64 0,.int .i64 ((n:Nat):Int),.int .i64 1]),(7,.int .i64 ((n:Nat):Int)),(6,.slice p n cap),(5,.slice p n cap),(2,.pointer none),(0,.slice p n cap)] [boxA b1 98 (rgC p n cap (List.replicate 64 0) (List.replicate 64 0) ((n:Nat):Int) 1)] [slF (rI2 .i64) p cap l]
  have e5:(rgC p n cap (List.replicate 64 0) (List.replicate 64 0) ((n:Nat):Int) 1)=(rgC p n cap (List.replicate 64 0) (List.replicate 64 0) ((n:Nat):Int) (Pg.sg l)):=by rw [Pg.sg_pos hneg]
  rw [e5]
  refine za<|e_mv rfl<|e_p (zQ yj rfl)<|e_mv rfl<|zh<|zd<|zv<|zqa (X:=Nat×(List Nat)×(List Nat)) (fun x:Nat×(List Nat)×(List Nat)=>x.1≤n∧x.2.1.length=64∧x.2.2.length=64∧∀u,u<x.1→x.2.1.getD u 0=(u+n - 1)%n∧x.2.2.getD u 0=(u+1)%n) (fun x=>[(18,.int .i64 ((x.1:Nat):Int)),(17,.int .i64 ((n:Nat):Int)),(3,.pointer (some ⟨b1,0,none⟩)),(2,.pointer none),(0,.slice p n cap)]) (fun x=>[boxA b1 98 (rgC p n cap (x.2.1) (x.2.2) ((n:Nat):Int) (Pg.sg l))]) (fun x=>[slF (rI2 .i64) p cap l]) (fun x:Nat×(List Nat)×(List Nat)=>n - x.1) (0,(List.replicate 64 0),(List.replicate 64 0)) (show 0≤n∧(List.replicate 64 0).length=64∧(List.replicate 64 0).length=64∧∀u,u<0→(List.replicate 64 0).getD u 0=(u+n - 1)%n∧(List.replicate 64 0).getD u 0=(u+1)%n from by exact ⟨Nat.zero_le _,List.length_replicate,List.length_replicate,fun u h=>by omega⟩) ((.e rfl (by first|rfl|(congr 1;omega)|simp_all) (.of rfl)):SubM _ _) (ho:=((.c (i:=0) rfl .n):PickO _ _ _)) ((.c (j:=0) rfl .n):SelR _ _ _) ?_
  rintro ⟨w,B,N⟩ hI
  replace hI:w≤n∧B.length=64∧N.length=64∧∀u,u<w→B.getD u 0=(u+n - 1)%n∧N.getD u 0=(u+1)%n:=hI
  try dsimp only
  obtain ⟨hw,hLB,hLN,hall⟩:=hI
  refine zg<|za<|e_p (zaa rfl rfl)<|zh<|zd<|zg<|zG rfl (fun h6=> ?_) (fun h6=> ?_)
  ·
   have hm0:0<n:=by omega
   have hm1:=Nat.mod_lt (w+n - 1) hm0
   have hm2:=Nat.mod_lt (w+1) hm0
   refine zt<|zd<|zg<|zv<|zg<|za<|e_mv rfl<|e_p (zb rfl)<|zh<|zd<|zg<|zba (OW:=[boxA b1 98 (rgC p n cap B N ((n:Nat):Int) (Pg.sg l))]) (O:=[]) 13 mixed (.then (.block (.then (.then (.block (.then .ret)))))) kr<|e_dm 0 rfl rfl rfl<|e_dm 1 rfl rfl rfl<|e_dm 2 rfl rfl rfl<|e_dm 3 rfl rfl rfl<|e_pv 4 rfl rfl (zQ yj rfl)<|e_pv 5 rfl rfl (zI (z:=(((w+n):Nat):Int)) rfl rfl (w64 om))<|e_pv 6 rfl rfl (zoa (z:=((((w+n):Nat):Int) - 1)) rfl rfl (w64 om)) ?_
   have e7:(((((w+n):Nat):Int) - 1):Int)=(((w+n - 1):Nat):Int):=by omega
   rw [e7]
   refine e_dm 7 rfl rfl rfl<|e_pv 8 rfl rfl (zQ yj rfl)<|e_pv 9 rfl rfl (zya (z:=((((w+n - 1)%n):Nat):Int)) rfl rfl om (remN om om))<|e_pv 10 rfl rfl (zR rfl)<|e_pv 11 rfl rfl (zf yg rfl sz96 rfl rfl)<|e_pv 12 rfl rfl (zka (i:=w) yk sz3 rfl rfl om)<|e_one 13 (zy kr rfl rfl rfl rfl rfl sz3 rfl (rg_setB (x:=((w+n - 1)%n)) rgl rgl om) ?_)
   refine zX kr<|zd<|zba (OW:=[boxA b1 98 (rgC p n cap (B.set w ((w+n - 1)%n)) N ((n:Nat):Int) (Pg.sg l))]) (O:=[]) 10 mixed (.block (.then (.then (.block (.then .ret))))) kr<|e_dm 0 rfl rfl rfl<|e_dm 1 rfl rfl rfl<|e_dm 2 rfl rfl rfl<|e_pv 3 rfl rfl (zI (z:=(((w+1):Nat):Int)) rfl rfl (w64 om))<|e_dm 4 rfl rfl rfl<|e_pv 5 rfl rfl (zQ yj rfl)<|e_pv 6 rfl rfl (zya (z:=((((w+1)%n):Nat):Int)) rfl rfl om (remN om om))<|e_pv 7 rfl rfl (zR rfl)<|e_pv 8 rfl rfl (zf yg rfl sz96 rfl rfl)<|e_pv 9 rfl rfl (zka (i:=w) yk sz3 rfl rfl om)<|e_one 10 (zy kr rfl rfl rfl rfl rfl sz3 rfl (rg_setN (x:=((w+1)%n)) rgl rgl om) ?_)
   refine zX kr<|zP<|zd<|za<|e_p (zI (z:=(((w+1):Nat):Int)) rfl rfl (w64 om))<|e_mv rfl<|zh<|zha ((w+1),(B.set w ((w+n - 1)%n)),(N.set w ((w+1)%n))) (show (w+1)≤n∧(B.set w ((w+n - 1)%n)).length=64∧(N.set w ((w+1)%n)).length=64∧∀u,u<(w+1)→(B.set w ((w+n - 1)%n)).getD u 0=(u+n - 1)%n∧(N.set w ((w+1)%n)).getD u 0=(u+1)%n from by refine ⟨by omega,by rw [List.length_set];exact hLB,by rw [List.length_set];exact hLN,fun u hu=> ?_⟩;rw [Pg.getD_set om,Pg.getD_set om];by_cases e:u=w;(rw [if_pos e,if_pos e,e];exact ⟨rfl,rfl⟩);(rw [if_neg e,if_neg e];exact hall u om)) (by show n - (w+1)<n - w;omega) ((.of rfl):SubM _ _) (ho:=((.c (i:=0) rfl .n):PickO _ _ _)) ((.c (j:=0) rfl .n):SelR _ _ _)
  ·
   refine zla<|zj<|zj<|zr<|zd<|zg<|za<|e_mv rfl<|e_p (zb rfl)<|zh<|zd<|zK ?_
   exact zx Tryz.results75 (b1,B,N) (Pg.Rg.mk0 h64 hLB hLN (fun u hu=>hall u om)) (zk rfl) rfl (ho:=((.c (i:=0) rfl .n):PickO _ _ _)) (.n:SelR _ _ _)
theorem zve {p:Option Addr} {n:Nat} {cap:Nat} {l:List Pg.P2} (hn:l.length=n):Con yl 30 [.slice p n cap] [] [slF (rI2 .i64) p cap l] (Y:=(Option Addr)×Nat) (fun y=>True) (fun y=> .tuple #[.slice (y.1) ((Pg.erV l).length) (y.2),.int .i64 (Pg.erC l)]) (fun y=>[rowA 50 (rI3 .i64) (y.1) (y.2) (Pg.erV l)]) (fun y=>[]):=by
 refine zn Tryz.func30 rfl rfl rfl (fun c=> ?_)
 show RunC _ _ _ _ _ [(0,.slice p n cap)] [] [slF (rI2 .i64) p cap l]
 refine zia 0 rfl (fun hL0=> ?_)
 refine zg<|za<|e_p (zb rfl)<|e_p (zb rfl)<|zh<|zd<|zg<|zg<|za<|e_mv rfl<|zN rfl rfl (.c rfl .n) ce15 (zlc (p:=p) (n:=n) (cap:=cap) (l:=l) (hn:=ass)) (.c (j:=0) rfl .n)<|e_p (zb rfl)<|zh<|zd<|zg<|za<|e_mv rfl<|e_p (zQa rfl rfl)<|zh<|zd<|zG rfl (fun hbad=> ?_) (fun hbad=> ?_)
 ·
  obtain ⟨hv1,hv2⟩:=Pg.er_bad hbad
  refine zg<|zqb 50 (rI3 .i64) ?_
  have e1:([]:List Pg.T3)=(Pg.erV l):=by exact hv1.symm
  rw [e1]
  refine za<|e_mv rfl<|e_p (zb rfl)<|e_p (zb rfl)<|zh<|zd<|zK<|zi ?_
  exact zAa Tryz.results30 (none,0) trivial (zk rfl) (zk rfl) (by rw [hv1,hv2];rfl) (ho:=((.c (i:=0) rfl .n):PickO _ _ _)) (.n:SelR _ _ _)
 ·
  have hz:=Decidable.not_not.1 hbad
  have hok:=Pg.ok hz
  have hrng:=hok.rng
  have h64:n≤64:=by have:=hok.n64;omega
  have hn3:3≤n:=by have:=hok.n3;omega
  refine zt<|zd<|zg<|za<|e_mv rfl<|zJ rfl rfl (.c rfl .n) ce75 (zOc (p:=p) (n:=n) (cap:=cap) (l:=l) (hn:=ass) (h64:=by first|rfl|assumption|omega|exact hok.n64|exact hok.rng|exact hG.1|exact Pg.sg_rng l) (hrng:=by first|rfl|assumption|omega|exact hok.n64|exact hok.rng|exact hG.1|exact Pg.sg_rng l)) (.c (j:=0) rfl .n) ?_
  rintro ⟨b2,B3,N4⟩ hR0
  dsimp only [aq,nq,cq]
  replace hR0:Pg.Rg n (List.range n) B3 N4:=hR0
  refine e_p (zb rfl)<|zh<|zd<|zg<|za<|e_mv rfl<|e_p (zQ yj rfl)<|zIa rfl rfl (zwb (r:=rB) (k:=n) (x0:=false) (γ0:=()) yz inf4 rfl rfl rfl rfl om om rfl (fun g _=>by trivial) dd) (fun b5 _=> ?_)
  refine e_p (zb rfl)<|zh<|zd<|zg<|zqb 50 (rI3 .i64)<|za<|e_p (zb rfl)<|zh<|zd<|zg<|zv<|zqa (X:=(List Nat)×(List Nat)×(List Nat)×(List Bool)×(List Pg.T3)×(Option Addr)×Nat) (fun x:(List Nat)×(List Nat)×(List Nat)×(List Bool)×(List Pg.T3)×(Option Addr)×Nat=>Pg.Rg n x.1 x.2.1 x.2.2.1∧3≤x.1.length∧x.1.length≤64∧Pg.Gn n x.1 x.2.2.2.1∧Pg.ears l (Pg.sg l) (x.1.length - 3) x.1 x.2.2.2.2.1=Pg.earO l∧x.2.2.2.2.1.length+x.1.length=n) (fun x=>[(7,.slice (x.2.2.2.2.2.1) (x.2.2.2.2.1.length) (x.2.2.2.2.2.2)),(6,.slice (some ⟨b5,0,none⟩) n n),(5,.pointer (some ⟨b2,0,none⟩))]) (fun x=>[rowA 50 (rI3 .i64) (x.2.2.2.2.2.1) (x.2.2.2.2.2.2) (x.2.2.2.2.1),rowA 4 rB (some ⟨b5,0,none⟩) n (x.2.2.2.1),boxA b2 98 (rgC p n cap (x.2.1) (x.2.2.1) ((x.1.length:Nat):Int) (Pg.sg l))]) (fun x=>[slF (rI2 .i64) p cap l]) (fun x:(List Nat)×(List Nat)×(List Nat)×(List Bool)×(List Pg.T3)×(Option Addr)×Nat=>x.1.length) ((List.range n),B3,N4,(List.replicate n false),[],none,0) (show Pg.Rg n (List.range n) B3 N4∧3≤(List.range n).length∧(List.range n).length≤64∧Pg.Gn n (List.range n) (List.replicate n false)∧Pg.ears l (Pg.sg l) ((List.range n).length - 3) (List.range n) ([])=Pg.earO l∧([]).length+(List.range n).length=n from by exact ⟨hR0,by rw [List.length_range];exact hn3,by rw [List.length_range];exact h64,Pg.Gn.zero,by rw [List.length_range];unfold Pg.earO;rw [hn],by rw [List.length_range];exact Nat.zero_add n⟩) ((.e rfl (by first|rfl|(congr 1;omega)|simp_all) (.c rfl (.c rfl .n))):SubM _ _) (ho:=((.c (i:=0) rfl (.e (i:=0) rfl (by first|rfl|(congr 1;omega)|simp_all) (.e (i:=0) rfl (by first|rfl|(congr 1;omega)|simp_all) .n))):PickO _ _ _)) ((.c (j:=0) rfl .n):SelR _ _ _) ?_
  rintro ⟨L,B,N,G,out,p7,c7⟩ hI
  replace hI:Pg.Rg n L B N∧3≤L.length∧L.length≤64∧Pg.Gn n L G∧Pg.ears l (Pg.sg l) (L.length - 3) L out=Pg.earO l∧out.length+L.length=n:=hI
  try dsimp only
  obtain ⟨hg,h3,h4,hG,hE,ho⟩:=hI
  have hLB:=hg.lb
  have hLN:=hg.ln
  have hGn:=hG.1
  refine zg<|zg<|za<|e_mv rfl<|e_p (zR rfl)<|e_p (zf yg rfl sz3 rfl rfl)<|e_ru (ze 2 ty3 rfl rfl (rg_k rgl rgl))<|e_p (zBa rfl rfl)<|zh<|zd<|zG rfl (fun hgt=> ?_) (fun hgt=> ?_)
  ·
   refine zt<|zd<|zv<|zg<|za<|e_mv rfl<|e_mv rfl<|e_mv rfl<|e_p (zab (.c rfl .n) .n)<|zBd (zga (i:=1) rfl)<|zBd (zga (i:=2) rfl)<|zuc (A:=[boxA b2 98 (rgC p n cap B N ((L.length:Nat):Int) (Pg.sg l)),rowA 4 rB (some ⟨b5,0,none⟩) n G]) (F:=[rowA 50 (rI3 .i64) p7 c7 out]) (first:=[]) (cap:=[]) rfl rfl rfl (.c rfl (.c rfl (.c rfl .n))) ce76 (zMe (b:=b2) (p:=p) (n:=n) (cap:=cap) (l:=l) (B:=B) (N:=N) (kk:=((L.length:Nat):Int)) (s:=(Pg.sg l)) (L:=L) (pb:=some ⟨b5,0,none⟩) (nb:=n) (cb:=n) (G:=G) (hn:=ass) (hg:=by first|rfl|assumption|omega|exact hok.n64|exact hok.rng|exact hG.1|exact Pg.sg_rng l) (hrng:=by first|rfl|assumption|omega|exact hok.n64|exact hok.rng|exact hG.1|exact Pg.sg_rng l) (hs:=by first|rfl|assumption|omega|exact hok.n64|exact hok.rng|exact hG.1|exact Pg.sg_rng l) (hG:=by first|rfl|assumption|omega|exact hok.n64|exact hok.rng|exact hG.1|exact Pg.sg_rng l) (hnb:=by first|rfl|assumption|omega|exact hok.n64|exact hok.rng|exact hG.1|exact Pg.sg_rng l) (h3:=by first|rfl|assumption|omega|exact hok.n64|exact hok.rng|exact hG.1|exact Pg.sg_rng l)) (.c (j:=0) rfl .n) ?_
   rintro r1 hR1
   dsimp only [aq,nq,cq]
   replace hR1:Pg.Fst L (Pg.earI l (Pg.sg l) L) r1:=hR1
   refine e_p (zb rfl)<|zh<|zd<|zg<|zg<|za<|e_mv rfl<|e_p (zaa rfl rfl)<|zh<|zd<|zG rfl (fun hneg=> ?_) (fun hneg=> ?_)
   ·
    refine zg ?_
    have hqn:∀j,j<L.length→¬Pg.earI l (Pg.sg l) L j:=by rcases hR1 with ⟨w,h5,h6,h7⟩|h;(exfalso;omega);exact h.2
    obtain ⟨hv1,hv2⟩:=Pg.er_none hz (by rw [← hE];exact Pg.ears_none om hqn)
    refine zqb 50 (rI3 .i64) ?_
    have e6:([]:List Pg.T3)=(Pg.erV l):=by exact hv1.symm
    rw [e6]
    refine za<|e_p (zb rfl)<|e_p (zb rfl)<|zh<|zd<|zK<|zi<|zm<|zi<|zm<|zi ?_
    exact zAa Tryz.results30 (none,0) trivial (zk rfl) (zk rfl) (by rw [hv1,hv2];rfl) (ho:=((.c (i:=0) rfl .n):PickO _ _ _)) (.n:SelR _ _ _)
   ·
    obtain ⟨q,hq1,hq2,hq3,hq4⟩:∃q,q<L.length∧r1=((Pg.nt L q:Nat):Int)∧(Pg.earI l (Pg.sg l) L) q∧∀j,j<q→¬(Pg.earI l (Pg.sg l) L) j:=by rcases hR1 with h|h;exact h;first|omega|exact absurd trivial (h.2 0 om)
    have e7:(r1:Int)=(((Pg.nt L q):Nat):Int):=by exact hq2
    rw [e7]
    obtain ⟨haq1,haq2,haq3,haq4,haq5⟩:=hg.at hq1 rfl
    have hLBq:=hg.lb
    have hLNq:=hg.ln
    have hL6q:=hg.n64
    refine zt<|zd<|zg<|zxa (.c (i:=2) rfl (.c (i:=0) rfl (.c (i:=0) rfl .n)))<|zba (OW:=[rowA 50 (rI3 .i64) p7 c7 out]) (O:=[boxA b2 98 (rgC p n cap B N ((L.length:Nat):Int) (Pg.sg l)),rowA 4 rB (some ⟨b5,0,none⟩) n G]) 16 mixed (.then (.block (.then (.block (.then .ret))))) kr<|e_dm 0 rfl rfl rfl<|e_dm 1 rfl rfl rfl<|e_dm 2 rfl rfl rfl<|e_pv 3 rfl rfl (zR rfl)<|e_pv 4 rfl rfl (zf yg rfl sz96 rfl rfl)<|e_pv 5 rfl rfl (zka (i:=(Pg.nt L q)) yk sz3 rfl rfl om)<|e_uw 6 rfl rfl (ze 1 ty3 rfl rfl (rg_B rgl rgl om))<|e_dm 7 rfl rfl rfl<|e_dm 8 rfl rfl rfl<|e_dm 9 rfl rfl rfl<|e_pv 10 rfl rfl (zR rfl)<|e_pv 11 rfl rfl (zf yg rfl sz96 rfl rfl)<|e_pv 12 rfl rfl (zka (i:=(Pg.nt L q)) yk sz3 rfl rfl om)<|e_uw 13 rfl rfl (ze 1 ty3 rfl rfl (rg_N rgl rgl om))<|e_pv 14 rfl rfl (zsa zr50 rfl Tryz.underlying50 sz3 (.c rfl (.c rfl (.c rfl .n))) (.c rfl rfl rfl (.take .nil) (.c rfl rfl rfl (.skip (.take .nil)) (.c rfl rfl rfl (.s2 (.take .nil)) .n))))<|e_one 15 (zTd rfl rfl rfl rfl (zT (enc:=fun z:Int×Int×Int=>[.int .i64 z.1,.int .i64 z.2.1,.int .i64 z.2.2]) (ok:=fun z=>InK .i64 z.1∧InK .i64 z.2.1∧InK .i64 z.2.2) (h1:=fun _=>rfl) (h2:=fun _=>rfl) (k:=1) yA inf50 rfl dd dd dd (.c (x:=((((B.getD (Pg.nt L q) 0):Nat):Int),(((Pg.nt L q):Nat):Int),(((N.getD (Pg.nt L q) 0):Nat):Int))) rfl rfl (fun _ _=>by exact ⟨zq.2 (by first|omega|decide|(dsimp only;omega)),zq.2 (by first|omega|decide|(dsimp only;omega)),zq.2 (by first|omega|decide|(dsimp only;omega))⟩) .n)) (fun b8 _=> ?_))
    refine zCb 0 rfl .z<|e_one 16 (znd (A':=fun v:Option Addr×Nat=>rowA 50 (rI3 .i64) v.1 v.2 (out++([((((B.getD (Pg.nt L q) 0):Nat):Int),(((Pg.nt L q):Nat):Int),(((N.getD (Pg.nt L q) 0):Nat):Int))]))) kr rfl rfl rfl (zra 0 rfl yA inf50 dd rfl rfl cbs rfl cbs om om) ?_)
    rintro ⟨p9,c10⟩ -
    dsimp only [aq,nq,cq]
    refine e_pv 17 rfl rfl (zb rfl)<|zX kr<|zd<|zg<|za<|e_mv rfl<|e_mv rfl<|zBd (zga (i:=2) rfl)<|zuc (A:=[boxA b2 98 (rgC p n cap B N ((L.length:Nat):Int) (Pg.sg l))]) (F:=[rowA 50 (rI3 .i64) p9 c10 (out++([((((B.getD (Pg.nt L q) 0):Nat):Int),(((Pg.nt L q):Nat):Int),(((N.getD (Pg.nt L q) 0):Nat):Int))])),emA,rowA 4 rB (some ⟨b5,0,none⟩) n G]) (first:=[]) (cap:=[]) rfl rfl rfl (.c rfl (.c rfl .n)) ce78 (zwg (b:=b2) (p:=p) (n:=n) (cap:=cap) (l:=l) (B:=B) (N:=N) (kk:=((L.length:Nat):Int)) (s:=(Pg.sg l)) (L:=L) (v:=(Pg.nt L q)) (i:=q) (hn:=ass) (hg:=by first|rfl|assumption|omega|exact hok.n64|exact hok.rng|exact hG.1|exact Pg.sg_rng l) (hrng:=by first|rfl|assumption|omega|exact hok.n64|exact hok.rng|exact hG.1|exact Pg.sg_rng l) (hs:=by first|rfl|assumption|omega|exact hok.n64|exact hok.rng|exact hG.1|exact Pg.sg_rng l) (hi:=by first|rfl|assumption|omega|exact hok.n64|exact hok.rng|exact hG.1|exact Pg.sg_rng l) (hv:=by first|rfl|assumption|omega|exact hok.n64|exact hok.rng|exact hG.1|exact Pg.sg_rng l) (h2:=by first|rfl|assumption|omega|exact hok.n64|exact hok.rng|exact hG.1|exact Pg.sg_rng l) (hk0:=by first|rfl|assumption|omega|exact hok.n64|exact hok.rng|exact hG.1|exact Pg.sg_rng l)) (.c (j:=1) rfl .n) ?_
    rintro ⟨⟩ -
    dsimp only [aq,nq,cq]
    refine zh<|zd ?_
    have hlen:(L.eraseIdx q).length=L.length - 1:=by rw [List.length_eraseIdx,if_pos hq1]
    have e11:((L.length:Nat):Int) - 1=(((L.eraseIdx q).length:Nat):Int):=by omega
    rw [e11]
    refine za<|e_mv rfl<|e_mv rfl<|e_p (zpa (j:=(Pg.nt L q)) yz sz4 rfl rfl rfl om)<|zLa 3 rfl rfl rfl (zja (j:=(Pg.nt L q)) (x0:=true) (γ0:=()) rfl rfl (by first|omega|(rw [List.length_map];omega)|(simp only [List.length_set];omega)|(simp;done)|(simp;omega)) rfl rfl sz4 (fun _ _=>by trivial)) (fun _=>(.s (.s (.s .z)))) (fun _ _=> ?_)
    refine zh<|zP<|zha ((L.eraseIdx q),(Pg.cutB B N (Pg.nt L q)),(Pg.cutN B N (Pg.nt L q)),(G.set (Pg.nt L q) true),(out++([((((B.getD (Pg.nt L q) 0):Nat):Int),(((Pg.nt L q):Nat):Int),(((N.getD (Pg.nt L q) 0):Nat):Int))])),p9,c10) (show Pg.Rg n (L.eraseIdx q) (Pg.cutB B N (Pg.nt L q)) (Pg.cutN B N (Pg.nt L q))∧3≤(L.eraseIdx q).length∧(L.eraseIdx q).length≤64∧Pg.Gn n (L.eraseIdx q) (G.set (Pg.nt L q) true)∧Pg.ears l (Pg.sg l) ((L.eraseIdx q).length - 3) (L.eraseIdx q) (out++([((((B.getD (Pg.nt L q) 0):Nat):Int),(((Pg.nt L q):Nat):Int),(((N.getD (Pg.nt L q) 0):Nat):Int))]))=Pg.earO l∧(out++([((((B.getD (Pg.nt L q) 0):Nat):Int),(((Pg.nt L q):Nat):Int),(((N.getD (Pg.nt L q) 0):Nat):Int))])).length+(L.eraseIdx q).length=n from by exact ⟨hg.cut hq1 rfl om,by omega,by omega,hG.set hg hq1 rfl,(by have h9:=Pg.ears_some (l:=l) (s:=Pg.sg l) (out:=out) om hq1 hq3 hq4;unfold Pg.tri at h9;rw [← haq2,←haq3] at h9;rw [← h9];exact hE),by rw [List.length_append,hlen];show out.length+1+_=_;omega⟩) (by show (L.eraseIdx q).length<L.length;omega) ((.e rfl (by first|rfl|(congr 1;omega)|simp_all) (.c rfl (.c rfl .n))):SubM _ _) (ho:=((.c (i:=1) rfl (.c (i:=2) rfl (.e (i:=0) rfl (by first|rfl|(congr 1;omega)|simp_all) .n))):PickO _ _ _)) ((.c (j:=1) rfl .n):SelR _ _ _)
  ·
   refine zla<|zj<|zj<|zr<|zd<|zg<|za<|e_mv rfl<|e_mv rfl<|zBd (zga (i:=1) rfl)<|zBd (zga (i:=2) rfl)<|zuc (A:=[boxA b2 98 (rgC p n cap B N ((L.length:Nat):Int) (Pg.sg l)),rowA 4 rB (some ⟨b5,0,none⟩) n G]) (F:=[rowA 50 (rI3 .i64) p7 c7 out]) (first:=[]) (cap:=[]) rfl rfl rfl (.c rfl (.c rfl (.c rfl .n))) ce76 (zNe (b:=b2) (p:=p) (n:=n) (cap:=cap) (l:=l) (B:=B) (N:=N) (kk:=((L.length:Nat):Int)) (s:=(Pg.sg l)) (L:=L) (pb:=some ⟨b5,0,none⟩) (nb:=n) (cb:=n) (G:=G) (hn:=ass) (hg:=by first|rfl|assumption|omega|exact hok.n64|exact hok.rng|exact hG.1|exact Pg.sg_rng l) (hrng:=by first|rfl|assumption|omega|exact hok.n64|exact hok.rng|exact hG.1|exact Pg.sg_rng l) (hs:=by first|rfl|assumption|omega|exact hok.n64|exact hok.rng|exact hG.1|exact Pg.sg_rng l) (hG:=by first|rfl|assumption|omega|exact hok.n64|exact hok.rng|exact hG.1|exact Pg.sg_rng l) (hnb:=by first|rfl|assumption|omega|exact hok.n64|exact hok.rng|exact hG.1|exact Pg.sg_rng l) (h3:=by first|rfl|assumption|omega|exact hok.n64|exact hok.rng|exact hG.1|exact Pg.sg_rng l)) (.c (j:=0) rfl .n) ?_
   rintro r2 hR2
   dsimp only [aq,nq,cq]
   replace hR2:Pg.Fst L (fun _=>True) r2:=hR2
   refine e_p (zb rfl)<|zh<|zd<|zg ?_
   obtain ⟨q,hq1,hq2,hq3,hq4⟩:∃q,q<L.length∧r2=((Pg.nt L q:Nat):Int)∧(fun _=>True) q∧∀j,j<q→¬(fun _=>True) j:=by rcases hR2 with h|h;exact h;first|omega|exact absurd trivial (h.2 0 om)
   have hq0:q=0:=by rcases Nat.eq_zero_or_pos q with h|h;exact h;exact absurd trivial (hq4 0 h)
   subst hq0
   have e12:(r2:Int)=(((Pg.nt L 0):Nat):Int):=by exact hq2
   rw [e12]
   obtain ⟨ha01,ha02,ha03,ha04,ha05⟩:=hg.at hq1 rfl
   have hLB0:=hg.lb
   have hLN0:=hg.ln
   have hL60:=hg.n64
   obtain ⟨ha11,ha12,ha13,ha14,ha15⟩:=hg.at (show 1<L.length by omega) rfl
   have hLB1:=hg.lb
   have hLN1:=hg.ln
   have hL61:=hg.n64
   have hL3:L.length=3:=by omega
   have hk1:N.getD (Pg.nt L 0) 0=Pg.nt L 1:=by rw [ha02,hL3];rfl
   have hk2:N.getD (Pg.nt L 1) 0=Pg.nt L 2:=by rw [ha12,hL3];rfl
   have hk3:N.getD (N.getD (Pg.nt L 0) 0) 0<64:=by rw [hk1];omega
   obtain ⟨hv1,hv2⟩:=Pg.er_some hz (hE.symm.trans (Pg.ears_end (out:=out) (l:=l) (s:=Pg.sg l) hL3))
   refine zxa (.c (i:=2) rfl (.c (i:=0) rfl (.c (i:=0) rfl .n)))<|zba (OW:=[rowA 50 (rI3 .i64) p7 c7 out]) (O:=[boxA b2 98 (rgC p n cap B N ((L.length:Nat):Int) (Pg.sg l)),rowA 4 rB (some ⟨b5,0,none⟩) n G]) 21 mixed (.then .ret) kr<|e_dm 0 rfl rfl rfl<|e_dm 1 rfl rfl rfl<|e_dm 2 rfl rfl rfl<|e_dm 3 rfl rfl rfl<|e_pv 4 rfl rfl (zR rfl)<|e_pv 5 rfl rfl (zf yg rfl sz96 rfl rfl)<|e_pv 6 rfl rfl (zka (i:=(Pg.nt L 0)) yk sz3 rfl rfl om)<|e_uw 7 rfl rfl (ze 1 ty3 rfl rfl (rg_N rgl rgl om))<|e_dm 8 rfl rfl rfl<|e_dm 9 rfl rfl rfl<|e_dm 10 rfl rfl rfl<|e_pv 11 rfl rfl (zR rfl)<|e_pv 12 rfl rfl (zf yg rfl sz96 rfl rfl)<|e_pv 13 rfl rfl (zka (i:=(Pg.nt L 0)) yk sz3 rfl rfl om)<|e_uw 14 rfl rfl (ze 1 ty3 rfl rfl (rg_N rgl rgl om))<|e_pv 15 rfl rfl (zR rfl)<|e_pv 16 rfl rfl (zf yg rfl sz96 rfl rfl)<|e_pv 17 rfl rfl (zka (i:=(N.getD (Pg.nt L 0) 0)) yk sz3 rfl rfl om)<|e_uw 18 rfl rfl (ze 1 ty3 rfl rfl (rg_N rgl rgl om))<|e_pv 19 rfl rfl (zsa zr50 rfl Tryz.underlying50 sz3 (.c rfl (.c rfl (.c rfl .n))) (.c rfl rfl rfl (.take .nil) (.c rfl rfl rfl (.skip (.take .nil)) (.c rfl rfl rfl (.s2 (.take .nil)) .n))))<|e_one 20 (zTd rfl rfl rfl rfl (zT (enc:=fun z:Int×Int×Int=>[.int .i64 z.1,.int .i64 z.2.1,.int .i64 z.2.2]) (ok:=fun z=>InK .i64 z.1∧InK .i64 z.2.1∧InK .i64 z.2.2) (h1:=fun _=>rfl) (h2:=fun _=>rfl) (k:=1) yA inf50 rfl dd dd dd (.c (x:=((((Pg.nt L 0):Nat):Int),(((N.getD (Pg.nt L 0) 0):Nat):Int),(((N.getD (N.getD (Pg.nt L 0) 0) 0):Nat):Int))) rfl rfl (fun _ _=>by exact ⟨zq.2 (by first|omega|decide|(dsimp only;omega)),zq.2 (by first|omega|decide|(dsimp only;omega)),zq.2 (by first|omega|decide|(dsimp only;omega))⟩) .n)) (fun b13 _=> ?_))
   refine zCb 0 rfl .z<|e_one 21 (znd (A':=fun v:Option Addr×Nat=>rowA 50 (rI3 .i64) v.1 v.2 (out++([((((Pg.nt L 0):Nat):Int),(((N.getD (Pg.nt L 0) 0):Nat):Int),(((N.getD (N.getD (Pg.nt L 0) 0) 0):Nat):Int))]))) kr rfl rfl rfl (zra 0 rfl yA inf50 dd rfl rfl cbs rfl cbs om om) ?_)
   rintro ⟨p14,c15⟩ -
   dsimp only [aq,nq,cq]
   refine e_pv 22 rfl rfl (zb rfl)<|e_pv 23 rfl rfl (zb rfl)<|zX kr<|zd<|zK ?_
   have e16:((out++([((((Pg.nt L 0):Nat):Int),(((N.getD (Pg.nt L 0) 0):Nat):Int),(((N.getD (N.getD (Pg.nt L 0) 0) 0):Nat):Int))])):List Pg.T3)=(Pg.erV l):=by rw [hv1,hk1,hk2]
   rw [e16]
   exact zAa Tryz.results30 (p14,c15) trivial (zk rfl) (zk rfl) (by rw [hv1,hv2];simp) (ho:=((.c (i:=0) rfl .n):PickO _ _ _)) (.n:SelR _ _ _)
end Go.Proofs.YtjcpbhlijoigfaaGreat.Sp
namespace Go.Proofs.YtjcpbhlijoigfaaGreat.Sp
open Go
set_option linter.unusedVariables false
def Wd.zz (u v:Wd):Prop:=u.s=false∧v.s=false∧u.n=0∧v.n=0
instance (u v:Wd):Decidable (Wd.zz u v):=inferInstanceAs (Decidable (_∧_))
def qo (y:Big.RQ):Option Rat:=if Big.qok y then some (Big.qv y) else none
def eF (u v:Wd) (x:Option Rat):Fa:=⟨fun g=>∃y:Big.RQ,u.raw g y.1∧v.raw g y.2∧x=qo y,fun _ _ h ⟨y,a,b,e⟩=>⟨y,Wd.raw_mono h a,Wd.raw_mono h b,e⟩⟩
def rE:Rp (Option Rat):=⟨4,Wd×Wd,fun _ w=>[w.1.b,w.1.l,w.2.b,w.2.l],fun g x w=>(eF w.1 w.2 x).on g,fun _ _ _ _ h k=>(eF _ _ _).mono _ _ h k,fun _ _=>rfl,fun _ _=>rfl⟩
section
variable {P : Program} {O : List As} {R : List Fa} {f : Nat} {u v : Wd}
end
end Go.Proofs.YtjcpbhlijoigfaaGreat.Sp
namespace Go.Proofs.YtjcpbhlijoigfaaGreat.Pg
set_option linter.unusedVariables false
open Go.Proofs.YtjcpbhlijoigfaaGreat.Big
abbrev Q2:=Rat×Rat
abbrev gq (l:List Q2) (i:Nat):Q2:=l.getD i ((0:Rat),(0:Rat))
def prq (a b:Q2):Rat:=a.1*b.2 - b.1*a.2
def awq (a b:Q2):Q2:=(b.1 - a.1,b.2 - a.2)
def sdq (a b q:Q2):Rat:=prq (awq a b) (awq a q)
def ptq (s t:Rat) (q r:Q2):Q2:=(q.1+s / (s - t)*(awq q r).1,q.2+s / (s - t)*(awq q r).2)
def hp (K:Nat) (q:Q2):Prop:=hq q.1≤K∧hq q.2≤K
instance (K:Nat) (q:Q2):Decidable (hp K q):=inferInstanceAs (Decidable (_∧_))
theorem hp_mono {K K':Nat} {q:Q2} (h:hp K q) (k:K≤K'):hp K' q:=⟨Nat.le_trans h.1 k,Nat.le_trans h.2 k⟩
theorem hp_awq {a b:Q2} {K L:Nat} (ha:hp K a) (hb:hp L b):hp (K+L+1) (awq a b):=by
  have h1:=hq_sub b.1 a.1
  have h2:=hq_sub b.2 a.2
  have:=ha.1;have:=ha.2;have:=hb.1;have:=hb.2
  exact ⟨by show hq (b.1 - a.1)≤_;omega,by show hq (b.2 - a.2)≤_;omega⟩
structure Pb (K:Nat) (a b:Q2):Prop where
  m1:hq (a.1*b.2)≤K
  m2:hq (b.1*a.2)≤K
  p:hq (prq a b)≤2*K+1
theorem pb {a b:Q2} {K L:Nat} (ha:hp K a) (hb:hp L b):Pb (K+L) a b:=by
  have h1:=hq_mul a.1 b.2
  have h2:=hq_mul b.1 a.2
  have h3:=hq_sub (a.1*b.2) (b.1*a.2)
  have:=ha.1;have:=ha.2;have:=hb.1;have:=hb.2
  exact ⟨by omega,by omega,by unfold prq;omega⟩
theorem hq_sdq {a b q:Q2} {K:Nat} (ha:hp 3 a) (hb:hp 3 b) (h:hp K q):hq (sdq a b q)≤2*K+23:=by
  have h1:=(pb (hp_awq ha hb) (hp_awq ha h)).p
  unfold sdq;omega
structure Nb (K:Nat) (s t:Rat) (q r:Q2):Prop where
  d:hq (s - t)≤4*K+47
  f:hq (s / (s - t))≤6*K+70
  w:hp (2*K+1) (awq q r)
  m1:hq (s / (s - t)*(awq q r).1)≤8*K+71
  m2:hq (s / (s - t)*(awq q r).2)≤8*K+71
  p:hp (9*K+72) (ptq s t q r)
theorem nb {K:Nat} {s t:Rat} {q r:Q2} (hs:hq s≤2*K+23) (ht:hq t≤2*K+23) (hn:s - t≠0) (h1:hp K q) (h2:hp K r):Nb K s t q r:=by
  have a1:=hq_sub s t
  have a2:=hq_div s hn
  have a3:=hp_awq h1 h2
  have a4:=hq_mul (s / (s - t)) (awq q r).1
  have a5:=hq_mul (s / (s - t)) (awq q r).2
  have a6:=hq_add q.1 (s / (s - t)*(awq q r).1)
  have a7:=hq_add q.2 (s / (s - t)*(awq q r).2)
  have:=a3.1;have:=a3.2;have:=h1.1;have:=h1.2
  exact ⟨by omega,by omega,hp_mono a3 (by omega),by omega,by omega,⟨by show hq (q.1+_)≤_;omega,by show hq (q.2+_)≤_;omega⟩⟩
theorem opp {s t:Rat} (h:sgq s*sgq t<0):s - t≠0:=by
  intro e
  have:s=t:=by rw [← sgq_sub_zero,e];rfl
  subst this
  have h1:=sgq_rng s
  have h2:sgq s= -1∨sgq s=0∨sgq s=1:=by omega
  rcases h2 with h2|h2|h2 <;> rw [h2] at h <;> omega
theorem sg_mul (s t:Rat): -1≤sgq s*sgq t∧sgq s*sgq t≤1:=by
  have h1:=sgq_rng s
  have h2:=sgq_rng t
  have h:=mul_b (x:=sgq s) (y:=sgq t) (m:=1) (n:=1) (by omega) (by omega)
  omega
def clA (a b q r:Q2):List Q2:=(if 0≤sgq (sdq a b q) then [q] else [])++(if sgq (sdq a b q)*sgq (sdq a b r)<0 then [ptq (sdq a b q) (sdq a b r) q r] else [])
def clN (n:Nat) (a b:Q2) (l:List Q2):Nat→List Q2
  |0=>[]
  |i+1=>clN n a b l i++clA a b (gq l i) (gq l ((i+1)%n))
def clL (a b:Q2) (l:List Q2):List Q2:=clN l.length a b l l.length
theorem clA_len (a b q r:Q2):(clA a b q r).length≤2:=by unfold clA;split <;> split <;> simp
theorem clN_len {n:Nat} {a b:Q2} {l:List Q2}:∀i,(clN n a b l i).length≤2*i
  |0=>Nat.le_refl _
  |i+1=>by
    have h1:=clN_len (n:=n) (a:=a) (b:=b) (l:=l) i
    have h2:=clA_len a b (gq l i) (gq l ((i+1)%n))
    unfold clN;rw [List.length_append];omega
theorem clL_len {a b:Q2} {l:List Q2}:(clL a b l).length≤2*l.length:=clN_len _
def bq (K:Nat) (l:List Q2):Prop:=∀x∈l,hp K x
instance (K:Nat) (l:List Q2):Decidable (bq K l):=inferInstanceAs (Decidable (∀x∈l,_))
theorem bq_at {K:Nat} {l:List Q2} (h:bq K l) {i:Nat} (hi:i<l.length):hp K (gq l i):=h _ (Ms.getD_mem _ hi)
theorem clA_bq {a b q r:Q2} {K:Nat} (ha:hp 3 a) (hb:hp 3 b) (h1:hp K q) (h2:hp K r):bq (9*K+72) (clA a b q r):=by
  intro x hx
  unfold clA at hx
  rcases List.mem_append.1 hx with hx|hx
  · split at hx
    · rw [List.mem_singleton] at hx;subst hx;exact hp_mono h1 (by omega)
    · cases hx
  · split at hx
    · rename_i hc
      rw [List.mem_singleton] at hx;subst hx
      exact (nb (hq_sdq ha hb h1) (hq_sdq ha hb h2) (opp hc) h1 h2).p
    · cases hx
theorem clN_bq {n:Nat} {a b:Q2} {l:List Q2} {K:Nat} (hn:l.length=n) (ha:hp 3 a) (hb:hp 3 b) (h:bq K l):∀{i:Nat},i≤n→bq (9*K+72) (clN n a b l i)
  |0,_=>fun x hx=>by cases hx
  |i+1,hi=>fun x hx=>by
    unfold clN at hx
    rcases List.mem_append.1 hx with hx|hx
    · exact clN_bq hn ha hb h (i:=i) (by omega) x hx
    · exact clA_bq ha hb (bq_at h (by omega)) (bq_at h (by rw [hn];exact Nat.mod_lt _ (by omega))) x hx
theorem clL_bq {a b:Q2} {l:List Q2} {K:Nat} (ha:hp 3 a) (hb:hp 3 b) (h:bq K l):bq (9*K+72) (clL a b l):=clN_bq rfl ha hb h (Nat.le_refl _)
theorem clA_yes {a b q r:Q2} (h:0≤sgq (sdq a b q)) (h2:sgq (sdq a b q)*sgq (sdq a b r)<0):clA a b q r=[q,ptq (sdq a b q) (sdq a b r) q r]:=by unfold clA;rw [if_pos h,if_pos h2];rfl
theorem clA_in {a b q r:Q2} (h:0≤sgq (sdq a b q)) (h2:¬sgq (sdq a b q)*sgq (sdq a b r)<0):clA a b q r=[q]:=by unfold clA;rw [if_pos h,if_neg h2];rfl
theorem clA_new {a b q r:Q2} (h:¬0≤sgq (sdq a b q)) (h2:sgq (sdq a b q)*sgq (sdq a b r)<0):clA a b q r=[ptq (sdq a b q) (sdq a b r) q r]:=by unfold clA;rw [if_neg h,if_pos h2];rfl
theorem clA_no {a b q r:Q2} (h:¬0≤sgq (sdq a b q)) (h2:¬sgq (sdq a b q)*sgq (sdq a b r)<0):clA a b q r=[]:=by unfold clA;rw [if_neg h,if_neg h2];rfl
def pq (x y:Int):Q2:=((x:Rat),(y:Rat))
theorem hp_pq {x y:Int} (hx: -9223372036854775808≤x∧x≤9223372036854775807) (hy: -9223372036854775808≤y∧y≤9223372036854775807):hp 3 (pq x y):=⟨hq_64 hx.1 hx.2,hq_64 hy.1 hy.2⟩
def pts (l:List P2):List Q2:=l.map (fun p=>pq p.1 p.2)
def win (l:List P2) (a b:P2):List Q2:=clL (pq 1 b.2) (pq 0 b.2) (clL (pq 0 a.2) (pq 1 a.2) (clL (pq b.1 0) (pq b.1 1) (clL (pq a.1 1) (pq a.1 0) (pts l))))
def wnC (l:List P2) (a b:P2):Int:=if ck l≠0 then ck l else if ¬(inR a∧inR b) then 2 else if b.1≤a.1∨b.2≤a.2 then 5 else 0
def wnV (l:List P2) (a b:P2):List Q2:=if wnC l a b≠0 then [] else win l a b
theorem wn_bad {l:List P2} {a b:P2} (h:ck l≠0):wnC l a b=ck l∧wnV l a b=[]:=by
  have h1:wnC l a b=ck l:=by unfold wnC;rw [if_pos h]
  exact ⟨h1,by unfold wnV;rw [h1,if_pos h]⟩
theorem wn_far {l:List P2} {a b:P2} (h:ck l=0) (h2:¬(inR a∧inR b)):wnC l a b=2∧wnV l a b=[]:=by
  have h1:wnC l a b=2:=by unfold wnC;rw [if_neg (fun k=>k h),if_pos h2]
  exact ⟨h1,by unfold wnV;rw [h1,if_pos (by decide)]⟩
theorem wn_ord {l:List P2} {a b:P2} (h:ck l=0) (h2:inR a∧inR b) (h3:b.1≤a.1∨b.2≤a.2):wnC l a b=5∧wnV l a b=[]:=by
  have h1:wnC l a b=5:=by unfold wnC;rw [if_neg (fun k=>k h),if_neg (fun k=>k h2),if_pos h3]
  exact ⟨h1,by unfold wnV;rw [h1,if_pos (by decide)]⟩
theorem wn_ok {l:List P2} {a b:P2} (h:ck l=0) (h2:inR a∧inR b) (h3:¬(b.1≤a.1∨b.2≤a.2)):wnC l a b=0∧wnV l a b=win l a b:=by
  have h1:wnC l a b=0:=by unfold wnC;rw [if_neg (fun k=>k h),if_neg (fun k=>k h2),if_neg h3]
  exact ⟨h1,by unfold wnV;rw [h1,if_neg (by decide)]⟩
theorem pts_bq {l:List P2} (h:∀x∈l,inR x):bq 3 (pts l):=fun x hx=>by
  unfold pts at hx
  obtain ⟨p,hp,e⟩:=List.mem_map.1 hx
  have:=h p hp
  unfold inR at this
  rw [← e]
  exact hp_pq (by omega) (by omega)
theorem pts_take {l:List P2} {i:Nat} (h:i<l.length):pts (l.take (i+1))=pts (l.take i)++[pq (l.getD i (0,0)).1 (l.getD i (0,0)).2]:=by
  unfold pts;rw [Ms.take_snoc (0,0) h,List.map_append];rfl
def szT (n:Nat) (l:List Q2) (i:Nat):Rat:=prq (gq l i) (gq l ((i+1)%n))
def szN (n:Nat) (l:List Q2):Nat→Rat
  |0=>0
  |i+1=>szN n l i+szT n l i
def sz (l:List Q2):Rat:=szN l.length l l.length
theorem d01:Rat.divInt 0 1=0:=by decide
def exA:List P2:=[(0,0),(4,0),(4,4),(2,1),(0,4)]
def exB:List P2:=[(0,0),(4,0),(4,4),(0,4)]
theorem ex1:arV exA=20∧arC exA=0:=by decide +kernel
theorem ex2:isV exA (1,1)=1∧isC exA (1,1)=0:=by decide +kernel
theorem ex3:isV exA (2,2)= -1∧isC exA (2,2)=0:=by decide +kernel
theorem ex4:erV exA=[(1,2,3),(0,1,3),(0,3,4)]∧erC exA=0:=by decide +kernel
theorem ex5:wnC exB (2,-1) (9,2)=0:=by decide +kernel
def exW:List Q2:=wnV exB (2,-1) (9,2)
theorem ex6:bq 100 exW:=by decide +kernel
theorem ex7:∀i,i≤exW.length→hq (szN exW.length exW i)≤500000:=by decide +kernel
theorem ex8:sz exW=((8:Int):Rat):=by decide +kernel
end Go.Proofs.YtjcpbhlijoigfaaGreat.Pg
namespace Go.Proofs.YtjcpbhlijoigfaaGreat.Sp
open Go
set_option linter.unusedVariables false
def rR:Rp (Rat×Rat):=⟨8,Wd×Wd×Wd×Wd,fun _ w=>[w.1.b,w.1.l,w.2.1.b,w.2.1.l,w.2.2.1.b,w.2.2.1.l,w.2.2.2.b,w.2.2.2.l],fun g q w=>(qF true w.1 w.2.1 q.1).on g∧(qF true w.2.2.1 w.2.2.2 q.2).on g,fun _ _ _ _ h k=>⟨(qF true _ _ _).mono _ _ h k.1,(qF true _ _ _).mono _ _ h k.2⟩,fun _ _=>rfl,fun _ _=>rfl⟩
theorem open_rR {A:Fa} {q:Rat×Rat} {w1 w2 w3 w4:Wd} {R:List Fa}:∀g,Holds g (A :: okF rR q (w1,w2,w3,w4) :: R)→Holds g (A :: qF true w1 w2 q.1 :: qF true w3 w4 q.2 :: R):=fun g ⟨h,a,r⟩=>⟨h,a.1,a.2,r⟩
section
variable {P : Program} {c : Cx} {O : List As} {R : List Fa} {α : Type} {T e : TypeId} {r : Rp α} {l : List α} {b : Nat}
end
end Go.Proofs.YtjcpbhlijoigfaaGreat.Sp
namespace Go.Proofs.YtjcpbhlijoigfaaGreat.Sp
open Go
set_option linter.unusedVariables false
set_option maxRecDepth 100000
set_option maxHeartbeats 8000000
theorem zDb {p:Option Addr} {n:Nat} {cap:Nat} {l:List Int} (hn:l.length=n):Con yl 134 [.slice p n cap] [] [slF (rI .u32) p cap l] (Y:=Unit) (fun y=>True) (fun y=> .slice p ((ym l).length) cap) (fun y=>[]) (fun y=>[slF (rI .u32) p cap (ym l)]):=by
 refine zn Tryz.func134 rfl rfl rfl (fun c=> ?_)
 show RunC _ _ _ _ _ [(0,.slice p n cap)] [] [slF (rI .u32) p cap l]
 refine zia 0 rfl (fun hL0=> ?_)
 refine zg<|za<|e_p (zb rfl)<|zh<|zd<|zg<|zv<|zqa (X:=Nat) (fun x:Nat=>x≤l.length∧ym (l.take x)=ym l) (fun x=>[(0,.slice p x cap),(2,.slice none 0 0)]) (fun x=>[]) (fun x=>[slF (rI .u32) p cap (l.take x),slF (rI .u32) p cap l]) (fun x:Nat=>x) n (show n≤l.length∧ym (l.take n)=ym l from by exact ⟨by omega,by rw [List.take_of_length_le om]⟩) ((.c rfl (.c rfl .n)):SubM _ _) (ho:=(.n:PickO _ _ _)) ((.e (j:=0) rfl (by rw [List.take_of_length_le om]) (.c (j:=0) rfl .n)):SelR _ _ _) ?_
 rintro k hI
 replace hI:k≤l.length∧ym (l.take k)=ym l:=hI
 try dsimp only
 obtain ⟨hk,hT⟩:=hI
 have hlt:(l.take k).length=k:=by rw [List.length_take];omega
 refine zg<|zFa (X:=Unit) (fun x=>True) (fun x=>[(14,.bool (decide (0<k∧l.getD (k - 1) 0=0))),(0,.slice p k cap),(2,.slice none 0 0)]) (fun x=>[]) (fun x=>[slF (rI .u32) p cap (l.take k),slF (rI .u32) p cap l]) ?_ ?_
 ·
  refine za<|e_mv rfl<|e_p (zQ ye rfl)<|e_p (zBa rfl rfl)<|zW rfl rfl (zV rfl) (fun h1=> ?_) (fun h1=> ?_)
  ·
   refine e_mv rfl<|e_mv rfl<|e_p (zQ ye rfl)<|e_p (zoa (z:=(((k:Nat):Int) - 1)) rfl rfl (w64 om))<|zY (x0:=((l.take k).getD ((((k:Nat):Int) - 1).toNat) 0)) 0 ((((k:Nat):Int) - 1).toNat) rfl ye sz121 rfl rfl rfl cbs rfl om (gD (d:=0) om) (fun b2 o3 hok4=> ?_)
   replace hok4:=zH.1 hok4
   refine e_ru (zB (j:=0) 0 ty121 rfl rfl rfl rfl)<|e_p (zCa rfl rfl)<|e_p (zl rfl rfl)<|zh ?_
   exact zea () (show True from by first|trivial|omega|simp_all) ((.e rfl (congrArg Value.bool (by rw [Big.getD_take l om];have h1:0<k:=om;have h2:((k:Int) - 1).toNat=k - 1:=om;simp [h1,h2])) (.c rfl (.c rfl .n))):SubM _ _) (ho:=(.n:PickO _ _ _)) ((.of [1,2] rfl):SelR _ _ _)
  ·
   refine e_no<|e_no<|e_no<|e_no<|e_no<|e_no<|e_no<|e_p (zl rfl rfl)<|zh ?_
   exact zea () (show True from by first|trivial|omega|simp_all) ((.e rfl (congrArg Value.bool (by have h1:¬0<k:=om;simp [h1])) (.c rfl (.c rfl .n))):SubM _ _) (ho:=(.n:PickO _ _ _)) ((.of [0,1] rfl):SelR _ _ _)
 ·
  rintro ⟨⟩ -
  try dsimp only
  refine zG rfl (fun hc=> ?_) (fun hc=> ?_)
  ·
   refine zt<|zd<|zv<|za<|e_mv rfl<|e_mv rfl<|e_p (zQ ye rfl)<|e_p (zoa (z:=(((k - 1):Nat):Int)) rfl rfl (w64 om))<|e_p (zyb (hi:=(k - 1)) ye sz121 rfl (.s rfl) (.inr ⟨_,rfl⟩) om)<|zyc (zfc 0 rfl (k - 1) om) (fun _ _=> ?_)
   refine e_p (zb rfl)<|zh<|zP<|zha (k - 1) (show (k - 1)≤l.length∧ym (l.take (k - 1))=ym l from by exact ⟨by omega,by rw [← hT,Big.trim_go l hc.1 hk hc.2]⟩) (by show k - 1<k;omega) ((.e rfl (by first|rfl|(congr 1;omega)|simp_all) (.c rfl .n)):SubM _ _) (ho:=(.n:PickO _ _ _)) ((.e (j:=0) rfl (by rw [List.take_take];congr 2;omega) (.c (j:=2) rfl .n)):SelR _ _ _)
  ·
   refine zla<|zj<|zj<|zr<|zd<|zg<|za<|e_mv rfl<|e_p (zb rfl)<|zh<|zd<|zK ?_
   have hfin:ym l=l.take k:=by rw [← hT];exact Big.trim_stop l hk hc
   exact zx Tryz.results134 () trivial (zk rfl) (by rw [hfin,hlt]) (ho:=(.n:PickO _ _ _)) ((.e (j:=0) rfl (by rw [hfin]) .n):SelR _ _ _)
theorem zwe {p:Option Addr} {n:Nat} {cap:Nat} {l:List Int} {i:Nat} (hn:l.length=n) (hi:i≤4611686018427387904):Con yl 147 [.slice p n cap,ya yb ((i:Nat):Int)] [] [slF (rI .u32) p cap l] (Y:=Unit) (fun y=>True) (fun y=> .int .u32 (l.getD i 0)) (fun y=>[]) (fun y=>[]):=by
 refine zn Tryz.func147 rfl rfl rfl (fun c=> ?_)
 show RunC _ _ _ _ _ [(0,.slice p n cap),(1,ya yb ((i:Nat):Int))] [] [slF (rI .u32) p cap l]
 refine zia 0 rfl (fun hL0=> ?_)
 refine zg<|za<|e_p (zb rfl)<|zh<|zd<|zg<|zg<|za<|e_mv rfl<|e_mv rfl<|e_p (zQ ye rfl)<|e_p (zaa rfl rfl)<|zh<|zd<|zG rfl (fun h1=> ?_) (fun h1=> ?_)
 ·
  refine zg<|za<|e_mv rfl<|e_mv rfl<|zY (x0:=(l.getD i 0)) 0 i rfl ye sz121 rfl rfl rfl cbs rfl rfl (gD (d:=0) om) (fun b2 o3 hok4=> ?_)
  replace hok4:=zH.1 hok4
  refine e_ru (zB (j:=0) 0 ty121 rfl rfl rfl rfl)<|e_p (zb rfl)<|zh<|zd<|zK<|zi ?_
  exact zx Tryz.results147 () trivial (zk rfl) rfl (ho:=(.n:PickO _ _ _)) (.n:SelR _ _ _)
 ·
  refine zt<|zd<|zg<|za<|e_p (zb rfl)<|zh<|zd<|zK ?_
  exact zx Tryz.results147 () trivial (zk rfl) (by rw [show l.getD i 0=0 by simp [List.getD,List.getElem?_eq_none (show l.length≤i by omega)]]) (ho:=(.n:PickO _ _ _)) (.n:SelR _ _ _)
theorem zYf {p1:Option Addr} {n1:Nat} {c1:Nat} {l1:List Int} {p2:Option Addr} {n2:Nat} {c2:Nat} {l2:List Int} (hn1:l1.length=n1) (hn2:l2.length=n2) (hb1:n1≤1099511627776) (hb2:n2≤1099511627776) (ho1:yt l1) (ho2:yt l2):Con yl 135 [.slice p1 n1 c1,.slice p2 n2 c2] [] [slF (rI .u32) p1 c1 l1,slF (rI .u32) p2 c2 l2] (Y:=(Option Addr)×Nat) (fun y=>True) (fun y=> .slice (y.1) ((yd (yf l1+yf l2).toNat).length) (y.2)) (fun y=>[]) (fun y=>[slF (rI .u32) (y.1) (y.2) (yd (yf l1+yf l2).toNat)]):=by
 refine zn Tryz.func135 rfl rfl rfl (fun c=> ?_)
 show RunC _ _ _ _ _ [(0,.slice p1 n1 c1),(1,.slice p2 n2 c2)] [] [slF (rI .u32) p1 c1 l1,slF (rI .u32) p2 c2 l2]
 refine zia 0 rfl (fun hL0=> ?_)
 refine zia 1 rfl (fun hL1=> ?_)
 refine zg<|za<|e_p (zb rfl)<|zh<|zd<|zg<|za<|e_mv rfl<|e_p (zQ ye rfl)<|e_mv rfl<|e_p (zQ ye rfl)<|e_p (v:= ya yb (((max n1 n2):Nat):Int)) (by rw [show ((((max n1 n2):Nat):Int):Int)=max ((n1:Nat):Int) ((n2:Nat):Int) by omega];exact zZe rfl rfl)<|e_p (zI (z:=((((max n1 n2)+1):Nat):Int)) rfl rfl (w64 om))<|zIa rfl rfl (zwb (r:=rI .u32) (k:=((max n1 n2)+1)) (x0:=0) (γ0:=()) ye inf121 rfl rfl rfl rfl om om rfl (fun g _=>by exact zH.2 dd) dd) (fun b1 _=> ?_)
 refine e_p (zb rfl)<|zh<|zd<|zg<|za<|e_p (zb rfl)<|zh<|zd<|zg<|zg<|za<|e_mv rfl<|e_p (zQ ye rfl)<|e_mv rfl<|zh<|zd<|zv<|zqa (X:=Nat×(List Int)×Int) (fun x:Nat×(List Int)×Int=>x.1≤max n1 n2+1∧x.2.1.length=x.1∧0≤x.2.2∧x.2.2≤1∧yt x.2.1∧yf x.2.1+yw x.1*x.2.2=yf (l1.take x.1)+yf (l2.take x.1)) (fun x=>[(6,.int .u32 (x.2.2)),(18,ya yb ((x.1:Nat):Int)),(17,ya yb ((((max n1 n2)+1):Nat):Int)),(5,.slice (some ⟨b1,0,none⟩) ((max n1 n2)+1) ((max n1 n2)+1)),(4,.slice none 0 0),(0,.slice p1 n1 c1),(1,.slice p2 n2 c2)]) (fun x=>[rowA 121 (rI .u32) (some ⟨b1,0,none⟩) ((max n1 n2)+1) (x.2.1++List.replicate (max n1 n2+1 - x.1) 0)]) (fun x=>[slF (rI .u32) p1 c1 l1,slF (rI .u32) p2 c2 l2]) (fun x:Nat×(List Int)×Int=>max n1 n2+1 - x.1) (0,[],0) (show 0≤max n1 n2+1∧([]).length=0∧0≤0∧0≤1∧yt ([])∧yf ([])+yw 0*0=yf (l1.take 0)+yf (l2.take 0) from by exact ⟨by omega,rfl,by decide,by decide,Big.okL_nil,by simp [yf]⟩) ((.c rfl (.e rfl (by first|rfl|(congr 1;omega)|simp_all) (.of rfl))):SubM _ _) (ho:=((.e (i:=0) rfl (by simp) .n):PickO _ _ _)) ((.of [0,1] rfl):SelR _ _ _) ?_
 rintro ⟨i,os,cy⟩ hI
 replace hI:i≤max n1 n2+1∧os.length=i∧0≤cy∧cy≤1∧yt os∧yf os+yw i*cy=yf (l1.take i)+yf (l2.take i):=hI
 try dsimp only
 obtain ⟨hi,hol,hc0,hc1,hok,hv⟩:=hI
 have hg1:=yn ho1 i
 have hg2:=yn ho2 i
 refine zg<|za<|e_p (zaa rfl rfl)<|zh<|zd<|zg<|zG rfl (fun h2=> ?_) (fun h2=> ?_)
 ·
  refine zt<|zd<|zg<|zv<|zg<|za<|e_mv rfl<|e_p (zb rfl)<|zh<|zd<|zg<|za<|e_mv rfl<|e_mv rfl<|zN rfl rfl (.c rfl (.c rfl .n)) ce147 (zwe (p:=p1) (n:=n1) (cap:=c1) (l:=l1) (i:=i) (hn:=ass) (hi:=cbb)) (.c (j:=0) rfl .n)<|e_mv rfl<|e_mv rfl<|zN rfl rfl (.c rfl (.c rfl .n)) ce147 (zwe (p:=p2) (n:=n2) (cap:=c2) (l:=l2) (i:=i) (hn:=ass) (hi:=cbb)) (.c (j:=1) rfl .n)<|e_p (zI (z:=(l1.getD i 0+l2.getD i 0)) rfl rfl (wu32 om))<|e_mv rfl<|e_p (zI (z:=((l1.getD i 0+l2.getD i 0)+cy)) rfl rfl (wu32 om))<|e_p (zb rfl)<|zh<|zd<|zg<|za<|e_p (zb rfl)<|zh<|zd<|zg<|zg<|za<|e_mv rfl<|e_p (zGa rfl rfl)<|zh<|zd<|zG rfl (fun hc=> ?_) (fun hc=> ?_)
  ·
   refine za<|e_mv rfl<|e_p (zoa (z:=(((l1.getD i 0+l2.getD i 0)+cy) - 1000000000)) rfl rfl (wu32 om))<|e_p (zb rfl)<|e_p (zb rfl)<|zh<|zd<|za<|e_mv rfl<|e_mv rfl<|e_mv rfl<|e_p (zpa (j:=i) ye sz121 rfl rfl rfl om)<|zLa 0 rfl rfl rfl (zja (j:=i) (x0:=(((l1.getD i 0+l2.getD i 0)+cy) - 1000000000)) (γ0:=()) rfl rfl (by first|omega|(rw [List.length_map];omega)|(simp only [List.length_set];omega)|(simp;done)|(simp;omega)) rfl rfl sz121 (fun _ _=>by exact zH.2 om)) (fun _=> .z) (fun _ _=> ?_)
   refine zh<|zP<|zd<|za<|e_p (zI (z:=(((i+1):Nat):Int)) rfl rfl (w64 om))<|e_mv rfl<|zh<|zha ((i+1),os++[l1.getD i 0+l2.getD i 0+cy - 1000000000],1) (show (i+1)≤max n1 n2+1∧(os++[l1.getD i 0+l2.getD i 0+cy - 1000000000]).length=(i+1)∧0≤1∧1≤1∧yt (os++[l1.getD i 0+l2.getD i 0+cy - 1000000000])∧yf (os++[l1.getD i 0+l2.getD i 0+cy - 1000000000])+yw (i+1)*1=yf (l1.take (i+1))+yf (l2.take (i+1)) from by exact ⟨by omega,by simp [hol],by decide,by decide,yC hok om om,Big.plus_step hol hv om⟩) (by show max n1 n2+1 - (i+1)<max n1 n2+1 - i;omega) ((.of rfl):SubM _ _) (ho:=((.e (i:=0) rfl (by rw [Big.set_pad hol om]) .n):PickO _ _ _)) ((.of [0,1] rfl):SelR _ _ _)
  ·
   refine zt<|zd<|za<|e_mv rfl<|e_mv rfl<|e_mv rfl<|e_p (zpa (j:=i) ye sz121 rfl rfl rfl om)<|zLa 0 rfl rfl rfl (zja (j:=i) (x0:=((l1.getD i 0+l2.getD i 0)+cy)) (γ0:=()) rfl rfl (by first|omega|(rw [List.length_map];omega)|(simp only [List.length_set];omega)|(simp;done)|(simp;omega)) rfl rfl sz121 (fun _ _=>by exact zH.2 om)) (fun _=> .z) (fun _ _=> ?_)
   refine zh<|zP<|zd<|za<|e_p (zI (z:=(((i+1):Nat):Int)) rfl rfl (w64 om))<|e_mv rfl<|zh<|zha ((i+1),os++[l1.getD i 0+l2.getD i 0+cy],0) (show (i+1)≤max n1 n2+1∧(os++[l1.getD i 0+l2.getD i 0+cy]).length=(i+1)∧0≤0∧0≤1∧yt (os++[l1.getD i 0+l2.getD i 0+cy])∧yf (os++[l1.getD i 0+l2.getD i 0+cy])+yw (i+1)*0=yf (l1.take (i+1))+yf (l2.take (i+1)) from by exact ⟨by omega,by simp [hol],by decide,by decide,yC hok om om,Big.plus_step hol hv om⟩) (by show max n1 n2+1 - (i+1)<max n1 n2+1 - i;omega) ((.of rfl):SubM _ _) (ho:=((.e (i:=0) rfl (by rw [Big.set_pad hol om]) .n):PickO _ _ _)) ((.of [0,1] rfl):SelR _ _ _)
 ·
  have e3:os++List.replicate (max n1 n2+1 - i) 0=os:=by rw [show max n1 n2+1 - i=0 by omega];simp
  rw [e3]
  have hfin:=Big.plus_fin ho1 ho2 hok hc0 hol om hv
  have htr:ym os=yd (yf l1+yf l2).toNat:=by rw [Big.digs_valL hok,hfin]
  refine zla<|zj<|zj<|zr<|zd<|zg<|za<|e_mv rfl<|zma 0 rfl .z<|zJ rfl rfl (.c rfl .n) ce134 (zDb (p:=some ⟨b1,0,none⟩) (n:=((max n1 n2)+1)) (cap:=((max n1 n2)+1)) (l:=os) (hn:=cbb)) (.c (j:=0) rfl .n) ?_
  rintro ⟨⟩ -
  dsimp only [aq,nq,cq]
  refine e_p (zb rfl)<|zh<|zd<|zK ?_
  exact zx Tryz.results135 ((some ⟨b1,0,none⟩),((max n1 n2)+1)) trivial (zk rfl) (by rw [htr]) (ho:=(.n:PickO _ _ _)) ((.e (j:=0) rfl (by rw [htr]) .n):SelR _ _ _)
theorem zGd {a:Nat} {b:Nat} {p1:Option Addr} {c1:Nat} {p2:Option Addr} {c2:Nat} (hb1:(yd (a)).length≤1099511627776) (hb2:(yd (b)).length≤1099511627776):Con yl 135 [.slice (p1) ((yd (a)).length) (c1),.slice (p2) ((yd (b)).length) (c2)] [] [slF (rI .u32) (p1) (c1) (yd (a)),slF (rI .u32) (p2) (c2) (yd (b))] (Y:=(Option Addr)×(Nat)) (fun y=>True) (fun y=> .slice (y.1) ((yd (a+b)).length) (y.2)) (fun y=>[]) (fun y=>[slF (rI .u32) (y.1) (y.2) (yd (a+b))]):=by
  have h:= @zYf p1 (yd a).length c1 (yd a) p2 (yd b).length c2 (yd b) rfl rfl hb1 hb2 (yp a) (yp b)
  rw [yv,yv,show ((a:Int)+(b:Int)).toNat=a+b by omega] at h
  exact h
theorem zmc {x:Int}:Con yl 156 [ya yb x] [] [] (Y:=Unit) (fun y=>True) (fun y=> .bool false) (fun y=>[]) (fun y=>[]):=by
 refine zn Tryz.func156 rfl rfl rfl (fun c=> ?_)
 show RunC _ _ _ _ _ [(0,ya yb x)] [] []
 refine zg<|za<|e_p (zb rfl)<|zh<|zd<|zg<|za<|e_mv rfl<|e_mv rfl<|e_p (zQa rfl rfl)<|e_p (zb rfl)<|zh<|zd<|zK ?_
 exact zx Tryz.results156 () trivial (zk rfl) (by simp) (ho:=(.n:PickO _ _ _)) (.n:SelR _ _ _)
theorem znc {x:Int}:Con yl 158 [.int .u32 x] [] [] (Y:=Unit) (fun y=>True) (fun y=> .bool false) (fun y=>[]) (fun y=>[]):=by
 refine zn Tryz.func158 rfl rfl rfl (fun c=> ?_)
 show RunC _ _ _ _ _ [(0,.int .u32 x)] [] []
 refine zg<|za<|e_p (zb rfl)<|zh<|zd<|zg<|za<|e_mv rfl<|e_mv rfl<|e_p (zQa rfl rfl)<|e_p (zb rfl)<|zh<|zd<|zK ?_
 exact zx Tryz.results158 () trivial (zk rfl) (by simp) (ho:=(.n:PickO _ _ _)) (.n:SelR _ _ _)
theorem zPc {u:Int} {v:Int}:Con yl 148 [ya yb u,ya yb v] [] [] (Y:=Unit) (fun y=>True) (fun y=> ya yb (yG u v)) (fun y=>[]) (fun y=>[]):=by
 refine zn Tryz.func148 rfl rfl rfl (fun c=> ?_)
 show RunC _ _ _ _ _ [(0,ya yb u),(1,ya yb v)] [] []
 refine zg<|za<|e_p (zb rfl)<|zh<|zd<|zg<|za<|e_mv rfl<|zN rfl rfl (.c rfl .n) ce156 (zmc (x:=u)) (.n)<|e_p (zb rfl)<|zh<|zd<|zg<|za<|e_mv rfl<|zN rfl rfl (.c rfl .n) ce156 (zmc (x:=v)) (.n)<|e_p (zb rfl)<|zh<|zd<|zg<|zg<|za<|e_mv rfl<|zh<|zd<|zXa rfl rfl<|zt<|zd<|zg<|zg<|za<|e_mv rfl<|zh<|zd<|zXa rfl rfl<|zt<|zd<|zg<|zg<|za<|e_mv rfl<|e_mv rfl<|e_p (zaa rfl rfl)<|zh<|zd<|zG rfl (fun h1=> ?_) (fun h1=> ?_)
 ·
  refine zg<|za<|e_p (zb rfl)<|zh<|zd<|zK<|zi ?_
  exact zx Tryz.results148 () trivial (zk rfl) (by rw [Big.cmp_lt om]) (ho:=(.n:PickO _ _ _)) (.n:SelR _ _ _)
 ·
  refine zt<|zd<|zg<|zg<|za<|e_mv rfl<|e_mv rfl<|e_p (zBa rfl rfl)<|zh<|zd<|zG rfl (fun h2=> ?_) (fun h2=> ?_)
  ·
   refine zg<|za<|e_p (zb rfl)<|zh<|zd<|zK<|zi ?_
   exact zx Tryz.results148 () trivial (zk rfl) (by rw [Big.cmp_gt om]) (ho:=(.n:PickO _ _ _)) (.n:SelR _ _ _)
  ·
   refine zt<|zd<|zg<|za<|e_p (zb rfl)<|zh<|zd<|zK ?_
   exact zx Tryz.results148 () trivial (zk rfl) (by rw [show yG u v=0 by simp [yG];omega]) (ho:=(.n:PickO _ _ _)) (.n:SelR _ _ _)
theorem zee {u:Int} {v:Int}:Con yl 150 [.int .u32 u,.int .u32 v] [] [] (Y:=Unit) (fun y=>True) (fun y=> ya yb (yG u v)) (fun y=>[]) (fun y=>[]):=by
 refine zn Tryz.func150 rfl rfl rfl (fun c=> ?_)
 show RunC _ _ _ _ _ [(0,.int .u32 u),(1,.int .u32 v)] [] []
 refine zg<|za<|e_p (zb rfl)<|zh<|zd<|zg<|za<|e_mv rfl<|zN rfl rfl (.c rfl .n) ce158 (znc (x:=u)) (.n)<|e_p (zb rfl)<|zh<|zd<|zg<|za<|e_mv rfl<|zN rfl rfl (.c rfl .n) ce158 (znc (x:=v)) (.n)<|e_p (zb rfl)<|zh<|zd<|zg<|zg<|za<|e_mv rfl<|zh<|zd<|zXa rfl rfl<|zt<|zd<|zg<|zg<|za<|e_mv rfl<|zh<|zd<|zXa rfl rfl<|zt<|zd<|zg<|zg<|za<|e_mv rfl<|e_mv rfl<|e_p (zaa rfl rfl)<|zh<|zd<|zG rfl (fun h1=> ?_) (fun h1=> ?_)
 ·
  refine zg<|za<|e_p (zb rfl)<|zh<|zd<|zK<|zi ?_
  exact zx Tryz.results150 () trivial (zk rfl) (by rw [Big.cmp_lt om]) (ho:=(.n:PickO _ _ _)) (.n:SelR _ _ _)
 ·
  refine zt<|zd<|zg<|zg<|za<|e_mv rfl<|e_mv rfl<|e_p (zBa rfl rfl)<|zh<|zd<|zG rfl (fun h2=> ?_) (fun h2=> ?_)
  ·
   refine zg<|za<|e_p (zb rfl)<|zh<|zd<|zK<|zi ?_
   exact zx Tryz.results150 () trivial (zk rfl) (by rw [Big.cmp_gt om]) (ho:=(.n:PickO _ _ _)) (.n:SelR _ _ _)
  ·
   refine zt<|zd<|zg<|za<|e_p (zb rfl)<|zh<|zd<|zK ?_
   exact zx Tryz.results150 () trivial (zk rfl) (by rw [show yG u v=0 by simp [yG];omega]) (ho:=(.n:PickO _ _ _)) (.n:SelR _ _ _)
theorem back_u32 {b:Nat} {p:Option Addr} {n cap:Nat} {l:List Int} (hn:l.length=n):Back yl 157 [yc (some ⟨b,0,none⟩)] [atF b 0 [.slice p n cap],slF (rI .u32) p cap l] n (fun k=>[ya yb ((k:Nat):Int),.int .u32 (l.getD k 0)]):=by
  refine back_intro Tryz.func157 rfl rfl rfl (fun l0 c X Y φ ψ OO RR OS RS H x0 hx0=> ?_)
  show RunC _ _ _ _ _ [(0,.func (.yield l0) #[] #[]),(1,yc (some ⟨b,0,none⟩))] (OO x0) (atF b 0 [.slice p n cap] :: slF (rI .u32) p cap l :: RR x0)
  refine zia 1 rfl (fun hL=> ?_)
  refine zg<|za<|e_ru (zB (j:=0) 0 ty39 rfl rfl rfl rfl)<|e_p (zQ ye rfl)<|e_p (zoa (z:=(((n:Nat):Int) - 1)) rfl rfl (w64 om))<|e_p (zb rfl)<|zh<|zd<|zv<|zXe (X:=X×Nat) (fun z=>φ z.1 z.2∧z.2≤n) (fun z=>[(3,ya yb (((z.2:Nat):Int) - 1)),(1,yc (some ⟨b,0,none⟩)),(0,.func (.yield l0) #[] #[])]) (fun z=>OO z.1) (fun z=>atF b 0 [.slice p n cap] :: slF (rI .u32) p cap l :: RR z.1) (fun z=>z.2) (x0,n) ⟨hx0,Nat.le_refl _⟩ (.c rfl (.c rfl (.c rfl .n)):SubM _ _) (fun w m=>m) ?_
  rintro ⟨x,k⟩ ⟨hx,hk⟩
  dsimp only at hx hk
  try dsimp only
  refine zg<|zg<|za<|e_mv rfl<|e_p (zGa rfl rfl)<|zh<|zd<|zG rfl (fun h=> ?_) (fun h=> ?_)
  · refine zt ?_
    refine zd ?_
    obtain ⟨j,rfl⟩:∃j,k=j+1:=⟨k - 1,by omega⟩
    rw [show (((j+1:Nat):Int) - 1)=(j:Int) by omega]
    refine zg<|zv<|zg<|za<|e_mv rfl<|e_mv rfl<|e_ru (zB (j:=0) 0 ty39 rfl rfl rfl rfl)<|e_mv rfl<|zY (x0:=l.getD j 0) 1 j rfl ye sz121 rfl rfl rfl hn rfl rfl (gD (d:=0) om) (fun b2 o3 hok=> ?_)
    refine e_ru (zB (j:=0) 0 ty121 rfl rfl rfl rfl)<|zog (X:=X) (Y:=Y) (φ:=fun x'=>φ x' j) (ψ:=ψ) (OO:=OO) (RR:=fun x'=>[atF b 0 [.slice p n cap],slF (rI .u32) p cap l]++RR x') (OS:=OS) (RS:=RS) (vs:=[ya yb ((j:Nat):Int),.int .u32 (l.getD j 0)]) rfl rfl rfl (.c rfl (.c rfl .n)) (fun w m=>H x j w om hx (m.weaken fun h g s r a=>⟨h,g,s,r.2,Hp.le_refl _,Hp.le_refl _,a,fun _ _ e=> .inl e⟩)) (fun x' hx'=> ?_) (fun y hy=> ?_)
    · refine e_p (zJb rfl) ?_
      refine zh<|zd<|zXa rfl rfl<|zt<|zP<|zd<|za<|e_mv rfl<|e_p (zoa (z:=((j:Int) - 1)) rfl rfl (w64 om))<|e_p (zb rfl)<|zh ?_
      exact zng (x',j) ⟨hx',by show j≤n;omega⟩ (by show j<j+1;omega) (.c rfl (.c rfl (.c rfl .n)):SubM _ _) (fun w m=>m)
    · refine e_p (zJb rfl) ?_
      refine zh<|zd<|zWa rfl rfl<|zK<|zm<|zi<|zi<|zm ?_
      exact zVd rfl y hy (fun w m=>m)
  · have hk0 : k = 0 := by omega
    subst hk0
    refine zla<|zj<|zj<|zr<|p_endI ?_
    exact zUd rfl x hx (fun w m=>m)
theorem zQb {p:Option Addr} {n:Nat} {cap:Nat}:Con yl 149 [.slice p n cap] [] [] (Y:=Nat) (fun y=>True) (fun y=> .func (.func 157) #[] #[yc (some ⟨y,0,none⟩)]) (fun y=>[]) (fun y=>[atF y 0 [.slice p n cap]]):=by
 refine zn Tryz.func149 rfl rfl rfl (fun c=> ?_)
 show RunC _ _ _ _ _ [(0,.slice p n cap)] [] []
 refine zg<|za<|zO rfl rfl (zS rfl rfl) (fun b1=> ?_)
 refine e_p (zb rfl)<|zh<|zd<|zg<|za<|e_p (zab .n (.c rfl .n))<|e_p (zb rfl)<|zh<|zd<|zK<|zaf 0 rfl .z ?_
 exact zx Tryz.results149 b1 trivial (zk rfl) rfl (ho:=(.n:PickO _ _ _)) ((.c (j:=0) rfl .n):SelR _ _ _)
theorem zbc {a:Nat} {b:Nat} {p1:Option Addr} {c1:Nat} {p2:Option Addr} {c2:Nat}:Con yl 136 [.slice p1 ((yd a).length) c1,.slice p2 ((yd b).length) c2] [] [slF (rI .u32) p1 c1 (yd a),slF (rI .u32) p2 c2 (yd b)] (Y:=Unit) (fun y=>True) (fun y=> ya yb (yG (a:Int) (b:Int))) (fun y=>[]) (fun y=>[]):=by
 refine zsc Tryz.func136 rfl rfl rfl (fun c=> ?_)
 show RunC _ _ _ _ _ [(0,.slice p1 ((yd a).length) c1),(1,.slice p2 ((yd b).length) c2)] [] [slF (rI .u32) p1 c1 (yd a),slF (rI .u32) p2 c2 (yd b)]
 refine zia 0 rfl (fun hL0=> ?_)
 refine zia 1 rfl (fun hL1=> ?_)
 refine zg<|za<|zO rfl rfl (zS rfl rfl) (fun b1=> ?_)
 refine zO rfl rfl (zp zr3 rfl) (fun b2=> ?_)
 refine zh<|zd<|zg<|zg<|za<|e_mv rfl<|e_p (zQ ye rfl)<|e_ru (ze 1 ty39 rfl rfl rfl)<|e_p (zQ ye rfl)<|e_p (zQa rfl rfl)<|zh<|zd<|zG rfl (fun hlen=> ?_) (fun hlen=> ?_)
 ·
  refine zg<|za<|e_mv rfl<|e_p (zQ ye rfl)<|e_ru (ze 1 ty39 rfl rfl rfl)<|e_p (zQ ye rfl)<|zN rfl rfl (.c rfl (.c rfl .n)) ce148 (zPc (u:=(((yd a).length:Nat):Int)) (v:=(((yd b).length:Nat):Int))) (.n)<|zo 0 rfl rfl rfl rfl rfl sz3 rfl (.take .nil) .z<|zh<|zd<|zK<|zi<|zbf ?_
  exact zx Tryz.results136 () trivial (zAb 0 ty3 rfl rfl rfl) (by rw [Big.cmp_len om]) (ho:=(.n:PickO _ _ _)) (.n:SelR _ _ _)
 ·
  replace hlen:(yd a).length=(yd b).length:=by omega
  refine zt<|zd<|zg<|zg<|za<|e_mv rfl<|zJ rfl rfl (.c rfl .n) ce149 (zQb (p:=p1) (n:=(yd a).length) (cap:=c1)) (.n) ?_
  rintro b3 -
  dsimp only [aq,nq,cq]
  refine zh<|zd<|zv<|zYd (fa:=[atF b3 0 [.slice p1 ((yd a).length) c1],slF (rI .u32) p1 c1 (yd a)]) (N:=((yd a).length)) (encs:=fun k=>[ya yb ((k:Nat):Int),.int .u32 ((yd a).getD k 0)]) rfl ce157 (back_u32 cbs) (fun _=>rfl) rfl (X:=Unit) (Y:=Unit) (fun x k=>k≤(yd a).length∧(yd a).drop k=(yd b).drop k) (fun y=>True) (fun x=>[boxA b2 3 [ya yb 0],boxA b1 39 [.slice p2 ((yd b).length) c2]]) (fun x=>[slF (rI .u32) p2 c2 (yd b)]) (fun y=>[boxA b2 3 [ya yb (yG (a:Int) (b:Int))],boxA b1 39 [.slice p2 ((yd b).length) c2]]) (fun y=>[atF b3 0 [.slice p1 ((yd a).length) c1],slF (rI .u32) p1 c1 (yd a),slF (rI .u32) p2 c2 (yd b)]) (fun k=>[(6,.int .u32 ((yd a).getD k 0)),(5,ya yb ((k:Nat):Int)),(20,.int .u32 ((yd a).getD k 0)),(19,ya yb ((k:Nat):Int)),(18,.func (.func 157) #[] #[yc (some ⟨b3,0,none⟩)]),(17,.slice p1 ((yd a).length) c1),(11,.bool (decide ((((yd a).length:Nat):Int)≠(((yd b).length:Nat):Int)))),(10,ya yb (((yd b).length:Nat):Int)),(9,.slice p2 ((yd b).length) c2),(8,ya yb (((yd a).length:Nat):Int)),(7,.slice p1 ((yd a).length) c1),(4,yc (some ⟨b2,0,none⟩)),(3,yc (some ⟨b1,0,none⟩)),(0,.slice p1 ((yd a).length) c1),(1,.slice p2 ((yd b).length) c2)]) () (show ((yd a).length)≤(yd a).length∧(yd a).drop ((yd a).length)=(yd b).drop ((yd a).length) from by exact ⟨Nat.le_refl _,by rw [List.drop_length,hlen,List.drop_length]⟩) (ho:=((.of [0,0] rfl):PickO _ _ _)) ((.of [0,1,2] rfl):SelR _ _ _) ?_ ?_ ?_ ?_
  ·
   intro l k O' R' Q' hP
   refine zg<|za<|e_p (zb rfl)<|zh<|zd<|za<|e_p (zb rfl)<|zh ?_
   exact hP
  ·
   rintro l4 D5 o6 o7 ⟨⟩ k hkN hI
   replace hI:(k+1)≤(yd a).length∧(yd a).drop (k+1)=(yd b).drop (k+1):=hI
   try dsimp only
   have hg1:=yn (yp a) k
   have hg2:=yn (yp b) k
   refine zv<|zg<|za<|e_mv rfl<|e_ru (ze 3 ty39 rfl rfl rfl)<|e_mv rfl<|zY (x0:=((yd b).getD k 0)) 2 k rfl ye sz121 rfl rfl rfl cbs rfl rfl (gD (d:=0) om) (fun b8 o9 hok10=> ?_)
   replace hok10:=zH.1 hok10
   refine e_ru (zB (j:=0) 0 ty121 rfl rfl rfl rfl)<|e_p (zQa rfl rfl)<|zh<|zd<|zG rfl (fun hne=> ?_) (fun hne=> ?_)
   ·
    refine zg<|za<|e_mv rfl<|e_ru (ze 3 ty39 rfl rfl rfl)<|e_mv rfl<|zY (x0:=((yd b).getD k 0)) 3 k rfl ye sz121 rfl rfl rfl cbs rfl rfl (gD (d:=0) om) (fun b11 o12 hok13=> ?_)
    replace hok13:=zH.1 hok13
    refine e_ru (zB (j:=0) 0 ty121 rfl rfl rfl rfl)<|zN rfl rfl (.c rfl (.c rfl .n)) ce150 (zee (u:=((yd a).getD k 0)) (v:=((yd b).getD k 0))) (.n)<|zo 2 rfl rfl rfl rfl rfl sz3 rfl (.take .nil) (.s (.s .z))<|zh<|zd<|zK<|zm ?_
    exact zXd () (show True from by first|trivial|omega) (ho:=((.c (i:=0) rfl (.c (i:=0) rfl (.e (i:=0) rfl (by rw [Big.cmp_at hlen om hI.2 hne]) (.c (i:=0) rfl .n)))):PickO _ _ _)) ((.of [2,3,4] rfl):SelR _ _ _)
   ·
    refine zt<|zP ?_
    exact zWd () (show k≤(yd a).length∧(yd a).drop k=(yd b).drop k from by exact ⟨by omega,Big.drop_more om om hI.2 (Decidable.not_not.1 hne)⟩) (ho:=((.of [0,0,0,0] rfl):PickO _ _ _)) ((.of [1,2,3] rfl):SelR _ _ _)
  ·
   rintro D14 ⟨⟩ hI
   replace hI:0≤(yd a).length∧(yd a).drop 0=(yd b).drop 0:=hI
   try dsimp only
   have heq:(yd a)=(yd b):=by simpa using hI.2
   have hab:=Big.cmp_eq heq
   refine zP<|zd<|zg<|za<|zo 1 rfl rfl rfl rfl rfl sz3 rfl (.take .nil) (.s .z)<|zh<|zd<|zK<|zse 0 rfl rfl ?_
   exact zx Tryz.results136 () trivial (zAb 0 ty3 rfl rfl rfl) (by rw [hab];simp [yG]) (ho:=(.n:PickO _ _ _)) (.n:SelR _ _ _)
  ·
   rintro D15 ⟨⟩ hS
   replace hS:True:=hS
   try dsimp only
   refine zm<|zi<|zse 0 rfl rfl ?_
   exact zx Tryz.results136 () trivial (zAb 0 ty3 rfl rfl rfl) rfl (ho:=(.n:PickO _ _ _)) (.n:SelR _ _ _)
theorem zOe {g:Int}:Con yl 152 [.int .u32 g] [] [] (Y:=Unit) (fun y=>True) (fun y=> .bool (decide (1000000000≤g))) (fun y=>[]) (fun y=>[]):=by
 refine zn Tryz.func152 rfl rfl rfl (fun c=> ?_)
 show RunC _ _ _ _ _ [(0,.int .u32 g)] [] []
 refine zg<|za<|e_p (zb rfl)<|zh<|zd<|zg<|za<|e_mv rfl<|e_p (zGa rfl rfl)<|e_p (zb rfl)<|zh<|zd<|zK ?_
 exact zx Tryz.results152 () trivial (zk rfl) rfl (ho:=(.n:PickO _ _ _)) (.n:SelR _ _ _)
theorem zad {p:Option Addr} {n:Nat} {cap:Nat} {l:List Int} (hn:l.length=n):Con yl 159 [.slice p n cap,.func (.func 152) #[] #[]] [] [slF (rI .u32) p cap l] (Y:=Int) (fun y=>(0≤y↔∃g∈l,1000000000≤g)) (fun y=> ya yb y) (fun y=>[]) (fun y=>[]):=by
 refine zn Tryz.func159 rfl rfl rfl (fun c=> ?_)
 show RunC _ _ _ _ _ [(0,.slice p n cap),(1,.func (.func 152) #[] #[])] [] [slF (rI .u32) p cap l]
 refine zia 0 rfl (fun hL0=> ?_)
 refine zg<|za<|e_p (zb rfl)<|zh<|zd<|zg<|zg<|za<|e_mv rfl<|e_p (zQ ye rfl)<|e_mv rfl<|zh<|zd<|zv<|zqa (X:=Nat) (fun x:Nat=>x≤n∧∀j,j<x→l.getD j 0<1000000000) (fun x=>[(8,ya yb ((x:Nat):Int)),(7,ya yb ((n:Nat):Int)),(0,.slice p n cap),(1,.func (.func 152) #[] #[])]) (fun x=>[]) (fun x=>[slF (rI .u32) p cap l]) (fun x:Nat=>n - x) 0 (show 0≤n∧∀j,j<0→l.getD j 0<1000000000 from by exact ⟨by omega,fun j h=>by omega⟩) ((.e rfl (by first|rfl|(congr 1;omega)|simp_all) (.of rfl)):SubM _ _) (ho:=(.n:PickO _ _ _)) ((.c (j:=0) rfl .n):SelR _ _ _) ?_
 rintro i hI
 replace hI:i≤n∧∀j,j<i→l.getD j 0<1000000000:=hI
 try dsimp only
 obtain ⟨hi,hall⟩:=hI
 refine zg<|za<|e_p (zaa rfl rfl)<|zh<|zd<|zg<|zG rfl (fun h1=> ?_) (fun h1=> ?_)
 ·
  refine zt<|zd<|zg<|zv<|zg<|za<|e_mv rfl<|e_p (zb rfl)<|zh<|zd<|zg<|za<|e_mv rfl<|e_mv rfl<|e_mv rfl<|zY (x0:=(l.getD i 0)) 0 i rfl ye sz121 rfl rfl rfl cbs rfl rfl (gD (d:=0) om) (fun b2 o3 hok4=> ?_)
  replace hok4:=zH.1 hok4
  refine e_ru (zB (j:=0) 0 ty121 rfl rfl rfl rfl)<|zBc (first:=[]) (cap:=[]) rfl rfl rfl (.c rfl .n) ce152 (zOe (g:=(l.getD i 0))) (.n) ?_
  rintro ⟨⟩ -
  dsimp only [aq,nq,cq]
  refine zh<|zd<|zG rfl (fun hb=> ?_) (fun hb=> ?_)
  ·
   refine zg<|za<|e_mv rfl<|e_p (zb rfl)<|zh<|zd<|zK<|zm<|zi<|zi<|zm<|zi ?_
   exact zx Tryz.results159 ((i:Nat):Int) (⟨fun _=>⟨l.getD i 0,Big.getD_mem om,hb⟩,fun _=>by omega⟩) (zk rfl) rfl (ho:=(.n:PickO _ _ _)) (.n:SelR _ _ _)
  ·
   refine zt<|zP<|zd<|za<|e_p (zI (z:=(((i+1):Nat):Int)) rfl rfl (w64 om))<|e_mv rfl<|zh<|zha (i+1) (show (i+1)≤n∧∀j,j<(i+1)→l.getD j 0<1000000000 from by refine ⟨by omega,fun j hj=> ?_⟩;by_cases e:j=i;subst e;omega;exact hall j om) (by show n - (i+1)<n - i;omega) ((.of rfl):SubM _ _) (ho:=(.n:PickO _ _ _)) ((.c (j:=1) rfl .n):SelR _ _ _)
 ·
  refine zla<|zj<|zj<|zr<|zd<|zg<|za<|e_p (zb rfl)<|zh<|zd<|zK ?_
  exact zx Tryz.results159 (-1) (⟨fun h=>by omega,fun ⟨g,hg,hb⟩=>by obtain ⟨j,hj,e⟩:=Big.mem_getD hg;have:=hall j om;omega⟩) (zk rfl) rfl (ho:=(.n:PickO _ _ _)) (.n:SelR _ _ _)
theorem zvc {p:Option Addr} {n:Nat} {cap:Nat} {l:List Int} (hn:l.length=n):Con yl 151 [.slice p n cap,.func (.func 152) #[] #[]] [] [slF (rI .u32) p cap l] (Y:=Unit) (fun y=>True) (fun y=> .bool (decide (∃g∈l,1000000000≤g))) (fun y=>[]) (fun y=>[]):=by
 refine zn Tryz.func151 rfl rfl rfl (fun c=> ?_)
 show RunC _ _ _ _ _ [(0,.slice p n cap),(1,.func (.func 152) #[] #[])] [] [slF (rI .u32) p cap l]
 refine zia 0 rfl (fun hL0=> ?_)
 refine zg<|za<|e_p (zb rfl)<|zh<|zd<|zg<|za<|e_mv rfl<|e_mv rfl<|zJ rfl rfl (.c rfl (.c rfl .n)) ce159 (zad (p:=p) (n:=n) (cap:=cap) (l:=l) (hn:=ass)) (.c (j:=0) rfl .n) ?_
 rintro r1 hr
 dsimp only [aq,nq,cq]
 replace hr:(0≤r1↔∃g∈l,1000000000≤g):=hr
 refine e_p (zGa rfl rfl)<|e_p (zb rfl)<|zh<|zd<|zK ?_
 exact zx Tryz.results151 () trivial (zk rfl) (congrArg Value.bool (decide_eq_decide.2 hr.symm)) (ho:=(.n:PickO _ _ _)) (.n:SelR _ _ _)
theorem zQc {s:Bool} {p:Option Addr} {n:Nat} {cap:Nat} {l:List Int} (hn:l.length=n):Con yl 138 [.agg #[.bool s,.slice p n cap]] [] [slF (rI .u32) p cap l] (Y:=Unit) (fun y=>True) (fun y=> .bool (decide (Big.canon s l))) (fun y=>[]) (fun y=>[]):=by
 refine zn Tryz.func138 rfl rfl rfl (fun c=> ?_)
 show RunC _ _ _ _ _ [(0,.agg #[.bool s,.slice p n cap])] [] [slF (rI .u32) p cap l]
 refine zia 0 rfl (fun hL0=> ?_)
 refine zg<|za<|zO rfl rfl (zS rfl rfl) (fun b1=> ?_)
 refine e_p (zb rfl)<|zh<|zd<|zg<|za<|e_p (zf yo rfl sz39 rfl rfl)<|e_ru (ze 0 ty39 rfl rfl rfl)<|e_p (zQ ye rfl)<|e_p (zb rfl)<|zh<|zd<|zg<|zg<|za<|e_mv rfl<|e_p (zCa rfl rfl)<|zh<|zd<|zG rfl (fun h0=> ?_) (fun h0=> ?_)
 ·
  refine zg<|za<|e_p (zf yo rfl sz4 rfl rfl)<|e_ru (ze 0 ty4 rfl rfl rfl)<|e_p (zJb rfl)<|e_p (zb rfl)<|zh<|zd<|zK<|zi ?_
  exact zx Tryz.results138 () trivial (zk rfl) (congrArg Value.bool (by have:l.length=0:=om;cases s <;> simp [Big.canon,this])) (ho:=(.n:PickO _ _ _)) (.n:SelR _ _ _)
 ·
  refine zt<|zd<|zFa (X:=Unit) (fun x=>True) (fun x=>[(2,.bool (decide (((l.getD ((((n:Nat):Int) - 1).toNat) 0)≠0)∧(¬(∃g∈l,1000000000≤g)))))]) (fun x=>[boxA b1 41 [.bool s,.slice p n cap]]) (fun x=>[slF (rI .u32) p cap l]) ?_ ?_
  ·
   refine za<|e_p (zf yo rfl sz39 rfl rfl)<|e_ru (ze 0 ty39 rfl rfl rfl)<|e_mv rfl<|e_p (zoa (z:=(((n:Nat):Int) - 1)) rfl rfl (w64 om))<|zY (x0:=(l.getD ((((n:Nat):Int) - 1).toNat) 0)) 0 ((((n:Nat):Int) - 1).toNat) rfl ye sz121 rfl rfl rfl cbs rfl om (gD (d:=0) om) (fun b2 o3 hok4=> ?_)
   replace hok4:=zH.1 hok4
   refine e_ru (zB (j:=0) 0 ty121 rfl rfl rfl rfl)<|e_p (zQa rfl rfl)<|zW rfl rfl (zV rfl) (fun h5=> ?_) (fun h5=> ?_)
   ·
    refine e_p (zf yo rfl sz39 rfl rfl)<|e_ru (ze 0 ty39 rfl rfl rfl)<|zN rfl rfl (.c rfl (.c rfl .n)) ce151 (zvc (p:=p) (n:=n) (cap:=cap) (l:=l) (hn:=ass)) (.c (j:=1) rfl .n)<|e_p (ztb rfl)<|e_p (zl rfl rfl)<|e_p (zb rfl)<|zh ?_
    exact zea () (show True from by first|trivial|omega|simp_all) ((.e rfl (congrArg Value.bool (by simp_all)) .n):SubM _ _) (ho:=((.c (i:=0) rfl .n):PickO _ _ _)) ((.c (j:=1) rfl .n):SelR _ _ _)
   ·
    refine e_no<|e_no<|e_no<|e_no<|e_p (zl rfl rfl)<|e_p (zb rfl)<|zh ?_
    exact zea () (show True from by first|trivial|omega|simp_all) ((.e rfl (congrArg Value.bool (by simp_all)) .n):SubM _ _) (ho:=((.c (i:=0) rfl .n):PickO _ _ _)) ((.c (j:=1) rfl .n):SelR _ _ _)
  ·
   rintro ⟨⟩ -
   try dsimp only
   refine zK ?_
   exact zx Tryz.results138 () trivial (zk rfl) (congrArg Value.bool (decide_eq_decide.2 (by rw [Big.canon_more om,hn];have e:((n:Int) - 1).toNat=n - 1:=om;simp [e]))) (ho:=(.n:PickO _ _ _)) (.n:SelR _ _ _)
theorem zSa {s:Bool} {p:Option Addr} {n:Nat} {cap:Nat} {l:List Int} (hn:l.length=n):Con yl 117 [.agg #[.bool s,.slice p n cap]] [] [slF (rI .u32) p cap l] (Y:=(Option Addr)×Nat) (fun y=>True) (fun y=> .slice (y.1) ((yd ((yq s l).natAbs)).length) (y.2)) (fun y=>[]) (fun y=>[slF (rI .u32) (y.1) (y.2) (yd ((yq s l).natAbs))]):=by
 refine zn Tryz.func117 rfl rfl rfl (fun c=> ?_)
 show RunC _ _ _ _ _ [(0,.agg #[.bool s,.slice p n cap])] [] [slF (rI .u32) p cap l]
 refine zia 0 rfl (fun hL0=> ?_)
 refine zUa 0 rfl (fun hE0=> ?_)
 have hnn:Big.nn l:=fun g hg=>(zH.1 (hE0 g hg)).1
 refine zg<|za<|zO rfl rfl (zS rfl rfl) (fun b1=> ?_)
 refine e_p (zb rfl)<|zh<|zd<|zg<|zg<|za<|e_ru (zc 0 ty41 rfl rfl (.t2 .nil))<|zN rfl rfl (.c rfl .n) ce138 (zQc (s:=s) (p:=p) (n:=n) (cap:=cap) (l:=l) (hn:=ass)) (.c (j:=0) rfl .n)<|e_p (ztb rfl)<|zh<|zd<|zG rfl (fun hc=> ?_) (fun hc=> ?_)
 ·
  refine zg<|za<|e_p (zb rfl)<|zh<|zd<|zK<|zi ?_
  have hd:yd (yq s l).natAbs=[]:=by rw [Big.raw_digs hnn,if_neg hc]
  refine zzd (rI .u32) ?_
  exact zx Tryz.results117 (none,0) trivial (zk rfl) (by rw [hd];rfl) (ho:=(.n:PickO _ _ _)) ((.e (j:=0) rfl (by rw [hd]) .n):SelR _ _ _)
 ·
  refine zt<|zd<|zg<|za<|e_p (zf yo rfl sz39 rfl rfl)<|e_ru (ze 0 ty39 rfl rfl rfl)<|e_p (zb rfl)<|zh<|zd<|zK ?_
  have hd:yd (yq s l).natAbs=l:=by rw [Big.raw_digs hnn,if_pos (Decidable.not_not.1 hc)]
  exact zx Tryz.results117 (p,cap) trivial (zk rfl) (by rw [hd,hn]) (ho:=(.n:PickO _ _ _)) ((.e (j:=0) rfl (by rw [hd]) .n):SelR _ _ _)
theorem zEb {z:Int} {p:Option Addr} {cap:Nat}:Con yl 117 [.agg #[.bool (decide ((z)<0)),.slice (p) ((yd ((z).natAbs)).length) (cap)]] [] [slF (rI .u32) (p) (cap) (yd ((z).natAbs))] (Y:=(Option Addr)×(Nat)) (fun y=>True) (fun y=> .slice (y.1) ((yd ((z).natAbs)).length) (y.2)) (fun y=>[]) (fun y=>[slF (rI .u32) (y.1) (y.2) (yd ((z).natAbs))]):=by
  have h:= @zSa (decide ((z)<0)) p (yd (z).natAbs).length cap (yd (z).natAbs) rfl
  rw [yy] at h
  exact h
theorem zZf {s:Bool} {p:Option Addr} {n:Nat} {cap:Nat} {l:List Int} (hn:l.length=n) (ho:yt l):Con yl 114 [.bool s,.slice p n cap] [] [slF (rI .u32) p cap l] (Y:=(Option Addr)×Nat) (fun y=>True) (fun y=> .agg #[.bool (decide ((yx s (yf l))<0)),.slice (y.1) ((yd ((yx s (yf l)).natAbs)).length) (y.2)]) (fun y=>[]) (fun y=>[slF (rI .u32) (y.1) (y.2) (yd ((yx s (yf l)).natAbs))]):=by
 refine zn Tryz.func114 rfl rfl rfl (fun c=> ?_)
 show RunC _ _ _ _ _ [(0,.bool s),(1,.slice p n cap)] [] [slF (rI .u32) p cap l]
 refine zia 0 rfl (fun hL0=> ?_)
 have htr:ym l=yd (yx s (yf l)).natAbs:=by rw [Big.sg_abs (Big.valL_nonneg ho),Big.digs_valL ho]
 refine zg<|za<|zO rfl rfl (zp zr41 rfl) (fun b1=> ?_)
 refine zh<|zd<|zg<|za<|e_mv rfl<|zJ rfl rfl (.c rfl .n) ce134 (zDb (p:=p) (n:=n) (cap:=cap) (l:=l) (hn:=ass)) (.c (j:=0) rfl .n) ?_
 rintro ⟨⟩ -
 dsimp only [aq,nq,cq]
 refine e_p (zb rfl)<|zh<|zd<|zg<|zg<|za<|e_mv rfl<|e_p (zQ ye rfl)<|e_p (zCa rfl rfl)<|zh<|zd<|zG rfl (fun h0=> ?_) (fun h0=> ?_)
 ·
  refine zg<|za<|e_p (zM zr41 rfl yo (.c sz4 (.c sz39 .n)) .n .n)<|zo 0 rfl rfl rfl rfl rfl sz41 rfl (.t2 .nil) .z<|zh<|zd<|zK<|zi ?_
  have hz:yf l=0:=Big.trim_zero ho om
  refine zzd (rI .u32) ?_
  exact zx Tryz.results114 (none,0) trivial (zD 0 ty41 rfl rfl (.t2 .nil)) (by rw [hz,Big.sg_zero];rfl) (ho:=(.n:PickO _ _ _)) ((.e (j:=0) rfl (by rw [hz,Big.sg_zero];rfl) .n):SelR _ _ _)
 ·
  refine zt<|zd<|zg<|za<|e_mv rfl<|e_mv rfl<|e_p (zM zr41 rfl yo (.c sz4 (.c sz39 .n)) (.c rfl (.c rfl .n)) (.c rfl rfl rfl (.take .nil) (.c rfl rfl rfl (.skip (.take .nil)) .n)))<|zo 0 rfl rfl rfl rfl rfl sz41 rfl (.t2 .nil) .z<|zh<|zd<|zK ?_
  have hp:0<yf l:=Big.valL_pos ho (fun e=>h0 (by rw [e];rfl))
  exact zx Tryz.results114 (p,cap) trivial (zD 0 ty41 rfl rfl (.t2 .nil)) (by rw [Big.sg_pos hp,htr]) (ho:=(.n:PickO _ _ _)) ((.e (j:=0) rfl (by rw [htr]) .n):SelR _ _ _)
theorem zHa {s:Bool} {a:Nat} {p:Option Addr} {cap:Nat}:Con yl 114 [.bool (s),.slice (p) ((yd (a)).length) (cap)] [] [slF (rI .u32) (p) (cap) (yd (a))] (Y:=(Option Addr)×(Nat)) (fun y=>True) (fun y=> .agg #[.bool (decide ((yx s (a:Int))<0)),.slice (y.1) ((yd ((yx s (a:Int)).natAbs)).length) (y.2)]) (fun y=>[]) (fun y=>[slF (rI .u32) (y.1) (y.2) (yd ((yx s (a:Int)).natAbs))]):=by
  have h:= @zZf s p (yd a).length cap (yd a) rfl (yp a)
  rw [yv] at h
  exact h
theorem zzb {n0:Nat} (hn0:n0<18446744073709551616):Con yl 115 [.int .u64 ((n0:Nat):Int)] [] [] (Y:=(Option Addr)×Nat) (fun y=>True) (fun y=> .slice (y.1) ((yd n0).length) (y.2)) (fun y=>[]) (fun y=>[slF (rI .u32) (y.1) (y.2) (yd n0)]):=by
 refine zn Tryz.func115 rfl rfl rfl (fun c=> ?_)
 show RunC _ _ _ _ _ [(0,.int .u64 ((n0:Nat):Int))] [] []
 refine zg<|za<|e_p (zb rfl)<|zh<|zd<|zg<|za<|e_p (zb rfl)<|zh<|zd<|zg<|zv<|zqb 121 (rI .u32)<|zqa (X:=Nat×(Option Addr)×Nat×(List Int)) (fun x:Nat×(Option Addr)×Nat×(List Int)=>x.1≤n0∧x.2.2.2++yd x.1=yd n0) (fun x=>[(3,.slice (x.2.1) (x.2.2.2.length) (x.2.2.1)),(0,.int .u64 ((x.1:Nat):Int)),(2,.slice none 0 0)]) (fun x=>[rowA 121 (rI .u32) (x.2.1) (x.2.2.1) (x.2.2.2)]) (fun x=>[]) (fun x:Nat×(Option Addr)×Nat×(List Int)=>x.1) (n0,none,0,[]) (show n0≤n0∧([])++yd n0=yd n0 from by exact ⟨Nat.le_refl _,rfl⟩) ((.e rfl (by first|rfl|(congr 1;omega)|simp_all) (.c rfl (.c rfl .n))):SubM _ _) (ho:=((.c (i:=0) rfl .n):PickO _ _ _)) (.n:SelR _ _ _) ?_
 rintro ⟨n,p,c,os⟩ hI
 replace hI:n≤n0∧os++yd n=yd n0:=hI
 try dsimp only
 obtain ⟨hnn,hos⟩:=hI
 have hlen:os.length+(yd n).length≤3:=by have:=congrArg List.length hos;rw [List.length_append] at this;have:=Big.zlf hn0;omega
 refine zg<|zg<|za<|e_mv rfl<|e_p (zBa rfl rfl)<|zh<|zd<|zG rfl (fun hc=> ?_) (fun hc=> ?_)
 ·
  refine zt<|zd<|zg<|zv<|za<|e_mv rfl<|e_mv rfl<|e_p (zya (z:=(((n%1000000000):Nat):Int)) rfl rfl om (remN om om))<|e_p (zL (z:=(((n%1000000000):Nat):Int)) rfl (by rw [yi];rfl) yh (wu32 om))<|zIa rfl rfl (zT (enc:=fun z:Int=>[.int .u32 z]) (ok:=InK .u32) (h1:=fun _=>rfl) (h2:=fun _=>rfl) (k:=1) ye inf121 rfl dd dd dd (.c (x:=(((n%1000000000):Nat):Int)) rfl rfl (fun _ _=>by exact zH.2 om) .n)) (fun b1 _=> ?_)
  refine zma 0 rfl .z<|zLa 1 rfl rfl rfl (zra 0 rfl ye inf121 dd rfl rfl cbs rfl cbs om om) (fun _=>(.s .z)) ?_
  rintro ⟨p2,c3⟩ -
  dsimp only [aq,nq,cq]
  refine e_p (zb rfl)<|zh<|zP<|zd<|za<|e_mv rfl<|e_p (zob (z:=(((n / 1000000000):Nat):Int)) rfl rfl om (by rw [quoN (z:=(((n / 1000000000):Nat):Int)) om om];exact wu64 om))<|e_p (zb rfl)<|zh<|zha ((n / 1000000000),p2,c3,os++[((n%1000000000:Nat):Int)]) (show (n / 1000000000)≤n0∧(os++[((n%1000000000:Nat):Int)])++yd (n / 1000000000)=yd n0 from by exact ⟨by omega,Big.split_step om hos⟩) (by show n / 1000000000<n;omega) ((.e rfl (by simp) (.c rfl (.c rfl .n))):SubM _ _) (ho:=((.e (i:=1) rfl (by first|rfl|(congr 1;omega)|simp_all) .n):PickO _ _ _)) (.n:SelR _ _ _)
 ·
  refine zla<|zj<|zj<|zr<|zd<|zg<|za<|e_mv rfl<|e_p (zb rfl)<|zh<|zd<|zK ?_
  have hz:n=0:=by omega
  subst hz
  have hd:os=yd n0:=by simpa [Big.digs_zero] using hos
  refine zUb 0 rfl .z ?_
  exact zx Tryz.results115 (p,c) trivial (zk rfl) (by rw [hd]) (ho:=(.n:PickO _ _ _)) ((.e (j:=0) rfl (by rw [hd]) .n):SelR _ _ _)
theorem zmg {z:Int} (hz: -9223372036854775808≤z∧z≤9223372036854775807):Con yl 84 [ya yb z] [] [] (Y:=(Option Addr)×Nat) (fun y=>True) (fun y=> .agg #[.bool (decide (z<0)),.slice (y.1) ((yd ((z).natAbs)).length) (y.2)]) (fun y=>[]) (fun y=>[slF (rI .u32) (y.1) (y.2) (yd ((z).natAbs))]):=by
 refine zn Tryz.func84 rfl rfl rfl (fun c=> ?_)
 show RunC _ _ _ _ _ [(0,ya yb z)] [] []
 refine zg<|za<|zO rfl rfl (zp zr41 rfl) (fun b1=> ?_)
 refine zh<|zd<|zg<|za<|e_mv rfl<|e_p (zL (z:=(z%18446744073709551616)) rfl (by rw [Tryz.underlying3];rfl) yi (wu64m om))<|e_p (zb rfl)<|zh<|zd<|zg<|zg<|za<|e_mv rfl<|e_p (zaa rfl rfl)<|zh<|zd<|zG rfl (fun hs=> ?_) (fun hs=> ?_)
 ·
  refine za<|e_mv rfl<|e_p (zwd (z:=((z.natAbs:Nat):Int)) rfl (wu64m om))<|e_p (zb rfl)<|zh<|zd<|zg<|za<|e_mv rfl<|e_p (zaa rfl rfl)<|e_mv rfl<|zJ rfl rfl (.c rfl .n) ce115 (zzb (n0:=z.natAbs) (hn0:=om)) (.n) ?_
  rintro ⟨p22,c23⟩ -
  dsimp only [aq,nq,cq]
  refine zJ rfl rfl (.c rfl (.c rfl .n)) ce114 (zHa (s:=decide (z<0)) (a:=z.natAbs) (p:=p22) (cap:=c23)) (.c (j:=0) rfl .n) ?_
  rintro ⟨p24,c25⟩ -
  dsimp only [aq,nq,cq]
  refine zo 0 rfl rfl rfl rfl rfl sz41 rfl (.t2 .nil) .z<|zh<|zd<|zK ?_
  have hsg:yx (decide (z<0)) (z.natAbs:Int)=z:=Big.sg_big z
  exact zx Tryz.results84 (p24,c25) trivial (zD 0 ty41 rfl rfl (.t2 .nil)) (by rw [hsg]) (ho:=(.n:PickO _ _ _)) ((.e (j:=0) rfl (by rw [hsg]) .n):SelR _ _ _)
 ·
  have e6:((z%18446744073709551616):Int)=((z.natAbs:Nat):Int):=by omega
  rw [e6]
  refine zt<|zd<|zg<|za<|e_mv rfl<|e_p (zaa rfl rfl)<|e_mv rfl<|zJ rfl rfl (.c rfl .n) ce115 (zzb (n0:=z.natAbs) (hn0:=om)) (.n) ?_
  rintro ⟨p27,c28⟩ -
  dsimp only [aq,nq,cq]
  refine zJ rfl rfl (.c rfl (.c rfl .n)) ce114 (zHa (s:=decide (z<0)) (a:=z.natAbs) (p:=p27) (cap:=c28)) (.c (j:=0) rfl .n) ?_
  rintro ⟨p29,c210⟩ -
  dsimp only [aq,nq,cq]
  refine zo 0 rfl rfl rfl rfl rfl sz41 rfl (.t2 .nil) .z<|zh<|zd<|zK ?_
  have hsg:yx (decide (z<0)) (z.natAbs:Int)=z:=Big.sg_big z
  exact zx Tryz.results84 (p29,c210) trivial (zD 0 ty41 rfl rfl (.t2 .nil)) (by rw [hsg]) (ho:=(.n:PickO _ _ _)) ((.e (j:=0) rfl (by rw [hsg]) .n):SelR _ _ _)
theorem zAf {z:Int} (hz: -9223372036854775808≤z∧z≤9223372036854775807):Con yl 84 [ya yb (z)] [] [] (Y:=(Wd)) (fun y=>True) (fun y=> .agg #[y.b,y.l]) (fun y=>[]) (fun y=>[zF y (z)]):=by
  exact zYb (zmg hz)
theorem zRc {a:Nat} {b:Nat} {p1:Option Addr} {c1:Nat} {p2:Option Addr} {c2:Nat} (hb1:(yd a).length≤1099511627776) (hb2:(yd b).length≤1099511627776) (hab:b≤a):Con yl 137 [.slice p1 ((yd a).length) c1,.slice p2 ((yd b).length) c2] [] [slF (rI .u32) p1 c1 (yd a),slF (rI .u32) p2 c2 (yd b)] (Y:=(Option Addr)×Nat) (fun y=>True) (fun y=> .slice (y.1) ((yd (a - b)).length) (y.2)) (fun y=>[]) (fun y=>[slF (rI .u32) (y.1) (y.2) (yd (a - b))]):=by
 refine zn Tryz.func137 rfl rfl rfl (fun c=> ?_)
 show RunC _ _ _ _ _ [(0,.slice p1 ((yd a).length) c1),(1,.slice p2 ((yd b).length) c2)] [] [slF (rI .u32) p1 c1 (yd a),slF (rI .u32) p2 c2 (yd b)]
 refine zia 0 rfl (fun hL0=> ?_)
 refine zia 1 rfl (fun hL1=> ?_)
 refine zg<|za<|e_p (zb rfl)<|zh<|zd<|zg<|za<|e_mv rfl<|e_p (zQ ye rfl)<|zIa rfl rfl (zwb (r:=rI .u32) (k:=(yd a).length) (x0:=0) (γ0:=()) ye inf121 rfl rfl rfl rfl om om rfl (fun g _=>by exact zH.2 dd) dd) (fun b1 _=> ?_)
 refine e_p (zb rfl)<|zh<|zd<|zg<|za<|e_p (zb rfl)<|zh<|zd<|zg<|zg<|za<|e_mv rfl<|e_p (zQ ye rfl)<|e_mv rfl<|zh<|zd<|zv<|zqa (X:=Nat×(List Int)×Int) (fun x:Nat×(List Int)×Int=>x.1≤(yd a).length∧x.2.1.length=x.1∧0≤x.2.2∧x.2.2≤1∧yt x.2.1∧yf x.2.1+yf ((yd b).take x.1)=yf ((yd a).take x.1)+yw x.1*x.2.2) (fun x=>[(6,.int .u32 (x.2.2)),(14,ya yb ((x.1:Nat):Int)),(13,ya yb (((yd a).length:Nat):Int)),(5,.slice (some ⟨b1,0,none⟩) ((yd a).length) ((yd a).length)),(4,.slice none 0 0),(0,.slice p1 ((yd a).length) c1),(1,.slice p2 ((yd b).length) c2)]) (fun x=>[rowA 121 (rI .u32) (some ⟨b1,0,none⟩) ((yd a).length) (x.2.1++List.replicate ((yd a).length - x.1) 0)]) (fun x=>[slF (rI .u32) p1 c1 (yd a),slF (rI .u32) p2 c2 (yd b)]) (fun x:Nat×(List Int)×Int=>(yd a).length - x.1) (0,[],0) (show 0≤(yd a).length∧([]).length=0∧0≤0∧0≤1∧yt ([])∧yf ([])+yf ((yd b).take 0)=yf ((yd a).take 0)+yw 0*0 from by exact ⟨by omega,rfl,by decide,by decide,Big.okL_nil,by simp [yf]⟩) ((.c rfl (.e rfl (by first|rfl|(congr 1;omega)|simp_all) (.of rfl))):SubM _ _) (ho:=((.e (i:=0) rfl (by simp) .n):PickO _ _ _)) ((.of [0,1] rfl):SelR _ _ _) ?_
 rintro ⟨i,os,bo⟩ hI
 replace hI:i≤(yd a).length∧os.length=i∧0≤bo∧bo≤1∧yt os∧yf os+yf ((yd b).take i)=yf ((yd a).take i)+yw i*bo:=hI
 try dsimp only
 obtain ⟨hi,hol,hc0,hc1,hok,hv⟩:=hI
 have hg1:=yn (yp a) i
 have hg2:=yn (yp b) i
 refine zg<|za<|e_p (zaa rfl rfl)<|zh<|zd<|zg<|zG rfl (fun h2=> ?_) (fun h2=> ?_)
 ·
  refine zt<|zd<|zg<|zv<|zg<|za<|e_mv rfl<|e_p (zb rfl)<|zh<|zd<|zg<|za<|e_mv rfl<|e_mv rfl<|zN rfl rfl (.c rfl (.c rfl .n)) ce147 (zwe (p:=p2) (n:=(yd b).length) (cap:=c2) (l:=yd b) (i:=i) (hn:=cbb) (hi:=cbb)) (.c (j:=1) rfl .n)<|e_mv rfl<|e_p (zI (z:=((yd b).getD i 0+bo)) rfl rfl (wu32 om))<|e_p (zb rfl)<|zh<|zd<|zg<|za<|e_p (zb rfl)<|zh<|zd<|zg<|za<|e_mv rfl<|e_mv rfl<|zY (x0:=((yd a).getD i 0)) 0 i rfl ye sz121 rfl rfl rfl (by first|rfl|assumption|(simp;omega)) rfl rfl (gD (d:=0) om) (fun b3 o4 hok5=> ?_)
  replace hok5:=zH.1 hok5
  refine e_ru (zB (j:=0) 0 ty121 rfl rfl rfl rfl)<|e_mv rfl<|e_p (zaa rfl rfl)<|zh<|zd<|zG rfl (fun hc=> ?_) (fun hc=> ?_)
  ·
   refine za<|e_mv rfl<|e_mv rfl<|e_mv rfl<|e_mv rfl<|zY (x0:=((yd a).getD i 0)) 1 i rfl ye sz121 rfl rfl rfl (by first|rfl|assumption|(simp;omega)) rfl rfl (gD (d:=0) om) (fun b6 o7 hok8=> ?_)
   replace hok8:=zH.1 hok8
   refine e_ru (zB (j:=0) 0 ty121 rfl rfl rfl rfl)<|e_p (zI (z:=(((yd a).getD i 0)+1000000000)) rfl rfl (wu32 om))<|e_mv rfl<|e_p (zoa (z:=((((yd a).getD i 0)+1000000000) - ((yd b).getD i 0+bo))) rfl rfl (wu32 om))<|e_p (zpa (j:=i) ye sz121 rfl rfl rfl om)<|zLa 0 rfl rfl rfl (zja (j:=i) (x0:=((((yd a).getD i 0)+1000000000) - ((yd b).getD i 0+bo))) (γ0:=()) rfl rfl (by first|omega|(rw [List.length_map];omega)|(simp only [List.length_set];omega)|(simp;done)|(simp;omega)) rfl rfl sz121 (fun _ _=>by exact zH.2 om)) (fun _=> .z) (fun _ _=> ?_)
   refine e_p (zb rfl)<|zh<|zP<|zd<|za<|e_p (zI (z:=(((i+1):Nat):Int)) rfl rfl (w64 om))<|e_mv rfl<|zh<|zha ((i+1),os++[(yd a).getD i 0+1000000000 - ((yd b).getD i 0+bo)],1) (show (i+1)≤(yd a).length∧(os++[(yd a).getD i 0+1000000000 - ((yd b).getD i 0+bo)]).length=(i+1)∧0≤1∧1≤1∧yt (os++[(yd a).getD i 0+1000000000 - ((yd b).getD i 0+bo)])∧yf (os++[(yd a).getD i 0+1000000000 - ((yd b).getD i 0+bo)])+yf ((yd b).take (i+1))=yf ((yd a).take (i+1))+yw (i+1)*1 from by exact ⟨by omega,by simp [hol],by decide,by decide,yC hok om om,Big.minus_step hol hv om⟩) (by show (yd a).length - (i+1)<(yd a).length - i;omega) ((.of rfl):SubM _ _) (ho:=((.e (i:=0) rfl (by rw [Big.set_pad hol om]) .n):PickO _ _ _)) ((.of [2,3] rfl):SelR _ _ _)
  ·
   refine za<|e_mv rfl<|e_mv rfl<|e_mv rfl<|e_mv rfl<|zY (x0:=((yd a).getD i 0)) 1 i rfl ye sz121 rfl rfl rfl (by first|rfl|assumption|(simp;omega)) rfl rfl (gD (d:=0) om) (fun b9 o10 hok11=> ?_)
   replace hok11:=zH.1 hok11
   refine e_ru (zB (j:=0) 0 ty121 rfl rfl rfl rfl)<|e_mv rfl<|e_p (zoa (z:=(((yd a).getD i 0) - ((yd b).getD i 0+bo))) rfl rfl (wu32 om))<|e_p (zpa (j:=i) ye sz121 rfl rfl rfl om)<|zLa 0 rfl rfl rfl (zja (j:=i) (x0:=(((yd a).getD i 0) - ((yd b).getD i 0+bo))) (γ0:=()) rfl rfl (by first|omega|(rw [List.length_map];omega)|(simp only [List.length_set];omega)|(simp;done)|(simp;omega)) rfl rfl sz121 (fun _ _=>by exact zH.2 om)) (fun _=> .z) (fun _ _=> ?_)
   refine zh<|zP<|zd<|za<|e_p (zI (z:=(((i+1):Nat):Int)) rfl rfl (w64 om))<|e_mv rfl<|zh<|zha ((i+1),os++[(yd a).getD i 0 - ((yd b).getD i 0+bo)],0) (show (i+1)≤(yd a).length∧(os++[(yd a).getD i 0 - ((yd b).getD i 0+bo)]).length=(i+1)∧0≤0∧0≤1∧yt (os++[(yd a).getD i 0 - ((yd b).getD i 0+bo)])∧yf (os++[(yd a).getD i 0 - ((yd b).getD i 0+bo)])+yf ((yd b).take (i+1))=yf ((yd a).take (i+1))+yw (i+1)*0 from by exact ⟨by omega,by simp [hol],by decide,by decide,yC hok om om,Big.minus_step hol hv om⟩) (by show (yd a).length - (i+1)<(yd a).length - i;omega) ((.of rfl):SubM _ _) (ho:=((.e (i:=0) rfl (by rw [Big.set_pad hol om]) .n):PickO _ _ _)) ((.of [2,3] rfl):SelR _ _ _)
 ·
  have e12:os++List.replicate ((yd a).length - i) 0=os:=by rw [show (yd a).length - i=0 by omega];simp
  rw [e12]
  have htr:ym os=yd (a - b):=Big.minus_fin hab hok hc0 hol om hv
  refine zla<|zj<|zj<|zr<|zd<|zg<|za<|e_mv rfl<|zma 0 rfl .z<|zJ rfl rfl (.c rfl .n) ce134 (zDb (p:=some ⟨b1,0,none⟩) (n:=(yd a).length) (cap:=(yd a).length) (l:=os) (hn:=cbb)) (.c (j:=0) rfl .n) ?_
  rintro ⟨⟩ -
  dsimp only [aq,nq,cq]
  refine e_p (zb rfl)<|zh<|zd<|zK ?_
  exact zx Tryz.results137 ((some ⟨b1,0,none⟩),((yd a).length)) trivial (zk rfl) (by rw [htr]) (ho:=(.n:PickO _ _ _)) ((.e (j:=0) rfl (by rw [htr]) .n):SelR _ _ _)
theorem zyg {s:Bool} {t:Bool} {a:Nat} {b:Nat} {p1:Option Addr} {c1:Nat} {p2:Option Addr} {c2:Nat} (hb1:(yd a).length≤1099511627776) (hb2:(yd b).length≤1099511627776):Con yl 116 [.bool s,.slice p1 ((yd a).length) c1,.bool t,.slice p2 ((yd b).length) c2] [] [slF (rI .u32) p1 c1 (yd a),slF (rI .u32) p2 c2 (yd b)] (Y:=(Option Addr)×Nat) (fun y=>True) (fun y=> .agg #[.bool (decide ((yx s (a:Int)+yx t (b:Int))<0)),.slice (y.1) ((yd ((yx s (a:Int)+yx t (b:Int)).natAbs)).length) (y.2)]) (fun y=>[]) (fun y=>[slF (rI .u32) (y.1) (y.2) (yd ((yx s (a:Int)+yx t (b:Int)).natAbs))]):=by
 refine zn Tryz.func116 rfl rfl rfl (fun c=> ?_)
 show RunC _ _ _ _ _ [(0,.bool s),(1,.slice p1 ((yd a).length) c1),(2,.bool t),(3,.slice p2 ((yd b).length) c2)] [] [slF (rI .u32) p1 c1 (yd a),slF (rI .u32) p2 c2 (yd b)]
 refine zia 0 rfl (fun hL0=> ?_)
 refine zia 1 rfl (fun hL1=> ?_)
 refine zg<|za<|zO rfl rfl (zp zr41 rfl) (fun b1=> ?_)
 refine zh<|zd<|zg<|zv<|zg<|za<|e_mv rfl<|e_mv rfl<|e_p (zHc Tryz.underlying4 rfl rfl)<|e_p (zb rfl)<|zh<|zd<|zG rfl (fun hst=> ?_) (fun hst=> ?_)
 ·
  refine zg<|za<|e_mv rfl<|e_mv rfl<|e_mv rfl<|zJ rfl rfl (.c rfl (.c rfl .n)) ce135 (zGd (a:=a) (b:=b) (p1:=p1) (c1:=c1) (p2:=p2) (c2:=c2) (hb1:=ass) (hb2:=ass)) (.c (j:=0) rfl (.c (j:=1) rfl .n)) ?_
  rintro ⟨p32,c33⟩ -
  dsimp only [aq,nq,cq]
  refine zJ rfl rfl (.c rfl (.c rfl .n)) ce114 (zHa (s:=s) (a:=a+b) (p:=p32) (cap:=c33)) (.c (j:=0) rfl .n) ?_
  rintro ⟨p24,c25⟩ -
  dsimp only [aq,nq,cq]
  refine zo 0 rfl rfl rfl rfl rfl sz41 rfl (.t2 .nil) .z<|zh<|zd<|zK<|zm<|zi ?_
  have hz:yx s ((a+b:Nat):Int)=yx s (a:Int)+yx t (b:Int):=by rw [← hst];unfold yx;split <;> omega
  exact zx Tryz.results116 (p24,c25) trivial (zD 0 ty41 rfl rfl (.t2 .nil)) (by rw [hz]) (ho:=(.n:PickO _ _ _)) ((.e (j:=0) rfl (by rw [hz]) .n):SelR _ _ _)
 ·
  refine zg<|za<|e_mv rfl<|e_mv rfl<|zN rfl rfl (.c rfl (.c rfl .n)) ce136 (zbc (a:=a) (b:=b) (p1:=p1) (c1:=c1) (p2:=p2) (c2:=c2)) (.c (j:=0) rfl (.c (j:=1) rfl .n))<|e_p (zGa rfl rfl)<|e_p (zb rfl)<|zh<|zd<|zG rfl (fun hcmp=> ?_) (fun hcmp=> ?_)
  ·
   have hab:b≤a:=by have:=Big.cmp_ge.1 hcmp;omega
   refine zg<|za<|e_mv rfl<|e_mv rfl<|e_mv rfl<|zJ rfl rfl (.c rfl (.c rfl .n)) ce137 (zRc (a:=a) (b:=b) (p1:=p1) (c1:=c1) (p2:=p2) (c2:=c2) (hb1:=ass) (hb2:=ass) (hab:=cbb)) (.c (j:=0) rfl (.c (j:=1) rfl .n)) ?_
   rintro ⟨p36,c37⟩ -
   dsimp only [aq,nq,cq]
   refine zJ rfl rfl (.c rfl (.c rfl .n)) ce114 (zHa (s:=s) (a:=a - b) (p:=p36) (cap:=c37)) (.c (j:=0) rfl .n) ?_
   rintro ⟨p28,c29⟩ -
   dsimp only [aq,nq,cq]
   refine zo 0 rfl rfl rfl rfl rfl sz41 rfl (.t2 .nil) .z<|zh<|zd<|zK<|zm<|zi ?_
   have hz:yx s ((a - b:Nat):Int)=yx s (a:Int)+yx t (b:Int):=by revert hst;unfold yx;cases s <;> cases t <;> simp <;> omega
   exact zx Tryz.results116 (p28,c29) trivial (zD 0 ty41 rfl rfl (.t2 .nil)) (by rw [hz]) (ho:=(.n:PickO _ _ _)) ((.e (j:=0) rfl (by rw [hz]) .n):SelR _ _ _)
  ·
   have hab:a≤b:=by have:¬(b:Int)≤a:=fun h=>hcmp (Big.cmp_ge.2 h);omega
   refine zt<|zP<|zd<|zg<|za<|e_mv rfl<|e_mv rfl<|e_mv rfl<|zJ rfl rfl (.c rfl (.c rfl .n)) ce137 (zRc (a:=b) (b:=a) (p1:=p2) (c1:=c2) (p2:=p1) (c2:=c1) (hb1:=ass) (hb2:=ass) (hab:=cbb)) (.c (j:=1) rfl (.c (j:=0) rfl .n)) ?_
   rintro ⟨p310,c311⟩ -
   dsimp only [aq,nq,cq]
   refine zJ rfl rfl (.c rfl (.c rfl .n)) ce114 (zHa (s:=t) (a:=b - a) (p:=p310) (cap:=c311)) (.c (j:=0) rfl .n) ?_
   rintro ⟨p212,c213⟩ -
   dsimp only [aq,nq,cq]
   refine zo 0 rfl rfl rfl rfl rfl sz41 rfl (.t2 .nil) .z<|zh<|zd<|zK ?_
   have hz:yx t ((b - a:Nat):Int)=yx s (a:Int)+yx t (b:Int):=by revert hst;unfold yx;cases s <;> cases t <;> simp <;> omega
   exact zx Tryz.results116 (p212,c213) trivial (zD 0 ty41 rfl rfl (.t2 .nil)) (by rw [hz]) (ho:=(.n:PickO _ _ _)) ((.e (j:=0) rfl (by rw [hz]) .n):SelR _ _ _)
theorem zHd {a:Nat} {b:Nat} {p1:Option Addr} {c1:Nat} {p2:Option Addr} {c2:Nat} (hb1:(yd a).length≤1099511627776) (hb2:(yd b).length≤1099511627776):Con yl 118 [.slice p1 ((yd a).length) c1,.slice p2 ((yd b).length) c2] [] [slF (rI .u32) p1 c1 (yd a),slF (rI .u32) p2 c2 (yd b)] (Y:=(Option Addr)×Nat) (fun y=>True) (fun y=> .slice (y.1) ((yd (a*b)).length) (y.2)) (fun y=>[]) (fun y=>[slF (rI .u32) (y.1) (y.2) (yd (a*b))]):=by
 refine zn Tryz.func118 rfl rfl rfl (fun c=> ?_)
 show RunC _ _ _ _ _ [(0,.slice p1 ((yd a).length) c1),(1,.slice p2 ((yd b).length) c2)] [] [slF (rI .u32) p1 c1 (yd a),slF (rI .u32) p2 c2 (yd b)]
 refine zia 0 rfl (fun hL0=> ?_)
 refine zia 1 rfl (fun hL1=> ?_)
 have hoa:=yp a
 have hob:=yp b
 refine zg<|za<|e_p (zb rfl)<|zh<|zd<|zg<|za<|e_mv rfl<|e_p (zQ ye rfl)<|e_mv rfl<|e_p (zQ ye rfl)<|e_p (zI (z:=(((((yd a).length)+((yd b).length)):Nat):Int)) rfl rfl (w64 om))<|zIa rfl rfl (zwb (r:=rI .u32) (k:=(((yd a).length)+((yd b).length))) (x0:=0) (γ0:=()) ye inf121 rfl rfl rfl rfl om om rfl (fun g _=>by exact zH.2 dd) dd) (fun b1 _=> ?_)
 refine e_p (zb rfl)<|zh<|zd<|zg<|zg<|za<|e_mv rfl<|e_p (zQ ye rfl)<|e_mv rfl<|zh<|zd<|zv<|zqa (X:=Nat×(List Int)) (fun x:Nat×(List Int)=>x.1≤(yd a).length∧x.2.length=(yd a).length+(yd b).length∧yt x.2∧(∀k,x.1+(yd b).length≤k→x.2.getD k 0=0)∧yf x.2=yf ((yd a).take x.1)*yf (yd b)) (fun x=>[(20,ya yb ((x.1:Nat):Int)),(19,ya yb (((yd a).length:Nat):Int)),(18,.slice p1 ((yd a).length) c1),(5,.slice (some ⟨b1,0,none⟩) (((yd a).length)+((yd b).length)) (((yd a).length)+((yd b).length))),(4,.slice none 0 0),(1,.slice p2 ((yd b).length) c2)]) (fun x=>[rowA 121 (rI .u32) (some ⟨b1,0,none⟩) (((yd a).length)+((yd b).length)) (x.2)]) (fun x=>[slF (rI .u32) p1 c1 (yd a),slF (rI .u32) p2 c2 (yd b)]) (fun x:Nat×(List Int)=>(yd a).length - x.1) (0,List.replicate ((yd a).length+(yd b).length) 0) (show 0≤(yd a).length∧(List.replicate ((yd a).length+(yd b).length) 0).length=(yd a).length+(yd b).length∧yt (List.replicate ((yd a).length+(yd b).length) 0)∧(∀k,0+(yd b).length≤k→(List.replicate ((yd a).length+(yd b).length) 0).getD k 0=0)∧yf (List.replicate ((yd a).length+(yd b).length) 0)=yf ((yd a).take 0)*yf (yd b) from by exact ⟨by omega,by simp,Big.okL_zeros _,fun k _=>Big.getD_zeros _ k,by simp [Big.valL_zeros,yf]⟩) ((.e rfl (by first|rfl|(congr 1;omega)|simp_all) (.of rfl)):SubM _ _) (ho:=((.e (i:=0) rfl (by first|rfl|(congr 1;omega)|simp_all) .n):PickO _ _ _)) ((.of [0,1] rfl):SelR _ _ _) ?_
 rintro ⟨i,os⟩ hI
 replace hI:i≤(yd a).length∧os.length=(yd a).length+(yd b).length∧yt os∧(∀k,i+(yd b).length≤k→os.getD k 0=0)∧yf os=yf ((yd a).take i)*yf (yd b):=hI
 try dsimp only
 obtain ⟨hi,hol,hok,hz,hv⟩:=hI
 have hg1:=yn hoa i
 refine zg<|za<|e_p (zaa rfl rfl)<|zh<|zd<|zg<|zG rfl (fun h2=> ?_) (fun h2=> ?_)
 ·
  refine zt<|zd<|zg<|zv<|zg<|za<|e_mv rfl<|zY (x0:=((yd a).getD i 0)) 0 i rfl ye sz121 rfl rfl rfl (by first|rfl|assumption|(simp;omega)|omega) rfl rfl (gD (d:=0) om) (fun b3 o4 hok5=> ?_)
  replace hok5:=zH.1 hok5
  refine e_ru (zB (j:=0) 0 ty121 rfl rfl rfl rfl)<|e_p (zb rfl)<|e_p (zb rfl)<|zh<|zd<|zg<|za<|e_p (zb rfl)<|zh<|zd<|zg<|zg<|za<|e_mv rfl<|e_p (zQ ye rfl)<|e_mv rfl<|zh<|zd<|zv<|zqa (X:=Nat×(List Int)×Int) (fun x:Nat×(List Int)×Int=>x.1≤(yd b).length∧x.2.1.length=(yd a).length+(yd b).length∧yt x.2.1∧0≤x.2.2∧x.2.2<1000000000∧(∀k,i+(yd b).length≤k→x.2.1.getD k 0=0)∧yf x.2.1+yw (i+x.1)*x.2.2=yf ((yd a).take i)*yf (yd b)+yw i*(yd a).getD i 0*yf ((yd b).take x.1)) (fun x=>[(8,.int .u64 (x.2.2)),(27,ya yb ((x.1:Nat):Int)),(26,ya yb (((yd b).length:Nat):Int)),(25,.slice p2 ((yd b).length) c2),(7,.int .u32 ((yd a).getD i 0)),(6,ya yb ((i:Nat):Int)),(20,ya yb ((i:Nat):Int)),(19,ya yb (((yd a).length:Nat):Int)),(18,.slice p1 ((yd a).length) c1),(5,.slice (some ⟨b1,0,none⟩) (((yd a).length)+((yd b).length)) (((yd a).length)+((yd b).length))),(4,.slice none 0 0),(1,.slice p2 ((yd b).length) c2)]) (fun x=>[rowA 121 (rI .u32) (some ⟨b1,0,none⟩) (((yd a).length)+((yd b).length)) (x.2.1)]) (fun x=>[atF b3 o4 [.int .u32 ((yd a).getD i 0)],slF (rI .u32) p1 c1 (yd a),slF (rI .u32) p2 c2 (yd b)]) (fun x:Nat×(List Int)×Int=>(yd b).length - x.1) (0,os,0) (show 0≤(yd b).length∧os.length=(yd a).length+(yd b).length∧yt os∧0≤0∧0<1000000000∧(∀k,i+(yd b).length≤k→os.getD k 0=0)∧yf os+yw (i+0)*0=yf ((yd a).take i)*yf (yd b)+yw i*(yd a).getD i 0*yf ((yd b).take 0) from by exact ⟨by omega,hol,hok,by decide,by decide,hz,by rw [hv];simp [yf]⟩) ((.c rfl (.e rfl (by first|rfl|(congr 1;omega)|simp_all) (.of rfl))):SubM _ _) (ho:=((.c (i:=0) rfl .n):PickO _ _ _)) ((.of [0,1,2] rfl):SelR _ _ _) ?_
  rintro ⟨j,os2,cy⟩ hJ
  replace hJ:j≤(yd b).length∧os2.length=(yd a).length+(yd b).length∧yt os2∧0≤cy∧cy<1000000000∧(∀k,i+(yd b).length≤k→os2.getD k 0=0)∧yf os2+yw (i+j)*cy=yf ((yd a).take i)*yf (yd b)+yw i*(yd a).getD i 0*yf ((yd b).take j):=hJ
  try dsimp only
  obtain ⟨hj,hol2,hok2,hcy0,hcy1,hz2,hv2⟩:=hJ
  have hg2:=yn hob j
  have hg3:=yn hok2 (i+j)
  have hpq:=Big.mul_lim hg1 hg2
  refine zg<|za<|e_p (zaa rfl rfl)<|zh<|zd<|zg<|zG rfl (fun h6=> ?_) (fun h6=> ?_)
  ·
   refine zt<|zd<|zg<|zv<|zg<|za<|e_mv rfl<|zY (x0:=((yd b).getD j 0)) 2 j rfl ye sz121 rfl rfl rfl (by first|rfl|assumption|(simp;omega)|omega) rfl rfl (gD (d:=0) om) (fun b7 o8 hok9=> ?_)
   replace hok9:=zH.1 hok9
   refine e_ru (zB (j:=0) 0 ty121 rfl rfl rfl rfl)<|e_p (zb rfl)<|e_p (zb rfl)<|zh<|zd<|zg<|za<|e_mv rfl<|e_mv rfl<|e_mv rfl<|e_p (zI (z:=(((i+j):Nat):Int)) rfl rfl (w64 om))<|e_p (zpa (j:=(i+j)) ye sz121 rfl rfl rfl om)<|r_vl rfl rfl (zZ 0 (i+j) rfl ty121 rfl rfl (gD (d:=0) om) rfl) (fun _ hok10=> ?_)
   replace hok10:=zH.1 hok10
   refine e_p (zL (z:=(os2.getD (i+j) 0)) rfl (by rw [yh];rfl) yi (wu64 om))<|e_mv rfl<|e_p (zL (z:=((yd a).getD i 0)) rfl (by rw [yh];rfl) yi (wu64 om))<|e_mv rfl<|e_p (zL (z:=((yd b).getD j 0)) rfl (by rw [yh];rfl) yi (wu64 om))<|e_p (zDa (z:=(((yd a).getD i 0)*((yd b).getD j 0))) rfl rfl (wu64 om))<|e_p (zI (z:=((os2.getD (i+j) 0)+(((yd a).getD i 0)*((yd b).getD j 0)))) rfl rfl (wu64 om))<|e_mv rfl<|e_p (zI (z:=(((os2.getD (i+j) 0)+(((yd a).getD i 0)*((yd b).getD j 0)))+cy)) rfl rfl (wu64 om))<|e_p (zb rfl)<|zh<|zd<|za<|e_mv rfl<|e_mv rfl<|e_mv rfl<|e_p (zI (z:=(((i+j):Nat):Int)) rfl rfl (w64 om))<|e_mv rfl<|e_p (zya (z:=((((os2.getD (i+j) 0)+(((yd a).getD i 0)*((yd b).getD j 0)))+cy)%1000000000)) rfl rfl om (remN om om))<|e_p (zL (z:=((((os2.getD (i+j) 0)+(((yd a).getD i 0)*((yd b).getD j 0)))+cy)%1000000000)) rfl (by rw [yi];rfl) yh (wu32 om))<|e_mv rfl<|e_p (zob (z:=((((os2.getD (i+j) 0)+(((yd a).getD i 0)*((yd b).getD j 0)))+cy) / 1000000000)) rfl rfl om (by rw [quoN (z:=((((os2.getD (i+j) 0)+(((yd a).getD i 0)*((yd b).getD j 0)))+cy) / 1000000000)) om om];exact wu64 om))<|e_p (zpa (j:=(i+j)) ye sz121 rfl rfl rfl om)<|zLa 0 rfl rfl rfl (zja (j:=(i+j)) (x0:=((((os2.getD (i+j) 0)+(((yd a).getD i 0)*((yd b).getD j 0)))+cy)%1000000000)) (γ0:=()) rfl rfl (by first|omega|(rw [List.length_map];omega)|(simp only [List.length_set];omega)|(simp;done)|(simp;omega)) rfl rfl sz121 (fun _ _=>by exact zH.2 om)) (fun _=> .z) (fun _ _=> ?_)
   refine e_p (zb rfl)<|zh<|zP<|zd<|za<|e_p (zI (z:=(((j+1):Nat):Int)) rfl rfl (w64 om))<|e_mv rfl<|zh<|zha ((j+1),os2.set (i+j) ((os2.getD (i+j) 0+(yd a).getD i 0*(yd b).getD j 0+cy)%1000000000),(os2.getD (i+j) 0+(yd a).getD i 0*(yd b).getD j 0+cy) / 1000000000) (show (j+1)≤(yd b).length∧(os2.set (i+j) ((os2.getD (i+j) 0+(yd a).getD i 0*(yd b).getD j 0+cy)%1000000000)).length=(yd a).length+(yd b).length∧yt (os2.set (i+j) ((os2.getD (i+j) 0+(yd a).getD i 0*(yd b).getD j 0+cy)%1000000000))∧0≤((os2.getD (i+j) 0+(yd a).getD i 0*(yd b).getD j 0+cy) / 1000000000)∧((os2.getD (i+j) 0+(yd a).getD i 0*(yd b).getD j 0+cy) / 1000000000)<1000000000∧(∀k,i+(yd b).length≤k→(os2.set (i+j) ((os2.getD (i+j) 0+(yd a).getD i 0*(yd b).getD j 0+cy)%1000000000)).getD k 0=0)∧yf (os2.set (i+j) ((os2.getD (i+j) 0+(yd a).getD i 0*(yd b).getD j 0+cy)%1000000000))+yw (i+(j+1))*((os2.getD (i+j) 0+(yd a).getD i 0*(yd b).getD j 0+cy) / 1000000000)=yf ((yd a).take i)*yf (yd b)+yw i*(yd a).getD i 0*yf ((yd b).take (j+1)) from by exact ⟨by omega,by simpa using hol2,yF hok2 om om,by omega,by omega,fun k hk=>by rw [yB om];exact hz2 k om,Big.mul_step hv2 om om⟩) (by show (yd b).length - (j+1)<(yd b).length - j;omega) ((.e rfl (by first|rfl|(congr 1;omega)|simp_all) (.of rfl)):SubM _ _) (ho:=((.e (i:=0) rfl (by first|rfl|(congr 1;omega)|simp_all) .n):PickO _ _ _)) ((.of [1,2,3] rfl):SelR _ _ _)
  ·
   have hjb:j=(yd b).length:=by omega
   subst hjb
   have hv3:=hv2
   refine zla<|zj<|zj<|zr<|zd<|za<|e_mv rfl<|e_mv rfl<|e_mv rfl<|e_p (zQ ye rfl)<|e_p (zI (z:=(((i+((yd b).length)):Nat):Int)) rfl rfl (w64 om))<|e_mv rfl<|e_p (zL (z:=cy) rfl (by rw [yi];rfl) yh (wu32 om))<|e_p (zpa (j:=(i+((yd b).length))) ye sz121 rfl rfl rfl om)<|zLa 0 rfl rfl rfl (zja (j:=(i+((yd b).length))) (x0:=cy) (γ0:=()) rfl rfl (by first|omega|(rw [List.length_map];omega)|(simp only [List.length_set];omega)|(simp;done)|(simp;omega)) rfl rfl sz121 (fun _ _=>by exact zH.2 om)) (fun _=> .z) (fun _ _=> ?_)
   refine zh<|zP<|zd<|za<|e_p (zI (z:=(((i+1):Nat):Int)) rfl rfl (w64 om))<|e_mv rfl<|zh<|zha ((i+1),os2.set (i+(yd b).length) cy) (show (i+1)≤(yd a).length∧(os2.set (i+(yd b).length) cy).length=(yd a).length+(yd b).length∧yt (os2.set (i+(yd b).length) cy)∧(∀k,(i+1)+(yd b).length≤k→(os2.set (i+(yd b).length) cy).getD k 0=0)∧yf (os2.set (i+(yd b).length) cy)=yf ((yd a).take (i+1))*yf (yd b) from by exact ⟨by omega,by simpa using hol2,yF hok2 om om,fun k hk=>by rw [yB om];exact hz2 k om,Big.mul_round hv3 om (hz2 _ (Nat.le_refl _))⟩) (by show (yd a).length - (i+1)<(yd a).length - i;omega) ((.of rfl):SubM _ _) (ho:=((.e (i:=0) rfl (by first|rfl|(congr 1;omega)|simp_all) .n):PickO _ _ _)) ((.of [1,2] rfl):SelR _ _ _)
 ·
  have hia:i=(yd a).length:=by omega
  have hfin:ym os=yd (a*b):=Big.trimL_of hok (by rw [hv,hia,List.take_length,yv,yv,Int.natCast_mul])
  refine zla<|zj<|zj<|zr<|zd<|zg<|za<|e_mv rfl<|zma 0 rfl .z<|zJ rfl rfl (.c rfl .n) ce134 (zDb (p:=some ⟨b1,0,none⟩) (n:=(((yd a).length)+((yd b).length))) (cap:=(((yd a).length)+((yd b).length))) (l:=os) (hn:=cbb)) (.c (j:=0) rfl .n) ?_
  rintro ⟨⟩ -
  dsimp only [aq,nq,cq]
  refine e_p (zb rfl)<|zh<|zd<|zK ?_
  exact zx Tryz.results118 ((some ⟨b1,0,none⟩),(((yd a).length)+((yd b).length))) trivial (zk rfl) (by rw [hfin]) (ho:=(.n:PickO _ _ _)) ((.e (j:=0) rfl (by rw [hfin]) .n):SelR _ _ _)
theorem zxe {s:Bool} {p:Option Addr} {n:Nat} {cap:Nat} {l:List Int} (hn:l.length=n):Con yl 120 [.agg #[.bool s,.slice p n cap]] [] [slF (rI .u32) p cap l] (Y:=Unit) (fun y=>True) (fun y=> ya yb ((yq s l).sign)) (fun y=>[]) (fun y=>[]):=by
 refine zn Tryz.func120 rfl rfl rfl (fun c=> ?_)
 show RunC _ _ _ _ _ [(0,.agg #[.bool s,.slice p n cap])] [] [slF (rI .u32) p cap l]
 refine zia 0 rfl (fun hL0=> ?_)
 refine zUa 0 rfl (fun hE0=> ?_)
 have hnn:Big.nn l:=fun g hg=>(zH.1 (hE0 g hg)).1
 refine zg<|za<|zO rfl rfl (zS rfl rfl) (fun b1=> ?_)
 refine e_p (zb rfl)<|zh<|zd<|zg<|zv<|zg<|za<|e_ru (zc 0 ty41 rfl rfl (.t2 .nil))<|zJ rfl rfl (.c rfl .n) ce117 (zSa (s:=s) (p:=p) (n:=n) (cap:=cap) (l:=l) (hn:=ass)) (.c (j:=0) rfl .n) ?_
 rintro ⟨p22,c23⟩ -
 dsimp only [aq,nq,cq]
 refine e_p (zQ ye rfl)<|e_p (zCa rfl rfl)<|e_p (zb rfl)<|zh<|zd<|zG rfl (fun h0=> ?_) (fun h0=> ?_)
 ·
  refine zg<|za<|e_p (zb rfl)<|zh<|zd<|zK<|zm<|zi ?_
  exact zx Tryz.results120 () trivial (zk rfl) (by rw [show yq s l=0 by have:=Big.len_digs_nil.1 (show (yd (yq s l).natAbs).length=0 by omega);omega];rfl) (ho:=(.n:PickO _ _ _)) (.n:SelR _ _ _)
 ·
  refine zg<|za<|e_p (zf yo rfl sz4 rfl rfl)<|e_ru (ze 0 ty4 rfl rfl rfl)<|e_p (zb rfl)<|zh<|zd<|zZa rfl (fun hs=> ?_) (fun hs=> ?_)
  ·
   refine zg<|za<|e_p (zb rfl)<|zh<|zd<|zK<|zm<|zi ?_
   exact zx Tryz.results120 () trivial (zk rfl) (by rw [Big.sign_neg hnn hs (by intro e;rw [e] at h0;exact h0 rfl)]) (ho:=(.n:PickO _ _ _)) (.n:SelR _ _ _)
  ·
   refine zt<|zP<|zd<|zg<|za<|e_p (zb rfl)<|zh<|zd<|zK ?_
   exact zx Tryz.results120 () trivial (zk rfl) (by rw [Big.sign_pos hnn hs (by intro e;rw [e] at h0;exact h0 rfl)]) (ho:=(.n:PickO _ _ _)) (.n:SelR _ _ _)
theorem zSc {z:Int} {p:Option Addr} {cap:Nat}:Con yl 120 [.agg #[.bool (decide ((z)<0)),.slice (p) ((yd ((z).natAbs)).length) (cap)]] [] [slF (rI .u32) (p) (cap) (yd ((z).natAbs))] (Y:=Unit) (fun y=>True) (fun y=> ya yb ((z).sign)) (fun y=>[]) (fun y=>[]):=by
  have h:= @zxe (decide ((z)<0)) p (yd (z).natAbs).length cap (yd (z).natAbs) rfl
  rw [yy] at h
  exact h
theorem zTc {w1:Wd} {x1:Int}:Con yl 120 [.agg #[w1.b,w1.l]] [] [zF w1 (x1)] (Y:=Unit) (fun y=>True) (fun y=> ya yb ((x1).sign)) (fun y=>[]) (fun y=>[]):=by
  exact zte (fun p c=>zSc)
theorem zzg {s:Bool} {p1:Option Addr} {n1:Nat} {c1:Nat} {l1:List Int} {t:Bool} {p2:Option Addr} {n2:Nat} {c2:Nat} {l2:List Int} (hn1:l1.length=n1) (hn2:l2.length=n2) (hb1:yH (yq s l1)≤1099511627776) (hb2:yH (yq t l2)≤1099511627776):Con yl 85 [.agg #[.bool s,.slice p1 n1 c1],.agg #[.bool t,.slice p2 n2 c2]] [] [slF (rI .u32) p1 c1 l1,slF (rI .u32) p2 c2 l2] (Y:=(Option Addr)×Nat) (fun y=>True) (fun y=> .agg #[.bool (decide ((yq s l1+yq t l2)<0)),.slice (y.1) ((yd ((yq s l1+yq t l2).natAbs)).length) (y.2)]) (fun y=>[]) (fun y=>[slF (rI .u32) (y.1) (y.2) (yd ((yq s l1+yq t l2).natAbs))]):=by
 refine zn Tryz.func85 rfl rfl rfl (fun c=> ?_)
 show RunC _ _ _ _ _ [(0,.agg #[.bool s,.slice p1 n1 c1]),(1,.agg #[.bool t,.slice p2 n2 c2])] [] [slF (rI .u32) p1 c1 l1,slF (rI .u32) p2 c2 l2]
 refine zia 0 rfl (fun hL0=> ?_)
 refine zUa 0 rfl (fun hE0=> ?_)
 refine zia 1 rfl (fun hL1=> ?_)
 refine zUa 1 rfl (fun hE1=> ?_)
 have hnn1:Big.nn l1:=fun g hg=>(zH.1 (hE0 g hg)).1
 have hnn2:Big.nn l2:=fun g hg=>(zH.1 (hE1 g hg)).1
 refine zg<|za<|zO rfl rfl (zS rfl rfl) (fun b1=> ?_)
 refine zO rfl rfl (zS rfl rfl) (fun b2=> ?_)
 refine zO rfl rfl (zp zr41 rfl) (fun b3=> ?_)
 refine zh<|zd<|zg<|zba (OW:=[boxA b3 41 [wz.b,wz.l]]) (O:=[boxA b2 41 [.bool t,.slice p2 n2 c2],boxA b1 41 [.bool s,.slice p1 n1 c1]]) 9 mixed (.then .ret) kr<|e_pv 0 rfl rfl (zf yo rfl sz4 rfl rfl)<|e_uw 1 rfl rfl (ze 2 ty4 rfl rfl rfl)<|e_uw 2 rfl rfl (zc 2 ty41 rfl rfl (.t2 .nil))<|e_pv 4 rfl rfl (zf yo rfl sz4 rfl rfl)<|e_uw 5 rfl rfl (ze 1 ty4 rfl rfl rfl)<|e_uw 6 rfl rfl (zc 1 ty41 rfl rfl (.t2 .nil))<|e_one 3 (zE rfl rfl rfl rfl (.c rfl .n) ce117 (zSa (s:=s) (p:=p1) (n:=n1) (cap:=c1) (l:=l1) (hn:=ass)) (.c (j:=0) rfl .n) ?_)
 rintro ⟨p24,c25⟩ -
 dsimp only [aq,nq,cq]
 refine e_one 7 (zE rfl rfl rfl rfl (.c rfl .n) ce117 (zSa (s:=t) (p:=p2) (n:=n2) (cap:=c2) (l:=l2) (hn:=ass)) (.c (j:=2) rfl .n) ?_)
 rintro ⟨p26,c27⟩ -
 dsimp only [aq,nq,cq]
 refine e_one 8 (zE rfl rfl rfl rfl (.c rfl (.c rfl (.c rfl (.c rfl .n)))) ce116 (zyg (s:=s) (t:=t) (a:=(yq s l1).natAbs) (b:=(yq t l2).natAbs) (p1:=p24) (c1:=c25) (p2:=p26) (c2:=c27) (hb1:=cbb) (hb2:=cbb)) (.c (j:=1) rfl (.c (j:=0) rfl .n)) ?_)
 rintro ⟨p38,c39⟩ -
 dsimp only [aq,nq,cq]
 refine e_one 9 (zy kr rfl rfl rfl rfl rfl sz41 rfl (.t2 .nil) ?_)
 refine zX kr<|zd<|zK ?_
 have hz:yx s ((yq s l1).natAbs:Int)+yx t ((yq t l2).natAbs:Int)=yq s l1+yq t l2:=by rw [Big.sg_raw hnn1,Big.sg_raw hnn2]
 exact zx Tryz.results85 (p38,c39) trivial (zD 0 ty41 rfl rfl (.t2 .nil)) (by rw [hz]) (ho:=(.n:PickO _ _ _)) ((.e (j:=0) rfl (by rw [hz]) .n):SelR _ _ _)
theorem zag {x1:Int} {x2:Int} {p1:Option Addr} {c1:Nat} {p2:Option Addr} {c2:Nat} (hb1:yH x1≤1099511627776) (hb2:yH x2≤1099511627776):Con yl 85 [.agg #[.bool (decide ((x1)<0)),.slice (p1) ((yd ((x1).natAbs)).length) (c1)],.agg #[.bool (decide ((x2)<0)),.slice (p2) ((yd ((x2).natAbs)).length) (c2)]] [] [slF (rI .u32) (p1) (c1) (yd ((x1).natAbs)),slF (rI .u32) (p2) (c2) (yd ((x2).natAbs))] (Y:=(Option Addr)×(Nat)) (fun y=>True) (fun y=> .agg #[.bool (decide ((x1+x2)<0)),.slice (y.1) ((yd ((x1+x2).natAbs)).length) (y.2)]) (fun y=>[]) (fun y=>[slF (rI .u32) (y.1) (y.2) (yd ((x1+x2).natAbs))]):=by
  have h:= @zzg (decide ((x1)<0)) p1 (yd (x1).natAbs).length c1 (yd (x1).natAbs) (decide ((x2)<0)) p2 (yd (x2).natAbs).length c2 (yd (x2).natAbs) rfl rfl (by rw [yy];exact hb1) (by rw [yy];exact hb2)
  rw [yy,yy] at h
  exact h
theorem zbg {w1:Wd} {w2:Wd} {x1:Int} {x2:Int} (hb1:yH x1≤1099511627776) (hb2:yH x2≤1099511627776):Con yl 85 [.agg #[w1.b,w1.l],.agg #[w2.b,w2.l]] [] [zF w1 (x1),zF w2 (x2)] (Y:=(Wd)) (fun y=>True) (fun y=> .agg #[y.b,y.l]) (fun y=>[]) (fun y=>[zF y (x1+x2)]):=by
  exact zYb (zCc (fun p1 c1 p2 c2=>zag hb1 hb2))
theorem zAg {s:Bool} {p1:Option Addr} {n1:Nat} {c1:Nat} {l1:List Int} {t:Bool} {p2:Option Addr} {n2:Nat} {c2:Nat} {l2:List Int} (hn1:l1.length=n1) (hn2:l2.length=n2) (hb1:yH (yq s l1)≤1099511627776) (hb2:yH (yq t l2)≤1099511627776):Con yl 86 [.agg #[.bool s,.slice p1 n1 c1],.agg #[.bool t,.slice p2 n2 c2]] [] [slF (rI .u32) p1 c1 l1,slF (rI .u32) p2 c2 l2] (Y:=(Option Addr)×Nat) (fun y=>True) (fun y=> .agg #[.bool (decide ((yq s l1*yq t l2)<0)),.slice (y.1) ((yd ((yq s l1*yq t l2).natAbs)).length) (y.2)]) (fun y=>[]) (fun y=>[slF (rI .u32) (y.1) (y.2) (yd ((yq s l1*yq t l2).natAbs))]):=by
 refine zn Tryz.func86 rfl rfl rfl (fun c=> ?_)
 show RunC _ _ _ _ _ [(0,.agg #[.bool s,.slice p1 n1 c1]),(1,.agg #[.bool t,.slice p2 n2 c2])] [] [slF (rI .u32) p1 c1 l1,slF (rI .u32) p2 c2 l2]
 refine zia 0 rfl (fun hL0=> ?_)
 refine zUa 0 rfl (fun hE0=> ?_)
 refine zia 1 rfl (fun hL1=> ?_)
 refine zUa 1 rfl (fun hE1=> ?_)
 have hnn1:Big.nn l1:=fun g hg=>(zH.1 (hE0 g hg)).1
 have hnn2:Big.nn l2:=fun g hg=>(zH.1 (hE1 g hg)).1
 refine zg<|za<|zO rfl rfl (zS rfl rfl) (fun b1=> ?_)
 refine zO rfl rfl (zS rfl rfl) (fun b2=> ?_)
 refine zO rfl rfl (zp zr41 rfl) (fun b3=> ?_)
 refine zh<|zd<|zg<|zba (OW:=[boxA b3 41 [wz.b,wz.l]]) (O:=[boxA b2 41 [.bool t,.slice p2 n2 c2],boxA b1 41 [.bool s,.slice p1 n1 c1]]) 11 mixed (.then .ret) kr<|e_pv 0 rfl rfl (zf yo rfl sz4 rfl rfl)<|e_uw 1 rfl rfl (ze 2 ty4 rfl rfl rfl)<|e_pv 2 rfl rfl (zf yo rfl sz4 rfl rfl)<|e_uw 3 rfl rfl (ze 1 ty4 rfl rfl rfl)<|e_pv 4 rfl rfl (zRa Tryz.underlying4 rfl rfl)<|e_uw 5 rfl rfl (zc 2 ty41 rfl rfl (.t2 .nil))<|e_uw 7 rfl rfl (zc 1 ty41 rfl rfl (.t2 .nil))<|e_one 6 (zE rfl rfl rfl rfl (.c rfl .n) ce117 (zSa (s:=s) (p:=p1) (n:=n1) (cap:=c1) (l:=l1) (hn:=ass)) (.c (j:=0) rfl .n) ?_)
 rintro ⟨p24,c25⟩ -
 dsimp only [aq,nq,cq]
 refine e_one 8 (zE rfl rfl rfl rfl (.c rfl .n) ce117 (zSa (s:=t) (p:=p2) (n:=n2) (cap:=c2) (l:=l2) (hn:=ass)) (.c (j:=2) rfl .n) ?_)
 rintro ⟨p26,c27⟩ -
 dsimp only [aq,nq,cq]
 refine e_one 9 (zE rfl rfl rfl rfl (.c rfl (.c rfl .n)) ce118 (zHd (a:=(yq s l1).natAbs) (b:=(yq t l2).natAbs) (p1:=p24) (c1:=c25) (p2:=p26) (c2:=c27) (hb1:=cbb) (hb2:=cbb)) (.c (j:=1) rfl (.c (j:=0) rfl .n)) ?_)
 rintro ⟨p38,c39⟩ -
 dsimp only [aq,nq,cq]
 refine e_one 10 (zE rfl rfl rfl rfl (.c rfl (.c rfl .n)) ce114 (zHa (s:=decide (s≠t)) (a:=((yq s l1).natAbs)*((yq t l2).natAbs)) (p:=p38) (cap:=c39)) (.c (j:=0) rfl .n) ?_)
 rintro ⟨p210,c211⟩ -
 dsimp only [aq,nq,cq]
 refine e_one 11 (zy kr rfl rfl rfl rfl rfl sz41 rfl (.t2 .nil) ?_)
 refine zX kr<|zd<|zK ?_
 have hz:yx (decide (s≠t)) (((yq s l1).natAbs*(yq t l2).natAbs:Nat):Int)=yq s l1*yq t l2:=by rw [Big.sg_mul,Big.sg_raw hnn1,Big.sg_raw hnn2]
 exact zx Tryz.results86 (p210,c211) trivial (zD 0 ty41 rfl rfl (.t2 .nil)) (by rw [hz]) (ho:=(.n:PickO _ _ _)) ((.e (j:=0) rfl (by rw [hz]) .n):SelR _ _ _)
theorem zcg {x1:Int} {x2:Int} {p1:Option Addr} {c1:Nat} {p2:Option Addr} {c2:Nat} (hb1:yH x1≤1099511627776) (hb2:yH x2≤1099511627776):Con yl 86 [.agg #[.bool (decide ((x1)<0)),.slice (p1) ((yd ((x1).natAbs)).length) (c1)],.agg #[.bool (decide ((x2)<0)),.slice (p2) ((yd ((x2).natAbs)).length) (c2)]] [] [slF (rI .u32) (p1) (c1) (yd ((x1).natAbs)),slF (rI .u32) (p2) (c2) (yd ((x2).natAbs))] (Y:=(Option Addr)×(Nat)) (fun y=>True) (fun y=> .agg #[.bool (decide ((x1*x2)<0)),.slice (y.1) ((yd ((x1*x2).natAbs)).length) (y.2)]) (fun y=>[]) (fun y=>[slF (rI .u32) (y.1) (y.2) (yd ((x1*x2).natAbs))]):=by
  have h:= @zAg (decide ((x1)<0)) p1 (yd (x1).natAbs).length c1 (yd (x1).natAbs) (decide ((x2)<0)) p2 (yd (x2).natAbs).length c2 (yd (x2).natAbs) rfl rfl (by rw [yy];exact hb1) (by rw [yy];exact hb2)
  rw [yy,yy] at h
  exact h
theorem zFb {w1:Wd} {w2:Wd} {x1:Int} {x2:Int} (hb1:yH x1≤1099511627776) (hb2:yH x2≤1099511627776):Con yl 86 [.agg #[w1.b,w1.l],.agg #[w2.b,w2.l]] [] [zF w1 (x1),zF w2 (x2)] (Y:=(Wd)) (fun y=>True) (fun y=> .agg #[y.b,y.l]) (fun y=>[]) (fun y=>[zF y (x1*x2)]):=by
  exact zYb (zCc (fun p1 c1 p2 c2=>zcg hb1 hb2))
end Go.Proofs.YtjcpbhlijoigfaaGreat.Sp
namespace Go.Proofs.YtjcpbhlijoigfaaGreat.Sp
open Go
set_option linter.unusedVariables false
set_option maxRecDepth 100000
set_option maxHeartbeats 8000000
theorem zBg {p:Option Addr} {n:Nat} {cap:Nat} {l:List Int} (hn:l.length=n) (hb:n≤2199023255552):Con yl 153 [.slice p n cap] [] [slF (rI .u32) p cap l] (Y:=(Option Addr)×Nat) (fun y=>True) (fun y=> .slice (y.1) (l.length) (y.2)) (fun y=>[]) (fun y=>[slF (rI .u32) (y.1) (y.2) l]):=by
 refine zn Tryz.func153 rfl rfl rfl (fun c=> ?_)
 show RunC _ _ _ _ _ [(0,.slice p n cap)] [] [slF (rI .u32) p cap l]
 refine zia 0 rfl (fun hL0=> ?_)
 refine c_nil 0 rfl (fun hnil=> ?_)
 refine zg<|za<|e_p (zb rfl)<|zh<|zd<|zg<|zg<|za<|e_mv rfl<|e_p (zAd ye rfl rfl)<|zh<|zd<|zZa rfl (fun h0=> ?_) (fun h0=> ?_)
 ·
  refine zg<|za<|e_p (zb rfl)<|zh<|zd<|zK<|zi ?_
  obtain rfl:l=[]:=hnil (by simpa using h0)
  refine zzd (rI .u32) ?_
  exact zx Tryz.results153 (none,0) trivial (zk rfl) rfl (ho:=(.n:PickO _ _ _)) ((.c (j:=0) rfl .n):SelR _ _ _)
 ·
  refine zt<|zd<|zg<|za<|zIa rfl rfl (zta (rI .u32) ye inf121) (fun b1 _=> ?_)
  refine e_mv rfl<|zLa 0 rfl rfl rfl (zra 0 rfl ye inf121 dd rfl rfl cbs rfl cbs (by first|omega|(simp;omega)) (by first|omega|(simp;omega))) (fun _=> .z) ?_
  rintro ⟨p2,c3⟩ -
  dsimp only [aq,nq,cq]
  refine e_p (zb rfl)<|zh<|zd<|zK<|zUb 0 rfl .z ?_
  exact zx Tryz.results153 (p2,c3) trivial (zk rfl) (by simp [hn]) (ho:=(.n:PickO _ _ _)) ((.c (j:=0) rfl .n):SelR _ _ _)
theorem zpd {a:Nat} {p:Option Addr} {cap:Nat} (hb:(yd (a)).length≤2199023255552):Con yl 153 [.slice (p) ((yd (a)).length) (cap)] [] [slF (rI .u32) (p) (cap) (yd (a))] (Y:=(Option Addr)×(Nat)) (fun y=>True) (fun y=> .slice (y.1) ((yd (a)).length) (y.2)) (fun y=>[]) (fun y=>[slF (rI .u32) (y.1) (y.2) (yd (a))]):=by
  exact zBg rfl hb
theorem zEc {a:Nat} {p:Option Addr} {cap:Nat}:Con yl 154 [.slice p ((yd a).length) cap] [] [slF (rI .u32) p cap (yd a)] (Y:=Unit) (fun y=>True) (fun y=> .tuple #[.int .u64 (((if (yd a).length≤2 then a else 0):Nat):Int),.bool (decide ((yd a).length≤2))]) (fun y=>[]) (fun y=>[]):=by
 refine zsc Tryz.func154 rfl rfl rfl (fun c=> ?_)
 show RunC _ _ _ _ _ [(0,.slice p ((yd a).length) cap)] [] [slF (rI .u32) p cap (yd a)]
 refine zia 0 rfl (fun hL0=> ?_)
 refine zg<|za<|e_p (zb rfl)<|e_p (zb rfl)<|zh<|zd<|zg<|zg<|za<|e_mv rfl<|e_p (zQ ye rfl)<|e_p (zBa rfl rfl)<|zh<|zd<|zG rfl (fun hgt=> ?_) (fun hgt=> ?_)
 ·
  refine zg<|za<|e_p (zb rfl)<|e_p (zb rfl)<|zh<|zd<|zK<|zi<|zbf ?_
  exact zAa Tryz.results154 () trivial (zk rfl) (zk rfl) (by rw [if_neg om,decide_eq_false (show ¬(yd a).length≤2 by omega)];rfl) (ho:=(.n:PickO _ _ _)) (.n:SelR _ _ _)
 ·
  have hle:(yd a).length≤2:=by omega
  have h18:=Big.two_lt hle
  refine zt<|zd<|zg<|za<|zO rfl rfl (zp zr120 rfl) (fun b1=> ?_)
  refine zo 0 rfl rfl rfl rfl rfl sz120 rfl (.take .nil) .z<|zh<|zd<|zg<|zg<|za<|e_mv rfl<|zJ rfl rfl (.c rfl .n) ce149 (zQb (p:=p) (n:=(yd a).length) (cap:=cap)) (.n) ?_
  rintro b2 -
  dsimp only [aq,nq,cq]
  refine zh<|zd<|zv<|zYd (fa:=[atF b2 0 [.slice p ((yd a).length) cap],slF (rI .u32) p cap (yd a)]) (N:=((yd a).length)) (encs:=fun k=>[ya yb ((k:Nat):Int),.int .u32 ((yd a).getD k 0)]) rfl ce157 (back_u32 cbs) (fun _=>rfl) rfl (X:=Int) (Y:=Unit) (fun x k=>k≤(yd a).length∧x=yf ((yd a).drop k)∧0≤x∧x*yw k≤(a:Int)) (fun y=>False) (fun x=>[boxA b1 120 [.int .u64 x]]) (fun x=>[]) (fun y=>[]) (fun y=>[]) (fun k=>[(6,.int .u32 ((yd a).getD k 0)),(13,.int .u32 ((yd a).getD k 0)),(12,ya yb ((k:Nat):Int)),(11,.func (.func 157) #[] #[yc (some ⟨b2,0,none⟩)]),(10,.slice p ((yd a).length) cap),(4,yc (some ⟨b1,0,none⟩)),(9,.bool (decide (2<(((yd a).length:Nat):Int)))),(8,ya yb (((yd a).length:Nat):Int)),(7,.slice p ((yd a).length) cap),(3,.bool false),(2,.int .u64 0),(0,.slice p ((yd a).length) cap)]) (0:Int) (show ((yd a).length)≤(yd a).length∧(0:Int)=yf ((yd a).drop ((yd a).length))∧0≤(0:Int)∧(0:Int)*yw ((yd a).length)≤(a:Int) from by exact ⟨Nat.le_refl _,by simp [yf],Int.le_refl _,by simp⟩) (ho:=((.e (i:=0) rfl (by first|rfl|(congr 1;omega)|simp_all) .n):PickO _ _ _)) ((.of [0,1] rfl):SelR _ _ _) ?_ ?_ ?_ ?_
  ·
   intro l k O' R' Q' hP
   refine za<|e_p (zb rfl)<|zh ?_
   exact hP
  ·
   rintro l3 D4 o5 o6 z k hkN hI
   replace hI:(k+1)≤(yd a).length∧z=yf ((yd a).drop (k+1))∧0≤z∧z*yw (k+1)≤(a:Int):=hI
   try dsimp only
   obtain ⟨hk,hz,hz0,hzp⟩:=hI
   have hg:=yn (yp a) k
   have hlim:=Big.word_lim hle (show k+1≤(yd a).length by omega) hz0 hzp
   refine zv<|za<|e_ru (ze 2 ty120 rfl rfl rfl)<|e_p (zDa (z:=(z*1000000000)) rfl rfl (wu64 om))<|e_mv rfl<|e_p (zL (z:=((yd a).getD k 0)) rfl (by rw [yh];rfl) yi (wu64 om))<|e_p (zI (z:=((z*1000000000)+((yd a).getD k 0))) rfl rfl (wu64 om))<|zo 2 rfl rfl rfl rfl rfl sz120 rfl (.take .nil) (.s (.s .z))<|zh<|zP ?_
   exact zWd (z*1000000000+(yd a).getD k 0) (show k≤(yd a).length∧(z*1000000000+(yd a).getD k 0)=yf ((yd a).drop k)∧0≤(z*1000000000+(yd a).getD k 0)∧(z*1000000000+(yd a).getD k 0)*yw k≤(a:Int) from by exact ⟨by omega,by rw [hz];exact Big.word_step k,by omega,Big.word_keep (show k+1≤(yd a).length by omega) hz⟩) (ho:=((.c (i:=0) rfl (.c (i:=0) rfl (.e (i:=0) rfl (by first|rfl|(congr 1;omega)|simp_all) .n))):PickO _ _ _)) ((.of [0,1] rfl):SelR _ _ _)
  ·
   rintro D7 z hI
   replace hI:0≤(yd a).length∧z=yf ((yd a).drop 0)∧0≤z∧z*yw 0≤(a:Int):=hI
   try dsimp only
   have hz9:z=(a:Int):=by rw [hI.2.1,List.drop_zero,yv]
   refine zP<|zd<|zg<|za<|e_ru (ze 1 ty120 rfl rfl rfl)<|e_p (zb rfl)<|e_p (zb rfl)<|zh<|zd<|zK<|zse 0 rfl rfl ?_
   exact zAa Tryz.results154 () trivial (zk rfl) (zk rfl) (by rw [if_pos hle,decide_eq_true hle,hz9]) (ho:=(.n:PickO _ _ _)) (.n:SelR _ _ _)
  ·
   intro _ _ h;exact h.elim
theorem zId {a:Nat} {mm:Nat} {p:Option Addr} {cap:Nat} (hb:(yd a).length≤1099511627776) (hm0:0<mm) (hm1:mm<4294967296):Con yl 160 [.slice p ((yd a).length) cap,.int .u32 ((mm:Nat):Int)] [] [slF (rI .u32) p cap (yd a)] (Y:=(Option Addr)×Nat) (fun y=>True) (fun y=> .tuple #[.slice (y.1) ((yd (a / mm)).length) (y.2),.int .u32 (((a%mm):Nat):Int)]) (fun y=>[]) (fun y=>[slF (rI .u32) (y.1) (y.2) (yd (a / mm))]):=by
 refine zsc Tryz.func160 rfl rfl rfl (fun c=> ?_)
 show RunC _ _ _ _ _ [(0,.slice p ((yd a).length) cap),(1,.int .u32 ((mm:Nat):Int))] [] [slF (rI .u32) p cap (yd a)]
 refine zia 0 rfl (fun hL0=> ?_)
 refine zg<|za<|zO rfl rfl (zS rfl rfl) (fun b1=> ?_)
 refine zO rfl rfl (zp zr39 rfl) (fun b2=> ?_)
 refine e_p (zb rfl)<|zh<|zd<|zg<|za<|e_mv rfl<|e_p (zQ ye rfl)<|zIa rfl rfl (zwb (r:=rI .u32) (k:=(yd a).length) (x0:=0) (γ0:=()) ye inf121 rfl rfl rfl rfl om om rfl (fun g _=>by exact zH.2 dd) dd) (fun b3 _=> ?_)
 refine zo 1 rfl rfl rfl rfl rfl sz39 rfl (.take .nil) (.s .z)<|zh<|zd<|zg<|za<|zO rfl rfl (zp zr120 rfl) (fun b4=> ?_)
 refine zo 0 rfl rfl rfl rfl rfl sz120 rfl (.take .nil) .z<|zh<|zd<|zg<|zg<|za<|e_mv rfl<|zJ rfl rfl (.c rfl .n) ce149 (zQb (p:=p) (n:=(yd a).length) (cap:=cap)) (.n) ?_
 rintro b5 -
 dsimp only [aq,nq,cq]
 refine zh<|zd<|zv<|zYd (fa:=[atF b5 0 [.slice p ((yd a).length) cap],slF (rI .u32) p cap (yd a)]) (N:=((yd a).length)) (encs:=fun k=>[ya yb ((k:Nat):Int),.int .u32 ((yd a).getD k 0)]) rfl ce157 (back_u32 (by first|rfl|assumption|(simp;done)|omega)) (fun _=>rfl) rfl (X:=(List Int)×(List Int)×Int) (Y:=Unit) (fun x k=>x.1=List.replicate k 0++x.2.1∧Big.ShI (yd a) (mm:Int) k x.2.1 x.2.2) (fun y=>False) (fun x=>[boxA b4 120 [.int .u64 (x.2.2)],rowA 121 (rI .u32) (some ⟨b3,0,none⟩) ((yd a).length) (x.1),boxA b2 39 [.slice (some ⟨b3,0,none⟩) ((yd a).length) ((yd a).length)],boxA b1 121 [.int .u32 ((mm:Nat):Int)]]) (fun x=>[]) (fun y=>[]) (fun y=>[]) (fun k=>[(8,.int .u32 ((yd a).getD k 0)),(7,ya yb ((k:Nat):Int)),(16,.int .u32 ((yd a).getD k 0)),(15,ya yb ((k:Nat):Int)),(14,.func (.func 157) #[] #[yc (some ⟨b5,0,none⟩)]),(13,.slice p ((yd a).length) cap),(6,yc (some ⟨b4,0,none⟩)),(12,.slice (some ⟨b3,0,none⟩) ((yd a).length) ((yd a).length)),(11,ya yb (((yd a).length:Nat):Int)),(10,.slice p ((yd a).length) cap),(5,.int .u32 0),(4,yc (some ⟨b2,0,none⟩)),(3,yc (some ⟨b1,0,none⟩)),(0,.slice p ((yd a).length) cap),(1,.int .u32 ((mm:Nat):Int))]) ((List.replicate (yd a).length 0),([]:List Int),(0:Int)) (show (List.replicate (yd a).length 0)=List.replicate ((yd a).length) 0++([]:List Int)∧Big.ShI (yd a) (mm:Int) ((yd a).length) ([]:List Int) (0:Int) from by exact ⟨by simp,Big.ShI.start om⟩) (ho:=((.e (i:=0) rfl (by first|rfl|(congr 1;omega)|simp_all) (.e (i:=0) rfl (by first|rfl|(congr 1;omega)|simp_all) (.of [0,0] rfl))):PickO _ _ _)) ((.of [0,1] rfl):SelR _ _ _) ?_ ?_ ?_ ?_
 ·
  intro l k O' R' Q' hP
  refine zg<|za<|e_p (zb rfl)<|zh<|zd<|za<|e_p (zb rfl)<|zh ?_
  exact hP
 ·
  rintro l6 D7 o8 o9 ⟨os,qs,z⟩ k hkN hI
  replace hI:os=List.replicate (k+1) 0++qs∧Big.ShI (yd a) (mm:Int) (k+1) qs z:=hI
  try dsimp only
  obtain ⟨hos,hS⟩:=hI
  have hz0:=hS.r0
  have hz1:=hS.r1
  have hkle:=hS.le
  have hosl:os.length=(yd a).length:=by rw [hos,List.length_append,List.length_replicate,hS.len];omega
  have hg:=yn (yp a) k
  have hdg:=Big.sh_digit hz0 hz1 hg
  have hrm:=Int.emod_lt_of_pos (z*1000000000+(yd a).getD k 0) (show 0<(mm:Int) by omega)
  have hrm0:=Int.emod_nonneg (z*1000000000+(yd a).getD k 0) (show (mm:Int)≠0 by omega)
  refine zv<|zg<|za<|e_ru (ze 2 ty120 rfl rfl rfl)<|e_p (zDa (z:=(z*1000000000)) rfl rfl (wu64 om))<|e_mv rfl<|e_p (zL (z:=((yd a).getD k 0)) rfl (by rw [yh];rfl) yi (wu64 om))<|e_p (zI (z:=((z*1000000000)+((yd a).getD k 0))) rfl rfl (wu64 om))<|e_p (zb rfl)<|zh<|zd<|zxa (.c (i:=3) rfl (.c (i:=2) rfl (.c (i:=0) rfl (.c (i:=0) rfl (.c (i:=0) rfl (.c (i:=0) rfl .n))))))<|zif (OW:=[rowA 121 (rI .u32) (some ⟨b3,0,none⟩) ((yd a).length) os,boxA b4 120 [.int .u64 z]]) (O:=[objA l6 o8,objA D7 o9,boxA b2 39 [.slice (some ⟨b3,0,none⟩) ((yd a).length) ((yd a).length)],boxA b1 121 [.int .u32 ((mm:Nat):Int)]]) 12 mixed kr kr<|e_uw 0 rfl rfl (ze 4 ty39 rfl rfl rfl)<|e_dm 1 rfl rfl rfl<|e_dm 2 rfl rfl rfl<|e_uw 3 rfl rfl (ze 5 ty121 rfl rfl rfl)<|e_pv 4 rfl rfl (zL (z:=((mm:Nat):Int)) rfl (by rw [yh];rfl) yi (wu64 om))<|e_pv 5 rfl rfl (zob (z:=(((z*1000000000)+((yd a).getD k 0)) / ((mm:Nat):Int))) rfl rfl om (by rw [quoN (z:=(((z*1000000000)+((yd a).getD k 0)) / ((mm:Nat):Int))) om om];exact wu64 om))<|e_pv 6 rfl rfl (zL (z:=(((z*1000000000)+((yd a).getD k 0)) / ((mm:Nat):Int))) rfl (by rw [yi];rfl) yh (wu32 om))<|e_dm 7 rfl rfl rfl<|e_u 8 rfl rfl (ze 3 ty121 rfl rfl rfl)<|e_pv 9 rfl rfl (zL (z:=((mm:Nat):Int)) rfl (by rw [yh];rfl) yi (wu64 om))<|e_pv 10 rfl rfl (zya (z:=(((z*1000000000)+((yd a).getD k 0))%((mm:Nat):Int))) rfl rfl om (remN om om))<|e_pv 11 rfl rfl (zpa (j:=k) ye sz121 rfl rfl rfl om)<|e_one 12 (znd (A':=fun _=>rowA 121 (rI .u32) (some ⟨b3,0,none⟩) ((yd a).length) (os.set k (((z*1000000000)+((yd a).getD k 0)) / ((mm:Nat):Int)))) kr rfl rfl rfl (zja (j:=k) (x0:=(((z*1000000000)+((yd a).getD k 0)) / ((mm:Nat):Int))) (γ0:=()) rfl rfl (by first|omega|(rw [List.length_map];omega)|(simp only [List.length_set];omega)|(simp;done)|(simp;omega)) rfl rfl sz121 (fun _ _=>by exact zH.2 om)) (fun _ _=> ?_))
  refine zbb (zga (i:=1) rfl)<|e_one 13 (zy kr rfl rfl rfl rfl rfl sz120 rfl (.take .nil) ?_)
  refine zjf kr<|zP ?_
  exact zWd ((os.set k (((z*1000000000)+((yd a).getD k 0)) / ((mm:Nat):Int))),((z*1000000000+(yd a).getD k 0) / (mm:Int) :: qs),((z*1000000000+(yd a).getD k 0)%(mm:Int))) (show (os.set k (((z*1000000000)+((yd a).getD k 0)) / ((mm:Nat):Int)))=List.replicate k 0++((z*1000000000+(yd a).getD k 0) / (mm:Int) :: qs)∧Big.ShI (yd a) (mm:Int) k ((z*1000000000+(yd a).getD k 0) / (mm:Int) :: qs) ((z*1000000000+(yd a).getD k 0)%(mm:Int)) from by exact ⟨by rw [hos];exact Big.pad_set _,hS.step (yp a)⟩) (ho:=((.c (i:=2) rfl (.c (i:=2) rfl (.e (i:=0) rfl (by first|rfl|(congr 1;omega)|simp_all) (.of [0,0,0] rfl)))):PickO _ _ _)) ((.of [0,1] rfl):SelR _ _ _)
 ·
  rintro D10 ⟨os,qs,z⟩ hI
  replace hI:os=List.replicate 0 0++qs∧Big.ShI (yd a) (mm:Int) 0 qs z:=hI
  try dsimp only
  obtain ⟨hos,hS⟩:=hI
  obtain ⟨hf1,hf2⟩:=hS.fin
  have hoq:os=qs:=by simpa using hos
  have htr:ym os=yd (a / mm):=by rw [hoq];exact hf1
  have hosl:os.length=(yd a).length:=by rw [hoq,hS.len];omega
  have hzr:=hS.r1
  have hzr0:=hS.r0
  refine zP<|zd<|zg<|zxa (.c (i:=3) rfl (.c (i:=0) rfl (.c (i:=0) rfl (.c (i:=0) rfl (.c (i:=0) rfl .n)))))<|zif (OW:=[boxA b2 39 [.slice (some ⟨b3,0,none⟩) ((yd a).length) ((yd a).length)]]) (O:=[objA D10 (.deferred (some [])),boxA b4 120 [.int .u64 z],rowA 121 (rI .u32) (some ⟨b3,0,none⟩) ((yd a).length) os,boxA b1 121 [.int .u32 ((mm:Nat):Int)]]) 4 mixed kr kr<|e_uw 0 rfl rfl (ze 0 ty39 rfl rfl rfl)<|e_u 2 rfl rfl (ze 1 ty120 rfl rfl rfl)<|e_pv 3 rfl rfl (zL (z:=z) rfl (by rw [yi];rfl) yh (wu32 om))<|zCb 2 rfl (.s (.s .z))<|e_one 1 (zE rfl rfl rfl rfl (.c rfl .n) ce134 (zDb (p:=some ⟨b3,0,none⟩) (n:=(yd a).length) (cap:=(yd a).length) (l:=os) (hn:=cbb)) (.c (j:=0) rfl .n) ?_)
  rintro ⟨⟩ -
  dsimp only [aq,nq,cq]
  refine e_one 4 (zy kr rfl rfl rfl rfl rfl sz39 rfl (.take .nil) ?_)
  refine e_pv 5 rfl rfl (zb rfl)<|zjf kr<|zd<|zK<|zse 1 rfl rfl ?_
  exact zAa Tryz.results160 ((some ⟨b3,0,none⟩),((yd a).length)) trivial (zAb 0 ty39 rfl rfl rfl) (zk rfl) (by rw [htr,hf2]) (ho:=(.n:PickO _ _ _)) ((.e (j:=0) rfl (by rw [htr]) .n):SelR _ _ _)
 ·
  intro _ _ h;exact h.elim
theorem zBf {p:Option Addr} {n:Nat} {cap:Nat} {l:List Int} (hn:l.length=n):Con yl 134 [.slice p n cap] [rowA 121 (rI .u32) p cap l] [] (Y:=Unit) (fun y=>True) (fun y=> .slice p ((ym l).length) cap) (fun y=>[rowA 121 (rI .u32) p cap (ym l)]) (fun y=>[]):=by
 refine zn Tryz.func134 rfl rfl rfl (fun c=> ?_)
 show RunC _ _ _ _ _ [(0,.slice p n cap)] [rowA 121 (rI .u32) p cap l] []
 refine zTf 0 rfl (fun hcl=> ?_)
 refine zg<|za<|e_p (zb rfl)<|zh<|zd<|zg<|zv<|zqa (X:=Nat) (fun x:Nat=>x≤l.length∧ym (l.take x)=ym l) (fun x=>[(0,.slice p x cap),(2,.slice none 0 0)]) (fun x=>[rowA 121 (rI .u32) p cap l]) (fun x=>[]) (fun x:Nat=>x) n (show n≤l.length∧ym (l.take n)=ym l from by exact ⟨by omega,by rw [List.take_of_length_le om]⟩) ((.c rfl (.c rfl .n)):SubM _ _) (ho:=((.c (i:=0) rfl .n):PickO _ _ _)) (.n:SelR _ _ _) ?_
 rintro k hI
 replace hI:k≤l.length∧ym (l.take k)=ym l:=hI
 try dsimp only
 obtain ⟨hk,hT⟩:=hI
 refine zg<|zFa (X:=Unit) (fun x=>True) (fun x=>[(14,.bool (decide (0<k∧l.getD (k - 1) 0=0))),(0,.slice p k cap),(2,.slice none 0 0)]) (fun x=>[rowA 121 (rI .u32) p cap l]) (fun x=>[]) ?_ ?_
 ·
  refine za<|e_mv rfl<|e_p (zQ ye rfl)<|e_p (zBa rfl rfl)<|zW rfl rfl (zV rfl) (fun h1=> ?_) (fun h1=> ?_)
  ·
   refine e_mv rfl<|e_mv rfl<|e_p (zQ ye rfl)<|e_p (zoa (z:=(((k - 1):Nat):Int)) rfl rfl (w64 om))<|e_ru (zod 0 (k - 1) rfl ye sz121 rfl cbo rfl rfl om)<|r_vl rfl rfl (zZ 0 (k - 1) rfl ty121 rfl rfl (gD (d:=0) om) rfl) (fun _ hok2=> ?_)
   replace hok2:=zH.1 hok2
   refine e_p (zCa rfl rfl)<|e_p (zl rfl rfl)<|zh ?_
   exact zea () (show True from by first|trivial|omega|simp_all) ((.e rfl (congrArg Value.bool (by have h1:0<k:=om;have h2:((k:Int) - 1).toNat=k - 1:=om;simp [h1,h2])) (.c rfl (.c rfl .n))):SubM _ _) (ho:=((.c (i:=0) rfl .n):PickO _ _ _)) (.n:SelR _ _ _)
  ·
   refine e_no<|e_no<|e_no<|e_no<|e_no<|e_no<|e_no<|e_p (zl rfl rfl)<|zh ?_
   exact zea () (show True from by first|trivial|omega|simp_all) ((.e rfl (congrArg Value.bool (by have h1:¬0<k:=om;simp [h1])) (.c rfl (.c rfl .n))):SubM _ _) (ho:=((.c (i:=0) rfl .n):PickO _ _ _)) (.n:SelR _ _ _)
 ·
  rintro ⟨⟩ -
  try dsimp only
  refine zG rfl (fun hc=> ?_) (fun hc=> ?_)
  ·
   refine zt<|zd<|zv<|za<|e_mv rfl<|e_mv rfl<|e_p (zQ ye rfl)<|e_p (zoa (z:=(((k - 1):Nat):Int)) rfl rfl (w64 om))<|e_p (zyb (hi:=(k - 1)) ye sz121 rfl (.s rfl) (.inr ⟨_,rfl⟩) om)<|e_p (zb rfl)<|zh<|zP<|zha (k - 1) (show (k - 1)≤l.length∧ym (l.take (k - 1))=ym l from by exact ⟨by omega,by rw [← hT,Big.trim_go l hc.1 hk hc.2]⟩) (by show k - 1<k;omega) ((.e rfl (by first|rfl|(congr 1;omega)|simp_all) (.c rfl .n)):SubM _ _) (ho:=((.c (i:=0) rfl .n):PickO _ _ _)) (.n:SelR _ _ _)
  ·
   refine zla<|zj<|zj<|zr<|zd<|zg<|za<|e_mv rfl<|e_p (zb rfl)<|zh<|zd<|zK ?_
   have hfin:l.take k=ym l:=by rw [← hT];exact (Big.trim_stop l hk hc).symm
   have hlk:(l.take k).length=k:=by rw [List.length_take];omega
   refine p_mem (fun w mm=>mm.rowTake 0 rfl k) ?_
   dsimp only [List.set]
   have e3:l.take k=ym l:=by exact hfin
   rw [e3]
   exact zx Tryz.results134 () trivial (zk rfl) (by rw [← hfin,hlk]) (ho:=((.c (i:=0) rfl .n):PickO _ _ _)) (.n:SelR _ _ _)
theorem zPe {a:Nat} {b:Nat} {p1:Option Addr} {c1:Nat} {p2:Option Addr} {c2:Nat} (hb1:(yd a).length≤1099511627776) (hb2:(yd b).length≤1099511627776):Con yl 118 [.slice p1 ((yd a).length) c1,.slice p2 ((yd b).length) c2] [] [slF (rI .u32) p1 c1 (yd a),slF (rI .u32) p2 c2 (yd b)] (Y:=(Option Addr)×Nat) (fun y=>True) (fun y=> .slice (y.1) ((yd (a*b)).length) (y.2)) (fun y=>[rowA 121 (rI .u32) (y.1) (y.2) (yd (a*b))]) (fun y=>[]):=by
 refine zn Tryz.func118 rfl rfl rfl (fun c=> ?_)
 show RunC _ _ _ _ _ [(0,.slice p1 ((yd a).length) c1),(1,.slice p2 ((yd b).length) c2)] [] [slF (rI .u32) p1 c1 (yd a),slF (rI .u32) p2 c2 (yd b)]
 refine zia 0 rfl (fun hL0=> ?_)
 refine zia 1 rfl (fun hL1=> ?_)
 have hoa:=yp a
 have hob:=yp b
 refine zg<|za<|e_p (zb rfl)<|zh<|zd<|zg<|za<|e_mv rfl<|e_p (zQ ye rfl)<|e_mv rfl<|e_p (zQ ye rfl)<|e_p (zI (z:=(((((yd a).length)+((yd b).length)):Nat):Int)) rfl rfl (w64 om))<|zIa rfl rfl (zwb (r:=rI .u32) (k:=(((yd a).length)+((yd b).length))) (x0:=0) (γ0:=()) ye inf121 rfl rfl rfl rfl om om rfl (fun g _=>by exact zH.2 dd) dd) (fun b1 _=> ?_)
 refine e_p (zb rfl)<|zh<|zd<|zg<|zg<|za<|e_mv rfl<|e_p (zQ ye rfl)<|e_mv rfl<|zh<|zd<|zv<|zqa (X:=Nat×(List Int)) (fun x:Nat×(List Int)=>x.1≤(yd a).length∧x.2.length=(yd a).length+(yd b).length∧yt x.2∧(∀k,x.1+(yd b).length≤k→x.2.getD k 0=0)∧yf x.2=yf ((yd a).take x.1)*yf (yd b)) (fun x=>[(20,ya yb ((x.1:Nat):Int)),(19,ya yb (((yd a).length:Nat):Int)),(18,.slice p1 ((yd a).length) c1),(5,.slice (some ⟨b1,0,none⟩) (((yd a).length)+((yd b).length)) (((yd a).length)+((yd b).length))),(4,.slice none 0 0),(1,.slice p2 ((yd b).length) c2)]) (fun x=>[rowA 121 (rI .u32) (some ⟨b1,0,none⟩) (((yd a).length)+((yd b).length)) (x.2)]) (fun x=>[slF (rI .u32) p1 c1 (yd a),slF (rI .u32) p2 c2 (yd b)]) (fun x:Nat×(List Int)=>(yd a).length - x.1) (0,List.replicate ((yd a).length+(yd b).length) 0) (show 0≤(yd a).length∧(List.replicate ((yd a).length+(yd b).length) 0).length=(yd a).length+(yd b).length∧yt (List.replicate ((yd a).length+(yd b).length) 0)∧(∀k,0+(yd b).length≤k→(List.replicate ((yd a).length+(yd b).length) 0).getD k 0=0)∧yf (List.replicate ((yd a).length+(yd b).length) 0)=yf ((yd a).take 0)*yf (yd b) from by exact ⟨by omega,by simp,Big.okL_zeros _,fun k _=>Big.getD_zeros _ k,by simp [Big.valL_zeros,yf]⟩) ((.e rfl (by first|rfl|(congr 1;omega)|simp_all) (.of rfl)):SubM _ _) (ho:=((.e (i:=0) rfl (by first|rfl|(congr 1;omega)|simp_all) .n):PickO _ _ _)) ((.of [0,1] rfl):SelR _ _ _) ?_
 rintro ⟨i,os⟩ hI
 replace hI:i≤(yd a).length∧os.length=(yd a).length+(yd b).length∧yt os∧(∀k,i+(yd b).length≤k→os.getD k 0=0)∧yf os=yf ((yd a).take i)*yf (yd b):=hI
 try dsimp only
 obtain ⟨hi,hol,hok,hz,hv⟩:=hI
 have hg1:=yn hoa i
 refine zg<|za<|e_p (zaa rfl rfl)<|zh<|zd<|zg<|zG rfl (fun h2=> ?_) (fun h2=> ?_)
 ·
  refine zt<|zd<|zg<|zv<|zg<|za<|e_mv rfl<|zY (x0:=((yd a).getD i 0)) 0 i rfl ye sz121 rfl rfl rfl (by first|rfl|assumption|(simp;omega)|omega) rfl rfl (gD (d:=0) om) (fun b3 o4 hok5=> ?_)
  replace hok5:=zH.1 hok5
  refine e_ru (zB (j:=0) 0 ty121 rfl rfl rfl rfl)<|e_p (zb rfl)<|e_p (zb rfl)<|zh<|zd<|zg<|za<|e_p (zb rfl)<|zh<|zd<|zg<|zg<|za<|e_mv rfl<|e_p (zQ ye rfl)<|e_mv rfl<|zh<|zd<|zv<|zqa (X:=Nat×(List Int)×Int) (fun x:Nat×(List Int)×Int=>x.1≤(yd b).length∧x.2.1.length=(yd a).length+(yd b).length∧yt x.2.1∧0≤x.2.2∧x.2.2<1000000000∧(∀k,i+(yd b).length≤k→x.2.1.getD k 0=0)∧yf x.2.1+yw (i+x.1)*x.2.2=yf ((yd a).take i)*yf (yd b)+yw i*(yd a).getD i 0*yf ((yd b).take x.1)) (fun x=>[(8,.int .u64 (x.2.2)),(27,ya yb ((x.1:Nat):Int)),(26,ya yb (((yd b).length:Nat):Int)),(25,.slice p2 ((yd b).length) c2),(7,.int .u32 ((yd a).getD i 0)),(6,ya yb ((i:Nat):Int)),(20,ya yb ((i:Nat):Int)),(19,ya yb (((yd a).length:Nat):Int)),(18,.slice p1 ((yd a).length) c1),(5,.slice (some ⟨b1,0,none⟩) (((yd a).length)+((yd b).length)) (((yd a).length)+((yd b).length))),(4,.slice none 0 0),(1,.slice p2 ((yd b).length) c2)]) (fun x=>[rowA 121 (rI .u32) (some ⟨b1,0,none⟩) (((yd a).length)+((yd b).length)) (x.2.1)]) (fun x=>[atF b3 o4 [.int .u32 ((yd a).getD i 0)],slF (rI .u32) p1 c1 (yd a),slF (rI .u32) p2 c2 (yd b)]) (fun x:Nat×(List Int)×Int=>(yd b).length - x.1) (0,os,0) (show 0≤(yd b).length∧os.length=(yd a).length+(yd b).length∧yt os∧0≤0∧0<1000000000∧(∀k,i+(yd b).length≤k→os.getD k 0=0)∧yf os+yw (i+0)*0=yf ((yd a).take i)*yf (yd b)+yw i*(yd a).getD i 0*yf ((yd b).take 0) from by exact ⟨by omega,hol,hok,by decide,by decide,hz,by rw [hv];simp [yf]⟩) ((.c rfl (.e rfl (by first|rfl|(congr 1;omega)|simp_all) (.of rfl))):SubM _ _) (ho:=((.c (i:=0) rfl .n):PickO _ _ _)) ((.of [0,1,2] rfl):SelR _ _ _) ?_
  rintro ⟨j,os2,cy⟩ hJ
  replace hJ:j≤(yd b).length∧os2.length=(yd a).length+(yd b).length∧yt os2∧0≤cy∧cy<1000000000∧(∀k,i+(yd b).length≤k→os2.getD k 0=0)∧yf os2+yw (i+j)*cy=yf ((yd a).take i)*yf (yd b)+yw i*(yd a).getD i 0*yf ((yd b).take j):=hJ
  try dsimp only
  obtain ⟨hj,hol2,hok2,hcy0,hcy1,hz2,hv2⟩:=hJ
  have hg2:=yn hob j
  have hg3:=yn hok2 (i+j)
  have hpq:=Big.mul_lim hg1 hg2
  refine zg<|za<|e_p (zaa rfl rfl)<|zh<|zd<|zg<|zG rfl (fun h6=> ?_) (fun h6=> ?_)
  ·
   refine zt<|zd<|zg<|zv<|zg<|za<|e_mv rfl<|zY (x0:=((yd b).getD j 0)) 2 j rfl ye sz121 rfl rfl rfl (by first|rfl|assumption|(simp;omega)|omega) rfl rfl (gD (d:=0) om) (fun b7 o8 hok9=> ?_)
   replace hok9:=zH.1 hok9
   refine e_ru (zB (j:=0) 0 ty121 rfl rfl rfl rfl)<|e_p (zb rfl)<|e_p (zb rfl)<|zh<|zd<|zg<|za<|e_mv rfl<|e_mv rfl<|e_mv rfl<|e_p (zI (z:=(((i+j):Nat):Int)) rfl rfl (w64 om))<|e_p (zpa (j:=(i+j)) ye sz121 rfl rfl rfl om)<|r_vl rfl rfl (zZ 0 (i+j) rfl ty121 rfl rfl (gD (d:=0) om) rfl) (fun _ hok10=> ?_)
   replace hok10:=zH.1 hok10
   refine e_p (zL (z:=(os2.getD (i+j) 0)) rfl (by rw [yh];rfl) yi (wu64 om))<|e_mv rfl<|e_p (zL (z:=((yd a).getD i 0)) rfl (by rw [yh];rfl) yi (wu64 om))<|e_mv rfl<|e_p (zL (z:=((yd b).getD j 0)) rfl (by rw [yh];rfl) yi (wu64 om))<|e_p (zDa (z:=(((yd a).getD i 0)*((yd b).getD j 0))) rfl rfl (wu64 om))<|e_p (zI (z:=((os2.getD (i+j) 0)+(((yd a).getD i 0)*((yd b).getD j 0)))) rfl rfl (wu64 om))<|e_mv rfl<|e_p (zI (z:=(((os2.getD (i+j) 0)+(((yd a).getD i 0)*((yd b).getD j 0)))+cy)) rfl rfl (wu64 om))<|e_p (zb rfl)<|zh<|zd<|za<|e_mv rfl<|e_mv rfl<|e_mv rfl<|e_p (zI (z:=(((i+j):Nat):Int)) rfl rfl (w64 om))<|e_mv rfl<|e_p (zya (z:=((((os2.getD (i+j) 0)+(((yd a).getD i 0)*((yd b).getD j 0)))+cy)%1000000000)) rfl rfl om (remN om om))<|e_p (zL (z:=((((os2.getD (i+j) 0)+(((yd a).getD i 0)*((yd b).getD j 0)))+cy)%1000000000)) rfl (by rw [yi];rfl) yh (wu32 om))<|e_mv rfl<|e_p (zob (z:=((((os2.getD (i+j) 0)+(((yd a).getD i 0)*((yd b).getD j 0)))+cy) / 1000000000)) rfl rfl om (by rw [quoN (z:=((((os2.getD (i+j) 0)+(((yd a).getD i 0)*((yd b).getD j 0)))+cy) / 1000000000)) om om];exact wu64 om))<|e_p (zpa (j:=(i+j)) ye sz121 rfl rfl rfl om)<|zLa 0 rfl rfl rfl (zja (j:=(i+j)) (x0:=((((os2.getD (i+j) 0)+(((yd a).getD i 0)*((yd b).getD j 0)))+cy)%1000000000)) (γ0:=()) rfl rfl (by first|omega|(rw [List.length_map];omega)|(simp only [List.length_set];omega)|(simp;done)|(simp;omega)) rfl rfl sz121 (fun _ _=>by exact zH.2 om)) (fun _=> .z) (fun _ _=> ?_)
   refine e_p (zb rfl)<|zh<|zP<|zd<|za<|e_p (zI (z:=(((j+1):Nat):Int)) rfl rfl (w64 om))<|e_mv rfl<|zh<|zha ((j+1),os2.set (i+j) ((os2.getD (i+j) 0+(yd a).getD i 0*(yd b).getD j 0+cy)%1000000000),(os2.getD (i+j) 0+(yd a).getD i 0*(yd b).getD j 0+cy) / 1000000000) (show (j+1)≤(yd b).length∧(os2.set (i+j) ((os2.getD (i+j) 0+(yd a).getD i 0*(yd b).getD j 0+cy)%1000000000)).length=(yd a).length+(yd b).length∧yt (os2.set (i+j) ((os2.getD (i+j) 0+(yd a).getD i 0*(yd b).getD j 0+cy)%1000000000))∧0≤((os2.getD (i+j) 0+(yd a).getD i 0*(yd b).getD j 0+cy) / 1000000000)∧((os2.getD (i+j) 0+(yd a).getD i 0*(yd b).getD j 0+cy) / 1000000000)<1000000000∧(∀k,i+(yd b).length≤k→(os2.set (i+j) ((os2.getD (i+j) 0+(yd a).getD i 0*(yd b).getD j 0+cy)%1000000000)).getD k 0=0)∧yf (os2.set (i+j) ((os2.getD (i+j) 0+(yd a).getD i 0*(yd b).getD j 0+cy)%1000000000))+yw (i+(j+1))*((os2.getD (i+j) 0+(yd a).getD i 0*(yd b).getD j 0+cy) / 1000000000)=yf ((yd a).take i)*yf (yd b)+yw i*(yd a).getD i 0*yf ((yd b).take (j+1)) from by exact ⟨by omega,by simpa using hol2,yF hok2 om om,by omega,by omega,fun k hk=>by rw [yB om];exact hz2 k om,Big.mul_step hv2 om om⟩) (by show (yd b).length - (j+1)<(yd b).length - j;omega) ((.e rfl (by first|rfl|(congr 1;omega)|simp_all) (.of rfl)):SubM _ _) (ho:=((.e (i:=0) rfl (by first|rfl|(congr 1;omega)|simp_all) .n):PickO _ _ _)) ((.of [1,2,3] rfl):SelR _ _ _)
  ·
   have hjb:j=(yd b).length:=by omega
   subst hjb
   have hv3:=hv2
   refine zla<|zj<|zj<|zr<|zd<|za<|e_mv rfl<|e_mv rfl<|e_mv rfl<|e_p (zQ ye rfl)<|e_p (zI (z:=(((i+((yd b).length)):Nat):Int)) rfl rfl (w64 om))<|e_mv rfl<|e_p (zL (z:=cy) rfl (by rw [yi];rfl) yh (wu32 om))<|e_p (zpa (j:=(i+((yd b).length))) ye sz121 rfl rfl rfl om)<|zLa 0 rfl rfl rfl (zja (j:=(i+((yd b).length))) (x0:=cy) (γ0:=()) rfl rfl (by first|omega|(rw [List.length_map];omega)|(simp only [List.length_set];omega)|(simp;done)|(simp;omega)) rfl rfl sz121 (fun _ _=>by exact zH.2 om)) (fun _=> .z) (fun _ _=> ?_)
   refine zh<|zP<|zd<|za<|e_p (zI (z:=(((i+1):Nat):Int)) rfl rfl (w64 om))<|e_mv rfl<|zh<|zha ((i+1),os2.set (i+(yd b).length) cy) (show (i+1)≤(yd a).length∧(os2.set (i+(yd b).length) cy).length=(yd a).length+(yd b).length∧yt (os2.set (i+(yd b).length) cy)∧(∀k,(i+1)+(yd b).length≤k→(os2.set (i+(yd b).length) cy).getD k 0=0)∧yf (os2.set (i+(yd b).length) cy)=yf ((yd a).take (i+1))*yf (yd b) from by exact ⟨by omega,by simpa using hol2,yF hok2 om om,fun k hk=>by rw [yB om];exact hz2 k om,Big.mul_round hv3 om (hz2 _ (Nat.le_refl _))⟩) (by show (yd a).length - (i+1)<(yd a).length - i;omega) ((.of rfl):SubM _ _) (ho:=((.e (i:=0) rfl (by first|rfl|(congr 1;omega)|simp_all) .n):PickO _ _ _)) ((.of [1,2] rfl):SelR _ _ _)
 ·
  have hia:i=(yd a).length:=by omega
  have hfin:ym os=yd (a*b):=Big.trimL_of hok (by rw [hv,hia,List.take_length,yv,yv,Int.natCast_mul])
  refine zla<|zj<|zj<|zr<|zd<|zg<|za<|e_mv rfl<|zuc (A:=[rowA 121 (rI .u32) (some ⟨b1,0,none⟩) (((yd a).length)+((yd b).length)) os]) (F:=[]) (first:=[]) (cap:=[]) rfl rfl rfl (.c rfl .n) ce134 (zBf (p:=some ⟨b1,0,none⟩) (n:=(((yd a).length)+((yd b).length))) (cap:=(((yd a).length)+((yd b).length))) (l:=os) (hn:=cbb)) (.n) ?_
  rintro ⟨⟩ -
  dsimp only [aq,nq,cq]
  refine e_p (zb rfl)<|zh<|zd<|zK ?_
  have e11:ym os=yd (a*b):=by exact hfin
  rw [e11]
  exact zx Tryz.results118 ((some ⟨b1,0,none⟩),(((yd a).length)+((yd b).length))) trivial (zk rfl) rfl (ho:=((.c (i:=0) rfl .n):PickO _ _ _)) (.n:SelR _ _ _)
end Go.Proofs.YtjcpbhlijoigfaaGreat.Sp
namespace Go.Proofs.YtjcpbhlijoigfaaGreat.Sp
open Go
set_option linter.unusedVariables false
set_option maxRecDepth 100000
set_option maxHeartbeats 8000000
theorem zdg {a:Nat} {b:Nat} {p1:Option Addr} {c1:Nat} {p2:Option Addr} {c2:Nat} (hb1:(yd a).length≤1099511627776) (hb2:(yd b).length≤1099511627776) (hb3:2≤(yd b).length) (hab:b≤a):Con yl 161 [.slice p1 ((yd a).length) c1,.slice p2 ((yd b).length) c2] [] [slF (rI .u32) p1 c1 (yd a),slF (rI .u32) p2 c2 (yd b)] (Y:=(Option Addr)×Nat×(Option Addr)×Nat) (fun y=>True) (fun y=> .tuple #[.slice (y.1) ((yd (a / b)).length) (y.2.1),.slice (y.2.2.1) ((yd (a%b)).length) (y.2.2.2)]) (fun y=>[]) (fun y=>[slF (rI .u32) (y.1) (y.2.1) (yd (a / b)),slF (rI .u32) (y.2.2.1) (y.2.2.2) (yd (a%b))]):=by
 refine zn Tryz.func161 rfl rfl rfl (fun c=> ?_)
 show RunC _ _ _ _ _ [(0,.slice p1 ((yd a).length) c1),(1,.slice p2 ((yd b).length) c2)] [] [slF (rI .u32) p1 c1 (yd a),slF (rI .u32) p2 c2 (yd b)]
 refine zia 0 rfl (fun hL0=> ?_)
 refine zia 1 rfl (fun hL1=> ?_)
 have hob:=yp b
 have htop:=yn hob ((yd b).length - 1)
 have hdt:=Big.digs_top (b:=b) (n:=(yd b).length - 1) om
 have hab2:=Big.ln_mono' hab
 have hq1:0≤1000000000 / ((yd b).getD ((yd b).length - 1) 0+1):=Int.ediv_nonneg om om
 have hq2:1000000000 / ((yd b).getD ((yd b).length - 1) 0+1)≤500000000:=Int.ediv_le_of_le_mul om om
 refine zg<|za<|e_p (zb rfl)<|e_p (zb rfl)<|zh<|zd<|zg<|za<|e_mv rfl<|e_mv rfl<|e_p (zQ ye rfl)<|e_p (zoa (z:=((((yd b).length - 1):Nat):Int)) rfl rfl (w64 om))<|zY (x0:=((yd b).getD ((yd b).length - 1) 0)) 1 ((yd b).length - 1) rfl ye sz121 rfl rfl rfl (by first|rfl|assumption|(simp;done)|omega) rfl rfl (gD (d:=0) om) (fun b1 o2 hok3=> ?_)
 replace hok3:=zH.1 hok3
 refine e_ru (zB (j:=0) 0 ty121 rfl rfl rfl rfl)<|e_p (zL (z:=((yd b).getD ((yd b).length - 1) 0)) rfl (by rw [yh];rfl) yi (wu64 om))<|e_p (zI (z:=(((yd b).getD ((yd b).length - 1) 0)+1)) rfl rfl (wu64 om))<|e_p (zob (z:=(1000000000 / (((yd b).getD ((yd b).length - 1) 0)+1))) rfl rfl om (by rw [quoN (z:=(1000000000 / (((yd b).getD ((yd b).length - 1) 0)+1))) om om];exact wu64 om))<|e_p (zL (z:=(1000000000 / (((yd b).getD ((yd b).length - 1) 0)+1))) rfl (by rw [yi];rfl) yh (wu32 om))<|e_p (zb rfl)<|zh<|zd<|zg ?_
 obtain ⟨s,hs⟩:∃s:Nat,s=(1000000000 / ((yd b).getD ((yd b).length - 1) 0+1)).toNat:=⟨_,rfl⟩
 obtain ⟨hs1,hs2,hs3⟩:=Big.scale_len (n:=(yd b).length - 1) om hs
 have hsd:=Big.digs_one hs1 (by omega:s<1000000000)
 have hsl:(yd s).length=1:=by rw [hsd];rfl
 have e4:((1000000000 / (((yd b).getD ((yd b).length - 1) 0)+1)):Int)=((s:Nat):Int):=by omega
 rw [e4]
 refine za<|e_mv rfl<|e_mv rfl<|zIa rfl rfl (zT (enc:=fun z:Int=>[.int .u32 z]) (ok:=InK .u32) (h1:=fun _=>rfl) (h2:=fun _=>rfl) (k:=1) ye inf121 rfl dd dd dd (.c (x:=((s:Nat):Int)) rfl rfl (fun _ _=>by exact zH.2 om) .n)) (fun b5 _=> ?_)
 refine zma 0 rfl .z ?_
 have e6:[((s:Nat):Int)]=yd s:=by exact hsd.symm
 rw [e6]
 have e7:(.slice (some ⟨b5,0,none⟩) 1 1:Value)= .slice (some ⟨b5,0,none⟩) ((yd s).length) 1:=by rw [hsl]
 rw [e7]
 refine zJ rfl rfl (.c rfl (.c rfl .n)) ce118 (zPe (a:=a) (b:=s) (p1:=p1) (c1:=c1) (p2:=some ⟨b5,0,none⟩) (c2:=1) (hb1:=ass) (hb2:=cbb)) (.c (j:=2) rfl (.c (j:=0) rfl .n)) ?_
 rintro ⟨p38,c39⟩ -
 dsimp only [aq,nq,cq]
 refine e_p (zb rfl)<|zh<|zd<|zg<|za<|e_mv rfl<|e_mv rfl<|zIa rfl rfl (zT (enc:=fun z:Int=>[.int .u32 z]) (ok:=InK .u32) (h1:=fun _=>rfl) (h2:=fun _=>rfl) (k:=1) ye inf121 rfl dd dd dd (.c (x:=((s:Nat):Int)) rfl rfl (fun _ _=>by exact zH.2 om) .n)) (fun b10 _=> ?_)
 refine zma 0 rfl .z ?_
 have e11:[((s:Nat):Int)]=yd s:=by exact hsd.symm
 rw [e11]
 have e12:(.slice (some ⟨b10,0,none⟩) 1 1:Value)= .slice (some ⟨b10,0,none⟩) ((yd s).length) 1:=by rw [hsl]
 rw [e12]
 refine zJ rfl rfl (.c rfl (.c rfl .n)) ce118 (zHd (a:=b) (b:=s) (p1:=p2) (c1:=c2) (p2:=some ⟨b10,0,none⟩) (c2:=1) (hb1:=ass) (hb2:=cbb)) (.c (j:=4) rfl (.c (j:=0) rfl .n)) ?_
 rintro ⟨p313,c314⟩ -
 dsimp only [aq,nq,cq]
 refine e_p (zb rfl)<|zh<|zd<|zg ?_
 obtain ⟨A,hA⟩:∃z,z=a*s:=⟨_,rfl⟩
 rw [← hA]
 obtain ⟨V,hV⟩:∃z,z=b*s:=⟨_,rfl⟩
 rw [← hV]
 have hAl:(yd a).length≤(yd A).length:=by rw [hA];exact Big.len_mul_ge hs1
 have hAl2:(yd A).length≤(yd a).length+1:=by have h8:=Big.len_mul_le a s;rw [hsl] at h8;rw [hA];exact h8
 obtain ⟨m,hm⟩:∃z,(yd V).length=z+2:=⟨(yd b).length - 2,by rw [hV,hs3];omega⟩
 have hmb:(yd b).length=m+2:=by rw [hV,hs3] at hm;omega
 have e15:(yd V).length=(m+2):=by exact hm
 rw [e15]
 refine za<|e_mv rfl<|e_p (zQ ye rfl)<|e_p (zb rfl)<|zh<|zd<|zg<|za<|e_mv rfl<|zIa rfl rfl (zT (enc:=fun z:Int=>[.int .u32 z]) (ok:=InK .u32) (h1:=fun _=>rfl) (h2:=fun _=>rfl) (k:=1) ye inf121 rfl dd dd dd (.c (x:=0) rfl rfl (fun _ _=>by exact zH.2 om) .n)) (fun b16 _=> ?_)
 refine zma 0 rfl .z<|zLa 2 rfl rfl rfl (zra 0 rfl ye inf121 dd rfl rfl (by first|rfl|assumption|(simp;done)|omega) rfl (by first|rfl|assumption|(simp;done)|omega) om om) (fun _=>(.s (.s .z))) ?_
 rintro ⟨p17,c18⟩ -
 dsimp only [aq,nq,cq]
 refine e_p (zb rfl)<|zh<|zd<|zg<|zg<|za<|e_mv rfl<|e_p (zQ ye rfl)<|e_mv rfl<|e_p (zQ ye rfl)<|e_p (zJa rfl rfl)<|zh<|zd<|zG rfl (fun h19=> ?_) (fun h19=> ?_)
 ·
  exact absurd ‹_› om
 ·
  refine zt<|zd<|zg ?_
  obtain ⟨M,hM⟩:∃z,z=((yd A).length)+1:=⟨_,rfl⟩
  rw [← hM]
  refine za<|e_mv rfl<|e_p (zQ ye rfl)<|e_mv rfl<|e_p (zoa (z:=(((M - (m+2)):Nat):Int)) rfl rfl (w64 om))<|zIa rfl rfl (zwb (r:=rI .u32) (k:=(M - (m+2))) (x0:=0) (γ0:=()) ye inf121 rfl rfl rfl rfl om om rfl (fun g _=>by exact zH.2 dd) dd) (fun b20 _=> ?_)
  refine e_p (zb rfl)<|zh<|zd<|zg<|zg ?_
  have hMl:m+3≤M:=by omega
  have hLg:yI M (m+2) ((A:Nat):Int) ((V:Nat):Int) (M - (m+2)) (yd A++[0]) []:=yI.start (yC (yp A) dd dd) (by simp [hM]) (by rw [Big.valL_snoc,yv];simp) hm om (by rw [Big.valL_snoc,yv,hM,Nat.add_sub_cancel];simpa using Big.digs_lt A) om
  refine za<|e_mv rfl<|e_p (zQ ye rfl)<|e_mv rfl<|e_p (zoa (z:=(((M:Nat):Int) - (((m+2):Nat):Int))) rfl rfl (w64 om))<|e_p (zoa (z:=((((M:Nat):Int) - (((m+2):Nat):Int)) - 1)) rfl rfl (w64 om))<|e_p (zb rfl)<|zh<|zd<|zv<|zqa (X:=Nat×(List Int)×(List Int)) (fun x:Nat×(List Int)×(List Int)=>yI M (m+2) ((A:Nat):Int) ((V:Nat):Int) x.1 x.2.1 x.2.2) (fun x=>[(10,ya yb (((x.1:Nat):Int) - 1)),(4,.slice (some ⟨b20,0,none⟩) (M - (m+2)) (M - (m+2))),(7,.slice p17 M c18),(9,ya yb (((m+2):Nat):Int)),(8,.slice p313 (m+2) c314),(6,.int .u32 ((s:Nat):Int)),(5,.slice none 0 0)]) (fun x=>[rowA 121 (rI .u32) (some ⟨b20,0,none⟩) (M - (m+2)) (List.replicate x.1 0++x.2.2),rowA 121 (rI .u32) p17 c18 (x.2.1)]) (fun x=>[slF (rI .u32) (some ⟨b16,0,none⟩) 1 ([0]),slF (rI .u32) p313 c314 (yd V),slF (rI .u32) (some ⟨b10,0,none⟩) 1 (yd s),slF (rI .u32) (some ⟨b5,0,none⟩) 1 (yd s),atF b1 o2 [.int .u32 ((yd b).getD ((yd b).length - 1) 0)],slF (rI .u32) p1 c1 (yd a),slF (rI .u32) p2 c2 (yd b)]) (fun x:Nat×(List Int)×(List Int)=>x.1) ((M - (m+2)),(yd A++[0]),([]:List Int)) (show yI M (m+2) ((A:Nat):Int) ((V:Nat):Int) (M - (m+2)) (yd A++[0]) ([]:List Int) from by exact hLg) ((.e rfl (congrArg (Value.int .i64) om) (.of rfl)):SubM _ _) (ho:=((.e (i:=0) rfl (by simp) (.e (i:=2) rfl (by simp) .n)):PickO _ _ _)) ((.of [0,1,2,3,4,5,6] rfl):SelR _ _ _) ?_
  rintro ⟨jj,u,qs⟩ hI
  replace hI:yI M (m+2) ((A:Nat):Int) ((V:Nat):Int) jj u qs:=hI
  try dsimp only
  refine zg<|zg<|za<|e_mv rfl<|e_p (zGa rfl rfl)<|zh<|zd<|zG rfl (fun hj=> ?_) (fun hj=> ?_)
  ·
   obtain ⟨j,rfl⟩:∃j,jj=j+1:=⟨jj - 1,by omega⟩
   have e21:(((((j+1):Nat):Int) - 1):Int)=((j:Nat):Int):=by omega
   rw [e21]
   have hjM:=hI.jle
   have hul:=hI.ul
   have hT:=hI.tp hm
   have hu2:=hT.a2
   have hu1:=hT.a1
   have hu0:=hT.a0
   have hvt1:=hT.vt1
   have hvt2:=hT.vt2
   have hvs0:=hT.vs0
   have hvs1:=hT.vs1
   have hgst:=hT.start
   have hgl0:=Big.Gs.le hT hgst
   have hg00:=hgst.g0
   have hg01:=hgst.r0
   have hrlt:=Int.emod_lt_of_pos ((u.getD (j+(m+2)) 0)*1000000000+(u.getD (j+(m+1)) 0)) (show 0<((yd V).getD (m+1) 0) by omega)
   refine zt<|zd<|zg<|zv<|zg<|zba (OW:=[]) (O:=[rowA 121 (rI .u32) (some ⟨b20,0,none⟩) (M - (m+2)) (List.replicate (j+1) 0++qs),rowA 121 (rI .u32) p17 c18 u]) 100000 mixed (.then (.block (.then (.then (.block (.then .ret)))))) kr<|e_dm 0 rfl rfl rfl<|e_dm 1 rfl rfl rfl<|e_dm 2 rfl rfl rfl<|e_pv 3 rfl rfl (zI (z:=(((j+(m+2)):Nat):Int)) rfl rfl (w64 om))<|e_dm 7 rfl rfl rfl<|e_dm 8 rfl rfl rfl<|e_dm 9 rfl rfl rfl<|e_pv 10 rfl rfl (zI (z:=(((j+(m+2)):Nat):Int)) rfl rfl (w64 om))<|e_pv 11 rfl rfl (zoa (z:=(((j+(m+1)):Nat):Int)) rfl rfl (w64 om))<|e_u 12 rfl rfl (zfa 1 (j+(m+1)) rfl ye sz121 rfl (by first|rfl|assumption|(simp;done)|omega) rfl rfl om)<|d_vl 13 rfl rfl kr kr rfl rfl (zZ 1 (j+(m+1)) rfl ty121 rfl rfl (gD (d:=0) om) rfl) (fun _ hok22=> ?_)
   replace hok22:=zH.1 hok22
   refine e_pv 14 rfl rfl (zL (z:=(u.getD (j+(m+1)) 0)) rfl (by rw [yh];rfl) yi (wu64 om))<|e_one 4 (zUf 1 rfl rfl rfl rfl rfl (.c rfl (.c rfl .n)) ce147 (zwe (p:=p17) (n:=M) (cap:=c18) (l:=u) (i:=(j+(m+2))) (hn:=cbb) (hi:=cbb)) (.c (j:=0) rfl .n) ?_)
   refine e_pv 5 rfl rfl (zL (z:=u.getD (j+(m+2)) 0) rfl (by rw [yh];rfl) yi (wu64 om))<|e_pv 6 rfl rfl (zDa (z:=(u.getD (j+(m+2)) 0*1000000000)) rfl rfl (wu64 om))<|e_pv 15 rfl rfl (zI (z:=((u.getD (j+(m+2)) 0*1000000000)+(u.getD (j+(m+1)) 0))) rfl rfl (wu64 om))<|e_pv 16 rfl rfl (zb rfl)<|zX kr<|zd<|zg<|zba (OW:=[]) (O:=[rowA 121 (rI .u32) (some ⟨b20,0,none⟩) (M - (m+2)) (List.replicate (j+1) 0++qs),rowA 121 (rI .u32) p17 c18 u]) 100000 mixed (.then (.block (.then (.then (.block (.then .ret)))))) kr<|e_dm 0 rfl rfl rfl<|e_dm 1 rfl rfl rfl<|e_dm 2 rfl rfl rfl<|e_pv 3 rfl rfl (zoa (z:=(((m+1):Nat):Int)) rfl rfl (w64 om))<|zca (x0:=((yd V).getD (m+1) 0)) 4 rfl rfl kr kr 1 (m+1) rfl ye sz121 rfl rfl rfl (by first|rfl|assumption|(simp;done)|omega) rfl rfl (gD (d:=0) om) (fun b23 o24 hok25=> ?_)
   replace hok25:=zH.1 hok25
   refine e_u 5 rfl rfl (zB (j:=0) 0 ty121 rfl rfl rfl rfl)<|e_pv 6 rfl rfl (zL (z:=((yd V).getD (m+1) 0)) rfl (by rw [yh];rfl) yi (wu64 om))<|e_pv 7 rfl rfl (zob (z:=(((u.getD (j+(m+2)) 0*1000000000)+(u.getD (j+(m+1)) 0)) / ((yd V).getD (m+1) 0))) rfl rfl om (by rw [quoN (z:=(((u.getD (j+(m+2)) 0*1000000000)+(u.getD (j+(m+1)) 0)) / ((yd V).getD (m+1) 0))) om om];exact wu64 om))<|e_dm 8 rfl rfl rfl<|e_dm 9 rfl rfl rfl<|e_dm 10 rfl rfl rfl<|e_pv 11 rfl rfl (zoa (z:=(((m+1):Nat):Int)) rfl rfl (w64 om))<|zca (x0:=((yd V).getD (m+1) 0)) 12 rfl rfl kr kr 2 (m+1) rfl ye sz121 rfl rfl rfl (by first|rfl|assumption|(simp;done)|omega) rfl rfl (gD (d:=0) om) (fun b26 o27 hok28=> ?_)
   replace hok28:=zH.1 hok28
   refine e_u 13 rfl rfl (zB (j:=0) 0 ty121 rfl rfl rfl rfl)<|e_pv 14 rfl rfl (zL (z:=((yd V).getD (m+1) 0)) rfl (by rw [yh];rfl) yi (wu64 om))<|e_pv 15 rfl rfl (zya (z:=(((u.getD (j+(m+2)) 0*1000000000)+(u.getD (j+(m+1)) 0))%((yd V).getD (m+1) 0))) rfl rfl om (remN om om))<|e_pv 16 rfl rfl (zb rfl)<|e_pv 17 rfl rfl (zb rfl)<|zX kr<|zd<|zFa (X:=Int) (fun x=>(0≤x∧x<1000000000)∧(yf (u.drop j))<(x+1)*(V:Int)∧x*(V:Int)<(yf (u.drop j))+(V:Int)) (fun x=>[(12,.int .u64 x),(10,ya yb ((j:Nat):Int)),(4,.slice (some ⟨b20,0,none⟩) (M - (m+2)) (M - (m+2))),(7,.slice p17 M c18),(9,ya yb (((m+2):Nat):Int)),(8,.slice p313 (m+2) c314),(6,.int .u32 ((s:Nat):Int)),(5,.slice none 0 0)]) (fun x=>[rowA 121 (rI .u32) (some ⟨b20,0,none⟩) (M - (m+2)) (List.replicate (j+1) 0++qs),rowA 121 (rI .u32) p17 c18 u]) (fun x=>[atF b26 o27 [.int .u32 ((yd V).getD (m+1) 0)],atF b23 o24 [.int .u32 ((yd V).getD (m+1) 0)],slF (rI .u32) (some ⟨b16,0,none⟩) 1 ([0]),slF (rI .u32) p313 c314 (yd V),slF (rI .u32) (some ⟨b10,0,none⟩) 1 (yd s),slF (rI .u32) (some ⟨b5,0,none⟩) 1 (yd s),atF b1 o2 [.int .u32 ((yd b).getD ((yd b).length - 1) 0)],slF (rI .u32) p1 c1 (yd a),slF (rI .u32) p2 c2 (yd b)]) ?_ ?_
   ·
    refine zv<|zqa (X:=Int×Int) (fun x:Int×Int=>Big.Gs (yf (u.drop j)) (V:Int) ((yd V).getD (m+1) 0) ((u.getD (j+(m+2)) 0)*1000000000+(u.getD (j+(m+1)) 0)) x.1 x.2∧x.2<1000000000) (fun x=>[(13,.int .u64 (x.2)),(12,.int .u64 (x.1)),(10,ya yb ((j:Nat):Int)),(4,.slice (some ⟨b20,0,none⟩) (M - (m+2)) (M - (m+2))),(7,.slice p17 M c18),(9,ya yb (((m+2):Nat):Int)),(8,.slice p313 (m+2) c314),(6,.int .u32 ((s:Nat):Int)),(5,.slice none 0 0)]) (fun x=>[rowA 121 (rI .u32) (some ⟨b20,0,none⟩) (M - (m+2)) (List.replicate (j+1) 0++qs),rowA 121 (rI .u32) p17 c18 u]) (fun x=>[atF b26 o27 [.int .u32 ((yd V).getD (m+1) 0)],atF b23 o24 [.int .u32 ((yd V).getD (m+1) 0)],slF (rI .u32) (some ⟨b16,0,none⟩) 1 ([0]),slF (rI .u32) p313 c314 (yd V),slF (rI .u32) (some ⟨b10,0,none⟩) 1 (yd s),slF (rI .u32) (some ⟨b5,0,none⟩) 1 (yd s),atF b1 o2 [.int .u32 ((yd b).getD ((yd b).length - 1) 0)],slF (rI .u32) p1 c1 (yd a),slF (rI .u32) p2 c2 (yd b)]) (fun x:Int×Int=>x.1.toNat) ((((u.getD (j+(m+2)) 0*1000000000)+(u.getD (j+(m+1)) 0)) / ((yd V).getD (m+1) 0)),(((u.getD (j+(m+2)) 0*1000000000)+(u.getD (j+(m+1)) 0))%((yd V).getD (m+1) 0))) (show Big.Gs (yf (u.drop j)) (V:Int) ((yd V).getD (m+1) 0) ((u.getD (j+(m+2)) 0)*1000000000+(u.getD (j+(m+1)) 0)) (((u.getD (j+(m+2)) 0*1000000000)+(u.getD (j+(m+1)) 0)) / ((yd V).getD (m+1) 0)) (((u.getD (j+(m+2)) 0*1000000000)+(u.getD (j+(m+1)) 0))%((yd V).getD (m+1) 0))∧(((u.getD (j+(m+2)) 0*1000000000)+(u.getD (j+(m+1)) 0))%((yd V).getD (m+1) 0))<1000000000 from by exact ⟨hgst,by omega⟩) ((.of rfl):SubM _ _) (ho:=((.of [0,0] rfl):PickO _ _ _)) ((.of [0,1,2,3,4,5,6,7,8] rfl):SelR _ _ _) ?_
    rintro ⟨g,r⟩ hG
    replace hG:Big.Gs (yf (u.drop j)) (V:Int) ((yd V).getD (m+1) 0) ((u.getD (j+(m+2)) 0)*1000000000+(u.getD (j+(m+1)) 0)) g r∧r<1000000000:=hG
    try dsimp only
    obtain ⟨hGs,hr9⟩:=hG
    have hgl:=Big.Gs.le hT hGs
    have hg0:=hGs.g0
    have hr0:=hGs.r0
    have hgm:=Big.mul_lim3 hg0 hgl.1 hvs0 hvs1
    refine zg<|zFa (X:=Unit) (fun x=>True) (fun x=>[(123,.bool (decide ((1000000000≤g)∨(((r*1000000000)+(u.getD (j+m) 0))<(g*((yd V).getD m 0)))))),(13,.int .u64 r),(12,.int .u64 g),(10,ya yb ((j:Nat):Int)),(4,.slice (some ⟨b20,0,none⟩) (M - (m+2)) (M - (m+2))),(7,.slice p17 M c18),(9,ya yb (((m+2):Nat):Int)),(8,.slice p313 (m+2) c314),(6,.int .u32 ((s:Nat):Int)),(5,.slice none 0 0)]) (fun x=>[rowA 121 (rI .u32) (some ⟨b20,0,none⟩) (M - (m+2)) (List.replicate (j+1) 0++qs),rowA 121 (rI .u32) p17 c18 u]) (fun x=>[atF b26 o27 [.int .u32 ((yd V).getD (m+1) 0)],atF b23 o24 [.int .u32 ((yd V).getD (m+1) 0)],slF (rI .u32) (some ⟨b16,0,none⟩) 1 ([0]),slF (rI .u32) p313 c314 (yd V),slF (rI .u32) (some ⟨b10,0,none⟩) 1 (yd s),slF (rI .u32) (some ⟨b5,0,none⟩) 1 (yd s),atF b1 o2 [.int .u32 ((yd b).getD ((yd b).length - 1) 0)],slF (rI .u32) p1 c1 (yd a),slF (rI .u32) p2 c2 (yd b)]) ?_ ?_
    ·
     refine zba (OW:=[]) (O:=[rowA 121 (rI .u32) (some ⟨b20,0,none⟩) (M - (m+2)) (List.replicate (j+1) 0++qs),rowA 121 (rI .u32) p17 c18 u]) 100000 mixed (.then (.then (.then (.block (.then (.block (.then (.then (.block (.then .ret)))))))))) kr<|e_dm 0 rfl rfl rfl<|e_pv 1 rfl rfl (zGa rfl rfl)<|znb 2 rfl rfl kr kr rfl rfl (zV rfl) (fun hge=> ?_) (fun hge=> ?_)
     ·
      refine e_skip 3 rfl rfl<|e_skip 4 rfl rfl<|e_skip 5 rfl rfl<|e_skip 6 rfl rfl<|e_skip 7 rfl rfl<|e_skip 8 rfl rfl<|e_skip 9 rfl rfl<|e_skip 10 rfl rfl<|e_skip 11 rfl rfl<|e_skip 12 rfl rfl<|e_skip 13 rfl rfl<|e_skip 14 rfl rfl<|e_skip 15 rfl rfl<|e_skip 16 rfl rfl<|e_skip 17 rfl rfl<|e_skip 18 rfl rfl<|e_skip 19 rfl rfl<|e_skip 20 rfl rfl<|e_skip 21 rfl rfl<|e_skip 22 rfl rfl<|e_pv 23 rfl rfl (zl rfl rfl)<|zX kr ?_
      exact zea () (show True from by first|trivial|omega|simp_all) ((.e rfl (congrArg Value.bool (by exact (decide_eq_true (.inl hge)).symm)) (.of rfl)):SubM _ _) (ho:=((.of [0,0] rfl):PickO _ _ _)) ((.of [0,1,2,3,4,5,6,7,8] rfl):SelR _ _ _)
     ·
      refine e_dm 3 rfl rfl rfl<|e_dm 4 rfl rfl rfl<|e_dm 5 rfl rfl rfl<|e_pv 6 rfl rfl (zoa (z:=((m:Nat):Int)) rfl rfl (w64 om))<|zca (x0:=((yd V).getD m 0)) 7 rfl rfl kr kr 3 m rfl ye sz121 rfl rfl rfl (by first|rfl|assumption|(simp;done)|omega) rfl rfl (gD (d:=0) om) (fun b29 o30 hok31=> ?_)
      replace hok31:=zH.1 hok31
      refine e_u 8 rfl rfl (zB (j:=0) 0 ty121 rfl rfl rfl rfl)<|e_pv 9 rfl rfl (zL (z:=((yd V).getD m 0)) rfl (by rw [yh];rfl) yi (wu64 om))<|e_pv 10 rfl rfl (zDa (z:=(g*((yd V).getD m 0))) rfl rfl (wu64 om))<|e_dm 11 rfl rfl rfl<|e_pv 12 rfl rfl (zDa (z:=(r*1000000000)) rfl rfl (wu64 om))<|e_dm 13 rfl rfl rfl<|e_dm 14 rfl rfl rfl<|e_dm 15 rfl rfl rfl<|e_pv 16 rfl rfl (zI (z:=(((j+(m+2)):Nat):Int)) rfl rfl (w64 om))<|e_pv 17 rfl rfl (zoa (z:=(((j+m):Nat):Int)) rfl rfl (w64 om))<|e_u 18 rfl rfl (zfa 1 (j+m) rfl ye sz121 rfl (by first|rfl|assumption|(simp;done)|omega) rfl rfl om)<|d_vl 19 rfl rfl kr kr rfl rfl (zZ 1 (j+m) rfl ty121 rfl rfl (gD (d:=0) om) rfl) (fun _ hok32=> ?_)
      replace hok32:=zH.1 hok32
      refine e_pv 20 rfl rfl (zL (z:=(u.getD (j+m) 0)) rfl (by rw [yh];rfl) yi (wu64 om))<|e_pv 21 rfl rfl (zI (z:=((r*1000000000)+(u.getD (j+m) 0))) rfl rfl (wu64 om))<|e_pv 22 rfl rfl (zBa rfl rfl)<|e_pv 23 rfl rfl (zl rfl rfl)<|zX kr ?_
      exact zea () (show True from by first|trivial|omega|simp_all) ((.e rfl (congrArg Value.bool (by exact decide_eq_decide.2 ⟨fun h=> .inr h,fun h=>h.resolve_left hge⟩)) (.of rfl)):SubM _ _) (ho:=((.of [0,0] rfl):PickO _ _ _)) ((.of [1,2,3,4,5,6,7,8,9] rfl):SelR _ _ _)
    ·
     rintro ⟨⟩ -
     try dsimp only
     refine zG rfl (fun hgs=> ?_) (fun hgs=> ?_)
     ·
      have hst:=hGs.step hT hgs
      have hst1:=hst.1
      refine zt<|zd<|zv<|zg<|za<|e_mv rfl<|e_p (zoa (z:=(g - 1)) rfl rfl (wu64 om))<|e_p (zb rfl)<|zh<|zd<|zg<|za<|e_mv rfl<|e_mv rfl<|e_mv rfl<|e_p (zoa (z:=(((m+1):Nat):Int)) rfl rfl (w64 om))<|zY (x0:=((yd V).getD (m+1) 0)) 3 (m+1) rfl ye sz121 rfl rfl rfl (by first|rfl|assumption|(simp;done)|omega) rfl rfl (gD (d:=0) om) (fun b33 o34 hok35=> ?_)
      replace hok35:=zH.1 hok35
      refine e_ru (zB (j:=0) 0 ty121 rfl rfl rfl rfl)<|e_p (zL (z:=((yd V).getD (m+1) 0)) rfl (by rw [yh];rfl) yi (wu64 om))<|e_p (zI (z:=(r+((yd V).getD (m+1) 0))) rfl rfl (wu64 om))<|e_p (zb rfl)<|zh<|zd<|zg<|za<|e_mv rfl<|e_p (zGa rfl rfl)<|zh<|zd<|zG rfl (fun hbr=> ?_) (fun hbr=> ?_)
      ·
       refine zla<|zud rfl<|zj<|zr ?_
       exact zea (g - 1) (show (0≤(g - 1)∧(g - 1)<1000000000)∧(yf (u.drop j))<((g - 1)+1)*(V:Int)∧(g - 1)*(V:Int)<(yf (u.drop j))+(V:Int) from by have hs9:=(hGs.step hT hgs).2;have hb9:=Big.Gs.broke hT hs9 hbr;exact ⟨⟨hs9.g0,hb9.1⟩,hs9.up,Big.Gs.fin hT hs9 hb9.1 hb9.2⟩) ((.of rfl):SubM _ _) (ho:=((.of [0,0] rfl):PickO _ _ _)) ((.of [1,2,3,4,5,6,7,8,9] rfl):SelR _ _ _)
      ·
       refine zt<|zP<|zha ((g - 1),(r+((yd V).getD (m+1) 0))) (show Big.Gs (yf (u.drop j)) (V:Int) ((yd V).getD (m+1) 0) ((u.getD (j+(m+2)) 0)*1000000000+(u.getD (j+(m+1)) 0)) (g - 1) (r+((yd V).getD (m+1) 0))∧(r+((yd V).getD (m+1) 0))<1000000000 from by exact ⟨(hGs.step hT hgs).2,by omega⟩) (by have:=(hGs.step hT hgs).1;show (g - 1).toNat<g.toNat;omega) ((.of rfl):SubM _ _) (ho:=((.of [0,0] rfl):PickO _ _ _)) ((.of [1,2,3,4,5,6,7,8,9] rfl):SelR _ _ _)
     ·
      refine zla<|zj<|zj<|zr ?_
      exact zea g (show (0≤g∧g<1000000000)∧(yf (u.drop j))<(g+1)*(V:Int)∧g*(V:Int)<(yf (u.drop j))+(V:Int) from by exact ⟨⟨hg0,by omega⟩,hGs.up,Big.Gs.fin hT hGs om om⟩) ((.of rfl):SubM _ _) (ho:=((.of [0,0] rfl):PickO _ _ _)) ((.of [0,1,2,3,4,5,6,7,8] rfl):SelR _ _ _)
   ·
    rintro g hC
    replace hC:(0≤g∧g<1000000000)∧(yf (u.drop j))<(g+1)*(V:Int)∧g*(V:Int)<(yf (u.drop j))+(V:Int):=hC
    try dsimp only
    obtain ⟨⟨hg0,hg1⟩,hup,hdn⟩:=hC
    refine zg<|za<|e_p (zb rfl)<|e_p (zb rfl)<|zh<|zd<|zg<|zg<|za<|e_mv rfl<|e_mv rfl<|zh<|zd<|zv<|zqa (X:=Nat×(List Int)×Int×Int) (fun x:Nat×(List Int)×Int×Int=>x.1≤m+2∧Big.MsI u j g (yd V) x.1 x.2.1 x.2.2.1 x.2.2.2) (fun x=>[(15,.int .u64 (x.2.2.2)),(14,ya yb (x.2.2.1)),(137,ya yb ((x.1:Nat):Int)),(136,ya yb (((m+2):Nat):Int)),(12,.int .u64 g),(10,ya yb ((j:Nat):Int)),(4,.slice (some ⟨b20,0,none⟩) (M - (m+2)) (M - (m+2))),(7,.slice p17 M c18),(9,ya yb (((m+2):Nat):Int)),(8,.slice p313 (m+2) c314),(6,.int .u32 ((s:Nat):Int)),(5,.slice none 0 0)]) (fun x=>[rowA 121 (rI .u32) (some ⟨b20,0,none⟩) (M - (m+2)) (List.replicate (j+1) 0++qs),rowA 121 (rI .u32) p17 c18 (x.2.1)]) (fun x=>[atF b26 o27 [.int .u32 ((yd V).getD (m+1) 0)],atF b23 o24 [.int .u32 ((yd V).getD (m+1) 0)],slF (rI .u32) (some ⟨b16,0,none⟩) 1 ([0]),slF (rI .u32) p313 c314 (yd V),slF (rI .u32) (some ⟨b10,0,none⟩) 1 (yd s),slF (rI .u32) (some ⟨b5,0,none⟩) 1 (yd s),atF b1 o2 [.int .u32 ((yd b).getD ((yd b).length - 1) 0)],slF (rI .u32) p1 c1 (yd a),slF (rI .u32) p2 c2 (yd b)]) (fun x:Nat×(List Int)×Int×Int=>(m+2) - x.1) (0,u,0,0) (show 0≤m+2∧Big.MsI u j g (yd V) 0 u 0 0 from by exact ⟨Nat.zero_le _,Big.MsI.start hI.uo j g _⟩) ((.c rfl (.c rfl (.e rfl (by first|rfl|(congr 1;omega)|simp_all) (.of rfl)))):SubM _ _) (ho:=((.of [0,0] rfl):PickO _ _ _)) ((.of [0,1,2,3,4,5,6,7,8] rfl):SelR _ _ _) ?_
    rintro ⟨i,w,bo,ca⟩ hMM
    replace hMM:i≤m+2∧Big.MsI u j g (yd V) i w bo ca:=hMM
    try dsimp only
    obtain ⟨hile,hM2⟩:=hMM
    have hb0:=hM2.b0
    have hb1:=hM2.b1
    have hc0:=hM2.c0
    have hc1:=hM2.c1
    have hwl:=hM2.len
    have hwo:=yn hM2.ok (j+i)
    have hvi:=yn (yp V) i
    have hca:=Big.ms_carry ⟨hg0,hg1⟩ hvi ⟨hc0,hc1⟩
    have hgx:=Int.mul_nonneg hg0 hvi.1
    refine zg<|za<|e_p (zaa rfl rfl)<|zh<|zd<|zg<|zG rfl (fun hi=> ?_) (fun hi=> ?_)
    ·
     refine zt<|zd<|zg<|zv<|zg<|za<|e_mv rfl<|e_p (zb rfl)<|zh<|zd<|zg<|za<|e_mv rfl<|e_mv rfl<|e_mv rfl<|zY (x0:=((yd V).getD i 0)) 3 i rfl ye sz121 rfl rfl rfl (by first|rfl|assumption|(simp;done)|omega) rfl rfl (gD (d:=0) om) (fun b36 o37 hok38=> ?_)
     replace hok38:=zH.1 hok38
     refine e_ru (zB (j:=0) 0 ty121 rfl rfl rfl rfl)<|e_p (zL (z:=((yd V).getD i 0)) rfl (by rw [yh];rfl) yi (wu64 om))<|e_p (zDa (z:=(g*((yd V).getD i 0))) rfl rfl (wu64 om))<|e_mv rfl<|e_p (zI (z:=((g*((yd V).getD i 0))+ca)) rfl rfl (wu64 om))<|e_p (zb rfl)<|zh<|zd<|zg<|za<|e_mv rfl<|e_p (zob (z:=(((g*((yd V).getD i 0))+ca) / 1000000000)) rfl rfl om (by rw [quoN (z:=(((g*((yd V).getD i 0))+ca) / 1000000000)) om om];exact wu64 om))<|e_p (zb rfl)<|zh<|zd<|zg<|za<|e_mv rfl<|e_mv rfl<|e_mv rfl<|e_p (zI (z:=(((j+i):Nat):Int)) rfl rfl (w64 om))<|e_ru (zfa 1 (j+i) rfl ye sz121 rfl (by first|rfl|assumption|(simp;done)|omega) rfl rfl om)<|r_vl rfl rfl (zZ 1 (j+i) rfl ty121 rfl rfl (gD (d:=0) om) rfl) (fun _ hok39=> ?_)
     replace hok39:=zH.1 hok39
     refine e_p (zL (z:=(w.getD (j+i) 0)) rfl (by rw [yh];rfl) yu (w64 om))<|e_mv rfl<|e_p (zoa (z:=((w.getD (j+i) 0) - bo)) rfl rfl (w64 om))<|e_mv rfl<|e_p (zya (z:=(((g*((yd V).getD i 0))+ca)%1000000000)) rfl rfl om (remN om om))<|e_p (zL (z:=(((g*((yd V).getD i 0))+ca)%1000000000)) rfl (by rw [yi];rfl) yu (w64 om))<|e_p (zoa (z:=(((w.getD (j+i) 0) - bo) - (((g*((yd V).getD i 0))+ca)%1000000000))) rfl rfl (w64 om))<|e_p (zb rfl)<|zh<|zd<|zg<|za<|e_p (zb rfl)<|zh<|zd<|zg<|zg<|za<|e_mv rfl<|e_p (zaa rfl rfl)<|zh<|zd<|zG rfl (fun hneg=> ?_) (fun hneg=> ?_)
     ·
      refine za<|e_mv rfl<|e_p (zI (z:=((((w.getD (j+i) 0) - bo) - (((g*((yd V).getD i 0))+ca)%1000000000))+1000000000)) rfl rfl (w64 om))<|e_p (zb rfl)<|e_p (zb rfl)<|zh<|zd<|za<|e_mv rfl<|e_mv rfl<|e_mv rfl<|e_p (zI (z:=(((j+i):Nat):Int)) rfl rfl (w64 om))<|e_mv rfl<|e_p (zL (z:=((((w.getD (j+i) 0) - bo) - (((g*((yd V).getD i 0))+ca)%1000000000))+1000000000)) rfl (by rw [yu];rfl) yh (wu32 om))<|e_ru (zfa 1 (j+i) rfl ye sz121 rfl (by first|rfl|assumption|(simp;done)|omega) rfl rfl om)<|zLa 1 rfl rfl rfl (zja (j:=(j+i)) (x0:=((((w.getD (j+i) 0) - bo) - (((g*((yd V).getD i 0))+ca)%1000000000))+1000000000)) (γ0:=()) rfl rfl (by first|omega|(rw [List.length_map];omega)|(simp only [List.length_set];omega)|(simp;done)|(simp;omega)) rfl rfl sz121 (fun _ _=>by exact zH.2 om)) (fun _=>(.s .z)) (fun _ _=> ?_)
      refine zh<|zP<|zd<|za<|e_p (zI (z:=(((i+1):Nat):Int)) rfl rfl (w64 om))<|e_mv rfl<|zh<|zha ((i+1),(w.set (j+i) ((((w.getD (j+i) 0) - bo) - (((g*((yd V).getD i 0))+ca)%1000000000))+1000000000)),1,(((g*((yd V).getD i 0))+ca) / 1000000000)) (show (i+1)≤m+2∧Big.MsI u j g (yd V) (i+1) (w.set (j+i) ((((w.getD (j+i) 0) - bo) - (((g*((yd V).getD i 0))+ca)%1000000000))+1000000000)) 1 (((g*((yd V).getD i 0))+ca) / 1000000000) from by exact ⟨by omega,hM2.step ⟨hg0,hg1⟩ (yp V) om om ⟨by omega,by omega⟩ ⟨by decide,by decide⟩⟩) (by show (m+2) - (i+1)<(m+2) - i;omega) ((.of rfl):SubM _ _) (ho:=((.of [0,0] rfl):PickO _ _ _)) ((.of [1,2,3,4,5,6,7,8,9] rfl):SelR _ _ _)
     ·
      refine zt<|zd<|za<|e_mv rfl<|e_mv rfl<|e_mv rfl<|e_p (zI (z:=(((j+i):Nat):Int)) rfl rfl (w64 om))<|e_mv rfl<|e_p (zL (z:=(((w.getD (j+i) 0) - bo) - (((g*((yd V).getD i 0))+ca)%1000000000))) rfl (by rw [yu];rfl) yh (wu32 om))<|e_ru (zfa 1 (j+i) rfl ye sz121 rfl (by first|rfl|assumption|(simp;done)|omega) rfl rfl om)<|zLa 1 rfl rfl rfl (zja (j:=(j+i)) (x0:=(((w.getD (j+i) 0) - bo) - (((g*((yd V).getD i 0))+ca)%1000000000))) (γ0:=()) rfl rfl (by first|omega|(rw [List.length_map];omega)|(simp only [List.length_set];omega)|(simp;done)|(simp;omega)) rfl rfl sz121 (fun _ _=>by exact zH.2 om)) (fun _=>(.s .z)) (fun _ _=> ?_)
      refine zh<|zP<|zd<|za<|e_p (zI (z:=(((i+1):Nat):Int)) rfl rfl (w64 om))<|e_mv rfl<|zh<|zha ((i+1),(w.set (j+i) (((w.getD (j+i) 0) - bo) - (((g*((yd V).getD i 0))+ca)%1000000000))),0,(((g*((yd V).getD i 0))+ca) / 1000000000)) (show (i+1)≤m+2∧Big.MsI u j g (yd V) (i+1) (w.set (j+i) (((w.getD (j+i) 0) - bo) - (((g*((yd V).getD i 0))+ca)%1000000000))) 0 (((g*((yd V).getD i 0))+ca) / 1000000000) from by exact ⟨by omega,hM2.step ⟨hg0,hg1⟩ (yp V) om om ⟨by omega,by omega⟩ ⟨by decide,by decide⟩⟩) (by show (m+2) - (i+1)<(m+2) - i;omega) ((.of rfl):SubM _ _) (ho:=((.of [0,0] rfl):PickO _ _ _)) ((.of [1,2,3,4,5,6,7,8,9] rfl):SelR _ _ _)
    ·
     have hM3:Big.MsI u j g (yd V) (m+2) w bo ca:=by have h8:i=m+2:=om;exact h8 ▸ hM2
     have hwo2:=yn hM2.ok (j+(m+2))
     refine zla<|zj<|zj<|zr<|zd<|zg<|za<|e_mv rfl<|e_mv rfl<|e_mv rfl<|e_p (zI (z:=(((j+(m+2)):Nat):Int)) rfl rfl (w64 om))<|e_ru (zfa 1 (j+(m+2)) rfl ye sz121 rfl (by first|rfl|assumption|(simp;done)|omega) rfl rfl om)<|r_vl rfl rfl (zZ 1 (j+(m+2)) rfl ty121 rfl rfl (gD (d:=0) om) rfl) (fun _ hok40=> ?_)
     replace hok40:=zH.1 hok40
     refine e_p (zL (z:=(w.getD (j+(m+2)) 0)) rfl (by rw [yh];rfl) yu (w64 om))<|e_mv rfl<|e_p (zoa (z:=((w.getD (j+(m+2)) 0) - bo)) rfl rfl (w64 om))<|e_mv rfl<|e_p (zL (z:=ca) rfl (by rw [yi];rfl) yu (w64 om))<|e_p (zoa (z:=(((w.getD (j+(m+2)) 0) - bo) - ca)) rfl rfl (w64 om))<|e_p (zb rfl)<|zh<|zd<|zg<|zg<|za<|e_mv rfl<|e_p (zaa rfl rfl)<|zh<|zd<|zG rfl (fun hd=> ?_) (fun hd=> ?_)
     ·
      have hg9:=hI.neg1 hM3 hm hd
      refine zg<|za<|e_mv rfl<|e_mv rfl<|e_mv rfl<|e_p (zI (z:=(((j+(m+2)):Nat):Int)) rfl rfl (w64 om))<|e_mv rfl<|e_p (zI (z:=((((w.getD (j+(m+2)) 0) - bo) - ca)+1000000000)) rfl rfl (w64 om))<|e_p (zL (z:=((((w.getD (j+(m+2)) 0) - bo) - ca)+1000000000)) rfl (by rw [yu];rfl) yh (wu32 om))<|e_ru (zfa 1 (j+(m+2)) rfl ye sz121 rfl (by first|rfl|assumption|(simp;done)|omega) rfl rfl om)<|zLa 1 rfl rfl rfl (zja (j:=(j+(m+2))) (x0:=((((w.getD (j+(m+2)) 0) - bo) - ca)+1000000000)) (γ0:=()) rfl rfl (by first|omega|(rw [List.length_map];omega)|(simp only [List.length_set];omega)|(simp;done)|(simp;omega)) rfl rfl sz121 (fun _ _=>by exact zH.2 om)) (fun _=>(.s .z)) (fun _ _=> ?_)
      refine zh<|zd<|zg<|za<|e_mv rfl<|e_p (zoa (z:=(g - 1)) rfl rfl (wu64 om))<|e_p (zb rfl)<|zh<|zd<|zg<|za<|e_p (zb rfl)<|zh<|zd<|zg<|zg<|za<|e_mv rfl<|e_mv rfl<|zh<|zd<|zv<|zqa (X:=Nat×(List Int)×Int) (fun x:Nat×(List Int)×Int=>x.1≤m+2∧Big.AbI (w.set (j+(m+2)) ((((w.getD (j+(m+2)) 0) - bo) - ca)+1000000000)) j (yd V) x.1 x.2.1 x.2.2) (fun x=>[(20,.int .u32 (x.2.2)),(201,ya yb ((x.1:Nat):Int)),(200,ya yb (((m+2):Nat):Int)),(12,.int .u64 (g - 1)),(10,ya yb ((j:Nat):Int)),(4,.slice (some ⟨b20,0,none⟩) (M - (m+2)) (M - (m+2))),(7,.slice p17 M c18),(9,ya yb (((m+2):Nat):Int)),(8,.slice p313 (m+2) c314),(6,.int .u32 ((s:Nat):Int)),(5,.slice none 0 0)]) (fun x=>[rowA 121 (rI .u32) (some ⟨b20,0,none⟩) (M - (m+2)) (List.replicate (j+1) 0++qs),rowA 121 (rI .u32) p17 c18 (x.2.1)]) (fun x=>[atF b26 o27 [.int .u32 ((yd V).getD (m+1) 0)],atF b23 o24 [.int .u32 ((yd V).getD (m+1) 0)],slF (rI .u32) (some ⟨b16,0,none⟩) 1 ([0]),slF (rI .u32) p313 c314 (yd V),slF (rI .u32) (some ⟨b10,0,none⟩) 1 (yd s),slF (rI .u32) (some ⟨b5,0,none⟩) 1 (yd s),atF b1 o2 [.int .u32 ((yd b).getD ((yd b).length - 1) 0)],slF (rI .u32) p1 c1 (yd a),slF (rI .u32) p2 c2 (yd b)]) (fun x:Nat×(List Int)×Int=>(m+2) - x.1) (0,(w.set (j+(m+2)) ((((w.getD (j+(m+2)) 0) - bo) - ca)+1000000000)),0) (show 0≤m+2∧Big.AbI (w.set (j+(m+2)) ((((w.getD (j+(m+2)) 0) - bo) - ca)+1000000000)) j (yd V) 0 (w.set (j+(m+2)) ((((w.getD (j+(m+2)) 0) - bo) - ca)+1000000000)) 0 from by exact ⟨Nat.zero_le _,Big.AbI.start (yF hM2.ok om om) _ _⟩) ((.c rfl (.e rfl (by first|rfl|(congr 1;omega)|simp_all) (.of rfl))):SubM _ _) (ho:=((.c (i:=0) rfl (.e (i:=0) rfl (by first|rfl|(congr 1;omega)|simp_all) .n)):PickO _ _ _)) ((.of [0,1,2,3,4,5,6,7,8] rfl):SelR _ _ _) ?_
      rintro ⟨i2,xs,cc⟩ hAA
      replace hAA:i2≤m+2∧Big.AbI (w.set (j+(m+2)) ((((w.getD (j+(m+2)) 0) - bo) - ca)+1000000000)) j (yd V) i2 xs cc:=hAA
      try dsimp only
      obtain ⟨hile2,hA2⟩:=hAA
      have hk0:=hA2.c0
      have hk1:=hA2.c1
      have hxl:=hA2.len
      rw [List.length_set] at hxl
      have hxo:=yn hA2.ok (j+i2)
      have hvi2:=yn (yp V) i2
      refine zg<|za<|e_p (zaa rfl rfl)<|zh<|zd<|zg<|zG rfl (fun hi=> ?_) (fun hi=> ?_)
      ·
       refine zt<|zd<|zg<|zv<|zg<|za<|e_mv rfl<|e_p (zb rfl)<|zh<|zd<|zg<|zba (OW:=[]) (O:=[rowA 121 (rI .u32) (some ⟨b20,0,none⟩) (M - (m+2)) (List.replicate (j+1) 0++qs),rowA 121 (rI .u32) p17 c18 xs]) 100000 mixed (.then (.block (.then (.then (.block (.then (.then (.block (.then (.then (.block (.then .ret)))))))))))) kr<|e_dm 0 rfl rfl rfl<|e_dm 1 rfl rfl rfl<|e_dm 2 rfl rfl rfl<|e_pv 3 rfl rfl (zI (z:=(((j+i2):Nat):Int)) rfl rfl (w64 om))<|e_u 4 rfl rfl (zfa 1 (j+i2) rfl ye sz121 rfl (by first|rfl|assumption|(simp;done)|omega) rfl rfl om)<|d_vl 5 rfl rfl kr kr rfl rfl (zZ 1 (j+i2) rfl ty121 rfl rfl (gD (d:=0) om) rfl) (fun _ hok41=> ?_)
       replace hok41:=zH.1 hok41
       refine e_dm 6 rfl rfl rfl<|e_dm 7 rfl rfl rfl<|zca (x0:=((yd V).getD i2 0)) 8 rfl rfl kr kr 3 i2 rfl ye sz121 rfl rfl rfl (by first|rfl|assumption|(simp;done)|omega) rfl rfl (gD (d:=0) om) (fun b42 o43 hok44=> ?_)
       replace hok44:=zH.1 hok44
       refine e_u 9 rfl rfl (zB (j:=0) 0 ty121 rfl rfl rfl rfl)<|e_pv 10 rfl rfl (zI (z:=((xs.getD (j+i2) 0)+((yd V).getD i2 0))) rfl rfl (wu32 om))<|e_dm 11 rfl rfl rfl<|e_pv 12 rfl rfl (zI (z:=(((xs.getD (j+i2) 0)+((yd V).getD i2 0))+cc)) rfl rfl (wu32 om))<|e_pv 13 rfl rfl (zb rfl)<|zX kr<|zd<|zg<|za<|e_p (zb rfl)<|zh<|zd<|zg<|zg<|za<|e_mv rfl<|e_p (zGa rfl rfl)<|zh<|zd<|zG rfl (fun hcy=> ?_) (fun hcy=> ?_)
       ·
        refine za<|e_mv rfl<|e_p (zoa (z:=((((xs.getD (j+i2) 0)+((yd V).getD i2 0))+cc) - 1000000000)) rfl rfl (wu32 om))<|e_p (zb rfl)<|e_p (zb rfl)<|zh<|zd<|za<|e_mv rfl<|e_mv rfl<|e_mv rfl<|e_p (zI (z:=(((j+i2):Nat):Int)) rfl rfl (w64 om))<|e_mv rfl<|e_ru (zfa 1 (j+i2) rfl ye sz121 rfl (by first|rfl|assumption|(simp;done)|omega) rfl rfl om)<|zLa 1 rfl rfl rfl (zja (j:=(j+i2)) (x0:=((((xs.getD (j+i2) 0)+((yd V).getD i2 0))+cc) - 1000000000)) (γ0:=()) rfl rfl (by first|omega|(rw [List.length_map];omega)|(simp only [List.length_set];omega)|(simp;done)|(simp;omega)) rfl rfl sz121 (fun _ _=>by exact zH.2 om)) (fun _=>(.s .z)) (fun _ _=> ?_)
        refine zh<|zP<|zd<|za<|e_p (zI (z:=(((i2+1):Nat):Int)) rfl rfl (w64 om))<|e_mv rfl<|zh<|zha ((i2+1),(xs.set (j+i2) ((((xs.getD (j+i2) 0)+((yd V).getD i2 0))+cc) - 1000000000)),1) (show (i2+1)≤m+2∧Big.AbI (w.set (j+(m+2)) ((((w.getD (j+(m+2)) 0) - bo) - ca)+1000000000)) j (yd V) (i2+1) (xs.set (j+i2) ((((xs.getD (j+i2) 0)+((yd V).getD i2 0))+cc) - 1000000000)) 1 from by exact ⟨by omega,hA2.step (by rw [List.length_set];omega) om ⟨by omega,by omega⟩ ⟨by decide,by decide⟩⟩) (by show (m+2) - (i2+1)<(m+2) - i2;omega) ((.of rfl):SubM _ _) (ho:=((.of [0,0] rfl):PickO _ _ _)) ((.of [1,2,3,4,5,6,7,8,9] rfl):SelR _ _ _)
       ·
        refine zt<|zd<|za<|e_mv rfl<|e_mv rfl<|e_mv rfl<|e_p (zI (z:=(((j+i2):Nat):Int)) rfl rfl (w64 om))<|e_mv rfl<|e_ru (zfa 1 (j+i2) rfl ye sz121 rfl (by first|rfl|assumption|(simp;done)|omega) rfl rfl om)<|zLa 1 rfl rfl rfl (zja (j:=(j+i2)) (x0:=(((xs.getD (j+i2) 0)+((yd V).getD i2 0))+cc)) (γ0:=()) rfl rfl (by first|omega|(rw [List.length_map];omega)|(simp only [List.length_set];omega)|(simp;done)|(simp;omega)) rfl rfl sz121 (fun _ _=>by exact zH.2 om)) (fun _=>(.s .z)) (fun _ _=> ?_)
        refine zh<|zP<|zd<|za<|e_p (zI (z:=(((i2+1):Nat):Int)) rfl rfl (w64 om))<|e_mv rfl<|zh<|zha ((i2+1),(xs.set (j+i2) (((xs.getD (j+i2) 0)+((yd V).getD i2 0))+cc)),0) (show (i2+1)≤m+2∧Big.AbI (w.set (j+(m+2)) ((((w.getD (j+(m+2)) 0) - bo) - ca)+1000000000)) j (yd V) (i2+1) (xs.set (j+i2) (((xs.getD (j+i2) 0)+((yd V).getD i2 0))+cc)) 0 from by exact ⟨by omega,hA2.step (by rw [List.length_set];omega) om ⟨by omega,by omega⟩ ⟨by decide,by decide⟩⟩) (by show (m+2) - (i2+1)<(m+2) - i2;omega) ((.of rfl):SubM _ _) (ho:=((.of [0,0] rfl):PickO _ _ _)) ((.of [1,2,3,4,5,6,7,8,9] rfl):SelR _ _ _)
      ·
       have hA3:Big.AbI (w.set (j+(m+2)) ((((w.getD (j+(m+2)) 0) - bo) - ca)+1000000000)) j (yd V) (m+2) xs cc:=by have h8:i2=m+2:=om;exact h8 ▸ hA2
       have hxo2:=yn hA2.ok (j+(m+2))
       refine zla<|zj<|zj<|zr<|zd<|za<|e_mv rfl<|e_mv rfl<|e_mv rfl<|e_p (zI (z:=(((j+(m+2)):Nat):Int)) rfl rfl (w64 om))<|e_mv rfl<|e_mv rfl<|e_mv rfl<|e_p (zI (z:=(((j+(m+2)):Nat):Int)) rfl rfl (w64 om))<|e_ru (zfa 1 (j+(m+2)) rfl ye sz121 rfl (by first|rfl|assumption|(simp;done)|omega) rfl rfl om)<|r_vl rfl rfl (zZ 1 (j+(m+2)) rfl ty121 rfl rfl (gD (d:=0) om) rfl) (fun _ hok45=> ?_)
       replace hok45:=zH.1 hok45
       refine e_mv rfl<|e_p (zI (z:=((xs.getD (j+(m+2)) 0)+cc)) rfl rfl (wu32 om))<|e_p (zya (z:=(((xs.getD (j+(m+2)) 0)+cc)%1000000000)) rfl rfl om (remN om om))<|e_ru (zfa 1 (j+(m+2)) rfl ye sz121 rfl (by first|rfl|assumption|(simp;done)|omega) rfl rfl om)<|zLa 1 rfl rfl rfl (zja (j:=(j+(m+2))) (x0:=(((xs.getD (j+(m+2)) 0)+cc)%1000000000)) (γ0:=()) rfl rfl (by first|omega|(rw [List.length_map];omega)|(simp only [List.length_set];omega)|(simp;done)|(simp;omega)) rfl rfl sz121 (fun _ _=>by exact zH.2 om)) (fun _=>(.s .z)) (fun _ _=> ?_)
       refine zh<|zd<|za<|e_mv rfl<|e_mv rfl<|e_mv rfl<|e_p (zL (z:=(g - 1)) rfl (by rw [yi];rfl) yh (wu32 om))<|e_p (zpa (j:=j) ye sz121 rfl rfl rfl om)<|zLa 0 rfl rfl rfl (zja (j:=j) (x0:=(g - 1)) (γ0:=()) rfl rfl (by first|omega|(rw [List.length_map];omega)|(simp only [List.length_set];omega)|(simp;done)|(simp;omega)) rfl rfl sz121 (fun _ _=>by exact zH.2 om)) (fun _=> .z) (fun _ _=> ?_)
       refine zh<|zP<|zd<|za<|e_mv rfl<|e_p (zoa (z:=(((j:Nat):Int) - 1)) rfl rfl (w64 om))<|e_p (zb rfl)<|zh<|zha (j,(xs.set (j+(m+2)) (((xs.getD (j+(m+2)) 0)+cc)%1000000000)),((g - 1) :: qs)) (show yI M (m+2) ((A:Nat):Int) ((V:Nat):Int) j (xs.set (j+(m+2)) (((xs.getD (j+(m+2)) 0)+cc)%1000000000)) ((g - 1) :: qs) from by exact (hI.neg ⟨hg0,hg1⟩ hdn hup hM3 hm hd hA3).2) (by show j<j+1;omega) ((.of rfl):SubM _ _) (ho:=((.e (i:=0) rfl (by rw [Big.pad_set]) (.c (i:=0) rfl .n)):PickO _ _ _)) ((.of [2,3,4,5,6,7,8] rfl):SelR _ _ _)
     ·
      refine za<|e_mv rfl<|e_mv rfl<|e_mv rfl<|e_p (zI (z:=(((j+(m+2)):Nat):Int)) rfl rfl (w64 om))<|e_mv rfl<|e_p (zL (z:=(((w.getD (j+(m+2)) 0) - bo) - ca)) rfl (by rw [yu];rfl) yh (wu32 om))<|e_ru (zfa 1 (j+(m+2)) rfl ye sz121 rfl (by first|rfl|assumption|(simp;done)|omega) rfl rfl om)<|zLa 1 rfl rfl rfl (zja (j:=(j+(m+2))) (x0:=(((w.getD (j+(m+2)) 0) - bo) - ca)) (γ0:=()) rfl rfl (by first|omega|(rw [List.length_map];omega)|(simp only [List.length_set];omega)|(simp;done)|(simp;omega)) rfl rfl sz121 (fun _ _=>by exact zH.2 om)) (fun _=>(.s .z)) (fun _ _=> ?_)
      refine zh<|zd<|za<|e_mv rfl<|e_mv rfl<|e_mv rfl<|e_p (zL (z:=g) rfl (by rw [yi];rfl) yh (wu32 om))<|e_p (zpa (j:=j) ye sz121 rfl rfl rfl om)<|zLa 0 rfl rfl rfl (zja (j:=j) (x0:=g) (γ0:=()) rfl rfl (by first|omega|(rw [List.length_map];omega)|(simp only [List.length_set];omega)|(simp;done)|(simp;omega)) rfl rfl sz121 (fun _ _=>by exact zH.2 om)) (fun _=> .z) (fun _ _=> ?_)
      refine zh<|zP<|zd<|za<|e_mv rfl<|e_p (zoa (z:=(((j:Nat):Int) - 1)) rfl rfl (w64 om))<|e_p (zb rfl)<|zh<|zha (j,(w.set (j+(m+2)) (((w.getD (j+(m+2)) 0) - bo) - ca)),(g :: qs)) (show yI M (m+2) ((A:Nat):Int) ((V:Nat):Int) j (w.set (j+(m+2)) (((w.getD (j+(m+2)) 0) - bo) - ca)) (g :: qs) from by exact hI.pos ⟨hg0,hg1⟩ hup hM3 hm om) (by show j<j+1;omega) ((.of rfl):SubM _ _) (ho:=((.e (i:=0) rfl (by rw [Big.pad_set]) (.c (i:=0) rfl .n)):PickO _ _ _)) ((.of [2,3,4,5,6,7,8] rfl):SelR _ _ _)
  ·
   have hj0:jj=0:=by omega
   have hI0:yI M (m+2) ((A:Nat):Int) ((V:Nat):Int) 0 u qs:=hj0 ▸ hI
   obtain ⟨hf1,hf2⟩:=hI0.fin hm
   have hsc:=Big.scale_div (a:=a) (b:=b) hs1
   have hql:qs.length=M - (m+2):=by have h8:=hI0.ql;omega
   have hul0:=hI0.ul
   refine zla<|zj<|zj<|zr<|zd<|zg<|zpe 1 rfl (.s .z)<|zia 0 rfl (fun hcu=> ?_)
   have hAV:(yd (A%V)).length≤1099511627776:=Nat.le_trans (Big.ln_mono' (Nat.le_of_lt (Nat.mod_lt A (Nat.pos_of_ne_zero (fun e=>by rw [e] at hm;cases hm))))) om
   have e46:List.replicate jj 0++qs=qs:=by rw [hj0];rfl
   rw [e46]
   refine za<|e_mv rfl<|e_mv rfl<|e_p (zyb (hi:=(m+2)) ye sz121 rfl (.s rfl) (.inr ⟨_,rfl⟩) om)<|zyc (zfc 0 rfl (m+2) om) (fun _ _=> ?_)
   refine zJ rfl rfl (.c rfl .n) ce134 (zDb (p:=p17) (n:=(m+2)) (cap:=c18) (l:=(u.take (m+2))) (hn:=cbb)) (.c (j:=0) rfl .n) ?_
   rintro ⟨⟩ -
   dsimp only [aq,nq,cq]
   refine e_mv rfl ?_
   have e47:ym (u.take (m+2))=yd (A%V):=by exact hf2
   rw [e47]
   refine zJ rfl rfl (.c rfl (.c rfl .n)) ce160 (zId (a:=A%V) (mm:=s) (p:=p17) (cap:=c18) (hb:=om) (hm0:=om) (hm1:=om)) (.c (j:=0) rfl .n) ?_
   rintro ⟨p248,c249⟩ -
   dsimp only [aq,nq,cq]
   refine e_mv rfl<|e_p (zC rfl rfl)<|e_p (zC rfl rfl)<|e_p (zb rfl)<|zh<|zd<|zg<|za<|e_mv rfl<|zma 0 rfl .z<|zJ rfl rfl (.c rfl .n) ce134 (zDb (p:=some ⟨b20,0,none⟩) (n:=(M - (m+2))) (cap:=(M - (m+2))) (l:=qs) (hn:=cbb)) (.c (j:=0) rfl .n) ?_
   rintro ⟨⟩ -
   dsimp only [aq,nq,cq]
   refine e_mv rfl<|e_p (zb rfl)<|e_p (zb rfl)<|zh<|zd<|zK ?_
   have e50:ym qs=yd (A / V):=by exact hf1
   rw [e50]
   exact zAa Tryz.results161 ((some ⟨b20,0,none⟩),(M - (m+2)),p248,c249) trivial (zk rfl) (zk rfl) (by rw [hA,hV,hsc.1,hsc.2]) (ho:=(.n:PickO _ _ _)) ((.e (j:=0) rfl (by rw [hA,hV,hsc.1]) (.e (j:=2) rfl (by rw [hA,hV,hsc.2]) .n)):SelR _ _ _)
end Go.Proofs.YtjcpbhlijoigfaaGreat.Sp
