/- Lemmas on the walk and plain lemmas that the claim of this folder uses; each states its own conditions. Lines were printed by a program of ours. -/
import Derived.Test.YtbiaimgafknkmaaGreatZ7C
set_option linter.unusedVariables false
set_option linter.unusedSimpArgs false
set_option linter.unusedSectionVars false
open Go.Proofs.Tryz renaming underlying23 → ya, underlying22 → yb, underlying28 → yc, prog → yd
open Go.Proofs.YtbiaimgafknkmaaGreat.Big renaming hq → ye, zK → yf, hq_num → yg, hq_den → yh, zpa → yi, raw → yj
namespace Go.Proofs.YtbiaimgafknkmaaGreat.Sp
open Go
set_option linter.unusedVariables false
set_option maxRecDepth 100000
set_option maxHeartbeats 8000000
theorem zmd {z:Int} (hz: -9223372036854775808≤z∧z≤9223372036854775807):Con yd 76 [.int .i64 z] [] [] (Y:=(Option Addr)×Nat) (fun y=>True) (fun y=> .agg #[.bool (decide (z<0)),.slice (y.1) ((Big.digs ((z).natAbs)).length) (y.2)]) (fun y=>[]) (fun y=>[slF (rI .u32) (y.1) (y.2) (Big.digs ((z).natAbs))]):=by
 refine zl Tryz.func76 rfl rfl rfl (fun c=> ?_)
 show RunC _ _ _ _ _ [(0,.int .i64 z)] [] []
 refine ze<|za<|zH rfl rfl (zq zr26 rfl) (fun b1=> ?_)
 refine zf<|zd<|ze<|za<|e_mv rfl<|zk rfl rfl (.c rfl .n) ce107 (zmf (z:=z) (hz:=ass)) (.n) ?_
 rintro ⟨p22,c23⟩ -
 dsimp only [aq,nq,cq]
 refine zi 0 rfl rfl rfl rfl rfl sz26 rfl (.t2 .nil) .z<|zf<|zd<|zE ?_
 exact zw Tryz.results76 (p22,c23) trivial (zn 0 ty26 rfl rfl (.t2 .nil)) rfl (ho:=(.n:PickO _ _ _)) ((.c (j:=0) rfl .n):SelR _ _ _)
theorem zRc {z:Int} (hz: -9223372036854775808≤z∧z≤9223372036854775807):Con yd 76 [.int .i64 (z)] [] [] (Y:=(Wd)) (fun y=>True) (fun y=> .agg #[y.b,y.l]) (fun y=>[]) (fun y=>[zF y (z)]):=by
  exact zGb (zmd hz)
theorem znd {z:Int} (hz: -9223372036854775808≤z∧z≤9223372036854775807):Con yd 77 [.int .i64 z] [] [] (Y:=Wd×Wd) (fun y=>True) (fun y=> .agg #[y.1.b,y.1.l,y.2.b,y.2.l]) (fun y=>[]) (fun y=>[qF true y.1 y.2 ((z:Int):Rat)]):=by
 refine zl Tryz.func77 rfl rfl rfl (fun c=> ?_)
 show RunC _ _ _ _ _ [(0,.int .i64 z)] [] []
 refine ze<|za<|zH rfl rfl (zq zr28 rfl) (fun b1=> ?_)
 refine zf<|zd<|ze<|za<|e_mv rfl<|zk rfl rfl (.c rfl .n) ce76 (zRc (z:=z) (hz:=ass)) (.n) ?_
 rintro w32 -
 dsimp only [aq,nq,cq]
 refine zk rfl rfl (.c rfl .n) ce76 (zRc (z:=1) (hz:=by first|rfl|assumption|omega|(rw [yf];omega)|(decide +kernel))) (.n) ?_
 rintro w33 -
 dsimp only [aq,nq,cq]
 refine e_p (zI zr28 rfl yc (.c sz26 (.c sz26 .n)) (.c rfl (.c rfl .n)) (.c rfl rfl rfl (.t2 .nil) (.c rfl rfl rfl (.s2 (.t2 .nil)) .n)))<|zi 0 rfl rfl rfl rfl rfl sz28 rfl (.t4 .nil) .z<|zf<|zd<|zE<|zSa (qF true w32 w33 ((z:Int):Rat)) (qF_close 1 0 rfl rfl (by exact ⟨(Rat.num_intCast z).symm,by rw [Rat.den_intCast];rfl,Nat.le_trans (Big.hq_64 hz.1 hz.2) dd⟩)) ?_
 exact zw Tryz.results77 (w32,w33) trivial (zn 0 ty28 rfl rfl (.t4 .nil)) rfl (ho:=(.n:PickO _ _ _)) ((.c (j:=0) rfl .n):SelR _ _ _)
theorem zPa {z:Int} (hz: -9223372036854775808≤z∧z≤9223372036854775807):Con yd 42 [.int .i64 z] [] [] (Y:=Wd×Wd) (fun y=>True) (fun y=> .agg #[y.1.b,y.1.l,y.2.b,y.2.l]) (fun y=>[]) (fun y=>[qF true y.1 y.2 ((z:Int):Rat)]):=by
 refine zl Tryz.func42 rfl rfl rfl (fun c=> ?_)
 show RunC _ _ _ _ _ [(0,.int .i64 z)] [] []
 refine ze<|za<|zH rfl rfl (zq zr28 rfl) (fun b1=> ?_)
 refine zf<|zd<|ze<|za<|e_mv rfl<|zk rfl rfl (.c rfl .n) ce77 (znd (z:=z) (hz:=ass)) (.n) ?_
 rintro ⟨w32,w43⟩ -
 dsimp only [aq,nq,cq]
 refine zi 0 rfl rfl rfl rfl rfl sz28 rfl (.t4 .nil) .z<|zf<|zd<|zE ?_
 exact zw Tryz.results42 (w32,w43) trivial (zn 0 ty28 rfl rfl (.t4 .nil)) rfl (ho:=(.n:PickO _ _ _)) ((.c (j:=0) rfl .n):SelR _ _ _)
theorem zSc {s:Bool} {p1:Option Addr} {n1:Nat} {c1:Nat} {l1:List Int} {t:Bool} {p2:Option Addr} {n2:Nat} {c2:Nat} {l2:List Int} (hn1:l1.length=n1) (hn2:l2.length=n2) (hm1:n1≤1099511627776) (hm2:n2≤1099511627776):Con yd 87 [.agg #[.bool s,.slice p1 n1 c1,.bool t,.slice p2 n2 c2]] [] [slF (rI .u32) p1 c1 l1,slF (rI .u32) p2 c2 l2] (Y:=Unit) (fun y=>True) (fun y=> .bool (decide (Big.qok ((s,l1),(t,l2))))) (fun y=>[]) (fun y=>[]):=by
 refine zl Tryz.func87 rfl rfl rfl (fun c=> ?_)
 show RunC _ _ _ _ _ [(0,.agg #[.bool s,.slice p1 n1 c1,.bool t,.slice p2 n2 c2])] [] [slF (rI .u32) p1 c1 l1,slF (rI .u32) p2 c2 l2]
 refine zP 0 rfl (fun hL0=> ?_)
 refine zIa 0 rfl (fun hE0=> ?_)
 refine zP 1 rfl (fun hL1=> ?_)
 refine zIa 1 rfl (fun hE1=> ?_)
 have hnn1:Big.nn l1:=fun g hg=>(zx.1 (hE0 g hg)).1
 have hnn2:Big.nn l2:=fun g hg=>(zx.1 (hE1 g hg)).1
 have hb1:Big.ln (yj s l1)≤n1:=by have:=Big.zRa (s:=s) hnn1;omega
 have hb2:Big.ln (yj t l2)≤n2:=by have:=Big.zRa (s:=t) hnn2;omega
 refine ze<|za<|zH rfl rfl (zN rfl rfl) (fun b1=> ?_)
 refine e_p (zb rfl)<|zf<|zd<|ze<|zQa (X:=Unit) (fun x=>True) (fun x=>[(18,.bool (decide (¬(Big.canon s l1∧Big.canon t l2∧0<yj t l2)))),(2,.bool false),(1,.pointer (some ⟨b1,0,none⟩))]) (fun x=>[boxA b1 28 [.bool s,.slice p1 n1 c1,.bool t,.slice p2 n2 c2]]) (fun x=>[slF (rI .u32) p1 c1 l1,slF (rI .u32) p2 c2 l2]) ?_ ?_
 ·
  refine za<|e_p (zg yc rfl sz26 rfl rfl)<|e_ru (zc 0 ty26 rfl rfl (.t2 .nil))<|zM rfl rfl (.c rfl .n) ce116 (zrc (s:=s) (p:=p1) (n:=n1) (cap:=c1) (l:=l1) (hn:=ass)) (.c (j:=0) rfl .n)<|e_p (zZa rfl)<|zS rfl rfl (zaa rfl) (fun h2=> ?_) (fun h2=> ?_)
  ·
   refine e_no<|e_no<|e_no<|e_no<|e_p (zy rfl rfl)<|e_mv rfl<|e_no<|e_no<|e_no<|e_no<|e_p (zy rfl rfl)<|zf ?_
   exact zka () (show True from by first|trivial|omega|simp_all) ((.e rfl (congrArg Value.bool (by simp_all)) (.c rfl (.c rfl .n))):SubM _ _) (ho:=((.c (i:=0) rfl .n):PickO _ _ _)) ((.of [0,1] rfl):SelR _ _ _)
  ·
   refine e_p (zg yc rfl sz26 rfl rfl)<|e_ru (zc 0 ty26 rfl rfl (.s2 (.t2 .nil)))<|zM rfl rfl (.c rfl .n) ce116 (zrc (s:=t) (p:=p2) (n:=n2) (cap:=c2) (l:=l2) (hn:=ass)) (.c (j:=1) rfl .n)<|e_p (zZa rfl)<|e_p (zy rfl rfl)<|zS rfl rfl (zaa rfl) (fun h3=> ?_) (fun h3=> ?_)
   ·
    refine e_no<|e_no<|e_no<|e_no<|e_p (zy rfl rfl)<|zf ?_
    exact zka () (show True from by first|trivial|omega|simp_all) ((.e rfl (congrArg Value.bool (by simp_all)) (.c rfl (.c rfl .n))):SubM _ _) (ho:=((.c (i:=0) rfl .n):PickO _ _ _)) ((.of [0,1] rfl):SelR _ _ _)
   ·
    refine e_p (zg yc rfl sz26 rfl rfl)<|e_ru (zc 0 ty26 rfl rfl (.s2 (.t2 .nil)))<|zM rfl rfl (.c rfl .n) ce89 (zId (s:=t) (p:=p2) (n:=n2) (cap:=c2) (l:=l2) (hn:=ass) (hln:=by first|rfl|assumption|omega|(rw [yf];omega)|(decide +kernel))) (.c (j:=1) rfl .n)<|e_p (zqb rfl rfl)<|e_p (zy rfl rfl)<|zf ?_
    exact zka () (show True from by first|trivial|omega|simp_all) ((.e rfl (congrArg Value.bool (by exact decide_eq_decide.2 (Big.sgn_le (Decidable.not_not.1 ‹_›) (Decidable.not_not.1 ‹_›)))) (.c rfl (.c rfl .n))):SubM _ _) (ho:=((.c (i:=0) rfl .n):PickO _ _ _)) ((.of [0,1] rfl):SelR _ _ _)
 ·
  rintro ⟨⟩ -
  try dsimp only
  refine zC rfl (fun hc=> ?_) (fun hc=> ?_)
  ·
   refine ze<|za<|e_p (zb rfl)<|zf<|zd<|zE<|zp ?_
   exact zw Tryz.results87 () trivial (zo rfl) (congrArg Value.bool (decide_eq_false (fun h=>hc ⟨h.1,h.2.1,h.2.2.1⟩))) (ho:=(.n:PickO _ _ _)) (.n:SelR _ _ _)
  ·
   have hcc:=Decidable.not_not.1 hc
   have hgl:=Big.zGd (n:=yj s l1) (d:=yj t l2) om
   refine zB<|zd<|ze<|za<|e_p (zg yc rfl sz26 rfl rfl)<|e_ru (zc 0 ty26 rfl rfl (.t2 .nil))<|e_p (zg yc rfl sz26 rfl rfl)<|e_ru (zc 0 ty26 rfl rfl (.s2 (.t2 .nil)))<|zk rfl rfl (.c rfl (.c rfl .n)) ce88 (zwe (s:=s) (p1:=p1) (n1:=n1) (c1:=c1) (l1:=l1) (t:=t) (p2:=p2) (n2:=n2) (c2:=c2) (l2:=l2) (hn1:=ass) (hn2:=ass) (hm1:=by first|rfl|assumption|omega|(rw [yf];omega)|(decide +kernel)) (hm2:=by first|rfl|assumption|omega|(rw [yf];omega)|(decide +kernel))) (.c (j:=0) rfl (.c (j:=1) rfl .n)) ?_
   rintro ⟨p34,c35⟩ -
   dsimp only [aq,nq,cq]
   refine zk rfl rfl (.c rfl .n) ce76 (zmd (z:=1) (hz:=by first|rfl|assumption|omega|(rw [yf];omega)|(decide +kernel))) (.n) ?_
   rintro ⟨p26,c27⟩ -
   dsimp only [aq,nq,cq]
   refine zM rfl rfl (.c rfl (.c rfl .n)) ce117 (ztd (x1:=((Nat.gcd (yj s l1).natAbs (yj t l2).natAbs:Nat):Int)) (x2:=1) (p1:=p34) (c1:=c35) (p2:=p26) (c2:=c27) (hb1:=by first|rfl|assumption|omega|(rw [yf];omega)|(decide +kernel)) (hb2:=by first|rfl|assumption|omega|(rw [yf];omega)|(decide +kernel))) (.c (j:=1) rfl (.c (j:=0) rfl .n))<|e_p (zna rfl rfl)<|e_p (zb rfl)<|zf<|zd<|zE ?_
   exact zw Tryz.results87 () trivial (zo rfl) (congrArg Value.bool (decide_eq_decide.2 (Big.qok_sub (x:=((s,l1),(t,l2))) (Decidable.not_not.1 hc)).symm)) (ho:=(.n:PickO _ _ _)) (.n:SelR _ _ _)
theorem zzc {u1:Wd} {v1:Wd} {q1:Rat}:Con yd 87 [.agg #[u1.b,u1.l,v1.b,v1.l]] [] [qF true u1 v1 (q1)] (Y:=Unit) (fun y=>True) (fun y=> .bool true) (fun y=>[]) (fun y=>[]):=by
  exact zlg (fun x hx hk h1 h2=>by have h:= @zSc x.1.1 u1.p _ u1.c x.1.2 x.2.1 v1.p _ v1.c x.2.2 rfl rfl h1 h2;rw [decide_eq_true (hk rfl)] at h;exact h)
theorem zke {s:Bool} {p1:Option Addr} {n1:Nat} {c1:Nat} {l1:List Int} {t:Bool} {p2:Option Addr} {n2:Nat} {c2:Nat} {l2:List Int} (hn1:l1.length=n1) (hn2:l2.length=n2) (hm1:n1≤1099511627776) (hm2:n2≤1099511627776):Con yd 55 [.agg #[.bool s,.slice p1 n1 c1,.bool t,.slice p2 n2 c2]] [] [slF (rI .u32) p1 c1 l1,slF (rI .u32) p2 c2 l2] (Y:=Wd×Wd) (fun y=>True) (fun y=> .agg #[y.1.b,y.1.l,y.2.b,y.2.l]) (fun y=>[]) (fun y=>[qF true y.1 y.2 (Big.qv ((s,l1),(t,l2)))]):=by
 refine zl Tryz.func55 rfl rfl rfl (fun c=> ?_)
 show RunC _ _ _ _ _ [(0,.agg #[.bool s,.slice p1 n1 c1,.bool t,.slice p2 n2 c2])] [] [slF (rI .u32) p1 c1 l1,slF (rI .u32) p2 c2 l2]
 refine zP 0 rfl (fun hL0=> ?_)
 refine zIa 0 rfl (fun hE0=> ?_)
 refine zP 1 rfl (fun hL1=> ?_)
 refine zIa 1 rfl (fun hE1=> ?_)
 have hnn1:Big.nn l1:=fun g hg=>(zx.1 (hE0 g hg)).1
 have hnn2:Big.nn l2:=fun g hg=>(zx.1 (hE1 g hg)).1
 have hb1:Big.ln (yj s l1)≤n1:=by have:=Big.zRa (s:=s) hnn1;omega
 have hb2:Big.ln (yj t l2)≤n2:=by have:=Big.zRa (s:=t) hnn2;omega
 refine ze<|za<|zH rfl rfl (zN rfl rfl) (fun b1=> ?_)
 refine zH rfl rfl (zq zr28 rfl) (fun b2=> ?_)
 refine zf<|zd<|ze<|ze<|za<|e_ru (zc 1 ty28 rfl rfl (.t4 .nil))<|zM rfl rfl (.c rfl .n) ce87 (zSc (s:=s) (p1:=p1) (n1:=n1) (c1:=c1) (l1:=l1) (t:=t) (p2:=p2) (n2:=n2) (c2:=c2) (l2:=l2) (hn1:=ass) (hn2:=ass) (hm1:=ass) (hm2:=ass)) (.c (j:=0) rfl (.c (j:=1) rfl .n))<|zf<|zd<|zC rfl (fun hq=> ?_) (fun hq=> ?_)
 ·
  have hrp:=Big.raw_parts (x:=((s,l1),(t,l2))) hnn1 hnn2 hq
  have hqp:=Big.qv_parts (x:=((s,l1),(t,l2))) hq
  have hl:ye (Big.qv ((s,l1),(t,l2)))≤1099511627776:=by unfold ye;rw [hqp.1,hqp.2];dsimp only;omega
  refine ze<|za<|e_ru (zc 1 ty28 rfl rfl (.t4 .nil))<|zi 0 rfl rfl rfl rfl rfl sz28 rfl (.t4 .nil) .z<|zf<|zd<|zE<|zp<|zSa (qF true ⟨s,p1,n1,c1⟩ ⟨t,p2,n2,c2⟩ (Big.qv ((s,l1),(t,l2)))) (fun g r=>qF_rawI 0 1 rfl rfl hn1 hn2 hm1 hm2 hq g r) ?_
  exact zw Tryz.results55 (⟨s,p1,n1,c1⟩,⟨t,p2,n2,c2⟩) trivial (zn 0 ty28 rfl rfl (.t4 .nil)) rfl (ho:=(.n:PickO _ _ _)) ((.c (j:=0) rfl .n):SelR _ _ _)
 ·
  have hz:=Big.qv_not (x:=((s,l1),(t,l2))) hq
  refine zB<|zd<|ze<|za<|zk rfl rfl (.c rfl .n) ce77 (znd (z:=0) (hz:=by first|rfl|assumption|omega|(rw [yf];omega)|(decide +kernel))) (.n) ?_
  rintro ⟨w33,w44⟩ -
  dsimp only [aq,nq,cq]
  refine zi 0 rfl rfl rfl rfl rfl sz28 rfl (.t4 .nil) .z<|zf<|zd<|zE ?_
  exact zw Tryz.results55 (w33,w44) trivial (zn 0 ty28 rfl rfl (.t4 .nil)) rfl (ho:=(.n:PickO _ _ _)) ((.e (j:=0) rfl (by rw [hz];rfl) .n):SelR _ _ _)
theorem zva {k1:Bool} {u1:Wd} {v1:Wd} {q1:Rat}:Con yd 55 [.agg #[u1.b,u1.l,v1.b,v1.l]] [] [qF k1 u1 v1 (q1)] (Y:=(Wd)×(Wd)) (fun y=>True) (fun y=> .agg #[y.1.b,y.1.l,y.2.b,y.2.l]) (fun y=>[]) (fun y=>[qF true y.1 y.2 (q1)]):=by
  exact zkf (fun x hx hk h1 h2 hl=>by subst hx;exact zke rfl rfl h1 h2)
theorem zJb {w1:Wd} {w2:Wd} {x1:Int} {x2:Int} (hl1:Big.ln x1≤1099511627776) (hl2:Big.ln x2≤1099511627776) (hd:x2≠0):Con yd 56 [.agg #[w1.b,w1.l],.agg #[w2.b,w2.l]] [] [zF w1 x1,zF w2 x2] (Y:=Wd×Wd) (fun y=>True) (fun y=> .agg #[y.1.b,y.1.l,y.2.b,y.2.l]) (fun y=>[]) (fun y=>[qF true y.1 y.2 (Rat.divInt x1 x2)]):=by
 refine zl Tryz.func56 rfl rfl rfl (fun c=> ?_)
 show RunC _ _ _ _ _ [(0,.agg #[w1.b,w1.l]),(1,.agg #[w2.b,w2.l])] [] [zF w1 x1,zF w2 x2]
 refine ze<|za<|zH rfl rfl (zN rfl rfl) (fun b1=> ?_)
 refine zH rfl rfl (zN rfl rfl) (fun b2=> ?_)
 refine zH rfl rfl (zq zr28 rfl) (fun b3=> ?_)
 refine zf<|zd<|ze<|za<|e_ru (zc 2 ty26 rfl rfl (.t2 .nil))<|e_ru (zc 1 ty26 rfl rfl (.t2 .nil))<|zk rfl rfl (.c rfl (.c rfl .n)) ce88 (zsf (w1:=w1) (w2:=w2) (x1:=x1) (x2:=x2) (hb1:=by first|rfl|assumption|omega|(rw [yf];omega)|(decide +kernel)) (hb2:=by first|rfl|assumption|omega|(rw [yf];omega)|(decide +kernel))) (.c (j:=0) rfl (.c (j:=1) rfl .n)) ?_
 rintro w34 -
 dsimp only [aq,nq,cq]
 refine zH rfl rfl (zq zr26 rfl) (fun b5=> ?_)
 refine zi 0 rfl rfl rfl rfl rfl sz26 rfl (.t2 .nil) .z<|zf<|zd<|ze<|ze<|za<|e_ru (zc 2 ty26 rfl rfl (.t2 .nil))<|zM rfl rfl (.c rfl .n) ce89 (zsc (w1:=w2) (x1:=x2) (hln:=by first|rfl|assumption|omega|(rw [yf];omega)|(decide +kernel))) (.c (j:=2) rfl .n)<|e_p (zY rfl rfl)<|zf<|zd<|zC rfl (fun hneg=> ?_) (fun hneg=> ?_)
 ·
  have hs:x2<0:=by rcases Big.sign_le (x:=x2) with h|h|h <;> omega
  have hgp:=Big.gcd_pos_right (n:=x1) (d:=x2) om
  have hgl:=Big.zGd (n:=x1) (d:=x2) om
  obtain ⟨hr1,hr2⟩:=Big.red_neg (n:=x1) hs
  refine za<|e_ru (zc 0 ty26 rfl rfl (.t2 .nil))<|zk rfl rfl (.c rfl .n) ce90 (zHd (w1:=w34) (x1:=((Nat.gcd x1.natAbs x2.natAbs:Nat):Int)) (hln:=by first|rfl|assumption|omega|(rw [yf];omega)|(decide +kernel))) (.c (j:=0) rfl .n) ?_
  rintro w36 -
  dsimp only [aq,nq,cq]
  refine zi 0 rfl rfl rfl rfl rfl sz26 rfl (.t2 .nil) .z<|zf<|zd<|ze<|za<|e_ru (zc 3 ty26 rfl rfl (.t2 .nil))<|e_ru (zc 0 ty26 rfl rfl (.t2 .nil))<|zk rfl rfl (.c rfl (.c rfl .n)) ce91 (zpb (w1:=w1) (w2:=w36) (x1:=x1) (x2:= - ((Nat.gcd x1.natAbs x2.natAbs:Nat):Int)) (hb1:=by first|rfl|assumption|omega|(rw [yf];omega)|(decide +kernel)) (hb2:=by first|rfl|assumption|omega|(rw [yf];omega)|(decide +kernel)) (hy:=by first|rfl|assumption|omega|(rw [yf];omega)|(decide +kernel))) (.c (j:=2) rfl (.c (j:=0) rfl .n)) ?_
  rintro ⟨w37,w48⟩ -
  dsimp only [aq,nq,cq]
  refine e_mv rfl<|e_p (zm rfl rfl)<|e_p (zm rfl rfl)<|e_p (zm rfl rfl)<|zH rfl rfl (zq zr26 rfl) (fun b9=> ?_)
  refine zH rfl rfl (zq zr26 rfl) (fun b10=> ?_)
  refine zi 1 rfl rfl rfl rfl rfl sz26 rfl (.t2 .nil) (.s .z)<|zi 0 rfl rfl rfl rfl rfl sz26 rfl (.t2 .nil) .z<|e_p (zb rfl)<|zf<|zd<|ze<|za<|e_ru (zc 4 ty26 rfl rfl (.t2 .nil))<|e_ru (zc 2 ty26 rfl rfl (.t2 .nil))<|zk rfl rfl (.c rfl (.c rfl .n)) ce91 (zpb (w1:=w2) (w2:=w36) (x1:=x2) (x2:= - ((Nat.gcd x1.natAbs x2.natAbs:Nat):Int)) (hb1:=by first|rfl|assumption|omega|(rw [yf];omega)|(decide +kernel)) (hb2:=by first|rfl|assumption|omega|(rw [yf];omega)|(decide +kernel)) (hy:=by first|rfl|assumption|omega|(rw [yf];omega)|(decide +kernel))) (.c (j:=5) rfl (.c (j:=2) rfl .n)) ?_
  rintro ⟨w311,w412⟩ -
  dsimp only [aq,nq,cq]
  refine e_mv rfl<|e_p (zm rfl rfl)<|e_p (zm rfl rfl)<|e_p (zm rfl rfl)<|zH rfl rfl (zq zr26 rfl) (fun b13=> ?_)
  refine zH rfl rfl (zq zr26 rfl) (fun b14=> ?_)
  refine zi 1 rfl rfl rfl rfl rfl sz26 rfl (.t2 .nil) (.s .z)<|zi 0 rfl rfl rfl rfl rfl sz26 rfl (.t2 .nil) .z<|e_p (zb rfl)<|zf<|zd<|ze<|za<|e_ru (zc 3 ty26 rfl rfl (.t2 .nil))<|e_ru (zc 1 ty26 rfl rfl (.t2 .nil))<|e_p (zI zr28 rfl yc (.c sz26 (.c sz26 .n)) (.c rfl (.c rfl .n)) (.c rfl rfl rfl (.t2 .nil) (.c rfl rfl rfl (.s2 (.t2 .nil)) .n)))<|zi 5 rfl rfl rfl rfl rfl sz28 rfl (.t4 .nil) (.s (.s (.s (.s (.s .z)))))<|zf<|zd<|zE<|zSa (qF true w37 w311 (Rat.divInt x1 x2)) (qF_close 2 0 rfl rfl (by exact ⟨hr1,hr2,Nat.le_trans (Big.hq_divInt hd) om⟩)) ?_
  exact zw Tryz.results56 (w37,w311) trivial (zn 5 ty28 rfl rfl (.t4 .nil)) rfl (ho:=(.n:PickO _ _ _)) ((.c (j:=0) rfl .n):SelR _ _ _)
 ·
  have hs:0<x2:=by rcases Big.sign_le (x:=x2) with h|h|h <;> omega
  have hgp:=Big.gcd_pos_right (n:=x1) (d:=x2) om
  have hgl:=Big.zGd (n:=x1) (d:=x2) om
  obtain ⟨hr1,hr2⟩:=Big.red_pos (n:=x1) hs
  refine zB<|zd<|ze<|za<|e_ru (zc 3 ty26 rfl rfl (.t2 .nil))<|e_ru (zc 0 ty26 rfl rfl (.t2 .nil))<|zk rfl rfl (.c rfl (.c rfl .n)) ce91 (zpb (w1:=w1) (w2:=w34) (x1:=x1) (x2:=((Nat.gcd x1.natAbs x2.natAbs:Nat):Int)) (hb1:=by first|rfl|assumption|omega|(rw [yf];omega)|(decide +kernel)) (hb2:=by first|rfl|assumption|omega|(rw [yf];omega)|(decide +kernel)) (hy:=by first|rfl|assumption|omega|(rw [yf];omega)|(decide +kernel))) (.c (j:=1) rfl (.c (j:=0) rfl .n)) ?_
  rintro ⟨w315,w416⟩ -
  dsimp only [aq,nq,cq]
  refine e_mv rfl<|e_p (zm rfl rfl)<|e_p (zm rfl rfl)<|e_p (zm rfl rfl)<|zH rfl rfl (zq zr26 rfl) (fun b17=> ?_)
  refine zH rfl rfl (zq zr26 rfl) (fun b18=> ?_)
  refine zi 1 rfl rfl rfl rfl rfl sz26 rfl (.t2 .nil) (.s .z)<|zi 0 rfl rfl rfl rfl rfl sz26 rfl (.t2 .nil) .z<|e_p (zb rfl)<|zf<|zd<|ze<|za<|e_ru (zc 4 ty26 rfl rfl (.t2 .nil))<|e_ru (zc 2 ty26 rfl rfl (.t2 .nil))<|zk rfl rfl (.c rfl (.c rfl .n)) ce91 (zpb (w1:=w2) (w2:=w34) (x1:=x2) (x2:=((Nat.gcd x1.natAbs x2.natAbs:Nat):Int)) (hb1:=by first|rfl|assumption|omega|(rw [yf];omega)|(decide +kernel)) (hb2:=by first|rfl|assumption|omega|(rw [yf];omega)|(decide +kernel)) (hy:=by first|rfl|assumption|omega|(rw [yf];omega)|(decide +kernel))) (.c (j:=4) rfl (.c (j:=2) rfl .n)) ?_
  rintro ⟨w319,w420⟩ -
  dsimp only [aq,nq,cq]
  refine e_mv rfl<|e_p (zm rfl rfl)<|e_p (zm rfl rfl)<|e_p (zm rfl rfl)<|zH rfl rfl (zq zr26 rfl) (fun b21=> ?_)
  refine zH rfl rfl (zq zr26 rfl) (fun b22=> ?_)
  refine zi 1 rfl rfl rfl rfl rfl sz26 rfl (.t2 .nil) (.s .z)<|zi 0 rfl rfl rfl rfl rfl sz26 rfl (.t2 .nil) .z<|e_p (zb rfl)<|zf<|zd<|ze<|za<|e_ru (zc 3 ty26 rfl rfl (.t2 .nil))<|e_ru (zc 1 ty26 rfl rfl (.t2 .nil))<|e_p (zI zr28 rfl yc (.c sz26 (.c sz26 .n)) (.c rfl (.c rfl .n)) (.c rfl rfl rfl (.t2 .nil) (.c rfl rfl rfl (.s2 (.t2 .nil)) .n)))<|zi 5 rfl rfl rfl rfl rfl sz28 rfl (.t4 .nil) (.s (.s (.s (.s (.s .z)))))<|zf<|zd<|zE<|zSa (qF true w315 w319 (Rat.divInt x1 x2)) (qF_close 2 0 rfl rfl (by exact ⟨hr1,hr2,Nat.le_trans (Big.hq_divInt hd) om⟩)) ?_
  exact zw Tryz.results56 (w315,w319) trivial (zn 5 ty28 rfl rfl (.t4 .nil)) rfl (ho:=(.n:PickO _ _ _)) ((.c (j:=0) rfl .n):SelR _ _ _)
theorem zSf {w1:Wd} {w2:Wd} {x1:Int} {x2:Int} (hl1:Big.ln x1≤1099511627776) (hl2:Big.ln x2≤1099511627776):Con yd 75 [.agg #[w1.b,w1.l],.agg #[w2.b,w2.l]] [] [zF w1 x1,zF w2 x2] (Y:=Wd×Wd) (fun y=>True) (fun y=> .tuple #[.agg #[y.1.b,y.1.l,y.2.b,y.2.l],.int .i64 (if x2=0 then 14 else 0)]) (fun y=>[]) (fun y=>[qF (decide (x2≠0)) y.1 y.2 (Rat.divInt x1 x2)]):=by
 refine zl Tryz.func75 rfl rfl rfl (fun c=> ?_)
 show RunC _ _ _ _ _ [(0,.agg #[w1.b,w1.l]),(1,.agg #[w2.b,w2.l])] [] [zF w1 x1,zF w2 x2]
 refine ze<|za<|zH rfl rfl (zN rfl rfl) (fun b1=> ?_)
 refine zH rfl rfl (zN rfl rfl) (fun b2=> ?_)
 refine zH rfl rfl (zq zr28 rfl) (fun b3=> ?_)
 refine e_p (zb rfl)<|zf<|zd<|ze<|ze<|za<|e_ru (zc 1 ty26 rfl rfl (.t2 .nil))<|zM rfl rfl (.c rfl .n) ce89 (zsc (w1:=w2) (x1:=x2) (hln:=by first|rfl|assumption|omega|(rw [yf];omega)|(decide +kernel))) (.c (j:=1) rfl .n)<|e_p (zna rfl rfl)<|zf<|zd<|zC rfl (fun hz0=> ?_) (fun hz0=> ?_)
 ·
  have hx0:x2=0:=Big.sign_zero.1 hz0
  refine ze<|za<|e_p (zI zr28 rfl yc (.c sz26 (.c sz26 .n)) .n .n)<|zi 0 rfl rfl rfl rfl rfl sz28 rfl (.t4 .nil) .z<|e_p (zb rfl)<|zf<|zd<|zE<|zp<|zSa (qF false wz wz 0) (fun g _=>qF_none g) ?_
  exact zua Tryz.results75 (wz,wz) trivial (zn 0 ty28 rfl rfl (.t4 .nil)) (zo rfl) (by rw [if_pos hx0];rfl) (ho:=(.n:PickO _ _ _)) ((.e (j:=0) rfl (by rw [Big.divInt_nil hx0,decide_eq_false (not_not_intro hx0)]) .n):SelR _ _ _)
 ·
  have hx0:x2≠0:=fun e=>hz0 (Big.sign_zero.2 e)
  refine zB<|zd<|ze<|za<|e_ru (zc 2 ty26 rfl rfl (.t2 .nil))<|e_ru (zc 1 ty26 rfl rfl (.t2 .nil))<|zk rfl rfl (.c rfl (.c rfl .n)) ce56 (zJb (w1:=w1) (w2:=w2) (x1:=x1) (x2:=x2) (hl1:=ass) (hl2:=ass) (hd:=by first|rfl|assumption|omega|(rw [yf];omega)|(decide +kernel))) (.c (j:=0) rfl (.c (j:=1) rfl .n)) ?_
  rintro ⟨w34,w45⟩ -
  dsimp only [aq,nq,cq]
  refine zi 0 rfl rfl rfl rfl rfl sz28 rfl (.t4 .nil) .z<|e_p (zb rfl)<|zf<|zd<|zE ?_
  exact zua Tryz.results75 (w34,w45) trivial (zn 0 ty28 rfl rfl (.t4 .nil)) (zo rfl) (by rw [if_neg hx0]) (ho:=(.n:PickO _ _ _)) ((.e (j:=0) rfl (by rw [decide_eq_true hx0]) .n):SelR _ _ _)
theorem zTb {k1:Bool} {u1:Wd} {v1:Wd} {q1:Rat} (hl:ye q1≤1099511627776):Con yd 63 [.agg #[u1.b,u1.l,v1.b,v1.l]] [] [qF k1 u1 v1 q1] (Y:=Unit) (fun y=>True) (fun y=> .int .i64 (Big.sgq q1)) (fun y=>[]) (fun y=>[]):=by
 refine zl Tryz.func63 rfl rfl rfl (fun c=> ?_)
 show RunC _ _ _ _ _ [(0,.agg #[u1.b,u1.l,v1.b,v1.l])] [] [qF k1 u1 v1 q1]
 have a1:=yg q1
 have a2:=yh q1
 refine ze<|za<|zH rfl rfl (zN rfl rfl) (fun b1=> ?_)
 refine e_p (zb rfl)<|zf<|zd<|ze<|za<|e_ru (zc 0 ty28 rfl rfl (.t4 .nil))<|zk rfl rfl (.c rfl .n) ce55 (zva (k1:=k1) (u1:=u1) (v1:=v1) (q1:=q1)) (.c (j:=0) rfl .n) ?_
 rintro ⟨w32,w43⟩ -
 dsimp only [aq,nq,cq]
 refine e_p (zwc yc rfl ty26 rfl (.t2 .nil))<|zWb (qF_open 0 rfl) (fun _ _=> ?_)
 refine zM rfl rfl (.c rfl .n) ce89 (zsc (w1:=w32) (x1:=(q1).num) (hln:=by first|rfl|assumption|omega|(rw [yf];omega)|(decide +kernel))) (.c (j:=0) rfl .n)<|e_p (zb rfl)<|zf<|zd<|zE ?_
 exact zw Tryz.results63 () trivial (zo rfl) rfl (ho:=(.n:PickO _ _ _)) (.n:SelR _ _ _)
theorem zwf {k1:Bool} {u1:Wd} {v1:Wd} {q1:Rat} (hl:ye q1≤1099511627776):Con yd 110 [.agg #[u1.b,u1.l,v1.b,v1.l]] [] [qF k1 u1 v1 q1] (Y:=Wd×Wd) (fun y=>True) (fun y=> .agg #[y.1.b,y.1.l,y.2.b,y.2.l]) (fun y=>[]) (fun y=>[qF true y.1 y.2 (- q1)]):=by
 refine zl Tryz.func110 rfl rfl rfl (fun c=> ?_)
 show RunC _ _ _ _ _ [(0,.agg #[u1.b,u1.l,v1.b,v1.l])] [] [qF k1 u1 v1 q1]
 have a1:=yg q1
 have a2:=yh q1
 refine ze<|za<|zH rfl rfl (zN rfl rfl) (fun b1=> ?_)
 refine zH rfl rfl (zq zr28 rfl) (fun b2=> ?_)
 refine zf<|zd<|ze<|za<|e_ru (zc 1 ty28 rfl rfl (.t4 .nil))<|zk rfl rfl (.c rfl .n) ce55 (zva (k1:=k1) (u1:=u1) (v1:=v1) (q1:=q1)) (.c (j:=0) rfl .n) ?_
 rintro ⟨w33,w44⟩ -
 dsimp only [aq,nq,cq]
 refine zH rfl rfl (zq zr28 rfl) (fun b5=> ?_)
 refine zi 0 rfl rfl rfl rfl rfl sz28 rfl (.t4 .nil) .z<|zf<|zd<|ze<|zta (.c (i:=1) rfl (.c (i:=0) rfl (.c (i:=0) rfl .n)))<|zW (OW:=[boxA b2 28 (cw [wz,wz])]) (O:=[boxA b5 28 (cw [w33,w44]),boxA b1 28 (cw [u1,v1])]) 6 mixed (.then .ret) kr<|e_pv 0 rfl rfl (zg yc rfl sz26 rfl rfl)<|e_uw 1 rfl rfl (zc 1 ty26 rfl rfl (.t2 .nil))<|e_pv 3 rfl rfl (zg yc rfl sz26 rfl rfl)<|e_uw 4 rfl rfl (zc 1 ty26 rfl rfl (.s2 (.t2 .nil)))<|zgb (qF_open 0 rfl) (fun _ _=> ?_)
 refine e_one 2 (zu rfl rfl rfl rfl (.c rfl .n) ce90 (zHd (w1:=w33) (x1:=(q1).num) (hln:=by first|rfl|assumption|omega|(rw [yf];omega)|(decide +kernel))) (.c (j:=0) rfl .n) ?_)
 rintro w36 -
 dsimp only [aq,nq,cq]
 refine e_pv 5 rfl rfl (zI zr28 rfl yc (.c sz26 (.c sz26 .n)) (.c rfl (.c rfl .n)) (.c rfl rfl rfl (.t2 .nil) (.c rfl rfl rfl (.s2 (.t2 .nil)) .n)))<|e_one 6 (zA kr rfl rfl rfl rfl rfl sz28 rfl (.t4 .nil) ?_)
 refine zU kr<|zd<|zE<|zSa (qF true w36 w44 (- q1)) (qF_close 0 2 rfl rfl (by exact ⟨(Rat.neg_num q1).symm,by rw [Rat.neg_den],by rw [Big.hq_neg];exact hl⟩)) ?_
 exact zw Tryz.results110 (w36,w44) trivial (zn 0 ty28 rfl rfl (.t4 .nil)) rfl (ho:=(.n:PickO _ _ _)) ((.c (j:=0) rfl .n):SelR _ _ _)
theorem zKb {k1:Bool} {u1:Wd} {v1:Wd} {q1:Rat} {k2:Bool} {u2:Wd} {v2:Wd} {q2:Rat} (hl:ye q1+ye q2+1≤1099511627776):Con yd 23 [.agg #[u1.b,u1.l,v1.b,v1.l],.agg #[u2.b,u2.l,v2.b,v2.l]] [] [qF k1 u1 v1 q1,qF k2 u2 v2 q2] (Y:=Wd×Wd) (fun y=>True) (fun y=> .agg #[y.1.b,y.1.l,y.2.b,y.2.l]) (fun y=>[]) (fun y=>[qF true y.1 y.2 (q1+q2)]):=by
 refine zl Tryz.func23 rfl rfl rfl (fun c=> ?_)
 show RunC _ _ _ _ _ [(0,.agg #[u1.b,u1.l,v1.b,v1.l]),(1,.agg #[u2.b,u2.l,v2.b,v2.l])] [] [qF k1 u1 v1 q1,qF k2 u2 v2 q2]
 have a1:=yg q1
 have a2:=yh q1
 have a3:=yg q2
 have a4:=yh q2
 have b1:=yi q1.num q2.den
 have b2:=yi q2.num q1.den
 have b3:=Big.zfc (q1.num*q2.den) (q2.num*q1.den)
 have b4:=yi (q1.den:Int) q2.den
 have b5:=yi q1.num q2.num
 refine ze<|za<|zH rfl rfl (zN rfl rfl) (fun b1=> ?_)
 refine zH rfl rfl (zN rfl rfl) (fun b2=> ?_)
 refine zH rfl rfl (zq zr28 rfl) (fun b3=> ?_)
 refine zf<|zd<|ze<|za<|e_ru (zc 2 ty28 rfl rfl (.t4 .nil))<|zk rfl rfl (.c rfl .n) ce55 (zva (k1:=k1) (u1:=u1) (v1:=v1) (q1:=q1)) (.c (j:=0) rfl .n) ?_
 rintro ⟨w34,w45⟩ -
 dsimp only [aq,nq,cq]
 refine zH rfl rfl (zq zr28 rfl) (fun b6=> ?_)
 refine zi 0 rfl rfl rfl rfl rfl sz28 rfl (.t4 .nil) .z<|zf<|zd<|ze<|za<|e_ru (zc 2 ty28 rfl rfl (.t4 .nil))<|zk rfl rfl (.c rfl .n) ce55 (zva (k1:=k2) (u1:=u2) (v1:=v2) (q1:=q2)) (.c (j:=2) rfl .n) ?_
 rintro ⟨w37,w48⟩ -
 dsimp only [aq,nq,cq]
 refine zH rfl rfl (zq zr28 rfl) (fun b9=> ?_)
 refine zi 0 rfl rfl rfl rfl rfl sz28 rfl (.t4 .nil) .z<|zf<|zd<|ze<|zta (.c (i:=2) rfl (.c (i:=0) rfl (.c (i:=0) rfl (.c (i:=0) rfl (.c (i:=0) rfl .n)))))<|zW (OW:=[boxA b3 28 (cw [wz,wz])]) (O:=[boxA b9 28 (cw [w37,w48]),boxA b6 28 (cw [w34,w45]),boxA b2 28 (cw [u2,v2]),boxA b1 28 (cw [u1,v1])]) 17 mixed (.then .ret) kr<|e_pv 0 rfl rfl (zg yc rfl sz26 rfl rfl)<|e_uw 1 rfl rfl (zc 2 ty26 rfl rfl (.t2 .nil))<|e_pv 2 rfl rfl (zg yc rfl sz26 rfl rfl)<|e_uw 3 rfl rfl (zc 1 ty26 rfl rfl (.s2 (.t2 .nil)))<|e_pv 5 rfl rfl (zg yc rfl sz26 rfl rfl)<|e_uw 6 rfl rfl (zc 1 ty26 rfl rfl (.t2 .nil))<|e_pv 7 rfl rfl (zg yc rfl sz26 rfl rfl)<|e_uw 8 rfl rfl (zc 2 ty26 rfl rfl (.s2 (.t2 .nil)))<|e_pv 11 rfl rfl (zg yc rfl sz26 rfl rfl)<|e_uw 12 rfl rfl (zc 2 ty26 rfl rfl (.s2 (.t2 .nil)))<|e_pv 13 rfl rfl (zg yc rfl sz26 rfl rfl)<|e_uw 14 rfl rfl (zc 1 ty26 rfl rfl (.s2 (.t2 .nil)))<|zgb (qF_open 1 rfl) (fun _ _=> ?_)
 refine zgb (qF_open 2 rfl) (fun _ _=> ?_)
 refine e_one 4 (zu rfl rfl rfl rfl (.c rfl (.c rfl .n)) ce58 (zlb (w1:=w34) (w2:=w48) (x1:=(q1).num) (x2:=(((q2).den:Nat):Int)) (hb1:=by first|rfl|assumption|omega|(rw [yf];omega)|(decide +kernel)) (hb2:=by first|rfl|assumption|omega|(rw [yf];omega)|(decide +kernel))) (.c (j:=2) rfl (.c (j:=1) rfl .n)) ?_)
 rintro w310 -
 dsimp only [aq,nq,cq]
 refine e_one 9 (zu rfl rfl rfl rfl (.c rfl (.c rfl .n)) ce58 (zlb (w1:=w37) (w2:=w45) (x1:=(q2).num) (x2:=(((q1).den:Nat):Int)) (hb1:=by first|rfl|assumption|omega|(rw [yf];omega)|(decide +kernel)) (hb2:=by first|rfl|assumption|omega|(rw [yf];omega)|(decide +kernel))) (.c (j:=1) rfl (.c (j:=4) rfl .n)) ?_)
 rintro w311 -
 dsimp only [aq,nq,cq]
 refine e_one 10 (zu rfl rfl rfl rfl (.c rfl (.c rfl .n)) ce57 (zqf (w1:=w310) (w2:=w311) (x1:=((q1).num)*(((q2).den:Nat):Int)) (x2:=((q2).num)*(((q1).den:Nat):Int)) (hb1:=by first|rfl|assumption|omega|(rw [yf];omega)|(decide +kernel)) (hb2:=by first|rfl|assumption|omega|(rw [yf];omega)|(decide +kernel))) (.c (j:=1) rfl (.c (j:=0) rfl .n)) ?_)
 rintro w312 -
 dsimp only [aq,nq,cq]
 refine e_one 15 (zu rfl rfl rfl rfl (.c rfl (.c rfl .n)) ce58 (zlb (w1:=w45) (w2:=w48) (x1:=(((q1).den:Nat):Int)) (x2:=(((q2).den:Nat):Int)) (hb1:=by first|rfl|assumption|omega|(rw [yf];omega)|(decide +kernel)) (hb2:=by first|rfl|assumption|omega|(rw [yf];omega)|(decide +kernel))) (.c (j:=6) rfl (.c (j:=4) rfl .n)) ?_)
 rintro w313 -
 dsimp only [aq,nq,cq]
 refine e_one 16 (zu rfl rfl rfl rfl (.c rfl (.c rfl .n)) ce56 (zJb (w1:=w312) (w2:=w313) (x1:=(((q1).num)*(((q2).den:Nat):Int))+(((q2).num)*(((q1).den:Nat):Int))) (x2:=(((q1).den:Nat):Int)*(((q2).den:Nat):Int)) (hl1:=by first|rfl|assumption|omega|(rw [yf];omega)|(decide +kernel)) (hl2:=by first|rfl|assumption|omega|(rw [yf];omega)|(decide +kernel)) (hd:=by exact Int.mul_ne_zero (Big.den_ne q1) (Big.den_ne q2))) (.c (j:=1) rfl (.c (j:=0) rfl .n)) ?_)
 rintro ⟨w314,w415⟩ -
 dsimp only [aq,nq,cq]
 refine e_one 17 (zA kr rfl rfl rfl rfl rfl sz28 rfl (.t4 .nil) ?_)
 refine zU kr<|zd<|zE ?_
 exact zw Tryz.results23 (w314,w415) trivial (zn 0 ty28 rfl rfl (.t4 .nil)) rfl (ho:=(.n:PickO _ _ _)) ((.e (j:=0) rfl (by rw [Big.add_parts]) .n):SelR _ _ _)
theorem znc {k1:Bool} {u1:Wd} {v1:Wd} {q1:Rat} {k2:Bool} {u2:Wd} {v2:Wd} {q2:Rat} (hl:ye q1+ye q2+1≤1099511627776):Con yd 24 [.agg #[u1.b,u1.l,v1.b,v1.l],.agg #[u2.b,u2.l,v2.b,v2.l]] [] [qF k1 u1 v1 q1,qF k2 u2 v2 q2] (Y:=Wd×Wd) (fun y=>True) (fun y=> .agg #[y.1.b,y.1.l,y.2.b,y.2.l]) (fun y=>[]) (fun y=>[qF true y.1 y.2 (q1*q2)]):=by
 refine zl Tryz.func24 rfl rfl rfl (fun c=> ?_)
 show RunC _ _ _ _ _ [(0,.agg #[u1.b,u1.l,v1.b,v1.l]),(1,.agg #[u2.b,u2.l,v2.b,v2.l])] [] [qF k1 u1 v1 q1,qF k2 u2 v2 q2]
 have a1:=yg q1
 have a2:=yh q1
 have a3:=yg q2
 have a4:=yh q2
 have b1:=yi q1.num q2.den
 have b2:=yi q2.num q1.den
 have b3:=Big.zfc (q1.num*q2.den) (q2.num*q1.den)
 have b4:=yi (q1.den:Int) q2.den
 have b5:=yi q1.num q2.num
 refine ze<|za<|zH rfl rfl (zN rfl rfl) (fun b1=> ?_)
 refine zH rfl rfl (zN rfl rfl) (fun b2=> ?_)
 refine zH rfl rfl (zq zr28 rfl) (fun b3=> ?_)
 refine zf<|zd<|ze<|za<|e_ru (zc 2 ty28 rfl rfl (.t4 .nil))<|zk rfl rfl (.c rfl .n) ce55 (zva (k1:=k1) (u1:=u1) (v1:=v1) (q1:=q1)) (.c (j:=0) rfl .n) ?_
 rintro ⟨w34,w45⟩ -
 dsimp only [aq,nq,cq]
 refine zH rfl rfl (zq zr28 rfl) (fun b6=> ?_)
 refine zi 0 rfl rfl rfl rfl rfl sz28 rfl (.t4 .nil) .z<|zf<|zd<|ze<|za<|e_ru (zc 2 ty28 rfl rfl (.t4 .nil))<|zk rfl rfl (.c rfl .n) ce55 (zva (k1:=k2) (u1:=u2) (v1:=v2) (q1:=q2)) (.c (j:=2) rfl .n) ?_
 rintro ⟨w37,w48⟩ -
 dsimp only [aq,nq,cq]
 refine zH rfl rfl (zq zr28 rfl) (fun b9=> ?_)
 refine zi 0 rfl rfl rfl rfl rfl sz28 rfl (.t4 .nil) .z<|zf<|zd<|ze<|zta (.c (i:=2) rfl (.c (i:=0) rfl (.c (i:=0) rfl (.c (i:=0) rfl (.c (i:=0) rfl .n)))))<|zW (OW:=[boxA b3 28 (cw [wz,wz])]) (O:=[boxA b9 28 (cw [w37,w48]),boxA b6 28 (cw [w34,w45]),boxA b2 28 (cw [u2,v2]),boxA b1 28 (cw [u1,v1])]) 11 mixed (.then .ret) kr<|e_pv 0 rfl rfl (zg yc rfl sz26 rfl rfl)<|e_uw 1 rfl rfl (zc 2 ty26 rfl rfl (.t2 .nil))<|e_pv 2 rfl rfl (zg yc rfl sz26 rfl rfl)<|e_uw 3 rfl rfl (zc 1 ty26 rfl rfl (.t2 .nil))<|e_pv 5 rfl rfl (zg yc rfl sz26 rfl rfl)<|e_uw 6 rfl rfl (zc 2 ty26 rfl rfl (.s2 (.t2 .nil)))<|e_pv 7 rfl rfl (zg yc rfl sz26 rfl rfl)<|e_uw 8 rfl rfl (zc 1 ty26 rfl rfl (.s2 (.t2 .nil)))<|zgb (qF_open 1 rfl) (fun _ _=> ?_)
 refine zgb (qF_open 2 rfl) (fun _ _=> ?_)
 refine e_one 4 (zu rfl rfl rfl rfl (.c rfl (.c rfl .n)) ce58 (zlb (w1:=w34) (w2:=w37) (x1:=(q1).num) (x2:=(q2).num) (hb1:=by first|rfl|assumption|omega|(rw [yf];omega)|(decide +kernel)) (hb2:=by first|rfl|assumption|omega|(rw [yf];omega)|(decide +kernel))) (.c (j:=2) rfl (.c (j:=0) rfl .n)) ?_)
 rintro w310 -
 dsimp only [aq,nq,cq]
 refine e_one 9 (zu rfl rfl rfl rfl (.c rfl (.c rfl .n)) ce58 (zlb (w1:=w45) (w2:=w48) (x1:=(((q1).den:Nat):Int)) (x2:=(((q2).den:Nat):Int)) (hb1:=by first|rfl|assumption|omega|(rw [yf];omega)|(decide +kernel)) (hb2:=by first|rfl|assumption|omega|(rw [yf];omega)|(decide +kernel))) (.c (j:=4) rfl (.c (j:=2) rfl .n)) ?_)
 rintro w311 -
 dsimp only [aq,nq,cq]
 refine e_one 10 (zu rfl rfl rfl rfl (.c rfl (.c rfl .n)) ce56 (zJb (w1:=w310) (w2:=w311) (x1:=((q1).num)*((q2).num)) (x2:=(((q1).den:Nat):Int)*(((q2).den:Nat):Int)) (hl1:=by first|rfl|assumption|omega|(rw [yf];omega)|(decide +kernel)) (hl2:=by first|rfl|assumption|omega|(rw [yf];omega)|(decide +kernel)) (hd:=by exact Int.mul_ne_zero (Big.den_ne q1) (Big.den_ne q2))) (.c (j:=1) rfl (.c (j:=0) rfl .n)) ?_)
 rintro ⟨w312,w413⟩ -
 dsimp only [aq,nq,cq]
 refine e_one 11 (zA kr rfl rfl rfl rfl rfl sz28 rfl (.t4 .nil) ?_)
 refine zU kr<|zd<|zE ?_
 exact zw Tryz.results24 (w312,w413) trivial (zn 0 ty28 rfl rfl (.t4 .nil)) rfl (ho:=(.n:PickO _ _ _)) ((.e (j:=0) rfl (by rw [Big.mul_parts]) .n):SelR _ _ _)
theorem zxf {k1:Bool} {u1:Wd} {v1:Wd} {q1:Rat} {k2:Bool} {u2:Wd} {v2:Wd} {q2:Rat} (hl:ye q1+ye q2+1≤1099511627776):Con yd 81 [.agg #[u1.b,u1.l,v1.b,v1.l],.agg #[u2.b,u2.l,v2.b,v2.l]] [] [qF k1 u1 v1 q1,qF k2 u2 v2 q2] (Y:=Wd×Wd) (fun y=>True) (fun y=> .agg #[y.1.b,y.1.l,y.2.b,y.2.l]) (fun y=>[]) (fun y=>[qF true y.1 y.2 (q1 - q2)]):=by
 refine zl Tryz.func81 rfl rfl rfl (fun c=> ?_)
 show RunC _ _ _ _ _ [(0,.agg #[u1.b,u1.l,v1.b,v1.l]),(1,.agg #[u2.b,u2.l,v2.b,v2.l])] [] [qF k1 u1 v1 q1,qF k2 u2 v2 q2]
 have a1:=yg q1
 have a2:=yh q1
 have a3:=yg q2
 have a4:=yh q2
 refine ze<|za<|zH rfl rfl (zN rfl rfl) (fun b1=> ?_)
 refine zH rfl rfl (zN rfl rfl) (fun b2=> ?_)
 refine zH rfl rfl (zq zr28 rfl) (fun b3=> ?_)
 refine zf<|zd<|ze<|zW (OW:=[boxA b3 28 (cw [wz,wz])]) (O:=[boxA b2 28 (cw [u2,v2]),boxA b1 28 (cw [u1,v1])]) 4 mixed (.then .ret) kr<|e_uw 0 rfl rfl (zc 2 ty28 rfl rfl (.t4 .nil))<|e_uw 1 rfl rfl (zc 1 ty28 rfl rfl (.t4 .nil))<|e_one 2 (zu rfl rfl rfl rfl (.c rfl .n) ce110 (zwf (k1:=k2) (u1:=u2) (v1:=v2) (q1:=q2) (hl:=by first|rfl|assumption|omega|(rw [yf];omega)|(decide +kernel)|(rw [Big.hq_neg];omega))) (.c (j:=1) rfl .n) ?_)
 rintro ⟨w34,w45⟩ -
 dsimp only [aq,nq,cq]
 refine e_one 3 (zu rfl rfl rfl rfl (.c rfl (.c rfl .n)) ce23 (zKb (k1:=k1) (u1:=u1) (v1:=v1) (q1:=q1) (k2:=true) (u2:=w34) (v2:=w45) (q2:= - q2) (hl:=by first|rfl|assumption|omega|(rw [yf];omega)|(decide +kernel)|(rw [Big.hq_neg];omega))) (.c (j:=1) rfl (.c (j:=0) rfl .n)) ?_)
 rintro ⟨w36,w47⟩ -
 dsimp only [aq,nq,cq]
 refine e_one 4 (zA kr rfl rfl rfl rfl rfl sz28 rfl (.t4 .nil) ?_)
 refine zU kr<|zd<|zE ?_
 exact zw Tryz.results81 (w36,w47) trivial (zn 0 ty28 rfl rfl (.t4 .nil)) rfl (ho:=(.n:PickO _ _ _)) ((.e (j:=0) rfl (by rw [Rat.sub_eq_add_neg]) .n):SelR _ _ _)
theorem zzb {k1:Bool} {u1:Wd} {v1:Wd} {q1:Rat} {k2:Bool} {u2:Wd} {v2:Wd} {q2:Rat} (hl:ye q1+ye q2+1≤1099511627776):Con yd 44 [.agg #[u1.b,u1.l,v1.b,v1.l],.agg #[u2.b,u2.l,v2.b,v2.l]] [] [qF k1 u1 v1 q1,qF k2 u2 v2 q2] (Y:=Unit) (fun y=>True) (fun y=> .int .i64 (Big.sgq (q1 - q2))) (fun y=>[]) (fun y=>[]):=by
 refine zl Tryz.func44 rfl rfl rfl (fun c=> ?_)
 show RunC _ _ _ _ _ [(0,.agg #[u1.b,u1.l,v1.b,v1.l]),(1,.agg #[u2.b,u2.l,v2.b,v2.l])] [] [qF k1 u1 v1 q1,qF k2 u2 v2 q2]
 have hsb:=Big.hq_sub q1 q2
 refine ze<|za<|zH rfl rfl (zN rfl rfl) (fun b1=> ?_)
 refine zH rfl rfl (zN rfl rfl) (fun b2=> ?_)
 refine e_p (zb rfl)<|zf<|zd<|ze<|za<|e_ru (zc 1 ty28 rfl rfl (.t4 .nil))<|e_ru (zc 0 ty28 rfl rfl (.t4 .nil))<|zk rfl rfl (.c rfl (.c rfl .n)) ce81 (zxf (k1:=k1) (u1:=u1) (v1:=v1) (q1:=q1) (k2:=k2) (u2:=u2) (v2:=v2) (q2:=q2) (hl:=ass)) (.c (j:=0) rfl (.c (j:=1) rfl .n)) ?_
 rintro ⟨w33,w44⟩ -
 dsimp only [aq,nq,cq]
 refine zM rfl rfl (.c rfl .n) ce63 (zTb (k1:=true) (u1:=w33) (v1:=w44) (q1:=q1 - q2) (hl:=by first|rfl|assumption|omega|(rw [yf];omega)|(decide +kernel))) (.c (j:=0) rfl .n)<|e_p (zb rfl)<|zf<|zd<|zE ?_
 exact zw Tryz.results44 () trivial (zo rfl) rfl (ho:=(.n:PickO _ _ _)) (.n:SelR _ _ _)
theorem zLb {k1:Bool} {u1:Wd} {v1:Wd} {q1:Rat} {k2:Bool} {u2:Wd} {v2:Wd} {q2:Rat} (hl:ye q1+ye q2+1≤1099511627776):Con yd 61 [.agg #[u1.b,u1.l,v1.b,v1.l],.agg #[u2.b,u2.l,v2.b,v2.l]] [] [qF k1 u1 v1 q1,qF k2 u2 v2 q2] (Y:=Wd×Wd) (fun y=>True) (fun y=> .tuple #[.agg #[y.1.b,y.1.l,y.2.b,y.2.l],.int .i64 (if q2=0 then 14 else 0)]) (fun y=>[]) (fun y=>[qF (decide (q2≠0)) y.1 y.2 (q1 / q2)]):=by
 refine zl Tryz.func61 rfl rfl rfl (fun c=> ?_)
 show RunC _ _ _ _ _ [(0,.agg #[u1.b,u1.l,v1.b,v1.l]),(1,.agg #[u2.b,u2.l,v2.b,v2.l])] [] [qF k1 u1 v1 q1,qF k2 u2 v2 q2]
 have a1:=yg q1
 have a2:=yh q1
 have a3:=yg q2
 have a4:=yh q2
 have b1:=yi q1.num q2.den
 have b2:=yi (q1.den:Int) q2.num
 refine ze<|za<|zH rfl rfl (zN rfl rfl) (fun b1=> ?_)
 refine zH rfl rfl (zN rfl rfl) (fun b2=> ?_)
 refine zH rfl rfl (zq zr28 rfl) (fun b3=> ?_)
 refine e_p (zb rfl)<|zf<|zd<|ze<|za<|e_ru (zc 2 ty28 rfl rfl (.t4 .nil))<|zk rfl rfl (.c rfl .n) ce55 (zva (k1:=k1) (u1:=u1) (v1:=v1) (q1:=q1)) (.c (j:=0) rfl .n) ?_
 rintro ⟨w34,w45⟩ -
 dsimp only [aq,nq,cq]
 refine zH rfl rfl (zq zr28 rfl) (fun b6=> ?_)
 refine zi 0 rfl rfl rfl rfl rfl sz28 rfl (.t4 .nil) .z<|zf<|zd<|ze<|za<|e_ru (zc 2 ty28 rfl rfl (.t4 .nil))<|zk rfl rfl (.c rfl .n) ce55 (zva (k1:=k2) (u1:=u2) (v1:=v2) (q1:=q2)) (.c (j:=2) rfl .n) ?_
 rintro ⟨w37,w48⟩ -
 dsimp only [aq,nq,cq]
 refine zH rfl rfl (zq zr28 rfl) (fun b9=> ?_)
 refine zi 0 rfl rfl rfl rfl rfl sz28 rfl (.t4 .nil) .z<|zf<|zd<|ze<|zta (.c (i:=2) rfl (.c (i:=0) rfl (.c (i:=0) rfl (.c (i:=0) rfl (.c (i:=0) rfl .n)))))<|zW (OW:=[boxA b3 28 (cw [wz,wz])]) (O:=[boxA b9 28 (cw [w37,w48]),boxA b6 28 (cw [w34,w45]),boxA b2 28 (cw [u2,v2]),boxA b1 28 (cw [u1,v1])]) 13 mixed (.then .ret) kr<|e_pv 0 rfl rfl (zg yc rfl sz26 rfl rfl)<|e_uw 1 rfl rfl (zc 2 ty26 rfl rfl (.t2 .nil))<|e_pv 2 rfl rfl (zg yc rfl sz26 rfl rfl)<|e_uw 3 rfl rfl (zc 1 ty26 rfl rfl (.s2 (.t2 .nil)))<|e_pv 5 rfl rfl (zg yc rfl sz26 rfl rfl)<|e_uw 6 rfl rfl (zc 2 ty26 rfl rfl (.s2 (.t2 .nil)))<|e_pv 7 rfl rfl (zg yc rfl sz26 rfl rfl)<|e_uw 8 rfl rfl (zc 1 ty26 rfl rfl (.t2 .nil))<|zgb (qF_open 1 rfl) (fun _ _=> ?_)
 refine zgb (qF_open 2 rfl) (fun _ _=> ?_)
 refine e_one 4 (zu rfl rfl rfl rfl (.c rfl (.c rfl .n)) ce58 (zlb (w1:=w34) (w2:=w48) (x1:=(q1).num) (x2:=(((q2).den:Nat):Int)) (hb1:=by first|rfl|assumption|omega|(rw [yf];omega)|(decide +kernel)) (hb2:=by first|rfl|assumption|omega|(rw [yf];omega)|(decide +kernel))) (.c (j:=2) rfl (.c (j:=1) rfl .n)) ?_)
 rintro w310 -
 dsimp only [aq,nq,cq]
 refine e_one 9 (zu rfl rfl rfl rfl (.c rfl (.c rfl .n)) ce58 (zlb (w1:=w45) (w2:=w37) (x1:=(((q1).den:Nat):Int)) (x2:=(q2).num) (hb1:=by first|rfl|assumption|omega|(rw [yf];omega)|(decide +kernel)) (hb2:=by first|rfl|assumption|omega|(rw [yf];omega)|(decide +kernel))) (.c (j:=4) rfl (.c (j:=1) rfl .n)) ?_)
 rintro w311 -
 dsimp only [aq,nq,cq]
 refine e_one 10 (zu rfl rfl rfl rfl (.c rfl (.c rfl .n)) ce75 (zSf (w1:=w310) (w2:=w311) (x1:=((q1).num)*(((q2).den:Nat):Int)) (x2:=(((q1).den:Nat):Int)*((q2).num)) (hl1:=by first|rfl|assumption|omega|(rw [yf];omega)|(decide +kernel)) (hl2:=by first|rfl|assumption|omega|(rw [yf];omega)|(decide +kernel))) (.c (j:=1) rfl (.c (j:=0) rfl .n)) ?_)
 rintro ⟨w312,w413⟩ -
 dsimp only [aq,nq,cq]
 refine e_pv 11 rfl rfl (zm rfl rfl)<|e_pv 12 rfl rfl (zm rfl rfl)<|e_one 13 (zA kr rfl rfl rfl rfl rfl sz28 rfl (.t4 .nil) ?_)
 refine e_pv 14 rfl rfl (zb rfl)<|zU kr<|zd<|zE ?_
 have hi1:((q1.den:Int)*q2.num=0)=(q2=0):=propext (Big.den_zero q1 q2)
 exact zua Tryz.results61 (w312,w413) trivial (zn 0 ty28 rfl rfl (.t4 .nil)) (zo rfl) (by simp only [hi1]) (ho:=(.n:PickO _ _ _)) ((.e (j:=0) rfl (by rw [Big.div_any];simp only [ne_eq,hi1]) .n):SelR _ _ _)
theorem zPe {u1:Wd} {v1:Wd} {q1:Rat} {u2:Wd} {v2:Wd} {q2:Rat} (hl:ye q1+ye q2+1≤1099511627776):Con yd 54 [.agg #[u1.b,u1.l,v1.b,v1.l],.agg #[u2.b,u2.l,v2.b,v2.l]] [] [qF true u1 v1 q1,qF true u2 v2 q2] (Y:=Unit) (fun y=>True) (fun y=> .bool (decide (q1=q2))) (fun y=>[]) (fun y=>[]):=by
 refine zl Tryz.func54 rfl rfl rfl (fun c=> ?_)
 show RunC _ _ _ _ _ [(0,.agg #[u1.b,u1.l,v1.b,v1.l]),(1,.agg #[u2.b,u2.l,v2.b,v2.l])] [] [qF true u1 v1 q1,qF true u2 v2 q2]
 refine ze<|za<|zH rfl rfl (zN rfl rfl) (fun b1=> ?_)
 refine zH rfl rfl (zN rfl rfl) (fun b2=> ?_)
 refine e_p (zb rfl)<|zf<|zd<|zQa (X:=Unit) (fun x=>True) (fun x=>[(4,.bool (decide (Big.sgq (q1 - q2)=0)))]) (fun x=>[boxA b2 28 (cw [u2,v2]),boxA b1 28 (cw [u1,v1])]) (fun x=>[qF true u1 v1 q1,qF true u2 v2 q2]) ?_ ?_
 ·
  refine za<|e_ru (zc 1 ty28 rfl rfl (.t4 .nil))<|zM rfl rfl (.c rfl .n) ce87 (zzc (u1:=u1) (v1:=v1) (q1:=q1)) (.c (j:=0) rfl .n)<|e_mv rfl<|e_ru (zc 0 ty28 rfl rfl (.t4 .nil))<|zM rfl rfl (.c rfl .n) ce87 (zzc (u1:=u2) (v1:=v2) (q1:=q2)) (.c (j:=1) rfl .n)<|e_p (zy rfl rfl)<|e_mv rfl<|e_ru (zc 1 ty28 rfl rfl (.t4 .nil))<|e_ru (zc 0 ty28 rfl rfl (.t4 .nil))<|zM rfl rfl (.c rfl (.c rfl .n)) ce44 (zzb (k1:=true) (u1:=u1) (v1:=v1) (q1:=q1) (k2:=true) (u2:=u2) (v2:=v2) (q2:=q2) (hl:=ass)) (.c (j:=0) rfl (.c (j:=1) rfl .n))<|e_p (zna rfl rfl)<|e_p (zy rfl rfl)<|e_p (zb rfl)<|zf ?_
  exact zka () (show True from by first|trivial|omega|simp_all) ((.c rfl .n):SubM _ _) (ho:=((.of [0,0] rfl):PickO _ _ _)) ((.of [0,1] rfl):SelR _ _ _)
 ·
  rintro ⟨⟩ -
  try dsimp only [cw]
  refine zE ?_
  exact zw Tryz.results54 () trivial (zo rfl) (congrArg Value.bool (decide_eq_decide.2 Big.sgq_sub_zero.symm)) (ho:=(.n:PickO _ _ _)) (.n:SelR _ _ _)
theorem zAb {u1:Wd} {v1:Wd} {q1:Rat} {u2:Wd} {v2:Wd} {q2:Rat} (hl:ye q1+ye q2+1≤1099511627776):Con yd 22 [.agg #[u1.b,u1.l,v1.b,v1.l],.agg #[u2.b,u2.l,v2.b,v2.l]] [] [qF true u1 v1 q1,qF true u2 v2 q2] (Y:=Unit) (fun y=>True) (fun y=> .bool (decide (q1=q2))) (fun y=>[]) (fun y=>[]):=by
 refine zl Tryz.func22 rfl rfl rfl (fun c=> ?_)
 show RunC _ _ _ _ _ [(0,.agg #[u1.b,u1.l,v1.b,v1.l]),(1,.agg #[u2.b,u2.l,v2.b,v2.l])] [] [qF true u1 v1 q1,qF true u2 v2 q2]
 refine ze<|za<|zH rfl rfl (zN rfl rfl) (fun b1=> ?_)
 refine zH rfl rfl (zN rfl rfl) (fun b2=> ?_)
 refine e_p (zb rfl)<|zf<|zd<|ze<|za<|e_ru (zc 1 ty28 rfl rfl (.t4 .nil))<|e_ru (zc 0 ty28 rfl rfl (.t4 .nil))<|zM rfl rfl (.c rfl (.c rfl .n)) ce54 (zPe (u1:=u1) (v1:=v1) (q1:=q1) (u2:=u2) (v2:=v2) (q2:=q2) (hl:=ass)) (.c (j:=0) rfl (.c (j:=1) rfl .n))<|e_p (zb rfl)<|zf<|zd<|zE ?_
 exact zw Tryz.results22 () trivial (zo rfl) rfl (ho:=(.n:PickO _ _ _)) (.n:SelR _ _ _)
end Go.Proofs.YtbiaimgafknkmaaGreat.Sp
namespace Go.Proofs.YtbiaimgafknkmaaGreat.Big
def qabs (q:Rat):Rat:=if q<0 then -q else q
theorem qabs_num (q:Rat):(qabs q).num=(q.num.natAbs:Int):=by
  unfold qabs
  have k:= @Rat.num_nonneg q
  split
  · rename_i h; have : ¬ 0 ≤ q.num := fun e => by have := k.1 e; grind
    rw [Rat.neg_num];omega
  · rename_i h; have : 0 ≤ q.num := k.2 (by grind)
    omega
theorem qabs_den (q:Rat):(qabs q).den=q.den:=by unfold qabs;split <;> simp [Rat.neg_den]
theorem hq_qabs (q:Rat):hq (qabs q)=hq q:=by unfold qabs;split <;> simp [hq_neg]
end Go.Proofs.YtbiaimgafknkmaaGreat.Big
namespace Go.Proofs.YtbiaimgafknkmaaGreat.Sp
open Go
set_option linter.unusedVariables false
def Wd.zz (u v:Wd):Prop:=u.s=false∧v.s=false∧u.n=0∧v.n=0
instance (u v:Wd):Decidable (Wd.zz u v):=inferInstanceAs (Decidable (_∧_))
def rQ:Rp Rat:=⟨4,Wd×Wd,fun _ w=>[w.1.b,w.1.l,w.2.b,w.2.l],fun g q w=>(qF true w.1 w.2 q).on g,fun _ _ _ _ h k=>(qF true _ _ _).mono _ _ h k,fun _ _=>rfl,fun _ _=>rfl⟩
theorem open_rQ {A:Fa} {q:Rat} {w1 w2:Wd} {R:List Fa}:∀g,Holds g (A :: okF rQ q (w1,w2) :: R)→Holds g (A :: qF true w1 w2 q :: R):=fun g ⟨h,a,r⟩=>⟨h,a,r⟩
def qo (y:Big.RQ):Option Rat:=if Big.qok y then some (Big.qv y) else none
def eF (u v:Wd) (x:Option Rat):Fa:=⟨fun g=>∃y:Big.RQ,u.raw g y.1∧v.raw g y.2∧x=qo y,fun _ _ h ⟨y,a,b,e⟩=>⟨y,Wd.raw_mono h a,Wd.raw_mono h b,e⟩⟩
def rE:Rp (Option Rat):=⟨4,Wd×Wd,fun _ w=>[w.1.b,w.1.l,w.2.b,w.2.l],fun g x w=>(eF w.1 w.2 x).on g,fun _ _ _ _ h k=>(eF _ _ _).mono _ _ h k,fun _ _=>rfl,fun _ _=>rfl⟩
theorem qo_v (y:Big.RQ):(qo y).getD 0=Big.qv y:=by
  unfold qo;split
  · rfl
  · rename_i h;rw [Big.qv_not h];rfl
theorem eF_q {g:Hp} {u v:Wd} {x:Option Rat} (h:(eF u v x).on g):(qF x.isSome u v (x.getD 0)).on g:=by
  obtain ⟨y,a,b,rfl⟩:=h
  refine ⟨y,a,b,(qo_v y).symm,fun e=> ?_⟩
  by_cases hk:Big.qok y
  · exact hk
  · unfold qo at e;rw [if_neg hk] at e;cases e
theorem qF_e {g:Hp} {u v:Wd} {q:Rat} (h:(qF true u v q).on g):(eF u v (some q)).on g:=by
  obtain ⟨y,a,b,e,k⟩:=h
  exact ⟨y,a,b,by unfold qo;rw [if_pos (k rfl),e]⟩
theorem Sl.re {α β:Type} {r:Rp α} {s:Rp β} {g:Hp} {p:Option Addr} {c:Nat} {l:List α} {f:α→β} (hz:r.sz=s.sz) (h:∀x γ,r.ok g x γ→∃δ,r.enc x γ=s.enc (f x) δ∧s.ok g (f x) δ) (k:Sl r g p c l):Sl s g p c (l.map f):=by
  refine ⟨by rw [List.length_map];exact k.1,k.2.1,k.2.2.1,fun i x e=> ?_⟩
  rw [List.getElem?_map] at e
  obtain ⟨x0,e0,rfl⟩:=Option.map_eq_some_iff.1 e
  obtain ⟨b,off,γ,e1,e2,e3⟩:=k.2.2.2 i x0 e0
  obtain ⟨δ,d1,d2⟩:=h x0 γ e3
  exact ⟨b,off,δ,e1,by rw [← hz,←d1];exact e2,d2⟩
theorem slF_QE {R:List Fa} {p:Option Addr} {c:Nat} {l:List Rat} (i:Nat) (hi:R[i]? =some (slF rQ p c l)):∀g,Holds g R→(slF rE p c (l.map some)).on g:=fun g h=>
  Sl.re (r:=rQ) (s:=rE) rfl (fun x γ k=>⟨γ,rfl,qF_e k⟩) (Holds.get i hi h)
theorem open_rE {A:Fa} {x:Option Rat} {w1 w2:Wd} {R:List Fa}:∀g,Holds g (A :: okF rE x (w1,w2) :: R)→Holds g (A :: qF x.isSome w1 w2 (x.getD 0) :: eF w1 w2 x :: R):=fun g ⟨h,a,r⟩=>⟨h,eF_q a,a,r⟩
theorem eF_wz (g:Hp):(eF wz wz none).on g:=⟨((false,[]),(false,[])),⟨rfl,rfl,by decide,Sl.nil _ _⟩,⟨rfl,rfl,by decide,Sl.nil _ _⟩,by unfold qo;rw [if_neg (by decide +kernel)]⟩
theorem qo_hq (y:Big.RQ) (h1:Big.nn y.1.2) (h2:Big.nn y.2.2) {k:Nat} (k1:y.1.2.length≤k) (k2:y.2.2.length≤k) (k0:1≤k):ye ((qo y).getD 0)≤k:=by
  rw [qo_v]
  by_cases hk:Big.qok y
  · obtain ⟨e1, e2⟩ := Big.qv_parts hk
    unfold ye Big.ln
    rw [e1,e2]
    have a1:=Big.raw_digs (s:=y.1.1) h1
    have a2:=Big.raw_digs (s:=y.2.1) h2
    rw [if_pos hk.1] at a1;rw [if_pos hk.2.1] at a2
    rw [a1,a2];omega
  · rw [Big.qv_not hk,Big.hq_zero];exact k0
section
variable {P : Program} {O : List As} {R : List Fa} {f : Nat} {u v : Wd}
theorem con_e1 {x:Option Rat} {Y:Type} {φ:Y→Prop} {val:Y→Value} {O':Y→List As} {R':Y→List Fa}
    (h:∀(y:Big.RQ),qo y=x→y.1.2.length≤1099511627776→y.2.2.length≤1099511627776→Con P f [.agg #[.bool y.1.1,.slice u.p y.1.2.length u.c,.bool y.2.1,.slice v.p y.2.2.length v.c]] O [slF (rI .u32) u.p u.c y.1.2,slF (rI .u32) v.p v.c y.2.2] φ val O' R'):
    Con P f [.agg #[u.b,u.l,v.b,v.l]] O [eF u v x] φ val O' R':=
  Con.of (X:=Big.RQ) (ψ:=fun y=>qo y=x∧y.1.2.length≤1099511627776∧y.2.2.length≤1099511627776) (A2:=fun x=>[.agg #[.bool x.1.1,.slice u.p x.1.2.length u.c,.bool x.2.1,.slice v.p x.2.2.length v.c]]) (R2:=fun x=>[slF (rI .u32) u.p u.c x.1.2,slF (rI .u32) v.p v.c x.2.2])
    (fun x hx=>h x hx.1 hx.2.1 hx.2.2) fun g r=>by
      obtain ⟨x,a,b,e⟩:=r.1
      refine ⟨x,⟨e.symm,a.2.2.1,b.2.2.1⟩,?_,a.2.2.2,b.2.2.2,trivial⟩
      have h1:=Wd.rawL_eq a;have h2:=Wd.rawL_eq b
      simp only [rawL,List.cons.injEq,and_true] at h1 h2
      rw [h1.1,h1.2,h2.1,h2.2]
theorem eF_weak (i:Nat) {x:Option Rat} (hi:R[i]? =some (eF u v x)):∀g,Holds g R→(qF x.isSome u v (x.getD 0)).on g:=fun g h=>eF_q (Holds.get i hi h)
end
end Go.Proofs.YtbiaimgafknkmaaGreat.Sp
namespace Go.Proofs.YtbiaimgafknkmaaGreat.Sp
open Go
theorem addQE {R:List Fa} {p:Option Addr} {c:Nat} {l:List Rat} (i:Nat) (hi:R[i]? =some (slF rQ p c l)):∀g,Holds g R→Holds g (slF rE p c (l.map some) :: R):=fun g h=>⟨slF_QE i hi g h,h⟩
theorem addQe {R:List Fa} {u v:Wd} {q:Rat} (i:Nat) (hi:R[i]? =some (qF true u v q)):∀g,Holds g R→Holds g (eF u v (some q) :: R):=fun g h=>⟨qF_e (Holds.get i hi h),h⟩
theorem Sl.nn9 {g:Hp} {p:Option Addr} {c:Nat} {l:List Int} (s:Sl (rI .u32) g p c l):Big.nn l:=fun d hd=>by
  obtain ⟨i,hi⟩:=List.getElem?_of_mem hd
  obtain ⟨b,off,γ,-,-,ok⟩:=s.2.2.2 i d hi
  exact (zx.1 ok).1
theorem ee_hq {g:Hp} {u v:Wd} {x:Option Rat} (h:(eF u v x).on g) (h1:u.n≤2) (h2:v.n≤2):ye (x.getD 0)≤2:=by
  obtain ⟨y,a,b,e⟩:=h
  subst e
  have a2:=a.2.1
  have b2:=b.2.1
  exact qo_hq y (Sl.nn9 a.2.2.2) (Sl.nn9 b.2.2.2) (k:=2) (by omega) (by omega) (by decide)
section
variable {P : Program} {n : Sz} {m : Fm} {O : List As} {R : List Fa} {d : Option Tmp} {ty : TypeId} {ps : String} {af : Array Edge} {gd : Option (Nat × Bool)}
theorem zQe {t e:TypeId} {sz:Nat} {p:Option Addr} {len cap hi:Nat} {k1 k2:IntKind} {w:World} (hu:P.underlying t=some (.slice e)) (ht:(P.info? e).map (·.size)=some sz) (hhc:hi≤cap):
    (Instr.sliceAt t (.slice p len cap) none (some (.int k1 (hi:Int))) (some (.int k2 (hi:Int)))).run P w= .ok (.slice p hi hi) w:=by
  have a2:(hi:Int)≤(cap:Int):=by omega
  have h0:p.map (·.add 0)=p:=by cases p <;> simp [Addr.add]
  simp [Instr.sliceAt,Instr.slice,Instr.sliceBounds,Instr.sliceBound,asIntOf,run_underlying hu,zAa ht,hhc,h0]
theorem zyf {t e:TypeId} {x y z:Operand} {k1 k2:IntKind} {sz hi k cap:Nat} {p:Option Addr} (hu:P.underlying t=some (.slice e)) (ht:(P.info? e).map (·.size)=some sz) (h0:evo m x=some (.slice p k cap)) (h1:evo m y=some (.int k1 (hi:Int))) (h2:evo m z=some (.int k2 (hi:Int))) (hhc:hi≤cap):
    PV P n ⟨d,.slice t x none (some y) (some z),ty,ps,af,gd⟩ m (.slice p hi hi):=fun a w f=>by
  have:=zQe (P:=P) (p:=p) (len:=k) (w:=w) (k1:=k1) (k2:=k2) hu ht hhc
  simp only [execOp,f.ev h0,f.ev h1,f.ev h2,Option.map_none,Option.map_some,Sem.run_bind,this,Result.andThen_ok,Sem.run_pure]
theorem Sl.take3 {α:Type} {r:Rp α} {g:Hp} {p:Option Addr} {cap:Nat} {xs:List α} (s:Sl r g p cap xs) (n:Nat) (hn:n≤xs.length):Sl r g p n (xs.take n):=by
  obtain ⟨h1,h2,h3,h4⟩:=s
  refine ⟨by rw [List.length_take];omega,by omega,fun e=>by have:=h3 e;omega,fun i x e=> ?_⟩
  rw [List.getElem?_take] at e
  by_cases h:i<n
  · rw [if_pos h] at e;exact h4 i x e
  · rw [if_neg h] at e;cases e
theorem zzf {α:Type} {r:Rp α} {p:Option Addr} {cap:Nat} {xs:List α} (i:Nat) (hi:R[i]? =some (slF r p cap xs)) (n:Nat) (hn:n≤xs.length):∀g,Holds g R→Holds g (slF r p n (xs.take n) :: R):=fun g h=>⟨Sl.take3 (Holds.get i hi h:Sl r g p cap xs) n hn,h⟩
end
end Go.Proofs.YtbiaimgafknkmaaGreat.Sp
namespace Go.Proofs.YtbiaimgafknkmaaGreat.Po
def vals (l:List (Option Rat)):List Rat:=l.map (·.getD 0)
def gen (g:Nat→Rat):Nat→List Rat
  |0=>[]
  |n+1=>gen g n++[g n]
def tn (l:List Rat):Nat→Nat
  |0=>0
  |n+1=>if l.getD n 0=0 then tn l n else n+1
def cl (l:List Rat):List Rat:=l.take (tn l l.length)
theorem gen_len (g:Nat→Rat):∀n,(gen g n).length=n
  |0=>rfl
  |n+1=>by simp [gen,gen_len g n]
theorem gen_get (g:Nat→Rat):∀n i,(gen g n).getD i 0=if i<n then g i else 0
  |0,i=>by simp [gen]
  |n+1,i=>by
    simp only [gen]
    by_cases h:i<n
    · rw [List.getD_eq_getElem?_getD,List.getElem?_append_left (by rw [gen_len];exact h),←List.getD_eq_getElem?_getD,gen_get g n i,if_pos h,if_pos (by omega)]
    · rw [List.getD_eq_getElem?_getD, List.getElem?_append_right (by rw [gen_len]; omega), gen_len]
      by_cases h1:i=n
      · subst h1;simp
      · rw [if_neg (by omega)]
        have:1≤i - n:=by omega
        obtain ⟨j,hj⟩:∃j,i - n=j+1:=⟨i - n - 1,by omega⟩
        rw [hj];simp
theorem tn_le (l:List Rat):∀n,tn l n≤n
  |0=>Nat.le_refl 0
  |n+1=>by
    simp only [tn]
    split
    · have:=tn_le l n;omega
    · omega
theorem tn_zero (l:List Rat):∀n i,tn l n≤i→i<n→l.getD i 0=0
  |0,i,_,h=>by omega
  |n+1,i,h,h2=>by
    simp only [tn] at h
    split at h
    · rename_i h3
      by_cases e:i=n
      · subst e;exact h3
      · exact tn_zero l n i h (by omega)
    · omega
theorem tn_last (l:List Rat):∀n,0<tn l n→l.getD (tn l n - 1) 0≠0
  |0,h=>by simp [tn] at h
  |n+1,h=>by
    simp only [tn] at h ⊢
    split
    · rename_i h3;rw [if_pos h3] at h;exact tn_last l n h
    · rename_i h3;simpa using h3
theorem cl_len (l:List Rat):(cl l).length=tn l l.length:=by
  unfold cl
  rw [List.length_take]
  have:=tn_le l l.length
  omega
theorem cl_get (l:List Rat) (i:Nat):(cl l).getD i 0=l.getD i 0:=by
  by_cases h:i<tn l l.length
  · unfold cl
    rw [List.getD_eq_getElem?_getD,List.getElem?_take,if_pos h,←List.getD_eq_getElem?_getD]
  · have h1:(cl l).getD i 0=0:=by
      rw [List.getD_eq_getElem?_getD,List.getElem?_eq_none (by rw [cl_len];omega)];rfl
    rw [h1]
    by_cases h2:i<l.length
    · exact (tn_zero l _ i (by omega) h2).symm
    · rw [List.getD_eq_getElem?_getD,List.getElem?_eq_none (by omega)];rfl
theorem cl_last {l:List Rat} (h:cl l≠[]):(cl l).getD ((cl l).length - 1) 0≠0:=by
  have hp:0<tn l l.length:=by rw [← cl_len];exact List.length_pos_iff.2 h
  rw [cl_get,cl_len]
  exact tn_last l _ hp
theorem cl_ext {l m:List Rat} (h:∀i,l.getD i 0=m.getD i 0):cl l=cl m:=by
  have hlen:(cl l).length=(cl m).length:=by
    have aux:∀{l m:List Rat},(∀i,l.getD i 0=m.getD i 0)→(cl l).length≤(cl m).length:=by
      intro l m h
      by_cases hl:cl l=[]
      · rw [hl];exact Nat.zero_le _
      · have h1 := cl_last hl
        rw [cl_get,h,←cl_get m] at h1
        refine Decidable.byContradiction fun hlt=>h1 ?_
        rw [List.getD_eq_getElem?_getD,List.getElem?_eq_none (by omega)];rfl
    exact Nat.le_antisymm (aux h) (aux fun i=>(h i).symm)
  refine List.ext_getElem? fun i=> ?_
  by_cases hi:i<(cl l).length
  · have e := cl_get l i
    rw [h i,←cl_get m i] at e
    rw [List.getD_eq_getElem?_getD,List.getD_eq_getElem?_getD,List.getElem?_eq_getElem hi,List.getElem?_eq_getElem (by omega)] at e
    rw [List.getElem?_eq_getElem hi,List.getElem?_eq_getElem (by omega)]
    exact congrArg some e
  · rw [List.getElem?_eq_none (by omega),List.getElem?_eq_none (by omega)]
def cv (p q:List Rat) (k lo:Nat):Nat→Rat
  |0=>0
  |n+1=>cv p q k lo n+p.getD (lo+n) 0*q.getD (k - (lo+n)) 0
def ev (x:Rat):List Rat→Rat
  |[]=>0
  |a :: l=>ev x l*x+a
def add (p q:List Rat):List Rat:=cl (gen (fun i=>p.getD i 0+q.getD i 0) (max p.length q.length))
def sub (p q:List Rat):List Rat:=cl (gen (fun i=>p.getD i 0 - q.getD i 0) (max p.length q.length))
def mulC (p q:List Rat):List Rat:=if p=[]∨q=[] then [] else cl (gen (fun k=>cv p q k (k+1 - q.length) (min k (p.length - 1)+1 - (k+1 - q.length))) (p.length+q.length - 1))
def mul (p q:List Rat):List Rat:=mulC (cl p) (cl q)
def der (p:List Rat):List Rat:=cl (gen (fun i=>((i+1:Nat):Int)*p.getD (i+1) 0) (p.length - 1))
end Go.Proofs.YtbiaimgafknkmaaGreat.Po
namespace Go.Proofs.YtbiaimgafknkmaaGreat.Po
theorem gD0 {l:List Rat} {i:Nat} (h:l.length≤i):l.getD i 0=0:=by
  rw [List.getD_eq_getElem?_getD,List.getElem?_eq_none h];rfl
def co (f g:Nat→Rat) (k:Nat):Nat→Rat
  |0=>0
  |n+1=>co f g k n+f n*g (k - n)
def C (f g:Nat→Rat) (k:Nat):Rat:=co f g k (k+1)
theorem co_congr {f g f' g':Nat→Rat} {k:Nat} (h:∀i,f i=f' i) (h':∀i,g i=g' i):∀n,co f g k n=co f' g' k n
  |0=>rfl
  |n+1=>by simp only [co];rw [co_congr h h' n,h,h']
theorem C_congr {f g f' g':Nat→Rat} (k:Nat) (h:∀i,f i=f' i) (h':∀i,g i=g' i):C f g k=C f' g' k:=co_congr h h' _
theorem cv_add (p q:List Rat) (k lo a:Nat):∀b,cv p q k lo (a+b)=cv p q k lo a+cv p q k (lo+a) b
  |0=>by
    show cv p q k lo a=cv p q k lo a+0
    grind
  |b+1=>by
    show cv p q k lo (a+b)+p.getD (lo+(a+b)) 0*q.getD (k - (lo+(a+b))) 0=cv p q k lo a+(cv p q k (lo+a) b+p.getD (lo+a+b) 0*q.getD (k - (lo+a+b)) 0)
    rw [cv_add p q k lo a b,Nat.add_assoc lo a b]
    grind
theorem cv_zero {p q:List Rat} {k lo:Nat}:∀{n},(∀j,lo≤j→j<lo+n→p.getD j 0*q.getD (k - j) 0=0)→cv p q k lo n=0
  |0,_=>rfl
  |n+1,h=>by
    show cv p q k lo n+p.getD (lo+n) 0*q.getD (k - (lo+n)) 0=0
    rw [cv_zero fun j h1 h2=>h j h1 (by omega),h (lo+n) (by omega) (by omega)]
    grind
theorem cv_co (p q:List Rat) (k:Nat):∀n,cv p q k 0 n=co (p.getD · 0) (q.getD · 0) k n
  |0=>rfl
  |n+1=>by
    show cv p q k 0 n+p.getD (0+n) 0*q.getD (k - (0+n)) 0=_
    rw [cv_co p q k n,Nat.zero_add]
    rfl
theorem cv_full (p q:List Rat) (k:Nat):cv p q k (k+1 - q.length) (min k (p.length - 1)+1 - (k+1 - q.length))=C (p.getD · 0) (q.getD · 0) k:=by
  show _=co _ _ k (k+1)
  rw [← cv_co]
  by_cases hp:p.length=0
  · have hz : ∀ lo n, cv p q k lo n = 0 := fun lo n => cv_zero fun j _ _ => by rw [gD0 (l := p) (by omega)]; grind
    rw [hz,hz]
  · generalize hlo : k + 1 - q.length = lo
    generalize hn:min k (p.length - 1)+1 - lo=n
    have h1:cv p q k 0 lo=0:=cv_zero fun j _ hj=>by rw [gD0 (l:=q) (i:=k - j) (by omega)];grind
    by_cases hle:lo+n≤k+1
    · have e : k + 1 = lo + (n + (k + 1 - (lo + n))) := by omega
      rw [e,cv_add p q k 0 lo,cv_add p q k (0+lo) n,h1,Nat.zero_add]
      have h2:cv p q k (lo+n) (k+1 - (lo+n))=0:=cv_zero fun j h2 h3=>by rw [gD0 (l:=p) (i:=j) (by omega)];grind
      rw [h2]
      grind
    · exfalso;omega
theorem C_high {p q:List Rat} {k:Nat} (h:p.length+q.length≤k+1):C (p.getD · 0) (q.getD · 0) k=0:=by
  show co _ _ k (k+1)=0
  rw [← cv_co]
  exact cv_zero fun j _ hj=>by
    by_cases hp:j<p.length
    · rw [gD0 (l:=q) (i:=k - j) (by omega)];grind
    · rw [gD0 (l:=p) (i:=j) (by omega)];grind
def mc (p q:List Rat):List Rat:=gen (fun k=>C (p.getD · 0) (q.getD · 0) k) (p.length+q.length - 1)
theorem mc_get (p q:List Rat) (k:Nat):(mc p q).getD k 0=C (p.getD · 0) (q.getD · 0) k:=by
  unfold mc
  rw [gen_get]
  split
  · rfl
  · exact (C_high (by omega)).symm
theorem mulC_get (p q:List Rat) (k:Nat):(mulC p q).getD k 0=C (p.getD · 0) (q.getD · 0) k:=by
  unfold mulC
  split
  · rename_i h
    have:C (p.getD · 0) (q.getD · 0) k=0:=by
      show co _ _ k (k+1)=0
      rw [← cv_co]
      refine cv_zero fun j _ _=> ?_
      rcases h with rfl|rfl
      · simp
      · simp
    rw [this];rfl
  · rw [cl_get, gen_get]
    split
    · exact cv_full p q k
    · exact (C_high (by omega)).symm
theorem mul_get (p q:List Rat) (k:Nat):(mul p q).getD k 0=C (p.getD · 0) (q.getD · 0) k:=by
  unfold mul
  rw [mulC_get]
  exact C_congr k (cl_get p) (cl_get q)
theorem cl_cl (l:List Rat):cl (cl l)=cl l:=cl_ext (cl_get l)
theorem mul_cl (p q:List Rat):cl (mul p q)=mul p q:=by
  unfold mul mulC
  split
  · rfl
  · exact cl_cl _
theorem mul_mc (p q:List Rat):cl (mc p q)=mul p q:=by
  rw [← mul_cl]
  exact cl_ext fun i=>by rw [mc_get,mul_get]
theorem add_get (p q:List Rat) (k:Nat):(add p q).getD k 0=p.getD k 0+q.getD k 0:=by
  unfold add
  rw [cl_get,gen_get]
  split
  · rfl
  · rw [gD0 (l:=p) (by omega),gD0 (l:=q) (by omega)];grind
theorem sub_get (p q:List Rat) (k:Nat):(sub p q).getD k 0=p.getD k 0 - q.getD k 0:=by
  unfold sub
  rw [cl_get,gen_get]
  split
  · rfl
  · rw [gD0 (l:=p) (by omega),gD0 (l:=q) (by omega)];grind
theorem add_cl (p q:List Rat):cl (add p q)=add p q:=cl_cl _
theorem sub_cl (p q:List Rat):cl (sub p q)=sub p q:=cl_cl _
theorem der_cl (p:List Rat):cl (der p)=der p:=cl_cl _
theorem zMa {p q:List Rat} (hp:cl p=p) (hq:cl q=q) (h:∀i,p.getD i 0=q.getD i 0):p=q:=by
  rw [← hp,←hq];exact cl_ext h
theorem co_split (f g:Nat→Rat) (k:Nat):∀n,co f g k (n+1)=f 0*g k+co (fun i=>f (i+1)) (fun i=>g i) (k - 1) n
  |0=>by simp [co];grind
  |n+1=>by
    show co f g k (n+1)+f (n+1)*g (k - (n+1))=f 0*g k+(co (fun i=>f (i+1)) (fun i=>g i) (k - 1) n+f (n+1)*g (k - 1 - n))
    rw [co_split f g k n,show k - (n+1)=k - 1 - n by omega]
    grind
theorem C_zero (f g:Nat→Rat):C f g 0=f 0*g 0:=by simp [C,co];grind
theorem C_succ (f g:Nat→Rat) (k:Nat):C f g (k+1)=f 0*g (k+1)+C (fun i=>f (i+1)) g k:=co_split f g (k+1) (k+1)
theorem C_last (f g:Nat→Rat) (k:Nat):C f g (k+1)=C f (fun i=>g (i+1)) k+f (k+1)*g 0:=by
  show co f g (k+1) (k+1)+f (k+1)*g (k+1 - (k+1))=co f (fun i=>g (i+1)) k (k+1)+f (k+1)*g 0
  rw [Nat.sub_self]
  have:∀n,n≤k+1→co f g (k+1) n=co f (fun i=>g (i+1)) k n:=by
    intro n
    induction n with
    |zero=>intro _;rfl
    |succ n ih=>intro h;simp only [co];rw [ih (by omega),show k+1 - n=k - n+1 by omega]
  rw [this (k+1) (Nat.le_refl _)]
theorem C_comm (f g:Nat→Rat):∀k,C f g k=C g f k:=by
  intro k
  induction k generalizing f g with
  |zero=>rw [C_zero,C_zero];grind
  |succ k ih=>rw [C_succ,C_last g f,ih];grind
theorem C_add (f f' g:Nat→Rat) (k:Nat):C (fun i=>f i+f' i) g k=C f g k+C f' g k:=by
  have:∀n,co (fun i=>f i+f' i) g k n=co f g k n+co f' g k n:=by
    intro n
    induction n with
    |zero=>simp [co];grind
    |succ n ih=>simp only [co];rw [ih];grind
  exact this _
theorem mul_comm' (p q:List Rat):mul p q=mul q p:=zMa (mul_cl _ _) (mul_cl _ _) fun i=>by rw [mul_get,mul_get,C_comm]
theorem ev_zero {x:Rat}:∀{l:List Rat},(∀i,l.getD i 0=0)→ev x l=0
  |[],_=>rfl
  |a :: l,h=>by
    have h0:a=0:=h 0
    show ev x l*x+a=0
    rw [ev_zero fun i=>h (i+1),h0];grind
theorem ev_ext {x:Rat}:∀{l m:List Rat},(∀i,l.getD i 0=m.getD i 0)→ev x l=ev x m
  |[],m,h=>(ev_zero fun i=>(h i).symm).symm
  |a :: l,[],h=>ev_zero h
  |a :: l,b :: m,h=>by
    have h0:a=b:=h 0
    show ev x l*x+a=ev x m*x+b
    rw [ev_ext (l:=l) (m:=m) fun i=>h (i+1),h0]
theorem ev_cl (x:Rat) (l:List Rat):ev x (cl l)=ev x l:=ev_ext (cl_get l)
def zipA:List Rat→List Rat→List Rat
  |[],q=>q
  |p,[]=>p
  |a :: p,b :: q=>(a+b) :: zipA p q
theorem zipA_get:∀(p q:List Rat) (i:Nat),(zipA p q).getD i 0=p.getD i 0+q.getD i 0
  |[],q,i=>by simp [zipA];grind
  |a :: p,[],i=>by simp [zipA];grind
  |a :: p,b :: q,0=>rfl
  |a :: p,b :: q,i+1=>zipA_get p q i
theorem zipA_ev (x:Rat):∀p q:List Rat,ev x (zipA p q)=ev x p+ev x q
  |[],q=>by simp [zipA,ev];grind
  |a :: p,[]=>by simp [zipA,ev];grind
  |a :: p,b :: q=>by
    show ev x (zipA p q)*x+(a+b)=(ev x p*x+a)+(ev x q*x+b)
    rw [zipA_ev x p q];grind
theorem ev_add (x:Rat) (p q:List Rat):ev x (add p q)=ev x p+ev x q:=by
  rw [← zipA_ev];exact ev_ext fun i=>by rw [add_get,zipA_get]
theorem ev_scale (x a:Rat):∀q:List Rat,ev x (q.map (a* ·))=a*ev x q
  |[]=>by simp [ev]
  |b :: q=>by
    show ev x (q.map (a* ·))*x+a*b=a*(ev x q*x+b)
    rw [ev_scale x a q];grind
theorem map_get (a:Rat) (q:List Rat) (i:Nat):(q.map (a* ·)).getD i 0=a*q.getD i 0:=by
  by_cases h:i<q.length
  · rw [List.getD_eq_getElem?_getD,List.getD_eq_getElem?_getD,List.getElem?_map,List.getElem?_eq_getElem h];rfl
  · rw [gD0 (by rw [List.length_map];omega),gD0 (by omega)];grind
def mL:List Rat→List Rat→List Rat
  |[],_=>[]
  |a :: p,q=>zipA (q.map (a* ·)) (0 :: mL p q)
theorem mL_ev (x:Rat) (q:List Rat):∀p:List Rat,ev x (mL p q)=ev x p*ev x q
  |[]=>by simp [mL,ev]
  |a :: p=>by
    show ev x (zipA (q.map (a* ·)) (0 :: mL p q))=(ev x p*x+a)*ev x q
    rw [zipA_ev,ev_scale]
    show a*ev x q+(ev x (mL p q)*x+0)=_
    rw [mL_ev x q p];grind
theorem C_nil (q:List Rat) (k:Nat):C (([]:List Rat).getD · 0) (q.getD · 0) k=0:=by
  show co _ _ k (k+1)=0
  rw [← cv_co]
  exact cv_zero fun j _ _=>by rw [gD0 (l:=[]) (Nat.zero_le _)];grind
theorem mL_get (q:List Rat):∀(p:List Rat) (k:Nat),(mL p q).getD k 0=C (p.getD · 0) (q.getD · 0) k
  |[],k=>by
    have:C ([].getD · 0) (q.getD · 0) k=0:=C_nil q k
    rw [this];rfl
  |a :: p,0=>by
    show (zipA (q.map (a* ·)) (0 :: mL p q)).getD 0 0=_
    rw [zipA_get,map_get,C_zero]
    show a*q.getD 0 0+0=a*q.getD 0 0
    grind
  |a :: p,k+1=>by
    show (zipA (q.map (a* ·)) (0 :: mL p q)).getD (k+1) 0=_
    rw [zipA_get,map_get,C_succ]
    show a*q.getD (k+1) 0+(mL p q).getD k 0=a*q.getD (k+1) 0+C (p.getD · 0) (q.getD · 0) k
    rw [mL_get q p k]
theorem ev_mul (x:Rat) (p q:List Rat):ev x (mul p q)=ev x p*ev x q:=by
  rw [← mL_ev];exact ev_ext fun i=>by rw [mul_get,mL_get]
theorem der_get (p:List Rat) (i:Nat):(der p).getD i 0=((i+1:Nat):Int)*p.getD (i+1) 0:=by
  unfold der
  rw [cl_get,gen_get]
  split
  · rfl
  · rw [gD0 (l:=p) (by omega)];grind
def D (f:Nat→Rat) (i:Nat):Rat:=((i+1:Nat):Int)*f (i+1)
theorem cast_s (i:Nat):(((i+1:Nat):Int):Rat)=((i:Int):Rat)+1:=by
  rw [show ((i+1:Nat):Int)=(i:Int)+1 by omega,Rat.intCast_add];rfl
theorem C_D:∀(k:Nat) (f g:Nat→Rat),(((k+1:Nat):Int):Rat)*C f g (k+1)=C (D f) g k+C f (D g) k
  |0,f,g=>by
    rw [C_succ,C_zero,C_zero,C_zero]
    simp only [D]
    rw [cast_s]
    simp
    grind
  |k+1,f,g=>by
    have ih:=C_D k (fun i=>f (i+1)) g
    rw [C_succ f g (k+1),C_succ f (D g) k]
    have e:C (D f) g (k+1)=C (fun i=>f (i+1)) g (k+1)+C (fun i=>((i:Int):Rat)*f (i+1)) g (k+1):=by
      rw [← C_add];exact C_congr _ (fun i=>by simp only [D];rw [cast_s];grind) (fun _=>rfl)
    have e2:C (fun i=>((i:Int):Rat)*f (i+1)) g (k+1)=C (D fun i=>f (i+1)) g k:=by
      rw [C_succ]
      have:((0:Nat):Int)*f (0+1)*g (k+1)=0:=by simp
      rw [this]
      have e3:C (fun i=>(((i+1:Nat):Int):Rat)*f (i+1+1)) g k=C (D fun i=>f (i+1)) g k:=rfl
      rw [e3];grind
    rw [e,e2]
    simp only [D] at ih ⊢
    rw [cast_s (k+1)]
    grind
theorem der_mul (p q:List Rat):der (mul p q)=add (mul (der p) q) (mul p (der q)):=zMa (der_cl _) (add_cl _ _) fun i=>by
  rw [der_get,add_get,mul_get,mul_get,mul_get,C_D]
  congr 1
  · exact C_congr i (fun j=>(der_get p j).symm) (fun _=>rfl)
  · exact C_congr i (fun _=>rfl) (fun j=>(der_get q j).symm)
end Go.Proofs.YtbiaimgafknkmaaGreat.Po
namespace Go.Proofs.YtbiaimgafknkmaaGreat.Po
open Go.Proofs.YtbiaimgafknkmaaGreat.Big
def mono (s:Nat) (k:Rat):List Rat:=gen (fun i=>if i=s then k else 0) (s+1)
def lead (l:List Rat):Rat:=l.getD (l.length - 1) 0
def dt (q r:List Rat):List Rat:=mono (r.length - q.length) (lead r / lead q)
def dv (q:List Rat):Nat→List Rat→List Rat→List Rat×List Rat
  |0,a,r=>(a,r)
  |n+1,a,r=>if r.length<q.length then (a,r) else dv q n (add a (dt q r)) (sub r (mul (dt q r) q))
theorem mono_get (s:Nat) (k:Rat) (i:Nat):(mono s k).getD i 0=if i=s then k else 0:=by
  unfold mono
  rw [gen_get]
  by_cases h:i=s
  · rw [if_pos (by omega)]
  · rw [if_neg h]
    split
    · rfl
    · rfl
theorem co_mono (s:Nat) (k:Rat) (g:Nat→Rat) (i:Nat):∀n,co (fun j=>if j=s then k else 0) g i n=if s<n then k*g (i - s) else 0
  |0=>by simp [co]
  |n+1=>by
    simp only [co]
    rw [co_mono s k g i n]
    by_cases h:s<n
    · rw [if_pos h,if_neg (by omega),if_pos (by omega)];grind
    · rw [if_neg h]
      by_cases h1:n=s
      · subst h1;rw [if_pos rfl,if_pos (by omega)];grind
      · rw [if_neg h1,if_neg (by omega)];grind
theorem C_mono (s:Nat) (k:Rat) (q:List Rat) (i:Nat):C ((mono s k).getD · 0) (q.getD · 0) i=if s≤i then k*q.getD (i - s) 0 else 0:=by
  rw [C_congr i (mono_get s k) (fun _=>rfl)]
  show co _ _ i (i+1)=_
  rw [co_mono]
  by_cases h:s≤i
  · rw [if_pos h,if_pos (by omega)]
  · rw [if_neg h,if_neg (by omega)]
theorem cl_le {l:List Rat} {m:Nat} (h:∀i,m≤i→l.getD i 0=0):(cl l).length≤m:=by
  refine Decidable.byContradiction fun hlt=> ?_
  have hne:cl l≠[]:=fun e=>by rw [e] at hlt;exact hlt (Nat.zero_le _)
  have h1:=cl_last hne
  rw [cl_get] at h1
  exact h1 (h _ (by omega))
theorem lead_ne {q:List Rat} (hq:cl q=q) (h:q≠[]):lead q≠0:=by
  have:=cl_last (l:=q) (by rw [hq];exact h)
  rw [hq] at this
  exact this
theorem dt_less {q r:List Rat} (hq:cl q=q) (h:q≠[]) (hl:q.length≤r.length):(sub r (mul (dt q r) q)).length<r.length:=by
  have hql:0<q.length:=List.length_pos_iff.2 h
  have:(sub r (mul (dt q r) q)).length≤r.length - 1:=by
    rw [← sub_cl]
    refine cl_le fun i hi=> ?_
    rw [sub_get,mul_get]
    unfold dt
    rw [C_mono]
    by_cases h1:i=r.length - 1
    · subst h1
      rw [if_pos (by omega),show r.length - 1 - (r.length - q.length)=q.length - 1 by omega]
      show lead r - lead r / lead q*lead q=0
      rw [Rat.div_mul_cancel (lead_ne hq h)]
      grind
    · rw [gD0 (l := r) (by omega)]
      split
      · rw [gD0 (l:=q) (by omega)];grind
      · grind
  omega
theorem dv_spec {q:List Rat} (hq:cl q=q) (h:q≠[]):∀(n:Nat) (a r:List Rat),r.length≤n→cl r=r→cl a=a→
    (dv q n a r).2.length<q.length∧add (mul (dv q n a r).1 q) (dv q n a r).2=add (mul a q) r∧cl (dv q n a r).2=(dv q n a r).2∧cl (dv q n a r).1=(dv q n a r).1
  |0,a,r,hn,hr,ha=>⟨by have:=List.length_pos_iff.2 h;show r.length<q.length;omega,rfl,hr,ha⟩
  |n+1,a,r,hn,hr,ha=>by
    unfold dv
    split
    · rename_i h1;exact ⟨h1,rfl,hr,ha⟩
    · rename_i h1
      have hlt:=dt_less (r:=r) hq h (by omega)
      obtain ⟨g1,g2,g3,g4⟩:=dv_spec hq h n (add a (dt q r)) (sub r (mul (dt q r) q)) (by omega) (sub_cl _ _) (add_cl _ _)
      refine ⟨g1,g2.trans ?_,g3,g4⟩
      refine zMa (add_cl _ _) (add_cl _ _) fun i=> ?_
      rw [add_get,add_get,mul_get,mul_get,sub_get,mul_get]
      have e:C ((add a (dt q r)).getD · 0) (q.getD · 0) i=C (a.getD · 0) (q.getD · 0) i+C ((dt q r).getD · 0) (q.getD · 0) i:=by
        rw [← C_add];exact C_congr i (add_get a _) (fun _=>rfl)
      rw [e]
      grind
def divp (p q:List Rat):List Rat×List Rat:=dv (cl q) (cl p).length [] (cl p)
theorem mul_nil (q:List Rat):mul [] q=[]:=by
  unfold mul mulC
  rw [if_pos (.inl rfl)]
theorem add_nil (r:List Rat) (h:cl r=r):add [] r=r:=zMa (add_cl _ _) h fun i=>by
  rw [add_get];simp;grind
theorem divp_spec {p q:List Rat} (h:cl q≠[]):(divp p q).2.length<(cl q).length∧add (mul (divp p q).1 (cl q)) (divp p q).2=cl p:=by
  obtain ⟨h1,h2,-,-⟩:=dv_spec (cl_cl q) h (cl p).length [] (cl p) (Nat.le_refl _) (cl_cl p) rfl
  exact ⟨h1,h2.trans (by rw [mul_nil,add_nil _ (cl_cl p)])⟩
def bd (K:Nat) (l:List Rat):Prop:=∀i,hq (l.getD i 0)≤K
theorem bd_cl {K:Nat} {l:List Rat} (h:bd K l):bd K (cl l):=fun i=>by rw [cl_get];exact h i
theorem bd_mono {K L:Nat} {l:List Rat} (h:bd K l) (hk:K≤L):bd L l:=fun i=>Nat.le_trans (h i) hk
theorem cv_mono {p q:List Rat} {s:Nat} {k0:Rat} (hp:∀i,p.getD i 0=if i=s then k0 else 0) (k lo:Nat):∀n,cv p q k lo n=if lo≤s∧s<lo+n then k0*q.getD (k - s) 0 else 0
  |0=>by rw [if_neg (by omega)];rfl
  |n+1=>by
    show cv p q k lo n+p.getD (lo+n) 0*q.getD (k - (lo+n)) 0=_
    rw [cv_mono hp k lo n,hp]
    by_cases h:lo+n=s
    · subst h;rw [if_neg (by omega),if_pos rfl,if_pos (by omega)];grind
    · rw [if_neg h]
      by_cases h1:lo≤s∧s<lo+n
      · rw [if_pos h1,if_pos (by omega)];grind
      · rw [if_neg h1,if_neg (by omega)];grind
theorem cv_mono_hq {p q:List Rat} {s K L:Nat} {k0:Rat} (hp:∀i,p.getD i 0=if i=s then k0 else 0) (hk:hq k0≤K) (h2:bd L q) (k lo n:Nat):hq (cv p q k lo n)≤K+L:=by
  rw [cv_mono hp]
  split
  · have := hq_mul k0 (q.getD (k - s) 0)
    have:=h2 (k - s)
    omega
  · rw [hq_zero];have:=hq_pos k0;omega
theorem ev_hq {K L:Nat} {x:Rat} (hx:hq x≤L):∀{l:List Rat},bd K l→hq (ev x l)≤1+l.length*(K+L+1)
  |[],_=>by show hq 0≤_;rw [hq_zero];omega
  |a :: l,h=>by
    show hq (ev x l*x+a)≤_
    have e1:=hq_add (ev x l*x) a
    have e2:=hq_mul (ev x l) x
    have e3:=ev_hq hx (l:=l) fun i=>h (i+1)
    have e4:hq a≤K:=h 0
    rw [List.length_cons,Nat.succ_mul]
    omega
theorem lead_hq {K:Nat} {l:List Rat} (h:bd K l):hq (lead l)≤K:=h _
theorem dt_bd {K L:Nat} {q r:List Rat} (hr:bd K r) (hq':bd L q):bd (K+L) (dt q r):=fun i=>by
  unfold dt
  rw [mono_get]
  split
  · by_cases h0 : lead q = 0
    · rw [h0, show lead r / 0 = 0 by rw [Rat.div_def, Rat.inv_zero, Rat.mul_zero], hq_zero]
      have:=hq_pos (lead r);have:=lead_hq hr;omega
    · have := hq_div (lead r) h0
      have:=lead_hq hr
      have:=lead_hq hq'
      omega
  · rw [hq_zero];have:=hq_pos (lead r);have:=lead_hq hr;omega
theorem mul_dt_bd {K L:Nat} {q r:List Rat} (hr:bd K r) (hq':bd L q):bd (K+L+L) (mul (dt q r) q):=fun i=>by
  rw [mul_get]
  unfold dt
  rw [C_mono]
  have hd:=dt_bd hr hq' (r.length - q.length)
  unfold dt at hd
  rw [mono_get,if_pos rfl] at hd
  split
  · have := hq_mul (lead r / lead q) (q.getD (i - (r.length - q.length)) 0)
    have:=hq' (i - (r.length - q.length))
    omega
  · rw [hq_zero];have:=hq_pos (lead r / lead q);omega
theorem vals_len (l:List (Option Rat)):(vals l).length=l.length:=by simp [vals]
theorem vals_get (l:List (Option Rat)) (i:Nat):(vals l).getD i 0=(l.getD i none).getD 0:=by
  unfold vals
  by_cases h:i<l.length
  · rw [List.getD_eq_getElem?_getD,List.getElem?_map,List.getElem?_eq_getElem h,List.getD_eq_getElem?_getD,List.getElem?_eq_getElem h];rfl
  · rw [gD0 (by rw [List.length_map];omega),List.getD_eq_getElem?_getD,List.getElem?_eq_none (by omega)];rfl
theorem vals_some (l:List Rat):vals (l.map some)=l:=by unfold vals;rw [List.map_map];exact List.map_id l
theorem take_s {l:List Rat} {i:Nat} (h:i<l.length):l.take i++[l.getD i 0]=l.take (i+1):=by
  rw [List.take_add_one,List.getD_eq_getElem?_getD,List.getElem?_eq_getElem h];rfl
theorem vals_take {l:List (Option Rat)} {i:Nat} (h:i<l.length):(vals l).take i++[(l.getD i none).getD 0]=(vals l).take (i+1):=by
  rw [← vals_get];exact take_s (by rw [vals_len];exact h)
theorem tn_yes {l:List Rat} {j:Nat} (h0:0<j) (h:l.getD (j - 1) 0=0):tn l j=tn l (j - 1):=by
  obtain ⟨k,rfl⟩:∃k,j=k+1:=⟨j - 1,by omega⟩
  simp only [Nat.add_sub_cancel] at h ⊢
  simp only [tn];rw [if_pos h]
theorem tn_no {l:List Rat} {j:Nat} (h:¬(0<j∧l.getD (j - 1) 0=0)):tn l j=j:=by
  cases j with
  |zero=>rfl
  |succ k=>simp only [tn];rw [if_neg fun e=>h ⟨by omega,by simpa using e⟩]
theorem hz_get {l:List Rat} {j:Nat} (h0:0<j) (h:sgq (l.getD ((j:Int) - 1).toNat 0)=0):l.getD (j - 1) 0=0:=by
  rw [show ((j:Int) - 1).toNat=j - 1 by omega] at h
  exact sgq_zero.1 h
theorem hz_no {l:List Rat} {j:Nat} (h:¬((0:Int)<(j:Int)∧sgq (l.getD ((j:Int) - 1).toNat 0)=0)):¬(0<j∧l.getD (j - 1) 0=0):=fun k=>h ⟨by omega,by rw [show ((j:Int) - 1).toNat=j - 1 by omega,sgq_zero];exact k.2⟩
theorem cl_take {l:List Rat} {n j:Nat} (hn:l.length=n) (h:tn l n=tn l j) (hj:tn l j=j):cl l=l.take j:=by unfold cl;rw [hn,h,hj]
theorem set_step {A:List (Option Rat)} {g:Nat→Rat} {i:Nat} {x:Rat} (h:∀j,j<i→A.getD j none=some (g j)) (hi:i<A.length) (hx:x=g i):∀j,j<i+1→(A.set i (some x)).getD j none=some (g j):=fun j hj=>by
  rw [List.getD_eq_getElem?_getD,List.getElem?_set]
  by_cases e:i=j
  · subst e;rw [if_pos rfl,if_pos hi,hx];rfl
  · rw [if_neg e,←List.getD_eq_getElem?_getD];exact h j (by omega)
theorem vals_gen {A:List (Option Rat)} {g:Nat→Rat} {n:Nat} (hn:A.length=n) (h:∀j,j<n→A.getD j none=some (g j)):vals A=gen g n:=by
  refine List.ext_getElem? fun i=> ?_
  by_cases hi:i<n
  · have e : (vals A).getD i 0 = (gen g n).getD i 0 := by rw [vals_get, h i hi, gen_get, if_pos hi]; rfl
    rw [List.getD_eq_getElem?_getD,List.getD_eq_getElem?_getD,List.getElem?_eq_getElem (by rw [vals_len];omega),List.getElem?_eq_getElem (by rw [gen_len];omega)] at e
    rw [List.getElem?_eq_getElem (by rw [vals_len];omega),List.getElem?_eq_getElem (by rw [gen_len];omega)]
    exact congrArg some e
  · rw [List.getElem?_eq_none (by rw [vals_len];omega),List.getElem?_eq_none (by rw [gen_len];omega)]
theorem gen_congr {f g:Nat→Rat}:∀{n},(∀i,i<n→f i=g i)→gen f n=gen g n
  |0,_=>rfl
  |n+1,h=>by simp only [gen];rw [gen_congr fun i hi=>h i (by omega),h n (by omega)]
theorem vals_add {A l m:List (Option Rat)} {n:Nat} (hm:n=max l.length m.length) (hn:A.length=n) (h:∀j,j<n→A.getD j none=some ((l.getD j none).getD 0+(m.getD j none).getD 0)):cl (vals A)=add (vals l) (vals m):=by
  unfold add
  rw [vals_gen hn h,vals_len,vals_len,←hm]
  exact congrArg cl (gen_congr fun i _=>by rw [vals_get,vals_get])
theorem vals_sub {A l m:List (Option Rat)} {n:Nat} (hm:n=max l.length m.length) (hn:A.length=n) (h:∀j,j<n→A.getD j none=some ((l.getD j none).getD 0 - (m.getD j none).getD 0)):cl (vals A)=sub (vals l) (vals m):=by
  unfold sub
  rw [vals_gen hn h,vals_len,vals_len,←hm]
  exact congrArg cl (gen_congr fun i _=>by rw [vals_get,vals_get])
theorem at_end {l:List (Option Rat)} {i:Nat} (h:l.length≤i):(l.getD i none).getD 0=((0:Int):Rat):=by
  rw [List.getD_eq_getElem?_getD,List.getElem?_eq_none h];rfl
theorem cv_step (P Q:List Rat) {k lo i:Nat} (h:lo≤i):cv P Q k lo (i - lo)+P.getD i 0*Q.getD (k - i) 0=cv P Q k lo (i+1 - lo):=by
  rw [show i+1 - lo=i - lo+1 by omega]
  show _=cv P Q k lo (i - lo)+P.getD (lo+(i - lo)) 0*Q.getD (k - (lo+(i - lo))) 0
  rw [show lo+(i - lo)=i by omega]
theorem cl_le_len (l:List Rat):(cl l).length≤l.length:=by rw [cl_len];exact tn_le _ _
def pc (P Q:List Rat) (k:Nat):Rat:=cv P Q k (k+1 - Q.length) (min k (P.length - 1)+1 - (k+1 - Q.length))
theorem pc_end {P Q:List Rat} {k i:Nat} (h1:k+1 - Q.length≤i) (h2:¬((i:Int)≤min (k:Int) ((P.length:Int) - 1))) (h3:i≤max (k+1 - Q.length) (min k (P.length - 1)+1)) (hp:0<P.length):cv P Q k (k+1 - Q.length) (i - (k+1 - Q.length))=pc P Q k:=by
  unfold pc
  congr 1
  omega
theorem vals_mul {A l m:List (Option Rat)} {P Q:List Rat} {n:Nat} (hP:P=cl (vals l)) (hQ:Q=cl (vals m)) (h0:¬(P.length=0∨Q.length=0)) (hn':n=P.length+Q.length - 1) (hn:A.length=n) (h:∀j,j<n→A.getD j none=some (pc P Q j)):cl (vals A)=mul (vals l) (vals m):=by
  unfold mul mulC
  rw [← hP,←hQ,if_neg (fun k=>h0 (k.imp (fun e=>by rw [e];rfl) (fun e=>by rw [e];rfl))),vals_gen hn h,hn']
  rfl
theorem mul_none {l m:List (Option Rat)} {P Q:List Rat} (hP:P=cl (vals l)) (hQ:Q=cl (vals m)) (h0:P.length=0∨Q.length=0):mul (vals l) (vals m)=[]:=by
  unfold mul mulC
  rw [← hP,←hQ,if_pos (h0.imp List.length_eq_zero_iff.1 List.length_eq_zero_iff.1)]
theorem ev_step {x:Rat} {l:List Rat} {i:Nat} (h0:0<i) (h:i≤l.length):ev x (l.drop i)*x+l.getD (i - 1) 0=ev x (l.drop (i - 1)):=by
  obtain ⟨j,rfl⟩:∃j,i=j+1:=⟨i - 1,by omega⟩
  rw [Nat.add_sub_cancel,List.drop_eq_getElem_cons (i:=j) (by omega),List.getD_eq_getElem?_getD,List.getElem?_eq_getElem (by omega)]
  rfl
theorem ev_top {x:Rat} {l:List (Option Rat)} {n:Nat} (h:l.length=n):ev x ((vals l).drop n)=((0:Int):Rat):=by
  rw [List.drop_eq_nil_of_le (by rw [vals_len];omega)];rfl
def dg (l:List (Option Rat)) (i:Nat):Rat:=(((i+1:Nat):Int):Rat)*(l.getD (i+1) none).getD 0
theorem dg_step {l:List (Option Rat)} {i:Nat} (h:1≤i):gen (dg l) (i - 1)++[(((i:Nat):Int):Rat)*(l.getD i none).getD 0]=gen (dg l) (i+1 - 1):=by
  obtain ⟨j,rfl⟩:∃j,i=j+1:=⟨i - 1,by omega⟩
  rfl
theorem dg_der {l:List (Option Rat)} {n k:Nat} (h:l.length=n) (hk:k=n - 1):cl (vals ((gen (dg l) k).map some))=der (vals l):=by
  rw [vals_some]
  unfold der
  rw [vals_len,h,←hk]
  exact congrArg cl (gen_congr fun i _=>by rw [vals_get];rfl)
theorem take_get {l:List Rat} {i j:Nat} (h:i<j):(l.take j).getD i 0=l.getD i 0:=by
  rw [List.getD_eq_getElem?_getD,List.getElem?_take,if_pos h,←List.getD_eq_getElem?_getD]
theorem hz_getT {l:List Rat} {j:Nat} (h0:0<j) (h:sgq ((l.take j).getD ((j:Int) - 1).toNat 0)=0):l.getD (j - 1) 0=0:=by
  rw [show ((j:Int) - 1).toNat=j - 1 by omega,take_get (by omega)] at h
  exact sgq_zero.1 h
theorem hz_noT {l:List Rat} {j:Nat} (h:¬((0:Int)<(j:Int)∧sgq ((l.take j).getD ((j:Int) - 1).toNat 0)=0)):¬(0<j∧l.getD (j - 1) 0=0):=fun k=>h ⟨by omega,by rw [show ((j:Int) - 1).toNat=j - 1 by omega,take_get (by omega),sgq_zero];exact k.2⟩
def dg' (l:List (Option Rat)) (i:Nat):Rat:=(l.getD (i+1) none).getD 0*(((i+1:Nat):Int):Rat)
theorem dg'_step {l:List (Option Rat)} {i:Nat} (h:1≤i):gen (dg' l) (i - 1)++[(l.getD i none).getD 0*(((i:Nat):Int):Rat)]=gen (dg' l) (i+1 - 1):=by
  obtain ⟨j,rfl⟩:∃j,i=j+1:=⟨i - 1,by omega⟩
  rfl
theorem dg'_der {l:List (Option Rat)} {n k:Nat} (h:l.length=n) (hk:k=n - 1):cl (vals ((gen (dg' l) k).map some))=der (vals l):=by
  rw [← dg_der h hk]
  exact congrArg (fun z=>cl (vals (List.map some z))) (gen_congr fun i _=>by unfold dg' dg;exact Rat.mul_comm _ _)
theorem take_tt {l:List Rat} {j:Nat} (h:0<j):(l.take j).take ((j:Int) - 1).toNat=l.take (j - 1):=by
  rw [List.take_take,show min ((j:Int) - 1).toNat j=j - 1 by omega]
theorem take_hq {l:List Rat} {K j:Nat} (hk:1≤K) (h:∀i,hq (l.getD i 0)≤K) (i:Nat):hq ((l.take j).getD i 0)≤K:=by
  by_cases hi:i<j
  · rw [take_get hi];exact h i
  · rw [gD0 (by rw [List.length_take];omega),hq_zero];exact hk
theorem gen_hq {g:Nat→Rat} {K n:Nat} (hk:1≤K) (h:∀i,i<n→hq (g i)≤K) (i:Nat):hq ((vals ((gen g n).map some)).getD i 0)≤K:=by
  rw [vals_some,gen_get]
  split
  · rename_i hi;exact h i hi
  · rw [hq_zero];exact hk
theorem dg'_hq {l:List (Option Rat)} {K n:Nat} (hn:n≤1000) (h:∀i,hq ((l.getD i none).getD 0)≤K) (i:Nat):hq ((vals ((gen (dg' l) n).map some)).getD i 0)≤K+3:=
  gen_hq (by omega) (fun j hj=>by
    unfold dg'
    have:=hq_mul ((l.getD (j+1) none).getD 0) (((j+1:Nat):Int):Rat)
    have:=h (j+1)
    have:=hq_64 (z:=((j+1:Nat):Int)) (by omega) (by omega)
    omega) i
def ag (l m:List (Option Rat)) (i:Nat):Rat:=(l.getD i none).getD 0+(m.getD i none).getD 0
theorem ag_add {l m:List (Option Rat)} {n:Nat} (hn:n=max l.length m.length):cl (vals ((gen (ag l m) n).map some))=add (vals l) (vals m):=by
  rw [vals_some]
  unfold add
  rw [vals_len,vals_len,←hn]
  exact congrArg cl (gen_congr fun i _=>by rw [vals_get,vals_get];rfl)
theorem ag_hq {l m:List (Option Rat)} {n:Nat} (h:∀i,hq ((l.getD i none).getD 0)+hq ((m.getD i none).getD 0)+1≤1000000000000) (i:Nat):hq ((vals ((gen (ag l m) n).map some)).getD i 0)≤1000000000000:=
  gen_hq (by decide) (fun j _=>by
    unfold ag
    have:=hq_add ((l.getD j none).getD 0) ((m.getD j none).getD 0)
    have:=h j
    omega) i
def scl (l:List Rat) (x:Rat):List Rat:=cl (gen (fun i=>l.getD i 0*x) l.length)
def sg' (l:List (Option Rat)) (x:Rat) (i:Nat):Rat:=(l.getD i none).getD 0*x
theorem sg'_scl {l:List (Option Rat)} {x:Rat} {n:Nat} (hn:l.length=n):cl (vals ((gen (sg' l x) n).map some))=scl (vals l) x:=by
  rw [vals_some]
  unfold scl
  rw [vals_len,hn]
  exact congrArg cl (gen_congr fun i _=>by rw [vals_get];rfl)
theorem sg'_hq {l:List (Option Rat)} {x:Rat} {n:Nat} (h:∀i,hq ((l.getD i none).getD 0)+hq x+1≤1000000000000) (i:Nat):hq ((vals ((gen (sg' l x) n).map some)).getD i 0)≤1000000000000:=
  gen_hq (by decide) (fun j _=>by
    unfold sg'
    have:=hq_mul ((l.getD j none).getD 0) x
    have:=h j
    omega) i
theorem scl_get (l:List Rat) (x:Rat) (i:Nat):(scl l x).getD i 0=l.getD i 0*x:=by
  unfold scl
  rw [cl_get,gen_get]
  split
  · rfl
  · rw [gD0 (by omega)];grind
theorem scl_mul (l:List Rat) (x:Rat):scl l x=mul l [x]:=zMa (cl_cl _) (mul_cl _ _) fun i=>by
  rw [scl_get,mul_get,C_comm]
  have e:∀j,([x]:List Rat).getD j 0=if j=0 then x else 0:=fun j=>by cases j <;> simp
  rw [C_congr i e (fun _=>rfl)]
  show _=co _ _ i (i+1)
  rw [co_mono,if_pos (by omega)]
  exact Rat.mul_comm _ _
theorem sub_scl (p q:List Rat):add p (scl q (((-1:Int):Int):Rat))=sub p q:=zMa (add_cl _ _) (sub_cl _ _) fun i=>by
  rw [add_get,scl_get,sub_get]
  grind
def mg (l m:List (Option Rat)) (k:Nat):Rat:=cv (vals l) (vals m) k 0 (k+1)
theorem mg_mul {l m:List (Option Rat)} {n:Nat} (hn:n=l.length+m.length - 1):cl (vals ((gen (mg l m) n).map some))=mul (vals l) (vals m):=by
  rw [vals_some,←mul_mc]
  unfold mc
  rw [vals_len,vals_len,←hn]
  exact congrArg cl (gen_congr fun k _=>by unfold mg;rw [cv_co];rfl)
theorem mg_hq {l m:List (Option Rat)} {n:Nat} (h:∀k lo n,lo+n≤k+1→hq (cv (vals l) (vals m) k lo n)≤200000000000) (i:Nat):hq ((vals ((gen (mg l m) n).map some)).getD i 0)≤1000000000000:=
  gen_hq (by decide) (fun j _=>Nat.le_trans (h j 0 (j+1) (by omega)) (by decide)) i
theorem cv0_step {l m:List (Option Rat)} {k i:Nat}:cv (vals l) (vals m) k 0 i+(l.getD i none).getD 0*(m.getD (k - i) none).getD 0=cv (vals l) (vals m) k 0 (i+1):=by
  rw [← vals_get,←vals_get]
  show _=cv (vals l) (vals m) k 0 i+(vals l).getD (0+i) 0*(vals m).getD (k - (0+i)) 0
  rw [Nat.zero_add]
theorem cv0_skip {l m:List (Option Rat)} {k i:Nat} (h:l.length≤i∨m.length≤k - i):cv (vals l) (vals m) k 0 i=cv (vals l) (vals m) k 0 (i+1):=by
  rw [← cv0_step,←vals_get,←vals_get]
  rcases h with h|h
  · rw [gD0 (l:=vals l) (by rw [vals_len];exact h)];grind
  · rw [gD0 (l:=vals m) (by rw [vals_len];exact h)];grind
theorem msome (l:List Rat) (i:Nat):((l.map some).getD i none).getD 0=l.getD i 0:=by rw [← vals_get,vals_some]
theorem neg_hq {l m:List (Option Rat)} (h1:∀i,hq ((l.getD i none).getD 0)≤200000000000) (h2:∀i,hq ((m.getD i none).getD 0)≤200000000000) (i:Nat):hq ((l.getD i none).getD 0)+hq ((((scl (vals m) (((-1:Int):Int):Rat)).map some).getD i none).getD 0)+1≤1000000000000:=by
  rw [msome,scl_get,vals_get]
  have e1:=hq_mul ((m.getD i none).getD 0) (((-1:Int):Int):Rat)
  have e2:=hq_64 (z:=(-1:Int)) (by decide) (by decide)
  have e3:=h1 i
  have e4:=h2 i
  omega
theorem same_all {l m:List Rat} {n:Nat} (h1:l.length=n) (h2:m.length=n) (h:∀i,i<n→l.getD i 0=m.getD i 0):l=m:=by
  refine List.ext_getElem? fun i=> ?_
  by_cases hi:i<n
  · have e := h i hi
    rw [List.getD_eq_getElem?_getD,List.getD_eq_getElem?_getD,List.getElem?_eq_getElem (by omega),List.getElem?_eq_getElem (by omega)] at e
    rw [List.getElem?_eq_getElem (by omega),List.getElem?_eq_getElem (by omega)]
    exact congrArg some e
  · rw [List.getElem?_eq_none (by omega),List.getElem?_eq_none (by omega)]
end Go.Proofs.YtbiaimgafknkmaaGreat.Po
namespace Go.Proofs.YtbiaimgafknkmaaGreat.Sp
open Go
set_option linter.unusedVariables false
section
variable {P : Program} {n : Sz} {m : Fm} {O : List As} {R : List Fa} {d : Option Tmp} {ty : TypeId} {ps : String} {af : Array Edge} {gd : Option (Nat × Bool)} {α : Type}
end
theorem wf_i64 {z:Int} (h:(Lit.int .i64 z).wf=true): -9223372036854775808≤z∧z≤9223372036854775807:=by simpa [Lit.wf,IntKind.min,IntKind.max,IntKind.signed,IntKind.bits] using h
structure Bb where
  (ar le tp rt bt sx sy xx xy yy ms mx my:Int)
deriving DecidableEq
def b0:Bb:=⟨0,0,0,0,0,0,0,0,0,0,0,0,0⟩
end Go.Proofs.YtbiaimgafknkmaaGreat.Sp
namespace Go.Proofs.YtbiaimgafknkmaaGreat.Sp
open Go
structure Gr where
  (w h m:Int) (p:Option Addr) (n c:Nat)
end Go.Proofs.YtbiaimgafknkmaaGreat.Sp
namespace Go.Proofs.YtbiaimgafknkmaaGreat.Sp
open Go
set_option linter.unusedVariables false
section
variable {P : Program} {n : Sz} {m : Fm} {O : List As} {R : List Fa} {d : Option Tmp} {ty : TypeId} {ps : String} {af : Array Edge} {gd : Option (Nat × Bool)} {α : Type}
theorem zTf {t T:TypeId} {bytes:Nat} {z:Value} {x y:Operand} {k1 k2:IntKind} {z1 z2:Int} {k:Nat} {r:Rp α} (hu:P.underlying t=some (.slice T)) (hI:Inf P T r.sz bytes z) (h1:evo m x=some (.int k1 z1)) (h2:evo m y=some (.int k2 z2))
    (hz1:z1=0) (hz2:z2=(k:Int)) (hb:bytes*k≤281474976710656) (hm:k≤9223372036854775807) (hzs:z.cells.size=r.sz) (hpos:0<r.sz):
    Ef P n ⟨d,.makeSlice t x y,ty,ps,af,gd⟩ m [] R (Y:=Nat) (fun _=>True) (fun b=> .slice (some ⟨b,0,none⟩) 0 k) (fun b=>[rowA T r (some ⟨b,0,none⟩) k []]) (fun _=>[]):=by
  intro a f w hh g s rr ap hw hg K Q hK
  have e:hh=Hp.emp:=s
  subst e;subst hz1;subst hz2
  obtain ⟨i,hi,hz,hsz,hby⟩:=hI.info
  have hrun:=run_make (P:=P) w t T i z hu hi hz k1 k2 (0:Int) (k:Int) (by omega) (by omega) (by rw [hby,←Int.natCast_mul];generalize bytes*k=q at hb;omega) (by omega)
  have hrun':(execOp a.eval ⟨d,.makeSlice t x y,ty,ps,af,gd⟩).run P w= .ok (.value (.slice (some ⟨w.heap.size,0,none⟩) 0 k)) (w.alloc (.cells (madeCells z.cells (k*r.sz)) T)):=by
    simp only [execOp,f.ev h1,f.ev h2,Sem.run_bind,hrun,Result.andThen_ok,Sem.run_pure,hsz,Int.toNat_natCast]
    rfl
  refine op_value hrun' ?_
  refine hK w.heap.size _ trivial (mem_new hw hg ?_)
  exact .inr ⟨w.heap.size,0,(madeCells z.cells (k*r.sz)).toList,rfl,Nat.zero_le _,by unfold maxLen;omega,by rw [Array.length_toList,size_madeCells,Nat.zero_add];exact Nat.le_refl _,by rw [Array.toArray_toList],fun j x hx=>by simp at hx⟩
end
end Go.Proofs.YtbiaimgafknkmaaGreat.Sp
namespace Go.Proofs.YtbiaimgafknkmaaGreat.Sp
open Go
set_option linter.unusedVariables false
set_option maxRecDepth 100000
set_option maxHeartbeats 8000000
theorem zMb:Con yd 50 [] [] [] (Y:=Wd×Wd) (fun y=>True) (fun y=> .agg #[y.1.b,y.1.l,y.2.b,y.2.l]) (fun y=>[]) (fun y=>[qF true y.1 y.2 ((0:Int):Rat)]):=by
 refine zl Tryz.func50 rfl rfl rfl (fun c=> ?_)
 show RunC _ _ _ _ _ [] [] []
 refine ze<|za<|zH rfl rfl (zq zr28 rfl) (fun b1=> ?_)
 refine zf<|zd<|ze<|za<|zk rfl rfl (.c rfl .n) ce59 (zmb (z:=0) (hz:=cbd)) (.n) ?_
 rintro ⟨w32,w43⟩ -
 dsimp only [aq,nq,cq]
 refine zi 0 rfl rfl rfl rfl rfl sz28 rfl (.t4 .nil) .z<|zf<|zd<|zE ?_
 exact zw Tryz.results50 (w32,w43) trivial (zn 0 ty28 rfl rfl (.t4 .nil)) rfl (ho:=(.n:PickO _ _ _)) ((.c (j:=0) rfl .n):SelR _ _ _)
theorem zFa {p1:Option Addr} {n1:Nat} {c1:Nat} {l1:List (Option Rat)} (hn1:l1.length=n1) (hm1:n1≤1000):Con yd 31 [.slice p1 n1 c1] [] [slF rE p1 c1 l1] (Y:=(Option Addr)×Nat) (fun y=>True) (fun y=> .slice (y.1) ((Po.cl (Po.vals l1)).length) (y.2)) (fun y=>[]) (fun y=>[slF rQ (y.1) (y.2) (Po.cl (Po.vals l1))]):=by
 refine zl Tryz.func31 rfl rfl rfl (fun c=> ?_)
 show RunC _ _ _ _ _ [(0,.slice p1 n1 c1)] [] [slF rE p1 c1 l1]
 refine zP 0 rfl (fun hL0=> ?_)
 refine ze<|za<|e_p (zb rfl)<|zf<|zd<|ze<|za<|e_mv rfl<|e_p (zD yb rfl)<|zqa rfl rfl (zTf (r:=rQ) (k:=n1) ya inf28 rfl rfl rfl rfl om om rfl dd) (fun b1 _=> ?_)
 refine e_p (zb rfl)<|zf<|zd<|ze<|ze<|za<|e_mv rfl<|e_p (zD yb rfl)<|e_mv rfl<|zf<|zd<|zv<|zfa (X:=Nat×(Option Addr)×Nat×(List Rat)) (fun x:Nat×(Option Addr)×Nat×(List Rat)=>x.1≤n1∧x.2.2.2=(Po.vals l1).take x.1) (fun x=>[(3,.slice (x.2.1) (x.2.2.2.length) (x.2.2.1)),(12,.int .i64 ((x.1:Nat):Int)),(11,.int .i64 ((n1:Nat):Int)),(10,.slice p1 n1 c1),(2,.slice none 0 0)]) (fun x=>[rowA 28 rQ (x.2.1) (x.2.2.1) (x.2.2.2)]) (fun x=>[slF rE p1 c1 l1]) (fun x:Nat×(Option Addr)×Nat×(List Rat)=>n1 - x.1) (0,some ⟨b1,0,none⟩,n1,([]:List Rat)) (show 0≤n1∧([]:List Rat)=(Po.vals l1).take 0 from by exact ⟨Nat.zero_le _,rfl⟩) ((.e rfl (by first|rfl|(congr 1;omega)|simp_all) (.e rfl (by first|rfl|(congr 1;omega)|simp_all) (.of rfl))):SubM _ _) (ho:=((.e (i:=0) rfl (by first|rfl|(congr 1;omega)|simp_all) .n):PickO _ _ _)) ((.c (j:=0) rfl .n):SelR _ _ _) ?_
 rintro ⟨i,pR,cR,A⟩ hI
 replace hI:i≤n1∧A=(Po.vals l1).take i:=hI
 try dsimp only
 obtain ⟨hi,hA⟩:=hI
 have hAl:A.length=i:=by rw [hA,List.length_take,Po.vals_len];omega
 refine ze<|za<|e_p (zY rfl rfl)<|zf<|zd<|ze<|zC rfl (fun h2=> ?_) (fun h2=> ?_)
 ·
  refine zB<|zd<|ze<|zv<|ze<|za<|r_vl rfl rfl (zja (x0:=(l1.getD i (none:Option Rat))) 0 i rfl yb sz28 rfl (by first|rfl|assumption|(simp;done)|omega) rfl rfl (gD (d:=(none:Option Rat)) om)) ?_
  rintro ⟨b3,o4,w5,w6⟩ -
  dsimp only [aq,nq,cq]
  refine zha open_rE<|e_ru (zO (j:=0) 0 ty28 rfl rfl rfl (.t4 .nil))<|zH rfl rfl (zq zr28 rfl) (fun b7=> ?_)
  refine zi 0 rfl rfl rfl rfl rfl sz28 rfl (.t4 .nil) .z<|zf<|zd<|za<|e_mv rfl<|e_ru (zc 0 ty28 rfl rfl (.t4 .nil))<|zk rfl rfl (.c rfl .n) ce53 (zia (k1:=(l1.getD i (none:Option Rat)).isSome) (u1:=w5) (v1:=w6) (q1:=((l1.getD i (none:Option Rat)).getD 0))) (.c (j:=1) rfl .n) ?_
  rintro ⟨w38,w49⟩ -
  dsimp only [aq,nq,cq]
  refine zqa rfl rfl (zoa (r:=rQ) (k:=1) ya inf28 rfl dd dd dd (.c (x:=((l1.getD i (none:Option Rat)).getD 0)) (cs:=[w38.b,w38.l,w49.b,w49.l]) (w38,w49) rfl rfl rfl (fun g hr=>Holds.get 0 rfl hr) .n)) (fun b10 _=> ?_)
  refine zV 0 rfl .z<|zya 2 rfl rfl rfl (zma 0 rfl ya inf28 dd rfl rfl (by first|rfl|assumption|(simp;done)|omega) rfl (by first|rfl|assumption|(simp;done)|omega) om om) (fun _=>(.s (.s .z))) ?_
  rintro ⟨p11,c12⟩ -
  dsimp only [aq,nq,cq]
  refine e_p (zb rfl)<|zf<|zL<|zd<|za<|e_p (zJ (z:=(((i+1):Nat):Int)) rfl rfl (w64 om))<|e_mv rfl<|zf<|zT ((i+1),p11,c12,(A++([((l1.getD i (none:Option Rat)).getD 0)]))) (show (i+1)≤n1∧(A++([((l1.getD i (none:Option Rat)).getD 0)]))=(Po.vals l1).take (i+1) from by exact ⟨by omega,by rw [hA];exact Po.vals_take om⟩) (by show n1 - (i+1)<n1 - i;omega) ((.e rfl (by simp) (.of rfl)):SubM _ _) (ho:=((.c (i:=2) rfl .n):PickO _ _ _)) ((.c (j:=5) rfl .n):SelR _ _ _)
 ·
  refine zca<|zh<|zh<|zt<|zd<|ze<|zbb 0 rfl .z<|zP 0 rfl (fun hLc=> ?_)
  have hAv:A=(Po.vals l1):=by rw [hA,List.take_of_length_le (by rw [Po.vals_len];omega)]
  refine za<|e_mv rfl<|e_p (zD ya rfl)<|e_p (zb rfl)<|zf<|zd<|ze<|zv<|zfa (X:=Nat) (fun x:Nat=>x≤n1∧Po.tn (Po.vals l1) n1=Po.tn (Po.vals l1) x) (fun x=>[(6,.int .i64 ((x:Nat):Int)),(3,.slice pR (A.length) cR),(2,.slice none 0 0)]) (fun x=>[]) (fun x=>[slF rQ pR cR A,slF rE p1 c1 l1]) (fun x:Nat=>x) n1 (show n1≤n1∧Po.tn (Po.vals l1) n1=Po.tn (Po.vals l1) n1 from by exact ⟨by omega,rfl⟩) ((.e rfl (by first|rfl|(congr 1;omega)|simp_all) (.c rfl (.c rfl .n))):SubM _ _) (ho:=(.n:PickO _ _ _)) ((.of [0,1] rfl):SelR _ _ _) ?_
  rintro j hI
  replace hI:j≤n1∧Po.tn (Po.vals l1) n1=Po.tn (Po.vals l1) j:=hI
  try dsimp only
  obtain ⟨hj,hT⟩:=hI
  refine ze<|zQa (X:=Unit) (fun x=>True) (fun x=>[(34,.bool (decide ((0<((j:Nat):Int))∧(Big.sgq (A.getD ((((j:Nat):Int) - 1).toNat) (0:Rat))=0)))),(6,.int .i64 ((j:Nat):Int)),(3,.slice pR (A.length) cR),(2,.slice none 0 0)]) (fun x=>[]) (fun x=>[slF rQ pR cR A,slF rE p1 c1 l1]) ?_ ?_
  ·
   refine za<|e_mv rfl<|e_p (zwa rfl rfl)<|zS rfl rfl (zaa rfl) (fun g1=> ?_) (fun g1=> ?_)
   ·
    refine e_mv rfl<|e_mv rfl<|e_p (zZ (z:=(((j:Nat):Int) - 1)) rfl rfl (w64 om))<|r_vl rfl rfl (zja (x0:=(A.getD ((((j:Nat):Int) - 1).toNat) (0:Rat))) 0 ((((j:Nat):Int) - 1).toNat) rfl ya sz28 rfl (by first|rfl|assumption|(simp;done)|omega) rfl om (gD (d:=(0:Rat)) om)) ?_
    rintro ⟨b13,o14,w15,w16⟩ -
    dsimp only [aq,nq,cq]
    refine zha open_rQ<|e_ru (zO (j:=0) 0 ty28 rfl rfl rfl (.t4 .nil))<|zM rfl rfl (.c rfl .n) ce65 (zPc (k1:=true) (u1:=w15) (v1:=w16) (q1:=(A.getD ((((j:Nat):Int) - 1).toNat) (0:Rat)))) (.c (j:=1) rfl .n)<|e_p (zna rfl rfl)<|e_p (zy rfl rfl)<|zf ?_
    exact zka () (show True from by first|trivial|omega|simp_all) ((.e rfl (congrArg Value.bool (by first|(exact (decide_eq_false (fun k=>g1 k.1)).symm)|exact decide_eq_decide.2 ⟨fun k=>⟨g1,k⟩,fun k=>k.2⟩)) (.of rfl)):SubM _ _) (ho:=(.n:PickO _ _ _)) ((.of [2,3] rfl):SelR _ _ _)
   ·
    refine e_no<|e_no<|e_no<|e_no<|e_no<|e_no<|e_no<|e_p (zy rfl rfl)<|zf ?_
    exact zka () (show True from by first|trivial|omega|simp_all) ((.e rfl (congrArg Value.bool (by first|(exact (decide_eq_false (fun k=>g1 k.1)).symm)|exact decide_eq_decide.2 ⟨fun k=>⟨g1,k⟩,fun k=>k.2⟩)) (.of rfl)):SubM _ _) (ho:=(.n:PickO _ _ _)) ((.of [0,1] rfl):SelR _ _ _)
  ·
   rintro ⟨⟩ -
   try dsimp only
   refine zC rfl (fun hz=> ?_) (fun hz=> ?_)
   ·
    refine zB<|zd<|zv<|za<|e_mv rfl<|e_p (zZ (z:=(((j:Nat):Int) - 1)) rfl rfl (w64 om))<|e_p (zb rfl)<|zf<|zL<|zT (j - 1) (show (j - 1)≤n1∧Po.tn (Po.vals l1) n1=Po.tn (Po.vals l1) (j - 1) from by exact ⟨by omega,hT.trans (Po.tn_yes om (hAv ▸ Po.hz_get om hz.2))⟩) (by have h9:=hz.1;omega) ((.e rfl (by first|rfl|(congr 1;omega)|simp_all) (.c rfl (.c rfl .n))):SubM _ _) (ho:=(.n:PickO _ _ _)) ((.of [0,1] rfl):SelR _ _ _)
   ·
    refine zca<|zh<|zh<|zt<|zd<|ze<|za<|e_mv rfl<|e_mv rfl<|e_mv rfl<|e_p (zyf (hi:=j) ya sz28 rfl rfl rfl om)<|zha (zzf 0 rfl j om)<|e_p (zb rfl)<|zf<|zd<|zE ?_
    have hv9:(Po.cl (Po.vals l1))=A.take j:=by rw [Po.cl_take (by rw [Po.vals_len];exact hn1) hT (Po.tn_no (hAv ▸ Po.hz_no hz)),hAv]
    exact zw Tryz.results31 (pR,j) trivial (zo rfl) (by rw [hv9,List.length_take,Nat.min_eq_left om]) (ho:=(.n:PickO _ _ _)) ((.e (j:=0) rfl (by rw [hv9]) .n):SelR _ _ _)
end Go.Proofs.YtbiaimgafknkmaaGreat.Sp
namespace Go.Proofs.YtbiaimgafknkmaaGreat.Sp
open Go
set_option linter.unusedVariables false
set_option maxRecDepth 100000
set_option maxHeartbeats 8000000
theorem zxd {p1:Option Addr} {n1:Nat} {c1:Nat} {l1:List (Option Rat)} {i:Nat} (hn1:l1.length=n1) (hm1:n1≤1000) (hi:i≤3000):Con yd 82 [.slice p1 n1 c1,.int .i64 ((i:Nat):Int)] [] [slF rE p1 c1 l1] (Y:=Wd×Wd×Bool) (fun y=>True) (fun y=> .agg #[y.1.b,y.1.l,y.2.1.b,y.2.1.l]) (fun y=>[]) (fun y=>[qF y.2.2 y.1 y.2.1 ((l1.getD i none).getD 0)]):=by
 refine zl Tryz.func82 rfl rfl rfl (fun c=> ?_)
 show RunC _ _ _ _ _ [(0,.slice p1 n1 c1),(1,.int .i64 ((i:Nat):Int))] [] [slF rE p1 c1 l1]
 refine zP 0 rfl (fun hL0=> ?_)
 refine ze<|za<|zH rfl rfl (zq zr28 rfl) (fun b1=> ?_)
 refine zf<|zd<|ze<|ze<|za<|e_mv rfl<|e_mv rfl<|e_p (zD ya rfl)<|e_p (zY rfl rfl)<|zf<|zd<|zC rfl (fun hlt=> ?_) (fun hlt=> ?_)
 ·
  refine ze<|za<|e_mv rfl<|e_mv rfl<|r_vl rfl rfl (zja (x0:=(l1.getD i (none:Option Rat))) 0 i rfl ya sz28 rfl (by first|rfl|assumption|(simp;done)|omega) rfl rfl (gD (d:=(none:Option Rat)) om)) ?_
  rintro ⟨b2,o3,w4,w5⟩ -
  dsimp only [aq,nq,cq]
  refine zha open_rE<|e_ru (zO (j:=0) 0 ty28 rfl rfl rfl (.t4 .nil))<|zi 0 rfl rfl rfl rfl rfl sz28 rfl (.t4 .nil) .z<|zf<|zd<|zE<|zp ?_
  exact zw Tryz.results82 (w4,w5,((l1.getD i none).isSome)) trivial (zn 0 ty28 rfl rfl (.t4 .nil)) rfl (ho:=(.n:PickO _ _ _)) ((.c (j:=1) rfl .n):SelR _ _ _)
 ·
  refine zB<|zd<|ze<|za<|zk rfl rfl (.n) ce50 (zMb) (.n) ?_
  rintro ⟨w36,w47⟩ -
  dsimp only [aq,nq,cq]
  refine zi 0 rfl rfl rfl rfl rfl sz28 rfl (.t4 .nil) .z<|zf<|zd<|zE ?_
  exact zw Tryz.results82 (w36,w47,true) trivial (zn 0 ty28 rfl rfl (.t4 .nil)) rfl (ho:=(.n:PickO _ _ _)) ((.e (j:=0) rfl (by rw [Po.at_end om]) .n):SelR _ _ _)
theorem zRe {p1:Option Addr} {n1:Nat} {c1:Nat} {l1:List (Option Rat)} {p2:Option Addr} {n2:Nat} {c2:Nat} {l2:List (Option Rat)} (hn1:l1.length=n1) (hm1:n1≤1000) (hn2:l2.length=n2) (hm2:n2≤1000) (hb:∀i,ye ((l1.getD i none).getD 0)+ye ((l2.getD i none).getD 0)+1≤1099511627776):Con yd 46 [.slice p1 n1 c1,.slice p2 n2 c2,.func (.func 47) #[] #[]] [] [slF rE p1 c1 l1,slF rE p2 c2 l2] (Y:=(Option Addr)×Nat) (fun y=>True) (fun y=> .slice (y.1) ((Po.add (Po.vals l1) (Po.vals l2)).length) (y.2)) (fun y=>[]) (fun y=>[slF rQ (y.1) (y.2) (Po.add (Po.vals l1) (Po.vals l2))]):=by
 refine zl Tryz.func46 rfl rfl rfl (fun c=> ?_)
 show RunC _ _ _ _ _ [(0,.slice p1 n1 c1),(1,.slice p2 n2 c2),(2,.func (.func 47) #[] #[])] [] [slF rE p1 c1 l1,slF rE p2 c2 l2]
 refine zP 0 rfl (fun hL0=> ?_)
 refine zP 1 rfl (fun hL1=> ?_)
 refine ze<|za<|e_p (zb rfl)<|zf<|zd<|ze<|za<|e_mv rfl<|e_p (zD ya rfl)<|e_mv rfl<|e_p (zD ya rfl)<|e_p (v:= .int .i64 (((max n1 n2):Nat):Int)) (by rw [show ((((max n1 n2):Nat):Int):Int)=max ((n1:Nat):Int) ((n2:Nat):Int) by omega];exact zpe rfl rfl) ?_
 have e1:((((max n1 n2):Nat):Int):Int)=(((max n1 n2):Nat):Int):=by omega
 rw [e1]
 refine zqa rfl rfl (zab (r:=rE) (k:=(max n1 n2)) (x0:=none) (γ0:=(wz,wz)) yb inf28 rfl rfl rfl rfl om om rfl (fun g _=>eF_wz g) dd) (fun b2 _=> ?_)
 refine e_p (zb rfl)<|zf<|zd<|ze<|ze<|za<|e_mv rfl<|e_p (zD yb rfl)<|e_mv rfl<|zf<|zd<|zv<|zfa (X:=Nat×(List (Option Rat))) (fun x:Nat×(List (Option Rat))=>x.1≤max n1 n2∧x.2.length=max n1 n2∧∀j,j<x.1→x.2.getD j none=some (((l1.getD j none).getD 0)+((l2.getD j none).getD 0))) (fun x=>[(17,.int .i64 ((x.1:Nat):Int)),(16,.int .i64 (((max n1 n2):Nat):Int)),(7,.slice (some ⟨b2,0,none⟩) (max n1 n2) (max n1 n2)),(6,.slice none 0 0),(0,.slice p1 n1 c1),(1,.slice p2 n2 c2),(2,.func (.func 47) #[] #[])]) (fun x=>[rowA 28 rE (some ⟨b2,0,none⟩) (max n1 n2) (x.2)]) (fun x=>[slF rE p1 c1 l1,slF rE p2 c2 l2]) (fun x:Nat×(List (Option Rat))=>max n1 n2 - x.1) (0,List.replicate (max n1 n2) none) (show 0≤max n1 n2∧(List.replicate (max n1 n2) none).length=max n1 n2∧∀j,j<0→(List.replicate (max n1 n2) none).getD j none=some (((l1.getD j none).getD 0)+((l2.getD j none).getD 0)) from by exact ⟨Nat.zero_le _,List.length_replicate,fun j hj=>by omega⟩) ((.e rfl (by first|rfl|(congr 1;omega)|simp_all) (.of rfl)):SubM _ _) (ho:=((.e (i:=0) rfl (by first|rfl|(congr 1;omega)|simp_all) .n):PickO _ _ _)) ((.of [0,1] rfl):SelR _ _ _) ?_
 rintro ⟨i,A⟩ hI
 replace hI:i≤max n1 n2∧A.length=max n1 n2∧∀j,j<i→A.getD j none=some (((l1.getD j none).getD 0)+((l2.getD j none).getD 0)):=hI
 try dsimp only
 obtain ⟨hi,hAl,hA⟩:=hI
 refine ze<|za<|e_p (zY rfl rfl)<|zf<|zd<|ze<|zC rfl (fun h3=> ?_) (fun h3=> ?_)
 ·
  refine zB<|zd<|ze<|zv<|ze<|za<|e_mv rfl<|e_p (zb rfl)<|zf<|zd<|za<|e_mv rfl<|e_mv rfl<|e_mv rfl<|e_mv rfl<|e_mv rfl<|zk rfl rfl (.c rfl (.c rfl .n)) ce82 (zxd (p1:=p1) (n1:=n1) (c1:=c1) (l1:=l1) (i:=i) (hn1:=ass) (hm1:=ass) (hi:=by first|rfl|assumption|exact hb _|omega)) (.c (j:=0) rfl .n) ?_
  rintro ⟨w34,w45,k96⟩ -
  dsimp only [aq,nq,cq]
  refine e_mv rfl<|e_mv rfl<|zk rfl rfl (.c rfl (.c rfl .n)) ce82 (zxd (p1:=p2) (n1:=n2) (c1:=c2) (l1:=l2) (i:=i) (hn1:=ass) (hm1:=ass) (hi:=by first|rfl|assumption|exact hb _|omega)) (.c (j:=2) rfl .n) ?_
  rintro ⟨w37,w48,k99⟩ -
  dsimp only [aq,nq,cq]
  refine zgd (first:=[]) (cap:=[]) rfl rfl rfl (.c rfl (.c rfl .n)) ce47 (zSb (k1:=k96) (u1:=w34) (v1:=w45) (q1:=((l1.getD i none).getD 0)) (k2:=k99) (u2:=w37) (v2:=w48) (q2:=((l2.getD i none).getD 0)) (hl:=by first|rfl|assumption|exact hb _|omega)) (.c (j:=1) rfl (.c (j:=0) rfl .n)) ?_
  rintro ⟨w310,w411⟩ -
  dsimp only [aq,nq,cq]
  refine e_p (zga (j:=i) yb sz28 rfl rfl rfl om)<|zya 0 rfl rfl rfl (zR (r:=rE) (j:=i) (x0:=(some (((l1.getD i none).getD 0)+((l2.getD i none).getD 0)))) (γ0:=(w310,w411)) rfl rfl (by first|omega|(rw [List.length_map];omega)|(simp only [List.length_set];omega)|(simp;done)|(simp;omega)) rfl rfl sz28 (fun g hr=>qF_e (Holds.get 0 rfl hr))) (fun _=> .z) (fun _ _=> ?_)
  refine zf<|zL<|zd<|za<|e_p (zJ (z:=(((i+1):Nat):Int)) rfl rfl (w64 om))<|e_mv rfl<|zf<|zT ((i+1),(A.set i (some (((l1.getD i none).getD 0)+((l2.getD i none).getD 0))))) (show (i+1)≤max n1 n2∧(A.set i (some (((l1.getD i none).getD 0)+((l2.getD i none).getD 0)))).length=max n1 n2∧∀j,j<(i+1)→(A.set i (some (((l1.getD i none).getD 0)+((l2.getD i none).getD 0)))).getD j none=some (((l1.getD j none).getD 0)+((l2.getD j none).getD 0)) from by exact ⟨by omega,by rw [List.length_set];exact hAl,Po.set_step hA om rfl⟩) (by show max n1 n2 - (i+1)<max n1 n2 - i;omega) ((.of rfl):SubM _ _) (ho:=((.c (i:=0) rfl .n):PickO _ _ _)) ((.of [3,4] rfl):SelR _ _ _)
 ·
  refine zca<|zh<|zh<|zt<|zd<|ze<|za<|e_mv rfl<|zV 0 rfl .z<|zk rfl rfl (.c rfl .n) ce31 (zFa (p1:=some ⟨b2,0,none⟩) (n1:=(max n1 n2)) (c1:=(max n1 n2)) (l1:=A) (hn1:=by first|rfl|assumption|exact hb _|omega) (hm1:=by first|rfl|assumption|exact hb _|omega)) (.c (j:=0) rfl .n) ?_
  rintro ⟨p912,c913⟩ -
  dsimp only [aq,nq,cq]
  refine e_p (zb rfl)<|zf<|zd<|zE ?_
  have hv9:=Po.vals_add (l:=l1) (m:=l2) (n:=max n1 n2) (by rw [hn1,hn2]) hAl (fun j hj=>hA j om)
  exact zw Tryz.results46 (p912,c913) trivial (zo rfl) (by rw [hv9]) (ho:=(.n:PickO _ _ _)) ((.e (j:=0) rfl (by rw [hv9]) .n):SelR _ _ _)
theorem zSe {p1:Option Addr} {n1:Nat} {c1:Nat} {l1:List (Option Rat)} {p2:Option Addr} {n2:Nat} {c2:Nat} {l2:List (Option Rat)} (hn1:l1.length=n1) (hm1:n1≤1000) (hn2:l2.length=n2) (hm2:n2≤1000) (hb:∀i,ye ((l1.getD i none).getD 0)+ye ((l2.getD i none).getD 0)+1≤1099511627776):Con yd 46 [.slice p1 n1 c1,.slice p2 n2 c2,.func (.func 49) #[] #[]] [] [slF rE p1 c1 l1,slF rE p2 c2 l2] (Y:=(Option Addr)×Nat) (fun y=>True) (fun y=> .slice (y.1) ((Po.sub (Po.vals l1) (Po.vals l2)).length) (y.2)) (fun y=>[]) (fun y=>[slF rQ (y.1) (y.2) (Po.sub (Po.vals l1) (Po.vals l2))]):=by
 refine zl Tryz.func46 rfl rfl rfl (fun c=> ?_)
 show RunC _ _ _ _ _ [(0,.slice p1 n1 c1),(1,.slice p2 n2 c2),(2,.func (.func 49) #[] #[])] [] [slF rE p1 c1 l1,slF rE p2 c2 l2]
 refine zP 0 rfl (fun hL0=> ?_)
 refine zP 1 rfl (fun hL1=> ?_)
 refine ze<|za<|e_p (zb rfl)<|zf<|zd<|ze<|za<|e_mv rfl<|e_p (zD ya rfl)<|e_mv rfl<|e_p (zD ya rfl)<|e_p (v:= .int .i64 (((max n1 n2):Nat):Int)) (by rw [show ((((max n1 n2):Nat):Int):Int)=max ((n1:Nat):Int) ((n2:Nat):Int) by omega];exact zpe rfl rfl) ?_
 have e1:((((max n1 n2):Nat):Int):Int)=(((max n1 n2):Nat):Int):=by omega
 rw [e1]
 refine zqa rfl rfl (zab (r:=rE) (k:=(max n1 n2)) (x0:=none) (γ0:=(wz,wz)) yb inf28 rfl rfl rfl rfl om om rfl (fun g _=>eF_wz g) dd) (fun b2 _=> ?_)
 refine e_p (zb rfl)<|zf<|zd<|ze<|ze<|za<|e_mv rfl<|e_p (zD yb rfl)<|e_mv rfl<|zf<|zd<|zv<|zfa (X:=Nat×(List (Option Rat))) (fun x:Nat×(List (Option Rat))=>x.1≤max n1 n2∧x.2.length=max n1 n2∧∀j,j<x.1→x.2.getD j none=some (((l1.getD j none).getD 0) - ((l2.getD j none).getD 0))) (fun x=>[(17,.int .i64 ((x.1:Nat):Int)),(16,.int .i64 (((max n1 n2):Nat):Int)),(7,.slice (some ⟨b2,0,none⟩) (max n1 n2) (max n1 n2)),(6,.slice none 0 0),(0,.slice p1 n1 c1),(1,.slice p2 n2 c2),(2,.func (.func 49) #[] #[])]) (fun x=>[rowA 28 rE (some ⟨b2,0,none⟩) (max n1 n2) (x.2)]) (fun x=>[slF rE p1 c1 l1,slF rE p2 c2 l2]) (fun x:Nat×(List (Option Rat))=>max n1 n2 - x.1) (0,List.replicate (max n1 n2) none) (show 0≤max n1 n2∧(List.replicate (max n1 n2) none).length=max n1 n2∧∀j,j<0→(List.replicate (max n1 n2) none).getD j none=some (((l1.getD j none).getD 0) - ((l2.getD j none).getD 0)) from by exact ⟨Nat.zero_le _,List.length_replicate,fun j hj=>by omega⟩) ((.e rfl (by first|rfl|(congr 1;omega)|simp_all) (.of rfl)):SubM _ _) (ho:=((.e (i:=0) rfl (by first|rfl|(congr 1;omega)|simp_all) .n):PickO _ _ _)) ((.of [0,1] rfl):SelR _ _ _) ?_
 rintro ⟨i,A⟩ hI
 replace hI:i≤max n1 n2∧A.length=max n1 n2∧∀j,j<i→A.getD j none=some (((l1.getD j none).getD 0) - ((l2.getD j none).getD 0)):=hI
 try dsimp only
 obtain ⟨hi,hAl,hA⟩:=hI
 refine ze<|za<|e_p (zY rfl rfl)<|zf<|zd<|ze<|zC rfl (fun h3=> ?_) (fun h3=> ?_)
 ·
  refine zB<|zd<|ze<|zv<|ze<|za<|e_mv rfl<|e_p (zb rfl)<|zf<|zd<|za<|e_mv rfl<|e_mv rfl<|e_mv rfl<|e_mv rfl<|e_mv rfl<|zk rfl rfl (.c rfl (.c rfl .n)) ce82 (zxd (p1:=p1) (n1:=n1) (c1:=c1) (l1:=l1) (i:=i) (hn1:=ass) (hm1:=ass) (hi:=by first|rfl|assumption|exact hb _|omega)) (.c (j:=0) rfl .n) ?_
  rintro ⟨w34,w45,k96⟩ -
  dsimp only [aq,nq,cq]
  refine e_mv rfl<|e_mv rfl<|zk rfl rfl (.c rfl (.c rfl .n)) ce82 (zxd (p1:=p2) (n1:=n2) (c1:=c2) (l1:=l2) (i:=i) (hn1:=ass) (hm1:=ass) (hi:=by first|rfl|assumption|exact hb _|omega)) (.c (j:=2) rfl .n) ?_
  rintro ⟨w37,w48,k99⟩ -
  dsimp only [aq,nq,cq]
  refine zgd (first:=[]) (cap:=[]) rfl rfl rfl (.c rfl (.c rfl .n)) ce49 (zRf (k1:=k96) (u1:=w34) (v1:=w45) (q1:=((l1.getD i none).getD 0)) (k2:=k99) (u2:=w37) (v2:=w48) (q2:=((l2.getD i none).getD 0)) (hl:=by first|rfl|assumption|exact hb _|omega)) (.c (j:=1) rfl (.c (j:=0) rfl .n)) ?_
  rintro ⟨w310,w411⟩ -
  dsimp only [aq,nq,cq]
  refine e_p (zga (j:=i) yb sz28 rfl rfl rfl om)<|zya 0 rfl rfl rfl (zR (r:=rE) (j:=i) (x0:=(some (((l1.getD i none).getD 0) - ((l2.getD i none).getD 0)))) (γ0:=(w310,w411)) rfl rfl (by first|omega|(rw [List.length_map];omega)|(simp only [List.length_set];omega)|(simp;done)|(simp;omega)) rfl rfl sz28 (fun g hr=>qF_e (Holds.get 0 rfl hr))) (fun _=> .z) (fun _ _=> ?_)
  refine zf<|zL<|zd<|za<|e_p (zJ (z:=(((i+1):Nat):Int)) rfl rfl (w64 om))<|e_mv rfl<|zf<|zT ((i+1),(A.set i (some (((l1.getD i none).getD 0) - ((l2.getD i none).getD 0))))) (show (i+1)≤max n1 n2∧(A.set i (some (((l1.getD i none).getD 0) - ((l2.getD i none).getD 0)))).length=max n1 n2∧∀j,j<(i+1)→(A.set i (some (((l1.getD i none).getD 0) - ((l2.getD i none).getD 0)))).getD j none=some (((l1.getD j none).getD 0) - ((l2.getD j none).getD 0)) from by exact ⟨by omega,by rw [List.length_set];exact hAl,Po.set_step hA om rfl⟩) (by show max n1 n2 - (i+1)<max n1 n2 - i;omega) ((.of rfl):SubM _ _) (ho:=((.c (i:=0) rfl .n):PickO _ _ _)) ((.of [3,4] rfl):SelR _ _ _)
 ·
  refine zca<|zh<|zh<|zt<|zd<|ze<|za<|e_mv rfl<|zV 0 rfl .z<|zk rfl rfl (.c rfl .n) ce31 (zFa (p1:=some ⟨b2,0,none⟩) (n1:=(max n1 n2)) (c1:=(max n1 n2)) (l1:=A) (hn1:=by first|rfl|assumption|exact hb _|omega) (hm1:=by first|rfl|assumption|exact hb _|omega)) (.c (j:=0) rfl .n) ?_
  rintro ⟨p912,c913⟩ -
  dsimp only [aq,nq,cq]
  refine e_p (zb rfl)<|zf<|zd<|zE ?_
  have hv9:=Po.vals_sub (l:=l1) (m:=l2) (n:=max n1 n2) (by rw [hn1,hn2]) hAl (fun j hj=>hA j om)
  exact zw Tryz.results46 (p912,c913) trivial (zo rfl) (by rw [hv9]) (ho:=(.n:PickO _ _ _)) ((.e (j:=0) rfl (by rw [hv9]) .n):SelR _ _ _)
theorem zUf {p1:Option Addr} {n1:Nat} {c1:Nat} {l1:List (Option Rat)} {p2:Option Addr} {n2:Nat} {c2:Nat} {l2:List (Option Rat)} (hn1:l1.length=n1) (hm1:n1≤1000) (hn2:l2.length=n2) (hm2:n2≤1000) (hb:∀i,ye ((l1.getD i none).getD 0)+ye ((l2.getD i none).getD 0)+1≤1099511627776):Con yd 13 [.slice p1 n1 c1,.slice p2 n2 c2] [] [slF rE p1 c1 l1,slF rE p2 c2 l2] (Y:=(Option Addr)×Nat) (fun y=>True) (fun y=> .slice (y.1) ((Po.add (Po.vals l1) (Po.vals l2)).length) (y.2)) (fun y=>[]) (fun y=>[slF rQ (y.1) (y.2) (Po.add (Po.vals l1) (Po.vals l2))]):=by
 refine zl Tryz.func13 rfl rfl rfl (fun c=> ?_)
 show RunC _ _ _ _ _ [(0,.slice p1 n1 c1),(1,.slice p2 n2 c2)] [] [slF rE p1 c1 l1,slF rE p2 c2 l2]
 refine zP 0 rfl (fun hL0=> ?_)
 refine zP 1 rfl (fun hL1=> ?_)
 refine ze<|za<|e_p (zb rfl)<|zf<|zd<|ze<|za<|e_mv rfl<|e_mv rfl<|zk rfl rfl (.c rfl (.c rfl (.c rfl .n))) ce46 (zRe (p1:=p1) (n1:=n1) (c1:=c1) (l1:=l1) (p2:=p2) (n2:=n2) (c2:=c2) (l2:=l2) (hn1:=ass) (hm1:=ass) (hn2:=ass) (hm2:=ass) (hb:=ass)) (.c (j:=0) rfl (.c (j:=1) rfl .n)) ?_
 rintro ⟨p91,c92⟩ -
 dsimp only [aq,nq,cq]
 refine e_p (zb rfl)<|zf<|zd<|zE ?_
 exact zw Tryz.results13 (p91,c92) trivial (zo rfl) rfl (ho:=(.n:PickO _ _ _)) ((.c (j:=0) rfl .n):SelR _ _ _)
theorem zVf {p1:Option Addr} {n1:Nat} {c1:Nat} {l1:List (Option Rat)} {p2:Option Addr} {n2:Nat} {c2:Nat} {l2:List (Option Rat)} (hn1:l1.length=n1) (hm1:n1≤1000) (hn2:l2.length=n2) (hm2:n2≤1000) (hb:∀i,ye ((l1.getD i none).getD 0)+ye ((l2.getD i none).getD 0)+1≤1099511627776):Con yd 15 [.slice p1 n1 c1,.slice p2 n2 c2] [] [slF rE p1 c1 l1,slF rE p2 c2 l2] (Y:=(Option Addr)×Nat) (fun y=>True) (fun y=> .slice (y.1) ((Po.sub (Po.vals l1) (Po.vals l2)).length) (y.2)) (fun y=>[]) (fun y=>[slF rQ (y.1) (y.2) (Po.sub (Po.vals l1) (Po.vals l2))]):=by
 refine zl Tryz.func15 rfl rfl rfl (fun c=> ?_)
 show RunC _ _ _ _ _ [(0,.slice p1 n1 c1),(1,.slice p2 n2 c2)] [] [slF rE p1 c1 l1,slF rE p2 c2 l2]
 refine zP 0 rfl (fun hL0=> ?_)
 refine zP 1 rfl (fun hL1=> ?_)
 refine ze<|za<|e_p (zb rfl)<|zf<|zd<|ze<|za<|e_mv rfl<|e_mv rfl<|zk rfl rfl (.c rfl (.c rfl (.c rfl .n))) ce46 (zSe (p1:=p1) (n1:=n1) (c1:=c1) (l1:=l1) (p2:=p2) (n2:=n2) (c2:=c2) (l2:=l2) (hn1:=ass) (hm1:=ass) (hn2:=ass) (hm2:=ass) (hb:=ass)) (.c (j:=0) rfl (.c (j:=1) rfl .n)) ?_
 rintro ⟨p91,c92⟩ -
 dsimp only [aq,nq,cq]
 refine e_p (zb rfl)<|zf<|zd<|zE ?_
 exact zw Tryz.results15 (p91,c92) trivial (zo rfl) rfl (ho:=(.n:PickO _ _ _)) ((.c (j:=0) rfl .n):SelR _ _ _)
end Go.Proofs.YtbiaimgafknkmaaGreat.Sp
namespace Go.Proofs.YtbiaimgafknkmaaGreat.Sp
open Go
set_option linter.unusedVariables false
set_option maxRecDepth 100000
set_option maxHeartbeats 8000000
theorem zyd {p1:Option Addr} {n1:Nat} {c1:Nat} {l1:List (Option Rat)} {p2:Option Addr} {n2:Nat} {c2:Nat} {l2:List (Option Rat)} (hn1:l1.length=n1) (hm1:n1≤1000) (hn2:l2.length=n2) (hm2:n2≤1000) (hm12:n1+n2≤1000) (hb1:∀i,ye ((Po.vals l1).getD i 0)≤200000000000) (hb2:∀i,ye ((Po.vals l2).getD i 0)≤200000000000) (hs:∀k lo n,lo+n≤k+1→ye (Po.cv (Po.cl (Po.vals l1)) (Po.cl (Po.vals l2)) k lo n)≤200000000000):Con yd 17 [.slice p1 n1 c1,.slice p2 n2 c2] [] [slF rE p1 c1 l1,slF rE p2 c2 l2] (Y:=(Option Addr)×Nat) (fun y=>True) (fun y=> .slice (y.1) ((Po.mul (Po.vals l1) (Po.vals l2)).length) (y.2)) (fun y=>[]) (fun y=>[slF rQ (y.1) (y.2) (Po.mul (Po.vals l1) (Po.vals l2))]):=by
 refine zl Tryz.func17 rfl rfl rfl (fun c=> ?_)
 show RunC _ _ _ _ _ [(0,.slice p1 n1 c1),(1,.slice p2 n2 c2)] [] [slF rE p1 c1 l1,slF rE p2 c2 l2]
 refine zP 0 rfl (fun hL0=> ?_)
 refine zP 1 rfl (fun hL1=> ?_)
 refine ze<|za<|e_p (zb rfl)<|zf<|zd<|ze<|za<|e_mv rfl<|zk rfl rfl (.c rfl .n) ce31 (zFa (p1:=p1) (n1:=n1) (c1:=c1) (l1:=l1) (hn1:=ass) (hm1:=ass)) (.c (j:=0) rfl .n) ?_
 rintro ⟨p91,c92⟩ -
 dsimp only [aq,nq,cq]
 refine e_mv rfl<|zk rfl rfl (.c rfl .n) ce31 (zFa (p1:=p2) (n1:=n2) (c1:=c2) (l1:=l2) (hn1:=ass) (hm1:=ass)) (.c (j:=2) rfl .n) ?_
 rintro ⟨p93,c94⟩ -
 dsimp only [aq,nq,cq]
 refine e_p (zb rfl)<|e_p (zb rfl)<|zf<|zd<|ze ?_
 obtain ⟨P,hP⟩:∃z,z=(Po.cl (Po.vals l1)):=⟨_,rfl⟩
 have e5:(Po.cl (Po.vals l1):List Rat)=P:=by exact hP.symm
 rw [e5]
 obtain ⟨Q,hQ⟩:∃z,z=(Po.cl (Po.vals l2)):=⟨_,rfl⟩
 have e6:(Po.cl (Po.vals l2):List Rat)=Q:=by exact hQ.symm
 rw [e6]
 have hbP:∀i,ye (P.getD i 0)≤200000000000:=fun i=>by rw [hP,Po.cl_get];exact hb1 i
 have hbQ:∀i,ye (Q.getD i 0)≤200000000000:=fun i=>by rw [hQ,Po.cl_get];exact hb2 i
 have hsP:∀k lo n,lo+n≤k+1→ye (Po.cv P Q k lo n)≤200000000000:=by rw [hP,hQ];exact hs
 have hPl:P.length≤n1:=by rw [hP,←hn1,←Po.vals_len l1];exact Po.cl_le_len _
 have hQl:Q.length≤n2:=by rw [hQ,←hn2,←Po.vals_len l2];exact Po.cl_le_len _
 refine zQa (X:=Unit) (fun x=>True) (fun x=>[(20,.bool (decide (((((P).length:Nat):Int)=0)∨((((Q).length:Nat):Int)=0)))),(1,.slice p93 ((Q).length) c94),(0,.slice p91 ((P).length) c92),(4,.slice none 0 0)]) (fun x=>[]) (fun x=>[slF rQ p93 c94 Q,slF rQ p91 c92 P,slF rE p1 c1 l1,slF rE p2 c2 l2]) ?_ ?_
 ·
  refine za<|e_mv rfl<|e_p (zD ya rfl)<|e_p (zna rfl rfl)<|zS rfl rfl (zaa rfl) (fun g1=> ?_) (fun g1=> ?_)
  ·
   refine e_no<|e_no<|e_no<|e_p (zy rfl rfl)<|zf ?_
   exact zka () (show True from by first|trivial|omega|simp_all) ((.e rfl (congrArg Value.bool (by first|(exact (decide_eq_true (Or.inl g1)).symm)|exact decide_eq_decide.2 ⟨fun k=>Or.inr k,fun k=>k.elim (fun e=>absurd e g1) _root_.id⟩)) (.of rfl)):SubM _ _) (ho:=(.n:PickO _ _ _)) ((.of [0,1,2,3] rfl):SelR _ _ _)
  ·
   refine e_mv rfl<|e_p (zD ya rfl)<|e_p (zna rfl rfl)<|e_p (zy rfl rfl)<|zf ?_
   exact zka () (show True from by first|trivial|omega|simp_all) ((.e rfl (congrArg Value.bool (by first|(exact (decide_eq_true (Or.inl g1)).symm)|exact decide_eq_decide.2 ⟨fun k=>Or.inr k,fun k=>k.elim (fun e=>absurd e g1) _root_.id⟩)) (.of rfl)):SubM _ _) (ho:=(.n:PickO _ _ _)) ((.of [0,1,2,3] rfl):SelR _ _ _)
 ·
  rintro ⟨⟩ -
  try dsimp only
  refine zC rfl (fun h20=> ?_) (fun h20=> ?_)
  ·
   refine ze<|za<|e_p (zb rfl)<|zf<|zd<|zE<|zp<|zFb rQ ?_
   have hv9:(Po.mul (Po.vals l1) (Po.vals l2))=[]:=Po.mul_none hP hQ om
   exact zw Tryz.results17 (none,0) trivial (zo rfl) (by rw [hv9];rfl) (ho:=(.n:PickO _ _ _)) ((.e (j:=0) rfl (by rw [hv9]) .n):SelR _ _ _)
  ·
   have hPQ:0<P.length∧0<Q.length:=by omega
   refine zB<|zd<|ze<|za<|e_mv rfl<|e_p (zD ya rfl)<|e_mv rfl<|e_p (zD ya rfl)<|e_p (zJ (z:=(((((P).length)+((Q).length)):Nat):Int)) rfl rfl (w64 om))<|e_p (zZ (z:=((((((P).length)+((Q).length)):Nat):Int) - 1)) rfl rfl (w64 om)) ?_
   have e7:(((((((P).length)+((Q).length)):Nat):Int) - 1):Int)=(((P.length+Q.length - 1):Nat):Int):=by omega
   rw [e7]
   refine zqa rfl rfl (zab (r:=rE) (k:=(P.length+Q.length - 1)) (x0:=none) (γ0:=(wz,wz)) yb inf28 rfl rfl rfl rfl om om rfl (fun g _=>eF_wz g) dd) (fun b8 _=> ?_)
   refine e_p (zb rfl)<|zf<|zd<|ze<|ze<|za<|e_mv rfl<|e_p (zD yb rfl)<|e_mv rfl<|zf<|zd<|zv<|zfa (X:=Nat×(List (Option Rat))) (fun x:Nat×(List (Option Rat))=>x.1≤P.length+Q.length - 1∧x.2.length=P.length+Q.length - 1∧∀j,j<x.1→x.2.getD j none=some (Po.pc P Q j)) (fun x=>[(30,.int .i64 ((x.1:Nat):Int)),(29,.int .i64 (((P.length+Q.length - 1):Nat):Int)),(5,.slice (some ⟨b8,0,none⟩) (P.length+Q.length - 1) (P.length+Q.length - 1)),(1,.slice p93 ((Q).length) c94),(0,.slice p91 ((P).length) c92),(4,.slice none 0 0)]) (fun x=>[rowA 28 rE (some ⟨b8,0,none⟩) (P.length+Q.length - 1) (x.2)]) (fun x=>[slF rQ p93 c94 Q,slF rQ p91 c92 P,slF rE p1 c1 l1,slF rE p2 c2 l2]) (fun x:Nat×(List (Option Rat))=>P.length+Q.length - 1 - x.1) (0,List.replicate (P.length+Q.length - 1) none) (show 0≤P.length+Q.length - 1∧(List.replicate (P.length+Q.length - 1) none).length=P.length+Q.length - 1∧∀j,j<0→(List.replicate (P.length+Q.length - 1) none).getD j none=some (Po.pc P Q j) from by exact ⟨Nat.zero_le _,List.length_replicate,fun j hj=>by omega⟩) ((.e rfl (by first|rfl|(congr 1;omega)|simp_all) (.of rfl)):SubM _ _) (ho:=((.e (i:=0) rfl (by first|rfl|(congr 1;omega)|simp_all) .n):PickO _ _ _)) ((.of [0,1,2,3] rfl):SelR _ _ _) ?_
   rintro ⟨k,A⟩ hI
   replace hI:k≤P.length+Q.length - 1∧A.length=P.length+Q.length - 1∧∀j,j<k→A.getD j none=some (Po.pc P Q j):=hI
   try dsimp only
   obtain ⟨hk,hAl,hA⟩:=hI
   refine ze<|za<|e_p (zY rfl rfl)<|zf<|zd<|ze<|zC rfl (fun h9=> ?_) (fun h9=> ?_)
   ·
    refine zB<|zd<|ze<|zv<|ze<|za<|e_mv rfl<|e_p (zb rfl)<|zf<|zd<|ze<|za<|zk rfl rfl (.n) ce50 (zMb) (.n) ?_
    rintro ⟨w310,w411⟩ -
    dsimp only [aq,nq,cq]
    refine zH rfl rfl (zq zr28 rfl) (fun b12=> ?_)
    refine zi 0 rfl rfl rfl rfl rfl sz28 rfl (.t4 .nil) .z<|zf<|zd<|ze<|ze<|za<|e_mv rfl<|e_mv rfl<|e_p (zD ya rfl)<|e_p (zZ (z:=(((k:Nat):Int) - (((Q).length:Nat):Int))) rfl rfl (w64 om))<|e_p (zJ (z:=((((k:Nat):Int) - (((Q).length:Nat):Int))+1)) rfl rfl (w64 om))<|e_p (zpe rfl rfl) ?_
    have e13:((max 0 ((((k:Nat):Int) - (((Q).length:Nat):Int))+1)):Int)=(((k+1 - Q.length):Nat):Int):=by omega
    rw [e13]
    refine e_p (zb rfl)<|zf<|zd<|zv<|zfa (X:=Nat×Wd×Wd) (fun x:Nat×Wd×Wd=>(k+1 - Q.length)≤x.1∧x.1≤max (k+1 - Q.length) (min k (P.length - 1)+1)) (fun x=>[(8,.int .i64 ((x.1:Nat):Int)),(7,.pointer (some ⟨b12,0,none⟩)),(6,.int .i64 ((k:Nat):Int)),(30,.int .i64 ((k:Nat):Int)),(29,.int .i64 (((P.length+Q.length - 1):Nat):Int)),(5,.slice (some ⟨b8,0,none⟩) (P.length+Q.length - 1) (P.length+Q.length - 1)),(1,.slice p93 ((Q).length) c94),(0,.slice p91 ((P).length) c92),(4,.slice none 0 0)]) (fun x=>[boxA b12 28 (cw [x.2.1,x.2.2]),rowA 28 rE (some ⟨b8,0,none⟩) (P.length+Q.length - 1) A]) (fun x=>[qF true x.2.1 x.2.2 (Po.cv P Q k (k+1 - Q.length) (x.1 - (k+1 - Q.length))),qF true w310 w411 ((0:Int):Rat),slF rQ p93 c94 Q,slF rQ p91 c92 P,slF rE p1 c1 l1,slF rE p2 c2 l2]) (fun x:Nat×Wd×Wd=>k+1 - x.1) ((k+1 - Q.length),w310,w411) (show (k+1 - Q.length)≤(k+1 - Q.length)∧(k+1 - Q.length)≤max (k+1 - Q.length) (min k (P.length - 1)+1) from by exact ⟨Nat.le_refl _,Nat.le_max_left _ _⟩) ((.of rfl):SubM _ _) (ho:=((.of [0,0] rfl):PickO _ _ _)) ((.e (j:=0) rfl (by rw [Nat.sub_self];rfl) (.of [0,1,2,3,4] rfl)):SelR _ _ _) ?_
    rintro ⟨i,su,sv⟩ hi
    replace hi:(k+1 - Q.length)≤i∧i≤max (k+1 - Q.length) (min k (P.length - 1)+1):=hi
    try dsimp only [cw]
    refine ze<|ze<|za<|e_mv rfl<|e_mv rfl<|e_mv rfl<|e_p (zD ya rfl)<|e_p (zZ (z:=((((P).length:Nat):Int) - 1)) rfl rfl (w64 om))<|e_p (pv_min rfl rfl)<|e_p (zqb rfl rfl)<|zf<|zd<|zC rfl (fun h14=> ?_) (fun h14=> ?_)
    ·
     refine zB<|zd<|ze<|zv<|zW (OW:=[boxA b12 28 (cw [su,sv])]) (O:=[rowA 28 rE (some ⟨b8,0,none⟩) (P.length+Q.length - 1) A]) 13 mixed (.block (.then (.then (.block (.then (.block (.then (.then (.block (.then .ret)))))))))) kr<|e_uw 0 rfl rfl (zc 0 ty28 rfl rfl (.t4 .nil))<|e_dm 1 rfl rfl rfl<|e_dm 2 rfl rfl rfl<|d_vl 3 rfl rfl kr kr rfl rfl (zja (x0:=((P).getD i (0:Rat))) 3 i rfl ya sz28 rfl (by first|rfl|assumption|(simp;done)|omega) rfl rfl (gD (d:=(0:Rat)) om)) ?_
     rintro ⟨b15,o16,w17,w18⟩ -
     dsimp only [aq,nq,cq]
     refine zTa open_rQ<|e_u 4 rfl rfl (zO (j:=0) 0 ty28 rfl rfl rfl (.t4 .nil))<|e_dm 5 rfl rfl rfl<|e_dm 6 rfl rfl rfl<|e_dm 7 rfl rfl rfl<|e_pv 8 rfl rfl (zZ (z:=(((k:Nat):Int) - ((i:Nat):Int))) rfl rfl (w64 om)) ?_
     have e19:((((k:Nat):Int) - ((i:Nat):Int)):Int)=(((k - i):Nat):Int):=by omega
     rw [e19]
     refine d_vl 9 rfl rfl kr kr rfl rfl (zja (x0:=((Q).getD (k - i) (0:Rat))) 4 (k - i) rfl ya sz28 rfl (by first|rfl|assumption|(simp;done)|omega) rfl rfl (gD (d:=(0:Rat)) om)) ?_
     rintro ⟨b20,o21,w22,w23⟩ -
     dsimp only [aq,nq,cq]
     refine zTa open_rQ<|e_u 10 rfl rfl (zO (j:=0) 0 ty28 rfl rfl rfl (.t4 .nil))<|e_one 11 (zu rfl rfl rfl rfl (.c rfl (.c rfl .n)) ce51 (zDc (k1:=true) (u1:=w17) (v1:=w18) (q1:=((P).getD i (0:Rat))) (k2:=true) (u2:=w22) (v2:=w23) (q2:=((Q).getD (k - i) (0:Rat))) (hl:=by have h1:=hbP i;have h2:=hbQ (k - i);omega)) (.c (j:=3) rfl (.c (j:=1) rfl .n)) ?_)
     rintro ⟨w324,w425⟩ -
     dsimp only [aq,nq,cq]
     refine e_one 12 (zu rfl rfl rfl rfl (.c rfl (.c rfl .n)) ce47 (zSb (k1:=true) (u1:=su) (v1:=sv) (q1:=(Po.cv P Q k (k+1 - Q.length) (i - (k+1 - Q.length)))) (k2:=true) (u2:=w324) (v2:=w425) (q2:=((P).getD i (0:Rat))*((Q).getD (k - i) (0:Rat))) (hl:=by have h1:=hsP k (k+1 - Q.length) (i - (k+1 - Q.length)) om;have h2:=hbP i;have h3:=hbQ (k - i);have h4:=Big.hq_mul (P.getD i 0) (Q.getD (k - i) 0);omega)) (.c (j:=5) rfl (.c (j:=0) rfl .n)) ?_)
     rintro ⟨w326,w427⟩ -
     dsimp only [aq,nq,cq]
     refine e_one 13 (zA kr rfl rfl rfl rfl rfl sz28 rfl (.t4 .nil) ?_)
     refine zU kr<|zL<|zd<|za<|e_mv rfl<|e_p (zJ (z:=(((i+1):Nat):Int)) rfl rfl (w64 om))<|e_p (zb rfl)<|zf<|zT ((i+1),w326,w427) (show (k+1 - Q.length)≤(i+1)∧(i+1)≤max (k+1 - Q.length) (min k (P.length - 1)+1) from by exact ⟨by omega,by omega⟩) (by show k+1 - (i+1)<k+1 - i;omega) ((.of rfl):SubM _ _) (ho:=((.of [0,0] rfl):PickO _ _ _)) ((.e (j:=0) rfl (by rw [Po.cv_step _ _ hi.1]) (.of [7,8,9,10,11] rfl)):SelR _ _ _)
    ·
     refine zca<|zh<|zh<|zt<|zd<|za<|e_mv rfl<|e_mv rfl<|e_ru (zc 0 ty28 rfl rfl (.t4 .nil))<|e_p (zga (j:=k) yb sz28 rfl rfl rfl om)<|zya 1 rfl rfl rfl (zR (r:=rE) (j:=k) (x0:=(some (Po.cv P Q k (k+1 - Q.length) (i - (k+1 - Q.length))))) (γ0:=(su,sv)) rfl rfl (by first|omega|(rw [List.length_map];omega)|(simp only [List.length_set];omega)|(simp;done)|(simp;omega)) rfl rfl sz28 (fun g hr=>qF_e (Holds.get 0 rfl hr))) (fun _=>(.s .z)) (fun _ _=> ?_)
     refine zf<|zL<|zd<|za<|e_p (zJ (z:=(((k+1):Nat):Int)) rfl rfl (w64 om))<|e_mv rfl<|zf<|zT ((k+1),(A.set k (some (Po.cv P Q k (k+1 - Q.length) (i - (k+1 - Q.length)))))) (show (k+1)≤P.length+Q.length - 1∧(A.set k (some (Po.cv P Q k (k+1 - Q.length) (i - (k+1 - Q.length))))).length=P.length+Q.length - 1∧∀j,j<(k+1)→(A.set k (some (Po.cv P Q k (k+1 - Q.length) (i - (k+1 - Q.length))))).getD j none=some (Po.pc P Q j) from by exact ⟨by omega,by rw [List.length_set];exact hAl,Po.set_step hA om (Po.pc_end hi.1 ass hi.2 hPQ.1)⟩) (by show P.length+Q.length - 1 - (k+1)<P.length+Q.length - 1 - k;omega) ((.of rfl):SubM _ _) (ho:=((.c (i:=1) rfl .n):PickO _ _ _)) ((.of [2,3,4,5] rfl):SelR _ _ _)
   ·
    refine zca<|zh<|zh<|zt<|zd<|ze<|za<|e_mv rfl<|zV 0 rfl .z<|zk rfl rfl (.c rfl .n) ce31 (zFa (p1:=some ⟨b8,0,none⟩) (n1:=(P.length+Q.length - 1)) (c1:=(P.length+Q.length - 1)) (l1:=A) (hn1:=cbo) (hm1:=cbo)) (.c (j:=0) rfl .n) ?_
    rintro ⟨p928,c929⟩ -
    dsimp only [aq,nq,cq]
    refine e_p (zb rfl)<|zf<|zd<|zE ?_
    have hv9:=Po.vals_mul hP hQ om rfl hAl (fun j hj=>hA j om)
    exact zw Tryz.results17 (p928,c929) trivial (zo rfl) (by rw [hv9]) (ho:=(.n:PickO _ _ _)) ((.e (j:=0) rfl (by rw [hv9]) .n):SelR _ _ _)
end Go.Proofs.YtbiaimgafknkmaaGreat.Sp
namespace Go.Proofs.YtbiaimgafknkmaaGreat.Sp
open Go
set_option linter.unusedVariables false
set_option maxRecDepth 100000
set_option maxHeartbeats 8000000
theorem zod {p1:Option Addr} {n1:Nat} {c1:Nat} {l1:List (Option Rat)} {u1:Wd} {v1:Wd} {x1:Option Rat} (hn1:l1.length=n1) (hm1:n1≤1000) (hm9:n1≤900) (hb1:∀i,ye ((Po.vals l1).getD i 0)≤200000000000) (hb2:∀i,ye ((Po.vals [x1]).getD i 0)≤200000000000) (hs:∀k lo n,lo+n≤k+1→ye (Po.cv (Po.cl (Po.vals l1)) (Po.cl (Po.vals [x1])) k lo n)≤200000000000):Con yd 19 [.slice p1 n1 c1,.agg #[u1.b,u1.l,v1.b,v1.l]] [] [slF rE p1 c1 l1,eF u1 v1 x1] (Y:=(Option Addr)×Nat) (fun y=>True) (fun y=> .slice (y.1) ((Po.mul (Po.vals l1) (Po.vals [x1])).length) (y.2)) (fun y=>[]) (fun y=>[slF rQ (y.1) (y.2) (Po.mul (Po.vals l1) (Po.vals [x1]))]):=by
 refine zl Tryz.func19 rfl rfl rfl (fun c=> ?_)
 show RunC _ _ _ _ _ [(0,.slice p1 n1 c1),(1,.agg #[u1.b,u1.l,v1.b,v1.l])] [] [slF rE p1 c1 l1,eF u1 v1 x1]
 refine zP 0 rfl (fun hL0=> ?_)
 refine ze<|za<|zH rfl rfl (zN rfl rfl) (fun b1=> ?_)
 refine e_p (zb rfl)<|zf<|zd<|ze<|za<|e_mv rfl<|e_ru (zc 0 ty28 rfl rfl (.t4 .nil))<|zqa rfl rfl (zoa (r:=rE) (k:=1) ya inf28 rfl dd dd dd (.c (x:=x1) (cs:=[u1.b,u1.l,v1.b,v1.l]) (u1,v1) rfl rfl rfl (fun g hr=>Holds.get 1 rfl hr) .n)) (fun b2 _=> ?_)
 refine zV 0 rfl .z<|zk rfl rfl (.c rfl (.c rfl .n)) ce17 (zyd (p1:=p1) (n1:=n1) (c1:=c1) (l1:=l1) (p2:=some ⟨b2,0,none⟩) (n2:=1) (c2:=1) (l2:=[x1]) (hn1:=ass) (hm1:=ass) (hn2:=cbo) (hm2:=cbo) (hm12:=cbo) (hb1:=ass) (hb2:=ass) (hs:=ass)) (.c (j:=1) rfl (.c (j:=0) rfl .n)) ?_
 rintro ⟨p93,c94⟩ -
 dsimp only [aq,nq,cq]
 refine e_p (zb rfl)<|zf<|zd<|zE ?_
 exact zw Tryz.results19 (p93,c94) trivial (zo rfl) rfl (ho:=(.n:PickO _ _ _)) ((.c (j:=0) rfl .n):SelR _ _ _)
theorem zRd {p1:Option Addr} {n1:Nat} {c1:Nat} {l1:List (Option Rat)} {u1:Wd} {v1:Wd} {x1:Option Rat} (hn1:l1.length=n1) (hm1:n1≤1000) (hx:ye (x1.getD 0)≤200000000000) (hb1:∀i,ye ((l1.getD i none).getD 0)≤200000000000) (hs:∀i,ye (Po.ev (x1.getD 0) ((Po.vals l1).drop i))≤200000000000):Con yd 21 [.slice p1 n1 c1,.agg #[u1.b,u1.l,v1.b,v1.l]] [] [slF rE p1 c1 l1,eF u1 v1 x1] (Y:=Wd×Wd) (fun y=>True) (fun y=> .agg #[y.1.b,y.1.l,y.2.b,y.2.l]) (fun y=>[]) (fun y=>[qF true y.1 y.2 (Po.ev (x1.getD 0) (Po.vals l1))]):=by
 refine zl Tryz.func21 rfl rfl rfl (fun c=> ?_)
 show RunC _ _ _ _ _ [(0,.slice p1 n1 c1),(1,.agg #[u1.b,u1.l,v1.b,v1.l])] [] [slF rE p1 c1 l1,eF u1 v1 x1]
 refine zP 0 rfl (fun hL0=> ?_)
 refine ze<|za<|zH rfl rfl (zN rfl rfl) (fun b1=> ?_)
 refine zH rfl rfl (zq zr28 rfl) (fun b2=> ?_)
 refine zf<|zd<|ze<|zJc (qF x1.isSome u1 v1 (x1.getD 0)) (eF_weak 1 rfl)<|za<|zk rfl rfl (.n) ce50 (zMb) (.n) ?_
 rintro ⟨w33,w44⟩ -
 dsimp only [aq,nq,cq]
 refine zH rfl rfl (zq zr28 rfl) (fun b5=> ?_)
 refine zi 0 rfl rfl rfl rfl rfl sz28 rfl (.t4 .nil) .z<|zf<|zd<|ze<|ze<|za<|e_mv rfl<|e_p (zD ya rfl)<|e_p (zZ (z:=(((n1:Nat):Int) - 1)) rfl rfl (w64 om))<|e_p (zb rfl)<|zf<|zd<|zv<|zfa (X:=Nat×Wd×Wd) (fun x:Nat×Wd×Wd=>x.1≤n1) (fun x=>[(6,.int .i64 (((x.1:Nat):Int) - 1)),(5,.pointer (some ⟨b5,0,none⟩)),(4,.pointer (some ⟨b2,0,none⟩)),(3,.pointer (some ⟨b1,0,none⟩)),(0,.slice p1 n1 c1)]) (fun x=>[boxA b5 28 (cw [x.2.1,x.2.2]),boxA b2 28 (cw [wz,wz]),boxA b1 28 (cw [u1,v1])]) (fun x=>[qF true x.2.1 x.2.2 (Po.ev (x1.getD 0) ((Po.vals l1).drop x.1)),qF true w33 w44 ((0:Int):Rat),qF x1.isSome u1 v1 (x1.getD 0),slF rE p1 c1 l1,eF u1 v1 x1]) (fun x:Nat×Wd×Wd=>x.1) (n1,w33,w44) (show n1≤n1 from by exact Nat.le_refl _) ((.of rfl):SubM _ _) (ho:=((.of [0,0,0] rfl):PickO _ _ _)) ((.e (j:=0) rfl (by rw [Po.ev_top hn1]) (.of [0,1,2,3] rfl)):SelR _ _ _) ?_
 rintro ⟨i,su,sv⟩ hI
 replace hI:i≤n1:=hI
 try dsimp only [cw]
 refine ze<|ze<|za<|e_mv rfl<|e_p (zWa rfl rfl)<|zf<|zd<|zC rfl (fun h12=> ?_) (fun h12=> ?_)
 ·
  refine zB<|zd<|ze<|zv<|zW (OW:=[boxA b5 28 (cw [su,sv])]) (O:=[boxA b2 28 (cw [wz,wz]),boxA b1 28 (cw [u1,v1])]) 8 mixed (.block (.then (.then (.block (.then .ret))))) kr<|e_uw 0 rfl rfl (zc 0 ty28 rfl rfl (.t4 .nil))<|e_uw 1 rfl rfl (zc 2 ty28 rfl rfl (.t4 .nil))<|e_dm 3 rfl rfl rfl<|e_dm 4 rfl rfl rfl ?_
  have e6:((((i:Nat):Int) - 1):Int)=(((i - 1):Nat):Int):=by omega
  rw [e6]
  refine d_vl 5 rfl rfl kr kr rfl rfl (zja (x0:=(l1.getD (i - 1) (none:Option Rat))) 3 (i - 1) rfl ya sz28 rfl (by first|rfl|assumption|(simp;done)|omega) rfl rfl (gD (d:=(none:Option Rat)) om)) ?_
  rintro ⟨b7,o8,w9,w10⟩ -
  dsimp only [aq,nq,cq]
  refine zTa open_rE<|e_u 6 rfl rfl (zO (j:=0) 0 ty28 rfl rfl rfl (.t4 .nil))<|e_one 2 (zu rfl rfl rfl rfl (.c rfl (.c rfl .n)) ce51 (zDc (k1:=true) (u1:=su) (v1:=sv) (q1:=(Po.ev (x1.getD 0) ((Po.vals l1).drop i))) (k2:=x1.isSome) (u2:=u1) (v2:=v1) (q2:=(x1.getD 0)) (hl:=by have h1:=hs i;omega)) (.c (j:=3) rfl (.c (j:=5) rfl .n)) ?_)
  rintro ⟨w311,w412⟩ -
  dsimp only [aq,nq,cq]
  refine e_one 7 (zu rfl rfl rfl rfl (.c rfl (.c rfl .n)) ce47 (zSb (k1:=true) (u1:=w311) (v1:=w412) (q1:=(Po.ev (x1.getD 0) ((Po.vals l1).drop i))*(x1.getD 0)) (k2:=(l1.getD (i - 1) (none:Option Rat)).isSome) (u2:=w9) (v2:=w10) (q2:=((l1.getD (i - 1) (none:Option Rat)).getD 0)) (hl:=by have h1:=hs i;have h2:=Big.hq_mul (Po.ev (x1.getD 0) ((Po.vals l1).drop i)) (x1.getD 0);have h3:=hb1 (i - 1);omega)) (.c (j:=0) rfl (.c (j:=2) rfl .n)) ?_)
  rintro ⟨w313,w414⟩ -
  dsimp only [aq,nq,cq]
  refine e_one 8 (zA kr rfl rfl rfl rfl rfl sz28 rfl (.t4 .nil) ?_)
  refine zU kr<|zL<|zd<|za<|e_mv rfl<|e_p (zZ (z:=((((i - 1):Nat):Int) - 1)) rfl rfl (w64 om))<|e_p (zb rfl)<|zf<|zT ((i - 1),w313,w414) (show (i - 1)≤n1 from by omega) om ((.e rfl (by first|rfl|(congr 1;done)|(congr 1;omega)) (.of rfl)):SubM _ _) (ho:=((.of [0,0,0] rfl):PickO _ _ _)) ((.e (j:=0) rfl (by rw [← Po.vals_get,Po.ev_step om (by rw [Po.vals_len];omega)]) (.of [6,7,8,9] rfl)):SelR _ _ _)
 ·
  refine zca<|zh<|zh<|zt<|zd<|ze<|za<|e_ru (zc 0 ty28 rfl rfl (.t4 .nil))<|zk rfl rfl (.c rfl .n) ce53 (zia (k1:=true) (u1:=su) (v1:=sv) (q1:=(Po.ev (x1.getD 0) ((Po.vals l1).drop i)))) (.c (j:=0) rfl .n) ?_
  rintro ⟨w315,w416⟩ -
  dsimp only [aq,nq,cq]
  refine zi 1 rfl rfl rfl rfl rfl sz28 rfl (.t4 .nil) (.s .z)<|zf<|zd<|zE ?_
  have hi0:i=0:=by omega
  have hv9:(Po.ev (x1.getD 0) ((Po.vals l1).drop i))=Po.ev (x1.getD 0) (Po.vals l1):=by rw [hi0];rfl
  exact zw Tryz.results21 (w315,w416) trivial (zn 1 ty28 rfl rfl (.t4 .nil)) rfl (ho:=(.n:PickO _ _ _)) ((.e (j:=0) rfl (by rw [← hv9]) .n):SelR _ _ _)
theorem zTc {p1:Option Addr} {n1:Nat} {c1:Nat} {l1:List (Option Rat)} (hn1:l1.length=n1) (hm1:n1≤1000) (hb1:∀i,ye ((l1.getD i none).getD 0)≤200000000000):Con yd 25 [.slice p1 n1 c1] [] [slF rE p1 c1 l1] (Y:=(Option Addr)×Nat) (fun y=>True) (fun y=> .slice (y.1) ((Po.der (Po.vals l1)).length) (y.2)) (fun y=>[]) (fun y=>[slF rQ (y.1) (y.2) (Po.der (Po.vals l1))]):=by
 refine zl Tryz.func25 rfl rfl rfl (fun c=> ?_)
 show RunC _ _ _ _ _ [(0,.slice p1 n1 c1)] [] [slF rE p1 c1 l1]
 refine zP 0 rfl (fun hL0=> ?_)
 refine ze<|za<|e_p (zb rfl)<|zf<|zd<|ze<|za<|e_p (zb rfl)<|zf<|zd<|ze<|ze<|zAc 28 rQ<|za<|e_p (zb rfl)<|zf<|zd<|zv<|zfa (X:=Nat×(Option Addr)×Nat×(List Rat)) (fun x:Nat×(Option Addr)×Nat×(List Rat)=>1≤x.1∧x.1≤max 1 n1∧x.2.2.2=Po.gen (Po.dg l1) (x.1 - 1)) (fun x=>[(3,.slice (x.2.1) (x.2.2.2.length) (x.2.2.1)),(4,.int .i64 ((x.1:Nat):Int)),(2,.slice none 0 0),(0,.slice p1 n1 c1)]) (fun x=>[rowA 28 rQ (x.2.1) (x.2.2.1) (x.2.2.2)]) (fun x=>[slF rE p1 c1 l1]) (fun x:Nat×(Option Addr)×Nat×(List Rat)=>n1 - x.1) (1,none,0,([]:List Rat)) (show 1≤1∧1≤max 1 n1∧([]:List Rat)=Po.gen (Po.dg l1) (1 - 1) from by exact ⟨by omega,by omega,rfl⟩) ((.e rfl (by first|rfl|(congr 1;omega)|simp_all) (.e rfl (by first|rfl|(congr 1;omega)|simp_all) (.c rfl (.c rfl .n)))):SubM _ _) (ho:=((.e (i:=0) rfl (by first|rfl|(congr 1;omega)|simp_all) .n):PickO _ _ _)) ((.c (j:=0) rfl .n):SelR _ _ _) ?_
 rintro ⟨i,pR,cR,A⟩ hI
 replace hI:1≤i∧i≤max 1 n1∧A=Po.gen (Po.dg l1) (i - 1):=hI
 try dsimp only
 obtain ⟨hi1,hi,hA⟩:=hI
 have hAl:A.length=i - 1:=by rw [hA,Po.gen_len]
 refine ze<|ze<|za<|e_mv rfl<|e_mv rfl<|e_p (zD ya rfl)<|e_p (zY rfl rfl)<|zf<|zd<|zC rfl (fun h1=> ?_) (fun h1=> ?_)
 ·
  refine zB<|zd<|ze<|zv<|zW (OW:=[rowA 28 rQ pR cR A]) (O:=[]) 9 mixed (.block (.then (.then (.block (.then .ret))))) kr<|e_dm 0 rfl rfl rfl<|e_dm 1 rfl rfl rfl<|e_dm 3 rfl rfl rfl<|e_dm 4 rfl rfl rfl<|d_vl 5 rfl rfl kr kr rfl rfl (zja (x0:=(l1.getD i (none:Option Rat))) 0 i rfl ya sz28 rfl (by first|rfl|assumption|(simp;done)|omega) rfl rfl (gD (d:=(none:Option Rat)) om)) ?_
  rintro ⟨b2,o3,w4,w5⟩ -
  dsimp only [aq,nq,cq]
  refine zTa open_rE<|e_u 6 rfl rfl (zO (j:=0) 0 ty28 rfl rfl rfl (.t4 .nil))<|e_one 2 (zu rfl rfl rfl rfl (.c rfl .n) ce59 (zmb (z:=((i:Nat):Int)) (hz:=cbo)) (.n) ?_)
  rintro ⟨w36,w47⟩ -
  dsimp only [aq,nq,cq]
  refine e_one 7 (zu rfl rfl rfl rfl (.c rfl (.c rfl .n)) ce51 (zDc (k1:=true) (u1:=w36) (v1:=w47) (q1:=((((i:Nat):Int):Int):Rat)) (k2:=(l1.getD i (none:Option Rat)).isSome) (u2:=w4) (v2:=w5) (q2:=((l1.getD i (none:Option Rat)).getD 0)) (hl:=by have h1:=hb1 i;have h2:=Big.hq_64 (z:=((i:Nat):Int)) om om;omega)) (.c (j:=0) rfl (.c (j:=2) rfl .n)) ?_)
  rintro ⟨w38,w49⟩ -
  dsimp only [aq,nq,cq]
  refine e_one 8 (zGe rfl rfl rfl rfl (zoa (r:=rQ) (k:=1) yb inf28 rfl dd dd dd (.c (x:=(((((i:Nat):Int):Int):Rat)*((l1.getD i (none:Option Rat)).getD 0))) (cs:=[w38.b,w38.l,w49.b,w49.l]) (w38,w49) rfl rfl rfl (fun g hr=>Holds.get 0 rfl hr) .n)) (fun b10 _=> ?_))
  refine zQb 0 rfl .z<|e_one 9 (zWd (A':=fun v:Option Addr×Nat=>rowA 28 rQ v.1 v.2 (A++([(((((i:Nat):Int):Int):Rat)*((l1.getD i (none:Option Rat)).getD 0))]))) kr rfl rfl rfl (zma 0 rfl yb inf28 dd rfl rfl (by first|rfl|assumption|(simp;done)|omega) rfl (by first|rfl|assumption|(simp;done)|omega) om om) ?_)
  rintro ⟨p11,c12⟩ -
  dsimp only [aq,nq,cq]
  refine e_pv 10 rfl rfl (zb rfl)<|zU kr<|zL<|zd<|za<|e_mv rfl<|e_p (zJ (z:=(((i+1):Nat):Int)) rfl rfl (w64 om))<|e_p (zb rfl)<|zf<|zT ((i+1),p11,c12,(A++([(((((i:Nat):Int):Int):Rat)*((l1.getD i (none:Option Rat)).getD 0))]))) (show 1≤(i+1)∧(i+1)≤max 1 n1∧(A++([(((((i:Nat):Int):Int):Rat)*((l1.getD i (none:Option Rat)).getD 0))]))=Po.gen (Po.dg l1) ((i+1) - 1) from by exact ⟨by omega,by omega,by rw [hA];exact Po.dg_step hi1⟩) (by show n1 - (i+1)<n1 - i;omega) ((.e rfl (by simp) (.of rfl)):SubM _ _) (ho:=((.c (i:=0) rfl .n):PickO _ _ _)) ((.c (j:=6) rfl .n):SelR _ _ _)
 ·
  refine zca<|zh<|zh<|zt<|zd<|ze<|zbb 0 rfl .z<|za<|e_mv rfl<|zha (addQE 0 rfl)<|zk rfl rfl (.c rfl .n) ce31 (zFa (p1:=pR) (n1:=A.length) (c1:=cR) (l1:=(A.map some)) (hn1:=by exact List.length_map _) (hm1:=cbo)) (.c (j:=0) rfl .n) ?_
  rintro ⟨p913,c914⟩ -
  dsimp only [aq,nq,cq]
  refine e_p (zb rfl)<|zf<|zd<|zE ?_
  have hv9:Po.cl (Po.vals (A.map some))=(Po.der (Po.vals l1)):=by rw [hA];exact Po.dg_der hn1 om
  exact zw Tryz.results25 (p913,c914) trivial (zo rfl) (by rw [hv9]) (ho:=(.n:PickO _ _ _)) ((.e (j:=0) rfl (by rw [hv9]) .n):SelR _ _ _)
end Go.Proofs.YtbiaimgafknkmaaGreat.Sp
namespace Go.Proofs.YtbiaimgafknkmaaGreat.Sp
open Go
set_option linter.unusedVariables false
set_option maxRecDepth 100000
set_option maxHeartbeats 8000000
theorem zUc {u1:Wd} {v1:Wd}:Con yd 11 [.agg #[u1.b,u1.l,v1.b,v1.l]] [] [] (Y:=Unit) (fun y=>True) (fun y=> .bool (decide (u1.n≤2∧v1.n≤2))) (fun y=>[]) (fun y=>[]):=by
 refine zl Tryz.func11 rfl rfl rfl (fun c=> ?_)
 show RunC _ _ _ _ _ [(0,.agg #[u1.b,u1.l,v1.b,v1.l])] [] []
 refine ze<|za<|zH rfl rfl (zN rfl rfl) (fun b1=> ?_)
 refine e_p (zb rfl)<|zf<|zd<|zQa (X:=Unit) (fun x=>True) (fun x=>[(2,.bool (decide ((((u1.n:Nat):Int)≤2)∧(((v1.n:Nat):Int)≤2))))]) (fun x=>[boxA b1 28 (cw [u1,v1])]) (fun x=>[]) ?_ ?_
 ·
  refine za<|e_p (zg yc rfl sz26 rfl rfl)<|e_p (zg Tryz.underlying26 rfl sz24 rfl rfl)<|e_ru (zj 0 ty24 rfl rfl rfl)<|e_p (zD Tryz.underlying24 rfl)<|e_p (zqb rfl rfl)<|zS rfl rfl (zaa rfl) (fun h2=> ?_) (fun h2=> ?_)
  ·
   refine e_p (zg yc rfl sz26 rfl rfl)<|e_p (zg Tryz.underlying26 rfl sz24 rfl rfl)<|e_ru (zj 0 ty24 rfl rfl rfl)<|e_p (zD Tryz.underlying24 rfl)<|e_p (zqb rfl rfl)<|e_p (zy rfl rfl)<|e_p (zb rfl)<|zf ?_
   exact zka () (show True from by first|trivial|omega|simp_all) ((.e rfl (congrArg Value.bool cbu) .n):SubM _ _) (ho:=((.c (i:=0) rfl .n):PickO _ _ _)) (.n:SelR _ _ _)
  ·
   refine e_no<|e_no<|e_no<|e_no<|e_no<|e_p (zy rfl rfl)<|e_p (zb rfl)<|zf ?_
   exact zka () (show True from by first|trivial|omega|simp_all) ((.e rfl (congrArg Value.bool cbu) .n):SubM _ _) (ho:=((.c (i:=0) rfl .n):PickO _ _ _)) (.n:SelR _ _ _)
 ·
  rintro ⟨⟩ -
  try dsimp only [cw]
  refine zE ?_
  exact zw Tryz.results11 () trivial (zo rfl) (congrArg Value.bool (decide_eq_decide.2 om)) (ho:=(.n:PickO _ _ _)) (.n:SelR _ _ _)
theorem zzg {p1:Option Addr} {n1:Nat} {c1:Nat} {l1:List (Option Rat)} {m:Int} (hn1:l1.length=n1):Con yd 10 [.slice p1 n1 c1,.int .i64 m] [] [slF rE p1 c1 l1] (Y:=Bool) (fun y=>(y=true→((n1:Nat):Int)≤m∧∀i,i<n1→ye ((l1.getD i none).getD 0)≤2)) (fun y=> .bool y) (fun y=>[]) (fun y=>[]):=by
 refine zl Tryz.func10 rfl rfl rfl (fun c=> ?_)
 show RunC _ _ _ _ _ [(0,.slice p1 n1 c1),(1,.int .i64 m)] [] [slF rE p1 c1 l1]
 refine zP 0 rfl (fun hL0=> ?_)
 refine ze<|za<|e_p (zb rfl)<|zf<|zd<|ze<|ze<|za<|e_mv rfl<|e_p (zD ya rfl)<|e_mv rfl<|e_p (zwa rfl rfl)<|zf<|zd<|zC rfl (fun h10=> ?_) (fun h10=> ?_)
 ·
  refine ze<|za<|e_p (zb rfl)<|zf<|zd<|zE<|zp ?_
  exact zw Tryz.results10 false (fun k=>by cases k) (zo rfl) rfl (ho:=(.n:PickO _ _ _)) (.n:SelR _ _ _)
 ·
  refine zB<|zd<|ze<|ze<|za<|e_mv rfl<|e_p (zD ya rfl)<|e_mv rfl<|zf<|zd<|zv<|zfa (X:=Nat) (fun x:Nat=>x≤n1∧∀j,j<x→ye ((l1.getD j none).getD 0)≤2) (fun x=>[(13,.int .i64 ((x:Nat):Int)),(12,.int .i64 ((n1:Nat):Int)),(11,.slice p1 n1 c1)]) (fun x=>[]) (fun x=>[slF rE p1 c1 l1]) (fun x:Nat=>n1 - x) 0 (show 0≤n1∧∀j,j<0→ye ((l1.getD j none).getD 0)≤2 from by exact ⟨Nat.zero_le _,fun j h=>by omega⟩) ((.e rfl (by first|rfl|(congr 1;omega)|simp_all) (.c rfl (.c rfl .n))):SubM _ _) (ho:=(.n:PickO _ _ _)) ((.c (j:=0) rfl .n):SelR _ _ _) ?_
  rintro i hI
  replace hI:i≤n1∧∀j,j<i→ye ((l1.getD j none).getD 0)≤2:=hI
  try dsimp only
  obtain ⟨hi,hall⟩:=hI
  refine ze<|za<|e_p (zY rfl rfl)<|zf<|zd<|ze<|zC rfl (fun h1=> ?_) (fun h1=> ?_)
  ·
   refine zB<|zd<|ze<|zv<|ze<|za<|r_vl rfl rfl (zja (x0:=(l1.getD i (none:Option Rat))) 0 i rfl ya sz28 rfl (by first|rfl|assumption|(simp;done)|omega) rfl rfl (gD (d:=(none:Option Rat)) om)) ?_
   rintro ⟨b2,o3,w4,w5⟩ -
   dsimp only [aq,nq,cq]
   refine zha open_rE<|e_ru (zO (j:=0) 0 ty28 rfl rfl rfl (.t4 .nil))<|zH rfl rfl (zq zr28 rfl) (fun b6=> ?_)
   refine zi 0 rfl rfl rfl rfl rfl sz28 rfl (.t4 .nil) .z<|zf<|zd<|ze<|za<|e_ru (zc 0 ty28 rfl rfl (.t4 .nil))<|zM rfl rfl (.c rfl .n) ce11 (zUc (u1:=w4) (v1:=w5)) (.n)<|e_p (zZa rfl)<|zf<|zd<|zC rfl (fun h19=> ?_) (fun h19=> ?_)
   ·
    refine ze<|za<|e_p (zb rfl)<|zf<|zd<|zE<|zda<|zp<|zp<|zda<|zp ?_
    exact zw Tryz.results10 false (fun k=>by cases k) (zo rfl) rfl (ho:=(.n:PickO _ _ _)) (.n:SelR _ _ _)
   ·
    have hs9:=Decidable.not_not.1 h19
    refine zed (p:=ye ((l1.getD i (none:Option Rat)).getD 0)≤2) (fun g h=>ee_hq (Holds.get 2 rfl h) hs9.1 hs9.2) (fun hq9=> ?_)
    refine zB<|zL<|zd<|za<|e_p (zJ (z:=(((i+1):Nat):Int)) rfl rfl (w64 om))<|e_mv rfl<|zf<|zT (i+1) (show (i+1)≤n1∧∀j,j<(i+1)→ye ((l1.getD j none).getD 0)≤2 from by refine ⟨by omega,fun j hj=> ?_⟩;by_cases e:j=i;(subst e;exact hq9);exact hall j om) (by show n1 - (i+1)<n1 - i;omega) ((.of rfl):SubM _ _) (ho:=(.n:PickO _ _ _)) ((.c (j:=3) rfl .n):SelR _ _ _)
  ·
   refine zca<|zh<|zh<|zt<|zd<|ze<|za<|e_p (zb rfl)<|zf<|zd<|zE ?_
   exact zw Tryz.results10 true (fun _=>⟨by omega,fun j hj=>hall j om⟩) (zo rfl) rfl (ho:=(.n:PickO _ _ _)) (.n:SelR _ _ _)
end Go.Proofs.YtbiaimgafknkmaaGreat.Sp
namespace Go.Proofs.YtbiaimgafknkmaaGreat.Po
open Go.Proofs.YtbiaimgafknkmaaGreat.Big
def dok (Q:List Rat):Nat→List Rat→List Rat→Prop
  |0,_,_=>True
  |n+1,a,r=>(bd 60000000000 a∧bd 60000000000 r)∧(Q.length≤r.length→dok Q n (add a (dt Q r)) (sub r (mul (dt Q r) Q)))
theorem dv_yes {Q a r:List Rat} {f:Nat} (h:Q.length≤r.length) (hf:0<f):dv Q f a r=dv Q (f - 1) (add a (dt Q r)) (sub r (mul (dt Q r) Q)):=by
  obtain ⟨n,rfl⟩:∃n,f=n+1:=⟨f - 1,by omega⟩
  rw [Nat.add_sub_cancel]
  conv=>lhs;unfold dv
  rw [if_neg (by omega)]
theorem dv_no {Q a r:List Rat} {f:Nat} (h:r.length<Q.length):dv Q f a r=(a,r):=by
  cases f with
  |zero=>rfl
  |succ n=>unfold dv;rw [if_pos h]
theorem dok_bd {Q a r:List Rat} {f:Nat} (h:dok Q f a r) (hf:0<f):bd 60000000000 a∧bd 60000000000 r:=by
  obtain ⟨n,rfl⟩:∃n,f=n+1:=⟨f - 1,by omega⟩
  exact h.1
theorem dok_yes {Q a r:List Rat} {f:Nat} (h:dok Q f a r) (hl:Q.length≤r.length) (hf:0<f):dok Q (f - 1) (add a (dt Q r)) (sub r (mul (dt Q r) Q)):=by
  obtain ⟨n,rfl⟩:∃n,f=n+1:=⟨f - 1,by omega⟩
  exact h.2 hl
theorem vals_mono {A:List (Option Rat)} {s:Nat} {k:Rat} (hn:A.length=s+1) (h:∀j,j<s+1→A.getD j none=some ((0:Int):Rat)):vals (A.set s (some k))=mono s k:=by
  unfold mono
  refine vals_gen (by rw [List.length_set];exact hn) fun j hj=> ?_
  rw [List.getD_eq_getElem?_getD,List.getElem?_set]
  by_cases e:s=j
  · subst e;rw [if_pos rfl,if_pos (by omega),if_pos rfl];rfl
  · rw [if_neg e,←List.getD_eq_getElem?_getD,h j hj,if_neg (fun k=>e k.symm)];rfl
theorem add_len (p q:List Rat):(add p q).length≤max p.length q.length:=by
  unfold add
  exact Nat.le_trans (cl_le_len _) (by rw [gen_len];exact Nat.le_refl _)
theorem dt_len (q r:List Rat):(dt q r).length=r.length - q.length+1:=by
  unfold dt mono;rw [gen_len]
def dq (p q:List Rat):List Rat:=if (cl q).length=0 then [] else (divp p q).1
def dr (p q:List Rat):List Rat:=if (cl q).length=0 then [] else (divp p q).2
def dc (q:List Rat):Int:=if (cl q).length=0 then 14 else 0
theorem dt_cv_hq {Q r:List Rat} (hr:bd 60000000000 r) (hQ:bd 60000000000 Q) (k lo n:Nat):hq (cv (cl (dt Q r)) Q k lo n)≤200000000000:=by
  refine Nat.le_trans (cv_mono_hq (s:=r.length - Q.length) (k0:=lead r / lead Q) (K:=120000000000) (L:=60000000000) (fun i=>by rw [cl_get];exact mono_get _ _ i) ?_ hQ k lo n) (by decide)
  have h:=dt_bd hr hQ (r.length - Q.length)
  unfold dt at h
  rw [mono_get,if_pos rfl] at h
  exact h
theorem zeros_mono {A:List Rat} {s i:Nat} {k:Rat} (hA:A=gen (fun _=>((0:Int):Rat)) i) (hi:i=s):A++[k]=mono s k:=by
  subst hi;subst hA
  unfold mono
  show gen (fun _=>((0:Int):Rat)) i++[k]=gen (fun j=>if j=i then k else 0) i++[if i=i then k else 0]
  rw [if_pos rfl]
  exact congrArg (· ++[k]) (gen_congr fun j hj=>by rw [if_neg (by omega)];rfl)
theorem dt_cv_hq' {Q r:List Rat} (hr:bd 60000000000 r) (hQ:bd 60000000000 Q) (k lo n:Nat):hq (cv (dt Q r) Q k lo n)≤200000000000:=by
  refine Nat.le_trans (cv_mono_hq (s:=r.length - Q.length) (k0:=lead r / lead Q) (K:=120000000000) (L:=60000000000) (fun i=>mono_get _ _ i) ?_ hQ k lo n) (by decide)
  have h:=dt_bd hr hQ (r.length - Q.length)
  unfold dt at h
  rw [mono_get,if_pos rfl] at h
  exact h
end Go.Proofs.YtbiaimgafknkmaaGreat.Po
namespace Go.Proofs.YtbiaimgafknkmaaGreat.Sp
open Go
set_option linter.unusedVariables false
set_option maxRecDepth 100000
set_option maxHeartbeats 8000000
theorem zBb {p1:Option Addr} {n1:Nat} {c1:Nat} {l1:List (Option Rat)} {p2:Option Addr} {n2:Nat} {c2:Nat} {l2:List (Option Rat)} (hn1:l1.length=n1) (hm1:n1≤1000) (hn2:l2.length=n2) (hm2:n2≤1000) (hm12:n1+n2≤400) (hb2:∀i,ye ((Po.vals l2).getD i 0)≤60000000000) (hok:Po.dok (Po.cl (Po.vals l2)) ((Po.cl (Po.vals l1)).length+1) [] (Po.cl (Po.vals l1))):Con yd 26 [.slice p1 n1 c1,.slice p2 n2 c2] [] [slF rE p1 c1 l1,slF rE p2 c2 l2] (Y:=(Option Addr)×Nat×(Option Addr)×Nat) (fun y=>True) (fun y=> .tuple #[.slice (y.1) ((Po.dq (Po.vals l1) (Po.vals l2)).length) (y.2.1),.slice (y.2.2.1) ((Po.dr (Po.vals l1) (Po.vals l2)).length) (y.2.2.2),.int .i64 (Po.dc (Po.vals l2))]) (fun y=>[]) (fun y=>[slF rQ (y.1) (y.2.1) (Po.dq (Po.vals l1) (Po.vals l2)),slF rQ (y.2.2.1) (y.2.2.2) (Po.dr (Po.vals l1) (Po.vals l2))]):=by
 refine zl Tryz.func26 rfl rfl rfl (fun c=> ?_)
 show RunC _ _ _ _ _ [(0,.slice p1 n1 c1),(1,.slice p2 n2 c2)] [] [slF rE p1 c1 l1,slF rE p2 c2 l2]
 refine zP 0 rfl (fun hL0=> ?_)
 refine zP 1 rfl (fun hL1=> ?_)
 refine ze<|za<|e_p (zb rfl)<|e_p (zb rfl)<|e_p (zb rfl)<|zf<|zd<|ze<|za<|e_mv rfl<|zk rfl rfl (.c rfl .n) ce31 (zFa (p1:=p1) (n1:=n1) (c1:=c1) (l1:=l1) (hn1:=ass) (hm1:=ass)) (.c (j:=0) rfl .n) ?_
 rintro ⟨p91,c92⟩ -
 dsimp only [aq,nq,cq]
 refine e_mv rfl<|zk rfl rfl (.c rfl .n) ce31 (zFa (p1:=p2) (n1:=n2) (c1:=c2) (l1:=l2) (hn1:=ass) (hm1:=ass)) (.c (j:=2) rfl .n) ?_
 rintro ⟨p93,c94⟩ -
 dsimp only [aq,nq,cq]
 refine e_p (zb rfl)<|e_p (zb rfl)<|zf<|zd<|ze<|ze ?_
 obtain ⟨P,hP⟩:∃z,z=(Po.cl (Po.vals l1)):=⟨_,rfl⟩
 have e5:(Po.cl (Po.vals l1):List Rat)=P:=by exact hP.symm
 rw [e5]
 obtain ⟨Q,hQ⟩:∃z,z=(Po.cl (Po.vals l2)):=⟨_,rfl⟩
 have e6:(Po.cl (Po.vals l2):List Rat)=Q:=by exact hQ.symm
 rw [e6]
 have hPl:P.length≤n1:=by rw [hP,←hn1,←Po.vals_len l1];exact Po.cl_le_len _
 have hQl:Q.length≤n2:=by rw [hQ,←hn2,←Po.vals_len l2];exact Po.cl_le_len _
 have hQc:Po.cl Q=Q:=by rw [hQ];exact Po.cl_cl _
 have hPc:Po.cl P=P:=by rw [hP];exact Po.cl_cl _
 have hbQ:Po.bd 60000000000 Q:=fun i=>by rw [hQ,Po.cl_get];exact hb2 i
 refine za<|e_mv rfl<|e_p (zD ya rfl)<|e_p (zna rfl rfl)<|zf<|zd<|zC rfl (fun h20=> ?_) (fun h20=> ?_)
 ·
  refine ze<|za<|e_p (zb rfl)<|e_p (zb rfl)<|e_p (zb rfl)<|zf<|zd<|zE<|zp<|zFb rQ ?_
  have h0:(Po.cl (Po.vals l2)).length=0:=by rw [← hQ];omega
  have hv8:(Po.dq (Po.vals l1) (Po.vals l2))=[]:=if_pos h0
  have hv9:(Po.dr (Po.vals l1) (Po.vals l2))=[]:=if_pos h0
  have hv7:(Po.dc (Po.vals l2))=14:=if_pos h0
  exact zVb Tryz.results26 (none,0,none,0) trivial (zo rfl) (zo rfl) (zo rfl) (by rw [hv7,hv8,hv9];rfl) (ho:=(.n:PickO _ _ _)) ((.e (j:=0) rfl (by rw [hv8]) (.e (j:=0) rfl (by rw [hv9]) .n)):SelR _ _ _)
 ·
  have hQ0:0<Q.length:=by omega
  have hQn:Q≠[]:=fun e=>by rw [e] at hQ0;exact absurd hQ0 dd
  refine zB<|zd<|ze<|c_nilF rQ<|za<|e_p (zb rfl)<|zf<|zd<|ze<|zv<|zfa (X:=Nat×(List Rat)×(List Rat)×(Option Addr)×Nat×(Option Addr)×Nat) (fun x:Nat×(List Rat)×(List Rat)×(Option Addr)×Nat×(Option Addr)×Nat=>(x.2.2.1.length<x.1∧x.2.2.1.length≤400∧x.2.1.length≤400)∧Po.dok Q x.1 x.2.1 x.2.2.1∧Po.dv Q P.length [] P=Po.dv Q (x.1 - 1) x.2.1 x.2.2.1) (fun x=>[(7,.slice (x.2.2.2.2.2.1) (x.2.2.1.length) (x.2.2.2.2.2.2)),(8,.slice (x.2.2.2.1) (x.2.1.length) (x.2.2.2.2.1)),(1,.slice p93 ((Q).length) c94),(6,.int .i64 0),(5,.slice none 0 0),(4,.slice none 0 0)]) (fun x=>[]) (fun x=>[slF rQ (x.2.2.2.1) (x.2.2.2.2.1) (x.2.1),slF rQ (x.2.2.2.2.2.1) (x.2.2.2.2.2.2) (x.2.2.1),slF rQ none 0 ([]),slF rQ p93 c94 Q,slF rQ p91 c92 P,slF rE p1 c1 l1,slF rE p2 c2 l2]) (fun x:Nat×(List Rat)×(List Rat)×(Option Addr)×Nat×(Option Addr)×Nat=>x.1) ((P.length+1),([]:List Rat),P,none,0,p91,c92) (show (P.length<(P.length+1)∧P.length≤400∧([]:List Rat).length≤400)∧Po.dok Q (P.length+1) ([]:List Rat) P∧Po.dv Q P.length [] P=Po.dv Q ((P.length+1) - 1) ([]:List Rat) P from by exact ⟨by simp;omega,by rw [hP,hQ];exact hok,rfl⟩) ((.e rfl (by first|rfl|(congr 1;omega)|simp_all) (.e rfl (by first|rfl|(congr 1;omega)|simp_all) (.of rfl))):SubM _ _) (ho:=(.n:PickO _ _ _)) ((.e (j:=0) rfl rfl (.e (j:=2) rfl rfl (.of [0,1,2,3,4] rfl))):SelR _ _ _) ?_
  rintro ⟨f,a,r,pa,ca,pr,cr⟩ hI
  replace hI:(r.length<f∧r.length≤400∧a.length≤400)∧Po.dok Q f a r∧Po.dv Q P.length [] P=Po.dv Q (f - 1) a r:=hI
  try dsimp only
  obtain ⟨⟨hf,hrl,hal⟩,hdk,hdv⟩:=hI
  refine ze<|ze<|za<|e_mv rfl<|e_p (zD ya rfl)<|e_mv rfl<|e_p (zD ya rfl)<|e_p (zWa rfl rfl)<|zf<|zd<|zC rfl (fun h25=> ?_) (fun h25=> ?_)
  ·
   refine zB<|zd<|zv<|ze<|za<|e_mv rfl<|e_p (zD ya rfl)<|e_mv rfl<|e_p (zD ya rfl)<|e_p (zZ (z:=(((r.length:Nat):Int) - (((Q).length:Nat):Int))) rfl rfl (w64 om)) ?_
   have e7:((((r.length:Nat):Int) - (((Q).length:Nat):Int)):Int)=(((r.length - Q.length):Nat):Int):=by omega
   rw [e7]
   refine e_p (zb rfl)<|zf<|zd<|ze<|zW (OW:=[]) (O:=[]) 17 mixed (.then (.block (.then (.block (.then .ret))))) kr<|e_dm 0 rfl rfl rfl<|e_dm 1 rfl rfl rfl<|e_pv 2 rfl rfl (zD ya rfl)<|e_pv 3 rfl rfl (zZ (z:=(((r.length:Nat):Int) - 1)) rfl rfl (w64 om)) ?_
   have e8:((((r.length:Nat):Int) - 1):Int)=(((r.length - 1):Nat):Int):=by omega
   rw [e8]
   refine d_vl 4 rfl rfl kr kr rfl rfl (zja (x0:=(r.getD (r.length - 1) (0:Rat))) 1 (r.length - 1) rfl ya sz28 rfl (by first|rfl|assumption|(simp;done)|omega) rfl rfl (gD (d:=(0:Rat)) om)) ?_
   rintro ⟨b9,o10,w11,w12⟩ -
   dsimp only [aq,nq,cq]
   refine zTa open_rQ<|e_u 5 rfl rfl (zO (j:=0) 0 ty28 rfl rfl rfl (.t4 .nil))<|e_dm 6 rfl rfl rfl<|e_dm 7 rfl rfl rfl<|e_pv 8 rfl rfl (zD ya rfl)<|e_pv 9 rfl rfl (zZ (z:=((((Q).length:Nat):Int) - 1)) rfl rfl (w64 om)) ?_
   have e13:(((((Q).length:Nat):Int) - 1):Int)=(((Q.length - 1):Nat):Int):=by omega
   rw [e13]
   refine d_vl 10 rfl rfl kr kr rfl rfl (zja (x0:=((Q).getD (Q.length - 1) (0:Rat))) 5 (Q.length - 1) rfl ya sz28 rfl (by first|rfl|assumption|(simp;done)|omega) rfl rfl (gD (d:=(0:Rat)) om)) ?_
   rintro ⟨b14,o15,w16,w17⟩ -
   dsimp only [aq,nq,cq]
   refine zTa open_rQ<|e_u 11 rfl rfl (zO (j:=0) 0 ty28 rfl rfl rfl (.t4 .nil))<|zFd (m':=[(43,.agg (cw [w16,w17]).toArray),(37,.agg (cw [w11,w12]).toArray),(9,.int .i64 (((r.length - Q.length):Nat):Int)),(7,.slice pr (r.length) cr),(8,.slice pa (a.length) ca),(1,.slice p93 ((Q).length) c94),(6,.int .i64 0),(5,.slice none 0 0),(4,.slice none 0 0)]) (R':=[qF true w16 w17 ((Q).getD (Q.length - 1) (0:Rat)),qF true w11 w12 (r.getD (r.length - 1) (0:Rat)),slF rQ pa ca a,slF rQ pr cr r,slF rQ none 0 ([]),slF rQ p93 c94 Q,slF rQ p91 c92 P,slF rE p1 c1 l1,slF rE p2 c2 l2]) ((.of rfl):SubM _ _) (List.Perm.refl _) (List.Perm.refl _) ((.of [1,3,4,5,6,7,8,9,10] rfl):SelR _ _ _)<|zCa (X:=Wd×Wd×Nat) (k':=0) (L':=(lb 19 524287)) (fun (u12_1,u12_2,u16_1)=>([(10,.pointer (some ⟨u16_1,0,none⟩)),(9,.int .i64 (((r.length - Q.length):Nat):Int)),(7,.slice pr (r.length) cr),(8,.slice pa (a.length) ca),(1,.slice p93 ((Q).length) c94),(6,.int .i64 0),(5,.slice none 0 0),(4,.slice none 0 0)],[boxA u16_1 28 (cw [u12_1,u12_2])],[],[qF true u12_1 u12_2 ((r.getD (r.length - 1) (0:Rat)) / ((Q).getD (Q.length - 1) (0:Rat))),qF true w16 w17 ((Q).getD (Q.length - 1) (0:Rat)),qF true w11 w12 (r.getD (r.length - 1) (0:Rat)),slF rQ pa ca a,slF rQ pr cr r,slF rQ none 0 ([]),slF rQ p93 c94 Q,slF rQ p91 c92 P,slF rE p1 c1 l1,slF rE p2 c2 l2])) ?_ (fun hD0=> ?_)
   ·
    rintro ⟨u12_1,u12_2,u16_1⟩
    dsimp only [cw]
    refine zU kr<|zd<|ze<|za<|e_mv rfl<|e_p (zJ (z:=((((r.length - Q.length)+1):Nat):Int)) rfl rfl (w64 om)) ?_
    have e18:(((((r.length - Q.length)+1):Nat):Int):Int)=(((r.length - Q.length+1):Nat):Int):=by omega
    rw [e18]
    refine zqa rfl rfl (zab (r:=rE) (k:=(r.length - Q.length+1)) (x0:=none) (γ0:=(wz,wz)) ya inf28 rfl rfl rfl rfl om om rfl (fun g _=>eF_wz g) dd) (fun b19 _=> ?_)
    refine e_p (zb rfl)<|zf<|zd<|ze<|ze<|za<|e_mv rfl<|e_p (zD ya rfl)<|e_mv rfl<|zf<|zd<|zv<|zfa (X:=Nat×(List (Option Rat))) (fun x:Nat×(List (Option Rat))=>x.1≤r.length - Q.length+1∧x.2.length=r.length - Q.length+1∧∀j,j<x.1→x.2.getD j none=some ((0:Int):Rat)) (fun x=>[(52,.int .i64 ((x.1:Nat):Int)),(51,.int .i64 (((r.length - Q.length+1):Nat):Int)),(12,.slice (some ⟨b19,0,none⟩) (r.length - Q.length+1) (r.length - Q.length+1)),(10,.pointer (some ⟨u16_1,0,none⟩)),(9,.int .i64 (((r.length - Q.length):Nat):Int)),(7,.slice pr (r.length) cr),(8,.slice pa (a.length) ca),(1,.slice p93 ((Q).length) c94),(6,.int .i64 0),(5,.slice none 0 0),(4,.slice none 0 0)]) (fun x=>[rowA 28 rE (some ⟨b19,0,none⟩) (r.length - Q.length+1) (x.2),boxA u16_1 28 (cw [u12_1,u12_2])]) (fun x=>[qF true u12_1 u12_2 ((r.getD (r.length - 1) (0:Rat)) / ((Q).getD (Q.length - 1) (0:Rat))),qF true w16 w17 ((Q).getD (Q.length - 1) (0:Rat)),qF true w11 w12 (r.getD (r.length - 1) (0:Rat)),slF rQ pa ca a,slF rQ pr cr r,slF rQ none 0 ([]),slF rQ p93 c94 Q,slF rQ p91 c92 P,slF rE p1 c1 l1,slF rE p2 c2 l2]) (fun x:Nat×(List (Option Rat))=>r.length - Q.length+1 - x.1) (0,List.replicate (r.length - Q.length+1) none) (show 0≤r.length - Q.length+1∧(List.replicate (r.length - Q.length+1) none).length=r.length - Q.length+1∧∀j,j<0→(List.replicate (r.length - Q.length+1) none).getD j none=some ((0:Int):Rat) from by exact ⟨Nat.zero_le _,List.length_replicate,fun j hj=>by omega⟩) ((.e rfl (by first|rfl|(congr 1;omega)|simp_all) (.of rfl)):SubM _ _) (ho:=((.e (i:=0) rfl (by first|rfl|(congr 1;omega)|simp_all) (.c (i:=0) rfl .n)):PickO _ _ _)) ((.of [0,1,2,3,4,5,6,7,8,9] rfl):SelR _ _ _) ?_
    rintro ⟨i,A⟩ hJ
    replace hJ:i≤r.length - Q.length+1∧A.length=r.length - Q.length+1∧∀j,j<i→A.getD j none=some ((0:Int):Rat):=hJ
    try dsimp only [cw]
    refine ze<|za<|e_p (zY rfl rfl)<|zf<|zd<|ze<|zC rfl (fun h20=> ?_) (fun h20=> ?_)
    ·
     refine zB<|zd<|ze<|zv<|ze<|za<|e_mv rfl<|e_p (zb rfl)<|zf<|zd<|za<|e_mv rfl<|e_mv rfl<|zk rfl rfl (.n) ce50 (zMb) (.n) ?_
     rintro ⟨w321,w422⟩ -
     dsimp only [aq,nq,cq]
     refine e_p (zga (j:=i) ya sz28 rfl rfl rfl om)<|zya 0 rfl rfl rfl (zR (r:=rE) (j:=i) (x0:=(some ((0:Int):Rat))) (γ0:=(w321,w422)) rfl rfl (by first|omega|(rw [List.length_map];omega)|(simp only [List.length_set];omega)|(simp;done)|(simp;omega)) rfl rfl sz28 (fun g hr=>qF_e (Holds.get 0 rfl hr))) (fun _=> .z) (fun _ _=> ?_)
     refine zf<|zL<|zd<|za<|e_p (zJ (z:=(((i+1):Nat):Int)) rfl rfl (w64 om))<|e_mv rfl<|zf<|zT ((i+1),(A.set i (some ((0:Int):Rat)))) (show (i+1)≤r.length - Q.length+1∧(A.set i (some ((0:Int):Rat))).length=r.length - Q.length+1∧∀j,j<(i+1)→(A.set i (some ((0:Int):Rat))).getD j none=some ((0:Int):Rat) from by exact ⟨by omega,by rw [List.length_set];exact hJ.2.1,Po.set_step (g:=fun _=>((0:Int):Rat)) hJ.2.2 om rfl⟩) (by show r.length - Q.length+1 - (i+1)<r.length - Q.length+1 - i;omega) ((.of rfl):SubM _ _) (ho:=((.of [0,0] rfl):PickO _ _ _)) ((.of [1,2,3,4,5,6,7,8,9,10] rfl):SelR _ _ _)
    ·
     refine zca<|zh<|zh<|zt<|zd<|ze<|za<|e_mv rfl<|e_mv rfl<|e_ru (zc 1 ty28 rfl rfl (.t4 .nil))<|e_p (zga (j:=(r.length - Q.length)) ya sz28 rfl rfl rfl om)<|zya 0 rfl rfl rfl (zR (r:=rE) (j:=(r.length - Q.length)) (x0:=(some ((r.getD (r.length - 1) (0:Rat)) / ((Q).getD (Q.length - 1) (0:Rat))))) (γ0:=(u12_1,u12_2)) rfl rfl (by first|omega|(rw [List.length_map];omega)|(simp only [List.length_set];omega)|(simp;done)|(simp;omega)) rfl rfl sz28 (fun g hr=>qF_e (Holds.get 0 rfl hr))) (fun _=> .z) (fun _ _=> ?_)
     refine zf<|zd<|ze ?_
     have hB:Po.vals (A.set (r.length - Q.length) (some ((r.getD (r.length - 1) (0:Rat)) / ((Q).getD (Q.length - 1) (0:Rat)))))=Po.dt Q r:=Po.vals_mono hJ.2.1 (fun j hj=>hJ.2.2 j om)
     have hBl:(A.set (r.length - Q.length) (some ((r.getD (r.length - 1) (0:Rat)) / ((Q).getD (Q.length - 1) (0:Rat))))).length=r.length - Q.length+1:=by rw [List.length_set];exact hJ.2.1
     obtain ⟨hba,hbr⟩:=Po.dok_bd hdk om
     have hml:(Po.mul (Po.dt Q r) Q).length≤1000:=by rw [← Po.mul_mc];unfold Po.mc;exact Nat.le_trans (Po.cl_le_len _) (by rw [Po.gen_len,Po.dt_len];omega)
     refine za<|e_mv rfl<|e_mv rfl<|zha (addQE 3 rfl)<|zV 0 rfl .z<|zk rfl rfl (.c rfl (.c rfl .n)) ce13 (zUf (p1:=pa) (n1:=a.length) (c1:=ca) (l1:=(a.map some)) (p2:=some ⟨b19,0,none⟩) (n2:=(r.length - Q.length+1)) (c2:=(r.length - Q.length+1)) (l2:=(A.set (r.length - Q.length) (some ((r.getD (r.length - 1) (0:Rat)) / ((Q).getD (Q.length - 1) (0:Rat)))))) (hn1:=by exact List.length_map _) (hm1:=cbo) (hn2:=by exact hBl) (hm2:=cbo) (hb:=by intro j;rw [Po.msome,←Po.vals_get,hB];have h1:=hba j;have h2:=Po.dt_bd hbr hbQ j;omega)) (.c (j:=1) rfl (.c (j:=0) rfl .n)) ?_
     rintro ⟨p923,c924⟩ -
     dsimp only [aq,nq,cq]
     have e25:(Po.add (Po.vals (a.map some)) (Po.vals (A.set (r.length - Q.length) (some ((r.getD (r.length - 1) (0:Rat)) / ((Q).getD (Q.length - 1) (0:Rat)))))):List Rat)=Po.add a (Po.dt Q r):=by rw [Po.vals_some,hB]
     rw [e25]
     refine e_p (zb rfl)<|zf<|zd<|za<|e_mv rfl<|e_mv rfl<|e_mv rfl<|zha (addQE 9 rfl)<|zk rfl rfl (.c rfl (.c rfl .n)) ce17 (zyd (p1:=some ⟨b19,0,none⟩) (n1:=(r.length - Q.length+1)) (c1:=(r.length - Q.length+1)) (l1:=(A.set (r.length - Q.length) (some ((r.getD (r.length - 1) (0:Rat)) / ((Q).getD (Q.length - 1) (0:Rat)))))) (p2:=p93) (n2:=(Q).length) (c2:=c94) (l2:=((Q).map some)) (hn1:=by exact hBl) (hm1:=cbo) (hn2:=by exact List.length_map _) (hm2:=cbo) (hm12:=cbo) (hb1:=by rw [hB];intro j;exact Nat.le_trans (Po.dt_bd hbr hbQ j) dd) (hb2:=by rw [Po.vals_some];intro j;exact Nat.le_trans (hbQ j) dd) (hs:=by rw [hB,Po.vals_some,hQc];exact fun k lo n _=>Po.dt_cv_hq hbr hbQ k lo n)) (.c (j:=2) rfl (.c (j:=0) rfl .n)) ?_
     rintro ⟨p926,c927⟩ -
     dsimp only [aq,nq,cq]
     have e28:(Po.mul (Po.vals (A.set (r.length - Q.length) (some ((r.getD (r.length - 1) (0:Rat)) / ((Q).getD (Q.length - 1) (0:Rat)))))) (Po.vals ((Q).map some)):List Rat)=Po.mul (Po.dt Q r) Q:=by rw [Po.vals_some,hB]
     rw [e28]
     refine zha (addQE 9 rfl)<|zha (addQE 1 rfl)<|zk rfl rfl (.c rfl (.c rfl .n)) ce15 (zVf (p1:=pr) (n1:=r.length) (c1:=cr) (l1:=(r.map some)) (p2:=p926) (n2:=(Po.mul (Po.dt Q r) Q).length) (c2:=c927) (l2:=((Po.mul (Po.dt Q r) Q).map some)) (hn1:=by exact List.length_map _) (hm1:=cbo) (hn2:=by exact List.length_map _) (hm2:=by exact hml) (hb:=by intro j;rw [Po.msome,Po.msome];have h1:=hbr j;have h2:=Po.mul_dt_bd hbr hbQ j;omega)) (.c (j:=1) rfl (.c (j:=0) rfl .n)) ?_
     rintro ⟨p929,c930⟩ -
     dsimp only [aq,nq,cq]
     have e31:(Po.sub (Po.vals (r.map some)) (Po.vals ((Po.mul (Po.dt Q r) Q).map some)):List Rat)=Po.sub r (Po.mul (Po.dt Q r) Q):=by rw [Po.vals_some,Po.vals_some]
     rw [e31]
     refine e_p (zb rfl)<|zf<|zL<|zT ((f - 1),(Po.add a (Po.dt Q r)),(Po.sub r (Po.mul (Po.dt Q r) Q)),p923,c924,p929,c930) (show ((Po.sub r (Po.mul (Po.dt Q r) Q)).length<(f - 1)∧(Po.sub r (Po.mul (Po.dt Q r) Q)).length≤400∧(Po.add a (Po.dt Q r)).length≤400)∧Po.dok Q (f - 1) (Po.add a (Po.dt Q r)) (Po.sub r (Po.mul (Po.dt Q r) Q))∧Po.dv Q P.length [] P=Po.dv Q ((f - 1) - 1) (Po.add a (Po.dt Q r)) (Po.sub r (Po.mul (Po.dt Q r) Q)) from by have h9:=Po.dt_less (r:=r) hQc hQn om;have h8:=Po.add_len a (Po.dt Q r);rw [Po.dt_len] at h8;exact ⟨⟨by omega,by omega,by omega⟩,Po.dok_yes hdk om om,hdv.trans (Po.dv_yes om om)⟩) om ((.of rfl):SubM _ _) (ho:=(.n:PickO _ _ _)) ((.of [5,0,13,14,15,16,17] rfl):SelR _ _ _)
   refine zCa (X:=Wd×Wd×Nat) (k':=2) (L':=(lb 19 131071)) (fun (u12_1,u12_2,u16_1)=>([(10,.pointer (some ⟨u16_1,0,none⟩)),(46,.int .i64 0),(45,.agg (cw [u12_1,u12_2]).toArray),(9,.int .i64 (((r.length - Q.length):Nat):Int)),(7,.slice pr (r.length) cr),(8,.slice pa (a.length) ca),(1,.slice p93 ((Q).length) c94),(6,.int .i64 0),(5,.slice none 0 0),(4,.slice none 0 0)],[boxA u16_1 28 (cw [wz,wz])],[],[qF true u12_1 u12_2 ((r.getD (r.length - 1) (0:Rat)) / ((Q).getD (Q.length - 1) (0:Rat))),qF true w16 w17 ((Q).getD (Q.length - 1) (0:Rat)),qF true w11 w12 (r.getD (r.length - 1) (0:Rat)),slF rQ pa ca a,slF rQ pr cr r,slF rQ none 0 ([]),slF rQ p93 c94 Q,slF rQ p91 c92 P,slF rE p1 c1 l1,slF rE p2 c2 l2])) ?_ (fun hD1=> ?_)
   ·
    rintro ⟨u12_1,u12_2,u16_1⟩
    dsimp only [cw]
    refine zEb 17 kr ?_
    ·
     refine zA kr rfl rfl rfl rfl rfl sz28 rfl (.t4 .nil)<|e_pv 18 rfl rfl (zb rfl) ?_
     exact zla (hD0 (u12_1,u12_2,u16_1)) kr ((.of rfl):SubM _ _) .rfl .rfl ((.of [0,1,2,3,4,5,6,7,8,9] rfl):SelR _ _ _)
   refine zCa (X:=Wd×Wd) (k':=3) (L':=(lb 19 65535)) (fun (u12_1,u12_2)=>([(46,.int .i64 0),(45,.agg (cw [u12_1,u12_2]).toArray),(9,.int .i64 (((r.length - Q.length):Nat):Int)),(7,.slice pr (r.length) cr),(8,.slice pa (a.length) ca),(1,.slice p93 ((Q).length) c94),(6,.int .i64 0),(5,.slice none 0 0),(4,.slice none 0 0)],[],[],[qF true u12_1 u12_2 ((r.getD (r.length - 1) (0:Rat)) / ((Q).getD (Q.length - 1) (0:Rat))),qF true w16 w17 ((Q).getD (Q.length - 1) (0:Rat)),qF true w11 w12 (r.getD (r.length - 1) (0:Rat)),slF rQ pa ca a,slF rQ pr cr r,slF rQ none 0 ([]),slF rQ p93 c94 Q,slF rQ p91 c92 P,slF rE p1 c1 l1,slF rE p2 c2 l2])) ?_ (fun hD2=> ?_)
   ·
    rintro ⟨u12_1,u12_2⟩
    dsimp only [cw]
    refine zEb 16 kr ?_
    ·
     refine zUa rfl rfl rfl rfl (zq zr28 rfl) (fun u16_1 _=> ?_)
     exact zla (hD1 (u12_1,u12_2,u16_1)) kr ((.of rfl):SubM _ _) .rfl .rfl ((.of [0,1,2,3,4,5,6,7,8,9] rfl):SelR _ _ _)
   refine zCa (X:=Nat) (k':=6) (L':=(lb 19 69631)) (fun u16_1=>([(10,.pointer (some ⟨u16_1,0,none⟩)),(43,.agg (cw [w16,w17]).toArray),(37,.agg (cw [w11,w12]).toArray),(9,.int .i64 (((r.length - Q.length):Nat):Int)),(7,.slice pr (r.length) cr),(8,.slice pa (a.length) ca),(1,.slice p93 ((Q).length) c94),(6,.int .i64 0),(5,.slice none 0 0),(4,.slice none 0 0)],[boxA u16_1 28 (cw [wz,wz])],[],[qF true w16 w17 ((Q).getD (Q.length - 1) (0:Rat)),qF true w11 w12 (r.getD (r.length - 1) (0:Rat)),slF rQ pa ca a,slF rQ pr cr r,slF rQ none 0 ([]),slF rQ p93 c94 Q,slF rQ p91 c92 P,slF rE p1 c1 l1,slF rE p2 c2 l2])) ?_ (fun hD3=> ?_)
   ·
    rintro u16_1
    dsimp only [cw]
    refine zEb 12 kr ?_
    ·
     refine zu rfl rfl rfl rfl (.c rfl (.c rfl .n)) ce60 (zOa (k1:=true) (u1:=w11) (v1:=w12) (q1:=(r.getD (r.length - 1) (0:Rat))) (k2:=true) (u2:=w16) (v2:=w17) (q2:=((Q).getD (Q.length - 1) (0:Rat))) (hl:=by have h1:=(Po.dok_bd hdk om).2 (r.length - 1);have h2:=hbQ (Q.length - 1);omega) (hy:=by exact Po.lead_ne hQc hQn)) (.c (j:=1) rfl (.c (j:=0) rfl .n)) ?_
     rintro ⟨u12_1,u12_2⟩ -
     dsimp only [aq,nq,cq]
     refine e_dm 13 rfl rfl rfl<|e_pv 14 rfl rfl (zm rfl rfl)<|e_pv 15 rfl rfl (zm rfl rfl) ?_
     exact zla (hD1 (u12_1,u12_2,u16_1)) kr ((.of rfl):SubM _ _) .rfl .rfl ((.of [0,1,2,3,4,5,6,7,8,9] rfl):SelR _ _ _)
   refine zrd 12 16 kr ?_ ?_
   ·
    refine zu rfl rfl rfl rfl (.c rfl (.c rfl .n)) ce60 (zOa (k1:=true) (u1:=w11) (v1:=w12) (q1:=(r.getD (r.length - 1) (0:Rat))) (k2:=true) (u2:=w16) (v2:=w17) (q2:=((Q).getD (Q.length - 1) (0:Rat))) (hl:=by have h1:=(Po.dok_bd hdk om).2 (r.length - 1);have h2:=hbQ (Q.length - 1);omega) (hy:=by exact Po.lead_ne hQc hQn)) (.c (j:=1) rfl (.c (j:=0) rfl .n)) ?_
    rintro ⟨u12_1,u12_2⟩ -
    dsimp only [aq,nq,cq]
    refine e_dm 13 rfl rfl rfl<|e_pv 14 rfl rfl (zm rfl rfl)<|e_pv 15 rfl rfl (zm rfl rfl) ?_
    exact zla (hD2 (u12_1,u12_2)) kr ((.of rfl):SubM _ _) .rfl .rfl ((.of [0,1,2,3,4,5,6,7,8,9] rfl):SelR _ _ _)
   ·
    refine zUa rfl rfl rfl rfl (zq zr28 rfl) (fun u16_1 _=> ?_)
    exact zla (hD3 u16_1) kr ((.of rfl):SubM _ _) .rfl .rfl ((.of [0,1,2,3,4,5,6,7,8] rfl):SelR _ _ _)
  ·
   refine zca<|zh<|zh<|zt<|zd<|ze<|za<|e_mv rfl<|e_mv rfl<|e_p (zb rfl)<|e_p (zb rfl)<|e_p (zb rfl)<|zf<|zd<|zE ?_
   have h0:¬(Po.cl (Po.vals l2)).length=0:=by rw [← hQ];omega
   have hdn:Po.dv Q P.length [] P=(a,r):=hdv.trans (Po.dv_no om)
   have hv8:(Po.dq (Po.vals l1) (Po.vals l2))=a:=(if_neg h0).trans (by unfold Po.divp;rw [← hQ,←hP,hdn])
   have hv9:(Po.dr (Po.vals l1) (Po.vals l2))=r:=(if_neg h0).trans (by unfold Po.divp;rw [← hQ,←hP,hdn])
   have hv7:(Po.dc (Po.vals l2))=0:=if_neg h0
   exact zVb Tryz.results26 (pa,ca,pr,cr) trivial (zo rfl) (zo rfl) (zo rfl) (by rw [hv7,hv8,hv9]) (ho:=(.n:PickO _ _ _)) ((.e (j:=0) rfl (by rw [hv8]) (.e (j:=1) rfl (by rw [hv9]) .n)):SelR _ _ _)
end Go.Proofs.YtbiaimgafknkmaaGreat.Sp
namespace Go.Proofs.YtbiaimgafknkmaaGreat.Sp
open Go
set_option linter.unusedVariables false
set_option maxRecDepth 100000
set_option maxHeartbeats 8000000
theorem zVc {p1:Option Addr} {n1:Nat} {c1:Nat} {l1:List Rat} (hn1:l1.length=n1) (hm1:n1≤1000) (h0:0<n1):Con yd 62 [.slice p1 n1 c1] [] [slF rQ p1 c1 l1] (Y:=Wd×Wd) (fun y=>True) (fun y=> .agg #[y.1.b,y.1.l,y.2.b,y.2.l]) (fun y=>[]) (fun y=>[qF true y.1 y.2 (Po.lead l1)]):=by
 refine zl Tryz.func62 rfl rfl rfl (fun c=> ?_)
 show RunC _ _ _ _ _ [(0,.slice p1 n1 c1)] [] [slF rQ p1 c1 l1]
 refine zP 0 rfl (fun hL0=> ?_)
 refine ze<|za<|zH rfl rfl (zq zr28 rfl) (fun b1=> ?_)
 refine zf<|zd<|ze<|za<|e_mv rfl<|e_mv rfl<|e_p (zD ya rfl)<|e_p (zZ (z:=(((n1:Nat):Int) - 1)) rfl rfl (w64 om)) ?_
 have e2:((((n1:Nat):Int) - 1):Int)=(((n1 - 1):Nat):Int):=by omega
 rw [e2]
 refine r_vl rfl rfl (zja (x0:=(l1.getD (n1 - 1) (0:Rat))) 0 (n1 - 1) rfl ya sz28 rfl (by first|rfl|assumption|(simp;done)|omega) rfl rfl (gD (d:=(0:Rat)) om)) ?_
 rintro ⟨b3,o4,w5,w6⟩ -
 dsimp only [aq,nq,cq]
 refine zha open_rQ<|e_ru (zO (j:=0) 0 ty28 rfl rfl rfl (.t4 .nil))<|zi 0 rfl rfl rfl rfl rfl sz28 rfl (.t4 .nil) .z<|zf<|zd<|zE ?_
 exact zw Tryz.results62 (w5,w6) trivial (zn 0 ty28 rfl rfl (.t4 .nil)) rfl (ho:=(.n:PickO _ _ _)) ((.e (j:=1) rfl (by unfold Po.lead;rw [hn1]) .n):SelR _ _ _)
end Go.Proofs.YtbiaimgafknkmaaGreat.Sp
namespace Go.Proofs.YtbiaimgafknkmaaGreat.Sp
open Go
set_option linter.unusedVariables false
set_option maxRecDepth 100000
set_option maxHeartbeats 8000000
theorem zoc:Con yd 52 [] [] [] (Y:=Wd×Wd) (fun y=>True) (fun y=> .agg #[y.1.b,y.1.l,y.2.b,y.2.l]) (fun y=>[]) (fun y=>[qF true y.1 y.2 ((0:Int):Rat)]):=by
 refine zl Tryz.func52 rfl rfl rfl (fun c=> ?_)
 show RunC _ _ _ _ _ [] [] []
 refine ze<|za<|zH rfl rfl (zq zr28 rfl) (fun b1=> ?_)
 refine zf<|zd<|ze<|za<|zk rfl rfl (.c rfl .n) ce42 (zPa (z:=0) (hz:=cbd)) (.n) ?_
 rintro ⟨w32,w43⟩ -
 dsimp only [aq,nq,cq]
 refine zi 0 rfl rfl rfl rfl rfl sz28 rfl (.t4 .nil) .z<|zf<|zd<|zE ?_
 exact zw Tryz.results52 (w32,w43) trivial (zn 0 ty28 rfl rfl (.t4 .nil)) rfl (ho:=(.n:PickO _ _ _)) ((.c (j:=0) rfl .n):SelR _ _ _)
theorem zAf {p1:Option Addr} {n1:Nat} {c1:Nat} {l1:List (Option Rat)} {i:Nat} (hn1:l1.length=n1) (hm1:n1≤1000) (hi:i≤3000):Con yd 48 [.slice p1 n1 c1,.int .i64 ((i:Nat):Int)] [] [slF rE p1 c1 l1] (Y:=Wd×Wd×Bool) (fun y=>True) (fun y=> .agg #[y.1.b,y.1.l,y.2.1.b,y.2.1.l]) (fun y=>[]) (fun y=>[qF y.2.2 y.1 y.2.1 ((l1.getD i none).getD 0)]):=by
 refine zl Tryz.func48 rfl rfl rfl (fun c=> ?_)
 show RunC _ _ _ _ _ [(0,.slice p1 n1 c1),(1,.int .i64 ((i:Nat):Int))] [] [slF rE p1 c1 l1]
 refine zP 0 rfl (fun hL0=> ?_)
 refine ze<|za<|zH rfl rfl (zq zr28 rfl) (fun b1=> ?_)
 refine zf<|zd<|ze<|ze<|za<|e_mv rfl<|e_mv rfl<|e_p (zD ya rfl)<|e_p (zY rfl rfl)<|zf<|zd<|zC rfl (fun hlt=> ?_) (fun hlt=> ?_)
 ·
  refine ze<|za<|e_mv rfl<|e_mv rfl<|r_vl rfl rfl (zja (x0:=(l1.getD i (none:Option Rat))) 0 i rfl ya sz28 rfl (by first|rfl|assumption|(simp;done)|omega) rfl rfl (gD (d:=(none:Option Rat)) om)) ?_
  rintro ⟨b2,o3,w4,w5⟩ -
  dsimp only [aq,nq,cq]
  refine zha open_rE<|e_ru (zO (j:=0) 0 ty28 rfl rfl rfl (.t4 .nil))<|zi 0 rfl rfl rfl rfl rfl sz28 rfl (.t4 .nil) .z<|zf<|zd<|zE<|zp ?_
  exact zw Tryz.results48 (w4,w5,((l1.getD i none).isSome)) trivial (zn 0 ty28 rfl rfl (.t4 .nil)) rfl (ho:=(.n:PickO _ _ _)) ((.c (j:=1) rfl .n):SelR _ _ _)
 ·
  refine zB<|zd<|ze<|za<|zk rfl rfl (.n) ce52 (zoc) (.n) ?_
  rintro ⟨w36,w47⟩ -
  dsimp only [aq,nq,cq]
  refine zi 0 rfl rfl rfl rfl rfl sz28 rfl (.t4 .nil) .z<|zf<|zd<|zE ?_
  exact zw Tryz.results48 (w36,w47,true) trivial (zn 0 ty28 rfl rfl (.t4 .nil)) rfl (ho:=(.n:PickO _ _ _)) ((.e (j:=0) rfl (by rw [Po.at_end om]) .n):SelR _ _ _)
theorem zHa {p1:Option Addr} {n1:Nat} {c1:Nat} {l1:List (Option Rat)} (hn1:l1.length=n1) (hm1:n1≤1000) (hb1:∀i,ye ((Po.vals l1).getD i 0)≤1000000000000):Con yd 28 [.slice p1 n1 c1] [] [slF rE p1 c1 l1] (Y:=(Option Addr)×Nat) (fun y=>True) (fun y=> .slice (y.1) ((Po.cl (Po.vals l1)).length) (y.2)) (fun y=>[]) (fun y=>[slF rQ (y.1) (y.2) (Po.cl (Po.vals l1))]):=by
 refine zl Tryz.func28 rfl rfl rfl (fun c=> ?_)
 show RunC _ _ _ _ _ [(0,.slice p1 n1 c1)] [] [slF rE p1 c1 l1]
 refine zP 0 rfl (fun hL0=> ?_)
 refine ze<|za<|e_p (zb rfl)<|zf<|zd<|ze<|za<|zqa rfl rfl (zea rQ ya inf28) (fun b1 _=> ?_)
 refine e_p (zb rfl)<|zf<|zd<|ze<|ze<|za<|e_p (zb rfl)<|zf<|zd<|zv<|zfa (X:=Nat×(Option Addr)×Nat×(List Rat)) (fun x:Nat×(Option Addr)×Nat×(List Rat)=>x.1≤n1∧x.2.2.2=(Po.vals l1).take x.1) (fun x=>[(3,.slice (x.2.1) (x.2.2.2.length) (x.2.2.1)),(4,.int .i64 ((x.1:Nat):Int)),(2,.slice none 0 0),(0,.slice p1 n1 c1)]) (fun x=>[rowA 28 rQ (x.2.1) (x.2.2.1) (x.2.2.2)]) (fun x=>[slF rE p1 c1 l1]) (fun x:Nat×(Option Addr)×Nat×(List Rat)=>n1 - x.1) (0,some ⟨b1,0,none⟩,0,([]:List Rat)) (show 0≤n1∧([]:List Rat)=(Po.vals l1).take 0 from by exact ⟨Nat.zero_le _,rfl⟩) ((.e rfl (by first|rfl|(congr 1;omega)|simp_all) (.e rfl (by first|rfl|(congr 1;omega)|simp_all) (.c rfl (.c rfl .n)))):SubM _ _) (ho:=((.e (i:=0) rfl (by first|rfl|(congr 1;omega)|simp_all) .n):PickO _ _ _)) ((.c (j:=0) rfl .n):SelR _ _ _) ?_
 rintro ⟨i,pR,cR,A⟩ hI
 replace hI:i≤n1∧A=(Po.vals l1).take i:=hI
 try dsimp only
 obtain ⟨hi,hA⟩:=hI
 have hAl:A.length=i:=by rw [hA,List.length_take,Po.vals_len];omega
 refine ze<|ze<|za<|e_mv rfl<|e_mv rfl<|e_p (zD yb rfl)<|e_p (zY rfl rfl)<|zf<|zd<|zC rfl (fun h2=> ?_) (fun h2=> ?_)
 ·
  refine zB<|zd<|ze<|zv<|za<|e_mv rfl<|e_mv rfl<|e_mv rfl<|r_vl rfl rfl (zja (x0:=(l1.getD i (none:Option Rat))) 0 i rfl yb sz28 rfl (by first|rfl|assumption|(simp;done)|omega|(rw [List.length_take];omega)) rfl rfl (gD (d:=(none:Option Rat)) om)) ?_
  rintro ⟨b3,o4,w5,w6⟩ -
  dsimp only [aq,nq,cq]
  refine zha open_rE<|e_ru (zO (j:=0) 0 ty28 rfl rfl rfl (.t4 .nil))<|zk rfl rfl (.c rfl .n) ce55 (zva (k1:=(l1.getD i (none:Option Rat)).isSome) (u1:=w5) (v1:=w6) (q1:=((l1.getD i (none:Option Rat)).getD 0))) (.c (j:=1) rfl .n) ?_
  rintro ⟨w37,w48⟩ -
  dsimp only [aq,nq,cq]
  refine zqa rfl rfl (zoa (r:=rQ) (k:=1) ya inf28 rfl dd dd dd (.c (x:=((l1.getD i (none:Option Rat)).getD 0)) (cs:=[w37.b,w37.l,w48.b,w48.l]) (w37,w48) rfl rfl rfl (fun g hr=>Holds.get 0 rfl hr) .n)) (fun b9 _=> ?_)
  refine zV 0 rfl .z<|zya 1 rfl rfl rfl (zma 0 rfl ya inf28 dd rfl rfl (by first|rfl|assumption|(simp;done)|omega|(rw [List.length_take];omega)) rfl (by first|rfl|assumption|(simp;done)|omega|(rw [List.length_take];omega)) om om) (fun _=>(.s .z)) ?_
  rintro ⟨p10,c11⟩ -
  dsimp only [aq,nq,cq]
  refine e_p (zb rfl)<|zf<|zL<|zd<|za<|e_mv rfl<|e_p (zJ (z:=(((i+1):Nat):Int)) rfl rfl (w64 om))<|e_p (zb rfl)<|zf<|zT ((i+1),p10,c11,(A++([((l1.getD i (none:Option Rat)).getD 0)]))) (show (i+1)≤n1∧(A++([((l1.getD i (none:Option Rat)).getD 0)]))=(Po.vals l1).take (i+1) from by exact ⟨by omega,by rw [hA];exact Po.vals_take om⟩) (by show n1 - (i+1)<n1 - i;omega) ((.e rfl (by simp) (.of rfl)):SubM _ _) (ho:=((.c (i:=1) rfl .n):PickO _ _ _)) ((.c (j:=5) rfl .n):SelR _ _ _)
 ·
  refine zbb 0 rfl .z<|zP 0 rfl (fun hLc=> ?_)
  have hAv:A=(Po.vals l1):=by rw [hA,List.take_of_length_le (by rw [Po.vals_len];omega)]
  refine zca<|zh<|zh<|zt<|zd<|ze<|zv<|zfa (X:=Nat) (fun x:Nat=>x≤n1∧Po.tn (Po.vals l1) n1=Po.tn (Po.vals l1) x) (fun x=>[(3,.slice pR x cR),(2,.slice none 0 0)]) (fun x=>[]) (fun x=>[slF rQ pR cR (A.take x),slF rQ pR cR A,slF rE p1 c1 l1]) (fun x:Nat=>x) n1 (show n1≤n1∧Po.tn (Po.vals l1) n1=Po.tn (Po.vals l1) n1 from by exact ⟨by omega,rfl⟩) ((.e rfl (by rw [hAl,show i=n1 by omega]) (.c rfl .n)):SubM _ _) (ho:=(.n:PickO _ _ _)) ((.e (j:=0) rfl (by rw [List.take_of_length_le om]) (.of [0,1] rfl)):SelR _ _ _) ?_
  rintro j hI
  replace hI:j≤n1∧Po.tn (Po.vals l1) n1=Po.tn (Po.vals l1) j:=hI
  try dsimp only
  obtain ⟨hj,hT⟩:=hI
  have hTl:(A.take j).length=j:=by rw [List.length_take];omega
  refine ze<|zQa (X:=Unit) (fun x=>True) (fun x=>[(32,.bool (decide ((0<((j:Nat):Int))∧(Big.sgq ((A.take j).getD ((((j:Nat):Int) - 1).toNat) (0:Rat))=0)))),(3,.slice pR j cR),(2,.slice none 0 0)]) (fun x=>[]) (fun x=>[slF rQ pR cR (A.take j),slF rQ pR cR A,slF rE p1 c1 l1]) ?_ ?_
  ·
   refine za<|e_mv rfl<|e_p (zD ya rfl)<|e_p (zwa rfl rfl)<|zS rfl rfl (zaa rfl) (fun g1=> ?_) (fun g1=> ?_)
   ·
    refine e_mv rfl<|e_mv rfl<|e_p (zD ya rfl)<|e_p (zZ (z:=(((j:Nat):Int) - 1)) rfl rfl (w64 om))<|r_vl rfl rfl (zja (x0:=((A.take j).getD ((((j:Nat):Int) - 1).toNat) (0:Rat))) 0 ((((j:Nat):Int) - 1).toNat) rfl ya sz28 rfl (by first|rfl|assumption|(simp;done)|omega|(rw [List.length_take];omega)) rfl om (gD (d:=(0:Rat)) om)) ?_
    rintro ⟨b12,o13,w14,w15⟩ -
    dsimp only [aq,nq,cq]
    refine zha open_rQ<|e_ru (zO (j:=0) 0 ty28 rfl rfl rfl (.t4 .nil))<|zM rfl rfl (.c rfl .n) ce63 (zTb (k1:=true) (u1:=w14) (v1:=w15) (q1:=((A.take j).getD ((((j:Nat):Int) - 1).toNat) (0:Rat))) (hl:=by exact Nat.le_trans (Po.take_hq (K:=1000000000000) dd (hAv ▸ hb1) _) dd)) (.c (j:=1) rfl .n)<|e_p (zna rfl rfl)<|e_p (zy rfl rfl)<|zf ?_
    exact zka () (show True from by first|trivial|omega|simp_all) ((.e rfl (congrArg Value.bool (by first|(exact (decide_eq_false (fun k=>g1 k.1)).symm)|exact decide_eq_decide.2 ⟨fun k=>⟨g1,k⟩,fun k=>k.2⟩)) (.c rfl (.c rfl .n))):SubM _ _) (ho:=(.n:PickO _ _ _)) ((.of [2,3,4] rfl):SelR _ _ _)
   ·
    refine e_no<|e_no<|e_no<|e_no<|e_no<|e_no<|e_no<|e_no<|e_p (zy rfl rfl)<|zf ?_
    exact zka () (show True from by first|trivial|omega|simp_all) ((.e rfl (congrArg Value.bool (by first|(exact (decide_eq_false (fun k=>g1 k.1)).symm)|exact decide_eq_decide.2 ⟨fun k=>⟨g1,k⟩,fun k=>k.2⟩)) (.c rfl (.c rfl .n))):SubM _ _) (ho:=(.n:PickO _ _ _)) ((.of [0,1,2] rfl):SelR _ _ _)
  ·
   rintro ⟨⟩ -
   try dsimp only
   refine zC rfl (fun hz=> ?_) (fun hz=> ?_)
   ·
    refine zB<|zd<|zv<|za<|e_mv rfl<|e_mv rfl<|e_p (zD ya rfl)<|e_p (zZ (z:=(((j:Nat):Int) - 1)) rfl rfl (w64 om))<|e_p (zkb (hi:=(((j:Nat):Int) - 1).toNat) ya sz28 rfl (.s rfl) (.inr ⟨_,congrArg some (congrArg (Value.int .i64) om)⟩) om)<|zWb (zPb 0 rfl ((((j:Nat):Int) - 1).toNat) om) (fun _ _=> ?_)
    refine e_p (zb rfl)<|zf<|zL<|zT (j - 1) (show (j - 1)≤n1∧Po.tn (Po.vals l1) n1=Po.tn (Po.vals l1) (j - 1) from by exact ⟨by omega,hT.trans (Po.tn_yes om (hAv ▸ Po.hz_getT om hz.2))⟩) (by have h9:=hz.1;omega) ((.e rfl (by congr 1;omega) (.c rfl .n)):SubM _ _) (ho:=(.n:PickO _ _ _)) ((.e (j:=0) rfl (by rw [Po.take_tt om]) (.of [2,3] rfl)):SelR _ _ _)
   ·
    refine zca<|zh<|zh<|zt<|zd<|ze<|za<|e_mv rfl<|e_p (zb rfl)<|zf<|zd<|zE ?_
    have hv9:(Po.cl (Po.vals l1))=A.take j:=by rw [Po.cl_take (by rw [Po.vals_len];exact hn1) hT (Po.tn_no (hAv ▸ Po.hz_noT hz)),hAv]
    exact zw Tryz.results28 (pR,cR) trivial (zo rfl) (by rw [hv9,List.length_take,Nat.min_eq_left om]) (ho:=(.n:PickO _ _ _)) ((.e (j:=0) rfl (by rw [hv9]) .n):SelR _ _ _)
theorem zSd {p1:Option Addr} {n1:Nat} {c1:Nat} {l1:List (Option Rat)} {u1:Wd} {v1:Wd} {x1:Option Rat} (hn1:l1.length=n1) (hm1:n1≤1000) (hx:ye (x1.getD 0)≤200000000000) (hb1:∀i,ye ((l1.getD i none).getD 0)≤200000000000) (hs:∀i,ye (Po.ev (x1.getD 0) ((Po.vals l1).drop i))≤200000000000):Con yd 35 [.slice p1 n1 c1,.agg #[u1.b,u1.l,v1.b,v1.l]] [] [slF rE p1 c1 l1,eF u1 v1 x1] (Y:=Wd×Wd) (fun y=>True) (fun y=> .agg #[y.1.b,y.1.l,y.2.b,y.2.l]) (fun y=>[]) (fun y=>[qF true y.1 y.2 (Po.ev (x1.getD 0) (Po.vals l1))]):=by
 refine zl Tryz.func35 rfl rfl rfl (fun c=> ?_)
 show RunC _ _ _ _ _ [(0,.slice p1 n1 c1),(1,.agg #[u1.b,u1.l,v1.b,v1.l])] [] [slF rE p1 c1 l1,eF u1 v1 x1]
 refine zP 0 rfl (fun hL0=> ?_)
 refine ze<|za<|zH rfl rfl (zN rfl rfl) (fun b1=> ?_)
 refine zH rfl rfl (zq zr28 rfl) (fun b2=> ?_)
 refine zf<|zd<|ze<|zJc (qF x1.isSome u1 v1 (x1.getD 0)) (eF_weak 1 rfl)<|za<|zk rfl rfl (.n) ce52 (zoc) (.n) ?_
 rintro ⟨w33,w44⟩ -
 dsimp only [aq,nq,cq]
 refine zH rfl rfl (zq zr28 rfl) (fun b5=> ?_)
 refine zi 0 rfl rfl rfl rfl rfl sz28 rfl (.t4 .nil) .z<|zf<|zd<|ze<|ze<|za<|e_mv rfl<|e_p (zD ya rfl)<|e_p (zZ (z:=(((n1:Nat):Int) - 1)) rfl rfl (w64 om))<|e_p (zb rfl)<|zf<|zd<|zv<|zfa (X:=Nat×Wd×Wd) (fun x:Nat×Wd×Wd=>x.1≤n1) (fun x=>[(6,.int .i64 (((x.1:Nat):Int) - 1)),(5,.pointer (some ⟨b5,0,none⟩)),(4,.pointer (some ⟨b2,0,none⟩)),(3,.pointer (some ⟨b1,0,none⟩)),(0,.slice p1 n1 c1)]) (fun x=>[boxA b5 28 (cw [x.2.1,x.2.2]),boxA b2 28 (cw [wz,wz]),boxA b1 28 (cw [u1,v1])]) (fun x=>[qF true x.2.1 x.2.2 (Po.ev (x1.getD 0) ((Po.vals l1).drop x.1)),qF true w33 w44 ((0:Int):Rat),qF x1.isSome u1 v1 (x1.getD 0),slF rE p1 c1 l1,eF u1 v1 x1]) (fun x:Nat×Wd×Wd=>x.1) (n1,w33,w44) (show n1≤n1 from by exact Nat.le_refl _) ((.of rfl):SubM _ _) (ho:=((.of [0,0,0] rfl):PickO _ _ _)) ((.e (j:=0) rfl (by rw [Po.ev_top hn1]) (.of [0,1,2,3] rfl)):SelR _ _ _) ?_
 rintro ⟨i,su,sv⟩ hI
 replace hI:i≤n1:=hI
 try dsimp only [cw]
 refine ze<|ze<|za<|e_mv rfl<|e_p (zWa rfl rfl)<|zf<|zd<|zC rfl (fun h12=> ?_) (fun h12=> ?_)
 ·
  refine zB<|zd<|ze<|zv<|zW (OW:=[boxA b5 28 (cw [su,sv])]) (O:=[boxA b2 28 (cw [wz,wz]),boxA b1 28 (cw [u1,v1])]) 8 mixed (.block (.then (.then (.block (.then .ret))))) kr<|e_uw 0 rfl rfl (zc 0 ty28 rfl rfl (.t4 .nil))<|e_uw 1 rfl rfl (zc 2 ty28 rfl rfl (.t4 .nil))<|e_dm 3 rfl rfl rfl<|e_dm 4 rfl rfl rfl ?_
  have e6:((((i:Nat):Int) - 1):Int)=(((i - 1):Nat):Int):=by omega
  rw [e6]
  refine d_vl 5 rfl rfl kr kr rfl rfl (zja (x0:=(l1.getD (i - 1) (none:Option Rat))) 3 (i - 1) rfl ya sz28 rfl (by first|rfl|assumption|(simp;done)|omega) rfl rfl (gD (d:=(none:Option Rat)) om)) ?_
  rintro ⟨b7,o8,w9,w10⟩ -
  dsimp only [aq,nq,cq]
  refine zTa open_rE<|e_u 6 rfl rfl (zO (j:=0) 0 ty28 rfl rfl rfl (.t4 .nil))<|e_one 2 (zu rfl rfl rfl rfl (.c rfl (.c rfl .n)) ce24 (znc (k1:=true) (u1:=su) (v1:=sv) (q1:=(Po.ev (x1.getD 0) ((Po.vals l1).drop i))) (k2:=x1.isSome) (u2:=u1) (v2:=v1) (q2:=(x1.getD 0)) (hl:=by have h1:=hs i;omega)) (.c (j:=3) rfl (.c (j:=5) rfl .n)) ?_)
  rintro ⟨w311,w412⟩ -
  dsimp only [aq,nq,cq]
  refine e_one 7 (zu rfl rfl rfl rfl (.c rfl (.c rfl .n)) ce23 (zKb (k1:=true) (u1:=w311) (v1:=w412) (q1:=(Po.ev (x1.getD 0) ((Po.vals l1).drop i))*(x1.getD 0)) (k2:=(l1.getD (i - 1) (none:Option Rat)).isSome) (u2:=w9) (v2:=w10) (q2:=((l1.getD (i - 1) (none:Option Rat)).getD 0)) (hl:=by have h1:=hs i;have h2:=Big.hq_mul (Po.ev (x1.getD 0) ((Po.vals l1).drop i)) (x1.getD 0);have h3:=hb1 (i - 1);omega)) (.c (j:=0) rfl (.c (j:=2) rfl .n)) ?_)
  rintro ⟨w313,w414⟩ -
  dsimp only [aq,nq,cq]
  refine e_one 8 (zA kr rfl rfl rfl rfl rfl sz28 rfl (.t4 .nil) ?_)
  refine zU kr<|zL<|zd<|za<|e_mv rfl<|e_p (zZ (z:=((((i - 1):Nat):Int) - 1)) rfl rfl (w64 om))<|e_p (zb rfl)<|zf<|zT ((i - 1),w313,w414) (show (i - 1)≤n1 from by omega) om ((.e rfl (by first|rfl|(congr 1;done)|(congr 1;omega)) (.of rfl)):SubM _ _) (ho:=((.of [0,0,0] rfl):PickO _ _ _)) ((.e (j:=0) rfl (by rw [← Po.vals_get,Po.ev_step om (by rw [Po.vals_len];omega)]) (.of [6,7,8,9] rfl)):SelR _ _ _)
 ·
  refine zca<|zh<|zh<|zt<|zd<|ze<|za<|e_ru (zc 0 ty28 rfl rfl (.t4 .nil))<|zi 1 rfl rfl rfl rfl rfl sz28 rfl (.t4 .nil) (.s .z)<|zf<|zd<|zE ?_
  have hi0:i=0:=by omega
  have hv9:(Po.ev (x1.getD 0) ((Po.vals l1).drop i))=Po.ev (x1.getD 0) (Po.vals l1):=by rw [hi0];rfl
  exact zw Tryz.results35 (su,sv) trivial (zn 1 ty28 rfl rfl (.t4 .nil)) rfl (ho:=(.n:PickO _ _ _)) ((.e (j:=0) rfl (by rw [← hv9]) .n):SelR _ _ _)
theorem zWc {p1:Option Addr} {n1:Nat} {c1:Nat} {l1:List (Option Rat)} (hn1:l1.length=n1) (hm1:n1≤1000) (hb1:∀i,ye ((l1.getD i none).getD 0)≤200000000000):Con yd 34 [.slice p1 n1 c1] [] [slF rE p1 c1 l1] (Y:=(Option Addr)×Nat) (fun y=>True) (fun y=> .slice (y.1) ((Po.der (Po.vals l1)).length) (y.2)) (fun y=>[]) (fun y=>[slF rQ (y.1) (y.2) (Po.der (Po.vals l1))]):=by
 refine zl Tryz.func34 rfl rfl rfl (fun c=> ?_)
 show RunC _ _ _ _ _ [(0,.slice p1 n1 c1)] [] [slF rE p1 c1 l1]
 refine zP 0 rfl (fun hL0=> ?_)
 refine ze<|za<|e_p (zb rfl)<|zf<|zd<|ze<|za<|zqa rfl rfl (zea rQ yb inf28) (fun b1 _=> ?_)
 refine e_p (zb rfl)<|zf<|zd<|ze<|ze<|za<|e_p (zb rfl)<|zf<|zd<|zv<|zfa (X:=Nat×(Option Addr)×Nat×(List Rat)) (fun x:Nat×(Option Addr)×Nat×(List Rat)=>1≤x.1∧x.1≤max 1 n1∧x.2.2.2=Po.gen (Po.dg' l1) (x.1 - 1)) (fun x=>[(3,.slice (x.2.1) (x.2.2.2.length) (x.2.2.1)),(4,.int .i64 ((x.1:Nat):Int)),(2,.slice none 0 0),(0,.slice p1 n1 c1)]) (fun x=>[rowA 28 rQ (x.2.1) (x.2.2.1) (x.2.2.2)]) (fun x=>[slF rE p1 c1 l1]) (fun x:Nat×(Option Addr)×Nat×(List Rat)=>n1 - x.1) (1,some ⟨b1,0,none⟩,0,([]:List Rat)) (show 1≤1∧1≤max 1 n1∧([]:List Rat)=Po.gen (Po.dg' l1) (1 - 1) from by exact ⟨by omega,by omega,rfl⟩) ((.e rfl (by first|rfl|(congr 1;omega)|simp_all) (.e rfl (by first|rfl|(congr 1;omega)|simp_all) (.c rfl (.c rfl .n)))):SubM _ _) (ho:=((.e (i:=0) rfl (by first|rfl|(congr 1;omega)|simp_all) .n):PickO _ _ _)) ((.c (j:=0) rfl .n):SelR _ _ _) ?_
 rintro ⟨i,pR,cR,A⟩ hI
 replace hI:1≤i∧i≤max 1 n1∧A=Po.gen (Po.dg' l1) (i - 1):=hI
 try dsimp only
 obtain ⟨hi1,hi,hA⟩:=hI
 have hAl:A.length=i - 1:=by rw [hA,Po.gen_len]
 refine ze<|ze<|za<|e_mv rfl<|e_mv rfl<|e_p (zD ya rfl)<|e_p (zY rfl rfl)<|zf<|zd<|zC rfl (fun h2=> ?_) (fun h2=> ?_)
 ·
  refine zB<|zd<|ze<|zv<|zW (OW:=[rowA 28 rQ pR cR A]) (O:=[]) 9 mixed (.block (.then (.then (.block (.then .ret))))) kr<|e_dm 0 rfl rfl rfl<|e_dm 1 rfl rfl rfl<|e_dm 2 rfl rfl rfl<|d_vl 3 rfl rfl kr kr rfl rfl (zja (x0:=(l1.getD i (none:Option Rat))) 0 i rfl ya sz28 rfl (by first|rfl|assumption|(simp;done)|omega) rfl rfl (gD (d:=(none:Option Rat)) om)) ?_
  rintro ⟨b3,o4,w5,w6⟩ -
  dsimp only [aq,nq,cq]
  refine zTa open_rE<|e_u 4 rfl rfl (zO (j:=0) 0 ty28 rfl rfl rfl (.t4 .nil))<|e_dm 5 rfl rfl rfl<|e_one 6 (zu rfl rfl rfl rfl (.c rfl .n) ce42 (zPa (z:=((i:Nat):Int)) (hz:=cbo)) (.n) ?_)
  rintro ⟨w37,w48⟩ -
  dsimp only [aq,nq,cq]
  refine e_one 7 (zu rfl rfl rfl rfl (.c rfl (.c rfl .n)) ce24 (znc (k1:=(l1.getD i (none:Option Rat)).isSome) (u1:=w5) (v1:=w6) (q1:=((l1.getD i (none:Option Rat)).getD 0)) (k2:=true) (u2:=w37) (v2:=w48) (q2:=((((i:Nat):Int):Int):Rat)) (hl:=by have h1:=hb1 i;have h2:=Big.hq_64 (z:=((i:Nat):Int)) om om;omega)) (.c (j:=2) rfl (.c (j:=0) rfl .n)) ?_)
  rintro ⟨w39,w410⟩ -
  dsimp only [aq,nq,cq]
  refine e_one 8 (zGe rfl rfl rfl rfl (zoa (r:=rQ) (k:=1) yb inf28 rfl dd dd dd (.c (x:=(((l1.getD i (none:Option Rat)).getD 0)*((((i:Nat):Int):Int):Rat))) (cs:=[w39.b,w39.l,w410.b,w410.l]) (w39,w410) rfl rfl rfl (fun g hr=>Holds.get 0 rfl hr) .n)) (fun b11 _=> ?_))
  refine zQb 0 rfl .z<|e_one 9 (zWd (A':=fun v:Option Addr×Nat=>rowA 28 rQ v.1 v.2 (A++([(((l1.getD i (none:Option Rat)).getD 0)*((((i:Nat):Int):Int):Rat))]))) kr rfl rfl rfl (zma 0 rfl yb inf28 dd rfl rfl (by first|rfl|assumption|(simp;done)|omega) rfl (by first|rfl|assumption|(simp;done)|omega) om om) ?_)
  rintro ⟨p12,c13⟩ -
  dsimp only [aq,nq,cq]
  refine e_pv 10 rfl rfl (zb rfl)<|zU kr<|zL<|zd<|za<|e_mv rfl<|e_p (zJ (z:=(((i+1):Nat):Int)) rfl rfl (w64 om))<|e_p (zb rfl)<|zf<|zT ((i+1),p12,c13,(A++([(((l1.getD i (none:Option Rat)).getD 0)*((((i:Nat):Int):Int):Rat))]))) (show 1≤(i+1)∧(i+1)≤max 1 n1∧(A++([(((l1.getD i (none:Option Rat)).getD 0)*((((i:Nat):Int):Int):Rat))]))=Po.gen (Po.dg' l1) ((i+1) - 1) from by exact ⟨by omega,by omega,by rw [hA];exact Po.dg'_step hi1⟩) (by show n1 - (i+1)<n1 - i;omega) ((.e rfl (by simp) (.of rfl)):SubM _ _) (ho:=((.c (i:=0) rfl .n):PickO _ _ _)) ((.c (j:=6) rfl .n):SelR _ _ _)
 ·
  refine zca<|zh<|zh<|zt<|zd<|ze<|zbb 0 rfl .z<|za<|e_mv rfl<|zha (addQE 0 rfl)<|zk rfl rfl (.c rfl .n) ce28 (zHa (p1:=pR) (n1:=A.length) (c1:=cR) (l1:=(A.map some)) (hn1:=by exact List.length_map _) (hm1:=cbo) (hb1:=by intro j;rw [hA];exact Nat.le_trans (Po.dg'_hq om hb1 j) dd)) (.c (j:=0) rfl .n) ?_
  rintro ⟨p914,c915⟩ -
  dsimp only [aq,nq,cq]
  refine e_p (zb rfl)<|zf<|zd<|zE ?_
  have hv9:Po.cl (Po.vals (A.map some))=(Po.der (Po.vals l1)):=by rw [hA];exact Po.dg'_der hn1 om
  exact zw Tryz.results34 (p914,c915) trivial (zo rfl) (by rw [hv9]) (ho:=(.n:PickO _ _ _)) ((.e (j:=0) rfl (by rw [hv9]) .n):SelR _ _ _)
end Go.Proofs.YtbiaimgafknkmaaGreat.Sp
namespace Go.Proofs.YtbiaimgafknkmaaGreat.Sp
open Go
set_option linter.unusedVariables false
set_option maxRecDepth 100000
set_option maxHeartbeats 8000000
theorem zCe {p1:Option Addr} {n1:Nat} {c1:Nat} {l1:List (Option Rat)} {p2:Option Addr} {n2:Nat} {c2:Nat} {l2:List (Option Rat)} (hn1:l1.length=n1) (hm1:n1≤1000) (hn2:l2.length=n2) (hm2:n2≤1000) (hb:∀i,ye ((l1.getD i none).getD 0)+ye ((l2.getD i none).getD 0)+1≤1000000000000):Con yd 14 [.slice p1 n1 c1,.slice p2 n2 c2] [] [slF rE p1 c1 l1,slF rE p2 c2 l2] (Y:=(Option Addr)×Nat) (fun y=>True) (fun y=> .slice (y.1) ((Po.add (Po.vals l1) (Po.vals l2)).length) (y.2)) (fun y=>[]) (fun y=>[slF rQ (y.1) (y.2) (Po.add (Po.vals l1) (Po.vals l2))]):=by
 refine zl Tryz.func14 rfl rfl rfl (fun c=> ?_)
 show RunC _ _ _ _ _ [(0,.slice p1 n1 c1),(1,.slice p2 n2 c2)] [] [slF rE p1 c1 l1,slF rE p2 c2 l2]
 refine zP 0 rfl (fun hL0=> ?_)
 refine zP 1 rfl (fun hL1=> ?_)
 refine ze<|za<|e_p (zb rfl)<|zf<|zd<|ze<|za<|zqa rfl rfl (zea rQ yb inf28) (fun b1 _=> ?_)
 refine e_p (zb rfl)<|zf<|zd<|ze<|ze<|za<|e_p (zb rfl)<|zf<|zd<|zv<|zfa (X:=Nat×(Option Addr)×Nat×(List Rat)) (fun x:Nat×(Option Addr)×Nat×(List Rat)=>x.1≤max n1 n2∧x.2.2.2=Po.gen (Po.ag l1 l2) x.1) (fun x=>[(5,.slice (x.2.1) (x.2.2.2.length) (x.2.2.1)),(6,.int .i64 ((x.1:Nat):Int)),(4,.slice none 0 0),(0,.slice p1 n1 c1),(1,.slice p2 n2 c2)]) (fun x=>[rowA 28 rQ (x.2.1) (x.2.2.1) (x.2.2.2)]) (fun x=>[slF rE p1 c1 l1,slF rE p2 c2 l2]) (fun x:Nat×(Option Addr)×Nat×(List Rat)=>max n1 n2 - x.1) (0,some ⟨b1,0,none⟩,0,([]:List Rat)) (show 0≤max n1 n2∧([]:List Rat)=Po.gen (Po.ag l1 l2) 0 from by exact ⟨by omega,rfl⟩) ((.e rfl (by first|rfl|(congr 1;omega)|simp_all) (.e rfl (by first|rfl|(congr 1;omega)|simp_all) (.of rfl))):SubM _ _) (ho:=((.e (i:=0) rfl (by first|rfl|(congr 1;omega)|simp_all) .n):PickO _ _ _)) ((.of [0,1] rfl):SelR _ _ _) ?_
 rintro ⟨i,pR,cR,A⟩ hI
 replace hI:i≤max n1 n2∧A=Po.gen (Po.ag l1 l2) i:=hI
 try dsimp only
 obtain ⟨hi,hA⟩:=hI
 have hAl:A.length=i:=by rw [hA,Po.gen_len]
 refine ze<|zQa (X:=Unit) (fun x=>True) (fun x=>[(17,.bool (decide ((((i:Nat):Int)<((n1:Nat):Int))∨(((i:Nat):Int)<((n2:Nat):Int))))),(5,.slice pR (A.length) cR),(6,.int .i64 ((i:Nat):Int)),(4,.slice none 0 0),(0,.slice p1 n1 c1),(1,.slice p2 n2 c2)]) (fun x=>[rowA 28 rQ pR cR A]) (fun x=>[slF rE p1 c1 l1,slF rE p2 c2 l2]) ?_ ?_
 ·
  refine za<|e_mv rfl<|e_mv rfl<|e_p (zD ya rfl)<|e_p (zY rfl rfl)<|zS rfl rfl (zaa rfl) (fun g1=> ?_) (fun g1=> ?_)
  ·
   refine e_no<|e_no<|e_no<|e_no<|e_p (zy rfl rfl)<|zf ?_
   exact zka () (show True from by first|trivial|omega|simp_all) ((.e rfl (congrArg Value.bool (by first|(exact (decide_eq_true (Or.inl g1)).symm)|exact decide_eq_decide.2 ⟨fun k=>Or.inr k,fun k=>k.elim (fun e=>absurd e g1) _root_.id⟩)) (.of rfl)):SubM _ _) (ho:=((.c (i:=0) rfl .n):PickO _ _ _)) ((.of [0,1] rfl):SelR _ _ _)
  ·
   refine e_mv rfl<|e_mv rfl<|e_p (zD ya rfl)<|e_p (zY rfl rfl)<|e_p (zy rfl rfl)<|zf ?_
   exact zka () (show True from by first|trivial|omega|simp_all) ((.e rfl (congrArg Value.bool (by first|(exact (decide_eq_true (Or.inl g1)).symm)|exact decide_eq_decide.2 ⟨fun k=>Or.inr k,fun k=>k.elim (fun e=>absurd e g1) _root_.id⟩)) (.of rfl)):SubM _ _) (ho:=((.c (i:=0) rfl .n):PickO _ _ _)) ((.of [0,1] rfl):SelR _ _ _)
 ·
  rintro ⟨⟩ -
  try dsimp only
  refine zC rfl (fun h17=> ?_) (fun h17=> ?_)
  ·
   refine zB<|zd<|ze<|zv<|za<|e_mv rfl<|e_mv rfl<|e_mv rfl<|zk rfl rfl (.c rfl (.c rfl .n)) ce48 (zAf (p1:=p1) (n1:=n1) (c1:=c1) (l1:=l1) (i:=i) (hn1:=ass) (hm1:=ass) (hi:=cbo)) (.c (j:=0) rfl .n) ?_
   rintro ⟨w32,w43,k94⟩ -
   dsimp only [aq,nq,cq]
   refine e_mv rfl<|e_mv rfl<|zk rfl rfl (.c rfl (.c rfl .n)) ce48 (zAf (p1:=p2) (n1:=n2) (c1:=c2) (l1:=l2) (i:=i) (hn1:=ass) (hm1:=ass) (hi:=cbo)) (.c (j:=2) rfl .n) ?_
   rintro ⟨w35,w46,k97⟩ -
   dsimp only [aq,nq,cq]
   refine zk rfl rfl (.c rfl (.c rfl .n)) ce23 (zKb (k1:=k94) (u1:=w32) (v1:=w43) (q1:=((l1.getD i none).getD 0)) (k2:=k97) (u2:=w35) (v2:=w46) (q2:=((l2.getD i none).getD 0)) (hl:=by have h1:=hb i;omega)) (.c (j:=1) rfl (.c (j:=0) rfl .n)) ?_
   rintro ⟨w38,w49⟩ -
   dsimp only [aq,nq,cq]
   refine zqa rfl rfl (zoa (r:=rQ) (k:=1) yb inf28 rfl dd dd dd (.c (x:=(((l1.getD i none).getD 0)+((l2.getD i none).getD 0))) (cs:=[w38.b,w38.l,w49.b,w49.l]) (w38,w49) rfl rfl rfl (fun g hr=>Holds.get 0 rfl hr) .n)) (fun b10 _=> ?_)
   refine zV 0 rfl .z<|zya 1 rfl rfl rfl (zma 0 rfl yb inf28 dd rfl rfl (by first|rfl|assumption|(simp;done)|omega) rfl (by first|rfl|assumption|(simp;done)|omega) om om) (fun _=>(.s .z)) ?_
   rintro ⟨p11,c12⟩ -
   dsimp only [aq,nq,cq]
   refine e_p (zb rfl)<|zf<|zL<|zd<|za<|e_mv rfl<|e_p (zJ (z:=(((i+1):Nat):Int)) rfl rfl (w64 om))<|e_p (zb rfl)<|zf<|zT ((i+1),p11,c12,(A++([(((l1.getD i none).getD 0)+((l2.getD i none).getD 0))]))) (show (i+1)≤max n1 n2∧(A++([(((l1.getD i none).getD 0)+((l2.getD i none).getD 0))]))=Po.gen (Po.ag l1 l2) (i+1) from by exact ⟨by omega,by rw [hA];rfl⟩) (by show max n1 n2 - (i+1)<max n1 n2 - i;omega) ((.e rfl (by simp) (.of rfl)):SubM _ _) (ho:=((.c (i:=1) rfl .n):PickO _ _ _)) ((.of [4,5] rfl):SelR _ _ _)
  ·
   refine zca<|zh<|zh<|zt<|zd<|ze<|zbb 0 rfl .z<|za<|e_mv rfl<|zha (addQE 0 rfl)<|zk rfl rfl (.c rfl .n) ce28 (zHa (p1:=pR) (n1:=A.length) (c1:=cR) (l1:=(A.map some)) (hn1:=by exact List.length_map _) (hm1:=cbo) (hb1:=by intro j;rw [hA];exact Po.ag_hq hb j)) (.c (j:=0) rfl .n) ?_
   rintro ⟨p913,c914⟩ -
   dsimp only [aq,nq,cq]
   refine e_p (zb rfl)<|zf<|zd<|zE ?_
   have hv9:Po.cl (Po.vals (A.map some))=(Po.add (Po.vals l1) (Po.vals l2)):=by rw [hA];exact Po.ag_add om
   exact zw Tryz.results14 (p913,c914) trivial (zo rfl) (by rw [hv9]) (ho:=(.n:PickO _ _ _)) ((.e (j:=0) rfl (by rw [hv9]) .n):SelR _ _ _)
theorem zuc {p1:Option Addr} {n1:Nat} {c1:Nat} {l1:List (Option Rat)} {u1:Wd} {v1:Wd} {x1:Option Rat} (hn1:l1.length=n1) (hm1:n1≤1000) (hb:∀i,ye ((l1.getD i none).getD 0)+ye (x1.getD 0)+1≤1000000000000):Con yd 20 [.slice p1 n1 c1,.agg #[u1.b,u1.l,v1.b,v1.l]] [] [slF rE p1 c1 l1,eF u1 v1 x1] (Y:=(Option Addr)×Nat) (fun y=>True) (fun y=> .slice (y.1) ((Po.scl (Po.vals l1) (x1.getD 0)).length) (y.2)) (fun y=>[]) (fun y=>[slF rQ (y.1) (y.2) (Po.scl (Po.vals l1) (x1.getD 0))]):=by
 refine zl Tryz.func20 rfl rfl rfl (fun c=> ?_)
 show RunC _ _ _ _ _ [(0,.slice p1 n1 c1),(1,.agg #[u1.b,u1.l,v1.b,v1.l])] [] [slF rE p1 c1 l1,eF u1 v1 x1]
 refine zP 0 rfl (fun hL0=> ?_)
 refine ze<|za<|zH rfl rfl (zN rfl rfl) (fun b1=> ?_)
 refine e_p (zb rfl)<|zf<|zd<|ze<|zJc (qF x1.isSome u1 v1 (x1.getD 0)) (eF_weak 1 rfl)<|za<|zqa rfl rfl (zea rQ yb inf28) (fun b2 _=> ?_)
 refine e_p (zb rfl)<|zf<|zd<|ze<|ze<|za<|e_p (zb rfl)<|zf<|zd<|zv<|zfa (X:=Nat×(Option Addr)×Nat×(List Rat)) (fun x:Nat×(Option Addr)×Nat×(List Rat)=>x.1≤n1∧x.2.2.2=Po.gen (Po.sg' l1 (x1.getD 0)) x.1) (fun x=>[(5,.slice (x.2.1) (x.2.2.2.length) (x.2.2.1)),(6,.int .i64 ((x.1:Nat):Int)),(4,.slice none 0 0),(3,.pointer (some ⟨b1,0,none⟩)),(0,.slice p1 n1 c1)]) (fun x=>[rowA 28 rQ (x.2.1) (x.2.2.1) (x.2.2.2),boxA b1 28 (cw [u1,v1])]) (fun x=>[qF x1.isSome u1 v1 (x1.getD 0),slF rE p1 c1 l1,eF u1 v1 x1]) (fun x:Nat×(Option Addr)×Nat×(List Rat)=>n1 - x.1) (0,some ⟨b2,0,none⟩,0,([]:List Rat)) (show 0≤n1∧([]:List Rat)=Po.gen (Po.sg' l1 (x1.getD 0)) 0 from by exact ⟨by omega,rfl⟩) ((.e rfl (by first|rfl|(congr 1;omega)|simp_all) (.e rfl (by first|rfl|(congr 1;omega)|simp_all) (.of rfl))):SubM _ _) (ho:=((.e (i:=0) rfl (by first|rfl|(congr 1;omega)|simp_all) (.c (i:=0) rfl .n)):PickO _ _ _)) ((.of [0,1,2] rfl):SelR _ _ _) ?_
 rintro ⟨i,pR,cR,A⟩ hI
 replace hI:i≤n1∧A=Po.gen (Po.sg' l1 (x1.getD 0)) i:=hI
 try dsimp only [cw]
 obtain ⟨hi,hA⟩:=hI
 have hAl:A.length=i:=by rw [hA,Po.gen_len]
 refine ze<|ze<|za<|e_mv rfl<|e_mv rfl<|e_p (zD ya rfl)<|e_p (zY rfl rfl)<|zf<|zd<|zC rfl (fun h3=> ?_) (fun h3=> ?_)
 ·
  refine zB<|zd<|ze<|zv<|zW (OW:=[rowA 28 rQ pR cR A]) (O:=[boxA b1 28 (cw [u1,v1])]) 8 mixed (.block (.then (.then (.block (.then .ret))))) kr<|e_dm 0 rfl rfl rfl<|e_dm 1 rfl rfl rfl<|e_dm 2 rfl rfl rfl<|d_vl 3 rfl rfl kr kr rfl rfl (zja (x0:=(l1.getD i (none:Option Rat))) 1 i rfl ya sz28 rfl (by first|rfl|assumption|(simp;done)|omega) rfl rfl (gD (d:=(none:Option Rat)) om)) ?_
  rintro ⟨b4,o5,w6,w7⟩ -
  dsimp only [aq,nq,cq]
  refine zTa open_rE<|e_u 4 rfl rfl (zO (j:=0) 0 ty28 rfl rfl rfl (.t4 .nil))<|e_uw 5 rfl rfl (zc 1 ty28 rfl rfl (.t4 .nil))<|e_one 6 (zu rfl rfl rfl rfl (.c rfl (.c rfl .n)) ce24 (znc (k1:=(l1.getD i (none:Option Rat)).isSome) (u1:=w6) (v1:=w7) (q1:=((l1.getD i (none:Option Rat)).getD 0)) (k2:=x1.isSome) (u2:=u1) (v2:=v1) (q2:=(x1.getD 0)) (hl:=by have h1:=hb i;omega)) (.c (j:=1) rfl (.c (j:=3) rfl .n)) ?_)
  rintro ⟨w38,w49⟩ -
  dsimp only [aq,nq,cq]
  refine e_one 7 (zGe rfl rfl rfl rfl (zoa (r:=rQ) (k:=1) yb inf28 rfl dd dd dd (.c (x:=(((l1.getD i (none:Option Rat)).getD 0)*(x1.getD 0))) (cs:=[w38.b,w38.l,w49.b,w49.l]) (w38,w49) rfl rfl rfl (fun g hr=>Holds.get 0 rfl hr) .n)) (fun b10 _=> ?_))
  refine zQb 0 rfl .z<|e_one 8 (zWd (A':=fun v:Option Addr×Nat=>rowA 28 rQ v.1 v.2 (A++([(((l1.getD i (none:Option Rat)).getD 0)*(x1.getD 0))]))) kr rfl rfl rfl (zma 0 rfl yb inf28 dd rfl rfl (by first|rfl|assumption|(simp;done)|omega) rfl (by first|rfl|assumption|(simp;done)|omega) om om) ?_)
  rintro ⟨p11,c12⟩ -
  dsimp only [aq,nq,cq]
  refine e_pv 9 rfl rfl (zb rfl)<|zU kr<|zL<|zd<|za<|e_mv rfl<|e_p (zJ (z:=(((i+1):Nat):Int)) rfl rfl (w64 om))<|e_p (zb rfl)<|zf<|zT ((i+1),p11,c12,(A++([(((l1.getD i (none:Option Rat)).getD 0)*(x1.getD 0))]))) (show (i+1)≤n1∧(A++([(((l1.getD i (none:Option Rat)).getD 0)*(x1.getD 0))]))=Po.gen (Po.sg' l1 (x1.getD 0)) (i+1) from by exact ⟨by omega,by rw [hA];rfl⟩) (by show n1 - (i+1)<n1 - i;omega) ((.e rfl (by simp) (.of rfl)):SubM _ _) (ho:=((.of [0,1] rfl):PickO _ _ _)) ((.of [5,6,7] rfl):SelR _ _ _)
 ·
  refine zca<|zh<|zh<|zt<|zd<|ze<|zbb 0 rfl .z<|za<|e_mv rfl<|zha (addQE 0 rfl)<|zk rfl rfl (.c rfl .n) ce28 (zHa (p1:=pR) (n1:=A.length) (c1:=cR) (l1:=(A.map some)) (hn1:=by exact List.length_map _) (hm1:=cbo) (hb1:=by intro j;rw [hA];exact Po.sg'_hq hb j)) (.c (j:=0) rfl .n) ?_
  rintro ⟨p913,c914⟩ -
  dsimp only [aq,nq,cq]
  refine e_p (zb rfl)<|zf<|zd<|zE ?_
  have hv9:Po.cl (Po.vals (A.map some))=(Po.scl (Po.vals l1) (x1.getD 0)):=by rw [hA,show i=n1 by omega];exact Po.sg'_scl hn1
  exact zw Tryz.results20 (p913,c914) trivial (zo rfl) (by rw [hv9]) (ho:=(.n:PickO _ _ _)) ((.e (j:=0) rfl (by rw [hv9]) .n):SelR _ _ _)
theorem zWf {p1:Option Addr} {n1:Nat} {c1:Nat} {l1:List (Option Rat)} {p2:Option Addr} {n2:Nat} {c2:Nat} {l2:List (Option Rat)} (hn1:l1.length=n1) (hm1:n1≤1000) (hn2:l2.length=n2) (hm2:n2≤1000) (hm12:n1+n2≤1000) (hb1:∀i,ye ((l1.getD i none).getD 0)≤200000000000) (hb2:∀i,ye ((l2.getD i none).getD 0)≤200000000000) (hs:∀k lo n,lo+n≤k+1→ye (Po.cv (Po.vals l1) (Po.vals l2) k lo n)≤200000000000):Con yd 18 [.slice p1 n1 c1,.slice p2 n2 c2] [] [slF rE p1 c1 l1,slF rE p2 c2 l2] (Y:=(Option Addr)×Nat) (fun y=>True) (fun y=> .slice (y.1) ((Po.mul (Po.vals l1) (Po.vals l2)).length) (y.2)) (fun y=>[]) (fun y=>[slF rQ (y.1) (y.2) (Po.mul (Po.vals l1) (Po.vals l2))]):=by
 refine zl Tryz.func18 rfl rfl rfl (fun c=> ?_)
 show RunC _ _ _ _ _ [(0,.slice p1 n1 c1),(1,.slice p2 n2 c2)] [] [slF rE p1 c1 l1,slF rE p2 c2 l2]
 refine zP 0 rfl (fun hL0=> ?_)
 refine zP 1 rfl (fun hL1=> ?_)
 refine ze<|za<|e_p (zb rfl)<|zf<|zd<|ze<|za<|zqa rfl rfl (zea rQ yb inf28) (fun b1 _=> ?_)
 refine e_p (zb rfl)<|zf<|zd<|ze<|ze<|za<|e_p (zb rfl)<|zf<|zd<|zv<|zfa (X:=Nat×(Option Addr)×Nat×(List Rat)) (fun x:Nat×(Option Addr)×Nat×(List Rat)=>x.1≤(n1+n2 - 1)∧x.2.2.2=Po.gen (Po.mg l1 l2) x.1) (fun x=>[(5,.slice (x.2.1) (x.2.2.2.length) (x.2.2.1)),(6,.int .i64 ((x.1:Nat):Int)),(4,.slice none 0 0),(0,.slice p1 n1 c1),(1,.slice p2 n2 c2)]) (fun x=>[rowA 28 rQ (x.2.1) (x.2.2.1) (x.2.2.2)]) (fun x=>[slF rE p1 c1 l1,slF rE p2 c2 l2]) (fun x:Nat×(Option Addr)×Nat×(List Rat)=>(n1+n2 - 1) - x.1) (0,some ⟨b1,0,none⟩,0,([]:List Rat)) (show 0≤(n1+n2 - 1)∧([]:List Rat)=Po.gen (Po.mg l1 l2) 0 from by exact ⟨by omega,rfl⟩) ((.e rfl (by first|rfl|(congr 1;omega)|simp_all) (.e rfl (by first|rfl|(congr 1;omega)|simp_all) (.of rfl))):SubM _ _) (ho:=((.e (i:=0) rfl (by first|rfl|(congr 1;omega)|simp_all) .n):PickO _ _ _)) ((.of [0,1] rfl):SelR _ _ _) ?_
 rintro ⟨i,pR,cR,A⟩ hI
 replace hI:i≤(n1+n2 - 1)∧A=Po.gen (Po.mg l1 l2) i:=hI
 try dsimp only
 obtain ⟨hi,hA⟩:=hI
 have hAl:A.length=i:=by rw [hA,Po.gen_len]
 refine ze<|ze<|za<|e_mv rfl<|e_p (zJ (z:=(((i+1):Nat):Int)) rfl rfl (w64 om))<|e_mv rfl<|e_p (zD ya rfl)<|e_mv rfl<|e_p (zD ya rfl)<|e_p (zJ (z:=(((n1+n2):Nat):Int)) rfl rfl (w64 om))<|e_p (zY rfl rfl)<|zf<|zd<|zC rfl (fun h2=> ?_) (fun h2=> ?_)
 ·
  refine zB<|zd<|ze<|zv<|ze<|za<|zk rfl rfl (.n) ce52 (zoc) (.n) ?_
  rintro ⟨w33,w44⟩ -
  dsimp only [aq,nq,cq]
  refine zH rfl rfl (zq zr28 rfl) (fun b5=> ?_)
  refine zi 0 rfl rfl rfl rfl rfl sz28 rfl (.t4 .nil) .z<|zf<|zd<|ze<|ze<|za<|e_p (zb rfl)<|zf<|zd<|zv<|zfa (X:=Nat×Wd×Wd) (fun x:Nat×Wd×Wd=>x.1≤i+1) (fun x=>[(8,.int .i64 ((x.1:Nat):Int)),(7,.pointer (some ⟨b5,0,none⟩)),(5,.slice pR (A.length) cR),(6,.int .i64 ((i:Nat):Int)),(4,.slice none 0 0),(0,.slice p1 n1 c1),(1,.slice p2 n2 c2)]) (fun x=>[boxA b5 28 (cw [x.2.1,x.2.2]),rowA 28 rQ pR cR A]) (fun x=>[qF true x.2.1 x.2.2 (Po.cv (Po.vals l1) (Po.vals l2) i 0 x.1),qF true w33 w44 ((0:Int):Rat),slF rE p1 c1 l1,slF rE p2 c2 l2]) (fun x:Nat×Wd×Wd=>i+1 - x.1) (0,w33,w44) (show 0≤i+1 from by exact Nat.zero_le _) ((.e rfl (by first|rfl|(congr 1;omega)|simp_all) (.of rfl)):SubM _ _) (ho:=((.of [0,0] rfl):PickO _ _ _)) ((.e (j:=0) rfl rfl (.of [0,1,2] rfl)):SelR _ _ _) ?_
  rintro ⟨jj,su,sv⟩ hJ
  replace hJ:jj≤i+1:=hJ
  try dsimp only [cw]
  refine ze<|ze<|za<|e_mv rfl<|e_mv rfl<|e_p (zqb rfl rfl)<|zf<|zd<|zC rfl (fun h6=> ?_) (fun h6=> ?_)
  ·
   refine zB<|zd<|ze<|zv<|zQa (X:=Unit) (fun x=>True) (fun x=>[(37,.bool (decide ((((jj:Nat):Int)<((n1:Nat):Int))∧((((i:Nat):Int) - ((jj:Nat):Int))<((n2:Nat):Int))))),(8,.int .i64 ((jj:Nat):Int)),(7,.pointer (some ⟨b5,0,none⟩)),(5,.slice pR (A.length) cR),(6,.int .i64 ((i:Nat):Int)),(4,.slice none 0 0),(0,.slice p1 n1 c1),(1,.slice p2 n2 c2)]) (fun x=>[boxA b5 28 (cw [su,sv]),rowA 28 rQ pR cR A]) (fun x=>[qF true su sv (Po.cv (Po.vals l1) (Po.vals l2) i 0 jj),qF true w33 w44 ((0:Int):Rat),slF rE p1 c1 l1,slF rE p2 c2 l2]) ?_ ?_
   ·
    refine za<|e_mv rfl<|e_mv rfl<|e_p (zD ya rfl)<|e_p (zY rfl rfl)<|zS rfl rfl (zaa rfl) (fun g1=> ?_) (fun g1=> ?_)
    ·
     refine e_mv rfl<|e_mv rfl<|e_p (zZ (z:=(((i:Nat):Int) - ((jj:Nat):Int))) rfl rfl (w64 om))<|e_mv rfl<|e_p (zD ya rfl)<|e_p (zY rfl rfl)<|e_p (zy rfl rfl)<|zf ?_
     exact zka () (show True from by first|trivial|omega|simp_all) ((.e rfl (congrArg Value.bool (by first|(exact (decide_eq_false (fun k=>g1 k.1)).symm)|exact decide_eq_decide.2 ⟨fun k=>⟨g1,k⟩,fun k=>k.2⟩)) (.of rfl)):SubM _ _) (ho:=((.of [0,0] rfl):PickO _ _ _)) ((.of [0,1,2,3] rfl):SelR _ _ _)
    ·
     refine e_no<|e_no<|e_no<|e_no<|e_no<|e_no<|e_p (zy rfl rfl)<|zf ?_
     exact zka () (show True from by first|trivial|omega|simp_all) ((.e rfl (congrArg Value.bool (by first|(exact (decide_eq_false (fun k=>g1 k.1)).symm)|exact decide_eq_decide.2 ⟨fun k=>⟨g1,k⟩,fun k=>k.2⟩)) (.of rfl)):SubM _ _) (ho:=((.of [0,0] rfl):PickO _ _ _)) ((.of [0,1,2,3] rfl):SelR _ _ _)
   ·
    rintro ⟨⟩ -
    try dsimp only [cw]
    refine zC rfl (fun h37=> ?_) (fun h37=> ?_)
    ·
     refine zW (OW:=[boxA b5 28 (cw [su,sv])]) (O:=[rowA 28 rQ pR cR A]) 13 mixed (.block (.then (.then (.block (.then (.block (.then (.then (.block (.then .ret)))))))))) kr<|e_uw 0 rfl rfl (zc 0 ty28 rfl rfl (.t4 .nil))<|e_dm 1 rfl rfl rfl<|e_dm 2 rfl rfl rfl<|d_vl 3 rfl rfl kr kr rfl rfl (zja (x0:=(l1.getD jj (none:Option Rat))) 2 jj rfl ya sz28 rfl (by first|rfl|assumption|(simp;done)|omega) rfl rfl (gD (d:=(none:Option Rat)) om)) ?_
     rintro ⟨b7,o8,w9,w10⟩ -
     dsimp only [aq,nq,cq]
     refine zTa open_rE<|e_u 4 rfl rfl (zO (j:=0) 0 ty28 rfl rfl rfl (.t4 .nil))<|e_dm 5 rfl rfl rfl<|e_dm 6 rfl rfl rfl<|e_dm 7 rfl rfl rfl<|e_pv 8 rfl rfl (zZ (z:=(((i:Nat):Int) - ((jj:Nat):Int))) rfl rfl (w64 om)) ?_
     have e11:((((i:Nat):Int) - ((jj:Nat):Int)):Int)=(((i - jj):Nat):Int):=by omega
     rw [e11]
     refine d_vl 9 rfl rfl kr kr rfl rfl (zja (x0:=(l2.getD (i - jj) (none:Option Rat))) 6 (i - jj) rfl ya sz28 rfl (by first|rfl|assumption|(simp;done)|omega) rfl rfl (gD (d:=(none:Option Rat)) om)) ?_
     rintro ⟨b12,o13,w14,w15⟩ -
     dsimp only [aq,nq,cq]
     refine zTa open_rE<|e_u 10 rfl rfl (zO (j:=0) 0 ty28 rfl rfl rfl (.t4 .nil))<|e_one 11 (zu rfl rfl rfl rfl (.c rfl (.c rfl .n)) ce24 (znc (k1:=(l1.getD jj (none:Option Rat)).isSome) (u1:=w9) (v1:=w10) (q1:=((l1.getD jj (none:Option Rat)).getD 0)) (k2:=(l2.getD (i - jj) (none:Option Rat)).isSome) (u2:=w14) (v2:=w15) (q2:=((l2.getD (i - jj) (none:Option Rat)).getD 0)) (hl:=by have h1:=hb1 jj;have h2:=hb2 (i - jj);omega)) (.c (j:=4) rfl (.c (j:=1) rfl .n)) ?_)
     rintro ⟨w316,w417⟩ -
     dsimp only [aq,nq,cq]
     refine e_one 12 (zu rfl rfl rfl rfl (.c rfl (.c rfl .n)) ce23 (zKb (k1:=true) (u1:=su) (v1:=sv) (q1:=(Po.cv (Po.vals l1) (Po.vals l2) i 0 jj)) (k2:=true) (u2:=w316) (v2:=w417) (q2:=((l1.getD jj (none:Option Rat)).getD 0)*((l2.getD (i - jj) (none:Option Rat)).getD 0)) (hl:=by have h1:=hs i 0 jj om;have h2:=hb1 jj;have h3:=hb2 (i - jj);have h4:=Big.hq_mul ((l1.getD jj none).getD 0) ((l2.getD (i - jj) none).getD 0);omega)) (.c (j:=7) rfl (.c (j:=0) rfl .n)) ?_)
     rintro ⟨w318,w419⟩ -
     dsimp only [aq,nq,cq]
     refine e_one 13 (zA kr rfl rfl rfl rfl rfl sz28 rfl (.t4 .nil) ?_)
     refine zU kr<|zL<|zd<|za<|e_mv rfl<|e_p (zJ (z:=(((jj+1):Nat):Int)) rfl rfl (w64 om))<|e_p (zb rfl)<|zf<|zT ((jj+1),w318,w419) (show (jj+1)≤i+1 from by omega) (by show i+1 - (jj+1)<i+1 - jj;omega) ((.of rfl):SubM _ _) (ho:=((.of [0,0] rfl):PickO _ _ _)) ((.e (j:=0) rfl (by rw [Po.cv0_step]) (.of [9,10,11] rfl)):SelR _ _ _)
    ·
     refine zB<|zL<|zd<|za<|e_mv rfl<|e_p (zJ (z:=(((jj+1):Nat):Int)) rfl rfl (w64 om))<|e_p (zb rfl)<|zf<|zT ((jj+1),su,sv) (show (jj+1)≤i+1 from by omega) (by show i+1 - (jj+1)<i+1 - jj;omega) ((.of rfl):SubM _ _) (ho:=((.of [0,0] rfl):PickO _ _ _)) ((.e (j:=0) rfl (by rw [← Po.cv0_skip om]) (.of [1,2,3] rfl)):SelR _ _ _)
  ·
   refine zca<|zh<|zh<|zt<|zd<|za<|e_mv rfl<|e_ru (zc 0 ty28 rfl rfl (.t4 .nil))<|zqa rfl rfl (zoa (r:=rQ) (k:=1) yb inf28 rfl dd dd dd (.c (x:=(Po.cv (Po.vals l1) (Po.vals l2) i 0 jj)) (cs:=[su.b,su.l,sv.b,sv.l]) (su,sv) rfl rfl rfl (fun g hr=>Holds.get 0 rfl hr) .n)) (fun b20 _=> ?_)
   refine zV 0 rfl .z<|zya 2 rfl rfl rfl (zma 0 rfl yb inf28 dd rfl rfl (by first|rfl|assumption|(simp;done)|omega) rfl (by first|rfl|assumption|(simp;done)|omega) om om) (fun _=>(.s (.s .z))) ?_
   rintro ⟨p21,c22⟩ -
   dsimp only [aq,nq,cq]
   refine e_p (zb rfl)<|zf<|zL<|zd<|za<|e_mv rfl<|e_p (zJ (z:=(((i+1):Nat):Int)) rfl rfl (w64 om))<|e_p (zb rfl)<|zf<|zT ((i+1),p21,c22,(A++([(Po.cv (Po.vals l1) (Po.vals l2) i 0 jj)]))) (show (i+1)≤(n1+n2 - 1)∧(A++([(Po.cv (Po.vals l1) (Po.vals l2) i 0 jj)]))=Po.gen (Po.mg l1 l2) (i+1) from by exact ⟨by omega,by rw [hA,show jj=i+1 by omega];rfl⟩) (by show (n1+n2 - 1) - (i+1)<(n1+n2 - 1) - i;omega) ((.e rfl (by simp) (.of rfl)):SubM _ _) (ho:=((.c (i:=2) rfl .n):PickO _ _ _)) ((.of [3,4] rfl):SelR _ _ _)
 ·
  refine zca<|zh<|zh<|zt<|zd<|ze<|zbb 0 rfl .z<|za<|e_mv rfl<|zha (addQE 0 rfl)<|zk rfl rfl (.c rfl .n) ce28 (zHa (p1:=pR) (n1:=A.length) (c1:=cR) (l1:=(A.map some)) (hn1:=by exact List.length_map _) (hm1:=cbo) (hb1:=by intro j;rw [hA];exact Po.mg_hq hs j)) (.c (j:=0) rfl .n) ?_
  rintro ⟨p923,c924⟩ -
  dsimp only [aq,nq,cq]
  refine e_p (zb rfl)<|zf<|zd<|zE ?_
  have hv9:Po.cl (Po.vals (A.map some))=(Po.mul (Po.vals l1) (Po.vals l2)):=by rw [hA];exact Po.mg_mul om
  exact zw Tryz.results18 (p923,c924) trivial (zo rfl) (by rw [hv9]) (ho:=(.n:PickO _ _ _)) ((.e (j:=0) rfl (by rw [hv9]) .n):SelR _ _ _)
end Go.Proofs.YtbiaimgafknkmaaGreat.Sp
namespace Go.Proofs.YtbiaimgafknkmaaGreat.Sp
open Go
set_option linter.unusedVariables false
set_option maxRecDepth 100000
set_option maxHeartbeats 8000000
theorem zXf {p1:Option Addr} {n1:Nat} {c1:Nat} {l1:List (Option Rat)} {p2:Option Addr} {n2:Nat} {c2:Nat} {l2:List (Option Rat)} (hn1:l1.length=n1) (hm1:n1≤1000) (hn2:l2.length=n2) (hm2:n2≤1000) (hb1:∀i,ye ((l1.getD i none).getD 0)≤200000000000) (hb2:∀i,ye ((l2.getD i none).getD 0)≤200000000000):Con yd 16 [.slice p1 n1 c1,.slice p2 n2 c2] [] [slF rE p1 c1 l1,slF rE p2 c2 l2] (Y:=(Option Addr)×Nat) (fun y=>True) (fun y=> .slice (y.1) ((Po.sub (Po.vals l1) (Po.vals l2)).length) (y.2)) (fun y=>[]) (fun y=>[slF rQ (y.1) (y.2) (Po.sub (Po.vals l1) (Po.vals l2))]):=by
 refine zl Tryz.func16 rfl rfl rfl (fun c=> ?_)
 show RunC _ _ _ _ _ [(0,.slice p1 n1 c1),(1,.slice p2 n2 c2)] [] [slF rE p1 c1 l1,slF rE p2 c2 l2]
 refine zP 0 rfl (fun hL0=> ?_)
 refine zP 1 rfl (fun hL1=> ?_)
 have hsl:∀x,(Po.scl (Po.vals l2) x).length≤n2:=fun x=>by unfold Po.scl;exact Nat.le_trans (Po.cl_le_len _) (by rw [Po.gen_len,Po.vals_len];omega)
 refine ze<|za<|e_p (zb rfl)<|zf<|zd<|ze<|za<|e_mv rfl<|e_mv rfl<|zk rfl rfl (.c rfl .n) ce42 (zPa (z:=(-1)) (hz:=cbd)) (.n) ?_
 rintro ⟨w31,w42⟩ -
 dsimp only [aq,nq,cq]
 refine zha (addQe 0 rfl)<|zk rfl rfl (.c rfl (.c rfl .n)) ce20 (zuc (p1:=p2) (n1:=n2) (c1:=c2) (l1:=l2) (u1:=w31) (v1:=w42) (x1:=(some (((-1):Int):Rat))) (hn1:=ass) (hm1:=ass) (hb:=by intro j;have h1:=hb2 j;have h2:=Big.hq_64 (z:=(-1:Int)) dd dd;simp only [Option.getD_some];omega)) (.c (j:=3) rfl (.c (j:=0) rfl .n)) ?_
 rintro ⟨p93,c94⟩ -
 dsimp only [aq,nq,cq]
 refine zha (addQE 0 rfl)<|zk rfl rfl (.c rfl (.c rfl .n)) ce14 (zCe (p1:=p1) (n1:=n1) (c1:=c1) (l1:=l1) (p2:=p93) (n2:=(Po.scl (Po.vals l2) ((some (((-1):Int):Rat)).getD 0)).length) (c2:=c94) (l2:=((Po.scl (Po.vals l2) ((some (((-1):Int):Rat)).getD 0)).map some)) (hn1:=ass) (hm1:=ass) (hn2:=by exact List.length_map _) (hm2:=by exact Nat.le_trans (hsl _) hm2) (hb:=by intro j;exact Po.neg_hq hb1 hb2 j)) (.c (j:=4) rfl (.c (j:=0) rfl .n)) ?_
 rintro ⟨p95,c96⟩ -
 dsimp only [aq,nq,cq]
 refine e_p (zb rfl)<|zf<|zd<|zE ?_
 have hv9:(Po.add (Po.vals l1) (Po.vals ((Po.scl (Po.vals l2) (((-1:Int):Int):Rat)).map some)))=(Po.sub (Po.vals l1) (Po.vals l2)):=by rw [Po.vals_some,Po.sub_scl]
 exact zw Tryz.results16 (p95,c96) trivial (zo rfl) (by show _=Value.slice _ (Po.add (Po.vals l1) (Po.vals ((Po.scl (Po.vals l2) (((-1:Int):Int):Rat)).map some))).length _;rw [hv9]) (ho:=(.n:PickO _ _ _)) ((.e (j:=0) rfl (by show slF _ _ _ (Po.add (Po.vals l1) (Po.vals ((Po.scl (Po.vals l2) (((-1:Int):Int):Rat)).map some)))=_;rw [hv9]) .n):SelR _ _ _)
theorem zTd {p1:Option Addr} {n1:Nat} {c1:Nat} {l1:List Rat} {p2:Option Addr} {n2:Nat} {c2:Nat} {l2:List Rat} (hn1:l1.length=n1) (hm1:n1≤1000) (hn2:l2.length=n2) (hm2:n2≤1000) (hb1:∀i,ye (l1.getD i 0)≤500000000000) (hb2:∀i,ye (l2.getD i 0)≤500000000000):Con yd 12 [.slice p1 n1 c1,.slice p2 n2 c2] [] [slF rQ p1 c1 l1,slF rQ p2 c2 l2] (Y:=Unit) (fun y=>True) (fun y=> .bool (decide (l1=l2))) (fun y=>[]) (fun y=>[]):=by
 refine zl Tryz.func12 rfl rfl rfl (fun c=> ?_)
 show RunC _ _ _ _ _ [(0,.slice p1 n1 c1),(1,.slice p2 n2 c2)] [] [slF rQ p1 c1 l1,slF rQ p2 c2 l2]
 refine zP 0 rfl (fun hL0=> ?_)
 refine zP 1 rfl (fun hL1=> ?_)
 refine ze<|za<|e_p (zb rfl)<|zf<|zd<|ze<|ze<|za<|e_mv rfl<|e_p (zD ya rfl)<|e_mv rfl<|e_p (zD ya rfl)<|e_p (zfb rfl rfl)<|zf<|zd<|zC rfl (fun hne=> ?_) (fun hne=> ?_)
 ·
  refine ze<|za<|e_p (zb rfl)<|zf<|zd<|zE<|zp ?_
  exact zw Tryz.results12 () trivial (zo rfl) (congrArg Value.bool (decide_eq_false (fun e=>hne (by rw [← hn1,←hn2,e]))).symm.symm) (ho:=(.n:PickO _ _ _)) (.n:SelR _ _ _)
 ·
  refine zB<|zd<|ze<|ze<|za<|e_p (zb rfl)<|zf<|zd<|zv<|zfa (X:=Nat) (fun x:Nat=>x≤n1∧∀j,j<x→l1.getD j 0=l2.getD j 0) (fun x=>[(5,.int .i64 ((x:Nat):Int)),(0,.slice p1 n1 c1),(1,.slice p2 n2 c2)]) (fun x=>[]) (fun x=>[slF rQ p1 c1 l1,slF rQ p2 c2 l2]) (fun x:Nat=>n1 - x) 0 (show 0≤n1∧∀j,j<0→l1.getD j 0=l2.getD j 0 from by exact ⟨Nat.zero_le _,fun j h=>by omega⟩) ((.e rfl (by first|rfl|(congr 1;omega)|simp_all) (.c rfl (.c rfl .n))):SubM _ _) (ho:=(.n:PickO _ _ _)) ((.of [0,1] rfl):SelR _ _ _) ?_
  rintro i hI
  replace hI:i≤n1∧∀j,j<i→l1.getD j 0=l2.getD j 0:=hI
  try dsimp only
  obtain ⟨hi,hall⟩:=hI
  refine ze<|ze<|za<|e_mv rfl<|e_mv rfl<|e_p (zD ya rfl)<|e_p (zY rfl rfl)<|zf<|zd<|zC rfl (fun h1=> ?_) (fun h1=> ?_)
  ·
   refine zB<|zd<|ze<|zv<|ze<|zW (OW:=[]) (O:=[]) 100000 mixed (.then (.block (.then (.then (.block (.then .ret)))))) kr<|e_dm 0 rfl rfl rfl<|e_dm 1 rfl rfl rfl<|d_vl 2 rfl rfl kr kr rfl rfl (zja (x0:=(l1.getD i (0:Rat))) 0 i rfl ya sz28 rfl (by first|rfl|assumption|(simp;done)|omega) rfl rfl (gD (d:=(0:Rat)) om)) ?_
   rintro ⟨b2,o3,w4,w5⟩ -
   dsimp only [aq,nq,cq]
   refine zTa open_rQ<|e_u 3 rfl rfl (zO (j:=0) 0 ty28 rfl rfl rfl (.t4 .nil))<|e_dm 4 rfl rfl rfl<|e_dm 5 rfl rfl rfl<|d_vl 6 rfl rfl kr kr rfl rfl (zja (x0:=(l2.getD i (0:Rat))) 3 i rfl ya sz28 rfl (by first|rfl|assumption|(simp;done)|omega) rfl rfl (gD (d:=(0:Rat)) om)) ?_
   rintro ⟨b6,o7,w8,w9⟩ -
   dsimp only [aq,nq,cq]
   refine zTa open_rQ<|e_u 7 rfl rfl (zO (j:=0) 0 ty28 rfl rfl rfl (.t4 .nil))<|e_one 8 (zKa rfl rfl rfl rfl (.c rfl (.c rfl .n)) ce22 (zAb (u1:=w4) (v1:=w5) (q1:=(l1.getD i (0:Rat))) (u2:=w8) (v2:=w9) (q2:=(l2.getD i (0:Rat))) (hl:=by have h1:=hb1 i;have h2:=hb2 i;omega)) (.c (j:=3) rfl (.c (j:=1) rfl .n)) ?_)
   refine e_pv 9 rfl rfl (zZa rfl)<|zU kr<|zd<|zC rfl (fun hd=> ?_) (fun hd=> ?_)
   ·
    refine ze<|za<|e_p (zb rfl)<|zf<|zd<|zE<|zda<|zp<|zp<|zda<|zp ?_
    exact zw Tryz.results12 () trivial (zo rfl) (congrArg Value.bool (decide_eq_false (fun e=>hd (by rw [e])))) (ho:=(.n:PickO _ _ _)) (.n:SelR _ _ _)
   ·
    refine zB<|zL<|zd<|za<|e_mv rfl<|e_p (zJ (z:=(((i+1):Nat):Int)) rfl rfl (w64 om))<|e_p (zb rfl)<|zf<|zT (i+1) (show (i+1)≤n1∧∀j,j<(i+1)→l1.getD j 0=l2.getD j 0 from by refine ⟨by omega,fun j hj=> ?_⟩;by_cases e:j=i;(subst e;exact Decidable.not_not.1 hd);exact hall j om) (by show n1 - (i+1)<n1 - i;omega) ((.of rfl):SubM _ _) (ho:=(.n:PickO _ _ _)) ((.of [4,5] rfl):SelR _ _ _)
  ·
   refine zca<|zh<|zh<|zt<|zd<|ze<|za<|e_p (zb rfl)<|zf<|zd<|zE ?_
   exact zw Tryz.results12 () trivial (zo rfl) (congrArg Value.bool (decide_eq_true (Po.same_all hn1 om (fun j hj=>hall j om)))) (ho:=(.n:PickO _ _ _)) (.n:SelR _ _ _)
end Go.Proofs.YtbiaimgafknkmaaGreat.Sp
namespace Go.Proofs.YtbiaimgafknkmaaGreat.Sp
open Go
set_option linter.unusedVariables false
set_option maxRecDepth 100000
set_option maxHeartbeats 8000000
theorem zbc {p1:Option Addr} {n1:Nat} {c1:Nat} {l1:List (Option Rat)} {p2:Option Addr} {n2:Nat} {c2:Nat} {l2:List (Option Rat)} (hn1:l1.length=n1) (hm1:n1≤1000) (hn2:l2.length=n2) (hm2:n2≤1000) (hm12:n1+n2≤400) (hb2:∀i,ye ((Po.vals l2).getD i 0)≤60000000000) (hok:Po.dok (Po.cl (Po.vals l2)) ((Po.cl (Po.vals l1)).length+1) [] (Po.cl (Po.vals l1))) (hb1:∀i,ye ((Po.vals l1).getD i 0)≤60000000000):Con yd 27 [.slice p1 n1 c1,.slice p2 n2 c2] [] [slF rE p1 c1 l1,slF rE p2 c2 l2] (Y:=(Option Addr)×Nat×(Option Addr)×Nat) (fun y=>True) (fun y=> .tuple #[.slice (y.1) ((Po.dq (Po.vals l1) (Po.vals l2)).length) (y.2.1),.slice (y.2.2.1) ((Po.dr (Po.vals l1) (Po.vals l2)).length) (y.2.2.2),.int .i64 (Po.dc (Po.vals l2))]) (fun y=>[]) (fun y=>[slF rQ (y.1) (y.2.1) (Po.dq (Po.vals l1) (Po.vals l2)),slF rQ (y.2.2.1) (y.2.2.2) (Po.dr (Po.vals l1) (Po.vals l2))]):=by
 refine zl Tryz.func27 rfl rfl rfl (fun c=> ?_)
 show RunC _ _ _ _ _ [(0,.slice p1 n1 c1),(1,.slice p2 n2 c2)] [] [slF rE p1 c1 l1,slF rE p2 c2 l2]
 refine zP 0 rfl (fun hL0=> ?_)
 refine zP 1 rfl (fun hL1=> ?_)
 refine ze<|za<|e_p (zb rfl)<|e_p (zb rfl)<|e_p (zb rfl)<|zf<|zd<|ze<|za<|e_mv rfl<|zk rfl rfl (.c rfl .n) ce28 (zHa (p1:=p1) (n1:=n1) (c1:=c1) (l1:=l1) (hn1:=ass) (hm1:=ass) (hb1:=by intro j;exact Nat.le_trans (hb1 j) dd)) (.c (j:=0) rfl .n) ?_
 rintro ⟨p91,c92⟩ -
 dsimp only [aq,nq,cq]
 refine e_p (zb rfl)<|zf<|zd<|ze<|za<|e_mv rfl<|zk rfl rfl (.c rfl .n) ce28 (zHa (p1:=p2) (n1:=n2) (c1:=c2) (l1:=l2) (hn1:=ass) (hm1:=ass) (hb1:=by intro j;exact Nat.le_trans (hb2 j) dd)) (.c (j:=2) rfl .n) ?_
 rintro ⟨p93,c94⟩ -
 dsimp only [aq,nq,cq]
 refine e_p (zb rfl)<|zf<|zd<|ze<|ze ?_
 obtain ⟨P,hP⟩:∃z,z=(Po.cl (Po.vals l1)):=⟨_,rfl⟩
 have e5:(Po.cl (Po.vals l1):List Rat)=P:=by exact hP.symm
 rw [e5]
 obtain ⟨Q,hQ⟩:∃z,z=(Po.cl (Po.vals l2)):=⟨_,rfl⟩
 have e6:(Po.cl (Po.vals l2):List Rat)=Q:=by exact hQ.symm
 rw [e6]
 have hPl:P.length≤n1:=by rw [hP,←hn1,←Po.vals_len l1];exact Po.cl_le_len _
 have hQl:Q.length≤n2:=by rw [hQ,←hn2,←Po.vals_len l2];exact Po.cl_le_len _
 have hQc:Po.cl Q=Q:=by rw [hQ];exact Po.cl_cl _
 have hPc:Po.cl P=P:=by rw [hP];exact Po.cl_cl _
 have hbQ:Po.bd 60000000000 Q:=fun i=>by rw [hQ,Po.cl_get];exact hb2 i
 refine za<|e_mv rfl<|e_p (zD ya rfl)<|e_p (zna rfl rfl)<|zf<|zd<|zC rfl (fun h20=> ?_) (fun h20=> ?_)
 ·
  refine ze<|za<|e_p (zb rfl)<|e_p (zb rfl)<|e_p (zb rfl)<|zf<|zd<|zE<|zp<|zFb rQ ?_
  have h0:(Po.cl (Po.vals l2)).length=0:=by rw [← hQ];omega
  have hv8:(Po.dq (Po.vals l1) (Po.vals l2))=[]:=if_pos h0
  have hv9:(Po.dr (Po.vals l1) (Po.vals l2))=[]:=if_pos h0
  have hv7:(Po.dc (Po.vals l2))=14:=if_pos h0
  exact zVb Tryz.results27 (none,0,none,0) trivial (zo rfl) (zo rfl) (zo rfl) (by rw [hv7,hv8,hv9];rfl) (ho:=(.n:PickO _ _ _)) ((.e (j:=0) rfl (by rw [hv8]) (.e (j:=0) rfl (by rw [hv9]) .n)):SelR _ _ _)
 ·
  have hQ0:0<Q.length:=by omega
  have hQn:Q≠[]:=fun e=>by rw [e] at hQ0;exact absurd hQ0 dd
  refine zB<|zd<|ze<|za<|zqa rfl rfl (zea rQ ya inf28) (fun b7 _=> ?_)
  refine e_p (zb rfl)<|zf<|zd<|ze<|zv<|zbb 0 rfl .z<|zfa (X:=Nat×(List Rat)×(List Rat)×(Option Addr)×Nat×(Option Addr)×Nat) (fun x:Nat×(List Rat)×(List Rat)×(Option Addr)×Nat×(Option Addr)×Nat=>(x.2.2.1.length<x.1∧x.2.2.1.length≤400∧x.2.1.length≤400)∧Po.dok Q x.1 x.2.1 x.2.2.1∧Po.dv Q P.length [] P=Po.dv Q (x.1 - 1) x.2.1 x.2.2.1) (fun x=>[(7,.slice (x.2.2.2.2.2.1) (x.2.2.1.length) (x.2.2.2.2.2.2)),(9,.slice (x.2.2.2.1) (x.2.1.length) (x.2.2.2.2.1)),(8,.slice p93 ((Q).length) c94),(6,.int .i64 0),(5,.slice none 0 0),(4,.slice none 0 0)]) (fun x=>[]) (fun x=>[slF rQ (x.2.2.2.1) (x.2.2.2.2.1) (x.2.1),slF rQ (x.2.2.2.2.2.1) (x.2.2.2.2.2.2) (x.2.2.1),slF rQ (some ⟨b7,0,none⟩) 0 ([]),slF rQ p93 c94 Q,slF rQ p91 c92 P,slF rE p1 c1 l1,slF rE p2 c2 l2]) (fun x:Nat×(List Rat)×(List Rat)×(Option Addr)×Nat×(Option Addr)×Nat=>x.1) ((P.length+1),([]:List Rat),P,some ⟨b7,0,none⟩,0,p91,c92) (show (P.length<(P.length+1)∧P.length≤400∧([]:List Rat).length≤400)∧Po.dok Q (P.length+1) ([]:List Rat) P∧Po.dv Q P.length [] P=Po.dv Q ((P.length+1) - 1) ([]:List Rat) P from by exact ⟨by simp;omega,by rw [hP,hQ];exact hok,rfl⟩) ((.e rfl (by first|rfl|(congr 1;omega)|simp_all) (.e rfl (by first|rfl|(congr 1;omega)|simp_all) (.of rfl))):SubM _ _) (ho:=(.n:PickO _ _ _)) ((.e (j:=0) rfl rfl (.e (j:=2) rfl rfl (.of [0,1,2,3,4] rfl))):SelR _ _ _) ?_
  rintro ⟨f,a,r,pa,ca,pr,cr⟩ hI
  replace hI:(r.length<f∧r.length≤400∧a.length≤400)∧Po.dok Q f a r∧Po.dv Q P.length [] P=Po.dv Q (f - 1) a r:=hI
  try dsimp only
  obtain ⟨⟨hf,hrl,hal⟩,hdk,hdv⟩:=hI
  refine ze<|ze<|za<|e_mv rfl<|e_p (zD ya rfl)<|e_mv rfl<|e_p (zD ya rfl)<|e_p (zWa rfl rfl)<|zf<|zd<|zC rfl (fun h25=> ?_) (fun h25=> ?_)
  ·
   refine zB<|zd<|zv<|ze<|za<|e_mv rfl<|zk rfl rfl (.c rfl .n) ce62 (zVc (p1:=pr) (n1:=r.length) (c1:=cr) (l1:=r) (hn1:=cbo) (hm1:=cbo) (h0:=cbo)) (.c (j:=1) rfl .n) ?_
   rintro ⟨w38,w49⟩ -
   dsimp only [aq,nq,cq]
   refine e_mv rfl<|zk rfl rfl (.c rfl .n) ce62 (zVc (p1:=p93) (n1:=(Q).length) (c1:=c94) (l1:=Q) (hn1:=cbo) (hm1:=cbo) (h0:=cbo)) (.c (j:=4) rfl .n) ?_
   rintro ⟨w310,w411⟩ -
   dsimp only [aq,nq,cq]
   refine zk rfl rfl (.c rfl (.c rfl .n)) ce61 (zLb (k1:=true) (u1:=w38) (v1:=w49) (q1:=(Po.lead r)) (k2:=true) (u2:=w310) (v2:=w411) (q2:=(Po.lead Q)) (hl:=by have h1:=(Po.dok_bd hdk om).2 (r.length - 1);have h2:=hbQ (Q.length - 1);unfold Po.lead;omega)) (.c (j:=1) rfl (.c (j:=0) rfl .n)) ?_
   rintro ⟨w312,w413⟩ -
   dsimp only [aq,nq,cq]
   refine e_mv rfl<|e_p (zm rfl rfl)<|e_p (zm rfl rfl)<|zH rfl rfl (zq zr28 rfl) (fun b14=> ?_)
   refine zi 0 rfl rfl rfl rfl rfl sz28 rfl (.t4 .nil) .z<|e_p (zb rfl)<|zf<|zd<|ze ?_
   have e15:(decide ((Po.lead Q)≠0))=true:=by exact decide_eq_true (Po.lead_ne hQc hQn)
   rw [e15]
   refine za<|zqa rfl rfl (zea rQ yb inf28) (fun b16 _=> ?_)
   refine e_p (zb rfl)<|zf<|zd<|ze<|ze<|za<|e_p (zb rfl)<|zf<|zd<|zv<|zfa (X:=Nat×(Option Addr)×Nat×(List Rat)) (fun x:Nat×(Option Addr)×Nat×(List Rat)=>x.1≤r.length - Q.length∧x.2.2.2=Po.gen (fun _=>((0:Int):Rat)) x.1) (fun x=>[(12,.slice (x.2.1) (x.2.2.2.length) (x.2.2.1)),(13,.int .i64 ((x.1:Nat):Int)),(10,.pointer (some ⟨b14,0,none⟩)),(7,.slice pr (r.length) cr),(9,.slice pa (a.length) ca),(8,.slice p93 ((Q).length) c94),(6,.int .i64 0),(5,.slice none 0 0),(4,.slice none 0 0)]) (fun x=>[rowA 28 rQ (x.2.1) (x.2.2.1) (x.2.2.2),boxA b14 28 (cw [w312,w413])]) (fun x=>[qF true w312 w413 ((Po.lead r) / (Po.lead Q)),qF true w310 w411 (Po.lead Q),qF true w38 w49 (Po.lead r),slF rQ pa ca a,slF rQ pr cr r,slF rQ (some ⟨b7,0,none⟩) 0 ([]),slF rQ p93 c94 Q,slF rQ p91 c92 P,slF rE p1 c1 l1,slF rE p2 c2 l2]) (fun x:Nat×(Option Addr)×Nat×(List Rat)=>r.length - Q.length - x.1) (0,some ⟨b16,0,none⟩,0,([]:List Rat)) (show 0≤r.length - Q.length∧([]:List Rat)=Po.gen (fun _=>((0:Int):Rat)) 0 from by exact ⟨Nat.zero_le _,rfl⟩) ((.e rfl (by first|rfl|(congr 1;omega)|simp_all) (.e rfl (by first|rfl|(congr 1;omega)|simp_all) (.of rfl))):SubM _ _) (ho:=((.e (i:=0) rfl (by first|rfl|(congr 1;omega)|simp_all) (.c (i:=0) rfl .n)):PickO _ _ _)) ((.of [0,1,2,3,4,5,6,7,8,9] rfl):SelR _ _ _) ?_
   rintro ⟨i,pR,cR,A⟩ hJ
   replace hJ:i≤r.length - Q.length∧A=Po.gen (fun _=>((0:Int):Rat)) i:=hJ
   try dsimp only [cw]
   have hAl:A.length=i:=by rw [hJ.2,Po.gen_len]
   refine ze<|ze<|za<|e_mv rfl<|e_mv rfl<|e_p (zD ya rfl)<|e_mv rfl<|e_p (zD ya rfl)<|e_p (zZ (z:=(((r.length:Nat):Int) - (((Q).length:Nat):Int))) rfl rfl (w64 om))<|e_p (zY rfl rfl)<|zf<|zd<|zC rfl (fun h17=> ?_) (fun h17=> ?_)
   ·
    refine zB<|zd<|ze<|zv<|za<|e_mv rfl<|zk rfl rfl (.n) ce52 (zoc) (.n) ?_
    rintro ⟨w318,w419⟩ -
    dsimp only [aq,nq,cq]
    refine zqa rfl rfl (zoa (r:=rQ) (k:=1) yb inf28 rfl dd dd dd (.c (x:=((0:Int):Rat)) (cs:=[w318.b,w318.l,w419.b,w419.l]) (w318,w419) rfl rfl rfl (fun g hr=>Holds.get 0 rfl hr) .n)) (fun b20 _=> ?_)
    refine zV 0 rfl .z<|zya 1 rfl rfl rfl (zma 0 rfl yb inf28 dd rfl rfl (by first|rfl|assumption|(simp;done)|omega) rfl (by first|rfl|assumption|(simp;done)|omega) om om) (fun _=>(.s .z)) ?_
    rintro ⟨p21,c22⟩ -
    dsimp only [aq,nq,cq]
    refine e_p (zb rfl)<|zf<|zL<|zd<|za<|e_mv rfl<|e_p (zJ (z:=(((i+1):Nat):Int)) rfl rfl (w64 om))<|e_p (zb rfl)<|zf<|zT ((i+1),p21,c22,(A++([((0:Int):Rat)]))) (show (i+1)≤r.length - Q.length∧(A++([((0:Int):Rat)]))=Po.gen (fun _=>((0:Int):Rat)) (i+1) from by exact ⟨by omega,by rw [hJ.2];rfl⟩) (by show r.length - Q.length - (i+1)<r.length - Q.length - i;omega) ((.e rfl (by simp) (.of rfl)):SubM _ _) (ho:=((.of [1,1] rfl):PickO _ _ _)) ((.of [2,3,4,5,6,7,8,9,10,11] rfl):SelR _ _ _)
   ·
    refine zca<|zh<|zh<|zt<|zd<|ze<|za<|e_mv rfl<|e_ru (zc 1 ty28 rfl rfl (.t4 .nil))<|zqa rfl rfl (zoa (r:=rQ) (k:=1) yb inf28 rfl dd dd dd (.c (x:=((Po.lead r) / (Po.lead Q))) (cs:=[w312.b,w312.l,w413.b,w413.l]) (w312,w413) rfl rfl rfl (fun g hr=>Holds.get 0 rfl hr) .n)) (fun b23 _=> ?_)
    refine zV 0 rfl .z<|zya 1 rfl rfl rfl (zma 0 rfl yb inf28 dd rfl rfl (by first|rfl|assumption|(simp;done)|omega) rfl (by first|rfl|assumption|(simp;done)|omega) om om) (fun _=>(.s .z)) ?_
    rintro ⟨p24,c25⟩ -
    dsimp only [aq,nq,cq]
    refine e_p (zb rfl)<|zf<|zd<|ze<|zbb 1 rfl (.s .z) ?_
    have hB:(A++([((Po.lead r) / (Po.lead Q))]))=Po.dt Q r:=Po.zeros_mono hJ.2 om
    have hBl:(A++([((Po.lead r) / (Po.lead Q))])).length=r.length - Q.length+1:=by rw [hB,Po.dt_len]
    obtain ⟨hba,hbr⟩:=Po.dok_bd hdk om
    have hml:(Po.mul (Po.dt Q r) Q).length≤1000:=by rw [← Po.mul_mc];unfold Po.mc;exact Nat.le_trans (Po.cl_le_len _) (by rw [Po.gen_len,Po.dt_len];omega)
    have e26:((A++([((Po.lead r) / (Po.lead Q))])):List Rat)=Po.dt Q r:=by exact hB
    rw [e26]
    refine za<|e_mv rfl<|e_mv rfl<|zha (addQE 5 rfl)<|zha (addQE 1 rfl)<|zk rfl rfl (.c rfl (.c rfl .n)) ce14 (zCe (p1:=pa) (n1:=a.length) (c1:=ca) (l1:=(a.map some)) (p2:=p24) (n2:=A.length+1) (c2:=c25) (l2:=((Po.dt Q r).map some)) (hn1:=by exact List.length_map _) (hm1:=cbo) (hn2:=by rw [List.length_map,Po.dt_len];omega) (hm2:=cbo) (hb:=by intro j;rw [Po.msome,Po.msome];have h1:=hba j;have h2:=Po.dt_bd hbr hbQ j;omega)) (.c (j:=1) rfl (.c (j:=0) rfl .n)) ?_
    rintro ⟨p927,c928⟩ -
    dsimp only [aq,nq,cq]
    have e29:(Po.add (Po.vals (a.map some)) (Po.vals ((Po.dt Q r).map some)):List Rat)=Po.add a (Po.dt Q r):=by rw [Po.vals_some,Po.vals_some]
    rw [e29]
    refine e_p (zb rfl)<|zf<|zd<|za<|e_mv rfl<|e_mv rfl<|e_mv rfl<|zha (addQE 11 rfl)<|zk rfl rfl (.c rfl (.c rfl .n)) ce18 (zWf (p1:=p24) (n1:=A.length+1) (c1:=c25) (l1:=((Po.dt Q r).map some)) (p2:=p93) (n2:=(Q).length) (c2:=c94) (l2:=((Q).map some)) (hn1:=by rw [List.length_map,Po.dt_len];omega) (hm1:=cbo) (hn2:=by exact List.length_map _) (hm2:=cbo) (hm12:=cbo) (hb1:=by intro j;rw [Po.msome];exact Nat.le_trans (Po.dt_bd hbr hbQ j) dd) (hb2:=by intro j;rw [Po.msome];exact Nat.le_trans (hbQ j) dd) (hs:=by rw [Po.vals_some,Po.vals_some];exact fun k lo n _=>Po.dt_cv_hq' hbr hbQ k lo n)) (.c (j:=2) rfl (.c (j:=0) rfl .n)) ?_
    rintro ⟨p930,c931⟩ -
    dsimp only [aq,nq,cq]
    have e32:(Po.mul (Po.vals ((Po.dt Q r).map some)) (Po.vals ((Q).map some)):List Rat)=Po.mul (Po.dt Q r) Q:=by rw [Po.vals_some,Po.vals_some]
    rw [e32]
    refine zha (addQE 11 rfl)<|zha (addQE 1 rfl)<|zk rfl rfl (.c rfl (.c rfl .n)) ce16 (zXf (p1:=pr) (n1:=r.length) (c1:=cr) (l1:=(r.map some)) (p2:=p930) (n2:=(Po.mul (Po.dt Q r) Q).length) (c2:=c931) (l2:=((Po.mul (Po.dt Q r) Q).map some)) (hn1:=by exact List.length_map _) (hm1:=cbo) (hn2:=by exact List.length_map _) (hm2:=by exact hml) (hb1:=by intro j;rw [Po.msome];exact Nat.le_trans (hbr j) dd) (hb2:=by intro j;rw [Po.msome];exact Nat.le_trans (Po.mul_dt_bd hbr hbQ j) dd)) (.c (j:=1) rfl (.c (j:=0) rfl .n)) ?_
    rintro ⟨p933,c934⟩ -
    dsimp only [aq,nq,cq]
    have e35:(Po.sub (Po.vals (r.map some)) (Po.vals ((Po.mul (Po.dt Q r) Q).map some)):List Rat)=Po.sub r (Po.mul (Po.dt Q r) Q):=by rw [Po.vals_some,Po.vals_some]
    rw [e35]
    refine e_p (zb rfl)<|zf<|zL<|zT ((f - 1),(Po.add a (Po.dt Q r)),(Po.sub r (Po.mul (Po.dt Q r) Q)),p927,c928,p933,c934) (show ((Po.sub r (Po.mul (Po.dt Q r) Q)).length<(f - 1)∧(Po.sub r (Po.mul (Po.dt Q r) Q)).length≤400∧(Po.add a (Po.dt Q r)).length≤400)∧Po.dok Q (f - 1) (Po.add a (Po.dt Q r)) (Po.sub r (Po.mul (Po.dt Q r) Q))∧Po.dv Q P.length [] P=Po.dv Q ((f - 1) - 1) (Po.add a (Po.dt Q r)) (Po.sub r (Po.mul (Po.dt Q r) Q)) from by have h9:=Po.dt_less (r:=r) hQc hQn om;have h8:=Po.add_len a (Po.dt Q r);rw [Po.dt_len] at h8;exact ⟨⟨by omega,by omega,by omega⟩,Po.dok_yes hdk om om,hdv.trans (Po.dv_yes om om)⟩) om ((.of rfl):SubM _ _) (ho:=(.n:PickO _ _ _)) ((.of [5,0,15,16,17,18,19] rfl):SelR _ _ _)
  ·
   refine zca<|zh<|zh<|zt<|zd<|ze<|za<|e_mv rfl<|e_mv rfl<|e_p (zb rfl)<|e_p (zb rfl)<|e_p (zb rfl)<|zf<|zd<|zE ?_
   have h0:¬(Po.cl (Po.vals l2)).length=0:=by rw [← hQ];omega
   have hdn:Po.dv Q P.length [] P=(a,r):=hdv.trans (Po.dv_no om)
   have hv8:(Po.dq (Po.vals l1) (Po.vals l2))=a:=(if_neg h0).trans (by unfold Po.divp;rw [← hQ,←hP,hdn])
   have hv9:(Po.dr (Po.vals l1) (Po.vals l2))=r:=(if_neg h0).trans (by unfold Po.divp;rw [← hQ,←hP,hdn])
   have hv7:(Po.dc (Po.vals l2))=0:=if_neg h0
   exact zVb Tryz.results27 (pa,ca,pr,cr) trivial (zo rfl) (zo rfl) (zo rfl) (by rw [hv7,hv8,hv9]) (ho:=(.n:PickO _ _ _)) ((.e (j:=0) rfl (by rw [hv8]) (.e (j:=1) rfl (by rw [hv9]) .n)):SelR _ _ _)
end Go.Proofs.YtbiaimgafknkmaaGreat.Sp
namespace Go.Proofs.YtbiaimgafknkmaaGreat.Po
open Go.Proofs.YtbiaimgafknkmaaGreat.Big
def mo (l:List Rat):List Rat:=if l.length=0 then [] else mul l [((1:Int):Rat) / lead l]
def ge:Nat→List Rat→List Rat→List Rat
  |0,p,_=>p
  |n+1,p,q=>if q.length=0 then p else ge n q (mo (dr p q))
def gcd (p q:List Rat):List Rat:=ge (cl q).length (mo (cl p)) (mo (cl q))
def sqf (p:List Rat):List Rat:=if (cl p).length=0 then [] else mo (dq (cl p) (gcd (cl p) (der (cl p))))
def st:Nat→List Rat→List Rat→List (List Rat)
  |0,_,_=>[]
  |n+1,a,b=>if b.length=0 then [] else b :: st n b (mul (dr a b) [(((-1:Int)):Rat)])
def sturm (p:List Rat):List (List Rat):=if (sqf p).length=0 then [] else sqf p :: st (sqf p).length (sqf p) (der (sqf p))
def va (x:Rat):List (List Rat)→Int→Int→Int
  |[],n,_=>n
  |p :: l,n,s=>if sgq (ev x p)=0 then va x l n s else va x l (if s*sgq (ev x p)<0 then n+1 else n) (sgq (ev x p))
def vr (l:List (List Rat)) (x:Rat):Int:=va x l 0 0
def bt (l:List (List Rat)) (a b:Rat):Int:=vr l a - vr l b
def bm (P:List Rat):Nat→Rat
  |0=>((0:Int):Rat)
  |i+1=>if bm P i<qabs (P.getD i 0 / lead P) then qabs (P.getD i 0 / lead P) else bm P i
def bound (P:List Rat):Rat:=bm P (P.length - 1)+((1:Int):Rat)
def mid (a b:Rat):Rat:=(a+b)*Rat.divInt 1 2
def iso (l:List (List Rat)):Nat→Rat→Rat→List (Rat×Rat)
  |0,_,_=>[]
  |n+1,a,b=>if bt l a b=0 then [] else if bt l a b=1 then [(a,b)] else iso l n a (mid a b)++iso l n (mid a b) b
def dgo (p q:List Rat):Prop:=bd 60000000000 q∧dok (cl q) ((cl p).length+1) [] (cl p)
def gok:Nat→List Rat→List Rat→Prop
  |0,_,_=>True
  |n+1,p,q=>q.length≠0→dgo p q∧bd 60000000000 (dr p q)∧gok n q (mo (dr p q))
def gcok (p q:List Rat):Prop:=bd 60000000000 p∧bd 60000000000 q∧gok (cl q).length (mo (cl p)) (mo (cl q))
def sqok (p:List Rat):Prop:=bd 60000000000 p∧bd 60000000000 (der (cl p))∧((cl p).length≠0→gcok (cl p) (der (cl p))∧dgo (cl p) (gcd (cl p) (der (cl p)))∧bd 60000000000 (dq (cl p) (gcd (cl p) (der (cl p)))))
def stok:Nat→List Rat→List Rat→Prop
  |0,_,_=>True
  |n+1,a,b=>b.length≠0→bd 60000000000 b∧dgo a b∧bd 60000000000 (dr a b)∧stok n b (mul (dr a b) [(((-1:Int)):Rat)])
def sok (p:List Rat):Prop:=sqok p∧bd 60000000000 (sqf p)∧bd 60000000000 (der (sqf p))∧stok (sqf p).length (sqf p) (der (sqf p))
def vok (l:List (List Rat)) (x:Rat):Prop:=∀p,p∈l→p.length≤900∧bd 60000000000 p∧∀i,hq (ev x (p.drop i))≤200000000000
theorem mul_len (p q:List Rat):(mul p q).length≤p.length+q.length - 1:=by
  rw [← mul_mc]
  unfold mc
  exact Nat.le_trans (cl_le_len _) (by rw [gen_len];exact Nat.le_refl _)
theorem mo_len (l:List Rat):(mo l).length≤l.length:=by
  unfold mo
  split
  · exact Nat.zero_le _
  · exact Nat.le_trans (mul_len _ _) (by show l.length+1 - 1≤_;omega)
theorem mo_cl (l:List Rat):cl (mo l)=mo l:=by
  unfold mo
  split
  · rfl
  · exact mul_cl _ _
theorem dr_cl (p q:List Rat):cl (dr p q)=dr p q:=by
  unfold dr
  split
  · rfl
  · rename_i h
    have h':cl q≠[]:=fun e=>h (by rw [e];rfl)
    obtain ⟨-,-,h3,h4⟩:=dv_spec (cl_cl q) h' (cl p).length [] (cl p) (Nat.le_refl _) (cl_cl p) rfl
    first|exact h3|exact h4
theorem dq_cl (p q:List Rat):cl (dq p q)=dq p q:=by
  unfold dq
  split
  · rfl
  · rename_i h
    have h':cl q≠[]:=fun e=>h (by rw [e];rfl)
    obtain ⟨-,-,h3,h4⟩:=dv_spec (cl_cl q) h' (cl p).length [] (cl p) (Nat.le_refl _) (cl_cl p) rfl
    first|exact h4|exact h3
theorem dr_less {p q:List Rat} (hq:cl q=q) (h:q.length≠0):(dr p q).length<q.length:=by
  have h':cl q≠[]:=fun e=>h (by rw [hq] at e;rw [e];rfl)
  have:=(divp_spec (p:=p) h').1
  unfold dr
  rw [if_neg (by rw [hq];exact h)]
  rw [hq] at this
  exact this
theorem ge_nil {n:Nat} {p q:List Rat} (h:q.length=0):ge n p q=p:=by
  cases n with
  |zero=>rfl
  |succ n=>exact if_pos h
theorem ge_yes {n:Nat} {p q:List Rat} (h:q.length≠0) (hn:q.length≤n):ge n p q=ge (n - 1) q (mo (dr p q)):=by
  obtain ⟨m,rfl⟩:∃m,n=m+1:=⟨n - 1,by omega⟩
  exact if_neg h
theorem gok_yes {n:Nat} {p q:List Rat} (k:gok n p q) (h:q.length≠0) (hn:q.length≤n):dgo p q∧bd 60000000000 (dr p q)∧gok (n - 1) q (mo (dr p q)):=by
  obtain ⟨m,rfl⟩:∃m,n=m+1:=⟨n - 1,by omega⟩
  exact k h
theorem mdr_len {n:Nat} {p q:List Rat} (hq:cl q=q) (h:q.length≠0) (hn:q.length≤n):(mo (dr p q)).length≤n - 1:=by
  have:=mo_len (dr p q);have:=dr_less (p:=p) hq h;omega
theorem st_nil {n:Nat} {a b:List Rat} (h:b.length=0):st n a b=[]:=by
  cases n with
  |zero=>rfl
  |succ n=>exact if_pos h
theorem st_yes {n:Nat} {a b:List Rat} (h:b.length≠0) (hn:b.length≤n):st n a b=b :: st (n - 1) b (mul (dr a b) [(((-1:Int)):Rat)]):=by
  obtain ⟨m,rfl⟩:∃m,n=m+1:=⟨n - 1,by omega⟩
  exact if_neg h
theorem stok_yes {n:Nat} {a b:List Rat} (k:stok n a b) (h:b.length≠0) (hn:b.length≤n):bd 60000000000 b∧dgo a b∧bd 60000000000 (dr a b)∧stok (n - 1) b (mul (dr a b) [(((-1:Int)):Rat)]):=by
  obtain ⟨m,rfl⟩:∃m,n=m+1:=⟨n - 1,by omega⟩
  exact k h
theorem sdr_len {n:Nat} {a b:List Rat} (hb:cl b=b) (h:b.length≠0) (hn:b.length≤n):(mul (dr a b) [(((-1:Int)):Rat)]).length≤n - 1:=by
  have:=mul_len (dr a b) [(((-1:Int)):Rat)];have:=dr_less (p:=a) hb h
  simp only [List.length_cons,List.length_nil] at*
  omega
theorem der_len (l:List Rat):(der l).length≤l.length - 1:=by
  unfold der
  exact Nat.le_trans (cl_le_len _) (by rw [gen_len];exact Nat.le_refl _)
theorem cv_one {p q:List Rat} (hq1:∀j,j≠0→q.getD j 0=0) {k lo:Nat}:∀n,lo+n≤k+1→cv p q k lo n=if 0<n∧lo+n=k+1 then p.getD k 0*q.getD 0 0 else 0
  |0,_=>by rw [if_neg (by omega)];rfl
  |n+1,h=>by
    show cv p q k lo n+p.getD (lo+n) 0*q.getD (k - (lo+n)) 0=_
    rw [cv_one hq1 n (by omega),if_neg (by omega)]
    by_cases e:k=lo+n
    · rw [if_pos (by omega),e,Nat.sub_self];grind
    · rw [if_neg (by omega),hq1 _ (by omega)];grind
theorem cv_one_hq {p:List Rat} {x:Rat} {K L:Nat} (hp:bd K p) (hx:hq x≤L) (k lo n:Nat) (h:lo+n≤k+1):hq (cv p (cl [x]) k lo n)≤K+L:=by
  rw [cv_one (q:=cl [x]) (fun j hj=>by rw [cl_get];obtain ⟨i,rfl⟩:∃i,j=i+1:=⟨j - 1,by omega⟩;rfl) n h,cl_get]
  split
  · have := hq_mul (p.getD k 0) x
    have:=hp k
    show hq (p.getD k 0*x)≤_
    omega
  · rw [hq_zero];have:=hq_pos x;omega
theorem bd_one {x:Rat} {L:Nat} (hx:hq x≤L):bd L [x]:=fun i=>by
  cases i with
  |zero=>exact hx
  |succ i=>show hq 0≤L;rw [hq_zero];have:=hq_pos x;omega
theorem inv_hq {l:List Rat} {K:Nat} (h:bd K l):hq (((1:Int):Rat) / lead l)≤1+K:=by
  by_cases h0:lead l=0
  · rw [h0,show ((1:Int):Rat) / 0=0 by rw [Rat.div_def,Rat.inv_zero,Rat.mul_zero],hq_zero];omega
  · have := hq_div ((1 : Int) : Rat) h0
    have:=lead_hq h
    have:hq ((1:Int):Rat)=1:=by decide
    omega
theorem mid_hq {a b:Rat} {K L:Nat} (ha:hq a≤K) (hb:hq b≤L):hq (mid a b)≤K+L+2:=by
  unfold mid
  have:=hq_mul (a+b) (Rat.divInt 1 2)
  have:=hq_add a b
  have:hq (Rat.divInt 1 2)=1:=by decide +kernel
  omega
theorem bm_step (P:List Rat) (i:Nat):(if bm P i<qabs (P.getD i 0 / lead P) then qabs (P.getD i 0 / lead P) else bm P i)=bm P (i+1):=rfl
theorem bm_hq {P:List Rat} {K:Nat} (h:bd K P) (h0:lead P≠0):∀i,hq (bm P i)≤K+K
  | 0 => by show hq ((0 : Int) : Rat) ≤ _; have := hq_pos (lead P); have := lead_hq h; have : hq ((0 : Int) : Rat) = 1 := by decide
            omega
  |i+1=>by
    unfold bm
    split
    · rw [hq_qabs];have:=hq_div (P.getD i 0) h0;have:=lead_hq h;have:=h i;omega
    · exact bm_hq h h0 i
theorem vok_of {L:List (List Rat)} {x:Rat} {K M:Nat} (hx:hq x≤M) (h:∀p,p∈L→p.length≤10∧bd K p) (hk:K≤60000000000) (hb:1+10*(K+M+1)≤200000000000):vok L x:=fun p hp=>by
  obtain ⟨h1,h2⟩:=h p hp
  refine ⟨by omega,bd_mono h2 hk,fun i=> ?_⟩
  refine Nat.le_trans (ev_hq (K:=K) hx (l:=p.drop i) fun j=> ?_) (Nat.le_trans (Nat.add_le_add_left (Nat.mul_le_mul_right _ (by rw [List.length_drop];omega)) _) hb)
  have:(p.drop i).getD j 0=p.getD (i+j) 0:=by rw [List.getD_eq_getElem?_getD,List.getElem?_drop,←List.getD_eq_getElem?_getD]
  rw [this];exact h2 _
theorem va_step (x:Rat) {L:List (List Rat)} {i:Nat} (h:i<L.length) (n s:Int):va x (L.drop i) n s=if sgq (ev x (L.getD i []))=0 then va x (L.drop (i+1)) n s else va x (L.drop (i+1)) (if s*sgq (ev x (L.getD i []))<0 then n+1 else n) (sgq (ev x (L.getD i []))):=by
  have e:L.drop i=L.getD i [] :: L.drop (i+1):=by
    rw [List.getD_eq_getElem?_getD,List.getElem?_eq_getElem h]
    exact List.drop_eq_getElem_cons h
  rw [e];rfl
end Go.Proofs.YtbiaimgafknkmaaGreat.Po
namespace Go.Proofs.YtbiaimgafknkmaaGreat.Po
open Go.Proofs.YtbiaimgafknkmaaGreat.Big
def cbd (d:Int) (K:Nat) (l:List Rat):Prop:=∀i,∃n:Int,ln n≤K∧l.getD i 0*(d:Rat)=(n:Rat)
def cb (K:Nat) (l:List Rat):Prop:=∃d:Int,d≠0∧ln d≤K∧cbd d K l
theorem sub_mul' (a b c:Rat):(a - b)*c=a*c - b*c:=by grind
theorem cast_ne {d:Int} (h:d≠0):(d:Rat)≠0:=fun e=>h (by exact_mod_cast e)
theorem frac_hq {x:Rat} {n d:Int} {K:Nat} (hd:d≠0) (h1:ln n≤K) (h2:ln d≤K) (h:x*(d:Rat)=(n:Rat)):hq x≤K:=by
  have e:x=Rat.divInt n d:=by
    rw [Rat.divInt_eq_div]
    rw [← h,Rat.mul_div_cancel (cast_ne hd)]
  rw [e]
  have:=hq_divInt (n:=n) hd
  omega
theorem cb_bd {K:Nat} {l:List Rat} (h:cb K l):bd K l:=fun i=>by
  obtain ⟨d,h0,h1,h2⟩:=h
  obtain ⟨n,h3,h4⟩:=h2 i
  exact frac_hq h0 h3 h1 h4
theorem cb_mono {K L:Nat} {l:List Rat} (h:cb K l) (hk:K≤L):cb L l:=by
  obtain ⟨d,h0,h1,h2⟩:=h
  exact ⟨d,h0,by omega,fun i=>by obtain ⟨n,h3,h4⟩:=h2 i;exact ⟨n,by omega,h4⟩⟩
theorem cb_ext {K:Nat} {l m:List Rat} (h:cb K l) (e:∀i,m.getD i 0=l.getD i 0):cb K m:=by
  obtain ⟨d,h0,h1,h2⟩:=h
  exact ⟨d,h0,h1,fun i=>by rw [e];exact h2 i⟩
theorem cb_cl {K:Nat} {l:List Rat} (h:cb K l):cb K (cl l):=cb_ext h (cl_get l)
theorem cb_of_bd {k:Nat}:∀{l:List Rat},bd k l→cb (1+l.length*k) l
  |[],_=>⟨1,by decide,by rw [zkg];omega,fun i=>⟨0,by rw [zde];omega,by rw [gD0 (Nat.zero_le _)];simp⟩⟩
  |a :: l,h=>by
    obtain ⟨d,h0,h1,h2⟩:=cb_of_bd (l:=l) (k:=k) fun i=>h (i+1)
    have ha:hq a≤k:=h 0
    have hn:=hq_num a
    have hd:=hq_den a
    have hm:=zpa d (a.den:Int)
    have hlen:(a :: l).length*k=l.length*k+k:=by rw [List.length_cons,Nat.succ_mul]
    refine ⟨d*(a.den:Int),Int.mul_ne_zero h0 (den_ne a),by omega,fun i=> ?_⟩
    cases i with
    |zero=>
      refine ⟨a.num*d,by have:=zpa a.num d;omega,?_⟩
      show a*((d*(a.den:Int):Int):Rat)=_
      have e:a*((a.den:Int):Rat)=(a.num:Rat):=by
        have h1:(a.num:Rat) / ((a.den:Int):Rat)=a:=by rw [← Rat.divInt_eq_div,Rat.num_divInt_den]
        have h2:=Rat.div_mul_cancel (a:=(a.num:Rat)) (cast_ne (den_ne a))
        rw [h1] at h2
        exact h2
      rw [Rat.intCast_mul,Rat.intCast_mul,Rat.mul_comm (d:Rat),←Rat.mul_assoc,e]
    |succ i=>
      obtain ⟨n,h3,h4⟩:=h2 i
      refine ⟨n*(a.den:Int),by have:=zpa n (a.den:Int);omega,?_⟩
      show l.getD i 0*((d*(a.den:Int):Int):Rat)=_
      rw [Rat.intCast_mul,Rat.intCast_mul,←Rat.mul_assoc,h4]
theorem cb_scale {K:Nat} {l m:List Rat} {x:Rat} (h:cb K l) (hx:x=1 / lead l) (h0:lead l≠0) (e:∀i,m.getD i 0=l.getD i 0*x):cb K m:=by
  obtain ⟨d,hd,h1,h2⟩:=h
  obtain ⟨nl,h3,h4⟩:=h2 (l.length - 1)
  have h4':lead l*(d:Rat)=(nl:Rat):=h4
  have hnl:nl≠0:=fun k=>by
    rw [k] at h4'
    rcases Rat.mul_eq_zero.1 (h4'.trans (by rfl)) with q|q
    · exact h0 q
    · exact cast_ne hd q
  refine ⟨nl,hnl,h3,fun i=> ?_⟩
  obtain ⟨n,h5,h6⟩:=h2 i
  refine ⟨n,h5,?_⟩
  rw [e,hx,←h4',←h6]
  have:l.getD i 0*(1 / lead l)*(lead l*(d:Rat))=l.getD i 0*(d:Rat)*(1 / lead l*lead l):=by grind
  rw [this,Rat.div_mul_cancel h0,Rat.mul_one]
theorem mul_one_get (l:List Rat) (x:Rat) (i:Nat):(mul l [x]).getD i 0=l.getD i 0*x:=by
  rw [← scl_mul,scl_get]
theorem cb_mo {K:Nat} {l:List Rat} (hl:cl l=l) (h:cb K l):cb K (mo l):=by
  unfold mo
  split
  · rename_i h0
    have e:l=[]:=List.length_eq_zero_iff.1 h0
    rw [← e];exact h
  · rename_i h0
    exact cb_scale h rfl (lead_ne hl (fun e=>h0 (by rw [e];rfl))) (mul_one_get l _)
theorem cb_neg {K:Nat} {l:List Rat} (h:cb K l):cb K (mul l [(((-1:Int)):Rat)]):=by
  obtain ⟨d,hd,h1,h2⟩:=h
  refine ⟨d,hd,h1,fun i=> ?_⟩
  obtain ⟨n,h3,h4⟩:=h2 i
  refine ⟨-n,by rw [zK];exact h3,?_⟩
  rw [mul_one_get,show (((-1:Int)):Rat)= -1 by decide +kernel,show ((-n:Int):Rat)= -(n:Rat) from Rat.intCast_neg n,←h4]
  grind
theorem cb_der {K:Nat} {l:List Rat} (h:cb K l) (hl:l.length≤1000):cb (K+3) (der l):=by
  obtain ⟨d,hd,h1,h2⟩:=h
  refine ⟨d,hd,by omega,fun i=> ?_⟩
  by_cases hi:i+1<l.length
  · obtain ⟨n, h3, h4⟩ := h2 (i + 1)
    refine ⟨((i+1:Nat):Int)*n,?_,?_⟩
    · have := zpa ((i + 1 : Nat) : Int) n
      have:=zGf (z:=((i+1:Nat):Int)) (by omega) (by omega)
      omega
    · rw [der_get,Rat.intCast_mul,←h4,Rat.mul_assoc]
  · refine ⟨0, by rw [zde]; omega, ?_⟩
    rw [der_get,gD0 (by omega)];simp
def cb2 (K:Nat) (a r:List Rat):Prop:=∃d:Int,d≠0∧ln d≤K∧cbd d K a∧cbd d K r
theorem cb2_step {K L:Nat} {a r q:List Rat} (hq:cl q=q) (hn:q≠[]) (h:cb2 K a r) (g:cb L q):cb2 (K+L+1) (add a (dt q r)) (sub r (mul (dt q r) q)):=by
  obtain ⟨d,hd,h1,ha,hr⟩:=h
  obtain ⟨e,he,g1,g2⟩:=g
  have hl0:=lead_ne hq hn
  obtain ⟨nl,k1,k2⟩:=hr (r.length - 1)
  obtain ⟨ml,k3,k4⟩:=g2 (q.length - 1)
  have k2':lead r*(d:Rat)=(nl:Rat):=k2
  have k4':lead q*(e:Rat)=(ml:Rat):=k4
  have hml:ml≠0:=fun k=>by
    rw [k] at k4'
    rcases Rat.mul_eq_zero.1 (k4'.trans (by rfl)) with q|q
    · exact hl0 q
    · exact cast_ne he q
  have hk:lead r / lead q*(((d*ml:Int)):Rat)=((nl*e:Int):Rat):=by
    rw [Rat.intCast_mul,Rat.intCast_mul,←k2',←k4']
    have:lead r / lead q*((d:Rat)*(lead q*(e:Rat)))=lead r / lead q*lead q*((d:Rat)*(e:Rat)):=by grind
    rw [this,Rat.div_mul_cancel hl0];grind
  refine ⟨d*ml,Int.mul_ne_zero hd hml,by have:=zpa d ml;omega,fun i=> ?_,fun i=> ?_⟩
  · obtain ⟨n, h3, h4⟩ := ha i
    rw [add_get]
    unfold dt
    rw [mono_get]
    split
    · refine ⟨n * ml + nl * e, ?_, ?_⟩
      · have:=zfc (n*ml) (nl*e);have:=zpa n ml;have:=zpa nl e;omega
      · rw [Rat.add_mul,hk,Rat.intCast_add,Rat.intCast_mul,Rat.intCast_mul,Rat.intCast_mul,←Rat.mul_assoc,h4]
    · refine ⟨n * ml, by have := zpa n ml; omega, ?_⟩
      rw [Rat.add_mul,Rat.zero_mul,Rat.add_zero,Rat.intCast_mul,Rat.intCast_mul,←Rat.mul_assoc,h4]
  · obtain ⟨n, h3, h4⟩ := hr i
    rw [sub_get,mul_get]
    unfold dt
    rw [C_mono]
    split
    · obtain ⟨m, h5, h6⟩ := g2 (i - (r.length - q.length))
      refine ⟨n*ml - nl*m,?_,?_⟩
      · have:=zjg (n*ml) (nl*m);have:=zpa n ml;have:=zpa nl m;omega
      · have z:lead r / lead q*q.getD (i - (r.length - q.length)) 0*(((d*ml:Int)):Rat)=((nl*m:Int):Rat):=by
          rw [Rat.intCast_mul,Rat.intCast_mul,←h6,←k2',←k4']
          have:lead r / lead q*q.getD (i - (r.length - q.length)) 0*((d:Rat)*(lead q*(e:Rat)))=lead r / lead q*lead q*((d:Rat)*(q.getD (i - (r.length - q.length)) 0*(e:Rat))):=by grind
          rw [this,Rat.div_mul_cancel hl0];grind
        rw [sub_mul',z,Rat.intCast_sub,Rat.intCast_mul,Rat.intCast_mul,Rat.intCast_mul,←Rat.mul_assoc,h4]
    · refine ⟨n * ml, by have := zpa n ml; omega, ?_⟩
      rw [sub_mul',Rat.zero_mul,Rat.sub_eq_add_neg,Rat.neg_zero,Rat.add_zero,Rat.intCast_mul,Rat.intCast_mul,←Rat.mul_assoc,h4]
theorem cb2_bd {K:Nat} {a r:List Rat} (h:cb2 K a r):bd K a∧bd K r:=by
  obtain ⟨d,h0,h1,h2,h3⟩:=h
  exact ⟨cb_bd ⟨d,h0,h1,h2⟩,cb_bd ⟨d,h0,h1,h3⟩⟩
theorem cgrow {q:List Rat} {L:Nat} (hq:cl q=q) (hn:q≠[]) (g:cb L q):∀(n K:Nat) (a r:List Rat),cb2 K a r→K+n*(L+1)≤60000000000→dok q n a r
  |0,_,_,_,_,_=>trivial
  |n+1,K,a,r,h,hb=>by
    rw [Nat.succ_mul] at hb
    refine ⟨⟨bd_mono (cb2_bd h).1 (by omega),bd_mono (cb2_bd h).2 (by omega)⟩,fun _=> ?_⟩
    exact cgrow hq hn g n (K+L+1) _ _ (cb2_step hq hn h g) (by omega)
theorem dv_cb {q:List Rat} {L:Nat} (hq:cl q=q) (hn:q≠[]) (g:cb L q):∀(n K:Nat) (a r:List Rat),cb2 K a r→cb2 (K+(r.length+1 - q.length)*(L+1)) (dv q n a r).1 (dv q n a r).2
  |0,K,a,r,h=>by
    obtain ⟨d,h0,h1,h2,h3⟩:=h
    have:K≤K+(r.length+1 - q.length)*(L+1):=Nat.le_add_right _ _
    exact ⟨d,h0,by omega,fun i=>by obtain ⟨n,a1,a2⟩:=h2 i;exact ⟨n,by omega,a2⟩,fun i=>by obtain ⟨n,a1,a2⟩:=h3 i;exact ⟨n,by omega,a2⟩⟩
  |n+1,K,a,r,h=>by
    by_cases hl:r.length<q.length
    · unfold dv
      rw [if_pos hl]
      obtain ⟨d,h0,h1,h2,h3⟩:=h
      have:K≤K+(r.length+1 - q.length)*(L+1):=Nat.le_add_right _ _
      exact ⟨d,h0,by omega,fun i=>by obtain ⟨n,a1,a2⟩:=h2 i;exact ⟨n,by omega,a2⟩,fun i=>by obtain ⟨n,a1,a2⟩:=h3 i;exact ⟨n,by omega,a2⟩⟩
    · unfold dv
      rw [if_neg hl]
      have hlt:=dt_less (r:=r) hq hn (by omega)
      have ih:=dv_cb hq hn g n (K+L+1) _ _ (cb2_step hq hn h g)
      have e:K+L+1+((sub r (mul (dt q r) q)).length+1 - q.length)*(L+1)≤K+(r.length+1 - q.length)*(L+1):=by
        have:((sub r (mul (dt q r) q)).length+1 - q.length+1)*(L+1)≤(r.length+1 - q.length)*(L+1):=Nat.mul_le_mul_right _ (by omega)
        rw [Nat.succ_mul] at this
        omega
      obtain ⟨d,h0,h1,h2,h3⟩:=ih
      exact ⟨d,h0,by omega,fun i=>by obtain ⟨n,a1,a2⟩:=h2 i;exact ⟨n,by omega,a2⟩,fun i=>by obtain ⟨n,a1,a2⟩:=h3 i;exact ⟨n,by omega,a2⟩⟩
theorem cb2_nil {K:Nat} {r:List Rat} (h:cb K r):cb2 K [] r:=by
  obtain ⟨d,h0,h1,h2⟩:=h
  exact ⟨d,h0,h1,fun i=>⟨0,by rw [zde];omega,by rw [gD0 (Nat.zero_le _)];simp⟩,h2⟩
theorem div_cb {p q:List Rat} {K L N:Nat} (hp:cl p=p) (hq:cl q=q) (hn:q.length≠0) (h:cb K p) (g:cb L q) (hN:p.length+1 - q.length≤N):cb (K+N*(L+1)) (dq p q)∧cb (K+N*(L+1)) (dr p q):=by
  have h':q≠[]:=fun e=>hn (by rw [e];rfl)
  have:=dv_cb hq h' g p.length K [] p (cb2_nil h)
  have e:(p.length+1 - q.length)*(L+1)≤N*(L+1):=Nat.mul_le_mul_right _ hN
  unfold dq dr divp
  rw [hq,hp,if_neg hn,if_neg hn]
  obtain ⟨d,h0,h1,h2,h3⟩:=this
  exact ⟨cb_mono ⟨d,h0,h1,h2⟩ (by omega),cb_mono ⟨d,h0,h1,h3⟩ (by omega)⟩
theorem dgo_cb {p q:List Rat} {K L N:Nat} (hp:cl p=p) (hq:cl q=q) (hn:q.length≠0) (h:cb K p) (g:cb L q) (hN:p.length+1≤N) (hb:K+N*(L+1)≤60000000000) (hL:L≤60000000000):dgo p q:=by
  have h':q≠[]:=fun e=>hn (by rw [e];rfl)
  refine ⟨bd_mono (cb_bd g) hL,?_⟩
  rw [hq,hp]
  refine cgrow hq h' g _ K _ _ (cb2_nil h) ?_
  have e:(p.length+1)*(L+1)≤N*(L+1):=Nat.mul_le_mul_right _ hN
  omega
theorem gok_cb {N:Nat} (hN0:1≤N):∀(n K:Nat) (p q:List Rat),cl p=p→cl q=q→cb K p→cb K q→p.length+1≤N→q.length+1≤N→(K+1)*(N+1)^n≤60000000000→gok n p q∧cb ((K+1)*(N+1)^n) (ge n p q)
  |0,K,p,q,_,_,hp,_,_,_,_=>⟨trivial,cb_mono hp (by show K≤(K+1)*1;omega)⟩
  |n+1,K,p,q,cp,cq,hp,hq,lp,lq,hb=>by
    have e1:(K+1)*(N+1)^(n+1)=(K+1)*(N+1)*(N+1)^n:=by rw [Nat.pow_succ,Nat.mul_assoc,Nat.mul_comm (N+1)]
    have e2:(K+1)*(N+1)≤(K+1)*(N+1)*(N+1)^n:=Nat.le_mul_of_pos_right _ (Nat.pow_pos (by omega))
    have e3:K+N*(K+1)+1=(K+1)*(N+1):=by rw [Nat.mul_comm (K+1),Nat.succ_mul];omega
    have e4:K+1≤(K+1)*(N+1):=Nat.le_mul_of_pos_right _ (by omega)
    by_cases h0:q.length=0
    · refine ⟨fun k => absurd h0 k, ?_⟩
      rw [ge_nil h0]
      exact cb_mono hp (by omega)
    · have hd := (div_cb (N := N) cp cq h0 hp hq (by omega)).2
      have hlt:=dr_less (p:=p) cq h0
      have hml:=mo_len (dr p q)
      have ih:=gok_cb hN0 n (K+N*(K+1)) q (mo (dr p q)) cq (mo_cl _) (cb_mono hq (by omega)) (cb_mo (dr_cl _ _) hd) lq (by omega) (by rw [e3,←e1];exact hb)
      refine ⟨fun _=>⟨dgo_cb cp cq h0 hp hq lp (by omega) (by omega),bd_mono (cb_bd hd) (by omega),ih.1⟩,?_⟩
      have e5:ge (n+1) p q=ge n q (mo (dr p q)):=if_neg h0
      rw [e5,e1,←e3]
      exact ih.2
theorem ge_cl:∀(n:Nat) (p q:List Rat),cl p=p→cl q=q→cl (ge n p q)=ge n p q
  |0,_,_,hp,_=>hp
  |n+1,p,q,hp,hq=>by
    unfold ge
    split
    · exact hp
    · exact ge_cl n q _ hq (mo_cl _)
theorem gcd_cl (p q:List Rat):cl (gcd p q)=gcd p q:=ge_cl _ _ _ (mo_cl _) (mo_cl _)
theorem sqf_cl (p:List Rat):cl (sqf p)=sqf p:=by
  unfold sqf
  split
  · rfl
  · exact mo_cl _
theorem stok_cb {N:Nat} (hN0:1≤N):∀(n K:Nat) (a b:List Rat),cl a=a→cl b=b→cb K a→cb K b→a.length+1≤N→b.length+1≤N→(K+1)*(N+1)^n≤60000000000→stok n a b∧∀l,l∈st n a b→l.length+1≤N∧cb ((K+1)*(N+1)^n) l
  |0,K,_,_,_,_,_,_,_,_,_=>⟨trivial,fun l h=>by cases h⟩
  |n+1,K,p,q,cp,cq,hp,hq,lp,lq,hb=>by
    have e1:(K+1)*(N+1)^(n+1)=(K+1)*(N+1)*(N+1)^n:=by rw [Nat.pow_succ,Nat.mul_assoc,Nat.mul_comm (N+1)]
    have e2:(K+1)*(N+1)≤(K+1)*(N+1)*(N+1)^n:=Nat.le_mul_of_pos_right _ (Nat.pow_pos (by omega))
    have e3:K+N*(K+1)+1=(K+1)*(N+1):=by rw [Nat.mul_comm (K+1),Nat.succ_mul];omega
    have e4:K+1≤(K+1)*(N+1):=Nat.le_mul_of_pos_right _ (by omega)
    by_cases h0:q.length=0
    · refine ⟨fun k => absurd h0 k, fun l h => ?_⟩
      rw [st_nil h0] at h
      cases h
    · have hd := (div_cb (N := N) cp cq h0 hp hq (by omega)).2
      have hlt:=dr_less (p:=p) cq h0
      have hml:=sdr_len (n:=q.length) (a:=p) cq h0 (Nat.le_refl _)
      have ih:=stok_cb hN0 n (K+N*(K+1)) q (mul (dr p q) [(((-1:Int)):Rat)]) cq (mul_cl _ _) (cb_mono hq (by omega)) (cb_neg hd) lq (by omega) (by rw [e3,←e1];exact hb)
      refine ⟨fun _=>⟨bd_mono (cb_bd hq) (by omega),dgo_cb cp cq h0 hp hq lp (by omega) (by omega),bd_mono (cb_bd hd) (by omega),ih.1⟩,fun l h=> ?_⟩
      have e5:st (n+1) p q=q :: st n q (mul (dr p q) [(((-1:Int)):Rat)]):=if_neg h0
      rw [e5] at h
      rcases List.mem_cons.1 h with rfl|h
      · exact ⟨lq,cb_mono hq (by omega)⟩
      · obtain ⟨i1, i2⟩ := ih.2 l h
        exact ⟨i1,by rw [e1,←e3];exact i2⟩
end Go.Proofs.YtbiaimgafknkmaaGreat.Po
namespace Go.Proofs.YtbiaimgafknkmaaGreat.Po
open Go.Proofs.YtbiaimgafknkmaaGreat.Big
theorem ge_len:∀(n:Nat) (p q:List Rat),cl q=q→(ge n p q).length≤max p.length q.length
  |0,p,q,_=>Nat.le_max_left _ _
  |n+1,p,q,hq=>by
    by_cases h:q.length=0
    · rw [ge_nil h];exact Nat.le_max_left _ _
    · have e : ge (n + 1) p q = ge n q (mo (dr p q)) := if_neg h
      rw [e]
      have:=ge_len n q (mo (dr p q)) (mo_cl _)
      have:=mo_len (dr p q)
      have:=dr_less (p:=p) hq h
      omega
theorem gcd_len (p q:List Rat):(gcd p q).length≤max p.length q.length:=by
  unfold gcd
  have:=ge_len (cl q).length (mo (cl p)) (mo (cl q)) (mo_cl _)
  have:=mo_len (cl p);have:=mo_len (cl q)
  have:=cl_le_len p;have:=cl_le_len q
  omega
theorem dv_len {q:List Rat} (hq:cl q=q) (h:q≠[]):∀(n:Nat) (a r:List Rat),(dv q n a r).1.length≤max a.length r.length∧(dv q n a r).2.length≤r.length
  |0,a,r=>⟨Nat.le_max_left _ _,Nat.le_refl _⟩
  |n+1,a,r=>by
    unfold dv
    split
    · exact ⟨Nat.le_max_left _ _,Nat.le_refl _⟩
    · have hlt := dt_less (r := r) hq h (by omega)
      obtain ⟨h1,h2⟩:=dv_len hq h n (add a (dt q r)) (sub r (mul (dt q r) q))
      have:=add_len a (dt q r)
      rw [dt_len] at this
      have:0<q.length:=List.length_pos_iff.2 h
      omega
theorem dqr_len (p q:List Rat):(dq p q).length≤p.length∧(dr p q).length≤p.length:=by
  unfold dq dr
  split
  · exact ⟨Nat.zero_le _,Nat.zero_le _⟩
  · rename_i h
    obtain ⟨h1,h2⟩:=dv_len (cl_cl q) (fun e=>h (by rw [e];rfl)) (cl p).length [] (cl p)
    have:=cl_le_len p
    unfold divp
    simp only [List.length_nil] at h1
    omega
theorem sqf_len (p:List Rat):(sqf p).length≤p.length:=by
  unfold sqf
  split
  · exact Nat.zero_le _
  · have := mo_len (dq (cl p) (gcd (cl p) (der (cl p))))
    have:=(dqr_len (cl p) (gcd (cl p) (der (cl p)))).1
    have:=cl_le_len p
    omega
theorem va_rng (x:Rat):∀(l:List (List Rat)) (n s:Int),n≤va x l n s∧va x l n s≤n+l.length
  |[],n,s=>by show n≤n∧n≤n+0;omega
  |p :: l,n,s=>by
    unfold va
    rw [List.length_cons]
    split
    · have:=va_rng x l n s;omega
    · split
      · have:=va_rng x l (n+1) (sgq (ev x p));omega
      · have:=va_rng x l n (sgq (ev x p));omega
theorem vr_rng (l:List (List Rat)) (x:Rat):0≤vr l x∧vr l x≤l.length:=by
  have:=va_rng x l 0 0
  unfold vr
  omega
theorem sg_mul {a b:Int} (ha: -1≤a∧a≤1) (hb: -1≤b∧b≤1): -9223372036854775808≤a*b∧a*b≤9223372036854775807:=by
  rcases (show a= -1∨a=0∨a=1 by omega) with rfl|rfl|rfl <;> omega
def isk (l:List (List Rat)):Nat→Rat→Rat→Prop
  |0,_,_=>False
  |n+1,a,b=>(hq a≤100000000000∧hq b≤100000000000∧vok l a∧vok l b)∧(bt l a b≠0→bt l a b≠1→isk l n a (mid a b)∧isk l n (mid a b) b)
theorem iso_none {l:List (List Rat)} {n:Nat} {a b:Rat} (h:bt l a b=0):iso l n a b=[]:=by
  cases n with
  |zero=>rfl
  |succ n=>exact if_pos h
theorem iso_one {l:List (List Rat)} {n:Nat} {a b:Rat} (h:bt l a b=1):iso l (n+1) a b=[(a,b)]:=by
  unfold iso;rw [if_neg (by omega),if_pos h]
theorem iso_more {l:List (List Rat)} {n:Nat} {a b:Rat} (h0:bt l a b≠0) (h1:bt l a b≠1):iso l (n+1) a b=iso l n a (mid a b)++iso l n (mid a b) b:=by
  conv=>lhs;unfold iso
  rw [if_neg h0,if_neg h1]
theorem lt_sgq {a b:Rat}:0<sgq (a - b)↔b<a:=by
  rw [sgq_pos]
  constructor <;> intro h <;> grind
end Go.Proofs.YtbiaimgafknkmaaGreat.Po
namespace Go.Proofs.YtbiaimgafknkmaaGreat.Sp
open Go
set_option linter.unusedVariables false
def rR:Rp (Rat×Rat):=⟨8,Wd×Wd×Wd×Wd,fun _ w=>[w.1.b,w.1.l,w.2.1.b,w.2.1.l,w.2.2.1.b,w.2.2.1.l,w.2.2.2.b,w.2.2.2.l],fun g q w=>(qF true w.1 w.2.1 q.1).on g∧(qF true w.2.2.1 w.2.2.2 q.2).on g,fun _ _ _ _ h k=>⟨(qF true _ _ _).mono _ _ h k.1,(qF true _ _ _).mono _ _ h k.2⟩,fun _ _=>rfl,fun _ _=>rfl⟩
theorem open_rR {A:Fa} {q:Rat×Rat} {w1 w2 w3 w4:Wd} {R:List Fa}:∀g,Holds g (A :: okF rR q (w1,w2,w3,w4) :: R)→Holds g (A :: qF true w1 w2 q.1 :: qF true w3 w4 q.2 :: R):=fun g ⟨h,a,r⟩=>⟨h,a.1,a.2,r⟩
section
variable {P : Program} {c : Cx} {O : List As} {R : List Fa} {α : Type} {T e : TypeId} {r : Rp α} {l : List α} {b : Nat}
def orA (b:Nat) (T e:TypeId) (r:Rp α) (l:List α):As:=⟨fun g h=>∃p c,Sep g [boxA b T [.slice p l.length c],rowA e r p c l] h,fun _ _ _ hg ⟨p,c,s⟩=>⟨p,c,Sep.mono hg s⟩⟩
theorem Mem.orOpen {w:World} (i:Nat) (hi:O[i]? =some (orA b T e r l)) (mm:Mem c w O R):∃y:Option Addr×Nat,True∧Mem c w (boxA b T [.slice y.1 l.length y.2] :: rowA e r y.1 y.2 l :: O.eraseIdx i) R:=by
  obtain ⟨hh,g,m0⟩:=mm.perm (zba hi)
  obtain ⟨h1,h2,a,eh,⟨p,cap,s⟩,y⟩:=m0.sep
  refine ⟨(p,cap),trivial,hh,g,?_,m0.holds,m0.apart,m0.hasH,m0.hasG,m0.le,m0.newG,m0.newH,m0.kept⟩
  subst eh
  exact Sep.app (O:=[boxA b T [.slice p l.length cap],rowA e r p cap l]) s y a
theorem Mem.orClose {w:World} {p:Option Addr} {n cap:Nat} (i j:Nat) (hi:O[i]? =some (boxA b T [.slice p n cap])) (hj:(O.eraseIdx i)[j]? =some (rowA e r p cap l)) (hn:n=l.length) (mm:Mem c w O R):Mem c w (orA b T e r l :: (O.eraseIdx i).eraseIdx j) R:=
  (mm.perm ((zba hi).trans (List.Perm.cons _ (zba hj)))).resep fun g h s=>by
    subst hn
    obtain ⟨h1,h2,a,eh,x,y⟩:=Sep.split (O:=[boxA b T [.slice p l.length cap],rowA e r p cap l]) (O':=(O.eraseIdx i).eraseIdx j) s
    exact ⟨h1,h2,a,eh,⟨p,cap,x⟩,y⟩
theorem Mem.orCast {w:World} {l2:List α} (i:Nat) (hi:O[i]? =some (orA b T e r l)) (h:l=l2) (mm:Mem c w O R):Mem c w (orA b T e r l2 :: O.eraseIdx i) R:=by
  subst h
  exact mm.perm (zba hi)
end
end Go.Proofs.YtbiaimgafknkmaaGreat.Sp
