/- Lemmas on the walk and plain lemmas that the claim of this folder uses; each states its own conditions. Lines were printed by a program of ours. -/
import Derived.Test.YtjcpbhlijoigfaaGreatZ4D
set_option linter.unusedVariables false
set_option linter.unusedSimpArgs false
set_option linter.unusedSectionVars false
open Go.Proofs.Tryz renaming underlying30 → ya, underlying43 → yb, underlying22 → yc, prog → yd, underlying54 → yf, underlying34 → yg, underlying69 → yj, underlying50 → yk, results16 → yl, results53 → yn, results4 → yo, underlying3 → yp
open Go.Proofs.YtjcpbhlijoigfaaGreat.Big renaming zR → ye, hq_num → yh, hq_den → yi, hq → ym, raw → yq, zFa → yr
namespace Go.Proofs.YtjcpbhlijoigfaaGreat.Sp
open Go
set_option linter.unusedVariables false
set_option maxRecDepth 100000
set_option maxHeartbeats 8000000
theorem zdd {z:Int} (hz: -9223372036854775808≤z∧z≤9223372036854775807):Con yd 74 [.int .i64 z] [] [] (Y:=(Option Addr)×Nat) (fun y=>True) (fun y=> .agg #[.bool (decide (z<0)),.slice (y.1) ((Big.digs ((z).natAbs)).length) (y.2)]) (fun y=>[]) (fun y=>[slF (rI .u32) (y.1) (y.2) (Big.digs ((z).natAbs))]):=by
 refine zl Tryz.func74 rfl rfl rfl (fun c=> ?_)
 show RunC _ _ _ _ _ [(0,.int .i64 z)] [] []
 refine zg<|za<|zM rfl rfl (zo zr41 rfl) (fun b1=> ?_)
 refine zh<|zd<|zg<|za<|e_mv rfl<|zD rfl rfl (.c rfl .n) ce113 (zpf (z:=z) (hz:=ass)) (.n) ?_
 rintro ⟨p22,c23⟩ -
 dsimp only [aq,nq,cq]
 refine zm 0 rfl rfl rfl rfl rfl sz41 rfl (.t2 .nil) .z<|zh<|zd<|zH ?_
 exact zq Tryz.results74 (p22,c23) trivial (zp 0 ty41 rfl rfl (.t2 .nil)) rfl (ho:=(.n:PickO _ _ _)) ((.c (j:=0) rfl .n):SelR _ _ _)
theorem zAb {z:Int} (hz: -9223372036854775808≤z∧z≤9223372036854775807):Con yd 74 [.int .i64 (z)] [] [] (Y:=(Wd)) (fun y=>True) (fun y=> .agg #[y.b,y.l]) (fun y=>[]) (fun y=>[zF y (z)]):=by
  exact zQb (zdd hz)
theorem zed {z:Int} (hz: -9223372036854775808≤z∧z≤9223372036854775807):Con yd 26 [.int .i64 z] [] [] (Y:=Wd×Wd) (fun y=>True) (fun y=> .agg #[y.1.b,y.1.l,y.2.b,y.2.l]) (fun y=>[]) (fun y=>[qF true y.1 y.2 ((z:Int):Rat)]):=by
 refine zl Tryz.func26 rfl rfl rfl (fun c=> ?_)
 show RunC _ _ _ _ _ [(0,.int .i64 z)] [] []
 refine zg<|za<|zM rfl rfl (zo zr43 rfl) (fun b1=> ?_)
 refine zh<|zd<|zg<|za<|e_mv rfl<|zD rfl rfl (.c rfl .n) ce74 (zAb (z:=z) (hz:=ass)) (.n) ?_
 rintro w32 -
 dsimp only [aq,nq,cq]
 refine zD rfl rfl (.c rfl .n) ce74 (zAb (z:=1) (hz:=by first|rfl|assumption|omega|(rw [ye];omega)|(decide +kernel))) (.n) ?_
 rintro w33 -
 dsimp only [aq,nq,cq]
 refine e_p (zG zr43 rfl yb (.c sz41 (.c sz41 .n)) (.c rfl (.c rfl .n)) (.c rfl rfl rfl (.t2 .nil) (.c rfl rfl rfl (.s2 (.t2 .nil)) .n)))<|zm 0 rfl rfl rfl rfl rfl sz43 rfl (.t4 .nil) .z<|zh<|zd<|zH<|zDb (qF true w32 w33 ((z:Int):Rat)) (qF_close 1 0 rfl rfl (by exact ⟨(Rat.num_intCast z).symm,by rw [Rat.den_intCast];rfl,Nat.le_trans (Big.hq_64 hz.1 hz.2) dd⟩)) ?_
 exact zq Tryz.results26 (w32,w33) trivial (zp 0 ty43 rfl rfl (.t4 .nil)) rfl (ho:=(.n:PickO _ _ _)) ((.c (j:=0) rfl .n):SelR _ _ _)
theorem zSc {s:Bool} {p1:Option Addr} {n1:Nat} {c1:Nat} {l1:List Int} {t:Bool} {p2:Option Addr} {n2:Nat} {c2:Nat} {l2:List Int} (hn1:l1.length=n1) (hn2:l2.length=n2) (hm1:n1≤1048576) (hm2:n2≤1048576):Con yd 88 [.agg #[.bool s,.slice p1 n1 c1,.bool t,.slice p2 n2 c2]] [] [slF (rI .u32) p1 c1 l1,slF (rI .u32) p2 c2 l2] (Y:=Unit) (fun y=>True) (fun y=> .bool (decide (Big.qok ((s,l1),(t,l2))))) (fun y=>[]) (fun y=>[]):=by
 refine zl Tryz.func88 rfl rfl rfl (fun c=> ?_)
 show RunC _ _ _ _ _ [(0,.agg #[.bool s,.slice p1 n1 c1,.bool t,.slice p2 n2 c2])] [] [slF (rI .u32) p1 c1 l1,slF (rI .u32) p2 c2 l2]
 refine zba 0 rfl (fun hL0=> ?_)
 refine zOa 0 rfl (fun hE0=> ?_)
 refine zba 1 rfl (fun hL1=> ?_)
 refine zOa 1 rfl (fun hE1=> ?_)
 have hnn1:Big.nn l1:=fun g hg=>(zx.1 (hE0 g hg)).1
 have hnn2:Big.nn l2:=fun g hg=>(zx.1 (hE1 g hg)).1
 have hb1:Big.ln (yq s l1)≤n1:=by have:=Big.zPa (s:=s) hnn1;omega
 have hb2:Big.ln (yq t l2)≤n2:=by have:=Big.zPa (s:=t) hnn2;omega
 refine zg<|za<|zM rfl rfl (zQ rfl rfl) (fun b1=> ?_)
 refine e_p (zc rfl)<|zh<|zd<|zg<|zEa (X:=Unit) (fun x=>True) (fun x=>[(18,.bool (decide (¬(Big.canon s l1∧Big.canon t l2∧0<yq t l2)))),(2,.bool false),(1,.pointer (some ⟨b1,0,none⟩))]) (fun x=>[boxA b1 43 [.bool s,.slice p1 n1 c1,.bool t,.slice p2 n2 c2]]) (fun x=>[slF (rI .u32) p1 c1 l1,slF (rI .u32) p2 c2 l2]) ?_ ?_
 ·
  refine za<|e_p (ze yb rfl sz41 rfl rfl)<|e_ru (zb 0 ty41 rfl rfl (.t2 .nil))<|zL rfl rfl (.c rfl .n) ce122 (zoc (s:=s) (p:=p1) (n:=n1) (cap:=c1) (l:=l1) (hn:=ass)) (.c (j:=0) rfl .n)<|e_p (znb rfl)<|zT rfl rfl (zU rfl) (fun h2=> ?_) (fun h2=> ?_)
  ·
   refine e_no<|e_no<|e_no<|e_no<|e_p (zn rfl rfl)<|e_mv rfl<|e_no<|e_no<|e_no<|e_no<|e_p (zn rfl rfl)<|zh ?_
   exact zea () (show True from by first|trivial|omega|simp_all) ((.e rfl (congrArg Value.bool (by simp_all)) (.c rfl (.c rfl .n))):SubM _ _) (ho:=((.c (i:=0) rfl .n):PickO _ _ _)) ((.of [0,1] rfl):SelR _ _ _)
  ·
   refine e_p (ze yb rfl sz41 rfl rfl)<|e_ru (zb 0 ty41 rfl rfl (.s2 (.t2 .nil)))<|zL rfl rfl (.c rfl .n) ce122 (zoc (s:=t) (p:=p2) (n:=n2) (cap:=c2) (l:=l2) (hn:=ass)) (.c (j:=1) rfl .n)<|e_p (znb rfl)<|e_p (zn rfl rfl)<|zT rfl rfl (zU rfl) (fun h3=> ?_) (fun h3=> ?_)
   ·
    refine e_no<|e_no<|e_no<|e_no<|e_p (zn rfl rfl)<|zh ?_
    exact zea () (show True from by first|trivial|omega|simp_all) ((.e rfl (congrArg Value.bool (by simp_all)) (.c rfl (.c rfl .n))):SubM _ _) (ho:=((.c (i:=0) rfl .n):PickO _ _ _)) ((.of [0,1] rfl):SelR _ _ _)
   ·
    refine e_p (ze yb rfl sz41 rfl rfl)<|e_ru (zb 0 ty41 rfl rfl (.s2 (.t2 .nil)))<|zL rfl rfl (.c rfl .n) ce105 (zCd (s:=t) (p:=p2) (n:=n2) (cap:=c2) (l:=l2) (hn:=ass) (hln:=by first|rfl|assumption|omega|(rw [ye];omega)|(decide +kernel))) (.c (j:=1) rfl .n)<|e_p (zSa rfl rfl)<|e_p (zn rfl rfl)<|zh ?_
    exact zea () (show True from by first|trivial|omega|simp_all) ((.e rfl (congrArg Value.bool (by exact decide_eq_decide.2 (Big.sgn_le (Decidable.not_not.1 ‹_›) (Decidable.not_not.1 ‹_›)))) (.c rfl (.c rfl .n))):SubM _ _) (ho:=((.c (i:=0) rfl .n):PickO _ _ _)) ((.of [0,1] rfl):SelR _ _ _)
 ·
  rintro ⟨⟩ -
  try dsimp only
  refine zC rfl (fun hc=> ?_) (fun hc=> ?_)
  ·
   refine zg<|za<|e_p (zc rfl)<|zh<|zd<|zH<|zi ?_
   exact zq Tryz.results88 () trivial (zk rfl) (congrArg Value.bool (decide_eq_false (fun h=>hc ⟨h.1,h.2.1,h.2.2.1⟩))) (ho:=(.n:PickO _ _ _)) (.n:SelR _ _ _)
  ·
   have hcc:=Decidable.not_not.1 hc
   have hgl:=Big.zwd (n:=yq s l1) (d:=yq t l2) om
   refine zy<|zd<|zg<|za<|e_p (ze yb rfl sz41 rfl rfl)<|e_ru (zb 0 ty41 rfl rfl (.t2 .nil))<|e_p (ze yb rfl sz41 rfl rfl)<|e_ru (zb 0 ty41 rfl rfl (.s2 (.t2 .nil)))<|zD rfl rfl (.c rfl (.c rfl .n)) ce109 (zse (s:=s) (p1:=p1) (n1:=n1) (c1:=c1) (l1:=l1) (t:=t) (p2:=p2) (n2:=n2) (c2:=c2) (l2:=l2) (hn1:=ass) (hn2:=ass) (hm1:=by first|rfl|assumption|omega|(rw [ye];omega)|(decide +kernel)) (hm2:=by first|rfl|assumption|omega|(rw [ye];omega)|(decide +kernel))) (.c (j:=0) rfl (.c (j:=1) rfl .n)) ?_
   rintro ⟨p34,c35⟩ -
   dsimp only [aq,nq,cq]
   refine zD rfl rfl (.c rfl .n) ce74 (zdd (z:=1) (hz:=by first|rfl|assumption|omega|(rw [ye];omega)|(decide +kernel))) (.n) ?_
   rintro ⟨p26,c27⟩ -
   dsimp only [aq,nq,cq]
   refine zL rfl rfl (.c rfl (.c rfl .n)) ce123 (zmd (x1:=((Nat.gcd (yq s l1).natAbs (yq t l2).natAbs:Nat):Int)) (x2:=1) (p1:=p34) (c1:=c35) (p2:=p26) (c2:=c27) (hb1:=by first|rfl|assumption|omega|(rw [ye];omega)|(decide +kernel)) (hb2:=by first|rfl|assumption|omega|(rw [ye];omega)|(decide +kernel))) (.c (j:=1) rfl (.c (j:=0) rfl .n))<|e_p (zwa rfl rfl)<|e_p (zc rfl)<|zh<|zd<|zH ?_
   exact zq Tryz.results88 () trivial (zk rfl) (congrArg Value.bool (decide_eq_decide.2 (Big.qok_sub (x:=((s,l1),(t,l2))) (Decidable.not_not.1 hc)).symm)) (ho:=(.n:PickO _ _ _)) (.n:SelR _ _ _)
theorem zxc {u1:Wd} {v1:Wd} {q1:Rat}:Con yd 88 [.agg #[u1.b,u1.l,v1.b,v1.l]] [] [qF true u1 v1 (q1)] (Y:=Unit) (fun y=>True) (fun y=> .bool true) (fun y=>[]) (fun y=>[]):=by
  exact zVf (fun x hx hk h1 h2=>by have h:= @zSc x.1.1 u1.p _ u1.c x.1.2 x.2.1 v1.p _ v1.c x.2.2 rfl rfl h1 h2;rw [decide_eq_true (hk rfl)] at h;exact h)
theorem zde {s:Bool} {p1:Option Addr} {n1:Nat} {c1:Nat} {l1:List Int} {t:Bool} {p2:Option Addr} {n2:Nat} {c2:Nat} {l2:List Int} (hn1:l1.length=n1) (hn2:l2.length=n2) (hm1:n1≤1048576) (hm2:n2≤1048576):Con yd 68 [.agg #[.bool s,.slice p1 n1 c1,.bool t,.slice p2 n2 c2]] [] [slF (rI .u32) p1 c1 l1,slF (rI .u32) p2 c2 l2] (Y:=Wd×Wd) (fun y=>True) (fun y=> .agg #[y.1.b,y.1.l,y.2.b,y.2.l]) (fun y=>[]) (fun y=>[qF true y.1 y.2 (Big.qv ((s,l1),(t,l2)))]):=by
 refine zl Tryz.func68 rfl rfl rfl (fun c=> ?_)
 show RunC _ _ _ _ _ [(0,.agg #[.bool s,.slice p1 n1 c1,.bool t,.slice p2 n2 c2])] [] [slF (rI .u32) p1 c1 l1,slF (rI .u32) p2 c2 l2]
 refine zba 0 rfl (fun hL0=> ?_)
 refine zOa 0 rfl (fun hE0=> ?_)
 refine zba 1 rfl (fun hL1=> ?_)
 refine zOa 1 rfl (fun hE1=> ?_)
 have hnn1:Big.nn l1:=fun g hg=>(zx.1 (hE0 g hg)).1
 have hnn2:Big.nn l2:=fun g hg=>(zx.1 (hE1 g hg)).1
 have hb1:Big.ln (yq s l1)≤n1:=by have:=Big.zPa (s:=s) hnn1;omega
 have hb2:Big.ln (yq t l2)≤n2:=by have:=Big.zPa (s:=t) hnn2;omega
 refine zg<|za<|zM rfl rfl (zQ rfl rfl) (fun b1=> ?_)
 refine zM rfl rfl (zo zr43 rfl) (fun b2=> ?_)
 refine zh<|zd<|zg<|zg<|za<|e_ru (zb 1 ty43 rfl rfl (.t4 .nil))<|zL rfl rfl (.c rfl .n) ce88 (zSc (s:=s) (p1:=p1) (n1:=n1) (c1:=c1) (l1:=l1) (t:=t) (p2:=p2) (n2:=n2) (c2:=c2) (l2:=l2) (hn1:=ass) (hn2:=ass) (hm1:=ass) (hm2:=ass)) (.c (j:=0) rfl (.c (j:=1) rfl .n))<|zh<|zd<|zC rfl (fun hq=> ?_) (fun hq=> ?_)
 ·
  have hrp:=Big.raw_parts (x:=((s,l1),(t,l2))) hnn1 hnn2 hq
  have hqp:=Big.qv_parts (x:=((s,l1),(t,l2))) hq
  have hl:ym (Big.qv ((s,l1),(t,l2)))≤1048576:=by unfold ym;rw [hqp.1,hqp.2];dsimp only;omega
  refine zg<|za<|e_ru (zb 1 ty43 rfl rfl (.t4 .nil))<|zm 0 rfl rfl rfl rfl rfl sz43 rfl (.t4 .nil) .z<|zh<|zd<|zH<|zi<|zDb (qF true ⟨s,p1,n1,c1⟩ ⟨t,p2,n2,c2⟩ (Big.qv ((s,l1),(t,l2)))) (fun g r=>qF_rawI 0 1 rfl rfl hn1 hn2 hm1 hm2 hq g r) ?_
  exact zq Tryz.results68 (⟨s,p1,n1,c1⟩,⟨t,p2,n2,c2⟩) trivial (zp 0 ty43 rfl rfl (.t4 .nil)) rfl (ho:=(.n:PickO _ _ _)) ((.c (j:=0) rfl .n):SelR _ _ _)
 ·
  have hz:=Big.qv_not (x:=((s,l1),(t,l2))) hq
  refine zy<|zd<|zg<|za<|zD rfl rfl (.c rfl .n) ce26 (zed (z:=0) (hz:=by first|rfl|assumption|omega|(rw [ye];omega)|(decide +kernel))) (.n) ?_
  rintro ⟨w33,w44⟩ -
  dsimp only [aq,nq,cq]
  refine zm 0 rfl rfl rfl rfl rfl sz43 rfl (.t4 .nil) .z<|zh<|zd<|zH ?_
  exact zq Tryz.results68 (w33,w44) trivial (zp 0 ty43 rfl rfl (.t4 .nil)) rfl (ho:=(.n:PickO _ _ _)) ((.e (j:=0) rfl (by rw [hz];rfl) .n):SelR _ _ _)
theorem zUa {k1:Bool} {u1:Wd} {v1:Wd} {q1:Rat}:Con yd 68 [.agg #[u1.b,u1.l,v1.b,v1.l]] [] [qF k1 u1 v1 (q1)] (Y:=(Wd)×(Wd)) (fun y=>True) (fun y=> .agg #[y.1.b,y.1.l,y.2.b,y.2.l]) (fun y=>[]) (fun y=>[qF true y.1 y.2 (q1)]):=by
  exact zdf (fun x hx hk h1 h2 hl=>by subst hx;exact zde rfl rfl h1 h2)
theorem zHb {w1:Wd} {w2:Wd} {x1:Int} {x2:Int} (hl1:Big.ln x1≤1048576) (hl2:Big.ln x2≤1048576) (hd:x2≠0):Con yd 72 [.agg #[w1.b,w1.l],.agg #[w2.b,w2.l]] [] [zF w1 x1,zF w2 x2] (Y:=Wd×Wd) (fun y=>True) (fun y=> .agg #[y.1.b,y.1.l,y.2.b,y.2.l]) (fun y=>[]) (fun y=>[qF true y.1 y.2 (Rat.divInt x1 x2)]):=by
 refine zl Tryz.func72 rfl rfl rfl (fun c=> ?_)
 show RunC _ _ _ _ _ [(0,.agg #[w1.b,w1.l]),(1,.agg #[w2.b,w2.l])] [] [zF w1 x1,zF w2 x2]
 refine zg<|za<|zM rfl rfl (zQ rfl rfl) (fun b1=> ?_)
 refine zM rfl rfl (zQ rfl rfl) (fun b2=> ?_)
 refine zM rfl rfl (zo zr43 rfl) (fun b3=> ?_)
 refine zh<|zd<|zg<|za<|e_ru (zb 2 ty41 rfl rfl (.t2 .nil))<|e_ru (zb 1 ty41 rfl rfl (.t2 .nil))<|zD rfl rfl (.c rfl (.c rfl .n)) ce109 (zvf (w1:=w1) (w2:=w2) (x1:=x1) (x2:=x2) (hb1:=by first|rfl|assumption|omega|(rw [ye];omega)|(decide +kernel)) (hb2:=by first|rfl|assumption|omega|(rw [ye];omega)|(decide +kernel))) (.c (j:=0) rfl (.c (j:=1) rfl .n)) ?_
 rintro w34 -
 dsimp only [aq,nq,cq]
 refine zM rfl rfl (zo zr41 rfl) (fun b5=> ?_)
 refine zm 0 rfl rfl rfl rfl rfl sz41 rfl (.t2 .nil) .z<|zh<|zd<|zg<|zg<|za<|e_ru (zb 2 ty41 rfl rfl (.t2 .nil))<|zL rfl rfl (.c rfl .n) ce105 (zpc (w1:=w2) (x1:=x2) (hln:=by first|rfl|assumption|omega|(rw [ye];omega)|(decide +kernel))) (.c (j:=2) rfl .n)<|e_p (zZ rfl rfl)<|zh<|zd<|zC rfl (fun hneg=> ?_) (fun hneg=> ?_)
 ·
  have hs:x2<0:=by rcases Big.sign_le (x:=x2) with h|h|h <;> omega
  have hgp:=Big.gcd_pos_right (n:=x1) (d:=x2) om
  have hgl:=Big.zwd (n:=x1) (d:=x2) om
  obtain ⟨hr1,hr2⟩:=Big.red_neg (n:=x1) hs
  refine za<|e_ru (zb 0 ty41 rfl rfl (.t2 .nil))<|zD rfl rfl (.c rfl .n) ce106 (zBd (w1:=w34) (x1:=((Nat.gcd x1.natAbs x2.natAbs:Nat):Int)) (hln:=by first|rfl|assumption|omega|(rw [ye];omega)|(decide +kernel))) (.c (j:=0) rfl .n) ?_
  rintro w36 -
  dsimp only [aq,nq,cq]
  refine zm 0 rfl rfl rfl rfl rfl sz41 rfl (.t2 .nil) .z<|zh<|zd<|zg<|za<|e_ru (zb 3 ty41 rfl rfl (.t2 .nil))<|e_ru (zb 0 ty41 rfl rfl (.t2 .nil))<|zD rfl rfl (.c rfl (.c rfl .n)) ce110 (zlb (w1:=w1) (w2:=w36) (x1:=x1) (x2:= - ((Nat.gcd x1.natAbs x2.natAbs:Nat):Int)) (hb1:=by first|rfl|assumption|omega|(rw [ye];omega)|(decide +kernel)) (hb2:=by first|rfl|assumption|omega|(rw [ye];omega)|(decide +kernel)) (hy:=by first|rfl|assumption|omega|(rw [ye];omega)|(decide +kernel))) (.c (j:=2) rfl (.c (j:=0) rfl .n)) ?_
  rintro ⟨w37,w48⟩ -
  dsimp only [aq,nq,cq]
  refine e_mv rfl<|e_p (zv rfl rfl)<|e_p (zv rfl rfl)<|e_p (zv rfl rfl)<|zM rfl rfl (zo zr41 rfl) (fun b9=> ?_)
  refine zM rfl rfl (zo zr41 rfl) (fun b10=> ?_)
  refine zm 1 rfl rfl rfl rfl rfl sz41 rfl (.t2 .nil) (.s .z)<|zm 0 rfl rfl rfl rfl rfl sz41 rfl (.t2 .nil) .z<|e_p (zc rfl)<|zh<|zd<|zg<|za<|e_ru (zb 4 ty41 rfl rfl (.t2 .nil))<|e_ru (zb 2 ty41 rfl rfl (.t2 .nil))<|zD rfl rfl (.c rfl (.c rfl .n)) ce110 (zlb (w1:=w2) (w2:=w36) (x1:=x2) (x2:= - ((Nat.gcd x1.natAbs x2.natAbs:Nat):Int)) (hb1:=by first|rfl|assumption|omega|(rw [ye];omega)|(decide +kernel)) (hb2:=by first|rfl|assumption|omega|(rw [ye];omega)|(decide +kernel)) (hy:=by first|rfl|assumption|omega|(rw [ye];omega)|(decide +kernel))) (.c (j:=5) rfl (.c (j:=2) rfl .n)) ?_
  rintro ⟨w311,w412⟩ -
  dsimp only [aq,nq,cq]
  refine e_mv rfl<|e_p (zv rfl rfl)<|e_p (zv rfl rfl)<|e_p (zv rfl rfl)<|zM rfl rfl (zo zr41 rfl) (fun b13=> ?_)
  refine zM rfl rfl (zo zr41 rfl) (fun b14=> ?_)
  refine zm 1 rfl rfl rfl rfl rfl sz41 rfl (.t2 .nil) (.s .z)<|zm 0 rfl rfl rfl rfl rfl sz41 rfl (.t2 .nil) .z<|e_p (zc rfl)<|zh<|zd<|zg<|za<|e_ru (zb 3 ty41 rfl rfl (.t2 .nil))<|e_ru (zb 1 ty41 rfl rfl (.t2 .nil))<|e_p (zG zr43 rfl yb (.c sz41 (.c sz41 .n)) (.c rfl (.c rfl .n)) (.c rfl rfl rfl (.t2 .nil) (.c rfl rfl rfl (.s2 (.t2 .nil)) .n)))<|zm 5 rfl rfl rfl rfl rfl sz43 rfl (.t4 .nil) (.s (.s (.s (.s (.s .z)))))<|zh<|zd<|zH<|zDb (qF true w37 w311 (Rat.divInt x1 x2)) (qF_close 2 0 rfl rfl (by exact ⟨hr1,hr2,Nat.le_trans (Big.hq_divInt hd) om⟩)) ?_
  exact zq Tryz.results72 (w37,w311) trivial (zp 5 ty43 rfl rfl (.t4 .nil)) rfl (ho:=(.n:PickO _ _ _)) ((.c (j:=0) rfl .n):SelR _ _ _)
 ·
  have hs:0<x2:=by rcases Big.sign_le (x:=x2) with h|h|h <;> omega
  have hgp:=Big.gcd_pos_right (n:=x1) (d:=x2) om
  have hgl:=Big.zwd (n:=x1) (d:=x2) om
  obtain ⟨hr1,hr2⟩:=Big.red_pos (n:=x1) hs
  refine zy<|zd<|zg<|za<|e_ru (zb 3 ty41 rfl rfl (.t2 .nil))<|e_ru (zb 0 ty41 rfl rfl (.t2 .nil))<|zD rfl rfl (.c rfl (.c rfl .n)) ce110 (zlb (w1:=w1) (w2:=w34) (x1:=x1) (x2:=((Nat.gcd x1.natAbs x2.natAbs:Nat):Int)) (hb1:=by first|rfl|assumption|omega|(rw [ye];omega)|(decide +kernel)) (hb2:=by first|rfl|assumption|omega|(rw [ye];omega)|(decide +kernel)) (hy:=by first|rfl|assumption|omega|(rw [ye];omega)|(decide +kernel))) (.c (j:=1) rfl (.c (j:=0) rfl .n)) ?_
  rintro ⟨w315,w416⟩ -
  dsimp only [aq,nq,cq]
  refine e_mv rfl<|e_p (zv rfl rfl)<|e_p (zv rfl rfl)<|e_p (zv rfl rfl)<|zM rfl rfl (zo zr41 rfl) (fun b17=> ?_)
  refine zM rfl rfl (zo zr41 rfl) (fun b18=> ?_)
  refine zm 1 rfl rfl rfl rfl rfl sz41 rfl (.t2 .nil) (.s .z)<|zm 0 rfl rfl rfl rfl rfl sz41 rfl (.t2 .nil) .z<|e_p (zc rfl)<|zh<|zd<|zg<|za<|e_ru (zb 4 ty41 rfl rfl (.t2 .nil))<|e_ru (zb 2 ty41 rfl rfl (.t2 .nil))<|zD rfl rfl (.c rfl (.c rfl .n)) ce110 (zlb (w1:=w2) (w2:=w34) (x1:=x2) (x2:=((Nat.gcd x1.natAbs x2.natAbs:Nat):Int)) (hb1:=by first|rfl|assumption|omega|(rw [ye];omega)|(decide +kernel)) (hb2:=by first|rfl|assumption|omega|(rw [ye];omega)|(decide +kernel)) (hy:=by first|rfl|assumption|omega|(rw [ye];omega)|(decide +kernel))) (.c (j:=4) rfl (.c (j:=2) rfl .n)) ?_
  rintro ⟨w319,w420⟩ -
  dsimp only [aq,nq,cq]
  refine e_mv rfl<|e_p (zv rfl rfl)<|e_p (zv rfl rfl)<|e_p (zv rfl rfl)<|zM rfl rfl (zo zr41 rfl) (fun b21=> ?_)
  refine zM rfl rfl (zo zr41 rfl) (fun b22=> ?_)
  refine zm 1 rfl rfl rfl rfl rfl sz41 rfl (.t2 .nil) (.s .z)<|zm 0 rfl rfl rfl rfl rfl sz41 rfl (.t2 .nil) .z<|e_p (zc rfl)<|zh<|zd<|zg<|za<|e_ru (zb 3 ty41 rfl rfl (.t2 .nil))<|e_ru (zb 1 ty41 rfl rfl (.t2 .nil))<|e_p (zG zr43 rfl yb (.c sz41 (.c sz41 .n)) (.c rfl (.c rfl .n)) (.c rfl rfl rfl (.t2 .nil) (.c rfl rfl rfl (.s2 (.t2 .nil)) .n)))<|zm 5 rfl rfl rfl rfl rfl sz43 rfl (.t4 .nil) (.s (.s (.s (.s (.s .z)))))<|zh<|zd<|zH<|zDb (qF true w315 w319 (Rat.divInt x1 x2)) (qF_close 2 0 rfl rfl (by exact ⟨hr1,hr2,Nat.le_trans (Big.hq_divInt hd) om⟩)) ?_
  exact zq Tryz.results72 (w315,w319) trivial (zp 5 ty43 rfl rfl (.t4 .nil)) rfl (ho:=(.n:PickO _ _ _)) ((.c (j:=0) rfl .n):SelR _ _ _)
theorem zSf {w1:Wd} {w2:Wd} {x1:Int} {x2:Int} (hl1:Big.ln x1≤1048576) (hl2:Big.ln x2≤1048576):Con yd 127 [.agg #[w1.b,w1.l],.agg #[w2.b,w2.l]] [] [zF w1 x1,zF w2 x2] (Y:=Wd×Wd) (fun y=>True) (fun y=> .tuple #[.agg #[y.1.b,y.1.l,y.2.b,y.2.l],.int .i64 (if x2=0 then 14 else 0)]) (fun y=>[]) (fun y=>[qF (decide (x2≠0)) y.1 y.2 (Rat.divInt x1 x2)]):=by
 refine zl Tryz.func127 rfl rfl rfl (fun c=> ?_)
 show RunC _ _ _ _ _ [(0,.agg #[w1.b,w1.l]),(1,.agg #[w2.b,w2.l])] [] [zF w1 x1,zF w2 x2]
 refine zg<|za<|zM rfl rfl (zQ rfl rfl) (fun b1=> ?_)
 refine zM rfl rfl (zQ rfl rfl) (fun b2=> ?_)
 refine zM rfl rfl (zo zr43 rfl) (fun b3=> ?_)
 refine e_p (zc rfl)<|zh<|zd<|zg<|zg<|za<|e_ru (zb 1 ty41 rfl rfl (.t2 .nil))<|zL rfl rfl (.c rfl .n) ce105 (zpc (w1:=w2) (x1:=x2) (hln:=by first|rfl|assumption|omega|(rw [ye];omega)|(decide +kernel))) (.c (j:=1) rfl .n)<|e_p (zwa rfl rfl)<|zh<|zd<|zC rfl (fun hz0=> ?_) (fun hz0=> ?_)
 ·
  have hx0:x2=0:=Big.sign_zero.1 hz0
  refine zg<|za<|e_p (zG zr43 rfl yb (.c sz41 (.c sz41 .n)) .n .n)<|zm 0 rfl rfl rfl rfl rfl sz43 rfl (.t4 .nil) .z<|e_p (zc rfl)<|zh<|zd<|zH<|zi<|zDb (qF false wz wz 0) (fun g _=>qF_none g) ?_
  exact zza Tryz.results127 (wz,wz) trivial (zp 0 ty43 rfl rfl (.t4 .nil)) (zk rfl) (by rw [if_pos hx0];rfl) (ho:=(.n:PickO _ _ _)) ((.e (j:=0) rfl (by rw [Big.divInt_nil hx0,decide_eq_false (not_not_intro hx0)]) .n):SelR _ _ _)
 ·
  have hx0:x2≠0:=fun e=>hz0 (Big.sign_zero.2 e)
  refine zy<|zd<|zg<|za<|e_ru (zb 2 ty41 rfl rfl (.t2 .nil))<|e_ru (zb 1 ty41 rfl rfl (.t2 .nil))<|zD rfl rfl (.c rfl (.c rfl .n)) ce72 (zHb (w1:=w1) (w2:=w2) (x1:=x1) (x2:=x2) (hl1:=ass) (hl2:=ass) (hd:=by first|rfl|assumption|omega|(rw [ye];omega)|(decide +kernel))) (.c (j:=0) rfl (.c (j:=1) rfl .n)) ?_
  rintro ⟨w34,w45⟩ -
  dsimp only [aq,nq,cq]
  refine zm 0 rfl rfl rfl rfl rfl sz43 rfl (.t4 .nil) .z<|e_p (zc rfl)<|zh<|zd<|zH ?_
  exact zza Tryz.results127 (w34,w45) trivial (zp 0 ty43 rfl rfl (.t4 .nil)) (zk rfl) (by rw [if_neg hx0]) (ho:=(.n:PickO _ _ _)) ((.e (j:=0) rfl (by rw [decide_eq_true hx0]) .n):SelR _ _ _)
theorem zTf {z1:Int} {z2:Int} (hz1: -9223372036854775808≤z1∧z1≤9223372036854775807) (hz2: -9223372036854775808≤z2∧z2≤9223372036854775807):Con yd 107 [.int .i64 z1,.int .i64 z2] [] [] (Y:=Wd×Wd) (fun y=>True) (fun y=> .tuple #[.agg #[y.1.b,y.1.l,y.2.b,y.2.l],.int .i64 (if z2=0 then 14 else 0)]) (fun y=>[]) (fun y=>[qF (decide (z2≠0)) y.1 y.2 (Rat.divInt z1 z2)]):=by
 refine zl Tryz.func107 rfl rfl rfl (fun c=> ?_)
 show RunC _ _ _ _ _ [(0,.int .i64 z1),(1,.int .i64 z2)] [] []
 have g1:=Big.zeg hz1.1 hz1.2
 have g2:=Big.zeg hz2.1 hz2.2
 refine zg<|za<|zM rfl rfl (zo zr43 rfl) (fun b1=> ?_)
 refine e_p (zc rfl)<|zh<|zd<|zg<|za<|e_mv rfl<|zD rfl rfl (.c rfl .n) ce74 (zAb (z:=z1) (hz:=ass)) (.n) ?_
 rintro w32 -
 dsimp only [aq,nq,cq]
 refine e_mv rfl<|zD rfl rfl (.c rfl .n) ce74 (zAb (z:=z2) (hz:=ass)) (.n) ?_
 rintro w33 -
 dsimp only [aq,nq,cq]
 refine zD rfl rfl (.c rfl (.c rfl .n)) ce127 (zSf (w1:=w32) (w2:=w33) (x1:=z1) (x2:=z2) (hl1:=by first|rfl|assumption|omega|(rw [ye];omega)|(decide +kernel)) (hl2:=by first|rfl|assumption|omega|(rw [ye];omega)|(decide +kernel))) (.c (j:=1) rfl (.c (j:=0) rfl .n)) ?_
 rintro ⟨w34,w45⟩ -
 dsimp only [aq,nq,cq]
 refine e_p (zv rfl rfl)<|e_p (zv rfl rfl)<|zm 0 rfl rfl rfl rfl rfl sz43 rfl (.t4 .nil) .z<|e_p (zc rfl)<|zh<|zd<|zH ?_
 exact zza Tryz.results107 (w34,w45) trivial (zp 0 ty43 rfl rfl (.t4 .nil)) (zk rfl) rfl (ho:=(.n:PickO _ _ _)) ((.c (j:=0) rfl .n):SelR _ _ _)
theorem zHe {z1:Int} {z2:Int} (hz1: -9223372036854775808≤z1∧z1≤9223372036854775807) (hz2: -9223372036854775808≤z2∧z2≤9223372036854775807) (hy:z2≠0):Con yd 107 [.int .i64 (z1),.int .i64 (z2)] [] [] (Y:=(Wd)×(Wd)) (fun y=>True) (fun y=> .tuple #[.agg #[y.1.b,y.1.l,y.2.b,y.2.l],.int .i64 (0)]) (fun y=>[]) (fun y=>[qF true y.1 y.2 (Rat.divInt z1 z2)]):=by
  have h:=zTf hz1 hz2
  rw [if_neg hy,decide_eq_true hy] at h
  exact h
theorem zIe {k1:Bool} {u1:Wd} {v1:Wd} {q1:Rat} (hl:ym q1≤1048576):Con yd 66 [.agg #[u1.b,u1.l,v1.b,v1.l]] [] [qF k1 u1 v1 q1] (Y:=Unit) (fun y=>True) (fun y=> .int .i64 (Big.sgq q1)) (fun y=>[]) (fun y=>[]):=by
 refine zl Tryz.func66 rfl rfl rfl (fun c=> ?_)
 show RunC _ _ _ _ _ [(0,.agg #[u1.b,u1.l,v1.b,v1.l])] [] [qF k1 u1 v1 q1]
 have a1:=yh q1
 have a2:=yi q1
 refine zg<|za<|zM rfl rfl (zQ rfl rfl) (fun b1=> ?_)
 refine e_p (zc rfl)<|zh<|zd<|zg<|za<|e_ru (zb 0 ty43 rfl rfl (.t4 .nil))<|zD rfl rfl (.c rfl .n) ce68 (zUa (k1:=k1) (u1:=u1) (v1:=v1) (q1:=q1)) (.c (j:=0) rfl .n) ?_
 rintro ⟨w32,w43⟩ -
 dsimp only [aq,nq,cq]
 refine e_p (zsc yb rfl ty41 rfl (.t2 .nil))<|zrc (qF_open 0 rfl) (fun _ _=> ?_)
 refine zL rfl rfl (.c rfl .n) ce105 (zpc (w1:=w32) (x1:=(q1).num) (hln:=by first|rfl|assumption|omega|(rw [ye];omega)|(decide +kernel))) (.c (j:=0) rfl .n)<|e_p (zc rfl)<|zh<|zd<|zH ?_
 exact zq Tryz.results66 () trivial (zk rfl) rfl (ho:=(.n:PickO _ _ _)) (.n:SelR _ _ _)
theorem zwf {k1:Bool} {u1:Wd} {v1:Wd} {q1:Rat} (hl:ym q1≤1048576):Con yd 67 [.agg #[u1.b,u1.l,v1.b,v1.l]] [] [qF k1 u1 v1 q1] (Y:=Wd×Wd) (fun y=>True) (fun y=> .agg #[y.1.b,y.1.l,y.2.b,y.2.l]) (fun y=>[]) (fun y=>[qF true y.1 y.2 (- q1)]):=by
 refine zl Tryz.func67 rfl rfl rfl (fun c=> ?_)
 show RunC _ _ _ _ _ [(0,.agg #[u1.b,u1.l,v1.b,v1.l])] [] [qF k1 u1 v1 q1]
 have a1:=yh q1
 have a2:=yi q1
 refine zg<|za<|zM rfl rfl (zQ rfl rfl) (fun b1=> ?_)
 refine zM rfl rfl (zo zr43 rfl) (fun b2=> ?_)
 refine zh<|zd<|zg<|za<|e_ru (zb 1 ty43 rfl rfl (.t4 .nil))<|zD rfl rfl (.c rfl .n) ce68 (zUa (k1:=k1) (u1:=u1) (v1:=v1) (q1:=q1)) (.c (j:=0) rfl .n) ?_
 rintro ⟨w33,w44⟩ -
 dsimp only [aq,nq,cq]
 refine zM rfl rfl (zo zr43 rfl) (fun b5=> ?_)
 refine zm 0 rfl rfl rfl rfl rfl sz43 rfl (.t4 .nil) .z<|zh<|zd<|zg<|zqa (.c (i:=1) rfl (.c (i:=0) rfl (.c (i:=0) rfl .n)))<|zY (OW:=[boxA b2 43 (cw [wz,wz])]) (O:=[boxA b5 43 (cw [w33,w44]),boxA b1 43 (cw [u1,v1])]) 6 mixed (.then .ret) kr<|e_pv 0 rfl rfl (ze yb rfl sz41 rfl rfl)<|e_uw 1 rfl rfl (zb 1 ty41 rfl rfl (.t2 .nil))<|e_pv 3 rfl rfl (ze yb rfl sz41 rfl rfl)<|e_uw 4 rfl rfl (zb 1 ty41 rfl rfl (.s2 (.t2 .nil)))<|zBb (qF_open 0 rfl) (fun _ _=> ?_)
 refine e_one 2 (zw rfl rfl rfl rfl (.c rfl .n) ce106 (zBd (w1:=w33) (x1:=(q1).num) (hln:=by first|rfl|assumption|omega|(rw [ye];omega)|(decide +kernel))) (.c (j:=0) rfl .n) ?_)
 rintro w36 -
 dsimp only [aq,nq,cq]
 refine e_pv 5 rfl rfl (zG zr43 rfl yb (.c sz41 (.c sz41 .n)) (.c rfl (.c rfl .n)) (.c rfl rfl rfl (.t2 .nil) (.c rfl rfl rfl (.s2 (.t2 .nil)) .n)))<|e_one 6 (zr kr rfl rfl rfl rfl rfl sz43 rfl (.t4 .nil) ?_)
 refine zV kr<|zd<|zH<|zDb (qF true w36 w44 (- q1)) (qF_close 0 2 rfl rfl (by exact ⟨(Rat.neg_num q1).symm,by rw [Rat.neg_den],by rw [Big.hq_neg];exact hl⟩)) ?_
 exact zq Tryz.results67 (w36,w44) trivial (zp 0 ty43 rfl rfl (.t4 .nil)) rfl (ho:=(.n:PickO _ _ _)) ((.c (j:=0) rfl .n):SelR _ _ _)
theorem zHd {k1:Bool} {u1:Wd} {v1:Wd} {q1:Rat} {k2:Bool} {u2:Wd} {v2:Wd} {q2:Rat} (hl:ym q1+ym q2+1≤1048576):Con yd 70 [.agg #[u1.b,u1.l,v1.b,v1.l],.agg #[u2.b,u2.l,v2.b,v2.l]] [] [qF k1 u1 v1 q1,qF k2 u2 v2 q2] (Y:=Wd×Wd) (fun y=>True) (fun y=> .agg #[y.1.b,y.1.l,y.2.b,y.2.l]) (fun y=>[]) (fun y=>[qF true y.1 y.2 (q1+q2)]):=by
 refine zl Tryz.func70 rfl rfl rfl (fun c=> ?_)
 show RunC _ _ _ _ _ [(0,.agg #[u1.b,u1.l,v1.b,v1.l]),(1,.agg #[u2.b,u2.l,v2.b,v2.l])] [] [qF k1 u1 v1 q1,qF k2 u2 v2 q2]
 have a1:=yh q1
 have a2:=yi q1
 have a3:=yh q2
 have a4:=yi q2
 have b1:=yr q1.num q2.den
 have b2:=yr q2.num q1.den
 have b3:=Big.zHc (q1.num*q2.den) (q2.num*q1.den)
 have b4:=yr (q1.den:Int) q2.den
 have b5:=yr q1.num q2.num
 refine zg<|za<|zM rfl rfl (zQ rfl rfl) (fun b1=> ?_)
 refine zM rfl rfl (zQ rfl rfl) (fun b2=> ?_)
 refine zM rfl rfl (zo zr43 rfl) (fun b3=> ?_)
 refine zh<|zd<|zg<|za<|e_ru (zb 2 ty43 rfl rfl (.t4 .nil))<|zD rfl rfl (.c rfl .n) ce68 (zUa (k1:=k1) (u1:=u1) (v1:=v1) (q1:=q1)) (.c (j:=0) rfl .n) ?_
 rintro ⟨w34,w45⟩ -
 dsimp only [aq,nq,cq]
 refine zM rfl rfl (zo zr43 rfl) (fun b6=> ?_)
 refine zm 0 rfl rfl rfl rfl rfl sz43 rfl (.t4 .nil) .z<|zh<|zd<|zg<|za<|e_ru (zb 2 ty43 rfl rfl (.t4 .nil))<|zD rfl rfl (.c rfl .n) ce68 (zUa (k1:=k2) (u1:=u2) (v1:=v2) (q1:=q2)) (.c (j:=2) rfl .n) ?_
 rintro ⟨w37,w48⟩ -
 dsimp only [aq,nq,cq]
 refine zM rfl rfl (zo zr43 rfl) (fun b9=> ?_)
 refine zm 0 rfl rfl rfl rfl rfl sz43 rfl (.t4 .nil) .z<|zh<|zd<|zg<|zqa (.c (i:=2) rfl (.c (i:=0) rfl (.c (i:=0) rfl (.c (i:=0) rfl (.c (i:=0) rfl .n)))))<|zY (OW:=[boxA b3 43 (cw [wz,wz])]) (O:=[boxA b9 43 (cw [w37,w48]),boxA b6 43 (cw [w34,w45]),boxA b2 43 (cw [u2,v2]),boxA b1 43 (cw [u1,v1])]) 17 mixed (.then .ret) kr<|e_pv 0 rfl rfl (ze yb rfl sz41 rfl rfl)<|e_uw 1 rfl rfl (zb 2 ty41 rfl rfl (.t2 .nil))<|e_pv 2 rfl rfl (ze yb rfl sz41 rfl rfl)<|e_uw 3 rfl rfl (zb 1 ty41 rfl rfl (.s2 (.t2 .nil)))<|e_pv 5 rfl rfl (ze yb rfl sz41 rfl rfl)<|e_uw 6 rfl rfl (zb 1 ty41 rfl rfl (.t2 .nil))<|e_pv 7 rfl rfl (ze yb rfl sz41 rfl rfl)<|e_uw 8 rfl rfl (zb 2 ty41 rfl rfl (.s2 (.t2 .nil)))<|e_pv 11 rfl rfl (ze yb rfl sz41 rfl rfl)<|e_uw 12 rfl rfl (zb 2 ty41 rfl rfl (.s2 (.t2 .nil)))<|e_pv 13 rfl rfl (ze yb rfl sz41 rfl rfl)<|e_uw 14 rfl rfl (zb 1 ty41 rfl rfl (.s2 (.t2 .nil)))<|zBb (qF_open 1 rfl) (fun _ _=> ?_)
 refine zBb (qF_open 2 rfl) (fun _ _=> ?_)
 refine e_one 4 (zw rfl rfl rfl rfl (.c rfl (.c rfl .n)) ce73 (zGb (w1:=w34) (w2:=w48) (x1:=(q1).num) (x2:=(((q2).den:Nat):Int)) (hb1:=by first|rfl|assumption|omega|(rw [ye];omega)|(decide +kernel)) (hb2:=by first|rfl|assumption|omega|(rw [ye];omega)|(decide +kernel))) (.c (j:=2) rfl (.c (j:=1) rfl .n)) ?_)
 rintro w310 -
 dsimp only [aq,nq,cq]
 refine e_one 9 (zw rfl rfl rfl rfl (.c rfl (.c rfl .n)) ce73 (zGb (w1:=w37) (w2:=w45) (x1:=(q2).num) (x2:=(((q1).den:Nat):Int)) (hb1:=by first|rfl|assumption|omega|(rw [ye];omega)|(decide +kernel)) (hb2:=by first|rfl|assumption|omega|(rw [ye];omega)|(decide +kernel))) (.c (j:=1) rfl (.c (j:=4) rfl .n)) ?_)
 rintro w311 -
 dsimp only [aq,nq,cq]
 refine e_one 10 (zw rfl rfl rfl rfl (.c rfl (.c rfl .n)) ce108 (ztf (w1:=w310) (w2:=w311) (x1:=((q1).num)*(((q2).den:Nat):Int)) (x2:=((q2).num)*(((q1).den:Nat):Int)) (hb1:=by first|rfl|assumption|omega|(rw [ye];omega)|(decide +kernel)) (hb2:=by first|rfl|assumption|omega|(rw [ye];omega)|(decide +kernel))) (.c (j:=1) rfl (.c (j:=0) rfl .n)) ?_)
 rintro w312 -
 dsimp only [aq,nq,cq]
 refine e_one 15 (zw rfl rfl rfl rfl (.c rfl (.c rfl .n)) ce73 (zGb (w1:=w45) (w2:=w48) (x1:=(((q1).den:Nat):Int)) (x2:=(((q2).den:Nat):Int)) (hb1:=by first|rfl|assumption|omega|(rw [ye];omega)|(decide +kernel)) (hb2:=by first|rfl|assumption|omega|(rw [ye];omega)|(decide +kernel))) (.c (j:=6) rfl (.c (j:=4) rfl .n)) ?_)
 rintro w313 -
 dsimp only [aq,nq,cq]
 refine e_one 16 (zw rfl rfl rfl rfl (.c rfl (.c rfl .n)) ce72 (zHb (w1:=w312) (w2:=w313) (x1:=(((q1).num)*(((q2).den:Nat):Int))+(((q2).num)*(((q1).den:Nat):Int))) (x2:=(((q1).den:Nat):Int)*(((q2).den:Nat):Int)) (hl1:=by first|rfl|assumption|omega|(rw [ye];omega)|(decide +kernel)) (hl2:=by first|rfl|assumption|omega|(rw [ye];omega)|(decide +kernel)) (hd:=by exact Int.mul_ne_zero (Big.den_ne q1) (Big.den_ne q2))) (.c (j:=1) rfl (.c (j:=0) rfl .n)) ?_)
 rintro ⟨w314,w415⟩ -
 dsimp only [aq,nq,cq]
 refine e_one 17 (zr kr rfl rfl rfl rfl rfl sz43 rfl (.t4 .nil) ?_)
 refine zV kr<|zd<|zH ?_
 exact zq Tryz.results70 (w314,w415) trivial (zp 0 ty43 rfl rfl (.t4 .nil)) rfl (ho:=(.n:PickO _ _ _)) ((.e (j:=0) rfl (by rw [Big.add_parts]) .n):SelR _ _ _)
theorem zId {k1:Bool} {u1:Wd} {v1:Wd} {q1:Rat} {k2:Bool} {u2:Wd} {v2:Wd} {q2:Rat} (hl:ym q1+ym q2+1≤1048576):Con yd 25 [.agg #[u1.b,u1.l,v1.b,v1.l],.agg #[u2.b,u2.l,v2.b,v2.l]] [] [qF k1 u1 v1 q1,qF k2 u2 v2 q2] (Y:=Wd×Wd) (fun y=>True) (fun y=> .agg #[y.1.b,y.1.l,y.2.b,y.2.l]) (fun y=>[]) (fun y=>[qF true y.1 y.2 (q1*q2)]):=by
 refine zl Tryz.func25 rfl rfl rfl (fun c=> ?_)
 show RunC _ _ _ _ _ [(0,.agg #[u1.b,u1.l,v1.b,v1.l]),(1,.agg #[u2.b,u2.l,v2.b,v2.l])] [] [qF k1 u1 v1 q1,qF k2 u2 v2 q2]
 have a1:=yh q1
 have a2:=yi q1
 have a3:=yh q2
 have a4:=yi q2
 have b1:=yr q1.num q2.den
 have b2:=yr q2.num q1.den
 have b3:=Big.zHc (q1.num*q2.den) (q2.num*q1.den)
 have b4:=yr (q1.den:Int) q2.den
 have b5:=yr q1.num q2.num
 refine zg<|za<|zM rfl rfl (zQ rfl rfl) (fun b1=> ?_)
 refine zM rfl rfl (zQ rfl rfl) (fun b2=> ?_)
 refine zM rfl rfl (zo zr43 rfl) (fun b3=> ?_)
 refine zh<|zd<|zg<|za<|e_ru (zb 2 ty43 rfl rfl (.t4 .nil))<|zD rfl rfl (.c rfl .n) ce68 (zUa (k1:=k1) (u1:=u1) (v1:=v1) (q1:=q1)) (.c (j:=0) rfl .n) ?_
 rintro ⟨w34,w45⟩ -
 dsimp only [aq,nq,cq]
 refine zM rfl rfl (zo zr43 rfl) (fun b6=> ?_)
 refine zm 0 rfl rfl rfl rfl rfl sz43 rfl (.t4 .nil) .z<|zh<|zd<|zg<|za<|e_ru (zb 2 ty43 rfl rfl (.t4 .nil))<|zD rfl rfl (.c rfl .n) ce68 (zUa (k1:=k2) (u1:=u2) (v1:=v2) (q1:=q2)) (.c (j:=2) rfl .n) ?_
 rintro ⟨w37,w48⟩ -
 dsimp only [aq,nq,cq]
 refine zM rfl rfl (zo zr43 rfl) (fun b9=> ?_)
 refine zm 0 rfl rfl rfl rfl rfl sz43 rfl (.t4 .nil) .z<|zh<|zd<|zg<|zqa (.c (i:=2) rfl (.c (i:=0) rfl (.c (i:=0) rfl (.c (i:=0) rfl (.c (i:=0) rfl .n)))))<|zY (OW:=[boxA b3 43 (cw [wz,wz])]) (O:=[boxA b9 43 (cw [w37,w48]),boxA b6 43 (cw [w34,w45]),boxA b2 43 (cw [u2,v2]),boxA b1 43 (cw [u1,v1])]) 11 mixed (.then .ret) kr<|e_pv 0 rfl rfl (ze yb rfl sz41 rfl rfl)<|e_uw 1 rfl rfl (zb 2 ty41 rfl rfl (.t2 .nil))<|e_pv 2 rfl rfl (ze yb rfl sz41 rfl rfl)<|e_uw 3 rfl rfl (zb 1 ty41 rfl rfl (.t2 .nil))<|e_pv 5 rfl rfl (ze yb rfl sz41 rfl rfl)<|e_uw 6 rfl rfl (zb 2 ty41 rfl rfl (.s2 (.t2 .nil)))<|e_pv 7 rfl rfl (ze yb rfl sz41 rfl rfl)<|e_uw 8 rfl rfl (zb 1 ty41 rfl rfl (.s2 (.t2 .nil)))<|zBb (qF_open 1 rfl) (fun _ _=> ?_)
 refine zBb (qF_open 2 rfl) (fun _ _=> ?_)
 refine e_one 4 (zw rfl rfl rfl rfl (.c rfl (.c rfl .n)) ce73 (zGb (w1:=w34) (w2:=w37) (x1:=(q1).num) (x2:=(q2).num) (hb1:=by first|rfl|assumption|omega|(rw [ye];omega)|(decide +kernel)) (hb2:=by first|rfl|assumption|omega|(rw [ye];omega)|(decide +kernel))) (.c (j:=2) rfl (.c (j:=0) rfl .n)) ?_)
 rintro w310 -
 dsimp only [aq,nq,cq]
 refine e_one 9 (zw rfl rfl rfl rfl (.c rfl (.c rfl .n)) ce73 (zGb (w1:=w45) (w2:=w48) (x1:=(((q1).den:Nat):Int)) (x2:=(((q2).den:Nat):Int)) (hb1:=by first|rfl|assumption|omega|(rw [ye];omega)|(decide +kernel)) (hb2:=by first|rfl|assumption|omega|(rw [ye];omega)|(decide +kernel))) (.c (j:=4) rfl (.c (j:=2) rfl .n)) ?_)
 rintro w311 -
 dsimp only [aq,nq,cq]
 refine e_one 10 (zw rfl rfl rfl rfl (.c rfl (.c rfl .n)) ce72 (zHb (w1:=w310) (w2:=w311) (x1:=((q1).num)*((q2).num)) (x2:=(((q1).den:Nat):Int)*(((q2).den:Nat):Int)) (hl1:=by first|rfl|assumption|omega|(rw [ye];omega)|(decide +kernel)) (hl2:=by first|rfl|assumption|omega|(rw [ye];omega)|(decide +kernel)) (hd:=by exact Int.mul_ne_zero (Big.den_ne q1) (Big.den_ne q2))) (.c (j:=1) rfl (.c (j:=0) rfl .n)) ?_)
 rintro ⟨w312,w413⟩ -
 dsimp only [aq,nq,cq]
 refine e_one 11 (zr kr rfl rfl rfl rfl rfl sz43 rfl (.t4 .nil) ?_)
 refine zV kr<|zd<|zH ?_
 exact zq Tryz.results25 (w312,w413) trivial (zp 0 ty43 rfl rfl (.t4 .nil)) rfl (ho:=(.n:PickO _ _ _)) ((.e (j:=0) rfl (by rw [Big.mul_parts]) .n):SelR _ _ _)
theorem zJd {k1:Bool} {u1:Wd} {v1:Wd} {q1:Rat} {k2:Bool} {u2:Wd} {v2:Wd} {q2:Rat} (hl:ym q1+ym q2+1≤1048576):Con yd 71 [.agg #[u1.b,u1.l,v1.b,v1.l],.agg #[u2.b,u2.l,v2.b,v2.l]] [] [qF k1 u1 v1 q1,qF k2 u2 v2 q2] (Y:=Wd×Wd) (fun y=>True) (fun y=> .agg #[y.1.b,y.1.l,y.2.b,y.2.l]) (fun y=>[]) (fun y=>[qF true y.1 y.2 (q1 - q2)]):=by
 refine zl Tryz.func71 rfl rfl rfl (fun c=> ?_)
 show RunC _ _ _ _ _ [(0,.agg #[u1.b,u1.l,v1.b,v1.l]),(1,.agg #[u2.b,u2.l,v2.b,v2.l])] [] [qF k1 u1 v1 q1,qF k2 u2 v2 q2]
 have a1:=yh q1
 have a2:=yi q1
 have a3:=yh q2
 have a4:=yi q2
 refine zg<|za<|zM rfl rfl (zQ rfl rfl) (fun b1=> ?_)
 refine zM rfl rfl (zQ rfl rfl) (fun b2=> ?_)
 refine zM rfl rfl (zo zr43 rfl) (fun b3=> ?_)
 refine zh<|zd<|zg<|zY (OW:=[boxA b3 43 (cw [wz,wz])]) (O:=[boxA b2 43 (cw [u2,v2]),boxA b1 43 (cw [u1,v1])]) 4 mixed (.then .ret) kr<|e_uw 0 rfl rfl (zb 2 ty43 rfl rfl (.t4 .nil))<|e_uw 1 rfl rfl (zb 1 ty43 rfl rfl (.t4 .nil))<|e_one 2 (zw rfl rfl rfl rfl (.c rfl .n) ce67 (zwf (k1:=k2) (u1:=u2) (v1:=v2) (q1:=q2) (hl:=by first|rfl|assumption|omega|(rw [ye];omega)|(decide +kernel)|(rw [Big.hq_neg];omega))) (.c (j:=1) rfl .n) ?_)
 rintro ⟨w34,w45⟩ -
 dsimp only [aq,nq,cq]
 refine e_one 3 (zw rfl rfl rfl rfl (.c rfl (.c rfl .n)) ce70 (zHd (k1:=k1) (u1:=u1) (v1:=v1) (q1:=q1) (k2:=true) (u2:=w34) (v2:=w45) (q2:= - q2) (hl:=by first|rfl|assumption|omega|(rw [ye];omega)|(decide +kernel)|(rw [Big.hq_neg];omega))) (.c (j:=1) rfl (.c (j:=0) rfl .n)) ?_)
 rintro ⟨w36,w47⟩ -
 dsimp only [aq,nq,cq]
 refine e_one 4 (zr kr rfl rfl rfl rfl rfl sz43 rfl (.t4 .nil) ?_)
 refine zV kr<|zd<|zH ?_
 exact zq Tryz.results71 (w36,w47) trivial (zp 0 ty43 rfl rfl (.t4 .nil)) rfl (ho:=(.n:PickO _ _ _)) ((.e (j:=0) rfl (by rw [Rat.sub_eq_add_neg]) .n):SelR _ _ _)
theorem znd {k1:Bool} {u1:Wd} {v1:Wd} {q1:Rat} {k2:Bool} {u2:Wd} {v2:Wd} {q2:Rat} (hl:ym q1+ym q2+1≤1048576):Con yd 27 [.agg #[u1.b,u1.l,v1.b,v1.l],.agg #[u2.b,u2.l,v2.b,v2.l]] [] [qF k1 u1 v1 q1,qF k2 u2 v2 q2] (Y:=Unit) (fun y=>True) (fun y=> .int .i64 (Big.sgq (q1 - q2))) (fun y=>[]) (fun y=>[]):=by
 refine zl Tryz.func27 rfl rfl rfl (fun c=> ?_)
 show RunC _ _ _ _ _ [(0,.agg #[u1.b,u1.l,v1.b,v1.l]),(1,.agg #[u2.b,u2.l,v2.b,v2.l])] [] [qF k1 u1 v1 q1,qF k2 u2 v2 q2]
 have hsb:=Big.hq_sub q1 q2
 refine zg<|za<|zM rfl rfl (zQ rfl rfl) (fun b1=> ?_)
 refine zM rfl rfl (zQ rfl rfl) (fun b2=> ?_)
 refine e_p (zc rfl)<|zh<|zd<|zg<|za<|e_ru (zb 1 ty43 rfl rfl (.t4 .nil))<|e_ru (zb 0 ty43 rfl rfl (.t4 .nil))<|zD rfl rfl (.c rfl (.c rfl .n)) ce71 (zJd (k1:=k1) (u1:=u1) (v1:=v1) (q1:=q1) (k2:=k2) (u2:=u2) (v2:=v2) (q2:=q2) (hl:=ass)) (.c (j:=0) rfl (.c (j:=1) rfl .n)) ?_
 rintro ⟨w33,w44⟩ -
 dsimp only [aq,nq,cq]
 refine zL rfl rfl (.c rfl .n) ce66 (zIe (k1:=true) (u1:=w33) (v1:=w44) (q1:=q1 - q2) (hl:=by first|rfl|assumption|omega|(rw [ye];omega)|(decide +kernel))) (.c (j:=0) rfl .n)<|e_p (zc rfl)<|zh<|zd<|zH ?_
 exact zq Tryz.results27 () trivial (zk rfl) rfl (ho:=(.n:PickO _ _ _)) (.n:SelR _ _ _)
theorem zJe {u1:Wd} {v1:Wd} {q1:Rat} {u2:Wd} {v2:Wd} {q2:Rat} (hl:ym q1+ym q2+1≤1048576):Con yd 44 [.agg #[u1.b,u1.l,v1.b,v1.l],.agg #[u2.b,u2.l,v2.b,v2.l]] [] [qF true u1 v1 q1,qF true u2 v2 q2] (Y:=Unit) (fun y=>True) (fun y=> .bool (decide (q1=q2))) (fun y=>[]) (fun y=>[]):=by
 refine zl Tryz.func44 rfl rfl rfl (fun c=> ?_)
 show RunC _ _ _ _ _ [(0,.agg #[u1.b,u1.l,v1.b,v1.l]),(1,.agg #[u2.b,u2.l,v2.b,v2.l])] [] [qF true u1 v1 q1,qF true u2 v2 q2]
 refine zg<|za<|zM rfl rfl (zQ rfl rfl) (fun b1=> ?_)
 refine zM rfl rfl (zQ rfl rfl) (fun b2=> ?_)
 refine e_p (zc rfl)<|zh<|zd<|zEa (X:=Unit) (fun x=>True) (fun x=>[(4,.bool (decide (Big.sgq (q1 - q2)=0)))]) (fun x=>[boxA b2 43 (cw [u2,v2]),boxA b1 43 (cw [u1,v1])]) (fun x=>[qF true u1 v1 q1,qF true u2 v2 q2]) ?_ ?_
 ·
  refine za<|e_ru (zb 1 ty43 rfl rfl (.t4 .nil))<|zL rfl rfl (.c rfl .n) ce88 (zxc (u1:=u1) (v1:=v1) (q1:=q1)) (.c (j:=0) rfl .n)<|e_mv rfl<|e_ru (zb 0 ty43 rfl rfl (.t4 .nil))<|zL rfl rfl (.c rfl .n) ce88 (zxc (u1:=u2) (v1:=v2) (q1:=q2)) (.c (j:=1) rfl .n)<|e_p (zn rfl rfl)<|e_mv rfl<|e_ru (zb 1 ty43 rfl rfl (.t4 .nil))<|e_ru (zb 0 ty43 rfl rfl (.t4 .nil))<|zL rfl rfl (.c rfl (.c rfl .n)) ce27 (znd (k1:=true) (u1:=u1) (v1:=v1) (q1:=q1) (k2:=true) (u2:=u2) (v2:=v2) (q2:=q2) (hl:=ass)) (.c (j:=0) rfl (.c (j:=1) rfl .n))<|e_p (zwa rfl rfl)<|e_p (zn rfl rfl)<|e_p (zc rfl)<|zh ?_
  exact zea () (show True from by first|trivial|omega|simp_all) ((.c rfl .n):SubM _ _) (ho:=((.of [0,0] rfl):PickO _ _ _)) ((.of [0,1] rfl):SelR _ _ _)
 ·
  rintro ⟨⟩ -
  try dsimp only [cw]
  refine zH ?_
  exact zq Tryz.results44 () trivial (zk rfl) (congrArg Value.bool (decide_eq_decide.2 Big.sgq_sub_zero.symm)) (ho:=(.n:PickO _ _ _)) (.n:SelR _ _ _)
end Go.Proofs.YtjcpbhlijoigfaaGreat.Sp
namespace Go.Proofs.YtjcpbhlijoigfaaGreat.Sp
open Go
set_option linter.unusedVariables false
set_option maxRecDepth 100000
set_option maxHeartbeats 8000000
theorem zng {z1:Int} {z2:Int} (hz1: -9223372036854775808≤z1∧z1≤9223372036854775807) (hz2: -9223372036854775808≤z2∧z2≤9223372036854775807) (hy:z2≠0):Con yd 69 [.int .i64 z1,.int .i64 z2] [] [] (Y:=Wd×Wd) (fun y=>True) (fun y=> .agg #[y.1.b,y.1.l,y.2.b,y.2.l]) (fun y=>[]) (fun y=>[qF true y.1 y.2 (Rat.divInt z1 z2)]):=by
 refine zl Tryz.func69 rfl rfl rfl (fun c=> ?_)
 show RunC _ _ _ _ _ [(0,.int .i64 z1),(1,.int .i64 z2)] [] []
 refine zg<|za<|zM rfl rfl (zo zr43 rfl) (fun b1=> ?_)
 refine zh<|zd<|zg<|za<|e_mv rfl<|e_mv rfl<|zD rfl rfl (.c rfl (.c rfl .n)) ce107 (zHe (z1:=z1) (z2:=z2) (hz1:=ass) (hz2:=ass) (hy:=ass)) (.n) ?_
 rintro ⟨w32,w43⟩ -
 dsimp only [aq,nq,cq]
 refine e_mv rfl<|e_p (zv rfl rfl)<|e_p (zv rfl rfl)<|zM rfl rfl (zo zr43 rfl) (fun b4=> ?_)
 refine zm 0 rfl rfl rfl rfl rfl sz43 rfl (.t4 .nil) .z<|e_p (zc rfl)<|zh<|zd<|zg<|za<|e_ru (zb 0 ty43 rfl rfl (.t4 .nil))<|zm 1 rfl rfl rfl rfl rfl sz43 rfl (.t4 .nil) (.s .z)<|zh<|zd<|zH ?_
 exact zq Tryz.results69 (w32,w43) trivial (zp 1 ty43 rfl rfl (.t4 .nil)) rfl (ho:=(.n:PickO _ _ _)) ((.c (j:=0) rfl .n):SelR _ _ _)
theorem zxf {p:Option Addr} {n:Nat} {cap:Nat} {l:List Pg.Q2} {K:Nat} (hn:l.length=n) (hbq:Pg.bq K l) (hK:4*K+1≤500000) (hz:∀i,i≤n→ym (Pg.szN n l i)≤500000):Con yd 24 [.slice p n cap] [] [slF rR p cap l] (Y:=Wd×Wd) (fun y=>True) (fun y=> .agg #[y.1.b,y.1.l,y.2.b,y.2.l]) (fun y=>[]) (fun y=>[qF true y.1 y.2 (Pg.sz l)]):=by
 refine zl Tryz.func24 rfl rfl rfl (fun c=> ?_)
 show RunC _ _ _ _ _ [(0,.slice p n cap)] [] [slF rR p cap l]
 refine zba 0 rfl (fun hL0=> ?_)
 refine zg<|za<|zM rfl rfl (zo zr43 rfl) (fun b1=> ?_)
 refine zh<|zd<|zg<|za<|zD rfl rfl (.c rfl (.c rfl .n)) ce69 (zng (z1:=0) (z2:=1) (hz1:=by first|rfl|assumption|omega|decide) (hz2:=by first|rfl|assumption|omega|decide) (hy:=by first|rfl|assumption|omega|decide)) (.n) ?_
 rintro ⟨w32,w43⟩ -
 dsimp only [aq,nq,cq]
 refine zM rfl rfl (zo zr43 rfl) (fun b4=> ?_)
 refine zm 0 rfl rfl rfl rfl rfl sz43 rfl (.t4 .nil) .z<|zh<|zd<|zg<|zg ?_
 have e5:Rat.divInt 0 1=(Pg.szN n l 0):=by exact Pg.d01
 rw [e5]
 refine za<|e_p (zc rfl)<|zh<|zd<|zB<|zma (X:=Nat×Wd×Wd) (fun x:Nat×Wd×Wd=>x.1≤n) (fun x=>[(4,.int .i64 ((x.1:Nat):Int)),(3,.pointer (some ⟨b4,0,none⟩)),(2,.pointer (some ⟨b1,0,none⟩)),(0,.slice p n cap)]) (fun x=>[boxA b4 43 (cw [x.2.1,x.2.2]),boxA b1 43 (cw [wz,wz])]) (fun x=>[qF true x.2.1 x.2.2 (Pg.szN n l x.1),qF true w32 w43 (Pg.szN n l 0),slF rR p cap l]) (fun x:Nat×Wd×Wd=>n - x.1) (0,w32,w43) (show 0≤n from by exact Nat.zero_le _) ((.e rfl (by first|rfl|(congr 1;omega)|simp_all) (.of rfl)):SubM _ _) (ho:=((.of [0,0] rfl):PickO _ _ _)) ((.of [0,0,1] rfl):SelR _ _ _) ?_
 rintro ⟨k,wk1,wk2⟩ hI
 replace hI:k≤n:=hI
 try dsimp only [cw]
 refine zg<|zg<|za<|e_mv rfl<|e_mv rfl<|e_p (zN yg rfl)<|e_p (zZ rfl rfl)<|zh<|zd<|zC rfl (fun h6=> ?_) (fun h6=> ?_)
 ·
  have hm1:(k+1)%n<n:=Nat.mod_lt _ om
  have hpi:Pg.hp K (l.getD k ((0:Rat),(0:Rat))):=Pg.bq_at hbq om
  have hpj:Pg.hp K (l.getD ((k+1)%n) ((0:Rat),(0:Rat))):=Pg.bq_at hbq om
  obtain ⟨hb1,hb2,hb3⟩:=Pg.pb hpi hpj
  obtain ⟨hpi1,hpi2⟩:=id hpi
  obtain ⟨hpj1,hpj2⟩:=id hpj
  have hzk:=hz k om
  have hb4:ym ((l.getD k ((0:Rat),(0:Rat))).1*(l.getD ((k+1)%n) ((0:Rat),(0:Rat))).2 - (l.getD ((k+1)%n) ((0:Rat),(0:Rat))).1*(l.getD k ((0:Rat),(0:Rat))).2)≤2*(K+K)+1:=hb3
  refine zy<|zd<|zg<|zB<|zg<|za<|e_mv rfl<|e_mv rfl<|e_p (zJ (z:=(((k+1):Nat):Int)) rfl rfl (w64 om))<|e_mv rfl<|e_p (zN yg rfl)<|e_p (zxa (z:=((((k+1)%n):Nat):Int)) rfl rfl om (remN om om))<|r_vl rfl rfl (ztb (x0:=(l.getD ((k+1)%n) ((0:Rat),(0:Rat)))) 2 ((k+1)%n) rfl yg sz69 rfl cbs rfl rfl (gD (d:=((0:Rat),(0:Rat))) om)) ?_
  rintro ⟨b7,o8,w9,w10,w11,w12⟩ -
  dsimp only [aq,nq,cq]
  refine zbf open_rR<|e_ru (zI (j:=0) 0 ty69 rfl rfl rfl (.t8 .nil))<|zM rfl rfl (zo zr69 rfl) (fun b13=> ?_)
  refine zm 0 rfl rfl rfl rfl rfl sz69 rfl (.t8 .nil) .z<|zh<|zd<|zqa (.c (i:=1) rfl (.c (i:=0) rfl (.c (i:=0) rfl .n)))<|zY (OW:=[boxA b4 43 (cw [wk1,wk2])]) (O:=[boxA b13 69 (cw [w9,w10,w11,w12]),boxA b1 43 (cw [wz,wz])]) 19 mixed (.block (.then (.then (.block (.then .ret))))) kr<|e_uw 0 rfl rfl (zb 0 ty43 rfl rfl (.t4 .nil))<|e_dm 1 rfl rfl rfl<|e_dm 2 rfl rfl rfl<|d_vl 3 rfl rfl kr kr rfl rfl (ztb (x0:=(l.getD k ((0:Rat),(0:Rat)))) 5 k rfl yg sz69 rfl cbs rfl rfl (gD (d:=((0:Rat),(0:Rat))) om)) ?_
  rintro ⟨b14,o15,w16,w17,w18,w19⟩ -
  dsimp only [aq,nq,cq]
  refine zUf open_rR<|e_pv 4 rfl rfl (ze yj rfl sz43 rfl rfl)<|e_u 5 rfl rfl (zI (j:=0) 0 ty43 rfl rfl rfl (.t4 .nil))<|e_pv 6 rfl rfl (ze yj rfl sz43 rfl rfl)<|e_uw 7 rfl rfl (zb 1 ty43 rfl rfl (.s4 (.t4 .nil)))<|e_pv 9 rfl rfl (ze yj rfl sz43 rfl rfl)<|e_uw 10 rfl rfl (zb 1 ty43 rfl rfl (.t4 .nil))<|e_dm 11 rfl rfl rfl<|e_dm 12 rfl rfl rfl<|d_vl 13 rfl rfl kr kr rfl rfl (ztb (x0:=(l.getD k ((0:Rat),(0:Rat)))) 8 k rfl yg sz69 rfl cbs rfl rfl (gD (d:=((0:Rat),(0:Rat))) om)) ?_
  rintro ⟨b20,o21,w22,w23,w24,w25⟩ -
  dsimp only [aq,nq,cq]
  refine zUf open_rR<|e_pv 14 rfl rfl (ze yj rfl sz43 rfl rfl)<|e_u 15 rfl rfl (zI (j:=4) 0 ty43 rfl rfl rfl (.s4 (.t4 .nil)))<|e_one 8 (zw rfl rfl rfl rfl (.c rfl (.c rfl .n)) ce25 (zId (k1:=true) (u1:=w16) (v1:=w17) (q1:=(l.getD k ((0:Rat),(0:Rat))).1) (k2:=true) (u2:=w11) (v2:=w12) (q2:=(l.getD ((k+1)%n) ((0:Rat),(0:Rat))).2) (hl:=by first|rfl|assumption|omega|decide)) (.c (j:=4) rfl (.c (j:=8) rfl .n)) ?_)
  rintro ⟨w326,w427⟩ -
  dsimp only [aq,nq,cq]
  refine e_one 16 (zw rfl rfl rfl rfl (.c rfl (.c rfl .n)) ce25 (zId (k1:=true) (u1:=w9) (v1:=w10) (q1:=(l.getD ((k+1)%n) ((0:Rat),(0:Rat))).1) (k2:=true) (u2:=w24) (v2:=w25) (q2:=(l.getD k ((0:Rat),(0:Rat))).2) (hl:=by first|rfl|assumption|omega|decide)) (.c (j:=8) rfl (.c (j:=3) rfl .n)) ?_)
  rintro ⟨w328,w429⟩ -
  dsimp only [aq,nq,cq]
  refine e_one 17 (zw rfl rfl rfl rfl (.c rfl (.c rfl .n)) ce71 (zJd (k1:=true) (u1:=w326) (v1:=w427) (q1:=((l.getD k ((0:Rat),(0:Rat))).1)*((l.getD ((k+1)%n) ((0:Rat),(0:Rat))).2)) (k2:=true) (u2:=w328) (v2:=w429) (q2:=((l.getD ((k+1)%n) ((0:Rat),(0:Rat))).1)*((l.getD k ((0:Rat),(0:Rat))).2)) (hl:=by first|rfl|assumption|omega|decide)) (.c (j:=1) rfl (.c (j:=0) rfl .n)) ?_)
  rintro ⟨w330,w431⟩ -
  dsimp only [aq,nq,cq]
  refine e_one 18 (zw rfl rfl rfl rfl (.c rfl (.c rfl .n)) ce70 (zHd (k1:=true) (u1:=wk1) (v1:=wk2) (q1:=(Pg.szN n l k)) (k2:=true) (u2:=w330) (v2:=w431) (q2:=(((l.getD k ((0:Rat),(0:Rat))).1)*((l.getD ((k+1)%n) ((0:Rat),(0:Rat))).2)) - (((l.getD ((k+1)%n) ((0:Rat),(0:Rat))).1)*((l.getD k ((0:Rat),(0:Rat))).2))) (hl:=by first|rfl|assumption|omega|decide)) (.c (j:=12) rfl (.c (j:=0) rfl .n)) ?_)
  rintro ⟨w332,w433⟩ -
  dsimp only [aq,nq,cq]
  refine e_one 19 (zr kr rfl rfl rfl rfl rfl sz43 rfl (.t4 .nil) ?_)
  refine zV kr<|zO<|zd<|za<|e_mv rfl<|e_p (zJ (z:=(((k+1):Nat):Int)) rfl rfl (w64 om))<|e_p (zc rfl)<|zh<|zfa ((k+1),w332,w433) (show (k+1)≤n from by show k+1≤n;omega) (by show n - (k+1)<n - k;omega) ((.of rfl):SubM _ _) (ho:=((.of [0,1] rfl):PickO _ _ _)) ((.e (j:=0) rfl (by first|rfl|simp_all) (.of [14,15] rfl)):SelR _ _ _)
 ·
  refine zla<|zj<|zj<|zA<|zd<|zg<|za<|e_ru (zb 0 ty43 rfl rfl (.t4 .nil))<|zm 1 rfl rfl rfl rfl rfl sz43 rfl (.t4 .nil) (.s .z)<|zh<|zd<|zH ?_
  exact zq Tryz.results24 (wk1,wk2) trivial (zp 1 ty43 rfl rfl (.t4 .nil)) rfl (ho:=(.n:PickO _ _ _)) ((.e (j:=0) rfl (by rw [show k=n by omega,Pg.sz,hn]) .n):SelR _ _ _)
theorem zKe {p1:Option Addr} {n1:Nat} {c1:Nat} {l1:List (Int×Int×Int)} {p2:Option Addr} {n2:Nat} {c2:Nat} {l2:List (Int×Int×Int)} (hn1:l1.length=n1) (hn2:l2.length=n2):Con yd 32 [.slice p1 n1 c1,.slice p2 n2 c2] [] [slF (rI3 .i64) p1 c1 l1,slF (rI3 .i64) p2 c2 l2] (Y:=Unit) (fun y=>True) (fun y=> .bool (decide (l1=l2))) (fun y=>[]) (fun y=>[]):=by
 refine zl Tryz.func32 rfl rfl rfl (fun c=> ?_)
 show RunC _ _ _ _ _ [(0,.slice p1 n1 c1),(1,.slice p2 n2 c2)] [] [slF (rI3 .i64) p1 c1 l1,slF (rI3 .i64) p2 c2 l2]
 refine zba 0 rfl (fun hL0=> ?_)
 refine zba 1 rfl (fun hL1=> ?_)
 refine zg<|za<|e_p (zc rfl)<|zh<|zd<|zg<|zg<|za<|e_mv rfl<|e_p (zN yf rfl)<|e_mv rfl<|e_p (zN yf rfl)<|e_p (zfb rfl rfl)<|zh<|zd<|zC rfl (fun hlen=> ?_) (fun hlen=> ?_)
 ·
  refine zg<|za<|e_p (zc rfl)<|zh<|zd<|zH<|zi ?_
  exact zq Tryz.results32 () trivial (zk rfl) (congrArg Value.bool (decide_eq_false (fun h=>hlen (by rw [← hn1,←hn2,h])))) (ho:=(.n:PickO _ _ _)) (.n:SelR _ _ _)
 ·
  refine zy<|zd<|zg<|zg<|za<|e_mv rfl<|e_p (zN yf rfl)<|e_mv rfl<|zh<|zd<|zB<|zma (X:=Nat) (fun x:Nat=>x≤n1∧∀j,j<x→l1.getD j (0,0,0)=l2.getD j (0,0,0)) (fun x=>[(13,.int .i64 ((x:Nat):Int)),(12,.int .i64 ((n1:Nat):Int)),(0,.slice p1 n1 c1),(1,.slice p2 n2 c2)]) (fun x=>[]) (fun x=>[slF (rI3 .i64) p1 c1 l1,slF (rI3 .i64) p2 c2 l2]) (fun x:Nat=>n1 - x) 0 (show 0≤n1∧∀j,j<0→l1.getD j (0,0,0)=l2.getD j (0,0,0) from by exact ⟨by omega,fun j h=>by omega⟩) ((.e rfl (by first|rfl|(congr 1;omega)|simp_all) (.of rfl)):SubM _ _) (ho:=(.n:PickO _ _ _)) ((.of [0,1] rfl):SelR _ _ _) ?_
  rintro i hI
  replace hI:i≤n1∧∀j,j<i→l1.getD j (0,0,0)=l2.getD j (0,0,0):=hI
  try dsimp only
  obtain ⟨hi,hall⟩:=hI
  refine zg<|za<|e_p (zZ rfl rfl)<|zh<|zd<|zg<|zC rfl (fun h1=> ?_) (fun h1=> ?_)
  ·
   refine zy<|zd<|zg<|zB<|zg<|za<|e_mv rfl<|e_p (zc rfl)<|zh<|zd<|zg<|zY (OW:=[]) (O:=[]) 100000 mixed (.then (.block (.then (.then (.block (.then .ret)))))) kr<|e_dm 0 rfl rfl rfl<|e_dm 1 rfl rfl rfl<|zga (x0:=(l1.getD i (0,0,0))) 2 rfl rfl kr kr 0 i rfl yf sz50 rfl rfl rfl cbs rfl rfl (gD (d:=(0,0,0)) om) (fun b2 o3 hok4=> ?_)
   obtain ⟨hok4x,hok4y,hok4z⟩:=hok4
   replace hok4x:=zK.1 hok4x
   replace hok4y:=zK.1 hok4y
   replace hok4z:=zK.1 hok4z
   refine e_u 3 rfl rfl (zI (j:=0) 0 ty50 rfl rfl rfl (.t2 (.take .nil)))<|e_dm 4 rfl rfl rfl<|e_dm 5 rfl rfl rfl<|zga (x0:=(l2.getD i (0,0,0))) 6 rfl rfl kr kr 2 i rfl yf sz50 rfl rfl rfl cbs rfl rfl (gD (d:=(0,0,0)) om) (fun b5 o6 hok7=> ?_)
   obtain ⟨hok7x,hok7y,hok7z⟩:=hok7
   replace hok7x:=zK.1 hok7x
   replace hok7y:=zK.1 hok7y
   replace hok7z:=zK.1 hok7z
   refine e_u 7 rfl rfl (zI (j:=0) 0 ty50 rfl rfl rfl (.t2 (.take .nil)))<|e_pv 8 rfl rfl (zxe (p:=(l1.getD i (0,0,0)).1=(l2.getD i (0,0,0)).1∧(l1.getD i (0,0,0)).2.1=(l2.getD i (0,0,0)).2.1∧(l1.getD i (0,0,0)).2.2=(l2.getD i (0,0,0)).2.2) kr rfl rfl (zSe yk sz3 (zPd ty3 rfl rfl (zGc yp) (zPd ty3 rfl rfl (zGc yp) (zPd ty3 rfl rfl (zGc yp) zbg)))) (by simp [Bool.decide_and]))<|zV kr<|zd<|zC rfl (fun hd=> ?_) (fun hd=> ?_)
   ·
    refine zg<|za<|e_p (zc rfl)<|zh<|zd<|zH<|zu<|zi<|zi<|zu<|zi ?_
    exact zq Tryz.results32 () trivial (zk rfl) (congrArg Value.bool (decide_eq_false (fun h=>hd (by simp [h])))) (ho:=(.n:PickO _ _ _)) (.n:SelR _ _ _)
   ·
    refine zy<|zO<|zd<|za<|e_p (zJ (z:=(((i+1):Nat):Int)) rfl rfl (w64 om))<|e_mv rfl<|zh<|zfa (i+1) (show (i+1)≤n1∧∀j,j<(i+1)→l1.getD j (0,0,0)=l2.getD j (0,0,0) from by exact ⟨by omega,Ms.all_lt_succ hall (by have h9:=Decidable.not_not.1 hd;first|exact h9|(apply Prod.ext;exact h9.1;apply Prod.ext;exact h9.2.1;exact h9.2.2))⟩) (by show n1 - (i+1)<n1 - i;omega) ((.of rfl):SubM _ _) (ho:=(.n:PickO _ _ _)) ((.of [2,3] rfl):SelR _ _ _)
  ·
   refine zla<|zj<|zj<|zA<|zd<|zg<|za<|e_p (zc rfl)<|zh<|zd<|zH ?_
   exact zq Tryz.results32 () trivial (zk rfl) (congrArg Value.bool (decide_eq_true (Ms.ext_getD (0,0,0) om (fun j hj=>hall j om)))) (ho:=(.n:PickO _ _ _)) (.n:SelR _ _ _)
end Go.Proofs.YtjcpbhlijoigfaaGreat.Sp
namespace Go.Proofs.YtjcpbhlijoigfaaGreat.Sp
open Go
set_option linter.unusedVariables false
set_option maxRecDepth 100000
set_option maxHeartbeats 8000000
theorem zyf:Con yd 11 [] [] [] (Y:=Unit) (fun y=>True) (fun y=> .bool true) (fun y=>[]) (fun y=>[]):=by
 refine zl Tryz.func11 rfl rfl rfl (fun c=> ?_)
 show RunC _ _ _ _ _ [] [] []
 refine zg<|za<|e_p (zc rfl)<|zh<|zd<|zg<|za<|e_p (zG zr30 rfl ya (.c sz3 (.c sz3 .n)) (.c rfl (.c rfl .n)) (.c rfl rfl rfl (.take .nil) (.c rfl rfl rfl (.skip (.take .nil)) .n)))<|e_p (zG zr30 rfl ya (.c sz3 (.c sz3 .n)) (.c rfl (.c rfl .n)) (.c rfl rfl rfl (.take .nil) (.c rfl rfl rfl (.skip (.take .nil)) .n)))<|e_p (zG zr30 rfl ya (.c sz3 (.c sz3 .n)) (.c rfl (.c rfl .n)) (.c rfl rfl rfl (.take .nil) (.c rfl rfl rfl (.skip (.take .nil)) .n)))<|e_p (zG zr30 rfl ya (.c sz3 (.c sz3 .n)) (.c rfl (.c rfl .n)) (.c rfl rfl rfl (.take .nil) (.c rfl rfl rfl (.skip (.take .nil)) .n)))<|e_p (zG zr30 rfl ya (.c sz3 (.c sz3 .n)) (.c rfl (.c rfl .n)) (.c rfl rfl rfl (.take .nil) (.c rfl rfl rfl (.skip (.take .nil)) .n)))<|zGa rfl rfl (zX (enc:=fun z:Int×Int=>[.int .i64 z.1,.int .i64 z.2]) (ok:=fun z=>InK .i64 z.1∧InK .i64 z.2) (h1:=fun _=>rfl) (h2:=fun _=>rfl) (k:=5) yc inf30 rfl dd dd dd (.c (x:=(0,0)) rfl rfl (fun _ _=>by exact ⟨zK.2 (by first|omega|decide|(dsimp only;omega)),zK.2 (by first|omega|decide|(dsimp only;omega))⟩) (.c (x:=(4,0)) rfl rfl (fun _ _=>by exact ⟨zK.2 (by first|omega|decide|(dsimp only;omega)),zK.2 (by first|omega|decide|(dsimp only;omega))⟩) (.c (x:=(4,4)) rfl rfl (fun _ _=>by exact ⟨zK.2 (by first|omega|decide|(dsimp only;omega)),zK.2 (by first|omega|decide|(dsimp only;omega))⟩) (.c (x:=(2,1)) rfl rfl (fun _ _=>by exact ⟨zK.2 (by first|omega|decide|(dsimp only;omega)),zK.2 (by first|omega|decide|(dsimp only;omega))⟩) (.c (x:=(0,4)) rfl rfl (fun _ _=>by exact ⟨zK.2 (by first|omega|decide|(dsimp only;omega)),zK.2 (by first|omega|decide|(dsimp only;omega))⟩) .n)))))) (fun b1 _=> ?_)
 refine e_p (zc rfl)<|zh<|zd<|zg<|za<|e_mv rfl<|zka 0 rfl .z<|zL rfl rfl (.c rfl .n) ce13 (zHf (p:=some ⟨b1,0,none⟩) (n:=5) (cap:=5) (l:=[(0,0),(4,0),(4,4),(2,1),(0,4)]) (hn:=by first|rfl|assumption|decide|omega|(decide +kernel))) (.c (j:=0) rfl .n) ?_
 have e2:Pg.arV ([(0,0),(4,0),(4,4),(2,1),(0,4)])=20:=by exact Pg.ex1.1
 rw [e2]
 have e3:Pg.arC ([(0,0),(4,0),(4,4),(2,1),(0,4)])=0:=by exact Pg.ex1.2
 rw [e3]
 refine e_mv rfl<|e_p (zv rfl rfl)<|e_p (zv rfl rfl)<|e_p (zc rfl)<|e_p (zc rfl)<|zh<|zd<|zg<|za<|e_mv rfl<|e_p (zG zr30 rfl ya (.c sz3 (.c sz3 .n)) (.c rfl (.c rfl .n)) (.c rfl rfl rfl (.take .nil) (.c rfl rfl rfl (.skip (.take .nil)) .n)))<|zL rfl rfl (.c rfl (.c rfl .n)) ce17 (zmc (p:=some ⟨b1,0,none⟩) (n:=5) (cap:=5) (l:=[(0,0),(4,0),(4,4),(2,1),(0,4)]) (hx:=1) (hy:=1) (hn:=by first|rfl|assumption|decide|omega|(decide +kernel)) (hwhx:=by first|rfl|assumption|decide|omega|(decide +kernel)) (hwhy:=by first|rfl|assumption|decide|omega|(decide +kernel))) (.c (j:=0) rfl .n) ?_
 have e4:Pg.isV ([(0,0),(4,0),(4,4),(2,1),(0,4)]) (1,1)=1:=by exact Pg.ex2.1
 rw [e4]
 have e5:Pg.isC ([(0,0),(4,0),(4,4),(2,1),(0,4)]) (1,1)=0:=by exact Pg.ex2.2
 rw [e5]
 refine e_mv rfl<|e_p (zv rfl rfl)<|e_p (zv rfl rfl)<|e_p (zc rfl)<|e_p (zc rfl)<|zh<|zd<|zg<|za<|e_mv rfl<|e_p (zG zr30 rfl ya (.c sz3 (.c sz3 .n)) (.c rfl (.c rfl .n)) (.c rfl rfl rfl (.take .nil) (.c rfl rfl rfl (.skip (.take .nil)) .n)))<|zL rfl rfl (.c rfl (.c rfl .n)) ce17 (zmc (p:=some ⟨b1,0,none⟩) (n:=5) (cap:=5) (l:=[(0,0),(4,0),(4,4),(2,1),(0,4)]) (hx:=2) (hy:=2) (hn:=by first|rfl|assumption|decide|omega|(decide +kernel)) (hwhx:=by first|rfl|assumption|decide|omega|(decide +kernel)) (hwhy:=by first|rfl|assumption|decide|omega|(decide +kernel))) (.c (j:=0) rfl .n) ?_
 have e6:Pg.isV ([(0,0),(4,0),(4,4),(2,1),(0,4)]) (2,2)=(-1):=by exact Pg.ex3.1
 rw [e6]
 have e7:Pg.isC ([(0,0),(4,0),(4,4),(2,1),(0,4)]) (2,2)=0:=by exact Pg.ex3.2
 rw [e7]
 refine e_mv rfl<|e_p (zv rfl rfl)<|e_p (zv rfl rfl)<|e_p (zc rfl)<|e_p (zc rfl)<|zh<|zd<|zg<|za<|e_mv rfl<|zD rfl rfl (.c rfl .n) ce30 (zIf (p:=some ⟨b1,0,none⟩) (n:=5) (cap:=5) (l:=[(0,0),(4,0),(4,4),(2,1),(0,4)]) (hn:=by first|rfl|assumption|decide|omega|(decide +kernel))) (.c (j:=0) rfl .n) ?_
 rintro ⟨p28,c29⟩ -
 dsimp only [aq,nq,cq]
 have e10:Pg.erC ([(0,0),(4,0),(4,4),(2,1),(0,4)])=0:=by exact Pg.ex4.2
 rw [e10]
 refine e_mv rfl<|e_p (zv rfl rfl)<|e_p (zv rfl rfl)<|e_p (zc rfl)<|e_p (zc rfl)<|zh<|zd<|zg<|za<|e_p (zG zr30 rfl ya (.c sz3 (.c sz3 .n)) (.c rfl (.c rfl .n)) (.c rfl rfl rfl (.take .nil) (.c rfl rfl rfl (.skip (.take .nil)) .n)))<|e_p (zG zr30 rfl ya (.c sz3 (.c sz3 .n)) (.c rfl (.c rfl .n)) (.c rfl rfl rfl (.take .nil) (.c rfl rfl rfl (.skip (.take .nil)) .n)))<|e_p (zG zr30 rfl ya (.c sz3 (.c sz3 .n)) (.c rfl (.c rfl .n)) (.c rfl rfl rfl (.take .nil) (.c rfl rfl rfl (.skip (.take .nil)) .n)))<|e_p (zG zr30 rfl ya (.c sz3 (.c sz3 .n)) (.c rfl (.c rfl .n)) (.c rfl rfl rfl (.take .nil) (.c rfl rfl rfl (.skip (.take .nil)) .n)))<|zGa rfl rfl (zX (enc:=fun z:Int×Int=>[.int .i64 z.1,.int .i64 z.2]) (ok:=fun z=>InK .i64 z.1∧InK .i64 z.2) (h1:=fun _=>rfl) (h2:=fun _=>rfl) (k:=4) yc inf30 rfl dd dd dd (.c (x:=(0,0)) rfl rfl (fun _ _=>by exact ⟨zK.2 (by first|omega|decide|(dsimp only;omega)),zK.2 (by first|omega|decide|(dsimp only;omega))⟩) (.c (x:=(4,0)) rfl rfl (fun _ _=>by exact ⟨zK.2 (by first|omega|decide|(dsimp only;omega)),zK.2 (by first|omega|decide|(dsimp only;omega))⟩) (.c (x:=(4,4)) rfl rfl (fun _ _=>by exact ⟨zK.2 (by first|omega|decide|(dsimp only;omega)),zK.2 (by first|omega|decide|(dsimp only;omega))⟩) (.c (x:=(0,4)) rfl rfl (fun _ _=>by exact ⟨zK.2 (by first|omega|decide|(dsimp only;omega)),zK.2 (by first|omega|decide|(dsimp only;omega))⟩) .n))))) (fun b11 _=> ?_)
 refine e_p (zG zr30 rfl ya (.c sz3 (.c sz3 .n)) (.c rfl (.c rfl .n)) (.c rfl rfl rfl (.take .nil) (.c rfl rfl rfl (.skip (.take .nil)) .n)))<|e_p (zG zr30 rfl ya (.c sz3 (.c sz3 .n)) (.c rfl (.c rfl .n)) (.c rfl rfl rfl (.take .nil) (.c rfl rfl rfl (.skip (.take .nil)) .n)))<|zka 0 rfl .z<|zD rfl rfl (.c rfl (.c rfl (.c rfl .n))) ce19 (zGe (p:=some ⟨b11,0,none⟩) (n:=4) (cap:=4) (l:=[(0,0),(4,0),(4,4),(0,4)]) (ex:=2) (ey:=(-1)) (fx:=9) (fy:=2) (hn:=by first|rfl|assumption|decide|omega|(decide +kernel)) (hwex:=by first|rfl|assumption|decide|omega|(decide +kernel)) (hwey:=by first|rfl|assumption|decide|omega|(decide +kernel)) (hwfx:=by first|rfl|assumption|decide|omega|(decide +kernel)) (hwfy:=by first|rfl|assumption|decide|omega|(decide +kernel))) (.c (j:=0) rfl .n) ?_
 rintro ⟨p212,c213⟩ -
 dsimp only [aq,nq,cq]
 have e14:Pg.wnC ([(0,0),(4,0),(4,4),(0,4)]) (2,(-1)) (9,2)=0:=by exact Pg.ex5
 rw [e14]
 refine e_mv rfl<|e_p (zv rfl rfl)<|e_p (zv rfl rfl)<|e_p (zc rfl)<|e_p (zc rfl)<|zh<|zd<|zg<|za<|e_mv rfl<|e_mv rfl<|e_p (zJ (z:=0) rfl rfl (w64 dd))<|e_mv rfl<|e_p (zJ (z:=0) rfl rfl (w64 dd))<|e_mv rfl<|e_p (zJ (z:=0) rfl rfl (w64 dd))<|e_mv rfl<|e_p (zJ (z:=0) rfl rfl (w64 dd))<|e_p (zwa rfl rfl) ?_
 rw [show true=true from by decide]
 refine e_mv rfl<|e_mv rfl<|e_p (zwa rfl rfl) ?_
 rw [show true=true from by decide]
 refine e_p (zn rfl rfl)<|e_mv rfl<|e_mv rfl<|e_p (zwa rfl rfl) ?_
 rw [show true=true from by decide]
 refine e_p (zn rfl rfl)<|e_mv rfl<|e_mv rfl<|e_p (zwa rfl rfl) ?_
 rw [show true=true from by decide]
 refine e_p (zn rfl rfl)<|e_mv rfl<|e_mv rfl<|e_p (zNa zr50 rfl yk sz3 (.c rfl (.c rfl (.c rfl .n))) (.c rfl rfl rfl (.take .nil) (.c rfl rfl rfl (.skip (.take .nil)) (.c rfl rfl rfl (.s2 (.take .nil)) .n))))<|e_p (zNa zr50 rfl yk sz3 (.c rfl (.c rfl (.c rfl .n))) (.c rfl rfl rfl (.take .nil) (.c rfl rfl rfl (.skip (.take .nil)) (.c rfl rfl rfl (.s2 (.take .nil)) .n))))<|e_p (zNa zr50 rfl yk sz3 (.c rfl (.c rfl (.c rfl .n))) (.c rfl rfl rfl (.take .nil) (.c rfl rfl rfl (.skip (.take .nil)) (.c rfl rfl rfl (.s2 (.take .nil)) .n))))<|zGa rfl rfl (zX (enc:=fun z:Int×Int×Int=>[.int .i64 z.1,.int .i64 z.2.1,.int .i64 z.2.2]) (ok:=fun z=>InK .i64 z.1∧InK .i64 z.2.1∧InK .i64 z.2.2) (h1:=fun _=>rfl) (h2:=fun _=>rfl) (k:=3) yf inf50 rfl dd dd dd (.c (x:=(1,2,3)) rfl rfl (fun _ _=>by exact ⟨zK.2 (by first|omega|decide|(dsimp only;omega)),zK.2 (by first|omega|decide|(dsimp only;omega)),zK.2 (by first|omega|decide|(dsimp only;omega))⟩) (.c (x:=(0,1,3)) rfl rfl (fun _ _=>by exact ⟨zK.2 (by first|omega|decide|(dsimp only;omega)),zK.2 (by first|omega|decide|(dsimp only;omega)),zK.2 (by first|omega|decide|(dsimp only;omega))⟩) (.c (x:=(0,3,4)) rfl rfl (fun _ _=>by exact ⟨zK.2 (by first|omega|decide|(dsimp only;omega)),zK.2 (by first|omega|decide|(dsimp only;omega)),zK.2 (by first|omega|decide|(dsimp only;omega))⟩) .n)))) (fun b15 _=> ?_)
 refine zka 3 rfl (.s (.s (.s .z)))<|zka 0 rfl .z<|zL rfl rfl (.c rfl (.c rfl .n)) ce32 (zKe (p1:=p28) (n1:=(Pg.erV ([(0,0),(4,0),(4,4),(2,1),(0,4)])).length) (c1:=c29) (l1:=(Pg.erV ([(0,0),(4,0),(4,4),(2,1),(0,4)]))) (p2:=some ⟨b15,0,none⟩) (n2:=3) (c2:=3) (l2:=[(1,2,3),(0,1,3),(0,3,4)]) (hn1:=by first|rfl|assumption|decide|omega|(decide +kernel)) (hn2:=by first|rfl|assumption|decide|omega|(decide +kernel))) (.c (j:=1) rfl (.c (j:=0) rfl .n)) ?_
 rw [show (decide ((Pg.erV ([(0,0),(4,0),(4,4),(2,1),(0,4)]))=([(1,2,3),(0,1,3),(0,3,4)])))=true from by exact decide_eq_true Pg.ex4.1]
 refine e_p (zn rfl rfl)<|e_mv rfl<|e_mv rfl<|zka 1 rfl (.s .z)<|zD rfl rfl (.c rfl .n) ce24 (zxf (p:=p212) (n:=(Pg.wnV ([(0,0),(4,0),(4,4),(0,4)]) (2,(-1)) (9,2)).length) (cap:=c213) (l:=(Pg.wnV ([(0,0),(4,0),(4,4),(0,4)]) (2,(-1)) (9,2))) (K:=100) (hn:=by rfl) (hbq:=by exact Pg.ex6) (hK:=dd) (hz:=by exact Pg.ex7)) (.c (j:=0) rfl .n) ?_
 rintro ⟨w316,w417⟩ -
 dsimp only [aq,nq,cq]
 refine zD rfl rfl (.c rfl .n) ce26 (zed (z:=8) (hz:=by first|rfl|assumption|decide|omega|(decide +kernel))) (.n) ?_
 rintro ⟨w318,w419⟩ -
 dsimp only [aq,nq,cq]
 refine zL rfl rfl (.c rfl (.c rfl .n)) ce44 (zJe (u1:=w316) (v1:=w417) (q1:=(Pg.sz (Pg.wnV ([(0,0),(4,0),(4,4),(0,4)]) (2,(-1)) (9,2)))) (u2:=w318) (v2:=w419) (q2:=((8:Int):Rat)) (hl:=by decide +kernel)) (.c (j:=1) rfl (.c (j:=0) rfl .n)) ?_
 rw [show (decide ((Pg.sz (Pg.wnV ([(0,0),(4,0),(4,4),(0,4)]) (2,(-1)) (9,2)))=((8:Int):Rat)))=true from by exact decide_eq_true Pg.ex8]
 refine e_p (zn rfl rfl)<|e_p (zc rfl)<|zh<|zd<|zH ?_
 exact zq Tryz.results11 () trivial (zk rfl) rfl (ho:=(.n:PickO _ _ _)) (.n:SelR _ _ _)
end Go.Proofs.YtjcpbhlijoigfaaGreat.Sp
namespace Go.Proofs.YtjcpbhlijoigfaaGreat.Sp
open Go
set_option linter.unusedVariables false
set_option maxRecDepth 100000
set_option maxHeartbeats 8000000
theorem zee {p:Option Addr} {n:Nat} {cap:Nat} {l:List Pg.P2} (hn:l.length=n) (h64:n≤64) (hrng:∀x∈l,Pg.inR x):Con yd 53 [.slice p n cap] [] [slF (rI2 .i64) p cap l] (Y:=Unit) (fun y=>True) (fun y=> .bool (decide (Pg.smpR l))) (fun y=>[]) (fun y=>[]):=by
 refine zl Tryz.func53 rfl rfl rfl (fun c=> ?_)
 show RunC _ _ _ _ _ [(0,.slice p n cap)] [] [slF (rI2 .i64) p cap l]
 refine zba 0 rfl (fun hL0=> ?_)
 refine zg<|za<|e_p (zc rfl)<|zh<|zd<|zg<|za<|e_mv rfl<|e_p (zN yc rfl)<|e_p (zc rfl)<|zh<|zd<|zg<|zg<|za<|e_p (zc rfl)<|zh<|zd<|zB<|zma (X:=Nat) (fun x:Nat=>x≤n∧∀w,w<x→∀j,j<n→w<j→¬Pg.bad n l w j) (fun x=>[(4,.int .i64 ((x:Nat):Int)),(3,.int .i64 ((n:Nat):Int)),(0,.slice p n cap)]) (fun x=>[]) (fun x=>[slF (rI2 .i64) p cap l]) (fun x:Nat=>n - x) 0 (show 0≤n∧∀w,w<0→∀j,j<n→w<j→¬Pg.bad n l w j from by exact ⟨Nat.zero_le _,fun w h=>by omega⟩) ((.e rfl (by first|rfl|(congr 1;omega)|simp_all) (.c rfl (.c rfl .n))):SubM _ _) (ho:=(.n:PickO _ _ _)) ((.c (j:=0) rfl .n):SelR _ _ _) ?_
 rintro k hI
 replace hI:k≤n∧∀w,w<k→∀j,j<n→w<j→¬Pg.bad n l w j:=hI
 try dsimp only
 obtain ⟨hk,hall⟩:=hI
 refine zg<|zg<|za<|e_mv rfl<|e_mv rfl<|e_p (zZ rfl rfl)<|zh<|zd<|zC rfl (fun h1=> ?_) (fun h1=> ?_)
 ·
  refine zy<|zd<|zg<|zB<|zg<|za<|e_mv rfl<|e_p (zJ (z:=(((k+1):Nat):Int)) rfl rfl (w64 om))<|e_p (zc rfl)<|zh<|zd<|zB<|zma (X:=Nat) (fun x:Nat=>k+1≤x∧∀w,w<x→k<w→¬Pg.bad n l k w) (fun x=>[(5,.int .i64 ((x:Nat):Int)),(4,.int .i64 ((k:Nat):Int)),(3,.int .i64 ((n:Nat):Int)),(0,.slice p n cap)]) (fun x=>[]) (fun x=>[slF (rI2 .i64) p cap l]) (fun x:Nat=>n - x) (k+1) (show k+1≤(k+1)∧∀w,w<(k+1)→k<w→¬Pg.bad n l k w from by exact ⟨Nat.le_refl _,fun w h h2=>by omega⟩) ((.of rfl):SubM _ _) (ho:=(.n:PickO _ _ _)) ((.c (j:=0) rfl .n):SelR _ _ _) ?_
  rintro j hJ
  replace hJ:k+1≤j∧∀w,w<j→k<w→¬Pg.bad n l k w:=hJ
  try dsimp only
  obtain ⟨hj2,hB2⟩:=hJ
  refine zg<|zg<|za<|e_mv rfl<|e_mv rfl<|e_p (zZ rfl rfl)<|zh<|zd<|zC rfl (fun h2=> ?_) (fun h2=> ?_)
  ·
   have hm1:(k+1)%n<n:=Nat.mod_lt _ om
   have hm3:(j+1)%n<n:=Nat.mod_lt _ om
   have hg0:Pg.inR (l.getD k (0,0)):=Pg.Ok.gt hrng om
   have hg1:Pg.inR (l.getD ((k+1)%n) (0,0)):=Pg.Ok.gt hrng om
   have hg2:Pg.inR (l.getD j (0,0)):=Pg.Ok.gt hrng om
   have hg3:Pg.inR (l.getD ((j+1)%n) (0,0)):=Pg.Ok.gt hrng om
   refine zy<|zd<|zg<|zB<|zg<|za<|e_mv rfl<|e_mv rfl<|zS (x0:=(l.getD k (0,0))) 0 k rfl yc sz30 rfl rfl rfl cbs rfl rfl (gD (d:=(0,0)) om) (fun b3 o4 hok5=> ?_)
   obtain ⟨hok5x,hok5y⟩:=hok5
   replace hok5x:=zK.1 hok5x
   replace hok5y:=zK.1 hok5y
   refine e_ru (zI (j:=0) 0 ty30 rfl rfl rfl (.t2 .nil))<|zM rfl rfl (zo zr30 rfl) (fun b6=> ?_)
   refine zm 0 rfl rfl rfl rfl rfl sz30 rfl (.t2 .nil) .z<|zh<|zd<|zg<|za<|e_mv rfl<|e_mv rfl<|e_p (zJ (z:=(((k+1):Nat):Int)) rfl rfl (w64 om))<|e_mv rfl<|e_p (zxa (z:=((((k+1)%n):Nat):Int)) rfl rfl om (remN om om))<|zS (x0:=(l.getD ((k+1)%n) (0,0))) 1 ((k+1)%n) rfl yc sz30 rfl rfl rfl cbs rfl rfl (gD (d:=(0,0)) om) (fun b7 o8 hok9=> ?_)
   obtain ⟨hok9x,hok9y⟩:=hok9
   replace hok9x:=zK.1 hok9x
   replace hok9y:=zK.1 hok9y
   refine e_ru (zI (j:=0) 0 ty30 rfl rfl rfl (.t2 .nil))<|zM rfl rfl (zo zr30 rfl) (fun b10=> ?_)
   refine zm 0 rfl rfl rfl rfl rfl sz30 rfl (.t2 .nil) .z<|zh<|zd<|zg<|za<|e_mv rfl<|e_mv rfl<|zS (x0:=(l.getD j (0,0))) 2 j rfl yc sz30 rfl rfl rfl cbs rfl rfl (gD (d:=(0,0)) om) (fun b11 o12 hok13=> ?_)
   obtain ⟨hok13x,hok13y⟩:=hok13
   replace hok13x:=zK.1 hok13x
   replace hok13y:=zK.1 hok13y
   refine e_ru (zI (j:=0) 0 ty30 rfl rfl rfl (.t2 .nil))<|zM rfl rfl (zo zr30 rfl) (fun b14=> ?_)
   refine zm 0 rfl rfl rfl rfl rfl sz30 rfl (.t2 .nil) .z<|zh<|zd<|zg<|za<|e_mv rfl<|e_mv rfl<|e_p (zJ (z:=(((j+1):Nat):Int)) rfl rfl (w64 om))<|e_mv rfl<|e_p (zxa (z:=((((j+1)%n):Nat):Int)) rfl rfl om (remN om om))<|zS (x0:=(l.getD ((j+1)%n) (0,0))) 3 ((j+1)%n) rfl yc sz30 rfl rfl rfl cbs rfl rfl (gD (d:=(0,0)) om) (fun b15 o16 hok17=> ?_)
   obtain ⟨hok17x,hok17y⟩:=hok17
   replace hok17x:=zK.1 hok17x
   replace hok17y:=zK.1 hok17y
   refine e_ru (zI (j:=0) 0 ty30 rfl rfl rfl (.t2 .nil))<|zM rfl rfl (zo zr30 rfl) (fun b18=> ?_)
   refine zm 0 rfl rfl rfl rfl rfl sz30 rfl (.t2 .nil) .z<|zh<|zd<|zg<|za<|e_mv rfl<|e_mv rfl<|e_p (zJ (z:=(((k+1):Nat):Int)) rfl rfl (w64 om))<|e_p (zwa rfl rfl)<|zh<|zd<|zC rfl (fun he=> ?_) (fun he=> ?_)
   ·
    refine zEa (X:=Unit) (fun x=>True) (fun x=>[(59,.bool (decide ((Pg.onS (((l.getD k (0,0)).1),((l.getD k (0,0)).2)) (((l.getD ((k+1)%n) (0,0)).1),((l.getD ((k+1)%n) (0,0)).2)) (((l.getD ((j+1)%n) (0,0)).1),((l.getD ((j+1)%n) (0,0)).2)))∨(Pg.onS (((l.getD j (0,0)).1),((l.getD j (0,0)).2)) (((l.getD ((j+1)%n) (0,0)).1),((l.getD ((j+1)%n) (0,0)).2)) (((l.getD k (0,0)).1),((l.getD k (0,0)).2)))))),(5,.int .i64 ((j:Nat):Int)),(4,.int .i64 ((k:Nat):Int)),(3,.int .i64 ((n:Nat):Int)),(0,.slice p n cap)]) (fun x=>[boxA b18 30 [.int .i64 ((l.getD ((j+1)%n) (0,0)).1),.int .i64 ((l.getD ((j+1)%n) (0,0)).2)],boxA b14 30 [.int .i64 ((l.getD j (0,0)).1),.int .i64 ((l.getD j (0,0)).2)],boxA b10 30 [.int .i64 ((l.getD ((k+1)%n) (0,0)).1),.int .i64 ((l.getD ((k+1)%n) (0,0)).2)],boxA b6 30 [.int .i64 ((l.getD k (0,0)).1),.int .i64 ((l.getD k (0,0)).2)]]) (fun x=>[atF b15 o16 [.int .i64 ((l.getD ((j+1)%n) (0,0)).1),.int .i64 ((l.getD ((j+1)%n) (0,0)).2)],atF b11 o12 [.int .i64 ((l.getD j (0,0)).1),.int .i64 ((l.getD j (0,0)).2)],atF b7 o8 [.int .i64 ((l.getD ((k+1)%n) (0,0)).1),.int .i64 ((l.getD ((k+1)%n) (0,0)).2)],atF b3 o4 [.int .i64 ((l.getD k (0,0)).1),.int .i64 ((l.getD k (0,0)).2)],slF (rI2 .i64) p cap l]) ?_ ?_
    ·
     refine za<|e_ru (zb 3 ty30 rfl rfl (.t2 .nil))<|e_ru (zb 2 ty30 rfl rfl (.t2 .nil))<|e_ru (zb 0 ty30 rfl rfl (.t2 .nil))<|zL rfl rfl (.c rfl (.c rfl (.c rfl .n))) ce35 (zub (ex:=(l.getD k (0,0)).1) (ey:=(l.getD k (0,0)).2) (fx:=(l.getD ((k+1)%n) (0,0)).1) (fy:=(l.getD ((k+1)%n) (0,0)).2) (gx:=(l.getD ((j+1)%n) (0,0)).1) (gy:=(l.getD ((j+1)%n) (0,0)).2) (hre:=cbo) (hrf:=cbo) (hrg:=cbo)) (.n)<|zT rfl rfl (zU rfl) (fun h19=> ?_) (fun h19=> ?_)
     ·
      refine e_no<|e_no<|e_no<|e_no<|e_p (zn rfl rfl)<|zh ?_
      exact zea () (show True from by first|trivial|omega|simp_all) ((.e rfl (congrArg Value.bool cbu) (.of rfl)):SubM _ _) (ho:=((.of [0,0,0,0] rfl):PickO _ _ _)) ((.of [0,1,2,3,4] rfl):SelR _ _ _)
     ·
      refine e_ru (zb 1 ty30 rfl rfl (.t2 .nil))<|e_ru (zb 0 ty30 rfl rfl (.t2 .nil))<|e_ru (zb 3 ty30 rfl rfl (.t2 .nil))<|zL rfl rfl (.c rfl (.c rfl (.c rfl .n))) ce35 (zub (ex:=(l.getD j (0,0)).1) (ey:=(l.getD j (0,0)).2) (fx:=(l.getD ((j+1)%n) (0,0)).1) (fy:=(l.getD ((j+1)%n) (0,0)).2) (gx:=(l.getD k (0,0)).1) (gy:=(l.getD k (0,0)).2) (hre:=cbo) (hrf:=cbo) (hrg:=cbo)) (.n)<|e_p (zn rfl rfl)<|zh ?_
      exact zea () (show True from by first|trivial|omega|simp_all) ((.e rfl (congrArg Value.bool cbu) (.of rfl)):SubM _ _) (ho:=((.of [0,0,0,0] rfl):PickO _ _ _)) ((.of [0,1,2,3,4] rfl):SelR _ _ _)
    ·
     rintro ⟨⟩ -
     try dsimp only
     refine zC rfl (fun hb1=> ?_) (fun hb1=> ?_)
     ·
      refine zg<|za<|e_p (zc rfl)<|zh<|zd<|zH<|zu<|zi<|zi<|zu<|zu<|zi<|zi<|zu<|zi ?_
      exact zq yn () trivial (zk rfl) (congrArg Value.bool (decide_eq_false (fun h=>(Pg.smpR_n hn).1 h k om j om om ((Pg.bad_1 om).2 hb1)))) (ho:=(.n:PickO _ _ _)) (.n:SelR _ _ _)
     ·
      refine zy<|zO<|zd<|za<|e_mv rfl<|e_p (zJ (z:=(((j+1):Nat):Int)) rfl rfl (w64 om))<|e_p (zc rfl)<|zh<|zfa (j+1) (show k+1≤(j+1)∧∀w,w<(j+1)→k<w→¬Pg.bad n l k w from by exact ⟨by omega,Ms.all_lt_succ hB2 (fun _ hb=>hb1 ((Pg.bad_1 om).1 hb))⟩) (by show n - (j+1)<n - j;omega) ((.of rfl):SubM _ _) (ho:=(.n:PickO _ _ _)) ((.c (j:=4) rfl .n):SelR _ _ _)
   ·
    refine zg<|za<|e_mv rfl<|e_p (zJ (z:=(((j+1):Nat):Int)) rfl rfl (w64 om))<|e_mv rfl<|e_p (zxa (z:=((((j+1)%n):Nat):Int)) rfl rfl om (remN om om))<|e_mv rfl<|e_p (zwa rfl rfl)<|zh<|zd<|zC rfl (fun he2=> ?_) (fun he2=> ?_)
    ·
     refine zEa (X:=Unit) (fun x=>True) (fun x=>[(75,.bool (decide ((Pg.onS (((l.getD k (0,0)).1),((l.getD k (0,0)).2)) (((l.getD ((k+1)%n) (0,0)).1),((l.getD ((k+1)%n) (0,0)).2)) (((l.getD j (0,0)).1),((l.getD j (0,0)).2)))∨(Pg.onS (((l.getD j (0,0)).1),((l.getD j (0,0)).2)) (((l.getD ((j+1)%n) (0,0)).1),((l.getD ((j+1)%n) (0,0)).2)) (((l.getD ((k+1)%n) (0,0)).1),((l.getD ((k+1)%n) (0,0)).2)))))),(5,.int .i64 ((j:Nat):Int)),(4,.int .i64 ((k:Nat):Int)),(3,.int .i64 ((n:Nat):Int)),(0,.slice p n cap)]) (fun x=>[boxA b18 30 [.int .i64 ((l.getD ((j+1)%n) (0,0)).1),.int .i64 ((l.getD ((j+1)%n) (0,0)).2)],boxA b14 30 [.int .i64 ((l.getD j (0,0)).1),.int .i64 ((l.getD j (0,0)).2)],boxA b10 30 [.int .i64 ((l.getD ((k+1)%n) (0,0)).1),.int .i64 ((l.getD ((k+1)%n) (0,0)).2)],boxA b6 30 [.int .i64 ((l.getD k (0,0)).1),.int .i64 ((l.getD k (0,0)).2)]]) (fun x=>[atF b15 o16 [.int .i64 ((l.getD ((j+1)%n) (0,0)).1),.int .i64 ((l.getD ((j+1)%n) (0,0)).2)],atF b11 o12 [.int .i64 ((l.getD j (0,0)).1),.int .i64 ((l.getD j (0,0)).2)],atF b7 o8 [.int .i64 ((l.getD ((k+1)%n) (0,0)).1),.int .i64 ((l.getD ((k+1)%n) (0,0)).2)],atF b3 o4 [.int .i64 ((l.getD k (0,0)).1),.int .i64 ((l.getD k (0,0)).2)],slF (rI2 .i64) p cap l]) ?_ ?_
     ·
      refine za<|e_ru (zb 3 ty30 rfl rfl (.t2 .nil))<|e_ru (zb 2 ty30 rfl rfl (.t2 .nil))<|e_ru (zb 1 ty30 rfl rfl (.t2 .nil))<|zL rfl rfl (.c rfl (.c rfl (.c rfl .n))) ce35 (zub (ex:=(l.getD k (0,0)).1) (ey:=(l.getD k (0,0)).2) (fx:=(l.getD ((k+1)%n) (0,0)).1) (fy:=(l.getD ((k+1)%n) (0,0)).2) (gx:=(l.getD j (0,0)).1) (gy:=(l.getD j (0,0)).2) (hre:=cbo) (hrf:=cbo) (hrg:=cbo)) (.n)<|zT rfl rfl (zU rfl) (fun h20=> ?_) (fun h20=> ?_)
      ·
       refine e_no<|e_no<|e_no<|e_no<|e_p (zn rfl rfl)<|zh ?_
       exact zea () (show True from by first|trivial|omega|simp_all) ((.e rfl (congrArg Value.bool cbu) (.of rfl)):SubM _ _) (ho:=((.of [0,0,0,0] rfl):PickO _ _ _)) ((.of [0,1,2,3,4] rfl):SelR _ _ _)
      ·
       refine e_ru (zb 1 ty30 rfl rfl (.t2 .nil))<|e_ru (zb 0 ty30 rfl rfl (.t2 .nil))<|e_ru (zb 2 ty30 rfl rfl (.t2 .nil))<|zL rfl rfl (.c rfl (.c rfl (.c rfl .n))) ce35 (zub (ex:=(l.getD j (0,0)).1) (ey:=(l.getD j (0,0)).2) (fx:=(l.getD ((j+1)%n) (0,0)).1) (fy:=(l.getD ((j+1)%n) (0,0)).2) (gx:=(l.getD ((k+1)%n) (0,0)).1) (gy:=(l.getD ((k+1)%n) (0,0)).2) (hre:=cbo) (hrf:=cbo) (hrg:=cbo)) (.n)<|e_p (zn rfl rfl)<|zh ?_
       exact zea () (show True from by first|trivial|omega|simp_all) ((.e rfl (congrArg Value.bool cbu) (.of rfl)):SubM _ _) (ho:=((.of [0,0,0,0] rfl):PickO _ _ _)) ((.of [0,1,2,3,4] rfl):SelR _ _ _)
     ·
      rintro ⟨⟩ -
      try dsimp only
      refine zC rfl (fun hb2=> ?_) (fun hb2=> ?_)
      ·
       refine zg<|za<|e_p (zc rfl)<|zh<|zd<|zH<|zu<|zi<|zi<|zu<|zu<|zi<|zi<|zu<|zi ?_
       exact zq yn () trivial (zk rfl) (congrArg Value.bool (decide_eq_false (fun h=>(Pg.smpR_n hn).1 h k om j om om ((Pg.bad_2 om om).2 hb2)))) (ho:=(.n:PickO _ _ _)) (.n:SelR _ _ _)
      ·
       refine zy<|zO<|zd<|za<|e_mv rfl<|e_p (zJ (z:=(((j+1):Nat):Int)) rfl rfl (w64 om))<|e_p (zc rfl)<|zh<|zfa (j+1) (show k+1≤(j+1)∧∀w,w<(j+1)→k<w→¬Pg.bad n l k w from by exact ⟨by omega,Ms.all_lt_succ hB2 (fun _ hb=>hb2 ((Pg.bad_2 om om).1 hb))⟩) (by show n - (j+1)<n - j;omega) ((.of rfl):SubM _ _) (ho:=(.n:PickO _ _ _)) ((.c (j:=4) rfl .n):SelR _ _ _)
    ·
     refine zg<|za<|e_ru (zb 3 ty30 rfl rfl (.t2 .nil))<|e_ru (zb 2 ty30 rfl rfl (.t2 .nil))<|e_ru (zb 1 ty30 rfl rfl (.t2 .nil))<|e_ru (zb 0 ty30 rfl rfl (.t2 .nil))<|zL rfl rfl (.c rfl (.c rfl (.c rfl (.c rfl .n)))) ce92 (zif (ex:=(l.getD k (0,0)).1) (ey:=(l.getD k (0,0)).2) (fx:=(l.getD ((k+1)%n) (0,0)).1) (fy:=(l.getD ((k+1)%n) (0,0)).2) (gx:=(l.getD j (0,0)).1) (gy:=(l.getD j (0,0)).2) (hx:=(l.getD ((j+1)%n) (0,0)).1) (hy:=(l.getD ((j+1)%n) (0,0)).2) (hre:=cbo) (hrf:=cbo) (hrg:=cbo) (hrh:=cbo)) (.n)<|zh<|zd<|zC rfl (fun hb3=> ?_) (fun hb3=> ?_)
     ·
      refine zg<|za<|e_p (zc rfl)<|zh<|zd<|zH<|zu<|zi<|zi<|zu<|zu<|zi<|zi<|zu<|zi ?_
      exact zq yn () trivial (zk rfl) (congrArg Value.bool (decide_eq_false (fun h=>(Pg.smpR_n hn).1 h k om j om om ((Pg.bad_3 om om).2 hb3)))) (ho:=(.n:PickO _ _ _)) (.n:SelR _ _ _)
     ·
      refine zy<|zO<|zd<|za<|e_mv rfl<|e_p (zJ (z:=(((j+1):Nat):Int)) rfl rfl (w64 om))<|e_p (zc rfl)<|zh<|zfa (j+1) (show k+1≤(j+1)∧∀w,w<(j+1)→k<w→¬Pg.bad n l k w from by exact ⟨by omega,Ms.all_lt_succ hB2 (fun _ hb=>hb3 ((Pg.bad_3 om om).1 hb))⟩) (by show n - (j+1)<n - j;omega) ((.of rfl):SubM _ _) (ho:=(.n:PickO _ _ _)) ((.c (j:=4) rfl .n):SelR _ _ _)
  ·
   refine zla<|zj<|zj<|zA<|zO<|zd<|za<|e_mv rfl<|e_p (zJ (z:=(((k+1):Nat):Int)) rfl rfl (w64 om))<|e_p (zc rfl)<|zh<|zfa (k+1) (show (k+1)≤n∧∀w,w<(k+1)→∀j,j<n→w<j→¬Pg.bad n l w j from by exact ⟨by omega,Ms.all_lt_succ hall (fun w hw hw2=>hB2 w om hw2)⟩) (by show n - (k+1)<n - k;omega) ((.of rfl):SubM _ _) (ho:=(.n:PickO _ _ _)) ((.c (j:=0) rfl .n):SelR _ _ _)
 ·
  refine zla<|zj<|zj<|zA<|zd<|zg<|za<|e_p (zc rfl)<|zh<|zd<|zH ?_
  exact zq yn () trivial (zk rfl) (congrArg Value.bool (decide_eq_true ((Pg.smpR_n hn).2 (fun w hw=>hall w om)))) (ho:=(.n:PickO _ _ _)) (.n:SelR _ _ _)
theorem zLe {p:Option Addr} {n:Nat} {cap:Nat} {l:List Pg.P2} (hn:l.length=n):Con yd 16 [.slice p n cap] [] [slF (rI2 .i64) p cap l] (Y:=Unit) (fun y=>True) (fun y=> .int .i64 (Pg.ck l)) (fun y=>[]) (fun y=>[]):=by
 refine zl Tryz.func16 rfl rfl rfl (fun c=> ?_)
 show RunC _ _ _ _ _ [(0,.slice p n cap)] [] [slF (rI2 .i64) p cap l]
 refine zba 0 rfl (fun hL0=> ?_)
 refine zg<|za<|e_p (zc rfl)<|zh<|zd<|zg<|zEa (X:=Unit) (fun x=>True) (fun x=>[(12,.bool (decide ((((n:Nat):Int)<3)∨(64<((n:Nat):Int))))),(2,.int .i64 0),(0,.slice p n cap)]) (fun x=>[]) (fun x=>[slF (rI2 .i64) p cap l]) ?_ ?_
 ·
  refine za<|e_mv rfl<|e_p (zN yc rfl)<|e_p (zZ rfl rfl)<|zT rfl rfl (zU rfl) (fun h1=> ?_) (fun h1=> ?_)
  ·
   refine e_no<|e_no<|e_no<|e_p (zn rfl rfl)<|zh ?_
   exact zea () (show True from by first|trivial|omega|simp_all) ((.e rfl (congrArg Value.bool cbu) (.c rfl (.c rfl .n))):SubM _ _) (ho:=(.n:PickO _ _ _)) ((.c (j:=0) rfl .n):SelR _ _ _)
  ·
   refine e_mv rfl<|e_p (zN yc rfl)<|e_p (zta rfl rfl)<|e_p (zn rfl rfl)<|zh ?_
   exact zea () (show True from by first|trivial|omega|simp_all) ((.e rfl (congrArg Value.bool cbu) (.c rfl (.c rfl .n))):SubM _ _) (ho:=(.n:PickO _ _ _)) ((.c (j:=0) rfl .n):SelR _ _ _)
 ·
  rintro ⟨⟩ -
  try dsimp only
  refine zC rfl (fun hlim=> ?_) (fun hlim=> ?_)
  ·
   refine zg<|za<|e_p (zc rfl)<|zh<|zd<|zH<|zi ?_
   exact zq yl () trivial (zk rfl) (by rw [Pg.ck_lim om]) (ho:=(.n:PickO _ _ _)) (.n:SelR _ _ _)
  ·
   have hlm:¬(l.length<3∨64<l.length):=by omega
   refine zy<|zd<|zg<|zg<|za<|e_p (zc rfl)<|zh<|zd<|zB<|zma (X:=Nat) (fun x:Nat=>x≤n∧Pg.ck1 (l.take x) (l.drop x)=Pg.ck1 [] l) (fun x=>[(3,.int .i64 ((x:Nat):Int)),(0,.slice p n cap)]) (fun x=>[]) (fun x=>[slF (rI2 .i64) p cap l]) (fun x:Nat=>n - x) 0 (show 0≤n∧Pg.ck1 (l.take 0) (l.drop 0)=Pg.ck1 [] l from by exact ⟨Nat.zero_le _,rfl⟩) ((.e rfl (by first|rfl|(congr 1;omega)|simp_all) (.c rfl .n)):SubM _ _) (ho:=(.n:PickO _ _ _)) ((.c (j:=0) rfl .n):SelR _ _ _) ?_
   rintro i hI
   replace hI:i≤n∧Pg.ck1 (l.take i) (l.drop i)=Pg.ck1 [] l:=hI
   try dsimp only
   obtain ⟨hi,hck⟩:=hI
   refine zg<|zg<|za<|e_mv rfl<|e_mv rfl<|e_p (zN yc rfl)<|e_p (zZ rfl rfl)<|zh<|zd<|zC rfl (fun h2=> ?_) (fun h2=> ?_)
   ·
    refine zy<|zd<|zg<|zB<|zg<|zg<|za<|e_mv rfl<|e_mv rfl<|zS (x0:=(l.getD i (0,0))) 0 i rfl yc sz30 rfl rfl rfl cbs rfl rfl (gD (d:=(0,0)) om) (fun b3 o4 hok5=> ?_)
    obtain ⟨hok5x,hok5y⟩:=hok5
    replace hok5x:=zK.1 hok5x
    replace hok5y:=zK.1 hok5y
    refine e_ru (zI (j:=0) 0 ty30 rfl rfl rfl (.t2 .nil))<|zL rfl rfl (.c rfl .n) ce48 (zFf (ex:=(l.getD i (0,0)).1) (ey:=(l.getD i (0,0)).2) (hwex:=cbo) (hwey:=cbo)) (.n)<|e_p (znb rfl)<|zh<|zd<|zC rfl (fun hfar=> ?_) (fun hfar=> ?_)
    ·
     refine zg<|za<|e_p (zc rfl)<|zh<|zd<|zH<|zi<|zu<|zi<|zi<|zu<|zi ?_
     have hv1:=Pg.ck1_far (l:=l) (i:=i) om (by simpa [Pg.far] using hfar)
     exact zq yl () trivial (zk rfl) (by rw [Pg.ck_one hlm (by rw [← hck,hv1];decide),←hck,hv1]) (ho:=(.n:PickO _ _ _)) (.n:SelR _ _ _)
    ·
     refine zy<|zd<|zg<|za<|e_p (zc rfl)<|zh<|zd<|zB<|zma (X:=Nat) (fun x:Nat=>x≤i∧∀w,w<x→¬(l.getD i (0,0))=(l.getD w (0,0))) (fun x=>[(4,.int .i64 ((x:Nat):Int)),(3,.int .i64 ((i:Nat):Int)),(0,.slice p n cap)]) (fun x=>[]) (fun x=>[atF b3 o4 [.int .i64 ((l.getD i (0,0)).1),.int .i64 ((l.getD i (0,0)).2)],slF (rI2 .i64) p cap l]) (fun x:Nat=>i - x) 0 (show 0≤i∧∀w,w<0→¬(l.getD i (0,0))=(l.getD w (0,0)) from by exact ⟨Nat.zero_le _,fun w h=>by omega⟩) ((.e rfl (by first|rfl|(congr 1;omega)|simp_all) (.c rfl (.c rfl .n))):SubM _ _) (ho:=(.n:PickO _ _ _)) ((.of [0,1] rfl):SelR _ _ _) ?_
     rintro j hJ
     replace hJ:j≤i∧∀w,w<j→¬(l.getD i (0,0))=(l.getD w (0,0)):=hJ
     try dsimp only
     obtain ⟨hj2,hB2⟩:=hJ
     refine zg<|zg<|za<|e_mv rfl<|e_mv rfl<|e_p (zZ rfl rfl)<|zh<|zd<|zC rfl (fun h6=> ?_) (fun h6=> ?_)
     ·
      refine zy<|zd<|zg<|zB<|zg<|zY (OW:=[]) (O:=[]) 100000 mixed (.then (.block (.then (.then (.block (.block (.then (.then (.block (.then .ret)))))))))) kr<|e_dm 0 rfl rfl rfl<|e_dm 1 rfl rfl rfl<|zga (x0:=(l.getD i (0,0))) 2 rfl rfl kr kr 1 i rfl yc sz30 rfl rfl rfl cbs rfl rfl (gD (d:=(0,0)) om) (fun b7 o8 hok9=> ?_)
      obtain ⟨hok9x,hok9y⟩:=hok9
      replace hok9x:=zK.1 hok9x
      replace hok9y:=zK.1 hok9y
      refine e_u 3 rfl rfl (zI (j:=0) 0 ty30 rfl rfl rfl (.t2 .nil))<|e_dm 4 rfl rfl rfl<|e_dm 5 rfl rfl rfl<|zga (x0:=(l.getD j (0,0))) 6 rfl rfl kr kr 2 j rfl yc sz30 rfl rfl rfl cbs rfl rfl (gD (d:=(0,0)) om) (fun b10 o11 hok12=> ?_)
      obtain ⟨hok12x,hok12y⟩:=hok12
      replace hok12x:=zK.1 hok12x
      replace hok12y:=zK.1 hok12y
      refine e_u 7 rfl rfl (zI (j:=0) 0 ty30 rfl rfl rfl (.t2 .nil))<|e_one 8 (zsa rfl rfl rfl rfl (.c rfl (.c rfl .n)) ce52 (zgf (ex:=(l.getD i (0,0)).1) (ey:=(l.getD i (0,0)).2) (fx:=(l.getD j (0,0)).1) (fy:=(l.getD j (0,0)).2)) (.n) ?_)
      refine zV kr<|zd<|zC rfl (fun hdup=> ?_) (fun hdup=> ?_)
      ·
       refine zg<|za<|e_p (zc rfl)<|zh<|zd<|zH<|zu<|zi<|zi<|zu<|zu<|zi<|zi<|zu<|zi ?_
       have hv1:=Pg.ck1_dup (l:=l) (i:=i) om (by simpa [Pg.far] using hfar) (Pg.in_take (j:=j) om om hdup)
       exact zq yl () trivial (zk rfl) (by rw [Pg.ck_one hlm (by rw [← hck,hv1];decide),←hck,hv1]) (ho:=(.n:PickO _ _ _)) (.n:SelR _ _ _)
      ·
       refine zy<|zO<|zd<|za<|e_mv rfl<|e_p (zJ (z:=(((j+1):Nat):Int)) rfl rfl (w64 om))<|e_p (zc rfl)<|zh<|zfa (j+1) (show (j+1)≤i∧∀w,w<(j+1)→¬(l.getD i (0,0))=(l.getD w (0,0)) from by exact ⟨by omega,Ms.all_lt_succ hB2 hdup⟩) (by show i - (j+1)<i - j;omega) ((.of rfl):SubM _ _) (ho:=(.n:PickO _ _ _)) ((.of [2,3] rfl):SelR _ _ _)
     ·
      refine zla<|zj<|zj<|zA<|zO<|zd<|za<|e_mv rfl<|e_p (zJ (z:=(((i+1):Nat):Int)) rfl rfl (w64 om))<|e_p (zc rfl)<|zh<|zfa (i+1) (show (i+1)≤n∧Pg.ck1 (l.take (i+1)) (l.drop (i+1))=Pg.ck1 [] l from by exact ⟨by omega,(Pg.ck1_go om (by simpa [Pg.far] using hfar) (Pg.not_take om (fun w hw=>hB2 w om))).trans hck⟩) (by show n - (i+1)<n - i;omega) ((.c rfl (.c rfl .n)):SubM _ _) (ho:=(.n:PickO _ _ _)) ((.c (j:=1) rfl .n):SelR _ _ _)
   ·
    have hz1:Pg.ck1 [] l=0:=by rw [← hck];exact Pg.ck1_end om
    have hrng:=Pg.ck1_zero hz1
    refine zla<|zj<|zj<|zA<|zd<|zg<|zg<|za<|e_mv rfl<|zL rfl rfl (.c rfl .n) ce53 (zee (p:=p) (n:=n) (cap:=cap) (l:=l) (hn:=ass) (h64:=cbo) (hrng:=cbo)) (.c (j:=0) rfl .n)<|e_p (znb rfl)<|zh<|zd<|zC rfl (fun hsm=> ?_) (fun hsm=> ?_)
    ·
     refine zg<|za<|e_p (zc rfl)<|zh<|zd<|zH<|zi ?_
     exact zq yl () trivial (zk rfl) (by rw [Pg.ck_two hlm hz1 (fun h=>absurd ((Pg.smp_iff om).1 h) (by simpa using hsm))]) (ho:=(.n:PickO _ _ _)) (.n:SelR _ _ _)
    ·
     refine zy<|zd<|zg<|za<|e_p (zc rfl)<|zh<|zd<|zH ?_
     exact zq yl () trivial (zk rfl) (by rw [Pg.ck_ok hlm hz1 ((Pg.smp_iff om).2 (by simpa using hsm))]) (ho:=(.n:PickO _ _ _)) (.n:SelR _ _ _)
theorem zfe {p:Option Addr} {n:Nat} {cap:Nat} {l:List Pg.P2} {hx:Int} {hy:Int} (hn:l.length=n) (hrng:∀x∈l,Pg.inR x) (hrh:Pg.inR (hx,hy)):Con yd 18 [.slice p n cap,.agg #[.int .i64 hx,.int .i64 hy]] [] [slF (rI2 .i64) p cap l] (Y:=Unit) (fun y=>True) (fun y=> .int .i64 (Pg.ins l (hx,hy))) (fun y=>[]) (fun y=>[]):=by
 refine zl Tryz.func18 rfl rfl rfl (fun c=> ?_)
 show RunC _ _ _ _ _ [(0,.slice p n cap),(1,.agg #[.int .i64 hx,.int .i64 hy])] [] [slF (rI2 .i64) p cap l]
 refine zba 0 rfl (fun hL0=> ?_)
 have huh:(-1048576≤hx∧hx≤1048576)∧(-1048576≤hy∧hy≤1048576):=hrh
 refine zg<|za<|zM rfl rfl (zQ rfl rfl) (fun b1=> ?_)
 refine e_p (zc rfl)<|zh<|zd<|zg<|za<|e_p (zc rfl)<|zh<|zd<|zg<|zg<|za<|e_p (zc rfl)<|zh<|zd<|zB<|zma (X:=Nat) (fun x:Nat=>x≤n∧∀w,w<x→¬Pg.onS (l.getD w (0,0)) (l.getD ((w+1)%n) (0,0)) (hx,hy)) (fun x=>[(5,.int .i64 (Pg.inN n l (hx,hy) x)),(6,.int .i64 ((x:Nat):Int)),(3,.pointer (some ⟨b1,0,none⟩)),(0,.slice p n cap)]) (fun x=>[boxA b1 30 [.int .i64 hx,.int .i64 hy]]) (fun x=>[slF (rI2 .i64) p cap l]) (fun x:Nat=>n - x) 0 (show 0≤n∧∀w,w<0→¬Pg.onS (l.getD w (0,0)) (l.getD ((w+1)%n) (0,0)) (hx,hy) from by exact ⟨Nat.zero_le _,fun w h=>by omega⟩) ((.e rfl (by first|rfl|(congr 1;omega)|simp_all) (.e rfl (by first|rfl|(congr 1;omega)|simp_all) (.c rfl (.c rfl .n)))):SubM _ _) (ho:=((.c (i:=0) rfl .n):PickO _ _ _)) ((.c (j:=0) rfl .n):SelR _ _ _) ?_
 rintro k hI
 replace hI:k≤n∧∀w,w<k→¬Pg.onS (l.getD w (0,0)) (l.getD ((w+1)%n) (0,0)) (hx,hy):=hI
 try dsimp only
 obtain ⟨hk,hall⟩:=hI
 refine zg<|zg<|za<|e_mv rfl<|e_mv rfl<|e_p (zN yc rfl)<|e_p (zZ rfl rfl)<|zh<|zd<|zC rfl (fun h2=> ?_) (fun h2=> ?_)
 ·
  have hm1:(k+1)%n<n:=Nat.mod_lt _ om
  have hg0:Pg.inR (l.getD k (0,0)):=Pg.Ok.gt hrng om
  have hg1:Pg.inR (l.getD ((k+1)%n) (0,0)):=Pg.Ok.gt hrng om
  have hi1:=Pg.inN_rng n l (hx,hy) k
  refine zy<|zd<|zg<|zB<|zg<|za<|e_mv rfl<|e_mv rfl<|zS (x0:=(l.getD k (0,0))) 0 k rfl yc sz30 rfl rfl rfl cbs rfl rfl (gD (d:=(0,0)) om) (fun b3 o4 hok5=> ?_)
  obtain ⟨hok5x,hok5y⟩:=hok5
  replace hok5x:=zK.1 hok5x
  replace hok5y:=zK.1 hok5y
  refine e_ru (zI (j:=0) 0 ty30 rfl rfl rfl (.t2 .nil))<|zM rfl rfl (zo zr30 rfl) (fun b6=> ?_)
  refine zm 0 rfl rfl rfl rfl rfl sz30 rfl (.t2 .nil) .z<|zh<|zd<|zg<|za<|e_mv rfl<|e_mv rfl<|e_p (zJ (z:=(((k+1):Nat):Int)) rfl rfl (w64 om))<|e_mv rfl<|e_p (zN yc rfl)<|e_p (zxa (z:=((((k+1)%n):Nat):Int)) rfl rfl om (remN om om))<|zS (x0:=(l.getD ((k+1)%n) (0,0))) 1 ((k+1)%n) rfl yc sz30 rfl rfl rfl cbs rfl rfl (gD (d:=(0,0)) om) (fun b7 o8 hok9=> ?_)
  obtain ⟨hok9x,hok9y⟩:=hok9
  replace hok9x:=zK.1 hok9x
  replace hok9y:=zK.1 hok9y
  refine e_ru (zI (j:=0) 0 ty30 rfl rfl rfl (.t2 .nil))<|zM rfl rfl (zo zr30 rfl) (fun b10=> ?_)
  refine zm 0 rfl rfl rfl rfl rfl sz30 rfl (.t2 .nil) .z<|zh<|zd<|zg<|zg<|za<|e_ru (zb 1 ty30 rfl rfl (.t2 .nil))<|e_ru (zb 0 ty30 rfl rfl (.t2 .nil))<|e_ru (zb 2 ty30 rfl rfl (.t2 .nil))<|zL rfl rfl (.c rfl (.c rfl (.c rfl .n))) ce35 (zub (ex:=(l.getD k (0,0)).1) (ey:=(l.getD k (0,0)).2) (fx:=(l.getD ((k+1)%n) (0,0)).1) (fy:=(l.getD ((k+1)%n) (0,0)).2) (gx:=hx) (gy:=hy) (hre:=cbo) (hrf:=cbo) (hrg:=ass)) (.n)<|zh<|zd<|zC rfl (fun hon=> ?_) (fun hon=> ?_)
  ·
   refine zg<|za<|e_p (zc rfl)<|zh<|zd<|zH<|zi<|zu<|zi<|zi<|zu<|zi ?_
   exact zq Tryz.results18 () trivial (zk rfl) (by rw [Pg.ins_on hn (i:=k) om hon]) (ho:=(.n:PickO _ _ _)) (.n:SelR _ _ _)
  ·
   refine zy<|zd<|zg<|za<|e_p (ze ya rfl sz3 rfl rfl)<|e_ru (zf 1 ty3 rfl rfl rfl)<|e_p (ze ya rfl sz3 rfl rfl)<|e_ru (zf 2 ty3 rfl rfl rfl)<|e_p (zta rfl rfl)<|e_p (ze ya rfl sz3 rfl rfl)<|e_ru (zf 0 ty3 rfl rfl rfl)<|e_p (ze ya rfl sz3 rfl rfl)<|e_ru (zf 2 ty3 rfl rfl rfl)<|e_p (zta rfl rfl)<|e_p (zHa Tryz.underlying4 rfl rfl)<|zh<|zd<|zC rfl (fun hne=> ?_) (fun hne=> ?_)
   ·
    have hne2:¬(hy<(l.getD k (0,0)).2↔hy<(l.getD ((k+1)%n) (0,0)).2):=by simpa using hne
    refine zg<|za<|e_ru (zb 1 ty30 rfl rfl (.t2 .nil))<|e_ru (zb 0 ty30 rfl rfl (.t2 .nil))<|e_ru (zb 2 ty30 rfl rfl (.t2 .nil))<|zL rfl rfl (.c rfl (.c rfl (.c rfl .n))) ce55 (zqb (ex:=(l.getD k (0,0)).1) (ey:=(l.getD k (0,0)).2) (fx:=(l.getD ((k+1)%n) (0,0)).1) (fy:=(l.getD ((k+1)%n) (0,0)).2) (gx:=hx) (gy:=hy) (hre:=cbo) (hrf:=cbo) (hrg:=ass)) (.n)<|e_p (zc rfl)<|zh<|zd<|zEa (X:=Unit) (fun x=>True) (fun x=>[(66,.bool (decide ((((l.getD k (0,0)).2<(l.getD ((k+1)%n) (0,0)).2)∧(0<Pg.crs (((l.getD k (0,0)).1),((l.getD k (0,0)).2)) (((l.getD ((k+1)%n) (0,0)).1),((l.getD ((k+1)%n) (0,0)).2)) (hx,hy)))∨(((l.getD ((k+1)%n) (0,0)).2<(l.getD k (0,0)).2)∧(Pg.crs (((l.getD k (0,0)).1),((l.getD k (0,0)).2)) (((l.getD ((k+1)%n) (0,0)).1),((l.getD ((k+1)%n) (0,0)).2)) (hx,hy)<0))))),(5,.int .i64 (Pg.inN n l (hx,hy) k)),(6,.int .i64 ((k:Nat):Int)),(3,.pointer (some ⟨b1,0,none⟩)),(0,.slice p n cap)]) (fun x=>[boxA b10 30 [.int .i64 ((l.getD ((k+1)%n) (0,0)).1),.int .i64 ((l.getD ((k+1)%n) (0,0)).2)],boxA b6 30 [.int .i64 ((l.getD k (0,0)).1),.int .i64 ((l.getD k (0,0)).2)],boxA b1 30 [.int .i64 hx,.int .i64 hy]]) (fun x=>[atF b7 o8 [.int .i64 ((l.getD ((k+1)%n) (0,0)).1),.int .i64 ((l.getD ((k+1)%n) (0,0)).2)],atF b3 o4 [.int .i64 ((l.getD k (0,0)).1),.int .i64 ((l.getD k (0,0)).2)],slF (rI2 .i64) p cap l]) ?_ ?_
    ·
     refine za<|e_p (ze ya rfl sz3 rfl rfl)<|e_ru (zf 0 ty3 rfl rfl rfl)<|e_p (ze ya rfl sz3 rfl rfl)<|e_ru (zf 1 ty3 rfl rfl rfl)<|e_p (zta rfl rfl)<|zT rfl rfl (zU rfl) (fun h11=> ?_) (fun h11=> ?_)
     ·
      refine e_mv rfl<|e_p (zta rfl rfl)<|e_p (zn rfl rfl)<|zT rfl rfl (zU rfl) (fun h12=> ?_) (fun h12=> ?_)
      ·
       refine e_no<|e_no<|e_no<|e_no<|e_no<|e_no<|e_no<|e_no<|e_no<|e_p (zn rfl rfl)<|zh ?_
       exact zea () (show True from by first|trivial|omega|simp_all) ((.e rfl (congrArg Value.bool cbu) (.of rfl)):SubM _ _) (ho:=((.of [0,0,0] rfl):PickO _ _ _)) ((.of [0,1,2] rfl):SelR _ _ _)
      ·
       refine e_p (ze ya rfl sz3 rfl rfl)<|e_ru (zf 0 ty3 rfl rfl rfl)<|e_p (ze ya rfl sz3 rfl rfl)<|e_ru (zf 1 ty3 rfl rfl rfl)<|e_p (zZ rfl rfl)<|zT rfl rfl (zU rfl) (fun h13=> ?_) (fun h13=> ?_)
       ·
        refine e_mv rfl<|e_p (zZ rfl rfl)<|e_p (zn rfl rfl)<|e_p (zn rfl rfl)<|zh ?_
        exact zea () (show True from by first|trivial|omega|simp_all) ((.e rfl (congrArg Value.bool cbu) (.of rfl)):SubM _ _) (ho:=((.of [0,0,0] rfl):PickO _ _ _)) ((.of [0,1,2] rfl):SelR _ _ _)
       ·
        refine e_no<|e_no<|e_p (zn rfl rfl)<|e_p (zn rfl rfl)<|zh ?_
        exact zea () (show True from by first|trivial|omega|simp_all) ((.e rfl (congrArg Value.bool cbu) (.of rfl)):SubM _ _) (ho:=((.of [0,0,0] rfl):PickO _ _ _)) ((.of [0,1,2] rfl):SelR _ _ _)
     ·
      refine e_no<|e_no<|e_p (zn rfl rfl)<|e_mv rfl<|e_p (ze ya rfl sz3 rfl rfl)<|e_ru (zf 0 ty3 rfl rfl rfl)<|e_p (ze ya rfl sz3 rfl rfl)<|e_ru (zf 1 ty3 rfl rfl rfl)<|e_p (zZ rfl rfl)<|zT rfl rfl (zU rfl) (fun h14=> ?_) (fun h14=> ?_)
      ·
       refine e_mv rfl<|e_p (zZ rfl rfl)<|e_p (zn rfl rfl)<|e_p (zn rfl rfl)<|zh ?_
       exact zea () (show True from by first|trivial|omega|simp_all) ((.e rfl (congrArg Value.bool cbu) (.of rfl)):SubM _ _) (ho:=((.of [0,0,0] rfl):PickO _ _ _)) ((.of [0,1,2] rfl):SelR _ _ _)
      ·
       refine e_no<|e_no<|e_p (zn rfl rfl)<|e_p (zn rfl rfl)<|zh ?_
       exact zea () (show True from by first|trivial|omega|simp_all) ((.e rfl (congrArg Value.bool cbu) (.of rfl)):SubM _ _) (ho:=((.of [0,0,0] rfl):PickO _ _ _)) ((.of [0,1,2] rfl):SelR _ _ _)
    ·
     rintro ⟨⟩ -
     try dsimp only
     refine zC rfl (fun hhit=> ?_) (fun hhit=> ?_)
     ·
      refine za<|e_mv rfl<|e_p (zWc (z:=(-(Pg.inN n l (hx,hy) k))) rfl (w64 om))<|e_p (zc rfl)<|zh<|zO<|zd<|za<|e_mv rfl<|e_p (zJ (z:=(((k+1):Nat):Int)) rfl rfl (w64 om))<|e_p (zc rfl)<|zh<|zfa (k+1) (show (k+1)≤n∧∀w,w<(k+1)→¬Pg.onS (l.getD w (0,0)) (l.getD ((w+1)%n) (0,0)) (hx,hy) from by exact ⟨by omega,Ms.all_lt_succ hall hon⟩) (by show n - (k+1)<n - k;omega) ((.e rfl (by rw [Pg.inN_hit (Pg.hit_R.2 ⟨hne2,hhit⟩)]) (.of rfl)):SubM _ _) (ho:=((.c (i:=2) rfl .n):PickO _ _ _)) ((.c (j:=2) rfl .n):SelR _ _ _)
     ·
      refine zy<|zO<|zd<|za<|e_mv rfl<|e_p (zJ (z:=(((k+1):Nat):Int)) rfl rfl (w64 om))<|e_p (zc rfl)<|zh<|zfa (k+1) (show (k+1)≤n∧∀w,w<(k+1)→¬Pg.onS (l.getD w (0,0)) (l.getD ((w+1)%n) (0,0)) (hx,hy) from by exact ⟨by omega,Ms.all_lt_succ hall hon⟩) (by show n - (k+1)<n - k;omega) ((.e rfl (by rw [Pg.inN_not (fun h=>hhit (Pg.hit_R.1 h).2)]) (.of rfl)):SubM _ _) (ho:=((.c (i:=2) rfl .n):PickO _ _ _)) ((.c (j:=2) rfl .n):SelR _ _ _)
   ·
    have hne2:(hy<(l.getD k (0,0)).2↔hy<(l.getD ((k+1)%n) (0,0)).2):=by simpa using hne
    refine zy<|zO<|zd<|za<|e_mv rfl<|e_p (zJ (z:=(((k+1):Nat):Int)) rfl rfl (w64 om))<|e_p (zc rfl)<|zh<|zfa (k+1) (show (k+1)≤n∧∀w,w<(k+1)→¬Pg.onS (l.getD w (0,0)) (l.getD ((w+1)%n) (0,0)) (hx,hy) from by exact ⟨by omega,Ms.all_lt_succ hall hon⟩) (by show n - (k+1)<n - k;omega) ((.e rfl (by rw [Pg.inN_not (fun h=>(Pg.hit_R.1 h).1 hne2)]) (.of rfl)):SubM _ _) (ho:=((.c (i:=2) rfl .n):PickO _ _ _)) ((.c (j:=2) rfl .n):SelR _ _ _)
 ·
  refine zla<|zj<|zj<|zA<|zd<|zg<|za<|e_mv rfl<|e_p (zc rfl)<|zh<|zd<|zH ?_
  exact zq Tryz.results18 () trivial (zk rfl) (by rw [Pg.ins_go hn (fun w hw=>hall w om),show k=n by omega]) (ho:=(.n:PickO _ _ _)) (.n:SelR _ _ _)
end Go.Proofs.YtjcpbhlijoigfaaGreat.Sp
namespace Go.Proofs.YtjcpbhlijoigfaaGreat.Sp
open Go
set_option linter.unusedVariables false
set_option maxRecDepth 100000
set_option maxHeartbeats 8000000
theorem zog {p:Option Addr} {n:Nat} {cap:Nat} {l:List Pg.P2} (hn:l.length=n):Con yd 12 [.slice p n cap] [] [slF (rI2 .i64) p cap l] (Y:=Unit) (fun y=>True) (fun y=> .bool (decide (((n:Nat):Int)≤70∧(((n:Nat):Int)≤12∨64<((n:Nat):Int))))) (fun y=>[]) (fun y=>[]):=by
 refine zl Tryz.func12 rfl rfl rfl (fun c=> ?_)
 show RunC _ _ _ _ _ [(0,.slice p n cap)] [] [slF (rI2 .i64) p cap l]
 refine zba 0 rfl (fun hL0=> ?_)
 refine zg<|za<|e_p (zc rfl)<|zh<|zd<|zEa (X:=Unit) (fun x=>True) (fun x=>[(2,.bool (decide ((((n:Nat):Int)≤70)∧((((n:Nat):Int)≤12)∨(64<((n:Nat):Int))))))]) (fun x=>[]) (fun x=>[slF (rI2 .i64) p cap l]) ?_ ?_
 ·
  refine za<|e_mv rfl<|e_p (zN yc rfl)<|e_p (zSa rfl rfl)<|zT rfl rfl (zU rfl) (fun h1=> ?_) (fun h1=> ?_)
  ·
   refine e_mv rfl<|e_p (zN yc rfl)<|e_p (zSa rfl rfl)<|zT rfl rfl (zU rfl) (fun h2=> ?_) (fun h2=> ?_)
   ·
    refine e_no<|e_no<|e_no<|e_p (zn rfl rfl)<|e_p (zn rfl rfl)<|e_p (zc rfl)<|zh ?_
    exact zea () (show True from by first|trivial|omega|simp_all) ((.e rfl (congrArg Value.bool cbu) .n):SubM _ _) (ho:=(.n:PickO _ _ _)) ((.c (j:=0) rfl .n):SelR _ _ _)
   ·
    refine e_mv rfl<|e_p (zN yc rfl)<|e_p (zta rfl rfl)<|e_p (zn rfl rfl)<|e_p (zn rfl rfl)<|e_p (zc rfl)<|zh ?_
    exact zea () (show True from by first|trivial|omega|simp_all) ((.e rfl (congrArg Value.bool cbu) .n):SubM _ _) (ho:=(.n:PickO _ _ _)) ((.c (j:=0) rfl .n):SelR _ _ _)
  ·
   refine e_no<|e_no<|e_no<|e_no<|e_no<|e_no<|e_no<|e_no<|e_p (zn rfl rfl)<|e_p (zc rfl)<|zh ?_
   exact zea () (show True from by first|trivial|omega|simp_all) ((.e rfl (congrArg Value.bool cbu) .n):SubM _ _) (ho:=(.n:PickO _ _ _)) ((.c (j:=0) rfl .n):SelR _ _ _)
 ·
  rintro ⟨⟩ -
  try dsimp only
  refine zH ?_
  exact zq Tryz.results12 () trivial (zk rfl) (congrArg Value.bool (by first|rfl|(simp;omega)|simp_all)) (ho:=(.n:PickO _ _ _)) (.n:SelR _ _ _)
end Go.Proofs.YtjcpbhlijoigfaaGreat.Sp
namespace Go.Proofs.YtjcpbhlijoigfaaGreat.Sp
open Go
set_option linter.unusedVariables false
set_option maxRecDepth 100000
set_option maxHeartbeats 8000000
theorem zqc {p:Option Addr} {n:Nat} {cap:Nat} {l:List Pg.P2} {hx:Int} {hy:Int} (hn:l.length=n) (hwhx: -9223372036854775808≤hx∧hx≤9223372036854775807) (hwhy: -9223372036854775808≤hy∧hy≤9223372036854775807):Con yd 4 [.slice p n cap,.agg #[.int .i64 hx,.int .i64 hy]] [] [slF (rI2 .i64) p cap l] (Y:=Unit) (fun y=>True) (fun y=> .bool true) (fun y=>[]) (fun y=>[]):=by
 refine zl Tryz.func4 rfl rfl rfl (fun c=> ?_)
 show RunC _ _ _ _ _ [(0,.slice p n cap),(1,.agg #[.int .i64 hx,.int .i64 hy])] [] [slF (rI2 .i64) p cap l]
 refine zba 0 rfl (fun hL0=> ?_)
 refine zg<|za<|zM rfl rfl (zQ rfl rfl) (fun b1=> ?_)
 refine e_p (zc rfl)<|zh<|zd<|zg<|zg<|za<|zL rfl rfl (.n) ce11 (zyf) (.n)<|e_p (zOb rfl)<|zh<|zd<|zgb rfl rfl<|zy<|zd<|zg<|zg<|za<|e_mv rfl<|zL rfl rfl (.c rfl .n) ce12 (zog (p:=p) (n:=n) (cap:=cap) (l:=l) (hn:=ass)) (.c (j:=0) rfl .n)<|e_p (znb rfl)<|zh<|zd<|zC rfl (fun h2=> ?_) (fun h2=> ?_)
 ·
  refine zg<|za<|e_p (zc rfl)<|zh<|zd<|zH<|zi ?_
  exact zq yo () trivial (zk rfl) rfl (ho:=(.n:PickO _ _ _)) (.n:SelR _ _ _)
 ·
  refine zy<|zd<|zg<|za<|e_mv rfl<|e_ru (zb 0 ty30 rfl rfl (.t2 .nil))<|zL rfl rfl (.c rfl (.c rfl .n)) ce17 (zmc (p:=p) (n:=n) (cap:=cap) (l:=l) (hx:=hx) (hy:=hy) (hn:=ass) (hwhx:=ass) (hwhy:=ass)) (.c (j:=0) rfl .n)<|e_mv rfl<|e_p (zv rfl rfl)<|e_p (zv rfl rfl)<|e_p (zc rfl)<|e_p (zc rfl)<|zh<|zd<|zg<|za<|e_mv rfl<|zL rfl rfl (.c rfl .n) ce16 (zLe (p:=p) (n:=n) (cap:=cap) (l:=l) (hn:=ass)) (.c (j:=0) rfl .n)<|e_p (zc rfl)<|zh<|zd<|zg<|zEa (X:=Unit) (fun x=>True) (fun x=>[(38,.bool (decide ((Pg.ck l=0)∧((1048576<(max hx hy))∨((min hx hy)<(-1048576)))))),(7,.int .i64 (Pg.ck l)),(6,.int .i64 (Pg.isC l (hx,hy))),(5,.int .i64 (Pg.isV l (hx,hy))),(4,.bool false),(3,.pointer (some ⟨b1,0,none⟩)),(0,.slice p n cap)]) (fun x=>[boxA b1 30 [.int .i64 hx,.int .i64 hy]]) (fun x=>[slF (rI2 .i64) p cap l]) ?_ ?_
  ·
   refine za<|e_mv rfl<|e_p (zwa rfl rfl)<|zT rfl rfl (zU rfl) (fun h3=> ?_) (fun h3=> ?_)
   ·
    refine e_p (ze ya rfl sz3 rfl rfl)<|e_ru (zf 0 ty3 rfl rfl rfl)<|e_p (ze ya rfl sz3 rfl rfl)<|e_ru (zf 0 ty3 rfl rfl rfl)<|e_p (zge rfl rfl)<|e_p (zta rfl rfl)<|zT rfl rfl (zU rfl) (fun h4=> ?_) (fun h4=> ?_)
    ·
     refine e_no<|e_no<|e_no<|e_no<|e_no<|e_no<|e_p (zn rfl rfl)<|e_p (zn rfl rfl)<|zh ?_
     exact zea () (show True from by first|trivial|omega|simp_all) ((.e rfl (congrArg Value.bool cbu) (.of rfl)):SubM _ _) (ho:=((.c (i:=0) rfl .n):PickO _ _ _)) ((.c (j:=0) rfl .n):SelR _ _ _)
    ·
     refine e_p (ze ya rfl sz3 rfl rfl)<|e_ru (zf 0 ty3 rfl rfl rfl)<|e_p (ze ya rfl sz3 rfl rfl)<|e_ru (zf 0 ty3 rfl rfl rfl)<|e_p (zOe rfl rfl)<|e_p (zZ rfl rfl)<|e_p (zn rfl rfl)<|e_p (zn rfl rfl)<|zh ?_
     exact zea () (show True from by first|trivial|omega|simp_all) ((.e rfl (congrArg Value.bool cbu) (.of rfl)):SubM _ _) (ho:=((.c (i:=0) rfl .n):PickO _ _ _)) ((.c (j:=0) rfl .n):SelR _ _ _)
   ·
    refine e_no<|e_no<|e_no<|e_no<|e_no<|e_no<|e_no<|e_no<|e_no<|e_no<|e_no<|e_no<|e_no<|e_no<|e_p (zn rfl rfl)<|zh ?_
    exact zea () (show True from by first|trivial|omega|simp_all) ((.e rfl (congrArg Value.bool cbu) (.of rfl)):SubM _ _) (ho:=((.c (i:=0) rfl .n):PickO _ _ _)) ((.c (j:=0) rfl .n):SelR _ _ _)
  ·
   rintro ⟨⟩ -
   try dsimp only
   refine zC rfl (fun hq2=> ?_) (fun hq2=> ?_)
   ·
    have hz:Pg.ck l=0:=hq2.1
    have hf:Pg.far (hx,hy)=true:=decide_eq_true (show ¬((-1048576≤hx∧hx≤1048576)∧(-1048576≤hy∧hy≤1048576)) by have h9:=hq2.2;omega)
    obtain ⟨hv1,hv2⟩:=Pg.is_far hz hf
    have e5:Pg.isV l (hx,hy)=0:=by exact hv1
    rw [e5]
    have e6:Pg.isC l (hx,hy)=2:=by exact hv2
    rw [e6]
    refine za<|e_p (zc rfl)<|zh<|zd<|zg<|zg<|za<|e_mv rfl<|e_p (zfb rfl rfl)<|zh<|zd<|zJb rfl rfl<|zg<|za<|e_mv rfl<|e_p (zwa rfl rfl) ?_
    rw [show true=true from by decide]
    refine e_mv rfl<|e_mv rfl<|e_mv rfl<|e_p (zwa rfl rfl)<|e_p (zn rfl rfl)<|e_p (zc rfl)<|zh<|zd<|zH<|zi ?_
    exact zq yo () trivial (zk rfl) rfl (ho:=(.n:PickO _ _ _)) (.n:SelR _ _ _)
   ·
    refine zy<|zd<|zg<|zg<|za<|e_mv rfl<|e_p (zfb rfl rfl)<|zh<|zd<|zC rfl (fun hw2=> ?_) (fun hw2=> ?_)
    ·
     refine zg ?_
     obtain ⟨hv1,hv2⟩:=Pg.is_bad (q:=(hx,hy)) hw2
     have e7:Pg.isV l (hx,hy)=0:=by exact hv1
     rw [e7]
     have e8:Pg.isC l (hx,hy)=Pg.ck l:=by exact hv2
     rw [e8]
     refine za<|e_mv rfl<|e_p (zwa rfl rfl) ?_
     rw [show true=true from by decide]
     refine e_mv rfl<|e_mv rfl<|e_mv rfl<|e_p (zwa rfl rfl) ?_
     rw [show (decide (Pg.ck l=Pg.ck l))=true from by exact decide_eq_true rfl]
     refine e_p (zn rfl rfl)<|e_p (zc rfl)<|zh<|zd<|zH<|zi ?_
     exact zq yo () trivial (zk rfl) rfl (ho:=(.n:PickO _ _ _)) (.n:SelR _ _ _)
    ·
     refine zy<|zd<|zg ?_
     have hz:Pg.ck l=0:=Decidable.not_not.1 hw2
     have hf:¬Pg.far (hx,hy)=true:=fun h=>hq2 ⟨hz,by have h9:¬((-1048576≤hx∧hx≤1048576)∧(-1048576≤hy∧hy≤1048576)):=of_decide_eq_true h;omega⟩
     obtain ⟨hv1,hv2⟩:=Pg.is_ok hz hf
     have hrh:=Pg.far_no hf
     have hrng:=(Pg.ok hz).rng
     have e9:Pg.isV l (hx,hy)=Pg.ins l (hx,hy):=by exact hv1
     rw [e9]
     have e10:Pg.isC l (hx,hy)=0:=by exact hv2
     rw [e10]
     refine za<|e_mv rfl<|e_p (zwa rfl rfl) ?_
     rw [show true=true from by decide]
     refine e_mv rfl<|e_mv rfl<|e_mv rfl<|e_ru (zb 0 ty30 rfl rfl (.t2 .nil))<|zL rfl rfl (.c rfl (.c rfl .n)) ce18 (zfe (p:=p) (n:=n) (cap:=cap) (l:=l) (hx:=hx) (hy:=hy) (hn:=ass) (hrng:=cbo) (hrh:=cbo)) (.c (j:=0) rfl .n)<|e_p (zwa rfl rfl) ?_
     rw [show (decide (Pg.ins l (hx,hy)=Pg.ins l (hx,hy)))=true from by exact decide_eq_true rfl]
     refine e_p (zn rfl rfl)<|e_p (zc rfl)<|zh<|zd<|zH ?_
     exact zq yo () trivial (zk rfl) rfl (ho:=(.n:PickO _ _ _)) (.n:SelR _ _ _)
end Go.Proofs.YtjcpbhlijoigfaaGreat.Sp
