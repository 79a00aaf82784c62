/- Lemmas on the walk and plain lemmas that the claim of this folder uses; each states its own conditions. Lines were printed by a program of ours. -/
import Derived.Test.YtjcpbhlijoigfaaGreatZ6D
set_option linter.unusedVariables false
set_option linter.unusedSimpArgs false
set_option linter.unusedSectionVars false
open Go.Proofs.Tryz renaming underlying22 → ya, underlying30 → yb, underlying43 → yc, underlying50 → yd, prog → ye, underlying54 → yg, underlying34 → yh, underlying69 → yk, results16 → yl, results53 → yn, underlying3 → yo
open Go.Proofs.YtjcpbhlijoigfaaGreat.Big renaming zR → yf, hq_num → yi, hq_den → yj, hq → ym, raw → yp, zHa → yq
namespace Go.Proofs.YtjcpbhlijoigfaaGreat.Sp
open Go
set_option linter.unusedVariables false
set_option maxRecDepth 100000
set_option maxHeartbeats 8000000
theorem zid {z:Int} (hz: -9223372036854775808≤z∧z≤9223372036854775807):Con ye 74 [.int .i64 z] [] [] (Y:=(Option Addr)×Nat) (fun y=>True) (fun y=> .agg #[.bool (decide (z<0)),.slice (y.1) ((Big.digs ((z).natAbs)).length) (y.2)]) (fun y=>[]) (fun y=>[slF (rI .u32) (y.1) (y.2) (Big.digs ((z).natAbs))]):=by
 refine zl Tryz.func74 rfl rfl rfl (fun c=> ?_)
 show RunC _ _ _ _ _ [(0,.int .i64 z)] [] []
 refine zg<|za<|zM rfl rfl (zo zr41 rfl) (fun b1=> ?_)
 refine zh<|zd<|zg<|za<|e_mv rfl<|zD rfl rfl (.c rfl .n) ce113 (zvf (z:=z) (hz:=ass)) (.n) ?_
 rintro ⟨p22,c23⟩ -
 dsimp only [aq,nq,cq]
 refine zm 0 rfl rfl rfl rfl rfl sz41 rfl (.t2 .nil) .z<|zh<|zd<|zK ?_
 exact zt Tryz.results74 (p22,c23) trivial (zq 0 ty41 rfl rfl (.t2 .nil)) rfl (ho:=(.n:PickO _ _ _)) ((.c (j:=0) rfl .n):SelR _ _ _)
theorem zCb {z:Int} (hz: -9223372036854775808≤z∧z≤9223372036854775807):Con ye 74 [.int .i64 (z)] [] [] (Y:=(Wd)) (fun y=>True) (fun y=> .agg #[y.b,y.l]) (fun y=>[]) (fun y=>[zF y (z)]):=by
  exact zUb (zid hz)
theorem zjd {z:Int} (hz: -9223372036854775808≤z∧z≤9223372036854775807):Con ye 26 [.int .i64 z] [] [] (Y:=Wd×Wd) (fun y=>True) (fun y=> .agg #[y.1.b,y.1.l,y.2.b,y.2.l]) (fun y=>[]) (fun y=>[qF true y.1 y.2 ((z:Int):Rat)]):=by
 refine zl Tryz.func26 rfl rfl rfl (fun c=> ?_)
 show RunC _ _ _ _ _ [(0,.int .i64 z)] [] []
 refine zg<|za<|zM rfl rfl (zo zr43 rfl) (fun b1=> ?_)
 refine zh<|zd<|zg<|za<|e_mv rfl<|zD rfl rfl (.c rfl .n) ce74 (zCb (z:=z) (hz:=ass)) (.n) ?_
 rintro w32 -
 dsimp only [aq,nq,cq]
 refine zD rfl rfl (.c rfl .n) ce74 (zCb (z:=1) (hz:=by first|rfl|assumption|omega|(rw [yf];omega)|(decide +kernel))) (.n) ?_
 rintro w33 -
 dsimp only [aq,nq,cq]
 refine e_p (zC zr43 rfl yc (.c sz41 (.c sz41 .n)) (.c rfl (.c rfl .n)) (.c rfl rfl rfl (.t2 .nil) (.c rfl rfl rfl (.s2 (.t2 .nil)) .n)))<|zm 0 rfl rfl rfl rfl rfl sz43 rfl (.t4 .nil) .z<|zh<|zd<|zK<|zFb (qF true w32 w33 ((z:Int):Rat)) (qF_close 1 0 rfl rfl (by exact ⟨(Rat.num_intCast z).symm,by rw [Rat.den_intCast];rfl,Nat.le_trans (Big.hq_64 hz.1 hz.2) dd⟩)) ?_
 exact zt Tryz.results26 (w32,w33) trivial (zq 0 ty43 rfl rfl (.t4 .nil)) rfl (ho:=(.n:PickO _ _ _)) ((.c (j:=0) rfl .n):SelR _ _ _)
theorem zYc {s:Bool} {p1:Option Addr} {n1:Nat} {c1:Nat} {l1:List Int} {t:Bool} {p2:Option Addr} {n2:Nat} {c2:Nat} {l2:List Int} (hn1:l1.length=n1) (hn2:l2.length=n2) (hm1:n1≤1048576) (hm2:n2≤1048576):Con ye 88 [.agg #[.bool s,.slice p1 n1 c1,.bool t,.slice p2 n2 c2]] [] [slF (rI .u32) p1 c1 l1,slF (rI .u32) p2 c2 l2] (Y:=Unit) (fun y=>True) (fun y=> .bool (decide (Big.qok ((s,l1),(t,l2))))) (fun y=>[]) (fun y=>[]):=by
 refine zl Tryz.func88 rfl rfl rfl (fun c=> ?_)
 show RunC _ _ _ _ _ [(0,.agg #[.bool s,.slice p1 n1 c1,.bool t,.slice p2 n2 c2])] [] [slF (rI .u32) p1 c1 l1,slF (rI .u32) p2 c2 l2]
 refine zda 0 rfl (fun hL0=> ?_)
 refine zPa 0 rfl (fun hE0=> ?_)
 refine zda 1 rfl (fun hL1=> ?_)
 refine zPa 1 rfl (fun hE1=> ?_)
 have hnn1:Big.nn l1:=fun g hg=>(zy.1 (hE0 g hg)).1
 have hnn2:Big.nn l2:=fun g hg=>(zy.1 (hE1 g hg)).1
 have hb1:Big.ln (yp s l1)≤n1:=by have:=Big.zQa (s:=s) hnn1;omega
 have hb2:Big.ln (yp t l2)≤n2:=by have:=Big.zQa (s:=t) hnn2;omega
 refine zg<|za<|zM rfl rfl (zQ rfl rfl) (fun b1=> ?_)
 refine e_p (zc rfl)<|zh<|zd<|zg<|zGa (X:=Unit) (fun x=>True) (fun x=>[(18,.bool (decide (¬(Big.canon s l1∧Big.canon t l2∧0<yp t l2)))),(2,.bool false),(1,.pointer (some ⟨b1,0,none⟩))]) (fun x=>[boxA b1 43 [.bool s,.slice p1 n1 c1,.bool t,.slice p2 n2 c2]]) (fun x=>[slF (rI .u32) p1 c1 l1,slF (rI .u32) p2 c2 l2]) ?_ ?_
 ·
  refine za<|e_p (zf yc rfl sz41 rfl rfl)<|e_ru (zb 0 ty41 rfl rfl (.t2 .nil))<|zL rfl rfl (.c rfl .n) ce122 (zrc (s:=s) (p:=p1) (n:=n1) (cap:=c1) (l:=l1) (hn:=ass)) (.c (j:=0) rfl .n)<|e_p (zub rfl)<|zW rfl rfl (zX rfl) (fun h2=> ?_) (fun h2=> ?_)
  ·
   refine e_no<|e_no<|e_no<|e_no<|e_p (zn rfl rfl)<|e_mv rfl<|e_no<|e_no<|e_no<|e_no<|e_p (zn rfl rfl)<|zh ?_
   exact zfa () (show True from by first|trivial|omega|simp_all) ((.e rfl (congrArg Value.bool (by simp_all)) (.c rfl (.c rfl .n))):SubM _ _) (ho:=((.c (i:=0) rfl .n):PickO _ _ _)) ((.of [0,1] rfl):SelR _ _ _)
  ·
   refine e_p (zf yc rfl sz41 rfl rfl)<|e_ru (zb 0 ty41 rfl rfl (.s2 (.t2 .nil)))<|zL rfl rfl (.c rfl .n) ce122 (zrc (s:=t) (p:=p2) (n:=n2) (cap:=c2) (l:=l2) (hn:=ass)) (.c (j:=1) rfl .n)<|e_p (zub rfl)<|e_p (zn rfl rfl)<|zW rfl rfl (zX rfl) (fun h3=> ?_) (fun h3=> ?_)
   ·
    refine e_no<|e_no<|e_no<|e_no<|e_p (zn rfl rfl)<|zh ?_
    exact zfa () (show True from by first|trivial|omega|simp_all) ((.e rfl (congrArg Value.bool (by simp_all)) (.c rfl (.c rfl .n))):SubM _ _) (ho:=((.c (i:=0) rfl .n):PickO _ _ _)) ((.of [0,1] rfl):SelR _ _ _)
   ·
    refine e_p (zf yc rfl sz41 rfl rfl)<|e_ru (zb 0 ty41 rfl rfl (.s2 (.t2 .nil)))<|zL rfl rfl (.c rfl .n) ce105 (zHd (s:=t) (p:=p2) (n:=n2) (cap:=c2) (l:=l2) (hn:=ass) (hln:=by first|rfl|assumption|omega|(rw [yf];omega)|(decide +kernel))) (.c (j:=1) rfl .n)<|e_p (zab rfl rfl)<|e_p (zn rfl rfl)<|zh ?_
    exact zfa () (show True from by first|trivial|omega|simp_all) ((.e rfl (congrArg Value.bool (by exact decide_eq_decide.2 (Big.sgn_le (Decidable.not_not.1 ‹_›) (Decidable.not_not.1 ‹_›)))) (.c rfl (.c rfl .n))):SubM _ _) (ho:=((.c (i:=0) rfl .n):PickO _ _ _)) ((.of [0,1] rfl):SelR _ _ _)
 ·
  rintro ⟨⟩ -
  try dsimp only
  refine zE rfl (fun hc=> ?_) (fun hc=> ?_)
  ·
   refine zg<|za<|e_p (zc rfl)<|zh<|zd<|zK<|zi ?_
   exact zt Tryz.results88 () trivial (zk rfl) (congrArg Value.bool (decide_eq_false (fun h=>hc ⟨h.1,h.2.1,h.2.2.1⟩))) (ho:=(.n:PickO _ _ _)) (.n:SelR _ _ _)
  ·
   have hcc:=Decidable.not_not.1 hc
   have hgl:=Big.zBd (n:=yp s l1) (d:=yp t l2) om
   refine zA<|zd<|zg<|za<|e_p (zf yc rfl sz41 rfl rfl)<|e_ru (zb 0 ty41 rfl rfl (.t2 .nil))<|e_p (zf yc rfl sz41 rfl rfl)<|e_ru (zb 0 ty41 rfl rfl (.s2 (.t2 .nil)))<|zD rfl rfl (.c rfl (.c rfl .n)) ce109 (zye (s:=s) (p1:=p1) (n1:=n1) (c1:=c1) (l1:=l1) (t:=t) (p2:=p2) (n2:=n2) (c2:=c2) (l2:=l2) (hn1:=ass) (hn2:=ass) (hm1:=by first|rfl|assumption|omega|(rw [yf];omega)|(decide +kernel)) (hm2:=by first|rfl|assumption|omega|(rw [yf];omega)|(decide +kernel))) (.c (j:=0) rfl (.c (j:=1) rfl .n)) ?_
   rintro ⟨p34,c35⟩ -
   dsimp only [aq,nq,cq]
   refine zD rfl rfl (.c rfl .n) ce74 (zid (z:=1) (hz:=by first|rfl|assumption|omega|(rw [yf];omega)|(decide +kernel))) (.n) ?_
   rintro ⟨p26,c27⟩ -
   dsimp only [aq,nq,cq]
   refine zL rfl rfl (.c rfl (.c rfl .n)) ce123 (zrd (x1:=((Nat.gcd (yp s l1).natAbs (yp t l2).natAbs:Nat):Int)) (x2:=1) (p1:=p34) (c1:=c35) (p2:=p26) (c2:=c27) (hb1:=by first|rfl|assumption|omega|(rw [yf];omega)|(decide +kernel)) (hb2:=by first|rfl|assumption|omega|(rw [yf];omega)|(decide +kernel))) (.c (j:=1) rfl (.c (j:=0) rfl .n))<|e_p (zya rfl rfl)<|e_p (zc rfl)<|zh<|zd<|zK ?_
   exact zt Tryz.results88 () trivial (zk rfl) (congrArg Value.bool (decide_eq_decide.2 (Big.qok_sub (x:=((s,l1),(t,l2))) (Decidable.not_not.1 hc)).symm)) (ho:=(.n:PickO _ _ _)) (.n:SelR _ _ _)
theorem zBc {u1:Wd} {v1:Wd} {q1:Rat}:Con ye 88 [.agg #[u1.b,u1.l,v1.b,v1.l]] [] [qF true u1 v1 (q1)] (Y:=Unit) (fun y=>True) (fun y=> .bool true) (fun y=>[]) (fun y=>[]):=by
  exact zdg (fun x hx hk h1 h2=>by have h:= @zYc x.1.1 u1.p _ u1.c x.1.2 x.2.1 v1.p _ v1.c x.2.2 rfl rfl h1 h2;rw [decide_eq_true (hk rfl)] at h;exact h)
theorem zke {s:Bool} {p1:Option Addr} {n1:Nat} {c1:Nat} {l1:List Int} {t:Bool} {p2:Option Addr} {n2:Nat} {c2:Nat} {l2:List Int} (hn1:l1.length=n1) (hn2:l2.length=n2) (hm1:n1≤1048576) (hm2:n2≤1048576):Con ye 68 [.agg #[.bool s,.slice p1 n1 c1,.bool t,.slice p2 n2 c2]] [] [slF (rI .u32) p1 c1 l1,slF (rI .u32) p2 c2 l2] (Y:=Wd×Wd) (fun y=>True) (fun y=> .agg #[y.1.b,y.1.l,y.2.b,y.2.l]) (fun y=>[]) (fun y=>[qF true y.1 y.2 (Big.qv ((s,l1),(t,l2)))]):=by
 refine zl Tryz.func68 rfl rfl rfl (fun c=> ?_)
 show RunC _ _ _ _ _ [(0,.agg #[.bool s,.slice p1 n1 c1,.bool t,.slice p2 n2 c2])] [] [slF (rI .u32) p1 c1 l1,slF (rI .u32) p2 c2 l2]
 refine zda 0 rfl (fun hL0=> ?_)
 refine zPa 0 rfl (fun hE0=> ?_)
 refine zda 1 rfl (fun hL1=> ?_)
 refine zPa 1 rfl (fun hE1=> ?_)
 have hnn1:Big.nn l1:=fun g hg=>(zy.1 (hE0 g hg)).1
 have hnn2:Big.nn l2:=fun g hg=>(zy.1 (hE1 g hg)).1
 have hb1:Big.ln (yp s l1)≤n1:=by have:=Big.zQa (s:=s) hnn1;omega
 have hb2:Big.ln (yp t l2)≤n2:=by have:=Big.zQa (s:=t) hnn2;omega
 refine zg<|za<|zM rfl rfl (zQ rfl rfl) (fun b1=> ?_)
 refine zM rfl rfl (zo zr43 rfl) (fun b2=> ?_)
 refine zh<|zd<|zg<|zg<|za<|e_ru (zb 1 ty43 rfl rfl (.t4 .nil))<|zL rfl rfl (.c rfl .n) ce88 (zYc (s:=s) (p1:=p1) (n1:=n1) (c1:=c1) (l1:=l1) (t:=t) (p2:=p2) (n2:=n2) (c2:=c2) (l2:=l2) (hn1:=ass) (hn2:=ass) (hm1:=ass) (hm2:=ass)) (.c (j:=0) rfl (.c (j:=1) rfl .n))<|zh<|zd<|zE rfl (fun hq=> ?_) (fun hq=> ?_)
 ·
  have hrp:=Big.raw_parts (x:=((s,l1),(t,l2))) hnn1 hnn2 hq
  have hqp:=Big.qv_parts (x:=((s,l1),(t,l2))) hq
  have hl:ym (Big.qv ((s,l1),(t,l2)))≤1048576:=by unfold ym;rw [hqp.1,hqp.2];dsimp only;omega
  refine zg<|za<|e_ru (zb 1 ty43 rfl rfl (.t4 .nil))<|zm 0 rfl rfl rfl rfl rfl sz43 rfl (.t4 .nil) .z<|zh<|zd<|zK<|zi<|zFb (qF true ⟨s,p1,n1,c1⟩ ⟨t,p2,n2,c2⟩ (Big.qv ((s,l1),(t,l2)))) (fun g r=>qF_rawI 0 1 rfl rfl hn1 hn2 hm1 hm2 hq g r) ?_
  exact zt Tryz.results68 (⟨s,p1,n1,c1⟩,⟨t,p2,n2,c2⟩) trivial (zq 0 ty43 rfl rfl (.t4 .nil)) rfl (ho:=(.n:PickO _ _ _)) ((.c (j:=0) rfl .n):SelR _ _ _)
 ·
  have hz:=Big.qv_not (x:=((s,l1),(t,l2))) hq
  refine zA<|zd<|zg<|za<|zD rfl rfl (.c rfl .n) ce26 (zjd (z:=0) (hz:=by first|rfl|assumption|omega|(rw [yf];omega)|(decide +kernel))) (.n) ?_
  rintro ⟨w33,w44⟩ -
  dsimp only [aq,nq,cq]
  refine zm 0 rfl rfl rfl rfl rfl sz43 rfl (.t4 .nil) .z<|zh<|zd<|zK ?_
  exact zt Tryz.results68 (w33,w44) trivial (zq 0 ty43 rfl rfl (.t4 .nil)) rfl (ho:=(.n:PickO _ _ _)) ((.e (j:=0) rfl (by rw [hz];rfl) .n):SelR _ _ _)
theorem zUa {k1:Bool} {u1:Wd} {v1:Wd} {q1:Rat}:Con ye 68 [.agg #[u1.b,u1.l,v1.b,v1.l]] [] [qF k1 u1 v1 (q1)] (Y:=(Wd)×(Wd)) (fun y=>True) (fun y=> .agg #[y.1.b,y.1.l,y.2.b,y.2.l]) (fun y=>[]) (fun y=>[qF true y.1 y.2 (q1)]):=by
  exact zjf (fun x hx hk h1 h2 hl=>by subst hx;exact zke rfl rfl h1 h2)
theorem zLb {w1:Wd} {w2:Wd} {x1:Int} {x2:Int} (hl1:Big.ln x1≤1048576) (hl2:Big.ln x2≤1048576) (hd:x2≠0):Con ye 72 [.agg #[w1.b,w1.l],.agg #[w2.b,w2.l]] [] [zF w1 x1,zF w2 x2] (Y:=Wd×Wd) (fun y=>True) (fun y=> .agg #[y.1.b,y.1.l,y.2.b,y.2.l]) (fun y=>[]) (fun y=>[qF true y.1 y.2 (Rat.divInt x1 x2)]):=by
 refine zl Tryz.func72 rfl rfl rfl (fun c=> ?_)
 show RunC _ _ _ _ _ [(0,.agg #[w1.b,w1.l]),(1,.agg #[w2.b,w2.l])] [] [zF w1 x1,zF w2 x2]
 refine zg<|za<|zM rfl rfl (zQ rfl rfl) (fun b1=> ?_)
 refine zM rfl rfl (zQ rfl rfl) (fun b2=> ?_)
 refine zM rfl rfl (zo zr43 rfl) (fun b3=> ?_)
 refine zh<|zd<|zg<|za<|e_ru (zb 2 ty41 rfl rfl (.t2 .nil))<|e_ru (zb 1 ty41 rfl rfl (.t2 .nil))<|zD rfl rfl (.c rfl (.c rfl .n)) ce109 (zBf (w1:=w1) (w2:=w2) (x1:=x1) (x2:=x2) (hb1:=by first|rfl|assumption|omega|(rw [yf];omega)|(decide +kernel)) (hb2:=by first|rfl|assumption|omega|(rw [yf];omega)|(decide +kernel))) (.c (j:=0) rfl (.c (j:=1) rfl .n)) ?_
 rintro w34 -
 dsimp only [aq,nq,cq]
 refine zM rfl rfl (zo zr41 rfl) (fun b5=> ?_)
 refine zm 0 rfl rfl rfl rfl rfl sz41 rfl (.t2 .nil) .z<|zh<|zd<|zg<|zg<|za<|e_ru (zb 2 ty41 rfl rfl (.t2 .nil))<|zL rfl rfl (.c rfl .n) ce105 (zsc (w1:=w2) (x1:=x2) (hln:=by first|rfl|assumption|omega|(rw [yf];omega)|(decide +kernel))) (.c (j:=2) rfl .n)<|e_p (zZ rfl rfl)<|zh<|zd<|zE rfl (fun hneg=> ?_) (fun hneg=> ?_)
 ·
  have hs:x2<0:=by rcases Big.sign_le (x:=x2) with h|h|h <;> omega
  have hgp:=Big.gcd_pos_right (n:=x1) (d:=x2) om
  have hgl:=Big.zBd (n:=x1) (d:=x2) om
  obtain ⟨hr1,hr2⟩:=Big.red_neg (n:=x1) hs
  refine za<|e_ru (zb 0 ty41 rfl rfl (.t2 .nil))<|zD rfl rfl (.c rfl .n) ce106 (zGd (w1:=w34) (x1:=((Nat.gcd x1.natAbs x2.natAbs:Nat):Int)) (hln:=by first|rfl|assumption|omega|(rw [yf];omega)|(decide +kernel))) (.c (j:=0) rfl .n) ?_
  rintro w36 -
  dsimp only [aq,nq,cq]
  refine zm 0 rfl rfl rfl rfl rfl sz41 rfl (.t2 .nil) .z<|zh<|zd<|zg<|za<|e_ru (zb 3 ty41 rfl rfl (.t2 .nil))<|e_ru (zb 0 ty41 rfl rfl (.t2 .nil))<|zD rfl rfl (.c rfl (.c rfl .n)) ce110 (zrb (w1:=w1) (w2:=w36) (x1:=x1) (x2:= - ((Nat.gcd x1.natAbs x2.natAbs:Nat):Int)) (hb1:=by first|rfl|assumption|omega|(rw [yf];omega)|(decide +kernel)) (hb2:=by first|rfl|assumption|omega|(rw [yf];omega)|(decide +kernel)) (hy:=by first|rfl|assumption|omega|(rw [yf];omega)|(decide +kernel))) (.c (j:=2) rfl (.c (j:=0) rfl .n)) ?_
  rintro ⟨w37,w48⟩ -
  dsimp only [aq,nq,cq]
  refine e_mv rfl<|e_p (zp rfl rfl)<|e_p (zp rfl rfl)<|e_p (zp rfl rfl)<|zM rfl rfl (zo zr41 rfl) (fun b9=> ?_)
  refine zM rfl rfl (zo zr41 rfl) (fun b10=> ?_)
  refine zm 1 rfl rfl rfl rfl rfl sz41 rfl (.t2 .nil) (.s .z)<|zm 0 rfl rfl rfl rfl rfl sz41 rfl (.t2 .nil) .z<|e_p (zc rfl)<|zh<|zd<|zg<|za<|e_ru (zb 4 ty41 rfl rfl (.t2 .nil))<|e_ru (zb 2 ty41 rfl rfl (.t2 .nil))<|zD rfl rfl (.c rfl (.c rfl .n)) ce110 (zrb (w1:=w2) (w2:=w36) (x1:=x2) (x2:= - ((Nat.gcd x1.natAbs x2.natAbs:Nat):Int)) (hb1:=by first|rfl|assumption|omega|(rw [yf];omega)|(decide +kernel)) (hb2:=by first|rfl|assumption|omega|(rw [yf];omega)|(decide +kernel)) (hy:=by first|rfl|assumption|omega|(rw [yf];omega)|(decide +kernel))) (.c (j:=5) rfl (.c (j:=2) rfl .n)) ?_
  rintro ⟨w311,w412⟩ -
  dsimp only [aq,nq,cq]
  refine e_mv rfl<|e_p (zp rfl rfl)<|e_p (zp rfl rfl)<|e_p (zp rfl rfl)<|zM rfl rfl (zo zr41 rfl) (fun b13=> ?_)
  refine zM rfl rfl (zo zr41 rfl) (fun b14=> ?_)
  refine zm 1 rfl rfl rfl rfl rfl sz41 rfl (.t2 .nil) (.s .z)<|zm 0 rfl rfl rfl rfl rfl sz41 rfl (.t2 .nil) .z<|e_p (zc rfl)<|zh<|zd<|zg<|za<|e_ru (zb 3 ty41 rfl rfl (.t2 .nil))<|e_ru (zb 1 ty41 rfl rfl (.t2 .nil))<|e_p (zC zr43 rfl yc (.c sz41 (.c sz41 .n)) (.c rfl (.c rfl .n)) (.c rfl rfl rfl (.t2 .nil) (.c rfl rfl rfl (.s2 (.t2 .nil)) .n)))<|zm 5 rfl rfl rfl rfl rfl sz43 rfl (.t4 .nil) (.s (.s (.s (.s (.s .z)))))<|zh<|zd<|zK<|zFb (qF true w37 w311 (Rat.divInt x1 x2)) (qF_close 2 0 rfl rfl (by exact ⟨hr1,hr2,Nat.le_trans (Big.hq_divInt hd) om⟩)) ?_
  exact zt Tryz.results72 (w37,w311) trivial (zq 5 ty43 rfl rfl (.t4 .nil)) rfl (ho:=(.n:PickO _ _ _)) ((.c (j:=0) rfl .n):SelR _ _ _)
 ·
  have hs:0<x2:=by rcases Big.sign_le (x:=x2) with h|h|h <;> omega
  have hgp:=Big.gcd_pos_right (n:=x1) (d:=x2) om
  have hgl:=Big.zBd (n:=x1) (d:=x2) om
  obtain ⟨hr1,hr2⟩:=Big.red_pos (n:=x1) hs
  refine zA<|zd<|zg<|za<|e_ru (zb 3 ty41 rfl rfl (.t2 .nil))<|e_ru (zb 0 ty41 rfl rfl (.t2 .nil))<|zD rfl rfl (.c rfl (.c rfl .n)) ce110 (zrb (w1:=w1) (w2:=w34) (x1:=x1) (x2:=((Nat.gcd x1.natAbs x2.natAbs:Nat):Int)) (hb1:=by first|rfl|assumption|omega|(rw [yf];omega)|(decide +kernel)) (hb2:=by first|rfl|assumption|omega|(rw [yf];omega)|(decide +kernel)) (hy:=by first|rfl|assumption|omega|(rw [yf];omega)|(decide +kernel))) (.c (j:=1) rfl (.c (j:=0) rfl .n)) ?_
  rintro ⟨w315,w416⟩ -
  dsimp only [aq,nq,cq]
  refine e_mv rfl<|e_p (zp rfl rfl)<|e_p (zp rfl rfl)<|e_p (zp rfl rfl)<|zM rfl rfl (zo zr41 rfl) (fun b17=> ?_)
  refine zM rfl rfl (zo zr41 rfl) (fun b18=> ?_)
  refine zm 1 rfl rfl rfl rfl rfl sz41 rfl (.t2 .nil) (.s .z)<|zm 0 rfl rfl rfl rfl rfl sz41 rfl (.t2 .nil) .z<|e_p (zc rfl)<|zh<|zd<|zg<|za<|e_ru (zb 4 ty41 rfl rfl (.t2 .nil))<|e_ru (zb 2 ty41 rfl rfl (.t2 .nil))<|zD rfl rfl (.c rfl (.c rfl .n)) ce110 (zrb (w1:=w2) (w2:=w34) (x1:=x2) (x2:=((Nat.gcd x1.natAbs x2.natAbs:Nat):Int)) (hb1:=by first|rfl|assumption|omega|(rw [yf];omega)|(decide +kernel)) (hb2:=by first|rfl|assumption|omega|(rw [yf];omega)|(decide +kernel)) (hy:=by first|rfl|assumption|omega|(rw [yf];omega)|(decide +kernel))) (.c (j:=4) rfl (.c (j:=2) rfl .n)) ?_
  rintro ⟨w319,w420⟩ -
  dsimp only [aq,nq,cq]
  refine e_mv rfl<|e_p (zp rfl rfl)<|e_p (zp rfl rfl)<|e_p (zp rfl rfl)<|zM rfl rfl (zo zr41 rfl) (fun b21=> ?_)
  refine zM rfl rfl (zo zr41 rfl) (fun b22=> ?_)
  refine zm 1 rfl rfl rfl rfl rfl sz41 rfl (.t2 .nil) (.s .z)<|zm 0 rfl rfl rfl rfl rfl sz41 rfl (.t2 .nil) .z<|e_p (zc rfl)<|zh<|zd<|zg<|za<|e_ru (zb 3 ty41 rfl rfl (.t2 .nil))<|e_ru (zb 1 ty41 rfl rfl (.t2 .nil))<|e_p (zC zr43 rfl yc (.c sz41 (.c sz41 .n)) (.c rfl (.c rfl .n)) (.c rfl rfl rfl (.t2 .nil) (.c rfl rfl rfl (.s2 (.t2 .nil)) .n)))<|zm 5 rfl rfl rfl rfl rfl sz43 rfl (.t4 .nil) (.s (.s (.s (.s (.s .z)))))<|zh<|zd<|zK<|zFb (qF true w315 w319 (Rat.divInt x1 x2)) (qF_close 2 0 rfl rfl (by exact ⟨hr1,hr2,Nat.le_trans (Big.hq_divInt hd) om⟩)) ?_
  exact zt Tryz.results72 (w315,w319) trivial (zq 5 ty43 rfl rfl (.t4 .nil)) rfl (ho:=(.n:PickO _ _ _)) ((.c (j:=0) rfl .n):SelR _ _ _)
theorem zYf {w1:Wd} {w2:Wd} {x1:Int} {x2:Int} (hl1:Big.ln x1≤1048576) (hl2:Big.ln x2≤1048576):Con ye 127 [.agg #[w1.b,w1.l],.agg #[w2.b,w2.l]] [] [zF w1 x1,zF w2 x2] (Y:=Wd×Wd) (fun y=>True) (fun y=> .tuple #[.agg #[y.1.b,y.1.l,y.2.b,y.2.l],.int .i64 (if x2=0 then 14 else 0)]) (fun y=>[]) (fun y=>[qF (decide (x2≠0)) y.1 y.2 (Rat.divInt x1 x2)]):=by
 refine zl Tryz.func127 rfl rfl rfl (fun c=> ?_)
 show RunC _ _ _ _ _ [(0,.agg #[w1.b,w1.l]),(1,.agg #[w2.b,w2.l])] [] [zF w1 x1,zF w2 x2]
 refine zg<|za<|zM rfl rfl (zQ rfl rfl) (fun b1=> ?_)
 refine zM rfl rfl (zQ rfl rfl) (fun b2=> ?_)
 refine zM rfl rfl (zo zr43 rfl) (fun b3=> ?_)
 refine e_p (zc rfl)<|zh<|zd<|zg<|zg<|za<|e_ru (zb 1 ty41 rfl rfl (.t2 .nil))<|zL rfl rfl (.c rfl .n) ce105 (zsc (w1:=w2) (x1:=x2) (hln:=by first|rfl|assumption|omega|(rw [yf];omega)|(decide +kernel))) (.c (j:=1) rfl .n)<|e_p (zya rfl rfl)<|zh<|zd<|zE rfl (fun hz0=> ?_) (fun hz0=> ?_)
 ·
  have hx0:x2=0:=Big.sign_zero.1 hz0
  refine zg<|za<|e_p (zC zr43 rfl yc (.c sz41 (.c sz41 .n)) .n .n)<|zm 0 rfl rfl rfl rfl rfl sz43 rfl (.t4 .nil) .z<|e_p (zc rfl)<|zh<|zd<|zK<|zi<|zFb (qF false wz wz 0) (fun g _=>qF_none g) ?_
  exact zAa Tryz.results127 (wz,wz) trivial (zq 0 ty43 rfl rfl (.t4 .nil)) (zk rfl) (by rw [if_pos hx0];rfl) (ho:=(.n:PickO _ _ _)) ((.e (j:=0) rfl (by rw [Big.divInt_nil hx0,decide_eq_false (not_not_intro hx0)]) .n):SelR _ _ _)
 ·
  have hx0:x2≠0:=fun e=>hz0 (Big.sign_zero.2 e)
  refine zA<|zd<|zg<|za<|e_ru (zb 2 ty41 rfl rfl (.t2 .nil))<|e_ru (zb 1 ty41 rfl rfl (.t2 .nil))<|zD rfl rfl (.c rfl (.c rfl .n)) ce72 (zLb (w1:=w1) (w2:=w2) (x1:=x1) (x2:=x2) (hl1:=ass) (hl2:=ass) (hd:=by first|rfl|assumption|omega|(rw [yf];omega)|(decide +kernel))) (.c (j:=0) rfl (.c (j:=1) rfl .n)) ?_
  rintro ⟨w34,w45⟩ -
  dsimp only [aq,nq,cq]
  refine zm 0 rfl rfl rfl rfl rfl sz43 rfl (.t4 .nil) .z<|e_p (zc rfl)<|zh<|zd<|zK ?_
  exact zAa Tryz.results127 (w34,w45) trivial (zq 0 ty43 rfl rfl (.t4 .nil)) (zk rfl) (by rw [if_neg hx0]) (ho:=(.n:PickO _ _ _)) ((.e (j:=0) rfl (by rw [decide_eq_true hx0]) .n):SelR _ _ _)
theorem zZf {z1:Int} {z2:Int} (hz1: -9223372036854775808≤z1∧z1≤9223372036854775807) (hz2: -9223372036854775808≤z2∧z2≤9223372036854775807):Con ye 107 [.int .i64 z1,.int .i64 z2] [] [] (Y:=Wd×Wd) (fun y=>True) (fun y=> .tuple #[.agg #[y.1.b,y.1.l,y.2.b,y.2.l],.int .i64 (if z2=0 then 14 else 0)]) (fun y=>[]) (fun y=>[qF (decide (z2≠0)) y.1 y.2 (Rat.divInt z1 z2)]):=by
 refine zl Tryz.func107 rfl rfl rfl (fun c=> ?_)
 show RunC _ _ _ _ _ [(0,.int .i64 z1),(1,.int .i64 z2)] [] []
 have g1:=Big.zng hz1.1 hz1.2
 have g2:=Big.zng hz2.1 hz2.2
 refine zg<|za<|zM rfl rfl (zo zr43 rfl) (fun b1=> ?_)
 refine e_p (zc rfl)<|zh<|zd<|zg<|za<|e_mv rfl<|zD rfl rfl (.c rfl .n) ce74 (zCb (z:=z1) (hz:=ass)) (.n) ?_
 rintro w32 -
 dsimp only [aq,nq,cq]
 refine e_mv rfl<|zD rfl rfl (.c rfl .n) ce74 (zCb (z:=z2) (hz:=ass)) (.n) ?_
 rintro w33 -
 dsimp only [aq,nq,cq]
 refine zD rfl rfl (.c rfl (.c rfl .n)) ce127 (zYf (w1:=w32) (w2:=w33) (x1:=z1) (x2:=z2) (hl1:=by first|rfl|assumption|omega|(rw [yf];omega)|(decide +kernel)) (hl2:=by first|rfl|assumption|omega|(rw [yf];omega)|(decide +kernel))) (.c (j:=1) rfl (.c (j:=0) rfl .n)) ?_
 rintro ⟨w34,w45⟩ -
 dsimp only [aq,nq,cq]
 refine e_p (zp rfl rfl)<|e_p (zp rfl rfl)<|zm 0 rfl rfl rfl rfl rfl sz43 rfl (.t4 .nil) .z<|e_p (zc rfl)<|zh<|zd<|zK ?_
 exact zAa Tryz.results107 (w34,w45) trivial (zq 0 ty43 rfl rfl (.t4 .nil)) (zk rfl) rfl (ho:=(.n:PickO _ _ _)) ((.c (j:=0) rfl .n):SelR _ _ _)
theorem zNe {z1:Int} {z2:Int} (hz1: -9223372036854775808≤z1∧z1≤9223372036854775807) (hz2: -9223372036854775808≤z2∧z2≤9223372036854775807) (hy:z2≠0):Con ye 107 [.int .i64 (z1),.int .i64 (z2)] [] [] (Y:=(Wd)×(Wd)) (fun y=>True) (fun y=> .tuple #[.agg #[y.1.b,y.1.l,y.2.b,y.2.l],.int .i64 (0)]) (fun y=>[]) (fun y=>[qF true y.1 y.2 (Rat.divInt z1 z2)]):=by
  have h:=zZf hz1 hz2
  rw [if_neg hy,decide_eq_true hy] at h
  exact h
theorem zOe {k1:Bool} {u1:Wd} {v1:Wd} {q1:Rat} (hl:ym q1≤1048576):Con ye 66 [.agg #[u1.b,u1.l,v1.b,v1.l]] [] [qF k1 u1 v1 q1] (Y:=Unit) (fun y=>True) (fun y=> .int .i64 (Big.sgq q1)) (fun y=>[]) (fun y=>[]):=by
 refine zl Tryz.func66 rfl rfl rfl (fun c=> ?_)
 show RunC _ _ _ _ _ [(0,.agg #[u1.b,u1.l,v1.b,v1.l])] [] [qF k1 u1 v1 q1]
 have a1:=yi q1
 have a2:=yj q1
 refine zg<|za<|zM rfl rfl (zQ rfl rfl) (fun b1=> ?_)
 refine e_p (zc rfl)<|zh<|zd<|zg<|za<|e_ru (zb 0 ty43 rfl rfl (.t4 .nil))<|zD rfl rfl (.c rfl .n) ce68 (zUa (k1:=k1) (u1:=u1) (v1:=v1) (q1:=q1)) (.c (j:=0) rfl .n) ?_
 rintro ⟨w32,w43⟩ -
 dsimp only [aq,nq,cq]
 refine e_p (zvc yc rfl ty41 rfl (.t2 .nil))<|zuc (qF_open 0 rfl) (fun _ _=> ?_)
 refine zL rfl rfl (.c rfl .n) ce105 (zsc (w1:=w32) (x1:=(q1).num) (hln:=by first|rfl|assumption|omega|(rw [yf];omega)|(decide +kernel))) (.c (j:=0) rfl .n)<|e_p (zc rfl)<|zh<|zd<|zK ?_
 exact zt Tryz.results66 () trivial (zk rfl) rfl (ho:=(.n:PickO _ _ _)) (.n:SelR _ _ _)
theorem zCf {k1:Bool} {u1:Wd} {v1:Wd} {q1:Rat} (hl:ym q1≤1048576):Con ye 67 [.agg #[u1.b,u1.l,v1.b,v1.l]] [] [qF k1 u1 v1 q1] (Y:=Wd×Wd) (fun y=>True) (fun y=> .agg #[y.1.b,y.1.l,y.2.b,y.2.l]) (fun y=>[]) (fun y=>[qF true y.1 y.2 (- q1)]):=by
 refine zl Tryz.func67 rfl rfl rfl (fun c=> ?_)
 show RunC _ _ _ _ _ [(0,.agg #[u1.b,u1.l,v1.b,v1.l])] [] [qF k1 u1 v1 q1]
 have a1:=yi q1
 have a2:=yj q1
 refine zg<|za<|zM rfl rfl (zQ rfl rfl) (fun b1=> ?_)
 refine zM rfl rfl (zo zr43 rfl) (fun b2=> ?_)
 refine zh<|zd<|zg<|za<|e_ru (zb 1 ty43 rfl rfl (.t4 .nil))<|zD rfl rfl (.c rfl .n) ce68 (zUa (k1:=k1) (u1:=u1) (v1:=v1) (q1:=q1)) (.c (j:=0) rfl .n) ?_
 rintro ⟨w33,w44⟩ -
 dsimp only [aq,nq,cq]
 refine zM rfl rfl (zo zr43 rfl) (fun b5=> ?_)
 refine zm 0 rfl rfl rfl rfl rfl sz43 rfl (.t4 .nil) .z<|zh<|zd<|zg<|zsa (.c (i:=1) rfl (.c (i:=0) rfl (.c (i:=0) rfl .n)))<|zY (OW:=[boxA b2 43 (cw [wz,wz])]) (O:=[boxA b5 43 (cw [w33,w44]),boxA b1 43 (cw [u1,v1])]) 6 mixed (.then .ret) kr<|e_pv 0 rfl rfl (zf yc rfl sz41 rfl rfl)<|e_uw 1 rfl rfl (zb 1 ty41 rfl rfl (.t2 .nil))<|e_pv 3 rfl rfl (zf yc rfl sz41 rfl rfl)<|e_uw 4 rfl rfl (zb 1 ty41 rfl rfl (.s2 (.t2 .nil)))<|zqb (qF_open 0 rfl) (fun _ _=> ?_)
 refine e_one 2 (zx rfl rfl rfl rfl (.c rfl .n) ce106 (zGd (w1:=w33) (x1:=(q1).num) (hln:=by first|rfl|assumption|omega|(rw [yf];omega)|(decide +kernel))) (.c (j:=0) rfl .n) ?_)
 rintro w36 -
 dsimp only [aq,nq,cq]
 refine e_pv 5 rfl rfl (zC zr43 rfl yc (.c sz41 (.c sz41 .n)) (.c rfl (.c rfl .n)) (.c rfl rfl rfl (.t2 .nil) (.c rfl rfl rfl (.s2 (.t2 .nil)) .n)))<|e_one 6 (zr kr rfl rfl rfl rfl rfl sz43 rfl (.t4 .nil) ?_)
 refine zU kr<|zd<|zK<|zFb (qF true w36 w44 (- q1)) (qF_close 0 2 rfl rfl (by exact ⟨(Rat.neg_num q1).symm,by rw [Rat.neg_den],by rw [Big.hq_neg];exact hl⟩)) ?_
 exact zt Tryz.results67 (w36,w44) trivial (zq 0 ty43 rfl rfl (.t4 .nil)) rfl (ho:=(.n:PickO _ _ _)) ((.c (j:=0) rfl .n):SelR _ _ _)
theorem zMd {k1:Bool} {u1:Wd} {v1:Wd} {q1:Rat} {k2:Bool} {u2:Wd} {v2:Wd} {q2:Rat} (hl:ym q1+ym q2+1≤1048576):Con ye 70 [.agg #[u1.b,u1.l,v1.b,v1.l],.agg #[u2.b,u2.l,v2.b,v2.l]] [] [qF k1 u1 v1 q1,qF k2 u2 v2 q2] (Y:=Wd×Wd) (fun y=>True) (fun y=> .agg #[y.1.b,y.1.l,y.2.b,y.2.l]) (fun y=>[]) (fun y=>[qF true y.1 y.2 (q1+q2)]):=by
 refine zl Tryz.func70 rfl rfl rfl (fun c=> ?_)
 show RunC _ _ _ _ _ [(0,.agg #[u1.b,u1.l,v1.b,v1.l]),(1,.agg #[u2.b,u2.l,v2.b,v2.l])] [] [qF k1 u1 v1 q1,qF k2 u2 v2 q2]
 have a1:=yi q1
 have a2:=yj q1
 have a3:=yi q2
 have a4:=yj q2
 have b1:=yq q1.num q2.den
 have b2:=yq q2.num q1.den
 have b3:=Big.zNc (q1.num*q2.den) (q2.num*q1.den)
 have b4:=yq (q1.den:Int) q2.den
 have b5:=yq q1.num q2.num
 refine zg<|za<|zM rfl rfl (zQ rfl rfl) (fun b1=> ?_)
 refine zM rfl rfl (zQ rfl rfl) (fun b2=> ?_)
 refine zM rfl rfl (zo zr43 rfl) (fun b3=> ?_)
 refine zh<|zd<|zg<|za<|e_ru (zb 2 ty43 rfl rfl (.t4 .nil))<|zD rfl rfl (.c rfl .n) ce68 (zUa (k1:=k1) (u1:=u1) (v1:=v1) (q1:=q1)) (.c (j:=0) rfl .n) ?_
 rintro ⟨w34,w45⟩ -
 dsimp only [aq,nq,cq]
 refine zM rfl rfl (zo zr43 rfl) (fun b6=> ?_)
 refine zm 0 rfl rfl rfl rfl rfl sz43 rfl (.t4 .nil) .z<|zh<|zd<|zg<|za<|e_ru (zb 2 ty43 rfl rfl (.t4 .nil))<|zD rfl rfl (.c rfl .n) ce68 (zUa (k1:=k2) (u1:=u2) (v1:=v2) (q1:=q2)) (.c (j:=2) rfl .n) ?_
 rintro ⟨w37,w48⟩ -
 dsimp only [aq,nq,cq]
 refine zM rfl rfl (zo zr43 rfl) (fun b9=> ?_)
 refine zm 0 rfl rfl rfl rfl rfl sz43 rfl (.t4 .nil) .z<|zh<|zd<|zg<|zsa (.c (i:=2) rfl (.c (i:=0) rfl (.c (i:=0) rfl (.c (i:=0) rfl (.c (i:=0) rfl .n)))))<|zY (OW:=[boxA b3 43 (cw [wz,wz])]) (O:=[boxA b9 43 (cw [w37,w48]),boxA b6 43 (cw [w34,w45]),boxA b2 43 (cw [u2,v2]),boxA b1 43 (cw [u1,v1])]) 17 mixed (.then .ret) kr<|e_pv 0 rfl rfl (zf yc rfl sz41 rfl rfl)<|e_uw 1 rfl rfl (zb 2 ty41 rfl rfl (.t2 .nil))<|e_pv 2 rfl rfl (zf yc rfl sz41 rfl rfl)<|e_uw 3 rfl rfl (zb 1 ty41 rfl rfl (.s2 (.t2 .nil)))<|e_pv 5 rfl rfl (zf yc rfl sz41 rfl rfl)<|e_uw 6 rfl rfl (zb 1 ty41 rfl rfl (.t2 .nil))<|e_pv 7 rfl rfl (zf yc rfl sz41 rfl rfl)<|e_uw 8 rfl rfl (zb 2 ty41 rfl rfl (.s2 (.t2 .nil)))<|e_pv 11 rfl rfl (zf yc rfl sz41 rfl rfl)<|e_uw 12 rfl rfl (zb 2 ty41 rfl rfl (.s2 (.t2 .nil)))<|e_pv 13 rfl rfl (zf yc rfl sz41 rfl rfl)<|e_uw 14 rfl rfl (zb 1 ty41 rfl rfl (.s2 (.t2 .nil)))<|zqb (qF_open 1 rfl) (fun _ _=> ?_)
 refine zqb (qF_open 2 rfl) (fun _ _=> ?_)
 refine e_one 4 (zx rfl rfl rfl rfl (.c rfl (.c rfl .n)) ce73 (zKb (w1:=w34) (w2:=w48) (x1:=(q1).num) (x2:=(((q2).den:Nat):Int)) (hb1:=by first|rfl|assumption|omega|(rw [yf];omega)|(decide +kernel)) (hb2:=by first|rfl|assumption|omega|(rw [yf];omega)|(decide +kernel))) (.c (j:=2) rfl (.c (j:=1) rfl .n)) ?_)
 rintro w310 -
 dsimp only [aq,nq,cq]
 refine e_one 9 (zx rfl rfl rfl rfl (.c rfl (.c rfl .n)) ce73 (zKb (w1:=w37) (w2:=w45) (x1:=(q2).num) (x2:=(((q1).den:Nat):Int)) (hb1:=by first|rfl|assumption|omega|(rw [yf];omega)|(decide +kernel)) (hb2:=by first|rfl|assumption|omega|(rw [yf];omega)|(decide +kernel))) (.c (j:=1) rfl (.c (j:=4) rfl .n)) ?_)
 rintro w311 -
 dsimp only [aq,nq,cq]
 refine e_one 10 (zx rfl rfl rfl rfl (.c rfl (.c rfl .n)) ce108 (zzf (w1:=w310) (w2:=w311) (x1:=((q1).num)*(((q2).den:Nat):Int)) (x2:=((q2).num)*(((q1).den:Nat):Int)) (hb1:=by first|rfl|assumption|omega|(rw [yf];omega)|(decide +kernel)) (hb2:=by first|rfl|assumption|omega|(rw [yf];omega)|(decide +kernel))) (.c (j:=1) rfl (.c (j:=0) rfl .n)) ?_)
 rintro w312 -
 dsimp only [aq,nq,cq]
 refine e_one 15 (zx rfl rfl rfl rfl (.c rfl (.c rfl .n)) ce73 (zKb (w1:=w45) (w2:=w48) (x1:=(((q1).den:Nat):Int)) (x2:=(((q2).den:Nat):Int)) (hb1:=by first|rfl|assumption|omega|(rw [yf];omega)|(decide +kernel)) (hb2:=by first|rfl|assumption|omega|(rw [yf];omega)|(decide +kernel))) (.c (j:=6) rfl (.c (j:=4) rfl .n)) ?_)
 rintro w313 -
 dsimp only [aq,nq,cq]
 refine e_one 16 (zx rfl rfl rfl rfl (.c rfl (.c rfl .n)) ce72 (zLb (w1:=w312) (w2:=w313) (x1:=(((q1).num)*(((q2).den:Nat):Int))+(((q2).num)*(((q1).den:Nat):Int))) (x2:=(((q1).den:Nat):Int)*(((q2).den:Nat):Int)) (hl1:=by first|rfl|assumption|omega|(rw [yf];omega)|(decide +kernel)) (hl2:=by first|rfl|assumption|omega|(rw [yf];omega)|(decide +kernel)) (hd:=by exact Int.mul_ne_zero (Big.den_ne q1) (Big.den_ne q2))) (.c (j:=1) rfl (.c (j:=0) rfl .n)) ?_)
 rintro ⟨w314,w415⟩ -
 dsimp only [aq,nq,cq]
 refine e_one 17 (zr kr rfl rfl rfl rfl rfl sz43 rfl (.t4 .nil) ?_)
 refine zU kr<|zd<|zK ?_
 exact zt Tryz.results70 (w314,w415) trivial (zq 0 ty43 rfl rfl (.t4 .nil)) rfl (ho:=(.n:PickO _ _ _)) ((.e (j:=0) rfl (by rw [Big.add_parts]) .n):SelR _ _ _)
theorem zNd {k1:Bool} {u1:Wd} {v1:Wd} {q1:Rat} {k2:Bool} {u2:Wd} {v2:Wd} {q2:Rat} (hl:ym q1+ym q2+1≤1048576):Con ye 25 [.agg #[u1.b,u1.l,v1.b,v1.l],.agg #[u2.b,u2.l,v2.b,v2.l]] [] [qF k1 u1 v1 q1,qF k2 u2 v2 q2] (Y:=Wd×Wd) (fun y=>True) (fun y=> .agg #[y.1.b,y.1.l,y.2.b,y.2.l]) (fun y=>[]) (fun y=>[qF true y.1 y.2 (q1*q2)]):=by
 refine zl Tryz.func25 rfl rfl rfl (fun c=> ?_)
 show RunC _ _ _ _ _ [(0,.agg #[u1.b,u1.l,v1.b,v1.l]),(1,.agg #[u2.b,u2.l,v2.b,v2.l])] [] [qF k1 u1 v1 q1,qF k2 u2 v2 q2]
 have a1:=yi q1
 have a2:=yj q1
 have a3:=yi q2
 have a4:=yj q2
 have b1:=yq q1.num q2.den
 have b2:=yq q2.num q1.den
 have b3:=Big.zNc (q1.num*q2.den) (q2.num*q1.den)
 have b4:=yq (q1.den:Int) q2.den
 have b5:=yq q1.num q2.num
 refine zg<|za<|zM rfl rfl (zQ rfl rfl) (fun b1=> ?_)
 refine zM rfl rfl (zQ rfl rfl) (fun b2=> ?_)
 refine zM rfl rfl (zo zr43 rfl) (fun b3=> ?_)
 refine zh<|zd<|zg<|za<|e_ru (zb 2 ty43 rfl rfl (.t4 .nil))<|zD rfl rfl (.c rfl .n) ce68 (zUa (k1:=k1) (u1:=u1) (v1:=v1) (q1:=q1)) (.c (j:=0) rfl .n) ?_
 rintro ⟨w34,w45⟩ -
 dsimp only [aq,nq,cq]
 refine zM rfl rfl (zo zr43 rfl) (fun b6=> ?_)
 refine zm 0 rfl rfl rfl rfl rfl sz43 rfl (.t4 .nil) .z<|zh<|zd<|zg<|za<|e_ru (zb 2 ty43 rfl rfl (.t4 .nil))<|zD rfl rfl (.c rfl .n) ce68 (zUa (k1:=k2) (u1:=u2) (v1:=v2) (q1:=q2)) (.c (j:=2) rfl .n) ?_
 rintro ⟨w37,w48⟩ -
 dsimp only [aq,nq,cq]
 refine zM rfl rfl (zo zr43 rfl) (fun b9=> ?_)
 refine zm 0 rfl rfl rfl rfl rfl sz43 rfl (.t4 .nil) .z<|zh<|zd<|zg<|zsa (.c (i:=2) rfl (.c (i:=0) rfl (.c (i:=0) rfl (.c (i:=0) rfl (.c (i:=0) rfl .n)))))<|zY (OW:=[boxA b3 43 (cw [wz,wz])]) (O:=[boxA b9 43 (cw [w37,w48]),boxA b6 43 (cw [w34,w45]),boxA b2 43 (cw [u2,v2]),boxA b1 43 (cw [u1,v1])]) 11 mixed (.then .ret) kr<|e_pv 0 rfl rfl (zf yc rfl sz41 rfl rfl)<|e_uw 1 rfl rfl (zb 2 ty41 rfl rfl (.t2 .nil))<|e_pv 2 rfl rfl (zf yc rfl sz41 rfl rfl)<|e_uw 3 rfl rfl (zb 1 ty41 rfl rfl (.t2 .nil))<|e_pv 5 rfl rfl (zf yc rfl sz41 rfl rfl)<|e_uw 6 rfl rfl (zb 2 ty41 rfl rfl (.s2 (.t2 .nil)))<|e_pv 7 rfl rfl (zf yc rfl sz41 rfl rfl)<|e_uw 8 rfl rfl (zb 1 ty41 rfl rfl (.s2 (.t2 .nil)))<|zqb (qF_open 1 rfl) (fun _ _=> ?_)
 refine zqb (qF_open 2 rfl) (fun _ _=> ?_)
 refine e_one 4 (zx rfl rfl rfl rfl (.c rfl (.c rfl .n)) ce73 (zKb (w1:=w34) (w2:=w37) (x1:=(q1).num) (x2:=(q2).num) (hb1:=by first|rfl|assumption|omega|(rw [yf];omega)|(decide +kernel)) (hb2:=by first|rfl|assumption|omega|(rw [yf];omega)|(decide +kernel))) (.c (j:=2) rfl (.c (j:=0) rfl .n)) ?_)
 rintro w310 -
 dsimp only [aq,nq,cq]
 refine e_one 9 (zx rfl rfl rfl rfl (.c rfl (.c rfl .n)) ce73 (zKb (w1:=w45) (w2:=w48) (x1:=(((q1).den:Nat):Int)) (x2:=(((q2).den:Nat):Int)) (hb1:=by first|rfl|assumption|omega|(rw [yf];omega)|(decide +kernel)) (hb2:=by first|rfl|assumption|omega|(rw [yf];omega)|(decide +kernel))) (.c (j:=4) rfl (.c (j:=2) rfl .n)) ?_)
 rintro w311 -
 dsimp only [aq,nq,cq]
 refine e_one 10 (zx rfl rfl rfl rfl (.c rfl (.c rfl .n)) ce72 (zLb (w1:=w310) (w2:=w311) (x1:=((q1).num)*((q2).num)) (x2:=(((q1).den:Nat):Int)*(((q2).den:Nat):Int)) (hl1:=by first|rfl|assumption|omega|(rw [yf];omega)|(decide +kernel)) (hl2:=by first|rfl|assumption|omega|(rw [yf];omega)|(decide +kernel)) (hd:=by exact Int.mul_ne_zero (Big.den_ne q1) (Big.den_ne q2))) (.c (j:=1) rfl (.c (j:=0) rfl .n)) ?_)
 rintro ⟨w312,w413⟩ -
 dsimp only [aq,nq,cq]
 refine e_one 11 (zr kr rfl rfl rfl rfl rfl sz43 rfl (.t4 .nil) ?_)
 refine zU kr<|zd<|zK ?_
 exact zt Tryz.results25 (w312,w413) trivial (zq 0 ty43 rfl rfl (.t4 .nil)) rfl (ho:=(.n:PickO _ _ _)) ((.e (j:=0) rfl (by rw [Big.mul_parts]) .n):SelR _ _ _)
theorem zOd {k1:Bool} {u1:Wd} {v1:Wd} {q1:Rat} {k2:Bool} {u2:Wd} {v2:Wd} {q2:Rat} (hl:ym q1+ym q2+1≤1048576):Con ye 71 [.agg #[u1.b,u1.l,v1.b,v1.l],.agg #[u2.b,u2.l,v2.b,v2.l]] [] [qF k1 u1 v1 q1,qF k2 u2 v2 q2] (Y:=Wd×Wd) (fun y=>True) (fun y=> .agg #[y.1.b,y.1.l,y.2.b,y.2.l]) (fun y=>[]) (fun y=>[qF true y.1 y.2 (q1 - q2)]):=by
 refine zl Tryz.func71 rfl rfl rfl (fun c=> ?_)
 show RunC _ _ _ _ _ [(0,.agg #[u1.b,u1.l,v1.b,v1.l]),(1,.agg #[u2.b,u2.l,v2.b,v2.l])] [] [qF k1 u1 v1 q1,qF k2 u2 v2 q2]
 have a1:=yi q1
 have a2:=yj q1
 have a3:=yi q2
 have a4:=yj q2
 refine zg<|za<|zM rfl rfl (zQ rfl rfl) (fun b1=> ?_)
 refine zM rfl rfl (zQ rfl rfl) (fun b2=> ?_)
 refine zM rfl rfl (zo zr43 rfl) (fun b3=> ?_)
 refine zh<|zd<|zg<|zY (OW:=[boxA b3 43 (cw [wz,wz])]) (O:=[boxA b2 43 (cw [u2,v2]),boxA b1 43 (cw [u1,v1])]) 4 mixed (.then .ret) kr<|e_uw 0 rfl rfl (zb 2 ty43 rfl rfl (.t4 .nil))<|e_uw 1 rfl rfl (zb 1 ty43 rfl rfl (.t4 .nil))<|e_one 2 (zx rfl rfl rfl rfl (.c rfl .n) ce67 (zCf (k1:=k2) (u1:=u2) (v1:=v2) (q1:=q2) (hl:=by first|rfl|assumption|omega|(rw [yf];omega)|(decide +kernel)|(rw [Big.hq_neg];omega))) (.c (j:=1) rfl .n) ?_)
 rintro ⟨w34,w45⟩ -
 dsimp only [aq,nq,cq]
 refine e_one 3 (zx rfl rfl rfl rfl (.c rfl (.c rfl .n)) ce70 (zMd (k1:=k1) (u1:=u1) (v1:=v1) (q1:=q1) (k2:=true) (u2:=w34) (v2:=w45) (q2:= - q2) (hl:=by first|rfl|assumption|omega|(rw [yf];omega)|(decide +kernel)|(rw [Big.hq_neg];omega))) (.c (j:=1) rfl (.c (j:=0) rfl .n)) ?_)
 rintro ⟨w36,w47⟩ -
 dsimp only [aq,nq,cq]
 refine e_one 4 (zr kr rfl rfl rfl rfl rfl sz43 rfl (.t4 .nil) ?_)
 refine zU kr<|zd<|zK ?_
 exact zt Tryz.results71 (w36,w47) trivial (zq 0 ty43 rfl rfl (.t4 .nil)) rfl (ho:=(.n:PickO _ _ _)) ((.e (j:=0) rfl (by rw [Rat.sub_eq_add_neg]) .n):SelR _ _ _)
theorem zsd {k1:Bool} {u1:Wd} {v1:Wd} {q1:Rat} {k2:Bool} {u2:Wd} {v2:Wd} {q2:Rat} (hl:ym q1+ym q2+1≤1048576):Con ye 27 [.agg #[u1.b,u1.l,v1.b,v1.l],.agg #[u2.b,u2.l,v2.b,v2.l]] [] [qF k1 u1 v1 q1,qF k2 u2 v2 q2] (Y:=Unit) (fun y=>True) (fun y=> .int .i64 (Big.sgq (q1 - q2))) (fun y=>[]) (fun y=>[]):=by
 refine zl Tryz.func27 rfl rfl rfl (fun c=> ?_)
 show RunC _ _ _ _ _ [(0,.agg #[u1.b,u1.l,v1.b,v1.l]),(1,.agg #[u2.b,u2.l,v2.b,v2.l])] [] [qF k1 u1 v1 q1,qF k2 u2 v2 q2]
 have hsb:=Big.hq_sub q1 q2
 refine zg<|za<|zM rfl rfl (zQ rfl rfl) (fun b1=> ?_)
 refine zM rfl rfl (zQ rfl rfl) (fun b2=> ?_)
 refine e_p (zc rfl)<|zh<|zd<|zg<|za<|e_ru (zb 1 ty43 rfl rfl (.t4 .nil))<|e_ru (zb 0 ty43 rfl rfl (.t4 .nil))<|zD rfl rfl (.c rfl (.c rfl .n)) ce71 (zOd (k1:=k1) (u1:=u1) (v1:=v1) (q1:=q1) (k2:=k2) (u2:=u2) (v2:=v2) (q2:=q2) (hl:=ass)) (.c (j:=0) rfl (.c (j:=1) rfl .n)) ?_
 rintro ⟨w33,w44⟩ -
 dsimp only [aq,nq,cq]
 refine zL rfl rfl (.c rfl .n) ce66 (zOe (k1:=true) (u1:=w33) (v1:=w44) (q1:=q1 - q2) (hl:=by first|rfl|assumption|omega|(rw [yf];omega)|(decide +kernel))) (.c (j:=0) rfl .n)<|e_p (zc rfl)<|zh<|zd<|zK ?_
 exact zt Tryz.results27 () trivial (zk rfl) rfl (ho:=(.n:PickO _ _ _)) (.n:SelR _ _ _)
theorem zPe {u1:Wd} {v1:Wd} {q1:Rat} {u2:Wd} {v2:Wd} {q2:Rat} (hl:ym q1+ym q2+1≤1048576):Con ye 44 [.agg #[u1.b,u1.l,v1.b,v1.l],.agg #[u2.b,u2.l,v2.b,v2.l]] [] [qF true u1 v1 q1,qF true u2 v2 q2] (Y:=Unit) (fun y=>True) (fun y=> .bool (decide (q1=q2))) (fun y=>[]) (fun y=>[]):=by
 refine zl Tryz.func44 rfl rfl rfl (fun c=> ?_)
 show RunC _ _ _ _ _ [(0,.agg #[u1.b,u1.l,v1.b,v1.l]),(1,.agg #[u2.b,u2.l,v2.b,v2.l])] [] [qF true u1 v1 q1,qF true u2 v2 q2]
 refine zg<|za<|zM rfl rfl (zQ rfl rfl) (fun b1=> ?_)
 refine zM rfl rfl (zQ rfl rfl) (fun b2=> ?_)
 refine e_p (zc rfl)<|zh<|zd<|zGa (X:=Unit) (fun x=>True) (fun x=>[(4,.bool (decide (Big.sgq (q1 - q2)=0)))]) (fun x=>[boxA b2 43 (cw [u2,v2]),boxA b1 43 (cw [u1,v1])]) (fun x=>[qF true u1 v1 q1,qF true u2 v2 q2]) ?_ ?_
 ·
  refine za<|e_ru (zb 1 ty43 rfl rfl (.t4 .nil))<|zL rfl rfl (.c rfl .n) ce88 (zBc (u1:=u1) (v1:=v1) (q1:=q1)) (.c (j:=0) rfl .n)<|e_mv rfl<|e_ru (zb 0 ty43 rfl rfl (.t4 .nil))<|zL rfl rfl (.c rfl .n) ce88 (zBc (u1:=u2) (v1:=v2) (q1:=q2)) (.c (j:=1) rfl .n)<|e_p (zn rfl rfl)<|e_mv rfl<|e_ru (zb 1 ty43 rfl rfl (.t4 .nil))<|e_ru (zb 0 ty43 rfl rfl (.t4 .nil))<|zL rfl rfl (.c rfl (.c rfl .n)) ce27 (zsd (k1:=true) (u1:=u1) (v1:=v1) (q1:=q1) (k2:=true) (u2:=u2) (v2:=v2) (q2:=q2) (hl:=ass)) (.c (j:=0) rfl (.c (j:=1) rfl .n))<|e_p (zya rfl rfl)<|e_p (zn rfl rfl)<|e_p (zc rfl)<|zh ?_
  exact zfa () (show True from by first|trivial|omega|simp_all) ((.c rfl .n):SubM _ _) (ho:=((.of [0,0] rfl):PickO _ _ _)) ((.of [0,1] rfl):SelR _ _ _)
 ·
  rintro ⟨⟩ -
  try dsimp only [cw]
  refine zK ?_
  exact zt Tryz.results44 () trivial (zk rfl) (congrArg Value.bool (decide_eq_decide.2 Big.sgq_sub_zero.symm)) (ho:=(.n:PickO _ _ _)) (.n:SelR _ _ _)
end Go.Proofs.YtjcpbhlijoigfaaGreat.Sp
namespace Go.Proofs.YtjcpbhlijoigfaaGreat.Sp
open Go
set_option linter.unusedVariables false
set_option maxRecDepth 100000
set_option maxHeartbeats 8000000
theorem zwg {z1:Int} {z2:Int} (hz1: -9223372036854775808≤z1∧z1≤9223372036854775807) (hz2: -9223372036854775808≤z2∧z2≤9223372036854775807) (hy:z2≠0):Con ye 69 [.int .i64 z1,.int .i64 z2] [] [] (Y:=Wd×Wd) (fun y=>True) (fun y=> .agg #[y.1.b,y.1.l,y.2.b,y.2.l]) (fun y=>[]) (fun y=>[qF true y.1 y.2 (Rat.divInt z1 z2)]):=by
 refine zl Tryz.func69 rfl rfl rfl (fun c=> ?_)
 show RunC _ _ _ _ _ [(0,.int .i64 z1),(1,.int .i64 z2)] [] []
 refine zg<|za<|zM rfl rfl (zo zr43 rfl) (fun b1=> ?_)
 refine zh<|zd<|zg<|za<|e_mv rfl<|e_mv rfl<|zD rfl rfl (.c rfl (.c rfl .n)) ce107 (zNe (z1:=z1) (z2:=z2) (hz1:=ass) (hz2:=ass) (hy:=ass)) (.n) ?_
 rintro ⟨w32,w43⟩ -
 dsimp only [aq,nq,cq]
 refine e_mv rfl<|e_p (zp rfl rfl)<|e_p (zp rfl rfl)<|zM rfl rfl (zo zr43 rfl) (fun b4=> ?_)
 refine zm 0 rfl rfl rfl rfl rfl sz43 rfl (.t4 .nil) .z<|e_p (zc rfl)<|zh<|zd<|zg<|za<|e_ru (zb 0 ty43 rfl rfl (.t4 .nil))<|zm 1 rfl rfl rfl rfl rfl sz43 rfl (.t4 .nil) (.s .z)<|zh<|zd<|zK ?_
 exact zt Tryz.results69 (w32,w43) trivial (zq 1 ty43 rfl rfl (.t4 .nil)) rfl (ho:=(.n:PickO _ _ _)) ((.c (j:=0) rfl .n):SelR _ _ _)
theorem zDf {p:Option Addr} {n:Nat} {cap:Nat} {l:List Pg.Q2} {K:Nat} (hn:l.length=n) (hbq:Pg.bq K l) (hK:4*K+1≤500000) (hz:∀i,i≤n→ym (Pg.szN n l i)≤500000):Con ye 24 [.slice p n cap] [] [slF rR p cap l] (Y:=Wd×Wd) (fun y=>True) (fun y=> .agg #[y.1.b,y.1.l,y.2.b,y.2.l]) (fun y=>[]) (fun y=>[qF true y.1 y.2 (Pg.sz l)]):=by
 refine zl Tryz.func24 rfl rfl rfl (fun c=> ?_)
 show RunC _ _ _ _ _ [(0,.slice p n cap)] [] [slF rR p cap l]
 refine zda 0 rfl (fun hL0=> ?_)
 refine zg<|za<|zM rfl rfl (zo zr43 rfl) (fun b1=> ?_)
 refine zh<|zd<|zg<|za<|zD rfl rfl (.c rfl (.c rfl .n)) ce69 (zwg (z1:=0) (z2:=1) (hz1:=by first|rfl|assumption|omega|decide) (hz2:=by first|rfl|assumption|omega|decide) (hy:=by first|rfl|assumption|omega|decide)) (.n) ?_
 rintro ⟨w32,w43⟩ -
 dsimp only [aq,nq,cq]
 refine zM rfl rfl (zo zr43 rfl) (fun b4=> ?_)
 refine zm 0 rfl rfl rfl rfl rfl sz43 rfl (.t4 .nil) .z<|zh<|zd<|zg<|zg ?_
 have e5:Rat.divInt 0 1=(Pg.szN n l 0):=by exact Pg.d01
 rw [e5]
 refine za<|e_p (zc rfl)<|zh<|zd<|zB<|zma (X:=Nat×Wd×Wd) (fun x:Nat×Wd×Wd=>x.1≤n) (fun x=>[(4,.int .i64 ((x.1:Nat):Int)),(3,.pointer (some ⟨b4,0,none⟩)),(2,.pointer (some ⟨b1,0,none⟩)),(0,.slice p n cap)]) (fun x=>[boxA b4 43 (cw [x.2.1,x.2.2]),boxA b1 43 (cw [wz,wz])]) (fun x=>[qF true x.2.1 x.2.2 (Pg.szN n l x.1),qF true w32 w43 (Pg.szN n l 0),slF rR p cap l]) (fun x:Nat×Wd×Wd=>n - x.1) (0,w32,w43) (show 0≤n from by exact Nat.zero_le _) ((.e rfl (by first|rfl|(congr 1;omega)|simp_all) (.of rfl)):SubM _ _) (ho:=((.of [0,0] rfl):PickO _ _ _)) ((.of [0,0,1] rfl):SelR _ _ _) ?_
 rintro ⟨k,wk1,wk2⟩ hI
 replace hI:k≤n:=hI
 try dsimp only [cw]
 refine zg<|zg<|za<|e_mv rfl<|e_mv rfl<|e_p (zN yh rfl)<|e_p (zZ rfl rfl)<|zh<|zd<|zE rfl (fun h6=> ?_) (fun h6=> ?_)
 ·
  have hm1:(k+1)%n<n:=Nat.mod_lt _ om
  have hpi:Pg.hp K (l.getD k ((0:Rat),(0:Rat))):=Pg.bq_at hbq om
  have hpj:Pg.hp K (l.getD ((k+1)%n) ((0:Rat),(0:Rat))):=Pg.bq_at hbq om
  obtain ⟨hb1,hb2,hb3⟩:=Pg.pb hpi hpj
  obtain ⟨hpi1,hpi2⟩:=id hpi
  obtain ⟨hpj1,hpj2⟩:=id hpj
  have hzk:=hz k om
  have hb4:ym ((l.getD k ((0:Rat),(0:Rat))).1*(l.getD ((k+1)%n) ((0:Rat),(0:Rat))).2 - (l.getD ((k+1)%n) ((0:Rat),(0:Rat))).1*(l.getD k ((0:Rat),(0:Rat))).2)≤2*(K+K)+1:=hb3
  refine zA<|zd<|zg<|zB<|zg<|za<|e_mv rfl<|e_mv rfl<|e_p (zI (z:=(((k+1):Nat):Int)) rfl rfl (w64 om))<|e_mv rfl<|e_p (zN yh rfl)<|e_p (zwa (z:=((((k+1)%n):Nat):Int)) rfl rfl om (remN om om))<|r_vl rfl rfl (zwb (x0:=(l.getD ((k+1)%n) ((0:Rat),(0:Rat)))) 2 ((k+1)%n) rfl yh sz69 rfl cbs rfl rfl (gD (d:=((0:Rat),(0:Rat))) om)) ?_
  rintro ⟨b7,o8,w9,w10,w11,w12⟩ -
  dsimp only [aq,nq,cq]
  refine zhf open_rR<|e_ru (zJ (j:=0) 0 ty69 rfl rfl rfl (.t8 .nil))<|zM rfl rfl (zo zr69 rfl) (fun b13=> ?_)
  refine zm 0 rfl rfl rfl rfl rfl sz69 rfl (.t8 .nil) .z<|zh<|zd<|zsa (.c (i:=1) rfl (.c (i:=0) rfl (.c (i:=0) rfl .n)))<|zY (OW:=[boxA b4 43 (cw [wk1,wk2])]) (O:=[boxA b13 69 (cw [w9,w10,w11,w12]),boxA b1 43 (cw [wz,wz])]) 19 mixed (.block (.then (.then (.block (.then .ret))))) kr<|e_uw 0 rfl rfl (zb 0 ty43 rfl rfl (.t4 .nil))<|e_dm 1 rfl rfl rfl<|e_dm 2 rfl rfl rfl<|d_vl 3 rfl rfl kr kr rfl rfl (zwb (x0:=(l.getD k ((0:Rat),(0:Rat)))) 5 k rfl yh sz69 rfl cbs rfl rfl (gD (d:=((0:Rat),(0:Rat))) om)) ?_
  rintro ⟨b14,o15,w16,w17,w18,w19⟩ -
  dsimp only [aq,nq,cq]
  refine zcg open_rR<|e_pv 4 rfl rfl (zf yk rfl sz43 rfl rfl)<|e_u 5 rfl rfl (zJ (j:=0) 0 ty43 rfl rfl rfl (.t4 .nil))<|e_pv 6 rfl rfl (zf yk rfl sz43 rfl rfl)<|e_uw 7 rfl rfl (zb 1 ty43 rfl rfl (.s4 (.t4 .nil)))<|e_pv 9 rfl rfl (zf yk rfl sz43 rfl rfl)<|e_uw 10 rfl rfl (zb 1 ty43 rfl rfl (.t4 .nil))<|e_dm 11 rfl rfl rfl<|e_dm 12 rfl rfl rfl<|d_vl 13 rfl rfl kr kr rfl rfl (zwb (x0:=(l.getD k ((0:Rat),(0:Rat)))) 8 k rfl yh sz69 rfl cbs rfl rfl (gD (d:=((0:Rat),(0:Rat))) om)) ?_
  rintro ⟨b20,o21,w22,w23,w24,w25⟩ -
  dsimp only [aq,nq,cq]
  refine zcg open_rR<|e_pv 14 rfl rfl (zf yk rfl sz43 rfl rfl)<|e_u 15 rfl rfl (zJ (j:=4) 0 ty43 rfl rfl rfl (.s4 (.t4 .nil)))<|e_one 8 (zx rfl rfl rfl rfl (.c rfl (.c rfl .n)) ce25 (zNd (k1:=true) (u1:=w16) (v1:=w17) (q1:=(l.getD k ((0:Rat),(0:Rat))).1) (k2:=true) (u2:=w11) (v2:=w12) (q2:=(l.getD ((k+1)%n) ((0:Rat),(0:Rat))).2) (hl:=by first|rfl|assumption|omega|decide)) (.c (j:=4) rfl (.c (j:=8) rfl .n)) ?_)
  rintro ⟨w326,w427⟩ -
  dsimp only [aq,nq,cq]
  refine e_one 16 (zx rfl rfl rfl rfl (.c rfl (.c rfl .n)) ce25 (zNd (k1:=true) (u1:=w9) (v1:=w10) (q1:=(l.getD ((k+1)%n) ((0:Rat),(0:Rat))).1) (k2:=true) (u2:=w24) (v2:=w25) (q2:=(l.getD k ((0:Rat),(0:Rat))).2) (hl:=by first|rfl|assumption|omega|decide)) (.c (j:=8) rfl (.c (j:=3) rfl .n)) ?_)
  rintro ⟨w328,w429⟩ -
  dsimp only [aq,nq,cq]
  refine e_one 17 (zx rfl rfl rfl rfl (.c rfl (.c rfl .n)) ce71 (zOd (k1:=true) (u1:=w326) (v1:=w427) (q1:=((l.getD k ((0:Rat),(0:Rat))).1)*((l.getD ((k+1)%n) ((0:Rat),(0:Rat))).2)) (k2:=true) (u2:=w328) (v2:=w429) (q2:=((l.getD ((k+1)%n) ((0:Rat),(0:Rat))).1)*((l.getD k ((0:Rat),(0:Rat))).2)) (hl:=by first|rfl|assumption|omega|decide)) (.c (j:=1) rfl (.c (j:=0) rfl .n)) ?_)
  rintro ⟨w330,w431⟩ -
  dsimp only [aq,nq,cq]
  refine e_one 18 (zx rfl rfl rfl rfl (.c rfl (.c rfl .n)) ce70 (zMd (k1:=true) (u1:=wk1) (v1:=wk2) (q1:=(Pg.szN n l k)) (k2:=true) (u2:=w330) (v2:=w431) (q2:=(((l.getD k ((0:Rat),(0:Rat))).1)*((l.getD ((k+1)%n) ((0:Rat),(0:Rat))).2)) - (((l.getD ((k+1)%n) ((0:Rat),(0:Rat))).1)*((l.getD k ((0:Rat),(0:Rat))).2))) (hl:=by first|rfl|assumption|omega|decide)) (.c (j:=12) rfl (.c (j:=0) rfl .n)) ?_)
  rintro ⟨w332,w433⟩ -
  dsimp only [aq,nq,cq]
  refine e_one 19 (zr kr rfl rfl rfl rfl rfl sz43 rfl (.t4 .nil) ?_)
  refine zU kr<|zO<|zd<|za<|e_mv rfl<|e_p (zI (z:=(((k+1):Nat):Int)) rfl rfl (w64 om))<|e_p (zc rfl)<|zh<|zga ((k+1),w332,w433) (show (k+1)≤n from by show k+1≤n;omega) (by show n - (k+1)<n - k;omega) ((.of rfl):SubM _ _) (ho:=((.of [0,1] rfl):PickO _ _ _)) ((.e (j:=0) rfl (by first|rfl|simp_all) (.of [14,15] rfl)):SelR _ _ _)
 ·
  refine zla<|zj<|zj<|zw<|zd<|zg<|za<|e_ru (zb 0 ty43 rfl rfl (.t4 .nil))<|zm 1 rfl rfl rfl rfl rfl sz43 rfl (.t4 .nil) (.s .z)<|zh<|zd<|zK ?_
  exact zt Tryz.results24 (wk1,wk2) trivial (zq 1 ty43 rfl rfl (.t4 .nil)) rfl (ho:=(.n:PickO _ _ _)) ((.e (j:=0) rfl (by rw [show k=n by omega,Pg.sz,hn]) .n):SelR _ _ _)
theorem zQe {p1:Option Addr} {n1:Nat} {c1:Nat} {l1:List (Int×Int×Int)} {p2:Option Addr} {n2:Nat} {c2:Nat} {l2:List (Int×Int×Int)} (hn1:l1.length=n1) (hn2:l2.length=n2):Con ye 32 [.slice p1 n1 c1,.slice p2 n2 c2] [] [slF (rI3 .i64) p1 c1 l1,slF (rI3 .i64) p2 c2 l2] (Y:=Unit) (fun y=>True) (fun y=> .bool (decide (l1=l2))) (fun y=>[]) (fun y=>[]):=by
 refine zl Tryz.func32 rfl rfl rfl (fun c=> ?_)
 show RunC _ _ _ _ _ [(0,.slice p1 n1 c1),(1,.slice p2 n2 c2)] [] [slF (rI3 .i64) p1 c1 l1,slF (rI3 .i64) p2 c2 l2]
 refine zda 0 rfl (fun hL0=> ?_)
 refine zda 1 rfl (fun hL1=> ?_)
 refine zg<|za<|e_p (zc rfl)<|zh<|zd<|zg<|zg<|za<|e_mv rfl<|e_p (zN yg rfl)<|e_mv rfl<|e_p (zN yg rfl)<|e_p (znb rfl rfl)<|zh<|zd<|zE rfl (fun hlen=> ?_) (fun hlen=> ?_)
 ·
  refine zg<|za<|e_p (zc rfl)<|zh<|zd<|zK<|zi ?_
  exact zt Tryz.results32 () trivial (zk rfl) (congrArg Value.bool (decide_eq_false (fun h=>hlen (by rw [← hn1,←hn2,h])))) (ho:=(.n:PickO _ _ _)) (.n:SelR _ _ _)
 ·
  refine zA<|zd<|zg<|zg<|za<|e_mv rfl<|e_p (zN yg rfl)<|e_mv rfl<|zh<|zd<|zB<|zma (X:=Nat) (fun x:Nat=>x≤n1∧∀j,j<x→l1.getD j (0,0,0)=l2.getD j (0,0,0)) (fun x=>[(13,.int .i64 ((x:Nat):Int)),(12,.int .i64 ((n1:Nat):Int)),(0,.slice p1 n1 c1),(1,.slice p2 n2 c2)]) (fun x=>[]) (fun x=>[slF (rI3 .i64) p1 c1 l1,slF (rI3 .i64) p2 c2 l2]) (fun x:Nat=>n1 - x) 0 (show 0≤n1∧∀j,j<0→l1.getD j (0,0,0)=l2.getD j (0,0,0) from by exact ⟨by omega,fun j h=>by omega⟩) ((.e rfl (by first|rfl|(congr 1;omega)|simp_all) (.of rfl)):SubM _ _) (ho:=(.n:PickO _ _ _)) ((.of [0,1] rfl):SelR _ _ _) ?_
  rintro i hI
  replace hI:i≤n1∧∀j,j<i→l1.getD j (0,0,0)=l2.getD j (0,0,0):=hI
  try dsimp only
  obtain ⟨hi,hall⟩:=hI
  refine zg<|za<|e_p (zZ rfl rfl)<|zh<|zd<|zg<|zE rfl (fun h1=> ?_) (fun h1=> ?_)
  ·
   refine zA<|zd<|zg<|zB<|zg<|za<|e_mv rfl<|e_p (zc rfl)<|zh<|zd<|zg<|zY (OW:=[]) (O:=[]) 100000 mixed (.then (.block (.then (.then (.block (.then .ret)))))) kr<|e_dm 0 rfl rfl rfl<|e_dm 1 rfl rfl rfl<|zia (x0:=(l1.getD i (0,0,0))) 2 rfl rfl kr kr 0 i rfl yg sz50 rfl rfl rfl cbs rfl rfl (gD (d:=(0,0,0)) om) (fun b2 o3 hok4=> ?_)
   obtain ⟨hok4x,hok4y,hok4z⟩:=hok4
   replace hok4x:=zG.1 hok4x
   replace hok4y:=zG.1 hok4y
   replace hok4z:=zG.1 hok4z
   refine e_u 3 rfl rfl (zJ (j:=0) 0 ty50 rfl rfl rfl (.t2 (.take .nil)))<|e_dm 4 rfl rfl rfl<|e_dm 5 rfl rfl rfl<|zia (x0:=(l2.getD i (0,0,0))) 6 rfl rfl kr kr 2 i rfl yg sz50 rfl rfl rfl cbs rfl rfl (gD (d:=(0,0,0)) om) (fun b5 o6 hok7=> ?_)
   obtain ⟨hok7x,hok7y,hok7z⟩:=hok7
   replace hok7x:=zG.1 hok7x
   replace hok7y:=zG.1 hok7y
   replace hok7z:=zG.1 hok7z
   refine e_u 7 rfl rfl (zJ (j:=0) 0 ty50 rfl rfl rfl (.t2 (.take .nil)))<|e_pv 8 rfl rfl (zDe (p:=(l1.getD i (0,0,0)).1=(l2.getD i (0,0,0)).1∧(l1.getD i (0,0,0)).2.1=(l2.getD i (0,0,0)).2.1∧(l1.getD i (0,0,0)).2.2=(l2.getD i (0,0,0)).2.2) kr rfl rfl (zXe yd sz3 (zVd ty3 rfl rfl (zMc yo) (zVd ty3 rfl rfl (zMc yo) (zVd ty3 rfl rfl (zMc yo) zkg)))) (by simp [Bool.decide_and]))<|zU kr<|zd<|zE rfl (fun hd=> ?_) (fun hd=> ?_)
   ·
    refine zg<|za<|e_p (zc rfl)<|zh<|zd<|zK<|zv<|zi<|zi<|zv<|zi ?_
    exact zt Tryz.results32 () trivial (zk rfl) (congrArg Value.bool (decide_eq_false (fun h=>hd (by simp [h])))) (ho:=(.n:PickO _ _ _)) (.n:SelR _ _ _)
   ·
    refine zA<|zO<|zd<|za<|e_p (zI (z:=(((i+1):Nat):Int)) rfl rfl (w64 om))<|e_mv rfl<|zh<|zga (i+1) (show (i+1)≤n1∧∀j,j<(i+1)→l1.getD j (0,0,0)=l2.getD j (0,0,0) from by exact ⟨by omega,Ms.all_lt_succ hall (by have h9:=Decidable.not_not.1 hd;first|exact h9|(apply Prod.ext;exact h9.1;apply Prod.ext;exact h9.2.1;exact h9.2.2))⟩) (by show n1 - (i+1)<n1 - i;omega) ((.of rfl):SubM _ _) (ho:=(.n:PickO _ _ _)) ((.of [2,3] rfl):SelR _ _ _)
  ·
   refine zla<|zj<|zj<|zw<|zd<|zg<|za<|e_p (zc rfl)<|zh<|zd<|zK ?_
   exact zt Tryz.results32 () trivial (zk rfl) (congrArg Value.bool (decide_eq_true (Ms.ext_getD (0,0,0) om (fun j hj=>hall j om)))) (ho:=(.n:PickO _ _ _)) (.n:SelR _ _ _)
end Go.Proofs.YtjcpbhlijoigfaaGreat.Sp
namespace Go.Proofs.YtjcpbhlijoigfaaGreat.Sp
open Go
set_option linter.unusedVariables false
set_option maxRecDepth 100000
set_option maxHeartbeats 8000000
theorem zEf:Con ye 11 [] [] [] (Y:=Unit) (fun y=>True) (fun y=> .bool true) (fun y=>[]) (fun y=>[]):=by
 refine zl Tryz.func11 rfl rfl rfl (fun c=> ?_)
 show RunC _ _ _ _ _ [] [] []
 refine zg<|za<|e_p (zc rfl)<|zh<|zd<|zg<|za<|e_p (zC zr30 rfl yb (.c sz3 (.c sz3 .n)) (.c rfl (.c rfl .n)) (.c rfl rfl rfl (.take .nil) (.c rfl rfl rfl (.skip (.take .nil)) .n)))<|e_p (zC zr30 rfl yb (.c sz3 (.c sz3 .n)) (.c rfl (.c rfl .n)) (.c rfl rfl rfl (.take .nil) (.c rfl rfl rfl (.skip (.take .nil)) .n)))<|e_p (zC zr30 rfl yb (.c sz3 (.c sz3 .n)) (.c rfl (.c rfl .n)) (.c rfl rfl rfl (.take .nil) (.c rfl rfl rfl (.skip (.take .nil)) .n)))<|e_p (zC zr30 rfl yb (.c sz3 (.c sz3 .n)) (.c rfl (.c rfl .n)) (.c rfl rfl rfl (.take .nil) (.c rfl rfl rfl (.skip (.take .nil)) .n)))<|e_p (zC zr30 rfl yb (.c sz3 (.c sz3 .n)) (.c rfl (.c rfl .n)) (.c rfl rfl rfl (.take .nil) (.c rfl rfl rfl (.skip (.take .nil)) .n)))<|zFa rfl rfl (zT (enc:=fun z:Int×Int=>[.int .i64 z.1,.int .i64 z.2]) (ok:=fun z=>InK .i64 z.1∧InK .i64 z.2) (h1:=fun _=>rfl) (h2:=fun _=>rfl) (k:=5) ya inf30 rfl dd dd dd (.c (x:=(0,0)) rfl rfl (fun _ _=>by exact ⟨zG.2 (by first|omega|decide|(dsimp only;omega)),zG.2 (by first|omega|decide|(dsimp only;omega))⟩) (.c (x:=(4,0)) rfl rfl (fun _ _=>by exact ⟨zG.2 (by first|omega|decide|(dsimp only;omega)),zG.2 (by first|omega|decide|(dsimp only;omega))⟩) (.c (x:=(4,4)) rfl rfl (fun _ _=>by exact ⟨zG.2 (by first|omega|decide|(dsimp only;omega)),zG.2 (by first|omega|decide|(dsimp only;omega))⟩) (.c (x:=(2,1)) rfl rfl (fun _ _=>by exact ⟨zG.2 (by first|omega|decide|(dsimp only;omega)),zG.2 (by first|omega|decide|(dsimp only;omega))⟩) (.c (x:=(0,4)) rfl rfl (fun _ _=>by exact ⟨zG.2 (by first|omega|decide|(dsimp only;omega)),zG.2 (by first|omega|decide|(dsimp only;omega))⟩) .n)))))) (fun b1 _=> ?_)
 refine e_p (zc rfl)<|zh<|zd<|zg<|za<|e_mv rfl<|zha 0 rfl .z<|zL rfl rfl (.c rfl .n) ce13 (zNf (p:=some ⟨b1,0,none⟩) (n:=5) (cap:=5) (l:=[(0,0),(4,0),(4,4),(2,1),(0,4)]) (hn:=by first|rfl|assumption|decide|omega|(decide +kernel))) (.c (j:=0) rfl .n) ?_
 have e2:Pg.arV ([(0,0),(4,0),(4,4),(2,1),(0,4)])=20:=by exact Pg.ex1.1
 rw [e2]
 have e3:Pg.arC ([(0,0),(4,0),(4,4),(2,1),(0,4)])=0:=by exact Pg.ex1.2
 rw [e3]
 refine e_mv rfl<|e_p (zp rfl rfl)<|e_p (zp rfl rfl)<|e_p (zc rfl)<|e_p (zc rfl)<|zh<|zd<|zg<|za<|e_mv rfl<|e_p (zC zr30 rfl yb (.c sz3 (.c sz3 .n)) (.c rfl (.c rfl .n)) (.c rfl rfl rfl (.take .nil) (.c rfl rfl rfl (.skip (.take .nil)) .n)))<|zL rfl rfl (.c rfl (.c rfl .n)) ce17 (zkb (p:=some ⟨b1,0,none⟩) (n:=5) (cap:=5) (l:=[(0,0),(4,0),(4,4),(2,1),(0,4)]) (hx:=1) (hy:=1) (hn:=by first|rfl|assumption|decide|omega|(decide +kernel)) (hwhx:=by first|rfl|assumption|decide|omega|(decide +kernel)) (hwhy:=by first|rfl|assumption|decide|omega|(decide +kernel))) (.c (j:=0) rfl .n) ?_
 have e4:Pg.isV ([(0,0),(4,0),(4,4),(2,1),(0,4)]) (1,1)=1:=by exact Pg.ex2.1
 rw [e4]
 have e5:Pg.isC ([(0,0),(4,0),(4,4),(2,1),(0,4)]) (1,1)=0:=by exact Pg.ex2.2
 rw [e5]
 refine e_mv rfl<|e_p (zp rfl rfl)<|e_p (zp rfl rfl)<|e_p (zc rfl)<|e_p (zc rfl)<|zh<|zd<|zg<|za<|e_mv rfl<|e_p (zC zr30 rfl yb (.c sz3 (.c sz3 .n)) (.c rfl (.c rfl .n)) (.c rfl rfl rfl (.take .nil) (.c rfl rfl rfl (.skip (.take .nil)) .n)))<|zL rfl rfl (.c rfl (.c rfl .n)) ce17 (zkb (p:=some ⟨b1,0,none⟩) (n:=5) (cap:=5) (l:=[(0,0),(4,0),(4,4),(2,1),(0,4)]) (hx:=2) (hy:=2) (hn:=by first|rfl|assumption|decide|omega|(decide +kernel)) (hwhx:=by first|rfl|assumption|decide|omega|(decide +kernel)) (hwhy:=by first|rfl|assumption|decide|omega|(decide +kernel))) (.c (j:=0) rfl .n) ?_
 have e6:Pg.isV ([(0,0),(4,0),(4,4),(2,1),(0,4)]) (2,2)=(-1):=by exact Pg.ex3.1
 rw [e6]
 have e7:Pg.isC ([(0,0),(4,0),(4,4),(2,1),(0,4)]) (2,2)=0:=by exact Pg.ex3.2
 rw [e7]
 refine e_mv rfl<|e_p (zp rfl rfl)<|e_p (zp rfl rfl)<|e_p (zc rfl)<|e_p (zc rfl)<|zh<|zd<|zg<|za<|e_mv rfl<|zD rfl rfl (.c rfl .n) ce30 (zOf (p:=some ⟨b1,0,none⟩) (n:=5) (cap:=5) (l:=[(0,0),(4,0),(4,4),(2,1),(0,4)]) (hn:=by first|rfl|assumption|decide|omega|(decide +kernel))) (.c (j:=0) rfl .n) ?_
 rintro ⟨p28,c29⟩ -
 dsimp only [aq,nq,cq]
 have e10:Pg.erC ([(0,0),(4,0),(4,4),(2,1),(0,4)])=0:=by exact Pg.ex4.2
 rw [e10]
 refine e_mv rfl<|e_p (zp rfl rfl)<|e_p (zp rfl rfl)<|e_p (zc rfl)<|e_p (zc rfl)<|zh<|zd<|zg<|za<|e_p (zC zr30 rfl yb (.c sz3 (.c sz3 .n)) (.c rfl (.c rfl .n)) (.c rfl rfl rfl (.take .nil) (.c rfl rfl rfl (.skip (.take .nil)) .n)))<|e_p (zC zr30 rfl yb (.c sz3 (.c sz3 .n)) (.c rfl (.c rfl .n)) (.c rfl rfl rfl (.take .nil) (.c rfl rfl rfl (.skip (.take .nil)) .n)))<|e_p (zC zr30 rfl yb (.c sz3 (.c sz3 .n)) (.c rfl (.c rfl .n)) (.c rfl rfl rfl (.take .nil) (.c rfl rfl rfl (.skip (.take .nil)) .n)))<|e_p (zC zr30 rfl yb (.c sz3 (.c sz3 .n)) (.c rfl (.c rfl .n)) (.c rfl rfl rfl (.take .nil) (.c rfl rfl rfl (.skip (.take .nil)) .n)))<|zFa rfl rfl (zT (enc:=fun z:Int×Int=>[.int .i64 z.1,.int .i64 z.2]) (ok:=fun z=>InK .i64 z.1∧InK .i64 z.2) (h1:=fun _=>rfl) (h2:=fun _=>rfl) (k:=4) ya inf30 rfl dd dd dd (.c (x:=(0,0)) rfl rfl (fun _ _=>by exact ⟨zG.2 (by first|omega|decide|(dsimp only;omega)),zG.2 (by first|omega|decide|(dsimp only;omega))⟩) (.c (x:=(4,0)) rfl rfl (fun _ _=>by exact ⟨zG.2 (by first|omega|decide|(dsimp only;omega)),zG.2 (by first|omega|decide|(dsimp only;omega))⟩) (.c (x:=(4,4)) rfl rfl (fun _ _=>by exact ⟨zG.2 (by first|omega|decide|(dsimp only;omega)),zG.2 (by first|omega|decide|(dsimp only;omega))⟩) (.c (x:=(0,4)) rfl rfl (fun _ _=>by exact ⟨zG.2 (by first|omega|decide|(dsimp only;omega)),zG.2 (by first|omega|decide|(dsimp only;omega))⟩) .n))))) (fun b11 _=> ?_)
 refine e_p (zC zr30 rfl yb (.c sz3 (.c sz3 .n)) (.c rfl (.c rfl .n)) (.c rfl rfl rfl (.take .nil) (.c rfl rfl rfl (.skip (.take .nil)) .n)))<|e_p (zC zr30 rfl yb (.c sz3 (.c sz3 .n)) (.c rfl (.c rfl .n)) (.c rfl rfl rfl (.take .nil) (.c rfl rfl rfl (.skip (.take .nil)) .n)))<|zha 0 rfl .z<|zD rfl rfl (.c rfl (.c rfl (.c rfl .n))) ce19 (zMe (p:=some ⟨b11,0,none⟩) (n:=4) (cap:=4) (l:=[(0,0),(4,0),(4,4),(0,4)]) (ex:=2) (ey:=(-1)) (fx:=9) (fy:=2) (hn:=by first|rfl|assumption|decide|omega|(decide +kernel)) (hwex:=by first|rfl|assumption|decide|omega|(decide +kernel)) (hwey:=by first|rfl|assumption|decide|omega|(decide +kernel)) (hwfx:=by first|rfl|assumption|decide|omega|(decide +kernel)) (hwfy:=by first|rfl|assumption|decide|omega|(decide +kernel))) (.c (j:=0) rfl .n) ?_
 rintro ⟨p212,c213⟩ -
 dsimp only [aq,nq,cq]
 have e14:Pg.wnC ([(0,0),(4,0),(4,4),(0,4)]) (2,(-1)) (9,2)=0:=by exact Pg.ex5
 rw [e14]
 refine e_mv rfl<|e_p (zp rfl rfl)<|e_p (zp rfl rfl)<|e_p (zc rfl)<|e_p (zc rfl)<|zh<|zd<|zg<|za<|e_mv rfl<|e_mv rfl<|e_p (zI (z:=0) rfl rfl (w64 dd))<|e_mv rfl<|e_p (zI (z:=0) rfl rfl (w64 dd))<|e_mv rfl<|e_p (zI (z:=0) rfl rfl (w64 dd))<|e_mv rfl<|e_p (zI (z:=0) rfl rfl (w64 dd))<|e_p (zya rfl rfl) ?_
 rw [show true=true from by decide]
 refine e_mv rfl<|e_mv rfl<|e_p (zya rfl rfl) ?_
 rw [show true=true from by decide]
 refine e_p (zn rfl rfl)<|e_mv rfl<|e_mv rfl<|e_p (zya rfl rfl) ?_
 rw [show true=true from by decide]
 refine e_p (zn rfl rfl)<|e_mv rfl<|e_mv rfl<|e_p (zya rfl rfl) ?_
 rw [show true=true from by decide]
 refine e_p (zn rfl rfl)<|e_mv rfl<|e_mv rfl<|e_p (zOa zr50 rfl yd sz3 (.c rfl (.c rfl (.c rfl .n))) (.c rfl rfl rfl (.take .nil) (.c rfl rfl rfl (.skip (.take .nil)) (.c rfl rfl rfl (.s2 (.take .nil)) .n))))<|e_p (zOa zr50 rfl yd sz3 (.c rfl (.c rfl (.c rfl .n))) (.c rfl rfl rfl (.take .nil) (.c rfl rfl rfl (.skip (.take .nil)) (.c rfl rfl rfl (.s2 (.take .nil)) .n))))<|e_p (zOa zr50 rfl yd sz3 (.c rfl (.c rfl (.c rfl .n))) (.c rfl rfl rfl (.take .nil) (.c rfl rfl rfl (.skip (.take .nil)) (.c rfl rfl rfl (.s2 (.take .nil)) .n))))<|zFa rfl rfl (zT (enc:=fun z:Int×Int×Int=>[.int .i64 z.1,.int .i64 z.2.1,.int .i64 z.2.2]) (ok:=fun z=>InK .i64 z.1∧InK .i64 z.2.1∧InK .i64 z.2.2) (h1:=fun _=>rfl) (h2:=fun _=>rfl) (k:=3) yg inf50 rfl dd dd dd (.c (x:=(1,2,3)) rfl rfl (fun _ _=>by exact ⟨zG.2 (by first|omega|decide|(dsimp only;omega)),zG.2 (by first|omega|decide|(dsimp only;omega)),zG.2 (by first|omega|decide|(dsimp only;omega))⟩) (.c (x:=(0,1,3)) rfl rfl (fun _ _=>by exact ⟨zG.2 (by first|omega|decide|(dsimp only;omega)),zG.2 (by first|omega|decide|(dsimp only;omega)),zG.2 (by first|omega|decide|(dsimp only;omega))⟩) (.c (x:=(0,3,4)) rfl rfl (fun _ _=>by exact ⟨zG.2 (by first|omega|decide|(dsimp only;omega)),zG.2 (by first|omega|decide|(dsimp only;omega)),zG.2 (by first|omega|decide|(dsimp only;omega))⟩) .n)))) (fun b15 _=> ?_)
 refine zha 3 rfl (.s (.s (.s .z)))<|zha 0 rfl .z<|zL rfl rfl (.c rfl (.c rfl .n)) ce32 (zQe (p1:=p28) (n1:=(Pg.erV ([(0,0),(4,0),(4,4),(2,1),(0,4)])).length) (c1:=c29) (l1:=(Pg.erV ([(0,0),(4,0),(4,4),(2,1),(0,4)]))) (p2:=some ⟨b15,0,none⟩) (n2:=3) (c2:=3) (l2:=[(1,2,3),(0,1,3),(0,3,4)]) (hn1:=by first|rfl|assumption|decide|omega|(decide +kernel)) (hn2:=by first|rfl|assumption|decide|omega|(decide +kernel))) (.c (j:=1) rfl (.c (j:=0) rfl .n)) ?_
 rw [show (decide ((Pg.erV ([(0,0),(4,0),(4,4),(2,1),(0,4)]))=([(1,2,3),(0,1,3),(0,3,4)])))=true from by exact decide_eq_true Pg.ex4.1]
 refine e_p (zn rfl rfl)<|e_mv rfl<|e_mv rfl<|zha 1 rfl (.s .z)<|zD rfl rfl (.c rfl .n) ce24 (zDf (p:=p212) (n:=(Pg.wnV ([(0,0),(4,0),(4,4),(0,4)]) (2,(-1)) (9,2)).length) (cap:=c213) (l:=(Pg.wnV ([(0,0),(4,0),(4,4),(0,4)]) (2,(-1)) (9,2))) (K:=100) (hn:=by rfl) (hbq:=by exact Pg.ex6) (hK:=dd) (hz:=by exact Pg.ex7)) (.c (j:=0) rfl .n) ?_
 rintro ⟨w316,w417⟩ -
 dsimp only [aq,nq,cq]
 refine zD rfl rfl (.c rfl .n) ce26 (zjd (z:=8) (hz:=by first|rfl|assumption|decide|omega|(decide +kernel))) (.n) ?_
 rintro ⟨w318,w419⟩ -
 dsimp only [aq,nq,cq]
 refine zL rfl rfl (.c rfl (.c rfl .n)) ce44 (zPe (u1:=w316) (v1:=w417) (q1:=(Pg.sz (Pg.wnV ([(0,0),(4,0),(4,4),(0,4)]) (2,(-1)) (9,2)))) (u2:=w318) (v2:=w419) (q2:=((8:Int):Rat)) (hl:=by decide +kernel)) (.c (j:=1) rfl (.c (j:=0) rfl .n)) ?_
 rw [show (decide ((Pg.sz (Pg.wnV ([(0,0),(4,0),(4,4),(0,4)]) (2,(-1)) (9,2)))=((8:Int):Rat)))=true from by exact decide_eq_true Pg.ex8]
 refine e_p (zn rfl rfl)<|e_p (zc rfl)<|zh<|zd<|zK ?_
 exact zt Tryz.results11 () trivial (zk rfl) rfl (ho:=(.n:PickO _ _ _)) (.n:SelR _ _ _)
end Go.Proofs.YtjcpbhlijoigfaaGreat.Sp
namespace Go.Proofs.YtjcpbhlijoigfaaGreat.Sp
open Go
set_option linter.unusedVariables false
set_option maxRecDepth 100000
set_option maxHeartbeats 8000000
theorem zle {p:Option Addr} {n:Nat} {cap:Nat} {l:List Pg.P2} (hn:l.length=n) (h64:n≤64) (hrng:∀x∈l,Pg.inR x):Con ye 53 [.slice p n cap] [] [slF (rI2 .i64) p cap l] (Y:=Unit) (fun y=>True) (fun y=> .bool (decide (Pg.smpR l))) (fun y=>[]) (fun y=>[]):=by
 refine zl Tryz.func53 rfl rfl rfl (fun c=> ?_)
 show RunC _ _ _ _ _ [(0,.slice p n cap)] [] [slF (rI2 .i64) p cap l]
 refine zda 0 rfl (fun hL0=> ?_)
 refine zg<|za<|e_p (zc rfl)<|zh<|zd<|zg<|za<|e_mv rfl<|e_p (zN ya rfl)<|e_p (zc rfl)<|zh<|zd<|zg<|zg<|za<|e_p (zc rfl)<|zh<|zd<|zB<|zma (X:=Nat) (fun x:Nat=>x≤n∧∀w,w<x→∀j,j<n→w<j→¬Pg.bad n l w j) (fun x=>[(4,.int .i64 ((x:Nat):Int)),(3,.int .i64 ((n:Nat):Int)),(0,.slice p n cap)]) (fun x=>[]) (fun x=>[slF (rI2 .i64) p cap l]) (fun x:Nat=>n - x) 0 (show 0≤n∧∀w,w<0→∀j,j<n→w<j→¬Pg.bad n l w j from by exact ⟨Nat.zero_le _,fun w h=>by omega⟩) ((.e rfl (by first|rfl|(congr 1;omega)|simp_all) (.c rfl (.c rfl .n))):SubM _ _) (ho:=(.n:PickO _ _ _)) ((.c (j:=0) rfl .n):SelR _ _ _) ?_
 rintro k hI
 replace hI:k≤n∧∀w,w<k→∀j,j<n→w<j→¬Pg.bad n l w j:=hI
 try dsimp only
 obtain ⟨hk,hall⟩:=hI
 refine zg<|zg<|za<|e_mv rfl<|e_mv rfl<|e_p (zZ rfl rfl)<|zh<|zd<|zE rfl (fun h1=> ?_) (fun h1=> ?_)
 ·
  refine zA<|zd<|zg<|zB<|zg<|za<|e_mv rfl<|e_p (zI (z:=(((k+1):Nat):Int)) rfl rfl (w64 om))<|e_p (zc rfl)<|zh<|zd<|zB<|zma (X:=Nat) (fun x:Nat=>k+1≤x∧∀w,w<x→k<w→¬Pg.bad n l k w) (fun x=>[(5,.int .i64 ((x:Nat):Int)),(4,.int .i64 ((k:Nat):Int)),(3,.int .i64 ((n:Nat):Int)),(0,.slice p n cap)]) (fun x=>[]) (fun x=>[slF (rI2 .i64) p cap l]) (fun x:Nat=>n - x) (k+1) (show k+1≤(k+1)∧∀w,w<(k+1)→k<w→¬Pg.bad n l k w from by exact ⟨Nat.le_refl _,fun w h h2=>by omega⟩) ((.of rfl):SubM _ _) (ho:=(.n:PickO _ _ _)) ((.c (j:=0) rfl .n):SelR _ _ _) ?_
  rintro j hJ
  replace hJ:k+1≤j∧∀w,w<j→k<w→¬Pg.bad n l k w:=hJ
  try dsimp only
  obtain ⟨hj2,hB2⟩:=hJ
  refine zg<|zg<|za<|e_mv rfl<|e_mv rfl<|e_p (zZ rfl rfl)<|zh<|zd<|zE rfl (fun h2=> ?_) (fun h2=> ?_)
  ·
   have hm1:(k+1)%n<n:=Nat.mod_lt _ om
   have hm3:(j+1)%n<n:=Nat.mod_lt _ om
   have hg0:Pg.inR (l.getD k (0,0)):=Pg.Ok.gt hrng om
   have hg1:Pg.inR (l.getD ((k+1)%n) (0,0)):=Pg.Ok.gt hrng om
   have hg2:Pg.inR (l.getD j (0,0)):=Pg.Ok.gt hrng om
   have hg3:Pg.inR (l.getD ((j+1)%n) (0,0)):=Pg.Ok.gt hrng om
   refine zA<|zd<|zg<|zB<|zg<|za<|e_mv rfl<|e_mv rfl<|zS (x0:=(l.getD k (0,0))) 0 k rfl ya sz30 rfl rfl rfl cbs rfl rfl (gD (d:=(0,0)) om) (fun b3 o4 hok5=> ?_)
   obtain ⟨hok5x,hok5y⟩:=hok5
   replace hok5x:=zG.1 hok5x
   replace hok5y:=zG.1 hok5y
   refine e_ru (zJ (j:=0) 0 ty30 rfl rfl rfl (.t2 .nil))<|zM rfl rfl (zo zr30 rfl) (fun b6=> ?_)
   refine zm 0 rfl rfl rfl rfl rfl sz30 rfl (.t2 .nil) .z<|zh<|zd<|zg<|za<|e_mv rfl<|e_mv rfl<|e_p (zI (z:=(((k+1):Nat):Int)) rfl rfl (w64 om))<|e_mv rfl<|e_p (zwa (z:=((((k+1)%n):Nat):Int)) rfl rfl om (remN om om))<|zS (x0:=(l.getD ((k+1)%n) (0,0))) 1 ((k+1)%n) rfl ya sz30 rfl rfl rfl cbs rfl rfl (gD (d:=(0,0)) om) (fun b7 o8 hok9=> ?_)
   obtain ⟨hok9x,hok9y⟩:=hok9
   replace hok9x:=zG.1 hok9x
   replace hok9y:=zG.1 hok9y
   refine e_ru (zJ (j:=0) 0 ty30 rfl rfl rfl (.t2 .nil))<|zM rfl rfl (zo zr30 rfl) (fun b10=> ?_)
   refine zm 0 rfl rfl rfl rfl rfl sz30 rfl (.t2 .nil) .z<|zh<|zd<|zg<|za<|e_mv rfl<|e_mv rfl<|zS (x0:=(l.getD j (0,0))) 2 j rfl ya sz30 rfl rfl rfl cbs rfl rfl (gD (d:=(0,0)) om) (fun b11 o12 hok13=> ?_)
   obtain ⟨hok13x,hok13y⟩:=hok13
   replace hok13x:=zG.1 hok13x
   replace hok13y:=zG.1 hok13y
   refine e_ru (zJ (j:=0) 0 ty30 rfl rfl rfl (.t2 .nil))<|zM rfl rfl (zo zr30 rfl) (fun b14=> ?_)
   refine zm 0 rfl rfl rfl rfl rfl sz30 rfl (.t2 .nil) .z<|zh<|zd<|zg<|za<|e_mv rfl<|e_mv rfl<|e_p (zI (z:=(((j+1):Nat):Int)) rfl rfl (w64 om))<|e_mv rfl<|e_p (zwa (z:=((((j+1)%n):Nat):Int)) rfl rfl om (remN om om))<|zS (x0:=(l.getD ((j+1)%n) (0,0))) 3 ((j+1)%n) rfl ya sz30 rfl rfl rfl cbs rfl rfl (gD (d:=(0,0)) om) (fun b15 o16 hok17=> ?_)
   obtain ⟨hok17x,hok17y⟩:=hok17
   replace hok17x:=zG.1 hok17x
   replace hok17y:=zG.1 hok17y
   refine e_ru (zJ (j:=0) 0 ty30 rfl rfl rfl (.t2 .nil))<|zM rfl rfl (zo zr30 rfl) (fun b18=> ?_)
   refine zm 0 rfl rfl rfl rfl rfl sz30 rfl (.t2 .nil) .z<|zh<|zd<|zg<|za<|e_mv rfl<|e_mv rfl<|e_p (zI (z:=(((k+1):Nat):Int)) rfl rfl (w64 om))<|e_p (zya rfl rfl)<|zh<|zd<|zE rfl (fun he=> ?_) (fun he=> ?_)
   ·
    refine zGa (X:=Unit) (fun x=>True) (fun x=>[(59,.bool (decide ((Pg.onS (((l.getD k (0,0)).1),((l.getD k (0,0)).2)) (((l.getD ((k+1)%n) (0,0)).1),((l.getD ((k+1)%n) (0,0)).2)) (((l.getD ((j+1)%n) (0,0)).1),((l.getD ((j+1)%n) (0,0)).2)))∨(Pg.onS (((l.getD j (0,0)).1),((l.getD j (0,0)).2)) (((l.getD ((j+1)%n) (0,0)).1),((l.getD ((j+1)%n) (0,0)).2)) (((l.getD k (0,0)).1),((l.getD k (0,0)).2)))))),(5,.int .i64 ((j:Nat):Int)),(4,.int .i64 ((k:Nat):Int)),(3,.int .i64 ((n:Nat):Int)),(0,.slice p n cap)]) (fun x=>[boxA b18 30 [.int .i64 ((l.getD ((j+1)%n) (0,0)).1),.int .i64 ((l.getD ((j+1)%n) (0,0)).2)],boxA b14 30 [.int .i64 ((l.getD j (0,0)).1),.int .i64 ((l.getD j (0,0)).2)],boxA b10 30 [.int .i64 ((l.getD ((k+1)%n) (0,0)).1),.int .i64 ((l.getD ((k+1)%n) (0,0)).2)],boxA b6 30 [.int .i64 ((l.getD k (0,0)).1),.int .i64 ((l.getD k (0,0)).2)]]) (fun x=>[atF b15 o16 [.int .i64 ((l.getD ((j+1)%n) (0,0)).1),.int .i64 ((l.getD ((j+1)%n) (0,0)).2)],atF b11 o12 [.int .i64 ((l.getD j (0,0)).1),.int .i64 ((l.getD j (0,0)).2)],atF b7 o8 [.int .i64 ((l.getD ((k+1)%n) (0,0)).1),.int .i64 ((l.getD ((k+1)%n) (0,0)).2)],atF b3 o4 [.int .i64 ((l.getD k (0,0)).1),.int .i64 ((l.getD k (0,0)).2)],slF (rI2 .i64) p cap l]) ?_ ?_
    ·
     refine za<|e_ru (zb 3 ty30 rfl rfl (.t2 .nil))<|e_ru (zb 2 ty30 rfl rfl (.t2 .nil))<|e_ru (zb 0 ty30 rfl rfl (.t2 .nil))<|zL rfl rfl (.c rfl (.c rfl (.c rfl .n))) ce35 (zHb (ex:=(l.getD k (0,0)).1) (ey:=(l.getD k (0,0)).2) (fx:=(l.getD ((k+1)%n) (0,0)).1) (fy:=(l.getD ((k+1)%n) (0,0)).2) (gx:=(l.getD ((j+1)%n) (0,0)).1) (gy:=(l.getD ((j+1)%n) (0,0)).2) (hre:=cbo) (hrf:=cbo) (hrg:=cbo)) (.n)<|zW rfl rfl (zX rfl) (fun h19=> ?_) (fun h19=> ?_)
     ·
      refine e_no<|e_no<|e_no<|e_no<|e_p (zn rfl rfl)<|zh ?_
      exact zfa () (show True from by first|trivial|omega|simp_all) ((.e rfl (congrArg Value.bool cbu) (.of rfl)):SubM _ _) (ho:=((.of [0,0,0,0] rfl):PickO _ _ _)) ((.of [0,1,2,3,4] rfl):SelR _ _ _)
     ·
      refine e_ru (zb 1 ty30 rfl rfl (.t2 .nil))<|e_ru (zb 0 ty30 rfl rfl (.t2 .nil))<|e_ru (zb 3 ty30 rfl rfl (.t2 .nil))<|zL rfl rfl (.c rfl (.c rfl (.c rfl .n))) ce35 (zHb (ex:=(l.getD j (0,0)).1) (ey:=(l.getD j (0,0)).2) (fx:=(l.getD ((j+1)%n) (0,0)).1) (fy:=(l.getD ((j+1)%n) (0,0)).2) (gx:=(l.getD k (0,0)).1) (gy:=(l.getD k (0,0)).2) (hre:=cbo) (hrf:=cbo) (hrg:=cbo)) (.n)<|e_p (zn rfl rfl)<|zh ?_
      exact zfa () (show True from by first|trivial|omega|simp_all) ((.e rfl (congrArg Value.bool cbu) (.of rfl)):SubM _ _) (ho:=((.of [0,0,0,0] rfl):PickO _ _ _)) ((.of [0,1,2,3,4] rfl):SelR _ _ _)
    ·
     rintro ⟨⟩ -
     try dsimp only
     refine zE rfl (fun hb1=> ?_) (fun hb1=> ?_)
     ·
      refine zg<|za<|e_p (zc rfl)<|zh<|zd<|zK<|zv<|zi<|zi<|zv<|zv<|zi<|zi<|zv<|zi ?_
      exact zt yn () trivial (zk rfl) (congrArg Value.bool (decide_eq_false (fun h=>(Pg.smpR_n hn).1 h k om j om om ((Pg.bad_1 om).2 hb1)))) (ho:=(.n:PickO _ _ _)) (.n:SelR _ _ _)
     ·
      refine zA<|zO<|zd<|za<|e_mv rfl<|e_p (zI (z:=(((j+1):Nat):Int)) rfl rfl (w64 om))<|e_p (zc rfl)<|zh<|zga (j+1) (show k+1≤(j+1)∧∀w,w<(j+1)→k<w→¬Pg.bad n l k w from by exact ⟨by omega,Ms.all_lt_succ hB2 (fun _ hb=>hb1 ((Pg.bad_1 om).1 hb))⟩) (by show n - (j+1)<n - j;omega) ((.of rfl):SubM _ _) (ho:=(.n:PickO _ _ _)) ((.c (j:=4) rfl .n):SelR _ _ _)
   ·
    refine zg<|za<|e_mv rfl<|e_p (zI (z:=(((j+1):Nat):Int)) rfl rfl (w64 om))<|e_mv rfl<|e_p (zwa (z:=((((j+1)%n):Nat):Int)) rfl rfl om (remN om om))<|e_mv rfl<|e_p (zya rfl rfl)<|zh<|zd<|zE rfl (fun he2=> ?_) (fun he2=> ?_)
    ·
     refine zGa (X:=Unit) (fun x=>True) (fun x=>[(75,.bool (decide ((Pg.onS (((l.getD k (0,0)).1),((l.getD k (0,0)).2)) (((l.getD ((k+1)%n) (0,0)).1),((l.getD ((k+1)%n) (0,0)).2)) (((l.getD j (0,0)).1),((l.getD j (0,0)).2)))∨(Pg.onS (((l.getD j (0,0)).1),((l.getD j (0,0)).2)) (((l.getD ((j+1)%n) (0,0)).1),((l.getD ((j+1)%n) (0,0)).2)) (((l.getD ((k+1)%n) (0,0)).1),((l.getD ((k+1)%n) (0,0)).2)))))),(5,.int .i64 ((j:Nat):Int)),(4,.int .i64 ((k:Nat):Int)),(3,.int .i64 ((n:Nat):Int)),(0,.slice p n cap)]) (fun x=>[boxA b18 30 [.int .i64 ((l.getD ((j+1)%n) (0,0)).1),.int .i64 ((l.getD ((j+1)%n) (0,0)).2)],boxA b14 30 [.int .i64 ((l.getD j (0,0)).1),.int .i64 ((l.getD j (0,0)).2)],boxA b10 30 [.int .i64 ((l.getD ((k+1)%n) (0,0)).1),.int .i64 ((l.getD ((k+1)%n) (0,0)).2)],boxA b6 30 [.int .i64 ((l.getD k (0,0)).1),.int .i64 ((l.getD k (0,0)).2)]]) (fun x=>[atF b15 o16 [.int .i64 ((l.getD ((j+1)%n) (0,0)).1),.int .i64 ((l.getD ((j+1)%n) (0,0)).2)],atF b11 o12 [.int .i64 ((l.getD j (0,0)).1),.int .i64 ((l.getD j (0,0)).2)],atF b7 o8 [.int .i64 ((l.getD ((k+1)%n) (0,0)).1),.int .i64 ((l.getD ((k+1)%n) (0,0)).2)],atF b3 o4 [.int .i64 ((l.getD k (0,0)).1),.int .i64 ((l.getD k (0,0)).2)],slF (rI2 .i64) p cap l]) ?_ ?_
     ·
      refine za<|e_ru (zb 3 ty30 rfl rfl (.t2 .nil))<|e_ru (zb 2 ty30 rfl rfl (.t2 .nil))<|e_ru (zb 1 ty30 rfl rfl (.t2 .nil))<|zL rfl rfl (.c rfl (.c rfl (.c rfl .n))) ce35 (zHb (ex:=(l.getD k (0,0)).1) (ey:=(l.getD k (0,0)).2) (fx:=(l.getD ((k+1)%n) (0,0)).1) (fy:=(l.getD ((k+1)%n) (0,0)).2) (gx:=(l.getD j (0,0)).1) (gy:=(l.getD j (0,0)).2) (hre:=cbo) (hrf:=cbo) (hrg:=cbo)) (.n)<|zW rfl rfl (zX rfl) (fun h20=> ?_) (fun h20=> ?_)
      ·
       refine e_no<|e_no<|e_no<|e_no<|e_p (zn rfl rfl)<|zh ?_
       exact zfa () (show True from by first|trivial|omega|simp_all) ((.e rfl (congrArg Value.bool cbu) (.of rfl)):SubM _ _) (ho:=((.of [0,0,0,0] rfl):PickO _ _ _)) ((.of [0,1,2,3,4] rfl):SelR _ _ _)
      ·
       refine e_ru (zb 1 ty30 rfl rfl (.t2 .nil))<|e_ru (zb 0 ty30 rfl rfl (.t2 .nil))<|e_ru (zb 2 ty30 rfl rfl (.t2 .nil))<|zL rfl rfl (.c rfl (.c rfl (.c rfl .n))) ce35 (zHb (ex:=(l.getD j (0,0)).1) (ey:=(l.getD j (0,0)).2) (fx:=(l.getD ((j+1)%n) (0,0)).1) (fy:=(l.getD ((j+1)%n) (0,0)).2) (gx:=(l.getD ((k+1)%n) (0,0)).1) (gy:=(l.getD ((k+1)%n) (0,0)).2) (hre:=cbo) (hrf:=cbo) (hrg:=cbo)) (.n)<|e_p (zn rfl rfl)<|zh ?_
       exact zfa () (show True from by first|trivial|omega|simp_all) ((.e rfl (congrArg Value.bool cbu) (.of rfl)):SubM _ _) (ho:=((.of [0,0,0,0] rfl):PickO _ _ _)) ((.of [0,1,2,3,4] rfl):SelR _ _ _)
     ·
      rintro ⟨⟩ -
      try dsimp only
      refine zE rfl (fun hb2=> ?_) (fun hb2=> ?_)
      ·
       refine zg<|za<|e_p (zc rfl)<|zh<|zd<|zK<|zv<|zi<|zi<|zv<|zv<|zi<|zi<|zv<|zi ?_
       exact zt yn () trivial (zk rfl) (congrArg Value.bool (decide_eq_false (fun h=>(Pg.smpR_n hn).1 h k om j om om ((Pg.bad_2 om om).2 hb2)))) (ho:=(.n:PickO _ _ _)) (.n:SelR _ _ _)
      ·
       refine zA<|zO<|zd<|za<|e_mv rfl<|e_p (zI (z:=(((j+1):Nat):Int)) rfl rfl (w64 om))<|e_p (zc rfl)<|zh<|zga (j+1) (show k+1≤(j+1)∧∀w,w<(j+1)→k<w→¬Pg.bad n l k w from by exact ⟨by omega,Ms.all_lt_succ hB2 (fun _ hb=>hb2 ((Pg.bad_2 om om).1 hb))⟩) (by show n - (j+1)<n - j;omega) ((.of rfl):SubM _ _) (ho:=(.n:PickO _ _ _)) ((.c (j:=4) rfl .n):SelR _ _ _)
    ·
     refine zg<|za<|e_ru (zb 3 ty30 rfl rfl (.t2 .nil))<|e_ru (zb 2 ty30 rfl rfl (.t2 .nil))<|e_ru (zb 1 ty30 rfl rfl (.t2 .nil))<|e_ru (zb 0 ty30 rfl rfl (.t2 .nil))<|zL rfl rfl (.c rfl (.c rfl (.c rfl (.c rfl .n)))) ce92 (zof (ex:=(l.getD k (0,0)).1) (ey:=(l.getD k (0,0)).2) (fx:=(l.getD ((k+1)%n) (0,0)).1) (fy:=(l.getD ((k+1)%n) (0,0)).2) (gx:=(l.getD j (0,0)).1) (gy:=(l.getD j (0,0)).2) (hx:=(l.getD ((j+1)%n) (0,0)).1) (hy:=(l.getD ((j+1)%n) (0,0)).2) (hre:=cbo) (hrf:=cbo) (hrg:=cbo) (hrh:=cbo)) (.n)<|zh<|zd<|zE rfl (fun hb3=> ?_) (fun hb3=> ?_)
     ·
      refine zg<|za<|e_p (zc rfl)<|zh<|zd<|zK<|zv<|zi<|zi<|zv<|zv<|zi<|zi<|zv<|zi ?_
      exact zt yn () trivial (zk rfl) (congrArg Value.bool (decide_eq_false (fun h=>(Pg.smpR_n hn).1 h k om j om om ((Pg.bad_3 om om).2 hb3)))) (ho:=(.n:PickO _ _ _)) (.n:SelR _ _ _)
     ·
      refine zA<|zO<|zd<|za<|e_mv rfl<|e_p (zI (z:=(((j+1):Nat):Int)) rfl rfl (w64 om))<|e_p (zc rfl)<|zh<|zga (j+1) (show k+1≤(j+1)∧∀w,w<(j+1)→k<w→¬Pg.bad n l k w from by exact ⟨by omega,Ms.all_lt_succ hB2 (fun _ hb=>hb3 ((Pg.bad_3 om om).1 hb))⟩) (by show n - (j+1)<n - j;omega) ((.of rfl):SubM _ _) (ho:=(.n:PickO _ _ _)) ((.c (j:=4) rfl .n):SelR _ _ _)
  ·
   refine zla<|zj<|zj<|zw<|zO<|zd<|za<|e_mv rfl<|e_p (zI (z:=(((k+1):Nat):Int)) rfl rfl (w64 om))<|e_p (zc rfl)<|zh<|zga (k+1) (show (k+1)≤n∧∀w,w<(k+1)→∀j,j<n→w<j→¬Pg.bad n l w j from by exact ⟨by omega,Ms.all_lt_succ hall (fun w hw hw2=>hB2 w om hw2)⟩) (by show n - (k+1)<n - k;omega) ((.of rfl):SubM _ _) (ho:=(.n:PickO _ _ _)) ((.c (j:=0) rfl .n):SelR _ _ _)
 ·
  refine zla<|zj<|zj<|zw<|zd<|zg<|za<|e_p (zc rfl)<|zh<|zd<|zK ?_
  exact zt yn () trivial (zk rfl) (congrArg Value.bool (decide_eq_true ((Pg.smpR_n hn).2 (fun w hw=>hall w om)))) (ho:=(.n:PickO _ _ _)) (.n:SelR _ _ _)
theorem zRe {p:Option Addr} {n:Nat} {cap:Nat} {l:List Pg.P2} (hn:l.length=n):Con ye 16 [.slice p n cap] [] [slF (rI2 .i64) p cap l] (Y:=Unit) (fun y=>True) (fun y=> .int .i64 (Pg.ck l)) (fun y=>[]) (fun y=>[]):=by
 refine zl Tryz.func16 rfl rfl rfl (fun c=> ?_)
 show RunC _ _ _ _ _ [(0,.slice p n cap)] [] [slF (rI2 .i64) p cap l]
 refine zda 0 rfl (fun hL0=> ?_)
 refine zg<|za<|e_p (zc rfl)<|zh<|zd<|zg<|zGa (X:=Unit) (fun x=>True) (fun x=>[(12,.bool (decide ((((n:Nat):Int)<3)∨(64<((n:Nat):Int))))),(2,.int .i64 0),(0,.slice p n cap)]) (fun x=>[]) (fun x=>[slF (rI2 .i64) p cap l]) ?_ ?_
 ·
  refine za<|e_mv rfl<|e_p (zN ya rfl)<|e_p (zZ rfl rfl)<|zW rfl rfl (zX rfl) (fun h1=> ?_) (fun h1=> ?_)
  ·
   refine e_no<|e_no<|e_no<|e_p (zn rfl rfl)<|zh ?_
   exact zfa () (show True from by first|trivial|omega|simp_all) ((.e rfl (congrArg Value.bool cbu) (.c rfl (.c rfl .n))):SubM _ _) (ho:=(.n:PickO _ _ _)) ((.c (j:=0) rfl .n):SelR _ _ _)
  ·
   refine e_mv rfl<|e_p (zN ya rfl)<|e_p (zxa rfl rfl)<|e_p (zn rfl rfl)<|zh ?_
   exact zfa () (show True from by first|trivial|omega|simp_all) ((.e rfl (congrArg Value.bool cbu) (.c rfl (.c rfl .n))):SubM _ _) (ho:=(.n:PickO _ _ _)) ((.c (j:=0) rfl .n):SelR _ _ _)
 ·
  rintro ⟨⟩ -
  try dsimp only
  refine zE rfl (fun hlim=> ?_) (fun hlim=> ?_)
  ·
   refine zg<|za<|e_p (zc rfl)<|zh<|zd<|zK<|zi ?_
   exact zt yl () trivial (zk rfl) (by rw [Pg.ck_lim om]) (ho:=(.n:PickO _ _ _)) (.n:SelR _ _ _)
  ·
   have hlm:¬(l.length<3∨64<l.length):=by omega
   refine zA<|zd<|zg<|zg<|za<|e_p (zc rfl)<|zh<|zd<|zB<|zma (X:=Nat) (fun x:Nat=>x≤n∧Pg.ck1 (l.take x) (l.drop x)=Pg.ck1 [] l) (fun x=>[(3,.int .i64 ((x:Nat):Int)),(0,.slice p n cap)]) (fun x=>[]) (fun x=>[slF (rI2 .i64) p cap l]) (fun x:Nat=>n - x) 0 (show 0≤n∧Pg.ck1 (l.take 0) (l.drop 0)=Pg.ck1 [] l from by exact ⟨Nat.zero_le _,rfl⟩) ((.e rfl (by first|rfl|(congr 1;omega)|simp_all) (.c rfl .n)):SubM _ _) (ho:=(.n:PickO _ _ _)) ((.c (j:=0) rfl .n):SelR _ _ _) ?_
   rintro i hI
   replace hI:i≤n∧Pg.ck1 (l.take i) (l.drop i)=Pg.ck1 [] l:=hI
   try dsimp only
   obtain ⟨hi,hck⟩:=hI
   refine zg<|zg<|za<|e_mv rfl<|e_mv rfl<|e_p (zN ya rfl)<|e_p (zZ rfl rfl)<|zh<|zd<|zE rfl (fun h2=> ?_) (fun h2=> ?_)
   ·
    refine zA<|zd<|zg<|zB<|zg<|zg<|za<|e_mv rfl<|e_mv rfl<|zS (x0:=(l.getD i (0,0))) 0 i rfl ya sz30 rfl rfl rfl cbs rfl rfl (gD (d:=(0,0)) om) (fun b3 o4 hok5=> ?_)
    obtain ⟨hok5x,hok5y⟩:=hok5
    replace hok5x:=zG.1 hok5x
    replace hok5y:=zG.1 hok5y
    refine e_ru (zJ (j:=0) 0 ty30 rfl rfl rfl (.t2 .nil))<|zL rfl rfl (.c rfl .n) ce48 (zLf (ex:=(l.getD i (0,0)).1) (ey:=(l.getD i (0,0)).2) (hwex:=cbo) (hwey:=cbo)) (.n)<|e_p (zub rfl)<|zh<|zd<|zE rfl (fun hfar=> ?_) (fun hfar=> ?_)
    ·
     refine zg<|za<|e_p (zc rfl)<|zh<|zd<|zK<|zi<|zv<|zi<|zi<|zv<|zi ?_
     have hv1:=Pg.ck1_far (l:=l) (i:=i) om (by simpa [Pg.far] using hfar)
     exact zt yl () trivial (zk rfl) (by rw [Pg.ck_one hlm (by rw [← hck,hv1];decide),←hck,hv1]) (ho:=(.n:PickO _ _ _)) (.n:SelR _ _ _)
    ·
     refine zA<|zd<|zg<|za<|e_p (zc rfl)<|zh<|zd<|zB<|zma (X:=Nat) (fun x:Nat=>x≤i∧∀w,w<x→¬(l.getD i (0,0))=(l.getD w (0,0))) (fun x=>[(4,.int .i64 ((x:Nat):Int)),(3,.int .i64 ((i:Nat):Int)),(0,.slice p n cap)]) (fun x=>[]) (fun x=>[atF b3 o4 [.int .i64 ((l.getD i (0,0)).1),.int .i64 ((l.getD i (0,0)).2)],slF (rI2 .i64) p cap l]) (fun x:Nat=>i - x) 0 (show 0≤i∧∀w,w<0→¬(l.getD i (0,0))=(l.getD w (0,0)) from by exact ⟨Nat.zero_le _,fun w h=>by omega⟩) ((.e rfl (by first|rfl|(congr 1;omega)|simp_all) (.c rfl (.c rfl .n))):SubM _ _) (ho:=(.n:PickO _ _ _)) ((.of [0,1] rfl):SelR _ _ _) ?_
     rintro j hJ
     replace hJ:j≤i∧∀w,w<j→¬(l.getD i (0,0))=(l.getD w (0,0)):=hJ
     try dsimp only
     obtain ⟨hj2,hB2⟩:=hJ
     refine zg<|zg<|za<|e_mv rfl<|e_mv rfl<|e_p (zZ rfl rfl)<|zh<|zd<|zE rfl (fun h6=> ?_) (fun h6=> ?_)
     ·
      refine zA<|zd<|zg<|zB<|zg<|zY (OW:=[]) (O:=[]) 100000 mixed (.then (.block (.then (.then (.block (.block (.then (.then (.block (.then .ret)))))))))) kr<|e_dm 0 rfl rfl rfl<|e_dm 1 rfl rfl rfl<|zia (x0:=(l.getD i (0,0))) 2 rfl rfl kr kr 1 i rfl ya sz30 rfl rfl rfl cbs rfl rfl (gD (d:=(0,0)) om) (fun b7 o8 hok9=> ?_)
      obtain ⟨hok9x,hok9y⟩:=hok9
      replace hok9x:=zG.1 hok9x
      replace hok9y:=zG.1 hok9y
      refine e_u 3 rfl rfl (zJ (j:=0) 0 ty30 rfl rfl rfl (.t2 .nil))<|e_dm 4 rfl rfl rfl<|e_dm 5 rfl rfl rfl<|zia (x0:=(l.getD j (0,0))) 6 rfl rfl kr kr 2 j rfl ya sz30 rfl rfl rfl cbs rfl rfl (gD (d:=(0,0)) om) (fun b10 o11 hok12=> ?_)
      obtain ⟨hok12x,hok12y⟩:=hok12
      replace hok12x:=zG.1 hok12x
      replace hok12y:=zG.1 hok12y
      refine e_u 7 rfl rfl (zJ (j:=0) 0 ty30 rfl rfl rfl (.t2 .nil))<|e_one 8 (zua rfl rfl rfl rfl (.c rfl (.c rfl .n)) ce52 (zmf (ex:=(l.getD i (0,0)).1) (ey:=(l.getD i (0,0)).2) (fx:=(l.getD j (0,0)).1) (fy:=(l.getD j (0,0)).2)) (.n) ?_)
      refine zU kr<|zd<|zE rfl (fun hdup=> ?_) (fun hdup=> ?_)
      ·
       refine zg<|za<|e_p (zc rfl)<|zh<|zd<|zK<|zv<|zi<|zi<|zv<|zv<|zi<|zi<|zv<|zi ?_
       have hv1:=Pg.ck1_dup (l:=l) (i:=i) om (by simpa [Pg.far] using hfar) (Pg.in_take (j:=j) om om hdup)
       exact zt yl () trivial (zk rfl) (by rw [Pg.ck_one hlm (by rw [← hck,hv1];decide),←hck,hv1]) (ho:=(.n:PickO _ _ _)) (.n:SelR _ _ _)
      ·
       refine zA<|zO<|zd<|za<|e_mv rfl<|e_p (zI (z:=(((j+1):Nat):Int)) rfl rfl (w64 om))<|e_p (zc rfl)<|zh<|zga (j+1) (show (j+1)≤i∧∀w,w<(j+1)→¬(l.getD i (0,0))=(l.getD w (0,0)) from by exact ⟨by omega,Ms.all_lt_succ hB2 hdup⟩) (by show i - (j+1)<i - j;omega) ((.of rfl):SubM _ _) (ho:=(.n:PickO _ _ _)) ((.of [2,3] rfl):SelR _ _ _)
     ·
      refine zla<|zj<|zj<|zw<|zO<|zd<|za<|e_mv rfl<|e_p (zI (z:=(((i+1):Nat):Int)) rfl rfl (w64 om))<|e_p (zc rfl)<|zh<|zga (i+1) (show (i+1)≤n∧Pg.ck1 (l.take (i+1)) (l.drop (i+1))=Pg.ck1 [] l from by exact ⟨by omega,(Pg.ck1_go om (by simpa [Pg.far] using hfar) (Pg.not_take om (fun w hw=>hB2 w om))).trans hck⟩) (by show n - (i+1)<n - i;omega) ((.c rfl (.c rfl .n)):SubM _ _) (ho:=(.n:PickO _ _ _)) ((.c (j:=1) rfl .n):SelR _ _ _)
   ·
    have hz1:Pg.ck1 [] l=0:=by rw [← hck];exact Pg.ck1_end om
    have hrng:=Pg.ck1_zero hz1
    refine zla<|zj<|zj<|zw<|zd<|zg<|zg<|za<|e_mv rfl<|zL rfl rfl (.c rfl .n) ce53 (zle (p:=p) (n:=n) (cap:=cap) (l:=l) (hn:=ass) (h64:=cbo) (hrng:=cbo)) (.c (j:=0) rfl .n)<|e_p (zub rfl)<|zh<|zd<|zE rfl (fun hsm=> ?_) (fun hsm=> ?_)
    ·
     refine zg<|za<|e_p (zc rfl)<|zh<|zd<|zK<|zi ?_
     exact zt yl () trivial (zk rfl) (by rw [Pg.ck_two hlm hz1 (fun h=>absurd ((Pg.smp_iff om).1 h) (by simpa using hsm))]) (ho:=(.n:PickO _ _ _)) (.n:SelR _ _ _)
    ·
     refine zA<|zd<|zg<|za<|e_p (zc rfl)<|zh<|zd<|zK ?_
     exact zt yl () trivial (zk rfl) (by rw [Pg.ck_ok hlm hz1 ((Pg.smp_iff om).2 (by simpa using hsm))]) (ho:=(.n:PickO _ _ _)) (.n:SelR _ _ _)
end Go.Proofs.YtjcpbhlijoigfaaGreat.Sp
namespace Go.Proofs.YtjcpbhlijoigfaaGreat.Pg
set_option linter.unusedVariables false
theorem pr_rot {n k:Nat} (hk:k≤n):((List.range n).map (fun i=>(i+k)%n)).Perm (List.range n):=by
  have e:(List.range n).map (fun i=>(i+k)%n)=(List.range n).drop k++(List.range n).take k:=by
    refine List.ext_getElem (by simp;omega) fun i h1 h2=> ?_
    have hi:i<n:=by simpa using h1
    rw [List.getElem_map,List.getElem_range,List.getElem_append]
    have:=md_c (x:=i+k) (m:=n) (by omega)
    have hd:((List.range n).drop k).length=n - k:=by simp
    split
    · rw [List.getElem_drop,List.getElem_range];omega
    · rw [List.getElem_take,List.getElem_range];omega
  rw [e]
  exact (List.perm_append_comm).trans (by rw [List.take_append_drop])
theorem pr_rev {n:Nat}:((List.range n).map (fun i=>n - 1 - i)).Perm (List.range n):=by
  have e:(List.range n).map (fun i=>n - 1 - i)=(List.range n).reverse:=by
    refine List.ext_getElem (by simp) fun i h1 h2=> ?_
    rw [List.getElem_map,List.getElem_range,List.getElem_reverse,List.getElem_range];simp
  rw [e];exact List.reverse_perm _
theorem betw_sw {a b p:P2}:betw a b p↔betw b a p:=by unfold betw;omega
theorem onS_sw {a b p:P2}:onS a b p↔onS b a p:=by
  unfold onS;rw [crs_sw a b,betw_sw]
  constructor <;> intro h <;> exact ⟨by omega,h.2⟩
theorem mt_comm {a b c d:P2}:mt a b c d↔mt c d a b:=by
  unfold mt mt0 mt1
  constructor
  · rintro (⟨h1, h2⟩ | h | h | h | h)
    · exact .inl ⟨h2,h1⟩
    · exact .inr (.inr (.inr (.inl h)))
    · exact .inr (.inr (.inr (.inr h)))
    · exact .inr (.inl h)
    · exact .inr (.inr (.inl h))
  · rintro (⟨h1, h2⟩ | h | h | h | h)
    · exact .inl ⟨h2,h1⟩
    · exact .inr (.inr (.inr (.inl h)))
    · exact .inr (.inr (.inr (.inr h)))
    · exact .inr (.inl h)
    · exact .inr (.inr (.inl h))
theorem mt_sw1 {a b c d:P2} (h:mt a b c d):mt b a c d:=by
  unfold mt mt0 mt1 at*
  rcases h with ⟨h1,h2⟩|h|h|h|h
  · refine .inl ⟨?_, by rw [Int.mul_comm]; exact h2⟩
    rw [crs_sw a b c,crs_sw a b d,Int.sign_neg,Int.sign_neg,Int.neg_mul_neg];exact h1
  · exact .inr (.inl (onS_sw.1 h))
  · exact .inr (.inr (.inl (onS_sw.1 h)))
  · exact .inr (.inr (.inr (.inr h)))
  · exact .inr (.inr (.inr (.inl h)))
theorem mt_sw {a b c d:P2} (h:mt a b c d):mt b a d c:=mt_sw1 (mt_comm.1 (mt_sw1 (mt_comm.1 h)))
theorem hit_sym {a b q:P2} (h:hit a b q):hit b a q:=by
  unfold hit at*
  by_cases k:b.2<a.2
  · rw [if_pos k] at h;rw [if_neg (by omega)];exact h
  · rw [if_neg k] at h
    have h1:=h.1
    have h2:=h.2.1
    rw [if_pos (by omega)];exact h
theorem hit_iff {a b q:P2}:hit a b q↔hit b a q:=⟨hit_sym,hit_sym⟩
structure Sm (n:Nat) (l:List P2):Prop where
  len:l.length=n
  n3:3≤n
  n64:n≤64
  nd:l.Nodup
  a:∀i,i<n→¬smA n l i
  b:∀i j,i<n→j<n→i≠j→(i+1)%n≠j→(j+1)%n≠i→¬mt (gt l i) (gt l ((i+1)%n)) (gt l j) (gt l ((j+1)%n))
theorem ck1_iff {l:List P2}:∀{s:List P2},ck1 s l=0↔(∀x∈l,inR x)∧l.Nodup∧∀x∈l,x ∉ s:=by
  induction l with
  |nil=>intro s;exact ⟨fun _=>⟨fun x h=>(by cases h),List.nodup_nil,fun x h=>(by cases h)⟩,fun _=>rfl⟩
  |cons a l ih=>
    intro s
    unfold ck1
    by_cases hf:far a=true
    · rw [if_pos hf]
      refine ⟨fun h=>absurd h (by decide),fun h=> ?_⟩
      have:=h.1 a (List.mem_cons_self ..)
      unfold far at hf;simp at hf;exact absurd this hf
    rw [if_neg hf]
    by_cases hd:a∈s
    · rw [if_pos hd]
      exact ⟨fun h=>absurd h (by decide),fun h=>absurd hd (h.2.2 a (List.mem_cons_self ..))⟩
    rw [if_neg hd,ih]
    constructor
    · rintro ⟨h1, h2, h3⟩
      refine ⟨fun x hx=> ?_,List.nodup_cons.2 ⟨fun hm=>h3 a hm (by simp),h2⟩,fun x hx=> ?_⟩
      · rcases List.mem_cons.1 hx with rfl | hx
        · exact far_no hf
        · exact h1 x hx
      · rcases List.mem_cons.1 hx with rfl | hx
        · exact hd
        · exact fun hs=>h3 x hx (by simp [hs])
    · rintro ⟨h1, h2, h3⟩
      obtain ⟨h4,h5⟩:=List.nodup_cons.1 h2
      refine ⟨fun x hx=>h1 x (List.mem_cons_of_mem _ hx),h5,fun x hx hm=> ?_⟩
      rcases List.mem_append.1 hm with hm|hm
      · exact h3 x (List.mem_cons_of_mem _ hx) hm
      · rw [List.mem_singleton] at hm;subst hm;exact h4 hx
theorem Sm.of {l:List P2} (h:ck l=0):Sm l.length l:=by
  have ho:=ok h
  have h1:ck1 [] l=0:=by
    unfold ck at h
    have h3:=ho.n3
    have h64:=ho.n64
    rw [if_neg (by omega)] at h
    by_cases k:ck1 [] l=0
    · exact k
    · rw [if_pos k] at h;exact absurd h k
  refine ⟨rfl,ho.n3,ho.n64,(ck1_iff.1 h1).2.1,fun i hi=>(ho.smp i hi).1,fun i j hi hj hij h4 h5 hm=> ?_⟩
  have h3:=ho.n3
  by_cases k:i<j
  · refine (ho.smp i hi).2 j hj ⟨?_, h5, hm⟩
    rw [Nat.mod_eq_of_lt (by omega)] at h4;omega
  · refine (ho.smp j hj).2 i hi ⟨?_, h4, mt_comm.1 hm⟩
    rw [Nat.mod_eq_of_lt (by omega)] at h5;omega
theorem Sm.ck {n:Nat} {l:List P2} (h:Sm n l) (hr:∀x∈l,inR x):ck l=0:=by
  have hl:=h.len
  have h3:=h.n3
  have h64:=h.n64
  refine ck_ok (by omega) (ck1_iff.2 ⟨hr,h.nd,fun x _ hx=>by cases hx⟩) ((smp_n hl).2 fun i hi=>⟨h.a i hi,fun j hj hb=> ?_⟩)
  refine h.b i j hi hj (by have:=hb.1;omega) ?_ hb.2.1 hb.2.2
  have:=hb.1
  rw [Nat.mod_eq_of_lt (by omega)];omega
def hits (n:Nat) (l:List P2) (q:P2) (L:List Nat):Nat:=L.countP (fun i=>decide (hit (gt l i) (gt l ((i+1)%n)) q))
theorem inN_hits (n:Nat) (l:List P2) (q:P2):∀i,inN n l q i=if hits n l q (List.range i)%2=0 then -1 else 1
  |0=>rfl
  |i+1=>by
    have ih:=inN_hits n l q i
    have hr:hits n l q (List.range (i+1))=hits n l q (List.range i)+(if hit (gt l i) (gt l ((i+1)%n)) q then 1 else 0):=by
      unfold hits
      rw [List.range_succ,List.countP_append,List.countP_cons,List.countP_nil,Nat.zero_add]
      by_cases h:hit (gt l i) (gt l ((i+1)%n)) q
      · rw [if_pos h,if_pos (decide_eq_true h)]
      · rw [if_neg h,if_neg (by rw [decide_eq_false h];decide)]
    generalize hits n l q (List.range i)=c at*
    rw [hr]
    by_cases h:hit (gt l i) (gt l ((i+1)%n)) q
    · rw [inN_hit h, ih, if_pos h]
      by_cases k:c%2=0
      · rw [if_pos k,if_neg (by omega)];rfl
      · rw [if_neg k,if_pos (by omega)]
    · rw [inN_not h,ih,if_neg h,Nat.add_zero]
theorem ins_of {n:Nat} {l l':List P2} {q q':P2} (hl:l.length=n) (hl':l'.length=n) (ho:onB l q↔onB l' q') (hh:hits n l q (List.range n)=hits n l' q' (List.range n)):ins l q=ins l' q':=by
  subst hl
  unfold ins
  rw [hl',inN_hits,inN_hits,hh]
  by_cases k:onB l q
  · rw [if_pos k,if_pos (ho.1 k)]
  · rw [if_neg k,if_neg (fun h=>k (ho.2 h))]
structure Turn (n:Nat) (l l':List P2) (t:Nat→Nat) (e:Nat→Nat) (rv:Bool):Prop where
  len:l.length=n
  len':l'.length=n
  pos:0<n
  e_lt:∀i,i<n→e i<n
  e_inj:∀i j,i<n→j<n→e i=e j→i=j
  e_perm:((List.range n).map e).Perm (List.range n)
  nx:∀i j,i<n→j<n→(e i+1)%n=e j→(if rv then (j+1)%n=i else (i+1)%n=j)
  at1:∀i,i<n→(if rv then gt l' i=gt l ((e i+1)%n)∧gt l' ((i+1)%n)=gt l (e i) else gt l' i=gt l (e i)∧gt l' ((i+1)%n)=gt l ((e i+1)%n))
theorem Turn.hits {n:Nat} {l l':List P2} {t e:Nat→Nat} {rv:Bool} (h:Turn n l l' t e rv) (q:P2):hits n l' q (List.range n)=hits n l q (List.range n):=by
  have h1:Pg.hits n l q (List.range n)=Pg.hits n l q ((List.range n).map e):=by unfold Pg.hits;exact h.e_perm.symm.countP_eq _
  rw [h1]
  unfold Pg.hits
  rw [List.countP_map]
  refine List.countP_congr fun i hi=> ?_
  have hi':i<n:=by simpa using hi
  have h2:=h.at1 i hi'
  simp only [Function.comp,decide_eq_true_eq]
  cases rv
  · simp only [Bool.false_eq_true,if_false] at h2;rw [h2.1,h2.2]
  · simp only [if_true] at h2;rw [h2.1,h2.2];exact hit_iff
theorem Turn.onE {n:Nat} {l l':List P2} {t e:Nat→Nat} {rv:Bool} (h:Turn n l l' t e rv) {q:P2} {i:Nat} (hi:i<n):onS (gt l' i) (gt l' ((i+1)%n)) q↔onS (gt l (e i)) (gt l ((e i+1)%n)) q:=by
  have h2:=h.at1 i hi
  cases rv
  · simp only [Bool.false_eq_true,if_false] at h2;rw [h2.1,h2.2]
  · simp only [if_true] at h2;rw [h2.1,h2.2];exact onS_sw
theorem Turn.onB {n:Nat} {l l':List P2} {t e:Nat→Nat} {rv:Bool} (h:Turn n l l' t e rv) (q:P2):onB l' q↔onB l q:=by
  have hl:=h.len
  have hl':=h.len'
  unfold Pg.onB
  rw [hl,hl']
  constructor
  · rintro ⟨i, hi, ho⟩
    exact ⟨e i,h.e_lt i hi,(h.onE hi).1 ho⟩
  · rintro ⟨j, hj, ho⟩
    have hm:j∈(List.range n).map e:=h.e_perm.mem_iff.2 (by simpa using hj)
    obtain ⟨i,hi,rfl⟩:=List.mem_map.1 hm
    have hi':i<n:=by simpa using hi
    exact ⟨i,hi',(h.onE hi').2 ho⟩
theorem Turn.mt {n:Nat} {l l':List P2} {t e:Nat→Nat} {rv:Bool} (h:Turn n l l' t e rv) {i j:Nat} (hi:i<n) (hj:j<n) (hm:mt (gt l' i) (gt l' ((i+1)%n)) (gt l' j) (gt l' ((j+1)%n))):Pg.mt (gt l (e i)) (gt l ((e i+1)%n)) (gt l (e j)) (gt l ((e j+1)%n)):=by
  have h2:=h.at1 i hi
  have h3:=h.at1 j hj
  cases rv
  · simp only [Bool.false_eq_true,if_false] at h2 h3;rw [h2.1,h2.2,h3.1,h3.2] at hm;exact hm
  · simp only [if_true] at h2 h3;rw [h2.1,h2.2,h3.1,h3.2] at hm;exact mt_sw hm
theorem Turn.b {n:Nat} {l l':List P2} {t e:Nat→Nat} {rv:Bool} (h:Turn n l l' t e rv) (hs:Sm n l) {i j:Nat} (hi:i<n) (hj:j<n) (hij:i≠j) (h1:(i+1)%n≠j) (h2:(j+1)%n≠i):¬Pg.mt (gt l' i) (gt l' ((i+1)%n)) (gt l' j) (gt l' ((j+1)%n)):=by
  intro hm
  refine hs.b (e i) (e j) (h.e_lt i hi) (h.e_lt j hj) (fun k=>hij (h.e_inj i j hi hj k)) (fun k=> ?_) (fun k=> ?_) (h.mt hi hj hm)
  · have := h.nx i j hi hj k
    cases rv
    · simp only [Bool.false_eq_true,if_false] at this;exact h1 this
    · simp only [if_true] at this;exact h2 this
  · have := h.nx j i hj hi k
    cases rv
    · simp only [Bool.false_eq_true,if_false] at this;exact h2 this
    · simp only [if_true] at this;exact h1 this
theorem ad_md (i a k n:Nat):((i+a)%n+k)%n=((i+k)%n+a)%n:=by rw [Nat.mod_add_mod,Nat.mod_add_mod,Nat.add_right_comm]
def rot (l:List P2) (k:Nat):List P2:=l.drop k++l.take k
theorem rot_len (l:List P2) (k:Nat):(rot l k).length=l.length:=by unfold rot;rw [List.length_append,List.length_drop,List.length_take];omega
theorem rot_perm (l:List P2) (k:Nat):(rot l k).Perm l:=by unfold rot;exact (List.perm_append_comm).trans (by rw [List.take_append_drop])
theorem gt_rot {l:List P2} {n k i:Nat} (hn:l.length=n) (hk:k≤n) (hi:i<n):gt (rot l k) i=gt l ((i+k)%n):=by
  have h:=md_c (x:=i+k) (m:=n) (by omega)
  unfold rot gt
  simp only [List.getD_eq_getElem?_getD]
  by_cases c:i<n - k
  · rw [List.getElem?_append_left (by rw [List.length_drop];omega),List.getElem?_drop,show (i+k)%n=k+i by omega]
  · rw [List.getElem?_append_right (by rw [List.length_drop];omega),List.getElem?_take,if_pos (by rw [List.length_drop];omega),List.length_drop,show (i+k)%n=i - (l.length - k) by omega]
theorem rot_turn {l:List P2} {n k:Nat} (hn:l.length=n) (hk:k≤n) (h0:0<n):Turn n l (rot l k) (fun i=>i) (fun i=>(i+k)%n) false:=by
  refine ⟨hn,by rw [rot_len];exact hn,h0,fun i hi=>Nat.mod_lt _ h0,fun i j hi hj e=> ?_,pr_rot hk,fun i j hi hj e=> ?_,fun i hi=> ?_⟩
  · have h1 := md_c (x := i + k) (m := n) (by omega)
    have h2:=md_c (x:=j+k) (m:=n) (by omega)
    (try dsimp only at e);omega
  · have h1 := md_c (x := i + k) (m := n) (by omega)
    have h2:=md_c (x:=j+k) (m:=n) (by omega)
    have h3:=md_c (x:=(i+k)%n+1) (m:=n) (by have:=Nat.mod_lt (i+k) h0;omega)
    have h4:=md_c (x:=i+1) (m:=n) (by omega)
    simp only [Bool.false_eq_true,if_false]
    (try dsimp only at e);omega
  · simp only [Bool.false_eq_true, if_false]
    refine ⟨gt_rot hn hk hi,?_⟩
    rw [gt_rot hn hk (Nat.mod_lt _ h0)]
    rw [ad_md]
theorem rot_sm {l:List P2} {n k:Nat} (h:Sm n l) (hk:k≤n):Sm n (rot l k):=by
  have h3:=h.n3
  have ht:=rot_turn h.len hk (by omega)
  refine ⟨ht.len',h3,h.n64,(rot_perm l k).nodup_iff.2 h.nd,fun i hi hs=> ?_,fun i j hi hj a b c=>ht.b h hi hj a b c⟩
  refine h.a ((i+k)%n) (Nat.mod_lt _ (by omega)) ?_
  unfold smA at*
  rw [gt_rot h.len hk hi,gt_rot h.len hk (Nat.mod_lt _ (by omega)),gt_rot h.len hk (Nat.mod_lt _ (by omega)),ad_md i 1 k,ad_md i 2 k] at hs
  exact hs
theorem gt_rev {l:List P2} {n i:Nat} (hn:l.length=n) (hi:i<n):gt l.reverse i=gt l (n - 1 - i):=by
  unfold gt
  rw [List.getD_eq_getElem?_getD,List.getElem?_reverse (by omega),List.getD_eq_getElem?_getD,hn]
theorem rev_turn {l:List P2} {n:Nat} (hn:l.length=n) (h0:0<n):Turn n l l.reverse (fun i=>i) (fun i=>n - 1 - (i+1)%n) true:=by
  refine ⟨hn,by rw [List.length_reverse];exact hn,h0,fun i hi=>by (try dsimp only);omega,fun i j hi hj e=> ?_,?_,fun i j hi hj e=> ?_,fun i hi=> ?_⟩
  · have h1 := md_c (x := i + 1) (m := n) (by omega)
    have h2:=md_c (x:=j+1) (m:=n) (by omega)
    (try dsimp only at e);omega
  · have e : (List.range n).map (fun i => n - 1 - (i + 1) % n) = ((List.range n).map (fun i => (i + 1) % n)).map (fun i => n - 1 - i) := by rw [List.map_map]; rfl
    rw [e]
    exact ((pr_rot (by omega)).map _).trans pr_rev
  · have h1 := md_c (x := i + 1) (m := n) (by omega)
    have h2:=md_c (x:=j+1) (m:=n) (by omega)
    have h3:=md_c (x:=n - 1 - (i+1)%n+1) (m:=n) (by omega)
    simp only [if_true]
    (try dsimp only at e);omega
  · simp only [if_true]
    have h1:=md_c (x:=i+1) (m:=n) (by omega)
    have h3:=md_c (x:=n - 1 - (i+1)%n+1) (m:=n) (by omega)
    rw [gt_rev hn hi,gt_rev hn (Nat.mod_lt _ h0)]
    exact ⟨by rw [show n - 1 - i=(n - 1 - (i+1)%n+1)%n by omega],rfl⟩
theorem rev_sm {l:List P2} {n:Nat} (h:Sm n l):Sm n l.reverse:=by
  have h3:=h.n3
  have ht:=rev_turn h.len (by omega)
  refine ⟨ht.len',h3,h.n64,(List.reverse_perm l).nodup_iff.2 h.nd,fun i hi hs=> ?_,fun i j hi hj a b c=>ht.b h hi hj a b c⟩
  refine h.a (n - 1 - (i+2)%n) (by omega) ?_
  unfold smA at*
  have h4:=md_c (x:=i+1) (m:=n) (by omega)
  have h5:=md_c (x:=i+2) (m:=n) (by omega)
  have h6:=md_c (x:=n - 1 - (i+2)%n+1) (m:=n) (by omega)
  have h7:=md_c (x:=n - 1 - (i+2)%n+2) (m:=n) (by omega)
  rw [gt_rev h.len hi,gt_rev h.len (Nat.mod_lt _ (by omega)),gt_rev h.len (Nat.mod_lt _ (by omega)),show n - 1 - i=(n - 1 - (i+2)%n+2)%n by omega,show n - 1 - (i+1)%n=(n - 1 - (i+2)%n+1)%n by omega] at hs
  rcases hs with hs|hs
  · exact .inr (onS_sw.1 hs)
  · exact .inl (onS_sw.1 hs)
def sh (d e:Int) (p:P2):P2:=(p.1+d,p.2+e)
theorem sh_inj {d e:Int} {p q:P2} (h:sh d e p=sh d e q):p=q:=by
  have h1:=congrArg Prod.fst h
  have h2:=congrArg Prod.snd h
  unfold sh at h1 h2
  exact Prod.ext (by dsimp only at h1;omega) (by dsimp only at h2;omega)
theorem crs_sh (d e:Int) (a b c:P2):crs (sh d e a) (sh d e b) (sh d e c)=crs a b c:=by
  unfold crs sh
  dsimp only
  rw [show b.1+d - (a.1+d)=b.1 - a.1 by omega,show c.2+e - (a.2+e)=c.2 - a.2 by omega,show b.2+e - (a.2+e)=b.2 - a.2 by omega,show c.1+d - (a.1+d)=c.1 - a.1 by omega]
theorem betw_sh (d e:Int) (a b c:P2):betw (sh d e a) (sh d e b) (sh d e c)↔betw a b c:=by
  unfold betw sh;dsimp only;omega
theorem onS_sh (d e:Int) (a b c:P2):onS (sh d e a) (sh d e b) (sh d e c)↔onS a b c:=by unfold onS;rw [crs_sh,betw_sh]
theorem mt_sh (d e:Int) (a b c g:P2):mt (sh d e a) (sh d e b) (sh d e c) (sh d e g)↔mt a b c g:=by
  unfold mt mt0 mt1;simp only [crs_sh,onS_sh]
theorem hit_sh (d e:Int) (a b q:P2):hit (sh d e a) (sh d e b) (sh d e q)↔hit a b q:=by
  unfold hit hit0
  simp only [crs_sh]
  unfold sh;dsimp only
  by_cases k:b.2<a.2
  · rw [if_pos (by omega),if_pos k];constructor <;> intro h <;> exact ⟨by omega,by omega,h.2.2⟩
  · rw [if_neg (by omega),if_neg k];constructor <;> intro h <;> exact ⟨by omega,by omega,h.2.2⟩
def mv (d e:Int) (l:List P2):List P2:=l.map (sh d e)
theorem gt_mv {d e:Int} {l:List P2} {i:Nat} (hi:i<l.length):gt (mv d e l) i=sh d e (gt l i):=by
  unfold mv gt
  rw [List.getD_eq_getElem?_getD,List.getElem?_map,List.getD_eq_getElem?_getD,List.getElem?_eq_getElem hi];rfl
theorem mv_sm {d e:Int} {l:List P2} {n:Nat} (h:Sm n l):Sm n (mv d e l):=by
  have h3:=h.n3
  have hl:=h.len
  have g:∀i,i<n→gt (mv d e l) i=sh d e (gt l i):=fun i hi=>gt_mv (by omega)
  have hm:∀x,x%n<n:=fun x=>Nat.mod_lt _ (by omega)
  refine ⟨by unfold mv;rw [List.length_map];exact hl,h3,h.n64,?_,fun i hi hs=> ?_,fun i j hi hj a b c hs=> ?_⟩
  · unfold mv
    exact List.Pairwise.map _ (fun a b hab hc=>hab (sh_inj hc)) h.nd
  · refine h.a i hi ?_
    unfold smA at*
    rwa [g i hi,g _ (hm _),g _ (hm _),onS_sh,onS_sh] at hs
  · refine h.b i j hi hj a b c ?_
    rwa [g i hi,g _ (hm _),g j hj,g _ (hm _),mt_sh] at hs
theorem ins_mv {d e:Int} {l:List P2} {n:Nat} {q:P2} (hn:l.length=n) (h0:0<n):ins (mv d e l) (sh d e q)=ins l q:=by
  have g:∀i,i<n→gt (mv d e l) i=sh d e (gt l i):=fun i hi=>gt_mv (by omega)
  have hm:∀x,x%n<n:=fun x=>Nat.mod_lt _ (by omega)
  have hl:(mv d e l).length=n:=by unfold mv;rw [List.length_map];exact hn
  refine (ins_of hn hl ?_ ?_).symm
  · unfold onB
    rw [hn,hl]
    constructor
    · rintro ⟨i, hi, ho⟩
      refine ⟨i,hi,?_⟩
      have:=(onS_sh d e _ _ q).2 ho
      rwa [← g i hi,←g _ (hm _)] at this
    · rintro ⟨i, hi, ho⟩
      refine ⟨i,hi,(onS_sh d e _ _ q).1 ?_⟩
      rw [← g i hi,←g _ (hm _)];exact ho
  · unfold hits
    refine List.countP_congr fun i hi=> ?_
    have hi':i<n:=by simpa using hi
    rw [g i hi',g _ (hm _)]
    simp only [decide_eq_true_eq,hit_sh]
theorem turned {l:List P2} {k:Nat} {q:P2} {d e:Int} (h:ck l=0) (hk:k≤l.length) (hs:∀x∈l,inR (sh d e x)):
    (ck (rot l k)=0∧ins (rot l k) q=ins l q)∧(ck l.reverse=0∧ins l.reverse q=ins l q)∧(ck (mv d e l)=0∧ins (mv d e l) (sh d e q)=ins l q):=by
  have hm:=Sm.of h
  have hr:=(ok h).rng
  have h3:=hm.n3
  have t1:=rot_turn (l:=l) rfl hk (by omega)
  have t2:=rev_turn (l:=l) rfl (by omega)
  refine ⟨⟨(rot_sm hm hk).ck fun x hx=>hr x ((rot_perm l k).mem_iff.1 hx),(ins_of rfl t1.len' (t1.onB q).symm (t1.hits q).symm).symm⟩,⟨(rev_sm hm).ck fun x hx=>hr x (List.mem_reverse.1 hx),(ins_of rfl t2.len' (t2.onB q).symm (t2.hits q).symm).symm⟩,⟨(mv_sm hm).ck fun x hx=> ?_,ins_mv rfl (by omega)⟩⟩
  obtain ⟨y,hy,rfl⟩:=List.mem_map.1 hx
  exact hs y hy
structure Rv (n:Nat) (l X:List P2) (i:Nat):Prop where
  len:X.length=n
  le:2*i≤n+1
  at1:∀m,m<n→gt X m=if m<i∨n≤m+i then gt l (n - 1 - m) else gt l m
theorem Rv.zero {n:Nat} {l:List P2} (hn:l.length=n):Rv n l l 0:=⟨hn,by omega,fun m hm=>by rw [if_neg (by omega)]⟩
theorem gt_set {X:List P2} {i m:Nat} {x:P2} (h:i<X.length):gt (X.set i x) m=if m=i then x else gt X m:=by
  unfold gt
  rw [List.getD_eq_getElem?_getD,List.getElem?_set,List.getD_eq_getElem?_getD]
  by_cases e:i=m
  · subst e;rw [if_pos rfl,if_pos rfl,if_pos h];rfl
  · rw [if_neg e,if_neg (fun k=>e k.symm)]
theorem Rv.step {n i:Nat} {l X:List P2} (h:Rv n l X i) (hi:i<n - 1 - i):Rv n l ((X.set i (gt X (n - 1 - i))).set (n - 1 - i) (gt X i)) (i+1):=by
  have hl:=h.len
  refine ⟨by rw [List.length_set,List.length_set];exact hl,by omega,fun m hm=> ?_⟩
  rw [gt_set (by rw [List.length_set];omega),gt_set (by omega),h.at1 i (by omega),h.at1 (n - 1 - i) (by omega),h.at1 m hm]
  by_cases e1:m=n - 1 - i
  · rw [if_pos e1,if_neg (by omega),if_pos (by omega),show n - 1 - m=i by omega]
  rw [if_neg e1]
  by_cases e2:m=i
  · rw [if_pos e2,if_neg (by omega),if_pos (by omega),e2]
  rw [if_neg e2]
  by_cases e3:m<i∨n≤m+i
  · rw [if_pos e3,if_pos (by omega)]
  · rw [if_neg e3,if_neg (by omega)]
theorem Rv.fin {n i:Nat} {l X:List P2} (h:Rv n l X i) (hn:l.length=n) (hi:n≤2*i+1):X=l.reverse:=by
  have hl:=h.len
  refine Ms.ext_getD (0,0) (by rw [List.length_reverse];omega) fun m hm=> ?_
  have h1:=h.at1 m (by omega)
  have h2:=gt_rev hn (i:=m) (by omega)
  show gt X m=gt l.reverse m
  rw [h1,h2]
  split
  · rfl
  · rw [show n - 1 - m=m by omega]
theorem mv_take {d e:Int} {l:List P2} {i:Nat} (h:i<l.length):mv d e (l.take (i+1))=mv d e (l.take i)++[((l.getD i (0,0)).1+d,(l.getD i (0,0)).2+e)]:=by
  unfold mv;rw [Ms.take_snoc (0,0) h,List.map_append];rfl
theorem kmod {z:Int} {n:Nat} (hn:0<n):∃k:Nat,k<n∧(z.tmod (n:Int)+(n:Int)).tmod (n:Int)=(k:Int):=by
  have h1:=Int.lt_tmod_of_pos z (b:=(n:Int)) (by omega)
  have h2:0≤z.tmod (n:Int)+(n:Int):=by omega
  have h3:=Int.tmod_nonneg (n:Int) h2
  have h4:=Int.tmod_lt_of_pos (z.tmod (n:Int)+(n:Int)) (b:=(n:Int)) (by omega)
  exact ⟨((z.tmod (n:Int)+(n:Int)).tmod (n:Int)).toNat,by omega,by omega⟩
end Go.Proofs.YtjcpbhlijoigfaaGreat.Pg
namespace Go.Proofs.YtjcpbhlijoigfaaGreat.Sp
open Go
theorem Mem.rowSome {c:Cx} {O:List As} {R:List Fa} {α:Type} {T:TypeId} {r:Rp α} {p:Option Addr} {cap:Nat} {l:List α} {w:World} (i:Nat) (hi:O[i]? =some (rowA T r p cap l)) (hl:l≠[]) (mm:Mem c w O R):∃y:Nat×Nat,p=some ⟨y.1,y.2,none⟩∧Mem c w O R:=by
  obtain ⟨hh,g,m0⟩:=mm.perm (zaa hi)
  obtain ⟨h1,h2,a,eh,s,y⟩:=m0.sep
  rcases s with ⟨e1,e2,e3,e4⟩|⟨b,off,cells,e1,e2,e3,e4,e5,e6⟩
  · exact absurd (by assumption) hl
  · exact ⟨(b,off),by assumption,mm⟩
section
variable {P : Program} {Q : Exit → Act → World → Prop} {c : Cx} {n : Sz} {ops : Array Oper} {m : Fm} {OW O : List As} {R : List Fa} {k wi : Nat} {L : Array Bool}
theorem zag {i:Nat} {t0:Tmp} {ty:TypeId} {ps:String} {af:Array Edge} {gd:Option (Nat×Bool)} {xs:List Operand} {ats:Array TypeId} {f:Nat} {vs:List Value} {R':List Fa} {js:List Nat} {Y:Type} {φ:Y→Prop} {val:Y→Value} {O1:Y→List As} {R1:Y→List Fa}
    (hne:Nat.beq i wi=false) (hi:ops[i]? =some ⟨some t0,.call ⟨.value (.func f),xs.toArray,ats⟩,ty,ps,af,gd⟩) (hw:wnt ops m ⟨some t0,.call ⟨.value (.func f),xs.toArray,ats⟩,ty,ps,af,gd⟩=some true) (hd:Nat.ble (t0+1) n.sz=true) (hx:evs m xs vs) (hc:CanEnter P f)
    (h:Con P f vs [] R' φ val O1 R1) (hs:SelR js R R')
    (kont:∀y,φ y→RunD P ops Q c n wi k (L.setIfInBounds i true) ((t0,val y) :: m) (O1 y++OW) O (R1 y++R)):RunO P ops Q c n wi k L i m OW O R:=
  zra hne hi hw hd (Ef.weakR hs (zFc (first:=[]) (cap:=[]) rfl hx hc (by simpa using h))) kont
end
end Go.Proofs.YtjcpbhlijoigfaaGreat.Sp
namespace Go.Proofs.YtjcpbhlijoigfaaGreat.Sp
open Go
set_option linter.unusedVariables false
set_option maxRecDepth 100000
set_option maxHeartbeats 8000000
theorem zPd {p:Option Addr} {n:Nat} {cap:Nat} {l:List (Pg.P2)} (hn:l.length=n) (hb:n≤1048576):Con ye 28 [.slice p n cap] [] [slF (rI2 .i64) p cap l] (Y:=(Option Addr)×Nat) (fun y=>True) (fun y=> .slice (y.1) (l.length) (y.2)) (fun y=>[rowA 30 (rI2 .i64) (y.1) (y.2) l]) (fun y=>[]):=by
 refine zl Tryz.func28 rfl rfl rfl (fun c=> ?_)
 show RunC _ _ _ _ _ [(0,.slice p n cap)] [] [slF (rI2 .i64) p cap l]
 refine zda 0 rfl (fun hL0=> ?_)
 refine c_nil 0 rfl (fun hnil=> ?_)
 refine zg<|za<|e_p (zc rfl)<|zh<|zd<|zg<|zg<|za<|e_mv rfl<|e_p (zyc ya rfl rfl)<|zh<|zd<|zmb rfl (fun h0=> ?_) (fun h0=> ?_)
 ·
  refine zg<|za<|e_p (zc rfl)<|zh<|zd<|zK<|zi ?_
  obtain rfl:l=[]:=hnil (by simpa using h0)
  refine zGf 30 (rI2 .i64) ?_
  exact zt Tryz.results28 (none,0) trivial (zk rfl) rfl (ho:=((.c (i:=0) rfl .n):PickO _ _ _)) (.n:SelR _ _ _)
 ·
  refine zA<|zd<|zg<|za<|zFa rfl rfl (zta (rI2 .i64) ya inf30) (fun b1 _=> ?_)
  refine e_mv rfl<|zIa 0 rfl rfl rfl (zpa 0 rfl ya inf30 dd rfl rfl cbs rfl cbs (by first|omega|(simp;omega)) (by first|omega|(simp;omega))) (fun _=> .z) ?_
  rintro ⟨p2,c3⟩ -
  dsimp only [aq,nq,cq]
  refine e_p (zc rfl)<|zh<|zd<|zK ?_
  exact zt Tryz.results28 (p2,c3) trivial (zk rfl) (by simp [hn]) (ho:=((.c (i:=0) rfl .n):PickO _ _ _)) (.n:SelR _ _ _)
theorem zme {p:Option Addr} {n:Nat} {cap:Nat} {l:List Pg.P2} (hn:l.length=n) (hb:n≤1048576):Con ye 29 [.slice p n cap] [rowA 30 (rI2 .i64) p cap l] [] (Y:=Unit) (fun y=>True) (fun y=> .tuple #[]) (fun y=>[rowA 30 (rI2 .i64) p cap (l.reverse)]) (fun y=>[]):=by
 refine zl Tryz.func29 rfl rfl rfl (fun c=> ?_)
 show RunC _ _ _ _ _ [(0,.slice p n cap)] [rowA 30 (rI2 .i64) p cap l] []
 refine zg<|za<|e_mv rfl<|e_p (zN ya rfl)<|e_p (zja (z:=(((n:Nat):Int) - 1)) rfl rfl (w64 om))<|e_p (zc rfl)<|e_p (zc rfl)<|zh<|zd<|zB<|zma (X:=Nat×(List Pg.P2)) (fun x:Nat×(List Pg.P2)=>Pg.Rv n l x.2 x.1) (fun x=>[(3,.int .i64 (((n:Nat):Int) - 1 - ((x.1:Nat):Int))),(2,.int .i64 ((x.1:Nat):Int)),(0,.slice p n cap)]) (fun x=>[rowA 30 (rI2 .i64) p cap (x.2)]) (fun x=>[]) (fun x:Nat×(List Pg.P2)=>n - x.1) (0,l) (show Pg.Rv n l l 0 from by exact Pg.Rv.zero hn) ((.e rfl (by first|rfl|(congr 1;omega)|simp_all) (.e rfl (by first|rfl|(congr 1;omega)|simp_all) (.c rfl .n))):SubM _ _) (ho:=((.c (i:=0) rfl .n):PickO _ _ _)) (.n:SelR _ _ _) ?_
 rintro ⟨i,X⟩ hV
 replace hV:Pg.Rv n l X i:=hV
 try dsimp only
 have hle:=hV.le
 have hXl:=hV.len
 refine zg<|zg<|za<|e_mv rfl<|e_mv rfl<|e_p (zZ rfl rfl)<|zh<|zd<|zE rfl (fun h1=> ?_) (fun h1=> ?_)
 ·
  have e2:((((n:Nat):Int) - 1 - ((i:Nat):Int)):Int)=(((n - 1 - i):Nat):Int):=by omega
  rw [e2]
  have hXl:=hV.len
  refine c_memx (φ:=fun y:Nat×Nat=>p=some ⟨y.1,y.2,none⟩) (fun w mm=>mm.rowSome 0 rfl (fun h=>by rw [h] at hXl;have h8:(0:Nat)=n:=hXl;omega)) ?_
  rintro ⟨bq,oq⟩ hpq
  replace hpq:p=some ⟨bq,oq,none⟩:=hpq
  rw [hpq]
  refine zA<|zd<|zg<|zB<|zY (OW:=[rowA 30 (rI2 .i64) (some ⟨bq,oq,none⟩) cap X]) (O:=[]) 13 mixed (.block (.then (.then (.block .ret)))) kr<|e_dm 0 rfl rfl rfl<|e_dm 1 rfl rfl rfl<|e_dm 2 rfl rfl rfl<|e_dm 3 rfl rfl rfl<|e_dm 4 rfl rfl rfl<|e_dm 5 rfl rfl rfl<|e_pv 6 rfl rfl (zca (j:=(n - 1 - i)) ya sz30 rfl rfl rfl om)<|zgg 7 rfl rfl kr kr kr rfl rfl (zDb 0 (n - 1 - i) rfl ty30 rfl rfl (gD (d:=(0,0)) om)) (fun _ hok3=> ?_)
  obtain ⟨hok3x,hok3y⟩:=hok3
  replace hok3x:=zG.1 hok3x
  replace hok3y:=zG.1 hok3y
  refine e_dm 8 rfl rfl rfl<|e_dm 9 rfl rfl rfl<|e_pv 10 rfl rfl (zca (j:=i) ya sz30 rfl rfl rfl om)<|zgg 11 rfl rfl kr kr kr rfl rfl (zDb 0 i rfl ty30 rfl rfl (gD (d:=(0,0)) om)) (fun _ hok4=> ?_)
  obtain ⟨hok4x,hok4y⟩:=hok4
  replace hok4x:=zG.1 hok4x
  replace hok4y:=zG.1 hok4y
  refine e_pv 12 rfl rfl (zca (j:=i) ya sz30 rfl rfl rfl om)<|e_one 13 (zKc (A':=fun _=>rowA 30 (rI2 .i64) (some ⟨bq,oq,none⟩) cap (X.set i ((X.getD (n - 1 - i) (0,0)).1,(X.getD (n - 1 - i) (0,0)).2))) kr rfl rfl rfl (zba (j:=i) (x0:=((X.getD (n - 1 - i) (0,0)).1,(X.getD (n - 1 - i) (0,0)).2)) (γ0:=()) rfl rfl (by first|omega|(rw [List.length_map];omega)|(simp only [List.length_set];omega)|(simp;done)|(simp;omega)) rfl rfl sz30 (fun _ _=>by exact ⟨zG.2 (by first|omega|decide|(dsimp only;omega)),zG.2 (by first|omega|decide|(dsimp only;omega))⟩)) (fun _ _=> ?_))
  refine e_pv 14 rfl rfl (zca (j:=(n - 1 - i)) ya sz30 rfl rfl rfl om)<|e_one 15 (zKc (A':=fun _=>rowA 30 (rI2 .i64) (some ⟨bq,oq,none⟩) cap ((X.set i ((X.getD (n - 1 - i) (0,0)).1,(X.getD (n - 1 - i) (0,0)).2)).set (n - 1 - i) ((X.getD i (0,0)).1,(X.getD i (0,0)).2))) kr rfl rfl rfl (zba (j:=(n - 1 - i)) (x0:=((X.getD i (0,0)).1,(X.getD i (0,0)).2)) (γ0:=()) rfl rfl (by first|omega|(rw [List.length_map];omega)|(simp only [List.length_set];omega)|(simp;done)|(simp;omega)) rfl rfl sz30 (fun _ _=>by exact ⟨zG.2 (by first|omega|decide|(dsimp only;omega)),zG.2 (by first|omega|decide|(dsimp only;omega))⟩)) (fun _ _=> ?_))
  refine zU kr<|zO<|zd<|za<|e_mv rfl<|e_p (zI (z:=(((i+1):Nat):Int)) rfl rfl (w64 om))<|e_mv rfl<|e_p (zja (z:=((((n - 1 - i):Nat):Int) - 1)) rfl rfl (w64 om))<|e_p (zc rfl)<|e_p (zc rfl)<|zh ?_
  rw [← hpq]
  refine zga ((i+1),((X.set i ((X.getD (n - 1 - i) (0,0)).1,(X.getD (n - 1 - i) (0,0)).2)).set (n - 1 - i) ((X.getD i (0,0)).1,(X.getD i (0,0)).2))) (show Pg.Rv n l ((X.set i ((X.getD (n - 1 - i) (0,0)).1,(X.getD (n - 1 - i) (0,0)).2)).set (n - 1 - i) ((X.getD i (0,0)).1,(X.getD i (0,0)).2)) (i+1) from by exact hV.step om) (by show n - (i+1)<n - i;omega) ((.e rfl (by first|rfl|(congr 1;omega)|simp_all) (.c rfl (.c rfl .n))):SubM _ _) (ho:=((.c (i:=0) rfl .n):PickO _ _ _)) (.n:SelR _ _ _)
 ·
  refine zla<|zj<|zj<|zw<|p_end ?_
  have e5:(X:List Pg.P2)=l.reverse:=by exact hV.fin hn om
  rw [e5]
  exact zbg Tryz.results29 () trivial rfl (ho:=((.c (i:=0) rfl .n):PickO _ _ _)) (.n:SelR _ _ _)
end Go.Proofs.YtjcpbhlijoigfaaGreat.Sp
namespace Go.Proofs.YtjcpbhlijoigfaaGreat.Sp
open Go
set_option linter.unusedVariables false
set_option maxRecDepth 100000
set_option maxHeartbeats 8000000
theorem ztc {p:Option Addr} {n:Nat} {cap:Nat} {l:List Pg.P2} {hx:Int} {hy:Int} {dx:Int} {dy:Int} {dz:Int} (hn:l.length=n) (hwhx: -9223372036854775808≤hx∧hx≤9223372036854775807) (hwhy: -9223372036854775808≤hy∧hy≤9223372036854775807) (hwdx: -9223372036854775808≤dx∧dx≤9223372036854775807) (hwdy: -9223372036854775808≤dy∧dy≤9223372036854775807) (hwdz: -9223372036854775808≤dz∧dz≤9223372036854775807):Con ye 6 [.slice p n cap,.agg #[.int .i64 hx,.int .i64 hy],.agg #[.int .i64 dx,.int .i64 dy,.int .i64 dz]] [] [slF (rI2 .i64) p cap l] (Y:=Unit) (fun y=>True) (fun y=> .bool true) (fun y=>[]) (fun y=>[]):=by
 refine zl Tryz.func6 rfl rfl rfl (fun c=> ?_)
 show RunC _ _ _ _ _ [(0,.slice p n cap),(1,.agg #[.int .i64 hx,.int .i64 hy]),(2,.agg #[.int .i64 dx,.int .i64 dy,.int .i64 dz])] [] [slF (rI2 .i64) p cap l]
 refine zda 0 rfl (fun hL0=> ?_)
 refine zg<|za<|zM rfl rfl (zQ rfl rfl) (fun b1=> ?_)
 refine zM rfl rfl (zQ rfl rfl) (fun b2=> ?_)
 refine e_p (zc rfl)<|zh<|zd<|zg<|zg<|za<|zL rfl rfl (.n) ce11 (zEf) (.n)<|e_p (zSb rfl)<|zh<|zd<|zib rfl rfl<|zA<|zd<|zg<|zGa (X:=Unit) (fun x=>True) (fun x=>[(64,.bool (decide ((((((12<((n:Nat):Int))∨(Pg.ck l≠0))∨(1000<(max hx hy)))∨((min hx hy)<(-1000)))∨(1000<(max dx dy)))∨((min dx dy)<(-1000))))),(6,.bool false),(5,.pointer (some ⟨b2,0,none⟩)),(4,.pointer (some ⟨b1,0,none⟩)),(0,.slice p n cap)]) (fun x=>[boxA b2 50 [.int .i64 dx,.int .i64 dy,.int .i64 dz],boxA b1 30 [.int .i64 hx,.int .i64 hy]]) (fun x=>[slF (rI2 .i64) p cap l]) ?_ ?_
 ·
  refine za<|e_mv rfl<|e_p (zN ya rfl)<|e_p (zxa rfl rfl)<|zW rfl rfl (zX rfl) (fun h3=> ?_) (fun h3=> ?_)
  ·
   refine e_no<|e_no<|e_no<|e_p (zn rfl rfl)<|e_mv rfl<|e_no<|e_no<|e_no<|e_no<|e_no<|e_no<|e_p (zn rfl rfl)<|e_mv rfl<|e_no<|e_no<|e_no<|e_no<|e_no<|e_no<|e_p (zn rfl rfl)<|e_mv rfl<|e_no<|e_no<|e_no<|e_no<|e_no<|e_no<|e_p (zn rfl rfl)<|e_mv rfl<|e_no<|e_no<|e_no<|e_no<|e_no<|e_no<|e_p (zn rfl rfl)<|zh ?_
   exact zfa () (show True from by first|trivial|omega|simp_all) ((.e rfl (congrArg Value.bool cbu) (.of rfl)):SubM _ _) (ho:=((.of [0,0] rfl):PickO _ _ _)) ((.c (j:=0) rfl .n):SelR _ _ _)
  ·
   refine e_mv rfl<|zL rfl rfl (.c rfl .n) ce16 (zRe (p:=p) (n:=n) (cap:=cap) (l:=l) (hn:=ass)) (.c (j:=0) rfl .n)<|e_p (znb rfl rfl)<|e_p (zn rfl rfl)<|zW rfl rfl (zX rfl) (fun h4=> ?_) (fun h4=> ?_)
   ·
    refine e_no<|e_no<|e_no<|e_no<|e_no<|e_no<|e_p (zn rfl rfl)<|e_mv rfl<|e_no<|e_no<|e_no<|e_no<|e_no<|e_no<|e_p (zn rfl rfl)<|e_mv rfl<|e_no<|e_no<|e_no<|e_no<|e_no<|e_no<|e_p (zn rfl rfl)<|e_mv rfl<|e_no<|e_no<|e_no<|e_no<|e_no<|e_no<|e_p (zn rfl rfl)<|zh ?_
    exact zfa () (show True from by first|trivial|omega|simp_all) ((.e rfl (congrArg Value.bool cbu) (.of rfl)):SubM _ _) (ho:=((.of [0,0] rfl):PickO _ _ _)) ((.c (j:=0) rfl .n):SelR _ _ _)
   ·
    refine e_p (zf yb rfl sz3 rfl rfl)<|e_ru (ze 1 ty3 rfl rfl rfl)<|e_p (zf yb rfl sz3 rfl rfl)<|e_ru (ze 1 ty3 rfl rfl rfl)<|e_p (zcd rfl rfl)<|e_p (zxa rfl rfl)<|e_p (zn rfl rfl)<|zW rfl rfl (zX rfl) (fun h5=> ?_) (fun h5=> ?_)
    ·
     refine e_no<|e_no<|e_no<|e_no<|e_no<|e_no<|e_p (zn rfl rfl)<|e_mv rfl<|e_no<|e_no<|e_no<|e_no<|e_no<|e_no<|e_p (zn rfl rfl)<|e_mv rfl<|e_no<|e_no<|e_no<|e_no<|e_no<|e_no<|e_p (zn rfl rfl)<|zh ?_
     exact zfa () (show True from by first|trivial|omega|simp_all) ((.e rfl (congrArg Value.bool cbu) (.of rfl)):SubM _ _) (ho:=((.of [0,0] rfl):PickO _ _ _)) ((.c (j:=0) rfl .n):SelR _ _ _)
    ·
     refine e_p (zf yb rfl sz3 rfl rfl)<|e_ru (ze 1 ty3 rfl rfl rfl)<|e_p (zf yb rfl sz3 rfl rfl)<|e_ru (ze 1 ty3 rfl rfl rfl)<|e_p (zwd rfl rfl)<|e_p (zZ rfl rfl)<|e_p (zn rfl rfl)<|zW rfl rfl (zX rfl) (fun h6=> ?_) (fun h6=> ?_)
     ·
      refine e_no<|e_no<|e_no<|e_no<|e_no<|e_no<|e_p (zn rfl rfl)<|e_mv rfl<|e_no<|e_no<|e_no<|e_no<|e_no<|e_no<|e_p (zn rfl rfl)<|zh ?_
      exact zfa () (show True from by first|trivial|omega|simp_all) ((.e rfl (congrArg Value.bool cbu) (.of rfl)):SubM _ _) (ho:=((.of [0,0] rfl):PickO _ _ _)) ((.c (j:=0) rfl .n):SelR _ _ _)
     ·
      refine e_p (zoa (i:=0) yd sz3 rfl rfl dd rfl)<|e_ru (ze 0 ty3 rfl rfl rfl)<|e_p (zoa (i:=1) yd sz3 rfl rfl dd rfl)<|e_ru (ze 0 ty3 rfl rfl rfl)<|e_p (zcd rfl rfl)<|e_p (zxa rfl rfl)<|e_p (zn rfl rfl)<|zW rfl rfl (zX rfl) (fun h7=> ?_) (fun h7=> ?_)
      ·
       refine e_no<|e_no<|e_no<|e_no<|e_no<|e_no<|e_p (zn rfl rfl)<|zh ?_
       exact zfa () (show True from by first|trivial|omega|simp_all) ((.e rfl (congrArg Value.bool cbu) (.of rfl)):SubM _ _) (ho:=((.of [0,0] rfl):PickO _ _ _)) ((.c (j:=0) rfl .n):SelR _ _ _)
      ·
       refine e_p (zoa (i:=0) yd sz3 rfl rfl dd rfl)<|e_ru (ze 0 ty3 rfl rfl rfl)<|e_p (zoa (i:=1) yd sz3 rfl rfl dd rfl)<|e_ru (ze 0 ty3 rfl rfl rfl)<|e_p (zwd rfl rfl)<|e_p (zZ rfl rfl)<|e_p (zn rfl rfl)<|zh ?_
       exact zfa () (show True from by first|trivial|omega|simp_all) ((.e rfl (congrArg Value.bool cbu) (.of rfl)):SubM _ _) (ho:=((.of [0,0] rfl):PickO _ _ _)) ((.c (j:=0) rfl .n):SelR _ _ _)
 ·
  rintro ⟨⟩ -
  try dsimp only
  refine zE rfl (fun hlim=> ?_) (fun hlim=> ?_)
  ·
   refine zg<|za<|e_p (zc rfl)<|zh<|zd<|zK<|zi ?_
   exact zt Tryz.results6 () trivial (zk rfl) rfl (ho:=(.n:PickO _ _ _)) (.n:SelR _ _ _)
  ·
   have hn12:n≤12:=by omega
   have hz:Pg.ck l=0:=by omega
   have hq1: -1000≤hx∧hx≤1000∧ -1000≤hy∧hy≤1000:=by omega
   have hd1: -1000≤dx∧dx≤1000∧ -1000≤dy∧dy≤1000:=by omega
   have hn3:3≤n:=by have:=(Pg.ok hz).n3;omega
   refine zA<|zd<|zg<|zg<|za<|e_mv rfl<|e_p (zN ya rfl)<|e_mv rfl<|zh<|zd<|zB<|zma (X:=Nat) (fun x:Nat=>x≤n∧∀j,j<x→ -1000≤(l.getD j (0,0)).1∧(l.getD j (0,0)).1≤1000∧ -1000≤(l.getD j (0,0)).2∧(l.getD j (0,0)).2≤1000) (fun x=>[(67,.int .i64 ((x:Nat):Int)),(66,.int .i64 ((n:Nat):Int)),(65,.slice p n cap),(5,.pointer (some ⟨b2,0,none⟩)),(4,.pointer (some ⟨b1,0,none⟩)),(0,.slice p n cap)]) (fun x=>[boxA b2 50 [.int .i64 dx,.int .i64 dy,.int .i64 dz],boxA b1 30 [.int .i64 hx,.int .i64 hy]]) (fun x=>[slF (rI2 .i64) p cap l]) (fun x:Nat=>n - x) 0 (show 0≤n∧∀j,j<0→ -1000≤(l.getD j (0,0)).1∧(l.getD j (0,0)).1≤1000∧ -1000≤(l.getD j (0,0)).2∧(l.getD j (0,0)).2≤1000 from by exact ⟨Nat.zero_le _,fun j h=>by omega⟩) ((.e rfl (by first|rfl|(congr 1;omega)|simp_all) (.of rfl)):SubM _ _) (ho:=((.of [0,0] rfl):PickO _ _ _)) ((.c (j:=0) rfl .n):SelR _ _ _) ?_
   rintro k hI
   replace hI:k≤n∧∀j,j<k→ -1000≤(l.getD j (0,0)).1∧(l.getD j (0,0)).1≤1000∧ -1000≤(l.getD j (0,0)).2∧(l.getD j (0,0)).2≤1000:=hI
   try dsimp only
   obtain ⟨hk,hall⟩:=hI
   refine zg<|za<|e_p (zZ rfl rfl)<|zh<|zd<|zg<|zE rfl (fun h8=> ?_) (fun h8=> ?_)
   ·
    refine zA<|zd<|zg<|zB<|zg<|za<|zS (x0:=(l.getD k (0,0))) 0 k rfl ya sz30 rfl rfl rfl (by first|rfl|assumption|(simp;done)|(simp;omega)|(simp_all;done)|omega) rfl rfl (gD (d:=(0,0)) om) (fun b9 o10 hok11=> ?_)
    obtain ⟨hok11x,hok11y⟩:=hok11
    replace hok11x:=zG.1 hok11x
    replace hok11y:=zG.1 hok11y
    refine e_ru (zJ (j:=0) 0 ty30 rfl rfl rfl (.t2 .nil))<|zM rfl rfl (zo zr30 rfl) (fun b12=> ?_)
    refine zm 0 rfl rfl rfl rfl rfl sz30 rfl (.t2 .nil) .z<|zh<|zd<|zGa (X:=Unit) (fun x=>True) (fun x=>[(84,.bool (decide ((1000<(max (l.getD k (0,0)).1 (l.getD k (0,0)).2))∨((min (l.getD k (0,0)).1 (l.getD k (0,0)).2)<(-1000))))),(67,.int .i64 ((k:Nat):Int)),(66,.int .i64 ((n:Nat):Int)),(65,.slice p n cap),(5,.pointer (some ⟨b2,0,none⟩)),(4,.pointer (some ⟨b1,0,none⟩)),(0,.slice p n cap)]) (fun x=>[boxA b12 30 [.int .i64 ((l.getD k (0,0)).1),.int .i64 ((l.getD k (0,0)).2)],boxA b2 50 [.int .i64 dx,.int .i64 dy,.int .i64 dz],boxA b1 30 [.int .i64 hx,.int .i64 hy]]) (fun x=>[atF b9 o10 [.int .i64 ((l.getD k (0,0)).1),.int .i64 ((l.getD k (0,0)).2)],slF (rI2 .i64) p cap l]) ?_ ?_
    ·
     refine za<|e_p (zf yb rfl sz3 rfl rfl)<|e_ru (ze 0 ty3 rfl rfl rfl)<|e_p (zf yb rfl sz3 rfl rfl)<|e_ru (ze 0 ty3 rfl rfl rfl)<|e_p (zcd rfl rfl)<|e_p (zxa rfl rfl)<|zW rfl rfl (zX rfl) (fun h13=> ?_) (fun h13=> ?_)
     ·
      refine e_no<|e_no<|e_no<|e_no<|e_no<|e_no<|e_p (zn rfl rfl)<|zh ?_
      exact zfa () (show True from by first|trivial|omega|simp_all) ((.e rfl (congrArg Value.bool cbu) (.of rfl)):SubM _ _) (ho:=((.of [0,0,0] rfl):PickO _ _ _)) ((.of [0,1] rfl):SelR _ _ _)
     ·
      refine e_p (zf yb rfl sz3 rfl rfl)<|e_ru (ze 0 ty3 rfl rfl rfl)<|e_p (zf yb rfl sz3 rfl rfl)<|e_ru (ze 0 ty3 rfl rfl rfl)<|e_p (zwd rfl rfl)<|e_p (zZ rfl rfl)<|e_p (zn rfl rfl)<|zh ?_
      exact zfa () (show True from by first|trivial|omega|simp_all) ((.e rfl (congrArg Value.bool cbu) (.of rfl)):SubM _ _) (ho:=((.of [0,0,0] rfl):PickO _ _ _)) ((.of [0,1] rfl):SelR _ _ _)
    ·
     rintro ⟨⟩ -
     try dsimp only
     refine zE rfl (fun hbig=> ?_) (fun hbig=> ?_)
     ·
      refine zg<|za<|e_p (zc rfl)<|zh<|zd<|zK<|zv<|zi<|zi<|zv<|zi ?_
      exact zt Tryz.results6 () trivial (zk rfl) rfl (ho:=(.n:PickO _ _ _)) (.n:SelR _ _ _)
     ·
      refine zA<|zO<|zd<|za<|e_p (zI (z:=(((k+1):Nat):Int)) rfl rfl (w64 om))<|e_mv rfl<|zh<|zga (k+1) (show (k+1)≤n∧∀j,j<(k+1)→ -1000≤(l.getD j (0,0)).1∧(l.getD j (0,0)).1≤1000∧ -1000≤(l.getD j (0,0)).2∧(l.getD j (0,0)).2≤1000 from by exact ⟨by omega,Ms.all_lt_succ (P:=fun j=> -1000≤(l.getD j (0,0)).1∧(l.getD j (0,0)).1≤1000∧ -1000≤(l.getD j (0,0)).2∧(l.getD j (0,0)).2≤1000) hall (by (try dsimp only);omega)⟩) (by show n - (k+1)<n - k;omega) ((.of rfl):SubM _ _) (ho:=((.of [1,1] rfl):PickO _ _ _)) ((.c (j:=1) rfl .n):SelR _ _ _)
   ·
    have htm:=Int.tmod_lt_of_pos dz (b:=(n:Int)) om
    have htm2:=Int.lt_tmod_of_pos dz (b:=(n:Int)) om
    have hsm:∀x∈l,-1000≤x.1∧x.1≤1000∧ -1000≤x.2∧x.2≤1000:=fun x hx=>by obtain ⟨j,h1,h2⟩:=Ms.mem_getD (0,0) hx;rw [← h2];exact hall j om
    refine zla<|zj<|zj<|zw<|zd<|zg<|za<|e_p (zoa (i:=2) yd sz3 rfl rfl dd rfl)<|e_ru (ze 0 ty3 rfl rfl rfl)<|e_mv rfl<|e_p (zN ya rfl)<|e_p (zwa (z:=(dz).tmod ((n:Nat):Int)) rfl rfl om rfl)<|e_mv rfl<|e_p (zN ya rfl)<|e_p (zI (z:=((dz).tmod ((n:Nat):Int)+((n:Nat):Int))) rfl rfl (w64 om))<|e_mv rfl<|e_p (zN ya rfl)<|e_p (zwa (z:=((dz).tmod ((n:Nat):Int)+((n:Nat):Int)).tmod ((n:Nat):Int)) rfl rfl om rfl)<|e_p (zc rfl)<|zh<|zd<|zg ?_
    obtain ⟨kq,hkq,hke⟩:=Pg.kmod (z:=dz) (show 0<n by omega)
    have e14:(((dz).tmod ((n:Nat):Int)+((n:Nat):Int)).tmod ((n:Nat):Int):Int)=((kq:Nat):Int):=by exact hke
    rw [e14]
    have hdl:((l.take n).drop kq).length=n - kq:=by rw [List.length_drop,List.length_take];omega
    have htl:(l.take kq).length=kq:=by rw [List.length_take];omega
    refine zY (OW:=[]) (O:=[boxA b2 50 [.int .i64 dx,.int .i64 dy,.int .i64 dz],boxA b1 30 [.int .i64 hx,.int .i64 hy]]) 7 mixed (.then .ret) kr<|e_dm 0 rfl rfl rfl<|e_dm 1 rfl rfl rfl<|e_pv 2 rfl rfl (zkd (lo:=kq) (hi:=n) ya sz30 rfl (.s rfl) .n (.inr ⟨_,rfl⟩) (.inl ⟨rfl,rfl⟩) om om)<|zqb (zne 0 rfl kq n om om) (fun _ _=> ?_)
    refine e_dm 4 rfl rfl rfl<|e_dm 5 rfl rfl rfl<|e_pv 6 rfl rfl (zob (hi:=kq) ya sz30 rfl (.s rfl) (.inr ⟨_,rfl⟩) om)<|zqb (zNb 1 rfl kq om) (fun _ _=> ?_)
    refine e_one 3 (zag rfl rfl rfl rfl (.c rfl .n) ce28 (zPd (p:=(newP p cap kq 2)) (n:=n - kq) (cap:=(cap - kq)) (l:=((l.take n).drop kq)) (hn:=by first|rfl|assumption|omega|(rw [List.length_drop,List.length_take];omega)) (hb:=by first|rfl|assumption|omega|(rw [List.length_drop,List.length_take];omega))) (.c (j:=1) rfl .n) ?_)
    rintro ⟨p215,c216⟩ -
    dsimp only [aq,nq,cq]
    refine e_one 7 (zKc (A':=fun v:Option Addr×Nat=>rowA 30 (rI2 .i64) v.1 v.2 (((l.take n).drop kq)++(l.take kq))) kr rfl rfl rfl (zpa 0 rfl ya inf30 dd rfl rfl (by first|rfl|assumption|(simp;done)|(simp;omega)|(simp_all;done)|omega) rfl (by first|rfl|assumption|(simp;done)|(simp;omega)|(simp_all;done)|omega) om om) ?_)
    rintro ⟨p17,c18⟩ -
    dsimp only [aq,nq,cq]
    refine e_pv 8 rfl rfl (zc rfl)<|zU kr<|zd<|zg<|c_addF (slF (rI2 .i64) p cap l) (fun g hr=>Holds.get 2 rfl hr) ?_
    have e19:(l.take n).drop kq=l.drop kq:=by rw [List.take_of_length_le om]
    rw [e19]
    refine za<|e_mv rfl<|zD rfl rfl (.c rfl .n) ce28 (zPd (p:=p) (n:=n) (cap:=cap) (l:=l) (hn:=ass) (hb:=cbo)) (.c (j:=0) rfl .n) ?_
    rintro ⟨p220,c221⟩ -
    dsimp only [aq,nq,cq]
    refine e_p (zc rfl)<|zh<|zd<|zg<|za<|e_mv rfl<|zWb (A:=[rowA 30 (rI2 .i64) p220 c221 l]) (F:=[rowA 30 (rI2 .i64) p17 c18 ((l.drop kq)++(l.take kq)),boxA b2 50 [.int .i64 dx,.int .i64 dy,.int .i64 dz],boxA b1 30 [.int .i64 hx,.int .i64 hy]]) (first:=[]) (cap:=[]) rfl rfl rfl (.c rfl .n) ce29 (zme (p:=p220) (n:=l.length) (cap:=c221) (l:=l) (hn:=cbo) (hb:=cbo)) (.n) ?_
    rintro ⟨⟩ -
    dsimp only [aq,nq,cq]
    refine zh<|zd<|zg<|za<|e_p (zc rfl)<|zh<|zd<|zg<|zg<|zdb 30 (rI2 .i64)<|za<|e_mv rfl<|e_p (zN ya rfl)<|e_mv rfl<|zh<|zd<|zB<|zma (X:=Nat×(Option Addr)×Nat) (fun x:Nat×(Option Addr)×Nat=>x.1≤n) (fun x=>[(12,.slice (x.2.1) (x.1) (x.2.2)),(111,.int .i64 ((x.1:Nat):Int)),(110,.int .i64 ((n:Nat):Int)),(109,.slice p n cap),(11,.slice p220 (l.length) c221),(10,.slice p17 (((l.drop kq).length)+kq) c18),(5,.pointer (some ⟨b2,0,none⟩)),(4,.pointer (some ⟨b1,0,none⟩)),(0,.slice p n cap)]) (fun x=>[rowA 30 (rI2 .i64) (x.2.1) (x.2.2) (Pg.mv dx dy (l.take x.1)),rowA 30 (rI2 .i64) p220 c221 (l.reverse),rowA 30 (rI2 .i64) p17 c18 ((l.drop kq)++(l.take kq)),boxA b2 50 [.int .i64 dx,.int .i64 dy,.int .i64 dz],boxA b1 30 [.int .i64 hx,.int .i64 hy]]) (fun x=>[slF (rI2 .i64) p cap l,slF (rI2 .i64) p cap (l.take kq),slF (rI2 .i64) (newP p cap kq 2) (cap - kq) (l.drop kq),slF (rI2 .i64) p cap l]) (fun x:Nat×(Option Addr)×Nat=>n - x.1) (0,none,0) (show 0≤n from by exact Nat.zero_le _) ((.c rfl (.e rfl (by first|rfl|(congr 1;omega)|simp_all) (.of rfl))):SubM _ _) (ho:=((.e (i:=0) rfl (by first|rfl|(congr 1;omega)|simp_all) (.of [0,0,0,0] rfl)):PickO _ _ _)) ((.of [0,1,2,0] rfl):SelR _ _ _) ?_
    rintro ⟨i,p7,c7⟩ hJ
    replace hJ:i≤n:=hJ
    try dsimp only
    refine zg<|za<|e_p (zZ rfl rfl)<|zh<|zd<|zg<|zE rfl (fun h22=> ?_) (fun h22=> ?_)
    ·
     have hmx:=hsm _ (Ms.getD_mem (l:=l) (i:=i) (0,0) om)
     have hpl:(Pg.mv dx dy (l.take i)).length=i:=by unfold Pg.mv;rw [List.length_map,List.length_take];omega
     refine zA<|zd<|zg<|zB<|zg<|za<|zS (x0:=(l.getD i (0,0))) 0 i rfl ya sz30 rfl rfl rfl (by first|rfl|assumption|(simp;done)|(simp;omega)|(simp_all;done)|omega) rfl rfl (gD (d:=(0,0)) om) (fun b23 o24 hok25=> ?_)
     obtain ⟨hok25x,hok25y⟩:=hok25
     replace hok25x:=zG.1 hok25x
     replace hok25y:=zG.1 hok25y
     refine e_ru (zJ (j:=0) 0 ty30 rfl rfl rfl (.t2 .nil))<|zM rfl rfl (zo zr30 rfl) (fun b26=> ?_)
     refine zm 0 rfl rfl rfl rfl rfl sz30 rfl (.t2 .nil) .z<|zh<|zd<|za<|e_mv rfl<|e_p (zf yb rfl sz3 rfl rfl)<|e_ru (ze 0 ty3 rfl rfl rfl)<|e_p (zoa (i:=0) yd sz3 rfl rfl dd rfl)<|e_ru (ze 4 ty3 rfl rfl rfl)<|e_p (zI (z:=((l.getD i (0,0)).1+dx)) rfl rfl (w64 om))<|e_p (zf yb rfl sz3 rfl rfl)<|e_ru (ze 0 ty3 rfl rfl rfl)<|e_p (zoa (i:=1) yd sz3 rfl rfl dd rfl)<|e_ru (ze 4 ty3 rfl rfl rfl)<|e_p (zI (z:=((l.getD i (0,0)).2+dy)) rfl rfl (w64 om))<|e_p (zC zr30 rfl yb (.c sz3 (.c sz3 .n)) (.c rfl (.c rfl .n)) (.c rfl rfl rfl (.take .nil) (.c rfl rfl rfl (.skip (.take .nil)) .n)))<|zFa rfl rfl (zT (enc:=fun z:Int×Int=>[.int .i64 z.1,.int .i64 z.2]) (ok:=fun z=>InK .i64 z.1∧InK .i64 z.2) (h1:=fun _=>rfl) (h2:=fun _=>rfl) (k:=1) ya inf30 rfl dd dd dd (.c (x:=(((l.getD i (0,0)).1+dx),((l.getD i (0,0)).2+dy))) rfl rfl (fun _ _=>by exact ⟨zG.2 (by first|omega|decide|(dsimp only;omega)),zG.2 (by first|omega|decide|(dsimp only;omega))⟩) .n)) (fun b27 _=> ?_)
     refine zha 0 rfl .z<|zIa 2 rfl rfl rfl (zpa 0 rfl ya inf30 dd rfl rfl (by first|rfl|assumption|(simp;done)|(simp;omega)|(simp_all;done)|omega) rfl (by first|rfl|assumption|(simp;done)|(simp;omega)|(simp_all;done)|omega) om om) (fun _=>(.s (.s .z))) ?_
     rintro ⟨p28,c29⟩ -
     dsimp only [aq,nq,cq]
     refine e_p (zc rfl)<|zh<|zO<|zd ?_
     have hrw:((Pg.mv dx dy (l.take i))++([(((l.getD i (0,0)).1+dx),((l.getD i (0,0)).2+dy))]))=Pg.mv dx dy (l.take (i+1)):=by rw [Pg.mv_take om]
     rw [hrw]
     refine za<|e_p (zI (z:=(((i+1):Nat):Int)) rfl rfl (w64 om))<|e_mv rfl<|zh<|zga ((i+1),p28,c29) (show (i+1)≤n from by show i+1≤n;omega) (by show n - (i+1)<n - i;omega) ((.e rfl (by first|rfl|(congr 1;omega)|simp_all) (.of rfl)):SubM _ _) (ho:=((.of [2,2,2,2,2] rfl):PickO _ _ _)) ((.of [2,3,4,2] rfl):SelR _ _ _)
    ·
     refine zla<|zj<|zj<|zw<|zd<|zg ?_
     have hin9:i=n:=by omega
     have e30:Pg.mv dx dy (l.take i)=Pg.mv dx dy l:=by rw [hin9,List.take_of_length_le om]
     rw [e30]
     have hpl:(Pg.mv dx dy l).length=i:=by unfold Pg.mv;rw [List.length_map];omega
     have hT:=Pg.turned (l:=l) (k:=kq) (q:=(hx,hy)) (d:=dx) (e:=dy) hz om (fun x hx=>by have:=hsm x hx;exact ⟨⟨by show _≤x.1+dx;omega,by show x.1+dx≤_;omega⟩,by show _≤x.2+dy;omega,by show x.2+dy≤_;omega⟩)
     obtain ⟨⟨hT1,hT2⟩,⟨hT3,hT4⟩,hT5,hT6⟩:=hT
     have hnf:¬Pg.far (hx,hy)=true:=fun h=>(of_decide_eq_true h) ⟨⟨by show _≤hx;omega,by show hx≤_;omega⟩,by show _≤hy;omega,by show hy≤_;omega⟩
     have hnf2:¬Pg.far (Pg.sh dx dy (hx,hy))=true:=fun h=>(of_decide_eq_true h) ⟨⟨by show _≤hx+dx;omega,by show hx+dx≤_;omega⟩,by show _≤hy+dy;omega,by show hy+dy≤_;omega⟩
     refine za<|e_mv rfl<|e_ru (zb 4 ty30 rfl rfl (.t2 .nil))<|zL rfl rfl (.c rfl (.c rfl .n)) ce17 (zkb (p:=p) (n:=n) (cap:=cap) (l:=l) (hx:=hx) (hy:=hy) (hn:=ass) (hwhx:=ass) (hwhy:=ass)) (.c (j:=0) rfl .n) ?_
     obtain ⟨hv1,hv2⟩:=Pg.is_ok (l:=l) (q:=(hx,hy)) hz hnf
     have e31:Pg.isV l (hx,hy)=Pg.ins l (hx,hy):=by exact hv1.trans rfl
     rw [e31]
     have e32:Pg.isC l (hx,hy)=0:=by exact hv2
     rw [e32]
     refine e_mv rfl<|e_p (zp rfl rfl)<|e_p (zp rfl rfl)<|e_p (zc rfl)<|e_p (zc rfl)<|zh<|zd<|zg<|za<|e_mv rfl<|e_ru (zb 4 ty30 rfl rfl (.t2 .nil))<|zha 2 rfl (.s (.s .z))<|zL rfl rfl (.c rfl (.c rfl .n)) ce17 (zkb (p:=p17) (n:=((l.drop kq).length)+kq) (cap:=c18) (l:=((l.drop kq)++(l.take kq))) (hx:=hx) (hy:=hy) (hn:=by first|rfl|assumption|(simp only [List.length_append,List.length_drop,List.length_take,List.length_reverse] <;> omega)) (hwhx:=by first|rfl|assumption|(simp only [List.length_append,List.length_drop,List.length_take,List.length_reverse] <;> omega)) (hwhy:=by first|rfl|assumption|(simp only [List.length_append,List.length_drop,List.length_take,List.length_reverse] <;> omega))) (.c (j:=0) rfl .n) ?_
     obtain ⟨hv1,hv2⟩:=Pg.is_ok (l:=Pg.rot l kq) (q:=(hx,hy)) hT1 hnf
     have e33:Pg.isV ((l.drop kq)++(l.take kq)) (hx,hy)=Pg.ins l (hx,hy):=by exact hv1.trans hT2
     rw [e33]
     have e34:Pg.isC ((l.drop kq)++(l.take kq)) (hx,hy)=0:=by exact hv2
     rw [e34]
     refine e_mv rfl<|e_p (zp rfl rfl)<|e_p (zp rfl rfl)<|e_p (zc rfl)<|e_p (zc rfl)<|zh<|zd<|zg<|za<|e_mv rfl<|e_ru (zb 4 ty30 rfl rfl (.t2 .nil))<|zha 1 rfl (.s .z)<|zL rfl rfl (.c rfl (.c rfl .n)) ce17 (zkb (p:=p220) (n:=l.length) (cap:=c221) (l:=l.reverse) (hx:=hx) (hy:=hy) (hn:=by first|rfl|assumption|(simp only [List.length_append,List.length_drop,List.length_take,List.length_reverse] <;> omega)) (hwhx:=by first|rfl|assumption|(simp only [List.length_append,List.length_drop,List.length_take,List.length_reverse] <;> omega)) (hwhy:=by first|rfl|assumption|(simp only [List.length_append,List.length_drop,List.length_take,List.length_reverse] <;> omega))) (.c (j:=0) rfl .n) ?_
     obtain ⟨hv1,hv2⟩:=Pg.is_ok (l:=l.reverse) (q:=(hx,hy)) hT3 hnf
     have e35:Pg.isV l.reverse (hx,hy)=Pg.ins l (hx,hy):=by exact hv1.trans hT4
     rw [e35]
     have e36:Pg.isC l.reverse (hx,hy)=0:=by exact hv2
     rw [e36]
     refine e_mv rfl<|e_p (zp rfl rfl)<|e_p (zp rfl rfl)<|e_p (zc rfl)<|e_p (zc rfl)<|zh<|zd<|zg<|za<|e_mv rfl<|e_p (zf yb rfl sz3 rfl rfl)<|e_ru (ze 4 ty3 rfl rfl rfl)<|e_p (zoa (i:=0) yd sz3 rfl rfl dd rfl)<|e_ru (ze 3 ty3 rfl rfl rfl)<|e_p (zI (z:=(hx+dx)) rfl rfl (w64 om))<|e_p (zf yb rfl sz3 rfl rfl)<|e_ru (ze 4 ty3 rfl rfl rfl)<|e_p (zoa (i:=1) yd sz3 rfl rfl dd rfl)<|e_ru (ze 3 ty3 rfl rfl rfl)<|e_p (zI (z:=(hy+dy)) rfl rfl (w64 om))<|e_p (zC zr30 rfl yb (.c sz3 (.c sz3 .n)) (.c rfl (.c rfl .n)) (.c rfl rfl rfl (.take .nil) (.c rfl rfl rfl (.skip (.take .nil)) .n)))<|zha 0 rfl .z<|zL rfl rfl (.c rfl (.c rfl .n)) ce17 (zkb (p:=p7) (n:=i) (cap:=c7) (l:=(Pg.mv dx dy l)) (hx:=(hx+dx)) (hy:=(hy+dy)) (hn:=cbo) (hwhx:=cbo) (hwhy:=cbo)) (.c (j:=0) rfl .n) ?_
     obtain ⟨hv1,hv2⟩:=Pg.is_ok (l:=Pg.mv dx dy l) (q:=(Pg.sh dx dy (hx,hy))) hT5 hnf2
     have e37:Pg.isV (Pg.mv dx dy l) ((hx+dx),(hy+dy))=Pg.ins l (hx,hy):=by exact hv1.trans hT6
     rw [e37]
     have e38:Pg.isC (Pg.mv dx dy l) ((hx+dx),(hy+dy))=0:=by exact hv2
     rw [e38]
     refine e_mv rfl<|e_p (zp rfl rfl)<|e_p (zp rfl rfl)<|e_p (zc rfl)<|e_p (zc rfl)<|zh<|zd<|zg<|za<|e_mv rfl<|e_mv rfl<|e_p (zI (z:=0) rfl rfl (w64 dd))<|e_mv rfl<|e_p (zI (z:=0) rfl rfl (w64 dd))<|e_mv rfl<|e_p (zI (z:=0) rfl rfl (w64 dd))<|e_p (zya rfl rfl)<|e_mv rfl<|e_mv rfl<|e_mv rfl<|e_p (zya rfl rfl) ?_
     rw [show (decide (Pg.ins l (hx,hy)=Pg.ins l (hx,hy)))=true from by exact decide_eq_true rfl]
     refine e_p (zn rfl rfl)<|e_mv rfl<|e_mv rfl<|e_mv rfl<|e_p (zya rfl rfl) ?_
     rw [show (decide (Pg.ins l (hx,hy)=Pg.ins l (hx,hy)))=true from by exact decide_eq_true rfl]
     refine e_p (zn rfl rfl)<|e_mv rfl<|e_mv rfl<|e_mv rfl<|e_p (zya rfl rfl) ?_
     rw [show (decide (Pg.ins l (hx,hy)=Pg.ins l (hx,hy)))=true from by exact decide_eq_true rfl]
     refine e_p (zn rfl rfl)<|e_p (zc rfl)<|zh<|zd<|zK ?_
     exact zt Tryz.results6 () trivial (zk rfl) rfl (ho:=(.n:PickO _ _ _)) (.n:SelR _ _ _)
end Go.Proofs.YtjcpbhlijoigfaaGreat.Sp
