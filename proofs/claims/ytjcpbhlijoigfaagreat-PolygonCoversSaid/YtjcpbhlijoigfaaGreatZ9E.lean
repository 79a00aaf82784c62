/- Lemmas on the walk and plain lemmas that the claim of this folder uses; each states its own conditions. Lines were printed by a program of ours. -/
import Derived.Test.YtjcpbhlijoigfaaGreatZ9D
set_option linter.unusedVariables false
set_option linter.unusedSimpArgs false
set_option linter.unusedSectionVars false
open Go.Proofs.Tryz renaming underlying50 → ya, underlying43 → yb, underlying30 → yc, underlying54 → yd, underlying22 → ye, prog → yf, underlying103 → yh, underlying102 → yi, results31 → yj, underlying34 → yk, underlying69 → yn, results9 → yp, underlying3 → yq
open Go.Proofs.YtjcpbhlijoigfaaGreat.Big renaming zR → yg, hq_num → yl, hq_den → ym, hq → yo, raw → yr, zLa → yt
namespace Go.Proofs.YtjcpbhlijoigfaaGreat.Sp
open Go
set_option linter.unusedVariables false
set_option maxRecDepth 100000
set_option maxHeartbeats 8000000
theorem zjd {z:Int} (hz: -9223372036854775808≤z∧z≤9223372036854775807):Con yf 74 [.int .i64 z] [] [] (Y:=(Option Addr)×Nat) (fun y=>True) (fun y=> .agg #[.bool (decide (z<0)),.slice (y.1) ((Big.digs ((z).natAbs)).length) (y.2)]) (fun y=>[]) (fun y=>[slF (rI .u32) (y.1) (y.2) (Big.digs ((z).natAbs))]):=by
 refine zl Tryz.func74 rfl rfl rfl (fun c=> ?_)
 show RunC _ _ _ _ _ [(0,.int .i64 z)] [] []
 refine zg<|za<|zM rfl rfl (zo zr41 rfl) (fun b1=> ?_)
 refine zh<|zd<|zg<|za<|e_mv rfl<|zC rfl rfl (.c rfl .n) ce113 (zuf (z:=z) (hz:=ass)) (.n) ?_
 rintro ⟨p22,c23⟩ -
 dsimp only [aq,nq,cq]
 refine zm 0 rfl rfl rfl rfl rfl sz41 rfl (.t2 .nil) .z<|zh<|zd<|zI ?_
 exact zu Tryz.results74 (p22,c23) trivial (zr 0 ty41 rfl rfl (.t2 .nil)) rfl (ho:=(.n:PickO _ _ _)) ((.c (j:=0) rfl .n):SelR _ _ _)
theorem zDb {z:Int} (hz: -9223372036854775808≤z∧z≤9223372036854775807):Con yf 74 [.int .i64 (z)] [] [] (Y:=(Wd)) (fun y=>True) (fun y=> .agg #[y.b,y.l]) (fun y=>[]) (fun y=>[zF y (z)]):=by
  exact zUb (zjd hz)
theorem zkd {z:Int} (hz: -9223372036854775808≤z∧z≤9223372036854775807):Con yf 26 [.int .i64 z] [] [] (Y:=Wd×Wd) (fun y=>True) (fun y=> .agg #[y.1.b,y.1.l,y.2.b,y.2.l]) (fun y=>[]) (fun y=>[qF true y.1 y.2 ((z:Int):Rat)]):=by
 refine zl Tryz.func26 rfl rfl rfl (fun c=> ?_)
 show RunC _ _ _ _ _ [(0,.int .i64 z)] [] []
 refine zg<|za<|zM rfl rfl (zo zr43 rfl) (fun b1=> ?_)
 refine zh<|zd<|zg<|za<|e_mv rfl<|zC rfl rfl (.c rfl .n) ce74 (zDb (z:=z) (hz:=ass)) (.n) ?_
 rintro w32 -
 dsimp only [aq,nq,cq]
 refine zC rfl rfl (.c rfl .n) ce74 (zDb (z:=1) (hz:=by first|rfl|assumption|omega|(rw [yg];omega)|(decide +kernel))) (.n) ?_
 rintro w33 -
 dsimp only [aq,nq,cq]
 refine e_p (zH zr43 rfl yb (.c sz41 (.c sz41 .n)) (.c rfl (.c rfl .n)) (.c rfl rfl rfl (.t2 .nil) (.c rfl rfl rfl (.s2 (.t2 .nil)) .n)))<|zm 0 rfl rfl rfl rfl rfl sz43 rfl (.t4 .nil) .z<|zh<|zd<|zI<|zJb (qF true w32 w33 ((z:Int):Rat)) (qF_close 1 0 rfl rfl (by exact ⟨(Rat.num_intCast z).symm,by rw [Rat.den_intCast];rfl,Nat.le_trans (Big.hq_64 hz.1 hz.2) dd⟩)) ?_
 exact zu Tryz.results26 (w32,w33) trivial (zr 0 ty43 rfl rfl (.t4 .nil)) rfl (ho:=(.n:PickO _ _ _)) ((.c (j:=0) rfl .n):SelR _ _ _)
theorem zbd {s:Bool} {p1:Option Addr} {n1:Nat} {c1:Nat} {l1:List Int} {t:Bool} {p2:Option Addr} {n2:Nat} {c2:Nat} {l2:List Int} (hn1:l1.length=n1) (hn2:l2.length=n2) (hm1:n1≤1048576) (hm2:n2≤1048576):Con yf 88 [.agg #[.bool s,.slice p1 n1 c1,.bool t,.slice p2 n2 c2]] [] [slF (rI .u32) p1 c1 l1,slF (rI .u32) p2 c2 l2] (Y:=Unit) (fun y=>True) (fun y=> .bool (decide (Big.qok ((s,l1),(t,l2))))) (fun y=>[]) (fun y=>[]):=by
 refine zl Tryz.func88 rfl rfl rfl (fun c=> ?_)
 show RunC _ _ _ _ _ [(0,.agg #[.bool s,.slice p1 n1 c1,.bool t,.slice p2 n2 c2])] [] [slF (rI .u32) p1 c1 l1,slF (rI .u32) p2 c2 l2]
 refine zda 0 rfl (fun hL0=> ?_)
 refine zTa 0 rfl (fun hE0=> ?_)
 refine zda 1 rfl (fun hL1=> ?_)
 refine zTa 1 rfl (fun hE1=> ?_)
 have hnn1:Big.nn l1:=fun g hg=>(zB.1 (hE0 g hg)).1
 have hnn2:Big.nn l2:=fun g hg=>(zB.1 (hE1 g hg)).1
 have hb1:Big.ln (yr s l1)≤n1:=by have:=Big.zUa (s:=s) hnn1;omega
 have hb2:Big.ln (yr t l2)≤n2:=by have:=Big.zUa (s:=t) hnn2;omega
 refine zg<|za<|zM rfl rfl (zS rfl rfl) (fun b1=> ?_)
 refine e_p (zc rfl)<|zh<|zd<|zg<|zHa (X:=Unit) (fun x=>True) (fun x=>[(18,.bool (decide (¬(Big.canon s l1∧Big.canon t l2∧0<yr t l2)))),(2,.bool false),(1,.pointer (some ⟨b1,0,none⟩))]) (fun x=>[boxA b1 43 [.bool s,.slice p1 n1 c1,.bool t,.slice p2 n2 c2]]) (fun x=>[slF (rI .u32) p1 c1 l1,slF (rI .u32) p2 c2 l2]) ?_ ?_
 ·
  refine za<|e_p (zf yb rfl sz41 rfl rfl)<|e_ru (zb 0 ty41 rfl rfl (.t2 .nil))<|zL rfl rfl (.c rfl .n) ce122 (zuc (s:=s) (p:=p1) (n:=n1) (cap:=c1) (l:=l1) (hn:=ass)) (.c (j:=0) rfl .n)<|e_p (zVb rfl)<|zV rfl rfl (zW rfl) (fun h2=> ?_) (fun h2=> ?_)
  ·
   refine e_no<|e_no<|e_no<|e_no<|e_p (zn rfl rfl)<|e_mv rfl<|e_no<|e_no<|e_no<|e_no<|e_p (zn rfl rfl)<|zh ?_
   exact zga () (show True from by first|trivial|omega|simp_all) ((.e rfl (congrArg Value.bool (by simp_all)) (.c rfl (.c rfl .n))):SubM _ _) (ho:=((.c (i:=0) rfl .n):PickO _ _ _)) ((.of [0,1] rfl):SelR _ _ _)
  ·
   refine e_p (zf yb rfl sz41 rfl rfl)<|e_ru (zb 0 ty41 rfl rfl (.s2 (.t2 .nil)))<|zL rfl rfl (.c rfl .n) ce122 (zuc (s:=t) (p:=p2) (n:=n2) (cap:=c2) (l:=l2) (hn:=ass)) (.c (j:=1) rfl .n)<|e_p (zVb rfl)<|e_p (zn rfl rfl)<|zV rfl rfl (zW rfl) (fun h3=> ?_) (fun h3=> ?_)
   ·
    refine e_no<|e_no<|e_no<|e_no<|e_p (zn rfl rfl)<|zh ?_
    exact zga () (show True from by first|trivial|omega|simp_all) ((.e rfl (congrArg Value.bool (by simp_all)) (.c rfl (.c rfl .n))):SubM _ _) (ho:=((.c (i:=0) rfl .n):PickO _ _ _)) ((.of [0,1] rfl):SelR _ _ _)
   ·
    refine e_p (zf yb rfl sz41 rfl rfl)<|e_ru (zb 0 ty41 rfl rfl (.s2 (.t2 .nil)))<|zL rfl rfl (.c rfl .n) ce105 (zJd (s:=t) (p:=p2) (n:=n2) (cap:=c2) (l:=l2) (hn:=ass) (hln:=by first|rfl|assumption|omega|(rw [yg];omega)|(decide +kernel))) (.c (j:=1) rfl .n)<|e_p (zKa rfl rfl)<|e_p (zn rfl rfl)<|zh ?_
    exact zga () (show True from by first|trivial|omega|simp_all) ((.e rfl (congrArg Value.bool (by exact decide_eq_decide.2 (Big.sgn_le (Decidable.not_not.1 ‹_›) (Decidable.not_not.1 ‹_›)))) (.c rfl (.c rfl .n))):SubM _ _) (ho:=((.c (i:=0) rfl .n):PickO _ _ _)) ((.of [0,1] rfl):SelR _ _ _)
 ·
  rintro ⟨⟩ -
  try dsimp only
  refine zG rfl (fun hc=> ?_) (fun hc=> ?_)
  ·
   refine zg<|za<|e_p (zc rfl)<|zh<|zd<|zI<|zi ?_
   exact zu Tryz.results88 () trivial (zk rfl) (congrArg Value.bool (decide_eq_false (fun h=>hc ⟨h.1,h.2.1,h.2.2.1⟩))) (ho:=(.n:PickO _ _ _)) (.n:SelR _ _ _)
  ·
   have hcc:=Decidable.not_not.1 hc
   have hgl:=Big.zDd (n:=yr s l1) (d:=yr t l2) om
   refine zw<|zd<|zg<|za<|e_p (zf yb rfl sz41 rfl rfl)<|e_ru (zb 0 ty41 rfl rfl (.t2 .nil))<|e_p (zf yb rfl sz41 rfl rfl)<|e_ru (zb 0 ty41 rfl rfl (.s2 (.t2 .nil)))<|zC rfl rfl (.c rfl (.c rfl .n)) ce109 (zye (s:=s) (p1:=p1) (n1:=n1) (c1:=c1) (l1:=l1) (t:=t) (p2:=p2) (n2:=n2) (c2:=c2) (l2:=l2) (hn1:=ass) (hn2:=ass) (hm1:=by first|rfl|assumption|omega|(rw [yg];omega)|(decide +kernel)) (hm2:=by first|rfl|assumption|omega|(rw [yg];omega)|(decide +kernel))) (.c (j:=0) rfl (.c (j:=1) rfl .n)) ?_
   rintro ⟨p34,c35⟩ -
   dsimp only [aq,nq,cq]
   refine zC rfl rfl (.c rfl .n) ce74 (zjd (z:=1) (hz:=by first|rfl|assumption|omega|(rw [yg];omega)|(decide +kernel))) (.n) ?_
   rintro ⟨p26,c27⟩ -
   dsimp only [aq,nq,cq]
   refine zL rfl rfl (.c rfl (.c rfl .n)) ce123 (zqd (x1:=((Nat.gcd (yr s l1).natAbs (yr t l2).natAbs:Nat):Int)) (x2:=1) (p1:=p34) (c1:=c35) (p2:=p26) (c2:=c27) (hb1:=by first|rfl|assumption|omega|(rw [yg];omega)|(decide +kernel)) (hb2:=by first|rfl|assumption|omega|(rw [yg];omega)|(decide +kernel))) (.c (j:=1) rfl (.c (j:=0) rfl .n))<|e_p (zDa rfl rfl)<|e_p (zc rfl)<|zh<|zd<|zI ?_
   exact zu Tryz.results88 () trivial (zk rfl) (congrArg Value.bool (decide_eq_decide.2 (Big.qok_sub (x:=((s,l1),(t,l2))) (Decidable.not_not.1 hc)).symm)) (ho:=(.n:PickO _ _ _)) (.n:SelR _ _ _)
theorem zDc {u1:Wd} {v1:Wd} {q1:Rat}:Con yf 88 [.agg #[u1.b,u1.l,v1.b,v1.l]] [] [qF true u1 v1 (q1)] (Y:=Unit) (fun y=>True) (fun y=> .bool true) (fun y=>[]) (fun y=>[]):=by
  exact zdg (fun x hx hk h1 h2=>by have h:= @zbd x.1.1 u1.p _ u1.c x.1.2 x.2.1 v1.p _ v1.c x.2.2 rfl rfl h1 h2;rw [decide_eq_true (hk rfl)] at h;exact h)
theorem zle {s:Bool} {p1:Option Addr} {n1:Nat} {c1:Nat} {l1:List Int} {t:Bool} {p2:Option Addr} {n2:Nat} {c2:Nat} {l2:List Int} (hn1:l1.length=n1) (hn2:l2.length=n2) (hm1:n1≤1048576) (hm2:n2≤1048576):Con yf 68 [.agg #[.bool s,.slice p1 n1 c1,.bool t,.slice p2 n2 c2]] [] [slF (rI .u32) p1 c1 l1,slF (rI .u32) p2 c2 l2] (Y:=Wd×Wd) (fun y=>True) (fun y=> .agg #[y.1.b,y.1.l,y.2.b,y.2.l]) (fun y=>[]) (fun y=>[qF true y.1 y.2 (Big.qv ((s,l1),(t,l2)))]):=by
 refine zl Tryz.func68 rfl rfl rfl (fun c=> ?_)
 show RunC _ _ _ _ _ [(0,.agg #[.bool s,.slice p1 n1 c1,.bool t,.slice p2 n2 c2])] [] [slF (rI .u32) p1 c1 l1,slF (rI .u32) p2 c2 l2]
 refine zda 0 rfl (fun hL0=> ?_)
 refine zTa 0 rfl (fun hE0=> ?_)
 refine zda 1 rfl (fun hL1=> ?_)
 refine zTa 1 rfl (fun hE1=> ?_)
 have hnn1:Big.nn l1:=fun g hg=>(zB.1 (hE0 g hg)).1
 have hnn2:Big.nn l2:=fun g hg=>(zB.1 (hE1 g hg)).1
 have hb1:Big.ln (yr s l1)≤n1:=by have:=Big.zUa (s:=s) hnn1;omega
 have hb2:Big.ln (yr t l2)≤n2:=by have:=Big.zUa (s:=t) hnn2;omega
 refine zg<|za<|zM rfl rfl (zS rfl rfl) (fun b1=> ?_)
 refine zM rfl rfl (zo zr43 rfl) (fun b2=> ?_)
 refine zh<|zd<|zg<|zg<|za<|e_ru (zb 1 ty43 rfl rfl (.t4 .nil))<|zL rfl rfl (.c rfl .n) ce88 (zbd (s:=s) (p1:=p1) (n1:=n1) (c1:=c1) (l1:=l1) (t:=t) (p2:=p2) (n2:=n2) (c2:=c2) (l2:=l2) (hn1:=ass) (hn2:=ass) (hm1:=ass) (hm2:=ass)) (.c (j:=0) rfl (.c (j:=1) rfl .n))<|zh<|zd<|zG rfl (fun hq=> ?_) (fun hq=> ?_)
 ·
  have hrp:=Big.raw_parts (x:=((s,l1),(t,l2))) hnn1 hnn2 hq
  have hqp:=Big.qv_parts (x:=((s,l1),(t,l2))) hq
  have hl:yo (Big.qv ((s,l1),(t,l2)))≤1048576:=by unfold yo;rw [hqp.1,hqp.2];dsimp only;omega
  refine zg<|za<|e_ru (zb 1 ty43 rfl rfl (.t4 .nil))<|zm 0 rfl rfl rfl rfl rfl sz43 rfl (.t4 .nil) .z<|zh<|zd<|zI<|zi<|zJb (qF true ⟨s,p1,n1,c1⟩ ⟨t,p2,n2,c2⟩ (Big.qv ((s,l1),(t,l2)))) (fun g r=>qF_rawI 0 1 rfl rfl hn1 hn2 hm1 hm2 hq g r) ?_
  exact zu Tryz.results68 (⟨s,p1,n1,c1⟩,⟨t,p2,n2,c2⟩) trivial (zr 0 ty43 rfl rfl (.t4 .nil)) rfl (ho:=(.n:PickO _ _ _)) ((.c (j:=0) rfl .n):SelR _ _ _)
 ·
  have hz:=Big.qv_not (x:=((s,l1),(t,l2))) hq
  refine zw<|zd<|zg<|za<|zC rfl rfl (.c rfl .n) ce26 (zkd (z:=0) (hz:=by first|rfl|assumption|omega|(rw [yg];omega)|(decide +kernel))) (.n) ?_
  rintro ⟨w33,w44⟩ -
  dsimp only [aq,nq,cq]
  refine zm 0 rfl rfl rfl rfl rfl sz43 rfl (.t4 .nil) .z<|zh<|zd<|zI ?_
  exact zu Tryz.results68 (w33,w44) trivial (zr 0 ty43 rfl rfl (.t4 .nil)) rfl (ho:=(.n:PickO _ _ _)) ((.e (j:=0) rfl (by rw [hz];rfl) .n):SelR _ _ _)
theorem zcb {k1:Bool} {u1:Wd} {v1:Wd} {q1:Rat}:Con yf 68 [.agg #[u1.b,u1.l,v1.b,v1.l]] [] [qF k1 u1 v1 (q1)] (Y:=(Wd)×(Wd)) (fun y=>True) (fun y=> .agg #[y.1.b,y.1.l,y.2.b,y.2.l]) (fun y=>[]) (fun y=>[qF true y.1 y.2 (q1)]):=by
  exact zkf (fun x hx hk h1 h2 hl=>by subst hx;exact zle rfl rfl h1 h2)
theorem zNb {w1:Wd} {w2:Wd} {x1:Int} {x2:Int} (hl1:Big.ln x1≤1048576) (hl2:Big.ln x2≤1048576) (hd:x2≠0):Con yf 72 [.agg #[w1.b,w1.l],.agg #[w2.b,w2.l]] [] [zF w1 x1,zF w2 x2] (Y:=Wd×Wd) (fun y=>True) (fun y=> .agg #[y.1.b,y.1.l,y.2.b,y.2.l]) (fun y=>[]) (fun y=>[qF true y.1 y.2 (Rat.divInt x1 x2)]):=by
 refine zl Tryz.func72 rfl rfl rfl (fun c=> ?_)
 show RunC _ _ _ _ _ [(0,.agg #[w1.b,w1.l]),(1,.agg #[w2.b,w2.l])] [] [zF w1 x1,zF w2 x2]
 refine zg<|za<|zM rfl rfl (zS rfl rfl) (fun b1=> ?_)
 refine zM rfl rfl (zS rfl rfl) (fun b2=> ?_)
 refine zM rfl rfl (zo zr43 rfl) (fun b3=> ?_)
 refine zh<|zd<|zg<|za<|e_ru (zb 2 ty41 rfl rfl (.t2 .nil))<|e_ru (zb 1 ty41 rfl rfl (.t2 .nil))<|zC rfl rfl (.c rfl (.c rfl .n)) ce109 (zAf (w1:=w1) (w2:=w2) (x1:=x1) (x2:=x2) (hb1:=by first|rfl|assumption|omega|(rw [yg];omega)|(decide +kernel)) (hb2:=by first|rfl|assumption|omega|(rw [yg];omega)|(decide +kernel))) (.c (j:=0) rfl (.c (j:=1) rfl .n)) ?_
 rintro w34 -
 dsimp only [aq,nq,cq]
 refine zM rfl rfl (zo zr41 rfl) (fun b5=> ?_)
 refine zm 0 rfl rfl rfl rfl rfl sz41 rfl (.t2 .nil) .z<|zh<|zd<|zg<|zg<|za<|e_ru (zb 2 ty41 rfl rfl (.t2 .nil))<|zL rfl rfl (.c rfl .n) ce105 (zvc (w1:=w2) (x1:=x2) (hln:=by first|rfl|assumption|omega|(rw [yg];omega)|(decide +kernel))) (.c (j:=2) rfl .n)<|e_p (zba rfl rfl)<|zh<|zd<|zG rfl (fun hneg=> ?_) (fun hneg=> ?_)
 ·
  have hs:x2<0:=by rcases Big.sign_le (x:=x2) with h|h|h <;> omega
  have hgp:=Big.gcd_pos_right (n:=x1) (d:=x2) om
  have hgl:=Big.zDd (n:=x1) (d:=x2) om
  obtain ⟨hr1,hr2⟩:=Big.red_neg (n:=x1) hs
  refine za<|e_ru (zb 0 ty41 rfl rfl (.t2 .nil))<|zC rfl rfl (.c rfl .n) ce106 (zId (w1:=w34) (x1:=((Nat.gcd x1.natAbs x2.natAbs:Nat):Int)) (hln:=by first|rfl|assumption|omega|(rw [yg];omega)|(decide +kernel))) (.c (j:=0) rfl .n) ?_
  rintro w36 -
  dsimp only [aq,nq,cq]
  refine zm 0 rfl rfl rfl rfl rfl sz41 rfl (.t2 .nil) .z<|zh<|zd<|zg<|za<|e_ru (zb 3 ty41 rfl rfl (.t2 .nil))<|e_ru (zb 0 ty41 rfl rfl (.t2 .nil))<|zC rfl rfl (.c rfl (.c rfl .n)) ce110 (zrb (w1:=w1) (w2:=w36) (x1:=x1) (x2:= - ((Nat.gcd x1.natAbs x2.natAbs:Nat):Int)) (hb1:=by first|rfl|assumption|omega|(rw [yg];omega)|(decide +kernel)) (hb2:=by first|rfl|assumption|omega|(rw [yg];omega)|(decide +kernel)) (hy:=by first|rfl|assumption|omega|(rw [yg];omega)|(decide +kernel))) (.c (j:=2) rfl (.c (j:=0) rfl .n)) ?_
  rintro ⟨w37,w48⟩ -
  dsimp only [aq,nq,cq]
  refine e_mv rfl<|e_p (zt rfl rfl)<|e_p (zt rfl rfl)<|e_p (zt rfl rfl)<|zM rfl rfl (zo zr41 rfl) (fun b9=> ?_)
  refine zM rfl rfl (zo zr41 rfl) (fun b10=> ?_)
  refine zm 1 rfl rfl rfl rfl rfl sz41 rfl (.t2 .nil) (.s .z)<|zm 0 rfl rfl rfl rfl rfl sz41 rfl (.t2 .nil) .z<|e_p (zc rfl)<|zh<|zd<|zg<|za<|e_ru (zb 4 ty41 rfl rfl (.t2 .nil))<|e_ru (zb 2 ty41 rfl rfl (.t2 .nil))<|zC rfl rfl (.c rfl (.c rfl .n)) ce110 (zrb (w1:=w2) (w2:=w36) (x1:=x2) (x2:= - ((Nat.gcd x1.natAbs x2.natAbs:Nat):Int)) (hb1:=by first|rfl|assumption|omega|(rw [yg];omega)|(decide +kernel)) (hb2:=by first|rfl|assumption|omega|(rw [yg];omega)|(decide +kernel)) (hy:=by first|rfl|assumption|omega|(rw [yg];omega)|(decide +kernel))) (.c (j:=5) rfl (.c (j:=2) rfl .n)) ?_
  rintro ⟨w311,w412⟩ -
  dsimp only [aq,nq,cq]
  refine e_mv rfl<|e_p (zt rfl rfl)<|e_p (zt rfl rfl)<|e_p (zt rfl rfl)<|zM rfl rfl (zo zr41 rfl) (fun b13=> ?_)
  refine zM rfl rfl (zo zr41 rfl) (fun b14=> ?_)
  refine zm 1 rfl rfl rfl rfl rfl sz41 rfl (.t2 .nil) (.s .z)<|zm 0 rfl rfl rfl rfl rfl sz41 rfl (.t2 .nil) .z<|e_p (zc rfl)<|zh<|zd<|zg<|za<|e_ru (zb 3 ty41 rfl rfl (.t2 .nil))<|e_ru (zb 1 ty41 rfl rfl (.t2 .nil))<|e_p (zH zr43 rfl yb (.c sz41 (.c sz41 .n)) (.c rfl (.c rfl .n)) (.c rfl rfl rfl (.t2 .nil) (.c rfl rfl rfl (.s2 (.t2 .nil)) .n)))<|zm 5 rfl rfl rfl rfl rfl sz43 rfl (.t4 .nil) (.s (.s (.s (.s (.s .z)))))<|zh<|zd<|zI<|zJb (qF true w37 w311 (Rat.divInt x1 x2)) (qF_close 2 0 rfl rfl (by exact ⟨hr1,hr2,Nat.le_trans (Big.hq_divInt hd) om⟩)) ?_
  exact zu Tryz.results72 (w37,w311) trivial (zr 5 ty43 rfl rfl (.t4 .nil)) rfl (ho:=(.n:PickO _ _ _)) ((.c (j:=0) rfl .n):SelR _ _ _)
 ·
  have hs:0<x2:=by rcases Big.sign_le (x:=x2) with h|h|h <;> omega
  have hgp:=Big.gcd_pos_right (n:=x1) (d:=x2) om
  have hgl:=Big.zDd (n:=x1) (d:=x2) om
  obtain ⟨hr1,hr2⟩:=Big.red_pos (n:=x1) hs
  refine zw<|zd<|zg<|za<|e_ru (zb 3 ty41 rfl rfl (.t2 .nil))<|e_ru (zb 0 ty41 rfl rfl (.t2 .nil))<|zC rfl rfl (.c rfl (.c rfl .n)) ce110 (zrb (w1:=w1) (w2:=w34) (x1:=x1) (x2:=((Nat.gcd x1.natAbs x2.natAbs:Nat):Int)) (hb1:=by first|rfl|assumption|omega|(rw [yg];omega)|(decide +kernel)) (hb2:=by first|rfl|assumption|omega|(rw [yg];omega)|(decide +kernel)) (hy:=by first|rfl|assumption|omega|(rw [yg];omega)|(decide +kernel))) (.c (j:=1) rfl (.c (j:=0) rfl .n)) ?_
  rintro ⟨w315,w416⟩ -
  dsimp only [aq,nq,cq]
  refine e_mv rfl<|e_p (zt rfl rfl)<|e_p (zt rfl rfl)<|e_p (zt rfl rfl)<|zM rfl rfl (zo zr41 rfl) (fun b17=> ?_)
  refine zM rfl rfl (zo zr41 rfl) (fun b18=> ?_)
  refine zm 1 rfl rfl rfl rfl rfl sz41 rfl (.t2 .nil) (.s .z)<|zm 0 rfl rfl rfl rfl rfl sz41 rfl (.t2 .nil) .z<|e_p (zc rfl)<|zh<|zd<|zg<|za<|e_ru (zb 4 ty41 rfl rfl (.t2 .nil))<|e_ru (zb 2 ty41 rfl rfl (.t2 .nil))<|zC rfl rfl (.c rfl (.c rfl .n)) ce110 (zrb (w1:=w2) (w2:=w34) (x1:=x2) (x2:=((Nat.gcd x1.natAbs x2.natAbs:Nat):Int)) (hb1:=by first|rfl|assumption|omega|(rw [yg];omega)|(decide +kernel)) (hb2:=by first|rfl|assumption|omega|(rw [yg];omega)|(decide +kernel)) (hy:=by first|rfl|assumption|omega|(rw [yg];omega)|(decide +kernel))) (.c (j:=4) rfl (.c (j:=2) rfl .n)) ?_
  rintro ⟨w319,w420⟩ -
  dsimp only [aq,nq,cq]
  refine e_mv rfl<|e_p (zt rfl rfl)<|e_p (zt rfl rfl)<|e_p (zt rfl rfl)<|zM rfl rfl (zo zr41 rfl) (fun b21=> ?_)
  refine zM rfl rfl (zo zr41 rfl) (fun b22=> ?_)
  refine zm 1 rfl rfl rfl rfl rfl sz41 rfl (.t2 .nil) (.s .z)<|zm 0 rfl rfl rfl rfl rfl sz41 rfl (.t2 .nil) .z<|e_p (zc rfl)<|zh<|zd<|zg<|za<|e_ru (zb 3 ty41 rfl rfl (.t2 .nil))<|e_ru (zb 1 ty41 rfl rfl (.t2 .nil))<|e_p (zH zr43 rfl yb (.c sz41 (.c sz41 .n)) (.c rfl (.c rfl .n)) (.c rfl rfl rfl (.t2 .nil) (.c rfl rfl rfl (.s2 (.t2 .nil)) .n)))<|zm 5 rfl rfl rfl rfl rfl sz43 rfl (.t4 .nil) (.s (.s (.s (.s (.s .z)))))<|zh<|zd<|zI<|zJb (qF true w315 w319 (Rat.divInt x1 x2)) (qF_close 2 0 rfl rfl (by exact ⟨hr1,hr2,Nat.le_trans (Big.hq_divInt hd) om⟩)) ?_
  exact zu Tryz.results72 (w315,w319) trivial (zr 5 ty43 rfl rfl (.t4 .nil)) rfl (ho:=(.n:PickO _ _ _)) ((.c (j:=0) rfl .n):SelR _ _ _)
theorem zYf {w1:Wd} {w2:Wd} {x1:Int} {x2:Int} (hl1:Big.ln x1≤1048576) (hl2:Big.ln x2≤1048576):Con yf 127 [.agg #[w1.b,w1.l],.agg #[w2.b,w2.l]] [] [zF w1 x1,zF w2 x2] (Y:=Wd×Wd) (fun y=>True) (fun y=> .tuple #[.agg #[y.1.b,y.1.l,y.2.b,y.2.l],.int .i64 (if x2=0 then 14 else 0)]) (fun y=>[]) (fun y=>[qF (decide (x2≠0)) y.1 y.2 (Rat.divInt x1 x2)]):=by
 refine zl Tryz.func127 rfl rfl rfl (fun c=> ?_)
 show RunC _ _ _ _ _ [(0,.agg #[w1.b,w1.l]),(1,.agg #[w2.b,w2.l])] [] [zF w1 x1,zF w2 x2]
 refine zg<|za<|zM rfl rfl (zS rfl rfl) (fun b1=> ?_)
 refine zM rfl rfl (zS rfl rfl) (fun b2=> ?_)
 refine zM rfl rfl (zo zr43 rfl) (fun b3=> ?_)
 refine e_p (zc rfl)<|zh<|zd<|zg<|zg<|za<|e_ru (zb 1 ty41 rfl rfl (.t2 .nil))<|zL rfl rfl (.c rfl .n) ce105 (zvc (w1:=w2) (x1:=x2) (hln:=by first|rfl|assumption|omega|(rw [yg];omega)|(decide +kernel))) (.c (j:=1) rfl .n)<|e_p (zDa rfl rfl)<|zh<|zd<|zG rfl (fun hz0=> ?_) (fun hz0=> ?_)
 ·
  have hx0:x2=0:=Big.sign_zero.1 hz0
  refine zg<|za<|e_p (zH zr43 rfl yb (.c sz41 (.c sz41 .n)) .n .n)<|zm 0 rfl rfl rfl rfl rfl sz43 rfl (.t4 .nil) .z<|e_p (zc rfl)<|zh<|zd<|zI<|zi<|zJb (qF false wz wz 0) (fun g _=>qF_none g) ?_
  exact zza Tryz.results127 (wz,wz) trivial (zr 0 ty43 rfl rfl (.t4 .nil)) (zk rfl) (by rw [if_pos hx0];rfl) (ho:=(.n:PickO _ _ _)) ((.e (j:=0) rfl (by rw [Big.divInt_nil hx0,decide_eq_false (not_not_intro hx0)]) .n):SelR _ _ _)
 ·
  have hx0:x2≠0:=fun e=>hz0 (Big.sign_zero.2 e)
  refine zw<|zd<|zg<|za<|e_ru (zb 2 ty41 rfl rfl (.t2 .nil))<|e_ru (zb 1 ty41 rfl rfl (.t2 .nil))<|zC rfl rfl (.c rfl (.c rfl .n)) ce72 (zNb (w1:=w1) (w2:=w2) (x1:=x1) (x2:=x2) (hl1:=ass) (hl2:=ass) (hd:=by first|rfl|assumption|omega|(rw [yg];omega)|(decide +kernel))) (.c (j:=0) rfl (.c (j:=1) rfl .n)) ?_
  rintro ⟨w34,w45⟩ -
  dsimp only [aq,nq,cq]
  refine zm 0 rfl rfl rfl rfl rfl sz43 rfl (.t4 .nil) .z<|e_p (zc rfl)<|zh<|zd<|zI ?_
  exact zza Tryz.results127 (w34,w45) trivial (zr 0 ty43 rfl rfl (.t4 .nil)) (zk rfl) (by rw [if_neg hx0]) (ho:=(.n:PickO _ _ _)) ((.e (j:=0) rfl (by rw [decide_eq_true hx0]) .n):SelR _ _ _)
theorem zZf {z1:Int} {z2:Int} (hz1: -9223372036854775808≤z1∧z1≤9223372036854775807) (hz2: -9223372036854775808≤z2∧z2≤9223372036854775807):Con yf 107 [.int .i64 z1,.int .i64 z2] [] [] (Y:=Wd×Wd) (fun y=>True) (fun y=> .tuple #[.agg #[y.1.b,y.1.l,y.2.b,y.2.l],.int .i64 (if z2=0 then 14 else 0)]) (fun y=>[]) (fun y=>[qF (decide (z2≠0)) y.1 y.2 (Rat.divInt z1 z2)]):=by
 refine zl Tryz.func107 rfl rfl rfl (fun c=> ?_)
 show RunC _ _ _ _ _ [(0,.int .i64 z1),(1,.int .i64 z2)] [] []
 have g1:=Big.zlg hz1.1 hz1.2
 have g2:=Big.zlg hz2.1 hz2.2
 refine zg<|za<|zM rfl rfl (zo zr43 rfl) (fun b1=> ?_)
 refine e_p (zc rfl)<|zh<|zd<|zg<|za<|e_mv rfl<|zC rfl rfl (.c rfl .n) ce74 (zDb (z:=z1) (hz:=ass)) (.n) ?_
 rintro w32 -
 dsimp only [aq,nq,cq]
 refine e_mv rfl<|zC rfl rfl (.c rfl .n) ce74 (zDb (z:=z2) (hz:=ass)) (.n) ?_
 rintro w33 -
 dsimp only [aq,nq,cq]
 refine zC rfl rfl (.c rfl (.c rfl .n)) ce127 (zYf (w1:=w32) (w2:=w33) (x1:=z1) (x2:=z2) (hl1:=by first|rfl|assumption|omega|(rw [yg];omega)|(decide +kernel)) (hl2:=by first|rfl|assumption|omega|(rw [yg];omega)|(decide +kernel))) (.c (j:=1) rfl (.c (j:=0) rfl .n)) ?_
 rintro ⟨w34,w45⟩ -
 dsimp only [aq,nq,cq]
 refine e_p (zt rfl rfl)<|e_p (zt rfl rfl)<|zm 0 rfl rfl rfl rfl rfl sz43 rfl (.t4 .nil) .z<|e_p (zc rfl)<|zh<|zd<|zI ?_
 exact zza Tryz.results107 (w34,w45) trivial (zr 0 ty43 rfl rfl (.t4 .nil)) (zk rfl) rfl (ho:=(.n:PickO _ _ _)) ((.c (j:=0) rfl .n):SelR _ _ _)
theorem zOe {z1:Int} {z2:Int} (hz1: -9223372036854775808≤z1∧z1≤9223372036854775807) (hz2: -9223372036854775808≤z2∧z2≤9223372036854775807) (hy:z2≠0):Con yf 107 [.int .i64 (z1),.int .i64 (z2)] [] [] (Y:=(Wd)×(Wd)) (fun y=>True) (fun y=> .tuple #[.agg #[y.1.b,y.1.l,y.2.b,y.2.l],.int .i64 (0)]) (fun y=>[]) (fun y=>[qF true y.1 y.2 (Rat.divInt z1 z2)]):=by
  have h:=zZf hz1 hz2
  rw [if_neg hy,decide_eq_true hy] at h
  exact h
theorem zPe {k1:Bool} {u1:Wd} {v1:Wd} {q1:Rat} (hl:yo q1≤1048576):Con yf 66 [.agg #[u1.b,u1.l,v1.b,v1.l]] [] [qF k1 u1 v1 q1] (Y:=Unit) (fun y=>True) (fun y=> .int .i64 (Big.sgq q1)) (fun y=>[]) (fun y=>[]):=by
 refine zl Tryz.func66 rfl rfl rfl (fun c=> ?_)
 show RunC _ _ _ _ _ [(0,.agg #[u1.b,u1.l,v1.b,v1.l])] [] [qF k1 u1 v1 q1]
 have a1:=yl q1
 have a2:=ym q1
 refine zg<|za<|zM rfl rfl (zS rfl rfl) (fun b1=> ?_)
 refine e_p (zc rfl)<|zh<|zd<|zg<|za<|e_ru (zb 0 ty43 rfl rfl (.t4 .nil))<|zC rfl rfl (.c rfl .n) ce68 (zcb (k1:=k1) (u1:=u1) (v1:=v1) (q1:=q1)) (.c (j:=0) rfl .n) ?_
 rintro ⟨w32,w43⟩ -
 dsimp only [aq,nq,cq]
 refine e_p (zyc yb rfl ty41 rfl (.t2 .nil))<|zxc (qF_open 0 rfl) (fun _ _=> ?_)
 refine zL rfl rfl (.c rfl .n) ce105 (zvc (w1:=w32) (x1:=(q1).num) (hln:=by first|rfl|assumption|omega|(rw [yg];omega)|(decide +kernel))) (.c (j:=0) rfl .n)<|e_p (zc rfl)<|zh<|zd<|zI ?_
 exact zu Tryz.results66 () trivial (zk rfl) rfl (ho:=(.n:PickO _ _ _)) (.n:SelR _ _ _)
theorem zBf {k1:Bool} {u1:Wd} {v1:Wd} {q1:Rat} (hl:yo q1≤1048576):Con yf 67 [.agg #[u1.b,u1.l,v1.b,v1.l]] [] [qF k1 u1 v1 q1] (Y:=Wd×Wd) (fun y=>True) (fun y=> .agg #[y.1.b,y.1.l,y.2.b,y.2.l]) (fun y=>[]) (fun y=>[qF true y.1 y.2 (- q1)]):=by
 refine zl Tryz.func67 rfl rfl rfl (fun c=> ?_)
 show RunC _ _ _ _ _ [(0,.agg #[u1.b,u1.l,v1.b,v1.l])] [] [qF k1 u1 v1 q1]
 have a1:=yl q1
 have a2:=ym q1
 refine zg<|za<|zM rfl rfl (zS rfl rfl) (fun b1=> ?_)
 refine zM rfl rfl (zo zr43 rfl) (fun b2=> ?_)
 refine zh<|zd<|zg<|za<|e_ru (zb 1 ty43 rfl rfl (.t4 .nil))<|zC rfl rfl (.c rfl .n) ce68 (zcb (k1:=k1) (u1:=u1) (v1:=v1) (q1:=q1)) (.c (j:=0) rfl .n) ?_
 rintro ⟨w33,w44⟩ -
 dsimp only [aq,nq,cq]
 refine zM rfl rfl (zo zr43 rfl) (fun b5=> ?_)
 refine zm 0 rfl rfl rfl rfl rfl sz43 rfl (.t4 .nil) .z<|zh<|zd<|zg<|zsa (.c (i:=1) rfl (.c (i:=0) rfl (.c (i:=0) rfl .n)))<|zY (OW:=[boxA b2 43 (cw [wz,wz])]) (O:=[boxA b5 43 (cw [w33,w44]),boxA b1 43 (cw [u1,v1])]) 6 mixed (.then .ret) kr<|e_pv 0 rfl rfl (zf yb rfl sz41 rfl rfl)<|e_uw 1 rfl rfl (zb 1 ty41 rfl rfl (.t2 .nil))<|e_pv 3 rfl rfl (zf yb rfl sz41 rfl rfl)<|e_uw 4 rfl rfl (zb 1 ty41 rfl rfl (.s2 (.t2 .nil)))<|zFb (qF_open 0 rfl) (fun _ _=> ?_)
 refine e_one 2 (zx rfl rfl rfl rfl (.c rfl .n) ce106 (zId (w1:=w33) (x1:=(q1).num) (hln:=by first|rfl|assumption|omega|(rw [yg];omega)|(decide +kernel))) (.c (j:=0) rfl .n) ?_)
 rintro w36 -
 dsimp only [aq,nq,cq]
 refine e_pv 5 rfl rfl (zH zr43 rfl yb (.c sz41 (.c sz41 .n)) (.c rfl (.c rfl .n)) (.c rfl rfl rfl (.t2 .nil) (.c rfl rfl rfl (.s2 (.t2 .nil)) .n)))<|e_one 6 (zq kr rfl rfl rfl rfl rfl sz43 rfl (.t4 .nil) ?_)
 refine zU kr<|zd<|zI<|zJb (qF true w36 w44 (- q1)) (qF_close 0 2 rfl rfl (by exact ⟨(Rat.neg_num q1).symm,by rw [Rat.neg_den],by rw [Big.hq_neg];exact hl⟩)) ?_
 exact zu Tryz.results67 (w36,w44) trivial (zr 0 ty43 rfl rfl (.t4 .nil)) rfl (ho:=(.n:PickO _ _ _)) ((.c (j:=0) rfl .n):SelR _ _ _)
theorem zOd {k1:Bool} {u1:Wd} {v1:Wd} {q1:Rat} {k2:Bool} {u2:Wd} {v2:Wd} {q2:Rat} (hl:yo q1+yo q2+1≤1048576):Con yf 70 [.agg #[u1.b,u1.l,v1.b,v1.l],.agg #[u2.b,u2.l,v2.b,v2.l]] [] [qF k1 u1 v1 q1,qF k2 u2 v2 q2] (Y:=Wd×Wd) (fun y=>True) (fun y=> .agg #[y.1.b,y.1.l,y.2.b,y.2.l]) (fun y=>[]) (fun y=>[qF true y.1 y.2 (q1+q2)]):=by
 refine zl Tryz.func70 rfl rfl rfl (fun c=> ?_)
 show RunC _ _ _ _ _ [(0,.agg #[u1.b,u1.l,v1.b,v1.l]),(1,.agg #[u2.b,u2.l,v2.b,v2.l])] [] [qF k1 u1 v1 q1,qF k2 u2 v2 q2]
 have a1:=yl q1
 have a2:=ym q1
 have a3:=yl q2
 have a4:=ym q2
 have b1:=yt q1.num q2.den
 have b2:=yt q2.num q1.den
 have b3:=Big.zPc (q1.num*q2.den) (q2.num*q1.den)
 have b4:=yt (q1.den:Int) q2.den
 have b5:=yt q1.num q2.num
 refine zg<|za<|zM rfl rfl (zS rfl rfl) (fun b1=> ?_)
 refine zM rfl rfl (zS rfl rfl) (fun b2=> ?_)
 refine zM rfl rfl (zo zr43 rfl) (fun b3=> ?_)
 refine zh<|zd<|zg<|za<|e_ru (zb 2 ty43 rfl rfl (.t4 .nil))<|zC rfl rfl (.c rfl .n) ce68 (zcb (k1:=k1) (u1:=u1) (v1:=v1) (q1:=q1)) (.c (j:=0) rfl .n) ?_
 rintro ⟨w34,w45⟩ -
 dsimp only [aq,nq,cq]
 refine zM rfl rfl (zo zr43 rfl) (fun b6=> ?_)
 refine zm 0 rfl rfl rfl rfl rfl sz43 rfl (.t4 .nil) .z<|zh<|zd<|zg<|za<|e_ru (zb 2 ty43 rfl rfl (.t4 .nil))<|zC rfl rfl (.c rfl .n) ce68 (zcb (k1:=k2) (u1:=u2) (v1:=v2) (q1:=q2)) (.c (j:=2) rfl .n) ?_
 rintro ⟨w37,w48⟩ -
 dsimp only [aq,nq,cq]
 refine zM rfl rfl (zo zr43 rfl) (fun b9=> ?_)
 refine zm 0 rfl rfl rfl rfl rfl sz43 rfl (.t4 .nil) .z<|zh<|zd<|zg<|zsa (.c (i:=2) rfl (.c (i:=0) rfl (.c (i:=0) rfl (.c (i:=0) rfl (.c (i:=0) rfl .n)))))<|zY (OW:=[boxA b3 43 (cw [wz,wz])]) (O:=[boxA b9 43 (cw [w37,w48]),boxA b6 43 (cw [w34,w45]),boxA b2 43 (cw [u2,v2]),boxA b1 43 (cw [u1,v1])]) 17 mixed (.then .ret) kr<|e_pv 0 rfl rfl (zf yb rfl sz41 rfl rfl)<|e_uw 1 rfl rfl (zb 2 ty41 rfl rfl (.t2 .nil))<|e_pv 2 rfl rfl (zf yb rfl sz41 rfl rfl)<|e_uw 3 rfl rfl (zb 1 ty41 rfl rfl (.s2 (.t2 .nil)))<|e_pv 5 rfl rfl (zf yb rfl sz41 rfl rfl)<|e_uw 6 rfl rfl (zb 1 ty41 rfl rfl (.t2 .nil))<|e_pv 7 rfl rfl (zf yb rfl sz41 rfl rfl)<|e_uw 8 rfl rfl (zb 2 ty41 rfl rfl (.s2 (.t2 .nil)))<|e_pv 11 rfl rfl (zf yb rfl sz41 rfl rfl)<|e_uw 12 rfl rfl (zb 2 ty41 rfl rfl (.s2 (.t2 .nil)))<|e_pv 13 rfl rfl (zf yb rfl sz41 rfl rfl)<|e_uw 14 rfl rfl (zb 1 ty41 rfl rfl (.s2 (.t2 .nil)))<|zFb (qF_open 1 rfl) (fun _ _=> ?_)
 refine zFb (qF_open 2 rfl) (fun _ _=> ?_)
 refine e_one 4 (zx rfl rfl rfl rfl (.c rfl (.c rfl .n)) ce73 (zMb (w1:=w34) (w2:=w48) (x1:=(q1).num) (x2:=(((q2).den:Nat):Int)) (hb1:=by first|rfl|assumption|omega|(rw [yg];omega)|(decide +kernel)) (hb2:=by first|rfl|assumption|omega|(rw [yg];omega)|(decide +kernel))) (.c (j:=2) rfl (.c (j:=1) rfl .n)) ?_)
 rintro w310 -
 dsimp only [aq,nq,cq]
 refine e_one 9 (zx rfl rfl rfl rfl (.c rfl (.c rfl .n)) ce73 (zMb (w1:=w37) (w2:=w45) (x1:=(q2).num) (x2:=(((q1).den:Nat):Int)) (hb1:=by first|rfl|assumption|omega|(rw [yg];omega)|(decide +kernel)) (hb2:=by first|rfl|assumption|omega|(rw [yg];omega)|(decide +kernel))) (.c (j:=1) rfl (.c (j:=4) rfl .n)) ?_)
 rintro w311 -
 dsimp only [aq,nq,cq]
 refine e_one 10 (zx rfl rfl rfl rfl (.c rfl (.c rfl .n)) ce108 (zyf (w1:=w310) (w2:=w311) (x1:=((q1).num)*(((q2).den:Nat):Int)) (x2:=((q2).num)*(((q1).den:Nat):Int)) (hb1:=by first|rfl|assumption|omega|(rw [yg];omega)|(decide +kernel)) (hb2:=by first|rfl|assumption|omega|(rw [yg];omega)|(decide +kernel))) (.c (j:=1) rfl (.c (j:=0) rfl .n)) ?_)
 rintro w312 -
 dsimp only [aq,nq,cq]
 refine e_one 15 (zx rfl rfl rfl rfl (.c rfl (.c rfl .n)) ce73 (zMb (w1:=w45) (w2:=w48) (x1:=(((q1).den:Nat):Int)) (x2:=(((q2).den:Nat):Int)) (hb1:=by first|rfl|assumption|omega|(rw [yg];omega)|(decide +kernel)) (hb2:=by first|rfl|assumption|omega|(rw [yg];omega)|(decide +kernel))) (.c (j:=6) rfl (.c (j:=4) rfl .n)) ?_)
 rintro w313 -
 dsimp only [aq,nq,cq]
 refine e_one 16 (zx rfl rfl rfl rfl (.c rfl (.c rfl .n)) ce72 (zNb (w1:=w312) (w2:=w313) (x1:=(((q1).num)*(((q2).den:Nat):Int))+(((q2).num)*(((q1).den:Nat):Int))) (x2:=(((q1).den:Nat):Int)*(((q2).den:Nat):Int)) (hl1:=by first|rfl|assumption|omega|(rw [yg];omega)|(decide +kernel)) (hl2:=by first|rfl|assumption|omega|(rw [yg];omega)|(decide +kernel)) (hd:=by exact Int.mul_ne_zero (Big.den_ne q1) (Big.den_ne q2))) (.c (j:=1) rfl (.c (j:=0) rfl .n)) ?_)
 rintro ⟨w314,w415⟩ -
 dsimp only [aq,nq,cq]
 refine e_one 17 (zq kr rfl rfl rfl rfl rfl sz43 rfl (.t4 .nil) ?_)
 refine zU kr<|zd<|zI ?_
 exact zu Tryz.results70 (w314,w415) trivial (zr 0 ty43 rfl rfl (.t4 .nil)) rfl (ho:=(.n:PickO _ _ _)) ((.e (j:=0) rfl (by rw [Big.add_parts]) .n):SelR _ _ _)
theorem zPd {k1:Bool} {u1:Wd} {v1:Wd} {q1:Rat} {k2:Bool} {u2:Wd} {v2:Wd} {q2:Rat} (hl:yo q1+yo q2+1≤1048576):Con yf 25 [.agg #[u1.b,u1.l,v1.b,v1.l],.agg #[u2.b,u2.l,v2.b,v2.l]] [] [qF k1 u1 v1 q1,qF k2 u2 v2 q2] (Y:=Wd×Wd) (fun y=>True) (fun y=> .agg #[y.1.b,y.1.l,y.2.b,y.2.l]) (fun y=>[]) (fun y=>[qF true y.1 y.2 (q1*q2)]):=by
 refine zl Tryz.func25 rfl rfl rfl (fun c=> ?_)
 show RunC _ _ _ _ _ [(0,.agg #[u1.b,u1.l,v1.b,v1.l]),(1,.agg #[u2.b,u2.l,v2.b,v2.l])] [] [qF k1 u1 v1 q1,qF k2 u2 v2 q2]
 have a1:=yl q1
 have a2:=ym q1
 have a3:=yl q2
 have a4:=ym q2
 have b1:=yt q1.num q2.den
 have b2:=yt q2.num q1.den
 have b3:=Big.zPc (q1.num*q2.den) (q2.num*q1.den)
 have b4:=yt (q1.den:Int) q2.den
 have b5:=yt q1.num q2.num
 refine zg<|za<|zM rfl rfl (zS rfl rfl) (fun b1=> ?_)
 refine zM rfl rfl (zS rfl rfl) (fun b2=> ?_)
 refine zM rfl rfl (zo zr43 rfl) (fun b3=> ?_)
 refine zh<|zd<|zg<|za<|e_ru (zb 2 ty43 rfl rfl (.t4 .nil))<|zC rfl rfl (.c rfl .n) ce68 (zcb (k1:=k1) (u1:=u1) (v1:=v1) (q1:=q1)) (.c (j:=0) rfl .n) ?_
 rintro ⟨w34,w45⟩ -
 dsimp only [aq,nq,cq]
 refine zM rfl rfl (zo zr43 rfl) (fun b6=> ?_)
 refine zm 0 rfl rfl rfl rfl rfl sz43 rfl (.t4 .nil) .z<|zh<|zd<|zg<|za<|e_ru (zb 2 ty43 rfl rfl (.t4 .nil))<|zC rfl rfl (.c rfl .n) ce68 (zcb (k1:=k2) (u1:=u2) (v1:=v2) (q1:=q2)) (.c (j:=2) rfl .n) ?_
 rintro ⟨w37,w48⟩ -
 dsimp only [aq,nq,cq]
 refine zM rfl rfl (zo zr43 rfl) (fun b9=> ?_)
 refine zm 0 rfl rfl rfl rfl rfl sz43 rfl (.t4 .nil) .z<|zh<|zd<|zg<|zsa (.c (i:=2) rfl (.c (i:=0) rfl (.c (i:=0) rfl (.c (i:=0) rfl (.c (i:=0) rfl .n)))))<|zY (OW:=[boxA b3 43 (cw [wz,wz])]) (O:=[boxA b9 43 (cw [w37,w48]),boxA b6 43 (cw [w34,w45]),boxA b2 43 (cw [u2,v2]),boxA b1 43 (cw [u1,v1])]) 11 mixed (.then .ret) kr<|e_pv 0 rfl rfl (zf yb rfl sz41 rfl rfl)<|e_uw 1 rfl rfl (zb 2 ty41 rfl rfl (.t2 .nil))<|e_pv 2 rfl rfl (zf yb rfl sz41 rfl rfl)<|e_uw 3 rfl rfl (zb 1 ty41 rfl rfl (.t2 .nil))<|e_pv 5 rfl rfl (zf yb rfl sz41 rfl rfl)<|e_uw 6 rfl rfl (zb 2 ty41 rfl rfl (.s2 (.t2 .nil)))<|e_pv 7 rfl rfl (zf yb rfl sz41 rfl rfl)<|e_uw 8 rfl rfl (zb 1 ty41 rfl rfl (.s2 (.t2 .nil)))<|zFb (qF_open 1 rfl) (fun _ _=> ?_)
 refine zFb (qF_open 2 rfl) (fun _ _=> ?_)
 refine e_one 4 (zx rfl rfl rfl rfl (.c rfl (.c rfl .n)) ce73 (zMb (w1:=w34) (w2:=w37) (x1:=(q1).num) (x2:=(q2).num) (hb1:=by first|rfl|assumption|omega|(rw [yg];omega)|(decide +kernel)) (hb2:=by first|rfl|assumption|omega|(rw [yg];omega)|(decide +kernel))) (.c (j:=2) rfl (.c (j:=0) rfl .n)) ?_)
 rintro w310 -
 dsimp only [aq,nq,cq]
 refine e_one 9 (zx rfl rfl rfl rfl (.c rfl (.c rfl .n)) ce73 (zMb (w1:=w45) (w2:=w48) (x1:=(((q1).den:Nat):Int)) (x2:=(((q2).den:Nat):Int)) (hb1:=by first|rfl|assumption|omega|(rw [yg];omega)|(decide +kernel)) (hb2:=by first|rfl|assumption|omega|(rw [yg];omega)|(decide +kernel))) (.c (j:=4) rfl (.c (j:=2) rfl .n)) ?_)
 rintro w311 -
 dsimp only [aq,nq,cq]
 refine e_one 10 (zx rfl rfl rfl rfl (.c rfl (.c rfl .n)) ce72 (zNb (w1:=w310) (w2:=w311) (x1:=((q1).num)*((q2).num)) (x2:=(((q1).den:Nat):Int)*(((q2).den:Nat):Int)) (hl1:=by first|rfl|assumption|omega|(rw [yg];omega)|(decide +kernel)) (hl2:=by first|rfl|assumption|omega|(rw [yg];omega)|(decide +kernel)) (hd:=by exact Int.mul_ne_zero (Big.den_ne q1) (Big.den_ne q2))) (.c (j:=1) rfl (.c (j:=0) rfl .n)) ?_)
 rintro ⟨w312,w413⟩ -
 dsimp only [aq,nq,cq]
 refine e_one 11 (zq kr rfl rfl rfl rfl rfl sz43 rfl (.t4 .nil) ?_)
 refine zU kr<|zd<|zI ?_
 exact zu Tryz.results25 (w312,w413) trivial (zr 0 ty43 rfl rfl (.t4 .nil)) rfl (ho:=(.n:PickO _ _ _)) ((.e (j:=0) rfl (by rw [Big.mul_parts]) .n):SelR _ _ _)
theorem zQd {k1:Bool} {u1:Wd} {v1:Wd} {q1:Rat} {k2:Bool} {u2:Wd} {v2:Wd} {q2:Rat} (hl:yo q1+yo q2+1≤1048576):Con yf 71 [.agg #[u1.b,u1.l,v1.b,v1.l],.agg #[u2.b,u2.l,v2.b,v2.l]] [] [qF k1 u1 v1 q1,qF k2 u2 v2 q2] (Y:=Wd×Wd) (fun y=>True) (fun y=> .agg #[y.1.b,y.1.l,y.2.b,y.2.l]) (fun y=>[]) (fun y=>[qF true y.1 y.2 (q1 - q2)]):=by
 refine zl Tryz.func71 rfl rfl rfl (fun c=> ?_)
 show RunC _ _ _ _ _ [(0,.agg #[u1.b,u1.l,v1.b,v1.l]),(1,.agg #[u2.b,u2.l,v2.b,v2.l])] [] [qF k1 u1 v1 q1,qF k2 u2 v2 q2]
 have a1:=yl q1
 have a2:=ym q1
 have a3:=yl q2
 have a4:=ym q2
 refine zg<|za<|zM rfl rfl (zS rfl rfl) (fun b1=> ?_)
 refine zM rfl rfl (zS rfl rfl) (fun b2=> ?_)
 refine zM rfl rfl (zo zr43 rfl) (fun b3=> ?_)
 refine zh<|zd<|zg<|zY (OW:=[boxA b3 43 (cw [wz,wz])]) (O:=[boxA b2 43 (cw [u2,v2]),boxA b1 43 (cw [u1,v1])]) 4 mixed (.then .ret) kr<|e_uw 0 rfl rfl (zb 2 ty43 rfl rfl (.t4 .nil))<|e_uw 1 rfl rfl (zb 1 ty43 rfl rfl (.t4 .nil))<|e_one 2 (zx rfl rfl rfl rfl (.c rfl .n) ce67 (zBf (k1:=k2) (u1:=u2) (v1:=v2) (q1:=q2) (hl:=by first|rfl|assumption|omega|(rw [yg];omega)|(decide +kernel)|(rw [Big.hq_neg];omega))) (.c (j:=1) rfl .n) ?_)
 rintro ⟨w34,w45⟩ -
 dsimp only [aq,nq,cq]
 refine e_one 3 (zx rfl rfl rfl rfl (.c rfl (.c rfl .n)) ce70 (zOd (k1:=k1) (u1:=u1) (v1:=v1) (q1:=q1) (k2:=true) (u2:=w34) (v2:=w45) (q2:= - q2) (hl:=by first|rfl|assumption|omega|(rw [yg];omega)|(decide +kernel)|(rw [Big.hq_neg];omega))) (.c (j:=1) rfl (.c (j:=0) rfl .n)) ?_)
 rintro ⟨w36,w47⟩ -
 dsimp only [aq,nq,cq]
 refine e_one 4 (zq kr rfl rfl rfl rfl rfl sz43 rfl (.t4 .nil) ?_)
 refine zU kr<|zd<|zI ?_
 exact zu Tryz.results71 (w36,w47) trivial (zr 0 ty43 rfl rfl (.t4 .nil)) rfl (ho:=(.n:PickO _ _ _)) ((.e (j:=0) rfl (by rw [Rat.sub_eq_add_neg]) .n):SelR _ _ _)
theorem zrd {k1:Bool} {u1:Wd} {v1:Wd} {q1:Rat} {k2:Bool} {u2:Wd} {v2:Wd} {q2:Rat} (hl:yo q1+yo q2+1≤1048576):Con yf 27 [.agg #[u1.b,u1.l,v1.b,v1.l],.agg #[u2.b,u2.l,v2.b,v2.l]] [] [qF k1 u1 v1 q1,qF k2 u2 v2 q2] (Y:=Unit) (fun y=>True) (fun y=> .int .i64 (Big.sgq (q1 - q2))) (fun y=>[]) (fun y=>[]):=by
 refine zl Tryz.func27 rfl rfl rfl (fun c=> ?_)
 show RunC _ _ _ _ _ [(0,.agg #[u1.b,u1.l,v1.b,v1.l]),(1,.agg #[u2.b,u2.l,v2.b,v2.l])] [] [qF k1 u1 v1 q1,qF k2 u2 v2 q2]
 have hsb:=Big.hq_sub q1 q2
 refine zg<|za<|zM rfl rfl (zS rfl rfl) (fun b1=> ?_)
 refine zM rfl rfl (zS rfl rfl) (fun b2=> ?_)
 refine e_p (zc rfl)<|zh<|zd<|zg<|za<|e_ru (zb 1 ty43 rfl rfl (.t4 .nil))<|e_ru (zb 0 ty43 rfl rfl (.t4 .nil))<|zC rfl rfl (.c rfl (.c rfl .n)) ce71 (zQd (k1:=k1) (u1:=u1) (v1:=v1) (q1:=q1) (k2:=k2) (u2:=u2) (v2:=v2) (q2:=q2) (hl:=ass)) (.c (j:=0) rfl (.c (j:=1) rfl .n)) ?_
 rintro ⟨w33,w44⟩ -
 dsimp only [aq,nq,cq]
 refine zL rfl rfl (.c rfl .n) ce66 (zPe (k1:=true) (u1:=w33) (v1:=w44) (q1:=q1 - q2) (hl:=by first|rfl|assumption|omega|(rw [yg];omega)|(decide +kernel))) (.c (j:=0) rfl .n)<|e_p (zc rfl)<|zh<|zd<|zI ?_
 exact zu Tryz.results27 () trivial (zk rfl) rfl (ho:=(.n:PickO _ _ _)) (.n:SelR _ _ _)
theorem zQe {u1:Wd} {v1:Wd} {q1:Rat} {u2:Wd} {v2:Wd} {q2:Rat} (hl:yo q1+yo q2+1≤1048576):Con yf 44 [.agg #[u1.b,u1.l,v1.b,v1.l],.agg #[u2.b,u2.l,v2.b,v2.l]] [] [qF true u1 v1 q1,qF true u2 v2 q2] (Y:=Unit) (fun y=>True) (fun y=> .bool (decide (q1=q2))) (fun y=>[]) (fun y=>[]):=by
 refine zl Tryz.func44 rfl rfl rfl (fun c=> ?_)
 show RunC _ _ _ _ _ [(0,.agg #[u1.b,u1.l,v1.b,v1.l]),(1,.agg #[u2.b,u2.l,v2.b,v2.l])] [] [qF true u1 v1 q1,qF true u2 v2 q2]
 refine zg<|za<|zM rfl rfl (zS rfl rfl) (fun b1=> ?_)
 refine zM rfl rfl (zS rfl rfl) (fun b2=> ?_)
 refine e_p (zc rfl)<|zh<|zd<|zHa (X:=Unit) (fun x=>True) (fun x=>[(4,.bool (decide (Big.sgq (q1 - q2)=0)))]) (fun x=>[boxA b2 43 (cw [u2,v2]),boxA b1 43 (cw [u1,v1])]) (fun x=>[qF true u1 v1 q1,qF true u2 v2 q2]) ?_ ?_
 ·
  refine za<|e_ru (zb 1 ty43 rfl rfl (.t4 .nil))<|zL rfl rfl (.c rfl .n) ce88 (zDc (u1:=u1) (v1:=v1) (q1:=q1)) (.c (j:=0) rfl .n)<|e_mv rfl<|e_ru (zb 0 ty43 rfl rfl (.t4 .nil))<|zL rfl rfl (.c rfl .n) ce88 (zDc (u1:=u2) (v1:=v2) (q1:=q2)) (.c (j:=1) rfl .n)<|e_p (zn rfl rfl)<|e_mv rfl<|e_ru (zb 1 ty43 rfl rfl (.t4 .nil))<|e_ru (zb 0 ty43 rfl rfl (.t4 .nil))<|zL rfl rfl (.c rfl (.c rfl .n)) ce27 (zrd (k1:=true) (u1:=u1) (v1:=v1) (q1:=q1) (k2:=true) (u2:=u2) (v2:=v2) (q2:=q2) (hl:=ass)) (.c (j:=0) rfl (.c (j:=1) rfl .n))<|e_p (zDa rfl rfl)<|e_p (zn rfl rfl)<|e_p (zc rfl)<|zh ?_
  exact zga () (show True from by first|trivial|omega|simp_all) ((.c rfl .n):SubM _ _) (ho:=((.of [0,0] rfl):PickO _ _ _)) ((.of [0,1] rfl):SelR _ _ _)
 ·
  rintro ⟨⟩ -
  try dsimp only [cw]
  refine zI ?_
  exact zu Tryz.results44 () trivial (zk rfl) (congrArg Value.bool (decide_eq_decide.2 Big.sgq_sub_zero.symm)) (ho:=(.n:PickO _ _ _)) (.n:SelR _ _ _)
end Go.Proofs.YtjcpbhlijoigfaaGreat.Sp
namespace Go.Proofs.YtjcpbhlijoigfaaGreat.Sp
open Go
set_option linter.unusedVariables false
set_option maxRecDepth 100000
set_option maxHeartbeats 8000000
theorem zvg {z1:Int} {z2:Int} (hz1: -9223372036854775808≤z1∧z1≤9223372036854775807) (hz2: -9223372036854775808≤z2∧z2≤9223372036854775807) (hy:z2≠0):Con yf 69 [.int .i64 z1,.int .i64 z2] [] [] (Y:=Wd×Wd) (fun y=>True) (fun y=> .agg #[y.1.b,y.1.l,y.2.b,y.2.l]) (fun y=>[]) (fun y=>[qF true y.1 y.2 (Rat.divInt z1 z2)]):=by
 refine zl Tryz.func69 rfl rfl rfl (fun c=> ?_)
 show RunC _ _ _ _ _ [(0,.int .i64 z1),(1,.int .i64 z2)] [] []
 refine zg<|za<|zM rfl rfl (zo zr43 rfl) (fun b1=> ?_)
 refine zh<|zd<|zg<|za<|e_mv rfl<|e_mv rfl<|zC rfl rfl (.c rfl (.c rfl .n)) ce107 (zOe (z1:=z1) (z2:=z2) (hz1:=ass) (hz2:=ass) (hy:=ass)) (.n) ?_
 rintro ⟨w32,w43⟩ -
 dsimp only [aq,nq,cq]
 refine e_mv rfl<|e_p (zt rfl rfl)<|e_p (zt rfl rfl)<|zM rfl rfl (zo zr43 rfl) (fun b4=> ?_)
 refine zm 0 rfl rfl rfl rfl rfl sz43 rfl (.t4 .nil) .z<|e_p (zc rfl)<|zh<|zd<|zg<|za<|e_ru (zb 0 ty43 rfl rfl (.t4 .nil))<|zm 1 rfl rfl rfl rfl rfl sz43 rfl (.t4 .nil) (.s .z)<|zh<|zd<|zI ?_
 exact zu Tryz.results69 (w32,w43) trivial (zr 1 ty43 rfl rfl (.t4 .nil)) rfl (ho:=(.n:PickO _ _ _)) ((.c (j:=0) rfl .n):SelR _ _ _)
theorem zCf {p:Option Addr} {n:Nat} {cap:Nat} {l:List Pg.Q2} {K:Nat} (hn:l.length=n) (hbq:Pg.bq K l) (hK:4*K+1≤500000) (hz:∀i,i≤n→yo (Pg.szN n l i)≤500000):Con yf 24 [.slice p n cap] [] [slF rR p cap l] (Y:=Wd×Wd) (fun y=>True) (fun y=> .agg #[y.1.b,y.1.l,y.2.b,y.2.l]) (fun y=>[]) (fun y=>[qF true y.1 y.2 (Pg.sz l)]):=by
 refine zl Tryz.func24 rfl rfl rfl (fun c=> ?_)
 show RunC _ _ _ _ _ [(0,.slice p n cap)] [] [slF rR p cap l]
 refine zda 0 rfl (fun hL0=> ?_)
 refine zg<|za<|zM rfl rfl (zo zr43 rfl) (fun b1=> ?_)
 refine zh<|zd<|zg<|za<|zC rfl rfl (.c rfl (.c rfl .n)) ce69 (zvg (z1:=0) (z2:=1) (hz1:=by first|rfl|assumption|omega|decide) (hz2:=by first|rfl|assumption|omega|decide) (hy:=by first|rfl|assumption|omega|decide)) (.n) ?_
 rintro ⟨w32,w43⟩ -
 dsimp only [aq,nq,cq]
 refine zM rfl rfl (zo zr43 rfl) (fun b4=> ?_)
 refine zm 0 rfl rfl rfl rfl rfl sz43 rfl (.t4 .nil) .z<|zh<|zd<|zg<|zg ?_
 have e5:Rat.divInt 0 1=(Pg.szN n l 0):=by exact Pg.d01
 rw [e5]
 refine za<|e_p (zc rfl)<|zh<|zd<|zA<|zpa (X:=Nat×Wd×Wd) (fun x:Nat×Wd×Wd=>x.1≤n) (fun x=>[(4,.int .i64 ((x.1:Nat):Int)),(3,.pointer (some ⟨b4,0,none⟩)),(2,.pointer (some ⟨b1,0,none⟩)),(0,.slice p n cap)]) (fun x=>[boxA b4 43 (cw [x.2.1,x.2.2]),boxA b1 43 (cw [wz,wz])]) (fun x=>[qF true x.2.1 x.2.2 (Pg.szN n l x.1),qF true w32 w43 (Pg.szN n l 0),slF rR p cap l]) (fun x:Nat×Wd×Wd=>n - x.1) (0,w32,w43) (show 0≤n from by exact Nat.zero_le _) ((.e rfl (by first|rfl|(congr 1;omega)|simp_all) (.of rfl)):SubM _ _) (ho:=((.of [0,0] rfl):PickO _ _ _)) ((.of [0,0,1] rfl):SelR _ _ _) ?_
 rintro ⟨k,wk1,wk2⟩ hI
 replace hI:k≤n:=hI
 try dsimp only [cw]
 refine zg<|zg<|za<|e_mv rfl<|e_mv rfl<|e_p (zN yk rfl)<|e_p (zba rfl rfl)<|zh<|zd<|zG rfl (fun h6=> ?_) (fun h6=> ?_)
 ·
  have hm1:(k+1)%n<n:=Nat.mod_lt _ om
  have hpi:Pg.hp K (l.getD k ((0:Rat),(0:Rat))):=Pg.bq_at hbq om
  have hpj:Pg.hp K (l.getD ((k+1)%n) ((0:Rat),(0:Rat))):=Pg.bq_at hbq om
  obtain ⟨hb1,hb2,hb3⟩:=Pg.pb hpi hpj
  obtain ⟨hpi1,hpi2⟩:=id hpi
  obtain ⟨hpj1,hpj2⟩:=id hpj
  have hzk:=hz k om
  have hb4:yo ((l.getD k ((0:Rat),(0:Rat))).1*(l.getD ((k+1)%n) ((0:Rat),(0:Rat))).2 - (l.getD ((k+1)%n) ((0:Rat),(0:Rat))).1*(l.getD k ((0:Rat),(0:Rat))).2)≤2*(K+K)+1:=hb3
  refine zw<|zd<|zg<|zA<|zg<|za<|e_mv rfl<|e_mv rfl<|e_p (zK (z:=(((k+1):Nat):Int)) rfl rfl (w64 om))<|e_mv rfl<|e_p (zN yk rfl)<|e_p (zxa (z:=((((k+1)%n):Nat):Int)) rfl rfl om (remN om om))<|r_vl rfl rfl (zxb (x0:=(l.getD ((k+1)%n) ((0:Rat),(0:Rat)))) 2 ((k+1)%n) rfl yk sz69 rfl cbs rfl rfl (gD (d:=((0:Rat),(0:Rat))) om)) ?_
  rintro ⟨b7,o8,w9,w10,w11,w12⟩ -
  dsimp only [aq,nq,cq]
  refine zif open_rR<|e_ru (zJ (j:=0) 0 ty69 rfl rfl rfl (.t8 .nil))<|zM rfl rfl (zo zr69 rfl) (fun b13=> ?_)
  refine zm 0 rfl rfl rfl rfl rfl sz69 rfl (.t8 .nil) .z<|zh<|zd<|zsa (.c (i:=1) rfl (.c (i:=0) rfl (.c (i:=0) rfl .n)))<|zY (OW:=[boxA b4 43 (cw [wk1,wk2])]) (O:=[boxA b13 69 (cw [w9,w10,w11,w12]),boxA b1 43 (cw [wz,wz])]) 19 mixed (.block (.then (.then (.block (.then .ret))))) kr<|e_uw 0 rfl rfl (zb 0 ty43 rfl rfl (.t4 .nil))<|e_dm 1 rfl rfl rfl<|e_dm 2 rfl rfl rfl<|d_vl 3 rfl rfl kr kr rfl rfl (zxb (x0:=(l.getD k ((0:Rat),(0:Rat)))) 5 k rfl yk sz69 rfl cbs rfl rfl (gD (d:=((0:Rat),(0:Rat))) om)) ?_
  rintro ⟨b14,o15,w16,w17,w18,w19⟩ -
  dsimp only [aq,nq,cq]
  refine zcg open_rR<|e_pv 4 rfl rfl (zf yn rfl sz43 rfl rfl)<|e_u 5 rfl rfl (zJ (j:=0) 0 ty43 rfl rfl rfl (.t4 .nil))<|e_pv 6 rfl rfl (zf yn rfl sz43 rfl rfl)<|e_uw 7 rfl rfl (zb 1 ty43 rfl rfl (.s4 (.t4 .nil)))<|e_pv 9 rfl rfl (zf yn rfl sz43 rfl rfl)<|e_uw 10 rfl rfl (zb 1 ty43 rfl rfl (.t4 .nil))<|e_dm 11 rfl rfl rfl<|e_dm 12 rfl rfl rfl<|d_vl 13 rfl rfl kr kr rfl rfl (zxb (x0:=(l.getD k ((0:Rat),(0:Rat)))) 8 k rfl yk sz69 rfl cbs rfl rfl (gD (d:=((0:Rat),(0:Rat))) om)) ?_
  rintro ⟨b20,o21,w22,w23,w24,w25⟩ -
  dsimp only [aq,nq,cq]
  refine zcg open_rR<|e_pv 14 rfl rfl (zf yn rfl sz43 rfl rfl)<|e_u 15 rfl rfl (zJ (j:=4) 0 ty43 rfl rfl rfl (.s4 (.t4 .nil)))<|e_one 8 (zx rfl rfl rfl rfl (.c rfl (.c rfl .n)) ce25 (zPd (k1:=true) (u1:=w16) (v1:=w17) (q1:=(l.getD k ((0:Rat),(0:Rat))).1) (k2:=true) (u2:=w11) (v2:=w12) (q2:=(l.getD ((k+1)%n) ((0:Rat),(0:Rat))).2) (hl:=by first|rfl|assumption|omega|decide)) (.c (j:=4) rfl (.c (j:=8) rfl .n)) ?_)
  rintro ⟨w326,w427⟩ -
  dsimp only [aq,nq,cq]
  refine e_one 16 (zx rfl rfl rfl rfl (.c rfl (.c rfl .n)) ce25 (zPd (k1:=true) (u1:=w9) (v1:=w10) (q1:=(l.getD ((k+1)%n) ((0:Rat),(0:Rat))).1) (k2:=true) (u2:=w24) (v2:=w25) (q2:=(l.getD k ((0:Rat),(0:Rat))).2) (hl:=by first|rfl|assumption|omega|decide)) (.c (j:=8) rfl (.c (j:=3) rfl .n)) ?_)
  rintro ⟨w328,w429⟩ -
  dsimp only [aq,nq,cq]
  refine e_one 17 (zx rfl rfl rfl rfl (.c rfl (.c rfl .n)) ce71 (zQd (k1:=true) (u1:=w326) (v1:=w427) (q1:=((l.getD k ((0:Rat),(0:Rat))).1)*((l.getD ((k+1)%n) ((0:Rat),(0:Rat))).2)) (k2:=true) (u2:=w328) (v2:=w429) (q2:=((l.getD ((k+1)%n) ((0:Rat),(0:Rat))).1)*((l.getD k ((0:Rat),(0:Rat))).2)) (hl:=by first|rfl|assumption|omega|decide)) (.c (j:=1) rfl (.c (j:=0) rfl .n)) ?_)
  rintro ⟨w330,w431⟩ -
  dsimp only [aq,nq,cq]
  refine e_one 18 (zx rfl rfl rfl rfl (.c rfl (.c rfl .n)) ce70 (zOd (k1:=true) (u1:=wk1) (v1:=wk2) (q1:=(Pg.szN n l k)) (k2:=true) (u2:=w330) (v2:=w431) (q2:=(((l.getD k ((0:Rat),(0:Rat))).1)*((l.getD ((k+1)%n) ((0:Rat),(0:Rat))).2)) - (((l.getD ((k+1)%n) ((0:Rat),(0:Rat))).1)*((l.getD k ((0:Rat),(0:Rat))).2))) (hl:=by first|rfl|assumption|omega|decide)) (.c (j:=12) rfl (.c (j:=0) rfl .n)) ?_)
  rintro ⟨w332,w433⟩ -
  dsimp only [aq,nq,cq]
  refine e_one 19 (zq kr rfl rfl rfl rfl rfl sz43 rfl (.t4 .nil) ?_)
  refine zU kr<|zO<|zd<|za<|e_mv rfl<|e_p (zK (z:=(((k+1):Nat):Int)) rfl rfl (w64 om))<|e_p (zc rfl)<|zh<|zha ((k+1),w332,w433) (show (k+1)≤n from by show k+1≤n;omega) (by show n - (k+1)<n - k;omega) ((.of rfl):SubM _ _) (ho:=((.of [0,1] rfl):PickO _ _ _)) ((.e (j:=0) rfl (by first|rfl|simp_all) (.of [14,15] rfl)):SelR _ _ _)
 ·
  refine zna<|zj<|zj<|zy<|zd<|zg<|za<|e_ru (zb 0 ty43 rfl rfl (.t4 .nil))<|zm 1 rfl rfl rfl rfl rfl sz43 rfl (.t4 .nil) (.s .z)<|zh<|zd<|zI ?_
  exact zu Tryz.results24 (wk1,wk2) trivial (zr 1 ty43 rfl rfl (.t4 .nil)) rfl (ho:=(.n:PickO _ _ _)) ((.e (j:=0) rfl (by rw [show k=n by omega,Pg.sz,hn]) .n):SelR _ _ _)
theorem zRe {p1:Option Addr} {n1:Nat} {c1:Nat} {l1:List (Int×Int×Int)} {p2:Option Addr} {n2:Nat} {c2:Nat} {l2:List (Int×Int×Int)} (hn1:l1.length=n1) (hn2:l2.length=n2):Con yf 32 [.slice p1 n1 c1,.slice p2 n2 c2] [] [slF (rI3 .i64) p1 c1 l1,slF (rI3 .i64) p2 c2 l2] (Y:=Unit) (fun y=>True) (fun y=> .bool (decide (l1=l2))) (fun y=>[]) (fun y=>[]):=by
 refine zl Tryz.func32 rfl rfl rfl (fun c=> ?_)
 show RunC _ _ _ _ _ [(0,.slice p1 n1 c1),(1,.slice p2 n2 c2)] [] [slF (rI3 .i64) p1 c1 l1,slF (rI3 .i64) p2 c2 l2]
 refine zda 0 rfl (fun hL0=> ?_)
 refine zda 1 rfl (fun hL1=> ?_)
 refine zg<|za<|e_p (zc rfl)<|zh<|zd<|zg<|zg<|za<|e_mv rfl<|e_p (zN yd rfl)<|e_mv rfl<|e_p (zN yd rfl)<|e_p (zdb rfl rfl)<|zh<|zd<|zG rfl (fun hlen=> ?_) (fun hlen=> ?_)
 ·
  refine zg<|za<|e_p (zc rfl)<|zh<|zd<|zI<|zi ?_
  exact zu Tryz.results32 () trivial (zk rfl) (congrArg Value.bool (decide_eq_false (fun h=>hlen (by rw [← hn1,←hn2,h])))) (ho:=(.n:PickO _ _ _)) (.n:SelR _ _ _)
 ·
  refine zw<|zd<|zg<|zg<|za<|e_mv rfl<|e_p (zN yd rfl)<|e_mv rfl<|zh<|zd<|zA<|zpa (X:=Nat) (fun x:Nat=>x≤n1∧∀j,j<x→l1.getD j (0,0,0)=l2.getD j (0,0,0)) (fun x=>[(13,.int .i64 ((x:Nat):Int)),(12,.int .i64 ((n1:Nat):Int)),(0,.slice p1 n1 c1),(1,.slice p2 n2 c2)]) (fun x=>[]) (fun x=>[slF (rI3 .i64) p1 c1 l1,slF (rI3 .i64) p2 c2 l2]) (fun x:Nat=>n1 - x) 0 (show 0≤n1∧∀j,j<0→l1.getD j (0,0,0)=l2.getD j (0,0,0) from by exact ⟨by omega,fun j h=>by omega⟩) ((.e rfl (by first|rfl|(congr 1;omega)|simp_all) (.of rfl)):SubM _ _) (ho:=(.n:PickO _ _ _)) ((.of [0,1] rfl):SelR _ _ _) ?_
  rintro i hI
  replace hI:i≤n1∧∀j,j<i→l1.getD j (0,0,0)=l2.getD j (0,0,0):=hI
  try dsimp only
  obtain ⟨hi,hall⟩:=hI
  refine zg<|za<|e_p (zba rfl rfl)<|zh<|zd<|zg<|zG rfl (fun h1=> ?_) (fun h1=> ?_)
  ·
   refine zw<|zd<|zg<|zA<|zg<|za<|e_mv rfl<|e_p (zc rfl)<|zh<|zd<|zg<|zY (OW:=[]) (O:=[]) 100000 mixed (.then (.block (.then (.then (.block (.then .ret)))))) kr<|e_dm 0 rfl rfl rfl<|e_dm 1 rfl rfl rfl<|zca (x0:=(l1.getD i (0,0,0))) 2 rfl rfl kr kr 0 i rfl yd sz50 rfl rfl rfl cbs rfl rfl (gD (d:=(0,0,0)) om) (fun b2 o3 hok4=> ?_)
   obtain ⟨hok4x,hok4y,hok4z⟩:=hok4
   replace hok4x:=zD.1 hok4x
   replace hok4y:=zD.1 hok4y
   replace hok4z:=zD.1 hok4z
   refine e_u 3 rfl rfl (zJ (j:=0) 0 ty50 rfl rfl rfl (.t2 (.take .nil)))<|e_dm 4 rfl rfl rfl<|e_dm 5 rfl rfl rfl<|zca (x0:=(l2.getD i (0,0,0))) 6 rfl rfl kr kr 2 i rfl yd sz50 rfl rfl rfl cbs rfl rfl (gD (d:=(0,0,0)) om) (fun b5 o6 hok7=> ?_)
   obtain ⟨hok7x,hok7y,hok7z⟩:=hok7
   replace hok7x:=zD.1 hok7x
   replace hok7y:=zD.1 hok7y
   replace hok7z:=zD.1 hok7z
   refine e_u 7 rfl rfl (zJ (j:=0) 0 ty50 rfl rfl rfl (.t2 (.take .nil)))<|e_pv 8 rfl rfl (zEe (p:=(l1.getD i (0,0,0)).1=(l2.getD i (0,0,0)).1∧(l1.getD i (0,0,0)).2.1=(l2.getD i (0,0,0)).2.1∧(l1.getD i (0,0,0)).2.2=(l2.getD i (0,0,0)).2.2) kr rfl rfl (zZe ya sz3 (zXd ty3 rfl rfl (zMc yq) (zXd ty3 rfl rfl (zMc yq) (zXd ty3 rfl rfl (zMc yq) zig)))) (by simp [Bool.decide_and]))<|zU kr<|zd<|zG rfl (fun hd=> ?_) (fun hd=> ?_)
   ·
    refine zg<|za<|e_p (zc rfl)<|zh<|zd<|zI<|zp<|zi<|zi<|zp<|zi ?_
    exact zu Tryz.results32 () trivial (zk rfl) (congrArg Value.bool (decide_eq_false (fun h=>hd (by simp [h])))) (ho:=(.n:PickO _ _ _)) (.n:SelR _ _ _)
   ·
    refine zw<|zO<|zd<|za<|e_p (zK (z:=(((i+1):Nat):Int)) rfl rfl (w64 om))<|e_mv rfl<|zh<|zha (i+1) (show (i+1)≤n1∧∀j,j<(i+1)→l1.getD j (0,0,0)=l2.getD j (0,0,0) from by exact ⟨by omega,Ms.all_lt_succ hall (by have h9:=Decidable.not_not.1 hd;first|exact h9|(apply Prod.ext;exact h9.1;apply Prod.ext;exact h9.2.1;exact h9.2.2))⟩) (by show n1 - (i+1)<n1 - i;omega) ((.of rfl):SubM _ _) (ho:=(.n:PickO _ _ _)) ((.of [2,3] rfl):SelR _ _ _)
  ·
   refine zna<|zj<|zj<|zy<|zd<|zg<|za<|e_p (zc rfl)<|zh<|zd<|zI ?_
   exact zu Tryz.results32 () trivial (zk rfl) (congrArg Value.bool (decide_eq_true (Ms.ext_getD (0,0,0) om (fun j hj=>hall j om)))) (ho:=(.n:PickO _ _ _)) (.n:SelR _ _ _)
end Go.Proofs.YtjcpbhlijoigfaaGreat.Sp
namespace Go.Proofs.YtjcpbhlijoigfaaGreat.Sp
open Go
set_option linter.unusedVariables false
set_option maxRecDepth 100000
set_option maxHeartbeats 8000000
theorem zDf:Con yf 11 [] [] [] (Y:=Unit) (fun y=>True) (fun y=> .bool true) (fun y=>[]) (fun y=>[]):=by
 refine zl Tryz.func11 rfl rfl rfl (fun c=> ?_)
 show RunC _ _ _ _ _ [] [] []
 refine zg<|za<|e_p (zc rfl)<|zh<|zd<|zg<|za<|e_p (zH zr30 rfl yc (.c sz3 (.c sz3 .n)) (.c rfl (.c rfl .n)) (.c rfl rfl rfl (.take .nil) (.c rfl rfl rfl (.skip (.take .nil)) .n)))<|e_p (zH zr30 rfl yc (.c sz3 (.c sz3 .n)) (.c rfl (.c rfl .n)) (.c rfl rfl rfl (.take .nil) (.c rfl rfl rfl (.skip (.take .nil)) .n)))<|e_p (zH zr30 rfl yc (.c sz3 (.c sz3 .n)) (.c rfl (.c rfl .n)) (.c rfl rfl rfl (.take .nil) (.c rfl rfl rfl (.skip (.take .nil)) .n)))<|e_p (zH zr30 rfl yc (.c sz3 (.c sz3 .n)) (.c rfl (.c rfl .n)) (.c rfl rfl rfl (.take .nil) (.c rfl rfl rfl (.skip (.take .nil)) .n)))<|e_p (zH zr30 rfl yc (.c sz3 (.c sz3 .n)) (.c rfl (.c rfl .n)) (.c rfl rfl rfl (.take .nil) (.c rfl rfl rfl (.skip (.take .nil)) .n)))<|zIa rfl rfl (zX (enc:=fun z:Int×Int=>[.int .i64 z.1,.int .i64 z.2]) (ok:=fun z=>InK .i64 z.1∧InK .i64 z.2) (h1:=fun _=>rfl) (h2:=fun _=>rfl) (k:=5) ye inf30 rfl dd dd dd (.c (x:=(0,0)) rfl rfl (fun _ _=>by exact ⟨zD.2 (by first|omega|decide|(dsimp only;omega)),zD.2 (by first|omega|decide|(dsimp only;omega))⟩) (.c (x:=(4,0)) rfl rfl (fun _ _=>by exact ⟨zD.2 (by first|omega|decide|(dsimp only;omega)),zD.2 (by first|omega|decide|(dsimp only;omega))⟩) (.c (x:=(4,4)) rfl rfl (fun _ _=>by exact ⟨zD.2 (by first|omega|decide|(dsimp only;omega)),zD.2 (by first|omega|decide|(dsimp only;omega))⟩) (.c (x:=(2,1)) rfl rfl (fun _ _=>by exact ⟨zD.2 (by first|omega|decide|(dsimp only;omega)),zD.2 (by first|omega|decide|(dsimp only;omega))⟩) (.c (x:=(0,4)) rfl rfl (fun _ _=>by exact ⟨zD.2 (by first|omega|decide|(dsimp only;omega)),zD.2 (by first|omega|decide|(dsimp only;omega))⟩) .n)))))) (fun b1 _=> ?_)
 refine e_p (zc rfl)<|zh<|zd<|zg<|za<|e_mv rfl<|zla 0 rfl .z<|zL rfl rfl (.c rfl .n) ce13 (zNf (p:=some ⟨b1,0,none⟩) (n:=5) (cap:=5) (l:=[(0,0),(4,0),(4,4),(2,1),(0,4)]) (hn:=by first|rfl|assumption|decide|omega|(decide +kernel))) (.c (j:=0) rfl .n) ?_
 have e2:Pg.arV ([(0,0),(4,0),(4,4),(2,1),(0,4)])=20:=by exact Pg.ex1.1
 rw [e2]
 have e3:Pg.arC ([(0,0),(4,0),(4,4),(2,1),(0,4)])=0:=by exact Pg.ex1.2
 rw [e3]
 refine e_mv rfl<|e_p (zt rfl rfl)<|e_p (zt rfl rfl)<|e_p (zc rfl)<|e_p (zc rfl)<|zh<|zd<|zg<|za<|e_mv rfl<|e_p (zH zr30 rfl yc (.c sz3 (.c sz3 .n)) (.c rfl (.c rfl .n)) (.c rfl rfl rfl (.take .nil) (.c rfl rfl rfl (.skip (.take .nil)) .n)))<|zL rfl rfl (.c rfl (.c rfl .n)) ce17 (zsc (p:=some ⟨b1,0,none⟩) (n:=5) (cap:=5) (l:=[(0,0),(4,0),(4,4),(2,1),(0,4)]) (hx:=1) (hy:=1) (hn:=by first|rfl|assumption|decide|omega|(decide +kernel)) (hwhx:=by first|rfl|assumption|decide|omega|(decide +kernel)) (hwhy:=by first|rfl|assumption|decide|omega|(decide +kernel))) (.c (j:=0) rfl .n) ?_
 have e4:Pg.isV ([(0,0),(4,0),(4,4),(2,1),(0,4)]) (1,1)=1:=by exact Pg.ex2.1
 rw [e4]
 have e5:Pg.isC ([(0,0),(4,0),(4,4),(2,1),(0,4)]) (1,1)=0:=by exact Pg.ex2.2
 rw [e5]
 refine e_mv rfl<|e_p (zt rfl rfl)<|e_p (zt rfl rfl)<|e_p (zc rfl)<|e_p (zc rfl)<|zh<|zd<|zg<|za<|e_mv rfl<|e_p (zH zr30 rfl yc (.c sz3 (.c sz3 .n)) (.c rfl (.c rfl .n)) (.c rfl rfl rfl (.take .nil) (.c rfl rfl rfl (.skip (.take .nil)) .n)))<|zL rfl rfl (.c rfl (.c rfl .n)) ce17 (zsc (p:=some ⟨b1,0,none⟩) (n:=5) (cap:=5) (l:=[(0,0),(4,0),(4,4),(2,1),(0,4)]) (hx:=2) (hy:=2) (hn:=by first|rfl|assumption|decide|omega|(decide +kernel)) (hwhx:=by first|rfl|assumption|decide|omega|(decide +kernel)) (hwhy:=by first|rfl|assumption|decide|omega|(decide +kernel))) (.c (j:=0) rfl .n) ?_
 have e6:Pg.isV ([(0,0),(4,0),(4,4),(2,1),(0,4)]) (2,2)=(-1):=by exact Pg.ex3.1
 rw [e6]
 have e7:Pg.isC ([(0,0),(4,0),(4,4),(2,1),(0,4)]) (2,2)=0:=by exact Pg.ex3.2
 rw [e7]
 refine e_mv rfl<|e_p (zt rfl rfl)<|e_p (zt rfl rfl)<|e_p (zc rfl)<|e_p (zc rfl)<|zh<|zd<|zg<|za<|e_mv rfl<|zC rfl rfl (.c rfl .n) ce30 (zOf (p:=some ⟨b1,0,none⟩) (n:=5) (cap:=5) (l:=[(0,0),(4,0),(4,4),(2,1),(0,4)]) (hn:=by first|rfl|assumption|decide|omega|(decide +kernel))) (.c (j:=0) rfl .n) ?_
 rintro ⟨p28,c29⟩ -
 dsimp only [aq,nq,cq]
 have e10:Pg.erC ([(0,0),(4,0),(4,4),(2,1),(0,4)])=0:=by exact Pg.ex4.2
 rw [e10]
 refine e_mv rfl<|e_p (zt rfl rfl)<|e_p (zt rfl rfl)<|e_p (zc rfl)<|e_p (zc rfl)<|zh<|zd<|zg<|za<|e_p (zH zr30 rfl yc (.c sz3 (.c sz3 .n)) (.c rfl (.c rfl .n)) (.c rfl rfl rfl (.take .nil) (.c rfl rfl rfl (.skip (.take .nil)) .n)))<|e_p (zH zr30 rfl yc (.c sz3 (.c sz3 .n)) (.c rfl (.c rfl .n)) (.c rfl rfl rfl (.take .nil) (.c rfl rfl rfl (.skip (.take .nil)) .n)))<|e_p (zH zr30 rfl yc (.c sz3 (.c sz3 .n)) (.c rfl (.c rfl .n)) (.c rfl rfl rfl (.take .nil) (.c rfl rfl rfl (.skip (.take .nil)) .n)))<|e_p (zH zr30 rfl yc (.c sz3 (.c sz3 .n)) (.c rfl (.c rfl .n)) (.c rfl rfl rfl (.take .nil) (.c rfl rfl rfl (.skip (.take .nil)) .n)))<|zIa rfl rfl (zX (enc:=fun z:Int×Int=>[.int .i64 z.1,.int .i64 z.2]) (ok:=fun z=>InK .i64 z.1∧InK .i64 z.2) (h1:=fun _=>rfl) (h2:=fun _=>rfl) (k:=4) ye inf30 rfl dd dd dd (.c (x:=(0,0)) rfl rfl (fun _ _=>by exact ⟨zD.2 (by first|omega|decide|(dsimp only;omega)),zD.2 (by first|omega|decide|(dsimp only;omega))⟩) (.c (x:=(4,0)) rfl rfl (fun _ _=>by exact ⟨zD.2 (by first|omega|decide|(dsimp only;omega)),zD.2 (by first|omega|decide|(dsimp only;omega))⟩) (.c (x:=(4,4)) rfl rfl (fun _ _=>by exact ⟨zD.2 (by first|omega|decide|(dsimp only;omega)),zD.2 (by first|omega|decide|(dsimp only;omega))⟩) (.c (x:=(0,4)) rfl rfl (fun _ _=>by exact ⟨zD.2 (by first|omega|decide|(dsimp only;omega)),zD.2 (by first|omega|decide|(dsimp only;omega))⟩) .n))))) (fun b11 _=> ?_)
 refine e_p (zH zr30 rfl yc (.c sz3 (.c sz3 .n)) (.c rfl (.c rfl .n)) (.c rfl rfl rfl (.take .nil) (.c rfl rfl rfl (.skip (.take .nil)) .n)))<|e_p (zH zr30 rfl yc (.c sz3 (.c sz3 .n)) (.c rfl (.c rfl .n)) (.c rfl rfl rfl (.take .nil) (.c rfl rfl rfl (.skip (.take .nil)) .n)))<|zla 0 rfl .z<|zC rfl rfl (.c rfl (.c rfl (.c rfl .n))) ce19 (zNe (p:=some ⟨b11,0,none⟩) (n:=4) (cap:=4) (l:=[(0,0),(4,0),(4,4),(0,4)]) (ex:=2) (ey:=(-1)) (fx:=9) (fy:=2) (hn:=by first|rfl|assumption|decide|omega|(decide +kernel)) (hwex:=by first|rfl|assumption|decide|omega|(decide +kernel)) (hwey:=by first|rfl|assumption|decide|omega|(decide +kernel)) (hwfx:=by first|rfl|assumption|decide|omega|(decide +kernel)) (hwfy:=by first|rfl|assumption|decide|omega|(decide +kernel))) (.c (j:=0) rfl .n) ?_
 rintro ⟨p212,c213⟩ -
 dsimp only [aq,nq,cq]
 have e14:Pg.wnC ([(0,0),(4,0),(4,4),(0,4)]) (2,(-1)) (9,2)=0:=by exact Pg.ex5
 rw [e14]
 refine e_mv rfl<|e_p (zt rfl rfl)<|e_p (zt rfl rfl)<|e_p (zc rfl)<|e_p (zc rfl)<|zh<|zd<|zg<|za<|e_mv rfl<|e_mv rfl<|e_p (zK (z:=0) rfl rfl (w64 dd))<|e_mv rfl<|e_p (zK (z:=0) rfl rfl (w64 dd))<|e_mv rfl<|e_p (zK (z:=0) rfl rfl (w64 dd))<|e_mv rfl<|e_p (zK (z:=0) rfl rfl (w64 dd))<|e_p (zDa rfl rfl) ?_
 rw [show true=true from by decide]
 refine e_mv rfl<|e_mv rfl<|e_p (zDa rfl rfl) ?_
 rw [show true=true from by decide]
 refine e_p (zn rfl rfl)<|e_mv rfl<|e_mv rfl<|e_p (zDa rfl rfl) ?_
 rw [show true=true from by decide]
 refine e_p (zn rfl rfl)<|e_mv rfl<|e_mv rfl<|e_p (zDa rfl rfl) ?_
 rw [show true=true from by decide]
 refine e_p (zn rfl rfl)<|e_mv rfl<|e_mv rfl<|e_p (zta zr50 rfl ya sz3 (.c rfl (.c rfl (.c rfl .n))) (.c rfl rfl rfl (.take .nil) (.c rfl rfl rfl (.skip (.take .nil)) (.c rfl rfl rfl (.s2 (.take .nil)) .n))))<|e_p (zta zr50 rfl ya sz3 (.c rfl (.c rfl (.c rfl .n))) (.c rfl rfl rfl (.take .nil) (.c rfl rfl rfl (.skip (.take .nil)) (.c rfl rfl rfl (.s2 (.take .nil)) .n))))<|e_p (zta zr50 rfl ya sz3 (.c rfl (.c rfl (.c rfl .n))) (.c rfl rfl rfl (.take .nil) (.c rfl rfl rfl (.skip (.take .nil)) (.c rfl rfl rfl (.s2 (.take .nil)) .n))))<|zIa rfl rfl (zX (enc:=fun z:Int×Int×Int=>[.int .i64 z.1,.int .i64 z.2.1,.int .i64 z.2.2]) (ok:=fun z=>InK .i64 z.1∧InK .i64 z.2.1∧InK .i64 z.2.2) (h1:=fun _=>rfl) (h2:=fun _=>rfl) (k:=3) yd inf50 rfl dd dd dd (.c (x:=(1,2,3)) rfl rfl (fun _ _=>by exact ⟨zD.2 (by first|omega|decide|(dsimp only;omega)),zD.2 (by first|omega|decide|(dsimp only;omega)),zD.2 (by first|omega|decide|(dsimp only;omega))⟩) (.c (x:=(0,1,3)) rfl rfl (fun _ _=>by exact ⟨zD.2 (by first|omega|decide|(dsimp only;omega)),zD.2 (by first|omega|decide|(dsimp only;omega)),zD.2 (by first|omega|decide|(dsimp only;omega))⟩) (.c (x:=(0,3,4)) rfl rfl (fun _ _=>by exact ⟨zD.2 (by first|omega|decide|(dsimp only;omega)),zD.2 (by first|omega|decide|(dsimp only;omega)),zD.2 (by first|omega|decide|(dsimp only;omega))⟩) .n)))) (fun b15 _=> ?_)
 refine zla 3 rfl (.s (.s (.s .z)))<|zla 0 rfl .z<|zL rfl rfl (.c rfl (.c rfl .n)) ce32 (zRe (p1:=p28) (n1:=(Pg.erV ([(0,0),(4,0),(4,4),(2,1),(0,4)])).length) (c1:=c29) (l1:=(Pg.erV ([(0,0),(4,0),(4,4),(2,1),(0,4)]))) (p2:=some ⟨b15,0,none⟩) (n2:=3) (c2:=3) (l2:=[(1,2,3),(0,1,3),(0,3,4)]) (hn1:=by first|rfl|assumption|decide|omega|(decide +kernel)) (hn2:=by first|rfl|assumption|decide|omega|(decide +kernel))) (.c (j:=1) rfl (.c (j:=0) rfl .n)) ?_
 rw [show (decide ((Pg.erV ([(0,0),(4,0),(4,4),(2,1),(0,4)]))=([(1,2,3),(0,1,3),(0,3,4)])))=true from by exact decide_eq_true Pg.ex4.1]
 refine e_p (zn rfl rfl)<|e_mv rfl<|e_mv rfl<|zla 1 rfl (.s .z)<|zC rfl rfl (.c rfl .n) ce24 (zCf (p:=p212) (n:=(Pg.wnV ([(0,0),(4,0),(4,4),(0,4)]) (2,(-1)) (9,2)).length) (cap:=c213) (l:=(Pg.wnV ([(0,0),(4,0),(4,4),(0,4)]) (2,(-1)) (9,2))) (K:=100) (hn:=by rfl) (hbq:=by exact Pg.ex6) (hK:=dd) (hz:=by exact Pg.ex7)) (.c (j:=0) rfl .n) ?_
 rintro ⟨w316,w417⟩ -
 dsimp only [aq,nq,cq]
 refine zC rfl rfl (.c rfl .n) ce26 (zkd (z:=8) (hz:=by first|rfl|assumption|decide|omega|(decide +kernel))) (.n) ?_
 rintro ⟨w318,w419⟩ -
 dsimp only [aq,nq,cq]
 refine zL rfl rfl (.c rfl (.c rfl .n)) ce44 (zQe (u1:=w316) (v1:=w417) (q1:=(Pg.sz (Pg.wnV ([(0,0),(4,0),(4,4),(0,4)]) (2,(-1)) (9,2)))) (u2:=w318) (v2:=w419) (q2:=((8:Int):Rat)) (hl:=by decide +kernel)) (.c (j:=1) rfl (.c (j:=0) rfl .n)) ?_
 rw [show (decide ((Pg.sz (Pg.wnV ([(0,0),(4,0),(4,4),(0,4)]) (2,(-1)) (9,2)))=((8:Int):Rat)))=true from by exact decide_eq_true Pg.ex8]
 refine e_p (zn rfl rfl)<|e_p (zc rfl)<|zh<|zd<|zI ?_
 exact zu Tryz.results11 () trivial (zk rfl) rfl (ho:=(.n:PickO _ _ _)) (.n:SelR _ _ _)
end Go.Proofs.YtjcpbhlijoigfaaGreat.Sp
namespace Go.Proofs.YtjcpbhlijoigfaaGreat.Pg
set_option linter.unusedVariables false
theorem betw_sw {a b p:P2}:betw a b p↔betw b a p:=by unfold betw;omega
theorem onS_sw {a b p:P2}:onS a b p↔onS b a p:=by
  unfold onS;rw [crs_sw a b,betw_sw]
  constructor <;> intro h <;> exact ⟨by omega,h.2⟩
theorem mt_comm {a b c d:P2}:mt a b c d↔mt c d a b:=by
  unfold mt mt0 mt1
  constructor
  · rintro (⟨h1, h2⟩ | h | h | h | h)
    · exact .inl ⟨h2,h1⟩
    · exact .inr (.inr (.inr (.inl h)))
    · exact .inr (.inr (.inr (.inr h)))
    · exact .inr (.inl h)
    · exact .inr (.inr (.inl h))
  · rintro (⟨h1, h2⟩ | h | h | h | h)
    · exact .inl ⟨h2,h1⟩
    · exact .inr (.inr (.inr (.inl h)))
    · exact .inr (.inr (.inr (.inr h)))
    · exact .inr (.inl h)
    · exact .inr (.inr (.inl h))
theorem mt_sw1 {a b c d:P2} (h:mt a b c d):mt b a c d:=by
  unfold mt mt0 mt1 at*
  rcases h with ⟨h1,h2⟩|h|h|h|h
  · refine .inl ⟨?_, by rw [Int.mul_comm]; exact h2⟩
    rw [crs_sw a b c,crs_sw a b d,Int.sign_neg,Int.sign_neg,Int.neg_mul_neg];exact h1
  · exact .inr (.inl (onS_sw.1 h))
  · exact .inr (.inr (.inl (onS_sw.1 h)))
  · exact .inr (.inr (.inr (.inr h)))
  · exact .inr (.inr (.inr (.inl h)))
theorem mt_sw {a b c d:P2} (h:mt a b c d):mt b a d c:=mt_sw1 (mt_comm.1 (mt_sw1 (mt_comm.1 h)))
structure Sm (n:Nat) (l:List P2):Prop where
  len:l.length=n
  n3:3≤n
  n64:n≤64
  nd:l.Nodup
  a:∀i,i<n→¬smA n l i
  b:∀i j,i<n→j<n→i≠j→(i+1)%n≠j→(j+1)%n≠i→¬mt (gt l i) (gt l ((i+1)%n)) (gt l j) (gt l ((j+1)%n))
theorem ck1_iff {l:List P2}:∀{s:List P2},ck1 s l=0↔(∀x∈l,inR x)∧l.Nodup∧∀x∈l,x ∉ s:=by
  induction l with
  |nil=>intro s;exact ⟨fun _=>⟨fun x h=>(by cases h),List.nodup_nil,fun x h=>(by cases h)⟩,fun _=>rfl⟩
  |cons a l ih=>
    intro s
    unfold ck1
    by_cases hf:far a=true
    · rw [if_pos hf]
      refine ⟨fun h=>absurd h (by decide),fun h=> ?_⟩
      have:=h.1 a (List.mem_cons_self ..)
      unfold far at hf;simp at hf;exact absurd this hf
    rw [if_neg hf]
    by_cases hd:a∈s
    · rw [if_pos hd]
      exact ⟨fun h=>absurd h (by decide),fun h=>absurd hd (h.2.2 a (List.mem_cons_self ..))⟩
    rw [if_neg hd,ih]
    constructor
    · rintro ⟨h1, h2, h3⟩
      refine ⟨fun x hx=> ?_,List.nodup_cons.2 ⟨fun hm=>h3 a hm (by simp),h2⟩,fun x hx=> ?_⟩
      · rcases List.mem_cons.1 hx with rfl | hx
        · exact far_no hf
        · exact h1 x hx
      · rcases List.mem_cons.1 hx with rfl | hx
        · exact hd
        · exact fun hs=>h3 x hx (by simp [hs])
    · rintro ⟨h1, h2, h3⟩
      obtain ⟨h4,h5⟩:=List.nodup_cons.1 h2
      refine ⟨fun x hx=>h1 x (List.mem_cons_of_mem _ hx),h5,fun x hx hm=> ?_⟩
      rcases List.mem_append.1 hm with hm|hm
      · exact h3 x (List.mem_cons_of_mem _ hx) hm
      · rw [List.mem_singleton] at hm;subst hm;exact h4 hx
theorem Sm.of {l:List P2} (h:ck l=0):Sm l.length l:=by
  have ho:=ok h
  have h1:ck1 [] l=0:=by
    unfold ck at h
    have h3:=ho.n3
    have h64:=ho.n64
    rw [if_neg (by omega)] at h
    by_cases k:ck1 [] l=0
    · exact k
    · rw [if_pos k] at h;exact absurd h k
  refine ⟨rfl,ho.n3,ho.n64,(ck1_iff.1 h1).2.1,fun i hi=>(ho.smp i hi).1,fun i j hi hj hij h4 h5 hm=> ?_⟩
  have h3:=ho.n3
  by_cases k:i<j
  · refine (ho.smp i hi).2 j hj ⟨?_, h5, hm⟩
    rw [Nat.mod_eq_of_lt (by omega)] at h4;omega
  · refine (ho.smp j hj).2 i hi ⟨?_, h4, mt_comm.1 hm⟩
    rw [Nat.mod_eq_of_lt (by omega)] at h5;omega
theorem Sm.ck {n:Nat} {l:List P2} (h:Sm n l) (hr:∀x∈l,inR x):ck l=0:=by
  have hl:=h.len
  have h3:=h.n3
  have h64:=h.n64
  refine ck_ok (by omega) (ck1_iff.2 ⟨hr,h.nd,fun x _ hx=>by cases hx⟩) ((smp_n hl).2 fun i hi=>⟨h.a i hi,fun j hj hb=> ?_⟩)
  refine h.b i j hi hj (by have:=hb.1;omega) ?_ hb.2.1 hb.2.2
  have:=hb.1
  rw [Nat.mod_eq_of_lt (by omega)];omega
structure Turn (n:Nat) (l l':List P2) (t:Nat→Nat) (e:Nat→Nat) (rv:Bool):Prop where
  len:l.length=n
  len':l'.length=n
  pos:0<n
  e_lt:∀i,i<n→e i<n
  e_inj:∀i j,i<n→j<n→e i=e j→i=j
  e_perm:((List.range n).map e).Perm (List.range n)
  nx:∀i j,i<n→j<n→(e i+1)%n=e j→(if rv then (j+1)%n=i else (i+1)%n=j)
  at1:∀i,i<n→(if rv then gt l' i=gt l ((e i+1)%n)∧gt l' ((i+1)%n)=gt l (e i) else gt l' i=gt l (e i)∧gt l' ((i+1)%n)=gt l ((e i+1)%n))
theorem Turn.onE {n:Nat} {l l':List P2} {t e:Nat→Nat} {rv:Bool} (h:Turn n l l' t e rv) {q:P2} {i:Nat} (hi:i<n):onS (gt l' i) (gt l' ((i+1)%n)) q↔onS (gt l (e i)) (gt l ((e i+1)%n)) q:=by
  have h2:=h.at1 i hi
  cases rv
  · simp only [Bool.false_eq_true,if_false] at h2;rw [h2.1,h2.2]
  · simp only [if_true] at h2;rw [h2.1,h2.2];exact onS_sw
theorem Turn.onB {n:Nat} {l l':List P2} {t e:Nat→Nat} {rv:Bool} (h:Turn n l l' t e rv) (q:P2):onB l' q↔onB l q:=by
  have hl:=h.len
  have hl':=h.len'
  unfold Pg.onB
  rw [hl,hl']
  constructor
  · rintro ⟨i, hi, ho⟩
    exact ⟨e i,h.e_lt i hi,(h.onE hi).1 ho⟩
  · rintro ⟨j, hj, ho⟩
    have hm:j∈(List.range n).map e:=h.e_perm.mem_iff.2 (by simpa using hj)
    obtain ⟨i,hi,rfl⟩:=List.mem_map.1 hm
    have hi':i<n:=by simpa using hi
    exact ⟨i,hi',(h.onE hi').2 ho⟩
theorem Turn.mt {n:Nat} {l l':List P2} {t e:Nat→Nat} {rv:Bool} (h:Turn n l l' t e rv) {i j:Nat} (hi:i<n) (hj:j<n) (hm:mt (gt l' i) (gt l' ((i+1)%n)) (gt l' j) (gt l' ((j+1)%n))):Pg.mt (gt l (e i)) (gt l ((e i+1)%n)) (gt l (e j)) (gt l ((e j+1)%n)):=by
  have h2:=h.at1 i hi
  have h3:=h.at1 j hj
  cases rv
  · simp only [Bool.false_eq_true,if_false] at h2 h3;rw [h2.1,h2.2,h3.1,h3.2] at hm;exact hm
  · simp only [if_true] at h2 h3;rw [h2.1,h2.2,h3.1,h3.2] at hm;exact mt_sw hm
theorem Turn.b {n:Nat} {l l':List P2} {t e:Nat→Nat} {rv:Bool} (h:Turn n l l' t e rv) (hs:Sm n l) {i j:Nat} (hi:i<n) (hj:j<n) (hij:i≠j) (h1:(i+1)%n≠j) (h2:(j+1)%n≠i):¬Pg.mt (gt l' i) (gt l' ((i+1)%n)) (gt l' j) (gt l' ((j+1)%n)):=by
  intro hm
  refine hs.b (e i) (e j) (h.e_lt i hi) (h.e_lt j hj) (fun k=>hij (h.e_inj i j hi hj k)) (fun k=> ?_) (fun k=> ?_) (h.mt hi hj hm)
  · have := h.nx i j hi hj k
    cases rv
    · simp only [Bool.false_eq_true,if_false] at this;exact h1 this
    · simp only [if_true] at this;exact h2 this
  · have := h.nx j i hj hi k
    cases rv
    · simp only [Bool.false_eq_true,if_false] at this;exact h2 this
    · simp only [if_true] at this;exact h1 this
def rot (l:List P2) (k:Nat):List P2:=l.drop k++l.take k
theorem gt_rev {l:List P2} {n i:Nat} (hn:l.length=n) (hi:i<n):gt l.reverse i=gt l (n - 1 - i):=by
  unfold gt
  rw [List.getD_eq_getElem?_getD,List.getElem?_reverse (by omega),List.getD_eq_getElem?_getD,hn]
def sh (d e:Int) (p:P2):P2:=(p.1+d,p.2+e)
theorem crs_sh (d e:Int) (a b c:P2):crs (sh d e a) (sh d e b) (sh d e c)=crs a b c:=by
  unfold crs sh
  dsimp only
  rw [show b.1+d - (a.1+d)=b.1 - a.1 by omega,show c.2+e - (a.2+e)=c.2 - a.2 by omega,show b.2+e - (a.2+e)=b.2 - a.2 by omega,show c.1+d - (a.1+d)=c.1 - a.1 by omega]
structure Rv (n:Nat) (l X:List P2) (i:Nat):Prop where
  len:X.length=n
  le:2*i≤n+1
  at1:∀m,m<n→gt X m=if m<i∨n≤m+i then gt l (n - 1 - m) else gt l m
theorem Rv.zero {n:Nat} {l:List P2} (hn:l.length=n):Rv n l l 0:=⟨hn,by omega,fun m hm=>by rw [if_neg (by omega)]⟩
theorem gt_set {X:List P2} {i m:Nat} {x:P2} (h:i<X.length):gt (X.set i x) m=if m=i then x else gt X m:=by
  unfold gt
  rw [List.getD_eq_getElem?_getD,List.getElem?_set,List.getD_eq_getElem?_getD]
  by_cases e:i=m
  · subst e;rw [if_pos rfl,if_pos rfl,if_pos h];rfl
  · rw [if_neg e,if_neg (fun k=>e k.symm)]
theorem Rv.step {n i:Nat} {l X:List P2} (h:Rv n l X i) (hi:i<n - 1 - i):Rv n l ((X.set i (gt X (n - 1 - i))).set (n - 1 - i) (gt X i)) (i+1):=by
  have hl:=h.len
  refine ⟨by rw [List.length_set,List.length_set];exact hl,by omega,fun m hm=> ?_⟩
  rw [gt_set (by rw [List.length_set];omega),gt_set (by omega),h.at1 i (by omega),h.at1 (n - 1 - i) (by omega),h.at1 m hm]
  by_cases e1:m=n - 1 - i
  · rw [if_pos e1,if_neg (by omega),if_pos (by omega),show n - 1 - m=i by omega]
  rw [if_neg e1]
  by_cases e2:m=i
  · rw [if_pos e2,if_neg (by omega),if_pos (by omega),e2]
  rw [if_neg e2]
  by_cases e3:m<i∨n≤m+i
  · rw [if_pos e3,if_pos (by omega)]
  · rw [if_neg e3,if_neg (by omega)]
theorem Rv.fin {n i:Nat} {l X:List P2} (h:Rv n l X i) (hn:l.length=n) (hi:n≤2*i+1):X=l.reverse:=by
  have hl:=h.len
  refine Ms.ext_getD (0,0) (by rw [List.length_reverse];omega) fun m hm=> ?_
  have h1:=h.at1 m (by omega)
  have h2:=gt_rev hn (i:=m) (by omega)
  show gt X m=gt l.reverse m
  rw [h1,h2]
  split
  · rfl
  · rw [show n - 1 - m=m by omega]
end Go.Proofs.YtjcpbhlijoigfaaGreat.Pg
namespace Go.Proofs.YtjcpbhlijoigfaaGreat.Pg
set_option linter.unusedVariables false
abbrev E2:=Int×Int
section
variable {α : Type} [DecidableEq α]
theorem nd_len {I:List α}:∀{O:List α},I.Nodup→(∀x∈I,x∈O)→I.length≤O.length:=by
  induction I with
  |nil=>intro O _ _;exact Nat.zero_le _
  |cons a I ih=>
    intro O hn hs
    obtain ⟨h1,h2⟩:=List.nodup_cons.1 hn
    have ha:=hs a (List.mem_cons_self ..)
    have h3:=ih (O:=O.erase a) h2 fun x hx=>(List.mem_erase_of_ne (fun e=>h1 (by subst e;exact hx))).2 (hs x (List.mem_cons_of_mem _ hx))
    rw [List.length_erase_of_mem ha] at h3
    have:=List.length_pos_of_mem ha
    rw [List.length_cons];omega
theorem nd_lt {I O:List α} (hn:I.Nodup) (hs:∀x∈I,x∈O) {a:α} (ha:a∈O) (hi:a ∉ I):I.length<O.length:=by
  have:=nd_len (I:=a :: I) (O:=O) (List.nodup_cons.2 ⟨hi,hn⟩) (fun x hx=>by rcases List.mem_cons.1 hx with rfl|hx;exact ha;exact hs x hx)
  rwa [List.length_cons] at this
end
def edg (x:T3):List E2:=[(x.1,x.2.1),(x.2.1,x.2.2),(x.2.2,x.1)]
def eds (T:List T3):List E2:=T.flatMap edg
def nxi (n:Nat) (a:Int):Int:=(a+1)%(n:Int)
structure Tg (n:Nat) (T:List T3):Prop where
  n3:3≤n
  len:T.length=n - 2
  rng:∀x∈T,(0≤x.1∧x.1<n)∧(0≤x.2.1∧x.2.1<n)∧(0≤x.2.2∧x.2.2<n)
  nd:(eds T).Nodup
  rev:∀e∈eds T,e.2≠nxi n e.1→(e.2,e.1)∈eds T
  bnd:∀a:Int,0≤a→a<n→(a,nxi n a)∈eds T
theorem eds_cons (x:T3) (T:List T3):eds (x :: T)=edg x++eds T:=rfl
theorem nxi_c {n:Nat} {a:Int} (h0:0≤a) (h:a<n):a+1<n∧nxi n a=a+1∨a+1=n∧nxi n a=0:=by
  unfold nxi
  by_cases k:a+1<n
  · exact .inl ⟨k,Int.emod_eq_of_lt (by omega) k⟩
  · refine .inr ⟨by omega, ?_⟩
    rw [show a+1=(n:Int) by omega,Int.emod_self]
theorem Tg.er {n:Nat} {T:List T3} (h:Tg n T) {e:E2} (he:e∈eds T):(0≤e.1∧e.1<n)∧(0≤e.2∧e.2<n):=by
  obtain ⟨x,hx,hm⟩:=List.mem_flatMap.1 he
  obtain ⟨h1,h2,h3⟩:=h.rng x hx
  unfold edg at hm
  rcases List.mem_cons.1 hm with rfl|hm
  · exact ⟨h1,h2⟩
  rcases List.mem_cons.1 hm with rfl|hm
  · exact ⟨h2,h3⟩
  rw [List.mem_singleton] at hm;subst hm
  exact ⟨h3,h1⟩
def outL (T:List T3) (χ:Int→Bool) (v:Int):List Int:=((eds T).filter (fun e=>decide (e.1=v)&&χ e.2)).map (·.2)
def inL (T:List T3) (χ:Int→Bool) (v:Int):List Int:=((eds T).filter (fun e=>decide (e.2=v)&&χ e.1)).map (·.1)
theorem mem_out {T:List T3} {χ:Int→Bool} {v x:Int}:x∈outL T χ v↔(v,x)∈eds T∧χ x=true:=by
  unfold outL
  rw [List.mem_map]
  constructor
  · rintro ⟨e, he, rfl⟩
    obtain ⟨h1,h2⟩:=List.mem_filter.1 he
    simp only [Bool.and_eq_true,decide_eq_true_eq] at h2
    exact ⟨by rw [← h2.1];exact h1,h2.2⟩
  · rintro ⟨h1, h2⟩
    exact ⟨(v,x),List.mem_filter.2 ⟨h1,by simp [h2]⟩,rfl⟩
theorem mem_in {T:List T3} {χ:Int→Bool} {v x:Int}:x∈inL T χ v↔(x,v)∈eds T∧χ x=true:=by
  unfold inL
  rw [List.mem_map]
  constructor
  · rintro ⟨e, he, rfl⟩
    obtain ⟨h1,h2⟩:=List.mem_filter.1 he
    simp only [Bool.and_eq_true,decide_eq_true_eq] at h2
    exact ⟨by rw [← h2.1];exact h1,h2.2⟩
  · rintro ⟨h1, h2⟩
    exact ⟨(x,v),List.mem_filter.2 ⟨h1,by simp [h2]⟩,rfl⟩
theorem nd_map {β γ:Type} {l:List β} {f:β→γ} (hl:l.Nodup) (hf:∀a∈l,∀b∈l,f a=f b→a=b):(l.map f).Nodup:=by
  induction l with
  |nil=>exact List.nodup_nil
  |cons a l ih=>
    obtain ⟨h1,h2⟩:=List.nodup_cons.1 hl
    rw [List.map_cons]
    refine List.nodup_cons.2 ⟨fun hm=> ?_,ih h2 fun x hx y hy=>hf x (List.mem_cons_of_mem _ hx) y (List.mem_cons_of_mem _ hy)⟩
    obtain ⟨b,hb,e⟩:=List.mem_map.1 hm
    exact h1 ((hf b (List.mem_cons_of_mem _ hb) a (List.mem_cons_self ..) e) ▸ hb)
theorem nd_in {T:List T3} {χ:Int→Bool} {v:Int} (h:(eds T).Nodup):(inL T χ v).Nodup:=by
  unfold inL
  refine nd_map (h.filter _) fun a ha b hb e=> ?_
  have h1:=(List.mem_filter.1 ha).2
  have h2:=(List.mem_filter.1 hb).2
  simp only [Bool.and_eq_true,decide_eq_true_eq] at h1 h2
  exact Prod.ext e (h1.1.trans h2.1.symm)
def bal (χ:Int→Bool) (v:Int) (x:T3):Prop:=((edg x).filter (fun e=>decide (e.1=v)&&χ e.2)).length=((edg x).filter (fun e=>decide (e.2=v)&&χ e.1)).length
theorem bal_len {χ:Int→Bool} {v:Int}:∀{T:List T3},(∀x∈T,bal χ v x)→(outL T χ v).length=(inL T χ v).length:=by
  intro T
  unfold outL inL
  rw [List.length_map,List.length_map]
  induction T with
  |nil=>intro _;rfl
  |cons x T ih=>
    intro h
    rw [eds_cons,List.filter_append,List.filter_append,List.length_append,List.length_append,ih fun y hy=>h y (List.mem_cons_of_mem _ hy),h x (List.mem_cons_self ..)]
theorem bal_true {v:Int} (x:T3):bal (fun _=>true) v x:=by
  unfold bal edg
  simp only [Bool.and_true,List.filter_cons,List.filter_nil]
  by_cases a:x.1=v <;> by_cases b:x.2.1=v <;> by_cases c:x.2.2=v <;> simp [a,b,c]
theorem Tg.fan {n:Nat} {T:List T3} (h:Tg n T) {χ:Int→Bool} {u v:Int} (hu:0≤u∧u<n) (e:nxi n u=v) (hb:∀x∈T,bal χ v x) (hc:χ (nxi n v)=true) (hr:(nxi n v,v) ∉ eds T):χ u=true∧(v,u) ∉ eds T:=by
  have hv:0≤v∧v<n:=by have:=nxi_c hu.1 hu.2;omega
  have hl:=bal_len hb
  have ho:nxi n v∈outL T χ v:=mem_out.2 ⟨h.bnd v hv.1 hv.2,hc⟩
  have hi:nxi n v ∉ inL T χ v:=fun k=>hr (mem_in.1 k).1
  refine Decidable.byContradiction fun hk=> ?_
  have hs:∀x∈inL T χ v,x∈outL T χ v:=fun x hx=>by
    obtain ⟨h1,h2⟩:=mem_in.1 hx
    refine mem_out.2 ⟨?_,h2⟩
    by_cases k:v=nxi n x
    · have hx2 := h.er h1
      have hxu:x=u:=by
        have a1:=nxi_c hu.1 hu.2
        have hx3:(0≤x∧x<n):=hx2.1
        have a2:=nxi_c hx3.1 hx3.2
        omega
      subst hxu
      exact Decidable.byContradiction fun hm=>hk ⟨h2,hm⟩
    · exact h.rev _ h1 k
  have:=nd_lt (nd_in h.nd) hs ho hi
  omega
def pe (n:Nat) (e:E2):Bool:=decide (e.2=nxi n e.1)||decide (e.1=nxi n e.2)
theorem pe_two {n:Nat} (h4:4≤n) {x:T3} (hr:(0≤x.1∧x.1<n)∧(0≤x.2.1∧x.2.1<n)∧(0≤x.2.2∧x.2.2<n)):((edg x).filter (pe n)).length≤2:=by
  obtain ⟨h1,h2,h3⟩:=hr
  have a1:=nxi_c h1.1 h1.2
  have a2:=nxi_c h2.1 h2.2
  have a3:=nxi_c h3.1 h3.2
  have hk:¬(pe n (x.1,x.2.1)=true∧pe n (x.2.1,x.2.2)=true∧pe n (x.2.2,x.1)=true):=by
    unfold pe
    simp only [Bool.or_eq_true,decide_eq_true_eq]
    omega
  unfold edg
  simp only [List.filter_cons,List.filter_nil]
  by_cases b1:pe n (x.1,x.2.1)=true <;> by_cases b2:pe n (x.2.1,x.2.2)=true <;> by_cases b3:pe n (x.2.2,x.1)=true <;> simp [b1,b2,b3]
  exact hk ⟨b1,b2,b3⟩
theorem edg_len (x:T3):(edg x).length=3:=rfl
theorem pe_sum {n m:Nat}:∀{T:List T3},(∀x∈T,((edg x).filter (pe n)).length≤m)→((eds T).filter (pe n)).length≤m*T.length:=by
  intro T
  induction T with
  |nil=>intro _;exact Nat.zero_le _
  |cons x T ih=>
    intro h
    have h1:=h x (List.mem_cons_self ..)
    have h2:=ih fun y hy=>h y (List.mem_cons_of_mem _ hy)
    rw [eds_cons,List.filter_append,List.length_append,List.length_cons,Nat.mul_succ];omega
theorem Tg.some_no {n:Nat} {T:List T3} (h:Tg n T):∃v:Int,(0≤v∧v<n)∧(nxi n v,v) ∉ eds T:=by
  refine Classical.byContradiction fun hc=> ?_
  have hall:∀v:Int,0≤v→v<n→(nxi n v,v)∈eds T:=fun v h0 h1=>Decidable.byContradiction fun hm=>hc ⟨v,⟨h0,h1⟩,hm⟩
  have h3:=h.n3
  let F:=(List.range n).map (fun i:Nat=>((i:Int),nxi n (i:Int)))++(List.range n).map (fun i:Nat=>(nxi n (i:Int),(i:Int)))
  have hF:F.length=2*n:=by show (_++_:List E2).length=_;rw [List.length_append,List.length_map,List.length_map,List.length_range];omega
  have hnd:F.Nodup:=by
    refine List.nodup_append.2 ⟨nd_map List.nodup_range fun a _ b _ e=> ?_,nd_map List.nodup_range fun a _ b _ e=> ?_,fun a ha b hb e=> ?_⟩
    · have:=congrArg Prod.fst e;dsimp only at this;omega
    · have:=congrArg Prod.snd e;dsimp only at this;omega
    · obtain ⟨i, hi, e1⟩ := List.mem_map.1 ha
      obtain ⟨j,hj,e2⟩:=List.mem_map.1 hb
      rw [List.mem_range] at hi hj
      have a1:=nxi_c (n:=n) (a:=(i:Int)) (by omega) (by omega)
      have a2:=nxi_c (n:=n) (a:=(j:Int)) (by omega) (by omega)
      rw [← e1,←e2] at e
      have e3:=congrArg Prod.fst e
      have e4:=congrArg Prod.snd e
      dsimp only at e3 e4;omega
  have hsub:∀x∈F,x∈(eds T).filter (pe n):=fun x hx=>by
    rcases List.mem_append.1 hx with hx|hx
    · obtain ⟨i, hi, rfl⟩ := List.mem_map.1 hx
      rw [List.mem_range] at hi
      exact List.mem_filter.2 ⟨h.bnd _ (by omega) (by omega),by unfold pe;simp⟩
    · obtain ⟨i, hi, rfl⟩ := List.mem_map.1 hx
      rw [List.mem_range] at hi
      exact List.mem_filter.2 ⟨hall _ (by omega) (by omega),by unfold pe;simp⟩
  have h1:=nd_len hnd hsub
  rw [hF] at h1
  have hl:=h.len
  by_cases k:4≤n
  · have := pe_sum (n := n) (m := 2) fun x hx => pe_two k (h.rng x hx)
    omega
  · have := pe_sum (n := n) (m := 3) (T := T) fun x hx => Nat.le_trans (List.length_filter_le _ _) (Nat.le_of_eq (edg_len x))
    omega
theorem Tg.down {n:Nat} {T:List T3} (h:Tg n T) {v:Nat} (hv:v<n) (hp:(nxi n (v:Int),(v:Int)) ∉ eds T):∀w:Nat,w≤v→(nxi n (w:Int),(w:Int)) ∉ eds T:=by
  induction v with
  | zero => intro w hw; have e : w = 0 := by omega
            rw [e];exact hp
  |succ v ih=>
    intro w hw
    by_cases e:w=v+1
    · subst e;exact hp
    · refine ih (by omega) ?_ w (by omega)
      have a1:=nxi_c (n:=n) (a:=(v:Int)) (by omega) (by omega)
      have e1:nxi n (v:Int)=((v+1:Nat):Int):=by omega
      have:=(h.fan (χ:=fun _=>true) (u:=(v:Int)) (v:=((v+1:Nat):Int)) (by omega) e1 (fun x _=>bal_true x) rfl hp).2
      rw [e1];exact this
theorem Tg.no {n:Nat} {T:List T3} (h:Tg n T):∀v:Int,0≤v→v<n→(nxi n v,v) ∉ eds T:=by
  have h3:=h.n3
  obtain ⟨v0,⟨a,b⟩,hp⟩:=h.some_no
  obtain ⟨v,rfl⟩:∃v:Nat,v0=(v:Int):=⟨v0.toNat,by omega⟩
  have h0:=h.down (by omega) hp 0 (by omega)
  have a1:=nxi_c (n:=n) (a:=((n - 1:Nat):Int)) (by omega) (by omega)
  have e1:nxi n ((n - 1:Nat):Int)=((0:Nat):Int):=by omega
  have hn:=(h.fan (χ:=fun _=>true) (u:=((n - 1:Nat):Int)) (v:=((0:Nat):Int)) (by omega) e1 (fun x _=>bal_true x) rfl h0).2
  intro w hw hw2
  obtain ⟨k,rfl⟩:∃k:Nat,w=(k:Int):=⟨w.toNat,by omega⟩
  exact h.down (v:=n - 1) (by omega) (by rw [e1];exact hn) k (by omega)
end Go.Proofs.YtjcpbhlijoigfaaGreat.Pg
namespace Go.Proofs.YtjcpbhlijoigfaaGreat.Pg
set_option linter.unusedVariables false
def smE (f:E2→Int):List E2→Int
  |[]=>0
  |e :: L=>f e+smE f L
theorem smE_append (f:E2→Int) (A B:List E2):smE f (A++B)=smE f A+smE f B:=by
  induction A with
  |nil=>simp [smE]
  |cons a A ih=>rw [List.cons_append];simp only [smE];rw [ih];omega
theorem smE_perm {f:E2→Int} {A B:List E2} (h:A.Perm B):smE f A=smE f B:=by
  induction h with
  |nil=>rfl
  |cons a _ ih=>simp only [smE];rw [ih]
  |swap a b l=>simp only [smE];omega
  |trans _ _ h1 h2=>rw [h1,h2]
theorem smE_split (f:E2→Int) (p:E2→Bool) (A:List E2):smE f A=smE f (A.filter p)+smE f (A.filter (fun e=> !p e)):=by
  induction A with
  |nil=>rfl
  |cons a A ih=>
    rw [List.filter_cons,List.filter_cons]
    cases p a
    · simp only [Bool.false_eq_true,if_false,Bool.not_false,if_true,smE];rw [ih];omega
    · simp only [if_true,Bool.not_true,Bool.false_eq_true,if_false,smE];rw [ih];omega
theorem smE_map (f:E2→Int) (g:E2→E2) (A:List E2) (h:∀e∈A,f (g e)= - f e):smE f (A.map g)= - smE f A:=by
  induction A with
  |nil=>rfl
  |cons a A ih=>
    rw [List.map_cons]
    simp only [smE]
    rw [ih fun e he=>h e (List.mem_cons_of_mem _ he),h a (List.mem_cons_self ..)];omega
theorem zEf {A B:List E2} (ha:A.Nodup) (hb:B.Nodup) (h:∀e,e∈A↔e∈B):A.Perm B:=(List.perm_ext_iff_of_nodup ha hb).2 h
def pt (l:List P2) (a:Int):P2:=gt l a.toNat
def fx (l:List P2) (e:E2):Int:=(pt l e.1).1*(pt l e.2).2 - (pt l e.2).1*(pt l e.1).2
def cT (l:List P2) (x:T3):Int:=crs (pt l x.1) (pt l x.2.1) (pt l x.2.2)
theorem crs_cyc (a b c:P2):crs a b c=crs b c a:=by unfold crs;grind
theorem Sm.inj {n:Nat} {l:List P2} (h:Sm n l) {i j:Nat} (hi:i<n) (hj:j<n) (e:gt l i=gt l j):i=j:=by
  have hl:=h.len
  unfold gt at e
  rw [List.getD_eq_getElem?_getD,List.getD_eq_getElem?_getD,List.getElem?_eq_getElem (by omega),List.getElem?_eq_getElem (by omega)] at e
  have he2:l[i]'(by omega)=l[j]'(by omega):=e
  have hp:=List.pairwise_iff_getElem.1 h.nd
  rcases Nat.lt_trichotomy i j with k|k|k
  · exact absurd he2 (hp _ _ (by omega) (by omega) k)
  · exact k
  · exact absurd he2.symm (hp _ _ (by omega) (by omega) k)
end Go.Proofs.YtjcpbhlijoigfaaGreat.Pg
namespace Go.Proofs.YtjcpbhlijoigfaaGreat.Pg
set_option linter.unusedVariables false
def inT (n:Nat) (x:T3):Prop:=(0≤x.1∧x.1<n)∧(0≤x.2.1∧x.2.1<n)∧(0≤x.2.2∧x.2.2<n)
instance (n:Nat) (x:T3):Decidable (inT n x):=inferInstanceAs (Decidable (_∧_))
def acP (n:Nat) (l:List P2) (T:List T3):Prop:=(T.length:Int)=n - 2∧(∀x∈T,inT n x∧0<sg l*(cT l x).sign)∧(eds T).Nodup∧(∀e∈eds T,e.2≠nxi n e.1→(e.2,e.1)∈eds T)∧∀i:Nat,i<n→((i:Int),nxi n (i:Int))∈eds T
def tms (T:List T3) (a b:Int):Nat:=(eds T).count (a,b)
def acR (n:Nat) (l:List P2) (T:List T3):Prop:=(T.length:Int)=n - 2∧(∀x∈T,inT n x∧(cT l x).sign=(db l).sign)∧(∀e∈eds T,tms T e.1 e.2=1∧(e.2=nxi n e.1∨tms T e.2 e.1=1))∧∀i:Nat,i<n→tms T (i:Int) (nxi n (i:Int))=1
theorem acP_tg {n:Nat} {l:List P2} {T:List T3} (h3:3≤n) (h:acP n l T):Tg n T:=by
  obtain ⟨h1,h2,h4,h5,h6⟩:=h
  refine ⟨h3,by omega,fun x hx=>(h2 x hx).1,h4,h5,fun a a0 an=> ?_⟩
  have:=h6 a.toNat (by omega)
  rwa [show ((a.toNat:Nat):Int)=a by omega] at this
def t1 (p q a b:Int):Nat:=if p=a∧q=b then 1 else 0
instance (n:Nat) (l:List P2) (T:List T3):Decidable (acR n l T):=inferInstanceAs (Decidable (_∧_))
instance (n:Nat) (l:List P2) (T:List T3):Decidable (acP n l T):=inferInstanceAs (Decidable (_∧_))
theorem nxi_nat (n i:Nat):nxi n (i:Int)=(((i+1)%n:Nat):Int):=by unfold nxi;rw [Int.natCast_emod];rfl
end Go.Proofs.YtjcpbhlijoigfaaGreat.Pg
namespace Go.Proofs.YtjcpbhlijoigfaaGreat.Sw
set_option linter.unusedVariables false
theorem lt_or_le (a b:Rat):a<b∨b≤a:=by grind
theorem af_up {a b t1 t2:Rat} (h1:a+b*t1<0) (h2:0<a+b*t2) (h:t1<t2):0<b:=by
  rcases lt_or_le 0 b with k|k
  · exact k
  · have := Rat.mul_nonneg (show 0 ≤ -b by grind) (show 0 ≤ t2 - t1 by grind)
    grind
theorem af_dn {a b t1 t2:Rat} (h1:a+b*t1<0) (h2:0<a+b*t2) (h:t2<t1):b<0:=by
  rcases lt_or_le b 0 with k|k
  · exact k
  · have := Rat.mul_nonneg k (show 0 ≤ t1 - t2 by grind)
    grind
theorem mul_le {b s t:Rat} (hb:0≤b) (h:s≤t):b*s≤b*t:=by
  have:=Rat.mul_nonneg hb (show 0≤t - s by grind)
  grind
theorem mul_ge {b s t:Rat} (hb:b≤0) (h:s≤t):b*t≤b*s:=by
  have:=Rat.mul_nonneg (show 0≤ -b by grind) (show 0≤t - s by grind)
  grind
theorem mul_lt {b s t:Rat} (hb:0<b) (h:s<t):b*s<b*t:=by
  have:=Rat.mul_pos hb (show 0<t - s by grind)
  grind
theorem mul_gt {b s t:Rat} (hb:b<0) (h:s<t):b*t<b*s:=by
  have:=Rat.mul_pos (show 0< -b by grind) (show 0<t - s by grind)
  grind
theorem af_two {a b s t:Rat} (h1:a+b*s=0) (h2:a+b*t=0) (h:s≠t):b=0:=by
  have h3:b*(s - t)=0:=by grind
  rcases Rat.mul_eq_zero.1 h3 with k|k
  · exact k
  · exact absurd k (by grind)
theorem ends {p q u v t:Rat} (a:p<t∧t<q∨q<t∧t<p) (b:u<t∧t<v∨v<t∧t<u) (k1:¬(p<u∧u<q∨q<u∧u<p)) (k2:¬(p<v∧v<q∨q<v∧v<p)) (k3:¬(u<p∧p<v∨v<p∧p<u)) (k4:¬(u<q∧q<v∨v<q∧q<u)):p=u∨p=v∧q=u:=by
  rcases a with ⟨a1,a2⟩|⟨a1,a2⟩ <;> rcases b with ⟨b1,b2⟩|⟨b1,b2⟩
  · left;clear k2 k4;grind
  · right; constructor
    · clear k1 k4;grind
    · clear k2 k3;grind
  · right; constructor
    · clear k1 k4;grind
    · clear k2 k3;grind
  · left;clear k2 k4;grind
def nx (n i:Nat):Nat:=if i+1=n then 0 else i+1
def pv (n i:Nat):Nat:=if i=0 then n - 1 else i - 1
theorem nx_c (n i:Nat):i+1=n∧nx n i=0∨i+1≠n∧nx n i=i+1:=by
  unfold nx;by_cases h:i+1=n
  · exact .inl ⟨h,if_pos h⟩
  · exact .inr ⟨h,if_neg h⟩
theorem pv_c (n i:Nat):i=0∧pv n i=n - 1∨i≠0∧pv n i=i - 1:=by
  unfold pv;by_cases h:i=0
  · exact .inl ⟨h,if_pos h⟩
  · exact .inr ⟨h,if_neg h⟩
theorem nx_lt {n i:Nat} (h:i<n):nx n i<n:=by have:=nx_c n i;omega
theorem pv_lt {n i:Nat} (h:i<n):pv n i<n:=by have:=pv_c n i;omega
theorem nx_pv {n i:Nat} (h:i<n):nx n (pv n i)=i:=by have:=nx_c n (pv n i);have:=pv_c n i;omega
structure Pol where
  n:Nat
  X:Nat→Int
  Y:Nat→Int
namespace Pol
variable (c : Pol)
def x (i:Nat):Rat:=(c.X i:Rat)
def y (i:Nat):Rat:=(c.Y i:Rat)
def sl (i:Nat):Rat:=(c.x (nx c.n i) - c.x i) / (c.y (nx c.n i) - c.y i)
def co (i:Nat):Rat:=c.x i - c.y i*c.sl i
def xi (i:Nat) (t:Rat):Rat:=c.co i+c.sl i*t
def G (i j:Nat) (t:Rat):Rat:=(c.co j - c.co i)+(c.sl j - c.sl i)*t
theorem G_eq (i j:Nat) (t:Rat):c.G i j t=c.xi j t - c.xi i t:=by unfold G xi;grind
def cs (i:Nat) (t:Rat):Prop:=c.y i≤t∧t≤c.y (nx c.n i)∨c.y (nx c.n i)≤t∧t≤c.y i
def os (i:Nat) (t:Rat):Prop:=c.y i<t∧t<c.y (nx c.n i)∨c.y (nx c.n i)<t∧t<c.y i
theorem os_cs {c:Pol} {i:Nat} {t:Rat} (h:c.os i t):c.cs i t:=by unfold os at h;unfold cs;grind
def opp (u v:Rat):Prop:=u<0∧0<v∨0<u∧v<0
structure Ok:Prop where
  n3:3≤c.n
  inj:∀i j,i<c.n→j<c.n→c.y i=c.y j→i=j
  tch:∀i w,i<c.n→w<c.n→w≠i→w≠nx c.n i→c.os i (c.y w)→c.x w≠c.xi i (c.y w)
  crx:∀i j,i<c.n→j<c.n→j≠i→j≠nx c.n i→i≠nx c.n j→¬(opp (c.G i j (c.y j)) (c.G i j (c.y (nx c.n j)))∧opp (c.G i j (c.y i)) (c.G i j (c.y (nx c.n i))))
variable {c}
theorem Ok.ne (h:c.Ok) {i:Nat} (hi:i<c.n):c.y (nx c.n i)≠c.y i:=fun k=>by
  have h1:=h.inj _ _ (nx_lt hi) hi k
  have:=nx_c c.n i
  have:=h.n3
  omega
theorem xi_0 (c:Pol) (i:Nat):c.xi i (c.y i)=c.x i:=by unfold xi co;grind
theorem Ok.xi_1 (h:c.Ok) {i:Nat} (hi:i<c.n):c.xi i (c.y (nx c.n i))=c.x (nx c.n i):=by
  have h1:=h.ne hi
  have h2:c.sl i*(c.y (nx c.n i) - c.y i)=c.x (nx c.n i) - c.x i:=by
    unfold sl
    exact Rat.div_mul_cancel (by grind)
  unfold xi co;grind
theorem Ok.shared (h:c.Ok) {i j:Nat} (hi:i<c.n) (hj:j<c.n) (hij:j=nx c.n i∨i=nx c.n j):∃v,c.G i j v=0∧(v=c.y i∨v=c.y (nx c.n i))∧(v=c.y j∨v=c.y (nx c.n j)):=by
  rcases hij with k|k
  · refine ⟨c.y j, ?_, .inr (by rw [k]), .inl rfl⟩
    rw [G_eq,xi_0]
    have:=h.xi_1 hi
    rw [← k] at this;rw [this];grind
  · refine ⟨c.y i, ?_, .inl rfl, .inr (by rw [k])⟩
    rw [G_eq,xi_0]
    have:=h.xi_1 hj
    rw [← k] at this;rw [this];grind
theorem Ok.oc (h:c.Ok) {i j:Nat} (hi:i<c.n) (hj:j<c.n) (hne:j≠i) {t1 t2:Rat} (a1:c.cs i t1) (a2:c.cs i t2) (b1:c.cs j t1) (b2:c.cs j t2) (g1:c.G i j t1<0) (g2:0<c.G i j t2):False:=by
  have ht:t1≠t2:=fun k=>by subst k;grind
  by_cases hij:j=nx c.n i∨i=nx c.n j
  · obtain ⟨v, hv, hvi, hvj⟩ := h.shared hi hj hij
    have h1:=h.ne hi
    have h2:=h.ne hj
    have hv1:v≠t1:=fun k=>by rw [k] at hv;grind
    have hv2:v≠t2:=fun k=>by rw [k] at hv;grind
    unfold cs at a1 a2 b1 b2
    have hs:v<t1∧v<t2∨t1<v∧t2<v:=by grind
    unfold G at g1 g2 hv
    rcases lt_or_le t1 t2 with k|k
    · have hb := af_up g1 g2 k
      rcases hs with ⟨s1,s2⟩|⟨s1,s2⟩
      · have:=mul_lt hb s1;grind
      · have:=mul_lt hb s2;grind
    · have hb := af_dn g1 g2 (by grind)
      rcases hs with ⟨s1,s2⟩|⟨s1,s2⟩
      · have:=mul_gt hb s2;grind
      · have:=mul_gt hb s1;grind
  · refine h.crx i j hi hj hne (fun k => hij (.inl k)) (fun k => hij (.inr k)) ?_
    unfold cs at a1 a2 b1 b2
    unfold G at g1 g2
    unfold G opp
    rcases lt_or_le t1 t2 with k|k
    · have hb := af_up g1 g2 k
      constructor
      · rcases b1 with ⟨p, q⟩ | ⟨p, q⟩
        · left;have:=mul_le (Rat.le_of_lt hb) p;have:=mul_le (Rat.le_of_lt hb) (show t2≤c.y (nx c.n j) by grind);grind
        · right;have:=mul_le (Rat.le_of_lt hb) p;have:=mul_le (Rat.le_of_lt hb) (show t2≤c.y j by grind);grind
      · rcases a1 with ⟨p, q⟩ | ⟨p, q⟩
        · left;have:=mul_le (Rat.le_of_lt hb) p;have:=mul_le (Rat.le_of_lt hb) (show t2≤c.y (nx c.n i) by grind);grind
        · right;have:=mul_le (Rat.le_of_lt hb) p;have:=mul_le (Rat.le_of_lt hb) (show t2≤c.y i by grind);grind
    · have hb := af_dn g1 g2 (by grind)
      constructor
      · rcases b2 with ⟨p, q⟩ | ⟨p, q⟩
        · right;have:=mul_ge (Rat.le_of_lt hb) p;have:=mul_ge (Rat.le_of_lt hb) (show t1≤c.y (nx c.n j) by grind);grind
        · left;have:=mul_ge (Rat.le_of_lt hb) p;have:=mul_ge (Rat.le_of_lt hb) (show t1≤c.y j by grind);grind
      · rcases a2 with ⟨p, q⟩ | ⟨p, q⟩
        · right;have:=mul_ge (Rat.le_of_lt hb) p;have:=mul_ge (Rat.le_of_lt hb) (show t1≤c.y (nx c.n i) by grind);grind
        · left;have:=mul_ge (Rat.le_of_lt hb) p;have:=mul_ge (Rat.le_of_lt hb) (show t1≤c.y i by grind);grind
theorem Ok.nz (h:c.Ok) {i j:Nat} (hi:i<c.n) (hj:j<c.n) (hne:j≠i) {t:Rat} (a:c.os i t) (b:c.os j t):c.G i j t≠0:=fun g=>by
  have hii:=h.ne hi
  have hjj:=h.ne hj
  by_cases hb:c.sl j - c.sl i=0
  · have hall:∀s,c.xi j s=c.xi i s:=fun s=>by
      have:c.G i j s=0:=by unfold G at g ⊢;rw [hb] at g ⊢;grind
      rw [G_eq] at this;grind
    have tI:∀w,w<c.n→c.xi j (c.y w)=c.x w→¬c.os i (c.y w):=fun w hw e k=>by
      refine h.tch i w hi hw (fun q=> ?_) (fun q=> ?_) k (by rw [← hall,e])
      · subst q;unfold os at k;grind
      · subst q;unfold os at k;grind
    have tJ:∀w,w<c.n→c.xi i (c.y w)=c.x w→¬c.os j (c.y w):=fun w hw e k=>by
      refine h.tch j w hj hw (fun q=> ?_) (fun q=> ?_) k (by rw [hall,e])
      · subst q;unfold os at k;grind
      · subst q;unfold os at k;grind
    have k1:=tI _ hj (xi_0 c j)
    have k2:=tI _ (nx_lt hj) (h.xi_1 hj)
    have k3:=tJ _ hi (xi_0 c i)
    have k4:=tJ _ (nx_lt hi) (h.xi_1 hi)
    unfold os at a b k1 k2 k3 k4
    have hs:=ends a b k1 k2 k3 k4
    rcases hs with q|⟨q1,q2⟩
    · exact hne (h.inj _ _ hj hi q.symm)
    · have e1 := h.inj _ _ hi (nx_lt hj) q1
      have e2:=h.inj _ _ (nx_lt hi) hj q2
      have:=nx_c c.n i
      have:=nx_c c.n j
      have:=h.n3
      omega
  · by_cases hij : j = nx c.n i ∨ i = nx c.n j
    · obtain ⟨v, hv, hvi, hvj⟩ := h.shared hi hj hij
      refine hb (af_two hv g ?_)
      unfold os at a
      grind
    · refine h.crx i j hi hj hne (fun k => hij (.inl k)) (fun k => hij (.inr k)) ?_
      unfold os at a b
      unfold G at g
      unfold G opp
      rcases lt_or_le 0 (c.sl j - c.sl i) with k|k
      · constructor
        · rcases b with ⟨p, q⟩ | ⟨p, q⟩
          · left;have:=mul_lt k p;have:=mul_lt k q;grind
          · right;have:=mul_lt k p;have:=mul_lt k q;grind
        · rcases a with ⟨p, q⟩ | ⟨p, q⟩
          · left;have:=mul_lt k p;have:=mul_lt k q;grind
          · right;have:=mul_lt k p;have:=mul_lt k q;grind
      · have k2 : c.sl j - c.sl i < 0 := by grind
        constructor
        · rcases b with ⟨p, q⟩ | ⟨p, q⟩
          · right;have:=mul_gt k2 p;have:=mul_gt k2 q;grind
          · left;have:=mul_gt k2 p;have:=mul_gt k2 q;grind
        · rcases a with ⟨p, q⟩ | ⟨p, q⟩
          · right;have:=mul_gt k2 p;have:=mul_gt k2 q;grind
          · left;have:=mul_gt k2 p;have:=mul_gt k2 q;grind
theorem Ok.cst (h:c.Ok) {i j:Nat} (hi:i<c.n) (hj:j<c.n) (hne:j≠i) {t1 t2:Rat} (a1:c.cs i t1) (a2:c.cs i t2) (b1:c.cs j t1) (b2:c.cs j t2) (g1:c.xi j t1≠c.xi i t1) (g2:c.xi j t2≠c.xi i t2):c.xi j t1<c.xi i t1↔c.xi j t2<c.xi i t2:=by
  have k1:=h.oc hi hj hne a1 a2 b1 b2
  have k2:=h.oc hi hj hne a2 a1 b2 b1
  rw [G_eq,G_eq] at k1 k2
  constructor
  · intro k
    rcases lt_or_le (c.xi j t2) (c.xi i t2) with q|q
    · exact q
    · exact (k1 (by grind) (by grind)).elim
  · intro k
    rcases lt_or_le (c.xi j t1) (c.xi i t1) with q|q
    · exact q
    · exact (k2 (by grind) (by grind)).elim
variable (c)
def span (i:Nat) (k:Int):Prop:=c.Y i≤k∧k<c.Y (nx c.n i)∨c.Y (nx c.n i)≤k∧k<c.Y i
instance (i:Nat) (k:Int):Decidable (c.span i k):=inferInstanceAs (Decidable (_∨_))
def hf (k:Int):Rat:=(k:Rat)+1 / 2
variable {c}
theorem cle {a b:Int} (h:a≤b):(a:Rat)≤(b:Rat):=Rat.intCast_le_intCast.2 h
theorem clt {a b:Int} (h:a<b):(a:Rat)+1≤(b:Rat):=by
  have:=Rat.intCast_le_intCast.2 (show a+1≤b by omega)
  rw [Rat.intCast_add] at this
  exact this
theorem span_os {i:Nat} {k:Int} (h:c.span i k):c.os i (hf k):=by
  unfold span at h
  unfold os hf y
  rcases h with ⟨p,q⟩|⟨p,q⟩
  · have:=cle p;have:=clt q;left;grind
  · have:=cle p;have:=clt q;right;grind
theorem span_c0 {i:Nat} {k:Int} (h:c.span i k):c.cs i (k:Rat):=by
  unfold span at h
  unfold cs y
  rcases h with ⟨p,q⟩|⟨p,q⟩
  · have:=cle p;have:=clt q;left;grind
  · have:=cle p;have:=clt q;right;grind
theorem span_c1 {i:Nat} {k:Int} (h:c.span i k):c.cs i ((k+1:Int):Rat):=by
  unfold span at h
  unfold cs y
  rcases h with ⟨p,q⟩|⟨p,q⟩
  · have:=cle p;have:=cle (show k+1≤_ by exact q);have:=clt (show k<k+1 by omega);left;grind
  · have:=cle p;have:=cle (show k+1≤_ by exact q);have:=clt (show k<k+1 by omega);right;grind
end Pol
end Go.Proofs.YtjcpbhlijoigfaaGreat.Sw
namespace Go.Proofs.YtjcpbhlijoigfaaGreat.Sw
set_option linter.unusedVariables false
def pr (f:Nat→Int):Nat→Int
  |0=>1
  |m+1=>pr f m*f m
theorem pr_congr {f g:Nat→Int}:∀{m:Nat},(∀j,j<m→f j=g j)→pr f m=pr g m
  |0,_=>rfl
  |m+1,h=>by unfold pr;rw [pr_congr fun j hj=>h j (by omega),h m (by omega)]
theorem pr_one {f g:Nat→Int} {p:Nat}:∀{m:Nat},p<m→(∀j,j<m→j≠p→f j=g j)→pr f m*g p=pr g m*f p
  |0,hp,_=>by omega
  |m+1,hp,h=>by
    unfold pr
    by_cases e:p=m
    · subst e
      rw [pr_congr (f:=f) (g:=g) fun j hj=>h j (by omega) (by omega)]
      grind
    · have ih := pr_one (f := f) (g := g) (p := p) (m := m) (by omega) fun j hj hn => h j (by omega) hn
      rw [h m (by omega) (fun k=>e k.symm)]
      grind
theorem pr_two {f g:Nat→Int} {p q m:Nat} (hp:p<m) (hq:q<m) (hn:p≠q) (h:∀j,j<m→j≠p→j≠q→f j=g j):pr f m*(g p*g q)=pr g m*(f p*f q):=by
  have h1:=pr_one (f:=f) (g:=fun j=>if j=p then g p else f j) hp fun j hj k=>by rw [if_neg k]
  have h2:=pr_one (f:=fun j=>if j=p then g p else f j) (g:=g) hq fun j hj k=>by
    by_cases e:j=p
    · rw [if_pos e,e]
    · rw [if_neg e];exact h j hj e k
  rw [if_pos rfl] at h1
  rw [if_neg (fun k=>hn k.symm)] at h2
  generalize pr (fun j=>if j=p then g p else f j) m=z at h1 h2
  grind
def pm (z:Int):Prop:=z=1∨z= -1
theorem pm_mul {a b:Int} (h1:pm a) (h2:pm b):pm (a*b):=by
  unfold pm at *;rcases h1 with rfl|rfl <;> rcases h2 with rfl|rfl <;> decide
theorem pr_eq {f g:Nat→Int} {p q m:Nat} (hp:p<m) (hq:q<m) (hn:p≠q) (h:∀j,j<m→j≠p→j≠q→f j=g j) (e:f p*f q=g p*g q) (u:pm (g p*g q)):pr f m=pr g m:=by
  have:=pr_two hp hq hn h
  rw [e] at this
  rcases u with u|u <;> rw [u] at this <;> omega
theorem pr_neg {f g:Nat→Int} {p q m:Nat} (hp:p<m) (hq:q<m) (hn:p≠q) (h:∀j,j<m→j≠p→j≠q→f j=g j) (e:f p*f q= -(g p*g q)) (u:pm (g p*g q)):pr f m= - pr g m:=by
  have:=pr_two hp hq hn h
  rw [e] at this
  rcases u with u|u <;> rw [u] at this <;> omega
theorem pr_pm {f:Nat→Int}:∀{m:Nat},(∀j,j<m→pm (f j))→pm (pr f m)
  |0,_=> .inl rfl
  |m+1,h=>pm_mul (pr_pm fun j hj=>h j (by omega)) (h m (by omega))
def fl (b:Prop) [Decidable b]:Int:=if b then -1 else 1
theorem fl_pm (b:Prop) [Decidable b]:pm (fl b):=by unfold fl pm;split;exact .inr rfl;exact .inl rfl
theorem fl_yes {b:Prop} [Decidable b] (h:b):fl b= -1:=if_pos h
theorem fl_no {b:Prop} [Decidable b] (h:¬b):fl b=1:=if_neg h
theorem fl_iff {b d:Prop} [Decidable b] [Decidable d] (h:b↔d):fl b=fl d:=by
  by_cases k:b
  · rw [fl_yes k,fl_yes (h.1 k)]
  · rw [fl_no k,fl_no (fun q=>k (h.2 q))]
namespace Pol
variable {c : Pol}
variable (c) in
def lf (i:Nat) (k:Int) (j:Nat):Prop:=c.span j k∧c.xi j (hf k)<c.xi i (hf k)
instance (i:Nat) (k:Int) (j:Nat):Decidable (c.lf i k j):=inferInstanceAs (Decidable (_∧_))
variable (c) in
def tau (i:Nat) (k:Int):Int:=pr (fun j=>fl (c.lf i k j)) c.n
theorem tau_pm (i:Nat) (k:Int):pm (c.tau i k):=pr_pm fun j _=>fl_pm _
theorem lf_self (i:Nat) (k:Int):¬c.lf i k i:=fun h=>by have:=h.2;grind
variable (c) in
def inc (e w:Nat):Prop:=e=w∨nx c.n e=w
theorem Ok.yne (h:c.Ok) {i w:Nat} (hi:i<c.n) (hw:w<c.n) (hn:i≠w):c.Y i≠c.Y w:=fun k=>hn (h.inj i w hi hw (by unfold y;rw [k]))
theorem Ok.xw (h:c.Ok) {e w:Nat} (he:e<c.n) (k:c.inc e w):c.xi e (c.y w)=c.x w:=by
  rcases k with rfl|rfl
  · exact xi_0 c e
  · exact h.xi_1 he
theorem Ok.pass (h:c.Ok) {j w:Nat} (hj:j<c.n) (hw:w<c.n) (hn:¬c.inc j w) {k:Int} (hk:k=c.Y w∨k+1=c.Y w) (hs:c.span j k):c.os j (c.y w)∧c.xi j (c.y w)≠c.x w∧c.span j (c.Y w):=by
  have h1:=h.yne hj hw (fun e=>hn (.inl e))
  have h2:=h.yne (nx_lt hj) hw (fun e=>hn (.inr e))
  have hs2:c.span j (c.Y w):=by unfold span at hs ⊢;omega
  have h3:c.os j (c.y w):=by
    unfold span at hs2;unfold os y
    rcases hs2 with ⟨p,q⟩|⟨p,q⟩
    · left;exact ⟨Rat.intCast_lt_intCast.2 (by omega),Rat.intCast_lt_intCast.2 q⟩
    · right;exact ⟨Rat.intCast_lt_intCast.2 (by omega),Rat.intCast_lt_intCast.2 q⟩
  exact ⟨h3,fun e=>h.tch j w hj hw (fun e=>hn (.inl e.symm)) (fun e=>hn (.inr e.symm)) h3 e.symm,hs2⟩
theorem cs_at {j w:Nat} {k:Int} (hk:k=c.Y w∨k+1=c.Y w) (hs:c.span j k):c.cs j (c.y w):=by
  unfold y
  rcases hk with e|e
  · rw [← e];exact span_c0 hs
  · rw [← e];exact span_c1 hs
theorem Ok.lfA (h:c.Ok) {e j w:Nat} (he:e<c.n) (hj:j<c.n) (hw:w<c.n) (ke:c.inc e w) (kj:¬c.inc j w) {k:Int} (hk:k=c.Y w∨k+1=c.Y w) (hs:c.span e k):c.lf e k j↔c.span j (c.Y w)∧c.xi j (c.y w)<c.x w:=by
  have hne:j≠e:=fun q=>by subst q;exact kj ke
  have h1:=h.yne hj hw (fun q=>kj (.inl q))
  have h2:=h.yne (nx_lt hj) hw (fun q=>kj (.inr q))
  have hsp:c.span j k↔c.span j (c.Y w):=by unfold span;omega
  unfold lf
  rw [hsp]
  refine and_congr_right fun q=> ?_
  have q':=hsp.2 q
  obtain ⟨p1,p2,p3⟩:=h.pass hj hw kj hk q'
  have hx:=h.xw he ke
  rw [h.cst he hj hne (os_cs (span_os hs)) (cs_at hk hs) (os_cs (span_os q')) (os_cs p1) (fun z=>h.nz he hj hne (span_os hs) (span_os q') (by rw [G_eq];grind)) (by rw [hx];exact p2),hx]
theorem Ok.lfB (h:c.Ok) {i e w:Nat} (hi:i<c.n) (he:e<c.n) (hw:w<c.n) (ke:c.inc e w) (ki:¬c.inc i w) {k:Int} (hk:k=c.Y w∨k+1=c.Y w) (hs:c.span i k):c.lf i k e↔c.span e k∧c.x w<c.xi i (c.y w):=by
  have hne:e≠i:=fun q=>by subst q;exact ki ke
  unfold lf
  refine and_congr_right fun q=> ?_
  obtain ⟨p1,p2,p3⟩:=h.pass hi hw ki hk hs
  have hx:=h.xw he ke
  rw [h.cst hi he hne (os_cs (span_os hs)) (os_cs p1) (os_cs (span_os q)) (cs_at hk q) (fun z=>h.nz hi he hne (span_os hs) (span_os q) (by rw [G_eq];grind)) (by rw [hx];exact fun z=>p2 z.symm),hx]
theorem Ok.same (h:c.Ok) {i j:Nat} (hi:i<c.n) (hj:j<c.n) {k:Int} (h1:c.span i k) (h2:c.span i (k+1)) (y1:c.Y j≠k+1) (y2:c.Y (nx c.n j)≠k+1):c.lf i k j↔c.lf i (k+1) j:=by
  have hsp:c.span j k↔c.span j (k+1):=by unfold span;omega
  by_cases e:j=i
  · subst e;exact ⟨fun z=>(lf_self _ _ z).elim,fun z=>(lf_self _ _ z).elim⟩
  unfold lf
  rw [hsp]
  refine and_congr_right fun q=> ?_
  have q':=hsp.2 q
  exact h.cst hi hj e (os_cs (span_os h1)) (os_cs (span_os h2)) (os_cs (span_os q')) (os_cs (span_os q)) (fun z=>h.nz hi hj e (span_os h1) (span_os q') (by rw [G_eq];grind)) (fun z=>h.nz hi hj e (span_os h2) (span_os q) (by rw [G_eq];grind))
theorem Ok.step (h:c.Ok) {i:Nat} (hi:i<c.n) {k:Int} (h1:c.span i k) (h2:c.span i (k+1)):c.tau i k=c.tau i (k+1):=by
  unfold tau
  by_cases ex:∃w,w<c.n∧c.Y w=k+1
  · obtain ⟨w, hw, hy⟩ := ex
    have hp:=pv_lt hw
    have hnp:=nx_pv hw
    have h3:=h.n3
    have hpw:pv c.n w≠w:=by have:=pv_c c.n w;omega
    have ki:¬c.inc i w:=by
      rintro (q|q)
      · subst q;unfold span at h1 h2;omega
      · rw [← q] at hy;unfold span at h1 h2;omega
    have hB:∀e,e<c.n→c.inc e w→fl (c.lf i k e)*fl (c.lf i (k+1) e)=fl (c.x w<c.xi i (c.y w)):=fun e he ke=>by
      rw [fl_iff (h.lfB hi he hw ke ki (.inr hy.symm) h1),fl_iff (h.lfB hi he hw ke ki (.inl hy.symm) h2)]
      have hsp:c.span e k↔¬c.span e (k+1):=by
        have hne:=h.ne he
        have hne2:c.Y (nx c.n e)≠c.Y e:=fun q=>hne (by unfold y;rw [q])
        rcases ke with q|q
        · subst q;unfold span;omega
        · rw [← q] at hy;unfold span;omega
      by_cases b:c.x w<c.xi i (c.y w)
      · rw [fl_yes b]
        by_cases s:c.span e (k+1)
        · rw [fl_no (fun z=>hsp.1 z.1 s),fl_yes ⟨s,b⟩];rfl
        · rw [fl_yes ⟨hsp.2 s,b⟩,fl_no (fun z=>s z.1)];rfl
      · rw [fl_no b,fl_no (fun z=>b z.2),fl_no (fun z=>b z.2)];rfl
    refine pr_eq hp hw hpw (fun j hj j1 j2=> ?_) ?_ (pm_mul (fl_pm _) (fl_pm _))
    · refine fl_iff (h.same hi hj h1 h2 (fun q => ?_) (fun q => ?_))
      · exact h.yne hj hw j2 (by omega)
      · refine h.yne (nx_lt hj) hw (fun z => j1 ?_) (by omega)
        have:=nx_c c.n j;have:=pv_c c.n w;omega
    · have e1 := hB _ hp (.inr hnp)
      have e2:=hB _ hw (.inl rfl)
      have u1:=fl_pm (c.lf i k (pv c.n w))
      have u2:=fl_pm (c.lf i k w)
      have u3:=fl_pm (c.lf i (k+1) (pv c.n w))
      have u4:=fl_pm (c.lf i (k+1) w)
      have u5:=fl_pm (c.x w<c.xi i (c.y w))
      generalize fl (c.lf i k (pv c.n w))=a1 at*
      generalize fl (c.lf i k w)=a2 at*
      generalize fl (c.lf i (k+1) (pv c.n w))=a3 at*
      generalize fl (c.lf i (k+1) w)=a4 at*
      generalize fl (c.x w<c.xi i (c.y w))=a5 at*
      unfold pm at u1 u2 u3 u4 u5
      rcases u1 with rfl|rfl <;> rcases u2 with rfl|rfl <;> rcases u3 with rfl|rfl <;> rcases u4 with rfl|rfl <;> omega
  · refine pr_congr fun j hj=>fl_iff (h.same hi hj h1 h2 (fun q=>ex ⟨j,hj,q⟩) (fun q=>ex ⟨_,nx_lt hj,q⟩))
end Pol
end Go.Proofs.YtjcpbhlijoigfaaGreat.Sw
namespace Go.Proofs.YtjcpbhlijoigfaaGreat.Sw
set_option linter.unusedVariables false
namespace Pol
variable {c : Pol}
variable (c) in
def dir (i:Nat):Int:=if c.Y i<c.Y (nx c.n i) then 1 else -1
theorem dir_pm (i:Nat):pm (c.dir i):=by unfold dir pm;split;exact .inl rfl;exact .inr rfl
theorem dir_up {i:Nat} (h:c.Y i<c.Y (nx c.n i)):c.dir i=1:=if_pos h
theorem dir_dn {i:Nat} (h:¬c.Y i<c.Y (nx c.n i)):c.dir i= -1:=if_neg h
def kb (u o:Int):Int:=if o<u then u - 1 else u
theorem kb_c (u o:Int):o<u∧kb u o=u - 1∨u≤o∧kb u o=u:=by
  unfold kb;by_cases h:o<u
  · exact .inl ⟨h,if_pos h⟩
  · exact .inr ⟨by omega,if_neg h⟩
theorem Ok.vert (h:c.Ok) {w:Nat} (hw:w<c.n):c.dir (pv c.n w)*c.tau (pv c.n w) (kb (c.Y w) (c.Y (pv c.n w)))=c.dir w*c.tau w (kb (c.Y w) (c.Y (nx c.n w))):=by
  have h3:=h.n3
  have hp:=pv_lt hw
  have hq:=nx_lt hw
  have hnp:=nx_pv hw
  have pc:=pv_c c.n w
  have nc:=nx_c c.n w
  have hpw:pv c.n w≠w:=by omega
  have y1:=h.yne hp hw hpw
  have y2:=h.yne hq hw (by omega)
  have ip:c.inc (pv c.n w) w:= .inr hnp
  have iq:c.inc w w:= .inl rfl
  have k1:=kb_c (c.Y w) (c.Y (pv c.n w))
  have k2:=kb_c (c.Y w) (c.Y (nx c.n w))
  have s1:c.span (pv c.n w) (kb (c.Y w) (c.Y (pv c.n w))):=by unfold span;rw [hnp];omega
  have s2:c.span w (kb (c.Y w) (c.Y (nx c.n w))):=by unfold span;omega
  have e1:kb (c.Y w) (c.Y (pv c.n w))=c.Y w∨kb (c.Y w) (c.Y (pv c.n w))+1=c.Y w:=by omega
  have e2:kb (c.Y w) (c.Y (nx c.n w))=c.Y w∨kb (c.Y w) (c.Y (nx c.n w))+1=c.Y w:=by omega
  have hoth:∀j,j<c.n→j≠pv c.n w→j≠w→fl (c.lf (pv c.n w) (kb (c.Y w) (c.Y (pv c.n w))) j)=fl (c.lf w (kb (c.Y w) (c.Y (nx c.n w))) j):=fun j hj j1 j2=>by
    have kj:¬c.inc j w:=by
      rintro (q|q)
      · exact j2 q
      · exact j1 (by have:=nx_c c.n j;omega)
    rw [fl_iff (h.lfA hp hj hw ip kj e1 s1),fl_iff (h.lfA hw hj hw iq kj e2 s2)]
  have dp:c.dir (pv c.n w)=if c.Y (pv c.n w)<c.Y w then 1 else -1:=by unfold dir;rw [hnp]
  by_cases same:kb (c.Y w) (c.Y (pv c.n w))=kb (c.Y w) (c.Y (nx c.n w))
  · have hd:c.dir (pv c.n w)= - c.dir w:=by
      rw [dp];unfold dir
      by_cases z:c.Y (pv c.n w)<c.Y w
      · rw [if_pos z,if_neg (by omega)];rfl
      · rw [if_neg z,if_pos (by omega)]
    rw [← same] at s2 hoth ⊢
    generalize kb (c.Y w) (c.Y (pv c.n w))=k at*
    have hnz:=h.nz hp hw (fun z=>hpw z.symm) (span_os s1) (span_os s2)
    rw [G_eq] at hnz
    have ht:c.tau (pv c.n w) k= - c.tau w k:=by
      refine pr_neg hp hw hpw hoth ?_ (pm_mul (fl_pm _) (fl_pm _))
      rw [fl_no (lf_self _ _),fl_no (lf_self _ _)]
      by_cases z:c.xi w (hf k)<c.xi (pv c.n w) (hf k)
      · rw [fl_yes (b:=c.lf (pv c.n w) k w) ⟨s2,z⟩,fl_no (b:=c.lf w k (pv c.n w)) (fun q=>by have:=q.2;grind)];rfl
      · rw [fl_no (b:=c.lf (pv c.n w) k w) (fun q=>z q.2),fl_yes (b:=c.lf w k (pv c.n w)) ⟨s1,by grind⟩];rfl
    rw [hd,ht];grind
  · have hd:c.dir (pv c.n w)=c.dir w:=by
      rw [dp];unfold dir
      by_cases z:c.Y (pv c.n w)<c.Y w
      · rw [if_pos z,if_pos (by omega)]
      · rw [if_neg z,if_neg (by omega)]
    have ht:c.tau (pv c.n w) (kb (c.Y w) (c.Y (pv c.n w)))=c.tau w (kb (c.Y w) (c.Y (nx c.n w))):=by
      refine pr_eq hp hw hpw hoth ?_ (pm_mul (fl_pm _) (fl_pm _))
      rw [fl_no (lf_self _ _),fl_no (lf_self _ _),fl_no (fun q=> ?_),fl_no (fun q=> ?_)]
      · have:=q.1;unfold span at this;rw [hnp] at this;omega
      · have:=q.1;unfold span at this;omega
    rw [hd,ht]
variable (c) in
def lo (i:Nat):Int:=min (c.Y i) (c.Y (nx c.n i))
theorem span_lo {i:Nat} {k:Int} (h:c.span i k):c.lo i≤k∧∀k',c.lo i≤k'→k'≤k→c.span i k':=by
  unfold span lo at*
  exact ⟨by omega,fun k' _ _=>by omega⟩
theorem Ok.tlo (h:c.Ok) {i:Nat} (hi:i<c.n):∀m:Nat,c.span i (c.lo i+m)→c.tau i (c.lo i+m)=c.tau i (c.lo i)
  |0,_=>by rw [show c.lo i+((0:Nat):Int)=c.lo i by omega]
  |m+1,hs=>by
    have h1:=(span_lo hs).2 (c.lo i+(m:Nat)) (by omega) (by omega)
    have e:c.lo i+((m+1:Nat):Int)=c.lo i+(m:Nat)+1:=by omega
    rw [e] at hs ⊢
    rw [← h.step hi h1 hs]
    exact h.tlo hi m h1
theorem Ok.tk (h:c.Ok) {i:Nat} (hi:i<c.n) {k:Int} (hs:c.span i k):c.tau i k=c.tau i (c.lo i):=by
  have h1:=(span_lo hs).1
  have e:k=c.lo i+((k - c.lo i).toNat:Nat):=by omega
  rw [e] at hs ⊢
  exact h.tlo hi _ hs
theorem Ok.sig (h:c.Ok):∀i,i<c.n→c.dir i*c.tau i (c.lo i)=c.dir 0*c.tau 0 (c.lo 0)
  |0,_=>rfl
  |i+1,hi=>by
    rw [← h.sig i (by omega)]
    have pc:=pv_c c.n (i+1)
    have e:pv c.n (i+1)=i:=by omega
    have hv:=h.vert hi
    have hnp:=nx_pv hi
    rw [e] at hv hnp
    have h3:=h.n3
    have y1:=h.yne (show i<c.n by omega) hi (by omega)
    have nc:=nx_c c.n (i+1)
    have y2:=h.yne (nx_lt hi) hi (by omega)
    have k1:=kb_c (c.Y (i+1)) (c.Y i)
    have k2:=kb_c (c.Y (i+1)) (c.Y (nx c.n (i+1)))
    rw [← h.tk (show i<c.n by omega) (k:=kb (c.Y (i+1)) (c.Y i)) (by unfold span;rw [hnp];omega),←h.tk hi (k:=kb (c.Y (i+1)) (c.Y (nx c.n (i+1)))) (by unfold span;omega)]
    exact hv.symm
theorem Ok.alt (h:c.Ok):∃s:Int,pm s∧∀i k,i<c.n→c.span i k→c.dir i=s*c.tau i k:=by
  refine ⟨c.dir 0*c.tau 0 (c.lo 0),pm_mul (dir_pm _) (tau_pm _ _),fun i k hi hs=> ?_⟩
  rw [← h.sig i hi,h.tk hi hs]
  rcases tau_pm (c:=c) i (c.lo i) with e|e <;> rw [e] <;> omega
end Pol
section
variable (x : Nat → Rat)
def rk (L:List Nat) (j:Nat):Int:=(L.map fun i=>if x i<x j then (-1:Int) else 1).foldr (· * ·) 1
theorem rk_cons (a:Nat) (L:List Nat) (j:Nat):rk x (a :: L) j=(if x a<x j then -1 else 1)*rk x L j:=rfl
def W (R:List Nat) (U:Nat→Bool):List Nat→Int
  |[]=>0
  |a :: L=>(if U a then rk x R a else 0)+W R U L
def T (R:List Nat):List Nat→Rat
  |[]=>0
  |a :: L=>(rk x R a:Rat)*x a+T R L
def Srt (L:List Nat):Prop:=L.Pairwise fun a b=>x a<x b
variable {x}
theorem rk_head {a:Nat} {L:List Nat} (h:Srt x (a :: L)):rk x (a :: L) a=1:=by
  have h1:∀M:List Nat,(∀b∈M,¬x b<x a)→rk x M a=1:=fun M=>by
    induction M with
    |nil=>intro _;rfl
    |cons b M ih=>intro k;rw [rk_cons,if_neg (k b (List.mem_cons_self ..)),ih fun d hd=>k d (List.mem_cons_of_mem _ hd)];rfl
  refine h1 _ fun b hb=> ?_
  rcases List.mem_cons.1 hb with rfl|hb
  · grind
  · have:=(List.pairwise_cons.1 h).1 b hb;grind
theorem W_tail {a:Nat} {L:List Nat} {U:Nat→Bool}:∀{M:List Nat},(∀b∈M,x a<x b)→W x (a :: L) U M= - W x L U M
  |[],_=>rfl
  |b :: M,h=>by
    unfold W
    rw [W_tail (fun d hd=>h d (List.mem_cons_of_mem _ hd)),rk_cons,if_pos (h b (List.mem_cons_self ..))]
    split <;> omega
theorem W_cons {a:Nat} {L:List Nat} {U:Nat→Bool} (h:Srt x (a :: L)):W x (a :: L) U (a :: L)=(if U a then 1 else 0) - W x L U L:=by
  show (if U a then rk x (a :: L) a else 0)+W x (a :: L) U L=_
  rw [rk_head h,W_tail (List.pairwise_cons.1 h).1];split <;> omega
theorem W_all {U:Nat→Bool}:∀{L:List Nat},Srt x L→(∀a∈L,U a=true)→W x L U L=(L.length:Int)%2
  |[],_,_=>rfl
  |a :: L,h,u=>by
    have ih:=W_all (List.pairwise_cons.1 h).2 fun b hb=>u b (List.mem_cons_of_mem _ hb)
    rw [W_cons h,ih,if_pos (u a (List.mem_cons_self ..)),List.length_cons];omega
theorem W_up {U:Nat→Bool}:∀{L:List Nat},Srt x L→(∀a∈L,∀b∈L,x a<x b→U a=true→U b=true)→W x L U L=0∨W x L U L=if L.length%2=1 then 1 else -1
  |[],_,_=> .inl rfl
  |a :: L,h,u=>by
    have hp:=List.pairwise_cons.1 h
    by_cases k:U a=true
    · rw [W_all h fun b hb => ?_]
      · split <;> omega
      · rcases List.mem_cons.1 hb with rfl | hb
        · exact k
        · exact u a (List.mem_cons_self ..) b (List.mem_cons_of_mem _ hb) (hp.1 b hb) k
    · have ih := W_up hp.2 fun b hb d hd => u b (List.mem_cons_of_mem _ hb) d (List.mem_cons_of_mem _ hd)
      rw [W_cons h,if_neg k,List.length_cons]
      rcases ih with e|e
      · left;omega
      · right
        rw [e]
        by_cases z:L.length%2=1
        · rw [if_pos z,if_neg (by omega)];rfl
        · rw [if_neg z,if_pos (by omega)];rfl
end
end Go.Proofs.YtjcpbhlijoigfaaGreat.Sw
namespace Go.Proofs.YtjcpbhlijoigfaaGreat.Sw
set_option linter.unusedVariables false
section
variable {x : Nat → Rat}
theorem rk_app (A B:List Nat) (j:Nat):rk x (A++B) j=rk x A j*rk x B j:=by
  induction A with
  |nil=>show _=1*_;rw [Int.one_mul];rfl
  |cons a A ih=>rw [List.cons_append,rk_cons,rk_cons,ih,Int.mul_assoc]
theorem rk_perm {A B:List Nat} (h:A.Perm B) (j:Nat):rk x A j=rk x B j:=by
  induction h with
  |nil=>rfl
  |cons a _ ih=>rw [rk_cons,rk_cons,ih]
  |swap a b l=>rw [rk_cons,rk_cons,rk_cons,rk_cons];grind
  |trans _ _ h1 h2=>rw [h1,h2]
theorem Wc (R:List Nat) (U:Nat→Bool) (a:Nat) (A:List Nat):W x R U (a :: A)=(if U a then rk x R a else 0)+W x R U A:=rfl
theorem W_app (R:List Nat) (U:Nat→Bool) (A B:List Nat):W x R U (A++B)=W x R U A+W x R U B:=by
  induction A with
  |nil=>show _=0+_;rw [Int.zero_add];rfl
  |cons a A ih=>rw [List.cons_append,Wc,Wc,ih,Int.add_assoc]
theorem W_perm {R:List Nat} {U:Nat→Bool} {A B:List Nat} (h:A.Perm B):W x R U A=W x R U B:=by
  induction h with
  |nil=>rfl
  |cons a _ ih=>rw [Wc,Wc,ih]
  |swap a b l=>rw [Wc,Wc,Wc,Wc];omega
  |trans _ _ h1 h2=>rw [h1,h2]
theorem W_R {R R':List Nat} {U:Nat→Bool} (h:R.Perm R'):∀A:List Nat,W x R U A=W x R' U A
  |[]=>rfl
  |a :: A=>by rw [Wc,Wc,W_R h A,rk_perm h]
theorem sorted {L:List Nat} (hn:L.Nodup) (hi:∀a∈L,∀b∈L,a≠b→x a≠x b):∃M,M.Perm L∧Srt x M:=by
  refine ⟨L.mergeSort (fun a b=>decide (x a≤x b)),List.mergeSort_perm _ _,?_⟩
  have hp:=List.mergeSort_perm L (fun a b=>decide (x a≤x b))
  have h1:=List.pairwise_mergeSort (le:=fun a b=>decide (x a≤x b)) (fun a b d p q=>by simp only [decide_eq_true_eq] at *;grind) (fun a b=>by simp only [Bool.or_eq_true,decide_eq_true_eq];grind) L
  have h2:(L.mergeSort (fun a b=>decide (x a≤x b))).Nodup:=hp.nodup_iff.2 hn
  have h3:=h1.and h2
  refine List.Pairwise.imp_of_mem (fun {a b} ha hb hh=> ?_) h3
  have p:=hh.1
  simp only [decide_eq_true_eq] at p
  have:=hi a (hp.mem_iff.1 ha) b (hp.mem_iff.1 hb) hh.2
  grind
end
def su (f:Nat→Int):Nat→Int
  |0=>0
  |m+1=>su f m+f m
def sq (f:Nat→Rat):Nat→Rat
  |0=>0
  |m+1=>sq f m+f m
theorem su_s (f:Nat→Int) (m:Nat):su f (m+1)=su f m+f m:=rfl
theorem su_congr {f g:Nat→Int}:∀{m:Nat},(∀j,j<m→f j=g j)→su f m=su g m
  |0,_=>rfl
  |m+1,h=>by unfold su;rw [su_congr fun j hj=>h j (by omega),h m (by omega)]
theorem su_mul (s:Int) (f:Nat→Int):∀m,su (fun j=>s*f j) m=s*su f m
  |0=>by unfold su;omega
  |m+1=>by unfold su;rw [su_mul s f m,Int.mul_add]
namespace Pol
variable {c : Pol}
variable (c) in
def S (k:Int):List Nat:=(List.range c.n).filter fun i=>decide (c.span i k)
variable (c) in
def xk (k:Int) (i:Nat):Rat:=c.xi i (hf k)
theorem mem_S {i:Nat} {k:Int}:i∈c.S k↔i<c.n∧c.span i k:=by unfold S;simp
theorem rk_S (k:Int) (i:Nat):rk (c.xk k) (c.S k) i=c.tau i k:=by
  have:∀m,rk (c.xk k) ((List.range m).filter fun i=>decide (c.span i k)) i=pr (fun j=>fl (c.lf i k j)) m:=fun m=>by
    induction m with
    |zero=>rfl
    |succ m ih=>
      rw [List.range_succ,List.filter_append,rk_app,ih]
      rw [show pr (fun j=>fl (c.lf i k j)) (m+1)=pr (fun j=>fl (c.lf i k j)) m*fl (c.lf i k m) from rfl]
      by_cases s:c.span m k
      · rw [List.filter_cons_of_pos (by simpa using s)]
        show _*((if c.xi m (hf k)<c.xi i (hf k) then (-1:Int) else 1)*1)=_
        rw [Int.mul_one]
        by_cases z:c.xi m (hf k)<c.xi i (hf k)
        · rw [if_pos z,fl_yes ⟨s,z⟩]
        · rw [if_neg z,fl_no (fun q=>z q.2)]
      · rw [List.filter_cons_of_neg (by simpa using s),fl_no (fun q=>s q.1)];rfl
  exact this c.n
theorem W_S (k:Int) (R:List Nat) (U:Nat→Bool):W (c.xk k) R U (c.S k)=su (fun j=>if c.span j k then (if U j then rk (c.xk k) R j else 0) else 0) c.n:=by
  have:∀m,W (c.xk k) R U ((List.range m).filter fun i=>decide (c.span i k))=su (fun j=>if c.span j k then (if U j then rk (c.xk k) R j else 0) else 0) m:=fun m=>by
    induction m with
    |zero=>rfl
    |succ m ih=>
      rw [List.range_succ,List.filter_append,W_app,ih]
      rw [su_s]
      by_cases s:c.span m k
      · rw [List.filter_cons_of_pos (by simpa using s), if_pos s]
        show _+(_+0)=_
        rw [Int.add_zero]
      · rw [List.filter_cons_of_neg (by simpa using s),if_neg s];rfl
  exact this c.n
theorem Ok.srt (h:c.Ok) (k:Int):∃M,M.Perm (c.S k)∧Srt (c.xk k) M:=by
  refine sorted (List.nodup_range.filter _) fun a ha b hb hn e=> ?_
  obtain ⟨a1,a2⟩:=mem_S.1 ha
  obtain ⟨b1,b2⟩:=mem_S.1 hb
  refine h.nz a1 b1 (fun z=>hn z.symm) (span_os a2) (span_os b2) ?_
  unfold xk at e
  rw [G_eq];grind
theorem Ok.wind (h:c.Ok) (k:Int) (q:Rat): -1≤su (fun j=>if c.span j k then (if q<c.xi j (k:Rat) then c.dir j else 0) else 0) c.n∧su (fun j=>if c.span j k then (if q<c.xi j (k:Rat) then c.dir j else 0) else 0) c.n≤1:=by
  obtain ⟨s,hs,ha⟩:=h.alt
  obtain ⟨M,hM,hS⟩:=h.srt k
  have e:su (fun j=>if c.span j k then (if q<c.xi j (k:Rat) then c.dir j else 0) else 0) c.n=s*W (c.xk k) (c.S k) (fun j=>decide (q<c.xi j (k:Rat))) (c.S k):=by
    rw [W_S,←su_mul]
    refine su_congr fun j hj=> ?_
    by_cases z:c.span j k
    · rw [if_pos z, if_pos z, rk_S, ha j k hj z]
      by_cases u:q<c.xi j (k:Rat)
      · rw [if_pos u,if_pos (by simpa using u)]
      · rw [if_neg u,if_neg (by simpa using u)];omega
    · rw [if_neg z,if_neg z];omega
  have hw:=W_up (x:=c.xk k) (U:=fun j=>decide (q<c.xi j (k:Rat))) hS fun a ha b hb hab hu=>by
    obtain ⟨a1,a2⟩:=mem_S.1 (hM.mem_iff.1 ha)
    obtain ⟨b1,b2⟩:=mem_S.1 (hM.mem_iff.1 hb)
    have hne:b≠a:=fun z=>by subst z;grind
    simp only [decide_eq_true_eq] at hu ⊢
    unfold xk at hab
    rcases lt_or_le (c.xi b (k:Rat)) (c.xi a (k:Rat)) with z|z
    · have := (h.cst a1 b1 hne (span_c0 a2) (os_cs (span_os a2)) (span_c0 b2) (os_cs (span_os b2)) (by grind) (by grind)).1 z
      grind
    · grind
  rw [e,W_perm hM.symm,W_R hM.symm]
  unfold pm at hs
  generalize W (c.xk k) M (fun j=>decide (q<c.xi j (k:Rat))) M=w at hw
  split at hw <;> rcases hs with rfl|rfl <;> omega
theorem ev (j:Nat) (k:Int):(if c.span j k then c.dir j else 0)=(if c.Y j≤k then (1:Int) else 0) - (if c.Y (nx c.n j)≤k then 1 else 0):=by
  by_cases z:c.span j k
  · rw [if_pos z]
    unfold span at z
    by_cases u:c.Y j<c.Y (nx c.n j)
    · rw [dir_up u,if_pos (by omega),if_neg (by omega)];rfl
    · rw [dir_dn u,if_neg (by omega),if_pos (by omega)];rfl
  · rw [if_neg z]
    unfold span at z
    split <;> split <;> omega
variable (c) in
def pl (k:Int):Rat:=sq (fun j=>if c.span j k then (c.dir j:Rat)*c.xi j (hf k) else 0) c.n
variable (c) in
def F (i:Nat) (t:Rat):Rat:=c.co i*t+c.sl i*(t*t) / 2
theorem bound (f:Nat→Int):∀n:Nat,∃N:Nat,∀j,j<n→ -(N:Int)≤f j∧f j≤N
  |0=>⟨0,fun j hj=>by omega⟩
  |n+1=>by
    obtain ⟨N,hN⟩:=bound f n
    refine ⟨N+(f n).natAbs,fun j hj=> ?_⟩
    by_cases e:j=n
    · subst e;omega
    · have:=hN j (by omega);omega
end Pol
end Go.Proofs.YtjcpbhlijoigfaaGreat.Sw
namespace Go.Proofs.YtjcpbhlijoigfaaGreat.Sw
open Pg
set_option linter.unusedVariables false
abbrev MM:Int:=8388608
def sY (p:P2):Int:=8388608*p.2 - p.1
def ofL (l:List P2):Pol:=⟨l.length,fun i=>(gt l i).1,fun i=>sY (gt l i)⟩
theorem nx_md {n i:Nat} (h:i<n):nx n i=(i+1)%n:=by
  have h1:=nx_c n i
  have h2:=md_c (x:=i+1) (m:=n) (by omega)
  omega
theorem sY_inj {p q:P2} (hp:inR p) (hq:inR q) (h:sY p=sY q):p=q:=by
  unfold sY at h;unfold inR at hp hq
  exact Prod.ext (by omega) (by omega)
theorem crs_sh (a b p:P2):(b.1 - a.1)*(sY p - sY a) - (sY b - sY a)*(p.1 - a.1)=MM*crs a b p:=by
  unfold sY crs;grind
theorem btw {D d e f:Int} (h0:0<d) (h1:d<D) (h:f*D=d*e):(0≤e→0≤f∧f≤e)∧(e≤0→e≤f∧f≤0):=by
  constructor
  · intro he
    have p1:=Int.mul_nonneg (show 0≤d by omega) he
    have p2:=Int.mul_nonneg (show 0≤D - d by omega) he
    constructor
    · refine Int.not_lt.1 fun k => ?_
      have:=Int.mul_pos (show 0< -f by omega) (show 0<D by omega)
      grind
    · refine Int.not_lt.1 fun k => ?_
      have:=Int.mul_pos (show 0<f - e by omega) (show 0<D by omega)
      grind
  · intro he
    have p1:=Int.mul_nonneg (show 0≤d by omega) (show 0≤ -e by omega)
    have p2:=Int.mul_nonneg (show 0≤D - d by omega) (show 0≤ -e by omega)
    constructor
    · refine Int.not_lt.1 fun k => ?_
      have:=Int.mul_pos (show 0<e - f by omega) (show 0<D by omega)
      grind
    · refine Int.not_lt.1 fun k => ?_
      have:=Int.mul_pos (show 0<f by omega) (show 0<D by omega)
      grind
theorem btw2 {u v x:Int} {D d:Int} (h0:0<d) (h1:d<D) (h:(x - u)*D=d*(v - u)):min u v≤x∧x≤max u v:=by
  obtain ⟨b1,b2⟩:=btw h0 h1 h
  rcases Int.le_total 0 (v - u) with k|k
  · have:=b1 k;omega
  · have:=b2 k;omega
theorem on_sh {a b p:P2} (h0:sY a<sY p∧sY p<sY b) (h:(b.1 - a.1)*(sY p - sY a) - (sY b - sY a)*(p.1 - a.1)=0):onS a b p:=by
  have hc:=crs_sh a b p
  rw [h] at hc
  have hc0:crs a b p=0:=by unfold MM at hc;omega
  refine ⟨hc0,?_⟩
  have e1:=btw2 (u:=a.1) (v:=b.1) (x:=p.1) (D:=sY b - sY a) (d:=sY p - sY a) (by omega) (by omega) (by grind)
  have e2:=btw2 (u:=a.2) (v:=b.2) (x:=p.2) (D:=sY b - sY a) (d:=sY p - sY a) (by omega) (by omega) (by
    have:MM*((p.2 - a.2)*(sY b - sY a))=MM*((sY p - sY a)*(b.2 - a.2)):=by unfold sY MM at *;grind
    exact Int.eq_of_mul_eq_mul_left (by decide) this)
  exact ⟨e1.1,e1.2,e2.1,e2.2⟩
theorem on_sw {a b p:P2} (h:onS b a p):onS a b p:=by
  refine ⟨by rw [crs_sw];have:=h.1;omega,?_⟩
  have:=h.2
  unfold betw at *;omega
theorem side {c:Pol} (i:Nat) (hne:c.y (nx c.n i)≠c.y i) (X Y:Int):((X:Rat) - c.xi i (Y:Rat))*(c.y (nx c.n i) - c.y i)= -(((c.X (nx c.n i) - c.X i)*(Y - c.Y i) - (c.Y (nx c.n i) - c.Y i)*(X - c.X i):Int):Rat):=by
  have h2:c.sl i*(c.y (nx c.n i) - c.y i)=c.x (nx c.n i) - c.x i:=by
    unfold Pol.sl
    exact Rat.div_mul_cancel (by grind)
  simp only [Rat.intCast_sub,Rat.intCast_mul]
  unfold Pol.xi Pol.co
  unfold Pol.x Pol.y at*
  grind
theorem opp_mul {u v:Rat} (h:Pol.opp u v):u*v<0:=by
  rcases h with ⟨a,b⟩|⟨a,b⟩
  · have:=Rat.mul_pos (show 0< -u by grind) b;grind
  · have:=Rat.mul_pos a (show 0< -v by grind);grind
theorem sgn_opp {u v e:Rat} {z w:Int} (h:Pol.opp u v) (he:e≠0) (h1:u*e=(z:Rat)) (h2:v*e=(w:Rat)):z*w<0:=by
  have k:=opp_mul h
  have he2:0<e*e:=by
    rcases lt_or_le 0 e with q|q
    · exact Rat.mul_pos q q
    · have:=Rat.mul_pos (show 0< -e by grind) (show 0< -e by grind);grind
  have k2:(z:Rat)*(w:Rat)=(u*v)*(e*e):=by rw [← h1,←h2];grind
  have k3:=Rat.mul_pos (show 0< -(u*v) by grind) he2
  have k4:((z*w:Int):Rat)<((0:Int):Rat):=by
    rw [Rat.intCast_mul,k2]
    have:((0:Int):Rat)=0:=rfl
    rw [this];grind
  exact Rat.intCast_lt_intCast.1 k4
theorem sgn_mm {z w:Int} (h:(MM*z)*(MM*w)<0):z.sign*w.sign<0:=by
  have h1:z*w<0:=by
    refine Int.not_le.1 fun k=> ?_
    have:(MM*z)*(MM*w)=MM*MM*(z*w):=by grind
    have k2:0≤MM*MM*(z*w):=Int.mul_nonneg (by decide) k
    omega
  rw [← Int.sign_mul,Int.sign_eq_neg_one_of_neg h1];decide
theorem ok_of {n:Nat} {l:List P2} (h:Sm n l) (hr:∀x∈l,inR x):(ofL l).Ok:=by
  have hl:=h.len
  have hg:∀i,i<l.length→inR (gt l i):=fun i hi=>Pg.Ok.gt hr hi
  have hinj:∀i j,i<l.length→j<l.length→(ofL l).y i=(ofL l).y j→i=j:=fun i j hi hj e=>by
    have e2:sY (gt l i)=sY (gt l j):=Rat.intCast_inj.1 e
    exact h.inj (by omega) (by omega) (sY_inj (hg i hi) (hg j hj) e2)
  have h3:=h.n3
  have hne:∀i,i<l.length→(ofL l).y (nx l.length i)≠(ofL l).y i:=fun i hi k=>by
    have:=hinj _ _ (nx_lt hi) hi k
    have:=nx_c l.length i
    omega
  refine ⟨by show 3≤l.length;omega,hinj,fun i w hi hw w1 w2 ho e=> ?_,fun i j hi hj j1 j2 j3 hh=> ?_⟩
  · have hi' : i < l.length := hi
    have hw':w<l.length:=hw
    have hs:=side i (hne i hi) (gt l w).1 (sY (gt l w))
    rw [show (((gt l w).1:Int):Rat)=(ofL l).x w from rfl,show ((sY (gt l w):Int):Rat)=(ofL l).y w from rfl,←e] at hs
    have hz:(((gt l (nx l.length i)).1 - (gt l i).1)*(sY (gt l w) - sY (gt l i)) - (sY (gt l (nx l.length i)) - sY (gt l i))*((gt l w).1 - (gt l i).1):Int)=0:=by
      refine Rat.intCast_inj.1 ?_
      show (((((gt l (nx l.length i)).1 - (gt l i).1)*(sY (gt l w) - sY (gt l i)) - (sY (gt l (nx l.length i)) - sY (gt l i))*((gt l w).1 - (gt l i).1):Int):Rat))=0
      have: -(((((gt l (nx l.length i)).1 - (gt l i).1)*(sY (gt l w) - sY (gt l i)) - (sY (gt l (nx l.length i)) - sY (gt l i))*((gt l w).1 - (gt l i).1):Int):Rat))=0:=by
        refine Eq.trans hs.symm ?_
        grind
      grind
    have hon:onS (gt l i) (gt l (nx l.length i)) (gt l w):=by
      unfold Pol.os Pol.y at ho
      rcases ho with ⟨p,q⟩|⟨p,q⟩
      · exact on_sh ⟨Rat.intCast_lt_intCast.1 p,Rat.intCast_lt_intCast.1 q⟩ hz
      · refine on_sw (on_sh ⟨Rat.intCast_lt_intCast.1 p, Rat.intCast_lt_intCast.1 q⟩ ?_)
        grind
    have en:nx l.length i=(i+1)%n:=by rw [← hl];exact nx_md hi
    by_cases k:nx l.length w=i
    · refine h.a w (by omega) (.inr ?_)
      have e1:(w+1)%n=i:=by rw [← hl,←nx_md hw'];exact k
      have e2:(w+2)%n=(i+1)%n:=by rw [← e1,Nat.mod_add_mod]
      rw [e1,e2,←en];exact hon
    · refine h.b i w (by omega) (by omega) (fun q => w1 q.symm) (fun q => w2 (by rw [← q, ← en]; rfl)) (fun q => k (by rw [nx_md hw', hl]; exact q)) ?_
      rw [← en]
      exact .inr (.inl hon)
  · have hi' : i < l.length := hi
    have hj':j<l.length:=hj
    have en:nx l.length i=(i+1)%n:=by rw [← hl];exact nx_md hi
    have em:nx l.length j=(j+1)%n:=by rw [← hl];exact nx_md hj
    refine h.b i j (by omega) (by omega) (fun q=>j1 q.symm) (fun q=>j2 (by rw [← q,←en];rfl)) (fun q=>j3 (by rw [← q,←em];rfl)) (.inl ?_)
    rw [← en,←em]
    have hok1:=hne i hi
    have hok2:=hne j hj
    have x1:(ofL l).xi j ((ofL l).y (nx l.length j))=(ofL l).x (nx l.length j):=by
      have h2:(ofL l).sl j*((ofL l).y (nx l.length j) - (ofL l).y j)=(ofL l).x (nx l.length j) - (ofL l).x j:=by
        unfold Pol.sl
        exact Rat.div_mul_cancel (by show (ofL l).y (nx l.length j) - (ofL l).y j≠0;grind)
      unfold Pol.xi Pol.co;grind
    have x2:(ofL l).xi i ((ofL l).y (nx l.length i))=(ofL l).x (nx l.length i):=by
      have h2:(ofL l).sl i*((ofL l).y (nx l.length i) - (ofL l).y i)=(ofL l).x (nx l.length i) - (ofL l).x i:=by
        unfold Pol.sl
        exact Rat.div_mul_cancel (by show (ofL l).y (nx l.length i) - (ofL l).y i≠0;grind)
      unfold Pol.xi Pol.co;grind
    obtain ⟨ha,hb⟩:=hh
    rw [Pol.G_eq,Pol.G_eq,Pol.xi_0] at ha
    rw [Pol.G_eq,Pol.G_eq,Pol.xi_0] at hb
    have x1':(ofL l).xi j ((ofL l).y (nx (ofL l).n j))=(ofL l).x (nx l.length j):=x1
    have x2':(ofL l).xi i ((ofL l).y (nx (ofL l).n i))=(ofL l).x (nx l.length i):=x2
    rw [x1'] at ha
    rw [x2'] at hb
    have s1:=side i (hne i hi) (gt l j).1 (sY (gt l j))
    have s2:=side i (hne i hi) (gt l (nx l.length j)).1 (sY (gt l (nx l.length j)))
    have s3:=side j (hne j hj) (gt l i).1 (sY (gt l i))
    have s4:=side j (hne j hj) (gt l (nx l.length i)).1 (sY (gt l (nx l.length i)))
    have c1:=crs_sh (gt l i) (gt l (nx l.length i)) (gt l j)
    have c2:=crs_sh (gt l i) (gt l (nx l.length i)) (gt l (nx l.length j))
    have c3:=crs_sh (gt l j) (gt l (nx l.length j)) (gt l i)
    have c4:=crs_sh (gt l j) (gt l (nx l.length j)) (gt l (nx l.length i))
    constructor
    · refine sgn_mm ?_
      have:=sgn_opp ha (e:=(ofL l).y (nx l.length i) - (ofL l).y i) (by grind) (z:= -(MM*crs (gt l i) (gt l (nx l.length i)) (gt l j))) (w:= -(MM*crs (gt l i) (gt l (nx l.length i)) (gt l (nx l.length j)))) (by rw [← c1,Rat.intCast_neg];exact s1) (by rw [← c2,Rat.intCast_neg];exact s2)
      grind
    · refine sgn_mm ?_
      have hb':Pol.opp ((ofL l).x i - (ofL l).xi j ((ofL l).y i)) ((ofL l).x (nx l.length i) - (ofL l).xi j ((ofL l).y (nx l.length i))):=by
        unfold Pol.opp at hb ⊢
        have hn:(ofL l).n=l.length:=rfl
        rw [hn] at hb
        grind
      have:=sgn_opp hb' (e:=(ofL l).y (nx l.length j) - (ofL l).y j) (by grind) (z:= -(MM*crs (gt l j) (gt l (nx l.length j)) (gt l i))) (w:= -(MM*crs (gt l j) (gt l (nx l.length j)) (gt l (nx l.length i)))) (by rw [← c3,Rat.intCast_neg];exact s3) (by rw [← c4,Rat.intCast_neg];exact s4)
      grind
end Go.Proofs.YtjcpbhlijoigfaaGreat.Sw
namespace Go.Proofs.YtjcpbhlijoigfaaGreat.Sw
open Pg
set_option linter.unusedVariables false
def cr (q a b:P2):Int:=if a.2≤q.2∧q.2<b.2∧0<crs a b q then 1 else if b.2≤q.2∧q.2<a.2∧crs a b q<0 then -1 else 0
theorem cr_c (q a b:P2):(a.2≤q.2∧q.2<b.2∧0<crs a b q)∧cr q a b=1∨(b.2≤q.2∧q.2<a.2∧crs a b q<0)∧cr q a b= -1∨¬(a.2≤q.2∧q.2<b.2∧0<crs a b q)∧¬(b.2≤q.2∧q.2<a.2∧crs a b q<0)∧cr q a b=0:=by
  unfold cr
  by_cases h1:a.2≤q.2∧q.2<b.2∧0<crs a b q
  · exact .inl ⟨h1,if_pos h1⟩
  · by_cases h2 : b.2 ≤ q.2 ∧ q.2 < a.2 ∧ crs a b q < 0
    · exact .inr (.inl ⟨h2,by rw [if_neg h1,if_pos h2]⟩)
    · exact .inr (.inr ⟨h1,h2,by rw [if_neg h1,if_neg h2]⟩)
theorem cr_sw (q a b:P2):cr q b a= - cr q a b:=by
  have h1:=cr_c q a b
  have h2:=cr_c q b a
  have h3:=crs_sw a b q
  omega
theorem up_iff {a b q:P2} (ha:inR a) (hb:inR b) (hq:inR q) (h:0<crs a b q):(a.2≤q.2∧q.2<b.2)↔(sY a≤sY q∧sY q<sY b):=by
  have e:crs a b q=(b.1 - a.1)*(q.2 - a.2) - (b.2 - a.2)*(q.1 - a.1):=rfl
  unfold inR at ha hb hq
  unfold sY
  constructor
  · rintro ⟨h1, h2⟩
    by_cases k:a.2=q.2
    · rw [show q.2 - a.2 = 0 by omega, Int.mul_zero] at e
      have:q.1<a.1:=Int.not_le.1 fun z=>by
        have:=Int.mul_nonneg (show 0≤b.2 - a.2 by omega) (show 0≤q.1 - a.1 by omega)
        omega
      omega
    · omega
  · rintro ⟨h1, h2⟩
    refine ⟨by omega,Int.not_le.1 fun z=> ?_⟩
    have k:q.2=b.2:=by omega
    have:=Int.mul_nonneg (show 0≤b.2 - a.2 by omega) (show 0≤q.1 - b.1 by omega)
    rw [k] at e
    have:crs a b q= -((b.2 - a.2)*(q.1 - b.1)):=by rw [e];grind
    omega
theorem lt_side {g e:Rat} {z:Int} (h:g*e= -((MM*z:Int):Rat)):(0<e→(g<0↔0<z))∧(e<0→(g<0↔z<0)):=by
  have hm:((MM*z:Int):Rat)=8388608*(z:Rat):=by rw [Rat.intCast_mul];rfl
  rw [hm] at h
  have z1:0<z↔(0:Rat)<(z:Rat):=(Rat.intCast_lt_intCast (a:=0) (b:=z)).symm
  have z2:z<0↔(z:Rat)<(0:Rat):=(Rat.intCast_lt_intCast (a:=z) (b:=0)).symm
  rw [z1,z2]
  refine ⟨fun he=>⟨fun k=> ?_,fun k=> ?_⟩,fun he=>⟨fun k=> ?_,fun k=> ?_⟩⟩
  · have:=Rat.mul_pos (show 0< -g by grind) he;grind
  · rcases lt_or_le g 0 with q | q
    · exact q
    · have:=Rat.mul_nonneg q (Rat.le_of_lt he);grind
  · have:=Rat.mul_pos (show 0< -g by grind) (show 0< -e by grind);grind
  · rcases lt_or_le g 0 with q | q
    · exact q
    · have:=Rat.mul_nonneg q (show 0≤ -e by grind);grind
theorem cr_sh {n:Nat} {l:List P2} (h:Sm n l) (hr:∀x∈l,inR x) {q:P2} (hq:inR q) {i:Nat} (hi:i<l.length):cr q (gt l i) (gt l (nx l.length i))=if (ofL l).span i (sY q) then (if (q.1:Rat)<(ofL l).xi i ((sY q:Int):Rat) then (ofL l).dir i else 0) else 0:=by
  have hok:=ok_of h hr
  have hi':i<(ofL l).n:=hi
  have hne:=hok.ne hi'
  have hs:=side i hne q.1 (sY q)
  have ha:inR (gt l i):=Pg.Ok.gt hr hi
  have hb:inR (gt l (nx l.length i)):=Pg.Ok.gt hr (nx_lt hi)
  have hc:(((ofL l).X (nx (ofL l).n i) - (ofL l).X i)*(sY q - (ofL l).Y i) - ((ofL l).Y (nx (ofL l).n i) - (ofL l).Y i)*(q.1 - (ofL l).X i):Int)=MM*crs (gt l i) (gt l (nx l.length i)) q:=crs_sh _ _ _
  rw [hc] at hs
  obtain ⟨l1,l2⟩:=lt_side hs
  have hg:((q.1:Int):Rat) - (ofL l).xi i ((sY q:Int):Rat)<0↔(q.1:Rat)<(ofL l).xi i ((sY q:Int):Rat):=by constructor <;> intro _ <;> grind
  rw [hg] at l1 l2
  have hy:(ofL l).y (nx (ofL l).n i)≠(ofL l).y i:=hne
  have hyy:sY (gt l (nx l.length i))≠sY (gt l i):=fun k=>hy (by unfold Pol.y;exact congrArg (fun z:Int=>(z:Rat)) k)
  have hcc:=cr_c q (gt l i) (gt l (nx l.length i))
  have hsp:(ofL l).span i (sY q)↔(sY (gt l i)≤sY q∧sY q<sY (gt l (nx l.length i))∨sY (gt l (nx l.length i))≤sY q∧sY q<sY (gt l i)):=Iff.rfl
  have u1:=up_iff (q:=q) ha hb hq
  have u2:=up_iff (q:=q) hb ha hq
  rw [crs_sw] at u2
  by_cases up:sY (gt l i)<sY (gt l (nx l.length i))
  · have hd : (ofL l).dir i = 1 := Pol.dir_up up
    have k := l1 (by have : (ofL l).y i < (ofL l).y (nx (ofL l).n i) := Rat.intCast_lt_intCast.2 up
                     grind)
    rw [hd]
    by_cases s:(ofL l).span i (sY q)
    · rw [if_pos s]
      rw [hsp] at s
      by_cases t:(q.1:Rat)<(ofL l).xi i ((sY q:Int):Rat)
      · rw [if_pos t]
        have:=k.1 t
        have:=(u1 this).2 (by omega)
        omega
      · rw [if_neg t]
        have:¬0<crs (gt l i) (gt l (nx l.length i)) q:=fun z=>t (k.2 z)
        rcases hcc with ⟨z,_⟩|⟨z,_⟩|⟨_,_,z⟩
        · exact absurd z.2.2 this
        · have:=(u2 (by omega)).1 ⟨z.1,z.2.1⟩;omega
        · exact z
    · rw [if_neg s]
      rw [hsp] at s
      rcases hcc with ⟨z,_⟩|⟨z,_⟩|⟨_,_,z⟩
      · have:=(u1 z.2.2).1 ⟨z.1,z.2.1⟩;omega
      · have:=(u2 (by omega)).1 ⟨z.1,z.2.1⟩;omega
      · exact z
  · have hd : (ofL l).dir i = -1 := Pol.dir_dn up
    have k := l2 (by have : (ofL l).y (nx (ofL l).n i) < (ofL l).y i := Rat.intCast_lt_intCast.2 (show sY (gt l (nx l.length i)) < sY (gt l i) by omega)
                     grind)
    rw [hd]
    by_cases s:(ofL l).span i (sY q)
    · rw [if_pos s]
      rw [hsp] at s
      by_cases t:(q.1:Rat)<(ofL l).xi i ((sY q:Int):Rat)
      · rw [if_pos t]
        have:=k.1 t
        have:=(u2 (by omega)).2 (by omega)
        omega
      · rw [if_neg t]
        have:¬crs (gt l i) (gt l (nx l.length i)) q<0:=fun z=>t (k.2 z)
        rcases hcc with ⟨z,_⟩|⟨z,_⟩|⟨_,_,z⟩
        · have:=(u1 z.2.2).1 ⟨z.1,z.2.1⟩;omega
        · exact absurd z.2.2 this
        · exact z
    · rw [if_neg s]
      rw [hsp] at s
      rcases hcc with ⟨z,_⟩|⟨z,_⟩|⟨_,_,z⟩
      · have:=(u1 z.2.2).1 ⟨z.1,z.2.1⟩;omega
      · have:=(u2 (by omega)).1 ⟨z.1,z.2.1⟩;omega
      · exact z
def wn (n:Nat) (l:List P2) (q:P2):Nat→Int:=su fun i=>cr q (gt l i) (gt l ((i+1)%n))
theorem wn_b {n:Nat} {l:List P2} (h:Sm n l) (hr:∀x∈l,inR x) {q:P2} (hq:inR q): -1≤wn n l q n∧wn n l q n≤1:=by
  have hl:=h.len
  have hw:=(ok_of h hr).wind (sY q) (q.1:Rat)
  have e:wn n l q n=su (fun j=>if (ofL l).span j (sY q) then (if (q.1:Rat)<(ofL l).xi j ((sY q:Int):Rat) then (ofL l).dir j else 0) else 0) (ofL l).n:=by
    show su _ n=su _ l.length
    rw [hl]
    refine su_congr fun i hi=> ?_
    rw [← cr_sh h hr hq (by omega),hl,nx_md hi]
  rw [e];exact hw
theorem hit_cr {a b q:P2}:hit a b q↔cr q a b≠0:=by
  have h:=cr_c q a b
  have h2:=crs_sw a b q
  unfold hit hit0
  rw [Int.sign_pos_iff,Int.sign_pos_iff]
  split <;> omega
theorem in_par {n:Nat} {l:List P2} {q:P2}:∀m,inN n l q m= -1∧wn n l q m%2=0∨inN n l q m=1∧wn n l q m%2=1
  |0=> .inl ⟨rfl,rfl⟩
  |m+1=>by
    have ih:=in_par (n:=n) (l:=l) (q:=q) m
    have e:wn n l q (m+1)=wn n l q m+cr q (gt l m) (gt l ((m+1)%n)):=rfl
    have hc:=cr_c q (gt l m) (gt l ((m+1)%n))
    by_cases k:hit (gt l m) (gt l ((m+1)%n)) q
    · rw [inN_hit k, e]
      have:=hit_cr.1 k
      omega
    · rw [inN_not k, e]
      have:cr q (gt l m) (gt l ((m+1)%n))=0:=Decidable.not_not.1 fun z=>k (hit_cr.2 z)
      omega
theorem ins_wn {n:Nat} {l:List P2} (h:Sm n l) (hr:∀x∈l,inR x) {q:P2} (hq:inR q) (hb:¬onB l q):ins l q=1∧(wn n l q n=1∨wn n l q n= -1)∨ins l q= -1∧wn n l q n=0:=by
  have h1:=wn_b h hr hq
  have h2:=in_par (n:=n) (l:=l) (q:=q) n
  have hl:=h.len
  have e:ins l q=inN n l q n:=by unfold ins;rw [if_neg hb,hl]
  rw [e]
  omega
end Go.Proofs.YtjcpbhlijoigfaaGreat.Sw
namespace Go.Proofs.YtjcpbhlijoigfaaGreat.Sw
open Pg
set_option linter.unusedVariables false
def t3 (q a b c:P2):Int:=cr q a b+cr q b c+cr q c a
theorem t3_rot (q a b c:P2):t3 q a b c=t3 q b c a:=by unfold t3;omega
theorem t3_sw (q a b c:P2):t3 q b a c= - t3 q a b c:=by
  unfold t3
  have h1:=cr_sw q a b
  have h2:=cr_sw q b c
  have h3:=cr_sw q c a
  omega
theorem by2 (a b c q:P2):crs b c q*(q.2 - a.2)+crs c a q*(q.2 - b.2)+crs a b q*(q.2 - c.2)=0:=by unfold crs;grind
theorem by1 (a b c q:P2):crs b c q*(q.1 - a.1)+crs c a q*(q.1 - b.1)+crs a b q*(q.1 - c.1)=0:=by unfold crs;grind
theorem byS (a b c q:P2):crs a b q+crs b c q+crs c a q=crs a b c:=by unfold crs;grind
structure Tq (q a b c:P2):Prop where
  r:t3 q a b c=0∨t3 q a b c=1
  i:0<crs a b q→0<crs b c q→0<crs c a q→t3 q a b c=1
  o:t3 q a b c=1→0≤crs a b q∧0≤crs b c q∧0≤crs c a q
theorem Tq.rot {q a b c:P2} (h:Tq q b c a):Tq q a b c:=
  ⟨by rw [t3_rot];exact h.r,fun x y z=>by rw [t3_rot];exact h.i y z x,fun k=>by rw [t3_rot] at k;have:=h.o k;exact ⟨this.2.2,this.1,this.2.1⟩⟩
theorem mnn {x y:Int} (hx:0≤x) (hy:0≤y):0≤x*y:=Int.mul_nonneg hx hy
theorem tA {q a b c:P2} (hS:0<crs a b c) (ha:a.2≤q.2) (hb:q.2<b.2) (hc:q.2<c.2):Tq q a b c:=by
  suffices key:(t3 q a b c=0∨t3 q a b c=1)∧(0<crs a b q→0<crs b c q→0<crs c a q→t3 q a b c=1)∧(t3 q a b c=1→0≤crs a b q∧0≤crs b c q∧0≤crs c a q) from ⟨key.1,key.2.1,key.2.2⟩
  have e2:=by2 a b c q
  have eS:=byS a b c q
  have c1:=cr_c q a b
  have c2:=cr_c q b c
  have c3:=cr_c q c a
  unfold t3 at*
  generalize crs a b q=u at*
  generalize crs b c q=v at*
  generalize crs c a q=w at*
  have k1:¬(u≤0∧w<0):=fun ⟨x,y⟩=>by
    have p3:=mnn (show 0≤ -u by omega) (show 0≤c.2 - q.2 by omega)
    have p2:=Int.mul_pos (show 0< -w by omega) (show 0<b.2 - q.2 by omega)
    have:v<0:=Int.not_le.1 fun z=>by
      have p1:=mnn z (show 0≤q.2 - a.2 by omega)
      grind
    omega
  have k2:0<u→0≤w→0≤v:=fun x y=>Int.not_lt.1 fun z=>by
    have p1:=mnn (show 0≤ -v by omega) (show 0≤q.2 - a.2 by omega)
    have p3:=Int.mul_pos x (show 0<c.2 - q.2 by omega)
    have p2:=mnn y (show 0≤b.2 - q.2 by omega)
    grind
  clear e2
  generalize cr q a b=r1 at*
  generalize cr q b c=r2 at*
  generalize cr q c a=r3 at*
  refine ⟨?_,?_,?_⟩
  · omega
  · intro x y z;omega
  · intro x
    have:=k2
    by_cases z1:0≤w
    · refine ⟨?_,?_,z1⟩ <;> first|omega|(have:=k2 (by omega) z1;omega)
    · omega
theorem tB {q a b c:P2} (hS:0<crs a b c) (ha:a.2≤q.2) (hb:b.2≤q.2) (hc:q.2<c.2):Tq q a b c:=by
  suffices key:(t3 q a b c=0∨t3 q a b c=1)∧(0<crs a b q→0<crs b c q→0<crs c a q→t3 q a b c=1)∧(t3 q a b c=1→0≤crs a b q∧0≤crs b c q∧0≤crs c a q) from ⟨key.1,key.2.1,key.2.2⟩
  have e2:=by2 a b c q
  have eS:=byS a b c q
  have c1:=cr_c q a b
  have c2:=cr_c q b c
  have c3:=cr_c q c a
  unfold t3 at*
  generalize crs a b q=u at*
  generalize crs b c q=v at*
  generalize crs c a q=w at*
  have k1:¬(v≤0∧w<0):=fun ⟨x,y⟩=>by
    have p1:=mnn (show 0≤ -v by omega) (show 0≤q.2 - a.2 by omega)
    have p2:=mnn (show 0≤ -w by omega) (show 0≤q.2 - b.2 by omega)
    have:u≤0:=Int.not_lt.1 fun z=>by
      have p3:=Int.mul_pos z (show 0<c.2 - q.2 by omega)
      grind
    omega
  have k2:0<v→0≤w→0≤u:=fun x y=>Int.not_lt.1 fun z=>by
    have p3:=Int.mul_pos (show 0< -u by omega) (show 0<c.2 - q.2 by omega)
    have p1:=mnn (show 0≤v by omega) (show 0≤q.2 - a.2 by omega)
    have p2:=mnn y (show 0≤q.2 - b.2 by omega)
    grind
  clear e2
  generalize cr q a b=r1 at*
  generalize cr q b c=r2 at*
  generalize cr q c a=r3 at*
  refine ⟨?_,?_,?_⟩
  · omega
  · intro x y z;omega
  · intro x
    have:=k2
    by_cases z1:0≤w
    · refine ⟨?_,?_,z1⟩ <;> first|omega|(have:=k2 (by omega) z1;omega)
    · omega
theorem t0 {q a b c:P2} (hS:0<crs a b c) (h:q.2<a.2∧q.2<b.2∧q.2<c.2∨a.2≤q.2∧b.2≤q.2∧c.2≤q.2):Tq q a b c:=by
  have e2:=by2 a b c q
  have c1:=cr_c q a b
  have c2:=cr_c q b c
  have c3:=cr_c q c a
  have hz:t3 q a b c=0:=by unfold t3;omega
  refine ⟨.inl hz,fun u v w=> ?_,fun k=>by omega⟩
  exfalso
  rcases h with ⟨x,y,z⟩|⟨x,y,z⟩
  · have p1 := Int.mul_pos v (show 0 < a.2 - q.2 by omega)
    have p2:=Int.mul_pos w (show 0<b.2 - q.2 by omega)
    have p3:=Int.mul_pos u (show 0<c.2 - q.2 by omega)
    grind
  · have p1 := mnn (Int.le_of_lt v) (show 0 ≤ q.2 - a.2 by omega)
    have p2:=mnn (Int.le_of_lt w) (show 0≤q.2 - b.2 by omega)
    have p3:=mnn (Int.le_of_lt u) (show 0≤q.2 - c.2 by omega)
    have z1:crs b c q*(q.2 - a.2)=0:=by omega
    have z2:crs c a q*(q.2 - b.2)=0:=by omega
    have z3:crs a b q*(q.2 - c.2)=0:=by omega
    have w1:q.2 - a.2=0:=by rcases Int.mul_eq_zero.1 z1 with k|k;omega;exact k
    have w2:q.2 - b.2=0:=by rcases Int.mul_eq_zero.1 z2 with k|k;omega;exact k
    have w3:q.2 - c.2=0:=by rcases Int.mul_eq_zero.1 z3 with k|k;omega;exact k
    unfold crs at hS
    rw [show c.2 - a.2=0 by omega,show b.2 - a.2=0 by omega,Int.mul_zero,Int.zero_mul] at hS
    omega
theorem tri {q a b c:P2} (hS:0<crs a b c):Tq q a b c:=by
  have h1:0<crs b c a:=by rw [← crs_cyc];exact hS
  have h2:0<crs c a b:=by rw [← crs_cyc];exact h1
  by_cases A:a.2≤q.2 <;> by_cases B:b.2≤q.2 <;> by_cases C:c.2≤q.2
  · exact t0 hS (.inr ⟨A,B,C⟩)
  · exact tB hS A B (by omega)
  · exact (tB h2 C A (by omega)).rot.rot
  · exact tA hS A (by omega) (by omega)
  · exact (tB h1 B C (by omega)).rot
  · exact (tA h1 B (by omega) (by omega)).rot
  · exact (tA h2 C (by omega) (by omega)).rot.rot
  · exact t0 hS (.inl ⟨by omega,by omega,by omega⟩)
theorem bt2 {u v x D d:Int} (h0:0≤d) (h1:d≤D) (hD:0<D) (h:(x - u)*D=d*(v - u)):min u v≤x∧x≤max u v:=by
  rcases Int.le_total 0 (v - u) with k|k
  · have p1 := mnn h0 k
    have p2:=mnn (show 0≤D - d by omega) k
    have a1:0≤x - u:=Int.not_lt.1 fun z=>by
      have:=Int.mul_pos (show 0< -(x - u) by omega) hD
      grind
    have a2:x - u≤v - u:=Int.not_lt.1 fun z=>by
      have:=Int.mul_pos (show 0<(x - u) - (v - u) by omega) hD
      grind
    omega
  · have p1 := mnn h0 (show 0 ≤ -(v - u) by omega)
    have p2:=mnn (show 0≤D - d by omega) (show 0≤ -(v - u) by omega)
    have a1:x - u≤0:=Int.not_lt.1 fun z=>by
      have:=Int.mul_pos (show 0<x - u by omega) hD
      grind
    have a2:v - u≤x - u:=Int.not_lt.1 fun z=>by
      have:=Int.mul_pos (show 0<(v - u) - (x - u) by omega) hD
      grind
    omega
theorem on_of {q a b c:P2} (hS:0<crs a b c) (hu:crs a b q=0) (hv:0≤crs b c q) (hw:0≤crs c a q):onS a b q:=by
  have e1:=by1 a b c q
  have e2:=by2 a b c q
  have eS:=byS a b c q
  rw [hu] at e1 e2 eS
  refine ⟨hu,?_⟩
  generalize crs b c q=v at*
  generalize crs c a q=w at*
  generalize crs a b c=S at*
  have b1:=bt2 (u:=a.1) (v:=b.1) (x:=q.1) (D:=v+w) (d:=w) hw (by omega) (by omega) (by grind)
  have b2:=bt2 (u:=a.2) (v:=b.2) (x:=q.2) (D:=v+w) (d:=w) hw (by omega) (by omega) (by grind)
  exact ⟨b1.1,b1.2,b2.1,b2.2⟩
theorem lin1 {v w S q a b d:Int} (h:0+v+w=S) (e:v*(q - a)+w*(q - b)+0*d=0):(q - a)*S=w*(b - a):=by grind
theorem lin2 {v w S q a b d:Int} (h:0+v+w=S) (e:v*(q - a)+w*(q - b)+0*d=0):(q - b)*S=v*(a - b):=by grind
theorem mneg (w x y:Int):w*(x - y)= -(w*(y - x)):=by grind
theorem neg2 {w e f S:Int} (hw:w<0) (he:e<0) (hf:f≤0) (hS:0<S) (h:f*S=w*e):False:=by
  have h1:=Int.mul_pos (show 0< -w by omega) (show 0< -e by omega)
  have h2:=mnn (show 0≤ -f by omega) (Int.le_of_lt hS)
  have h3: -w* -e=w*e:=by grind
  have h4: -f*S= -(f*S):=by grind
  omega
theorem neg3 {w e f S:Int} (hw:w<0) (he:0<e) (hf:0≤f) (hS:0<S) (h:f*S=w*e):False:=by
  have h1:=Int.mul_pos (show 0< -w by omega) he
  have h2:=mnn hf (Int.le_of_lt hS)
  have h3: -w*e= -(w*e):=by grind
  omega
theorem pos2 {w e f S:Int} (hw:w≤0) (he:e<0) (hf:f<0) (hS:0<S) (h:f*S=w*e):False:=by
  have h1:=mnn (show 0≤ -w by omega) (show 0≤ -e by omega)
  have h2:=Int.mul_pos (show 0< -f by omega) hS
  have h3: -w* -e=w*e:=by grind
  have h4: -f*S= -(f*S):=by grind
  omega
theorem pos3 {w e f S:Int} (hw:w≤0) (he:0<e) (hf:0<f) (hS:0<S) (h:f*S=w*e):False:=by
  have h1:=mnn (show 0≤ -w by omega) (Int.le_of_lt he)
  have h2:=Int.mul_pos hf hS
  have h3: -w*e= -(w*e):=by grind
  omega
theorem cr_0 {q a b:P2} (h:crs a b q=0):cr q a b=0:=by have:=cr_c q a b;omega
theorem cr_up {q a b:P2} (h1:a.2≤q.2) (h2:q.2<b.2) (h3:0<crs a b q):cr q a b=1:=if_pos ⟨h1,h2,h3⟩
theorem cr_none {q a b:P2} (h:a.2≤q.2∧b.2≤q.2∨q.2<a.2∧q.2<b.2):cr q a b=0:=by have:=cr_c q a b;omega
theorem cr_dn {q a b:P2} (h:0≤crs a b q) (h2:q.2<a.2):cr q a b=0:=by have:=cr_c q a b;omega
theorem half {q a b c:P2} (hS:0<crs a b c) (hu:crs a b q=0) (hb:betw a b q) (qa:q≠a) (qb:q≠b) (hd:b.2<a.2∨a.2=b.2∧a.1<b.1):t3 q a b c=1:=by
  have e1:=by1 a b c q
  have e2:=by2 a b c q
  have eS:=byS a b c q
  have hSe:crs a b c=(b.1 - a.1)*(c.2 - a.2) - (b.2 - a.2)*(c.1 - a.1):=rfl
  rw [hu] at e1 e2 eS
  unfold betw at hb
  unfold t3
  have na:q.1=a.1→q.2=a.2→False:=fun x y=>qa (Prod.ext x y)
  have nb:q.1=b.1→q.2=b.2→False:=fun x y=>qb (Prod.ext x y)
  rw [cr_0 hu]
  generalize hv:crs b c q=v at*
  generalize hw:crs c a q=w at*
  generalize crs a b c=S at*
  have f1:(q.1 - a.1)*S=w*(b.1 - a.1):=lin1 eS e1
  have f2:(q.2 - a.2)*S=w*(b.2 - a.2):=lin1 eS e2
  have g1:(q.1 - b.1)*S=v*(a.1 - b.1):=lin2 eS e1
  have g2:(q.2 - b.2)*S=v*(a.2 - b.2):=lin2 eS e2
  rcases hd with hd|⟨hd,hd1⟩
  · have w0:0<w:=by
      rcases Int.lt_trichotomy w 0 with k|k|k
      · exact (neg2 k (show b.2 - a.2<0 by omega) (show q.2 - a.2≤0 by omega) hS f2).elim
      · subst k
        rw [Int.zero_mul] at f1 f2
        have z1:q.1 - a.1=0:=by rcases Int.mul_eq_zero.1 f1 with k|k;exact k;omega
        have z2:q.2 - a.2=0:=by rcases Int.mul_eq_zero.1 f2 with k|k;exact k;omega
        exact (na (by omega) (by omega)).elim
      · exact k
    have v0:0<v:=by
      rcases Int.lt_trichotomy v 0 with k|k|k
      · exact (neg3 k (show 0<a.2 - b.2 by omega) (show 0≤q.2 - b.2 by omega) hS g2).elim
      · subst k
        rw [Int.zero_mul] at g1 g2
        have z1:q.1 - b.1=0:=by rcases Int.mul_eq_zero.1 g1 with k|k;exact k;omega
        have z2:q.2 - b.2=0:=by rcases Int.mul_eq_zero.1 g2 with k|k;exact k;omega
        exact (nb (by omega) (by omega)).elim
      · exact k
    have q1:q.2<a.2:=Int.not_le.1 fun z=>by
      have h1:=Int.mul_pos w0 (show 0<a.2 - b.2 by omega)
      have h2:q.2 - a.2=0:=by omega
      rw [h2,Int.zero_mul] at f2
      have h3:=mneg w b.2 a.2
      omega
    have q2:b.2<q.2:=Int.not_le.1 fun z=>by
      have h1:=Int.mul_pos v0 (show 0<a.2 - b.2 by omega)
      have h2:q.2 - b.2=0:=by omega
      rw [h2,Int.zero_mul] at g2
      omega
    clear f1 f2 g1 g2 e1 e2 hb hSe
    by_cases z:c.2≤q.2
    · rw [cr_none (.inl ⟨by omega,z⟩),cr_up z q1 (by rw [hw];exact w0)];rfl
    · rw [cr_up (Int.le_of_lt q2) (by omega) (by rw [hv];exact v0),cr_none (.inr ⟨by omega,by omega⟩)];rfl
  · have q0 : q.2 = a.2 := by omega
    have qa1:a.1<q.1:=by rcases Int.lt_trichotomy q.1 a.1 with k|k|k;omega;exact (na k q0).elim;exact k
    have qb1:q.1<b.1:=by rcases Int.lt_trichotomy q.1 b.1 with k|k|k;exact k;exact (nb k (by omega)).elim;omega
    have v0:0<v:=Int.not_le.1 fun z=>pos2 z (show a.1 - b.1<0 by omega) (show q.1 - b.1<0 by omega) hS g1
    have w0:0<w:=Int.not_le.1 fun z=>pos3 z (show 0<b.1 - a.1 by omega) (show 0<q.1 - a.1 by omega) hS f1
    have cu:a.2<c.2:=Int.not_le.1 fun z=>by
      have h1:=mnn (show 0≤b.1 - a.1 by omega) (show 0≤a.2 - c.2 by omega)
      rw [show b.2 - a.2=0 by omega,Int.zero_mul] at hSe
      have h2:=mneg (b.1 - a.1) a.2 c.2
      omega
    rw [cr_up (by omega) (by omega) (by rw [hv];exact v0),cr_dn (by rw [hw];omega) (by omega)];rfl
def inTr (a b c q:P2):Prop:=(0≤(crs a b q).sign∧0≤(crs b c q).sign∧0≤(crs c a q).sign)∨((crs a b q).sign≤0∧(crs b c q).sign≤0∧(crs c a q).sign≤0)
instance (a b c q:P2):Decidable (inTr a b c q):=inferInstanceAs (Decidable (_∨_))
def onE (a b c q:P2):Prop:=onS a b q∨onS b c q∨onS c a q
instance (a b c q:P2):Decidable (onE a b c q):=inferInstanceAs (Decidable (_∨_))
theorem sgn_c (z:Int):z<0∧z.sign= -1∨z=0∧z.sign=0∨0<z∧z.sign=1:=by
  rcases Int.lt_trichotomy z 0 with h|h|h
  · exact .inl ⟨h,Int.sign_eq_neg_one_of_neg h⟩
  · exact .inr (.inl ⟨h,by rw [h];rfl⟩)
  · exact .inr (.inr ⟨h,Int.sign_eq_one_of_pos h⟩)
theorem inTr_val {q a b c:P2} (hS:0<crs a b c) (hE:¬onE a b c q):(inTr a b c q∧t3 q a b c=1)∨(¬inTr a b c q∧t3 q a b c=0):=by
  have ht:=tri (q:=q) hS
  have eS:=byS a b c q
  have h1:0<crs b c a:=by rw [← crs_cyc];exact hS
  have h2:0<crs c a b:=by rw [← crs_cyc];exact h1
  have z1:crs a b q=0→0≤crs b c q→0≤crs c a q→False:=fun x y z=>hE (.inl (on_of hS x y z))
  have z2:crs b c q=0→0≤crs c a q→0≤crs a b q→False:=fun x y z=>hE (.inr (.inl (on_of h1 x y z)))
  have z3:crs c a q=0→0≤crs a b q→0≤crs b c q→False:=fun x y z=>hE (.inr (.inr (on_of h2 x y z)))
  have s1:=sgn_c (crs a b q)
  have s2:=sgn_c (crs b c q)
  have s3:=sgn_c (crs c a q)
  have hi:=ht.i
  have ho:=ht.o
  have hr:=ht.r
  unfold inTr
  generalize t3 q a b c=t at*
  generalize crs a b q=u at*
  generalize crs b c q=v at*
  generalize crs c a q=w at*
  clear ht
  by_cases k:t=1
  · have := ho k
    left;exact ⟨.inl ⟨by omega,by omega,by omega⟩,k⟩
  · right
    refine ⟨?_,by omega⟩
    rintro (⟨x,y,z⟩|⟨x,y,z⟩)
    · have u0 : 0 ≤ u := by omega
      have v0:0≤v:=by omega
      have w0:0≤w:=by omega
      have nu:u≠0:=fun e=>z1 e v0 w0
      have nv:v≠0:=fun e=>z2 e w0 u0
      have nw:w≠0:=fun e=>z3 e u0 v0
      exact k (hi (by omega) (by omega) (by omega))
    · omega
theorem onE_sw {a b c q:P2} (h:onE b a c q):onE a b c q:=by
  rcases h with h|h|h
  · exact .inl (on_sw h)
  · exact .inr (.inr (on_sw h))
  · exact .inr (.inl (on_sw h))
theorem inTr_sw {a b c q:P2}:inTr b a c q↔inTr a b c q:=by
  unfold inTr
  rw [crs_sw a b q,crs_sw c a q,crs_sw b c q,Int.sign_neg,Int.sign_neg,Int.sign_neg]
  omega
theorem tg_sum {n:Nat} {T:List T3} {l:List P2} (h:Tg n T) (hn:l.length=n) (f:E2→Int) (hf:∀a b:Int,f (b,a)= - f (a,b)):smE f (eds T)=smE f ((List.range n).map (fun i:Nat=>((i:Int),nxi n (i:Int)))):=by
  rw [smE_split _ (fun e=>decide (e.2=nxi n e.1))]
  have h3:=h.n3
  have hR:smE f ((eds T).filter (fun e=> !decide (e.2=nxi n e.1)))=0:=by
    have hnd:=h.nd.filter (fun e=> !decide (e.2=nxi n e.1))
    have hp:(((eds T).filter (fun e=> !decide (e.2=nxi n e.1))).map (fun e=>(e.2,e.1))).Perm ((eds T).filter (fun e=> !decide (e.2=nxi n e.1))):=by
      have hc:∀e∈(eds T).filter (fun e=> !decide (e.2=nxi n e.1)),(e.2,e.1)∈(eds T).filter (fun e=> !decide (e.2=nxi n e.1)):=fun e he=>by
        obtain ⟨h1,h2⟩:=List.mem_filter.1 he
        have h2':e.2≠nxi n e.1:=by simpa using h2
        have h4:=h.rev e h1 h2'
        have h5:=h.er h1
        refine List.mem_filter.2 ⟨h4,?_⟩
        have:e.1≠nxi n e.2:=fun k=>h.no e.2 h5.2.1 h5.2.2 (by rw [← k];exact h1)
        simpa using this
      refine zEf (nd_map hnd fun a _ b _ e=>Prod.ext (congrArg Prod.snd e) (congrArg Prod.fst e)) hnd fun e=>⟨fun he=> ?_,fun he=> ?_⟩
      · obtain ⟨g, hg, rfl⟩ := List.mem_map.1 he
        exact hc g hg
      · exact List.mem_map.2 ⟨(e.2,e.1),hc e he,rfl⟩
    have h1:=smE_perm (f:=f) hp
    have h2:=smE_map f (fun e:E2=>(e.2,e.1)) ((eds T).filter (fun e=> !decide (e.2=nxi n e.1))) (fun e _=>hf e.1 e.2)
    have key:∀z w:Int,z=w→w= -z→z=0:=fun z w a b=>by omega
    exact key _ _ h1.symm h2
  have hB:smE f ((eds T).filter (fun e=>decide (e.2=nxi n e.1)))=smE f ((List.range n).map (fun i:Nat=>((i:Int),nxi n (i:Int)))):=by
    refine smE_perm (zEf (h.nd.filter _) (nd_map List.nodup_range fun a _ b _ e=>by have:=congrArg Prod.fst e;dsimp only at this;omega) fun e=>⟨fun he=> ?_,fun he=> ?_⟩)
    · obtain ⟨h1, h2⟩ := List.mem_filter.1 he
      have h2':e.2=nxi n e.1:=by simpa using h2
      have h5:=h.er h1
      refine List.mem_map.2 ⟨e.1.toNat,List.mem_range.2 (by omega),?_⟩
      have e1:((e.1.toNat:Nat):Int)=e.1:=by omega
      rw [e1];exact Prod.ext rfl h2'.symm
    · obtain ⟨i, hi, rfl⟩ := List.mem_map.1 he
      rw [List.mem_range] at hi
      exact List.mem_filter.2 ⟨h.bnd _ (by omega) (by omega),by simp⟩
  rw [hR,hB,Int.add_zero]
def fc (l:List P2) (q:P2) (e:E2):Int:=cr q (pt l e.1) (pt l e.2)
def tx (l:List P2) (q:P2) (x:T3):Int:=t3 q (pt l x.1) (pt l x.2.1) (pt l x.2.2)
theorem fc_edg (l:List P2) (q:P2) (x:T3):smE (fc l q) (edg x)=tx l q x:=by
  unfold edg tx t3 fc
  simp only [smE]
  omega
def tS (l:List P2) (q:P2):List T3→Int
  |[]=>0
  |x :: T=>tx l q x+tS l q T
theorem tS_eds (l:List P2) (q:P2):∀T,tS l q T=smE (fc l q) (eds T)
  |[]=>rfl
  |x :: T=>by rw [eds_cons,smE_append,fc_edg,←tS_eds l q T];rfl
theorem wn_sum {l:List P2} {q:P2} {n:Nat} (hn:l.length=n):∀i:Nat,i≤n→smE (fc l q) ((List.range i).map (fun i:Nat=>((i:Int),nxi n (i:Int))))=wn n l q i
  |0,_=>rfl
  |i+1,hi=>by
    rw [List.range_succ,List.map_append,smE_append,wn_sum hn i (by omega)]
    show wn n l q i+(fc l q _+0)=wn n l q i+cr q (gt l i) (gt l ((i+1)%n))
    rw [Int.add_zero]
    have e:(nxi n (i:Int)).toNat=(i+1)%n:=by
      have:=nxi_c (n:=n) (a:=(i:Int)) (by omega) (by omega)
      have:=md_c (x:=i+1) (m:=n) (by omega)
      omega
    unfold fc pt
    dsimp only
    rw [e]
    rfl
theorem tS_wn {n:Nat} {T:List T3} {l:List P2} (h:Tg n T) (hn:l.length=n) (q:P2):tS l q T=wn n l q n:=by
  rw [tS_eds,tg_sum h hn _ (fun a b=>cr_sw _ _ _),wn_sum hn n (Nat.le_refl _)]
end Go.Proofs.YtjcpbhlijoigfaaGreat.Sw
namespace Go.Proofs.YtjcpbhlijoigfaaGreat.Sw
open Pg
set_option linter.unusedVariables false
def onX (l:List P2) (q:P2) (x:T3):Prop:=onE (pt l x.1) (pt l x.2.1) (pt l x.2.2) q
instance (l:List P2) (q:P2) (x:T3):Decidable (onX l q x):=inferInstanceAs (Decidable (onE ..))
def inX (l:List P2) (q:P2) (x:T3):Prop:=inTr (pt l x.1) (pt l x.2.1) (pt l x.2.2) q
instance (l:List P2) (q:P2) (x:T3):Decidable (inX l q x):=inferInstanceAs (Decidable (inTr ..))
def cL (l:List P2) (q:P2):List T3→Int
  |[]=>0
  |x :: T=>(if inX l q x then 1 else 0)+cL l q T
theorem cL_app (l:List P2) (q:P2) (A:List T3) (x:T3):cL l q (A++[x])=cL l q A+(if inX l q x then 1 else 0):=by
  induction A with
  |nil=>show (if inX l q x then 1 else 0)+(0:Int)=0+_;omega
  |cons a A ih=>show (if inX l q a then 1 else 0)+cL l q (A++[x])=(if inX l q a then 1 else 0)+cL l q A+_;rw [ih];omega
theorem cL_yes {l:List P2} {q:P2} {T:List T3} {i:Nat} (hi:i<T.length) (h:inX l q (T.getD i (0,0,0))):cL l q (T.take (i+1))=cL l q (T.take i)+1:=by
  rw [Ms.take_snoc (0,0,0) hi,cL_app,if_pos h]
theorem cL_no {l:List P2} {q:P2} {T:List T3} {i:Nat} (hi:i<T.length) (h:¬inX l q (T.getD i (0,0,0))):cL l q (T.take (i+1))=cL l q (T.take i):=by
  rw [Ms.take_snoc (0,0,0) hi,cL_app,if_neg h];omega
theorem cL_b (l:List P2) (q:P2):∀T:List T3,0≤cL l q T∧cL l q T≤T.length
  |[]=>⟨by unfold cL;omega,by unfold cL;simp⟩
  |x :: T=>by
    have:=cL_b l q T
    rw [List.length_cons]
    unfold cL
    split <;> omega
theorem tx_val {l:List P2} {q:P2} {x:T3} {s:Int} (hs:s=1∨s= -1) (hc:0<s*(cT l x).sign) (hE:¬onX l q x):s*tx l q x=if inX l q x then 1 else 0:=by
  have sc:=sgn_c (cT l x)
  unfold onX at hE
  unfold tx
  rcases hs with rfl|rfl
  · have hS : 0 < crs (pt l x.1) (pt l x.2.1) (pt l x.2.2) := by show 0 < cT l x; omega
    rcases inTr_val hS hE with ⟨h1,h2⟩|⟨h1,h2⟩
    · rw [if_pos (show inX l q x from h1),h2];rfl
    · rw [if_neg (show ¬inX l q x from h1),h2];rfl
  · have hS:0<crs (pt l x.2.1) (pt l x.1) (pt l x.2.2):=by
      rw [crs_sw];show 0< - cT l x;omega
    have h3:=t3_sw q (pt l x.1) (pt l x.2.1) (pt l x.2.2)
    rcases inTr_val hS (fun z=>hE (onE_sw z)) with ⟨h1,h2⟩|⟨h1,h2⟩
    · rw [if_pos (show inX l q x from inTr_sw.1 h1)];omega
    · rw [if_neg (show ¬inX l q x from fun z=>h1 (inTr_sw.2 z))];omega
theorem tx_nn {l:List P2} {q:P2} {x:T3} {s:Int} (hs:s=1∨s= -1) (hc:0<s*(cT l x).sign):0≤s*tx l q x:=by
  have sc:=sgn_c (cT l x)
  unfold tx
  rcases hs with rfl|rfl
  · have hS : 0 < crs (pt l x.1) (pt l x.2.1) (pt l x.2.2) := by show 0 < cT l x; omega
    have:=(tri (q:=q) hS).r
    omega
  · have hS:0<crs (pt l x.2.1) (pt l x.1) (pt l x.2.2):=by
      rw [crs_sw];show 0< - cT l x;omega
    have h3:=t3_sw q (pt l x.1) (pt l x.2.1) (pt l x.2.2)
    have:=(tri (q:=q) hS).r
    omega
theorem tS_val {l:List P2} {q:P2} {s:Int} (hs:s=1∨s= -1):∀{T:List T3},(∀x∈T,0<s*(cT l x).sign)→(∀x∈T,¬onX l q x)→s*tS l q T=cL l q T
  |[],_,_=>by unfold tS cL;omega
  |x :: T,h1,h2=>by
    have a:=tx_val hs (h1 x (List.mem_cons_self ..)) (h2 x (List.mem_cons_self ..))
    have b:=tS_val hs (fun y hy=>h1 y (List.mem_cons_of_mem _ hy)) (fun y hy=>h2 y (List.mem_cons_of_mem _ hy))
    unfold tS cL
    rw [Int.mul_add,a,b]
theorem tS_zero {l:List P2} {q:P2} {s:Int} (hs:s=1∨s= -1):∀{T:List T3},(∀x∈T,0<s*(cT l x).sign)→0≤s*tS l q T∧(s*tS l q T=0→∀x∈T,tx l q x=0)
  |[],_=>⟨by unfold tS;omega,fun _ x hx=>by cases hx⟩
  |x :: T,h1=>by
    have a:=tx_nn (q:=q) hs (h1 x (List.mem_cons_self ..))
    obtain ⟨b1,b2⟩:=tS_zero (q:=q) hs (fun y hy=>h1 y (List.mem_cons_of_mem _ hy))
    unfold tS
    rw [Int.mul_add]
    refine ⟨by omega,fun k y hy=> ?_⟩
    rcases List.mem_cons.1 hy with rfl|hy
    · rcases hs with rfl|rfl <;> omega
    · exact b2 (by omega) y hy
theorem on_ends (a b:P2):onS a b a∧onS a b b:=by
  unfold onS betw crs
  refine ⟨⟨?_,by omega⟩,?_,by omega⟩
  · rw [Int.sub_self,Int.sub_self,Int.mul_zero,Int.mul_zero];rfl
  · grind
theorem pt_on {n:Nat} {l:List P2} (hn:l.length=n) {q:P2} {u:Int} (h0:0≤u∧u<n) (e:q=pt l u):onB l q:=by
  refine ⟨u.toNat,by omega,?_⟩
  rw [e]
  exact (on_ends _ _).1
theorem third (l:List P2) (q:P2) {x:T3} {e:E2} (he:e∈edg x):∃w:Int,crs (pt l e.1) (pt l e.2) (pt l w)=cT l x∧t3 q (pt l e.1) (pt l e.2) (pt l w)=tx l q x:=by
  unfold edg at he
  simp only [List.mem_cons,List.not_mem_nil,or_false] at he
  rcases he with rfl|rfl|rfl
  · exact ⟨x.2.2,rfl,rfl⟩
  · exact ⟨x.1,(crs_cyc _ _ _).symm,(t3_rot _ _ _ _).symm⟩
  · exact ⟨x.2.1,crs_cyc _ _ _,t3_rot _ _ _ _⟩
theorem onX_edge {l:List P2} {q:P2} {x:T3} (h:onX l q x):∃e∈edg x,onS (pt l e.1) (pt l e.2) q:=by
  rcases h with h|h|h
  · exact ⟨(x.1,x.2.1),List.mem_cons_self ..,h⟩
  · exact ⟨(x.2.1,x.2.2),List.mem_cons_of_mem _ (List.mem_cons_self ..),h⟩
  · exact ⟨(x.2.2,x.1),List.mem_cons_of_mem _ (List.mem_cons_of_mem _ (List.mem_cons_self ..)),h⟩
theorem edge_onX {l:List P2} {q:P2} {x:T3} {e:E2} (he:e∈edg x) (h:onS (pt l e.1) (pt l e.2) q):onX l q x:=by
  unfold edg at he
  simp only [List.mem_cons,List.not_mem_nil,or_false] at he
  rcases he with rfl|rfl|rfl
  · exact .inl h
  · exact .inr (.inl h)
  · exact .inr (.inr h)
section
variable {n : Nat} {l : List P2} {T : List T3} {q : P2}
theorem border {u:Int} (hn:l.length=n) (h0:0≤u∧u<n) (h:onS (pt l u) (pt l (nxi n u)) q):onB l q:=by
  refine ⟨u.toNat,by omega,?_⟩
  have e:(nxi n u).toNat=(u.toNat+1)%l.length:=by
    have:=nxi_c (n:=n) (a:=u) (by omega) (by omega)
    have:=md_c (x:=u.toNat+1) (m:=n) (by omega)
    rw [hn];omega
  unfold pt at h
  rw [e] at h
  exact h
theorem cov (hS:Sm n l) (hr:∀x∈l,inR x) (hT:acP n l T) (hq:inR q) (hE:∀x∈T,¬onX l q x):(cL l q T=1∧ins l q=1)∨(cL l q T=0∧ins l q= -1):=by
  have hn:=hS.len
  have hg:=acP_tg hS.n3 hT
  have hb:¬onB l q:=by
    rintro ⟨i,hi,ho⟩
    have hm:=hg.bnd (i:Int) (by omega) (by omega)
    obtain ⟨x,hx,he⟩:=List.mem_flatMap.1 hm
    refine hE x hx (edge_onX he ?_)
    have e:(nxi n (i:Int)).toNat=(i+1)%l.length:=by
      have:=nxi_c (n:=n) (a:=(i:Int)) (by omega) (by omega)
      have:=md_c (x:=i+1) (m:=n) (by omega)
      rw [hn];omega
    unfold pt
    dsimp only
    rw [e]
    exact ho
  have h1:=ins_wn hS hr hq hb
  have h2:=tS_val (sg_rng l) (fun x hx=>(hT.2.1 x hx).2) hE
  rw [tS_wn hg hn q] at h2
  have h3:=cL_b l q T
  rcases sg_rng l with e|e <;> rw [e] at h2 <;> omega
theorem cov_on (hS:Sm n l) (hr:∀x∈l,inR x) (hT:acP n l T) (hq:inR q) {x:T3} (hx:x∈T) (hX:onX l q x):0≤ins l q:=by
  have hn:=hS.len
  have hg:=acP_tg hS.n3 hT
  by_cases hb:onB l q
  · unfold ins;rw [if_pos hb];omega
  rcases ins_wn hS hr hq hb with ⟨h1,_⟩|⟨h1,h2⟩
  · omega
  exfalso
  rw [← tS_wn hg hn q] at h2
  have hz:=(tS_zero (q:=q) (sg_rng l) (fun x hx=>(hT.2.1 x hx).2)).2 (by rw [h2,Int.mul_zero])
  obtain ⟨e,he,ho⟩:=onX_edge hX
  have hm:e∈eds T:=List.mem_flatMap.2 ⟨x,hx,he⟩
  have her:=hg.er hm
  have hne:e.2≠nxi n e.1:=fun k=>hb (border hn her.1 (by rw [← k];exact ho))
  obtain ⟨x',hx',he'⟩:=List.mem_flatMap.1 (hg.rev e hm hne)
  obtain ⟨w,w1,w2⟩:=third l q he
  obtain ⟨w',w1',w2'⟩:=third l q he'
  dsimp only at w1' w2'
  have qa:q≠pt l e.1:=fun k=>hb (pt_on hn her.1 k)
  have qb:q≠pt l e.2:=fun k=>hb (pt_on hn her.2 k)
  have z1:=hz x hx
  have z2:=hz x' hx'
  have s1:=(hT.2.1 x hx).2
  have s2:=(hT.2.1 x' hx').2
  rw [← w1] at s1
  rw [← w1'] at s2
  rw [← w2] at z1
  rw [← w2'] at z2
  have ho2:onS (pt l e.2) (pt l e.1) q:=on_sw ho
  generalize pt l e.1=a at*
  generalize pt l e.2=b at*
  generalize pt l w=c at*
  generalize pt l w'=d at*
  have t1:=t3_sw q a b c
  have t2:=t3_sw q b a d
  have c1:=crs_sw a b c
  have c2:=crs_sw b a d
  have sc1:=sgn_c (crs a b c)
  have sc2:=sgn_c (crs b a d)
  have hab:a≠b:=fun k=>by
    subst k
    have:crs a a c=0:=by unfold crs;rw [Int.sub_self,Int.sub_self,Int.zero_mul,Int.zero_mul];rfl
    rcases sg_rng l with e|e <;> rw [e] at s1 <;> omega
  have hcond:(b.2<a.2∨a.2=b.2∧a.1<b.1)∨(a.2<b.2∨b.2=a.2∧b.1<a.1):=by
    have:¬(a.1=b.1∧a.2=b.2):=fun k=>hab (Prod.ext k.1 k.2)
    omega
  rcases sg_rng l with e|e <;> rw [e] at s1 s2
  · rcases hcond with k | k
    · have:=half (c:=c) (by omega) ho.1 ho.2 qa qb k;omega
    · have:=half (c:=d) (by omega) ho2.1 ho2.2 qb qa k;omega
  · rcases hcond with k | k
    · have:=half (a:=a) (b:=b) (c:=d) (by omega) ho.1 ho.2 qa qb k;omega
    · have:=half (a:=b) (b:=a) (c:=c) (by omega) ho2.1 ho2.2 qb qa k;omega
end
end Go.Proofs.YtjcpbhlijoigfaaGreat.Sw
namespace Go.Proofs.YtjcpbhlijoigfaaGreat.Pg
set_option linter.unusedVariables false
open Go.Proofs.YtjcpbhlijoigfaaGreat.Sp (mget mput mget_mput)
theorem mem_mput2 {κ ν:Type} [DecidableEq κ]:∀{m:List (κ×ν)} {a:κ} {v:ν} {p:κ×ν},p∈mput m a v→p=(a,v)∨p∈m
  |[],a,v,p,h=>by simp only [mput,List.mem_singleton] at h;exact .inl h
  |q :: m,a,v,p,h=>by
    simp only [mput] at h
    split at h
    · rcases List.mem_cons.1 h with h | h
      · exact .inl h
      · exact .inr (List.mem_cons_of_mem _ h)
    · rcases List.mem_cons.1 h with h | h
      · exact .inr (h ▸ List.mem_cons_self ..)
      · rcases mem_mput2 h with h | h
        · exact .inl h
        · exact .inr (List.mem_cons_of_mem _ h)
theorem mget_mem2 {κ ν:Type} [DecidableEq κ]:∀{m:List (κ×ν)} {a:κ} {v:ν},mget m a=some v→(a,v)∈m
  |[],_,_,h=>by cases h
  |q :: m,a,v,h=>by
    simp only [mget] at h
    split at h
    · rename_i e;cases h;subst e;simp
    · exact List.mem_cons_of_mem _ (mget_mem2 h)
structure Sn (m:List (E2×Bool)) (A:List E2):Prop where
  get:∀e,(mget m e).getD false=decide (e∈A)
  mem:∀x∈m,x.1∈A
theorem Sn.nil:Sn [] []:=⟨fun e=>rfl,fun x h=>by cases h⟩
theorem Sn.step {m:List (E2×Bool)} {A:List E2} (h:Sn m A) (a:E2):Sn (mput m a true) (A++[a]):=by
  refine ⟨fun e=> ?_,fun x hx=> ?_⟩
  · rw [mget_mput]
    by_cases hc:a=e
    · subst hc;simp
    · have hc' : ¬ e = a := fun x => hc x.symm
      rw [if_neg hc,h.get e];simp [hc']
  · rcases mem_mput2 hx with rfl | hx
    · simp
    · exact List.mem_append_left _ (h.mem x hx)
theorem Sn.no {m:List (E2×Bool)} {A:List E2} (h:Sn m A) {e:E2} (hf:(mget m e).getD false=false):e ∉ A:=fun hm=>by
  have:=h.get e
  rw [hf] at this
  simp [hm] at this
theorem Sn.yes {m:List (E2×Bool)} {A:List E2} (h:Sn m A) {e:E2} (hf:(mget m e).getD false=true):e∈A:=by
  have:=h.get e
  rw [hf] at this
  simpa using this.symm
theorem Sn.has {m:List (E2×Bool)} {A:List E2} (h:Sn m A) {e:E2} (he:e∈A):∃b,(e,b)∈m:=by
  have h1:=h.get e
  simp only [he,decide_true] at h1
  cases hm:mget m e with
  |none=>rw [hm] at h1;cases h1
  |some b=>exact ⟨b,mget_mem2 hm⟩
theorem eds_cut {T:List T3} {i:Nat} (h:i<T.length):eds T=eds (T.take i)++(((T.getD i (0,0,0)).1,(T.getD i (0,0,0)).2.1) :: ((T.getD i (0,0,0)).2.1,(T.getD i (0,0,0)).2.2) :: ((T.getD i (0,0,0)).2.2,(T.getD i (0,0,0)).1) :: eds (T.drop (i+1))):=by
  conv=>lhs;rw [← List.take_append_drop i T,Ms.drop_cons (0,0,0) h]
  unfold eds
  rw [List.flatMap_append,List.flatMap_cons]
  rfl
theorem eds_take {T:List T3} {i:Nat} (h:i<T.length):eds (T.take (i+1))=((eds (T.take i)++[((T.getD i (0,0,0)).1,(T.getD i (0,0,0)).2.1)])++[((T.getD i (0,0,0)).2.1,(T.getD i (0,0,0)).2.2)])++[((T.getD i (0,0,0)).2.2,(T.getD i (0,0,0)).1)]:=by
  rw [Ms.take_snoc (0,0,0) h]
  unfold eds
  rw [List.flatMap_append]
  simp [edg]
theorem dup_no {L A B:List E2} {e:E2} (h:L=A++e :: B) (he:e∈A):¬L.Nodup:=fun hn=>by
  rw [h] at hn
  exact (List.nodup_append.1 hn).2.2 e he e (List.mem_cons_self ..) rfl
theorem nd_snoc {A:List E2} {e:E2} (h:A.Nodup) (he:e ∉ A):(A++[e]).Nodup:=
  List.nodup_append.2 ⟨h,by simp,fun a ha b hb hab=>by rw [List.mem_singleton] at hb;subst hb;subst hab;exact he ha⟩
def okP (n:Nat) (l:List P2) (x:T3):Prop:=inT n x∧0<sg l*(cT l x).sign
theorem acP_n {n m:Nat} {l:List P2} {T:List T3} (hm:T.length=m):acP n l T↔(m:Int)=n - 2∧(∀j,j<m→okP n l (T.getD j (0,0,0)))∧(eds T).Nodup∧(∀e∈eds T,e.2≠nxi n e.1→(e.2,e.1)∈eds T)∧∀i:Nat,i<n→((i:Int),(((i+1)%n:Nat):Int))∈eds T:=by
  subst hm
  unfold acP
  constructor
  · rintro ⟨h1, h2, h3, h4, h5⟩
    exact ⟨h1,fun j hj=>h2 _ (Ms.getD_mem (0,0,0) hj),h3,h4,fun i hi=>by rw [← nxi_nat];exact h5 i hi⟩
  · rintro ⟨h1, h2, h3, h4, h5⟩
    refine ⟨h1,fun x hx=> ?_,h3,h4,fun i hi=>by rw [nxi_nat];exact h5 i hi⟩
    obtain ⟨j,hj,rfl⟩:=Ms.mem_getD (0,0,0) hx
    exact h2 j hj
structure MV (n:Nat) (T:List T3) (sm vis:List (E2×Bool)):Prop where
  nd:(vis.map (·.1)).Nodup
  sub:∀q∈vis.map (·.1),q∈sm.map (·.1)
  ok:∀x∈vis,x.1.2≠nxi n x.1.1→(x.1.2,x.1.1)∈eds T
theorem MV.nil {n:Nat} {T:List T3} {sm:List (E2×Bool)}:MV n T sm []:=⟨by simp,fun q h=>(by cases h),fun x h=>(by cases h)⟩
theorem MV.step {n:Nat} {T:List T3} {sm vis:List (E2×Bool)} (h:MV n T sm vis) {e:E2×Bool} (hm:e∈sm) (hn:e.1 ∉ vis.map (·.1)) (hk:e.1.2=nxi n e.1.1∨(e.1.2,e.1.1)∈eds T):MV n T sm (vis++[e]):=by
  refine ⟨?_,fun q hq=> ?_,fun x hx hne=> ?_⟩
  · rw [List.map_append];exact List.nodup_append.2 ⟨h.nd,by simp,fun a ha b hb hab=>by rw [List.map_cons,List.map_nil,List.mem_singleton] at hb;subst hb;subst hab;exact hn ha⟩
  · rw [List.map_append] at hq
    rcases List.mem_append.1 hq with hq|hq
    · exact h.sub q hq
    · rw [List.map_cons,List.map_nil,List.mem_singleton] at hq;subst hq;exact List.mem_map_of_mem hm
  · rcases List.mem_append.1 hx with hx | hx
    · exact h.ok x hx hne
    · rw [List.mem_singleton] at hx;subst hx;exact hk.resolve_left hne
theorem MV.mu {n:Nat} {T:List T3} {sm vis:List (E2×Bool)} (h:MV n T sm vis) {e:E2×Bool} (hm:e∈sm) (hn:e.1 ∉ vis.map (·.1)):sm.length - (vis++[e]).length<sm.length - vis.length:=by
  have:=nd_lt h.nd h.sub (List.mem_map_of_mem (f:=(·.1)) hm) hn
  rw [List.length_map,List.length_map] at this
  rw [List.length_append,List.length_singleton];omega
theorem MV.fin {n:Nat} {T:List T3} {sm vis:List (E2×Bool)} (h:MV n T sm vis) (hs:Sn sm (eds T)) (hp:vis.Perm sm):∀e∈eds T,e.2≠nxi n e.1→(e.2,e.1)∈eds T:=fun e he hne=>by
  obtain ⟨b,hb⟩:=hs.has he
  exact h.ok (e,b) (hp.mem_iff.2 hb) hne
theorem MV.test {n:Nat} {T:List T3} {sm:List (E2×Bool)} {e:E2×Bool} (hs:Sn sm (eds T)) (hx:¬(e.1.2≠(e.1.1+1)%(n:Int)∧(!((mget sm (e.1.2,e.1.1)).getD false))=true)):e.1.2=nxi n e.1.1∨(e.1.2,e.1.1)∈eds T:=by
  by_cases h:e.1.2=nxi n e.1.1
  · exact .inl h
  · refine .inr (hs.yes ?_)
    cases k:(mget sm (e.1.2,e.1.1)).getD false
    · exact absurd ⟨h,by rw [k];rfl⟩ hx
    · rfl
theorem eds_rng {n nt:Nat} {l:List P2} {T:List T3} (hm:T.length=nt) (h:∀j,j<nt→okP n l (T.getD j (0,0,0))) {e:E2} (he:e∈eds T):(0≤e.1∧e.1<n)∧(0≤e.2∧e.2<n):=by
  obtain ⟨x,hx,hq⟩:=List.mem_flatMap.1 he
  obtain ⟨j,hj,rfl⟩:=Ms.mem_getD (0,0,0) hx
  obtain ⟨⟨h1,h2,h3⟩,_⟩:=h j (by omega)
  unfold edg at hq
  rcases List.mem_cons.1 hq with rfl|hq
  · exact ⟨h1,h2⟩
  rcases List.mem_cons.1 hq with rfl|hq
  · exact ⟨h2,h3⟩
  rw [List.mem_singleton] at hq;subst hq
  exact ⟨h3,h1⟩
def ceC (n:Nat) (l:List P2) (T:List T3):Int:=if ck l≠0 then ck l else if acP n l T then 0 else 12
theorem ce_bad {n:Nat} {l:List P2} {T:List T3} (h:ck l≠0):ceC n l T=ck l:=by unfold ceC;rw [if_pos h]
theorem ce_no {n:Nat} {l:List P2} {T:List T3} (h:ck l=0) (h2:¬acP n l T):ceC n l T=12:=by unfold ceC;rw [if_neg (fun k=>k h),if_neg h2]
theorem ce_yes {n:Nat} {l:List P2} {T:List T3} (h:ck l=0) (h2:acP n l T):ceC n l T=0:=by unfold ceC;rw [if_neg (fun k=>k h),if_pos h2]
end Go.Proofs.YtjcpbhlijoigfaaGreat.Pg
namespace Go.Proofs.YtjcpbhlijoigfaaGreat.Sw
open Pg
set_option linter.unusedVariables false
theorem ce_ok {n:Nat} {l:List P2} {T:List T3} (hn:l.length=n) (h:ceC n l T=0):ck l=0∧acP n l T:=by
  by_cases k:ck l=0
  · refine ⟨k, Classical.not_not.1 fun z => ?_⟩
    rw [ce_no k z] at h;omega
  · rw [ce_bad k] at h;exact absurd h k
theorem isC2 {l:List P2} {q:P2} (h:ck l=0) (h2:isC l q≠0):isC l q=2:=by
  by_cases k:far q=true
  · exact (is_far h k).2
  · exact absurd (is_ok h k).2 h2
theorem is_in {l:List P2} {q:P2} (h:ck l=0) (h2:isC l q=0):inR q∧isV l q=ins l q:=by
  by_cases k:far q=true
  · rw [(is_far h k).2] at h2;omega
  · exact ⟨far_no k,(is_ok h k).1⟩
end Go.Proofs.YtjcpbhlijoigfaaGreat.Sw
namespace Go.Proofs.YtjcpbhlijoigfaaGreat.Sp
open Go
set_option linter.unusedVariables false
set_option maxRecDepth 100000
set_option maxHeartbeats 400000
theorem zag {ex:Int} {ey:Int} {fx:Int} {fy:Int} {gx:Int} {gy:Int} {hx:Int} {hy:Int} (hre:Pg.inR (ex,ey)) (hrf:Pg.inR (fx,fy)) (hrg:Pg.inR (gx,gy)) (hrh:Pg.inR (hx,hy)):Con yf 36 [.agg #[.int .i64 ex,.int .i64 ey],.agg #[.int .i64 fx,.int .i64 fy],.agg #[.int .i64 gx,.int .i64 gy],.agg #[.int .i64 hx,.int .i64 hy]] [] [] (Y:=Unit) (fun y=>True) (fun y=> .bool (decide (Sw.inTr (ex,ey) (fx,fy) (gx,gy) (hx,hy)))) (fun y=>[]) (fun y=>[]):=by
 refine zl Tryz.func36 rfl rfl rfl (fun c=> ?_)
 show RunC _ _ _ _ _ [(0,.agg #[.int .i64 ex,.int .i64 ey]),(1,.agg #[.int .i64 fx,.int .i64 fy]),(2,.agg #[.int .i64 gx,.int .i64 gy]),(3,.agg #[.int .i64 hx,.int .i64 hy])] [] []
 have hc0:=(Pg.cb hre hrf hrh).c
 have hc1:=(Pg.cb hrf hrg hrh).c
 have hc2:=(Pg.cb hrg hre hrh).c
 refine zg<|za<|zM rfl rfl (zS rfl rfl) (fun b1=> ?_)
 refine zM rfl rfl (zS rfl rfl) (fun b2=> ?_)
 refine zM rfl rfl (zS rfl rfl) (fun b3=> ?_)
 refine zM rfl rfl (zS rfl rfl) (fun b4=> ?_)
 refine e_p (zc rfl)<|zh<|zd<|zg<|za<|e_ru (zb 3 ty30 rfl rfl (.t2 .nil))<|e_ru (zb 2 ty30 rfl rfl (.t2 .nil))<|e_ru (zb 0 ty30 rfl rfl (.t2 .nil))<|zL rfl rfl (.c rfl (.c rfl (.c rfl .n))) ce55 (zhc (ex:=ex) (ey:=ey) (fx:=fx) (fy:=fy) (gx:=hx) (gy:=hy) (hre:=ass) (hrf:=ass) (hrg:=ass)) (.n)<|zL rfl rfl (.c rfl .n) ce65 (zQc (z:=Pg.crs (ex,ey) (fx,fy) (hx,hy)) (hz:=cbo)) (.n)<|e_p (zc rfl)<|zh<|zd<|zg<|za<|e_ru (zb 2 ty30 rfl rfl (.t2 .nil))<|e_ru (zb 1 ty30 rfl rfl (.t2 .nil))<|e_ru (zb 0 ty30 rfl rfl (.t2 .nil))<|zL rfl rfl (.c rfl (.c rfl (.c rfl .n))) ce55 (zhc (ex:=fx) (ey:=fy) (fx:=gx) (fy:=gy) (gx:=hx) (gy:=hy) (hre:=ass) (hrf:=ass) (hrg:=ass)) (.n)<|zL rfl rfl (.c rfl .n) ce65 (zQc (z:=Pg.crs (fx,fy) (gx,gy) (hx,hy)) (hz:=cbo)) (.n)<|e_p (zc rfl)<|zh<|zd<|zg<|za<|e_ru (zb 1 ty30 rfl rfl (.t2 .nil))<|e_ru (zb 3 ty30 rfl rfl (.t2 .nil))<|e_ru (zb 0 ty30 rfl rfl (.t2 .nil))<|zL rfl rfl (.c rfl (.c rfl (.c rfl .n))) ce55 (zhc (ex:=gx) (ey:=gy) (fx:=ex) (fy:=ey) (gx:=hx) (gy:=hy) (hre:=ass) (hrf:=ass) (hrg:=ass)) (.n)<|zL rfl rfl (.c rfl .n) ce65 (zQc (z:=Pg.crs (gx,gy) (ex,ey) (hx,hy)) (hz:=cbo)) (.n)<|e_p (zc rfl)<|zh<|zd<|zHa (X:=Unit) (fun x=>True) (fun x=>[(8,.bool (decide ((((0≤(Pg.crs (ex,ey) (fx,fy) (hx,hy)).sign)∧(0≤(Pg.crs (fx,fy) (gx,gy) (hx,hy)).sign))∧(0≤(Pg.crs (gx,gy) (ex,ey) (hx,hy)).sign))∨((((Pg.crs (ex,ey) (fx,fy) (hx,hy)).sign≤0)∧((Pg.crs (fx,fy) (gx,gy) (hx,hy)).sign≤0))∧((Pg.crs (gx,gy) (ex,ey) (hx,hy)).sign≤0)))))]) (fun x=>[boxA b4 30 [.int .i64 hx,.int .i64 hy],boxA b3 30 [.int .i64 gx,.int .i64 gy],boxA b2 30 [.int .i64 fx,.int .i64 fy],boxA b1 30 [.int .i64 ex,.int .i64 ey]]) (fun x=>[]) ?_ ?_
 ·
  refine za<|e_mv rfl<|e_p (zBa rfl rfl)<|zV rfl rfl (zW rfl) (fun h5=> ?_) (fun h5=> ?_)
  ·
   refine e_mv rfl<|e_p (zBa rfl rfl)<|e_p (zn rfl rfl)<|zV rfl rfl (zW rfl) (fun h6=> ?_) (fun h6=> ?_)
   ·
    refine e_mv rfl<|e_p (zBa rfl rfl)<|e_p (zn rfl rfl)<|zV rfl rfl (zW rfl) (fun h7=> ?_) (fun h7=> ?_)
    ·
     refine e_no<|e_no<|e_no<|e_no<|e_no<|e_no<|e_no<|e_no<|e_no<|e_no<|e_p (zn rfl rfl)<|e_p (zc rfl)<|zh ?_
     exact zga () (show True from by first|trivial|omega|simp_all) ((.e rfl (congrArg Value.bool cbu) .n):SubM _ _) (ho:=((.of [0,0,0,0] rfl):PickO _ _ _)) (.n:SelR _ _ _)
    ·
     refine e_mv rfl<|e_p (zKa rfl rfl)<|zV rfl rfl (zW rfl) (fun h8=> ?_) (fun h8=> ?_)
     ·
      refine e_mv rfl<|e_p (zKa rfl rfl)<|e_p (zn rfl rfl)<|zV rfl rfl (zW rfl) (fun h9=> ?_) (fun h9=> ?_)
      ·
       refine e_mv rfl<|e_p (zKa rfl rfl)<|e_p (zn rfl rfl)<|e_p (zn rfl rfl)<|e_p (zc rfl)<|zh ?_
       exact zga () (show True from by first|trivial|omega|simp_all) ((.e rfl (congrArg Value.bool cbu) .n):SubM _ _) (ho:=((.of [0,0,0,0] rfl):PickO _ _ _)) (.n:SelR _ _ _)
      ·
       refine e_no<|e_no<|e_p (zn rfl rfl)<|e_p (zn rfl rfl)<|e_p (zc rfl)<|zh ?_
       exact zga () (show True from by first|trivial|omega|simp_all) ((.e rfl (congrArg Value.bool cbu) .n):SubM _ _) (ho:=((.of [0,0,0,0] rfl):PickO _ _ _)) (.n:SelR _ _ _)
     ·
      refine e_no<|e_no<|e_p (zn rfl rfl)<|e_mv rfl<|e_no<|e_no<|e_p (zn rfl rfl)<|e_p (zn rfl rfl)<|e_p (zc rfl)<|zh ?_
      exact zga () (show True from by first|trivial|omega|simp_all) ((.e rfl (congrArg Value.bool cbu) .n):SubM _ _) (ho:=((.of [0,0,0,0] rfl):PickO _ _ _)) (.n:SelR _ _ _)
   ·
    refine e_no<|e_no<|e_p (zn rfl rfl)<|e_mv rfl<|e_mv rfl<|e_p (zKa rfl rfl)<|zV rfl rfl (zW rfl) (fun h10=> ?_) (fun h10=> ?_)
    ·
     refine e_mv rfl<|e_p (zKa rfl rfl)<|e_p (zn rfl rfl)<|zV rfl rfl (zW rfl) (fun h11=> ?_) (fun h11=> ?_)
     ·
      refine e_mv rfl<|e_p (zKa rfl rfl)<|e_p (zn rfl rfl)<|e_p (zn rfl rfl)<|e_p (zc rfl)<|zh ?_
      exact zga () (show True from by first|trivial|omega|simp_all) ((.e rfl (congrArg Value.bool cbu) .n):SubM _ _) (ho:=((.of [0,0,0,0] rfl):PickO _ _ _)) (.n:SelR _ _ _)
     ·
      refine e_no<|e_no<|e_p (zn rfl rfl)<|e_p (zn rfl rfl)<|e_p (zc rfl)<|zh ?_
      exact zga () (show True from by first|trivial|omega|simp_all) ((.e rfl (congrArg Value.bool cbu) .n):SubM _ _) (ho:=((.of [0,0,0,0] rfl):PickO _ _ _)) (.n:SelR _ _ _)
    ·
     refine e_no<|e_no<|e_p (zn rfl rfl)<|e_mv rfl<|e_no<|e_no<|e_p (zn rfl rfl)<|e_p (zn rfl rfl)<|e_p (zc rfl)<|zh ?_
     exact zga () (show True from by first|trivial|omega|simp_all) ((.e rfl (congrArg Value.bool cbu) .n):SubM _ _) (ho:=((.of [0,0,0,0] rfl):PickO _ _ _)) (.n:SelR _ _ _)
  ·
   refine e_no<|e_no<|e_p (zn rfl rfl)<|e_mv rfl<|e_no<|e_no<|e_p (zn rfl rfl)<|e_mv rfl<|e_mv rfl<|e_p (zKa rfl rfl)<|zV rfl rfl (zW rfl) (fun h12=> ?_) (fun h12=> ?_)
   ·
    refine e_mv rfl<|e_p (zKa rfl rfl)<|e_p (zn rfl rfl)<|zV rfl rfl (zW rfl) (fun h13=> ?_) (fun h13=> ?_)
    ·
     refine e_mv rfl<|e_p (zKa rfl rfl)<|e_p (zn rfl rfl)<|e_p (zn rfl rfl)<|e_p (zc rfl)<|zh ?_
     exact zga () (show True from by first|trivial|omega|simp_all) ((.e rfl (congrArg Value.bool cbu) .n):SubM _ _) (ho:=((.of [0,0,0,0] rfl):PickO _ _ _)) (.n:SelR _ _ _)
    ·
     refine e_no<|e_no<|e_p (zn rfl rfl)<|e_p (zn rfl rfl)<|e_p (zc rfl)<|zh ?_
     exact zga () (show True from by first|trivial|omega|simp_all) ((.e rfl (congrArg Value.bool cbu) .n):SubM _ _) (ho:=((.of [0,0,0,0] rfl):PickO _ _ _)) (.n:SelR _ _ _)
   ·
    refine e_no<|e_no<|e_p (zn rfl rfl)<|e_mv rfl<|e_no<|e_no<|e_p (zn rfl rfl)<|e_p (zn rfl rfl)<|e_p (zc rfl)<|zh ?_
    exact zga () (show True from by first|trivial|omega|simp_all) ((.e rfl (congrArg Value.bool cbu) .n):SubM _ _) (ho:=((.of [0,0,0,0] rfl):PickO _ _ _)) (.n:SelR _ _ _)
 ·
  rintro ⟨⟩ -
  try dsimp only
  refine zI ?_
  exact zu Tryz.results36 () trivial (zk rfl) (congrArg Value.bool (by first|rfl|(rw [Bool.eq_iff_iff,decide_eq_true_iff];simp [Sw.inTr,and_assoc,or_assoc];done)|(rw [Bool.eq_iff_iff,decide_eq_true_iff];simp_all [Sw.inTr];done)|(rw [Bool.eq_iff_iff];simp_all [Sw.inTr];done))) (ho:=(.n:PickO _ _ _)) (.n:SelR _ _ _)
end Go.Proofs.YtjcpbhlijoigfaaGreat.Sp
namespace Go.Proofs.YtjcpbhlijoigfaaGreat.Sp
open Go
set_option linter.unusedVariables false
set_option maxRecDepth 100000
set_option maxHeartbeats 400000
theorem zsd {p:Option Addr} {n:Nat} {cap:Nat} {l:List Pg.P2} {pt:Option Addr} {nt:Nat} {ct:Nat} {T:List Pg.T3} (hn:l.length=n) (hnt:T.length=nt) (hb:nt≤1000):Con yf 31 [.slice p n cap,.slice pt nt ct] [] [slF (rI2 .i64) p cap l,slF (rI3 .i64) pt ct T] (Y:=Unit) (fun y=>True) (fun y=> .int .i64 (Pg.ceC n l T)) (fun y=>[]) (fun y=>[]):=by
 refine zl Tryz.func31 rfl rfl rfl (fun c=> ?_)
 show RunC _ _ _ _ _ [(0,.slice p n cap),(1,.slice pt nt ct)] [] [slF (rI2 .i64) p cap l,slF (rI3 .i64) pt ct T]
 refine zda 0 rfl (fun hL0=> ?_)
 refine zda 1 rfl (fun hL1=> ?_)
 refine zg<|za<|e_p (zc rfl)<|zh<|zd<|zg<|zg<|za<|e_mv rfl<|zL rfl rfl (.c rfl .n) ce15 (zic (p:=p) (n:=n) (cap:=cap) (l:=l) (hn:=ass)) (.c (j:=0) rfl .n)<|e_p (zc rfl)<|zh<|zd<|zg<|za<|e_mv rfl<|e_p (zdb rfl rfl)<|zh<|zd<|zG rfl (fun hbad=> ?_) (fun hbad=> ?_)
 ·
  refine zg<|za<|e_mv rfl<|e_p (zc rfl)<|zh<|zd<|zI<|zi ?_
  exact zu yj () trivial (zk rfl) (by rw [Pg.ce_bad hbad]) (ho:=(.n:PickO _ _ _)) (.n:SelR _ _ _)
 ·
  have hz:=Decidable.not_not.1 hbad
  have hok:=Pg.ok hz
  have hrng:=hok.rng
  have h64:n≤64:=by have:=hok.n64;omega
  have h3:3≤n:=by have:=hok.n3;omega
  have hsr:=Pg.sg_rng l
  refine zw<|zd<|zg<|za<|e_mv rfl<|e_p (zN ye rfl)<|e_p (zc rfl)<|zh<|zd<|zg<|zg<|za<|e_mv rfl<|e_p (zN yd rfl)<|e_mv rfl<|e_p (zka (z:=(((n:Nat):Int) - 2)) rfl rfl (w64 om))<|e_p (zdb rfl rfl)<|zh<|zd<|zG rfl (fun hlen=> ?_) (fun hlen=> ?_)
  ·
   refine zg<|za<|e_p (zc rfl)<|zh<|zd<|zI<|zi ?_
   exact zu yj () trivial (zk rfl) (by rw [Pg.ce_no hz (fun h=>absurd ((Pg.acP_n hnt).1 h).1 om)]) (ho:=(.n:PickO _ _ _)) (.n:SelR _ _ _)
  ·
   refine zw<|zd<|zg<|za<|e_mv rfl<|zC rfl rfl (.c rfl .n) ce75 (zSc (p:=p) (n:=n) (cap:=cap) (l:=l) (hn:=ass) (h64:=cbo) (hrng:=cbo)) (.c (j:=0) rfl .n) ?_
   rintro ⟨b1,B2,N3⟩ hR0
   dsimp only [aq,nq,cq]
   replace hR0:Pg.Rg n (List.range n) B2 N3:=hR0
   have hLB:=hR0.lb
   have hLN:=hR0.ln
   refine e_p (zQ rfl)<|e_p (zf Tryz.underlying98 rfl sz3 rfl rfl)<|e_ru (ze 0 ty3 rfl rfl (rg_s rgl rgl))<|e_p (zc rfl)<|zh<|zd<|zg<|za<|zIa rfl rfl (zBe (κ:=Int×Int) (ν:=Bool) (fun z:Int×Int=> .agg #[.int .i64 z.1,.int .i64 z.2]) (fun z:Bool=> .bool z) (fun z=>InK .i64 z.1∧InK .i64 z.2)) (fun b4 _=> ?_)
   refine e_p (zc rfl)<|zh<|zd<|zg<|zg<|za<|e_mv rfl<|e_p (zN yd rfl)<|e_mv rfl<|zh<|zd<|zA<|zpa (X:=Nat×(List (Pg.E2×Bool))) (fun x:Nat×(List (Pg.E2×Bool))=>x.1≤nt∧(∀j,j<x.1→Pg.okP n l (T.getD j (0,0,0)))∧Pg.Sn x.2 (Pg.eds (T.take x.1))∧(Pg.eds (T.take x.1)).Nodup) (fun x=>[(37,.int .i64 ((x.1:Nat):Int)),(36,.int .i64 ((nt:Nat):Int)),(35,.slice pt nt ct),(8,.map (some b4)),(7,.int .i64 (Pg.sg l)),(6,.int .i64 ((n:Nat):Int)),(0,.slice p n cap)]) (fun x=>[mapA b4 (fun z:Int×Int=> .agg #[.int .i64 z.1,.int .i64 z.2]) (fun z:Bool=> .bool z) (fun z=>InK .i64 z.1∧InK .i64 z.2) (x.2),boxA b1 98 (rgC p n cap B2 N3 ((n:Nat):Int) (Pg.sg l))]) (fun x=>[slF (rI2 .i64) p cap l,slF (rI3 .i64) pt ct T]) (fun x:Nat×(List (Pg.E2×Bool))=>nt - x.1) (0,[]) (show 0≤nt∧(∀j,j<0→Pg.okP n l (T.getD j (0,0,0)))∧Pg.Sn ([]) (Pg.eds (T.take 0))∧(Pg.eds (T.take 0)).Nodup from by exact ⟨Nat.zero_le _,fun j h=>by omega,Pg.Sn.nil,List.nodup_nil⟩) ((.e rfl (by first|rfl|(congr 1;omega)|simp_all) (.of rfl)):SubM _ _) (ho:=((.of [0,0] rfl):PickO _ _ _)) ((.of [0,1] rfl):SelR _ _ _) ?_
   rintro ⟨i,sm⟩ hI
   replace hI:i≤nt∧(∀j,j<i→Pg.okP n l (T.getD j (0,0,0)))∧Pg.Sn sm (Pg.eds (T.take i))∧(Pg.eds (T.take i)).Nodup:=hI
   try dsimp only
   obtain ⟨hi,hall,hsm,hnd⟩:=hI
   refine zg<|za<|e_p (zba rfl rfl)<|zh<|zd<|zg<|zG rfl (fun h5=> ?_) (fun h5=> ?_)
   ·
    refine zw<|zd<|zg<|zA<|zg<|za<|zZ (x0:=(T.getD i (0,0,0))) 1 i rfl yd sz50 rfl rfl rfl cbs rfl rfl (gD (d:=(0,0,0)) om) (fun b6 o7 hok8=> ?_)
    obtain ⟨hok8x,hok8y,hok8z⟩:=hok8
    replace hok8x:=zD.1 hok8x
    replace hok8y:=zD.1 hok8y
    replace hok8z:=zD.1 hok8z
    refine e_ru (zJ (j:=0) 0 ty50 rfl rfl rfl (.t2 (.take .nil)))<|zM rfl rfl (zo zr50 rfl) (fun b9=> ?_)
    refine zm 0 rfl rfl rfl rfl rfl sz50 rfl (.t2 (.take .nil)) .z<|zh<|zd<|zg<|zg<|za<|e_ru (zb 0 ty50 rfl rfl (.t2 (.take .nil)))<|e_mv rfl<|zh<|zd<|zA<|zWd<|zhb<|zg<|za<|e_p (zba rfl rfl)<|zh<|zd<|zg<|zVa rfl rfl<|zw<|zd<|zg<|zA<|zg<|za<|e_p (zIb (i:=0) ya ty3 rfl rfl dd rfl)<|e_p (zc rfl)<|zh<|zd<|zHa (X:=Unit) (fun x=>True) (fun x=>[(51,.bool (decide (((T.getD i (0,0,0)).1<0)∨(((n:Nat):Int)≤(T.getD i (0,0,0)).1)))),(12,.int .i64 ((T.getD i (0,0,0)).1)),(44,.int .i64 ((T.getD i (0,0,0)).1)),(43,.bool true),(42,.int .i64 0),(41,.agg #[.int .i64 ((T.getD i (0,0,0)).1),.int .i64 ((T.getD i (0,0,0)).2.1),.int .i64 ((T.getD i (0,0,0)).2.2)]),(10,.pointer (some ⟨b9,0,none⟩)),(37,.int .i64 ((i:Nat):Int)),(36,.int .i64 ((nt:Nat):Int)),(35,.slice pt nt ct),(8,.map (some b4)),(7,.int .i64 (Pg.sg l)),(6,.int .i64 ((n:Nat):Int)),(0,.slice p n cap)]) (fun x=>[boxA b9 50 [.int .i64 ((T.getD i (0,0,0)).1),.int .i64 ((T.getD i (0,0,0)).2.1),.int .i64 ((T.getD i (0,0,0)).2.2)],mapA b4 (fun z:Int×Int=> .agg #[.int .i64 z.1,.int .i64 z.2]) (fun z:Bool=> .bool z) (fun z=>InK .i64 z.1∧InK .i64 z.2) sm,boxA b1 98 (rgC p n cap B2 N3 ((n:Nat):Int) (Pg.sg l))]) (fun x=>[atF b6 o7 [.int .i64 ((T.getD i (0,0,0)).1),.int .i64 ((T.getD i (0,0,0)).2.1),.int .i64 ((T.getD i (0,0,0)).2.2)],slF (rI2 .i64) p cap l,slF (rI3 .i64) pt ct T]) ?_ ?_
    ·
     refine za<|e_mv rfl<|e_p (zba rfl rfl)<|zV rfl rfl (zW rfl) (fun h10=> ?_) (fun h10=> ?_)
     ·
      refine e_no<|e_no<|e_no<|e_p (zn rfl rfl)<|zh ?_
      exact zga () (show True from by first|trivial|omega|simp_all) ((.e rfl (congrArg Value.bool cbu) (.of rfl)):SubM _ _) (ho:=((.of [0,0,0] rfl):PickO _ _ _)) ((.of [0,1,2] rfl):SelR _ _ _)
     ·
      refine e_mv rfl<|e_mv rfl<|e_p (zBa rfl rfl)<|e_p (zn rfl rfl)<|zh ?_
      exact zga () (show True from by first|trivial|omega|simp_all) ((.e rfl (congrArg Value.bool cbu) (.of rfl)):SubM _ _) (ho:=((.of [0,0,0] rfl):PickO _ _ _)) ((.of [0,1,2] rfl):SelR _ _ _)
    ·
     rintro ⟨⟩ -
     try dsimp only
     refine zG rfl (fun hr=> ?_) (fun hr=> ?_)
     ·
      have hr0:=hr
      refine zg<|za<|e_p (zc rfl)<|zh<|zd<|zI<|zp<|zi<|zi<|zp<|zi<|zp<|zi<|zi<|zp<|zi ?_
      exact zu yj () trivial (zk rfl) (by rw [Pg.ce_no hz (fun h=>by have h9:=(((Pg.acP_n hnt).1 h).2.1 i om).1;unfold Pg.inT at h9;omega)]) (ho:=(.n:PickO _ _ _)) (.n:SelR _ _ _)
     ·
      have hr0:=hr
      refine zw<|zO<|zd<|za<|e_p (zK (z:=1) rfl rfl (w64 dd))<|e_mv rfl<|zh<|ztb<|zhb<|zg<|za<|e_p (zba rfl rfl)<|zh<|zd<|zg<|zVa rfl rfl<|zw<|zd<|zg<|zA<|zg<|za<|e_p (zIb (i:=1) ya ty3 rfl rfl dd rfl)<|e_p (zc rfl)<|zh<|zd<|zHa (X:=Unit) (fun x=>True) (fun x=>[(51,.bool (decide (((T.getD i (0,0,0)).2.1<0)∨(((n:Nat):Int)≤(T.getD i (0,0,0)).2.1)))),(12,.int .i64 ((T.getD i (0,0,0)).2.1)),(44,.int .i64 ((T.getD i (0,0,0)).2.1)),(43,.bool true),(42,.int .i64 1),(52,.int .i64 1),(41,.agg #[.int .i64 ((T.getD i (0,0,0)).1),.int .i64 ((T.getD i (0,0,0)).2.1),.int .i64 ((T.getD i (0,0,0)).2.2)]),(10,.pointer (some ⟨b9,0,none⟩)),(37,.int .i64 ((i:Nat):Int)),(36,.int .i64 ((nt:Nat):Int)),(35,.slice pt nt ct),(8,.map (some b4)),(7,.int .i64 (Pg.sg l)),(6,.int .i64 ((n:Nat):Int)),(0,.slice p n cap)]) (fun x=>[boxA b9 50 [.int .i64 ((T.getD i (0,0,0)).1),.int .i64 ((T.getD i (0,0,0)).2.1),.int .i64 ((T.getD i (0,0,0)).2.2)],mapA b4 (fun z:Int×Int=> .agg #[.int .i64 z.1,.int .i64 z.2]) (fun z:Bool=> .bool z) (fun z=>InK .i64 z.1∧InK .i64 z.2) sm,boxA b1 98 (rgC p n cap B2 N3 ((n:Nat):Int) (Pg.sg l))]) (fun x=>[atF b6 o7 [.int .i64 ((T.getD i (0,0,0)).1),.int .i64 ((T.getD i (0,0,0)).2.1),.int .i64 ((T.getD i (0,0,0)).2.2)],slF (rI2 .i64) p cap l,slF (rI3 .i64) pt ct T]) ?_ ?_
      ·
       refine za<|e_mv rfl<|e_p (zba rfl rfl)<|zV rfl rfl (zW rfl) (fun h11=> ?_) (fun h11=> ?_)
       ·
        refine e_no<|e_no<|e_no<|e_p (zn rfl rfl)<|zh ?_
        exact zga () (show True from by first|trivial|omega|simp_all) ((.e rfl (congrArg Value.bool cbu) (.of rfl)):SubM _ _) (ho:=((.of [0,0,0] rfl):PickO _ _ _)) ((.of [0,1,2] rfl):SelR _ _ _)
       ·
        refine e_mv rfl<|e_mv rfl<|e_p (zBa rfl rfl)<|e_p (zn rfl rfl)<|zh ?_
        exact zga () (show True from by first|trivial|omega|simp_all) ((.e rfl (congrArg Value.bool cbu) (.of rfl)):SubM _ _) (ho:=((.of [0,0,0] rfl):PickO _ _ _)) ((.of [0,1,2] rfl):SelR _ _ _)
      ·
       rintro ⟨⟩ -
       try dsimp only
       refine zG rfl (fun hr=> ?_) (fun hr=> ?_)
       ·
        have hr1:=hr
        refine zg<|za<|e_p (zc rfl)<|zh<|zd<|zI<|zp<|zi<|zi<|zp<|zi<|zp<|zi<|zi<|zp<|zi ?_
        exact zu yj () trivial (zk rfl) (by rw [Pg.ce_no hz (fun h=>by have h9:=(((Pg.acP_n hnt).1 h).2.1 i om).1;unfold Pg.inT at h9;omega)]) (ho:=(.n:PickO _ _ _)) (.n:SelR _ _ _)
       ·
        have hr1:=hr
        refine zw<|zO<|zd<|za<|e_p (zK (z:=2) rfl rfl (w64 dd))<|e_mv rfl<|zh<|ztb<|zhb<|zg<|za<|e_p (zba rfl rfl)<|zh<|zd<|zg<|zVa rfl rfl<|zw<|zd<|zg<|zA<|zg<|za<|e_p (zIb (i:=2) ya ty3 rfl rfl dd rfl)<|e_p (zc rfl)<|zh<|zd<|zHa (X:=Unit) (fun x=>True) (fun x=>[(51,.bool (decide (((T.getD i (0,0,0)).2.2<0)∨(((n:Nat):Int)≤(T.getD i (0,0,0)).2.2)))),(12,.int .i64 ((T.getD i (0,0,0)).2.2)),(44,.int .i64 ((T.getD i (0,0,0)).2.2)),(43,.bool true),(42,.int .i64 2),(52,.int .i64 2),(41,.agg #[.int .i64 ((T.getD i (0,0,0)).1),.int .i64 ((T.getD i (0,0,0)).2.1),.int .i64 ((T.getD i (0,0,0)).2.2)]),(10,.pointer (some ⟨b9,0,none⟩)),(37,.int .i64 ((i:Nat):Int)),(36,.int .i64 ((nt:Nat):Int)),(35,.slice pt nt ct),(8,.map (some b4)),(7,.int .i64 (Pg.sg l)),(6,.int .i64 ((n:Nat):Int)),(0,.slice p n cap)]) (fun x=>[boxA b9 50 [.int .i64 ((T.getD i (0,0,0)).1),.int .i64 ((T.getD i (0,0,0)).2.1),.int .i64 ((T.getD i (0,0,0)).2.2)],mapA b4 (fun z:Int×Int=> .agg #[.int .i64 z.1,.int .i64 z.2]) (fun z:Bool=> .bool z) (fun z=>InK .i64 z.1∧InK .i64 z.2) sm,boxA b1 98 (rgC p n cap B2 N3 ((n:Nat):Int) (Pg.sg l))]) (fun x=>[atF b6 o7 [.int .i64 ((T.getD i (0,0,0)).1),.int .i64 ((T.getD i (0,0,0)).2.1),.int .i64 ((T.getD i (0,0,0)).2.2)],slF (rI2 .i64) p cap l,slF (rI3 .i64) pt ct T]) ?_ ?_
        ·
         refine za<|e_mv rfl<|e_p (zba rfl rfl)<|zV rfl rfl (zW rfl) (fun h12=> ?_) (fun h12=> ?_)
         ·
          refine e_no<|e_no<|e_no<|e_p (zn rfl rfl)<|zh ?_
          exact zga () (show True from by first|trivial|omega|simp_all) ((.e rfl (congrArg Value.bool cbu) (.of rfl)):SubM _ _) (ho:=((.of [0,0,0] rfl):PickO _ _ _)) ((.of [0,1,2] rfl):SelR _ _ _)
         ·
          refine e_mv rfl<|e_mv rfl<|e_p (zBa rfl rfl)<|e_p (zn rfl rfl)<|zh ?_
          exact zga () (show True from by first|trivial|omega|simp_all) ((.e rfl (congrArg Value.bool cbu) (.of rfl)):SubM _ _) (ho:=((.of [0,0,0] rfl):PickO _ _ _)) ((.of [0,1,2] rfl):SelR _ _ _)
        ·
         rintro ⟨⟩ -
         try dsimp only
         refine zG rfl (fun hr=> ?_) (fun hr=> ?_)
         ·
          have hr2:=hr
          refine zg<|za<|e_p (zc rfl)<|zh<|zd<|zI<|zp<|zi<|zi<|zp<|zi<|zp<|zi<|zi<|zp<|zi ?_
          exact zu yj () trivial (zk rfl) (by rw [Pg.ce_no hz (fun h=>by have h9:=(((Pg.acP_n hnt).1 h).2.1 i om).1;unfold Pg.inT at h9;omega)]) (ho:=(.n:PickO _ _ _)) (.n:SelR _ _ _)
         ·
          have hr2:=hr
          refine zw<|zO<|zd<|za<|e_p (zK (z:=3) rfl rfl (w64 dd))<|e_mv rfl<|zh<|ztb<|zhb<|zg<|za<|e_p (zba rfl rfl)<|zh<|zd<|zg<|zPa rfl rfl<|zna<|zj<|zj<|zy<|zd<|zg<|zg ?_
          have hin:Pg.inT n (T.getD i (0,0,0)):=⟨by omega,by omega,by omega⟩
          obtain ⟨hin1,hin2,hin3⟩:=id hin
          have hq0:Pg.inR (l.getD (((T.getD i (0,0,0)).1).toNat) (0,0)):=Pg.Ok.gt hrng om
          have hq1:Pg.inR (l.getD (((T.getD i (0,0,0)).2.1).toNat) (0,0)):=Pg.Ok.gt hrng om
          have hq2:Pg.inR (l.getD (((T.getD i (0,0,0)).2.2).toNat) (0,0)):=Pg.Ok.gt hrng om
          have hsg:=Pg.s_mul (z:=Pg.crs ((l.getD (((T.getD i (0,0,0)).1).toNat) (0,0)).1,(l.getD (((T.getD i (0,0,0)).1).toNat) (0,0)).2) ((l.getD (((T.getD i (0,0,0)).2.1).toNat) (0,0)).1,(l.getD (((T.getD i (0,0,0)).2.1).toNat) (0,0)).2) ((l.getD (((T.getD i (0,0,0)).2.2).toNat) (0,0)).1,(l.getD (((T.getD i (0,0,0)).2.2).toNat) (0,0)).2)) hsr
          refine zY (OW:=[]) (O:=[boxA b9 50 [.int .i64 ((T.getD i (0,0,0)).1),.int .i64 ((T.getD i (0,0,0)).2.1),.int .i64 ((T.getD i (0,0,0)).2.2)],mapA b4 (fun z:Int×Int=> .agg #[.int .i64 z.1,.int .i64 z.2]) (fun z:Bool=> .bool z) (fun z=>InK .i64 z.1∧InK .i64 z.2) sm,boxA b1 98 (rgC p n cap B2 N3 ((n:Nat):Int) (Pg.sg l))]) 100000 mixed (.then (.then (.block (.then (.then (.block (.then .ret))))))) kr<|e_dm 0 rfl rfl rfl<|e_dm 1 rfl rfl rfl<|e_pv 2 rfl rfl (zT (i:=0) ya sz3 rfl rfl dd rfl)<|e_u 3 rfl rfl (ze 0 ty3 rfl rfl rfl)<|zca (x0:=(l.getD (((T.getD i (0,0,0)).1).toNat) (0,0))) 4 rfl rfl kr kr 1 (((T.getD i (0,0,0)).1).toNat) rfl ye sz30 rfl rfl rfl cbs rfl om (gD (d:=(0,0)) om) (fun b13 o14 hok15=> ?_)
          obtain ⟨hok15x,hok15y⟩:=hok15
          replace hok15x:=zD.1 hok15x
          replace hok15y:=zD.1 hok15y
          refine e_u 5 rfl rfl (zJ (j:=0) 0 ty30 rfl rfl rfl (.t2 .nil))<|e_dm 6 rfl rfl rfl<|e_pv 7 rfl rfl (zT (i:=1) ya sz3 rfl rfl dd rfl)<|e_u 8 rfl rfl (ze 0 ty3 rfl rfl rfl)<|zca (x0:=(l.getD (((T.getD i (0,0,0)).2.1).toNat) (0,0))) 9 rfl rfl kr kr 2 (((T.getD i (0,0,0)).2.1).toNat) rfl ye sz30 rfl rfl rfl cbs rfl om (gD (d:=(0,0)) om) (fun b16 o17 hok18=> ?_)
          obtain ⟨hok18x,hok18y⟩:=hok18
          replace hok18x:=zD.1 hok18x
          replace hok18y:=zD.1 hok18y
          refine e_u 10 rfl rfl (zJ (j:=0) 0 ty30 rfl rfl rfl (.t2 .nil))<|e_dm 11 rfl rfl rfl<|e_pv 12 rfl rfl (zT (i:=2) ya sz3 rfl rfl dd rfl)<|e_u 13 rfl rfl (ze 0 ty3 rfl rfl rfl)<|zca (x0:=(l.getD (((T.getD i (0,0,0)).2.2).toNat) (0,0))) 14 rfl rfl kr kr 3 (((T.getD i (0,0,0)).2.2).toNat) rfl ye sz30 rfl rfl rfl cbs rfl om (gD (d:=(0,0)) om) (fun b19 o20 hok21=> ?_)
          obtain ⟨hok21x,hok21y⟩:=hok21
          replace hok21x:=zD.1 hok21x
          replace hok21y:=zD.1 hok21y
          refine e_u 15 rfl rfl (zJ (j:=0) 0 ty30 rfl rfl rfl (.t2 .nil))<|e_one 16 (zGa rfl rfl rfl rfl (.c rfl (.c rfl (.c rfl .n))) ce54 (zWa (ex:=(l.getD (((T.getD i (0,0,0)).1).toNat) (0,0)).1) (ey:=(l.getD (((T.getD i (0,0,0)).1).toNat) (0,0)).2) (fx:=(l.getD (((T.getD i (0,0,0)).2.1).toNat) (0,0)).1) (fy:=(l.getD (((T.getD i (0,0,0)).2.1).toNat) (0,0)).2) (gx:=(l.getD (((T.getD i (0,0,0)).2.2).toNat) (0,0)).1) (gy:=(l.getD (((T.getD i (0,0,0)).2.2).toNat) (0,0)).2) (hre:=cbo) (hrf:=cbo) (hrg:=cbo)) (.n) ?_)
          refine e_pv 17 rfl rfl (zFa (z:=((Pg.sg l)*(Pg.crs (((l.getD (((T.getD i (0,0,0)).1).toNat) (0,0)).1),((l.getD (((T.getD i (0,0,0)).1).toNat) (0,0)).2)) (((l.getD (((T.getD i (0,0,0)).2.1).toNat) (0,0)).1),((l.getD (((T.getD i (0,0,0)).2.1).toNat) (0,0)).2)) (((l.getD (((T.getD i (0,0,0)).2.2).toNat) (0,0)).1),((l.getD (((T.getD i (0,0,0)).2.2).toNat) (0,0)).2))).sign)) rfl rfl (w64 om))<|e_pv 18 rfl rfl (zKa rfl rfl)<|zU kr<|zd<|zG rfl (fun hs=> ?_) (fun hs=> ?_)
          ·
           refine zg<|za<|e_p (zc rfl)<|zh<|zd<|zI<|zi<|zp<|zi<|zi<|zp<|zi ?_
           exact zu yj () trivial (zk rfl) (by rw [Pg.ce_no hz (fun h=>by have h9:0<Pg.sg l*(Pg.crs ((l.getD (((T.getD i (0,0,0)).1).toNat) (0,0)).1,(l.getD (((T.getD i (0,0,0)).1).toNat) (0,0)).2) ((l.getD (((T.getD i (0,0,0)).2.1).toNat) (0,0)).1,(l.getD (((T.getD i (0,0,0)).2.1).toNat) (0,0)).2) ((l.getD (((T.getD i (0,0,0)).2.2).toNat) (0,0)).1,(l.getD (((T.getD i (0,0,0)).2.2).toNat) (0,0)).2)).sign:=(((Pg.acP_n hnt).1 h).2.1 i om).2;omega)]) (ho:=(.n:PickO _ _ _)) (.n:SelR _ _ _)
          ·
           have hs0:=hsm
           have hn0:=hnd
           refine zw<|zd<|zg<|za<|e_mv rfl<|zh<|zd<|zA<|zWd<|zhb<|zg<|za<|e_p (zba rfl rfl)<|zh<|zd<|zg<|zVa rfl rfl<|zw<|zd<|zg<|zA<|zg<|za<|e_mv rfl<|e_p (zc rfl)<|zh<|zd<|zg<|zY (OW:=[]) (O:=[boxA b9 50 [.int .i64 ((T.getD i (0,0,0)).1),.int .i64 ((T.getD i (0,0,0)).2.1),.int .i64 ((T.getD i (0,0,0)).2.2)],mapA b4 (fun z:Int×Int=> .agg #[.int .i64 z.1,.int .i64 z.2]) (fun z:Bool=> .bool z) (fun z=>InK .i64 z.1∧InK .i64 z.2) sm,boxA b1 98 (rgC p n cap B2 N3 ((n:Nat):Int) (Pg.sg l))]) 10 mixed (.then (.block (.then (.then (.block (.block (.then (.then (.block (.then .ret)))))))))) kr<|e_dm 0 rfl rfl rfl<|e_pv 1 rfl rfl (zT (i:=0) ya sz3 rfl rfl dd rfl)<|e_u 2 rfl rfl (ze 0 ty3 rfl rfl rfl)<|e_dm 3 rfl rfl rfl<|e_pv 4 rfl rfl (zK (z:=1) rfl rfl (w64 dd))<|e_pv 5 rfl rfl (zxa (z:=1) rfl rfl dd dd)<|e_pv 6 rfl rfl (zT (i:=1) ya sz3 rfl rfl dd rfl)<|e_u 7 rfl rfl (ze 0 ty3 rfl rfl rfl)<|e_pv 8 rfl rfl (zta zr103 rfl yh sz3 (.c rfl (.c rfl .n)) (.c rfl rfl rfl (.take .nil) (.c rfl rfl rfl (.skip (.take .nil)) .n)))<|e_one 9 (zma rfl rfl rfl rfl (zo zr103 rfl) (fun b22 _=> ?_))
           refine e_one 10 (zq kr rfl rfl rfl rfl rfl sz103 rfl (.t2 .nil) ?_)
           refine zU kr<|zd<|zg<|zg<|za<|e_mv rfl<|e_ru (zb 0 ty103 rfl rfl (.t2 .nil))<|e_ru (zpc (z:=false) (a0:=((T.getD i (0,0,0)).1,(T.getD i (0,0,0)).2.1)) (v:= .bool ((mget sm ((T.getD i (0,0,0)).1,(T.getD i (0,0,0)).2.1)).getD false)) 2 rfl ky103 yi zr4 rfl rfl (⟨zD.2 om,zD.2 om⟩) rfl)<|zh<|zd<|zXa rfl (fun hseen=> ?_) (fun hseen=> ?_)
           ·
            have hfin:¬Pg.acP n l T:=fun h=>Pg.dup_no (A:=Pg.eds (T.take i)) (B:=((T.getD i (0,0,0)).2.1,(T.getD i (0,0,0)).2.2) :: ((T.getD i (0,0,0)).2.2,(T.getD i (0,0,0)).1) :: Pg.eds (T.drop (i+1))) (e:=((T.getD i (0,0,0)).1,(T.getD i (0,0,0)).2.1)) (by rw [Pg.eds_cut (i:=i) om];first|done|simp) (hs0.yes hseen) ((Pg.acP_n hnt).1 h).2.2.1
            refine zg<|za<|e_p (zc rfl)<|zh<|zd<|zI<|zi<|zp<|zi<|zi<|zp<|zp<|zi<|zi<|zp<|zi ?_
            exact zu yj () trivial (zk rfl) (by rw [Pg.ce_no hz hfin]) (ho:=(.n:PickO _ _ _)) (.n:SelR _ _ _)
           ·
            have hn1:=Pg.nd_snoc (e:=((T.getD i (0,0,0)).1,(T.getD i (0,0,0)).2.1)) hn0 (hs0.no hseen)
            have hs1:=hs0.step ((T.getD i (0,0,0)).1,(T.getD i (0,0,0)).2.1)
            refine zw<|zd<|za<|e_mv rfl<|e_ru (zb 0 ty103 rfl rfl (.t2 .nil))<|zJa 2 rfl rfl rfl (zLc (a0:=((T.getD i (0,0,0)).1,(T.getD i (0,0,0)).2.1)) (v:=true) ky103 yi rfl rfl rfl (⟨zD.2 om,zD.2 om⟩)) (fun _=>(.s (.s .z))) (fun _ _=> ?_)
            refine zh<|zO<|zd<|za<|e_p (zK (z:=1) rfl rfl (w64 dd))<|e_mv rfl<|zh<|ztb<|zhb<|zg<|za<|e_p (zba rfl rfl)<|zh<|zd<|zg<|zVa rfl rfl<|zw<|zd<|zg<|zA<|zg<|za<|e_mv rfl<|e_p (zc rfl)<|zh<|zd<|zg<|zY (OW:=[]) (O:=[boxA b22 103 [.int .i64 ((T.getD i (0,0,0)).1),.int .i64 ((T.getD i (0,0,0)).2.1)],boxA b9 50 [.int .i64 ((T.getD i (0,0,0)).1),.int .i64 ((T.getD i (0,0,0)).2.1),.int .i64 ((T.getD i (0,0,0)).2.2)],mapA b4 (fun z:Int×Int=> .agg #[.int .i64 z.1,.int .i64 z.2]) (fun z:Bool=> .bool z) (fun z=>InK .i64 z.1∧InK .i64 z.2) (mput sm ((T.getD i (0,0,0)).1,(T.getD i (0,0,0)).2.1) true),boxA b1 98 (rgC p n cap B2 N3 ((n:Nat):Int) (Pg.sg l))]) 10 mixed (.then (.block (.then (.then (.block (.block (.then (.then (.block (.then .ret)))))))))) kr<|e_dm 0 rfl rfl rfl<|e_pv 1 rfl rfl (zT (i:=1) ya sz3 rfl rfl dd rfl)<|e_u 2 rfl rfl (ze 1 ty3 rfl rfl rfl)<|e_dm 3 rfl rfl rfl<|e_pv 4 rfl rfl (zK (z:=2) rfl rfl (w64 dd))<|e_pv 5 rfl rfl (zxa (z:=2) rfl rfl dd dd)<|e_pv 6 rfl rfl (zT (i:=2) ya sz3 rfl rfl dd rfl)<|e_u 7 rfl rfl (ze 1 ty3 rfl rfl rfl)<|e_pv 8 rfl rfl (zta zr103 rfl yh sz3 (.c rfl (.c rfl .n)) (.c rfl rfl rfl (.take .nil) (.c rfl rfl rfl (.skip (.take .nil)) .n)))<|e_one 9 (zma rfl rfl rfl rfl (zo zr103 rfl) (fun b23 _=> ?_))
            refine e_one 10 (zq kr rfl rfl rfl rfl rfl sz103 rfl (.t2 .nil) ?_)
            refine zU kr<|zd<|zg<|zg<|za<|e_mv rfl<|e_ru (zb 0 ty103 rfl rfl (.t2 .nil))<|e_ru (zpc (z:=false) (a0:=((T.getD i (0,0,0)).2.1,(T.getD i (0,0,0)).2.2)) (v:= .bool ((mget (mput sm ((T.getD i (0,0,0)).1,(T.getD i (0,0,0)).2.1) true) ((T.getD i (0,0,0)).2.1,(T.getD i (0,0,0)).2.2)).getD false)) 3 rfl ky103 yi zr4 rfl rfl (⟨zD.2 om,zD.2 om⟩) rfl)<|zh<|zd<|zXa rfl (fun hseen=> ?_) (fun hseen=> ?_)
            ·
             have hfin:¬Pg.acP n l T:=fun h=>Pg.dup_no (A:=(Pg.eds (T.take i)++[((T.getD i (0,0,0)).1,(T.getD i (0,0,0)).2.1)])) (B:=((T.getD i (0,0,0)).2.2,(T.getD i (0,0,0)).1) :: Pg.eds (T.drop (i+1))) (e:=((T.getD i (0,0,0)).2.1,(T.getD i (0,0,0)).2.2)) (by rw [Pg.eds_cut (i:=i) om];first|done|simp) (hs1.yes hseen) ((Pg.acP_n hnt).1 h).2.2.1
             refine zg<|za<|e_p (zc rfl)<|zh<|zd<|zI<|zi<|zp<|zi<|zi<|zp<|zp<|zi<|zi<|zp<|zi ?_
             exact zu yj () trivial (zk rfl) (by rw [Pg.ce_no hz hfin]) (ho:=(.n:PickO _ _ _)) (.n:SelR _ _ _)
            ·
             have hn2:=Pg.nd_snoc (e:=((T.getD i (0,0,0)).2.1,(T.getD i (0,0,0)).2.2)) hn1 (hs1.no hseen)
             have hs2:=hs1.step ((T.getD i (0,0,0)).2.1,(T.getD i (0,0,0)).2.2)
             refine zw<|zd<|za<|e_mv rfl<|e_ru (zb 0 ty103 rfl rfl (.t2 .nil))<|zJa 3 rfl rfl rfl (zLc (a0:=((T.getD i (0,0,0)).2.1,(T.getD i (0,0,0)).2.2)) (v:=true) ky103 yi rfl rfl rfl (⟨zD.2 om,zD.2 om⟩)) (fun _=>(.s (.s (.s .z)))) (fun _ _=> ?_)
             refine zh<|zO<|zd<|za<|e_p (zK (z:=2) rfl rfl (w64 dd))<|e_mv rfl<|zh<|ztb<|zhb<|zg<|za<|e_p (zba rfl rfl)<|zh<|zd<|zg<|zVa rfl rfl<|zw<|zd<|zg<|zA<|zg<|za<|e_mv rfl<|e_p (zc rfl)<|zh<|zd<|zg<|zY (OW:=[]) (O:=[boxA b23 103 [.int .i64 ((T.getD i (0,0,0)).2.1),.int .i64 ((T.getD i (0,0,0)).2.2)],boxA b22 103 [.int .i64 ((T.getD i (0,0,0)).1),.int .i64 ((T.getD i (0,0,0)).2.1)],boxA b9 50 [.int .i64 ((T.getD i (0,0,0)).1),.int .i64 ((T.getD i (0,0,0)).2.1),.int .i64 ((T.getD i (0,0,0)).2.2)],mapA b4 (fun z:Int×Int=> .agg #[.int .i64 z.1,.int .i64 z.2]) (fun z:Bool=> .bool z) (fun z=>InK .i64 z.1∧InK .i64 z.2) (mput (mput sm ((T.getD i (0,0,0)).1,(T.getD i (0,0,0)).2.1) true) ((T.getD i (0,0,0)).2.1,(T.getD i (0,0,0)).2.2) true),boxA b1 98 (rgC p n cap B2 N3 ((n:Nat):Int) (Pg.sg l))]) 10 mixed (.then (.block (.then (.then (.block (.block (.then (.then (.block (.then .ret)))))))))) kr<|e_dm 0 rfl rfl rfl<|e_pv 1 rfl rfl (zT (i:=2) ya sz3 rfl rfl dd rfl)<|e_u 2 rfl rfl (ze 2 ty3 rfl rfl rfl)<|e_dm 3 rfl rfl rfl<|e_pv 4 rfl rfl (zK (z:=3) rfl rfl (w64 dd))<|e_pv 5 rfl rfl (zxa (z:=0) rfl rfl dd dd)<|e_pv 6 rfl rfl (zT (i:=0) ya sz3 rfl rfl dd rfl)<|e_u 7 rfl rfl (ze 2 ty3 rfl rfl rfl)<|e_pv 8 rfl rfl (zta zr103 rfl yh sz3 (.c rfl (.c rfl .n)) (.c rfl rfl rfl (.take .nil) (.c rfl rfl rfl (.skip (.take .nil)) .n)))<|e_one 9 (zma rfl rfl rfl rfl (zo zr103 rfl) (fun b24 _=> ?_))
             refine e_one 10 (zq kr rfl rfl rfl rfl rfl sz103 rfl (.t2 .nil) ?_)
             refine zU kr<|zd<|zg<|zg<|za<|e_mv rfl<|e_ru (zb 0 ty103 rfl rfl (.t2 .nil))<|e_ru (zpc (z:=false) (a0:=((T.getD i (0,0,0)).2.2,(T.getD i (0,0,0)).1)) (v:= .bool ((mget (mput (mput sm ((T.getD i (0,0,0)).1,(T.getD i (0,0,0)).2.1) true) ((T.getD i (0,0,0)).2.1,(T.getD i (0,0,0)).2.2) true) ((T.getD i (0,0,0)).2.2,(T.getD i (0,0,0)).1)).getD false)) 4 rfl ky103 yi zr4 rfl rfl (⟨zD.2 om,zD.2 om⟩) rfl)<|zh<|zd<|zXa rfl (fun hseen=> ?_) (fun hseen=> ?_)
             ·
              have hfin:¬Pg.acP n l T:=fun h=>Pg.dup_no (A:=((Pg.eds (T.take i)++[((T.getD i (0,0,0)).1,(T.getD i (0,0,0)).2.1)])++[((T.getD i (0,0,0)).2.1,(T.getD i (0,0,0)).2.2)])) (B:=Pg.eds (T.drop (i+1))) (e:=((T.getD i (0,0,0)).2.2,(T.getD i (0,0,0)).1)) (by rw [Pg.eds_cut (i:=i) om];first|done|simp) (hs2.yes hseen) ((Pg.acP_n hnt).1 h).2.2.1
              refine zg<|za<|e_p (zc rfl)<|zh<|zd<|zI<|zi<|zp<|zi<|zi<|zp<|zp<|zi<|zi<|zp<|zi ?_
              exact zu yj () trivial (zk rfl) (by rw [Pg.ce_no hz hfin]) (ho:=(.n:PickO _ _ _)) (.n:SelR _ _ _)
             ·
              have hn3:=Pg.nd_snoc (e:=((T.getD i (0,0,0)).2.2,(T.getD i (0,0,0)).1)) hn2 (hs2.no hseen)
              have hs3:=hs2.step ((T.getD i (0,0,0)).2.2,(T.getD i (0,0,0)).1)
              refine zw<|zd<|za<|e_mv rfl<|e_ru (zb 0 ty103 rfl rfl (.t2 .nil))<|zJa 4 rfl rfl rfl (zLc (a0:=((T.getD i (0,0,0)).2.2,(T.getD i (0,0,0)).1)) (v:=true) ky103 yi rfl rfl rfl (⟨zD.2 om,zD.2 om⟩)) (fun _=>(.s (.s (.s (.s .z))))) (fun _ _=> ?_)
              refine zh<|zO<|zd<|za<|e_p (zK (z:=3) rfl rfl (w64 dd))<|e_mv rfl<|zh<|ztb<|zhb<|zg<|za<|e_p (zba rfl rfl)<|zh<|zd<|zg<|zPa rfl rfl<|zna<|zj<|zj<|zy<|zO<|zd<|za<|e_p (zK (z:=(((i+1):Nat):Int)) rfl rfl (w64 om))<|e_mv rfl<|zh<|zha ((i+1),mput (mput (mput sm ((T.getD i (0,0,0)).1,(T.getD i (0,0,0)).2.1) true) ((T.getD i (0,0,0)).2.1,(T.getD i (0,0,0)).2.2) true) ((T.getD i (0,0,0)).2.2,(T.getD i (0,0,0)).1) true) (show (i+1)≤nt∧(∀j,j<(i+1)→Pg.okP n l (T.getD j (0,0,0)))∧Pg.Sn (mput (mput (mput sm ((T.getD i (0,0,0)).1,(T.getD i (0,0,0)).2.1) true) ((T.getD i (0,0,0)).2.1,(T.getD i (0,0,0)).2.2) true) ((T.getD i (0,0,0)).2.2,(T.getD i (0,0,0)).1) true) (Pg.eds (T.take (i+1)))∧(Pg.eds (T.take (i+1))).Nodup from by exact ⟨by omega,Ms.all_lt_succ hall ⟨hin,by show 0<Pg.sg l*(Pg.crs ((l.getD (((T.getD i (0,0,0)).1).toNat) (0,0)).1,(l.getD (((T.getD i (0,0,0)).1).toNat) (0,0)).2) ((l.getD (((T.getD i (0,0,0)).2.1).toNat) (0,0)).1,(l.getD (((T.getD i (0,0,0)).2.1).toNat) (0,0)).2) ((l.getD (((T.getD i (0,0,0)).2.2).toNat) (0,0)).1,(l.getD (((T.getD i (0,0,0)).2.2).toNat) (0,0)).2)).sign;omega⟩,by rw [Pg.eds_take om];exact hs3,by rw [Pg.eds_take om];exact hn3⟩) (by show nt - (i+1)<nt - i;omega) ((.of rfl):SubM _ _) (ho:=((.of [4,4] rfl):PickO _ _ _)) ((.of [4,5] rfl):SelR _ _ _)
   ·
    have hallN:∀j,j<nt→Pg.okP n l (T.getD j (0,0,0)):=fun j hj=>hall j om
    have hsmN:Pg.Sn sm (Pg.eds T):=by have h9:=hsm;rwa [List.take_of_length_le om] at h9
    have hndN:(Pg.eds T).Nodup:=by have h9:=hnd;rwa [List.take_of_length_le om] at h9
    refine zna<|zj<|zj<|zy<|zd<|zg<|zg<|za<|e_mv rfl<|zJa 0 rfl rfl rfl (zHf yi rfl) (fun _=> .z) (fun it25 _=> ?_)
    refine zh<|zd<|zA<|zpa (X:=(List (Pg.E2×Bool))) (fun x:(List (Pg.E2×Bool))=>Pg.MV n T sm x) (fun x=>[(92,.pointer (some ⟨it25,0,none⟩)),(8,.map (some b4)),(6,.int .i64 ((n:Nat):Int)),(0,.slice p n cap)]) (fun x=>[itA b4 it25 (fun z:Int×Int=> .agg #[.int .i64 z.1,.int .i64 z.2]) (fun z:Bool=> .bool z) (fun z=>InK .i64 z.1∧InK .i64 z.2) sm x,boxA b1 98 (rgC p n cap B2 N3 ((n:Nat):Int) (Pg.sg l))]) (fun x=>[slF (rI2 .i64) p cap l,slF (rI3 .i64) pt ct T]) (fun x:(List (Pg.E2×Bool))=>sm.length - x.length) ([]:List (Pg.E2×Bool)) (show Pg.MV n T sm ([]:List (Pg.E2×Bool)) from by exact Pg.MV.nil) ((.of rfl):SubM _ _) (ho:=((.e (i:=0) rfl (by first|rfl|(congr 1;omega)|simp_all) (.c (i:=0) rfl .n)):PickO _ _ _)) ((.of [0,1] rfl):SelR _ _ _) ?_
    rintro vis hJ
    replace hJ:Pg.MV n T sm vis:=hJ
    try dsimp only
    refine zg<|za<|r_next 0 rfl rfl rfl rfl (fun _=> .z) (fun e hem hen=> ?_) (fun hperm=> ?_)
    ·
     have he9:=hsmN.mem e hem
     have her:=Pg.eds_rng hnt hallN he9
     refine e_p (zt rfl rfl)<|zh<|zd<|zg<|zVa rfl rfl<|zw<|zd<|zA<|zg<|za<|e_ru (zIf (p:=e) 0 rfl rfl)<|e_p (zt rfl rfl)<|zM rfl rfl (zo zr103 rfl) (fun b26=> ?_)
     refine zm 0 rfl rfl rfl rfl rfl sz103 rfl (.t2 .nil) .z<|zh<|zd<|zHa (X:=Unit) (fun x=>True) (fun x=>[(114,.bool (decide ((e.1.2≠((e.1.1+1)%((n:Nat):Int)))∧((!((mget sm (e.1.2,e.1.1)).getD false))=true)))),(92,.pointer (some ⟨it25,0,none⟩)),(8,.map (some b4)),(6,.int .i64 ((n:Nat):Int)),(0,.slice p n cap)]) (fun x=>[boxA b26 103 [.int .i64 (e.1.1),.int .i64 (e.1.2)],itA b4 it25 (fun z:Int×Int=> .agg #[.int .i64 z.1,.int .i64 z.2]) (fun z:Bool=> .bool z) (fun z=>InK .i64 z.1∧InK .i64 z.2) sm (vis++[e]),boxA b1 98 (rgC p n cap B2 N3 ((n:Nat):Int) (Pg.sg l))]) (fun x=>[slF (rI2 .i64) p cap l,slF (rI3 .i64) pt ct T]) ?_ ?_
     ·
      refine zY (OW:=[]) (O:=[boxA b26 103 [.int .i64 (e.1.1),.int .i64 (e.1.2)],itA b4 it25 (fun z:Int×Int=> .agg #[.int .i64 z.1,.int .i64 z.2]) (fun z:Bool=> .bool z) (fun z=>InK .i64 z.1∧InK .i64 z.2) sm (vis++[e]),boxA b1 98 (rgC p n cap B2 N3 ((n:Nat):Int) (Pg.sg l))]) 100000 mixed (.then (.block (.then (.block (.then .ret))))) kr<|e_pv 0 rfl rfl (zT (i:=1) yh sz3 rfl rfl dd rfl)<|e_u 1 rfl rfl (ze 0 ty3 rfl rfl rfl)<|e_pv 2 rfl rfl (zT (i:=0) yh sz3 rfl rfl dd rfl)<|e_u 3 rfl rfl (ze 0 ty3 rfl rfl rfl)<|e_pv 4 rfl rfl (zK (z:=(e.1.1+1)) rfl rfl (w64 om))<|e_dm 5 rfl rfl rfl<|e_pv 6 rfl rfl (zxa (z:=((e.1.1+1)%((n:Nat):Int))) rfl rfl om (remN om om))<|e_pv 7 rfl rfl (zdb rfl rfl)<|zPb 8 rfl rfl kr kr rfl rfl (zW rfl) (fun h27=> ?_) (fun h27=> ?_)
      ·
       refine e_dm 9 rfl rfl rfl<|e_pv 10 rfl rfl (zT (i:=1) yh sz3 rfl rfl dd rfl)<|e_u 11 rfl rfl (ze 0 ty3 rfl rfl rfl)<|e_pv 12 rfl rfl (zT (i:=0) yh sz3 rfl rfl dd rfl)<|e_u 13 rfl rfl (ze 0 ty3 rfl rfl rfl)<|e_pv 14 rfl rfl (zta zr103 rfl yh sz3 (.c rfl (.c rfl .n)) (.c rfl rfl rfl (.take .nil) (.c rfl rfl rfl (.skip (.take .nil)) .n)))<|e_u 15 rfl rfl (zec (z:=false) (a0:=(e.1.2,e.1.1)) (v:= .bool ((mget sm (e.1.2,e.1.1)).getD false)) 1 rfl ky103 yi zr4 rfl rfl (⟨zD.2 om,zD.2 om⟩) rfl)<|e_pv 16 rfl rfl (zEb rfl)<|e_pv 17 rfl rfl (zn rfl rfl)<|zU kr ?_
       exact zga () (show True from by first|trivial|omega|simp_all) ((.e rfl (congrArg Value.bool cbu) (.of rfl)):SubM _ _) (ho:=((.of [0,0,0] rfl):PickO _ _ _)) ((.of [0,1] rfl):SelR _ _ _)
      ·
       refine e_skip 9 rfl rfl<|e_skip 10 rfl rfl<|e_skip 11 rfl rfl<|e_skip 12 rfl rfl<|e_skip 13 rfl rfl<|e_skip 14 rfl rfl<|e_skip 15 rfl rfl<|e_skip 16 rfl rfl<|e_pv 17 rfl rfl (zn rfl rfl)<|zU kr ?_
       exact zga () (show True from by first|trivial|omega|simp_all) ((.e rfl (congrArg Value.bool cbu) (.of rfl)):SubM _ _) (ho:=((.of [0,0,0] rfl):PickO _ _ _)) ((.of [0,1] rfl):SelR _ _ _)
     ·
      rintro ⟨⟩ -
      try dsimp only
      refine zG rfl (fun hx=> ?_) (fun hx=> ?_)
      ·
       refine zg<|za<|e_p (zc rfl)<|zh<|zd<|zI<|zp<|zi<|zp<|zi ?_
       exact zu yj () trivial (zk rfl) (by rw [Pg.ce_no hz (fun h=>hsmN.no (by simpa using hx.2) (((Pg.acP_n hnt).1 h).2.2.2.1 e.1 he9 hx.1))]) (ho:=(.n:PickO _ _ _)) (.n:SelR _ _ _)
      ·
       refine zw<|zO<|zha (vis++[e]) (show Pg.MV n T sm (vis++[e]) from by exact hJ.step hem hen (Pg.MV.test hsmN hx)) (by exact hJ.mu hem hen) ((.of rfl):SubM _ _) (ho:=((.of [1,1] rfl):PickO _ _ _)) ((.of [0,1] rfl):SelR _ _ _)
    ·
     have hrevN:=hJ.fin hsmN hperm
     refine e_p (zt rfl rfl)<|zh<|zd<|zg<|zPa rfl rfl<|zna<|zj<|zj<|zy<|zd<|zg<|zg<|za<|e_mv rfl<|e_p (zN ye rfl)<|e_mv rfl<|zh<|zd<|zA<|zpa (X:=Nat) (fun x:Nat=>x≤n∧∀j:Nat,j<x→((j:Int),(((j+1)%n:Nat):Int))∈Pg.eds T) (fun x=>[(117,.int .i64 ((x:Nat):Int)),(116,.int .i64 ((n:Nat):Int)),(8,.map (some b4)),(6,.int .i64 ((n:Nat):Int))]) (fun x=>[itA b4 it25 (fun z:Int×Int=> .agg #[.int .i64 z.1,.int .i64 z.2]) (fun z:Bool=> .bool z) (fun z=>InK .i64 z.1∧InK .i64 z.2) sm vis,boxA b1 98 (rgC p n cap B2 N3 ((n:Nat):Int) (Pg.sg l))]) (fun x=>[slF (rI2 .i64) p cap l,slF (rI3 .i64) pt ct T]) (fun x:Nat=>n - x) 0 (show 0≤n∧∀j:Nat,j<0→((j:Int),(((j+1)%n:Nat):Int))∈Pg.eds T from by exact ⟨Nat.zero_le _,fun j h=>by omega⟩) ((.e rfl (by first|rfl|(congr 1;omega)|simp_all) (.of rfl)):SubM _ _) (ho:=((.of [0,0] rfl):PickO _ _ _)) ((.of [0,1] rfl):SelR _ _ _) ?_
     rintro k hK
     replace hK:k≤n∧∀j:Nat,j<k→((j:Int),(((j+1)%n:Nat):Int))∈Pg.eds T:=hK
     try dsimp only
     obtain ⟨hk,hall5⟩:=hK
     refine zg<|za<|e_p (zba rfl rfl)<|zh<|zd<|zg<|zG rfl (fun h28=> ?_) (fun h28=> ?_)
     ·
      refine zw<|zd<|zg<|zA<|zg<|za<|e_mv rfl<|e_p (zc rfl)<|zh<|zd<|zg<|za ?_
      have hmd:=Nat.mod_lt (k+1) (show 0<n by omega)
      refine e_mv rfl<|e_mv rfl<|e_mv rfl<|e_p (zK (z:=(((k+1):Nat):Int)) rfl rfl (w64 om))<|e_mv rfl<|e_p (zxa (z:=((((k+1)%n):Nat):Int)) rfl rfl om (remN om om))<|e_p (zta zr103 rfl yh sz3 (.c rfl (.c rfl .n)) (.c rfl rfl rfl (.take .nil) (.c rfl rfl rfl (.skip (.take .nil)) .n)))<|e_ru (zec (z:=false) (a0:=(((k:Nat):Int),((((k+1)%n):Nat):Int))) (v:= .bool ((mget sm (((k:Nat):Int),((((k+1)%n):Nat):Int))).getD false)) 0 rfl ky103 yi zr4 rfl rfl (⟨zD.2 om,zD.2 om⟩) rfl)<|e_p (zEb rfl)<|zh<|zd<|zXa rfl (fun hy=> ?_) (fun hy=> ?_)
      ·
       refine zg<|za<|e_p (zc rfl)<|zh<|zd<|zI<|zp<|zi<|zi<|zp<|zi ?_
       exact zu yj () trivial (zk rfl) (by rw [Pg.ce_no hz (fun h=>hsmN.no (by simpa using hy) (((Pg.acP_n hnt).1 h).2.2.2.2 k om))]) (ho:=(.n:PickO _ _ _)) (.n:SelR _ _ _)
      ·
       refine zw<|zO<|zd<|za<|e_p (zK (z:=(((k+1):Nat):Int)) rfl rfl (w64 om))<|e_mv rfl<|zh<|zha (k+1) (show (k+1)≤n∧∀j:Nat,j<(k+1)→((j:Int),(((j+1)%n:Nat):Int))∈Pg.eds T from by exact ⟨by omega,Ms.all_lt_succ (P:=fun j:Nat=>((j:Int),(((j+1)%n:Nat):Int))∈Pg.eds T) hall5 (hsmN.yes (by simpa using hy))⟩) (by show n - (k+1)<n - k;omega) ((.of rfl):SubM _ _) (ho:=((.of [0,0] rfl):PickO _ _ _)) ((.of [0,1] rfl):SelR _ _ _)
     ·
      refine zna<|zj<|zj<|zy<|zd<|zg<|za<|e_p (zc rfl)<|zh<|zd<|zI ?_
      exact zu yj () trivial (zk rfl) (by rw [Pg.ce_yes hz ((Pg.acP_n hnt).2 ⟨by omega,hallN,hndN,hrevN,fun j hj=>hall5 j om⟩)]) (ho:=(.n:PickO _ _ _)) (.n:SelR _ _ _)
end Go.Proofs.YtjcpbhlijoigfaaGreat.Sp
namespace Go.Proofs.YtjcpbhlijoigfaaGreat.Sp
open Go
set_option linter.unusedVariables false
section
variable {P : Program} {n : Sz} {m : Fm} {d : Option Tmp} {ty : TypeId} {ps : String} {af : Array Edge} {gd : Option (Nat × Bool)}
theorem zwg {x y z:Operand} {ats:Array TypeId} {k:IntKind} {a b c:Int} (h1:evo m x=some (.int k a)) (h2:evo m y=some (.int k b)) (h3:evo m z=some (.int k c)):PV P n ⟨d,.call ⟨.builtin .max,#[x,y,z],ats⟩,ty,ps,af,gd⟩ m (.int k (max (max a b) c)):=fun ac w f=>by
  have e:∀a b:Int,(if a<b then b else a)=max a b:=fun a b=>by by_cases h:a<b <;> simp [h,Int.max_def] <;> omega
  simp [execOp,resolve,invoke,builtin,Builtin.max_,Builtin.max2,f.ev h1,f.ev h2,f.ev h3,e]
end
end Go.Proofs.YtjcpbhlijoigfaaGreat.Sp
namespace Go.Proofs.YtjcpbhlijoigfaaGreat.Sp
open Go
set_option linter.unusedVariables false
set_option maxRecDepth 100000
set_option maxHeartbeats 8000000
theorem zwc {p:Option Addr} {n:Nat} {cap:Nat} {l:List Pg.P2} {pt:Option Addr} {nt:Nat} {ct:Nat} {T:List Pg.T3} {hx:Int} {hy:Int} (hn:l.length=n) (hnt:T.length=nt) (hwhx: -9223372036854775808≤hx∧hx≤9223372036854775807) (hwhy: -9223372036854775808≤hy∧hy≤9223372036854775807):Con yf 9 [.slice p n cap,.slice pt nt ct,.agg #[.int .i64 hx,.int .i64 hy]] [] [slF (rI2 .i64) p cap l,slF (rI3 .i64) pt ct T] (Y:=Unit) (fun y=>True) (fun y=> .bool true) (fun y=>[]) (fun y=>[]):=by
 refine zl Tryz.func9 rfl rfl rfl (fun c=> ?_)
 show RunC _ _ _ _ _ [(0,.slice p n cap),(1,.slice pt nt ct),(2,.agg #[.int .i64 hx,.int .i64 hy])] [] [slF (rI2 .i64) p cap l,slF (rI3 .i64) pt ct T]
 refine zda 0 rfl (fun hL0=> ?_)
 refine zda 1 rfl (fun hL1=> ?_)
 refine zg<|za<|zM rfl rfl (zS rfl rfl) (fun b1=> ?_)
 refine e_p (zc rfl)<|zh<|zd<|zg<|zg<|za<|zL rfl rfl (.n) ce11 (zDf) (.n)<|e_p (zEb rfl)<|zh<|zd<|zPa rfl rfl<|zw<|zd<|zg<|zHa (X:=Bool) (fun x=>(x=false→n≤12∧nt≤14∧Pg.ceC n l T=0)) (fun x=>[(30,.bool x),(6,.bool false),(5,.pointer (some ⟨b1,0,none⟩)),(0,.slice p n cap),(1,.slice pt nt ct)]) (fun x=>[boxA b1 30 [.int .i64 hx,.int .i64 hy]]) (fun x=>[slF (rI2 .i64) p cap l,slF (rI3 .i64) pt ct T]) ?_ ?_
 ·
  refine za<|e_mv rfl<|e_p (zN ye rfl)<|e_p (zAa rfl rfl)<|zV rfl rfl (zW rfl) (fun h2=> ?_) (fun h2=> ?_)
  ·
   refine e_no<|e_no<|e_no<|e_p (zn rfl rfl)<|e_mv rfl<|e_no<|e_no<|e_no<|e_no<|e_p (zn rfl rfl)<|zh ?_
   exact zga true (show (true=false→n≤12∧nt≤14∧Pg.ceC n l T=0) from by first|(intro e;cases e;done)|(intro e;exact ⟨by omega,by omega,Decidable.not_not.1 (of_decide_eq_false e)⟩)) ((.e rfl (congrArg Value.bool cbu) (.of rfl)):SubM _ _) (ho:=((.c (i:=0) rfl .n):PickO _ _ _)) ((.of [0,1] rfl):SelR _ _ _)
  ·
   refine e_mv rfl<|e_p (zN yd rfl)<|e_p (zAa rfl rfl)<|e_p (zn rfl rfl)<|zV rfl rfl (zW rfl) (fun h3=> ?_) (fun h3=> ?_)
   ·
    refine e_no<|e_no<|e_no<|e_no<|e_p (zn rfl rfl)<|zh ?_
    exact zga true (show (true=false→n≤12∧nt≤14∧Pg.ceC n l T=0) from by first|(intro e;cases e;done)|(intro e;exact ⟨by omega,by omega,Decidable.not_not.1 (of_decide_eq_false e)⟩)) ((.e rfl (congrArg Value.bool cbu) (.of rfl)):SubM _ _) (ho:=((.c (i:=0) rfl .n):PickO _ _ _)) ((.of [0,1] rfl):SelR _ _ _)
   ·
    refine e_mv rfl<|e_mv rfl<|zL rfl rfl (.c rfl (.c rfl .n)) ce31 (zsd (p:=p) (n:=n) (cap:=cap) (l:=l) (pt:=pt) (nt:=nt) (ct:=ct) (T:=T) (hn:=ass) (hnt:=ass) (hb:=cbo)) (.c (j:=0) rfl (.c (j:=1) rfl .n))<|e_p (zdb rfl rfl)<|e_p (zn rfl rfl)<|zh ?_
    exact zga (decide ((Pg.ceC n l T)≠0)) (show ((decide ((Pg.ceC n l T)≠0))=false→n≤12∧nt≤14∧Pg.ceC n l T=0) from by first|(intro e;cases e;done)|(intro e;exact ⟨by omega,by omega,Decidable.not_not.1 (of_decide_eq_false e)⟩)) ((.of rfl):SubM _ _) (ho:=((.c (i:=0) rfl .n):PickO _ _ _)) ((.of [0,1] rfl):SelR _ _ _)
 ·
  rintro g9 hC
  replace hC:(g9=false→n≤12∧nt≤14∧Pg.ceC n l T=0):=hC
  try dsimp only
  refine zXa rfl (fun h30=> ?_) (fun h30=> ?_)
  ·
   refine zg<|za<|e_p (zc rfl)<|zh<|zd<|zI<|zi ?_
   exact zu yp () trivial (zk rfl) rfl (ho:=(.n:PickO _ _ _)) (.n:SelR _ _ _)
  ·
   obtain ⟨hb1,hb2,hce⟩:=hC (by simpa using h30)
   obtain ⟨hz,hac⟩:=Sw.ce_ok hn hce
   have hok:=Pg.ok hz
   have hrng:=hok.rng
   have hsm:Pg.Sm n l:=by have h9:=Pg.Sm.of hz;rwa [hn] at h9
   refine zw<|zd<|zg<|za<|e_mv rfl<|e_ru (zb 0 ty30 rfl rfl (.t2 .nil))<|zL rfl rfl (.c rfl (.c rfl .n)) ce17 (zsc (p:=p) (n:=n) (cap:=cap) (l:=l) (hx:=hx) (hy:=hy) (hn:=ass) (hwhx:=ass) (hwhy:=ass)) (.c (j:=0) rfl .n)<|e_mv rfl<|e_p (zt rfl rfl)<|e_p (zt rfl rfl)<|e_p (zc rfl)<|e_p (zc rfl)<|zh<|zd<|zg<|zg<|za<|e_mv rfl<|e_p (zdb rfl rfl)<|zh<|zd<|zG rfl (fun h38=> ?_) (fun h38=> ?_)
   ·
    refine zg<|za<|e_mv rfl<|e_p (zDa rfl rfl) ?_
    rw [show (decide (Pg.isC l (hx,hy)=2))=true from by exact decide_eq_true (Sw.isC2 hz h38)]
    refine e_p (zc rfl)<|zh<|zd<|zI<|zi ?_
    exact zu yp () trivial (zk rfl) rfl (ho:=(.n:PickO _ _ _)) (.n:SelR _ _ _)
   ·
    obtain ⟨hrh,hiv⟩:=Sw.is_in hz (Decidable.not_not.1 h38)
    have e4:Pg.isV l (hx,hy)=Pg.ins l (hx,hy):=by exact hiv
    rw [e4]
    have e5:Pg.isC l (hx,hy)=0:=by exact Decidable.not_not.1 h38
    rw [e5]
    have hir:=Pg.ins_rng l (hx,hy)
    refine zw<|zd<|zg<|za<|e_p (zc rfl)<|zh<|zd<|zg<|zg<|za<|e_mv rfl<|e_p (zN yd rfl)<|e_mv rfl<|zh<|zd<|zA<|zpa (X:=Nat) (fun x:Nat=>x≤nt∧∀j,j<x→¬Sw.onX l (hx,hy) (T.getD j (0,0,0))) (fun x=>[(9,.int .i64 (Sw.cL l (hx,hy) (T.take x))),(43,.int .i64 ((x:Nat):Int)),(42,.int .i64 ((nt:Nat):Int)),(41,.slice pt nt ct),(7,.int .i64 (Pg.ins l (hx,hy))),(5,.pointer (some ⟨b1,0,none⟩)),(0,.slice p n cap)]) (fun x=>[boxA b1 30 [.int .i64 hx,.int .i64 hy]]) (fun x=>[slF (rI2 .i64) p cap l,slF (rI3 .i64) pt ct T]) (fun x:Nat=>nt - x) 0 (show 0≤nt∧∀j,j<0→¬Sw.onX l (hx,hy) (T.getD j (0,0,0)) from by exact ⟨Nat.zero_le _,fun j h=>by omega⟩) ((.e rfl (by first|rfl|(congr 1;omega)|simp_all) (.e rfl (by first|rfl|(congr 1;omega)|simp_all) (.of rfl))):SubM _ _) (ho:=((.c (i:=0) rfl .n):PickO _ _ _)) ((.of [0,1] rfl):SelR _ _ _) ?_
    rintro i hI
    replace hI:i≤nt∧∀j,j<i→¬Sw.onX l (hx,hy) (T.getD j (0,0,0)):=hI
    try dsimp only
    obtain ⟨hi,hall⟩:=hI
    refine zg<|za<|e_p (zba rfl rfl)<|zh<|zd<|zg<|zG rfl (fun h6=> ?_) (fun h6=> ?_)
    ·
     obtain ⟨hin1,hin2,hin3⟩:=(hac.2.1 (T.getD i (0,0,0)) (Ms.getD_mem (0,0,0) om)).1
     have hq0:Pg.inR (l.getD (((T.getD i (0,0,0)).1).toNat) (0,0)):=Pg.Ok.gt hrng om
     have hq1:Pg.inR (l.getD (((T.getD i (0,0,0)).2.1).toNat) (0,0)):=Pg.Ok.gt hrng om
     have hq2:Pg.inR (l.getD (((T.getD i (0,0,0)).2.2).toNat) (0,0)):=Pg.Ok.gt hrng om
     have hcb:=Sw.cL_b l (hx,hy) (T.take i)
     rw [List.length_take] at hcb
     refine zw<|zd<|zg<|zA<|zg<|za<|zZ (x0:=(T.getD i (0,0,0))) 1 i rfl yd sz50 rfl rfl rfl cbs rfl rfl (gD (d:=(0,0,0)) om) (fun b7 o8 hok9=> ?_)
     obtain ⟨hok9x,hok9y,hok9z⟩:=hok9
     replace hok9x:=zD.1 hok9x
     replace hok9y:=zD.1 hok9y
     replace hok9z:=zD.1 hok9z
     refine e_ru (zJ (j:=0) 0 ty50 rfl rfl rfl (.t2 (.take .nil)))<|zM rfl rfl (zo zr50 rfl) (fun b10=> ?_)
     refine zm 0 rfl rfl rfl rfl rfl sz50 rfl (.t2 (.take .nil)) .z<|zh<|zd<|zg<|zHa (X:=Unit) (fun x=>True) (fun x=>[(66,.bool false),(11,.pointer (some ⟨b10,0,none⟩)),(9,.int .i64 (Sw.cL l (hx,hy) (T.take i))),(43,.int .i64 ((i:Nat):Int)),(42,.int .i64 ((nt:Nat):Int)),(41,.slice pt nt ct),(7,.int .i64 (Pg.ins l (hx,hy))),(5,.pointer (some ⟨b1,0,none⟩)),(0,.slice p n cap)]) (fun x=>[boxA b10 50 [.int .i64 ((T.getD i (0,0,0)).1),.int .i64 ((T.getD i (0,0,0)).2.1),.int .i64 ((T.getD i (0,0,0)).2.2)],boxA b1 30 [.int .i64 hx,.int .i64 hy]]) (fun x=>[atF b7 o8 [.int .i64 ((T.getD i (0,0,0)).1),.int .i64 ((T.getD i (0,0,0)).2.1),.int .i64 ((T.getD i (0,0,0)).2.2)],slF (rI2 .i64) p cap l,slF (rI3 .i64) pt ct T]) ?_ ?_
     ·
      refine za<|e_p (zT (i:=0) ya sz3 rfl rfl dd rfl)<|e_ru (ze 0 ty3 rfl rfl rfl)<|e_p (zT (i:=1) ya sz3 rfl rfl dd rfl)<|e_ru (ze 0 ty3 rfl rfl rfl)<|e_p (zT (i:=2) ya sz3 rfl rfl dd rfl)<|e_ru (ze 0 ty3 rfl rfl rfl)<|e_p (zmg rfl rfl rfl)<|e_p (zba rfl rfl)<|zV rfl rfl (zW rfl) (fun h11=> ?_) (fun h11=> ?_)
      ·
       refine e_no<|e_no<|e_no<|e_no<|e_no<|e_no<|e_no<|e_no<|e_no<|e_no<|e_p (zn rfl rfl)<|zh ?_
       exact zga () (show True from by first|trivial|omega|simp_all) ((.e rfl (congrArg Value.bool cbu) (.of rfl)):SubM _ _) (ho:=((.of [0,0] rfl):PickO _ _ _)) ((.of [0,1,2] rfl):SelR _ _ _)
      ·
       refine e_p (zT (i:=0) ya sz3 rfl rfl dd rfl)<|e_ru (ze 0 ty3 rfl rfl rfl)<|e_p (zT (i:=1) ya sz3 rfl rfl dd rfl)<|e_ru (ze 0 ty3 rfl rfl rfl)<|e_p (zT (i:=2) ya sz3 rfl rfl dd rfl)<|e_ru (ze 0 ty3 rfl rfl rfl)<|e_p (zwg rfl rfl rfl)<|e_mv rfl<|e_p (zN ye rfl)<|e_p (zBa rfl rfl)<|e_p (zn rfl rfl)<|zh ?_
       exact zga () (show True from by first|trivial|omega|simp_all) ((.e rfl (congrArg Value.bool cbu) (.of rfl)):SubM _ _) (ho:=((.of [0,0] rfl):PickO _ _ _)) ((.of [0,1,2] rfl):SelR _ _ _)
     ·
      rintro ⟨⟩ -
      try dsimp only
      refine zPa rfl rfl<|zw<|zd<|zg<|zY (OW:=[]) (O:=[boxA b10 50 [.int .i64 ((T.getD i (0,0,0)).1),.int .i64 ((T.getD i (0,0,0)).2.1),.int .i64 ((T.getD i (0,0,0)).2.2)],boxA b1 30 [.int .i64 hx,.int .i64 hy]]) 18 mixed (.then (.block (.then (.then (.block (.then .ret)))))) kr<|e_dm 0 rfl rfl rfl<|e_pv 1 rfl rfl (zT (i:=0) ya sz3 rfl rfl dd rfl)<|e_u 2 rfl rfl (ze 0 ty3 rfl rfl rfl)<|zca (x0:=(l.getD (((T.getD i (0,0,0)).1).toNat) (0,0))) 3 rfl rfl kr kr 1 (((T.getD i (0,0,0)).1).toNat) rfl ye sz30 rfl rfl rfl cbs rfl om (gD (d:=(0,0)) om) (fun b12 o13 hok14=> ?_)
      obtain ⟨hok14x,hok14y⟩:=hok14
      replace hok14x:=zD.1 hok14x
      replace hok14y:=zD.1 hok14y
      refine e_u 4 rfl rfl (zJ (j:=0) 0 ty30 rfl rfl rfl (.t2 .nil))<|e_dm 5 rfl rfl rfl<|e_pv 6 rfl rfl (zT (i:=1) ya sz3 rfl rfl dd rfl)<|e_u 7 rfl rfl (ze 0 ty3 rfl rfl rfl)<|zca (x0:=(l.getD (((T.getD i (0,0,0)).2.1).toNat) (0,0))) 8 rfl rfl kr kr 2 (((T.getD i (0,0,0)).2.1).toNat) rfl ye sz30 rfl rfl rfl cbs rfl om (gD (d:=(0,0)) om) (fun b15 o16 hok17=> ?_)
      obtain ⟨hok17x,hok17y⟩:=hok17
      replace hok17x:=zD.1 hok17x
      replace hok17y:=zD.1 hok17y
      refine e_u 9 rfl rfl (zJ (j:=0) 0 ty30 rfl rfl rfl (.t2 .nil))<|e_dm 10 rfl rfl rfl<|e_pv 11 rfl rfl (zT (i:=2) ya sz3 rfl rfl dd rfl)<|e_u 12 rfl rfl (ze 0 ty3 rfl rfl rfl)<|zca (x0:=(l.getD (((T.getD i (0,0,0)).2.2).toNat) (0,0))) 13 rfl rfl kr kr 3 (((T.getD i (0,0,0)).2.2).toNat) rfl ye sz30 rfl rfl rfl cbs rfl om (gD (d:=(0,0)) om) (fun b18 o19 hok20=> ?_)
      obtain ⟨hok20x,hok20y⟩:=hok20
      replace hok20x:=zD.1 hok20x
      replace hok20y:=zD.1 hok20y
      refine e_u 14 rfl rfl (zJ (j:=0) 0 ty30 rfl rfl rfl (.t2 .nil))<|zNc (m':=[(81,.agg #[.int .i64 ((l.getD (((T.getD i (0,0,0)).2.2).toNat) (0,0)).1),.int .i64 ((l.getD (((T.getD i (0,0,0)).2.2).toNat) (0,0)).2)]),(76,.agg #[.int .i64 ((l.getD (((T.getD i (0,0,0)).2.1).toNat) (0,0)).1),.int .i64 ((l.getD (((T.getD i (0,0,0)).2.1).toNat) (0,0)).2)]),(71,.agg #[.int .i64 ((l.getD (((T.getD i (0,0,0)).1).toNat) (0,0)).1),.int .i64 ((l.getD (((T.getD i (0,0,0)).1).toNat) (0,0)).2)]),(9,.int .i64 (Sw.cL l (hx,hy) (T.take i))),(43,.int .i64 ((i:Nat):Int)),(42,.int .i64 ((nt:Nat):Int)),(41,.slice pt nt ct),(7,.int .i64 (Pg.ins l (hx,hy))),(5,.pointer (some ⟨b1,0,none⟩)),(0,.slice p n cap)]) (R':=[slF (rI2 .i64) p cap l,slF (rI3 .i64) pt ct T]) ((.of rfl):SubM _ _) (List.Perm.refl _) (List.Perm.refl _) ((.of [4,5] rfl):SelR _ _ _) ?_
      obtain ⟨qd1,hqd1⟩:∃z:Int,z=(l.getD (((T.getD i (0,0,0)).2.2).toNat) (0,0)).1:=⟨_,rfl⟩
      rw [← hqd1]
      obtain ⟨qd2,hqd2⟩:∃z:Int,z=(l.getD (((T.getD i (0,0,0)).2.2).toNat) (0,0)).2:=⟨_,rfl⟩
      rw [← hqd2]
      obtain ⟨qd3,hqd3⟩:∃z:Int,z=(l.getD (((T.getD i (0,0,0)).2.1).toNat) (0,0)).1:=⟨_,rfl⟩
      rw [← hqd3]
      obtain ⟨qd4,hqd4⟩:∃z:Int,z=(l.getD (((T.getD i (0,0,0)).2.1).toNat) (0,0)).2:=⟨_,rfl⟩
      rw [← hqd4]
      obtain ⟨qd5,hqd5⟩:∃z:Int,z=(l.getD (((T.getD i (0,0,0)).1).toNat) (0,0)).1:=⟨_,rfl⟩
      rw [← hqd5]
      obtain ⟨qd6,hqd6⟩:∃z:Int,z=(l.getD (((T.getD i (0,0,0)).1).toNat) (0,0)).2:=⟨_,rfl⟩
      rw [← hqd6]
      refine zoa (X:=Nat×Nat×Nat) (k':=0) (L':=(lb 21 2097151)) (fun (u15_1,u16_1,u17_1)=>([(14,.pointer (some ⟨u17_1,0,none⟩)),(13,.pointer (some ⟨u16_1,0,none⟩)),(12,.pointer (some ⟨u15_1,0,none⟩)),(9,.int .i64 (Sw.cL l (hx,hy) (T.take i))),(43,.int .i64 ((i:Nat):Int)),(42,.int .i64 ((nt:Nat):Int)),(41,.slice pt nt ct),(7,.int .i64 (Pg.ins l (hx,hy))),(5,.pointer (some ⟨b1,0,none⟩)),(0,.slice p n cap)],[boxA u17_1 30 [.int .i64 qd1,.int .i64 qd2],boxA u16_1 30 [.int .i64 qd3,.int .i64 qd4],boxA u15_1 30 [.int .i64 qd5,.int .i64 qd6]],[boxA b10 50 [.int .i64 ((T.getD i (0,0,0)).1),.int .i64 ((T.getD i (0,0,0)).2.1),.int .i64 ((T.getD i (0,0,0)).2.2)],boxA b1 30 [.int .i64 hx,.int .i64 hy]],[slF (rI2 .i64) p cap l,slF (rI3 .i64) pt ct T])) ?_ (fun hD0=> ?_)
      ·
       rintro ⟨u15_1,u16_1,u17_1⟩
       dsimp only
       refine zU kr ?_
       subst hqd1 hqd2 hqd3 hqd4 hqd5 hqd6
       refine zd<|zg<|zHa (X:=Unit) (fun x=>True) (fun x=>[(97,.bool (decide (Sw.onX l (hx,hy) (T.getD i (0,0,0))))),(14,.pointer (some ⟨u17_1,0,none⟩)),(13,.pointer (some ⟨u16_1,0,none⟩)),(12,.pointer (some ⟨u15_1,0,none⟩)),(9,.int .i64 (Sw.cL l (hx,hy) (T.take i))),(43,.int .i64 ((i:Nat):Int)),(42,.int .i64 ((nt:Nat):Int)),(41,.slice pt nt ct),(7,.int .i64 (Pg.ins l (hx,hy))),(5,.pointer (some ⟨b1,0,none⟩)),(0,.slice p n cap)]) (fun x=>[boxA u17_1 30 [.int .i64 ((l.getD (((T.getD i (0,0,0)).2.2).toNat) (0,0)).1),.int .i64 ((l.getD (((T.getD i (0,0,0)).2.2).toNat) (0,0)).2)],boxA u16_1 30 [.int .i64 ((l.getD (((T.getD i (0,0,0)).2.1).toNat) (0,0)).1),.int .i64 ((l.getD (((T.getD i (0,0,0)).2.1).toNat) (0,0)).2)],boxA u15_1 30 [.int .i64 ((l.getD (((T.getD i (0,0,0)).1).toNat) (0,0)).1),.int .i64 ((l.getD (((T.getD i (0,0,0)).1).toNat) (0,0)).2)],boxA b10 50 [.int .i64 ((T.getD i (0,0,0)).1),.int .i64 ((T.getD i (0,0,0)).2.1),.int .i64 ((T.getD i (0,0,0)).2.2)],boxA b1 30 [.int .i64 hx,.int .i64 hy]]) (fun x=>[slF (rI2 .i64) p cap l,slF (rI3 .i64) pt ct T]) ?_ ?_
       ·
        refine za<|e_ru (zb 2 ty30 rfl rfl (.t2 .nil))<|e_ru (zb 1 ty30 rfl rfl (.t2 .nil))<|e_ru (zb 4 ty30 rfl rfl (.t2 .nil))<|zL rfl rfl (.c rfl (.c rfl (.c rfl .n))) ce35 (zae (ex:=((l.getD (((T.getD i (0,0,0)).1).toNat) (0,0)).1)) (ey:=((l.getD (((T.getD i (0,0,0)).1).toNat) (0,0)).2)) (fx:=((l.getD (((T.getD i (0,0,0)).2.1).toNat) (0,0)).1)) (fy:=((l.getD (((T.getD i (0,0,0)).2.1).toNat) (0,0)).2)) (gx:=hx) (gy:=hy) (hre:=cbo) (hrf:=cbo) (hrg:=cbo)) (.n)<|zV rfl rfl (zW rfl) (fun h86=> ?_) (fun h86=> ?_)
        ·
         refine e_no<|e_no<|e_no<|e_no<|e_p (zn rfl rfl)<|e_mv rfl<|e_no<|e_no<|e_no<|e_no<|e_p (zn rfl rfl)<|zh ?_
         exact zga () (show True from by first|trivial|omega|simp_all) ((.e rfl (congrArg Value.bool (by first|exact (decide_eq_true (Or.inl h86)).symm|exact (decide_eq_true (Or.inr (Or.inl h90))).symm|exact decide_eq_decide.2 ⟨fun h=>Or.inr (Or.inr h),fun h=>h.elim (fun k=>absurd k h86) (fun k=>k.elim (fun k=>absurd k h90) id)⟩)) (.of rfl)):SubM _ _) (ho:=((.of [0,0,0,0,0] rfl):PickO _ _ _)) ((.of [0,1] rfl):SelR _ _ _)
        ·
         refine e_ru (zb 1 ty30 rfl rfl (.t2 .nil))<|e_ru (zb 0 ty30 rfl rfl (.t2 .nil))<|e_ru (zb 4 ty30 rfl rfl (.t2 .nil))<|zL rfl rfl (.c rfl (.c rfl (.c rfl .n))) ce35 (zae (ex:=((l.getD (((T.getD i (0,0,0)).2.1).toNat) (0,0)).1)) (ey:=((l.getD (((T.getD i (0,0,0)).2.1).toNat) (0,0)).2)) (fx:=((l.getD (((T.getD i (0,0,0)).2.2).toNat) (0,0)).1)) (fy:=((l.getD (((T.getD i (0,0,0)).2.2).toNat) (0,0)).2)) (gx:=hx) (gy:=hy) (hre:=cbo) (hrf:=cbo) (hrg:=cbo)) (.n)<|e_p (zn rfl rfl)<|zV rfl rfl (zW rfl) (fun h90=> ?_) (fun h90=> ?_)
         ·
          refine e_no<|e_no<|e_no<|e_no<|e_p (zn rfl rfl)<|zh ?_
          exact zga () (show True from by first|trivial|omega|simp_all) ((.e rfl (congrArg Value.bool (by first|exact (decide_eq_true (Or.inl h86)).symm|exact (decide_eq_true (Or.inr (Or.inl h90))).symm|exact decide_eq_decide.2 ⟨fun h=>Or.inr (Or.inr h),fun h=>h.elim (fun k=>absurd k h86) (fun k=>k.elim (fun k=>absurd k h90) id)⟩)) (.of rfl)):SubM _ _) (ho:=((.of [0,0,0,0,0] rfl):PickO _ _ _)) ((.of [0,1] rfl):SelR _ _ _)
         ·
          refine e_ru (zb 0 ty30 rfl rfl (.t2 .nil))<|e_ru (zb 2 ty30 rfl rfl (.t2 .nil))<|e_ru (zb 4 ty30 rfl rfl (.t2 .nil))<|zL rfl rfl (.c rfl (.c rfl (.c rfl .n))) ce35 (zae (ex:=((l.getD (((T.getD i (0,0,0)).2.2).toNat) (0,0)).1)) (ey:=((l.getD (((T.getD i (0,0,0)).2.2).toNat) (0,0)).2)) (fx:=((l.getD (((T.getD i (0,0,0)).1).toNat) (0,0)).1)) (fy:=((l.getD (((T.getD i (0,0,0)).1).toNat) (0,0)).2)) (gx:=hx) (gy:=hy) (hre:=cbo) (hrf:=cbo) (hrg:=cbo)) (.n)<|e_p (zn rfl rfl)<|zh ?_
          exact zga () (show True from by first|trivial|omega|simp_all) ((.e rfl (congrArg Value.bool (by first|exact (decide_eq_true (Or.inl h86)).symm|exact (decide_eq_true (Or.inr (Or.inl h90))).symm|exact decide_eq_decide.2 ⟨fun h=>Or.inr (Or.inr h),fun h=>h.elim (fun k=>absurd k h86) (fun k=>k.elim (fun k=>absurd k h90) id)⟩)) (.of rfl)):SubM _ _) (ho:=((.of [0,0,0,0,0] rfl):PickO _ _ _)) ((.of [0,1] rfl):SelR _ _ _)
       ·
        rintro ⟨⟩ -
        try dsimp only
        refine zG rfl (fun h97=> ?_) (fun h97=> ?_)
        ·
         refine zg<|za<|e_mv rfl<|e_p (zBa rfl rfl) ?_
         rw [show (decide (0≤Pg.ins l (hx,hy)))=true from by exact decide_eq_true (Sw.cov_on hsm hrng hac hrh (Ms.getD_mem (0,0,0) om) h97)]
         refine e_p (zc rfl)<|zh<|zd<|zI<|zi<|zp<|zi<|zi<|zp<|zi ?_
         exact zu yp () trivial (zk rfl) rfl (ho:=(.n:PickO _ _ _)) (.n:SelR _ _ _)
        ·
         refine zw<|zd<|zg<|za<|e_ru (zb 2 ty30 rfl rfl (.t2 .nil))<|e_ru (zb 1 ty30 rfl rfl (.t2 .nil))<|e_ru (zb 0 ty30 rfl rfl (.t2 .nil))<|e_ru (zb 4 ty30 rfl rfl (.t2 .nil))<|zL rfl rfl (.c rfl (.c rfl (.c rfl (.c rfl .n)))) ce36 (zag (ex:=((l.getD (((T.getD i (0,0,0)).1).toNat) (0,0)).1)) (ey:=((l.getD (((T.getD i (0,0,0)).1).toNat) (0,0)).2)) (fx:=((l.getD (((T.getD i (0,0,0)).2.1).toNat) (0,0)).1)) (fy:=((l.getD (((T.getD i (0,0,0)).2.1).toNat) (0,0)).2)) (gx:=((l.getD (((T.getD i (0,0,0)).2.2).toNat) (0,0)).1)) (gy:=((l.getD (((T.getD i (0,0,0)).2.2).toNat) (0,0)).2)) (hx:=hx) (hy:=hy) (hre:=cbo) (hrf:=cbo) (hrg:=cbo) (hrh:=cbo)) (.n)<|zh<|zd<|zG rfl (fun h104=> ?_) (fun h104=> ?_)
         ·
          refine za<|e_mv rfl<|e_p (zK (z:=((Sw.cL l (hx,hy) (T.take i))+1)) rfl rfl (w64 om))<|e_p (zc rfl)<|zh<|zO<|zd<|za<|e_p (zK (z:=(((i+1):Nat):Int)) rfl rfl (w64 om))<|e_mv rfl<|zh<|zha (i+1) (show (i+1)≤nt∧∀j,j<(i+1)→¬Sw.onX l (hx,hy) (T.getD j (0,0,0)) from by exact ⟨by omega,Ms.all_lt_succ hall h97⟩) (by show nt - (i+1)<nt - i;omega) ((.e rfl (by rw [Sw.cL_yes om h104]) (.of rfl)):SubM _ _) (ho:=((.c (i:=4) rfl .n):PickO _ _ _)) ((.of [0,1] rfl):SelR _ _ _)
         ·
          refine zw<|zO<|zd<|za<|e_p (zK (z:=(((i+1):Nat):Int)) rfl rfl (w64 om))<|e_mv rfl<|zh<|zha (i+1) (show (i+1)≤nt∧∀j,j<(i+1)→¬Sw.onX l (hx,hy) (T.getD j (0,0,0)) from by exact ⟨by omega,Ms.all_lt_succ hall h97⟩) (by show nt - (i+1)<nt - i;omega) ((.e rfl (by rw [Sw.cL_no om h104]) (.of rfl)):SubM _ _) (ho:=((.c (i:=4) rfl .n):PickO _ _ _)) ((.of [0,1] rfl):SelR _ _ _)
      refine zoa (X:=Nat×Nat×Nat) (k':=1) (L':=(lb 21 1048575)) (fun (u15_1,u16_1,u17_1)=>([(14,.pointer (some ⟨u17_1,0,none⟩)),(13,.pointer (some ⟨u16_1,0,none⟩)),(12,.pointer (some ⟨u15_1,0,none⟩)),(81,.agg #[.int .i64 qd1,.int .i64 qd2]),(9,.int .i64 (Sw.cL l (hx,hy) (T.take i))),(43,.int .i64 ((i:Nat):Int)),(42,.int .i64 ((nt:Nat):Int)),(41,.slice pt nt ct),(7,.int .i64 (Pg.ins l (hx,hy))),(5,.pointer (some ⟨b1,0,none⟩)),(0,.slice p n cap)],[boxA u16_1 30 [.int .i64 qd3,.int .i64 qd4],boxA u15_1 30 [.int .i64 qd5,.int .i64 qd6],boxA u17_1 30 [.int .i64 0,.int .i64 0]],[boxA b10 50 [.int .i64 ((T.getD i (0,0,0)).1),.int .i64 ((T.getD i (0,0,0)).2.1),.int .i64 ((T.getD i (0,0,0)).2.2)],boxA b1 30 [.int .i64 hx,.int .i64 hy]],[slF (rI2 .i64) p cap l,slF (rI3 .i64) pt ct T])) ?_ (fun hD1=> ?_)
      ·
       rintro ⟨u15_1,u16_1,u17_1⟩
       dsimp only
       refine zSa 20 kr ?_
       ·
        refine zpb (zaa (i:=2) rfl)<|zq kr rfl rfl rfl rfl rfl sz30 rfl (.t2 .nil) ?_
        exact zP (hD0 (u15_1,u16_1,u17_1)) kr ((.of rfl):SubM _ _) .rfl .rfl ((.of [0,1] rfl):SelR _ _ _)
      refine zoa (X:=Nat×Nat×Nat) (k':=2) (L':=(lb 21 524287)) (fun (u15_1,u16_1,u17_1)=>([(14,.pointer (some ⟨u17_1,0,none⟩)),(13,.pointer (some ⟨u16_1,0,none⟩)),(12,.pointer (some ⟨u15_1,0,none⟩)),(81,.agg #[.int .i64 qd1,.int .i64 qd2]),(76,.agg #[.int .i64 qd3,.int .i64 qd4]),(9,.int .i64 (Sw.cL l (hx,hy) (T.take i))),(43,.int .i64 ((i:Nat):Int)),(42,.int .i64 ((nt:Nat):Int)),(41,.slice pt nt ct),(7,.int .i64 (Pg.ins l (hx,hy))),(5,.pointer (some ⟨b1,0,none⟩)),(0,.slice p n cap)],[boxA u15_1 30 [.int .i64 qd5,.int .i64 qd6],boxA u17_1 30 [.int .i64 0,.int .i64 0],boxA u16_1 30 [.int .i64 0,.int .i64 0]],[boxA b10 50 [.int .i64 ((T.getD i (0,0,0)).1),.int .i64 ((T.getD i (0,0,0)).2.1),.int .i64 ((T.getD i (0,0,0)).2.2)],boxA b1 30 [.int .i64 hx,.int .i64 hy]],[slF (rI2 .i64) p cap l,slF (rI3 .i64) pt ct T])) ?_ (fun hD2=> ?_)
      ·
       rintro ⟨u15_1,u16_1,u17_1⟩
       dsimp only
       refine zSa 19 kr ?_
       ·
        refine zpb (zaa (i:=2) rfl)<|zq kr rfl rfl rfl rfl rfl sz30 rfl (.t2 .nil) ?_
        exact zP (hD1 (u15_1,u16_1,u17_1)) kr ((.of rfl):SubM _ _) .rfl .rfl ((.of [0,1] rfl):SelR _ _ _)
      refine zoa (X:=Nat×Nat×Nat) (k':=3) (L':=(lb 21 262143)) (fun (u15_1,u16_1,u17_1)=>([(14,.pointer (some ⟨u17_1,0,none⟩)),(13,.pointer (some ⟨u16_1,0,none⟩)),(12,.pointer (some ⟨u15_1,0,none⟩)),(81,.agg #[.int .i64 qd1,.int .i64 qd2]),(76,.agg #[.int .i64 qd3,.int .i64 qd4]),(71,.agg #[.int .i64 qd5,.int .i64 qd6]),(9,.int .i64 (Sw.cL l (hx,hy) (T.take i))),(43,.int .i64 ((i:Nat):Int)),(42,.int .i64 ((nt:Nat):Int)),(41,.slice pt nt ct),(7,.int .i64 (Pg.ins l (hx,hy))),(5,.pointer (some ⟨b1,0,none⟩)),(0,.slice p n cap)],[boxA u17_1 30 [.int .i64 0,.int .i64 0],boxA u16_1 30 [.int .i64 0,.int .i64 0],boxA u15_1 30 [.int .i64 0,.int .i64 0]],[boxA b10 50 [.int .i64 ((T.getD i (0,0,0)).1),.int .i64 ((T.getD i (0,0,0)).2.1),.int .i64 ((T.getD i (0,0,0)).2.2)],boxA b1 30 [.int .i64 hx,.int .i64 hy]],[slF (rI2 .i64) p cap l,slF (rI3 .i64) pt ct T])) ?_ (fun hD3=> ?_)
      ·
       rintro ⟨u15_1,u16_1,u17_1⟩
       dsimp only
       refine zSa 18 kr ?_
       ·
        refine zpb (zaa (i:=2) rfl)<|zq kr rfl rfl rfl rfl rfl sz30 rfl (.t2 .nil) ?_
        exact zP (hD2 (u15_1,u16_1,u17_1)) kr ((.of rfl):SubM _ _) .rfl .rfl ((.of [0,1] rfl):SelR _ _ _)
      refine zoa (X:=Nat×Nat) (k':=4) (L':=(lb 21 131071)) (fun (u15_1,u16_1)=>([(13,.pointer (some ⟨u16_1,0,none⟩)),(12,.pointer (some ⟨u15_1,0,none⟩)),(81,.agg #[.int .i64 qd1,.int .i64 qd2]),(76,.agg #[.int .i64 qd3,.int .i64 qd4]),(71,.agg #[.int .i64 qd5,.int .i64 qd6]),(9,.int .i64 (Sw.cL l (hx,hy) (T.take i))),(43,.int .i64 ((i:Nat):Int)),(42,.int .i64 ((nt:Nat):Int)),(41,.slice pt nt ct),(7,.int .i64 (Pg.ins l (hx,hy))),(5,.pointer (some ⟨b1,0,none⟩)),(0,.slice p n cap)],[boxA u16_1 30 [.int .i64 0,.int .i64 0],boxA u15_1 30 [.int .i64 0,.int .i64 0]],[boxA b10 50 [.int .i64 ((T.getD i (0,0,0)).1),.int .i64 ((T.getD i (0,0,0)).2.1),.int .i64 ((T.getD i (0,0,0)).2.2)],boxA b1 30 [.int .i64 hx,.int .i64 hy]],[slF (rI2 .i64) p cap l,slF (rI3 .i64) pt ct T])) ?_ (fun hD4=> ?_)
      ·
       rintro ⟨u15_1,u16_1⟩
       dsimp only
       refine zSa 17 kr ?_
       ·
        refine zma rfl rfl rfl rfl (zo zr30 rfl) (fun u17_1 _=> ?_)
        exact zP (hD3 (u15_1,u16_1,u17_1)) kr ((.of rfl):SubM _ _) .rfl .rfl ((.of [0,1] rfl):SelR _ _ _)
      refine zoa (X:=Nat×Nat) (k':=4) (L':=(lb 21 196607)) (fun (u15_1,u17_1)=>([(14,.pointer (some ⟨u17_1,0,none⟩)),(12,.pointer (some ⟨u15_1,0,none⟩)),(81,.agg #[.int .i64 qd1,.int .i64 qd2]),(76,.agg #[.int .i64 qd3,.int .i64 qd4]),(71,.agg #[.int .i64 qd5,.int .i64 qd6]),(9,.int .i64 (Sw.cL l (hx,hy) (T.take i))),(43,.int .i64 ((i:Nat):Int)),(42,.int .i64 ((nt:Nat):Int)),(41,.slice pt nt ct),(7,.int .i64 (Pg.ins l (hx,hy))),(5,.pointer (some ⟨b1,0,none⟩)),(0,.slice p n cap)],[boxA u17_1 30 [.int .i64 0,.int .i64 0],boxA u15_1 30 [.int .i64 0,.int .i64 0]],[boxA b10 50 [.int .i64 ((T.getD i (0,0,0)).1),.int .i64 ((T.getD i (0,0,0)).2.1),.int .i64 ((T.getD i (0,0,0)).2.2)],boxA b1 30 [.int .i64 hx,.int .i64 hy]],[slF (rI2 .i64) p cap l,slF (rI3 .i64) pt ct T])) ?_ (fun hD5=> ?_)
      ·
       rintro ⟨u15_1,u17_1⟩
       dsimp only
       refine zSa 16 kr ?_
       ·
        refine zma rfl rfl rfl rfl (zo zr30 rfl) (fun u16_1 _=> ?_)
        exact zP (hD3 (u15_1,u16_1,u17_1)) kr ((.of rfl):SubM _ _) (zra 1 rfl (zra 0 rfl (zra 0 rfl .nil))) .rfl ((.of [0,1] rfl):SelR _ _ _)
      refine zoa (X:=Nat×Nat) (k':=4) (L':=(lb 21 229375)) (fun (u16_1,u17_1)=>([(14,.pointer (some ⟨u17_1,0,none⟩)),(13,.pointer (some ⟨u16_1,0,none⟩)),(81,.agg #[.int .i64 qd1,.int .i64 qd2]),(76,.agg #[.int .i64 qd3,.int .i64 qd4]),(71,.agg #[.int .i64 qd5,.int .i64 qd6]),(9,.int .i64 (Sw.cL l (hx,hy) (T.take i))),(43,.int .i64 ((i:Nat):Int)),(42,.int .i64 ((nt:Nat):Int)),(41,.slice pt nt ct),(7,.int .i64 (Pg.ins l (hx,hy))),(5,.pointer (some ⟨b1,0,none⟩)),(0,.slice p n cap)],[boxA u17_1 30 [.int .i64 0,.int .i64 0],boxA u16_1 30 [.int .i64 0,.int .i64 0]],[boxA b10 50 [.int .i64 ((T.getD i (0,0,0)).1),.int .i64 ((T.getD i (0,0,0)).2.1),.int .i64 ((T.getD i (0,0,0)).2.2)],boxA b1 30 [.int .i64 hx,.int .i64 hy]],[slF (rI2 .i64) p cap l,slF (rI3 .i64) pt ct T])) ?_ (fun hD6=> ?_)
      ·
       rintro ⟨u16_1,u17_1⟩
       dsimp only
       refine zSa 15 kr ?_
       ·
        refine zma rfl rfl rfl rfl (zo zr30 rfl) (fun u15_1 _=> ?_)
        exact zP (hD3 (u15_1,u16_1,u17_1)) kr ((.of rfl):SubM _ _) (zra 1 rfl (zra 1 rfl (zra 0 rfl .nil))) .rfl ((.of [0,1] rfl):SelR _ _ _)
      refine zoa (X:=Nat) (k':=5) (L':=(lb 21 65535)) (fun u15_1=>([(12,.pointer (some ⟨u15_1,0,none⟩)),(81,.agg #[.int .i64 qd1,.int .i64 qd2]),(76,.agg #[.int .i64 qd3,.int .i64 qd4]),(71,.agg #[.int .i64 qd5,.int .i64 qd6]),(9,.int .i64 (Sw.cL l (hx,hy) (T.take i))),(43,.int .i64 ((i:Nat):Int)),(42,.int .i64 ((nt:Nat):Int)),(41,.slice pt nt ct),(7,.int .i64 (Pg.ins l (hx,hy))),(5,.pointer (some ⟨b1,0,none⟩)),(0,.slice p n cap)],[boxA u15_1 30 [.int .i64 0,.int .i64 0]],[boxA b10 50 [.int .i64 ((T.getD i (0,0,0)).1),.int .i64 ((T.getD i (0,0,0)).2.1),.int .i64 ((T.getD i (0,0,0)).2.2)],boxA b1 30 [.int .i64 hx,.int .i64 hy]],[slF (rI2 .i64) p cap l,slF (rI3 .i64) pt ct T])) ?_ (fun hD7=> ?_)
      ·
       rintro u15_1
       dsimp only
       refine zGb 16 17 kr ?_ ?_
       ·
        refine zma rfl rfl rfl rfl (zo zr30 rfl) (fun u16_1 _=> ?_)
        exact zP (hD4 (u15_1,u16_1)) kr ((.of rfl):SubM _ _) .rfl .rfl ((.of [0,1] rfl):SelR _ _ _)
       ·
        refine zma rfl rfl rfl rfl (zo zr30 rfl) (fun u17_1 _=> ?_)
        exact zP (hD5 (u15_1,u17_1)) kr ((.of rfl):SubM _ _) .rfl .rfl ((.of [0,1] rfl):SelR _ _ _)
      refine zoa (X:=Nat) (k':=5) (L':=(lb 21 98303)) (fun u16_1=>([(13,.pointer (some ⟨u16_1,0,none⟩)),(81,.agg #[.int .i64 qd1,.int .i64 qd2]),(76,.agg #[.int .i64 qd3,.int .i64 qd4]),(71,.agg #[.int .i64 qd5,.int .i64 qd6]),(9,.int .i64 (Sw.cL l (hx,hy) (T.take i))),(43,.int .i64 ((i:Nat):Int)),(42,.int .i64 ((nt:Nat):Int)),(41,.slice pt nt ct),(7,.int .i64 (Pg.ins l (hx,hy))),(5,.pointer (some ⟨b1,0,none⟩)),(0,.slice p n cap)],[boxA u16_1 30 [.int .i64 0,.int .i64 0]],[boxA b10 50 [.int .i64 ((T.getD i (0,0,0)).1),.int .i64 ((T.getD i (0,0,0)).2.1),.int .i64 ((T.getD i (0,0,0)).2.2)],boxA b1 30 [.int .i64 hx,.int .i64 hy]],[slF (rI2 .i64) p cap l,slF (rI3 .i64) pt ct T])) ?_ (fun hD8=> ?_)
      ·
       rintro u16_1
       dsimp only
       refine zGb 15 17 kr ?_ ?_
       ·
        refine zma rfl rfl rfl rfl (zo zr30 rfl) (fun u15_1 _=> ?_)
        exact zP (hD4 (u15_1,u16_1)) kr ((.of rfl):SubM _ _) (zra 1 rfl (zra 0 rfl .nil)) .rfl ((.of [0,1] rfl):SelR _ _ _)
       ·
        refine zma rfl rfl rfl rfl (zo zr30 rfl) (fun u17_1 _=> ?_)
        exact zP (hD6 (u16_1,u17_1)) kr ((.of rfl):SubM _ _) .rfl .rfl ((.of [0,1] rfl):SelR _ _ _)
      refine zoa (X:=Nat) (k':=5) (L':=(lb 21 163839)) (fun u17_1=>([(14,.pointer (some ⟨u17_1,0,none⟩)),(81,.agg #[.int .i64 qd1,.int .i64 qd2]),(76,.agg #[.int .i64 qd3,.int .i64 qd4]),(71,.agg #[.int .i64 qd5,.int .i64 qd6]),(9,.int .i64 (Sw.cL l (hx,hy) (T.take i))),(43,.int .i64 ((i:Nat):Int)),(42,.int .i64 ((nt:Nat):Int)),(41,.slice pt nt ct),(7,.int .i64 (Pg.ins l (hx,hy))),(5,.pointer (some ⟨b1,0,none⟩)),(0,.slice p n cap)],[boxA u17_1 30 [.int .i64 0,.int .i64 0]],[boxA b10 50 [.int .i64 ((T.getD i (0,0,0)).1),.int .i64 ((T.getD i (0,0,0)).2.1),.int .i64 ((T.getD i (0,0,0)).2.2)],boxA b1 30 [.int .i64 hx,.int .i64 hy]],[slF (rI2 .i64) p cap l,slF (rI3 .i64) pt ct T])) ?_ (fun hD9=> ?_)
      ·
       rintro u17_1
       dsimp only
       refine zGb 15 16 kr ?_ ?_
       ·
        refine zma rfl rfl rfl rfl (zo zr30 rfl) (fun u15_1 _=> ?_)
        exact zP (hD5 (u15_1,u17_1)) kr ((.of rfl):SubM _ _) (zra 1 rfl (zra 0 rfl .nil)) .rfl ((.of [0,1] rfl):SelR _ _ _)
       ·
        refine zma rfl rfl rfl rfl (zo zr30 rfl) (fun u16_1 _=> ?_)
        exact zP (hD6 (u16_1,u17_1)) kr ((.of rfl):SubM _ _) (zra 1 rfl (zra 0 rfl .nil)) .rfl ((.of [0,1] rfl):SelR _ _ _)
      refine zKc 15 16 17 kr ?_ ?_ ?_
      ·
       refine zma rfl rfl rfl rfl (zo zr30 rfl) (fun u15_1 _=> ?_)
       exact zP (hD7 u15_1) kr ((.of rfl):SubM _ _) .rfl .rfl ((.of [0,1] rfl):SelR _ _ _)
      ·
       refine zma rfl rfl rfl rfl (zo zr30 rfl) (fun u16_1 _=> ?_)
       exact zP (hD8 u16_1) kr ((.of rfl):SubM _ _) .rfl .rfl ((.of [0,1] rfl):SelR _ _ _)
      ·
       refine zma rfl rfl rfl rfl (zo zr30 rfl) (fun u17_1 _=> ?_)
       exact zP (hD9 u17_1) kr ((.of rfl):SubM _ _) .rfl .rfl ((.of [0,1] rfl):SelR _ _ _)
    ·
     refine zna<|zj<|zj<|zy<|zd<|zHa (X:=Unit) (fun x=>True) (fun x=>[(6,.bool true)]) (fun x=>[boxA b1 30 [.int .i64 hx,.int .i64 hy]]) (fun x=>[slF (rI2 .i64) p cap l,slF (rI3 .i64) pt ct T]) ?_ ?_
     ·
      have hti:T.take i=T:=List.take_of_length_le om
      have e21:Sw.cL l (hx,hy) (T.take i)=Sw.cL l (hx,hy) T:=by rw [hti]
      rw [e21]
      have hcov:=Sw.cov hsm hrng hac hrh (fun x hx=>by obtain ⟨j,h1,h2⟩:=Ms.mem_getD (0,0,0) hx;rw [← h2];exact hall j om)
      refine za<|e_mv rfl<|e_p (zDa rfl rfl)<|zV rfl rfl (zW rfl) (fun h22=> ?_) (fun h22=> ?_)
      ·
       refine e_mv rfl<|e_p (zDa rfl rfl) ?_
       rw [show (decide (Pg.ins l (hx,hy)=1))=true from by exact decide_eq_true om]
       refine e_p (zn rfl rfl)<|e_mv rfl<|e_no<|e_no<|e_no<|e_no<|e_no<|e_no<|e_p (zn rfl rfl)<|e_p (zc rfl)<|zh ?_
       exact zga () (show True from by first|trivial|omega|simp_all) ((.c rfl .n):SubM _ _) (ho:=((.c (i:=0) rfl .n):PickO _ _ _)) ((.of [0,1] rfl):SelR _ _ _)
      ·
       refine e_no<|e_no<|e_p (zn rfl rfl)<|e_mv rfl<|e_mv rfl<|e_p (zDa rfl rfl) ?_
       rw [show (decide ((Sw.cL l (hx,hy) T)=0))=true from by exact decide_eq_true om]
       refine e_mv rfl<|e_mv rfl<|e_p (zDa rfl rfl) ?_
       rw [show (decide (Pg.ins l (hx,hy)=(-1)))=true from by exact decide_eq_true om]
       refine e_p (zn rfl rfl)<|e_p (zn rfl rfl)<|e_p (zc rfl)<|zh ?_
       exact zga () (show True from by first|trivial|omega|simp_all) ((.c rfl .n):SubM _ _) (ho:=((.c (i:=0) rfl .n):PickO _ _ _)) ((.of [0,1] rfl):SelR _ _ _)
     ·
      rintro ⟨⟩ -
      try dsimp only
      refine zI ?_
      exact zu yp () trivial (zk rfl) rfl (ho:=(.n:PickO _ _ _)) (.n:SelR _ _ _)
end Go.Proofs.YtjcpbhlijoigfaaGreat.Sp
