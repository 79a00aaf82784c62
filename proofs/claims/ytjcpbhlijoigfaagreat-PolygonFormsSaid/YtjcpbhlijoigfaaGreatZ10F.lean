/- Lemmas on the walk and plain lemmas that the claim of this folder uses; each states its own conditions. Lines were printed by a program of ours. -/
import Derived.Test.YtjcpbhlijoigfaaGreatZ10E
set_option linter.unusedVariables false
set_option linter.unusedSimpArgs false
set_option linter.unusedSectionVars false
open Go.Proofs.Tryz renaming underlying30 → ya, underlying43 → yb, underlying22 → yc, underlying34 → yd, prog → ye, underlying69 → yf, underlying54 → yh, underlying84 → yi, underlying3 → yj, underlying50 → yn, underlying41 → yo, results20 → yp, results19 → yq
open Go.Proofs.YtjcpbhlijoigfaaGreat.Big renaming zS → yg, hq → yk, hq_num → yl, hq_den → ym, raw → yr, zHa → yt
namespace Go.Proofs.YtjcpbhlijoigfaaGreat.Sp
open Go
set_option linter.unusedVariables false
set_option maxRecDepth 100000
set_option maxHeartbeats 8000000
theorem zqd {z:Int} (hz: -9223372036854775808≤z∧z≤9223372036854775807):Con ye 74 [.int .i64 z] [] [] (Y:=(Option Addr)×Nat) (fun y=>True) (fun y=> .agg #[.bool (decide (z<0)),.slice (y.1) ((Big.digs ((z).natAbs)).length) (y.2)]) (fun y=>[]) (fun y=>[slF (rI .u32) (y.1) (y.2) (Big.digs ((z).natAbs))]):=by
 refine zm Tryz.func74 rfl rfl rfl (fun c=> ?_)
 show RunC _ _ _ _ _ [(0,.int .i64 z)] [] []
 refine zg<|za<|zM rfl rfl (zn zr41 rfl) (fun b1=> ?_)
 refine zh<|zd<|zg<|za<|e_mv rfl<|zE rfl rfl (.c rfl .n) ce113 (zJf (z:=z) (hz:=ass)) (.n) ?_
 rintro ⟨p22,c23⟩ -
 dsimp only [aq,nq,cq]
 refine zk 0 rfl rfl rfl rfl rfl sz41 rfl (.t2 .nil) .z<|zh<|zd<|zH ?_
 exact zy Tryz.results74 (p22,c23) trivial (zu 0 ty41 rfl rfl (.t2 .nil)) rfl (ho:=(.n:PickO _ _ _)) ((.c (j:=0) rfl .n):SelR _ _ _)
theorem zJb {z:Int} (hz: -9223372036854775808≤z∧z≤9223372036854775807):Con ye 74 [.int .i64 (z)] [] [] (Y:=(Wd)) (fun y=>True) (fun y=> .agg #[y.b,y.l]) (fun y=>[]) (fun y=>[zF y (z)]):=by
  exact zYb (zqd hz)
theorem zrd {z:Int} (hz: -9223372036854775808≤z∧z≤9223372036854775807):Con ye 26 [.int .i64 z] [] [] (Y:=Wd×Wd) (fun y=>True) (fun y=> .agg #[y.1.b,y.1.l,y.2.b,y.2.l]) (fun y=>[]) (fun y=>[qF true y.1 y.2 ((z:Int):Rat)]):=by
 refine zm Tryz.func26 rfl rfl rfl (fun c=> ?_)
 show RunC _ _ _ _ _ [(0,.int .i64 z)] [] []
 refine zg<|za<|zM rfl rfl (zn zr43 rfl) (fun b1=> ?_)
 refine zh<|zd<|zg<|za<|e_mv rfl<|zE rfl rfl (.c rfl .n) ce74 (zJb (z:=z) (hz:=ass)) (.n) ?_
 rintro w32 -
 dsimp only [aq,nq,cq]
 refine zE rfl rfl (.c rfl .n) ce74 (zJb (z:=1) (hz:=by first|rfl|assumption|omega|(rw [yg];omega)|(decide +kernel))) (.n) ?_
 rintro w33 -
 dsimp only [aq,nq,cq]
 refine e_p (zJ zr43 rfl yb (.c sz41 (.c sz41 .n)) (.c rfl (.c rfl .n)) (.c rfl rfl rfl (.t2 .nil) (.c rfl rfl rfl (.s2 (.t2 .nil)) .n)))<|zk 0 rfl rfl rfl rfl rfl sz43 rfl (.t4 .nil) .z<|zh<|zd<|zH<|zub (qF true w32 w33 ((z:Int):Rat)) (qF_close 1 0 rfl rfl (by exact ⟨(Rat.num_intCast z).symm,by rw [Rat.den_intCast];rfl,Nat.le_trans (Big.hq_64 hz.1 hz.2) dd⟩)) ?_
 exact zy Tryz.results26 (w32,w33) trivial (zu 0 ty43 rfl rfl (.t4 .nil)) rfl (ho:=(.n:PickO _ _ _)) ((.c (j:=0) rfl .n):SelR _ _ _)
theorem zdd {s:Bool} {p1:Option Addr} {n1:Nat} {c1:Nat} {l1:List Int} {t:Bool} {p2:Option Addr} {n2:Nat} {c2:Nat} {l2:List Int} (hn1:l1.length=n1) (hn2:l2.length=n2) (hm1:n1≤1048576) (hm2:n2≤1048576):Con ye 88 [.agg #[.bool s,.slice p1 n1 c1,.bool t,.slice p2 n2 c2]] [] [slF (rI .u32) p1 c1 l1,slF (rI .u32) p2 c2 l2] (Y:=Unit) (fun y=>True) (fun y=> .bool (decide (Big.qok ((s,l1),(t,l2))))) (fun y=>[]) (fun y=>[]):=by
 refine zm Tryz.func88 rfl rfl rfl (fun c=> ?_)
 show RunC _ _ _ _ _ [(0,.agg #[.bool s,.slice p1 n1 c1,.bool t,.slice p2 n2 c2])] [] [slF (rI .u32) p1 c1 l1,slF (rI .u32) p2 c2 l2]
 refine zba 0 rfl (fun hL0=> ?_)
 refine zSa 0 rfl (fun hE0=> ?_)
 refine zba 1 rfl (fun hL1=> ?_)
 refine zSa 1 rfl (fun hE1=> ?_)
 have hnn1:Big.nn l1:=fun g hg=>(zG.1 (hE0 g hg)).1
 have hnn2:Big.nn l2:=fun g hg=>(zG.1 (hE1 g hg)).1
 have hb1:Big.ln (yr s l1)≤n1:=by have:=Big.zTa (s:=s) hnn1;omega
 have hb2:Big.ln (yr t l2)≤n2:=by have:=Big.zTa (s:=t) hnn2;omega
 refine zg<|za<|zM rfl rfl (zR rfl rfl) (fun b1=> ?_)
 refine e_p (zb rfl)<|zh<|zd<|zg<|zEa (X:=Unit) (fun x=>True) (fun x=>[(18,.bool (decide (¬(Big.canon s l1∧Big.canon t l2∧0<yr t l2)))),(2,.bool false),(1,.pointer (some ⟨b1,0,none⟩))]) (fun x=>[boxA b1 43 [.bool s,.slice p1 n1 c1,.bool t,.slice p2 n2 c2]]) (fun x=>[slF (rI .u32) p1 c1 l1,slF (rI .u32) p2 c2 l2]) ?_ ?_
 ·
  refine za<|e_p (ze yb rfl sz41 rfl rfl)<|e_ru (zc 0 ty41 rfl rfl (.t2 .nil))<|zL rfl rfl (.c rfl .n) ce122 (zAc (s:=s) (p:=p1) (n:=n1) (cap:=c1) (l:=l1) (hn:=ass)) (.c (j:=0) rfl .n)<|e_p (zYa rfl)<|zaa rfl rfl (zX rfl) (fun h2=> ?_) (fun h2=> ?_)
  ·
   refine e_no<|e_no<|e_no<|e_no<|e_p (zo rfl rfl)<|e_mv rfl<|e_no<|e_no<|e_no<|e_no<|e_p (zo rfl rfl)<|zh ?_
   exact zga () (show True from by first|trivial|omega|simp_all) ((.e rfl (congrArg Value.bool (by simp_all)) (.c rfl (.c rfl .n))):SubM _ _) (ho:=((.c (i:=0) rfl .n):PickO _ _ _)) ((.of [0,1] rfl):SelR _ _ _)
  ·
   refine e_p (ze yb rfl sz41 rfl rfl)<|e_ru (zc 0 ty41 rfl rfl (.s2 (.t2 .nil)))<|zL rfl rfl (.c rfl .n) ce122 (zAc (s:=t) (p:=p2) (n:=n2) (cap:=c2) (l:=l2) (hn:=ass)) (.c (j:=1) rfl .n)<|e_p (zYa rfl)<|e_p (zo rfl rfl)<|zaa rfl rfl (zX rfl) (fun h3=> ?_) (fun h3=> ?_)
   ·
    refine e_no<|e_no<|e_no<|e_no<|e_p (zo rfl rfl)<|zh ?_
    exact zga () (show True from by first|trivial|omega|simp_all) ((.e rfl (congrArg Value.bool (by simp_all)) (.c rfl (.c rfl .n))):SubM _ _) (ho:=((.c (i:=0) rfl .n):PickO _ _ _)) ((.of [0,1] rfl):SelR _ _ _)
   ·
    refine e_p (ze yb rfl sz41 rfl rfl)<|e_ru (zc 0 ty41 rfl rfl (.s2 (.t2 .nil)))<|zL rfl rfl (.c rfl .n) ce105 (zVd (s:=t) (p:=p2) (n:=n2) (cap:=c2) (l:=l2) (hn:=ass) (hln:=by first|rfl|assumption|omega|(rw [yg];omega)|(decide +kernel))) (.c (j:=1) rfl .n)<|e_p (zVa rfl rfl)<|e_p (zo rfl rfl)<|zh ?_
    exact zga () (show True from by first|trivial|omega|simp_all) ((.e rfl (congrArg Value.bool (by exact decide_eq_decide.2 (Big.sgn_le (Decidable.not_not.1 ‹_›) (Decidable.not_not.1 ‹_›)))) (.c rfl (.c rfl .n))):SubM _ _) (ho:=((.c (i:=0) rfl .n):PickO _ _ _)) ((.of [0,1] rfl):SelR _ _ _)
 ·
  rintro ⟨⟩ -
  try dsimp only
  refine zC rfl (fun hc=> ?_) (fun hc=> ?_)
  ·
   refine zg<|za<|e_p (zb rfl)<|zh<|zd<|zH<|zi ?_
   exact zy Tryz.results88 () trivial (zl rfl) (congrArg Value.bool (decide_eq_false (fun h=>hc ⟨h.1,h.2.1,h.2.2.1⟩))) (ho:=(.n:PickO _ _ _)) (.n:SelR _ _ _)
  ·
   have hcc:=Decidable.not_not.1 hc
   have hgl:=Big.zPd (n:=yr s l1) (d:=yr t l2) om
   refine zA<|zd<|zg<|za<|e_p (ze yb rfl sz41 rfl rfl)<|e_ru (zc 0 ty41 rfl rfl (.t2 .nil))<|e_p (ze yb rfl sz41 rfl rfl)<|e_ru (zc 0 ty41 rfl rfl (.s2 (.t2 .nil)))<|zE rfl rfl (.c rfl (.c rfl .n)) ce109 (zJe (s:=s) (p1:=p1) (n1:=n1) (c1:=c1) (l1:=l1) (t:=t) (p2:=p2) (n2:=n2) (c2:=c2) (l2:=l2) (hn1:=ass) (hn2:=ass) (hm1:=by first|rfl|assumption|omega|(rw [yg];omega)|(decide +kernel)) (hm2:=by first|rfl|assumption|omega|(rw [yg];omega)|(decide +kernel))) (.c (j:=0) rfl (.c (j:=1) rfl .n)) ?_
   rintro ⟨p34,c35⟩ -
   dsimp only [aq,nq,cq]
   refine zE rfl rfl (.c rfl .n) ce74 (zqd (z:=1) (hz:=by first|rfl|assumption|omega|(rw [yg];omega)|(decide +kernel))) (.n) ?_
   rintro ⟨p26,c27⟩ -
   dsimp only [aq,nq,cq]
   refine zL rfl rfl (.c rfl (.c rfl .n)) ce123 (zCd (x1:=((Nat.gcd (yr s l1).natAbs (yr t l2).natAbs:Nat):Int)) (x2:=1) (p1:=p34) (c1:=c35) (p2:=p26) (c2:=c27) (hb1:=by first|rfl|assumption|omega|(rw [yg];omega)|(decide +kernel)) (hb2:=by first|rfl|assumption|omega|(rw [yg];omega)|(decide +kernel))) (.c (j:=1) rfl (.c (j:=0) rfl .n))<|e_p (zua rfl rfl)<|e_p (zb rfl)<|zh<|zd<|zH ?_
   exact zy Tryz.results88 () trivial (zl rfl) (congrArg Value.bool (decide_eq_decide.2 (Big.qok_sub (x:=((s,l1),(t,l2))) (Decidable.not_not.1 hc)).symm)) (ho:=(.n:PickO _ _ _)) (.n:SelR _ _ _)
theorem zJc {u1:Wd} {v1:Wd} {q1:Rat}:Con ye 88 [.agg #[u1.b,u1.l,v1.b,v1.l]] [] [qF true u1 v1 (q1)] (Y:=Unit) (fun y=>True) (fun y=> .bool true) (fun y=>[]) (fun y=>[]):=by
  exact zqg (fun x hx hk h1 h2=>by have h:= @zdd x.1.1 u1.p _ u1.c x.1.2 x.2.1 v1.p _ v1.c x.2.2 rfl rfl h1 h2;rw [decide_eq_true (hk rfl)] at h;exact h)
theorem zse {s:Bool} {p1:Option Addr} {n1:Nat} {c1:Nat} {l1:List Int} {t:Bool} {p2:Option Addr} {n2:Nat} {c2:Nat} {l2:List Int} (hn1:l1.length=n1) (hn2:l2.length=n2) (hm1:n1≤1048576) (hm2:n2≤1048576):Con ye 68 [.agg #[.bool s,.slice p1 n1 c1,.bool t,.slice p2 n2 c2]] [] [slF (rI .u32) p1 c1 l1,slF (rI .u32) p2 c2 l2] (Y:=Wd×Wd) (fun y=>True) (fun y=> .agg #[y.1.b,y.1.l,y.2.b,y.2.l]) (fun y=>[]) (fun y=>[qF true y.1 y.2 (Big.qv ((s,l1),(t,l2)))]):=by
 refine zm Tryz.func68 rfl rfl rfl (fun c=> ?_)
 show RunC _ _ _ _ _ [(0,.agg #[.bool s,.slice p1 n1 c1,.bool t,.slice p2 n2 c2])] [] [slF (rI .u32) p1 c1 l1,slF (rI .u32) p2 c2 l2]
 refine zba 0 rfl (fun hL0=> ?_)
 refine zSa 0 rfl (fun hE0=> ?_)
 refine zba 1 rfl (fun hL1=> ?_)
 refine zSa 1 rfl (fun hE1=> ?_)
 have hnn1:Big.nn l1:=fun g hg=>(zG.1 (hE0 g hg)).1
 have hnn2:Big.nn l2:=fun g hg=>(zG.1 (hE1 g hg)).1
 have hb1:Big.ln (yr s l1)≤n1:=by have:=Big.zTa (s:=s) hnn1;omega
 have hb2:Big.ln (yr t l2)≤n2:=by have:=Big.zTa (s:=t) hnn2;omega
 refine zg<|za<|zM rfl rfl (zR rfl rfl) (fun b1=> ?_)
 refine zM rfl rfl (zn zr43 rfl) (fun b2=> ?_)
 refine zh<|zd<|zg<|zg<|za<|e_ru (zc 1 ty43 rfl rfl (.t4 .nil))<|zL rfl rfl (.c rfl .n) ce88 (zdd (s:=s) (p1:=p1) (n1:=n1) (c1:=c1) (l1:=l1) (t:=t) (p2:=p2) (n2:=n2) (c2:=c2) (l2:=l2) (hn1:=ass) (hn2:=ass) (hm1:=ass) (hm2:=ass)) (.c (j:=0) rfl (.c (j:=1) rfl .n))<|zh<|zd<|zC rfl (fun hq=> ?_) (fun hq=> ?_)
 ·
  have hrp:=Big.raw_parts (x:=((s,l1),(t,l2))) hnn1 hnn2 hq
  have hqp:=Big.qv_parts (x:=((s,l1),(t,l2))) hq
  have hl:yk (Big.qv ((s,l1),(t,l2)))≤1048576:=by unfold yk;rw [hqp.1,hqp.2];dsimp only;omega
  refine zg<|za<|e_ru (zc 1 ty43 rfl rfl (.t4 .nil))<|zk 0 rfl rfl rfl rfl rfl sz43 rfl (.t4 .nil) .z<|zh<|zd<|zH<|zi<|zub (qF true ⟨s,p1,n1,c1⟩ ⟨t,p2,n2,c2⟩ (Big.qv ((s,l1),(t,l2)))) (fun g r=>qF_rawI 0 1 rfl rfl hn1 hn2 hm1 hm2 hq g r) ?_
  exact zy Tryz.results68 (⟨s,p1,n1,c1⟩,⟨t,p2,n2,c2⟩) trivial (zu 0 ty43 rfl rfl (.t4 .nil)) rfl (ho:=(.n:PickO _ _ _)) ((.c (j:=0) rfl .n):SelR _ _ _)
 ·
  have hz:=Big.qv_not (x:=((s,l1),(t,l2))) hq
  refine zA<|zd<|zg<|za<|zE rfl rfl (.c rfl .n) ce26 (zrd (z:=0) (hz:=by first|rfl|assumption|omega|(rw [yg];omega)|(decide +kernel))) (.n) ?_
  rintro ⟨w33,w44⟩ -
  dsimp only [aq,nq,cq]
  refine zk 0 rfl rfl rfl rfl rfl sz43 rfl (.t4 .nil) .z<|zh<|zd<|zH ?_
  exact zy Tryz.results68 (w33,w44) trivial (zu 0 ty43 rfl rfl (.t4 .nil)) rfl (ho:=(.n:PickO _ _ _)) ((.e (j:=0) rfl (by rw [hz];rfl) .n):SelR _ _ _)
theorem zXa {k1:Bool} {u1:Wd} {v1:Wd} {q1:Rat}:Con ye 68 [.agg #[u1.b,u1.l,v1.b,v1.l]] [] [qF k1 u1 v1 (q1)] (Y:=(Wd)×(Wd)) (fun y=>True) (fun y=> .agg #[y.1.b,y.1.l,y.2.b,y.2.l]) (fun y=>[]) (fun y=>[qF true y.1 y.2 (q1)]):=by
  exact ztf (fun x hx hk h1 h2 hl=>by subst hx;exact zse rfl rfl h1 h2)
theorem zTb {w1:Wd} {w2:Wd} {x1:Int} {x2:Int} (hl1:Big.ln x1≤1048576) (hl2:Big.ln x2≤1048576) (hd:x2≠0):Con ye 72 [.agg #[w1.b,w1.l],.agg #[w2.b,w2.l]] [] [zF w1 x1,zF w2 x2] (Y:=Wd×Wd) (fun y=>True) (fun y=> .agg #[y.1.b,y.1.l,y.2.b,y.2.l]) (fun y=>[]) (fun y=>[qF true y.1 y.2 (Rat.divInt x1 x2)]):=by
 refine zm Tryz.func72 rfl rfl rfl (fun c=> ?_)
 show RunC _ _ _ _ _ [(0,.agg #[w1.b,w1.l]),(1,.agg #[w2.b,w2.l])] [] [zF w1 x1,zF w2 x2]
 refine zg<|za<|zM rfl rfl (zR rfl rfl) (fun b1=> ?_)
 refine zM rfl rfl (zR rfl rfl) (fun b2=> ?_)
 refine zM rfl rfl (zn zr43 rfl) (fun b3=> ?_)
 refine zh<|zd<|zg<|za<|e_ru (zc 2 ty41 rfl rfl (.t2 .nil))<|e_ru (zc 1 ty41 rfl rfl (.t2 .nil))<|zE rfl rfl (.c rfl (.c rfl .n)) ce109 (zPf (w1:=w1) (w2:=w2) (x1:=x1) (x2:=x2) (hb1:=by first|rfl|assumption|omega|(rw [yg];omega)|(decide +kernel)) (hb2:=by first|rfl|assumption|omega|(rw [yg];omega)|(decide +kernel))) (.c (j:=0) rfl (.c (j:=1) rfl .n)) ?_
 rintro w34 -
 dsimp only [aq,nq,cq]
 refine zM rfl rfl (zn zr41 rfl) (fun b5=> ?_)
 refine zk 0 rfl rfl rfl rfl rfl sz41 rfl (.t2 .nil) .z<|zh<|zd<|zg<|zg<|za<|e_ru (zc 2 ty41 rfl rfl (.t2 .nil))<|zL rfl rfl (.c rfl .n) ce105 (zBc (w1:=w2) (x1:=x2) (hln:=by first|rfl|assumption|omega|(rw [yg];omega)|(decide +kernel))) (.c (j:=2) rfl .n)<|e_p (zY rfl rfl)<|zh<|zd<|zC rfl (fun hneg=> ?_) (fun hneg=> ?_)
 ·
  have hs:x2<0:=by rcases Big.sign_le (x:=x2) with h|h|h <;> omega
  have hgp:=Big.gcd_pos_right (n:=x1) (d:=x2) om
  have hgl:=Big.zPd (n:=x1) (d:=x2) om
  obtain ⟨hr1,hr2⟩:=Big.red_neg (n:=x1) hs
  refine za<|e_ru (zc 0 ty41 rfl rfl (.t2 .nil))<|zE rfl rfl (.c rfl .n) ce106 (zUd (w1:=w34) (x1:=((Nat.gcd x1.natAbs x2.natAbs:Nat):Int)) (hln:=by first|rfl|assumption|omega|(rw [yg];omega)|(decide +kernel))) (.c (j:=0) rfl .n) ?_
  rintro w36 -
  dsimp only [aq,nq,cq]
  refine zk 0 rfl rfl rfl rfl rfl sz41 rfl (.t2 .nil) .z<|zh<|zd<|zg<|za<|e_ru (zc 3 ty41 rfl rfl (.t2 .nil))<|e_ru (zc 0 ty41 rfl rfl (.t2 .nil))<|zE rfl rfl (.c rfl (.c rfl .n)) ce110 (zvb (w1:=w1) (w2:=w36) (x1:=x1) (x2:= - ((Nat.gcd x1.natAbs x2.natAbs:Nat):Int)) (hb1:=by first|rfl|assumption|omega|(rw [yg];omega)|(decide +kernel)) (hb2:=by first|rfl|assumption|omega|(rw [yg];omega)|(decide +kernel)) (hy:=by first|rfl|assumption|omega|(rw [yg];omega)|(decide +kernel))) (.c (j:=2) rfl (.c (j:=0) rfl .n)) ?_
  rintro ⟨w37,w48⟩ -
  dsimp only [aq,nq,cq]
  refine e_mv rfl<|e_p (zr rfl rfl)<|e_p (zr rfl rfl)<|e_p (zr rfl rfl)<|zM rfl rfl (zn zr41 rfl) (fun b9=> ?_)
  refine zM rfl rfl (zn zr41 rfl) (fun b10=> ?_)
  refine zk 1 rfl rfl rfl rfl rfl sz41 rfl (.t2 .nil) (.s .z)<|zk 0 rfl rfl rfl rfl rfl sz41 rfl (.t2 .nil) .z<|e_p (zb rfl)<|zh<|zd<|zg<|za<|e_ru (zc 4 ty41 rfl rfl (.t2 .nil))<|e_ru (zc 2 ty41 rfl rfl (.t2 .nil))<|zE rfl rfl (.c rfl (.c rfl .n)) ce110 (zvb (w1:=w2) (w2:=w36) (x1:=x2) (x2:= - ((Nat.gcd x1.natAbs x2.natAbs:Nat):Int)) (hb1:=by first|rfl|assumption|omega|(rw [yg];omega)|(decide +kernel)) (hb2:=by first|rfl|assumption|omega|(rw [yg];omega)|(decide +kernel)) (hy:=by first|rfl|assumption|omega|(rw [yg];omega)|(decide +kernel))) (.c (j:=5) rfl (.c (j:=2) rfl .n)) ?_
  rintro ⟨w311,w412⟩ -
  dsimp only [aq,nq,cq]
  refine e_mv rfl<|e_p (zr rfl rfl)<|e_p (zr rfl rfl)<|e_p (zr rfl rfl)<|zM rfl rfl (zn zr41 rfl) (fun b13=> ?_)
  refine zM rfl rfl (zn zr41 rfl) (fun b14=> ?_)
  refine zk 1 rfl rfl rfl rfl rfl sz41 rfl (.t2 .nil) (.s .z)<|zk 0 rfl rfl rfl rfl rfl sz41 rfl (.t2 .nil) .z<|e_p (zb rfl)<|zh<|zd<|zg<|za<|e_ru (zc 3 ty41 rfl rfl (.t2 .nil))<|e_ru (zc 1 ty41 rfl rfl (.t2 .nil))<|e_p (zJ zr43 rfl yb (.c sz41 (.c sz41 .n)) (.c rfl (.c rfl .n)) (.c rfl rfl rfl (.t2 .nil) (.c rfl rfl rfl (.s2 (.t2 .nil)) .n)))<|zk 5 rfl rfl rfl rfl rfl sz43 rfl (.t4 .nil) (.s (.s (.s (.s (.s .z)))))<|zh<|zd<|zH<|zub (qF true w37 w311 (Rat.divInt x1 x2)) (qF_close 2 0 rfl rfl (by exact ⟨hr1,hr2,Nat.le_trans (Big.hq_divInt hd) om⟩)) ?_
  exact zy Tryz.results72 (w37,w311) trivial (zu 5 ty43 rfl rfl (.t4 .nil)) rfl (ho:=(.n:PickO _ _ _)) ((.c (j:=0) rfl .n):SelR _ _ _)
 ·
  have hs:0<x2:=by rcases Big.sign_le (x:=x2) with h|h|h <;> omega
  have hgp:=Big.gcd_pos_right (n:=x1) (d:=x2) om
  have hgl:=Big.zPd (n:=x1) (d:=x2) om
  obtain ⟨hr1,hr2⟩:=Big.red_pos (n:=x1) hs
  refine zA<|zd<|zg<|za<|e_ru (zc 3 ty41 rfl rfl (.t2 .nil))<|e_ru (zc 0 ty41 rfl rfl (.t2 .nil))<|zE rfl rfl (.c rfl (.c rfl .n)) ce110 (zvb (w1:=w1) (w2:=w34) (x1:=x1) (x2:=((Nat.gcd x1.natAbs x2.natAbs:Nat):Int)) (hb1:=by first|rfl|assumption|omega|(rw [yg];omega)|(decide +kernel)) (hb2:=by first|rfl|assumption|omega|(rw [yg];omega)|(decide +kernel)) (hy:=by first|rfl|assumption|omega|(rw [yg];omega)|(decide +kernel))) (.c (j:=1) rfl (.c (j:=0) rfl .n)) ?_
  rintro ⟨w315,w416⟩ -
  dsimp only [aq,nq,cq]
  refine e_mv rfl<|e_p (zr rfl rfl)<|e_p (zr rfl rfl)<|e_p (zr rfl rfl)<|zM rfl rfl (zn zr41 rfl) (fun b17=> ?_)
  refine zM rfl rfl (zn zr41 rfl) (fun b18=> ?_)
  refine zk 1 rfl rfl rfl rfl rfl sz41 rfl (.t2 .nil) (.s .z)<|zk 0 rfl rfl rfl rfl rfl sz41 rfl (.t2 .nil) .z<|e_p (zb rfl)<|zh<|zd<|zg<|za<|e_ru (zc 4 ty41 rfl rfl (.t2 .nil))<|e_ru (zc 2 ty41 rfl rfl (.t2 .nil))<|zE rfl rfl (.c rfl (.c rfl .n)) ce110 (zvb (w1:=w2) (w2:=w34) (x1:=x2) (x2:=((Nat.gcd x1.natAbs x2.natAbs:Nat):Int)) (hb1:=by first|rfl|assumption|omega|(rw [yg];omega)|(decide +kernel)) (hb2:=by first|rfl|assumption|omega|(rw [yg];omega)|(decide +kernel)) (hy:=by first|rfl|assumption|omega|(rw [yg];omega)|(decide +kernel))) (.c (j:=4) rfl (.c (j:=2) rfl .n)) ?_
  rintro ⟨w319,w420⟩ -
  dsimp only [aq,nq,cq]
  refine e_mv rfl<|e_p (zr rfl rfl)<|e_p (zr rfl rfl)<|e_p (zr rfl rfl)<|zM rfl rfl (zn zr41 rfl) (fun b21=> ?_)
  refine zM rfl rfl (zn zr41 rfl) (fun b22=> ?_)
  refine zk 1 rfl rfl rfl rfl rfl sz41 rfl (.t2 .nil) (.s .z)<|zk 0 rfl rfl rfl rfl rfl sz41 rfl (.t2 .nil) .z<|e_p (zb rfl)<|zh<|zd<|zg<|za<|e_ru (zc 3 ty41 rfl rfl (.t2 .nil))<|e_ru (zc 1 ty41 rfl rfl (.t2 .nil))<|e_p (zJ zr43 rfl yb (.c sz41 (.c sz41 .n)) (.c rfl (.c rfl .n)) (.c rfl rfl rfl (.t2 .nil) (.c rfl rfl rfl (.s2 (.t2 .nil)) .n)))<|zk 5 rfl rfl rfl rfl rfl sz43 rfl (.t4 .nil) (.s (.s (.s (.s (.s .z)))))<|zh<|zd<|zH<|zub (qF true w315 w319 (Rat.divInt x1 x2)) (qF_close 2 0 rfl rfl (by exact ⟨hr1,hr2,Nat.le_trans (Big.hq_divInt hd) om⟩)) ?_
  exact zy Tryz.results72 (w315,w319) trivial (zu 5 ty43 rfl rfl (.t4 .nil)) rfl (ho:=(.n:PickO _ _ _)) ((.c (j:=0) rfl .n):SelR _ _ _)
theorem zng {w1:Wd} {w2:Wd} {x1:Int} {x2:Int} (hl1:Big.ln x1≤1048576) (hl2:Big.ln x2≤1048576):Con ye 127 [.agg #[w1.b,w1.l],.agg #[w2.b,w2.l]] [] [zF w1 x1,zF w2 x2] (Y:=Wd×Wd) (fun y=>True) (fun y=> .tuple #[.agg #[y.1.b,y.1.l,y.2.b,y.2.l],.int .i64 (if x2=0 then 14 else 0)]) (fun y=>[]) (fun y=>[qF (decide (x2≠0)) y.1 y.2 (Rat.divInt x1 x2)]):=by
 refine zm Tryz.func127 rfl rfl rfl (fun c=> ?_)
 show RunC _ _ _ _ _ [(0,.agg #[w1.b,w1.l]),(1,.agg #[w2.b,w2.l])] [] [zF w1 x1,zF w2 x2]
 refine zg<|za<|zM rfl rfl (zR rfl rfl) (fun b1=> ?_)
 refine zM rfl rfl (zR rfl rfl) (fun b2=> ?_)
 refine zM rfl rfl (zn zr43 rfl) (fun b3=> ?_)
 refine e_p (zb rfl)<|zh<|zd<|zg<|zg<|za<|e_ru (zc 1 ty41 rfl rfl (.t2 .nil))<|zL rfl rfl (.c rfl .n) ce105 (zBc (w1:=w2) (x1:=x2) (hln:=by first|rfl|assumption|omega|(rw [yg];omega)|(decide +kernel))) (.c (j:=1) rfl .n)<|e_p (zua rfl rfl)<|zh<|zd<|zC rfl (fun hz0=> ?_) (fun hz0=> ?_)
 ·
  have hx0:x2=0:=Big.sign_zero.1 hz0
  refine zg<|za<|e_p (zJ zr43 rfl yb (.c sz41 (.c sz41 .n)) .n .n)<|zk 0 rfl rfl rfl rfl rfl sz43 rfl (.t4 .nil) .z<|e_p (zb rfl)<|zh<|zd<|zH<|zi<|zub (qF false wz wz 0) (fun g _=>qF_none g) ?_
  exact zra Tryz.results127 (wz,wz) trivial (zu 0 ty43 rfl rfl (.t4 .nil)) (zl rfl) (by rw [if_pos hx0];rfl) (ho:=(.n:PickO _ _ _)) ((.e (j:=0) rfl (by rw [Big.divInt_nil hx0,decide_eq_false (not_not_intro hx0)]) .n):SelR _ _ _)
 ·
  have hx0:x2≠0:=fun e=>hz0 (Big.sign_zero.2 e)
  refine zA<|zd<|zg<|za<|e_ru (zc 2 ty41 rfl rfl (.t2 .nil))<|e_ru (zc 1 ty41 rfl rfl (.t2 .nil))<|zE rfl rfl (.c rfl (.c rfl .n)) ce72 (zTb (w1:=w1) (w2:=w2) (x1:=x1) (x2:=x2) (hl1:=ass) (hl2:=ass) (hd:=by first|rfl|assumption|omega|(rw [yg];omega)|(decide +kernel))) (.c (j:=0) rfl (.c (j:=1) rfl .n)) ?_
  rintro ⟨w34,w45⟩ -
  dsimp only [aq,nq,cq]
  refine zk 0 rfl rfl rfl rfl rfl sz43 rfl (.t4 .nil) .z<|e_p (zb rfl)<|zh<|zd<|zH ?_
  exact zra Tryz.results127 (w34,w45) trivial (zu 0 ty43 rfl rfl (.t4 .nil)) (zl rfl) (by rw [if_neg hx0]) (ho:=(.n:PickO _ _ _)) ((.e (j:=0) rfl (by rw [decide_eq_true hx0]) .n):SelR _ _ _)
theorem zog {z1:Int} {z2:Int} (hz1: -9223372036854775808≤z1∧z1≤9223372036854775807) (hz2: -9223372036854775808≤z2∧z2≤9223372036854775807):Con ye 107 [.int .i64 z1,.int .i64 z2] [] [] (Y:=Wd×Wd) (fun y=>True) (fun y=> .tuple #[.agg #[y.1.b,y.1.l,y.2.b,y.2.l],.int .i64 (if z2=0 then 14 else 0)]) (fun y=>[]) (fun y=>[qF (decide (z2≠0)) y.1 y.2 (Rat.divInt z1 z2)]):=by
 refine zm Tryz.func107 rfl rfl rfl (fun c=> ?_)
 show RunC _ _ _ _ _ [(0,.int .i64 z1),(1,.int .i64 z2)] [] []
 have g1:=Big.zNd hz1.1 hz1.2
 have g2:=Big.zNd hz2.1 hz2.2
 refine zg<|za<|zM rfl rfl (zn zr43 rfl) (fun b1=> ?_)
 refine e_p (zb rfl)<|zh<|zd<|zg<|za<|e_mv rfl<|zE rfl rfl (.c rfl .n) ce74 (zJb (z:=z1) (hz:=ass)) (.n) ?_
 rintro w32 -
 dsimp only [aq,nq,cq]
 refine e_mv rfl<|zE rfl rfl (.c rfl .n) ce74 (zJb (z:=z2) (hz:=ass)) (.n) ?_
 rintro w33 -
 dsimp only [aq,nq,cq]
 refine zE rfl rfl (.c rfl (.c rfl .n)) ce127 (zng (w1:=w32) (w2:=w33) (x1:=z1) (x2:=z2) (hl1:=by first|rfl|assumption|omega|(rw [yg];omega)|(decide +kernel)) (hl2:=by first|rfl|assumption|omega|(rw [yg];omega)|(decide +kernel))) (.c (j:=1) rfl (.c (j:=0) rfl .n)) ?_
 rintro ⟨w34,w45⟩ -
 dsimp only [aq,nq,cq]
 refine e_p (zr rfl rfl)<|e_p (zr rfl rfl)<|zk 0 rfl rfl rfl rfl rfl sz43 rfl (.t4 .nil) .z<|e_p (zb rfl)<|zh<|zd<|zH ?_
 exact zra Tryz.results107 (w34,w45) trivial (zu 0 ty43 rfl rfl (.t4 .nil)) (zl rfl) rfl (ho:=(.n:PickO _ _ _)) ((.c (j:=0) rfl .n):SelR _ _ _)
theorem zZe {z1:Int} {z2:Int} (hz1: -9223372036854775808≤z1∧z1≤9223372036854775807) (hz2: -9223372036854775808≤z2∧z2≤9223372036854775807) (hy:z2≠0):Con ye 107 [.int .i64 (z1),.int .i64 (z2)] [] [] (Y:=(Wd)×(Wd)) (fun y=>True) (fun y=> .tuple #[.agg #[y.1.b,y.1.l,y.2.b,y.2.l],.int .i64 (0)]) (fun y=>[]) (fun y=>[qF true y.1 y.2 (Rat.divInt z1 z2)]):=by
  have h:=zog hz1 hz2
  rw [if_neg hy,decide_eq_true hy] at h
  exact h
theorem zaf {k1:Bool} {u1:Wd} {v1:Wd} {q1:Rat} (hl:yk q1≤1048576):Con ye 66 [.agg #[u1.b,u1.l,v1.b,v1.l]] [] [qF k1 u1 v1 q1] (Y:=Unit) (fun y=>True) (fun y=> .int .i64 (Big.sgq q1)) (fun y=>[]) (fun y=>[]):=by
 refine zm Tryz.func66 rfl rfl rfl (fun c=> ?_)
 show RunC _ _ _ _ _ [(0,.agg #[u1.b,u1.l,v1.b,v1.l])] [] [qF k1 u1 v1 q1]
 have a1:=yl q1
 have a2:=ym q1
 refine zg<|za<|zM rfl rfl (zR rfl rfl) (fun b1=> ?_)
 refine e_p (zb rfl)<|zh<|zd<|zg<|za<|e_ru (zc 0 ty43 rfl rfl (.t4 .nil))<|zE rfl rfl (.c rfl .n) ce68 (zXa (k1:=k1) (u1:=u1) (v1:=v1) (q1:=q1)) (.c (j:=0) rfl .n) ?_
 rintro ⟨w32,w43⟩ -
 dsimp only [aq,nq,cq]
 refine e_p (zFc yb rfl ty41 rfl (.t2 .nil))<|zEc (qF_open 0 rfl) (fun _ _=> ?_)
 refine zL rfl rfl (.c rfl .n) ce105 (zBc (w1:=w32) (x1:=(q1).num) (hln:=by first|rfl|assumption|omega|(rw [yg];omega)|(decide +kernel))) (.c (j:=0) rfl .n)<|e_p (zb rfl)<|zh<|zd<|zH ?_
 exact zy Tryz.results66 () trivial (zl rfl) rfl (ho:=(.n:PickO _ _ _)) (.n:SelR _ _ _)
theorem zQf {k1:Bool} {u1:Wd} {v1:Wd} {q1:Rat} (hl:yk q1≤1048576):Con ye 67 [.agg #[u1.b,u1.l,v1.b,v1.l]] [] [qF k1 u1 v1 q1] (Y:=Wd×Wd) (fun y=>True) (fun y=> .agg #[y.1.b,y.1.l,y.2.b,y.2.l]) (fun y=>[]) (fun y=>[qF true y.1 y.2 (- q1)]):=by
 refine zm Tryz.func67 rfl rfl rfl (fun c=> ?_)
 show RunC _ _ _ _ _ [(0,.agg #[u1.b,u1.l,v1.b,v1.l])] [] [qF k1 u1 v1 q1]
 have a1:=yl q1
 have a2:=ym q1
 refine zg<|za<|zM rfl rfl (zR rfl rfl) (fun b1=> ?_)
 refine zM rfl rfl (zn zr43 rfl) (fun b2=> ?_)
 refine zh<|zd<|zg<|za<|e_ru (zc 1 ty43 rfl rfl (.t4 .nil))<|zE rfl rfl (.c rfl .n) ce68 (zXa (k1:=k1) (u1:=u1) (v1:=v1) (q1:=q1)) (.c (j:=0) rfl .n) ?_
 rintro ⟨w33,w44⟩ -
 dsimp only [aq,nq,cq]
 refine zM rfl rfl (zn zr43 rfl) (fun b5=> ?_)
 refine zk 0 rfl rfl rfl rfl rfl sz43 rfl (.t4 .nil) .z<|zh<|zd<|zg<|zqa (.c (i:=1) rfl (.c (i:=0) rfl (.c (i:=0) rfl .n)))<|zW (OW:=[boxA b2 43 (cw [wz,wz])]) (O:=[boxA b5 43 (cw [w33,w44]),boxA b1 43 (cw [u1,v1])]) 6 mixed (.then .ret) kr<|e_pv 0 rfl rfl (ze yb rfl sz41 rfl rfl)<|e_uw 1 rfl rfl (zc 1 ty41 rfl rfl (.t2 .nil))<|e_pv 3 rfl rfl (ze yb rfl sz41 rfl rfl)<|e_uw 4 rfl rfl (zc 1 ty41 rfl rfl (.s2 (.t2 .nil)))<|zKb (qF_open 0 rfl) (fun _ _=> ?_)
 refine e_one 2 (zw rfl rfl rfl rfl (.c rfl .n) ce106 (zUd (w1:=w33) (x1:=(q1).num) (hln:=by first|rfl|assumption|omega|(rw [yg];omega)|(decide +kernel))) (.c (j:=0) rfl .n) ?_)
 rintro w36 -
 dsimp only [aq,nq,cq]
 refine e_pv 5 rfl rfl (zJ zr43 rfl yb (.c sz41 (.c sz41 .n)) (.c rfl (.c rfl .n)) (.c rfl rfl rfl (.t2 .nil) (.c rfl rfl rfl (.s2 (.t2 .nil)) .n)))<|e_one 6 (zv kr rfl rfl rfl rfl rfl sz43 rfl (.t4 .nil) ?_)
 refine zT kr<|zd<|zH<|zub (qF true w36 w44 (- q1)) (qF_close 0 2 rfl rfl (by exact ⟨(Rat.neg_num q1).symm,by rw [Rat.neg_den],by rw [Big.hq_neg];exact hl⟩)) ?_
 exact zy Tryz.results67 (w36,w44) trivial (zu 0 ty43 rfl rfl (.t4 .nil)) rfl (ho:=(.n:PickO _ _ _)) ((.c (j:=0) rfl .n):SelR _ _ _)
theorem zvc {k1:Bool} {u1:Wd} {v1:Wd} {q1:Rat} {k2:Bool} {u2:Wd} {v2:Wd} {q2:Rat} (hl:yk q1+yk q2+1≤1048576):Con ye 70 [.agg #[u1.b,u1.l,v1.b,v1.l],.agg #[u2.b,u2.l,v2.b,v2.l]] [] [qF k1 u1 v1 q1,qF k2 u2 v2 q2] (Y:=Wd×Wd) (fun y=>True) (fun y=> .agg #[y.1.b,y.1.l,y.2.b,y.2.l]) (fun y=>[]) (fun y=>[qF true y.1 y.2 (q1+q2)]):=by
 refine zm Tryz.func70 rfl rfl rfl (fun c=> ?_)
 show RunC _ _ _ _ _ [(0,.agg #[u1.b,u1.l,v1.b,v1.l]),(1,.agg #[u2.b,u2.l,v2.b,v2.l])] [] [qF k1 u1 v1 q1,qF k2 u2 v2 q2]
 have a1:=yl q1
 have a2:=ym q1
 have a3:=yl q2
 have a4:=ym q2
 have b1:=yt q1.num q2.den
 have b2:=yt q2.num q1.den
 have b3:=Big.zVc (q1.num*q2.den) (q2.num*q1.den)
 have b4:=yt (q1.den:Int) q2.den
 have b5:=yt q1.num q2.num
 refine zg<|za<|zM rfl rfl (zR rfl rfl) (fun b1=> ?_)
 refine zM rfl rfl (zR rfl rfl) (fun b2=> ?_)
 refine zM rfl rfl (zn zr43 rfl) (fun b3=> ?_)
 refine zh<|zd<|zg<|za<|e_ru (zc 2 ty43 rfl rfl (.t4 .nil))<|zE rfl rfl (.c rfl .n) ce68 (zXa (k1:=k1) (u1:=u1) (v1:=v1) (q1:=q1)) (.c (j:=0) rfl .n) ?_
 rintro ⟨w34,w45⟩ -
 dsimp only [aq,nq,cq]
 refine zM rfl rfl (zn zr43 rfl) (fun b6=> ?_)
 refine zk 0 rfl rfl rfl rfl rfl sz43 rfl (.t4 .nil) .z<|zh<|zd<|zg<|za<|e_ru (zc 2 ty43 rfl rfl (.t4 .nil))<|zE rfl rfl (.c rfl .n) ce68 (zXa (k1:=k2) (u1:=u2) (v1:=v2) (q1:=q2)) (.c (j:=2) rfl .n) ?_
 rintro ⟨w37,w48⟩ -
 dsimp only [aq,nq,cq]
 refine zM rfl rfl (zn zr43 rfl) (fun b9=> ?_)
 refine zk 0 rfl rfl rfl rfl rfl sz43 rfl (.t4 .nil) .z<|zh<|zd<|zg<|zqa (.c (i:=2) rfl (.c (i:=0) rfl (.c (i:=0) rfl (.c (i:=0) rfl (.c (i:=0) rfl .n)))))<|zW (OW:=[boxA b3 43 (cw [wz,wz])]) (O:=[boxA b9 43 (cw [w37,w48]),boxA b6 43 (cw [w34,w45]),boxA b2 43 (cw [u2,v2]),boxA b1 43 (cw [u1,v1])]) 17 mixed (.then .ret) kr<|e_pv 0 rfl rfl (ze yb rfl sz41 rfl rfl)<|e_uw 1 rfl rfl (zc 2 ty41 rfl rfl (.t2 .nil))<|e_pv 2 rfl rfl (ze yb rfl sz41 rfl rfl)<|e_uw 3 rfl rfl (zc 1 ty41 rfl rfl (.s2 (.t2 .nil)))<|e_pv 5 rfl rfl (ze yb rfl sz41 rfl rfl)<|e_uw 6 rfl rfl (zc 1 ty41 rfl rfl (.t2 .nil))<|e_pv 7 rfl rfl (ze yb rfl sz41 rfl rfl)<|e_uw 8 rfl rfl (zc 2 ty41 rfl rfl (.s2 (.t2 .nil)))<|e_pv 11 rfl rfl (ze yb rfl sz41 rfl rfl)<|e_uw 12 rfl rfl (zc 2 ty41 rfl rfl (.s2 (.t2 .nil)))<|e_pv 13 rfl rfl (ze yb rfl sz41 rfl rfl)<|e_uw 14 rfl rfl (zc 1 ty41 rfl rfl (.s2 (.t2 .nil)))<|zKb (qF_open 1 rfl) (fun _ _=> ?_)
 refine zKb (qF_open 2 rfl) (fun _ _=> ?_)
 refine e_one 4 (zw rfl rfl rfl rfl (.c rfl (.c rfl .n)) ce73 (zSb (w1:=w34) (w2:=w48) (x1:=(q1).num) (x2:=(((q2).den:Nat):Int)) (hb1:=by first|rfl|assumption|omega|(rw [yg];omega)|(decide +kernel)) (hb2:=by first|rfl|assumption|omega|(rw [yg];omega)|(decide +kernel))) (.c (j:=2) rfl (.c (j:=1) rfl .n)) ?_)
 rintro w310 -
 dsimp only [aq,nq,cq]
 refine e_one 9 (zw rfl rfl rfl rfl (.c rfl (.c rfl .n)) ce73 (zSb (w1:=w37) (w2:=w45) (x1:=(q2).num) (x2:=(((q1).den:Nat):Int)) (hb1:=by first|rfl|assumption|omega|(rw [yg];omega)|(decide +kernel)) (hb2:=by first|rfl|assumption|omega|(rw [yg];omega)|(decide +kernel))) (.c (j:=1) rfl (.c (j:=4) rfl .n)) ?_)
 rintro w311 -
 dsimp only [aq,nq,cq]
 refine e_one 10 (zw rfl rfl rfl rfl (.c rfl (.c rfl .n)) ce108 (zNf (w1:=w310) (w2:=w311) (x1:=((q1).num)*(((q2).den:Nat):Int)) (x2:=((q2).num)*(((q1).den:Nat):Int)) (hb1:=by first|rfl|assumption|omega|(rw [yg];omega)|(decide +kernel)) (hb2:=by first|rfl|assumption|omega|(rw [yg];omega)|(decide +kernel))) (.c (j:=1) rfl (.c (j:=0) rfl .n)) ?_)
 rintro w312 -
 dsimp only [aq,nq,cq]
 refine e_one 15 (zw rfl rfl rfl rfl (.c rfl (.c rfl .n)) ce73 (zSb (w1:=w45) (w2:=w48) (x1:=(((q1).den:Nat):Int)) (x2:=(((q2).den:Nat):Int)) (hb1:=by first|rfl|assumption|omega|(rw [yg];omega)|(decide +kernel)) (hb2:=by first|rfl|assumption|omega|(rw [yg];omega)|(decide +kernel))) (.c (j:=6) rfl (.c (j:=4) rfl .n)) ?_)
 rintro w313 -
 dsimp only [aq,nq,cq]
 refine e_one 16 (zw rfl rfl rfl rfl (.c rfl (.c rfl .n)) ce72 (zTb (w1:=w312) (w2:=w313) (x1:=(((q1).num)*(((q2).den:Nat):Int))+(((q2).num)*(((q1).den:Nat):Int))) (x2:=(((q1).den:Nat):Int)*(((q2).den:Nat):Int)) (hl1:=by first|rfl|assumption|omega|(rw [yg];omega)|(decide +kernel)) (hl2:=by first|rfl|assumption|omega|(rw [yg];omega)|(decide +kernel)) (hd:=by exact Int.mul_ne_zero (Big.den_ne q1) (Big.den_ne q2))) (.c (j:=1) rfl (.c (j:=0) rfl .n)) ?_)
 rintro ⟨w314,w415⟩ -
 dsimp only [aq,nq,cq]
 refine e_one 17 (zv kr rfl rfl rfl rfl rfl sz43 rfl (.t4 .nil) ?_)
 refine zT kr<|zd<|zH ?_
 exact zy Tryz.results70 (w314,w415) trivial (zu 0 ty43 rfl rfl (.t4 .nil)) rfl (ho:=(.n:PickO _ _ _)) ((.e (j:=0) rfl (by rw [Big.add_parts]) .n):SelR _ _ _)
theorem zAb {k1:Bool} {u1:Wd} {v1:Wd} {q1:Rat} {k2:Bool} {u2:Wd} {v2:Wd} {q2:Rat} (hl:yk q1+yk q2+1≤1048576):Con ye 25 [.agg #[u1.b,u1.l,v1.b,v1.l],.agg #[u2.b,u2.l,v2.b,v2.l]] [] [qF k1 u1 v1 q1,qF k2 u2 v2 q2] (Y:=Wd×Wd) (fun y=>True) (fun y=> .agg #[y.1.b,y.1.l,y.2.b,y.2.l]) (fun y=>[]) (fun y=>[qF true y.1 y.2 (q1*q2)]):=by
 refine zm Tryz.func25 rfl rfl rfl (fun c=> ?_)
 show RunC _ _ _ _ _ [(0,.agg #[u1.b,u1.l,v1.b,v1.l]),(1,.agg #[u2.b,u2.l,v2.b,v2.l])] [] [qF k1 u1 v1 q1,qF k2 u2 v2 q2]
 have a1:=yl q1
 have a2:=ym q1
 have a3:=yl q2
 have a4:=ym q2
 have b1:=yt q1.num q2.den
 have b2:=yt q2.num q1.den
 have b3:=Big.zVc (q1.num*q2.den) (q2.num*q1.den)
 have b4:=yt (q1.den:Int) q2.den
 have b5:=yt q1.num q2.num
 refine zg<|za<|zM rfl rfl (zR rfl rfl) (fun b1=> ?_)
 refine zM rfl rfl (zR rfl rfl) (fun b2=> ?_)
 refine zM rfl rfl (zn zr43 rfl) (fun b3=> ?_)
 refine zh<|zd<|zg<|za<|e_ru (zc 2 ty43 rfl rfl (.t4 .nil))<|zE rfl rfl (.c rfl .n) ce68 (zXa (k1:=k1) (u1:=u1) (v1:=v1) (q1:=q1)) (.c (j:=0) rfl .n) ?_
 rintro ⟨w34,w45⟩ -
 dsimp only [aq,nq,cq]
 refine zM rfl rfl (zn zr43 rfl) (fun b6=> ?_)
 refine zk 0 rfl rfl rfl rfl rfl sz43 rfl (.t4 .nil) .z<|zh<|zd<|zg<|za<|e_ru (zc 2 ty43 rfl rfl (.t4 .nil))<|zE rfl rfl (.c rfl .n) ce68 (zXa (k1:=k2) (u1:=u2) (v1:=v2) (q1:=q2)) (.c (j:=2) rfl .n) ?_
 rintro ⟨w37,w48⟩ -
 dsimp only [aq,nq,cq]
 refine zM rfl rfl (zn zr43 rfl) (fun b9=> ?_)
 refine zk 0 rfl rfl rfl rfl rfl sz43 rfl (.t4 .nil) .z<|zh<|zd<|zg<|zqa (.c (i:=2) rfl (.c (i:=0) rfl (.c (i:=0) rfl (.c (i:=0) rfl (.c (i:=0) rfl .n)))))<|zW (OW:=[boxA b3 43 (cw [wz,wz])]) (O:=[boxA b9 43 (cw [w37,w48]),boxA b6 43 (cw [w34,w45]),boxA b2 43 (cw [u2,v2]),boxA b1 43 (cw [u1,v1])]) 11 mixed (.then .ret) kr<|e_pv 0 rfl rfl (ze yb rfl sz41 rfl rfl)<|e_uw 1 rfl rfl (zc 2 ty41 rfl rfl (.t2 .nil))<|e_pv 2 rfl rfl (ze yb rfl sz41 rfl rfl)<|e_uw 3 rfl rfl (zc 1 ty41 rfl rfl (.t2 .nil))<|e_pv 5 rfl rfl (ze yb rfl sz41 rfl rfl)<|e_uw 6 rfl rfl (zc 2 ty41 rfl rfl (.s2 (.t2 .nil)))<|e_pv 7 rfl rfl (ze yb rfl sz41 rfl rfl)<|e_uw 8 rfl rfl (zc 1 ty41 rfl rfl (.s2 (.t2 .nil)))<|zKb (qF_open 1 rfl) (fun _ _=> ?_)
 refine zKb (qF_open 2 rfl) (fun _ _=> ?_)
 refine e_one 4 (zw rfl rfl rfl rfl (.c rfl (.c rfl .n)) ce73 (zSb (w1:=w34) (w2:=w37) (x1:=(q1).num) (x2:=(q2).num) (hb1:=by first|rfl|assumption|omega|(rw [yg];omega)|(decide +kernel)) (hb2:=by first|rfl|assumption|omega|(rw [yg];omega)|(decide +kernel))) (.c (j:=2) rfl (.c (j:=0) rfl .n)) ?_)
 rintro w310 -
 dsimp only [aq,nq,cq]
 refine e_one 9 (zw rfl rfl rfl rfl (.c rfl (.c rfl .n)) ce73 (zSb (w1:=w45) (w2:=w48) (x1:=(((q1).den:Nat):Int)) (x2:=(((q2).den:Nat):Int)) (hb1:=by first|rfl|assumption|omega|(rw [yg];omega)|(decide +kernel)) (hb2:=by first|rfl|assumption|omega|(rw [yg];omega)|(decide +kernel))) (.c (j:=4) rfl (.c (j:=2) rfl .n)) ?_)
 rintro w311 -
 dsimp only [aq,nq,cq]
 refine e_one 10 (zw rfl rfl rfl rfl (.c rfl (.c rfl .n)) ce72 (zTb (w1:=w310) (w2:=w311) (x1:=((q1).num)*((q2).num)) (x2:=(((q1).den:Nat):Int)*(((q2).den:Nat):Int)) (hl1:=by first|rfl|assumption|omega|(rw [yg];omega)|(decide +kernel)) (hl2:=by first|rfl|assumption|omega|(rw [yg];omega)|(decide +kernel)) (hd:=by exact Int.mul_ne_zero (Big.den_ne q1) (Big.den_ne q2))) (.c (j:=1) rfl (.c (j:=0) rfl .n)) ?_)
 rintro ⟨w312,w413⟩ -
 dsimp only [aq,nq,cq]
 refine e_one 11 (zv kr rfl rfl rfl rfl rfl sz43 rfl (.t4 .nil) ?_)
 refine zT kr<|zd<|zH ?_
 exact zy Tryz.results25 (w312,w413) trivial (zu 0 ty43 rfl rfl (.t4 .nil)) rfl (ho:=(.n:PickO _ _ _)) ((.e (j:=0) rfl (by rw [Big.mul_parts]) .n):SelR _ _ _)
theorem zae {k1:Bool} {u1:Wd} {v1:Wd} {q1:Rat} {k2:Bool} {u2:Wd} {v2:Wd} {q2:Rat} (hl:yk q1+yk q2+1≤1048576):Con ye 71 [.agg #[u1.b,u1.l,v1.b,v1.l],.agg #[u2.b,u2.l,v2.b,v2.l]] [] [qF k1 u1 v1 q1,qF k2 u2 v2 q2] (Y:=Wd×Wd) (fun y=>True) (fun y=> .agg #[y.1.b,y.1.l,y.2.b,y.2.l]) (fun y=>[]) (fun y=>[qF true y.1 y.2 (q1 - q2)]):=by
 refine zm Tryz.func71 rfl rfl rfl (fun c=> ?_)
 show RunC _ _ _ _ _ [(0,.agg #[u1.b,u1.l,v1.b,v1.l]),(1,.agg #[u2.b,u2.l,v2.b,v2.l])] [] [qF k1 u1 v1 q1,qF k2 u2 v2 q2]
 have a1:=yl q1
 have a2:=ym q1
 have a3:=yl q2
 have a4:=ym q2
 refine zg<|za<|zM rfl rfl (zR rfl rfl) (fun b1=> ?_)
 refine zM rfl rfl (zR rfl rfl) (fun b2=> ?_)
 refine zM rfl rfl (zn zr43 rfl) (fun b3=> ?_)
 refine zh<|zd<|zg<|zW (OW:=[boxA b3 43 (cw [wz,wz])]) (O:=[boxA b2 43 (cw [u2,v2]),boxA b1 43 (cw [u1,v1])]) 4 mixed (.then .ret) kr<|e_uw 0 rfl rfl (zc 2 ty43 rfl rfl (.t4 .nil))<|e_uw 1 rfl rfl (zc 1 ty43 rfl rfl (.t4 .nil))<|e_one 2 (zw rfl rfl rfl rfl (.c rfl .n) ce67 (zQf (k1:=k2) (u1:=u2) (v1:=v2) (q1:=q2) (hl:=by first|rfl|assumption|omega|(rw [yg];omega)|(decide +kernel)|(rw [Big.hq_neg];omega))) (.c (j:=1) rfl .n) ?_)
 rintro ⟨w34,w45⟩ -
 dsimp only [aq,nq,cq]
 refine e_one 3 (zw rfl rfl rfl rfl (.c rfl (.c rfl .n)) ce70 (zvc (k1:=k1) (u1:=u1) (v1:=v1) (q1:=q1) (k2:=true) (u2:=w34) (v2:=w45) (q2:= - q2) (hl:=by first|rfl|assumption|omega|(rw [yg];omega)|(decide +kernel)|(rw [Big.hq_neg];omega))) (.c (j:=1) rfl (.c (j:=0) rfl .n)) ?_)
 rintro ⟨w36,w47⟩ -
 dsimp only [aq,nq,cq]
 refine e_one 4 (zv kr rfl rfl rfl rfl rfl sz43 rfl (.t4 .nil) ?_)
 refine zT kr<|zd<|zH ?_
 exact zy Tryz.results71 (w36,w47) trivial (zu 0 ty43 rfl rfl (.t4 .nil)) rfl (ho:=(.n:PickO _ _ _)) ((.e (j:=0) rfl (by rw [Rat.sub_eq_add_neg]) .n):SelR _ _ _)
theorem zDd {k1:Bool} {u1:Wd} {v1:Wd} {q1:Rat} {k2:Bool} {u2:Wd} {v2:Wd} {q2:Rat} (hl:yk q1+yk q2+1≤1048576):Con ye 27 [.agg #[u1.b,u1.l,v1.b,v1.l],.agg #[u2.b,u2.l,v2.b,v2.l]] [] [qF k1 u1 v1 q1,qF k2 u2 v2 q2] (Y:=Unit) (fun y=>True) (fun y=> .int .i64 (Big.sgq (q1 - q2))) (fun y=>[]) (fun y=>[]):=by
 refine zm Tryz.func27 rfl rfl rfl (fun c=> ?_)
 show RunC _ _ _ _ _ [(0,.agg #[u1.b,u1.l,v1.b,v1.l]),(1,.agg #[u2.b,u2.l,v2.b,v2.l])] [] [qF k1 u1 v1 q1,qF k2 u2 v2 q2]
 have hsb:=Big.hq_sub q1 q2
 refine zg<|za<|zM rfl rfl (zR rfl rfl) (fun b1=> ?_)
 refine zM rfl rfl (zR rfl rfl) (fun b2=> ?_)
 refine e_p (zb rfl)<|zh<|zd<|zg<|za<|e_ru (zc 1 ty43 rfl rfl (.t4 .nil))<|e_ru (zc 0 ty43 rfl rfl (.t4 .nil))<|zE rfl rfl (.c rfl (.c rfl .n)) ce71 (zae (k1:=k1) (u1:=u1) (v1:=v1) (q1:=q1) (k2:=k2) (u2:=u2) (v2:=v2) (q2:=q2) (hl:=ass)) (.c (j:=0) rfl (.c (j:=1) rfl .n)) ?_
 rintro ⟨w33,w44⟩ -
 dsimp only [aq,nq,cq]
 refine zL rfl rfl (.c rfl .n) ce66 (zaf (k1:=true) (u1:=w33) (v1:=w44) (q1:=q1 - q2) (hl:=by first|rfl|assumption|omega|(rw [yg];omega)|(decide +kernel))) (.c (j:=0) rfl .n)<|e_p (zb rfl)<|zh<|zd<|zH ?_
 exact zy Tryz.results27 () trivial (zl rfl) rfl (ho:=(.n:PickO _ _ _)) (.n:SelR _ _ _)
theorem zCc {u1:Wd} {v1:Wd} {q1:Rat} {u2:Wd} {v2:Wd} {q2:Rat} (hl:yk q1+yk q2+1≤1048576):Con ye 44 [.agg #[u1.b,u1.l,v1.b,v1.l],.agg #[u2.b,u2.l,v2.b,v2.l]] [] [qF true u1 v1 q1,qF true u2 v2 q2] (Y:=Unit) (fun y=>True) (fun y=> .bool (decide (q1=q2))) (fun y=>[]) (fun y=>[]):=by
 refine zm Tryz.func44 rfl rfl rfl (fun c=> ?_)
 show RunC _ _ _ _ _ [(0,.agg #[u1.b,u1.l,v1.b,v1.l]),(1,.agg #[u2.b,u2.l,v2.b,v2.l])] [] [qF true u1 v1 q1,qF true u2 v2 q2]
 refine zg<|za<|zM rfl rfl (zR rfl rfl) (fun b1=> ?_)
 refine zM rfl rfl (zR rfl rfl) (fun b2=> ?_)
 refine e_p (zb rfl)<|zh<|zd<|zEa (X:=Unit) (fun x=>True) (fun x=>[(4,.bool (decide (Big.sgq (q1 - q2)=0)))]) (fun x=>[boxA b2 43 (cw [u2,v2]),boxA b1 43 (cw [u1,v1])]) (fun x=>[qF true u1 v1 q1,qF true u2 v2 q2]) ?_ ?_
 ·
  refine za<|e_ru (zc 1 ty43 rfl rfl (.t4 .nil))<|zL rfl rfl (.c rfl .n) ce88 (zJc (u1:=u1) (v1:=v1) (q1:=q1)) (.c (j:=0) rfl .n)<|e_mv rfl<|e_ru (zc 0 ty43 rfl rfl (.t4 .nil))<|zL rfl rfl (.c rfl .n) ce88 (zJc (u1:=u2) (v1:=v2) (q1:=q2)) (.c (j:=1) rfl .n)<|e_p (zo rfl rfl)<|e_mv rfl<|e_ru (zc 1 ty43 rfl rfl (.t4 .nil))<|e_ru (zc 0 ty43 rfl rfl (.t4 .nil))<|zL rfl rfl (.c rfl (.c rfl .n)) ce27 (zDd (k1:=true) (u1:=u1) (v1:=v1) (q1:=q1) (k2:=true) (u2:=u2) (v2:=v2) (q2:=q2) (hl:=ass)) (.c (j:=0) rfl (.c (j:=1) rfl .n))<|e_p (zua rfl rfl)<|e_p (zo rfl rfl)<|e_p (zb rfl)<|zh ?_
  exact zga () (show True from by first|trivial|omega|simp_all) ((.c rfl .n):SubM _ _) (ho:=((.of [0,0] rfl):PickO _ _ _)) ((.of [0,1] rfl):SelR _ _ _)
 ·
  rintro ⟨⟩ -
  try dsimp only [cw]
  refine zH ?_
  exact zy Tryz.results44 () trivial (zl rfl) (congrArg Value.bool (decide_eq_decide.2 Big.sgq_sub_zero.symm)) (ho:=(.n:PickO _ _ _)) (.n:SelR _ _ _)
end Go.Proofs.YtjcpbhlijoigfaaGreat.Sp
namespace Go.Proofs.YtjcpbhlijoigfaaGreat.Sp
open Go
set_option linter.unusedVariables false
set_option maxRecDepth 100000
set_option maxHeartbeats 8000000
theorem zgc {z1:Int} {z2:Int} (hz1: -9223372036854775808≤z1∧z1≤9223372036854775807) (hz2: -9223372036854775808≤z2∧z2≤9223372036854775807) (hy:z2≠0):Con ye 69 [.int .i64 z1,.int .i64 z2] [] [] (Y:=Wd×Wd) (fun y=>True) (fun y=> .agg #[y.1.b,y.1.l,y.2.b,y.2.l]) (fun y=>[]) (fun y=>[qF true y.1 y.2 (Rat.divInt z1 z2)]):=by
 refine zm Tryz.func69 rfl rfl rfl (fun c=> ?_)
 show RunC _ _ _ _ _ [(0,.int .i64 z1),(1,.int .i64 z2)] [] []
 refine zg<|za<|zM rfl rfl (zn zr43 rfl) (fun b1=> ?_)
 refine zh<|zd<|zg<|za<|e_mv rfl<|e_mv rfl<|zE rfl rfl (.c rfl (.c rfl .n)) ce107 (zZe (z1:=z1) (z2:=z2) (hz1:=ass) (hz2:=ass) (hy:=ass)) (.n) ?_
 rintro ⟨w32,w43⟩ -
 dsimp only [aq,nq,cq]
 refine e_mv rfl<|e_p (zr rfl rfl)<|e_p (zr rfl rfl)<|zM rfl rfl (zn zr43 rfl) (fun b4=> ?_)
 refine zk 0 rfl rfl rfl rfl rfl sz43 rfl (.t4 .nil) .z<|e_p (zb rfl)<|zh<|zd<|zg<|za<|e_ru (zc 0 ty43 rfl rfl (.t4 .nil))<|zk 1 rfl rfl rfl rfl rfl sz43 rfl (.t4 .nil) (.s .z)<|zh<|zd<|zH ?_
 exact zy Tryz.results69 (w32,w43) trivial (zu 1 ty43 rfl rfl (.t4 .nil)) rfl (ho:=(.n:PickO _ _ _)) ((.c (j:=0) rfl .n):SelR _ _ _)
theorem zRf {p:Option Addr} {n:Nat} {cap:Nat} {l:List Pg.Q2} {K:Nat} (hn:l.length=n) (hbq:Pg.bq K l) (hK:4*K+1≤500000) (hz:∀i,i≤n→yk (Pg.szN n l i)≤500000):Con ye 24 [.slice p n cap] [] [slF rR p cap l] (Y:=Wd×Wd) (fun y=>True) (fun y=> .agg #[y.1.b,y.1.l,y.2.b,y.2.l]) (fun y=>[]) (fun y=>[qF true y.1 y.2 (Pg.sz l)]):=by
 refine zm Tryz.func24 rfl rfl rfl (fun c=> ?_)
 show RunC _ _ _ _ _ [(0,.slice p n cap)] [] [slF rR p cap l]
 refine zba 0 rfl (fun hL0=> ?_)
 refine zg<|za<|zM rfl rfl (zn zr43 rfl) (fun b1=> ?_)
 refine zh<|zd<|zg<|za<|zE rfl rfl (.c rfl (.c rfl .n)) ce69 (zgc (z1:=0) (z2:=1) (hz1:=by first|rfl|assumption|omega|decide) (hz2:=by first|rfl|assumption|omega|decide) (hy:=by first|rfl|assumption|omega|decide)) (.n) ?_
 rintro ⟨w32,w43⟩ -
 dsimp only [aq,nq,cq]
 refine zM rfl rfl (zn zr43 rfl) (fun b4=> ?_)
 refine zk 0 rfl rfl rfl rfl rfl sz43 rfl (.t4 .nil) .z<|zh<|zd<|zg<|zg ?_
 have e5:Rat.divInt 0 1=(Pg.szN n l 0):=by exact Pg.d01
 rw [e5]
 refine za<|e_p (zb rfl)<|zh<|zd<|zB<|zka (X:=Nat×Wd×Wd) (fun x:Nat×Wd×Wd=>x.1≤n) (fun x=>[(4,.int .i64 ((x.1:Nat):Int)),(3,.pointer (some ⟨b4,0,none⟩)),(2,.pointer (some ⟨b1,0,none⟩)),(0,.slice p n cap)]) (fun x=>[boxA b4 43 (cw [x.2.1,x.2.2]),boxA b1 43 (cw [wz,wz])]) (fun x=>[qF true x.2.1 x.2.2 (Pg.szN n l x.1),qF true w32 w43 (Pg.szN n l 0),slF rR p cap l]) (fun x:Nat×Wd×Wd=>n - x.1) (0,w32,w43) (show 0≤n from by exact Nat.zero_le _) ((.e rfl (by first|rfl|(congr 1;omega)|simp_all) (.of rfl)):SubM _ _) (ho:=((.of [0,0] rfl):PickO _ _ _)) ((.of [0,0,1] rfl):SelR _ _ _) ?_
 rintro ⟨k,wk1,wk2⟩ hI
 replace hI:k≤n:=hI
 try dsimp only [cw]
 refine zg<|zg<|za<|e_mv rfl<|e_mv rfl<|e_p (zN yd rfl)<|e_p (zY rfl rfl)<|zh<|zd<|zC rfl (fun h6=> ?_) (fun h6=> ?_)
 ·
  have hm1:(k+1)%n<n:=Nat.mod_lt _ om
  have hpi:Pg.hp K (l.getD k ((0:Rat),(0:Rat))):=Pg.bq_at hbq om
  have hpj:Pg.hp K (l.getD ((k+1)%n) ((0:Rat),(0:Rat))):=Pg.bq_at hbq om
  obtain ⟨hb1,hb2,hb3⟩:=Pg.pb hpi hpj
  obtain ⟨hpi1,hpi2⟩:=id hpi
  obtain ⟨hpj1,hpj2⟩:=id hpj
  have hzk:=hz k om
  have hb4:yk ((l.getD k ((0:Rat),(0:Rat))).1*(l.getD ((k+1)%n) ((0:Rat),(0:Rat))).2 - (l.getD ((k+1)%n) ((0:Rat),(0:Rat))).1*(l.getD k ((0:Rat),(0:Rat))).2)≤2*(K+K)+1:=hb3
  refine zA<|zd<|zg<|zB<|zg<|za<|e_mv rfl<|e_mv rfl<|e_p (zI (z:=(((k+1):Nat):Int)) rfl rfl (w64 om))<|e_mv rfl<|e_p (zN yd rfl)<|e_p (zwa (z:=((((k+1)%n):Nat):Int)) rfl rfl om (remN om om))<|r_vl rfl rfl (zab (x0:=(l.getD ((k+1)%n) ((0:Rat),(0:Rat)))) 2 ((k+1)%n) rfl yd sz69 rfl cbs rfl rfl (gD (d:=((0:Rat),(0:Rat))) om)) ?_
  rintro ⟨b7,o8,w9,w10,w11,w12⟩ -
  dsimp only [aq,nq,cq]
  refine zrf open_rR<|e_ru (zq (j:=0) 0 ty69 rfl rfl rfl (.t8 .nil))<|zM rfl rfl (zn zr69 rfl) (fun b13=> ?_)
  refine zk 0 rfl rfl rfl rfl rfl sz69 rfl (.t8 .nil) .z<|zh<|zd<|zqa (.c (i:=1) rfl (.c (i:=0) rfl (.c (i:=0) rfl .n)))<|zW (OW:=[boxA b4 43 (cw [wk1,wk2])]) (O:=[boxA b13 69 (cw [w9,w10,w11,w12]),boxA b1 43 (cw [wz,wz])]) 19 mixed (.block (.then (.then (.block (.then .ret))))) kr<|e_uw 0 rfl rfl (zc 0 ty43 rfl rfl (.t4 .nil))<|e_dm 1 rfl rfl rfl<|e_dm 2 rfl rfl rfl<|d_vl 3 rfl rfl kr kr rfl rfl (zab (x0:=(l.getD k ((0:Rat),(0:Rat)))) 5 k rfl yd sz69 rfl cbs rfl rfl (gD (d:=((0:Rat),(0:Rat))) om)) ?_
  rintro ⟨b14,o15,w16,w17,w18,w19⟩ -
  dsimp only [aq,nq,cq]
  refine zld open_rR<|e_pv 4 rfl rfl (ze yf rfl sz43 rfl rfl)<|e_u 5 rfl rfl (zq (j:=0) 0 ty43 rfl rfl rfl (.t4 .nil))<|e_pv 6 rfl rfl (ze yf rfl sz43 rfl rfl)<|e_uw 7 rfl rfl (zc 1 ty43 rfl rfl (.s4 (.t4 .nil)))<|e_pv 9 rfl rfl (ze yf rfl sz43 rfl rfl)<|e_uw 10 rfl rfl (zc 1 ty43 rfl rfl (.t4 .nil))<|e_dm 11 rfl rfl rfl<|e_dm 12 rfl rfl rfl<|d_vl 13 rfl rfl kr kr rfl rfl (zab (x0:=(l.getD k ((0:Rat),(0:Rat)))) 8 k rfl yd sz69 rfl cbs rfl rfl (gD (d:=((0:Rat),(0:Rat))) om)) ?_
  rintro ⟨b20,o21,w22,w23,w24,w25⟩ -
  dsimp only [aq,nq,cq]
  refine zld open_rR<|e_pv 14 rfl rfl (ze yf rfl sz43 rfl rfl)<|e_u 15 rfl rfl (zq (j:=4) 0 ty43 rfl rfl rfl (.s4 (.t4 .nil)))<|e_one 8 (zw rfl rfl rfl rfl (.c rfl (.c rfl .n)) ce25 (zAb (k1:=true) (u1:=w16) (v1:=w17) (q1:=(l.getD k ((0:Rat),(0:Rat))).1) (k2:=true) (u2:=w11) (v2:=w12) (q2:=(l.getD ((k+1)%n) ((0:Rat),(0:Rat))).2) (hl:=by first|rfl|assumption|omega|decide)) (.c (j:=4) rfl (.c (j:=8) rfl .n)) ?_)
  rintro ⟨w326,w427⟩ -
  dsimp only [aq,nq,cq]
  refine e_one 16 (zw rfl rfl rfl rfl (.c rfl (.c rfl .n)) ce25 (zAb (k1:=true) (u1:=w9) (v1:=w10) (q1:=(l.getD ((k+1)%n) ((0:Rat),(0:Rat))).1) (k2:=true) (u2:=w24) (v2:=w25) (q2:=(l.getD k ((0:Rat),(0:Rat))).2) (hl:=by first|rfl|assumption|omega|decide)) (.c (j:=8) rfl (.c (j:=3) rfl .n)) ?_)
  rintro ⟨w328,w429⟩ -
  dsimp only [aq,nq,cq]
  refine e_one 17 (zw rfl rfl rfl rfl (.c rfl (.c rfl .n)) ce71 (zae (k1:=true) (u1:=w326) (v1:=w427) (q1:=((l.getD k ((0:Rat),(0:Rat))).1)*((l.getD ((k+1)%n) ((0:Rat),(0:Rat))).2)) (k2:=true) (u2:=w328) (v2:=w429) (q2:=((l.getD ((k+1)%n) ((0:Rat),(0:Rat))).1)*((l.getD k ((0:Rat),(0:Rat))).2)) (hl:=by first|rfl|assumption|omega|decide)) (.c (j:=1) rfl (.c (j:=0) rfl .n)) ?_)
  rintro ⟨w330,w431⟩ -
  dsimp only [aq,nq,cq]
  refine e_one 18 (zw rfl rfl rfl rfl (.c rfl (.c rfl .n)) ce70 (zvc (k1:=true) (u1:=wk1) (v1:=wk2) (q1:=(Pg.szN n l k)) (k2:=true) (u2:=w330) (v2:=w431) (q2:=(((l.getD k ((0:Rat),(0:Rat))).1)*((l.getD ((k+1)%n) ((0:Rat),(0:Rat))).2)) - (((l.getD ((k+1)%n) ((0:Rat),(0:Rat))).1)*((l.getD k ((0:Rat),(0:Rat))).2))) (hl:=by first|rfl|assumption|omega|decide)) (.c (j:=12) rfl (.c (j:=0) rfl .n)) ?_)
  rintro ⟨w332,w433⟩ -
  dsimp only [aq,nq,cq]
  refine e_one 19 (zv kr rfl rfl rfl rfl rfl sz43 rfl (.t4 .nil) ?_)
  refine zT kr<|zO<|zd<|za<|e_mv rfl<|e_p (zI (z:=(((k+1):Nat):Int)) rfl rfl (w64 om))<|e_p (zb rfl)<|zh<|zda ((k+1),w332,w433) (show (k+1)≤n from by show k+1≤n;omega) (by show n - (k+1)<n - k;omega) ((.of rfl):SubM _ _) (ho:=((.of [0,1] rfl):PickO _ _ _)) ((.e (j:=0) rfl (by first|rfl|simp_all) (.of [14,15] rfl)):SelR _ _ _)
 ·
  refine zja<|zj<|zj<|zt<|zd<|zg<|za<|e_ru (zc 0 ty43 rfl rfl (.t4 .nil))<|zk 1 rfl rfl rfl rfl rfl sz43 rfl (.t4 .nil) (.s .z)<|zh<|zd<|zH ?_
  exact zy Tryz.results24 (wk1,wk2) trivial (zu 1 ty43 rfl rfl (.t4 .nil)) rfl (ho:=(.n:PickO _ _ _)) ((.e (j:=0) rfl (by rw [show k=n by omega,Pg.sz,hn]) .n):SelR _ _ _)
theorem zbf {p1:Option Addr} {n1:Nat} {c1:Nat} {l1:List (Int×Int×Int)} {p2:Option Addr} {n2:Nat} {c2:Nat} {l2:List (Int×Int×Int)} (hn1:l1.length=n1) (hn2:l2.length=n2):Con ye 32 [.slice p1 n1 c1,.slice p2 n2 c2] [] [slF (rI3 .i64) p1 c1 l1,slF (rI3 .i64) p2 c2 l2] (Y:=Unit) (fun y=>True) (fun y=> .bool (decide (l1=l2))) (fun y=>[]) (fun y=>[]):=by
 refine zm Tryz.func32 rfl rfl rfl (fun c=> ?_)
 show RunC _ _ _ _ _ [(0,.slice p1 n1 c1),(1,.slice p2 n2 c2)] [] [slF (rI3 .i64) p1 c1 l1,slF (rI3 .i64) p2 c2 l2]
 refine zba 0 rfl (fun hL0=> ?_)
 refine zba 1 rfl (fun hL1=> ?_)
 refine zg<|za<|e_p (zb rfl)<|zh<|zd<|zg<|zg<|za<|e_mv rfl<|e_p (zN yh rfl)<|e_mv rfl<|e_p (zN yh rfl)<|e_p (zMa rfl rfl)<|zh<|zd<|zC rfl (fun hlen=> ?_) (fun hlen=> ?_)
 ·
  refine zg<|za<|e_p (zb rfl)<|zh<|zd<|zH<|zi ?_
  exact zy Tryz.results32 () trivial (zl rfl) (congrArg Value.bool (decide_eq_false (fun h=>hlen (by rw [← hn1,←hn2,h])))) (ho:=(.n:PickO _ _ _)) (.n:SelR _ _ _)
 ·
  refine zA<|zd<|zg<|zg<|za<|e_mv rfl<|e_p (zN yh rfl)<|e_mv rfl<|zh<|zd<|zB<|zka (X:=Nat) (fun x:Nat=>x≤n1∧∀j,j<x→l1.getD j (0,0,0)=l2.getD j (0,0,0)) (fun x=>[(13,.int .i64 ((x:Nat):Int)),(12,.int .i64 ((n1:Nat):Int)),(0,.slice p1 n1 c1),(1,.slice p2 n2 c2)]) (fun x=>[]) (fun x=>[slF (rI3 .i64) p1 c1 l1,slF (rI3 .i64) p2 c2 l2]) (fun x:Nat=>n1 - x) 0 (show 0≤n1∧∀j,j<0→l1.getD j (0,0,0)=l2.getD j (0,0,0) from by exact ⟨by omega,fun j h=>by omega⟩) ((.e rfl (by first|rfl|(congr 1;omega)|simp_all) (.of rfl)):SubM _ _) (ho:=(.n:PickO _ _ _)) ((.of [0,1] rfl):SelR _ _ _) ?_
  rintro i hI
  replace hI:i≤n1∧∀j,j<i→l1.getD j (0,0,0)=l2.getD j (0,0,0):=hI
  try dsimp only
  obtain ⟨hi,hall⟩:=hI
  refine zg<|za<|e_p (zY rfl rfl)<|zh<|zd<|zg<|zC rfl (fun h1=> ?_) (fun h1=> ?_)
  ·
   refine zA<|zd<|zg<|zB<|zg<|za<|e_mv rfl<|e_p (zb rfl)<|zh<|zd<|zg<|zW (OW:=[]) (O:=[]) 100000 mixed (.then (.block (.then (.then (.block (.then .ret)))))) kr<|e_dm 0 rfl rfl rfl<|e_dm 1 rfl rfl rfl<|zZ (x0:=(l1.getD i (0,0,0))) 2 rfl rfl kr kr 0 i rfl yh sz50 rfl rfl rfl cbs rfl rfl (gD (d:=(0,0,0)) om) (fun b2 o3 hok4=> ?_)
   obtain ⟨hok4x,hok4y,hok4z⟩:=hok4
   replace hok4x:=zD.1 hok4x
   replace hok4y:=zD.1 hok4y
   replace hok4z:=zD.1 hok4z
   refine e_u 3 rfl rfl (zq (j:=0) 0 ty50 rfl rfl rfl (.t2 (.take .nil)))<|e_dm 4 rfl rfl rfl<|e_dm 5 rfl rfl rfl<|zZ (x0:=(l2.getD i (0,0,0))) 6 rfl rfl kr kr 2 i rfl yh sz50 rfl rfl rfl cbs rfl rfl (gD (d:=(0,0,0)) om) (fun b5 o6 hok7=> ?_)
   obtain ⟨hok7x,hok7y,hok7z⟩:=hok7
   replace hok7x:=zD.1 hok7x
   replace hok7y:=zD.1 hok7y
   replace hok7z:=zD.1 hok7z
   refine e_u 7 rfl rfl (zq (j:=0) 0 ty50 rfl rfl rfl (.t2 (.take .nil)))<|e_pv 8 rfl rfl (zjd (p:=(l1.getD i (0,0,0)).1=(l2.getD i (0,0,0)).1∧(l1.getD i (0,0,0)).2.1=(l2.getD i (0,0,0)).2.1∧(l1.getD i (0,0,0)).2.2=(l2.getD i (0,0,0)).2.2) kr rfl rfl (zjf yn sz3 (zhe ty3 rfl rfl (zac yj) (zhe ty3 rfl rfl (zac yj) (zhe ty3 rfl rfl (zac yj) zvg)))) (by simp [Bool.decide_and]))<|zT kr<|zd<|zC rfl (fun hd=> ?_) (fun hd=> ?_)
   ·
    refine zg<|za<|e_p (zb rfl)<|zh<|zd<|zH<|zp<|zi<|zi<|zp<|zi ?_
    exact zy Tryz.results32 () trivial (zl rfl) (congrArg Value.bool (decide_eq_false (fun h=>hd (by simp [h])))) (ho:=(.n:PickO _ _ _)) (.n:SelR _ _ _)
   ·
    refine zA<|zO<|zd<|za<|e_p (zI (z:=(((i+1):Nat):Int)) rfl rfl (w64 om))<|e_mv rfl<|zh<|zda (i+1) (show (i+1)≤n1∧∀j,j<(i+1)→l1.getD j (0,0,0)=l2.getD j (0,0,0) from by exact ⟨by omega,Ms.all_lt_succ hall (by have h9:=Decidable.not_not.1 hd;first|exact h9|(apply Prod.ext;exact h9.1;apply Prod.ext;exact h9.2.1;exact h9.2.2))⟩) (by show n1 - (i+1)<n1 - i;omega) ((.of rfl):SubM _ _) (ho:=(.n:PickO _ _ _)) ((.of [2,3] rfl):SelR _ _ _)
  ·
   refine zja<|zj<|zj<|zt<|zd<|zg<|za<|e_p (zb rfl)<|zh<|zd<|zH ?_
   exact zy Tryz.results32 () trivial (zl rfl) (congrArg Value.bool (decide_eq_true (Ms.ext_getD (0,0,0) om (fun j hj=>hall j om)))) (ho:=(.n:PickO _ _ _)) (.n:SelR _ _ _)
end Go.Proofs.YtjcpbhlijoigfaaGreat.Sp
namespace Go.Proofs.YtjcpbhlijoigfaaGreat.Sp
open Go
set_option linter.unusedVariables false
set_option maxRecDepth 100000
set_option maxHeartbeats 8000000
theorem zbe {p:Option Addr} {n:Nat} {cap:Nat} {l:List Pg.P2} (hn:l.length=n):Con ye 39 [.slice p n cap] [] [slF (rI2 .i64) p cap l] (Y:=Wd×Wd×Wd×Wd) (fun y=>(Pg.ck l≠0→(y.1=wz∧y.2.1=wz)∧y.2.2.1=wz∧y.2.2.2=wz)) (fun y=> .tuple #[.agg #[y.1.b,y.1.l,y.2.1.b,y.2.1.l,y.2.2.1.b,y.2.2.1.l,y.2.2.2.b,y.2.2.2.l],.int .i64 (Pg.ck l)]) (fun y=>[]) (fun y=>[qF (Pg.cnB l) y.1 y.2.1 ((Pg.cnO l).1),qF (Pg.cnB l) y.2.2.1 y.2.2.2 ((Pg.cnO l).2)]):=by
 refine zm Tryz.func39 rfl rfl rfl (fun c=> ?_)
 show RunC _ _ _ _ _ [(0,.slice p n cap)] [] [slF (rI2 .i64) p cap l]
 refine zba 0 rfl (fun hL0=> ?_)
 refine zg<|za<|zM rfl rfl (zn zr69 rfl) (fun b1=> ?_)
 refine e_p (zb rfl)<|zh<|zd<|zg<|zg<|za<|e_mv rfl<|zL rfl rfl (.c rfl .n) ce15 (zyb (p:=p) (n:=n) (cap:=cap) (l:=l) (hn:=ass)) (.c (j:=0) rfl .n)<|e_p (zb rfl)<|zh<|zd<|zg<|za<|e_mv rfl<|e_p (zMa rfl rfl)<|zh<|zd<|zC rfl (fun hbad=> ?_) (fun hbad=> ?_)
 ·
  refine zg<|za<|e_p (zJ zr69 rfl yf (.c sz43 (.c sz43 .n)) .n .n)<|e_mv rfl<|zk 0 rfl rfl rfl rfl rfl sz69 rfl (.t8 .nil) .z<|e_p (zb rfl)<|zh<|zd<|zH<|zi<|zub (qF false wz wz 0) (fun g _=>qF_none g)<|zub (qF false wz wz 0) (fun g _=>qF_none g) ?_
  exact zra Tryz.results39 (wz,wz,wz,wz) (fun _=>⟨⟨rfl,rfl⟩,rfl,rfl⟩) (zu 0 ty69 rfl rfl (.t8 .nil)) (zl rfl) (by rfl) (ho:=(.n:PickO _ _ _)) ((.e (j:=0) rfl (by rw [Pg.cnO_bad hbad,Pg.cnB_bad hbad]) (.e (j:=0) rfl (by rw [Pg.cnO_bad hbad,Pg.cnB_bad hbad]) .n)):SelR _ _ _)
 ·
  have hz:=Decidable.not_not.1 hbad
  have hok:=Pg.ok hz
  have hrng:=hok.rng
  have h64:n≤64:=by have:=hok.n64;omega
  have hn3:3≤n:=by have:=hok.n3;omega
  have hsm:Pg.Sm n l:=by have h9:=Pg.Sm.of hz;rwa [hn] at h9
  have hdb:=Sw.db_ne hsm hrng
  have hdb1:=Pg.dbN_b hn hrng (i:=n) (Nat.le_refl _)
  have hdb2:Pg.db l=Pg.dbN n l n:=by rw [Pg.db,hn]
  have hd3:3*Pg.db l≠0:=by omega
  refine zA<|zd<|zg<|za<|zE rfl rfl (.c rfl .n) ce84 (zQb (z:=0) (hz:=by first|rfl|assumption|omega|exact Nat.le_trans (Pg.ln_1 om) dd|exact Nat.le_trans (Pg.ln_p om om) dd)) (.n) ?_
  rintro w32 -
  dsimp only [aq,nq,cq]
  refine zE rfl rfl (.c rfl .n) ce84 (zQb (z:=0) (hz:=by first|rfl|assumption|omega|exact Nat.le_trans (Pg.ln_1 om) dd|exact Nat.le_trans (Pg.ln_p om om) dd)) (.n) ?_
  rintro w33 -
  dsimp only [aq,nq,cq]
  refine zM rfl rfl (zn zr41 rfl) (fun b4=> ?_)
  refine zM rfl rfl (zn zr41 rfl) (fun b5=> ?_)
  refine zk 1 rfl rfl rfl rfl rfl sz41 rfl (.t2 .nil) (.s .z)<|zk 0 rfl rfl rfl rfl rfl sz41 rfl (.t2 .nil) .z<|zh<|zd<|zg<|zg<|za<|e_mv rfl<|e_p (zN yc rfl)<|e_mv rfl<|zh<|zd<|zB<|zka (X:=Nat×Wd×Wd) (fun x:Nat×Wd×Wd=>x.1≤n) (fun x=>[(26,.int .i64 ((x.1:Nat):Int)),(25,.int .i64 ((n:Nat):Int)),(24,.slice p n cap),(6,.pointer (some ⟨b5,0,none⟩)),(5,.pointer (some ⟨b4,0,none⟩)),(3,.int .i64 0),(2,.pointer (some ⟨b1,0,none⟩)),(0,.slice p n cap)]) (fun x=>[boxA b5 41 [x.2.2.b,x.2.2.l],boxA b4 41 [x.2.1.b,x.2.1.l],boxA b1 69 (cw [wz,wz,wz,wz])]) (fun x=>[zF x.2.1 (Pg.cnX n l x.1),zF x.2.2 (Pg.cnY n l x.1),zF w33 0,zF w32 0,slF (rI2 .i64) p cap l]) (fun x:Nat×Wd×Wd=>n - x.1) (0,w32,w33) (show 0≤n from by exact Nat.zero_le _) ((.e rfl (by first|rfl|(congr 1;omega)|simp_all) (.of rfl)):SubM _ _) (ho:=((.of [0,0,0] rfl):PickO _ _ _)) ((.e (j:=1) rfl rfl (.e (j:=0) rfl rfl (.of [0,1,2] rfl))):SelR _ _ _) ?_
  rintro ⟨k,wa,wb⟩ hI
  replace hI:k≤n:=hI
  try dsimp only [cw]
  refine zg<|za<|e_p (zY rfl rfl)<|zh<|zd<|zg<|zC rfl (fun h6=> ?_) (fun h6=> ?_)
  ·
   have hm1:(k+1)%n<n:=Nat.mod_lt _ om
   have hg0:Pg.inR (l.getD k (0,0)):=Pg.Ok.gt hrng om
   have hg1:Pg.inR (l.getD ((k+1)%n) (0,0)):=Pg.Ok.gt hrng om
   obtain ⟨hp1,hp2⟩:=Pg.ab hg0 hg1
   have hu0:(-1048576≤(l.getD k (0,0)).1∧(l.getD k (0,0)).1≤1048576)∧(-1048576≤(l.getD k (0,0)).2∧(l.getD k (0,0)).2≤1048576):=hg0
   have hu1:(-1048576≤(l.getD ((k+1)%n) (0,0)).1∧(l.getD ((k+1)%n) (0,0)).1≤1048576)∧(-1048576≤(l.getD ((k+1)%n) (0,0)).2∧(l.getD ((k+1)%n) (0,0)).2≤1048576):=hg1
   have hlx:=Pg.ln20 (Pg.cnX_r hn hrng h64 (i:=k) om)
   have hly:=Pg.ln20 (Pg.cnY_r hn hrng h64 (i:=k) om)
   refine zA<|zd<|zg<|zB<|zg<|za<|e_mv rfl<|zP (x0:=(l.getD k (0,0))) 4 k rfl yc sz30 rfl rfl rfl cbs rfl rfl (gD (d:=(0,0)) om) (fun b7 o8 hok9=> ?_)
   obtain ⟨hok9x,hok9y⟩:=hok9
   replace hok9x:=zD.1 hok9x
   replace hok9y:=zD.1 hok9y
   refine e_ru (zq (j:=0) 0 ty30 rfl rfl rfl (.t2 .nil))<|zM rfl rfl (zn zr30 rfl) (fun b10=> ?_)
   refine e_p (zb rfl)<|zk 0 rfl rfl rfl rfl rfl sz30 rfl (.t2 .nil) .z<|zh<|zd<|zg<|za<|e_mv rfl<|e_mv rfl<|e_p (zI (z:=(((k+1):Nat):Int)) rfl rfl (w64 om))<|e_mv rfl<|e_p (zN yc rfl)<|e_p (zwa (z:=((((k+1)%n):Nat):Int)) rfl rfl om (remN om om))<|zP (x0:=(l.getD ((k+1)%n) (0,0))) 5 ((k+1)%n) rfl yc sz30 rfl rfl rfl cbs rfl rfl (gD (d:=(0,0)) om) (fun b11 o12 hok13=> ?_)
   obtain ⟨hok13x,hok13y⟩:=hok13
   replace hok13x:=zD.1 hok13x
   replace hok13y:=zD.1 hok13y
   refine e_ru (zq (j:=0) 0 ty30 rfl rfl rfl (.t2 .nil))<|zM rfl rfl (zn zr30 rfl) (fun b14=> ?_)
   refine zk 0 rfl rfl rfl rfl rfl sz30 rfl (.t2 .nil) .z<|zh<|zd<|zg<|za<|e_p (ze ya rfl sz3 rfl rfl)<|e_ru (zf 1 ty3 rfl rfl rfl)<|e_p (ze ya rfl sz3 rfl rfl)<|e_ru (zf 0 ty3 rfl rfl rfl)<|e_p (zya (z:=((l.getD k (0,0)).1*(l.getD ((k+1)%n) (0,0)).2)) rfl rfl (w64 om))<|e_p (ze ya rfl sz3 rfl rfl)<|e_ru (zf 0 ty3 rfl rfl rfl)<|e_p (ze ya rfl sz3 rfl rfl)<|e_ru (zf 1 ty3 rfl rfl rfl)<|e_p (zya (z:=((l.getD ((k+1)%n) (0,0)).1*(l.getD k (0,0)).2)) rfl rfl (w64 om))<|e_p (zla (z:=(((l.getD k (0,0)).1*(l.getD ((k+1)%n) (0,0)).2) - ((l.getD ((k+1)%n) (0,0)).1*(l.getD k (0,0)).2))) rfl rfl (w64 om))<|zE rfl rfl (.c rfl .n) ce84 (zQb (z:=(((l.getD k (0,0)).1*(l.getD ((k+1)%n) (0,0)).2) - ((l.getD ((k+1)%n) (0,0)).1*(l.getD k (0,0)).2))) (hz:=by first|rfl|assumption|omega|exact Nat.le_trans (Pg.ln_1 om) dd|exact Nat.le_trans (Pg.ln_p om om) dd)) (.n) ?_
   rintro w315 -
   dsimp only [aq,nq,cq]
   refine zM rfl rfl (zn zr41 rfl) (fun b16=> ?_)
   refine zk 0 rfl rfl rfl rfl rfl sz41 rfl (.t2 .nil) .z<|zh<|zd<|zg<|zqa (.c (i:=4) rfl (.c (i:=0) rfl (.c (i:=0) rfl (.c (i:=0) rfl (.c (i:=0) rfl (.c (i:=0) rfl .n))))))<|zW (OW:=[boxA b4 41 [wa.b,wa.l]]) (O:=[boxA b16 41 [w315.b,w315.l],boxA b14 30 [.int .i64 ((l.getD ((k+1)%n) (0,0)).1),.int .i64 ((l.getD ((k+1)%n) (0,0)).2)],boxA b10 30 [.int .i64 ((l.getD k (0,0)).1),.int .i64 ((l.getD k (0,0)).2)],boxA b5 41 [wb.b,wb.l],boxA b1 69 (cw [wz,wz,wz,wz])]) 10 mixed (.then (.block (.then (.then (.block (.then .ret)))))) kr<|e_uw 0 rfl rfl (zc 0 ty41 rfl rfl (.t2 .nil))<|e_uw 1 rfl rfl (zc 1 ty41 rfl rfl (.t2 .nil))<|e_pv 2 rfl rfl (ze ya rfl sz3 rfl rfl)<|e_uw 3 rfl rfl (zf 3 ty3 rfl rfl rfl)<|e_pv 4 rfl rfl (ze ya rfl sz3 rfl rfl)<|e_uw 5 rfl rfl (zf 2 ty3 rfl rfl rfl)<|e_pv 6 rfl rfl (zI (z:=((l.getD k (0,0)).1+(l.getD ((k+1)%n) (0,0)).1)) rfl rfl (w64 om))<|e_one 7 (zw rfl rfl rfl rfl (.c rfl .n) ce84 (zQb (z:=((l.getD k (0,0)).1+(l.getD ((k+1)%n) (0,0)).1)) (hz:=by first|rfl|assumption|omega|exact Nat.le_trans (Pg.ln_1 om) dd|exact Nat.le_trans (Pg.ln_p om om) dd)) (.n) ?_)
   rintro w317 -
   dsimp only [aq,nq,cq]
   refine e_one 8 (zw rfl rfl rfl rfl (.c rfl (.c rfl .n)) ce86 (zlb (w1:=w315) (w2:=w317) (x1:=(((l.getD k (0,0)).1*(l.getD ((k+1)%n) (0,0)).2) - ((l.getD ((k+1)%n) (0,0)).1*(l.getD k (0,0)).2))) (x2:=((l.getD k (0,0)).1+(l.getD ((k+1)%n) (0,0)).1)) (hb1:=by first|rfl|assumption|omega|exact Nat.le_trans (Pg.ln_1 om) dd|exact Nat.le_trans (Pg.ln_p om om) dd) (hb2:=by first|rfl|assumption|omega|exact Nat.le_trans (Pg.ln_1 om) dd|exact Nat.le_trans (Pg.ln_p om om) dd)) (.c (j:=1) rfl (.c (j:=0) rfl .n)) ?_)
   rintro w318 -
   dsimp only [aq,nq,cq]
   refine e_one 9 (zw rfl rfl rfl rfl (.c rfl (.c rfl .n)) ce85 (zyd (w1:=wa) (w2:=w318) (x1:=(Pg.cnX n l k)) (x2:=(((l.getD k (0,0)).1*(l.getD ((k+1)%n) (0,0)).2) - ((l.getD ((k+1)%n) (0,0)).1*(l.getD k (0,0)).2))*((l.getD k (0,0)).1+(l.getD ((k+1)%n) (0,0)).1)) (hb1:=by first|rfl|assumption|omega|exact Nat.le_trans (Pg.ln_1 om) dd|exact Nat.le_trans (Pg.ln_p om om) dd) (hb2:=by first|rfl|assumption|omega|exact Nat.le_trans (Pg.ln_1 om) dd|exact Nat.le_trans (Pg.ln_p om om) dd)) (.c (j:=5) rfl (.c (j:=0) rfl .n)) ?_)
   rintro w319 -
   dsimp only [aq,nq,cq]
   refine e_one 10 (zv kr rfl rfl rfl rfl rfl sz41 rfl (.t2 .nil) ?_)
   refine zT kr<|zd<|zqa (.c (i:=4) rfl (.c (i:=0) rfl (.c (i:=0) rfl (.c (i:=0) rfl (.c (i:=0) rfl (.c (i:=0) rfl .n))))))<|zW (OW:=[boxA b5 41 [wb.b,wb.l]]) (O:=[boxA b4 41 [w319.b,w319.l],boxA b16 41 [w315.b,w315.l],boxA b14 30 [.int .i64 ((l.getD ((k+1)%n) (0,0)).1),.int .i64 ((l.getD ((k+1)%n) (0,0)).2)],boxA b10 30 [.int .i64 ((l.getD k (0,0)).1),.int .i64 ((l.getD k (0,0)).2)],boxA b1 69 (cw [wz,wz,wz,wz])]) 10 mixed (.block (.then (.then (.block (.then .ret))))) kr<|e_uw 0 rfl rfl (zc 0 ty41 rfl rfl (.t2 .nil))<|e_uw 1 rfl rfl (zc 2 ty41 rfl rfl (.t2 .nil))<|e_pv 2 rfl rfl (ze ya rfl sz3 rfl rfl)<|e_uw 3 rfl rfl (zf 4 ty3 rfl rfl rfl)<|e_pv 4 rfl rfl (ze ya rfl sz3 rfl rfl)<|e_uw 5 rfl rfl (zf 3 ty3 rfl rfl rfl)<|e_pv 6 rfl rfl (zI (z:=((l.getD k (0,0)).2+(l.getD ((k+1)%n) (0,0)).2)) rfl rfl (w64 om))<|e_one 7 (zw rfl rfl rfl rfl (.c rfl .n) ce84 (zQb (z:=((l.getD k (0,0)).2+(l.getD ((k+1)%n) (0,0)).2)) (hz:=by first|rfl|assumption|omega|exact Nat.le_trans (Pg.ln_1 om) dd|exact Nat.le_trans (Pg.ln_p om om) dd)) (.n) ?_)
   rintro w320 -
   dsimp only [aq,nq,cq]
   refine e_one 8 (zw rfl rfl rfl rfl (.c rfl (.c rfl .n)) ce86 (zlb (w1:=w315) (w2:=w320) (x1:=(((l.getD k (0,0)).1*(l.getD ((k+1)%n) (0,0)).2) - ((l.getD ((k+1)%n) (0,0)).1*(l.getD k (0,0)).2))) (x2:=((l.getD k (0,0)).2+(l.getD ((k+1)%n) (0,0)).2)) (hb1:=by first|rfl|assumption|omega|exact Nat.le_trans (Pg.ln_1 om) dd|exact Nat.le_trans (Pg.ln_p om om) dd) (hb2:=by first|rfl|assumption|omega|exact Nat.le_trans (Pg.ln_1 om) dd|exact Nat.le_trans (Pg.ln_p om om) dd)) (.c (j:=4) rfl (.c (j:=0) rfl .n)) ?_)
   rintro w321 -
   dsimp only [aq,nq,cq]
   refine e_one 9 (zw rfl rfl rfl rfl (.c rfl (.c rfl .n)) ce85 (zyd (w1:=wb) (w2:=w321) (x1:=(Pg.cnY n l k)) (x2:=(((l.getD k (0,0)).1*(l.getD ((k+1)%n) (0,0)).2) - ((l.getD ((k+1)%n) (0,0)).1*(l.getD k (0,0)).2))*((l.getD k (0,0)).2+(l.getD ((k+1)%n) (0,0)).2)) (hb1:=by first|rfl|assumption|omega|exact Nat.le_trans (Pg.ln_1 om) dd|exact Nat.le_trans (Pg.ln_p om om) dd) (hb2:=by first|rfl|assumption|omega|exact Nat.le_trans (Pg.ln_1 om) dd|exact Nat.le_trans (Pg.ln_p om om) dd)) (.c (j:=9) rfl (.c (j:=0) rfl .n)) ?_)
   rintro w322 -
   dsimp only [aq,nq,cq]
   refine e_one 10 (zv kr rfl rfl rfl rfl rfl sz41 rfl (.t2 .nil) ?_)
   refine zT kr<|zO<|zd<|za<|e_p (zI (z:=(((k+1):Nat):Int)) rfl rfl (w64 om))<|e_mv rfl<|zh<|zda ((k+1),w319,w322) (show (k+1)≤n from by show k+1≤n;omega) (by show n - (k+1)<n - k;omega) ((.of rfl):SubM _ _) (ho:=((.of [0,0,3] rfl):PickO _ _ _)) ((.e (j:=3) rfl (by rfl) (.e (j:=0) rfl (by rfl) (.of [11,12,13] rfl))):SelR _ _ _)
  ·
   refine zja<|zj<|zj<|zt<|zd<|zg ?_
   have hkn:k=n:=by omega
   have hlxn:=Pg.ln20 (Pg.cnX_r hn hrng h64 (i:=n) (Nat.le_refl _))
   have hlyn:=Pg.ln20 (Pg.cnY_r hn hrng h64 (i:=n) (Nat.le_refl _))
   have hl3:Big.ln (3*Pg.db l)≤3:=Pg.ln_1 om
   have e23:(Pg.cnX n l k)=(Pg.cnX n l n):=by rw [hkn]
   rw [e23]
   have e24:(Pg.cnY n l k)=(Pg.cnY n l n):=by rw [hkn]
   rw [e24]
   refine za<|e_mv rfl<|zL rfl rfl (.c rfl .n) ce47 (zcc (p:=p) (n:=n) (cap:=cap) (l:=l) (hn:=ass) (h64:=by first|rfl|assumption|omega|exact Nat.le_trans (Pg.ln_1 om) dd|exact Nat.le_trans (Pg.ln_p om om) dd) (hrng:=by first|rfl|assumption|omega|exact Nat.le_trans (Pg.ln_1 om) dd|exact Nat.le_trans (Pg.ln_p om om) dd)) (.c (j:=4) rfl .n)<|e_p (zya (z:=(3*Pg.db l)) rfl rfl (w64 om))<|zE rfl rfl (.c rfl .n) ce84 (zQb (z:=(3*Pg.db l)) (hz:=by first|rfl|assumption|omega|exact Nat.le_trans (Pg.ln_1 om) dd|exact Nat.le_trans (Pg.ln_p om om) dd)) (.n) ?_
   rintro w325 -
   dsimp only [aq,nq,cq]
   refine zM rfl rfl (zn zr41 rfl) (fun b26=> ?_)
   refine zk 0 rfl rfl rfl rfl rfl sz41 rfl (.t2 .nil) .z<|zh<|zd<|zg<|za<|e_ru (zc 2 ty41 rfl rfl (.t2 .nil))<|e_ru (zc 0 ty41 rfl rfl (.t2 .nil))<|zE rfl rfl (.c rfl (.c rfl .n)) ce87 (zIf (w1:=wa) (w2:=w325) (x1:=(Pg.cnX n l n)) (x2:=(3*Pg.db l)) (hl1:=by first|rfl|assumption|omega|exact Nat.le_trans (Pg.ln_1 om) dd|exact Nat.le_trans (Pg.ln_p om om) dd) (hl2:=by first|rfl|assumption|omega|exact Nat.le_trans (Pg.ln_1 om) dd|exact Nat.le_trans (Pg.ln_p om om) dd)) (.c (j:=1) rfl (.c (j:=0) rfl .n)) ?_
   rintro ⟨w327,w428⟩ -
   dsimp only [aq,nq,cq]
   refine e_mv rfl<|e_p (zr rfl rfl)<|e_p (zr rfl rfl)<|zM rfl rfl (zn zr43 rfl) (fun b29=> ?_)
   refine zk 0 rfl rfl rfl rfl rfl sz43 rfl (.t4 .nil) .z<|e_p (zb rfl)<|zh<|zd<|zg<|za<|e_ru (zc 2 ty41 rfl rfl (.t2 .nil))<|e_ru (zc 1 ty41 rfl rfl (.t2 .nil))<|zE rfl rfl (.c rfl (.c rfl .n)) ce87 (zIf (w1:=wb) (w2:=w325) (x1:=(Pg.cnY n l n)) (x2:=(3*Pg.db l)) (hl1:=by first|rfl|assumption|omega|exact Nat.le_trans (Pg.ln_1 om) dd|exact Nat.le_trans (Pg.ln_p om om) dd) (hl2:=by first|rfl|assumption|omega|exact Nat.le_trans (Pg.ln_1 om) dd|exact Nat.le_trans (Pg.ln_p om om) dd)) (.c (j:=3) rfl (.c (j:=1) rfl .n)) ?_
   rintro ⟨w330,w431⟩ -
   dsimp only [aq,nq,cq]
   refine e_mv rfl<|e_p (zr rfl rfl)<|e_p (zr rfl rfl)<|zM rfl rfl (zn zr43 rfl) (fun b32=> ?_)
   refine zk 0 rfl rfl rfl rfl rfl sz43 rfl (.t4 .nil) .z<|e_p (zb rfl)<|zh<|zd<|zg ?_
   have e33:decide (3*Pg.db l≠0)=true:=by exact decide_eq_true hd3
   rw [e33]
   refine za<|e_ru (zc 1 ty43 rfl rfl (.t4 .nil))<|e_ru (zc 0 ty43 rfl rfl (.t4 .nil))<|e_p (zJ zr69 rfl yf (.c sz43 (.c sz43 .n)) (.c rfl (.c rfl .n)) (.c rfl rfl rfl (.t4 .nil) (.c rfl rfl rfl (.s4 (.t4 .nil)) .n)))<|zk 5 rfl rfl rfl rfl rfl sz69 rfl (.t8 .nil) (.s (.s (.s (.s (.s .z)))))<|e_p (zb rfl)<|zh<|zd<|zH ?_
   exact zra Tryz.results39 (w327,w428,w330,w431) (fun h=>absurd hz h) (zu 5 ty69 rfl rfl (.t8 .nil)) (zl rfl) (by rw [hz]) (ho:=(.n:PickO _ _ _)) ((.e (j:=1) rfl (by rw [Pg.cnO_ok hz,Pg.cnB_ok hz,Pg.cnV_n hn]) (.e (j:=0) rfl (by rw [Pg.cnO_ok hz,Pg.cnB_ok hz,Pg.cnV_n hn]) .n)):SelR _ _ _)
end Go.Proofs.YtjcpbhlijoigfaaGreat.Sp
namespace Go.Proofs.YtjcpbhlijoigfaaGreat.Sp
open Go
set_option linter.unusedVariables false
set_option maxRecDepth 100000
set_option maxHeartbeats 8000000
theorem zwc {p:Option Addr} {n:Nat} {cap:Nat} {l:List Pg.P2} (hn:l.length=n) (h64:n≤64) (hrng:∀x∈l,Pg.inR x) (hdb:Pg.db l≠0):Con ye 43 [.slice p n cap] [] [slF (rI2 .i64) p cap l] (Y:=Wd×Wd×Wd×Wd) (fun y=>True) (fun y=> .agg #[y.1.b,y.1.l,y.2.1.b,y.2.1.l,y.2.2.1.b,y.2.2.1.l,y.2.2.2.b,y.2.2.2.l]) (fun y=>[]) (fun y=>[qF true y.1 y.2.1 ((Pg.cnV l).1),qF true y.2.2.1 y.2.2.2 ((Pg.cnV l).2)]):=by
 refine zm Tryz.func43 rfl rfl rfl (fun c=> ?_)
 show RunC _ _ _ _ _ [(0,.slice p n cap)] [] [slF (rI2 .i64) p cap l]
 refine zba 0 rfl (fun hL0=> ?_)
 have hnf:¬l.any Pg.far=true:=fun h=>by obtain ⟨x,hx,hf⟩:=List.any_eq_true.1 h;unfold Pg.far at hf;simp at hf;exact hf (hrng x hx)
 have hA:Pg.arV l=Pg.db l:=(Pg.ar_ok om hnf).1
 have hA0:Pg.arC l=0:=(Pg.ar_ok om hnf).2
 have hdbb:=Pg.dbN_b hn hrng (i:=n) (Nat.le_refl _)
 have hdb2:Pg.db l=Pg.dbN n l n:=by rw [Pg.db,hn]
 have hd3:3*Pg.db l≠0:=by omega
 refine zg<|za<|zM rfl rfl (zn zr69 rfl) (fun b1=> ?_)
 refine zh<|zd<|zg<|za<|e_mv rfl<|zL rfl rfl (.c rfl .n) ce14 (znc (p:=p) (n:=n) (cap:=cap) (l:=l) (hn:=ass)) (.c (j:=0) rfl .n)<|e_mv rfl<|e_p (zr rfl rfl)<|e_p (zr rfl rfl)<|e_p (zb rfl)<|e_p (zb rfl)<|zh<|zd<|zg ?_
 have e2:Pg.arV l=Pg.db l:=by exact hA
 rw [e2]
 refine za<|zE rfl rfl (.c rfl (.c rfl .n)) ce69 (zgc (z1:=0) (z2:=1) (hz1:=by first|rfl|assumption|omega|exact Nat.le_trans (Pg.ln_1 om) dd|exact Nat.le_trans (Pg.ln_p om om) dd) (hz2:=by first|rfl|assumption|omega|exact Nat.le_trans (Pg.ln_1 om) dd|exact Nat.le_trans (Pg.ln_p om om) dd) (hy:=by first|rfl|assumption|omega|exact Nat.le_trans (Pg.ln_1 om) dd|exact Nat.le_trans (Pg.ln_p om om) dd)) (.n) ?_
 rintro ⟨w33,w44⟩ -
 dsimp only [aq,nq,cq]
 refine zM rfl rfl (zn zr43 rfl) (fun b5=> ?_)
 refine zk 0 rfl rfl rfl rfl rfl sz43 rfl (.t4 .nil) .z<|zh<|zd<|zg<|za<|zE rfl rfl (.c rfl (.c rfl .n)) ce69 (zgc (z1:=0) (z2:=1) (hz1:=by first|rfl|assumption|omega|exact Nat.le_trans (Pg.ln_1 om) dd|exact Nat.le_trans (Pg.ln_p om om) dd) (hz2:=by first|rfl|assumption|omega|exact Nat.le_trans (Pg.ln_1 om) dd|exact Nat.le_trans (Pg.ln_p om om) dd) (hy:=by first|rfl|assumption|omega|exact Nat.le_trans (Pg.ln_1 om) dd|exact Nat.le_trans (Pg.ln_p om om) dd)) (.n) ?_
 rintro ⟨w36,w47⟩ -
 dsimp only [aq,nq,cq]
 refine zM rfl rfl (zn zr43 rfl) (fun b8=> ?_)
 refine zk 0 rfl rfl rfl rfl rfl sz43 rfl (.t4 .nil) .z<|zh<|zd<|zg<|zg<|za<|e_p (zb rfl)<|zh<|zd<|zB<|zka (X:=Nat×Wd×Wd×Wd×Wd) (fun x:Nat×Wd×Wd×Wd×Wd=>x.1≤n) (fun x=>[(7,.int .i64 ((x.1:Nat):Int)),(6,.pointer (some ⟨b8,0,none⟩)),(5,.pointer (some ⟨b5,0,none⟩)),(3,.int .i64 (Pg.db l)),(2,.pointer (some ⟨b1,0,none⟩)),(0,.slice p n cap)]) (fun x=>[boxA b8 43 (cw [x.2.2.2.1,x.2.2.2.2]),boxA b5 43 (cw [x.2.1,x.2.2.1]),boxA b1 69 (cw [wz,wz,wz,wz])]) (fun x=>[qF true x.2.1 x.2.2.1 (((Pg.cnX n l x.1):Int):Rat),qF true x.2.2.2.1 x.2.2.2.2 (((Pg.cnY n l x.1):Int):Rat),qF true w36 w47 (Rat.divInt 0 1),qF true w33 w44 (Rat.divInt 0 1),slF (rI2 .i64) p cap l]) (fun x:Nat×Wd×Wd×Wd×Wd=>n - x.1) (0,w33,w44,w36,w47) (show 0≤n from by exact Nat.zero_le _) ((.e rfl (by first|rfl|(congr 1;omega)|simp_all) (.of rfl)):SubM _ _) (ho:=((.of [0,0,0] rfl):PickO _ _ _)) ((.e (j:=1) rfl (by first|rfl|(rw [Pg.d01];rfl)) (.e (j:=0) rfl (by first|rfl|(rw [Pg.d01];rfl)) (.of [0,1,2] rfl))):SelR _ _ _) ?_
 rintro ⟨k,wa,wb,wc,wd⟩ hI
 replace hI:k≤n:=hI
 try dsimp only [cw]
 refine zg<|zg<|za<|e_mv rfl<|e_mv rfl<|e_p (zN yc rfl)<|e_p (zY rfl rfl)<|zh<|zd<|zC rfl (fun h9=> ?_) (fun h9=> ?_)
 ·
  have hm1:(k+1)%n<n:=Nat.mod_lt _ om
  have hg0:Pg.inR (l.getD k (0,0)):=Pg.Ok.gt hrng om
  have hg1:Pg.inR (l.getD ((k+1)%n) (0,0)):=Pg.Ok.gt hrng om
  obtain ⟨hp1,hp2⟩:=Pg.ab hg0 hg1
  have hu0:(-1048576≤(l.getD k (0,0)).1∧(l.getD k (0,0)).1≤1048576)∧(-1048576≤(l.getD k (0,0)).2∧(l.getD k (0,0)).2≤1048576):=hg0
  have hu1:(-1048576≤(l.getD ((k+1)%n) (0,0)).1∧(l.getD ((k+1)%n) (0,0)).1≤1048576)∧(-1048576≤(l.getD ((k+1)%n) (0,0)).2∧(l.getD ((k+1)%n) (0,0)).2≤1048576):=hg1
  have hlx:=Pg.ln20 (Pg.cnX_r hn hrng h64 (i:=k) om)
  have hly:=Pg.ln20 (Pg.cnY_r hn hrng h64 (i:=k) om)
  refine zA<|zd<|zg<|zB<|zg<|za<|e_mv rfl<|e_mv rfl<|zP (x0:=(l.getD k (0,0))) 4 k rfl yc sz30 rfl rfl rfl cbs rfl rfl (gD (d:=(0,0)) om) (fun b10 o11 hok12=> ?_)
  obtain ⟨hok12x,hok12y⟩:=hok12
  replace hok12x:=zD.1 hok12x
  replace hok12y:=zD.1 hok12y
  refine e_ru (zq (j:=0) 0 ty30 rfl rfl rfl (.t2 .nil))<|zM rfl rfl (zn zr30 rfl) (fun b13=> ?_)
  refine zk 0 rfl rfl rfl rfl rfl sz30 rfl (.t2 .nil) .z<|zh<|zd<|zg<|za<|e_mv rfl<|e_mv rfl<|e_p (zI (z:=(((k+1):Nat):Int)) rfl rfl (w64 om))<|e_mv rfl<|e_p (zN yc rfl)<|e_p (zwa (z:=((((k+1)%n):Nat):Int)) rfl rfl om (remN om om))<|zP (x0:=(l.getD ((k+1)%n) (0,0))) 5 ((k+1)%n) rfl yc sz30 rfl rfl rfl cbs rfl rfl (gD (d:=(0,0)) om) (fun b14 o15 hok16=> ?_)
  obtain ⟨hok16x,hok16y⟩:=hok16
  replace hok16x:=zD.1 hok16x
  replace hok16y:=zD.1 hok16y
  refine e_ru (zq (j:=0) 0 ty30 rfl rfl rfl (.t2 .nil))<|zM rfl rfl (zn zr30 rfl) (fun b17=> ?_)
  refine zk 0 rfl rfl rfl rfl rfl sz30 rfl (.t2 .nil) .z<|zh<|zd<|zg<|za<|e_p (ze ya rfl sz3 rfl rfl)<|e_ru (zf 1 ty3 rfl rfl rfl)<|e_p (ze ya rfl sz3 rfl rfl)<|e_ru (zf 0 ty3 rfl rfl rfl)<|e_p (zya (z:=((l.getD k (0,0)).1*(l.getD ((k+1)%n) (0,0)).2)) rfl rfl (w64 om))<|e_p (ze ya rfl sz3 rfl rfl)<|e_ru (zf 0 ty3 rfl rfl rfl)<|e_p (ze ya rfl sz3 rfl rfl)<|e_ru (zf 1 ty3 rfl rfl rfl)<|e_p (zya (z:=((l.getD ((k+1)%n) (0,0)).1*(l.getD k (0,0)).2)) rfl rfl (w64 om))<|e_p (zla (z:=(((l.getD k (0,0)).1*(l.getD ((k+1)%n) (0,0)).2) - ((l.getD ((k+1)%n) (0,0)).1*(l.getD k (0,0)).2))) rfl rfl (w64 om))<|zE rfl rfl (.c rfl (.c rfl .n)) ce69 (zgc (z1:=(((l.getD k (0,0)).1*(l.getD ((k+1)%n) (0,0)).2) - ((l.getD ((k+1)%n) (0,0)).1*(l.getD k (0,0)).2))) (z2:=1) (hz1:=by first|rfl|assumption|omega|exact Nat.le_trans (Pg.ln_1 om) dd|exact Nat.le_trans (Pg.ln_p om om) dd) (hz2:=by first|rfl|assumption|omega|exact Nat.le_trans (Pg.ln_1 om) dd|exact Nat.le_trans (Pg.ln_p om om) dd) (hy:=by first|rfl|assumption|omega|exact Nat.le_trans (Pg.ln_1 om) dd|exact Nat.le_trans (Pg.ln_p om om) dd)) (.n) ?_
  rintro ⟨w318,w419⟩ -
  dsimp only [aq,nq,cq]
  refine zM rfl rfl (zn zr43 rfl) (fun b20=> ?_)
  refine zk 0 rfl rfl rfl rfl rfl sz43 rfl (.t4 .nil) .z<|zh<|zd<|zg<|zqa (.c (i:=4) rfl (.c (i:=0) rfl (.c (i:=0) rfl (.c (i:=0) rfl (.c (i:=0) rfl (.c (i:=0) rfl .n))))))<|zW (OW:=[boxA b5 43 (cw [wa,wb])]) (O:=[boxA b20 43 (cw [w318,w419]),boxA b17 30 [.int .i64 ((l.getD ((k+1)%n) (0,0)).1),.int .i64 ((l.getD ((k+1)%n) (0,0)).2)],boxA b13 30 [.int .i64 ((l.getD k (0,0)).1),.int .i64 ((l.getD k (0,0)).2)],boxA b8 43 (cw [wc,wd]),boxA b1 69 (cw [wz,wz,wz,wz])]) 10 mixed (.then (.block (.then (.then (.block (.then .ret)))))) kr<|e_uw 0 rfl rfl (zc 0 ty43 rfl rfl (.t4 .nil))<|e_uw 1 rfl rfl (zc 1 ty43 rfl rfl (.t4 .nil))<|e_pv 2 rfl rfl (ze ya rfl sz3 rfl rfl)<|e_uw 3 rfl rfl (zf 3 ty3 rfl rfl rfl)<|e_pv 4 rfl rfl (ze ya rfl sz3 rfl rfl)<|e_uw 5 rfl rfl (zf 2 ty3 rfl rfl rfl)<|e_pv 6 rfl rfl (zI (z:=((l.getD k (0,0)).1+(l.getD ((k+1)%n) (0,0)).1)) rfl rfl (w64 om))<|e_one 7 (zw rfl rfl rfl rfl (.c rfl (.c rfl .n)) ce69 (zgc (z1:=((l.getD k (0,0)).1+(l.getD ((k+1)%n) (0,0)).1)) (z2:=1) (hz1:=by first|rfl|assumption|omega|exact Nat.le_trans (Pg.ln_1 om) dd|exact Nat.le_trans (Pg.ln_p om om) dd) (hz2:=by first|rfl|assumption|omega|exact Nat.le_trans (Pg.ln_1 om) dd|exact Nat.le_trans (Pg.ln_p om om) dd) (hy:=by first|rfl|assumption|omega|exact Nat.le_trans (Pg.ln_1 om) dd|exact Nat.le_trans (Pg.ln_p om om) dd)) (.n) ?_)
  rintro ⟨w321,w422⟩ -
  dsimp only [aq,nq,cq]
  refine e_one 8 (zw rfl rfl rfl rfl (.c rfl (.c rfl .n)) ce25 (zAb (k1:=true) (u1:=w318) (v1:=w419) (q1:=Rat.divInt (((l.getD k (0,0)).1*(l.getD ((k+1)%n) (0,0)).2) - ((l.getD ((k+1)%n) (0,0)).1*(l.getD k (0,0)).2)) 1) (k2:=true) (u2:=w321) (v2:=w422) (q2:=Rat.divInt ((l.getD k (0,0)).1+(l.getD ((k+1)%n) (0,0)).1) 1) (hl:=by exact Nat.le_trans (Pg.hq_mm om om) dd)) (.c (j:=1) rfl (.c (j:=0) rfl .n)) ?_)
  rintro ⟨w323,w424⟩ -
  dsimp only [aq,nq,cq]
  refine e_one 9 (zw rfl rfl rfl rfl (.c rfl (.c rfl .n)) ce70 (zvc (k1:=true) (u1:=wa) (v1:=wb) (q1:=(((Pg.cnX n l k):Int):Rat)) (k2:=true) (u2:=w323) (v2:=w424) (q2:=(Rat.divInt (((l.getD k (0,0)).1*(l.getD ((k+1)%n) (0,0)).2) - ((l.getD ((k+1)%n) (0,0)).1*(l.getD k (0,0)).2)) 1)*(Rat.divInt ((l.getD k (0,0)).1+(l.getD ((k+1)%n) (0,0)).1) 1)) (hl:=by exact Nat.le_trans (Pg.hq_ma (Pg.cnX_r hn hrng h64 (i:=k) om) om om) dd)) (.c (j:=5) rfl (.c (j:=0) rfl .n)) ?_)
  rintro ⟨w325,w426⟩ -
  dsimp only [aq,nq,cq]
  refine e_one 10 (zv kr rfl rfl rfl rfl rfl sz43 rfl (.t4 .nil) ?_)
  refine zT kr<|zd<|zqa (.c (i:=4) rfl (.c (i:=0) rfl (.c (i:=0) rfl (.c (i:=0) rfl (.c (i:=0) rfl (.c (i:=0) rfl .n))))))<|zW (OW:=[boxA b8 43 (cw [wc,wd])]) (O:=[boxA b5 43 (cw [w325,w426]),boxA b20 43 (cw [w318,w419]),boxA b17 30 [.int .i64 ((l.getD ((k+1)%n) (0,0)).1),.int .i64 ((l.getD ((k+1)%n) (0,0)).2)],boxA b13 30 [.int .i64 ((l.getD k (0,0)).1),.int .i64 ((l.getD k (0,0)).2)],boxA b1 69 (cw [wz,wz,wz,wz])]) 10 mixed (.block (.then (.then (.block (.then .ret))))) kr<|e_uw 0 rfl rfl (zc 0 ty43 rfl rfl (.t4 .nil))<|e_uw 1 rfl rfl (zc 2 ty43 rfl rfl (.t4 .nil))<|e_pv 2 rfl rfl (ze ya rfl sz3 rfl rfl)<|e_uw 3 rfl rfl (zf 4 ty3 rfl rfl rfl)<|e_pv 4 rfl rfl (ze ya rfl sz3 rfl rfl)<|e_uw 5 rfl rfl (zf 3 ty3 rfl rfl rfl)<|e_pv 6 rfl rfl (zI (z:=((l.getD k (0,0)).2+(l.getD ((k+1)%n) (0,0)).2)) rfl rfl (w64 om))<|e_one 7 (zw rfl rfl rfl rfl (.c rfl (.c rfl .n)) ce69 (zgc (z1:=((l.getD k (0,0)).2+(l.getD ((k+1)%n) (0,0)).2)) (z2:=1) (hz1:=by first|rfl|assumption|omega|exact Nat.le_trans (Pg.ln_1 om) dd|exact Nat.le_trans (Pg.ln_p om om) dd) (hz2:=by first|rfl|assumption|omega|exact Nat.le_trans (Pg.ln_1 om) dd|exact Nat.le_trans (Pg.ln_p om om) dd) (hy:=by first|rfl|assumption|omega|exact Nat.le_trans (Pg.ln_1 om) dd|exact Nat.le_trans (Pg.ln_p om om) dd)) (.n) ?_)
  rintro ⟨w327,w428⟩ -
  dsimp only [aq,nq,cq]
  refine e_one 8 (zw rfl rfl rfl rfl (.c rfl (.c rfl .n)) ce25 (zAb (k1:=true) (u1:=w318) (v1:=w419) (q1:=Rat.divInt (((l.getD k (0,0)).1*(l.getD ((k+1)%n) (0,0)).2) - ((l.getD ((k+1)%n) (0,0)).1*(l.getD k (0,0)).2)) 1) (k2:=true) (u2:=w327) (v2:=w428) (q2:=Rat.divInt ((l.getD k (0,0)).2+(l.getD ((k+1)%n) (0,0)).2) 1) (hl:=by exact Nat.le_trans (Pg.hq_mm om om) dd)) (.c (j:=4) rfl (.c (j:=0) rfl .n)) ?_)
  rintro ⟨w329,w430⟩ -
  dsimp only [aq,nq,cq]
  refine e_one 9 (zw rfl rfl rfl rfl (.c rfl (.c rfl .n)) ce70 (zvc (k1:=true) (u1:=wc) (v1:=wd) (q1:=(((Pg.cnY n l k):Int):Rat)) (k2:=true) (u2:=w329) (v2:=w430) (q2:=(Rat.divInt (((l.getD k (0,0)).1*(l.getD ((k+1)%n) (0,0)).2) - ((l.getD ((k+1)%n) (0,0)).1*(l.getD k (0,0)).2)) 1)*(Rat.divInt ((l.getD k (0,0)).2+(l.getD ((k+1)%n) (0,0)).2) 1)) (hl:=by exact Nat.le_trans (Pg.hq_ma (Pg.cnY_r hn hrng h64 (i:=k) om) om om) dd)) (.c (j:=9) rfl (.c (j:=0) rfl .n)) ?_)
  rintro ⟨w331,w432⟩ -
  dsimp only [aq,nq,cq]
  refine e_one 10 (zv kr rfl rfl rfl rfl rfl sz43 rfl (.t4 .nil) ?_)
  refine zT kr<|zO<|zd<|za<|e_mv rfl<|e_p (zI (z:=(((k+1):Nat):Int)) rfl rfl (w64 om))<|e_p (zb rfl)<|zh<|zda ((k+1),w325,w426,w331,w432) (show (k+1)≤n from by show k+1≤n;omega) (by show n - (k+1)<n - k;omega) ((.of rfl):SubM _ _) (ho:=((.of [0,0,3] rfl):PickO _ _ _)) ((.e (j:=3) rfl (by rw [Pg.cq_step];rfl) (.e (j:=0) rfl (by rw [Pg.cq_step];rfl) (.of [11,12,13] rfl))):SelR _ _ _)
 ·
  refine zja<|zj<|zj<|zt<|zd<|zg ?_
  have hkn:k=n:=by omega
  have e33:(Pg.cnX n l k)=(Pg.cnX n l n):=by rw [hkn]
  rw [e33]
  have e34:(Pg.cnY n l k)=(Pg.cnY n l n):=by rw [hkn]
  rw [e34]
  refine za<|e_mv rfl<|e_p (zya (z:=(3*Pg.db l)) rfl rfl (w64 om))<|zE rfl rfl (.c rfl (.c rfl .n)) ce69 (zgc (z1:=1) (z2:=(3*Pg.db l)) (hz1:=by first|rfl|assumption|omega|exact Nat.le_trans (Pg.ln_1 om) dd|exact Nat.le_trans (Pg.ln_p om om) dd) (hz2:=by first|rfl|assumption|omega|exact Nat.le_trans (Pg.ln_1 om) dd|exact Nat.le_trans (Pg.ln_p om om) dd) (hy:=by first|rfl|assumption|omega|exact Nat.le_trans (Pg.ln_1 om) dd|exact Nat.le_trans (Pg.ln_p om om) dd)) (.n) ?_
  rintro ⟨w335,w436⟩ -
  dsimp only [aq,nq,cq]
  refine zM rfl rfl (zn zr43 rfl) (fun b37=> ?_)
  refine zk 0 rfl rfl rfl rfl rfl sz43 rfl (.t4 .nil) .z<|zh<|zd<|zg<|zqa (.c (i:=3) rfl (.c (i:=0) rfl (.c (i:=0) rfl (.c (i:=0) rfl .n))))<|zW (OW:=[boxA b1 69 (cw [wz,wz,wz,wz])]) (O:=[boxA b37 43 (cw [w335,w436]),boxA b8 43 (cw [wc,wd]),boxA b5 43 (cw [wa,wb])]) 7 mixed (.then .ret) kr<|e_uw 0 rfl rfl (zc 3 ty43 rfl rfl (.t4 .nil))<|e_uw 1 rfl rfl (zc 1 ty43 rfl rfl (.t4 .nil))<|e_uw 3 rfl rfl (zc 2 ty43 rfl rfl (.t4 .nil))<|e_uw 4 rfl rfl (zc 1 ty43 rfl rfl (.t4 .nil))<|e_one 2 (zw rfl rfl rfl rfl (.c rfl (.c rfl .n)) ce25 (zAb (k1:=true) (u1:=wa) (v1:=wb) (q1:=(((Pg.cnX n l n):Int):Rat)) (k2:=true) (u2:=w335) (v2:=w436) (q2:=Rat.divInt 1 (3*Pg.db l)) (hl:=by exact Nat.le_trans (Pg.hq_mf (Pg.cnX_r hn hrng h64 (i:=n) om) om om) dd)) (.c (j:=1) rfl (.c (j:=0) rfl .n)) ?_)
  rintro ⟨w338,w439⟩ -
  dsimp only [aq,nq,cq]
  refine e_one 5 (zw rfl rfl rfl rfl (.c rfl (.c rfl .n)) ce25 (zAb (k1:=true) (u1:=wc) (v1:=wd) (q1:=(((Pg.cnY n l n):Int):Rat)) (k2:=true) (u2:=w335) (v2:=w436) (q2:=Rat.divInt 1 (3*Pg.db l)) (hl:=by exact Nat.le_trans (Pg.hq_mf (Pg.cnY_r hn hrng h64 (i:=n) om) om om) dd)) (.c (j:=3) rfl (.c (j:=1) rfl .n)) ?_)
  rintro ⟨w340,w441⟩ -
  dsimp only [aq,nq,cq]
  refine e_pv 6 rfl rfl (zJ zr69 rfl yf (.c sz43 (.c sz43 .n)) (.c rfl (.c rfl .n)) (.c rfl rfl rfl (.t4 .nil) (.c rfl rfl rfl (.s4 (.t4 .nil)) .n)))<|e_one 7 (zv kr rfl rfl rfl rfl rfl sz69 rfl (.t8 .nil) ?_)
  refine zT kr<|zd<|zH ?_
  exact zy Tryz.results43 (w338,w439,w340,w441) trivial (zu 0 ty69 rfl rfl (.t8 .nil)) rfl (ho:=(.n:PickO _ _ _)) ((.e (j:=1) rfl (by rw [Pg.cq_fin,Pg.cnV_n hn]) (.e (j:=0) rfl (by rw [Pg.cq_fin,Pg.cnV_n hn]) .n)):SelR _ _ _)
end Go.Proofs.YtjcpbhlijoigfaaGreat.Sp
namespace Go.Proofs.YtjcpbhlijoigfaaGreat.Sp
open Go
set_option linter.unusedVariables false
set_option maxRecDepth 100000
set_option maxHeartbeats 8000000
theorem zte {p1:Option Addr} {n1:Nat} {c1:Nat} {l1:List Pg.Q2} {p2:Option Addr} {n2:Nat} {c2:Nat} {l2:List Pg.Q2} (hn1:l1.length=n1) (hn2:l2.length=n2) (hb1:Pg.bq 500000 l1) (hb2:Pg.bq 500000 l2):Con ye 20 [.slice p1 n1 c1,.slice p2 n2 c2] [] [slF rR p1 c1 l1,slF rR p2 c2 l2] (Y:=Unit) (fun y=>True) (fun y=> .bool (decide (l1=l2))) (fun y=>[]) (fun y=>[]):=by
 refine zm Tryz.func20 rfl rfl rfl (fun c=> ?_)
 show RunC _ _ _ _ _ [(0,.slice p1 n1 c1),(1,.slice p2 n2 c2)] [] [slF rR p1 c1 l1,slF rR p2 c2 l2]
 refine zba 0 rfl (fun hL0=> ?_)
 refine zba 1 rfl (fun hL1=> ?_)
 refine zg<|za<|e_p (zb rfl)<|zh<|zd<|zg<|zg<|za<|e_mv rfl<|e_p (zN yd rfl)<|e_mv rfl<|e_p (zN yd rfl)<|e_p (zMa rfl rfl)<|zh<|zd<|zC rfl (fun hlen=> ?_) (fun hlen=> ?_)
 ·
  refine zg<|za<|e_p (zb rfl)<|zh<|zd<|zH<|zi ?_
  exact zy yp () trivial (zl rfl) (congrArg Value.bool (decide_eq_false (fun h=>hlen (by rw [← hn1,←hn2,h])))) (ho:=(.n:PickO _ _ _)) (.n:SelR _ _ _)
 ·
  refine zA<|zd<|zg<|zg<|za<|e_p (zb rfl)<|zh<|zd<|zB<|zka (X:=Nat) (fun x:Nat=>x≤n1∧∀j,j<x→l1.getD j ((0:Rat),(0:Rat))=l2.getD j ((0:Rat),(0:Rat))) (fun x=>[(5,.int .i64 ((x:Nat):Int)),(0,.slice p1 n1 c1),(1,.slice p2 n2 c2)]) (fun x=>[]) (fun x=>[slF rR p1 c1 l1,slF rR p2 c2 l2]) (fun x:Nat=>n1 - x) 0 (show 0≤n1∧∀j,j<0→l1.getD j ((0:Rat),(0:Rat))=l2.getD j ((0:Rat),(0:Rat)) from by exact ⟨Nat.zero_le _,fun j h=>by omega⟩) ((.e rfl (by first|rfl|(congr 1;omega)|simp_all) (.c rfl (.c rfl .n))):SubM _ _) (ho:=(.n:PickO _ _ _)) ((.of [0,1] rfl):SelR _ _ _) ?_
  rintro i hI
  replace hI:i≤n1∧∀j,j<i→l1.getD j ((0:Rat),(0:Rat))=l2.getD j ((0:Rat),(0:Rat)):=hI
  try dsimp only
  obtain ⟨hi,hall⟩:=hI
  refine zg<|zg<|za<|e_mv rfl<|e_mv rfl<|e_p (zN yd rfl)<|e_p (zY rfl rfl)<|zh<|zd<|zC rfl (fun h1=> ?_) (fun h1=> ?_)
  ·
   have hba1:yk (l1.getD i ((0:Rat),(0:Rat))).1≤500000:=(Pg.bq_at hb1 (i:=i) om).1
   have hba2:yk (l1.getD i ((0:Rat),(0:Rat))).2≤500000:=(Pg.bq_at hb1 (i:=i) om).2
   have hbb1:yk (l2.getD i ((0:Rat),(0:Rat))).1≤500000:=(Pg.bq_at hb2 (i:=i) om).1
   have hbb2:yk (l2.getD i ((0:Rat),(0:Rat))).2≤500000:=(Pg.bq_at hb2 (i:=i) om).2
   refine zA<|zd<|zg<|zB<|zg<|zW (OW:=[]) (O:=[]) 100000 mixed (.then (.block (.then (.then (.block (.then .ret)))))) kr<|e_dm 0 rfl rfl rfl<|e_dm 1 rfl rfl rfl<|d_vl 2 rfl rfl kr kr rfl rfl (zab (x0:=(l1.getD i ((0:Rat),(0:Rat)))) 0 i rfl yd sz69 rfl cbs rfl rfl (gD (d:=((0:Rat),(0:Rat))) om)) ?_
   rintro ⟨b2,o3,w4,w5,w6,w7⟩ -
   dsimp only [aq,nq,cq]
   refine zld open_rR<|e_pv 3 rfl rfl (ze yf rfl sz43 rfl rfl)<|e_u 4 rfl rfl (zq (j:=0) 0 ty43 rfl rfl rfl (.t4 .nil))<|e_dm 5 rfl rfl rfl<|e_dm 6 rfl rfl rfl<|d_vl 7 rfl rfl kr kr rfl rfl (zab (x0:=(l2.getD i ((0:Rat),(0:Rat)))) 4 i rfl yd sz69 rfl cbs rfl rfl (gD (d:=((0:Rat),(0:Rat))) om)) ?_
   rintro ⟨b8,o9,w10,w11,w12,w13⟩ -
   dsimp only [aq,nq,cq]
   refine zld open_rR<|e_pv 8 rfl rfl (ze yf rfl sz43 rfl rfl)<|e_u 9 rfl rfl (zq (j:=0) 0 ty43 rfl rfl rfl (.t4 .nil))<|e_one 10 (zpa rfl rfl rfl rfl (.c rfl (.c rfl .n)) ce44 (zCc (u1:=w4) (v1:=w5) (q1:=(l1.getD i ((0:Rat),(0:Rat))).1) (u2:=w10) (v2:=w11) (q2:=(l2.getD i ((0:Rat),(0:Rat))).1) (hl:=cbo)) (.c (j:=4) rfl (.c (j:=1) rfl .n)) ?_)
   refine e_pv 11 rfl rfl (zYa rfl)<|zDb 12 rfl rfl kr kr rfl rfl (zX rfl) (fun hd1=> ?_) (fun hd1=> ?_)
   ·
    refine e_skip 13 rfl rfl<|e_skip 14 rfl rfl<|e_skip 15 rfl rfl<|e_skip 16 rfl rfl<|e_skip 17 rfl rfl<|e_skip 18 rfl rfl<|e_skip 19 rfl rfl<|e_skip 20 rfl rfl<|e_skip 21 rfl rfl<|e_skip 22 rfl rfl<|e_skip 23 rfl rfl<|e_skip 24 rfl rfl<|e_pv 25 rfl rfl (zo rfl rfl)<|zT kr<|zd<|zCb rfl rfl<|zg<|za<|e_p (zb rfl)<|zh<|zd<|zH<|zp<|zi<|zi<|zp<|zi ?_
    exact zy yp () trivial (zl rfl) (congrArg Value.bool (decide_eq_false (fun h=>hd1 (by rw [h])))) (ho:=(.n:PickO _ _ _)) (.n:SelR _ _ _)
   ·
    refine e_dm 13 rfl rfl rfl<|e_dm 14 rfl rfl rfl<|d_vl 15 rfl rfl kr kr rfl rfl (zab (x0:=(l1.getD i ((0:Rat),(0:Rat)))) 6 i rfl yd sz69 rfl cbs rfl rfl (gD (d:=((0:Rat),(0:Rat))) om)) ?_
    rintro ⟨b14,o15,w16,w17,w18,w19⟩ -
    dsimp only [aq,nq,cq]
    refine zld open_rR<|e_pv 16 rfl rfl (ze yf rfl sz43 rfl rfl)<|e_u 17 rfl rfl (zq (j:=4) 0 ty43 rfl rfl rfl (.s4 (.t4 .nil)))<|e_dm 18 rfl rfl rfl<|e_dm 19 rfl rfl rfl<|d_vl 20 rfl rfl kr kr rfl rfl (zab (x0:=(l2.getD i ((0:Rat),(0:Rat)))) 10 i rfl yd sz69 rfl cbs rfl rfl (gD (d:=((0:Rat),(0:Rat))) om)) ?_
    rintro ⟨b20,o21,w22,w23,w24,w25⟩ -
    dsimp only [aq,nq,cq]
    refine zld open_rR<|e_pv 21 rfl rfl (ze yf rfl sz43 rfl rfl)<|e_u 22 rfl rfl (zq (j:=4) 0 ty43 rfl rfl rfl (.s4 (.t4 .nil)))<|e_one 23 (zpa rfl rfl rfl rfl (.c rfl (.c rfl .n)) ce44 (zCc (u1:=w18) (v1:=w19) (q1:=(l1.getD i ((0:Rat),(0:Rat))).2) (u2:=w24) (v2:=w25) (q2:=(l2.getD i ((0:Rat),(0:Rat))).2) (hl:=cbo)) (.c (j:=5) rfl (.c (j:=2) rfl .n)) ?_)
    refine e_pv 24 rfl rfl (zYa rfl)<|e_pv 25 rfl rfl (zo rfl rfl)<|zT kr<|zd<|zC rfl (fun hd2=> ?_) (fun hd2=> ?_)
    ·
     refine zg<|za<|e_p (zb rfl)<|zh<|zd<|zH<|zp<|zi<|zi<|zp<|zi ?_
     exact zy yp () trivial (zl rfl) (congrArg Value.bool (decide_eq_false (fun h=>hd2 (by rw [h])))) (ho:=(.n:PickO _ _ _)) (.n:SelR _ _ _)
    ·
     refine zA<|zO<|zd<|za<|e_mv rfl<|e_p (zI (z:=(((i+1):Nat):Int)) rfl rfl (w64 om))<|e_p (zb rfl)<|zh<|zda (i+1) (show (i+1)≤n1∧∀j,j<(i+1)→l1.getD j ((0:Rat),(0:Rat))=l2.getD j ((0:Rat),(0:Rat)) from by exact ⟨by omega,Ms.all_lt_succ hall (Prod.ext (Decidable.not_not.1 hd1) (Decidable.not_not.1 hd2))⟩) (by show n1 - (i+1)<n1 - i;omega) ((.of rfl):SubM _ _) (ho:=(.n:PickO _ _ _)) ((.of [12,13] rfl):SelR _ _ _)
  ·
   refine zja<|zj<|zj<|zt<|zd<|zg<|za<|e_p (zb rfl)<|zh<|zd<|zH ?_
   exact zy yp () trivial (zl rfl) (congrArg Value.bool (decide_eq_true (Ms.ext_getD ((0:Rat),(0:Rat)) om (fun j hj=>hall j om)))) (ho:=(.n:PickO _ _ _)) (.n:SelR _ _ _)
theorem zSf {p1:Option Addr} {n1:Nat} {c1:Nat} {l1:List (Int×Int)} {p2:Option Addr} {n2:Nat} {c2:Nat} {l2:List (Int×Int)} (hn1:l1.length=n1) (hn2:l2.length=n2):Con ye 41 [.slice p1 n1 c1,.slice p2 n2 c2] [] [slF (rI2 .i64) p1 c1 l1,slF (rI2 .i64) p2 c2 l2] (Y:=Unit) (fun y=>True) (fun y=> .bool (decide (l1=l2))) (fun y=>[]) (fun y=>[]):=by
 refine zm Tryz.func41 rfl rfl rfl (fun c=> ?_)
 show RunC _ _ _ _ _ [(0,.slice p1 n1 c1),(1,.slice p2 n2 c2)] [] [slF (rI2 .i64) p1 c1 l1,slF (rI2 .i64) p2 c2 l2]
 refine zba 0 rfl (fun hL0=> ?_)
 refine zba 1 rfl (fun hL1=> ?_)
 refine zg<|za<|e_p (zb rfl)<|zh<|zd<|zg<|zg<|za<|e_mv rfl<|e_p (zN yc rfl)<|e_mv rfl<|e_p (zN yc rfl)<|e_p (zMa rfl rfl)<|zh<|zd<|zC rfl (fun hlen=> ?_) (fun hlen=> ?_)
 ·
  refine zg<|za<|e_p (zb rfl)<|zh<|zd<|zH<|zi ?_
  exact zy Tryz.results41 () trivial (zl rfl) (congrArg Value.bool (decide_eq_false (fun h=>hlen (by rw [← hn1,←hn2,h])))) (ho:=(.n:PickO _ _ _)) (.n:SelR _ _ _)
 ·
  refine zA<|zd<|zg<|zg<|za<|e_mv rfl<|e_p (zN yc rfl)<|e_mv rfl<|zh<|zd<|zB<|zka (X:=Nat) (fun x:Nat=>x≤n1∧∀j,j<x→l1.getD j (0,0)=l2.getD j (0,0)) (fun x=>[(13,.int .i64 ((x:Nat):Int)),(12,.int .i64 ((n1:Nat):Int)),(0,.slice p1 n1 c1),(1,.slice p2 n2 c2)]) (fun x=>[]) (fun x=>[slF (rI2 .i64) p1 c1 l1,slF (rI2 .i64) p2 c2 l2]) (fun x:Nat=>n1 - x) 0 (show 0≤n1∧∀j,j<0→l1.getD j (0,0)=l2.getD j (0,0) from by exact ⟨by omega,fun j h=>by omega⟩) ((.e rfl (by first|rfl|(congr 1;omega)|simp_all) (.of rfl)):SubM _ _) (ho:=(.n:PickO _ _ _)) ((.of [0,1] rfl):SelR _ _ _) ?_
  rintro i hI
  replace hI:i≤n1∧∀j,j<i→l1.getD j (0,0)=l2.getD j (0,0):=hI
  try dsimp only
  obtain ⟨hi,hall⟩:=hI
  refine zg<|za<|e_p (zY rfl rfl)<|zh<|zd<|zg<|zC rfl (fun h1=> ?_) (fun h1=> ?_)
  ·
   refine zA<|zd<|zg<|zB<|zg<|za<|e_mv rfl<|e_p (zb rfl)<|zh<|zd<|zg<|zW (OW:=[]) (O:=[]) 100000 mixed (.then (.block (.then (.then (.block (.then .ret)))))) kr<|e_dm 0 rfl rfl rfl<|e_dm 1 rfl rfl rfl<|zZ (x0:=(l1.getD i (0,0))) 2 rfl rfl kr kr 0 i rfl yc sz30 rfl rfl rfl cbs rfl rfl (gD (d:=(0,0)) om) (fun b2 o3 hok4=> ?_)
   obtain ⟨hok4x,hok4y⟩:=hok4
   replace hok4x:=zD.1 hok4x
   replace hok4y:=zD.1 hok4y
   refine e_u 3 rfl rfl (zq (j:=0) 0 ty30 rfl rfl rfl (.t2 .nil))<|e_dm 4 rfl rfl rfl<|e_dm 5 rfl rfl rfl<|zZ (x0:=(l2.getD i (0,0))) 6 rfl rfl kr kr 2 i rfl yc sz30 rfl rfl rfl cbs rfl rfl (gD (d:=(0,0)) om) (fun b5 o6 hok7=> ?_)
   obtain ⟨hok7x,hok7y⟩:=hok7
   replace hok7x:=zD.1 hok7x
   replace hok7y:=zD.1 hok7y
   refine e_u 7 rfl rfl (zq (j:=0) 0 ty30 rfl rfl rfl (.t2 .nil))<|e_pv 8 rfl rfl (zjd (p:=(l1.getD i (0,0)).1=(l2.getD i (0,0)).1∧(l1.getD i (0,0)).2=(l2.getD i (0,0)).2) kr rfl rfl (zid ya kr (zwd dd ty3 rfl rfl (zac yj) (zwd dd ty3 rfl rfl (zac yj) zif))) (by simp [Bool.decide_and]))<|zT kr<|zd<|zC rfl (fun hd=> ?_) (fun hd=> ?_)
   ·
    refine zg<|za<|e_p (zb rfl)<|zh<|zd<|zH<|zp<|zi<|zi<|zp<|zi ?_
    exact zy Tryz.results41 () trivial (zl rfl) (congrArg Value.bool (decide_eq_false (fun h=>hd (by simp [h])))) (ho:=(.n:PickO _ _ _)) (.n:SelR _ _ _)
   ·
    refine zA<|zO<|zd<|za<|e_p (zI (z:=(((i+1):Nat):Int)) rfl rfl (w64 om))<|e_mv rfl<|zh<|zda (i+1) (show (i+1)≤n1∧∀j,j<(i+1)→l1.getD j (0,0)=l2.getD j (0,0) from by exact ⟨by omega,Ms.all_lt_succ hall (by have h9:=Decidable.not_not.1 hd;first|exact h9|exact Prod.ext h9.1 h9.2|(apply Prod.ext;exact h9.1;apply Prod.ext;exact h9.2.1;exact h9.2.2))⟩) (by show n1 - (i+1)<n1 - i;omega) ((.of rfl):SubM _ _) (ho:=(.n:PickO _ _ _)) ((.of [2,3] rfl):SelR _ _ _)
  ·
   refine zja<|zj<|zj<|zt<|zd<|zg<|za<|e_p (zb rfl)<|zh<|zd<|zH ?_
   exact zy Tryz.results41 () trivial (zl rfl) (congrArg Value.bool (decide_eq_true (Ms.ext_getD (0,0) om (fun j hj=>hall j om)))) (ho:=(.n:PickO _ _ _)) (.n:SelR _ _ _)
end Go.Proofs.YtjcpbhlijoigfaaGreat.Sp
namespace Go.Proofs.YtjcpbhlijoigfaaGreat.Sp
open Go
set_option linter.unusedVariables false
set_option maxRecDepth 100000
set_option maxHeartbeats 8000000
theorem zsd {u1:Wd} {v1:Wd}:Con ye 40 [.agg #[u1.b,u1.l,v1.b,v1.l]] [] [] (Y:=Unit) (fun y=>True) (fun y=> .bool (decide (Wd.zz u1 v1))) (fun y=>[]) (fun y=>[]):=by
 refine zm Tryz.func40 rfl rfl rfl (fun c=> ?_)
 show RunC _ _ _ _ _ [(0,.agg #[u1.b,u1.l,v1.b,v1.l])] [] []
 refine zg<|za<|zM rfl rfl (zR rfl rfl) (fun b1=> ?_)
 refine e_p (zb rfl)<|zh<|zd<|zEa (X:=Unit) (fun x=>True) (fun x=>[(26,.bool (decide (u1.s=false∧v1.s=false∧u1.n=0∧v1.n=0))),(2,.bool (decide (((((!u1.s)=true)∧((!v1.s)=true))∧(((u1.n:Nat):Int)=0))∧(((v1.n:Nat):Int)=0))))]) (fun x=>[boxA b1 43 (cw [u1,v1])]) (fun x=>[]) ?_ ?_
 ·
  refine za<|e_p (ze yb rfl sz41 rfl rfl)<|e_p (ze yo rfl sz4 rfl rfl)<|e_ru (zf 0 ty4 rfl rfl rfl)<|e_p (ztb rfl)<|zRc rfl rfl (zX rfl) (fun h2=> ?_) (fun h2=> ?_)
  ·
   refine e_p (ze yb rfl sz41 rfl rfl)<|e_p (ze yo rfl sz4 rfl rfl)<|e_ru (zf 0 ty4 rfl rfl rfl)<|e_p (ztb rfl)<|e_p (zo rfl rfl)<|zRc rfl rfl (zX rfl) (fun h3=> ?_) (fun h3=> ?_)
   ·
    refine e_p (ze yb rfl sz41 rfl rfl)<|e_p (ze yo rfl sz39 rfl rfl)<|e_ru (zf 0 ty39 rfl rfl rfl)<|e_p (zN Tryz.underlying39 rfl)<|e_p (zua rfl rfl)<|e_p (zo rfl rfl)<|zaa rfl rfl (zX rfl) (fun h4=> ?_) (fun h4=> ?_)
    ·
     refine e_p (ze yb rfl sz41 rfl rfl)<|e_p (ze yo rfl sz39 rfl rfl)<|e_ru (zf 0 ty39 rfl rfl rfl)<|e_p (zN Tryz.underlying39 rfl)<|e_p (zua rfl rfl)<|e_p (zo rfl rfl)<|e_p (zb rfl)<|zh ?_
     exact zga () (show True from by first|trivial|omega|simp_all) ((.e rfl (congrArg Value.bool (by first|(simp_all;done)|(simp_all;omega)|omega)) (.e rfl (congrArg Value.bool (by first|(simp_all;done)|(simp_all;omega)|omega)) .n)):SubM _ _) (ho:=((.c (i:=0) rfl .n):PickO _ _ _)) (.n:SelR _ _ _)
    ·
     refine e_no<|e_no<|e_no<|e_no<|e_no<|e_p (zo rfl rfl)<|e_p (zb rfl)<|zh ?_
     exact zga () (show True from by first|trivial|omega|simp_all) ((.e rfl (congrArg Value.bool (by first|(simp_all;done)|(simp_all;omega)|omega)) (.e rfl (congrArg Value.bool (by first|(simp_all;done)|(simp_all;omega)|omega)) .n)):SubM _ _) (ho:=((.c (i:=0) rfl .n):PickO _ _ _)) (.n:SelR _ _ _)
   ·
    refine e_no<|e_no<|e_no<|e_no<|e_no<|e_p (zo rfl rfl)<|e_mv rfl<|e_no<|e_no<|e_no<|e_no<|e_no<|e_p (zo rfl rfl)<|e_p (zb rfl)<|zh ?_
    exact zga () (show True from by first|trivial|omega|simp_all) ((.e rfl (congrArg Value.bool (by first|(simp_all;done)|(simp_all;omega)|omega)) (.e rfl (congrArg Value.bool (by first|(simp_all;done)|(simp_all;omega)|omega)) .n)):SubM _ _) (ho:=((.c (i:=0) rfl .n):PickO _ _ _)) (.n:SelR _ _ _)
  ·
   refine e_no<|e_no<|e_no<|e_no<|e_p (zo rfl rfl)<|e_mv rfl<|e_no<|e_no<|e_no<|e_no<|e_no<|e_p (zo rfl rfl)<|e_mv rfl<|e_no<|e_no<|e_no<|e_no<|e_no<|e_p (zo rfl rfl)<|e_p (zb rfl)<|zh ?_
   exact zga () (show True from by first|trivial|omega|simp_all) ((.e rfl (congrArg Value.bool (by first|(simp_all;done)|(simp_all;omega)|omega)) (.e rfl (congrArg Value.bool (by first|(simp_all;done)|(simp_all;omega)|omega)) .n)):SubM _ _) (ho:=((.c (i:=0) rfl .n):PickO _ _ _)) (.n:SelR _ _ _)
 ·
  rintro ⟨⟩ -
  try dsimp only [cw]
  refine zH ?_
  exact zy Tryz.results40 () trivial (zl rfl) (congrArg Value.bool (decide_eq_decide.2 (by unfold Wd.zz;cases u1.s <;> cases v1.s <;> simp))) (ho:=(.n:PickO _ _ _)) (.n:SelR _ _ _)
end Go.Proofs.YtjcpbhlijoigfaaGreat.Sp
namespace Go.Proofs.YtjcpbhlijoigfaaGreat.Sp
open Go
set_option linter.unusedVariables false
set_option maxRecDepth 100000
set_option maxHeartbeats 8000000
theorem zue {p:Option Addr} {n:Nat} {cap:Nat} {l:List Pg.Q2} {ba:Nat} {ex:Int} {ey:Int} (hn:l.length=n) (hwex: -9223372036854775808≤ex∧ex≤9223372036854775807) (hwey: -9223372036854775808≤ey∧ey≤9223372036854775807) (hbq:Pg.bq 3 l) (hnK:n≤100000):Con ye 57 [.slice p n cap,.pointer (some ⟨ba,0,none⟩)] [] [slF rR p cap l,atF ba 0 [.int .i64 ex,.int .i64 ey]] (Y:=(Option Addr)×Nat) (fun y=>True) (fun y=> .slice (y.1) ((Pg.clL (Pg.pq ex 1) (Pg.pq ex 0) l).length) (y.2)) (fun y=>[rowA 69 rR (y.1) (y.2) (Pg.clL (Pg.pq ex 1) (Pg.pq ex 0) l)]) (fun y=>[]):=by
 refine zm Tryz.func57 rfl rfl rfl (fun c=> ?_)
 show RunC _ _ _ _ _ [(0,.slice p n cap),(1,.pointer (some ⟨ba,0,none⟩))] [] [slF rR p cap l,atF ba 0 [.int .i64 ex,.int .i64 ey]]
 refine zba 0 rfl (fun hL0=> ?_)
 refine zg<|za<|e_p (zb rfl)<|zh<|zd<|zg<|zW (OW:=[]) (O:=[]) 100000 mixed (.then .ret) kr<|e_dm 0 rfl rfl rfl<|e_pv 1 rfl rfl (ze ya rfl sz3 rfl rfl)<|e_u 2 rfl rfl (zx (j:=0) 1 ty3 rfl rfl rfl rfl)<|e_pv 4 rfl rfl (ze ya rfl sz3 rfl rfl)<|e_u 5 rfl rfl (zx (j:=0) 1 ty3 rfl rfl rfl rfl)<|e_one 3 (zw rfl rfl rfl rfl (.c rfl (.c rfl .n)) ce56 (zeb (ex:=ex) (ey:=1) (hwex:=ass) (hwey:=by first|rfl|assumption|omega|(exact Pg.hp_pq om om))) (.n) ?_)
 rintro ⟨wr01,wr12,wr23,wr34⟩ -
 dsimp only [aq,nq,cq]
 refine e_one 6 (zw rfl rfl rfl rfl (.c rfl (.c rfl .n)) ce56 (zeb (ex:=ex) (ey:=0) (hwex:=ass) (hwey:=by first|rfl|assumption|omega|(exact Pg.hp_pq om om))) (.n) ?_)
 rintro ⟨wr05,wr16,wr27,wr38⟩ -
 dsimp only [aq,nq,cq]
 refine e_one 7 (zw rfl rfl rfl rfl (.c rfl (.c rfl (.c rfl .n))) ce58 (zOc (p:=p) (n:=n) (cap:=cap) (l:=l) (wa0:=wr01) (wa1:=wr12) (wa2:=wr23) (wa3:=wr34) (qa:=(Pg.pq ex 1)) (wb0:=wr05) (wb1:=wr16) (wb2:=wr27) (wb3:=wr38) (qb:=(Pg.pq ex 0)) (K:=3) (hn:=ass) (hpa:=by first|rfl|assumption|omega|(exact Pg.hp_pq om om)) (hpb:=by first|rfl|assumption|omega|(exact Pg.hp_pq om om)) (hbq:=ass) (hK:=by first|rfl|assumption|omega|(exact Pg.hp_pq om om)) (hnK:=ass)) (.c (j:=4) rfl (.c (j:=2) rfl (.c (j:=3) rfl (.c (j:=0) rfl (.c (j:=1) rfl .n))))) ?_)
 rintro ⟨p29,c210⟩ -
 dsimp only [aq,nq,cq]
 refine e_pv 8 rfl rfl (zb rfl)<|zT kr<|zd<|zH ?_
 exact zy Tryz.results57 (p29,c210) trivial (zl rfl) rfl (ho:=((.c (i:=0) rfl .n):PickO _ _ _)) (.n:SelR _ _ _)
theorem zve {p:Option Addr} {n:Nat} {cap:Nat} {l:List Pg.Q2} {ba:Nat} {ex:Int} {ey:Int} (hn:l.length=n) (hwex: -9223372036854775808≤ex∧ex≤9223372036854775807) (hwey: -9223372036854775808≤ey∧ey≤9223372036854775807) (hbq:Pg.bq 99 l) (hnK:n≤100000):Con ye 59 [.slice p n cap,.pointer (some ⟨ba,0,none⟩)] [] [slF rR p cap l,atF ba 0 [.int .i64 ex,.int .i64 ey]] (Y:=(Option Addr)×Nat) (fun y=>True) (fun y=> .slice (y.1) ((Pg.clL (Pg.pq ex 0) (Pg.pq ex 1) l).length) (y.2)) (fun y=>[rowA 69 rR (y.1) (y.2) (Pg.clL (Pg.pq ex 0) (Pg.pq ex 1) l)]) (fun y=>[]):=by
 refine zm Tryz.func59 rfl rfl rfl (fun c=> ?_)
 show RunC _ _ _ _ _ [(0,.slice p n cap),(1,.pointer (some ⟨ba,0,none⟩))] [] [slF rR p cap l,atF ba 0 [.int .i64 ex,.int .i64 ey]]
 refine zba 0 rfl (fun hL0=> ?_)
 refine zg<|za<|e_p (zb rfl)<|zh<|zd<|zg<|zW (OW:=[]) (O:=[]) 100000 mixed (.then .ret) kr<|e_dm 0 rfl rfl rfl<|e_pv 1 rfl rfl (ze ya rfl sz3 rfl rfl)<|e_u 2 rfl rfl (zx (j:=0) 1 ty3 rfl rfl rfl rfl)<|e_pv 4 rfl rfl (ze ya rfl sz3 rfl rfl)<|e_u 5 rfl rfl (zx (j:=0) 1 ty3 rfl rfl rfl rfl)<|e_one 3 (zw rfl rfl rfl rfl (.c rfl (.c rfl .n)) ce56 (zeb (ex:=ex) (ey:=0) (hwex:=ass) (hwey:=by first|rfl|assumption|omega|(exact Pg.hp_pq om om))) (.n) ?_)
 rintro ⟨wr01,wr12,wr23,wr34⟩ -
 dsimp only [aq,nq,cq]
 refine e_one 6 (zw rfl rfl rfl rfl (.c rfl (.c rfl .n)) ce56 (zeb (ex:=ex) (ey:=1) (hwex:=ass) (hwey:=by first|rfl|assumption|omega|(exact Pg.hp_pq om om))) (.n) ?_)
 rintro ⟨wr05,wr16,wr27,wr38⟩ -
 dsimp only [aq,nq,cq]
 refine e_one 7 (zw rfl rfl rfl rfl (.c rfl (.c rfl (.c rfl .n))) ce58 (zOc (p:=p) (n:=n) (cap:=cap) (l:=l) (wa0:=wr01) (wa1:=wr12) (wa2:=wr23) (wa3:=wr34) (qa:=(Pg.pq ex 0)) (wb0:=wr05) (wb1:=wr16) (wb2:=wr27) (wb3:=wr38) (qb:=(Pg.pq ex 1)) (K:=99) (hn:=ass) (hpa:=by first|rfl|assumption|omega|(exact Pg.hp_pq om om)) (hpb:=by first|rfl|assumption|omega|(exact Pg.hp_pq om om)) (hbq:=ass) (hK:=by first|rfl|assumption|omega|(exact Pg.hp_pq om om)) (hnK:=ass)) (.c (j:=4) rfl (.c (j:=2) rfl (.c (j:=3) rfl (.c (j:=0) rfl (.c (j:=1) rfl .n))))) ?_)
 rintro ⟨p29,c210⟩ -
 dsimp only [aq,nq,cq]
 refine e_pv 8 rfl rfl (zb rfl)<|zT kr<|zd<|zH ?_
 exact zy Tryz.results59 (p29,c210) trivial (zl rfl) rfl (ho:=((.c (i:=0) rfl .n):PickO _ _ _)) (.n:SelR _ _ _)
theorem zwe {p:Option Addr} {n:Nat} {cap:Nat} {l:List Pg.Q2} {ba:Nat} {ex:Int} {ey:Int} (hn:l.length=n) (hwex: -9223372036854775808≤ex∧ex≤9223372036854775807) (hwey: -9223372036854775808≤ey∧ey≤9223372036854775807) (hbq:Pg.bq 963 l) (hnK:n≤100000):Con ye 60 [.slice p n cap,.pointer (some ⟨ba,0,none⟩)] [] [slF rR p cap l,atF ba 0 [.int .i64 ex,.int .i64 ey]] (Y:=(Option Addr)×Nat) (fun y=>True) (fun y=> .slice (y.1) ((Pg.clL (Pg.pq 0 ey) (Pg.pq 1 ey) l).length) (y.2)) (fun y=>[rowA 69 rR (y.1) (y.2) (Pg.clL (Pg.pq 0 ey) (Pg.pq 1 ey) l)]) (fun y=>[]):=by
 refine zm Tryz.func60 rfl rfl rfl (fun c=> ?_)
 show RunC _ _ _ _ _ [(0,.slice p n cap),(1,.pointer (some ⟨ba,0,none⟩))] [] [slF rR p cap l,atF ba 0 [.int .i64 ex,.int .i64 ey]]
 refine zba 0 rfl (fun hL0=> ?_)
 refine zg<|za<|e_p (zb rfl)<|zh<|zd<|zg<|zW (OW:=[]) (O:=[]) 100000 mixed (.then .ret) kr<|e_dm 0 rfl rfl rfl<|e_pv 1 rfl rfl (ze ya rfl sz3 rfl rfl)<|e_u 2 rfl rfl (zx (j:=1) 1 ty3 rfl rfl rfl rfl)<|e_pv 4 rfl rfl (ze ya rfl sz3 rfl rfl)<|e_u 5 rfl rfl (zx (j:=1) 1 ty3 rfl rfl rfl rfl)<|e_one 3 (zw rfl rfl rfl rfl (.c rfl (.c rfl .n)) ce56 (zeb (ex:=0) (ey:=ey) (hwex:=by first|rfl|assumption|omega|(exact Pg.hp_pq om om)) (hwey:=ass)) (.n) ?_)
 rintro ⟨wr01,wr12,wr23,wr34⟩ -
 dsimp only [aq,nq,cq]
 refine e_one 6 (zw rfl rfl rfl rfl (.c rfl (.c rfl .n)) ce56 (zeb (ex:=1) (ey:=ey) (hwex:=by first|rfl|assumption|omega|(exact Pg.hp_pq om om)) (hwey:=ass)) (.n) ?_)
 rintro ⟨wr05,wr16,wr27,wr38⟩ -
 dsimp only [aq,nq,cq]
 refine e_one 7 (zw rfl rfl rfl rfl (.c rfl (.c rfl (.c rfl .n))) ce58 (zOc (p:=p) (n:=n) (cap:=cap) (l:=l) (wa0:=wr01) (wa1:=wr12) (wa2:=wr23) (wa3:=wr34) (qa:=(Pg.pq 0 ey)) (wb0:=wr05) (wb1:=wr16) (wb2:=wr27) (wb3:=wr38) (qb:=(Pg.pq 1 ey)) (K:=963) (hn:=ass) (hpa:=by first|rfl|assumption|omega|(exact Pg.hp_pq om om)) (hpb:=by first|rfl|assumption|omega|(exact Pg.hp_pq om om)) (hbq:=ass) (hK:=by first|rfl|assumption|omega|(exact Pg.hp_pq om om)) (hnK:=ass)) (.c (j:=4) rfl (.c (j:=2) rfl (.c (j:=3) rfl (.c (j:=0) rfl (.c (j:=1) rfl .n))))) ?_)
 rintro ⟨p29,c210⟩ -
 dsimp only [aq,nq,cq]
 refine e_pv 8 rfl rfl (zb rfl)<|zT kr<|zd<|zH ?_
 exact zy Tryz.results60 (p29,c210) trivial (zl rfl) rfl (ho:=((.c (i:=0) rfl .n):PickO _ _ _)) (.n:SelR _ _ _)
theorem zxe {p:Option Addr} {n:Nat} {cap:Nat} {l:List Pg.Q2} {ba:Nat} {ex:Int} {ey:Int} (hn:l.length=n) (hwex: -9223372036854775808≤ex∧ex≤9223372036854775807) (hwey: -9223372036854775808≤ey∧ey≤9223372036854775807) (hbq:Pg.bq 8739 l) (hnK:n≤100000):Con ye 61 [.slice p n cap,.pointer (some ⟨ba,0,none⟩)] [] [slF rR p cap l,atF ba 0 [.int .i64 ex,.int .i64 ey]] (Y:=(Option Addr)×Nat) (fun y=>True) (fun y=> .slice (y.1) ((Pg.clL (Pg.pq 1 ey) (Pg.pq 0 ey) l).length) (y.2)) (fun y=>[rowA 69 rR (y.1) (y.2) (Pg.clL (Pg.pq 1 ey) (Pg.pq 0 ey) l)]) (fun y=>[]):=by
 refine zm Tryz.func61 rfl rfl rfl (fun c=> ?_)
 show RunC _ _ _ _ _ [(0,.slice p n cap),(1,.pointer (some ⟨ba,0,none⟩))] [] [slF rR p cap l,atF ba 0 [.int .i64 ex,.int .i64 ey]]
 refine zba 0 rfl (fun hL0=> ?_)
 refine zg<|za<|e_p (zb rfl)<|zh<|zd<|zg<|zW (OW:=[]) (O:=[]) 100000 mixed (.then .ret) kr<|e_dm 0 rfl rfl rfl<|e_pv 1 rfl rfl (ze ya rfl sz3 rfl rfl)<|e_u 2 rfl rfl (zx (j:=1) 1 ty3 rfl rfl rfl rfl)<|e_pv 4 rfl rfl (ze ya rfl sz3 rfl rfl)<|e_u 5 rfl rfl (zx (j:=1) 1 ty3 rfl rfl rfl rfl)<|e_one 3 (zw rfl rfl rfl rfl (.c rfl (.c rfl .n)) ce56 (zeb (ex:=1) (ey:=ey) (hwex:=by first|rfl|assumption|omega|(exact Pg.hp_pq om om)) (hwey:=ass)) (.n) ?_)
 rintro ⟨wr01,wr12,wr23,wr34⟩ -
 dsimp only [aq,nq,cq]
 refine e_one 6 (zw rfl rfl rfl rfl (.c rfl (.c rfl .n)) ce56 (zeb (ex:=0) (ey:=ey) (hwex:=by first|rfl|assumption|omega|(exact Pg.hp_pq om om)) (hwey:=ass)) (.n) ?_)
 rintro ⟨wr05,wr16,wr27,wr38⟩ -
 dsimp only [aq,nq,cq]
 refine e_one 7 (zw rfl rfl rfl rfl (.c rfl (.c rfl (.c rfl .n))) ce58 (zOc (p:=p) (n:=n) (cap:=cap) (l:=l) (wa0:=wr01) (wa1:=wr12) (wa2:=wr23) (wa3:=wr34) (qa:=(Pg.pq 1 ey)) (wb0:=wr05) (wb1:=wr16) (wb2:=wr27) (wb3:=wr38) (qb:=(Pg.pq 0 ey)) (K:=8739) (hn:=ass) (hpa:=by first|rfl|assumption|omega|(exact Pg.hp_pq om om)) (hpb:=by first|rfl|assumption|omega|(exact Pg.hp_pq om om)) (hbq:=ass) (hK:=by first|rfl|assumption|omega|(exact Pg.hp_pq om om)) (hnK:=ass)) (.c (j:=4) rfl (.c (j:=2) rfl (.c (j:=3) rfl (.c (j:=0) rfl (.c (j:=1) rfl .n))))) ?_)
 rintro ⟨p29,c210⟩ -
 dsimp only [aq,nq,cq]
 refine e_pv 8 rfl rfl (zb rfl)<|zT kr<|zd<|zH ?_
 exact zy Tryz.results61 (p29,c210) trivial (zl rfl) rfl (ho:=((.c (i:=0) rfl .n):PickO _ _ _)) (.n:SelR _ _ _)
end Go.Proofs.YtjcpbhlijoigfaaGreat.Sp
namespace Go.Proofs.YtjcpbhlijoigfaaGreat.Sp
open Go
set_option linter.unusedVariables false
set_option maxRecDepth 100000
set_option maxHeartbeats 8000000
theorem zcf {p:Option Addr} {n:Nat} {cap:Nat} {l:List Pg.P2} {ex:Int} {ey:Int} {fx:Int} {fy:Int} (hn:l.length=n) (hwex: -9223372036854775808≤ex∧ex≤9223372036854775807) (hwey: -9223372036854775808≤ey∧ey≤9223372036854775807) (hwfx: -9223372036854775808≤fx∧fx≤9223372036854775807) (hwfy: -9223372036854775808≤fy∧fy≤9223372036854775807):Con ye 19 [.slice p n cap,.agg #[.int .i64 ex,.int .i64 ey],.agg #[.int .i64 fx,.int .i64 fy]] [] [slF (rI2 .i64) p cap l] (Y:=(Option Addr)×Nat) (fun y=>True) (fun y=> .tuple #[.slice (y.1) ((Pg.wnV l (ex,ey) (fx,fy)).length) (y.2),.int .i64 (Pg.wnC l (ex,ey) (fx,fy))]) (fun y=>[rowA 69 rR (y.1) (y.2) (Pg.wnV l (ex,ey) (fx,fy))]) (fun y=>[]):=by
 refine zm Tryz.func19 rfl rfl rfl (fun c=> ?_)
 show RunC _ _ _ _ _ [(0,.slice p n cap),(1,.agg #[.int .i64 ex,.int .i64 ey]),(2,.agg #[.int .i64 fx,.int .i64 fy])] [] [slF (rI2 .i64) p cap l]
 refine zba 0 rfl (fun hL0=> ?_)
 refine zg<|za<|zM rfl rfl (zR rfl rfl) (fun b1=> ?_)
 refine zM rfl rfl (zR rfl rfl) (fun b2=> ?_)
 refine e_p (zb rfl)<|e_p (zb rfl)<|zh<|zd<|zg<|zg<|za<|e_mv rfl<|zL rfl rfl (.c rfl .n) ce15 (zyb (p:=p) (n:=n) (cap:=cap) (l:=l) (hn:=ass)) (.c (j:=0) rfl .n)<|e_p (zb rfl)<|zh<|zd<|zg<|za<|e_mv rfl<|e_p (zMa rfl rfl)<|zh<|zd<|zC rfl (fun hbad=> ?_) (fun hbad=> ?_)
 ·
  obtain ⟨hv1,hv2⟩:=Pg.wn_bad (a:=(ex,ey)) (b:=(fx,fy)) hbad
  refine zg<|zcb 69 rR ?_
  have e3:([]:List Pg.Q2)=Pg.wnV l (ex,ey) (fx,fy):=hv2.symm
  rw [e3]
  refine za<|e_mv rfl<|e_p (zb rfl)<|e_p (zb rfl)<|zh<|zd<|zH<|zi ?_
  exact zra yq (none,0) trivial (zl rfl) (zl rfl) (by rw [hv1,hv2];rfl) (ho:=((.c (i:=0) rfl .n):PickO _ _ _)) (.n:SelR _ _ _)
 ·
  have hz:=Decidable.not_not.1 hbad
  have hok:=Pg.ok hz
  have hrng:=hok.rng
  have h64:n≤64:=by have:=hok.n64;omega
  refine zA<|zd<|zg<|zEa (X:=Unit) (fun x=>True) (fun x=>[(24,.bool (decide (((Pg.far (ex,ey))=true)∨((Pg.far (fx,fy))=true)))),(7,.int .i64 0),(6,.slice none 0 0),(5,.pointer (some ⟨b2,0,none⟩)),(4,.pointer (some ⟨b1,0,none⟩)),(0,.slice p n cap)]) (fun x=>[boxA b2 30 [.int .i64 fx,.int .i64 fy],boxA b1 30 [.int .i64 ex,.int .i64 ey]]) (fun x=>[slF (rI2 .i64) p cap l]) ?_ ?_
  ·
   refine za<|e_ru (zc 1 ty30 rfl rfl (.t2 .nil))<|zL rfl rfl (.c rfl .n) ce46 (zmc (ex:=ex) (ey:=ey) (hwex:=ass) (hwey:=ass)) (.n)<|zRc rfl rfl (zX rfl) (fun h4=> ?_) (fun h4=> ?_)
   ·
    refine e_no<|e_no<|e_p (zo rfl rfl)<|zh ?_
    exact zga () (show True from by first|trivial|omega|simp_all) ((.e rfl (congrArg Value.bool cbu) (.of rfl)):SubM _ _) (ho:=((.of [0,0] rfl):PickO _ _ _)) ((.c (j:=0) rfl .n):SelR _ _ _)
   ·
    refine e_ru (zc 0 ty30 rfl rfl (.t2 .nil))<|zL rfl rfl (.c rfl .n) ce46 (zmc (ex:=fx) (ey:=fy) (hwex:=ass) (hwey:=ass)) (.n)<|e_p (zo rfl rfl)<|zh ?_
    exact zga () (show True from by first|trivial|omega|simp_all) ((.e rfl (congrArg Value.bool cbu) (.of rfl)):SubM _ _) (ho:=((.of [0,0] rfl):PickO _ _ _)) ((.c (j:=0) rfl .n):SelR _ _ _)
  ·
   rintro ⟨⟩ -
   try dsimp only
   refine zC rfl (fun hfar=> ?_) (fun hfar=> ?_)
   ·
    obtain ⟨hv1,hv2⟩:=Pg.wn_far (a:=(ex,ey)) (b:=(fx,fy)) hz (by simp [Pg.far] at hfar;intro h;rcases hfar with k|k;exact k h.1;exact k h.2)
    refine zg<|zcb 69 rR ?_
    have e5:([]:List Pg.Q2)=Pg.wnV l (ex,ey) (fx,fy):=hv2.symm
    rw [e5]
    refine za<|e_p (zb rfl)<|e_p (zb rfl)<|zh<|zd<|zH<|zi ?_
    exact zra yq (none,0) trivial (zl rfl) (zl rfl) (by rw [hv1,hv2];rfl) (ho:=((.c (i:=0) rfl .n):PickO _ _ _)) (.n:SelR _ _ _)
   ·
    have hin:Pg.inR (ex,ey)∧Pg.inR (fx,fy):=by simpa [Pg.far] using hfar
    refine zA<|zd<|zg<|zEa (X:=Unit) (fun x=>True) (fun x=>[(36,.bool (decide ((fx≤ex)∨(fy≤ey)))),(7,.int .i64 0),(6,.slice none 0 0),(5,.pointer (some ⟨b2,0,none⟩)),(4,.pointer (some ⟨b1,0,none⟩)),(0,.slice p n cap)]) (fun x=>[boxA b2 30 [.int .i64 fx,.int .i64 fy],boxA b1 30 [.int .i64 ex,.int .i64 ey]]) (fun x=>[slF (rI2 .i64) p cap l]) ?_ ?_
    ·
     refine za<|e_p (ze ya rfl sz3 rfl rfl)<|e_ru (zf 1 ty3 rfl rfl rfl)<|e_p (ze ya rfl sz3 rfl rfl)<|e_ru (zf 0 ty3 rfl rfl rfl)<|e_p (zJa rfl rfl)<|zaa rfl rfl (zX rfl) (fun h6=> ?_) (fun h6=> ?_)
     ·
      refine e_no<|e_no<|e_no<|e_no<|e_no<|e_p (zo rfl rfl)<|zh ?_
      exact zga () (show True from by first|trivial|omega|simp_all) ((.e rfl (congrArg Value.bool cbu) (.of rfl)):SubM _ _) (ho:=((.of [0,0] rfl):PickO _ _ _)) ((.c (j:=0) rfl .n):SelR _ _ _)
     ·
      refine e_p (ze ya rfl sz3 rfl rfl)<|e_ru (zf 1 ty3 rfl rfl rfl)<|e_p (ze ya rfl sz3 rfl rfl)<|e_ru (zf 0 ty3 rfl rfl rfl)<|e_p (zJa rfl rfl)<|e_p (zo rfl rfl)<|zh ?_
      exact zga () (show True from by first|trivial|omega|simp_all) ((.e rfl (congrArg Value.bool cbu) (.of rfl)):SubM _ _) (ho:=((.of [0,0] rfl):PickO _ _ _)) ((.c (j:=0) rfl .n):SelR _ _ _)
    ·
     rintro ⟨⟩ -
     try dsimp only
     refine zC rfl (fun hord=> ?_) (fun hord=> ?_)
     ·
      obtain ⟨hv1,hv2⟩:=Pg.wn_ord (a:=(ex,ey)) (b:=(fx,fy)) hz hin (by dsimp only;omega)
      refine zg<|zcb 69 rR ?_
      have e7:([]:List Pg.Q2)=Pg.wnV l (ex,ey) (fx,fy):=hv2.symm
      rw [e7]
      refine za<|e_p (zb rfl)<|e_p (zb rfl)<|zh<|zd<|zH<|zi ?_
      exact zra yq (none,0) trivial (zl rfl) (zl rfl) (by rw [hv1,hv2];rfl) (ho:=((.c (i:=0) rfl .n):PickO _ _ _)) (.n:SelR _ _ _)
     ·
      obtain ⟨hv1,hv2⟩:=Pg.wn_ok (a:=(ex,ey)) (b:=(fx,fy)) hz hin (by dsimp only;omega)
      refine zA<|zd<|zg<|zcb 69 rR<|za<|e_p (zb rfl)<|zh<|zd<|zg<|zg<|za<|e_mv rfl<|e_p (zN yc rfl)<|e_mv rfl<|zh<|zd<|zB<|zka (X:=Nat×(Option Addr)×Nat) (fun x:Nat×(Option Addr)×Nat=>x.1≤n) (fun x=>[(9,.slice (x.2.1) (x.1) (x.2.2)),(39,.int .i64 ((x.1:Nat):Int)),(38,.int .i64 ((n:Nat):Int)),(37,.slice p n cap),(7,.int .i64 0),(6,.slice none 0 0),(5,.pointer (some ⟨b2,0,none⟩)),(4,.pointer (some ⟨b1,0,none⟩))]) (fun x=>[rowA 69 rR (x.2.1) (x.2.2) (Pg.pts (l.take x.1)),boxA b2 30 [.int .i64 fx,.int .i64 fy],boxA b1 30 [.int .i64 ex,.int .i64 ey]]) (fun x=>[slF (rI2 .i64) p cap l]) (fun x:Nat×(Option Addr)×Nat=>n - x.1) (0,none,0) (show 0≤n from by exact Nat.zero_le _) ((.c rfl (.e rfl (by first|rfl|(congr 1;omega)|simp_all) (.of rfl))):SubM _ _) (ho:=((.e (i:=0) rfl (by first|rfl|(congr 1;omega)|simp_all) (.of [0,0] rfl)):PickO _ _ _)) ((.c (j:=0) rfl .n):SelR _ _ _) ?_
      rintro ⟨i,p7,c7⟩ hI
      replace hI:i≤n:=hI
      try dsimp only
      refine zg<|za<|e_p (zY rfl rfl)<|zh<|zd<|zg<|zC rfl (fun h8=> ?_) (fun h8=> ?_)
      ·
       have hpl:(Pg.pts (l.take i)).length=i:=by unfold Pg.pts;rw [List.length_map,List.length_take];omega
       refine zA<|zd<|zg<|zB<|zg<|za<|zP (x0:=(l.getD i (0,0))) 0 i rfl yc sz30 rfl rfl rfl cbs rfl rfl (gD (d:=(0,0)) om) (fun b9 o10 hok11=> ?_)
       obtain ⟨hok11x,hok11y⟩:=hok11
       replace hok11x:=zD.1 hok11x
       replace hok11y:=zD.1 hok11y
       refine e_ru (zq (j:=0) 0 ty30 rfl rfl rfl (.t2 .nil))<|zM rfl rfl (zn zr30 rfl) (fun b12=> ?_)
       refine zk 0 rfl rfl rfl rfl rfl sz30 rfl (.t2 .nil) .z<|zh<|zd<|za<|e_mv rfl<|e_p (ze ya rfl sz3 rfl rfl)<|e_ru (zf 0 ty3 rfl rfl rfl)<|e_p (ze ya rfl sz3 rfl rfl)<|e_ru (zf 0 ty3 rfl rfl rfl)<|zE rfl rfl (.c rfl (.c rfl .n)) ce56 (zeb (ex:=(l.getD i (0,0)).1) (ey:=(l.getD i (0,0)).2) (hwex:=cbo) (hwey:=cbo)) (.n) ?_
       rintro ⟨wr013,wr114,wr215,wr316⟩ -
       dsimp only [aq,nq,cq]
       refine zFa rfl rfl (zxa (r:=rR) (k:=1) yd inf69 rfl dd dd dd (.c (x:=(((Pg.pq ((l.getD i (0,0)).1) ((l.getD i (0,0)).2)).1),((Pg.pq ((l.getD i (0,0)).1) ((l.getD i (0,0)).2)).2))) (cs:=[wr013.b,wr013.l,wr114.b,wr114.l,wr215.b,wr215.l,wr316.b,wr316.l]) (wr013,wr114,wr215,wr316) rfl rfl rfl (fun g hr=>⟨Holds.get 0 rfl hr,Holds.get 1 rfl hr⟩) .n)) (fun b17 _=> ?_)
       refine zma 0 rfl .z<|zIa 2 rfl rfl rfl (zsa 0 rfl yd inf69 dd rfl rfl cbs rfl cbs om om) (fun _=>(.s (.s .z))) ?_
       rintro ⟨p18,c19⟩ -
       dsimp only [aq,nq,cq]
       refine e_p (zb rfl)<|zh<|zO<|zd ?_
       have hrw:((Pg.pts (l.take i))++([(((Pg.pq ((l.getD i (0,0)).1) ((l.getD i (0,0)).2)).1),((Pg.pq ((l.getD i (0,0)).1) ((l.getD i (0,0)).2)).2))]))=Pg.pts (l.take (i+1)):=by rw [Pg.pts_take om]
       rw [hrw]
       refine za<|e_p (zI (z:=(((i+1):Nat):Int)) rfl rfl (w64 om))<|e_mv rfl<|zh<|zda ((i+1),p18,c19) (show (i+1)≤n from by show i+1≤n;omega) (by show n - (i+1)<n - i;omega) ((.e rfl (by first|rfl|(congr 1;omega)|simp_all) (.of rfl)):SubM _ _) (ho:=((.of [2,2,2] rfl):PickO _ _ _)) ((.c (j:=4) rfl .n):SelR _ _ _)
      ·
       refine zja<|zj<|zj<|zt<|zd<|zg<|zg ?_
       have hin9:i=n:=by omega
       have e20:Pg.pts (l.take i)=Pg.pts l:=by rw [hin9,List.take_of_length_le om]
       rw [e20]
       have hpl:(Pg.pts l).length=i:=by unfold Pg.pts;rw [List.length_map];omega
       have hbq0:=Pg.pts_bq hrng
       have hbq1:Pg.bq 99 (Pg.clL (Pg.pq ex 1) (Pg.pq ex 0) (Pg.pts l)):=Pg.clL_bq (Pg.hp_pq om om) (Pg.hp_pq om om) hbq0
       have hbq2:Pg.bq 963 (Pg.clL (Pg.pq fx 0) (Pg.pq fx 1) (Pg.clL (Pg.pq ex 1) (Pg.pq ex 0) (Pg.pts l))):=Pg.clL_bq (Pg.hp_pq om om) (Pg.hp_pq om om) hbq1
       have hbq3:Pg.bq 8739 (Pg.clL (Pg.pq 0 ey) (Pg.pq 1 ey) (Pg.clL (Pg.pq fx 0) (Pg.pq fx 1) (Pg.clL (Pg.pq ex 1) (Pg.pq ex 0) (Pg.pts l)))):=Pg.clL_bq (Pg.hp_pq om om) (Pg.hp_pq om om) hbq2
       have hcl0:(Pg.clL (Pg.pq ex 1) (Pg.pq ex 0) (Pg.pts l)).length≤2*(Pg.pts l).length:=Pg.clL_len
       have hcl1:(Pg.clL (Pg.pq fx 0) (Pg.pq fx 1) (Pg.clL (Pg.pq ex 1) (Pg.pq ex 0) (Pg.pts l))).length≤2*(Pg.clL (Pg.pq ex 1) (Pg.pq ex 0) (Pg.pts l)).length:=Pg.clL_len
       have hcl2:(Pg.clL (Pg.pq 0 ey) (Pg.pq 1 ey) (Pg.clL (Pg.pq fx 0) (Pg.pq fx 1) (Pg.clL (Pg.pq ex 1) (Pg.pq ex 0) (Pg.pts l)))).length≤2*(Pg.clL (Pg.pq fx 0) (Pg.pq fx 1) (Pg.clL (Pg.pq ex 1) (Pg.pq ex 0) (Pg.pts l))).length:=Pg.clL_len
       refine zMb 2 rfl (.s (.s .z))<|zMb 1 rfl (.s .z)<|za<|e_p (zLa .n (.c rfl .n))<|e_p (zLa .n (.c rfl .n))<|e_p (zLa .n (.c rfl .n))<|e_p (zLa .n (.c rfl .n))<|zFa rfl rfl (zV (enc:=fun z:Nat×List Value=>[.func (.func z.1) #[] z.2.toArray]) (ok:=fun _=>True) (h1:=fun _=>rfl) (h2:=fun _=>rfl) (k:=4) yi inf83 rfl dd dd dd (.c (x:=(57,[.pointer (some ⟨b1,0,none⟩)])) rfl rfl (fun _ _=>by trivial) (.c (x:=(59,[.pointer (some ⟨b2,0,none⟩)])) rfl rfl (fun _ _=>by trivial) (.c (x:=(60,[.pointer (some ⟨b1,0,none⟩)])) rfl rfl (fun _ _=>by trivial) (.c (x:=(61,[.pointer (some ⟨b2,0,none⟩)])) rfl rfl (fun _ _=>by trivial) .n))))) (fun b21 _=> ?_)
       refine e_p (zN yi rfl)<|e_mv rfl<|zh<|zd<|zB<|zug<|zTc<|zg<|za<|e_p (zY rfl rfl)<|zh<|zd<|zg<|zCb rfl rfl<|zA<|zd<|zg<|zB<|zg<|za<|e_p (zia (j:=0) yi sz83 rfl rfl rfl om)<|r_vl rfl rfl (zha (x0:=(57,[.pointer (some ⟨b1,0,none⟩)])) (v:= .func (.func 57) #[] #[.pointer (some ⟨b1,0,none⟩)]) 0 0 rfl ty83 rfl rfl (by rfl) rfl) (fun _ hok22=> ?_)
       refine e_p (zb rfl)<|zh<|zd<|za<|e_mv rfl<|e_mv rfl<|zma 1 rfl (.s .z)<|zHc (first:=[]) (cap:=[.pointer (some ⟨b1,0,none⟩)]) rfl rfl rfl (.c rfl .n) ce57 (zue (p:=p7) (n:=i) (cap:=c7) (l:=(Pg.pts l)) (ba:=b1) (ex:=ex) (ey:=ey) (hn:=cbo) (hwex:=ass) (hwey:=ass) (hbq:=cbo) (hnK:=cbo)) (.c (j:=0) rfl (.c (j:=2) rfl .n)) ?_
       rintro ⟨p223,c224⟩ -
       dsimp only [aq,nq,cq]
       refine e_p (zb rfl)<|zh<|zO<|zd<|za<|e_p (zI (z:=1) rfl rfl (w64 dd))<|e_mv rfl<|zh<|zvd<|zTc<|zg<|za<|e_p (zY rfl rfl)<|zh<|zd<|zg<|zCb rfl rfl<|zA<|zd<|zg<|zB<|zg<|za<|e_p (zia (j:=1) yi sz83 rfl rfl rfl om)<|r_vl rfl rfl (zha (x0:=(59,[.pointer (some ⟨b2,0,none⟩)])) (v:= .func (.func 59) #[] #[.pointer (some ⟨b2,0,none⟩)]) 1 1 rfl ty83 rfl rfl (by rfl) rfl) (fun _ hok25=> ?_)
       refine e_p (zb rfl)<|zh<|zd<|za<|e_mv rfl<|e_mv rfl<|zma 0 rfl .z<|zHc (first:=[]) (cap:=[.pointer (some ⟨b2,0,none⟩)]) rfl rfl rfl (.c rfl .n) ce59 (zve (p:=p223) (n:=(Pg.clL (Pg.pq ex 1) (Pg.pq ex 0) (Pg.pts l)).length) (cap:=c224) (l:=(Pg.clL (Pg.pq ex 1) (Pg.pq ex 0) (Pg.pts l))) (ba:=b2) (ex:=fx) (ey:=fy) (hn:=cbo) (hwex:=ass) (hwey:=ass) (hbq:=cbo) (hnK:=cbo)) (.c (j:=0) rfl (.c (j:=2) rfl .n)) ?_
       rintro ⟨p226,c227⟩ -
       dsimp only [aq,nq,cq]
       refine e_p (zb rfl)<|zh<|zO<|zd<|za<|e_p (zI (z:=2) rfl rfl (w64 dd))<|e_mv rfl<|zh<|zvd<|zTc<|zg<|za<|e_p (zY rfl rfl)<|zh<|zd<|zg<|zCb rfl rfl<|zA<|zd<|zg<|zB<|zg<|za<|e_p (zia (j:=2) yi sz83 rfl rfl rfl om)<|r_vl rfl rfl (zha (x0:=(60,[.pointer (some ⟨b1,0,none⟩)])) (v:= .func (.func 60) #[] #[.pointer (some ⟨b1,0,none⟩)]) 2 2 rfl ty83 rfl rfl (by rfl) rfl) (fun _ hok28=> ?_)
       refine e_p (zb rfl)<|zh<|zd<|za<|e_mv rfl<|e_mv rfl<|zma 0 rfl .z<|zHc (first:=[]) (cap:=[.pointer (some ⟨b1,0,none⟩)]) rfl rfl rfl (.c rfl .n) ce60 (zwe (p:=p226) (n:=(Pg.clL (Pg.pq fx 0) (Pg.pq fx 1) (Pg.clL (Pg.pq ex 1) (Pg.pq ex 0) (Pg.pts l))).length) (cap:=c227) (l:=(Pg.clL (Pg.pq fx 0) (Pg.pq fx 1) (Pg.clL (Pg.pq ex 1) (Pg.pq ex 0) (Pg.pts l)))) (ba:=b1) (ex:=ex) (ey:=ey) (hn:=cbo) (hwex:=ass) (hwey:=ass) (hbq:=cbo) (hnK:=cbo)) (.c (j:=0) rfl (.c (j:=4) rfl .n)) ?_
       rintro ⟨p229,c230⟩ -
       dsimp only [aq,nq,cq]
       refine e_p (zb rfl)<|zh<|zO<|zd<|za<|e_p (zI (z:=3) rfl rfl (w64 dd))<|e_mv rfl<|zh<|zvd<|zTc<|zg<|za<|e_p (zY rfl rfl)<|zh<|zd<|zg<|zCb rfl rfl<|zA<|zd<|zg<|zB<|zg<|za<|e_p (zia (j:=3) yi sz83 rfl rfl rfl om)<|r_vl rfl rfl (zha (x0:=(61,[.pointer (some ⟨b2,0,none⟩)])) (v:= .func (.func 61) #[] #[.pointer (some ⟨b2,0,none⟩)]) 3 3 rfl ty83 rfl rfl (by rfl) rfl) (fun _ hok31=> ?_)
       refine e_p (zb rfl)<|zh<|zd<|za<|e_mv rfl<|e_mv rfl<|zma 0 rfl .z<|zHc (first:=[]) (cap:=[.pointer (some ⟨b2,0,none⟩)]) rfl rfl rfl (.c rfl .n) ce61 (zxe (p:=p229) (n:=(Pg.clL (Pg.pq 0 ey) (Pg.pq 1 ey) (Pg.clL (Pg.pq fx 0) (Pg.pq fx 1) (Pg.clL (Pg.pq ex 1) (Pg.pq ex 0) (Pg.pts l)))).length) (cap:=c230) (l:=(Pg.clL (Pg.pq 0 ey) (Pg.pq 1 ey) (Pg.clL (Pg.pq fx 0) (Pg.pq fx 1) (Pg.clL (Pg.pq ex 1) (Pg.pq ex 0) (Pg.pts l))))) (ba:=b2) (ex:=fx) (ey:=fy) (hn:=cbo) (hwex:=ass) (hwey:=ass) (hbq:=cbo) (hnK:=cbo)) (.c (j:=0) rfl (.c (j:=4) rfl .n)) ?_
       rintro ⟨p232,c233⟩ -
       dsimp only [aq,nq,cq]
       refine e_p (zb rfl)<|zh<|zO<|zd<|za<|e_p (zI (z:=4) rfl rfl (w64 dd))<|e_mv rfl<|zh<|zvd<|zTc<|zg<|za<|e_p (zY rfl rfl)<|zh<|zd<|zg<|zgb rfl rfl<|zja<|zj<|zj<|zt<|zd<|zg<|za<|e_mv rfl<|e_p (zb rfl)<|e_p (zb rfl)<|zh<|zd<|zH ?_
       have e34:Pg.clL (Pg.pq 1 fy) (Pg.pq 0 fy) (Pg.clL (Pg.pq 0 ey) (Pg.pq 1 ey) (Pg.clL (Pg.pq fx 0) (Pg.pq fx 1) (Pg.clL (Pg.pq ex 1) (Pg.pq ex 0) (Pg.pts l))))=Pg.wnV l (ex,ey) (fx,fy):=by exact hv2.symm
       rw [e34]
       exact zra yq (p232,c233) trivial (zl rfl) (zl rfl) (by first|(rw [hv1,hv2];done)|(rw [hv1,hv2];rfl)) (ho:=((.c (i:=0) rfl .n):PickO _ _ _)) (.n:SelR _ _ _)
end Go.Proofs.YtjcpbhlijoigfaaGreat.Sp
namespace Go.Proofs.YtjcpbhlijoigfaaGreat.Sp
open Go
set_option linter.unusedVariables false
set_option maxRecDepth 100000
set_option maxHeartbeats 8000000
theorem zTf:Con ye 11 [] [] [] (Y:=Unit) (fun y=>True) (fun y=> .bool true) (fun y=>[]) (fun y=>[]):=by
 refine zm Tryz.func11 rfl rfl rfl (fun c=> ?_)
 show RunC _ _ _ _ _ [] [] []
 refine zg<|za<|e_p (zb rfl)<|zh<|zd<|zg<|za<|e_p (zJ zr30 rfl ya (.c sz3 (.c sz3 .n)) (.c rfl (.c rfl .n)) (.c rfl rfl rfl (.take .nil) (.c rfl rfl rfl (.skip (.take .nil)) .n)))<|e_p (zJ zr30 rfl ya (.c sz3 (.c sz3 .n)) (.c rfl (.c rfl .n)) (.c rfl rfl rfl (.take .nil) (.c rfl rfl rfl (.skip (.take .nil)) .n)))<|e_p (zJ zr30 rfl ya (.c sz3 (.c sz3 .n)) (.c rfl (.c rfl .n)) (.c rfl rfl rfl (.take .nil) (.c rfl rfl rfl (.skip (.take .nil)) .n)))<|e_p (zJ zr30 rfl ya (.c sz3 (.c sz3 .n)) (.c rfl (.c rfl .n)) (.c rfl rfl rfl (.take .nil) (.c rfl rfl rfl (.skip (.take .nil)) .n)))<|e_p (zJ zr30 rfl ya (.c sz3 (.c sz3 .n)) (.c rfl (.c rfl .n)) (.c rfl rfl rfl (.take .nil) (.c rfl rfl rfl (.skip (.take .nil)) .n)))<|zFa rfl rfl (zV (enc:=fun z:Int×Int=>[.int .i64 z.1,.int .i64 z.2]) (ok:=fun z=>InK .i64 z.1∧InK .i64 z.2) (h1:=fun _=>rfl) (h2:=fun _=>rfl) (k:=5) yc inf30 rfl dd dd dd (.c (x:=(0,0)) rfl rfl (fun _ _=>by exact ⟨zD.2 (by first|omega|decide|(dsimp only;omega)),zD.2 (by first|omega|decide|(dsimp only;omega))⟩) (.c (x:=(4,0)) rfl rfl (fun _ _=>by exact ⟨zD.2 (by first|omega|decide|(dsimp only;omega)),zD.2 (by first|omega|decide|(dsimp only;omega))⟩) (.c (x:=(4,4)) rfl rfl (fun _ _=>by exact ⟨zD.2 (by first|omega|decide|(dsimp only;omega)),zD.2 (by first|omega|decide|(dsimp only;omega))⟩) (.c (x:=(2,1)) rfl rfl (fun _ _=>by exact ⟨zD.2 (by first|omega|decide|(dsimp only;omega)),zD.2 (by first|omega|decide|(dsimp only;omega))⟩) (.c (x:=(0,4)) rfl rfl (fun _ _=>by exact ⟨zD.2 (by first|omega|decide|(dsimp only;omega)),zD.2 (by first|omega|decide|(dsimp only;omega))⟩) .n)))))) (fun b1 _=> ?_)
 refine e_p (zb rfl)<|zh<|zd<|zg<|za<|e_mv rfl<|zma 0 rfl .z<|zL rfl rfl (.c rfl .n) ce13 (zbg (p:=some ⟨b1,0,none⟩) (n:=5) (cap:=5) (l:=[(0,0),(4,0),(4,4),(2,1),(0,4)]) (hn:=by first|rfl|assumption|decide|omega|(decide +kernel))) (.c (j:=0) rfl .n) ?_
 have e2:Pg.arV ([(0,0),(4,0),(4,4),(2,1),(0,4)])=20:=by exact Pg.ex1.1
 rw [e2]
 have e3:Pg.arC ([(0,0),(4,0),(4,4),(2,1),(0,4)])=0:=by exact Pg.ex1.2
 rw [e3]
 refine e_mv rfl<|e_p (zr rfl rfl)<|e_p (zr rfl rfl)<|e_p (zb rfl)<|e_p (zb rfl)<|zh<|zd<|zg<|za<|e_mv rfl<|e_p (zJ zr30 rfl ya (.c sz3 (.c sz3 .n)) (.c rfl (.c rfl .n)) (.c rfl rfl rfl (.take .nil) (.c rfl rfl rfl (.skip (.take .nil)) .n)))<|zL rfl rfl (.c rfl (.c rfl .n)) ce17 (zmd (p:=some ⟨b1,0,none⟩) (n:=5) (cap:=5) (l:=[(0,0),(4,0),(4,4),(2,1),(0,4)]) (hx:=1) (hy:=1) (hn:=by first|rfl|assumption|decide|omega|(decide +kernel)) (hwhx:=by first|rfl|assumption|decide|omega|(decide +kernel)) (hwhy:=by first|rfl|assumption|decide|omega|(decide +kernel))) (.c (j:=0) rfl .n) ?_
 have e4:Pg.isV ([(0,0),(4,0),(4,4),(2,1),(0,4)]) (1,1)=1:=by exact Pg.ex2.1
 rw [e4]
 have e5:Pg.isC ([(0,0),(4,0),(4,4),(2,1),(0,4)]) (1,1)=0:=by exact Pg.ex2.2
 rw [e5]
 refine e_mv rfl<|e_p (zr rfl rfl)<|e_p (zr rfl rfl)<|e_p (zb rfl)<|e_p (zb rfl)<|zh<|zd<|zg<|za<|e_mv rfl<|e_p (zJ zr30 rfl ya (.c sz3 (.c sz3 .n)) (.c rfl (.c rfl .n)) (.c rfl rfl rfl (.take .nil) (.c rfl rfl rfl (.skip (.take .nil)) .n)))<|zL rfl rfl (.c rfl (.c rfl .n)) ce17 (zmd (p:=some ⟨b1,0,none⟩) (n:=5) (cap:=5) (l:=[(0,0),(4,0),(4,4),(2,1),(0,4)]) (hx:=2) (hy:=2) (hn:=by first|rfl|assumption|decide|omega|(decide +kernel)) (hwhx:=by first|rfl|assumption|decide|omega|(decide +kernel)) (hwhy:=by first|rfl|assumption|decide|omega|(decide +kernel))) (.c (j:=0) rfl .n) ?_
 have e6:Pg.isV ([(0,0),(4,0),(4,4),(2,1),(0,4)]) (2,2)=(-1):=by exact Pg.ex3.1
 rw [e6]
 have e7:Pg.isC ([(0,0),(4,0),(4,4),(2,1),(0,4)]) (2,2)=0:=by exact Pg.ex3.2
 rw [e7]
 refine e_mv rfl<|e_p (zr rfl rfl)<|e_p (zr rfl rfl)<|e_p (zb rfl)<|e_p (zb rfl)<|zh<|zd<|zg<|za<|e_mv rfl<|zE rfl rfl (.c rfl .n) ce30 (zcg (p:=some ⟨b1,0,none⟩) (n:=5) (cap:=5) (l:=[(0,0),(4,0),(4,4),(2,1),(0,4)]) (hn:=by first|rfl|assumption|decide|omega|(decide +kernel))) (.c (j:=0) rfl .n) ?_
 rintro ⟨p28,c29⟩ -
 dsimp only [aq,nq,cq]
 have e10:Pg.erC ([(0,0),(4,0),(4,4),(2,1),(0,4)])=0:=by exact Pg.ex4.2
 rw [e10]
 refine e_mv rfl<|e_p (zr rfl rfl)<|e_p (zr rfl rfl)<|e_p (zb rfl)<|e_p (zb rfl)<|zh<|zd<|zg<|za<|e_p (zJ zr30 rfl ya (.c sz3 (.c sz3 .n)) (.c rfl (.c rfl .n)) (.c rfl rfl rfl (.take .nil) (.c rfl rfl rfl (.skip (.take .nil)) .n)))<|e_p (zJ zr30 rfl ya (.c sz3 (.c sz3 .n)) (.c rfl (.c rfl .n)) (.c rfl rfl rfl (.take .nil) (.c rfl rfl rfl (.skip (.take .nil)) .n)))<|e_p (zJ zr30 rfl ya (.c sz3 (.c sz3 .n)) (.c rfl (.c rfl .n)) (.c rfl rfl rfl (.take .nil) (.c rfl rfl rfl (.skip (.take .nil)) .n)))<|e_p (zJ zr30 rfl ya (.c sz3 (.c sz3 .n)) (.c rfl (.c rfl .n)) (.c rfl rfl rfl (.take .nil) (.c rfl rfl rfl (.skip (.take .nil)) .n)))<|zFa rfl rfl (zV (enc:=fun z:Int×Int=>[.int .i64 z.1,.int .i64 z.2]) (ok:=fun z=>InK .i64 z.1∧InK .i64 z.2) (h1:=fun _=>rfl) (h2:=fun _=>rfl) (k:=4) yc inf30 rfl dd dd dd (.c (x:=(0,0)) rfl rfl (fun _ _=>by exact ⟨zD.2 (by first|omega|decide|(dsimp only;omega)),zD.2 (by first|omega|decide|(dsimp only;omega))⟩) (.c (x:=(4,0)) rfl rfl (fun _ _=>by exact ⟨zD.2 (by first|omega|decide|(dsimp only;omega)),zD.2 (by first|omega|decide|(dsimp only;omega))⟩) (.c (x:=(4,4)) rfl rfl (fun _ _=>by exact ⟨zD.2 (by first|omega|decide|(dsimp only;omega)),zD.2 (by first|omega|decide|(dsimp only;omega))⟩) (.c (x:=(0,4)) rfl rfl (fun _ _=>by exact ⟨zD.2 (by first|omega|decide|(dsimp only;omega)),zD.2 (by first|omega|decide|(dsimp only;omega))⟩) .n))))) (fun b11 _=> ?_)
 refine e_p (zJ zr30 rfl ya (.c sz3 (.c sz3 .n)) (.c rfl (.c rfl .n)) (.c rfl rfl rfl (.take .nil) (.c rfl rfl rfl (.skip (.take .nil)) .n)))<|e_p (zJ zr30 rfl ya (.c sz3 (.c sz3 .n)) (.c rfl (.c rfl .n)) (.c rfl rfl rfl (.take .nil) (.c rfl rfl rfl (.skip (.take .nil)) .n)))<|zma 0 rfl .z<|zE rfl rfl (.c rfl (.c rfl (.c rfl .n))) ce19 (zcf (p:=some ⟨b11,0,none⟩) (n:=4) (cap:=4) (l:=[(0,0),(4,0),(4,4),(0,4)]) (ex:=2) (ey:=(-1)) (fx:=9) (fy:=2) (hn:=by first|rfl|assumption|decide|omega|(decide +kernel)) (hwex:=by first|rfl|assumption|decide|omega|(decide +kernel)) (hwey:=by first|rfl|assumption|decide|omega|(decide +kernel)) (hwfx:=by first|rfl|assumption|decide|omega|(decide +kernel)) (hwfy:=by first|rfl|assumption|decide|omega|(decide +kernel))) (.c (j:=0) rfl .n) ?_
 rintro ⟨p212,c213⟩ -
 dsimp only [aq,nq,cq]
 have e14:Pg.wnC ([(0,0),(4,0),(4,4),(0,4)]) (2,(-1)) (9,2)=0:=by exact Pg.ex5
 rw [e14]
 refine e_mv rfl<|e_p (zr rfl rfl)<|e_p (zr rfl rfl)<|e_p (zb rfl)<|e_p (zb rfl)<|zh<|zd<|zg<|za<|e_mv rfl<|e_mv rfl<|e_p (zI (z:=0) rfl rfl (w64 dd))<|e_mv rfl<|e_p (zI (z:=0) rfl rfl (w64 dd))<|e_mv rfl<|e_p (zI (z:=0) rfl rfl (w64 dd))<|e_mv rfl<|e_p (zI (z:=0) rfl rfl (w64 dd))<|e_p (zua rfl rfl) ?_
 rw [show true=true from by decide]
 refine e_mv rfl<|e_mv rfl<|e_p (zua rfl rfl) ?_
 rw [show true=true from by decide]
 refine e_p (zo rfl rfl)<|e_mv rfl<|e_mv rfl<|e_p (zua rfl rfl) ?_
 rw [show true=true from by decide]
 refine e_p (zo rfl rfl)<|e_mv rfl<|e_mv rfl<|e_p (zua rfl rfl) ?_
 rw [show true=true from by decide]
 refine e_p (zo rfl rfl)<|e_mv rfl<|e_mv rfl<|e_p (zRa zr50 rfl yn sz3 (.c rfl (.c rfl (.c rfl .n))) (.c rfl rfl rfl (.take .nil) (.c rfl rfl rfl (.skip (.take .nil)) (.c rfl rfl rfl (.s2 (.take .nil)) .n))))<|e_p (zRa zr50 rfl yn sz3 (.c rfl (.c rfl (.c rfl .n))) (.c rfl rfl rfl (.take .nil) (.c rfl rfl rfl (.skip (.take .nil)) (.c rfl rfl rfl (.s2 (.take .nil)) .n))))<|e_p (zRa zr50 rfl yn sz3 (.c rfl (.c rfl (.c rfl .n))) (.c rfl rfl rfl (.take .nil) (.c rfl rfl rfl (.skip (.take .nil)) (.c rfl rfl rfl (.s2 (.take .nil)) .n))))<|zFa rfl rfl (zV (enc:=fun z:Int×Int×Int=>[.int .i64 z.1,.int .i64 z.2.1,.int .i64 z.2.2]) (ok:=fun z=>InK .i64 z.1∧InK .i64 z.2.1∧InK .i64 z.2.2) (h1:=fun _=>rfl) (h2:=fun _=>rfl) (k:=3) yh inf50 rfl dd dd dd (.c (x:=(1,2,3)) rfl rfl (fun _ _=>by exact ⟨zD.2 (by first|omega|decide|(dsimp only;omega)),zD.2 (by first|omega|decide|(dsimp only;omega)),zD.2 (by first|omega|decide|(dsimp only;omega))⟩) (.c (x:=(0,1,3)) rfl rfl (fun _ _=>by exact ⟨zD.2 (by first|omega|decide|(dsimp only;omega)),zD.2 (by first|omega|decide|(dsimp only;omega)),zD.2 (by first|omega|decide|(dsimp only;omega))⟩) (.c (x:=(0,3,4)) rfl rfl (fun _ _=>by exact ⟨zD.2 (by first|omega|decide|(dsimp only;omega)),zD.2 (by first|omega|decide|(dsimp only;omega)),zD.2 (by first|omega|decide|(dsimp only;omega))⟩) .n)))) (fun b15 _=> ?_)
 refine zma 3 rfl (.s (.s (.s .z)))<|zma 0 rfl .z<|zL rfl rfl (.c rfl (.c rfl .n)) ce32 (zbf (p1:=p28) (n1:=(Pg.erV ([(0,0),(4,0),(4,4),(2,1),(0,4)])).length) (c1:=c29) (l1:=(Pg.erV ([(0,0),(4,0),(4,4),(2,1),(0,4)]))) (p2:=some ⟨b15,0,none⟩) (n2:=3) (c2:=3) (l2:=[(1,2,3),(0,1,3),(0,3,4)]) (hn1:=by first|rfl|assumption|decide|omega|(decide +kernel)) (hn2:=by first|rfl|assumption|decide|omega|(decide +kernel))) (.c (j:=1) rfl (.c (j:=0) rfl .n)) ?_
 rw [show (decide ((Pg.erV ([(0,0),(4,0),(4,4),(2,1),(0,4)]))=([(1,2,3),(0,1,3),(0,3,4)])))=true from by exact decide_eq_true Pg.ex4.1]
 refine e_p (zo rfl rfl)<|e_mv rfl<|e_mv rfl<|zma 1 rfl (.s .z)<|zE rfl rfl (.c rfl .n) ce24 (zRf (p:=p212) (n:=(Pg.wnV ([(0,0),(4,0),(4,4),(0,4)]) (2,(-1)) (9,2)).length) (cap:=c213) (l:=(Pg.wnV ([(0,0),(4,0),(4,4),(0,4)]) (2,(-1)) (9,2))) (K:=100) (hn:=by rfl) (hbq:=by exact Pg.ex6) (hK:=dd) (hz:=by exact Pg.ex7)) (.c (j:=0) rfl .n) ?_
 rintro ⟨w316,w417⟩ -
 dsimp only [aq,nq,cq]
 refine zE rfl rfl (.c rfl .n) ce26 (zrd (z:=8) (hz:=by first|rfl|assumption|decide|omega|(decide +kernel))) (.n) ?_
 rintro ⟨w318,w419⟩ -
 dsimp only [aq,nq,cq]
 refine zL rfl rfl (.c rfl (.c rfl .n)) ce44 (zCc (u1:=w316) (v1:=w417) (q1:=(Pg.sz (Pg.wnV ([(0,0),(4,0),(4,4),(0,4)]) (2,(-1)) (9,2)))) (u2:=w318) (v2:=w419) (q2:=((8:Int):Rat)) (hl:=by decide +kernel)) (.c (j:=1) rfl (.c (j:=0) rfl .n)) ?_
 rw [show (decide ((Pg.sz (Pg.wnV ([(0,0),(4,0),(4,4),(0,4)]) (2,(-1)) (9,2)))=((8:Int):Rat)))=true from by exact decide_eq_true Pg.ex8]
 refine e_p (zo rfl rfl)<|e_p (zb rfl)<|zh<|zd<|zH ?_
 exact zy Tryz.results11 () trivial (zl rfl) rfl (ho:=(.n:PickO _ _ _)) (.n:SelR _ _ _)
end Go.Proofs.YtjcpbhlijoigfaaGreat.Sp
namespace Go.Proofs.YtjcpbhlijoigfaaGreat.Sp
open Go
set_option linter.unusedVariables false
set_option maxRecDepth 100000
set_option maxHeartbeats 8000000
theorem zEg {p:Option Addr} {n:Nat} {cap:Nat} {l:List Pg.P2} (hn:l.length=n):Con ye 12 [.slice p n cap] [] [slF (rI2 .i64) p cap l] (Y:=Unit) (fun y=>True) (fun y=> .bool (decide (((n:Nat):Int)≤70∧(((n:Nat):Int)≤12∨64<((n:Nat):Int))))) (fun y=>[]) (fun y=>[]):=by
 refine zm Tryz.func12 rfl rfl rfl (fun c=> ?_)
 show RunC _ _ _ _ _ [(0,.slice p n cap)] [] [slF (rI2 .i64) p cap l]
 refine zba 0 rfl (fun hL0=> ?_)
 refine zg<|za<|e_p (zb rfl)<|zh<|zd<|zEa (X:=Unit) (fun x=>True) (fun x=>[(2,.bool (decide ((((n:Nat):Int)≤70)∧((((n:Nat):Int)≤12)∨(64<((n:Nat):Int))))))]) (fun x=>[]) (fun x=>[slF (rI2 .i64) p cap l]) ?_ ?_
 ·
  refine za<|e_mv rfl<|e_p (zN yc rfl)<|e_p (zVa rfl rfl)<|zaa rfl rfl (zX rfl) (fun h1=> ?_) (fun h1=> ?_)
  ·
   refine e_mv rfl<|e_p (zN yc rfl)<|e_p (zVa rfl rfl)<|zaa rfl rfl (zX rfl) (fun h2=> ?_) (fun h2=> ?_)
   ·
    refine e_no<|e_no<|e_no<|e_p (zo rfl rfl)<|e_p (zo rfl rfl)<|e_p (zb rfl)<|zh ?_
    exact zga () (show True from by first|trivial|omega|simp_all) ((.e rfl (congrArg Value.bool cbu) .n):SubM _ _) (ho:=(.n:PickO _ _ _)) ((.c (j:=0) rfl .n):SelR _ _ _)
   ·
    refine e_mv rfl<|e_p (zN yc rfl)<|e_p (zAa rfl rfl)<|e_p (zo rfl rfl)<|e_p (zo rfl rfl)<|e_p (zb rfl)<|zh ?_
    exact zga () (show True from by first|trivial|omega|simp_all) ((.e rfl (congrArg Value.bool cbu) .n):SubM _ _) (ho:=(.n:PickO _ _ _)) ((.c (j:=0) rfl .n):SelR _ _ _)
  ·
   refine e_no<|e_no<|e_no<|e_no<|e_no<|e_no<|e_no<|e_no<|e_p (zo rfl rfl)<|e_p (zb rfl)<|zh ?_
   exact zga () (show True from by first|trivial|omega|simp_all) ((.e rfl (congrArg Value.bool cbu) .n):SubM _ _) (ho:=(.n:PickO _ _ _)) ((.c (j:=0) rfl .n):SelR _ _ _)
 ·
  rintro ⟨⟩ -
  try dsimp only
  refine zH ?_
  exact zy Tryz.results12 () trivial (zl rfl) (congrArg Value.bool (by first|rfl|(simp;omega)|simp_all)) (ho:=(.n:PickO _ _ _)) (.n:SelR _ _ _)
end Go.Proofs.YtjcpbhlijoigfaaGreat.Sp
namespace Go.Proofs.YtjcpbhlijoigfaaGreat.Sp
open Go
set_option linter.unusedVariables false
set_option maxRecDepth 100000
set_option maxHeartbeats 1000000
theorem zLc {p:Option Addr} {n:Nat} {cap:Nat} {l:List Pg.P2} (hn:l.length=n):Con ye 10 [.slice p n cap] [] [slF (rI2 .i64) p cap l] (Y:=Unit) (fun y=>True) (fun y=> .bool true) (fun y=>[]) (fun y=>[]):=by
 refine zm Tryz.func10 rfl rfl rfl (fun c=> ?_)
 show RunC _ _ _ _ _ [(0,.slice p n cap)] [] [slF (rI2 .i64) p cap l]
 refine zba 0 rfl (fun hL0=> ?_)
 refine zg<|za<|e_p (zb rfl)<|zh<|zd<|zg<|zg<|za<|zL rfl rfl (.n) ce11 (zTf) (.n)<|e_p (ztb rfl)<|zh<|zd<|zgb rfl rfl<|zA<|zd<|zg<|zg<|za<|e_mv rfl<|zL rfl rfl (.c rfl .n) ce12 (zEg (p:=p) (n:=n) (cap:=cap) (l:=l) (hn:=ass)) (.c (j:=0) rfl .n)<|e_p (zYa rfl)<|zh<|zd<|zC rfl (fun h1=> ?_) (fun h1=> ?_)
 ·
  refine zg<|za<|e_p (zb rfl)<|zh<|zd<|zH<|zi ?_
  exact zy Tryz.results10 () trivial (zl rfl) rfl (ho:=(.n:PickO _ _ _)) (.n:SelR _ _ _)
 ·
  refine zA<|zd<|zg<|za<|e_mv rfl<|zL rfl rfl (.c rfl .n) ce37 (zQe (p:=p) (n:=n) (cap:=cap) (l:=l) (hn:=ass)) (.c (j:=0) rfl .n)<|e_mv rfl<|e_p (zr rfl rfl)<|e_p (zr rfl rfl)<|e_p (zb rfl)<|e_p (zb rfl)<|zh<|zd<|zg<|za<|e_mv rfl<|zE rfl rfl (.c rfl .n) ce38 (zdg (p:=p) (n:=n) (cap:=cap) (l:=l) (hn:=ass)) (.c (j:=0) rfl .n) ?_
  rintro ⟨p22,c23⟩ -
  dsimp only [aq,nq,cq]
  refine e_mv rfl<|e_p (zr rfl rfl)<|e_p (zr rfl rfl)<|e_p (zb rfl)<|e_p (zb rfl)<|zh<|zd<|zg<|za<|e_mv rfl<|zE rfl rfl (.c rfl .n) ce39 (zbe (p:=p) (n:=n) (cap:=cap) (l:=l) (hn:=ass)) (.c (j:=0) rfl .n) ?_
  rintro ⟨wr04,wr15,wr26,wr37⟩ hcn
  dsimp only [aq,nq,cq]
  replace hcn:(Pg.ck l≠0→(wr04=wz∧wr15=wz)∧wr26=wz∧wr37=wz):=hcn
  refine e_mv rfl<|e_p (zr rfl rfl)<|e_p (zr rfl rfl)<|zM rfl rfl (zn zr69 rfl) (fun b8=> ?_)
  refine zk 0 rfl rfl rfl rfl rfl sz69 rfl (.t8 .nil) .z<|e_p (zb rfl)<|zh<|zd<|zg<|zg<|za<|e_mv rfl<|zL rfl rfl (.c rfl .n) ce16 (zPe (p:=p) (n:=n) (cap:=cap) (l:=l) (hn:=ass)) (.c (j:=2) rfl .n)<|e_p (zb rfl)<|zh<|zd<|zg<|za<|e_mv rfl<|e_p (zMa rfl rfl)<|zh<|zd<|zC rfl (fun h37=> ?_) (fun h37=> ?_)
  ·
   obtain ⟨⟨hw1,hw2⟩,hw3,hw4⟩:=hcn h37
   refine zEa (X:=Unit) (fun x=>True) (fun x=>[(2,.bool true),(8,.int .i64 (Pg.ck l)),(7,.pointer (some ⟨b8,0,none⟩)),(6,.int .i64 (Pg.ck l)),(5,.slice p22 ((Pg.tdO l).length) c23),(4,.int .i64 (Pg.ck l)),(3,.bool (decide (Pg.ck l=0∧Pg.cvR l))),(0,.slice p n cap)]) (fun x=>[boxA b8 69 (cw [wr04,wr15,wr26,wr37]),rowA 30 (rI2 .i64) p22 c23 (Pg.tdO l)]) (fun x=>[qF (Pg.cnB l) wr04 wr15 ((Pg.cnO l).1),qF (Pg.cnB l) wr26 wr37 ((Pg.cnO l).2),slF (rI2 .i64) p cap l]) ?_ ?_
   ·
    refine za<|e_mv rfl<|e_mv rfl<|e_p (zua rfl rfl) ?_
    rw [show (decide ((Pg.ck l)=Pg.ck l))=true from by exact decide_eq_true rfl]
    refine e_mv rfl<|e_mv rfl<|e_mv rfl<|e_p (zua rfl rfl) ?_
    rw [show (decide ((Pg.ck l)=Pg.ck l))=true from by exact decide_eq_true rfl]
    refine e_p (zo rfl rfl)<|e_mv rfl<|e_mv rfl<|e_mv rfl<|e_p (zua rfl rfl) ?_
    rw [show (decide ((Pg.ck l)=Pg.ck l))=true from by exact decide_eq_true rfl]
    refine e_p (zo rfl rfl)<|e_mv rfl<|e_mv rfl<|e_p (zYa rfl) ?_
    rw [show (decide (¬(Pg.ck l=0∧Pg.cvR l)))=true from by simp [h37]]
    refine e_p (zo rfl rfl)<|e_mv rfl<|e_mv rfl<|e_p (zN yc rfl)<|e_p (zua rfl rfl) ?_
    rw [show (decide ((((Pg.tdO l).length:Nat):Int)=0))=true from by exact decide_eq_true (by rw [Pg.tdO_bad h37];rfl)]
    refine e_p (zo rfl rfl)<|e_mv rfl<|e_p (ze yf rfl sz43 rfl rfl)<|e_ru (zc 0 ty43 rfl rfl (.t4 .nil))<|zL rfl rfl (.c rfl .n) ce40 (zsd (u1:=wr04) (v1:=wr15)) (.n) ?_
    rw [show (decide (Wd.zz wr04 wr15))=true from by rw [hw1,hw2];rfl]
    refine e_p (zo rfl rfl)<|e_mv rfl<|e_p (ze yf rfl sz43 rfl rfl)<|e_ru (zc 0 ty43 rfl rfl (.s4 (.t4 .nil)))<|zL rfl rfl (.c rfl .n) ce40 (zsd (u1:=wr26) (v1:=wr37)) (.n) ?_
    rw [show (decide (Wd.zz wr26 wr37))=true from by rw [hw3,hw4];rfl]
    refine e_p (zo rfl rfl)<|e_p (zb rfl)<|zh ?_
    exact zga () (show True from by first|trivial|omega|simp_all) ((.of rfl):SubM _ _) (ho:=((.of [0,0] rfl):PickO _ _ _)) ((.of [0,1,2] rfl):SelR _ _ _)
   ·
    rintro ⟨⟩ -
    try dsimp only [cw]
    refine zH<|zi ?_
    exact zy Tryz.results10 () trivial (zl rfl) rfl (ho:=(.n:PickO _ _ _)) (.n:SelR _ _ _)
  ·
   have hz:=Decidable.not_not.1 h37
   have hok:=Pg.ok hz
   have hrng:=hok.rng
   have h64:n≤64:=by have:=hok.n64;omega
   have hsm:Pg.Sm n l:=by have h9:=Pg.Sm.of hz;rwa [hn] at h9
   have hdb:=Sw.db_ne hsm hrng
   have htd:=Pg.td_db l.length (l:=l) rfl (by have:=hok.n3;omega)
   have hts:=Pg.td_sub l.length (l:=l) rfl
   have hti:=Pg.tdV_in hrng
   have hto:=Pg.tdO_ok hz
   have hnf:∀{q:List Pg.P2},(∀x∈q,Pg.inR x)→¬q.any Pg.far=true:=fun hq h=>by obtain ⟨x,hx,hf⟩:=List.any_eq_true.1 h;unfold Pg.far at hf;simp at hf;exact hf (hq x hx)
   have hcv:=Pg.cnV_hp hn hrng h64 hdb
   have hbq:Pg.bq 500000 [((Pg.cnV l).1,(Pg.cnV l).2)]:=fun x hx=>by rw [List.mem_singleton] at hx;subst hx;exact ⟨Nat.le_trans hcv.1 dd,Nat.le_trans hcv.2 dd⟩
   have hA1:Pg.arV l=Pg.db l:=(Pg.ar_ok om (hnf hrng)).1
   have hA2:Pg.arV (Pg.tdV l)=Pg.db (Pg.tdV l):=(Pg.ar_ok (by have:=hts.1;omega) (hnf hti)).1
   have e9:(Pg.cnO l)=(Pg.cnV l):=by exact Pg.cnO_ok hz
   rw [e9]
   have e10:(Pg.cnB l)=true:=by exact Pg.cnB_ok hz
   rw [e10]
   have e11:Pg.tdO l=Pg.tdV l:=by exact hto
   rw [e11]
   refine zA<|zd<|zg<|za<|e_mv rfl<|zL rfl rfl (.c rfl .n) ce14 (znc (p:=p) (n:=n) (cap:=cap) (l:=l) (hn:=ass)) (.c (j:=2) rfl .n)<|e_mv rfl<|e_p (zr rfl rfl)<|e_p (zr rfl rfl)<|e_p (zb rfl)<|e_p (zb rfl)<|zh<|zd<|zg<|za<|e_mv rfl<|zma 1 rfl (.s .z)<|zL rfl rfl (.c rfl .n) ce14 (znc (p:=p22) (n:=(Pg.tdV l).length) (cap:=c23) (l:=(Pg.tdV l)) (hn:=cbo)) (.c (j:=0) rfl .n)<|e_mv rfl<|e_p (zr rfl rfl)<|e_p (zr rfl rfl)<|e_p (zb rfl)<|e_p (zb rfl)<|zh<|zd<|zEa (X:=Unit) (fun x=>True) (fun x=>[(2,.bool true)]) (fun x=>[boxA b8 69 (cw [wr04,wr15,wr26,wr37])]) (fun x=>[slF (rI2 .i64) p22 c23 (Pg.tdV l),qF true wr04 wr15 ((Pg.cnV l).1),qF true wr26 wr37 ((Pg.cnV l).2),slF (rI2 .i64) p cap l]) ?_ ?_
   ·
    refine zW (OW:=[]) (O:=[boxA b8 69 (cw [wr04,wr15,wr26,wr37]),emA]) 100000 mixed (.then .ret) kr<|e_dm 0 rfl rfl rfl<|e_pv 1 rfl rfl (zua rfl rfl) ?_
    rw [show (decide ((Pg.ck l)=0))=true from by exact decide_eq_true hz]
    refine e_dm 2 rfl rfl rfl<|e_dm 3 rfl rfl rfl<|e_pv 4 rfl rfl (zua rfl rfl) ?_
    rw [show (decide ((Pg.ck l)=0))=true from by exact decide_eq_true hz]
    refine e_pv 5 rfl rfl (zo rfl rfl)<|e_dm 6 rfl rfl rfl<|e_dm 7 rfl rfl rfl<|e_pv 8 rfl rfl (zua rfl rfl) ?_
    rw [show (decide ((Pg.ck l)=0))=true from by exact decide_eq_true hz]
    refine e_pv 9 rfl rfl (zo rfl rfl)<|e_dm 10 rfl rfl rfl<|e_dm 11 rfl rfl rfl<|e_dm 12 rfl rfl rfl<|e_one 13 (zpa rfl rfl rfl rfl (.c rfl .n) ce22 (zle (p:=p) (n:=n) (cap:=cap) (l:=l) (hn:=ass) (h64:=cbo) (hrng:=cbo)) (.c (j:=3) rfl .n) ?_)
    refine e_pv 14 rfl rfl (zZb Tryz.underlying4 rfl rfl) ?_
    rw [show (decide (decide (Pg.ck l=0∧Pg.cvR l)=decide (Pg.cvR l)))=true from by simp [hz]]
    refine e_pv 15 rfl rfl (zo rfl rfl)<|e_dm 16 rfl rfl rfl<|e_dm 17 rfl rfl rfl<|e_dm 18 rfl rfl rfl<|e_one 19 (zw rfl rfl rfl rfl (.c rfl .n) ce42 (zFf (m:=(n+1)) (p:=p) (n:=n) (cap:=cap) (l:=l) (hn:=ass) (h64:=cbo) (hrng:=cbo) (hm:=cbo)) (.c (j:=3) rfl .n) ?_)
    rintro ⟨p912,c913⟩ -
    dsimp only [aq,nq,cq]
    refine e_one 20 (zpa rfl rfl rfl rfl (.c rfl (.c rfl .n)) ce41 (zSf (p1:=p22) (n1:=(Pg.tdV l).length) (c1:=c23) (l1:=(Pg.tdV l)) (p2:=p912) (n2:=(Pg.tdV l).length) (c2:=c913) (l2:=(Pg.tdV l)) (hn1:=cbo) (hn2:=cbo)) (.c (j:=1) rfl (.c (j:=0) rfl .n)) ?_)
    rw [show (decide ((Pg.tdV l)=(Pg.tdV l)))=true from by exact decide_eq_true rfl]
    refine e_pv 21 rfl rfl (zo rfl rfl)<|e_dm 22 rfl rfl rfl<|e_u 23 rfl rfl (zc 0 ty69 rfl rfl (.t8 .nil))<|e_dm 25 rfl rfl rfl<|zUc (m':=[(105,.slice p n cap),(103,.agg (cw [wr04,wr15,wr26,wr37]).toArray),(102,.bool true),(96,.bool true),(90,.bool true),(86,.bool true),(82,.bool true),(12,.int .i64 (Pg.arV (Pg.tdV l))),(10,.int .i64 (Pg.arV l)),(2,.bool false)]) (R':=[slF (rI2 .i64) p912 c913 (Pg.tdV l),slF (rI2 .i64) p22 c23 (Pg.tdV l),qF true wr04 wr15 ((Pg.cnV l).1),qF true wr26 wr37 ((Pg.cnV l).2),slF (rI2 .i64) p cap l]) ((.of rfl):SubM _ _) (List.Perm.refl _) (List.Perm.refl _) ((.of [0,1,2,3,4] rfl):SelR _ _ _)<|zna (X:=Nat×Wd×Wd×Wd×Wd×Nat) (k':=0) (L':=(lb 36 68719476735)) (fun (u24_1,u26_1,u26_2,u26_3,u26_4,u27_1)=>([(2,.bool true)],[],[emA,emA,boxA b8 69 (cw [wr04,wr15,wr26,wr37]),emA],[slF rR (some ⟨u27_1,0,none⟩) 1 ([(((Pg.cnV l).1),((Pg.cnV l).2))]),qF true u26_1 u26_2 ((Pg.cnV l).1),qF true u26_3 u26_4 ((Pg.cnV l).2),slF rR (some ⟨u24_1,0,none⟩) 1 ([(((Pg.cnV l).1),((Pg.cnV l).2))]),slF (rI2 .i64) p912 c913 (Pg.tdV l),slF (rI2 .i64) p22 c23 (Pg.tdV l),qF true wr04 wr15 ((Pg.cnV l).1),qF true wr26 wr37 ((Pg.cnV l).2),slF (rI2 .i64) p cap l])) ?_ (fun hD0=> ?_)
    ·
     rintro ⟨u24_1,u26_1,u26_2,u26_3,u26_4,u27_1⟩
     dsimp only [cw]
     refine zT kr ?_
     exact zga () (show True from by first|trivial|omega|simp_all) ((.c rfl .n):SubM _ _) (ho:=((.c (i:=2) rfl .n):PickO _ _ _)) ((.of [5,6,7,8] rfl):SelR _ _ _)
    refine zna (X:=Nat×Wd×Wd×Wd×Wd×Nat) (k':=8) (L':=(lb 36 268435455)) (fun (u24_1,u26_1,u26_2,u26_3,u26_4,u27_1)=>([(107,.slice (some ⟨u27_1,0,none⟩) 1 1),(104,.slice (some ⟨u24_1,0,none⟩) 1 1),(102,.bool true),(12,.int .i64 (Pg.arV (Pg.tdV l))),(10,.int .i64 (Pg.arV l)),(2,.bool false)],[],[emA,emA,boxA b8 69 (cw [wr04,wr15,wr26,wr37]),emA],[slF rR (some ⟨u27_1,0,none⟩) 1 ([(((Pg.cnV l).1),((Pg.cnV l).2))]),qF true u26_1 u26_2 ((Pg.cnV l).1),qF true u26_3 u26_4 ((Pg.cnV l).2),slF rR (some ⟨u24_1,0,none⟩) 1 ([(((Pg.cnV l).1),((Pg.cnV l).2))]),slF (rI2 .i64) p912 c913 (Pg.tdV l),slF (rI2 .i64) p22 c23 (Pg.tdV l),qF true wr04 wr15 ((Pg.cnV l).1),qF true wr26 wr37 ((Pg.cnV l).2),slF (rI2 .i64) p cap l])) ?_ (fun hD1=> ?_)
    ·
     rintro ⟨u24_1,u26_1,u26_2,u26_3,u26_4,u27_1⟩
     dsimp only [cw]
     refine zUa 28 kr ?_
     ·
      refine zpa rfl rfl rfl rfl (.c rfl (.c rfl .n)) ce20 (zte (p1:=some ⟨u24_1,0,none⟩) (n1:=1) (c1:=1) (l1:=[(((Pg.cnV l).1),((Pg.cnV l).2))]) (p2:=some ⟨u27_1,0,none⟩) (n2:=1) (c2:=1) (l2:=[(((Pg.cnV l).1),((Pg.cnV l).2))]) (hn1:=cbo) (hn2:=cbo) (hb1:=cbo) (hb2:=cbo)) (.c (j:=3) rfl (.c (j:=0) rfl .n)) ?_
      rw [show (decide (([(((Pg.cnV l).1),((Pg.cnV l).2))])=([(((Pg.cnV l).1),((Pg.cnV l).2))])))=true from by exact decide_eq_true rfl]
      refine e_pv 29 rfl rfl (zo rfl rfl)<|e_dm 30 rfl rfl rfl<|e_dm 31 rfl rfl rfl<|e_dm 32 rfl rfl rfl<|e_pv 33 rfl rfl (zua rfl rfl) ?_
      rw [show (decide (Pg.arV l=Pg.arV (Pg.tdV l)))=true from by exact decide_eq_true (by rw [hA1,hA2,htd])]
      refine e_pv 34 rfl rfl (zo rfl rfl)<|e_pv 35 rfl rfl (zb rfl) ?_
      exact zU (hD0 (u24_1,u26_1,u26_2,u26_3,u26_4,u27_1)) kr ((.c rfl .n):SubM _ _) .rfl .rfl ((.of [0,1,2,3,4,5,6,7,8] rfl):SelR _ _ _)
    refine zna (X:=Nat×Wd×Wd×Wd×Wd) (k':=9) (L':=(lb 36 134217727)) (fun (u24_1,u26_1,u26_2,u26_3,u26_4)=>([(106,.agg (cw [u26_1,u26_2,u26_3,u26_4]).toArray),(104,.slice (some ⟨u24_1,0,none⟩) 1 1),(102,.bool true),(12,.int .i64 (Pg.arV (Pg.tdV l))),(10,.int .i64 (Pg.arV l)),(2,.bool false)],[],[emA,boxA b8 69 (cw [wr04,wr15,wr26,wr37]),emA],[qF true u26_1 u26_2 ((Pg.cnV l).1),qF true u26_3 u26_4 ((Pg.cnV l).2),slF rR (some ⟨u24_1,0,none⟩) 1 ([(((Pg.cnV l).1),((Pg.cnV l).2))]),slF (rI2 .i64) p912 c913 (Pg.tdV l),slF (rI2 .i64) p22 c23 (Pg.tdV l),qF true wr04 wr15 ((Pg.cnV l).1),qF true wr26 wr37 ((Pg.cnV l).2),slF (rI2 .i64) p cap l])) ?_ (fun hD2=> ?_)
    ·
     rintro ⟨u24_1,u26_1,u26_2,u26_3,u26_4⟩
     dsimp only [cw]
     refine zUa 27 kr ?_
     ·
      refine zSc rfl rfl rfl rfl (zxa (r:=rR) (k:=1) yd inf69 rfl dd dd dd (.c (x:=(((Pg.cnV l).1),((Pg.cnV l).2))) (cs:=[u26_1.b,u26_1.l,u26_2.b,u26_2.l,u26_3.b,u26_3.l,u26_4.b,u26_4.l]) (u26_1,u26_2,u26_3,u26_4) rfl rfl rfl (fun g hr=>⟨Holds.get 0 rfl hr,Holds.get 1 rfl hr⟩) .n)) (fun u27_1 _=> ?_)
      refine zbb 0 rfl .z ?_
      exact zU (hD1 (u24_1,u26_1,u26_2,u26_3,u26_4,u27_1)) kr ((.of rfl):SubM _ _) .rfl .rfl ((.of [0,1,2,3,4,5,6,7,8] rfl):SelR _ _ _)
    refine zna (X:=Wd×Wd×Wd×Wd×Nat) (k':=9) (L':=(lb 36 251658239)) (fun (u26_1,u26_2,u26_3,u26_4,u27_1)=>([(107,.slice (some ⟨u27_1,0,none⟩) 1 1),(103,.agg (cw [wr04,wr15,wr26,wr37]).toArray),(102,.bool true),(12,.int .i64 (Pg.arV (Pg.tdV l))),(10,.int .i64 (Pg.arV l)),(2,.bool false)],[],[emA,boxA b8 69 (cw [wr04,wr15,wr26,wr37]),emA],[slF rR (some ⟨u27_1,0,none⟩) 1 ([(((Pg.cnV l).1),((Pg.cnV l).2))]),qF true u26_1 u26_2 ((Pg.cnV l).1),qF true u26_3 u26_4 ((Pg.cnV l).2),slF (rI2 .i64) p912 c913 (Pg.tdV l),slF (rI2 .i64) p22 c23 (Pg.tdV l),qF true wr04 wr15 ((Pg.cnV l).1),qF true wr26 wr37 ((Pg.cnV l).2),slF (rI2 .i64) p cap l])) ?_ (fun hD3=> ?_)
    ·
     rintro ⟨u26_1,u26_2,u26_3,u26_4,u27_1⟩
     dsimp only [cw]
     refine zUa 24 kr ?_
     ·
      refine zSc rfl rfl rfl rfl (zxa (r:=rR) (k:=1) yd inf69 rfl dd dd dd (.c (x:=(((Pg.cnV l).1),((Pg.cnV l).2))) (cs:=[wr04.b,wr04.l,wr15.b,wr15.l,wr26.b,wr26.l,wr37.b,wr37.l]) (wr04,wr15,wr26,wr37) rfl rfl rfl (fun g hr=>⟨Holds.get 5 rfl hr,Holds.get 6 rfl hr⟩) .n)) (fun u24_1 _=> ?_)
      refine zbb 0 rfl .z ?_
      exact zU (hD1 (u24_1,u26_1,u26_2,u26_3,u26_4,u27_1)) kr ((.of rfl):SubM _ _) .rfl .rfl ((.of [1,2,3,0,4,5,6,7,8] rfl):SelR _ _ _)
    refine zna (X:=Nat) (k':=10) (L':=(lb 36 67108863)) (fun u24_1=>([(104,.slice (some ⟨u24_1,0,none⟩) 1 1),(105,.slice p n cap),(102,.bool true),(12,.int .i64 (Pg.arV (Pg.tdV l))),(10,.int .i64 (Pg.arV l)),(2,.bool false)],[],[emA,boxA b8 69 (cw [wr04,wr15,wr26,wr37]),emA],[slF rR (some ⟨u24_1,0,none⟩) 1 ([(((Pg.cnV l).1),((Pg.cnV l).2))]),slF (rI2 .i64) p912 c913 (Pg.tdV l),slF (rI2 .i64) p22 c23 (Pg.tdV l),qF true wr04 wr15 ((Pg.cnV l).1),qF true wr26 wr37 ((Pg.cnV l).2),slF (rI2 .i64) p cap l])) ?_ (fun hD4=> ?_)
    ·
     rintro u24_1
     dsimp only [cw]
     refine zUa 26 kr ?_
     ·
      refine zw rfl rfl rfl rfl (.c rfl .n) ce43 (zwc (p:=p) (n:=n) (cap:=cap) (l:=l) (hn:=ass) (h64:=cbo) (hrng:=cbo) (hdb:=cbo)) (.c (j:=5) rfl .n) ?_
      rintro ⟨u26_1,u26_2,u26_3,u26_4⟩ -
      dsimp only [aq,nq,cq]
      exact zU (hD2 (u24_1,u26_1,u26_2,u26_3,u26_4)) kr ((.of rfl):SubM _ _) .rfl .rfl ((.of [0,1,2,3,4,5,6,7] rfl):SelR _ _ _)
    refine zna (X:=Wd×Wd×Wd×Wd) (k':=10) (L':=(lb 36 117440511)) (fun (u26_1,u26_2,u26_3,u26_4)=>([(106,.agg (cw [u26_1,u26_2,u26_3,u26_4]).toArray),(103,.agg (cw [wr04,wr15,wr26,wr37]).toArray),(102,.bool true),(12,.int .i64 (Pg.arV (Pg.tdV l))),(10,.int .i64 (Pg.arV l)),(2,.bool false)],[],[boxA b8 69 (cw [wr04,wr15,wr26,wr37]),emA],[qF true u26_1 u26_2 ((Pg.cnV l).1),qF true u26_3 u26_4 ((Pg.cnV l).2),slF (rI2 .i64) p912 c913 (Pg.tdV l),slF (rI2 .i64) p22 c23 (Pg.tdV l),qF true wr04 wr15 ((Pg.cnV l).1),qF true wr26 wr37 ((Pg.cnV l).2),slF (rI2 .i64) p cap l])) ?_ (fun hD5=> ?_)
    ·
     rintro ⟨u26_1,u26_2,u26_3,u26_4⟩
     dsimp only [cw]
     refine zLb 24 27 kr ?_ ?_
     ·
      refine zSc rfl rfl rfl rfl (zxa (r:=rR) (k:=1) yd inf69 rfl dd dd dd (.c (x:=(((Pg.cnV l).1),((Pg.cnV l).2))) (cs:=[wr04.b,wr04.l,wr15.b,wr15.l,wr26.b,wr26.l,wr37.b,wr37.l]) (wr04,wr15,wr26,wr37) rfl rfl rfl (fun g hr=>⟨Holds.get 4 rfl hr,Holds.get 5 rfl hr⟩) .n)) (fun u24_1 _=> ?_)
      refine zbb 0 rfl .z ?_
      exact zU (hD2 (u24_1,u26_1,u26_2,u26_3,u26_4)) kr ((.of rfl):SubM _ _) .rfl .rfl ((.of [1,2,0,3,4,5,6,7] rfl):SelR _ _ _)
     ·
      refine zSc rfl rfl rfl rfl (zxa (r:=rR) (k:=1) yd inf69 rfl dd dd dd (.c (x:=(((Pg.cnV l).1),((Pg.cnV l).2))) (cs:=[u26_1.b,u26_1.l,u26_2.b,u26_2.l,u26_3.b,u26_3.l,u26_4.b,u26_4.l]) (u26_1,u26_2,u26_3,u26_4) rfl rfl rfl (fun g hr=>⟨Holds.get 0 rfl hr,Holds.get 1 rfl hr⟩) .n)) (fun u27_1 _=> ?_)
      refine zbb 0 rfl .z ?_
      exact zU (hD3 (u26_1,u26_2,u26_3,u26_4,u27_1)) kr ((.of rfl):SubM _ _) .rfl .rfl ((.of [0,1,2,3,4,5,6,7] rfl):SelR _ _ _)
    refine zLb 24 26 kr ?_ ?_
    ·
     refine zSc rfl rfl rfl rfl (zxa (r:=rR) (k:=1) yd inf69 rfl dd dd dd (.c (x:=(((Pg.cnV l).1),((Pg.cnV l).2))) (cs:=[wr04.b,wr04.l,wr15.b,wr15.l,wr26.b,wr26.l,wr37.b,wr37.l]) (wr04,wr15,wr26,wr37) rfl rfl rfl (fun g hr=>⟨Holds.get 2 rfl hr,Holds.get 3 rfl hr⟩) .n)) (fun u24_1 _=> ?_)
     refine zbb 0 rfl .z ?_
     exact zU (hD4 u24_1) kr ((.of rfl):SubM _ _) .rfl .rfl ((.of [0,1,2,3,4,5] rfl):SelR _ _ _)
    ·
     refine zw rfl rfl rfl rfl (.c rfl .n) ce43 (zwc (p:=p) (n:=n) (cap:=cap) (l:=l) (hn:=ass) (h64:=cbo) (hrng:=cbo) (hdb:=cbo)) (.c (j:=4) rfl .n) ?_
     rintro ⟨u26_1,u26_2,u26_3,u26_4⟩ -
     dsimp only [aq,nq,cq]
     exact zU (hD5 (u26_1,u26_2,u26_3,u26_4)) kr ((.of rfl):SubM _ _) .rfl .rfl ((.of [0,1,2,3,4,5,6] rfl):SelR _ _ _)
   ·
    rintro ⟨⟩ -
    try dsimp only [cw]
    refine zH ?_
    exact zy Tryz.results10 () trivial (zl rfl) rfl (ho:=(.n:PickO _ _ _)) (.n:SelR _ _ _)
end Go.Proofs.YtjcpbhlijoigfaaGreat.Sp
