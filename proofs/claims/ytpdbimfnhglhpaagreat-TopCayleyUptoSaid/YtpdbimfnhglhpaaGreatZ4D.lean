/- Lemmas on the walk and plain lemmas that the claim of this folder uses; each states its own conditions. Lines were printed by a program of ours. -/
import Derived.Test.YtpdbimfnhglhpaaGreatZ4C
set_option linter.unusedVariables false
set_option linter.unusedSimpArgs false
set_option linter.unusedSectionVars false
open Go.Proofs.Tryz renaming underlying60 → ya, underlying62 → yb, underlying32 → yc, prog → yd, underlying28 → ye, underlying30 → yh, results86 → yj, func86 → yn, results19 → yo
open Go.Proofs.YtpdbimfnhglhpaaGreat.Big renaming zS → yf, hq → yg, raw → yi, digs → yk, hq_num → yl, hq_den → ym, ln → yp
namespace Go.Proofs.YtpdbimfnhglhpaaGreat.Sp
open Go
set_option linter.unusedVariables false
set_option maxRecDepth 100000
set_option maxHeartbeats 8000000
theorem zcd {z:Int} (hz: -9223372036854775808≤z∧z≤9223372036854775807):Con yd 61 [.int .i64 z] [] [] (Y:=(Option Addr)×Nat) (fun y=>True) (fun y=> .agg #[.bool (decide (z<0)),.slice (y.1) ((yk ((z).natAbs)).length) (y.2)]) (fun y=>[]) (fun y=>[slF (rI .u32) (y.1) (y.2) (yk ((z).natAbs))]):=by
 refine zk Tryz.func61 rfl rfl rfl (fun c=> ?_)
 show RunC _ _ _ _ _ [(0,.int .i64 z)] [] []
 refine ze<|za<|zM rfl rfl (zA zr30 rfl) (fun b1=> ?_)
 refine zf<|zc<|ze<|za<|e_mv rfl<|zm rfl rfl (.c rfl .n) ce148 (zJf (z:=z) (hz:=ass)) (.n) ?_
 rintro ⟨p22,c23⟩ -
 dsimp only [aq,nq,cq]
 refine zl 0 rfl rfl rfl rfl rfl sz30 rfl (.t2 .nil) .z<|zf<|zc<|zG ?_
 exact zx Tryz.results61 (p22,c23) trivial (zq 0 ty30 rfl rfl (.t2 .nil)) rfl (ho:=oN) (s0 rfl)
theorem zEb {z:Int} (hz: -9223372036854775808≤z∧z≤9223372036854775807):Con yd 61 [.int .i64 (z)] [] [] (Y:=(Wd)) (fun y=>True) (fun y=> .agg #[y.b,y.l]) (fun y=>[]) (fun y=>[zF y (z)]):=by
  exact zIb (zcd hz)
theorem zdd {z:Int} (hz: -9223372036854775808≤z∧z≤9223372036854775807):Con yd 48 [.int .i64 z] [] [] (Y:=Wd×Wd) (fun y=>True) (fun y=> .agg #[y.1.b,y.1.l,y.2.b,y.2.l]) (fun y=>[]) (fun y=>[qF true y.1 y.2 ((z:Int):Rat)]):=by
 refine zk Tryz.func48 rfl rfl rfl (fun c=> ?_)
 show RunC _ _ _ _ _ [(0,.int .i64 z)] [] []
 refine ze<|za<|zM rfl rfl (zA zr32 rfl) (fun b1=> ?_)
 refine zf<|zc<|ze<|za<|e_mv rfl<|zm rfl rfl (.c rfl .n) ce61 (zEb (z:=z) (hz:=ass)) (.n) ?_
 rintro w33 -
 dsimp only [aq,nq,cq]
 refine zm rfl rfl (.c rfl .n) ce61 (zEb (z:=1) (hz:=by first|rfl|assumption|omega|(rw [yf];omega)|(decide +kernel))) (.n) ?_
 rintro w34 -
 dsimp only [aq,nq,cq]
 refine e_p (zZ zr32 rfl yc (.c sz30 (.c sz30 .n)) (.c rfl (.c rfl .n)) (.c rfl rfl rfl (.t2 .nil) (.c rfl rfl rfl (.s2 (.t2 .nil)) .n)))<|zl 0 rfl rfl rfl rfl rfl sz32 rfl (.t4 .nil) .z<|zf<|zc<|zG<|zwb (qF true w33 w34 ((z:Int):Rat)) (qF_close 1 0 rfl rfl (by exact ⟨(Rat.num_intCast z).symm,by rw [Rat.den_intCast];rfl,Nat.le_trans (Big.hq_64 hz.1 hz.2) dd⟩)) ?_
 exact zx Tryz.results48 (w33,w34) trivial (zq 0 ty32 rfl rfl (.t4 .nil)) rfl (ho:=oN) (s0 rfl)
theorem zeb {z:Int} (hz: -9223372036854775808≤z∧z≤9223372036854775807):Con yd 23 [.int .i64 z] [] [] (Y:=Wd×Wd) (fun y=>True) (fun y=> .agg #[y.1.b,y.1.l,y.2.b,y.2.l]) (fun y=>[]) (fun y=>[qF true y.1 y.2 ((z:Int):Rat)]):=by
 refine zk Tryz.func23 rfl rfl rfl (fun c=> ?_)
 show RunC _ _ _ _ _ [(0,.int .i64 z)] [] []
 refine ze<|za<|zM rfl rfl (zA zr32 rfl) (fun b1=> ?_)
 refine zf<|zc<|ze<|za<|e_mv rfl<|zm rfl rfl (.c rfl .n) ce48 (zdd (z:=z) (hz:=ass)) (.n) ?_
 rintro ⟨w33,w44⟩ -
 dsimp only [aq,nq,cq]
 refine zl 0 rfl rfl rfl rfl rfl sz32 rfl (.t4 .nil) .z<|zf<|zc<|zG ?_
 exact zx Tryz.results23 (w33,w44) trivial (zq 0 ty32 rfl rfl (.t4 .nil)) rfl (ho:=oN) (s0 rfl)
theorem zRc {s:Bool} {p1:Option Addr} {n1:Nat} {c1:Nat} {l1:List Int} {t:Bool} {p2:Option Addr} {n2:Nat} {c2:Nat} {l2:List Int} (hn1:l1.length=n1) (hn2:l2.length=n2) (hm1:n1≤1099511627776) (hm2:n2≤1099511627776):Con yd 64 [.agg #[.bool s,.slice p1 n1 c1,.bool t,.slice p2 n2 c2]] [] [slF (rI .u32) p1 c1 l1,slF (rI .u32) p2 c2 l2] (Y:=Unit) (fun y=>True) (fun y=> .bool (decide (Big.qok ((s,l1),(t,l2))))) (fun y=>[]) (fun y=>[]):=by
 refine zk Tryz.func64 rfl rfl rfl (fun c=> ?_)
 show RunC _ _ _ _ _ [(0,.agg #[.bool s,.slice p1 n1 c1,.bool t,.slice p2 n2 c2])] [] [slF (rI .u32) p1 c1 l1,slF (rI .u32) p2 c2 l2]
 refine zP 0 rfl (fun hL0=> ?_)
 refine zOa 0 rfl (fun hE0=> ?_)
 refine zP 1 rfl (fun hL1=> ?_)
 refine zOa 1 rfl (fun hE1=> ?_)
 have hnn1:Big.nn l1:=fun g hg=>(zy.1 (hE0 g hg)).1
 have hnn2:Big.nn l2:=fun g hg=>(zy.1 (hE1 g hg)).1
 have hb1:yp (yi s l1)≤n1:=by have:=Big.zWa (s:=s) hnn1;omega
 have hb2:yp (yi t l2)≤n2:=by have:=Big.zWa (s:=t) hnn2;omega
 refine ze<|za<|zM rfl rfl (zT rfl rfl) (fun b1=> ?_)
 refine e_p (zb rfl)<|zf<|zc<|ze<|zab (X:=Unit) (fun x=>True) (fun x=>[(18,.bool (decide (¬(Big.canon s l1∧Big.canon t l2∧0<yi t l2)))),(2,.bool false),(1,.pointer (some ⟨b1,0,none⟩))]) (fun x=>[boxA b1 32 [.bool s,.slice p1 n1 c1,.bool t,.slice p2 n2 c2]]) (fun x=>[slF (rI .u32) p1 c1 l1,slF (rI .u32) p2 c2 l2]) ?_ ?_
 ·
  refine za<|e_p (zj yc rfl sz30 rfl rfl)<|e_ru (zd 0 ty30 rfl rfl (.t2 .nil))<|zR rfl rfl (.c rfl .n) ce150 (zic (s:=s) (p:=p1) (n:=n1) (cap:=c1) (l:=l1) (hn:=ass)) (.c (j:=0) rfl .n)<|e_p (zPb rfl)<|zga rfl rfl (zja rfl) (fun h2=> ?_) (fun h2=> ?_)
  ·
   refine e_no<|e_no<|e_no<|e_no<|e_p (zE rfl rfl)<|e_mv rfl<|e_no<|e_no<|e_no<|e_no<|e_p (zE rfl rfl)<|zf ?_
   exact zla () tt9 ((.e rfl (congrArg Value.bool (by simp_all)) (.c rfl (.c rfl .n))):SubM _ _) (ho:=(o0 rfl)) ((.of [0,1] rfl):SelR _ _ _)
  ·
   refine e_p (zj yc rfl sz30 rfl rfl)<|e_ru (zd 0 ty30 rfl rfl (.s2 (.t2 .nil)))<|zR rfl rfl (.c rfl .n) ce150 (zic (s:=t) (p:=p2) (n:=n2) (cap:=c2) (l:=l2) (hn:=ass)) (.c (j:=1) rfl .n)<|e_p (zPb rfl)<|e_p (zE rfl rfl)<|zga rfl rfl (zja rfl) (fun h3=> ?_) (fun h3=> ?_)
   ·
    refine e_no<|e_no<|e_no<|e_no<|e_p (zE rfl rfl)<|zf ?_
    exact zla () tt9 ((.e rfl (congrArg Value.bool (by simp_all)) (.c rfl (.c rfl .n))):SubM _ _) (ho:=(o0 rfl)) ((.of [0,1] rfl):SelR _ _ _)
   ·
    refine e_p (zj yc rfl sz30 rfl rfl)<|e_ru (zd 0 ty30 rfl rfl (.s2 (.t2 .nil)))<|zR rfl rfl (.c rfl .n) ce62 (zDd (s:=t) (p:=p2) (n:=n2) (cap:=c2) (l:=l2) (hn:=ass) (hln:=by first|rfl|assumption|omega|(rw [yf];omega)|(decide +kernel))) (.c (j:=1) rfl .n)<|e_p (zpc rfl rfl)<|e_p (zE rfl rfl)<|zf ?_
    exact zla () tt9 ((.e rfl (congrArg Value.bool (by exact decide_eq_decide.2 (Big.sgn_le (Decidable.not_not.1 ‹_›) (Decidable.not_not.1 ‹_›)))) (.c rfl (.c rfl .n))):SubM _ _) (ho:=(o0 rfl)) ((.of [0,1] rfl):SelR _ _ _)
 ·
  rintro ⟨⟩ -
  try dsimp only
  refine zD rfl (fun hc=> ?_) (fun hc=> ?_)
  ·
   refine ze<|za<|e_p (zb rfl)<|zf<|zc<|zG<|zu ?_
   exact zx Tryz.results64 () trivial (zo rfl) (congrArg Value.bool (decide_eq_false (fun h=>hc ⟨h.1,h.2.1,h.2.2.1⟩))) (ho:=oN) sN
  ·
   have hcc:=Decidable.not_not.1 hc
   have hgl:=Big.zBd (n:=yi s l1) (d:=yi t l2) om
   refine zw<|zc<|ze<|za<|e_p (zj yc rfl sz30 rfl rfl)<|e_ru (zd 0 ty30 rfl rfl (.t2 .nil))<|e_p (zj yc rfl sz30 rfl rfl)<|e_ru (zd 0 ty30 rfl rfl (.s2 (.t2 .nil)))<|zm rfl rfl (.c rfl (.c rfl .n)) ce152 (zLe (s:=s) (p1:=p1) (n1:=n1) (c1:=c1) (l1:=l1) (t:=t) (p2:=p2) (n2:=n2) (c2:=c2) (l2:=l2) (hn1:=ass) (hn2:=ass) (hm1:=by first|rfl|assumption|omega|(rw [yf];omega)|(decide +kernel)) (hm2:=by first|rfl|assumption|omega|(rw [yf];omega)|(decide +kernel))) (.c (j:=0) rfl (.c (j:=1) rfl .n)) ?_
   rintro ⟨p34,c35⟩ -
   dsimp only [aq,nq,cq]
   refine zm rfl rfl (.c rfl .n) ce61 (zcd (z:=1) (hz:=by first|rfl|assumption|omega|(rw [yf];omega)|(decide +kernel))) (.n) ?_
   rintro ⟨p26,c27⟩ -
   dsimp only [aq,nq,cq]
   refine zR rfl rfl (.c rfl (.c rfl .n)) ce151 (zld (x1:=((Nat.gcd (yi s l1).natAbs (yi t l2).natAbs:Nat):Int)) (x2:=1) (p1:=p34) (c1:=c35) (p2:=p26) (c2:=c27) (hb1:=by first|rfl|assumption|omega|(rw [yf];omega)|(decide +kernel)) (hb2:=by first|rfl|assumption|omega|(rw [yf];omega)|(decide +kernel))) (.c (j:=1) rfl (.c (j:=0) rfl .n))<|e_p (zna rfl rfl)<|e_p (zb rfl)<|zf<|zc<|zG ?_
   exact zx Tryz.results64 () trivial (zo rfl) (congrArg Value.bool (decide_eq_decide.2 (Big.qok_sub (x:=((s,l1),(t,l2))) (Decidable.not_not.1 hc)).symm)) (ho:=oN) sN
theorem zxc {u1:Wd} {v1:Wd} {q1:Rat}:Con yd 64 [.agg #[u1.b,u1.l,v1.b,v1.l]] [] [qF true u1 v1 (q1)] (Y:=Unit) (fun y=>True) (fun y=> .bool true) (fun y=>[]) (fun y=>[]):=by
  exact zGf (fun x hx hk h1 h2=>by have h:= @zRc x.1.1 u1.p _ u1.c x.1.2 x.2.1 v1.p _ v1.c x.2.2 rfl rfl h1 h2;rw [decide_eq_true (hk rfl)] at h;exact h)
theorem zke {s:Bool} {p1:Option Addr} {n1:Nat} {c1:Nat} {l1:List Int} {t:Bool} {p2:Option Addr} {n2:Nat} {c2:Nat} {l2:List Int} (hn1:l1.length=n1) (hn2:l2.length=n2) (hm1:n1≤1099511627776) (hm2:n2≤1099511627776):Con yd 63 [.agg #[.bool s,.slice p1 n1 c1,.bool t,.slice p2 n2 c2]] [] [slF (rI .u32) p1 c1 l1,slF (rI .u32) p2 c2 l2] (Y:=Wd×Wd) (fun y=>True) (fun y=> .agg #[y.1.b,y.1.l,y.2.b,y.2.l]) (fun y=>[]) (fun y=>[qF true y.1 y.2 (Big.qv ((s,l1),(t,l2)))]):=by
 refine zk Tryz.func63 rfl rfl rfl (fun c=> ?_)
 show RunC _ _ _ _ _ [(0,.agg #[.bool s,.slice p1 n1 c1,.bool t,.slice p2 n2 c2])] [] [slF (rI .u32) p1 c1 l1,slF (rI .u32) p2 c2 l2]
 refine zP 0 rfl (fun hL0=> ?_)
 refine zOa 0 rfl (fun hE0=> ?_)
 refine zP 1 rfl (fun hL1=> ?_)
 refine zOa 1 rfl (fun hE1=> ?_)
 have hnn1:Big.nn l1:=fun g hg=>(zy.1 (hE0 g hg)).1
 have hnn2:Big.nn l2:=fun g hg=>(zy.1 (hE1 g hg)).1
 have hb1:yp (yi s l1)≤n1:=by have:=Big.zWa (s:=s) hnn1;omega
 have hb2:yp (yi t l2)≤n2:=by have:=Big.zWa (s:=t) hnn2;omega
 refine ze<|za<|zM rfl rfl (zT rfl rfl) (fun b1=> ?_)
 refine zM rfl rfl (zA zr32 rfl) (fun b2=> ?_)
 refine zf<|zc<|ze<|ze<|za<|e_ru (zd 1 ty32 rfl rfl (.t4 .nil))<|zR rfl rfl (.c rfl .n) ce64 (zRc (s:=s) (p1:=p1) (n1:=n1) (c1:=c1) (l1:=l1) (t:=t) (p2:=p2) (n2:=n2) (c2:=c2) (l2:=l2) (hn1:=ass) (hn2:=ass) (hm1:=ass) (hm2:=ass)) (.c (j:=0) rfl (.c (j:=1) rfl .n))<|zf<|zc<|zD rfl (fun hq=> ?_) (fun hq=> ?_)
 ·
  have hrp:=Big.raw_parts (x:=((s,l1),(t,l2))) hnn1 hnn2 hq
  have hqp:=Big.qv_parts (x:=((s,l1),(t,l2))) hq
  have hl:yg (Big.qv ((s,l1),(t,l2)))≤1099511627776:=by unfold yg;rw [hqp.1,hqp.2];dsimp only;omega
  refine ze<|za<|e_ru (zd 1 ty32 rfl rfl (.t4 .nil))<|zl 0 rfl rfl rfl rfl rfl sz32 rfl (.t4 .nil) .z<|zf<|zc<|zG<|zu<|zwb (qF true ⟨s,p1,n1,c1⟩ ⟨t,p2,n2,c2⟩ (Big.qv ((s,l1),(t,l2)))) (fun g r=>qF_rawI 0 1 rfl rfl hn1 hn2 hm1 hm2 hq g r) ?_
  exact zx Tryz.results63 (⟨s,p1,n1,c1⟩,⟨t,p2,n2,c2⟩) trivial (zq 0 ty32 rfl rfl (.t4 .nil)) rfl (ho:=oN) (s0 rfl)
 ·
  have hz:=Big.qv_not (x:=((s,l1),(t,l2))) hq
  refine zw<|zc<|ze<|za<|zm rfl rfl (.c rfl .n) ce48 (zdd (z:=0) (hz:=by first|rfl|assumption|omega|(rw [yf];omega)|(decide +kernel))) (.n) ?_
  rintro ⟨w33,w44⟩ -
  dsimp only [aq,nq,cq]
  refine zl 0 rfl rfl rfl rfl rfl sz32 rfl (.t4 .nil) .z<|zf<|zc<|zG ?_
  exact zx Tryz.results63 (w33,w44) trivial (zq 0 ty32 rfl rfl (.t4 .nil)) rfl (ho:=oN) ((.e (j:=0) rfl (by rw [hz];rfl) .n):SelR _ _ _)
theorem ztb {k1:Bool} {u1:Wd} {v1:Wd} {q1:Rat}:Con yd 63 [.agg #[u1.b,u1.l,v1.b,v1.l]] [] [qF k1 u1 v1 (q1)] (Y:=(Wd)×(Wd)) (fun y=>True) (fun y=> .agg #[y.1.b,y.1.l,y.2.b,y.2.l]) (fun y=>[]) (fun y=>[qF true y.1 y.2 (q1)]):=by
  exact zHf (fun x hx hk h1 h2 hl=>by subst hx;exact zke rfl rfl h1 h2)
theorem zyc {w1:Wd} {w2:Wd} {x1:Int} {x2:Int} (hl1:yp x1≤1099511627776) (hl2:yp x2≤1099511627776) (hd:x2≠0):Con yd 126 [.agg #[w1.b,w1.l],.agg #[w2.b,w2.l]] [] [zF w1 x1,zF w2 x2] (Y:=Wd×Wd) (fun y=>True) (fun y=> .agg #[y.1.b,y.1.l,y.2.b,y.2.l]) (fun y=>[]) (fun y=>[qF true y.1 y.2 (Rat.divInt x1 x2)]):=by
 refine zk Tryz.func126 rfl rfl rfl (fun c=> ?_)
 show RunC _ _ _ _ _ [(0,.agg #[w1.b,w1.l]),(1,.agg #[w2.b,w2.l])] [] [zF w1 x1,zF w2 x2]
 refine ze<|za<|zM rfl rfl (zT rfl rfl) (fun b1=> ?_)
 refine zM rfl rfl (zT rfl rfl) (fun b2=> ?_)
 refine zM rfl rfl (zA zr32 rfl) (fun b3=> ?_)
 refine zf<|zc<|ze<|za<|e_ru (zd 2 ty30 rfl rfl (.t2 .nil))<|e_ru (zd 1 ty30 rfl rfl (.t2 .nil))<|zm rfl rfl (.c rfl (.c rfl .n)) ce152 (zPf (w1:=w1) (w2:=w2) (x1:=x1) (x2:=x2) (hb1:=by first|rfl|assumption|omega|(rw [yf];omega)|(decide +kernel)) (hb2:=by first|rfl|assumption|omega|(rw [yf];omega)|(decide +kernel))) (.c (j:=0) rfl (.c (j:=1) rfl .n)) ?_
 rintro w34 -
 dsimp only [aq,nq,cq]
 refine zM rfl rfl (zA zr30 rfl) (fun b5=> ?_)
 refine zl 0 rfl rfl rfl rfl rfl sz30 rfl (.t2 .nil) .z<|zf<|zc<|ze<|ze<|za<|e_ru (zd 2 ty30 rfl rfl (.t2 .nil))<|zR rfl rfl (.c rfl .n) ce62 (zjc (w1:=w2) (x1:=x2) (hln:=by first|rfl|assumption|omega|(rw [yf];omega)|(decide +kernel))) (.c (j:=2) rfl .n)<|e_p (zY rfl rfl)<|zf<|zc<|zD rfl (fun hneg=> ?_) (fun hneg=> ?_)
 ·
  have hs:x2<0:=by rcases Big.sign_le (x:=x2) with h|h|h <;> omega
  have hgp:=Big.gcd_pos_right (n:=x1) (d:=x2) om
  have hgl:=Big.zBd (n:=x1) (d:=x2) om
  obtain ⟨hr1,hr2⟩:=Big.red_neg (n:=x1) hs
  refine za<|e_ru (zd 0 ty30 rfl rfl (.t2 .nil))<|zm rfl rfl (.c rfl .n) ce83 (zCd (w1:=w34) (x1:=((Nat.gcd x1.natAbs x2.natAbs:Nat):Int)) (hln:=by first|rfl|assumption|omega|(rw [yf];omega)|(decide +kernel))) (.c (j:=0) rfl .n) ?_
  rintro w36 -
  dsimp only [aq,nq,cq]
  refine zl 0 rfl rfl rfl rfl rfl sz30 rfl (.t2 .nil) .z<|zf<|zc<|ze<|za<|e_ru (zd 3 ty30 rfl rfl (.t2 .nil))<|e_ru (zd 0 ty30 rfl rfl (.t2 .nil))<|zm rfl rfl (.c rfl (.c rfl .n)) ce206 (zqb (w1:=w1) (w2:=w36) (x1:=x1) (x2:= - ((Nat.gcd x1.natAbs x2.natAbs:Nat):Int)) (hb1:=by first|rfl|assumption|omega|(rw [yf];omega)|(decide +kernel)) (hb2:=by first|rfl|assumption|omega|(rw [yf];omega)|(decide +kernel)) (hy:=by first|rfl|assumption|omega|(rw [yf];omega)|(decide +kernel))) (.c (j:=2) rfl (.c (j:=0) rfl .n)) ?_
  rintro ⟨w37,w48⟩ -
  dsimp only [aq,nq,cq]
  refine e_mv rfl<|e_p (zn rfl rfl)<|e_p (zn rfl rfl)<|e_p (zn rfl rfl)<|zM rfl rfl (zA zr30 rfl) (fun b9=> ?_)
  refine zM rfl rfl (zA zr30 rfl) (fun b10=> ?_)
  refine zl 1 rfl rfl rfl rfl rfl sz30 rfl (.t2 .nil) (.s .z)<|zl 0 rfl rfl rfl rfl rfl sz30 rfl (.t2 .nil) .z<|e_p (zb rfl)<|zf<|zc<|ze<|za<|e_ru (zd 4 ty30 rfl rfl (.t2 .nil))<|e_ru (zd 2 ty30 rfl rfl (.t2 .nil))<|zm rfl rfl (.c rfl (.c rfl .n)) ce206 (zqb (w1:=w2) (w2:=w36) (x1:=x2) (x2:= - ((Nat.gcd x1.natAbs x2.natAbs:Nat):Int)) (hb1:=by first|rfl|assumption|omega|(rw [yf];omega)|(decide +kernel)) (hb2:=by first|rfl|assumption|omega|(rw [yf];omega)|(decide +kernel)) (hy:=by first|rfl|assumption|omega|(rw [yf];omega)|(decide +kernel))) (.c (j:=5) rfl (.c (j:=2) rfl .n)) ?_
  rintro ⟨w311,w412⟩ -
  dsimp only [aq,nq,cq]
  refine e_mv rfl<|e_p (zn rfl rfl)<|e_p (zn rfl rfl)<|e_p (zn rfl rfl)<|zM rfl rfl (zA zr30 rfl) (fun b13=> ?_)
  refine zM rfl rfl (zA zr30 rfl) (fun b14=> ?_)
  refine zl 1 rfl rfl rfl rfl rfl sz30 rfl (.t2 .nil) (.s .z)<|zl 0 rfl rfl rfl rfl rfl sz30 rfl (.t2 .nil) .z<|e_p (zb rfl)<|zf<|zc<|ze<|za<|e_ru (zd 3 ty30 rfl rfl (.t2 .nil))<|e_ru (zd 1 ty30 rfl rfl (.t2 .nil))<|e_p (zZ zr32 rfl yc (.c sz30 (.c sz30 .n)) (.c rfl (.c rfl .n)) (.c rfl rfl rfl (.t2 .nil) (.c rfl rfl rfl (.s2 (.t2 .nil)) .n)))<|zl 5 rfl rfl rfl rfl rfl sz32 rfl (.t4 .nil) (.s (.s (.s (.s (.s .z)))))<|zf<|zc<|zG<|zwb (qF true w37 w311 (Rat.divInt x1 x2)) (qF_close 2 0 rfl rfl (by exact ⟨hr1,hr2,Nat.le_trans (Big.hq_divInt hd) om⟩)) ?_
  exact zx Tryz.results126 (w37,w311) trivial (zq 5 ty32 rfl rfl (.t4 .nil)) rfl (ho:=oN) (s0 rfl)
 ·
  have hs:0<x2:=by rcases Big.sign_le (x:=x2) with h|h|h <;> omega
  have hgp:=Big.gcd_pos_right (n:=x1) (d:=x2) om
  have hgl:=Big.zBd (n:=x1) (d:=x2) om
  obtain ⟨hr1,hr2⟩:=Big.red_pos (n:=x1) hs
  refine zw<|zc<|ze<|za<|e_ru (zd 3 ty30 rfl rfl (.t2 .nil))<|e_ru (zd 0 ty30 rfl rfl (.t2 .nil))<|zm rfl rfl (.c rfl (.c rfl .n)) ce206 (zqb (w1:=w1) (w2:=w34) (x1:=x1) (x2:=((Nat.gcd x1.natAbs x2.natAbs:Nat):Int)) (hb1:=by first|rfl|assumption|omega|(rw [yf];omega)|(decide +kernel)) (hb2:=by first|rfl|assumption|omega|(rw [yf];omega)|(decide +kernel)) (hy:=by first|rfl|assumption|omega|(rw [yf];omega)|(decide +kernel))) (.c (j:=1) rfl (.c (j:=0) rfl .n)) ?_
  rintro ⟨w315,w416⟩ -
  dsimp only [aq,nq,cq]
  refine e_mv rfl<|e_p (zn rfl rfl)<|e_p (zn rfl rfl)<|e_p (zn rfl rfl)<|zM rfl rfl (zA zr30 rfl) (fun b17=> ?_)
  refine zM rfl rfl (zA zr30 rfl) (fun b18=> ?_)
  refine zl 1 rfl rfl rfl rfl rfl sz30 rfl (.t2 .nil) (.s .z)<|zl 0 rfl rfl rfl rfl rfl sz30 rfl (.t2 .nil) .z<|e_p (zb rfl)<|zf<|zc<|ze<|za<|e_ru (zd 4 ty30 rfl rfl (.t2 .nil))<|e_ru (zd 2 ty30 rfl rfl (.t2 .nil))<|zm rfl rfl (.c rfl (.c rfl .n)) ce206 (zqb (w1:=w2) (w2:=w34) (x1:=x2) (x2:=((Nat.gcd x1.natAbs x2.natAbs:Nat):Int)) (hb1:=by first|rfl|assumption|omega|(rw [yf];omega)|(decide +kernel)) (hb2:=by first|rfl|assumption|omega|(rw [yf];omega)|(decide +kernel)) (hy:=by first|rfl|assumption|omega|(rw [yf];omega)|(decide +kernel))) (.c (j:=4) rfl (.c (j:=2) rfl .n)) ?_
  rintro ⟨w319,w420⟩ -
  dsimp only [aq,nq,cq]
  refine e_mv rfl<|e_p (zn rfl rfl)<|e_p (zn rfl rfl)<|e_p (zn rfl rfl)<|zM rfl rfl (zA zr30 rfl) (fun b21=> ?_)
  refine zM rfl rfl (zA zr30 rfl) (fun b22=> ?_)
  refine zl 1 rfl rfl rfl rfl rfl sz30 rfl (.t2 .nil) (.s .z)<|zl 0 rfl rfl rfl rfl rfl sz30 rfl (.t2 .nil) .z<|e_p (zb rfl)<|zf<|zc<|ze<|za<|e_ru (zd 3 ty30 rfl rfl (.t2 .nil))<|e_ru (zd 1 ty30 rfl rfl (.t2 .nil))<|e_p (zZ zr32 rfl yc (.c sz30 (.c sz30 .n)) (.c rfl (.c rfl .n)) (.c rfl rfl rfl (.t2 .nil) (.c rfl rfl rfl (.s2 (.t2 .nil)) .n)))<|zl 5 rfl rfl rfl rfl rfl sz32 rfl (.t4 .nil) (.s (.s (.s (.s (.s .z)))))<|zf<|zc<|zG<|zwb (qF true w315 w319 (Rat.divInt x1 x2)) (qF_close 2 0 rfl rfl (by exact ⟨hr1,hr2,Nat.le_trans (Big.hq_divInt hd) om⟩)) ?_
  exact zx Tryz.results126 (w315,w319) trivial (zq 5 ty32 rfl rfl (.t4 .nil)) rfl (ho:=oN) (s0 rfl)
theorem zyg {w1:Wd} {w2:Wd} {x1:Int} {x2:Int} (hl1:yp x1≤1099511627776) (hl2:yp x2≤1099511627776):Con yd 60 [.agg #[w1.b,w1.l],.agg #[w2.b,w2.l]] [] [zF w1 x1,zF w2 x2] (Y:=Wd×Wd) (fun y=>True) (fun y=> .tuple #[.agg #[y.1.b,y.1.l,y.2.b,y.2.l],.int .i64 (if x2=0 then 14 else 0)]) (fun y=>[]) (fun y=>[qF (decide (x2≠0)) y.1 y.2 (Rat.divInt x1 x2)]):=by
 refine zk Tryz.func60 rfl rfl rfl (fun c=> ?_)
 show RunC _ _ _ _ _ [(0,.agg #[w1.b,w1.l]),(1,.agg #[w2.b,w2.l])] [] [zF w1 x1,zF w2 x2]
 refine ze<|za<|zM rfl rfl (zT rfl rfl) (fun b1=> ?_)
 refine zM rfl rfl (zT rfl rfl) (fun b2=> ?_)
 refine zM rfl rfl (zA zr32 rfl) (fun b3=> ?_)
 refine e_p (zb rfl)<|zf<|zc<|ze<|ze<|za<|e_ru (zd 1 ty30 rfl rfl (.t2 .nil))<|zR rfl rfl (.c rfl .n) ce62 (zjc (w1:=w2) (x1:=x2) (hln:=by first|rfl|assumption|omega|(rw [yf];omega)|(decide +kernel))) (.c (j:=1) rfl .n)<|e_p (zna rfl rfl)<|zf<|zc<|zD rfl (fun hz0=> ?_) (fun hz0=> ?_)
 ·
  have hx0:x2=0:=Big.sign_zero.1 hz0
  refine ze<|za<|e_p (zZ zr32 rfl yc (.c sz30 (.c sz30 .n)) .n .n)<|zl 0 rfl rfl rfl rfl rfl sz32 rfl (.t4 .nil) .z<|e_p (zb rfl)<|zf<|zc<|zG<|zu<|zwb (qF false wz wz 0) (fun g _=>qF_none g) ?_
  exact zBa Tryz.results60 (wz,wz) trivial (zq 0 ty32 rfl rfl (.t4 .nil)) (zo rfl) (by rw [if_pos hx0];rfl) (ho:=oN) ((.e (j:=0) rfl (by rw [Big.divInt_nil hx0,decide_eq_false (not_not_intro hx0)]) .n):SelR _ _ _)
 ·
  have hx0:x2≠0:=fun e=>hz0 (Big.sign_zero.2 e)
  refine zw<|zc<|ze<|za<|e_ru (zd 2 ty30 rfl rfl (.t2 .nil))<|e_ru (zd 1 ty30 rfl rfl (.t2 .nil))<|zm rfl rfl (.c rfl (.c rfl .n)) ce126 (zyc (w1:=w1) (w2:=w2) (x1:=x1) (x2:=x2) (hl1:=ass) (hl2:=ass) (hd:=by first|rfl|assumption|omega|(rw [yf];omega)|(decide +kernel))) (.c (j:=0) rfl (.c (j:=1) rfl .n)) ?_
  rintro ⟨w34,w45⟩ -
  dsimp only [aq,nq,cq]
  refine zl 0 rfl rfl rfl rfl rfl sz32 rfl (.t4 .nil) .z<|e_p (zb rfl)<|zf<|zc<|zG ?_
  exact zBa Tryz.results60 (w34,w45) trivial (zq 0 ty32 rfl rfl (.t4 .nil)) (zo rfl) (by rw [if_neg hx0]) (ho:=oN) ((.e (j:=0) rfl (by rw [decide_eq_true hx0]) .n):SelR _ _ _)
theorem zzg {z1:Int} {z2:Int} (hz1: -9223372036854775808≤z1∧z1≤9223372036854775807) (hz2: -9223372036854775808≤z2∧z2≤9223372036854775807):Con yd 11 [.int .i64 z1,.int .i64 z2] [] [] (Y:=Wd×Wd) (fun y=>True) (fun y=> .tuple #[.agg #[y.1.b,y.1.l,y.2.b,y.2.l],.int .i64 (if z2=0 then 14 else 0)]) (fun y=>[]) (fun y=>[qF (decide (z2≠0)) y.1 y.2 (Rat.divInt z1 z2)]):=by
 refine zk Tryz.func11 rfl rfl rfl (fun c=> ?_)
 show RunC _ _ _ _ _ [(0,.int .i64 z1),(1,.int .i64 z2)] [] []
 have g1:=Big.zTe hz1.1 hz1.2
 have g2:=Big.zTe hz2.1 hz2.2
 refine ze<|za<|zM rfl rfl (zA zr32 rfl) (fun b1=> ?_)
 refine e_p (zb rfl)<|zf<|zc<|ze<|za<|e_mv rfl<|zm rfl rfl (.c rfl .n) ce61 (zEb (z:=z1) (hz:=ass)) (.n) ?_
 rintro w33 -
 dsimp only [aq,nq,cq]
 refine e_mv rfl<|zm rfl rfl (.c rfl .n) ce61 (zEb (z:=z2) (hz:=ass)) (.n) ?_
 rintro w34 -
 dsimp only [aq,nq,cq]
 refine zm rfl rfl (.c rfl (.c rfl .n)) ce60 (zyg (w1:=w33) (w2:=w34) (x1:=z1) (x2:=z2) (hl1:=by first|rfl|assumption|omega|(rw [yf];omega)|(decide +kernel)) (hl2:=by first|rfl|assumption|omega|(rw [yf];omega)|(decide +kernel))) (.c (j:=1) rfl (.c (j:=0) rfl .n)) ?_
 rintro ⟨w35,w46⟩ -
 dsimp only [aq,nq,cq]
 refine e_p (zn rfl rfl)<|e_p (zn rfl rfl)<|zl 0 rfl rfl rfl rfl rfl sz32 rfl (.t4 .nil) .z<|e_p (zb rfl)<|zf<|zc<|zG ?_
 exact zBa Tryz.results11 (w35,w46) trivial (zq 0 ty32 rfl rfl (.t4 .nil)) (zo rfl) rfl (ho:=oN) (s0 rfl)
theorem zfd {z1:Int} {z2:Int} (hz1: -9223372036854775808≤z1∧z1≤9223372036854775807) (hz2: -9223372036854775808≤z2∧z2≤9223372036854775807) (hy:z2≠0):Con yd 11 [.int .i64 (z1),.int .i64 (z2)] [] [] (Y:=(Wd)×(Wd)) (fun y=>True) (fun y=> .tuple #[.agg #[y.1.b,y.1.l,y.2.b,y.2.l],.int .i64 (0)]) (fun y=>[]) (fun y=>[qF true y.1 y.2 (Rat.divInt z1 z2)]):=by
  have h:=zzg hz1 hz2
  rw [if_neg hy,decide_eq_true hy] at h
  exact h
theorem zgd {k1:Bool} {u1:Wd} {v1:Wd} {q1:Rat} (hl:yg q1≤1099511627776):Con yd 12 [.agg #[u1.b,u1.l,v1.b,v1.l]] [] [qF k1 u1 v1 q1] (Y:=Unit) (fun y=>True) (fun y=> .int .i64 (Big.sgq q1)) (fun y=>[]) (fun y=>[]):=by
 refine zk Tryz.func12 rfl rfl rfl (fun c=> ?_)
 show RunC _ _ _ _ _ [(0,.agg #[u1.b,u1.l,v1.b,v1.l])] [] [qF k1 u1 v1 q1]
 have a1:=yl q1
 have a2:=ym q1
 refine ze<|za<|zM rfl rfl (zT rfl rfl) (fun b1=> ?_)
 refine e_p (zb rfl)<|zf<|zc<|ze<|za<|e_ru (zd 0 ty32 rfl rfl (.t4 .nil))<|zm rfl rfl (.c rfl .n) ce63 (ztb (k1:=k1) (u1:=u1) (v1:=v1) (q1:=q1)) (.c (j:=0) rfl .n) ?_
 rintro ⟨w33,w44⟩ -
 dsimp only [aq,nq,cq]
 refine e_p (zqc yc rfl ty30 rfl (.t2 .nil))<|zUb (qF_open 0 rfl) (fun _ _=> ?_)
 refine zR rfl rfl (.c rfl .n) ce62 (zjc (w1:=w33) (x1:=(q1).num) (hln:=by first|rfl|assumption|omega|(rw [yf];omega)|(decide +kernel))) (.c (j:=0) rfl .n)<|e_p (zb rfl)<|zf<|zc<|zG ?_
 exact zx Tryz.results12 () trivial (zo rfl) rfl (ho:=oN) sN
theorem zNd {k1:Bool} {u1:Wd} {v1:Wd} {q1:Rat} (hl:yg q1≤1099511627776):Con yd 25 [.agg #[u1.b,u1.l,v1.b,v1.l]] [] [qF k1 u1 v1 q1] (Y:=Wd×Wd) (fun y=>True) (fun y=> .agg #[y.1.b,y.1.l,y.2.b,y.2.l]) (fun y=>[]) (fun y=>[qF true y.1 y.2 (- q1)]):=by
 refine zk Tryz.func25 rfl rfl rfl (fun c=> ?_)
 show RunC _ _ _ _ _ [(0,.agg #[u1.b,u1.l,v1.b,v1.l])] [] [qF k1 u1 v1 q1]
 have a1:=yl q1
 have a2:=ym q1
 refine ze<|za<|zM rfl rfl (zT rfl rfl) (fun b1=> ?_)
 refine zM rfl rfl (zA zr32 rfl) (fun b2=> ?_)
 refine zf<|zc<|ze<|za<|e_ru (zd 1 ty32 rfl rfl (.t4 .nil))<|zm rfl rfl (.c rfl .n) ce63 (ztb (k1:=k1) (u1:=u1) (v1:=v1) (q1:=q1)) (.c (j:=0) rfl .n) ?_
 rintro ⟨w33,w44⟩ -
 dsimp only [aq,nq,cq]
 refine zM rfl rfl (zA zr32 rfl) (fun b5=> ?_)
 refine zl 0 rfl rfl rfl rfl rfl sz32 rfl (.t4 .nil) .z<|zf<|zc<|ze<|zpa (.c (i:=1) rfl (.c (i:=0) rfl (.c (i:=0) rfl .n)))<|zW (OW:=[boxA b2 32 (cw [wz,wz])]) (O:=[boxA b5 32 (cw [w33,w44]),boxA b1 32 (cw [u1,v1])]) 6 mixed (.then .ret) kr<|e_pv 0 rfl rfl (zj yc rfl sz30 rfl rfl)<|e_uw 1 rfl rfl (zd 1 ty30 rfl rfl (.t2 .nil))<|e_pv 3 rfl rfl (zj yc rfl sz30 rfl rfl)<|e_uw 4 rfl rfl (zd 1 ty30 rfl rfl (.s2 (.t2 .nil)))<|zGb (qF_open 0 rfl) (fun _ _=> ?_)
 refine e_one 2 (zB rfl rfl rfl rfl (.c rfl .n) ce83 (zCd (w1:=w33) (x1:=(q1).num) (hln:=by first|rfl|assumption|omega|(rw [yf];omega)|(decide +kernel))) (.c (j:=0) rfl .n) ?_)
 rintro w36 -
 dsimp only [aq,nq,cq]
 refine e_pv 5 rfl rfl (zZ zr32 rfl yc (.c sz30 (.c sz30 .n)) (.c rfl (.c rfl .n)) (.c rfl rfl rfl (.t2 .nil) (.c rfl rfl rfl (.s2 (.t2 .nil)) .n)))<|e_one 6 (zC kr rfl rfl rfl rfl rfl sz32 rfl (.t4 .nil) ?_)
 refine zU kr<|zc<|zG<|zwb (qF true w36 w44 (- q1)) (qF_close 0 2 rfl rfl (by exact ⟨(Rat.neg_num q1).symm,by rw [Rat.neg_den],by rw [Big.hq_neg];exact hl⟩)) ?_
 exact zx Tryz.results25 (w36,w44) trivial (zq 0 ty32 rfl rfl (.t4 .nil)) rfl (ho:=oN) (s0 rfl)
theorem zTf {k1:Bool} {u1:Wd} {v1:Wd} {q1:Rat} {k2:Bool} {u2:Wd} {v2:Wd} {q2:Rat} (hl:yg q1+yg q2+1≤1099511627776):Con yd 69 [.agg #[u1.b,u1.l,v1.b,v1.l],.agg #[u2.b,u2.l,v2.b,v2.l]] [] [qF k1 u1 v1 q1,qF k2 u2 v2 q2] (Y:=Wd×Wd) (fun y=>True) (fun y=> .agg #[y.1.b,y.1.l,y.2.b,y.2.l]) (fun y=>[]) (fun y=>[qF true y.1 y.2 (q1+q2)]):=by
 refine zk Tryz.func69 rfl rfl rfl (fun c=> ?_)
 show RunC _ _ _ _ _ [(0,.agg #[u1.b,u1.l,v1.b,v1.l]),(1,.agg #[u2.b,u2.l,v2.b,v2.l])] [] [qF k1 u1 v1 q1,qF k2 u2 v2 q2]
 have a1:=yl q1
 have a2:=ym q1
 have a3:=yl q2
 have a4:=ym q2
 have b1:=Big.zta q1.num q2.den
 have b2:=Big.zta q2.num q1.den
 have b3:=Big.zvc (q1.num*q2.den) (q2.num*q1.den)
 have b4:=Big.zta (q1.den:Int) q2.den
 have b5:=Big.zta q1.num q2.num
 refine ze<|za<|zM rfl rfl (zT rfl rfl) (fun b1=> ?_)
 refine zM rfl rfl (zT rfl rfl) (fun b2=> ?_)
 refine zM rfl rfl (zA zr32 rfl) (fun b3=> ?_)
 refine zf<|zc<|ze<|za<|e_ru (zd 2 ty32 rfl rfl (.t4 .nil))<|zm rfl rfl (.c rfl .n) ce63 (ztb (k1:=k1) (u1:=u1) (v1:=v1) (q1:=q1)) (.c (j:=0) rfl .n) ?_
 rintro ⟨w34,w45⟩ -
 dsimp only [aq,nq,cq]
 refine zM rfl rfl (zA zr32 rfl) (fun b6=> ?_)
 refine zl 0 rfl rfl rfl rfl rfl sz32 rfl (.t4 .nil) .z<|zf<|zc<|ze<|za<|e_ru (zd 2 ty32 rfl rfl (.t4 .nil))<|zm rfl rfl (.c rfl .n) ce63 (ztb (k1:=k2) (u1:=u2) (v1:=v2) (q1:=q2)) (.c (j:=2) rfl .n) ?_
 rintro ⟨w37,w48⟩ -
 dsimp only [aq,nq,cq]
 refine zM rfl rfl (zA zr32 rfl) (fun b9=> ?_)
 refine zl 0 rfl rfl rfl rfl rfl sz32 rfl (.t4 .nil) .z<|zf<|zc<|ze<|zpa (.c (i:=2) rfl (.c (i:=0) rfl (.c (i:=0) rfl (.c (i:=0) rfl (.c (i:=0) rfl .n)))))<|zW (OW:=[boxA b3 32 (cw [wz,wz])]) (O:=[boxA b9 32 (cw [w37,w48]),boxA b6 32 (cw [w34,w45]),boxA b2 32 (cw [u2,v2]),boxA b1 32 (cw [u1,v1])]) 17 mixed (.then .ret) kr<|e_pv 0 rfl rfl (zj yc rfl sz30 rfl rfl)<|e_uw 1 rfl rfl (zd 2 ty30 rfl rfl (.t2 .nil))<|e_pv 2 rfl rfl (zj yc rfl sz30 rfl rfl)<|e_uw 3 rfl rfl (zd 1 ty30 rfl rfl (.s2 (.t2 .nil)))<|e_pv 5 rfl rfl (zj yc rfl sz30 rfl rfl)<|e_uw 6 rfl rfl (zd 1 ty30 rfl rfl (.t2 .nil))<|e_pv 7 rfl rfl (zj yc rfl sz30 rfl rfl)<|e_uw 8 rfl rfl (zd 2 ty30 rfl rfl (.s2 (.t2 .nil)))<|e_pv 11 rfl rfl (zj yc rfl sz30 rfl rfl)<|e_uw 12 rfl rfl (zd 2 ty30 rfl rfl (.s2 (.t2 .nil)))<|e_pv 13 rfl rfl (zj yc rfl sz30 rfl rfl)<|e_uw 14 rfl rfl (zd 1 ty30 rfl rfl (.s2 (.t2 .nil)))<|zGb (qF_open 1 rfl) (fun _ _=> ?_)
 refine zGb (qF_open 2 rfl) (fun _ _=> ?_)
 refine e_one 4 (zB rfl rfl rfl rfl (.c rfl (.c rfl .n)) ce127 (zMc (w1:=w34) (w2:=w48) (x1:=(q1).num) (x2:=(((q2).den:Nat):Int)) (hb1:=by first|rfl|assumption|omega|(rw [yf];omega)|(decide +kernel)) (hb2:=by first|rfl|assumption|omega|(rw [yf];omega)|(decide +kernel))) (.c (j:=2) rfl (.c (j:=1) rfl .n)) ?_)
 rintro w310 -
 dsimp only [aq,nq,cq]
 refine e_one 9 (zB rfl rfl rfl rfl (.c rfl (.c rfl .n)) ce127 (zMc (w1:=w37) (w2:=w45) (x1:=(q2).num) (x2:=(((q1).den:Nat):Int)) (hb1:=by first|rfl|assumption|omega|(rw [yf];omega)|(decide +kernel)) (hb2:=by first|rfl|assumption|omega|(rw [yf];omega)|(decide +kernel))) (.c (j:=1) rfl (.c (j:=4) rfl .n)) ?_)
 rintro w311 -
 dsimp only [aq,nq,cq]
 refine e_one 10 (zB rfl rfl rfl rfl (.c rfl (.c rfl .n)) ce158 (zNf (w1:=w310) (w2:=w311) (x1:=((q1).num)*(((q2).den:Nat):Int)) (x2:=((q2).num)*(((q1).den:Nat):Int)) (hb1:=by first|rfl|assumption|omega|(rw [yf];omega)|(decide +kernel)) (hb2:=by first|rfl|assumption|omega|(rw [yf];omega)|(decide +kernel))) (.c (j:=1) rfl (.c (j:=0) rfl .n)) ?_)
 rintro w312 -
 dsimp only [aq,nq,cq]
 refine e_one 15 (zB rfl rfl rfl rfl (.c rfl (.c rfl .n)) ce127 (zMc (w1:=w45) (w2:=w48) (x1:=(((q1).den:Nat):Int)) (x2:=(((q2).den:Nat):Int)) (hb1:=by first|rfl|assumption|omega|(rw [yf];omega)|(decide +kernel)) (hb2:=by first|rfl|assumption|omega|(rw [yf];omega)|(decide +kernel))) (.c (j:=6) rfl (.c (j:=4) rfl .n)) ?_)
 rintro w313 -
 dsimp only [aq,nq,cq]
 refine e_one 16 (zB rfl rfl rfl rfl (.c rfl (.c rfl .n)) ce126 (zyc (w1:=w312) (w2:=w313) (x1:=(((q1).num)*(((q2).den:Nat):Int))+(((q2).num)*(((q1).den:Nat):Int))) (x2:=(((q1).den:Nat):Int)*(((q2).den:Nat):Int)) (hl1:=by first|rfl|assumption|omega|(rw [yf];omega)|(decide +kernel)) (hl2:=by first|rfl|assumption|omega|(rw [yf];omega)|(decide +kernel)) (hd:=by exact Int.mul_ne_zero (Big.den_ne q1) (Big.den_ne q2))) (.c (j:=1) rfl (.c (j:=0) rfl .n)) ?_)
 rintro ⟨w314,w415⟩ -
 dsimp only [aq,nq,cq]
 refine e_one 17 (zC kr rfl rfl rfl rfl rfl sz32 rfl (.t4 .nil) ?_)
 refine zU kr<|zc<|zG ?_
 exact zx Tryz.results69 (w314,w415) trivial (zq 0 ty32 rfl rfl (.t4 .nil)) rfl (ho:=oN) ((.e (j:=0) rfl (by rw [Big.add_parts]) .n):SelR _ _ _)
theorem zUf {k1:Bool} {u1:Wd} {v1:Wd} {q1:Rat} {k2:Bool} {u2:Wd} {v2:Wd} {q2:Rat} (hl:yg q1+yg q2+1≤1099511627776):Con yd 17 [.agg #[u1.b,u1.l,v1.b,v1.l],.agg #[u2.b,u2.l,v2.b,v2.l]] [] [qF k1 u1 v1 q1,qF k2 u2 v2 q2] (Y:=Wd×Wd) (fun y=>True) (fun y=> .agg #[y.1.b,y.1.l,y.2.b,y.2.l]) (fun y=>[]) (fun y=>[qF true y.1 y.2 (q1 - q2)]):=by
 refine zk Tryz.func17 rfl rfl rfl (fun c=> ?_)
 show RunC _ _ _ _ _ [(0,.agg #[u1.b,u1.l,v1.b,v1.l]),(1,.agg #[u2.b,u2.l,v2.b,v2.l])] [] [qF k1 u1 v1 q1,qF k2 u2 v2 q2]
 have a1:=yl q1
 have a2:=ym q1
 have a3:=yl q2
 have a4:=ym q2
 refine ze<|za<|zM rfl rfl (zT rfl rfl) (fun b1=> ?_)
 refine zM rfl rfl (zT rfl rfl) (fun b2=> ?_)
 refine zM rfl rfl (zA zr32 rfl) (fun b3=> ?_)
 refine zf<|zc<|ze<|zW (OW:=[boxA b3 32 (cw [wz,wz])]) (O:=[boxA b2 32 (cw [u2,v2]),boxA b1 32 (cw [u1,v1])]) 4 mixed (.then .ret) kr<|e_uw 0 rfl rfl (zd 2 ty32 rfl rfl (.t4 .nil))<|e_uw 1 rfl rfl (zd 1 ty32 rfl rfl (.t4 .nil))<|e_one 2 (zB rfl rfl rfl rfl (.c rfl .n) ce25 (zNd (k1:=k2) (u1:=u2) (v1:=v2) (q1:=q2) (hl:=by first|rfl|assumption|omega|(rw [yf];omega)|(decide +kernel)|(rw [Big.hq_neg];omega))) (.c (j:=1) rfl .n) ?_)
 rintro ⟨w34,w45⟩ -
 dsimp only [aq,nq,cq]
 refine e_one 3 (zB rfl rfl rfl rfl (.c rfl (.c rfl .n)) ce69 (zTf (k1:=k1) (u1:=u1) (v1:=v1) (q1:=q1) (k2:=true) (u2:=w34) (v2:=w45) (q2:= - q2) (hl:=by first|rfl|assumption|omega|(rw [yf];omega)|(decide +kernel)|(rw [Big.hq_neg];omega))) (.c (j:=1) rfl (.c (j:=0) rfl .n)) ?_)
 rintro ⟨w36,w47⟩ -
 dsimp only [aq,nq,cq]
 refine e_one 4 (zC kr rfl rfl rfl rfl rfl sz32 rfl (.t4 .nil) ?_)
 refine zU kr<|zc<|zG ?_
 exact zx Tryz.results17 (w36,w47) trivial (zq 0 ty32 rfl rfl (.t4 .nil)) rfl (ho:=oN) ((.e (j:=0) rfl (by rw [Rat.sub_eq_add_neg]) .n):SelR _ _ _)
theorem zrd {k1:Bool} {u1:Wd} {v1:Wd} {q1:Rat} {k2:Bool} {u2:Wd} {v2:Wd} {q2:Rat} (hl:yg q1+yg q2+1≤1099511627776):Con yd 14 [.agg #[u1.b,u1.l,v1.b,v1.l],.agg #[u2.b,u2.l,v2.b,v2.l]] [] [qF k1 u1 v1 q1,qF k2 u2 v2 q2] (Y:=Unit) (fun y=>True) (fun y=> .int .i64 (Big.sgq (q1 - q2))) (fun y=>[]) (fun y=>[]):=by
 refine zk Tryz.func14 rfl rfl rfl (fun c=> ?_)
 show RunC _ _ _ _ _ [(0,.agg #[u1.b,u1.l,v1.b,v1.l]),(1,.agg #[u2.b,u2.l,v2.b,v2.l])] [] [qF k1 u1 v1 q1,qF k2 u2 v2 q2]
 have hsb:=Big.hq_sub q1 q2
 refine ze<|za<|zM rfl rfl (zT rfl rfl) (fun b1=> ?_)
 refine zM rfl rfl (zT rfl rfl) (fun b2=> ?_)
 refine e_p (zb rfl)<|zf<|zc<|ze<|za<|e_ru (zd 1 ty32 rfl rfl (.t4 .nil))<|e_ru (zd 0 ty32 rfl rfl (.t4 .nil))<|zm rfl rfl (.c rfl (.c rfl .n)) ce17 (zUf (k1:=k1) (u1:=u1) (v1:=v1) (q1:=q1) (k2:=k2) (u2:=u2) (v2:=v2) (q2:=q2) (hl:=ass)) (.c (j:=0) rfl (.c (j:=1) rfl .n)) ?_
 rintro ⟨w33,w44⟩ -
 dsimp only [aq,nq,cq]
 refine zR rfl rfl (.c rfl .n) ce12 (zgd (k1:=true) (u1:=w33) (v1:=w44) (q1:=q1 - q2) (hl:=by first|rfl|assumption|omega|(rw [yf];omega)|(decide +kernel))) (.c (j:=0) rfl .n)<|e_p (zb rfl)<|zf<|zc<|zG ?_
 exact zx Tryz.results14 () trivial (zo rfl) rfl (ho:=oN) sN
theorem zaf {u1:Wd} {v1:Wd} {q1:Rat} {u2:Wd} {v2:Wd} {q2:Rat} (hl:yg q1+yg q2+1≤1099511627776):Con yd 13 [.agg #[u1.b,u1.l,v1.b,v1.l],.agg #[u2.b,u2.l,v2.b,v2.l]] [] [qF true u1 v1 q1,qF true u2 v2 q2] (Y:=Unit) (fun y=>True) (fun y=> .bool (decide (q1=q2))) (fun y=>[]) (fun y=>[]):=by
 refine zk Tryz.func13 rfl rfl rfl (fun c=> ?_)
 show RunC _ _ _ _ _ [(0,.agg #[u1.b,u1.l,v1.b,v1.l]),(1,.agg #[u2.b,u2.l,v2.b,v2.l])] [] [qF true u1 v1 q1,qF true u2 v2 q2]
 refine ze<|za<|zM rfl rfl (zT rfl rfl) (fun b1=> ?_)
 refine zM rfl rfl (zT rfl rfl) (fun b2=> ?_)
 refine e_p (zb rfl)<|zf<|zc<|zab (X:=Unit) (fun x=>True) (fun x=>[(4,.bool (decide (Big.sgq (q1 - q2)=0)))]) (fun x=>[boxA b2 32 (cw [u2,v2]),boxA b1 32 (cw [u1,v1])]) (fun x=>[qF true u1 v1 q1,qF true u2 v2 q2]) ?_ ?_
 ·
  refine za<|e_ru (zd 1 ty32 rfl rfl (.t4 .nil))<|zR rfl rfl (.c rfl .n) ce64 (zxc (u1:=u1) (v1:=v1) (q1:=q1)) (.c (j:=0) rfl .n)<|e_mv rfl<|e_ru (zd 0 ty32 rfl rfl (.t4 .nil))<|zR rfl rfl (.c rfl .n) ce64 (zxc (u1:=u2) (v1:=v2) (q1:=q2)) (.c (j:=1) rfl .n)<|e_p (zE rfl rfl)<|e_mv rfl<|e_ru (zd 1 ty32 rfl rfl (.t4 .nil))<|e_ru (zd 0 ty32 rfl rfl (.t4 .nil))<|zR rfl rfl (.c rfl (.c rfl .n)) ce14 (zrd (k1:=true) (u1:=u1) (v1:=v1) (q1:=q1) (k2:=true) (u2:=u2) (v2:=v2) (q2:=q2) (hl:=ass)) (.c (j:=0) rfl (.c (j:=1) rfl .n))<|e_p (zna rfl rfl)<|e_p (zE rfl rfl)<|e_p (zb rfl)<|zf ?_
  exact zla () tt9 ((.c rfl .n):SubM _ _) (ho:=((.of [0,0] rfl):PickO _ _ _)) ((.of [0,1] rfl):SelR _ _ _)
 ·
  rintro ⟨⟩ -
  try dsimp only [cw]
  refine zG ?_
  exact zx Tryz.results13 () trivial (zo rfl) (congrArg Value.bool (decide_eq_decide.2 Big.sgq_sub_zero.symm)) (ho:=oN) sN
theorem zlb {u1:Wd} {v1:Wd} {q1:Rat} {u2:Wd} {v2:Wd} {q2:Rat} (hl:yg q1+yg q2+1≤1099511627776):Con yd 22 [.agg #[u1.b,u1.l,v1.b,v1.l],.agg #[u2.b,u2.l,v2.b,v2.l]] [] [qF true u1 v1 q1,qF true u2 v2 q2] (Y:=Unit) (fun y=>True) (fun y=> .bool (decide (q1=q2))) (fun y=>[]) (fun y=>[]):=by
 refine zk Tryz.func22 rfl rfl rfl (fun c=> ?_)
 show RunC _ _ _ _ _ [(0,.agg #[u1.b,u1.l,v1.b,v1.l]),(1,.agg #[u2.b,u2.l,v2.b,v2.l])] [] [qF true u1 v1 q1,qF true u2 v2 q2]
 refine ze<|za<|zM rfl rfl (zT rfl rfl) (fun b1=> ?_)
 refine zM rfl rfl (zT rfl rfl) (fun b2=> ?_)
 refine e_p (zb rfl)<|zf<|zc<|ze<|za<|e_ru (zd 1 ty32 rfl rfl (.t4 .nil))<|e_ru (zd 0 ty32 rfl rfl (.t4 .nil))<|zR rfl rfl (.c rfl (.c rfl .n)) ce13 (zaf (u1:=u1) (v1:=v1) (q1:=q1) (u2:=u2) (v2:=v2) (q2:=q2) (hl:=ass)) (.c (j:=0) rfl (.c (j:=1) rfl .n))<|e_p (zb rfl)<|zf<|zc<|zG ?_
 exact zx Tryz.results22 () trivial (zo rfl) rfl (ho:=oN) sN
end Go.Proofs.YtpdbimfnhglhpaaGreat.Sp
namespace Go.Proofs.YtpdbimfnhglhpaaGreat.Sp
open Go
set_option linter.unusedVariables false
set_option maxRecDepth 100000
set_option maxHeartbeats 8000000
theorem zeh {s:Bool} {p:Option Addr} {n:Nat} {cap:Nat} {l:List Int} (hn:l.length=n) (hln:yp (yi s l)≤4398046511104):Con yd 235 [.agg #[.bool s,.slice p n cap]] [] [slF (rI .u32) p cap l] (Y:=(Option Addr)×Nat) (fun y=>True) (fun y=> .agg #[.bool (decide ((((yi s l).natAbs:Nat):Int)<0)),.slice (y.1) ((yk ((((yi s l).natAbs:Nat):Int).natAbs)).length) (y.2)]) (fun y=>[]) (fun y=>[slF (rI .u32) (y.1) (y.2) (yk ((((yi s l).natAbs:Nat):Int).natAbs))]):=by
 refine zk Tryz.func235 rfl rfl rfl (fun c=> ?_)
 show RunC _ _ _ _ _ [(0,.agg #[.bool s,.slice p n cap])] [] [slF (rI .u32) p cap l]
 refine zP 0 rfl (fun hL0=> ?_)
 refine zOa 0 rfl (fun hE0=> ?_)
 have hnn:Big.nn l:=fun g hg=>(zy.1 (hE0 g hg)).1
 unfold yp at hln
 refine ze<|za<|zM rfl rfl (zT rfl rfl) (fun b1=> ?_)
 refine zM rfl rfl (zA zr30 rfl) (fun b2=> ?_)
 refine zf<|zc<|ze<|za<|e_ru (zd 1 ty30 rfl rfl (.t2 .nil))<|zm rfl rfl (.c rfl .n) ce155 (zLa (s:=s) (p:=p) (n:=n) (cap:=cap) (l:=l) (hn:=ass)) (.c (j:=0) rfl .n) ?_
 rintro ⟨p23,c24⟩ -
 dsimp only [aq,nq,cq]
 refine zm rfl rfl (.c rfl .n) ce213 (zzc (a:=(yi s l).natAbs) (p:=p23) (cap:=c24) (hb:=cbb)) (.c (j:=0) rfl .n) ?_
 rintro ⟨p25,c26⟩ -
 dsimp only [aq,nq,cq]
 refine zm rfl rfl (.c rfl (.c rfl .n)) ce208 (zza (s:=false) (a:=((yi s l).natAbs)) (p:=p25) (cap:=c26)) (.c (j:=0) rfl .n) ?_
 rintro ⟨p27,c28⟩ -
 dsimp only [aq,nq,cq]
 refine zl 0 rfl rfl rfl rfl rfl sz30 rfl (.t2 .nil) .z<|zf<|zc<|zG ?_
 have hz:Big.sg false ((yi s l).natAbs:Int)=(((yi s l).natAbs:Nat):Int):=rfl
 exact zx Tryz.results235 (p27,c28) trivial (zq 0 ty30 rfl rfl (.t2 .nil)) (by rw [hz]) (ho:=oN) ((.e (j:=0) rfl (by rw [hz]) .n):SelR _ _ _)
theorem zAg {z:Int} {p:Option Addr} {cap:Nat} (hln:yp z≤4398046511104):Con yd 235 [.agg #[.bool (decide ((z)<0)),.slice (p) ((yk ((z).natAbs)).length) (cap)]] [] [slF (rI .u32) (p) (cap) (yk ((z).natAbs))] (Y:=(Option Addr)×(Nat)) (fun y=>True) (fun y=> .agg #[.bool (decide ((((z.natAbs:Nat):Int))<0)),.slice (y.1) ((yk ((((z.natAbs:Nat):Int)).natAbs)).length) (y.2)]) (fun y=>[]) (fun y=>[slF (rI .u32) (y.1) (y.2) (yk ((((z.natAbs:Nat):Int)).natAbs))]):=by
  have h:= @zeh (decide ((z)<0)) p (yk (z).natAbs).length cap (yk (z).natAbs) rfl (by rw [Big.raw_big];exact hln)
  rw [Big.raw_big] at h
  exact h
theorem zBg {w1:Wd} {x1:Int} (hln:yp x1≤4398046511104):Con yd 235 [.agg #[w1.b,w1.l]] [] [zF w1 (x1)] (Y:=(Wd)) (fun y=>True) (fun y=> .agg #[y.b,y.l]) (fun y=>[]) (fun y=>[zF y (((x1.natAbs:Nat):Int))]):=by
  exact zIb (zYc (fun p c=>zAg hln))
end Go.Proofs.YtpdbimfnhglhpaaGreat.Sp
namespace Go.Proofs.YtpdbimfnhglhpaaGreat.Sp
open Go
set_option linter.unusedVariables false
set_option maxRecDepth 100000
set_option maxHeartbeats 8000000
theorem zCg {k1:Bool} {u1:Wd} {v1:Wd} {q1:Rat} (hl:yg q1≤1099511627776):Con yd 178 [.agg #[u1.b,u1.l,v1.b,v1.l]] [] [qF k1 u1 v1 q1] (Y:=Wd×Wd) (fun y=>True) (fun y=> .agg #[y.1.b,y.1.l,y.2.b,y.2.l]) (fun y=>[]) (fun y=>[qF true y.1 y.2 (Big.qabs q1)]):=by
 refine zk Tryz.func178 rfl rfl rfl (fun c=> ?_)
 show RunC _ _ _ _ _ [(0,.agg #[u1.b,u1.l,v1.b,v1.l])] [] [qF k1 u1 v1 q1]
 have a1:=yl q1
 have a2:=ym q1
 refine ze<|za<|zM rfl rfl (zT rfl rfl) (fun b1=> ?_)
 refine zM rfl rfl (zA zr32 rfl) (fun b2=> ?_)
 refine zf<|zc<|ze<|za<|e_ru (zd 1 ty32 rfl rfl (.t4 .nil))<|zm rfl rfl (.c rfl .n) ce85 (zva (k1:=k1) (u1:=u1) (v1:=v1) (q1:=q1)) (.c (j:=0) rfl .n) ?_
 rintro ⟨w33,w44⟩ -
 dsimp only [aq,nq,cq]
 refine zl 1 rfl rfl rfl rfl rfl sz32 rfl (.t4 .nil) (.s .z)<|zf<|zc<|ze<|zW (OW:=[boxA b2 32 (cw [wz,wz])]) (O:=[boxA b1 32 (cw [w33,w44])]) 6 mixed (.then .ret) kr<|e_pv 0 rfl rfl (zj yc rfl sz30 rfl rfl)<|e_uw 1 rfl rfl (zd 1 ty30 rfl rfl (.t2 .nil))<|e_pv 3 rfl rfl (zj yc rfl sz30 rfl rfl)<|e_uw 4 rfl rfl (zd 1 ty30 rfl rfl (.s2 (.t2 .nil)))<|zGb (qF_open 0 rfl) (fun _ _=> ?_)
 refine e_one 2 (zB rfl rfl rfl rfl (.c rfl .n) ce235 (zBg (w1:=w33) (x1:=(q1).num) (hln:=by first|rfl|assumption|omega|(rw [yf];omega)|(decide +kernel))) (.c (j:=0) rfl .n) ?_)
 rintro w35 -
 dsimp only [aq,nq,cq]
 refine e_pv 5 rfl rfl (zZ zr32 rfl yc (.c sz30 (.c sz30 .n)) (.c rfl (.c rfl .n)) (.c rfl rfl rfl (.t2 .nil) (.c rfl rfl rfl (.s2 (.t2 .nil)) .n)))<|e_one 6 (zC kr rfl rfl rfl rfl rfl sz32 rfl (.t4 .nil) ?_)
 refine zU kr<|zc<|zG<|zwb (qF true w35 w44 (Big.qabs q1)) (qF_close 0 2 rfl rfl (by exact ⟨(Big.qabs_num q1).symm,by rw [Big.qabs_den],by rw [Big.hq_qabs];exact hl⟩)) ?_
 exact zx Tryz.results178 (w35,w44) trivial (zq 0 ty32 rfl rfl (.t4 .nil)) rfl (ho:=oN) (s0 rfl)
end Go.Proofs.YtpdbimfnhglhpaaGreat.Sp
namespace Go.Proofs.YtpdbimfnhglhpaaGreat.Sp
open Go
set_option linter.unusedVariables false
set_option maxRecDepth 100000
set_option maxHeartbeats 8000000
theorem zSc {u1:Wd} {v1:Wd} {q1:Rat}:Con yd 88 [.agg #[u1.b,u1.l,v1.b,v1.l]] [] [qF true u1 v1 (q1)] (Y:=Unit) (fun y=>True) (fun y=> .bool true) (fun y=>[]) (fun y=>[]):=by
  exact zGf (fun x hx hk h1 h2=>by have h:= @zlc x.1.1 u1.p _ u1.c x.1.2 x.2.1 v1.p _ v1.c x.2.2 rfl rfl h1 h2;rw [decide_eq_true (hk rfl)] at h;exact h)
theorem zbf {u1:Wd} {v1:Wd} {q1:Rat}:Con yd 161 [.agg #[u1.b,u1.l,v1.b,v1.l]] [] [qF true u1 v1 q1] (Y:=Unit) (fun y=>True) (fun y=> .bool false) (fun y=>[]) (fun y=>[]):=by
 refine zk Tryz.func161 rfl rfl rfl (fun c=> ?_)
 show RunC _ _ _ _ _ [(0,.agg #[u1.b,u1.l,v1.b,v1.l])] [] [qF true u1 v1 q1]
 refine ze<|za<|zM rfl rfl (zT rfl rfl) (fun b1=> ?_)
 refine e_p (zb rfl)<|zf<|zc<|ze<|za<|e_ru (zd 0 ty32 rfl rfl (.t4 .nil))<|zR rfl rfl (.c rfl .n) ce88 (zSc (u1:=u1) (v1:=v1) (q1:=q1)) (.c (j:=0) rfl .n)<|e_p (zUa rfl)<|e_p (zb rfl)<|zf<|zc<|zG ?_
 exact zx Tryz.results161 () trivial (zo rfl) rfl (ho:=oN) sN
theorem zVf {p:Option Addr} {n:Nat} {cap:Nat} {l:List Rat} (hn:l.length=n):Con yd 211 [.slice p n cap,.func (.func 161) #[] #[]] [] [slF rQ p cap l] (Y:=Unit) (fun y=>True) (fun y=> .int .i64 (-1)) (fun y=>[]) (fun y=>[]):=by
 refine zk Tryz.func211 rfl rfl rfl (fun c=> ?_)
 show RunC _ _ _ _ _ [(0,.slice p n cap),(1,.func (.func 161) #[] #[])] [] [slF rQ p cap l]
 refine zP 0 rfl (fun hL0=> ?_)
 refine ze<|za<|e_p (zb rfl)<|zf<|zc<|ze<|ze<|za<|e_mv rfl<|e_p (zv yb rfl)<|e_mv rfl<|zf<|zc<|zt<|zca (X:=Nat) (fun x:Nat=>x≤n) (fun x=>[(8,.int .i64 ((x:Nat):Int)),(7,.int .i64 ((n:Nat):Int)),(0,.slice p n cap),(1,.func (.func 161) #[] #[])]) (fun x=>[]) (fun x=>[slF rQ p cap l]) (fun x:Nat=>n - x) 0 (show 0≤n from by exact Nat.zero_le _) ((.e rfl cgs (.of rfl)):SubM _ _) (ho:=oN) (s0 rfl) ?_
 rintro i hI
 replace hI:i≤n:=hI
 try dsimp only
 refine ze<|za<|e_p (zY rfl rfl)<|zf<|zc<|ze<|zD rfl (fun h1=> ?_) (fun h1=> ?_)
 ·
  refine zw<|zc<|ze<|zt<|ze<|za<|e_mv rfl<|e_p (zb rfl)<|zf<|zc<|ze<|za<|e_mv rfl<|e_mv rfl<|e_mv rfl<|r_vl rfl rfl (zQ (x0:=(l.getD i (0:Rat))) 0 i rfl yb sz32 rfl cbo rfl rfl (gD (d:=(0:Rat)) om)) ?_
  rintro ⟨b2,o3,w4,w5⟩ -
  dsimp only [aq,nq,cq]
  refine zqa open_rQ<|e_ru (zO (j:=0) 0 ty32 rfl rfl rfl (.t4 .nil))<|zsc (first:=[]) (cap:=[]) rfl rfl rfl (.c rfl .n) ce161 (zbf (u1:=w4) (v1:=w5) (q1:=(l.getD i (0:Rat)))) (.c (j:=1) rfl .n) ?_
  rintro ⟨⟩ -
  dsimp only [aq,nq,cq]
  refine zf<|zc<|zoa rfl rfl<|zw<|zK<|zc<|za<|e_p (zJ (z:=(((i+1):Nat):Int)) rfl rfl (w64 om))<|e_mv rfl<|zf<|zV (i+1) (show (i+1)≤n from by show i+1≤n;omega) (by show n - (i+1)<n - i;omega) (mR rfl) (ho:=oN) ((.c (j:=2) rfl .n):SelR _ _ _)
 ·
  refine zaa<|zg<|zg<|zp<|zc<|ze<|za<|e_p (zb rfl)<|zf<|zc<|zG ?_
  exact zx Tryz.results211 () trivial (zo rfl) rfl (ho:=oN) sN
theorem zWf {p:Option Addr} {n:Nat} {cap:Nat} {l:List Rat} (hn:l.length=n):Con yd 132 [.slice p n cap,.func (.func 161) #[] #[]] [] [slF rQ p cap l] (Y:=Unit) (fun y=>True) (fun y=> .bool false) (fun y=>[]) (fun y=>[]):=by
 refine zk Tryz.func132 rfl rfl rfl (fun c=> ?_)
 show RunC _ _ _ _ _ [(0,.slice p n cap),(1,.func (.func 161) #[] #[])] [] [slF rQ p cap l]
 refine zP 0 rfl (fun hL0=> ?_)
 refine ze<|za<|e_p (zb rfl)<|zf<|zc<|ze<|za<|e_mv rfl<|e_mv rfl<|zR rfl rfl (.c rfl (.c rfl .n)) ce211 (zVf (p:=p) (n:=n) (cap:=cap) (l:=l) (hn:=ass)) (.c (j:=0) rfl .n)<|e_p (zTa rfl rfl)<|e_p (zb rfl)<|zf<|zc<|zG ?_
 exact zx Tryz.results132 () trivial (zo rfl) (congrArg Value.bool (decide_eq_false (show ¬(0:Int)≤ -1 by decide)).symm) (ho:=oN) sN
theorem zWc {p:Option Addr} {n:Nat} {cap:Nat} {l:List Rat} (hn:l.length=n):Con yd 74 [.slice p n cap] [] [slF rQ p cap l] (Y:=Unit) (fun y=>True) (fun y=> .bool true) (fun y=>[]) (fun y=>[]):=by
 refine zk Tryz.func74 rfl rfl rfl (fun c=> ?_)
 show RunC _ _ _ _ _ [(0,.slice p n cap)] [] [slF rQ p cap l]
 refine zP 0 rfl (fun hL0=> ?_)
 refine ze<|za<|e_p (zb rfl)<|zf<|zc<|ze<|za<|e_mv rfl<|zR rfl rfl (.c rfl (.c rfl .n)) ce132 (zWf (p:=p) (n:=n) (cap:=cap) (l:=l) (hn:=ass)) (.c (j:=0) rfl .n)<|e_p (zUa rfl)<|e_p (zb rfl)<|zf<|zc<|zG ?_
 exact zx Tryz.results74 () trivial (zo rfl) rfl (ho:=oN) sN
theorem zle {p:Option Addr} {n:Nat} {cap:Nat} {l:List Rat} {bM:Nat} {pM:Option Addr} {nM:Nat} {cM:Nat} {M:List (List Rat)} (hn:l.length=n) (hnM:M.length=nM) (hM1:1≤nM) (heq:n=(M.getD 0 []).length):Con yd 73 [.slice p n cap,.pointer (some ⟨bM,0,none⟩)] [] [slF rQ p cap l,atF bM 0 [.slice pM nM cM],slF (rS rQ) pM cM M] (Y:=Unit) (fun y=>True) (fun y=> .bool false) (fun y=>[]) (fun y=>[]):=by
 refine zk Tryz.func73 rfl rfl rfl (fun c=> ?_)
 show RunC _ _ _ _ _ [(0,.slice p n cap),(1,.pointer (some ⟨bM,0,none⟩))] [] [slF rQ p cap l,atF bM 0 [.slice pM nM cM],slF (rS rQ) pM cM M]
 refine zP 0 rfl (fun hL0=> ?_)
 refine zP 2 rfl (fun hL2=> ?_)
 refine ze<|za<|e_p (zb rfl)<|zf<|zc<|ze<|za<|e_mv rfl<|e_p (zv yb rfl)<|e_ru (zh (j:=0) 1 ty60 rfl rfl rfl rfl)<|r_vl rfl rfl (zQ (x0:=(M.getD 0 [])) 2 0 rfl ya sz62 rfl cbo rfl rfl (gD (d:=[]) om)) ?_
 rintro ⟨b1,o2,p3,c4⟩ -
 dsimp only [aq,nq,cq]
 refine e_ru (zh (j:=0) 0 ty62 rfl rfl rfl rfl)<|e_p (zv yb rfl)<|e_p (zxa rfl rfl) ?_
 rw [show (decide (((n:Nat):Int)≠(((M.getD 0 []).length:Nat):Int)))=false from by exact decide_eq_false om]
 refine e_mv rfl<|e_mv rfl<|zR rfl rfl (.c rfl .n) ce74 (zWc (p:=p) (n:=n) (cap:=cap) (l:=l) (hn:=ass)) (.c (j:=2) rfl .n)<|e_p (zUa rfl)<|e_p (zE rfl rfl)<|e_p (zb rfl)<|zf<|zc<|zG ?_
 exact zx Tryz.results73 () trivial (zo rfl) rfl (ho:=oN) sN
theorem zXf {bM:Nat} {pM:Option Addr} {nM:Nat} {cM:Nat} {M:List (List Rat)} (hnM:M.length=nM) (hM1:1≤nM) (hU:∀i,i<nM→(M.getD i []).length=(M.getD 0 []).length):Con yd 160 [.slice pM nM cM,.func (.func 73) #[] #[.pointer (some ⟨bM,0,none⟩)]] [] [atF bM 0 [.slice pM nM cM],slF (rS rQ) pM cM M] (Y:=Unit) (fun y=>True) (fun y=> .int .i64 (-1)) (fun y=>[]) (fun y=>[]):=by
 refine zk Tryz.func160 rfl rfl rfl (fun c=> ?_)
 show RunC _ _ _ _ _ [(0,.slice pM nM cM),(1,.func (.func 73) #[] #[.pointer (some ⟨bM,0,none⟩)])] [] [atF bM 0 [.slice pM nM cM],slF (rS rQ) pM cM M]
 refine zP 1 rfl (fun hL1=> ?_)
 refine ze<|za<|e_p (zb rfl)<|zf<|zc<|ze<|ze<|za<|e_mv rfl<|e_p (zv ya rfl)<|e_mv rfl<|zf<|zc<|zt<|zca (X:=Nat) (fun x:Nat=>x≤nM) (fun x=>[(8,.int .i64 ((x:Nat):Int)),(7,.int .i64 ((nM:Nat):Int)),(0,.slice pM nM cM),(1,.func (.func 73) #[] #[.pointer (some ⟨bM,0,none⟩)])]) (fun x=>[]) (fun x=>[atF bM 0 [.slice pM nM cM],slF (rS rQ) pM cM M]) (fun x:Nat=>nM - x) 0 (show 0≤nM from by exact Nat.zero_le _) ((.e rfl cgs (.of rfl)):SubM _ _) (ho:=oN) ((.of [0,1] rfl):SelR _ _ _) ?_
 rintro i hI
 replace hI:i≤nM:=hI
 try dsimp only
 refine ze<|za<|e_p (zY rfl rfl)<|zf<|zc<|ze<|zD rfl (fun h1=> ?_) (fun h1=> ?_)
 ·
  refine zw<|zc<|ze<|zt<|ze<|za<|e_mv rfl<|e_p (zb rfl)<|zf<|zc<|ze<|za<|e_mv rfl<|e_mv rfl<|e_mv rfl<|r_vl rfl rfl (zQ (x0:=(M.getD i [])) 1 i rfl ya sz62 rfl cbo rfl rfl (gD (d:=[]) om)) ?_
  rintro ⟨b2,o3,p4,c5⟩ -
  dsimp only [aq,nq,cq]
  refine e_ru (zh (j:=0) 0 ty62 rfl rfl rfl rfl)<|zsc (first:=[]) (cap:=[.pointer (some ⟨bM,0,none⟩)]) rfl rfl rfl (.c rfl .n) ce73 (zle (p:=p4) (n:=(M.getD i []).length) (cap:=c5) (l:=(M.getD i [])) (bM:=bM) (pM:=pM) (nM:=nM) (cM:=cM) (M:=M) (hn:=by first|rfl|assumption|omega|exact hU _ om) (hnM:=ass) (hM1:=ass) (heq:=by first|rfl|assumption|omega|exact hU _ om)) (.c (j:=1) rfl (.c (j:=2) rfl (.c (j:=3) rfl .n))) ?_
  rintro ⟨⟩ -
  dsimp only [aq,nq,cq]
  refine zf<|zc<|zoa rfl rfl<|zw<|zK<|zc<|za<|e_p (zJ (z:=(((i+1):Nat):Int)) rfl rfl (w64 om))<|e_mv rfl<|zf<|zV (i+1) (show (i+1)≤nM from by show i+1≤nM;omega) (by show nM - (i+1)<nM - i;omega) (mR rfl) (ho:=oN) ((.of [2,3] rfl):SelR _ _ _)
 ·
  refine zaa<|zg<|zg<|zp<|zc<|ze<|za<|e_p (zb rfl)<|zf<|zc<|zG ?_
  exact zx Tryz.results160 () trivial (zo rfl) rfl (ho:=oN) sN
theorem zYf {bM:Nat} {pM:Option Addr} {nM:Nat} {cM:Nat} {M:List (List Rat)} (hnM:M.length=nM) (hM1:1≤nM) (hU:∀i,i<nM→(M.getD i []).length=(M.getD 0 []).length):Con yd 72 [.slice pM nM cM,.func (.func 73) #[] #[.pointer (some ⟨bM,0,none⟩)]] [] [atF bM 0 [.slice pM nM cM],slF (rS rQ) pM cM M] (Y:=Unit) (fun y=>True) (fun y=> .bool false) (fun y=>[]) (fun y=>[]):=by
 refine zk Tryz.func72 rfl rfl rfl (fun c=> ?_)
 show RunC _ _ _ _ _ [(0,.slice pM nM cM),(1,.func (.func 73) #[] #[.pointer (some ⟨bM,0,none⟩)])] [] [atF bM 0 [.slice pM nM cM],slF (rS rQ) pM cM M]
 refine zP 1 rfl (fun hL1=> ?_)
 refine ze<|za<|e_p (zb rfl)<|zf<|zc<|ze<|za<|e_mv rfl<|e_mv rfl<|zR rfl rfl (.c rfl (.c rfl .n)) ce160 (zXf (bM:=bM) (pM:=pM) (nM:=nM) (cM:=cM) (M:=M) (hnM:=ass) (hM1:=ass) (hU:=ass)) (.c (j:=0) rfl (.c (j:=1) rfl .n))<|e_p (zTa rfl rfl)<|e_p (zb rfl)<|zf<|zc<|zG ?_
 exact zx Tryz.results72 () trivial (zo rfl) (congrArg Value.bool (decide_eq_false (show ¬(0:Int)≤ -1 by decide)).symm) (ho:=oN) sN
theorem zmc {pM:Option Addr} {nM:Nat} {cM:Nat} {M:List (List Rat)} (hnM:M.length=nM) (hM1:1≤nM) (hU:∀i,i<nM→(M.getD i []).length=(M.getD 0 []).length) (hK:nM≤64) (hN:1≤(M.getD 0 []).length∧(M.getD 0 []).length≤64):Con yd 19 [.slice pM nM cM] [] [slF (rS rQ) pM cM M] (Y:=Unit) (fun y=>True) (fun y=> .int .i64 0) (fun y=>[]) (fun y=>[]):=by
 refine zk Tryz.func19 rfl rfl rfl (fun c=> ?_)
 show RunC _ _ _ _ _ [(0,.slice pM nM cM)] [] [slF (rS rQ) pM cM M]
 refine zP 0 rfl (fun hL0=> ?_)
 refine ze<|za<|zM rfl rfl (zT rfl rfl) (fun b1=> ?_)
 refine e_p (zb rfl)<|zf<|zc<|ze<|ze<|za<|e_ru (zi 0 ty60 rfl rfl rfl)<|e_p (zv ya rfl)<|e_p (zY rfl rfl) ?_
 rw [show (decide (((nM:Nat):Int)<1))=false from by exact decide_eq_false om]
 refine e_mv rfl<|e_ru (zi 0 ty60 rfl rfl rfl)<|e_p (zv ya rfl)<|e_p (zra rfl rfl) ?_
 rw [show (decide (64<((nM:Nat):Int)))=false from by exact decide_eq_false om]
 refine e_p (zE rfl rfl)<|e_mv rfl<|e_ru (zi 0 ty60 rfl rfl rfl)<|r_vl rfl rfl (zQ (x0:=(M.getD 0 [])) 0 0 rfl ya sz62 rfl cbo rfl rfl (gD (d:=[]) om)) ?_
 rintro ⟨b2,o3,p4,c5⟩ -
 dsimp only [aq,nq,cq]
 refine e_ru (zh (j:=0) 0 ty62 rfl rfl rfl rfl)<|e_p (zv yb rfl)<|e_p (zY rfl rfl) ?_
 rw [show (decide ((((M.getD 0 []).length:Nat):Int)<1))=false from by exact decide_eq_false om]
 refine e_p (zE rfl rfl)<|e_mv rfl<|e_ru (zi 0 ty60 rfl rfl rfl)<|r_vl rfl rfl (zQ (x0:=(M.getD 0 [])) 2 0 rfl ya sz62 rfl cbo rfl rfl (gD (d:=[]) om)) ?_
 rintro ⟨b6,o7,p8,c9⟩ -
 dsimp only [aq,nq,cq]
 refine e_ru (zh (j:=0) 0 ty62 rfl rfl rfl rfl)<|e_p (zv yb rfl)<|e_p (zra rfl rfl) ?_
 rw [show (decide (64<(((M.getD 0 []).length:Nat):Int)))=false from by exact decide_eq_false om]
 refine e_p (zE rfl rfl)<|zf<|zc<|zoa rfl rfl<|zw<|zc<|ze<|ze<|zDa 0 rfl .z<|za<|e_ru (zh (j:=0) 0 ty60 rfl rfl rfl rfl)<|e_p (zEa .n (.c rfl .n))<|zR rfl rfl (.c rfl (.c rfl .n)) ce72 (zYf (bM:=b1) (pM:=pM) (nM:=nM) (cM:=cM) (M:=M) (hnM:=ass) (hM1:=ass) (hU:=ass)) (.c (j:=0) rfl (.c (j:=5) rfl .n))<|zf<|zc<|zoa rfl rfl<|zw<|zc<|ze<|za<|e_p (zb rfl)<|zf<|zc<|zG ?_
 exact zx yo () trivial (zo rfl) rfl (ho:=oN) sN
theorem zOd {u1:Wd} {v1:Wd} {q1:Rat} {u2:Wd} {v2:Wd} {q2:Rat} (hl:yg q1+yg q2+1≤1099511627776) (h0:q2≠0):Con yd 82 [.agg #[u1.b,u1.l,v1.b,v1.l],.agg #[u2.b,u2.l,v2.b,v2.l]] [] [qF true u1 v1 q1,qF true u2 v2 q2] (Y:=Wd×Wd) (fun y=>True) (fun y=> .agg #[y.1.b,y.1.l,y.2.b,y.2.l]) (fun y=>[]) (fun y=>[qF true y.1 y.2 (q1 / q2)]):=by
 refine zk Tryz.func82 rfl rfl rfl (fun c=> ?_)
 show RunC _ _ _ _ _ [(0,.agg #[u1.b,u1.l,v1.b,v1.l]),(1,.agg #[u2.b,u2.l,v2.b,v2.l])] [] [qF true u1 v1 q1,qF true u2 v2 q2]
 refine ze<|za<|zM rfl rfl (zT rfl rfl) (fun b1=> ?_)
 refine zM rfl rfl (zT rfl rfl) (fun b2=> ?_)
 refine zM rfl rfl (zA zr32 rfl) (fun b3=> ?_)
 refine zf<|zc<|ze<|za<|e_ru (zd 2 ty32 rfl rfl (.t4 .nil))<|e_ru (zd 1 ty32 rfl rfl (.t4 .nil))<|zm rfl rfl (.c rfl (.c rfl .n)) ce139 (zHa (k1:=true) (u1:=u1) (v1:=v1) (q1:=q1) (k2:=true) (u2:=u2) (v2:=v2) (q2:=q2) (hl:=ass) (hy:=ass)) (.c (j:=0) rfl (.c (j:=1) rfl .n)) ?_
 rintro ⟨w34,w45⟩ -
 dsimp only [aq,nq,cq]
 refine e_mv rfl<|e_p (zn rfl rfl)<|e_p (zn rfl rfl)<|zM rfl rfl (zA zr32 rfl) (fun b6=> ?_)
 refine zl 0 rfl rfl rfl rfl rfl sz32 rfl (.t4 .nil) .z<|e_p (zb rfl)<|zf<|zc<|ze<|za<|e_ru (zd 0 ty32 rfl rfl (.t4 .nil))<|zl 1 rfl rfl rfl rfl rfl sz32 rfl (.t4 .nil) (.s .z)<|zf<|zc<|zG ?_
 exact zx Tryz.results82 (w34,w45) trivial (zq 1 ty32 rfl rfl (.t4 .nil)) rfl (ho:=oN) (s0 rfl)
end Go.Proofs.YtpdbimfnhglhpaaGreat.Sp
namespace Go.Proofs.YtpdbimfnhglhpaaGreat.Sp
open Go
set_option linter.unusedVariables false
set_option maxRecDepth 100000
set_option maxHeartbeats 8000000
theorem zPd {hs:HP} {M:List (List Rat)} {K:Nat} {N:Nat} {ii:Nat} {rr:Nat} {u1:Wd} {v1:Wd} {xk:Rat} {j0:Nat} (hSm:Mx.Sm hs M K N) (hii:ii<K) (hrr:rr<K) (hne:rr≠ii) (hj0:j0≤N) (hN:N≤70) (hx:yg xk≤200000) (hb:Mx.bd M 200000):Con yd 81 [.slice (rp hs ii) N (rc hs ii),.slice (rp hs rr) N (rc hs rr),.agg #[u1.b,u1.l,v1.b,v1.l],.int .i64 ((j0:Nat):Int)] [rowsM 32 rQ hs M] [qF true u1 v1 xk] (Y:=Unit) (fun y=>True) (fun y=> .tuple #[]) (fun y=>[rowsM 32 rQ hs (M.set ii (Mx.sb (M.getD ii []) (M.getD rr []) xk j0 N))]) (fun y=>[]):=by
 refine zk Tryz.func81 rfl rfl rfl (fun c=> ?_)
 show RunC _ _ _ _ _ [(0,.slice (rp hs ii) N (rc hs ii)),(1,.slice (rp hs rr) N (rc hs rr)),(2,.agg #[u1.b,u1.l,v1.b,v1.l]),(3,.int .i64 ((j0:Nat):Int))] [rowsM 32 rQ hs M] [qF true u1 v1 xk]
 have hil:=hSm.mk' hii
 have hirow:=hSm.row hii
 refine ze<|za<|zM rfl rfl (zT rfl rfl) (fun b1=> ?_)
 refine zf<|zc<|ze<|za<|e_mv rfl<|e_p (zb rfl)<|zf<|zc<|zt<|zca (X:=Nat) (fun x:Nat=>j0≤x∧x≤N) (fun x=>[(8,.int .i64 ((x:Nat):Int)),(6,.pointer (some ⟨b1,0,none⟩)),(0,.slice (rp hs ii) N (rc hs ii)),(1,.slice (rp hs rr) N (rc hs rr))]) (fun x=>[boxA b1 32 (cw [u1,v1]),rowsM 32 rQ hs (M.set ii (Mx.sb (M.getD ii []) (M.getD rr []) xk j0 x))]) (fun x=>[qF true u1 v1 xk]) (fun x:Nat=>N - x) j0 (show j0≤j0∧j0≤N from by exact ⟨Nat.le_refl _,hj0⟩) (mR rfl) (ho:=((.c (i:=0) rfl (.e (i:=0) rfl (by first|rfl|(rw [Mx.sub_start hil])) .n)):PickO _ _ _)) (s0 rfl) ?_
 rintro t hI
 replace hI:j0≤t∧t≤N:=hI
 try dsimp only [cw]
 obtain ⟨ht0,htN⟩:=hI
 have hSmt:Mx.Sm hs (M.set ii (Mx.sb (M.getD ii []) (M.getD rr []) xk j0 t)) K N:=hSm.setSb hii
 refine ze<|ze<|za<|e_mv rfl<|e_mv rfl<|e_p (zv yb rfl)<|e_p (zY rfl rfl)<|zf<|zc<|zD rfl (fun h2=> ?_) (fun h2=> ?_)
 ·
  have hba:=hb ii t
  have hbb:=hb rr t
  refine zw<|zc<|ze<|zt<|ze<|za<|e_mv rfl<|e_mv rfl<|e_ru (zGa 1 rr t rfl (hSmt.hk om) (hSmt.mk' om) (hSmt.row om) yb sz32 rfl rfl rfl om)<|r_vl rfl rfl (zYa (x0:=(Mx.e (M.set ii (Mx.sb (M.getD ii []) (M.getD rr []) xk j0 t)) rr t)) 1 rr t rfl (hSmt.hk om) (hSmt.mk' om) ty32 rfl rfl (gD (d:=(0:Rat)) (by rw [hSmt.row om];omega))) ?_
  rintro ⟨w3,w4⟩ -
  dsimp only [aq,nq,cq]
  refine zqa open1_rQ ?_
  have e5:Mx.e (M.set ii (Mx.sb (M.getD ii []) (M.getD rr []) xk j0 t)) rr t=Mx.e M rr t:=by exact Mx.e_set_ne hil hne
  rw [e5]
  refine zR rfl rfl (.c rfl .n) ce80 (znb (k1:=true) (u1:=w3) (v1:=w4) (q1:=(Mx.e M rr t))) (.c (j:=0) rfl .n)<|e_p (zxa rfl rfl)<|zf<|zc<|zD rfl (fun hz=> ?_) (fun hz=> ?_)
  ·
   refine zpa (.c (i:=1) rfl (.c (i:=0) rfl .n))<|zW (OW:=[rowsM 32 rQ hs (M.set ii (Mx.sb (M.getD ii []) (M.getD rr []) xk j0 t))]) (O:=[boxA b1 32 (cw [u1,v1])]) 14 mixed (.block (.then (.then (.block .ret)))) kr<|e_dm 0 rfl rfl rfl<|e_dm 1 rfl rfl rfl<|e_dm 2 rfl rfl rfl<|e_dm 3 rfl rfl rfl<|e_uw 4 rfl rfl (zGa 0 ii t rfl (hSmt.hk om) (hSmt.mk' om) (hSmt.row om) yb sz32 rfl rfl rfl om)<|zvb 5 rfl rfl kr kr kr rfl rfl (zYa (x0:=(Mx.e (M.set ii (Mx.sb (M.getD ii []) (M.getD rr []) xk j0 t)) ii t)) 0 ii t rfl (hSmt.hk om) (hSmt.mk' om) ty32 rfl rfl (gD (d:=(0:Rat)) (by rw [hSmt.row om];omega))) ?_
   rintro ⟨w6,w7⟩ -
   dsimp only [aq,nq,cq]
   refine zQa open1_rQ ?_
   have e8:Mx.e (M.set ii (Mx.sb (M.getD ii []) (M.getD rr []) xk j0 t)) ii t=Mx.e M ii t:=by exact Mx.e_sb_this hil om (Nat.le_refl _)
   rw [e8]
   refine e_uw 6 rfl rfl (zd 1 ty32 rfl rfl (.t4 .nil))<|e_dm 7 rfl rfl rfl<|e_dm 8 rfl rfl rfl<|e_uw 9 rfl rfl (zGa 0 rr t rfl (hSmt.hk om) (hSmt.mk' om) (hSmt.row om) yb sz32 rfl rfl rfl om)<|zvb 10 rfl rfl kr kr kr rfl rfl (zYa (x0:=(Mx.e (M.set ii (Mx.sb (M.getD ii []) (M.getD rr []) xk j0 t)) rr t)) 0 rr t rfl (hSmt.hk om) (hSmt.mk' om) ty32 rfl rfl (gD (d:=(0:Rat)) (by rw [hSmt.row om];omega))) ?_
   rintro ⟨w9,w10⟩ -
   dsimp only [aq,nq,cq]
   refine zQa open1_rQ ?_
   have e11:Mx.e (M.set ii (Mx.sb (M.getD ii []) (M.getD rr []) xk j0 t)) rr t=Mx.e M rr t:=by exact Mx.e_set_ne hil hne
   rw [e11]
   have hmm:=Big.hq_mul xk (Mx.e M rr t)
   refine e_one 11 (zB rfl rfl rfl rfl (.c rfl (.c rfl .n)) ce56 (zsb (k1:=true) (u1:=u1) (v1:=v1) (q1:=xk) (k2:=true) (u2:=w9) (v2:=w10) (q2:=(Mx.e M rr t)) (hl:=cbo)) (.c (j:=3) rfl (.c (j:=0) rfl .n)) ?_)
   rintro ⟨w312,w413⟩ -
   dsimp only [aq,nq,cq]
   refine e_one 12 (zB rfl rfl rfl rfl (.c rfl (.c rfl .n)) ce147 (zqd (k1:=true) (u1:=w6) (v1:=w7) (q1:=(Mx.e M ii t)) (k2:=true) (u2:=w312) (v2:=w413) (q2:=xk*(Mx.e M rr t)) (hl:=cbo)) (.c (j:=2) rfl (.c (j:=0) rfl .n)) ?_)
   rintro ⟨w314,w415⟩ -
   dsimp only [aq,nq,cq]
   refine e_uw 13 rfl rfl (zGa 0 ii t rfl (hSmt.hk om) (hSmt.mk' om) (hSmt.row om) yb sz32 rfl rfl rfl om)<|e_one 14 (zQb (A':=fun _=>rowsM 32 rQ hs ((M.set ii (Mx.sb (M.getD ii []) (M.getD rr []) xk j0 t)).set ii (((M.set ii (Mx.sb (M.getD ii []) (M.getD rr []) xk j0 t)).getD ii []).set t ((Mx.e M ii t) - (xk*(Mx.e M rr t)))))) kr rfl rfl rfl (zee (r:=rQ) (k:=ii) (j:=t) (x0:=((Mx.e M ii t) - (xk*(Mx.e M rr t)))) (γ0:=(w314,w415)) (hSmt.hk om) (hSmt.mk' om) rfl rfl (by rw [hSmt.row om];omega) rfl rfl sz32 (fun g hr=>Holds.get 0 rfl hr)) (fun _ _=> ?_))
   refine zU kr<|zK<|zc<|za<|e_mv rfl<|e_p (zJ (z:=(((t+1):Nat):Int)) rfl rfl (w64 om))<|e_p (zb rfl)<|zf<|zV (t+1) (show j0≤(t+1)∧(t+1)≤N from by exact ⟨by omega,by omega⟩) (by show N - (t+1)<N - t;omega) (mR rfl) (ho:=((.c (i:=1) rfl (.e (i:=0) rfl (by first|rfl|(rw [Mx.sub_step hil om om])) .n)):PickO _ _ _)) ((.c (j:=5) rfl .n):SelR _ _ _)
  ·
   have hz0:Mx.e M rr t=0:=Rat.num_eq_zero.1 (Big.sign_zero.1 (Decidable.not_not.1 hz))
   refine zw<|zK<|zc<|za<|e_mv rfl<|e_p (zJ (z:=(((t+1):Nat):Int)) rfl rfl (w64 om))<|e_p (zb rfl)<|zf<|zV (t+1) (show j0≤(t+1)∧(t+1)≤N from by exact ⟨by omega,by omega⟩) (by show N - (t+1)<N - t;omega) (mR rfl) (ho:=((.c (i:=0) rfl (.e (i:=0) rfl (by first|rfl|(rw [Mx.sub_zero om om hz0])) .n)):PickO _ _ _)) ((.c (j:=1) rfl .n):SelR _ _ _)
 ·
  refine zaa<|zg<|zg<|zp<|zkg ?_
  have e16:(M.set ii (Mx.sb (M.getD ii []) (M.getD rr []) xk j0 t))=(M.set ii (Mx.sb (M.getD ii []) (M.getD rr []) xk j0 N)):=by rw [show t=N by omega]
  rw [e16]
  exact zze Tryz.results81 () trivial rfl (ho:=((.c (i:=1) rfl .n):PickO _ _ _)) sN
end Go.Proofs.YtpdbimfnhglhpaaGreat.Sp
namespace Go.Proofs.YtpdbimfnhglhpaaGreat.Sp
open Go
theorem Mem.rowSome {c:Cx} {O:List As} {R:List Fa} {α:Type} {T:TypeId} {r:Rp α} {p:Option Addr} {cap:Nat} {l:List α} {w:World} (i:Nat) (hi:O[i]? =some (rowA T r p cap l)) (hl:l≠[]) (mm:Mem c w O R):∃y:Nat×Nat,p=some ⟨y.1,y.2,none⟩∧Mem c w O R:=by
  obtain ⟨hh,g,m0⟩:=mm.perm (zfa hi)
  obtain ⟨h1,h2,a,eh,s,y⟩:=m0.sep
  rcases s with ⟨e1,e2,e3,e4⟩|⟨b,off,cells,e1,e2,e3,e4,e5,e6⟩
  · exact absurd (by assumption) hl
  · exact ⟨(b,off),by assumption,mm⟩
section
variable {P : Program} {Q : Exit → Act → World → Prop} {c : Cx} {n : Sz} {ops : Array Oper} {m : Fm} {OW O : List As} {R : List Fa} {k wi : Nat} {L : Array Bool}
end
end Go.Proofs.YtpdbimfnhglhpaaGreat.Sp
namespace Go.Proofs.YtpdbimfnhglhpaaGreat.Td
open Mx
set_option linter.unusedVariables false
def dt (a:Nat→Rat):Rat:=a 0*a 0+a 1*a 1+a 2*a 2
def pe (a:Nat→Rat) (i j:Nat):Rat:=(if i=j then 1 else 0) - a i*a j / dt a
section
variable {a : Nat → Rat}
theorem dt_pos {z:Rat} (h:a 2=z) (hz:z≠0):0<dt a:=by
  have sq:∀x:Rat,0≤x*x:=fun x=>by
    rcases Rat.le_total (a:=0) (b:=x) with k|k
    · exact Rat.mul_nonneg k k
    · have:=Rat.mul_nonneg (show 0≤ -x by grind) (show 0≤ -x by grind);grind
  have h1:=sq (a 0);have h2:=sq (a 1);have h3:=sq (a 2)
  have h4:a 2*a 2≠0:=fun k=>by
    rcases Rat.mul_eq_zero.1 k with q|q <;> exact hz (h ▸ q)
  unfold dt
  grind
end
structure Two (a b:Nat→Rat):Prop where
  z:a 2=b 2
  nz:a 2≠0
  ne:a 0≠b 0
section
variable {M : Nat → Nat → Rat} {m0 m : Mt} {ps : List Nat} {n : Nat}
theorem free (h:Rd (n+n) n m0 m n ps) (hl:ps.length<n):∃c,c<n∧∀t,t<ps.length→ps.getD t 0≠c:=by
  apply Classical.byContradiction
  intro hne
  have all:∀c,c<n→∃t,t<ps.length∧ps.getD t 0=c:=fun c hc=>Classical.byContradiction fun k=>hne ⟨c,hc,fun t ht e=>k ⟨t,ht,e⟩⟩
  -- counting: a map from fewer places cannot reach all
  have key:∀(k N:Nat) (f:Nat→Nat),k<N→(∀c,c<N→∃t,t<k∧f t=c)→False:=by
    intro k
    induction k with
    |zero=>intro N f hk hf;obtain ⟨t,ht,_⟩:=hf 0 hk;omega
    |succ k ih=>
      intro N f hk hf
      obtain ⟨N,rfl⟩:∃q,N=q+1:=⟨N - 1,by omega⟩
      -- f k is taken out; what was N takes its place
      refine ih N (fun t=>if f t=N then f k else f t) (by omega) fun c hc=> ?_
      obtain ⟨t,ht,e⟩:=hf c (by omega)
      by_cases q:t=k
      · subst q
        obtain ⟨s,hs,e2⟩:=hf N (by omega)
        by_cases q2:s=t
        · subst q2;omega
        · exact ⟨s,by omega,by rw [if_pos e2];exact e⟩
      · exact ⟨t,by omega,by rw [if_neg (by omega)];exact e⟩
  exact key ps.length n (fun t=>ps.getD t 0) hl all
end
end Go.Proofs.YtpdbimfnhglhpaaGreat.Td
namespace Go.Proofs.YtpdbimfnhglhpaaGreat.Td
open Mx Big
set_option linter.unusedVariables false
structure Ry where
  (o0 o1 o2 a0 a1 a2:Rat)
abbrev r0:Ry:=⟨0,0,0,0,0,0⟩
def dl (l m:List Rat):Nat→Rat
  |0=>((0:Int):Rat)
  |i+1=>dl l m i+l.getD i 0*m.getD i 0
def dot (a b c x y z:Rat):Rat:=dl [a,b,c] [x,y,z] 3
theorem dot_eq (a b c x y z:Rat):dot a b c x y z=a*x+b*y+c*z:=by
  show ((0:Int):Rat)+a*x+b*y+c*z=_
  have:((0:Int):Rat)=0:=rfl
  rw [this];grind
theorem hq00:hq ((0:Int):Rat)=1:=by decide
theorem dl_hq {l m:List Rat} {K:Nat} (h1:∀i,hq (l.getD i 0)≤K) (h2:∀i,hq (m.getD i 0)≤K):∀n,hq (dl l m n)≤1+n*(2*K+1)
  |0=>by show hq ((0:Int):Rat)≤_;rw [hq00];omega
  |n+1=>by
    have:=dl_hq h1 h2 n;have:=hq_add (dl l m n) (l.getD n 0*m.getD n 0);have:=hq_mul (l.getD n 0) (m.getD n 0);have:=h1 n;have:=h2 n
    show hq (dl l m n+l.getD n 0*m.getD n 0)≤_
    rw [Nat.succ_mul];omega
theorem b3 {a b c:Rat} {k:Nat} (h1:hq a≤k) (h2:hq b≤k) (h3:hq c≤k) (h:1≤k) (i:Nat):hq (([a,b,c]:List Rat).getD i 0)≤k:=by
  match i with
  |0=>exact h1
  |1=>exact h2
  |2=>exact h3
  |_+3=>simp [hq_zero];exact h
theorem dot_hq {a b c x y z:Rat} {k:Nat} (h1:hq a≤k) (h2:hq b≤k) (h3:hq c≤k) (h4:hq x≤k) (h5:hq y≤k) (h6:hq z≤k) (h:1≤k):hq (dot a b c x y z)≤6*k+4:=by
  have:=dl_hq (b3 h1 h2 h3 h) (b3 h4 h5 h6 h) 3
  unfold dot;omega
theorem hq_sm {f:Nat→Rat} {c:Nat}:∀n,(∀i,i<n→hq (f i)≤c)→hq (sm n f)≤1+n*(c+1)
  |0,_=>by show hq 0≤_;rw [hq_zero];omega
  |n+1,h=>by
    have:=hq_sm n (fun i hi=>h i (by omega));have:=hq_add (sm n f) (f n);have:=h n (by omega)
    show hq (sm n f+f n)≤_
    rw [Nat.succ_mul];omega
def zz (l:List Rat) (ln:Rat) (i j:Nat):Rat:=if i=j then -(l.getD i 0*l.getD j 0 / ln)+((1:Int):Rat) else -(l.getD i 0*l.getD j 0 / ln)
def gr (l:List Ry) (k:Nat):Ry:=l.getD k ⟨0,0,0,0,0,0⟩
def Ry.lg (r:Ry):Rat:=dot r.a0 r.a1 r.a2 r.a0 r.a1 r.a2
def xr (r:Ry) (w:Int) (i j:Nat):Rat:=(w:Rat)*zz [r.a0,r.a1,r.a2] r.lg i j
def Ry.o (r:Ry) (j:Nat):Rat:=([r.o0,r.o1,r.o2]:List Rat).getD j 0
def xx (l:List Ry) (W:List Int) (k i j:Nat):Rat:=xr (gr l k) (W.getD k 0) i j
def ne (l:List Ry) (W:List Int) (k s i j:Nat):Rat:=sm k (fun q=>xx l W q i j)+(if 3*i+j<s then xx l W k i j else 0)
def nM (l:List Ry) (W:List Int) (k s:Nat):Mt:=mk 3 3 (fun i j=>ne l W k s i j)
def rE (l:List Ry) (W:List Int) (k s i:Nat):Rat:=sm k (fun q=>sm 3 fun j=>xx l W q i j*(gr l q).o j)+sm (min 3 (s - 3*i)) (fun j=>xx l W k i j*(gr l k).o j)
def rR (l:List Ry) (W:List Int) (k s:Nat):List Rat:=[rE l W k s 0,rE l W k s 1,rE l W k s 2]
structure Ok (l:List Ry) (W:List Int) (n:Nat):Prop where
  hl:l.length=n
  hW:W.length=n
  n2:1≤n∧n≤2
  b:∀k,k<n→(hq (gr l k).o0≤1∧hq (gr l k).o1≤1∧hq (gr l k).o2≤1)∧hq (gr l k).a0≤1∧hq (gr l k).a1≤1∧hq (gr l k).a2≤1
  w:∀k,k<n→1≤W.getD k 0∧W.getD k 0≤0x100000
  d:∀k,k<n→(gr l k).a2≠0
def al (r:Ry) (i:Nat):Rat:=([r.a0,r.a1,r.a2]:List Rat).getD i 0
theorem lg_dt (r:Ry):r.lg=dt (al r):=by unfold Ry.lg;rw [dot_eq];rfl
theorem lg_ne {r:Ry} (h:r.a2≠0):r.lg≠0:=by
  rw [lg_dt]
  have:=dt_pos (a:=al r) (z:=r.a2) rfl h
  grind
section
variable {l : List Ry} {W : List Int} {n : Nat}
theorem lg_hq {r:Ry} (h0:hq r.a0≤1) (h1:hq r.a1≤1) (h2:hq r.a2≤1):hq r.lg≤10:=dot_hq h0 h1 h2 h0 h1 h2 (Nat.le_refl _)
theorem w_hq {w:Int} (h:1≤w∧w≤0x100000):hq (w:Rat)≤1:=by
  refine Nat.le_trans (hq_int w) (Nat.max_le.2 ⟨?_,Nat.le_refl _⟩)
  have e:pw 1=1000000000:=by decide
  exact zae (by rw [e];omega) (by rw [e];omega)
theorem zz_hq {r:Ry} (h0:hq r.a0≤1) (h1:hq r.a1≤1) (h2:hq r.a2≤1) (hd:r.a2≠0) (i j:Nat):hq (zz [r.a0,r.a1,r.a2] r.lg i j)≤14:=by
  have a:=b3 h0 h1 h2 (Nat.le_refl _) i
  have b:=b3 h0 h1 h2 (Nat.le_refl _) j
  have c:=lg_hq h0 h1 h2
  have d:=hq_mul (([r.a0,r.a1,r.a2]:List Rat).getD i 0) (([r.a0,r.a1,r.a2]:List Rat).getD j 0)
  have e:=hq_div (([r.a0,r.a1,r.a2]:List Rat).getD i 0*([r.a0,r.a1,r.a2]:List Rat).getD j 0) (lg_ne hd)
  have f:=hq_neg (([r.a0,r.a1,r.a2]:List Rat).getD i 0*([r.a0,r.a1,r.a2]:List Rat).getD j 0 / r.lg)
  have g:=hq_add (-(([r.a0,r.a1,r.a2]:List Rat).getD i 0*([r.a0,r.a1,r.a2]:List Rat).getD j 0 / r.lg)) ((1:Int):Rat)
  have o1:hq ((1:Int):Rat)=1:=by decide
  unfold zz
  split <;> omega
theorem Ok.xx (h:Ok l W n) {k:Nat} (hk:k<n) (i j:Nat):hq (xx l W k i j)≤15:=by
  obtain ⟨_,h0,h1,h2⟩:=h.b k hk
  have:=zz_hq h0 h1 h2 (h.d k hk) i j
  have:=w_hq (h.w k hk)
  have:=hq_mul ((W.getD k 0:Int):Rat) (zz [(gr l k).a0,(gr l k).a1,(gr l k).a2] (gr l k).lg i j)
  unfold Td.xx xr;omega
theorem Ok.ne (h:Ok l W n) {k s:Nat} (hk:k<n∨k=n∧s=0) (i j:Nat):hq (ne l W k s i j)≤60:=by
  have hn:=h.n2
  have:=hq_sm (f:=fun q=>Td.xx l W q i j) (c:=15) k (fun q hq=>h.xx (by omega) i j)
  have e:k*(15+1)≤2*(15+1):=Nat.mul_le_mul_right _ (by omega)
  unfold Td.ne
  have:=hq_add (sm k fun q=>Td.xx l W q i j) (if 3*i+j<s then Td.xx l W k i j else 0)
  have:hq (if 3*i+j<s then Td.xx l W k i j else 0)≤15:=by
    split
    · exact h.xx (by omega) i j
    · rw [hq_zero];omega
  omega
theorem o_hq (h:Ok l W n) {k:Nat} (hk:k<n) (j:Nat):hq ((gr l k).o j)≤1:=by
  obtain ⟨⟨h0,h1,h2⟩,_⟩:=h.b k hk
  exact b3 h0 h1 h2 (Nat.le_refl _) j
theorem Ok.rE (h:Ok l W n) {k s:Nat} (hk:k<n∨k=n∧s=0) (i:Nat):hq (rE l W k s i)≤200:=by
  have hn:=h.n2
  have t:∀q,q<n→∀j,hq (Td.xx l W q i j*(gr l q).o j)≤16:=fun q hq j=>by
    have:=h.xx hq i j;have:=o_hq h hq j;have:=hq_mul (Td.xx l W q i j) ((gr l q).o j);omega
  have a:=hq_sm (f:=fun q=>sm 3 fun j=>Td.xx l W q i j*(gr l q).o j) (c:=52) k (fun q hq=>hq_sm 3 fun j _=>t q (by omega) j)
  have e:k*(52+1)≤2*(52+1):=Nat.mul_le_mul_right _ (by omega)
  have b:hq (sm (min 3 (s - 3*i)) (fun j=>Td.xx l W k i j*(gr l k).o j))≤52:=by
    rcases Nat.eq_zero_or_pos (min 3 (s - 3*i)) with z|z
    · rw [z];show hq 0≤_;rw [hq_zero];omega
    · have b := hq_sm (f := fun j => Td.xx l W k i j * (gr l k).o j) (c := 16) (min 3 (s - 3 * i)) (fun j _ => t k (by omega) j)
      have e:(min 3 (s - 3*i))*(16+1)≤3*(16+1):=Nat.mul_le_mul_right _ (by omega)
      omega
  unfold Td.rE
  have:=hq_add (sm k fun q=>sm 3 fun j=>Td.xx l W q i j*(gr l q).o j) (sm (min 3 (s - 3*i)) fun j=>Td.xx l W k i j*(gr l k).o j)
  omega
theorem Ok.bd (h:Ok l W n):bd (nM l W n 0) 60:=fun i j=>by
  by_cases hi:i<3
  · by_cases hj : j < 3
    · unfold nM;rw [mk_e hi hj];exact h.ne (.inr ⟨rfl,rfl⟩) i j
    · have:e (nM l W n 0) i j=0:=by
        unfold nM e;rw [mk_row hi,range_getD,if_neg hj]
      rw [this,hq_zero];omega
  · have:e (nM l W n 0) i j=0:=by
      unfold nM e
      have hlen:=Mx.mk_len 3 3 (fun i j=>Td.ne l W n 0 i j)
      rw [show (Mx.mk 3 3 fun i j=>Td.ne l W n 0 i j).getD i []=[] by rw [List.getD_eq_getElem?_getD,List.getElem?_eq_none (by rw [hlen];omega)];rfl]
      rfl
    rw [this,hq_zero];omega
end
end Go.Proofs.YtpdbimfnhglhpaaGreat.Td
namespace Go.Proofs.YtpdbimfnhglhpaaGreat.Td
open Mx Big
set_option linter.unusedVariables false
def un (i j:Nat):Rat:=if i=j then ((1:Int):Rat) else ((0:Int):Rat)
structure Inv (A B:Mt) (n k:Nat):Prop where
  l:B.length=n
  r:∀i,i<n→(B.getD i []).length=n
  b:∀i j,hq (e B i j)≤k
  s:∀q r:Nat→Rat,(∀i,i<n→sm n (fun j=>e A i j*q j)=r i)→∀i,i<n→sm n (fun u=>e B i u*r u)=q i
section
variable {l : List Ry} {W : List Int} {n : Nat} {x y z : Rat}
def t3 (x y z:Rat) (j:Nat):Rat:=([x,y,z]:List Rat).getD j 0
end
section
variable {f b d : Int}
end
end Go.Proofs.YtpdbimfnhglhpaaGreat.Td
namespace Go.Proofs.YtpdbimfnhglhpaaGreat.Sp
open Go
set_option linter.unusedVariables false
set_option maxRecDepth 100000
set_option maxHeartbeats 8000000
theorem zDg {i0:Nat} {j0:Nat}:Con yd 87 [.int .i64 ((i0:Nat):Int),.int .i64 ((j0:Nat):Int)] [] [] (Y:=Wd×Wd) (fun y=>True) (fun y=> .agg #[y.1.b,y.1.l,y.2.b,y.2.l]) (fun y=>[]) (fun y=>[qF true y.1 y.2 (Td.un i0 j0)]):=by
 refine zk Tryz.func87 rfl rfl rfl (fun c=> ?_)
 show RunC _ _ _ _ _ [(0,.int .i64 ((i0:Nat):Int)),(1,.int .i64 ((j0:Nat):Int))] [] []
 refine ze<|za<|zM rfl rfl (zA zr32 rfl) (fun b1=> ?_)
 refine zf<|zc<|ze<|ze<|za<|e_mv rfl<|e_mv rfl<|e_p (zna rfl rfl)<|zf<|zc<|zD rfl (fun h7=> ?_) (fun h7=> ?_)
 ·
  refine ze<|za<|zm rfl rfl (.c rfl .n) ce52 (zJa (z:=1) (hz:=cbo)) (.n) ?_
  rintro ⟨w33,w44⟩ -
  dsimp only [aq,nq,cq]
  refine zl 0 rfl rfl rfl rfl rfl sz32 rfl (.t4 .nil) .z<|zf<|zc<|zG<|zu ?_
  exact zx Tryz.results87 (w33,w44) trivial (zq 0 ty32 rfl rfl (.t4 .nil)) rfl (ho:=oN) ((.e (j:=0) rfl (by rw [show Td.un i0 j0=((1:Int):Rat) from if_pos om]) .n):SelR _ _ _)
 ·
  refine zw<|zc<|ze<|za<|zm rfl rfl (.c rfl .n) ce52 (zJa (z:=0) (hz:=cbo)) (.n) ?_
  rintro ⟨w35,w46⟩ -
  dsimp only [aq,nq,cq]
  refine zl 0 rfl rfl rfl rfl rfl sz32 rfl (.t4 .nil) .z<|zf<|zc<|zG ?_
  exact zx Tryz.results87 (w35,w46) trivial (zq 0 ty32 rfl rfl (.t4 .nil)) rfl (ho:=oN) ((.e (j:=0) rfl (by rw [show Td.un i0 j0=((0:Int):Rat) from if_neg om]) .n):SelR _ _ _)
theorem zZf {K:Nat} {N:Nat} (hK:K≤64) (hN:N≤70):Con yd 86 [.int .i64 ((K:Nat):Int),.int .i64 ((N:Nat):Int),.func (.func 87) #[] #[]] [] [] (Y:=(Option Addr)×Nat×HP) (fun y=>y.2.2.length=K) (fun y=> .slice (y.1) K (y.2.1)) (fun y=>[rowA 62 rV (y.1) (y.2.1) (oh y.2.2 N),rowsM 32 rQ (y.2.2) (Mx.mk K N (fun ii jj=>Td.un ii jj))]) (fun y=>[]):=by
 refine zk yn rfl rfl rfl (fun c=> ?_)
 show RunC _ _ _ _ _ [(0,.int .i64 ((K:Nat):Int)),(1,.int .i64 ((N:Nat):Int)),(2,.func (.func 87) #[] #[])] [] []
 refine ze<|za<|e_p (zb rfl)<|zf<|zc<|ze<|za<|e_mv rfl<|zma rfl rfl (zua (r:=rV) (k:=K) (x0:=(none,0,0)) (γ0:=()) ya inf62 rfl rfl rfl rfl om om rfl (fun g _=>by trivial) dd) (fun b1 _=> ?_)
 refine e_p (zb rfl)<|zf<|zc<|ze<|ze<|zjd (fun w mm=>mm.rmNil 32 rQ) ?_
 have e2:(List.replicate K (none,0,0):List (Option Addr×Nat×Nat))=(Mx.oz ([]:HP) N K):=by exact Mx.oz_start N K
 rw [e2]
 refine za<|e_mv rfl<|e_p (zv ya rfl)<|e_mv rfl<|zf<|zc<|zt<|zca (X:=Nat×HP) (fun x:Nat×HP=>x.1≤K∧x.2.length=x.1) (fun x=>[(14,.int .i64 ((x.1:Nat):Int)),(13,.int .i64 ((K:Nat):Int)),(7,.slice (some ⟨b1,0,none⟩) K K),(6,.slice none 0 0),(1,.int .i64 ((N:Nat):Int)),(2,.func (.func 87) #[] #[])]) (fun x=>[rowsM 32 rQ (x.2) (Mx.mk x.1 N (fun ii jj=>Td.un ii jj)),rowA 62 rV (some ⟨b1,0,none⟩) K (Mx.oz x.2 N K)]) (fun x=>[]) (fun x:Nat×HP=>K - x.1) (0,([]:HP)) (show 0≤K∧([]:HP).length=0 from by exact ⟨Nat.zero_le _,rfl⟩) ((.e rfl cgs (.of rfl)):SubM _ _) (ho:=((.e (i:=0) rfl (by rfl) (.c (i:=0) rfl .n)):PickO _ _ _)) sN ?_
 rintro ⟨i,hs⟩ hI
 replace hI:i≤K∧hs.length=i:=hI
 try dsimp only
 obtain ⟨hi,hlen⟩:=hI
 refine ze<|za<|e_p (zY rfl rfl)<|zf<|zc<|ze<|zD rfl (fun h3=> ?_) (fun h3=> ?_)
 ·
  refine zw<|zc<|ze<|zt<|ze<|za<|e_mv rfl<|e_p (zb rfl)<|zf<|zc<|ze<|za<|e_mv rfl<|e_mv rfl<|e_mv rfl<|zma rfl rfl (zua (r:=rE) (k:=N) (x0:=(none:Option Rat)) (γ0:=(wz,wz)) yb inf32 rfl rfl rfl rfl om om rfl (fun g _=>eF_wz g) dd) (fun b4 _=> ?_)
  refine e_p (zI (j:=i) ya sz62 rfl rfl rfl om)<|zya 2 rfl rfl rfl (zL (j:=i) (x0:=(some ⟨b4,0,none⟩,N,N)) (γ0:=()) rfl rfl (by first|omega|(rw [Mx.oz_len om];omega)|(rw [Mx.fil_len];omega)) rfl rfl sz62 (fun _ _=>by trivial)) (fun _=>(.s (.s .z))) (fun _ _=> ?_)
  refine zf<|zc<|ze ?_
  have e5:(((Mx.oz hs N K).set i (some ⟨b4,0,none⟩,N,N)):List (Option Addr×Nat×Nat))=(Mx.oz (hs++[((some ⟨b4,0,none⟩:Option Addr),N)]) N K):=by exact Mx.oz_step' hlen om
  rw [e5]
  have e6:(List.replicate N (none:Option Rat):List (Option Rat))=(Mx.fil 0 N (fun jj=>Td.un i jj)):=by exact Mx.fil_start N _
  rw [e6]
  refine za<|e_mv rfl<|e_mv rfl<|e_p (zI (j:=i) ya sz62 rfl rfl rfl om)<|r_vl rfl rfl (zN (x0:=(some ⟨b4,0,none⟩,N,N)) (v:= .slice (some ⟨b4,0,none⟩) N N) 2 i rfl ty62 rfl rfl (by exact Mx.oz_last (K:=K) om) rfl) (fun _ hok7=> ?_)
  refine e_p (zv yb rfl)<|e_mv rfl<|zf<|zc<|zt<|zca (X:=Nat) (fun x:Nat=>x≤N) (fun x=>[(27,.int .i64 ((x:Nat):Int)),(26,.int .i64 ((N:Nat):Int)),(8,.int .i64 ((i:Nat):Int)),(14,.int .i64 ((i:Nat):Int)),(13,.int .i64 ((K:Nat):Int)),(7,.slice (some ⟨b1,0,none⟩) K K),(6,.slice none 0 0),(1,.int .i64 ((N:Nat):Int)),(2,.func (.func 87) #[] #[])]) (fun x=>[rowA 32 rE (some ⟨b4,0,none⟩) N (Mx.fil x N (fun jj=>Td.un i jj)),rowsM 32 rQ hs (Mx.mk i N (fun ii jj=>Td.un ii jj)),rowA 62 rV (some ⟨b1,0,none⟩) K (Mx.oz (hs++[((some ⟨b4,0,none⟩:Option Addr),N)]) N K)]) (fun x=>[]) (fun x:Nat=>N - x) 0 (show 0≤N from by exact Nat.zero_le _) ((.e rfl cgs (.of rfl)):SubM _ _) (ho:=((.of [0,0,0] rfl):PickO _ _ _)) sN ?_
  rintro j hJ
  replace hJ:j≤N:=hJ
  try dsimp only
  refine ze<|za<|e_p (zY rfl rfl)<|zf<|zc<|ze<|zD rfl (fun h8=> ?_) (fun h8=> ?_)
  ·
   refine zw<|zc<|ze<|zt<|ze<|za<|e_mv rfl<|e_p (zb rfl)<|zf<|zc<|zW (OW:=[rowA 32 rE (some ⟨b4,0,none⟩) N (Mx.fil j N (fun jj=>Td.un i jj))]) (O:=[rowsM 32 rQ hs (Mx.mk i N (fun ii jj=>Td.un ii jj)),rowA 62 rV (some ⟨b1,0,none⟩) K (Mx.oz (hs++[((some ⟨b4,0,none⟩:Option Addr),N)]) N K)]) 10 mixed (.block (.then (.then (.block (.block (.then (.then (.block (.then .ret))))))))) kr<|e_dm 0 rfl rfl rfl<|e_dm 1 rfl rfl rfl<|e_pv 2 rfl rfl (zI (j:=i) ya sz62 rfl rfl rfl om)<|zvb 3 rfl rfl kr kr kr rfl rfl (zN (x0:=(some ⟨b4,0,none⟩,N,N)) (v:= .slice (some ⟨b4,0,none⟩) N N) 2 i rfl ty62 rfl rfl (by exact Mx.oz_last (K:=K) om) rfl) (fun _ hok9=> ?_)
   refine e_dm 4 rfl rfl rfl<|e_dm 5 rfl rfl rfl<|e_dm 6 rfl rfl rfl<|e_dm 7 rfl rfl rfl<|e_one 8 (ztc (first:=[]) (cap:=[]) rfl rfl rfl rfl rfl (.c rfl (.c rfl .n)) ce87 (zDg (i0:=i) (j0:=j)) (.n) ?_)
   rintro ⟨w310,w411⟩ -
   dsimp only [aq,nq,cq]
   refine e_pv 9 rfl rfl (zI (j:=j) yb sz32 rfl rfl rfl om)<|e_one 10 (zQb (A':=fun _=>rowA 32 rE (some ⟨b4,0,none⟩) N ((Mx.fil j N (fun jj=>Td.un i jj)).set j (some (Td.un i j)))) kr rfl rfl rfl (zL (r:=rE) (j:=j) (x0:=(some (Td.un i j))) (γ0:=(w310,w411)) rfl rfl (by first|omega|(rw [Mx.oz_len om];omega)|(rw [Mx.fil_len];omega)) rfl rfl sz32 (fun g hr=>qF_e (Holds.get 0 rfl hr))) (fun _ _=> ?_))
   refine zU kr<|zK<|zc<|za<|e_p (zJ (z:=(((j+1):Nat):Int)) rfl rfl (w64 om))<|e_mv rfl<|zf<|zV (j+1) (show (j+1)≤N from by show j+1≤N;omega) (by show N - (j+1)<N - j;omega) (mR rfl) (ho:=((.e (i:=0) rfl (by first|rfl|(rw [Mx.fil_step om])) (.of [0,0] rfl)):PickO _ _ _)) sN
  ·
   refine zaa<|zg<|zg<|zp<|zK<|zc<|za<|e_p (zJ (z:=(((i+1):Nat):Int)) rfl rfl (w64 om))<|e_mv rfl<|zf<|zib (fun w mm=>mm.rowEQ (l2:=((List.range N).map (fun jj=>Td.un i jj))) 0 rfl (by rw [show j=N by omega];exact Mx.fil_end N _)) ?_
   try dsimp only [List.eraseIdx]
   refine zib (fun w mm=>mm.rmSnoc 0 0 rfl rfl (by rw [Mx.mk_len];exact hlen)) ?_
   try dsimp only [List.eraseIdx]
   refine zV ((i+1),(hs++[((some ⟨b4,0,none⟩:Option Addr),N)])) (show (i+1)≤K∧(hs++[((some ⟨b4,0,none⟩:Option Addr),N)]).length=(i+1) from by exact ⟨by omega,by rw [List.length_append,hlen];rfl⟩) (by show K - (i+1)<K - i;omega) (mR rfl) (ho:=((.e (i:=0) rfl (by first|rfl|(rw [Mx.mk_succ])) (.c (i:=0) rfl .n)):PickO _ _ _)) sN
 ·
  refine zaa<|zg<|zg<|zp<|zc<|ze<|za<|e_mv rfl<|e_p (zb rfl)<|zf<|zc<|zG ?_
  have e12:((Mx.oz hs N K):List (Option Addr×Nat×Nat))=(oh hs N):=by exact Mx.oz_end (hlen.trans om)
  rw [e12]
  have e13:(Mx.mk i N (fun ii jj=>Td.un ii jj))=(Mx.mk K N (fun ii jj=>Td.un ii jj)):=by rw [show i=K by omega]
  rw [e13]
  exact zx yj (some ⟨b1,0,none⟩,K,hs) (hlen.trans om) (zo rfl) rfl (ho:=((.of [1,0] rfl):PickO _ _ _)) sN
theorem zcf {pM:Option Addr} {nM:Nat} {cM:Nat} {M:List (List Rat)} (hnM:M.length=nM) (hM1:1≤nM) (hU:∀i,i<nM→(M.getD i []).length=(M.getD 0 []).length) (hK:nM≤64) (hN:(M.getD 0 []).length=nM):Con yd 78 [.slice pM nM cM] [] [slF (rS rQ) pM cM M] (Y:=Unit) (fun y=>True) (fun y=> .int .i64 0) (fun y=>[]) (fun y=>[]):=by
 refine zk Tryz.func78 rfl rfl rfl (fun c=> ?_)
 show RunC _ _ _ _ _ [(0,.slice pM nM cM)] [] [slF (rS rQ) pM cM M]
 refine zP 0 rfl (fun hL0=> ?_)
 refine ze<|za<|e_p (zb rfl)<|zf<|zc<|ze<|ze<|za<|e_mv rfl<|zR rfl rfl (.c rfl .n) ce19 (zmc (pM:=pM) (nM:=nM) (cM:=cM) (M:=M) (hnM:=ass) (hM1:=ass) (hU:=ass) (hK:=ass) (hN:=by first|rfl|assumption|omega|exact ⟨by omega,by omega⟩)) (.c (j:=0) rfl .n)<|e_p (zb rfl)<|zf<|zc<|ze<|za<|e_mv rfl<|e_p (zxa rfl rfl)<|zf<|zc<|zoa rfl rfl<|zw<|zc<|ze<|ze<|za<|e_mv rfl<|e_p (zv ya rfl)<|e_mv rfl<|r_vl rfl rfl (zQ (x0:=(M.getD 0 [])) 0 0 rfl ya sz62 rfl cbo rfl rfl (gD (d:=[]) om)) ?_
 rintro ⟨b1,o2,p3,c4⟩ -
 dsimp only [aq,nq,cq]
 refine e_ru (zh (j:=0) 0 ty62 rfl rfl rfl rfl)<|e_p (zv yb rfl)<|e_p (zxa rfl rfl)<|zf<|zc<|zD rfl (fun h15=> ?_) (fun h15=> ?_)
 ·
  exact absurd om h15
 ·
  refine zw<|zc<|ze<|za<|e_p (zb rfl)<|zf<|zc<|zG ?_
  exact zx Tryz.results78 () trivial (zo rfl) rfl (ho:=oN) sN
end Go.Proofs.YtpdbimfnhglhpaaGreat.Sp
namespace Go.Proofs.YtpdbimfnhglhpaaGreat.Sp
open Go
theorem Sl.some {g:Hp} {p:Option Addr} {cap:Nat} {l:List Rat} (s:Sl rE g p cap (l.map Option.some)):Sl rQ g p cap l:=
  ⟨by have:=s.1;rwa [List.length_map] at this,s.2.1,s.2.2.1,fun i x e=>by
    obtain ⟨b,off,γ,e1,e2,e3⟩:=s.2.2.2 i (Option.some x) (by rw [List.getElem?_map,e];rfl)
    exact ⟨b,off,γ,e1,e2,eF_q e3⟩⟩
end Go.Proofs.YtpdbimfnhglhpaaGreat.Sp
namespace Go.Proofs.YtpdbimfnhglhpaaGreat.Sp
open Go
set_option linter.unusedVariables false
theorem Sl.somes {g:Hp} {p:Option Addr} {cap:Nat} {M:List (List Rat)} (s:Sl (rS rE) g p cap (M.map fun l=>l.map Option.some)):Sl (rS rQ) g p cap M:=
  ⟨by have:=s.1;rwa [List.length_map] at this,s.2.1,s.2.2.1,fun i x e=>by
    obtain ⟨b,off,γ,e1,e2,e3⟩:=s.2.2.2 i (x.map Option.some) (by rw [List.getElem?_map,e];rfl)
    refine ⟨b,off,γ,e1,?_,Sl.some e3⟩
    have e4:(rS rE).enc (x.map Option.some) γ=(rS rQ).enc x γ:=by
      show [Value.slice γ.1 (x.map Option.some).length γ.2]=[Value.slice γ.1 x.length γ.2]
      rw [List.length_map]
    rw [← e4];exact e2⟩
theorem slFF_EQ {R:List Fa} {p:Option Addr} {c:Nat} {A:List (List (Option Rat))} {M:List (List Rat)} (i:Nat) (hi:R[i]? =some (slF (rS rE) p c A)) (h:A=M.map fun l=>l.map Option.some):∀g,Holds g R→(slF (rS rQ) p c M).on g:=fun g hr=>by
  subst h
  exact Sl.somes (Holds.get i hi hr)
theorem all_some {l:List (Option Rat)} (h:∀j,j<l.length→(l.getD j none).isSome=true):l=(l.map fun x=>x.getD 0).map Option.some:=by
  rw [List.map_map]
  refine List.ext_getElem (by rw [List.length_map]) fun i h1 h2=> ?_
  have:=h i h1
  rw [List.getD_eq_getElem?_getD,List.getElem?_eq_getElem h1] at this
  rw [List.getElem_map]
  obtain ⟨y,hy⟩:=Option.isSome_iff_exists.1 this
  have hy':l[i]=Option.some y:=hy
  rw [hy'];rfl
theorem rows_some {A:List (List (Option Rat))} (h:∀i,i<A.length→∀j,j<(A.getD i []).length→((A.getD i []).getD j none).isSome=true):A=(A.map fun l=>l.map fun x=>x.getD 0).map fun l=>l.map Option.some:=by
  rw [List.map_map]
  refine List.ext_getElem (by rw [List.length_map]) fun i h1 h2=> ?_
  have:=h i h1
  rw [List.getD_eq_getElem?_getD,List.getElem?_eq_getElem h1] at this
  rw [List.getElem_map]
  exact all_some this
theorem rows_get {A:List (List (Option Rat))} {i j:Nat}:(((A.map fun l=>l.map fun x=>x.getD 0).getD i []).getD j 0)=((A.getD i []).getD j none).getD 0:=by
  simp only [List.getD_eq_getElem?_getD,List.getElem?_map]
  cases A[i]? with
  |none=>rfl
  |some l=>
    simp only [Option.map_some,Option.getD_some,List.getElem?_map]
    cases l[j]? with
    |none=>rfl
    |some x=>rfl
theorem rows_len {A:List (List (Option Rat))} {i:Nat}:((A.map fun l=>l.map fun x=>x.getD 0).getD i []).length=(A.getD i []).length:=by
  simp only [List.getD_eq_getElem?_getD,List.getElem?_map]
  cases A[i]? with
  |none=>rfl
  |some l=>simp
theorem qF_raw {R:List Fa} {k:Bool} {u v:Wd} {q:Rat} (i:Nat) (hi:R[i]? =some (qF k u v q)):∀g,Holds g R→∃x:List Int×List Int,(x.1.length=u.n∧x.2.length=v.n)∧Holds g [slF (rI .u32) u.p u.c x.1,slF (rI .u32) v.p v.c x.2]:=fun g hr=>by
  obtain ⟨y,a,b,_⟩:=Holds.get i hi hr
  exact ⟨(y.1.2,y.2.2),⟨a.2.1.symm,b.2.1.symm⟩,a.2.2.2,b.2.2.2,trivial⟩
end Go.Proofs.YtpdbimfnhglhpaaGreat.Sp
namespace Go.Proofs.YtpdbimfnhglhpaaGreat.Sp
open Go
theorem addQE {R:List Fa} {p:Option Addr} {c:Nat} {l:List Rat} (i:Nat) (hi:R[i]? =some (slF rQ p c l)):∀g,Holds g R→Holds g (slF rE p c (l.map some) :: R):=fun g h=>⟨slF_QE i hi g h,h⟩
theorem addQe {R:List Fa} {u v:Wd} {q:Rat} (i:Nat) (hi:R[i]? =some (qF true u v q)):∀g,Holds g R→Holds g (eF u v (some q) :: R):=fun g h=>⟨qF_e (Holds.get i hi h),h⟩
section
variable {P : Program} {n : Sz} {m : Fm} {O : List As} {R : List Fa} {d : Option Tmp} {ty : TypeId} {ps : String} {af : Array Edge} {gd : Option (Nat × Bool)}
theorem zdf {t e:TypeId} {sz:Nat} {p:Option Addr} {len cap hi:Nat} {k1 k2:IntKind} {w:World} (hu:P.underlying t=some (.slice e)) (ht:(P.info? e).map (·.size)=some sz) (hhc:hi≤cap):
    (Instr.sliceAt t (.slice p len cap) none (some (.int k1 (hi:Int))) (some (.int k2 (hi:Int)))).run P w= .ok (.slice p hi hi) w:=by
  have a2:(hi:Int)≤(cap:Int):=by omega
  have h0:p.map (·.add 0)=p:=by cases p <;> simp [Addr.add]
  simp [Instr.sliceAt,Instr.slice,Instr.sliceBounds,Instr.sliceBound,asIntOf,run_underlying hu,zCa ht,hhc,h0]
theorem zag {t e:TypeId} {x y z:Operand} {k1 k2:IntKind} {sz hi k cap:Nat} {p:Option Addr} (hu:P.underlying t=some (.slice e)) (ht:(P.info? e).map (·.size)=some sz) (h0:evo m x=some (.slice p k cap)) (h1:evo m y=some (.int k1 (hi:Int))) (h2:evo m z=some (.int k2 (hi:Int))) (hhc:hi≤cap):
    PV P n ⟨d,.slice t x none (some y) (some z),ty,ps,af,gd⟩ m (.slice p hi hi):=fun a w f=>by
  have:=zdf (P:=P) (p:=p) (len:=k) (w:=w) (k1:=k1) (k2:=k2) hu ht hhc
  simp only [execOp,f.ev h0,f.ev h1,f.ev h2,Option.map_none,Option.map_some,Sem.run_bind,this,Result.andThen_ok,Sem.run_pure]
theorem Sl.take3 {α:Type} {r:Rp α} {g:Hp} {p:Option Addr} {cap:Nat} {xs:List α} (s:Sl r g p cap xs) (n:Nat) (hn:n≤xs.length):Sl r g p n (xs.take n):=by
  obtain ⟨h1,h2,h3,h4⟩:=s
  refine ⟨by rw [List.length_take];omega,by omega,fun e=>by have:=h3 e;omega,fun i x e=> ?_⟩
  rw [List.getElem?_take] at e
  by_cases h:i<n
  · rw [if_pos h] at e;exact h4 i x e
  · rw [if_neg h] at e;cases e
theorem zbg {α:Type} {r:Rp α} {p:Option Addr} {cap:Nat} {xs:List α} (i:Nat) (hi:R[i]? =some (slF r p cap xs)) (n:Nat) (hn:n≤xs.length):∀g,Holds g R→Holds g (slF r p n (xs.take n) :: R):=fun g h=>⟨Sl.take3 (Holds.get i hi h:Sl r g p cap xs) n hn,h⟩
end
end Go.Proofs.YtpdbimfnhglhpaaGreat.Sp
namespace Go.Proofs.YtpdbimfnhglhpaaGreat.Sp
open Go
set_option linter.unusedVariables false
theorem ee_n {g:Hp} {u v:Wd} {x:Option Rat} (h:(eF u v x).on g):u.n≤1099511627776∧v.n≤1099511627776:=by
  obtain ⟨y,a,b,rfl⟩:=h
  have h1:=a.2.1;have h2:=b.2.1;have h3:=a.2.2.1;have h4:=b.2.2.1
  omega
end Go.Proofs.YtpdbimfnhglhpaaGreat.Sp
namespace Go.Proofs.YtpdbimfnhglhpaaGreat.Sp
open Go
set_option linter.unusedVariables false
set_option maxRecDepth 100000
set_option maxHeartbeats 8000000
theorem zme {u1:Wd} {v1:Wd} {x1:Option Rat}:Con yd 88 [.agg #[u1.b,u1.l,v1.b,v1.l]] [] [eF u1 v1 (x1)] (Y:=Unit) (fun y=>True) (fun y=> .bool (x1.isSome)) (fun y=>[]) (fun y=>[]):=by
  exact zTg (fun y hy h1 h2=>by subst hy;have h:= @zlc y.1.1 u1.p _ u1.c y.1.2 y.2.1 v1.p _ v1.c y.2.2 rfl rfl h1 h2;rw [qo_s];exact h)
theorem zne {u1:Wd} {v1:Wd} {x1:Option Rat}:Con yd 161 [.agg #[u1.b,u1.l,v1.b,v1.l]] [] [eF u1 v1 x1] (Y:=Bool) (fun y=>(y=false→x1.isSome=true)) (fun y=> .bool y) (fun y=>[]) (fun y=>[]):=by
 refine zk Tryz.func161 rfl rfl rfl (fun c=> ?_)
 show RunC _ _ _ _ _ [(0,.agg #[u1.b,u1.l,v1.b,v1.l])] [] [eF u1 v1 x1]
 refine ze<|za<|zM rfl rfl (zT rfl rfl) (fun b1=> ?_)
 refine e_p (zb rfl)<|zf<|zc<|ze<|za<|e_ru (zd 0 ty32 rfl rfl (.t4 .nil))<|zR rfl rfl (.c rfl .n) ce88 (zme (u1:=u1) (v1:=v1) (x1:=x1)) (.c (j:=0) rfl .n)<|e_p (zUa rfl)<|e_p (zb rfl)<|zf<|zc<|zG ?_
 exact zx Tryz.results161 (!x1.isSome) (by simp) (zo rfl) rfl (ho:=oN) sN
theorem zef {p:Option Addr} {n:Nat} {cap:Nat} {lo:List (Option Rat)} (hn:lo.length=n):Con yd 211 [.slice p n cap,.func (.func 161) #[] #[]] [] [slF rE p cap lo] (Y:=Int) (fun y=>(y<0→∀j,j<n→(lo.getD j none).isSome=true)) (fun y=> .int .i64 y) (fun y=>[]) (fun y=>[]):=by
 refine zk Tryz.func211 rfl rfl rfl (fun c=> ?_)
 show RunC _ _ _ _ _ [(0,.slice p n cap),(1,.func (.func 161) #[] #[])] [] [slF rE p cap lo]
 refine zP 0 rfl (fun hL0=> ?_)
 refine ze<|za<|e_p (zb rfl)<|zf<|zc<|ze<|ze<|za<|e_mv rfl<|e_p (zv yb rfl)<|e_mv rfl<|zf<|zc<|zt<|zca (X:=Nat) (fun x:Nat=>x≤n∧∀j,j<x→(lo.getD j none).isSome=true) (fun x=>[(8,.int .i64 ((x:Nat):Int)),(7,.int .i64 ((n:Nat):Int)),(0,.slice p n cap),(1,.func (.func 161) #[] #[])]) (fun x=>[]) (fun x=>[slF rE p cap lo]) (fun x:Nat=>n - x) 0 (show 0≤n∧∀j,j<0→(lo.getD j none).isSome=true from by exact ⟨Nat.zero_le _,fun j h=>by omega⟩) ((.e rfl cgs (.of rfl)):SubM _ _) (ho:=oN) (s0 rfl) ?_
 rintro i hI
 replace hI:i≤n∧∀j,j<i→(lo.getD j none).isSome=true:=hI
 try dsimp only
 obtain ⟨hi,hall⟩:=hI
 refine ze<|za<|e_p (zY rfl rfl)<|zf<|zc<|ze<|zD rfl (fun h1=> ?_) (fun h1=> ?_)
 ·
  refine zw<|zc<|ze<|zt<|ze<|za<|e_mv rfl<|e_p (zb rfl)<|zf<|zc<|ze<|za<|e_mv rfl<|e_mv rfl<|e_mv rfl<|r_vl rfl rfl (zQ (x0:=(lo.getD i (none:Option Rat))) 0 i rfl yb sz32 rfl cbo rfl rfl (gD (d:=(none:Option Rat)) om)) ?_
  rintro ⟨b2,o3,w4,w5⟩ -
  dsimp only [aq,nq,cq]
  refine zqa open_rE<|e_ru (zO (j:=0) 0 ty32 rfl rfl rfl (.t4 .nil))<|zsc (first:=[]) (cap:=[]) rfl rfl rfl (.c rfl .n) ce161 (zne (u1:=w4) (v1:=w5) (x1:=(lo.getD i (none:Option Rat)))) (.c (j:=2) rfl .n) ?_
  rintro b96 hcn
  dsimp only [aq,nq,cq]
  replace hcn:(b96=false→(lo.getD i (none:Option Rat)).isSome=true):=hcn
  refine zf<|zc<|zXa rfl (fun h16=> ?_) (fun h16=> ?_)
  ·
   refine ze<|za<|e_mv rfl<|e_p (zb rfl)<|zf<|zc<|zG<|zX<|zu<|zu<|zX<|zu ?_
   exact zx Tryz.results211 ((i:Nat):Int) (fun k=>by omega) (zo rfl) rfl (ho:=oN) sN
  ·
   refine zw<|zK<|zc<|za<|e_p (zJ (z:=(((i+1):Nat):Int)) rfl rfl (w64 om))<|e_mv rfl<|zf<|zV (i+1) (show (i+1)≤n∧∀j,j<(i+1)→(lo.getD j none).isSome=true from by refine ⟨by omega,fun j hj=> ?_⟩;by_cases e:j=i;subst e;exact hcn (by simpa using h16);exact hall j om) (by show n - (i+1)<n - i;omega) (mR rfl) (ho:=oN) ((.c (j:=3) rfl .n):SelR _ _ _)
 ·
  refine zaa<|zg<|zg<|zp<|zc<|ze<|za<|e_p (zb rfl)<|zf<|zc<|zG ?_
  exact zx Tryz.results211 (-1) (fun _ j hj=>hall j om) (zo rfl) rfl (ho:=oN) sN
theorem zff {p:Option Addr} {n:Nat} {cap:Nat} {lo:List (Option Rat)} (hn:lo.length=n):Con yd 132 [.slice p n cap,.func (.func 161) #[] #[]] [] [slF rE p cap lo] (Y:=Bool) (fun y=>(y=false→∀j,j<n→(lo.getD j none).isSome=true)) (fun y=> .bool y) (fun y=>[]) (fun y=>[]):=by
 refine zk Tryz.func132 rfl rfl rfl (fun c=> ?_)
 show RunC _ _ _ _ _ [(0,.slice p n cap),(1,.func (.func 161) #[] #[])] [] [slF rE p cap lo]
 refine zP 0 rfl (fun hL0=> ?_)
 refine ze<|za<|e_p (zb rfl)<|zf<|zc<|ze<|za<|e_mv rfl<|e_mv rfl<|zm rfl rfl (.c rfl (.c rfl .n)) ce211 (zef (p:=p) (n:=n) (cap:=cap) (lo:=lo) (hn:=ass)) (.c (j:=0) rfl .n) ?_
 rintro r91 hif
 dsimp only [aq,nq,cq]
 replace hif:(r91<0→∀j,j<n→(lo.getD j none).isSome=true):=hif
 refine e_p (zTa rfl rfl)<|e_p (zb rfl)<|zf<|zc<|zG ?_
 exact zx Tryz.results132 (decide (0≤r91)) (fun k=>hif (by have:=of_decide_eq_false k;omega)) (zo rfl) rfl (ho:=oN) sN
theorem zoe {p:Option Addr} {n:Nat} {cap:Nat} {lo:List (Option Rat)} (hn:lo.length=n):Con yd 74 [.slice p n cap] [] [slF rE p cap lo] (Y:=Bool) (fun y=>(y=true→∀j,j<n→(lo.getD j none).isSome=true)) (fun y=> .bool y) (fun y=>[]) (fun y=>[]):=by
 refine zk Tryz.func74 rfl rfl rfl (fun c=> ?_)
 show RunC _ _ _ _ _ [(0,.slice p n cap)] [] [slF rE p cap lo]
 refine zP 0 rfl (fun hL0=> ?_)
 refine ze<|za<|e_p (zb rfl)<|zf<|zc<|ze<|za<|e_mv rfl<|zm rfl rfl (.c rfl (.c rfl .n)) ce132 (zff (p:=p) (n:=n) (cap:=cap) (lo:=lo) (hn:=ass)) (.c (j:=0) rfl .n) ?_
 rintro b91 hcf
 dsimp only [aq,nq,cq]
 replace hcf:(b91=false→∀j,j<n→(lo.getD j none).isSome=true):=hcf
 refine e_p (zUa rfl)<|e_p (zb rfl)<|zf<|zc<|zG ?_
 exact zx Tryz.results74 (!b91) (fun k=>hcf (by simpa using k)) (zo rfl) rfl (ho:=oN) sN
theorem zQd {p:Option Addr} {n:Nat} {cap:Nat} {lo:List (Option Rat)} {bM:Nat} {pM:Option Addr} {nM:Nat} {cM:Nat} {M:List (List (Option Rat))} (hn:lo.length=n) (hnM:M.length=nM) (hM1:1≤nM):Con yd 73 [.slice p n cap,.pointer (some ⟨bM,0,none⟩)] [] [slF rE p cap lo,atF bM 0 [.slice pM nM cM],slF (rS rE) pM cM M] (Y:=Bool) (fun y=>(y=false→n=(M.getD 0 []).length∧∀j,j<n→(lo.getD j none).isSome=true)) (fun y=> .bool y) (fun y=>[]) (fun y=>[]):=by
 refine zk Tryz.func73 rfl rfl rfl (fun c=> ?_)
 show RunC _ _ _ _ _ [(0,.slice p n cap),(1,.pointer (some ⟨bM,0,none⟩))] [] [slF rE p cap lo,atF bM 0 [.slice pM nM cM],slF (rS rE) pM cM M]
 refine zP 0 rfl (fun hL0=> ?_)
 refine zP 2 rfl (fun hL2=> ?_)
 refine ze<|za<|e_p (zb rfl)<|zf<|zc<|zab (X:=Bool) (fun x=>(x=false→n=(M.getD 0 []).length∧∀j,j<n→(lo.getD j none).isSome=true)) (fun x=>[(3,.bool x)]) (fun x=>[]) (fun x=>[slF rE p cap lo,atF bM 0 [.slice pM nM cM],slF (rS rE) pM cM M]) ?_ ?_
 ·
  refine za<|e_mv rfl<|e_p (zv yb rfl)<|e_ru (zh (j:=0) 1 ty60 rfl rfl rfl rfl)<|r_vl rfl rfl (zQ (x0:=(M.getD 0 [])) 2 0 rfl ya sz62 rfl cbo rfl rfl (gD (d:=[]) om)) ?_
  rintro ⟨b1,o2,p3,c4⟩ -
  dsimp only [aq,nq,cq]
  refine e_ru (zh (j:=0) 0 ty62 rfl rfl rfl rfl)<|e_p (zv yb rfl)<|e_p (zxa rfl rfl)<|zga rfl rfl (zja rfl) (fun h5=> ?_) (fun h5=> ?_)
  ·
   refine e_no<|e_no<|e_no<|e_p (zE rfl rfl)<|e_p (zb rfl)<|zf ?_
   exact zla true (show (true=false→n=(M.getD 0 []).length∧∀j,j<n→(lo.getD j none).isSome=true) from by first|(intro e;cases e;done)|(intro e;exact ⟨by omega,hca (by simpa using e)⟩)) ((.e rfl (congrArg Value.bool cbu) .n):SubM _ _) (ho:=oN) ((.of [2,3,4] rfl):SelR _ _ _)
  ·
   refine e_mv rfl<|zm rfl rfl (.c rfl .n) ce74 (zoe (p:=p) (n:=n) (cap:=cap) (lo:=lo) (hn:=ass)) (.c (j:=2) rfl .n) ?_
   rintro b96 hca
   dsimp only [aq,nq,cq]
   replace hca:(b96=true→∀j,j<n→(lo.getD j none).isSome=true):=hca
   refine e_p (zUa rfl)<|e_p (zE rfl rfl)<|e_p (zb rfl)<|zf ?_
   exact zla (!b96) (show ((!b96)=false→n=(M.getD 0 []).length∧∀j,j<n→(lo.getD j none).isSome=true) from by first|(intro e;cases e;done)|(intro e;exact ⟨by omega,hca (by simpa using e)⟩)) ((.c rfl .n):SubM _ _) (ho:=oN) ((.of [2,3,4] rfl):SelR _ _ _)
 ·
  rintro g9 hC
  replace hC:(g9=false→n=(M.getD 0 []).length∧∀j,j<n→(lo.getD j none).isSome=true):=hC
  try dsimp only
  refine zG ?_
  exact zx Tryz.results73 g9 hC (zo rfl) rfl (ho:=oN) sN
theorem zgf {bM:Nat} {pM:Option Addr} {nM:Nat} {cM:Nat} {M:List (List (Option Rat))} (hnM:M.length=nM) (hM1:1≤nM):Con yd 160 [.slice pM nM cM,.func (.func 73) #[] #[.pointer (some ⟨bM,0,none⟩)]] [] [atF bM 0 [.slice pM nM cM],slF (rS rE) pM cM M] (Y:=Int) (fun y=>(y<0→∀i,i<nM→(M.getD i []).length=(M.getD 0 []).length∧∀j,j<(M.getD i []).length→((M.getD i []).getD j none).isSome=true)) (fun y=> .int .i64 y) (fun y=>[]) (fun y=>[]):=by
 refine zk Tryz.func160 rfl rfl rfl (fun c=> ?_)
 show RunC _ _ _ _ _ [(0,.slice pM nM cM),(1,.func (.func 73) #[] #[.pointer (some ⟨bM,0,none⟩)])] [] [atF bM 0 [.slice pM nM cM],slF (rS rE) pM cM M]
 refine zP 1 rfl (fun hL1=> ?_)
 refine ze<|za<|e_p (zb rfl)<|zf<|zc<|ze<|ze<|za<|e_mv rfl<|e_p (zv ya rfl)<|e_mv rfl<|zf<|zc<|zt<|zca (X:=Nat) (fun x:Nat=>x≤nM∧∀k,k<x→(M.getD k []).length=(M.getD 0 []).length∧∀j,j<(M.getD k []).length→((M.getD k []).getD j none).isSome=true) (fun x=>[(8,.int .i64 ((x:Nat):Int)),(7,.int .i64 ((nM:Nat):Int)),(0,.slice pM nM cM),(1,.func (.func 73) #[] #[.pointer (some ⟨bM,0,none⟩)])]) (fun x=>[]) (fun x=>[atF bM 0 [.slice pM nM cM],slF (rS rE) pM cM M]) (fun x:Nat=>nM - x) 0 (show 0≤nM∧∀k,k<0→(M.getD k []).length=(M.getD 0 []).length∧∀j,j<(M.getD k []).length→((M.getD k []).getD j none).isSome=true from by exact ⟨Nat.zero_le _,fun j h=>by omega⟩) ((.e rfl cgs (.of rfl)):SubM _ _) (ho:=oN) ((.of [0,1] rfl):SelR _ _ _) ?_
 rintro i hI
 replace hI:i≤nM∧∀k,k<i→(M.getD k []).length=(M.getD 0 []).length∧∀j,j<(M.getD k []).length→((M.getD k []).getD j none).isSome=true:=hI
 try dsimp only
 obtain ⟨hi,hall⟩:=hI
 refine ze<|za<|e_p (zY rfl rfl)<|zf<|zc<|ze<|zD rfl (fun h1=> ?_) (fun h1=> ?_)
 ·
  refine zw<|zc<|ze<|zt<|ze<|za<|e_mv rfl<|e_p (zb rfl)<|zf<|zc<|ze<|za<|e_mv rfl<|e_mv rfl<|e_mv rfl<|r_vl rfl rfl (zQ (x0:=(M.getD i [])) 1 i rfl ya sz62 rfl cbo rfl rfl (gD (d:=[]) om)) ?_
  rintro ⟨b2,o3,p4,c5⟩ -
  dsimp only [aq,nq,cq]
  refine e_ru (zh (j:=0) 0 ty62 rfl rfl rfl rfl)<|zsc (first:=[]) (cap:=[.pointer (some ⟨bM,0,none⟩)]) rfl rfl rfl (.c rfl .n) ce73 (zQd (p:=p4) (n:=(M.getD i []).length) (cap:=c5) (lo:=(M.getD i [])) (bM:=bM) (pM:=pM) (nM:=nM) (cM:=cM) (M:=M) (hn:=cbo) (hnM:=ass) (hM1:=ass)) (.c (j:=1) rfl (.c (j:=2) rfl (.c (j:=3) rfl .n))) ?_
  rintro b96 hck
  dsimp only [aq,nq,cq]
  replace hck:(b96=false→((M.getD i []).length)=(M.getD 0 []).length∧∀j,j<((M.getD i []).length)→((M.getD i []).getD j none).isSome=true):=hck
  refine zf<|zc<|zXa rfl (fun h16=> ?_) (fun h16=> ?_)
  ·
   refine ze<|za<|e_mv rfl<|e_p (zb rfl)<|zf<|zc<|zG<|zX<|zu<|zu<|zX<|zu ?_
   exact zx Tryz.results160 ((i:Nat):Int) (fun k=>by omega) (zo rfl) rfl (ho:=oN) sN
  ·
   refine zw<|zK<|zc<|za<|e_p (zJ (z:=(((i+1):Nat):Int)) rfl rfl (w64 om))<|e_mv rfl<|zf<|zV (i+1) (show (i+1)≤nM∧∀k,k<(i+1)→(M.getD k []).length=(M.getD 0 []).length∧∀j,j<(M.getD k []).length→((M.getD k []).getD j none).isSome=true from by refine ⟨by omega,fun k hk=> ?_⟩;by_cases e:k=i;subst e;exact hck (by simpa using h16);exact hall k om) (by show nM - (i+1)<nM - i;omega) (mR rfl) (ho:=oN) ((.of [2,3] rfl):SelR _ _ _)
 ·
  refine zaa<|zg<|zg<|zp<|zc<|ze<|za<|e_p (zb rfl)<|zf<|zc<|zG ?_
  exact zx Tryz.results160 (-1) (fun _ k hk=>hall k om) (zo rfl) rfl (ho:=oN) sN
theorem zhf {bM:Nat} {pM:Option Addr} {nM:Nat} {cM:Nat} {M:List (List (Option Rat))} (hnM:M.length=nM) (hM1:1≤nM):Con yd 72 [.slice pM nM cM,.func (.func 73) #[] #[.pointer (some ⟨bM,0,none⟩)]] [] [atF bM 0 [.slice pM nM cM],slF (rS rE) pM cM M] (Y:=Bool) (fun y=>(y=false→∀i,i<nM→(M.getD i []).length=(M.getD 0 []).length∧∀j,j<(M.getD i []).length→((M.getD i []).getD j none).isSome=true)) (fun y=> .bool y) (fun y=>[]) (fun y=>[]):=by
 refine zk Tryz.func72 rfl rfl rfl (fun c=> ?_)
 show RunC _ _ _ _ _ [(0,.slice pM nM cM),(1,.func (.func 73) #[] #[.pointer (some ⟨bM,0,none⟩)])] [] [atF bM 0 [.slice pM nM cM],slF (rS rE) pM cM M]
 refine zP 1 rfl (fun hL1=> ?_)
 refine ze<|za<|e_p (zb rfl)<|zf<|zc<|ze<|za<|e_mv rfl<|e_mv rfl<|zm rfl rfl (.c rfl (.c rfl .n)) ce160 (zgf (bM:=bM) (pM:=pM) (nM:=nM) (cM:=cM) (M:=M) (hnM:=ass) (hM1:=ass)) (.c (j:=0) rfl (.c (j:=1) rfl .n)) ?_
 rintro r91 hif
 dsimp only [aq,nq,cq]
 replace hif:(r91<0→∀i,i<nM→(M.getD i []).length=(M.getD 0 []).length∧∀j,j<(M.getD i []).length→((M.getD i []).getD j none).isSome=true):=hif
 refine e_p (zTa rfl rfl)<|e_p (zb rfl)<|zf<|zc<|zG ?_
 exact zx Tryz.results72 (decide (0≤r91)) (fun k=>hif (by have:=of_decide_eq_false k;omega)) (zo rfl) rfl (ho:=oN) sN
theorem zpe {pM:Option Addr} {nM:Nat} {cM:Nat} {M:List (List (Option Rat))} (hnM:M.length=nM):Con yd 19 [.slice pM nM cM] [] [slF (rS rE) pM cM M] (Y:=Int) (fun y=>(y=0→((1≤nM∧nM≤64)∧1≤(M.getD 0 []).length∧(M.getD 0 []).length≤64)∧∀i,i<nM→(M.getD i []).length=(M.getD 0 []).length∧∀j,j<(M.getD i []).length→((M.getD i []).getD j none).isSome=true)) (fun y=> .int .i64 y) (fun y=>[]) (fun y=>[]):=by
 refine zk Tryz.func19 rfl rfl rfl (fun c=> ?_)
 show RunC _ _ _ _ _ [(0,.slice pM nM cM)] [] [slF (rS rE) pM cM M]
 refine zP 0 rfl (fun hL0=> ?_)
 refine ze<|za<|zM rfl rfl (zT rfl rfl) (fun b1=> ?_)
 refine e_p (zb rfl)<|zf<|zc<|ze<|zab (X:=Bool) (fun x=>(x=false→(1≤nM∧nM≤64)∧1≤(M.getD 0 []).length∧(M.getD 0 []).length≤64)) (fun x=>[(24,.bool x),(2,.int .i64 0),(1,.pointer (some ⟨b1,0,none⟩))]) (fun x=>[boxA b1 60 [.slice pM nM cM]]) (fun x=>[slF (rS rE) pM cM M]) ?_ ?_
 ·
  refine za<|e_ru (zi 0 ty60 rfl rfl rfl)<|e_p (zv ya rfl)<|e_p (zY rfl rfl)<|zga rfl rfl (zja rfl) (fun h2=> ?_) (fun h2=> ?_)
  ·
   refine e_no<|e_no<|e_no<|e_p (zE rfl rfl)<|e_mv rfl<|e_no<|e_no<|e_no<|e_no<|e_no<|e_p (zE rfl rfl)<|e_mv rfl<|e_no<|e_no<|e_no<|e_no<|e_no<|e_p (zE rfl rfl)<|zf ?_
   exact zla true (show (true=false→(1≤nM∧nM≤64)∧1≤(M.getD 0 []).length∧(M.getD 0 []).length≤64) from by first|(intro e;cases e;done)|(intro e;have h9:=of_decide_eq_false e;exact ⟨⟨by omega,by omega⟩,by omega,by omega⟩)) ((.e rfl (congrArg Value.bool cbu) (.c rfl (.c rfl .n))):SubM _ _) (ho:=(o0 rfl)) (s0 rfl)
  ·
   refine e_ru (zi 0 ty60 rfl rfl rfl)<|e_p (zv ya rfl)<|e_p (zra rfl rfl)<|e_p (zE rfl rfl)<|zga rfl rfl (zja rfl) (fun h3=> ?_) (fun h3=> ?_)
   ·
    refine e_no<|e_no<|e_no<|e_no<|e_no<|e_p (zE rfl rfl)<|e_mv rfl<|e_no<|e_no<|e_no<|e_no<|e_no<|e_p (zE rfl rfl)<|zf ?_
    exact zla true (show (true=false→(1≤nM∧nM≤64)∧1≤(M.getD 0 []).length∧(M.getD 0 []).length≤64) from by first|(intro e;cases e;done)|(intro e;have h9:=of_decide_eq_false e;exact ⟨⟨by omega,by omega⟩,by omega,by omega⟩)) ((.e rfl (congrArg Value.bool cbu) (.c rfl (.c rfl .n))):SubM _ _) (ho:=(o0 rfl)) (s0 rfl)
   ·
    refine e_ru (zi 0 ty60 rfl rfl rfl)<|r_vl rfl rfl (zQ (x0:=(M.getD 0 [])) 0 0 rfl ya sz62 rfl cbo rfl rfl (gD (d:=[]) om)) ?_
    rintro ⟨b4,o5,p6,c7⟩ -
    dsimp only [aq,nq,cq]
    refine e_ru (zh (j:=0) 0 ty62 rfl rfl rfl rfl)<|e_p (zv yb rfl)<|e_p (zY rfl rfl)<|e_p (zE rfl rfl)<|zga rfl rfl (zja rfl) (fun h8=> ?_) (fun h8=> ?_)
    ·
     refine e_no<|e_no<|e_no<|e_no<|e_no<|e_p (zE rfl rfl)<|zf ?_
     exact zla true (show (true=false→(1≤nM∧nM≤64)∧1≤(M.getD 0 []).length∧(M.getD 0 []).length≤64) from by first|(intro e;cases e;done)|(intro e;have h9:=of_decide_eq_false e;exact ⟨⟨by omega,by omega⟩,by omega,by omega⟩)) ((.e rfl (congrArg Value.bool cbu) (.c rfl (.c rfl .n))):SubM _ _) (ho:=(o0 rfl)) ((.c (j:=2) rfl .n):SelR _ _ _)
    ·
     refine e_ru (zi 0 ty60 rfl rfl rfl)<|r_vl rfl rfl (zQ (x0:=(M.getD 0 [])) 2 0 rfl ya sz62 rfl cbo rfl rfl (gD (d:=[]) om)) ?_
     rintro ⟨b9,o10,p11,c12⟩ -
     dsimp only [aq,nq,cq]
     refine e_ru (zh (j:=0) 0 ty62 rfl rfl rfl rfl)<|e_p (zv yb rfl)<|e_p (zra rfl rfl)<|e_p (zE rfl rfl)<|zf ?_
     exact zla (decide (64<(((M.getD 0 []).length:Nat):Int))) (show ((decide (64<(((M.getD 0 []).length:Nat):Int)))=false→(1≤nM∧nM≤64)∧1≤(M.getD 0 []).length∧(M.getD 0 []).length≤64) from by first|(intro e;cases e;done)|(intro e;have h9:=of_decide_eq_false e;exact ⟨⟨by omega,by omega⟩,by omega,by omega⟩)) (mR rfl) (ho:=(o0 rfl)) ((.c (j:=4) rfl .n):SelR _ _ _)
 ·
  rintro g9 hC
  replace hC:(g9=false→(1≤nM∧nM≤64)∧1≤(M.getD 0 []).length∧(M.getD 0 []).length≤64):=hC
  try dsimp only
  refine zXa rfl (fun h24=> ?_) (fun h24=> ?_)
  ·
   refine ze<|za<|e_p (zb rfl)<|zf<|zc<|zG<|zu ?_
   exact zx yo 1 (fun k=>by omega) (zo rfl) rfl (ho:=oN) sN
  ·
   have hC1:=hC (by simpa using h24)
   refine zw<|zc<|ze<|ze<|zDa 0 rfl .z<|za<|e_ru (zh (j:=0) 0 ty60 rfl rfl rfl rfl)<|e_p (zEa .n (.c rfl .n))<|zm rfl rfl (.c rfl (.c rfl .n)) ce72 (zhf (bM:=b1) (pM:=pM) (nM:=nM) (cM:=cM) (M:=M) (hnM:=ass) (hM1:=cbo)) (.c (j:=0) rfl (.c (j:=1) rfl .n)) ?_
   rintro b913 hcf
   dsimp only [aq,nq,cq]
   replace hcf:(b913=false→∀i,i<nM→(M.getD i []).length=(M.getD 0 []).length∧∀j,j<(M.getD i []).length→((M.getD i []).getD j none).isSome=true):=hcf
   refine zf<|zc<|zXa rfl (fun h27=> ?_) (fun h27=> ?_)
   ·
    refine ze<|za<|e_p (zb rfl)<|zf<|zc<|zG<|zu ?_
    exact zx yo 1 (fun k=>by omega) (zo rfl) rfl (ho:=oN) sN
   ·
    refine zw<|zc<|ze<|za<|e_p (zb rfl)<|zf<|zc<|zG ?_
    exact zx yo 0 (fun _=>⟨hC1,hcf (by simpa using h27)⟩) (zo rfl) rfl (ho:=oN) sN
theorem zqe {u1:Wd} {v1:Wd} (h1:u1.n≤1099511627776) (h2:v1.n≤1099511627776):Con yd 162 [.agg #[u1.b,u1.l,v1.b,v1.l]] [] [] (Y:=Unit) (fun y=>True) (fun y=> .int .i64 (((u1.n+v1.n):Nat):Int)) (fun y=>[]) (fun y=>[]):=by
 refine zk Tryz.func162 rfl rfl rfl (fun c=> ?_)
 show RunC _ _ _ _ _ [(0,.agg #[u1.b,u1.l,v1.b,v1.l])] [] []
 refine ze<|za<|zM rfl rfl (zT rfl rfl) (fun b1=> ?_)
 refine e_p (zb rfl)<|zf<|zc<|ze<|za<|e_p (zj yc rfl sz30 rfl rfl)<|e_p (zj yh rfl sz28 rfl rfl)<|e_ru (zi 0 ty28 rfl rfl rfl)<|e_p (zv ye rfl)<|e_p (zj yc rfl sz30 rfl rfl)<|e_p (zj yh rfl sz28 rfl rfl)<|e_ru (zi 0 ty28 rfl rfl rfl)<|e_p (zv ye rfl)<|e_p (zJ (z:=(((u1.n+v1.n):Nat):Int)) rfl rfl (w64 om))<|e_p (zb rfl)<|zf<|zc<|zG ?_
 exact zx Tryz.results162 () trivial (zo rfl) rfl (ho:=oN) sN
theorem zif {s:Bool} {p1:Option Addr} {n1:Nat} {c1:Nat} {l1:List Int} {t:Bool} {p2:Option Addr} {n2:Nat} {c2:Nat} {l2:List Int} (hn1:l1.length=n1) (hn2:l2.length=n2) (hm1:n1≤1099511627776) (hm2:n2≤1099511627776):Con yd 163 [.agg #[.bool s,.slice p1 n1 c1,.bool t,.slice p2 n2 c2]] [] [slF (rI .u32) p1 c1 l1,slF (rI .u32) p2 c2 l2] (Y:=Bool) (fun y=>(y=true→yg ((qo ((s,l1),(t,l2))).getD 0)≤1)) (fun y=> .bool y) (fun y=>[]) (fun y=>[]):=by
 refine zk Tryz.func163 rfl rfl rfl (fun c=> ?_)
 show RunC _ _ _ _ _ [(0,.agg #[.bool s,.slice p1 n1 c1,.bool t,.slice p2 n2 c2])] [] [slF (rI .u32) p1 c1 l1,slF (rI .u32) p2 c2 l2]
 refine zP 0 rfl (fun hL0=> ?_)
 refine zOa 0 rfl (fun hE0=> ?_)
 refine zP 1 rfl (fun hL1=> ?_)
 refine zOa 1 rfl (fun hE1=> ?_)
 have hnn1:Big.nn l1:=fun g hg=>(zy.1 (hE0 g hg)).1
 have hnn2:Big.nn l2:=fun g hg=>(zy.1 (hE1 g hg)).1
 refine ze<|za<|zM rfl rfl (zT rfl rfl) (fun b1=> ?_)
 refine e_p (zb rfl)<|zf<|zc<|ze<|zW (OW:=[]) (O:=[boxA b1 32 [.bool s,.slice p1 n1 c1,.bool t,.slice p2 n2 c2]]) 100000 mixed (.then .ret) kr<|e_pv 0 rfl rfl (zj yc rfl sz30 rfl rfl)<|e_pv 1 rfl rfl (zj yh rfl sz28 rfl rfl)<|e_u 2 rfl rfl (zi 0 ty28 rfl rfl rfl)<|e_pv 3 rfl rfl (zj yc rfl sz30 rfl rfl)<|e_pv 4 rfl rfl (zj yh rfl sz28 rfl rfl)<|e_u 5 rfl rfl (zi 0 ty28 rfl rfl rfl)<|e_pv 6 rfl rfl (zb rfl)<|e_pv 7 rfl rfl (zb rfl)<|zU kr<|zc<|ze<|zab (X:=Unit) (fun x=>True) (fun x=>[(18,.bool (decide (1<n1∨1<n2))),(4,.slice p2 n2 c2),(3,.slice p1 n1 c1),(2,.bool false)]) (fun x=>[boxA b1 32 [.bool s,.slice p1 n1 c1,.bool t,.slice p2 n2 c2]]) (fun x=>[slF (rI .u32) p1 c1 l1,slF (rI .u32) p2 c2 l2]) ?_ ?_
 ·
  refine za<|e_mv rfl<|e_p (zv ye rfl)<|e_p (zra rfl rfl)<|zga rfl rfl (zja rfl) (fun h2=> ?_) (fun h2=> ?_)
  ·
   refine e_no<|e_no<|e_no<|e_p (zE rfl rfl)<|zf ?_
   exact zla () tt9 ((.e rfl (congrArg Value.bool (by first|exact (decide_eq_true om).symm|exact decide_eq_decide.2 om)) (.of rfl)):SubM _ _) (ho:=(o0 rfl)) ((.of [0,1] rfl):SelR _ _ _)
  ·
   refine e_mv rfl<|e_p (zv ye rfl)<|e_p (zra rfl rfl)<|e_p (zE rfl rfl)<|zf ?_
   exact zla () tt9 ((.e rfl (congrArg Value.bool (by first|exact (decide_eq_true om).symm|exact decide_eq_decide.2 om)) (.of rfl)):SubM _ _) (ho:=(o0 rfl)) ((.of [0,1] rfl):SelR _ _ _)
 ·
  rintro ⟨⟩ -
  try dsimp only
  refine zD rfl (fun h18=> ?_) (fun h18=> ?_)
  ·
   refine ze<|za<|e_p (zb rfl)<|zf<|zc<|zG<|zu ?_
   exact zx Tryz.results163 false (fun k=>by cases k) (zo rfl) rfl (ho:=oN) sN
  ·
   refine zw<|zc<|zab (X:=Bool) (fun x=>True) (fun x=>[(2,.bool x)]) (fun x=>[boxA b1 32 [.bool s,.slice p1 n1 c1,.bool t,.slice p2 n2 c2]]) (fun x=>[slF (rI .u32) p1 c1 l1,slF (rI .u32) p2 c2 l2]) ?_ ?_
   ·
    refine za<|e_mv rfl<|e_p (zv ye rfl)<|e_p (zna rfl rfl)<|zga rfl rfl (zja rfl) (fun h3=> ?_) (fun h3=> ?_)
    ·
     refine e_no<|e_no<|e_no<|e_no<|e_p (zE rfl rfl)<|e_mv rfl<|e_mv rfl<|e_p (zv ye rfl)<|e_p (zna rfl rfl)<|zga rfl rfl (zja rfl) (fun h4=> ?_) (fun h4=> ?_)
     ·
      refine e_no<|e_no<|e_no<|e_no<|e_p (zE rfl rfl)<|e_p (zE rfl rfl)<|e_p (zb rfl)<|zf ?_
      exact zla true (show True from by first|trivial) ((.e rfl (congrArg Value.bool cbu) .n):SubM _ _) (ho:=(o0 rfl)) ((.of [0,1] rfl):SelR _ _ _)
     ·
      refine e_mv rfl<|zba (x0:=(l2.getD 0 0)) 1 0 rfl ye sz133 rfl rfl rfl cbo rfl rfl (gD (d:=0) om) (fun b5 o6 hok7=> ?_)
      replace hok7:=zy.1 hok7
      refine e_ru (zh (j:=0) 0 ty133 rfl rfl rfl rfl)<|e_p (zpc rfl rfl)<|e_p (zE rfl rfl)<|e_p (zE rfl rfl)<|e_p (zb rfl)<|zf ?_
      exact zla (decide ((l2.getD 0 0)≤100)) (show True from by first|trivial) ((.c rfl .n):SubM _ _) (ho:=(o0 rfl)) ((.of [1,2] rfl):SelR _ _ _)
    ·
     refine e_mv rfl<|zba (x0:=(l1.getD 0 0)) 0 0 rfl ye sz133 rfl rfl rfl cbo rfl rfl (gD (d:=0) om) (fun b8 o9 hok10=> ?_)
     replace hok10:=zy.1 hok10
     refine e_ru (zh (j:=0) 0 ty133 rfl rfl rfl rfl)<|e_p (zY rfl rfl)<|e_p (zE rfl rfl)<|zga rfl rfl (zja rfl) (fun h11=> ?_) (fun h11=> ?_)
     ·
      refine e_mv rfl<|e_p (zv ye rfl)<|e_p (zna rfl rfl)<|zga rfl rfl (zja rfl) (fun h12=> ?_) (fun h12=> ?_)
      ·
       refine e_no<|e_no<|e_no<|e_no<|e_p (zE rfl rfl)<|e_p (zE rfl rfl)<|e_p (zb rfl)<|zf ?_
       exact zla true (show True from by first|trivial) ((.e rfl (congrArg Value.bool cbu) .n):SubM _ _) (ho:=(o0 rfl)) ((.of [1,2] rfl):SelR _ _ _)
      ·
       refine e_mv rfl<|zba (x0:=(l2.getD 0 0)) 2 0 rfl ye sz133 rfl rfl rfl cbo rfl rfl (gD (d:=0) om) (fun b13 o14 hok15=> ?_)
       replace hok15:=zy.1 hok15
       refine e_ru (zh (j:=0) 0 ty133 rfl rfl rfl rfl)<|e_p (zpc rfl rfl)<|e_p (zE rfl rfl)<|e_p (zE rfl rfl)<|e_p (zb rfl)<|zf ?_
       exact zla (decide ((l2.getD 0 0)≤100)) (show True from by first|trivial) ((.c rfl .n):SubM _ _) (ho:=(o0 rfl)) ((.of [2,3] rfl):SelR _ _ _)
     ·
      refine e_no<|e_no<|e_no<|e_no<|e_no<|e_no<|e_no<|e_no<|e_no<|e_p (zE rfl rfl)<|e_p (zb rfl)<|zf ?_
      exact zla false (show True from by first|trivial) ((.e rfl (congrArg Value.bool cbu) .n):SubM _ _) (ho:=(o0 rfl)) ((.of [1,2] rfl):SelR _ _ _)
   ·
    rintro g9 -
    try dsimp only
    refine zG ?_
    exact zx Tryz.results163 g9 (fun _=>qo_hq _ hnn1 hnn2 (by show l1.length≤1;omega) (by show l2.length≤1;omega) dd) (zo rfl) rfl (ho:=oN) sN
theorem zcg {u1:Wd} {v1:Wd} {x1:Option Rat}:Con yd 163 [.agg #[u1.b,u1.l,v1.b,v1.l]] [] [eF u1 v1 (x1)] (Y:=(Bool)) (fun y=>(y=true→yg (x1.getD 0)≤1)) (fun y=> .bool (y)) (fun y=>[]) (fun y=>[]):=by
  exact zTg (fun y hy h1 h2=>by subst hy;exact zif rfl rfl h1 h2)
theorem zre {p:Option Addr} {n:Nat} {cap:Nat} {lo:List (Option Rat)} {mm:Int} {gg:Int} (hn:lo.length=n) (hgg:gg≤6):Con yd 75 [.slice p n cap,.int .i64 mm,.int .i64 gg] [] [slF rE p cap lo] (Y:=Bool) (fun y=>(y=true→((n:Nat):Int)≤mm∧∀jj,jj<n→yg ((lo.getD jj none).getD 0)≤1)) (fun y=> .bool y) (fun y=>[]) (fun y=>[]):=by
 refine zk Tryz.func75 rfl rfl rfl (fun c=> ?_)
 show RunC _ _ _ _ _ [(0,.slice p n cap),(1,.int .i64 mm),(2,.int .i64 gg)] [] [slF rE p cap lo]
 refine zP 0 rfl (fun hL0=> ?_)
 refine ze<|za<|e_p (zb rfl)<|zf<|zc<|ze<|ze<|za<|e_mv rfl<|e_p (zv yb rfl)<|e_mv rfl<|e_p (zra rfl rfl)<|zf<|zc<|zD rfl (fun h11=> ?_) (fun h11=> ?_)
 ·
  refine ze<|za<|e_p (zb rfl)<|zf<|zc<|zG<|zu ?_
  exact zx Tryz.results75 false (fun k=>by cases k) (zo rfl) rfl (ho:=oN) sN
 ·
  refine zw<|zc<|ze<|ze<|za<|e_p (zb rfl)<|zf<|zc<|zt<|zca (X:=Nat) (fun x:Nat=>x≤n∧∀j,j<x→yg ((lo.getD j none).getD 0)≤1) (fun x=>[(7,.int .i64 ((x:Nat):Int)),(0,.slice p n cap),(2,.int .i64 gg)]) (fun x=>[]) (fun x=>[slF rE p cap lo]) (fun x:Nat=>n - x) 0 (show 0≤n∧∀j,j<0→yg ((lo.getD j none).getD 0)≤1 from by exact ⟨Nat.zero_le _,fun j h=>by omega⟩) ((.e rfl cgs (.c rfl (.c rfl .n))):SubM _ _) (ho:=oN) (s0 rfl) ?_
  rintro i hI
  replace hI:i≤n∧∀j,j<i→yg ((lo.getD j none).getD 0)≤1:=hI
  try dsimp only
  obtain ⟨hi,hall⟩:=hI
  refine ze<|ze<|za<|e_mv rfl<|e_mv rfl<|e_p (zv yb rfl)<|e_p (zY rfl rfl)<|zf<|zc<|zD rfl (fun h1=> ?_) (fun h1=> ?_)
  ·
   refine zw<|zc<|ze<|zt<|zab (X:=Bool) (fun x=>(x=false→yg ((lo.getD i none).getD 0)≤1)) (fun x=>[(36,.bool x),(7,.int .i64 ((i:Nat):Int)),(0,.slice p n cap),(2,.int .i64 gg)]) (fun x=>[]) (fun x=>[slF rE p cap lo]) ?_ ?_
   ·
    refine za<|e_mv rfl<|e_mv rfl<|r_vl rfl rfl (zQ (x0:=(lo.getD i (none:Option Rat))) 0 i rfl yb sz32 rfl cbo rfl rfl (gD (d:=(none:Option Rat)) om)) ?_
    rintro ⟨b2,o3,w4,w5⟩ -
    dsimp only [aq,nq,cq]
    refine zqa open_rE<|e_ru (zO (j:=0) 0 ty32 rfl rfl rfl (.t4 .nil))<|zOg (fun g hh=>ee_n (Holds.get 2 rfl hh)) (fun hn9=> ?_)
    refine zR rfl rfl (.c rfl .n) ce162 (zqe (u1:=w4) (v1:=w5) (h1:=cbo) (h2:=cbo)) (.n)<|e_mv rfl<|e_p (zra rfl rfl)<|zga rfl rfl (zja rfl) (fun h6=> ?_) (fun h6=> ?_)
    ·
     refine e_no<|e_no<|e_no<|e_no<|e_no<|e_no<|e_no<|e_no<|e_no<|e_no<|e_p (zE rfl rfl)<|zf ?_
     exact zla true (show (true=false→yg ((lo.getD i none).getD 0)≤1) from by first|(intro e;cases e;done)|(intro e;exact hbr (by simpa using e))|(intro e;exfalso;omega)) ((.e rfl (congrArg Value.bool cbu) (.of rfl)):SubM _ _) (ho:=oN) ((.c (j:=3) rfl .n):SelR _ _ _)
    ·
     refine e_mv rfl<|e_p (zpc rfl rfl)<|zga rfl rfl (zja rfl) (fun h7=> ?_) (fun h7=> ?_)
     ·
      refine e_mv rfl<|e_mv rfl<|r_vl rfl rfl (zQ (x0:=(lo.getD i (none:Option Rat))) 3 i rfl yb sz32 rfl cbo rfl rfl (gD (d:=(none:Option Rat)) om)) ?_
      rintro ⟨b8,o9,w10,w11⟩ -
      dsimp only [aq,nq,cq]
      refine zqa open_rE<|e_ru (zO (j:=0) 0 ty32 rfl rfl rfl (.t4 .nil))<|zm rfl rfl (.c rfl .n) ce163 (zcg (u1:=w10) (v1:=w11) (x1:=(lo.getD i (none:Option Rat)))) (.c (j:=2) rfl .n) ?_
      rintro b912 hbr
      dsimp only [aq,nq,cq]
      replace hbr:(b912=true→yg ((lo.getD i (none:Option Rat)).getD 0)≤1):=hbr
      refine e_p (zUa rfl)<|e_p (zE rfl rfl)<|e_p (zE rfl rfl)<|zf ?_
      exact zla (!b912) (show ((!b912)=false→yg ((lo.getD i none).getD 0)≤1) from by first|(intro e;cases e;done)|(intro e;exact hbr (by simpa using e))|(intro e;exfalso;omega)) (mR rfl) (ho:=oN) ((.c (j:=6) rfl .n):SelR _ _ _)
     ·
      refine e_no<|e_no<|e_no<|e_no<|e_no<|e_no<|e_p (zE rfl rfl)<|e_p (zE rfl rfl)<|zf ?_
      exact zla false (show (false=false→yg ((lo.getD i none).getD 0)≤1) from by first|(intro e;cases e;done)|(intro e;exact hbr (by simpa using e))|(intro e;exfalso;omega)) ((.e rfl (congrArg Value.bool cbu) (.of rfl)):SubM _ _) (ho:=oN) ((.c (j:=3) rfl .n):SelR _ _ _)
   ·
    rintro g9 hC
    replace hC:(g9=false→yg ((lo.getD i none).getD 0)≤1):=hC
    try dsimp only
    refine zXa rfl (fun h36=> ?_) (fun h36=> ?_)
    ·
     refine ze<|za<|e_p (zb rfl)<|zf<|zc<|zG<|zX<|zu<|zu<|zX<|zu ?_
     exact zx Tryz.results75 false (fun k=>by cases k) (zo rfl) rfl (ho:=oN) sN
    ·
     have hcq:=hC (by simpa using h36)
     refine zw<|zK<|zc<|za<|e_mv rfl<|e_p (zJ (z:=(((i+1):Nat):Int)) rfl rfl (w64 om))<|e_p (zb rfl)<|zf<|zV (i+1) (show (i+1)≤n∧∀j,j<(i+1)→yg ((lo.getD j none).getD 0)≤1 from by refine ⟨by omega,fun j hj=> ?_⟩;by_cases e:j=i;subst e;exact hcq;exact hall j om) (by show n - (i+1)<n - i;omega) (mR rfl) (ho:=oN) (s0 rfl)
  ·
   refine zaa<|zg<|zg<|zp<|zc<|ze<|za<|e_p (zb rfl)<|zf<|zc<|zG ?_
   exact zx Tryz.results75 true (fun _=>⟨by omega,fun j hj=>hall j om⟩) (zo rfl) rfl (ho:=oN) sN
theorem zse {pM:Option Addr} {nM:Nat} {cM:Nat} {M:List (List (Option Rat))} {mm:Int} {gg:Int} (hnM:M.length=nM) (hgg:gg≤6):Con yd 20 [.slice pM nM cM,.int .i64 mm,.int .i64 gg] [] [slF (rS rE) pM cM M] (Y:=Bool) (fun y=>(y=true→((nM:Nat):Int)≤mm∧∀i,i<nM→(((M.getD i []).length:Nat):Int)≤mm∧∀j,j<(M.getD i []).length→yg (((M.getD i []).getD j none).getD 0)≤1)) (fun y=> .bool y) (fun y=>[]) (fun y=>[]):=by
 refine zk Tryz.func20 rfl rfl rfl (fun c=> ?_)
 show RunC _ _ _ _ _ [(0,.slice pM nM cM),(1,.int .i64 mm),(2,.int .i64 gg)] [] [slF (rS rE) pM cM M]
 refine zP 0 rfl (fun hL0=> ?_)
 refine ze<|za<|e_p (zb rfl)<|zf<|zc<|ze<|ze<|za<|e_mv rfl<|e_p (zv ya rfl)<|e_mv rfl<|e_p (zra rfl rfl)<|zf<|zc<|zD rfl (fun h11=> ?_) (fun h11=> ?_)
 ·
  refine ze<|za<|e_p (zb rfl)<|zf<|zc<|zG<|zu ?_
  exact zx Tryz.results20 false (fun k=>by cases k) (zo rfl) rfl (ho:=oN) sN
 ·
  refine zw<|zc<|ze<|ze<|za<|e_p (zb rfl)<|zf<|zc<|zt<|zca (X:=Nat) (fun x:Nat=>x≤nM∧∀k,k<x→(((M.getD k []).length:Nat):Int)≤mm∧∀j,j<(M.getD k []).length→yg (((M.getD k []).getD j none).getD 0)≤1) (fun x=>[(7,.int .i64 ((x:Nat):Int)),(0,.slice pM nM cM),(1,.int .i64 mm),(2,.int .i64 gg)]) (fun x=>[]) (fun x=>[slF (rS rE) pM cM M]) (fun x:Nat=>nM - x) 0 (show 0≤nM∧∀k,k<0→(((M.getD k []).length:Nat):Int)≤mm∧∀j,j<(M.getD k []).length→yg (((M.getD k []).getD j none).getD 0)≤1 from by exact ⟨Nat.zero_le _,fun j h=>by omega⟩) ((.e rfl cgs (.of rfl)):SubM _ _) (ho:=oN) (s0 rfl) ?_
  rintro i hI
  replace hI:i≤nM∧∀k,k<i→(((M.getD k []).length:Nat):Int)≤mm∧∀j,j<(M.getD k []).length→yg (((M.getD k []).getD j none).getD 0)≤1:=hI
  try dsimp only
  obtain ⟨hi,hall⟩:=hI
  refine ze<|ze<|za<|e_mv rfl<|e_mv rfl<|e_p (zv ya rfl)<|e_p (zY rfl rfl)<|zf<|zc<|zD rfl (fun h1=> ?_) (fun h1=> ?_)
  ·
   refine zw<|zc<|ze<|zt<|ze<|za<|e_mv rfl<|e_mv rfl<|r_vl rfl rfl (zQ (x0:=(M.getD i [])) 0 i rfl ya sz62 rfl cbo rfl rfl (gD (d:=[]) om)) ?_
   rintro ⟨b2,o3,p4,c5⟩ -
   dsimp only [aq,nq,cq]
   refine e_ru (zh (j:=0) 0 ty62 rfl rfl rfl rfl)<|e_mv rfl<|e_mv rfl<|zm rfl rfl (.c rfl (.c rfl (.c rfl .n))) ce75 (zre (p:=p4) (n:=(M.getD i []).length) (cap:=c5) (lo:=(M.getD i [])) (mm:=mm) (gg:=gg) (hn:=cbo) (hgg:=ass)) (.c (j:=1) rfl .n) ?_
   rintro b96 hsh
   dsimp only [aq,nq,cq]
   replace hsh:(b96=true→((((M.getD i []).length):Nat):Int)≤mm∧∀jj,jj<((M.getD i []).length)→yg (((M.getD i []).getD jj none).getD 0)≤1):=hsh
   refine e_p (zUa rfl)<|zf<|zc<|zXa rfl (fun h25=> ?_) (fun h25=> ?_)
   ·
    refine ze<|za<|e_p (zb rfl)<|zf<|zc<|zG<|zX<|zu<|zu<|zX<|zu ?_
    exact zx Tryz.results20 false (fun k=>by cases k) (zo rfl) rfl (ho:=oN) sN
   ·
    refine zw<|zK<|zc<|za<|e_mv rfl<|e_p (zJ (z:=(((i+1):Nat):Int)) rfl rfl (w64 om))<|e_p (zb rfl)<|zf<|zV (i+1) (show (i+1)≤nM∧∀k,k<(i+1)→(((M.getD k []).length:Nat):Int)≤mm∧∀j,j<(M.getD k []).length→yg (((M.getD k []).getD j none).getD 0)≤1 from by refine ⟨by omega,fun k hk=> ?_⟩;by_cases e:k=i;subst e;exact hsh (by simpa using h25);exact hall k om) (by show nM - (i+1)<nM - i;omega) (mR rfl) (ho:=oN) ((.c (j:=2) rfl .n):SelR _ _ _)
  ·
   refine zaa<|zg<|zg<|zp<|zc<|ze<|za<|e_p (zb rfl)<|zf<|zc<|zG ?_
   exact zx Tryz.results20 true (fun _=>⟨by omega,fun k hk=>hall k om⟩) (zo rfl) rfl (ho:=oN) sN
theorem zdg {pM:Option Addr} {nM:Nat} {cM:Nat} {M:List (List Rat)} (hnM:M.length=nM):Con yd 31 [.slice pM nM cM] [] [slF (rS rQ) pM cM M] (Y:=Bool) (fun y=>(y=true→nM≤3)) (fun y=> .bool y) (fun y=>[]) (fun y=>[]):=by
 refine zk Tryz.func31 rfl rfl rfl (fun c=> ?_)
 show RunC _ _ _ _ _ [(0,.slice pM nM cM)] [] [slF (rS rQ) pM cM M]
 refine zP 0 rfl (fun hL0=> ?_)
 refine ze<|za<|e_p (zb rfl)<|zf<|zc<|ze<|ze<|za<|e_mv rfl<|e_p (zv ya rfl)<|e_mv rfl<|zf<|zc<|zt<|zca (X:=Nat) (fun x:Nat=>x≤nM) (fun x=>[(11,.int .i64 ((x:Nat):Int)),(10,.int .i64 ((nM:Nat):Int)),(9,.slice pM nM cM),(0,.slice pM nM cM)]) (fun x=>[]) (fun x=>[slF (rS rQ) pM cM M]) (fun x:Nat=>nM - x) 0 (show 0≤nM from by exact Nat.zero_le _) ((.e rfl cgs (.of rfl)):SubM _ _) (ho:=oN) (s0 rfl) ?_
 rintro i hI
 replace hI:i≤nM:=hI
 try dsimp only
 refine ze<|za<|e_p (zY rfl rfl)<|zf<|zc<|ze<|zD rfl (fun h1=> ?_) (fun h1=> ?_)
 ·
  refine zw<|zc<|ze<|zt<|ze<|za<|r_vl rfl rfl (zQ (x0:=(M.getD i [])) 0 i rfl ya sz62 rfl cbo rfl rfl (gD (d:=[]) om)) ?_
  rintro ⟨b2,o3,p4,c5⟩ -
  dsimp only [aq,nq,cq]
  refine e_ru (zh (j:=0) 0 ty62 rfl rfl rfl rfl)<|e_p (zb rfl)<|zf<|zc<|ze<|zP 1 rfl (fun hLr=> ?_)
  refine za<|e_mv rfl<|e_p (zv yb rfl)<|e_mv rfl<|zf<|zc<|zt<|zca (X:=Nat) (fun x:Nat=>x≤(M.getD i []).length) (fun x=>[(17,.int .i64 ((x:Nat):Int)),(16,.int .i64 (((M.getD i []).length:Nat):Int)),(15,.slice p4 ((M.getD i []).length) c5),(11,.int .i64 ((i:Nat):Int)),(10,.int .i64 ((nM:Nat):Int)),(9,.slice pM nM cM),(0,.slice pM nM cM)]) (fun x=>[]) (fun x=>[atF b2 o3 [.slice p4 ((M.getD i []).length) c5],slF rQ p4 c5 (M.getD i []),slF (rS rQ) pM cM M]) (fun x:Nat=>(M.getD i []).length - x) 0 (show 0≤(M.getD i []).length from by exact Nat.zero_le _) ((.e rfl cgs (.of rfl)):SubM _ _) (ho:=oN) ((.of [0,1,2] rfl):SelR _ _ _) ?_
  rintro j hJ
  replace hJ:j≤(M.getD i []).length:=hJ
  try dsimp only
  refine ze<|za<|e_p (zY rfl rfl)<|zf<|zc<|ze<|zD rfl (fun h6=> ?_) (fun h6=> ?_)
  ·
   refine zw<|zc<|ze<|zt<|ze<|za<|r_vl rfl rfl (zQ (x0:=((M.getD i []).getD j (0:Rat))) 1 j rfl yb sz32 rfl cbo rfl rfl (gD (d:=(0:Rat)) om)) ?_
   rintro ⟨b7,o8,w9,w10⟩ -
   dsimp only [aq,nq,cq]
   refine zqa open_rQ<|e_ru (zO (j:=0) 0 ty32 rfl rfl rfl (.t4 .nil))<|zM rfl rfl (zA zr32 rfl) (fun b11=> ?_)
   refine zl 0 rfl rfl rfl rfl rfl sz32 rfl (.t4 .nil) .z<|zf<|zc<|ze<|c_more (qF_raw 1 rfl) ?_
   rintro ⟨xa12,xb13⟩ ⟨hxa12,hxb13⟩
   replace hxa12:xa12.length=w9.n:=hxa12
   replace hxb13:xb13.length=w10.n:=hxb13
   dsimp only [aq,nq,cq]
   refine zW (OW:=[]) (O:=[boxA b11 32 (cw [w9,w10])]) 100000 mixed (.then (.block (.then (.then (.block (.block (.then (.then (.block (.then .ret)))))))))) kr<|e_pv 0 rfl rfl (zj yc rfl sz30 rfl rfl)<|e_pv 1 rfl rfl (zj yh rfl sz28 rfl rfl)<|e_u 2 rfl rfl (zi 0 ty28 rfl rfl rfl)<|e_pv 3 rfl rfl (zj yc rfl sz30 rfl rfl)<|e_pv 4 rfl rfl (zj yh rfl sz28 rfl rfl)<|e_u 5 rfl rfl (zi 0 ty28 rfl rfl rfl)<|e_pv 6 rfl rfl (zb rfl)<|e_pv 7 rfl rfl (zb rfl)<|zU kr<|zc<|zab (X:=Bool) (fun x=>True) (fun x=>[(56,.bool x),(17,.int .i64 ((j:Nat):Int)),(16,.int .i64 (((M.getD i []).length:Nat):Int)),(15,.slice p4 ((M.getD i []).length) c5),(11,.int .i64 ((i:Nat):Int)),(10,.int .i64 ((nM:Nat):Int)),(9,.slice pM nM cM),(0,.slice pM nM cM)]) (fun x=>[boxA b11 32 (cw [w9,w10])]) (fun x=>[slF (rI .u32) (w9.p) (w9.c) xa12,slF (rI .u32) (w10.p) (w10.c) xb13,atF b7 o8 [w9.b,w9.l,w10.b,w10.l],qF true w9 w10 ((M.getD i []).getD j (0:Rat)),atF b2 o3 [.slice p4 ((M.getD i []).length) c5],slF rQ p4 c5 (M.getD i []),slF (rS rQ) pM cM M]) ?_ ?_
   ·
    refine za<|e_mv rfl<|e_p (zv ye rfl)<|e_p (zra rfl rfl)<|zga rfl rfl (zja rfl) (fun h14=> ?_) (fun h14=> ?_)
    ·
     refine e_no<|e_no<|e_no<|e_p (zE rfl rfl)<|e_mv rfl<|e_no<|e_no<|e_no<|e_no<|e_no<|e_no<|e_no<|e_no<|e_no<|e_p (zE rfl rfl)<|e_mv rfl<|e_no<|e_no<|e_no<|e_no<|e_no<|e_no<|e_no<|e_no<|e_no<|e_p (zE rfl rfl)<|zf ?_
     exact zla true (show True from by first|trivial) ((.e rfl (congrArg Value.bool cbu) (.of rfl)):SubM _ _) (ho:=(o0 rfl)) ((.of [0,1,2,3,4,5,6] rfl):SelR _ _ _)
    ·
     refine e_mv rfl<|e_p (zv ye rfl)<|e_p (zra rfl rfl)<|e_p (zE rfl rfl)<|zga rfl rfl (zja rfl) (fun h15=> ?_) (fun h15=> ?_)
     ·
      refine e_no<|e_no<|e_no<|e_no<|e_no<|e_no<|e_no<|e_no<|e_no<|e_p (zE rfl rfl)<|e_mv rfl<|e_no<|e_no<|e_no<|e_no<|e_no<|e_no<|e_no<|e_no<|e_no<|e_p (zE rfl rfl)<|zf ?_
      exact zla true (show True from by first|trivial) ((.e rfl (congrArg Value.bool cbu) (.of rfl)):SubM _ _) (ho:=(o0 rfl)) ((.of [0,1,2,3,4,5,6] rfl):SelR _ _ _)
     ·
      refine e_mv rfl<|e_p (zv ye rfl)<|e_p (zna rfl rfl)<|zga rfl rfl (zja rfl) (fun h16=> ?_) (fun h16=> ?_)
      ·
       refine e_mv rfl<|zba (x0:=(xa12.getD 0 0)) 0 0 rfl ye sz133 rfl rfl rfl cbo rfl rfl (gD (d:=0) om) (fun b17 o18 hok19=> ?_)
       replace hok19:=zy.1 hok19
       refine e_ru (zh (j:=0) 0 ty133 rfl rfl rfl rfl)<|e_p (zra rfl rfl)<|e_p (zE rfl rfl)<|e_p (zE rfl rfl)<|zga rfl rfl (zja rfl) (fun h20=> ?_) (fun h20=> ?_)
       ·
        refine e_no<|e_no<|e_no<|e_no<|e_no<|e_no<|e_no<|e_no<|e_no<|e_p (zE rfl rfl)<|zf ?_
        exact zla true (show True from by first|trivial) ((.e rfl (congrArg Value.bool cbu) (.of rfl)):SubM _ _) (ho:=(o0 rfl)) ((.of [1,2,3,4,5,6,7] rfl):SelR _ _ _)
       ·
        refine e_mv rfl<|e_p (zv ye rfl)<|e_p (zna rfl rfl)<|zga rfl rfl (zja rfl) (fun h21=> ?_) (fun h21=> ?_)
        ·
         refine e_mv rfl<|zba (x0:=(xb13.getD 0 0)) 2 0 rfl ye sz133 rfl rfl rfl cbo rfl rfl (gD (d:=0) om) (fun b22 o23 hok24=> ?_)
         replace hok24:=zy.1 hok24
         refine e_ru (zh (j:=0) 0 ty133 rfl rfl rfl rfl)<|e_p (zra rfl rfl)<|e_p (zE rfl rfl)<|e_p (zE rfl rfl)<|zf ?_
         exact zla (decide (2<(xb13.getD 0 0))) (show True from by first|trivial) (mR rfl) (ho:=(o0 rfl)) ((.of [2,3,4,5,6,7,8] rfl):SelR _ _ _)
        ·
         refine e_no<|e_no<|e_no<|e_no<|e_p (zE rfl rfl)<|e_p (zE rfl rfl)<|zf ?_
         exact zla false (show True from by first|trivial) ((.e rfl (congrArg Value.bool cbu) (.of rfl)):SubM _ _) (ho:=(o0 rfl)) ((.of [1,2,3,4,5,6,7] rfl):SelR _ _ _)
      ·
       refine e_no<|e_no<|e_no<|e_no<|e_p (zE rfl rfl)<|e_p (zE rfl rfl)<|e_mv rfl<|e_mv rfl<|e_p (zv ye rfl)<|e_p (zna rfl rfl)<|zga rfl rfl (zja rfl) (fun h25=> ?_) (fun h25=> ?_)
       ·
        refine e_mv rfl<|zba (x0:=(xb13.getD 0 0)) 1 0 rfl ye sz133 rfl rfl rfl cbo rfl rfl (gD (d:=0) om) (fun b26 o27 hok28=> ?_)
        replace hok28:=zy.1 hok28
        refine e_ru (zh (j:=0) 0 ty133 rfl rfl rfl rfl)<|e_p (zra rfl rfl)<|e_p (zE rfl rfl)<|e_p (zE rfl rfl)<|zf ?_
        exact zla (decide (2<(xb13.getD 0 0))) (show True from by first|trivial) (mR rfl) (ho:=(o0 rfl)) ((.of [1,2,3,4,5,6,7] rfl):SelR _ _ _)
       ·
        refine e_no<|e_no<|e_no<|e_no<|e_p (zE rfl rfl)<|e_p (zE rfl rfl)<|zf ?_
        exact zla false (show True from by first|trivial) ((.e rfl (congrArg Value.bool cbu) (.of rfl)):SubM _ _) (ho:=(o0 rfl)) ((.of [0,1,2,3,4,5,6] rfl):SelR _ _ _)
   ·
    rintro g9 -
    try dsimp only [cw]
    refine zXa rfl (fun h29=> ?_) (fun h29=> ?_)
    ·
     refine ze<|za<|e_p (zb rfl)<|zf<|zc<|zG<|zX<|zu<|zu<|zX<|zX<|zu<|zu<|zX<|zu ?_
     exact zx Tryz.results31 false (fun k=>by cases k) (zo rfl) rfl (ho:=oN) sN
    ·
     refine zw<|zK<|zc<|za<|e_p (zJ (z:=(((j+1):Nat):Int)) rfl rfl (w64 om))<|e_mv rfl<|zf<|zV (j+1) (show (j+1)≤(M.getD i []).length from by show j+1≤(M.getD i []).length;omega) (by show (M.getD i []).length - (j+1)<(M.getD i []).length - j;omega) (mR rfl) (ho:=oN) ((.of [4,5,6] rfl):SelR _ _ _)
  ·
   refine zaa<|zg<|zg<|zp<|zK<|zc<|za<|e_p (zJ (z:=(((i+1):Nat):Int)) rfl rfl (w64 om))<|e_mv rfl<|zf<|zV (i+1) (show (i+1)≤nM from by show i+1≤nM;omega) (by show nM - (i+1)<nM - i;omega) (mR rfl) (ho:=oN) ((.c (j:=2) rfl .n):SelR _ _ _)
 ·
  refine zaa<|zg<|zg<|zp<|zc<|ze<|za<|e_mv rfl<|e_p (zv ya rfl)<|e_p (zpc rfl rfl)<|e_p (zb rfl)<|zf<|zc<|zG ?_
  exact zx Tryz.results31 (decide (((nM:Nat):Int)≤3)) (fun k=>by have h9:=of_decide_eq_true k;omega) (zo rfl) rfl (ho:=oN) sN
end Go.Proofs.YtpdbimfnhglhpaaGreat.Sp
namespace Go.Proofs.YtpdbimfnhglhpaaGreat.Sp
open Go
set_option linter.unusedVariables false
set_option maxRecDepth 100000
set_option maxHeartbeats 8000000
theorem zte {i0:Nat} {j0:Nat} {bA:Nat} {pA:Option Addr} {nA:Nat} {cA:Nat} {A:List (List Rat)} (hnA:A.length=nA) (hiA:i0<nA) (hjA:j0<(A.getD i0 []).length):Con yd 166 [.int .i64 ((i0:Nat):Int),.int .i64 ((j0:Nat):Int),.pointer (some ⟨bA,0,none⟩)] [] [atF bA 0 [.slice pA nA cA],slF (rS rQ) pA cA A] (Y:=Wd×Wd) (fun y=>True) (fun y=> .agg #[y.1.b,y.1.l,y.2.b,y.2.l]) (fun y=>[]) (fun y=>[qF true y.1 y.2 (Mx.e A i0 j0)]):=by
 refine zk Tryz.func166 rfl rfl rfl (fun c=> ?_)
 show RunC _ _ _ _ _ [(0,.int .i64 ((i0:Nat):Int)),(1,.int .i64 ((j0:Nat):Int)),(2,.pointer (some ⟨bA,0,none⟩))] [] [atF bA 0 [.slice pA nA cA],slF (rS rQ) pA cA A]
 refine zP 1 rfl (fun hL1=> ?_)
 refine ze<|za<|zM rfl rfl (zA zr32 rfl) (fun b1=> ?_)
 refine zf<|zc<|ze<|za<|e_ru (zh (j:=0) 0 ty60 rfl rfl rfl rfl)<|e_mv rfl<|r_vl rfl rfl (zQ (x0:=(A.getD i0 [])) 1 i0 rfl ya sz62 rfl (by first|rfl|assumption|omega|(simp;done)) rfl rfl (gD (d:=[]) om)) ?_
 rintro ⟨b2,o3,p4,c5⟩ -
 dsimp only [aq,nq,cq]
 refine e_ru (zh (j:=0) 0 ty62 rfl rfl rfl rfl)<|e_mv rfl<|r_vl rfl rfl (zQ (x0:=((A.getD i0 []).getD j0 (0:Rat))) 1 j0 rfl yb sz32 rfl (by first|rfl|assumption|omega|(simp;done)) rfl rfl (gD (d:=(0:Rat)) om)) ?_
 rintro ⟨b6,o7,w9,w10⟩ -
 dsimp only [aq,nq,cq]
 refine zqa open_rQ<|e_ru (zO (j:=0) 0 ty32 rfl rfl rfl (.t4 .nil))<|zl 0 rfl rfl rfl rfl rfl sz32 rfl (.t4 .nil) .z<|zf<|zc<|zG ?_
 exact zx Tryz.results166 (w9,w10) trivial (zq 0 ty32 rfl rfl (.t4 .nil)) rfl (ho:=oN) ((.c (j:=1) rfl .n):SelR _ _ _)
theorem zjf {K:Nat} {N:Nat} {bA:Nat} {pA:Option Addr} {nA:Nat} {cA:Nat} {A:List (List Rat)} (hK:K≤64) (hN:N≤70) (hnA:A.length=nA) (hKA:K=nA) (hrA:∀i,i<nA→(A.getD i []).length=N):Con yd 86 [.int .i64 ((K:Nat):Int),.int .i64 ((N:Nat):Int),.func (.func 166) #[] #[.pointer (some ⟨bA,0,none⟩)]] [] [atF bA 0 [.slice pA nA cA],slF (rS rQ) pA cA A] (Y:=(Option Addr)×Nat×HP) (fun y=>y.2.2.length=K) (fun y=> .slice (y.1) K (y.2.1)) (fun y=>[rowA 62 rV (y.1) (y.2.1) (oh y.2.2 N),rowsM 32 rQ (y.2.2) (Mx.mk K N (fun ii jj=>Mx.e A ii jj))]) (fun y=>[]):=by
 refine zk yn rfl rfl rfl (fun c=> ?_)
 show RunC _ _ _ _ _ [(0,.int .i64 ((K:Nat):Int)),(1,.int .i64 ((N:Nat):Int)),(2,.func (.func 166) #[] #[.pointer (some ⟨bA,0,none⟩)])] [] [atF bA 0 [.slice pA nA cA],slF (rS rQ) pA cA A]
 refine zP 1 rfl (fun hL1=> ?_)
 refine ze<|za<|e_p (zb rfl)<|zf<|zc<|ze<|za<|e_mv rfl<|zma rfl rfl (zua (r:=rV) (k:=K) (x0:=(none,0,0)) (γ0:=()) ya inf62 rfl rfl rfl rfl om om rfl (fun g _=>by trivial) dd) (fun b1 _=> ?_)
 refine e_p (zb rfl)<|zf<|zc<|ze<|ze<|zjd (fun w mm=>mm.rmNil 32 rQ) ?_
 have e2:(List.replicate K (none,0,0):List (Option Addr×Nat×Nat))=(Mx.oz ([]:HP) N K):=by exact Mx.oz_start N K
 rw [e2]
 refine za<|e_mv rfl<|e_p (zv ya rfl)<|e_mv rfl<|zf<|zc<|zt<|zca (X:=Nat×HP) (fun x:Nat×HP=>x.1≤K∧x.2.length=x.1) (fun x=>[(14,.int .i64 ((x.1:Nat):Int)),(13,.int .i64 ((K:Nat):Int)),(7,.slice (some ⟨b1,0,none⟩) K K),(6,.slice none 0 0),(1,.int .i64 ((N:Nat):Int)),(2,.func (.func 166) #[] #[.pointer (some ⟨bA,0,none⟩)])]) (fun x=>[rowsM 32 rQ (x.2) (Mx.mk x.1 N (fun ii jj=>Mx.e A ii jj)),rowA 62 rV (some ⟨b1,0,none⟩) K (Mx.oz x.2 N K)]) (fun x=>[atF bA 0 [.slice pA nA cA],slF (rS rQ) pA cA A]) (fun x:Nat×HP=>K - x.1) (0,([]:HP)) (show 0≤K∧([]:HP).length=0 from by exact ⟨Nat.zero_le _,rfl⟩) ((.e rfl cgs (.of rfl)):SubM _ _) (ho:=((.e (i:=0) rfl (by rfl) (.c (i:=0) rfl .n)):PickO _ _ _)) ((.of [0,1] rfl):SelR _ _ _) ?_
 rintro ⟨i,hs⟩ hI
 replace hI:i≤K∧hs.length=i:=hI
 try dsimp only
 obtain ⟨hi,hlen⟩:=hI
 refine ze<|za<|e_p (zY rfl rfl)<|zf<|zc<|ze<|zD rfl (fun h3=> ?_) (fun h3=> ?_)
 ·
  refine zw<|zc<|ze<|zt<|ze<|za<|e_mv rfl<|e_p (zb rfl)<|zf<|zc<|ze<|za<|e_mv rfl<|e_mv rfl<|e_mv rfl<|zma rfl rfl (zua (r:=rE) (k:=N) (x0:=(none:Option Rat)) (γ0:=(wz,wz)) yb inf32 rfl rfl rfl rfl om om rfl (fun g _=>eF_wz g) dd) (fun b4 _=> ?_)
  refine e_p (zI (j:=i) ya sz62 rfl rfl rfl om)<|zya 2 rfl rfl rfl (zL (j:=i) (x0:=(some ⟨b4,0,none⟩,N,N)) (γ0:=()) rfl rfl (by first|omega|(rw [Mx.oz_len om];omega)|(rw [Mx.fil_len];omega)) rfl rfl sz62 (fun _ _=>by trivial)) (fun _=>(.s (.s .z))) (fun _ _=> ?_)
  refine zf<|zc<|ze ?_
  have e5:(((Mx.oz hs N K).set i (some ⟨b4,0,none⟩,N,N)):List (Option Addr×Nat×Nat))=(Mx.oz (hs++[((some ⟨b4,0,none⟩:Option Addr),N)]) N K):=by exact Mx.oz_step' hlen om
  rw [e5]
  have e6:(List.replicate N (none:Option Rat):List (Option Rat))=(Mx.fil 0 N (fun jj=>Mx.e A i jj)):=by exact Mx.fil_start N _
  rw [e6]
  refine za<|e_mv rfl<|e_mv rfl<|e_p (zI (j:=i) ya sz62 rfl rfl rfl om)<|r_vl rfl rfl (zN (x0:=(some ⟨b4,0,none⟩,N,N)) (v:= .slice (some ⟨b4,0,none⟩) N N) 2 i rfl ty62 rfl rfl (by exact Mx.oz_last (K:=K) om) rfl) (fun _ hok7=> ?_)
  refine e_p (zv yb rfl)<|e_mv rfl<|zf<|zc<|zt<|zca (X:=Nat) (fun x:Nat=>x≤N) (fun x=>[(27,.int .i64 ((x:Nat):Int)),(26,.int .i64 ((N:Nat):Int)),(8,.int .i64 ((i:Nat):Int)),(14,.int .i64 ((i:Nat):Int)),(13,.int .i64 ((K:Nat):Int)),(7,.slice (some ⟨b1,0,none⟩) K K),(6,.slice none 0 0),(1,.int .i64 ((N:Nat):Int)),(2,.func (.func 166) #[] #[.pointer (some ⟨bA,0,none⟩)])]) (fun x=>[rowA 32 rE (some ⟨b4,0,none⟩) N (Mx.fil x N (fun jj=>Mx.e A i jj)),rowsM 32 rQ hs (Mx.mk i N (fun ii jj=>Mx.e A ii jj)),rowA 62 rV (some ⟨b1,0,none⟩) K (Mx.oz (hs++[((some ⟨b4,0,none⟩:Option Addr),N)]) N K)]) (fun x=>[atF bA 0 [.slice pA nA cA],slF (rS rQ) pA cA A]) (fun x:Nat=>N - x) 0 (show 0≤N from by exact Nat.zero_le _) ((.e rfl cgs (.of rfl)):SubM _ _) (ho:=((.of [0,0,0] rfl):PickO _ _ _)) ((.of [0,1] rfl):SelR _ _ _) ?_
  rintro j hJ
  replace hJ:j≤N:=hJ
  try dsimp only
  refine ze<|za<|e_p (zY rfl rfl)<|zf<|zc<|ze<|zD rfl (fun h8=> ?_) (fun h8=> ?_)
  ·
   refine zw<|zc<|ze<|zt<|ze<|za<|e_mv rfl<|e_p (zb rfl)<|zf<|zc<|zW (OW:=[rowA 32 rE (some ⟨b4,0,none⟩) N (Mx.fil j N (fun jj=>Mx.e A i jj))]) (O:=[rowsM 32 rQ hs (Mx.mk i N (fun ii jj=>Mx.e A ii jj)),rowA 62 rV (some ⟨b1,0,none⟩) K (Mx.oz (hs++[((some ⟨b4,0,none⟩:Option Addr),N)]) N K)]) 10 mixed (.block (.then (.then (.block (.block (.then (.then (.block (.then .ret))))))))) kr ?_
   have hrw:=hrA i om
   refine e_dm 0 rfl rfl rfl<|e_dm 1 rfl rfl rfl<|e_pv 2 rfl rfl (zI (j:=i) ya sz62 rfl rfl rfl om)<|zvb 3 rfl rfl kr kr kr rfl rfl (zN (x0:=(some ⟨b4,0,none⟩,N,N)) (v:= .slice (some ⟨b4,0,none⟩) N N) 2 i rfl ty62 rfl rfl (by exact Mx.oz_last (K:=K) om) rfl) (fun _ hok9=> ?_)
   refine e_dm 4 rfl rfl rfl<|e_dm 5 rfl rfl rfl<|e_dm 6 rfl rfl rfl<|e_dm 7 rfl rfl rfl<|e_one 8 (ztc (first:=[]) (cap:=[.pointer (some ⟨bA,0,none⟩)]) rfl rfl rfl rfl rfl (.c rfl (.c rfl .n)) ce166 (zte (i0:=i) (j0:=j) (bA:=bA) (pA:=pA) (nA:=nA) (cA:=cA) (A:=A) (hnA:=ass) (hiA:=cbo) (hjA:=cbo)) (.c (j:=0) rfl (.c (j:=1) rfl .n)) ?_)
   rintro ⟨w310,w411⟩ -
   dsimp only [aq,nq,cq]
   refine e_pv 9 rfl rfl (zI (j:=j) yb sz32 rfl rfl rfl om)<|e_one 10 (zQb (A':=fun _=>rowA 32 rE (some ⟨b4,0,none⟩) N ((Mx.fil j N (fun jj=>Mx.e A i jj)).set j (some (Mx.e A i j)))) kr rfl rfl rfl (zL (r:=rE) (j:=j) (x0:=(some (Mx.e A i j))) (γ0:=(w310,w411)) rfl rfl (by first|omega|(rw [Mx.oz_len om];omega)|(rw [Mx.fil_len];omega)) rfl rfl sz32 (fun g hr=>qF_e (Holds.get 0 rfl hr))) (fun _ _=> ?_))
   refine zU kr<|zK<|zc<|za<|e_p (zJ (z:=(((j+1):Nat):Int)) rfl rfl (w64 om))<|e_mv rfl<|zf<|zV (j+1) (show (j+1)≤N from by show j+1≤N;omega) (by show N - (j+1)<N - j;omega) (mR rfl) (ho:=((.e (i:=0) rfl (by first|rfl|(rw [Mx.fil_step om])) (.of [0,0] rfl)):PickO _ _ _)) ((.of [1,2] rfl):SelR _ _ _)
  ·
   refine zaa<|zg<|zg<|zp<|zK<|zc<|za<|e_p (zJ (z:=(((i+1):Nat):Int)) rfl rfl (w64 om))<|e_mv rfl<|zf<|zib (fun w mm=>mm.rowEQ (l2:=((List.range N).map (fun jj=>Mx.e A i jj))) 0 rfl (by rw [show j=N by omega];exact Mx.fil_end N _)) ?_
   try dsimp only [List.eraseIdx]
   refine zib (fun w mm=>mm.rmSnoc 0 0 rfl rfl (by rw [Mx.mk_len];exact hlen)) ?_
   try dsimp only [List.eraseIdx]
   refine zV ((i+1),(hs++[((some ⟨b4,0,none⟩:Option Addr),N)])) (show (i+1)≤K∧(hs++[((some ⟨b4,0,none⟩:Option Addr),N)]).length=(i+1) from by exact ⟨by omega,by rw [List.length_append,hlen];rfl⟩) (by show K - (i+1)<K - i;omega) (mR rfl) (ho:=((.e (i:=0) rfl (by first|rfl|(rw [Mx.mk_succ])) (.c (i:=0) rfl .n)):PickO _ _ _)) ((.of [0,1] rfl):SelR _ _ _)
 ·
  refine zaa<|zg<|zg<|zp<|zc<|ze<|za<|e_mv rfl<|e_p (zb rfl)<|zf<|zc<|zG ?_
  have e12:((Mx.oz hs N K):List (Option Addr×Nat×Nat))=(oh hs N):=by exact Mx.oz_end (hlen.trans om)
  rw [e12]
  have e13:(Mx.mk i N (fun ii jj=>Mx.e A ii jj))=(Mx.mk K N (fun ii jj=>Mx.e A ii jj)):=by rw [show i=K by omega]
  rw [e13]
  exact zx yj (some ⟨b1,0,none⟩,K,hs) (hlen.trans om) (zo rfl) rfl (ho:=((.of [1,0] rfl):PickO _ _ _)) sN
theorem zue {i0:Nat} {j0:Nat} {bA:Nat} {pA:Option Addr} {nA:Nat} {cA:Nat} {A:List (List Rat)} (hnA:A.length=nA) (hj0:j0<nA) (hi0:i0<(A.getD j0 []).length):Con yd 173 [.int .i64 ((i0:Nat):Int),.int .i64 ((j0:Nat):Int),.pointer (some ⟨bA,0,none⟩)] [] [atF bA 0 [.slice pA nA cA],slF (rS rQ) pA cA A] (Y:=Wd×Wd) (fun y=>True) (fun y=> .agg #[y.1.b,y.1.l,y.2.b,y.2.l]) (fun y=>[]) (fun y=>[qF true y.1 y.2 (Mx.e A j0 i0)]):=by
 refine zk Tryz.func173 rfl rfl rfl (fun c=> ?_)
 show RunC _ _ _ _ _ [(0,.int .i64 ((i0:Nat):Int)),(1,.int .i64 ((j0:Nat):Int)),(2,.pointer (some ⟨bA,0,none⟩))] [] [atF bA 0 [.slice pA nA cA],slF (rS rQ) pA cA A]
 refine zP 1 rfl (fun hL1=> ?_)
 refine ze<|za<|zM rfl rfl (zA zr32 rfl) (fun b1=> ?_)
 refine zf<|zc<|ze<|za<|e_ru (zh (j:=0) 0 ty60 rfl rfl rfl rfl)<|e_mv rfl<|r_vl rfl rfl (zQ (x0:=(A.getD j0 [])) 1 j0 rfl ya sz62 rfl (by first|rfl|assumption|omega|(simp;done)) rfl rfl (gD (d:=[]) om)) ?_
 rintro ⟨b2,o3,p4,c5⟩ -
 dsimp only [aq,nq,cq]
 refine e_ru (zh (j:=0) 0 ty62 rfl rfl rfl rfl)<|e_mv rfl<|r_vl rfl rfl (zQ (x0:=((A.getD j0 []).getD i0 (0:Rat))) 1 i0 rfl yb sz32 rfl (by first|rfl|assumption|omega|(simp;done)) rfl rfl (gD (d:=(0:Rat)) om)) ?_
 rintro ⟨b6,o7,w9,w10⟩ -
 dsimp only [aq,nq,cq]
 refine zqa open_rQ<|e_ru (zO (j:=0) 0 ty32 rfl rfl rfl (.t4 .nil))<|zl 0 rfl rfl rfl rfl rfl sz32 rfl (.t4 .nil) .z<|zf<|zc<|zG ?_
 exact zx Tryz.results173 (w9,w10) trivial (zq 0 ty32 rfl rfl (.t4 .nil)) rfl (ho:=oN) ((.c (j:=1) rfl .n):SelR _ _ _)
theorem zeg {K:Nat} {N:Nat} {bA:Nat} {pA:Option Addr} {nA:Nat} {cA:Nat} {A:List (List Rat)} (hK:K≤64) (hN:N≤70) (hnA:A.length=nA) (hNA:N=nA) (hrA:∀i,i<nA→(A.getD i []).length=K):Con yd 86 [.int .i64 ((K:Nat):Int),.int .i64 ((N:Nat):Int),.func (.func 173) #[] #[.pointer (some ⟨bA,0,none⟩)]] [] [atF bA 0 [.slice pA nA cA],slF (rS rQ) pA cA A] (Y:=(Option Addr)×Nat×HP) (fun y=>y.2.2.length=K) (fun y=> .slice (y.1) K (y.2.1)) (fun y=>[rowA 62 rV (y.1) (y.2.1) (oh y.2.2 N),rowsM 32 rQ (y.2.2) (Mx.mk K N (fun ii jj=>Mx.e A jj ii))]) (fun y=>[]):=by
 refine zk yn rfl rfl rfl (fun c=> ?_)
 show RunC _ _ _ _ _ [(0,.int .i64 ((K:Nat):Int)),(1,.int .i64 ((N:Nat):Int)),(2,.func (.func 173) #[] #[.pointer (some ⟨bA,0,none⟩)])] [] [atF bA 0 [.slice pA nA cA],slF (rS rQ) pA cA A]
 refine zP 1 rfl (fun hL1=> ?_)
 refine ze<|za<|e_p (zb rfl)<|zf<|zc<|ze<|za<|e_mv rfl<|zma rfl rfl (zua (r:=rV) (k:=K) (x0:=(none,0,0)) (γ0:=()) ya inf62 rfl rfl rfl rfl om om rfl (fun g _=>by trivial) dd) (fun b1 _=> ?_)
 refine e_p (zb rfl)<|zf<|zc<|ze<|ze<|zjd (fun w mm=>mm.rmNil 32 rQ) ?_
 have e2:(List.replicate K (none,0,0):List (Option Addr×Nat×Nat))=(Mx.oz ([]:HP) N K):=by exact Mx.oz_start N K
 rw [e2]
 refine za<|e_mv rfl<|e_p (zv ya rfl)<|e_mv rfl<|zf<|zc<|zt<|zca (X:=Nat×HP) (fun x:Nat×HP=>x.1≤K∧x.2.length=x.1) (fun x=>[(14,.int .i64 ((x.1:Nat):Int)),(13,.int .i64 ((K:Nat):Int)),(7,.slice (some ⟨b1,0,none⟩) K K),(6,.slice none 0 0),(1,.int .i64 ((N:Nat):Int)),(2,.func (.func 173) #[] #[.pointer (some ⟨bA,0,none⟩)])]) (fun x=>[rowsM 32 rQ (x.2) (Mx.mk x.1 N (fun ii jj=>Mx.e A jj ii)),rowA 62 rV (some ⟨b1,0,none⟩) K (Mx.oz x.2 N K)]) (fun x=>[atF bA 0 [.slice pA nA cA],slF (rS rQ) pA cA A]) (fun x:Nat×HP=>K - x.1) (0,([]:HP)) (show 0≤K∧([]:HP).length=0 from by exact ⟨Nat.zero_le _,rfl⟩) ((.e rfl cgs (.of rfl)):SubM _ _) (ho:=((.e (i:=0) rfl (by rfl) (.c (i:=0) rfl .n)):PickO _ _ _)) ((.of [0,1] rfl):SelR _ _ _) ?_
 rintro ⟨i,hs⟩ hI
 replace hI:i≤K∧hs.length=i:=hI
 try dsimp only
 obtain ⟨hi,hlen⟩:=hI
 refine ze<|za<|e_p (zY rfl rfl)<|zf<|zc<|ze<|zD rfl (fun h3=> ?_) (fun h3=> ?_)
 ·
  refine zw<|zc<|ze<|zt<|ze<|za<|e_mv rfl<|e_p (zb rfl)<|zf<|zc<|ze<|za<|e_mv rfl<|e_mv rfl<|e_mv rfl<|zma rfl rfl (zua (r:=rE) (k:=N) (x0:=(none:Option Rat)) (γ0:=(wz,wz)) yb inf32 rfl rfl rfl rfl om om rfl (fun g _=>eF_wz g) dd) (fun b4 _=> ?_)
  refine e_p (zI (j:=i) ya sz62 rfl rfl rfl om)<|zya 2 rfl rfl rfl (zL (j:=i) (x0:=(some ⟨b4,0,none⟩,N,N)) (γ0:=()) rfl rfl (by first|omega|(rw [Mx.oz_len om];omega)|(rw [Mx.fil_len];omega)) rfl rfl sz62 (fun _ _=>by trivial)) (fun _=>(.s (.s .z))) (fun _ _=> ?_)
  refine zf<|zc<|ze ?_
  have e5:(((Mx.oz hs N K).set i (some ⟨b4,0,none⟩,N,N)):List (Option Addr×Nat×Nat))=(Mx.oz (hs++[((some ⟨b4,0,none⟩:Option Addr),N)]) N K):=by exact Mx.oz_step' hlen om
  rw [e5]
  have e6:(List.replicate N (none:Option Rat):List (Option Rat))=(Mx.fil 0 N (fun jj=>Mx.e A jj i)):=by exact Mx.fil_start N _
  rw [e6]
  refine za<|e_mv rfl<|e_mv rfl<|e_p (zI (j:=i) ya sz62 rfl rfl rfl om)<|r_vl rfl rfl (zN (x0:=(some ⟨b4,0,none⟩,N,N)) (v:= .slice (some ⟨b4,0,none⟩) N N) 2 i rfl ty62 rfl rfl (by exact Mx.oz_last (K:=K) om) rfl) (fun _ hok7=> ?_)
  refine e_p (zv yb rfl)<|e_mv rfl<|zf<|zc<|zt<|zca (X:=Nat) (fun x:Nat=>x≤N) (fun x=>[(27,.int .i64 ((x:Nat):Int)),(26,.int .i64 ((N:Nat):Int)),(8,.int .i64 ((i:Nat):Int)),(14,.int .i64 ((i:Nat):Int)),(13,.int .i64 ((K:Nat):Int)),(7,.slice (some ⟨b1,0,none⟩) K K),(6,.slice none 0 0),(1,.int .i64 ((N:Nat):Int)),(2,.func (.func 173) #[] #[.pointer (some ⟨bA,0,none⟩)])]) (fun x=>[rowA 32 rE (some ⟨b4,0,none⟩) N (Mx.fil x N (fun jj=>Mx.e A jj i)),rowsM 32 rQ hs (Mx.mk i N (fun ii jj=>Mx.e A jj ii)),rowA 62 rV (some ⟨b1,0,none⟩) K (Mx.oz (hs++[((some ⟨b4,0,none⟩:Option Addr),N)]) N K)]) (fun x=>[atF bA 0 [.slice pA nA cA],slF (rS rQ) pA cA A]) (fun x:Nat=>N - x) 0 (show 0≤N from by exact Nat.zero_le _) ((.e rfl cgs (.of rfl)):SubM _ _) (ho:=((.of [0,0,0] rfl):PickO _ _ _)) ((.of [0,1] rfl):SelR _ _ _) ?_
  rintro j hJ
  replace hJ:j≤N:=hJ
  try dsimp only
  refine ze<|za<|e_p (zY rfl rfl)<|zf<|zc<|ze<|zD rfl (fun h8=> ?_) (fun h8=> ?_)
  ·
   refine zw<|zc<|ze<|zt<|ze<|za<|e_mv rfl<|e_p (zb rfl)<|zf<|zc<|zW (OW:=[rowA 32 rE (some ⟨b4,0,none⟩) N (Mx.fil j N (fun jj=>Mx.e A jj i))]) (O:=[rowsM 32 rQ hs (Mx.mk i N (fun ii jj=>Mx.e A jj ii)),rowA 62 rV (some ⟨b1,0,none⟩) K (Mx.oz (hs++[((some ⟨b4,0,none⟩:Option Addr),N)]) N K)]) 10 mixed (.block (.then (.then (.block (.block (.then (.then (.block (.then .ret))))))))) kr ?_
   have hrw:=hrA j om
   refine e_dm 0 rfl rfl rfl<|e_dm 1 rfl rfl rfl<|e_pv 2 rfl rfl (zI (j:=i) ya sz62 rfl rfl rfl om)<|zvb 3 rfl rfl kr kr kr rfl rfl (zN (x0:=(some ⟨b4,0,none⟩,N,N)) (v:= .slice (some ⟨b4,0,none⟩) N N) 2 i rfl ty62 rfl rfl (by exact Mx.oz_last (K:=K) om) rfl) (fun _ hok9=> ?_)
   refine e_dm 4 rfl rfl rfl<|e_dm 5 rfl rfl rfl<|e_dm 6 rfl rfl rfl<|e_dm 7 rfl rfl rfl<|e_one 8 (ztc (first:=[]) (cap:=[.pointer (some ⟨bA,0,none⟩)]) rfl rfl rfl rfl rfl (.c rfl (.c rfl .n)) ce173 (zue (i0:=i) (j0:=j) (bA:=bA) (pA:=pA) (nA:=nA) (cA:=cA) (A:=A) (hnA:=ass) (hj0:=cbo) (hi0:=cbo)) (.c (j:=0) rfl (.c (j:=1) rfl .n)) ?_)
   rintro ⟨w310,w411⟩ -
   dsimp only [aq,nq,cq]
   refine e_pv 9 rfl rfl (zI (j:=j) yb sz32 rfl rfl rfl om)<|e_one 10 (zQb (A':=fun _=>rowA 32 rE (some ⟨b4,0,none⟩) N ((Mx.fil j N (fun jj=>Mx.e A jj i)).set j (some (Mx.e A j i)))) kr rfl rfl rfl (zL (r:=rE) (j:=j) (x0:=(some (Mx.e A j i))) (γ0:=(w310,w411)) rfl rfl (by first|omega|(rw [Mx.oz_len om];omega)|(rw [Mx.fil_len];omega)) rfl rfl sz32 (fun g hr=>qF_e (Holds.get 0 rfl hr))) (fun _ _=> ?_))
   refine zU kr<|zK<|zc<|za<|e_p (zJ (z:=(((j+1):Nat):Int)) rfl rfl (w64 om))<|e_mv rfl<|zf<|zV (j+1) (show (j+1)≤N from by show j+1≤N;omega) (by show N - (j+1)<N - j;omega) (mR rfl) (ho:=((.e (i:=0) rfl (by first|rfl|(rw [Mx.fil_step om])) (.of [0,0] rfl)):PickO _ _ _)) ((.of [1,2] rfl):SelR _ _ _)
  ·
   refine zaa<|zg<|zg<|zp<|zK<|zc<|za<|e_p (zJ (z:=(((i+1):Nat):Int)) rfl rfl (w64 om))<|e_mv rfl<|zf<|zib (fun w mm=>mm.rowEQ (l2:=((List.range N).map (fun jj=>Mx.e A jj i))) 0 rfl (by rw [show j=N by omega];exact Mx.fil_end N _)) ?_
   try dsimp only [List.eraseIdx]
   refine zib (fun w mm=>mm.rmSnoc 0 0 rfl rfl (by rw [Mx.mk_len];exact hlen)) ?_
   try dsimp only [List.eraseIdx]
   refine zV ((i+1),(hs++[((some ⟨b4,0,none⟩:Option Addr),N)])) (show (i+1)≤K∧(hs++[((some ⟨b4,0,none⟩:Option Addr),N)]).length=(i+1) from by exact ⟨by omega,by rw [List.length_append,hlen];rfl⟩) (by show K - (i+1)<K - i;omega) (mR rfl) (ho:=((.e (i:=0) rfl (by first|rfl|(rw [Mx.mk_succ])) (.c (i:=0) rfl .n)):PickO _ _ _)) ((.of [0,1] rfl):SelR _ _ _)
 ·
  refine zaa<|zg<|zg<|zp<|zc<|ze<|za<|e_mv rfl<|e_p (zb rfl)<|zf<|zc<|zG ?_
  have e12:((Mx.oz hs N K):List (Option Addr×Nat×Nat))=(oh hs N):=by exact Mx.oz_end (hlen.trans om)
  rw [e12]
  have e13:(Mx.mk i N (fun ii jj=>Mx.e A jj ii))=(Mx.mk K N (fun ii jj=>Mx.e A jj ii)):=by rw [show i=K by omega]
  rw [e13]
  exact zx yj (some ⟨b1,0,none⟩,K,hs) (hlen.trans om) (zo rfl) rfl (ho:=((.of [1,0] rfl):PickO _ _ _)) sN
theorem zfg {i0:Nat} {j0:Nat} {bA:Nat} {pA:Option Addr} {nA:Nat} {cA:Nat} {A:List (List Rat)} {bB:Nat} {pB:Option Addr} {nB:Nat} {cB:Nat} {B:List (List Rat)} (hnA:A.length=nA) (hnB:B.length=nB) (hiA:i0<nA) (hjA:j0<(A.getD i0 []).length) (hiB:i0<nB) (hjB:j0<(B.getD i0 []).length) (hqA:Mx.bd A 100000) (hqB:Mx.bd B 100000):Con yd 95 [.int .i64 ((i0:Nat):Int),.int .i64 ((j0:Nat):Int),.pointer (some ⟨bA,0,none⟩),.pointer (some ⟨bB,0,none⟩)] [] [atF bA 0 [.slice pA nA cA],slF (rS rQ) pA cA A,atF bB 0 [.slice pB nB cB],slF (rS rQ) pB cB B] (Y:=Wd×Wd) (fun y=>True) (fun y=> .agg #[y.1.b,y.1.l,y.2.b,y.2.l]) (fun y=>[]) (fun y=>[qF true y.1 y.2 (Mx.e A i0 j0+Mx.e B i0 j0)]):=by
 refine zk Tryz.func95 rfl rfl rfl (fun c=> ?_)
 show RunC _ _ _ _ _ [(0,.int .i64 ((i0:Nat):Int)),(1,.int .i64 ((j0:Nat):Int)),(2,.pointer (some ⟨bA,0,none⟩)),(3,.pointer (some ⟨bB,0,none⟩))] [] [atF bA 0 [.slice pA nA cA],slF (rS rQ) pA cA A,atF bB 0 [.slice pB nB cB],slF (rS rQ) pB cB B]
 refine zP 1 rfl (fun hL1=> ?_)
 refine zP 3 rfl (fun hL3=> ?_)
 have hqa:yg ((A.getD i0 []).getD j0 (0:Rat))≤100000:=hqA i0 j0
 have hqb:yg ((B.getD i0 []).getD j0 (0:Rat))≤100000:=hqB i0 j0
 refine ze<|za<|zM rfl rfl (zA zr32 rfl) (fun b1=> ?_)
 refine zf<|zc<|ze<|zW (OW:=[boxA b1 32 (cw [wz,wz])]) (O:=[]) 15 mixed (.then .ret) kr<|e_u 0 rfl rfl (zh (j:=0) 0 ty60 rfl rfl rfl rfl)<|e_dm 1 rfl rfl rfl<|d_vl 2 rfl rfl kr kr rfl rfl (zQ (x0:=(A.getD i0 [])) 1 i0 rfl ya sz62 rfl (by first|rfl|assumption|omega|(simp;done)) rfl rfl (gD (d:=[]) om)) ?_
 rintro ⟨b2,o3,p4,c5⟩ -
 dsimp only [aq,nq,cq]
 refine e_u 3 rfl rfl (zh (j:=0) 0 ty62 rfl rfl rfl rfl)<|e_dm 4 rfl rfl rfl<|d_vl 5 rfl rfl kr kr rfl rfl (zQ (x0:=((A.getD i0 []).getD j0 (0:Rat))) 1 j0 rfl yb sz32 rfl (by first|rfl|assumption|omega|(simp;done)) rfl rfl (gD (d:=(0:Rat)) om)) ?_
 rintro ⟨b6,o7,w9,w10⟩ -
 dsimp only [aq,nq,cq]
 refine zQa open_rQ<|e_u 6 rfl rfl (zO (j:=0) 0 ty32 rfl rfl rfl (.t4 .nil))<|e_u 7 rfl rfl (zh (j:=0) 6 ty60 rfl rfl rfl rfl)<|e_dm 8 rfl rfl rfl<|d_vl 9 rfl rfl kr kr rfl rfl (zQ (x0:=(B.getD i0 [])) 7 i0 rfl ya sz62 rfl (by first|rfl|assumption|omega|(simp;done)) rfl rfl (gD (d:=[]) om)) ?_
 rintro ⟨b11,o12,p13,c14⟩ -
 dsimp only [aq,nq,cq]
 refine e_u 10 rfl rfl (zh (j:=0) 0 ty62 rfl rfl rfl rfl)<|e_dm 11 rfl rfl rfl<|d_vl 12 rfl rfl kr kr rfl rfl (zQ (x0:=((B.getD i0 []).getD j0 (0:Rat))) 1 j0 rfl yb sz32 rfl (by first|rfl|assumption|omega|(simp;done)) rfl rfl (gD (d:=(0:Rat)) om)) ?_
 rintro ⟨b15,o16,w17,w18⟩ -
 dsimp only [aq,nq,cq]
 refine zQa open_rQ<|e_u 13 rfl rfl (zO (j:=0) 0 ty32 rfl rfl rfl (.t4 .nil))<|e_one 14 (zB rfl rfl rfl rfl (.c rfl (.c rfl .n)) ce57 (zrb (k1:=true) (u1:=w9) (v1:=w10) (q1:=((A.getD i0 []).getD j0 (0:Rat))) (k2:=true) (u2:=w17) (v2:=w18) (q2:=((B.getD i0 []).getD j0 (0:Rat))) (hl:=cbo)) (.c (j:=5) rfl (.c (j:=1) rfl .n)) ?_)
 rintro ⟨w319,w420⟩ -
 dsimp only [aq,nq,cq]
 refine e_one 15 (zC kr rfl rfl rfl rfl rfl sz32 rfl (.t4 .nil) ?_)
 refine zU kr<|zc<|zG ?_
 exact zx Tryz.results95 (w319,w420) trivial (zq 0 ty32 rfl rfl (.t4 .nil)) rfl (ho:=oN) (s0 rfl)
theorem zkf {K:Nat} {N:Nat} {bA:Nat} {pA:Option Addr} {nA:Nat} {cA:Nat} {A:List (List Rat)} {bB:Nat} {pB:Option Addr} {nB:Nat} {cB:Nat} {B:List (List Rat)} (hK:K≤64) (hN:N≤70) (hnA:A.length=nA) (hnB:B.length=nB) (hKA:K=nA) (hKB:K=nB) (hrA:∀i,i<nA→(A.getD i []).length=N) (hrB:∀i,i<nB→(B.getD i []).length=N) (hqA:Mx.bd A 100000) (hqB:Mx.bd B 100000):Con yd 86 [.int .i64 ((K:Nat):Int),.int .i64 ((N:Nat):Int),.func (.func 95) #[] #[.pointer (some ⟨bA,0,none⟩),.pointer (some ⟨bB,0,none⟩)]] [] [atF bA 0 [.slice pA nA cA],slF (rS rQ) pA cA A,atF bB 0 [.slice pB nB cB],slF (rS rQ) pB cB B] (Y:=(Option Addr)×Nat×HP) (fun y=>y.2.2.length=K) (fun y=> .slice (y.1) K (y.2.1)) (fun y=>[rowA 62 rV (y.1) (y.2.1) (oh y.2.2 N),rowsM 32 rQ (y.2.2) (Mx.mk K N (fun ii jj=>Mx.e A ii jj+Mx.e B ii jj))]) (fun y=>[]):=by
 refine zk yn rfl rfl rfl (fun c=> ?_)
 show RunC _ _ _ _ _ [(0,.int .i64 ((K:Nat):Int)),(1,.int .i64 ((N:Nat):Int)),(2,.func (.func 95) #[] #[.pointer (some ⟨bA,0,none⟩),.pointer (some ⟨bB,0,none⟩)])] [] [atF bA 0 [.slice pA nA cA],slF (rS rQ) pA cA A,atF bB 0 [.slice pB nB cB],slF (rS rQ) pB cB B]
 refine zP 1 rfl (fun hL1=> ?_)
 refine zP 3 rfl (fun hL3=> ?_)
 refine ze<|za<|e_p (zb rfl)<|zf<|zc<|ze<|za<|e_mv rfl<|zma rfl rfl (zua (r:=rV) (k:=K) (x0:=(none,0,0)) (γ0:=()) ya inf62 rfl rfl rfl rfl om om rfl (fun g _=>by trivial) dd) (fun b1 _=> ?_)
 refine e_p (zb rfl)<|zf<|zc<|ze<|ze<|zjd (fun w mm=>mm.rmNil 32 rQ) ?_
 have e2:(List.replicate K (none,0,0):List (Option Addr×Nat×Nat))=(Mx.oz ([]:HP) N K):=by exact Mx.oz_start N K
 rw [e2]
 refine za<|e_mv rfl<|e_p (zv ya rfl)<|e_mv rfl<|zf<|zc<|zt<|zca (X:=Nat×HP) (fun x:Nat×HP=>x.1≤K∧x.2.length=x.1) (fun x=>[(14,.int .i64 ((x.1:Nat):Int)),(13,.int .i64 ((K:Nat):Int)),(7,.slice (some ⟨b1,0,none⟩) K K),(6,.slice none 0 0),(1,.int .i64 ((N:Nat):Int)),(2,.func (.func 95) #[] #[.pointer (some ⟨bA,0,none⟩),.pointer (some ⟨bB,0,none⟩)])]) (fun x=>[rowsM 32 rQ (x.2) (Mx.mk x.1 N (fun ii jj=>Mx.e A ii jj+Mx.e B ii jj)),rowA 62 rV (some ⟨b1,0,none⟩) K (Mx.oz x.2 N K)]) (fun x=>[atF bA 0 [.slice pA nA cA],slF (rS rQ) pA cA A,atF bB 0 [.slice pB nB cB],slF (rS rQ) pB cB B]) (fun x:Nat×HP=>K - x.1) (0,([]:HP)) (show 0≤K∧([]:HP).length=0 from by exact ⟨Nat.zero_le _,rfl⟩) ((.e rfl cgs (.of rfl)):SubM _ _) (ho:=((.e (i:=0) rfl (by rfl) (.c (i:=0) rfl .n)):PickO _ _ _)) ((.of [0,1,2,3] rfl):SelR _ _ _) ?_
 rintro ⟨i,hs⟩ hI
 replace hI:i≤K∧hs.length=i:=hI
 try dsimp only
 obtain ⟨hi,hlen⟩:=hI
 refine ze<|za<|e_p (zY rfl rfl)<|zf<|zc<|ze<|zD rfl (fun h3=> ?_) (fun h3=> ?_)
 ·
  refine zw<|zc<|ze<|zt<|ze<|za<|e_mv rfl<|e_p (zb rfl)<|zf<|zc<|ze<|za<|e_mv rfl<|e_mv rfl<|e_mv rfl<|zma rfl rfl (zua (r:=rE) (k:=N) (x0:=(none:Option Rat)) (γ0:=(wz,wz)) yb inf32 rfl rfl rfl rfl om om rfl (fun g _=>eF_wz g) dd) (fun b4 _=> ?_)
  refine e_p (zI (j:=i) ya sz62 rfl rfl rfl om)<|zya 2 rfl rfl rfl (zL (j:=i) (x0:=(some ⟨b4,0,none⟩,N,N)) (γ0:=()) rfl rfl (by first|omega|(rw [Mx.oz_len om];omega)|(rw [Mx.fil_len];omega)) rfl rfl sz62 (fun _ _=>by trivial)) (fun _=>(.s (.s .z))) (fun _ _=> ?_)
  refine zf<|zc<|ze ?_
  have e5:(((Mx.oz hs N K).set i (some ⟨b4,0,none⟩,N,N)):List (Option Addr×Nat×Nat))=(Mx.oz (hs++[((some ⟨b4,0,none⟩:Option Addr),N)]) N K):=by exact Mx.oz_step' hlen om
  rw [e5]
  have e6:(List.replicate N (none:Option Rat):List (Option Rat))=(Mx.fil 0 N (fun jj=>Mx.e A i jj+Mx.e B i jj)):=by exact Mx.fil_start N _
  rw [e6]
  refine za<|e_mv rfl<|e_mv rfl<|e_p (zI (j:=i) ya sz62 rfl rfl rfl om)<|r_vl rfl rfl (zN (x0:=(some ⟨b4,0,none⟩,N,N)) (v:= .slice (some ⟨b4,0,none⟩) N N) 2 i rfl ty62 rfl rfl (by exact Mx.oz_last (K:=K) om) rfl) (fun _ hok7=> ?_)
  refine e_p (zv yb rfl)<|e_mv rfl<|zf<|zc<|zt<|zca (X:=Nat) (fun x:Nat=>x≤N) (fun x=>[(27,.int .i64 ((x:Nat):Int)),(26,.int .i64 ((N:Nat):Int)),(8,.int .i64 ((i:Nat):Int)),(14,.int .i64 ((i:Nat):Int)),(13,.int .i64 ((K:Nat):Int)),(7,.slice (some ⟨b1,0,none⟩) K K),(6,.slice none 0 0),(1,.int .i64 ((N:Nat):Int)),(2,.func (.func 95) #[] #[.pointer (some ⟨bA,0,none⟩),.pointer (some ⟨bB,0,none⟩)])]) (fun x=>[rowA 32 rE (some ⟨b4,0,none⟩) N (Mx.fil x N (fun jj=>Mx.e A i jj+Mx.e B i jj)),rowsM 32 rQ hs (Mx.mk i N (fun ii jj=>Mx.e A ii jj+Mx.e B ii jj)),rowA 62 rV (some ⟨b1,0,none⟩) K (Mx.oz (hs++[((some ⟨b4,0,none⟩:Option Addr),N)]) N K)]) (fun x=>[atF bA 0 [.slice pA nA cA],slF (rS rQ) pA cA A,atF bB 0 [.slice pB nB cB],slF (rS rQ) pB cB B]) (fun x:Nat=>N - x) 0 (show 0≤N from by exact Nat.zero_le _) ((.e rfl cgs (.of rfl)):SubM _ _) (ho:=((.of [0,0,0] rfl):PickO _ _ _)) ((.of [0,1,2,3] rfl):SelR _ _ _) ?_
  rintro j hJ
  replace hJ:j≤N:=hJ
  try dsimp only
  refine ze<|za<|e_p (zY rfl rfl)<|zf<|zc<|ze<|zD rfl (fun h8=> ?_) (fun h8=> ?_)
  ·
   refine zw<|zc<|ze<|zt<|ze<|za<|e_mv rfl<|e_p (zb rfl)<|zf<|zc<|zW (OW:=[rowA 32 rE (some ⟨b4,0,none⟩) N (Mx.fil j N (fun jj=>Mx.e A i jj+Mx.e B i jj))]) (O:=[rowsM 32 rQ hs (Mx.mk i N (fun ii jj=>Mx.e A ii jj+Mx.e B ii jj)),rowA 62 rV (some ⟨b1,0,none⟩) K (Mx.oz (hs++[((some ⟨b4,0,none⟩:Option Addr),N)]) N K)]) 10 mixed (.block (.then (.then (.block (.block (.then (.then (.block (.then .ret))))))))) kr ?_
   have hrw:=hrA i om
   have hrw2:=hrB i om
   refine e_dm 0 rfl rfl rfl<|e_dm 1 rfl rfl rfl<|e_pv 2 rfl rfl (zI (j:=i) ya sz62 rfl rfl rfl om)<|zvb 3 rfl rfl kr kr kr rfl rfl (zN (x0:=(some ⟨b4,0,none⟩,N,N)) (v:= .slice (some ⟨b4,0,none⟩) N N) 2 i rfl ty62 rfl rfl (by exact Mx.oz_last (K:=K) om) rfl) (fun _ hok9=> ?_)
   refine e_dm 4 rfl rfl rfl<|e_dm 5 rfl rfl rfl<|e_dm 6 rfl rfl rfl<|e_dm 7 rfl rfl rfl<|e_one 8 (ztc (first:=[]) (cap:=[.pointer (some ⟨bA,0,none⟩),.pointer (some ⟨bB,0,none⟩)]) rfl rfl rfl rfl rfl (.c rfl (.c rfl .n)) ce95 (zfg (i0:=i) (j0:=j) (bA:=bA) (pA:=pA) (nA:=nA) (cA:=cA) (A:=A) (bB:=bB) (pB:=pB) (nB:=nB) (cB:=cB) (B:=B) (hnA:=ass) (hnB:=ass) (hiA:=cbo) (hjA:=cbo) (hiB:=cbo) (hjB:=cbo) (hqA:=ass) (hqB:=ass)) (.c (j:=0) rfl (.c (j:=1) rfl (.c (j:=2) rfl (.c (j:=3) rfl .n)))) ?_)
   rintro ⟨w310,w411⟩ -
   dsimp only [aq,nq,cq]
   refine e_pv 9 rfl rfl (zI (j:=j) yb sz32 rfl rfl rfl om)<|e_one 10 (zQb (A':=fun _=>rowA 32 rE (some ⟨b4,0,none⟩) N ((Mx.fil j N (fun jj=>Mx.e A i jj+Mx.e B i jj)).set j (some (Mx.e A i j+Mx.e B i j)))) kr rfl rfl rfl (zL (r:=rE) (j:=j) (x0:=(some (Mx.e A i j+Mx.e B i j))) (γ0:=(w310,w411)) rfl rfl (by first|omega|(rw [Mx.oz_len om];omega)|(rw [Mx.fil_len];omega)) rfl rfl sz32 (fun g hr=>qF_e (Holds.get 0 rfl hr))) (fun _ _=> ?_))
   refine zU kr<|zK<|zc<|za<|e_p (zJ (z:=(((j+1):Nat):Int)) rfl rfl (w64 om))<|e_mv rfl<|zf<|zV (j+1) (show (j+1)≤N from by show j+1≤N;omega) (by show N - (j+1)<N - j;omega) (mR rfl) (ho:=((.e (i:=0) rfl (by first|rfl|(rw [Mx.fil_step om])) (.of [0,0] rfl)):PickO _ _ _)) ((.of [1,2,3,4] rfl):SelR _ _ _)
  ·
   refine zaa<|zg<|zg<|zp<|zK<|zc<|za<|e_p (zJ (z:=(((i+1):Nat):Int)) rfl rfl (w64 om))<|e_mv rfl<|zf<|zib (fun w mm=>mm.rowEQ (l2:=((List.range N).map (fun jj=>Mx.e A i jj+Mx.e B i jj))) 0 rfl (by rw [show j=N by omega];exact Mx.fil_end N _)) ?_
   try dsimp only [List.eraseIdx]
   refine zib (fun w mm=>mm.rmSnoc 0 0 rfl rfl (by rw [Mx.mk_len];exact hlen)) ?_
   try dsimp only [List.eraseIdx]
   refine zV ((i+1),(hs++[((some ⟨b4,0,none⟩:Option Addr),N)])) (show (i+1)≤K∧(hs++[((some ⟨b4,0,none⟩:Option Addr),N)]).length=(i+1) from by exact ⟨by omega,by rw [List.length_append,hlen];rfl⟩) (by show K - (i+1)<K - i;omega) (mR rfl) (ho:=((.e (i:=0) rfl (by first|rfl|(rw [Mx.mk_succ])) (.c (i:=0) rfl .n)):PickO _ _ _)) ((.of [0,1,2,3] rfl):SelR _ _ _)
 ·
  refine zaa<|zg<|zg<|zp<|zc<|ze<|za<|e_mv rfl<|e_p (zb rfl)<|zf<|zc<|zG ?_
  have e12:((Mx.oz hs N K):List (Option Addr×Nat×Nat))=(oh hs N):=by exact Mx.oz_end (hlen.trans om)
  rw [e12]
  have e13:(Mx.mk i N (fun ii jj=>Mx.e A ii jj+Mx.e B ii jj))=(Mx.mk K N (fun ii jj=>Mx.e A ii jj+Mx.e B ii jj)):=by rw [show i=K by omega]
  rw [e13]
  exact zx yj (some ⟨b1,0,none⟩,K,hs) (hlen.trans om) (zo rfl) rfl (ho:=((.of [1,0] rfl):PickO _ _ _)) sN
theorem zgg {i0:Nat} {j0:Nat} {bA:Nat} {pA:Option Addr} {nA:Nat} {cA:Nat} {A:List (List Rat)} {bB:Nat} {pB:Option Addr} {nB:Nat} {cB:Nat} {B:List (List Rat)} (hnA:A.length=nA) (hnB:B.length=nB) (hiA:i0<nA) (hjA:j0<(A.getD i0 []).length) (hiB:i0<nB) (hjB:j0<(B.getD i0 []).length) (hqA:Mx.bd A 100000) (hqB:Mx.bd B 100000):Con yd 164 [.int .i64 ((i0:Nat):Int),.int .i64 ((j0:Nat):Int),.pointer (some ⟨bA,0,none⟩),.pointer (some ⟨bB,0,none⟩)] [] [atF bA 0 [.slice pA nA cA],slF (rS rQ) pA cA A,atF bB 0 [.slice pB nB cB],slF (rS rQ) pB cB B] (Y:=Wd×Wd) (fun y=>True) (fun y=> .agg #[y.1.b,y.1.l,y.2.b,y.2.l]) (fun y=>[]) (fun y=>[qF true y.1 y.2 (Mx.e A i0 j0 - Mx.e B i0 j0)]):=by
 refine zk Tryz.func164 rfl rfl rfl (fun c=> ?_)
 show RunC _ _ _ _ _ [(0,.int .i64 ((i0:Nat):Int)),(1,.int .i64 ((j0:Nat):Int)),(2,.pointer (some ⟨bA,0,none⟩)),(3,.pointer (some ⟨bB,0,none⟩))] [] [atF bA 0 [.slice pA nA cA],slF (rS rQ) pA cA A,atF bB 0 [.slice pB nB cB],slF (rS rQ) pB cB B]
 refine zP 1 rfl (fun hL1=> ?_)
 refine zP 3 rfl (fun hL3=> ?_)
 have hqa:yg ((A.getD i0 []).getD j0 (0:Rat))≤100000:=hqA i0 j0
 have hqb:yg ((B.getD i0 []).getD j0 (0:Rat))≤100000:=hqB i0 j0
 refine ze<|za<|zM rfl rfl (zA zr32 rfl) (fun b1=> ?_)
 refine zf<|zc<|ze<|zW (OW:=[boxA b1 32 (cw [wz,wz])]) (O:=[]) 15 mixed (.then .ret) kr<|e_u 0 rfl rfl (zh (j:=0) 0 ty60 rfl rfl rfl rfl)<|e_dm 1 rfl rfl rfl<|d_vl 2 rfl rfl kr kr rfl rfl (zQ (x0:=(A.getD i0 [])) 1 i0 rfl ya sz62 rfl (by first|rfl|assumption|omega|(simp;done)) rfl rfl (gD (d:=[]) om)) ?_
 rintro ⟨b2,o3,p4,c5⟩ -
 dsimp only [aq,nq,cq]
 refine e_u 3 rfl rfl (zh (j:=0) 0 ty62 rfl rfl rfl rfl)<|e_dm 4 rfl rfl rfl<|d_vl 5 rfl rfl kr kr rfl rfl (zQ (x0:=((A.getD i0 []).getD j0 (0:Rat))) 1 j0 rfl yb sz32 rfl (by first|rfl|assumption|omega|(simp;done)) rfl rfl (gD (d:=(0:Rat)) om)) ?_
 rintro ⟨b6,o7,w9,w10⟩ -
 dsimp only [aq,nq,cq]
 refine zQa open_rQ<|e_u 6 rfl rfl (zO (j:=0) 0 ty32 rfl rfl rfl (.t4 .nil))<|e_u 7 rfl rfl (zh (j:=0) 6 ty60 rfl rfl rfl rfl)<|e_dm 8 rfl rfl rfl<|d_vl 9 rfl rfl kr kr rfl rfl (zQ (x0:=(B.getD i0 [])) 7 i0 rfl ya sz62 rfl (by first|rfl|assumption|omega|(simp;done)) rfl rfl (gD (d:=[]) om)) ?_
 rintro ⟨b11,o12,p13,c14⟩ -
 dsimp only [aq,nq,cq]
 refine e_u 10 rfl rfl (zh (j:=0) 0 ty62 rfl rfl rfl rfl)<|e_dm 11 rfl rfl rfl<|d_vl 12 rfl rfl kr kr rfl rfl (zQ (x0:=((B.getD i0 []).getD j0 (0:Rat))) 1 j0 rfl yb sz32 rfl (by first|rfl|assumption|omega|(simp;done)) rfl rfl (gD (d:=(0:Rat)) om)) ?_
 rintro ⟨b15,o16,w17,w18⟩ -
 dsimp only [aq,nq,cq]
 refine zQa open_rQ<|e_u 13 rfl rfl (zO (j:=0) 0 ty32 rfl rfl rfl (.t4 .nil))<|e_one 14 (zB rfl rfl rfl rfl (.c rfl (.c rfl .n)) ce147 (zqd (k1:=true) (u1:=w9) (v1:=w10) (q1:=((A.getD i0 []).getD j0 (0:Rat))) (k2:=true) (u2:=w17) (v2:=w18) (q2:=((B.getD i0 []).getD j0 (0:Rat))) (hl:=cbo)) (.c (j:=5) rfl (.c (j:=1) rfl .n)) ?_)
 rintro ⟨w319,w420⟩ -
 dsimp only [aq,nq,cq]
 refine e_one 15 (zC kr rfl rfl rfl rfl rfl sz32 rfl (.t4 .nil) ?_)
 refine zU kr<|zc<|zG ?_
 exact zx Tryz.results164 (w319,w420) trivial (zq 0 ty32 rfl rfl (.t4 .nil)) rfl (ho:=oN) (s0 rfl)
theorem zlf {K:Nat} {N:Nat} {bA:Nat} {pA:Option Addr} {nA:Nat} {cA:Nat} {A:List (List Rat)} {bB:Nat} {pB:Option Addr} {nB:Nat} {cB:Nat} {B:List (List Rat)} (hK:K≤64) (hN:N≤70) (hnA:A.length=nA) (hnB:B.length=nB) (hKA:K=nA) (hKB:K=nB) (hrA:∀i,i<nA→(A.getD i []).length=N) (hrB:∀i,i<nB→(B.getD i []).length=N) (hqA:Mx.bd A 100000) (hqB:Mx.bd B 100000):Con yd 86 [.int .i64 ((K:Nat):Int),.int .i64 ((N:Nat):Int),.func (.func 164) #[] #[.pointer (some ⟨bA,0,none⟩),.pointer (some ⟨bB,0,none⟩)]] [] [atF bA 0 [.slice pA nA cA],slF (rS rQ) pA cA A,atF bB 0 [.slice pB nB cB],slF (rS rQ) pB cB B] (Y:=(Option Addr)×Nat×HP) (fun y=>y.2.2.length=K) (fun y=> .slice (y.1) K (y.2.1)) (fun y=>[rowA 62 rV (y.1) (y.2.1) (oh y.2.2 N),rowsM 32 rQ (y.2.2) (Mx.mk K N (fun ii jj=>Mx.e A ii jj - Mx.e B ii jj))]) (fun y=>[]):=by
 refine zk yn rfl rfl rfl (fun c=> ?_)
 show RunC _ _ _ _ _ [(0,.int .i64 ((K:Nat):Int)),(1,.int .i64 ((N:Nat):Int)),(2,.func (.func 164) #[] #[.pointer (some ⟨bA,0,none⟩),.pointer (some ⟨bB,0,none⟩)])] [] [atF bA 0 [.slice pA nA cA],slF (rS rQ) pA cA A,atF bB 0 [.slice pB nB cB],slF (rS rQ) pB cB B]
 refine zP 1 rfl (fun hL1=> ?_)
 refine zP 3 rfl (fun hL3=> ?_)
 refine ze<|za<|e_p (zb rfl)<|zf<|zc<|ze<|za<|e_mv rfl<|zma rfl rfl (zua (r:=rV) (k:=K) (x0:=(none,0,0)) (γ0:=()) ya inf62 rfl rfl rfl rfl om om rfl (fun g _=>by trivial) dd) (fun b1 _=> ?_)
 refine e_p (zb rfl)<|zf<|zc<|ze<|ze<|zjd (fun w mm=>mm.rmNil 32 rQ) ?_
 have e2:(List.replicate K (none,0,0):List (Option Addr×Nat×Nat))=(Mx.oz ([]:HP) N K):=by exact Mx.oz_start N K
 rw [e2]
 refine za<|e_mv rfl<|e_p (zv ya rfl)<|e_mv rfl<|zf<|zc<|zt<|zca (X:=Nat×HP) (fun x:Nat×HP=>x.1≤K∧x.2.length=x.1) (fun x=>[(14,.int .i64 ((x.1:Nat):Int)),(13,.int .i64 ((K:Nat):Int)),(7,.slice (some ⟨b1,0,none⟩) K K),(6,.slice none 0 0),(1,.int .i64 ((N:Nat):Int)),(2,.func (.func 164) #[] #[.pointer (some ⟨bA,0,none⟩),.pointer (some ⟨bB,0,none⟩)])]) (fun x=>[rowsM 32 rQ (x.2) (Mx.mk x.1 N (fun ii jj=>Mx.e A ii jj - Mx.e B ii jj)),rowA 62 rV (some ⟨b1,0,none⟩) K (Mx.oz x.2 N K)]) (fun x=>[atF bA 0 [.slice pA nA cA],slF (rS rQ) pA cA A,atF bB 0 [.slice pB nB cB],slF (rS rQ) pB cB B]) (fun x:Nat×HP=>K - x.1) (0,([]:HP)) (show 0≤K∧([]:HP).length=0 from by exact ⟨Nat.zero_le _,rfl⟩) ((.e rfl cgs (.of rfl)):SubM _ _) (ho:=((.e (i:=0) rfl (by rfl) (.c (i:=0) rfl .n)):PickO _ _ _)) ((.of [0,1,2,3] rfl):SelR _ _ _) ?_
 rintro ⟨i,hs⟩ hI
 replace hI:i≤K∧hs.length=i:=hI
 try dsimp only
 obtain ⟨hi,hlen⟩:=hI
 refine ze<|za<|e_p (zY rfl rfl)<|zf<|zc<|ze<|zD rfl (fun h3=> ?_) (fun h3=> ?_)
 ·
  refine zw<|zc<|ze<|zt<|ze<|za<|e_mv rfl<|e_p (zb rfl)<|zf<|zc<|ze<|za<|e_mv rfl<|e_mv rfl<|e_mv rfl<|zma rfl rfl (zua (r:=rE) (k:=N) (x0:=(none:Option Rat)) (γ0:=(wz,wz)) yb inf32 rfl rfl rfl rfl om om rfl (fun g _=>eF_wz g) dd) (fun b4 _=> ?_)
  refine e_p (zI (j:=i) ya sz62 rfl rfl rfl om)<|zya 2 rfl rfl rfl (zL (j:=i) (x0:=(some ⟨b4,0,none⟩,N,N)) (γ0:=()) rfl rfl (by first|omega|(rw [Mx.oz_len om];omega)|(rw [Mx.fil_len];omega)) rfl rfl sz62 (fun _ _=>by trivial)) (fun _=>(.s (.s .z))) (fun _ _=> ?_)
  refine zf<|zc<|ze ?_
  have e5:(((Mx.oz hs N K).set i (some ⟨b4,0,none⟩,N,N)):List (Option Addr×Nat×Nat))=(Mx.oz (hs++[((some ⟨b4,0,none⟩:Option Addr),N)]) N K):=by exact Mx.oz_step' hlen om
  rw [e5]
  have e6:(List.replicate N (none:Option Rat):List (Option Rat))=(Mx.fil 0 N (fun jj=>Mx.e A i jj - Mx.e B i jj)):=by exact Mx.fil_start N _
  rw [e6]
  refine za<|e_mv rfl<|e_mv rfl<|e_p (zI (j:=i) ya sz62 rfl rfl rfl om)<|r_vl rfl rfl (zN (x0:=(some ⟨b4,0,none⟩,N,N)) (v:= .slice (some ⟨b4,0,none⟩) N N) 2 i rfl ty62 rfl rfl (by exact Mx.oz_last (K:=K) om) rfl) (fun _ hok7=> ?_)
  refine e_p (zv yb rfl)<|e_mv rfl<|zf<|zc<|zt<|zca (X:=Nat) (fun x:Nat=>x≤N) (fun x=>[(27,.int .i64 ((x:Nat):Int)),(26,.int .i64 ((N:Nat):Int)),(8,.int .i64 ((i:Nat):Int)),(14,.int .i64 ((i:Nat):Int)),(13,.int .i64 ((K:Nat):Int)),(7,.slice (some ⟨b1,0,none⟩) K K),(6,.slice none 0 0),(1,.int .i64 ((N:Nat):Int)),(2,.func (.func 164) #[] #[.pointer (some ⟨bA,0,none⟩),.pointer (some ⟨bB,0,none⟩)])]) (fun x=>[rowA 32 rE (some ⟨b4,0,none⟩) N (Mx.fil x N (fun jj=>Mx.e A i jj - Mx.e B i jj)),rowsM 32 rQ hs (Mx.mk i N (fun ii jj=>Mx.e A ii jj - Mx.e B ii jj)),rowA 62 rV (some ⟨b1,0,none⟩) K (Mx.oz (hs++[((some ⟨b4,0,none⟩:Option Addr),N)]) N K)]) (fun x=>[atF bA 0 [.slice pA nA cA],slF (rS rQ) pA cA A,atF bB 0 [.slice pB nB cB],slF (rS rQ) pB cB B]) (fun x:Nat=>N - x) 0 (show 0≤N from by exact Nat.zero_le _) ((.e rfl cgs (.of rfl)):SubM _ _) (ho:=((.of [0,0,0] rfl):PickO _ _ _)) ((.of [0,1,2,3] rfl):SelR _ _ _) ?_
  rintro j hJ
  replace hJ:j≤N:=hJ
  try dsimp only
  refine ze<|za<|e_p (zY rfl rfl)<|zf<|zc<|ze<|zD rfl (fun h8=> ?_) (fun h8=> ?_)
  ·
   refine zw<|zc<|ze<|zt<|ze<|za<|e_mv rfl<|e_p (zb rfl)<|zf<|zc<|zW (OW:=[rowA 32 rE (some ⟨b4,0,none⟩) N (Mx.fil j N (fun jj=>Mx.e A i jj - Mx.e B i jj))]) (O:=[rowsM 32 rQ hs (Mx.mk i N (fun ii jj=>Mx.e A ii jj - Mx.e B ii jj)),rowA 62 rV (some ⟨b1,0,none⟩) K (Mx.oz (hs++[((some ⟨b4,0,none⟩:Option Addr),N)]) N K)]) 10 mixed (.block (.then (.then (.block (.block (.then (.then (.block (.then .ret))))))))) kr ?_
   have hrw:=hrA i om
   have hrw2:=hrB i om
   refine e_dm 0 rfl rfl rfl<|e_dm 1 rfl rfl rfl<|e_pv 2 rfl rfl (zI (j:=i) ya sz62 rfl rfl rfl om)<|zvb 3 rfl rfl kr kr kr rfl rfl (zN (x0:=(some ⟨b4,0,none⟩,N,N)) (v:= .slice (some ⟨b4,0,none⟩) N N) 2 i rfl ty62 rfl rfl (by exact Mx.oz_last (K:=K) om) rfl) (fun _ hok9=> ?_)
   refine e_dm 4 rfl rfl rfl<|e_dm 5 rfl rfl rfl<|e_dm 6 rfl rfl rfl<|e_dm 7 rfl rfl rfl<|e_one 8 (ztc (first:=[]) (cap:=[.pointer (some ⟨bA,0,none⟩),.pointer (some ⟨bB,0,none⟩)]) rfl rfl rfl rfl rfl (.c rfl (.c rfl .n)) ce164 (zgg (i0:=i) (j0:=j) (bA:=bA) (pA:=pA) (nA:=nA) (cA:=cA) (A:=A) (bB:=bB) (pB:=pB) (nB:=nB) (cB:=cB) (B:=B) (hnA:=ass) (hnB:=ass) (hiA:=cbo) (hjA:=cbo) (hiB:=cbo) (hjB:=cbo) (hqA:=ass) (hqB:=ass)) (.c (j:=0) rfl (.c (j:=1) rfl (.c (j:=2) rfl (.c (j:=3) rfl .n)))) ?_)
   rintro ⟨w310,w411⟩ -
   dsimp only [aq,nq,cq]
   refine e_pv 9 rfl rfl (zI (j:=j) yb sz32 rfl rfl rfl om)<|e_one 10 (zQb (A':=fun _=>rowA 32 rE (some ⟨b4,0,none⟩) N ((Mx.fil j N (fun jj=>Mx.e A i jj - Mx.e B i jj)).set j (some (Mx.e A i j - Mx.e B i j)))) kr rfl rfl rfl (zL (r:=rE) (j:=j) (x0:=(some (Mx.e A i j - Mx.e B i j))) (γ0:=(w310,w411)) rfl rfl (by first|omega|(rw [Mx.oz_len om];omega)|(rw [Mx.fil_len];omega)) rfl rfl sz32 (fun g hr=>qF_e (Holds.get 0 rfl hr))) (fun _ _=> ?_))
   refine zU kr<|zK<|zc<|za<|e_p (zJ (z:=(((j+1):Nat):Int)) rfl rfl (w64 om))<|e_mv rfl<|zf<|zV (j+1) (show (j+1)≤N from by show j+1≤N;omega) (by show N - (j+1)<N - j;omega) (mR rfl) (ho:=((.e (i:=0) rfl (by first|rfl|(rw [Mx.fil_step om])) (.of [0,0] rfl)):PickO _ _ _)) ((.of [1,2,3,4] rfl):SelR _ _ _)
  ·
   refine zaa<|zg<|zg<|zp<|zK<|zc<|za<|e_p (zJ (z:=(((i+1):Nat):Int)) rfl rfl (w64 om))<|e_mv rfl<|zf<|zib (fun w mm=>mm.rowEQ (l2:=((List.range N).map (fun jj=>Mx.e A i jj - Mx.e B i jj))) 0 rfl (by rw [show j=N by omega];exact Mx.fil_end N _)) ?_
   try dsimp only [List.eraseIdx]
   refine zib (fun w mm=>mm.rmSnoc 0 0 rfl rfl (by rw [Mx.mk_len];exact hlen)) ?_
   try dsimp only [List.eraseIdx]
   refine zV ((i+1),(hs++[((some ⟨b4,0,none⟩:Option Addr),N)])) (show (i+1)≤K∧(hs++[((some ⟨b4,0,none⟩:Option Addr),N)]).length=(i+1) from by exact ⟨by omega,by rw [List.length_append,hlen];rfl⟩) (by show K - (i+1)<K - i;omega) (mR rfl) (ho:=((.e (i:=0) rfl (by first|rfl|(rw [Mx.mk_succ])) (.c (i:=0) rfl .n)):PickO _ _ _)) ((.of [0,1,2,3] rfl):SelR _ _ _)
 ·
  refine zaa<|zg<|zg<|zp<|zc<|ze<|za<|e_mv rfl<|e_p (zb rfl)<|zf<|zc<|zG ?_
  have e12:((Mx.oz hs N K):List (Option Addr×Nat×Nat))=(oh hs N):=by exact Mx.oz_end (hlen.trans om)
  rw [e12]
  have e13:(Mx.mk i N (fun ii jj=>Mx.e A ii jj - Mx.e B ii jj))=(Mx.mk K N (fun ii jj=>Mx.e A ii jj - Mx.e B ii jj)):=by rw [show i=K by omega]
  rw [e13]
  exact zx yj (some ⟨b1,0,none⟩,K,hs) (hlen.trans om) (zo rfl) rfl (ho:=((.of [1,0] rfl):PickO _ _ _)) sN
theorem zve {i0:Nat} {j0:Nat} {bK:Nat} {uk:Wd} {vk:Wd} {xk:Rat} {bA:Nat} {pA:Option Addr} {nA:Nat} {cA:Nat} {A:List (List Rat)} (hnA:A.length=nA) (hiA:i0<nA) (hjA:j0<(A.getD i0 []).length) (hqA:Mx.bd A 100000) (hxk:yg xk≤100000):Con yd 89 [.int .i64 ((i0:Nat):Int),.int .i64 ((j0:Nat):Int),.pointer (some ⟨bK,0,none⟩),.pointer (some ⟨bA,0,none⟩)] [] [atF bK 0 [uk.b,uk.l,vk.b,vk.l],qF true uk vk xk,atF bA 0 [.slice pA nA cA],slF (rS rQ) pA cA A] (Y:=Wd×Wd) (fun y=>True) (fun y=> .agg #[y.1.b,y.1.l,y.2.b,y.2.l]) (fun y=>[]) (fun y=>[qF true y.1 y.2 (xk*Mx.e A i0 j0)]):=by
 refine zk Tryz.func89 rfl rfl rfl (fun c=> ?_)
 show RunC _ _ _ _ _ [(0,.int .i64 ((i0:Nat):Int)),(1,.int .i64 ((j0:Nat):Int)),(2,.pointer (some ⟨bK,0,none⟩)),(3,.pointer (some ⟨bA,0,none⟩))] [] [atF bK 0 [uk.b,uk.l,vk.b,vk.l],qF true uk vk xk,atF bA 0 [.slice pA nA cA],slF (rS rQ) pA cA A]
 refine zP 3 rfl (fun hL3=> ?_)
 have hqa:yg ((A.getD i0 []).getD j0 (0:Rat))≤100000:=hqA i0 j0
 refine ze<|za<|zM rfl rfl (zA zr32 rfl) (fun b1=> ?_)
 refine zf<|zc<|ze<|zW (OW:=[boxA b1 32 (cw [wz,wz])]) (O:=[]) 9 mixed (.then .ret) kr<|e_u 0 rfl rfl (zO (j:=0) 0 ty32 rfl rfl rfl (.t4 .nil))<|e_u 1 rfl rfl (zh (j:=0) 2 ty60 rfl rfl rfl rfl)<|e_dm 2 rfl rfl rfl<|d_vl 3 rfl rfl kr kr rfl rfl (zQ (x0:=(A.getD i0 [])) 3 i0 rfl ya sz62 rfl (by first|rfl|assumption|omega|(simp;done)) rfl rfl (gD (d:=[]) om)) ?_
 rintro ⟨b2,o3,p4,c5⟩ -
 dsimp only [aq,nq,cq]
 refine e_u 4 rfl rfl (zh (j:=0) 0 ty62 rfl rfl rfl rfl)<|e_dm 5 rfl rfl rfl<|d_vl 6 rfl rfl kr kr rfl rfl (zQ (x0:=((A.getD i0 []).getD j0 (0:Rat))) 1 j0 rfl yb sz32 rfl (by first|rfl|assumption|omega|(simp;done)) rfl rfl (gD (d:=(0:Rat)) om)) ?_
 rintro ⟨b6,o7,w9,w10⟩ -
 dsimp only [aq,nq,cq]
 refine zQa open_rQ<|e_u 7 rfl rfl (zO (j:=0) 0 ty32 rfl rfl rfl (.t4 .nil))<|e_one 8 (zB rfl rfl rfl rfl (.c rfl (.c rfl .n)) ce56 (zsb (k1:=true) (u1:=uk) (v1:=vk) (q1:=xk) (k2:=true) (u2:=w9) (v2:=w10) (q2:=((A.getD i0 []).getD j0 (0:Rat))) (hl:=cbo)) (.c (j:=5) rfl (.c (j:=1) rfl .n)) ?_)
 rintro ⟨w311,w412⟩ -
 dsimp only [aq,nq,cq]
 refine e_one 9 (zC kr rfl rfl rfl rfl rfl sz32 rfl (.t4 .nil) ?_)
 refine zU kr<|zc<|zG ?_
 exact zx Tryz.results89 (w311,w412) trivial (zq 0 ty32 rfl rfl (.t4 .nil)) rfl (ho:=oN) (s0 rfl)
theorem zmf {K:Nat} {N:Nat} {bK:Nat} {uk:Wd} {vk:Wd} {xk:Rat} {bA:Nat} {pA:Option Addr} {nA:Nat} {cA:Nat} {A:List (List Rat)} (hK:K≤64) (hN:N≤70) (hnA:A.length=nA) (hKA:K=nA) (hrA:∀i,i<nA→(A.getD i []).length=N) (hqA:Mx.bd A 100000) (hxk:yg xk≤100000):Con yd 86 [.int .i64 ((K:Nat):Int),.int .i64 ((N:Nat):Int),.func (.func 89) #[] #[.pointer (some ⟨bK,0,none⟩),.pointer (some ⟨bA,0,none⟩)]] [] [atF bK 0 [uk.b,uk.l,vk.b,vk.l],qF true uk vk xk,atF bA 0 [.slice pA nA cA],slF (rS rQ) pA cA A] (Y:=(Option Addr)×Nat×HP) (fun y=>y.2.2.length=K) (fun y=> .slice (y.1) K (y.2.1)) (fun y=>[rowA 62 rV (y.1) (y.2.1) (oh y.2.2 N),rowsM 32 rQ (y.2.2) (Mx.mk K N (fun ii jj=>xk*Mx.e A ii jj))]) (fun y=>[]):=by
 refine zk yn rfl rfl rfl (fun c=> ?_)
 show RunC _ _ _ _ _ [(0,.int .i64 ((K:Nat):Int)),(1,.int .i64 ((N:Nat):Int)),(2,.func (.func 89) #[] #[.pointer (some ⟨bK,0,none⟩),.pointer (some ⟨bA,0,none⟩)])] [] [atF bK 0 [uk.b,uk.l,vk.b,vk.l],qF true uk vk xk,atF bA 0 [.slice pA nA cA],slF (rS rQ) pA cA A]
 refine zP 3 rfl (fun hL3=> ?_)
 refine ze<|za<|e_p (zb rfl)<|zf<|zc<|ze<|za<|e_mv rfl<|zma rfl rfl (zua (r:=rV) (k:=K) (x0:=(none,0,0)) (γ0:=()) ya inf62 rfl rfl rfl rfl om om rfl (fun g _=>by trivial) dd) (fun b1 _=> ?_)
 refine e_p (zb rfl)<|zf<|zc<|ze<|ze<|zjd (fun w mm=>mm.rmNil 32 rQ) ?_
 have e2:(List.replicate K (none,0,0):List (Option Addr×Nat×Nat))=(Mx.oz ([]:HP) N K):=by exact Mx.oz_start N K
 rw [e2]
 refine za<|e_mv rfl<|e_p (zv ya rfl)<|e_mv rfl<|zf<|zc<|zt<|zca (X:=Nat×HP) (fun x:Nat×HP=>x.1≤K∧x.2.length=x.1) (fun x=>[(14,.int .i64 ((x.1:Nat):Int)),(13,.int .i64 ((K:Nat):Int)),(7,.slice (some ⟨b1,0,none⟩) K K),(6,.slice none 0 0),(1,.int .i64 ((N:Nat):Int)),(2,.func (.func 89) #[] #[.pointer (some ⟨bK,0,none⟩),.pointer (some ⟨bA,0,none⟩)])]) (fun x=>[rowsM 32 rQ (x.2) (Mx.mk x.1 N (fun ii jj=>xk*Mx.e A ii jj)),rowA 62 rV (some ⟨b1,0,none⟩) K (Mx.oz x.2 N K)]) (fun x=>[atF bK 0 [uk.b,uk.l,vk.b,vk.l],qF true uk vk xk,atF bA 0 [.slice pA nA cA],slF (rS rQ) pA cA A]) (fun x:Nat×HP=>K - x.1) (0,([]:HP)) (show 0≤K∧([]:HP).length=0 from by exact ⟨Nat.zero_le _,rfl⟩) ((.e rfl cgs (.of rfl)):SubM _ _) (ho:=((.e (i:=0) rfl (by rfl) (.c (i:=0) rfl .n)):PickO _ _ _)) ((.of [0,1,2,3] rfl):SelR _ _ _) ?_
 rintro ⟨i,hs⟩ hI
 replace hI:i≤K∧hs.length=i:=hI
 try dsimp only
 obtain ⟨hi,hlen⟩:=hI
 refine ze<|za<|e_p (zY rfl rfl)<|zf<|zc<|ze<|zD rfl (fun h3=> ?_) (fun h3=> ?_)
 ·
  refine zw<|zc<|ze<|zt<|ze<|za<|e_mv rfl<|e_p (zb rfl)<|zf<|zc<|ze<|za<|e_mv rfl<|e_mv rfl<|e_mv rfl<|zma rfl rfl (zua (r:=rE) (k:=N) (x0:=(none:Option Rat)) (γ0:=(wz,wz)) yb inf32 rfl rfl rfl rfl om om rfl (fun g _=>eF_wz g) dd) (fun b4 _=> ?_)
  refine e_p (zI (j:=i) ya sz62 rfl rfl rfl om)<|zya 2 rfl rfl rfl (zL (j:=i) (x0:=(some ⟨b4,0,none⟩,N,N)) (γ0:=()) rfl rfl (by first|omega|(rw [Mx.oz_len om];omega)|(rw [Mx.fil_len];omega)) rfl rfl sz62 (fun _ _=>by trivial)) (fun _=>(.s (.s .z))) (fun _ _=> ?_)
  refine zf<|zc<|ze ?_
  have e5:(((Mx.oz hs N K).set i (some ⟨b4,0,none⟩,N,N)):List (Option Addr×Nat×Nat))=(Mx.oz (hs++[((some ⟨b4,0,none⟩:Option Addr),N)]) N K):=by exact Mx.oz_step' hlen om
  rw [e5]
  have e6:(List.replicate N (none:Option Rat):List (Option Rat))=(Mx.fil 0 N (fun jj=>xk*Mx.e A i jj)):=by exact Mx.fil_start N _
  rw [e6]
  refine za<|e_mv rfl<|e_mv rfl<|e_p (zI (j:=i) ya sz62 rfl rfl rfl om)<|r_vl rfl rfl (zN (x0:=(some ⟨b4,0,none⟩,N,N)) (v:= .slice (some ⟨b4,0,none⟩) N N) 2 i rfl ty62 rfl rfl (by exact Mx.oz_last (K:=K) om) rfl) (fun _ hok7=> ?_)
  refine e_p (zv yb rfl)<|e_mv rfl<|zf<|zc<|zt<|zca (X:=Nat) (fun x:Nat=>x≤N) (fun x=>[(27,.int .i64 ((x:Nat):Int)),(26,.int .i64 ((N:Nat):Int)),(8,.int .i64 ((i:Nat):Int)),(14,.int .i64 ((i:Nat):Int)),(13,.int .i64 ((K:Nat):Int)),(7,.slice (some ⟨b1,0,none⟩) K K),(6,.slice none 0 0),(1,.int .i64 ((N:Nat):Int)),(2,.func (.func 89) #[] #[.pointer (some ⟨bK,0,none⟩),.pointer (some ⟨bA,0,none⟩)])]) (fun x=>[rowA 32 rE (some ⟨b4,0,none⟩) N (Mx.fil x N (fun jj=>xk*Mx.e A i jj)),rowsM 32 rQ hs (Mx.mk i N (fun ii jj=>xk*Mx.e A ii jj)),rowA 62 rV (some ⟨b1,0,none⟩) K (Mx.oz (hs++[((some ⟨b4,0,none⟩:Option Addr),N)]) N K)]) (fun x=>[atF bK 0 [uk.b,uk.l,vk.b,vk.l],qF true uk vk xk,atF bA 0 [.slice pA nA cA],slF (rS rQ) pA cA A]) (fun x:Nat=>N - x) 0 (show 0≤N from by exact Nat.zero_le _) ((.e rfl cgs (.of rfl)):SubM _ _) (ho:=((.of [0,0,0] rfl):PickO _ _ _)) ((.of [0,1,2,3] rfl):SelR _ _ _) ?_
  rintro j hJ
  replace hJ:j≤N:=hJ
  try dsimp only
  refine ze<|za<|e_p (zY rfl rfl)<|zf<|zc<|ze<|zD rfl (fun h8=> ?_) (fun h8=> ?_)
  ·
   refine zw<|zc<|ze<|zt<|ze<|za<|e_mv rfl<|e_p (zb rfl)<|zf<|zc<|zW (OW:=[rowA 32 rE (some ⟨b4,0,none⟩) N (Mx.fil j N (fun jj=>xk*Mx.e A i jj))]) (O:=[rowsM 32 rQ hs (Mx.mk i N (fun ii jj=>xk*Mx.e A ii jj)),rowA 62 rV (some ⟨b1,0,none⟩) K (Mx.oz (hs++[((some ⟨b4,0,none⟩:Option Addr),N)]) N K)]) 10 mixed (.block (.then (.then (.block (.block (.then (.then (.block (.then .ret))))))))) kr ?_
   have hrw:=hrA i om
   refine e_dm 0 rfl rfl rfl<|e_dm 1 rfl rfl rfl<|e_pv 2 rfl rfl (zI (j:=i) ya sz62 rfl rfl rfl om)<|zvb 3 rfl rfl kr kr kr rfl rfl (zN (x0:=(some ⟨b4,0,none⟩,N,N)) (v:= .slice (some ⟨b4,0,none⟩) N N) 2 i rfl ty62 rfl rfl (by exact Mx.oz_last (K:=K) om) rfl) (fun _ hok9=> ?_)
   refine e_dm 4 rfl rfl rfl<|e_dm 5 rfl rfl rfl<|e_dm 6 rfl rfl rfl<|e_dm 7 rfl rfl rfl<|e_one 8 (ztc (first:=[]) (cap:=[.pointer (some ⟨bK,0,none⟩),.pointer (some ⟨bA,0,none⟩)]) rfl rfl rfl rfl rfl (.c rfl (.c rfl .n)) ce89 (zve (i0:=i) (j0:=j) (bK:=bK) (uk:=uk) (vk:=vk) (xk:=xk) (bA:=bA) (pA:=pA) (nA:=nA) (cA:=cA) (A:=A) (hnA:=ass) (hiA:=cbo) (hjA:=cbo) (hqA:=ass) (hxk:=ass)) (.c (j:=0) rfl (.c (j:=1) rfl (.c (j:=2) rfl (.c (j:=3) rfl .n)))) ?_)
   rintro ⟨w310,w411⟩ -
   dsimp only [aq,nq,cq]
   refine e_pv 9 rfl rfl (zI (j:=j) yb sz32 rfl rfl rfl om)<|e_one 10 (zQb (A':=fun _=>rowA 32 rE (some ⟨b4,0,none⟩) N ((Mx.fil j N (fun jj=>xk*Mx.e A i jj)).set j (some (xk*Mx.e A i j)))) kr rfl rfl rfl (zL (r:=rE) (j:=j) (x0:=(some (xk*Mx.e A i j))) (γ0:=(w310,w411)) rfl rfl (by first|omega|(rw [Mx.oz_len om];omega)|(rw [Mx.fil_len];omega)) rfl rfl sz32 (fun g hr=>qF_e (Holds.get 0 rfl hr))) (fun _ _=> ?_))
   refine zU kr<|zK<|zc<|za<|e_p (zJ (z:=(((j+1):Nat):Int)) rfl rfl (w64 om))<|e_mv rfl<|zf<|zV (j+1) (show (j+1)≤N from by show j+1≤N;omega) (by show N - (j+1)<N - j;omega) (mR rfl) (ho:=((.e (i:=0) rfl (by first|rfl|(rw [Mx.fil_step om])) (.of [0,0] rfl)):PickO _ _ _)) ((.of [1,2,3,4] rfl):SelR _ _ _)
  ·
   refine zaa<|zg<|zg<|zp<|zK<|zc<|za<|e_p (zJ (z:=(((i+1):Nat):Int)) rfl rfl (w64 om))<|e_mv rfl<|zf<|zib (fun w mm=>mm.rowEQ (l2:=((List.range N).map (fun jj=>xk*Mx.e A i jj))) 0 rfl (by rw [show j=N by omega];exact Mx.fil_end N _)) ?_
   try dsimp only [List.eraseIdx]
   refine zib (fun w mm=>mm.rmSnoc 0 0 rfl rfl (by rw [Mx.mk_len];exact hlen)) ?_
   try dsimp only [List.eraseIdx]
   refine zV ((i+1),(hs++[((some ⟨b4,0,none⟩:Option Addr),N)])) (show (i+1)≤K∧(hs++[((some ⟨b4,0,none⟩:Option Addr),N)]).length=(i+1) from by exact ⟨by omega,by rw [List.length_append,hlen];rfl⟩) (by show K - (i+1)<K - i;omega) (mR rfl) (ho:=((.e (i:=0) rfl (by first|rfl|(rw [Mx.mk_succ])) (.c (i:=0) rfl .n)):PickO _ _ _)) ((.of [0,1,2,3] rfl):SelR _ _ _)
 ·
  refine zaa<|zg<|zg<|zp<|zc<|ze<|za<|e_mv rfl<|e_p (zb rfl)<|zf<|zc<|zG ?_
  have e12:((Mx.oz hs N K):List (Option Addr×Nat×Nat))=(oh hs N):=by exact Mx.oz_end (hlen.trans om)
  rw [e12]
  have e13:(Mx.mk i N (fun ii jj=>xk*Mx.e A ii jj))=(Mx.mk K N (fun ii jj=>xk*Mx.e A ii jj)):=by rw [show i=K by omega]
  rw [e13]
  exact zx yj (some ⟨b1,0,none⟩,K,hs) (hlen.trans om) (zo rfl) rfl (ho:=((.of [1,0] rfl):PickO _ _ _)) sN
end Go.Proofs.YtpdbimfnhglhpaaGreat.Sp
namespace Go.Proofs.YtpdbimfnhglhpaaGreat.Dt
set_option linter.unusedVariables false
abbrev M4:=Nat→Nat→Rat
def d2 (m:M4) (a b c d:Nat):Rat:=m a c*m b d - m a d*m b c
def det4 (m:M4):Rat:=
  d2 m 0 1 0 1*d2 m 2 3 2 3 - d2 m 0 1 0 2*d2 m 2 3 1 3+d2 m 0 1 0 3*d2 m 2 3 1 2+d2 m 0 1 1 2*d2 m 2 3 0 3 - d2 m 0 1 1 3*d2 m 2 3 0 2+d2 m 0 1 2 3*d2 m 2 3 0 1
def swr (m:M4) (i k:Nat):M4:=fun r c=>if r=i then m k c else if r=k then m i c else m r c
def sbr (m:M4) (i k:Nat) (q:Rat):M4:=fun r c=>if r=i then m r c - q*m k c else m r c
theorem det_swr (m:M4) {i k:Nat} (hi:i<4) (hk:k<4) (h:i≠k):det4 (swr m i k)= - det4 m:=by
  have hi:i=0∨i=1∨i=2∨i=3:=by omega
  have hk:k=0∨k=1∨k=2∨k=3:=by omega
  rcases hi with rfl|rfl|rfl|rfl <;> rcases hk with rfl|rfl|rfl|rfl <;> first|exact absurd rfl h|(simp [det4,d2,swr];grind)
theorem det_sbr (m:M4) {i k:Nat} (hi:i<4) (hk:k<4) (h:i≠k) (q:Rat):det4 (sbr m i k q)=det4 m:=by
  have hi:i=0∨i=1∨i=2∨i=3:=by omega
  have hk:k=0∨k=1∨k=2∨k=3:=by omega
  rcases hi with rfl|rfl|rfl|rfl <;> rcases hk with rfl|rfl|rfl|rfl <;> first|exact absurd rfl h|(simp [det4,d2,sbr];grind)
theorem det_tri (m:M4) (h:∀r c,c<r→r<4→m r c=0):det4 m=m 0 0*m 1 1*m 2 2*m 3 3:=by
  have a:=h 1 0 (by omega) (by omega);have b:=h 2 0 (by omega) (by omega);have c:=h 3 0 (by omega) (by omega)
  have d:=h 2 1 (by omega) (by omega);have e:=h 3 1 (by omega) (by omega);have f:=h 3 2 (by omega) (by omega)
  simp only [det4,d2,a,b,c,d,e,f];grind
end Go.Proofs.YtpdbimfnhglhpaaGreat.Dt
namespace Go.Proofs.YtpdbimfnhglhpaaGreat.Dt
set_option linter.unusedVariables false
def pad (n:Nat) (m:M4):M4:=fun r c=>if r<n∧c<n then m r c else if r=c then 1 else 0
def Up (m:M4) (j:Nat):Prop:=∀r c,c<j→c<r→r<4→m r c=0
theorem det_none {m:M4} {j:Nat} (hj:j<4) (h:Up m j) (hz:∀r,j≤r→r<4→m r j=0):det4 m=0:=by
  have hj:j=0∨j=1∨j=2∨j=3:=by omega
  rcases hj with rfl|rfl|rfl|rfl
  · have a := hz 0 (by omega) (by omega); have b := hz 1 (by omega) (by omega); have c := hz 2 (by omega) (by omega); have d := hz 3 (by omega) (by omega)
    simp only [det4,d2,a,b,c,d];grind
  · have a := hz 1 (by omega) (by omega); have b := hz 2 (by omega) (by omega); have c := hz 3 (by omega) (by omega)
    have d:=h 1 0 (by omega) (by omega) (by omega);have e:=h 2 0 (by omega) (by omega) (by omega);have f:=h 3 0 (by omega) (by omega) (by omega)
    simp only [det4,d2,a,b,c,d,e,f];grind
  · have a := hz 2 (by omega) (by omega); have b := hz 3 (by omega) (by omega)
    have d:=h 1 0 (by omega) (by omega) (by omega);have e:=h 2 0 (by omega) (by omega) (by omega);have f:=h 3 0 (by omega) (by omega) (by omega)
    have g:=h 2 1 (by omega) (by omega) (by omega);have i:=h 3 1 (by omega) (by omega) (by omega)
    simp only [det4,d2,a,b,d,e,f,g,i];grind
  · have a := hz 3 (by omega) (by omega)
    have d:=h 1 0 (by omega) (by omega) (by omega);have e:=h 2 0 (by omega) (by omega) (by omega);have f:=h 3 0 (by omega) (by omega) (by omega)
    have g:=h 2 1 (by omega) (by omega) (by omega);have i:=h 3 1 (by omega) (by omega) (by omega);have k:=h 3 2 (by omega) (by omega) (by omega)
    simp only [det4,d2,a,d,e,f,g,i,k];grind
theorem up_swr {m:M4} {j k:Nat} (h:Up m j) (hk:j≤k) (hk4:k<4):Up (swr m j k) j:=fun r c hc hr h4=>by
  unfold swr
  split
  · exact h k c hc (by omega) hk4
  · split
    · exact h j c hc (by omega) (by omega)
    · exact h r c hc hr h4
theorem up_sbr {m:M4} {i j:Nat} {q:Rat} (h:Up m j) (hj:j<i) (hj4:j<4):Up (sbr m i j q) j:=fun r c hc hr h4=>by
  unfold sbr
  split
  · rename_i e
    subst e
    rw [h r c hc hr h4,h j c hc hc hj4];grind
  · exact h r c hc hr h4
end Go.Proofs.YtpdbimfnhglhpaaGreat.Dt
namespace Go.Proofs.YtpdbimfnhglhpaaGreat.Dt
set_option linter.unusedVariables false
def zed (n:Nat) (m:M4):M4:=fun r c=>if r<n∧c<n then m r c else 0
def k3 (m:M4):Rat:= - (m 0 0+m 1 1+m 2 2+m 3 3)
def k2 (m:M4):Rat:=d2 m 0 1 0 1+d2 m 0 2 0 2+d2 m 0 3 0 3+d2 m 1 2 1 2+d2 m 1 3 1 3+d2 m 2 3 2 3
def d3 (m:M4) (a b c:Nat):Rat:=m a a*d2 m b c b c - m a b*d2 m b c a c+m a c*d2 m b c a b
def k1 (m:M4):Rat:= - (d3 m 0 1 2+d3 m 0 1 3+d3 m 0 2 3+d3 m 1 2 3)
def xsub (x:Rat) (m:M4):M4:=fun r c=>(if r=c then x else 0) - m r c
theorem char4 (m:M4) (x:Rat):det4 (xsub x m)=x*x*x*x+k3 m*(x*x*x)+k2 m*(x*x)+k1 m*x+det4 m:=by
  simp [det4,d2,xsub,k3,k2,k1,d3];grind
theorem char3 (m:M4) (x:Rat):det4 (pad 3 (xsub x m))=x*x*x+k3 (zed 3 m)*(x*x)+k2 (zed 3 m)*x+k1 (zed 3 m):=by
  simp [det4,d2,xsub,k3,k2,k1,d3,zed,pad];grind
theorem char2 (m:M4) (x:Rat):det4 (pad 2 (xsub x m))=x*x+k3 (zed 2 m)*x+k2 (zed 2 m):=by
  simp [det4,d2,xsub,k3,k2,k1,d3,zed,pad];grind
theorem char1 (m:M4) (x:Rat):det4 (pad 1 (xsub x m))=x+k3 (zed 1 m):=by
  simp [det4,d2,xsub,k3,k2,k1,d3,zed,pad];grind
end Go.Proofs.YtpdbimfnhglhpaaGreat.Dt
namespace Go.Proofs.YtpdbimfnhglhpaaGreat.Dt
set_option linter.unusedVariables false
set_option linter.unusedSimpArgs false
def mm (a b:M4):M4:=fun r c=>a r 0*b 0 c+a r 1*b 1 c+a r 2*b 2 c+a r 3*b 3 c
end Go.Proofs.YtpdbimfnhglhpaaGreat.Dt
namespace Go.Proofs.YtpdbimfnhglhpaaGreat.Po
def vals (l:List (Option Rat)):List Rat:=l.map (·.getD 0)
def gen (g:Nat→Rat):Nat→List Rat
  |0=>[]
  |n+1=>gen g n++[g n]
def tn (l:List Rat):Nat→Nat
  |0=>0
  |n+1=>if l.getD n 0=0 then tn l n else n+1
def cl (l:List Rat):List Rat:=l.take (tn l l.length)
theorem gen_len (g:Nat→Rat):∀n,(gen g n).length=n
  |0=>rfl
  |n+1=>by simp [gen,gen_len g n]
theorem gen_get (g:Nat→Rat):∀n i,(gen g n).getD i 0=if i<n then g i else 0
  |0,i=>by simp [gen]
  |n+1,i=>by
    simp only [gen]
    by_cases h:i<n
    · rw [List.getD_eq_getElem?_getD,List.getElem?_append_left (by rw [gen_len];exact h),←List.getD_eq_getElem?_getD,gen_get g n i,if_pos h,if_pos (by omega)]
    · rw [List.getD_eq_getElem?_getD, List.getElem?_append_right (by rw [gen_len]; omega), gen_len]
      by_cases h1:i=n
      · subst h1;simp
      · rw [if_neg (by omega)]
        have:1≤i - n:=by omega
        obtain ⟨j,hj⟩:∃j,i - n=j+1:=⟨i - n - 1,by omega⟩
        rw [hj];simp
theorem tn_le (l:List Rat):∀n,tn l n≤n
  |0=>Nat.le_refl 0
  |n+1=>by
    simp only [tn]
    split
    · have:=tn_le l n;omega
    · omega
theorem tn_zero (l:List Rat):∀n i,tn l n≤i→i<n→l.getD i 0=0
  |0,i,_,h=>by omega
  |n+1,i,h,h2=>by
    simp only [tn] at h
    split at h
    · rename_i h3
      by_cases e:i=n
      · subst e;exact h3
      · exact tn_zero l n i h (by omega)
    · omega
theorem tn_last (l:List Rat):∀n,0<tn l n→l.getD (tn l n - 1) 0≠0
  |0,h=>by simp [tn] at h
  |n+1,h=>by
    simp only [tn] at h ⊢
    split
    · rename_i h3;rw [if_pos h3] at h;exact tn_last l n h
    · rename_i h3;simpa using h3
theorem cl_len (l:List Rat):(cl l).length=tn l l.length:=by
  unfold cl
  rw [List.length_take]
  have:=tn_le l l.length
  omega
theorem cl_get (l:List Rat) (i:Nat):(cl l).getD i 0=l.getD i 0:=by
  by_cases h:i<tn l l.length
  · unfold cl
    rw [List.getD_eq_getElem?_getD,List.getElem?_take,if_pos h,←List.getD_eq_getElem?_getD]
  · have h1:(cl l).getD i 0=0:=by
      rw [List.getD_eq_getElem?_getD,List.getElem?_eq_none (by rw [cl_len];omega)];rfl
    rw [h1]
    by_cases h2:i<l.length
    · exact (tn_zero l _ i (by omega) h2).symm
    · rw [List.getD_eq_getElem?_getD,List.getElem?_eq_none (by omega)];rfl
theorem cl_last {l:List Rat} (h:cl l≠[]):(cl l).getD ((cl l).length - 1) 0≠0:=by
  have hp:0<tn l l.length:=by rw [← cl_len];exact List.length_pos_iff.2 h
  rw [cl_get,cl_len]
  exact tn_last l _ hp
theorem cl_ext {l m:List Rat} (h:∀i,l.getD i 0=m.getD i 0):cl l=cl m:=by
  have hlen:(cl l).length=(cl m).length:=by
    have aux:∀{l m:List Rat},(∀i,l.getD i 0=m.getD i 0)→(cl l).length≤(cl m).length:=by
      intro l m h
      by_cases hl:cl l=[]
      · rw [hl];exact Nat.zero_le _
      · have h1 := cl_last hl
        rw [cl_get,h,←cl_get m] at h1
        refine Decidable.byContradiction fun hlt=>h1 ?_
        rw [List.getD_eq_getElem?_getD,List.getElem?_eq_none (by omega)];rfl
    exact Nat.le_antisymm (aux h) (aux fun i=>(h i).symm)
  refine List.ext_getElem? fun i=> ?_
  by_cases hi:i<(cl l).length
  · have e := cl_get l i
    rw [h i,←cl_get m i] at e
    rw [List.getD_eq_getElem?_getD,List.getD_eq_getElem?_getD,List.getElem?_eq_getElem hi,List.getElem?_eq_getElem (by omega)] at e
    rw [List.getElem?_eq_getElem hi,List.getElem?_eq_getElem (by omega)]
    exact congrArg some e
  · rw [List.getElem?_eq_none (by omega),List.getElem?_eq_none (by omega)]
def cv (p q:List Rat) (k lo:Nat):Nat→Rat
  |0=>0
  |n+1=>cv p q k lo n+p.getD (lo+n) 0*q.getD (k - (lo+n)) 0
def ev (x:Rat):List Rat→Rat
  |[]=>0
  |a :: l=>ev x l*x+a
def add (p q:List Rat):List Rat:=cl (gen (fun i=>p.getD i 0+q.getD i 0) (max p.length q.length))
def sub (p q:List Rat):List Rat:=cl (gen (fun i=>p.getD i 0 - q.getD i 0) (max p.length q.length))
def mulC (p q:List Rat):List Rat:=if p=[]∨q=[] then [] else cl (gen (fun k=>cv p q k (k+1 - q.length) (min k (p.length - 1)+1 - (k+1 - q.length))) (p.length+q.length - 1))
def mul (p q:List Rat):List Rat:=mulC (cl p) (cl q)
def der (p:List Rat):List Rat:=cl (gen (fun i=>((i+1:Nat):Int)*p.getD (i+1) 0) (p.length - 1))
end Go.Proofs.YtpdbimfnhglhpaaGreat.Po
namespace Go.Proofs.YtpdbimfnhglhpaaGreat.Po
theorem gD0 {l:List Rat} {i:Nat} (h:l.length≤i):l.getD i 0=0:=by
  rw [List.getD_eq_getElem?_getD,List.getElem?_eq_none h];rfl
def co (f g:Nat→Rat) (k:Nat):Nat→Rat
  |0=>0
  |n+1=>co f g k n+f n*g (k - n)
def C (f g:Nat→Rat) (k:Nat):Rat:=co f g k (k+1)
theorem co_congr {f g f' g':Nat→Rat} {k:Nat} (h:∀i,f i=f' i) (h':∀i,g i=g' i):∀n,co f g k n=co f' g' k n
  |0=>rfl
  |n+1=>by simp only [co];rw [co_congr h h' n,h,h']
theorem C_congr {f g f' g':Nat→Rat} (k:Nat) (h:∀i,f i=f' i) (h':∀i,g i=g' i):C f g k=C f' g' k:=co_congr h h' _
theorem cv_add (p q:List Rat) (k lo a:Nat):∀b,cv p q k lo (a+b)=cv p q k lo a+cv p q k (lo+a) b
  |0=>by
    show cv p q k lo a=cv p q k lo a+0
    grind
  |b+1=>by
    show cv p q k lo (a+b)+p.getD (lo+(a+b)) 0*q.getD (k - (lo+(a+b))) 0=cv p q k lo a+(cv p q k (lo+a) b+p.getD (lo+a+b) 0*q.getD (k - (lo+a+b)) 0)
    rw [cv_add p q k lo a b,Nat.add_assoc lo a b]
    grind
theorem cv_zero {p q:List Rat} {k lo:Nat}:∀{n},(∀j,lo≤j→j<lo+n→p.getD j 0*q.getD (k - j) 0=0)→cv p q k lo n=0
  |0,_=>rfl
  |n+1,h=>by
    show cv p q k lo n+p.getD (lo+n) 0*q.getD (k - (lo+n)) 0=0
    rw [cv_zero fun j h1 h2=>h j h1 (by omega),h (lo+n) (by omega) (by omega)]
    grind
theorem cv_co (p q:List Rat) (k:Nat):∀n,cv p q k 0 n=co (p.getD · 0) (q.getD · 0) k n
  |0=>rfl
  |n+1=>by
    show cv p q k 0 n+p.getD (0+n) 0*q.getD (k - (0+n)) 0=_
    rw [cv_co p q k n,Nat.zero_add]
    rfl
theorem cv_full (p q:List Rat) (k:Nat):cv p q k (k+1 - q.length) (min k (p.length - 1)+1 - (k+1 - q.length))=C (p.getD · 0) (q.getD · 0) k:=by
  show _=co _ _ k (k+1)
  rw [← cv_co]
  by_cases hp:p.length=0
  · have hz : ∀ lo n, cv p q k lo n = 0 := fun lo n => cv_zero fun j _ _ => by rw [gD0 (l := p) (by omega)]; grind
    rw [hz,hz]
  · generalize hlo : k + 1 - q.length = lo
    generalize hn:min k (p.length - 1)+1 - lo=n
    have h1:cv p q k 0 lo=0:=cv_zero fun j _ hj=>by rw [gD0 (l:=q) (i:=k - j) (by omega)];grind
    by_cases hle:lo+n≤k+1
    · have e : k + 1 = lo + (n + (k + 1 - (lo + n))) := by omega
      rw [e,cv_add p q k 0 lo,cv_add p q k (0+lo) n,h1,Nat.zero_add]
      have h2:cv p q k (lo+n) (k+1 - (lo+n))=0:=cv_zero fun j h2 h3=>by rw [gD0 (l:=p) (i:=j) (by omega)];grind
      rw [h2]
      grind
    · exfalso;omega
theorem C_high {p q:List Rat} {k:Nat} (h:p.length+q.length≤k+1):C (p.getD · 0) (q.getD · 0) k=0:=by
  show co _ _ k (k+1)=0
  rw [← cv_co]
  exact cv_zero fun j _ hj=>by
    by_cases hp:j<p.length
    · rw [gD0 (l:=q) (i:=k - j) (by omega)];grind
    · rw [gD0 (l:=p) (i:=j) (by omega)];grind
def mc (p q:List Rat):List Rat:=gen (fun k=>C (p.getD · 0) (q.getD · 0) k) (p.length+q.length - 1)
theorem mc_get (p q:List Rat) (k:Nat):(mc p q).getD k 0=C (p.getD · 0) (q.getD · 0) k:=by
  unfold mc
  rw [gen_get]
  split
  · rfl
  · exact (C_high (by omega)).symm
theorem mulC_get (p q:List Rat) (k:Nat):(mulC p q).getD k 0=C (p.getD · 0) (q.getD · 0) k:=by
  unfold mulC
  split
  · rename_i h
    have:C (p.getD · 0) (q.getD · 0) k=0:=by
      show co _ _ k (k+1)=0
      rw [← cv_co]
      refine cv_zero fun j _ _=> ?_
      rcases h with rfl|rfl
      · simp
      · simp
    rw [this];rfl
  · rw [cl_get, gen_get]
    split
    · exact cv_full p q k
    · exact (C_high (by omega)).symm
theorem mul_get (p q:List Rat) (k:Nat):(mul p q).getD k 0=C (p.getD · 0) (q.getD · 0) k:=by
  unfold mul
  rw [mulC_get]
  exact C_congr k (cl_get p) (cl_get q)
theorem cl_cl (l:List Rat):cl (cl l)=cl l:=cl_ext (cl_get l)
theorem mul_cl (p q:List Rat):cl (mul p q)=mul p q:=by
  unfold mul mulC
  split
  · rfl
  · exact cl_cl _
theorem mul_mc (p q:List Rat):cl (mc p q)=mul p q:=by
  rw [← mul_cl]
  exact cl_ext fun i=>by rw [mc_get,mul_get]
theorem add_get (p q:List Rat) (k:Nat):(add p q).getD k 0=p.getD k 0+q.getD k 0:=by
  unfold add
  rw [cl_get,gen_get]
  split
  · rfl
  · rw [gD0 (l:=p) (by omega),gD0 (l:=q) (by omega)];grind
theorem sub_get (p q:List Rat) (k:Nat):(sub p q).getD k 0=p.getD k 0 - q.getD k 0:=by
  unfold sub
  rw [cl_get,gen_get]
  split
  · rfl
  · rw [gD0 (l:=p) (by omega),gD0 (l:=q) (by omega)];grind
theorem add_cl (p q:List Rat):cl (add p q)=add p q:=cl_cl _
theorem sub_cl (p q:List Rat):cl (sub p q)=sub p q:=cl_cl _
theorem der_cl (p:List Rat):cl (der p)=der p:=cl_cl _
theorem zRa {p q:List Rat} (hp:cl p=p) (hq:cl q=q) (h:∀i,p.getD i 0=q.getD i 0):p=q:=by
  rw [← hp,←hq];exact cl_ext h
theorem co_split (f g:Nat→Rat) (k:Nat):∀n,co f g k (n+1)=f 0*g k+co (fun i=>f (i+1)) (fun i=>g i) (k - 1) n
  |0=>by simp [co];grind
  |n+1=>by
    show co f g k (n+1)+f (n+1)*g (k - (n+1))=f 0*g k+(co (fun i=>f (i+1)) (fun i=>g i) (k - 1) n+f (n+1)*g (k - 1 - n))
    rw [co_split f g k n,show k - (n+1)=k - 1 - n by omega]
    grind
theorem C_zero (f g:Nat→Rat):C f g 0=f 0*g 0:=by simp [C,co];grind
theorem C_succ (f g:Nat→Rat) (k:Nat):C f g (k+1)=f 0*g (k+1)+C (fun i=>f (i+1)) g k:=co_split f g (k+1) (k+1)
theorem C_last (f g:Nat→Rat) (k:Nat):C f g (k+1)=C f (fun i=>g (i+1)) k+f (k+1)*g 0:=by
  show co f g (k+1) (k+1)+f (k+1)*g (k+1 - (k+1))=co f (fun i=>g (i+1)) k (k+1)+f (k+1)*g 0
  rw [Nat.sub_self]
  have:∀n,n≤k+1→co f g (k+1) n=co f (fun i=>g (i+1)) k n:=by
    intro n
    induction n with
    |zero=>intro _;rfl
    |succ n ih=>intro h;simp only [co];rw [ih (by omega),show k+1 - n=k - n+1 by omega]
  rw [this (k+1) (Nat.le_refl _)]
theorem C_comm (f g:Nat→Rat):∀k,C f g k=C g f k:=by
  intro k
  induction k generalizing f g with
  |zero=>rw [C_zero,C_zero];grind
  |succ k ih=>rw [C_succ,C_last g f,ih];grind
theorem C_add (f f' g:Nat→Rat) (k:Nat):C (fun i=>f i+f' i) g k=C f g k+C f' g k:=by
  have:∀n,co (fun i=>f i+f' i) g k n=co f g k n+co f' g k n:=by
    intro n
    induction n with
    |zero=>simp [co];grind
    |succ n ih=>simp only [co];rw [ih];grind
  exact this _
theorem mul_comm' (p q:List Rat):mul p q=mul q p:=zRa (mul_cl _ _) (mul_cl _ _) fun i=>by rw [mul_get,mul_get,C_comm]
theorem ev_zero {x:Rat}:∀{l:List Rat},(∀i,l.getD i 0=0)→ev x l=0
  |[],_=>rfl
  |a :: l,h=>by
    have h0:a=0:=h 0
    show ev x l*x+a=0
    rw [ev_zero fun i=>h (i+1),h0];grind
theorem ev_ext {x:Rat}:∀{l m:List Rat},(∀i,l.getD i 0=m.getD i 0)→ev x l=ev x m
  |[],m,h=>(ev_zero fun i=>(h i).symm).symm
  |a :: l,[],h=>ev_zero h
  |a :: l,b :: m,h=>by
    have h0:a=b:=h 0
    show ev x l*x+a=ev x m*x+b
    rw [ev_ext (l:=l) (m:=m) fun i=>h (i+1),h0]
theorem ev_cl (x:Rat) (l:List Rat):ev x (cl l)=ev x l:=ev_ext (cl_get l)
def zipA:List Rat→List Rat→List Rat
  |[],q=>q
  |p,[]=>p
  |a :: p,b :: q=>(a+b) :: zipA p q
theorem zipA_get:∀(p q:List Rat) (i:Nat),(zipA p q).getD i 0=p.getD i 0+q.getD i 0
  |[],q,i=>by simp [zipA];grind
  |a :: p,[],i=>by simp [zipA];grind
  |a :: p,b :: q,0=>rfl
  |a :: p,b :: q,i+1=>zipA_get p q i
theorem zipA_ev (x:Rat):∀p q:List Rat,ev x (zipA p q)=ev x p+ev x q
  |[],q=>by simp [zipA,ev];grind
  |a :: p,[]=>by simp [zipA,ev];grind
  |a :: p,b :: q=>by
    show ev x (zipA p q)*x+(a+b)=(ev x p*x+a)+(ev x q*x+b)
    rw [zipA_ev x p q];grind
theorem ev_add (x:Rat) (p q:List Rat):ev x (add p q)=ev x p+ev x q:=by
  rw [← zipA_ev];exact ev_ext fun i=>by rw [add_get,zipA_get]
theorem ev_scale (x a:Rat):∀q:List Rat,ev x (q.map (a* ·))=a*ev x q
  |[]=>by simp [ev]
  |b :: q=>by
    show ev x (q.map (a* ·))*x+a*b=a*(ev x q*x+b)
    rw [ev_scale x a q];grind
theorem map_get (a:Rat) (q:List Rat) (i:Nat):(q.map (a* ·)).getD i 0=a*q.getD i 0:=by
  by_cases h:i<q.length
  · rw [List.getD_eq_getElem?_getD,List.getD_eq_getElem?_getD,List.getElem?_map,List.getElem?_eq_getElem h];rfl
  · rw [gD0 (by rw [List.length_map];omega),gD0 (by omega)];grind
def mL:List Rat→List Rat→List Rat
  |[],_=>[]
  |a :: p,q=>zipA (q.map (a* ·)) (0 :: mL p q)
theorem mL_ev (x:Rat) (q:List Rat):∀p:List Rat,ev x (mL p q)=ev x p*ev x q
  |[]=>by simp [mL,ev]
  |a :: p=>by
    show ev x (zipA (q.map (a* ·)) (0 :: mL p q))=(ev x p*x+a)*ev x q
    rw [zipA_ev,ev_scale]
    show a*ev x q+(ev x (mL p q)*x+0)=_
    rw [mL_ev x q p];grind
theorem C_nil (q:List Rat) (k:Nat):C (([]:List Rat).getD · 0) (q.getD · 0) k=0:=by
  show co _ _ k (k+1)=0
  rw [← cv_co]
  exact cv_zero fun j _ _=>by rw [gD0 (l:=[]) (Nat.zero_le _)];grind
theorem mL_get (q:List Rat):∀(p:List Rat) (k:Nat),(mL p q).getD k 0=C (p.getD · 0) (q.getD · 0) k
  |[],k=>by
    have:C ([].getD · 0) (q.getD · 0) k=0:=C_nil q k
    rw [this];rfl
  |a :: p,0=>by
    show (zipA (q.map (a* ·)) (0 :: mL p q)).getD 0 0=_
    rw [zipA_get,map_get,C_zero]
    show a*q.getD 0 0+0=a*q.getD 0 0
    grind
  |a :: p,k+1=>by
    show (zipA (q.map (a* ·)) (0 :: mL p q)).getD (k+1) 0=_
    rw [zipA_get,map_get,C_succ]
    show a*q.getD (k+1) 0+(mL p q).getD k 0=a*q.getD (k+1) 0+C (p.getD · 0) (q.getD · 0) k
    rw [mL_get q p k]
theorem ev_mul (x:Rat) (p q:List Rat):ev x (mul p q)=ev x p*ev x q:=by
  rw [← mL_ev];exact ev_ext fun i=>by rw [mul_get,mL_get]
theorem der_get (p:List Rat) (i:Nat):(der p).getD i 0=((i+1:Nat):Int)*p.getD (i+1) 0:=by
  unfold der
  rw [cl_get,gen_get]
  split
  · rfl
  · rw [gD0 (l:=p) (by omega)];grind
def D (f:Nat→Rat) (i:Nat):Rat:=((i+1:Nat):Int)*f (i+1)
theorem cast_s (i:Nat):(((i+1:Nat):Int):Rat)=((i:Int):Rat)+1:=by
  rw [show ((i+1:Nat):Int)=(i:Int)+1 by omega,Rat.intCast_add];rfl
theorem C_D:∀(k:Nat) (f g:Nat→Rat),(((k+1:Nat):Int):Rat)*C f g (k+1)=C (D f) g k+C f (D g) k
  |0,f,g=>by
    rw [C_succ,C_zero,C_zero,C_zero]
    simp only [D]
    rw [cast_s]
    simp
    grind
  |k+1,f,g=>by
    have ih:=C_D k (fun i=>f (i+1)) g
    rw [C_succ f g (k+1),C_succ f (D g) k]
    have e:C (D f) g (k+1)=C (fun i=>f (i+1)) g (k+1)+C (fun i=>((i:Int):Rat)*f (i+1)) g (k+1):=by
      rw [← C_add];exact C_congr _ (fun i=>by simp only [D];rw [cast_s];grind) (fun _=>rfl)
    have e2:C (fun i=>((i:Int):Rat)*f (i+1)) g (k+1)=C (D fun i=>f (i+1)) g k:=by
      rw [C_succ]
      have:((0:Nat):Int)*f (0+1)*g (k+1)=0:=by simp
      rw [this]
      have e3:C (fun i=>(((i+1:Nat):Int):Rat)*f (i+1+1)) g k=C (D fun i=>f (i+1)) g k:=rfl
      rw [e3];grind
    rw [e,e2]
    simp only [D] at ih ⊢
    rw [cast_s (k+1)]
    grind
theorem der_mul (p q:List Rat):der (mul p q)=add (mul (der p) q) (mul p (der q)):=zRa (der_cl _) (add_cl _ _) fun i=>by
  rw [der_get,add_get,mul_get,mul_get,mul_get,C_D]
  congr 1
  · exact C_congr i (fun j=>(der_get p j).symm) (fun _=>rfl)
  · exact C_congr i (fun _=>rfl) (fun j=>(der_get q j).symm)
end Go.Proofs.YtpdbimfnhglhpaaGreat.Po
namespace Go.Proofs.YtpdbimfnhglhpaaGreat.Dt
open Go.Proofs.YtpdbimfnhglhpaaGreat.Po
set_option linter.unusedVariables false
set_option linter.unusedSimpArgs false
def lstep (i:Nat) (p:List Rat) (k:Nat):List Rat:=if k=i then p else mul p [Rat.divInt (-(k:Int)) ((i:Int) - k),Rat.divInt 1 ((i:Int) - k)]
def lin (n i:Nat) (d:Rat):List Rat:=(List.range (n+1)).foldl (lstep i) [d]
def thr (n:Nat) (d:Nat→Rat):List Rat:=(List.range (n+1)).foldl (fun o i=>add o (lin n i (d i))) []
theorem thr1 (a:Rat) (t:Rat):ev t (thr 1 (fun i=>(i:Rat)+a))=t+a:=by
  simp [thr,lin,lstep,List.range,List.range.loop,ev_add,ev_mul,ev,Rat.divInt_eq_div];grind
theorem thr2 (a b:Rat) (t:Rat):ev t (thr 2 (fun i=>(i:Rat)*i+a*i+b))=t*t+a*t+b:=by
  simp [thr,lin,lstep,List.range,List.range.loop,ev_add,ev_mul,ev,Rat.divInt_eq_div];grind
theorem thr3 (a b c:Rat) (t:Rat):ev t (thr 3 (fun i=>(i:Rat)*i*i+a*(i*i)+b*i+c))=t*t*t+a*(t*t)+b*t+c:=by
  simp [thr,lin,lstep,List.range,List.range.loop,ev_add,ev_mul,ev,Rat.divInt_eq_div];grind
theorem thr4 (a b c d:Rat) (t:Rat):ev t (thr 4 (fun i=>(i:Rat)*i*i*i+a*(i*i*i)+b*(i*i)+c*i+d))=t*t*t*t+a*(t*t*t)+b*(t*t)+c*t+d:=by
  simp [thr,lin,lstep,List.range,List.range.loop,ev_add,ev_mul,ev,Rat.divInt_eq_div];grind
end Go.Proofs.YtpdbimfnhglhpaaGreat.Dt
namespace Go.Proofs.YtpdbimfnhglhpaaGreat.Po
open Go.Proofs.YtpdbimfnhglhpaaGreat.Big
def mono (s:Nat) (k:Rat):List Rat:=gen (fun i=>if i=s then k else 0) (s+1)
def lead (l:List Rat):Rat:=l.getD (l.length - 1) 0
def dt (q r:List Rat):List Rat:=mono (r.length - q.length) (lead r / lead q)
def dv (q:List Rat):Nat→List Rat→List Rat→List Rat×List Rat
  |0,a,r=>(a,r)
  |n+1,a,r=>if r.length<q.length then (a,r) else dv q n (add a (dt q r)) (sub r (mul (dt q r) q))
theorem mono_get (s:Nat) (k:Rat) (i:Nat):(mono s k).getD i 0=if i=s then k else 0:=by
  unfold mono
  rw [gen_get]
  by_cases h:i=s
  · rw [if_pos (by omega)]
  · rw [if_neg h]
    split
    · rfl
    · rfl
theorem co_mono (s:Nat) (k:Rat) (g:Nat→Rat) (i:Nat):∀n,co (fun j=>if j=s then k else 0) g i n=if s<n then k*g (i - s) else 0
  |0=>by simp [co]
  |n+1=>by
    simp only [co]
    rw [co_mono s k g i n]
    by_cases h:s<n
    · rw [if_pos h,if_neg (by omega),if_pos (by omega)];grind
    · rw [if_neg h]
      by_cases h1:n=s
      · subst h1;rw [if_pos rfl,if_pos (by omega)];grind
      · rw [if_neg h1,if_neg (by omega)];grind
theorem C_mono (s:Nat) (k:Rat) (q:List Rat) (i:Nat):C ((mono s k).getD · 0) (q.getD · 0) i=if s≤i then k*q.getD (i - s) 0 else 0:=by
  rw [C_congr i (mono_get s k) (fun _=>rfl)]
  show co _ _ i (i+1)=_
  rw [co_mono]
  by_cases h:s≤i
  · rw [if_pos h,if_pos (by omega)]
  · rw [if_neg h,if_neg (by omega)]
theorem cl_le {l:List Rat} {m:Nat} (h:∀i,m≤i→l.getD i 0=0):(cl l).length≤m:=by
  refine Decidable.byContradiction fun hlt=> ?_
  have hne:cl l≠[]:=fun e=>by rw [e] at hlt;exact hlt (Nat.zero_le _)
  have h1:=cl_last hne
  rw [cl_get] at h1
  exact h1 (h _ (by omega))
theorem lead_ne {q:List Rat} (hq:cl q=q) (h:q≠[]):lead q≠0:=by
  have:=cl_last (l:=q) (by rw [hq];exact h)
  rw [hq] at this
  exact this
theorem dt_less {q r:List Rat} (hq:cl q=q) (h:q≠[]) (hl:q.length≤r.length):(sub r (mul (dt q r) q)).length<r.length:=by
  have hql:0<q.length:=List.length_pos_iff.2 h
  have:(sub r (mul (dt q r) q)).length≤r.length - 1:=by
    rw [← sub_cl]
    refine cl_le fun i hi=> ?_
    rw [sub_get,mul_get]
    unfold dt
    rw [C_mono]
    by_cases h1:i=r.length - 1
    · subst h1
      rw [if_pos (by omega),show r.length - 1 - (r.length - q.length)=q.length - 1 by omega]
      show lead r - lead r / lead q*lead q=0
      rw [Rat.div_mul_cancel (lead_ne hq h)]
      grind
    · rw [gD0 (l := r) (by omega)]
      split
      · rw [gD0 (l:=q) (by omega)];grind
      · grind
  omega
theorem dv_spec {q:List Rat} (hq:cl q=q) (h:q≠[]):∀(n:Nat) (a r:List Rat),r.length≤n→cl r=r→cl a=a→
    (dv q n a r).2.length<q.length∧add (mul (dv q n a r).1 q) (dv q n a r).2=add (mul a q) r∧cl (dv q n a r).2=(dv q n a r).2∧cl (dv q n a r).1=(dv q n a r).1
  |0,a,r,hn,hr,ha=>⟨by have:=List.length_pos_iff.2 h;show r.length<q.length;omega,rfl,hr,ha⟩
  |n+1,a,r,hn,hr,ha=>by
    unfold dv
    split
    · rename_i h1;exact ⟨h1,rfl,hr,ha⟩
    · rename_i h1
      have hlt:=dt_less (r:=r) hq h (by omega)
      obtain ⟨g1,g2,g3,g4⟩:=dv_spec hq h n (add a (dt q r)) (sub r (mul (dt q r) q)) (by omega) (sub_cl _ _) (add_cl _ _)
      refine ⟨g1,g2.trans ?_,g3,g4⟩
      refine zRa (add_cl _ _) (add_cl _ _) fun i=> ?_
      rw [add_get,add_get,mul_get,mul_get,sub_get,mul_get]
      have e:C ((add a (dt q r)).getD · 0) (q.getD · 0) i=C (a.getD · 0) (q.getD · 0) i+C ((dt q r).getD · 0) (q.getD · 0) i:=by
        rw [← C_add];exact C_congr i (add_get a _) (fun _=>rfl)
      rw [e]
      grind
def divp (p q:List Rat):List Rat×List Rat:=dv (cl q) (cl p).length [] (cl p)
theorem mul_nil (q:List Rat):mul [] q=[]:=by
  unfold mul mulC
  rw [if_pos (.inl rfl)]
theorem add_nil (r:List Rat) (h:cl r=r):add [] r=r:=zRa (add_cl _ _) h fun i=>by
  rw [add_get];simp;grind
theorem divp_spec {p q:List Rat} (h:cl q≠[]):(divp p q).2.length<(cl q).length∧add (mul (divp p q).1 (cl q)) (divp p q).2=cl p:=by
  obtain ⟨h1,h2,-,-⟩:=dv_spec (cl_cl q) h (cl p).length [] (cl p) (Nat.le_refl _) (cl_cl p) rfl
  exact ⟨h1,h2.trans (by rw [mul_nil,add_nil _ (cl_cl p)])⟩
def bd (K:Nat) (l:List Rat):Prop:=∀i,hq (l.getD i 0)≤K
theorem bd_cl {K:Nat} {l:List Rat} (h:bd K l):bd K (cl l):=fun i=>by rw [cl_get];exact h i
theorem bd_mono {K L:Nat} {l:List Rat} (h:bd K l) (hk:K≤L):bd L l:=fun i=>Nat.le_trans (h i) hk
theorem bd_add {K L:Nat} {p q:List Rat} (h1:bd K p) (h2:bd L q):bd (K+L+1) (add p q):=fun i=>by
  rw [add_get]
  have:=hq_add (p.getD i 0) (q.getD i 0)
  have:=h1 i
  have:=h2 i
  omega
theorem cv_mono {p q:List Rat} {s:Nat} {k0:Rat} (hp:∀i,p.getD i 0=if i=s then k0 else 0) (k lo:Nat):∀n,cv p q k lo n=if lo≤s∧s<lo+n then k0*q.getD (k - s) 0 else 0
  |0=>by rw [if_neg (by omega)];rfl
  |n+1=>by
    show cv p q k lo n+p.getD (lo+n) 0*q.getD (k - (lo+n)) 0=_
    rw [cv_mono hp k lo n,hp]
    by_cases h:lo+n=s
    · subst h;rw [if_neg (by omega),if_pos rfl,if_pos (by omega)];grind
    · rw [if_neg h]
      by_cases h1:lo≤s∧s<lo+n
      · rw [if_pos h1,if_pos (by omega)];grind
      · rw [if_neg h1,if_neg (by omega)];grind
theorem cv_mono_hq {p q:List Rat} {s K L:Nat} {k0:Rat} (hp:∀i,p.getD i 0=if i=s then k0 else 0) (hk:hq k0≤K) (h2:bd L q) (k lo n:Nat):hq (cv p q k lo n)≤K+L:=by
  rw [cv_mono hp]
  split
  · have := hq_mul k0 (q.getD (k - s) 0)
    have:=h2 (k - s)
    omega
  · rw [hq_zero];have:=hq_pos k0;omega
theorem ev_hq {K L:Nat} {x:Rat} (hx:hq x≤L):∀{l:List Rat},bd K l→hq (ev x l)≤1+l.length*(K+L+1)
  |[],_=>by show hq 0≤_;rw [hq_zero];omega
  |a :: l,h=>by
    show hq (ev x l*x+a)≤_
    have e1:=hq_add (ev x l*x) a
    have e2:=hq_mul (ev x l) x
    have e3:=ev_hq hx (l:=l) fun i=>h (i+1)
    have e4:hq a≤K:=h 0
    rw [List.length_cons,Nat.succ_mul]
    omega
theorem lead_hq {K:Nat} {l:List Rat} (h:bd K l):hq (lead l)≤K:=h _
theorem dt_bd {K L:Nat} {q r:List Rat} (hr:bd K r) (hq':bd L q):bd (K+L) (dt q r):=fun i=>by
  unfold dt
  rw [mono_get]
  split
  · by_cases h0 : lead q = 0
    · rw [h0, show lead r / 0 = 0 by rw [Rat.div_def, Rat.inv_zero, Rat.mul_zero], hq_zero]
      have:=hq_pos (lead r);have:=lead_hq hr;omega
    · have := hq_div (lead r) h0
      have:=lead_hq hr
      have:=lead_hq hq'
      omega
  · rw [hq_zero];have:=hq_pos (lead r);have:=lead_hq hr;omega
theorem mul_dt_bd {K L:Nat} {q r:List Rat} (hr:bd K r) (hq':bd L q):bd (K+L+L) (mul (dt q r) q):=fun i=>by
  rw [mul_get]
  unfold dt
  rw [C_mono]
  have hd:=dt_bd hr hq' (r.length - q.length)
  unfold dt at hd
  rw [mono_get,if_pos rfl] at hd
  split
  · have := hq_mul (lead r / lead q) (q.getD (i - (r.length - q.length)) 0)
    have:=hq' (i - (r.length - q.length))
    omega
  · rw [hq_zero];have:=hq_pos (lead r / lead q);omega
theorem vals_len (l:List (Option Rat)):(vals l).length=l.length:=by simp [vals]
theorem vals_get (l:List (Option Rat)) (i:Nat):(vals l).getD i 0=(l.getD i none).getD 0:=by
  unfold vals
  by_cases h:i<l.length
  · rw [List.getD_eq_getElem?_getD,List.getElem?_map,List.getElem?_eq_getElem h,List.getD_eq_getElem?_getD,List.getElem?_eq_getElem h];rfl
  · rw [gD0 (by rw [List.length_map];omega),List.getD_eq_getElem?_getD,List.getElem?_eq_none (by omega)];rfl
theorem vals_some (l:List Rat):vals (l.map some)=l:=by unfold vals;rw [List.map_map];exact List.map_id l
theorem take_s {l:List Rat} {i:Nat} (h:i<l.length):l.take i++[l.getD i 0]=l.take (i+1):=by
  rw [List.take_add_one,List.getD_eq_getElem?_getD,List.getElem?_eq_getElem h];rfl
theorem vals_take {l:List (Option Rat)} {i:Nat} (h:i<l.length):(vals l).take i++[(l.getD i none).getD 0]=(vals l).take (i+1):=by
  rw [← vals_get];exact take_s (by rw [vals_len];exact h)
theorem tn_yes {l:List Rat} {j:Nat} (h0:0<j) (h:l.getD (j - 1) 0=0):tn l j=tn l (j - 1):=by
  obtain ⟨k,rfl⟩:∃k,j=k+1:=⟨j - 1,by omega⟩
  simp only [Nat.add_sub_cancel] at h ⊢
  simp only [tn];rw [if_pos h]
theorem tn_no {l:List Rat} {j:Nat} (h:¬(0<j∧l.getD (j - 1) 0=0)):tn l j=j:=by
  cases j with
  |zero=>rfl
  |succ k=>simp only [tn];rw [if_neg fun e=>h ⟨by omega,by simpa using e⟩]
theorem hz_get {l:List Rat} {j:Nat} (h0:0<j) (h:sgq (l.getD ((j:Int) - 1).toNat 0)=0):l.getD (j - 1) 0=0:=by
  rw [show ((j:Int) - 1).toNat=j - 1 by omega] at h
  exact sgq_zero.1 h
theorem hz_no {l:List Rat} {j:Nat} (h:¬((0:Int)<(j:Int)∧sgq (l.getD ((j:Int) - 1).toNat 0)=0)):¬(0<j∧l.getD (j - 1) 0=0):=fun k=>h ⟨by omega,by rw [show ((j:Int) - 1).toNat=j - 1 by omega,sgq_zero];exact k.2⟩
theorem cl_take {l:List Rat} {n j:Nat} (hn:l.length=n) (h:tn l n=tn l j) (hj:tn l j=j):cl l=l.take j:=by unfold cl;rw [hn,h,hj]
theorem set_step {A:List (Option Rat)} {g:Nat→Rat} {i:Nat} {x:Rat} (h:∀j,j<i→A.getD j none=some (g j)) (hi:i<A.length) (hx:x=g i):∀j,j<i+1→(A.set i (some x)).getD j none=some (g j):=fun j hj=>by
  rw [List.getD_eq_getElem?_getD,List.getElem?_set]
  by_cases e:i=j
  · subst e;rw [if_pos rfl,if_pos hi,hx];rfl
  · rw [if_neg e,←List.getD_eq_getElem?_getD];exact h j (by omega)
theorem vals_gen {A:List (Option Rat)} {g:Nat→Rat} {n:Nat} (hn:A.length=n) (h:∀j,j<n→A.getD j none=some (g j)):vals A=gen g n:=by
  refine List.ext_getElem? fun i=> ?_
  by_cases hi:i<n
  · have e : (vals A).getD i 0 = (gen g n).getD i 0 := by rw [vals_get, h i hi, gen_get, if_pos hi]; rfl
    rw [List.getD_eq_getElem?_getD,List.getD_eq_getElem?_getD,List.getElem?_eq_getElem (by rw [vals_len];omega),List.getElem?_eq_getElem (by rw [gen_len];omega)] at e
    rw [List.getElem?_eq_getElem (by rw [vals_len];omega),List.getElem?_eq_getElem (by rw [gen_len];omega)]
    exact congrArg some e
  · rw [List.getElem?_eq_none (by rw [vals_len];omega),List.getElem?_eq_none (by rw [gen_len];omega)]
theorem gen_congr {f g:Nat→Rat}:∀{n},(∀i,i<n→f i=g i)→gen f n=gen g n
  |0,_=>rfl
  |n+1,h=>by simp only [gen];rw [gen_congr fun i hi=>h i (by omega),h n (by omega)]
theorem vals_add {A l m:List (Option Rat)} {n:Nat} (hm:n=max l.length m.length) (hn:A.length=n) (h:∀j,j<n→A.getD j none=some ((l.getD j none).getD 0+(m.getD j none).getD 0)):cl (vals A)=add (vals l) (vals m):=by
  unfold add
  rw [vals_gen hn h,vals_len,vals_len,←hm]
  exact congrArg cl (gen_congr fun i _=>by rw [vals_get,vals_get])
theorem vals_sub {A l m:List (Option Rat)} {n:Nat} (hm:n=max l.length m.length) (hn:A.length=n) (h:∀j,j<n→A.getD j none=some ((l.getD j none).getD 0 - (m.getD j none).getD 0)):cl (vals A)=sub (vals l) (vals m):=by
  unfold sub
  rw [vals_gen hn h,vals_len,vals_len,←hm]
  exact congrArg cl (gen_congr fun i _=>by rw [vals_get,vals_get])
theorem at_end {l:List (Option Rat)} {i:Nat} (h:l.length≤i):(l.getD i none).getD 0=((0:Int):Rat):=by
  rw [List.getD_eq_getElem?_getD,List.getElem?_eq_none h];rfl
theorem cv_step (P Q:List Rat) {k lo i:Nat} (h:lo≤i):cv P Q k lo (i - lo)+P.getD i 0*Q.getD (k - i) 0=cv P Q k lo (i+1 - lo):=by
  rw [show i+1 - lo=i - lo+1 by omega]
  show _=cv P Q k lo (i - lo)+P.getD (lo+(i - lo)) 0*Q.getD (k - (lo+(i - lo))) 0
  rw [show lo+(i - lo)=i by omega]
theorem cl_le_len (l:List Rat):(cl l).length≤l.length:=by rw [cl_len];exact tn_le _ _
def pc (P Q:List Rat) (k:Nat):Rat:=cv P Q k (k+1 - Q.length) (min k (P.length - 1)+1 - (k+1 - Q.length))
theorem pc_end {P Q:List Rat} {k i:Nat} (h1:k+1 - Q.length≤i) (h2:¬((i:Int)≤min (k:Int) ((P.length:Int) - 1))) (h3:i≤max (k+1 - Q.length) (min k (P.length - 1)+1)) (hp:0<P.length):cv P Q k (k+1 - Q.length) (i - (k+1 - Q.length))=pc P Q k:=by
  unfold pc
  congr 1
  omega
theorem vals_mul {A l m:List (Option Rat)} {P Q:List Rat} {n:Nat} (hP:P=cl (vals l)) (hQ:Q=cl (vals m)) (h0:¬(P.length=0∨Q.length=0)) (hn':n=P.length+Q.length - 1) (hn:A.length=n) (h:∀j,j<n→A.getD j none=some (pc P Q j)):cl (vals A)=mul (vals l) (vals m):=by
  unfold mul mulC
  rw [← hP,←hQ,if_neg (fun k=>h0 (k.imp (fun e=>by rw [e];rfl) (fun e=>by rw [e];rfl))),vals_gen hn h,hn']
  rfl
theorem mul_none {l m:List (Option Rat)} {P Q:List Rat} (hP:P=cl (vals l)) (hQ:Q=cl (vals m)) (h0:P.length=0∨Q.length=0):mul (vals l) (vals m)=[]:=by
  unfold mul mulC
  rw [← hP,←hQ,if_pos (h0.imp List.length_eq_zero_iff.1 List.length_eq_zero_iff.1)]
theorem ev_step {x:Rat} {l:List Rat} {i:Nat} (h0:0<i) (h:i≤l.length):ev x (l.drop i)*x+l.getD (i - 1) 0=ev x (l.drop (i - 1)):=by
  obtain ⟨j,rfl⟩:∃j,i=j+1:=⟨i - 1,by omega⟩
  rw [Nat.add_sub_cancel,List.drop_eq_getElem_cons (i:=j) (by omega),List.getD_eq_getElem?_getD,List.getElem?_eq_getElem (by omega)]
  rfl
theorem ev_top {x:Rat} {l:List (Option Rat)} {n:Nat} (h:l.length=n):ev x ((vals l).drop n)=((0:Int):Rat):=by
  rw [List.drop_eq_nil_of_le (by rw [vals_len];omega)];rfl
def dg (l:List (Option Rat)) (i:Nat):Rat:=(((i+1:Nat):Int):Rat)*(l.getD (i+1) none).getD 0
theorem dg_step {l:List (Option Rat)} {i:Nat} (h:1≤i):gen (dg l) (i - 1)++[(((i:Nat):Int):Rat)*(l.getD i none).getD 0]=gen (dg l) (i+1 - 1):=by
  obtain ⟨j,rfl⟩:∃j,i=j+1:=⟨i - 1,by omega⟩
  rfl
theorem dg_der {l:List (Option Rat)} {n k:Nat} (h:l.length=n) (hk:k=n - 1):cl (vals ((gen (dg l) k).map some))=der (vals l):=by
  rw [vals_some]
  unfold der
  rw [vals_len,h,←hk]
  exact congrArg cl (gen_congr fun i _=>by rw [vals_get];rfl)
theorem take_get {l:List Rat} {i j:Nat} (h:i<j):(l.take j).getD i 0=l.getD i 0:=by
  rw [List.getD_eq_getElem?_getD,List.getElem?_take,if_pos h,←List.getD_eq_getElem?_getD]
def scl (l:List Rat) (x:Rat):List Rat:=cl (gen (fun i=>l.getD i 0*x) l.length)
theorem scl_get (l:List Rat) (x:Rat) (i:Nat):(scl l x).getD i 0=l.getD i 0*x:=by
  unfold scl
  rw [cl_get,gen_get]
  split
  · rfl
  · rw [gD0 (by omega)];grind
theorem scl_mul (l:List Rat) (x:Rat):scl l x=mul l [x]:=zRa (cl_cl _) (mul_cl _ _) fun i=>by
  rw [scl_get,mul_get,C_comm]
  have e:∀j,([x]:List Rat).getD j 0=if j=0 then x else 0:=fun j=>by cases j <;> simp
  rw [C_congr i e (fun _=>rfl)]
  show _=co _ _ i (i+1)
  rw [co_mono,if_pos (by omega)]
  exact Rat.mul_comm _ _
theorem sub_scl (p q:List Rat):add p (scl q (((-1:Int):Int):Rat))=sub p q:=zRa (add_cl _ _) (sub_cl _ _) fun i=>by
  rw [add_get,scl_get,sub_get]
  grind
theorem msome (l:List Rat) (i:Nat):((l.map some).getD i none).getD 0=l.getD i 0:=by rw [← vals_get,vals_some]
end Go.Proofs.YtpdbimfnhglhpaaGreat.Po
namespace Go.Proofs.YtpdbimfnhglhpaaGreat.Po
open Go.Proofs.YtpdbimfnhglhpaaGreat.Big
def dok (Q:List Rat):Nat→List Rat→List Rat→Prop
  |0,_,_=>True
  |n+1,a,r=>(bd 60000000000 a∧bd 60000000000 r)∧(Q.length≤r.length→dok Q n (add a (dt Q r)) (sub r (mul (dt Q r) Q)))
theorem dv_yes {Q a r:List Rat} {f:Nat} (h:Q.length≤r.length) (hf:0<f):dv Q f a r=dv Q (f - 1) (add a (dt Q r)) (sub r (mul (dt Q r) Q)):=by
  obtain ⟨n,rfl⟩:∃n,f=n+1:=⟨f - 1,by omega⟩
  rw [Nat.add_sub_cancel]
  conv=>lhs;unfold dv
  rw [if_neg (by omega)]
theorem dv_no {Q a r:List Rat} {f:Nat} (h:r.length<Q.length):dv Q f a r=(a,r):=by
  cases f with
  |zero=>rfl
  |succ n=>unfold dv;rw [if_pos h]
theorem dok_bd {Q a r:List Rat} {f:Nat} (h:dok Q f a r) (hf:0<f):bd 60000000000 a∧bd 60000000000 r:=by
  obtain ⟨n,rfl⟩:∃n,f=n+1:=⟨f - 1,by omega⟩
  exact h.1
theorem dok_yes {Q a r:List Rat} {f:Nat} (h:dok Q f a r) (hl:Q.length≤r.length) (hf:0<f):dok Q (f - 1) (add a (dt Q r)) (sub r (mul (dt Q r) Q)):=by
  obtain ⟨n,rfl⟩:∃n,f=n+1:=⟨f - 1,by omega⟩
  exact h.2 hl
theorem vals_mono {A:List (Option Rat)} {s:Nat} {k:Rat} (hn:A.length=s+1) (h:∀j,j<s+1→A.getD j none=some ((0:Int):Rat)):vals (A.set s (some k))=mono s k:=by
  unfold mono
  refine vals_gen (by rw [List.length_set];exact hn) fun j hj=> ?_
  rw [List.getD_eq_getElem?_getD,List.getElem?_set]
  by_cases e:s=j
  · subst e;rw [if_pos rfl,if_pos (by omega),if_pos rfl];rfl
  · rw [if_neg e,←List.getD_eq_getElem?_getD,h j hj,if_neg (fun k=>e k.symm)];rfl
theorem add_len (p q:List Rat):(add p q).length≤max p.length q.length:=by
  unfold add
  exact Nat.le_trans (cl_le_len _) (by rw [gen_len];exact Nat.le_refl _)
theorem dt_len (q r:List Rat):(dt q r).length=r.length - q.length+1:=by
  unfold dt mono;rw [gen_len]
def dq (p q:List Rat):List Rat:=if (cl q).length=0 then [] else (divp p q).1
def dr (p q:List Rat):List Rat:=if (cl q).length=0 then [] else (divp p q).2
def dc (q:List Rat):Int:=if (cl q).length=0 then 14 else 0
theorem dt_cv_hq {Q r:List Rat} (hr:bd 60000000000 r) (hQ:bd 60000000000 Q) (k lo n:Nat):hq (cv (cl (dt Q r)) Q k lo n)≤200000000000:=by
  refine Nat.le_trans (cv_mono_hq (s:=r.length - Q.length) (k0:=lead r / lead Q) (K:=120000000000) (L:=60000000000) (fun i=>by rw [cl_get];exact mono_get _ _ i) ?_ hQ k lo n) (by decide)
  have h:=dt_bd hr hQ (r.length - Q.length)
  unfold dt at h
  rw [mono_get,if_pos rfl] at h
  exact h
end Go.Proofs.YtpdbimfnhglhpaaGreat.Po
namespace Go.Proofs.YtpdbimfnhglhpaaGreat.Po
open Go.Proofs.YtpdbimfnhglhpaaGreat.Big
def mo (l:List Rat):List Rat:=if l.length=0 then [] else mul l [((1:Int):Rat) / lead l]
def ge:Nat→List Rat→List Rat→List Rat
  |0,p,_=>p
  |n+1,p,q=>if q.length=0 then p else ge n q (mo (dr p q))
def gcd (p q:List Rat):List Rat:=ge (cl q).length (mo (cl p)) (mo (cl q))
def sqf (p:List Rat):List Rat:=if (cl p).length=0 then [] else mo (dq (cl p) (gcd (cl p) (der (cl p))))
def st:Nat→List Rat→List Rat→List (List Rat)
  |0,_,_=>[]
  |n+1,a,b=>if b.length=0 then [] else b :: st n b (mul (dr a b) [(((-1:Int)):Rat)])
def sturm (p:List Rat):List (List Rat):=if (sqf p).length=0 then [] else sqf p :: st (sqf p).length (sqf p) (der (sqf p))
def va (x:Rat):List (List Rat)→Int→Int→Int
  |[],n,_=>n
  |p :: l,n,s=>if sgq (ev x p)=0 then va x l n s else va x l (if s*sgq (ev x p)<0 then n+1 else n) (sgq (ev x p))
def vr (l:List (List Rat)) (x:Rat):Int:=va x l 0 0
def bt (l:List (List Rat)) (a b:Rat):Int:=vr l a - vr l b
def bm (P:List Rat):Nat→Rat
  |0=>((0:Int):Rat)
  |i+1=>if bm P i<qabs (P.getD i 0 / lead P) then qabs (P.getD i 0 / lead P) else bm P i
def bound (P:List Rat):Rat:=bm P (P.length - 1)+((1:Int):Rat)
def mid (a b:Rat):Rat:=(a+b)*Rat.divInt 1 2
def iso (l:List (List Rat)):Nat→Rat→Rat→List (Rat×Rat)
  |0,_,_=>[]
  |n+1,a,b=>if bt l a b=0 then [] else if bt l a b=1 then [(a,b)] else iso l n a (mid a b)++iso l n (mid a b) b
def dgo (p q:List Rat):Prop:=bd 60000000000 q∧dok (cl q) ((cl p).length+1) [] (cl p)
def gok:Nat→List Rat→List Rat→Prop
  |0,_,_=>True
  |n+1,p,q=>q.length≠0→dgo p q∧bd 60000000000 (dr p q)∧gok n q (mo (dr p q))
def gcok (p q:List Rat):Prop:=bd 60000000000 p∧bd 60000000000 q∧gok (cl q).length (mo (cl p)) (mo (cl q))
def sqok (p:List Rat):Prop:=bd 60000000000 p∧bd 60000000000 (der (cl p))∧((cl p).length≠0→gcok (cl p) (der (cl p))∧dgo (cl p) (gcd (cl p) (der (cl p)))∧bd 60000000000 (dq (cl p) (gcd (cl p) (der (cl p)))))
def stok:Nat→List Rat→List Rat→Prop
  |0,_,_=>True
  |n+1,a,b=>b.length≠0→bd 60000000000 b∧dgo a b∧bd 60000000000 (dr a b)∧stok n b (mul (dr a b) [(((-1:Int)):Rat)])
def sok (p:List Rat):Prop:=sqok p∧bd 60000000000 (sqf p)∧bd 60000000000 (der (sqf p))∧stok (sqf p).length (sqf p) (der (sqf p))
def vok (l:List (List Rat)) (x:Rat):Prop:=∀p,p∈l→p.length≤900∧bd 60000000000 p∧∀i,hq (ev x (p.drop i))≤200000000000
theorem mul_len (p q:List Rat):(mul p q).length≤p.length+q.length - 1:=by
  rw [← mul_mc]
  unfold mc
  exact Nat.le_trans (cl_le_len _) (by rw [gen_len];exact Nat.le_refl _)
theorem mo_len (l:List Rat):(mo l).length≤l.length:=by
  unfold mo
  split
  · exact Nat.zero_le _
  · exact Nat.le_trans (mul_len _ _) (by show l.length+1 - 1≤_;omega)
theorem mo_cl (l:List Rat):cl (mo l)=mo l:=by
  unfold mo
  split
  · rfl
  · exact mul_cl _ _
theorem dr_cl (p q:List Rat):cl (dr p q)=dr p q:=by
  unfold dr
  split
  · rfl
  · rename_i h
    have h':cl q≠[]:=fun e=>h (by rw [e];rfl)
    obtain ⟨-,-,h3,h4⟩:=dv_spec (cl_cl q) h' (cl p).length [] (cl p) (Nat.le_refl _) (cl_cl p) rfl
    first|exact h3|exact h4
theorem dq_cl (p q:List Rat):cl (dq p q)=dq p q:=by
  unfold dq
  split
  · rfl
  · rename_i h
    have h':cl q≠[]:=fun e=>h (by rw [e];rfl)
    obtain ⟨-,-,h3,h4⟩:=dv_spec (cl_cl q) h' (cl p).length [] (cl p) (Nat.le_refl _) (cl_cl p) rfl
    first|exact h4|exact h3
theorem dr_less {p q:List Rat} (hq:cl q=q) (h:q.length≠0):(dr p q).length<q.length:=by
  have h':cl q≠[]:=fun e=>h (by rw [hq] at e;rw [e];rfl)
  have:=(divp_spec (p:=p) h').1
  unfold dr
  rw [if_neg (by rw [hq];exact h)]
  rw [hq] at this
  exact this
theorem ge_nil {n:Nat} {p q:List Rat} (h:q.length=0):ge n p q=p:=by
  cases n with
  |zero=>rfl
  |succ n=>exact if_pos h
theorem ge_yes {n:Nat} {p q:List Rat} (h:q.length≠0) (hn:q.length≤n):ge n p q=ge (n - 1) q (mo (dr p q)):=by
  obtain ⟨m,rfl⟩:∃m,n=m+1:=⟨n - 1,by omega⟩
  exact if_neg h
theorem gok_yes {n:Nat} {p q:List Rat} (k:gok n p q) (h:q.length≠0) (hn:q.length≤n):dgo p q∧bd 60000000000 (dr p q)∧gok (n - 1) q (mo (dr p q)):=by
  obtain ⟨m,rfl⟩:∃m,n=m+1:=⟨n - 1,by omega⟩
  exact k h
theorem mdr_len {n:Nat} {p q:List Rat} (hq:cl q=q) (h:q.length≠0) (hn:q.length≤n):(mo (dr p q)).length≤n - 1:=by
  have:=mo_len (dr p q);have:=dr_less (p:=p) hq h;omega
theorem st_nil {n:Nat} {a b:List Rat} (h:b.length=0):st n a b=[]:=by
  cases n with
  |zero=>rfl
  |succ n=>exact if_pos h
theorem st_yes {n:Nat} {a b:List Rat} (h:b.length≠0) (hn:b.length≤n):st n a b=b :: st (n - 1) b (mul (dr a b) [(((-1:Int)):Rat)]):=by
  obtain ⟨m,rfl⟩:∃m,n=m+1:=⟨n - 1,by omega⟩
  exact if_neg h
theorem stok_yes {n:Nat} {a b:List Rat} (k:stok n a b) (h:b.length≠0) (hn:b.length≤n):bd 60000000000 b∧dgo a b∧bd 60000000000 (dr a b)∧stok (n - 1) b (mul (dr a b) [(((-1:Int)):Rat)]):=by
  obtain ⟨m,rfl⟩:∃m,n=m+1:=⟨n - 1,by omega⟩
  exact k h
theorem sdr_len {n:Nat} {a b:List Rat} (hb:cl b=b) (h:b.length≠0) (hn:b.length≤n):(mul (dr a b) [(((-1:Int)):Rat)]).length≤n - 1:=by
  have:=mul_len (dr a b) [(((-1:Int)):Rat)];have:=dr_less (p:=a) hb h
  simp only [List.length_cons,List.length_nil] at*
  omega
theorem der_len (l:List Rat):(der l).length≤l.length - 1:=by
  unfold der
  exact Nat.le_trans (cl_le_len _) (by rw [gen_len];exact Nat.le_refl _)
theorem cv_one {p q:List Rat} (hq1:∀j,j≠0→q.getD j 0=0) {k lo:Nat}:∀n,lo+n≤k+1→cv p q k lo n=if 0<n∧lo+n=k+1 then p.getD k 0*q.getD 0 0 else 0
  |0,_=>by rw [if_neg (by omega)];rfl
  |n+1,h=>by
    show cv p q k lo n+p.getD (lo+n) 0*q.getD (k - (lo+n)) 0=_
    rw [cv_one hq1 n (by omega),if_neg (by omega)]
    by_cases e:k=lo+n
    · rw [if_pos (by omega),e,Nat.sub_self];grind
    · rw [if_neg (by omega),hq1 _ (by omega)];grind
theorem cv_one_hq {p:List Rat} {x:Rat} {K L:Nat} (hp:bd K p) (hx:hq x≤L) (k lo n:Nat) (h:lo+n≤k+1):hq (cv p (cl [x]) k lo n)≤K+L:=by
  rw [cv_one (q:=cl [x]) (fun j hj=>by rw [cl_get];obtain ⟨i,rfl⟩:∃i,j=i+1:=⟨j - 1,by omega⟩;rfl) n h,cl_get]
  split
  · have := hq_mul (p.getD k 0) x
    have:=hp k
    show hq (p.getD k 0*x)≤_
    omega
  · rw [hq_zero];have:=hq_pos x;omega
theorem bd_one {x:Rat} {L:Nat} (hx:hq x≤L):bd L [x]:=fun i=>by
  cases i with
  |zero=>exact hx
  |succ i=>show hq 0≤L;rw [hq_zero];have:=hq_pos x;omega
theorem inv_hq {l:List Rat} {K:Nat} (h:bd K l):hq (((1:Int):Rat) / lead l)≤1+K:=by
  by_cases h0:lead l=0
  · rw [h0,show ((1:Int):Rat) / 0=0 by rw [Rat.div_def,Rat.inv_zero,Rat.mul_zero],hq_zero];omega
  · have := hq_div ((1 : Int) : Rat) h0
    have:=lead_hq h
    have:hq ((1:Int):Rat)=1:=by decide
    omega
theorem bm_step (P:List Rat) (i:Nat):(if bm P i<qabs (P.getD i 0 / lead P) then qabs (P.getD i 0 / lead P) else bm P i)=bm P (i+1):=rfl
theorem bm_hq {P:List Rat} {K:Nat} (h:bd K P) (h0:lead P≠0):∀i,hq (bm P i)≤K+K
  | 0 => by show hq ((0 : Int) : Rat) ≤ _; have := hq_pos (lead P); have := lead_hq h; have : hq ((0 : Int) : Rat) = 1 := by decide
            omega
  |i+1=>by
    unfold bm
    split
    · rw [hq_qabs];have:=hq_div (P.getD i 0) h0;have:=lead_hq h;have:=h i;omega
    · exact bm_hq h h0 i
theorem vok_of {L:List (List Rat)} {x:Rat} {K M:Nat} (hx:hq x≤M) (h:∀p,p∈L→p.length≤10∧bd K p) (hk:K≤60000000000) (hb:1+10*(K+M+1)≤200000000000):vok L x:=fun p hp=>by
  obtain ⟨h1,h2⟩:=h p hp
  refine ⟨by omega,bd_mono h2 hk,fun i=> ?_⟩
  refine Nat.le_trans (ev_hq (K:=K) hx (l:=p.drop i) fun j=> ?_) (Nat.le_trans (Nat.add_le_add_left (Nat.mul_le_mul_right _ (by rw [List.length_drop];omega)) _) hb)
  have:(p.drop i).getD j 0=p.getD (i+j) 0:=by rw [List.getD_eq_getElem?_getD,List.getElem?_drop,←List.getD_eq_getElem?_getD]
  rw [this];exact h2 _
theorem va_step (x:Rat) {L:List (List Rat)} {i:Nat} (h:i<L.length) (n s:Int):va x (L.drop i) n s=if sgq (ev x (L.getD i []))=0 then va x (L.drop (i+1)) n s else va x (L.drop (i+1)) (if s*sgq (ev x (L.getD i []))<0 then n+1 else n) (sgq (ev x (L.getD i []))):=by
  have e:L.drop i=L.getD i [] :: L.drop (i+1):=by
    rw [List.getD_eq_getElem?_getD,List.getElem?_eq_getElem h]
    exact List.drop_eq_getElem_cons h
  rw [e];rfl
end Go.Proofs.YtpdbimfnhglhpaaGreat.Po
namespace Go.Proofs.YtpdbimfnhglhpaaGreat.Po
open Go.Proofs.YtpdbimfnhglhpaaGreat.Big
def cbd (d:Int) (K:Nat) (l:List Rat):Prop:=∀i,∃n:Int,ln n≤K∧l.getD i 0*(d:Rat)=(n:Rat)
def cb (K:Nat) (l:List Rat):Prop:=∃d:Int,d≠0∧ln d≤K∧cbd d K l
theorem sub_mul' (a b c:Rat):(a - b)*c=a*c - b*c:=by grind
theorem cast_ne {d:Int} (h:d≠0):(d:Rat)≠0:=fun e=>h (by exact_mod_cast e)
theorem frac_hq {x:Rat} {n d:Int} {K:Nat} (hd:d≠0) (h1:ln n≤K) (h2:ln d≤K) (h:x*(d:Rat)=(n:Rat)):hq x≤K:=by
  have e:x=Rat.divInt n d:=by
    rw [Rat.divInt_eq_div]
    rw [← h,Rat.mul_div_cancel (cast_ne hd)]
  rw [e]
  have:=hq_divInt (n:=n) hd
  omega
theorem cb_bd {K:Nat} {l:List Rat} (h:cb K l):bd K l:=fun i=>by
  obtain ⟨d,h0,h1,h2⟩:=h
  obtain ⟨n,h3,h4⟩:=h2 i
  exact frac_hq h0 h3 h1 h4
theorem cb_mono {K L:Nat} {l:List Rat} (h:cb K l) (hk:K≤L):cb L l:=by
  obtain ⟨d,h0,h1,h2⟩:=h
  exact ⟨d,h0,by omega,fun i=>by obtain ⟨n,h3,h4⟩:=h2 i;exact ⟨n,by omega,h4⟩⟩
theorem cb_ext {K:Nat} {l m:List Rat} (h:cb K l) (e:∀i,m.getD i 0=l.getD i 0):cb K m:=by
  obtain ⟨d,h0,h1,h2⟩:=h
  exact ⟨d,h0,h1,fun i=>by rw [e];exact h2 i⟩
theorem cb_cl {K:Nat} {l:List Rat} (h:cb K l):cb K (cl l):=cb_ext h (cl_get l)
theorem cb_of_bd {k:Nat}:∀{l:List Rat},bd k l→cb (1+l.length*k) l
  |[],_=>⟨1,by decide,by rw [zSg];omega,fun i=>⟨0,by rw [zce];omega,by rw [gD0 (Nat.zero_le _)];simp⟩⟩
  |a :: l,h=>by
    obtain ⟨d,h0,h1,h2⟩:=cb_of_bd (l:=l) (k:=k) fun i=>h (i+1)
    have ha:hq a≤k:=h 0
    have hn:=hq_num a
    have hd:=hq_den a
    have hm:=zta d (a.den:Int)
    have hlen:(a :: l).length*k=l.length*k+k:=by rw [List.length_cons,Nat.succ_mul]
    refine ⟨d*(a.den:Int),Int.mul_ne_zero h0 (den_ne a),by omega,fun i=> ?_⟩
    cases i with
    |zero=>
      refine ⟨a.num*d,by have:=zta a.num d;omega,?_⟩
      show a*((d*(a.den:Int):Int):Rat)=_
      have e:a*((a.den:Int):Rat)=(a.num:Rat):=by
        have h1:(a.num:Rat) / ((a.den:Int):Rat)=a:=by rw [← Rat.divInt_eq_div,Rat.num_divInt_den]
        have h2:=Rat.div_mul_cancel (a:=(a.num:Rat)) (cast_ne (den_ne a))
        rw [h1] at h2
        exact h2
      rw [Rat.intCast_mul,Rat.intCast_mul,Rat.mul_comm (d:Rat),←Rat.mul_assoc,e]
    |succ i=>
      obtain ⟨n,h3,h4⟩:=h2 i
      refine ⟨n*(a.den:Int),by have:=zta n (a.den:Int);omega,?_⟩
      show l.getD i 0*((d*(a.den:Int):Int):Rat)=_
      rw [Rat.intCast_mul,Rat.intCast_mul,←Rat.mul_assoc,h4]
theorem cb_scale {K:Nat} {l m:List Rat} {x:Rat} (h:cb K l) (hx:x=1 / lead l) (h0:lead l≠0) (e:∀i,m.getD i 0=l.getD i 0*x):cb K m:=by
  obtain ⟨d,hd,h1,h2⟩:=h
  obtain ⟨nl,h3,h4⟩:=h2 (l.length - 1)
  have h4':lead l*(d:Rat)=(nl:Rat):=h4
  have hnl:nl≠0:=fun k=>by
    rw [k] at h4'
    rcases Rat.mul_eq_zero.1 (h4'.trans (by rfl)) with q|q
    · exact h0 q
    · exact cast_ne hd q
  refine ⟨nl,hnl,h3,fun i=> ?_⟩
  obtain ⟨n,h5,h6⟩:=h2 i
  refine ⟨n,h5,?_⟩
  rw [e,hx,←h4',←h6]
  have:l.getD i 0*(1 / lead l)*(lead l*(d:Rat))=l.getD i 0*(d:Rat)*(1 / lead l*lead l):=by grind
  rw [this,Rat.div_mul_cancel h0,Rat.mul_one]
theorem mul_one_get (l:List Rat) (x:Rat) (i:Nat):(mul l [x]).getD i 0=l.getD i 0*x:=by
  rw [← scl_mul,scl_get]
theorem cb_mo {K:Nat} {l:List Rat} (hl:cl l=l) (h:cb K l):cb K (mo l):=by
  unfold mo
  split
  · rename_i h0
    have e:l=[]:=List.length_eq_zero_iff.1 h0
    rw [← e];exact h
  · rename_i h0
    exact cb_scale h rfl (lead_ne hl (fun e=>h0 (by rw [e];rfl))) (mul_one_get l _)
theorem cb_neg {K:Nat} {l:List Rat} (h:cb K l):cb K (mul l [(((-1:Int)):Rat)]):=by
  obtain ⟨d,hd,h1,h2⟩:=h
  refine ⟨d,hd,h1,fun i=> ?_⟩
  obtain ⟨n,h3,h4⟩:=h2 i
  refine ⟨-n,by rw [zS];exact h3,?_⟩
  rw [mul_one_get,show (((-1:Int)):Rat)= -1 by decide +kernel,show ((-n:Int):Rat)= -(n:Rat) from Rat.intCast_neg n,←h4]
  grind
theorem cb_der {K:Nat} {l:List Rat} (h:cb K l) (hl:l.length≤1000):cb (K+3) (der l):=by
  obtain ⟨d,hd,h1,h2⟩:=h
  refine ⟨d,hd,by omega,fun i=> ?_⟩
  by_cases hi:i+1<l.length
  · obtain ⟨n, h3, h4⟩ := h2 (i + 1)
    refine ⟨((i+1:Nat):Int)*n,?_,?_⟩
    · have := zta ((i + 1 : Nat) : Int) n
      have:=zTe (z:=((i+1:Nat):Int)) (by omega) (by omega)
      omega
    · rw [der_get,Rat.intCast_mul,←h4,Rat.mul_assoc]
  · refine ⟨0, by rw [zce]; omega, ?_⟩
    rw [der_get,gD0 (by omega)];simp
def cb2 (K:Nat) (a r:List Rat):Prop:=∃d:Int,d≠0∧ln d≤K∧cbd d K a∧cbd d K r
theorem cb2_step {K L:Nat} {a r q:List Rat} (hq:cl q=q) (hn:q≠[]) (h:cb2 K a r) (g:cb L q):cb2 (K+L+1) (add a (dt q r)) (sub r (mul (dt q r) q)):=by
  obtain ⟨d,hd,h1,ha,hr⟩:=h
  obtain ⟨e,he,g1,g2⟩:=g
  have hl0:=lead_ne hq hn
  obtain ⟨nl,k1,k2⟩:=hr (r.length - 1)
  obtain ⟨ml,k3,k4⟩:=g2 (q.length - 1)
  have k2':lead r*(d:Rat)=(nl:Rat):=k2
  have k4':lead q*(e:Rat)=(ml:Rat):=k4
  have hml:ml≠0:=fun k=>by
    rw [k] at k4'
    rcases Rat.mul_eq_zero.1 (k4'.trans (by rfl)) with q|q
    · exact hl0 q
    · exact cast_ne he q
  have hk:lead r / lead q*(((d*ml:Int)):Rat)=((nl*e:Int):Rat):=by
    rw [Rat.intCast_mul,Rat.intCast_mul,←k2',←k4']
    have:lead r / lead q*((d:Rat)*(lead q*(e:Rat)))=lead r / lead q*lead q*((d:Rat)*(e:Rat)):=by grind
    rw [this,Rat.div_mul_cancel hl0];grind
  refine ⟨d*ml,Int.mul_ne_zero hd hml,by have:=zta d ml;omega,fun i=> ?_,fun i=> ?_⟩
  · obtain ⟨n, h3, h4⟩ := ha i
    rw [add_get]
    unfold dt
    rw [mono_get]
    split
    · refine ⟨n * ml + nl * e, ?_, ?_⟩
      · have:=zvc (n*ml) (nl*e);have:=zta n ml;have:=zta nl e;omega
      · rw [Rat.add_mul,hk,Rat.intCast_add,Rat.intCast_mul,Rat.intCast_mul,Rat.intCast_mul,←Rat.mul_assoc,h4]
    · refine ⟨n * ml, by have := zta n ml; omega, ?_⟩
      rw [Rat.add_mul,Rat.zero_mul,Rat.add_zero,Rat.intCast_mul,Rat.intCast_mul,←Rat.mul_assoc,h4]
  · obtain ⟨n, h3, h4⟩ := hr i
    rw [sub_get,mul_get]
    unfold dt
    rw [C_mono]
    split
    · obtain ⟨m, h5, h6⟩ := g2 (i - (r.length - q.length))
      refine ⟨n*ml - nl*m,?_,?_⟩
      · have:=zQg (n*ml) (nl*m);have:=zta n ml;have:=zta nl m;omega
      · have z:lead r / lead q*q.getD (i - (r.length - q.length)) 0*(((d*ml:Int)):Rat)=((nl*m:Int):Rat):=by
          rw [Rat.intCast_mul,Rat.intCast_mul,←h6,←k2',←k4']
          have:lead r / lead q*q.getD (i - (r.length - q.length)) 0*((d:Rat)*(lead q*(e:Rat)))=lead r / lead q*lead q*((d:Rat)*(q.getD (i - (r.length - q.length)) 0*(e:Rat))):=by grind
          rw [this,Rat.div_mul_cancel hl0];grind
        rw [sub_mul',z,Rat.intCast_sub,Rat.intCast_mul,Rat.intCast_mul,Rat.intCast_mul,←Rat.mul_assoc,h4]
    · refine ⟨n * ml, by have := zta n ml; omega, ?_⟩
      rw [sub_mul',Rat.zero_mul,Rat.sub_eq_add_neg,Rat.neg_zero,Rat.add_zero,Rat.intCast_mul,Rat.intCast_mul,←Rat.mul_assoc,h4]
theorem cb2_bd {K:Nat} {a r:List Rat} (h:cb2 K a r):bd K a∧bd K r:=by
  obtain ⟨d,h0,h1,h2,h3⟩:=h
  exact ⟨cb_bd ⟨d,h0,h1,h2⟩,cb_bd ⟨d,h0,h1,h3⟩⟩
theorem cgrow {q:List Rat} {L:Nat} (hq:cl q=q) (hn:q≠[]) (g:cb L q):∀(n K:Nat) (a r:List Rat),cb2 K a r→K+n*(L+1)≤60000000000→dok q n a r
  |0,_,_,_,_,_=>trivial
  |n+1,K,a,r,h,hb=>by
    rw [Nat.succ_mul] at hb
    refine ⟨⟨bd_mono (cb2_bd h).1 (by omega),bd_mono (cb2_bd h).2 (by omega)⟩,fun _=> ?_⟩
    exact cgrow hq hn g n (K+L+1) _ _ (cb2_step hq hn h g) (by omega)
theorem dv_cb {q:List Rat} {L:Nat} (hq:cl q=q) (hn:q≠[]) (g:cb L q):∀(n K:Nat) (a r:List Rat),cb2 K a r→cb2 (K+(r.length+1 - q.length)*(L+1)) (dv q n a r).1 (dv q n a r).2
  |0,K,a,r,h=>by
    obtain ⟨d,h0,h1,h2,h3⟩:=h
    have:K≤K+(r.length+1 - q.length)*(L+1):=Nat.le_add_right _ _
    exact ⟨d,h0,by omega,fun i=>by obtain ⟨n,a1,a2⟩:=h2 i;exact ⟨n,by omega,a2⟩,fun i=>by obtain ⟨n,a1,a2⟩:=h3 i;exact ⟨n,by omega,a2⟩⟩
  |n+1,K,a,r,h=>by
    by_cases hl:r.length<q.length
    · unfold dv
      rw [if_pos hl]
      obtain ⟨d,h0,h1,h2,h3⟩:=h
      have:K≤K+(r.length+1 - q.length)*(L+1):=Nat.le_add_right _ _
      exact ⟨d,h0,by omega,fun i=>by obtain ⟨n,a1,a2⟩:=h2 i;exact ⟨n,by omega,a2⟩,fun i=>by obtain ⟨n,a1,a2⟩:=h3 i;exact ⟨n,by omega,a2⟩⟩
    · unfold dv
      rw [if_neg hl]
      have hlt:=dt_less (r:=r) hq hn (by omega)
      have ih:=dv_cb hq hn g n (K+L+1) _ _ (cb2_step hq hn h g)
      have e:K+L+1+((sub r (mul (dt q r) q)).length+1 - q.length)*(L+1)≤K+(r.length+1 - q.length)*(L+1):=by
        have:((sub r (mul (dt q r) q)).length+1 - q.length+1)*(L+1)≤(r.length+1 - q.length)*(L+1):=Nat.mul_le_mul_right _ (by omega)
        rw [Nat.succ_mul] at this
        omega
      obtain ⟨d,h0,h1,h2,h3⟩:=ih
      exact ⟨d,h0,by omega,fun i=>by obtain ⟨n,a1,a2⟩:=h2 i;exact ⟨n,by omega,a2⟩,fun i=>by obtain ⟨n,a1,a2⟩:=h3 i;exact ⟨n,by omega,a2⟩⟩
theorem cb2_nil {K:Nat} {r:List Rat} (h:cb K r):cb2 K [] r:=by
  obtain ⟨d,h0,h1,h2⟩:=h
  exact ⟨d,h0,h1,fun i=>⟨0,by rw [zce];omega,by rw [gD0 (Nat.zero_le _)];simp⟩,h2⟩
theorem div_cb {p q:List Rat} {K L N:Nat} (hp:cl p=p) (hq:cl q=q) (hn:q.length≠0) (h:cb K p) (g:cb L q) (hN:p.length+1 - q.length≤N):cb (K+N*(L+1)) (dq p q)∧cb (K+N*(L+1)) (dr p q):=by
  have h':q≠[]:=fun e=>hn (by rw [e];rfl)
  have:=dv_cb hq h' g p.length K [] p (cb2_nil h)
  have e:(p.length+1 - q.length)*(L+1)≤N*(L+1):=Nat.mul_le_mul_right _ hN
  unfold dq dr divp
  rw [hq,hp,if_neg hn,if_neg hn]
  obtain ⟨d,h0,h1,h2,h3⟩:=this
  exact ⟨cb_mono ⟨d,h0,h1,h2⟩ (by omega),cb_mono ⟨d,h0,h1,h3⟩ (by omega)⟩
theorem dgo_cb {p q:List Rat} {K L N:Nat} (hp:cl p=p) (hq:cl q=q) (hn:q.length≠0) (h:cb K p) (g:cb L q) (hN:p.length+1≤N) (hb:K+N*(L+1)≤60000000000) (hL:L≤60000000000):dgo p q:=by
  have h':q≠[]:=fun e=>hn (by rw [e];rfl)
  refine ⟨bd_mono (cb_bd g) hL,?_⟩
  rw [hq,hp]
  refine cgrow hq h' g _ K _ _ (cb2_nil h) ?_
  have e:(p.length+1)*(L+1)≤N*(L+1):=Nat.mul_le_mul_right _ hN
  omega
theorem gok_cb {N:Nat} (hN0:1≤N):∀(n K:Nat) (p q:List Rat),cl p=p→cl q=q→cb K p→cb K q→p.length+1≤N→q.length+1≤N→(K+1)*(N+1)^n≤60000000000→gok n p q∧cb ((K+1)*(N+1)^n) (ge n p q)
  |0,K,p,q,_,_,hp,_,_,_,_=>⟨trivial,cb_mono hp (by show K≤(K+1)*1;omega)⟩
  |n+1,K,p,q,cp,cq,hp,hq,lp,lq,hb=>by
    have e1:(K+1)*(N+1)^(n+1)=(K+1)*(N+1)*(N+1)^n:=by rw [Nat.pow_succ,Nat.mul_assoc,Nat.mul_comm (N+1)]
    have e2:(K+1)*(N+1)≤(K+1)*(N+1)*(N+1)^n:=Nat.le_mul_of_pos_right _ (Nat.pow_pos (by omega))
    have e3:K+N*(K+1)+1=(K+1)*(N+1):=by rw [Nat.mul_comm (K+1),Nat.succ_mul];omega
    have e4:K+1≤(K+1)*(N+1):=Nat.le_mul_of_pos_right _ (by omega)
    by_cases h0:q.length=0
    · refine ⟨fun k => absurd h0 k, ?_⟩
      rw [ge_nil h0]
      exact cb_mono hp (by omega)
    · have hd := (div_cb (N := N) cp cq h0 hp hq (by omega)).2
      have hlt:=dr_less (p:=p) cq h0
      have hml:=mo_len (dr p q)
      have ih:=gok_cb hN0 n (K+N*(K+1)) q (mo (dr p q)) cq (mo_cl _) (cb_mono hq (by omega)) (cb_mo (dr_cl _ _) hd) lq (by omega) (by rw [e3,←e1];exact hb)
      refine ⟨fun _=>⟨dgo_cb cp cq h0 hp hq lp (by omega) (by omega),bd_mono (cb_bd hd) (by omega),ih.1⟩,?_⟩
      have e5:ge (n+1) p q=ge n q (mo (dr p q)):=if_neg h0
      rw [e5,e1,←e3]
      exact ih.2
theorem ge_cl:∀(n:Nat) (p q:List Rat),cl p=p→cl q=q→cl (ge n p q)=ge n p q
  |0,_,_,hp,_=>hp
  |n+1,p,q,hp,hq=>by
    unfold ge
    split
    · exact hp
    · exact ge_cl n q _ hq (mo_cl _)
theorem gcd_cl (p q:List Rat):cl (gcd p q)=gcd p q:=ge_cl _ _ _ (mo_cl _) (mo_cl _)
theorem sqf_cl (p:List Rat):cl (sqf p)=sqf p:=by
  unfold sqf
  split
  · rfl
  · exact mo_cl _
theorem stok_cb {N:Nat} (hN0:1≤N):∀(n K:Nat) (a b:List Rat),cl a=a→cl b=b→cb K a→cb K b→a.length+1≤N→b.length+1≤N→(K+1)*(N+1)^n≤60000000000→stok n a b∧∀l,l∈st n a b→l.length+1≤N∧cb ((K+1)*(N+1)^n) l
  |0,K,_,_,_,_,_,_,_,_,_=>⟨trivial,fun l h=>by cases h⟩
  |n+1,K,p,q,cp,cq,hp,hq,lp,lq,hb=>by
    have e1:(K+1)*(N+1)^(n+1)=(K+1)*(N+1)*(N+1)^n:=by rw [Nat.pow_succ,Nat.mul_assoc,Nat.mul_comm (N+1)]
    have e2:(K+1)*(N+1)≤(K+1)*(N+1)*(N+1)^n:=Nat.le_mul_of_pos_right _ (Nat.pow_pos (by omega))
    have e3:K+N*(K+1)+1=(K+1)*(N+1):=by rw [Nat.mul_comm (K+1),Nat.succ_mul];omega
    have e4:K+1≤(K+1)*(N+1):=Nat.le_mul_of_pos_right _ (by omega)
    by_cases h0:q.length=0
    · refine ⟨fun k => absurd h0 k, fun l h => ?_⟩
      rw [st_nil h0] at h
      cases h
    · have hd := (div_cb (N := N) cp cq h0 hp hq (by omega)).2
      have hlt:=dr_less (p:=p) cq h0
      have hml:=sdr_len (n:=q.length) (a:=p) cq h0 (Nat.le_refl _)
      have ih:=stok_cb hN0 n (K+N*(K+1)) q (mul (dr p q) [(((-1:Int)):Rat)]) cq (mul_cl _ _) (cb_mono hq (by omega)) (cb_neg hd) lq (by omega) (by rw [e3,←e1];exact hb)
      refine ⟨fun _=>⟨bd_mono (cb_bd hq) (by omega),dgo_cb cp cq h0 hp hq lp (by omega) (by omega),bd_mono (cb_bd hd) (by omega),ih.1⟩,fun l h=> ?_⟩
      have e5:st (n+1) p q=q :: st n q (mul (dr p q) [(((-1:Int)):Rat)]):=if_neg h0
      rw [e5] at h
      rcases List.mem_cons.1 h with rfl|h
      · exact ⟨lq,cb_mono hq (by omega)⟩
      · obtain ⟨i1, i2⟩ := ih.2 l h
        exact ⟨i1,by rw [e1,←e3];exact i2⟩
end Go.Proofs.YtpdbimfnhglhpaaGreat.Po
namespace Go.Proofs.YtpdbimfnhglhpaaGreat.Po
open Go.Proofs.YtpdbimfnhglhpaaGreat.Big
theorem ge_len:∀(n:Nat) (p q:List Rat),cl q=q→(ge n p q).length≤max p.length q.length
  |0,p,q,_=>Nat.le_max_left _ _
  |n+1,p,q,hq=>by
    by_cases h:q.length=0
    · rw [ge_nil h];exact Nat.le_max_left _ _
    · have e : ge (n + 1) p q = ge n q (mo (dr p q)) := if_neg h
      rw [e]
      have:=ge_len n q (mo (dr p q)) (mo_cl _)
      have:=mo_len (dr p q)
      have:=dr_less (p:=p) hq h
      omega
theorem gcd_len (p q:List Rat):(gcd p q).length≤max p.length q.length:=by
  unfold gcd
  have:=ge_len (cl q).length (mo (cl p)) (mo (cl q)) (mo_cl _)
  have:=mo_len (cl p);have:=mo_len (cl q)
  have:=cl_le_len p;have:=cl_le_len q
  omega
theorem dv_len {q:List Rat} (hq:cl q=q) (h:q≠[]):∀(n:Nat) (a r:List Rat),(dv q n a r).1.length≤max a.length r.length∧(dv q n a r).2.length≤r.length
  |0,a,r=>⟨Nat.le_max_left _ _,Nat.le_refl _⟩
  |n+1,a,r=>by
    unfold dv
    split
    · exact ⟨Nat.le_max_left _ _,Nat.le_refl _⟩
    · have hlt := dt_less (r := r) hq h (by omega)
      obtain ⟨h1,h2⟩:=dv_len hq h n (add a (dt q r)) (sub r (mul (dt q r) q))
      have:=add_len a (dt q r)
      rw [dt_len] at this
      have:0<q.length:=List.length_pos_iff.2 h
      omega
theorem dqr_len (p q:List Rat):(dq p q).length≤p.length∧(dr p q).length≤p.length:=by
  unfold dq dr
  split
  · exact ⟨Nat.zero_le _,Nat.zero_le _⟩
  · rename_i h
    obtain ⟨h1,h2⟩:=dv_len (cl_cl q) (fun e=>h (by rw [e];rfl)) (cl p).length [] (cl p)
    have:=cl_le_len p
    unfold divp
    simp only [List.length_nil] at h1
    omega
theorem sqf_len (p:List Rat):(sqf p).length≤p.length:=by
  unfold sqf
  split
  · exact Nat.zero_le _
  · have := mo_len (dq (cl p) (gcd (cl p) (der (cl p))))
    have:=(dqr_len (cl p) (gcd (cl p) (der (cl p)))).1
    have:=cl_le_len p
    omega
theorem va_rng (x:Rat):∀(l:List (List Rat)) (n s:Int),n≤va x l n s∧va x l n s≤n+l.length
  |[],n,s=>by show n≤n∧n≤n+0;omega
  |p :: l,n,s=>by
    unfold va
    rw [List.length_cons]
    split
    · have:=va_rng x l n s;omega
    · split
      · have:=va_rng x l (n+1) (sgq (ev x p));omega
      · have:=va_rng x l n (sgq (ev x p));omega
theorem vr_rng (l:List (List Rat)) (x:Rat):0≤vr l x∧vr l x≤l.length:=by
  have:=va_rng x l 0 0
  unfold vr
  omega
theorem sg_mul {a b:Int} (ha: -1≤a∧a≤1) (hb: -1≤b∧b≤1): -9223372036854775808≤a*b∧a*b≤9223372036854775807:=by
  rcases (show a= -1∨a=0∨a=1 by omega) with rfl|rfl|rfl <;> omega
def isk (l:List (List Rat)):Nat→Rat→Rat→Prop
  |0,_,_=>False
  |n+1,a,b=>(hq a≤100000000000∧hq b≤100000000000∧vok l a∧vok l b)∧(bt l a b≠0→bt l a b≠1→isk l n a (mid a b)∧isk l n (mid a b) b)
theorem iso_none {l:List (List Rat)} {n:Nat} {a b:Rat} (h:bt l a b=0):iso l n a b=[]:=by
  cases n with
  |zero=>rfl
  |succ n=>exact if_pos h
theorem iso_one {l:List (List Rat)} {n:Nat} {a b:Rat} (h:bt l a b=1):iso l (n+1) a b=[(a,b)]:=by
  unfold iso;rw [if_neg (by omega),if_pos h]
theorem iso_more {l:List (List Rat)} {n:Nat} {a b:Rat} (h0:bt l a b≠0) (h1:bt l a b≠1):iso l (n+1) a b=iso l n a (mid a b)++iso l n (mid a b) b:=by
  conv=>lhs;unfold iso
  rw [if_neg h0,if_neg h1]
theorem lt_sgq {a b:Rat}:0<sgq (a - b)↔b<a:=by
  rw [sgq_pos]
  constructor <;> intro h <;> grind
end Go.Proofs.YtpdbimfnhglhpaaGreat.Po
namespace Go.Proofs.YtpdbimfnhglhpaaGreat.Po
open Go.Proofs.YtpdbimfnhglhpaaGreat.Big
theorem mo_ne {l:List Rat} (hl:cl l=l) (h:l.length≠0):(mo l).length≠0:=fun e=>by
  have h':l≠[]:=fun k=>h (by rw [k];rfl)
  have h0:=lead_ne hl h'
  have g:(mo l).getD (l.length - 1) 0=lead l*(((1:Int):Rat) / lead l):=by
    unfold mo
    rw [if_neg h,mul_one_get];rfl
  rw [List.length_eq_zero_iff.1 e] at g
  have g':(0:Rat)=lead l*(((1:Int):Rat) / lead l):=g
  rw [Rat.mul_comm,Rat.div_mul_cancel h0] at g'
  exact absurd g' (by decide +kernel)
theorem ge_ne:∀(n:Nat) (p q:List Rat),p.length≠0→(ge n p q).length≠0
  |0,_,_,h=>h
  |n+1,p,q,h=>by
    unfold ge
    split
    · exact h
    · rename_i h1;exact ge_ne n q _ h1
theorem gcd_ne {p q:List Rat} (h:(cl p).length≠0):(gcd p q).length≠0:=ge_ne _ _ _ (mo_ne (cl_cl p) h)
theorem pow_le {N a b:Nat} (h:a≤b) (K:Nat):(K+1)*(N+1)^a≤(K+1)*(N+1)^b:=Nat.mul_le_mul_left _ (Nat.pow_le_pow_right (by omega) h)
theorem st_len:∀(n:Nat) (a b:List Rat),(st n a b).length≤n
  |0,_,_=>Nat.le_refl _
  |n+1,a,b=>by
    unfold st
    split
    · exact Nat.zero_le _
    · rw [List.length_cons];have:=st_len n b (mul (dr a b) [(((-1:Int)):Rat)]);omega
theorem sturm_len (p:List Rat):(sturm p).length≤p.length+1:=by
  unfold sturm
  split
  · exact Nat.zero_le _
  · rw [List.length_cons];have:=st_len (sqf p).length (sqf p) (der (sqf p));have:=sqf_len p;omega
def ofL (l:List Int):List Rat:=l.map (fun z:Int=>(z:Rat))
theorem ofL_take {l:List Int} {i:Nat} (h:i<l.length):ofL (l.take i)++[((l.getD i 0:Int):Rat)]=ofL (l.take (i+1)):=by
  unfold ofL
  rw [List.take_succ_eq_append_getElem h,List.map_append,List.getD_eq_getElem?_getD,List.getElem?_eq_getElem h]
  rfl
theorem hq_add1 {x:Rat} {K:Nat} (h:hq x≤K):hq (x+((1:Int):Rat))≤K+2:=by
  have:=hq_add x ((1:Int):Rat)
  have:hq ((1:Int):Rat)=1:=by decide
  omega
theorem bound_hq {P:List Rat} {K:Nat} (h:bd K P) (h0:lead P≠0):hq (bound P)≤K+K+2:=hq_add1 (bm_hq h h0 _)
end Go.Proofs.YtpdbimfnhglhpaaGreat.Po
namespace Go.Proofs.YtpdbimfnhglhpaaGreat.Po
open Go.Proofs.YtpdbimfnhglhpaaGreat.Big
theorem bd_dec {l:List Rat} {K:Nat} (h:l.all (fun z=>decide (hq z≤K))=true) (hk:1≤K):bd K l:=fun i=>by
  rw [List.getD_eq_getElem?_getD]
  by_cases hi:i<l.length
  · rw [List.getElem?_eq_getElem hi]
    exact of_decide_eq_true (List.all_eq_true.1 h _ (List.getElem_mem hi))
  · rw [List.getElem?_eq_none (by omega)]
    show hq 0≤K
    rw [hq_zero];exact hk
theorem cv_hq_len {K L:Nat} {p q:List Rat} (h1:bd K p) (h2:bd L q) (k lo:Nat):∀n,hq (cv p q k lo n)≤1+min n (p.length - lo)*(K+L+1)
  |0=>by show hq 0≤_;rw [hq_zero];omega
  |n+1=>by
    show hq (cv p q k lo n+p.getD (lo+n) 0*q.getD (k - (lo+n)) 0)≤_
    have e3:=cv_hq_len h1 h2 k lo n
    by_cases h:lo+n<p.length
    · have e1 := hq_add (cv p q k lo n) (p.getD (lo + n) 0 * q.getD (k - (lo + n)) 0)
      have e2:=hq_mul (p.getD (lo+n) 0) (q.getD (k - (lo+n)) 0)
      have e4:=h1 (lo+n)
      have e5:=h2 (k - (lo+n))
      rw [show min (n+1) (p.length - lo)=min n (p.length - lo)+1 by omega,Nat.succ_mul]
      omega
    · rw [gD0 (l := p) (by omega), show min (n + 1) (p.length - lo) = min n (p.length - lo) by omega, Rat.zero_mul, Rat.add_zero]
      exact e3
theorem cv_hq_of {K L N:Nat} {p q:List Rat} (h1:bd K p) (h2:bd L q) (hl:p.length≤N) (hb:1+N*(K+L+1)≤200000000000) (k lo n:Nat):hq (cv p q k lo n)≤200000000000:=by
  refine Nat.le_trans (cv_hq_len h1 h2 k lo n) (Nat.le_trans (Nat.add_le_add_left (Nat.mul_le_mul_right _ ?_) _) hb)
  omega
def e1:List Rat:=ofL [-2,1,1]
def e2:List Rat:=ofL [-2,0,1]
def e3:List Rat:=ofL [0,-1,0,1]
theorem ex_mul:mul (ofL [-1,1]) (ofL [2,1])=e1:=by decide +kernel
end Go.Proofs.YtpdbimfnhglhpaaGreat.Po
namespace Go.Proofs.YtpdbimfnhglhpaaGreat.Po
open Go.Proofs.YtpdbimfnhglhpaaGreat.Big
theorem bd_mul {K L N:Nat} {p q:List Rat} (h1:bd K p) (h2:bd L q) (hl:p.length≤N):bd (1+N*(K+L+1)) (mul p q):=fun i=>by
  have e:(mul p q).getD i 0=cv p q i 0 (i+1):=by rw [mul_get,cv_co];rfl
  rw [e]
  refine Nat.le_trans (cv_hq_len h1 h2 i 0 (i+1)) (Nat.add_le_add_left (Nat.mul_le_mul_right _ ?_) _)
  omega
theorem scl_len (p:List Rat) (x:Rat):(scl p x).length≤p.length:=by
  unfold scl
  exact Nat.le_trans (cl_le_len _) (by rw [gen_len];exact Nat.le_refl _)
theorem sameE_all {l:List (Option Rat)} {m:List Rat} {n:Nat} (h1:l.length=n) (h2:m.length=n) (h:∀i,i<n→l.getD i none=some (m.getD i 0)):l=m.map some:=by
  refine List.ext_getElem (by rw [List.length_map];omega) fun i k1 k2=> ?_
  have e:=h i (by omega)
  rw [List.getD_eq_getElem?_getD,List.getD_eq_getElem?_getD,List.getElem?_eq_getElem k1,List.getElem?_eq_getElem (by omega)] at e
  rw [List.getElem_map];exact e
theorem all_some {l:List (Option Rat)} {n:Nat} (h1:l.length=n) (h:∀i,i<n→(l.getD i none).isSome=true):l=(vals l).map some:=by
  refine sameE_all h1 (by rw [vals_len];exact h1) fun i hi=> ?_
  rw [vals_get]
  have:=h i hi
  cases e:l.getD i none with
  |none=>rw [e] at this;cases this
  |some q=>rfl
theorem mul_clr (p q:List Rat):mul p (cl q)=mul p q:=by unfold mul;rw [cl_cl]
theorem dqr_spec {p q:List Rat} (hn:(cl q).length≠0):(dr p q).length<(cl q).length∧add (mul (dq p q) q) (dr p q)=cl p:=by
  have h:=divp_spec (p:=p) (q:=q) (fun e=>hn (by rw [e];rfl))
  unfold dq dr
  rw [if_neg hn,if_neg hn]
  rw [mul_clr] at h
  exact h
end Go.Proofs.YtpdbimfnhglhpaaGreat.Po
namespace Go.Proofs.YtpdbimfnhglhpaaGreat.Po
open Go.Proofs.YtpdbimfnhglhpaaGreat.Big
theorem scl_cl (l:List Rat) (a:Rat):cl (scl l a)=scl l a:=cl_cl _
theorem last_ne {l:List Rat} (hl:cl l=l) (h:l.length≠0):l.getD (l.length - 1) 0≠0:=lead_ne hl (fun e=>h (by rw [e];rfl))
theorem len_le_of {l m:List Rat} (hl:cl l=l) (h:∀i,m.getD i 0=0→l.getD i 0=0):l.length≤m.length:=by
  by_cases h0:l.length=0
  · omega
  · refine Decidable.byContradiction fun k=>last_ne hl h0 (h _ (gD0 (by omega)))
theorem scl_length {l:List Rat} {a:Rat} (hl:cl l=l) (ha:a≠0):(scl l a).length=l.length:=by
  refine Nat.le_antisymm (scl_len l a) (len_le_of hl fun i h=> ?_)
  rw [scl_get] at h
  rcases Rat.mul_eq_zero.1 h with e|e
  · exact e
  · exact absurd e ha
theorem inv_ne {x:Rat} (h:x≠0):((1:Int):Rat) / x≠0:=fun e=>by
  have:=Rat.div_mul_cancel (a:=((1:Int):Rat)) h
  rw [e,Rat.zero_mul] at this
  exact absurd this (by decide +kernel)
theorem mo_scl {l:List Rat} (hl:cl l=l):∃a,a≠0∧mo l=scl l a:=by
  by_cases h:l.length=0
  · exact ⟨1,by decide +kernel,by unfold mo;rw [if_pos h,List.length_eq_zero_iff.1 h];rfl⟩
  · exact ⟨((1:Int):Rat) / lead l,inv_ne (last_ne hl h),by unfold mo;rw [if_neg h,scl_mul]⟩
theorem mo_length {l:List Rat} (hl:cl l=l):(mo l).length=l.length:=by
  obtain ⟨a,ha,e⟩:=mo_scl hl
  rw [e,scl_length hl ha]
theorem mo_scl' (l:List Rat):mo l=if l.length=0 then [] else scl l (((1:Int):Rat) / lead l):=by unfold mo;rw [scl_mul]
end Go.Proofs.YtpdbimfnhglhpaaGreat.Po
namespace Go.Proofs.YtpdbimfnhglhpaaGreat.Po
open Go.Proofs.YtpdbimfnhglhpaaGreat.Big
theorem ev_scl (x a:Rat) (l:List Rat):ev x (scl l a)=ev x l*a:=by
  rw [scl_mul,ev_mul]
  show ev x l*(0*x+a)=_
  grind
theorem ev_sub (x:Rat) (p q:List Rat):ev x (sub p q)=ev x p - ev x q:=by
  rw [← sub_scl,ev_add,ev_scl,show (((-1:Int):Int):Rat)= -1 by decide +kernel]
  grind
def syn (x:Rat):List Rat→List Rat
  |[]=>[]
  |[_]=>[]
  |_ :: b :: l=>ev x (b :: l) :: syn x (b :: l)
theorem syn_ev (x t:Rat):∀l:List Rat,ev t l=(t - x)*ev t (syn x l)+ev x l
  |[]=>by show (0:Rat)=(t - x)*0+0;grind
  |[a]=>by show 0*t+a=(t - x)*0+(0*x+a);grind
  |a :: b :: l=>by
    have ih:=syn_ev x t (b :: l)
    show ev t (b :: l)*t+a=(t - x)*(ev t (syn x (b :: l))*t+ev x (b :: l))+(ev x (b :: l)*x+a)
    rw [ih];grind
theorem syn_len (x:Rat):∀l:List Rat,(syn x l).length=l.length - 1
  |[]=>rfl
  |[_]=>rfl
  |a :: b :: l=>by
    show (syn x (b :: l)).length+1=l.length+1+1 - 1
    rw [syn_len x (b :: l)];rfl
theorem fresh:∀E:List Rat,∃t,∀e,e∈E→e<t
  |[]=>⟨0,fun e h=>by cases h⟩
  |a :: E=>by
    obtain ⟨t,ht⟩:=fresh E
    by_cases h:a<t
    · exact ⟨t,fun e he=>by rcases List.mem_cons.1 he with rfl|he;exact h;exact ht e he⟩
    · refine ⟨a + 1, fun e he => ?_⟩
      rcases List.mem_cons.1 he with rfl|he
      · grind
      · have:=ht e he;grind
theorem ev_vanish:∀(n:Nat) (l:List Rat),l.length≤n→∀E:List Rat,(∀t,t ∉ E→ev t l=0)→∀t,ev t l=0
  |0,l,hl,_,_,t=>by rw [List.length_eq_zero_iff.1 (show l.length=0 by omega)];rfl
  |n+1,l,hl,E,h,t=>by
    obtain ⟨s,hs⟩:=fresh E
    have hsE:s ∉ E:=fun k=>by have:=hs s k;grind
    have h0:=h s hsE
    have ih:=ev_vanish n (syn s l) (by rw [syn_len];omega) (s :: E) fun t ht=>by
      have h1:=h t fun k=>ht (List.mem_cons_of_mem _ k)
      have h2:=syn_ev s t l
      rw [h0,h1] at h2
      have h3:(t - s)*ev t (syn s l)=0:=by grind
      rcases Rat.mul_eq_zero.1 h3 with k|k
      · exact absurd (List.mem_cons.2 (.inl (by grind))) ht
      · exact k
    rw [syn_ev s t l,ih t,h0];grind
theorem ev_coef:∀l:List Rat,(∀t,ev t l=0)→∀i,l.getD i 0=0
  |[],_,i=>gD0 (Nat.zero_le _)
  |a :: l,h,i=>by
    have ha:a=0:=by
      have:=h 0
      have e:ev 0 (a :: l)=ev 0 l*0+a:=rfl
      rw [e] at this;grind
    have hl:=ev_vanish l.length l (Nat.le_refl _) [0] fun t ht=>by
      have:=h t
      have e:ev t (a :: l)=ev t l*t+a:=rfl
      rw [e,ha,Rat.add_zero] at this
      rcases Rat.mul_eq_zero.1 this with k|k
      · exact k
      · exact absurd (List.mem_cons.2 (.inl k)) ht
    cases i with
    |zero=>exact ha
    |succ i=>exact ev_coef l hl i
theorem ev_eq {p q:List Rat} (h:∀t,ev t p=ev t q) (i:Nat):p.getD i 0=q.getD i 0:=by
  have:=ev_coef (sub p q) (fun t=>by rw [ev_sub,h];grind) i
  rw [sub_get] at this;grind
theorem ev_ext' {p q:List Rat} (hp:cl p=p) (hq:cl q=q) (h:∀t,ev t p=ev t q):p=q:=zRa hp hq (ev_eq h)
theorem der_ext {p q:List Rat} (h:∀t,ev t p=ev t q):der p=der q:=zRa (der_cl _) (der_cl _) fun i=>by rw [der_get,der_get,ev_eq h]
theorem mo_ev {l:List Rat} (hl:cl l=l) (t:Rat):ev t (mo l)*lead l=ev t l:=by
  rw [mo_scl']
  split
  · rename_i h
    rw [List.length_eq_zero_iff.1 h]
    show (0:Rat)*_=0
    grind
  · rename_i h
    have h0:lead l≠0:=last_ne hl h
    rw [ev_scl,Rat.mul_assoc,Rat.div_mul_cancel h0,show ((1:Int):Rat)=1 by decide +kernel,Rat.mul_one]
theorem div_ev {p q:List Rat} (hp:cl p=p) (hq:cl q=q) (h:q.length≠0) (t:Rat):ev t p=ev t (dq p q)*ev t q+ev t (dr p q):=by
  have:=(dqr_spec (p:=p) (q:=q) (by rw [hq];exact h)).2
  rw [hp] at this
  rw [← this,ev_add,ev_mul]
  rw [this]
def dvd (g p:List Rat):Prop:=∃u:List Rat,∀t,ev t p=ev t g*ev t u
theorem ge_dvd:∀(n:Nat) (p q:List Rat),cl p=p→cl q=q→q.length≤n→dvd (ge n p q) p∧dvd (ge n p q) q
  |0,p,q,_,_,hn=>by
    refine ⟨⟨[1],fun t=> ?_⟩,⟨[],fun t=> ?_⟩⟩
    · show ev t p=ev t p*(0*t+1);grind
    · rw [List.length_eq_zero_iff.1 (show q.length = 0 by omega)]
      show (0:Rat)=_*0;grind
  |n+1,p,q,hp,hq,hn=>by
    by_cases h:q.length=0
    · rw [ge_nil h]
      refine ⟨⟨[1],fun t=> ?_⟩,⟨[],fun t=> ?_⟩⟩
      · show ev t p=ev t p*(0*t+1);grind
      · rw [List.length_eq_zero_iff.1 h]
        show (0:Rat)=_*0;grind
    · have e : ge (n + 1) p q = ge n q (mo (dr p q)) := if_neg h
      have hlt:=dr_less (p:=p) hq h
      have hml:=mo_len (dr p q)
      obtain ⟨⟨u,hu⟩,⟨v,hv⟩⟩:=ge_dvd n q (mo (dr p q)) hq (mo_cl _) (by omega)
      rw [e]
      refine ⟨⟨add (mul (dq p q) u) (mul v [lead (dr p q)]),fun t=> ?_⟩,u,hu⟩
      rw [div_ev hp hq h,ev_add,ev_mul,ev_mul,←mo_ev (dr_cl p q),hu,hv]
      show _=_*(_+_*(0*t+lead (dr p q)))
      grind
theorem gcd_dvd (p q:List Rat) (hp:cl p=p) (hq:cl q=q):dvd (gcd p q) p∧dvd (gcd p q) q:=by
  have h:=ge_dvd (cl q).length (mo (cl p)) (mo (cl q)) (mo_cl _) (mo_cl _) (mo_len _)
  obtain ⟨⟨u,hu⟩,⟨v,hv⟩⟩:=h
  unfold gcd
  refine ⟨⟨mul u [lead p],fun t=> ?_⟩,⟨mul v [lead q],fun t=> ?_⟩⟩
  · rw [ev_mul, ← Rat.mul_assoc, ← hu, hp, ← mo_ev hp]
    show _=_*(0*t+lead p);grind
  · rw [ev_mul, ← Rat.mul_assoc, ← hv, hq, ← mo_ev hq]
    show _=_*(0*t+lead q);grind
theorem co_top {f g:Nat→Rat} {a b:Nat} (hf:∀i,a<i→f i=0) (hg:∀i,b<i→g i=0):∀n,n≤a+b+1→co f g (a+b) n=if a<n then f a*g b else 0
  |0,_=>by rw [if_neg (by omega)];rfl
  |n+1,hn=>by
    show co f g (a+b) n+f n*g (a+b - n)=_
    rw [co_top hf hg n (by omega)]
    by_cases h1:n<a
    · rw [if_neg (by omega),if_neg (by omega),hg (a+b - n) (by omega)];grind
    · by_cases h2 : n = a
      · subst h2
        rw [if_neg (by omega),if_pos (by omega),show n+b - n=b by omega];grind
      · rw [if_pos (by omega),if_pos (by omega),hf n (by omega)];grind
theorem mul_length {p q:List Rat} (hp:cl p=p) (hq:cl q=q) (h1:p.length≠0) (h2:q.length≠0):(mul p q).length=p.length+q.length - 1:=by
  refine Nat.le_antisymm (mul_len p q) (Decidable.byContradiction fun k=> ?_)
  have e:=mul_get p q (p.length - 1+(q.length - 1))
  rw [gD0 (by omega)] at e
  unfold C at e
  rw [co_top (fun i hi=>gD0 (by omega)) (fun i hi=>gD0 (by omega)) _ (Nat.le_refl _),if_pos (by omega)] at e
  rcases Rat.mul_eq_zero.1 e.symm with k|k
  · exact last_ne hp h1 k
  · exact last_ne hq h2 k
theorem dr_dvd {p g:List Rat} (hp:cl p=p) (hg:cl g=g) (h:g.length≠0) (k:dvd g p):dr p g=[]:=by
  obtain ⟨u,hu⟩:=k
  have hlt:=dr_less (p:=p) hg h
  have e:dr p g=mul g (sub u (dq p g)):=ev_ext' (dr_cl _ _) (mul_cl _ _) fun t=>by
    have h1:=div_ev hp hg h t
    rw [ev_mul,ev_sub]
    rw [hu t] at h1
    grind
  by_cases h0:(sub u (dq p g)).length=0
  · rw [e,List.length_eq_zero_iff.1 h0,mul_comm',mul_nil]
  · have := mul_length hg (sub_cl u (dq p g)) h h0
    rw [← e] at this
    omega
theorem exact_mul {p g:List Rat} (hp:cl p=p) (hg:cl g=g) (h:g.length≠0) (k:dvd g p):mul (dq p g) g=p:=ev_ext' (mul_cl _ _) hp fun t=>by
  have:=div_ev hp hg h t
  rw [dr_dvd hp hg h k] at this
  rw [ev_mul,this]
  show _=_+(0:Rat);grind
theorem ev_lin (t x:Rat):ev t [-x,1]=t - x:=by show (0*t+1)*t+ -x=t - x;grind
theorem der_syn {x:Rat} {h:List Rat} (h0:ev x h=0) (t:Rat):ev t (der h)=ev t (syn x h)+(t - x)*ev t (der (syn x h)):=by
  have e:der h=der (mul [-x,1] (syn x h)):=der_ext fun t=>by rw [ev_mul,ev_lin,syn_ev x t h,h0];grind
  rw [e,der_mul,ev_add,ev_mul,ev_mul,ev_lin]
  have:ev t (der [-x,1])=1:=by
    have:der [-x,1]=[1]:=zRa (der_cl _) (by decide +kernel) fun i=>by
      rw [der_get]
      match i with
      |0=>show ((1:Int):Rat)*1=1;decide +kernel
      |i+1=>show _*(0:Rat)=0;rw [Rat.mul_zero]
    rw [this];show 0*t+1=1;grind
  rw [this];grind
theorem root_key (x:Rat) (q w:List Rat):∀(n:Nat) (h:List Rat) (k:Rat),h.length≤n→0≤k→(k≠0∨ev x h=0)→(∃t,ev t h≠0)→
    (∀t,k*ev t q*ev t h+(t - x)*ev t q*ev t (der h)=(t - x)*ev t h*ev t w)→ev x q=0
  |0,h,k,hn,_,_,⟨t,ht⟩,_=>absurd (by rw [List.length_eq_zero_iff.1 (show h.length=0 by omega)];rfl) ht
  |n+1,h,k,hn,hk,hc,⟨t0,ht0⟩,e=>by
    by_cases hx:ev x h=0
    · have hd := der_syn hx
      have hs:∀t,ev t h=(t - x)*ev t (syn x h):=fun t=>by rw [syn_ev x t h,hx];grind
      refine root_key x q w n (syn x h) (k+1) (by rw [syn_len];omega) (by grind) (.inl (by grind)) ⟨t0,fun z=>ht0 (by rw [hs,z];grind)⟩ fun t=> ?_
      have hv:=ev_vanish _ (sub (add (mul [k+1] (mul q (syn x h))) (mul [-x,1] (mul q (der (syn x h))))) (mul [-x,1] (mul (syn x h) w))) (Nat.le_refl _) [x] (fun s hs2=>by
        have hsx:s - x≠0:=fun z=>hs2 (List.mem_cons.2 (.inl (by grind)))
        rw [ev_sub,ev_add,ev_mul,ev_mul,ev_mul,ev_mul,ev_mul,ev_mul,ev_lin,show ev s [k+1]=k+1 by show 0*s+(k+1)=k+1;grind]
        have e1:=e s
        rw [hd s,hs s] at e1
        have e2:(s - x)*((k+1)*(ev s q*ev s (syn x h))+(s - x)*(ev s q*ev s (der (syn x h))) - (s - x)*(ev s (syn x h)*ev s w))=0:=by grind
        rcases Rat.mul_eq_zero.1 e2 with z|z
        · exact absurd z hsx
        · exact z) t
      rw [ev_sub,ev_add,ev_mul,ev_mul,ev_mul,ev_mul,ev_mul,ev_mul,ev_lin,show ev t [k+1]=k+1 by show 0*t+(k+1)=k+1;grind] at hv
      grind
    · have hk0 : k ≠ 0 := hc.resolve_right hx
      have e1:=e x
      have e2:k*ev x q*ev x h=0:=by grind
      rcases Rat.mul_eq_zero.1 e2 with z|z
      · rcases Rat.mul_eq_zero.1 z with z | z
        · exact absurd z hk0
        · exact z
      · exact absurd z hx
theorem ev_some {l:List Rat} (hl:cl l=l) (h:l.length≠0):∃t,ev t l≠0:=Classical.byContradiction fun k=>last_ne hl h (ev_coef l (fun t=>Decidable.byContradiction fun z=>k ⟨t,z⟩) _)
theorem sqf_root {p:List Rat} (hp:(cl p).length≠0) (x:Rat):ev x (sqf p)=0↔ev x p=0:=by
  have hc:=cl_cl p
  have hg:=gcd_cl (cl p) (der (cl p))
  have hn:(gcd (cl p) (der (cl p))).length≠0:=gcd_ne (by rw [hc];exact hp)
  obtain ⟨d1,v,hv⟩:=gcd_dvd (cl p) (der (cl p)) hc (der_cl _)
  have hm:=exact_mul hc hg hn d1
  have he:sqf p=mo (dq (cl p) (gcd (cl p) (der (cl p)))):=if_neg hp
  generalize hG:gcd (cl p) (der (cl p))=g at*
  generalize hQ:dq (cl p) g=q at*
  have hqc:cl q=q:=by rw [← hQ];exact dq_cl _ _
  have hpx:ev x p=ev x q*ev x g:=by rw [← ev_cl,←hm,ev_mul]
  have hqn:q.length≠0:=fun z=>by
    rw [List.length_eq_zero_iff.1 z,mul_nil] at hm
    exact hp (by rw [← hm];rfl)
  have hq0:ev x (sqf p)=0↔ev x q=0:=by
    have:=mo_ev hqc x
    rw [he]
    constructor
    · intro z;rw [z] at this;grind
    · intro z
      rw [z] at this
      rcases Rat.mul_eq_zero.1 this with k|k
      · exact k
      · exact absurd k (last_ne hqc hqn)
  rw [hq0,hpx]
  constructor
  · intro z;rw [z];grind
  · intro z
    rcases Rat.mul_eq_zero.1 z with z|z
    · exact z
    · refine root_key x q (sub v (der q)) g.length g 0 (Nat.le_refl _) (by grind) (.inr z) (ev_some hg hn) fun t => ?_
      have e1:ev t (der (cl p))=ev t (der q)*ev t g+ev t q*ev t (der g):=by
        have:der (cl p)=der (mul q g):=by rw [hm]
        rw [this,der_mul,ev_add,ev_mul,ev_mul]
      rw [hv t] at e1
      rw [ev_sub]
      grind
end Go.Proofs.YtpdbimfnhglhpaaGreat.Po
namespace Go.Proofs.YtpdbimfnhglhpaaGreat.Dt
open Go.Proofs.YtpdbimfnhglhpaaGreat.Po
set_option linter.unusedVariables false
set_option linter.unusedSimpArgs false
def cp (m:M4):Nat→List Rat
  |1=>[k3 (zed 1 m),1]
  |2=>[k2 (zed 2 m),k3 (zed 2 m),1]
  |3=>[k1 (zed 3 m),k2 (zed 3 m),k3 (zed 3 m),1]
  |_=>[det4 m,k1 m,k2 m,k3 m,1]
def dv' (m:M4) (n i:Nat):Rat:=det4 (pad n (xsub (i:Rat) m))
theorem pad4 (m:M4):det4 (pad 4 m)=det4 m:=by simp [det4,d2,pad]
theorem cl_one:∀(l:List Rat),cl (l++[1])=l++[1]:=fun l=>by
  have e:tn (l++[(1:Rat)]) (l++[(1:Rat)]).length=(l++[(1:Rat)]).length:=by
    rw [List.length_append,List.length_singleton]
    show (if (l++[(1:Rat)]).getD l.length 0=0 then _ else _)=_
    rw [if_neg (by simp)]
  rw [cl,e,List.take_length]
theorem thr_clean (n:Nat) (d:Nat→Rat):cl (thr n d)=thr n d:=by
  unfold thr;rw [List.range_succ,List.foldl_append];exact add_cl _ _
theorem cp_cl {m:M4} {n:Nat}:cl (cp m n)=cp m n:=by
  unfold cp;split
  · exact cl_one [_]
  · exact cl_one [_,_]
  · exact cl_one [_,_,_]
  · exact cl_one [_,_,_,_]
theorem thr_cp (m:M4) {n:Nat} (h1:1≤n) (h4:n≤4):thr n (dv' m n)=cp m n:=by
  refine ev_ext' (thr_clean _ _) cp_cl fun t=> ?_
  have hn:n=1∨n=2∨n=3∨n=4:=by omega
  rcases hn with rfl|rfl|rfl|rfl
  · rw [show dv' m 1=fun i:Nat=>(i:Rat)+k3 (zed 1 m) from funext fun i=>char1 m i,thr1];simp [cp,ev];grind
  · rw [show dv' m 2=fun i:Nat=>(i:Rat)*i+k3 (zed 2 m)*i+k2 (zed 2 m) from funext fun i=>char2 m i,thr2];simp [cp,ev];grind
  · rw [show dv' m 3=fun i:Nat=>(i:Rat)*i*i+k3 (zed 3 m)*(i*i)+k2 (zed 3 m)*i+k1 (zed 3 m) from funext fun i=>char3 m i,thr3];simp [cp,ev];grind
  · rw [show dv' m 4=fun i:Nat=>(i:Rat)*i*i*i+k3 m*(i*i*i)+k2 m*(i*i)+k1 m*i+det4 m from funext fun i=>(pad4 _).trans (char4 m i),thr4];simp [cp,ev];grind
theorem cp_len {m:M4} {n:Nat} (h1:1≤n) (h4:n≤4):(cp m n).length=n+1∧(cp m n).getD n 0=1:=by
  have hn:n=1∨n=2∨n=3∨n=4:=by omega
  rcases hn with rfl|rfl|rfl|rfl <;> exact ⟨rfl,rfl⟩
theorem cp_zero (m:M4) {n:Nat} (h1:1≤n) (h4:n≤4):ev 0 (cp m n)=if n%2=1 then - det4 (pad n m) else det4 (pad n m):=by
  have hn:n=1∨n=2∨n=3∨n=4:=by omega
  rcases hn with rfl|rfl|rfl|rfl <;> (simp [cp,ev,det4,d2,d3,k1,k2,k3,zed,pad];try grind)
end Go.Proofs.YtpdbimfnhglhpaaGreat.Dt
namespace Go.Proofs.YtpdbimfnhglhpaaGreat.Po
open Go.Proofs.YtpdbimfnhglhpaaGreat.Big
theorem sqf_nil (p:List Rat):(sqf p).length=0↔(cl p).length=0:=by
  constructor
  · intro h
    refine Decidable.byContradiction fun k=> ?_
    have he:sqf p=mo (dq (cl p) (gcd (cl p) (der (cl p)))):=if_neg k
    have hn:(gcd (cl p) (der (cl p))).length≠0:=gcd_ne (by rw [cl_cl];exact k)
    have hm:=exact_mul (cl_cl p) (gcd_cl (cl p) (der (cl p))) hn (gcd_dvd (cl p) (der (cl p)) (cl_cl p) (der_cl _)).1
    rw [he,mo_length (dq_cl _ _)] at h
    rw [List.length_eq_zero_iff.1 h,mul_nil] at hm
    exact k (by rw [← hm];rfl)
  · intro h
    unfold sqf
    rw [if_pos h];rfl
end Go.Proofs.YtpdbimfnhglhpaaGreat.Po
namespace Go.Proofs.YtpdbimfnhglhpaaGreat.Po
open Go.Proofs.YtpdbimfnhglhpaaGreat.Big
theorem ge_bez:∀(n:Nat) (p q:List Rat),cl p=p→cl q=q→∃u v:List Rat,∀t,ev t (ge n p q)=ev t u*ev t p+ev t v*ev t q
  |0,p,q,_,_=>⟨[1],[],fun t=>by show ev t p=(0*t+1)*ev t p+0*_;grind⟩
  |n+1,p,q,hp,hq=>by
    by_cases h:q.length=0
    · rw [ge_nil h]
      exact ⟨[1],[],fun t=>by show ev t p=(0*t+1)*ev t p+0*_;grind⟩
    · have e : ge (n + 1) p q = ge n q (mo (dr p q)) := if_neg h
      obtain ⟨u,v,k⟩:=ge_bez n q (mo (dr p q)) hq (mo_cl _)
      obtain ⟨a,-,ea⟩:=mo_scl (dr_cl p q)
      rw [e]
      refine ⟨mul v [a],sub u (mul (mul v [a]) (dq p q)),fun t=> ?_⟩
      rw [k,ea,ev_scl,ev_sub,ev_mul,ev_mul,ev_mul,div_ev hp hq h t]
      show _=ev t v*(0*t+a)*_+(_ - ev t v*(0*t+a)*_)*_
      grind
theorem gcd_bez (p q:List Rat) (hp:cl p=p) (hq:cl q=q):∃u v:List Rat,∀t,ev t (gcd p q)=ev t u*ev t p+ev t v*ev t q:=by
  obtain ⟨u,v,k⟩:=ge_bez (cl q).length (mo (cl p)) (mo (cl q)) (mo_cl _) (mo_cl _)
  obtain ⟨a,-,ea⟩:=mo_scl (cl_cl p)
  obtain ⟨b,-,eb⟩:=mo_scl (cl_cl q)
  refine ⟨mul u [a],mul v [b],fun t=> ?_⟩
  unfold gcd
  rw [k,ea,eb,ev_scl,ev_scl,ev_mul,ev_mul,hp,hq]
  show _=ev t u*(0*t+a)*_+ev t v*(0*t+b)*_
  grind
theorem cl_ne {l:List Rat} (h:∃t,ev t l≠0):(cl l).length≠0:=fun e=>by
  obtain ⟨t,ht⟩:=h
  rw [← ev_cl,List.length_eq_zero_iff.1 e] at ht
  exact ht rfl
theorem cancel {c D:List Rat} (hc:∃t,ev t c≠0) (h:∀t,ev t c*ev t D=0) (t:Rat):ev t D=0:=by
  refine Classical.byContradiction fun k=> ?_
  have h1:=cl_ne hc
  have h2:=cl_ne ⟨t,k⟩
  have h3:=mul_length (cl_cl c) (cl_cl D) h1 h2
  have h4:mul (cl c) (cl D)=[]:=ev_ext' (mul_cl _ _) rfl fun s=>by
    rw [ev_mul,ev_cl,ev_cl,h s];rfl
  rw [h4] at h3
  simp at h3
  omega
def pw (h:List Rat):Nat→List Rat
  |0=>[1]
  |k+1=>mul h (pw h k)
theorem pw_ev (h:List Rat) (t:Rat):∀k,ev t (pw h (k+1))=ev t h*ev t (pw h k):=fun k=>ev_mul _ _ _
theorem pw_zero (h:List Rat) (t:Rat):ev t (pw h 0)=1:=by show 0*t+1=(1:Rat);grind
theorem pw_ne {h:List Rat} (hn:(cl h).length≠0):∀k,∃t,ev t (pw h k)≠0
  |0=>⟨0,by rw [pw_zero];decide +kernel⟩
  |k+1=>by
    have h1:=pw_ne hn k
    refine Classical.byContradiction fun z=> ?_
    obtain ⟨t,ht⟩:=ev_some (cl_cl h) hn
    have:ev t h=0:=cancel h1 (fun s=>by
      have:ev s (pw h (k+1))=0:=Classical.byContradiction fun q=>z ⟨s,q⟩
      rw [pw_ev] at this;grind) t
    rw [ev_cl] at ht
    exact ht this
theorem pw_len {h:List Rat} (hc:cl h=h) (hl:2≤h.length):∀k,k+1≤(cl (pw h k)).length
  |0=>by
    have:=cl_ne (pw_ne (h:=h) (by rw [hc];omega) 0)
    omega
  |k+1=>by
    have h1:=pw_len hc hl k
    have e:cl (pw h (k+1))=mul h (cl (pw h k)):=by
      show cl (mul h (pw h k))=_
      rw [mul_cl,mul_clr]
    rw [e,mul_length hc (cl_cl _) (by omega) (by omega)]
    omega
theorem pw_dvd {G q w h q1 z α β:List Rat} (hn:(cl h).length≠0) (e1:∀t,ev t G*ev t w=ev t (der G)*ev t q) (e2:∀t,ev t q=ev t h*ev t q1) (e3:∀t,ev t (der q)=ev t h*ev t z) (e4:∀t,ev t α*ev t h+ev t β*ev t w=1):
    ∀k,∃A:List Rat,∀t,ev t G=ev t (pw h k)*ev t A
  |0=>⟨G,fun t=>by rw [pw_zero];grind⟩
  |k+1=>by
    obtain ⟨A,hA⟩:=pw_dvd hn e1 e2 e3 e4 k
    -- the derivative of G
    have hd:∀t,ev t (der G)*ev t h=ev t (pw h k)*((k:Nat)*ev t (der h)*ev t A+ev t h*ev t (der A)):=by
      intro t
      have hG:der G=der (mul (pw h k) A):=der_ext fun t=>by rw [ev_mul];exact hA t
      have hp:∀j,ev t (der (pw h j))*ev t h=(j:Nat)*ev t (der h)*ev t (pw h j):=by
        intro j
        induction j with
        |zero=>
          have:der (pw h 0)=[]:=(by decide +kernel:der [(1:Rat)]=[])
          rw [this]
          show (0:Rat)*_=((0:Nat):Rat)*_*_
          have:((0:Nat):Rat)=0:=by decide +kernel
          rw [this];grind
        |succ j ih=>
          have:der (pw h (j+1))=add (mul (der h) (pw h j)) (mul h (der (pw h j))):=der_mul _ _
          rw [this,ev_add,ev_mul,ev_mul,pw_ev]
          have hj:((j+1:Nat):Rat)=(j:Nat)+1:=by exact_mod_cast cast_s j
          rw [hj]
          grind
      rw [hG,der_mul,ev_add,ev_mul,ev_mul]
      have:=hp k
      grind
    -- h' q1 is a multiple of h
    have hq:∀t,ev t (der h)*ev t q1=ev t h*(ev t z - ev t (der q1)):=by
      intro t
      have h1:der q=der (mul h q1):=der_ext fun t=>by rw [ev_mul];exact e2 t
      have h2:=e3 t
      rw [h1,der_mul,ev_add,ev_mul,ev_mul] at h2
      grind
    -- cancel the power
    have hc:∀t,ev t A*ev t w=ev t h*((k:Nat)*ev t A*(ev t z - ev t (der q1))+ev t (der A)*ev t q1):=by
      intro t
      have:=cancel (c:=pw h k) (D:=sub (mul A w) (mul h (add (mul [((k:Nat):Rat)] (mul A (sub z (der q1)))) (mul (der A) q1)))) (pw_ne hn k) (fun s=>by
        have h1:=e1 s
        have h2:=hd s
        have h3:=hq s
        rw [hA s,e2 s] at h1
        rw [ev_sub,ev_mul,ev_mul,ev_add,ev_mul,ev_mul,ev_mul,ev_sub]
        show _*(_ - _*((0*s+((k:Nat):Rat))*_+_))=0
        grind) t
      rw [ev_sub,ev_mul,ev_mul,ev_add,ev_mul,ev_mul,ev_mul,ev_sub] at this
      have e:ev t [((k:Nat):Rat)]=((k:Nat):Rat):=by show 0*t+_=_;grind
      rw [e] at this
      grind
    refine ⟨add (mul α A) (mul β (add (mul [((k:Nat):Rat)] (mul A (sub z (der q1)))) (mul (der A) q1))),fun t=> ?_⟩
    rw [pw_ev,hA t,ev_add,ev_mul,ev_mul,ev_add,ev_mul,ev_mul,ev_mul,ev_sub]
    have e:ev t [((k:Nat):Rat)]=((k:Nat):Rat):=by show 0*t+_=_;grind
    have h1:=e4 t
    have h2:=hc t
    rw [e]
    have h3:ev t A=ev t α*ev t h*ev t A+ev t β*(ev t A*ev t w):=by grind
    rw [h2] at h3
    grind
theorem sqf_cop {p h:List Rat} (hp:(cl p).length≠0) (hc:cl h=h) (d1:dvd h (sqf p)) (d2:dvd h (der (sqf p))):h.length≤1:=by
  refine Decidable.byContradiction fun hl=> ?_
  have hc0:=cl_cl p
  have hg:=gcd_cl (cl p) (der (cl p))
  have hn:(gcd (cl p) (der (cl p))).length≠0:=gcd_ne (by rw [hc0];exact hp)
  obtain ⟨k1,v,hv⟩:=gcd_dvd (cl p) (der (cl p)) hc0 (der_cl _)
  obtain ⟨a,b,hab⟩:=gcd_bez (cl p) (der (cl p)) hc0 (der_cl _)
  have hm:=exact_mul hc0 hg hn k1
  have he:sqf p=mo (dq (cl p) (gcd (cl p) (der (cl p)))):=if_neg hp
  generalize hG:gcd (cl p) (der (cl p))=G at*
  generalize hQ:dq (cl p) G=q at*
  have hqc:cl q=q:=by rw [← hQ];exact dq_cl _ _
  obtain ⟨c,hc0',ec⟩:=mo_scl hqc
  rw [he,ec] at d1 d2
  obtain ⟨q0,hq0⟩:=d1
  obtain ⟨z0,hz0⟩:=d2
  -- back from the multiple
  have hinv:∃c',c*c'=1:=⟨1 / c,by
    have:=Rat.div_mul_cancel (a:=1) hc0'
    rw [Rat.mul_comm];exact this⟩
  obtain ⟨c',hcc⟩:=hinv
  have e2:∀t,ev t q=ev t h*ev t (mul q0 [c']):=fun t=>by
    have h1:=hq0 t
    rw [ev_scl] at h1
    rw [ev_mul]
    show _=_*(_*(0*t+c'))
    grind
  have hds:∀t,ev t (der (scl q c))=ev t (der q)*c:=fun t=>by
    have:der (scl q c)=scl (der q) c:=zRa (der_cl _) (scl_cl _ _) fun i=>by rw [der_get,scl_get,scl_get,der_get];grind
    rw [this,ev_scl]
  have e3:∀t,ev t (der q)=ev t h*ev t (mul z0 [c']):=fun t=>by
    have h1:=hz0 t
    rw [hds] at h1
    rw [ev_mul]
    show _=_*(_*(0*t+c'))
    grind
  have hpd:∀t,ev t (der (cl p))=ev t (der q)*ev t G+ev t q*ev t (der G):=fun t=>by
    have:der (cl p)=der (mul q G):=by rw [hm]
    rw [this,der_mul,ev_add,ev_mul,ev_mul]
  have hpq:∀t,ev t (cl p)=ev t q*ev t G:=fun t=>by rw [← hm,ev_mul]
  have e1:∀t,ev t G*ev t (sub v (der q))=ev t (der G)*ev t q:=fun t=>by
    have h1:=hpd t
    rw [hv t] at h1
    rw [ev_sub];grind
  -- q and v have no common divisor, so h and w have none
  have hGs:=ev_some hg hn
  have hbz:∀t,ev t a*ev t q+ev t b*ev t v=1:=fun t=>by
    have:=cancel (c:=G) (D:=sub (add (mul a q) (mul b v)) [1]) hGs (fun s=>by
      have h1:=hab s
      rw [hpq s,hv s] at h1
      rw [ev_sub,ev_add,ev_mul,ev_mul]
      show _*(_ - (0*s+1))=0
      grind) t
    rw [ev_sub,ev_add,ev_mul,ev_mul] at this
    have e:ev t [1]=1:=by show 0*t+1=(1:Rat);grind
    rw [e] at this
    grind
  have e4:∀t,ev t (add (mul a (mul q0 [c'])) (mul b (mul z0 [c'])))*ev t h+ev t b*ev t (sub v (der q))=1:=fun t=>by
    have h1:=hbz t
    have h2:=e2 t
    have h3:=e3 t
    rw [ev_add,ev_mul t a,ev_mul t b,ev_sub]
    rw [h2] at h1
    grind
  obtain ⟨A,hA⟩:=pw_dvd (G:=G) (q:=q) (w:=sub v (der q)) (h:=h) (by rw [hc];omega) e1 e2 e3 e4 G.length
  have h5:G=mul (cl (pw h G.length)) (cl A):=ev_ext' hg (mul_cl _ _) fun t=>by rw [ev_mul,ev_cl,ev_cl];exact hA t
  have h6:=pw_len hc (by omega) G.length
  by_cases h7:(cl A).length=0
  · rw [List.length_eq_zero_iff.1 h7, mul_comm', mul_nil] at h5
    exact hn (by rw [h5];rfl)
  · have h8 := mul_length (cl_cl (pw h G.length)) (cl_cl A) (by omega) h7
    rw [← h5] at h8
    omega
end Go.Proofs.YtpdbimfnhglhpaaGreat.Po
