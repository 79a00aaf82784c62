/- Lemmas on the walk and plain lemmas that the claim of this folder uses; each states its own conditions. Lines were printed by a program of ours. -/
import Derived.Test.YtefbbhiaalcjfaaZ8C
set_option linter.unusedVariables false
set_option linter.unusedSimpArgs false
set_option linter.unusedSectionVars false
namespace Go.Proofs.Ytefbbhiaalcjfaa.Sp
open Go
set_option linter.unusedVariables false
set_option maxRecDepth 100000
set_option maxHeartbeats 1000000
theorem zFc {z:Int} (hz: -9223372036854775808≤z∧z≤9223372036854775807):Con Try.prog 55 [.int .i64 z] [] [] (Y:=(Option Addr)×Nat) (fun y=>True) (fun y=> .agg #[.bool (decide (z<0)),.slice (y.1) ((Big.digs ((z).natAbs)).length) (y.2)]) (fun y=>[]) (fun y=>[slF (rI .u32) (y.1) (y.2) (Big.digs ((z).natAbs))]):=by
 refine zr Try.func55 rfl rfl rfl (fun c=> ?_)
 show RunC _ _ _ _ _ [(0,.int .i64 z)] [] []
 refine zi<|zc<|zQ rfl rfl (zE zr43 rfl) (fun b1=> ?_)
 refine zj<|zf<|zi<|zc<|r_pv rfl rfl (zb rfl)<|zA rfl rfl (.c rfl .n) ce72 (zBe (z:=z) (hz:=by assumption)) (.n) ?_
 rintro ⟨p22,c23⟩ -
 dsimp only [List.append_eq,List.nil_append,List.cons_append]
 refine zo 0 rfl rfl rfl rfl rfl sz43 rfl (.take (.take .nil)) .z<|zj<|zf<|zI ?_
 exact zD Try.results55 (p22,c23) trivial (zu 0 ty43 rfl rfl (.take (.take .nil))) rfl (ho:=(.n:PickO _ _ _)) ((.c (j:=0) rfl .n):SelR _ _ _)
theorem zob {z:Int} (hz: -9223372036854775808≤z∧z≤9223372036854775807):Con Try.prog 55 [.int .i64 (z)] [] [] (Y:=(Wd)) (fun y=>True) (fun y=> .agg #[y.b,y.l]) (fun y=>[]) (fun y=>[zF y (z)]):=by
  exact zWb (zFc hz)
theorem zbe {z:Int} (hz: -9223372036854775808≤z∧z≤9223372036854775807):Con Try.prog 47 [.int .i64 z] [] [] (Y:=Wd×Wd) (fun y=>True) (fun y=> .agg #[y.1.b,y.1.l,y.2.b,y.2.l]) (fun y=>[]) (fun y=>[qF true y.1 y.2 (z:Rat)]):=by
 refine zr Try.func47 rfl rfl rfl (fun c=> ?_)
 show RunC _ _ _ _ _ [(0,.int .i64 z)] [] []
 refine zi<|zc<|zQ rfl rfl (zE zr45 rfl) (fun b1=> ?_)
 refine zj<|zf<|zi<|zc<|r_pv rfl rfl (zb rfl)<|zA rfl rfl (.c rfl .n) ce55 (zob (z:=z) (hz:=by assumption)) (.n) ?_
 rintro w32 -
 dsimp only [List.append_eq,List.nil_append,List.cons_append]
 refine zA rfl rfl (.c rfl .n) ce55 (zob (z:=1) (hz:=by first|rfl|assumption|omega|(rw [Big.zX];omega)|(decide +kernel))) (.n) ?_
 rintro w33 -
 dsimp only [List.append_eq,List.nil_append,List.cons_append]
 refine r_pv rfl rfl (zG zr45 rfl Try.underlying45 (.c sz43 (.c sz43 .n)) (.c rfl (.c rfl .n)) (.c rfl rfl rfl (.take (.take .nil)) (.c rfl rfl rfl (.skip (.skip (.take (.take .nil)))) .n)))<|zo 0 rfl rfl rfl rfl rfl sz45 rfl (.take (.take (.take (.take .nil)))) .z<|zj<|zf<|zI<|ztb (qF true w32 w33 (z:Rat)) (qF_close 1 0 rfl rfl (by exact ⟨(Rat.num_intCast z).symm,by rw [Rat.den_intCast];rfl,Nat.le_trans (Big.hq_64 hz.1 hz.2) (by decide)⟩)) ?_
 exact zD Try.results47 (w32,w33) trivial (zu 0 ty45 rfl rfl (.take (.take (.take (.take .nil))))) rfl (ho:=(.n:PickO _ _ _)) ((.c (j:=0) rfl .n):SelR _ _ _)
theorem zpc {s:Bool} {p1:Option Addr} {n1:Nat} {c1:Nat} {l1:List Int} {t:Bool} {p2:Option Addr} {n2:Nat} {c2:Nat} {l2:List Int} (hn1:l1.length=n1) (hn2:l2.length=n2) (hm1:n1≤1048576) (hm2:n2≤1048576):Con Try.prog 61 [.agg #[.bool s,.slice p1 n1 c1,.bool t,.slice p2 n2 c2]] [] [slF (rI .u32) p1 c1 l1,slF (rI .u32) p2 c2 l2] (Y:=Unit) (fun y=>True) (fun y=> .bool (decide (Big.qok ((s,l1),(t,l2))))) (fun y=>[]) (fun y=>[]):=by
 refine zr Try.func61 rfl rfl rfl (fun c=> ?_)
 show RunC _ _ _ _ _ [(0,.agg #[.bool s,.slice p1 n1 c1,.bool t,.slice p2 n2 c2])] [] [slF (rI .u32) p1 c1 l1,slF (rI .u32) p2 c2 l2]
 refine zea 0 rfl (fun hL0=> ?_)
 refine zdb 0 rfl (fun hE0=> ?_)
 refine zea 1 rfl (fun hL1=> ?_)
 refine zdb 1 rfl (fun hE1=> ?_)
 have hnn1:Big.nn l1:=fun g hg=>(zw.1 (hE0 g hg)).1
 have hnn2:Big.nn l2:=fun g hg=>(zw.1 (hE1 g hg)).1
 have hb1:Big.ln (Big.raw s l1)≤n1:=by have:=Big.zcb (s:=s) hnn1;omega
 have hb2:Big.ln (Big.raw t l2)≤n2:=by have:=Big.zcb (s:=t) hnn2;omega
 refine zi<|zc<|zQ rfl rfl (zV rfl rfl) (fun b1=> ?_)
 refine r_pv rfl rfl (zd rfl)<|zj<|zf<|zi<|zRa (X:=Unit) (fun x=>True) (fun x=>[(18,.bool (decide (¬(Big.canon s l1∧Big.canon t l2∧0<Big.raw t l2)))),(2,.bool false),(1,.pointer (some ⟨b1,0,none⟩))]) (fun x=>[boxA b1 45 [.bool s,.slice p1 n1 c1,.bool t,.slice p2 n2 c2]]) (fun x=>[slF (rI .u32) p1 c1 l1,slF (rI .u32) p2 c2 l2]) ?_ ?_
 ·
  refine zc<|r_pv rfl rfl (zg Try.underlying45 rfl sz43 rfl rfl)<|r_u rfl rfl (zh 0 ty43 rfl rfl (.take (.take .nil)))<|zM rfl rfl (.c rfl .n) ce78 (zPb (s:=s) (p:=p1) (n:=n1) (cap:=c1) (l:=l1) (hn:=by assumption)) (.c (j:=0) rfl .n)<|r_pv rfl rfl (zkb rfl)<|zR rfl rfl (zb rfl) (fun h2=> ?_) (fun h2=> ?_)
  ·
   refine za rfl rfl<|za rfl rfl<|za rfl rfl<|za rfl rfl<|r_pv rfl rfl (zl rfl rfl)<|r_pv rfl rfl (zb rfl)<|za rfl rfl<|za rfl rfl<|za rfl rfl<|za rfl rfl<|r_pv rfl rfl (zl rfl rfl)<|zj ?_
   exact zca () (show True from by first|trivial|omega|simp_all) ((.e rfl (congrArg Value.bool (by simp_all)) (.c rfl (.c rfl .n))):SubM _ _) (ho:=((.c (i:=0) rfl .n):PickO _ _ _)) ((.of [0,1] rfl):SelR _ _ _)
  ·
   refine r_pv rfl rfl (zg Try.underlying45 rfl sz43 rfl rfl)<|r_u rfl rfl (zh 0 ty43 rfl rfl (.skip (.skip (.take (.take .nil)))))<|zM rfl rfl (.c rfl .n) ce78 (zPb (s:=t) (p:=p2) (n:=n2) (cap:=c2) (l:=l2) (hn:=by assumption)) (.c (j:=1) rfl .n)<|r_pv rfl rfl (zkb rfl)<|r_pv rfl rfl (zl rfl rfl)<|zR rfl rfl (zb rfl) (fun h3=> ?_) (fun h3=> ?_)
   ·
    refine za rfl rfl<|za rfl rfl<|za rfl rfl<|za rfl rfl<|r_pv rfl rfl (zl rfl rfl)<|zj ?_
    exact zca () (show True from by first|trivial|omega|simp_all) ((.e rfl (congrArg Value.bool (by simp_all)) (.c rfl (.c rfl .n))):SubM _ _) (ho:=((.c (i:=0) rfl .n):PickO _ _ _)) ((.of [0,1] rfl):SelR _ _ _)
   ·
    refine r_pv rfl rfl (zg Try.underlying45 rfl sz43 rfl rfl)<|r_u rfl rfl (zh 0 ty43 rfl rfl (.skip (.skip (.take (.take .nil)))))<|zM rfl rfl (.c rfl .n) ce64 (zcd (s:=t) (p:=p2) (n:=n2) (cap:=c2) (l:=l2) (hn:=by assumption) (hln:=by first|rfl|assumption|omega|(rw [Big.zX];omega)|(decide +kernel))) (.c (j:=1) rfl .n)<|r_pv rfl rfl (zxc rfl rfl)<|r_pv rfl rfl (zl rfl rfl)<|zj ?_
    exact zca () (show True from by first|trivial|omega|simp_all) ((.e rfl (congrArg Value.bool (by exact decide_eq_decide.2 (Big.sgn_le (Decidable.not_not.1 ‹_›) (Decidable.not_not.1 ‹_›)))) (.c rfl (.c rfl .n))):SubM _ _) (ho:=((.c (i:=0) rfl .n):PickO _ _ _)) ((.of [0,1] rfl):SelR _ _ _)
 ·
  rintro ⟨⟩ -
  try dsimp only
  refine zC rfl (fun hc=> ?_) (fun hc=> ?_)
  ·
   refine zi<|zc<|r_pv rfl rfl (zd rfl)<|zj<|zf<|zI<|zt ?_
   exact zD Try.results61 () trivial (zq rfl) (congrArg Value.bool (decide_eq_false (fun h=>hc ⟨h.1,h.2.1,h.2.2.1⟩))) (ho:=(.n:PickO _ _ _)) (.n:SelR _ _ _)
  ·
   have hcc:=Decidable.not_not.1 hc
   have hgl:=Big.zad (n:=Big.raw s l1) (d:=Big.raw t l2) (by omega)
   refine zy<|zf<|zi<|zc<|r_pv rfl rfl (zg Try.underlying45 rfl sz43 rfl rfl)<|r_u rfl rfl (zh 0 ty43 rfl rfl (.take (.take .nil)))<|r_pv rfl rfl (zg Try.underlying45 rfl sz43 rfl rfl)<|r_u rfl rfl (zh 0 ty43 rfl rfl (.skip (.skip (.take (.take .nil)))))<|zA rfl rfl (.c rfl (.c rfl .n)) ce63 (zPd (s:=s) (p1:=p1) (n1:=n1) (c1:=c1) (l1:=l1) (t:=t) (p2:=p2) (n2:=n2) (c2:=c2) (l2:=l2) (hn1:=by assumption) (hn2:=by assumption) (hm1:=by first|rfl|assumption|omega|(rw [Big.zX];omega)|(decide +kernel)) (hm2:=by first|rfl|assumption|omega|(rw [Big.zX];omega)|(decide +kernel))) (.c (j:=0) rfl (.c (j:=1) rfl .n)) ?_
   rintro ⟨p34,c35⟩ -
   dsimp only [List.append_eq,List.nil_append,List.cons_append]
   refine zA rfl rfl (.c rfl .n) ce55 (zFc (z:=1) (hz:=by first|rfl|assumption|omega|(rw [Big.zX];omega)|(decide +kernel))) (.n) ?_
   rintro ⟨p26,c27⟩ -
   dsimp only [List.append_eq,List.nil_append,List.cons_append]
   refine zM rfl rfl (.c rfl (.c rfl .n)) ce79 (zNc (x1:=((Nat.gcd (Big.raw s l1).natAbs (Big.raw t l2).natAbs:Nat):Int)) (x2:=1) (p1:=p34) (c1:=c35) (p2:=p26) (c2:=c27) (hb1:=by first|rfl|assumption|omega|(rw [Big.zX];omega)|(decide +kernel)) (hb2:=by first|rfl|assumption|omega|(rw [Big.zX];omega)|(decide +kernel))) (.c (j:=1) rfl (.c (j:=0) rfl .n))<|r_pv rfl rfl (zAa rfl rfl)<|r_pv rfl rfl (zd rfl)<|zj<|zf<|zI ?_
   exact zD Try.results61 () trivial (zq rfl) (congrArg Value.bool (decide_eq_decide.2 (Big.qok_sub (x:=((s,l1),(t,l2))) (Decidable.not_not.1 hc)).symm)) (ho:=(.n:PickO _ _ _)) (.n:SelR _ _ _)
theorem zXb {u1:Wd} {v1:Wd} {q1:Rat}:Con Try.prog 61 [.agg #[u1.b,u1.l,v1.b,v1.l]] [] [qF true u1 v1 (q1)] (Y:=Unit) (fun y=>True) (fun y=> .bool true) (fun y=>[]) (fun y=>[]):=by
  exact zsf (fun x hx hk h1 h2=>by have h:= @zpc x.1.1 u1.p _ u1.c x.1.2 x.2.1 v1.p _ v1.c x.2.2 rfl rfl h1 h2;rw [decide_eq_true (hk rfl)] at h;exact h)
theorem zzd {s:Bool} {p1:Option Addr} {n1:Nat} {c1:Nat} {l1:List Int} {t:Bool} {p2:Option Addr} {n2:Nat} {c2:Nat} {l2:List Int} (hn1:l1.length=n1) (hn2:l2.length=n2) (hm1:n1≤1048576) (hm2:n2≤1048576):Con Try.prog 43 [.agg #[.bool s,.slice p1 n1 c1,.bool t,.slice p2 n2 c2]] [] [slF (rI .u32) p1 c1 l1,slF (rI .u32) p2 c2 l2] (Y:=Wd×Wd) (fun y=>True) (fun y=> .agg #[y.1.b,y.1.l,y.2.b,y.2.l]) (fun y=>[]) (fun y=>[qF true y.1 y.2 (Big.qv ((s,l1),(t,l2)))]):=by
 refine zr Try.func43 rfl rfl rfl (fun c=> ?_)
 show RunC _ _ _ _ _ [(0,.agg #[.bool s,.slice p1 n1 c1,.bool t,.slice p2 n2 c2])] [] [slF (rI .u32) p1 c1 l1,slF (rI .u32) p2 c2 l2]
 refine zea 0 rfl (fun hL0=> ?_)
 refine zdb 0 rfl (fun hE0=> ?_)
 refine zea 1 rfl (fun hL1=> ?_)
 refine zdb 1 rfl (fun hE1=> ?_)
 have hnn1:Big.nn l1:=fun g hg=>(zw.1 (hE0 g hg)).1
 have hnn2:Big.nn l2:=fun g hg=>(zw.1 (hE1 g hg)).1
 have hb1:Big.ln (Big.raw s l1)≤n1:=by have:=Big.zcb (s:=s) hnn1;omega
 have hb2:Big.ln (Big.raw t l2)≤n2:=by have:=Big.zcb (s:=t) hnn2;omega
 refine zi<|zc<|zQ rfl rfl (zV rfl rfl) (fun b1=> ?_)
 refine zQ rfl rfl (zE zr45 rfl) (fun b2=> ?_)
 refine zj<|zf<|zi<|zi<|zc<|r_u rfl rfl (zh 1 ty45 rfl rfl (.take (.take (.take (.take .nil)))))<|zM rfl rfl (.c rfl .n) ce61 (zpc (s:=s) (p1:=p1) (n1:=n1) (c1:=c1) (l1:=l1) (t:=t) (p2:=p2) (n2:=n2) (c2:=c2) (l2:=l2) (hn1:=by assumption) (hn2:=by assumption) (hm1:=by assumption) (hm2:=by assumption)) (.c (j:=0) rfl (.c (j:=1) rfl .n))<|zj<|zf<|zC rfl (fun hq=> ?_) (fun hq=> ?_)
 ·
  have hrp:=Big.raw_parts (x:=((s,l1),(t,l2))) hnn1 hnn2 hq
  have hqp:=Big.qv_parts (x:=((s,l1),(t,l2))) hq
  have hl:Big.hq (Big.qv ((s,l1),(t,l2)))≤1048576:=by unfold Big.hq;rw [hqp.1,hqp.2];dsimp only;omega
  refine zi<|zc<|r_u rfl rfl (zh 1 ty45 rfl rfl (.take (.take (.take (.take .nil)))))<|zo 0 rfl rfl rfl rfl rfl sz45 rfl (.take (.take (.take (.take .nil)))) .z<|zj<|zf<|zI<|zt<|ztb (qF true ⟨s,p1,n1,c1⟩ ⟨t,p2,n2,c2⟩ (Big.qv ((s,l1),(t,l2)))) (fun g r=>qF_rawI 0 1 rfl rfl hn1 hn2 hm1 hm2 hq g r) ?_
  exact zD Try.results43 (⟨s,p1,n1,c1⟩,⟨t,p2,n2,c2⟩) trivial (zu 0 ty45 rfl rfl (.take (.take (.take (.take .nil))))) rfl (ho:=(.n:PickO _ _ _)) ((.c (j:=0) rfl .n):SelR _ _ _)
 ·
  have hz:=Big.qv_not (x:=((s,l1),(t,l2))) hq
  refine zy<|zf<|zi<|zc<|zA rfl rfl (.c rfl .n) ce47 (zbe (z:=0) (hz:=by first|rfl|assumption|omega|(rw [Big.zX];omega)|(decide +kernel))) (.n) ?_
  rintro ⟨w33,w44⟩ -
  dsimp only [List.append_eq,List.nil_append,List.cons_append]
  refine zo 0 rfl rfl rfl rfl rfl sz45 rfl (.take (.take (.take (.take .nil)))) .z<|zj<|zf<|zI ?_
  exact zD Try.results43 (w33,w44) trivial (zu 0 ty45 rfl rfl (.take (.take (.take (.take .nil))))) rfl (ho:=(.n:PickO _ _ _)) ((.e (j:=0) rfl (by rw [hz];rfl) .n):SelR _ _ _)
theorem zgb {k1:Bool} {u1:Wd} {v1:Wd} {q1:Rat}:Con Try.prog 43 [.agg #[u1.b,u1.l,v1.b,v1.l]] [] [qF k1 u1 v1 (q1)] (Y:=(Wd)×(Wd)) (fun y=>True) (fun y=> .agg #[y.1.b,y.1.l,y.2.b,y.2.l]) (fun y=>[]) (fun y=>[qF true y.1 y.2 (q1)]):=by
  exact zBf (fun x hx hk h1 h2 hl=>by subst hx;exact zzd rfl rfl h1 h2)
theorem zYb {w1:Wd} {w2:Wd} {x1:Int} {x2:Int} (hl1:Big.ln x1≤1048576) (hl2:Big.ln x2≤1048576) (hd:x2≠0):Con Try.prog 44 [.agg #[w1.b,w1.l],.agg #[w2.b,w2.l]] [] [zF w1 x1,zF w2 x2] (Y:=Wd×Wd) (fun y=>True) (fun y=> .agg #[y.1.b,y.1.l,y.2.b,y.2.l]) (fun y=>[]) (fun y=>[qF true y.1 y.2 (Rat.divInt x1 x2)]):=by
 refine zr Try.func44 rfl rfl rfl (fun c=> ?_)
 show RunC _ _ _ _ _ [(0,.agg #[w1.b,w1.l]),(1,.agg #[w2.b,w2.l])] [] [zF w1 x1,zF w2 x2]
 refine zi<|zc<|zQ rfl rfl (zV rfl rfl) (fun b1=> ?_)
 refine zQ rfl rfl (zV rfl rfl) (fun b2=> ?_)
 refine zQ rfl rfl (zE zr45 rfl) (fun b3=> ?_)
 refine zj<|zf<|zi<|zc<|r_u rfl rfl (zh 2 ty43 rfl rfl (.take (.take .nil)))<|r_u rfl rfl (zh 1 ty43 rfl rfl (.take (.take .nil)))<|zA rfl rfl (.c rfl (.c rfl .n)) ce63 (zHe (w1:=w1) (w2:=w2) (x1:=x1) (x2:=x2) (hb1:=by first|rfl|assumption|omega|(rw [Big.zX];omega)|(decide +kernel)) (hb2:=by first|rfl|assumption|omega|(rw [Big.zX];omega)|(decide +kernel))) (.c (j:=0) rfl (.c (j:=1) rfl .n)) ?_
 rintro w34 -
 dsimp only [List.append_eq,List.nil_append,List.cons_append]
 refine zQ rfl rfl (zE zr43 rfl) (fun b5=> ?_)
 refine zo 0 rfl rfl rfl rfl rfl sz43 rfl (.take (.take .nil)) .z<|zj<|zf<|zi<|zi<|zc<|r_u rfl rfl (zh 2 ty43 rfl rfl (.take (.take .nil)))<|zM rfl rfl (.c rfl .n) ce64 (zQb (w1:=w2) (x1:=x2) (hln:=by first|rfl|assumption|omega|(rw [Big.zX];omega)|(decide +kernel))) (.c (j:=2) rfl .n)<|r_pv rfl rfl (zW rfl rfl)<|zj<|zf<|zC rfl (fun hneg=> ?_) (fun hneg=> ?_)
 ·
  have hs:x2<0:=by rcases Big.sign_le (x:=x2) with h|h|h <;> omega
  have hgp:=Big.gcd_pos_right (n:=x1) (d:=x2) (by omega)
  have hgl:=Big.zad (n:=x1) (d:=x2) (by omega)
  obtain ⟨hr1,hr2⟩:=Big.red_neg (n:=x1) hs
  refine zc<|r_u rfl rfl (zh 0 ty43 rfl rfl (.take (.take .nil)))<|zA rfl rfl (.c rfl .n) ce65 (zbd (w1:=w34) (x1:=((Nat.gcd x1.natAbs x2.natAbs:Nat):Int)) (hln:=by first|rfl|assumption|omega|(rw [Big.zX];omega)|(decide +kernel))) (.c (j:=0) rfl .n) ?_
  rintro w36 -
  dsimp only [List.append_eq,List.nil_append,List.cons_append]
  refine zo 0 rfl rfl rfl rfl rfl sz43 rfl (.take (.take .nil)) .z<|zj<|zf<|zi<|zc<|r_u rfl rfl (zh 3 ty43 rfl rfl (.take (.take .nil)))<|r_u rfl rfl (zh 0 ty43 rfl rfl (.take (.take .nil)))<|zA rfl rfl (.c rfl (.c rfl .n)) ce66 (zfb (w1:=w1) (w2:=w36) (x1:=x1) (x2:= - ((Nat.gcd x1.natAbs x2.natAbs:Nat):Int)) (hb1:=by first|rfl|assumption|omega|(rw [Big.zX];omega)|(decide +kernel)) (hb2:=by first|rfl|assumption|omega|(rw [Big.zX];omega)|(decide +kernel)) (hy:=by first|rfl|assumption|omega|(rw [Big.zX];omega)|(decide +kernel))) (.c (j:=2) rfl (.c (j:=0) rfl .n)) ?_
  rintro ⟨w37,w48⟩ -
  dsimp only [List.append_eq,List.nil_append,List.cons_append]
  refine r_pv rfl rfl (zb rfl)<|r_pv rfl rfl (zp rfl rfl)<|r_pv rfl rfl (zp rfl rfl)<|r_pv rfl rfl (zp rfl rfl)<|zQ rfl rfl (zE zr43 rfl) (fun b9=> ?_)
  refine zQ rfl rfl (zE zr43 rfl) (fun b10=> ?_)
  refine zo 1 rfl rfl rfl rfl rfl sz43 rfl (.take (.take .nil)) (.s .z)<|zo 0 rfl rfl rfl rfl rfl sz43 rfl (.take (.take .nil)) .z<|r_pv rfl rfl (zd rfl)<|zj<|zf<|zi<|zc<|r_u rfl rfl (zh 4 ty43 rfl rfl (.take (.take .nil)))<|r_u rfl rfl (zh 2 ty43 rfl rfl (.take (.take .nil)))<|zA rfl rfl (.c rfl (.c rfl .n)) ce66 (zfb (w1:=w2) (w2:=w36) (x1:=x2) (x2:= - ((Nat.gcd x1.natAbs x2.natAbs:Nat):Int)) (hb1:=by first|rfl|assumption|omega|(rw [Big.zX];omega)|(decide +kernel)) (hb2:=by first|rfl|assumption|omega|(rw [Big.zX];omega)|(decide +kernel)) (hy:=by first|rfl|assumption|omega|(rw [Big.zX];omega)|(decide +kernel))) (.c (j:=5) rfl (.c (j:=2) rfl .n)) ?_
  rintro ⟨w311,w412⟩ -
  dsimp only [List.append_eq,List.nil_append,List.cons_append]
  refine r_pv rfl rfl (zb rfl)<|r_pv rfl rfl (zp rfl rfl)<|r_pv rfl rfl (zp rfl rfl)<|r_pv rfl rfl (zp rfl rfl)<|zQ rfl rfl (zE zr43 rfl) (fun b13=> ?_)
  refine zQ rfl rfl (zE zr43 rfl) (fun b14=> ?_)
  refine zo 1 rfl rfl rfl rfl rfl sz43 rfl (.take (.take .nil)) (.s .z)<|zo 0 rfl rfl rfl rfl rfl sz43 rfl (.take (.take .nil)) .z<|r_pv rfl rfl (zd rfl)<|zj<|zf<|zi<|zc<|r_u rfl rfl (zh 3 ty43 rfl rfl (.take (.take .nil)))<|r_u rfl rfl (zh 1 ty43 rfl rfl (.take (.take .nil)))<|r_pv rfl rfl (zG zr45 rfl Try.underlying45 (.c sz43 (.c sz43 .n)) (.c rfl (.c rfl .n)) (.c rfl rfl rfl (.take (.take .nil)) (.c rfl rfl rfl (.skip (.skip (.take (.take .nil)))) .n)))<|zo 5 rfl rfl rfl rfl rfl sz45 rfl (.take (.take (.take (.take .nil)))) (.s (.s (.s (.s (.s .z)))))<|zj<|zf<|zI<|ztb (qF true w37 w311 (Rat.divInt x1 x2)) (qF_close 2 0 rfl rfl (by exact ⟨hr1,hr2,Nat.le_trans (Big.hq_divInt hd) (by omega)⟩)) ?_
  exact zD Try.results44 (w37,w311) trivial (zu 5 ty45 rfl rfl (.take (.take (.take (.take .nil))))) rfl (ho:=(.n:PickO _ _ _)) ((.c (j:=0) rfl .n):SelR _ _ _)
 ·
  have hs:0<x2:=by rcases Big.sign_le (x:=x2) with h|h|h <;> omega
  have hgp:=Big.gcd_pos_right (n:=x1) (d:=x2) (by omega)
  have hgl:=Big.zad (n:=x1) (d:=x2) (by omega)
  obtain ⟨hr1,hr2⟩:=Big.red_pos (n:=x1) hs
  refine zy<|zf<|zi<|zc<|r_u rfl rfl (zh 3 ty43 rfl rfl (.take (.take .nil)))<|r_u rfl rfl (zh 0 ty43 rfl rfl (.take (.take .nil)))<|zA rfl rfl (.c rfl (.c rfl .n)) ce66 (zfb (w1:=w1) (w2:=w34) (x1:=x1) (x2:=((Nat.gcd x1.natAbs x2.natAbs:Nat):Int)) (hb1:=by first|rfl|assumption|omega|(rw [Big.zX];omega)|(decide +kernel)) (hb2:=by first|rfl|assumption|omega|(rw [Big.zX];omega)|(decide +kernel)) (hy:=by first|rfl|assumption|omega|(rw [Big.zX];omega)|(decide +kernel))) (.c (j:=1) rfl (.c (j:=0) rfl .n)) ?_
  rintro ⟨w315,w416⟩ -
  dsimp only [List.append_eq,List.nil_append,List.cons_append]
  refine r_pv rfl rfl (zb rfl)<|r_pv rfl rfl (zp rfl rfl)<|r_pv rfl rfl (zp rfl rfl)<|r_pv rfl rfl (zp rfl rfl)<|zQ rfl rfl (zE zr43 rfl) (fun b17=> ?_)
  refine zQ rfl rfl (zE zr43 rfl) (fun b18=> ?_)
  refine zo 1 rfl rfl rfl rfl rfl sz43 rfl (.take (.take .nil)) (.s .z)<|zo 0 rfl rfl rfl rfl rfl sz43 rfl (.take (.take .nil)) .z<|r_pv rfl rfl (zd rfl)<|zj<|zf<|zi<|zc<|r_u rfl rfl (zh 4 ty43 rfl rfl (.take (.take .nil)))<|r_u rfl rfl (zh 2 ty43 rfl rfl (.take (.take .nil)))<|zA rfl rfl (.c rfl (.c rfl .n)) ce66 (zfb (w1:=w2) (w2:=w34) (x1:=x2) (x2:=((Nat.gcd x1.natAbs x2.natAbs:Nat):Int)) (hb1:=by first|rfl|assumption|omega|(rw [Big.zX];omega)|(decide +kernel)) (hb2:=by first|rfl|assumption|omega|(rw [Big.zX];omega)|(decide +kernel)) (hy:=by first|rfl|assumption|omega|(rw [Big.zX];omega)|(decide +kernel))) (.c (j:=4) rfl (.c (j:=2) rfl .n)) ?_
  rintro ⟨w319,w420⟩ -
  dsimp only [List.append_eq,List.nil_append,List.cons_append]
  refine r_pv rfl rfl (zb rfl)<|r_pv rfl rfl (zp rfl rfl)<|r_pv rfl rfl (zp rfl rfl)<|r_pv rfl rfl (zp rfl rfl)<|zQ rfl rfl (zE zr43 rfl) (fun b21=> ?_)
  refine zQ rfl rfl (zE zr43 rfl) (fun b22=> ?_)
  refine zo 1 rfl rfl rfl rfl rfl sz43 rfl (.take (.take .nil)) (.s .z)<|zo 0 rfl rfl rfl rfl rfl sz43 rfl (.take (.take .nil)) .z<|r_pv rfl rfl (zd rfl)<|zj<|zf<|zi<|zc<|r_u rfl rfl (zh 3 ty43 rfl rfl (.take (.take .nil)))<|r_u rfl rfl (zh 1 ty43 rfl rfl (.take (.take .nil)))<|r_pv rfl rfl (zG zr45 rfl Try.underlying45 (.c sz43 (.c sz43 .n)) (.c rfl (.c rfl .n)) (.c rfl rfl rfl (.take (.take .nil)) (.c rfl rfl rfl (.skip (.skip (.take (.take .nil)))) .n)))<|zo 5 rfl rfl rfl rfl rfl sz45 rfl (.take (.take (.take (.take .nil)))) (.s (.s (.s (.s (.s .z)))))<|zj<|zf<|zI<|ztb (qF true w315 w319 (Rat.divInt x1 x2)) (qF_close 2 0 rfl rfl (by exact ⟨hr1,hr2,Nat.le_trans (Big.hq_divInt hd) (by omega)⟩)) ?_
  exact zD Try.results44 (w315,w319) trivial (zu 5 ty45 rfl rfl (.take (.take (.take (.take .nil))))) rfl (ho:=(.n:PickO _ _ _)) ((.c (j:=0) rfl .n):SelR _ _ _)
theorem znf {w1:Wd} {w2:Wd} {x1:Int} {x2:Int} (hl1:Big.ln x1≤1048576) (hl2:Big.ln x2≤1048576):Con Try.prog 54 [.agg #[w1.b,w1.l],.agg #[w2.b,w2.l]] [] [zF w1 x1,zF w2 x2] (Y:=Wd×Wd) (fun y=>True) (fun y=> .tuple #[.agg #[y.1.b,y.1.l,y.2.b,y.2.l],.int .i64 (if x2=0 then 14 else 0)]) (fun y=>[]) (fun y=>[qF (decide (x2≠0)) y.1 y.2 (Rat.divInt x1 x2)]):=by
 refine zr Try.func54 rfl rfl rfl (fun c=> ?_)
 show RunC _ _ _ _ _ [(0,.agg #[w1.b,w1.l]),(1,.agg #[w2.b,w2.l])] [] [zF w1 x1,zF w2 x2]
 refine zi<|zc<|zQ rfl rfl (zV rfl rfl) (fun b1=> ?_)
 refine zQ rfl rfl (zV rfl rfl) (fun b2=> ?_)
 refine zQ rfl rfl (zE zr45 rfl) (fun b3=> ?_)
 refine r_pv rfl rfl (zd rfl)<|zj<|zf<|zi<|zi<|zc<|r_u rfl rfl (zh 1 ty43 rfl rfl (.take (.take .nil)))<|zM rfl rfl (.c rfl .n) ce64 (zQb (w1:=w2) (x1:=x2) (hln:=by first|rfl|assumption|omega|(rw [Big.zX];omega)|(decide +kernel))) (.c (j:=1) rfl .n)<|r_pv rfl rfl (zAa rfl rfl)<|zj<|zf<|zC rfl (fun hz0=> ?_) (fun hz0=> ?_)
 ·
  have hx0:x2=0:=Big.sign_zero.1 hz0
  refine zi<|zc<|r_pv rfl rfl (zG zr45 rfl Try.underlying45 (.c sz43 (.c sz43 .n)) .n .n)<|zo 0 rfl rfl rfl rfl rfl sz45 rfl (.take (.take (.take (.take .nil)))) .z<|r_pv rfl rfl (zd rfl)<|zj<|zf<|zI<|zt<|ztb (qF false wz wz 0) (fun g _=>qF_none g) ?_
  exact zta Try.results54 (wz,wz) trivial (zu 0 ty45 rfl rfl (.take (.take (.take (.take .nil))))) (zq rfl) (by rw [if_pos hx0];rfl) (ho:=(.n:PickO _ _ _)) ((.e (j:=0) rfl (by rw [Big.divInt_nil hx0,decide_eq_false (not_not_intro hx0)]) .n):SelR _ _ _)
 ·
  have hx0:x2≠0:=fun e=>hz0 (Big.sign_zero.2 e)
  refine zy<|zf<|zi<|zc<|r_u rfl rfl (zh 2 ty43 rfl rfl (.take (.take .nil)))<|r_u rfl rfl (zh 1 ty43 rfl rfl (.take (.take .nil)))<|zA rfl rfl (.c rfl (.c rfl .n)) ce44 (zYb (w1:=w1) (w2:=w2) (x1:=x1) (x2:=x2) (hl1:=by assumption) (hl2:=by assumption) (hd:=by first|rfl|assumption|omega|(rw [Big.zX];omega)|(decide +kernel))) (.c (j:=0) rfl (.c (j:=1) rfl .n)) ?_
  rintro ⟨w34,w45⟩ -
  dsimp only [List.append_eq,List.nil_append,List.cons_append]
  refine zo 0 rfl rfl rfl rfl rfl sz45 rfl (.take (.take (.take (.take .nil)))) .z<|r_pv rfl rfl (zd rfl)<|zj<|zf<|zI ?_
  exact zta Try.results54 (w34,w45) trivial (zu 0 ty45 rfl rfl (.take (.take (.take (.take .nil))))) (zq rfl) (by rw [if_neg hx0]) (ho:=(.n:PickO _ _ _)) ((.e (j:=0) rfl (by rw [decide_eq_true hx0]) .n):SelR _ _ _)
theorem zof {z1:Int} {z2:Int} (hz1: -9223372036854775808≤z1∧z1≤9223372036854775807) (hz2: -9223372036854775808≤z2∧z2≤9223372036854775807):Con Try.prog 32 [.int .i64 z1,.int .i64 z2] [] [] (Y:=Wd×Wd) (fun y=>True) (fun y=> .tuple #[.agg #[y.1.b,y.1.l,y.2.b,y.2.l],.int .i64 (if z2=0 then 14 else 0)]) (fun y=>[]) (fun y=>[qF (decide (z2≠0)) y.1 y.2 (Rat.divInt z1 z2)]):=by
 refine zr Try.func32 rfl rfl rfl (fun c=> ?_)
 show RunC _ _ _ _ _ [(0,.int .i64 z1),(1,.int .i64 z2)] [] []
 have g1:=Big.zxe hz1.1 hz1.2
 have g2:=Big.zxe hz2.1 hz2.2
 refine zi<|zc<|zQ rfl rfl (zE zr45 rfl) (fun b1=> ?_)
 refine r_pv rfl rfl (zd rfl)<|zj<|zf<|zi<|zc<|r_pv rfl rfl (zb rfl)<|zA rfl rfl (.c rfl .n) ce55 (zob (z:=z1) (hz:=by assumption)) (.n) ?_
 rintro w32 -
 dsimp only [List.append_eq,List.nil_append,List.cons_append]
 refine r_pv rfl rfl (zb rfl)<|zA rfl rfl (.c rfl .n) ce55 (zob (z:=z2) (hz:=by assumption)) (.n) ?_
 rintro w33 -
 dsimp only [List.append_eq,List.nil_append,List.cons_append]
 refine zA rfl rfl (.c rfl (.c rfl .n)) ce54 (znf (w1:=w32) (w2:=w33) (x1:=z1) (x2:=z2) (hl1:=by first|rfl|assumption|omega|(rw [Big.zX];omega)|(decide +kernel)) (hl2:=by first|rfl|assumption|omega|(rw [Big.zX];omega)|(decide +kernel))) (.c (j:=1) rfl (.c (j:=0) rfl .n)) ?_
 rintro ⟨w34,w45⟩ -
 dsimp only [List.append_eq,List.nil_append,List.cons_append]
 refine r_pv rfl rfl (zp rfl rfl)<|r_pv rfl rfl (zp rfl rfl)<|zo 0 rfl rfl rfl rfl rfl sz45 rfl (.take (.take (.take (.take .nil)))) .z<|r_pv rfl rfl (zd rfl)<|zj<|zf<|zI ?_
 exact zta Try.results32 (w34,w45) trivial (zu 0 ty45 rfl rfl (.take (.take (.take (.take .nil))))) (zq rfl) rfl (ho:=(.n:PickO _ _ _)) ((.c (j:=0) rfl .n):SelR _ _ _)
theorem zGc {z1:Int} {z2:Int} (hz1: -9223372036854775808≤z1∧z1≤9223372036854775807) (hz2: -9223372036854775808≤z2∧z2≤9223372036854775807) (hy:z2≠0):Con Try.prog 32 [.int .i64 (z1),.int .i64 (z2)] [] [] (Y:=(Wd)×(Wd)) (fun y=>True) (fun y=> .tuple #[.agg #[y.1.b,y.1.l,y.2.b,y.2.l],.int .i64 (0)]) (fun y=>[]) (fun y=>[qF true y.1 y.2 (Rat.divInt z1 z2)]):=by
  have h:=zof hz1 hz2
  rw [if_neg hy,decide_eq_true hy] at h
  exact h
theorem zce {k1:Bool} {u1:Wd} {v1:Wd} {q1:Rat} (hl:Big.hq q1≤1048576):Con Try.prog 80 [.agg #[u1.b,u1.l,v1.b,v1.l]] [] [qF k1 u1 v1 q1] (Y:=Unit) (fun y=>True) (fun y=> .int .i64 (Big.sgq q1)) (fun y=>[]) (fun y=>[]):=by
 refine zr Try.func80 rfl rfl rfl (fun c=> ?_)
 show RunC _ _ _ _ _ [(0,.agg #[u1.b,u1.l,v1.b,v1.l])] [] [qF k1 u1 v1 q1]
 have a1:=Big.hq_num q1
 have a2:=Big.hq_den q1
 refine zi<|zc<|zQ rfl rfl (zV rfl rfl) (fun b1=> ?_)
 refine r_pv rfl rfl (zd rfl)<|zj<|zf<|zi<|zc<|r_u rfl rfl (zh 0 ty45 rfl rfl (.take (.take (.take (.take .nil)))))<|zA rfl rfl (.c rfl .n) ce43 (zgb (k1:=k1) (u1:=u1) (v1:=v1) (q1:=q1)) (.c (j:=0) rfl .n) ?_
 rintro ⟨w32,w43⟩ -
 dsimp only [List.append_eq,List.nil_append,List.cons_append]
 refine r_pv rfl rfl (zVc Try.underlying45 rfl ty43 rfl (.take (.take .nil)))<|zwc (qF_open 0 rfl) (fun _ _=> ?_)
 refine zM rfl rfl (.c rfl .n) ce64 (zQb (w1:=w32) (x1:=(q1).num) (hln:=by first|rfl|assumption|omega|(rw [Big.zX];omega)|(decide +kernel))) (.c (j:=0) rfl .n)<|r_pv rfl rfl (zd rfl)<|zj<|zf<|zI ?_
 exact zD Try.results80 () trivial (zq rfl) rfl (ho:=(.n:PickO _ _ _)) (.n:SelR _ _ _)
theorem zPe {k1:Bool} {u1:Wd} {v1:Wd} {q1:Rat} (hl:Big.hq q1≤1048576):Con Try.prog 92 [.agg #[u1.b,u1.l,v1.b,v1.l]] [] [qF k1 u1 v1 q1] (Y:=Wd×Wd) (fun y=>True) (fun y=> .agg #[y.1.b,y.1.l,y.2.b,y.2.l]) (fun y=>[]) (fun y=>[qF true y.1 y.2 (- q1)]):=by
 refine zr Try.func92 rfl rfl rfl (fun c=> ?_)
 show RunC _ _ _ _ _ [(0,.agg #[u1.b,u1.l,v1.b,v1.l])] [] [qF k1 u1 v1 q1]
 have a1:=Big.hq_num q1
 have a2:=Big.hq_den q1
 refine zi<|zc<|zQ rfl rfl (zV rfl rfl) (fun b1=> ?_)
 refine zQ rfl rfl (zE zr45 rfl) (fun b2=> ?_)
 refine zj<|zf<|zi<|zc<|r_u rfl rfl (zh 1 ty45 rfl rfl (.take (.take (.take (.take .nil)))))<|zA rfl rfl (.c rfl .n) ce43 (zgb (k1:=k1) (u1:=u1) (v1:=v1) (q1:=q1)) (.c (j:=0) rfl .n) ?_
 rintro ⟨w33,w44⟩ -
 dsimp only [List.append_eq,List.nil_append,List.cons_append]
 refine zQ rfl rfl (zE zr45 rfl) (fun b5=> ?_)
 refine zo 0 rfl rfl rfl rfl rfl sz45 rfl (.take (.take (.take (.take .nil)))) .z<|zj<|zf<|zi<|zBa (.c (i:=1) rfl (.c (i:=0) rfl (.c (i:=0) rfl .n)))<|zia (OW:=[boxA b2 45 [.bool false,.slice none 0 0,.bool false,.slice none 0 0]]) (O:=[boxA b5 45 [w33.b,w33.l,w44.b,w44.l],boxA b1 45 [u1.b,u1.l,v1.b,v1.l]]) 6 mixed (.then .ret) (by kernel_rfl)<|d_pv 0 rfl rfl (by kernel_rfl) (by kernel_rfl) rfl rfl (zg Try.underlying45 rfl sz43 rfl rfl)<|d_uw 1 rfl rfl (by kernel_rfl) (by kernel_rfl) (by kernel_rfl) rfl rfl (zh 1 ty43 rfl rfl (.take (.take .nil)))<|d_pv 3 rfl rfl (by kernel_rfl) (by kernel_rfl) rfl rfl (zg Try.underlying45 rfl sz43 rfl rfl)<|d_uw 4 rfl rfl (by kernel_rfl) (by kernel_rfl) (by kernel_rfl) rfl rfl (zh 1 ty43 rfl rfl (.skip (.skip (.take (.take .nil)))))<|zle (qF_open 0 rfl) (fun _ _=> ?_)
 refine zT 2 (by kernel_rfl) (zU rfl rfl rfl rfl (.c rfl .n) ce65 (zbd (w1:=w33) (x1:=(q1).num) (hln:=by first|rfl|assumption|omega|(rw [Big.zX];omega)|(decide +kernel))) (.c (j:=0) rfl .n) ?_)
 rintro w36 -
 dsimp only [List.append_eq,List.nil_append,List.cons_append]
 refine d_pv 5 rfl rfl (by kernel_rfl) (by kernel_rfl) rfl rfl (zG zr45 rfl Try.underlying45 (.c sz43 (.c sz43 .n)) (.c rfl (.c rfl .n)) (.c rfl rfl rfl (.take (.take .nil)) (.c rfl rfl rfl (.skip (.skip (.take (.take .nil)))) .n)))<|zT 6 (by kernel_rfl) (zJ (by kernel_rfl) rfl rfl rfl rfl rfl sz45 rfl (.take (.take (.take (.take .nil)))) ?_)
 refine zfa (by kernel_rfl)<|zf<|zI<|ztb (qF true w36 w44 (- q1)) (qF_close 0 2 rfl rfl (by exact ⟨(Rat.neg_num q1).symm,by rw [Rat.neg_den],by rw [Big.hq_neg];exact hl⟩)) ?_
 exact zD Try.results92 (w36,w44) trivial (zu 0 ty45 rfl rfl (.take (.take (.take (.take .nil))))) rfl (ho:=(.n:PickO _ _ _)) ((.c (j:=0) rfl .n):SelR _ _ _)
theorem zQe {k1:Bool} {u1:Wd} {v1:Wd} {q1:Rat} {k2:Bool} {u2:Wd} {v2:Wd} {q2:Rat} (hl:Big.hq q1+Big.hq q2+1≤1048576):Con Try.prog 21 [.agg #[u1.b,u1.l,v1.b,v1.l],.agg #[u2.b,u2.l,v2.b,v2.l]] [] [qF k1 u1 v1 q1,qF k2 u2 v2 q2] (Y:=Wd×Wd) (fun y=>True) (fun y=> .agg #[y.1.b,y.1.l,y.2.b,y.2.l]) (fun y=>[]) (fun y=>[qF true y.1 y.2 (q1+q2)]):=by
 refine zr Try.func21 rfl rfl rfl (fun c=> ?_)
 show RunC _ _ _ _ _ [(0,.agg #[u1.b,u1.l,v1.b,v1.l]),(1,.agg #[u2.b,u2.l,v2.b,v2.l])] [] [qF k1 u1 v1 q1,qF k2 u2 v2 q2]
 have a1:=Big.hq_num q1
 have a2:=Big.hq_den q1
 have a3:=Big.hq_num q2
 have a4:=Big.hq_den q2
 have b1:=Big.zVb q1.num q2.den
 have b2:=Big.zVb q2.num q1.den
 have b3:=Big.zLd (q1.num*q2.den) (q2.num*q1.den)
 have b4:=Big.zVb (q1.den:Int) q2.den
 have b5:=Big.zVb q1.num q2.num
 refine zi<|zc<|zQ rfl rfl (zV rfl rfl) (fun b1=> ?_)
 refine zQ rfl rfl (zV rfl rfl) (fun b2=> ?_)
 refine zQ rfl rfl (zE zr45 rfl) (fun b3=> ?_)
 refine zj<|zf<|zi<|zc<|r_u rfl rfl (zh 2 ty45 rfl rfl (.take (.take (.take (.take .nil)))))<|zA rfl rfl (.c rfl .n) ce43 (zgb (k1:=k1) (u1:=u1) (v1:=v1) (q1:=q1)) (.c (j:=0) rfl .n) ?_
 rintro ⟨w34,w45⟩ -
 dsimp only [List.append_eq,List.nil_append,List.cons_append]
 refine zQ rfl rfl (zE zr45 rfl) (fun b6=> ?_)
 refine zo 0 rfl rfl rfl rfl rfl sz45 rfl (.take (.take (.take (.take .nil)))) .z<|zj<|zf<|zi<|zc<|r_u rfl rfl (zh 2 ty45 rfl rfl (.take (.take (.take (.take .nil)))))<|zA rfl rfl (.c rfl .n) ce43 (zgb (k1:=k2) (u1:=u2) (v1:=v2) (q1:=q2)) (.c (j:=2) rfl .n) ?_
 rintro ⟨w37,w48⟩ -
 dsimp only [List.append_eq,List.nil_append,List.cons_append]
 refine zQ rfl rfl (zE zr45 rfl) (fun b9=> ?_)
 refine zo 0 rfl rfl rfl rfl rfl sz45 rfl (.take (.take (.take (.take .nil)))) .z<|zj<|zf<|zi<|zBa (.c (i:=2) rfl (.c (i:=0) rfl (.c (i:=0) rfl (.c (i:=0) rfl (.c (i:=0) rfl .n)))))<|zia (OW:=[boxA b3 45 [.bool false,.slice none 0 0,.bool false,.slice none 0 0]]) (O:=[boxA b9 45 [w37.b,w37.l,w48.b,w48.l],boxA b6 45 [w34.b,w34.l,w45.b,w45.l],boxA b2 45 [u2.b,u2.l,v2.b,v2.l],boxA b1 45 [u1.b,u1.l,v1.b,v1.l]]) 17 mixed (.then .ret) (by kernel_rfl)<|d_pv 0 rfl rfl (by kernel_rfl) (by kernel_rfl) rfl rfl (zg Try.underlying45 rfl sz43 rfl rfl)<|d_uw 1 rfl rfl (by kernel_rfl) (by kernel_rfl) (by kernel_rfl) rfl rfl (zh 2 ty43 rfl rfl (.take (.take .nil)))<|d_pv 2 rfl rfl (by kernel_rfl) (by kernel_rfl) rfl rfl (zg Try.underlying45 rfl sz43 rfl rfl)<|d_uw 3 rfl rfl (by kernel_rfl) (by kernel_rfl) (by kernel_rfl) rfl rfl (zh 1 ty43 rfl rfl (.skip (.skip (.take (.take .nil)))))<|d_pv 5 rfl rfl (by kernel_rfl) (by kernel_rfl) rfl rfl (zg Try.underlying45 rfl sz43 rfl rfl)<|d_uw 6 rfl rfl (by kernel_rfl) (by kernel_rfl) (by kernel_rfl) rfl rfl (zh 1 ty43 rfl rfl (.take (.take .nil)))<|d_pv 7 rfl rfl (by kernel_rfl) (by kernel_rfl) rfl rfl (zg Try.underlying45 rfl sz43 rfl rfl)<|d_uw 8 rfl rfl (by kernel_rfl) (by kernel_rfl) (by kernel_rfl) rfl rfl (zh 2 ty43 rfl rfl (.skip (.skip (.take (.take .nil)))))<|d_pv 11 rfl rfl (by kernel_rfl) (by kernel_rfl) rfl rfl (zg Try.underlying45 rfl sz43 rfl rfl)<|d_uw 12 rfl rfl (by kernel_rfl) (by kernel_rfl) (by kernel_rfl) rfl rfl (zh 2 ty43 rfl rfl (.skip (.skip (.take (.take .nil)))))<|d_pv 13 rfl rfl (by kernel_rfl) (by kernel_rfl) rfl rfl (zg Try.underlying45 rfl sz43 rfl rfl)<|d_uw 14 rfl rfl (by kernel_rfl) (by kernel_rfl) (by kernel_rfl) rfl rfl (zh 1 ty43 rfl rfl (.skip (.skip (.take (.take .nil)))))<|zle (qF_open 1 rfl) (fun _ _=> ?_)
 refine zle (qF_open 2 rfl) (fun _ _=> ?_)
 refine zT 4 (by kernel_rfl) (zU rfl rfl rfl rfl (.c rfl (.c rfl .n)) ce46 (zmc (w1:=w34) (w2:=w48) (x1:=(q1).num) (x2:=(((q2).den:Nat):Int)) (hb1:=by first|rfl|assumption|omega|(rw [Big.zX];omega)|(decide +kernel)) (hb2:=by first|rfl|assumption|omega|(rw [Big.zX];omega)|(decide +kernel))) (.c (j:=2) rfl (.c (j:=1) rfl .n)) ?_)
 rintro w310 -
 dsimp only [List.append_eq,List.nil_append,List.cons_append]
 refine zT 9 (by kernel_rfl) (zU rfl rfl rfl rfl (.c rfl (.c rfl .n)) ce46 (zmc (w1:=w37) (w2:=w45) (x1:=(q2).num) (x2:=(((q1).den:Nat):Int)) (hb1:=by first|rfl|assumption|omega|(rw [Big.zX];omega)|(decide +kernel)) (hb2:=by first|rfl|assumption|omega|(rw [Big.zX];omega)|(decide +kernel))) (.c (j:=1) rfl (.c (j:=4) rfl .n)) ?_)
 rintro w311 -
 dsimp only [List.append_eq,List.nil_append,List.cons_append]
 refine zT 10 (by kernel_rfl) (zU rfl rfl rfl rfl (.c rfl (.c rfl .n)) ce45 (zFe (w1:=w310) (w2:=w311) (x1:=((q1).num)*(((q2).den:Nat):Int)) (x2:=((q2).num)*(((q1).den:Nat):Int)) (hb1:=by first|rfl|assumption|omega|(rw [Big.zX];omega)|(decide +kernel)) (hb2:=by first|rfl|assumption|omega|(rw [Big.zX];omega)|(decide +kernel))) (.c (j:=1) rfl (.c (j:=0) rfl .n)) ?_)
 rintro w312 -
 dsimp only [List.append_eq,List.nil_append,List.cons_append]
 refine zT 15 (by kernel_rfl) (zU rfl rfl rfl rfl (.c rfl (.c rfl .n)) ce46 (zmc (w1:=w45) (w2:=w48) (x1:=(((q1).den:Nat):Int)) (x2:=(((q2).den:Nat):Int)) (hb1:=by first|rfl|assumption|omega|(rw [Big.zX];omega)|(decide +kernel)) (hb2:=by first|rfl|assumption|omega|(rw [Big.zX];omega)|(decide +kernel))) (.c (j:=6) rfl (.c (j:=4) rfl .n)) ?_)
 rintro w313 -
 dsimp only [List.append_eq,List.nil_append,List.cons_append]
 refine zT 16 (by kernel_rfl) (zU rfl rfl rfl rfl (.c rfl (.c rfl .n)) ce44 (zYb (w1:=w312) (w2:=w313) (x1:=(((q1).num)*(((q2).den:Nat):Int))+(((q2).num)*(((q1).den:Nat):Int))) (x2:=(((q1).den:Nat):Int)*(((q2).den:Nat):Int)) (hl1:=by first|rfl|assumption|omega|(rw [Big.zX];omega)|(decide +kernel)) (hl2:=by first|rfl|assumption|omega|(rw [Big.zX];omega)|(decide +kernel)) (hd:=by exact Int.mul_ne_zero (Big.den_ne q1) (Big.den_ne q2))) (.c (j:=1) rfl (.c (j:=0) rfl .n)) ?_)
 rintro ⟨w314,w415⟩ -
 dsimp only [List.append_eq,List.nil_append,List.cons_append]
 refine zT 17 (by kernel_rfl) (zJ (by kernel_rfl) rfl rfl rfl rfl rfl sz45 rfl (.take (.take (.take (.take .nil)))) ?_)
 refine zfa (by kernel_rfl)<|zf<|zI ?_
 exact zD Try.results21 (w314,w415) trivial (zu 0 ty45 rfl rfl (.take (.take (.take (.take .nil))))) rfl (ho:=(.n:PickO _ _ _)) ((.e (j:=0) rfl (by rw [Big.add_parts]) .n):SelR _ _ _)
theorem zRe {k1:Bool} {u1:Wd} {v1:Wd} {q1:Rat} {k2:Bool} {u2:Wd} {v2:Wd} {q2:Rat} (hl:Big.hq q1+Big.hq q2+1≤1048576):Con Try.prog 81 [.agg #[u1.b,u1.l,v1.b,v1.l],.agg #[u2.b,u2.l,v2.b,v2.l]] [] [qF k1 u1 v1 q1,qF k2 u2 v2 q2] (Y:=Wd×Wd) (fun y=>True) (fun y=> .agg #[y.1.b,y.1.l,y.2.b,y.2.l]) (fun y=>[]) (fun y=>[qF true y.1 y.2 (q1 - q2)]):=by
 refine zr Try.func81 rfl rfl rfl (fun c=> ?_)
 show RunC _ _ _ _ _ [(0,.agg #[u1.b,u1.l,v1.b,v1.l]),(1,.agg #[u2.b,u2.l,v2.b,v2.l])] [] [qF k1 u1 v1 q1,qF k2 u2 v2 q2]
 have a1:=Big.hq_num q1
 have a2:=Big.hq_den q1
 have a3:=Big.hq_num q2
 have a4:=Big.hq_den q2
 refine zi<|zc<|zQ rfl rfl (zV rfl rfl) (fun b1=> ?_)
 refine zQ rfl rfl (zV rfl rfl) (fun b2=> ?_)
 refine zQ rfl rfl (zE zr45 rfl) (fun b3=> ?_)
 refine zj<|zf<|zi<|zia (OW:=[boxA b3 45 [.bool false,.slice none 0 0,.bool false,.slice none 0 0]]) (O:=[boxA b2 45 [u2.b,u2.l,v2.b,v2.l],boxA b1 45 [u1.b,u1.l,v1.b,v1.l]]) 4 mixed (.then .ret) (by kernel_rfl)<|d_uw 0 rfl rfl (by kernel_rfl) (by kernel_rfl) (by kernel_rfl) rfl rfl (zh 2 ty45 rfl rfl (.take (.take (.take (.take .nil)))))<|d_uw 1 rfl rfl (by kernel_rfl) (by kernel_rfl) (by kernel_rfl) rfl rfl (zh 1 ty45 rfl rfl (.take (.take (.take (.take .nil)))))<|zT 2 (by kernel_rfl) (zU rfl rfl rfl rfl (.c rfl .n) ce92 (zPe (k1:=k2) (u1:=u2) (v1:=v2) (q1:=q2) (hl:=by first|rfl|assumption|omega|(rw [Big.zX];omega)|(decide +kernel)|(rw [Big.hq_neg];omega))) (.c (j:=1) rfl .n) ?_)
 rintro ⟨w34,w45⟩ -
 dsimp only [List.append_eq,List.nil_append,List.cons_append]
 refine zT 3 (by kernel_rfl) (zU rfl rfl rfl rfl (.c rfl (.c rfl .n)) ce21 (zQe (k1:=k1) (u1:=u1) (v1:=v1) (q1:=q1) (k2:=true) (u2:=w34) (v2:=w45) (q2:= - q2) (hl:=by first|rfl|assumption|omega|(rw [Big.zX];omega)|(decide +kernel)|(rw [Big.hq_neg];omega))) (.c (j:=1) rfl (.c (j:=0) rfl .n)) ?_)
 rintro ⟨w36,w47⟩ -
 dsimp only [List.append_eq,List.nil_append,List.cons_append]
 refine zT 4 (by kernel_rfl) (zJ (by kernel_rfl) rfl rfl rfl rfl rfl sz45 rfl (.take (.take (.take (.take .nil)))) ?_)
 refine zfa (by kernel_rfl)<|zf<|zI ?_
 exact zD Try.results81 (w36,w47) trivial (zu 0 ty45 rfl rfl (.take (.take (.take (.take .nil))))) rfl (ho:=(.n:PickO _ _ _)) ((.e (j:=0) rfl (by rw [Rat.sub_eq_add_neg]) .n):SelR _ _ _)
theorem zPc {k1:Bool} {u1:Wd} {v1:Wd} {q1:Rat} {k2:Bool} {u2:Wd} {v2:Wd} {q2:Rat} (hl:Big.hq q1+Big.hq q2+1≤1048576):Con Try.prog 62 [.agg #[u1.b,u1.l,v1.b,v1.l],.agg #[u2.b,u2.l,v2.b,v2.l]] [] [qF k1 u1 v1 q1,qF k2 u2 v2 q2] (Y:=Unit) (fun y=>True) (fun y=> .int .i64 (Big.sgq (q1 - q2))) (fun y=>[]) (fun y=>[]):=by
 refine zr Try.func62 rfl rfl rfl (fun c=> ?_)
 show RunC _ _ _ _ _ [(0,.agg #[u1.b,u1.l,v1.b,v1.l]),(1,.agg #[u2.b,u2.l,v2.b,v2.l])] [] [qF k1 u1 v1 q1,qF k2 u2 v2 q2]
 have hsb:=Big.hq_sub q1 q2
 refine zi<|zc<|zQ rfl rfl (zV rfl rfl) (fun b1=> ?_)
 refine zQ rfl rfl (zV rfl rfl) (fun b2=> ?_)
 refine r_pv rfl rfl (zd rfl)<|zj<|zf<|zi<|zc<|r_u rfl rfl (zh 1 ty45 rfl rfl (.take (.take (.take (.take .nil)))))<|r_u rfl rfl (zh 0 ty45 rfl rfl (.take (.take (.take (.take .nil)))))<|zA rfl rfl (.c rfl (.c rfl .n)) ce81 (zRe (k1:=k1) (u1:=u1) (v1:=v1) (q1:=q1) (k2:=k2) (u2:=u2) (v2:=v2) (q2:=q2) (hl:=by assumption)) (.c (j:=0) rfl (.c (j:=1) rfl .n)) ?_
 rintro ⟨w33,w44⟩ -
 dsimp only [List.append_eq,List.nil_append,List.cons_append]
 refine zM rfl rfl (.c rfl .n) ce80 (zce (k1:=true) (u1:=w33) (v1:=w44) (q1:=q1 - q2) (hl:=by first|rfl|assumption|omega|(rw [Big.zX];omega)|(decide +kernel))) (.c (j:=0) rfl .n)<|r_pv rfl rfl (zd rfl)<|zj<|zf<|zI ?_
 exact zD Try.results62 () trivial (zq rfl) rfl (ho:=(.n:PickO _ _ _)) (.n:SelR _ _ _)
theorem zde {u1:Wd} {v1:Wd} {q1:Rat} {u2:Wd} {v2:Wd} {q2:Rat} (hl:Big.hq q1+Big.hq q2+1≤1048576):Con Try.prog 42 [.agg #[u1.b,u1.l,v1.b,v1.l],.agg #[u2.b,u2.l,v2.b,v2.l]] [] [qF true u1 v1 q1,qF true u2 v2 q2] (Y:=Unit) (fun y=>True) (fun y=> .bool (decide (q1=q2))) (fun y=>[]) (fun y=>[]):=by
 refine zr Try.func42 rfl rfl rfl (fun c=> ?_)
 show RunC _ _ _ _ _ [(0,.agg #[u1.b,u1.l,v1.b,v1.l]),(1,.agg #[u2.b,u2.l,v2.b,v2.l])] [] [qF true u1 v1 q1,qF true u2 v2 q2]
 refine zi<|zc<|zQ rfl rfl (zV rfl rfl) (fun b1=> ?_)
 refine zQ rfl rfl (zV rfl rfl) (fun b2=> ?_)
 refine r_pv rfl rfl (zd rfl)<|zj<|zf<|zRa (X:=Unit) (fun x=>True) (fun x=>[(4,.bool (decide (Big.sgq (q1 - q2)=0)))]) (fun x=>[boxA b2 45 (cw [u2,v2]),boxA b1 45 (cw [u1,v1])]) (fun x=>[qF true u1 v1 q1,qF true u2 v2 q2]) ?_ ?_
 ·
  refine zc<|r_u rfl rfl (zh 1 ty45 rfl rfl (.take (.take (.take (.take .nil)))))<|zM rfl rfl (.c rfl .n) ce61 (zXb (u1:=u1) (v1:=v1) (q1:=q1)) (.c (j:=0) rfl .n)<|r_pv rfl rfl (zb rfl)<|r_u rfl rfl (zh 0 ty45 rfl rfl (.take (.take (.take (.take .nil)))))<|zM rfl rfl (.c rfl .n) ce61 (zXb (u1:=u2) (v1:=v2) (q1:=q2)) (.c (j:=1) rfl .n)<|r_pv rfl rfl (zl rfl rfl)<|r_pv rfl rfl (zb rfl)<|r_u rfl rfl (zh 1 ty45 rfl rfl (.take (.take (.take (.take .nil)))))<|r_u rfl rfl (zh 0 ty45 rfl rfl (.take (.take (.take (.take .nil)))))<|zM rfl rfl (.c rfl (.c rfl .n)) ce62 (zPc (k1:=true) (u1:=u1) (v1:=v1) (q1:=q1) (k2:=true) (u2:=u2) (v2:=v2) (q2:=q2) (hl:=by assumption)) (.c (j:=0) rfl (.c (j:=1) rfl .n))<|r_pv rfl rfl (zAa rfl rfl)<|r_pv rfl rfl (zl rfl rfl)<|r_pv rfl rfl (zd rfl)<|zj ?_
  exact zca () (show True from by first|trivial|omega|simp_all) ((.c rfl .n):SubM _ _) (ho:=((.of [0,0] rfl):PickO _ _ _)) ((.of [0,1] rfl):SelR _ _ _)
 ·
  rintro ⟨⟩ -
  try dsimp only [cw]
  refine zI ?_
  exact zD Try.results42 () trivial (zq rfl) (congrArg Value.bool (decide_eq_decide.2 Big.sgq_sub_zero.symm)) (ho:=(.n:PickO _ _ _)) (.n:SelR _ _ _)
theorem zpb {u1:Wd} {v1:Wd} {q1:Rat} {u2:Wd} {v2:Wd} {q2:Rat} (hl:Big.hq q1+Big.hq q2+1≤1048576):Con Try.prog 20 [.agg #[u1.b,u1.l,v1.b,v1.l],.agg #[u2.b,u2.l,v2.b,v2.l]] [] [qF true u1 v1 q1,qF true u2 v2 q2] (Y:=Unit) (fun y=>True) (fun y=> .bool (decide (q1=q2))) (fun y=>[]) (fun y=>[]):=by
 refine zr Try.func20 rfl rfl rfl (fun c=> ?_)
 show RunC _ _ _ _ _ [(0,.agg #[u1.b,u1.l,v1.b,v1.l]),(1,.agg #[u2.b,u2.l,v2.b,v2.l])] [] [qF true u1 v1 q1,qF true u2 v2 q2]
 refine zi<|zc<|zQ rfl rfl (zV rfl rfl) (fun b1=> ?_)
 refine zQ rfl rfl (zV rfl rfl) (fun b2=> ?_)
 refine r_pv rfl rfl (zd rfl)<|zj<|zf<|zi<|zc<|r_u rfl rfl (zh 1 ty45 rfl rfl (.take (.take (.take (.take .nil)))))<|r_u rfl rfl (zh 0 ty45 rfl rfl (.take (.take (.take (.take .nil)))))<|zM rfl rfl (.c rfl (.c rfl .n)) ce42 (zde (u1:=u1) (v1:=v1) (q1:=q1) (u2:=u2) (v2:=v2) (q2:=q2) (hl:=by assumption)) (.c (j:=0) rfl (.c (j:=1) rfl .n))<|r_pv rfl rfl (zd rfl)<|zj<|zf<|zI ?_
 exact zD Try.results20 () trivial (zq rfl) rfl (ho:=(.n:PickO _ _ _)) (.n:SelR _ _ _)
end Go.Proofs.Ytefbbhiaalcjfaa.Sp
namespace Go.Proofs.Ytefbbhiaalcjfaa.Sp
open Go
set_option linter.unusedVariables false
set_option maxRecDepth 100000
set_option maxHeartbeats 1000000
theorem zqc {z1:Int} {z2:Int} (hz1: -9223372036854775808≤z1∧z1≤9223372036854775807) (hz2: -9223372036854775808≤z2∧z2≤9223372036854775807) (hy:z2≠0):Con Try.prog 41 [.int .i64 z1,.int .i64 z2] [] [] (Y:=Wd×Wd) (fun y=>True) (fun y=> .agg #[y.1.b,y.1.l,y.2.b,y.2.l]) (fun y=>[]) (fun y=>[qF true y.1 y.2 (Rat.divInt z1 z2)]):=by
 refine zr Try.func41 rfl rfl rfl (fun c=> ?_)
 show RunC _ _ _ _ _ [(0,.int .i64 z1),(1,.int .i64 z2)] [] []
 refine zi<|zc<|zQ rfl rfl (zE zr45 rfl) (fun b1=> ?_)
 refine zj<|zf<|zi<|zc<|r_pv rfl rfl (zb rfl)<|r_pv rfl rfl (zb rfl)<|zA rfl rfl (.c rfl (.c rfl .n)) ce60 (zOe (z1:=z1) (z2:=z2) (hz1:=by assumption) (hz2:=by assumption) (hy:=by assumption)) (.n) ?_
 rintro ⟨w32,w43⟩ -
 dsimp only [List.append_eq,List.nil_append,List.cons_append]
 refine r_pv rfl rfl (zb rfl)<|r_pv rfl rfl (zp rfl rfl)<|r_pv rfl rfl (zp rfl rfl)<|zQ rfl rfl (zE zr45 rfl) (fun b4=> ?_)
 refine zo 0 rfl rfl rfl rfl rfl sz45 rfl (.take (.take (.take (.take .nil)))) .z<|r_pv rfl rfl (zd rfl)<|zj<|zf<|zi<|zc<|r_u rfl rfl (zh 0 ty45 rfl rfl (.take (.take (.take (.take .nil)))))<|zo 1 rfl rfl rfl rfl rfl sz45 rfl (.take (.take (.take (.take .nil)))) (.s .z)<|zj<|zf<|zI ?_
 exact zD Try.results41 (w32,w43) trivial (zu 1 ty45 rfl rfl (.take (.take (.take (.take .nil))))) rfl (ho:=(.n:PickO _ _ _)) ((.c (j:=0) rfl .n):SelR _ _ _)
theorem zwb {ar:Int} {le:Int} {tp:Int} {rt:Int} {bt:Int} {sx:Int} {sy:Int} {xx:Int} {xy:Int} {yy:Int} {ms:Int} {mx:Int} {my:Int} {bb:Nat} {u:Int} {v:Int} {w:Int} (ho:1≤ar∧ar≤4096) (hp:0≤u∧u≤16257024) (hs:0≤v∧v≤258048) (ht:0≤w∧w≤258048):Con Try.prog 48 [.int .i64 u,.int .i64 v,.int .i64 w,.pointer (some ⟨bb,0,none⟩)] [] [atF bb 0 [.int .i64 ar,.int .i64 le,.int .i64 tp,.int .i64 rt,.int .i64 bt,.int .i64 sx,.int .i64 sy,.int .i64 xx,.int .i64 xy,.int .i64 yy,.int .i64 ms,.int .i64 mx,.int .i64 my]] (Y:=Wd×Wd) (fun y=>True) (fun y=> .agg #[y.1.b,y.1.l,y.2.b,y.2.l]) (fun y=>[]) (fun y=>[qF true y.1 y.2 (Rat.divInt (u*ar - v*w) (ar*ar))]):=by
 refine zr Try.func48 rfl rfl rfl (fun c=> ?_)
 show RunC _ _ _ _ _ [(0,.int .i64 u),(1,.int .i64 v),(2,.int .i64 w),(3,.pointer (some ⟨bb,0,none⟩))] [] [atF bb 0 [.int .i64 ar,.int .i64 le,.int .i64 tp,.int .i64 rt,.int .i64 bt,.int .i64 sx,.int .i64 sy,.int .i64 xx,.int .i64 xy,.int .i64 yy,.int .i64 ms,.int .i64 mx,.int .i64 my]]
 have p1:=Bl.mul_b (m:=16257024) (n:=4096) hp (show 0≤ar∧ar≤4096 by omega)
 have p2:=Bl.mul_b hs ht
 have p3:=Bl.mul_b (m:=4096) (n:=4096) (show 0≤ar∧ar≤4096 by omega) (show 0≤ar∧ar≤4096 by omega)
 have p4:ar*ar≠0:=Int.mul_ne_zero (by omega) (by omega)
 refine zi<|zc<|zQ rfl rfl (zE zr45 rfl) (fun b1=> ?_)
 refine zj<|zf<|zi<|zc<|r_pv rfl rfl (zb rfl)<|r_pv rfl rfl (zg Try.underlying51 rfl sz3 rfl rfl)<|r_u rfl rfl (zn (j:=0) 0 ty3 rfl rfl rfl rfl)<|r_pv rfl rfl (zga (z:=(u*ar)) rfl rfl (w64 (by omega)))<|r_pv rfl rfl (zb rfl)<|r_pv rfl rfl (zb rfl)<|r_pv rfl rfl (zga (z:=(v*w)) rfl rfl (w64 (by omega)))<|r_pv rfl rfl (zda (z:=((u*ar) - (v*w))) rfl rfl (w64 (by omega)))<|r_pv rfl rfl (zg Try.underlying51 rfl sz3 rfl rfl)<|r_u rfl rfl (zn (j:=0) 0 ty3 rfl rfl rfl rfl)<|r_pv rfl rfl (zg Try.underlying51 rfl sz3 rfl rfl)<|r_u rfl rfl (zn (j:=0) 0 ty3 rfl rfl rfl rfl)<|r_pv rfl rfl (zga (z:=(ar*ar)) rfl rfl (w64 (by omega)))<|zA rfl rfl (.c rfl (.c rfl .n)) ce41 (zqc (z1:=((u*ar) - (v*w))) (z2:=(ar*ar)) (hz1:=by first|rfl|assumption|omega) (hz2:=by first|rfl|assumption|omega) (hy:=by first|rfl|assumption|omega)) (.n) ?_
 rintro ⟨w32,w43⟩ -
 dsimp only [List.append_eq,List.nil_append,List.cons_append]
 refine zo 0 rfl rfl rfl rfl rfl sz45 rfl (.take (.take (.take (.take .nil)))) .z<|zj<|zf<|zI ?_
 exact zD Try.results48 (w32,w43) trivial (zu 0 ty45 rfl rfl (.take (.take (.take (.take .nil))))) rfl (ho:=(.n:PickO _ _ _)) ((.c (j:=0) rfl .n):SelR _ _ _)
end Go.Proofs.Ytefbbhiaalcjfaa.Sp
namespace Go.Proofs.Ytefbbhiaalcjfaa.Sp
open Go
set_option linter.unusedVariables false
set_option maxRecDepth 100000
set_option maxHeartbeats 1000000
theorem zAd {ar:Int} {le:Int} {tp:Int} {rt:Int} {bt:Int} {sx:Int} {sy:Int} {xx:Int} {xy:Int} {yy:Int} {ms:Int} {mx:Int} {my:Int}:Con Try.prog 23 [.agg #[.int .i64 ar,.int .i64 le,.int .i64 tp,.int .i64 rt,.int .i64 bt,.int .i64 sx,.int .i64 sy,.int .i64 xx,.int .i64 xy,.int .i64 yy,.int .i64 ms,.int .i64 mx,.int .i64 my]] [] [] (Y:=Wd×Wd×Wd×Wd×Wd×Wd) (fun y=>True) (fun y=> .tuple #[.agg #[y.1.b,y.1.l,y.2.1.b,y.2.1.l],.agg #[y.2.2.1.b,y.2.2.1.l,y.2.2.2.1.b,y.2.2.2.1.l],.agg #[y.2.2.2.2.1.b,y.2.2.2.2.1.l,y.2.2.2.2.2.b,y.2.2.2.2.2.l],.int .i64 (if Bl.ok ar le tp rt bt sx sy xx xy yy ms mx my then 0 else 1)]) (fun y=>[]) (fun y=>[qF (decide (Bl.ok ar le tp rt bt sx sy xx xy yy ms mx my)) y.1 y.2.1 (if Bl.ok ar le tp rt bt sx sy xx xy yy ms mx my then Rat.divInt (xx*ar - sx*sx) (ar*ar) else 0),qF (decide (Bl.ok ar le tp rt bt sx sy xx xy yy ms mx my)) y.2.2.1 y.2.2.2.1 (if Bl.ok ar le tp rt bt sx sy xx xy yy ms mx my then Rat.divInt (xy*ar - sx*sy) (ar*ar) else 0),qF (decide (Bl.ok ar le tp rt bt sx sy xx xy yy ms mx my)) y.2.2.2.2.1 y.2.2.2.2.2 (if Bl.ok ar le tp rt bt sx sy xx xy yy ms mx my then Rat.divInt (yy*ar - sy*sy) (ar*ar) else 0)]):=by
 refine zr Try.func23 rfl rfl rfl (fun c=> ?_)
 show RunC _ _ _ _ _ [(0,.agg #[.int .i64 ar,.int .i64 le,.int .i64 tp,.int .i64 rt,.int .i64 bt,.int .i64 sx,.int .i64 sy,.int .i64 xx,.int .i64 xy,.int .i64 yy,.int .i64 ms,.int .i64 mx,.int .i64 my])] [] []
 refine zi<|zc<|zQ rfl rfl (zV rfl rfl) (fun b1=> ?_)
 refine zQ rfl rfl (zE zr45 rfl) (fun b2=> ?_)
 refine zQ rfl rfl (zE zr45 rfl) (fun b3=> ?_)
 refine zQ rfl rfl (zE zr45 rfl) (fun b4=> ?_)
 refine r_pv rfl rfl (zd rfl)<|zj<|zf<|zi<|zi<|zc<|r_u rfl rfl (zh 3 ty51 rfl rfl (.take (.take (.take (.take (.take (.take (.take (.take (.take (.take (.take (.take (.take .nil))))))))))))))<|zM rfl rfl (.c rfl .n) ce28 (zxb (ar:=ar) (le:=le) (tp:=tp) (rt:=rt) (bt:=bt) (sx:=sx) (sy:=sy) (xx:=xx) (xy:=xy) (yy:=yy) (ms:=ms) (mx:=mx) (my:=my)) (.n)<|r_pv rfl rfl (zd rfl)<|zj<|zf<|zi<|zc<|r_pv rfl rfl (zb rfl)<|r_pv rfl rfl (zCa rfl rfl)<|zj<|zf<|zC rfl (fun hc=> ?_) (fun hc=> ?_)
 ·
  have hok:¬Bl.ok ar le tp rt bt sx sy xx xy yy ms mx my:=fun k=>hc (if_pos k)
  refine zi<|zc<|r_pv rfl rfl (zG zr45 rfl Try.underlying45 (.c sz43 (.c sz43 .n)) .n .n)<|r_pv rfl rfl (zG zr45 rfl Try.underlying45 (.c sz43 (.c sz43 .n)) .n .n)<|r_pv rfl rfl (zG zr45 rfl Try.underlying45 (.c sz43 (.c sz43 .n)) .n .n)<|r_pv rfl rfl (zb rfl)<|zo 2 rfl rfl rfl rfl rfl sz45 rfl (.take (.take (.take (.take .nil)))) (.s (.s .z))<|zo 1 rfl rfl rfl rfl rfl sz45 rfl (.take (.take (.take (.take .nil)))) (.s .z)<|zo 0 rfl rfl rfl rfl rfl sz45 rfl (.take (.take (.take (.take .nil)))) .z<|r_pv rfl rfl (zd rfl)<|zj<|zf<|zI<|zt<|ztb (qF false wz wz 0) (fun g _=>qF_none g) ?_
  exact ztf Try.results23 (wz,wz,wz,wz,wz,wz) trivial (zu 2 ty45 rfl rfl (.take (.take (.take (.take .nil))))) (zu 1 ty45 rfl rfl (.take (.take (.take (.take .nil))))) (zu 0 ty45 rfl rfl (.take (.take (.take (.take .nil))))) (zq rfl) (by simp only [if_neg hok];rfl) (ho:=(.n:PickO _ _ _)) ((.e (j:=0) rfl (by rw [if_neg hok,decide_eq_false hok]) (.e (j:=0) rfl (by rw [if_neg hok,decide_eq_false hok]) (.e (j:=0) rfl (by rw [if_neg hok,decide_eq_false hok]) .n))):SelR _ _ _)
 ·
  have hok:Bl.ok ar le tp rt bt sx sy xx xy yy ms mx my:=Bl.c0.1 (Decidable.not_not.1 hc)
  have ho9:=hok
  unfold Bl.ok at ho9
  have e0:=Bl.mul_b (x:=ar) (y:=le) (m:=4096) (n:=63) (by omega) (by omega)
  have e1:=Bl.mul_b (x:=ar) (y:=rt) (m:=4096) (n:=63) (by omega) (by omega)
  have e2:=Bl.mul_b (x:=ar) (y:=tp) (m:=4096) (n:=63) (by omega) (by omega)
  have e3:=Bl.mul_b (x:=ar) (y:=bt) (m:=4096) (n:=63) (by omega) (by omega)
  have e4:=Bl.mul_b (x:=ms) (y:=le) (m:=268431360) (n:=63) (by omega) (by omega)
  have e5:=Bl.mul_b (x:=ms) (y:=rt) (m:=268431360) (n:=63) (by omega) (by omega)
  have e6:=Bl.mul_b (x:=ms) (y:=tp) (m:=268431360) (n:=63) (by omega) (by omega)
  have e7:=Bl.mul_b (x:=ms) (y:=bt) (m:=268431360) (n:=63) (by omega) (by omega)
  refine zy<|zf<|zi<|zEb 3 rfl (.s (.s (.s .z)))<|zc<|r_pv rfl rfl (zbb .n (.c rfl .n))<|r_pv rfl rfl (zd rfl)<|zj<|zf<|zi<|zBa (.c (i:=2) rfl (.c (i:=1) rfl (.c (i:=0) rfl (.c (i:=0) rfl .n))))<|zia (OW:=[boxA b2 45 [.bool false,.slice none 0 0,.bool false,.slice none 0 0],boxA b3 45 [.bool false,.slice none 0 0,.bool false,.slice none 0 0],boxA b4 45 [.bool false,.slice none 0 0,.bool false,.slice none 0 0]]) (O:=[emA]) 24 mixed (.then .ret) (by kernel_rfl)<|d_pv 0 rfl rfl (by kernel_rfl) (by kernel_rfl) rfl rfl (zb rfl)<|d_pv 1 rfl rfl (by kernel_rfl) (by kernel_rfl) rfl rfl (zg Try.underlying51 rfl sz3 rfl rfl)<|d_u 2 rfl rfl (by kernel_rfl) (by kernel_rfl) rfl rfl (zn (j:=7) 0 ty3 rfl rfl rfl rfl)<|d_pv 3 rfl rfl (by kernel_rfl) (by kernel_rfl) rfl rfl (zg Try.underlying51 rfl sz3 rfl rfl)<|d_u 4 rfl rfl (by kernel_rfl) (by kernel_rfl) rfl rfl (zn (j:=5) 0 ty3 rfl rfl rfl rfl)<|d_pv 5 rfl rfl (by kernel_rfl) (by kernel_rfl) rfl rfl (zg Try.underlying51 rfl sz3 rfl rfl)<|d_u 6 rfl rfl (by kernel_rfl) (by kernel_rfl) rfl rfl (zn (j:=5) 0 ty3 rfl rfl rfl rfl)<|d_pv 8 rfl rfl (by kernel_rfl) (by kernel_rfl) rfl rfl (zb rfl)<|d_pv 9 rfl rfl (by kernel_rfl) (by kernel_rfl) rfl rfl (zg Try.underlying51 rfl sz3 rfl rfl)<|d_u 10 rfl rfl (by kernel_rfl) (by kernel_rfl) rfl rfl (zn (j:=8) 0 ty3 rfl rfl rfl rfl)<|d_pv 11 rfl rfl (by kernel_rfl) (by kernel_rfl) rfl rfl (zg Try.underlying51 rfl sz3 rfl rfl)<|d_u 12 rfl rfl (by kernel_rfl) (by kernel_rfl) rfl rfl (zn (j:=5) 0 ty3 rfl rfl rfl rfl)<|d_pv 13 rfl rfl (by kernel_rfl) (by kernel_rfl) rfl rfl (zg Try.underlying51 rfl sz3 rfl rfl)<|d_u 14 rfl rfl (by kernel_rfl) (by kernel_rfl) rfl rfl (zn (j:=6) 0 ty3 rfl rfl rfl rfl)<|d_pv 16 rfl rfl (by kernel_rfl) (by kernel_rfl) rfl rfl (zb rfl)<|d_pv 17 rfl rfl (by kernel_rfl) (by kernel_rfl) rfl rfl (zg Try.underlying51 rfl sz3 rfl rfl)<|d_u 18 rfl rfl (by kernel_rfl) (by kernel_rfl) rfl rfl (zn (j:=9) 0 ty3 rfl rfl rfl rfl)<|d_pv 19 rfl rfl (by kernel_rfl) (by kernel_rfl) rfl rfl (zg Try.underlying51 rfl sz3 rfl rfl)<|d_u 20 rfl rfl (by kernel_rfl) (by kernel_rfl) rfl rfl (zn (j:=6) 0 ty3 rfl rfl rfl rfl)<|d_pv 21 rfl rfl (by kernel_rfl) (by kernel_rfl) rfl rfl (zg Try.underlying51 rfl sz3 rfl rfl)<|d_u 22 rfl rfl (by kernel_rfl) (by kernel_rfl) rfl rfl (zn (j:=6) 0 ty3 rfl rfl rfl rfl)<|zT 7 (by kernel_rfl) (zId (first:=[]) (cap:=[.pointer (some ⟨b1,0,none⟩)]) rfl rfl rfl rfl rfl (.c rfl (.c rfl (.c rfl .n))) ce48 (zwb (ar:=ar) (le:=le) (tp:=tp) (rt:=rt) (bt:=bt) (sx:=sx) (sy:=sy) (xx:=xx) (xy:=xy) (yy:=yy) (ms:=ms) (mx:=mx) (my:=my) (bb:=b1) (u:=xx) (v:=sx) (w:=sx) (ho:=by first|rfl|assumption|omega) (hp:=by first|rfl|assumption|omega) (hs:=by first|rfl|assumption|omega) (ht:=by first|rfl|assumption|omega)) (.c (j:=0) rfl .n) ?_)
  rintro ⟨w35,w46⟩ -
  dsimp only [List.append_eq,List.nil_append,List.cons_append]
  refine zT 15 (by kernel_rfl) (zId (first:=[]) (cap:=[.pointer (some ⟨b1,0,none⟩)]) rfl rfl rfl rfl rfl (.c rfl (.c rfl (.c rfl .n))) ce48 (zwb (ar:=ar) (le:=le) (tp:=tp) (rt:=rt) (bt:=bt) (sx:=sx) (sy:=sy) (xx:=xx) (xy:=xy) (yy:=yy) (ms:=ms) (mx:=mx) (my:=my) (bb:=b1) (u:=xy) (v:=sx) (w:=sy) (ho:=by first|rfl|assumption|omega) (hp:=by first|rfl|assumption|omega) (hs:=by first|rfl|assumption|omega) (ht:=by first|rfl|assumption|omega)) (.c (j:=1) rfl .n) ?_)
  rintro ⟨w37,w48⟩ -
  dsimp only [List.append_eq,List.nil_append,List.cons_append]
  refine zT 23 (by kernel_rfl) (zId (first:=[]) (cap:=[.pointer (some ⟨b1,0,none⟩)]) rfl rfl rfl rfl rfl (.c rfl (.c rfl (.c rfl .n))) ce48 (zwb (ar:=ar) (le:=le) (tp:=tp) (rt:=rt) (bt:=bt) (sx:=sx) (sy:=sy) (xx:=xx) (xy:=xy) (yy:=yy) (ms:=ms) (mx:=mx) (my:=my) (bb:=b1) (u:=yy) (v:=sy) (w:=sy) (ho:=by first|rfl|assumption|omega) (hp:=by first|rfl|assumption|omega) (hs:=by first|rfl|assumption|omega) (ht:=by first|rfl|assumption|omega)) (.c (j:=2) rfl .n) ?_)
  rintro ⟨w39,w410⟩ -
  dsimp only [List.append_eq,List.nil_append,List.cons_append]
  refine zT 24 (by kernel_rfl) (zJ (by kernel_rfl) rfl rfl rfl rfl rfl sz45 rfl (.take (.take (.take (.take .nil)))) ?_)
  refine zOa (zoa (i:=1) rfl)<|zT 25 (by kernel_rfl) (zJ (by kernel_rfl) rfl rfl rfl rfl rfl sz45 rfl (.take (.take (.take (.take .nil)))) ?_)
  refine zOa (zoa (i:=2) rfl)<|zT 26 (by kernel_rfl) (zJ (by kernel_rfl) rfl rfl rfl rfl rfl sz45 rfl (.take (.take (.take (.take .nil)))) ?_)
  refine d_pv 27 rfl rfl (by kernel_rfl) (by kernel_rfl) rfl rfl (zd rfl)<|zfa (by kernel_rfl)<|zf<|zI ?_
  exact ztf Try.results23 (w35,w46,w37,w48,w39,w410) trivial (zu 2 ty45 rfl rfl (.take (.take (.take (.take .nil))))) (zu 1 ty45 rfl rfl (.take (.take (.take (.take .nil))))) (zu 0 ty45 rfl rfl (.take (.take (.take (.take .nil))))) (zq rfl) (by rw [if_pos hok]) (ho:=(.n:PickO _ _ _)) ((.e (j:=2) rfl (by rw [if_pos hok,decide_eq_true hok]) (.e (j:=1) rfl (by rw [if_pos hok,decide_eq_true hok]) (.e (j:=0) rfl (by rw [if_pos hok,decide_eq_true hok]) .n))):SelR _ _ _)
theorem zQc {ar:Int} {le:Int} {tp:Int} {rt:Int} {bt:Int} {sx:Int} {sy:Int} {xx:Int} {xy:Int} {yy:Int} {ms:Int} {mx:Int} {my:Int} (hok:Bl.ok ar le tp rt bt sx sy xx xy yy ms mx my):Con Try.prog 23 [.agg #[.int .i64 (ar),.int .i64 (le),.int .i64 (tp),.int .i64 (rt),.int .i64 (bt),.int .i64 (sx),.int .i64 (sy),.int .i64 (xx),.int .i64 (xy),.int .i64 (yy),.int .i64 (ms),.int .i64 (mx),.int .i64 (my)]] [] [] (Y:=(Wd)×(Wd)×(Wd)×(Wd)×(Wd)×(Wd)) (fun y=>True) (fun y=> .tuple #[.agg #[y.1.b,y.1.l,y.2.1.b,y.2.1.l],.agg #[y.2.2.1.b,y.2.2.1.l,y.2.2.2.1.b,y.2.2.2.1.l],.agg #[y.2.2.2.2.1.b,y.2.2.2.2.1.l,y.2.2.2.2.2.b,y.2.2.2.2.2.l],.int .i64 (0)]) (fun y=>[]) (fun y=>[qF true y.1 y.2.1 (Rat.divInt (xx*ar - sx*sx) (ar*ar)),qF true y.2.2.1 y.2.2.2.1 (Rat.divInt (xy*ar - sx*sy) (ar*ar)),qF true y.2.2.2.2.1 y.2.2.2.2.2 (Rat.divInt (yy*ar - sy*sy) (ar*ar))]):=by
  have h:= @zAd ar le tp rt bt sx sy xx xy yy ms mx my
  simp only [if_pos hok,decide_eq_true hok] at h
  exact h
theorem zee {ar:Int} {le:Int} {tp:Int} {rt:Int} {bt:Int} {sx:Int} {sy:Int} {xx:Int} {xy:Int} {yy:Int} {ms:Int} {mx:Int} {my:Int}:Con Try.prog 19 [.agg #[.int .i64 ar,.int .i64 le,.int .i64 tp,.int .i64 rt,.int .i64 bt,.int .i64 sx,.int .i64 sy,.int .i64 xx,.int .i64 xy,.int .i64 yy,.int .i64 ms,.int .i64 mx,.int .i64 my]] [] [] (Y:=Wd×Wd×Wd×Wd) (fun y=>True) (fun y=> .tuple #[.agg #[y.1.b,y.1.l,y.2.1.b,y.2.1.l,y.2.2.1.b,y.2.2.1.l,y.2.2.2.b,y.2.2.2.l],.int .i64 (if Bl.ok ar le tp rt bt sx sy xx xy yy ms mx my then (if ms=0 then 13 else 0) else 1)]) (fun y=>[]) (fun y=>[qF (decide (Bl.ok ar le tp rt bt sx sy xx xy yy ms mx my∧ms≠0)) y.1 y.2.1 (if Bl.ok ar le tp rt bt sx sy xx xy yy ms mx my∧ms≠0 then Rat.divInt (2*mx+ms) (2*ms) else 0),qF (decide (Bl.ok ar le tp rt bt sx sy xx xy yy ms mx my∧ms≠0)) y.2.2.1 y.2.2.2 (if Bl.ok ar le tp rt bt sx sy xx xy yy ms mx my∧ms≠0 then Rat.divInt (2*my+ms) (2*ms) else 0)]):=by
 refine zr Try.func19 rfl rfl rfl (fun c=> ?_)
 show RunC _ _ _ _ _ [(0,.agg #[.int .i64 ar,.int .i64 le,.int .i64 tp,.int .i64 rt,.int .i64 bt,.int .i64 sx,.int .i64 sy,.int .i64 xx,.int .i64 xy,.int .i64 yy,.int .i64 ms,.int .i64 mx,.int .i64 my])] [] []
 refine zi<|zc<|zQ rfl rfl (zV rfl rfl) (fun b1=> ?_)
 refine zQ rfl rfl (zE zr47 rfl) (fun b2=> ?_)
 refine r_pv rfl rfl (zd rfl)<|zj<|zf<|zi<|zi<|zc<|r_u rfl rfl (zh 1 ty51 rfl rfl (.take (.take (.take (.take (.take (.take (.take (.take (.take (.take (.take (.take (.take .nil))))))))))))))<|zM rfl rfl (.c rfl .n) ce28 (zxb (ar:=ar) (le:=le) (tp:=tp) (rt:=rt) (bt:=bt) (sx:=sx) (sy:=sy) (xx:=xx) (xy:=xy) (yy:=yy) (ms:=ms) (mx:=mx) (my:=my)) (.n)<|r_pv rfl rfl (zd rfl)<|zj<|zf<|zi<|zc<|r_pv rfl rfl (zb rfl)<|r_pv rfl rfl (zCa rfl rfl)<|zj<|zf<|zC rfl (fun hc=> ?_) (fun hc=> ?_)
 ·
  have hok:¬Bl.ok ar le tp rt bt sx sy xx xy yy ms mx my:=fun k=>hc (if_pos k)
  have hno:¬(Bl.ok ar le tp rt bt sx sy xx xy yy ms mx my∧ms≠0):=fun k=>hok k.1
  refine zi<|zc<|r_pv rfl rfl (zG zr47 rfl Try.underlying47 (.c sz45 (.c sz45 .n)) .n .n)<|r_pv rfl rfl (zb rfl)<|zo 0 rfl rfl rfl rfl rfl sz47 rfl (.take (.take (.take (.take (.take (.take (.take (.take .nil)))))))) .z<|r_pv rfl rfl (zd rfl)<|zj<|zf<|zI<|zt<|ztb (qF false wz wz 0) (fun g _=>qF_none g) ?_
  exact zta Try.results19 (wz,wz,wz,wz) trivial (zu 0 ty47 rfl rfl (.take (.take (.take (.take (.take (.take (.take (.take .nil))))))))) (zq rfl) (by simp only [if_neg hok];rfl) (ho:=(.n:PickO _ _ _)) ((.e (j:=0) rfl (by rw [if_neg hno,decide_eq_false hno]) (.e (j:=0) rfl (by rw [if_neg hno,decide_eq_false hno]) .n)):SelR _ _ _)
 ·
  have hok:Bl.ok ar le tp rt bt sx sy xx xy yy ms mx my:=Bl.c0.1 (Decidable.not_not.1 hc)
  have ho9:=hok
  unfold Bl.ok at ho9
  have e0:=Bl.mul_b (x:=ar) (y:=le) (m:=4096) (n:=63) (by omega) (by omega)
  have e1:=Bl.mul_b (x:=ar) (y:=rt) (m:=4096) (n:=63) (by omega) (by omega)
  have e2:=Bl.mul_b (x:=ar) (y:=tp) (m:=4096) (n:=63) (by omega) (by omega)
  have e3:=Bl.mul_b (x:=ar) (y:=bt) (m:=4096) (n:=63) (by omega) (by omega)
  have e4:=Bl.mul_b (x:=ms) (y:=le) (m:=268431360) (n:=63) (by omega) (by omega)
  have e5:=Bl.mul_b (x:=ms) (y:=rt) (m:=268431360) (n:=63) (by omega) (by omega)
  have e6:=Bl.mul_b (x:=ms) (y:=tp) (m:=268431360) (n:=63) (by omega) (by omega)
  have e7:=Bl.mul_b (x:=ms) (y:=bt) (m:=268431360) (n:=63) (by omega) (by omega)
  refine zy<|zf<|zi<|zi<|zc<|r_pv rfl rfl (zg Try.underlying51 rfl sz3 rfl rfl)<|r_u rfl rfl (ze 1 ty3 rfl rfl rfl)<|r_pv rfl rfl (zAa rfl rfl)<|zj<|zf<|zC rfl (fun hm=> ?_) (fun hm=> ?_)
  ·
   have hno:¬(Bl.ok ar le tp rt bt sx sy xx xy yy ms mx my∧ms≠0):=fun k=>k.2 hm
   refine zi<|zc<|r_pv rfl rfl (zG zr47 rfl Try.underlying47 (.c sz45 (.c sz45 .n)) .n .n)<|zo 0 rfl rfl rfl rfl rfl sz47 rfl (.take (.take (.take (.take (.take (.take (.take (.take .nil)))))))) .z<|r_pv rfl rfl (zd rfl)<|zj<|zf<|zI<|zt<|ztb (qF false wz wz 0) (fun g _=>qF_none g) ?_
   exact zta Try.results19 (wz,wz,wz,wz) trivial (zu 0 ty47 rfl rfl (.take (.take (.take (.take (.take (.take (.take (.take .nil))))))))) (zq rfl) (by rw [if_pos hok,if_pos hm];rfl) (ho:=(.n:PickO _ _ _)) ((.e (j:=0) rfl (by rw [if_neg hno,decide_eq_false hno]) (.e (j:=0) rfl (by rw [if_neg hno,decide_eq_false hno]) .n)):SelR _ _ _)
  ·
   have hye:Bl.ok ar le tp rt bt sx sy xx xy yy ms mx my∧ms≠0:=⟨hok,hm⟩
   refine zy<|zf<|zi<|zia (OW:=[boxA b2 47 [.bool false,.slice none 0 0,.bool false,.slice none 0 0,.bool false,.slice none 0 0,.bool false,.slice none 0 0]]) (O:=[boxA b1 51 [.int .i64 ar,.int .i64 le,.int .i64 tp,.int .i64 rt,.int .i64 bt,.int .i64 sx,.int .i64 sy,.int .i64 xx,.int .i64 xy,.int .i64 yy,.int .i64 ms,.int .i64 mx,.int .i64 my]]) 21 mixed (.then .ret) (by kernel_rfl)<|d_pv 0 rfl rfl (by kernel_rfl) (by kernel_rfl) rfl rfl (zg Try.underlying51 rfl sz3 rfl rfl)<|d_uw 1 rfl rfl (by kernel_rfl) (by kernel_rfl) (by kernel_rfl) rfl rfl (ze 1 ty3 rfl rfl rfl)<|d_pv 2 rfl rfl (by kernel_rfl) (by kernel_rfl) rfl rfl (zga (z:=(2*mx)) rfl rfl (w64 (by omega)))<|d_pv 3 rfl rfl (by kernel_rfl) (by kernel_rfl) rfl rfl (zg Try.underlying51 rfl sz3 rfl rfl)<|d_uw 4 rfl rfl (by kernel_rfl) (by kernel_rfl) (by kernel_rfl) rfl rfl (ze 1 ty3 rfl rfl rfl)<|d_pv 5 rfl rfl (by kernel_rfl) (by kernel_rfl) rfl rfl (zz (z:=((2*mx)+ms)) rfl rfl (w64 (by omega)))<|d_pv 6 rfl rfl (by kernel_rfl) (by kernel_rfl) rfl rfl (zg Try.underlying51 rfl sz3 rfl rfl)<|d_uw 7 rfl rfl (by kernel_rfl) (by kernel_rfl) (by kernel_rfl) rfl rfl (ze 1 ty3 rfl rfl rfl)<|d_pv 8 rfl rfl (by kernel_rfl) (by kernel_rfl) rfl rfl (zga (z:=(2*ms)) rfl rfl (w64 (by omega)))<|d_pv 10 rfl rfl (by kernel_rfl) (by kernel_rfl) rfl rfl (zg Try.underlying51 rfl sz3 rfl rfl)<|d_uw 11 rfl rfl (by kernel_rfl) (by kernel_rfl) (by kernel_rfl) rfl rfl (ze 1 ty3 rfl rfl rfl)<|d_pv 12 rfl rfl (by kernel_rfl) (by kernel_rfl) rfl rfl (zga (z:=(2*my)) rfl rfl (w64 (by omega)))<|d_pv 13 rfl rfl (by kernel_rfl) (by kernel_rfl) rfl rfl (zg Try.underlying51 rfl sz3 rfl rfl)<|d_uw 14 rfl rfl (by kernel_rfl) (by kernel_rfl) (by kernel_rfl) rfl rfl (ze 1 ty3 rfl rfl rfl)<|d_pv 15 rfl rfl (by kernel_rfl) (by kernel_rfl) rfl rfl (zz (z:=((2*my)+ms)) rfl rfl (w64 (by omega)))<|d_pv 16 rfl rfl (by kernel_rfl) (by kernel_rfl) rfl rfl (zg Try.underlying51 rfl sz3 rfl rfl)<|d_uw 17 rfl rfl (by kernel_rfl) (by kernel_rfl) (by kernel_rfl) rfl rfl (ze 1 ty3 rfl rfl rfl)<|d_pv 18 rfl rfl (by kernel_rfl) (by kernel_rfl) rfl rfl (zga (z:=(2*ms)) rfl rfl (w64 (by omega)))<|zT 9 (by kernel_rfl) (zU rfl rfl rfl rfl (.c rfl (.c rfl .n)) ce41 (zqc (z1:=((2*mx)+ms)) (z2:=(2*ms)) (hz1:=by first|rfl|assumption|omega) (hz2:=by first|rfl|assumption|omega) (hy:=by first|rfl|assumption|omega)) (.n) ?_)
   rintro ⟨w33,w44⟩ -
   dsimp only [List.append_eq,List.nil_append,List.cons_append]
   refine zT 19 (by kernel_rfl) (zU rfl rfl rfl rfl (.c rfl (.c rfl .n)) ce41 (zqc (z1:=((2*my)+ms)) (z2:=(2*ms)) (hz1:=by first|rfl|assumption|omega) (hz2:=by first|rfl|assumption|omega) (hy:=by first|rfl|assumption|omega)) (.n) ?_)
   rintro ⟨w35,w46⟩ -
   dsimp only [List.append_eq,List.nil_append,List.cons_append]
   refine d_pv 20 rfl rfl (by kernel_rfl) (by kernel_rfl) rfl rfl (zG zr47 rfl Try.underlying47 (.c sz45 (.c sz45 .n)) (.c rfl (.c rfl .n)) (.c rfl rfl rfl (.take (.take (.take (.take .nil)))) (.c rfl rfl rfl (.skip (.skip (.skip (.skip (.take (.take (.take (.take .nil)))))))) .n)))<|zT 21 (by kernel_rfl) (zJ (by kernel_rfl) rfl rfl rfl rfl rfl sz47 rfl (.take (.take (.take (.take (.take (.take (.take (.take .nil)))))))) ?_)
   refine d_pv 22 rfl rfl (by kernel_rfl) (by kernel_rfl) rfl rfl (zd rfl)<|zfa (by kernel_rfl)<|zf<|zI ?_
   exact zta Try.results19 (w33,w44,w35,w46) trivial (zu 0 ty47 rfl rfl (.take (.take (.take (.take (.take (.take (.take (.take .nil))))))))) (zq rfl) (by rw [if_pos hok,if_neg hm]) (ho:=(.n:PickO _ _ _)) ((.e (j:=1) rfl (by rw [if_pos hye,decide_eq_true hye]) (.e (j:=0) rfl (by rw [if_pos hye,decide_eq_true hye]) .n)):SelR _ _ _)
theorem zkd {ar:Int} {le:Int} {tp:Int} {rt:Int} {bt:Int} {sx:Int} {sy:Int} {xx:Int} {xy:Int} {yy:Int} {ms:Int} {mx:Int} {my:Int} (hok:Bl.ok ar le tp rt bt sx sy xx xy yy ms mx my) (hm:ms≠0):Con Try.prog 19 [.agg #[.int .i64 (ar),.int .i64 (le),.int .i64 (tp),.int .i64 (rt),.int .i64 (bt),.int .i64 (sx),.int .i64 (sy),.int .i64 (xx),.int .i64 (xy),.int .i64 (yy),.int .i64 (ms),.int .i64 (mx),.int .i64 (my)]] [] [] (Y:=(Wd)×(Wd)×(Wd)×(Wd)) (fun y=>True) (fun y=> .tuple #[.agg #[y.1.b,y.1.l,y.2.1.b,y.2.1.l,y.2.2.1.b,y.2.2.1.l,y.2.2.2.b,y.2.2.2.l],.int .i64 (0)]) (fun y=>[]) (fun y=>[qF true y.1 y.2.1 (Rat.divInt (2*mx+ms) (2*ms)),qF true y.2.2.1 y.2.2.2 (Rat.divInt (2*my+ms) (2*ms))]):=by
  have h:= @zee ar le tp rt bt sx sy xx xy yy ms mx my
  have h2:Bl.ok ar le tp rt bt sx sy xx xy yy ms mx my∧ms≠0:=⟨hok,hm⟩
  simp only [if_pos hok,if_neg hm,if_pos h2,decide_eq_true h2] at h
  exact h
end Go.Proofs.Ytefbbhiaalcjfaa.Sp
namespace Go.Proofs.Ytefbbhiaalcjfaa.Sp
open Go
set_option linter.unusedVariables false
set_option maxRecDepth 100000
set_option maxHeartbeats 1000000
theorem zBd {w:Int} {h:Int} {m:Int} {p:Option Addr} {n:Nat} {cap:Nat} {bb:Nat} {u:Int}:Con Try.prog 74 [.int .i64 u,.pointer (some ⟨bb,0,none⟩)] [] [atF bb 0 [.int .i64 w,.int .i64 h,.int .i64 m,.slice p n cap]] (Y:=Unit) (fun y=>True) (fun y=> .bool (decide (u<0∨m<u))) (fun y=>[]) (fun y=>[]):=by
 refine zr Try.func74 rfl rfl rfl (fun c=> ?_)
 show RunC _ _ _ _ _ [(0,.int .i64 u),(1,.pointer (some ⟨bb,0,none⟩))] [] [atF bb 0 [.int .i64 w,.int .i64 h,.int .i64 m,.slice p n cap]]
 refine zi<|zc<|r_pv rfl rfl (zd rfl)<|zj<|zf<|zRa (X:=Unit) (fun x=>True) (fun x=>[(3,.bool (decide ((u<0)∨(m<u))))]) (fun x=>[]) (fun x=>[atF bb 0 [.int .i64 w,.int .i64 h,.int .i64 m,.slice p n cap]]) ?_ ?_
 ·
  refine zc<|r_pv rfl rfl (zb rfl)<|r_pv rfl rfl (zW rfl rfl)<|zR rfl rfl (zb rfl) (fun h1=> ?_) (fun h1=> ?_)
  ·
   refine za rfl rfl<|za rfl rfl<|za rfl rfl<|za rfl rfl<|r_pv rfl rfl (zl rfl rfl)<|r_pv rfl rfl (zd rfl)<|zj ?_
   exact zca () (show True from by first|trivial|omega|simp_all) ((.e rfl (congrArg Value.bool (by first|(simp_all;done)|(simp_all;omega)|(simp;omega)|omega)) .n):SubM _ _) (ho:=(.n:PickO _ _ _)) ((.c (j:=0) rfl .n):SelR _ _ _)
  ·
   refine r_pv rfl rfl (zb rfl)<|r_pv rfl rfl (zg Try.underlying24 rfl sz3 rfl rfl)<|r_u rfl rfl (zn (j:=2) 0 ty3 rfl rfl rfl rfl)<|r_pv rfl rfl (zua rfl rfl)<|r_pv rfl rfl (zl rfl rfl)<|r_pv rfl rfl (zd rfl)<|zj ?_
   exact zca () (show True from by first|trivial|omega|simp_all) ((.e rfl (congrArg Value.bool (by first|(simp_all;done)|(simp_all;omega)|(simp;omega)|omega)) .n):SubM _ _) (ho:=(.n:PickO _ _ _)) ((.c (j:=0) rfl .n):SelR _ _ _)
 ·
  rintro ⟨⟩ -
  try dsimp only
  refine zI ?_
  exact zD Try.results74 () trivial (zq rfl) rfl (ho:=(.n:PickO _ _ _)) (.n:SelR _ _ _)
theorem zuc {w:Int} {h:Int} {m:Int} {p:Option Addr} {n:Nat} {cap:Nat} {l:List Int} {bb:Nat} (hn:l.length=n):Con Try.prog 86 [.slice p n cap,.func (.func 74) #[] #[.pointer (some ⟨bb,0,none⟩)]] [] [slF (rI .i64) p cap l,atF bb 0 [.int .i64 w,.int .i64 h,.int .i64 m,.slice p n cap]] (Y:=Int) (fun y=>(0≤y↔∃g∈l,g<0∨m<g)) (fun y=> .int .i64 y) (fun y=>[]) (fun y=>[]):=by
 refine zr Try.func86 rfl rfl rfl (fun c=> ?_)
 show RunC _ _ _ _ _ [(0,.slice p n cap),(1,.func (.func 74) #[] #[.pointer (some ⟨bb,0,none⟩)])] [] [slF (rI .i64) p cap l,atF bb 0 [.int .i64 w,.int .i64 h,.int .i64 m,.slice p n cap]]
 refine zea 0 rfl (fun hL0=> ?_)
 refine zi<|zc<|r_pv rfl rfl (zd rfl)<|zj<|zf<|zi<|zi<|zc<|r_pv rfl rfl (zb rfl)<|r_pv rfl rfl (zK Try.underlying22 rfl)<|r_pv rfl rfl (zb rfl)<|zj<|zf<|zB<|zna (X:=Nat) (fun x:Nat=>x≤n∧∀j,j<x→¬(l.getD j 0<0∨m<l.getD j 0)) (fun x=>[(8,.int .i64 ((x:Nat):Int)),(7,.int .i64 ((n:Nat):Int)),(0,.slice p n cap),(1,.func (.func 74) #[] #[.pointer (some ⟨bb,0,none⟩)])]) (fun x=>[]) (fun x=>[slF (rI .i64) p cap l,atF bb 0 [.int .i64 w,.int .i64 h,.int .i64 m,.slice p n cap]]) (fun x:Nat=>n - x) 0 (show 0≤n∧∀j,j<0→¬(l.getD j 0<0∨m<l.getD j 0) from by exact ⟨by omega,fun j h=>by omega⟩) ((.e rfl (by first|rfl|(congr 1;omega)|simp_all) (.of rfl)):SubM _ _) (ho:=(.n:PickO _ _ _)) ((.of [0,1] rfl):SelR _ _ _) ?_
 rintro i hI
 replace hI:i≤n∧∀j,j<i→¬(l.getD j 0<0∨m<l.getD j 0):=hI
 try dsimp only
 obtain ⟨hi,hall⟩:=hI
 refine zi<|zc<|r_pv rfl rfl (zW rfl rfl)<|zj<|zf<|zi<|zC rfl (fun h1=> ?_) (fun h1=> ?_)
 ·
  refine zy<|zf<|zi<|zB<|zi<|zc<|r_pv rfl rfl (zb rfl)<|r_pv rfl rfl (zd rfl)<|zj<|zf<|zi<|zc<|r_pv rfl rfl (zb rfl)<|r_pv rfl rfl (zb rfl)<|r_pv rfl rfl (zb rfl)<|zO (x0:=(l.getD i 0)) 0 i rfl Try.underlying22 sz3 rfl rfl rfl (by first|rfl|assumption|(simp_all;done)|omega) rfl rfl (gD (d:=0) (by omega)) (fun b2 o3 hok4=> ?_)
  replace hok4:=zk.1 hok4
  refine r_u rfl rfl (zn (j:=0) 0 ty3 rfl rfl rfl rfl)<|zgc (first:=[]) (cap:=[.pointer (some ⟨bb,0,none⟩)]) rfl rfl rfl (.c rfl .n) ce74 (zBd (w:=w) (h:=h) (m:=m) (p:=p) (n:=n) (cap:=cap) (bb:=bb) (u:=(l.getD i 0))) (.c (j:=2) rfl .n) ?_
  rintro ⟨⟩ -
  dsimp only [List.append_eq,List.nil_append,List.cons_append]
  refine zj<|zf<|zC rfl (fun hb=> ?_) (fun hb=> ?_)
  ·
   refine zi<|zc<|r_pv rfl rfl (zb rfl)<|r_pv rfl rfl (zd rfl)<|zj<|zf<|zI<|zba<|zt<|zt<|zba<|zt ?_
   exact zD Try.results86 ((i:Nat):Int) (⟨fun _=>⟨l.getD i 0,Big.getD_mem (by omega),hb⟩,fun _=>by omega⟩) (zq rfl) rfl (ho:=(.n:PickO _ _ _)) (.n:SelR _ _ _)
  ·
   refine zy<|zS<|zf<|zc<|r_pv rfl rfl (zz (z:=(((i+1):Nat):Int)) rfl rfl (w64 (by omega)))<|r_pv rfl rfl (zb rfl)<|zj<|zZ (i+1) (show (i+1)≤n∧∀j,j<(i+1)→¬(l.getD j 0<0∨m<l.getD j 0) from by refine ⟨by omega,fun j hj=> ?_⟩;by_cases e:j=i;subst e;exact hb;exact hall j (by omega)) (by show n - (i+1)<n - i;omega) ((.of rfl):SubM _ _) (ho:=(.n:PickO _ _ _)) ((.of [1,2] rfl):SelR _ _ _)
 ·
  refine zha<|zm<|zm<|zv<|zf<|zi<|zc<|r_pv rfl rfl (zd rfl)<|zj<|zf<|zI ?_
  exact zD Try.results86 (-1) (⟨fun h=>by omega,fun ⟨g,hg,hb⟩=>by obtain ⟨j,hj,e⟩:=Big.mem_getD hg;have:=hall j (by omega);rw [e] at this;exact absurd hb this⟩) (zq rfl) rfl (ho:=(.n:PickO _ _ _)) (.n:SelR _ _ _)
theorem zSb {w:Int} {h:Int} {m:Int} {p:Option Addr} {n:Nat} {cap:Nat} {l:List Int} {bb:Nat} (hn:l.length=n):Con Try.prog 73 [.slice p n cap,.func (.func 74) #[] #[.pointer (some ⟨bb,0,none⟩)]] [] [slF (rI .i64) p cap l,atF bb 0 [.int .i64 w,.int .i64 h,.int .i64 m,.slice p n cap]] (Y:=Unit) (fun y=>True) (fun y=> .bool (decide (∃g∈l,g<0∨m<g))) (fun y=>[]) (fun y=>[]):=by
 refine zr Try.func73 rfl rfl rfl (fun c=> ?_)
 show RunC _ _ _ _ _ [(0,.slice p n cap),(1,.func (.func 74) #[] #[.pointer (some ⟨bb,0,none⟩)])] [] [slF (rI .i64) p cap l,atF bb 0 [.int .i64 w,.int .i64 h,.int .i64 m,.slice p n cap]]
 refine zea 0 rfl (fun hL0=> ?_)
 refine zi<|zc<|r_pv rfl rfl (zd rfl)<|zj<|zf<|zi<|zc<|r_pv rfl rfl (zb rfl)<|r_pv rfl rfl (zb rfl)<|zA rfl rfl (.c rfl (.c rfl .n)) ce86 (zuc (w:=w) (h:=h) (m:=m) (p:=p) (n:=n) (cap:=cap) (l:=l) (bb:=bb) (hn:=by assumption)) (.c (j:=0) rfl (.c (j:=1) rfl .n)) ?_
 rintro r1 hr
 dsimp only [List.append_eq,List.nil_append,List.cons_append]
 replace hr:(0≤r1↔∃g∈l,g<0∨m<g):=hr
 refine r_pv rfl rfl (zGa rfl rfl)<|r_pv rfl rfl (zd rfl)<|zj<|zf<|zI ?_
 exact zD Try.results73 () trivial (zq rfl) (congrArg Value.bool (decide_eq_decide.2 hr.symm)) (ho:=(.n:PickO _ _ _)) (.n:SelR _ _ _)
theorem zfe {w:Int} {h:Int} {m:Int} {p:Option Addr} {n:Nat} {cap:Nat} {l:List Int} (hn:l.length=n):Con Try.prog 56 [.agg #[.int .i64 w,.int .i64 h,.int .i64 m,.slice p n cap]] [] [slF (rI .i64) p cap l] (Y:=Unit) (fun y=>True) (fun y=> .int .i64 (if Bl.rok w h m l then 0 else 1)) (fun y=>[]) (fun y=>[]):=by
 refine zr Try.func56 rfl rfl rfl (fun c=> ?_)
 show RunC _ _ _ _ _ [(0,.agg #[.int .i64 w,.int .i64 h,.int .i64 m,.slice p n cap])] [] [slF (rI .i64) p cap l]
 refine zea 0 rfl (fun hL0=> ?_)
 refine zi<|zc<|zQ rfl rfl (zV rfl rfl) (fun b1=> ?_)
 refine r_pv rfl rfl (zd rfl)<|zj<|zf<|zi<|zRa (X:=Unit) (fun x=>True) (fun x=>[(34,.bool (decide (¬((1≤w∧w≤64)∧(1≤h∧h≤64)∧(1≤m∧m≤65535)∧(n:Int)=w*h)))),(2,.int .i64 0),(1,.pointer (some ⟨b1,0,none⟩))]) (fun x=>[boxA b1 24 [.int .i64 w,.int .i64 h,.int .i64 m,.slice p n cap]]) (fun x=>[slF (rI .i64) p cap l]) ?_ ?_
 ·
  refine zc<|r_pv rfl rfl (zg Try.underlying24 rfl sz3 rfl rfl)<|r_u rfl rfl (ze 0 ty3 rfl rfl rfl)<|r_pv rfl rfl (zg Try.underlying24 rfl sz3 rfl rfl)<|r_u rfl rfl (ze 0 ty3 rfl rfl rfl)<|r_pv rfl rfl (zg Try.underlying24 rfl sz3 rfl rfl)<|r_u rfl rfl (ze 0 ty3 rfl rfl rfl)<|r_pv rfl rfl (zCf rfl rfl rfl)<|r_pv rfl rfl (zW rfl rfl)<|zR rfl rfl (zb rfl) (fun h2=> ?_) (fun h2=> ?_)
  ·
   refine za rfl rfl<|za rfl rfl<|za rfl rfl<|za rfl rfl<|za rfl rfl<|za rfl rfl<|r_pv rfl rfl (zl rfl rfl)<|r_pv rfl rfl (zb rfl)<|za rfl rfl<|za rfl rfl<|za rfl rfl<|r_pv rfl rfl (zl rfl rfl)<|r_pv rfl rfl (zb rfl)<|za rfl rfl<|za rfl rfl<|za rfl rfl<|za rfl rfl<|za rfl rfl<|za rfl rfl<|za rfl rfl<|za rfl rfl<|za rfl rfl<|r_pv rfl rfl (zl rfl rfl)<|zj ?_
   exact zca () (show True from by first|trivial|omega|simp_all) ((.e rfl (congrArg Value.bool (by exact Eq.symm (decide_eq_true (by omega)))) (.c rfl (.c rfl .n))):SubM _ _) (ho:=((.c (i:=0) rfl .n):PickO _ _ _)) ((.c (j:=0) rfl .n):SelR _ _ _)
  ·
   refine r_pv rfl rfl (zg Try.underlying24 rfl sz3 rfl rfl)<|r_u rfl rfl (ze 0 ty3 rfl rfl rfl)<|r_pv rfl rfl (zg Try.underlying24 rfl sz3 rfl rfl)<|r_u rfl rfl (ze 0 ty3 rfl rfl rfl)<|r_pv rfl rfl (zEd rfl rfl)<|r_pv rfl rfl (zua rfl rfl)<|r_pv rfl rfl (zl rfl rfl)<|zR rfl rfl (zb rfl) (fun h3=> ?_) (fun h3=> ?_)
   ·
    refine za rfl rfl<|za rfl rfl<|za rfl rfl<|r_pv rfl rfl (zl rfl rfl)<|r_pv rfl rfl (zb rfl)<|za rfl rfl<|za rfl rfl<|za rfl rfl<|za rfl rfl<|za rfl rfl<|za rfl rfl<|za rfl rfl<|za rfl rfl<|za rfl rfl<|r_pv rfl rfl (zl rfl rfl)<|zj ?_
    exact zca () (show True from by first|trivial|omega|simp_all) ((.e rfl (congrArg Value.bool (by exact Eq.symm (decide_eq_true (by omega)))) (.c rfl (.c rfl .n))):SubM _ _) (ho:=((.c (i:=0) rfl .n):PickO _ _ _)) ((.c (j:=0) rfl .n):SelR _ _ _)
   ·
    refine r_pv rfl rfl (zg Try.underlying24 rfl sz3 rfl rfl)<|r_u rfl rfl (ze 0 ty3 rfl rfl rfl)<|r_pv rfl rfl (zua rfl rfl)<|r_pv rfl rfl (zl rfl rfl)<|zR rfl rfl (zb rfl) (fun h4=> ?_) (fun h4=> ?_)
    ·
     refine za rfl rfl<|za rfl rfl<|za rfl rfl<|za rfl rfl<|za rfl rfl<|za rfl rfl<|za rfl rfl<|za rfl rfl<|za rfl rfl<|r_pv rfl rfl (zl rfl rfl)<|zj ?_
     exact zca () (show True from by first|trivial|omega|simp_all) ((.e rfl (congrArg Value.bool (by exact Eq.symm (decide_eq_true (by omega)))) (.c rfl (.c rfl .n))):SubM _ _) (ho:=((.c (i:=0) rfl .n):PickO _ _ _)) ((.c (j:=0) rfl .n):SelR _ _ _)
    ·
     refine r_pv rfl rfl (zg Try.underlying24 rfl sz22 rfl rfl)<|r_u rfl rfl (ze 0 ty22 rfl rfl rfl)<|r_pv rfl rfl (zK Try.underlying22 rfl)<|r_pv rfl rfl (zg Try.underlying24 rfl sz3 rfl rfl)<|r_u rfl rfl (ze 0 ty3 rfl rfl rfl)<|r_pv rfl rfl (zg Try.underlying24 rfl sz3 rfl rfl)<|r_u rfl rfl (ze 0 ty3 rfl rfl rfl)<|r_pv rfl rfl (zga (z:=(w*h)) rfl rfl (w64 (by first|omega|(have:=Bl.mul_b (x:=w) (y:=h) (m:=64) (n:=64) (by omega) (by omega);omega))))<|r_pv rfl rfl (zCa rfl rfl)<|r_pv rfl rfl (zl rfl rfl)<|zj ?_
     exact zca () (show True from by first|trivial|omega|simp_all) ((.e rfl (congrArg Value.bool (by exact decide_eq_decide.2 (by constructor <;> intro k <;> omega))) (.c rfl (.c rfl .n))):SubM _ _) (ho:=((.c (i:=0) rfl .n):PickO _ _ _)) ((.c (j:=0) rfl .n):SelR _ _ _)
 ·
  rintro ⟨⟩ -
  try dsimp only
  refine zC rfl (fun h5=> ?_) (fun h5=> ?_)
  ·
   refine zi<|zc<|r_pv rfl rfl (zd rfl)<|zj<|zf<|zI<|zt ?_
   exact zD Try.results56 () trivial (zq rfl) (by rw [if_neg (fun k=>by unfold Bl.rok at k;omega)]) (ho:=(.n:PickO _ _ _)) (.n:SelR _ _ _)
  ·
   refine zy<|zf<|zi<|zi<|zEb 0 rfl .z<|zc<|r_pv rfl rfl (zg Try.underlying24 rfl sz22 rfl rfl)<|r_u rfl rfl (zn (j:=3) 0 ty22 rfl rfl rfl rfl)<|r_pv rfl rfl (zbb .n (.c rfl .n))<|zM rfl rfl (.c rfl (.c rfl .n)) ce73 (zSb (w:=w) (h:=h) (m:=m) (p:=p) (n:=n) (cap:=cap) (l:=l) (bb:=b1) (hn:=by assumption)) (.c (j:=1) rfl (.c (j:=0) rfl .n))<|zj<|zf<|zC rfl (fun hx=> ?_) (fun hx=> ?_)
   ·
    refine zi<|zc<|r_pv rfl rfl (zd rfl)<|zj<|zf<|zI<|zt ?_
    exact zD Try.results56 () trivial (zq rfl) (by rw [if_neg (fun k=>k.2.2.2.2 hx)]) (ho:=(.n:PickO _ _ _)) (.n:SelR _ _ _)
   ·
    refine zy<|zf<|zi<|zc<|r_pv rfl rfl (zd rfl)<|zj<|zf<|zI ?_
    exact zD Try.results56 () trivial (zq rfl) (by rw [if_pos (show Bl.rok w h m l from ⟨by omega,by omega,by omega,by omega,hx⟩)]) (ho:=(.n:PickO _ _ _)) (.n:SelR _ _ _)
end Go.Proofs.Ytefbbhiaalcjfaa.Sp
namespace Go.Proofs.Ytefbbhiaalcjfaa.Sp
open Go
set_option linter.unusedVariables false
set_option maxRecDepth 100000
set_option maxHeartbeats 1000000
theorem zCd {w:Int} {h:Int} {m:Int} {p:Option Addr} {n:Nat} {cap:Nat} {l:List Int} (hn:l.length=n):Con Try.prog 39 [.agg #[.int .i64 w,.int .i64 h,.int .i64 m,.slice p n cap]] [] [slF (rI .i64) p cap l] (Y:=Unit) (fun y=>True) (fun y=> .int .i64 (if Bl.rok w h m l then 0 else 1)) (fun y=>[]) (fun y=>[]):=by
 refine zr Try.func39 rfl rfl rfl (fun c=> ?_)
 show RunC _ _ _ _ _ [(0,.agg #[.int .i64 w,.int .i64 h,.int .i64 m,.slice p n cap])] [] [slF (rI .i64) p cap l]
 refine zea 0 rfl (fun hL0=> ?_)
 refine zi<|zc<|zQ rfl rfl (zV rfl rfl) (fun b1=> ?_)
 refine r_pv rfl rfl (zd rfl)<|zj<|zf<|zi<|zRa (X:=Unit) (fun x=>True) (fun x=>[(42,.bool (decide (¬((1≤w∧w≤64)∧(1≤h∧h≤64)∧(1≤m∧m≤65535)∧(n:Int)=w*h)))),(2,.int .i64 0),(1,.pointer (some ⟨b1,0,none⟩))]) (fun x=>[boxA b1 24 [.int .i64 w,.int .i64 h,.int .i64 m,.slice p n cap]]) (fun x=>[slF (rI .i64) p cap l]) ?_ ?_
 ·
  refine zc<|r_pv rfl rfl (zg Try.underlying24 rfl sz3 rfl rfl)<|r_u rfl rfl (ze 0 ty3 rfl rfl rfl)<|r_pv rfl rfl (zW rfl rfl)<|zR rfl rfl (zb rfl) (fun h2=> ?_) (fun h2=> ?_)
  ·
   refine za rfl rfl<|za rfl rfl<|za rfl rfl<|r_pv rfl rfl (zl rfl rfl)<|r_pv rfl rfl (zb rfl)<|za rfl rfl<|za rfl rfl<|za rfl rfl<|r_pv rfl rfl (zl rfl rfl)<|r_pv rfl rfl (zb rfl)<|za rfl rfl<|za rfl rfl<|za rfl rfl<|r_pv rfl rfl (zl rfl rfl)<|r_pv rfl rfl (zb rfl)<|za rfl rfl<|za rfl rfl<|za rfl rfl<|r_pv rfl rfl (zl rfl rfl)<|r_pv rfl rfl (zb rfl)<|za rfl rfl<|za rfl rfl<|za rfl rfl<|r_pv rfl rfl (zl rfl rfl)<|r_pv rfl rfl (zb rfl)<|za rfl rfl<|za rfl rfl<|za rfl rfl<|za rfl rfl<|za rfl rfl<|za rfl rfl<|za rfl rfl<|za rfl rfl<|za rfl rfl<|r_pv rfl rfl (zl rfl rfl)<|zj ?_
   exact zca () (show True from by first|trivial|omega|simp_all) ((.e rfl (congrArg Value.bool (by exact Eq.symm (decide_eq_true (by omega)))) (.c rfl (.c rfl .n))):SubM _ _) (ho:=((.c (i:=0) rfl .n):PickO _ _ _)) ((.c (j:=0) rfl .n):SelR _ _ _)
  ·
   refine r_pv rfl rfl (zg Try.underlying24 rfl sz3 rfl rfl)<|r_u rfl rfl (ze 0 ty3 rfl rfl rfl)<|r_pv rfl rfl (zua rfl rfl)<|r_pv rfl rfl (zl rfl rfl)<|zR rfl rfl (zb rfl) (fun h3=> ?_) (fun h3=> ?_)
   ·
    refine za rfl rfl<|za rfl rfl<|za rfl rfl<|r_pv rfl rfl (zl rfl rfl)<|r_pv rfl rfl (zb rfl)<|za rfl rfl<|za rfl rfl<|za rfl rfl<|r_pv rfl rfl (zl rfl rfl)<|r_pv rfl rfl (zb rfl)<|za rfl rfl<|za rfl rfl<|za rfl rfl<|r_pv rfl rfl (zl rfl rfl)<|r_pv rfl rfl (zb rfl)<|za rfl rfl<|za rfl rfl<|za rfl rfl<|r_pv rfl rfl (zl rfl rfl)<|r_pv rfl rfl (zb rfl)<|za rfl rfl<|za rfl rfl<|za rfl rfl<|za rfl rfl<|za rfl rfl<|za rfl rfl<|za rfl rfl<|za rfl rfl<|za rfl rfl<|r_pv rfl rfl (zl rfl rfl)<|zj ?_
    exact zca () (show True from by first|trivial|omega|simp_all) ((.e rfl (congrArg Value.bool (by exact Eq.symm (decide_eq_true (by omega)))) (.c rfl (.c rfl .n))):SubM _ _) (ho:=((.c (i:=0) rfl .n):PickO _ _ _)) ((.c (j:=0) rfl .n):SelR _ _ _)
   ·
    refine r_pv rfl rfl (zg Try.underlying24 rfl sz3 rfl rfl)<|r_u rfl rfl (ze 0 ty3 rfl rfl rfl)<|r_pv rfl rfl (zW rfl rfl)<|r_pv rfl rfl (zl rfl rfl)<|zR rfl rfl (zb rfl) (fun h4=> ?_) (fun h4=> ?_)
    ·
     refine za rfl rfl<|za rfl rfl<|za rfl rfl<|r_pv rfl rfl (zl rfl rfl)<|r_pv rfl rfl (zb rfl)<|za rfl rfl<|za rfl rfl<|za rfl rfl<|r_pv rfl rfl (zl rfl rfl)<|r_pv rfl rfl (zb rfl)<|za rfl rfl<|za rfl rfl<|za rfl rfl<|r_pv rfl rfl (zl rfl rfl)<|r_pv rfl rfl (zb rfl)<|za rfl rfl<|za rfl rfl<|za rfl rfl<|za rfl rfl<|za rfl rfl<|za rfl rfl<|za rfl rfl<|za rfl rfl<|za rfl rfl<|r_pv rfl rfl (zl rfl rfl)<|zj ?_
     exact zca () (show True from by first|trivial|omega|simp_all) ((.e rfl (congrArg Value.bool (by exact Eq.symm (decide_eq_true (by omega)))) (.c rfl (.c rfl .n))):SubM _ _) (ho:=((.c (i:=0) rfl .n):PickO _ _ _)) ((.c (j:=0) rfl .n):SelR _ _ _)
    ·
     refine r_pv rfl rfl (zg Try.underlying24 rfl sz3 rfl rfl)<|r_u rfl rfl (ze 0 ty3 rfl rfl rfl)<|r_pv rfl rfl (zua rfl rfl)<|r_pv rfl rfl (zl rfl rfl)<|zR rfl rfl (zb rfl) (fun h5=> ?_) (fun h5=> ?_)
     ·
      refine za rfl rfl<|za rfl rfl<|za rfl rfl<|r_pv rfl rfl (zl rfl rfl)<|r_pv rfl rfl (zb rfl)<|za rfl rfl<|za rfl rfl<|za rfl rfl<|r_pv rfl rfl (zl rfl rfl)<|r_pv rfl rfl (zb rfl)<|za rfl rfl<|za rfl rfl<|za rfl rfl<|za rfl rfl<|za rfl rfl<|za rfl rfl<|za rfl rfl<|za rfl rfl<|za rfl rfl<|r_pv rfl rfl (zl rfl rfl)<|zj ?_
      exact zca () (show True from by first|trivial|omega|simp_all) ((.e rfl (congrArg Value.bool (by exact Eq.symm (decide_eq_true (by omega)))) (.c rfl (.c rfl .n))):SubM _ _) (ho:=((.c (i:=0) rfl .n):PickO _ _ _)) ((.c (j:=0) rfl .n):SelR _ _ _)
     ·
      refine r_pv rfl rfl (zg Try.underlying24 rfl sz3 rfl rfl)<|r_u rfl rfl (ze 0 ty3 rfl rfl rfl)<|r_pv rfl rfl (zW rfl rfl)<|r_pv rfl rfl (zl rfl rfl)<|zR rfl rfl (zb rfl) (fun h6=> ?_) (fun h6=> ?_)
      ·
       refine za rfl rfl<|za rfl rfl<|za rfl rfl<|r_pv rfl rfl (zl rfl rfl)<|r_pv rfl rfl (zb rfl)<|za rfl rfl<|za rfl rfl<|za rfl rfl<|za rfl rfl<|za rfl rfl<|za rfl rfl<|za rfl rfl<|za rfl rfl<|za rfl rfl<|r_pv rfl rfl (zl rfl rfl)<|zj ?_
       exact zca () (show True from by first|trivial|omega|simp_all) ((.e rfl (congrArg Value.bool (by exact Eq.symm (decide_eq_true (by omega)))) (.c rfl (.c rfl .n))):SubM _ _) (ho:=((.c (i:=0) rfl .n):PickO _ _ _)) ((.c (j:=0) rfl .n):SelR _ _ _)
      ·
       refine r_pv rfl rfl (zg Try.underlying24 rfl sz3 rfl rfl)<|r_u rfl rfl (ze 0 ty3 rfl rfl rfl)<|r_pv rfl rfl (zua rfl rfl)<|r_pv rfl rfl (zl rfl rfl)<|zR rfl rfl (zb rfl) (fun h7=> ?_) (fun h7=> ?_)
       ·
        refine za rfl rfl<|za rfl rfl<|za rfl rfl<|za rfl rfl<|za rfl rfl<|za rfl rfl<|za rfl rfl<|za rfl rfl<|za rfl rfl<|r_pv rfl rfl (zl rfl rfl)<|zj ?_
        exact zca () (show True from by first|trivial|omega|simp_all) ((.e rfl (congrArg Value.bool (by exact Eq.symm (decide_eq_true (by omega)))) (.c rfl (.c rfl .n))):SubM _ _) (ho:=((.c (i:=0) rfl .n):PickO _ _ _)) ((.c (j:=0) rfl .n):SelR _ _ _)
       ·
        refine r_pv rfl rfl (zg Try.underlying24 rfl sz22 rfl rfl)<|r_u rfl rfl (ze 0 ty22 rfl rfl rfl)<|r_pv rfl rfl (zK Try.underlying22 rfl)<|r_pv rfl rfl (zg Try.underlying24 rfl sz3 rfl rfl)<|r_u rfl rfl (ze 0 ty3 rfl rfl rfl)<|r_pv rfl rfl (zg Try.underlying24 rfl sz3 rfl rfl)<|r_u rfl rfl (ze 0 ty3 rfl rfl rfl)<|r_pv rfl rfl (zga (z:=(w*h)) rfl rfl (w64 (by first|omega|(have:=Bl.mul_b (x:=w) (y:=h) (m:=64) (n:=64) (by omega) (by omega);omega))))<|r_pv rfl rfl (zCa rfl rfl)<|r_pv rfl rfl (zl rfl rfl)<|zj ?_
        exact zca () (show True from by first|trivial|omega|simp_all) ((.e rfl (congrArg Value.bool (by exact decide_eq_decide.2 (by constructor <;> intro k <;> omega))) (.c rfl (.c rfl .n))):SubM _ _) (ho:=((.c (i:=0) rfl .n):PickO _ _ _)) ((.c (j:=0) rfl .n):SelR _ _ _)
 ·
  rintro ⟨⟩ -
  try dsimp only
  refine zC rfl (fun hc=> ?_) (fun hc=> ?_)
  ·
   refine zi<|zc<|r_pv rfl rfl (zd rfl)<|zj<|zf<|zI<|zt ?_
   exact zD Try.results39 () trivial (zq rfl) (by rw [if_neg (fun k=>by unfold Bl.rok at k;omega)]) (ho:=(.n:PickO _ _ _)) (.n:SelR _ _ _)
  ·
   refine zy<|zf<|zi<|zi<|zc<|r_pv rfl rfl (zd rfl)<|zj<|zf<|zB<|zna (X:=Nat) (fun x:Nat=>x≤n∧∀j,j<x→¬(l.getD j 0<0∨m<l.getD j 0)) (fun x=>[(3,.int .i64 ((x:Nat):Int)),(1,.pointer (some ⟨b1,0,none⟩))]) (fun x=>[boxA b1 24 [.int .i64 w,.int .i64 h,.int .i64 m,.slice p n cap]]) (fun x=>[slF (rI .i64) p cap l]) (fun x:Nat=>n - x) 0 (show 0≤n∧∀j,j<0→¬(l.getD j 0<0∨m<l.getD j 0) from by exact ⟨by omega,fun j h=>by omega⟩) ((.e rfl (by first|rfl|(congr 1;omega)|simp_all) (.c rfl .n)):SubM _ _) (ho:=((.c (i:=0) rfl .n):PickO _ _ _)) ((.c (j:=0) rfl .n):SelR _ _ _) ?_
   rintro i hI
   replace hI:i≤n∧∀j,j<i→¬(l.getD j 0<0∨m<l.getD j 0):=hI
   try dsimp only
   obtain ⟨hi,hall⟩:=hI
   refine zi<|zi<|zc<|r_pv rfl rfl (zb rfl)<|r_pv rfl rfl (zg Try.underlying24 rfl sz22 rfl rfl)<|r_u rfl rfl (ze 0 ty22 rfl rfl rfl)<|r_pv rfl rfl (zK Try.underlying22 rfl)<|r_pv rfl rfl (zW rfl rfl)<|zj<|zf<|zC rfl (fun h8=> ?_) (fun h8=> ?_)
   ·
    refine zy<|zf<|zi<|zB<|zRa (X:=Unit) (fun x=>True) (fun x=>[(65,.bool (decide (l.getD i 0<0∨m<l.getD i 0))),(3,.int .i64 ((i:Nat):Int)),(1,.pointer (some ⟨b1,0,none⟩))]) (fun x=>[boxA b1 24 [.int .i64 w,.int .i64 h,.int .i64 m,.slice p n cap]]) (fun x=>[slF (rI .i64) p cap l]) ?_ ?_
    ·
     refine zia (OW:=[]) (O:=[boxA b1 24 [.int .i64 w,.int .i64 h,.int .i64 m,.slice p n cap]]) 100000 mixed (.then (.block (.then (.then (.block (.then .ret)))))) (by kernel_rfl)<|d_pv 0 rfl rfl (by kernel_rfl) (by kernel_rfl) rfl rfl (zg Try.underlying24 rfl sz22 rfl rfl)<|d_u 1 rfl rfl (by kernel_rfl) (by kernel_rfl) rfl rfl (ze 0 ty22 rfl rfl rfl)<|d_pv 2 rfl rfl (by kernel_rfl) (by kernel_rfl) rfl rfl (zb rfl)<|zqa (x0:=(l.getD i 0)) 3 rfl rfl (by kernel_rfl) (by kernel_rfl) 0 i rfl Try.underlying22 sz3 rfl rfl rfl (by first|rfl|assumption|(simp_all;done)|omega) rfl rfl (gD (d:=0) (by first|omega|(have:=Bl.mul_b (x:=w) (y:=h) (m:=64) (n:=64) (by omega) (by omega);omega))) (fun b9 o10 hok11=> ?_)
     replace hok11:=zk.1 hok11
     refine d_u 4 rfl rfl (by kernel_rfl) (by kernel_rfl) rfl rfl (zn (j:=0) 0 ty3 rfl rfl rfl rfl)<|d_pv 5 rfl rfl (by kernel_rfl) (by kernel_rfl) rfl rfl (zW rfl rfl)<|zKc 6 rfl rfl (by kernel_rfl) (by kernel_rfl) rfl rfl (zb rfl) (fun h12=> ?_) (fun h12=> ?_)
     ·
      refine zpa 7 rfl rfl (by kernel_rfl) (by kernel_rfl) rfl rfl<|zpa 8 rfl rfl (by kernel_rfl) (by kernel_rfl) rfl rfl<|zpa 9 rfl rfl (by kernel_rfl) (by kernel_rfl) rfl rfl<|zpa 10 rfl rfl (by kernel_rfl) (by kernel_rfl) rfl rfl<|zpa 11 rfl rfl (by kernel_rfl) (by kernel_rfl) rfl rfl<|zpa 12 rfl rfl (by kernel_rfl) (by kernel_rfl) rfl rfl<|zpa 13 rfl rfl (by kernel_rfl) (by kernel_rfl) rfl rfl<|zpa 14 rfl rfl (by kernel_rfl) (by kernel_rfl) rfl rfl<|d_pv 15 rfl rfl (by kernel_rfl) (by kernel_rfl) rfl rfl (zl rfl rfl)<|zfa (by kernel_rfl) ?_
      exact zca () (show True from by first|trivial|omega|simp_all) ((.e rfl (congrArg Value.bool (by exact Eq.symm (decide_eq_true (by omega)))) (.c rfl (.c rfl .n))):SubM _ _) (ho:=((.c (i:=0) rfl .n):PickO _ _ _)) ((.c (j:=1) rfl .n):SelR _ _ _)
     ·
      refine d_pv 7 rfl rfl (by kernel_rfl) (by kernel_rfl) rfl rfl (zg Try.underlying24 rfl sz22 rfl rfl)<|d_u 8 rfl rfl (by kernel_rfl) (by kernel_rfl) rfl rfl (ze 0 ty22 rfl rfl rfl)<|d_pv 9 rfl rfl (by kernel_rfl) (by kernel_rfl) rfl rfl (zb rfl)<|zqa (x0:=(l.getD i 0)) 10 rfl rfl (by kernel_rfl) (by kernel_rfl) 1 i rfl Try.underlying22 sz3 rfl rfl rfl (by first|rfl|assumption|(simp_all;done)|omega) rfl rfl (gD (d:=0) (by first|omega|(have:=Bl.mul_b (x:=w) (y:=h) (m:=64) (n:=64) (by omega) (by omega);omega))) (fun b13 o14 hok15=> ?_)
      replace hok15:=zk.1 hok15
      refine d_u 11 rfl rfl (by kernel_rfl) (by kernel_rfl) rfl rfl (zn (j:=0) 0 ty3 rfl rfl rfl rfl)<|d_pv 12 rfl rfl (by kernel_rfl) (by kernel_rfl) rfl rfl (zg Try.underlying24 rfl sz3 rfl rfl)<|d_u 13 rfl rfl (by kernel_rfl) (by kernel_rfl) rfl rfl (ze 0 ty3 rfl rfl rfl)<|d_pv 14 rfl rfl (by kernel_rfl) (by kernel_rfl) rfl rfl (zua rfl rfl)<|d_pv 15 rfl rfl (by kernel_rfl) (by kernel_rfl) rfl rfl (zl rfl rfl)<|zfa (by kernel_rfl) ?_
      exact zca () (show True from by first|trivial|omega|simp_all) ((.e rfl (congrArg Value.bool (by exact decide_eq_decide.2 (by constructor <;> intro k <;> omega))) (.c rfl (.c rfl .n))):SubM _ _) (ho:=((.c (i:=0) rfl .n):PickO _ _ _)) ((.c (j:=2) rfl .n):SelR _ _ _)
    ·
     rintro ⟨⟩ -
     try dsimp only
     refine zC rfl (fun hx=> ?_) (fun hx=> ?_)
     ·
      refine zi<|zc<|r_pv rfl rfl (zd rfl)<|zj<|zf<|zI<|zba<|zt<|zt<|zba<|zt ?_
      exact zD Try.results39 () trivial (zq rfl) (by rw [if_neg (fun k=>k.2.2.2.2 ⟨l.getD i 0,Big.getD_mem (by omega),hx⟩)]) (ho:=(.n:PickO _ _ _)) (.n:SelR _ _ _)
     ·
      refine zy<|zS<|zf<|zc<|r_pv rfl rfl (zb rfl)<|r_pv rfl rfl (zz (z:=(((i+1):Nat):Int)) rfl rfl (w64 (by first|omega|(have:=Bl.mul_b (x:=w) (y:=h) (m:=64) (n:=64) (by omega) (by omega);omega))))<|r_pv rfl rfl (zd rfl)<|zj<|zZ (i+1) (show (i+1)≤n∧∀j,j<(i+1)→¬(l.getD j 0<0∨m<l.getD j 0) from by refine ⟨by omega,fun j hj=> ?_⟩;by_cases e:j=i;subst e;exact hx;exact hall j (by omega)) (by show n - (i+1)<n - i;omega) ((.c rfl (.c rfl .n)):SubM _ _) (ho:=((.c (i:=0) rfl .n):PickO _ _ _)) ((.c (j:=0) rfl .n):SelR _ _ _)
   ·
    refine zha<|zm<|zm<|zv<|zf<|zi<|zc<|r_pv rfl rfl (zd rfl)<|zj<|zf<|zI ?_
    exact zD Try.results39 () trivial (zq rfl) (by rw [if_pos (show Bl.rok w h m l from ⟨by omega,by omega,by omega,by omega,fun ⟨g,hg,hb⟩=>by obtain ⟨j,hj,e⟩:=Big.mem_getD hg;have:=hall j (by omega);rw [e] at this;exact absurd hb this⟩)]) (ho:=(.n:PickO _ _ _)) (.n:SelR _ _ _)
theorem zqb {w:Int} {h:Int} {m:Int} {p:Option Addr} {n:Nat} {cap:Nat} {l:List Int} {th:Int} (hn:l.length=n):Con Try.prog 33 [.agg #[.int .i64 w,.int .i64 h,.int .i64 m,.slice p n cap],.int .i64 th] [] [slF (rI .i64) p cap l] (Y:=Unit) (fun y=>True) (fun y=> .int .i64 (if Bl.rok w h m l then (if 0≤th∧th≤65536 then 0 else 2) else 1)) (fun y=>[]) (fun y=>[]):=by
 refine zr Try.func33 rfl rfl rfl (fun c=> ?_)
 show RunC _ _ _ _ _ [(0,.agg #[.int .i64 w,.int .i64 h,.int .i64 m,.slice p n cap]),(1,.int .i64 th)] [] [slF (rI .i64) p cap l]
 refine zea 0 rfl (fun hL0=> ?_)
 refine zi<|zc<|zQ rfl rfl (zV rfl rfl) (fun b1=> ?_)
 refine r_pv rfl rfl (zd rfl)<|zj<|zf<|zi<|zi<|zc<|r_u rfl rfl (zh 0 ty24 rfl rfl (.take (.take (.take (.take .nil)))))<|zM rfl rfl (.c rfl .n) ce56 (zfe (w:=w) (h:=h) (m:=m) (p:=p) (n:=n) (cap:=cap) (l:=l) (hn:=by assumption)) (.c (j:=0) rfl .n)<|r_pv rfl rfl (zd rfl)<|zj<|zf<|zi<|zc<|r_pv rfl rfl (zb rfl)<|r_pv rfl rfl (zCa rfl rfl)<|zj<|zf<|zC rfl (fun hc=> ?_) (fun hc=> ?_)
 ·
  have hno:¬Bl.rok w h m l:=fun k=>hc (if_pos k)
  refine zi<|zc<|r_pv rfl rfl (zb rfl)<|r_pv rfl rfl (zd rfl)<|zj<|zf<|zI<|zt ?_
  exact zD Try.results33 () trivial (zq rfl) (by simp only [if_neg hno]) (ho:=(.n:PickO _ _ _)) (.n:SelR _ _ _)
 ·
  have hok:Bl.rok w h m l:=Bl.c0.1 (Decidable.not_not.1 hc)
  refine zy<|zf<|zi<|zRa (X:=Unit) (fun x=>True) (fun x=>[(16,.bool (decide (¬(0≤th∧th≤65536)))),(4,.int .i64 0)]) (fun x=>[boxA b1 24 [.int .i64 w,.int .i64 h,.int .i64 m,.slice p n cap]]) (fun x=>[slF (rI .i64) p cap l]) ?_ ?_
  ·
   refine zc<|r_pv rfl rfl (zb rfl)<|r_pv rfl rfl (zW rfl rfl)<|zR rfl rfl (zb rfl) (fun h2=> ?_) (fun h2=> ?_)
   ·
    refine za rfl rfl<|za rfl rfl<|r_pv rfl rfl (zl rfl rfl)<|zj ?_
    exact zca () (show True from by first|trivial|omega|simp_all) ((.e rfl (congrArg Value.bool (by exact Eq.symm (decide_eq_true (by omega)))) (.c rfl .n)):SubM _ _) (ho:=((.c (i:=0) rfl .n):PickO _ _ _)) ((.c (j:=0) rfl .n):SelR _ _ _)
   ·
    refine r_pv rfl rfl (zb rfl)<|r_pv rfl rfl (zua rfl rfl)<|r_pv rfl rfl (zl rfl rfl)<|zj ?_
    exact zca () (show True from by first|trivial|omega|simp_all) ((.e rfl (congrArg Value.bool (by exact decide_eq_decide.2 (by constructor <;> intro k <;> omega))) (.c rfl .n)):SubM _ _) (ho:=((.c (i:=0) rfl .n):PickO _ _ _)) ((.c (j:=0) rfl .n):SelR _ _ _)
  ·
   rintro ⟨⟩ -
   try dsimp only
   refine zC rfl (fun ht=> ?_) (fun ht=> ?_)
   ·
    refine zi<|zc<|r_pv rfl rfl (zd rfl)<|zj<|zf<|zI<|zt ?_
    exact zD Try.results33 () trivial (zq rfl) (by rw [if_pos hok,if_neg ht]) (ho:=(.n:PickO _ _ _)) (.n:SelR _ _ _)
   ·
    refine zy<|zf<|zi<|zc<|r_pv rfl rfl (zd rfl)<|zj<|zf<|zI ?_
    exact zD Try.results33 () trivial (zq rfl) (by rw [if_pos hok,if_pos (Decidable.not_not.1 ht)]) (ho:=(.n:PickO _ _ _)) (.n:SelR _ _ _)
theorem zge {w:Int} {h:Int} {m:Int} {p:Option Addr} {n:Nat} {cap:Nat} {l:List Int} {th:Int} (hn:l.length=n):Con Try.prog 16 [.agg #[.int .i64 w,.int .i64 h,.int .i64 m,.slice p n cap],.int .i64 th] [] [slF (rI .i64) p cap l] (Y:=Unit) (fun y=>True) (fun y=> .int .i64 (if Bl.rok w h m l then (if 0≤th∧th≤65536 then 0 else 2) else 1)) (fun y=>[]) (fun y=>[]):=by
 refine zr Try.func16 rfl rfl rfl (fun c=> ?_)
 show RunC _ _ _ _ _ [(0,.agg #[.int .i64 w,.int .i64 h,.int .i64 m,.slice p n cap]),(1,.int .i64 th)] [] [slF (rI .i64) p cap l]
 refine zea 0 rfl (fun hL0=> ?_)
 refine zi<|zc<|zQ rfl rfl (zV rfl rfl) (fun b1=> ?_)
 refine r_pv rfl rfl (zd rfl)<|zj<|zf<|zi<|zc<|r_u rfl rfl (zh 0 ty24 rfl rfl (.take (.take (.take (.take .nil)))))<|zM rfl rfl (.c rfl .n) ce39 (zCd (w:=w) (h:=h) (m:=m) (p:=p) (n:=n) (cap:=cap) (l:=l) (hn:=by assumption)) (.c (j:=0) rfl .n)<|r_pv rfl rfl (zd rfl)<|zj<|zf<|zi<|zi<|zc<|r_pv rfl rfl (zb rfl)<|r_pv rfl rfl (zCa rfl rfl)<|zj<|zf<|zC rfl (fun hc=> ?_) (fun hc=> ?_)
 ·
  have hno:¬Bl.rok w h m l:=fun k=>hc (if_pos k)
  refine zi<|zc<|r_pv rfl rfl (zb rfl)<|r_pv rfl rfl (zd rfl)<|zj<|zf<|zI<|zt ?_
  exact zD Try.results16 () trivial (zq rfl) (by simp only [if_neg hno]) (ho:=(.n:PickO _ _ _)) (.n:SelR _ _ _)
 ·
  have hok:Bl.rok w h m l:=Bl.c0.1 (Decidable.not_not.1 hc)
  refine zy<|zf<|zi<|zRa (X:=Unit) (fun x=>True) (fun x=>[(16,.bool (decide (¬(0≤th∧th≤65536)))),(4,.int .i64 0)]) (fun x=>[boxA b1 24 [.int .i64 w,.int .i64 h,.int .i64 m,.slice p n cap]]) (fun x=>[slF (rI .i64) p cap l]) ?_ ?_
  ·
   refine zc<|r_pv rfl rfl (zb rfl)<|r_pv rfl rfl (zW rfl rfl)<|zR rfl rfl (zb rfl) (fun h2=> ?_) (fun h2=> ?_)
   ·
    refine za rfl rfl<|za rfl rfl<|r_pv rfl rfl (zl rfl rfl)<|zj ?_
    exact zca () (show True from by first|trivial|omega|simp_all) ((.e rfl (congrArg Value.bool (by exact Eq.symm (decide_eq_true (by omega)))) (.c rfl .n)):SubM _ _) (ho:=((.c (i:=0) rfl .n):PickO _ _ _)) ((.c (j:=0) rfl .n):SelR _ _ _)
   ·
    refine r_pv rfl rfl (zb rfl)<|r_pv rfl rfl (zua rfl rfl)<|r_pv rfl rfl (zl rfl rfl)<|zj ?_
    exact zca () (show True from by first|trivial|omega|simp_all) ((.e rfl (congrArg Value.bool (by exact decide_eq_decide.2 (by constructor <;> intro k <;> omega))) (.c rfl .n)):SubM _ _) (ho:=((.c (i:=0) rfl .n):PickO _ _ _)) ((.c (j:=0) rfl .n):SelR _ _ _)
  ·
   rintro ⟨⟩ -
   try dsimp only
   refine zC rfl (fun ht=> ?_) (fun ht=> ?_)
   ·
    refine zi<|zc<|r_pv rfl rfl (zd rfl)<|zj<|zf<|zI<|zt ?_
    exact zD Try.results16 () trivial (zq rfl) (by rw [if_pos hok,if_neg ht]) (ho:=(.n:PickO _ _ _)) (.n:SelR _ _ _)
   ·
    refine zy<|zf<|zi<|zc<|r_pv rfl rfl (zd rfl)<|zj<|zf<|zI ?_
    exact zD Try.results16 () trivial (zq rfl) (by rw [if_pos hok,if_pos (Decidable.not_not.1 ht)]) (ho:=(.n:PickO _ _ _)) (.n:SelR _ _ _)
end Go.Proofs.Ytefbbhiaalcjfaa.Sp
namespace Go.Proofs.Ytefbbhiaalcjfaa.Sp
open Go
set_option linter.unusedVariables false
set_option maxRecDepth 100000
set_option maxHeartbeats 1000000
theorem zZb {g:Int} {th:Int} {tb:Nat}:Con Try.prog 57 [.int .i64 g,.pointer (some ⟨tb,0,none⟩)] [] [atF tb 0 [.int .i64 th]] (Y:=Unit) (fun y=>True) (fun y=> .bool (decide (th≤g))) (fun y=>[]) (fun y=>[]):=by
 refine zr Try.func57 rfl rfl rfl (fun c=> ?_)
 show RunC _ _ _ _ _ [(0,.int .i64 g),(1,.pointer (some ⟨tb,0,none⟩))] [] [atF tb 0 [.int .i64 th]]
 refine zi<|zc<|r_pv rfl rfl (zd rfl)<|zj<|zf<|zi<|zc<|r_pv rfl rfl (zb rfl)<|r_u rfl rfl (zn (j:=0) 0 ty3 rfl rfl rfl rfl)<|r_pv rfl rfl (zGa rfl rfl)<|r_pv rfl rfl (zd rfl)<|zj<|zf<|zI ?_
 exact zD Try.results57 () trivial (zq rfl) rfl (ho:=(.n:PickO _ _ _)) (.n:SelR _ _ _)
theorem zHc {g:Int} {th:Int} {tb:Nat}:Con Try.prog 37 [.int .i64 g,.pointer (some ⟨tb,0,none⟩)] [] [atF tb 0 [.int .i64 th]] (Y:=Unit) (fun y=>True) (fun y=> .bool (decide (g<th))) (fun y=>[]) (fun y=>[]):=by
 refine zr Try.func37 rfl rfl rfl (fun c=> ?_)
 show RunC _ _ _ _ _ [(0,.int .i64 g),(1,.pointer (some ⟨tb,0,none⟩))] [] [atF tb 0 [.int .i64 th]]
 refine zi<|zc<|r_pv rfl rfl (zd rfl)<|zj<|zf<|zi<|zc<|r_pv rfl rfl (zb rfl)<|r_u rfl rfl (zn (j:=0) 0 ty3 rfl rfl rfl rfl)<|r_pv rfl rfl (zW rfl rfl)<|r_pv rfl rfl (zd rfl)<|zj<|zf<|zI ?_
 exact zD Try.results37 () trivial (zq rfl) rfl (ho:=(.n:PickO _ _ _)) (.n:SelR _ _ _)
theorem zrc {x0:Int} {y0:Int} {g:Int} (hx:0≤x0∧x0≤63) (hy:0≤y0∧y0≤63) (hg:0≤g∧g≤65535):Con Try.prog 30 [.int .i64 x0,.int .i64 y0,.int .i64 g] [] [] (Y:=Unit) (fun y=>True) (fun y=> .agg #[.int .i64 1,.int .i64 x0,.int .i64 y0,.int .i64 x0,.int .i64 y0,.int .i64 x0,.int .i64 y0,.int .i64 (x0*x0),.int .i64 (x0*y0),.int .i64 (y0*y0),.int .i64 g,.int .i64 (g*x0),.int .i64 (g*y0)]) (fun y=>[]) (fun y=>[]):=by
 refine zr Try.func30 rfl rfl rfl (fun c=> ?_)
 show RunC _ _ _ _ _ [(0,.int .i64 x0),(1,.int .i64 y0),(2,.int .i64 g)] [] []
 have p1:=Bl.mul_b hx hx
 have p2:=Bl.mul_b hx hy
 have p3:=Bl.mul_b hy hy
 have p4:=Bl.mul_b hg hx
 have p5:=Bl.mul_b hg hy
 refine zi<|zc<|zQ rfl rfl (zE zr51 rfl) (fun b1=> ?_)
 refine zj<|zf<|zi<|zc<|r_pv rfl rfl (zb rfl)<|r_pv rfl rfl (zb rfl)<|r_pv rfl rfl (zb rfl)<|r_pv rfl rfl (zb rfl)<|r_pv rfl rfl (zb rfl)<|r_pv rfl rfl (zb rfl)<|r_pv rfl rfl (zb rfl)<|r_pv rfl rfl (zb rfl)<|r_pv rfl rfl (zga (z:=(x0*x0)) rfl rfl (w64 (by omega)))<|r_pv rfl rfl (zb rfl)<|r_pv rfl rfl (zb rfl)<|r_pv rfl rfl (zga (z:=(x0*y0)) rfl rfl (w64 (by omega)))<|r_pv rfl rfl (zb rfl)<|r_pv rfl rfl (zb rfl)<|r_pv rfl rfl (zga (z:=(y0*y0)) rfl rfl (w64 (by omega)))<|r_pv rfl rfl (zb rfl)<|r_pv rfl rfl (zb rfl)<|r_pv rfl rfl (zb rfl)<|r_pv rfl rfl (zga (z:=(g*x0)) rfl rfl (w64 (by omega)))<|r_pv rfl rfl (zb rfl)<|r_pv rfl rfl (zb rfl)<|r_pv rfl rfl (zga (z:=(g*y0)) rfl rfl (w64 (by omega)))<|r_pv rfl rfl (zG zr51 rfl Try.underlying51 (.c sz3 (.c sz3 (.c sz3 (.c sz3 (.c sz3 (.c sz3 (.c sz3 (.c sz3 (.c sz3 (.c sz3 (.c sz3 (.c sz3 (.c sz3 .n))))))))))))) (.c rfl (.c rfl (.c rfl (.c rfl (.c rfl (.c rfl (.c rfl (.c rfl (.c rfl (.c rfl (.c rfl (.c rfl (.c rfl .n))))))))))))) (.c rfl rfl rfl (.take .nil) (.c rfl rfl rfl (.skip (.take .nil)) (.c rfl rfl rfl (.skip (.skip (.take .nil))) (.c rfl rfl rfl (.skip (.skip (.skip (.take .nil)))) (.c rfl rfl rfl (.skip (.skip (.skip (.skip (.take .nil))))) (.c rfl rfl rfl (.skip (.skip (.skip (.skip (.skip (.take .nil)))))) (.c rfl rfl rfl (.skip (.skip (.skip (.skip (.skip (.skip (.take .nil))))))) (.c rfl rfl rfl (.skip (.skip (.skip (.skip (.skip (.skip (.skip (.take .nil)))))))) (.c rfl rfl rfl (.skip (.skip (.skip (.skip (.skip (.skip (.skip (.skip (.take .nil))))))))) (.c rfl rfl rfl (.skip (.skip (.skip (.skip (.skip (.skip (.skip (.skip (.skip (.take .nil)))))))))) (.c rfl rfl rfl (.skip (.skip (.skip (.skip (.skip (.skip (.skip (.skip (.skip (.skip (.take .nil))))))))))) (.c rfl rfl rfl (.skip (.skip (.skip (.skip (.skip (.skip (.skip (.skip (.skip (.skip (.skip (.take .nil)))))))))))) (.c rfl rfl rfl (.skip (.skip (.skip (.skip (.skip (.skip (.skip (.skip (.skip (.skip (.skip (.skip (.take .nil))))))))))))) .n))))))))))))))<|zo 0 rfl rfl rfl rfl rfl sz51 rfl (.take (.take (.take (.take (.take (.take (.take (.take (.take (.take (.take (.take (.take .nil))))))))))))) .z<|zj<|zf<|zI ?_
 exact zD Try.results30 () trivial (zu 0 ty51 rfl rfl (.take (.take (.take (.take (.take (.take (.take (.take (.take (.take (.take (.take (.take .nil)))))))))))))) rfl (ho:=(.n:PickO _ _ _)) (.n:SelR _ _ _)
end Go.Proofs.Ytefbbhiaalcjfaa.Sp
namespace Go.Proofs.Ytefbbhiaalcjfaa.Sp
open Go
set_option linter.unusedVariables false
set_option maxRecDepth 100000
set_option maxHeartbeats 1000000
theorem zpf:Con Try.prog 58 [] [] [] (Y:=(Option Addr)×Nat) (fun y=>True) (fun y=> .slice (y.1) 4 (y.2)) (fun y=>[]) (fun y=>[slF (rI2 .i64) (y.1) (y.2) ([((1:Int),(0:Int)),(-1,0),(0,1),(0,-1)])]):=by
 refine zr Try.func58 rfl rfl rfl (fun c=> ?_)
 show RunC _ _ _ _ _ [] [] []
 refine zi<|zc<|r_pv rfl rfl (zd rfl)<|zj<|zf<|zi<|zc<|r_pv rfl rfl (zma zr90 rfl Try.underlying90 sz3 (.c rfl (.c rfl .n)) (.c rfl rfl rfl (.take .nil) (.c rfl rfl rfl (.skip (.take .nil)) .n)))<|r_pv rfl rfl (zma zr90 rfl Try.underlying90 sz3 (.c rfl (.c rfl .n)) (.c rfl rfl rfl (.take .nil) (.c rfl rfl rfl (.skip (.take .nil)) .n)))<|r_pv rfl rfl (zma zr90 rfl Try.underlying90 sz3 (.c rfl (.c rfl .n)) (.c rfl rfl rfl (.take .nil) (.c rfl rfl rfl (.skip (.take .nil)) .n)))<|r_pv rfl rfl (zma zr90 rfl Try.underlying90 sz3 (.c rfl (.c rfl .n)) (.c rfl rfl rfl (.take .nil) (.c rfl rfl rfl (.skip (.take .nil)) .n)))<|zxa rfl rfl (zL (enc:=fun z:Int×Int=>[.int .i64 z.1,.int .i64 z.2]) (ok:=fun z=>InK .i64 z.1∧InK .i64 z.2) (h1:=fun _=>rfl) (h2:=fun _=>rfl) (k:=4) Try.underlying75 inf90 rfl (by decide) (by decide) (by decide) (.c (x:=(1,0)) rfl rfl (fun _ _=>by exact ⟨zk.2 (by first|omega|decide|(dsimp only;omega)),zk.2 (by first|omega|decide|(dsimp only;omega))⟩) (.c (x:=((-1),0)) rfl rfl (fun _ _=>by exact ⟨zk.2 (by first|omega|decide|(dsimp only;omega)),zk.2 (by first|omega|decide|(dsimp only;omega))⟩) (.c (x:=(0,1)) rfl rfl (fun _ _=>by exact ⟨zk.2 (by first|omega|decide|(dsimp only;omega)),zk.2 (by first|omega|decide|(dsimp only;omega))⟩) (.c (x:=(0,(-1))) rfl rfl (fun _ _=>by exact ⟨zk.2 (by first|omega|decide|(dsimp only;omega)),zk.2 (by first|omega|decide|(dsimp only;omega))⟩) .n))))) (fun b1 _=> ?_)
 refine r_pv rfl rfl (zd rfl)<|zj<|zf<|zI<|zTa 0 rfl .z ?_
 exact zD Try.results58 (some ⟨b1,0,none⟩,4) trivial (zq rfl) rfl (ho:=(.n:PickO _ _ _)) ((.c (j:=0) rfl .n):SelR _ _ _)
end Go.Proofs.Ytefbbhiaalcjfaa.Sp
namespace Go.Proofs.Ytefbbhiaalcjfaa.Sp
open Go
set_option linter.unusedVariables false
set_option maxRecDepth 100000
set_option maxHeartbeats 1000000
theorem zSe:Con Try.prog 58 [] [] [] (Y:=(Option Addr)×Nat) (fun y=>True) (fun y=> .slice (y.1) 4 (y.2)) (fun y=>[rowA 90 (rI2 .i64) (y.1) (y.2) ([((1:Int),(0:Int)),(-1,0),(0,1),(0,-1)])]) (fun y=>[]):=by
 refine zr Try.func58 rfl rfl rfl (fun c=> ?_)
 show RunC _ _ _ _ _ [] [] []
 refine zi<|zc<|r_pv rfl rfl (zd rfl)<|zj<|zf<|zi<|zc<|r_pv rfl rfl (zma zr90 rfl Try.underlying90 sz3 (.c rfl (.c rfl .n)) (.c rfl rfl rfl (.take .nil) (.c rfl rfl rfl (.skip (.take .nil)) .n)))<|r_pv rfl rfl (zma zr90 rfl Try.underlying90 sz3 (.c rfl (.c rfl .n)) (.c rfl rfl rfl (.take .nil) (.c rfl rfl rfl (.skip (.take .nil)) .n)))<|r_pv rfl rfl (zma zr90 rfl Try.underlying90 sz3 (.c rfl (.c rfl .n)) (.c rfl rfl rfl (.take .nil) (.c rfl rfl rfl (.skip (.take .nil)) .n)))<|r_pv rfl rfl (zma zr90 rfl Try.underlying90 sz3 (.c rfl (.c rfl .n)) (.c rfl rfl rfl (.take .nil) (.c rfl rfl rfl (.skip (.take .nil)) .n)))<|zxa rfl rfl (zL (enc:=fun z:Int×Int=>[.int .i64 z.1,.int .i64 z.2]) (ok:=fun z=>InK .i64 z.1∧InK .i64 z.2) (h1:=fun _=>rfl) (h2:=fun _=>rfl) (k:=4) Try.underlying75 inf90 rfl (by decide) (by decide) (by decide) (.c (x:=(1,0)) rfl rfl (fun _ _=>by exact ⟨zk.2 (by first|omega|decide|(dsimp only;omega)),zk.2 (by first|omega|decide|(dsimp only;omega))⟩) (.c (x:=((-1),0)) rfl rfl (fun _ _=>by exact ⟨zk.2 (by first|omega|decide|(dsimp only;omega)),zk.2 (by first|omega|decide|(dsimp only;omega))⟩) (.c (x:=(0,1)) rfl rfl (fun _ _=>by exact ⟨zk.2 (by first|omega|decide|(dsimp only;omega)),zk.2 (by first|omega|decide|(dsimp only;omega))⟩) (.c (x:=(0,(-1))) rfl rfl (fun _ _=>by exact ⟨zk.2 (by first|omega|decide|(dsimp only;omega)),zk.2 (by first|omega|decide|(dsimp only;omega))⟩) .n))))) (fun b1 _=> ?_)
 refine r_pv rfl rfl (zd rfl)<|zj<|zf<|zI ?_
 exact zD Try.results58 (some ⟨b1,0,none⟩,4) trivial (zq rfl) rfl (ho:=((.c (i:=0) rfl .n):PickO _ _ _)) (.n:SelR _ _ _)
theorem zTe:Con Try.prog 38 [] [] [] (Y:=(Option Addr)×Nat) (fun y=>True) (fun y=> .slice (y.1) 8 (y.2)) (fun y=>[]) (fun y=>[slF (rI2 .i64) (y.1) (y.2) ([((1:Int),(0:Int)),(-1,0),(0,1),(0,-1)]++[(1,1),(-1,1),(1,-1),(-1,-1)])]):=by
 refine zr Try.func38 rfl rfl rfl (fun c=> ?_)
 show RunC _ _ _ _ _ [] [] []
 refine zi<|zc<|r_pv rfl rfl (zd rfl)<|zj<|zf<|zi<|zc<|zA rfl rfl (.n) ce58 (zSe) (.n) ?_
 rintro ⟨p31,c32⟩ -
 dsimp only [List.append_eq,List.nil_append,List.cons_append]
 refine r_pv rfl rfl (zma zr90 rfl Try.underlying90 sz3 (.c rfl (.c rfl .n)) (.c rfl rfl rfl (.take .nil) (.c rfl rfl rfl (.skip (.take .nil)) .n)))<|r_pv rfl rfl (zma zr90 rfl Try.underlying90 sz3 (.c rfl (.c rfl .n)) (.c rfl rfl rfl (.take .nil) (.c rfl rfl rfl (.skip (.take .nil)) .n)))<|r_pv rfl rfl (zma zr90 rfl Try.underlying90 sz3 (.c rfl (.c rfl .n)) (.c rfl rfl rfl (.take .nil) (.c rfl rfl rfl (.skip (.take .nil)) .n)))<|r_pv rfl rfl (zma zr90 rfl Try.underlying90 sz3 (.c rfl (.c rfl .n)) (.c rfl rfl rfl (.take .nil) (.c rfl rfl rfl (.skip (.take .nil)) .n)))<|zxa rfl rfl (zL (enc:=fun z:Int×Int=>[.int .i64 z.1,.int .i64 z.2]) (ok:=fun z=>InK .i64 z.1∧InK .i64 z.2) (h1:=fun _=>rfl) (h2:=fun _=>rfl) (k:=4) Try.underlying75 inf90 rfl (by decide) (by decide) (by decide) (.c (x:=(1,1)) rfl rfl (fun _ _=>by exact ⟨zk.2 (by first|omega|decide|(dsimp only;omega)),zk.2 (by first|omega|decide|(dsimp only;omega))⟩) (.c (x:=((-1),1)) rfl rfl (fun _ _=>by exact ⟨zk.2 (by first|omega|decide|(dsimp only;omega)),zk.2 (by first|omega|decide|(dsimp only;omega))⟩) (.c (x:=(1,(-1))) rfl rfl (fun _ _=>by exact ⟨zk.2 (by first|omega|decide|(dsimp only;omega)),zk.2 (by first|omega|decide|(dsimp only;omega))⟩) (.c (x:=((-1),(-1))) rfl rfl (fun _ _=>by exact ⟨zk.2 (by first|omega|decide|(dsimp only;omega)),zk.2 (by first|omega|decide|(dsimp only;omega))⟩) .n))))) (fun b3 _=> ?_)
 refine zja 0 rfl .z<|zya 1 rfl rfl rfl (zva 0 rfl Try.underlying75 inf90 (by decide) rfl rfl (by first|rfl|assumption|(simp_all;done)|omega) rfl (by first|rfl|assumption|(simp_all;done)|omega) (by omega) (by omega)) (fun _=>(.s .z)) ?_
 rintro ⟨p4,c5⟩ -
 dsimp only [List.append_eq,List.nil_append,List.cons_append]
 refine r_pv rfl rfl (zd rfl)<|zj<|zf<|zI<|zTa 1 rfl (.s .z) ?_
 exact zD Try.results38 (p4,c5) trivial (zq rfl) rfl (ho:=(.n:PickO _ _ _)) ((.c (j:=0) rfl .n):SelR _ _ _)
end Go.Proofs.Ytefbbhiaalcjfaa.Sp
namespace Go.Proofs.Ytefbbhiaalcjfaa.Sp
open Go
set_option linter.unusedVariables false
set_option maxRecDepth 100000
set_option maxHeartbeats 1000000
theorem zUe {p1:Option Addr} {n1:Nat} {c1:Nat} {l1:List Int} {p2:Option Addr} {n2:Nat} {c2:Nat} {l2:List Int} (hn1:l1.length=n1) (hn2:l2.length=n2):Con Try.prog 13 [.slice p1 n1 c1,.slice p2 n2 c2] [] [slF (rI .i64) p1 c1 l1,slF (rI .i64) p2 c2 l2] (Y:=Unit) (fun y=>True) (fun y=> .bool (decide (l1=l2))) (fun y=>[]) (fun y=>[]):=by
 refine zr Try.func13 rfl rfl rfl (fun c=> ?_)
 show RunC _ _ _ _ _ [(0,.slice p1 n1 c1),(1,.slice p2 n2 c2)] [] [slF (rI .i64) p1 c1 l1,slF (rI .i64) p2 c2 l2]
 refine zea 0 rfl (fun hL0=> ?_)
 refine zea 1 rfl (fun hL1=> ?_)
 refine zi<|zc<|r_pv rfl rfl (zd rfl)<|zj<|zf<|zi<|zi<|zc<|r_pv rfl rfl (zb rfl)<|r_pv rfl rfl (zK Try.underlying22 rfl)<|r_pv rfl rfl (zb rfl)<|r_pv rfl rfl (zK Try.underlying22 rfl)<|r_pv rfl rfl (zCa rfl rfl)<|zj<|zf<|zC rfl (fun hlen=> ?_) (fun hlen=> ?_)
 ·
  refine zi<|zc<|r_pv rfl rfl (zd rfl)<|zj<|zf<|zI<|zt ?_
  exact zD Try.results13 () trivial (zq rfl) (congrArg Value.bool (decide_eq_false (fun h=>hlen (by rw [← hn1,←hn2,h])))) (ho:=(.n:PickO _ _ _)) (.n:SelR _ _ _)
 ·
  refine zy<|zf<|zi<|zi<|zc<|r_pv rfl rfl (zb rfl)<|r_pv rfl rfl (zK Try.underlying22 rfl)<|r_pv rfl rfl (zb rfl)<|zj<|zf<|zB<|zna (X:=Nat) (fun x:Nat=>x≤n1∧∀j,j<x→l1.getD j 0=l2.getD j 0) (fun x=>[(13,.int .i64 ((x:Nat):Int)),(12,.int .i64 ((n1:Nat):Int)),(0,.slice p1 n1 c1),(1,.slice p2 n2 c2)]) (fun x=>[]) (fun x=>[slF (rI .i64) p1 c1 l1,slF (rI .i64) p2 c2 l2]) (fun x:Nat=>n1 - x) 0 (show 0≤n1∧∀j,j<0→l1.getD j 0=l2.getD j 0 from by exact ⟨by omega,fun j h=>by omega⟩) ((.e rfl (by first|rfl|(congr 1;omega)|simp_all) (.of rfl)):SubM _ _) (ho:=(.n:PickO _ _ _)) ((.of [0,1] rfl):SelR _ _ _) ?_
  rintro i hI
  replace hI:i≤n1∧∀j,j<i→l1.getD j 0=l2.getD j 0:=hI
  try dsimp only
  obtain ⟨hi,hall⟩:=hI
  refine zi<|zc<|r_pv rfl rfl (zW rfl rfl)<|zj<|zf<|zi<|zC rfl (fun h1=> ?_) (fun h1=> ?_)
  ·
   refine zy<|zf<|zi<|zB<|zi<|zc<|r_pv rfl rfl (zb rfl)<|r_pv rfl rfl (zd rfl)<|zj<|zf<|zi<|zia (OW:=[]) (O:=[]) 100000 mixed (.then (.block (.then (.then (.block (.then .ret)))))) (by kernel_rfl)<|d_pv 0 rfl rfl (by kernel_rfl) (by kernel_rfl) rfl rfl (zb rfl)<|d_pv 1 rfl rfl (by kernel_rfl) (by kernel_rfl) rfl rfl (zb rfl)<|zqa (x0:=(l1.getD i 0)) 2 rfl rfl (by kernel_rfl) (by kernel_rfl) 0 i rfl Try.underlying22 sz3 rfl rfl rfl (by first|rfl|assumption|(simp_all;done)|omega) rfl rfl (gD (d:=0) (by omega)) (fun b2 o3 hok4=> ?_)
   replace hok4:=zk.1 hok4
   refine d_u 3 rfl rfl (by kernel_rfl) (by kernel_rfl) rfl rfl (zn (j:=0) 0 ty3 rfl rfl rfl rfl)<|d_pv 4 rfl rfl (by kernel_rfl) (by kernel_rfl) rfl rfl (zb rfl)<|d_pv 5 rfl rfl (by kernel_rfl) (by kernel_rfl) rfl rfl (zb rfl)<|zqa (x0:=(l2.getD i 0)) 6 rfl rfl (by kernel_rfl) (by kernel_rfl) 2 i rfl Try.underlying22 sz3 rfl rfl rfl (by first|rfl|assumption|(simp_all;done)|omega) rfl rfl (gD (d:=0) (by omega)) (fun b5 o6 hok7=> ?_)
   replace hok7:=zk.1 hok7
   refine d_u 7 rfl rfl (by kernel_rfl) (by kernel_rfl) rfl rfl (zn (j:=0) 0 ty3 rfl rfl rfl rfl)<|d_pv 8 rfl rfl (by kernel_rfl) (by kernel_rfl) rfl rfl (zCa rfl rfl)<|zfa (by kernel_rfl)<|zf<|zC rfl (fun hd=> ?_) (fun hd=> ?_)
   ·
    refine zi<|zc<|r_pv rfl rfl (zd rfl)<|zj<|zf<|zI<|zba<|zt<|zt<|zba<|zt ?_
    exact zD Try.results13 () trivial (zq rfl) (congrArg Value.bool (decide_eq_false (fun h=>hd (by simp [h])))) (ho:=(.n:PickO _ _ _)) (.n:SelR _ _ _)
   ·
    refine zy<|zS<|zf<|zc<|r_pv rfl rfl (zz (z:=(((i+1):Nat):Int)) rfl rfl (w64 (by omega)))<|r_pv rfl rfl (zb rfl)<|zj<|zZ (i+1) (show (i+1)≤n1∧∀j,j<(i+1)→l1.getD j 0=l2.getD j 0 from by refine ⟨by omega,fun j hj=> ?_⟩;by_cases e:j=i;rw [e];exact Decidable.not_not.1 hd;exact hall j (by omega)) (by show n1 - (i+1)<n1 - i;omega) ((.of rfl):SubM _ _) (ho:=(.n:PickO _ _ _)) ((.of [2,3] rfl):SelR _ _ _)
  ·
   refine zha<|zm<|zm<|zv<|zf<|zi<|zc<|r_pv rfl rfl (zd rfl)<|zj<|zf<|zI ?_
   exact zD Try.results13 () trivial (zq rfl) (congrArg Value.bool (decide_eq_true (Big.ext_getD (by omega) (fun j hj=>hall j (by omega))))) (ho:=(.n:PickO _ _ _)) (.n:SelR _ _ _)
end Go.Proofs.Ytefbbhiaalcjfaa.Sp
namespace Go.Proofs.Ytefbbhiaalcjfaa.Fl
inductive Conn (inn:Nat→Prop) (adj:Nat→Nat→Prop):Nat→Nat→Prop
  |refl (i:Nat):Conn inn adj i i
  |step {i j k:Nat}:inn i→inn j→adj i j→Conn inn adj j k→Conn inn adj i k
section
variable {n : Nat} {inn : Nat → Prop} {adj : Nat → Nat → Prop}
theorem Conn.trans {i j k:Nat} (h:Conn inn adj i j) (h2:Conn inn adj j k):Conn inn adj i k:=by
  induction h with
  |refl=>exact h2
  |step a b c _ ih=>exact .step a b c (ih h2)
theorem Conn.one {i j:Nat} (hi:inn i) (hj:inn j) (h:adj i j):Conn inn adj i j:= .step hi hj h (.refl j)
theorem Conn.symm (hs:∀i j,adj i j→adj j i) {i j:Nat} (h:Conn inn adj i j):Conn inn adj j i:=by
  induction h with
  |refl=>exact .refl _
  |step a b c _ ih=>exact ih.trans (Conn.one b a (hs _ _ c))
theorem Conn.mem {i j:Nat} (h:Conn inn adj i j) (hi:inn i):inn j:=by
  induction h with
  |refl=>exact hi
  |step _ b _ _ ih=>exact ih b
structure Lst (inn:Nat→Prop) (adj:Nat→Nat→Prop) (c:Nat→Nat):Prop where
  le:∀i,inn i→c i≤i
  conn:∀i,inn i→Conn inn adj i (c i)
  same:∀i k,inn i→inn k→adj i k→c i=c k
theorem Lst.const {c:Nat→Nat} (h:Lst inn adj c) {i j:Nat} (hc:Conn inn adj i j):c i=c j:=by
  induction hc with
  |refl=>rfl
  |step a b d _ ih=>rw [h.same _ _ a b d,ih]
theorem Lst.least {c:Nat→Nat} (h:Lst inn adj c) {i j:Nat} (hi:inn i) (hc:Conn inn adj i j):c i≤j:=by
  rw [h.const hc];exact h.le _ (hc.mem hi)
theorem Lst.idem {c:Nat→Nat} (h:Lst inn adj c) {i:Nat} (hi:inn i):c (c i)=c i:=(h.const (h.conn i hi)).symm
theorem Lst.mem {c:Nat→Nat} (h:Lst inn adj c) {i:Nat} (hi:inn i):inn (c i):=(h.conn i hi).mem hi
theorem Lst.uniq {c d:Nat→Nat} (h:Lst inn adj c) (k:Lst inn adj d) {i:Nat} (hi:inn i):c i=d i:=
  Nat.le_antisymm (h.least hi (k.conn i hi)) (k.least hi (h.conn i hi))
theorem Lst.iff {c:Nat→Nat} (h:Lst inn adj c) (hs:∀i j,adj i j→adj j i) {i j:Nat} (hi:inn i) (hj:inn j):c i=c j↔Conn inn adj i j:=
  ⟨fun e=>(h.conn i hi).trans (e ▸ (h.conn j hj).symm hs),h.const⟩
theorem Lst.exists (hs:∀i j,adj i j→adj j i):∃c,Lst inn adj c:=by
  have key:∀i,∃m,Conn inn adj i m∧∀j,Conn inn adj i j→m≤j:=fun i=>by
    have:∀b,∀m,m≤b→Conn inn adj i m→∃m,Conn inn adj i m∧∀j,Conn inn adj i j→m≤j:=fun b=>by
      induction b with
      |zero=>intro m hm hc;exact ⟨m,hc,fun j _=>by omega⟩
      |succ b ih=>
        intro m hm hc
        by_cases hx:∃j,Conn inn adj i j∧j<m
        · obtain ⟨j,hj,hlt⟩:=hx;exact ih j (by omega) hj
        · exact ⟨m,hc,fun j hj=>Nat.le_of_not_lt fun hlt=>hx ⟨j,hj,hlt⟩⟩
    exact this i i (Nat.le_refl _) (.refl i)
  refine ⟨fun i=>Classical.choose (key i),fun i _=>(Classical.choose_spec (key i)).2 i (.refl i),fun i _=>(Classical.choose_spec (key i)).1,fun i k hi hk ha=> ?_⟩
  have h1:=Classical.choose_spec (key i)
  have h2:=Classical.choose_spec (key k)
  exact Nat.le_antisymm (h1.2 _ ((Conn.one hi hk ha).trans h2.1)) (h2.2 _ ((Conn.one hk hi (hs _ _ ha)).trans h1.1))
end
def cnt (q:Nat→Bool) (i:Nat):Nat:=((List.range i).filter q).length
theorem cnt_succ (q:Nat→Bool) (i:Nat):cnt q (i+1)=cnt q i+if q i then 1 else 0:=by
  unfold cnt;rw [List.range_succ,List.filter_append,List.length_append]
  by_cases h:q i=true
  · simp [h]
  · simp [h]
theorem cnt_mono (q:Nat→Bool) {i j:Nat} (h:i≤j):cnt q i≤cnt q j:=by
  induction h with
  |refl=>exact Nat.le_refl _
  |step _ ih=>rw [cnt_succ];omega
theorem cnt_lt (q:Nat→Bool) {i j:Nat} (h:i<j) (hq:q i=true):cnt q i<cnt q j:=by
  have:=cnt_mono q (show i+1≤j from h);rw [cnt_succ,if_pos hq] at this;omega
theorem cnt_le (q:Nat→Bool) (i:Nat):cnt q i≤i:=by
  induction i with
  |zero=>exact Nat.le_refl _
  |succ i ih=>rw [cnt_succ];split <;> omega
section
variable {n : Nat} {f : Nat → Bool} {adj : Nat → Nat → Prop} {c : Nat → Nat}
def ldr (f:Nat→Bool) (c:Nat→Nat) (j:Nat):Bool:=f j&&decide (c j=j)
structure OutI (n:Nat) (f:Nat→Bool) (c:Nat→Nat) (i:Nat) (o:List Int):Prop where
  len:o.length=n
  old:∀j,j<n→f j=true→c j<i→o.getD j 0=(cnt (ldr f c) (c j):Int)
  new:∀j,j<n→¬(f j=true∧c j<i)→o.getD j 0= -1
structure Fld (n:Nat) (f:Nat→Bool) (adj:Nat→Nat→Prop) (c:Nat→Nat) (i:Nat) (o:List Int) (st:List Nat):Prop where
  len:o.length=n
  old:∀j,j<n→f j=true→c j<i→o.getD j 0=(cnt (ldr f c) (c j):Int)
  new:∀j,j<n→¬(f j=true∧c j<i)→o.getD j 0= -1∨(o.getD j 0=(cnt (ldr f c) i:Int)∧f j=true∧c j=i)
  self:o.getD i 0=(cnt (ldr f c) i:Int)
  stk:∀j,j∈st→j<n∧o.getD j 0=(cnt (ldr f c) i:Int)∧f j=true∧c j=i
  cls:∀j,j<n→f j=true→c j=i→o.getD j 0=(cnt (ldr f c) i:Int)→j∈st∨∀k,k<n→f k=true→adj j k→o.getD k 0=(cnt (ldr f c) i:Int)
theorem Fld.fin {i:Nat} {o:List Int} (hc:Lst (fun j=>f j=true) adj c) (hs:∀i j,adj i j→adj j i) (hb:∀j k,adj j k→k<n) (hi:i<n) (hf:f i=true) (h:Fld n f adj c i o []):OutI n f c (i+1) o:=by
  have walk:∀j k,Conn (fun j=>f j=true) adj j k→j<n→f j=true→c j=i→o.getD j 0=(cnt (ldr f c) i:Int)→o.getD k 0=(cnt (ldr f c) i:Int):=by
    intro j k hjk
    induction hjk with
    |refl=>intro _ _ _ h;exact h
    |step a b d e ih=>
      intro hj hfj hcj ho
      rcases h.cls _ hj hfj hcj ho with hm|hm
      · cases hm
      · exact ih (hb _ _ d) b (by rw [← hcj];exact (hc.same _ _ a b d).symm) (hm _ (hb _ _ d) b d)
  refine ⟨h.len,fun j hj hfj hlt=> ?_,fun j hj hn=> ?_⟩
  · by_cases e : c j < i
    · exact h.old j hj hfj e
    · have e2 : c j = i := by omega
      rw [e2]
      have hcon:=(hc.conn j hfj).symm hs
      rw [e2] at hcon
      exact walk i j hcon hi hf (by rw [← e2];exact hc.idem hfj) h.self
  · rcases h.new j hj (fun k => hn ⟨k.1, by omega⟩) with e | e
    · exact e
    · exact absurd ⟨e.2.1,by omega⟩ hn
structure FlP (n:Nat) (f:Nat→Bool) (adj:Nat→Nat→Prop) (c:Nat→Nat) (i:Nat) (o:List Int) (st:List Nat) (p:Nat) (D:Nat→Prop):Prop where
  len:o.length=n
  old:∀j,j<n→f j=true→c j<i→o.getD j 0=(cnt (ldr f c) (c j):Int)
  new:∀j,j<n→¬(f j=true∧c j<i)→o.getD j 0= -1∨(o.getD j 0=(cnt (ldr f c) i:Int)∧f j=true∧c j=i)
  self:o.getD i 0=(cnt (ldr f c) i:Int)
  stk:∀j,j∈st→j<n∧o.getD j 0=(cnt (ldr f c) i:Int)∧f j=true∧c j=i
  pop:p<n∧f p=true∧c p=i
  cls:∀j,j<n→f j=true→c j=i→o.getD j 0=(cnt (ldr f c) i:Int)→j∈st∨∀k,k<n→f k=true→adj j k→(j=p→D k)→o.getD k 0=(cnt (ldr f c) i:Int)
theorem Fld.pop {i p:Nat} {o:List Int} {st:List Nat} (h:Fld n f adj c i o (st++[p])):FlP n f adj c i o st p (fun _=>False):=by
  have hp:=h.stk p (by simp)
  refine ⟨h.len,h.old,h.new,h.self,fun j hj=>h.stk j (by simp [hj]),⟨hp.1,hp.2.2.1,hp.2.2.2⟩,fun j hj hfj hcj ho=> ?_⟩
  rcases h.cls j hj hfj hcj ho with hm|hm
  · rcases List.mem_append.1 hm with h1 | h1
    · exact .inl h1
    · exact .inr fun k _ _ _ hD=>absurd (hD (by simpa using h1)) id
  · exact .inr fun k a b d _=>hm k a b d
theorem FlP.done {i p:Nat} {o:List Int} {st:List Nat} {D:Nat→Prop} (h:FlP n f adj c i o st p D) (hD:∀k,adj p k→D k):Fld n f adj c i o st:=
  ⟨h.len,h.old,h.new,h.self,h.stk,fun j hj hfj hcj ho=>(h.cls j hj hfj hcj ho).imp id fun hm k a b d=>hm k a b d (fun e=>hD k (e ▸ d))⟩
theorem FlP.skip {i p:Nat} {o:List Int} {st:List Nat} {D E:Nat→Prop} (h:FlP n f adj c i o st p D) (hE:∀k,E k→D k∨(k<n→f k=true→adj p k→o.getD k 0=(cnt (ldr f c) i:Int))):FlP n f adj c i o st p E:=
  ⟨h.len,h.old,h.new,h.self,h.stk,h.pop,fun j hj hfj hcj ho=>(h.cls j hj hfj hcj ho).imp id fun hm k a b d e=>by
    by_cases e2:j=p
    · rcases hE k (e e2) with h1 | h1
      · exact hm k a b d (fun _=>h1)
      · exact h1 a b (e2 ▸ d)
    · exact hm k a b d (fun e3=>absurd e3 e2)⟩
theorem FlP.seen {i p k:Nat} {o:List Int} {st:List Nat} {D:Nat→Prop} (hc:Lst (fun j=>f j=true) adj c) (h:FlP n f adj c i o st p D) (hk:k<n) (hf:f k=true) (ha:adj p k) (ho:¬o.getD k 0<0):o.getD k 0=(cnt (ldr f c) i:Int):=by
  have e:c k=i:=by rw [← hc.same p k h.pop.2.1 hf ha];exact h.pop.2.2
  rcases h.new k hk (fun x=>by omega) with h1|h1
  · omega
  · exact h1.1
theorem FlP.visit {i p k:Nat} {o:List Int} {st:List Nat} {D:Nat→Prop} (hc:Lst (fun j=>f j=true) adj c) (h:FlP n f adj c i o st p D) (hk:k<n) (hf:f k=true) (ha:adj p k) (ho:o.getD k 0<0):
    FlP n f adj c i (o.set k (cnt (ldr f c) i:Int)) (st++[k]) p (fun x=>D x∨x=k):=by
  have e:c k=i:=by rw [← hc.same p k h.pop.2.1 hf ha];exact h.pop.2.2
  have hl:=h.len
  have hs:(o.set k (cnt (ldr f c) i:Int)).getD k 0=(cnt (ldr f c) i:Int):=Big.getD_set_self (by omega) _
  have hne:∀j,j≠k→(o.set k (cnt (ldr f c) i:Int)).getD j 0=o.getD j 0:=fun j hj=>Big.getD_set_ne hj _
  refine ⟨by rw [List.length_set];exact hl,fun j hj hfj hlt=> ?_,fun j hj hn=> ?_,?_,fun j hj=> ?_,h.pop,fun j hj hfj hcj hoj=> ?_⟩
  · rw [hne j (fun x=>by rw [x,e] at hlt;omega)];exact h.old j hj hfj hlt
  · by_cases x : j = k
    · exact .inr ⟨by rw [x];exact hs,x ▸ hf,x ▸ e⟩
    · rw [hne j x];exact h.new j hj hn
  · by_cases x : i = k
    · rw [x] at hs ⊢;exact hs
    · rw [hne i x];exact h.self
  · by_cases x : j = k
    · exact ⟨x ▸ hk,by rw [x];exact hs,x ▸ hf,x ▸ e⟩
    · rw [hne j x]
      rcases List.mem_append.1 hj with h1|h1
      · exact h.stk j h1
      · exact absurd (by simpa using h1) x
  · by_cases x : j = k
    · exact .inl (by simp [x])
    · rw [hne j x] at hoj
      rcases h.cls j hj hfj hcj hoj with h1|h1
      · exact .inl (by simp [h1])
      · refine .inr fun q a b d hD => ?_
        by_cases y:q=k
        · rw [y];exact hs
        · rw [hne q y];exact h1 q a b d (fun z=>(hD z).resolve_right y)
theorem OutI.start:OutI n f c 0 (List.replicate n (-1)):=⟨by simp,fun j _ _ h=>by omega,fun j hj _=>by simp [List.getD_eq_getElem?_getD,hj]⟩
theorem OutI.none {i:Nat} {o:List Int} (hc:Lst (fun j=>f j=true) adj c) (h:OutI n f c i o) (hi:i<n) (hx:¬o.getD i 0<0∨¬f i=true):OutI n f c (i+1) o∧ldr f c i=false:=by
  have hl:¬(f i=true∧c i=i):=fun k=>by
    rcases hx with h1|h1
    · exact h1 (by rw [h.new i hi (fun x=>by omega)];decide)
    · exact h1 k.1
  refine ⟨⟨h.len,fun j hj hf hlt=>h.old j hj hf ?_,fun j hj hn=>h.new j hj fun x=>hn ⟨x.1,by omega⟩⟩,?_⟩
  · by_cases e : c j = i
    · exact absurd ⟨e ▸ hc.mem hf,by have:=hc.idem hf;rw [e] at this;exact this⟩ hl
    · omega
  · unfold ldr
    by_cases e:f i=true
    · simp only [e,Bool.true_and];exact decide_eq_false fun k=>hl ⟨e,k⟩
    · simp [e]
theorem OutI.lead {i:Nat} {o:List Int} (hc:Lst (fun j=>f j=true) adj c) (h:OutI n f c i o) (hi:i<n) (hx:o.getD i 0<0) (hf:f i=true):Fld n f adj c i (o.set i (cnt (ldr f c) i:Int)) [i]∧ldr f c i=true:=by
  have hle:=hc.le i hf
  have hci:c i=i:=by
    by_cases e:c i<i
    · have:=h.old i hi hf e;omega
    · omega
  have hs:(o.set i (cnt (ldr f c) i:Int)).getD i 0=(cnt (ldr f c) i:Int):=Big.getD_set_self (by rw [h.len];exact hi) _
  have hne:∀j,j≠i→(o.set i (cnt (ldr f c) i:Int)).getD j 0=o.getD j 0:=fun j hj=>Big.getD_set_ne hj _
  refine ⟨⟨by rw [List.length_set];exact h.len,fun j hj hfj hlt=> ?_,fun j hj hn=> ?_,hs,fun j hj=> ?_,fun j hj hfj hcj hoj=> ?_⟩,by simp [ldr,hf,hci]⟩
  · rw [hne j (fun e=>by rw [e,hci] at hlt;omega)];exact h.old j hj hfj hlt
  · by_cases e : j = i
    · exact .inr ⟨by rw [e];exact hs,e ▸ hf,by rw [e];exact hci⟩
    · rw [hne j e];exact .inl (h.new j hj hn)
  · have e : j = i := by simpa using hj
    subst e;exact ⟨hi,hs,hf,hci⟩
  · by_cases e : j = i
    · exact .inl (by simp [e])
    · rw [hne j e,h.new j hj (fun x=>by omega)] at hoj;omega
end
def unv (o:List Int):Nat:=o.countP (fun x=>decide (x<0))
theorem unv_set {o:List Int} {k:Nat} {v:Int} (hk:k<o.length) (ho:o.getD k 0<0) (hv:0≤v):unv (o.set k v)+1=unv o:=by
  unfold unv
  have hg:o[k]<0:=by rw [List.getD_eq_getElem?_getD,List.getElem?_eq_getElem hk] at ho;exact ho
  have hp:0<o.countP (fun x=>decide (x<0)):=List.countP_pos_iff.2 ⟨o[k],List.getElem_mem hk,by simpa using hg⟩
  rw [List.countP_set]
  rw [if_pos (by simpa using hg),if_neg (by simpa using hv)]
  omega
section
variable {n : Nat} {f : Nat → Bool} {adj : Nat → Nat → Prop} {c : Nat → Nat}
end
def nb (e:Bool) (w n j k:Nat):Prop:=
  j<n∧k<n∧j≠k∧(((j%w:Nat):Int) - (k%w:Nat)).natAbs≤1∧(((j / w:Nat):Int) - (k / w:Nat)).natAbs≤1∧(e=true∨(((j%w:Nat):Int) - (k%w:Nat)).natAbs+(((j / w:Nat):Int) - (k / w:Nat)).natAbs≤1)
theorem nb_symm {e:Bool} {w n j k:Nat} (h:nb e w n j k):nb e w n k j:=by
  unfold nb at*
  obtain ⟨h1,h2,h3,h4,h5,h6⟩:=h
  refine ⟨h2,h1,fun x=>h3 x.symm,by omega,by omega,h6.imp id fun h=>by omega⟩
theorem nb_lt {e:Bool} {w n j k:Nat} (h:nb e w n j k):k<n:=h.2.1
theorem pix {w h:Nat} {x y:Int} (hx:0≤x∧x<w) (hy:0≤y∧y<h):0≤y*w+x∧(y*w+x).toNat<w*h∧(y*w+x).toNat%w=x.toNat∧(y*w+x).toNat / w=y.toNat:=by
  obtain ⟨a,ha⟩:∃a:Nat,x=a:=⟨x.toNat,by omega⟩
  obtain ⟨b,hb⟩:∃b:Nat,y=b:=⟨y.toNat,by omega⟩
  subst ha;subst hb
  have e:((b:Int)*w+a).toNat=w*b+a:=by rw [← Int.natCast_mul,Nat.mul_comm];omega
  have hw:0<w:=by omega
  have h1:(w*b+a)%w=a:=by rw [Nat.mul_add_mod];exact Nat.mod_eq_of_lt (by omega)
  have h2:(w*b+a) / w=b:=by rw [Nat.mul_add_div hw,Nat.div_eq_of_lt (by omega)];rfl
  have h3:w*b+a<w*h:=by
    have:w*(b+1)≤w*h:=Nat.mul_le_mul_left w (by omega)
    rw [Nat.mul_add,Nat.mul_one] at this;omega
  have h4:=Int.mul_nonneg (show (0:Int)≤b by omega) (show (0:Int)≤w by omega)
  rw [e]
  exact ⟨by omega,h3,by simpa using h1,by simpa using h2⟩
section
variable {n : Nat} {f : Nat → Bool} {adj : Nat → Nat → Prop}
structure RdI (n:Nat) (f:Nat→Bool) (adj:Nat→Nat→Prop) (o:List Int):Prop where
  len:o.length=n
  lo:∀i,i<n→0≤o.getD i 0∧o.getD i 0≤i
  con:∀i,i<n→f i=true→Conn (fun j=>f j=true) adj i (o.getD i 0).toNat
  out:∀i,i<n→¬f i=true→o.getD i 0=i
theorem RdI.step {o:List Int} {i k:Nat} (h:RdI n f adj o) (hi:i<n) (hk:k<n) (hfi:f i=true) (hfk:f k=true) (ha:adj i k) (hlt:o.getD k 0<o.getD i 0):RdI n f adj (o.set i (o.getD k 0)):=by
  have hs:(o.set i (o.getD k 0)).getD i 0=o.getD k 0:=Big.getD_set_self (by rw [h.len];exact hi) _
  have hne:∀j,j≠i→(o.set i (o.getD k 0)).getD j 0=o.getD j 0:=fun j hj=>Big.getD_set_ne hj _
  refine ⟨by rw [List.length_set];exact h.len,fun j hj=> ?_,fun j hj hf=> ?_,fun j hj hf=>by rw [hne j (fun e=>hf (e ▸ hfi))];exact h.out j hj hf⟩
  · by_cases e : j = i
    · rw [e,hs];have h1:=h.lo k hk;have h2:=h.lo i hi;omega
    · rw [hne j e];exact h.lo j hj
  · by_cases e : j = i
    · rw [e,hs];exact .step hfi hfk ha (h.con k hk hfk)
    · rw [hne j e];exact h.con j hj hf
theorem RdI.fin {o:List Int} (h:RdI n f adj o) (hn:∀i,f i=true→i<n) (hs:∀i j,adj i j→adj j i) (hx:∀i k,f i=true→f k=true→adj i k→¬o.getD k 0<o.getD i 0):Lst (fun j=>f j=true) adj (fun i=>(o.getD i 0).toNat):=
  ⟨fun i hi=>by have:=h.lo i (hn i hi);show (o.getD i 0).toNat≤i;omega,fun i hi=>h.con i (hn i hi) hi,fun i k hi hk ha=>by
    have h1:=hx i k hi hk ha;have h2:=hx k i hk hi (hs _ _ ha)
    show (o.getD i 0).toNat=(o.getD k 0).toNat;omega⟩
end
theorem nb_place {e:Bool} {w h p:Nat} {a b:Int} (hp:p<w*h) (hx:0≤((p%w:Nat):Int)+a∧((p%w:Nat):Int)+a<w) (hy:0≤((p / w:Nat):Int)+b∧((p / w:Nat):Int)+b<h)
    (ha:a.natAbs≤1) (hb:b.natAbs≤1) (h0:¬(a=0∧b=0)) (he:e=true∨a.natAbs+b.natAbs≤1):nb e w (w*h) p ((((p / w:Nat):Int)+b)*w+(((p%w:Nat):Int)+a)).toNat:=by
  obtain ⟨q0,q1,q2,q3⟩:=pix hx hy
  obtain ⟨k,hk⟩:∃k,k=((((p / w:Nat):Int)+b)*w+(((p%w:Nat):Int)+a)).toNat:=⟨_,rfl⟩
  rw [← hk] at q1 q2 q3 ⊢
  obtain ⟨u,hu⟩:∃u,u=p%w:=⟨_,rfl⟩
  obtain ⟨v,hv⟩:∃v,v=p / w:=⟨_,rfl⟩
  obtain ⟨u2,hu2⟩:∃u,u=k%w:=⟨_,rfl⟩
  obtain ⟨v2,hv2⟩:∃v,v=k / w:=⟨_,rfl⟩
  unfold nb
  rw [← hu] at q2 hx ⊢;rw [← hv] at q3 hy ⊢
  rw [← hu2] at q2 ⊢;rw [← hv2] at q3 ⊢
  refine ⟨hp,q1,fun x=> ?_,by omega,by omega,he.imp id fun y=>by omega⟩
  rw [← x,←hu] at hu2;rw [← x,←hv] at hv2
  exact h0 (by omega)
theorem nb_step {e:Bool} {w h p k:Nat} (hw:0<w) (hn:nb e w (w*h) p k):∃a b:Int,a.natAbs≤1∧b.natAbs≤1∧¬(a=0∧b=0)∧(e=true∨a.natAbs+b.natAbs≤1)∧
    (0≤((p%w:Nat):Int)+a∧((p%w:Nat):Int)+a<w)∧(0≤((p / w:Nat):Int)+b∧((p / w:Nat):Int)+b<h)∧k=((((p / w:Nat):Int)+b)*w+(((p%w:Nat):Int)+a)).toNat:=by
  obtain ⟨h1,h2,h3,h4,h5,h6⟩:=hn
  have k1:=Nat.mod_lt k hw
  have k2:k / w<h:=Nat.div_lt_of_lt_mul h2
  have k3:=Nat.div_add_mod k w
  have p3:=Nat.div_add_mod p w
  have e1:((p%w:Nat):Int)+(((k%w:Nat):Int) - (p%w:Nat))=(k%w:Nat):=by
    generalize k%w=u;generalize p%w=v;omega
  have e2:((p / w:Nat):Int)+(((k / w:Nat):Int) - (p / w:Nat))=(k / w:Nat):=by
    generalize k / w=u;generalize p / w=v;omega
  refine ⟨((k%w:Nat):Int) - (p%w:Nat),((k / w:Nat):Int) - (p / w:Nat),?_,?_,?_,?_,?_,?_,?_⟩
  · generalize k%w=u at *;generalize p%w=v at *;omega
  · generalize k / w=u at *;generalize p / w=v at *;omega
  · intro x
    have x1:k%w=p%w:=by generalize k%w=u at *;generalize p%w=v at *;omega
    have x2:k / w=p / w:=by generalize k / w=u at *;generalize p / w=v at *;omega
    rw [x1,x2] at k3;exact h3 (by omega)
  · refine h6.imp id fun y => ?_
    generalize k%w=u at *;generalize p%w=v at *;generalize k / w=u2 at *;generalize p / w=v2 at *;omega
  · rw [e1];generalize k%w=u at *;omega
  · rw [e2];generalize k / w=u at *;omega
  · rw [e1, e2, ← Int.natCast_mul, Nat.mul_comm]
    generalize w*(k / w)=s at *;generalize k%w=u at *;omega
end Go.Proofs.Ytefbbhiaalcjfaa.Fl
namespace Go.Proofs.Ytefbbhiaalcjfaa.Fl
def tot (o:List Int):Nat:=(o.map Int.toNat).sum
theorem tot_set {o:List Int} {k:Nat} {v:Int} (hk:k<o.length) (h0:0≤v) (hv:v<o.getD k 0):tot (o.set k v)<tot o:=by
  unfold tot
  induction o generalizing k with
  |nil=>simp at hk
  |cons a t ih=>
    cases k with
    |zero=>simp only [List.set_cons_zero,List.map_cons,List.sum_cons];have:v<a:=(by simpa using hv);omega
    |succ k=>
      simp only [List.set_cons_succ,List.map_cons,List.sum_cons]
      have:=ih (k:=k) (by simpa using hk) (by simpa using hv);omega
section
variable {n w : Nat} {f : Nat → Bool} {adj : Nat → Nat → Prop}
def Dn (f:Nat→Bool) (adj:Nat→Nat→Prop) (w:Nat) (o:List Int) (i:Nat) (Y X:Int):Prop:=
  ∀b a:Int,-1≤b→b≤1→ -1≤a→a≤1→(b<Y∨b=Y∧a<X)→∀k:Nat,(k:Int)=i+b*w+a→f i=true→f k=true→adj i k→¬o.getD k 0<o.getD i 0
structure Rnd (n w:Nat) (f:Nat→Bool) (adj:Nat→Nat→Prop) (o0 o:List Int) (g:Bool) (i:Nat) (Y X:Int):Prop where
  rd:RdI n f adj o
  lt:g=true→tot o<tot o0
  eq:g=false→o=o0
  old:g=false→∀j k,j<i→f j=true→f k=true→adj j k→¬o.getD k 0<o.getD j 0
  dn:g=false→Dn f adj w o i Y X
theorem Rnd.start {o:List Int} (h:RdI n f adj o):Rnd n w f adj o o false 0 (-1) (-1):=
  ⟨h,fun e=>(by cases e),fun _=>rfl,fun _ j k hj=>by omega,fun _ b a h1 _ h2 _ h3=>by omega⟩
theorem Rnd.le {o0 o:List Int} {g:Bool} {i:Nat} {Y X:Int} (h:Rnd n w f adj o0 o g i Y X):tot o≤tot o0:=by
  cases g with
  |true=>exact Nat.le_of_lt (h.lt rfl)
  |false=>rw [h.eq rfl];exact Nat.le_refl _
theorem Rnd.skip {o0 o:List Int} {g:Bool} {i:Nat} {Y X:Int} (h:Rnd n w f adj o0 o g i Y X) (hx:∀k:Nat,(k:Int)=i+Y*w+X→f i=true→f k=true→adj i k→¬o.getD k 0<o.getD i 0):Rnd n w f adj o0 o g i Y (X+1):=
  ⟨h.rd,h.lt,h.eq,h.old,fun e b a h1 h2 h3 h4 h5=>by
    by_cases h6:b=Y∧a=X
    · rw [h6.1,h6.2];exact hx
    · exact h.dn e b a h1 h2 h3 h4 (by omega)⟩
theorem Rnd.set {o0 o:List Int} {g:Bool} {i k:Nat} {Y X:Int} (h:Rnd n w f adj o0 o g i Y X) (hi:i<n) (hk:k<n) (hfi:f i=true) (hfk:f k=true) (ha:adj i k) (hlt:o.getD k 0<o.getD i 0) (Y' X':Int):Rnd n w f adj o0 (o.set i (o.getD k 0)) true i Y' X':=
  ⟨h.rd.step hi hk hfi hfk ha hlt,fun _=>Nat.lt_of_lt_of_le (tot_set (by rw [h.rd.len];exact hi) (h.rd.lo k hk).1 hlt) h.le,fun e=>(by cases e),fun e=>(by cases e),fun e=>(by cases e)⟩
theorem Rnd.row {o0 o:List Int} {g:Bool} {i:Nat} {Y X:Int} (h:Rnd n w f adj o0 o g i Y X) (hX:1<X):Rnd n w f adj o0 o g i (Y+1) (-1):=
  ⟨h.rd,h.lt,h.eq,h.old,fun e b a h1 h2 h3 h4 h5=>h.dn e b a h1 h2 h3 h4 (by omega)⟩
theorem Rnd.next {o0 o:List Int} {g:Bool} {i:Nat} {Y X:Int} (h:Rnd n w f adj o0 o g i Y X) (hY:1<Y) (hb:∀k,adj i k→∃a b:Int,-1≤a∧a≤1∧ -1≤b∧b≤1∧(k:Int)=i+b*w+a):Rnd n w f adj o0 o g (i+1) (-1) (-1):=
  ⟨h.rd,h.lt,h.eq,fun e j k hj hfj hfk ha=>by
    by_cases x:j=i
    · subst x
      obtain ⟨a,b,h1,h2,h3,h4,h5⟩:=hb k ha
      exact h.dn e b a h3 h4 h1 h2 (by omega) k h5 hfj hfk ha
    · exact h.old e j k (by omega) hfj hfk ha,fun e b a h1 _ h2 _ h3=>by omega⟩
structure Rds (n:Nat) (f:Nat→Bool) (adj:Nat→Nat→Prop) (o:List Int) (g:Bool):Prop where
  rd:RdI n f adj o
  fin:g=false→∀j k,j<n→f j=true→f k=true→adj j k→¬o.getD k 0<o.getD j 0
theorem Rds.start:Rds n f adj ((List.range n).map (fun i:Nat=>(i:Int))) true:=by
  have e:∀i,i<n→((List.range n).map (fun i:Nat=>(i:Int))).getD i 0=i:=fun i hi=>by simp [List.getD_eq_getElem?_getD,hi]
  exact ⟨⟨by simp,fun i hi=>by rw [e i hi];omega,fun i hi _=>by rw [e i hi];exact .refl _,fun i hi _=>e i hi⟩,fun e=>(by cases e)⟩
end
theorem nb_steps {e:Bool} {w h p k:Nat} (hw:0<w) (hn:nb e w (w*h) p k):∃a b:Int,-1≤a∧a≤1∧ -1≤b∧b≤1∧(k:Int)=p+b*w+a:=by
  obtain ⟨a,b,h1,h2,_,_,h3,h4,h5⟩:=nb_step hw hn
  have q:=(pix h3 h4).1
  refine ⟨a,b,by omega,by omega,by omega,by omega,?_⟩
  have hp:=Nat.div_add_mod p w
  have e1:(p:Int)=((p / w:Nat):Int)*w+((p%w:Nat):Int):=by
    rw [← Int.natCast_mul,Nat.mul_comm];generalize w*(p / w)=s at *;generalize p%w=u at *;omega
  have e2:(k:Int)=((((p / w:Nat):Int)+b)*w+(((p%w:Nat):Int)+a)):=by rw [h5];omega
  rw [e2,Int.add_mul]
  generalize ((p / w:Nat):Int)*w=A at *;generalize ((p%w:Nat):Int)=B at *;generalize b*(w:Int)=C at *;omega
end Go.Proofs.Ytefbbhiaalcjfaa.Fl
namespace Go.Proofs.Ytefbbhiaalcjfaa.Fl
def iz (j:Nat):Int:=j
def fl (l:List Bool) (j:Nat):Bool:=l.getD j false
def ge (l:List Int) (th:Int) (j:Nat):Bool:=decide (j<l.length)&&decide (th≤l.getD j 0)
def lo (l:List Int) (th:Int) (j:Nat):Bool:=decide (j<l.length)&&decide (l.getD j 0<th)
theorem ge_iff {l:List Int} {th:Int} {j:Nat} (h:j<l.length):ge l th j=true↔th≤l.getD j 0:=by simp [ge,h]
theorem lo_iff {l:List Int} {th:Int} {j:Nat} (h:j<l.length):lo l th j=true↔l.getD j 0<th:=by simp [lo,h]
theorem ge_lt {l:List Int} {th:Int} {j:Nat} (h:ge l th j=true):j<l.length:=by simp [ge] at h;exact h.1
theorem lo_lt {l:List Int} {th:Int} {j:Nat} (h:lo l th j=true):j<l.length:=by simp [lo] at h;exact h.1
section
variable {n w : Nat} {l : List Bool} {e : Bool}
def LK (e:Bool) (w j k:Nat):Prop:=(((j%w:Nat):Int) - (k%w:Nat)).natAbs≤1∧(((j / w:Nat):Int) - (k / w:Nat)).natAbs≤1∧(e=true∨(((j%w:Nat):Int) - (k%w:Nat)).natAbs+(((j / w:Nat):Int) - (k / w:Nat)).natAbs≤1)
instance (e:Bool) (w j k:Nat):Decidable (LK e w j k):=inferInstanceAs (Decidable (_∧_))
def CD (e:Bool) (w n:Nat) (l:List Bool) (o:List Int) (i:Nat) (kk:Int):Prop:=
  0≤kk∧kk<(n:Int)∧l.getD i false=true∧l.getD kk.toNat false=true∧LK e w i kk.toNat∧o.getD kk.toNat 0<o.getD i 0
instance (e:Bool) (w n:Nat) (l:List Bool) (o:List Int) (i:Nat) (kk:Int):Decidable (CD e w n l o i kk):=inferInstanceAs (Decidable (_∧_))
theorem Rnd.yes {o0 o:List Int} {g:Bool} {i:Nat} {Y X kk:Int} (h:Rnd n w (fl l) (nb e w n) o0 o g i Y X) (hi:i<n) (hc:CD e w n l o i kk) (Y' X':Int):Rnd n w (fl l) (nb e w n) o0 (o.set i (o.getD kk.toNat 0)) true i Y' X':=by
  obtain ⟨h1,h2,h3,h4,h5,h6⟩:=hc
  exact h.set hi (by omega) h3 h4 ⟨hi,by omega,fun x=>by rw [← x] at h6;omega,h5⟩ h6 Y' X'
theorem Rnd.no {o0 o:List Int} {g:Bool} {i:Nat} {Y X kk:Int} (h:Rnd n w (fl l) (nb e w n) o0 o g i Y X) (hk:kk=i+Y*w+X) (hc:¬CD e w n l o i kk):Rnd n w (fl l) (nb e w n) o0 o g i Y (X+1):=
  h.skip fun k e1 e2 e3 e4 e5=>hc (by
    have e6:kk.toNat=k:=by rw [hk,←e1];rfl
    refine ⟨by omega,by have:=e4.2.1;omega,e2,by rw [e6];exact e3,by rw [e6];exact e4.2.2.2,by rw [e6];exact e5⟩)
theorem Rnd.on {h:Nat} {o0 o:List Int} {g:Bool} {i:Nat} {Y X:Int} (hw:0<w) (hn:n=w*h) (hr:Rnd n w (fl l) (nb e w n) o0 o g i Y X) (hY:1<Y):Rnd n w (fl l) (nb e w n) o0 o g (i+1) (-1) (-1):=
  hr.next hY fun k hk=>by subst hn;exact nb_steps hw hk
end
def atD (w pp:Nat) (d:Int×Int):Nat:=((((pp / w:Nat):Int)+d.2)*w+(((pp%w:Nat):Int)+d.1)).toNat
def inD (w h pp:Nat) (d:Int×Int):Prop:=0≤((pp%w:Nat):Int)+d.1∧0≤((pp / w:Nat):Int)+d.2∧((pp%w:Nat):Int)+d.1<w∧((pp / w:Nat):Int)+d.2<h
instance (w h pp:Nat) (d:Int×Int):Decidable (inD w h pp d):=inferInstanceAs (Decidable (_∧_))
def CP (w h pp:Nat) (f:Nat→Bool) (o:List Int) (d:Int×Int):Prop:=inD w h pp d∧o.getD (atD w pp d) 0<0∧f (atD w pp d)=true
instance (w h pp:Nat) (f:Nat→Bool) (o:List Int) (d:Int×Int):Decidable (CP w h pp f o d):=inferInstanceAs (Decidable (_∧_))
def Dst (w h pp:Nat) (l:List (Int×Int)) (q:Nat) (k:Nat):Prop:=∃j,j<q∧inD w h pp (l.getD j (0,0))∧k=atD w pp (l.getD j (0,0))
structure Stp (e:Bool) (l:List (Int×Int)):Prop where
  ok:∀d∈l,d.1.natAbs≤1∧d.2.natAbs≤1∧¬(d.1=0∧d.2=0)∧(e=true∨d.1.natAbs+d.2.natAbs≤1)
  all:∀a b:Int,a.natAbs≤1→b.natAbs≤1→¬(a=0∧b=0)→(e=true∨a.natAbs+b.natAbs≤1)→(a,b)∈l
theorem three {a:Int} (h:a.natAbs≤1):a= -1∨a=0∨a=1:=by omega
def st4:List (Int×Int):=[((1:Int),(0:Int)),(-1,0),(0,1),(0,-1)]
def st8:List (Int×Int):=[((1:Int),(0:Int)),(-1,0),(0,1),(0,-1)]++[(1,1),(-1,1),(1,-1),(-1,-1)]
theorem stp4:Stp false st4:=⟨by decide,fun a b h1 h2 h3 h4=>by
  rcases three h1 with e|e|e <;> rcases three h2 with k|k|k <;> subst e <;> subst k <;> first|decide|(exfalso;revert h3 h4;decide)⟩
theorem stp8:Stp true st8:=⟨by decide,fun a b h1 h2 h3 h4=>by
  rcases three h1 with e|e|e <;> rcases three h2 with k|k|k <;> subst e <;> subst k <;> first|decide|(exfalso;revert h3 h4;decide)⟩
theorem gD_mem {l:List (Int×Int)} {q:Nat} (h:q<l.length):l.getD q (0,0)∈l:=by
  rw [List.getD_eq_getElem?_getD,List.getElem?_eq_getElem h];exact List.getElem_mem h
theorem mem_gD {l:List (Int×Int)} {d:Int×Int} (h:d∈l):∃q,q<l.length∧l.getD q (0,0)=d:=by
  obtain ⟨q,hq,e⟩:=List.getElem_of_mem h
  exact ⟨q,hq,by rw [List.getD_eq_getElem?_getD,List.getElem?_eq_getElem hq];exact e⟩
theorem inD.pix {w h pp:Nat} {d:Int×Int} (hi:inD w h pp d):0≤(((pp / w:Nat):Int)+d.2)*w+(((pp%w:Nat):Int)+d.1)∧atD w pp d<w*h:=by
  have:=Fl.pix (w:=w) (h:=h) ⟨hi.1,hi.2.2.1⟩ ⟨hi.2.1,hi.2.2.2⟩;exact ⟨this.1,this.2.1⟩
theorem inD.nb {e:Bool} {w h pp q:Nat} {l:List (Int×Int)} (hs:Stp e l) (hq:q<l.length) (hp:pp<w*h) (hi:inD w h pp (l.getD q (0,0))):nb e w (w*h) pp (atD w pp (l.getD q (0,0))):=by
  obtain ⟨h1,h2,h3,h4⟩:=hs.ok _ (gD_mem hq)
  exact nb_place hp ⟨hi.1,hi.2.2.1⟩ ⟨hi.2.1,hi.2.2.2⟩ h1 h2 h3 h4
theorem at_b {w n pp:Nat} {d:Int×Int} (hw:1≤w∧w≤64) (hp:pp<n) (hn:n≤4096) (h1:d.1.natAbs≤1) (h2:d.2.natAbs≤1):
    (-64≤(((pp / w:Nat):Int)+d.2)*w∧(((pp / w:Nat):Int)+d.2)*w≤4160)∧(-1≤((pp%w:Nat):Int)+d.1∧((pp%w:Nat):Int)+d.1≤64)∧(-1≤((pp / w:Nat):Int)+d.2∧((pp / w:Nat):Int)+d.2≤4097):=by
  have e1:=Nat.div_mul_le_self pp w
  have e2:=Nat.mod_lt pp (show 0<w by omega)
  have e3:=Nat.div_le_self pp w
  have e4:(((pp / w:Nat):Int)+d.2)*w=((pp / w*w:Nat):Int)+d.2*w:=by rw [Int.add_mul,←Int.natCast_mul]
  have e5: -64≤d.2*(w:Int)∧d.2*(w:Int)≤64:=by rcases three h2 with e|e|e <;> rw [e] <;> omega
  rw [e4]
  generalize pp / w*w=A at *;generalize pp%w=B at *;generalize pp / w=C at *;generalize d.2*(w:Int)=E at *;omega
theorem Dst.none {w h pp:Nat} {l:List (Int×Int)} {k:Nat}:¬Dst w h pp l 0 k:=fun ⟨_,h,_⟩=>by omega
theorem Dst.all {e:Bool} {w h pp k:Nat} {l:List (Int×Int)} (hs:Stp e l) (hw:0<w) (hk:Fl.nb e w (w*h) pp k):Dst w h pp l l.length k:=by
  obtain ⟨a,b,h1,h2,h3,h4,h5,h6,h7⟩:=nb_step hw hk
  obtain ⟨q,hq,e1⟩:=mem_gD (hs.all a b h1 h2 h3 h4)
  exact ⟨q,hq,by rw [e1];exact ⟨h5.1,h6.1,h5.2,h6.2⟩,by rw [e1];exact h7⟩
section
variable {n w h i pp q : Nat} {f : Nat → Bool} {e : Bool} {c : Nat → Nat} {o : List Int} {st : List Nat} {l : List (Int × Int)}
theorem FlP.start (hf:Fld n f (nb e w n) c i o (st++[pp])):FlP n f (nb e w n) c i o st pp (Dst w h pp l 0):=
  hf.pop.skip fun _ hk=>absurd hk Dst.none
theorem FlP.end_ (hs:Stp e l) (hw:0<w) (hn:n=w*h) (hf:FlP n f (nb e w n) c i o st pp (Dst w h pp l l.length)):Fld n f (nb e w n) c i o st:=
  hf.done fun k hk=>by subst hn;exact Dst.all hs hw hk
theorem FlP.yes (hs:Stp e l) (hn:n=w*h) (hq:q<l.length) (hc:Lst (fun j=>f j=true) (nb e w n) c) (hf:FlP n f (nb e w n) c i o st pp (Dst w h pp l q)) (hi:inD w h pp (l.getD q (0,0))) (ho:o.getD (atD w pp (l.getD q (0,0))) 0<0) (hfk:f (atD w pp (l.getD q (0,0)))=true):
    FlP n f (nb e w n) c i (o.set (atD w pp (l.getD q (0,0))) (cnt (ldr f c) i:Int)) (st++[atD w pp (l.getD q (0,0))]) pp (Dst w h pp l (q+1))∧2*unv (o.set (atD w pp (l.getD q (0,0))) (cnt (ldr f c) i:Int))+(st++[atD w pp (l.getD q (0,0))]).length+1=2*unv o+st.length:=by
  subst hn
  have hk:=hi.pix.2
  refine ⟨(hf.visit hc hk hfk (hi.nb hs hq hf.pop.1) ho).skip fun k hD=> .inl ?_,?_⟩
  · obtain ⟨j, h1, h2, h3⟩ := hD
    by_cases e:j=q
    · right;rw [h3,e]
    · left;exact ⟨j,by omega,h2,h3⟩
  · have := unv_set (by rw [hf.len]; exact hk) ho (v := (cnt (ldr f c) i : Int)) (by omega)
    rw [List.length_append];simp only [List.length_cons,List.length_nil];omega
theorem FlP.no (hs:Stp e l) (hn:n=w*h) (hq:q<l.length) (hc:Lst (fun j=>f j=true) (nb e w n) c) (hf:FlP n f (nb e w n) c i o st pp (Dst w h pp l q)) (hx:¬(inD w h pp (l.getD q (0,0))∧o.getD (atD w pp (l.getD q (0,0))) 0<0∧f (atD w pp (l.getD q (0,0)))=true)):
    FlP n f (nb e w n) c i o st pp (Dst w h pp l (q+1)):=by
  subst hn
  refine hf.skip fun k hD=> ?_
  obtain ⟨j,h1,h2,h3⟩:=hD
  by_cases e:j=q
  · subst e; subst h3
    refine .inr fun a b d=>hf.seen hc a b d fun x=>hx ⟨h2,x,b⟩
  · exact .inl ⟨j,by omega,h2,h3⟩
end
theorem getD_iz (st:List Nat) (pp:Nat):((st++[pp]).map iz).getD st.length 0=(pp:Int):=by
  rw [List.map_append,List.getD_eq_getElem?_getD,List.getElem?_append_right (by simp)];simp [iz]
theorem snoc {sk:List Nat} (h:sk≠[]):∃st pp,sk=st++[pp]:=⟨_,_,(List.dropLast_concat_getLast h).symm⟩
theorem unv_le (o:List Int):unv o≤o.length:=List.countP_le_length
structure Lab (n:Nat) (f:Nat→Bool) (adj:Nat→Nat→Prop) (o:List Int):Prop where
  len:o.length=n
  ex:∃c,Lst (fun j=>f j=true) adj c∧(∀j,j<n→f j=true→o.getD j 0=(cnt (ldr f c) (c j):Int))∧∀j,j<n→¬f j=true→o.getD j 0= -1
section
variable {n : Nat} {f : Nat → Bool} {adj : Nat → Nat → Prop} {c d : Nat → Nat} {o o2 : List Int}
theorem OutI.lab (hc:Lst (fun j=>f j=true) adj c) (hn:∀j,f j=true→j<n) (h:OutI n f c n o):Lab n f adj o:=
  ⟨h.len,c,hc,fun j hj hf=>h.old j hj hf (hn _ (hc.mem hf)),fun j hj hf=>h.new j hj fun k=>hf k.1⟩
theorem ldr_uniq (hc:Lst (fun j=>f j=true) adj c) (hd:Lst (fun j=>f j=true) adj d):ldr f c=ldr f d:=by
  funext j;unfold ldr
  by_cases h:f j=true
  · rw [hc.uniq hd h]
  · simp [h]
theorem Lab.uniq (h:Lab n f adj o) (k:Lab n f adj o2):o=o2:=by
  obtain ⟨c,hc,h1,h2⟩:=h.ex
  obtain ⟨d,hd,k1,k2⟩:=k.ex
  refine Big.ext_getD (by rw [h.len,k.len]) fun j hj=> ?_
  rw [h.len] at hj
  by_cases e:f j=true
  · rw [h1 j hj e,k1 j hj e,ldr_uniq hc hd,hc.uniq hd e]
  · rw [h2 j hj e,k2 j hj e]
end
end Go.Proofs.Ytefbbhiaalcjfaa.Fl
namespace Go.Proofs.Ytefbbhiaalcjfaa.Sp
open Go
set_option linter.unusedVariables false
set_option maxRecDepth 100000
set_option maxHeartbeats 1000000
theorem zDd {w:Nat} {h:Nat} {m:Int} {p:Option Addr} {n:Nat} {cap:Nat} {l:List Int} {tb:Nat} {th:Int} {p2:Option Addr} {c2:Nat} (hn:l.length=n) (hw:1≤w∧w≤64) (hh:1≤h∧h≤64) (hwh:n=w*h) (hb:n≤4096):Con Try.prog 36 [.agg #[.int .i64 ((w:Nat):Int),.int .i64 ((h:Nat):Int),.int .i64 m,.slice p n cap],.func (.func 57) #[] #[.pointer (some ⟨tb,0,none⟩)],.slice p2 4 c2] [] [slF (rI .i64) p cap l,atF tb 0 [.int .i64 th],slF (rI2 .i64) p2 c2 (Fl.st4)] (Y:=(Option Addr)×Nat×(List Int)×(Nat→Nat)) (fun y=>Fl.Lst (fun j=>(Fl.ge l th) j=true) (Fl.nb false w n) y.2.2.2∧Fl.OutI n (Fl.ge l th) y.2.2.2 n y.2.2.1) (fun y=> .tuple #[.slice (y.1) n (y.2.1),.int .i64 (((Fl.cnt (Fl.ldr (Fl.ge l th) y.2.2.2) n):Nat):Int)]) (fun y=>[]) (fun y=>[slF (rI .i64) (y.1) (y.2.1) (y.2.2.1)]):=by
 refine zr Try.func36 rfl rfl rfl (fun c=> ?_)
 show RunC _ _ _ _ _ [(0,.agg #[.int .i64 ((w:Nat):Int),.int .i64 ((h:Nat):Int),.int .i64 m,.slice p n cap]),(1,.func (.func 57) #[] #[.pointer (some ⟨tb,0,none⟩)]),(2,.slice p2 4 c2)] [] [slF (rI .i64) p cap l,atF tb 0 [.int .i64 th],slF (rI2 .i64) p2 c2 (Fl.st4)]
 refine zea 0 rfl (fun hL0=> ?_)
 refine zea 2 rfl (fun hL2=> ?_)
 obtain ⟨cc,hcc⟩:=Fl.Lst.exists (inn:=fun j=>(Fl.ge l th) j=true) (adj:=(Fl.nb false w n)) (fun _ _=>Fl.nb_symm)
 have hin:∀j,(Fl.ge l th) j=true→j<n:=fun j hj=>by have:=Fl.ge_lt hj;omega
 refine zi<|zc<|zQ rfl rfl (zV rfl rfl) (fun b1=> ?_)
 refine r_pv rfl rfl (zd rfl)<|r_pv rfl rfl (zd rfl)<|zj<|zf<|zi<|zc<|r_pv rfl rfl (zg Try.underlying24 rfl sz22 rfl rfl)<|r_u rfl rfl (ze 0 ty22 rfl rfl rfl)<|r_pv rfl rfl (zK Try.underlying22 rfl)<|zxa rfl rfl (zWa (r:=rI .i64) (k:=n) (x0:=0) (γ0:=()) Try.underlying22 inf3 rfl rfl rfl rfl (by omega) (by omega) rfl (fun _ _=>by exact zk.2 (by decide)) (by decide)) (fun b2 _=> ?_)
 refine r_pv rfl rfl (zd rfl)<|zj<|zf<|zi<|zi<|zc<|r_pv rfl rfl (zb rfl)<|r_pv rfl rfl (zK Try.underlying22 rfl)<|r_pv rfl rfl (zb rfl)<|zj<|zf<|zB<|zna (X:=Nat×(List Int)) (fun x:Nat×(List Int)=>x.1≤n∧x.2.length=n∧∀j,j<x.1→x.2.getD j 0= -1) (fun x=>[(26,.int .i64 ((x.1:Nat):Int)),(25,.int .i64 ((n:Nat):Int)),(8,.slice (some ⟨b2,0,none⟩) n n),(7,.int .i64 0),(6,.slice none 0 0),(3,.pointer (some ⟨b1,0,none⟩)),(1,.func (.func 57) #[] #[.pointer (some ⟨tb,0,none⟩)]),(2,.slice p2 4 c2)]) (fun x=>[rowA 3 (rI .i64) (some ⟨b2,0,none⟩) n (x.2),boxA b1 24 [.int .i64 ((w:Nat):Int),.int .i64 ((h:Nat):Int),.int .i64 m,.slice p n cap]]) (fun x=>[slF (rI .i64) p cap l,atF tb 0 [.int .i64 th],slF (rI2 .i64) p2 c2 (Fl.st4)]) (fun x:Nat×(List Int)=>n - x.1) (0,List.replicate n 0) (show 0≤n∧(List.replicate n 0).length=n∧∀j,j<0→(List.replicate n 0).getD j 0= -1 from by exact ⟨Nat.zero_le _,by simp,fun j hj=>by omega⟩) ((.e rfl (by first|rfl|(congr 1;omega)|simp_all) (.of rfl)):SubM _ _) (ho:=((.of [0,0] rfl):PickO _ _ _)) ((.of [0,1,2] rfl):SelR _ _ _) ?_
 rintro ⟨i,A⟩ hI
 replace hI:i≤n∧A.length=n∧∀j,j<i→A.getD j 0= -1:=hI
 try dsimp only
 obtain ⟨hi,hAl,hA⟩:=hI
 refine zi<|zc<|r_pv rfl rfl (zW rfl rfl)<|zj<|zf<|zi<|zC rfl (fun h3=> ?_) (fun h3=> ?_)
 ·
  refine zy<|zf<|zi<|zB<|zi<|zc<|r_pv rfl rfl (zb rfl)<|r_pv rfl rfl (zd rfl)<|zj<|zf<|zc<|r_pv rfl rfl (zb rfl)<|r_pv rfl rfl (zb rfl)<|r_pv rfl rfl (zP (j:=i) Try.underlying22 sz3 rfl rfl rfl (by omega))<|zya 0 rfl rfl rfl (zN (j:=i) (x0:=(-1)) (γ0:=()) rfl rfl (by first|omega|(rw [List.length_map];omega)|(simp only [List.length_set];omega)|(simp;omega)) rfl rfl sz3 (fun _ _=>by exact zk.2 (by omega))) (fun _=> .z) (fun _ _=> ?_)
  refine zj<|zS<|zf<|zc<|r_pv rfl rfl (zz (z:=(((i+1):Nat):Int)) rfl rfl (w64 (by omega)))<|r_pv rfl rfl (zb rfl)<|zj<|zZ ((i+1),(A.set i (-1))) (show (i+1)≤n∧(A.set i (-1)).length=n∧∀j,j<(i+1)→(A.set i (-1)).getD j 0= -1 from by exact ⟨by omega,by rw [List.length_set];exact hAl,fun j hj=>by by_cases e9:j=i;exact e9 ▸ Big.getD_set_self (by omega) _;rw [Big.getD_set_ne e9];exact hA j (by omega)⟩) (by show n - (i+1)<n - i;omega) ((.of rfl):SubM _ _) (ho:=((.of [0,0] rfl):PickO _ _ _)) ((.of [0,1,2] rfl):SelR _ _ _)
 ·
  refine zha<|zm<|zm<|zv<|zf<|zi<|zc<|r_pv rfl rfl (zd rfl)<|zj<|zf<|zi<|zi<|zc<|r_pv rfl rfl (zg Try.underlying24 rfl sz22 rfl rfl)<|r_u rfl rfl (ze 1 ty22 rfl rfl rfl)<|r_pv rfl rfl (zK Try.underlying22 rfl)<|r_pv rfl rfl (zb rfl)<|zj<|zf<|zB ?_
  have hin9:i=n:=by omega
  refine zna (X:=Nat×(List Int)) (fun x:Nat×(List Int)=>x.1≤n∧Fl.OutI n (Fl.ge l th) cc x.1 x.2) (fun x=>[(10,.int .i64 (((Fl.cnt (Fl.ldr (Fl.ge l th) cc) x.1):Nat):Int)),(36,.int .i64 ((x.1:Nat):Int)),(35,.int .i64 ((n:Nat):Int)),(34,.slice p n cap),(8,.slice (some ⟨b2,0,none⟩) n n),(7,.int .i64 0),(6,.slice none 0 0),(3,.pointer (some ⟨b1,0,none⟩)),(1,.func (.func 57) #[] #[.pointer (some ⟨tb,0,none⟩)]),(2,.slice p2 4 c2)]) (fun x=>[rowA 3 (rI .i64) (some ⟨b2,0,none⟩) n (x.2),boxA b1 24 [.int .i64 ((w:Nat):Int),.int .i64 ((h:Nat):Int),.int .i64 m,.slice p n cap]]) (fun x=>[slF (rI .i64) p cap l,atF tb 0 [.int .i64 th],slF (rI2 .i64) p2 c2 (Fl.st4)]) (fun x:Nat×(List Int)=>n - x.1) (0,A) (show 0≤n∧Fl.OutI n (Fl.ge l th) cc 0 A from by exact ⟨Nat.zero_le _,⟨hAl,fun j _ _ hj=>by omega,fun j hj _=>hA j (by omega)⟩⟩) ((.e rfl (by first|rfl|(congr 1;omega)|simp_all) (.e rfl (by first|rfl|(congr 1;omega)|simp_all) (.of rfl))):SubM _ _) (ho:=((.of [0,0] rfl):PickO _ _ _)) ((.of [0,1,2] rfl):SelR _ _ _) ?_
  rintro ⟨i,o⟩ hI
  replace hI:i≤n∧Fl.OutI n (Fl.ge l th) cc i o:=hI
  try dsimp only
  obtain ⟨hi,ho⟩:=hI
  have hol:=ho.len
  have hcn:=Fl.cnt_le (Fl.ldr (Fl.ge l th) cc) i
  refine zi<|zc<|r_pv rfl rfl (zW rfl rfl)<|zj<|zf<|zi<|zC rfl (fun h4=> ?_) (fun h4=> ?_)
  ·
   refine zy<|zf<|zi<|zB<|zi<|zc<|r_pv rfl rfl (zb rfl)<|zO (x0:=(l.getD i 0)) 0 i rfl Try.underlying22 sz3 rfl rfl rfl (by first|rfl|assumption|(simp only [List.length_append,List.length_map,List.length_cons,List.length_nil];done)|(simp only [List.length_append,List.length_map,List.length_cons,List.length_nil];omega)|omega) rfl rfl (gD (d:=0) (by omega)) (fun b5 o6 hok7=> ?_)
   replace hok7:=zk.1 hok7
   refine r_u rfl rfl (zn (j:=0) 0 ty3 rfl rfl rfl rfl)<|r_pv rfl rfl (zd rfl)<|r_pv rfl rfl (zd rfl)<|zj<|zf<|zi<|zRa (X:=Unit) (fun x=>True) (fun x=>[(51,.bool (decide (¬o.getD i 0<0∨¬(Fl.ge l th) i=true))),(11,.int .i64 ((i:Nat):Int)),(10,.int .i64 (((Fl.cnt (Fl.ldr (Fl.ge l th) cc) i):Nat):Int)),(36,.int .i64 ((i:Nat):Int)),(35,.int .i64 ((n:Nat):Int)),(34,.slice p n cap),(8,.slice (some ⟨b2,0,none⟩) n n),(7,.int .i64 0),(6,.slice none 0 0),(3,.pointer (some ⟨b1,0,none⟩)),(1,.func (.func 57) #[] #[.pointer (some ⟨tb,0,none⟩)]),(2,.slice p2 4 c2)]) (fun x=>[rowA 3 (rI .i64) (some ⟨b2,0,none⟩) n o,boxA b1 24 [.int .i64 ((w:Nat):Int),.int .i64 ((h:Nat):Int),.int .i64 m,.slice p n cap]]) (fun x=>[atF b5 o6 [.int .i64 (l.getD i 0)],slF (rI .i64) p cap l,atF tb 0 [.int .i64 th],slF (rI2 .i64) p2 c2 (Fl.st4)]) ?_ ?_
   ·
    refine zc<|r_pv rfl rfl (zb rfl)<|r_pv rfl rfl (zb rfl)<|r_pv rfl rfl (zP (j:=i) Try.underlying22 sz3 rfl rfl rfl (by omega))<|r_vl rfl rfl (zaa 0 i rfl ty3 rfl rfl (gD (d:=0) (by omega)) rfl) (fun _ hok8=> ?_)
    replace hok8:=zk.1 hok8
    refine r_pv rfl rfl (zGa rfl rfl)<|zR rfl rfl (zb rfl) (fun hk1=> ?_) (fun hk1=> ?_)
    ·
     refine za rfl rfl<|za rfl rfl<|za rfl rfl<|za rfl rfl<|r_pv rfl rfl (zl rfl rfl)<|zj ?_
     exact zca () (show True from by first|trivial|omega|simp_all) ((.e rfl (congrArg Value.bool (by exact Eq.symm (decide_eq_true (.inl (by omega))))) (.of rfl)):SubM _ _) (ho:=((.of [0,0] rfl):PickO _ _ _)) ((.of [0,1,2,3] rfl):SelR _ _ _)
    ·
     refine r_pv rfl rfl (zb rfl)<|r_pv rfl rfl (zb rfl)<|zgc (first:=[]) (cap:=[.pointer (some ⟨tb,0,none⟩)]) rfl rfl rfl (.c rfl .n) ce57 (zZb (g:=(l.getD i 0)) (th:=th) (tb:=tb)) (.c (j:=2) rfl .n) ?_
     rintro ⟨⟩ -
     dsimp only [List.append_eq,List.nil_append,List.cons_append]
     refine r_pv rfl rfl (zkb rfl)<|r_pv rfl rfl (zl rfl rfl)<|zj ?_
     exact zca () (show True from by first|trivial|omega|simp_all) ((.e rfl (congrArg Value.bool (by exact decide_eq_decide.2 ⟨fun h9=> .inr (fun h8=>h9 ((Fl.ge_iff (by omega)).1 h8)),fun h9 h8=>h9.elim (fun h7=>h7 (by omega)) (fun h7=>h7 ((Fl.ge_iff (by omega)).2 h8))⟩)) (.of rfl)):SubM _ _) (ho:=((.of [0,0] rfl):PickO _ _ _)) ((.of [0,1,2,3] rfl):SelR _ _ _)
   ·
    rintro ⟨⟩ -
    try dsimp only
    refine zC rfl (fun hout=> ?_) (fun hout=> ?_)
    ·
     refine zha<|zm<|zv<|zf<|zc<|r_pv rfl rfl (zz (z:=(((i+1):Nat):Int)) rfl rfl (w64 (by omega)))<|r_pv rfl rfl (zb rfl)<|zj<|zZ ((i+1),o) (show (i+1)≤n∧Fl.OutI n (Fl.ge l th) cc (i+1) o from by exact ⟨by omega,(ho.none hcc (by omega) hout).1⟩) (by show n - (i+1)<n - i;omega) ((.e rfl (congrArg (Value.int .i64) (by dsimp only;rw [Fl.cnt_succ,(ho.none hcc (by omega) hout).2];simp)) (.of rfl)):SubM _ _) (ho:=((.of [0,0] rfl):PickO _ _ _)) ((.of [1,2,3] rfl):SelR _ _ _)
    ·
     refine zy<|zf<|zi<|zc<|r_pv rfl rfl (zb rfl)<|r_pv rfl rfl (zb rfl)<|r_pv rfl rfl (zb rfl)<|r_pv rfl rfl (zP (j:=i) Try.underlying22 sz3 rfl rfl rfl (by omega))<|zya 0 rfl rfl rfl (zN (j:=i) (x0:=(((Fl.cnt (Fl.ldr (Fl.ge l th) cc) i):Nat):Int)) (γ0:=()) rfl rfl (by first|omega|(rw [List.length_map];omega)|(simp only [List.length_set];omega)|(simp;omega)) rfl rfl sz3 (fun _ _=>by exact zk.2 (by omega))) (fun _=> .z) (fun _ _=> ?_)
     refine zj<|zf<|zi<|zi<|zc<|r_pv rfl rfl (zb rfl)<|zxa rfl rfl (zL (enc:=fun z:Int=>[.int .i64 z]) (ok:=InK .i64) (h1:=fun _=>rfl) (h2:=fun _=>rfl) (k:=1) Try.underlying22 inf3 rfl (by decide) (by decide) (by decide) (.c (x:=((i:Nat):Int)) rfl rfl (fun _ _=>by exact zk.2 (by omega)) .n)) (fun b9 _=> ?_)
     refine r_pv rfl rfl (zd rfl)<|zj<|zf<|zB ?_
     have hfi:(Fl.ge l th) i=true:=by by_cases h9:(Fl.ge l th) i=true;exact h9;exact absurd (.inr h9) hout
     have hoi:o.getD i 0<0:=by by_cases h9:o.getD i 0<0;exact h9;exact absurd (.inl h9) hout
     have hld:=(ho.lead hcc (by omega) hoi hfi).2
     refine zna (X:=(List Int)×(List Nat)×(Option Addr)×Nat) (fun x:(List Int)×(List Nat)×(Option Addr)×Nat=>Fl.Fld n (Fl.ge l th) (Fl.nb false w n) cc i x.1 x.2.1∧2*Fl.unv x.1+x.2.1.length≤2*n+1) (fun x=>[(13,.slice (x.2.2.1) (x.2.1.length) (x.2.2.2)),(10,.int .i64 (((Fl.cnt (Fl.ldr (Fl.ge l th) cc) i):Nat):Int)),(36,.int .i64 ((i:Nat):Int)),(35,.int .i64 ((n:Nat):Int)),(34,.slice p n cap),(8,.slice (some ⟨b2,0,none⟩) n n),(7,.int .i64 0),(6,.slice none 0 0),(3,.pointer (some ⟨b1,0,none⟩)),(1,.func (.func 57) #[] #[.pointer (some ⟨tb,0,none⟩)]),(2,.slice p2 4 c2)]) (fun x=>[rowA 3 (rI .i64) (x.2.2.1) (x.2.2.2) (x.2.1.map Fl.iz),rowA 3 (rI .i64) (some ⟨b2,0,none⟩) n (x.1),boxA b1 24 [.int .i64 ((w:Nat):Int),.int .i64 ((h:Nat):Int),.int .i64 m,.slice p n cap]]) (fun x=>[atF b5 o6 [.int .i64 (l.getD i 0)],slF (rI .i64) p cap l,atF tb 0 [.int .i64 th],slF (rI2 .i64) p2 c2 (Fl.st4)]) (fun x:(List Int)×(List Nat)×(Option Addr)×Nat=>2*Fl.unv x.1+x.2.1.length) ((o.set i (((Fl.cnt (Fl.ldr (Fl.ge l th) cc) i):Nat):Int)),[i],some ⟨b9,0,none⟩,1) (show Fl.Fld n (Fl.ge l th) (Fl.nb false w n) cc i (o.set i (((Fl.cnt (Fl.ldr (Fl.ge l th) cc) i):Nat):Int)) ([i])∧2*Fl.unv (o.set i (((Fl.cnt (Fl.ldr (Fl.ge l th) cc) i):Nat):Int))+([i]).length≤2*n+1 from by exact ⟨(ho.lead hcc (by omega) hoi hfi).1,by have h9:=Fl.unv_le (o.set i ((Fl.cnt (Fl.ldr (Fl.ge l th) cc) i:Nat):Int));rw [List.length_set] at h9;simp only [List.length_cons,List.length_nil];omega⟩) ((.e rfl (by first|rfl|(congr 1;omega)|simp_all) (.of rfl)):SubM _ _) (ho:=((.e (i:=0) rfl (by first|rfl|(congr 1;omega)|simp_all) (.of [0,0] rfl)):PickO _ _ _)) ((.of [0,1,2,3] rfl):SelR _ _ _) ?_
     rintro ⟨o2,sk,p4,c4⟩ hFF
     replace hFF:Fl.Fld n (Fl.ge l th) (Fl.nb false w n) cc i o2 sk∧2*Fl.unv o2+sk.length≤2*n+1:=hFF
     try dsimp only
     obtain ⟨hF,hFm⟩:=hFF
     have ho2:=hF.len
     refine zi<|zi<|zc<|r_pv rfl rfl (zb rfl)<|r_pv rfl rfl (zK Try.underlying22 rfl)<|r_pv rfl rfl (zua rfl rfl)<|zj<|zf<|zC rfl (fun hso=> ?_) (fun hso=> ?_)
     ·
      obtain ⟨st,pp,rfl⟩:=Fl.snoc (sk:=sk) (fun e9=>by rw [e9] at hso;simp at hso)
      have hsl9:st.length+1≤2*n+1:=by have h8:=hFm;rw [List.length_append] at h8;simp only [List.length_cons,List.length_nil] at h8;omega
      have hsl8:((st++[pp]).map Fl.iz).length=st.length+1:=by simp
      refine zGb 0 rfl (fun hcl=> ?_)
      have e10:(.slice p4 ((st++[pp]).length) c4:Value)= .slice p4 (st.length+1) c4:=by simp
      rw [e10]
      refine zy<|zf<|zB<|zi<|zc<|r_pv rfl rfl (zb rfl)<|r_pv rfl rfl (zb rfl)<|r_pv rfl rfl (zK Try.underlying22 rfl)<|r_pv rfl rfl (zda (z:=(((st.length):Nat):Int)) rfl rfl (w64 (by omega)))<|r_u rfl rfl (zY 0 (st.length) rfl Try.underlying22 sz3 rfl (by first|rfl|assumption|(simp only [List.length_append,List.length_map,List.length_cons,List.length_nil];done)|(simp only [List.length_append,List.length_map,List.length_cons,List.length_nil];omega)|omega) rfl rfl (by omega))<|r_vl rfl rfl (zaa 0 (st.length) rfl ty3 rfl rfl (gD (d:=0) (by omega)) rfl) (fun _ hok11=> ?_)
      replace hok11:=zk.1 hok11
      refine r_pv rfl rfl (zd rfl)<|zj<|zf<|zi ?_
      have e12:((((st++[pp]).map Fl.iz).getD (st.length) 0):Int)=((pp:Nat):Int):=by exact Fl.getD_iz st pp
      rw [e12]
      refine zc<|r_pv rfl rfl (zb rfl)<|r_pv rfl rfl (zb rfl)<|r_pv rfl rfl (zK Try.underlying22 rfl)<|r_pv rfl rfl (zda (z:=(((st.length):Nat):Int)) rfl rfl (w64 (by omega)))<|r_pv rfl rfl (zYa (hi:=(st.length)) Try.underlying22 sz3 rfl (.s rfl) (.inr ⟨_,rfl⟩) (by omega))<|r_pv rfl rfl (zd rfl)<|zj<|zf<|zi<|c_mem (fun w mm=>mm.rowTake 0 rfl (st.length)) ?_
      dsimp only [List.set]
      have e13:((st++[pp]).map Fl.iz).take (st.length)=st.map Fl.iz:=by simp
      rw [e13]
      refine zc<|r_pv rfl rfl (zb rfl)<|r_pv rfl rfl (zK Try.underlying75 rfl)<|r_pv rfl rfl (zb rfl)<|zj<|zf<|zB<|zna (X:=Nat×(List Int)×(List Nat)×(Option Addr)×Nat) (fun x:Nat×(List Int)×(List Nat)×(Option Addr)×Nat=>x.1≤4∧Fl.FlP n (Fl.ge l th) (Fl.nb false w n) cc i x.2.1 x.2.2.1 pp (Fl.Dst w h pp Fl.st4 x.1)∧2*Fl.unv x.2.1+x.2.2.1.length≤2*Fl.unv o2+st.length) (fun x=>[(13,.slice (x.2.2.2.1) (x.2.2.1.length) (x.2.2.2.2)),(74,.int .i64 ((x.1:Nat):Int)),(73,.int .i64 ((4:Nat):Int)),(72,.slice p2 4 c2),(14,.int .i64 ((pp:Nat):Int)),(10,.int .i64 (((Fl.cnt (Fl.ldr (Fl.ge l th) cc) i):Nat):Int)),(36,.int .i64 ((i:Nat):Int)),(35,.int .i64 ((n:Nat):Int)),(34,.slice p n cap),(8,.slice (some ⟨b2,0,none⟩) n n),(7,.int .i64 0),(6,.slice none 0 0),(3,.pointer (some ⟨b1,0,none⟩)),(1,.func (.func 57) #[] #[.pointer (some ⟨tb,0,none⟩)]),(2,.slice p2 4 c2)]) (fun x=>[rowA 3 (rI .i64) (x.2.2.2.1) (x.2.2.2.2) (x.2.2.1.map Fl.iz),rowA 3 (rI .i64) (some ⟨b2,0,none⟩) n (x.2.1),boxA b1 24 [.int .i64 ((w:Nat):Int),.int .i64 ((h:Nat):Int),.int .i64 m,.slice p n cap]]) (fun x=>[atF b5 o6 [.int .i64 (l.getD i 0)],slF (rI .i64) p cap l,atF tb 0 [.int .i64 th],slF (rI2 .i64) p2 c2 (Fl.st4)]) (fun x:Nat×(List Int)×(List Nat)×(Option Addr)×Nat=>4 - x.1) (0,o2,st,p4,c4) (show 0≤4∧Fl.FlP n (Fl.ge l th) (Fl.nb false w n) cc i o2 st pp (Fl.Dst w h pp Fl.st4 0)∧2*Fl.unv o2+st.length≤2*Fl.unv o2+st.length from by exact ⟨Nat.zero_le _,Fl.FlP.start hF,Nat.le_refl _⟩) ((.c rfl (.e rfl (by first|rfl|(congr 1;omega)|simp_all) (.of rfl))):SubM _ _) (ho:=((.of [0,0,0] rfl):PickO _ _ _)) ((.of [0,1,2,3] rfl):SelR _ _ _) ?_
      rintro ⟨q,o3,s3,p5,c5⟩ hQ
      replace hQ:q≤4∧Fl.FlP n (Fl.ge l th) (Fl.nb false w n) cc i o3 s3 pp (Fl.Dst w h pp Fl.st4 q)∧2*Fl.unv o3+s3.length≤2*Fl.unv o2+st.length:=hQ
      try dsimp only
      obtain ⟨hq,hP1,hP2⟩:=hQ
      have ho3:=hP1.len
      refine zi<|zc<|r_pv rfl rfl (zW rfl rfl)<|zj<|zf<|zi<|zC rfl (fun h14=> ?_) (fun h14=> ?_)
      ·
       have hst9:Fl.st4.length=4:=rfl
       have hd9:=Fl.stp4.ok _ (Fl.gD_mem (l:=Fl.st4) (q:=q) (by show q<4;omega))
       have hpb:=Fl.at_b hw hP1.pop.1 hb hd9.1 hd9.2.1
       refine zy<|zf<|zi<|zB<|zi<|zc<|zO (x0:=(Fl.st4.getD q (0,0))) 3 q rfl Try.underlying75 sz90 rfl rfl rfl (by first|rfl|assumption|(simp only [List.length_append,List.length_map,List.length_cons,List.length_nil];done)|(simp only [List.length_append,List.length_map,List.length_cons,List.length_nil];omega)|omega) rfl rfl (gD (d:=(0,0)) (by omega)) (fun b15 o16 hok17=> ?_)
       obtain ⟨hok17x,hok17y⟩:=hok17
       replace hok17x:=zk.1 hok17x
       replace hok17y:=zk.1 hok17y
       refine r_u rfl rfl (zLa (j:=0) 0 ty90 rfl rfl rfl (.take (.take .nil)))<|zQ rfl rfl (zE zr90 rfl) (fun b18=> ?_)
       refine zo 0 rfl rfl rfl rfl rfl sz90 rfl (.take (.take .nil)) .z<|zj<|zf<|zi<|zia (OW:=[]) (O:=[boxA b18 90 [.int .i64 ((Fl.st4.getD q (0,0)).1),.int .i64 ((Fl.st4.getD q (0,0)).2)],rowA 3 (rI .i64) p5 c5 (s3.map Fl.iz),rowA 3 (rI .i64) (some ⟨b2,0,none⟩) n o3,boxA b1 24 [.int .i64 ((w:Nat):Int),.int .i64 ((h:Nat):Int),.int .i64 m,.slice p n cap]]) 100000 mixed (.then (.block (.then (.then (.block (.block (.then (.block (.then (.block (.then (.then (.block (.then .ret)))))))))))))) (by kernel_rfl)<|d_pv 0 rfl rfl (by kernel_rfl) (by kernel_rfl) rfl rfl (zb rfl)<|d_pv 1 rfl rfl (by kernel_rfl) (by kernel_rfl) rfl rfl (zg Try.underlying24 rfl sz3 rfl rfl)<|d_u 2 rfl rfl (by kernel_rfl) (by kernel_rfl) rfl rfl (ze 3 ty3 rfl rfl rfl)<|d_pv 3 rfl rfl (by kernel_rfl) (by kernel_rfl) rfl rfl (zFa (z:=(((pp%w):Nat):Int)) rfl rfl (by omega) (remN (by omega) (by omega)))<|d_pv 4 rfl rfl (by kernel_rfl) (by kernel_rfl) rfl rfl (zMa (i:=0) Try.underlying90 sz3 rfl rfl (by decide) rfl)<|d_u 5 rfl rfl (by kernel_rfl) (by kernel_rfl) rfl rfl (ze 0 ty3 rfl rfl rfl)<|d_pv 6 rfl rfl (by kernel_rfl) (by kernel_rfl) rfl rfl (zz (z:=((((pp%w):Nat):Int)+(Fl.st4.getD q (0,0)).1)) rfl rfl (w64 (by omega)))<|d_pv 7 rfl rfl (by kernel_rfl) (by kernel_rfl) rfl rfl (zb rfl)<|d_pv 8 rfl rfl (by kernel_rfl) (by kernel_rfl) rfl rfl (zg Try.underlying24 rfl sz3 rfl rfl)<|d_u 9 rfl rfl (by kernel_rfl) (by kernel_rfl) rfl rfl (ze 3 ty3 rfl rfl rfl)<|d_pv 10 rfl rfl (by kernel_rfl) (by kernel_rfl) rfl rfl (zHa (z:=(((pp / w):Nat):Int)) rfl rfl (by omega) (by rw [quoN (z:=(((pp / w):Nat):Int)) (by omega) (by omega)];exact w64 (by omega)))<|d_pv 11 rfl rfl (by kernel_rfl) (by kernel_rfl) rfl rfl (zMa (i:=1) Try.underlying90 sz3 rfl rfl (by decide) rfl)<|d_u 12 rfl rfl (by kernel_rfl) (by kernel_rfl) rfl rfl (ze 0 ty3 rfl rfl rfl)<|d_pv 13 rfl rfl (by kernel_rfl) (by kernel_rfl) rfl rfl (zz (z:=((((pp / w):Nat):Int)+(Fl.st4.getD q (0,0)).2)) rfl rfl (w64 (by omega)))<|d_pv 14 rfl rfl (by kernel_rfl) (by kernel_rfl) rfl rfl (zd rfl)<|d_pv 15 rfl rfl (by kernel_rfl) (by kernel_rfl) rfl rfl (zd rfl)<|zfa (by kernel_rfl)<|zf<|zi ?_
       obtain ⟨kx,hkx⟩:∃z,z=((((pp%w):Nat):Int)+(Fl.st4.getD q (0,0)).1):=⟨_,rfl⟩
       rw [← hkx]
       obtain ⟨ky,hky⟩:∃z,z=((((pp / w):Nat):Int)+(Fl.st4.getD q (0,0)).2):=⟨_,rfl⟩
       rw [← hky]
       have hkyw: -64≤ky*((w:Nat):Int)∧ky*((w:Nat):Int)≤4160:=by rw [hky];exact hpb.1
       have hkxb: -1≤kx∧kx≤64:=by rw [hkx];exact hpb.2.1
       refine zc<|r_pv rfl rfl (zb rfl)<|r_pv rfl rfl (zg Try.underlying24 rfl sz3 rfl rfl)<|r_u rfl rfl (ze 3 ty3 rfl rfl rfl)<|r_pv rfl rfl (zga (z:=(ky*((w:Nat):Int))) rfl rfl (w64 (by omega)))<|r_pv rfl rfl (zb rfl)<|r_pv rfl rfl (zz (z:=((ky*((w:Nat):Int))+kx)) rfl rfl (w64 (by omega)))<|r_pv rfl rfl (zd rfl)<|zj<|zf ?_
       obtain ⟨kj,hkj⟩:∃z,z=((ky*((w:Nat):Int))+kx):=⟨_,rfl⟩
       rw [← hkj]
       refine zRa (X:=Unit) (fun x=>True) (fun x=>[(131,.bool (decide (Fl.CP w h pp (Fl.ge l th) o3 (Fl.st4.getD q (0,0))))),(19,.int .i64 kj),(13,.slice p5 (s3.length) c5),(74,.int .i64 ((q:Nat):Int)),(73,.int .i64 ((4:Nat):Int)),(72,.slice p2 4 c2),(14,.int .i64 ((pp:Nat):Int)),(10,.int .i64 (((Fl.cnt (Fl.ldr (Fl.ge l th) cc) i):Nat):Int)),(36,.int .i64 ((i:Nat):Int)),(35,.int .i64 ((n:Nat):Int)),(34,.slice p n cap),(8,.slice (some ⟨b2,0,none⟩) n n),(7,.int .i64 0),(6,.slice none 0 0),(3,.pointer (some ⟨b1,0,none⟩)),(1,.func (.func 57) #[] #[.pointer (some ⟨tb,0,none⟩)]),(2,.slice p2 4 c2)]) (fun x=>[boxA b18 90 [.int .i64 ((Fl.st4.getD q (0,0)).1),.int .i64 ((Fl.st4.getD q (0,0)).2)],rowA 3 (rI .i64) p5 c5 (s3.map Fl.iz),rowA 3 (rI .i64) (some ⟨b2,0,none⟩) n o3,boxA b1 24 [.int .i64 ((w:Nat):Int),.int .i64 ((h:Nat):Int),.int .i64 m,.slice p n cap]]) (fun x=>[atF b15 o16 [.int .i64 ((Fl.st4.getD q (0,0)).1),.int .i64 ((Fl.st4.getD q (0,0)).2)],atF b5 o6 [.int .i64 (l.getD i 0)],slF (rI .i64) p cap l,atF tb 0 [.int .i64 th],slF (rI2 .i64) p2 c2 (Fl.st4)]) ?_ ?_
       ·
        refine zc<|r_pv rfl rfl (zb rfl)<|r_pv rfl rfl (zGa rfl rfl)<|zR rfl rfl (zb rfl) (fun hx0=> ?_) (fun hx0=> ?_)
        ·
         refine r_pv rfl rfl (zb rfl)<|r_pv rfl rfl (zGa rfl rfl)<|r_pv rfl rfl (zl rfl rfl)<|zR rfl rfl (zb rfl) (fun hx1=> ?_) (fun hx1=> ?_)
         ·
          refine r_pv rfl rfl (zb rfl)<|r_pv rfl rfl (zg Try.underlying24 rfl sz3 rfl rfl)<|r_u rfl rfl (ze 3 ty3 rfl rfl rfl)<|r_pv rfl rfl (zW rfl rfl)<|r_pv rfl rfl (zl rfl rfl)<|zR rfl rfl (zb rfl) (fun hx2=> ?_) (fun hx2=> ?_)
          ·
           refine r_pv rfl rfl (zb rfl)<|r_pv rfl rfl (zg Try.underlying24 rfl sz3 rfl rfl)<|r_u rfl rfl (ze 3 ty3 rfl rfl rfl)<|r_pv rfl rfl (zW rfl rfl)<|r_pv rfl rfl (zl rfl rfl)<|zR rfl rfl (zb rfl) (fun hx3=> ?_) (fun hx3=> ?_)
           ·
            have hat:kj.toNat=Fl.atD w pp (Fl.st4.getD q (0,0)):=by rw [hkj,hky,hkx];rfl
            have hiD:Fl.inD w h pp (Fl.st4.getD q (0,0)):=⟨hkx ▸ hx0,hky ▸ hx1,hkx ▸ hx2,hky ▸ hx3⟩
            have hpx:=hiD.pix
            have hkj0:0≤kj∧kj.toNat<n:=⟨by rw [hkj,hky,hkx];exact hpx.1,by rw [hat,hwh];exact hpx.2⟩
            refine r_pv rfl rfl (zb rfl)<|r_pv rfl rfl (zb rfl)<|r_pv rfl rfl (zP (j:=(kj).toNat) Try.underlying22 sz3 rfl rfl (by omega) (by omega))<|r_vl rfl rfl (zaa 2 ((kj).toNat) rfl ty3 rfl rfl (gD (d:=0) (by omega)) rfl) (fun _ hok19=> ?_)
            replace hok19:=zk.1 hok19
            refine r_pv rfl rfl (zW rfl rfl)<|r_pv rfl rfl (zl rfl rfl)<|zR rfl rfl (zb rfl) (fun hx4=> ?_) (fun hx4=> ?_)
            ·
             refine r_pv rfl rfl (zb rfl)<|r_pv rfl rfl (zg Try.underlying24 rfl sz22 rfl rfl)<|r_u rfl rfl (ze 3 ty22 rfl rfl rfl)<|r_pv rfl rfl (zb rfl)<|zO (x0:=(l.getD ((kj).toNat) 0)) 2 ((kj).toNat) rfl Try.underlying22 sz3 rfl rfl rfl (by first|rfl|assumption|(simp only [List.length_append,List.length_map,List.length_cons,List.length_nil];done)|(simp only [List.length_append,List.length_map,List.length_cons,List.length_nil];omega)|omega) rfl (by omega) (gD (d:=0) (by omega)) (fun b20 o21 hok22=> ?_)
             replace hok22:=zk.1 hok22
             refine r_u rfl rfl (zn (j:=0) 0 ty3 rfl rfl rfl rfl)<|zgc (first:=[]) (cap:=[.pointer (some ⟨tb,0,none⟩)]) rfl rfl rfl (.c rfl .n) ce57 (zZb (g:=(l.getD ((kj).toNat) 0)) (th:=th) (tb:=tb)) (.c (j:=4) rfl .n) ?_
             rintro ⟨⟩ -
             dsimp only [List.append_eq,List.nil_append,List.cons_append]
             refine r_pv rfl rfl (zl rfl rfl)<|zj ?_
             exact zca () (show True from by first|trivial|omega|simp_all) ((.e rfl (congrArg Value.bool (by exact decide_eq_decide.2 ⟨fun h9=>⟨hiD,by rw [← hat];exact hx4,by rw [← hat];exact (Fl.ge_iff (by omega)).2 h9⟩,fun h9=>(Fl.ge_iff (by omega)).1 (by rw [hat];exact h9.2.2)⟩)) (.of rfl)):SubM _ _) (ho:=((.of [0,0,0,0] rfl):PickO _ _ _)) ((.of [1,2,3,4,5] rfl):SelR _ _ _)
            ·
             refine za rfl rfl<|za rfl rfl<|za rfl rfl<|za rfl rfl<|za rfl rfl<|za rfl rfl<|za rfl rfl<|r_pv rfl rfl (zl rfl rfl)<|zj ?_
             exact zca () (show True from by first|trivial|omega|simp_all) ((.e rfl (congrArg Value.bool (by exact Eq.symm (decide_eq_false (fun h9=>hx4 (by rw [hat];exact h9.2.1))))) (.of rfl)):SubM _ _) (ho:=((.of [0,0,0,0] rfl):PickO _ _ _)) ((.of [0,1,2,3,4] rfl):SelR _ _ _)
           ·
            refine za rfl rfl<|za rfl rfl<|za rfl rfl<|za rfl rfl<|za rfl rfl<|r_pv rfl rfl (zl rfl rfl)<|r_pv rfl rfl (zb rfl)<|za rfl rfl<|za rfl rfl<|za rfl rfl<|za rfl rfl<|za rfl rfl<|za rfl rfl<|za rfl rfl<|r_pv rfl rfl (zl rfl rfl)<|zj ?_
            exact zca () (show True from by first|trivial|omega|simp_all) ((.e rfl (congrArg Value.bool (by exact Eq.symm (decide_eq_false (fun h9=>hx3 (by rw [hky];exact h9.1.2.2.2))))) (.of rfl)):SubM _ _) (ho:=((.of [0,0,0,0] rfl):PickO _ _ _)) ((.of [0,1,2,3,4] rfl):SelR _ _ _)
          ·
           refine za rfl rfl<|za rfl rfl<|za rfl rfl<|za rfl rfl<|r_pv rfl rfl (zl rfl rfl)<|r_pv rfl rfl (zb rfl)<|za rfl rfl<|za rfl rfl<|za rfl rfl<|za rfl rfl<|za rfl rfl<|r_pv rfl rfl (zl rfl rfl)<|r_pv rfl rfl (zb rfl)<|za rfl rfl<|za rfl rfl<|za rfl rfl<|za rfl rfl<|za rfl rfl<|za rfl rfl<|za rfl rfl<|r_pv rfl rfl (zl rfl rfl)<|zj ?_
           exact zca () (show True from by first|trivial|omega|simp_all) ((.e rfl (congrArg Value.bool (by exact Eq.symm (decide_eq_false (fun h9=>hx2 (by rw [hkx];exact h9.1.2.2.1))))) (.of rfl)):SubM _ _) (ho:=((.of [0,0,0,0] rfl):PickO _ _ _)) ((.of [0,1,2,3,4] rfl):SelR _ _ _)
         ·
          refine za rfl rfl<|za rfl rfl<|za rfl rfl<|za rfl rfl<|r_pv rfl rfl (zl rfl rfl)<|r_pv rfl rfl (zb rfl)<|za rfl rfl<|za rfl rfl<|za rfl rfl<|za rfl rfl<|r_pv rfl rfl (zl rfl rfl)<|r_pv rfl rfl (zb rfl)<|za rfl rfl<|za rfl rfl<|za rfl rfl<|za rfl rfl<|za rfl rfl<|r_pv rfl rfl (zl rfl rfl)<|r_pv rfl rfl (zb rfl)<|za rfl rfl<|za rfl rfl<|za rfl rfl<|za rfl rfl<|za rfl rfl<|za rfl rfl<|za rfl rfl<|r_pv rfl rfl (zl rfl rfl)<|zj ?_
          exact zca () (show True from by first|trivial|omega|simp_all) ((.e rfl (congrArg Value.bool (by exact Eq.symm (decide_eq_false (fun h9=>hx1 (by rw [hky];exact h9.1.2.1))))) (.of rfl)):SubM _ _) (ho:=((.of [0,0,0,0] rfl):PickO _ _ _)) ((.of [0,1,2,3,4] rfl):SelR _ _ _)
        ·
         refine za rfl rfl<|za rfl rfl<|r_pv rfl rfl (zl rfl rfl)<|r_pv rfl rfl (zb rfl)<|za rfl rfl<|za rfl rfl<|za rfl rfl<|za rfl rfl<|r_pv rfl rfl (zl rfl rfl)<|r_pv rfl rfl (zb rfl)<|za rfl rfl<|za rfl rfl<|za rfl rfl<|za rfl rfl<|r_pv rfl rfl (zl rfl rfl)<|r_pv rfl rfl (zb rfl)<|za rfl rfl<|za rfl rfl<|za rfl rfl<|za rfl rfl<|za rfl rfl<|r_pv rfl rfl (zl rfl rfl)<|r_pv rfl rfl (zb rfl)<|za rfl rfl<|za rfl rfl<|za rfl rfl<|za rfl rfl<|za rfl rfl<|za rfl rfl<|za rfl rfl<|r_pv rfl rfl (zl rfl rfl)<|zj ?_
         exact zca () (show True from by first|trivial|omega|simp_all) ((.e rfl (congrArg Value.bool (by exact Eq.symm (decide_eq_false (fun h9=>hx0 (by rw [hkx];exact h9.1.1))))) (.of rfl)):SubM _ _) (ho:=((.of [0,0,0,0] rfl):PickO _ _ _)) ((.of [0,1,2,3,4] rfl):SelR _ _ _)
       ·
        rintro ⟨⟩ -
        try dsimp only
        refine zC rfl (fun hc=> ?_) (fun hc=> ?_)
        ·
         have hat:kj.toNat=Fl.atD w pp (Fl.st4.getD q (0,0)):=by rw [hkj,hky,hkx];rfl
         have hpx:=hc.1.pix
         have hkj0:0≤kj∧kj.toNat<n:=⟨by rw [hkj,hky,hkx];exact hpx.1,by rw [hat,hwh];exact hpx.2⟩
         refine zi<|zc<|r_pv rfl rfl (zb rfl)<|r_pv rfl rfl (zb rfl)<|r_pv rfl rfl (zb rfl)<|r_pv rfl rfl (zP (j:=(kj).toNat) Try.underlying22 sz3 rfl rfl (by omega) (by omega))<|zya 2 rfl rfl rfl (zN (j:=(kj).toNat) (x0:=(((Fl.cnt (Fl.ldr (Fl.ge l th) cc) i):Nat):Int)) (γ0:=()) rfl rfl (by first|omega|(rw [List.length_map];omega)|(simp only [List.length_set];omega)|(simp;omega)) rfl rfl sz3 (fun _ _=>by exact zk.2 (by omega))) (fun _=>(.s (.s .z))) (fun _ _=> ?_)
         refine zj<|zf<|zc<|r_pv rfl rfl (zb rfl)<|r_pv rfl rfl (zb rfl)<|zxa rfl rfl (zL (enc:=fun z:Int=>[.int .i64 z]) (ok:=InK .i64) (h1:=fun _=>rfl) (h2:=fun _=>rfl) (k:=1) Try.underlying22 inf3 rfl (by decide) (by decide) (by decide) (.c (x:=kj) rfl rfl (fun _ _=>by exact zk.2 (by omega)) .n)) (fun b23 _=> ?_)
         refine zja 0 rfl .z<|zya 2 rfl rfl rfl (zva 0 rfl Try.underlying22 inf3 (by decide) rfl rfl (by first|rfl|assumption|(simp only [List.length_append,List.length_map,List.length_cons,List.length_nil];done)|(simp only [List.length_append,List.length_map,List.length_cons,List.length_nil];omega)|omega) rfl (by first|rfl|assumption|(simp only [List.length_append,List.length_map,List.length_cons,List.length_nil];done)|(simp only [List.length_append,List.length_map,List.length_cons,List.length_nil];omega)|omega) (by omega) (by omega)) (fun _=>(.s (.s .z))) ?_
         rintro ⟨p24,c25⟩ -
         dsimp only [List.append_eq,List.nil_append,List.cons_append]
         refine r_pv rfl rfl (zd rfl)<|zj<|zS<|zf<|zc<|r_pv rfl rfl (zz (z:=(((q+1):Nat):Int)) rfl rfl (w64 (by omega)))<|r_pv rfl rfl (zb rfl)<|zj<|zZ ((q+1),(o3.set ((kj).toNat) (((Fl.cnt (Fl.ldr (Fl.ge l th) cc) i):Nat):Int)),(s3++[(kj).toNat]),p24,c25) (show (q+1)≤4∧Fl.FlP n (Fl.ge l th) (Fl.nb false w n) cc i (o3.set ((kj).toNat) (((Fl.cnt (Fl.ldr (Fl.ge l th) cc) i):Nat):Int)) (s3++[(kj).toNat]) pp (Fl.Dst w h pp Fl.st4 (q+1))∧2*Fl.unv (o3.set ((kj).toNat) (((Fl.cnt (Fl.ldr (Fl.ge l th) cc) i):Nat):Int))+(s3++[(kj).toNat]).length≤2*Fl.unv o2+st.length from by have h9:=hP1.yes Fl.stp4 hwh (by show q<4;omega) hcc hc.1 hc.2.1 hc.2.2;rw [← hat] at h9;exact ⟨by omega,h9.1,by omega⟩) (by show 4 - (q+1)<4 - q;omega) ((.e rfl (by simp) (.of rfl)):SubM _ _) (ho:=((.e (i:=2) rfl (by first|rfl|(dsimp only;rw [List.map_append,List.map_cons,List.map_nil,show Fl.iz ((kj).toNat)=kj by unfold Fl.iz;omega])) (.of [2,2] rfl)):PickO _ _ _)) ((.of [2,3,4,5] rfl):SelR _ _ _)
        ·
         refine zy<|zS<|zf<|zc<|r_pv rfl rfl (zz (z:=(((q+1):Nat):Int)) rfl rfl (w64 (by omega)))<|r_pv rfl rfl (zb rfl)<|zj<|zZ ((q+1),o3,s3,p5,c5) (show (q+1)≤4∧Fl.FlP n (Fl.ge l th) (Fl.nb false w n) cc i o3 s3 pp (Fl.Dst w h pp Fl.st4 (q+1))∧2*Fl.unv o3+s3.length≤2*Fl.unv o2+st.length from by exact ⟨by omega,hP1.no Fl.stp4 hwh (by show q<4;omega) hcc hc,hP2⟩) (by show 4 - (q+1)<4 - q;omega) ((.of rfl):SubM _ _) (ho:=((.of [1,1,1] rfl):PickO _ _ _)) ((.of [1,2,3,4] rfl):SelR _ _ _)
      ·
       refine zha<|zm<|zm<|zv<|zS<|zZ (o3,s3,p5,c5) (show Fl.Fld n (Fl.ge l th) (Fl.nb false w n) cc i o3 s3∧2*Fl.unv o3+s3.length≤2*n+1 from by refine ⟨?_,?_⟩;(have h9:q=4:=(by omega));subst h9;exact hP1.end_ Fl.stp4 (by omega) hwh;have h8:=hFm;rw [List.length_append] at h8;simp only [List.length_cons,List.length_nil] at h8;omega) (by have h9:=hP2;rw [List.length_append];simp only [List.length_cons,List.length_nil];omega) ((.of rfl):SubM _ _) (ho:=((.of [0,0,0] rfl):PickO _ _ _)) ((.of [0,1,2,3] rfl):SelR _ _ _)
     ·
      refine zha<|zm<|zm<|zv<|zf<|zc<|r_pv rfl rfl (zb rfl)<|r_pv rfl rfl (zz (z:=((((Fl.cnt (Fl.ldr (Fl.ge l th) cc) i)+1):Nat):Int)) rfl rfl (w64 (by omega)))<|r_pv rfl rfl (zd rfl)<|zj<|zS<|zf<|zc<|r_pv rfl rfl (zz (z:=(((i+1):Nat):Int)) rfl rfl (w64 (by omega)))<|r_pv rfl rfl (zb rfl)<|zj<|zZ ((i+1),o2) (show (i+1)≤n∧Fl.OutI n (Fl.ge l th) cc (i+1) o2 from by exact ⟨by omega,(by have h9:sk=[]:=(by cases sk with|nil=>rfl|cons a t=>simp at hso);subst h9;exact hF.fin hcc (fun _ _=>Fl.nb_symm) (fun _ _ h8=>Fl.nb_lt h8) (by omega) hfi)⟩) (by show n - (i+1)<n - i;omega) ((.e rfl (congrArg (Value.int .i64) (by dsimp only;rw [Fl.cnt_succ,hld];simp)) (.of rfl)):SubM _ _) (ho:=((.of [1,1] rfl):PickO _ _ _)) ((.of [1,2,3] rfl):SelR _ _ _)
  ·
   refine zha<|zm<|zm<|zv<|zf<|zi<|zc<|r_pv rfl rfl (zb rfl)<|r_pv rfl rfl (zb rfl)<|r_pv rfl rfl (zd rfl)<|r_pv rfl rfl (zd rfl)<|zj<|zf<|zI ?_
   have hin8:i=n:=by omega
   rw [hin8] at ho
   refine zTa 0 rfl .z ?_
   exact zta Try.results36 (some ⟨b2,0,none⟩,n,o,cc) (⟨hcc,ho⟩) (zq rfl) (zq rfl) (by rw [hin8]) (ho:=(.n:PickO _ _ _)) ((.c (j:=0) rfl .n):SelR _ _ _)
theorem zld {w:Nat} {h:Nat} {m:Int} {p:Option Addr} {n:Nat} {cap:Nat} {l:List Int} {tb:Nat} {th:Int} {p2:Option Addr} {c2:Nat} (hn:l.length=n) (hw:1≤w∧w≤64) (hh:1≤h∧h≤64) (hwh:n=w*h) (hb:n≤4096):Con Try.prog 36 [.agg #[.int .i64 ((w:Nat):Int),.int .i64 ((h:Nat):Int),.int .i64 m,.slice p n cap],.func (.func 37) #[] #[.pointer (some ⟨tb,0,none⟩)],.slice p2 8 c2] [] [slF (rI .i64) p cap l,atF tb 0 [.int .i64 th],slF (rI2 .i64) p2 c2 (Fl.st8)] (Y:=(Option Addr)×Nat×(List Int)×(Nat→Nat)) (fun y=>Fl.Lst (fun j=>(Fl.lo l th) j=true) (Fl.nb true w n) y.2.2.2∧Fl.OutI n (Fl.lo l th) y.2.2.2 n y.2.2.1) (fun y=> .tuple #[.slice (y.1) n (y.2.1),.int .i64 (((Fl.cnt (Fl.ldr (Fl.lo l th) y.2.2.2) n):Nat):Int)]) (fun y=>[]) (fun y=>[slF (rI .i64) (y.1) (y.2.1) (y.2.2.1)]):=by
 refine zr Try.func36 rfl rfl rfl (fun c=> ?_)
 show RunC _ _ _ _ _ [(0,.agg #[.int .i64 ((w:Nat):Int),.int .i64 ((h:Nat):Int),.int .i64 m,.slice p n cap]),(1,.func (.func 37) #[] #[.pointer (some ⟨tb,0,none⟩)]),(2,.slice p2 8 c2)] [] [slF (rI .i64) p cap l,atF tb 0 [.int .i64 th],slF (rI2 .i64) p2 c2 (Fl.st8)]
 refine zea 0 rfl (fun hL0=> ?_)
 refine zea 2 rfl (fun hL2=> ?_)
 obtain ⟨cc,hcc⟩:=Fl.Lst.exists (inn:=fun j=>(Fl.lo l th) j=true) (adj:=(Fl.nb true w n)) (fun _ _=>Fl.nb_symm)
 have hin:∀j,(Fl.lo l th) j=true→j<n:=fun j hj=>by have:=Fl.lo_lt hj;omega
 refine zi<|zc<|zQ rfl rfl (zV rfl rfl) (fun b1=> ?_)
 refine r_pv rfl rfl (zd rfl)<|r_pv rfl rfl (zd rfl)<|zj<|zf<|zi<|zc<|r_pv rfl rfl (zg Try.underlying24 rfl sz22 rfl rfl)<|r_u rfl rfl (ze 0 ty22 rfl rfl rfl)<|r_pv rfl rfl (zK Try.underlying22 rfl)<|zxa rfl rfl (zWa (r:=rI .i64) (k:=n) (x0:=0) (γ0:=()) Try.underlying22 inf3 rfl rfl rfl rfl (by omega) (by omega) rfl (fun _ _=>by exact zk.2 (by decide)) (by decide)) (fun b2 _=> ?_)
 refine r_pv rfl rfl (zd rfl)<|zj<|zf<|zi<|zi<|zc<|r_pv rfl rfl (zb rfl)<|r_pv rfl rfl (zK Try.underlying22 rfl)<|r_pv rfl rfl (zb rfl)<|zj<|zf<|zB<|zna (X:=Nat×(List Int)) (fun x:Nat×(List Int)=>x.1≤n∧x.2.length=n∧∀j,j<x.1→x.2.getD j 0= -1) (fun x=>[(26,.int .i64 ((x.1:Nat):Int)),(25,.int .i64 ((n:Nat):Int)),(8,.slice (some ⟨b2,0,none⟩) n n),(7,.int .i64 0),(6,.slice none 0 0),(3,.pointer (some ⟨b1,0,none⟩)),(1,.func (.func 37) #[] #[.pointer (some ⟨tb,0,none⟩)]),(2,.slice p2 8 c2)]) (fun x=>[rowA 3 (rI .i64) (some ⟨b2,0,none⟩) n (x.2),boxA b1 24 [.int .i64 ((w:Nat):Int),.int .i64 ((h:Nat):Int),.int .i64 m,.slice p n cap]]) (fun x=>[slF (rI .i64) p cap l,atF tb 0 [.int .i64 th],slF (rI2 .i64) p2 c2 (Fl.st8)]) (fun x:Nat×(List Int)=>n - x.1) (0,List.replicate n 0) (show 0≤n∧(List.replicate n 0).length=n∧∀j,j<0→(List.replicate n 0).getD j 0= -1 from by exact ⟨Nat.zero_le _,by simp,fun j hj=>by omega⟩) ((.e rfl (by first|rfl|(congr 1;omega)|simp_all) (.of rfl)):SubM _ _) (ho:=((.of [0,0] rfl):PickO _ _ _)) ((.of [0,1,2] rfl):SelR _ _ _) ?_
 rintro ⟨i,A⟩ hI
 replace hI:i≤n∧A.length=n∧∀j,j<i→A.getD j 0= -1:=hI
 try dsimp only
 obtain ⟨hi,hAl,hA⟩:=hI
 refine zi<|zc<|r_pv rfl rfl (zW rfl rfl)<|zj<|zf<|zi<|zC rfl (fun h3=> ?_) (fun h3=> ?_)
 ·
  refine zy<|zf<|zi<|zB<|zi<|zc<|r_pv rfl rfl (zb rfl)<|r_pv rfl rfl (zd rfl)<|zj<|zf<|zc<|r_pv rfl rfl (zb rfl)<|r_pv rfl rfl (zb rfl)<|r_pv rfl rfl (zP (j:=i) Try.underlying22 sz3 rfl rfl rfl (by omega))<|zya 0 rfl rfl rfl (zN (j:=i) (x0:=(-1)) (γ0:=()) rfl rfl (by first|omega|(rw [List.length_map];omega)|(simp only [List.length_set];omega)|(simp;omega)) rfl rfl sz3 (fun _ _=>by exact zk.2 (by omega))) (fun _=> .z) (fun _ _=> ?_)
  refine zj<|zS<|zf<|zc<|r_pv rfl rfl (zz (z:=(((i+1):Nat):Int)) rfl rfl (w64 (by omega)))<|r_pv rfl rfl (zb rfl)<|zj<|zZ ((i+1),(A.set i (-1))) (show (i+1)≤n∧(A.set i (-1)).length=n∧∀j,j<(i+1)→(A.set i (-1)).getD j 0= -1 from by exact ⟨by omega,by rw [List.length_set];exact hAl,fun j hj=>by by_cases e9:j=i;exact e9 ▸ Big.getD_set_self (by omega) _;rw [Big.getD_set_ne e9];exact hA j (by omega)⟩) (by show n - (i+1)<n - i;omega) ((.of rfl):SubM _ _) (ho:=((.of [0,0] rfl):PickO _ _ _)) ((.of [0,1,2] rfl):SelR _ _ _)
 ·
  refine zha<|zm<|zm<|zv<|zf<|zi<|zc<|r_pv rfl rfl (zd rfl)<|zj<|zf<|zi<|zi<|zc<|r_pv rfl rfl (zg Try.underlying24 rfl sz22 rfl rfl)<|r_u rfl rfl (ze 1 ty22 rfl rfl rfl)<|r_pv rfl rfl (zK Try.underlying22 rfl)<|r_pv rfl rfl (zb rfl)<|zj<|zf<|zB ?_
  have hin9:i=n:=by omega
  refine zna (X:=Nat×(List Int)) (fun x:Nat×(List Int)=>x.1≤n∧Fl.OutI n (Fl.lo l th) cc x.1 x.2) (fun x=>[(10,.int .i64 (((Fl.cnt (Fl.ldr (Fl.lo l th) cc) x.1):Nat):Int)),(36,.int .i64 ((x.1:Nat):Int)),(35,.int .i64 ((n:Nat):Int)),(34,.slice p n cap),(8,.slice (some ⟨b2,0,none⟩) n n),(7,.int .i64 0),(6,.slice none 0 0),(3,.pointer (some ⟨b1,0,none⟩)),(1,.func (.func 37) #[] #[.pointer (some ⟨tb,0,none⟩)]),(2,.slice p2 8 c2)]) (fun x=>[rowA 3 (rI .i64) (some ⟨b2,0,none⟩) n (x.2),boxA b1 24 [.int .i64 ((w:Nat):Int),.int .i64 ((h:Nat):Int),.int .i64 m,.slice p n cap]]) (fun x=>[slF (rI .i64) p cap l,atF tb 0 [.int .i64 th],slF (rI2 .i64) p2 c2 (Fl.st8)]) (fun x:Nat×(List Int)=>n - x.1) (0,A) (show 0≤n∧Fl.OutI n (Fl.lo l th) cc 0 A from by exact ⟨Nat.zero_le _,⟨hAl,fun j _ _ hj=>by omega,fun j hj _=>hA j (by omega)⟩⟩) ((.e rfl (by first|rfl|(congr 1;omega)|simp_all) (.e rfl (by first|rfl|(congr 1;omega)|simp_all) (.of rfl))):SubM _ _) (ho:=((.of [0,0] rfl):PickO _ _ _)) ((.of [0,1,2] rfl):SelR _ _ _) ?_
  rintro ⟨i,o⟩ hI
  replace hI:i≤n∧Fl.OutI n (Fl.lo l th) cc i o:=hI
  try dsimp only
  obtain ⟨hi,ho⟩:=hI
  have hol:=ho.len
  have hcn:=Fl.cnt_le (Fl.ldr (Fl.lo l th) cc) i
  refine zi<|zc<|r_pv rfl rfl (zW rfl rfl)<|zj<|zf<|zi<|zC rfl (fun h4=> ?_) (fun h4=> ?_)
  ·
   refine zy<|zf<|zi<|zB<|zi<|zc<|r_pv rfl rfl (zb rfl)<|zO (x0:=(l.getD i 0)) 0 i rfl Try.underlying22 sz3 rfl rfl rfl (by first|rfl|assumption|(simp only [List.length_append,List.length_map,List.length_cons,List.length_nil];done)|(simp only [List.length_append,List.length_map,List.length_cons,List.length_nil];omega)|omega) rfl rfl (gD (d:=0) (by omega)) (fun b5 o6 hok7=> ?_)
   replace hok7:=zk.1 hok7
   refine r_u rfl rfl (zn (j:=0) 0 ty3 rfl rfl rfl rfl)<|r_pv rfl rfl (zd rfl)<|r_pv rfl rfl (zd rfl)<|zj<|zf<|zi<|zRa (X:=Unit) (fun x=>True) (fun x=>[(51,.bool (decide (¬o.getD i 0<0∨¬(Fl.lo l th) i=true))),(11,.int .i64 ((i:Nat):Int)),(10,.int .i64 (((Fl.cnt (Fl.ldr (Fl.lo l th) cc) i):Nat):Int)),(36,.int .i64 ((i:Nat):Int)),(35,.int .i64 ((n:Nat):Int)),(34,.slice p n cap),(8,.slice (some ⟨b2,0,none⟩) n n),(7,.int .i64 0),(6,.slice none 0 0),(3,.pointer (some ⟨b1,0,none⟩)),(1,.func (.func 37) #[] #[.pointer (some ⟨tb,0,none⟩)]),(2,.slice p2 8 c2)]) (fun x=>[rowA 3 (rI .i64) (some ⟨b2,0,none⟩) n o,boxA b1 24 [.int .i64 ((w:Nat):Int),.int .i64 ((h:Nat):Int),.int .i64 m,.slice p n cap]]) (fun x=>[atF b5 o6 [.int .i64 (l.getD i 0)],slF (rI .i64) p cap l,atF tb 0 [.int .i64 th],slF (rI2 .i64) p2 c2 (Fl.st8)]) ?_ ?_
   ·
    refine zc<|r_pv rfl rfl (zb rfl)<|r_pv rfl rfl (zb rfl)<|r_pv rfl rfl (zP (j:=i) Try.underlying22 sz3 rfl rfl rfl (by omega))<|r_vl rfl rfl (zaa 0 i rfl ty3 rfl rfl (gD (d:=0) (by omega)) rfl) (fun _ hok8=> ?_)
    replace hok8:=zk.1 hok8
    refine r_pv rfl rfl (zGa rfl rfl)<|zR rfl rfl (zb rfl) (fun hk1=> ?_) (fun hk1=> ?_)
    ·
     refine za rfl rfl<|za rfl rfl<|za rfl rfl<|za rfl rfl<|r_pv rfl rfl (zl rfl rfl)<|zj ?_
     exact zca () (show True from by first|trivial|omega|simp_all) ((.e rfl (congrArg Value.bool (by exact Eq.symm (decide_eq_true (.inl (by omega))))) (.of rfl)):SubM _ _) (ho:=((.of [0,0] rfl):PickO _ _ _)) ((.of [0,1,2,3] rfl):SelR _ _ _)
    ·
     refine r_pv rfl rfl (zb rfl)<|r_pv rfl rfl (zb rfl)<|zgc (first:=[]) (cap:=[.pointer (some ⟨tb,0,none⟩)]) rfl rfl rfl (.c rfl .n) ce37 (zHc (g:=(l.getD i 0)) (th:=th) (tb:=tb)) (.c (j:=2) rfl .n) ?_
     rintro ⟨⟩ -
     dsimp only [List.append_eq,List.nil_append,List.cons_append]
     refine r_pv rfl rfl (zkb rfl)<|r_pv rfl rfl (zl rfl rfl)<|zj ?_
     exact zca () (show True from by first|trivial|omega|simp_all) ((.e rfl (congrArg Value.bool (by exact decide_eq_decide.2 ⟨fun h9=> .inr (fun h8=>h9 ((Fl.lo_iff (by omega)).1 h8)),fun h9 h8=>h9.elim (fun h7=>h7 (by omega)) (fun h7=>h7 ((Fl.lo_iff (by omega)).2 h8))⟩)) (.of rfl)):SubM _ _) (ho:=((.of [0,0] rfl):PickO _ _ _)) ((.of [0,1,2,3] rfl):SelR _ _ _)
   ·
    rintro ⟨⟩ -
    try dsimp only
    refine zC rfl (fun hout=> ?_) (fun hout=> ?_)
    ·
     refine zha<|zm<|zv<|zf<|zc<|r_pv rfl rfl (zz (z:=(((i+1):Nat):Int)) rfl rfl (w64 (by omega)))<|r_pv rfl rfl (zb rfl)<|zj<|zZ ((i+1),o) (show (i+1)≤n∧Fl.OutI n (Fl.lo l th) cc (i+1) o from by exact ⟨by omega,(ho.none hcc (by omega) hout).1⟩) (by show n - (i+1)<n - i;omega) ((.e rfl (congrArg (Value.int .i64) (by dsimp only;rw [Fl.cnt_succ,(ho.none hcc (by omega) hout).2];simp)) (.of rfl)):SubM _ _) (ho:=((.of [0,0] rfl):PickO _ _ _)) ((.of [1,2,3] rfl):SelR _ _ _)
    ·
     refine zy<|zf<|zi<|zc<|r_pv rfl rfl (zb rfl)<|r_pv rfl rfl (zb rfl)<|r_pv rfl rfl (zb rfl)<|r_pv rfl rfl (zP (j:=i) Try.underlying22 sz3 rfl rfl rfl (by omega))<|zya 0 rfl rfl rfl (zN (j:=i) (x0:=(((Fl.cnt (Fl.ldr (Fl.lo l th) cc) i):Nat):Int)) (γ0:=()) rfl rfl (by first|omega|(rw [List.length_map];omega)|(simp only [List.length_set];omega)|(simp;omega)) rfl rfl sz3 (fun _ _=>by exact zk.2 (by omega))) (fun _=> .z) (fun _ _=> ?_)
     refine zj<|zf<|zi<|zi<|zc<|r_pv rfl rfl (zb rfl)<|zxa rfl rfl (zL (enc:=fun z:Int=>[.int .i64 z]) (ok:=InK .i64) (h1:=fun _=>rfl) (h2:=fun _=>rfl) (k:=1) Try.underlying22 inf3 rfl (by decide) (by decide) (by decide) (.c (x:=((i:Nat):Int)) rfl rfl (fun _ _=>by exact zk.2 (by omega)) .n)) (fun b9 _=> ?_)
     refine r_pv rfl rfl (zd rfl)<|zj<|zf<|zB ?_
     have hfi:(Fl.lo l th) i=true:=by by_cases h9:(Fl.lo l th) i=true;exact h9;exact absurd (.inr h9) hout
     have hoi:o.getD i 0<0:=by by_cases h9:o.getD i 0<0;exact h9;exact absurd (.inl h9) hout
     have hld:=(ho.lead hcc (by omega) hoi hfi).2
     refine zna (X:=(List Int)×(List Nat)×(Option Addr)×Nat) (fun x:(List Int)×(List Nat)×(Option Addr)×Nat=>Fl.Fld n (Fl.lo l th) (Fl.nb true w n) cc i x.1 x.2.1∧2*Fl.unv x.1+x.2.1.length≤2*n+1) (fun x=>[(13,.slice (x.2.2.1) (x.2.1.length) (x.2.2.2)),(10,.int .i64 (((Fl.cnt (Fl.ldr (Fl.lo l th) cc) i):Nat):Int)),(36,.int .i64 ((i:Nat):Int)),(35,.int .i64 ((n:Nat):Int)),(34,.slice p n cap),(8,.slice (some ⟨b2,0,none⟩) n n),(7,.int .i64 0),(6,.slice none 0 0),(3,.pointer (some ⟨b1,0,none⟩)),(1,.func (.func 37) #[] #[.pointer (some ⟨tb,0,none⟩)]),(2,.slice p2 8 c2)]) (fun x=>[rowA 3 (rI .i64) (x.2.2.1) (x.2.2.2) (x.2.1.map Fl.iz),rowA 3 (rI .i64) (some ⟨b2,0,none⟩) n (x.1),boxA b1 24 [.int .i64 ((w:Nat):Int),.int .i64 ((h:Nat):Int),.int .i64 m,.slice p n cap]]) (fun x=>[atF b5 o6 [.int .i64 (l.getD i 0)],slF (rI .i64) p cap l,atF tb 0 [.int .i64 th],slF (rI2 .i64) p2 c2 (Fl.st8)]) (fun x:(List Int)×(List Nat)×(Option Addr)×Nat=>2*Fl.unv x.1+x.2.1.length) ((o.set i (((Fl.cnt (Fl.ldr (Fl.lo l th) cc) i):Nat):Int)),[i],some ⟨b9,0,none⟩,1) (show Fl.Fld n (Fl.lo l th) (Fl.nb true w n) cc i (o.set i (((Fl.cnt (Fl.ldr (Fl.lo l th) cc) i):Nat):Int)) ([i])∧2*Fl.unv (o.set i (((Fl.cnt (Fl.ldr (Fl.lo l th) cc) i):Nat):Int))+([i]).length≤2*n+1 from by exact ⟨(ho.lead hcc (by omega) hoi hfi).1,by have h9:=Fl.unv_le (o.set i ((Fl.cnt (Fl.ldr (Fl.lo l th) cc) i:Nat):Int));rw [List.length_set] at h9;simp only [List.length_cons,List.length_nil];omega⟩) ((.e rfl (by first|rfl|(congr 1;omega)|simp_all) (.of rfl)):SubM _ _) (ho:=((.e (i:=0) rfl (by first|rfl|(congr 1;omega)|simp_all) (.of [0,0] rfl)):PickO _ _ _)) ((.of [0,1,2,3] rfl):SelR _ _ _) ?_
     rintro ⟨o2,sk,p4,c4⟩ hFF
     replace hFF:Fl.Fld n (Fl.lo l th) (Fl.nb true w n) cc i o2 sk∧2*Fl.unv o2+sk.length≤2*n+1:=hFF
     try dsimp only
     obtain ⟨hF,hFm⟩:=hFF
     have ho2:=hF.len
     refine zi<|zi<|zc<|r_pv rfl rfl (zb rfl)<|r_pv rfl rfl (zK Try.underlying22 rfl)<|r_pv rfl rfl (zua rfl rfl)<|zj<|zf<|zC rfl (fun hso=> ?_) (fun hso=> ?_)
     ·
      obtain ⟨st,pp,rfl⟩:=Fl.snoc (sk:=sk) (fun e9=>by rw [e9] at hso;simp at hso)
      have hsl9:st.length+1≤2*n+1:=by have h8:=hFm;rw [List.length_append] at h8;simp only [List.length_cons,List.length_nil] at h8;omega
      have hsl8:((st++[pp]).map Fl.iz).length=st.length+1:=by simp
      refine zGb 0 rfl (fun hcl=> ?_)
      have e10:(.slice p4 ((st++[pp]).length) c4:Value)= .slice p4 (st.length+1) c4:=by simp
      rw [e10]
      refine zy<|zf<|zB<|zi<|zc<|r_pv rfl rfl (zb rfl)<|r_pv rfl rfl (zb rfl)<|r_pv rfl rfl (zK Try.underlying22 rfl)<|r_pv rfl rfl (zda (z:=(((st.length):Nat):Int)) rfl rfl (w64 (by omega)))<|r_u rfl rfl (zY 0 (st.length) rfl Try.underlying22 sz3 rfl (by first|rfl|assumption|(simp only [List.length_append,List.length_map,List.length_cons,List.length_nil];done)|(simp only [List.length_append,List.length_map,List.length_cons,List.length_nil];omega)|omega) rfl rfl (by omega))<|r_vl rfl rfl (zaa 0 (st.length) rfl ty3 rfl rfl (gD (d:=0) (by omega)) rfl) (fun _ hok11=> ?_)
      replace hok11:=zk.1 hok11
      refine r_pv rfl rfl (zd rfl)<|zj<|zf<|zi ?_
      have e12:((((st++[pp]).map Fl.iz).getD (st.length) 0):Int)=((pp:Nat):Int):=by exact Fl.getD_iz st pp
      rw [e12]
      refine zc<|r_pv rfl rfl (zb rfl)<|r_pv rfl rfl (zb rfl)<|r_pv rfl rfl (zK Try.underlying22 rfl)<|r_pv rfl rfl (zda (z:=(((st.length):Nat):Int)) rfl rfl (w64 (by omega)))<|r_pv rfl rfl (zYa (hi:=(st.length)) Try.underlying22 sz3 rfl (.s rfl) (.inr ⟨_,rfl⟩) (by omega))<|r_pv rfl rfl (zd rfl)<|zj<|zf<|zi<|c_mem (fun w mm=>mm.rowTake 0 rfl (st.length)) ?_
      dsimp only [List.set]
      have e13:((st++[pp]).map Fl.iz).take (st.length)=st.map Fl.iz:=by simp
      rw [e13]
      refine zc<|r_pv rfl rfl (zb rfl)<|r_pv rfl rfl (zK Try.underlying75 rfl)<|r_pv rfl rfl (zb rfl)<|zj<|zf<|zB<|zna (X:=Nat×(List Int)×(List Nat)×(Option Addr)×Nat) (fun x:Nat×(List Int)×(List Nat)×(Option Addr)×Nat=>x.1≤8∧Fl.FlP n (Fl.lo l th) (Fl.nb true w n) cc i x.2.1 x.2.2.1 pp (Fl.Dst w h pp Fl.st8 x.1)∧2*Fl.unv x.2.1+x.2.2.1.length≤2*Fl.unv o2+st.length) (fun x=>[(13,.slice (x.2.2.2.1) (x.2.2.1.length) (x.2.2.2.2)),(74,.int .i64 ((x.1:Nat):Int)),(73,.int .i64 ((8:Nat):Int)),(72,.slice p2 8 c2),(14,.int .i64 ((pp:Nat):Int)),(10,.int .i64 (((Fl.cnt (Fl.ldr (Fl.lo l th) cc) i):Nat):Int)),(36,.int .i64 ((i:Nat):Int)),(35,.int .i64 ((n:Nat):Int)),(34,.slice p n cap),(8,.slice (some ⟨b2,0,none⟩) n n),(7,.int .i64 0),(6,.slice none 0 0),(3,.pointer (some ⟨b1,0,none⟩)),(1,.func (.func 37) #[] #[.pointer (some ⟨tb,0,none⟩)]),(2,.slice p2 8 c2)]) (fun x=>[rowA 3 (rI .i64) (x.2.2.2.1) (x.2.2.2.2) (x.2.2.1.map Fl.iz),rowA 3 (rI .i64) (some ⟨b2,0,none⟩) n (x.2.1),boxA b1 24 [.int .i64 ((w:Nat):Int),.int .i64 ((h:Nat):Int),.int .i64 m,.slice p n cap]]) (fun x=>[atF b5 o6 [.int .i64 (l.getD i 0)],slF (rI .i64) p cap l,atF tb 0 [.int .i64 th],slF (rI2 .i64) p2 c2 (Fl.st8)]) (fun x:Nat×(List Int)×(List Nat)×(Option Addr)×Nat=>8 - x.1) (0,o2,st,p4,c4) (show 0≤8∧Fl.FlP n (Fl.lo l th) (Fl.nb true w n) cc i o2 st pp (Fl.Dst w h pp Fl.st8 0)∧2*Fl.unv o2+st.length≤2*Fl.unv o2+st.length from by exact ⟨Nat.zero_le _,Fl.FlP.start hF,Nat.le_refl _⟩) ((.c rfl (.e rfl (by first|rfl|(congr 1;omega)|simp_all) (.of rfl))):SubM _ _) (ho:=((.of [0,0,0] rfl):PickO _ _ _)) ((.of [0,1,2,3] rfl):SelR _ _ _) ?_
      rintro ⟨q,o3,s3,p5,c5⟩ hQ
      replace hQ:q≤8∧Fl.FlP n (Fl.lo l th) (Fl.nb true w n) cc i o3 s3 pp (Fl.Dst w h pp Fl.st8 q)∧2*Fl.unv o3+s3.length≤2*Fl.unv o2+st.length:=hQ
      try dsimp only
      obtain ⟨hq,hP1,hP2⟩:=hQ
      have ho3:=hP1.len
      refine zi<|zc<|r_pv rfl rfl (zW rfl rfl)<|zj<|zf<|zi<|zC rfl (fun h14=> ?_) (fun h14=> ?_)
      ·
       have hst9:Fl.st8.length=8:=rfl
       have hd9:=Fl.stp8.ok _ (Fl.gD_mem (l:=Fl.st8) (q:=q) (by show q<8;omega))
       have hpb:=Fl.at_b hw hP1.pop.1 hb hd9.1 hd9.2.1
       refine zy<|zf<|zi<|zB<|zi<|zc<|zO (x0:=(Fl.st8.getD q (0,0))) 3 q rfl Try.underlying75 sz90 rfl rfl rfl (by first|rfl|assumption|(simp only [List.length_append,List.length_map,List.length_cons,List.length_nil];done)|(simp only [List.length_append,List.length_map,List.length_cons,List.length_nil];omega)|omega) rfl rfl (gD (d:=(0,0)) (by omega)) (fun b15 o16 hok17=> ?_)
       obtain ⟨hok17x,hok17y⟩:=hok17
       replace hok17x:=zk.1 hok17x
       replace hok17y:=zk.1 hok17y
       refine r_u rfl rfl (zLa (j:=0) 0 ty90 rfl rfl rfl (.take (.take .nil)))<|zQ rfl rfl (zE zr90 rfl) (fun b18=> ?_)
       refine zo 0 rfl rfl rfl rfl rfl sz90 rfl (.take (.take .nil)) .z<|zj<|zf<|zi<|zia (OW:=[]) (O:=[boxA b18 90 [.int .i64 ((Fl.st8.getD q (0,0)).1),.int .i64 ((Fl.st8.getD q (0,0)).2)],rowA 3 (rI .i64) p5 c5 (s3.map Fl.iz),rowA 3 (rI .i64) (some ⟨b2,0,none⟩) n o3,boxA b1 24 [.int .i64 ((w:Nat):Int),.int .i64 ((h:Nat):Int),.int .i64 m,.slice p n cap]]) 100000 mixed (.then (.block (.then (.then (.block (.block (.then (.block (.then (.block (.then (.then (.block (.then .ret)))))))))))))) (by kernel_rfl)<|d_pv 0 rfl rfl (by kernel_rfl) (by kernel_rfl) rfl rfl (zb rfl)<|d_pv 1 rfl rfl (by kernel_rfl) (by kernel_rfl) rfl rfl (zg Try.underlying24 rfl sz3 rfl rfl)<|d_u 2 rfl rfl (by kernel_rfl) (by kernel_rfl) rfl rfl (ze 3 ty3 rfl rfl rfl)<|d_pv 3 rfl rfl (by kernel_rfl) (by kernel_rfl) rfl rfl (zFa (z:=(((pp%w):Nat):Int)) rfl rfl (by omega) (remN (by omega) (by omega)))<|d_pv 4 rfl rfl (by kernel_rfl) (by kernel_rfl) rfl rfl (zMa (i:=0) Try.underlying90 sz3 rfl rfl (by decide) rfl)<|d_u 5 rfl rfl (by kernel_rfl) (by kernel_rfl) rfl rfl (ze 0 ty3 rfl rfl rfl)<|d_pv 6 rfl rfl (by kernel_rfl) (by kernel_rfl) rfl rfl (zz (z:=((((pp%w):Nat):Int)+(Fl.st8.getD q (0,0)).1)) rfl rfl (w64 (by omega)))<|d_pv 7 rfl rfl (by kernel_rfl) (by kernel_rfl) rfl rfl (zb rfl)<|d_pv 8 rfl rfl (by kernel_rfl) (by kernel_rfl) rfl rfl (zg Try.underlying24 rfl sz3 rfl rfl)<|d_u 9 rfl rfl (by kernel_rfl) (by kernel_rfl) rfl rfl (ze 3 ty3 rfl rfl rfl)<|d_pv 10 rfl rfl (by kernel_rfl) (by kernel_rfl) rfl rfl (zHa (z:=(((pp / w):Nat):Int)) rfl rfl (by omega) (by rw [quoN (z:=(((pp / w):Nat):Int)) (by omega) (by omega)];exact w64 (by omega)))<|d_pv 11 rfl rfl (by kernel_rfl) (by kernel_rfl) rfl rfl (zMa (i:=1) Try.underlying90 sz3 rfl rfl (by decide) rfl)<|d_u 12 rfl rfl (by kernel_rfl) (by kernel_rfl) rfl rfl (ze 0 ty3 rfl rfl rfl)<|d_pv 13 rfl rfl (by kernel_rfl) (by kernel_rfl) rfl rfl (zz (z:=((((pp / w):Nat):Int)+(Fl.st8.getD q (0,0)).2)) rfl rfl (w64 (by omega)))<|d_pv 14 rfl rfl (by kernel_rfl) (by kernel_rfl) rfl rfl (zd rfl)<|d_pv 15 rfl rfl (by kernel_rfl) (by kernel_rfl) rfl rfl (zd rfl)<|zfa (by kernel_rfl)<|zf<|zi ?_
       obtain ⟨kx,hkx⟩:∃z,z=((((pp%w):Nat):Int)+(Fl.st8.getD q (0,0)).1):=⟨_,rfl⟩
       rw [← hkx]
       obtain ⟨ky,hky⟩:∃z,z=((((pp / w):Nat):Int)+(Fl.st8.getD q (0,0)).2):=⟨_,rfl⟩
       rw [← hky]
       have hkyw: -64≤ky*((w:Nat):Int)∧ky*((w:Nat):Int)≤4160:=by rw [hky];exact hpb.1
       have hkxb: -1≤kx∧kx≤64:=by rw [hkx];exact hpb.2.1
       refine zc<|r_pv rfl rfl (zb rfl)<|r_pv rfl rfl (zg Try.underlying24 rfl sz3 rfl rfl)<|r_u rfl rfl (ze 3 ty3 rfl rfl rfl)<|r_pv rfl rfl (zga (z:=(ky*((w:Nat):Int))) rfl rfl (w64 (by omega)))<|r_pv rfl rfl (zb rfl)<|r_pv rfl rfl (zz (z:=((ky*((w:Nat):Int))+kx)) rfl rfl (w64 (by omega)))<|r_pv rfl rfl (zd rfl)<|zj<|zf ?_
       obtain ⟨kj,hkj⟩:∃z,z=((ky*((w:Nat):Int))+kx):=⟨_,rfl⟩
       rw [← hkj]
       refine zRa (X:=Unit) (fun x=>True) (fun x=>[(131,.bool (decide (Fl.CP w h pp (Fl.lo l th) o3 (Fl.st8.getD q (0,0))))),(19,.int .i64 kj),(13,.slice p5 (s3.length) c5),(74,.int .i64 ((q:Nat):Int)),(73,.int .i64 ((8:Nat):Int)),(72,.slice p2 8 c2),(14,.int .i64 ((pp:Nat):Int)),(10,.int .i64 (((Fl.cnt (Fl.ldr (Fl.lo l th) cc) i):Nat):Int)),(36,.int .i64 ((i:Nat):Int)),(35,.int .i64 ((n:Nat):Int)),(34,.slice p n cap),(8,.slice (some ⟨b2,0,none⟩) n n),(7,.int .i64 0),(6,.slice none 0 0),(3,.pointer (some ⟨b1,0,none⟩)),(1,.func (.func 37) #[] #[.pointer (some ⟨tb,0,none⟩)]),(2,.slice p2 8 c2)]) (fun x=>[boxA b18 90 [.int .i64 ((Fl.st8.getD q (0,0)).1),.int .i64 ((Fl.st8.getD q (0,0)).2)],rowA 3 (rI .i64) p5 c5 (s3.map Fl.iz),rowA 3 (rI .i64) (some ⟨b2,0,none⟩) n o3,boxA b1 24 [.int .i64 ((w:Nat):Int),.int .i64 ((h:Nat):Int),.int .i64 m,.slice p n cap]]) (fun x=>[atF b15 o16 [.int .i64 ((Fl.st8.getD q (0,0)).1),.int .i64 ((Fl.st8.getD q (0,0)).2)],atF b5 o6 [.int .i64 (l.getD i 0)],slF (rI .i64) p cap l,atF tb 0 [.int .i64 th],slF (rI2 .i64) p2 c2 (Fl.st8)]) ?_ ?_
       ·
        refine zc<|r_pv rfl rfl (zb rfl)<|r_pv rfl rfl (zGa rfl rfl)<|zR rfl rfl (zb rfl) (fun hx0=> ?_) (fun hx0=> ?_)
        ·
         refine r_pv rfl rfl (zb rfl)<|r_pv rfl rfl (zGa rfl rfl)<|r_pv rfl rfl (zl rfl rfl)<|zR rfl rfl (zb rfl) (fun hx1=> ?_) (fun hx1=> ?_)
         ·
          refine r_pv rfl rfl (zb rfl)<|r_pv rfl rfl (zg Try.underlying24 rfl sz3 rfl rfl)<|r_u rfl rfl (ze 3 ty3 rfl rfl rfl)<|r_pv rfl rfl (zW rfl rfl)<|r_pv rfl rfl (zl rfl rfl)<|zR rfl rfl (zb rfl) (fun hx2=> ?_) (fun hx2=> ?_)
          ·
           refine r_pv rfl rfl (zb rfl)<|r_pv rfl rfl (zg Try.underlying24 rfl sz3 rfl rfl)<|r_u rfl rfl (ze 3 ty3 rfl rfl rfl)<|r_pv rfl rfl (zW rfl rfl)<|r_pv rfl rfl (zl rfl rfl)<|zR rfl rfl (zb rfl) (fun hx3=> ?_) (fun hx3=> ?_)
           ·
            have hat:kj.toNat=Fl.atD w pp (Fl.st8.getD q (0,0)):=by rw [hkj,hky,hkx];rfl
            have hiD:Fl.inD w h pp (Fl.st8.getD q (0,0)):=⟨hkx ▸ hx0,hky ▸ hx1,hkx ▸ hx2,hky ▸ hx3⟩
            have hpx:=hiD.pix
            have hkj0:0≤kj∧kj.toNat<n:=⟨by rw [hkj,hky,hkx];exact hpx.1,by rw [hat,hwh];exact hpx.2⟩
            refine r_pv rfl rfl (zb rfl)<|r_pv rfl rfl (zb rfl)<|r_pv rfl rfl (zP (j:=(kj).toNat) Try.underlying22 sz3 rfl rfl (by omega) (by omega))<|r_vl rfl rfl (zaa 2 ((kj).toNat) rfl ty3 rfl rfl (gD (d:=0) (by omega)) rfl) (fun _ hok19=> ?_)
            replace hok19:=zk.1 hok19
            refine r_pv rfl rfl (zW rfl rfl)<|r_pv rfl rfl (zl rfl rfl)<|zR rfl rfl (zb rfl) (fun hx4=> ?_) (fun hx4=> ?_)
            ·
             refine r_pv rfl rfl (zb rfl)<|r_pv rfl rfl (zg Try.underlying24 rfl sz22 rfl rfl)<|r_u rfl rfl (ze 3 ty22 rfl rfl rfl)<|r_pv rfl rfl (zb rfl)<|zO (x0:=(l.getD ((kj).toNat) 0)) 2 ((kj).toNat) rfl Try.underlying22 sz3 rfl rfl rfl (by first|rfl|assumption|(simp only [List.length_append,List.length_map,List.length_cons,List.length_nil];done)|(simp only [List.length_append,List.length_map,List.length_cons,List.length_nil];omega)|omega) rfl (by omega) (gD (d:=0) (by omega)) (fun b20 o21 hok22=> ?_)
             replace hok22:=zk.1 hok22
             refine r_u rfl rfl (zn (j:=0) 0 ty3 rfl rfl rfl rfl)<|zgc (first:=[]) (cap:=[.pointer (some ⟨tb,0,none⟩)]) rfl rfl rfl (.c rfl .n) ce37 (zHc (g:=(l.getD ((kj).toNat) 0)) (th:=th) (tb:=tb)) (.c (j:=4) rfl .n) ?_
             rintro ⟨⟩ -
             dsimp only [List.append_eq,List.nil_append,List.cons_append]
             refine r_pv rfl rfl (zl rfl rfl)<|zj ?_
             exact zca () (show True from by first|trivial|omega|simp_all) ((.e rfl (congrArg Value.bool (by exact decide_eq_decide.2 ⟨fun h9=>⟨hiD,by rw [← hat];exact hx4,by rw [← hat];exact (Fl.lo_iff (by omega)).2 h9⟩,fun h9=>(Fl.lo_iff (by omega)).1 (by rw [hat];exact h9.2.2)⟩)) (.of rfl)):SubM _ _) (ho:=((.of [0,0,0,0] rfl):PickO _ _ _)) ((.of [1,2,3,4,5] rfl):SelR _ _ _)
            ·
             refine za rfl rfl<|za rfl rfl<|za rfl rfl<|za rfl rfl<|za rfl rfl<|za rfl rfl<|za rfl rfl<|r_pv rfl rfl (zl rfl rfl)<|zj ?_
             exact zca () (show True from by first|trivial|omega|simp_all) ((.e rfl (congrArg Value.bool (by exact Eq.symm (decide_eq_false (fun h9=>hx4 (by rw [hat];exact h9.2.1))))) (.of rfl)):SubM _ _) (ho:=((.of [0,0,0,0] rfl):PickO _ _ _)) ((.of [0,1,2,3,4] rfl):SelR _ _ _)
           ·
            refine za rfl rfl<|za rfl rfl<|za rfl rfl<|za rfl rfl<|za rfl rfl<|r_pv rfl rfl (zl rfl rfl)<|r_pv rfl rfl (zb rfl)<|za rfl rfl<|za rfl rfl<|za rfl rfl<|za rfl rfl<|za rfl rfl<|za rfl rfl<|za rfl rfl<|r_pv rfl rfl (zl rfl rfl)<|zj ?_
            exact zca () (show True from by first|trivial|omega|simp_all) ((.e rfl (congrArg Value.bool (by exact Eq.symm (decide_eq_false (fun h9=>hx3 (by rw [hky];exact h9.1.2.2.2))))) (.of rfl)):SubM _ _) (ho:=((.of [0,0,0,0] rfl):PickO _ _ _)) ((.of [0,1,2,3,4] rfl):SelR _ _ _)
          ·
           refine za rfl rfl<|za rfl rfl<|za rfl rfl<|za rfl rfl<|r_pv rfl rfl (zl rfl rfl)<|r_pv rfl rfl (zb rfl)<|za rfl rfl<|za rfl rfl<|za rfl rfl<|za rfl rfl<|za rfl rfl<|r_pv rfl rfl (zl rfl rfl)<|r_pv rfl rfl (zb rfl)<|za rfl rfl<|za rfl rfl<|za rfl rfl<|za rfl rfl<|za rfl rfl<|za rfl rfl<|za rfl rfl<|r_pv rfl rfl (zl rfl rfl)<|zj ?_
           exact zca () (show True from by first|trivial|omega|simp_all) ((.e rfl (congrArg Value.bool (by exact Eq.symm (decide_eq_false (fun h9=>hx2 (by rw [hkx];exact h9.1.2.2.1))))) (.of rfl)):SubM _ _) (ho:=((.of [0,0,0,0] rfl):PickO _ _ _)) ((.of [0,1,2,3,4] rfl):SelR _ _ _)
         ·
          refine za rfl rfl<|za rfl rfl<|za rfl rfl<|za rfl rfl<|r_pv rfl rfl (zl rfl rfl)<|r_pv rfl rfl (zb rfl)<|za rfl rfl<|za rfl rfl<|za rfl rfl<|za rfl rfl<|r_pv rfl rfl (zl rfl rfl)<|r_pv rfl rfl (zb rfl)<|za rfl rfl<|za rfl rfl<|za rfl rfl<|za rfl rfl<|za rfl rfl<|r_pv rfl rfl (zl rfl rfl)<|r_pv rfl rfl (zb rfl)<|za rfl rfl<|za rfl rfl<|za rfl rfl<|za rfl rfl<|za rfl rfl<|za rfl rfl<|za rfl rfl<|r_pv rfl rfl (zl rfl rfl)<|zj ?_
          exact zca () (show True from by first|trivial|omega|simp_all) ((.e rfl (congrArg Value.bool (by exact Eq.symm (decide_eq_false (fun h9=>hx1 (by rw [hky];exact h9.1.2.1))))) (.of rfl)):SubM _ _) (ho:=((.of [0,0,0,0] rfl):PickO _ _ _)) ((.of [0,1,2,3,4] rfl):SelR _ _ _)
        ·
         refine za rfl rfl<|za rfl rfl<|r_pv rfl rfl (zl rfl rfl)<|r_pv rfl rfl (zb rfl)<|za rfl rfl<|za rfl rfl<|za rfl rfl<|za rfl rfl<|r_pv rfl rfl (zl rfl rfl)<|r_pv rfl rfl (zb rfl)<|za rfl rfl<|za rfl rfl<|za rfl rfl<|za rfl rfl<|r_pv rfl rfl (zl rfl rfl)<|r_pv rfl rfl (zb rfl)<|za rfl rfl<|za rfl rfl<|za rfl rfl<|za rfl rfl<|za rfl rfl<|r_pv rfl rfl (zl rfl rfl)<|r_pv rfl rfl (zb rfl)<|za rfl rfl<|za rfl rfl<|za rfl rfl<|za rfl rfl<|za rfl rfl<|za rfl rfl<|za rfl rfl<|r_pv rfl rfl (zl rfl rfl)<|zj ?_
         exact zca () (show True from by first|trivial|omega|simp_all) ((.e rfl (congrArg Value.bool (by exact Eq.symm (decide_eq_false (fun h9=>hx0 (by rw [hkx];exact h9.1.1))))) (.of rfl)):SubM _ _) (ho:=((.of [0,0,0,0] rfl):PickO _ _ _)) ((.of [0,1,2,3,4] rfl):SelR _ _ _)
       ·
        rintro ⟨⟩ -
        try dsimp only
        refine zC rfl (fun hc=> ?_) (fun hc=> ?_)
        ·
         have hat:kj.toNat=Fl.atD w pp (Fl.st8.getD q (0,0)):=by rw [hkj,hky,hkx];rfl
         have hpx:=hc.1.pix
         have hkj0:0≤kj∧kj.toNat<n:=⟨by rw [hkj,hky,hkx];exact hpx.1,by rw [hat,hwh];exact hpx.2⟩
         refine zi<|zc<|r_pv rfl rfl (zb rfl)<|r_pv rfl rfl (zb rfl)<|r_pv rfl rfl (zb rfl)<|r_pv rfl rfl (zP (j:=(kj).toNat) Try.underlying22 sz3 rfl rfl (by omega) (by omega))<|zya 2 rfl rfl rfl (zN (j:=(kj).toNat) (x0:=(((Fl.cnt (Fl.ldr (Fl.lo l th) cc) i):Nat):Int)) (γ0:=()) rfl rfl (by first|omega|(rw [List.length_map];omega)|(simp only [List.length_set];omega)|(simp;omega)) rfl rfl sz3 (fun _ _=>by exact zk.2 (by omega))) (fun _=>(.s (.s .z))) (fun _ _=> ?_)
         refine zj<|zf<|zc<|r_pv rfl rfl (zb rfl)<|r_pv rfl rfl (zb rfl)<|zxa rfl rfl (zL (enc:=fun z:Int=>[.int .i64 z]) (ok:=InK .i64) (h1:=fun _=>rfl) (h2:=fun _=>rfl) (k:=1) Try.underlying22 inf3 rfl (by decide) (by decide) (by decide) (.c (x:=kj) rfl rfl (fun _ _=>by exact zk.2 (by omega)) .n)) (fun b23 _=> ?_)
         refine zja 0 rfl .z<|zya 2 rfl rfl rfl (zva 0 rfl Try.underlying22 inf3 (by decide) rfl rfl (by first|rfl|assumption|(simp only [List.length_append,List.length_map,List.length_cons,List.length_nil];done)|(simp only [List.length_append,List.length_map,List.length_cons,List.length_nil];omega)|omega) rfl (by first|rfl|assumption|(simp only [List.length_append,List.length_map,List.length_cons,List.length_nil];done)|(simp only [List.length_append,List.length_map,List.length_cons,List.length_nil];omega)|omega) (by omega) (by omega)) (fun _=>(.s (.s .z))) ?_
         rintro ⟨p24,c25⟩ -
         dsimp only [List.append_eq,List.nil_append,List.cons_append]
         refine r_pv rfl rfl (zd rfl)<|zj<|zS<|zf<|zc<|r_pv rfl rfl (zz (z:=(((q+1):Nat):Int)) rfl rfl (w64 (by omega)))<|r_pv rfl rfl (zb rfl)<|zj<|zZ ((q+1),(o3.set ((kj).toNat) (((Fl.cnt (Fl.ldr (Fl.lo l th) cc) i):Nat):Int)),(s3++[(kj).toNat]),p24,c25) (show (q+1)≤8∧Fl.FlP n (Fl.lo l th) (Fl.nb true w n) cc i (o3.set ((kj).toNat) (((Fl.cnt (Fl.ldr (Fl.lo l th) cc) i):Nat):Int)) (s3++[(kj).toNat]) pp (Fl.Dst w h pp Fl.st8 (q+1))∧2*Fl.unv (o3.set ((kj).toNat) (((Fl.cnt (Fl.ldr (Fl.lo l th) cc) i):Nat):Int))+(s3++[(kj).toNat]).length≤2*Fl.unv o2+st.length from by have h9:=hP1.yes Fl.stp8 hwh (by show q<8;omega) hcc hc.1 hc.2.1 hc.2.2;rw [← hat] at h9;exact ⟨by omega,h9.1,by omega⟩) (by show 8 - (q+1)<8 - q;omega) ((.e rfl (by simp) (.of rfl)):SubM _ _) (ho:=((.e (i:=2) rfl (by first|rfl|(dsimp only;rw [List.map_append,List.map_cons,List.map_nil,show Fl.iz ((kj).toNat)=kj by unfold Fl.iz;omega])) (.of [2,2] rfl)):PickO _ _ _)) ((.of [2,3,4,5] rfl):SelR _ _ _)
        ·
         refine zy<|zS<|zf<|zc<|r_pv rfl rfl (zz (z:=(((q+1):Nat):Int)) rfl rfl (w64 (by omega)))<|r_pv rfl rfl (zb rfl)<|zj<|zZ ((q+1),o3,s3,p5,c5) (show (q+1)≤8∧Fl.FlP n (Fl.lo l th) (Fl.nb true w n) cc i o3 s3 pp (Fl.Dst w h pp Fl.st8 (q+1))∧2*Fl.unv o3+s3.length≤2*Fl.unv o2+st.length from by exact ⟨by omega,hP1.no Fl.stp8 hwh (by show q<8;omega) hcc hc,hP2⟩) (by show 8 - (q+1)<8 - q;omega) ((.of rfl):SubM _ _) (ho:=((.of [1,1,1] rfl):PickO _ _ _)) ((.of [1,2,3,4] rfl):SelR _ _ _)
      ·
       refine zha<|zm<|zm<|zv<|zS<|zZ (o3,s3,p5,c5) (show Fl.Fld n (Fl.lo l th) (Fl.nb true w n) cc i o3 s3∧2*Fl.unv o3+s3.length≤2*n+1 from by refine ⟨?_,?_⟩;(have h9:q=8:=(by omega));subst h9;exact hP1.end_ Fl.stp8 (by omega) hwh;have h8:=hFm;rw [List.length_append] at h8;simp only [List.length_cons,List.length_nil] at h8;omega) (by have h9:=hP2;rw [List.length_append];simp only [List.length_cons,List.length_nil];omega) ((.of rfl):SubM _ _) (ho:=((.of [0,0,0] rfl):PickO _ _ _)) ((.of [0,1,2,3] rfl):SelR _ _ _)
     ·
      refine zha<|zm<|zm<|zv<|zf<|zc<|r_pv rfl rfl (zb rfl)<|r_pv rfl rfl (zz (z:=((((Fl.cnt (Fl.ldr (Fl.lo l th) cc) i)+1):Nat):Int)) rfl rfl (w64 (by omega)))<|r_pv rfl rfl (zd rfl)<|zj<|zS<|zf<|zc<|r_pv rfl rfl (zz (z:=(((i+1):Nat):Int)) rfl rfl (w64 (by omega)))<|r_pv rfl rfl (zb rfl)<|zj<|zZ ((i+1),o2) (show (i+1)≤n∧Fl.OutI n (Fl.lo l th) cc (i+1) o2 from by exact ⟨by omega,(by have h9:sk=[]:=(by cases sk with|nil=>rfl|cons a t=>simp at hso);subst h9;exact hF.fin hcc (fun _ _=>Fl.nb_symm) (fun _ _ h8=>Fl.nb_lt h8) (by omega) hfi)⟩) (by show n - (i+1)<n - i;omega) ((.e rfl (congrArg (Value.int .i64) (by dsimp only;rw [Fl.cnt_succ,hld];simp)) (.of rfl)):SubM _ _) (ho:=((.of [1,1] rfl):PickO _ _ _)) ((.of [1,2,3] rfl):SelR _ _ _)
  ·
   refine zha<|zm<|zm<|zv<|zf<|zi<|zc<|r_pv rfl rfl (zb rfl)<|r_pv rfl rfl (zb rfl)<|r_pv rfl rfl (zd rfl)<|r_pv rfl rfl (zd rfl)<|zj<|zf<|zI ?_
   have hin8:i=n:=by omega
   rw [hin8] at ho
   refine zTa 0 rfl .z ?_
   exact zta Try.results36 (some ⟨b2,0,none⟩,n,o,cc) (⟨hcc,ho⟩) (zq rfl) (zq rfl) (by rw [hin8]) (ho:=(.n:PickO _ _ _)) ((.c (j:=0) rfl .n):SelR _ _ _)
end Go.Proofs.Ytefbbhiaalcjfaa.Sp
namespace Go.Proofs.Ytefbbhiaalcjfaa.Fl
section
variable {n i k : Nat} {f : Nat → Bool} {adj : Nat → Nat → Prop} {c : Nat → Nat} {num A : List Int}
structure LbI (n:Nat) (f:Nat→Bool) (c:Nat→Nat) (i:Nat) (num:List Int) (A:List Int):Prop where
  nl:num.length=n
  al:A.length=i
  lead:∀j,j<i→ldr f c j=true→num.getD j 0=(cnt (ldr f c) j:Int)
  yes:∀j,j<i→f j=true→A.getD j 0=(cnt (ldr f c) (c j):Int)
  not:∀j,j<i→¬f j=true→A.getD j 0= -1
theorem getD_snoc_lt {A:List Int} {x:Int} {j:Nat} (h:j<A.length):(A++[x]).getD j 0=A.getD j 0:=by
  rw [List.getD_eq_getElem?_getD,List.getElem?_append_left h,←List.getD_eq_getElem?_getD]
theorem getD_snoc_eq {A:List Int} {x:Int}:(A++[x]).getD A.length 0=x:=by
  rw [List.getD_eq_getElem?_getD,List.getElem?_append_right (Nat.le_refl _)];simp
theorem LbI.start:LbI n f c 0 (List.replicate n 0) []:=⟨by simp,rfl,fun j h=>by omega,fun j h=>by omega,fun j h=>by omega⟩
theorem ldr_iff {j:Nat}:ldr f c j=true↔f j=true∧c j=j:=by simp [ldr]
theorem LbI.out (h:LbI n f c i num A) (hf:¬f i=true):LbI n f c (i+1) num (A++[-1])∧cnt (ldr f c) (i+1)=cnt (ldr f c) i:=by
  have hl:¬ldr f c i=true:=fun k=>hf (ldr_iff.1 k).1
  refine ⟨⟨h.nl,by simp [h.al],fun j hj hx=> ?_,fun j hj hx=> ?_,fun j hj hx=> ?_⟩,by rw [cnt_succ,if_neg hl];rfl⟩
  · exact h.lead j (by by_cases e:j=i;exact absurd (e ▸ hx) hl;omega) hx
  · have e : j ≠ i := fun e => hf (e ▸ hx)
    rw [getD_snoc_lt (by rw [h.al];omega)];exact h.yes j (by omega) hx
  · by_cases e : j = i
    · rw [e,←h.al];exact getD_snoc_eq
    · rw [getD_snoc_lt (by rw [h.al];omega)];exact h.not j (by omega) hx
theorem LbI.lab (h:LbI n f c n num A) (hcl:Lst (fun j=>f j=true) adj c):Lab n f adj A:=⟨h.al,c,hcl,h.yes,h.not⟩
end
def LabR (w h m:Int) (l:List Int) (th:Int) (o:List Int):Prop:=
  (Bl.rok w h m l∧0≤th∧th≤65536→Lab l.length (ge l th) (nb false w.toNat l.length) o)∧(¬(Bl.rok w h m l∧0≤th∧th≤65536)→o=[])
theorem LabR.uniq {w h m th:Int} {l o o2:List Int} (a:LabR w h m l th o) (b:LabR w h m l th o2):o=o2:=by
  by_cases e:Bl.rok w h m l∧0≤th∧th≤65536
  · exact (a.1 e).uniq (b.1 e)
  · rw [a.2 e,b.2 e]
theorem LabR.no {w h m th:Int} {l:List Int} (e:¬(Bl.rok w h m l∧0≤th∧th≤65536)):LabR w h m l th []:=⟨fun k=>absurd k e,fun _=>rfl⟩
theorem LabR.yes {w n:Nat} {h m th:Int} {l o:List Int} (e:Bl.rok w h m l∧0≤th∧th≤65536) (hn:l.length=n) (k:Lab n (ge l th) (nb false w n) o):LabR w h m l th o:=by
  subst hn;exact ⟨fun _=>k,fun x=>absurd e x⟩
theorem ask0 {w h m th:Int} {l:List Int}:(if Bl.rok w h m l then (if 0≤th∧th≤65536 then (0:Int) else 2) else 1)=0↔Bl.rok w h m l∧0≤th∧th≤65536:=by
  by_cases e:Bl.rok w h m l
  · rw [if_pos e]; by_cases k : 0 ≤ th ∧ th ≤ 65536
    · rw [if_pos k];exact ⟨fun _=>⟨e,k⟩,fun _=>rfl⟩
    · rw [if_neg k];exact ⟨fun x=>by omega,fun x=>absurd x.2 k⟩
  · rw [if_neg e];exact ⟨fun x=>by omega,fun x=>absurd x.1 e⟩
theorem rok_n {w h m:Int} {l:List Int} {n:Nat} (e:Bl.rok w h m l) (hn:l.length=n):∃a b:Nat,w=(a:Int)∧h=(b:Int)∧(1≤a∧a≤64)∧(1≤b∧b≤64)∧n=a*b∧n≤4096:=by
  obtain ⟨h1,h2,_,h4,_⟩:=e
  obtain ⟨a,ha⟩:∃a:Nat,w=(a:Int):=⟨w.toNat,by omega⟩
  obtain ⟨b,hb⟩:∃b:Nat,h=(b:Int):=⟨h.toNat,by omega⟩
  subst ha;subst hb
  rw [← Int.natCast_mul] at h4
  have h5:n=a*b:=by omega
  have h6:a*b≤64*64:=Nat.mul_le_mul (by omega) (by omega)
  exact ⟨a,b,rfl,rfl,by omega,by omega,h5,by omega⟩
end Go.Proofs.Ytefbbhiaalcjfaa.Fl
namespace Go.Proofs.Ytefbbhiaalcjfaa.Sp
open Go
set_option linter.unusedVariables false
set_option maxRecDepth 100000
set_option maxHeartbeats 1000000
theorem zBb {w:Nat} {h:Nat} {m:Int} {p:Option Addr} {n:Nat} {cap:Nat} {l:List Int} {th:Int} (hn:l.length=n) (hw:1≤w∧w≤64) (hh:1≤h∧h≤64) (hwh:n=w*h) (hb:n≤4096):Con Try.prog 34 [.agg #[.int .i64 ((w:Nat):Int),.int .i64 ((h:Nat):Int),.int .i64 m,.slice p n cap],.int .i64 th] [] [slF (rI .i64) p cap l] (Y:=(Option Addr)×Nat×(List Int)×(Nat→Nat)) (fun y=>Fl.Lst (fun j=>Fl.ge l th j=true) (Fl.nb false w n) y.2.2.2∧Fl.OutI n (Fl.ge l th) y.2.2.2 n y.2.2.1) (fun y=> .tuple #[.slice (y.1) n (y.2.1),.int .i64 (((Fl.cnt (Fl.ldr (Fl.ge l th) y.2.2.2) n):Nat):Int)]) (fun y=>[]) (fun y=>[slF (rI .i64) (y.1) (y.2.1) (y.2.2.1)]):=by
 refine zr Try.func34 rfl rfl rfl (fun c=> ?_)
 show RunC _ _ _ _ _ [(0,.agg #[.int .i64 ((w:Nat):Int),.int .i64 ((h:Nat):Int),.int .i64 m,.slice p n cap]),(1,.int .i64 th)] [] [slF (rI .i64) p cap l]
 refine zea 0 rfl (fun hL0=> ?_)
 refine zi<|zc<|zQ rfl rfl (zV rfl rfl) (fun b1=> ?_)
 refine zQ rfl rfl (zV rfl rfl) (fun b2=> ?_)
 refine r_pv rfl rfl (zd rfl)<|r_pv rfl rfl (zd rfl)<|zj<|zf<|zi<|zEb 0 rfl .z<|zia (OW:=[]) (O:=[emA,boxA b1 24 [.int .i64 ((w:Nat):Int),.int .i64 ((h:Nat):Int),.int .i64 m,.slice p n cap]]) 100000 mixed (.then .ret) (by kernel_rfl)<|d_u 0 rfl rfl (by kernel_rfl) (by kernel_rfl) rfl rfl (zh 1 ty24 rfl rfl (.take (.take (.take (.take .nil)))))<|d_pv 1 rfl rfl (by kernel_rfl) (by kernel_rfl) rfl rfl (zbb .n (.c rfl .n))<|zT 2 (by kernel_rfl) (zU rfl rfl rfl rfl (.n) ce58 (zpf) (.n) ?_)
 rintro ⟨p33,c34⟩ -
 dsimp only [List.append_eq,List.nil_append,List.cons_append]
 refine zT 3 (by kernel_rfl) (zU rfl rfl rfl rfl (.c rfl (.c rfl (.c rfl .n))) ce36 (zDd (w:=w) (h:=h) (m:=m) (p:=p) (n:=n) (cap:=cap) (l:=l) (tb:=b2) (th:=th) (p2:=p33) (c2:=c34) (hn:=by assumption) (hw:=by assumption) (hh:=by assumption) (hwh:=by assumption) (hb:=by assumption)) (.c (j:=2) rfl (.c (j:=1) rfl (.c (j:=0) rfl .n))) ?_)
 rintro ⟨p35,c36,o,cc⟩ hcl
 dsimp only [List.append_eq,List.nil_append,List.cons_append]
 replace hcl:Fl.Lst (fun j=>(Fl.ge l th) j=true) (Fl.nb false w n) cc∧Fl.OutI n (Fl.ge l th) cc n o:=hcl
 refine d_pv 4 rfl rfl (by kernel_rfl) (by kernel_rfl) rfl rfl (zp rfl rfl)<|d_pv 5 rfl rfl (by kernel_rfl) (by kernel_rfl) rfl rfl (zp rfl rfl)<|d_pv 6 rfl rfl (by kernel_rfl) (by kernel_rfl) rfl rfl (zd rfl)<|d_pv 7 rfl rfl (by kernel_rfl) (by kernel_rfl) rfl rfl (zd rfl)<|zfa (by kernel_rfl)<|zf<|zI ?_
 exact zta Try.results34 (p35,c36,o,cc) hcl (zq rfl) (zq rfl) rfl (ho:=(.n:PickO _ _ _)) ((.c (j:=0) rfl .n):SelR _ _ _)
theorem zVe {w:Int} {h:Int} {m:Int} {p:Option Addr} {n:Nat} {cap:Nat} {l:List Int} {th:Int} (hn:l.length=n):Con Try.prog 11 [.agg #[.int .i64 w,.int .i64 h,.int .i64 m,.slice p n cap],.int .i64 th] [] [slF (rI .i64) p cap l] (Y:=(Option Addr)×Nat×(List Int)) (fun y=>Fl.LabR w h m l th y.2.2) (fun y=> .tuple #[.slice (y.1) (y.2.2.length) (y.2.1),.int .i64 (if Bl.rok w h m l then (if 0≤th∧th≤65536 then 0 else 2) else 1)]) (fun y=>[]) (fun y=>[slF (rI .i64) (y.1) (y.2.1) (y.2.2)]):=by
 refine zr Try.func11 rfl rfl rfl (fun c=> ?_)
 show RunC _ _ _ _ _ [(0,.agg #[.int .i64 w,.int .i64 h,.int .i64 m,.slice p n cap]),(1,.int .i64 th)] [] [slF (rI .i64) p cap l]
 refine zea 0 rfl (fun hL0=> ?_)
 refine zi<|zc<|zQ rfl rfl (zV rfl rfl) (fun b1=> ?_)
 refine r_pv rfl rfl (zd rfl)<|r_pv rfl rfl (zd rfl)<|zj<|zf<|zi<|zi<|zc<|r_u rfl rfl (zh 0 ty24 rfl rfl (.take (.take (.take (.take .nil)))))<|r_pv rfl rfl (zb rfl)<|zM rfl rfl (.c rfl (.c rfl .n)) ce33 (zqb (w:=w) (h:=h) (m:=m) (p:=p) (n:=n) (cap:=cap) (l:=l) (th:=th) (hn:=by assumption)) (.c (j:=0) rfl .n)<|r_pv rfl rfl (zd rfl)<|zj<|zf<|zi<|zc<|r_pv rfl rfl (zb rfl)<|r_pv rfl rfl (zCa rfl rfl)<|zj<|zf<|zC rfl (fun hc=> ?_) (fun hc=> ?_)
 ·
  have hno:=fun k=>hc (Fl.ask0.2 k)
  refine zi<|zc<|r_pv rfl rfl (zb rfl)<|r_pv rfl rfl (zd rfl)<|r_pv rfl rfl (zd rfl)<|zj<|zf<|zI<|zt<|zhc (rI .i64) ?_
  exact zta Try.results11 (none,0,[]) (Fl.LabR.no hno) (zq rfl) (zq rfl) rfl (ho:=(.n:PickO _ _ _)) ((.c (j:=0) rfl .n):SelR _ _ _)
 ·
  have hok:=Fl.ask0.1 (Decidable.not_not.1 hc)
  obtain ⟨wn,hn9,rfl,rfl,hw9,hh9,hwh,hb9⟩:=Fl.rok_n hok.1 hn
  refine zy<|zf<|zi<|zc<|r_u rfl rfl (zh 0 ty24 rfl rfl (.take (.take (.take (.take .nil)))))<|r_pv rfl rfl (zb rfl)<|zA rfl rfl (.c rfl (.c rfl .n)) ce34 (zBb (w:=wn) (h:=hn9) (m:=m) (p:=p) (n:=n) (cap:=cap) (l:=l) (th:=th) (hn:=by assumption) (hw:=by first|rfl|assumption|omega) (hh:=by first|rfl|assumption|omega) (hwh:=by first|rfl|assumption|omega) (hb:=by first|rfl|assumption|omega)) (.c (j:=0) rfl .n) ?_
  rintro ⟨p32,c33,o,cc⟩ hcl
  dsimp only [List.append_eq,List.nil_append,List.cons_append]
  replace hcl:Fl.Lst (fun j=>Fl.ge l th j=true) (Fl.nb false wn n) cc∧Fl.OutI n (Fl.ge l th) cc n o:=hcl
  refine r_pv rfl rfl (zb rfl)<|r_pv rfl rfl (zp rfl rfl)<|r_pv rfl rfl (zp rfl rfl)<|r_pv rfl rfl (zd rfl)<|r_pv rfl rfl (zd rfl)<|zj<|zf<|zi<|zc<|r_pv rfl rfl (zb rfl)<|r_pv rfl rfl (zd rfl)<|r_pv rfl rfl (zd rfl)<|zj<|zf<|zI ?_
  have hol:=hcl.2.len
  exact zta Try.results11 (p32,c33,o) (Fl.LabR.yes hok hn (hcl.2.lab hcl.1 (fun j hj=>by have:=Fl.ge_lt hj;omega))) (zq rfl) (zq rfl) (by rw [Decidable.not_not.1 hc,hol]) (ho:=(.n:PickO _ _ _)) ((.c (j:=0) rfl .n):SelR _ _ _)
end Go.Proofs.Ytefbbhiaalcjfaa.Sp
namespace Go.Proofs.Ytefbbhiaalcjfaa.Fl
open Sp
def edg (w h k:Nat):Bool:=decide (k%w=0∨k / w=0∨k%w+1=w∨k / w+1=h)
theorem edg_iff {w h k:Nat}:edg w h k=true↔(k%w=0∨k / w=0∨k%w+1=w∨k / w+1=h):=by simp [edg]
def brd (n:Nat) (f:Nat→Bool) (c:Nat→Nat) (g:Nat→Bool) (j:Nat):Bool:=(List.range n).any (fun k=>f k&&g k&&decide (c k=j))
theorem brd_iff {n:Nat} {f:Nat→Bool} {c:Nat→Nat} {g:Nat→Bool} {j:Nat}:brd n f c g j=true↔∃k,k<n∧f k=true∧g k=true∧c k=j:=by
  simp [brd,and_assoc]
def hol (n:Nat) (f:Nat→Bool) (c:Nat→Nat) (g:Nat→Bool):Nat:=cnt (fun j=>ldr f c j&& !brd n f c g j) n
theorem cnt_split (q b:Nat→Bool) (i:Nat):cnt q i=cnt (fun j=>q j&&b j) i+cnt (fun j=>q j&& !b j) i:=by
  induction i with
  |zero=>rfl
  |succ i ih=>rw [cnt_succ,cnt_succ,cnt_succ,ih];cases q i <;> cases b i <;> simp <;> omega
section
variable {n i : Nat} {f g : Nat → Bool} {adj : Nat → Nat → Prop} {c d : Nat → Nat}
theorem brd_uniq (hc:Lst (fun j=>f j=true) adj c) (hd:Lst (fun j=>f j=true) adj d):brd n f c g=brd n f d g:=by
  funext j
  rw [Bool.eq_iff_iff,brd_iff,brd_iff]
  exact ⟨fun ⟨k,h1,h2,h3,h4⟩=>⟨k,h1,h2,h3,by rw [← hc.uniq hd h2];exact h4⟩,fun ⟨k,h1,h2,h3,h4⟩=>⟨k,h1,h2,h3,by rw [hc.uniq hd h2];exact h4⟩⟩
theorem hol_uniq (hc:Lst (fun j=>f j=true) adj c) (hd:Lst (fun j=>f j=true) adj d):hol n f c g=hol n f d g:=by
  unfold hol;rw [ldr_uniq hc hd,brd_uniq hc hd]
structure OpnI (f:Nat→Bool) (c:Nat→Nat) (g:Nat→Bool) (i:Nat) (mp:List (Int×Bool)):Prop where
  nd:(mp.map (·.1)).Nodup
  mem:∀z,z∈mp.map (·.1)↔∃k,k<i∧f k=true∧g k=true∧z=(cnt (ldr f c) (c k):Int)
theorem OpnI.start:OpnI f c g 0 []:=⟨by simp,fun z=>⟨fun h=>(by cases h),fun ⟨_,h,_⟩=>(by omega)⟩⟩
theorem OpnI.skip {mp:List (Int×Bool)} (h:OpnI f c g i mp) (hx:¬(f i=true∧g i=true)):OpnI f c g (i+1) mp:=
  ⟨h.nd,fun z=>(h.mem z).trans ⟨fun ⟨k,a,b⟩=>⟨k,by omega,b⟩,fun ⟨k,a,b,e,e2⟩=>⟨k,by
    by_cases x:k=i
    · exact absurd ⟨x ▸ b,x ▸ e⟩ hx
    · omega,b,e,e2⟩⟩⟩
theorem OpnI.put {mp:List (Int×Bool)} (h:OpnI f c g i mp) (hf:f i=true) (hg:g i=true):OpnI f c g (i+1) (mput mp (cnt (ldr f c) (c i):Int) true):=by
  refine ⟨mput_nodup h.nd,fun z=> ?_⟩
  have key:z∈(mput mp (cnt (ldr f c) (c i):Int) true).map (·.1)↔z∈mp.map (·.1)∨z=(cnt (ldr f c) (c i):Int):=by
    rw [mput_keys];split
    · rename_i hm;exact ⟨.inl,fun x=>x.elim id fun x=>x ▸ hm⟩
    · simp
  rw [key,h.mem]
  constructor
  · rintro (⟨k, a, b⟩ | e)
    · exact ⟨k,by omega,b⟩
    · exact ⟨i,by omega,hf,hg,e⟩
  · rintro ⟨k, a, b, e, e2⟩
    by_cases x:k=i
    · subst x;exact .inr e2
    · exact .inl ⟨k,by omega,b,e,e2⟩
theorem OpnI.fin {mp:List (Int×Bool)} (hc:Lst (fun j=>f j=true) adj c) (hn:∀j,f j=true→j<n) (h:OpnI f c g n mp):mp.length=cnt (fun j=>ldr f c j&&brd n f c g j) n:=by
  have hP:((((List.range n).filter (fun j=>ldr f c j&&brd n f c g j)).map (fun j=>(cnt (ldr f c) j:Int)))).Nodup:=by
    refine List.pairwise_map.2 (List.Pairwise.imp_of_mem (fun {a b} ha _ hlt=> ?_) (List.Pairwise.filter _ (List.pairwise_lt_range (n:=n))))
    have h1:=(List.mem_filter.1 ha).2
    rw [Bool.and_eq_true] at h1
    have:=cnt_lt (ldr f c) hlt h1.1
    intro e;omega
  have hp:=(List.perm_ext_iff_of_nodup h.nd hP).2 fun z=>by
    rw [h.mem,List.mem_map]
    constructor
    · rintro ⟨k, a, b, e, e2⟩
      refine ⟨c k,List.mem_filter.2 ⟨List.mem_range.2 (hn _ (hc.mem b)),?_⟩,e2.symm⟩
      rw [Bool.and_eq_true]
      exact ⟨ldr_iff.2 ⟨hc.mem b,hc.idem b⟩,brd_iff.2 ⟨k,a,b,e,rfl⟩⟩
    · rintro ⟨j, hj, e2⟩
      have h1:=(List.mem_filter.1 hj).2
      rw [Bool.and_eq_true] at h1
      obtain ⟨k,a,b,e,e3⟩:=brd_iff.1 h1.2
      exact ⟨k,a,b,e,by rw [e3];exact e2.symm⟩
  have:=hp.length_eq
  rw [List.length_map,List.length_map] at this
  exact this
theorem OpnI.hol {mp:List (Int×Bool)} (hc:Lst (fun j=>f j=true) adj c) (hn:∀j,f j=true→j<n) (h:OpnI f c g n mp):((cnt (ldr f c) n:Nat):Int) - ((mp.length:Nat):Int)=(hol n f c g:Int):=by
  rw [h.fin hc hn,cnt_split (ldr f c) (brd n f c g) n];unfold Fl.hol;omega
structure BdI (n:Nat) (c:Nat→Nat) (g:Nat→Bool) (i:Nat) (b:List Bool):Prop where
  len:b.length=n
  iff:∀j,j<n→(b.getD j false=true↔∃k,k<i∧g k=true∧c k=j)
theorem getD_setB {b:List Bool} {j k:Nat} {v:Bool} (h:k<b.length):(b.set k v).getD j false=if j=k then v else b.getD j false:=by
  rw [List.getD_eq_getElem?_getD,List.getElem?_set]
  by_cases e:k=j
  · subst e;simp [h]
  · rw [if_neg e,if_neg (fun x=>e x.symm),←List.getD_eq_getElem?_getD]
theorem BdI.start:BdI n c g 0 (List.replicate n false):=⟨by simp,fun j hj=>by
  rw [List.getD_eq_getElem?_getD,List.getElem?_replicate];simp [hj]⟩
theorem BdI.skip {b:List Bool} (h:BdI n c g i b) (hg:¬g i=true):BdI n c g (i+1) b:=
  ⟨h.len,fun j hj=>(h.iff j hj).trans ⟨fun ⟨k,a,e⟩=>⟨k,by omega,e⟩,fun ⟨k,a,e,e2⟩=>⟨k,by
    by_cases x:k=i
    · exact absurd (x ▸ e) hg
    · omega,e,e2⟩⟩⟩
theorem BdI.put {b:List Bool} (h:BdI n c g i b) (hg:g i=true) (hk:c i<n):BdI n c g (i+1) (b.set (c i) true):=by
  refine ⟨by rw [List.length_set];exact h.len,fun j hj=> ?_⟩
  rw [getD_setB (by rw [h.len];exact hk)]
  by_cases e:j=c i
  · rw [if_pos e];exact ⟨fun _=>⟨i,by omega,hg,e.symm⟩,fun _=>rfl⟩
  · rw [if_neg e, h.iff j hj]
    exact ⟨fun ⟨k,a,b⟩=>⟨k,by omega,b⟩,fun ⟨k,a,b1,b2⟩=>⟨k,by
      by_cases x:k=i
      · exact absurd (by rw [← b2,x]) e
      · omega,b1,b2⟩⟩
theorem BdI.brd {b:List Bool} (h:BdI n c g n b) (hc:Lst (fun j=>f j=true) adj c) (ho:∀k,k<n→¬f k=true→c k=k) {j:Nat} (hj:j<n) (hf:f j=true):b.getD j false=brd n f c g j:=by
  rw [Bool.eq_iff_iff,h.iff j hj,brd_iff]
  exact ⟨fun ⟨k,a,e,e2⟩=>⟨k,a,by
    by_cases x:f k=true
    · exact x
    · rw [ho k a x] at e2;exact absurd (e2 ▸ hf) x,e,e2⟩,fun ⟨k,a,_,e,e2⟩=>⟨k,a,e,e2⟩⟩
theorem cnt_congr {q r:Nat→Bool} {i:Nat} (h:∀j,j<i→q j=r j):cnt q i=cnt r i:=by
  induction i with
  |zero=>rfl
  |succ i ih=>rw [cnt_succ,cnt_succ,ih (fun j hj=>h j (by omega)),h i (by omega)]
theorem BdI.hol {b:List Bool} (h:BdI n c g n b) (hc:Lst (fun j=>f j=true) adj c) (ho:∀k,k<n→¬f k=true→c k=k):cnt (fun j=>ldr f c j&& !(b.getD j false)) n=hol n f c g:=by
  refine cnt_congr fun j hj=> ?_
  by_cases e:f j=true
  · rw [h.brd hc ho hj e]
  · simp [ldr,e]
end
def HolR (w h m:Int) (l:List Int) (th:Int) (z:Int):Prop:=
  (Bl.rok w h m l∧0≤th∧th≤65536→∃c,Lst (fun j=>lo l th j=true) (nb true w.toNat l.length) c∧z=(hol l.length (lo l th) c (edg w.toNat h.toNat):Int))∧(¬(Bl.rok w h m l∧0≤th∧th≤65536)→z=0)
theorem HolR.uniq {w h m th:Int} {l:List Int} {z y:Int} (a:HolR w h m l th z) (b:HolR w h m l th y):z=y:=by
  by_cases e:Bl.rok w h m l∧0≤th∧th≤65536
  · obtain ⟨c, hc, h1⟩ := a.1 e
    obtain ⟨d,hd,h2⟩:=b.1 e
    rw [h1,h2,hol_uniq hc hd]
  · rw [a.2 e,b.2 e]
theorem HolR.no {w h m th:Int} {l:List Int} (e:¬(Bl.rok w h m l∧0≤th∧th≤65536)):HolR w h m l th 0:=⟨fun k=>absurd k e,fun _=>rfl⟩
theorem HolR.yes {w h n:Nat} {m th z:Int} {l:List Int} {c:Nat→Nat} (e:Bl.rok w h m l∧0≤th∧th≤65536) (hn:l.length=n) (hc:Lst (fun j=>lo l th j=true) (nb true w n) c) (hz:z=(hol n (lo l th) c (edg w h):Int)):HolR w h m l th z:=by
  subst hn;exact ⟨fun _=>⟨c,hc,hz⟩,fun x=>absurd e x⟩
end Go.Proofs.Ytefbbhiaalcjfaa.Fl
namespace Go.Proofs.Ytefbbhiaalcjfaa.Sp
open Go
set_option linter.unusedVariables false
set_option maxRecDepth 100000
set_option maxHeartbeats 1000000
theorem zWe {w:Int} {h:Int} {m:Int} {p:Option Addr} {n:Nat} {cap:Nat} {l:List Int} {th:Int} (hn:l.length=n):Con Try.prog 14 [.agg #[.int .i64 w,.int .i64 h,.int .i64 m,.slice p n cap],.int .i64 th] [] [slF (rI .i64) p cap l] (Y:=Int) (fun y=>Fl.HolR w h m l th y) (fun y=> .tuple #[.int .i64 y,.int .i64 (if Bl.rok w h m l then (if 0≤th∧th≤65536 then 0 else 2) else 1)]) (fun y=>[]) (fun y=>[]):=by
 refine zr Try.func14 rfl rfl rfl (fun c=> ?_)
 show RunC _ _ _ _ _ [(0,.agg #[.int .i64 w,.int .i64 h,.int .i64 m,.slice p n cap]),(1,.int .i64 th)] [] [slF (rI .i64) p cap l]
 refine zea 0 rfl (fun hL0=> ?_)
 refine zi<|zc<|zQ rfl rfl (zV rfl rfl) (fun b1=> ?_)
 refine zQ rfl rfl (zV rfl rfl) (fun b2=> ?_)
 refine r_pv rfl rfl (zd rfl)<|r_pv rfl rfl (zd rfl)<|zj<|zf<|zi<|zi<|zc<|r_u rfl rfl (zh 1 ty24 rfl rfl (.take (.take (.take (.take .nil)))))<|r_u rfl rfl (ze 0 ty3 rfl rfl rfl)<|zM rfl rfl (.c rfl (.c rfl .n)) ce33 (zqb (w:=w) (h:=h) (m:=m) (p:=p) (n:=n) (cap:=cap) (l:=l) (th:=th) (hn:=by assumption)) (.c (j:=0) rfl .n)<|r_pv rfl rfl (zd rfl)<|zj<|zf<|zi<|zc<|r_pv rfl rfl (zb rfl)<|r_pv rfl rfl (zCa rfl rfl)<|zj<|zf<|zC rfl (fun hc=> ?_) (fun hc=> ?_)
 ·
  have hno:=fun k=>hc (Fl.ask0.2 k)
  refine zi<|zc<|r_pv rfl rfl (zb rfl)<|r_pv rfl rfl (zd rfl)<|r_pv rfl rfl (zd rfl)<|zj<|zf<|zI<|zt ?_
  exact zta Try.results14 0 (Fl.HolR.no hno) (zq rfl) (zq rfl) rfl (ho:=(.n:PickO _ _ _)) (.n:SelR _ _ _)
 ·
  have hok:=Fl.ask0.1 (Decidable.not_not.1 hc)
  obtain ⟨wn,hn9,rfl,rfl,hw9,hh9,hwh,hb9⟩:=Fl.rok_n hok.1 hn
  refine zy<|zf<|zi<|zEb 0 rfl .z<|zia (OW:=[]) (O:=[emA,boxA b1 24 [.int .i64 ((wn:Nat):Int),.int .i64 ((hn9:Nat):Int),.int .i64 m,.slice p n cap]]) 100000 mixed (.then .ret) (by kernel_rfl)<|d_u 0 rfl rfl (by kernel_rfl) (by kernel_rfl) rfl rfl (zh 1 ty24 rfl rfl (.take (.take (.take (.take .nil)))))<|d_pv 1 rfl rfl (by kernel_rfl) (by kernel_rfl) rfl rfl (zbb .n (.c rfl .n))<|zT 2 (by kernel_rfl) (zU rfl rfl rfl rfl (.n) ce38 (zTe) (.n) ?_)
  rintro ⟨p33,c34⟩ -
  dsimp only [List.append_eq,List.nil_append,List.cons_append]
  refine zT 3 (by kernel_rfl) (zU rfl rfl rfl rfl (.c rfl (.c rfl (.c rfl .n))) ce36 (zld (w:=wn) (h:=hn9) (m:=m) (p:=p) (n:=n) (cap:=cap) (l:=l) (tb:=b2) (th:=th) (p2:=p33) (c2:=c34) (hn:=by assumption) (hw:=by first|rfl|assumption|omega) (hh:=by first|rfl|assumption|omega) (hwh:=by first|rfl|assumption|omega) (hb:=by first|rfl|assumption|omega)) (.c (j:=2) rfl (.c (j:=1) rfl (.c (j:=0) rfl .n))) ?_)
  rintro ⟨p35,c36,o,cc⟩ hcl
  dsimp only [List.append_eq,List.nil_append,List.cons_append]
  replace hcl:Fl.Lst (fun j=>(Fl.lo l th) j=true) (Fl.nb true wn n) cc∧Fl.OutI n (Fl.lo l th) cc n o:=hcl
  refine d_pv 4 rfl rfl (by kernel_rfl) (by kernel_rfl) rfl rfl (zb rfl)<|d_pv 5 rfl rfl (by kernel_rfl) (by kernel_rfl) rfl rfl (zp rfl rfl)<|d_pv 6 rfl rfl (by kernel_rfl) (by kernel_rfl) rfl rfl (zp rfl rfl)<|d_pv 7 rfl rfl (by kernel_rfl) (by kernel_rfl) rfl rfl (zd rfl)<|d_pv 8 rfl rfl (by kernel_rfl) (by kernel_rfl) rfl rfl (zd rfl)<|zfa (by kernel_rfl)<|zf<|zi<|zc<|zxa rfl rfl (zUd (κ:=Int) (ν:=Bool) (fun z:Int=> .int .i64 z) (fun z:Bool=> .bool z) (InK .i64)) (fun b7 _=> ?_)
  refine r_pv rfl rfl (zd rfl)<|zj<|zf<|zi<|zi ?_
  have hin:∀j,(Fl.lo l th) j=true→j<n:=fun j hj=>by have:=Fl.lo_lt hj;omega
  have hol:=hcl.2.len
  refine zc<|r_pv rfl rfl (zb rfl)<|r_pv rfl rfl (zK Try.underlying22 rfl)<|r_pv rfl rfl (zb rfl)<|zj<|zf<|zB<|zna (X:=Nat×(List (Int×Bool))) (fun x:Nat×(List (Int×Bool))=>x.1≤n∧Fl.OpnI (Fl.lo l th) cc (Fl.edg wn hn9) x.1 x.2) (fun x=>[(30,.int .i64 ((x.1:Nat):Int)),(29,.int .i64 ((n:Nat):Int)),(28,.slice p35 n c36),(9,.map (some b7)),(8,.int .i64 (((Fl.cnt (Fl.ldr (Fl.lo l th) cc) n):Nat):Int)),(5,.int .i64 0),(4,.int .i64 0),(2,.pointer (some ⟨b1,0,none⟩))]) (fun x=>[mapA b7 (fun z:Int=> .int .i64 z) (fun z:Bool=> .bool z) (InK .i64) (x.2),boxA b1 24 [.int .i64 ((wn:Nat):Int),.int .i64 ((hn9:Nat):Int),.int .i64 m,.slice p n cap]]) (fun x=>[slF (rI .i64) p35 c36 o,slF (rI2 .i64) p33 c34 ([((1:Int),(0:Int)),(-1,0),(0,1),(0,-1)]++[(1,1),(-1,1),(1,-1),(-1,-1)]),atF b2 0 [.int .i64 th],slF (rI .i64) p cap l]) (fun x:Nat×(List (Int×Bool))=>n - x.1) (0,([]:List (Int×Bool))) (show 0≤n∧Fl.OpnI (Fl.lo l th) cc (Fl.edg wn hn9) 0 ([]:List (Int×Bool)) from by exact ⟨Nat.zero_le _,Fl.OpnI.start⟩) ((.e rfl (by first|rfl|(congr 1;omega)|simp_all) (.of rfl)):SubM _ _) (ho:=((.e (i:=0) rfl (by first|rfl|(congr 1;omega)|simp_all) (.c (i:=1) rfl .n)):PickO _ _ _)) ((.of [0,1,2,3] rfl):SelR _ _ _) ?_
  rintro ⟨i,mp⟩ hI
  replace hI:i≤n∧Fl.OpnI (Fl.lo l th) cc (Fl.edg wn hn9) i mp:=hI
  try dsimp only
  obtain ⟨hi,hM⟩:=hI
  refine zi<|zc<|r_pv rfl rfl (zW rfl rfl)<|zj<|zf<|zi<|zC rfl (fun h8=> ?_) (fun h8=> ?_)
  ·
   have hqd:=Nat.div_le_self i wn
   have hq0:=Int.natCast_nonneg (i / wn)
   have hm0:=Int.natCast_nonneg (i%wn)
   have hmd:=Nat.mod_lt i (show 0<wn by omega)
   have hoe:=hcl.2.old i (by omega)
   have hon:=hcl.2.new i (by omega)
   have hcn:=Fl.cnt_le (Fl.ldr (Fl.lo l th) cc) (cc i)
   refine zy<|zf<|zi<|zB<|zi<|zc<|r_pv rfl rfl (zb rfl)<|zO (x0:=(o.getD i 0)) 0 i rfl Try.underlying22 sz3 rfl rfl rfl (by first|rfl|assumption|(simp_all;done)|omega) rfl rfl (gD (d:=0) (by omega)) (fun b9 o10 hok11=> ?_)
   replace hok11:=zk.1 hok11
   refine r_u rfl rfl (zn (j:=0) 0 ty3 rfl rfl rfl rfl)<|r_pv rfl rfl (zd rfl)<|r_pv rfl rfl (zd rfl)<|zj<|zf<|zi<|zia (OW:=[]) (O:=[mapA b7 (fun z:Int=> .int .i64 z) (fun z:Bool=> .bool z) (InK .i64) mp,boxA b1 24 [.int .i64 ((wn:Nat):Int),.int .i64 ((hn9:Nat):Int),.int .i64 m,.slice p n cap]]) 100000 mixed (.then (.block (.then (.then (.block (.then .ret)))))) (by kernel_rfl)<|d_pv 0 rfl rfl (by kernel_rfl) (by kernel_rfl) rfl rfl (zb rfl)<|d_pv 1 rfl rfl (by kernel_rfl) (by kernel_rfl) rfl rfl (zg Try.underlying24 rfl sz3 rfl rfl)<|d_u 2 rfl rfl (by kernel_rfl) (by kernel_rfl) rfl rfl (ze 1 ty3 rfl rfl rfl)<|d_pv 3 rfl rfl (by kernel_rfl) (by kernel_rfl) rfl rfl (zFa (z:=(((i%wn):Nat):Int)) rfl rfl (by omega) (remN (by omega) (by omega)))<|d_pv 4 rfl rfl (by kernel_rfl) (by kernel_rfl) rfl rfl (zb rfl)<|d_pv 5 rfl rfl (by kernel_rfl) (by kernel_rfl) rfl rfl (zg Try.underlying24 rfl sz3 rfl rfl)<|d_u 6 rfl rfl (by kernel_rfl) (by kernel_rfl) rfl rfl (ze 1 ty3 rfl rfl rfl)<|d_pv 7 rfl rfl (by kernel_rfl) (by kernel_rfl) rfl rfl (zHa (z:=(((i / wn):Nat):Int)) rfl rfl (by omega) (by rw [quoN (z:=(((i / wn):Nat):Int)) (by omega) (by omega)];exact w64 (by omega)))<|d_pv 8 rfl rfl (by kernel_rfl) (by kernel_rfl) rfl rfl (zd rfl)<|d_pv 9 rfl rfl (by kernel_rfl) (by kernel_rfl) rfl rfl (zd rfl)<|zfa (by kernel_rfl)<|zf<|zRa (X:=Unit) (fun x=>True) (fun x=>[(66,.bool (decide (0≤o.getD i 0∧(Fl.edg wn hn9) i=true))),(11,.int .i64 (o.getD i 0)),(30,.int .i64 ((i:Nat):Int)),(29,.int .i64 ((n:Nat):Int)),(28,.slice p35 n c36),(9,.map (some b7)),(8,.int .i64 (((Fl.cnt (Fl.ldr (Fl.lo l th) cc) n):Nat):Int)),(5,.int .i64 0),(4,.int .i64 0),(2,.pointer (some ⟨b1,0,none⟩))]) (fun x=>[mapA b7 (fun z:Int=> .int .i64 z) (fun z:Bool=> .bool z) (InK .i64) mp,boxA b1 24 [.int .i64 ((wn:Nat):Int),.int .i64 ((hn9:Nat):Int),.int .i64 m,.slice p n cap]]) (fun x=>[atF b9 o10 [.int .i64 (o.getD i 0)],slF (rI .i64) p35 c36 o,slF (rI2 .i64) p33 c34 ([((1:Int),(0:Int)),(-1,0),(0,1),(0,-1)]++[(1,1),(-1,1),(1,-1),(-1,-1)]),atF b2 0 [.int .i64 th],slF (rI .i64) p cap l]) ?_ ?_
   ·
    refine zc<|r_pv rfl rfl (zb rfl)<|r_pv rfl rfl (zGa rfl rfl)<|zR rfl rfl (zb rfl) (fun hk0=> ?_) (fun hk0=> ?_)
    ·
     refine r_pv rfl rfl (zb rfl)<|r_pv rfl rfl (zAa rfl rfl)<|zR rfl rfl (zb rfl) (fun hx0=> ?_) (fun hx0=> ?_)
     ·
      refine za rfl rfl<|za rfl rfl<|r_pv rfl rfl (zl rfl rfl)<|r_pv rfl rfl (zb rfl)<|za rfl rfl<|za rfl rfl<|za rfl rfl<|za rfl rfl<|za rfl rfl<|r_pv rfl rfl (zl rfl rfl)<|r_pv rfl rfl (zb rfl)<|za rfl rfl<|za rfl rfl<|za rfl rfl<|za rfl rfl<|za rfl rfl<|r_pv rfl rfl (zl rfl rfl)<|r_pv rfl rfl (zl rfl rfl)<|zj ?_
      exact zca () (show True from by first|trivial|omega|simp_all) ((.e rfl (congrArg Value.bool (by exact Eq.symm (decide_eq_true ⟨by omega,Fl.edg_iff.2 (by omega)⟩))) (.of rfl)):SubM _ _) (ho:=((.of [0,0] rfl):PickO _ _ _)) ((.of [0,1,2,3,4] rfl):SelR _ _ _)
     ·
      refine r_pv rfl rfl (zb rfl)<|r_pv rfl rfl (zAa rfl rfl)<|r_pv rfl rfl (zl rfl rfl)<|zR rfl rfl (zb rfl) (fun hx1=> ?_) (fun hx1=> ?_)
      ·
       refine za rfl rfl<|za rfl rfl<|za rfl rfl<|za rfl rfl<|za rfl rfl<|r_pv rfl rfl (zl rfl rfl)<|r_pv rfl rfl (zb rfl)<|za rfl rfl<|za rfl rfl<|za rfl rfl<|za rfl rfl<|za rfl rfl<|r_pv rfl rfl (zl rfl rfl)<|r_pv rfl rfl (zl rfl rfl)<|zj ?_
       exact zca () (show True from by first|trivial|omega|simp_all) ((.e rfl (congrArg Value.bool (by exact Eq.symm (decide_eq_true ⟨by omega,Fl.edg_iff.2 (by omega)⟩))) (.of rfl)):SubM _ _) (ho:=((.of [0,0] rfl):PickO _ _ _)) ((.of [0,1,2,3,4] rfl):SelR _ _ _)
      ·
       refine r_pv rfl rfl (zb rfl)<|r_pv rfl rfl (zg Try.underlying24 rfl sz3 rfl rfl)<|r_u rfl rfl (ze 1 ty3 rfl rfl rfl)<|r_pv rfl rfl (zda (z:=(((wn:Nat):Int) - 1)) rfl rfl (w64 (by omega)))<|r_pv rfl rfl (zAa rfl rfl)<|r_pv rfl rfl (zl rfl rfl)<|zR rfl rfl (zb rfl) (fun hx2=> ?_) (fun hx2=> ?_)
       ·
        refine za rfl rfl<|za rfl rfl<|za rfl rfl<|za rfl rfl<|za rfl rfl<|r_pv rfl rfl (zl rfl rfl)<|r_pv rfl rfl (zl rfl rfl)<|zj ?_
        exact zca () (show True from by first|trivial|omega|simp_all) ((.e rfl (congrArg Value.bool (by exact Eq.symm (decide_eq_true ⟨by omega,Fl.edg_iff.2 (by omega)⟩))) (.of rfl)):SubM _ _) (ho:=((.of [0,0] rfl):PickO _ _ _)) ((.of [0,1,2,3,4] rfl):SelR _ _ _)
       ·
        refine r_pv rfl rfl (zb rfl)<|r_pv rfl rfl (zg Try.underlying24 rfl sz3 rfl rfl)<|r_u rfl rfl (ze 1 ty3 rfl rfl rfl)<|r_pv rfl rfl (zda (z:=(((hn9:Nat):Int) - 1)) rfl rfl (w64 (by omega)))<|r_pv rfl rfl (zAa rfl rfl)<|r_pv rfl rfl (zl rfl rfl)<|r_pv rfl rfl (zl rfl rfl)<|zj ?_
        exact zca () (show True from by first|trivial|omega|simp_all) ((.e rfl (congrArg Value.bool (by exact decide_eq_decide.2 ⟨fun h9=>⟨by omega,Fl.edg_iff.2 (by omega)⟩,fun h9=>by have h8:=Fl.edg_iff.1 h9.2;omega⟩)) (.of rfl)):SubM _ _) (ho:=((.of [0,0] rfl):PickO _ _ _)) ((.of [0,1,2,3,4] rfl):SelR _ _ _)
    ·
     refine za rfl rfl<|za rfl rfl<|za rfl rfl<|za rfl rfl<|za rfl rfl<|za rfl rfl<|za rfl rfl<|za rfl rfl<|za rfl rfl<|za rfl rfl<|za rfl rfl<|za rfl rfl<|za rfl rfl<|za rfl rfl<|za rfl rfl<|za rfl rfl<|za rfl rfl<|za rfl rfl<|za rfl rfl<|za rfl rfl<|r_pv rfl rfl (zl rfl rfl)<|zj ?_
     exact zca () (show True from by first|trivial|omega|simp_all) ((.e rfl (congrArg Value.bool (by exact Eq.symm (decide_eq_false (fun h9=>hk0 (by omega))))) (.of rfl)):SubM _ _) (ho:=((.of [0,0] rfl):PickO _ _ _)) ((.of [0,1,2,3,4] rfl):SelR _ _ _)
   ·
    rintro ⟨⟩ -
    try dsimp only
    refine zC rfl (fun hx=> ?_) (fun hx=> ?_)
    ·
     have hfi:(Fl.lo l th) i=true:=by by_cases h9:(Fl.lo l th) i=true;exact h9;have h8:=hon (fun h7=>h9 h7.1);omega
     have hoi:=hoe hfi (hin _ (hcl.1.mem hfi))
     have hci:=hcl.1.le i hfi
     refine zc<|r_pv rfl rfl (zb rfl)<|r_pv rfl rfl (zb rfl)<|zya 0 rfl rfl rfl (zoe (a0:=(o.getD i 0)) (v:=true) ky3 Try.underlying77 rfl rfl rfl (zk.2 (by omega))) (fun _=> .z) (fun _ _=> ?_)
     refine zj<|zS<|zf<|zc<|r_pv rfl rfl (zz (z:=(((i+1):Nat):Int)) rfl rfl (w64 (by omega)))<|r_pv rfl rfl (zb rfl)<|zj<|zZ ((i+1),mput mp (o.getD i 0) true) (show (i+1)≤n∧Fl.OpnI (Fl.lo l th) cc (Fl.edg wn hn9) (i+1) (mput mp (o.getD i 0) true) from by have h9:=hM.put hfi hx.2;rw [← hoi] at h9;exact ⟨by omega,h9⟩) (by show n - (i+1)<n - i;omega) ((.of rfl):SubM _ _) (ho:=((.of [0,0] rfl):PickO _ _ _)) ((.of [1,2,3,4] rfl):SelR _ _ _)
    ·
     refine zy<|zS<|zf<|zc<|r_pv rfl rfl (zz (z:=(((i+1):Nat):Int)) rfl rfl (w64 (by omega)))<|r_pv rfl rfl (zb rfl)<|zj<|zZ ((i+1),mp) (show (i+1)≤n∧Fl.OpnI (Fl.lo l th) cc (Fl.edg wn hn9) (i+1) mp from by exact ⟨by omega,hM.skip (fun h9=>hx ⟨by have h8:=hoe h9.1 (hin _ (hcl.1.mem h9.1));omega,h9.2⟩)⟩) (by show n - (i+1)<n - i;omega) ((.of rfl):SubM _ _) (ho:=((.of [0,0] rfl):PickO _ _ _)) ((.of [1,2,3,4] rfl):SelR _ _ _)
  ·
   refine zha<|zm<|zm<|zv<|zf<|zi ?_
   have hin8:i=n:=by omega
   rw [hin8] at hM
   have hml:=hM.hol hcl.1 hin
   have hcn:=Fl.cnt_le (Fl.ldr (Fl.lo l th) cc) n
   refine zc<|r_pv rfl rfl (zb rfl)<|r_pv rfl rfl (zb rfl)<|r_u rfl rfl (zpe (encK:=(fun z:Int=> .int .i64 z)) (encV:=(fun z:Bool=> .bool z)) (ok:=(InK .i64)) (m:=mp) 0 rfl Try.underlying77 rfl)<|r_pv rfl rfl (zda (z:=((((Fl.cnt (Fl.ldr (Fl.lo l th) cc) n):Nat):Int) - (((mp).length:Nat):Int))) rfl rfl (w64 (by omega)))<|r_pv rfl rfl (zd rfl)<|r_pv rfl rfl (zd rfl)<|zj<|zf<|zI ?_
   exact zta Try.results14 ((Fl.hol n (Fl.lo l th) cc (Fl.edg wn hn9):Nat):Int) (Fl.HolR.yes hok hn hcl.1 rfl) (zq rfl) (zq rfl) (by rw [Decidable.not_not.1 hc,hM.hol hcl.1 hin]) (ho:=(.n:PickO _ _ _)) (.n:SelR _ _ _)
end Go.Proofs.Ytefbbhiaalcjfaa.Sp
namespace Go.Proofs.Ytefbbhiaalcjfaa.Fl
open Sp (Bb b0)
def one (w:Nat) (l:List Int) (i:Nat):Bb:=
  ⟨1,((i%w:Nat):Int),((i / w:Nat):Int),((i%w:Nat):Int),((i / w:Nat):Int),((i%w:Nat):Int),((i / w:Nat):Int),((i%w:Nat):Int)*((i%w:Nat):Int),((i%w:Nat):Int)*((i / w:Nat):Int),((i / w:Nat):Int)*((i / w:Nat):Int),l.getD i 0,l.getD i 0*((i%w:Nat):Int),l.getD i 0*((i / w:Nat):Int)⟩
def tog (a b:Bb):Bb:=
  ⟨a.ar+b.ar,min a.le b.le,min a.tp b.tp,max a.rt b.rt,max a.bt b.bt,a.sx+b.sx,a.sy+b.sy,a.xx+b.xx,a.xy+b.xy,a.yy+b.yy,a.ms+b.ms,a.mx+b.mx,a.my+b.my⟩
def okb (a:Bb):Prop:=Bl.ok a.ar a.le a.tp a.rt a.bt a.sx a.sy a.xx a.xy a.yy a.ms a.mx a.my
instance (a:Bb):Decidable (okb a):=inferInstanceAs (Decidable (Bl.ok ..))
def acc (w:Nat) (l o:List Int) (k:Int):Nat→Option Bb
  |0=>none
  |i+1=>if o.getD i 0=k then some (match acc w l o k i with|none=>one w l i|some a=>tog a (one w l i)) else acc w l o k i
theorem one_ok {w h n i:Nat} {l:List Int} (hw:1≤w∧w≤64) (hh:h≤64) (hn:n=w*h) (hi:i<n) (hg:0≤l.getD i 0∧l.getD i 0≤65535):okb (one w l i):=by
  have h1:i%w≤63:=by have:=Nat.mod_lt i (show 0<w by omega);omega
  have h2:i / w≤63:=by have:=Nat.div_lt_of_lt_mul (show i<w*h by omega);omega
  unfold okb one Bl.ok
  dsimp only
  generalize ((i%w:Nat))=X at *;generalize i / w=Y at *;generalize l.getD i 0=G at*
  have a1:=Bl.mul_b (x:=(X:Int)) (y:=(X:Int)) (m:=63) (n:=63) (by omega) (by omega)
  have a2:=Bl.mul_b (x:=(X:Int)) (y:=(Y:Int)) (m:=63) (n:=63) (by omega) (by omega)
  have a3:=Bl.mul_b (x:=(Y:Int)) (y:=(Y:Int)) (m:=63) (n:=63) (by omega) (by omega)
  omega
theorem mul_le2 {a b x y s:Int} (ha:0≤a) (hx:y≤x) (hs:a*x≤s):a*y≤s:=Int.le_trans (Int.mul_le_mul_of_nonneg_left hx ha) hs
theorem mul_ge2 {a b x y s:Int} (ha:0≤a) (hx:x≤y) (hs:s≤a*x):s≤a*y:=Int.le_trans hs (Int.mul_le_mul_of_nonneg_left hx ha)
theorem tog_ok {a b:Bb} (ha:okb a) (hb:okb b) (h:a.ar+b.ar≤4096):okb (tog a b):=by
  unfold okb Bl.ok at ha hb
  unfold okb tog Bl.ok
  dsimp only
  obtain ⟨a1,a2,a3,a4,a5,a6,a7,a8,a9,a10,a11,a12,a13⟩:=ha
  obtain ⟨b1,b2,b3,b4,b5,b6,b7,b8,b9,b10,b11,b12,b13⟩:=hb
  simp only [Int.add_mul]
  have m1:min a.le b.le≤a.le:=by omega
  have m2:min a.le b.le≤b.le:=by omega
  have m3:min a.tp b.tp≤a.tp:=by omega
  have m4:min a.tp b.tp≤b.tp:=by omega
  have m5:a.rt≤max a.rt b.rt:=by omega
  have m6:b.rt≤max a.rt b.rt:=by omega
  have m7:a.bt≤max a.bt b.bt:=by omega
  have m8:b.bt≤max a.bt b.bt:=by omega
  have c1:=mul_le2 (b:=0) (by omega) m1 a6.1
  have c2:=mul_le2 (b:=0) (by omega) m2 b6.1
  have c3:=mul_ge2 (b:=0) (by omega) m5 a6.2
  have c4:=mul_ge2 (b:=0) (by omega) m6 b6.2
  have c5:=mul_le2 (b:=0) (by omega) m3 a7.1
  have c6:=mul_le2 (b:=0) (by omega) m4 b7.1
  have c7:=mul_ge2 (b:=0) (by omega) m7 a7.2
  have c8:=mul_ge2 (b:=0) (by omega) m8 b7.2
  have d1:=mul_le2 (b:=0) (by omega) m1 a12.1
  have d2:=mul_le2 (b:=0) (by omega) m2 b12.1
  have d3:=mul_ge2 (b:=0) (by omega) m5 a12.2
  have d4:=mul_ge2 (b:=0) (by omega) m6 b12.2
  have d5:=mul_le2 (b:=0) (by omega) m3 a13.1
  have d6:=mul_le2 (b:=0) (by omega) m4 b13.1
  have d7:=mul_ge2 (b:=0) (by omega) m7 a13.2
  have d8:=mul_ge2 (b:=0) (by omega) m8 b13.2
  clear a6 b6 a7 b7 a12 b12 a13 b13
  omega
theorem acc_ok {w h n:Nat} {l o:List Int} {k:Int} (hw:1≤w∧w≤64) (hh:h≤64) (hn:n=w*h) (hb:n≤4096) (hg:∀i,i<n→0≤l.getD i 0∧l.getD i 0≤65535):∀i,i≤n→∀a,acc w l o k i=some a→okb a∧a.ar≤(i:Int):=by
  intro i
  induction i with
  |zero=>intro _ a e;cases e
  |succ i ih=>
    intro hi a e
    have ho:=one_ok hw hh hn (show i<n by omega) (hg i (by omega))
    unfold acc at e
    split at e
    · cases hc : acc w l o k i with
      |none=>rw [hc] at e;cases e;exact ⟨ho,by show (1:Int)≤_;omega⟩
      |some b=>
        rw [hc] at e;cases e
        obtain ⟨h1,h2⟩:=ih (by omega) b hc
        have h3:b.ar+(one w l i).ar≤((i+1:Nat):Int):=by show b.ar+1≤_;omega
        exact ⟨tog_ok h1 ho (by omega),h3⟩
    · obtain ⟨h1,h2⟩:=ih (by omega) a e;exact ⟨h1,by omega⟩
def gb (a:Option Bb):Bb:=a.getD b0
def bls (w:Nat) (l o:List Int) (N n:Nat):List Bb:=(List.range N).map (fun k:Nat=>gb (acc w l o (k:Int) n))
theorem bls_len (w:Nat) (l o:List Int) (N n:Nat):(bls w l o N n).length=N:=by simp [bls]
theorem bls_get {w:Nat} {l o:List Int} {N n k:Nat} (h:k<N):(bls w l o N n).getD k b0=gb (acc w l o (k:Int) n):=by
  unfold bls;rw [List.getD_eq_getElem?_getD,List.getElem?_map,List.getElem?_range h];rfl
theorem ext_gD {A B:List Bb} (hl:A.length=B.length) (h:∀k,k<A.length→A.getD k b0=B.getD k b0):A=B:=by
  refine List.ext_getElem hl fun k h1 h2=> ?_
  have:=h k h1
  rw [List.getD_eq_getElem?_getD,List.getD_eq_getElem?_getD,List.getElem?_eq_getElem h1,List.getElem?_eq_getElem h2] at this
  exact this
theorem gD_set {A:List Bb} {k j:Nat} {v:Bb} (h:k<A.length):(A.set k v).getD j b0=if j=k then v else A.getD j b0:=by
  rw [List.getD_eq_getElem?_getD,List.getElem?_set]
  by_cases e:k=j
  · subst e;simp [h]
  · rw [if_neg e,if_neg (fun x=>e x.symm),←List.getD_eq_getElem?_getD]
section
variable {w h n N i : Nat} {l o : List Int} {A : List Bb}
structure TbI (w:Nat) (l o:List Int) (N i:Nat) (A:List Bb):Prop where
  len:A.length=N
  get:∀k,k<N→A.getD k b0=gb (acc w l o (k:Int) i)
theorem TbI.start:TbI w l o N 0 (List.replicate N b0):=⟨by simp,fun k hk=>by
  rw [List.getD_eq_getElem?_getD,List.getElem?_replicate];simp [hk,acc,gb]⟩
theorem TbI.skip (h:TbI w l o N i A) (hx:o.getD i 0<0):TbI w l o N (i+1) A:=
  ⟨h.len,fun k hk=>by rw [h.get k hk];unfold acc;rw [if_neg (show ¬o.getD i 0=(k:Int) by omega)];cases i <;> rfl⟩
theorem acc_next {k:Int} (hx:o.getD i 0=k):acc w l o k (i+1)=some (match acc w l o k i with|none=>one w l i|some a=>tog a (one w l i)):=by
  rw [acc,if_pos hx]
theorem acc_keep {k:Int} (hx:¬o.getD i 0=k):acc w l o k (i+1)=acc w l o k i:=by rw [acc,if_neg hx]
theorem TbI.put (h:TbI w l o N i A) {k:Nat} {v:Bb} (hk:k<N) (ho:o.getD i 0=(k:Int)) (hv:v=gb (acc w l o (k:Int) (i+1))):TbI w l o N (i+1) (A.set k v):=
  ⟨by rw [List.length_set];exact h.len,fun j hj=>by
    rw [gD_set (by rw [h.len];exact hk)]
    by_cases e:j=k
    · rw [if_pos e,hv,e]
    · rw [if_neg e,h.get j hj,acc_keep (show ¬o.getD i 0=(j:Int) by omega)]⟩
theorem gb_new {k:Int} (hx:o.getD i 0=k) (ha:(gb (acc w l o k i)).ar=0) (hok:∀a,acc w l o k i=some a→okb a):one w l i=gb (acc w l o k (i+1)):=by
  rw [acc_next hx]
  cases e:acc w l o k i with
  |none=>rfl
  |some a=>rw [e] at ha;have:=(hok a e).1;change a.ar=0 at ha;omega
theorem gb_old {k:Int} (hx:o.getD i 0=k) (ha:¬(gb (acc w l o k i)).ar=0):tog (gb (acc w l o k i)) (one w l i)=gb (acc w l o k (i+1)):=by
  rw [acc_next hx]
  cases e:acc w l o k i with
  |none=>rw [e] at ha;exact absurd rfl ha
  |some a=>rfl
theorem gb_ok {k:Int} (ha:¬(gb (acc w l o k i)).ar=0) (hok:∀a,acc w l o k i=some a→okb a∧a.ar≤(i:Int)):okb (gb (acc w l o k i))∧(gb (acc w l o k i)).ar≤(i:Int):=by
  cases e:acc w l o k i with
  |none=>rw [e] at ha;exact absurd rfl ha
  |some a=>exact hok a e
theorem gb_nn {k:Int} (hok:∀a,acc w l o k i=some a→okb a∧a.ar≤(i:Int)):0≤(gb (acc w l o k i)).ar:=by
  cases e:acc w l o k i with
  |none=>exact Int.le_refl _
  |some a=>have:=(hok a e).1.1;show 0≤a.ar;omega
theorem gb_okn {k:Int} (ha:acc w l o k i≠none) (hok:∀a,acc w l o k i=some a→okb a∧a.ar≤(i:Int)):okb (gb (acc w l o k i)):=by
  cases e:acc w l o k i with
  |none=>exact absurd e ha
  |some a=>exact (hok a e).1
theorem TbI.fin (h:TbI w l o N n A):A=bls w l o N n:=ext_gD (by rw [h.len,bls_len]) fun k hk=>by
  rw [h.len] at hk;rw [h.get k hk,bls_get hk]
end
structure LabC (n:Nat) (f:Nat→Bool) (c:Nat→Nat) (o:List Int):Prop where
  len:o.length=n
  yes:∀j,j<n→f j=true→o.getD j 0=(cnt (ldr f c) (c j):Int)
  not:∀j,j<n→¬f j=true→o.getD j 0= -1
section
variable {w n i : Nat} {f : Nat → Bool} {adj : Nat → Nat → Prop} {c : Nat → Nat} {l o : List Int}
theorem OutI.labc (hc:Lst (fun j=>f j=true) adj c) (hn:∀j,f j=true→j<n) (h:OutI n f c n o):LabC n f c o:=
  ⟨h.len,fun j hj hf=>h.old j hj hf (hn _ (hc.mem hf)),fun j hj hf=>h.new j hj fun k=>hf k.1⟩
theorem Lab.labc (h:Lab n f adj o):∃c,Lst (fun j=>f j=true) adj c∧LabC n f c o:=let ⟨c,a,b,d⟩:=h.ex;⟨c,a,h.len,b,d⟩
theorem LabC.lt (hc:Lst (fun j=>f j=true) adj c) (hn:∀j,f j=true→j<n) (h:LabC n f c o) (hi:i<n) (hf:f i=true):o.getD i 0<(cnt (ldr f c) n:Int)∧0≤o.getD i 0:=by
  rw [h.yes i hi hf]
  have:=cnt_lt (ldr f c) (hn _ (hc.mem hf)) (ldr_iff.2 ⟨hc.mem hf,hc.idem hf⟩)
  omega
theorem LabC.pos (h:LabC n f c o) (hi:i<n):(0≤o.getD i 0↔f i=true):=by
  by_cases e:f i=true
  · rw [h.yes i hi e];exact ⟨fun _=>e,fun _=>by omega⟩
  · rw [h.not i hi e];exact ⟨fun x=>by omega,fun x=>absurd x e⟩
theorem LabC.fresh (hc:Lst (fun j=>f j=true) adj c) (h:LabC n f c o):∀i,i≤n→∀k:Nat,cnt (ldr f c) i≤k→acc w l o (k:Int) i=none:=by
  intro i
  induction i with
  |zero=>intro _ k _;rfl
  |succ i ih=>
    intro hi k hk
    have h1:=cnt_mono (ldr f c) (show i≤i+1 by omega)
    rw [acc_keep,ih (by omega) k (by omega)]
    intro e
    by_cases hf:f i=true
    · rw [h.yes i (by omega) hf] at e
      have h2:=cnt_lt (ldr f c) (show c i<i+1 by have:=hc.le i hf;omega) (ldr_iff.2 ⟨hc.mem hf,hc.idem hf⟩)
      omega
    · rw [h.not i (by omega) hf] at e;omega
theorem LabC.lead (hc:Lst (fun j=>f j=true) adj c) (h:LabC n f c o) (hi:i<n) (hf:f i=true) (he:o.getD i 0=(cnt (ldr f c) i:Int)):ldr f c i=true:=by
  have hci:c i=i:=by
    by_cases e:c i<i
    · have h2 := cnt_lt (ldr f c) e (ldr_iff.2 ⟨hc.mem hf, hc.idem hf⟩)
      rw [h.yes i hi hf] at he;omega
    · have:=hc.le i hf;omega
  exact ldr_iff.2 ⟨hf,hci⟩
theorem acc_some {k:Int}:∀i,(∃j,j<i∧o.getD j 0=k)→acc w l o k i≠none:=by
  intro i
  induction i with
  |zero=>rintro ⟨j,h,_⟩;omega
  |succ i ih=>
    rintro ⟨j,h,e⟩
    by_cases x:o.getD i 0=k
    · rw [acc_next x];exact fun y=>by cases y
    · rw [acc_keep x];exact ih ⟨j,by by_cases z:j=i;exact absurd (z ▸ e) x;omega,e⟩
theorem LabC.seen (hc:Lst (fun j=>f j=true) adj c) (h:LabC n f c o) (hi:i<n) (hf:f i=true) (he:¬o.getD i 0=(cnt (ldr f c) i:Int)):acc w l o (o.getD i 0) i≠none:=by
  have hci:¬c i=i:=fun e=>he (by rw [h.yes i hi hf,e])
  have hlt:c i<i:=by have:=hc.le i hf;omega
  refine acc_some i ⟨c i,hlt,?_⟩
  rw [h.yes i hi hf,h.yes (c i) (by omega) (hc.mem hf),hc.idem hf]
end
def BlsR (w h m:Int) (l:List Int) (th:Int) (A:List Bb):Prop:=
  (Bl.rok w h m l∧0≤th∧th≤65536→∃c o,Lst (fun j=>ge l th j=true) (nb false w.toNat l.length) c∧LabC l.length (ge l th) c o∧A=bls w.toNat l o (cnt (ldr (ge l th) c) l.length) l.length)∧(¬(Bl.rok w h m l∧0≤th∧th≤65536)→A=[])
theorem LabC.lab {n:Nat} {f:Nat→Bool} {adj:Nat→Nat→Prop} {c:Nat→Nat} {o:List Int} (hc:Lst (fun j=>f j=true) adj c) (h:LabC n f c o):Lab n f adj o:=⟨h.len,c,hc,h.yes,h.not⟩
theorem BlsR.uniq {w h m th:Int} {l:List Int} {A B:List Bb} (a:BlsR w h m l th A) (b:BlsR w h m l th B):A=B:=by
  by_cases e:Bl.rok w h m l∧0≤th∧th≤65536
  · obtain ⟨c, o, h1, h2, h3⟩ := a.1 e
    obtain ⟨d,p,k1,k2,k3⟩:=b.1 e
    have e1:o=p:=(h2.lab h1).uniq (k2.lab k1)
    rw [h3,k3,e1,ldr_uniq h1 k1]
  · rw [a.2 e,b.2 e]
theorem BlsR.no {w h m th:Int} {l:List Int} (e:¬(Bl.rok w h m l∧0≤th∧th≤65536)):BlsR w h m l th []:=⟨fun k=>absurd k e,fun _=>rfl⟩
theorem BlsR.yes {w n:Nat} {h m th:Int} {l o:List Int} {c:Nat→Nat} {A:List Bb} (e:Bl.rok w h m l∧0≤th∧th≤65536) (hn:l.length=n) (hc:Lst (fun j=>ge l th j=true) (nb false w n) c) (ho:LabC n (ge l th) c o) (hA:A=bls w l o (cnt (ldr (ge l th) c) n) n):BlsR w h m l th A:=by
  subst hn;exact ⟨fun _=>⟨c,o,hc,ho,hA⟩,fun x=>absurd e x⟩
theorem rok_g {w h m:Int} {l:List Int} {n:Nat} (e:Bl.rok w h m l) (hn:l.length=n):∀i,i<n→0≤l.getD i 0∧l.getD i 0≤65535:=fun i hi=>by
  obtain ⟨_,_,h3,_,h5⟩:=e
  have hm:l.getD i 0∈l:=Big.getD_mem (by omega)
  by_cases k:l.getD i 0<0∨m<l.getD i 0
  · exact absurd ⟨_,hm,k⟩ h5
  · omega
end Go.Proofs.Ytefbbhiaalcjfaa.Fl
namespace Go.Proofs.Ytefbbhiaalcjfaa.Sp
open Go
set_option linter.unusedVariables false
set_option maxRecDepth 100000
set_option maxHeartbeats 1000000
theorem zXe {w:Int} {h:Int} {m:Int} {p:Option Addr} {n:Nat} {cap:Nat} {l:List Int} {th:Int} (hn:l.length=n):Con Try.prog 17 [.agg #[.int .i64 w,.int .i64 h,.int .i64 m,.slice p n cap],.int .i64 th] [] [slF (rI .i64) p cap l] (Y:=(Option Addr)×Nat×(List Bb)) (fun y=>Fl.BlsR w h m l th y.2.2) (fun y=> .tuple #[.slice (y.1) (y.2.2.length) (y.2.1),.int .i64 (if Bl.rok w h m l then (if 0≤th∧th≤65536 then 0 else 2) else 1)]) (fun y=>[]) (fun y=>[slF (rI13 .i64) (y.1) (y.2.1) (y.2.2)]):=by
 refine zr Try.func17 rfl rfl rfl (fun c=> ?_)
 show RunC _ _ _ _ _ [(0,.agg #[.int .i64 w,.int .i64 h,.int .i64 m,.slice p n cap]),(1,.int .i64 th)] [] [slF (rI .i64) p cap l]
 refine zea 0 rfl (fun hL0=> ?_)
 refine zi<|zc<|zQ rfl rfl (zV rfl rfl) (fun b1=> ?_)
 refine r_pv rfl rfl (zd rfl)<|r_pv rfl rfl (zd rfl)<|zj<|zf<|zi<|zi<|zc<|r_u rfl rfl (zh 0 ty24 rfl rfl (.take (.take (.take (.take .nil)))))<|r_pv rfl rfl (zb rfl)<|zM rfl rfl (.c rfl (.c rfl .n)) ce33 (zqb (w:=w) (h:=h) (m:=m) (p:=p) (n:=n) (cap:=cap) (l:=l) (th:=th) (hn:=by assumption)) (.c (j:=0) rfl .n)<|r_pv rfl rfl (zd rfl)<|zj<|zf<|zi<|zc<|r_pv rfl rfl (zb rfl)<|r_pv rfl rfl (zCa rfl rfl)<|zj<|zf<|zC rfl (fun hc=> ?_) (fun hc=> ?_)
 ·
  have hno:=fun k=>hc (Fl.ask0.2 k)
  refine zi<|zc<|r_pv rfl rfl (zb rfl)<|r_pv rfl rfl (zd rfl)<|r_pv rfl rfl (zd rfl)<|zj<|zf<|zI<|zt<|zhc (rI13 .i64) ?_
  exact zta Try.results17 (none,0,[]) (Fl.BlsR.no hno) (zq rfl) (zq rfl) rfl (ho:=(.n:PickO _ _ _)) ((.c (j:=0) rfl .n):SelR _ _ _)
 ·
  have hok:=Fl.ask0.1 (Decidable.not_not.1 hc)
  obtain ⟨wn,hn9,rfl,rfl,hw9,hh9,hwh,hb9⟩:=Fl.rok_n hok.1 hn
  refine zy<|zf<|zi<|zc<|r_u rfl rfl (zh 0 ty24 rfl rfl (.take (.take (.take (.take .nil)))))<|r_pv rfl rfl (zb rfl)<|zA rfl rfl (.c rfl (.c rfl .n)) ce34 (zBb (w:=wn) (h:=hn9) (m:=m) (p:=p) (n:=n) (cap:=cap) (l:=l) (th:=th) (hn:=by assumption) (hw:=by first|rfl|assumption|omega) (hh:=by first|rfl|assumption|omega) (hwh:=by first|rfl|assumption|omega) (hb:=by first|rfl|assumption|omega)) (.c (j:=0) rfl .n) ?_
  rintro ⟨p32,c33,o,cc⟩ hcl
  dsimp only [List.append_eq,List.nil_append,List.cons_append]
  replace hcl:Fl.Lst (fun j=>Fl.ge l th j=true) (Fl.nb false wn n) cc∧Fl.OutI n (Fl.ge l th) cc n o:=hcl
  refine r_pv rfl rfl (zb rfl)<|r_pv rfl rfl (zp rfl rfl)<|r_pv rfl rfl (zp rfl rfl)<|r_pv rfl rfl (zd rfl)<|r_pv rfl rfl (zd rfl)<|zj<|zf<|zi ?_
  have hin:∀j,(Fl.ge l th) j=true→j<n:=fun j hj=>by have:=Fl.ge_lt hj;omega
  have hLC:=hcl.2.labc hcl.1 hin
  have hol:=hLC.len
  have hcn:=Fl.cnt_le (Fl.ldr (Fl.ge l th) cc) n
  refine zc<|r_pv rfl rfl (zb rfl)<|zxa rfl rfl (zWa (r:=rI13 .i64) (k:=(Fl.cnt (Fl.ldr (Fl.ge l th) cc) n)) (x0:=b0) (γ0:=()) Try.underlying35 inf51 rfl rfl rfl rfl (by omega) (by omega) rfl (fun _ _=>by exact okB_0) (by decide)) (fun b4 _=> ?_)
  refine r_pv rfl rfl (zd rfl)<|zj<|zf<|zi<|zi<|zc<|r_pv rfl rfl (zb rfl)<|r_pv rfl rfl (zK Try.underlying22 rfl)<|r_pv rfl rfl (zb rfl)<|zj<|zf<|zB<|zna (X:=Nat×(List Bb)) (fun x:Nat×(List Bb)=>x.1≤n∧Fl.TbI wn l o (Fl.cnt (Fl.ldr (Fl.ge l th) cc) n) x.1 x.2) (fun x=>[(32,.int .i64 ((x.1:Nat):Int)),(31,.int .i64 ((n:Nat):Int)),(30,.slice p32 n c33),(9,.slice (some ⟨b4,0,none⟩) (Fl.cnt (Fl.ldr (Fl.ge l th) cc) n) (Fl.cnt (Fl.ldr (Fl.ge l th) cc) n)),(5,.int .i64 0),(4,.slice none 0 0),(2,.pointer (some ⟨b1,0,none⟩))]) (fun x=>[rowA 51 (rI13 .i64) (some ⟨b4,0,none⟩) (Fl.cnt (Fl.ldr (Fl.ge l th) cc) n) (x.2),boxA b1 24 [.int .i64 ((wn:Nat):Int),.int .i64 ((hn9:Nat):Int),.int .i64 m,.slice p n cap]]) (fun x=>[slF (rI .i64) p32 c33 o,slF (rI .i64) p cap l]) (fun x:Nat×(List Bb)=>n - x.1) (0,List.replicate (Fl.cnt (Fl.ldr (Fl.ge l th) cc) n) b0) (show 0≤n∧Fl.TbI wn l o (Fl.cnt (Fl.ldr (Fl.ge l th) cc) n) 0 (List.replicate (Fl.cnt (Fl.ldr (Fl.ge l th) cc) n) b0) from by exact ⟨Nat.zero_le _,Fl.TbI.start⟩) ((.e rfl (by first|rfl|(congr 1;omega)|simp_all) (.of rfl)):SubM _ _) (ho:=((.of [0,0] rfl):PickO _ _ _)) ((.of [0,1] rfl):SelR _ _ _) ?_
  rintro ⟨i,A⟩ hI
  replace hI:i≤n∧Fl.TbI wn l o (Fl.cnt (Fl.ldr (Fl.ge l th) cc) n) i A:=hI
  try dsimp only
  obtain ⟨hi,hT⟩:=hI
  have hAl:=hT.len
  refine zi<|zc<|r_pv rfl rfl (zW rfl rfl)<|zj<|zf<|zi<|zC rfl (fun h5=> ?_) (fun h5=> ?_)
  ·
   refine zy<|zf<|zi<|zB<|zi<|zc<|r_pv rfl rfl (zb rfl)<|zO (x0:=(o.getD i 0)) 0 i rfl Try.underlying22 sz3 rfl rfl rfl (by first|rfl|assumption|(simp_all;done)|omega) rfl rfl (gD (d:=0) (by omega)) (fun b6 o7 hok8=> ?_)
   replace hok8:=zk.1 hok8
   refine r_u rfl rfl (zn (j:=0) 0 ty3 rfl rfl rfl rfl)<|r_pv rfl rfl (zd rfl)<|r_pv rfl rfl (zd rfl)<|zj<|zf<|zi<|zi<|zc<|r_pv rfl rfl (zb rfl)<|r_pv rfl rfl (zW rfl rfl)<|zj<|zf<|zC rfl (fun hneg=> ?_) (fun hneg=> ?_)
   ·
    refine zha<|zm<|zv<|zf<|zc<|r_pv rfl rfl (zz (z:=(((i+1):Nat):Int)) rfl rfl (w64 (by omega)))<|r_pv rfl rfl (zb rfl)<|zj<|zZ ((i+1),A) (show (i+1)≤n∧Fl.TbI wn l o (Fl.cnt (Fl.ldr (Fl.ge l th) cc) n) (i+1) A from by exact ⟨by omega,hT.skip hneg⟩) (by show n - (i+1)<n - i;omega) ((.of rfl):SubM _ _) (ho:=((.of [0,0] rfl):PickO _ _ _)) ((.of [1,2] rfl):SelR _ _ _)
   ·
    have hqd:=Nat.div_le_self i wn
    have hq0:=Int.natCast_nonneg (i / wn)
    have hm0:=Int.natCast_nonneg (i%wn)
    have hfi:(Fl.ge l th) i=true:=(hLC.pos (by omega)).1 (by omega)
    obtain ⟨hlt9,hge9⟩:=hLC.lt hcl.1 hin (show i<n by omega) hfi
    obtain ⟨kk,hkk⟩:∃kk:Nat,o.getD i 0=(kk:Int):=⟨(o.getD i 0).toNat,by omega⟩
    have e9:((o.getD i 0):Int)=((kk:Nat):Int):=by exact hkk
    rw [e9]
    have hkN:kk<(Fl.cnt (Fl.ldr (Fl.ge l th) cc) n):=by omega
    have hget:=hT.get kk hkN
    have hacc:=Fl.acc_ok (l:=l) (o:=o) (k:=(kk:Int)) hw9 hh9.2 hwh hb9 (Fl.rok_g hok.1 hn) i (by omega)
    refine zy<|zf<|zi<|zia (OW:=[]) (O:=[rowA 51 (rI13 .i64) (some ⟨b4,0,none⟩) (Fl.cnt (Fl.ldr (Fl.ge l th) cc) n) A,boxA b1 24 [.int .i64 ((wn:Nat):Int),.int .i64 ((hn9:Nat):Int),.int .i64 m,.slice p n cap]]) 100000 mixed (.then (.block (.then (.then (.block (.then .ret)))))) (by kernel_rfl)<|d_pv 0 rfl rfl (by kernel_rfl) (by kernel_rfl) rfl rfl (zb rfl)<|d_pv 1 rfl rfl (by kernel_rfl) (by kernel_rfl) rfl rfl (zg Try.underlying24 rfl sz3 rfl rfl)<|d_u 2 rfl rfl (by kernel_rfl) (by kernel_rfl) rfl rfl (ze 1 ty3 rfl rfl rfl)<|d_pv 3 rfl rfl (by kernel_rfl) (by kernel_rfl) rfl rfl (zFa (z:=(((i%wn):Nat):Int)) rfl rfl (by omega) (remN (by omega) (by omega)))<|d_pv 4 rfl rfl (by kernel_rfl) (by kernel_rfl) rfl rfl (zb rfl)<|d_pv 5 rfl rfl (by kernel_rfl) (by kernel_rfl) rfl rfl (zg Try.underlying24 rfl sz3 rfl rfl)<|d_u 6 rfl rfl (by kernel_rfl) (by kernel_rfl) rfl rfl (ze 1 ty3 rfl rfl rfl)<|d_pv 7 rfl rfl (by kernel_rfl) (by kernel_rfl) rfl rfl (zHa (z:=(((i / wn):Nat):Int)) rfl rfl (by omega) (by rw [quoN (z:=(((i / wn):Nat):Int)) (by omega) (by omega)];exact w64 (by omega)))<|d_pv 8 rfl rfl (by kernel_rfl) (by kernel_rfl) rfl rfl (zg Try.underlying24 rfl sz22 rfl rfl)<|d_u 9 rfl rfl (by kernel_rfl) (by kernel_rfl) rfl rfl (ze 1 ty22 rfl rfl rfl)<|d_pv 10 rfl rfl (by kernel_rfl) (by kernel_rfl) rfl rfl (zb rfl)<|zqa (x0:=(l.getD i 0)) 11 rfl rfl (by kernel_rfl) (by kernel_rfl) 2 i rfl Try.underlying22 sz3 rfl rfl rfl (by first|rfl|assumption|(simp_all;done)|omega) rfl rfl (gD (d:=0) (by omega)) (fun b10 o11 hok12=> ?_)
    replace hok12:=zk.1 hok12
    refine d_u 12 rfl rfl (by kernel_rfl) (by kernel_rfl) rfl rfl (zn (j:=0) 0 ty3 rfl rfl rfl rfl)<|d_pv 13 rfl rfl (by kernel_rfl) (by kernel_rfl) rfl rfl (zd rfl)<|d_pv 14 rfl rfl (by kernel_rfl) (by kernel_rfl) rfl rfl (zd rfl)<|d_pv 15 rfl rfl (by kernel_rfl) (by kernel_rfl) rfl rfl (zd rfl)<|zfa (by kernel_rfl)<|zf<|zi ?_
    obtain ⟨kx,hkx⟩:∃z,z=(i%wn):=⟨_,rfl⟩
    rw [← hkx]
    obtain ⟨ky,hky⟩:∃z,z=(i / wn):=⟨_,rfl⟩
    rw [← hky]
    obtain ⟨kg,hkg⟩:∃z,z=(l.getD i 0):=⟨_,rfl⟩
    rw [← hkg]
    have hkxb:kx≤63:=by rw [hkx];have:=Nat.mod_lt i (show 0<wn by omega);omega
    have hkyb:ky≤63:=by rw [hky];have:=Nat.div_lt_of_lt_mul (show i<wn*hn9 by omega);omega
    have hkgb:0≤kg∧kg≤65535:=by rw [hkg];exact Fl.rok_g hok.1 hn i (by omega)
    have hp1:kx*kx≤63*63:=Nat.mul_le_mul hkxb hkxb
    have hp2:kx*ky≤63*63:=Nat.mul_le_mul hkxb hkyb
    have hp3:ky*ky≤63*63:=Nat.mul_le_mul hkyb hkyb
    have hp4:=Bl.mul_b (x:=kg) (y:=(kx:Int)) (m:=65535) (n:=63) hkgb (by omega)
    have hp5:=Bl.mul_b (x:=kg) (y:=(ky:Int)) (m:=65535) (n:=63) hkgb (by omega)
    have hO1:Fl.okb (Fl.one wn l i):=Fl.one_ok hw9 hh9.2 hwh (by omega) (Fl.rok_g hok.1 hn i (by omega))
    refine zc<|r_pv rfl rfl (zb rfl)<|r_pv rfl rfl (zb rfl)<|r_pv rfl rfl (zb rfl)<|r_pv rfl rfl (zb rfl)<|r_pv rfl rfl (zb rfl)<|r_pv rfl rfl (zb rfl)<|r_pv rfl rfl (zb rfl)<|r_pv rfl rfl (zb rfl)<|r_pv rfl rfl (zga (z:=(((kx*kx):Nat):Int)) rfl rfl (w64 (by omega)))<|r_pv rfl rfl (zb rfl)<|r_pv rfl rfl (zb rfl)<|r_pv rfl rfl (zga (z:=(((kx*ky):Nat):Int)) rfl rfl (w64 (by omega)))<|r_pv rfl rfl (zb rfl)<|r_pv rfl rfl (zb rfl)<|r_pv rfl rfl (zga (z:=(((ky*ky):Nat):Int)) rfl rfl (w64 (by omega)))<|r_pv rfl rfl (zb rfl)<|r_pv rfl rfl (zb rfl)<|r_pv rfl rfl (zb rfl)<|r_pv rfl rfl (zga (z:=(kg*((kx:Nat):Int))) rfl rfl (w64 (by omega)))<|r_pv rfl rfl (zb rfl)<|r_pv rfl rfl (zb rfl)<|r_pv rfl rfl (zga (z:=(kg*((ky:Nat):Int))) rfl rfl (w64 (by omega)))<|r_pv rfl rfl (zG zr51 rfl Try.underlying51 (.c sz3 (.c sz3 (.c sz3 (.c sz3 (.c sz3 (.c sz3 (.c sz3 (.c sz3 (.c sz3 (.c sz3 (.c sz3 (.c sz3 (.c sz3 .n))))))))))))) (.c rfl (.c rfl (.c rfl (.c rfl (.c rfl (.c rfl (.c rfl (.c rfl (.c rfl (.c rfl (.c rfl (.c rfl (.c rfl .n))))))))))))) (.c rfl rfl rfl (.take .nil) (.c rfl rfl rfl (.skip (.take .nil)) (.c rfl rfl rfl (.skip (.skip (.skip (.take .nil)))) (.c rfl rfl rfl (.skip (.skip (.take .nil))) (.c rfl rfl rfl (.skip (.skip (.skip (.skip (.take .nil))))) (.c rfl rfl rfl (.skip (.skip (.skip (.skip (.skip (.take .nil)))))) (.c rfl rfl rfl (.skip (.skip (.skip (.skip (.skip (.skip (.take .nil))))))) (.c rfl rfl rfl (.skip (.skip (.skip (.skip (.skip (.skip (.skip (.take .nil)))))))) (.c rfl rfl rfl (.skip (.skip (.skip (.skip (.skip (.skip (.skip (.skip (.take .nil))))))))) (.c rfl rfl rfl (.skip (.skip (.skip (.skip (.skip (.skip (.skip (.skip (.skip (.take .nil)))))))))) (.c rfl rfl rfl (.skip (.skip (.skip (.skip (.skip (.skip (.skip (.skip (.skip (.skip (.take .nil))))))))))) (.c rfl rfl rfl (.skip (.skip (.skip (.skip (.skip (.skip (.skip (.skip (.skip (.skip (.skip (.take .nil)))))))))))) (.c rfl rfl rfl (.skip (.skip (.skip (.skip (.skip (.skip (.skip (.skip (.skip (.skip (.skip (.skip (.take .nil))))))))))))) .n))))))))))))))<|zQ rfl rfl (zE zr51 rfl) (fun b13=> ?_)
    refine zo 0 rfl rfl rfl rfl rfl sz51 rfl (.take (.take (.take (.take (.take (.take (.take (.take (.take (.take (.take (.take (.take .nil))))))))))))) .z<|zj<|zf<|zi<|zc<|r_pv rfl rfl (zb rfl)<|r_pv rfl rfl (zb rfl)<|r_pv rfl rfl (zP (j:=kk) Try.underlying35 sz51 rfl rfl rfl (by omega))<|r_u rfl rfl (zUb 1 rfl Try.underlying51 rfl sz3 rfl (by omega) rfl)<|r_vl rfl rfl (zsb (x0:=(A.getD kk b0)) (v:= .int .i64 ((A.getD kk b0).ar)) 1 kk 0 rfl ty3 rfl rfl (gD (d:=b0) (by omega)) rfl) (fun _ hok14=> ?_)
    obtain ⟨hok140,hok141,hok142,hok143,hok144,hok145,hok146,hok147,hok148,hok149,hok1410,hok1411,hok1412⟩:=hok14
    replace hok140:=zk.1 hok140
    replace hok141:=zk.1 hok141
    replace hok142:=zk.1 hok142
    replace hok143:=zk.1 hok143
    replace hok144:=zk.1 hok144
    replace hok145:=zk.1 hok145
    replace hok146:=zk.1 hok146
    replace hok147:=zk.1 hok147
    replace hok148:=zk.1 hok148
    replace hok149:=zk.1 hok149
    replace hok1410:=zk.1 hok1410
    replace hok1411:=zk.1 hok1411
    replace hok1412:=zk.1 hok1412
    refine r_pv rfl rfl (zAa rfl rfl)<|zj<|zf<|zC rfl (fun hz=> ?_) (fun hz=> ?_)
    ·
     have hnew:=Fl.gb_new hkk (by rw [← hget];exact hz) (fun a ha=>(hacc a ha).1)
     refine zc<|r_pv rfl rfl (zb rfl)<|r_pv rfl rfl (zb rfl)<|r_u rfl rfl (zh 0 ty51 rfl rfl (.take (.take (.take (.take (.take (.take (.take (.take (.take (.take (.take (.take (.take .nil))))))))))))))<|r_pv rfl rfl (zP (j:=kk) Try.underlying35 sz51 rfl rfl rfl (by omega))<|zya 1 rfl rfl rfl (zN (j:=kk) (x0:=(⟨1,((kx:Nat):Int),((ky:Nat):Int),((kx:Nat):Int),((ky:Nat):Int),((kx:Nat):Int),((ky:Nat):Int),(((kx*kx):Nat):Int),(((kx*ky):Nat):Int),(((ky*ky):Nat):Int),kg,(kg*((kx:Nat):Int)),(kg*((ky:Nat):Int))⟩:Bb)) (γ0:=()) rfl rfl (by first|omega|(rw [List.length_map];omega)|(simp only [List.length_set];omega)|(simp;omega)) rfl rfl sz51 (fun _ _=>by exact ⟨zk.2 (by first|omega|decide|(dsimp only;omega)),zk.2 (by first|omega|decide|(dsimp only;omega)),zk.2 (by first|omega|decide|(dsimp only;omega)),zk.2 (by first|omega|decide|(dsimp only;omega)),zk.2 (by first|omega|decide|(dsimp only;omega)),zk.2 (by first|omega|decide|(dsimp only;omega)),zk.2 (by first|omega|decide|(dsimp only;omega)),zk.2 (by first|omega|decide|(dsimp only;omega)),zk.2 (by first|omega|decide|(dsimp only;omega)),zk.2 (by first|omega|decide|(dsimp only;omega)),zk.2 (by first|omega|decide|(dsimp only;omega)),zk.2 (by first|omega|decide|(dsimp only;omega)),zk.2 (by first|omega|decide|(dsimp only;omega))⟩)) (fun _=>(.s .z)) (fun _ _=> ?_)
     refine zj<|zS<|zf<|zc<|r_pv rfl rfl (zz (z:=(((i+1):Nat):Int)) rfl rfl (w64 (by omega)))<|r_pv rfl rfl (zb rfl)<|zj<|zZ ((i+1),(A.set kk (⟨1,((kx:Nat):Int),((ky:Nat):Int),((kx:Nat):Int),((ky:Nat):Int),((kx:Nat):Int),((ky:Nat):Int),(((kx*kx):Nat):Int),(((kx*ky):Nat):Int),(((ky*ky):Nat):Int),kg,(kg*((kx:Nat):Int)),(kg*((ky:Nat):Int))⟩:Bb))) (show (i+1)≤n∧Fl.TbI wn l o (Fl.cnt (Fl.ldr (Fl.ge l th) cc) n) (i+1) (A.set kk (⟨1,((kx:Nat):Int),((ky:Nat):Int),((kx:Nat):Int),((ky:Nat):Int),((kx:Nat):Int),((ky:Nat):Int),(((kx*kx):Nat):Int),(((kx*ky):Nat):Int),(((ky*ky):Nat):Int),kg,(kg*((kx:Nat):Int)),(kg*((ky:Nat):Int))⟩:Bb)) from by exact ⟨by omega,hT.put hkN hkk (by rw [← hnew,hkx,hky,hkg];rfl)⟩) (by show n - (i+1)<n - i;omega) ((.of rfl):SubM _ _) (ho:=((.of [1,1] rfl):PickO _ _ _)) ((.of [2,3] rfl):SelR _ _ _)
    ·
     have hold:=Fl.gb_old (w:=wn) (l:=l) hkk (by rw [← hget];exact hz)
     have hA1:Fl.okb (A.getD kk b0):=by rw [hget];exact (Fl.gb_ok (by rw [← hget];exact hz) hacc).1
     rw [← hget] at hold
     have hbd1:=Bl.ok_bd hA1
     unfold Bl.bd at hbd1
     refine zBa (.c (i:=1) rfl (.c (i:=0) rfl (.c (i:=0) rfl .n)))<|zia (OW:=[rowA 51 (rI13 .i64) (some ⟨b4,0,none⟩) (Fl.cnt (Fl.ldr (Fl.ge l th) cc) n) A]) (O:=[boxA b13 51 [.int .i64 1,.int .i64 ((kx:Nat):Int),.int .i64 ((ky:Nat):Int),.int .i64 ((kx:Nat):Int),.int .i64 ((ky:Nat):Int),.int .i64 ((kx:Nat):Int),.int .i64 ((ky:Nat):Int),.int .i64 (((kx*kx):Nat):Int),.int .i64 (((kx*ky):Nat):Int),.int .i64 (((ky*ky):Nat):Int),.int .i64 kg,.int .i64 (kg*((kx:Nat):Int)),.int .i64 (kg*((ky:Nat):Int))],boxA b1 24 [.int .i64 ((wn:Nat):Int),.int .i64 ((hn9:Nat):Int),.int .i64 m,.slice p n cap]]) 9 mixed (.block (.then (.then (.block (.then .ret))))) (by kernel_rfl)<|d_pv 0 rfl rfl (by kernel_rfl) (by kernel_rfl) rfl rfl (zb rfl)<|d_pv 1 rfl rfl (by kernel_rfl) (by kernel_rfl) rfl rfl (zb rfl)<|d_pv 2 rfl rfl (by kernel_rfl) (by kernel_rfl) rfl rfl (zb rfl)<|d_pv 3 rfl rfl (by kernel_rfl) (by kernel_rfl) rfl rfl (zb rfl)<|d_pv 4 rfl rfl (by kernel_rfl) (by kernel_rfl) rfl rfl (zP (j:=kk) Try.underlying35 sz51 rfl rfl rfl (by omega))<|zvf 5 rfl rfl (by kernel_rfl) (by kernel_rfl) (by kernel_rfl) rfl rfl (zza 0 kk rfl ty51 rfl rfl (gD (d:=b0) (by omega))) (fun _ hok15=> ?_)
     obtain ⟨hok150,hok151,hok152,hok153,hok154,hok155,hok156,hok157,hok158,hok159,hok1510,hok1511,hok1512⟩:=hok15
     replace hok150:=zk.1 hok150
     replace hok151:=zk.1 hok151
     replace hok152:=zk.1 hok152
     replace hok153:=zk.1 hok153
     replace hok154:=zk.1 hok154
     replace hok155:=zk.1 hok155
     replace hok156:=zk.1 hok156
     replace hok157:=zk.1 hok157
     replace hok158:=zk.1 hok158
     replace hok159:=zk.1 hok159
     replace hok1510:=zk.1 hok1510
     replace hok1511:=zk.1 hok1511
     replace hok1512:=zk.1 hok1512
     refine d_uw 6 rfl rfl (by kernel_rfl) (by kernel_rfl) (by kernel_rfl) rfl rfl (zh 1 ty51 rfl rfl (.take (.take (.take (.take (.take (.take (.take (.take (.take (.take (.take (.take (.take .nil))))))))))))))<|zT 7 (by kernel_rfl) (zVa rfl rfl rfl rfl (.c rfl (.c rfl .n)) ce40 (zOb (ar1:=(A.getD kk b0).ar) (le1:=(A.getD kk b0).le) (tp1:=(A.getD kk b0).tp) (rt1:=(A.getD kk b0).rt) (bt1:=(A.getD kk b0).bt) (sx1:=(A.getD kk b0).sx) (sy1:=(A.getD kk b0).sy) (xx1:=(A.getD kk b0).xx) (xy1:=(A.getD kk b0).xy) (yy1:=(A.getD kk b0).yy) (ms1:=(A.getD kk b0).ms) (mx1:=(A.getD kk b0).mx) (my1:=(A.getD kk b0).my) (ar2:=1) (le2:=((kx:Nat):Int)) (tp2:=((ky:Nat):Int)) (rt2:=((kx:Nat):Int)) (bt2:=((ky:Nat):Int)) (sx2:=((kx:Nat):Int)) (sy2:=((ky:Nat):Int)) (xx2:=(((kx*kx):Nat):Int)) (xy2:=(((kx*ky):Nat):Int)) (yy2:=(((ky*ky):Nat):Int)) (ms2:=kg) (mx2:=(kg*((kx:Nat):Int))) (my2:=(kg*((ky:Nat):Int))) (hb1:=by exact Bl.ok_bd hA1) (hb2:=by exact Bl.ok_bd (by rw [hkx,hky,hkg];exact hO1))) (.n) ?_)
     refine d_pv 8 rfl rfl (by kernel_rfl) (by kernel_rfl) rfl rfl (zP (j:=kk) Try.underlying35 sz51 rfl rfl rfl (by omega))<|zT 9 (by kernel_rfl) (zke (A':=fun _=>rowA 51 (rI13 .i64) (some ⟨b4,0,none⟩) (Fl.cnt (Fl.ldr (Fl.ge l th) cc) n) (A.set kk (⟨(((A.getD kk b0).ar)+1),(min ((A.getD kk b0).le) ((kx:Nat):Int)),(min ((A.getD kk b0).tp) ((ky:Nat):Int)),(max ((A.getD kk b0).rt) ((kx:Nat):Int)),(max ((A.getD kk b0).bt) ((ky:Nat):Int)),(((A.getD kk b0).sx)+((kx:Nat):Int)),(((A.getD kk b0).sy)+((ky:Nat):Int)),(((A.getD kk b0).xx)+(((kx*kx):Nat):Int)),(((A.getD kk b0).xy)+(((kx*ky):Nat):Int)),(((A.getD kk b0).yy)+(((ky*ky):Nat):Int)),(((A.getD kk b0).ms)+kg),(((A.getD kk b0).mx)+(kg*((kx:Nat):Int))),(((A.getD kk b0).my)+(kg*((ky:Nat):Int)))⟩:Bb))) (by kernel_rfl) rfl rfl rfl (zN (j:=kk) (x0:=(⟨(((A.getD kk b0).ar)+1),(min ((A.getD kk b0).le) ((kx:Nat):Int)),(min ((A.getD kk b0).tp) ((ky:Nat):Int)),(max ((A.getD kk b0).rt) ((kx:Nat):Int)),(max ((A.getD kk b0).bt) ((ky:Nat):Int)),(((A.getD kk b0).sx)+((kx:Nat):Int)),(((A.getD kk b0).sy)+((ky:Nat):Int)),(((A.getD kk b0).xx)+(((kx*kx):Nat):Int)),(((A.getD kk b0).xy)+(((kx*ky):Nat):Int)),(((A.getD kk b0).yy)+(((ky*ky):Nat):Int)),(((A.getD kk b0).ms)+kg),(((A.getD kk b0).mx)+(kg*((kx:Nat):Int))),(((A.getD kk b0).my)+(kg*((ky:Nat):Int)))⟩:Bb)) (γ0:=()) rfl rfl (by first|omega|(rw [List.length_map];omega)|(simp only [List.length_set];omega)|(simp;omega)) rfl rfl sz51 (fun _ _=>by exact ⟨zk.2 (by first|omega|decide|(dsimp only;omega)),zk.2 (by first|omega|decide|(dsimp only;omega)),zk.2 (by first|omega|decide|(dsimp only;omega)),zk.2 (by first|omega|decide|(dsimp only;omega)),zk.2 (by first|omega|decide|(dsimp only;omega)),zk.2 (by first|omega|decide|(dsimp only;omega)),zk.2 (by first|omega|decide|(dsimp only;omega)),zk.2 (by first|omega|decide|(dsimp only;omega)),zk.2 (by first|omega|decide|(dsimp only;omega)),zk.2 (by first|omega|decide|(dsimp only;omega)),zk.2 (by first|omega|decide|(dsimp only;omega)),zk.2 (by first|omega|decide|(dsimp only;omega)),zk.2 (by first|omega|decide|(dsimp only;omega))⟩)) (fun _ _=> ?_))
     refine zfa (by kernel_rfl)<|zS<|zf<|zc<|r_pv rfl rfl (zz (z:=(((i+1):Nat):Int)) rfl rfl (w64 (by omega)))<|r_pv rfl rfl (zb rfl)<|zj<|zZ ((i+1),(A.set kk (⟨(((A.getD kk b0).ar)+1),(min ((A.getD kk b0).le) ((kx:Nat):Int)),(min ((A.getD kk b0).tp) ((ky:Nat):Int)),(max ((A.getD kk b0).rt) ((kx:Nat):Int)),(max ((A.getD kk b0).bt) ((ky:Nat):Int)),(((A.getD kk b0).sx)+((kx:Nat):Int)),(((A.getD kk b0).sy)+((ky:Nat):Int)),(((A.getD kk b0).xx)+(((kx*kx):Nat):Int)),(((A.getD kk b0).xy)+(((kx*ky):Nat):Int)),(((A.getD kk b0).yy)+(((ky*ky):Nat):Int)),(((A.getD kk b0).ms)+kg),(((A.getD kk b0).mx)+(kg*((kx:Nat):Int))),(((A.getD kk b0).my)+(kg*((ky:Nat):Int)))⟩:Bb))) (show (i+1)≤n∧Fl.TbI wn l o (Fl.cnt (Fl.ldr (Fl.ge l th) cc) n) (i+1) (A.set kk (⟨(((A.getD kk b0).ar)+1),(min ((A.getD kk b0).le) ((kx:Nat):Int)),(min ((A.getD kk b0).tp) ((ky:Nat):Int)),(max ((A.getD kk b0).rt) ((kx:Nat):Int)),(max ((A.getD kk b0).bt) ((ky:Nat):Int)),(((A.getD kk b0).sx)+((kx:Nat):Int)),(((A.getD kk b0).sy)+((ky:Nat):Int)),(((A.getD kk b0).xx)+(((kx*kx):Nat):Int)),(((A.getD kk b0).xy)+(((kx*ky):Nat):Int)),(((A.getD kk b0).yy)+(((ky*ky):Nat):Int)),(((A.getD kk b0).ms)+kg),(((A.getD kk b0).mx)+(kg*((kx:Nat):Int))),(((A.getD kk b0).my)+(kg*((ky:Nat):Int)))⟩:Bb)) from by exact ⟨by omega,hT.put hkN hkk (by rw [← hold,hkx,hky,hkg];rfl)⟩) (by show n - (i+1)<n - i;omega) ((.of rfl):SubM _ _) (ho:=((.of [0,1] rfl):PickO _ _ _)) ((.of [2,3] rfl):SelR _ _ _)
  ·
   refine zha<|zm<|zm<|zv<|zf<|zi<|zc<|r_pv rfl rfl (zb rfl)<|r_pv rfl rfl (zd rfl)<|r_pv rfl rfl (zd rfl)<|zj<|zf<|zI ?_
   have hin8:i=n:=by omega
   rw [hin8] at hT
   refine zTa 0 rfl .z ?_
   exact zta Try.results17 (some ⟨b4,0,none⟩,(Fl.cnt (Fl.ldr (Fl.ge l th) cc) n),A) (Fl.BlsR.yes hok hn hcl.1 hLC hT.fin) (zq rfl) (zq rfl) (by rw [Decidable.not_not.1 hc,hAl]) (ho:=(.n:PickO _ _ _)) ((.c (j:=0) rfl .n):SelR _ _ _)
end Go.Proofs.Ytefbbhiaalcjfaa.Sp
namespace Go.Proofs.Ytefbbhiaalcjfaa.Fl
open Sp (Bb b0)
instance (e:Bool) (w n j k:Nat):Decidable (nb e w n j k):=by unfold nb;infer_instance
theorem Lst.cert {n:Nat} {f:Nat→Bool} {adj:Nat→Nat→Prop} (c p:Nat→Nat) (hf:∀i,f i=true→i<n)
    (h1:∀i,i<n→f i=true→c i≤i∧(c i=i∨(f (p i)=true∧adj i (p i)∧p i<i∧c (p i)=c i)))
    (h2:∀i,i<n→∀k,k<n→f i=true→f k=true→adj i k→c i=c k):Lst (fun j=>f j=true) adj c:=by
  refine ⟨fun i hi=>(h1 i (hf i hi) hi).1,fun i=> ?_,fun i k hi hk ha=>h2 i (hf i hi) k (hf k hk) hi hk ha⟩
  induction i using Nat.strongRecOn with
  |ind i ih=>
    intro hi
    rcases (h1 i (hf i hi) hi).2 with e|⟨a,b,d,e⟩
    · rw [e];exact .refl i
    · rw [← e];exact .step hi a b (ih (p i) d a)
def pixK:List Int:=[9,9,0,0,0,9,0,5,0,0,0,5]
def labK:List Int:=[0,0,-1,-1,-1,0,-1,1,-1,-1,-1,1]
def cK (i:Nat):Nat:=([0,0,2,3,4,0,6,7,8,9,10,7]:List Nat).getD i 0
def pK (i:Nat):Nat:=([0,0,2,3,4,1,6,7,8,9,10,7]:List Nat).getD i 0
theorem lstK:Lst (fun j=>ge pixK 5 j=true) (nb false 4 12) cK:=
  Lst.cert (n:=12) (f:=ge pixK 5) cK pK (fun i hi=>ge_lt (l:=pixK) hi) (by decide +kernel) (by decide +kernel)
theorem labcK:LabC 12 (ge pixK 5) cK labK:=⟨rfl,by decide +kernel,by decide +kernel⟩
theorem labrK:LabR 4 3 9 pixK 5 labK:=LabR.yes (w:=4) (n:=12) (by decide +kernel) rfl (labcK.lab lstK)
def blK:List Bb:=[⟨3,0,0,1,1,2,1,2,1,1,27,18,9⟩,⟨2,3,1,3,2,6,3,18,9,5,10,30,15⟩]
theorem blsK:BlsR 4 3 9 pixK 5 blK:=BlsR.yes (w:=4) (n:=12) (by decide +kernel) rfl lstK labcK (by decide +kernel)
def pixH:List Int:=[1,1,1,1,0,1,1,1,1]
theorem holK:HolR 3 3 1 pixH 1 1:=
  HolR.yes (w:=3) (h:=3) (n:=9) (c:=id) (by decide +kernel) rfl
    (Lst.cert (n:=9) (f:=lo pixH 1) id id (fun i hi=>lo_lt (l:=pixH) hi) (by decide +kernel) (by decide +kernel)) (by decide +kernel)
end Go.Proofs.Ytefbbhiaalcjfaa.Fl
