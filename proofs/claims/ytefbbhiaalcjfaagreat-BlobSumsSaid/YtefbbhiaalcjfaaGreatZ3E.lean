/- Lemmas on the walk and plain lemmas that the claim of this folder uses; each states its own conditions. Lines were printed by a program of ours. -/
import Derived.Test.YtefbbhiaalcjfaaGreatZ3D
set_option linter.unusedVariables false
set_option linter.unusedSimpArgs false
set_option linter.unusedSectionVars false
namespace Go.Proofs.YtefbbhiaalcjfaaGreat.Sp
open Go
set_option linter.unusedVariables false
set_option maxRecDepth 100000
set_option maxHeartbeats 1000000
theorem zCc {z:Int} (hz: -9223372036854775808≤z∧z≤9223372036854775807):Con Tryz.prog 53 [.int .i64 z] [] [] (Y:=(Option Addr)×Nat) (fun y=>True) (fun y=> .agg #[.bool (decide (z<0)),.slice (y.1) ((Big.digs ((z).natAbs)).length) (y.2)]) (fun y=>[]) (fun y=>[slF (rI .u32) (y.1) (y.2) (Big.digs ((z).natAbs))]):=by
 refine zp Tryz.func53 rfl rfl rfl (fun c=> ?_)
 show RunC _ _ _ _ _ [(0,.int .i64 z)] [] []
 refine zh<|zc<|zS rfl rfl (zI zr40 rfl) (fun b1=> ?_)
 refine zj<|ze<|zh<|zc<|r_pv rfl rfl (zb rfl)<|zC rfl rfl (.c rfl .n) ce79 (zMe (z:=z) (hz:=by assumption)) (.n) ?_
 rintro ⟨p22,c23⟩ -
 dsimp only [List.append_eq,List.nil_append,List.cons_append]
 refine zr 0 rfl rfl rfl rfl rfl sz40 rfl (.take (.take .nil)) .z<|zj<|ze<|zG ?_
 exact zB Tryz.results53 (p22,c23) trivial (zv 0 ty40 rfl rfl (.take (.take .nil))) rfl (ho:=(.n:PickO _ _ _)) ((.c (j:=0) rfl .n):SelR _ _ _)
theorem zkb {z:Int} (hz: -9223372036854775808≤z∧z≤9223372036854775807):Con Tryz.prog 53 [.int .i64 (z)] [] [] (Y:=(Wd)) (fun y=>True) (fun y=> .agg #[y.b,y.l]) (fun y=>[]) (fun y=>[zF y (z)]):=by
  exact zUb (zCc hz)
theorem zge {z:Int} (hz: -9223372036854775808≤z∧z≤9223372036854775807):Con Tryz.prog 75 [.int .i64 z] [] [] (Y:=Wd×Wd) (fun y=>True) (fun y=> .agg #[y.1.b,y.1.l,y.2.b,y.2.l]) (fun y=>[]) (fun y=>[qF true y.1 y.2 (z:Rat)]):=by
 refine zp Tryz.func75 rfl rfl rfl (fun c=> ?_)
 show RunC _ _ _ _ _ [(0,.int .i64 z)] [] []
 refine zh<|zc<|zS rfl rfl (zI zr42 rfl) (fun b1=> ?_)
 refine zj<|ze<|zh<|zc<|r_pv rfl rfl (zb rfl)<|zC rfl rfl (.c rfl .n) ce53 (zkb (z:=z) (hz:=by assumption)) (.n) ?_
 rintro w32 -
 dsimp only [List.append_eq,List.nil_append,List.cons_append]
 refine zC rfl rfl (.c rfl .n) ce53 (zkb (z:=1) (hz:=by first|rfl|assumption|omega|(rw [Big.zba];omega)|(decide +kernel))) (.n) ?_
 rintro w33 -
 dsimp only [List.append_eq,List.nil_append,List.cons_append]
 refine r_pv rfl rfl (zK zr42 rfl Tryz.underlying42 (.c sz40 (.c sz40 .n)) (.c rfl (.c rfl .n)) (.c rfl rfl rfl (.take (.take .nil)) (.c rfl rfl rfl (.skip (.skip (.take (.take .nil)))) .n)))<|zr 0 rfl rfl rfl rfl rfl sz42 rfl (.take (.take (.take (.take .nil)))) .z<|zj<|ze<|zG<|zmb (qF true w32 w33 (z:Rat)) (qF_close 1 0 rfl rfl (by exact ⟨(Rat.num_intCast z).symm,by rw [Rat.den_intCast];rfl,Nat.le_trans (Big.hq_64 hz.1 hz.2) (by decide)⟩)) ?_
 exact zB Tryz.results75 (w32,w33) trivial (zv 0 ty42 rfl rfl (.take (.take (.take (.take .nil))))) rfl (ho:=(.n:PickO _ _ _)) ((.c (j:=0) rfl .n):SelR _ _ _)
theorem zmc {s:Bool} {p1:Option Addr} {n1:Nat} {c1:Nat} {l1:List Int} {t:Bool} {p2:Option Addr} {n2:Nat} {c2:Nat} {l2:List Int} (hn1:l1.length=n1) (hn2:l2.length=n2) (hm1:n1≤1048576) (hm2:n2≤1048576):Con Tryz.prog 62 [.agg #[.bool s,.slice p1 n1 c1,.bool t,.slice p2 n2 c2]] [] [slF (rI .u32) p1 c1 l1,slF (rI .u32) p2 c2 l2] (Y:=Unit) (fun y=>True) (fun y=> .bool (decide (Big.qok ((s,l1),(t,l2))))) (fun y=>[]) (fun y=>[]):=by
 refine zp Tryz.func62 rfl rfl rfl (fun c=> ?_)
 show RunC _ _ _ _ _ [(0,.agg #[.bool s,.slice p1 n1 c1,.bool t,.slice p2 n2 c2])] [] [slF (rI .u32) p1 c1 l1,slF (rI .u32) p2 c2 l2]
 refine zea 0 rfl (fun hL0=> ?_)
 refine zbb 0 rfl (fun hE0=> ?_)
 refine zea 1 rfl (fun hL1=> ?_)
 refine zbb 1 rfl (fun hE1=> ?_)
 have hnn1:Big.nn l1:=fun g hg=>(zw.1 (hE0 g hg)).1
 have hnn2:Big.nn l2:=fun g hg=>(zw.1 (hE1 g hg)).1
 have hb1:Big.ln (Big.raw s l1)≤n1:=by have:=Big.zab (s:=s) hnn1;omega
 have hb2:Big.ln (Big.raw t l2)≤n2:=by have:=Big.zab (s:=t) hnn2;omega
 refine zh<|zc<|zS rfl rfl (zX rfl rfl) (fun b1=> ?_)
 refine r_pv rfl rfl (zd rfl)<|zj<|ze<|zh<|zRa (X:=Unit) (fun x=>True) (fun x=>[(18,.bool (decide (¬(Big.canon s l1∧Big.canon t l2∧0<Big.raw t l2)))),(2,.bool false),(1,.pointer (some ⟨b1,0,none⟩))]) (fun x=>[boxA b1 42 [.bool s,.slice p1 n1 c1,.bool t,.slice p2 n2 c2]]) (fun x=>[slF (rI .u32) p1 c1 l1,slF (rI .u32) p2 c2 l2]) ?_ ?_
 ·
  refine zc<|r_pv rfl rfl (zg Tryz.underlying42 rfl sz40 rfl rfl)<|r_u rfl rfl (zi 0 ty40 rfl rfl (.take (.take .nil)))<|zQ rfl rfl (.c rfl .n) ce85 (zNb (s:=s) (p:=p1) (n:=n1) (cap:=c1) (l:=l1) (hn:=by assumption)) (.c (j:=0) rfl .n)<|r_pv rfl rfl (zgb rfl)<|zT rfl rfl (zb rfl) (fun h2=> ?_) (fun h2=> ?_)
  ·
   refine za rfl rfl<|za rfl rfl<|za rfl rfl<|za rfl rfl<|r_pv rfl rfl (zl rfl rfl)<|r_pv rfl rfl (zb rfl)<|za rfl rfl<|za rfl rfl<|za rfl rfl<|za rfl rfl<|r_pv rfl rfl (zl rfl rfl)<|zj ?_
   exact zga () (show True from by first|trivial|omega|simp_all) ((.e rfl (congrArg Value.bool (by simp_all)) (.c rfl (.c rfl .n))):SubM _ _) (ho:=((.c (i:=0) rfl .n):PickO _ _ _)) ((.of [0,1] rfl):SelR _ _ _)
  ·
   refine r_pv rfl rfl (zg Tryz.underlying42 rfl sz40 rfl rfl)<|r_u rfl rfl (zi 0 ty40 rfl rfl (.skip (.skip (.take (.take .nil)))))<|zQ rfl rfl (.c rfl .n) ce85 (zNb (s:=t) (p:=p2) (n:=n2) (cap:=c2) (l:=l2) (hn:=by assumption)) (.c (j:=1) rfl .n)<|r_pv rfl rfl (zgb rfl)<|r_pv rfl rfl (zl rfl rfl)<|zT rfl rfl (zb rfl) (fun h3=> ?_) (fun h3=> ?_)
   ·
    refine za rfl rfl<|za rfl rfl<|za rfl rfl<|za rfl rfl<|r_pv rfl rfl (zl rfl rfl)<|zj ?_
    exact zga () (show True from by first|trivial|omega|simp_all) ((.e rfl (congrArg Value.bool (by simp_all)) (.c rfl (.c rfl .n))):SubM _ _) (ho:=((.c (i:=0) rfl .n):PickO _ _ _)) ((.of [0,1] rfl):SelR _ _ _)
   ·
    refine r_pv rfl rfl (zg Tryz.underlying42 rfl sz40 rfl rfl)<|r_u rfl rfl (zi 0 ty40 rfl rfl (.skip (.skip (.take (.take .nil)))))<|zQ rfl rfl (.c rfl .n) ce78 (zbd (s:=t) (p:=p2) (n:=n2) (cap:=c2) (l:=l2) (hn:=by assumption) (hln:=by first|rfl|assumption|omega|(rw [Big.zba];omega)|(decide +kernel))) (.c (j:=1) rfl .n)<|r_pv rfl rfl (zob rfl rfl)<|r_pv rfl rfl (zl rfl rfl)<|zj ?_
    exact zga () (show True from by first|trivial|omega|simp_all) ((.e rfl (congrArg Value.bool (by exact decide_eq_decide.2 (Big.sgn_le (Decidable.not_not.1 ‹_›) (Decidable.not_not.1 ‹_›)))) (.c rfl (.c rfl .n))):SubM _ _) (ho:=((.c (i:=0) rfl .n):PickO _ _ _)) ((.of [0,1] rfl):SelR _ _ _)
 ·
  rintro ⟨⟩ -
  try dsimp only
  refine zD rfl (fun hc=> ?_) (fun hc=> ?_)
  ·
   refine zh<|zc<|r_pv rfl rfl (zd rfl)<|zj<|ze<|zG<|zq ?_
   exact zB Tryz.results62 () trivial (zo rfl) (congrArg Value.bool (decide_eq_false (fun h=>hc ⟨h.1,h.2.1,h.2.2.1⟩))) (ho:=(.n:PickO _ _ _)) (.n:SelR _ _ _)
  ·
   have hcc:=Decidable.not_not.1 hc
   have hgl:=Big.zWc (n:=Big.raw s l1) (d:=Big.raw t l2) (by omega)
   refine zy<|ze<|zh<|zc<|r_pv rfl rfl (zg Tryz.underlying42 rfl sz40 rfl rfl)<|r_u rfl rfl (zi 0 ty40 rfl rfl (.take (.take .nil)))<|r_pv rfl rfl (zg Tryz.underlying42 rfl sz40 rfl rfl)<|r_u rfl rfl (zi 0 ty40 rfl rfl (.skip (.skip (.take (.take .nil)))))<|zC rfl rfl (.c rfl (.c rfl .n)) ce87 (zQd (s:=s) (p1:=p1) (n1:=n1) (c1:=c1) (l1:=l1) (t:=t) (p2:=p2) (n2:=n2) (c2:=c2) (l2:=l2) (hn1:=by assumption) (hn2:=by assumption) (hm1:=by first|rfl|assumption|omega|(rw [Big.zba];omega)|(decide +kernel)) (hm2:=by first|rfl|assumption|omega|(rw [Big.zba];omega)|(decide +kernel))) (.c (j:=0) rfl (.c (j:=1) rfl .n)) ?_
   rintro ⟨p34,c35⟩ -
   dsimp only [List.append_eq,List.nil_append,List.cons_append]
   refine zC rfl rfl (.c rfl .n) ce53 (zCc (z:=1) (hz:=by first|rfl|assumption|omega|(rw [Big.zba];omega)|(decide +kernel))) (.n) ?_
   rintro ⟨p26,c27⟩ -
   dsimp only [List.append_eq,List.nil_append,List.cons_append]
   refine zQ rfl rfl (.c rfl (.c rfl .n)) ce86 (zJc (x1:=((Nat.gcd (Big.raw s l1).natAbs (Big.raw t l2).natAbs:Nat):Int)) (x2:=1) (p1:=p34) (c1:=c35) (p2:=p26) (c2:=c27) (hb1:=by first|rfl|assumption|omega|(rw [Big.zba];omega)|(decide +kernel)) (hb2:=by first|rfl|assumption|omega|(rw [Big.zba];omega)|(decide +kernel))) (.c (j:=1) rfl (.c (j:=0) rfl .n))<|r_pv rfl rfl (zCa rfl rfl)<|r_pv rfl rfl (zd rfl)<|zj<|ze<|zG ?_
   exact zB Tryz.results62 () trivial (zo rfl) (congrArg Value.bool (decide_eq_decide.2 (Big.qok_sub (x:=((s,l1),(t,l2))) (Decidable.not_not.1 hc)).symm)) (ho:=(.n:PickO _ _ _)) (.n:SelR _ _ _)
theorem zWb {u1:Wd} {v1:Wd} {q1:Rat}:Con Tryz.prog 62 [.agg #[u1.b,u1.l,v1.b,v1.l]] [] [qF true u1 v1 (q1)] (Y:=Unit) (fun y=>True) (fun y=> .bool true) (fun y=>[]) (fun y=>[]):=by
  exact zxf (fun x hx hk h1 h2=>by have h:= @zmc x.1.1 u1.p _ u1.c x.1.2 x.2.1 v1.p _ v1.c x.2.2 rfl rfl h1 h2;rw [decide_eq_true (hk rfl)] at h;exact h)
theorem zCd {s:Bool} {p1:Option Addr} {n1:Nat} {c1:Nat} {l1:List Int} {t:Bool} {p2:Option Addr} {n2:Nat} {c2:Nat} {l2:List Int} (hn1:l1.length=n1) (hn2:l2.length=n2) (hm1:n1≤1048576) (hm2:n2≤1048576):Con Tryz.prog 70 [.agg #[.bool s,.slice p1 n1 c1,.bool t,.slice p2 n2 c2]] [] [slF (rI .u32) p1 c1 l1,slF (rI .u32) p2 c2 l2] (Y:=Wd×Wd) (fun y=>True) (fun y=> .agg #[y.1.b,y.1.l,y.2.b,y.2.l]) (fun y=>[]) (fun y=>[qF true y.1 y.2 (Big.qv ((s,l1),(t,l2)))]):=by
 refine zp Tryz.func70 rfl rfl rfl (fun c=> ?_)
 show RunC _ _ _ _ _ [(0,.agg #[.bool s,.slice p1 n1 c1,.bool t,.slice p2 n2 c2])] [] [slF (rI .u32) p1 c1 l1,slF (rI .u32) p2 c2 l2]
 refine zea 0 rfl (fun hL0=> ?_)
 refine zbb 0 rfl (fun hE0=> ?_)
 refine zea 1 rfl (fun hL1=> ?_)
 refine zbb 1 rfl (fun hE1=> ?_)
 have hnn1:Big.nn l1:=fun g hg=>(zw.1 (hE0 g hg)).1
 have hnn2:Big.nn l2:=fun g hg=>(zw.1 (hE1 g hg)).1
 have hb1:Big.ln (Big.raw s l1)≤n1:=by have:=Big.zab (s:=s) hnn1;omega
 have hb2:Big.ln (Big.raw t l2)≤n2:=by have:=Big.zab (s:=t) hnn2;omega
 refine zh<|zc<|zS rfl rfl (zX rfl rfl) (fun b1=> ?_)
 refine zS rfl rfl (zI zr42 rfl) (fun b2=> ?_)
 refine zj<|ze<|zh<|zh<|zc<|r_u rfl rfl (zi 1 ty42 rfl rfl (.take (.take (.take (.take .nil)))))<|zQ rfl rfl (.c rfl .n) ce62 (zmc (s:=s) (p1:=p1) (n1:=n1) (c1:=c1) (l1:=l1) (t:=t) (p2:=p2) (n2:=n2) (c2:=c2) (l2:=l2) (hn1:=by assumption) (hn2:=by assumption) (hm1:=by assumption) (hm2:=by assumption)) (.c (j:=0) rfl (.c (j:=1) rfl .n))<|zj<|ze<|zD rfl (fun hq=> ?_) (fun hq=> ?_)
 ·
  have hrp:=Big.raw_parts (x:=((s,l1),(t,l2))) hnn1 hnn2 hq
  have hqp:=Big.qv_parts (x:=((s,l1),(t,l2))) hq
  have hl:Big.hq (Big.qv ((s,l1),(t,l2)))≤1048576:=by unfold Big.hq;rw [hqp.1,hqp.2];dsimp only;omega
  refine zh<|zc<|r_u rfl rfl (zi 1 ty42 rfl rfl (.take (.take (.take (.take .nil)))))<|zr 0 rfl rfl rfl rfl rfl sz42 rfl (.take (.take (.take (.take .nil)))) .z<|zj<|ze<|zG<|zq<|zmb (qF true ⟨s,p1,n1,c1⟩ ⟨t,p2,n2,c2⟩ (Big.qv ((s,l1),(t,l2)))) (fun g r=>qF_rawI 0 1 rfl rfl hn1 hn2 hm1 hm2 hq g r) ?_
  exact zB Tryz.results70 (⟨s,p1,n1,c1⟩,⟨t,p2,n2,c2⟩) trivial (zv 0 ty42 rfl rfl (.take (.take (.take (.take .nil))))) rfl (ho:=(.n:PickO _ _ _)) ((.c (j:=0) rfl .n):SelR _ _ _)
 ·
  have hz:=Big.qv_not (x:=((s,l1),(t,l2))) hq
  refine zy<|ze<|zh<|zc<|zC rfl rfl (.c rfl .n) ce75 (zge (z:=0) (hz:=by first|rfl|assumption|omega|(rw [Big.zba];omega)|(decide +kernel))) (.n) ?_
  rintro ⟨w33,w44⟩ -
  dsimp only [List.append_eq,List.nil_append,List.cons_append]
  refine zr 0 rfl rfl rfl rfl rfl sz42 rfl (.take (.take (.take (.take .nil)))) .z<|zj<|ze<|zG ?_
  exact zB Tryz.results70 (w33,w44) trivial (zv 0 ty42 rfl rfl (.take (.take (.take (.take .nil))))) rfl (ho:=(.n:PickO _ _ _)) ((.e (j:=0) rfl (by rw [hz];rfl) .n):SelR _ _ _)
theorem zdb {k1:Bool} {u1:Wd} {v1:Wd} {q1:Rat}:Con Tryz.prog 70 [.agg #[u1.b,u1.l,v1.b,v1.l]] [] [qF k1 u1 v1 (q1)] (Y:=(Wd)×(Wd)) (fun y=>True) (fun y=> .agg #[y.1.b,y.1.l,y.2.b,y.2.l]) (fun y=>[]) (fun y=>[qF true y.1 y.2 (q1)]):=by
  exact zFf (fun x hx hk h1 h2 hl=>by subst hx;exact zCd rfl rfl h1 h2)
theorem zXb {w1:Wd} {w2:Wd} {x1:Int} {x2:Int} (hl1:Big.ln x1≤1048576) (hl2:Big.ln x2≤1048576) (hd:x2≠0):Con Tryz.prog 71 [.agg #[w1.b,w1.l],.agg #[w2.b,w2.l]] [] [zF w1 x1,zF w2 x2] (Y:=Wd×Wd) (fun y=>True) (fun y=> .agg #[y.1.b,y.1.l,y.2.b,y.2.l]) (fun y=>[]) (fun y=>[qF true y.1 y.2 (Rat.divInt x1 x2)]):=by
 refine zp Tryz.func71 rfl rfl rfl (fun c=> ?_)
 show RunC _ _ _ _ _ [(0,.agg #[w1.b,w1.l]),(1,.agg #[w2.b,w2.l])] [] [zF w1 x1,zF w2 x2]
 refine zh<|zc<|zS rfl rfl (zX rfl rfl) (fun b1=> ?_)
 refine zS rfl rfl (zX rfl rfl) (fun b2=> ?_)
 refine zS rfl rfl (zI zr42 rfl) (fun b3=> ?_)
 refine zj<|ze<|zh<|zc<|r_u rfl rfl (zi 2 ty40 rfl rfl (.take (.take .nil)))<|r_u rfl rfl (zi 1 ty40 rfl rfl (.take (.take .nil)))<|zC rfl rfl (.c rfl (.c rfl .n)) ce87 (zSe (w1:=w1) (w2:=w2) (x1:=x1) (x2:=x2) (hb1:=by first|rfl|assumption|omega|(rw [Big.zba];omega)|(decide +kernel)) (hb2:=by first|rfl|assumption|omega|(rw [Big.zba];omega)|(decide +kernel))) (.c (j:=0) rfl (.c (j:=1) rfl .n)) ?_
 rintro w34 -
 dsimp only [List.append_eq,List.nil_append,List.cons_append]
 refine zS rfl rfl (zI zr40 rfl) (fun b5=> ?_)
 refine zr 0 rfl rfl rfl rfl rfl sz40 rfl (.take (.take .nil)) .z<|zj<|ze<|zh<|zh<|zc<|r_u rfl rfl (zi 2 ty40 rfl rfl (.take (.take .nil)))<|zQ rfl rfl (.c rfl .n) ce78 (zOb (w1:=w2) (x1:=x2) (hln:=by first|rfl|assumption|omega|(rw [Big.zba];omega)|(decide +kernel))) (.c (j:=2) rfl .n)<|r_pv rfl rfl (zY rfl rfl)<|zj<|ze<|zD rfl (fun hneg=> ?_) (fun hneg=> ?_)
 ·
  have hs:x2<0:=by rcases Big.sign_le (x:=x2) with h|h|h <;> omega
  have hgp:=Big.gcd_pos_right (n:=x1) (d:=x2) (by omega)
  have hgl:=Big.zWc (n:=x1) (d:=x2) (by omega)
  obtain ⟨hr1,hr2⟩:=Big.red_neg (n:=x1) hs
  refine zc<|r_u rfl rfl (zi 0 ty40 rfl rfl (.take (.take .nil)))<|zC rfl rfl (.c rfl .n) ce74 (zad (w1:=w34) (x1:=((Nat.gcd x1.natAbs x2.natAbs:Nat):Int)) (hln:=by first|rfl|assumption|omega|(rw [Big.zba];omega)|(decide +kernel))) (.c (j:=0) rfl .n) ?_
  rintro w36 -
  dsimp only [List.append_eq,List.nil_append,List.cons_append]
  refine zr 0 rfl rfl rfl rfl rfl sz40 rfl (.take (.take .nil)) .z<|zj<|ze<|zh<|zc<|r_u rfl rfl (zi 3 ty40 rfl rfl (.take (.take .nil)))<|r_u rfl rfl (zi 0 ty40 rfl rfl (.take (.take .nil)))<|zC rfl rfl (.c rfl (.c rfl .n)) ce101 (zcb (w1:=w1) (w2:=w36) (x1:=x1) (x2:= - ((Nat.gcd x1.natAbs x2.natAbs:Nat):Int)) (hb1:=by first|rfl|assumption|omega|(rw [Big.zba];omega)|(decide +kernel)) (hb2:=by first|rfl|assumption|omega|(rw [Big.zba];omega)|(decide +kernel)) (hy:=by first|rfl|assumption|omega|(rw [Big.zba];omega)|(decide +kernel))) (.c (j:=2) rfl (.c (j:=0) rfl .n)) ?_
  rintro ⟨w37,w48⟩ -
  dsimp only [List.append_eq,List.nil_append,List.cons_append]
  refine r_pv rfl rfl (zb rfl)<|r_pv rfl rfl (zt rfl rfl)<|r_pv rfl rfl (zt rfl rfl)<|r_pv rfl rfl (zt rfl rfl)<|zS rfl rfl (zI zr40 rfl) (fun b9=> ?_)
  refine zS rfl rfl (zI zr40 rfl) (fun b10=> ?_)
  refine zr 1 rfl rfl rfl rfl rfl sz40 rfl (.take (.take .nil)) (.s .z)<|zr 0 rfl rfl rfl rfl rfl sz40 rfl (.take (.take .nil)) .z<|r_pv rfl rfl (zd rfl)<|zj<|ze<|zh<|zc<|r_u rfl rfl (zi 4 ty40 rfl rfl (.take (.take .nil)))<|r_u rfl rfl (zi 2 ty40 rfl rfl (.take (.take .nil)))<|zC rfl rfl (.c rfl (.c rfl .n)) ce101 (zcb (w1:=w2) (w2:=w36) (x1:=x2) (x2:= - ((Nat.gcd x1.natAbs x2.natAbs:Nat):Int)) (hb1:=by first|rfl|assumption|omega|(rw [Big.zba];omega)|(decide +kernel)) (hb2:=by first|rfl|assumption|omega|(rw [Big.zba];omega)|(decide +kernel)) (hy:=by first|rfl|assumption|omega|(rw [Big.zba];omega)|(decide +kernel))) (.c (j:=5) rfl (.c (j:=2) rfl .n)) ?_
  rintro ⟨w311,w412⟩ -
  dsimp only [List.append_eq,List.nil_append,List.cons_append]
  refine r_pv rfl rfl (zb rfl)<|r_pv rfl rfl (zt rfl rfl)<|r_pv rfl rfl (zt rfl rfl)<|r_pv rfl rfl (zt rfl rfl)<|zS rfl rfl (zI zr40 rfl) (fun b13=> ?_)
  refine zS rfl rfl (zI zr40 rfl) (fun b14=> ?_)
  refine zr 1 rfl rfl rfl rfl rfl sz40 rfl (.take (.take .nil)) (.s .z)<|zr 0 rfl rfl rfl rfl rfl sz40 rfl (.take (.take .nil)) .z<|r_pv rfl rfl (zd rfl)<|zj<|ze<|zh<|zc<|r_u rfl rfl (zi 3 ty40 rfl rfl (.take (.take .nil)))<|r_u rfl rfl (zi 1 ty40 rfl rfl (.take (.take .nil)))<|r_pv rfl rfl (zK zr42 rfl Tryz.underlying42 (.c sz40 (.c sz40 .n)) (.c rfl (.c rfl .n)) (.c rfl rfl rfl (.take (.take .nil)) (.c rfl rfl rfl (.skip (.skip (.take (.take .nil)))) .n)))<|zr 5 rfl rfl rfl rfl rfl sz42 rfl (.take (.take (.take (.take .nil)))) (.s (.s (.s (.s (.s .z)))))<|zj<|ze<|zG<|zmb (qF true w37 w311 (Rat.divInt x1 x2)) (qF_close 2 0 rfl rfl (by exact ⟨hr1,hr2,Nat.le_trans (Big.hq_divInt hd) (by omega)⟩)) ?_
  exact zB Tryz.results71 (w37,w311) trivial (zv 5 ty42 rfl rfl (.take (.take (.take (.take .nil))))) rfl (ho:=(.n:PickO _ _ _)) ((.c (j:=0) rfl .n):SelR _ _ _)
 ·
  have hs:0<x2:=by rcases Big.sign_le (x:=x2) with h|h|h <;> omega
  have hgp:=Big.gcd_pos_right (n:=x1) (d:=x2) (by omega)
  have hgl:=Big.zWc (n:=x1) (d:=x2) (by omega)
  obtain ⟨hr1,hr2⟩:=Big.red_pos (n:=x1) hs
  refine zy<|ze<|zh<|zc<|r_u rfl rfl (zi 3 ty40 rfl rfl (.take (.take .nil)))<|r_u rfl rfl (zi 0 ty40 rfl rfl (.take (.take .nil)))<|zC rfl rfl (.c rfl (.c rfl .n)) ce101 (zcb (w1:=w1) (w2:=w34) (x1:=x1) (x2:=((Nat.gcd x1.natAbs x2.natAbs:Nat):Int)) (hb1:=by first|rfl|assumption|omega|(rw [Big.zba];omega)|(decide +kernel)) (hb2:=by first|rfl|assumption|omega|(rw [Big.zba];omega)|(decide +kernel)) (hy:=by first|rfl|assumption|omega|(rw [Big.zba];omega)|(decide +kernel))) (.c (j:=1) rfl (.c (j:=0) rfl .n)) ?_
  rintro ⟨w315,w416⟩ -
  dsimp only [List.append_eq,List.nil_append,List.cons_append]
  refine r_pv rfl rfl (zb rfl)<|r_pv rfl rfl (zt rfl rfl)<|r_pv rfl rfl (zt rfl rfl)<|r_pv rfl rfl (zt rfl rfl)<|zS rfl rfl (zI zr40 rfl) (fun b17=> ?_)
  refine zS rfl rfl (zI zr40 rfl) (fun b18=> ?_)
  refine zr 1 rfl rfl rfl rfl rfl sz40 rfl (.take (.take .nil)) (.s .z)<|zr 0 rfl rfl rfl rfl rfl sz40 rfl (.take (.take .nil)) .z<|r_pv rfl rfl (zd rfl)<|zj<|ze<|zh<|zc<|r_u rfl rfl (zi 4 ty40 rfl rfl (.take (.take .nil)))<|r_u rfl rfl (zi 2 ty40 rfl rfl (.take (.take .nil)))<|zC rfl rfl (.c rfl (.c rfl .n)) ce101 (zcb (w1:=w2) (w2:=w34) (x1:=x2) (x2:=((Nat.gcd x1.natAbs x2.natAbs:Nat):Int)) (hb1:=by first|rfl|assumption|omega|(rw [Big.zba];omega)|(decide +kernel)) (hb2:=by first|rfl|assumption|omega|(rw [Big.zba];omega)|(decide +kernel)) (hy:=by first|rfl|assumption|omega|(rw [Big.zba];omega)|(decide +kernel))) (.c (j:=4) rfl (.c (j:=2) rfl .n)) ?_
  rintro ⟨w319,w420⟩ -
  dsimp only [List.append_eq,List.nil_append,List.cons_append]
  refine r_pv rfl rfl (zb rfl)<|r_pv rfl rfl (zt rfl rfl)<|r_pv rfl rfl (zt rfl rfl)<|r_pv rfl rfl (zt rfl rfl)<|zS rfl rfl (zI zr40 rfl) (fun b21=> ?_)
  refine zS rfl rfl (zI zr40 rfl) (fun b22=> ?_)
  refine zr 1 rfl rfl rfl rfl rfl sz40 rfl (.take (.take .nil)) (.s .z)<|zr 0 rfl rfl rfl rfl rfl sz40 rfl (.take (.take .nil)) .z<|r_pv rfl rfl (zd rfl)<|zj<|ze<|zh<|zc<|r_u rfl rfl (zi 3 ty40 rfl rfl (.take (.take .nil)))<|r_u rfl rfl (zi 1 ty40 rfl rfl (.take (.take .nil)))<|r_pv rfl rfl (zK zr42 rfl Tryz.underlying42 (.c sz40 (.c sz40 .n)) (.c rfl (.c rfl .n)) (.c rfl rfl rfl (.take (.take .nil)) (.c rfl rfl rfl (.skip (.skip (.take (.take .nil)))) .n)))<|zr 5 rfl rfl rfl rfl rfl sz42 rfl (.take (.take (.take (.take .nil)))) (.s (.s (.s (.s (.s .z)))))<|zj<|ze<|zG<|zmb (qF true w315 w319 (Rat.divInt x1 x2)) (qF_close 2 0 rfl rfl (by exact ⟨hr1,hr2,Nat.le_trans (Big.hq_divInt hd) (by omega)⟩)) ?_
  exact zB Tryz.results71 (w315,w319) trivial (zv 5 ty42 rfl rfl (.take (.take (.take (.take .nil))))) rfl (ho:=(.n:PickO _ _ _)) ((.c (j:=0) rfl .n):SelR _ _ _)
theorem zsf {w1:Wd} {w2:Wd} {x1:Int} {x2:Int} (hl1:Big.ln x1≤1048576) (hl2:Big.ln x2≤1048576):Con Tryz.prog 52 [.agg #[w1.b,w1.l],.agg #[w2.b,w2.l]] [] [zF w1 x1,zF w2 x2] (Y:=Wd×Wd) (fun y=>True) (fun y=> .tuple #[.agg #[y.1.b,y.1.l,y.2.b,y.2.l],.int .i64 (if x2=0 then 14 else 0)]) (fun y=>[]) (fun y=>[qF (decide (x2≠0)) y.1 y.2 (Rat.divInt x1 x2)]):=by
 refine zp Tryz.func52 rfl rfl rfl (fun c=> ?_)
 show RunC _ _ _ _ _ [(0,.agg #[w1.b,w1.l]),(1,.agg #[w2.b,w2.l])] [] [zF w1 x1,zF w2 x2]
 refine zh<|zc<|zS rfl rfl (zX rfl rfl) (fun b1=> ?_)
 refine zS rfl rfl (zX rfl rfl) (fun b2=> ?_)
 refine zS rfl rfl (zI zr42 rfl) (fun b3=> ?_)
 refine r_pv rfl rfl (zd rfl)<|zj<|ze<|zh<|zh<|zc<|r_u rfl rfl (zi 1 ty40 rfl rfl (.take (.take .nil)))<|zQ rfl rfl (.c rfl .n) ce78 (zOb (w1:=w2) (x1:=x2) (hln:=by first|rfl|assumption|omega|(rw [Big.zba];omega)|(decide +kernel))) (.c (j:=1) rfl .n)<|r_pv rfl rfl (zCa rfl rfl)<|zj<|ze<|zD rfl (fun hz0=> ?_) (fun hz0=> ?_)
 ·
  have hx0:x2=0:=Big.sign_zero.1 hz0
  refine zh<|zc<|r_pv rfl rfl (zK zr42 rfl Tryz.underlying42 (.c sz40 (.c sz40 .n)) .n .n)<|zr 0 rfl rfl rfl rfl rfl sz42 rfl (.take (.take (.take (.take .nil)))) .z<|r_pv rfl rfl (zd rfl)<|zj<|ze<|zG<|zq<|zmb (qF false wz wz 0) (fun g _=>qF_none g) ?_
  exact zwa Tryz.results52 (wz,wz) trivial (zv 0 ty42 rfl rfl (.take (.take (.take (.take .nil))))) (zo rfl) (by rw [if_pos hx0];rfl) (ho:=(.n:PickO _ _ _)) ((.e (j:=0) rfl (by rw [Big.divInt_nil hx0,decide_eq_false (not_not_intro hx0)]) .n):SelR _ _ _)
 ·
  have hx0:x2≠0:=fun e=>hz0 (Big.sign_zero.2 e)
  refine zy<|ze<|zh<|zc<|r_u rfl rfl (zi 2 ty40 rfl rfl (.take (.take .nil)))<|r_u rfl rfl (zi 1 ty40 rfl rfl (.take (.take .nil)))<|zC rfl rfl (.c rfl (.c rfl .n)) ce71 (zXb (w1:=w1) (w2:=w2) (x1:=x1) (x2:=x2) (hl1:=by assumption) (hl2:=by assumption) (hd:=by first|rfl|assumption|omega|(rw [Big.zba];omega)|(decide +kernel))) (.c (j:=0) rfl (.c (j:=1) rfl .n)) ?_
  rintro ⟨w34,w45⟩ -
  dsimp only [List.append_eq,List.nil_append,List.cons_append]
  refine zr 0 rfl rfl rfl rfl rfl sz42 rfl (.take (.take (.take (.take .nil)))) .z<|r_pv rfl rfl (zd rfl)<|zj<|ze<|zG ?_
  exact zwa Tryz.results52 (w34,w45) trivial (zv 0 ty42 rfl rfl (.take (.take (.take (.take .nil))))) (zo rfl) (by rw [if_neg hx0]) (ho:=(.n:PickO _ _ _)) ((.e (j:=0) rfl (by rw [decide_eq_true hx0]) .n):SelR _ _ _)
theorem ztf {z1:Int} {z2:Int} (hz1: -9223372036854775808≤z1∧z1≤9223372036854775807) (hz2: -9223372036854775808≤z2∧z2≤9223372036854775807):Con Tryz.prog 23 [.int .i64 z1,.int .i64 z2] [] [] (Y:=Wd×Wd) (fun y=>True) (fun y=> .tuple #[.agg #[y.1.b,y.1.l,y.2.b,y.2.l],.int .i64 (if z2=0 then 14 else 0)]) (fun y=>[]) (fun y=>[qF (decide (z2≠0)) y.1 y.2 (Rat.divInt z1 z2)]):=by
 refine zp Tryz.func23 rfl rfl rfl (fun c=> ?_)
 show RunC _ _ _ _ _ [(0,.int .i64 z1),(1,.int .i64 z2)] [] []
 have g1:=Big.zDe hz1.1 hz1.2
 have g2:=Big.zDe hz2.1 hz2.2
 refine zh<|zc<|zS rfl rfl (zI zr42 rfl) (fun b1=> ?_)
 refine r_pv rfl rfl (zd rfl)<|zj<|ze<|zh<|zc<|r_pv rfl rfl (zb rfl)<|zC rfl rfl (.c rfl .n) ce53 (zkb (z:=z1) (hz:=by assumption)) (.n) ?_
 rintro w32 -
 dsimp only [List.append_eq,List.nil_append,List.cons_append]
 refine r_pv rfl rfl (zb rfl)<|zC rfl rfl (.c rfl .n) ce53 (zkb (z:=z2) (hz:=by assumption)) (.n) ?_
 rintro w33 -
 dsimp only [List.append_eq,List.nil_append,List.cons_append]
 refine zC rfl rfl (.c rfl (.c rfl .n)) ce52 (zsf (w1:=w32) (w2:=w33) (x1:=z1) (x2:=z2) (hl1:=by first|rfl|assumption|omega|(rw [Big.zba];omega)|(decide +kernel)) (hl2:=by first|rfl|assumption|omega|(rw [Big.zba];omega)|(decide +kernel))) (.c (j:=1) rfl (.c (j:=0) rfl .n)) ?_
 rintro ⟨w34,w45⟩ -
 dsimp only [List.append_eq,List.nil_append,List.cons_append]
 refine r_pv rfl rfl (zt rfl rfl)<|r_pv rfl rfl (zt rfl rfl)<|zr 0 rfl rfl rfl rfl rfl sz42 rfl (.take (.take (.take (.take .nil)))) .z<|r_pv rfl rfl (zd rfl)<|zj<|ze<|zG ?_
 exact zwa Tryz.results23 (w34,w45) trivial (zv 0 ty42 rfl rfl (.take (.take (.take (.take .nil))))) (zo rfl) rfl (ho:=(.n:PickO _ _ _)) ((.c (j:=0) rfl .n):SelR _ _ _)
theorem zDc {z1:Int} {z2:Int} (hz1: -9223372036854775808≤z1∧z1≤9223372036854775807) (hz2: -9223372036854775808≤z2∧z2≤9223372036854775807) (hy:z2≠0):Con Tryz.prog 23 [.int .i64 (z1),.int .i64 (z2)] [] [] (Y:=(Wd)×(Wd)) (fun y=>True) (fun y=> .tuple #[.agg #[y.1.b,y.1.l,y.2.b,y.2.l],.int .i64 (0)]) (fun y=>[]) (fun y=>[qF true y.1 y.2 (Rat.divInt z1 z2)]):=by
  have h:=ztf hz1 hz2
  rw [if_neg hy,decide_eq_true hy] at h
  exact h
theorem zhe {k1:Bool} {u1:Wd} {v1:Wd} {q1:Rat} (hl:Big.hq q1≤1048576):Con Tryz.prog 76 [.agg #[u1.b,u1.l,v1.b,v1.l]] [] [qF k1 u1 v1 q1] (Y:=Unit) (fun y=>True) (fun y=> .int .i64 (Big.sgq q1)) (fun y=>[]) (fun y=>[]):=by
 refine zp Tryz.func76 rfl rfl rfl (fun c=> ?_)
 show RunC _ _ _ _ _ [(0,.agg #[u1.b,u1.l,v1.b,v1.l])] [] [qF k1 u1 v1 q1]
 have a1:=Big.hq_num q1
 have a2:=Big.hq_den q1
 refine zh<|zc<|zS rfl rfl (zX rfl rfl) (fun b1=> ?_)
 refine r_pv rfl rfl (zd rfl)<|zj<|ze<|zh<|zc<|r_u rfl rfl (zi 0 ty42 rfl rfl (.take (.take (.take (.take .nil)))))<|zC rfl rfl (.c rfl .n) ce70 (zdb (k1:=k1) (u1:=u1) (v1:=v1) (q1:=q1)) (.c (j:=0) rfl .n) ?_
 rintro ⟨w32,w43⟩ -
 dsimp only [List.append_eq,List.nil_append,List.cons_append]
 refine r_pv rfl rfl (zQc Tryz.underlying42 rfl ty40 rfl (.take (.take .nil)))<|ztc (qF_open 0 rfl) (fun _ _=> ?_)
 refine zQ rfl rfl (.c rfl .n) ce78 (zOb (w1:=w32) (x1:=(q1).num) (hln:=by first|rfl|assumption|omega|(rw [Big.zba];omega)|(decide +kernel))) (.c (j:=0) rfl .n)<|r_pv rfl rfl (zd rfl)<|zj<|ze<|zG ?_
 exact zB Tryz.results76 () trivial (zo rfl) rfl (ho:=(.n:PickO _ _ _)) (.n:SelR _ _ _)
theorem zaf {k1:Bool} {u1:Wd} {v1:Wd} {q1:Rat} (hl:Big.hq q1≤1048576):Con Tryz.prog 45 [.agg #[u1.b,u1.l,v1.b,v1.l]] [] [qF k1 u1 v1 q1] (Y:=Wd×Wd) (fun y=>True) (fun y=> .agg #[y.1.b,y.1.l,y.2.b,y.2.l]) (fun y=>[]) (fun y=>[qF true y.1 y.2 (- q1)]):=by
 refine zp Tryz.func45 rfl rfl rfl (fun c=> ?_)
 show RunC _ _ _ _ _ [(0,.agg #[u1.b,u1.l,v1.b,v1.l])] [] [qF k1 u1 v1 q1]
 have a1:=Big.hq_num q1
 have a2:=Big.hq_den q1
 refine zh<|zc<|zS rfl rfl (zX rfl rfl) (fun b1=> ?_)
 refine zS rfl rfl (zI zr42 rfl) (fun b2=> ?_)
 refine zj<|ze<|zh<|zc<|r_u rfl rfl (zi 1 ty42 rfl rfl (.take (.take (.take (.take .nil)))))<|zC rfl rfl (.c rfl .n) ce70 (zdb (k1:=k1) (u1:=u1) (v1:=v1) (q1:=q1)) (.c (j:=0) rfl .n) ?_
 rintro ⟨w33,w44⟩ -
 dsimp only [List.append_eq,List.nil_append,List.cons_append]
 refine zS rfl rfl (zI zr42 rfl) (fun b5=> ?_)
 refine zr 0 rfl rfl rfl rfl rfl sz42 rfl (.take (.take (.take (.take .nil)))) .z<|zj<|ze<|zh<|zAa (.c (i:=1) rfl (.c (i:=0) rfl (.c (i:=0) rfl .n)))<|zla (OW:=[boxA b2 42 [.bool false,.slice none 0 0,.bool false,.slice none 0 0]]) (O:=[boxA b5 42 [w33.b,w33.l,w44.b,w44.l],boxA b1 42 [u1.b,u1.l,v1.b,v1.l]]) 6 mixed (.then .ret) (by kernel_rfl)<|d_pv 0 rfl rfl (by kernel_rfl) (by kernel_rfl) rfl rfl (zg Tryz.underlying42 rfl sz40 rfl rfl)<|d_uw 1 rfl rfl (by kernel_rfl) (by kernel_rfl) (by kernel_rfl) rfl rfl (zi 1 ty40 rfl rfl (.take (.take .nil)))<|d_pv 3 rfl rfl (by kernel_rfl) (by kernel_rfl) rfl rfl (zg Tryz.underlying42 rfl sz40 rfl rfl)<|d_uw 4 rfl rfl (by kernel_rfl) (by kernel_rfl) (by kernel_rfl) rfl rfl (zi 1 ty40 rfl rfl (.skip (.skip (.take (.take .nil)))))<|zqe (qF_open 0 rfl) (fun _ _=> ?_)
 refine zV 2 (by kernel_rfl) (zW rfl rfl rfl rfl (.c rfl .n) ce74 (zad (w1:=w33) (x1:=(q1).num) (hln:=by first|rfl|assumption|omega|(rw [Big.zba];omega)|(decide +kernel))) (.c (j:=0) rfl .n) ?_)
 rintro w36 -
 dsimp only [List.append_eq,List.nil_append,List.cons_append]
 refine d_pv 5 rfl rfl (by kernel_rfl) (by kernel_rfl) rfl rfl (zK zr42 rfl Tryz.underlying42 (.c sz40 (.c sz40 .n)) (.c rfl (.c rfl .n)) (.c rfl rfl rfl (.take (.take .nil)) (.c rfl rfl rfl (.skip (.skip (.take (.take .nil)))) .n)))<|zV 6 (by kernel_rfl) (zN (by kernel_rfl) rfl rfl rfl rfl rfl sz42 rfl (.take (.take (.take (.take .nil)))) ?_)
 refine zfa (by kernel_rfl)<|ze<|zG<|zmb (qF true w36 w44 (- q1)) (qF_close 0 2 rfl rfl (by exact ⟨(Rat.neg_num q1).symm,by rw [Rat.neg_den],by rw [Big.hq_neg];exact hl⟩)) ?_
 exact zB Tryz.results45 (w36,w44) trivial (zv 0 ty42 rfl rfl (.take (.take (.take (.take .nil))))) rfl (ho:=(.n:PickO _ _ _)) ((.c (j:=0) rfl .n):SelR _ _ _)
theorem zbf {k1:Bool} {u1:Wd} {v1:Wd} {q1:Rat} {k2:Bool} {u2:Wd} {v2:Wd} {q2:Rat} (hl:Big.hq q1+Big.hq q2+1≤1048576):Con Tryz.prog 44 [.agg #[u1.b,u1.l,v1.b,v1.l],.agg #[u2.b,u2.l,v2.b,v2.l]] [] [qF k1 u1 v1 q1,qF k2 u2 v2 q2] (Y:=Wd×Wd) (fun y=>True) (fun y=> .agg #[y.1.b,y.1.l,y.2.b,y.2.l]) (fun y=>[]) (fun y=>[qF true y.1 y.2 (q1+q2)]):=by
 refine zp Tryz.func44 rfl rfl rfl (fun c=> ?_)
 show RunC _ _ _ _ _ [(0,.agg #[u1.b,u1.l,v1.b,v1.l]),(1,.agg #[u2.b,u2.l,v2.b,v2.l])] [] [qF k1 u1 v1 q1,qF k2 u2 v2 q2]
 have a1:=Big.hq_num q1
 have a2:=Big.hq_den q1
 have a3:=Big.hq_num q2
 have a4:=Big.hq_den q2
 have b1:=Big.zTb q1.num q2.den
 have b2:=Big.zTb q2.num q1.den
 have b3:=Big.zMd (q1.num*q2.den) (q2.num*q1.den)
 have b4:=Big.zTb (q1.den:Int) q2.den
 have b5:=Big.zTb q1.num q2.num
 refine zh<|zc<|zS rfl rfl (zX rfl rfl) (fun b1=> ?_)
 refine zS rfl rfl (zX rfl rfl) (fun b2=> ?_)
 refine zS rfl rfl (zI zr42 rfl) (fun b3=> ?_)
 refine zj<|ze<|zh<|zc<|r_u rfl rfl (zi 2 ty42 rfl rfl (.take (.take (.take (.take .nil)))))<|zC rfl rfl (.c rfl .n) ce70 (zdb (k1:=k1) (u1:=u1) (v1:=v1) (q1:=q1)) (.c (j:=0) rfl .n) ?_
 rintro ⟨w34,w45⟩ -
 dsimp only [List.append_eq,List.nil_append,List.cons_append]
 refine zS rfl rfl (zI zr42 rfl) (fun b6=> ?_)
 refine zr 0 rfl rfl rfl rfl rfl sz42 rfl (.take (.take (.take (.take .nil)))) .z<|zj<|ze<|zh<|zc<|r_u rfl rfl (zi 2 ty42 rfl rfl (.take (.take (.take (.take .nil)))))<|zC rfl rfl (.c rfl .n) ce70 (zdb (k1:=k2) (u1:=u2) (v1:=v2) (q1:=q2)) (.c (j:=2) rfl .n) ?_
 rintro ⟨w37,w48⟩ -
 dsimp only [List.append_eq,List.nil_append,List.cons_append]
 refine zS rfl rfl (zI zr42 rfl) (fun b9=> ?_)
 refine zr 0 rfl rfl rfl rfl rfl sz42 rfl (.take (.take (.take (.take .nil)))) .z<|zj<|ze<|zh<|zAa (.c (i:=2) rfl (.c (i:=0) rfl (.c (i:=0) rfl (.c (i:=0) rfl (.c (i:=0) rfl .n)))))<|zla (OW:=[boxA b3 42 [.bool false,.slice none 0 0,.bool false,.slice none 0 0]]) (O:=[boxA b9 42 [w37.b,w37.l,w48.b,w48.l],boxA b6 42 [w34.b,w34.l,w45.b,w45.l],boxA b2 42 [u2.b,u2.l,v2.b,v2.l],boxA b1 42 [u1.b,u1.l,v1.b,v1.l]]) 17 mixed (.then .ret) (by kernel_rfl)<|d_pv 0 rfl rfl (by kernel_rfl) (by kernel_rfl) rfl rfl (zg Tryz.underlying42 rfl sz40 rfl rfl)<|d_uw 1 rfl rfl (by kernel_rfl) (by kernel_rfl) (by kernel_rfl) rfl rfl (zi 2 ty40 rfl rfl (.take (.take .nil)))<|d_pv 2 rfl rfl (by kernel_rfl) (by kernel_rfl) rfl rfl (zg Tryz.underlying42 rfl sz40 rfl rfl)<|d_uw 3 rfl rfl (by kernel_rfl) (by kernel_rfl) (by kernel_rfl) rfl rfl (zi 1 ty40 rfl rfl (.skip (.skip (.take (.take .nil)))))<|d_pv 5 rfl rfl (by kernel_rfl) (by kernel_rfl) rfl rfl (zg Tryz.underlying42 rfl sz40 rfl rfl)<|d_uw 6 rfl rfl (by kernel_rfl) (by kernel_rfl) (by kernel_rfl) rfl rfl (zi 1 ty40 rfl rfl (.take (.take .nil)))<|d_pv 7 rfl rfl (by kernel_rfl) (by kernel_rfl) rfl rfl (zg Tryz.underlying42 rfl sz40 rfl rfl)<|d_uw 8 rfl rfl (by kernel_rfl) (by kernel_rfl) (by kernel_rfl) rfl rfl (zi 2 ty40 rfl rfl (.skip (.skip (.take (.take .nil)))))<|d_pv 11 rfl rfl (by kernel_rfl) (by kernel_rfl) rfl rfl (zg Tryz.underlying42 rfl sz40 rfl rfl)<|d_uw 12 rfl rfl (by kernel_rfl) (by kernel_rfl) (by kernel_rfl) rfl rfl (zi 2 ty40 rfl rfl (.skip (.skip (.take (.take .nil)))))<|d_pv 13 rfl rfl (by kernel_rfl) (by kernel_rfl) rfl rfl (zg Tryz.underlying42 rfl sz40 rfl rfl)<|d_uw 14 rfl rfl (by kernel_rfl) (by kernel_rfl) (by kernel_rfl) rfl rfl (zi 1 ty40 rfl rfl (.skip (.skip (.take (.take .nil)))))<|zqe (qF_open 1 rfl) (fun _ _=> ?_)
 refine zqe (qF_open 2 rfl) (fun _ _=> ?_)
 refine zV 4 (by kernel_rfl) (zW rfl rfl rfl rfl (.c rfl (.c rfl .n)) ce73 (zjc (w1:=w34) (w2:=w48) (x1:=(q1).num) (x2:=(((q2).den:Nat):Int)) (hb1:=by first|rfl|assumption|omega|(rw [Big.zba];omega)|(decide +kernel)) (hb2:=by first|rfl|assumption|omega|(rw [Big.zba];omega)|(decide +kernel))) (.c (j:=2) rfl (.c (j:=1) rfl .n)) ?_)
 rintro w310 -
 dsimp only [List.append_eq,List.nil_append,List.cons_append]
 refine zV 9 (by kernel_rfl) (zW rfl rfl rfl rfl (.c rfl (.c rfl .n)) ce73 (zjc (w1:=w37) (w2:=w45) (x1:=(q2).num) (x2:=(((q1).den:Nat):Int)) (hb1:=by first|rfl|assumption|omega|(rw [Big.zba];omega)|(decide +kernel)) (hb2:=by first|rfl|assumption|omega|(rw [Big.zba];omega)|(decide +kernel))) (.c (j:=1) rfl (.c (j:=4) rfl .n)) ?_)
 rintro w311 -
 dsimp only [List.append_eq,List.nil_append,List.cons_append]
 refine zV 10 (by kernel_rfl) (zW rfl rfl rfl rfl (.c rfl (.c rfl .n)) ce72 (zQe (w1:=w310) (w2:=w311) (x1:=((q1).num)*(((q2).den:Nat):Int)) (x2:=((q2).num)*(((q1).den:Nat):Int)) (hb1:=by first|rfl|assumption|omega|(rw [Big.zba];omega)|(decide +kernel)) (hb2:=by first|rfl|assumption|omega|(rw [Big.zba];omega)|(decide +kernel))) (.c (j:=1) rfl (.c (j:=0) rfl .n)) ?_)
 rintro w312 -
 dsimp only [List.append_eq,List.nil_append,List.cons_append]
 refine zV 15 (by kernel_rfl) (zW rfl rfl rfl rfl (.c rfl (.c rfl .n)) ce73 (zjc (w1:=w45) (w2:=w48) (x1:=(((q1).den:Nat):Int)) (x2:=(((q2).den:Nat):Int)) (hb1:=by first|rfl|assumption|omega|(rw [Big.zba];omega)|(decide +kernel)) (hb2:=by first|rfl|assumption|omega|(rw [Big.zba];omega)|(decide +kernel))) (.c (j:=6) rfl (.c (j:=4) rfl .n)) ?_)
 rintro w313 -
 dsimp only [List.append_eq,List.nil_append,List.cons_append]
 refine zV 16 (by kernel_rfl) (zW rfl rfl rfl rfl (.c rfl (.c rfl .n)) ce71 (zXb (w1:=w312) (w2:=w313) (x1:=(((q1).num)*(((q2).den:Nat):Int))+(((q2).num)*(((q1).den:Nat):Int))) (x2:=(((q1).den:Nat):Int)*(((q2).den:Nat):Int)) (hl1:=by first|rfl|assumption|omega|(rw [Big.zba];omega)|(decide +kernel)) (hl2:=by first|rfl|assumption|omega|(rw [Big.zba];omega)|(decide +kernel)) (hd:=by exact Int.mul_ne_zero (Big.den_ne q1) (Big.den_ne q2))) (.c (j:=1) rfl (.c (j:=0) rfl .n)) ?_)
 rintro ⟨w314,w415⟩ -
 dsimp only [List.append_eq,List.nil_append,List.cons_append]
 refine zV 17 (by kernel_rfl) (zN (by kernel_rfl) rfl rfl rfl rfl rfl sz42 rfl (.take (.take (.take (.take .nil)))) ?_)
 refine zfa (by kernel_rfl)<|ze<|zG ?_
 exact zB Tryz.results44 (w314,w415) trivial (zv 0 ty42 rfl rfl (.take (.take (.take (.take .nil))))) rfl (ho:=(.n:PickO _ _ _)) ((.e (j:=0) rfl (by rw [Big.add_parts]) .n):SelR _ _ _)
theorem zcf {k1:Bool} {u1:Wd} {v1:Wd} {q1:Rat} {k2:Bool} {u2:Wd} {v2:Wd} {q2:Rat} (hl:Big.hq q1+Big.hq q2+1≤1048576):Con Tryz.prog 77 [.agg #[u1.b,u1.l,v1.b,v1.l],.agg #[u2.b,u2.l,v2.b,v2.l]] [] [qF k1 u1 v1 q1,qF k2 u2 v2 q2] (Y:=Wd×Wd) (fun y=>True) (fun y=> .agg #[y.1.b,y.1.l,y.2.b,y.2.l]) (fun y=>[]) (fun y=>[qF true y.1 y.2 (q1 - q2)]):=by
 refine zp Tryz.func77 rfl rfl rfl (fun c=> ?_)
 show RunC _ _ _ _ _ [(0,.agg #[u1.b,u1.l,v1.b,v1.l]),(1,.agg #[u2.b,u2.l,v2.b,v2.l])] [] [qF k1 u1 v1 q1,qF k2 u2 v2 q2]
 have a1:=Big.hq_num q1
 have a2:=Big.hq_den q1
 have a3:=Big.hq_num q2
 have a4:=Big.hq_den q2
 refine zh<|zc<|zS rfl rfl (zX rfl rfl) (fun b1=> ?_)
 refine zS rfl rfl (zX rfl rfl) (fun b2=> ?_)
 refine zS rfl rfl (zI zr42 rfl) (fun b3=> ?_)
 refine zj<|ze<|zh<|zla (OW:=[boxA b3 42 [.bool false,.slice none 0 0,.bool false,.slice none 0 0]]) (O:=[boxA b2 42 [u2.b,u2.l,v2.b,v2.l],boxA b1 42 [u1.b,u1.l,v1.b,v1.l]]) 4 mixed (.then .ret) (by kernel_rfl)<|d_uw 0 rfl rfl (by kernel_rfl) (by kernel_rfl) (by kernel_rfl) rfl rfl (zi 2 ty42 rfl rfl (.take (.take (.take (.take .nil)))))<|d_uw 1 rfl rfl (by kernel_rfl) (by kernel_rfl) (by kernel_rfl) rfl rfl (zi 1 ty42 rfl rfl (.take (.take (.take (.take .nil)))))<|zV 2 (by kernel_rfl) (zW rfl rfl rfl rfl (.c rfl .n) ce45 (zaf (k1:=k2) (u1:=u2) (v1:=v2) (q1:=q2) (hl:=by first|rfl|assumption|omega|(rw [Big.zba];omega)|(decide +kernel)|(rw [Big.hq_neg];omega))) (.c (j:=1) rfl .n) ?_)
 rintro ⟨w34,w45⟩ -
 dsimp only [List.append_eq,List.nil_append,List.cons_append]
 refine zV 3 (by kernel_rfl) (zW rfl rfl rfl rfl (.c rfl (.c rfl .n)) ce44 (zbf (k1:=k1) (u1:=u1) (v1:=v1) (q1:=q1) (k2:=true) (u2:=w34) (v2:=w45) (q2:= - q2) (hl:=by first|rfl|assumption|omega|(rw [Big.zba];omega)|(decide +kernel)|(rw [Big.hq_neg];omega))) (.c (j:=1) rfl (.c (j:=0) rfl .n)) ?_)
 rintro ⟨w36,w47⟩ -
 dsimp only [List.append_eq,List.nil_append,List.cons_append]
 refine zV 4 (by kernel_rfl) (zN (by kernel_rfl) rfl rfl rfl rfl rfl sz42 rfl (.take (.take (.take (.take .nil)))) ?_)
 refine zfa (by kernel_rfl)<|ze<|zG ?_
 exact zB Tryz.results77 (w36,w47) trivial (zv 0 ty42 rfl rfl (.take (.take (.take (.take .nil))))) rfl (ho:=(.n:PickO _ _ _)) ((.e (j:=0) rfl (by rw [Rat.sub_eq_add_neg]) .n):SelR _ _ _)
theorem zLc {k1:Bool} {u1:Wd} {v1:Wd} {q1:Rat} {k2:Bool} {u2:Wd} {v2:Wd} {q2:Rat} (hl:Big.hq q1+Big.hq q2+1≤1048576):Con Tryz.prog 48 [.agg #[u1.b,u1.l,v1.b,v1.l],.agg #[u2.b,u2.l,v2.b,v2.l]] [] [qF k1 u1 v1 q1,qF k2 u2 v2 q2] (Y:=Unit) (fun y=>True) (fun y=> .int .i64 (Big.sgq (q1 - q2))) (fun y=>[]) (fun y=>[]):=by
 refine zp Tryz.func48 rfl rfl rfl (fun c=> ?_)
 show RunC _ _ _ _ _ [(0,.agg #[u1.b,u1.l,v1.b,v1.l]),(1,.agg #[u2.b,u2.l,v2.b,v2.l])] [] [qF k1 u1 v1 q1,qF k2 u2 v2 q2]
 have hsb:=Big.hq_sub q1 q2
 refine zh<|zc<|zS rfl rfl (zX rfl rfl) (fun b1=> ?_)
 refine zS rfl rfl (zX rfl rfl) (fun b2=> ?_)
 refine r_pv rfl rfl (zd rfl)<|zj<|ze<|zh<|zc<|r_u rfl rfl (zi 1 ty42 rfl rfl (.take (.take (.take (.take .nil)))))<|r_u rfl rfl (zi 0 ty42 rfl rfl (.take (.take (.take (.take .nil)))))<|zC rfl rfl (.c rfl (.c rfl .n)) ce77 (zcf (k1:=k1) (u1:=u1) (v1:=v1) (q1:=q1) (k2:=k2) (u2:=u2) (v2:=v2) (q2:=q2) (hl:=by assumption)) (.c (j:=0) rfl (.c (j:=1) rfl .n)) ?_
 rintro ⟨w33,w44⟩ -
 dsimp only [List.append_eq,List.nil_append,List.cons_append]
 refine zQ rfl rfl (.c rfl .n) ce76 (zhe (k1:=true) (u1:=w33) (v1:=w44) (q1:=q1 - q2) (hl:=by first|rfl|assumption|omega|(rw [Big.zba];omega)|(decide +kernel))) (.c (j:=0) rfl .n)<|r_pv rfl rfl (zd rfl)<|zj<|ze<|zG ?_
 exact zB Tryz.results48 () trivial (zo rfl) rfl (ho:=(.n:PickO _ _ _)) (.n:SelR _ _ _)
theorem zie {u1:Wd} {v1:Wd} {q1:Rat} {u2:Wd} {v2:Wd} {q2:Rat} (hl:Big.hq q1+Big.hq q2+1≤1048576):Con Tryz.prog 34 [.agg #[u1.b,u1.l,v1.b,v1.l],.agg #[u2.b,u2.l,v2.b,v2.l]] [] [qF true u1 v1 q1,qF true u2 v2 q2] (Y:=Unit) (fun y=>True) (fun y=> .bool (decide (q1=q2))) (fun y=>[]) (fun y=>[]):=by
 refine zp Tryz.func34 rfl rfl rfl (fun c=> ?_)
 show RunC _ _ _ _ _ [(0,.agg #[u1.b,u1.l,v1.b,v1.l]),(1,.agg #[u2.b,u2.l,v2.b,v2.l])] [] [qF true u1 v1 q1,qF true u2 v2 q2]
 refine zh<|zc<|zS rfl rfl (zX rfl rfl) (fun b1=> ?_)
 refine zS rfl rfl (zX rfl rfl) (fun b2=> ?_)
 refine r_pv rfl rfl (zd rfl)<|zj<|ze<|zRa (X:=Unit) (fun x=>True) (fun x=>[(4,.bool (decide (Big.sgq (q1 - q2)=0)))]) (fun x=>[boxA b2 42 (cw [u2,v2]),boxA b1 42 (cw [u1,v1])]) (fun x=>[qF true u1 v1 q1,qF true u2 v2 q2]) ?_ ?_
 ·
  refine zc<|r_u rfl rfl (zi 1 ty42 rfl rfl (.take (.take (.take (.take .nil)))))<|zQ rfl rfl (.c rfl .n) ce62 (zWb (u1:=u1) (v1:=v1) (q1:=q1)) (.c (j:=0) rfl .n)<|r_pv rfl rfl (zb rfl)<|r_u rfl rfl (zi 0 ty42 rfl rfl (.take (.take (.take (.take .nil)))))<|zQ rfl rfl (.c rfl .n) ce62 (zWb (u1:=u2) (v1:=v2) (q1:=q2)) (.c (j:=1) rfl .n)<|r_pv rfl rfl (zl rfl rfl)<|r_pv rfl rfl (zb rfl)<|r_u rfl rfl (zi 1 ty42 rfl rfl (.take (.take (.take (.take .nil)))))<|r_u rfl rfl (zi 0 ty42 rfl rfl (.take (.take (.take (.take .nil)))))<|zQ rfl rfl (.c rfl (.c rfl .n)) ce48 (zLc (k1:=true) (u1:=u1) (v1:=v1) (q1:=q1) (k2:=true) (u2:=u2) (v2:=v2) (q2:=q2) (hl:=by assumption)) (.c (j:=0) rfl (.c (j:=1) rfl .n))<|r_pv rfl rfl (zCa rfl rfl)<|r_pv rfl rfl (zl rfl rfl)<|r_pv rfl rfl (zd rfl)<|zj ?_
  exact zga () (show True from by first|trivial|omega|simp_all) ((.c rfl .n):SubM _ _) (ho:=((.of [0,0] rfl):PickO _ _ _)) ((.of [0,1] rfl):SelR _ _ _)
 ·
  rintro ⟨⟩ -
  try dsimp only [cw]
  refine zG ?_
  exact zB Tryz.results34 () trivial (zo rfl) (congrArg Value.bool (decide_eq_decide.2 Big.sgq_sub_zero.symm)) (ho:=(.n:PickO _ _ _)) (.n:SelR _ _ _)
theorem zlb {u1:Wd} {v1:Wd} {q1:Rat} {u2:Wd} {v2:Wd} {q2:Rat} (hl:Big.hq q1+Big.hq q2+1≤1048576):Con Tryz.prog 15 [.agg #[u1.b,u1.l,v1.b,v1.l],.agg #[u2.b,u2.l,v2.b,v2.l]] [] [qF true u1 v1 q1,qF true u2 v2 q2] (Y:=Unit) (fun y=>True) (fun y=> .bool (decide (q1=q2))) (fun y=>[]) (fun y=>[]):=by
 refine zp Tryz.func15 rfl rfl rfl (fun c=> ?_)
 show RunC _ _ _ _ _ [(0,.agg #[u1.b,u1.l,v1.b,v1.l]),(1,.agg #[u2.b,u2.l,v2.b,v2.l])] [] [qF true u1 v1 q1,qF true u2 v2 q2]
 refine zh<|zc<|zS rfl rfl (zX rfl rfl) (fun b1=> ?_)
 refine zS rfl rfl (zX rfl rfl) (fun b2=> ?_)
 refine r_pv rfl rfl (zd rfl)<|zj<|ze<|zh<|zc<|r_u rfl rfl (zi 1 ty42 rfl rfl (.take (.take (.take (.take .nil)))))<|r_u rfl rfl (zi 0 ty42 rfl rfl (.take (.take (.take (.take .nil)))))<|zQ rfl rfl (.c rfl (.c rfl .n)) ce34 (zie (u1:=u1) (v1:=v1) (q1:=q1) (u2:=u2) (v2:=v2) (q2:=q2) (hl:=by assumption)) (.c (j:=0) rfl (.c (j:=1) rfl .n))<|r_pv rfl rfl (zd rfl)<|zj<|ze<|zG ?_
 exact zB Tryz.results15 () trivial (zo rfl) rfl (ho:=(.n:PickO _ _ _)) (.n:SelR _ _ _)
end Go.Proofs.YtefbbhiaalcjfaaGreat.Sp
namespace Go.Proofs.YtefbbhiaalcjfaaGreat.Sp
open Go
set_option linter.unusedVariables false
set_option maxRecDepth 100000
set_option maxHeartbeats 1000000
theorem znc {z1:Int} {z2:Int} (hz1: -9223372036854775808≤z1∧z1≤9223372036854775807) (hz2: -9223372036854775808≤z2∧z2≤9223372036854775807) (hy:z2≠0):Con Tryz.prog 32 [.int .i64 z1,.int .i64 z2] [] [] (Y:=Wd×Wd) (fun y=>True) (fun y=> .agg #[y.1.b,y.1.l,y.2.b,y.2.l]) (fun y=>[]) (fun y=>[qF true y.1 y.2 (Rat.divInt z1 z2)]):=by
 refine zp Tryz.func32 rfl rfl rfl (fun c=> ?_)
 show RunC _ _ _ _ _ [(0,.int .i64 z1),(1,.int .i64 z2)] [] []
 refine zh<|zc<|zS rfl rfl (zI zr42 rfl) (fun b1=> ?_)
 refine zj<|ze<|zh<|zc<|r_pv rfl rfl (zb rfl)<|r_pv rfl rfl (zb rfl)<|zC rfl rfl (.c rfl (.c rfl .n)) ce61 (zZe (z1:=z1) (z2:=z2) (hz1:=by assumption) (hz2:=by assumption) (hy:=by assumption)) (.n) ?_
 rintro ⟨w32,w43⟩ -
 dsimp only [List.append_eq,List.nil_append,List.cons_append]
 refine r_pv rfl rfl (zb rfl)<|r_pv rfl rfl (zt rfl rfl)<|r_pv rfl rfl (zt rfl rfl)<|zS rfl rfl (zI zr42 rfl) (fun b4=> ?_)
 refine zr 0 rfl rfl rfl rfl rfl sz42 rfl (.take (.take (.take (.take .nil)))) .z<|r_pv rfl rfl (zd rfl)<|zj<|ze<|zh<|zc<|r_u rfl rfl (zi 0 ty42 rfl rfl (.take (.take (.take (.take .nil)))))<|zr 1 rfl rfl rfl rfl rfl sz42 rfl (.take (.take (.take (.take .nil)))) (.s .z)<|zj<|ze<|zG ?_
 exact zB Tryz.results32 (w32,w43) trivial (zv 1 ty42 rfl rfl (.take (.take (.take (.take .nil))))) rfl (ho:=(.n:PickO _ _ _)) ((.c (j:=0) rfl .n):SelR _ _ _)
theorem zub {ar:Int} {le:Int} {tp:Int} {rt:Int} {bt:Int} {sx:Int} {sy:Int} {xx:Int} {xy:Int} {yy:Int} {ms:Int} {mx:Int} {my:Int} {bb:Nat} {u:Int} {v:Int} {w:Int} (ho:1≤ar∧ar≤4096) (hp:0≤u∧u≤16257024) (hs:0≤v∧v≤258048) (ht:0≤w∧w≤258048):Con Tryz.prog 35 [.int .i64 u,.int .i64 v,.int .i64 w,.pointer (some ⟨bb,0,none⟩)] [] [atF bb 0 [.int .i64 ar,.int .i64 le,.int .i64 tp,.int .i64 rt,.int .i64 bt,.int .i64 sx,.int .i64 sy,.int .i64 xx,.int .i64 xy,.int .i64 yy,.int .i64 ms,.int .i64 mx,.int .i64 my]] (Y:=Wd×Wd) (fun y=>True) (fun y=> .agg #[y.1.b,y.1.l,y.2.b,y.2.l]) (fun y=>[]) (fun y=>[qF true y.1 y.2 (Rat.divInt (u*ar - v*w) (ar*ar))]):=by
 refine zp Tryz.func35 rfl rfl rfl (fun c=> ?_)
 show RunC _ _ _ _ _ [(0,.int .i64 u),(1,.int .i64 v),(2,.int .i64 w),(3,.pointer (some ⟨bb,0,none⟩))] [] [atF bb 0 [.int .i64 ar,.int .i64 le,.int .i64 tp,.int .i64 rt,.int .i64 bt,.int .i64 sx,.int .i64 sy,.int .i64 xx,.int .i64 xy,.int .i64 yy,.int .i64 ms,.int .i64 mx,.int .i64 my]]
 have p1:=Bl.mul_b (m:=16257024) (n:=4096) hp (show 0≤ar∧ar≤4096 by omega)
 have p2:=Bl.mul_b hs ht
 have p3:=Bl.mul_b (m:=4096) (n:=4096) (show 0≤ar∧ar≤4096 by omega) (show 0≤ar∧ar≤4096 by omega)
 have p4:ar*ar≠0:=Int.mul_ne_zero (by omega) (by omega)
 refine zh<|zc<|zS rfl rfl (zI zr42 rfl) (fun b1=> ?_)
 refine zj<|ze<|zh<|zc<|r_pv rfl rfl (zb rfl)<|r_pv rfl rfl (zg Tryz.underlying33 rfl sz3 rfl rfl)<|r_u rfl rfl (zn (j:=0) 0 ty3 rfl rfl rfl rfl)<|r_pv rfl rfl (zna (z:=(u*ar)) rfl rfl (w64 (by omega)))<|r_pv rfl rfl (zb rfl)<|r_pv rfl rfl (zb rfl)<|r_pv rfl rfl (zna (z:=(v*w)) rfl rfl (w64 (by omega)))<|r_pv rfl rfl (zia (z:=((u*ar) - (v*w))) rfl rfl (w64 (by omega)))<|r_pv rfl rfl (zg Tryz.underlying33 rfl sz3 rfl rfl)<|r_u rfl rfl (zn (j:=0) 0 ty3 rfl rfl rfl rfl)<|r_pv rfl rfl (zg Tryz.underlying33 rfl sz3 rfl rfl)<|r_u rfl rfl (zn (j:=0) 0 ty3 rfl rfl rfl rfl)<|r_pv rfl rfl (zna (z:=(ar*ar)) rfl rfl (w64 (by omega)))<|zC rfl rfl (.c rfl (.c rfl .n)) ce32 (znc (z1:=((u*ar) - (v*w))) (z2:=(ar*ar)) (hz1:=by first|rfl|assumption|omega) (hz2:=by first|rfl|assumption|omega) (hy:=by first|rfl|assumption|omega)) (.n) ?_
 rintro ⟨w32,w43⟩ -
 dsimp only [List.append_eq,List.nil_append,List.cons_append]
 refine zr 0 rfl rfl rfl rfl rfl sz42 rfl (.take (.take (.take (.take .nil)))) .z<|zj<|ze<|zG ?_
 exact zB Tryz.results35 (w32,w43) trivial (zv 0 ty42 rfl rfl (.take (.take (.take (.take .nil))))) rfl (ho:=(.n:PickO _ _ _)) ((.c (j:=0) rfl .n):SelR _ _ _)
end Go.Proofs.YtefbbhiaalcjfaaGreat.Sp
namespace Go.Proofs.YtefbbhiaalcjfaaGreat.Sp
open Go
set_option linter.unusedVariables false
set_option maxRecDepth 100000
set_option maxHeartbeats 1000000
theorem zDd {ar:Int} {le:Int} {tp:Int} {rt:Int} {bt:Int} {sx:Int} {sy:Int} {xx:Int} {xy:Int} {yy:Int} {ms:Int} {mx:Int} {my:Int}:Con Tryz.prog 16 [.agg #[.int .i64 ar,.int .i64 le,.int .i64 tp,.int .i64 rt,.int .i64 bt,.int .i64 sx,.int .i64 sy,.int .i64 xx,.int .i64 xy,.int .i64 yy,.int .i64 ms,.int .i64 mx,.int .i64 my]] [] [] (Y:=Wd×Wd×Wd×Wd×Wd×Wd) (fun y=>True) (fun y=> .tuple #[.agg #[y.1.b,y.1.l,y.2.1.b,y.2.1.l],.agg #[y.2.2.1.b,y.2.2.1.l,y.2.2.2.1.b,y.2.2.2.1.l],.agg #[y.2.2.2.2.1.b,y.2.2.2.2.1.l,y.2.2.2.2.2.b,y.2.2.2.2.2.l],.int .i64 (if Bl.ok ar le tp rt bt sx sy xx xy yy ms mx my then 0 else 1)]) (fun y=>[]) (fun y=>[qF (decide (Bl.ok ar le tp rt bt sx sy xx xy yy ms mx my)) y.1 y.2.1 (if Bl.ok ar le tp rt bt sx sy xx xy yy ms mx my then Rat.divInt (xx*ar - sx*sx) (ar*ar) else 0),qF (decide (Bl.ok ar le tp rt bt sx sy xx xy yy ms mx my)) y.2.2.1 y.2.2.2.1 (if Bl.ok ar le tp rt bt sx sy xx xy yy ms mx my then Rat.divInt (xy*ar - sx*sy) (ar*ar) else 0),qF (decide (Bl.ok ar le tp rt bt sx sy xx xy yy ms mx my)) y.2.2.2.2.1 y.2.2.2.2.2 (if Bl.ok ar le tp rt bt sx sy xx xy yy ms mx my then Rat.divInt (yy*ar - sy*sy) (ar*ar) else 0)]):=by
 refine zp Tryz.func16 rfl rfl rfl (fun c=> ?_)
 show RunC _ _ _ _ _ [(0,.agg #[.int .i64 ar,.int .i64 le,.int .i64 tp,.int .i64 rt,.int .i64 bt,.int .i64 sx,.int .i64 sy,.int .i64 xx,.int .i64 xy,.int .i64 yy,.int .i64 ms,.int .i64 mx,.int .i64 my])] [] []
 refine zh<|zc<|zS rfl rfl (zX rfl rfl) (fun b1=> ?_)
 refine zS rfl rfl (zI zr42 rfl) (fun b2=> ?_)
 refine zS rfl rfl (zI zr42 rfl) (fun b3=> ?_)
 refine zS rfl rfl (zI zr42 rfl) (fun b4=> ?_)
 refine r_pv rfl rfl (zd rfl)<|zj<|ze<|zh<|zh<|zc<|r_u rfl rfl (zi 3 ty33 rfl rfl (.take (.take (.take (.take (.take (.take (.take (.take (.take (.take (.take (.take (.take .nil))))))))))))))<|zQ rfl rfl (.c rfl .n) ce12 (zMb (ar:=ar) (le:=le) (tp:=tp) (rt:=rt) (bt:=bt) (sx:=sx) (sy:=sy) (xx:=xx) (xy:=xy) (yy:=yy) (ms:=ms) (mx:=mx) (my:=my)) (.n)<|r_pv rfl rfl (zd rfl)<|zj<|ze<|zh<|zc<|r_pv rfl rfl (zb rfl)<|r_pv rfl rfl (zHa rfl rfl)<|zj<|ze<|zD rfl (fun hc=> ?_) (fun hc=> ?_)
 ·
  have hok:¬Bl.ok ar le tp rt bt sx sy xx xy yy ms mx my:=fun k=>hc (if_pos k)
  refine zh<|zc<|r_pv rfl rfl (zK zr42 rfl Tryz.underlying42 (.c sz40 (.c sz40 .n)) .n .n)<|r_pv rfl rfl (zK zr42 rfl Tryz.underlying42 (.c sz40 (.c sz40 .n)) .n .n)<|r_pv rfl rfl (zK zr42 rfl Tryz.underlying42 (.c sz40 (.c sz40 .n)) .n .n)<|r_pv rfl rfl (zb rfl)<|zr 2 rfl rfl rfl rfl rfl sz42 rfl (.take (.take (.take (.take .nil)))) (.s (.s .z))<|zr 1 rfl rfl rfl rfl rfl sz42 rfl (.take (.take (.take (.take .nil)))) (.s .z)<|zr 0 rfl rfl rfl rfl rfl sz42 rfl (.take (.take (.take (.take .nil)))) .z<|r_pv rfl rfl (zd rfl)<|zj<|ze<|zG<|zq<|zmb (qF false wz wz 0) (fun g _=>qF_none g) ?_
  exact zyf Tryz.results16 (wz,wz,wz,wz,wz,wz) trivial (zv 2 ty42 rfl rfl (.take (.take (.take (.take .nil))))) (zv 1 ty42 rfl rfl (.take (.take (.take (.take .nil))))) (zv 0 ty42 rfl rfl (.take (.take (.take (.take .nil))))) (zo rfl) (by simp only [if_neg hok];rfl) (ho:=(.n:PickO _ _ _)) ((.e (j:=0) rfl (by rw [if_neg hok,decide_eq_false hok]) (.e (j:=0) rfl (by rw [if_neg hok,decide_eq_false hok]) (.e (j:=0) rfl (by rw [if_neg hok,decide_eq_false hok]) .n))):SelR _ _ _)
 ·
  have hok:Bl.ok ar le tp rt bt sx sy xx xy yy ms mx my:=Bl.c0.1 (Decidable.not_not.1 hc)
  have ho9:=hok
  unfold Bl.ok at ho9
  have e0:=Bl.mul_b (x:=ar) (y:=le) (m:=4096) (n:=63) (by omega) (by omega)
  have e1:=Bl.mul_b (x:=ar) (y:=rt) (m:=4096) (n:=63) (by omega) (by omega)
  have e2:=Bl.mul_b (x:=ar) (y:=tp) (m:=4096) (n:=63) (by omega) (by omega)
  have e3:=Bl.mul_b (x:=ar) (y:=bt) (m:=4096) (n:=63) (by omega) (by omega)
  have e4:=Bl.mul_b (x:=ms) (y:=le) (m:=268431360) (n:=63) (by omega) (by omega)
  have e5:=Bl.mul_b (x:=ms) (y:=rt) (m:=268431360) (n:=63) (by omega) (by omega)
  have e6:=Bl.mul_b (x:=ms) (y:=tp) (m:=268431360) (n:=63) (by omega) (by omega)
  have e7:=Bl.mul_b (x:=ms) (y:=bt) (m:=268431360) (n:=63) (by omega) (by omega)
  refine zy<|ze<|zh<|zCb 3 rfl (.s (.s (.s .z)))<|zc<|r_pv rfl rfl (zYa .n (.c rfl .n))<|r_pv rfl rfl (zd rfl)<|zj<|ze<|zh<|zAa (.c (i:=2) rfl (.c (i:=1) rfl (.c (i:=0) rfl (.c (i:=0) rfl .n))))<|zla (OW:=[boxA b2 42 [.bool false,.slice none 0 0,.bool false,.slice none 0 0],boxA b3 42 [.bool false,.slice none 0 0,.bool false,.slice none 0 0],boxA b4 42 [.bool false,.slice none 0 0,.bool false,.slice none 0 0]]) (O:=[emA]) 24 mixed (.then .ret) (by kernel_rfl)<|d_pv 0 rfl rfl (by kernel_rfl) (by kernel_rfl) rfl rfl (zb rfl)<|d_pv 1 rfl rfl (by kernel_rfl) (by kernel_rfl) rfl rfl (zg Tryz.underlying33 rfl sz3 rfl rfl)<|d_u 2 rfl rfl (by kernel_rfl) (by kernel_rfl) rfl rfl (zn (j:=7) 0 ty3 rfl rfl rfl rfl)<|d_pv 3 rfl rfl (by kernel_rfl) (by kernel_rfl) rfl rfl (zg Tryz.underlying33 rfl sz3 rfl rfl)<|d_u 4 rfl rfl (by kernel_rfl) (by kernel_rfl) rfl rfl (zn (j:=5) 0 ty3 rfl rfl rfl rfl)<|d_pv 5 rfl rfl (by kernel_rfl) (by kernel_rfl) rfl rfl (zg Tryz.underlying33 rfl sz3 rfl rfl)<|d_u 6 rfl rfl (by kernel_rfl) (by kernel_rfl) rfl rfl (zn (j:=5) 0 ty3 rfl rfl rfl rfl)<|d_pv 8 rfl rfl (by kernel_rfl) (by kernel_rfl) rfl rfl (zb rfl)<|d_pv 9 rfl rfl (by kernel_rfl) (by kernel_rfl) rfl rfl (zg Tryz.underlying33 rfl sz3 rfl rfl)<|d_u 10 rfl rfl (by kernel_rfl) (by kernel_rfl) rfl rfl (zn (j:=8) 0 ty3 rfl rfl rfl rfl)<|d_pv 11 rfl rfl (by kernel_rfl) (by kernel_rfl) rfl rfl (zg Tryz.underlying33 rfl sz3 rfl rfl)<|d_u 12 rfl rfl (by kernel_rfl) (by kernel_rfl) rfl rfl (zn (j:=5) 0 ty3 rfl rfl rfl rfl)<|d_pv 13 rfl rfl (by kernel_rfl) (by kernel_rfl) rfl rfl (zg Tryz.underlying33 rfl sz3 rfl rfl)<|d_u 14 rfl rfl (by kernel_rfl) (by kernel_rfl) rfl rfl (zn (j:=6) 0 ty3 rfl rfl rfl rfl)<|d_pv 16 rfl rfl (by kernel_rfl) (by kernel_rfl) rfl rfl (zb rfl)<|d_pv 17 rfl rfl (by kernel_rfl) (by kernel_rfl) rfl rfl (zg Tryz.underlying33 rfl sz3 rfl rfl)<|d_u 18 rfl rfl (by kernel_rfl) (by kernel_rfl) rfl rfl (zn (j:=9) 0 ty3 rfl rfl rfl rfl)<|d_pv 19 rfl rfl (by kernel_rfl) (by kernel_rfl) rfl rfl (zg Tryz.underlying33 rfl sz3 rfl rfl)<|d_u 20 rfl rfl (by kernel_rfl) (by kernel_rfl) rfl rfl (zn (j:=6) 0 ty3 rfl rfl rfl rfl)<|d_pv 21 rfl rfl (by kernel_rfl) (by kernel_rfl) rfl rfl (zg Tryz.underlying33 rfl sz3 rfl rfl)<|d_u 22 rfl rfl (by kernel_rfl) (by kernel_rfl) rfl rfl (zn (j:=6) 0 ty3 rfl rfl rfl rfl)<|zV 7 (by kernel_rfl) (zJd (first:=[]) (cap:=[.pointer (some ⟨b1,0,none⟩)]) rfl rfl rfl rfl rfl (.c rfl (.c rfl (.c rfl .n))) ce35 (zub (ar:=ar) (le:=le) (tp:=tp) (rt:=rt) (bt:=bt) (sx:=sx) (sy:=sy) (xx:=xx) (xy:=xy) (yy:=yy) (ms:=ms) (mx:=mx) (my:=my) (bb:=b1) (u:=xx) (v:=sx) (w:=sx) (ho:=by first|rfl|assumption|omega) (hp:=by first|rfl|assumption|omega) (hs:=by first|rfl|assumption|omega) (ht:=by first|rfl|assumption|omega)) (.c (j:=0) rfl .n) ?_)
  rintro ⟨w35,w46⟩ -
  dsimp only [List.append_eq,List.nil_append,List.cons_append]
  refine zV 15 (by kernel_rfl) (zJd (first:=[]) (cap:=[.pointer (some ⟨b1,0,none⟩)]) rfl rfl rfl rfl rfl (.c rfl (.c rfl (.c rfl .n))) ce35 (zub (ar:=ar) (le:=le) (tp:=tp) (rt:=rt) (bt:=bt) (sx:=sx) (sy:=sy) (xx:=xx) (xy:=xy) (yy:=yy) (ms:=ms) (mx:=mx) (my:=my) (bb:=b1) (u:=xy) (v:=sx) (w:=sy) (ho:=by first|rfl|assumption|omega) (hp:=by first|rfl|assumption|omega) (hs:=by first|rfl|assumption|omega) (ht:=by first|rfl|assumption|omega)) (.c (j:=1) rfl .n) ?_)
  rintro ⟨w37,w48⟩ -
  dsimp only [List.append_eq,List.nil_append,List.cons_append]
  refine zV 23 (by kernel_rfl) (zJd (first:=[]) (cap:=[.pointer (some ⟨b1,0,none⟩)]) rfl rfl rfl rfl rfl (.c rfl (.c rfl (.c rfl .n))) ce35 (zub (ar:=ar) (le:=le) (tp:=tp) (rt:=rt) (bt:=bt) (sx:=sx) (sy:=sy) (xx:=xx) (xy:=xy) (yy:=yy) (ms:=ms) (mx:=mx) (my:=my) (bb:=b1) (u:=yy) (v:=sy) (w:=sy) (ho:=by first|rfl|assumption|omega) (hp:=by first|rfl|assumption|omega) (hs:=by first|rfl|assumption|omega) (ht:=by first|rfl|assumption|omega)) (.c (j:=2) rfl .n) ?_)
  rintro ⟨w39,w410⟩ -
  dsimp only [List.append_eq,List.nil_append,List.cons_append]
  refine zV 24 (by kernel_rfl) (zN (by kernel_rfl) rfl rfl rfl rfl rfl sz42 rfl (.take (.take (.take (.take .nil)))) ?_)
  refine zOa (zqa (i:=1) rfl)<|zV 25 (by kernel_rfl) (zN (by kernel_rfl) rfl rfl rfl rfl rfl sz42 rfl (.take (.take (.take (.take .nil)))) ?_)
  refine zOa (zqa (i:=2) rfl)<|zV 26 (by kernel_rfl) (zN (by kernel_rfl) rfl rfl rfl rfl rfl sz42 rfl (.take (.take (.take (.take .nil)))) ?_)
  refine d_pv 27 rfl rfl (by kernel_rfl) (by kernel_rfl) rfl rfl (zd rfl)<|zfa (by kernel_rfl)<|ze<|zG ?_
  exact zyf Tryz.results16 (w35,w46,w37,w48,w39,w410) trivial (zv 2 ty42 rfl rfl (.take (.take (.take (.take .nil))))) (zv 1 ty42 rfl rfl (.take (.take (.take (.take .nil))))) (zv 0 ty42 rfl rfl (.take (.take (.take (.take .nil))))) (zo rfl) (by rw [if_pos hok]) (ho:=(.n:PickO _ _ _)) ((.e (j:=2) rfl (by rw [if_pos hok,decide_eq_true hok]) (.e (j:=1) rfl (by rw [if_pos hok,decide_eq_true hok]) (.e (j:=0) rfl (by rw [if_pos hok,decide_eq_true hok]) .n))):SelR _ _ _)
theorem zMc {ar:Int} {le:Int} {tp:Int} {rt:Int} {bt:Int} {sx:Int} {sy:Int} {xx:Int} {xy:Int} {yy:Int} {ms:Int} {mx:Int} {my:Int} (hok:Bl.ok ar le tp rt bt sx sy xx xy yy ms mx my):Con Tryz.prog 16 [.agg #[.int .i64 (ar),.int .i64 (le),.int .i64 (tp),.int .i64 (rt),.int .i64 (bt),.int .i64 (sx),.int .i64 (sy),.int .i64 (xx),.int .i64 (xy),.int .i64 (yy),.int .i64 (ms),.int .i64 (mx),.int .i64 (my)]] [] [] (Y:=(Wd)×(Wd)×(Wd)×(Wd)×(Wd)×(Wd)) (fun y=>True) (fun y=> .tuple #[.agg #[y.1.b,y.1.l,y.2.1.b,y.2.1.l],.agg #[y.2.2.1.b,y.2.2.1.l,y.2.2.2.1.b,y.2.2.2.1.l],.agg #[y.2.2.2.2.1.b,y.2.2.2.2.1.l,y.2.2.2.2.2.b,y.2.2.2.2.2.l],.int .i64 (0)]) (fun y=>[]) (fun y=>[qF true y.1 y.2.1 (Rat.divInt (xx*ar - sx*sx) (ar*ar)),qF true y.2.2.1 y.2.2.2.1 (Rat.divInt (xy*ar - sx*sy) (ar*ar)),qF true y.2.2.2.2.1 y.2.2.2.2.2 (Rat.divInt (yy*ar - sy*sy) (ar*ar))]):=by
  have h:= @zDd ar le tp rt bt sx sy xx xy yy ms mx my
  simp only [if_pos hok,decide_eq_true hok] at h
  exact h
theorem zje {ar:Int} {le:Int} {tp:Int} {rt:Int} {bt:Int} {sx:Int} {sy:Int} {xx:Int} {xy:Int} {yy:Int} {ms:Int} {mx:Int} {my:Int}:Con Tryz.prog 13 [.agg #[.int .i64 ar,.int .i64 le,.int .i64 tp,.int .i64 rt,.int .i64 bt,.int .i64 sx,.int .i64 sy,.int .i64 xx,.int .i64 xy,.int .i64 yy,.int .i64 ms,.int .i64 mx,.int .i64 my]] [] [] (Y:=Wd×Wd×Wd×Wd) (fun y=>True) (fun y=> .tuple #[.agg #[y.1.b,y.1.l,y.2.1.b,y.2.1.l,y.2.2.1.b,y.2.2.1.l,y.2.2.2.b,y.2.2.2.l],.int .i64 (if Bl.ok ar le tp rt bt sx sy xx xy yy ms mx my then (if ms=0 then 13 else 0) else 1)]) (fun y=>[]) (fun y=>[qF (decide (Bl.ok ar le tp rt bt sx sy xx xy yy ms mx my∧ms≠0)) y.1 y.2.1 (if Bl.ok ar le tp rt bt sx sy xx xy yy ms mx my∧ms≠0 then Rat.divInt (2*mx+ms) (2*ms) else 0),qF (decide (Bl.ok ar le tp rt bt sx sy xx xy yy ms mx my∧ms≠0)) y.2.2.1 y.2.2.2 (if Bl.ok ar le tp rt bt sx sy xx xy yy ms mx my∧ms≠0 then Rat.divInt (2*my+ms) (2*ms) else 0)]):=by
 refine zp Tryz.func13 rfl rfl rfl (fun c=> ?_)
 show RunC _ _ _ _ _ [(0,.agg #[.int .i64 ar,.int .i64 le,.int .i64 tp,.int .i64 rt,.int .i64 bt,.int .i64 sx,.int .i64 sy,.int .i64 xx,.int .i64 xy,.int .i64 yy,.int .i64 ms,.int .i64 mx,.int .i64 my])] [] []
 refine zh<|zc<|zS rfl rfl (zX rfl rfl) (fun b1=> ?_)
 refine zS rfl rfl (zI zr44 rfl) (fun b2=> ?_)
 refine r_pv rfl rfl (zd rfl)<|zj<|ze<|zh<|zh<|zc<|r_u rfl rfl (zi 1 ty33 rfl rfl (.take (.take (.take (.take (.take (.take (.take (.take (.take (.take (.take (.take (.take .nil))))))))))))))<|zQ rfl rfl (.c rfl .n) ce12 (zMb (ar:=ar) (le:=le) (tp:=tp) (rt:=rt) (bt:=bt) (sx:=sx) (sy:=sy) (xx:=xx) (xy:=xy) (yy:=yy) (ms:=ms) (mx:=mx) (my:=my)) (.n)<|r_pv rfl rfl (zd rfl)<|zj<|ze<|zh<|zc<|r_pv rfl rfl (zb rfl)<|r_pv rfl rfl (zHa rfl rfl)<|zj<|ze<|zD rfl (fun hc=> ?_) (fun hc=> ?_)
 ·
  have hok:¬Bl.ok ar le tp rt bt sx sy xx xy yy ms mx my:=fun k=>hc (if_pos k)
  have hno:¬(Bl.ok ar le tp rt bt sx sy xx xy yy ms mx my∧ms≠0):=fun k=>hok k.1
  refine zh<|zc<|r_pv rfl rfl (zK zr44 rfl Tryz.underlying44 (.c sz42 (.c sz42 .n)) .n .n)<|r_pv rfl rfl (zb rfl)<|zr 0 rfl rfl rfl rfl rfl sz44 rfl (.take (.take (.take (.take (.take (.take (.take (.take .nil)))))))) .z<|r_pv rfl rfl (zd rfl)<|zj<|ze<|zG<|zq<|zmb (qF false wz wz 0) (fun g _=>qF_none g) ?_
  exact zwa Tryz.results13 (wz,wz,wz,wz) trivial (zv 0 ty44 rfl rfl (.take (.take (.take (.take (.take (.take (.take (.take .nil))))))))) (zo rfl) (by simp only [if_neg hok];rfl) (ho:=(.n:PickO _ _ _)) ((.e (j:=0) rfl (by rw [if_neg hno,decide_eq_false hno]) (.e (j:=0) rfl (by rw [if_neg hno,decide_eq_false hno]) .n)):SelR _ _ _)
 ·
  have hok:Bl.ok ar le tp rt bt sx sy xx xy yy ms mx my:=Bl.c0.1 (Decidable.not_not.1 hc)
  have ho9:=hok
  unfold Bl.ok at ho9
  have e0:=Bl.mul_b (x:=ar) (y:=le) (m:=4096) (n:=63) (by omega) (by omega)
  have e1:=Bl.mul_b (x:=ar) (y:=rt) (m:=4096) (n:=63) (by omega) (by omega)
  have e2:=Bl.mul_b (x:=ar) (y:=tp) (m:=4096) (n:=63) (by omega) (by omega)
  have e3:=Bl.mul_b (x:=ar) (y:=bt) (m:=4096) (n:=63) (by omega) (by omega)
  have e4:=Bl.mul_b (x:=ms) (y:=le) (m:=268431360) (n:=63) (by omega) (by omega)
  have e5:=Bl.mul_b (x:=ms) (y:=rt) (m:=268431360) (n:=63) (by omega) (by omega)
  have e6:=Bl.mul_b (x:=ms) (y:=tp) (m:=268431360) (n:=63) (by omega) (by omega)
  have e7:=Bl.mul_b (x:=ms) (y:=bt) (m:=268431360) (n:=63) (by omega) (by omega)
  refine zy<|ze<|zh<|zh<|zc<|r_pv rfl rfl (zg Tryz.underlying33 rfl sz3 rfl rfl)<|r_u rfl rfl (zf 1 ty3 rfl rfl rfl)<|r_pv rfl rfl (zCa rfl rfl)<|zj<|ze<|zD rfl (fun hm=> ?_) (fun hm=> ?_)
  ·
   have hno:¬(Bl.ok ar le tp rt bt sx sy xx xy yy ms mx my∧ms≠0):=fun k=>k.2 hm
   refine zh<|zc<|r_pv rfl rfl (zK zr44 rfl Tryz.underlying44 (.c sz42 (.c sz42 .n)) .n .n)<|zr 0 rfl rfl rfl rfl rfl sz44 rfl (.take (.take (.take (.take (.take (.take (.take (.take .nil)))))))) .z<|r_pv rfl rfl (zd rfl)<|zj<|ze<|zG<|zq<|zmb (qF false wz wz 0) (fun g _=>qF_none g) ?_
   exact zwa Tryz.results13 (wz,wz,wz,wz) trivial (zv 0 ty44 rfl rfl (.take (.take (.take (.take (.take (.take (.take (.take .nil))))))))) (zo rfl) (by rw [if_pos hok,if_pos hm];rfl) (ho:=(.n:PickO _ _ _)) ((.e (j:=0) rfl (by rw [if_neg hno,decide_eq_false hno]) (.e (j:=0) rfl (by rw [if_neg hno,decide_eq_false hno]) .n)):SelR _ _ _)
  ·
   have hye:Bl.ok ar le tp rt bt sx sy xx xy yy ms mx my∧ms≠0:=⟨hok,hm⟩
   refine zy<|ze<|zh<|zla (OW:=[boxA b2 44 [.bool false,.slice none 0 0,.bool false,.slice none 0 0,.bool false,.slice none 0 0,.bool false,.slice none 0 0]]) (O:=[boxA b1 33 [.int .i64 ar,.int .i64 le,.int .i64 tp,.int .i64 rt,.int .i64 bt,.int .i64 sx,.int .i64 sy,.int .i64 xx,.int .i64 xy,.int .i64 yy,.int .i64 ms,.int .i64 mx,.int .i64 my]]) 21 mixed (.then .ret) (by kernel_rfl)<|d_pv 0 rfl rfl (by kernel_rfl) (by kernel_rfl) rfl rfl (zg Tryz.underlying33 rfl sz3 rfl rfl)<|d_uw 1 rfl rfl (by kernel_rfl) (by kernel_rfl) (by kernel_rfl) rfl rfl (zf 1 ty3 rfl rfl rfl)<|d_pv 2 rfl rfl (by kernel_rfl) (by kernel_rfl) rfl rfl (zna (z:=(2*mx)) rfl rfl (w64 (by omega)))<|d_pv 3 rfl rfl (by kernel_rfl) (by kernel_rfl) rfl rfl (zg Tryz.underlying33 rfl sz3 rfl rfl)<|d_uw 4 rfl rfl (by kernel_rfl) (by kernel_rfl) (by kernel_rfl) rfl rfl (zf 1 ty3 rfl rfl rfl)<|d_pv 5 rfl rfl (by kernel_rfl) (by kernel_rfl) rfl rfl (zz (z:=((2*mx)+ms)) rfl rfl (w64 (by omega)))<|d_pv 6 rfl rfl (by kernel_rfl) (by kernel_rfl) rfl rfl (zg Tryz.underlying33 rfl sz3 rfl rfl)<|d_uw 7 rfl rfl (by kernel_rfl) (by kernel_rfl) (by kernel_rfl) rfl rfl (zf 1 ty3 rfl rfl rfl)<|d_pv 8 rfl rfl (by kernel_rfl) (by kernel_rfl) rfl rfl (zna (z:=(2*ms)) rfl rfl (w64 (by omega)))<|d_pv 10 rfl rfl (by kernel_rfl) (by kernel_rfl) rfl rfl (zg Tryz.underlying33 rfl sz3 rfl rfl)<|d_uw 11 rfl rfl (by kernel_rfl) (by kernel_rfl) (by kernel_rfl) rfl rfl (zf 1 ty3 rfl rfl rfl)<|d_pv 12 rfl rfl (by kernel_rfl) (by kernel_rfl) rfl rfl (zna (z:=(2*my)) rfl rfl (w64 (by omega)))<|d_pv 13 rfl rfl (by kernel_rfl) (by kernel_rfl) rfl rfl (zg Tryz.underlying33 rfl sz3 rfl rfl)<|d_uw 14 rfl rfl (by kernel_rfl) (by kernel_rfl) (by kernel_rfl) rfl rfl (zf 1 ty3 rfl rfl rfl)<|d_pv 15 rfl rfl (by kernel_rfl) (by kernel_rfl) rfl rfl (zz (z:=((2*my)+ms)) rfl rfl (w64 (by omega)))<|d_pv 16 rfl rfl (by kernel_rfl) (by kernel_rfl) rfl rfl (zg Tryz.underlying33 rfl sz3 rfl rfl)<|d_uw 17 rfl rfl (by kernel_rfl) (by kernel_rfl) (by kernel_rfl) rfl rfl (zf 1 ty3 rfl rfl rfl)<|d_pv 18 rfl rfl (by kernel_rfl) (by kernel_rfl) rfl rfl (zna (z:=(2*ms)) rfl rfl (w64 (by omega)))<|zV 9 (by kernel_rfl) (zW rfl rfl rfl rfl (.c rfl (.c rfl .n)) ce32 (znc (z1:=((2*mx)+ms)) (z2:=(2*ms)) (hz1:=by first|rfl|assumption|omega) (hz2:=by first|rfl|assumption|omega) (hy:=by first|rfl|assumption|omega)) (.n) ?_)
   rintro ⟨w33,w44⟩ -
   dsimp only [List.append_eq,List.nil_append,List.cons_append]
   refine zV 19 (by kernel_rfl) (zW rfl rfl rfl rfl (.c rfl (.c rfl .n)) ce32 (znc (z1:=((2*my)+ms)) (z2:=(2*ms)) (hz1:=by first|rfl|assumption|omega) (hz2:=by first|rfl|assumption|omega) (hy:=by first|rfl|assumption|omega)) (.n) ?_)
   rintro ⟨w35,w46⟩ -
   dsimp only [List.append_eq,List.nil_append,List.cons_append]
   refine d_pv 20 rfl rfl (by kernel_rfl) (by kernel_rfl) rfl rfl (zK zr44 rfl Tryz.underlying44 (.c sz42 (.c sz42 .n)) (.c rfl (.c rfl .n)) (.c rfl rfl rfl (.take (.take (.take (.take .nil)))) (.c rfl rfl rfl (.skip (.skip (.skip (.skip (.take (.take (.take (.take .nil)))))))) .n)))<|zV 21 (by kernel_rfl) (zN (by kernel_rfl) rfl rfl rfl rfl rfl sz44 rfl (.take (.take (.take (.take (.take (.take (.take (.take .nil)))))))) ?_)
   refine d_pv 22 rfl rfl (by kernel_rfl) (by kernel_rfl) rfl rfl (zd rfl)<|zfa (by kernel_rfl)<|ze<|zG ?_
   exact zwa Tryz.results13 (w33,w44,w35,w46) trivial (zv 0 ty44 rfl rfl (.take (.take (.take (.take (.take (.take (.take (.take .nil))))))))) (zo rfl) (by rw [if_pos hok,if_neg hm]) (ho:=(.n:PickO _ _ _)) ((.e (j:=1) rfl (by rw [if_pos hye,decide_eq_true hye]) (.e (j:=0) rfl (by rw [if_pos hye,decide_eq_true hye]) .n)):SelR _ _ _)
theorem zjd {ar:Int} {le:Int} {tp:Int} {rt:Int} {bt:Int} {sx:Int} {sy:Int} {xx:Int} {xy:Int} {yy:Int} {ms:Int} {mx:Int} {my:Int} (hok:Bl.ok ar le tp rt bt sx sy xx xy yy ms mx my) (hm:ms≠0):Con Tryz.prog 13 [.agg #[.int .i64 (ar),.int .i64 (le),.int .i64 (tp),.int .i64 (rt),.int .i64 (bt),.int .i64 (sx),.int .i64 (sy),.int .i64 (xx),.int .i64 (xy),.int .i64 (yy),.int .i64 (ms),.int .i64 (mx),.int .i64 (my)]] [] [] (Y:=(Wd)×(Wd)×(Wd)×(Wd)) (fun y=>True) (fun y=> .tuple #[.agg #[y.1.b,y.1.l,y.2.1.b,y.2.1.l,y.2.2.1.b,y.2.2.1.l,y.2.2.2.b,y.2.2.2.l],.int .i64 (0)]) (fun y=>[]) (fun y=>[qF true y.1 y.2.1 (Rat.divInt (2*mx+ms) (2*ms)),qF true y.2.2.1 y.2.2.2 (Rat.divInt (2*my+ms) (2*ms))]):=by
  have h:= @zje ar le tp rt bt sx sy xx xy yy ms mx my
  have h2:Bl.ok ar le tp rt bt sx sy xx xy yy ms mx my∧ms≠0:=⟨hok,hm⟩
  simp only [if_pos hok,if_neg hm,if_pos h2,decide_eq_true h2] at h
  exact h
end Go.Proofs.YtefbbhiaalcjfaaGreat.Sp
namespace Go.Proofs.YtefbbhiaalcjfaaGreat.Fl
open Sp (Bb b0)
theorem self_eq (z:Int):decide (z=z)=true:=decide_eq_true rfl
instance (e:Bool) (w n j k:Nat):Decidable (nb e w n j k):=by unfold nb;infer_instance
theorem Lst.cert {n:Nat} {f:Nat→Bool} {adj:Nat→Nat→Prop} (c p:Nat→Nat) (hf:∀i,f i=true→i<n)
    (h1:∀i,i<n→f i=true→c i≤i∧(c i=i∨(f (p i)=true∧adj i (p i)∧p i<i∧c (p i)=c i)))
    (h2:∀i,i<n→∀k,k<n→f i=true→f k=true→adj i k→c i=c k):Lst (fun j=>f j=true) adj c:=by
  refine ⟨fun i hi=>(h1 i (hf i hi) hi).1,fun i=> ?_,fun i k hi hk ha=>h2 i (hf i hi) k (hf k hk) hi hk ha⟩
  induction i using Nat.strongRecOn with
  |ind i ih=>
    intro hi
    rcases (h1 i (hf i hi) hi).2 with e|⟨a,b,d,e⟩
    · rw [e];exact .refl i
    · rw [← e];exact .step hi a b (ih (p i) d a)
def pixK:List Int:=[9,9,0,0,0,9,0,5,0,0,0,5]
def labK:List Int:=[0,0,-1,-1,-1,0,-1,1,-1,-1,-1,1]
def cK (i:Nat):Nat:=([0,0,2,3,4,0,6,7,8,9,10,7]:List Nat).getD i 0
def pK (i:Nat):Nat:=([0,0,2,3,4,1,6,7,8,9,10,7]:List Nat).getD i 0
theorem lstK:Lst (fun j=>ge pixK 5 j=true) (nb false 4 12) cK:=
  Lst.cert (n:=12) (f:=ge pixK 5) cK pK (fun i hi=>ge_lt (l:=pixK) hi) (by decide +kernel) (by decide +kernel)
theorem labcK:LabC 12 (ge pixK 5) cK labK:=⟨rfl,by decide +kernel,by decide +kernel⟩
theorem labrK:LabR 4 3 9 pixK 5 labK:=LabR.yes (w:=4) (n:=12) (by decide +kernel) rfl (labcK.lab lstK)
def blK:List Bb:=[⟨3,0,0,1,1,2,1,2,1,1,27,18,9⟩,⟨2,3,1,3,2,6,3,18,9,5,10,30,15⟩]
theorem blsK:BlsR 4 3 9 pixK 5 blK:=BlsR.yes (w:=4) (n:=12) (by decide +kernel) rfl lstK labcK (by decide +kernel)
def pixH:List Int:=[1,1,1,1,0,1,1,1,1]
theorem holK:HolR 3 3 1 pixH 1 1:=
  HolR.yes (w:=3) (h:=3) (n:=9) (c:=id) (by decide +kernel) rfl
    (Lst.cert (n:=9) (f:=lo pixH 1) id id (fun i hi=>lo_lt (l:=pixH) hi) (by decide +kernel) (by decide +kernel)) (by decide +kernel)
end Go.Proofs.YtefbbhiaalcjfaaGreat.Fl
namespace Go.Proofs.YtefbbhiaalcjfaaGreat.Sp
open Go
set_option linter.unusedVariables false
set_option maxRecDepth 100000
set_option maxHeartbeats 1000000
theorem zdf:Con Tryz.prog 5 [] [] [] (Y:=Unit) (fun y=>True) (fun y=> .bool true) (fun y=>[]) (fun y=>[]):=by
 refine zp Tryz.func5 rfl rfl rfl (fun c=> ?_)
 show RunC _ _ _ _ _ [] [] []
 refine zh<|zc<|r_pv rfl rfl (zd rfl)<|zj<|ze<|zh<|zc<|zra rfl rfl (zE (enc:=fun z:Int=>[.int .i64 z]) (ok:=InK .i64) (h1:=fun _=>rfl) (h2:=fun _=>rfl) (k:=12) Tryz.underlying22 inf3 rfl (by decide) (by decide) (by decide) (.c (x:=9) rfl rfl (fun _ _=>by exact zk.2 (by omega)) (.c (x:=9) rfl rfl (fun _ _=>by exact zk.2 (by omega)) (.c (x:=0) rfl rfl (fun _ _=>by exact zk.2 (by omega)) (.c (x:=0) rfl rfl (fun _ _=>by exact zk.2 (by omega)) (.c (x:=0) rfl rfl (fun _ _=>by exact zk.2 (by omega)) (.c (x:=9) rfl rfl (fun _ _=>by exact zk.2 (by omega)) (.c (x:=0) rfl rfl (fun _ _=>by exact zk.2 (by omega)) (.c (x:=5) rfl rfl (fun _ _=>by exact zk.2 (by omega)) (.c (x:=0) rfl rfl (fun _ _=>by exact zk.2 (by omega)) (.c (x:=0) rfl rfl (fun _ _=>by exact zk.2 (by omega)) (.c (x:=0) rfl rfl (fun _ _=>by exact zk.2 (by omega)) (.c (x:=5) rfl rfl (fun _ _=>by exact zk.2 (by omega)) .n))))))))))))) (fun b1 _=> ?_)
 refine r_pv rfl rfl (zK zr24 rfl Tryz.underlying24 (.c sz3 (.c sz3 (.c sz3 (.c sz22 .n)))) (.c rfl (.c rfl (.c rfl (.c rfl .n)))) (.c rfl rfl rfl (.take .nil) (.c rfl rfl rfl (.skip (.take .nil)) (.c rfl rfl rfl (.skip (.skip (.take .nil))) (.c rfl rfl rfl (.skip (.skip (.skip (.take .nil)))) .n)))))<|zS rfl rfl (zI zr24 rfl) (fun b2=> ?_)
 refine zr 0 rfl rfl rfl rfl rfl sz24 rfl (.take (.take (.take (.take .nil)))) .z<|zj<|ze<|zh<|zc<|r_u rfl rfl (zi 0 ty24 rfl rfl (.take (.take (.take (.take .nil)))))<|zda 1 rfl (.s .z)<|zC rfl rfl (.c rfl (.c rfl .n)) ce20 (zKe (w:=4) (h:=3) (m:=9) (p:=some ⟨b1,0,none⟩) (n:=12) (cap:=12) (l:=[9,9,0,0,0,9,0,5,0,0,0,5]) (th:=5) (hn:=by first|rfl|assumption|omega|decide|(decide +kernel))) (.c (j:=0) rfl .n) ?_
 rintro ⟨p33,c34,oL⟩ hL
 dsimp only [List.append_eq,List.nil_append,List.cons_append]
 replace hL:Fl.LabR 4 3 9 ([9,9,0,0,0,9,0,5,0,0,0,5]) 5 oL:=hL
 have e5:oL=Fl.labK:=by exact hL.uniq Fl.labrK
 subst e5
 have e6:=Fl.ask0.2 (show Bl.rok 4 3 9 ([9,9,0,0,0,9,0,5,0,0,0,5])∧(0:Int)≤5∧(5:Int)≤65536 by decide +kernel)
 rw [e6]
 refine r_pv rfl rfl (zb rfl)<|r_pv rfl rfl (zt rfl rfl)<|r_pv rfl rfl (zt rfl rfl)<|r_pv rfl rfl (zd rfl)<|r_pv rfl rfl (zd rfl)<|zj<|ze<|zh<|zc<|r_u rfl rfl (zi 0 ty24 rfl rfl (.take (.take (.take (.take .nil)))))<|zC rfl rfl (.c rfl (.c rfl .n)) ce7 (zZc (w:=4) (h:=3) (m:=9) (p:=some ⟨b1,0,none⟩) (n:=12) (cap:=12) (l:=[9,9,0,0,0,9,0,5,0,0,0,5]) (th:=5) (hn:=by first|rfl|assumption|omega|decide|(decide +kernel))) (.c (j:=1) rfl .n) ?_
 rintro ⟨p37,c38,aB⟩ hB
 dsimp only [List.append_eq,List.nil_append,List.cons_append]
 replace hB:Fl.BlsR 4 3 9 ([9,9,0,0,0,9,0,5,0,0,0,5]) 5 aB:=hB
 have e9:aB=Fl.blK:=by exact hB.uniq Fl.blsK
 subst e9
 have e10:=Fl.ask0.2 (show Bl.rok 4 3 9 ([9,9,0,0,0,9,0,5,0,0,0,5])∧(0:Int)≤5∧(5:Int)≤65536 by decide +kernel)
 rw [e10]
 refine r_pv rfl rfl (zb rfl)<|r_pv rfl rfl (zt rfl rfl)<|r_pv rfl rfl (zt rfl rfl)<|r_pv rfl rfl (zd rfl)<|r_pv rfl rfl (zd rfl)<|zj<|ze<|zh<|zh<|zc<|r_pv rfl rfl (zb rfl)<|r_pv rfl rfl (zb rfl)<|r_pv rfl rfl (zz (z:=0) rfl rfl (w64 (by decide)))<|r_pv rfl rfl (zHa rfl rfl) ?_
 rw [show false=false from by decide]
 refine r_pv rfl rfl (zb rfl)<|r_pv rfl rfl (zb rfl)<|zra rfl rfl (zE (enc:=fun z:Int=>[.int .i64 z]) (ok:=InK .i64) (h1:=fun _=>rfl) (h2:=fun _=>rfl) (k:=12) Tryz.underlying22 inf3 rfl (by decide) (by decide) (by decide) (.c (x:=0) rfl rfl (fun _ _=>by exact zk.2 (by omega)) (.c (x:=0) rfl rfl (fun _ _=>by exact zk.2 (by omega)) (.c (x:=(-1)) rfl rfl (fun _ _=>by exact zk.2 (by omega)) (.c (x:=(-1)) rfl rfl (fun _ _=>by exact zk.2 (by omega)) (.c (x:=(-1)) rfl rfl (fun _ _=>by exact zk.2 (by omega)) (.c (x:=0) rfl rfl (fun _ _=>by exact zk.2 (by omega)) (.c (x:=(-1)) rfl rfl (fun _ _=>by exact zk.2 (by omega)) (.c (x:=1) rfl rfl (fun _ _=>by exact zk.2 (by omega)) (.c (x:=(-1)) rfl rfl (fun _ _=>by exact zk.2 (by omega)) (.c (x:=(-1)) rfl rfl (fun _ _=>by exact zk.2 (by omega)) (.c (x:=(-1)) rfl rfl (fun _ _=>by exact zk.2 (by omega)) (.c (x:=1) rfl rfl (fun _ _=>by exact zk.2 (by omega)) .n))))))))))))) (fun b11 _=> ?_)
 refine zda 0 rfl .z<|zQ rfl rfl (.c rfl (.c rfl .n)) ce21 (zJe (p1:=p33) (n1:=(Fl.labK.length)) (c1:=c34) (l1:=Fl.labK) (p2:=some ⟨b11,0,none⟩) (n2:=12) (c2:=12) (l2:=[0,0,(-1),(-1),(-1),0,(-1),1,(-1),(-1),(-1),1]) (hn1:=by first|rfl|assumption|omega|decide|(decide +kernel)) (hn2:=by first|rfl|assumption|omega|decide|(decide +kernel))) (.c (j:=2) rfl (.c (j:=0) rfl .n)) ?_
 rw [show (decide (Fl.labK=([0,0,(-1),(-1),(-1),0,(-1),1,(-1),(-1),(-1),1])))=true from by decide +kernel]
 refine r_pv rfl rfl (zpb rfl)<|r_pv rfl rfl (zl rfl rfl)<|r_pv rfl rfl (zb rfl)<|r_pv rfl rfl (zb rfl)<|r_pv rfl rfl (zM Tryz.underlying27 rfl)<|r_pv rfl rfl (zHa rfl rfl) ?_
 rw [show (decide ((((Fl.blK.length):Nat):Int)≠2))=false from by decide +kernel]
 refine r_pv rfl rfl (zl rfl rfl)<|zj<|ze<|zWa rfl rfl<|zy<|ze<|zh<|zc<|r_pv rfl rfl (zb rfl)<|zL (x0:=(Fl.blK.getD 0 b0)) 1 0 rfl Tryz.underlying27 sz33 rfl rfl rfl (by first|rfl|assumption|(simp_all;done)|omega) rfl rfl (gD (d:=b0) (by first|omega|decide)) (fun b12 o13 hok14=> ?_)
 obtain ⟨hok140,hok141,hok142,hok143,hok144,hok145,hok146,hok147,hok148,hok149,hok1410,hok1411,hok1412⟩:=hok14
 replace hok140:=zk.1 hok140
 replace hok141:=zk.1 hok141
 replace hok142:=zk.1 hok142
 replace hok143:=zk.1 hok143
 replace hok144:=zk.1 hok144
 replace hok145:=zk.1 hok145
 replace hok146:=zk.1 hok146
 replace hok147:=zk.1 hok147
 replace hok148:=zk.1 hok148
 replace hok149:=zk.1 hok149
 replace hok1410:=zk.1 hok1410
 replace hok1411:=zk.1 hok1411
 replace hok1412:=zk.1 hok1412
 refine r_u rfl rfl (zya (j:=0) 0 ty33 rfl rfl rfl (.take (.take (.take (.take (.take (.take (.take (.take (.take (.take (.take (.take (.take .nil))))))))))))))<|zC rfl rfl (.c rfl .n) ce13 (zjd (ar:=(Fl.blK.getD 0 b0).ar) (le:=(Fl.blK.getD 0 b0).le) (tp:=(Fl.blK.getD 0 b0).tp) (rt:=(Fl.blK.getD 0 b0).rt) (bt:=(Fl.blK.getD 0 b0).bt) (sx:=(Fl.blK.getD 0 b0).sx) (sy:=(Fl.blK.getD 0 b0).sy) (xx:=(Fl.blK.getD 0 b0).xx) (xy:=(Fl.blK.getD 0 b0).xy) (yy:=(Fl.blK.getD 0 b0).yy) (ms:=(Fl.blK.getD 0 b0).ms) (mx:=(Fl.blK.getD 0 b0).mx) (my:=(Fl.blK.getD 0 b0).my) (hok:=by first|rfl|assumption|omega|decide|(decide +kernel)) (hm:=by first|rfl|assumption|omega|decide|(decide +kernel))) (.n) ?_
 rintro ⟨w315,w416,w517,w618⟩ -
 dsimp only [List.append_eq,List.nil_append,List.cons_append]
 refine r_pv rfl rfl (zb rfl)<|r_pv rfl rfl (zt rfl rfl)<|r_pv rfl rfl (zt rfl rfl)<|zS rfl rfl (zI zr44 rfl) (fun b19=> ?_)
 refine zr 0 rfl rfl rfl rfl rfl sz44 rfl (.take (.take (.take (.take (.take (.take (.take (.take .nil)))))))) .z<|r_pv rfl rfl (zd rfl)<|zj<|ze<|zh<|zc<|r_pv rfl rfl (zb rfl)<|zL (x0:=(Fl.blK.getD 0 b0)) 4 0 rfl Tryz.underlying27 sz33 rfl rfl rfl (by first|rfl|assumption|(simp_all;done)|omega) rfl rfl (gD (d:=b0) (by first|omega|decide)) (fun b20 o21 hok22=> ?_)
 obtain ⟨hok220,hok221,hok222,hok223,hok224,hok225,hok226,hok227,hok228,hok229,hok2210,hok2211,hok2212⟩:=hok22
 replace hok220:=zk.1 hok220
 replace hok221:=zk.1 hok221
 replace hok222:=zk.1 hok222
 replace hok223:=zk.1 hok223
 replace hok224:=zk.1 hok224
 replace hok225:=zk.1 hok225
 replace hok226:=zk.1 hok226
 replace hok227:=zk.1 hok227
 replace hok228:=zk.1 hok228
 replace hok229:=zk.1 hok229
 replace hok2210:=zk.1 hok2210
 replace hok2211:=zk.1 hok2211
 replace hok2212:=zk.1 hok2212
 refine r_u rfl rfl (zya (j:=0) 0 ty33 rfl rfl rfl (.take (.take (.take (.take (.take (.take (.take (.take (.take (.take (.take (.take (.take .nil))))))))))))))<|zC rfl rfl (.c rfl .n) ce16 (zMc (ar:=(Fl.blK.getD 0 b0).ar) (le:=(Fl.blK.getD 0 b0).le) (tp:=(Fl.blK.getD 0 b0).tp) (rt:=(Fl.blK.getD 0 b0).rt) (bt:=(Fl.blK.getD 0 b0).bt) (sx:=(Fl.blK.getD 0 b0).sx) (sy:=(Fl.blK.getD 0 b0).sy) (xx:=(Fl.blK.getD 0 b0).xx) (xy:=(Fl.blK.getD 0 b0).xy) (yy:=(Fl.blK.getD 0 b0).yy) (ms:=(Fl.blK.getD 0 b0).ms) (mx:=(Fl.blK.getD 0 b0).mx) (my:=(Fl.blK.getD 0 b0).my) (hok:=by first|rfl|assumption|omega|decide|(decide +kernel))) (.n) ?_
 rintro ⟨w323,w424,w525,w626,w727,w828⟩ -
 dsimp only [List.append_eq,List.nil_append,List.cons_append]
 refine r_pv rfl rfl (zb rfl)<|r_pv rfl rfl (zt rfl rfl)<|r_pv rfl rfl (zt rfl rfl)<|r_pv rfl rfl (zt rfl rfl)<|r_pv rfl rfl (zt rfl rfl)<|zS rfl rfl (zI zr42 rfl) (fun b29=> ?_)
 refine zS rfl rfl (zI zr42 rfl) (fun b30=> ?_)
 refine zS rfl rfl (zI zr42 rfl) (fun b31=> ?_)
 refine zr 2 rfl rfl rfl rfl rfl sz42 rfl (.take (.take (.take (.take .nil)))) (.s (.s .z))<|zr 1 rfl rfl rfl rfl rfl sz42 rfl (.take (.take (.take (.take .nil)))) (.s .z)<|zr 0 rfl rfl rfl rfl rfl sz42 rfl (.take (.take (.take (.take .nil)))) .z<|r_pv rfl rfl (zd rfl)<|zj<|ze<|zh<|zc<|zra rfl rfl (zE (enc:=fun z:Int=>[.int .i64 z]) (ok:=InK .i64) (h1:=fun _=>rfl) (h2:=fun _=>rfl) (k:=9) Tryz.underlying22 inf3 rfl (by decide) (by decide) (by decide) (.c (x:=1) rfl rfl (fun _ _=>by exact zk.2 (by omega)) (.c (x:=1) rfl rfl (fun _ _=>by exact zk.2 (by omega)) (.c (x:=1) rfl rfl (fun _ _=>by exact zk.2 (by omega)) (.c (x:=1) rfl rfl (fun _ _=>by exact zk.2 (by omega)) (.c (x:=0) rfl rfl (fun _ _=>by exact zk.2 (by omega)) (.c (x:=1) rfl rfl (fun _ _=>by exact zk.2 (by omega)) (.c (x:=1) rfl rfl (fun _ _=>by exact zk.2 (by omega)) (.c (x:=1) rfl rfl (fun _ _=>by exact zk.2 (by omega)) (.c (x:=1) rfl rfl (fun _ _=>by exact zk.2 (by omega)) .n)))))))))) (fun b32 _=> ?_)
 refine r_pv rfl rfl (zK zr24 rfl Tryz.underlying24 (.c sz3 (.c sz3 (.c sz3 (.c sz22 .n)))) (.c rfl (.c rfl (.c rfl (.c rfl .n)))) (.c rfl rfl rfl (.take .nil) (.c rfl rfl rfl (.skip (.take .nil)) (.c rfl rfl rfl (.skip (.skip (.take .nil))) (.c rfl rfl rfl (.skip (.skip (.skip (.take .nil)))) .n)))))<|zda 0 rfl .z<|zC rfl rfl (.c rfl (.c rfl .n)) ce22 (zLe (w:=3) (h:=3) (m:=1) (p:=some ⟨b32,0,none⟩) (n:=9) (cap:=9) (l:=[1,1,1,1,0,1,1,1,1]) (th:=1) (hn:=by first|rfl|assumption|omega|decide|(decide +kernel))) (.c (j:=0) rfl .n) ?_
 rintro zH hH
 dsimp only [List.append_eq,List.nil_append,List.cons_append]
 replace hH:Fl.HolR 3 3 1 ([1,1,1,1,0,1,1,1,1]) 1 zH:=hH
 have e33:zH=1:=by exact hH.uniq Fl.holK
 subst e33
 have e34:=Fl.ask0.2 (show Bl.rok 3 3 1 ([1,1,1,1,0,1,1,1,1])∧(0:Int)≤1∧(1:Int)≤65536 by decide +kernel)
 rw [e34]
 refine r_pv rfl rfl (zb rfl)<|r_pv rfl rfl (zt rfl rfl)<|r_pv rfl rfl (zt rfl rfl)<|r_pv rfl rfl (zd rfl)<|r_pv rfl rfl (zd rfl)<|zj<|ze<|zh<|zc<|zC rfl rfl (.c rfl (.c rfl .n)) ce23 (zDc (z1:=7) (z2:=6) (hz1:=by first|rfl|assumption|omega|decide|(decide +kernel)) (hz2:=by first|rfl|assumption|omega|decide|(decide +kernel)) (hy:=by first|rfl|assumption|omega|decide|(decide +kernel))) (.n) ?_
 rintro ⟨w335,w436⟩ -
 dsimp only [List.append_eq,List.nil_append,List.cons_append]
 refine r_pv rfl rfl (zb rfl)<|r_pv rfl rfl (zt rfl rfl)<|r_pv rfl rfl (zt rfl rfl)<|zS rfl rfl (zI zr42 rfl) (fun b37=> ?_)
 refine zr 0 rfl rfl rfl rfl rfl sz42 rfl (.take (.take (.take (.take .nil)))) .z<|r_pv rfl rfl (zd rfl)<|zj<|ze<|zh<|zc<|zC rfl rfl (.c rfl (.c rfl .n)) ce23 (zDc (z1:=2) (z2:=9) (hz1:=by first|rfl|assumption|omega|decide|(decide +kernel)) (hz2:=by first|rfl|assumption|omega|decide|(decide +kernel)) (hy:=by first|rfl|assumption|omega|decide|(decide +kernel))) (.n) ?_
 rintro ⟨w338,w439⟩ -
 dsimp only [List.append_eq,List.nil_append,List.cons_append]
 refine r_pv rfl rfl (zb rfl)<|r_pv rfl rfl (zt rfl rfl)<|r_pv rfl rfl (zt rfl rfl)<|zS rfl rfl (zI zr42 rfl) (fun b40=> ?_)
 refine zr 0 rfl rfl rfl rfl rfl sz42 rfl (.take (.take (.take (.take .nil)))) .z<|r_pv rfl rfl (zd rfl)<|zj<|ze<|zh<|zc<|r_pv rfl rfl (zb rfl)<|r_pv rfl rfl (zb rfl)<|r_pv rfl rfl (zz (z:=0) rfl rfl (w64 (by decide)))<|r_pv rfl rfl (zb rfl)<|r_pv rfl rfl (zz (z:=0) rfl rfl (w64 (by decide)))<|r_pv rfl rfl (zCa rfl rfl) ?_
 rw [show true=true from by decide]
 refine r_pv rfl rfl (zb rfl)<|r_pv rfl rfl (zb rfl)<|r_pv rfl rfl (zCa rfl rfl) ?_
 rw [show true=true from by decide]
 refine r_pv rfl rfl (zl rfl rfl)<|r_pv rfl rfl (zb rfl)<|r_pv rfl rfl (zg Tryz.underlying44 rfl sz42 rfl rfl)<|r_u rfl rfl (zi 6 ty42 rfl rfl (.take (.take (.take (.take .nil)))))<|r_u rfl rfl (zi 1 ty42 rfl rfl (.take (.take (.take (.take .nil)))))<|zQ rfl rfl (.c rfl (.c rfl .n)) ce15 (zlb (u1:=w315) (v1:=w416) (q1:=Rat.divInt (2*((Fl.blK.getD 0 b0).mx)+((Fl.blK.getD 0 b0).ms)) (2*((Fl.blK.getD 0 b0).ms))) (u2:=w335) (v2:=w436) (q2:=Rat.divInt 7 6) (hl:=by first|rfl|assumption|omega|decide|(decide +kernel))) (.c (j:=7) rfl (.c (j:=1) rfl .n)) ?_
 rw [show (decide ((Rat.divInt (2*((Fl.blK.getD 0 b0).mx)+((Fl.blK.getD 0 b0).ms)) (2*((Fl.blK.getD 0 b0).ms)))=(Rat.divInt 7 6)))=true from by decide +kernel]
 refine r_pv rfl rfl (zl rfl rfl)<|r_pv rfl rfl (zb rfl)<|r_u rfl rfl (zi 5 ty42 rfl rfl (.take (.take (.take (.take .nil)))))<|r_u rfl rfl (zi 0 ty42 rfl rfl (.take (.take (.take (.take .nil)))))<|zQ rfl rfl (.c rfl (.c rfl .n)) ce15 (zlb (u1:=w323) (v1:=w424) (q1:=Rat.divInt (((Fl.blK.getD 0 b0).xx)*((Fl.blK.getD 0 b0).ar) - ((Fl.blK.getD 0 b0).sx)*((Fl.blK.getD 0 b0).sx)) (((Fl.blK.getD 0 b0).ar)*((Fl.blK.getD 0 b0).ar))) (u2:=w338) (v2:=w439) (q2:=Rat.divInt 2 9) (hl:=by first|rfl|assumption|omega|decide|(decide +kernel))) (.c (j:=3) rfl (.c (j:=0) rfl .n)) ?_
 rw [show (decide ((Rat.divInt (((Fl.blK.getD 0 b0).xx)*((Fl.blK.getD 0 b0).ar) - ((Fl.blK.getD 0 b0).sx)*((Fl.blK.getD 0 b0).sx)) (((Fl.blK.getD 0 b0).ar)*((Fl.blK.getD 0 b0).ar)))=(Rat.divInt 2 9)))=true from by decide +kernel]
 refine r_pv rfl rfl (zl rfl rfl)<|r_pv rfl rfl (zb rfl)<|r_u rfl rfl (zi 3 ty42 rfl rfl (.take (.take (.take (.take .nil)))))<|r_u rfl rfl (zi 0 ty42 rfl rfl (.take (.take (.take (.take .nil)))))<|zQ rfl rfl (.c rfl (.c rfl .n)) ce15 (zlb (u1:=w727) (v1:=w828) (q1:=Rat.divInt (((Fl.blK.getD 0 b0).yy)*((Fl.blK.getD 0 b0).ar) - ((Fl.blK.getD 0 b0).sy)*((Fl.blK.getD 0 b0).sy)) (((Fl.blK.getD 0 b0).ar)*((Fl.blK.getD 0 b0).ar))) (u2:=w338) (v2:=w439) (q2:=Rat.divInt 2 9) (hl:=by first|rfl|assumption|omega|decide|(decide +kernel))) (.c (j:=5) rfl (.c (j:=0) rfl .n)) ?_
 rw [show (decide ((Rat.divInt (((Fl.blK.getD 0 b0).yy)*((Fl.blK.getD 0 b0).ar) - ((Fl.blK.getD 0 b0).sy)*((Fl.blK.getD 0 b0).sy)) (((Fl.blK.getD 0 b0).ar)*((Fl.blK.getD 0 b0).ar)))=(Rat.divInt 2 9)))=true from by decide +kernel]
 refine r_pv rfl rfl (zl rfl rfl)<|r_pv rfl rfl (zb rfl)<|r_pv rfl rfl (zb rfl)<|zL (x0:=(Fl.blK.getD 0 b0)) 11 0 rfl Tryz.underlying27 sz33 rfl rfl rfl (by first|rfl|assumption|(simp_all;done)|omega) rfl rfl (gD (d:=b0) (by first|omega|decide)) (fun b41 o42 hok43=> ?_)
 obtain ⟨hok430,hok431,hok432,hok433,hok434,hok435,hok436,hok437,hok438,hok439,hok4310,hok4311,hok4312⟩:=hok43
 replace hok430:=zk.1 hok430
 replace hok431:=zk.1 hok431
 replace hok432:=zk.1 hok432
 replace hok433:=zk.1 hok433
 replace hok434:=zk.1 hok434
 replace hok435:=zk.1 hok435
 replace hok436:=zk.1 hok436
 replace hok437:=zk.1 hok437
 replace hok438:=zk.1 hok438
 replace hok439:=zk.1 hok439
 replace hok4310:=zk.1 hok4310
 replace hok4311:=zk.1 hok4311
 replace hok4312:=zk.1 hok4312
 refine r_u rfl rfl (zya (j:=0) 0 ty33 rfl rfl rfl (.take (.take (.take (.take (.take (.take (.take (.take (.take (.take (.take (.take (.take .nil))))))))))))))<|r_pv rfl rfl (zK zr33 rfl Tryz.underlying33 (.c sz3 (.c sz3 (.c sz3 (.c sz3 (.c sz3 (.c sz3 (.c sz3 (.c sz3 (.c sz3 (.c sz3 (.c sz3 (.c sz3 (.c sz3 .n))))))))))))) (.c rfl (.c rfl (.c rfl (.c rfl (.c rfl (.c rfl (.c rfl (.c rfl (.c rfl (.c rfl (.c rfl .n))))))))))) (.c rfl rfl rfl (.take .nil) (.c rfl rfl rfl (.skip (.skip (.skip (.take .nil)))) (.c rfl rfl rfl (.skip (.skip (.skip (.skip (.take .nil))))) (.c rfl rfl rfl (.skip (.skip (.skip (.skip (.skip (.take .nil)))))) (.c rfl rfl rfl (.skip (.skip (.skip (.skip (.skip (.skip (.take .nil))))))) (.c rfl rfl rfl (.skip (.skip (.skip (.skip (.skip (.skip (.skip (.take .nil)))))))) (.c rfl rfl rfl (.skip (.skip (.skip (.skip (.skip (.skip (.skip (.skip (.take .nil))))))))) (.c rfl rfl rfl (.skip (.skip (.skip (.skip (.skip (.skip (.skip (.skip (.skip (.take .nil)))))))))) (.c rfl rfl rfl (.skip (.skip (.skip (.skip (.skip (.skip (.skip (.skip (.skip (.skip (.take .nil))))))))))) (.c rfl rfl rfl (.skip (.skip (.skip (.skip (.skip (.skip (.skip (.skip (.skip (.skip (.skip (.take .nil)))))))))))) (.c rfl rfl rfl (.skip (.skip (.skip (.skip (.skip (.skip (.skip (.skip (.skip (.skip (.skip (.skip (.take .nil))))))))))))) .n))))))))))))<|r_pv rfl rfl (zWd (p:=(Fl.blK.getD 0 b0).ar=3∧(Fl.blK.getD 0 b0).le=0∧(Fl.blK.getD 0 b0).tp=0∧(Fl.blK.getD 0 b0).rt=1∧(Fl.blK.getD 0 b0).bt=1∧(Fl.blK.getD 0 b0).sx=2∧(Fl.blK.getD 0 b0).sy=1∧(Fl.blK.getD 0 b0).xx=2∧(Fl.blK.getD 0 b0).xy=1∧(Fl.blK.getD 0 b0).yy=1∧(Fl.blK.getD 0 b0).ms=27∧(Fl.blK.getD 0 b0).mx=18∧(Fl.blK.getD 0 b0).my=9) (by kernel_rfl) rfl rfl (zvc Tryz.underlying33 (by kernel_rfl) (zva (by decide) ty3 rfl rfl (zua Tryz.underlying3) (zva (by decide) ty3 rfl rfl (zua Tryz.underlying3) (zva (by decide) ty3 rfl rfl (zua Tryz.underlying3) (zva (by decide) ty3 rfl rfl (zua Tryz.underlying3) (zva (by decide) ty3 rfl rfl (zua Tryz.underlying3) (zva (by decide) ty3 rfl rfl (zua Tryz.underlying3) (zva (by decide) ty3 rfl rfl (zua Tryz.underlying3) (zva (by decide) ty3 rfl rfl (zua Tryz.underlying3) (zva (by decide) ty3 rfl rfl (zua Tryz.underlying3) (zva (by decide) ty3 rfl rfl (zua Tryz.underlying3) (zva (by decide) ty3 rfl rfl (zua Tryz.underlying3) (zva (by decide) ty3 rfl rfl (zua Tryz.underlying3) (zva (by decide) ty3 rfl rfl (zua Tryz.underlying3) zwe)))))))))))))) (by simp [Bool.decide_and])) ?_
 rw [show (decide ((Fl.blK.getD 0 b0).ar=3∧(Fl.blK.getD 0 b0).le=0∧(Fl.blK.getD 0 b0).tp=0∧(Fl.blK.getD 0 b0).rt=1∧(Fl.blK.getD 0 b0).bt=1∧(Fl.blK.getD 0 b0).sx=2∧(Fl.blK.getD 0 b0).sy=1∧(Fl.blK.getD 0 b0).xx=2∧(Fl.blK.getD 0 b0).xy=1∧(Fl.blK.getD 0 b0).yy=1∧(Fl.blK.getD 0 b0).ms=27∧(Fl.blK.getD 0 b0).mx=18∧(Fl.blK.getD 0 b0).my=9))=true from by decide +kernel]
 refine r_pv rfl rfl (zl rfl rfl)<|r_pv rfl rfl (zd rfl)<|zj<|ze<|zG ?_
 exact zB Tryz.results5 () trivial (zo rfl) rfl (ho:=(.n:PickO _ _ _)) (.n:SelR _ _ _)
end Go.Proofs.YtefbbhiaalcjfaaGreat.Sp
namespace Go.Proofs.YtefbbhiaalcjfaaGreat.Sp
open Go
set_option linter.unusedVariables false
set_option maxRecDepth 100000
set_option maxHeartbeats 1000000
theorem zMf {w:Int} {h:Int} {m:Int} {p:Option Addr} {n:Nat} {cap:Nat} {l:List Int} (hn:l.length=n):Con Tryz.prog 6 [.agg #[.int .i64 w,.int .i64 h,.int .i64 m,.slice p n cap]] [] [slF (rI .i64) p cap l] (Y:=Unit) (fun y=>True) (fun y=> .bool (decide (((n:Nat):Int)≤200))) (fun y=>[]) (fun y=>[]):=by
 refine zp Tryz.func6 rfl rfl rfl (fun c=> ?_)
 show RunC _ _ _ _ _ [(0,.agg #[.int .i64 w,.int .i64 h,.int .i64 m,.slice p n cap])] [] [slF (rI .i64) p cap l]
 refine zea 0 rfl (fun hL0=> ?_)
 refine zh<|zc<|zS rfl rfl (zX rfl rfl) (fun b1=> ?_)
 refine r_pv rfl rfl (zd rfl)<|zj<|ze<|zh<|zc<|r_pv rfl rfl (zg Tryz.underlying24 rfl sz22 rfl rfl)<|r_u rfl rfl (zf 0 ty22 rfl rfl rfl)<|r_pv rfl rfl (zM Tryz.underlying22 rfl)<|r_pv rfl rfl (zob rfl rfl)<|r_pv rfl rfl (zd rfl)<|zj<|ze<|zG ?_
 exact zB Tryz.results6 () trivial (zo rfl) rfl (ho:=(.n:PickO _ _ _)) (.n:SelR _ _ _)
end Go.Proofs.YtefbbhiaalcjfaaGreat.Sp
namespace Go.Proofs.YtefbbhiaalcjfaaGreat.Fl
open Sp (Bb b0)
theorem tog_comm (a b:Bb):tog a b=tog b a:=by unfold tog;simp only [Bb.mk.injEq];omega
theorem tog_assoc (a b c:Bb):tog (tog a b) c=tog a (tog b c):=by unfold tog;simp only [Bb.mk.injEq];omega
def om:Option Bb→Option Bb→Option Bb
  |none,b=>b
  |some a,none=>some a
  |some a,some b=>some (tog a b)
theorem om_none (a:Option Bb):om a none=a:=by cases a <;> rfl
theorem om_comm (a b:Option Bb):om a b=om b a:=by
  cases a <;> cases b <;> simp only [om]
  rw [tog_comm]
theorem om_assoc (a b c:Option Bb):om (om a b) c=om a (om b c):=by
  cases a <;> cases b <;> cases c <;> simp only [om]
  rw [tog_assoc]
def sumP:List (Option Bb)→Option Bb
  |[]=>none
  |a :: t=>om a (sumP t)
def sumO (l:List Bb):Option Bb:=sumP (l.map some)
theorem sumP_append (A B:List (Option Bb)):sumP (A++B)=om (sumP A) (sumP B):=by
  induction A with
  |nil=>rfl
  |cons a t ih=>rw [List.cons_append,sumP,ih,sumP,om_assoc]
theorem sumO_append (A B:List Bb):sumO (A++B)=om (sumO A) (sumO B):=by unfold sumO;rw [List.map_append,sumP_append]
theorem sumO_cons (x:Bb) (B:List Bb):sumO (x :: B)=om (some x) (sumO B):=rfl
section
variable {w n : Nat} {f : Nat → Bool} {adj : Nat → Nat → Prop} {c : Nat → Nat} {l o : List Int}
theorem cnt_surj (q:Nat→Bool):∀n k,k<cnt q n→∃j,j<n∧q j=true∧cnt q j=k:=by
  intro n
  induction n with
  |zero=>intro k h;exact absurd h (by simp [cnt])
  |succ n ih=>
    intro k h
    rw [cnt_succ] at h
    by_cases e:k<cnt q n
    · obtain ⟨j,a,b,d⟩:=ih k e;exact ⟨j,by omega,b,d⟩
    · by_cases x : q n = true
      · rw [if_pos x] at h;exact ⟨n,by omega,x,by omega⟩
      · rw [if_neg x] at h;omega
theorem acc_all (h:LabC n f c o) {k:Nat} (hk:k<cnt (ldr f c) n):acc w l o (k:Int) n≠none:=by
  obtain ⟨j,a,b,d⟩:=cnt_surj _ _ _ hk
  refine acc_some n ⟨j,a,?_⟩
  rw [h.yes j a (ldr_iff.1 b).1,(ldr_iff.1 b).2,d]
end
theorem BlsR.ok {w h m th:Int} {l:List Int} {A:List Bb} (a:BlsR w h m l th A):∀g∈A,okb g:=by
  intro g hg
  by_cases e:Bl.rok w h m l∧0≤th∧th≤65536
  · obtain ⟨c, o, h1, h2, h3⟩ := a.1 e
    obtain ⟨u,v,rfl,rfl,hw,hh,hn,hb⟩:=rok_n e.1 rfl
    rw [h3] at hg
    obtain ⟨k,hk,rfl⟩:=List.mem_map.1 hg
    exact gb_okn (acc_all h2 (List.mem_range.1 hk)) (acc_ok hw hh.2 hn hb (rok_g e.1 rfl) _ (Nat.le_refl _))
  · rw [a.2 e] at hg;cases hg
theorem bb_eq {a b:Bb}:(a.ar=b.ar∧a.le=b.le∧a.tp=b.tp∧a.rt=b.rt∧a.bt=b.bt∧a.sx=b.sx∧a.sy=b.sy∧a.xx=b.xx∧a.xy=b.xy∧a.yy=b.yy∧a.ms=b.ms∧a.mx=b.mx∧a.my=b.my)↔a=b:=by
  cases a;cases b;simp only [Bb.mk.injEq]
def tar:List Bb→Int
  |[]=>0
  |a :: t=>a.ar+tar t
theorem tar_append (A B:List Bb):tar (A++B)=tar A+tar B:=by
  induction A with
  |nil=>simp [tar]
  |cons a t ih=>rw [List.cons_append,tar,ih,tar];omega
theorem tar_sum:∀A:List Bb,(∀s,sumO A=some s→s.ar=tar A)
  |[]=>fun s h=>by cases h
  |a :: t=>fun s h=>by
    rw [sumO_cons] at h
    cases e:sumO t with
    |none=>
      rw [e] at h;cases h
      cases t with
      |nil=>simp [tar]
      |cons b t=>rw [sumO_cons] at e;cases h2:sumO t <;> rw [h2] at e <;> cases e
    |some b=>rw [e] at h;cases h;have:=tar_sum t b e;show a.ar+b.ar=_;rw [this];rfl
theorem tar_pos {A:List Bb} (h:∀x∈A,okb x):0≤tar A:=by
  induction A with
  |nil=>exact Int.le_refl _
  |cons a t ih=>have h1:=(h a (by simp)).1;have h2:=ih fun x hx=>h x (by simp [hx]);rw [tar];omega
theorem split2 {A:List Bb} {i:Nat} (h:i+1<A.length):∃P x Q y,A=P++x :: (Q++[y])∧P.length=i∧A.getD i b0=x∧A.getD (A.length - 1) b0=y∧∀v,(A.set i v).take (A.length - 1)=P++v :: Q:=by
  have hne:A.drop (i+1)≠[]:=fun e=>by have:=congrArg List.length e;rw [List.length_drop] at this;simp at this;omega
  have e1:A=A.take i++A[i] :: ((A.drop (i+1)).dropLast++[(A.drop (i+1)).getLast hne]):=by
    rw [List.dropLast_concat_getLast hne,←List.drop_eq_getElem_cons (show i<A.length by omega),List.take_append_drop]
  obtain ⟨P,hP⟩:∃P,P=A.take i:=⟨_,rfl⟩
  obtain ⟨Q,hQ⟩:∃Q,Q=(A.drop (i+1)).dropLast:=⟨_,rfl⟩
  obtain ⟨x,hx⟩:∃x,x=A[i]:=⟨_,rfl⟩
  obtain ⟨y,hy⟩:∃y,y=(A.drop (i+1)).getLast hne:=⟨_,rfl⟩
  rw [← hP,←hQ,←hx,←hy] at e1
  have hl:P.length=i:=by rw [hP,List.length_take];omega
  refine ⟨P,x,Q,y,e1,hl,?_,?_,fun v=> ?_⟩
  · rw [List.getD_eq_getElem?_getD,List.getElem?_eq_getElem (by omega),hx];rfl
  · rw [e1, List.getD_eq_getElem?_getD]
    have e2:(P++x :: (Q++[y])).length - 1=P.length+(Q.length+1):=by simp
    rw [e2,List.getElem?_append_right (by omega),Nat.add_sub_cancel_left,List.getElem?_cons_succ,List.getElem?_append_right (Nat.le_refl _)];simp
  · have e2 : A.length - 1 = P.length + (Q.length + 1) := by rw [e1]; simp
    rw [e2,e1,←hl,List.set_append_right _ _ (Nat.le_refl _),Nat.sub_self,List.set_cons_zero,List.take_append,List.take_of_length_le (by omega),Nat.add_sub_cancel_left,List.take_succ_cons,List.take_append,List.take_of_length_le (Nat.le_refl _),Nat.sub_self]
    simp
structure WhI (T:Option Bb) (N k:Nat) (A:List Bb):Prop where
  sum:sumO A=T
  ok:∀x∈A,okb x
  len:k+A.length=N
theorem WhI.step {T:Option Bb} {N k i:Nat} {A:List Bb} (h:WhI T N k A) (hT:∀s,T=some s→s.ar≤4096) (hi:i+1<A.length):
    okb (A.getD i b0)∧okb (A.getD (A.length - 1) b0)∧(A.getD i b0).ar+(A.getD (A.length - 1) b0).ar≤4096∧WhI T N (k+1) ((A.set i (tog (A.getD i b0) (A.getD (A.length - 1) b0))).take (A.length - 1)):=by
  obtain ⟨P,x,Q,y,e1,e2,e3,e4,e5⟩:=split2 hi
  rw [e5,e3,e4]
  have hx:okb x:=h.ok x (by rw [e1];simp)
  have hy:okb y:=h.ok y (by rw [e1];simp)
  have hP:=tar_pos (A:=P) fun z hz=>h.ok z (by rw [e1];simp [hz])
  have hQ:=tar_pos (A:=Q) fun z hz=>h.ok z (by rw [e1];simp [hz])
  have hs:x.ar+y.ar≤4096:=by
    cases e:T with
    |none=>
      have:=h.sum;rw [e1,e,sumO_append,sumO_cons] at this
      cases h1:sumO P <;> cases h2:sumO (Q++[y]) <;> rw [h1,h2] at this <;> cases this
    |some s=>
      have h1:=tar_sum A s (by rw [h.sum,e])
      rw [e1,tar_append,tar,tar_append,tar,tar] at h1
      have:=hT s e;omega
  refine ⟨hx,hy,hs,?_,fun z hz=> ?_,?_⟩
  · rw [← h.sum, e1, sumO_append, sumO_append, sumO_cons, sumO_cons, sumO_append, sumO_cons]
    have:sumO ([]:List Bb)=none:=rfl
    rw [this,om_none]
    congr 1
    rw [om_comm (sumO Q),←om_assoc];rfl
  · rcases List.mem_append.1 hz with a | a
    · exact h.ok z (by rw [e1];simp [a])
    · rcases List.mem_cons.1 a with a | a
      · rw [a];exact tog_ok hx hy hs
      · exact h.ok z (by rw [e1];simp [a])
  · have:=h.len;rw [e1] at this;simp only [List.length_append,List.length_cons,List.length_nil] at this ⊢;omega
theorem WhI.nil {T:Option Bb} {N k:Nat} {A:List Bb} (h:WhI T N k A) (hl:A.length=0):T=none:=by
  rw [← h.sum,List.length_eq_zero_iff.1 hl];rfl
theorem WhI.one {T:Option Bb} {N k:Nat} {A:List Bb} (h:WhI T N k A) (hl:A.length=1):A.getD 0 b0=gb T:=by
  obtain ⟨x,rfl⟩:=List.length_eq_one_iff.1 hl
  rw [← h.sum];rfl
end Go.Proofs.YtefbbhiaalcjfaaGreat.Fl
namespace Go.Proofs.YtefbbhiaalcjfaaGreat.Sp
open Go
set_option linter.unusedVariables false
set_option maxRecDepth 100000
set_option maxHeartbeats 1000000
theorem zke {w:Int} {h:Int} {m:Int} {p:Option Addr} {n:Nat} {cap:Nat} {l:List Int} {th:Int} (hn:l.length=n):Con Tryz.prog 8 [.agg #[.int .i64 w,.int .i64 h,.int .i64 m,.slice p n cap],.int .i64 th] [] [slF (rI .i64) p cap l] (Y:=(Option Addr)×Nat×(List Bb)) (fun y=>Fl.BlsR w h m l th y.2.2) (fun y=> .tuple #[.slice (y.1) (y.2.2.length) (y.2.1),.int .i64 (if Bl.rok w h m l then (if 0≤th∧th≤65536 then 0 else 2) else 1)]) (fun y=>[]) (fun y=>[slF (rI13 .i64) (y.1) (y.2.1) (y.2.2)]):=by
 refine zp Tryz.func8 rfl rfl rfl (fun c=> ?_)
 show RunC _ _ _ _ _ [(0,.agg #[.int .i64 w,.int .i64 h,.int .i64 m,.slice p n cap]),(1,.int .i64 th)] [] [slF (rI .i64) p cap l]
 refine zea 0 rfl (fun hL0=> ?_)
 refine zh<|zc<|zS rfl rfl (zX rfl rfl) (fun b1=> ?_)
 refine r_pv rfl rfl (zd rfl)<|r_pv rfl rfl (zd rfl)<|zj<|ze<|zh<|zc<|r_u rfl rfl (zi 0 ty24 rfl rfl (.take (.take (.take (.take .nil)))))<|r_pv rfl rfl (zb rfl)<|zC rfl rfl (.c rfl (.c rfl .n)) ce27 (zbe (w:=w) (h:=h) (m:=m) (p:=p) (n:=n) (cap:=cap) (l:=l) (th:=th) (hn:=by assumption)) (.c (j:=0) rfl .n) ?_
 rintro ⟨p32,c33,o⟩ hL
 dsimp only [List.append_eq,List.nil_append,List.cons_append]
 replace hL:Fl.LabR w h m l th o:=hL
 refine r_pv rfl rfl (zb rfl)<|r_pv rfl rfl (zt rfl rfl)<|r_pv rfl rfl (zt rfl rfl)<|r_pv rfl rfl (zd rfl)<|r_pv rfl rfl (zd rfl)<|zj<|ze<|zh<|zh<|zc<|r_pv rfl rfl (zb rfl)<|r_pv rfl rfl (zHa rfl rfl)<|zj<|ze<|zD rfl (fun hc=> ?_) (fun hc=> ?_)
 ·
  have hno:=fun k=>hc (Fl.ask0.2 k)
  refine zh<|zc<|r_pv rfl rfl (zb rfl)<|r_pv rfl rfl (zd rfl)<|r_pv rfl rfl (zd rfl)<|zj<|ze<|zG<|zq<|zDb (rI13 .i64) ?_
  exact zwa Tryz.results8 (none,0,[]) (Fl.BlsR.no hno) (zo rfl) (zo rfl) rfl (ho:=(.n:PickO _ _ _)) ((.c (j:=0) rfl .n):SelR _ _ _)
 ·
  have hok:=Fl.ask0.1 (Decidable.not_not.1 hc)
  obtain ⟨wn,hn9,rfl,rfl,hw9,hh9,hwh,hb9⟩:=Fl.rok_n hok.1 hn
  refine zy<|ze<|zh ?_
  have hLb:Fl.Lab n (Fl.ge l th) (Fl.nb false wn n) o:=by have h9:=hL.1 hok;rw [hn] at h9;exact h9
  obtain ⟨cc,hcl,hLC⟩:=hLb.labc
  have hol:=hLC.len
  refine zc<|zra rfl rfl (zma (rI13 .i64) Tryz.underlying27 inf33) (fun b4 _=> ?_)
  refine r_pv rfl rfl (zd rfl)<|zj<|ze<|zh<|zh<|zc<|r_pv rfl rfl (zd rfl)<|zj<|ze<|zx<|zka (X:=Nat×(Option Addr)×Nat) (fun x:Nat×(Option Addr)×Nat=>x.1≤n) (fun x=>[(8,.slice (x.2.1) (Fl.cnt (Fl.ldr (Fl.ge l th) cc) x.1) (x.2.2)),(9,.int .i64 ((x.1:Nat):Int)),(6,.slice p32 (o.length) c33),(5,.int .i64 0),(4,.slice none 0 0),(2,.pointer (some ⟨b1,0,none⟩))]) (fun x=>[rowA 33 (rI13 .i64) (x.2.1) (x.2.2) (Fl.bls wn l o (Fl.cnt (Fl.ldr (Fl.ge l th) cc) x.1) x.1),boxA b1 24 [.int .i64 ((wn:Nat):Int),.int .i64 ((hn9:Nat):Int),.int .i64 m,.slice p n cap]]) (fun x=>[slF (rI .i64) p32 c33 o,slF (rI .i64) p cap l]) (fun x:Nat×(Option Addr)×Nat=>n - x.1) (0,some ⟨b4,0,none⟩,0) (show 0≤n from by exact Nat.zero_le _) ((.e rfl (by first|rfl|(congr 1;omega)|simp_all) (.e rfl (by first|rfl|(congr 1;omega)|simp_all) (.of rfl))):SubM _ _) (ho:=((.e (i:=0) rfl (by first|rfl|(congr 1;omega)|simp_all) (.c (i:=0) rfl .n)):PickO _ _ _)) ((.of [0,1] rfl):SelR _ _ _) ?_
  rintro ⟨i,p8,c8⟩ hI
  replace hI:i≤n:=hI
  try dsimp only
  have hbl:=Fl.bls_len wn l o (Fl.cnt (Fl.ldr (Fl.ge l th) cc) i) i
  have hcn:=Fl.cnt_le (Fl.ldr (Fl.ge l th) cc) i
  refine zh<|zh<|zc<|r_pv rfl rfl (zb rfl)<|r_pv rfl rfl (zb rfl)<|r_pv rfl rfl (zM Tryz.underlying22 rfl)<|r_pv rfl rfl (zY rfl rfl)<|zj<|ze<|zD rfl (fun h5=> ?_) (fun h5=> ?_)
  ·
   refine zy<|ze<|zh<|zx<|zh<|zc<|r_pv rfl rfl (zb rfl)<|r_pv rfl rfl (zb rfl)<|zL (x0:=(o.getD i 0)) 0 i rfl Tryz.underlying22 sz3 rfl rfl rfl (by first|rfl|assumption|(simp only [Fl.bls_len];done)|omega) rfl rfl (gD (d:=0) (by omega)) (fun b6 o7 hok8=> ?_)
   replace hok8:=zk.1 hok8
   refine r_u rfl rfl (zn (j:=0) 0 ty3 rfl rfl rfl rfl)<|r_pv rfl rfl (zBa rfl rfl)<|zj<|ze<|zD rfl (fun hpos=> ?_) (fun hpos=> ?_)
   ·
    have hfi:(Fl.ge l th) i=true:=(hLC.pos (show i<n by omega)).1 hpos
    have hO1:Fl.okb (Fl.one wn l i):=Fl.one_ok hw9 hh9.2 hwh (by omega) (Fl.rok_g hok.1 hn i (by omega))
    have hqd:i / wn≤63:=by have:=Nat.div_lt_of_lt_mul (show i<wn*hn9 by omega);omega
    have hmd:i%wn≤63:=by have:=Nat.mod_lt i (show 0<wn by omega);omega
    have hq0:=Int.natCast_nonneg (i / wn)
    have hm0:=Int.natCast_nonneg (i%wn)
    have hgg:=Fl.rok_g hok.1 hn i (by omega)
    have hbd2:=Bl.ok_bd hO1
    unfold Fl.one Bl.bd at hbd2
    dsimp only at hbd2
    have hcm:=Fl.cnt_mono (Fl.ldr (Fl.ge l th) cc) (show i≤n by omega)
    refine zh<|zla (OW:=[]) (O:=[rowA 33 (rI13 .i64) p8 c8 (Fl.bls wn l o (Fl.cnt (Fl.ldr (Fl.ge l th) cc) i) i),boxA b1 24 [.int .i64 ((wn:Nat):Int),.int .i64 ((hn9:Nat):Int),.int .i64 m,.slice p n cap]]) 15 mixed (.then (.block (.then (.then (.block (.then .ret)))))) (by kernel_rfl)<|d_pv 0 rfl rfl (by kernel_rfl) (by kernel_rfl) rfl rfl (zb rfl)<|d_pv 1 rfl rfl (by kernel_rfl) (by kernel_rfl) rfl rfl (zg Tryz.underlying24 rfl sz3 rfl rfl)<|d_u 2 rfl rfl (by kernel_rfl) (by kernel_rfl) rfl rfl (zf 1 ty3 rfl rfl rfl)<|d_pv 3 rfl rfl (by kernel_rfl) (by kernel_rfl) rfl rfl (zGa (z:=(((i%wn):Nat):Int)) rfl rfl (by omega) (remN (by omega) (by omega)))<|d_pv 4 rfl rfl (by kernel_rfl) (by kernel_rfl) rfl rfl (zb rfl)<|d_pv 5 rfl rfl (by kernel_rfl) (by kernel_rfl) rfl rfl (zg Tryz.underlying24 rfl sz3 rfl rfl)<|d_u 6 rfl rfl (by kernel_rfl) (by kernel_rfl) rfl rfl (zf 1 ty3 rfl rfl rfl)<|d_pv 7 rfl rfl (by kernel_rfl) (by kernel_rfl) rfl rfl (zFa (z:=(((i / wn):Nat):Int)) rfl rfl (by omega) (by rw [quoN (z:=(((i / wn):Nat):Int)) (by omega) (by omega)];exact w64 (by omega)))<|d_pv 8 rfl rfl (by kernel_rfl) (by kernel_rfl) rfl rfl (zg Tryz.underlying24 rfl sz22 rfl rfl)<|d_u 9 rfl rfl (by kernel_rfl) (by kernel_rfl) rfl rfl (zf 1 ty22 rfl rfl rfl)<|d_pv 10 rfl rfl (by kernel_rfl) (by kernel_rfl) rfl rfl (zb rfl)<|zja (x0:=(l.getD i 0)) 11 rfl rfl (by kernel_rfl) (by kernel_rfl) 2 i rfl Tryz.underlying22 sz3 rfl rfl rfl (by first|rfl|assumption|(simp only [Fl.bls_len];done)|omega) rfl rfl (gD (d:=0) (by omega)) (fun b9 o10 hok11=> ?_)
    replace hok11:=zk.1 hok11
    refine d_u 12 rfl rfl (by kernel_rfl) (by kernel_rfl) rfl rfl (zn (j:=0) 0 ty3 rfl rfl rfl rfl)<|zwf (m':=[(44,.int .i64 (l.getD i 0)),(39,.int .i64 (((i / wn):Nat):Int)),(35,.int .i64 (((i%wn):Nat):Int)),(8,.slice p8 (Fl.cnt (Fl.ldr (Fl.ge l th) cc) i) c8),(9,.int .i64 ((i:Nat):Int)),(6,.slice p32 (o.length) c33),(5,.int .i64 0),(4,.slice none 0 0),(2,.pointer (some ⟨b1,0,none⟩))]) (R':=[slF (rI .i64) p32 c33 o,slF (rI .i64) p cap l]) ((.of rfl):SubM _ _) (List.Perm.refl _) (List.Perm.refl _) ((.of [2,3] rfl):SelR _ _ _)<|zLd (X:=Nat) (k':=0) (L':=(lb 16 65535)) (fun u14_1=>([(10,.pointer (some ⟨u14_1,0,none⟩)),(8,.slice p8 (Fl.cnt (Fl.ldr (Fl.ge l th) cc) i) c8),(9,.int .i64 ((i:Nat):Int)),(6,.slice p32 (o.length) c33),(5,.int .i64 0),(4,.slice none 0 0),(2,.pointer (some ⟨b1,0,none⟩))],[boxA u14_1 33 [.int .i64 1,.int .i64 (((i%wn):Nat):Int),.int .i64 (((i / wn):Nat):Int),.int .i64 (((i%wn):Nat):Int),.int .i64 (((i / wn):Nat):Int),.int .i64 (((i%wn):Nat):Int),.int .i64 (((i / wn):Nat):Int),.int .i64 ((((i%wn):Nat):Int)*(((i%wn):Nat):Int)),.int .i64 ((((i%wn):Nat):Int)*(((i / wn):Nat):Int)),.int .i64 ((((i / wn):Nat):Int)*(((i / wn):Nat):Int)),.int .i64 (l.getD i 0),.int .i64 ((l.getD i 0)*(((i%wn):Nat):Int)),.int .i64 ((l.getD i 0)*(((i / wn):Nat):Int))]],[rowA 33 (rI13 .i64) p8 c8 (Fl.bls wn l o (Fl.cnt (Fl.ldr (Fl.ge l th) cc) i) i),boxA b1 24 [.int .i64 ((wn:Nat):Int),.int .i64 ((hn9:Nat):Int),.int .i64 m,.slice p n cap]],[slF (rI .i64) p32 c33 o,slF (rI .i64) p cap l])) ?_ (fun hD0=> ?_)
    ·
     rintro u14_1
     dsimp only
     refine zfa (by kernel_rfl)<|ze<|zh<|zc<|r_pv rfl rfl (zb rfl)<|r_pv rfl rfl (zb rfl)<|zL (x0:=(o.getD i 0)) 0 i rfl Tryz.underlying22 sz3 rfl rfl rfl (by first|rfl|assumption|(simp only [Fl.bls_len];done)|omega) rfl rfl (gD (d:=0) (by omega)) (fun b12 o13 hok14=> ?_)
     replace hok14:=zk.1 hok14
     refine r_u rfl rfl (zn (j:=0) 0 ty3 rfl rfl rfl rfl)<|r_pv rfl rfl (zb rfl)<|r_pv rfl rfl (zM Tryz.underlying27 rfl)<|r_pv rfl rfl (zCa rfl rfl)<|zj<|ze<|zD rfl (fun heq=> ?_) (fun heq=> ?_)
     ·
      refine zc<|r_pv rfl rfl (zb rfl)<|r_u rfl rfl (zi 0 ty33 rfl rfl (.take (.take (.take (.take (.take (.take (.take (.take (.take (.take (.take (.take (.take .nil))))))))))))))<|zra rfl rfl (zE (enc:=fun z:Bb=>[.int .i64 z.ar,.int .i64 z.le,.int .i64 z.tp,.int .i64 z.rt,.int .i64 z.bt,.int .i64 z.sx,.int .i64 z.sy,.int .i64 z.xx,.int .i64 z.xy,.int .i64 z.yy,.int .i64 z.ms,.int .i64 z.mx,.int .i64 z.my]) (ok:=okB .i64) (h1:=fun _=>rfl) (h2:=fun _=>rfl) (k:=1) Tryz.underlying27 inf33 rfl (by decide) (by decide) (by decide) (.c (x:=(⟨1,(((i%wn):Nat):Int),(((i / wn):Nat):Int),(((i%wn):Nat):Int),(((i / wn):Nat):Int),(((i%wn):Nat):Int),(((i / wn):Nat):Int),((((i%wn):Nat):Int)*(((i%wn):Nat):Int)),((((i%wn):Nat):Int)*(((i / wn):Nat):Int)),((((i / wn):Nat):Int)*(((i / wn):Nat):Int)),(l.getD i 0),((l.getD i 0)*(((i%wn):Nat):Int)),((l.getD i 0)*(((i / wn):Nat):Int))⟩:Bb)) rfl rfl (fun _ _=>by exact ⟨zk.2 (by first|omega|decide|(dsimp only;omega)),zk.2 (by first|omega|decide|(dsimp only;omega)),zk.2 (by first|omega|decide|(dsimp only;omega)),zk.2 (by first|omega|decide|(dsimp only;omega)),zk.2 (by first|omega|decide|(dsimp only;omega)),zk.2 (by first|omega|decide|(dsimp only;omega)),zk.2 (by first|omega|decide|(dsimp only;omega)),zk.2 (by first|omega|decide|(dsimp only;omega)),zk.2 (by first|omega|decide|(dsimp only;omega)),zk.2 (by first|omega|decide|(dsimp only;omega)),zk.2 (by first|omega|decide|(dsimp only;omega)),zk.2 (by first|omega|decide|(dsimp only;omega)),zk.2 (by first|omega|decide|(dsimp only;omega))⟩) .n)) (fun b15 _=> ?_)
      refine zda 0 rfl .z<|zta 2 rfl rfl rfl (zpa 0 rfl Tryz.underlying27 inf33 (by decide) rfl rfl (by first|rfl|assumption|(simp only [Fl.bls_len];done)|omega) rfl (by first|rfl|assumption|(simp only [Fl.bls_len];done)|omega) (by omega) (by omega)) (fun _=>(.s (.s .z))) ?_
      rintro ⟨p16,c17⟩ -
      dsimp only [List.append_eq,List.nil_append,List.cons_append]
      refine r_pv rfl rfl (zd rfl)<|zj<|zP<|ze<|zc<|r_pv rfl rfl (zb rfl)<|r_pv rfl rfl (zz (z:=(((i+1):Nat):Int)) rfl rfl (w64 (by omega)))<|r_pv rfl rfl (zd rfl)<|zj<|zaa ((i+1),p16,c17) (show (i+1)≤n from by omega) (by show n - (i+1)<n - i;omega) ((.e rfl (by dsimp only;rw [Fl.cnt_succ,if_pos (hLC.lead hcl (by omega) hfi heq)]) (.of rfl)):SubM _ _) (ho:=((.e (i:=2) rfl (by dsimp only;rw [hLC.step1 hcl (by omega) hfi heq];rfl) (.c (i:=2) rfl .n)):PickO _ _ _)) ((.of [2,3] rfl):SelR _ _ _)
     ·
      have hst:=hLC.step2 (w:=wn) (l:=l) hcl (show i<n by omega) hfi heq
      have hne:=hLC.seen (w:=wn) (l:=l) hcl (show i<n by omega) hfi heq
      have hA1:Fl.okb ((Fl.bls wn l o (Fl.cnt (Fl.ldr (Fl.ge l th) cc) i) i).getD ((o.getD i 0).toNat) b0):=by rw [Fl.bls_get hst.1,show ((((o.getD i 0).toNat):Nat):Int)=o.getD i 0 by omega];exact Fl.gb_okn hne (Fl.acc_ok hw9 hh9.2 hwh hb9 (Fl.rok_g hok.1 hn) i (by omega))
      have hbd1:=Bl.ok_bd hA1
      unfold Bl.bd at hbd1
      have hgt:(Fl.bls wn l o (Fl.cnt (Fl.ldr (Fl.ge l th) cc) i) i).getD ((o.getD i 0).toNat) b0=Fl.gb (Fl.acc wn l o (o.getD i 0) i):=by rw [Fl.bls_get hst.1,show ((((o.getD i 0).toNat):Nat):Int)=o.getD i 0 by omega]
      refine zAa (.c (i:=1) rfl (.c (i:=0) rfl (.c (i:=0) rfl .n)))<|zla (OW:=[rowA 33 (rI13 .i64) p8 c8 (Fl.bls wn l o (Fl.cnt (Fl.ldr (Fl.ge l th) cc) i) i)]) (O:=[boxA u14_1 33 [.int .i64 1,.int .i64 (((i%wn):Nat):Int),.int .i64 (((i / wn):Nat):Int),.int .i64 (((i%wn):Nat):Int),.int .i64 (((i / wn):Nat):Int),.int .i64 (((i%wn):Nat):Int),.int .i64 (((i / wn):Nat):Int),.int .i64 ((((i%wn):Nat):Int)*(((i%wn):Nat):Int)),.int .i64 ((((i%wn):Nat):Int)*(((i / wn):Nat):Int)),.int .i64 ((((i / wn):Nat):Int)*(((i / wn):Nat):Int)),.int .i64 (l.getD i 0),.int .i64 ((l.getD i 0)*(((i%wn):Nat):Int)),.int .i64 ((l.getD i 0)*(((i / wn):Nat):Int))],boxA b1 24 [.int .i64 ((wn:Nat):Int),.int .i64 ((hn9:Nat):Int),.int .i64 m,.slice p n cap]]) 15 mixed (.block (.then (.then (.block (.then .ret))))) (by kernel_rfl)<|d_pv 0 rfl rfl (by kernel_rfl) (by kernel_rfl) rfl rfl (zb rfl)<|d_pv 1 rfl rfl (by kernel_rfl) (by kernel_rfl) rfl rfl (zb rfl)<|d_pv 2 rfl rfl (by kernel_rfl) (by kernel_rfl) rfl rfl (zb rfl)<|zja (x0:=(o.getD i 0)) 3 rfl rfl (by kernel_rfl) (by kernel_rfl) 1 i rfl Tryz.underlying22 sz3 rfl rfl rfl (by first|rfl|assumption|(simp only [Fl.bls_len];done)|omega) rfl rfl (gD (d:=0) (by omega)) (fun b18 o19 hok20=> ?_)
      replace hok20:=zk.1 hok20
      refine d_u 4 rfl rfl (by kernel_rfl) (by kernel_rfl) rfl rfl (zn (j:=0) 0 ty3 rfl rfl rfl rfl)<|d_pv 5 rfl rfl (by kernel_rfl) (by kernel_rfl) rfl rfl (zb rfl)<|d_pv 6 rfl rfl (by kernel_rfl) (by kernel_rfl) rfl rfl (zb rfl)<|d_pv 7 rfl rfl (by kernel_rfl) (by kernel_rfl) rfl rfl (zb rfl)<|zja (x0:=(o.getD i 0)) 8 rfl rfl (by kernel_rfl) (by kernel_rfl) 2 i rfl Tryz.underlying22 sz3 rfl rfl rfl (by first|rfl|assumption|(simp only [Fl.bls_len];done)|omega) rfl rfl (gD (d:=0) (by omega)) (fun b21 o22 hok23=> ?_)
      replace hok23:=zk.1 hok23
      refine d_u 9 rfl rfl (by kernel_rfl) (by kernel_rfl) rfl rfl (zn (j:=0) 0 ty3 rfl rfl rfl rfl)<|d_uw 10 rfl rfl (by kernel_rfl) (by kernel_rfl) (by kernel_rfl) rfl rfl (zca 0 ((o.getD i 0).toNat) rfl Tryz.underlying27 sz33 rfl (by first|rfl|assumption|(simp only [Fl.bls_len];done)|omega) rfl (by omega) (by omega))<|zAf 11 rfl rfl (by kernel_rfl) (by kernel_rfl) (by kernel_rfl) rfl rfl (zrb 0 ((o.getD i 0).toNat) rfl ty33 rfl rfl (gD (d:=b0) (by omega))) (fun _ hok24=> ?_)
      obtain ⟨hok240,hok241,hok242,hok243,hok244,hok245,hok246,hok247,hok248,hok249,hok2410,hok2411,hok2412⟩:=hok24
      replace hok240:=zk.1 hok240
      replace hok241:=zk.1 hok241
      replace hok242:=zk.1 hok242
      replace hok243:=zk.1 hok243
      replace hok244:=zk.1 hok244
      replace hok245:=zk.1 hok245
      replace hok246:=zk.1 hok246
      replace hok247:=zk.1 hok247
      replace hok248:=zk.1 hok248
      replace hok249:=zk.1 hok249
      replace hok2410:=zk.1 hok2410
      replace hok2411:=zk.1 hok2411
      replace hok2412:=zk.1 hok2412
      refine d_uw 12 rfl rfl (by kernel_rfl) (by kernel_rfl) (by kernel_rfl) rfl rfl (zi 1 ty33 rfl rfl (.take (.take (.take (.take (.take (.take (.take (.take (.take (.take (.take (.take (.take .nil))))))))))))))<|zV 13 (by kernel_rfl) (zTa rfl rfl rfl rfl (.c rfl (.c rfl .n)) ce29 (zIc (ar1:=((Fl.bls wn l o (Fl.cnt (Fl.ldr (Fl.ge l th) cc) i) i).getD ((o.getD i 0).toNat) b0).ar) (le1:=((Fl.bls wn l o (Fl.cnt (Fl.ldr (Fl.ge l th) cc) i) i).getD ((o.getD i 0).toNat) b0).le) (tp1:=((Fl.bls wn l o (Fl.cnt (Fl.ldr (Fl.ge l th) cc) i) i).getD ((o.getD i 0).toNat) b0).tp) (rt1:=((Fl.bls wn l o (Fl.cnt (Fl.ldr (Fl.ge l th) cc) i) i).getD ((o.getD i 0).toNat) b0).rt) (bt1:=((Fl.bls wn l o (Fl.cnt (Fl.ldr (Fl.ge l th) cc) i) i).getD ((o.getD i 0).toNat) b0).bt) (sx1:=((Fl.bls wn l o (Fl.cnt (Fl.ldr (Fl.ge l th) cc) i) i).getD ((o.getD i 0).toNat) b0).sx) (sy1:=((Fl.bls wn l o (Fl.cnt (Fl.ldr (Fl.ge l th) cc) i) i).getD ((o.getD i 0).toNat) b0).sy) (xx1:=((Fl.bls wn l o (Fl.cnt (Fl.ldr (Fl.ge l th) cc) i) i).getD ((o.getD i 0).toNat) b0).xx) (xy1:=((Fl.bls wn l o (Fl.cnt (Fl.ldr (Fl.ge l th) cc) i) i).getD ((o.getD i 0).toNat) b0).xy) (yy1:=((Fl.bls wn l o (Fl.cnt (Fl.ldr (Fl.ge l th) cc) i) i).getD ((o.getD i 0).toNat) b0).yy) (ms1:=((Fl.bls wn l o (Fl.cnt (Fl.ldr (Fl.ge l th) cc) i) i).getD ((o.getD i 0).toNat) b0).ms) (mx1:=((Fl.bls wn l o (Fl.cnt (Fl.ldr (Fl.ge l th) cc) i) i).getD ((o.getD i 0).toNat) b0).mx) (my1:=((Fl.bls wn l o (Fl.cnt (Fl.ldr (Fl.ge l th) cc) i) i).getD ((o.getD i 0).toNat) b0).my) (ar2:=1) (le2:=(((i%wn):Nat):Int)) (tp2:=(((i / wn):Nat):Int)) (rt2:=(((i%wn):Nat):Int)) (bt2:=(((i / wn):Nat):Int)) (sx2:=(((i%wn):Nat):Int)) (sy2:=(((i / wn):Nat):Int)) (xx2:=((((i%wn):Nat):Int)*(((i%wn):Nat):Int))) (xy2:=((((i%wn):Nat):Int)*(((i / wn):Nat):Int))) (yy2:=((((i / wn):Nat):Int)*(((i / wn):Nat):Int))) (ms2:=(l.getD i 0)) (mx2:=((l.getD i 0)*(((i%wn):Nat):Int))) (my2:=((l.getD i 0)*(((i / wn):Nat):Int))) (hb1:=by exact Bl.ok_bd hA1) (hb2:=by exact Bl.ok_bd hO1)) (.n) ?_)
      refine d_uw 14 rfl rfl (by kernel_rfl) (by kernel_rfl) (by kernel_rfl) rfl rfl (zca 0 ((o.getD i 0).toNat) rfl Tryz.underlying27 sz33 rfl (by first|rfl|assumption|(simp only [Fl.bls_len];done)|omega) rfl (by omega) (by omega))<|zV 15 (by kernel_rfl) (zpe (A':=fun _=>rowA 33 (rI13 .i64) p8 c8 ((Fl.bls wn l o (Fl.cnt (Fl.ldr (Fl.ge l th) cc) i) i).set ((o.getD i 0).toNat) (⟨((((Fl.bls wn l o (Fl.cnt (Fl.ldr (Fl.ge l th) cc) i) i).getD ((o.getD i 0).toNat) b0).ar)+1),(min (((Fl.bls wn l o (Fl.cnt (Fl.ldr (Fl.ge l th) cc) i) i).getD ((o.getD i 0).toNat) b0).le) (((i%wn):Nat):Int)),(min (((Fl.bls wn l o (Fl.cnt (Fl.ldr (Fl.ge l th) cc) i) i).getD ((o.getD i 0).toNat) b0).tp) (((i / wn):Nat):Int)),(max (((Fl.bls wn l o (Fl.cnt (Fl.ldr (Fl.ge l th) cc) i) i).getD ((o.getD i 0).toNat) b0).rt) (((i%wn):Nat):Int)),(max (((Fl.bls wn l o (Fl.cnt (Fl.ldr (Fl.ge l th) cc) i) i).getD ((o.getD i 0).toNat) b0).bt) (((i / wn):Nat):Int)),((((Fl.bls wn l o (Fl.cnt (Fl.ldr (Fl.ge l th) cc) i) i).getD ((o.getD i 0).toNat) b0).sx)+(((i%wn):Nat):Int)),((((Fl.bls wn l o (Fl.cnt (Fl.ldr (Fl.ge l th) cc) i) i).getD ((o.getD i 0).toNat) b0).sy)+(((i / wn):Nat):Int)),((((Fl.bls wn l o (Fl.cnt (Fl.ldr (Fl.ge l th) cc) i) i).getD ((o.getD i 0).toNat) b0).xx)+((((i%wn):Nat):Int)*(((i%wn):Nat):Int))),((((Fl.bls wn l o (Fl.cnt (Fl.ldr (Fl.ge l th) cc) i) i).getD ((o.getD i 0).toNat) b0).xy)+((((i%wn):Nat):Int)*(((i / wn):Nat):Int))),((((Fl.bls wn l o (Fl.cnt (Fl.ldr (Fl.ge l th) cc) i) i).getD ((o.getD i 0).toNat) b0).yy)+((((i / wn):Nat):Int)*(((i / wn):Nat):Int))),((((Fl.bls wn l o (Fl.cnt (Fl.ldr (Fl.ge l th) cc) i) i).getD ((o.getD i 0).toNat) b0).ms)+(l.getD i 0)),((((Fl.bls wn l o (Fl.cnt (Fl.ldr (Fl.ge l th) cc) i) i).getD ((o.getD i 0).toNat) b0).mx)+((l.getD i 0)*(((i%wn):Nat):Int))),((((Fl.bls wn l o (Fl.cnt (Fl.ldr (Fl.ge l th) cc) i) i).getD ((o.getD i 0).toNat) b0).my)+((l.getD i 0)*(((i / wn):Nat):Int)))⟩:Bb))) (by kernel_rfl) rfl rfl rfl (zO (j:=(o.getD i 0).toNat) (x0:=(⟨((((Fl.bls wn l o (Fl.cnt (Fl.ldr (Fl.ge l th) cc) i) i).getD ((o.getD i 0).toNat) b0).ar)+1),(min (((Fl.bls wn l o (Fl.cnt (Fl.ldr (Fl.ge l th) cc) i) i).getD ((o.getD i 0).toNat) b0).le) (((i%wn):Nat):Int)),(min (((Fl.bls wn l o (Fl.cnt (Fl.ldr (Fl.ge l th) cc) i) i).getD ((o.getD i 0).toNat) b0).tp) (((i / wn):Nat):Int)),(max (((Fl.bls wn l o (Fl.cnt (Fl.ldr (Fl.ge l th) cc) i) i).getD ((o.getD i 0).toNat) b0).rt) (((i%wn):Nat):Int)),(max (((Fl.bls wn l o (Fl.cnt (Fl.ldr (Fl.ge l th) cc) i) i).getD ((o.getD i 0).toNat) b0).bt) (((i / wn):Nat):Int)),((((Fl.bls wn l o (Fl.cnt (Fl.ldr (Fl.ge l th) cc) i) i).getD ((o.getD i 0).toNat) b0).sx)+(((i%wn):Nat):Int)),((((Fl.bls wn l o (Fl.cnt (Fl.ldr (Fl.ge l th) cc) i) i).getD ((o.getD i 0).toNat) b0).sy)+(((i / wn):Nat):Int)),((((Fl.bls wn l o (Fl.cnt (Fl.ldr (Fl.ge l th) cc) i) i).getD ((o.getD i 0).toNat) b0).xx)+((((i%wn):Nat):Int)*(((i%wn):Nat):Int))),((((Fl.bls wn l o (Fl.cnt (Fl.ldr (Fl.ge l th) cc) i) i).getD ((o.getD i 0).toNat) b0).xy)+((((i%wn):Nat):Int)*(((i / wn):Nat):Int))),((((Fl.bls wn l o (Fl.cnt (Fl.ldr (Fl.ge l th) cc) i) i).getD ((o.getD i 0).toNat) b0).yy)+((((i / wn):Nat):Int)*(((i / wn):Nat):Int))),((((Fl.bls wn l o (Fl.cnt (Fl.ldr (Fl.ge l th) cc) i) i).getD ((o.getD i 0).toNat) b0).ms)+(l.getD i 0)),((((Fl.bls wn l o (Fl.cnt (Fl.ldr (Fl.ge l th) cc) i) i).getD ((o.getD i 0).toNat) b0).mx)+((l.getD i 0)*(((i%wn):Nat):Int))),((((Fl.bls wn l o (Fl.cnt (Fl.ldr (Fl.ge l th) cc) i) i).getD ((o.getD i 0).toNat) b0).my)+((l.getD i 0)*(((i / wn):Nat):Int)))⟩:Bb)) (γ0:=()) rfl rfl (by first|omega|(rw [List.length_map];omega)|(simp only [List.length_set];omega)|(simp;omega)) rfl rfl sz33 (fun _ _=>by exact ⟨zk.2 (by first|omega|decide|(dsimp only;omega)),zk.2 (by first|omega|decide|(dsimp only;omega)),zk.2 (by first|omega|decide|(dsimp only;omega)),zk.2 (by first|omega|decide|(dsimp only;omega)),zk.2 (by first|omega|decide|(dsimp only;omega)),zk.2 (by first|omega|decide|(dsimp only;omega)),zk.2 (by first|omega|decide|(dsimp only;omega)),zk.2 (by first|omega|decide|(dsimp only;omega)),zk.2 (by first|omega|decide|(dsimp only;omega)),zk.2 (by first|omega|decide|(dsimp only;omega)),zk.2 (by first|omega|decide|(dsimp only;omega)),zk.2 (by first|omega|decide|(dsimp only;omega)),zk.2 (by first|omega|decide|(dsimp only;omega))⟩)) (fun _ _=> ?_))
      refine zfa (by kernel_rfl)<|zP<|ze<|zc<|r_pv rfl rfl (zb rfl)<|r_pv rfl rfl (zz (z:=(((i+1):Nat):Int)) rfl rfl (w64 (by omega)))<|r_pv rfl rfl (zd rfl)<|zj<|zaa ((i+1),p8,c8) (show (i+1)≤n from by omega) (by show n - (i+1)<n - i;omega) ((.e rfl (by dsimp only;rw [hLC.nolead (by omega) heq]) (.of rfl)):SubM _ _) (ho:=((.e (i:=0) rfl (by dsimp only;rw [hst.2,Fl.gb_nextn rfl hne,←hgt];rfl) (.c (i:=1) rfl .n)):PickO _ _ _)) ((.of [3,4] rfl):SelR _ _ _)
    refine zLd (X:=Nat) (k':=1) (L':=(lb 16 32767)) (fun u14_1=>([(10,.pointer (some ⟨u14_1,0,none⟩)),(45,.agg #[.int .i64 1,.int .i64 (((i%wn):Nat):Int),.int .i64 (((i / wn):Nat):Int),.int .i64 (((i%wn):Nat):Int),.int .i64 (((i / wn):Nat):Int),.int .i64 (((i%wn):Nat):Int),.int .i64 (((i / wn):Nat):Int),.int .i64 ((((i%wn):Nat):Int)*(((i%wn):Nat):Int)),.int .i64 ((((i%wn):Nat):Int)*(((i / wn):Nat):Int)),.int .i64 ((((i / wn):Nat):Int)*(((i / wn):Nat):Int)),.int .i64 (l.getD i 0),.int .i64 ((l.getD i 0)*(((i%wn):Nat):Int)),.int .i64 ((l.getD i 0)*(((i / wn):Nat):Int))]),(8,.slice p8 (Fl.cnt (Fl.ldr (Fl.ge l th) cc) i) c8),(9,.int .i64 ((i:Nat):Int)),(6,.slice p32 (o.length) c33),(5,.int .i64 0),(4,.slice none 0 0),(2,.pointer (some ⟨b1,0,none⟩))],[boxA u14_1 33 [.int .i64 0,.int .i64 0,.int .i64 0,.int .i64 0,.int .i64 0,.int .i64 0,.int .i64 0,.int .i64 0,.int .i64 0,.int .i64 0,.int .i64 0,.int .i64 0,.int .i64 0]],[rowA 33 (rI13 .i64) p8 c8 (Fl.bls wn l o (Fl.cnt (Fl.ldr (Fl.ge l th) cc) i) i),boxA b1 24 [.int .i64 ((wn:Nat):Int),.int .i64 ((hn9:Nat):Int),.int .i64 m,.slice p n cap]],[slF (rI .i64) p32 c33 o,slF (rI .i64) p cap l])) ?_ (fun hD1=> ?_)
    ·
     rintro u14_1
     dsimp only
     refine zV 15 (by kernel_rfl) ?_
     ·
      refine zN (by kernel_rfl) rfl rfl rfl rfl rfl sz33 rfl (.take (.take (.take (.take (.take (.take (.take (.take (.take (.take (.take (.take (.take .nil))))))))))))) ?_
      exact zec (hD0 u14_1) (by kernel_rfl) ((.of rfl):SubM _ _) .rfl .rfl ((.of [0,1] rfl):SelR _ _ _)
    refine zLd (X:=Unit) (k':=2) (L':=(lb 16 16383)) (fun _=>([(45,.agg #[.int .i64 1,.int .i64 (((i%wn):Nat):Int),.int .i64 (((i / wn):Nat):Int),.int .i64 (((i%wn):Nat):Int),.int .i64 (((i / wn):Nat):Int),.int .i64 (((i%wn):Nat):Int),.int .i64 (((i / wn):Nat):Int),.int .i64 ((((i%wn):Nat):Int)*(((i%wn):Nat):Int)),.int .i64 ((((i%wn):Nat):Int)*(((i / wn):Nat):Int)),.int .i64 ((((i / wn):Nat):Int)*(((i / wn):Nat):Int)),.int .i64 (l.getD i 0),.int .i64 ((l.getD i 0)*(((i%wn):Nat):Int)),.int .i64 ((l.getD i 0)*(((i / wn):Nat):Int))]),(8,.slice p8 (Fl.cnt (Fl.ldr (Fl.ge l th) cc) i) c8),(9,.int .i64 ((i:Nat):Int)),(6,.slice p32 (o.length) c33),(5,.int .i64 0),(4,.slice none 0 0),(2,.pointer (some ⟨b1,0,none⟩))],[],[rowA 33 (rI13 .i64) p8 c8 (Fl.bls wn l o (Fl.cnt (Fl.ldr (Fl.ge l th) cc) i) i),boxA b1 24 [.int .i64 ((wn:Nat):Int),.int .i64 ((hn9:Nat):Int),.int .i64 m,.slice p n cap]],[slF (rI .i64) p32 c33 o,slF (rI .i64) p cap l])) ?_ (fun hD2=> ?_)
    ·
     rintro ⟨⟩
     dsimp only
     refine zV 14 (by kernel_rfl) ?_
     ·
      refine zte rfl rfl rfl rfl (zI zr33 rfl) (fun u14_1 _=> ?_)
      exact zec (hD1 u14_1) (by kernel_rfl) ((.of rfl):SubM _ _) .rfl .rfl ((.of [0,1] rfl):SelR _ _ _)
    refine zLd (X:=Nat) (k':=2) (L':=(lb 16 24575)) (fun u14_1=>([(10,.pointer (some ⟨u14_1,0,none⟩)),(44,.int .i64 (l.getD i 0)),(39,.int .i64 (((i / wn):Nat):Int)),(35,.int .i64 (((i%wn):Nat):Int)),(8,.slice p8 (Fl.cnt (Fl.ldr (Fl.ge l th) cc) i) c8),(9,.int .i64 ((i:Nat):Int)),(6,.slice p32 (o.length) c33),(5,.int .i64 0),(4,.slice none 0 0),(2,.pointer (some ⟨b1,0,none⟩))],[boxA u14_1 33 [.int .i64 0,.int .i64 0,.int .i64 0,.int .i64 0,.int .i64 0,.int .i64 0,.int .i64 0,.int .i64 0,.int .i64 0,.int .i64 0,.int .i64 0,.int .i64 0,.int .i64 0]],[rowA 33 (rI13 .i64) p8 c8 (Fl.bls wn l o (Fl.cnt (Fl.ldr (Fl.ge l th) cc) i) i),boxA b1 24 [.int .i64 ((wn:Nat):Int),.int .i64 ((hn9:Nat):Int),.int .i64 m,.slice p n cap]],[slF (rI .i64) p32 c33 o,slF (rI .i64) p cap l])) ?_ (fun hD3=> ?_)
    ·
     rintro u14_1
     dsimp only
     refine zV 13 (by kernel_rfl) ?_
     ·
      refine zTa rfl rfl rfl rfl (.c rfl (.c rfl (.c rfl .n))) ce28 (zfc (x0:=(((i%wn):Nat):Int)) (y0:=(((i / wn):Nat):Int)) (g:=(l.getD i 0)) (hx:=by first|rfl|assumption|omega) (hy:=by first|rfl|assumption|omega) (hg:=by first|rfl|assumption|omega)) (.n) ?_
      exact zec (hD1 u14_1) (by kernel_rfl) ((.of rfl):SubM _ _) .rfl .rfl ((.of [0,1] rfl):SelR _ _ _)
    refine d_two 13 14 (by kernel_rfl) ?_ ?_
    ·
     refine zTa rfl rfl rfl rfl (.c rfl (.c rfl (.c rfl .n))) ce28 (zfc (x0:=(((i%wn):Nat):Int)) (y0:=(((i / wn):Nat):Int)) (g:=(l.getD i 0)) (hx:=by first|rfl|assumption|omega) (hy:=by first|rfl|assumption|omega) (hg:=by first|rfl|assumption|omega)) (.n) ?_
     exact zec (hD2 ()) (by kernel_rfl) ((.of rfl):SubM _ _) .rfl .rfl ((.of [0,1] rfl):SelR _ _ _)
    ·
     refine zte rfl rfl rfl rfl (zI zr33 rfl) (fun u14_1 _=> ?_)
     exact zec (hD3 u14_1) (by kernel_rfl) ((.of rfl):SubM _ _) .rfl .rfl ((.of [0,1] rfl):SelR _ _ _)
   ·
    have hfi:¬(Fl.ge l th) i=true:=fun h9=>hpos ((hLC.pos (show i<n by omega)).2 h9)
    refine zy<|zP<|ze<|zc<|r_pv rfl rfl (zb rfl)<|r_pv rfl rfl (zz (z:=(((i+1):Nat):Int)) rfl rfl (w64 (by omega)))<|r_pv rfl rfl (zd rfl)<|zj<|zaa ((i+1),p8,c8) (show (i+1)≤n from by omega) (by show n - (i+1)<n - i;omega) ((.e rfl (by dsimp only;rw [Fl.cnt_succ,if_neg (fun h9=>hfi (Fl.ldr_iff.1 h9).1)];rfl) (.of rfl)):SubM _ _) (ho:=((.e (i:=0) rfl (by dsimp only;rw [hLC.step0 (by omega) hfi]) (.c (i:=0) rfl .n)):PickO _ _ _)) ((.of [1,2] rfl):SelR _ _ _)
  ·
   refine zha<|zm<|zm<|zu<|ze<|zh<|zc<|r_pv rfl rfl (zb rfl)<|r_pv rfl rfl (zd rfl)<|r_pv rfl rfl (zd rfl)<|zj<|ze<|zG ?_
   have hin8:i=n:=by omega
   refine zIa 0 rfl .z ?_
   exact zwa Tryz.results8 (p8,c8,Fl.bls wn l o (Fl.cnt (Fl.ldr (Fl.ge l th) cc) i) i) (Fl.BlsR.yes hok hn hcl hLC (by rw [hin8])) (zo rfl) (zo rfl) (by rw [Decidable.not_not.1 hc,hbl]) (ho:=(.n:PickO _ _ _)) ((.c (j:=0) rfl .n):SelR _ _ _)
theorem zle {p1:Option Addr} {n1:Nat} {c1:Nat} {l1:List Bb} {p2:Option Addr} {n2:Nat} {c2:Nat} {l2:List Bb} (hn1:l1.length=n1) (hn2:l2.length=n2):Con Tryz.prog 9 [.slice p1 n1 c1,.slice p2 n2 c2] [] [slF (rI13 .i64) p1 c1 l1,slF (rI13 .i64) p2 c2 l2] (Y:=Unit) (fun y=>True) (fun y=> .bool (decide (l1=l2))) (fun y=>[]) (fun y=>[]):=by
 refine zp Tryz.func9 rfl rfl rfl (fun c=> ?_)
 show RunC _ _ _ _ _ [(0,.slice p1 n1 c1),(1,.slice p2 n2 c2)] [] [slF (rI13 .i64) p1 c1 l1,slF (rI13 .i64) p2 c2 l2]
 refine zea 0 rfl (fun hL0=> ?_)
 refine zea 1 rfl (fun hL1=> ?_)
 refine zh<|zc<|r_pv rfl rfl (zd rfl)<|zj<|ze<|zh<|zh<|zc<|r_pv rfl rfl (zb rfl)<|r_pv rfl rfl (zM Tryz.underlying27 rfl)<|r_pv rfl rfl (zb rfl)<|r_pv rfl rfl (zM Tryz.underlying27 rfl)<|r_pv rfl rfl (zHa rfl rfl)<|zj<|ze<|zD rfl (fun hlen=> ?_) (fun hlen=> ?_)
 ·
  refine zh<|zc<|r_pv rfl rfl (zd rfl)<|zj<|ze<|zG<|zq ?_
  exact zB Tryz.results9 () trivial (zo rfl) (congrArg Value.bool (decide_eq_false (fun h=>hlen (by rw [← hn1,←hn2,h])))) (ho:=(.n:PickO _ _ _)) (.n:SelR _ _ _)
 ·
  refine zy<|ze<|zh<|zh<|zc<|r_pv rfl rfl (zb rfl)<|r_pv rfl rfl (zM Tryz.underlying27 rfl)<|r_pv rfl rfl (zb rfl)<|zj<|ze<|zx<|zka (X:=Nat) (fun x:Nat=>x≤n1∧∀j,j<x→l1.getD j b0=l2.getD j b0) (fun x=>[(13,.int .i64 ((x:Nat):Int)),(12,.int .i64 ((n1:Nat):Int)),(0,.slice p1 n1 c1),(1,.slice p2 n2 c2)]) (fun x=>[]) (fun x=>[slF (rI13 .i64) p1 c1 l1,slF (rI13 .i64) p2 c2 l2]) (fun x:Nat=>n1 - x) 0 (show 0≤n1∧∀j,j<0→l1.getD j b0=l2.getD j b0 from by exact ⟨by omega,fun j h=>by omega⟩) ((.e rfl (by first|rfl|(congr 1;omega)|simp_all) (.of rfl)):SubM _ _) (ho:=(.n:PickO _ _ _)) ((.of [0,1] rfl):SelR _ _ _) ?_
  rintro i hI
  replace hI:i≤n1∧∀j,j<i→l1.getD j b0=l2.getD j b0:=hI
  try dsimp only
  obtain ⟨hi,hall⟩:=hI
  refine zh<|zc<|r_pv rfl rfl (zY rfl rfl)<|zj<|ze<|zh<|zD rfl (fun h1=> ?_) (fun h1=> ?_)
  ·
   refine zy<|ze<|zh<|zx<|zh<|zc<|r_pv rfl rfl (zb rfl)<|r_pv rfl rfl (zd rfl)<|zj<|ze<|zh<|zla (OW:=[]) (O:=[]) 100000 mixed (.then (.block (.then (.then (.block (.then .ret)))))) (by kernel_rfl)<|d_pv 0 rfl rfl (by kernel_rfl) (by kernel_rfl) rfl rfl (zb rfl)<|d_pv 1 rfl rfl (by kernel_rfl) (by kernel_rfl) rfl rfl (zb rfl)<|zja (x0:=(l1.getD i b0)) 2 rfl rfl (by kernel_rfl) (by kernel_rfl) 0 i rfl Tryz.underlying27 sz33 rfl rfl rfl (by first|rfl|assumption|(simp_all;done)|omega) rfl rfl (gD (d:=b0) (by omega)) (fun b2 o3 hok4=> ?_)
   obtain ⟨hok40,hok41,hok42,hok43,hok44,hok45,hok46,hok47,hok48,hok49,hok410,hok411,hok412⟩:=hok4
   replace hok40:=zk.1 hok40
   replace hok41:=zk.1 hok41
   replace hok42:=zk.1 hok42
   replace hok43:=zk.1 hok43
   replace hok44:=zk.1 hok44
   replace hok45:=zk.1 hok45
   replace hok46:=zk.1 hok46
   replace hok47:=zk.1 hok47
   replace hok48:=zk.1 hok48
   replace hok49:=zk.1 hok49
   replace hok410:=zk.1 hok410
   replace hok411:=zk.1 hok411
   replace hok412:=zk.1 hok412
   refine d_u 3 rfl rfl (by kernel_rfl) (by kernel_rfl) rfl rfl (zya (j:=0) 0 ty33 rfl rfl rfl (.take (.take (.take (.take (.take (.take (.take (.take (.take (.take (.take (.take (.take .nil))))))))))))))<|d_pv 4 rfl rfl (by kernel_rfl) (by kernel_rfl) rfl rfl (zb rfl)<|d_pv 5 rfl rfl (by kernel_rfl) (by kernel_rfl) rfl rfl (zb rfl)<|zja (x0:=(l2.getD i b0)) 6 rfl rfl (by kernel_rfl) (by kernel_rfl) 2 i rfl Tryz.underlying27 sz33 rfl rfl rfl (by first|rfl|assumption|(simp_all;done)|omega) rfl rfl (gD (d:=b0) (by omega)) (fun b5 o6 hok7=> ?_)
   obtain ⟨hok70,hok71,hok72,hok73,hok74,hok75,hok76,hok77,hok78,hok79,hok710,hok711,hok712⟩:=hok7
   replace hok70:=zk.1 hok70
   replace hok71:=zk.1 hok71
   replace hok72:=zk.1 hok72
   replace hok73:=zk.1 hok73
   replace hok74:=zk.1 hok74
   replace hok75:=zk.1 hok75
   replace hok76:=zk.1 hok76
   replace hok77:=zk.1 hok77
   replace hok78:=zk.1 hok78
   replace hok79:=zk.1 hok79
   replace hok710:=zk.1 hok710
   replace hok711:=zk.1 hok711
   replace hok712:=zk.1 hok712
   refine d_u 7 rfl rfl (by kernel_rfl) (by kernel_rfl) rfl rfl (zya (j:=0) 0 ty33 rfl rfl rfl (.take (.take (.take (.take (.take (.take (.take (.take (.take (.take (.take (.take (.take .nil))))))))))))))<|d_pv 8 rfl rfl (by kernel_rfl) (by kernel_rfl) rfl rfl (zXd (p:=(l1.getD i b0).ar=(l2.getD i b0).ar∧(l1.getD i b0).le=(l2.getD i b0).le∧(l1.getD i b0).tp=(l2.getD i b0).tp∧(l1.getD i b0).rt=(l2.getD i b0).rt∧(l1.getD i b0).bt=(l2.getD i b0).bt∧(l1.getD i b0).sx=(l2.getD i b0).sx∧(l1.getD i b0).sy=(l2.getD i b0).sy∧(l1.getD i b0).xx=(l2.getD i b0).xx∧(l1.getD i b0).xy=(l2.getD i b0).xy∧(l1.getD i b0).yy=(l2.getD i b0).yy∧(l1.getD i b0).ms=(l2.getD i b0).ms∧(l1.getD i b0).mx=(l2.getD i b0).mx∧(l1.getD i b0).my=(l2.getD i b0).my) (by kernel_rfl) rfl rfl (zvc Tryz.underlying33 (by kernel_rfl) (zva (by decide) ty3 rfl rfl (zua Tryz.underlying3) (zva (by decide) ty3 rfl rfl (zua Tryz.underlying3) (zva (by decide) ty3 rfl rfl (zua Tryz.underlying3) (zva (by decide) ty3 rfl rfl (zua Tryz.underlying3) (zva (by decide) ty3 rfl rfl (zua Tryz.underlying3) (zva (by decide) ty3 rfl rfl (zua Tryz.underlying3) (zva (by decide) ty3 rfl rfl (zua Tryz.underlying3) (zva (by decide) ty3 rfl rfl (zua Tryz.underlying3) (zva (by decide) ty3 rfl rfl (zua Tryz.underlying3) (zva (by decide) ty3 rfl rfl (zua Tryz.underlying3) (zva (by decide) ty3 rfl rfl (zua Tryz.underlying3) (zva (by decide) ty3 rfl rfl (zua Tryz.underlying3) (zva (by decide) ty3 rfl rfl (zua Tryz.underlying3) zwe)))))))))))))) (by simp [Bool.decide_and]))<|zfa (by kernel_rfl)<|ze<|zD rfl (fun hd=> ?_) (fun hd=> ?_)
   ·
    refine zh<|zc<|r_pv rfl rfl (zd rfl)<|zj<|ze<|zG<|zZ<|zq<|zq<|zZ<|zq ?_
    exact zB Tryz.results9 () trivial (zo rfl) (congrArg Value.bool (decide_eq_false (fun h=>hd (by rw [h];exact Fl.bb_eq.2 rfl)))) (ho:=(.n:PickO _ _ _)) (.n:SelR _ _ _)
   ·
    refine zy<|zP<|ze<|zc<|r_pv rfl rfl (zz (z:=(((i+1):Nat):Int)) rfl rfl (w64 (by omega)))<|r_pv rfl rfl (zb rfl)<|zj<|zaa (i+1) (show (i+1)≤n1∧∀j,j<(i+1)→l1.getD j b0=l2.getD j b0 from by refine ⟨by omega,fun j hj=> ?_⟩;by_cases e:j=i;rw [e];exact Fl.bb_eq.1 (Decidable.not_not.1 hd);exact hall j (by omega)) (by show n1 - (i+1)<n1 - i;omega) ((.of rfl):SubM _ _) (ho:=(.n:PickO _ _ _)) ((.of [2,3] rfl):SelR _ _ _)
  ·
   refine zha<|zm<|zm<|zu<|ze<|zh<|zc<|r_pv rfl rfl (zd rfl)<|zj<|ze<|zG ?_
   exact zB Tryz.results9 () trivial (zo rfl) (congrArg Value.bool (decide_eq_true (Fl.ext_gD (by omega) (fun j hj=>hall j (by omega))))) (ho:=(.n:PickO _ _ _)) (.n:SelR _ _ _)
end Go.Proofs.YtefbbhiaalcjfaaGreat.Sp
namespace Go.Proofs.YtefbbhiaalcjfaaGreat.Sp
open Go
set_option linter.unusedVariables false
set_option maxRecDepth 100000
set_option maxHeartbeats 1000000
theorem zef {ar:Int} {le:Int} {tp:Int} {rt:Int} {bt:Int} {sx:Int} {sy:Int} {xx:Int} {xy:Int} {yy:Int} {ms:Int} {mx:Int} {my:Int}:Con Tryz.prog 11 [.agg #[.int .i64 ar,.int .i64 le,.int .i64 tp,.int .i64 rt,.int .i64 bt,.int .i64 sx,.int .i64 sy,.int .i64 xx,.int .i64 xy,.int .i64 yy,.int .i64 ms,.int .i64 mx,.int .i64 my]] [] [] (Y:=Unit) (fun y=>True) (fun y=> .bool (decide (¬(if Bl.ok ar le tp rt bt sx sy xx xy yy ms mx my then (0:Int) else 1)=0))) (fun y=>[]) (fun y=>[]):=by
 refine zp Tryz.func11 rfl rfl rfl (fun c=> ?_)
 show RunC _ _ _ _ _ [(0,.agg #[.int .i64 ar,.int .i64 le,.int .i64 tp,.int .i64 rt,.int .i64 bt,.int .i64 sx,.int .i64 sy,.int .i64 xx,.int .i64 xy,.int .i64 yy,.int .i64 ms,.int .i64 mx,.int .i64 my])] [] []
 refine zh<|zc<|zS rfl rfl (zX rfl rfl) (fun b1=> ?_)
 refine r_pv rfl rfl (zd rfl)<|zj<|ze<|zh<|zc<|r_u rfl rfl (zi 0 ty33 rfl rfl (.take (.take (.take (.take (.take (.take (.take (.take (.take (.take (.take (.take (.take .nil))))))))))))))<|zQ rfl rfl (.c rfl .n) ce12 (zMb (ar:=ar) (le:=le) (tp:=tp) (rt:=rt) (bt:=bt) (sx:=sx) (sy:=sy) (xx:=xx) (xy:=xy) (yy:=yy) (ms:=ms) (mx:=mx) (my:=my)) (.n)<|r_pv rfl rfl (zHa rfl rfl)<|r_pv rfl rfl (zd rfl)<|zj<|ze<|zG ?_
 exact zB Tryz.results11 () trivial (zo rfl) rfl (ho:=(.n:PickO _ _ _)) (.n:SelR _ _ _)
theorem zrc {p:Option Addr} {n:Nat} {cap:Nat} {l:List Bb} (hn:l.length=n):Con Tryz.prog 30 [.slice p n cap,.func (.func 11) #[] #[]] [] [slF (rI13 .i64) p cap l] (Y:=Int) (fun y=>(0≤y↔∃g∈l,¬Fl.okb g)) (fun y=> .int .i64 y) (fun y=>[]) (fun y=>[]):=by
 refine zp Tryz.func30 rfl rfl rfl (fun c=> ?_)
 show RunC _ _ _ _ _ [(0,.slice p n cap),(1,.func (.func 11) #[] #[])] [] [slF (rI13 .i64) p cap l]
 refine zea 0 rfl (fun hL0=> ?_)
 refine zh<|zc<|r_pv rfl rfl (zd rfl)<|zj<|ze<|zh<|zh<|zc<|r_pv rfl rfl (zb rfl)<|r_pv rfl rfl (zM Tryz.underlying27 rfl)<|r_pv rfl rfl (zb rfl)<|zj<|ze<|zx<|zka (X:=Nat) (fun x:Nat=>x≤n∧∀j,j<x→Fl.okb (l.getD j b0)) (fun x=>[(8,.int .i64 ((x:Nat):Int)),(7,.int .i64 ((n:Nat):Int)),(0,.slice p n cap),(1,.func (.func 11) #[] #[])]) (fun x=>[]) (fun x=>[slF (rI13 .i64) p cap l]) (fun x:Nat=>n - x) 0 (show 0≤n∧∀j,j<0→Fl.okb (l.getD j b0) from by exact ⟨by omega,fun j h=>by omega⟩) ((.e rfl (by first|rfl|(congr 1;omega)|simp_all) (.of rfl)):SubM _ _) (ho:=(.n:PickO _ _ _)) ((.c (j:=0) rfl .n):SelR _ _ _) ?_
 rintro i hI
 replace hI:i≤n∧∀j,j<i→Fl.okb (l.getD j b0):=hI
 try dsimp only
 obtain ⟨hi,hall⟩:=hI
 refine zh<|zc<|r_pv rfl rfl (zY rfl rfl)<|zj<|ze<|zh<|zD rfl (fun h1=> ?_) (fun h1=> ?_)
 ·
  refine zy<|ze<|zh<|zx<|zh<|zc<|r_pv rfl rfl (zb rfl)<|r_pv rfl rfl (zd rfl)<|zj<|ze<|zh<|zc<|r_pv rfl rfl (zb rfl)<|r_pv rfl rfl (zb rfl)<|r_pv rfl rfl (zb rfl)<|zL (x0:=(l.getD i b0)) 0 i rfl Tryz.underlying27 sz33 rfl rfl rfl (by first|rfl|assumption|(simp_all;done)|omega) rfl rfl (gD (d:=b0) (by omega)) (fun b2 o3 hok4=> ?_)
  obtain ⟨hok40,hok41,hok42,hok43,hok44,hok45,hok46,hok47,hok48,hok49,hok410,hok411,hok412⟩:=hok4
  replace hok40:=zk.1 hok40
  replace hok41:=zk.1 hok41
  replace hok42:=zk.1 hok42
  replace hok43:=zk.1 hok43
  replace hok44:=zk.1 hok44
  replace hok45:=zk.1 hok45
  replace hok46:=zk.1 hok46
  replace hok47:=zk.1 hok47
  replace hok48:=zk.1 hok48
  replace hok49:=zk.1 hok49
  replace hok410:=zk.1 hok410
  replace hok411:=zk.1 hok411
  replace hok412:=zk.1 hok412
  refine r_u rfl rfl (zya (j:=0) 0 ty33 rfl rfl rfl (.take (.take (.take (.take (.take (.take (.take (.take (.take (.take (.take (.take (.take .nil))))))))))))))<|zSb (first:=[]) (cap:=[]) rfl rfl rfl (.c rfl .n) ce11 (zef (ar:=(l.getD i b0).ar) (le:=(l.getD i b0).le) (tp:=(l.getD i b0).tp) (rt:=(l.getD i b0).rt) (bt:=(l.getD i b0).bt) (sx:=(l.getD i b0).sx) (sy:=(l.getD i b0).sy) (xx:=(l.getD i b0).xx) (xy:=(l.getD i b0).xy) (yy:=(l.getD i b0).yy) (ms:=(l.getD i b0).ms) (mx:=(l.getD i b0).mx) (my:=(l.getD i b0).my)) (.n) ?_
  rintro ⟨⟩ -
  dsimp only [List.append_eq,List.nil_append,List.cons_append]
  refine zj<|ze<|zD rfl (fun hb=> ?_) (fun hb=> ?_)
  ·
   refine zh<|zc<|r_pv rfl rfl (zb rfl)<|r_pv rfl rfl (zd rfl)<|zj<|ze<|zG<|zZ<|zq<|zq<|zZ<|zq ?_
   exact zB Tryz.results30 ((i:Nat):Int) (⟨fun _=>⟨l.getD i b0,Fl.gB_mem (by omega),fun h9=>hb (Bl.c0.2 h9)⟩,fun _=>by omega⟩) (zo rfl) rfl (ho:=(.n:PickO _ _ _)) (.n:SelR _ _ _)
  ·
   refine zy<|zP<|ze<|zc<|r_pv rfl rfl (zz (z:=(((i+1):Nat):Int)) rfl rfl (w64 (by omega)))<|r_pv rfl rfl (zb rfl)<|zj<|zaa (i+1) (show (i+1)≤n∧∀j,j<(i+1)→Fl.okb (l.getD j b0) from by refine ⟨by omega,fun j hj=> ?_⟩;by_cases e:j=i;subst e;exact Bl.c0.1 (Decidable.not_not.1 hb);exact hall j (by omega)) (by show n - (i+1)<n - i;omega) ((.of rfl):SubM _ _) (ho:=(.n:PickO _ _ _)) ((.c (j:=1) rfl .n):SelR _ _ _)
 ·
  refine zha<|zm<|zm<|zu<|ze<|zh<|zc<|r_pv rfl rfl (zd rfl)<|zj<|ze<|zG ?_
  exact zB Tryz.results30 (-1) (⟨fun h=>by omega,fun ⟨g,hg,hb⟩=>by obtain ⟨j,hj,e⟩:=Fl.mem_gB hg;have:=hall j (by omega);rw [e] at this;exact absurd this hb⟩) (zo rfl) rfl (ho:=(.n:PickO _ _ _)) (.n:SelR _ _ _)
theorem zQb {p:Option Addr} {n:Nat} {cap:Nat} {l:List Bb} (hn:l.length=n):Con Tryz.prog 10 [.slice p n cap,.func (.func 11) #[] #[]] [] [slF (rI13 .i64) p cap l] (Y:=Unit) (fun y=>True) (fun y=> .bool (decide (∃g∈l,¬Fl.okb g))) (fun y=>[]) (fun y=>[]):=by
 refine zp Tryz.func10 rfl rfl rfl (fun c=> ?_)
 show RunC _ _ _ _ _ [(0,.slice p n cap),(1,.func (.func 11) #[] #[])] [] [slF (rI13 .i64) p cap l]
 refine zea 0 rfl (fun hL0=> ?_)
 refine zh<|zc<|r_pv rfl rfl (zd rfl)<|zj<|ze<|zh<|zc<|r_pv rfl rfl (zb rfl)<|r_pv rfl rfl (zb rfl)<|zC rfl rfl (.c rfl (.c rfl .n)) ce30 (zrc (p:=p) (n:=n) (cap:=cap) (l:=l) (hn:=by assumption)) (.c (j:=0) rfl .n) ?_
 rintro r1 hr
 dsimp only [List.append_eq,List.nil_append,List.cons_append]
 replace hr:(0≤r1↔∃g∈l,¬Fl.okb g):=hr
 refine r_pv rfl rfl (zBa rfl rfl)<|r_pv rfl rfl (zd rfl)<|zj<|ze<|zG ?_
 exact zB Tryz.results10 () trivial (zo rfl) (congrArg Value.bool (decide_eq_decide.2 hr.symm)) (ho:=(.n:PickO _ _ _)) (.n:SelR _ _ _)
theorem zkd {w:Int} {h:Int} {m:Int} {p:Option Addr} {n:Nat} {cap:Nat} {l:List Int} {th:Int} (hn:l.length=n):Con Tryz.prog 3 [.agg #[.int .i64 w,.int .i64 h,.int .i64 m,.slice p n cap],.int .i64 th] [] [slF (rI .i64) p cap l] (Y:=Unit) (fun y=>True) (fun y=> .bool true) (fun y=>[]) (fun y=>[]):=by
 refine zp Tryz.func3 rfl rfl rfl (fun c=> ?_)
 show RunC _ _ _ _ _ [(0,.agg #[.int .i64 w,.int .i64 h,.int .i64 m,.slice p n cap]),(1,.int .i64 th)] [] [slF (rI .i64) p cap l]
 refine zea 0 rfl (fun hL0=> ?_)
 refine zh<|zc<|zS rfl rfl (zX rfl rfl) (fun b1=> ?_)
 refine r_pv rfl rfl (zd rfl)<|zj<|ze<|zh<|zh<|zc<|zQ rfl rfl (.n) ce5 (zdf) (.n)<|r_pv rfl rfl (zpb rfl)<|zj<|ze<|zWa rfl rfl<|zy<|ze<|zh<|zh<|zc<|r_u rfl rfl (zi 0 ty24 rfl rfl (.take (.take (.take (.take .nil)))))<|zQ rfl rfl (.c rfl .n) ce6 (zMf (w:=w) (h:=h) (m:=m) (p:=p) (n:=n) (cap:=cap) (l:=l) (hn:=by assumption)) (.c (j:=0) rfl .n)<|r_pv rfl rfl (zgb rfl)<|zj<|ze<|zD rfl (fun h2=> ?_) (fun h2=> ?_)
 ·
  refine zh<|zc<|r_pv rfl rfl (zd rfl)<|zj<|ze<|zG<|zq ?_
  exact zB Tryz.results3 () trivial (zo rfl) rfl (ho:=(.n:PickO _ _ _)) (.n:SelR _ _ _)
 ·
  refine zy<|ze<|zh<|zc<|r_u rfl rfl (zi 0 ty24 rfl rfl (.take (.take (.take (.take .nil)))))<|r_pv rfl rfl (zb rfl)<|zC rfl rfl (.c rfl (.c rfl .n)) ce7 (zZc (w:=w) (h:=h) (m:=m) (p:=p) (n:=n) (cap:=cap) (l:=l) (th:=th) (hn:=by assumption)) (.c (j:=0) rfl .n) ?_
  rintro ⟨p33,c34,o1⟩ hL1
  dsimp only [List.append_eq,List.nil_append,List.cons_append]
  replace hL1:Fl.BlsR w h m l th o1:=hL1
  refine r_pv rfl rfl (zb rfl)<|r_pv rfl rfl (zt rfl rfl)<|r_pv rfl rfl (zt rfl rfl)<|r_pv rfl rfl (zd rfl)<|r_pv rfl rfl (zd rfl)<|zj<|ze<|zh<|zc<|r_u rfl rfl (zi 0 ty24 rfl rfl (.take (.take (.take (.take .nil)))))<|r_pv rfl rfl (zb rfl)<|zC rfl rfl (.c rfl (.c rfl .n)) ce8 (zke (w:=w) (h:=h) (m:=m) (p:=p) (n:=n) (cap:=cap) (l:=l) (th:=th) (hn:=by assumption)) (.c (j:=1) rfl .n) ?_
  rintro ⟨p35,c36,o2⟩ hL2
  dsimp only [List.append_eq,List.nil_append,List.cons_append]
  replace hL2:Fl.BlsR w h m l th o2:=hL2
  have e7:o1=o2:=by exact hL1.uniq hL2
  subst e7
  refine r_pv rfl rfl (zb rfl)<|r_pv rfl rfl (zt rfl rfl)<|r_pv rfl rfl (zt rfl rfl)<|r_pv rfl rfl (zd rfl)<|r_pv rfl rfl (zd rfl)<|zj<|ze<|zh<|zc<|r_pv rfl rfl (zb rfl)<|r_pv rfl rfl (zb rfl)<|r_pv rfl rfl (zCa rfl rfl) ?_
  rw [Fl.self_eq]
  refine r_pv rfl rfl (zb rfl)<|r_pv rfl rfl (zb rfl)<|r_pv rfl rfl (zb rfl)<|zQ rfl rfl (.c rfl (.c rfl .n)) ce9 (zle (p1:=p33) (n1:=(o1.length)) (c1:=c34) (l1:=o1) (p2:=p35) (n2:=(o1.length)) (c2:=c36) (l2:=o1) (hn1:=by first|rfl|assumption) (hn2:=by first|rfl|assumption)) (.c (j:=1) rfl (.c (j:=0) rfl .n)) ?_
  rw [show (decide (o1=o1))=true from by exact decide_eq_true rfl]
  refine r_pv rfl rfl (zl rfl rfl)<|r_pv rfl rfl (zb rfl)<|r_pv rfl rfl (zb rfl)<|zQ rfl rfl (.c rfl (.c rfl .n)) ce10 (zQb (p:=p33) (n:=(o1.length)) (cap:=c34) (l:=o1) (hn:=by first|rfl|assumption)) (.c (j:=1) rfl .n) ?_
  rw [show (decide (∃g∈o1,¬Fl.okb g))=false from by exact decide_eq_false (fun ⟨g,hg,h9⟩=>h9 (hL1.ok g hg))]
  refine r_pv rfl rfl (zpb rfl)<|r_pv rfl rfl (zl rfl rfl)<|r_pv rfl rfl (zd rfl)<|zj<|ze<|zG ?_
  exact zB Tryz.results3 () trivial (zo rfl) rfl (ho:=(.n:PickO _ _ _)) (.n:SelR _ _ _)
end Go.Proofs.YtefbbhiaalcjfaaGreat.Sp
