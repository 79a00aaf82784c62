/- Lemmas on the walk and plain lemmas that the claim of this folder uses; each states its own conditions. Lines were printed by a program of ours. -/
import Derived.Test.YtkamccndgblheaaGreatZ5D
set_option linter.unusedVariables false
set_option linter.unusedSimpArgs false
set_option linter.unusedSectionVars false
namespace Go.Proofs.YtkamccndgblheaaGreat.Sp
open Go
set_option linter.unusedVariables false
set_option maxRecDepth 100000
set_option maxHeartbeats 1000000
theorem zAf {wi1:Int} {hi1:Int} {m1:Int} {p1:Option Addr} {n1:Nat} {c1:Nat} {l1:List Int} {wi2:Int} {hi2:Int} {m2:Int} {p2:Option Addr} {n2:Nat} {c2:Nat} {l2:List Int} (hn1:l1.length=n1) (hn2:l2.length=n2):Con Tryz.prog 18 [.agg #[.int .i64 wi1,.int .i64 hi1,.int .i64 m1,.slice p1 n1 c1],.agg #[.int .i64 wi2,.int .i64 hi2,.int .i64 m2,.slice p2 n2 c2]] [] [slF (rI .i64) p1 c1 l1,slF (rI .i64) p2 c2 l2] (Y:=Wd×Wd) (fun y=>((if (Cr.rk2 wi1 hi1 m1 l1 wi2 hi2 m2 l2) then Cr.best l1 l2 wi1 hi1 wi2 hi2 else none).isSome=false→y.1=wz∧y.2=wz)∧Big.hq (Cr.pQ (if (Cr.rk2 wi1 hi1 m1 l1 wi2 hi2 m2 l2) then Cr.best l1 l2 wi1 hi1 wi2 hi2 else none))≤6) (fun y=> .tuple #[.int .i64 (Cr.pX (if (Cr.rk2 wi1 hi1 m1 l1 wi2 hi2 m2 l2) then Cr.best l1 l2 wi1 hi1 wi2 hi2 else none)),.int .i64 (Cr.pY (if (Cr.rk2 wi1 hi1 m1 l1 wi2 hi2 m2 l2) then Cr.best l1 l2 wi1 hi1 wi2 hi2 else none)),.agg #[y.1.b,y.1.l,y.2.b,y.2.l],.int .i64 (if (Cr.rk2 wi1 hi1 m1 l1 wi2 hi2 m2 l2) then (if (if (Cr.rk2 wi1 hi1 m1 l1 wi2 hi2 m2 l2) then Cr.best l1 l2 wi1 hi1 wi2 hi2 else none).isSome then 0 else 6) else 1)]) (fun y=>[]) (fun y=>[qF ((if (Cr.rk2 wi1 hi1 m1 l1 wi2 hi2 m2 l2) then Cr.best l1 l2 wi1 hi1 wi2 hi2 else none).isSome) y.1 y.2 (Cr.pQ (if (Cr.rk2 wi1 hi1 m1 l1 wi2 hi2 m2 l2) then Cr.best l1 l2 wi1 hi1 wi2 hi2 else none))]):=by
 refine zr Tryz.func18 rfl rfl rfl (fun c=> ?_)
 show RunC _ _ _ _ _ [(0,.agg #[.int .i64 wi1,.int .i64 hi1,.int .i64 m1,.slice p1 n1 c1]),(1,.agg #[.int .i64 wi2,.int .i64 hi2,.int .i64 m2,.slice p2 n2 c2])] [] [slF (rI .i64) p1 c1 l1,slF (rI .i64) p2 c2 l2]
 refine zaa 0 rfl (fun hL0=> ?_)
 refine zaa 1 rfl (fun hL1=> ?_)
 refine zh<|zc<|zK rfl rfl (zP rfl rfl) (fun b1=> ?_)
 refine zK rfl rfl (zP rfl rfl) (fun b2=> ?_)
 refine r_pv rfl rfl (ze rfl)<|r_pv rfl rfl (ze rfl)<|zK rfl rfl (zu zr32 rfl) (fun b3=> ?_)
 refine r_pv rfl rfl (ze rfl)<|zj<|zf<|zh<|zh<|zc<|r_u rfl rfl (zd 2 ty24 rfl rfl (.take (.take (.take (.take .nil)))))<|r_u rfl rfl (zd 1 ty24 rfl rfl (.take (.take (.take (.take .nil)))))<|zN rfl rfl (.c rfl (.c rfl .n)) ce34 (zdd (wi1:=wi1) (hi1:=hi1) (m1:=m1) (p1:=p1) (n1:=n1) (c1:=c1) (l1:=l1) (wi2:=wi2) (hi2:=hi2) (m2:=m2) (p2:=p2) (n2:=n2) (c2:=c2) (l2:=l2) (hn1:=by assumption) (hn2:=by assumption)) (.c (j:=0) rfl (.c (j:=1) rfl .n))<|r_pv rfl rfl (ze rfl)<|zj<|zf<|zh<|zc<|r_pv rfl rfl (za rfl)<|r_pv rfl rfl (zMa rfl rfl)<|zj<|zf<|zJ rfl (fun hc=> ?_) (fun hc=> ?_)
 ·
  have hno:¬(Cr.rk2 wi1 hi1 m1 l1 wi2 hi2 m2 l2):=fun k=>hc (if_pos k)
  refine zh<|zc<|r_pv rfl rfl (zE zr32 rfl Tryz.underlying32 (.c sz30 (.c sz30 .n)) .n .n)<|r_pv rfl rfl (za rfl)<|r_pv rfl rfl (ze rfl)<|r_pv rfl rfl (ze rfl)<|zl 0 rfl rfl rfl rfl rfl sz32 rfl (.take (.take (.take (.take .nil)))) .z<|r_pv rfl rfl (ze rfl)<|zj<|zf<|zL<|zq<|zIa (qF false wz wz 0) (fun g _=>qF_none g) ?_
  have hk9:(if (Cr.rk2 wi1 hi1 m1 l1 wi2 hi2 m2 l2) then Cr.best l1 l2 wi1 hi1 wi2 hi2 else none)=none:=if_neg hno
  exact zke Tryz.results18 (wz,wz) (⟨fun _=>⟨rfl,rfl⟩,by rw [hk9];decide⟩) (zt rfl) (zt rfl) (zp 0 ty32 rfl rfl (.take (.take (.take (.take .nil))))) (zt rfl) (by simp only [hk9,if_neg hno];rfl) (ho:=(.n:PickO _ _ _)) ((.e (j:=0) rfl (by rw [hk9];rfl) .n):SelR _ _ _)
 ·
  have hok:(Cr.rk2 wi1 hi1 m1 l1 wi2 hi2 m2 l2):=Bl.c0.1 (Decidable.not_not.1 hc)
  obtain ⟨w1,vh1,rfl,rfl,hw1,hh1,hwh1,hb1,hg1⟩:=Cr.rokN (hok.1) hn1
  obtain ⟨w2,vh2,rfl,rfl,hw2,hh2,hwh2,hb2,hg2⟩:=Cr.rokN (hok.2) hn2
  refine zH<|zf<|zh<|zba (OW:=[]) (O:=[boxA b3 32 [.bool false,.slice none 0 0,.bool false,.slice none 0 0],boxA b2 24 [.int .i64 ((w2:Nat):Int),.int .i64 ((vh2:Nat):Int),.int .i64 m2,.slice p2 n2 c2],boxA b1 24 [.int .i64 ((w1:Nat):Int),.int .i64 ((vh1:Nat):Int),.int .i64 m1,.slice p1 n1 c1]]) 16 mixed (.then .ret) (by kernel_rfl)<|d_u 0 rfl rfl (by kernel_rfl) (by kernel_rfl) rfl rfl (zd 2 ty24 rfl rfl (.take (.take (.take (.take .nil)))))<|d_u 1 rfl rfl (by kernel_rfl) (by kernel_rfl) rfl rfl (zd 1 ty24 rfl rfl (.take (.take (.take (.take .nil)))))<|d_pv 3 rfl rfl (by kernel_rfl) (by kernel_rfl) rfl rfl (zg Tryz.underlying24 rfl sz3 rfl rfl)<|d_u 4 rfl rfl (by kernel_rfl) (by kernel_rfl) rfl rfl (zi 1 ty3 rfl rfl rfl)<|d_pv 5 rfl rfl (by kernel_rfl) (by kernel_rfl) rfl rfl (zg Tryz.underlying24 rfl sz3 rfl rfl)<|d_u 6 rfl rfl (by kernel_rfl) (by kernel_rfl) rfl rfl (zi 1 ty3 rfl rfl rfl)<|znc (m':=[(27,.int .i64 ((vh2:Nat):Int)),(25,.int .i64 ((w2:Nat):Int)),(22,.agg #[.int .i64 ((w2:Nat):Int),.int .i64 ((vh2:Nat):Int),.int .i64 m2,.slice p2 n2 c2]),(21,.agg #[.int .i64 ((w1:Nat):Int),.int .i64 ((vh1:Nat):Int),.int .i64 m1,.slice p1 n1 c1]),(7,.int .i64 0),(6,.pointer (some ⟨b3,0,none⟩)),(5,.int .i64 0),(4,.int .i64 0)]) (R':=[slF (rI .i64) p1 c1 l1,slF (rI .i64) p2 c2 l2]) ((.of rfl):SubM _ _) (List.Perm.refl _) (List.Perm.refl _) ((.of [0,1] rfl):SelR _ _ _)<|zga (X:=Nat×Option Addr×Nat×Option Addr×Nat×Wd×Wd×Nat) (k':=0) (L':=(lb 18 262143)) (fun (u2_1,u2_2,u2_3,u2_4,u2_5,u7_1,u7_2,u13_1)=>([(12,.bool ((Cr.allP (Cr.pat l1 l2 ((w1:Nat):Int) ((vh1:Nat):Int) ((w2:Nat):Int) ((vh2:Nat):Int)) 0 0 (((w2:Nat):Int) - 0+1).toNat (((vh2:Nat):Int) - 0+1).toNat).isSome)),(10,.int .i64 (Cr.pY (Cr.allP (Cr.pat l1 l2 ((w1:Nat):Int) ((vh1:Nat):Int) ((w2:Nat):Int) ((vh2:Nat):Int)) 0 0 (((w2:Nat):Int) - 0+1).toNat (((vh2:Nat):Int) - 0+1).toNat))),(9,.int .i64 (Cr.pX (Cr.allP (Cr.pat l1 l2 ((w1:Nat):Int) ((vh1:Nat):Int) ((w2:Nat):Int) ((vh2:Nat):Int)) 0 0 (((w2:Nat):Int) - 0+1).toNat (((vh2:Nat):Int) - 0+1).toNat))),(11,.pointer (some ⟨u13_1,0,none⟩)),(7,.int .i64 0),(6,.pointer (some ⟨b3,0,none⟩)),(5,.int .i64 0),(4,.int .i64 0)],[boxA u13_1 32 (cw [u7_1,u7_2])],[boxA b3 32 [.bool false,.slice none 0 0,.bool false,.slice none 0 0],boxA b2 24 [.int .i64 ((w2:Nat):Int),.int .i64 ((vh2:Nat):Int),.int .i64 m2,.slice p2 n2 c2],boxA b1 24 [.int .i64 ((w1:Nat):Int),.int .i64 ((vh1:Nat):Int),.int .i64 m1,.slice p1 n1 c1]],[qF ((Cr.allP (Cr.pat l1 l2 ((w1:Nat):Int) ((vh1:Nat):Int) ((w2:Nat):Int) ((vh2:Nat):Int)) 0 0 (((w2:Nat):Int) - 0+1).toNat (((vh2:Nat):Int) - 0+1).toNat).isSome) u7_1 u7_2 (Cr.pQ (Cr.allP (Cr.pat l1 l2 ((w1:Nat):Int) ((vh1:Nat):Int) ((w2:Nat):Int) ((vh2:Nat):Int)) 0 0 (((w2:Nat):Int) - 0+1).toNat (((vh2:Nat):Int) - 0+1).toNat)),atF u2_1 0 [.int .i64 ((w1:Nat):Int),.int .i64 ((vh1:Nat):Int),.int .i64 m1,.slice p1 n1 c1,.int .i64 ((w2:Nat):Int),.int .i64 ((vh2:Nat):Int),.int .i64 m2,.slice p2 n2 c2,.slice u2_2 (vh2+1) u2_3,.slice u2_4 (vh2+1) u2_5,.int .i64 (Cr.sumN (Cr.px l1) n1),.int .i64 ((((n1:Nat):Int)*(Cr.sumN (Cr.sq l1) n1)) - ((Cr.sumN (Cr.px l1) n1)*(Cr.sumN (Cr.px l1) n1)))],slF (rS (rI .i64)) u2_2 u2_3 (Cr.tab (Cr.px l2) w2 (vh2+1)),slF (rS (rI .i64)) u2_4 u2_5 (Cr.tab (Cr.sq l2) w2 (vh2+1)),slF (rI .i64) p1 c1 l1,slF (rI .i64) p2 c2 l2])) ?_ (fun hD0=> ?_)
  ·
   rintro ⟨u2_1,u2_2,u2_3,u2_4,u2_5,u7_1,u7_2,u13_1⟩
   dsimp only [cw]
   refine zV (by kernel_rfl)<|zf<|zh<|zh<|zc<|r_pv rfl rfl (za rfl)<|r_pv rfl rfl (zDb rfl)<|zj<|zf<|zQb rfl (fun hf=> ?_) (fun hf=> ?_)
   ·
    refine zh<|zc<|r_pv rfl rfl (zE zr32 rfl Tryz.underlying32 (.c sz30 (.c sz30 .n)) .n .n)<|r_pv rfl rfl (ze rfl)<|r_pv rfl rfl (ze rfl)<|zl 1 rfl rfl rfl rfl rfl sz32 rfl (.take (.take (.take (.take .nil)))) (.s .z)<|r_pv rfl rfl (ze rfl)<|zj<|zf<|zL<|zq<|zIa (qF false wz wz 0) (fun g _=>qF_none g) ?_
    have hk9:(if (Cr.rk2 ((w1:Nat):Int) ((vh1:Nat):Int) m1 l1 ((w2:Nat):Int) ((vh2:Nat):Int) m2 l2) then Cr.best l1 l2 ((w1:Nat):Int) ((vh1:Nat):Int) ((w2:Nat):Int) ((vh2:Nat):Int) else none)=none:=by rw [if_pos hok];exact Cr.none_of (Cr.bnt hf)
    exact zke Tryz.results18 (wz,wz) (⟨fun _=>⟨rfl,rfl⟩,by rw [hk9];decide⟩) (zt rfl) (zt rfl) (zp 1 ty32 rfl rfl (.take (.take (.take (.take .nil))))) (zt rfl) (by simp only [hk9,if_pos hok];rfl) (ho:=(.n:PickO _ _ _)) ((.e (j:=0) rfl (by rw [hk9];rfl) .n):SelR _ _ _)
   ·
    refine zH<|zf<|zh<|zqa (.c (i:=1) rfl (.c (i:=0) rfl (.c (i:=0) rfl (.c (i:=0) rfl .n))))<|zba (OW:=[boxA b3 32 [.bool false,.slice none 0 0,.bool false,.slice none 0 0]]) (O:=[boxA u13_1 32 [u7_1.b,u7_1.l,u7_2.b,u7_2.l],boxA b2 24 [.int .i64 ((w2:Nat):Int),.int .i64 ((vh2:Nat):Int),.int .i64 m2,.slice p2 n2 c2],boxA b1 24 [.int .i64 ((w1:Nat):Int),.int .i64 ((vh1:Nat):Int),.int .i64 m1,.slice p1 n1 c1]]) 5 mixed (.then .ret) (by kernel_rfl)<|d_pv 0 rfl rfl (by kernel_rfl) (by kernel_rfl) rfl rfl (za rfl)<|d_pv 1 rfl rfl (by kernel_rfl) (by kernel_rfl) rfl rfl (za rfl)<|d_uw 2 rfl rfl (by kernel_rfl) (by kernel_rfl) (by kernel_rfl) rfl rfl (zd 1 ty32 rfl rfl (.take (.take (.take (.take .nil)))))<|d_pv 3 rfl rfl (by kernel_rfl) (by kernel_rfl) rfl rfl (ze rfl)<|d_pv 4 rfl rfl (by kernel_rfl) (by kernel_rfl) rfl rfl (ze rfl)<|zD 5 (by kernel_rfl) (zy (by kernel_rfl) rfl rfl rfl rfl rfl sz32 rfl (.take (.take (.take (.take .nil)))) ?_)
    refine d_pv 6 rfl rfl (by kernel_rfl) (by kernel_rfl) rfl rfl (ze rfl)<|zV (by kernel_rfl)<|zf<|zL ?_
    have hf9:(Cr.best l1 l2 ((w1:Nat):Int) ((vh1:Nat):Int) ((w2:Nat):Int) ((vh2:Nat):Int)).isSome=true:=Cr.bnf hf
    have hk9:(if (Cr.rk2 ((w1:Nat):Int) ((vh1:Nat):Int) m1 l1 ((w2:Nat):Int) ((vh2:Nat):Int) m2 l2) then Cr.best l1 l2 ((w1:Nat):Int) ((vh1:Nat):Int) ((w2:Nat):Int) ((vh2:Nat):Int) else none)=(Cr.best l1 l2 ((w1:Nat):Int) ((vh1:Nat):Int) ((w2:Nat):Int) ((vh2:Nat):Int)):=if_pos hok
    exact zke Tryz.results18 (u7_1,u7_2) (⟨fun h9=>(by rw [hk9,hf9] at h9;cases h9),(by rw [hk9];exact Cr.best_hq hn1 hg1 hg2 hw1 hh1 hwh1 hwh2 hb1)⟩) (zt rfl) (zt rfl) (zp 0 ty32 rfl rfl (.take (.take (.take (.take .nil))))) (zt rfl) (by simp only [hk9,if_pos hok,hf9];rfl) (ho:=(.n:PickO _ _ _)) ((.e (j:=0) rfl (by rw [hk9];rfl) .n):SelR _ _ _)
  refine zga (X:=Nat×Option Addr×Nat×Option Addr×Nat×Wd×Wd×Nat) (k':=2) (L':=(lb 18 65535)) (fun (u2_1,u2_2,u2_3,u2_4,u2_5,u7_1,u7_2,u13_1)=>([(10,.int .i64 (Cr.pY (Cr.allP (Cr.pat l1 l2 ((w1:Nat):Int) ((vh1:Nat):Int) ((w2:Nat):Int) ((vh2:Nat):Int)) 0 0 (((w2:Nat):Int) - 0+1).toNat (((vh2:Nat):Int) - 0+1).toNat))),(9,.int .i64 (Cr.pX (Cr.allP (Cr.pat l1 l2 ((w1:Nat):Int) ((vh1:Nat):Int) ((w2:Nat):Int) ((vh2:Nat):Int)) 0 0 (((w2:Nat):Int) - 0+1).toNat (((vh2:Nat):Int) - 0+1).toNat))),(11,.pointer (some ⟨u13_1,0,none⟩)),(32,.bool ((Cr.allP (Cr.pat l1 l2 ((w1:Nat):Int) ((vh1:Nat):Int) ((w2:Nat):Int) ((vh2:Nat):Int)) 0 0 (((w2:Nat):Int) - 0+1).toNat (((vh2:Nat):Int) - 0+1).toNat).isSome)),(31,.agg (cw [u7_1,u7_2]).toArray),(7,.int .i64 0),(6,.pointer (some ⟨b3,0,none⟩)),(5,.int .i64 0),(4,.int .i64 0)],[boxA u13_1 32 [.bool false,.slice none 0 0,.bool false,.slice none 0 0]],[boxA b3 32 [.bool false,.slice none 0 0,.bool false,.slice none 0 0],boxA b2 24 [.int .i64 ((w2:Nat):Int),.int .i64 ((vh2:Nat):Int),.int .i64 m2,.slice p2 n2 c2],boxA b1 24 [.int .i64 ((w1:Nat):Int),.int .i64 ((vh1:Nat):Int),.int .i64 m1,.slice p1 n1 c1]],[qF ((Cr.allP (Cr.pat l1 l2 ((w1:Nat):Int) ((vh1:Nat):Int) ((w2:Nat):Int) ((vh2:Nat):Int)) 0 0 (((w2:Nat):Int) - 0+1).toNat (((vh2:Nat):Int) - 0+1).toNat).isSome) u7_1 u7_2 (Cr.pQ (Cr.allP (Cr.pat l1 l2 ((w1:Nat):Int) ((vh1:Nat):Int) ((w2:Nat):Int) ((vh2:Nat):Int)) 0 0 (((w2:Nat):Int) - 0+1).toNat (((vh2:Nat):Int) - 0+1).toNat)),atF u2_1 0 [.int .i64 ((w1:Nat):Int),.int .i64 ((vh1:Nat):Int),.int .i64 m1,.slice p1 n1 c1,.int .i64 ((w2:Nat):Int),.int .i64 ((vh2:Nat):Int),.int .i64 m2,.slice p2 n2 c2,.slice u2_2 (vh2+1) u2_3,.slice u2_4 (vh2+1) u2_5,.int .i64 (Cr.sumN (Cr.px l1) n1),.int .i64 ((((n1:Nat):Int)*(Cr.sumN (Cr.sq l1) n1)) - ((Cr.sumN (Cr.px l1) n1)*(Cr.sumN (Cr.px l1) n1)))],slF (rS (rI .i64)) u2_2 u2_3 (Cr.tab (Cr.px l2) w2 (vh2+1)),slF (rS (rI .i64)) u2_4 u2_5 (Cr.tab (Cr.sq l2) w2 (vh2+1)),slF (rI .i64) p1 c1 l1,slF (rI .i64) p2 c2 l2])) ?_ (fun hD1=> ?_)
  ·
   rintro ⟨u2_1,u2_2,u2_3,u2_4,u2_5,u7_1,u7_2,u13_1⟩
   dsimp only [cw]
   refine zD 16 (by kernel_rfl) ?_
   ·
    refine zy (by kernel_rfl) rfl rfl rfl rfl rfl sz32 rfl (.take (.take (.take (.take .nil))))<|d_pv 17 rfl rfl (by kernel_rfl) (by kernel_rfl) rfl rfl (ze rfl) ?_
    exact zO (hD0 (u2_1,u2_2,u2_3,u2_4,u2_5,u7_1,u7_2,u13_1)) (by kernel_rfl) ((.of rfl):SubM _ _) .rfl .rfl ((.of [0,1,2,3,4,5] rfl):SelR _ _ _)
  refine zga (X:=Nat×Option Addr×Nat×Option Addr×Nat×Wd×Wd) (k':=5) (L':=(lb 18 8191)) (fun (u2_1,u2_2,u2_3,u2_4,u2_5,u7_1,u7_2)=>([(32,.bool ((Cr.allP (Cr.pat l1 l2 ((w1:Nat):Int) ((vh1:Nat):Int) ((w2:Nat):Int) ((vh2:Nat):Int)) 0 0 (((w2:Nat):Int) - 0+1).toNat (((vh2:Nat):Int) - 0+1).toNat).isSome)),(31,.agg (cw [u7_1,u7_2]).toArray),(30,.int .i64 (Cr.pY (Cr.allP (Cr.pat l1 l2 ((w1:Nat):Int) ((vh1:Nat):Int) ((w2:Nat):Int) ((vh2:Nat):Int)) 0 0 (((w2:Nat):Int) - 0+1).toNat (((vh2:Nat):Int) - 0+1).toNat))),(29,.int .i64 (Cr.pX (Cr.allP (Cr.pat l1 l2 ((w1:Nat):Int) ((vh1:Nat):Int) ((w2:Nat):Int) ((vh2:Nat):Int)) 0 0 (((w2:Nat):Int) - 0+1).toNat (((vh2:Nat):Int) - 0+1).toNat))),(7,.int .i64 0),(6,.pointer (some ⟨b3,0,none⟩)),(5,.int .i64 0),(4,.int .i64 0)],[],[boxA b3 32 [.bool false,.slice none 0 0,.bool false,.slice none 0 0],boxA b2 24 [.int .i64 ((w2:Nat):Int),.int .i64 ((vh2:Nat):Int),.int .i64 m2,.slice p2 n2 c2],boxA b1 24 [.int .i64 ((w1:Nat):Int),.int .i64 ((vh1:Nat):Int),.int .i64 m1,.slice p1 n1 c1]],[qF ((Cr.allP (Cr.pat l1 l2 ((w1:Nat):Int) ((vh1:Nat):Int) ((w2:Nat):Int) ((vh2:Nat):Int)) 0 0 (((w2:Nat):Int) - 0+1).toNat (((vh2:Nat):Int) - 0+1).toNat).isSome) u7_1 u7_2 (Cr.pQ (Cr.allP (Cr.pat l1 l2 ((w1:Nat):Int) ((vh1:Nat):Int) ((w2:Nat):Int) ((vh2:Nat):Int)) 0 0 (((w2:Nat):Int) - 0+1).toNat (((vh2:Nat):Int) - 0+1).toNat)),atF u2_1 0 [.int .i64 ((w1:Nat):Int),.int .i64 ((vh1:Nat):Int),.int .i64 m1,.slice p1 n1 c1,.int .i64 ((w2:Nat):Int),.int .i64 ((vh2:Nat):Int),.int .i64 m2,.slice p2 n2 c2,.slice u2_2 (vh2+1) u2_3,.slice u2_4 (vh2+1) u2_5,.int .i64 (Cr.sumN (Cr.px l1) n1),.int .i64 ((((n1:Nat):Int)*(Cr.sumN (Cr.sq l1) n1)) - ((Cr.sumN (Cr.px l1) n1)*(Cr.sumN (Cr.px l1) n1)))],slF (rS (rI .i64)) u2_2 u2_3 (Cr.tab (Cr.px l2) w2 (vh2+1)),slF (rS (rI .i64)) u2_4 u2_5 (Cr.tab (Cr.sq l2) w2 (vh2+1)),slF (rI .i64) p1 c1 l1,slF (rI .i64) p2 c2 l2])) ?_ (fun hD2=> ?_)
  ·
   rintro ⟨u2_1,u2_2,u2_3,u2_4,u2_5,u7_1,u7_2⟩
   dsimp only [cw]
   refine zD 13 (by kernel_rfl) ?_
   ·
    refine zBa rfl rfl rfl rfl (zu zr32 rfl) (fun u13_1 _=> ?_)
    refine d_pv 14 rfl rfl (by kernel_rfl) (by kernel_rfl) rfl rfl (ze rfl)<|d_pv 15 rfl rfl (by kernel_rfl) (by kernel_rfl) rfl rfl (ze rfl) ?_
    exact zO (hD1 (u2_1,u2_2,u2_3,u2_4,u2_5,u7_1,u7_2,u13_1)) (by kernel_rfl) ((.of rfl):SubM _ _) .rfl .rfl ((.of [0,1,2,3,4,5] rfl):SelR _ _ _)
  refine zga (X:=Nat×Option Addr×Nat×Option Addr×Nat×Nat) (k':=10) (L':=(lb 18 8319)) (fun (u2_1,u2_2,u2_3,u2_4,u2_5,u13_1)=>([(11,.pointer (some ⟨u13_1,0,none⟩)),(23,.pointer (some ⟨u2_1,0,none⟩)),(27,.int .i64 ((vh2:Nat):Int)),(25,.int .i64 ((w2:Nat):Int)),(7,.int .i64 0),(6,.pointer (some ⟨b3,0,none⟩)),(5,.int .i64 0),(4,.int .i64 0)],[boxA u13_1 32 [.bool false,.slice none 0 0,.bool false,.slice none 0 0]],[boxA b3 32 [.bool false,.slice none 0 0,.bool false,.slice none 0 0],boxA b2 24 [.int .i64 ((w2:Nat):Int),.int .i64 ((vh2:Nat):Int),.int .i64 m2,.slice p2 n2 c2],boxA b1 24 [.int .i64 ((w1:Nat):Int),.int .i64 ((vh1:Nat):Int),.int .i64 m1,.slice p1 n1 c1]],[atF u2_1 0 [.int .i64 ((w1:Nat):Int),.int .i64 ((vh1:Nat):Int),.int .i64 m1,.slice p1 n1 c1,.int .i64 ((w2:Nat):Int),.int .i64 ((vh2:Nat):Int),.int .i64 m2,.slice p2 n2 c2,.slice u2_2 (vh2+1) u2_3,.slice u2_4 (vh2+1) u2_5,.int .i64 (Cr.sumN (Cr.px l1) n1),.int .i64 ((((n1:Nat):Int)*(Cr.sumN (Cr.sq l1) n1)) - ((Cr.sumN (Cr.px l1) n1)*(Cr.sumN (Cr.px l1) n1)))],slF (rS (rI .i64)) u2_2 u2_3 (Cr.tab (Cr.px l2) w2 (vh2+1)),slF (rS (rI .i64)) u2_4 u2_5 (Cr.tab (Cr.sq l2) w2 (vh2+1)),slF (rI .i64) p1 c1 l1,slF (rI .i64) p2 c2 l2])) ?_ (fun hD3=> ?_)
  ·
   rintro ⟨u2_1,u2_2,u2_3,u2_4,u2_5,u13_1⟩
   dsimp only
   refine zD 7 (by kernel_rfl) ?_
   ·
    refine zv rfl rfl rfl rfl (.c rfl (.c rfl (.c rfl (.c rfl (.c rfl (.c rfl .n)))))) ce45 (zve (w1:=w1) (vh1:=vh1) (m1:=m1) (p1:=p1) (n1:=n1) (c1:=c1) (l1:=l1) (w2:=w2) (vh2:=vh2) (m2:=m2) (p2:=p2) (n2:=n2) (c2:=c2) (l2:=l2) (bm:=u2_1) (ps:=u2_2) (cs:=u2_3) (pq:=u2_4) (cq:=u2_5) (le:=0) (tp:=0) (ri:=((w2:Nat):Int)) (bo:=((vh2:Nat):Int)) (hn1:=by assumption) (hw1:=by first|rfl|assumption|omega) (hh1:=by first|rfl|assumption|omega) (hwh1:=by first|rfl|assumption|omega) (hb1:=by first|rfl|assumption|omega) (hg1:=by first|rfl|assumption|omega) (hn2:=by assumption) (hw2:=by first|rfl|assumption|omega) (hh2:=by first|rfl|assumption|omega) (hwh2:=by first|rfl|assumption|omega) (hb2:=by first|rfl|assumption|omega) (hg2:=by first|rfl|assumption|omega) (hle:=by first|rfl|assumption|omega) (htp:=by first|rfl|assumption|omega) (hri:=by first|rfl|assumption|omega) (hbo:=by first|rfl|assumption|omega)) (.c (j:=0) rfl (.c (j:=3) rfl (.c (j:=4) rfl (.c (j:=1) rfl (.c (j:=2) rfl .n))))) ?_
    rintro ⟨u7_1,u7_2⟩ hy6
    dsimp only [List.append_eq,List.nil_append,List.cons_append]
    replace hy6:((Cr.allP (Cr.pat l1 l2 ((w1:Nat):Int) ((vh1:Nat):Int) ((w2:Nat):Int) ((vh2:Nat):Int)) 0 0 (((w2:Nat):Int) - 0+1).toNat (((vh2:Nat):Int) - 0+1).toNat).isSome=false→u7_1=wz∧u7_2=wz)∧Big.hq (Cr.pQ (Cr.allP (Cr.pat l1 l2 ((w1:Nat):Int) ((vh1:Nat):Int) ((w2:Nat):Int) ((vh2:Nat):Int)) 0 0 (((w2:Nat):Int) - 0+1).toNat (((vh2:Nat):Int) - 0+1).toNat))≤6:=hy6
    refine d_pv 8 rfl rfl (by kernel_rfl) (by kernel_rfl) rfl rfl (za rfl)<|d_pv 9 rfl rfl (by kernel_rfl) (by kernel_rfl) rfl rfl (zo rfl rfl)<|d_pv 10 rfl rfl (by kernel_rfl) (by kernel_rfl) rfl rfl (zo rfl rfl)<|d_pv 11 rfl rfl (by kernel_rfl) (by kernel_rfl) rfl rfl (zo rfl rfl)<|d_pv 12 rfl rfl (by kernel_rfl) (by kernel_rfl) rfl rfl (zo rfl rfl)<|d_pv 14 rfl rfl (by kernel_rfl) (by kernel_rfl) rfl rfl (ze rfl)<|d_pv 15 rfl rfl (by kernel_rfl) (by kernel_rfl) rfl rfl (ze rfl) ?_
    exact zO (hD1 (u2_1,u2_2,u2_3,u2_4,u2_5,u7_1,u7_2,u13_1)) (by kernel_rfl) ((.of rfl):SubM _ _) .rfl .rfl ((.of [0,1,2,3,4,5] rfl):SelR _ _ _)
  refine zga (X:=Nat×Option Addr×Nat×Option Addr×Nat) (k':=11) (L':=(lb 18 127)) (fun (u2_1,u2_2,u2_3,u2_4,u2_5)=>([(23,.pointer (some ⟨u2_1,0,none⟩)),(27,.int .i64 ((vh2:Nat):Int)),(25,.int .i64 ((w2:Nat):Int)),(7,.int .i64 0),(6,.pointer (some ⟨b3,0,none⟩)),(5,.int .i64 0),(4,.int .i64 0)],[],[boxA b3 32 [.bool false,.slice none 0 0,.bool false,.slice none 0 0],boxA b2 24 [.int .i64 ((w2:Nat):Int),.int .i64 ((vh2:Nat):Int),.int .i64 m2,.slice p2 n2 c2],boxA b1 24 [.int .i64 ((w1:Nat):Int),.int .i64 ((vh1:Nat):Int),.int .i64 m1,.slice p1 n1 c1]],[atF u2_1 0 [.int .i64 ((w1:Nat):Int),.int .i64 ((vh1:Nat):Int),.int .i64 m1,.slice p1 n1 c1,.int .i64 ((w2:Nat):Int),.int .i64 ((vh2:Nat):Int),.int .i64 m2,.slice p2 n2 c2,.slice u2_2 (vh2+1) u2_3,.slice u2_4 (vh2+1) u2_5,.int .i64 (Cr.sumN (Cr.px l1) n1),.int .i64 ((((n1:Nat):Int)*(Cr.sumN (Cr.sq l1) n1)) - ((Cr.sumN (Cr.px l1) n1)*(Cr.sumN (Cr.px l1) n1)))],slF (rS (rI .i64)) u2_2 u2_3 (Cr.tab (Cr.px l2) w2 (vh2+1)),slF (rS (rI .i64)) u2_4 u2_5 (Cr.tab (Cr.sq l2) w2 (vh2+1)),slF (rI .i64) p1 c1 l1,slF (rI .i64) p2 c2 l2])) ?_ (fun hD4=> ?_)
  ·
   rintro ⟨u2_1,u2_2,u2_3,u2_4,u2_5⟩
   dsimp only
   refine zlb 7 13 (by kernel_rfl) ?_ ?_
   ·
    refine zv rfl rfl rfl rfl (.c rfl (.c rfl (.c rfl (.c rfl (.c rfl (.c rfl .n)))))) ce45 (zve (w1:=w1) (vh1:=vh1) (m1:=m1) (p1:=p1) (n1:=n1) (c1:=c1) (l1:=l1) (w2:=w2) (vh2:=vh2) (m2:=m2) (p2:=p2) (n2:=n2) (c2:=c2) (l2:=l2) (bm:=u2_1) (ps:=u2_2) (cs:=u2_3) (pq:=u2_4) (cq:=u2_5) (le:=0) (tp:=0) (ri:=((w2:Nat):Int)) (bo:=((vh2:Nat):Int)) (hn1:=by assumption) (hw1:=by first|rfl|assumption|omega) (hh1:=by first|rfl|assumption|omega) (hwh1:=by first|rfl|assumption|omega) (hb1:=by first|rfl|assumption|omega) (hg1:=by first|rfl|assumption|omega) (hn2:=by assumption) (hw2:=by first|rfl|assumption|omega) (hh2:=by first|rfl|assumption|omega) (hwh2:=by first|rfl|assumption|omega) (hb2:=by first|rfl|assumption|omega) (hg2:=by first|rfl|assumption|omega) (hle:=by first|rfl|assumption|omega) (htp:=by first|rfl|assumption|omega) (hri:=by first|rfl|assumption|omega) (hbo:=by first|rfl|assumption|omega)) (.c (j:=0) rfl (.c (j:=3) rfl (.c (j:=4) rfl (.c (j:=1) rfl (.c (j:=2) rfl .n))))) ?_
    rintro ⟨u7_1,u7_2⟩ hy7
    dsimp only [List.append_eq,List.nil_append,List.cons_append]
    replace hy7:((Cr.allP (Cr.pat l1 l2 ((w1:Nat):Int) ((vh1:Nat):Int) ((w2:Nat):Int) ((vh2:Nat):Int)) 0 0 (((w2:Nat):Int) - 0+1).toNat (((vh2:Nat):Int) - 0+1).toNat).isSome=false→u7_1=wz∧u7_2=wz)∧Big.hq (Cr.pQ (Cr.allP (Cr.pat l1 l2 ((w1:Nat):Int) ((vh1:Nat):Int) ((w2:Nat):Int) ((vh2:Nat):Int)) 0 0 (((w2:Nat):Int) - 0+1).toNat (((vh2:Nat):Int) - 0+1).toNat))≤6:=hy7
    refine d_pv 8 rfl rfl (by kernel_rfl) (by kernel_rfl) rfl rfl (za rfl)<|d_pv 9 rfl rfl (by kernel_rfl) (by kernel_rfl) rfl rfl (zo rfl rfl)<|d_pv 10 rfl rfl (by kernel_rfl) (by kernel_rfl) rfl rfl (zo rfl rfl)<|d_pv 11 rfl rfl (by kernel_rfl) (by kernel_rfl) rfl rfl (zo rfl rfl)<|d_pv 12 rfl rfl (by kernel_rfl) (by kernel_rfl) rfl rfl (zo rfl rfl) ?_
    exact zO (hD2 (u2_1,u2_2,u2_3,u2_4,u2_5,u7_1,u7_2)) (by kernel_rfl) ((.of rfl):SubM _ _) .rfl .rfl ((.of [0,1,2,3,4,5] rfl):SelR _ _ _)
   ·
    refine zBa rfl rfl rfl rfl (zu zr32 rfl) (fun u13_1 _=> ?_)
    exact zO (hD3 (u2_1,u2_2,u2_3,u2_4,u2_5,u13_1)) (by kernel_rfl) ((.of rfl):SubM _ _) .rfl .rfl ((.of [0,1,2,3,4] rfl):SelR _ _ _)
  refine zga (X:=Nat) (k':=11) (L':=(lb 18 8315)) (fun u13_1=>([(11,.pointer (some ⟨u13_1,0,none⟩)),(27,.int .i64 ((vh2:Nat):Int)),(25,.int .i64 ((w2:Nat):Int)),(22,.agg #[.int .i64 ((w2:Nat):Int),.int .i64 ((vh2:Nat):Int),.int .i64 m2,.slice p2 n2 c2]),(21,.agg #[.int .i64 ((w1:Nat):Int),.int .i64 ((vh1:Nat):Int),.int .i64 m1,.slice p1 n1 c1]),(7,.int .i64 0),(6,.pointer (some ⟨b3,0,none⟩)),(5,.int .i64 0),(4,.int .i64 0)],[boxA u13_1 32 [.bool false,.slice none 0 0,.bool false,.slice none 0 0]],[boxA b3 32 [.bool false,.slice none 0 0,.bool false,.slice none 0 0],boxA b2 24 [.int .i64 ((w2:Nat):Int),.int .i64 ((vh2:Nat):Int),.int .i64 m2,.slice p2 n2 c2],boxA b1 24 [.int .i64 ((w1:Nat):Int),.int .i64 ((vh1:Nat):Int),.int .i64 m1,.slice p1 n1 c1]],[slF (rI .i64) p1 c1 l1,slF (rI .i64) p2 c2 l2])) ?_ (fun hD5=> ?_)
  ·
   rintro u13_1
   dsimp only
   refine zD 2 (by kernel_rfl) ?_
   ·
    refine zv rfl rfl rfl rfl (.c rfl (.c rfl .n)) ce35 (zeb (w1:=w1) (vh1:=vh1) (m1:=m1) (p1:=p1) (n1:=n1) (c1:=c1) (l1:=l1) (w2:=w2) (vh2:=vh2) (m2:=m2) (p2:=p2) (n2:=n2) (c2:=c2) (l2:=l2) (hn1:=by assumption) (hw1:=by first|rfl|assumption|omega) (hh1:=by first|rfl|assumption|omega) (hwh1:=by first|rfl|assumption|omega) (hb1:=by first|rfl|assumption|omega) (hg1:=by first|rfl|assumption|omega) (hn2:=by assumption) (hw2:=by first|rfl|assumption|omega) (hh2:=by first|rfl|assumption|omega) (hwh2:=by first|rfl|assumption|omega) (hb2:=by first|rfl|assumption|omega) (hg2:=by first|rfl|assumption|omega) (hok:=by exact hok.2)) (.c (j:=0) rfl (.c (j:=1) rfl .n)) ?_
    rintro ⟨u2_1,u2_2,u2_3,u2_4,u2_5⟩ -
    dsimp only [List.append_eq,List.nil_append,List.cons_append]
    exact zO (hD3 (u2_1,u2_2,u2_3,u2_4,u2_5,u13_1)) (by kernel_rfl) ((.of rfl):SubM _ _) .rfl .rfl ((.of [0,1,2,3,4] rfl):SelR _ _ _)
  refine zlb 2 13 (by kernel_rfl) ?_ ?_
  ·
   refine zv rfl rfl rfl rfl (.c rfl (.c rfl .n)) ce35 (zeb (w1:=w1) (vh1:=vh1) (m1:=m1) (p1:=p1) (n1:=n1) (c1:=c1) (l1:=l1) (w2:=w2) (vh2:=vh2) (m2:=m2) (p2:=p2) (n2:=n2) (c2:=c2) (l2:=l2) (hn1:=by assumption) (hw1:=by first|rfl|assumption|omega) (hh1:=by first|rfl|assumption|omega) (hwh1:=by first|rfl|assumption|omega) (hb1:=by first|rfl|assumption|omega) (hg1:=by first|rfl|assumption|omega) (hn2:=by assumption) (hw2:=by first|rfl|assumption|omega) (hh2:=by first|rfl|assumption|omega) (hwh2:=by first|rfl|assumption|omega) (hb2:=by first|rfl|assumption|omega) (hg2:=by first|rfl|assumption|omega) (hok:=by exact hok.2)) (.c (j:=0) rfl (.c (j:=1) rfl .n)) ?_
   rintro ⟨u2_1,u2_2,u2_3,u2_4,u2_5⟩ -
   dsimp only [List.append_eq,List.nil_append,List.cons_append]
   exact zO (hD4 (u2_1,u2_2,u2_3,u2_4,u2_5)) (by kernel_rfl) ((.of rfl):SubM _ _) .rfl .rfl ((.of [0,1,2,3,4] rfl):SelR _ _ _)
  ·
   refine zBa rfl rfl rfl rfl (zu zr32 rfl) (fun u13_1 _=> ?_)
   exact zO (hD5 u13_1) (by kernel_rfl) ((.of rfl):SubM _ _) .rfl .rfl ((.of [0,1] rfl):SelR _ _ _)
end Go.Proofs.YtkamccndgblheaaGreat.Sp
namespace Go.Proofs.YtkamccndgblheaaGreat.Cr
section
variable {l : List Int} {w h n y x pw ph : Nat} (hn : l.length = n) (hwh : n = w * h) (hx : x + pw ≤ w) (hy : y + ph ≤ h)
include hn hwh hx hy
end
section
variable {l1 l2 l3 : List Int} {w1 h1 n1 w2 h2 n2 y x : Nat} {p q : Int} (h1n : n1 = w1 * h1) (h2n : n2 = w2 * h2) (hw : 0 < w1) (hx : x + w1 ≤ w2) (hy : y + h1 ≤ h2) (h3 : ∀ i, i < n2 → px l3 i = p * px l2 i + q)
include h1n h2n hx hy h3
end
def vr (f:Nat→Int) (n:Nat):Int:=n*sumN (fun i=>f i*f i) n - sumN f n*sumN f n
def cv (f g:Nat→Int) (n:Nat):Int:=n*sumN (fun i=>f i*g i) n - sumN f n*sumN g n
end Go.Proofs.YtkamccndgblheaaGreat.Cr
namespace Go.Proofs.YtkamccndgblheaaGreat.Cr
def wn (l:List Int) (w y x pw k:Nat):Int:=px l ((y+k / pw)*w+(x+k%pw))
theorem box_wn (l:List Int) (w y x:Nat) {pw:Nat} (hp:0<pw) (ph:Nat):box (px l) w y x ph pw=sumN (wn l w y x pw) (pw*ph):=(sumN_lin (fun j i=>px l ((y+j)*w+(x+i))) hp ph).symm
theorem boxq_wn (l:List Int) (w y x:Nat) {pw:Nat} (hp:0<pw) (ph:Nat):box (sq l) w y x ph pw=sumN (fun k=>wn l w y x pw k*wn l w y x pw k) (pw*ph):=(sumN_lin (fun j i=>sq l ((y+j)*w+(x+i))) hp ph).symm
section
variable {l1 l2 : List Int} {w1 h1 n1 w2 y x : Nat} (h1n : n1 = w1 * h1) (hw : 0 < w1)
include h1n hw
theorem vb_is:vb l2 w1 h1 n1 w2 y x=vr (wn l2 w2 y x w1) n1:=by
  unfold vb vr;rw [box_wn l2 w2 y x hw,boxq_wn l2 w2 y x hw,←h1n]
theorem cc_is:cc l1 l2 w1 h1 n1 w2 y x=cv (px l1) (wn l2 w2 y x w1) n1:=by
  unfold cc cv;rw [box_wn l2 w2 y x hw,←h1n]
  congr 2;unfold crs;exact sumN_congr fun i _=>by unfold wn;rw [Nat.add_assoc]
end
end Go.Proofs.YtkamccndgblheaaGreat.Cr
namespace Go.Proofs.YtkamccndgblheaaGreat.Sp
open Go
set_option linter.unusedVariables false
set_option maxRecDepth 100000
set_option maxHeartbeats 1000000
theorem zSf {p:Option Addr} {n:Nat} {cap:Nat} {l:List Gr} (hn:l.length=n):Con Tryz.prog 8 [.slice p n cap] [] [slF rG p cap l] (Y:=Unit) (fun y=>True) (fun y=> .bool (decide (∀g∈l,g.n≤150))) (fun y=>[]) (fun y=>[]):=by
 refine zr Tryz.func8 rfl rfl rfl (fun c=> ?_)
 show RunC _ _ _ _ _ [(0,.slice p n cap)] [] [slF rG p cap l]
 refine zaa 0 rfl (fun hL0=> ?_)
 refine zh<|zc<|r_pv rfl rfl (ze rfl)<|zj<|zf<|zh<|zh<|zc<|r_pv rfl rfl (za rfl)<|r_pv rfl rfl (zR Tryz.underlying77 rfl)<|r_pv rfl rfl (za rfl)<|zj<|zf<|zI<|zoa (X:=Nat) (fun x:Nat=>x≤n∧∀j,j<x→(l.getD j gr0).n≤150) (fun x=>[(7,.int .i64 ((x:Nat):Int)),(6,.int .i64 ((n:Nat):Int)),(5,.slice p n cap)]) (fun x=>[]) (fun x=>[slF rG p cap l]) (fun x:Nat=>n - x) 0 (show 0≤n∧∀j,j<0→(l.getD j gr0).n≤150 from by exact ⟨by omega,fun j h=>by omega⟩) ((.e rfl (by first|rfl|(congr 1;omega)|simp_all) (.c rfl (.c rfl .n))):SubM _ _) (ho:=(.n:PickO _ _ _)) ((.c (j:=0) rfl .n):SelR _ _ _) ?_
 rintro i hI
 replace hI:i≤n∧∀j,j<i→(l.getD j gr0).n≤150:=hI
 try dsimp only
 obtain ⟨hi,hall⟩:=hI
 refine zh<|zc<|r_pv rfl rfl (zja rfl rfl)<|zj<|zf<|zh<|zJ rfl (fun h1=> ?_) (fun h1=> ?_)
 ·
  refine zH<|zf<|zh<|zI<|zh<|zc<|zX (x0:=(l.getD i gr0)) 0 i rfl Tryz.underlying77 sz24 rfl rfl rfl (by first|rfl|assumption|(simp_all;done)|omega) rfl rfl (gD (d:=gr0) (by omega)) (fun b2 o3 hok4=> ?_)
  obtain ⟨hok40,hok41,hok42⟩:=hok4
  replace hok40:=zZ.1 hok40
  replace hok41:=zZ.1 hok41
  replace hok42:=zZ.1 hok42
  refine r_u rfl rfl (zza (j:=0) 0 ty24 rfl rfl rfl (.take (.take (.take (.take .nil)))))<|zK rfl rfl (zu zr24 rfl) (fun b5=> ?_)
  refine zl 0 rfl rfl rfl rfl rfl sz24 rfl (.take (.take (.take (.take .nil)))) .z<|zj<|zf<|zh<|zc<|r_pv rfl rfl (zg Tryz.underlying24 rfl sz22 rfl rfl)<|r_u rfl rfl (zi 0 ty22 rfl rfl rfl)<|r_pv rfl rfl (zR Tryz.underlying22 rfl)<|r_pv rfl rfl (zwa rfl rfl)<|zj<|zf<|zJ rfl (fun hb=> ?_) (fun hb=> ?_)
  ·
   refine zh<|zc<|r_pv rfl rfl (ze rfl)<|zj<|zf<|zL<|zca<|zq<|zq<|zca<|zq ?_
   exact zA Tryz.results8 () trivial (zt rfl) (congrArg Value.bool (decide_eq_false (fun k=>by have h9:=k _ (Cr.getD_memG (l:=l) (i:=i) (d:=gr0) (by omega));omega))) (ho:=(.n:PickO _ _ _)) (.n:SelR _ _ _)
  ·
   refine zH<|zY<|zf<|zc<|r_pv rfl rfl (zG (z:=(((i+1):Nat):Int)) rfl rfl (w64 (by omega)))<|r_pv rfl rfl (za rfl)<|zj<|zka (i+1) (show (i+1)≤n∧∀j,j<(i+1)→(l.getD j gr0).n≤150 from by refine ⟨by omega,fun j hj=> ?_⟩;by_cases e:j=i;subst e;omega;exact hall j (by omega)) (by show n - (i+1)<n - i;omega) ((.of rfl):SubM _ _) (ho:=(.n:PickO _ _ _)) ((.c (j:=1) rfl .n):SelR _ _ _)
 ·
  refine zma<|zn<|zn<|zC<|zf<|zh<|zc<|r_pv rfl rfl (ze rfl)<|zj<|zf<|zL ?_
  exact zA Tryz.results8 () trivial (zt rfl) (congrArg Value.bool (decide_eq_true (fun g hg=>by obtain ⟨j,hj,e⟩:=Cr.mem_getDG (d:=gr0) hg;have h9:=hall j (by rw [hn] at hj;omega);rw [e] at h9;exact h9))) (ho:=(.n:PickO _ _ _)) (.n:SelR _ _ _)
theorem zJd {p:Option Addr} {n:Nat} {cap:Nat} {l:List Gr} {ls:List (List Int)} (hn:l.length=n) (hls:∀i,i<n→(ls.getD i []).length=(l.getD i gr0).n):Con Tryz.prog 10 [.slice p n cap] [] [slF rG p cap l,gsF l ls] (Y:=Unit) (fun y=>True) (fun y=> .int .i64 (if (Cr.allok l ls n) then 0 else 1)) (fun y=>[]) (fun y=>[]):=by
 refine zr Tryz.func10 rfl rfl rfl (fun c=> ?_)
 show RunC _ _ _ _ _ [(0,.slice p n cap)] [] [slF rG p cap l,gsF l ls]
 refine zaa 0 rfl (fun hL0=> ?_)
 refine zh<|zc<|r_pv rfl rfl (ze rfl)<|zj<|zf<|zh<|zh<|zc<|r_pv rfl rfl (za rfl)<|r_pv rfl rfl (zR Tryz.underlying77 rfl)<|r_pv rfl rfl (za rfl)<|zj<|zf<|zI<|zoa (X:=Nat) (fun x:Nat=>x≤n∧∀j,j<x→Bl.rok (l.getD j gr0).w (l.getD j gr0).h (l.getD j gr0).m (ls.getD j [])) (fun x=>[(8,.int .i64 ((x:Nat):Int)),(7,.int .i64 ((n:Nat):Int)),(6,.slice p n cap)]) (fun x=>[]) (fun x=>[slF rG p cap l,gsF l ls]) (fun x:Nat=>n - x) 0 (show 0≤n∧∀j,j<0→Bl.rok (l.getD j gr0).w (l.getD j gr0).h (l.getD j gr0).m (ls.getD j []) from by exact ⟨by omega,fun j h=>by omega⟩) ((.e rfl (by first|rfl|(congr 1;omega)|simp_all) (.c rfl (.c rfl .n))):SubM _ _) (ho:=(.n:PickO _ _ _)) ((.of [0,1] rfl):SelR _ _ _) ?_
 rintro i hI
 replace hI:i≤n∧∀j,j<i→Bl.rok (l.getD j gr0).w (l.getD j gr0).h (l.getD j gr0).m (ls.getD j []):=hI
 try dsimp only
 obtain ⟨hi,hall⟩:=hI
 refine zh<|zc<|r_pv rfl rfl (zja rfl rfl)<|zj<|zf<|zh<|zJ rfl (fun h1=> ?_) (fun h1=> ?_)
 ·
  refine zH<|zf<|zh<|zI<|zh<|zc<|zX (x0:=(l.getD i gr0)) 0 i rfl Tryz.underlying77 sz24 rfl rfl rfl (by first|rfl|assumption|(simp_all;done)|omega) rfl rfl (gD (d:=gr0) (by omega)) (fun b2 o3 hok4=> ?_)
  obtain ⟨hok40,hok41,hok42⟩:=hok4
  replace hok40:=zZ.1 hok40
  replace hok41:=zZ.1 hok41
  replace hok42:=zZ.1 hok42
  refine r_u rfl rfl (zza (j:=0) 0 ty24 rfl rfl rfl (.take (.take (.take (.take .nil)))))<|zK rfl rfl (zu zr24 rfl) (fun b5=> ?_)
  refine zl 0 rfl rfl rfl rfl rfl sz24 rfl (.take (.take (.take (.take .nil)))) .z<|zj<|zf<|zh<|zpc (slF (rI .i64) ((l.getD i gr0).p) ((l.getD i gr0).c) (ls.getD i [])) (gsF_get 2 rfl i (by omega))<|zc<|r_u rfl rfl (zd 0 ty24 rfl rfl (.take (.take (.take (.take .nil)))))<|zN rfl rfl (.c rfl .n) ce38 (zUd (w:=(l.getD i gr0).w) (h:=(l.getD i gr0).h) (m:=(l.getD i gr0).m) (p:=(l.getD i gr0).p) (n:=(l.getD i gr0).n) (cap:=(l.getD i gr0).c) (l:=(ls.getD i [])) (hn:=by first|rfl|assumption|exact hls i (by omega)|omega)) (.c (j:=0) rfl .n)<|r_pv rfl rfl (ze rfl)<|zj<|zf<|zh<|zc<|r_pv rfl rfl (za rfl)<|r_pv rfl rfl (zMa rfl rfl)<|zj<|zf<|zJ rfl (fun hb=> ?_) (fun hb=> ?_)
  ·
   refine zh<|zc<|r_pv rfl rfl (za rfl)<|r_pv rfl rfl (ze rfl)<|zj<|zf<|zL<|zca<|zq<|zq<|zca<|zq ?_
   exact zA Tryz.results10 () trivial (zt rfl) (by rw [if_neg (fun k=>hb (if_pos k)),if_neg (fun k=>hb (if_pos (k i (by omega))))]) (ho:=(.n:PickO _ _ _)) (.n:SelR _ _ _)
  ·
   refine zH<|zY<|zf<|zc<|r_pv rfl rfl (zG (z:=(((i+1):Nat):Int)) rfl rfl (w64 (by omega)))<|r_pv rfl rfl (za rfl)<|zj<|zka (i+1) (show (i+1)≤n∧∀j,j<(i+1)→Bl.rok (l.getD j gr0).w (l.getD j gr0).h (l.getD j gr0).m (ls.getD j []) from by refine ⟨by omega,fun j hj=> ?_⟩;by_cases e:j=i;subst e;exact Bl.c0.1 (Decidable.not_not.1 hb);exact hall j (by omega)) (by show n - (i+1)<n - i;omega) ((.of rfl):SubM _ _) (ho:=(.n:PickO _ _ _)) ((.of [2,3] rfl):SelR _ _ _)
 ·
  refine zma<|zn<|zn<|zC<|zf<|zh<|zc<|r_pv rfl rfl (ze rfl)<|zj<|zf<|zL ?_
  exact zA Tryz.results10 () trivial (zt rfl) (by rw [if_pos (show (Cr.allok l ls n) from fun j hj=>hall j (by omega))]) (ho:=(.n:PickO _ _ _)) (.n:SelR _ _ _)
theorem zab {wi1:Int} {hi1:Int} {m1:Int} {p1:Option Addr} {n1:Nat} {c1:Nat} {l1:List Int} {wi2:Int} {hi2:Int} {m2:Int} {p2:Option Addr} {n2:Nat} {c2:Nat} {l2:List Int} {ex:Int} {ey:Int} (hok:(Cr.rk2 wi1 hi1 m1 l1 wi2 hi2 m2 l2)):Con Tryz.prog 11 [.agg #[.int .i64 wi1,.int .i64 hi1,.int .i64 m1,.slice p1 n1 c1],.agg #[.int .i64 wi2,.int .i64 hi2,.int .i64 m2,.slice p2 n2 c2],.int .i64 ex,.int .i64 ey] [] [] (Y:=Unit) (fun y=>True) (fun y=> .bool (decide (Cr.pos wi1 hi1 wi2 hi2 ex ey))) (fun y=>[]) (fun y=>[]):=by
 refine zr Tryz.func11 rfl rfl rfl (fun c=> ?_)
 show RunC _ _ _ _ _ [(0,.agg #[.int .i64 wi1,.int .i64 hi1,.int .i64 m1,.slice p1 n1 c1]),(1,.agg #[.int .i64 wi2,.int .i64 hi2,.int .i64 m2,.slice p2 n2 c2]),(2,.int .i64 ex),(3,.int .i64 ey)] [] []
 obtain ⟨⟨hw1,hh1,_,_,_⟩,hw2,hh2,_,_,_⟩:=hok
 refine zh<|zc<|zK rfl rfl (zP rfl rfl) (fun b1=> ?_)
 refine zK rfl rfl (zP rfl rfl) (fun b2=> ?_)
 refine r_pv rfl rfl (ze rfl)<|zj<|zf<|zUa (X:=Unit) (fun x=>True) (fun x=>[(8,.bool (decide ((((0≤ex)∧(0≤ey))∧(ex≤(wi2 - wi1)))∧(ey≤(hi2 - hi1)))))]) (fun x=>[boxA b2 24 [.int .i64 wi2,.int .i64 hi2,.int .i64 m2,.slice p2 n2 c2],boxA b1 24 [.int .i64 wi1,.int .i64 hi1,.int .i64 m1,.slice p1 n1 c1]]) (fun x=>[]) ?_ ?_
 ·
  refine zc<|r_pv rfl rfl (za rfl)<|r_pv rfl rfl (zVa rfl rfl)<|zS rfl rfl (za rfl) (fun h3=> ?_) (fun h3=> ?_)
  ·
   refine r_pv rfl rfl (za rfl)<|r_pv rfl rfl (zVa rfl rfl)<|r_pv rfl rfl (zm rfl rfl)<|zS rfl rfl (za rfl) (fun h4=> ?_) (fun h4=> ?_)
   ·
    refine r_pv rfl rfl (za rfl)<|r_pv rfl rfl (zg Tryz.underlying24 rfl sz3 rfl rfl)<|r_u rfl rfl (zi 0 ty3 rfl rfl rfl)<|r_pv rfl rfl (zg Tryz.underlying24 rfl sz3 rfl rfl)<|r_u rfl rfl (zi 1 ty3 rfl rfl rfl)<|r_pv rfl rfl (zda (z:=(wi2 - wi1)) rfl rfl (w64 (by omega)))<|r_pv rfl rfl (zCb rfl rfl)<|r_pv rfl rfl (zm rfl rfl)<|zS rfl rfl (za rfl) (fun h5=> ?_) (fun h5=> ?_)
    ·
     refine r_pv rfl rfl (za rfl)<|r_pv rfl rfl (zg Tryz.underlying24 rfl sz3 rfl rfl)<|r_u rfl rfl (zi 0 ty3 rfl rfl rfl)<|r_pv rfl rfl (zg Tryz.underlying24 rfl sz3 rfl rfl)<|r_u rfl rfl (zi 1 ty3 rfl rfl rfl)<|r_pv rfl rfl (zda (z:=(hi2 - hi1)) rfl rfl (w64 (by omega)))<|r_pv rfl rfl (zCb rfl rfl)<|r_pv rfl rfl (zm rfl rfl)<|r_pv rfl rfl (ze rfl)<|zj ?_
     exact zha () (show True from by first|trivial|omega|simp_all) ((.e rfl (congrArg Value.bool (by first|(simp_all;done)|(simp_all;omega)|(simp;omega)|omega)) .n):SubM _ _) (ho:=((.of [0,0] rfl):PickO _ _ _)) (.n:SelR _ _ _)
    ·
     refine zb rfl rfl<|zb rfl rfl<|zb rfl rfl<|zb rfl rfl<|zb rfl rfl<|zb rfl rfl<|zb rfl rfl<|r_pv rfl rfl (zm rfl rfl)<|r_pv rfl rfl (ze rfl)<|zj ?_
     exact zha () (show True from by first|trivial|omega|simp_all) ((.e rfl (congrArg Value.bool (by first|(simp_all;done)|(simp_all;omega)|(simp;omega)|omega)) .n):SubM _ _) (ho:=((.of [0,0] rfl):PickO _ _ _)) (.n:SelR _ _ _)
   ·
    refine zb rfl rfl<|zb rfl rfl<|zb rfl rfl<|zb rfl rfl<|zb rfl rfl<|zb rfl rfl<|zb rfl rfl<|r_pv rfl rfl (zm rfl rfl)<|r_pv rfl rfl (za rfl)<|zb rfl rfl<|zb rfl rfl<|zb rfl rfl<|zb rfl rfl<|zb rfl rfl<|zb rfl rfl<|zb rfl rfl<|r_pv rfl rfl (zm rfl rfl)<|r_pv rfl rfl (ze rfl)<|zj ?_
    exact zha () (show True from by first|trivial|omega|simp_all) ((.e rfl (congrArg Value.bool (by first|(simp_all;done)|(simp_all;omega)|(simp;omega)|omega)) .n):SubM _ _) (ho:=((.of [0,0] rfl):PickO _ _ _)) (.n:SelR _ _ _)
  ·
   refine zb rfl rfl<|zb rfl rfl<|r_pv rfl rfl (zm rfl rfl)<|r_pv rfl rfl (za rfl)<|zb rfl rfl<|zb rfl rfl<|zb rfl rfl<|zb rfl rfl<|zb rfl rfl<|zb rfl rfl<|zb rfl rfl<|r_pv rfl rfl (zm rfl rfl)<|r_pv rfl rfl (za rfl)<|zb rfl rfl<|zb rfl rfl<|zb rfl rfl<|zb rfl rfl<|zb rfl rfl<|zb rfl rfl<|zb rfl rfl<|r_pv rfl rfl (zm rfl rfl)<|r_pv rfl rfl (ze rfl)<|zj ?_
   exact zha () (show True from by first|trivial|omega|simp_all) ((.e rfl (congrArg Value.bool (by first|(simp_all;done)|(simp_all;omega)|(simp;omega)|omega)) .n):SubM _ _) (ho:=((.of [0,0] rfl):PickO _ _ _)) (.n:SelR _ _ _)
 ·
  rintro ⟨⟩ -
  try dsimp only
  refine zL ?_
  exact zA Tryz.results11 () trivial (zt rfl) (congrArg Value.bool (decide_eq_decide.2 (by unfold Cr.pos;constructor <;> intro k <;> omega))) (ho:=(.n:PickO _ _ _)) (.n:SelR _ _ _)
end Go.Proofs.YtkamccndgblheaaGreat.Sp
namespace Go.Proofs.YtkamccndgblheaaGreat.Sp
open Go
set_option linter.unusedVariables false
set_option maxRecDepth 100000
set_option maxHeartbeats 1000000
theorem zhf:Con Tryz.prog 7 [] [] [] (Y:=Unit) (fun y=>True) (fun y=> .bool true) (fun y=>[]) (fun y=>[]):=by
 refine zr Tryz.func7 rfl rfl rfl (fun c=> ?_)
 show RunC _ _ _ _ _ [] [] []
 refine zh<|zc<|r_pv rfl rfl (ze rfl)<|zj<|zf<|zh<|zc<|zFa rfl rfl (zT (enc:=fun z:Int=>[.int .i64 z]) (ok:=InK .i64) (h1:=fun _=>rfl) (h2:=fun _=>rfl) (k:=2) Tryz.underlying22 inf3 rfl (by decide) (by decide) (by decide) (.c (x:=1) rfl rfl (fun _ _=>by exact zZ.2 (by omega)) (.c (x:=3) rfl rfl (fun _ _=>by exact zZ.2 (by omega)) .n))) (fun b1 _=> ?_)
 refine r_pv rfl rfl (zE zr24 rfl Tryz.underlying24 (.c sz3 (.c sz3 (.c sz3 (.c sz22 .n)))) (.c rfl (.c rfl (.c rfl (.c rfl .n)))) (.c rfl rfl rfl (.take .nil) (.c rfl rfl rfl (.skip (.take .nil)) (.c rfl rfl rfl (.skip (.skip (.take .nil))) (.c rfl rfl rfl (.skip (.skip (.skip (.take .nil)))) .n)))))<|zFa rfl rfl (zT (enc:=fun z:Int=>[.int .i64 z]) (ok:=InK .i64) (h1:=fun _=>rfl) (h2:=fun _=>rfl) (k:=3) Tryz.underlying22 inf3 rfl (by decide) (by decide) (by decide) (.c (x:=2) rfl rfl (fun _ _=>by exact zZ.2 (by omega)) (.c (x:=4) rfl rfl (fun _ _=>by exact zZ.2 (by omega)) (.c (x:=3) rfl rfl (fun _ _=>by exact zZ.2 (by omega)) .n)))) (fun b2 _=> ?_)
 refine r_pv rfl rfl (zE zr24 rfl Tryz.underlying24 (.c sz3 (.c sz3 (.c sz3 (.c sz22 .n)))) (.c rfl (.c rfl (.c rfl (.c rfl .n)))) (.c rfl rfl rfl (.take .nil) (.c rfl rfl rfl (.skip (.take .nil)) (.c rfl rfl rfl (.skip (.skip (.take .nil))) (.c rfl rfl rfl (.skip (.skip (.skip (.take .nil)))) .n)))))<|zK rfl rfl (zu zr24 rfl) (fun b3=> ?_)
 refine zK rfl rfl (zu zr24 rfl) (fun b4=> ?_)
 refine zl 1 rfl rfl rfl rfl rfl sz24 rfl (.take (.take (.take (.take .nil)))) (.s .z)<|zl 0 rfl rfl rfl rfl rfl sz24 rfl (.take (.take (.take (.take .nil)))) .z<|zj<|zf<|zh<|zc<|r_u rfl rfl (zd 1 ty24 rfl rfl (.take (.take (.take (.take .nil)))))<|r_u rfl rfl (zd 0 ty24 rfl rfl (.take (.take (.take (.take .nil)))))<|zla 3 rfl (.s (.s (.s .z)))<|zla 2 rfl (.s (.s .z))<|zw rfl rfl (.c rfl (.c rfl (.c rfl (.c rfl .n)))) ce9 (zgf (wi1:=2) (hi1:=1) (m1:=9) (p1:=some ⟨b1,0,none⟩) (n1:=2) (c1:=2) (l1:=[1,3]) (wi2:=3) (hi2:=1) (m2:=9) (p2:=some ⟨b2,0,none⟩) (n2:=3) (c2:=3) (l2:=[2,4,3]) (ex:=1) (ey:=0) (hn1:=by first|rfl|assumption|omega|decide|(decide +kernel)) (hn2:=by first|rfl|assumption|omega|decide|(decide +kernel))) (.c (j:=1) rfl (.c (j:=0) rfl .n)) ?_
 rintro ⟨w35,w46⟩ hy7
 dsimp only [List.append_eq,List.nil_append,List.cons_append]
 replace hy7:(Cr.sok 2 1 9 ([1,3]) 3 1 9 ([2,4,3]) 1 0)∨(w35=wz∧w46=wz):=hy7
 have e8:((if (Cr.rk2 2 1 9 ([1,3]) 3 1 9 ([2,4,3])) then (if (Cr.pos 2 1 3 1 1 0) then 0 else 15) else 1):Int)=0:=by decide +kernel
 rw [e8]
 have e9:((if (Cr.sok 2 1 9 ([1,3]) 3 1 9 ([2,4,3]) 1 0) then (Cr.scq ([1,3]) ([2,4,3]) 2 1 3 1 0) else 0):Rat)=((-1:Int):Rat):=by decide +kernel
 rw [e9]
 have e10:(decide (Cr.sok 2 1 9 ([1,3]) 3 1 9 ([2,4,3]) 1 0))=true:=by decide +kernel
 rw [e10]
 refine r_pv rfl rfl (za rfl)<|r_pv rfl rfl (zo rfl rfl)<|r_pv rfl rfl (zo rfl rfl)<|zK rfl rfl (zu zr32 rfl) (fun b11=> ?_)
 refine zl 0 rfl rfl rfl rfl rfl sz32 rfl (.take (.take (.take (.take .nil)))) .z<|r_pv rfl rfl (ze rfl)<|zj<|zf<|zh<|zc<|r_u rfl rfl (zd 2 ty24 rfl rfl (.take (.take (.take (.take .nil)))))<|r_u rfl rfl (zd 1 ty24 rfl rfl (.take (.take (.take (.take .nil)))))<|zw rfl rfl (.c rfl (.c rfl .n)) ce18 (zAf (wi1:=2) (hi1:=1) (m1:=9) (p1:=some ⟨b1,0,none⟩) (n1:=2) (c1:=2) (l1:=[1,3]) (wi2:=3) (hi2:=1) (m2:=9) (p2:=some ⟨b2,0,none⟩) (n2:=3) (c2:=3) (l2:=[2,4,3]) (hn1:=by first|rfl|assumption|omega|decide|(decide +kernel)) (hn2:=by first|rfl|assumption|omega|decide|(decide +kernel))) (.c (j:=2) rfl (.c (j:=1) rfl .n)) ?_
 rintro ⟨w312,w413⟩ hy14
 dsimp only [List.append_eq,List.nil_append,List.cons_append]
 replace hy14:((if (Cr.rk2 2 1 9 ([1,3]) 3 1 9 ([2,4,3])) then Cr.best ([1,3]) ([2,4,3]) 2 1 3 1 else none).isSome=false→w312=wz∧w413=wz)∧Big.hq (Cr.pQ (if (Cr.rk2 2 1 9 ([1,3]) 3 1 9 ([2,4,3])) then Cr.best ([1,3]) ([2,4,3]) 2 1 3 1 else none))≤6:=hy14
 have e15:((if (Cr.rk2 2 1 9 ([1,3]) 3 1 9 ([2,4,3])) then (if (if (Cr.rk2 2 1 9 ([1,3]) 3 1 9 ([2,4,3])) then Cr.best ([1,3]) ([2,4,3]) 2 1 3 1 else none).isSome then 0 else 6) else 1):Int)=0:=by decide +kernel
 rw [e15]
 have e16:((Cr.pX (if (Cr.rk2 2 1 9 ([1,3]) 3 1 9 ([2,4,3])) then Cr.best ([1,3]) ([2,4,3]) 2 1 3 1 else none)):Int)=0:=by decide +kernel
 rw [e16]
 have e17:((Cr.pY (if (Cr.rk2 2 1 9 ([1,3]) 3 1 9 ([2,4,3])) then Cr.best ([1,3]) ([2,4,3]) 2 1 3 1 else none)):Int)=0:=by decide +kernel
 rw [e17]
 have e18:((Cr.pQ (if (Cr.rk2 2 1 9 ([1,3]) 3 1 9 ([2,4,3])) then Cr.best ([1,3]) ([2,4,3]) 2 1 3 1 else none)):Rat)=((1:Int):Rat):=by decide +kernel
 rw [e18]
 have e19:(if (Cr.rk2 2 1 9 ([1,3]) 3 1 9 ([2,4,3])) then Cr.best ([1,3]) ([2,4,3]) 2 1 3 1 else none).isSome=true:=by decide +kernel
 rw [e19]
 refine r_pv rfl rfl (za rfl)<|r_pv rfl rfl (zo rfl rfl)<|r_pv rfl rfl (zo rfl rfl)<|r_pv rfl rfl (zo rfl rfl)<|r_pv rfl rfl (zo rfl rfl)<|zK rfl rfl (zu zr32 rfl) (fun b20=> ?_)
 refine r_pv rfl rfl (ze rfl)<|r_pv rfl rfl (ze rfl)<|zl 0 rfl rfl rfl rfl rfl sz32 rfl (.take (.take (.take (.take .nil)))) .z<|r_pv rfl rfl (ze rfl)<|zj<|zf<|zh<|zc<|r_u rfl rfl (zd 2 ty24 rfl rfl (.take (.take (.take (.take .nil)))))<|zw rfl rfl (.c rfl .n) ce32 (zbe (wi1:=3) (hi1:=1) (m1:=9) (p1:=some ⟨b2,0,none⟩) (n1:=3) (c1:=3) (l1:=[2,4,3]) (hn1:=by first|rfl|assumption|omega|decide|(decide +kernel))) (.c (j:=2) rfl .n) ?_
 rintro ⟨p321,kq,c322,rq⟩ hsq
 dsimp only [List.append_eq,List.nil_append,List.cons_append]
 replace hsq:rq.length=kq∧(rq=if Bl.rok 3 1 9 ([2,4,3]) then Cr.tab (Cr.sq ([2,4,3])) (Int.toNat 3) (Int.toNat 1+1) else []):=hsq
 have e23:((if Bl.rok 3 1 9 ([2,4,3]) then 0 else 1):Int)=0:=by decide +kernel
 rw [e23]
 have e24:Cr.exT=rq:=by rw [hsq.2];decide +kernel
 subst e24
 have e25:2=kq:=by exact hsq.1
 subst e25
 refine r_pv rfl rfl (za rfl)<|r_pv rfl rfl (zo rfl rfl)<|r_pv rfl rfl (zo rfl rfl)<|r_pv rfl rfl (ze rfl)<|r_pv rfl rfl (ze rfl)<|zj<|zf<|zh<|zba (OW:=[]) (O:=[boxA b20 32 [w312.b,w312.l,w413.b,w413.l],boxA b11 32 [w35.b,w35.l,w46.b,w46.l],boxA b4 24 [.int .i64 3,.int .i64 1,.int .i64 9,.slice (some ⟨b2,0,none⟩) 3 3],boxA b3 24 [.int .i64 2,.int .i64 1,.int .i64 9,.slice (some ⟨b1,0,none⟩) 2 2],emA,emA]) 100000 mixed (.then .ret) (by kernel_rfl)<|d_pv 0 rfl rfl (by kernel_rfl) (by kernel_rfl) rfl rfl (za rfl)<|d_pv 1 rfl rfl (by kernel_rfl) (by kernel_rfl) rfl rfl (zsa rfl rfl) ?_
 rw [show true=true from by decide]
 refine d_pv 2 rfl rfl (by kernel_rfl) (by kernel_rfl) rfl rfl (za rfl)<|d_pv 3 rfl rfl (by kernel_rfl) (by kernel_rfl) rfl rfl (za rfl)<|d_pv 4 rfl rfl (by kernel_rfl) (by kernel_rfl) rfl rfl (zsa rfl rfl)<|d_pv 5 rfl rfl (by kernel_rfl) (by kernel_rfl) rfl rfl (zm rfl rfl) ?_
 rw [show true=true from by decide]
 refine d_pv 6 rfl rfl (by kernel_rfl) (by kernel_rfl) rfl rfl (za rfl)<|d_pv 7 rfl rfl (by kernel_rfl) (by kernel_rfl) rfl rfl (za rfl)<|d_pv 8 rfl rfl (by kernel_rfl) (by kernel_rfl) rfl rfl (zsa rfl rfl)<|d_pv 9 rfl rfl (by kernel_rfl) (by kernel_rfl) rfl rfl (zm rfl rfl) ?_
 rw [show true=true from by decide]
 refine d_pv 10 rfl rfl (by kernel_rfl) (by kernel_rfl) rfl rfl (za rfl)<|d_pv 11 rfl rfl (by kernel_rfl) (by kernel_rfl) rfl rfl (za rfl)<|d_pv 12 rfl rfl (by kernel_rfl) (by kernel_rfl) rfl rfl (zsa rfl rfl)<|d_pv 13 rfl rfl (by kernel_rfl) (by kernel_rfl) rfl rfl (zm rfl rfl) ?_
 rw [show true=true from by decide]
 refine d_pv 14 rfl rfl (by kernel_rfl) (by kernel_rfl) rfl rfl (za rfl)<|d_pv 15 rfl rfl (by kernel_rfl) (by kernel_rfl) rfl rfl (za rfl)<|d_pv 16 rfl rfl (by kernel_rfl) (by kernel_rfl) rfl rfl (zsa rfl rfl)<|d_pv 17 rfl rfl (by kernel_rfl) (by kernel_rfl) rfl rfl (zm rfl rfl) ?_
 rw [show true=true from by decide]
 refine d_pv 18 rfl rfl (by kernel_rfl) (by kernel_rfl) rfl rfl (za rfl)<|d_u 19 rfl rfl (by kernel_rfl) (by kernel_rfl) rfl rfl (zd 1 ty32 rfl rfl (.take (.take (.take (.take .nil)))))<|zD 20 (by kernel_rfl) (zv rfl rfl rfl rfl (.c rfl .n) ce16 (zLb (z:=(-1)) (hz:=by first|rfl|assumption|omega|decide|(decide +kernel))) (.n) ?_)
 rintro ⟨w326,w427⟩ -
 dsimp only [List.append_eq,List.nil_append,List.cons_append]
 refine zD 21 (by kernel_rfl) (zQa rfl rfl rfl rfl (.c rfl (.c rfl .n)) ce22 (zMb (u1:=w35) (v1:=w46) (q1:=((-1:Int):Rat)) (u2:=w326) (v2:=w427) (q2:=(((-1):Int):Rat)) (hl:=by first|rfl|assumption|omega|decide|(decide +kernel))) (.c (j:=3) rfl (.c (j:=0) rfl .n)) ?_)
 refine d_pv 22 rfl rfl (by kernel_rfl) (by kernel_rfl) rfl rfl (zm rfl rfl) ?_
 rw [show (decide (((-1:Int):Rat)=(((-1):Int):Rat)))=true from by decide +kernel]
 refine d_pv 23 rfl rfl (by kernel_rfl) (by kernel_rfl) rfl rfl (za rfl)<|d_u 24 rfl rfl (by kernel_rfl) (by kernel_rfl) rfl rfl (zd 0 ty32 rfl rfl (.take (.take (.take (.take .nil)))))<|zD 25 (by kernel_rfl) (zv rfl rfl rfl rfl (.c rfl .n) ce16 (zLb (z:=1) (hz:=by first|rfl|assumption|omega|decide|(decide +kernel))) (.n) ?_)
 rintro ⟨w328,w429⟩ -
 dsimp only [List.append_eq,List.nil_append,List.cons_append]
 refine zD 26 (by kernel_rfl) (zQa rfl rfl rfl rfl (.c rfl (.c rfl .n)) ce22 (zMb (u1:=w312) (v1:=w413) (q1:=((1:Int):Rat)) (u2:=w328) (v2:=w429) (q2:=((1:Int):Rat)) (hl:=by first|rfl|assumption|omega|decide|(decide +kernel))) (.c (j:=3) rfl (.c (j:=0) rfl .n)) ?_)
 refine d_pv 27 rfl rfl (by kernel_rfl) (by kernel_rfl) rfl rfl (zm rfl rfl) ?_
 rw [show (decide (((1:Int):Rat)=((1:Int):Rat)))=true from by decide +kernel]
 refine d_pv 28 rfl rfl (by kernel_rfl) (by kernel_rfl) rfl rfl (za rfl)<|d_pv 29 rfl rfl (by kernel_rfl) (by kernel_rfl) rfl rfl (za rfl)<|d_pv 30 rfl rfl (by kernel_rfl) (by kernel_rfl) rfl rfl (zR Tryz.underlying73 rfl)<|d_pv 31 rfl rfl (by kernel_rfl) (by kernel_rfl) rfl rfl (zsa rfl rfl)<|d_pv 32 rfl rfl (by kernel_rfl) (by kernel_rfl) rfl rfl (zm rfl rfl) ?_
 rw [show (decide (((2:Nat):Int)=2))=true from by decide]
 refine d_pv 33 rfl rfl (by kernel_rfl) (by kernel_rfl) rfl rfl (za rfl)<|d_pv 34 rfl rfl (by kernel_rfl) (by kernel_rfl) rfl rfl (za rfl)<|d_vl 35 rfl rfl (by kernel_rfl) (by kernel_rfl) rfl rfl (zvb (x0:=(Cr.exT.getD 1 [])) 2 1 rfl Tryz.underlying73 sz22 rfl (by first|rfl|assumption|(simp_all;done)|omega) rfl rfl (gD (d:=[]) (by first|omega|decide))) ?_
 rintro ⟨b30,o31,p32,c33⟩ -
 dsimp only [List.append_eq,List.nil_append,List.cons_append]
 refine d_u 36 rfl rfl (by kernel_rfl) (by kernel_rfl) rfl rfl (zk (j:=0) 0 ty22 rfl rfl rfl rfl)<|zD 37 (by kernel_rfl) (zFf rfl rfl rfl rfl (zT (enc:=fun z:Int=>[.int .i64 z]) (ok:=InK .i64) (h1:=fun _=>rfl) (h2:=fun _=>rfl) (k:=4) Tryz.underlying22 inf3 rfl (by decide) (by decide) (by decide) (.c (x:=0) rfl rfl (fun _ _=>by exact zZ.2 (by omega)) (.c (x:=4) rfl rfl (fun _ _=>by exact zZ.2 (by omega)) (.c (x:=20) rfl rfl (fun _ _=>by exact zZ.2 (by omega)) (.c (x:=29) rfl rfl (fun _ _=>by exact zZ.2 (by omega)) .n))))) (fun b34 _=> ?_))
 refine zie 0 rfl .z<|zD 38 (by kernel_rfl) (zQa rfl rfl rfl rfl (.c rfl (.c rfl .n)) ce33 (zUe (p1:=p32) (n1:=(Cr.exT.getD 1 []).length) (c1:=c33) (l1:=(Cr.exT.getD 1 [])) (p2:=some ⟨b34,0,none⟩) (n2:=4) (c2:=4) (l2:=[0,4,20,29]) (hn1:=by first|rfl|assumption|omega|decide|(decide +kernel)) (hn2:=by first|rfl|assumption|omega|decide|(decide +kernel))) (.c (j:=2) rfl (.c (j:=0) rfl .n)) ?_)
 refine d_pv 39 rfl rfl (by kernel_rfl) (by kernel_rfl) rfl rfl (zm rfl rfl) ?_
 rw [show (decide ((Cr.exT.getD 1 [])=([0,4,20,29])))=true from by decide +kernel]
 refine d_pv 40 rfl rfl (by kernel_rfl) (by kernel_rfl) rfl rfl (ze rfl)<|zV (by kernel_rfl)<|zf<|zL ?_
 exact zA Tryz.results7 () trivial (zt rfl) rfl (ho:=(.n:PickO _ _ _)) (.n:SelR _ _ _)
end Go.Proofs.YtkamccndgblheaaGreat.Sp
namespace Go.Proofs.YtkamccndgblheaaGreat.Cr
theorem wn_at {l:List Int} {w y x pw j i:Nat} (h:i<pw):wn l w y x pw (j*pw+i)=l.getD ((y+j)*w+x+i) 0:=by
  have hp:0<pw:=by omega
  have e1:(j*pw+i) / pw=j:=by rw [Nat.mul_comm,Nat.mul_add_div hp,Nat.div_eq_of_lt h,Nat.add_zero]
  have e2:(j*pw+i)%pw=i:=by rw [Nat.mul_comm,Nat.mul_add_mod,Nat.mod_eq_of_lt h]
  unfold wn px;rw [e1,e2,Nat.add_assoc]
theorem smp {f:Nat→Int} {n k:Nat} (hf:∀i,i<n→0≤f i∧f i≤65535) (hn:n≤4096) (hk:k≤n):0≤sumN f k∧sumN f k≤268431360:=by
  have:=sumN_le (f:=f) (n:=k) (B:=65535) fun j hj=>hf j (by omega)
  omega
theorem smq {f:Nat→Int} {n k:Nat} (hf:∀i,i<n→0≤f i∧f i≤4294836225) (hn:n≤4096) (hk:k≤n):0≤sumN f k∧sumN f k≤17591649177600:=by
  have:=sumN_le (f:=f) (n:=k) (B:=4294836225) fun j hj=>hf j (by omega)
  omega
section
variable {l1 l2 : List Int} {w1 h1 n1 w2 h2 n2 yy xx : Nat} (hg1 : ∀ i, i < n1 → 0 ≤ l1.getD i 0 ∧ l1.getD i 0 ≤ 65535) (hg2 : ∀ i, i < n2 → 0 ≤ l2.getD i 0 ∧ l2.getD i 0 ≤ 65535) (h1n : n1 = w1 * h1) (h2n : n2 = w2 * h2) (hw : 1 ≤ w1) (hx : xx + w1 ≤ w2) (hy : yy + h1 ≤ h2)
theorem win_in (h2n:n2=w2*h2) (hx:xx+w1≤w2) (hy:yy+h1≤h2) {j i:Nat} (hj:j<h1) (hi:i<w1):(yy+j)*w2+xx+i<n2:=by
  rw [Nat.add_assoc,h2n];exact at_lt (by omega) (by omega)
include hg2 h1n h2n hw hx hy in
theorem wn_b:∀k,k<n1→0≤wn l2 w2 yy xx w1 k∧wn l2 w2 yy xx w1 k≤65535:=fun k hk=>by
  have a:=Nat.div_lt_of_lt_mul (show k<w1*h1 by omega)
  have b:=Nat.mod_lt k (show w1>0 by omega)
  exact hg2 _ (by rw [← Nat.add_assoc];exact win_in h2n hx hy a b)
include hg2 h1n h2n hw hx hy in
theorem wn_q:∀k,k<n1→0≤wn l2 w2 yy xx w1 k*wn l2 w2 yy xx w1 k∧wn l2 w2 yy xx w1 k*wn l2 w2 yy xx w1 k≤4294836225:=fun k hk=>
  sq_b (wn_b hg2 h1n h2n hw hx hy k hk)
include hg1 hg2 h1n h2n hw hx hy in
theorem wn_c:∀k,k<n1→0≤px l1 k*wn l2 w2 yy xx w1 k∧px l1 k*wn l2 w2 yy xx w1 k≤4294836225:=fun k hk=>
  mul_g (hg1 k hk) (wn_b hg2 h1n h2n hw hx hy k hk)
end
section
variable {l1 l2 : List Int} {w1 h1 n1 w2 yy xx : Nat}
def lva (l1:List Int) (n1:Nat):Int:=((n1:Nat):Int)*sumN (sq l1) n1 - sumN (px l1) n1*sumN (px l1) n1
def lvb (l2:List Int) (w1 n1 w2 yy xx:Nat):Int:=((n1:Nat):Int)*sumN (fun k=>wn l2 w2 yy xx w1 k*wn l2 w2 yy xx w1 k) n1 - sumN (wn l2 w2 yy xx w1) n1*sumN (wn l2 w2 yy xx w1) n1
def lcc (l1 l2:List Int) (w1 n1 w2 yy xx:Nat):Int:=((n1:Nat):Int)*sumN (fun k=>px l1 k*wn l2 w2 yy xx w1 k) n1 - sumN (px l1) n1*sumN (wn l2 w2 yy xx w1) n1
theorem scr_ref (h1n:n1=w1*h1) (hw:1≤w1):scr l1 l2 w1 h1 n1 w2 yy xx=sc (lcc l1 l2 w1 n1 w2 yy xx) (lva l1 n1) (lvb l2 w1 n1 w2 yy xx):=by
  unfold scr;rw [vb_is h1n hw,cc_is h1n hw];rfl
theorem scr_ref0 (h1n:n1=w1*h1) (hw:1≤w1) (h:lva l1 n1=0∨lvb l2 w1 n1 w2 yy xx=0):(((0:Int)):Rat)=scr l1 l2 w1 h1 n1 w2 yy xx:=by
  rw [scr_ref h1n hw];unfold sc;rw [if_pos h];rfl
theorem scr_ref1 (h1n:n1=w1*h1) (hw:1≤w1) (h:¬(lva l1 n1=0∨lvb l2 w1 n1 w2 yy xx=0)):Rat.divInt (lcc l1 l2 w1 n1 w2 yy xx) (lva l1 n1)*Rat.divInt (max (lcc l1 l2 w1 n1 w2 yy xx) (-(lcc l1 l2 w1 n1 w2 yy xx))) (lvb l2 w1 n1 w2 yy xx)=scr l1 l2 w1 h1 n1 w2 yy xx:=by
  rw [scr_ref h1n hw];exact sc_ref (fun e=>h (.inl e)) (fun e=>h (.inr e))
end
theorem hqd {a b:Int} (ha:I64 a) (hb:I64 b) (h:b≠0):Big.hq (Rat.divInt a b)≤6:=by
  have:=Big.zrd ha.1 ha.2;have:=Big.zrd hb.1 hb.2
  have:=Big.hq_divInt (n:=a) (d:=b) h
  omega
theorem hqd2 {a b c d:Int} (ha:I64 a) (hb:I64 b) (h:b≠0) (hc:I64 c) (hd:I64 d) (k:d≠0):Big.hq (Rat.divInt a b)+Big.hq (Rat.divInt c d)+1≤1048576:=by
  have:=hqd ha hb h;have:=hqd hc hd k;omega
end Go.Proofs.YtkamccndgblheaaGreat.Cr
namespace Go.Proofs.YtkamccndgblheaaGreat.Sp
open Go
set_option linter.unusedVariables false
def Wd.zz (u v:Wd):Prop:=u.s=false∧v.s=false∧u.n=0∧v.n=0
instance (u v:Wd):Decidable (Wd.zz u v):=inferInstanceAs (Decidable (_∧_))
theorem Wd.zz_wz:Wd.zz wz wz:=⟨rfl,rfl,rfl,rfl⟩
def qo (y:Big.RQ):Option Rat:=if Big.qok y then some (Big.qv y) else none
end Go.Proofs.YtkamccndgblheaaGreat.Sp
namespace Go.Proofs.YtkamccndgblheaaGreat.Sp
open Go
set_option linter.unusedVariables false
set_option maxRecDepth 100000
set_option maxHeartbeats 1000000
theorem zKd {k1:Bool} {u1:Wd} {v1:Wd} {q1:Rat} (hl:Big.hq q1≤1048576):Con Tryz.prog 15 [.agg #[u1.b,u1.l,v1.b,v1.l]] [] [qF k1 u1 v1 q1] (Y:=Wd×Wd) (fun y=>True) (fun y=> .agg #[y.1.b,y.1.l,y.2.b,y.2.l]) (fun y=>[]) (fun y=>[qF true y.1 y.2 (Big.qabs q1)]):=by
 refine zr Tryz.func15 rfl rfl rfl (fun c=> ?_)
 show RunC _ _ _ _ _ [(0,.agg #[u1.b,u1.l,v1.b,v1.l])] [] [qF k1 u1 v1 q1]
 refine zh<|zc<|zK rfl rfl (zP rfl rfl) (fun b1=> ?_)
 refine zK rfl rfl (zu zr32 rfl) (fun b2=> ?_)
 refine zj<|zf<|zh<|zh<|zc<|r_u rfl rfl (zd 1 ty32 rfl rfl (.take (.take (.take (.take .nil)))))<|zN rfl rfl (.c rfl .n) ce40 (zWc (k1:=k1) (u1:=u1) (v1:=v1) (q1:=q1) (hl:=by assumption)) (.c (j:=0) rfl .n)<|r_pv rfl rfl (zja rfl rfl)<|zj<|zf<|zJ rfl (fun hneg=> ?_) (fun hneg=> ?_)
 ·
  refine zh<|zc<|r_u rfl rfl (zd 1 ty32 rfl rfl (.take (.take (.take (.take .nil)))))<|zw rfl rfl (.c rfl .n) ce42 (zHd (k1:=k1) (u1:=u1) (v1:=v1) (q1:=q1) (hl:=by assumption)) (.c (j:=0) rfl .n) ?_
  rintro ⟨w33,w44⟩ -
  dsimp only [List.append_eq,List.nil_append,List.cons_append]
  refine zl 0 rfl rfl rfl rfl rfl sz32 rfl (.take (.take (.take (.take .nil)))) .z<|zj<|zf<|zL<|zq ?_
  exact zA Tryz.results15 (w33,w44) trivial (zp 0 ty32 rfl rfl (.take (.take (.take (.take .nil))))) rfl (ho:=(.n:PickO _ _ _)) ((.e (j:=0) rfl (by rw [Big.qabs,if_pos (Big.sgq_lt.1 hneg)]) .n):SelR _ _ _)
 ·
  refine zH<|zf<|zh<|zc<|r_u rfl rfl (zd 1 ty32 rfl rfl (.take (.take (.take (.take .nil)))))<|zw rfl rfl (.c rfl .n) ce43 (zDa (k1:=k1) (u1:=u1) (v1:=v1) (q1:=q1)) (.c (j:=0) rfl .n) ?_
  rintro ⟨w35,w46⟩ -
  dsimp only [List.append_eq,List.nil_append,List.cons_append]
  refine zl 0 rfl rfl rfl rfl rfl sz32 rfl (.take (.take (.take (.take .nil)))) .z<|zj<|zf<|zL ?_
  exact zA Tryz.results15 (w35,w46) trivial (zp 0 ty32 rfl rfl (.take (.take (.take (.take .nil))))) rfl (ho:=(.n:PickO _ _ _)) ((.e (j:=0) rfl (by rw [Big.qabs,if_neg (fun k=>hneg (Big.sgq_lt.2 k))]) .n):SelR _ _ _)
theorem zNb {u1:Wd} {v1:Wd}:Con Tryz.prog 19 [.agg #[u1.b,u1.l,v1.b,v1.l]] [] [] (Y:=Unit) (fun y=>True) (fun y=> .bool (decide (Wd.zz u1 v1))) (fun y=>[]) (fun y=>[]):=by
 refine zr Tryz.func19 rfl rfl rfl (fun c=> ?_)
 show RunC _ _ _ _ _ [(0,.agg #[u1.b,u1.l,v1.b,v1.l])] [] []
 refine zh<|zc<|zK rfl rfl (zP rfl rfl) (fun b1=> ?_)
 refine r_pv rfl rfl (ze rfl)<|zj<|zf<|zUa (X:=Unit) (fun x=>True) (fun x=>[(26,.bool (decide (u1.s=false∧v1.s=false∧u1.n=0∧v1.n=0))),(2,.bool (decide (((((!u1.s)=true)∧((!v1.s)=true))∧(((u1.n:Nat):Int)=0))∧(((v1.n:Nat):Int)=0))))]) (fun x=>[boxA b1 32 (cw [u1,v1])]) (fun x=>[]) ?_ ?_
 ·
  refine zc<|r_pv rfl rfl (zg Tryz.underlying32 rfl sz30 rfl rfl)<|r_pv rfl rfl (zg Tryz.underlying30 rfl sz4 rfl rfl)<|r_u rfl rfl (zi 0 ty4 rfl rfl rfl)<|r_pv rfl rfl (zDb rfl)<|zge rfl rfl (za rfl) (fun h2=> ?_) (fun h2=> ?_)
  ·
   refine r_pv rfl rfl (zg Tryz.underlying32 rfl sz30 rfl rfl)<|r_pv rfl rfl (zg Tryz.underlying30 rfl sz4 rfl rfl)<|r_u rfl rfl (zi 0 ty4 rfl rfl rfl)<|r_pv rfl rfl (zDb rfl)<|r_pv rfl rfl (zm rfl rfl)<|zge rfl rfl (za rfl) (fun h3=> ?_) (fun h3=> ?_)
   ·
    refine r_pv rfl rfl (zg Tryz.underlying32 rfl sz30 rfl rfl)<|r_pv rfl rfl (zg Tryz.underlying30 rfl sz28 rfl rfl)<|r_u rfl rfl (zi 0 ty28 rfl rfl rfl)<|r_pv rfl rfl (zR Tryz.underlying28 rfl)<|r_pv rfl rfl (zsa rfl rfl)<|r_pv rfl rfl (zm rfl rfl)<|zS rfl rfl (za rfl) (fun h4=> ?_) (fun h4=> ?_)
    ·
     refine r_pv rfl rfl (zg Tryz.underlying32 rfl sz30 rfl rfl)<|r_pv rfl rfl (zg Tryz.underlying30 rfl sz28 rfl rfl)<|r_u rfl rfl (zi 0 ty28 rfl rfl rfl)<|r_pv rfl rfl (zR Tryz.underlying28 rfl)<|r_pv rfl rfl (zsa rfl rfl)<|r_pv rfl rfl (zm rfl rfl)<|r_pv rfl rfl (ze rfl)<|zj ?_
     exact zha () (show True from by first|trivial|omega|simp_all) ((.e rfl (congrArg Value.bool (by first|(simp_all;done)|(simp_all;omega)|omega)) (.e rfl (congrArg Value.bool (by first|(simp_all;done)|(simp_all;omega)|omega)) .n)):SubM _ _) (ho:=((.c (i:=0) rfl .n):PickO _ _ _)) (.n:SelR _ _ _)
    ·
     refine zb rfl rfl<|zb rfl rfl<|zb rfl rfl<|zb rfl rfl<|zb rfl rfl<|r_pv rfl rfl (zm rfl rfl)<|r_pv rfl rfl (ze rfl)<|zj ?_
     exact zha () (show True from by first|trivial|omega|simp_all) ((.e rfl (congrArg Value.bool (by first|(simp_all;done)|(simp_all;omega)|omega)) (.e rfl (congrArg Value.bool (by first|(simp_all;done)|(simp_all;omega)|omega)) .n)):SubM _ _) (ho:=((.c (i:=0) rfl .n):PickO _ _ _)) (.n:SelR _ _ _)
   ·
    refine zb rfl rfl<|zb rfl rfl<|zb rfl rfl<|zb rfl rfl<|zb rfl rfl<|r_pv rfl rfl (zm rfl rfl)<|r_pv rfl rfl (za rfl)<|zb rfl rfl<|zb rfl rfl<|zb rfl rfl<|zb rfl rfl<|zb rfl rfl<|r_pv rfl rfl (zm rfl rfl)<|r_pv rfl rfl (ze rfl)<|zj ?_
    exact zha () (show True from by first|trivial|omega|simp_all) ((.e rfl (congrArg Value.bool (by first|(simp_all;done)|(simp_all;omega)|omega)) (.e rfl (congrArg Value.bool (by first|(simp_all;done)|(simp_all;omega)|omega)) .n)):SubM _ _) (ho:=((.c (i:=0) rfl .n):PickO _ _ _)) (.n:SelR _ _ _)
  ·
   refine zb rfl rfl<|zb rfl rfl<|zb rfl rfl<|zb rfl rfl<|r_pv rfl rfl (zm rfl rfl)<|r_pv rfl rfl (za rfl)<|zb rfl rfl<|zb rfl rfl<|zb rfl rfl<|zb rfl rfl<|zb rfl rfl<|r_pv rfl rfl (zm rfl rfl)<|r_pv rfl rfl (za rfl)<|zb rfl rfl<|zb rfl rfl<|zb rfl rfl<|zb rfl rfl<|zb rfl rfl<|r_pv rfl rfl (zm rfl rfl)<|r_pv rfl rfl (ze rfl)<|zj ?_
   exact zha () (show True from by first|trivial|omega|simp_all) ((.e rfl (congrArg Value.bool (by first|(simp_all;done)|(simp_all;omega)|omega)) (.e rfl (congrArg Value.bool (by first|(simp_all;done)|(simp_all;omega)|omega)) .n)):SubM _ _) (ho:=((.c (i:=0) rfl .n):PickO _ _ _)) (.n:SelR _ _ _)
 ·
  rintro ⟨⟩ -
  try dsimp only [cw]
  refine zL ?_
  exact zA Tryz.results19 () trivial (zt rfl) (congrArg Value.bool (decide_eq_decide.2 (by unfold Wd.zz;cases u1.s <;> cases v1.s <;> simp))) (ho:=(.n:PickO _ _ _)) (.n:SelR _ _ _)
end Go.Proofs.YtkamccndgblheaaGreat.Sp
namespace Go.Proofs.YtkamccndgblheaaGreat.Sp
open Go
set_option linter.unusedVariables false
set_option maxRecDepth 100000
set_option maxHeartbeats 1000000
theorem zDe {w1:Nat} {vh1:Nat} {m1:Int} {p1:Option Addr} {n1:Nat} {c1:Nat} {l1:List Int} {w2:Nat} {vh2:Nat} {m2:Int} {p2:Option Addr} {n2:Nat} {c2:Nat} {l2:List Int} {xx:Nat} {yy:Nat} (hn1:l1.length=n1) (hw1:1≤w1∧w1≤64) (hh1:1≤vh1∧vh1≤64) (hwh1:n1=w1*vh1) (hb1:n1≤4096) (hg1:∀i,i<n1→0≤l1.getD i 0∧l1.getD i 0≤65535) (hn2:l2.length=n2) (hw2:1≤w2∧w2≤64) (hh2:1≤vh2∧vh2≤64) (hwh2:n2=w2*vh2) (hb2:n2≤4096) (hg2:∀i,i<n2→0≤l2.getD i 0∧l2.getD i 0≤65535) (hx:xx+w1≤w2) (hy:yy+vh1≤vh2):Con Tryz.prog 13 [.agg #[.int .i64 ((w1:Nat):Int),.int .i64 ((vh1:Nat):Int),.int .i64 m1,.slice p1 n1 c1],.agg #[.int .i64 ((w2:Nat):Int),.int .i64 ((vh2:Nat):Int),.int .i64 m2,.slice p2 n2 c2],.int .i64 ((xx:Nat):Int),.int .i64 ((yy:Nat):Int)] [] [slF (rI .i64) p1 c1 l1,slF (rI .i64) p2 c2 l2] (Y:=Wd×Wd) (fun y=>True) (fun y=> .agg #[y.1.b,y.1.l,y.2.b,y.2.l]) (fun y=>[]) (fun y=>[qF true y.1 y.2 (Cr.scr l1 l2 w1 vh1 n1 w2 yy xx)]):=by
 refine zr Tryz.func13 rfl rfl rfl (fun c=> ?_)
 show RunC _ _ _ _ _ [(0,.agg #[.int .i64 ((w1:Nat):Int),.int .i64 ((vh1:Nat):Int),.int .i64 m1,.slice p1 n1 c1]),(1,.agg #[.int .i64 ((w2:Nat):Int),.int .i64 ((vh2:Nat):Int),.int .i64 m2,.slice p2 n2 c2]),(2,.int .i64 ((xx:Nat):Int)),(3,.int .i64 ((yy:Nat):Int))] [] [slF (rI .i64) p1 c1 l1,slF (rI .i64) p2 c2 l2]
 refine zaa 0 rfl (fun hL0=> ?_)
 refine zaa 1 rfl (fun hL1=> ?_)
 refine zh<|zc<|zK rfl rfl (zP rfl rfl) (fun b1=> ?_)
 refine zK rfl rfl (zP rfl rfl) (fun b2=> ?_)
 refine zK rfl rfl (zu zr32 rfl) (fun b3=> ?_)
 refine zj<|zf<|zh<|zc<|r_pv rfl rfl (ze rfl)<|r_pv rfl rfl (ze rfl)<|r_pv rfl rfl (ze rfl)<|r_pv rfl rfl (ze rfl)<|r_pv rfl rfl (ze rfl)<|r_pv rfl rfl (ze rfl)<|zj<|zf<|zh<|zh<|zc<|r_pv rfl rfl (zg Tryz.underlying24 rfl sz3 rfl rfl)<|r_u rfl rfl (zi 2 ty3 rfl rfl rfl)<|r_pv rfl rfl (za rfl)<|zj<|zf<|zI<|zoa (X:=Nat) (fun x:Nat=>x≤vh1) (fun x=>[(28,.int .i64 ((x:Nat):Int)),(14,.int .i64 (Cr.sumN (fun k=>Cr.px l1 k*Cr.wn l2 w2 yy xx w1 k) (x*w1))),(13,.int .i64 (Cr.sumN (fun k=>Cr.wn l2 w2 yy xx w1 k*Cr.wn l2 w2 yy xx w1 k) (x*w1))),(12,.int .i64 (Cr.sumN (Cr.sq l1) (x*w1))),(11,.int .i64 (Cr.sumN (Cr.wn l2 w2 yy xx w1) (x*w1))),(10,.int .i64 (Cr.sumN (Cr.px l1) (x*w1))),(9,.int .i64 (((x*w1):Nat):Int)),(27,.int .i64 ((vh1:Nat):Int)),(8,.pointer (some ⟨b3,0,none⟩)),(5,.pointer (some ⟨b2,0,none⟩)),(4,.pointer (some ⟨b1,0,none⟩)),(2,.int .i64 ((xx:Nat):Int)),(3,.int .i64 ((yy:Nat):Int))]) (fun x=>[boxA b3 32 [.bool false,.slice none 0 0,.bool false,.slice none 0 0],boxA b2 24 [.int .i64 ((w2:Nat):Int),.int .i64 ((vh2:Nat):Int),.int .i64 m2,.slice p2 n2 c2],boxA b1 24 [.int .i64 ((w1:Nat):Int),.int .i64 ((vh1:Nat):Int),.int .i64 m1,.slice p1 n1 c1]]) (fun x=>[slF (rI .i64) p1 c1 l1,slF (rI .i64) p2 c2 l2]) (fun x:Nat=>vh1 - x) 0 (show 0≤vh1 from by exact Nat.zero_le _) ((.e rfl (by first|rfl|(congr 1;omega)|simp_all) (.e rfl (congrArg (Value.int .i64) (by rw [Nat.zero_mul];rfl)) (.e rfl (congrArg (Value.int .i64) (by rw [Nat.zero_mul];rfl)) (.e rfl (congrArg (Value.int .i64) (by rw [Nat.zero_mul];rfl)) (.e rfl (congrArg (Value.int .i64) (by rw [Nat.zero_mul];rfl)) (.e rfl (congrArg (Value.int .i64) (by rw [Nat.zero_mul];rfl)) (.e rfl (congrArg (Value.int .i64) (by rw [Nat.zero_mul];rfl)) (.of rfl)))))))):SubM _ _) (ho:=((.of [0,0,0] rfl):PickO _ _ _)) ((.of [0,1] rfl):SelR _ _ _) ?_
 rintro jj hI
 replace hI:jj≤vh1:=hI
 try dsimp only
 refine zh<|zc<|r_pv rfl rfl (zja rfl rfl)<|zj<|zf<|zh<|zJ rfl (fun h4=> ?_) (fun h4=> ?_)
 ·
  refine zH<|zf<|zh<|zI<|zh<|zc<|r_pv rfl rfl (za rfl)<|r_pv rfl rfl (ze rfl)<|zj<|zf<|zh<|zc<|r_pv rfl rfl (zg Tryz.underlying24 rfl sz3 rfl rfl)<|r_u rfl rfl (zi 2 ty3 rfl rfl rfl)<|r_pv rfl rfl (za rfl)<|zj<|zf<|zI<|zoa (X:=Nat) (fun x:Nat=>x≤w1) (fun x=>[(33,.int .i64 ((x:Nat):Int)),(14,.int .i64 (Cr.sumN (fun k=>Cr.px l1 k*Cr.wn l2 w2 yy xx w1 k) (jj*w1+x))),(13,.int .i64 (Cr.sumN (fun k=>Cr.wn l2 w2 yy xx w1 k*Cr.wn l2 w2 yy xx w1 k) (jj*w1+x))),(12,.int .i64 (Cr.sumN (Cr.sq l1) (jj*w1+x))),(11,.int .i64 (Cr.sumN (Cr.wn l2 w2 yy xx w1) (jj*w1+x))),(10,.int .i64 (Cr.sumN (Cr.px l1) (jj*w1+x))),(9,.int .i64 (((jj*w1+x):Nat):Int)),(32,.int .i64 ((w1:Nat):Int)),(15,.int .i64 ((jj:Nat):Int)),(28,.int .i64 ((jj:Nat):Int)),(27,.int .i64 ((vh1:Nat):Int)),(8,.pointer (some ⟨b3,0,none⟩)),(5,.pointer (some ⟨b2,0,none⟩)),(4,.pointer (some ⟨b1,0,none⟩)),(2,.int .i64 ((xx:Nat):Int)),(3,.int .i64 ((yy:Nat):Int))]) (fun x=>[boxA b3 32 [.bool false,.slice none 0 0,.bool false,.slice none 0 0],boxA b2 24 [.int .i64 ((w2:Nat):Int),.int .i64 ((vh2:Nat):Int),.int .i64 m2,.slice p2 n2 c2],boxA b1 24 [.int .i64 ((w1:Nat):Int),.int .i64 ((vh1:Nat):Int),.int .i64 m1,.slice p1 n1 c1]]) (fun x=>[slF (rI .i64) p1 c1 l1,slF (rI .i64) p2 c2 l2]) (fun x:Nat=>w1 - x) 0 (show 0≤w1 from by exact Nat.zero_le _) ((.e rfl (by first|rfl|(congr 1;omega)|simp_all) (.e rfl (congrArg (Value.int .i64) (by rfl)) (.e rfl (congrArg (Value.int .i64) (by rfl)) (.e rfl (congrArg (Value.int .i64) (by rfl)) (.e rfl (congrArg (Value.int .i64) (by rfl)) (.e rfl (congrArg (Value.int .i64) (by rfl)) (.e rfl (congrArg (Value.int .i64) (by rfl)) (.of rfl)))))))):SubM _ _) (ho:=((.of [0,0,0] rfl):PickO _ _ _)) ((.of [0,1] rfl):SelR _ _ _) ?_
  rintro ii hJ
  replace hJ:ii≤w1:=hJ
  try dsimp only
  refine zh<|zc<|r_pv rfl rfl (zja rfl rfl)<|zj<|zf<|zh<|zJ rfl (fun h5=> ?_) (fun h5=> ?_)
  ·
   have hlt:jj*w1+ii<n1:=by rw [hwh1];exact Cr.at_lt (by omega) (by omega)
   have hlt2:(yy+jj)*w2+xx+ii<n2:=Cr.win_in hwh2 hx hy (by omega) (by omega)
   have hwn:=Cr.wn_at (l:=l2) (w:=w2) (y:=yy) (x:=xx) (j:=jj) (show ii<w1 by omega)
   have hp1:=hg1 _ hlt
   have hp2:=hg2 _ hlt2
   have hp3:=Cr.sq_b hp1
   have hp4:=Cr.sq_b hp2
   have hp5:=Cr.mul_g hp1 hp2
   have hs1:=Cr.px_sum (l:=l1) hg1 hb1 (show jj*w1+ii≤n1 by omega)
   have hs2:=Cr.sq_sum (l:=l1) hg1 hb1 (show jj*w1+ii≤n1 by omega)
   have hs3:=Cr.smp (Cr.wn_b hg2 hwh1 hwh2 hw1.1 hx hy) hb1 (show jj*w1+ii≤n1 by omega)
   have hs4:=Cr.smq (Cr.wn_q hg2 hwh1 hwh2 hw1.1 hx hy) hb1 (show jj*w1+ii≤n1 by omega)
   have hs5:=Cr.smq (Cr.wn_c hg1 hg2 hwh1 hwh2 hw1.1 hx hy) hb1 (show jj*w1+ii≤n1 by omega)
   have hyw1:jj*w1≤64*64:=Nat.mul_le_mul (by omega) hw1.2
   have hyw:(yy+jj)*w2≤64*64:=Nat.mul_le_mul (by omega) hw2.2
   refine zH<|zf<|zh<|zI<|zh<|zc<|r_pv rfl rfl (za rfl)<|r_pv rfl rfl (ze rfl)<|zj<|zf<|zh<|zba (OW:=[]) (O:=[boxA b3 32 [.bool false,.slice none 0 0,.bool false,.slice none 0 0],boxA b2 24 [.int .i64 ((w2:Nat):Int),.int .i64 ((vh2:Nat):Int),.int .i64 m2,.slice p2 n2 c2],boxA b1 24 [.int .i64 ((w1:Nat):Int),.int .i64 ((vh1:Nat):Int),.int .i64 m1,.slice p1 n1 c1]]) 100000 mixed (.then (.block (.then (.then (.block (.block (.then (.then (.block (.then .ret)))))))))) (by kernel_rfl)<|d_pv 0 rfl rfl (by kernel_rfl) (by kernel_rfl) rfl rfl (zg Tryz.underlying24 rfl sz22 rfl rfl)<|d_u 1 rfl rfl (by kernel_rfl) (by kernel_rfl) rfl rfl (zi 2 ty22 rfl rfl rfl)<|d_pv 2 rfl rfl (by kernel_rfl) (by kernel_rfl) rfl rfl (za rfl)<|d_pv 3 rfl rfl (by kernel_rfl) (by kernel_rfl) rfl rfl (zg Tryz.underlying24 rfl sz3 rfl rfl)<|d_u 4 rfl rfl (by kernel_rfl) (by kernel_rfl) rfl rfl (zi 2 ty3 rfl rfl rfl)<|d_pv 5 rfl rfl (by kernel_rfl) (by kernel_rfl) rfl rfl (zra (z:=(((jj*w1):Nat):Int)) rfl rfl (w64 (by omega)))<|d_pv 6 rfl rfl (by kernel_rfl) (by kernel_rfl) rfl rfl (za rfl)<|d_pv 7 rfl rfl (by kernel_rfl) (by kernel_rfl) rfl rfl (zG (z:=((((jj*w1)+ii):Nat):Int)) rfl rfl (w64 (by omega)))<|zia (x0:=(l1.getD ((jj*w1)+ii) 0)) 8 rfl rfl (by kernel_rfl) (by kernel_rfl) 0 ((jj*w1)+ii) rfl Tryz.underlying22 sz3 rfl rfl rfl (by first|rfl|assumption|(simp_all;done)|omega) rfl rfl (gD (d:=0) (by omega)) (fun b6 o7 hok8=> ?_)
   replace hok8:=zZ.1 hok8
   refine d_u 9 rfl rfl (by kernel_rfl) (by kernel_rfl) rfl rfl (zk (j:=0) 0 ty3 rfl rfl rfl rfl)<|d_pv 10 rfl rfl (by kernel_rfl) (by kernel_rfl) rfl rfl (zg Tryz.underlying24 rfl sz22 rfl rfl)<|d_u 11 rfl rfl (by kernel_rfl) (by kernel_rfl) rfl rfl (zi 1 ty22 rfl rfl rfl)<|d_pv 12 rfl rfl (by kernel_rfl) (by kernel_rfl) rfl rfl (za rfl)<|d_pv 13 rfl rfl (by kernel_rfl) (by kernel_rfl) rfl rfl (za rfl)<|d_pv 14 rfl rfl (by kernel_rfl) (by kernel_rfl) rfl rfl (zG (z:=(((yy+jj):Nat):Int)) rfl rfl (w64 (by omega)))<|d_pv 15 rfl rfl (by kernel_rfl) (by kernel_rfl) rfl rfl (zg Tryz.underlying24 rfl sz3 rfl rfl)<|d_u 16 rfl rfl (by kernel_rfl) (by kernel_rfl) rfl rfl (zi 1 ty3 rfl rfl rfl)<|d_pv 17 rfl rfl (by kernel_rfl) (by kernel_rfl) rfl rfl (zra (z:=((((yy+jj)*w2):Nat):Int)) rfl rfl (w64 (by omega)))<|d_pv 18 rfl rfl (by kernel_rfl) (by kernel_rfl) rfl rfl (za rfl)<|d_pv 19 rfl rfl (by kernel_rfl) (by kernel_rfl) rfl rfl (zG (z:=(((((yy+jj)*w2)+xx):Nat):Int)) rfl rfl (w64 (by omega)))<|d_pv 20 rfl rfl (by kernel_rfl) (by kernel_rfl) rfl rfl (za rfl)<|d_pv 21 rfl rfl (by kernel_rfl) (by kernel_rfl) rfl rfl (zG (z:=((((((yy+jj)*w2)+xx)+ii):Nat):Int)) rfl rfl (w64 (by omega)))<|zia (x0:=(l2.getD ((((yy+jj)*w2)+xx)+ii) 0)) 22 rfl rfl (by kernel_rfl) (by kernel_rfl) 2 ((((yy+jj)*w2)+xx)+ii) rfl Tryz.underlying22 sz3 rfl rfl rfl (by first|rfl|assumption|(simp_all;done)|omega) rfl rfl (gD (d:=0) (by omega)) (fun b9 o10 hok11=> ?_)
   replace hok11:=zZ.1 hok11
   refine d_u 23 rfl rfl (by kernel_rfl) (by kernel_rfl) rfl rfl (zk (j:=0) 0 ty3 rfl rfl rfl rfl)<|d_pv 24 rfl rfl (by kernel_rfl) (by kernel_rfl) rfl rfl (ze rfl)<|d_pv 25 rfl rfl (by kernel_rfl) (by kernel_rfl) rfl rfl (ze rfl)<|zV (by kernel_rfl)<|zf<|zh<|zc<|r_pv rfl rfl (za rfl)<|r_pv rfl rfl (zG (z:=((((jj*w1+ii)+1):Nat):Int)) rfl rfl (w64 (by omega)))<|r_pv rfl rfl (ze rfl)<|zj<|zf<|zh<|zc<|r_pv rfl rfl (za rfl)<|r_pv rfl rfl (za rfl)<|r_pv rfl rfl (zG (z:=((Cr.sumN (Cr.px l1) (jj*w1+ii))+(l1.getD ((jj*w1)+ii) 0))) rfl rfl (w64 (by omega)))<|r_pv rfl rfl (ze rfl)<|zj<|zf<|zh<|zc<|r_pv rfl rfl (za rfl)<|r_pv rfl rfl (za rfl)<|r_pv rfl rfl (zG (z:=((Cr.sumN (Cr.wn l2 w2 yy xx w1) (jj*w1+ii))+(l2.getD ((((yy+jj)*w2)+xx)+ii) 0))) rfl rfl (w64 (by omega)))<|r_pv rfl rfl (ze rfl)<|zj<|zf<|zh<|zc<|r_pv rfl rfl (za rfl)<|r_pv rfl rfl (za rfl)<|r_pv rfl rfl (za rfl)<|r_pv rfl rfl (zra (z:=((l1.getD ((jj*w1)+ii) 0)*(l1.getD ((jj*w1)+ii) 0))) rfl rfl (w64 (by omega)))<|r_pv rfl rfl (zG (z:=((Cr.sumN (Cr.sq l1) (jj*w1+ii))+((l1.getD ((jj*w1)+ii) 0)*(l1.getD ((jj*w1)+ii) 0)))) rfl rfl (w64 (by omega)))<|r_pv rfl rfl (ze rfl)<|zj<|zf<|zh<|zc<|r_pv rfl rfl (za rfl)<|r_pv rfl rfl (za rfl)<|r_pv rfl rfl (za rfl)<|r_pv rfl rfl (zra (z:=((l2.getD ((((yy+jj)*w2)+xx)+ii) 0)*(l2.getD ((((yy+jj)*w2)+xx)+ii) 0))) rfl rfl (w64 (by omega)))<|r_pv rfl rfl (zG (z:=((Cr.sumN (fun k=>Cr.wn l2 w2 yy xx w1 k*Cr.wn l2 w2 yy xx w1 k) (jj*w1+ii))+((l2.getD ((((yy+jj)*w2)+xx)+ii) 0)*(l2.getD ((((yy+jj)*w2)+xx)+ii) 0)))) rfl rfl (w64 (by omega)))<|r_pv rfl rfl (ze rfl)<|zj<|zf<|zc<|r_pv rfl rfl (za rfl)<|r_pv rfl rfl (za rfl)<|r_pv rfl rfl (za rfl)<|r_pv rfl rfl (zra (z:=((l1.getD ((jj*w1)+ii) 0)*(l2.getD ((((yy+jj)*w2)+xx)+ii) 0))) rfl rfl (w64 (by omega)))<|r_pv rfl rfl (zG (z:=((Cr.sumN (fun k=>Cr.px l1 k*Cr.wn l2 w2 yy xx w1 k) (jj*w1+ii))+((l1.getD ((jj*w1)+ii) 0)*(l2.getD ((((yy+jj)*w2)+xx)+ii) 0)))) rfl rfl (w64 (by omega)))<|r_pv rfl rfl (ze rfl)<|zj<|zY<|zf<|zc<|r_pv rfl rfl (zG (z:=(((ii+1):Nat):Int)) rfl rfl (w64 (by omega)))<|r_pv rfl rfl (za rfl)<|zj<|zka (ii+1) (show (ii+1)≤w1 from by omega) (by show w1 - (ii+1)<w1 - ii;omega) ((.c rfl (.e rfl (congrArg (Value.int .i64) (by rw [← hwn];rfl)) (.e rfl (congrArg (Value.int .i64) (by rw [← hwn];rfl)) (.e rfl (congrArg (Value.int .i64) (by rfl)) (.e rfl (congrArg (Value.int .i64) (by rw [← hwn];rfl)) (.e rfl (congrArg (Value.int .i64) (by rfl)) (.e rfl (congrArg (Value.int .i64) (by rfl)) (.of rfl)))))))):SubM _ _) (ho:=((.of [0,0,0] rfl):PickO _ _ _)) ((.of [2,3] rfl):SelR _ _ _)
  ·
   refine zma<|zn<|zn<|zC<|zY<|zf<|zc<|r_pv rfl rfl (zG (z:=(((jj+1):Nat):Int)) rfl rfl (w64 (by omega)))<|r_pv rfl rfl (za rfl)<|zj ?_
   have e9:jj*w1+ii=(jj+1)*w1:=by rw [Nat.succ_mul];omega
   refine zka (jj+1) (show (jj+1)≤vh1 from by omega) (by show vh1 - (jj+1)<vh1 - jj;omega) ((.c rfl (.e rfl (congrArg (Value.int .i64) (by rw [e9])) (.e rfl (congrArg (Value.int .i64) (by rw [e9])) (.e rfl (congrArg (Value.int .i64) (by rw [e9])) (.e rfl (congrArg (Value.int .i64) (by rw [e9])) (.e rfl (congrArg (Value.int .i64) (by rw [e9])) (.e rfl (congrArg (Value.int .i64) (by rw [e9])) (.of rfl)))))))):SubM _ _) (ho:=((.of [0,0,0] rfl):PickO _ _ _)) ((.of [0,1] rfl):SelR _ _ _)
 ·
  refine zma<|zn<|zn<|zC<|zf<|zh ?_
  have hj9:jj*w1=n1:=by rw [show jj=vh1 by omega,hwh1,Nat.mul_comm]
  have e12:jj*w1=n1:=by exact hj9
  rw [e12]
  have hs1:=Cr.px_sum (l:=l1) hg1 hb1 (Nat.le_refl n1)
  have hs2:=Cr.sq_sum (l:=l1) hg1 hb1 (Nat.le_refl n1)
  have hs3:=Cr.smp (Cr.wn_b hg2 hwh1 hwh2 hw1.1 hx hy) hb1 (Nat.le_refl n1)
  have hs4:=Cr.smq (Cr.wn_q hg2 hwh1 hwh2 hw1.1 hx hy) hb1 (Nat.le_refl n1)
  have hs5:=Cr.smq (Cr.wn_c hg1 hg2 hwh1 hwh2 hw1.1 hx hy) hb1 (Nat.le_refl n1)
  have hq2:=Bl.mul_b (x:=((n1:Nat):Int)) (y:=(Cr.sumN (Cr.sq l1) n1)) (m:=4096) (n:=17591649177600) (by omega) hs2
  have hq4:=Bl.mul_b (x:=((n1:Nat):Int)) (y:=(Cr.sumN (fun k=>Cr.wn l2 w2 yy xx w1 k*Cr.wn l2 w2 yy xx w1 k) n1)) (m:=4096) (n:=17591649177600) (by omega) hs4
  have hq5:=Bl.mul_b (x:=((n1:Nat):Int)) (y:=(Cr.sumN (fun k=>Cr.px l1 k*Cr.wn l2 w2 yy xx w1 k) n1)) (m:=4096) (n:=17591649177600) (by omega) hs5
  have hq1:=Bl.mul_b hs1 hs1
  have hq3:=Bl.mul_b hs3 hs3
  have hq6:=Bl.mul_b hs1 hs3
  refine zc<|r_pv rfl rfl (za rfl)<|r_pv rfl rfl (za rfl)<|r_pv rfl rfl (zra (z:=(((n1:Nat):Int)*(Cr.sumN (fun k=>Cr.px l1 k*Cr.wn l2 w2 yy xx w1 k) n1))) rfl rfl (w64 (by omega)))<|r_pv rfl rfl (za rfl)<|r_pv rfl rfl (za rfl)<|r_pv rfl rfl (zra (z:=((Cr.sumN (Cr.px l1) n1)*(Cr.sumN (Cr.wn l2 w2 yy xx w1) n1))) rfl rfl (w64 (by omega)))<|r_pv rfl rfl (zda (z:=((((n1:Nat):Int)*(Cr.sumN (fun k=>Cr.px l1 k*Cr.wn l2 w2 yy xx w1 k) n1)) - ((Cr.sumN (Cr.px l1) n1)*(Cr.sumN (Cr.wn l2 w2 yy xx w1) n1)))) rfl rfl (w64 (by omega)))<|r_pv rfl rfl (za rfl)<|r_pv rfl rfl (za rfl)<|r_pv rfl rfl (zra (z:=(((n1:Nat):Int)*(Cr.sumN (Cr.sq l1) n1))) rfl rfl (w64 (by omega)))<|r_pv rfl rfl (za rfl)<|r_pv rfl rfl (za rfl)<|r_pv rfl rfl (zra (z:=((Cr.sumN (Cr.px l1) n1)*(Cr.sumN (Cr.px l1) n1))) rfl rfl (w64 (by omega)))<|r_pv rfl rfl (zda (z:=((((n1:Nat):Int)*(Cr.sumN (Cr.sq l1) n1)) - ((Cr.sumN (Cr.px l1) n1)*(Cr.sumN (Cr.px l1) n1)))) rfl rfl (w64 (by omega)))<|r_pv rfl rfl (za rfl)<|r_pv rfl rfl (za rfl)<|r_pv rfl rfl (zra (z:=(((n1:Nat):Int)*(Cr.sumN (fun k=>Cr.wn l2 w2 yy xx w1 k*Cr.wn l2 w2 yy xx w1 k) n1))) rfl rfl (w64 (by omega)))<|r_pv rfl rfl (za rfl)<|r_pv rfl rfl (za rfl)<|r_pv rfl rfl (zra (z:=((Cr.sumN (Cr.wn l2 w2 yy xx w1) n1)*(Cr.sumN (Cr.wn l2 w2 yy xx w1) n1))) rfl rfl (w64 (by omega)))<|r_pv rfl rfl (zda (z:=((((n1:Nat):Int)*(Cr.sumN (fun k=>Cr.wn l2 w2 yy xx w1 k*Cr.wn l2 w2 yy xx w1 k) n1)) - ((Cr.sumN (Cr.wn l2 w2 yy xx w1) n1)*(Cr.sumN (Cr.wn l2 w2 yy xx w1) n1)))) rfl rfl (w64 (by omega)))<|r_pv rfl rfl (ze rfl)<|r_pv rfl rfl (ze rfl)<|r_pv rfl rfl (ze rfl)<|zj<|zf<|zh<|zUa (X:=Unit) (fun x=>True) (fun x=>[(111,.bool (decide ((((((n1:Nat):Int)*(Cr.sumN (Cr.sq l1) n1)) - ((Cr.sumN (Cr.px l1) n1)*(Cr.sumN (Cr.px l1) n1)))=0)∨(((((n1:Nat):Int)*(Cr.sumN (fun k=>Cr.wn l2 w2 yy xx w1 k*Cr.wn l2 w2 yy xx w1 k) n1)) - ((Cr.sumN (Cr.wn l2 w2 yy xx w1) n1)*(Cr.sumN (Cr.wn l2 w2 yy xx w1) n1)))=0)))),(21,.int .i64 ((((n1:Nat):Int)*(Cr.sumN (fun k=>Cr.wn l2 w2 yy xx w1 k*Cr.wn l2 w2 yy xx w1 k) n1)) - ((Cr.sumN (Cr.wn l2 w2 yy xx w1) n1)*(Cr.sumN (Cr.wn l2 w2 yy xx w1) n1)))),(20,.int .i64 ((((n1:Nat):Int)*(Cr.sumN (Cr.sq l1) n1)) - ((Cr.sumN (Cr.px l1) n1)*(Cr.sumN (Cr.px l1) n1)))),(19,.int .i64 ((((n1:Nat):Int)*(Cr.sumN (fun k=>Cr.px l1 k*Cr.wn l2 w2 yy xx w1 k) n1)) - ((Cr.sumN (Cr.px l1) n1)*(Cr.sumN (Cr.wn l2 w2 yy xx w1) n1)))),(8,.pointer (some ⟨b3,0,none⟩))]) (fun x=>[boxA b3 32 [.bool false,.slice none 0 0,.bool false,.slice none 0 0],boxA b2 24 [.int .i64 ((w2:Nat):Int),.int .i64 ((vh2:Nat):Int),.int .i64 m2,.slice p2 n2 c2],boxA b1 24 [.int .i64 ((w1:Nat):Int),.int .i64 ((vh1:Nat):Int),.int .i64 m1,.slice p1 n1 c1]]) (fun x=>[slF (rI .i64) p1 c1 l1,slF (rI .i64) p2 c2 l2]) ?_ ?_
  ·
   refine zc<|r_pv rfl rfl (za rfl)<|r_pv rfl rfl (zsa rfl rfl)<|zS rfl rfl (za rfl) (fun h13=> ?_) (fun h13=> ?_)
   ·
    refine zb rfl rfl<|zb rfl rfl<|r_pv rfl rfl (zm rfl rfl)<|zj ?_
    exact zha () (show True from by first|trivial|omega|simp_all) ((.e rfl (congrArg Value.bool (by first|(simp_all;done)|(simp_all;omega)|(simp;omega)|omega)) (.of rfl)):SubM _ _) (ho:=((.of [0,0,0] rfl):PickO _ _ _)) ((.of [0,1] rfl):SelR _ _ _)
   ·
    refine r_pv rfl rfl (za rfl)<|r_pv rfl rfl (zsa rfl rfl)<|r_pv rfl rfl (zm rfl rfl)<|zj ?_
    exact zha () (show True from by first|trivial|omega|simp_all) ((.e rfl (congrArg Value.bool (by first|(simp_all;done)|(simp_all;omega)|(simp;omega)|omega)) (.of rfl)):SubM _ _) (ho:=((.of [0,0,0] rfl):PickO _ _ _)) ((.of [0,1] rfl):SelR _ _ _)
  ·
   rintro ⟨⟩ -
   try dsimp only
   refine zJ rfl (fun hz0=> ?_) (fun hz0=> ?_)
   ·
    refine zh<|zc<|zw rfl rfl (.c rfl .n) ce16 (zLb (z:=0) (hz:=by first|rfl|assumption|omega)) (.n) ?_
    rintro ⟨w314,w415⟩ -
    dsimp only [List.append_eq,List.nil_append,List.cons_append]
    refine zl 0 rfl rfl rfl rfl rfl sz32 rfl (.take (.take (.take (.take .nil)))) .z<|zj<|zf<|zL<|zq ?_
    exact zA Tryz.results13 (w314,w415) trivial (zp 0 ty32 rfl rfl (.take (.take (.take (.take .nil))))) rfl (ho:=(.n:PickO _ _ _)) ((.e (j:=0) rfl (by rw [Cr.scr_ref0 hwh1 hw1.1 hz0]) .n):SelR _ _ _)
   ·
    refine zH<|zf<|zh<|zc<|r_pv rfl rfl (za rfl)<|r_pv rfl rfl (za rfl)<|zw rfl rfl (.c rfl (.c rfl .n)) ce25 (zlc (z1:=((((n1:Nat):Int)*(Cr.sumN (fun k=>Cr.px l1 k*Cr.wn l2 w2 yy xx w1 k) n1)) - ((Cr.sumN (Cr.px l1) n1)*(Cr.sumN (Cr.wn l2 w2 yy xx w1) n1)))) (z2:=((((n1:Nat):Int)*(Cr.sumN (Cr.sq l1) n1)) - ((Cr.sumN (Cr.px l1) n1)*(Cr.sumN (Cr.px l1) n1)))) (hz1:=by first|rfl|assumption|omega) (hz2:=by first|rfl|assumption|omega) (hy:=by exact fun e=>hz0 (Or.inl e))) (.n) ?_
    rintro ⟨w316,w417⟩ -
    dsimp only [List.append_eq,List.nil_append,List.cons_append]
    refine r_pv rfl rfl (za rfl)<|r_pv rfl rfl (zo rfl rfl)<|r_pv rfl rfl (zo rfl rfl)<|zK rfl rfl (zu zr32 rfl) (fun b18=> ?_)
    refine zl 0 rfl rfl rfl rfl rfl sz32 rfl (.take (.take (.take (.take .nil)))) .z<|r_pv rfl rfl (ze rfl)<|zj<|zf<|zh<|zc<|r_pv rfl rfl (za rfl)<|r_pv rfl rfl (za rfl)<|r_pv rfl rfl (zde (z:=(-((((n1:Nat):Int)*(Cr.sumN (fun k=>Cr.px l1 k*Cr.wn l2 w2 yy xx w1 k) n1)) - ((Cr.sumN (Cr.px l1) n1)*(Cr.sumN (Cr.wn l2 w2 yy xx w1) n1))))) rfl (w64 (by omega)))<|r_pv rfl rfl (zHe rfl rfl)<|r_pv rfl rfl (za rfl)<|zw rfl rfl (.c rfl (.c rfl .n)) ce25 (zlc (z1:=(max ((((n1:Nat):Int)*(Cr.sumN (fun k=>Cr.px l1 k*Cr.wn l2 w2 yy xx w1 k) n1)) - ((Cr.sumN (Cr.px l1) n1)*(Cr.sumN (Cr.wn l2 w2 yy xx w1) n1))) (-((((n1:Nat):Int)*(Cr.sumN (fun k=>Cr.px l1 k*Cr.wn l2 w2 yy xx w1 k) n1)) - ((Cr.sumN (Cr.px l1) n1)*(Cr.sumN (Cr.wn l2 w2 yy xx w1) n1)))))) (z2:=((((n1:Nat):Int)*(Cr.sumN (fun k=>Cr.wn l2 w2 yy xx w1 k*Cr.wn l2 w2 yy xx w1 k) n1)) - ((Cr.sumN (Cr.wn l2 w2 yy xx w1) n1)*(Cr.sumN (Cr.wn l2 w2 yy xx w1) n1)))) (hz1:=by first|rfl|assumption|omega) (hz2:=by first|rfl|assumption|omega) (hy:=by exact fun e=>hz0 (Or.inr e))) (.n) ?_
    rintro ⟨w319,w420⟩ -
    dsimp only [List.append_eq,List.nil_append,List.cons_append]
    refine r_pv rfl rfl (za rfl)<|r_pv rfl rfl (zo rfl rfl)<|r_pv rfl rfl (zo rfl rfl)<|zK rfl rfl (zu zr32 rfl) (fun b21=> ?_)
    refine zl 0 rfl rfl rfl rfl rfl sz32 rfl (.take (.take (.take (.take .nil)))) .z<|r_pv rfl rfl (ze rfl)<|zj<|zf<|zh<|zc<|r_u rfl rfl (zd 1 ty32 rfl rfl (.take (.take (.take (.take .nil)))))<|r_u rfl rfl (zd 0 ty32 rfl rfl (.take (.take (.take (.take .nil)))))<|zw rfl rfl (.c rfl (.c rfl .n)) ce39 (zff (k1:=true) (u1:=w316) (v1:=w417) (q1:=Rat.divInt ((((n1:Nat):Int)*(Cr.sumN (fun k=>Cr.px l1 k*Cr.wn l2 w2 yy xx w1 k) n1)) - ((Cr.sumN (Cr.px l1) n1)*(Cr.sumN (Cr.wn l2 w2 yy xx w1) n1))) ((((n1:Nat):Int)*(Cr.sumN (Cr.sq l1) n1)) - ((Cr.sumN (Cr.px l1) n1)*(Cr.sumN (Cr.px l1) n1)))) (k2:=true) (u2:=w319) (v2:=w420) (q2:=Rat.divInt (max ((((n1:Nat):Int)*(Cr.sumN (fun k=>Cr.px l1 k*Cr.wn l2 w2 yy xx w1 k) n1)) - ((Cr.sumN (Cr.px l1) n1)*(Cr.sumN (Cr.wn l2 w2 yy xx w1) n1))) (-((((n1:Nat):Int)*(Cr.sumN (fun k=>Cr.px l1 k*Cr.wn l2 w2 yy xx w1 k) n1)) - ((Cr.sumN (Cr.px l1) n1)*(Cr.sumN (Cr.wn l2 w2 yy xx w1) n1))))) ((((n1:Nat):Int)*(Cr.sumN (fun k=>Cr.wn l2 w2 yy xx w1 k*Cr.wn l2 w2 yy xx w1 k) n1)) - ((Cr.sumN (Cr.wn l2 w2 yy xx w1) n1)*(Cr.sumN (Cr.wn l2 w2 yy xx w1) n1)))) (hl:=by exact Cr.hqd2 ⟨by omega,by omega⟩ ⟨by omega,by omega⟩ (fun e=>hz0 (Or.inl e)) ⟨by omega,by omega⟩ ⟨by omega,by omega⟩ (fun e=>hz0 (Or.inr e)))) (.c (j:=1) rfl (.c (j:=0) rfl .n)) ?_
    rintro ⟨w322,w423⟩ -
    dsimp only [List.append_eq,List.nil_append,List.cons_append]
    refine zl 2 rfl rfl rfl rfl rfl sz32 rfl (.take (.take (.take (.take .nil)))) (.s (.s .z))<|zj<|zf<|zL ?_
    exact zA Tryz.results13 (w322,w423) trivial (zp 2 ty32 rfl rfl (.take (.take (.take (.take .nil))))) rfl (ho:=(.n:PickO _ _ _)) ((.e (j:=0) rfl (by rw [← Cr.scr_ref1 hwh1 hw1.1 hz0];rfl) .n):SelR _ _ _)
theorem zHa {w1:Nat} {vh1:Nat} {m1:Int} {p1:Option Addr} {n1:Nat} {c1:Nat} {l1:List Int} {w2:Nat} {vh2:Nat} {m2:Int} {p2:Option Addr} {n2:Nat} {c2:Nat} {l2:List Int} {ex:Int} {ey:Int} (hn1:l1.length=n1) (hw1:1≤w1∧w1≤64) (hh1:1≤vh1∧vh1≤64) (hwh1:n1=w1*vh1) (hb1:n1≤4096) (hg1:∀i,i<n1→0≤l1.getD i 0∧l1.getD i 0≤65535) (hn2:l2.length=n2) (hw2:1≤w2∧w2≤64) (hh2:1≤vh2∧vh2≤64) (hwh2:n2=w2*vh2) (hb2:n2≤4096) (hg2:∀i,i<n2→0≤l2.getD i 0∧l2.getD i 0≤65535) (hp:(Cr.pos ((w1:Nat):Int) ((vh1:Nat):Int) ((w2:Nat):Int) ((vh2:Nat):Int) ex ey)):Con Tryz.prog 13 [.agg #[.int .i64 (((w1:Nat):Int)),.int .i64 (((vh1:Nat):Int)),.int .i64 (m1),.slice (p1) (n1) (c1)],.agg #[.int .i64 (((w2:Nat):Int)),.int .i64 (((vh2:Nat):Int)),.int .i64 (m2),.slice (p2) (n2) (c2)],.int .i64 (ex),.int .i64 (ey)] [] [slF (rI .i64) (p1) (c1) (l1),slF (rI .i64) (p2) (c2) (l2)] (Y:=(Wd)×(Wd)) (fun y=>True) (fun y=> .agg #[y.1.b,y.1.l,y.2.b,y.2.l]) (fun y=>[]) (fun y=>[qF true y.1 y.2 ((Cr.scq l1 l2 ((w1:Nat):Int) ((vh1:Nat):Int) ((w2:Nat):Int) ex ey))]):=by
  obtain ⟨xx,rfl⟩:=Int.eq_ofNat_of_zero_le hp.1
  obtain ⟨yy,rfl⟩:=Int.eq_ofNat_of_zero_le hp.2.1
  have hp2:=hp.2.2.1
  have hp3:=hp.2.2.2
  rw [← Cr.scq_nat hn1]
  exact zDe hn1 hw1 hh1 hwh1 hb1 hg1 hn2 hw2 hh2 hwh2 hb2 hg2 (by omega) (by omega)
end Go.Proofs.YtkamccndgblheaaGreat.Sp
namespace Go.Proofs.YtkamccndgblheaaGreat.Cr
def tp (l:List Rat):Nat→Nat
  |0=>0
  |k+1=>if l.getD (tp l k) 0<l.getD k 0 then k else tp l k
section
variable (l : List Rat) (W : Nat) {k : Nat} (h : 0 < k)
include h
end
end Go.Proofs.YtkamccndgblheaaGreat.Cr
namespace Go.Proofs.YtkamccndgblheaaGreat.Cr
def pkd (l m r:Rat):Prop:=m<l∨m<r∨(l=m∧r=m)
instance (l m r:Rat):Decidable (pkd l m r):=inferInstanceAs (Decidable (_∨_))
def pkl (l m r:Rat):Rat:=(l - (m+m))+r
def pkv (l m r:Rat):Rat:=(l - r) / (pkl l m r+pkl l m r)
theorem pkd_prog {l m r:Rat}:pkd l m r↔((m<l∨m<r)∨(¬(l<m)∧¬(r<m))):=by
  unfold pkd;constructor
  · rintro (h | h | ⟨rfl, rfl⟩)
    · exact .inl (.inl h)
    · exact .inl (.inr h)
    · exact .inr ⟨Rat.lt_irrefl,Rat.lt_irrefl⟩
  · rintro ((h | h) | ⟨h1, h2⟩)
    · exact .inl h
    · exact .inr (.inl h)
    · by_cases a : m < l
      · exact .inl a
      · by_cases b : m < r
        · exact .inr (.inl b)
        · exact .inr (.inr ⟨by grind,by grind⟩)
theorem sgq_sub {a b:Rat}:0<Big.sgq (a - b)↔b<a:=by rw [Big.sgq_pos];exact sub_pos
theorem pkd_ref {l m r:Rat}:pkd l m r↔((0<Big.sgq (l - m)∨0<Big.sgq (r - m))∨(Big.sgq (l - m)=0∧Big.sgq (r - m)=0)):=by
  rw [sgq_sub,sgq_sub,Big.sgq_sub_zero,Big.sgq_sub_zero,or_assoc];rfl
theorem pkl_ref (l m r:Rat):(l+r) - (m+m)=pkl l m r:=by unfold pkl;grind
theorem pkl_neg {l m r:Rat} (h:¬pkd l m r):pkl l m r<0:=by
  unfold pkd at h;unfold pkl;grind
theorem pkl_ne {l m r:Rat} (h:¬pkd l m r):pkl l m r+pkl l m r≠0:=by
  have:=pkl_neg h;grind
theorem pkv_rng {l m r:Rat} (h:¬pkd l m r):Big.qabs (pkv l m r)≤Rat.divInt 1 2:=by
  have hn:=pkl_neg h
  have e:pkv l m r*(pkl l m r+pkl l m r)=l - r:=by
    unfold pkv;exact Rat.div_mul_cancel (pkl_ne h)
  have e2:(Rat.divInt 1 2)*2=1:=by decide +kernel
  have b:l≤m∧r≤m:=by unfold pkd at h;grind
  have c1: -(pkl l m r)≥l - r∧ -(pkl l m r)≥r - l:=by unfold pkl;grind
  generalize pkv l m r=v at*
  generalize pkl l m r=p at*
  generalize Rat.divInt 1 2=h2 at*
  have q2:v*p+v*p=l - r:=by grind
  have q3:h2*p+h2*p=p:=by grind
  have k:v≤h2∧ -v≤h2:=by
    constructor
    · refine Rat.not_lt.1 fun a => ?_
      have z:(v - h2)*(-p)>0:=Rat.mul_pos (by grind) (by grind)
      have q1:(v - h2)*(-p)=h2*p - v*p:=by grind
      rw [q1] at z
      generalize h2*p=s at*
      generalize v*p=t at*
      grind
    · refine Rat.not_lt.1 fun a => ?_
      have z:(-v - h2)*(-p)>0:=Rat.mul_pos (by grind) (by grind)
      have q1:(-v - h2)*(-p)=h2*p+v*p:=by grind
      rw [q1] at z
      generalize h2*p=s at*
      generalize v*p=t at*
      grind
  unfold Big.qabs;split
  · exact k.2
  · exact k.1
theorem pkv_sg {l m r:Rat} (h:¬pkd l m r):Big.sgq (Big.qabs (pkv l m r) - Rat.divInt 1 2)≤0:=by
  have k:¬0<Big.sgq (Big.qabs (pkv l m r) - Rat.divInt 1 2):=fun e=>by
    rw [sgq_sub] at e;exact Rat.not_lt.2 (pkv_rng h) e
  omega
theorem pkv_hq {l m r:Rat} (h:¬pkd l m r) (h1:Big.hq l≤6) (h2:Big.hq m≤6) (h3:Big.hq r≤6):Big.hq (pkv l m r)≤100:=by
  have a:=Big.hq_add m m
  have b:=Big.hq_sub l (m+m)
  have c:=Big.hq_add (l - (m+m)) r
  have d:=Big.hq_add (pkl l m r) (pkl l m r)
  have e:=Big.hq_sub l r
  have f:=Big.hq_div (l - r) (pkl_ne h)
  unfold pkv;unfold pkl at *;omega
theorem scq_int {l1 l2:List Int} {w1 h1 n1 w2:Nat} {x y:Int} (hn:l1.length=n1):scr l1 l2 w1 h1 n1 w2 y.toNat x.toNat=scq l1 l2 w1 h1 w2 x y:=by subst hn;rfl
theorem scq_hq {l1 l2:List Int} {w1 h1 n1 w2 h2 n2:Nat} {x y:Int} (hg1:∀i,i<n1→0≤l1.getD i 0∧l1.getD i 0≤65535) (hg2:∀i,i<n2→0≤l2.getD i 0∧l2.getD i 0≤65535) (hw:1≤w1∧w1≤64) (hh:1≤h1∧h1≤64) (h1n:n1=w1*h1) (h2n:n2=w2*h2) (hb:n1≤4096) (hn:l1.length=n1) (hp:pos w1 h1 w2 h2 x y):Big.hq (scq l1 l2 w1 h1 w2 x y)≤6:=by
  have:=hp.2.2.1;have:=hp.2.2.2;have:=hp.1;have:=hp.2.1
  rw [← scq_int hn];exact scr_hq hg1 hg2 hw hh h1n h2n hb (by omega) (by omega)
def ps4 (w1 h1 w2 h2 x y:Int):Prop:=pos w1 h1 w2 h2 (x - 1) y∧pos w1 h1 w2 h2 (x+1) y∧pos w1 h1 w2 h2 x (y - 1)∧pos w1 h1 w2 h2 x (y+1)
instance (w1 h1 w2 h2 x y:Int):Decidable (ps4 w1 h1 w2 h2 x y):=inferInstanceAs (Decidable (_∧_))
theorem ps4_mid {w1 h1 w2 h2 x y:Int} (h:ps4 w1 h1 w2 h2 x y):pos w1 h1 w2 h2 x y:=by
  obtain ⟨⟨a1,a2,a3,a4⟩,⟨b1,b2,b3,b4⟩,⟨c1,c2,c3,c4⟩,d1,d2,d3,d4⟩:=h
  exact ⟨by omega,by omega,by omega,by omega⟩
theorem ps4_prog {w1 h1 w2 h2 x y:Int} (ha:1≤w1) (hb:1≤h1) (hw:w2≤64) (hh:h2≤64):¬ps4 w1 h1 w2 h2 x y↔(((((((x< -1048576∨1048576<x)∨y< -1048576)∨1048576<y)∨¬pos w1 h1 w2 h2 (x - 1) y)∨¬pos w1 h1 w2 h2 (x+1) y)∨¬pos w1 h1 w2 h2 x (y - 1))∨¬pos w1 h1 w2 h2 x (y+1)):=by
  constructor
  · intro h
    by_cases a:pos w1 h1 w2 h2 (x - 1) y
    · by_cases b : pos w1 h1 w2 h2 (x + 1) y
      · by_cases c : pos w1 h1 w2 h2 x (y - 1)
        · by_cases d : pos w1 h1 w2 h2 x (y + 1)
          · exact absurd ⟨a,b,c,d⟩ h
          · exact .inr d
        · exact .inl (.inr c)
      · exact .inl (.inl (.inr b))
    · exact .inl (.inl (.inl (.inr a)))
  · rintro h k
    obtain ⟨m1,m2,m3,m4⟩:=ps4_mid k
    rcases h with ((((((h|h)|h)|h)|h)|h)|h)|h
    · omega
    · omega
    · omega
    · omega
    · exact h k.1
    · exact h k.2.1
    · exact h k.2.2.1
    · exact h k.2.2.2
theorem ps4_ref {w1 h1 w2 h2 x y:Int}:¬ps4 w1 h1 w2 h2 x y↔((((¬pos w1 h1 w2 h2 x y∨¬pos w1 h1 w2 h2 (x - 1) y)∨¬pos w1 h1 w2 h2 (x+1) y)∨¬pos w1 h1 w2 h2 x (y - 1))∨¬pos w1 h1 w2 h2 x (y+1)):=by
  constructor
  · intro h
    by_cases a:pos w1 h1 w2 h2 (x - 1) y
    · by_cases b : pos w1 h1 w2 h2 (x + 1) y
      · by_cases c : pos w1 h1 w2 h2 x (y - 1)
        · by_cases d : pos w1 h1 w2 h2 x (y + 1)
          · exact absurd ⟨a,b,c,d⟩ h
          · exact .inr d
        · exact .inl (.inr c)
      · exact .inl (.inl (.inr b))
    · exact .inl (.inl (.inl (.inr a)))
  · rintro h k
    rcases h with (((h|h)|h)|h)|h
    · exact h (ps4_mid k)
    · exact h k.1
    · exact h k.2.1
    · exact h k.2.2.1
    · exact h k.2.2.2
def dgX (l1 l2:List Int) (w1 h1 w2 x y:Int):Prop:=pkd (scq l1 l2 w1 h1 w2 (x - 1) y) (scq l1 l2 w1 h1 w2 x y) (scq l1 l2 w1 h1 w2 (x+1) y)
def dgY (l1 l2:List Int) (w1 h1 w2 x y:Int):Prop:=pkd (scq l1 l2 w1 h1 w2 x (y - 1)) (scq l1 l2 w1 h1 w2 x y) (scq l1 l2 w1 h1 w2 x (y+1))
instance (l1 l2:List Int) (w1 h1 w2 x y:Int):Decidable (dgX l1 l2 w1 h1 w2 x y):=inferInstanceAs (Decidable (pkd _ _ _))
instance (l1 l2:List Int) (w1 h1 w2 x y:Int):Decidable (dgY l1 l2 w1 h1 w2 x y):=inferInstanceAs (Decidable (pkd _ _ _))
def vlX (l1 l2:List Int) (w1 h1 w2 x y:Int):Rat:=pkv (scq l1 l2 w1 h1 w2 (x - 1) y) (scq l1 l2 w1 h1 w2 x y) (scq l1 l2 w1 h1 w2 (x+1) y)
def vlY (l1 l2:List Int) (w1 h1 w2 x y:Int):Rat:=pkv (scq l1 l2 w1 h1 w2 x (y - 1)) (scq l1 l2 w1 h1 w2 x y) (scq l1 l2 w1 h1 w2 x (y+1))
def dg (l1 l2:List Int) (w1 h1 w2 x y:Int):Prop:=dgX l1 l2 w1 h1 w2 x y∨dgY l1 l2 w1 h1 w2 x y
instance (l1 l2:List Int) (w1 h1 w2 x y:Int):Decidable (dg l1 l2 w1 h1 w2 x y):=inferInstanceAs (Decidable (_∨_))
theorem rc0 {p d:Prop} [Decidable p] [Decidable d]:((if p then (if d then 13 else 0) else 15:Int)=0)↔(p∧¬d):=by
  by_cases h:p <;> by_cases k:d <;> simp [h,k]
end Go.Proofs.YtkamccndgblheaaGreat.Cr
namespace Go.Proofs.YtkamccndgblheaaGreat.Sp
open Go
set_option linter.unusedVariables false
set_option maxRecDepth 100000
set_option maxHeartbeats 1000000
theorem zKc {u1:Wd} {v1:Wd} {q1:Rat} {u2:Wd} {v2:Wd} {q2:Rat} {bc:Nat} {uc:Wd} {vc:Wd} {qc:Rat} (hq1:Big.hq q1≤6) (hq2:Big.hq q2≤6) (hqc:Big.hq qc≤6):Con Tryz.prog 47 [.agg #[u1.b,u1.l,v1.b,v1.l],.agg #[u2.b,u2.l,v2.b,v2.l],.pointer (some ⟨bc,0,none⟩)] [] [qF true u1 v1 q1,qF true u2 v2 q2,atF bc 0 [uc.b,uc.l,vc.b,vc.l],qF true uc vc qc] (Y:=Wd×Wd) (fun y=>(Cr.pkd q1 qc q2)→y.1=wz∧y.2=wz) (fun y=> .tuple #[.agg #[y.1.b,y.1.l,y.2.b,y.2.l],.bool (decide (¬(Cr.pkd q1 qc q2)))]) (fun y=>[]) (fun y=>[qF (decide (¬(Cr.pkd q1 qc q2))) y.1 y.2 (if (Cr.pkd q1 qc q2) then 0 else Cr.pkv q1 qc q2)]):=by
 refine zr Tryz.func47 rfl rfl rfl (fun c=> ?_)
 show RunC _ _ _ _ _ [(0,.agg #[u1.b,u1.l,v1.b,v1.l]),(1,.agg #[u2.b,u2.l,v2.b,v2.l]),(2,.pointer (some ⟨bc,0,none⟩))] [] [qF true u1 v1 q1,qF true u2 v2 q2,atF bc 0 [uc.b,uc.l,vc.b,vc.l],qF true uc vc qc]
 have b1:=Big.hq_add qc qc
 have b2:=Big.hq_sub q1 (qc+qc)
 have b3:=Big.hq_add (q1 - (qc+qc)) q2
 have b4:=Big.hq_sub q1 q2
 have b5:=Big.hq_add ((q1 - (qc+qc))+q2) ((q1 - (qc+qc))+q2)
 refine zh<|zc<|zK rfl rfl (zP rfl rfl) (fun b1=> ?_)
 refine zK rfl rfl (zP rfl rfl) (fun b2=> ?_)
 refine zK rfl rfl (zu zr32 rfl) (fun b3=> ?_)
 refine r_pv rfl rfl (ze rfl)<|zj<|zf<|zh<|zUa (X:=Unit) (fun x=>True) (fun x=>[(29,.bool (decide (((qc<q1)∨(qc<q2))∨((¬(q1<qc))∧(¬(q2<qc)))))),(6,.bool false),(5,.pointer (some ⟨b3,0,none⟩)),(4,.pointer (some ⟨b2,0,none⟩)),(3,.pointer (some ⟨b1,0,none⟩)),(2,.pointer (some ⟨bc,0,none⟩))]) (fun x=>[boxA b3 32 [.bool false,.slice none 0 0,.bool false,.slice none 0 0],boxA b2 32 (cw [u2,v2]),boxA b1 32 (cw [u1,v1])]) (fun x=>[qF true u1 v1 q1,qF true u2 v2 q2,atF bc 0 [uc.b,uc.l,vc.b,vc.l],qF true uc vc qc]) ?_ ?_
 ·
  refine zc<|r_u rfl rfl (zd 2 ty32 rfl rfl (.take (.take (.take (.take .nil)))))<|r_u rfl rfl (zza (j:=0) 2 ty32 rfl rfl rfl (.take (.take (.take (.take .nil)))))<|zN rfl rfl (.c rfl (.c rfl .n)) ce46 (zIb (k1:=true) (u1:=u1) (v1:=v1) (q1:=q1) (k2:=true) (u2:=uc) (v2:=vc) (q2:=qc) (hl:=by first|rfl|assumption|omega)) (.c (j:=0) rfl (.c (j:=3) rfl .n))<|zS rfl rfl (za rfl) (fun h4=> ?_) (fun h4=> ?_)
  ·
   refine zb rfl rfl<|zb rfl rfl<|zb rfl rfl<|r_pv rfl rfl (zm rfl rfl)<|r_pv rfl rfl (za rfl)<|zb rfl rfl<|zb rfl rfl<|zb rfl rfl<|zb rfl rfl<|zb rfl rfl<|zb rfl rfl<|zb rfl rfl<|zb rfl rfl<|zb rfl rfl<|zb rfl rfl<|r_pv rfl rfl (zm rfl rfl)<|zj ?_
   exact zha () (show True from by first|trivial|omega|simp_all) ((.e rfl (congrArg Value.bool (by first|(simp_all;done)|(simp_all;omega)|(simp;omega)|omega)) (.of rfl)):SubM _ _) (ho:=((.of [0,0,0] rfl):PickO _ _ _)) ((.of [0,1,2,3] rfl):SelR _ _ _)
  ·
   refine r_u rfl rfl (zd 1 ty32 rfl rfl (.take (.take (.take (.take .nil)))))<|r_u rfl rfl (zza (j:=0) 2 ty32 rfl rfl rfl (.take (.take (.take (.take .nil)))))<|zN rfl rfl (.c rfl (.c rfl .n)) ce46 (zIb (k1:=true) (u1:=u2) (v1:=v2) (q1:=q2) (k2:=true) (u2:=uc) (v2:=vc) (q2:=qc) (hl:=by first|rfl|assumption|omega)) (.c (j:=1) rfl (.c (j:=3) rfl .n))<|r_pv rfl rfl (zm rfl rfl)<|zS rfl rfl (za rfl) (fun h5=> ?_) (fun h5=> ?_)
   ·
    refine zb rfl rfl<|zb rfl rfl<|zb rfl rfl<|zb rfl rfl<|zb rfl rfl<|zb rfl rfl<|zb rfl rfl<|zb rfl rfl<|zb rfl rfl<|zb rfl rfl<|r_pv rfl rfl (zm rfl rfl)<|zj ?_
    exact zha () (show True from by first|trivial|omega|simp_all) ((.e rfl (congrArg Value.bool (by first|(simp_all;done)|(simp_all;omega)|(simp;omega)|omega)) (.of rfl)):SubM _ _) (ho:=((.of [0,0,0] rfl):PickO _ _ _)) ((.of [0,1,2,3] rfl):SelR _ _ _)
   ·
    refine r_u rfl rfl (zza (j:=0) 2 ty32 rfl rfl rfl (.take (.take (.take (.take .nil)))))<|r_u rfl rfl (zd 2 ty32 rfl rfl (.take (.take (.take (.take .nil)))))<|zN rfl rfl (.c rfl (.c rfl .n)) ce46 (zIb (k1:=true) (u1:=uc) (v1:=vc) (q1:=qc) (k2:=true) (u2:=u1) (v2:=v1) (q2:=q1) (hl:=by first|rfl|assumption|omega)) (.c (j:=3) rfl (.c (j:=0) rfl .n))<|r_pv rfl rfl (zAa rfl)<|zS rfl rfl (za rfl) (fun h6=> ?_) (fun h6=> ?_)
    ·
     refine r_u rfl rfl (zza (j:=0) 2 ty32 rfl rfl rfl (.take (.take (.take (.take .nil)))))<|r_u rfl rfl (zd 1 ty32 rfl rfl (.take (.take (.take (.take .nil)))))<|zN rfl rfl (.c rfl (.c rfl .n)) ce46 (zIb (k1:=true) (u1:=uc) (v1:=vc) (q1:=qc) (k2:=true) (u2:=u2) (v2:=v2) (q2:=q2) (hl:=by first|rfl|assumption|omega)) (.c (j:=3) rfl (.c (j:=1) rfl .n))<|r_pv rfl rfl (zAa rfl)<|r_pv rfl rfl (zm rfl rfl)<|r_pv rfl rfl (zm rfl rfl)<|zj ?_
     exact zha () (show True from by first|trivial|omega|simp_all) ((.e rfl (congrArg Value.bool (by first|(simp_all;done)|(simp_all;omega)|(simp;omega)|omega)) (.of rfl)):SubM _ _) (ho:=((.of [0,0,0] rfl):PickO _ _ _)) ((.of [0,1,2,3] rfl):SelR _ _ _)
    ·
     refine zb rfl rfl<|zb rfl rfl<|zb rfl rfl<|zb rfl rfl<|r_pv rfl rfl (zm rfl rfl)<|r_pv rfl rfl (zm rfl rfl)<|zj ?_
     exact zha () (show True from by first|trivial|omega|simp_all) ((.e rfl (congrArg Value.bool (by first|(simp_all;done)|(simp_all;omega)|(simp;omega)|omega)) (.of rfl)):SubM _ _) (ho:=((.of [0,0,0] rfl):PickO _ _ _)) ((.of [0,1,2,3] rfl):SelR _ _ _)
 ·
  rintro ⟨⟩ -
  try dsimp only [cw]
  refine zJ rfl (fun hd=> ?_) (fun hd=> ?_)
  ·
   have hd9:(Cr.pkd q1 qc q2):=Cr.pkd_prog.2 hd
   refine zh<|zc<|r_pv rfl rfl (zE zr32 rfl Tryz.underlying32 (.c sz30 (.c sz30 .n)) .n .n)<|zl 0 rfl rfl rfl rfl rfl sz32 rfl (.take (.take (.take (.take .nil)))) .z<|r_pv rfl rfl (ze rfl)<|zj<|zf<|zL<|zq<|zIa (qF false wz wz 0) (fun g _=>qF_none g) ?_
   exact zua Tryz.results47 (wz,wz) (fun _=>⟨rfl,rfl⟩) (zp 0 ty32 rfl rfl (.take (.take (.take (.take .nil))))) (zt rfl) (by rw [decide_eq_false (not_not_intro hd9)];rfl) (ho:=(.n:PickO _ _ _)) ((.e (j:=0) rfl (by rw [if_pos hd9,decide_eq_false (not_not_intro hd9)]) .n):SelR _ _ _)
  ·
   have hd9:¬(Cr.pkd q1 qc q2):=fun k=>hd (Cr.pkd_prog.1 k)
   have hne:=Cr.pkl_ne hd9
   refine zH<|zf<|zh<|zba (OW:=[]) (O:=[boxA b3 32 [.bool false,.slice none 0 0,.bool false,.slice none 0 0],boxA b2 32 [u2.b,u2.l,v2.b,v2.l],boxA b1 32 [u1.b,u1.l,v1.b,v1.l]]) 8 mixed (.then .ret) (by kernel_rfl)<|d_u 0 rfl rfl (by kernel_rfl) (by kernel_rfl) rfl rfl (zd 2 ty32 rfl rfl (.take (.take (.take (.take .nil)))))<|d_u 1 rfl rfl (by kernel_rfl) (by kernel_rfl) rfl rfl (zza (j:=0) 2 ty32 rfl rfl rfl (.take (.take (.take (.take .nil)))))<|d_u 2 rfl rfl (by kernel_rfl) (by kernel_rfl) rfl rfl (zza (j:=0) 2 ty32 rfl rfl rfl (.take (.take (.take (.take .nil)))))<|d_u 5 rfl rfl (by kernel_rfl) (by kernel_rfl) rfl rfl (zd 1 ty32 rfl rfl (.take (.take (.take (.take .nil)))))<|znc (m':=[(36,.agg #[u2.b,u2.l,v2.b,v2.l]),(33,.agg #[uc.b,uc.l,vc.b,vc.l]),(32,.agg #[uc.b,uc.l,vc.b,vc.l]),(31,.agg #[u1.b,u1.l,v1.b,v1.l]),(6,.bool false),(5,.pointer (some ⟨b3,0,none⟩)),(4,.pointer (some ⟨b2,0,none⟩)),(3,.pointer (some ⟨b1,0,none⟩))]) (R':=[qF true u1 v1 q1,qF true u2 v2 q2,atF bc 0 [uc.b,uc.l,vc.b,vc.l],qF true uc vc qc]) ((.of rfl):SubM _ _) (List.Perm.refl _) (List.Perm.refl _) ((.of [0,1,2,3] rfl):SelR _ _ _)<|zga (X:=Wd×Wd×Wd×Wd×Wd×Wd×Nat) (k':=0) (L':=(lb 9 511)) (fun (u3_1,u3_2,u4_1,u4_2,u6_1,u6_2,u7_1)=>([(7,.pointer (some ⟨u7_1,0,none⟩)),(6,.bool false),(5,.pointer (some ⟨b3,0,none⟩)),(4,.pointer (some ⟨b2,0,none⟩)),(3,.pointer (some ⟨b1,0,none⟩))],[boxA u7_1 32 (cw [u6_1,u6_2])],[boxA b3 32 [.bool false,.slice none 0 0,.bool false,.slice none 0 0],boxA b2 32 (cw [u2,v2]),boxA b1 32 (cw [u1,v1])],[qF true u6_1 u6_2 ((q1 - (qc+qc))+q2),qF true u4_1 u4_2 (q1 - (qc+qc)),qF true u3_1 u3_2 (qc+qc),qF true u1 v1 q1,qF true u2 v2 q2,atF bc 0 [uc.b,uc.l,vc.b,vc.l],qF true uc vc qc])) ?_ (fun hD0=> ?_)
   ·
    rintro ⟨u3_1,u3_2,u4_1,u4_2,u6_1,u6_2,u7_1⟩
    dsimp only [cw]
    refine zV (by kernel_rfl)<|zf<|zh<|zba (OW:=[]) (O:=[boxA u7_1 32 [u6_1.b,u6_1.l,u6_2.b,u6_2.l],boxA b3 32 [.bool false,.slice none 0 0,.bool false,.slice none 0 0],boxA b2 32 [u2.b,u2.l,v2.b,v2.l],boxA b1 32 [u1.b,u1.l,v1.b,v1.l]]) 11 mixed (.then .ret) (by kernel_rfl)<|d_u 0 rfl rfl (by kernel_rfl) (by kernel_rfl) rfl rfl (zd 3 ty32 rfl rfl (.take (.take (.take (.take .nil)))))<|d_u 1 rfl rfl (by kernel_rfl) (by kernel_rfl) rfl rfl (zd 2 ty32 rfl rfl (.take (.take (.take (.take .nil)))))<|d_u 3 rfl rfl (by kernel_rfl) (by kernel_rfl) rfl rfl (zd 0 ty32 rfl rfl (.take (.take (.take (.take .nil)))))<|d_u 4 rfl rfl (by kernel_rfl) (by kernel_rfl) rfl rfl (zd 0 ty32 rfl rfl (.take (.take (.take (.take .nil)))))<|znc (m':=[(43,.agg #[u6_1.b,u6_1.l,u6_2.b,u6_2.l]),(42,.agg #[u6_1.b,u6_1.l,u6_2.b,u6_2.l]),(40,.agg #[u2.b,u2.l,v2.b,v2.l]),(39,.agg #[u1.b,u1.l,v1.b,v1.l]),(6,.bool false),(5,.pointer (some ⟨b3,0,none⟩))]) (R':=[qF true u6_1 u6_2 ((q1 - (qc+qc))+q2),qF true u4_1 u4_2 (q1 - (qc+qc)),qF true u3_1 u3_2 (qc+qc),qF true u1 v1 q1,qF true u2 v2 q2,atF bc 0 [uc.b,uc.l,vc.b,vc.l],qF true uc vc qc]) ((.of rfl):SubM _ _) (List.Perm.refl _) (List.Perm.refl _) ((.of [0,1,2,3,4,5,6] rfl):SelR _ _ _)<|zga (X:=Wd×Wd×Wd×Wd×Wd×Wd×Nat) (k':=0) (L':=(lb 13 8191)) (fun (u2_1r2,u2_2r2,u5_1r2,u5_2r2,u6_1r2,u6_2r2,u10_1r2)=>([(8,.pointer (some ⟨u10_1r2,0,none⟩)),(6,.bool false),(5,.pointer (some ⟨b3,0,none⟩))],[boxA u10_1r2 32 (cw [u6_1r2,u6_2r2])],[boxA u7_1 32 (cw [u6_1,u6_2]),boxA b3 32 [.bool false,.slice none 0 0,.bool false,.slice none 0 0],boxA b2 32 (cw [u2,v2]),boxA b1 32 (cw [u1,v1])],[qF true u6_1r2 u6_2r2 ((q1 - q2) / (((q1 - (qc+qc))+q2)+((q1 - (qc+qc))+q2))),qF true u5_1r2 u5_2r2 (((q1 - (qc+qc))+q2)+((q1 - (qc+qc))+q2)),qF true u2_1r2 u2_2r2 (q1 - q2),qF true u6_1 u6_2 ((q1 - (qc+qc))+q2),qF true u4_1 u4_2 (q1 - (qc+qc)),qF true u3_1 u3_2 (qc+qc),qF true u1 v1 q1,qF true u2 v2 q2,atF bc 0 [uc.b,uc.l,vc.b,vc.l],qF true uc vc qc])) ?_ (fun hD0=> ?_)
    ·
     rintro ⟨u2_1r2,u2_2r2,u5_1r2,u5_2r2,u6_1r2,u6_2r2,u10_1r2⟩
     dsimp only [cw]
     refine zV (by kernel_rfl)<|zf<|zh<|zc<|r_u rfl rfl (zd 0 ty32 rfl rfl (.take (.take (.take (.take .nil)))))<|zl 2 rfl rfl rfl rfl rfl sz32 rfl (.take (.take (.take (.take .nil)))) (.s (.s .z))<|r_pv rfl rfl (ze rfl)<|zj<|zf<|zL ?_
     exact zua Tryz.results47 (u6_1r2,u6_2r2) (fun k=>absurd k hd9) (zp 2 ty32 rfl rfl (.take (.take (.take (.take .nil))))) (zt rfl) (by rw [decide_eq_true hd9]) (ho:=(.n:PickO _ _ _)) ((.e (j:=0) rfl (by rw [if_neg hd9,decide_eq_true hd9,Cr.pkv,Cr.pkl]) .n):SelR _ _ _)
    refine zga (X:=Wd×Wd×Wd×Wd×Wd×Wd×Nat) (k':=2) (L':=(lb 13 2047)) (fun (u2_1r2,u2_2r2,u5_1r2,u5_2r2,u6_1r2,u6_2r2,u10_1r2)=>([(8,.pointer (some ⟨u10_1r2,0,none⟩)),(47,.int .i64 0),(46,.agg (cw [u6_1r2,u6_2r2]).toArray),(6,.bool false),(5,.pointer (some ⟨b3,0,none⟩))],[boxA u10_1r2 32 [.bool false,.slice none 0 0,.bool false,.slice none 0 0]],[boxA u7_1 32 (cw [u6_1,u6_2]),boxA b3 32 [.bool false,.slice none 0 0,.bool false,.slice none 0 0],boxA b2 32 (cw [u2,v2]),boxA b1 32 (cw [u1,v1])],[qF true u6_1r2 u6_2r2 ((q1 - q2) / (((q1 - (qc+qc))+q2)+((q1 - (qc+qc))+q2))),qF true u5_1r2 u5_2r2 (((q1 - (qc+qc))+q2)+((q1 - (qc+qc))+q2)),qF true u2_1r2 u2_2r2 (q1 - q2),qF true u6_1 u6_2 ((q1 - (qc+qc))+q2),qF true u4_1 u4_2 (q1 - (qc+qc)),qF true u3_1 u3_2 (qc+qc),qF true u1 v1 q1,qF true u2 v2 q2,atF bc 0 [uc.b,uc.l,vc.b,vc.l],qF true uc vc qc])) ?_ (fun hD1=> ?_)
    ·
     rintro ⟨u2_1r2,u2_2r2,u5_1r2,u5_2r2,u6_1r2,u6_2r2,u10_1r2⟩
     dsimp only [cw]
     refine zD 11 (by kernel_rfl) ?_
     ·
      refine zy (by kernel_rfl) rfl rfl rfl rfl rfl sz32 rfl (.take (.take (.take (.take .nil))))<|d_pv 12 rfl rfl (by kernel_rfl) (by kernel_rfl) rfl rfl (ze rfl) ?_
      exact zO (hD0 (u2_1r2,u2_2r2,u5_1r2,u5_2r2,u6_1r2,u6_2r2,u10_1r2)) (by kernel_rfl) ((.of rfl):SubM _ _) .rfl .rfl ((.of [0,1,2,3,4,5,6,7,8,9] rfl):SelR _ _ _)
    refine zga (X:=Wd×Wd×Wd×Wd×Wd×Wd) (k':=3) (L':=(lb 13 1023)) (fun (u2_1r2,u2_2r2,u5_1r2,u5_2r2,u6_1r2,u6_2r2)=>([(47,.int .i64 0),(46,.agg (cw [u6_1r2,u6_2r2]).toArray),(6,.bool false),(5,.pointer (some ⟨b3,0,none⟩))],[],[boxA u7_1 32 (cw [u6_1,u6_2]),boxA b3 32 [.bool false,.slice none 0 0,.bool false,.slice none 0 0],boxA b2 32 (cw [u2,v2]),boxA b1 32 (cw [u1,v1])],[qF true u6_1r2 u6_2r2 ((q1 - q2) / (((q1 - (qc+qc))+q2)+((q1 - (qc+qc))+q2))),qF true u5_1r2 u5_2r2 (((q1 - (qc+qc))+q2)+((q1 - (qc+qc))+q2)),qF true u2_1r2 u2_2r2 (q1 - q2),qF true u6_1 u6_2 ((q1 - (qc+qc))+q2),qF true u4_1 u4_2 (q1 - (qc+qc)),qF true u3_1 u3_2 (qc+qc),qF true u1 v1 q1,qF true u2 v2 q2,atF bc 0 [uc.b,uc.l,vc.b,vc.l],qF true uc vc qc])) ?_ (fun hD2=> ?_)
    ·
     rintro ⟨u2_1r2,u2_2r2,u5_1r2,u5_2r2,u6_1r2,u6_2r2⟩
     dsimp only [cw]
     refine zD 10 (by kernel_rfl) ?_
     ·
      refine zBa rfl rfl rfl rfl (zu zr32 rfl) (fun u10_1r2 _=> ?_)
      exact zO (hD1 (u2_1r2,u2_2r2,u5_1r2,u5_2r2,u6_1r2,u6_2r2,u10_1r2)) (by kernel_rfl) ((.of rfl):SubM _ _) .rfl .rfl ((.of [0,1,2,3,4,5,6,7,8,9] rfl):SelR _ _ _)
    refine zga (X:=Wd×Wd×Wd×Wd×Nat) (k':=6) (L':=(lb 13 1087)) (fun (u2_1r2,u2_2r2,u5_1r2,u5_2r2,u10_1r2)=>([(8,.pointer (some ⟨u10_1r2,0,none⟩)),(44,.agg (cw [u5_1r2,u5_2r2]).toArray),(41,.agg (cw [u2_1r2,u2_2r2]).toArray),(6,.bool false),(5,.pointer (some ⟨b3,0,none⟩))],[boxA u10_1r2 32 [.bool false,.slice none 0 0,.bool false,.slice none 0 0]],[boxA u7_1 32 (cw [u6_1,u6_2]),boxA b3 32 [.bool false,.slice none 0 0,.bool false,.slice none 0 0],boxA b2 32 (cw [u2,v2]),boxA b1 32 (cw [u1,v1])],[qF true u5_1r2 u5_2r2 (((q1 - (qc+qc))+q2)+((q1 - (qc+qc))+q2)),qF true u2_1r2 u2_2r2 (q1 - q2),qF true u6_1 u6_2 ((q1 - (qc+qc))+q2),qF true u4_1 u4_2 (q1 - (qc+qc)),qF true u3_1 u3_2 (qc+qc),qF true u1 v1 q1,qF true u2 v2 q2,atF bc 0 [uc.b,uc.l,vc.b,vc.l],qF true uc vc qc])) ?_ (fun hD3=> ?_)
    ·
     rintro ⟨u2_1r2,u2_2r2,u5_1r2,u5_2r2,u10_1r2⟩
     dsimp only [cw]
     refine zD 6 (by kernel_rfl) ?_
     ·
      refine zv rfl rfl rfl rfl (.c rfl (.c rfl .n)) ce50 (zib (k1:=true) (u1:=u2_1r2) (v1:=u2_2r2) (q1:=q1 - q2) (k2:=true) (u2:=u5_1r2) (v2:=u5_2r2) (q2:=((q1 - (qc+qc))+q2)+((q1 - (qc+qc))+q2)) (hl:=by first|rfl|assumption|omega) (hy:=by exact hne)) (.c (j:=1) rfl (.c (j:=0) rfl .n)) ?_
      rintro ⟨u6_1r2,u6_2r2⟩ -
      dsimp only [List.append_eq,List.nil_append,List.cons_append]
      refine d_pv 7 rfl rfl (by kernel_rfl) (by kernel_rfl) rfl rfl (za rfl)<|d_pv 8 rfl rfl (by kernel_rfl) (by kernel_rfl) rfl rfl (zo rfl rfl)<|d_pv 9 rfl rfl (by kernel_rfl) (by kernel_rfl) rfl rfl (zo rfl rfl) ?_
      exact zO (hD1 (u2_1r2,u2_2r2,u5_1r2,u5_2r2,u6_1r2,u6_2r2,u10_1r2)) (by kernel_rfl) ((.of rfl):SubM _ _) .rfl .rfl ((.of [0,1,2,3,4,5,6,7,8,9] rfl):SelR _ _ _)
    refine zga (X:=Wd×Wd×Wd×Wd) (k':=7) (L':=(lb 13 63)) (fun (u2_1r2,u2_2r2,u5_1r2,u5_2r2)=>([(44,.agg (cw [u5_1r2,u5_2r2]).toArray),(41,.agg (cw [u2_1r2,u2_2r2]).toArray),(6,.bool false),(5,.pointer (some ⟨b3,0,none⟩))],[],[boxA u7_1 32 (cw [u6_1,u6_2]),boxA b3 32 [.bool false,.slice none 0 0,.bool false,.slice none 0 0],boxA b2 32 (cw [u2,v2]),boxA b1 32 (cw [u1,v1])],[qF true u5_1r2 u5_2r2 (((q1 - (qc+qc))+q2)+((q1 - (qc+qc))+q2)),qF true u2_1r2 u2_2r2 (q1 - q2),qF true u6_1 u6_2 ((q1 - (qc+qc))+q2),qF true u4_1 u4_2 (q1 - (qc+qc)),qF true u3_1 u3_2 (qc+qc),qF true u1 v1 q1,qF true u2 v2 q2,atF bc 0 [uc.b,uc.l,vc.b,vc.l],qF true uc vc qc])) ?_ (fun hD4=> ?_)
    ·
     rintro ⟨u2_1r2,u2_2r2,u5_1r2,u5_2r2⟩
     dsimp only [cw]
     refine zlb 6 10 (by kernel_rfl) ?_ ?_
     ·
      refine zv rfl rfl rfl rfl (.c rfl (.c rfl .n)) ce50 (zib (k1:=true) (u1:=u2_1r2) (v1:=u2_2r2) (q1:=q1 - q2) (k2:=true) (u2:=u5_1r2) (v2:=u5_2r2) (q2:=((q1 - (qc+qc))+q2)+((q1 - (qc+qc))+q2)) (hl:=by first|rfl|assumption|omega) (hy:=by exact hne)) (.c (j:=1) rfl (.c (j:=0) rfl .n)) ?_
      rintro ⟨u6_1r2,u6_2r2⟩ -
      dsimp only [List.append_eq,List.nil_append,List.cons_append]
      refine d_pv 7 rfl rfl (by kernel_rfl) (by kernel_rfl) rfl rfl (za rfl)<|d_pv 8 rfl rfl (by kernel_rfl) (by kernel_rfl) rfl rfl (zo rfl rfl)<|d_pv 9 rfl rfl (by kernel_rfl) (by kernel_rfl) rfl rfl (zo rfl rfl) ?_
      exact zO (hD2 (u2_1r2,u2_2r2,u5_1r2,u5_2r2,u6_1r2,u6_2r2)) (by kernel_rfl) ((.of rfl):SubM _ _) .rfl .rfl ((.of [0,1,2,3,4,5,6,7,8,9] rfl):SelR _ _ _)
     ·
      refine zBa rfl rfl rfl rfl (zu zr32 rfl) (fun u10_1r2 _=> ?_)
      exact zO (hD3 (u2_1r2,u2_2r2,u5_1r2,u5_2r2,u10_1r2)) (by kernel_rfl) ((.of rfl):SubM _ _) .rfl .rfl ((.of [0,1,2,3,4,5,6,7,8] rfl):SelR _ _ _)
    refine zga (X:=Wd×Wd×Nat) (k':=7) (L':=(lb 13 1055)) (fun (u2_1r2,u2_2r2,u10_1r2)=>([(8,.pointer (some ⟨u10_1r2,0,none⟩)),(41,.agg (cw [u2_1r2,u2_2r2]).toArray),(43,.agg (cw [u6_1,u6_2]).toArray),(42,.agg (cw [u6_1,u6_2]).toArray),(6,.bool false),(5,.pointer (some ⟨b3,0,none⟩))],[boxA u10_1r2 32 [.bool false,.slice none 0 0,.bool false,.slice none 0 0]],[boxA u7_1 32 (cw [u6_1,u6_2]),boxA b3 32 [.bool false,.slice none 0 0,.bool false,.slice none 0 0],boxA b2 32 (cw [u2,v2]),boxA b1 32 (cw [u1,v1])],[qF true u2_1r2 u2_2r2 (q1 - q2),qF true u6_1 u6_2 ((q1 - (qc+qc))+q2),qF true u4_1 u4_2 (q1 - (qc+qc)),qF true u3_1 u3_2 (qc+qc),qF true u1 v1 q1,qF true u2 v2 q2,atF bc 0 [uc.b,uc.l,vc.b,vc.l],qF true uc vc qc])) ?_ (fun hD5=> ?_)
    ·
     rintro ⟨u2_1r2,u2_2r2,u10_1r2⟩
     dsimp only [cw]
     refine zD 5 (by kernel_rfl) ?_
     ·
      refine zv rfl rfl rfl rfl (.c rfl (.c rfl .n)) ce48 (zzb (k1:=true) (u1:=u6_1) (v1:=u6_2) (q1:=(q1 - (qc+qc))+q2) (k2:=true) (u2:=u6_1) (v2:=u6_2) (q2:=(q1 - (qc+qc))+q2) (hl:=by first|rfl|assumption|omega)) (.c (j:=1) rfl (.c (j:=1) rfl .n)) ?_
      rintro ⟨u5_1r2,u5_2r2⟩ -
      dsimp only [List.append_eq,List.nil_append,List.cons_append]
      exact zO (hD3 (u2_1r2,u2_2r2,u5_1r2,u5_2r2,u10_1r2)) (by kernel_rfl) ((.of rfl):SubM _ _) .rfl .rfl ((.of [0,1,2,3,4,5,6,7,8] rfl):SelR _ _ _)
    refine zga (X:=Wd×Wd) (k':=8) (L':=(lb 13 31)) (fun (u2_1r2,u2_2r2)=>([(41,.agg (cw [u2_1r2,u2_2r2]).toArray),(43,.agg (cw [u6_1,u6_2]).toArray),(42,.agg (cw [u6_1,u6_2]).toArray),(6,.bool false),(5,.pointer (some ⟨b3,0,none⟩))],[],[boxA u7_1 32 (cw [u6_1,u6_2]),boxA b3 32 [.bool false,.slice none 0 0,.bool false,.slice none 0 0],boxA b2 32 (cw [u2,v2]),boxA b1 32 (cw [u1,v1])],[qF true u2_1r2 u2_2r2 (q1 - q2),qF true u6_1 u6_2 ((q1 - (qc+qc))+q2),qF true u4_1 u4_2 (q1 - (qc+qc)),qF true u3_1 u3_2 (qc+qc),qF true u1 v1 q1,qF true u2 v2 q2,atF bc 0 [uc.b,uc.l,vc.b,vc.l],qF true uc vc qc])) ?_ (fun hD6=> ?_)
    ·
     rintro ⟨u2_1r2,u2_2r2⟩
     dsimp only [cw]
     refine zlb 5 10 (by kernel_rfl) ?_ ?_
     ·
      refine zv rfl rfl rfl rfl (.c rfl (.c rfl .n)) ce48 (zzb (k1:=true) (u1:=u6_1) (v1:=u6_2) (q1:=(q1 - (qc+qc))+q2) (k2:=true) (u2:=u6_1) (v2:=u6_2) (q2:=(q1 - (qc+qc))+q2) (hl:=by first|rfl|assumption|omega)) (.c (j:=1) rfl (.c (j:=1) rfl .n)) ?_
      rintro ⟨u5_1r2,u5_2r2⟩ -
      dsimp only [List.append_eq,List.nil_append,List.cons_append]
      exact zO (hD4 (u2_1r2,u2_2r2,u5_1r2,u5_2r2)) (by kernel_rfl) ((.of rfl):SubM _ _) .rfl .rfl ((.of [0,1,2,3,4,5,6,7,8] rfl):SelR _ _ _)
     ·
      refine zBa rfl rfl rfl rfl (zu zr32 rfl) (fun u10_1r2 _=> ?_)
      exact zO (hD5 (u2_1r2,u2_2r2,u10_1r2)) (by kernel_rfl) ((.of rfl):SubM _ _) .rfl .rfl ((.of [0,1,2,3,4,5,6,7] rfl):SelR _ _ _)
    refine zga (X:=Nat) (k':=8) (L':=(lb 13 1051)) (fun u10_1r2=>([(8,.pointer (some ⟨u10_1r2,0,none⟩)),(43,.agg (cw [u6_1,u6_2]).toArray),(42,.agg (cw [u6_1,u6_2]).toArray),(40,.agg (cw [u2,v2]).toArray),(39,.agg (cw [u1,v1]).toArray),(6,.bool false),(5,.pointer (some ⟨b3,0,none⟩))],[boxA u10_1r2 32 [.bool false,.slice none 0 0,.bool false,.slice none 0 0]],[boxA u7_1 32 (cw [u6_1,u6_2]),boxA b3 32 [.bool false,.slice none 0 0,.bool false,.slice none 0 0],boxA b2 32 (cw [u2,v2]),boxA b1 32 (cw [u1,v1])],[qF true u6_1 u6_2 ((q1 - (qc+qc))+q2),qF true u4_1 u4_2 (q1 - (qc+qc)),qF true u3_1 u3_2 (qc+qc),qF true u1 v1 q1,qF true u2 v2 q2,atF bc 0 [uc.b,uc.l,vc.b,vc.l],qF true uc vc qc])) ?_ (fun hD7=> ?_)
    ·
     rintro u10_1r2
     dsimp only [cw]
     refine zD 2 (by kernel_rfl) ?_
     ·
      refine zv rfl rfl rfl rfl (.c rfl (.c rfl .n)) ce49 (zwc (k1:=true) (u1:=u1) (v1:=v1) (q1:=q1) (k2:=true) (u2:=u2) (v2:=v2) (q2:=q2) (hl:=by first|rfl|assumption|omega)) (.c (j:=3) rfl (.c (j:=4) rfl .n)) ?_
      rintro ⟨u2_1r2,u2_2r2⟩ -
      dsimp only [List.append_eq,List.nil_append,List.cons_append]
      exact zO (hD5 (u2_1r2,u2_2r2,u10_1r2)) (by kernel_rfl) ((.of rfl):SubM _ _) .rfl .rfl ((.of [0,1,2,3,4,5,6,7] rfl):SelR _ _ _)
    refine zlb 2 10 (by kernel_rfl) ?_ ?_
    ·
     refine zv rfl rfl rfl rfl (.c rfl (.c rfl .n)) ce49 (zwc (k1:=true) (u1:=u1) (v1:=v1) (q1:=q1) (k2:=true) (u2:=u2) (v2:=v2) (q2:=q2) (hl:=by first|rfl|assumption|omega)) (.c (j:=3) rfl (.c (j:=4) rfl .n)) ?_
     rintro ⟨u2_1r2,u2_2r2⟩ -
     dsimp only [List.append_eq,List.nil_append,List.cons_append]
     exact zO (hD6 (u2_1r2,u2_2r2)) (by kernel_rfl) ((.of rfl):SubM _ _) .rfl .rfl ((.of [0,1,2,3,4,5,6,7] rfl):SelR _ _ _)
    ·
     refine zBa rfl rfl rfl rfl (zu zr32 rfl) (fun u10_1r2 _=> ?_)
     exact zO (hD7 u10_1r2) (by kernel_rfl) ((.of rfl):SubM _ _) .rfl .rfl ((.of [0,1,2,3,4,5,6] rfl):SelR _ _ _)
   refine zga (X:=Wd×Wd×Wd×Wd×Wd×Wd×Nat) (k':=1) (L':=(lb 9 255)) (fun (u3_1,u3_2,u4_1,u4_2,u6_1,u6_2,u7_1)=>([(7,.pointer (some ⟨u7_1,0,none⟩)),(37,.agg (cw [u6_1,u6_2]).toArray),(6,.bool false),(5,.pointer (some ⟨b3,0,none⟩)),(4,.pointer (some ⟨b2,0,none⟩)),(3,.pointer (some ⟨b1,0,none⟩))],[boxA u7_1 32 [.bool false,.slice none 0 0,.bool false,.slice none 0 0]],[boxA b3 32 [.bool false,.slice none 0 0,.bool false,.slice none 0 0],boxA b2 32 (cw [u2,v2]),boxA b1 32 (cw [u1,v1])],[qF true u6_1 u6_2 ((q1 - (qc+qc))+q2),qF true u4_1 u4_2 (q1 - (qc+qc)),qF true u3_1 u3_2 (qc+qc),qF true u1 v1 q1,qF true u2 v2 q2,atF bc 0 [uc.b,uc.l,vc.b,vc.l],qF true uc vc qc])) ?_ (fun hD1=> ?_)
   ·
    rintro ⟨u3_1,u3_2,u4_1,u4_2,u6_1,u6_2,u7_1⟩
    dsimp only [cw]
    refine zD 8 (by kernel_rfl) ?_
    ·
     refine zy (by kernel_rfl) rfl rfl rfl rfl rfl sz32 rfl (.take (.take (.take (.take .nil)))) ?_
     exact zO (hD0 (u3_1,u3_2,u4_1,u4_2,u6_1,u6_2,u7_1)) (by kernel_rfl) ((.of rfl):SubM _ _) .rfl .rfl ((.of [0,1,2,3,4,5,6] rfl):SelR _ _ _)
   refine zga (X:=Wd×Wd×Wd×Wd×Wd×Wd) (k':=2) (L':=(lb 9 127)) (fun (u3_1,u3_2,u4_1,u4_2,u6_1,u6_2)=>([(37,.agg (cw [u6_1,u6_2]).toArray),(6,.bool false),(5,.pointer (some ⟨b3,0,none⟩)),(4,.pointer (some ⟨b2,0,none⟩)),(3,.pointer (some ⟨b1,0,none⟩))],[],[boxA b3 32 [.bool false,.slice none 0 0,.bool false,.slice none 0 0],boxA b2 32 (cw [u2,v2]),boxA b1 32 (cw [u1,v1])],[qF true u6_1 u6_2 ((q1 - (qc+qc))+q2),qF true u4_1 u4_2 (q1 - (qc+qc)),qF true u3_1 u3_2 (qc+qc),qF true u1 v1 q1,qF true u2 v2 q2,atF bc 0 [uc.b,uc.l,vc.b,vc.l],qF true uc vc qc])) ?_ (fun hD2=> ?_)
   ·
    rintro ⟨u3_1,u3_2,u4_1,u4_2,u6_1,u6_2⟩
    dsimp only [cw]
    refine zD 7 (by kernel_rfl) ?_
    ·
     refine zBa rfl rfl rfl rfl (zu zr32 rfl) (fun u7_1 _=> ?_)
     exact zO (hD1 (u3_1,u3_2,u4_1,u4_2,u6_1,u6_2,u7_1)) (by kernel_rfl) ((.of rfl):SubM _ _) .rfl .rfl ((.of [0,1,2,3,4,5,6] rfl):SelR _ _ _)
   refine zga (X:=Wd×Wd×Wd×Wd×Nat) (k':=2) (L':=(lb 9 191)) (fun (u3_1,u3_2,u4_1,u4_2,u7_1)=>([(7,.pointer (some ⟨u7_1,0,none⟩)),(35,.agg (cw [u4_1,u4_2]).toArray),(36,.agg (cw [u2,v2]).toArray),(6,.bool false),(5,.pointer (some ⟨b3,0,none⟩)),(4,.pointer (some ⟨b2,0,none⟩)),(3,.pointer (some ⟨b1,0,none⟩))],[boxA u7_1 32 [.bool false,.slice none 0 0,.bool false,.slice none 0 0]],[boxA b3 32 [.bool false,.slice none 0 0,.bool false,.slice none 0 0],boxA b2 32 (cw [u2,v2]),boxA b1 32 (cw [u1,v1])],[qF true u4_1 u4_2 (q1 - (qc+qc)),qF true u3_1 u3_2 (qc+qc),qF true u1 v1 q1,qF true u2 v2 q2,atF bc 0 [uc.b,uc.l,vc.b,vc.l],qF true uc vc qc])) ?_ (fun hD3=> ?_)
   ·
    rintro ⟨u3_1,u3_2,u4_1,u4_2,u7_1⟩
    dsimp only [cw]
    refine zD 6 (by kernel_rfl) ?_
    ·
     refine zv rfl rfl rfl rfl (.c rfl (.c rfl .n)) ce48 (zzb (k1:=true) (u1:=u4_1) (v1:=u4_2) (q1:=q1 - (qc+qc)) (k2:=true) (u2:=u2) (v2:=v2) (q2:=q2) (hl:=by first|rfl|assumption|omega)) (.c (j:=0) rfl (.c (j:=3) rfl .n)) ?_
     rintro ⟨u6_1,u6_2⟩ -
     dsimp only [List.append_eq,List.nil_append,List.cons_append]
     exact zO (hD1 (u3_1,u3_2,u4_1,u4_2,u6_1,u6_2,u7_1)) (by kernel_rfl) ((.of rfl):SubM _ _) .rfl .rfl ((.of [0,1,2,3,4,5,6] rfl):SelR _ _ _)
   refine zga (X:=Wd×Wd×Wd×Wd) (k':=3) (L':=(lb 9 63)) (fun (u3_1,u3_2,u4_1,u4_2)=>([(35,.agg (cw [u4_1,u4_2]).toArray),(36,.agg (cw [u2,v2]).toArray),(6,.bool false),(5,.pointer (some ⟨b3,0,none⟩)),(4,.pointer (some ⟨b2,0,none⟩)),(3,.pointer (some ⟨b1,0,none⟩))],[],[boxA b3 32 [.bool false,.slice none 0 0,.bool false,.slice none 0 0],boxA b2 32 (cw [u2,v2]),boxA b1 32 (cw [u1,v1])],[qF true u4_1 u4_2 (q1 - (qc+qc)),qF true u3_1 u3_2 (qc+qc),qF true u1 v1 q1,qF true u2 v2 q2,atF bc 0 [uc.b,uc.l,vc.b,vc.l],qF true uc vc qc])) ?_ (fun hD4=> ?_)
   ·
    rintro ⟨u3_1,u3_2,u4_1,u4_2⟩
    dsimp only [cw]
    refine zlb 6 7 (by kernel_rfl) ?_ ?_
    ·
     refine zv rfl rfl rfl rfl (.c rfl (.c rfl .n)) ce48 (zzb (k1:=true) (u1:=u4_1) (v1:=u4_2) (q1:=q1 - (qc+qc)) (k2:=true) (u2:=u2) (v2:=v2) (q2:=q2) (hl:=by first|rfl|assumption|omega)) (.c (j:=0) rfl (.c (j:=3) rfl .n)) ?_
     rintro ⟨u6_1,u6_2⟩ -
     dsimp only [List.append_eq,List.nil_append,List.cons_append]
     exact zO (hD2 (u3_1,u3_2,u4_1,u4_2,u6_1,u6_2)) (by kernel_rfl) ((.of rfl):SubM _ _) .rfl .rfl ((.of [0,1,2,3,4,5,6] rfl):SelR _ _ _)
    ·
     refine zBa rfl rfl rfl rfl (zu zr32 rfl) (fun u7_1 _=> ?_)
     exact zO (hD3 (u3_1,u3_2,u4_1,u4_2,u7_1)) (by kernel_rfl) ((.of rfl):SubM _ _) .rfl .rfl ((.of [0,1,2,3,4,5] rfl):SelR _ _ _)
   refine zga (X:=Wd×Wd×Nat) (k':=3) (L':=(lb 9 175)) (fun (u3_1,u3_2,u7_1)=>([(7,.pointer (some ⟨u7_1,0,none⟩)),(34,.agg (cw [u3_1,u3_2]).toArray),(36,.agg (cw [u2,v2]).toArray),(31,.agg (cw [u1,v1]).toArray),(6,.bool false),(5,.pointer (some ⟨b3,0,none⟩)),(4,.pointer (some ⟨b2,0,none⟩)),(3,.pointer (some ⟨b1,0,none⟩))],[boxA u7_1 32 [.bool false,.slice none 0 0,.bool false,.slice none 0 0]],[boxA b3 32 [.bool false,.slice none 0 0,.bool false,.slice none 0 0],boxA b2 32 (cw [u2,v2]),boxA b1 32 (cw [u1,v1])],[qF true u3_1 u3_2 (qc+qc),qF true u1 v1 q1,qF true u2 v2 q2,atF bc 0 [uc.b,uc.l,vc.b,vc.l],qF true uc vc qc])) ?_ (fun hD5=> ?_)
   ·
    rintro ⟨u3_1,u3_2,u7_1⟩
    dsimp only [cw]
    refine zD 4 (by kernel_rfl) ?_
    ·
     refine zv rfl rfl rfl rfl (.c rfl (.c rfl .n)) ce49 (zwc (k1:=true) (u1:=u1) (v1:=v1) (q1:=q1) (k2:=true) (u2:=u3_1) (v2:=u3_2) (q2:=qc+qc) (hl:=by first|rfl|assumption|omega)) (.c (j:=1) rfl (.c (j:=0) rfl .n)) ?_
     rintro ⟨u4_1,u4_2⟩ -
     dsimp only [List.append_eq,List.nil_append,List.cons_append]
     exact zO (hD3 (u3_1,u3_2,u4_1,u4_2,u7_1)) (by kernel_rfl) ((.of rfl):SubM _ _) .rfl .rfl ((.of [0,1,2,3,4,5] rfl):SelR _ _ _)
   refine zga (X:=Wd×Wd) (k':=4) (L':=(lb 9 47)) (fun (u3_1,u3_2)=>([(34,.agg (cw [u3_1,u3_2]).toArray),(36,.agg (cw [u2,v2]).toArray),(31,.agg (cw [u1,v1]).toArray),(6,.bool false),(5,.pointer (some ⟨b3,0,none⟩)),(4,.pointer (some ⟨b2,0,none⟩)),(3,.pointer (some ⟨b1,0,none⟩))],[],[boxA b3 32 [.bool false,.slice none 0 0,.bool false,.slice none 0 0],boxA b2 32 (cw [u2,v2]),boxA b1 32 (cw [u1,v1])],[qF true u3_1 u3_2 (qc+qc),qF true u1 v1 q1,qF true u2 v2 q2,atF bc 0 [uc.b,uc.l,vc.b,vc.l],qF true uc vc qc])) ?_ (fun hD6=> ?_)
   ·
    rintro ⟨u3_1,u3_2⟩
    dsimp only [cw]
    refine zlb 4 7 (by kernel_rfl) ?_ ?_
    ·
     refine zv rfl rfl rfl rfl (.c rfl (.c rfl .n)) ce49 (zwc (k1:=true) (u1:=u1) (v1:=v1) (q1:=q1) (k2:=true) (u2:=u3_1) (v2:=u3_2) (q2:=qc+qc) (hl:=by first|rfl|assumption|omega)) (.c (j:=1) rfl (.c (j:=0) rfl .n)) ?_
     rintro ⟨u4_1,u4_2⟩ -
     dsimp only [List.append_eq,List.nil_append,List.cons_append]
     exact zO (hD4 (u3_1,u3_2,u4_1,u4_2)) (by kernel_rfl) ((.of rfl):SubM _ _) .rfl .rfl ((.of [0,1,2,3,4,5] rfl):SelR _ _ _)
    ·
     refine zBa rfl rfl rfl rfl (zu zr32 rfl) (fun u7_1 _=> ?_)
     exact zO (hD5 (u3_1,u3_2,u7_1)) (by kernel_rfl) ((.of rfl):SubM _ _) .rfl .rfl ((.of [0,1,2,3,4] rfl):SelR _ _ _)
   refine zga (X:=Nat) (k':=4) (L':=(lb 9 167)) (fun u7_1=>([(7,.pointer (some ⟨u7_1,0,none⟩)),(36,.agg (cw [u2,v2]).toArray),(33,.agg (cw [uc,vc]).toArray),(32,.agg (cw [uc,vc]).toArray),(31,.agg (cw [u1,v1]).toArray),(6,.bool false),(5,.pointer (some ⟨b3,0,none⟩)),(4,.pointer (some ⟨b2,0,none⟩)),(3,.pointer (some ⟨b1,0,none⟩))],[boxA u7_1 32 [.bool false,.slice none 0 0,.bool false,.slice none 0 0]],[boxA b3 32 [.bool false,.slice none 0 0,.bool false,.slice none 0 0],boxA b2 32 (cw [u2,v2]),boxA b1 32 (cw [u1,v1])],[qF true u1 v1 q1,qF true u2 v2 q2,atF bc 0 [uc.b,uc.l,vc.b,vc.l],qF true uc vc qc])) ?_ (fun hD7=> ?_)
   ·
    rintro u7_1
    dsimp only [cw]
    refine zD 3 (by kernel_rfl) ?_
    ·
     refine zv rfl rfl rfl rfl (.c rfl (.c rfl .n)) ce48 (zzb (k1:=true) (u1:=uc) (v1:=vc) (q1:=qc) (k2:=true) (u2:=uc) (v2:=vc) (q2:=qc) (hl:=by first|rfl|assumption|omega)) (.c (j:=3) rfl (.c (j:=3) rfl .n)) ?_
     rintro ⟨u3_1,u3_2⟩ -
     dsimp only [List.append_eq,List.nil_append,List.cons_append]
     exact zO (hD5 (u3_1,u3_2,u7_1)) (by kernel_rfl) ((.of rfl):SubM _ _) .rfl .rfl ((.of [0,1,2,3,4] rfl):SelR _ _ _)
   refine zlb 3 7 (by kernel_rfl) ?_ ?_
   ·
    refine zv rfl rfl rfl rfl (.c rfl (.c rfl .n)) ce48 (zzb (k1:=true) (u1:=uc) (v1:=vc) (q1:=qc) (k2:=true) (u2:=uc) (v2:=vc) (q2:=qc) (hl:=by first|rfl|assumption|omega)) (.c (j:=3) rfl (.c (j:=3) rfl .n)) ?_
    rintro ⟨u3_1,u3_2⟩ -
    dsimp only [List.append_eq,List.nil_append,List.cons_append]
    exact zO (hD6 (u3_1,u3_2)) (by kernel_rfl) ((.of rfl):SubM _ _) .rfl .rfl ((.of [0,1,2,3,4] rfl):SelR _ _ _)
   ·
    refine zBa rfl rfl rfl rfl (zu zr32 rfl) (fun u7_1 _=> ?_)
    exact zO (hD7 u7_1) (by kernel_rfl) ((.of rfl):SubM _ _) .rfl .rfl ((.of [0,1,2,3] rfl):SelR _ _ _)
theorem zec {u1:Wd} {v1:Wd} {q1:Rat} {u2:Wd} {v2:Wd} {q2:Rat} {u3:Wd} {v3:Wd} {q3:Rat} (hq1:Big.hq q1≤6) (hq2:Big.hq q2≤6) (hq3:Big.hq q3≤6):Con Tryz.prog 51 [.agg #[u1.b,u1.l,v1.b,v1.l],.agg #[u2.b,u2.l,v2.b,v2.l],.agg #[u3.b,u3.l,v3.b,v3.l]] [] [qF true u1 v1 q1,qF true u2 v2 q2,qF true u3 v3 q3] (Y:=Wd×Wd) (fun y=>True) (fun y=> .tuple #[.agg #[y.1.b,y.1.l,y.2.b,y.2.l],.int .i64 (if (Cr.pkd q1 q2 q3) then 13 else 0)]) (fun y=>[]) (fun y=>[qF (decide (¬(Cr.pkd q1 q2 q3))) y.1 y.2 (if (Cr.pkd q1 q2 q3) then 0 else Cr.pkv q1 q2 q3)]):=by
 refine zr Tryz.func51 rfl rfl rfl (fun c=> ?_)
 show RunC _ _ _ _ _ [(0,.agg #[u1.b,u1.l,v1.b,v1.l]),(1,.agg #[u2.b,u2.l,v2.b,v2.l]),(2,.agg #[u3.b,u3.l,v3.b,v3.l])] [] [qF true u1 v1 q1,qF true u2 v2 q2,qF true u3 v3 q3]
 have b1:=Big.hq_add q1 q3
 have b2:=Big.hq_add q2 q2
 have b3:=Big.hq_sub (q1+q3) (q2+q2)
 have b4:=Big.hq_sub q1 q3
 have b5:=Big.hq_add (Cr.pkl q1 q2 q3) (Cr.pkl q1 q2 q3)
 have b6:Big.hq (Cr.pkl q1 q2 q3)=Big.hq ((q1+q3) - (q2+q2)):=by rw [Cr.pkl_ref]
 refine zh<|zc<|zK rfl rfl (zP rfl rfl) (fun b1=> ?_)
 refine zK rfl rfl (zP rfl rfl) (fun b2=> ?_)
 refine zK rfl rfl (zP rfl rfl) (fun b3=> ?_)
 refine zK rfl rfl (zu zr32 rfl) (fun b4=> ?_)
 refine r_pv rfl rfl (ze rfl)<|zj<|zf<|zh<|zba (OW:=[]) (O:=[boxA b4 32 [.bool false,.slice none 0 0,.bool false,.slice none 0 0],boxA b3 32 [u3.b,u3.l,v3.b,v3.l],boxA b2 32 [u2.b,u2.l,v2.b,v2.l],boxA b1 32 [u1.b,u1.l,v1.b,v1.l]]) 100000 mixed (.then .ret) (by kernel_rfl)<|d_u 0 rfl rfl (by kernel_rfl) (by kernel_rfl) rfl rfl (zd 3 ty32 rfl rfl (.take (.take (.take (.take .nil)))))<|d_u 1 rfl rfl (by kernel_rfl) (by kernel_rfl) rfl rfl (zd 2 ty32 rfl rfl (.take (.take (.take (.take .nil)))))<|d_u 3 rfl rfl (by kernel_rfl) (by kernel_rfl) rfl rfl (zd 1 ty32 rfl rfl (.take (.take (.take (.take .nil)))))<|d_u 4 rfl rfl (by kernel_rfl) (by kernel_rfl) rfl rfl (zd 2 ty32 rfl rfl (.take (.take (.take (.take .nil)))))<|zD 2 (by kernel_rfl) (zQa rfl rfl rfl rfl (.c rfl (.c rfl .n)) ce14 (zZa (k1:=true) (u1:=u1) (v1:=v1) (q1:=q1) (k2:=true) (u2:=u2) (v2:=v2) (q2:=q2) (hl:=by first|rfl|assumption|omega)) (.c (j:=0) rfl (.c (j:=1) rfl .n)) ?_)
 refine zD 5 (by kernel_rfl) (zQa rfl rfl rfl rfl (.c rfl (.c rfl .n)) ce14 (zZa (k1:=true) (u1:=u3) (v1:=v3) (q1:=q3) (k2:=true) (u2:=u2) (v2:=v2) (q2:=q2) (hl:=by first|rfl|assumption|omega)) (.c (j:=2) rfl (.c (j:=1) rfl .n)) ?_)
 refine d_pv 6 rfl rfl (by kernel_rfl) (by kernel_rfl) rfl rfl (ze rfl)<|d_pv 7 rfl rfl (by kernel_rfl) (by kernel_rfl) rfl rfl (ze rfl)<|zV (by kernel_rfl)<|zf<|zh<|zUa (X:=Unit) (fun x=>True) (fun x=>[(30,.bool (decide (((0<Big.sgq (q1 - q2))∨(0<Big.sgq (q3 - q2)))∨((Big.sgq (q1 - q2)=0)∧(Big.sgq (q3 - q2)=0))))),(7,.int .i64 0),(6,.pointer (some ⟨b4,0,none⟩)),(5,.pointer (some ⟨b3,0,none⟩)),(4,.pointer (some ⟨b2,0,none⟩)),(3,.pointer (some ⟨b1,0,none⟩))]) (fun x=>[boxA b4 32 [.bool false,.slice none 0 0,.bool false,.slice none 0 0],boxA b3 32 (cw [u3,v3]),boxA b2 32 (cw [u2,v2]),boxA b1 32 (cw [u1,v1])]) (fun x=>[qF true u1 v1 q1,qF true u2 v2 q2,qF true u3 v3 q3]) ?_ ?_
 ·
  refine zc<|r_pv rfl rfl (za rfl)<|r_pv rfl rfl (zwa rfl rfl)<|zS rfl rfl (za rfl) (fun h5=> ?_) (fun h5=> ?_)
  ·
   refine zb rfl rfl<|zb rfl rfl<|r_pv rfl rfl (zm rfl rfl)<|r_pv rfl rfl (za rfl)<|zb rfl rfl<|zb rfl rfl<|zb rfl rfl<|zb rfl rfl<|zb rfl rfl<|zb rfl rfl<|r_pv rfl rfl (zm rfl rfl)<|zj ?_
   exact zha () (show True from by first|trivial|omega|simp_all) ((.e rfl (congrArg Value.bool (by first|(simp_all;done)|(simp_all;omega)|(simp;omega)|omega)) (.of rfl)):SubM _ _) (ho:=((.of [0,0,0,0] rfl):PickO _ _ _)) ((.of [0,1,2] rfl):SelR _ _ _)
  ·
   refine r_pv rfl rfl (za rfl)<|r_pv rfl rfl (zwa rfl rfl)<|r_pv rfl rfl (zm rfl rfl)<|zS rfl rfl (za rfl) (fun h6=> ?_) (fun h6=> ?_)
   ·
    refine zb rfl rfl<|zb rfl rfl<|zb rfl rfl<|zb rfl rfl<|zb rfl rfl<|zb rfl rfl<|r_pv rfl rfl (zm rfl rfl)<|zj ?_
    exact zha () (show True from by first|trivial|omega|simp_all) ((.e rfl (congrArg Value.bool (by first|(simp_all;done)|(simp_all;omega)|(simp;omega)|omega)) (.of rfl)):SubM _ _) (ho:=((.of [0,0,0,0] rfl):PickO _ _ _)) ((.of [0,1,2] rfl):SelR _ _ _)
   ·
    refine r_pv rfl rfl (za rfl)<|r_pv rfl rfl (zsa rfl rfl)<|zS rfl rfl (za rfl) (fun h7=> ?_) (fun h7=> ?_)
    ·
     refine r_pv rfl rfl (za rfl)<|r_pv rfl rfl (zsa rfl rfl)<|r_pv rfl rfl (zm rfl rfl)<|r_pv rfl rfl (zm rfl rfl)<|zj ?_
     exact zha () (show True from by first|trivial|omega|simp_all) ((.e rfl (congrArg Value.bool (by first|(simp_all;done)|(simp_all;omega)|(simp;omega)|omega)) (.of rfl)):SubM _ _) (ho:=((.of [0,0,0,0] rfl):PickO _ _ _)) ((.of [0,1,2] rfl):SelR _ _ _)
    ·
     refine zb rfl rfl<|zb rfl rfl<|r_pv rfl rfl (zm rfl rfl)<|r_pv rfl rfl (zm rfl rfl)<|zj ?_
     exact zha () (show True from by first|trivial|omega|simp_all) ((.e rfl (congrArg Value.bool (by first|(simp_all;done)|(simp_all;omega)|(simp;omega)|omega)) (.of rfl)):SubM _ _) (ho:=((.of [0,0,0,0] rfl):PickO _ _ _)) ((.of [0,1,2] rfl):SelR _ _ _)
 ·
  rintro ⟨⟩ -
  try dsimp only [cw]
  refine zJ rfl (fun hd=> ?_) (fun hd=> ?_)
  ·
   have hd9:(Cr.pkd q1 q2 q3):=Cr.pkd_ref.2 hd
   refine zh<|zc<|r_pv rfl rfl (zE zr32 rfl Tryz.underlying32 (.c sz30 (.c sz30 .n)) .n .n)<|zl 0 rfl rfl rfl rfl rfl sz32 rfl (.take (.take (.take (.take .nil)))) .z<|r_pv rfl rfl (ze rfl)<|zj<|zf<|zL<|zq<|zIa (qF false wz wz 0) (fun g _=>qF_none g) ?_
   exact zua Tryz.results51 (wz,wz) trivial (zp 0 ty32 rfl rfl (.take (.take (.take (.take .nil))))) (zt rfl) (by rw [if_pos hd9];rfl) (ho:=(.n:PickO _ _ _)) ((.e (j:=0) rfl (by rw [if_pos hd9,decide_eq_false (not_not_intro hd9)]) .n):SelR _ _ _)
  ·
   have hd9:¬(Cr.pkd q1 q2 q3):=fun k=>hd (Cr.pkd_ref.1 k)
   have hne:=Cr.pkl_ne hd9
   refine zH<|zf<|zh<|zba (OW:=[]) (O:=[boxA b4 32 [.bool false,.slice none 0 0,.bool false,.slice none 0 0],boxA b3 32 [u3.b,u3.l,v3.b,v3.l],boxA b2 32 [u2.b,u2.l,v2.b,v2.l],boxA b1 32 [u1.b,u1.l,v1.b,v1.l]]) 8 mixed (.then .ret) (by kernel_rfl)<|d_u 0 rfl rfl (by kernel_rfl) (by kernel_rfl) rfl rfl (zd 3 ty32 rfl rfl (.take (.take (.take (.take .nil)))))<|d_u 1 rfl rfl (by kernel_rfl) (by kernel_rfl) rfl rfl (zd 1 ty32 rfl rfl (.take (.take (.take (.take .nil)))))<|d_u 3 rfl rfl (by kernel_rfl) (by kernel_rfl) rfl rfl (zd 2 ty32 rfl rfl (.take (.take (.take (.take .nil)))))<|d_u 4 rfl rfl (by kernel_rfl) (by kernel_rfl) rfl rfl (zd 2 ty32 rfl rfl (.take (.take (.take (.take .nil)))))<|znc (m':=[(36,.agg #[u2.b,u2.l,v2.b,v2.l]),(35,.agg #[u2.b,u2.l,v2.b,v2.l]),(33,.agg #[u3.b,u3.l,v3.b,v3.l]),(32,.agg #[u1.b,u1.l,v1.b,v1.l]),(7,.int .i64 0),(6,.pointer (some ⟨b4,0,none⟩)),(5,.pointer (some ⟨b3,0,none⟩)),(3,.pointer (some ⟨b1,0,none⟩))]) (R':=[qF true u1 v1 q1,qF true u2 v2 q2,qF true u3 v3 q3]) ((.of rfl):SubM _ _) (List.Perm.refl _) (List.Perm.refl _) ((.of [0,1,2] rfl):SelR _ _ _)<|zga (X:=Wd×Wd×Wd×Wd×Wd×Wd×Nat) (k':=0) (L':=(lb 9 511)) (fun (u2_1,u2_2,u5_1,u5_2,u6_1,u6_2,u7_1)=>([(10,.pointer (some ⟨u7_1,0,none⟩)),(7,.int .i64 0),(6,.pointer (some ⟨b4,0,none⟩)),(5,.pointer (some ⟨b3,0,none⟩)),(3,.pointer (some ⟨b1,0,none⟩))],[boxA u7_1 32 (cw [u6_1,u6_2])],[boxA b4 32 [.bool false,.slice none 0 0,.bool false,.slice none 0 0],boxA b3 32 (cw [u3,v3]),boxA b2 32 (cw [u2,v2]),boxA b1 32 (cw [u1,v1])],[qF true u6_1 u6_2 ((q1+q3) - (q2+q2)),qF true u5_1 u5_2 (q2+q2),qF true u2_1 u2_2 (q1+q3),qF true u1 v1 q1,qF true u2 v2 q2,qF true u3 v3 q3])) ?_ (fun hD0=> ?_)
   ·
    rintro ⟨u2_1,u2_2,u5_1,u5_2,u6_1,u6_2,u7_1⟩
    dsimp only [cw]
    refine zV (by kernel_rfl)<|zf<|zh ?_
    have e8:((q1+q3) - (q2+q2):Rat)=(Cr.pkl q1 q2 q3):=by exact Cr.pkl_ref _ _ _
    rw [e8]
    refine zqa (.c (i:=1) rfl (.c (i:=0) rfl (.c (i:=0) rfl (.c (i:=0) rfl (.c (i:=0) rfl .n)))))<|zba (OW:=[boxA b4 32 [.bool false,.slice none 0 0,.bool false,.slice none 0 0]]) (O:=[boxA u7_1 32 [u6_1.b,u6_1.l,u6_2.b,u6_2.l],boxA b3 32 [u3.b,u3.l,v3.b,v3.l],boxA b2 32 [u2.b,u2.l,v2.b,v2.l],boxA b1 32 [u1.b,u1.l,v1.b,v1.l]]) 9 mixed (.then .ret) (by kernel_rfl)<|d_uw 0 rfl rfl (by kernel_rfl) (by kernel_rfl) (by kernel_rfl) rfl rfl (zd 4 ty32 rfl rfl (.take (.take (.take (.take .nil)))))<|d_uw 1 rfl rfl (by kernel_rfl) (by kernel_rfl) (by kernel_rfl) rfl rfl (zd 2 ty32 rfl rfl (.take (.take (.take (.take .nil)))))<|d_uw 3 rfl rfl (by kernel_rfl) (by kernel_rfl) (by kernel_rfl) rfl rfl (zd 1 ty32 rfl rfl (.take (.take (.take (.take .nil)))))<|d_uw 4 rfl rfl (by kernel_rfl) (by kernel_rfl) (by kernel_rfl) rfl rfl (zd 1 ty32 rfl rfl (.take (.take (.take (.take .nil)))))<|zD 2 (by kernel_rfl) (zv rfl rfl rfl rfl (.c rfl (.c rfl .n)) ce41 (zdc (k1:=true) (u1:=u1) (v1:=v1) (q1:=q1) (k2:=true) (u2:=u3) (v2:=v3) (q2:=q3) (hl:=by first|rfl|assumption|omega)) (.c (j:=3) rfl (.c (j:=5) rfl .n)) ?_)
    rintro ⟨w39,w410⟩ -
    dsimp only [List.append_eq,List.nil_append,List.cons_append]
    refine zD 5 (by kernel_rfl) (zv rfl rfl rfl rfl (.c rfl (.c rfl .n)) ce70 (ztb (k1:=true) (u1:=u6_1) (v1:=u6_2) (q1:=(Cr.pkl q1 q2 q3)) (k2:=true) (u2:=u6_1) (v2:=u6_2) (q2:=(Cr.pkl q1 q2 q3)) (hl:=by first|rfl|assumption|omega)) (.c (j:=1) rfl (.c (j:=1) rfl .n)) ?_)
    rintro ⟨w311,w412⟩ -
    dsimp only [List.append_eq,List.nil_append,List.cons_append]
    refine zD 6 (by kernel_rfl) (zv rfl rfl rfl rfl (.c rfl (.c rfl .n)) ce80 (zId (k1:=true) (u1:=w39) (v1:=w410) (q1:=q1 - q3) (k2:=true) (u2:=w311) (v2:=w412) (q2:=(Cr.pkl q1 q2 q3)+(Cr.pkl q1 q2 q3)) (hl:=by first|rfl|assumption|omega)) (.c (j:=1) rfl (.c (j:=0) rfl .n)) ?_)
    rintro ⟨w313,w414⟩ -
    dsimp only [List.append_eq,List.nil_append,List.cons_append]
    refine d_pv 7 rfl rfl (by kernel_rfl) (by kernel_rfl) rfl rfl (zo rfl rfl)<|d_pv 8 rfl rfl (by kernel_rfl) (by kernel_rfl) rfl rfl (zo rfl rfl)<|zD 9 (by kernel_rfl) (zy (by kernel_rfl) rfl rfl rfl rfl rfl sz32 rfl (.take (.take (.take (.take .nil)))) ?_)
    refine d_pv 10 rfl rfl (by kernel_rfl) (by kernel_rfl) rfl rfl (ze rfl)<|zV (by kernel_rfl)<|zf<|zL ?_
    exact zua Tryz.results51 (w313,w414) trivial (zp 0 ty32 rfl rfl (.take (.take (.take (.take .nil))))) (zt rfl) (by rw [if_neg hd9,if_neg hne]) (ho:=(.n:PickO _ _ _)) ((.e (j:=0) rfl (by rw [if_neg hd9,decide_eq_true hd9,decide_eq_true hne,Cr.pkv]) .n):SelR _ _ _)
   refine zga (X:=Wd×Wd×Wd×Wd×Wd×Wd×Nat) (k':=1) (L':=(lb 9 255)) (fun (u2_1,u2_2,u5_1,u5_2,u6_1,u6_2,u7_1)=>([(10,.pointer (some ⟨u7_1,0,none⟩)),(38,.agg (cw [u6_1,u6_2]).toArray),(7,.int .i64 0),(6,.pointer (some ⟨b4,0,none⟩)),(5,.pointer (some ⟨b3,0,none⟩)),(3,.pointer (some ⟨b1,0,none⟩))],[boxA u7_1 32 [.bool false,.slice none 0 0,.bool false,.slice none 0 0]],[boxA b4 32 [.bool false,.slice none 0 0,.bool false,.slice none 0 0],boxA b3 32 (cw [u3,v3]),boxA b2 32 (cw [u2,v2]),boxA b1 32 (cw [u1,v1])],[qF true u6_1 u6_2 ((q1+q3) - (q2+q2)),qF true u5_1 u5_2 (q2+q2),qF true u2_1 u2_2 (q1+q3),qF true u1 v1 q1,qF true u2 v2 q2,qF true u3 v3 q3])) ?_ (fun hD1=> ?_)
   ·
    rintro ⟨u2_1,u2_2,u5_1,u5_2,u6_1,u6_2,u7_1⟩
    dsimp only [cw]
    refine zD 8 (by kernel_rfl) ?_
    ·
     refine zy (by kernel_rfl) rfl rfl rfl rfl rfl sz32 rfl (.take (.take (.take (.take .nil)))) ?_
     exact zO (hD0 (u2_1,u2_2,u5_1,u5_2,u6_1,u6_2,u7_1)) (by kernel_rfl) ((.of rfl):SubM _ _) .rfl .rfl ((.of [0,1,2,3,4,5] rfl):SelR _ _ _)
   refine zga (X:=Wd×Wd×Wd×Wd×Wd×Wd) (k':=2) (L':=(lb 9 127)) (fun (u2_1,u2_2,u5_1,u5_2,u6_1,u6_2)=>([(38,.agg (cw [u6_1,u6_2]).toArray),(7,.int .i64 0),(6,.pointer (some ⟨b4,0,none⟩)),(5,.pointer (some ⟨b3,0,none⟩)),(3,.pointer (some ⟨b1,0,none⟩))],[],[boxA b4 32 [.bool false,.slice none 0 0,.bool false,.slice none 0 0],boxA b3 32 (cw [u3,v3]),boxA b2 32 (cw [u2,v2]),boxA b1 32 (cw [u1,v1])],[qF true u6_1 u6_2 ((q1+q3) - (q2+q2)),qF true u5_1 u5_2 (q2+q2),qF true u2_1 u2_2 (q1+q3),qF true u1 v1 q1,qF true u2 v2 q2,qF true u3 v3 q3])) ?_ (fun hD2=> ?_)
   ·
    rintro ⟨u2_1,u2_2,u5_1,u5_2,u6_1,u6_2⟩
    dsimp only [cw]
    refine zD 7 (by kernel_rfl) ?_
    ·
     refine zBa rfl rfl rfl rfl (zu zr32 rfl) (fun u7_1 _=> ?_)
     exact zO (hD1 (u2_1,u2_2,u5_1,u5_2,u6_1,u6_2,u7_1)) (by kernel_rfl) ((.of rfl):SubM _ _) .rfl .rfl ((.of [0,1,2,3,4,5] rfl):SelR _ _ _)
   refine zga (X:=Wd×Wd×Wd×Wd×Nat) (k':=2) (L':=(lb 9 191)) (fun (u2_1,u2_2,u5_1,u5_2,u7_1)=>([(10,.pointer (some ⟨u7_1,0,none⟩)),(37,.agg (cw [u5_1,u5_2]).toArray),(34,.agg (cw [u2_1,u2_2]).toArray),(7,.int .i64 0),(6,.pointer (some ⟨b4,0,none⟩)),(5,.pointer (some ⟨b3,0,none⟩)),(3,.pointer (some ⟨b1,0,none⟩))],[boxA u7_1 32 [.bool false,.slice none 0 0,.bool false,.slice none 0 0]],[boxA b4 32 [.bool false,.slice none 0 0,.bool false,.slice none 0 0],boxA b3 32 (cw [u3,v3]),boxA b2 32 (cw [u2,v2]),boxA b1 32 (cw [u1,v1])],[qF true u5_1 u5_2 (q2+q2),qF true u2_1 u2_2 (q1+q3),qF true u1 v1 q1,qF true u2 v2 q2,qF true u3 v3 q3])) ?_ (fun hD3=> ?_)
   ·
    rintro ⟨u2_1,u2_2,u5_1,u5_2,u7_1⟩
    dsimp only [cw]
    refine zD 6 (by kernel_rfl) ?_
    ·
     refine zv rfl rfl rfl rfl (.c rfl (.c rfl .n)) ce41 (zdc (k1:=true) (u1:=u2_1) (v1:=u2_2) (q1:=q1+q3) (k2:=true) (u2:=u5_1) (v2:=u5_2) (q2:=q2+q2) (hl:=by first|rfl|assumption|omega)) (.c (j:=1) rfl (.c (j:=0) rfl .n)) ?_
     rintro ⟨u6_1,u6_2⟩ -
     dsimp only [List.append_eq,List.nil_append,List.cons_append]
     exact zO (hD1 (u2_1,u2_2,u5_1,u5_2,u6_1,u6_2,u7_1)) (by kernel_rfl) ((.of rfl):SubM _ _) .rfl .rfl ((.of [0,1,2,3,4,5] rfl):SelR _ _ _)
   refine zga (X:=Wd×Wd×Wd×Wd) (k':=3) (L':=(lb 9 63)) (fun (u2_1,u2_2,u5_1,u5_2)=>([(37,.agg (cw [u5_1,u5_2]).toArray),(34,.agg (cw [u2_1,u2_2]).toArray),(7,.int .i64 0),(6,.pointer (some ⟨b4,0,none⟩)),(5,.pointer (some ⟨b3,0,none⟩)),(3,.pointer (some ⟨b1,0,none⟩))],[],[boxA b4 32 [.bool false,.slice none 0 0,.bool false,.slice none 0 0],boxA b3 32 (cw [u3,v3]),boxA b2 32 (cw [u2,v2]),boxA b1 32 (cw [u1,v1])],[qF true u5_1 u5_2 (q2+q2),qF true u2_1 u2_2 (q1+q3),qF true u1 v1 q1,qF true u2 v2 q2,qF true u3 v3 q3])) ?_ (fun hD4=> ?_)
   ·
    rintro ⟨u2_1,u2_2,u5_1,u5_2⟩
    dsimp only [cw]
    refine zlb 6 7 (by kernel_rfl) ?_ ?_
    ·
     refine zv rfl rfl rfl rfl (.c rfl (.c rfl .n)) ce41 (zdc (k1:=true) (u1:=u2_1) (v1:=u2_2) (q1:=q1+q3) (k2:=true) (u2:=u5_1) (v2:=u5_2) (q2:=q2+q2) (hl:=by first|rfl|assumption|omega)) (.c (j:=1) rfl (.c (j:=0) rfl .n)) ?_
     rintro ⟨u6_1,u6_2⟩ -
     dsimp only [List.append_eq,List.nil_append,List.cons_append]
     exact zO (hD2 (u2_1,u2_2,u5_1,u5_2,u6_1,u6_2)) (by kernel_rfl) ((.of rfl):SubM _ _) .rfl .rfl ((.of [0,1,2,3,4,5] rfl):SelR _ _ _)
    ·
     refine zBa rfl rfl rfl rfl (zu zr32 rfl) (fun u7_1 _=> ?_)
     exact zO (hD3 (u2_1,u2_2,u5_1,u5_2,u7_1)) (by kernel_rfl) ((.of rfl):SubM _ _) .rfl .rfl ((.of [0,1,2,3,4] rfl):SelR _ _ _)
   refine zga (X:=Wd×Wd×Nat) (k':=3) (L':=(lb 9 159)) (fun (u2_1,u2_2,u7_1)=>([(10,.pointer (some ⟨u7_1,0,none⟩)),(34,.agg (cw [u2_1,u2_2]).toArray),(36,.agg (cw [u2,v2]).toArray),(35,.agg (cw [u2,v2]).toArray),(7,.int .i64 0),(6,.pointer (some ⟨b4,0,none⟩)),(5,.pointer (some ⟨b3,0,none⟩)),(3,.pointer (some ⟨b1,0,none⟩))],[boxA u7_1 32 [.bool false,.slice none 0 0,.bool false,.slice none 0 0]],[boxA b4 32 [.bool false,.slice none 0 0,.bool false,.slice none 0 0],boxA b3 32 (cw [u3,v3]),boxA b2 32 (cw [u2,v2]),boxA b1 32 (cw [u1,v1])],[qF true u2_1 u2_2 (q1+q3),qF true u1 v1 q1,qF true u2 v2 q2,qF true u3 v3 q3])) ?_ (fun hD5=> ?_)
   ·
    rintro ⟨u2_1,u2_2,u7_1⟩
    dsimp only [cw]
    refine zD 5 (by kernel_rfl) ?_
    ·
     refine zv rfl rfl rfl rfl (.c rfl (.c rfl .n)) ce70 (ztb (k1:=true) (u1:=u2) (v1:=v2) (q1:=q2) (k2:=true) (u2:=u2) (v2:=v2) (q2:=q2) (hl:=by first|rfl|assumption|omega)) (.c (j:=2) rfl (.c (j:=2) rfl .n)) ?_
     rintro ⟨u5_1,u5_2⟩ -
     dsimp only [List.append_eq,List.nil_append,List.cons_append]
     exact zO (hD3 (u2_1,u2_2,u5_1,u5_2,u7_1)) (by kernel_rfl) ((.of rfl):SubM _ _) .rfl .rfl ((.of [0,1,2,3,4] rfl):SelR _ _ _)
   refine zga (X:=Wd×Wd) (k':=4) (L':=(lb 9 31)) (fun (u2_1,u2_2)=>([(34,.agg (cw [u2_1,u2_2]).toArray),(36,.agg (cw [u2,v2]).toArray),(35,.agg (cw [u2,v2]).toArray),(7,.int .i64 0),(6,.pointer (some ⟨b4,0,none⟩)),(5,.pointer (some ⟨b3,0,none⟩)),(3,.pointer (some ⟨b1,0,none⟩))],[],[boxA b4 32 [.bool false,.slice none 0 0,.bool false,.slice none 0 0],boxA b3 32 (cw [u3,v3]),boxA b2 32 (cw [u2,v2]),boxA b1 32 (cw [u1,v1])],[qF true u2_1 u2_2 (q1+q3),qF true u1 v1 q1,qF true u2 v2 q2,qF true u3 v3 q3])) ?_ (fun hD6=> ?_)
   ·
    rintro ⟨u2_1,u2_2⟩
    dsimp only [cw]
    refine zlb 5 7 (by kernel_rfl) ?_ ?_
    ·
     refine zv rfl rfl rfl rfl (.c rfl (.c rfl .n)) ce70 (ztb (k1:=true) (u1:=u2) (v1:=v2) (q1:=q2) (k2:=true) (u2:=u2) (v2:=v2) (q2:=q2) (hl:=by first|rfl|assumption|omega)) (.c (j:=2) rfl (.c (j:=2) rfl .n)) ?_
     rintro ⟨u5_1,u5_2⟩ -
     dsimp only [List.append_eq,List.nil_append,List.cons_append]
     exact zO (hD4 (u2_1,u2_2,u5_1,u5_2)) (by kernel_rfl) ((.of rfl):SubM _ _) .rfl .rfl ((.of [0,1,2,3,4] rfl):SelR _ _ _)
    ·
     refine zBa rfl rfl rfl rfl (zu zr32 rfl) (fun u7_1 _=> ?_)
     exact zO (hD5 (u2_1,u2_2,u7_1)) (by kernel_rfl) ((.of rfl):SubM _ _) .rfl .rfl ((.of [0,1,2,3] rfl):SelR _ _ _)
   refine zga (X:=Nat) (k':=4) (L':=(lb 9 155)) (fun u7_1=>([(10,.pointer (some ⟨u7_1,0,none⟩)),(36,.agg (cw [u2,v2]).toArray),(35,.agg (cw [u2,v2]).toArray),(33,.agg (cw [u3,v3]).toArray),(32,.agg (cw [u1,v1]).toArray),(7,.int .i64 0),(6,.pointer (some ⟨b4,0,none⟩)),(5,.pointer (some ⟨b3,0,none⟩)),(3,.pointer (some ⟨b1,0,none⟩))],[boxA u7_1 32 [.bool false,.slice none 0 0,.bool false,.slice none 0 0]],[boxA b4 32 [.bool false,.slice none 0 0,.bool false,.slice none 0 0],boxA b3 32 (cw [u3,v3]),boxA b2 32 (cw [u2,v2]),boxA b1 32 (cw [u1,v1])],[qF true u1 v1 q1,qF true u2 v2 q2,qF true u3 v3 q3])) ?_ (fun hD7=> ?_)
   ·
    rintro u7_1
    dsimp only [cw]
    refine zD 2 (by kernel_rfl) ?_
    ·
     refine zv rfl rfl rfl rfl (.c rfl (.c rfl .n)) ce70 (ztb (k1:=true) (u1:=u1) (v1:=v1) (q1:=q1) (k2:=true) (u2:=u3) (v2:=v3) (q2:=q3) (hl:=by first|rfl|assumption|omega)) (.c (j:=0) rfl (.c (j:=2) rfl .n)) ?_
     rintro ⟨u2_1,u2_2⟩ -
     dsimp only [List.append_eq,List.nil_append,List.cons_append]
     exact zO (hD5 (u2_1,u2_2,u7_1)) (by kernel_rfl) ((.of rfl):SubM _ _) .rfl .rfl ((.of [0,1,2,3] rfl):SelR _ _ _)
   refine zlb 2 7 (by kernel_rfl) ?_ ?_
   ·
    refine zv rfl rfl rfl rfl (.c rfl (.c rfl .n)) ce70 (ztb (k1:=true) (u1:=u1) (v1:=v1) (q1:=q1) (k2:=true) (u2:=u3) (v2:=v3) (q2:=q3) (hl:=by first|rfl|assumption|omega)) (.c (j:=0) rfl (.c (j:=2) rfl .n)) ?_
    rintro ⟨u2_1,u2_2⟩ -
    dsimp only [List.append_eq,List.nil_append,List.cons_append]
    exact zO (hD6 (u2_1,u2_2)) (by kernel_rfl) ((.of rfl):SubM _ _) .rfl .rfl ((.of [0,1,2,3] rfl):SelR _ _ _)
   ·
    refine zBa rfl rfl rfl rfl (zu zr32 rfl) (fun u7_1 _=> ?_)
    exact zO (hD7 u7_1) (by kernel_rfl) ((.of rfl):SubM _ _) .rfl .rfl ((.of [0,1,2] rfl):SelR _ _ _)
end Go.Proofs.YtkamccndgblheaaGreat.Sp
namespace Go.Proofs.YtkamccndgblheaaGreat.Sp
open Go
set_option linter.unusedVariables false
set_option maxRecDepth 100000
set_option maxHeartbeats 1000000
theorem zce {w1:Nat} {vh1:Nat} {m1:Int} {p1:Option Addr} {n1:Nat} {c1:Nat} {l1:List Int} {w2:Nat} {vh2:Nat} {m2:Int} {p2:Option Addr} {n2:Nat} {c2:Nat} {l2:List Int} {ex:Int} {ey:Int} (hn1:l1.length=n1) (hw1:1≤w1∧w1≤64) (hh1:1≤vh1∧vh1≤64) (hwh1:n1=w1*vh1) (hb1:n1≤4096) (hg1:∀i,i<n1→0≤l1.getD i 0∧l1.getD i 0≤65535) (hn2:l2.length=n2) (hw2:1≤w2∧w2≤64) (hh2:1≤vh2∧vh2≤64) (hwh2:n2=w2*vh2) (hb2:n2≤4096) (hg2:∀i,i<n2→0≤l2.getD i 0∧l2.getD i 0≤65535) (hok:(Cr.rk2 ((w1:Nat):Int) ((vh1:Nat):Int) m1 l1 ((w2:Nat):Int) ((vh2:Nat):Int) m2 l2)) (hex: -9223372036854775808≤ex∧ex≤9223372036854775807) (hey: -9223372036854775808≤ey∧ey≤9223372036854775807):Con Tryz.prog 24 [.agg #[.int .i64 ((w1:Nat):Int),.int .i64 ((vh1:Nat):Int),.int .i64 m1,.slice p1 n1 c1],.agg #[.int .i64 ((w2:Nat):Int),.int .i64 ((vh2:Nat):Int),.int .i64 m2,.slice p2 n2 c2],.int .i64 ex,.int .i64 ey] [] [slF (rI .i64) p1 c1 l1,slF (rI .i64) p2 c2 l2] (Y:=Wd×Wd×Wd×Wd) (fun y=>True) (fun y=> .tuple #[.agg #[y.1.b,y.1.l,y.2.1.b,y.2.1.l,y.2.2.1.b,y.2.2.1.l,y.2.2.2.b,y.2.2.2.l],.int .i64 (if (Cr.ps4 ((w1:Nat):Int) ((vh1:Nat):Int) ((w2:Nat):Int) ((vh2:Nat):Int) ex ey) then (if (Cr.dg l1 l2 ((w1:Nat):Int) ((vh1:Nat):Int) ((w2:Nat):Int) ex ey) then 13 else 0) else 15)]) (fun y=>[]) (fun y=>[qF (decide ((Cr.ps4 ((w1:Nat):Int) ((vh1:Nat):Int) ((w2:Nat):Int) ((vh2:Nat):Int) ex ey)∧¬(Cr.dg l1 l2 ((w1:Nat):Int) ((vh1:Nat):Int) ((w2:Nat):Int) ex ey))) y.1 y.2.1 (if ((Cr.ps4 ((w1:Nat):Int) ((vh1:Nat):Int) ((w2:Nat):Int) ((vh2:Nat):Int) ex ey)∧¬(Cr.dg l1 l2 ((w1:Nat):Int) ((vh1:Nat):Int) ((w2:Nat):Int) ex ey)) then (Cr.vlX l1 l2 ((w1:Nat):Int) ((vh1:Nat):Int) ((w2:Nat):Int) ex ey) else 0),qF (decide ((Cr.ps4 ((w1:Nat):Int) ((vh1:Nat):Int) ((w2:Nat):Int) ((vh2:Nat):Int) ex ey)∧¬(Cr.dg l1 l2 ((w1:Nat):Int) ((vh1:Nat):Int) ((w2:Nat):Int) ex ey))) y.2.2.1 y.2.2.2 (if ((Cr.ps4 ((w1:Nat):Int) ((vh1:Nat):Int) ((w2:Nat):Int) ((vh2:Nat):Int) ex ey)∧¬(Cr.dg l1 l2 ((w1:Nat):Int) ((vh1:Nat):Int) ((w2:Nat):Int) ex ey)) then (Cr.vlY l1 l2 ((w1:Nat):Int) ((vh1:Nat):Int) ((w2:Nat):Int) ex ey) else 0)]):=by
 refine zr Tryz.func24 rfl rfl rfl (fun c=> ?_)
 show RunC _ _ _ _ _ [(0,.agg #[.int .i64 ((w1:Nat):Int),.int .i64 ((vh1:Nat):Int),.int .i64 m1,.slice p1 n1 c1]),(1,.agg #[.int .i64 ((w2:Nat):Int),.int .i64 ((vh2:Nat):Int),.int .i64 m2,.slice p2 n2 c2]),(2,.int .i64 ex),(3,.int .i64 ey)] [] [slF (rI .i64) p1 c1 l1,slF (rI .i64) p2 c2 l2]
 refine zaa 0 rfl (fun hL0=> ?_)
 refine zaa 1 rfl (fun hL1=> ?_)
 refine zh<|zc<|zK rfl rfl (zP rfl rfl) (fun b1=> ?_)
 refine zK rfl rfl (zP rfl rfl) (fun b2=> ?_)
 refine zK rfl rfl (zu zr55 rfl) (fun b3=> ?_)
 refine r_pv rfl rfl (ze rfl)<|zj<|zf<|zh<|zUa (X:=Unit) (fun x=>True) (fun x=>[(56,.bool (decide (((((¬(Cr.pos ((w1:Nat):Int) ((vh1:Nat):Int) ((w2:Nat):Int) ((vh2:Nat):Int) ex ey))∨(¬(Cr.pos ((w1:Nat):Int) ((vh1:Nat):Int) ((w2:Nat):Int) ((vh2:Nat):Int) (ex - 1) ey)))∨(¬(Cr.pos ((w1:Nat):Int) ((vh1:Nat):Int) ((w2:Nat):Int) ((vh2:Nat):Int) (ex+1) ey)))∨(¬(Cr.pos ((w1:Nat):Int) ((vh1:Nat):Int) ((w2:Nat):Int) ((vh2:Nat):Int) ex (ey - 1))))∨(¬(Cr.pos ((w1:Nat):Int) ((vh1:Nat):Int) ((w2:Nat):Int) ((vh2:Nat):Int) ex (ey+1)))))),(9,.int .i64 0),(8,.pointer (some ⟨b3,0,none⟩)),(5,.pointer (some ⟨b2,0,none⟩)),(4,.pointer (some ⟨b1,0,none⟩)),(2,.int .i64 ex),(3,.int .i64 ey)]) (fun x=>[boxA b3 55 [.bool false,.slice none 0 0,.bool false,.slice none 0 0,.bool false,.slice none 0 0,.bool false,.slice none 0 0],boxA b2 24 [.int .i64 ((w2:Nat):Int),.int .i64 ((vh2:Nat):Int),.int .i64 m2,.slice p2 n2 c2],boxA b1 24 [.int .i64 ((w1:Nat):Int),.int .i64 ((vh1:Nat):Int),.int .i64 m1,.slice p1 n1 c1]]) (fun x=>[slF (rI .i64) p1 c1 l1,slF (rI .i64) p2 c2 l2]) ?_ ?_
 ·
  refine zc<|r_u rfl rfl (zd 2 ty24 rfl rfl (.take (.take (.take (.take .nil)))))<|r_u rfl rfl (zd 1 ty24 rfl rfl (.take (.take (.take (.take .nil)))))<|r_pv rfl rfl (za rfl)<|r_pv rfl rfl (za rfl)<|zN rfl rfl (.c rfl (.c rfl (.c rfl (.c rfl .n)))) ce11 (zab (wi1:=((w1:Nat):Int)) (hi1:=((vh1:Nat):Int)) (m1:=m1) (p1:=p1) (n1:=n1) (c1:=c1) (l1:=l1) (wi2:=((w2:Nat):Int)) (hi2:=((vh2:Nat):Int)) (m2:=m2) (p2:=p2) (n2:=n2) (c2:=c2) (l2:=l2) (ex:=ex) (ey:=ey) (hok:=by assumption)) (.n)<|r_pv rfl rfl (zAa rfl)<|zS rfl rfl (za rfl) (fun ha0=> ?_) (fun ha0=> ?_)
  ·
   refine zb rfl rfl<|zb rfl rfl<|zb rfl rfl<|zb rfl rfl<|zb rfl rfl<|zb rfl rfl<|zb rfl rfl<|r_pv rfl rfl (zm rfl rfl)<|r_pv rfl rfl (za rfl)<|zb rfl rfl<|zb rfl rfl<|zb rfl rfl<|zb rfl rfl<|zb rfl rfl<|zb rfl rfl<|zb rfl rfl<|r_pv rfl rfl (zm rfl rfl)<|r_pv rfl rfl (za rfl)<|zb rfl rfl<|zb rfl rfl<|zb rfl rfl<|zb rfl rfl<|zb rfl rfl<|zb rfl rfl<|zb rfl rfl<|r_pv rfl rfl (zm rfl rfl)<|r_pv rfl rfl (za rfl)<|zb rfl rfl<|zb rfl rfl<|zb rfl rfl<|zb rfl rfl<|zb rfl rfl<|zb rfl rfl<|zb rfl rfl<|r_pv rfl rfl (zm rfl rfl)<|zj ?_
   exact zha () (show True from by first|trivial|omega|simp_all) ((.e rfl (congrArg Value.bool (by first|(simp_all;done)|(simp_all;omega)|(simp;omega)|omega)) (.of rfl)):SubM _ _) (ho:=((.of [0,0,0] rfl):PickO _ _ _)) ((.of [0,1] rfl):SelR _ _ _)
  ·
   have hc0:=Decidable.not_not.1 ha0
   have hc01:=hc0.1
   have hc02:=hc0.2.1
   have hc03:=hc0.2.2.1
   have hc04:=hc0.2.2.2
   refine r_u rfl rfl (zd 2 ty24 rfl rfl (.take (.take (.take (.take .nil)))))<|r_u rfl rfl (zd 1 ty24 rfl rfl (.take (.take (.take (.take .nil)))))<|r_pv rfl rfl (za rfl)<|r_pv rfl rfl (zda (z:=(ex - 1)) rfl rfl (w64 (by omega)))<|r_pv rfl rfl (za rfl)<|zN rfl rfl (.c rfl (.c rfl (.c rfl (.c rfl .n)))) ce11 (zab (wi1:=((w1:Nat):Int)) (hi1:=((vh1:Nat):Int)) (m1:=m1) (p1:=p1) (n1:=n1) (c1:=c1) (l1:=l1) (wi2:=((w2:Nat):Int)) (hi2:=((vh2:Nat):Int)) (m2:=m2) (p2:=p2) (n2:=n2) (c2:=c2) (l2:=l2) (ex:=(ex - 1)) (ey:=ey) (hok:=by assumption)) (.n)<|r_pv rfl rfl (zAa rfl)<|r_pv rfl rfl (zm rfl rfl)<|zS rfl rfl (za rfl) (fun h4=> ?_) (fun h4=> ?_)
   ·
    refine zb rfl rfl<|zb rfl rfl<|zb rfl rfl<|zb rfl rfl<|zb rfl rfl<|zb rfl rfl<|zb rfl rfl<|r_pv rfl rfl (zm rfl rfl)<|r_pv rfl rfl (za rfl)<|zb rfl rfl<|zb rfl rfl<|zb rfl rfl<|zb rfl rfl<|zb rfl rfl<|zb rfl rfl<|zb rfl rfl<|r_pv rfl rfl (zm rfl rfl)<|r_pv rfl rfl (za rfl)<|zb rfl rfl<|zb rfl rfl<|zb rfl rfl<|zb rfl rfl<|zb rfl rfl<|zb rfl rfl<|zb rfl rfl<|r_pv rfl rfl (zm rfl rfl)<|zj ?_
    exact zha () (show True from by first|trivial|omega|simp_all) ((.e rfl (congrArg Value.bool (by first|(simp_all;done)|(simp_all;omega)|(simp;omega)|omega)) (.of rfl)):SubM _ _) (ho:=((.of [0,0,0] rfl):PickO _ _ _)) ((.of [0,1] rfl):SelR _ _ _)
   ·
    refine r_u rfl rfl (zd 2 ty24 rfl rfl (.take (.take (.take (.take .nil)))))<|r_u rfl rfl (zd 1 ty24 rfl rfl (.take (.take (.take (.take .nil)))))<|r_pv rfl rfl (za rfl)<|r_pv rfl rfl (zG (z:=(ex+1)) rfl rfl (w64 (by omega)))<|r_pv rfl rfl (za rfl)<|zN rfl rfl (.c rfl (.c rfl (.c rfl (.c rfl .n)))) ce11 (zab (wi1:=((w1:Nat):Int)) (hi1:=((vh1:Nat):Int)) (m1:=m1) (p1:=p1) (n1:=n1) (c1:=c1) (l1:=l1) (wi2:=((w2:Nat):Int)) (hi2:=((vh2:Nat):Int)) (m2:=m2) (p2:=p2) (n2:=n2) (c2:=c2) (l2:=l2) (ex:=(ex+1)) (ey:=ey) (hok:=by assumption)) (.n)<|r_pv rfl rfl (zAa rfl)<|r_pv rfl rfl (zm rfl rfl)<|zS rfl rfl (za rfl) (fun h5=> ?_) (fun h5=> ?_)
    ·
     refine zb rfl rfl<|zb rfl rfl<|zb rfl rfl<|zb rfl rfl<|zb rfl rfl<|zb rfl rfl<|zb rfl rfl<|r_pv rfl rfl (zm rfl rfl)<|r_pv rfl rfl (za rfl)<|zb rfl rfl<|zb rfl rfl<|zb rfl rfl<|zb rfl rfl<|zb rfl rfl<|zb rfl rfl<|zb rfl rfl<|r_pv rfl rfl (zm rfl rfl)<|zj ?_
     exact zha () (show True from by first|trivial|omega|simp_all) ((.e rfl (congrArg Value.bool (by first|(simp_all;done)|(simp_all;omega)|(simp;omega)|omega)) (.of rfl)):SubM _ _) (ho:=((.of [0,0,0] rfl):PickO _ _ _)) ((.of [0,1] rfl):SelR _ _ _)
    ·
     refine r_u rfl rfl (zd 2 ty24 rfl rfl (.take (.take (.take (.take .nil)))))<|r_u rfl rfl (zd 1 ty24 rfl rfl (.take (.take (.take (.take .nil)))))<|r_pv rfl rfl (za rfl)<|r_pv rfl rfl (za rfl)<|r_pv rfl rfl (zda (z:=(ey - 1)) rfl rfl (w64 (by omega)))<|zN rfl rfl (.c rfl (.c rfl (.c rfl (.c rfl .n)))) ce11 (zab (wi1:=((w1:Nat):Int)) (hi1:=((vh1:Nat):Int)) (m1:=m1) (p1:=p1) (n1:=n1) (c1:=c1) (l1:=l1) (wi2:=((w2:Nat):Int)) (hi2:=((vh2:Nat):Int)) (m2:=m2) (p2:=p2) (n2:=n2) (c2:=c2) (l2:=l2) (ex:=ex) (ey:=(ey - 1)) (hok:=by assumption)) (.n)<|r_pv rfl rfl (zAa rfl)<|r_pv rfl rfl (zm rfl rfl)<|zS rfl rfl (za rfl) (fun h6=> ?_) (fun h6=> ?_)
     ·
      refine zb rfl rfl<|zb rfl rfl<|zb rfl rfl<|zb rfl rfl<|zb rfl rfl<|zb rfl rfl<|zb rfl rfl<|r_pv rfl rfl (zm rfl rfl)<|zj ?_
      exact zha () (show True from by first|trivial|omega|simp_all) ((.e rfl (congrArg Value.bool (by first|(simp_all;done)|(simp_all;omega)|(simp;omega)|omega)) (.of rfl)):SubM _ _) (ho:=((.of [0,0,0] rfl):PickO _ _ _)) ((.of [0,1] rfl):SelR _ _ _)
     ·
      refine r_u rfl rfl (zd 2 ty24 rfl rfl (.take (.take (.take (.take .nil)))))<|r_u rfl rfl (zd 1 ty24 rfl rfl (.take (.take (.take (.take .nil)))))<|r_pv rfl rfl (za rfl)<|r_pv rfl rfl (za rfl)<|r_pv rfl rfl (zG (z:=(ey+1)) rfl rfl (w64 (by omega)))<|zN rfl rfl (.c rfl (.c rfl (.c rfl (.c rfl .n)))) ce11 (zab (wi1:=((w1:Nat):Int)) (hi1:=((vh1:Nat):Int)) (m1:=m1) (p1:=p1) (n1:=n1) (c1:=c1) (l1:=l1) (wi2:=((w2:Nat):Int)) (hi2:=((vh2:Nat):Int)) (m2:=m2) (p2:=p2) (n2:=n2) (c2:=c2) (l2:=l2) (ex:=ex) (ey:=(ey+1)) (hok:=by assumption)) (.n)<|r_pv rfl rfl (zAa rfl)<|r_pv rfl rfl (zm rfl rfl)<|zj ?_
      exact zha () (show True from by first|trivial|omega|simp_all) ((.e rfl (congrArg Value.bool (by first|(simp_all;done)|(simp_all;omega)|(simp;omega)|omega)) (.of rfl)):SubM _ _) (ho:=((.of [0,0,0] rfl):PickO _ _ _)) ((.of [0,1] rfl):SelR _ _ _)
 ·
  rintro ⟨⟩ -
  try dsimp only
  refine zJ rfl (fun hp=> ?_) (fun hp=> ?_)
  ·
   have hp9:¬(Cr.ps4 ((w1:Nat):Int) ((vh1:Nat):Int) ((w2:Nat):Int) ((vh2:Nat):Int) ex ey):=Cr.ps4_ref.2 hp
   refine zh<|zc<|r_pv rfl rfl (zE zr55 rfl Tryz.underlying55 (.c sz32 (.c sz32 .n)) .n .n)<|zl 0 rfl rfl rfl rfl rfl sz55 rfl (.take (.take (.take (.take (.take (.take (.take (.take .nil)))))))) .z<|r_pv rfl rfl (ze rfl)<|zj<|zf<|zL<|zq<|zIa (qF false wz wz 0) (fun g _=>qF_none g) ?_
   have hg9:¬((Cr.ps4 ((w1:Nat):Int) ((vh1:Nat):Int) ((w2:Nat):Int) ((vh2:Nat):Int) ex ey)∧¬(Cr.dg l1 l2 ((w1:Nat):Int) ((vh1:Nat):Int) ((w2:Nat):Int) ex ey)):=fun k=>hp9 k.1
   exact zua Tryz.results24 (wz,wz,wz,wz) trivial (zp 0 ty55 rfl rfl (.take (.take (.take (.take (.take (.take (.take (.take .nil))))))))) (zt rfl) (by rw [if_neg hp9];rfl) (ho:=(.n:PickO _ _ _)) ((.e (j:=0) rfl (by rw [if_neg hg9,decide_eq_false hg9]) (.e (j:=0) rfl (by rw [if_neg hg9,decide_eq_false hg9]) .n)):SelR _ _ _)
  ·
   have hp9:(Cr.ps4 ((w1:Nat):Int) ((vh1:Nat):Int) ((w2:Nat):Int) ((vh2:Nat):Int) ex ey):=Decidable.not_not.1 (fun k=>hp (Cr.ps4_ref.1 k))
   have hb0:=Cr.ps4_mid hp9
   have hb1x:=hb0.1
   have hb2x:=hb0.2.1
   have hb3x:=hb0.2.2.1
   have hb4x:=hb0.2.2.2
   have hq0:Big.hq (Cr.scq l1 l2 ((w1:Nat):Int) ((vh1:Nat):Int) ((w2:Nat):Int) ex ey)≤6:=Cr.scq_hq hg1 hg2 hw1 hh1 hwh1 hwh2 hb1 hn1 (Cr.ps4_mid hp9)
   have hq1:Big.hq (Cr.scq l1 l2 ((w1:Nat):Int) ((vh1:Nat):Int) ((w2:Nat):Int) (ex - 1) ey)≤6:=Cr.scq_hq hg1 hg2 hw1 hh1 hwh1 hwh2 hb1 hn1 hp9.1
   have hq2:Big.hq (Cr.scq l1 l2 ((w1:Nat):Int) ((vh1:Nat):Int) ((w2:Nat):Int) (ex+1) ey)≤6:=Cr.scq_hq hg1 hg2 hw1 hh1 hwh1 hwh2 hb1 hn1 hp9.2.1
   have hq3:Big.hq (Cr.scq l1 l2 ((w1:Nat):Int) ((vh1:Nat):Int) ((w2:Nat):Int) ex (ey - 1))≤6:=Cr.scq_hq hg1 hg2 hw1 hh1 hwh1 hwh2 hb1 hn1 hp9.2.2.1
   have hq4:Big.hq (Cr.scq l1 l2 ((w1:Nat):Int) ((vh1:Nat):Int) ((w2:Nat):Int) ex (ey+1))≤6:=Cr.scq_hq hg1 hg2 hw1 hh1 hwh1 hwh2 hb1 hn1 hp9.2.2.2
   refine zH<|zf<|zh<|zc<|r_u rfl rfl (zd 2 ty24 rfl rfl (.take (.take (.take (.take .nil)))))<|r_u rfl rfl (zd 1 ty24 rfl rfl (.take (.take (.take (.take .nil)))))<|r_pv rfl rfl (za rfl)<|r_pv rfl rfl (za rfl)<|zw rfl rfl (.c rfl (.c rfl (.c rfl (.c rfl .n)))) ce13 (zHa (w1:=w1) (vh1:=vh1) (m1:=m1) (p1:=p1) (n1:=n1) (c1:=c1) (l1:=l1) (w2:=w2) (vh2:=vh2) (m2:=m2) (p2:=p2) (n2:=n2) (c2:=c2) (l2:=l2) (ex:=ex) (ey:=ey) (hn1:=by assumption) (hw1:=by assumption) (hh1:=by assumption) (hwh1:=by assumption) (hb1:=by assumption) (hg1:=by assumption) (hn2:=by assumption) (hw2:=by assumption) (hh2:=by assumption) (hwh2:=by assumption) (hb2:=by assumption) (hg2:=by assumption) (hp:=by first|rfl|assumption|exact Cr.ps4_mid hp9|exact hp9.1|exact hp9.2.1|exact hp9.2.2.1|exact hp9.2.2.2|omega)) (.c (j:=0) rfl (.c (j:=1) rfl .n)) ?_
   rintro ⟨w37,w48⟩ -
   dsimp only [List.append_eq,List.nil_append,List.cons_append]
   refine zK rfl rfl (zu zr32 rfl) (fun b9=> ?_)
   refine zl 0 rfl rfl rfl rfl rfl sz32 rfl (.take (.take (.take (.take .nil)))) .z<|zj<|zf<|zh<|zba (OW:=[]) (O:=[boxA b9 32 [w37.b,w37.l,w48.b,w48.l],boxA b3 55 [.bool false,.slice none 0 0,.bool false,.slice none 0 0,.bool false,.slice none 0 0,.bool false,.slice none 0 0],boxA b2 24 [.int .i64 ((w2:Nat):Int),.int .i64 ((vh2:Nat):Int),.int .i64 m2,.slice p2 n2 c2],boxA b1 24 [.int .i64 ((w1:Nat):Int),.int .i64 ((vh1:Nat):Int),.int .i64 m1,.slice p1 n1 c1]]) 18 mixed (.then .ret) (by kernel_rfl)<|d_u 0 rfl rfl (by kernel_rfl) (by kernel_rfl) rfl rfl (zd 3 ty24 rfl rfl (.take (.take (.take (.take .nil)))))<|d_u 1 rfl rfl (by kernel_rfl) (by kernel_rfl) rfl rfl (zd 2 ty24 rfl rfl (.take (.take (.take (.take .nil)))))<|d_pv 2 rfl rfl (by kernel_rfl) (by kernel_rfl) rfl rfl (za rfl)<|d_pv 3 rfl rfl (by kernel_rfl) (by kernel_rfl) rfl rfl (zda (z:=(ex - 1)) rfl rfl (w64 (by omega)))<|d_pv 4 rfl rfl (by kernel_rfl) (by kernel_rfl) rfl rfl (za rfl)<|d_u 6 rfl rfl (by kernel_rfl) (by kernel_rfl) rfl rfl (zd 0 ty32 rfl rfl (.take (.take (.take (.take .nil)))))<|d_u 7 rfl rfl (by kernel_rfl) (by kernel_rfl) rfl rfl (zd 3 ty24 rfl rfl (.take (.take (.take (.take .nil)))))<|d_u 8 rfl rfl (by kernel_rfl) (by kernel_rfl) rfl rfl (zd 2 ty24 rfl rfl (.take (.take (.take (.take .nil)))))<|d_pv 9 rfl rfl (by kernel_rfl) (by kernel_rfl) rfl rfl (za rfl)<|d_pv 10 rfl rfl (by kernel_rfl) (by kernel_rfl) rfl rfl (zG (z:=(ex+1)) rfl rfl (w64 (by omega)))<|d_pv 11 rfl rfl (by kernel_rfl) (by kernel_rfl) rfl rfl (za rfl)<|znc (m':=[(75,.int .i64 ey),(74,.int .i64 (ex+1)),(72,.agg #[.int .i64 ((w2:Nat):Int),.int .i64 ((vh2:Nat):Int),.int .i64 m2,.slice p2 n2 c2]),(71,.agg #[.int .i64 ((w1:Nat):Int),.int .i64 ((vh1:Nat):Int),.int .i64 m1,.slice p1 n1 c1]),(70,.agg #[w37.b,w37.l,w48.b,w48.l]),(68,.int .i64 ey),(67,.int .i64 (ex - 1)),(65,.agg #[.int .i64 ((w2:Nat):Int),.int .i64 ((vh2:Nat):Int),.int .i64 m2,.slice p2 n2 c2]),(64,.agg #[.int .i64 ((w1:Nat):Int),.int .i64 ((vh1:Nat):Int),.int .i64 m1,.slice p1 n1 c1]),(10,.pointer (some ⟨b9,0,none⟩)),(9,.int .i64 0),(8,.pointer (some ⟨b3,0,none⟩)),(5,.pointer (some ⟨b2,0,none⟩)),(4,.pointer (some ⟨b1,0,none⟩)),(2,.int .i64 ex),(3,.int .i64 ey)]) (R':=[qF true w37 w48 (Cr.scq l1 l2 ((w1:Nat):Int) ((vh1:Nat):Int) ((w2:Nat):Int) ex ey),slF (rI .i64) p1 c1 l1,slF (rI .i64) p2 c2 l2]) ((.of rfl):SubM _ _) (List.Perm.refl _) (List.Perm.refl _) ((.of [0,1,2] rfl):SelR _ _ _)<|zga (X:=Wd×Wd×Wd×Wd×Wd×Wd×Nat) (k':=0) (L':=(lb 20 1048575)) (fun (u5_1,u5_2,u12_1,u12_2,u13_1,u13_2,u17_1)=>([(12,.int .i64 (if (Cr.pkd (Cr.scq l1 l2 ((w1:Nat):Int) ((vh1:Nat):Int) ((w2:Nat):Int) (ex - 1) ey) (Cr.scq l1 l2 ((w1:Nat):Int) ((vh1:Nat):Int) ((w2:Nat):Int) ex ey) (Cr.scq l1 l2 ((w1:Nat):Int) ((vh1:Nat):Int) ((w2:Nat):Int) (ex+1) ey)) then 13 else 0)),(11,.pointer (some ⟨u17_1,0,none⟩)),(10,.pointer (some ⟨b9,0,none⟩)),(9,.int .i64 0),(8,.pointer (some ⟨b3,0,none⟩)),(5,.pointer (some ⟨b2,0,none⟩)),(4,.pointer (some ⟨b1,0,none⟩)),(2,.int .i64 ex),(3,.int .i64 ey)],[boxA u17_1 32 (cw [u13_1,u13_2])],[boxA b9 32 (cw [w37,w48]),boxA b3 55 [.bool false,.slice none 0 0,.bool false,.slice none 0 0,.bool false,.slice none 0 0,.bool false,.slice none 0 0],boxA b2 24 [.int .i64 ((w2:Nat):Int),.int .i64 ((vh2:Nat):Int),.int .i64 m2,.slice p2 n2 c2],boxA b1 24 [.int .i64 ((w1:Nat):Int),.int .i64 ((vh1:Nat):Int),.int .i64 m1,.slice p1 n1 c1]],[qF (decide (¬(Cr.pkd (Cr.scq l1 l2 ((w1:Nat):Int) ((vh1:Nat):Int) ((w2:Nat):Int) (ex - 1) ey) (Cr.scq l1 l2 ((w1:Nat):Int) ((vh1:Nat):Int) ((w2:Nat):Int) ex ey) (Cr.scq l1 l2 ((w1:Nat):Int) ((vh1:Nat):Int) ((w2:Nat):Int) (ex+1) ey)))) u13_1 u13_2 (if (Cr.pkd (Cr.scq l1 l2 ((w1:Nat):Int) ((vh1:Nat):Int) ((w2:Nat):Int) (ex - 1) ey) (Cr.scq l1 l2 ((w1:Nat):Int) ((vh1:Nat):Int) ((w2:Nat):Int) ex ey) (Cr.scq l1 l2 ((w1:Nat):Int) ((vh1:Nat):Int) ((w2:Nat):Int) (ex+1) ey)) then 0 else Cr.pkv (Cr.scq l1 l2 ((w1:Nat):Int) ((vh1:Nat):Int) ((w2:Nat):Int) (ex - 1) ey) (Cr.scq l1 l2 ((w1:Nat):Int) ((vh1:Nat):Int) ((w2:Nat):Int) ex ey) (Cr.scq l1 l2 ((w1:Nat):Int) ((vh1:Nat):Int) ((w2:Nat):Int) (ex+1) ey)),qF true u12_1 u12_2 (Cr.scq l1 l2 ((w1:Nat):Int) ((vh1:Nat):Int) ((w2:Nat):Int) (ex+1) ey),qF true u5_1 u5_2 (Cr.scq l1 l2 ((w1:Nat):Int) ((vh1:Nat):Int) ((w2:Nat):Int) (ex - 1) ey),qF true w37 w48 (Cr.scq l1 l2 ((w1:Nat):Int) ((vh1:Nat):Int) ((w2:Nat):Int) ex ey),slF (rI .i64) p1 c1 l1,slF (rI .i64) p2 c2 l2])) ?_ (fun hD0=> ?_)
   ·
    rintro ⟨u5_1,u5_2,u12_1,u12_2,u13_1,u13_2,u17_1⟩
    dsimp only [cw]
    refine zV (by kernel_rfl)<|zf<|zh<|zba (OW:=[]) (O:=[boxA u17_1 32 [u13_1.b,u13_1.l,u13_2.b,u13_2.l],boxA b9 32 [w37.b,w37.l,w48.b,w48.l],boxA b3 55 [.bool false,.slice none 0 0,.bool false,.slice none 0 0,.bool false,.slice none 0 0,.bool false,.slice none 0 0],boxA b2 24 [.int .i64 ((w2:Nat):Int),.int .i64 ((vh2:Nat):Int),.int .i64 m2,.slice p2 n2 c2],boxA b1 24 [.int .i64 ((w1:Nat):Int),.int .i64 ((vh1:Nat):Int),.int .i64 m1,.slice p1 n1 c1]]) 18 mixed (.then .ret) (by kernel_rfl)<|d_u 0 rfl rfl (by kernel_rfl) (by kernel_rfl) rfl rfl (zd 4 ty24 rfl rfl (.take (.take (.take (.take .nil)))))<|d_u 1 rfl rfl (by kernel_rfl) (by kernel_rfl) rfl rfl (zd 3 ty24 rfl rfl (.take (.take (.take (.take .nil)))))<|d_pv 2 rfl rfl (by kernel_rfl) (by kernel_rfl) rfl rfl (za rfl)<|d_pv 3 rfl rfl (by kernel_rfl) (by kernel_rfl) rfl rfl (za rfl)<|d_pv 4 rfl rfl (by kernel_rfl) (by kernel_rfl) rfl rfl (zda (z:=(ey - 1)) rfl rfl (w64 (by omega)))<|d_u 6 rfl rfl (by kernel_rfl) (by kernel_rfl) rfl rfl (zd 1 ty32 rfl rfl (.take (.take (.take (.take .nil)))))<|d_u 7 rfl rfl (by kernel_rfl) (by kernel_rfl) rfl rfl (zd 4 ty24 rfl rfl (.take (.take (.take (.take .nil)))))<|d_u 8 rfl rfl (by kernel_rfl) (by kernel_rfl) rfl rfl (zd 3 ty24 rfl rfl (.take (.take (.take (.take .nil)))))<|d_pv 9 rfl rfl (by kernel_rfl) (by kernel_rfl) rfl rfl (za rfl)<|d_pv 10 rfl rfl (by kernel_rfl) (by kernel_rfl) rfl rfl (za rfl)<|d_pv 11 rfl rfl (by kernel_rfl) (by kernel_rfl) rfl rfl (zG (z:=(ey+1)) rfl rfl (w64 (by omega)))<|znc (m':=[(92,.int .i64 (ey+1)),(90,.int .i64 ex),(89,.agg #[.int .i64 ((w2:Nat):Int),.int .i64 ((vh2:Nat):Int),.int .i64 m2,.slice p2 n2 c2]),(88,.agg #[.int .i64 ((w1:Nat):Int),.int .i64 ((vh1:Nat):Int),.int .i64 m1,.slice p1 n1 c1]),(87,.agg #[w37.b,w37.l,w48.b,w48.l]),(85,.int .i64 (ey - 1)),(83,.int .i64 ex),(82,.agg #[.int .i64 ((w2:Nat):Int),.int .i64 ((vh2:Nat):Int),.int .i64 m2,.slice p2 n2 c2]),(81,.agg #[.int .i64 ((w1:Nat):Int),.int .i64 ((vh1:Nat):Int),.int .i64 m1,.slice p1 n1 c1]),(12,.int .i64 (if (Cr.pkd (Cr.scq l1 l2 ((w1:Nat):Int) ((vh1:Nat):Int) ((w2:Nat):Int) (ex - 1) ey) (Cr.scq l1 l2 ((w1:Nat):Int) ((vh1:Nat):Int) ((w2:Nat):Int) ex ey) (Cr.scq l1 l2 ((w1:Nat):Int) ((vh1:Nat):Int) ((w2:Nat):Int) (ex+1) ey)) then 13 else 0)),(11,.pointer (some ⟨u17_1,0,none⟩)),(9,.int .i64 0),(8,.pointer (some ⟨b3,0,none⟩))]) (R':=[qF (decide (¬(Cr.pkd (Cr.scq l1 l2 ((w1:Nat):Int) ((vh1:Nat):Int) ((w2:Nat):Int) (ex - 1) ey) (Cr.scq l1 l2 ((w1:Nat):Int) ((vh1:Nat):Int) ((w2:Nat):Int) ex ey) (Cr.scq l1 l2 ((w1:Nat):Int) ((vh1:Nat):Int) ((w2:Nat):Int) (ex+1) ey)))) u13_1 u13_2 (if (Cr.pkd (Cr.scq l1 l2 ((w1:Nat):Int) ((vh1:Nat):Int) ((w2:Nat):Int) (ex - 1) ey) (Cr.scq l1 l2 ((w1:Nat):Int) ((vh1:Nat):Int) ((w2:Nat):Int) ex ey) (Cr.scq l1 l2 ((w1:Nat):Int) ((vh1:Nat):Int) ((w2:Nat):Int) (ex+1) ey)) then 0 else Cr.pkv (Cr.scq l1 l2 ((w1:Nat):Int) ((vh1:Nat):Int) ((w2:Nat):Int) (ex - 1) ey) (Cr.scq l1 l2 ((w1:Nat):Int) ((vh1:Nat):Int) ((w2:Nat):Int) ex ey) (Cr.scq l1 l2 ((w1:Nat):Int) ((vh1:Nat):Int) ((w2:Nat):Int) (ex+1) ey)),qF true u12_1 u12_2 (Cr.scq l1 l2 ((w1:Nat):Int) ((vh1:Nat):Int) ((w2:Nat):Int) (ex+1) ey),qF true u5_1 u5_2 (Cr.scq l1 l2 ((w1:Nat):Int) ((vh1:Nat):Int) ((w2:Nat):Int) (ex - 1) ey),qF true w37 w48 (Cr.scq l1 l2 ((w1:Nat):Int) ((vh1:Nat):Int) ((w2:Nat):Int) ex ey),slF (rI .i64) p1 c1 l1,slF (rI .i64) p2 c2 l2]) ((.of rfl):SubM _ _) (List.Perm.refl _) (List.Perm.refl _) ((.of [0,1,2,3,4,5] rfl):SelR _ _ _) ?_
    obtain ⟨qd1,hqd1⟩:∃z:Int,z=(if (Cr.pkd (Cr.scq l1 l2 ((w1:Nat):Int) ((vh1:Nat):Int) ((w2:Nat):Int) (ex - 1) ey) (Cr.scq l1 l2 ((w1:Nat):Int) ((vh1:Nat):Int) ((w2:Nat):Int) ex ey) (Cr.scq l1 l2 ((w1:Nat):Int) ((vh1:Nat):Int) ((w2:Nat):Int) (ex+1) ey)) then 13 else 0):=⟨_,rfl⟩
    rw [← hqd1]
    refine zga (X:=Wd×Wd×Wd×Wd×Wd×Wd×Nat) (k':=0) (L':=(lb 20 1048575)) (fun (u5_1r2,u5_2r2,u12_1r2,u12_2r2,u13_1r2,u13_2r2,u17_1r2)=>([(14,.int .i64 (if (Cr.pkd (Cr.scq l1 l2 ((w1:Nat):Int) ((vh1:Nat):Int) ((w2:Nat):Int) ex (ey - 1)) (Cr.scq l1 l2 ((w1:Nat):Int) ((vh1:Nat):Int) ((w2:Nat):Int) ex ey) (Cr.scq l1 l2 ((w1:Nat):Int) ((vh1:Nat):Int) ((w2:Nat):Int) ex (ey+1))) then 13 else 0)),(13,.pointer (some ⟨u17_1r2,0,none⟩)),(12,.int .i64 qd1),(11,.pointer (some ⟨u17_1,0,none⟩)),(9,.int .i64 0),(8,.pointer (some ⟨b3,0,none⟩))],[boxA u17_1r2 32 (cw [u13_1r2,u13_2r2])],[boxA u17_1 32 (cw [u13_1,u13_2]),boxA b9 32 (cw [w37,w48]),boxA b3 55 [.bool false,.slice none 0 0,.bool false,.slice none 0 0,.bool false,.slice none 0 0,.bool false,.slice none 0 0],boxA b2 24 [.int .i64 ((w2:Nat):Int),.int .i64 ((vh2:Nat):Int),.int .i64 m2,.slice p2 n2 c2],boxA b1 24 [.int .i64 ((w1:Nat):Int),.int .i64 ((vh1:Nat):Int),.int .i64 m1,.slice p1 n1 c1]],[qF (decide (¬(Cr.pkd (Cr.scq l1 l2 ((w1:Nat):Int) ((vh1:Nat):Int) ((w2:Nat):Int) ex (ey - 1)) (Cr.scq l1 l2 ((w1:Nat):Int) ((vh1:Nat):Int) ((w2:Nat):Int) ex ey) (Cr.scq l1 l2 ((w1:Nat):Int) ((vh1:Nat):Int) ((w2:Nat):Int) ex (ey+1))))) u13_1r2 u13_2r2 (if (Cr.pkd (Cr.scq l1 l2 ((w1:Nat):Int) ((vh1:Nat):Int) ((w2:Nat):Int) ex (ey - 1)) (Cr.scq l1 l2 ((w1:Nat):Int) ((vh1:Nat):Int) ((w2:Nat):Int) ex ey) (Cr.scq l1 l2 ((w1:Nat):Int) ((vh1:Nat):Int) ((w2:Nat):Int) ex (ey+1))) then 0 else Cr.pkv (Cr.scq l1 l2 ((w1:Nat):Int) ((vh1:Nat):Int) ((w2:Nat):Int) ex (ey - 1)) (Cr.scq l1 l2 ((w1:Nat):Int) ((vh1:Nat):Int) ((w2:Nat):Int) ex ey) (Cr.scq l1 l2 ((w1:Nat):Int) ((vh1:Nat):Int) ((w2:Nat):Int) ex (ey+1))),qF true u12_1r2 u12_2r2 (Cr.scq l1 l2 ((w1:Nat):Int) ((vh1:Nat):Int) ((w2:Nat):Int) ex (ey+1)),qF true u5_1r2 u5_2r2 (Cr.scq l1 l2 ((w1:Nat):Int) ((vh1:Nat):Int) ((w2:Nat):Int) ex (ey - 1)),qF (decide (¬(Cr.pkd (Cr.scq l1 l2 ((w1:Nat):Int) ((vh1:Nat):Int) ((w2:Nat):Int) (ex - 1) ey) (Cr.scq l1 l2 ((w1:Nat):Int) ((vh1:Nat):Int) ((w2:Nat):Int) ex ey) (Cr.scq l1 l2 ((w1:Nat):Int) ((vh1:Nat):Int) ((w2:Nat):Int) (ex+1) ey)))) u13_1 u13_2 (if (Cr.pkd (Cr.scq l1 l2 ((w1:Nat):Int) ((vh1:Nat):Int) ((w2:Nat):Int) (ex - 1) ey) (Cr.scq l1 l2 ((w1:Nat):Int) ((vh1:Nat):Int) ((w2:Nat):Int) ex ey) (Cr.scq l1 l2 ((w1:Nat):Int) ((vh1:Nat):Int) ((w2:Nat):Int) (ex+1) ey)) then 0 else Cr.pkv (Cr.scq l1 l2 ((w1:Nat):Int) ((vh1:Nat):Int) ((w2:Nat):Int) (ex - 1) ey) (Cr.scq l1 l2 ((w1:Nat):Int) ((vh1:Nat):Int) ((w2:Nat):Int) ex ey) (Cr.scq l1 l2 ((w1:Nat):Int) ((vh1:Nat):Int) ((w2:Nat):Int) (ex+1) ey)),qF true u12_1 u12_2 (Cr.scq l1 l2 ((w1:Nat):Int) ((vh1:Nat):Int) ((w2:Nat):Int) (ex+1) ey),qF true u5_1 u5_2 (Cr.scq l1 l2 ((w1:Nat):Int) ((vh1:Nat):Int) ((w2:Nat):Int) (ex - 1) ey),qF true w37 w48 (Cr.scq l1 l2 ((w1:Nat):Int) ((vh1:Nat):Int) ((w2:Nat):Int) ex ey),slF (rI .i64) p1 c1 l1,slF (rI .i64) p2 c2 l2])) ?_ (fun hD0=> ?_)
    ·
     rintro ⟨u5_1r2,u5_2r2,u12_1r2,u12_2r2,u13_1r2,u13_2r2,u17_1r2⟩
     dsimp only [cw]
     refine zV (by kernel_rfl) ?_
     subst hqd1
     refine zf<|zh<|zUa (X:=Unit) (fun x=>True) (fun x=>[(102,.bool (decide (((if (Cr.pkd (Cr.scq l1 l2 ((w1:Nat):Int) ((vh1:Nat):Int) ((w2:Nat):Int) (ex - 1) ey) (Cr.scq l1 l2 ((w1:Nat):Int) ((vh1:Nat):Int) ((w2:Nat):Int) ex ey) (Cr.scq l1 l2 ((w1:Nat):Int) ((vh1:Nat):Int) ((w2:Nat):Int) (ex+1) ey)) then 13 else 0)≠0)∨(((if (Cr.pkd (Cr.scq l1 l2 ((w1:Nat):Int) ((vh1:Nat):Int) ((w2:Nat):Int) ex (ey - 1)) (Cr.scq l1 l2 ((w1:Nat):Int) ((vh1:Nat):Int) ((w2:Nat):Int) ex ey) (Cr.scq l1 l2 ((w1:Nat):Int) ((vh1:Nat):Int) ((w2:Nat):Int) ex (ey+1))) then 13 else 0):Int)≠0)))),(13,.pointer (some ⟨u17_1r2,0,none⟩)),(11,.pointer (some ⟨u17_1,0,none⟩)),(9,.int .i64 0),(8,.pointer (some ⟨b3,0,none⟩))]) (fun x=>[boxA u17_1r2 32 (cw [u13_1r2,u13_2r2]),boxA u17_1 32 (cw [u13_1,u13_2]),boxA b9 32 (cw [w37,w48]),boxA b3 55 [.bool false,.slice none 0 0,.bool false,.slice none 0 0,.bool false,.slice none 0 0,.bool false,.slice none 0 0],boxA b2 24 [.int .i64 ((w2:Nat):Int),.int .i64 ((vh2:Nat):Int),.int .i64 m2,.slice p2 n2 c2],boxA b1 24 [.int .i64 ((w1:Nat):Int),.int .i64 ((vh1:Nat):Int),.int .i64 m1,.slice p1 n1 c1]]) (fun x=>[qF (decide (¬(Cr.pkd (Cr.scq l1 l2 ((w1:Nat):Int) ((vh1:Nat):Int) ((w2:Nat):Int) ex (ey - 1)) (Cr.scq l1 l2 ((w1:Nat):Int) ((vh1:Nat):Int) ((w2:Nat):Int) ex ey) (Cr.scq l1 l2 ((w1:Nat):Int) ((vh1:Nat):Int) ((w2:Nat):Int) ex (ey+1))))) u13_1r2 u13_2r2 (if (Cr.pkd (Cr.scq l1 l2 ((w1:Nat):Int) ((vh1:Nat):Int) ((w2:Nat):Int) ex (ey - 1)) (Cr.scq l1 l2 ((w1:Nat):Int) ((vh1:Nat):Int) ((w2:Nat):Int) ex ey) (Cr.scq l1 l2 ((w1:Nat):Int) ((vh1:Nat):Int) ((w2:Nat):Int) ex (ey+1))) then 0 else Cr.pkv (Cr.scq l1 l2 ((w1:Nat):Int) ((vh1:Nat):Int) ((w2:Nat):Int) ex (ey - 1)) (Cr.scq l1 l2 ((w1:Nat):Int) ((vh1:Nat):Int) ((w2:Nat):Int) ex ey) (Cr.scq l1 l2 ((w1:Nat):Int) ((vh1:Nat):Int) ((w2:Nat):Int) ex (ey+1))),qF true u12_1r2 u12_2r2 (Cr.scq l1 l2 ((w1:Nat):Int) ((vh1:Nat):Int) ((w2:Nat):Int) ex (ey+1)),qF true u5_1r2 u5_2r2 (Cr.scq l1 l2 ((w1:Nat):Int) ((vh1:Nat):Int) ((w2:Nat):Int) ex (ey - 1)),qF (decide (¬(Cr.pkd (Cr.scq l1 l2 ((w1:Nat):Int) ((vh1:Nat):Int) ((w2:Nat):Int) (ex - 1) ey) (Cr.scq l1 l2 ((w1:Nat):Int) ((vh1:Nat):Int) ((w2:Nat):Int) ex ey) (Cr.scq l1 l2 ((w1:Nat):Int) ((vh1:Nat):Int) ((w2:Nat):Int) (ex+1) ey)))) u13_1 u13_2 (if (Cr.pkd (Cr.scq l1 l2 ((w1:Nat):Int) ((vh1:Nat):Int) ((w2:Nat):Int) (ex - 1) ey) (Cr.scq l1 l2 ((w1:Nat):Int) ((vh1:Nat):Int) ((w2:Nat):Int) ex ey) (Cr.scq l1 l2 ((w1:Nat):Int) ((vh1:Nat):Int) ((w2:Nat):Int) (ex+1) ey)) then 0 else Cr.pkv (Cr.scq l1 l2 ((w1:Nat):Int) ((vh1:Nat):Int) ((w2:Nat):Int) (ex - 1) ey) (Cr.scq l1 l2 ((w1:Nat):Int) ((vh1:Nat):Int) ((w2:Nat):Int) ex ey) (Cr.scq l1 l2 ((w1:Nat):Int) ((vh1:Nat):Int) ((w2:Nat):Int) (ex+1) ey)),qF true u12_1 u12_2 (Cr.scq l1 l2 ((w1:Nat):Int) ((vh1:Nat):Int) ((w2:Nat):Int) (ex+1) ey),qF true u5_1 u5_2 (Cr.scq l1 l2 ((w1:Nat):Int) ((vh1:Nat):Int) ((w2:Nat):Int) (ex - 1) ey),qF true w37 w48 (Cr.scq l1 l2 ((w1:Nat):Int) ((vh1:Nat):Int) ((w2:Nat):Int) ex ey),slF (rI .i64) p1 c1 l1,slF (rI .i64) p2 c2 l2]) ?_ ?_
     ·
      refine zc<|r_pv rfl rfl (za rfl)<|r_pv rfl rfl (zMa rfl rfl)<|zS rfl rfl (za rfl) (fun h10=> ?_) (fun h10=> ?_)
      ·
       refine zb rfl rfl<|zb rfl rfl<|r_pv rfl rfl (zm rfl rfl)<|zj ?_
       exact zha () (show True from by first|trivial|omega|simp_all) ((.e rfl (congrArg Value.bool (by first|(simp_all;done)|(simp_all;omega)|(simp;omega)|omega)) (.of rfl)):SubM _ _) (ho:=((.of [0,0,0,0,0,0] rfl):PickO _ _ _)) ((.of [0,1,2,3,4,5,6,7,8] rfl):SelR _ _ _)
      ·
       refine r_pv rfl rfl (za rfl)<|r_pv rfl rfl (zMa rfl rfl)<|r_pv rfl rfl (zm rfl rfl)<|zj ?_
       exact zha () (show True from by first|trivial|omega|simp_all) ((.e rfl (congrArg Value.bool (by first|(simp_all;done)|(simp_all;omega)|(simp;omega)|omega)) (.of rfl)):SubM _ _) (ho:=((.of [0,0,0,0,0,0] rfl):PickO _ _ _)) ((.of [0,1,2,3,4,5,6,7,8] rfl):SelR _ _ _)
     ·
      rintro ⟨⟩ -
      try dsimp only [cw]
      refine zJ rfl (fun hd=> ?_) (fun hd=> ?_)
      ·
       have hd9:(Cr.dg l1 l2 ((w1:Nat):Int) ((vh1:Nat):Int) ((w2:Nat):Int) ex ey):=hd.elim (fun k=>Or.inl (Decidable.not_not.1 (fun a=>k (if_neg a)))) (fun k=>Or.inr (Decidable.not_not.1 (fun a=>k (if_neg a))))
       refine zh<|zc<|r_pv rfl rfl (zE zr55 rfl Tryz.underlying55 (.c sz32 (.c sz32 .n)) .n .n)<|zl 3 rfl rfl rfl rfl rfl sz55 rfl (.take (.take (.take (.take (.take (.take (.take (.take .nil)))))))) (.s (.s (.s .z)))<|r_pv rfl rfl (ze rfl)<|zj<|zf<|zL<|zq<|zIa (qF false wz wz 0) (fun g _=>qF_none g) ?_
       have hg9:¬((Cr.ps4 ((w1:Nat):Int) ((vh1:Nat):Int) ((w2:Nat):Int) ((vh2:Nat):Int) ex ey)∧¬(Cr.dg l1 l2 ((w1:Nat):Int) ((vh1:Nat):Int) ((w2:Nat):Int) ex ey)):=fun k=>k.2 hd9
       exact zua Tryz.results24 (wz,wz,wz,wz) trivial (zp 3 ty55 rfl rfl (.take (.take (.take (.take (.take (.take (.take (.take .nil))))))))) (zt rfl) (by rw [if_pos hp9,if_pos hd9];rfl) (ho:=(.n:PickO _ _ _)) ((.e (j:=0) rfl (by rw [if_neg hg9,decide_eq_false hg9]) (.e (j:=0) rfl (by rw [if_neg hg9,decide_eq_false hg9]) .n)):SelR _ _ _)
      ·
       have hdx:¬(Cr.dgX l1 l2 ((w1:Nat):Int) ((vh1:Nat):Int) ((w2:Nat):Int) ex ey):=fun k=>hd (Or.inl (fun a=>by rw [if_pos (show Cr.pkd _ _ _ from k)] at a;cases a))
       have hdy:¬(Cr.dgY l1 l2 ((w1:Nat):Int) ((vh1:Nat):Int) ((w2:Nat):Int) ex ey):=fun k=>hd (Or.inr (fun a=>by rw [if_pos (show Cr.pkd _ _ _ from k)] at a;cases a))
       have hd9:¬(Cr.dg l1 l2 ((w1:Nat):Int) ((vh1:Nat):Int) ((w2:Nat):Int) ex ey):=fun k=>k.elim hdx hdy
       refine zH<|zf<|zh<|zc<|r_u rfl rfl (zd 1 ty32 rfl rfl (.take (.take (.take (.take .nil)))))<|r_u rfl rfl (zd 0 ty32 rfl rfl (.take (.take (.take (.take .nil)))))<|r_pv rfl rfl (zE zr55 rfl Tryz.underlying55 (.c sz32 (.c sz32 .n)) (.c rfl (.c rfl .n)) (.c rfl rfl rfl (.take (.take (.take (.take .nil)))) (.c rfl rfl rfl (.skip (.skip (.skip (.skip (.take (.take (.take (.take .nil)))))))) .n)))<|zl 3 rfl rfl rfl rfl rfl sz55 rfl (.take (.take (.take (.take (.take (.take (.take (.take .nil)))))))) (.s (.s (.s .z)))<|r_pv rfl rfl (ze rfl)<|zj<|zf<|zL ?_
       have hg9:((Cr.ps4 ((w1:Nat):Int) ((vh1:Nat):Int) ((w2:Nat):Int) ((vh2:Nat):Int) ex ey)∧¬(Cr.dg l1 l2 ((w1:Nat):Int) ((vh1:Nat):Int) ((w2:Nat):Int) ex ey)):=⟨hp9,hd9⟩
       exact zua Tryz.results24 (u13_1,u13_2,u13_1r2,u13_2r2) trivial (zp 3 ty55 rfl rfl (.take (.take (.take (.take (.take (.take (.take (.take .nil))))))))) (zt rfl) (by rw [if_pos hp9,if_neg hd9]) (ho:=(.n:PickO _ _ _)) ((.e (j:=3) rfl (by rw [if_pos hg9,decide_eq_true hg9,if_neg (show ¬Cr.pkd _ _ _ from hdx),decide_eq_true (show ¬Cr.pkd _ _ _ from hdx),Cr.vlX]) (.e (j:=0) rfl (by rw [if_pos hg9,decide_eq_true hg9,if_neg (show ¬Cr.pkd _ _ _ from hdy),decide_eq_true (show ¬Cr.pkd _ _ _ from hdy),Cr.vlY]) .n)):SelR _ _ _)
    refine zga (X:=Wd×Wd×Wd×Wd×Wd×Wd×Nat) (k':=2) (L':=(lb 20 262143)) (fun (u5_1r2,u5_2r2,u12_1r2,u12_2r2,u13_1r2,u13_2r2,u17_1r2)=>([(13,.pointer (some ⟨u17_1r2,0,none⟩)),(96,.int .i64 (if (Cr.pkd (Cr.scq l1 l2 ((w1:Nat):Int) ((vh1:Nat):Int) ((w2:Nat):Int) ex (ey - 1)) (Cr.scq l1 l2 ((w1:Nat):Int) ((vh1:Nat):Int) ((w2:Nat):Int) ex ey) (Cr.scq l1 l2 ((w1:Nat):Int) ((vh1:Nat):Int) ((w2:Nat):Int) ex (ey+1))) then 13 else 0)),(95,.agg (cw [u13_1r2,u13_2r2]).toArray),(12,.int .i64 qd1),(11,.pointer (some ⟨u17_1,0,none⟩)),(9,.int .i64 0),(8,.pointer (some ⟨b3,0,none⟩))],[boxA u17_1r2 32 [.bool false,.slice none 0 0,.bool false,.slice none 0 0]],[boxA u17_1 32 (cw [u13_1,u13_2]),boxA b9 32 (cw [w37,w48]),boxA b3 55 [.bool false,.slice none 0 0,.bool false,.slice none 0 0,.bool false,.slice none 0 0,.bool false,.slice none 0 0],boxA b2 24 [.int .i64 ((w2:Nat):Int),.int .i64 ((vh2:Nat):Int),.int .i64 m2,.slice p2 n2 c2],boxA b1 24 [.int .i64 ((w1:Nat):Int),.int .i64 ((vh1:Nat):Int),.int .i64 m1,.slice p1 n1 c1]],[qF (decide (¬(Cr.pkd (Cr.scq l1 l2 ((w1:Nat):Int) ((vh1:Nat):Int) ((w2:Nat):Int) ex (ey - 1)) (Cr.scq l1 l2 ((w1:Nat):Int) ((vh1:Nat):Int) ((w2:Nat):Int) ex ey) (Cr.scq l1 l2 ((w1:Nat):Int) ((vh1:Nat):Int) ((w2:Nat):Int) ex (ey+1))))) u13_1r2 u13_2r2 (if (Cr.pkd (Cr.scq l1 l2 ((w1:Nat):Int) ((vh1:Nat):Int) ((w2:Nat):Int) ex (ey - 1)) (Cr.scq l1 l2 ((w1:Nat):Int) ((vh1:Nat):Int) ((w2:Nat):Int) ex ey) (Cr.scq l1 l2 ((w1:Nat):Int) ((vh1:Nat):Int) ((w2:Nat):Int) ex (ey+1))) then 0 else Cr.pkv (Cr.scq l1 l2 ((w1:Nat):Int) ((vh1:Nat):Int) ((w2:Nat):Int) ex (ey - 1)) (Cr.scq l1 l2 ((w1:Nat):Int) ((vh1:Nat):Int) ((w2:Nat):Int) ex ey) (Cr.scq l1 l2 ((w1:Nat):Int) ((vh1:Nat):Int) ((w2:Nat):Int) ex (ey+1))),qF true u12_1r2 u12_2r2 (Cr.scq l1 l2 ((w1:Nat):Int) ((vh1:Nat):Int) ((w2:Nat):Int) ex (ey+1)),qF true u5_1r2 u5_2r2 (Cr.scq l1 l2 ((w1:Nat):Int) ((vh1:Nat):Int) ((w2:Nat):Int) ex (ey - 1)),qF (decide (¬(Cr.pkd (Cr.scq l1 l2 ((w1:Nat):Int) ((vh1:Nat):Int) ((w2:Nat):Int) (ex - 1) ey) (Cr.scq l1 l2 ((w1:Nat):Int) ((vh1:Nat):Int) ((w2:Nat):Int) ex ey) (Cr.scq l1 l2 ((w1:Nat):Int) ((vh1:Nat):Int) ((w2:Nat):Int) (ex+1) ey)))) u13_1 u13_2 (if (Cr.pkd (Cr.scq l1 l2 ((w1:Nat):Int) ((vh1:Nat):Int) ((w2:Nat):Int) (ex - 1) ey) (Cr.scq l1 l2 ((w1:Nat):Int) ((vh1:Nat):Int) ((w2:Nat):Int) ex ey) (Cr.scq l1 l2 ((w1:Nat):Int) ((vh1:Nat):Int) ((w2:Nat):Int) (ex+1) ey)) then 0 else Cr.pkv (Cr.scq l1 l2 ((w1:Nat):Int) ((vh1:Nat):Int) ((w2:Nat):Int) (ex - 1) ey) (Cr.scq l1 l2 ((w1:Nat):Int) ((vh1:Nat):Int) ((w2:Nat):Int) ex ey) (Cr.scq l1 l2 ((w1:Nat):Int) ((vh1:Nat):Int) ((w2:Nat):Int) (ex+1) ey)),qF true u12_1 u12_2 (Cr.scq l1 l2 ((w1:Nat):Int) ((vh1:Nat):Int) ((w2:Nat):Int) (ex+1) ey),qF true u5_1 u5_2 (Cr.scq l1 l2 ((w1:Nat):Int) ((vh1:Nat):Int) ((w2:Nat):Int) (ex - 1) ey),qF true w37 w48 (Cr.scq l1 l2 ((w1:Nat):Int) ((vh1:Nat):Int) ((w2:Nat):Int) ex ey),slF (rI .i64) p1 c1 l1,slF (rI .i64) p2 c2 l2])) ?_ (fun hD1=> ?_)
    ·
     rintro ⟨u5_1r2,u5_2r2,u12_1r2,u12_2r2,u13_1r2,u13_2r2,u17_1r2⟩
     dsimp only [cw]
     refine zD 18 (by kernel_rfl) ?_
     ·
      refine zy (by kernel_rfl) rfl rfl rfl rfl rfl sz32 rfl (.take (.take (.take (.take .nil))))<|d_pv 19 rfl rfl (by kernel_rfl) (by kernel_rfl) rfl rfl (ze rfl) ?_
      exact zO (hD0 (u5_1r2,u5_2r2,u12_1r2,u12_2r2,u13_1r2,u13_2r2,u17_1r2)) (by kernel_rfl) ((.of rfl):SubM _ _) .rfl .rfl ((.of [0,1,2,3,4,5,6,7,8] rfl):SelR _ _ _)
    refine zga (X:=Wd×Wd×Wd×Wd×Wd×Wd) (k':=3) (L':=(lb 20 131071)) (fun (u5_1r2,u5_2r2,u12_1r2,u12_2r2,u13_1r2,u13_2r2)=>([(96,.int .i64 (if (Cr.pkd (Cr.scq l1 l2 ((w1:Nat):Int) ((vh1:Nat):Int) ((w2:Nat):Int) ex (ey - 1)) (Cr.scq l1 l2 ((w1:Nat):Int) ((vh1:Nat):Int) ((w2:Nat):Int) ex ey) (Cr.scq l1 l2 ((w1:Nat):Int) ((vh1:Nat):Int) ((w2:Nat):Int) ex (ey+1))) then 13 else 0)),(95,.agg (cw [u13_1r2,u13_2r2]).toArray),(12,.int .i64 qd1),(11,.pointer (some ⟨u17_1,0,none⟩)),(9,.int .i64 0),(8,.pointer (some ⟨b3,0,none⟩))],[],[boxA u17_1 32 (cw [u13_1,u13_2]),boxA b9 32 (cw [w37,w48]),boxA b3 55 [.bool false,.slice none 0 0,.bool false,.slice none 0 0,.bool false,.slice none 0 0,.bool false,.slice none 0 0],boxA b2 24 [.int .i64 ((w2:Nat):Int),.int .i64 ((vh2:Nat):Int),.int .i64 m2,.slice p2 n2 c2],boxA b1 24 [.int .i64 ((w1:Nat):Int),.int .i64 ((vh1:Nat):Int),.int .i64 m1,.slice p1 n1 c1]],[qF (decide (¬(Cr.pkd (Cr.scq l1 l2 ((w1:Nat):Int) ((vh1:Nat):Int) ((w2:Nat):Int) ex (ey - 1)) (Cr.scq l1 l2 ((w1:Nat):Int) ((vh1:Nat):Int) ((w2:Nat):Int) ex ey) (Cr.scq l1 l2 ((w1:Nat):Int) ((vh1:Nat):Int) ((w2:Nat):Int) ex (ey+1))))) u13_1r2 u13_2r2 (if (Cr.pkd (Cr.scq l1 l2 ((w1:Nat):Int) ((vh1:Nat):Int) ((w2:Nat):Int) ex (ey - 1)) (Cr.scq l1 l2 ((w1:Nat):Int) ((vh1:Nat):Int) ((w2:Nat):Int) ex ey) (Cr.scq l1 l2 ((w1:Nat):Int) ((vh1:Nat):Int) ((w2:Nat):Int) ex (ey+1))) then 0 else Cr.pkv (Cr.scq l1 l2 ((w1:Nat):Int) ((vh1:Nat):Int) ((w2:Nat):Int) ex (ey - 1)) (Cr.scq l1 l2 ((w1:Nat):Int) ((vh1:Nat):Int) ((w2:Nat):Int) ex ey) (Cr.scq l1 l2 ((w1:Nat):Int) ((vh1:Nat):Int) ((w2:Nat):Int) ex (ey+1))),qF true u12_1r2 u12_2r2 (Cr.scq l1 l2 ((w1:Nat):Int) ((vh1:Nat):Int) ((w2:Nat):Int) ex (ey+1)),qF true u5_1r2 u5_2r2 (Cr.scq l1 l2 ((w1:Nat):Int) ((vh1:Nat):Int) ((w2:Nat):Int) ex (ey - 1)),qF (decide (¬(Cr.pkd (Cr.scq l1 l2 ((w1:Nat):Int) ((vh1:Nat):Int) ((w2:Nat):Int) (ex - 1) ey) (Cr.scq l1 l2 ((w1:Nat):Int) ((vh1:Nat):Int) ((w2:Nat):Int) ex ey) (Cr.scq l1 l2 ((w1:Nat):Int) ((vh1:Nat):Int) ((w2:Nat):Int) (ex+1) ey)))) u13_1 u13_2 (if (Cr.pkd (Cr.scq l1 l2 ((w1:Nat):Int) ((vh1:Nat):Int) ((w2:Nat):Int) (ex - 1) ey) (Cr.scq l1 l2 ((w1:Nat):Int) ((vh1:Nat):Int) ((w2:Nat):Int) ex ey) (Cr.scq l1 l2 ((w1:Nat):Int) ((vh1:Nat):Int) ((w2:Nat):Int) (ex+1) ey)) then 0 else Cr.pkv (Cr.scq l1 l2 ((w1:Nat):Int) ((vh1:Nat):Int) ((w2:Nat):Int) (ex - 1) ey) (Cr.scq l1 l2 ((w1:Nat):Int) ((vh1:Nat):Int) ((w2:Nat):Int) ex ey) (Cr.scq l1 l2 ((w1:Nat):Int) ((vh1:Nat):Int) ((w2:Nat):Int) (ex+1) ey)),qF true u12_1 u12_2 (Cr.scq l1 l2 ((w1:Nat):Int) ((vh1:Nat):Int) ((w2:Nat):Int) (ex+1) ey),qF true u5_1 u5_2 (Cr.scq l1 l2 ((w1:Nat):Int) ((vh1:Nat):Int) ((w2:Nat):Int) (ex - 1) ey),qF true w37 w48 (Cr.scq l1 l2 ((w1:Nat):Int) ((vh1:Nat):Int) ((w2:Nat):Int) ex ey),slF (rI .i64) p1 c1 l1,slF (rI .i64) p2 c2 l2])) ?_ (fun hD2=> ?_)
    ·
     rintro ⟨u5_1r2,u5_2r2,u12_1r2,u12_2r2,u13_1r2,u13_2r2⟩
     dsimp only [cw]
     refine zD 17 (by kernel_rfl) ?_
     ·
      refine zBa rfl rfl rfl rfl (zu zr32 rfl) (fun u17_1r2 _=> ?_)
      exact zO (hD1 (u5_1r2,u5_2r2,u12_1r2,u12_2r2,u13_1r2,u13_2r2,u17_1r2)) (by kernel_rfl) ((.of rfl):SubM _ _) .rfl .rfl ((.of [0,1,2,3,4,5,6,7,8] rfl):SelR _ _ _)
    refine zga (X:=Wd×Wd×Wd×Wd×Nat) (k':=6) (L':=(lb 20 139263)) (fun (u5_1r2,u5_2r2,u12_1r2,u12_2r2,u17_1r2)=>([(13,.pointer (some ⟨u17_1r2,0,none⟩)),(93,.agg (cw [u12_1r2,u12_2r2]).toArray),(86,.agg (cw [u5_1r2,u5_2r2]).toArray),(87,.agg (cw [w37,w48]).toArray),(12,.int .i64 qd1),(11,.pointer (some ⟨u17_1,0,none⟩)),(9,.int .i64 0),(8,.pointer (some ⟨b3,0,none⟩))],[boxA u17_1r2 32 [.bool false,.slice none 0 0,.bool false,.slice none 0 0]],[boxA u17_1 32 (cw [u13_1,u13_2]),boxA b9 32 (cw [w37,w48]),boxA b3 55 [.bool false,.slice none 0 0,.bool false,.slice none 0 0,.bool false,.slice none 0 0,.bool false,.slice none 0 0],boxA b2 24 [.int .i64 ((w2:Nat):Int),.int .i64 ((vh2:Nat):Int),.int .i64 m2,.slice p2 n2 c2],boxA b1 24 [.int .i64 ((w1:Nat):Int),.int .i64 ((vh1:Nat):Int),.int .i64 m1,.slice p1 n1 c1]],[qF true u12_1r2 u12_2r2 (Cr.scq l1 l2 ((w1:Nat):Int) ((vh1:Nat):Int) ((w2:Nat):Int) ex (ey+1)),qF true u5_1r2 u5_2r2 (Cr.scq l1 l2 ((w1:Nat):Int) ((vh1:Nat):Int) ((w2:Nat):Int) ex (ey - 1)),qF (decide (¬(Cr.pkd (Cr.scq l1 l2 ((w1:Nat):Int) ((vh1:Nat):Int) ((w2:Nat):Int) (ex - 1) ey) (Cr.scq l1 l2 ((w1:Nat):Int) ((vh1:Nat):Int) ((w2:Nat):Int) ex ey) (Cr.scq l1 l2 ((w1:Nat):Int) ((vh1:Nat):Int) ((w2:Nat):Int) (ex+1) ey)))) u13_1 u13_2 (if (Cr.pkd (Cr.scq l1 l2 ((w1:Nat):Int) ((vh1:Nat):Int) ((w2:Nat):Int) (ex - 1) ey) (Cr.scq l1 l2 ((w1:Nat):Int) ((vh1:Nat):Int) ((w2:Nat):Int) ex ey) (Cr.scq l1 l2 ((w1:Nat):Int) ((vh1:Nat):Int) ((w2:Nat):Int) (ex+1) ey)) then 0 else Cr.pkv (Cr.scq l1 l2 ((w1:Nat):Int) ((vh1:Nat):Int) ((w2:Nat):Int) (ex - 1) ey) (Cr.scq l1 l2 ((w1:Nat):Int) ((vh1:Nat):Int) ((w2:Nat):Int) ex ey) (Cr.scq l1 l2 ((w1:Nat):Int) ((vh1:Nat):Int) ((w2:Nat):Int) (ex+1) ey)),qF true u12_1 u12_2 (Cr.scq l1 l2 ((w1:Nat):Int) ((vh1:Nat):Int) ((w2:Nat):Int) (ex+1) ey),qF true u5_1 u5_2 (Cr.scq l1 l2 ((w1:Nat):Int) ((vh1:Nat):Int) ((w2:Nat):Int) (ex - 1) ey),qF true w37 w48 (Cr.scq l1 l2 ((w1:Nat):Int) ((vh1:Nat):Int) ((w2:Nat):Int) ex ey),slF (rI .i64) p1 c1 l1,slF (rI .i64) p2 c2 l2])) ?_ (fun hD3=> ?_)
    ·
     rintro ⟨u5_1r2,u5_2r2,u12_1r2,u12_2r2,u17_1r2⟩
     dsimp only [cw]
     refine zD 13 (by kernel_rfl) ?_
     ·
      refine zv rfl rfl rfl rfl (.c rfl (.c rfl (.c rfl .n))) ce51 (zec (u1:=u5_1r2) (v1:=u5_2r2) (q1:=(Cr.scq l1 l2 ((w1:Nat):Int) ((vh1:Nat):Int) ((w2:Nat):Int) ex (ey - 1))) (u2:=w37) (v2:=w48) (q2:=(Cr.scq l1 l2 ((w1:Nat):Int) ((vh1:Nat):Int) ((w2:Nat):Int) ex ey)) (u3:=u12_1r2) (v3:=u12_2r2) (q3:=(Cr.scq l1 l2 ((w1:Nat):Int) ((vh1:Nat):Int) ((w2:Nat):Int) ex (ey+1))) (hq1:=by first|rfl|assumption|exact Cr.ps4_mid hp9|exact hp9.1|exact hp9.2.1|exact hp9.2.2.1|exact hp9.2.2.2|omega) (hq2:=by first|rfl|assumption|exact Cr.ps4_mid hp9|exact hp9.1|exact hp9.2.1|exact hp9.2.2.1|exact hp9.2.2.2|omega) (hq3:=by first|rfl|assumption|exact Cr.ps4_mid hp9|exact hp9.1|exact hp9.2.1|exact hp9.2.2.1|exact hp9.2.2.2|omega)) (.c (j:=1) rfl (.c (j:=5) rfl (.c (j:=0) rfl .n))) ?_
      rintro ⟨u13_1r2,u13_2r2⟩ -
      dsimp only [List.append_eq,List.nil_append,List.cons_append]
      refine d_pv 14 rfl rfl (by kernel_rfl) (by kernel_rfl) rfl rfl (za rfl)<|d_pv 15 rfl rfl (by kernel_rfl) (by kernel_rfl) rfl rfl (zo rfl rfl)<|d_pv 16 rfl rfl (by kernel_rfl) (by kernel_rfl) rfl rfl (zo rfl rfl) ?_
      exact zO (hD1 (u5_1r2,u5_2r2,u12_1r2,u12_2r2,u13_1r2,u13_2r2,u17_1r2)) (by kernel_rfl) ((.of rfl):SubM _ _) .rfl .rfl ((.of [0,1,2,3,4,5,6,7,8] rfl):SelR _ _ _)
    refine zga (X:=Wd×Wd×Wd×Wd) (k':=7) (L':=(lb 20 8191)) (fun (u5_1r2,u5_2r2,u12_1r2,u12_2r2)=>([(93,.agg (cw [u12_1r2,u12_2r2]).toArray),(86,.agg (cw [u5_1r2,u5_2r2]).toArray),(87,.agg (cw [w37,w48]).toArray),(12,.int .i64 qd1),(11,.pointer (some ⟨u17_1,0,none⟩)),(9,.int .i64 0),(8,.pointer (some ⟨b3,0,none⟩))],[],[boxA u17_1 32 (cw [u13_1,u13_2]),boxA b9 32 (cw [w37,w48]),boxA b3 55 [.bool false,.slice none 0 0,.bool false,.slice none 0 0,.bool false,.slice none 0 0,.bool false,.slice none 0 0],boxA b2 24 [.int .i64 ((w2:Nat):Int),.int .i64 ((vh2:Nat):Int),.int .i64 m2,.slice p2 n2 c2],boxA b1 24 [.int .i64 ((w1:Nat):Int),.int .i64 ((vh1:Nat):Int),.int .i64 m1,.slice p1 n1 c1]],[qF true u12_1r2 u12_2r2 (Cr.scq l1 l2 ((w1:Nat):Int) ((vh1:Nat):Int) ((w2:Nat):Int) ex (ey+1)),qF true u5_1r2 u5_2r2 (Cr.scq l1 l2 ((w1:Nat):Int) ((vh1:Nat):Int) ((w2:Nat):Int) ex (ey - 1)),qF (decide (¬(Cr.pkd (Cr.scq l1 l2 ((w1:Nat):Int) ((vh1:Nat):Int) ((w2:Nat):Int) (ex - 1) ey) (Cr.scq l1 l2 ((w1:Nat):Int) ((vh1:Nat):Int) ((w2:Nat):Int) ex ey) (Cr.scq l1 l2 ((w1:Nat):Int) ((vh1:Nat):Int) ((w2:Nat):Int) (ex+1) ey)))) u13_1 u13_2 (if (Cr.pkd (Cr.scq l1 l2 ((w1:Nat):Int) ((vh1:Nat):Int) ((w2:Nat):Int) (ex - 1) ey) (Cr.scq l1 l2 ((w1:Nat):Int) ((vh1:Nat):Int) ((w2:Nat):Int) ex ey) (Cr.scq l1 l2 ((w1:Nat):Int) ((vh1:Nat):Int) ((w2:Nat):Int) (ex+1) ey)) then 0 else Cr.pkv (Cr.scq l1 l2 ((w1:Nat):Int) ((vh1:Nat):Int) ((w2:Nat):Int) (ex - 1) ey) (Cr.scq l1 l2 ((w1:Nat):Int) ((vh1:Nat):Int) ((w2:Nat):Int) ex ey) (Cr.scq l1 l2 ((w1:Nat):Int) ((vh1:Nat):Int) ((w2:Nat):Int) (ex+1) ey)),qF true u12_1 u12_2 (Cr.scq l1 l2 ((w1:Nat):Int) ((vh1:Nat):Int) ((w2:Nat):Int) (ex+1) ey),qF true u5_1 u5_2 (Cr.scq l1 l2 ((w1:Nat):Int) ((vh1:Nat):Int) ((w2:Nat):Int) (ex - 1) ey),qF true w37 w48 (Cr.scq l1 l2 ((w1:Nat):Int) ((vh1:Nat):Int) ((w2:Nat):Int) ex ey),slF (rI .i64) p1 c1 l1,slF (rI .i64) p2 c2 l2])) ?_ (fun hD4=> ?_)
    ·
     rintro ⟨u5_1r2,u5_2r2,u12_1r2,u12_2r2⟩
     dsimp only [cw]
     refine zlb 13 17 (by kernel_rfl) ?_ ?_
     ·
      refine zv rfl rfl rfl rfl (.c rfl (.c rfl (.c rfl .n))) ce51 (zec (u1:=u5_1r2) (v1:=u5_2r2) (q1:=(Cr.scq l1 l2 ((w1:Nat):Int) ((vh1:Nat):Int) ((w2:Nat):Int) ex (ey - 1))) (u2:=w37) (v2:=w48) (q2:=(Cr.scq l1 l2 ((w1:Nat):Int) ((vh1:Nat):Int) ((w2:Nat):Int) ex ey)) (u3:=u12_1r2) (v3:=u12_2r2) (q3:=(Cr.scq l1 l2 ((w1:Nat):Int) ((vh1:Nat):Int) ((w2:Nat):Int) ex (ey+1))) (hq1:=by first|rfl|assumption|exact Cr.ps4_mid hp9|exact hp9.1|exact hp9.2.1|exact hp9.2.2.1|exact hp9.2.2.2|omega) (hq2:=by first|rfl|assumption|exact Cr.ps4_mid hp9|exact hp9.1|exact hp9.2.1|exact hp9.2.2.1|exact hp9.2.2.2|omega) (hq3:=by first|rfl|assumption|exact Cr.ps4_mid hp9|exact hp9.1|exact hp9.2.1|exact hp9.2.2.1|exact hp9.2.2.2|omega)) (.c (j:=1) rfl (.c (j:=5) rfl (.c (j:=0) rfl .n))) ?_
      rintro ⟨u13_1r2,u13_2r2⟩ -
      dsimp only [List.append_eq,List.nil_append,List.cons_append]
      refine d_pv 14 rfl rfl (by kernel_rfl) (by kernel_rfl) rfl rfl (za rfl)<|d_pv 15 rfl rfl (by kernel_rfl) (by kernel_rfl) rfl rfl (zo rfl rfl)<|d_pv 16 rfl rfl (by kernel_rfl) (by kernel_rfl) rfl rfl (zo rfl rfl) ?_
      exact zO (hD2 (u5_1r2,u5_2r2,u12_1r2,u12_2r2,u13_1r2,u13_2r2)) (by kernel_rfl) ((.of rfl):SubM _ _) .rfl .rfl ((.of [0,1,2,3,4,5,6,7,8] rfl):SelR _ _ _)
     ·
      refine zBa rfl rfl rfl rfl (zu zr32 rfl) (fun u17_1r2 _=> ?_)
      exact zO (hD3 (u5_1r2,u5_2r2,u12_1r2,u12_2r2,u17_1r2)) (by kernel_rfl) ((.of rfl):SubM _ _) .rfl .rfl ((.of [0,1,2,3,4,5,6,7] rfl):SelR _ _ _)
    refine zga (X:=Wd×Wd×Nat) (k':=7) (L':=(lb 20 135167)) (fun (u5_1r2,u5_2r2,u17_1r2)=>([(13,.pointer (some ⟨u17_1r2,0,none⟩)),(86,.agg (cw [u5_1r2,u5_2r2]).toArray),(92,.int .i64 (ey+1)),(90,.int .i64 ex),(89,.agg #[.int .i64 ((w2:Nat):Int),.int .i64 ((vh2:Nat):Int),.int .i64 m2,.slice p2 n2 c2]),(88,.agg #[.int .i64 ((w1:Nat):Int),.int .i64 ((vh1:Nat):Int),.int .i64 m1,.slice p1 n1 c1]),(87,.agg (cw [w37,w48]).toArray),(12,.int .i64 qd1),(11,.pointer (some ⟨u17_1,0,none⟩)),(9,.int .i64 0),(8,.pointer (some ⟨b3,0,none⟩))],[boxA u17_1r2 32 [.bool false,.slice none 0 0,.bool false,.slice none 0 0]],[boxA u17_1 32 (cw [u13_1,u13_2]),boxA b9 32 (cw [w37,w48]),boxA b3 55 [.bool false,.slice none 0 0,.bool false,.slice none 0 0,.bool false,.slice none 0 0,.bool false,.slice none 0 0],boxA b2 24 [.int .i64 ((w2:Nat):Int),.int .i64 ((vh2:Nat):Int),.int .i64 m2,.slice p2 n2 c2],boxA b1 24 [.int .i64 ((w1:Nat):Int),.int .i64 ((vh1:Nat):Int),.int .i64 m1,.slice p1 n1 c1]],[qF true u5_1r2 u5_2r2 (Cr.scq l1 l2 ((w1:Nat):Int) ((vh1:Nat):Int) ((w2:Nat):Int) ex (ey - 1)),qF (decide (¬(Cr.pkd (Cr.scq l1 l2 ((w1:Nat):Int) ((vh1:Nat):Int) ((w2:Nat):Int) (ex - 1) ey) (Cr.scq l1 l2 ((w1:Nat):Int) ((vh1:Nat):Int) ((w2:Nat):Int) ex ey) (Cr.scq l1 l2 ((w1:Nat):Int) ((vh1:Nat):Int) ((w2:Nat):Int) (ex+1) ey)))) u13_1 u13_2 (if (Cr.pkd (Cr.scq l1 l2 ((w1:Nat):Int) ((vh1:Nat):Int) ((w2:Nat):Int) (ex - 1) ey) (Cr.scq l1 l2 ((w1:Nat):Int) ((vh1:Nat):Int) ((w2:Nat):Int) ex ey) (Cr.scq l1 l2 ((w1:Nat):Int) ((vh1:Nat):Int) ((w2:Nat):Int) (ex+1) ey)) then 0 else Cr.pkv (Cr.scq l1 l2 ((w1:Nat):Int) ((vh1:Nat):Int) ((w2:Nat):Int) (ex - 1) ey) (Cr.scq l1 l2 ((w1:Nat):Int) ((vh1:Nat):Int) ((w2:Nat):Int) ex ey) (Cr.scq l1 l2 ((w1:Nat):Int) ((vh1:Nat):Int) ((w2:Nat):Int) (ex+1) ey)),qF true u12_1 u12_2 (Cr.scq l1 l2 ((w1:Nat):Int) ((vh1:Nat):Int) ((w2:Nat):Int) (ex+1) ey),qF true u5_1 u5_2 (Cr.scq l1 l2 ((w1:Nat):Int) ((vh1:Nat):Int) ((w2:Nat):Int) (ex - 1) ey),qF true w37 w48 (Cr.scq l1 l2 ((w1:Nat):Int) ((vh1:Nat):Int) ((w2:Nat):Int) ex ey),slF (rI .i64) p1 c1 l1,slF (rI .i64) p2 c2 l2])) ?_ (fun hD5=> ?_)
    ·
     rintro ⟨u5_1r2,u5_2r2,u17_1r2⟩
     dsimp only [cw]
     refine zD 12 (by kernel_rfl) ?_
     ·
      refine zv rfl rfl rfl rfl (.c rfl (.c rfl (.c rfl (.c rfl .n)))) ce13 (zHa (w1:=w1) (vh1:=vh1) (m1:=m1) (p1:=p1) (n1:=n1) (c1:=c1) (l1:=l1) (w2:=w2) (vh2:=vh2) (m2:=m2) (p2:=p2) (n2:=n2) (c2:=c2) (l2:=l2) (ex:=ex) (ey:=(ey+1)) (hn1:=by assumption) (hw1:=by assumption) (hh1:=by assumption) (hwh1:=by assumption) (hb1:=by assumption) (hg1:=by assumption) (hn2:=by assumption) (hw2:=by assumption) (hh2:=by assumption) (hwh2:=by assumption) (hb2:=by assumption) (hg2:=by assumption) (hp:=by first|rfl|assumption|exact Cr.ps4_mid hp9|exact hp9.1|exact hp9.2.1|exact hp9.2.2.1|exact hp9.2.2.2|omega)) (.c (j:=5) rfl (.c (j:=6) rfl .n)) ?_
      rintro ⟨u12_1r2,u12_2r2⟩ -
      dsimp only [List.append_eq,List.nil_append,List.cons_append]
      exact zO (hD3 (u5_1r2,u5_2r2,u12_1r2,u12_2r2,u17_1r2)) (by kernel_rfl) ((.of rfl):SubM _ _) .rfl .rfl ((.of [0,1,2,3,4,5,6,7] rfl):SelR _ _ _)
    refine zga (X:=Wd×Wd) (k':=8) (L':=(lb 20 4095)) (fun (u5_1r2,u5_2r2)=>([(86,.agg (cw [u5_1r2,u5_2r2]).toArray),(92,.int .i64 (ey+1)),(90,.int .i64 ex),(89,.agg #[.int .i64 ((w2:Nat):Int),.int .i64 ((vh2:Nat):Int),.int .i64 m2,.slice p2 n2 c2]),(88,.agg #[.int .i64 ((w1:Nat):Int),.int .i64 ((vh1:Nat):Int),.int .i64 m1,.slice p1 n1 c1]),(87,.agg (cw [w37,w48]).toArray),(12,.int .i64 qd1),(11,.pointer (some ⟨u17_1,0,none⟩)),(9,.int .i64 0),(8,.pointer (some ⟨b3,0,none⟩))],[],[boxA u17_1 32 (cw [u13_1,u13_2]),boxA b9 32 (cw [w37,w48]),boxA b3 55 [.bool false,.slice none 0 0,.bool false,.slice none 0 0,.bool false,.slice none 0 0,.bool false,.slice none 0 0],boxA b2 24 [.int .i64 ((w2:Nat):Int),.int .i64 ((vh2:Nat):Int),.int .i64 m2,.slice p2 n2 c2],boxA b1 24 [.int .i64 ((w1:Nat):Int),.int .i64 ((vh1:Nat):Int),.int .i64 m1,.slice p1 n1 c1]],[qF true u5_1r2 u5_2r2 (Cr.scq l1 l2 ((w1:Nat):Int) ((vh1:Nat):Int) ((w2:Nat):Int) ex (ey - 1)),qF (decide (¬(Cr.pkd (Cr.scq l1 l2 ((w1:Nat):Int) ((vh1:Nat):Int) ((w2:Nat):Int) (ex - 1) ey) (Cr.scq l1 l2 ((w1:Nat):Int) ((vh1:Nat):Int) ((w2:Nat):Int) ex ey) (Cr.scq l1 l2 ((w1:Nat):Int) ((vh1:Nat):Int) ((w2:Nat):Int) (ex+1) ey)))) u13_1 u13_2 (if (Cr.pkd (Cr.scq l1 l2 ((w1:Nat):Int) ((vh1:Nat):Int) ((w2:Nat):Int) (ex - 1) ey) (Cr.scq l1 l2 ((w1:Nat):Int) ((vh1:Nat):Int) ((w2:Nat):Int) ex ey) (Cr.scq l1 l2 ((w1:Nat):Int) ((vh1:Nat):Int) ((w2:Nat):Int) (ex+1) ey)) then 0 else Cr.pkv (Cr.scq l1 l2 ((w1:Nat):Int) ((vh1:Nat):Int) ((w2:Nat):Int) (ex - 1) ey) (Cr.scq l1 l2 ((w1:Nat):Int) ((vh1:Nat):Int) ((w2:Nat):Int) ex ey) (Cr.scq l1 l2 ((w1:Nat):Int) ((vh1:Nat):Int) ((w2:Nat):Int) (ex+1) ey)),qF true u12_1 u12_2 (Cr.scq l1 l2 ((w1:Nat):Int) ((vh1:Nat):Int) ((w2:Nat):Int) (ex+1) ey),qF true u5_1 u5_2 (Cr.scq l1 l2 ((w1:Nat):Int) ((vh1:Nat):Int) ((w2:Nat):Int) (ex - 1) ey),qF true w37 w48 (Cr.scq l1 l2 ((w1:Nat):Int) ((vh1:Nat):Int) ((w2:Nat):Int) ex ey),slF (rI .i64) p1 c1 l1,slF (rI .i64) p2 c2 l2])) ?_ (fun hD6=> ?_)
    ·
     rintro ⟨u5_1r2,u5_2r2⟩
     dsimp only [cw]
     refine zlb 12 17 (by kernel_rfl) ?_ ?_
     ·
      refine zv rfl rfl rfl rfl (.c rfl (.c rfl (.c rfl (.c rfl .n)))) ce13 (zHa (w1:=w1) (vh1:=vh1) (m1:=m1) (p1:=p1) (n1:=n1) (c1:=c1) (l1:=l1) (w2:=w2) (vh2:=vh2) (m2:=m2) (p2:=p2) (n2:=n2) (c2:=c2) (l2:=l2) (ex:=ex) (ey:=(ey+1)) (hn1:=by assumption) (hw1:=by assumption) (hh1:=by assumption) (hwh1:=by assumption) (hb1:=by assumption) (hg1:=by assumption) (hn2:=by assumption) (hw2:=by assumption) (hh2:=by assumption) (hwh2:=by assumption) (hb2:=by assumption) (hg2:=by assumption) (hp:=by first|rfl|assumption|exact Cr.ps4_mid hp9|exact hp9.1|exact hp9.2.1|exact hp9.2.2.1|exact hp9.2.2.2|omega)) (.c (j:=5) rfl (.c (j:=6) rfl .n)) ?_
      rintro ⟨u12_1r2,u12_2r2⟩ -
      dsimp only [List.append_eq,List.nil_append,List.cons_append]
      exact zO (hD4 (u5_1r2,u5_2r2,u12_1r2,u12_2r2)) (by kernel_rfl) ((.of rfl):SubM _ _) .rfl .rfl ((.of [0,1,2,3,4,5,6,7] rfl):SelR _ _ _)
     ·
      refine zBa rfl rfl rfl rfl (zu zr32 rfl) (fun u17_1r2 _=> ?_)
      exact zO (hD5 (u5_1r2,u5_2r2,u17_1r2)) (by kernel_rfl) ((.of rfl):SubM _ _) .rfl .rfl ((.of [0,1,2,3,4,5,6] rfl):SelR _ _ _)
    refine zga (X:=Nat) (k':=8) (L':=(lb 20 135135)) (fun u17_1r2=>([(13,.pointer (some ⟨u17_1r2,0,none⟩)),(92,.int .i64 (ey+1)),(90,.int .i64 ex),(89,.agg #[.int .i64 ((w2:Nat):Int),.int .i64 ((vh2:Nat):Int),.int .i64 m2,.slice p2 n2 c2]),(88,.agg #[.int .i64 ((w1:Nat):Int),.int .i64 ((vh1:Nat):Int),.int .i64 m1,.slice p1 n1 c1]),(87,.agg (cw [w37,w48]).toArray),(85,.int .i64 (ey - 1)),(83,.int .i64 ex),(82,.agg #[.int .i64 ((w2:Nat):Int),.int .i64 ((vh2:Nat):Int),.int .i64 m2,.slice p2 n2 c2]),(81,.agg #[.int .i64 ((w1:Nat):Int),.int .i64 ((vh1:Nat):Int),.int .i64 m1,.slice p1 n1 c1]),(12,.int .i64 qd1),(11,.pointer (some ⟨u17_1,0,none⟩)),(9,.int .i64 0),(8,.pointer (some ⟨b3,0,none⟩))],[boxA u17_1r2 32 [.bool false,.slice none 0 0,.bool false,.slice none 0 0]],[boxA u17_1 32 (cw [u13_1,u13_2]),boxA b9 32 (cw [w37,w48]),boxA b3 55 [.bool false,.slice none 0 0,.bool false,.slice none 0 0,.bool false,.slice none 0 0,.bool false,.slice none 0 0],boxA b2 24 [.int .i64 ((w2:Nat):Int),.int .i64 ((vh2:Nat):Int),.int .i64 m2,.slice p2 n2 c2],boxA b1 24 [.int .i64 ((w1:Nat):Int),.int .i64 ((vh1:Nat):Int),.int .i64 m1,.slice p1 n1 c1]],[qF (decide (¬(Cr.pkd (Cr.scq l1 l2 ((w1:Nat):Int) ((vh1:Nat):Int) ((w2:Nat):Int) (ex - 1) ey) (Cr.scq l1 l2 ((w1:Nat):Int) ((vh1:Nat):Int) ((w2:Nat):Int) ex ey) (Cr.scq l1 l2 ((w1:Nat):Int) ((vh1:Nat):Int) ((w2:Nat):Int) (ex+1) ey)))) u13_1 u13_2 (if (Cr.pkd (Cr.scq l1 l2 ((w1:Nat):Int) ((vh1:Nat):Int) ((w2:Nat):Int) (ex - 1) ey) (Cr.scq l1 l2 ((w1:Nat):Int) ((vh1:Nat):Int) ((w2:Nat):Int) ex ey) (Cr.scq l1 l2 ((w1:Nat):Int) ((vh1:Nat):Int) ((w2:Nat):Int) (ex+1) ey)) then 0 else Cr.pkv (Cr.scq l1 l2 ((w1:Nat):Int) ((vh1:Nat):Int) ((w2:Nat):Int) (ex - 1) ey) (Cr.scq l1 l2 ((w1:Nat):Int) ((vh1:Nat):Int) ((w2:Nat):Int) ex ey) (Cr.scq l1 l2 ((w1:Nat):Int) ((vh1:Nat):Int) ((w2:Nat):Int) (ex+1) ey)),qF true u12_1 u12_2 (Cr.scq l1 l2 ((w1:Nat):Int) ((vh1:Nat):Int) ((w2:Nat):Int) (ex+1) ey),qF true u5_1 u5_2 (Cr.scq l1 l2 ((w1:Nat):Int) ((vh1:Nat):Int) ((w2:Nat):Int) (ex - 1) ey),qF true w37 w48 (Cr.scq l1 l2 ((w1:Nat):Int) ((vh1:Nat):Int) ((w2:Nat):Int) ex ey),slF (rI .i64) p1 c1 l1,slF (rI .i64) p2 c2 l2])) ?_ (fun hD7=> ?_)
    ·
     rintro u17_1r2
     dsimp only [cw]
     refine zD 5 (by kernel_rfl) ?_
     ·
      refine zv rfl rfl rfl rfl (.c rfl (.c rfl (.c rfl (.c rfl .n)))) ce13 (zHa (w1:=w1) (vh1:=vh1) (m1:=m1) (p1:=p1) (n1:=n1) (c1:=c1) (l1:=l1) (w2:=w2) (vh2:=vh2) (m2:=m2) (p2:=p2) (n2:=n2) (c2:=c2) (l2:=l2) (ex:=ex) (ey:=(ey - 1)) (hn1:=by assumption) (hw1:=by assumption) (hh1:=by assumption) (hwh1:=by assumption) (hb1:=by assumption) (hg1:=by assumption) (hn2:=by assumption) (hw2:=by assumption) (hh2:=by assumption) (hwh2:=by assumption) (hb2:=by assumption) (hg2:=by assumption) (hp:=by first|rfl|assumption|exact Cr.ps4_mid hp9|exact hp9.1|exact hp9.2.1|exact hp9.2.2.1|exact hp9.2.2.2|omega)) (.c (j:=4) rfl (.c (j:=5) rfl .n)) ?_
      rintro ⟨u5_1r2,u5_2r2⟩ -
      dsimp only [List.append_eq,List.nil_append,List.cons_append]
      exact zO (hD5 (u5_1r2,u5_2r2,u17_1r2)) (by kernel_rfl) ((.of rfl):SubM _ _) .rfl .rfl ((.of [0,1,2,3,4,5,6] rfl):SelR _ _ _)
    refine zlb 5 17 (by kernel_rfl) ?_ ?_
    ·
     refine zv rfl rfl rfl rfl (.c rfl (.c rfl (.c rfl (.c rfl .n)))) ce13 (zHa (w1:=w1) (vh1:=vh1) (m1:=m1) (p1:=p1) (n1:=n1) (c1:=c1) (l1:=l1) (w2:=w2) (vh2:=vh2) (m2:=m2) (p2:=p2) (n2:=n2) (c2:=c2) (l2:=l2) (ex:=ex) (ey:=(ey - 1)) (hn1:=by assumption) (hw1:=by assumption) (hh1:=by assumption) (hwh1:=by assumption) (hb1:=by assumption) (hg1:=by assumption) (hn2:=by assumption) (hw2:=by assumption) (hh2:=by assumption) (hwh2:=by assumption) (hb2:=by assumption) (hg2:=by assumption) (hp:=by first|rfl|assumption|exact Cr.ps4_mid hp9|exact hp9.1|exact hp9.2.1|exact hp9.2.2.1|exact hp9.2.2.2|omega)) (.c (j:=4) rfl (.c (j:=5) rfl .n)) ?_
     rintro ⟨u5_1r2,u5_2r2⟩ -
     dsimp only [List.append_eq,List.nil_append,List.cons_append]
     exact zO (hD6 (u5_1r2,u5_2r2)) (by kernel_rfl) ((.of rfl):SubM _ _) .rfl .rfl ((.of [0,1,2,3,4,5,6] rfl):SelR _ _ _)
    ·
     refine zBa rfl rfl rfl rfl (zu zr32 rfl) (fun u17_1r2 _=> ?_)
     exact zO (hD7 u17_1r2) (by kernel_rfl) ((.of rfl):SubM _ _) .rfl .rfl ((.of [0,1,2,3,4,5] rfl):SelR _ _ _)
   refine zga (X:=Wd×Wd×Wd×Wd×Wd×Wd×Nat) (k':=2) (L':=(lb 20 262143)) (fun (u5_1,u5_2,u12_1,u12_2,u13_1,u13_2,u17_1)=>([(11,.pointer (some ⟨u17_1,0,none⟩)),(79,.int .i64 (if (Cr.pkd (Cr.scq l1 l2 ((w1:Nat):Int) ((vh1:Nat):Int) ((w2:Nat):Int) (ex - 1) ey) (Cr.scq l1 l2 ((w1:Nat):Int) ((vh1:Nat):Int) ((w2:Nat):Int) ex ey) (Cr.scq l1 l2 ((w1:Nat):Int) ((vh1:Nat):Int) ((w2:Nat):Int) (ex+1) ey)) then 13 else 0)),(78,.agg (cw [u13_1,u13_2]).toArray),(10,.pointer (some ⟨b9,0,none⟩)),(9,.int .i64 0),(8,.pointer (some ⟨b3,0,none⟩)),(5,.pointer (some ⟨b2,0,none⟩)),(4,.pointer (some ⟨b1,0,none⟩)),(2,.int .i64 ex),(3,.int .i64 ey)],[boxA u17_1 32 [.bool false,.slice none 0 0,.bool false,.slice none 0 0]],[boxA b9 32 (cw [w37,w48]),boxA b3 55 [.bool false,.slice none 0 0,.bool false,.slice none 0 0,.bool false,.slice none 0 0,.bool false,.slice none 0 0],boxA b2 24 [.int .i64 ((w2:Nat):Int),.int .i64 ((vh2:Nat):Int),.int .i64 m2,.slice p2 n2 c2],boxA b1 24 [.int .i64 ((w1:Nat):Int),.int .i64 ((vh1:Nat):Int),.int .i64 m1,.slice p1 n1 c1]],[qF (decide (¬(Cr.pkd (Cr.scq l1 l2 ((w1:Nat):Int) ((vh1:Nat):Int) ((w2:Nat):Int) (ex - 1) ey) (Cr.scq l1 l2 ((w1:Nat):Int) ((vh1:Nat):Int) ((w2:Nat):Int) ex ey) (Cr.scq l1 l2 ((w1:Nat):Int) ((vh1:Nat):Int) ((w2:Nat):Int) (ex+1) ey)))) u13_1 u13_2 (if (Cr.pkd (Cr.scq l1 l2 ((w1:Nat):Int) ((vh1:Nat):Int) ((w2:Nat):Int) (ex - 1) ey) (Cr.scq l1 l2 ((w1:Nat):Int) ((vh1:Nat):Int) ((w2:Nat):Int) ex ey) (Cr.scq l1 l2 ((w1:Nat):Int) ((vh1:Nat):Int) ((w2:Nat):Int) (ex+1) ey)) then 0 else Cr.pkv (Cr.scq l1 l2 ((w1:Nat):Int) ((vh1:Nat):Int) ((w2:Nat):Int) (ex - 1) ey) (Cr.scq l1 l2 ((w1:Nat):Int) ((vh1:Nat):Int) ((w2:Nat):Int) ex ey) (Cr.scq l1 l2 ((w1:Nat):Int) ((vh1:Nat):Int) ((w2:Nat):Int) (ex+1) ey)),qF true u12_1 u12_2 (Cr.scq l1 l2 ((w1:Nat):Int) ((vh1:Nat):Int) ((w2:Nat):Int) (ex+1) ey),qF true u5_1 u5_2 (Cr.scq l1 l2 ((w1:Nat):Int) ((vh1:Nat):Int) ((w2:Nat):Int) (ex - 1) ey),qF true w37 w48 (Cr.scq l1 l2 ((w1:Nat):Int) ((vh1:Nat):Int) ((w2:Nat):Int) ex ey),slF (rI .i64) p1 c1 l1,slF (rI .i64) p2 c2 l2])) ?_ (fun hD1=> ?_)
   ·
    rintro ⟨u5_1,u5_2,u12_1,u12_2,u13_1,u13_2,u17_1⟩
    dsimp only [cw]
    refine zD 18 (by kernel_rfl) ?_
    ·
     refine zy (by kernel_rfl) rfl rfl rfl rfl rfl sz32 rfl (.take (.take (.take (.take .nil))))<|d_pv 19 rfl rfl (by kernel_rfl) (by kernel_rfl) rfl rfl (ze rfl) ?_
     exact zO (hD0 (u5_1,u5_2,u12_1,u12_2,u13_1,u13_2,u17_1)) (by kernel_rfl) ((.of rfl):SubM _ _) .rfl .rfl ((.of [0,1,2,3,4,5] rfl):SelR _ _ _)
   refine zga (X:=Wd×Wd×Wd×Wd×Wd×Wd) (k':=3) (L':=(lb 20 131071)) (fun (u5_1,u5_2,u12_1,u12_2,u13_1,u13_2)=>([(79,.int .i64 (if (Cr.pkd (Cr.scq l1 l2 ((w1:Nat):Int) ((vh1:Nat):Int) ((w2:Nat):Int) (ex - 1) ey) (Cr.scq l1 l2 ((w1:Nat):Int) ((vh1:Nat):Int) ((w2:Nat):Int) ex ey) (Cr.scq l1 l2 ((w1:Nat):Int) ((vh1:Nat):Int) ((w2:Nat):Int) (ex+1) ey)) then 13 else 0)),(78,.agg (cw [u13_1,u13_2]).toArray),(10,.pointer (some ⟨b9,0,none⟩)),(9,.int .i64 0),(8,.pointer (some ⟨b3,0,none⟩)),(5,.pointer (some ⟨b2,0,none⟩)),(4,.pointer (some ⟨b1,0,none⟩)),(2,.int .i64 ex),(3,.int .i64 ey)],[],[boxA b9 32 (cw [w37,w48]),boxA b3 55 [.bool false,.slice none 0 0,.bool false,.slice none 0 0,.bool false,.slice none 0 0,.bool false,.slice none 0 0],boxA b2 24 [.int .i64 ((w2:Nat):Int),.int .i64 ((vh2:Nat):Int),.int .i64 m2,.slice p2 n2 c2],boxA b1 24 [.int .i64 ((w1:Nat):Int),.int .i64 ((vh1:Nat):Int),.int .i64 m1,.slice p1 n1 c1]],[qF (decide (¬(Cr.pkd (Cr.scq l1 l2 ((w1:Nat):Int) ((vh1:Nat):Int) ((w2:Nat):Int) (ex - 1) ey) (Cr.scq l1 l2 ((w1:Nat):Int) ((vh1:Nat):Int) ((w2:Nat):Int) ex ey) (Cr.scq l1 l2 ((w1:Nat):Int) ((vh1:Nat):Int) ((w2:Nat):Int) (ex+1) ey)))) u13_1 u13_2 (if (Cr.pkd (Cr.scq l1 l2 ((w1:Nat):Int) ((vh1:Nat):Int) ((w2:Nat):Int) (ex - 1) ey) (Cr.scq l1 l2 ((w1:Nat):Int) ((vh1:Nat):Int) ((w2:Nat):Int) ex ey) (Cr.scq l1 l2 ((w1:Nat):Int) ((vh1:Nat):Int) ((w2:Nat):Int) (ex+1) ey)) then 0 else Cr.pkv (Cr.scq l1 l2 ((w1:Nat):Int) ((vh1:Nat):Int) ((w2:Nat):Int) (ex - 1) ey) (Cr.scq l1 l2 ((w1:Nat):Int) ((vh1:Nat):Int) ((w2:Nat):Int) ex ey) (Cr.scq l1 l2 ((w1:Nat):Int) ((vh1:Nat):Int) ((w2:Nat):Int) (ex+1) ey)),qF true u12_1 u12_2 (Cr.scq l1 l2 ((w1:Nat):Int) ((vh1:Nat):Int) ((w2:Nat):Int) (ex+1) ey),qF true u5_1 u5_2 (Cr.scq l1 l2 ((w1:Nat):Int) ((vh1:Nat):Int) ((w2:Nat):Int) (ex - 1) ey),qF true w37 w48 (Cr.scq l1 l2 ((w1:Nat):Int) ((vh1:Nat):Int) ((w2:Nat):Int) ex ey),slF (rI .i64) p1 c1 l1,slF (rI .i64) p2 c2 l2])) ?_ (fun hD2=> ?_)
   ·
    rintro ⟨u5_1,u5_2,u12_1,u12_2,u13_1,u13_2⟩
    dsimp only [cw]
    refine zD 17 (by kernel_rfl) ?_
    ·
     refine zBa rfl rfl rfl rfl (zu zr32 rfl) (fun u17_1 _=> ?_)
     exact zO (hD1 (u5_1,u5_2,u12_1,u12_2,u13_1,u13_2,u17_1)) (by kernel_rfl) ((.of rfl):SubM _ _) .rfl .rfl ((.of [0,1,2,3,4,5] rfl):SelR _ _ _)
   refine zga (X:=Wd×Wd×Wd×Wd×Nat) (k':=6) (L':=(lb 20 139263)) (fun (u5_1,u5_2,u12_1,u12_2,u17_1)=>([(11,.pointer (some ⟨u17_1,0,none⟩)),(76,.agg (cw [u12_1,u12_2]).toArray),(69,.agg (cw [u5_1,u5_2]).toArray),(70,.agg (cw [w37,w48]).toArray),(10,.pointer (some ⟨b9,0,none⟩)),(9,.int .i64 0),(8,.pointer (some ⟨b3,0,none⟩)),(5,.pointer (some ⟨b2,0,none⟩)),(4,.pointer (some ⟨b1,0,none⟩)),(2,.int .i64 ex),(3,.int .i64 ey)],[boxA u17_1 32 [.bool false,.slice none 0 0,.bool false,.slice none 0 0]],[boxA b9 32 (cw [w37,w48]),boxA b3 55 [.bool false,.slice none 0 0,.bool false,.slice none 0 0,.bool false,.slice none 0 0,.bool false,.slice none 0 0],boxA b2 24 [.int .i64 ((w2:Nat):Int),.int .i64 ((vh2:Nat):Int),.int .i64 m2,.slice p2 n2 c2],boxA b1 24 [.int .i64 ((w1:Nat):Int),.int .i64 ((vh1:Nat):Int),.int .i64 m1,.slice p1 n1 c1]],[qF true u12_1 u12_2 (Cr.scq l1 l2 ((w1:Nat):Int) ((vh1:Nat):Int) ((w2:Nat):Int) (ex+1) ey),qF true u5_1 u5_2 (Cr.scq l1 l2 ((w1:Nat):Int) ((vh1:Nat):Int) ((w2:Nat):Int) (ex - 1) ey),qF true w37 w48 (Cr.scq l1 l2 ((w1:Nat):Int) ((vh1:Nat):Int) ((w2:Nat):Int) ex ey),slF (rI .i64) p1 c1 l1,slF (rI .i64) p2 c2 l2])) ?_ (fun hD3=> ?_)
   ·
    rintro ⟨u5_1,u5_2,u12_1,u12_2,u17_1⟩
    dsimp only [cw]
    refine zD 13 (by kernel_rfl) ?_
    ·
     refine zv rfl rfl rfl rfl (.c rfl (.c rfl (.c rfl .n))) ce51 (zec (u1:=u5_1) (v1:=u5_2) (q1:=(Cr.scq l1 l2 ((w1:Nat):Int) ((vh1:Nat):Int) ((w2:Nat):Int) (ex - 1) ey)) (u2:=w37) (v2:=w48) (q2:=(Cr.scq l1 l2 ((w1:Nat):Int) ((vh1:Nat):Int) ((w2:Nat):Int) ex ey)) (u3:=u12_1) (v3:=u12_2) (q3:=(Cr.scq l1 l2 ((w1:Nat):Int) ((vh1:Nat):Int) ((w2:Nat):Int) (ex+1) ey)) (hq1:=by first|rfl|assumption|exact Cr.ps4_mid hp9|exact hp9.1|exact hp9.2.1|exact hp9.2.2.1|exact hp9.2.2.2|omega) (hq2:=by first|rfl|assumption|exact Cr.ps4_mid hp9|exact hp9.1|exact hp9.2.1|exact hp9.2.2.1|exact hp9.2.2.2|omega) (hq3:=by first|rfl|assumption|exact Cr.ps4_mid hp9|exact hp9.1|exact hp9.2.1|exact hp9.2.2.1|exact hp9.2.2.2|omega)) (.c (j:=1) rfl (.c (j:=2) rfl (.c (j:=0) rfl .n))) ?_
     rintro ⟨u13_1,u13_2⟩ -
     dsimp only [List.append_eq,List.nil_append,List.cons_append]
     refine d_pv 14 rfl rfl (by kernel_rfl) (by kernel_rfl) rfl rfl (za rfl)<|d_pv 15 rfl rfl (by kernel_rfl) (by kernel_rfl) rfl rfl (zo rfl rfl)<|d_pv 16 rfl rfl (by kernel_rfl) (by kernel_rfl) rfl rfl (zo rfl rfl) ?_
     exact zO (hD1 (u5_1,u5_2,u12_1,u12_2,u13_1,u13_2,u17_1)) (by kernel_rfl) ((.of rfl):SubM _ _) .rfl .rfl ((.of [0,1,2,3,4,5] rfl):SelR _ _ _)
   refine zga (X:=Wd×Wd×Wd×Wd) (k':=7) (L':=(lb 20 8191)) (fun (u5_1,u5_2,u12_1,u12_2)=>([(76,.agg (cw [u12_1,u12_2]).toArray),(69,.agg (cw [u5_1,u5_2]).toArray),(70,.agg (cw [w37,w48]).toArray),(10,.pointer (some ⟨b9,0,none⟩)),(9,.int .i64 0),(8,.pointer (some ⟨b3,0,none⟩)),(5,.pointer (some ⟨b2,0,none⟩)),(4,.pointer (some ⟨b1,0,none⟩)),(2,.int .i64 ex),(3,.int .i64 ey)],[],[boxA b9 32 (cw [w37,w48]),boxA b3 55 [.bool false,.slice none 0 0,.bool false,.slice none 0 0,.bool false,.slice none 0 0,.bool false,.slice none 0 0],boxA b2 24 [.int .i64 ((w2:Nat):Int),.int .i64 ((vh2:Nat):Int),.int .i64 m2,.slice p2 n2 c2],boxA b1 24 [.int .i64 ((w1:Nat):Int),.int .i64 ((vh1:Nat):Int),.int .i64 m1,.slice p1 n1 c1]],[qF true u12_1 u12_2 (Cr.scq l1 l2 ((w1:Nat):Int) ((vh1:Nat):Int) ((w2:Nat):Int) (ex+1) ey),qF true u5_1 u5_2 (Cr.scq l1 l2 ((w1:Nat):Int) ((vh1:Nat):Int) ((w2:Nat):Int) (ex - 1) ey),qF true w37 w48 (Cr.scq l1 l2 ((w1:Nat):Int) ((vh1:Nat):Int) ((w2:Nat):Int) ex ey),slF (rI .i64) p1 c1 l1,slF (rI .i64) p2 c2 l2])) ?_ (fun hD4=> ?_)
   ·
    rintro ⟨u5_1,u5_2,u12_1,u12_2⟩
    dsimp only [cw]
    refine zlb 13 17 (by kernel_rfl) ?_ ?_
    ·
     refine zv rfl rfl rfl rfl (.c rfl (.c rfl (.c rfl .n))) ce51 (zec (u1:=u5_1) (v1:=u5_2) (q1:=(Cr.scq l1 l2 ((w1:Nat):Int) ((vh1:Nat):Int) ((w2:Nat):Int) (ex - 1) ey)) (u2:=w37) (v2:=w48) (q2:=(Cr.scq l1 l2 ((w1:Nat):Int) ((vh1:Nat):Int) ((w2:Nat):Int) ex ey)) (u3:=u12_1) (v3:=u12_2) (q3:=(Cr.scq l1 l2 ((w1:Nat):Int) ((vh1:Nat):Int) ((w2:Nat):Int) (ex+1) ey)) (hq1:=by first|rfl|assumption|exact Cr.ps4_mid hp9|exact hp9.1|exact hp9.2.1|exact hp9.2.2.1|exact hp9.2.2.2|omega) (hq2:=by first|rfl|assumption|exact Cr.ps4_mid hp9|exact hp9.1|exact hp9.2.1|exact hp9.2.2.1|exact hp9.2.2.2|omega) (hq3:=by first|rfl|assumption|exact Cr.ps4_mid hp9|exact hp9.1|exact hp9.2.1|exact hp9.2.2.1|exact hp9.2.2.2|omega)) (.c (j:=1) rfl (.c (j:=2) rfl (.c (j:=0) rfl .n))) ?_
     rintro ⟨u13_1,u13_2⟩ -
     dsimp only [List.append_eq,List.nil_append,List.cons_append]
     refine d_pv 14 rfl rfl (by kernel_rfl) (by kernel_rfl) rfl rfl (za rfl)<|d_pv 15 rfl rfl (by kernel_rfl) (by kernel_rfl) rfl rfl (zo rfl rfl)<|d_pv 16 rfl rfl (by kernel_rfl) (by kernel_rfl) rfl rfl (zo rfl rfl) ?_
     exact zO (hD2 (u5_1,u5_2,u12_1,u12_2,u13_1,u13_2)) (by kernel_rfl) ((.of rfl):SubM _ _) .rfl .rfl ((.of [0,1,2,3,4,5] rfl):SelR _ _ _)
    ·
     refine zBa rfl rfl rfl rfl (zu zr32 rfl) (fun u17_1 _=> ?_)
     exact zO (hD3 (u5_1,u5_2,u12_1,u12_2,u17_1)) (by kernel_rfl) ((.of rfl):SubM _ _) .rfl .rfl ((.of [0,1,2,3,4] rfl):SelR _ _ _)
   refine zga (X:=Wd×Wd×Nat) (k':=7) (L':=(lb 20 135167)) (fun (u5_1,u5_2,u17_1)=>([(11,.pointer (some ⟨u17_1,0,none⟩)),(69,.agg (cw [u5_1,u5_2]).toArray),(75,.int .i64 ey),(74,.int .i64 (ex+1)),(72,.agg #[.int .i64 ((w2:Nat):Int),.int .i64 ((vh2:Nat):Int),.int .i64 m2,.slice p2 n2 c2]),(71,.agg #[.int .i64 ((w1:Nat):Int),.int .i64 ((vh1:Nat):Int),.int .i64 m1,.slice p1 n1 c1]),(70,.agg (cw [w37,w48]).toArray),(10,.pointer (some ⟨b9,0,none⟩)),(9,.int .i64 0),(8,.pointer (some ⟨b3,0,none⟩)),(5,.pointer (some ⟨b2,0,none⟩)),(4,.pointer (some ⟨b1,0,none⟩)),(2,.int .i64 ex),(3,.int .i64 ey)],[boxA u17_1 32 [.bool false,.slice none 0 0,.bool false,.slice none 0 0]],[boxA b9 32 (cw [w37,w48]),boxA b3 55 [.bool false,.slice none 0 0,.bool false,.slice none 0 0,.bool false,.slice none 0 0,.bool false,.slice none 0 0],boxA b2 24 [.int .i64 ((w2:Nat):Int),.int .i64 ((vh2:Nat):Int),.int .i64 m2,.slice p2 n2 c2],boxA b1 24 [.int .i64 ((w1:Nat):Int),.int .i64 ((vh1:Nat):Int),.int .i64 m1,.slice p1 n1 c1]],[qF true u5_1 u5_2 (Cr.scq l1 l2 ((w1:Nat):Int) ((vh1:Nat):Int) ((w2:Nat):Int) (ex - 1) ey),qF true w37 w48 (Cr.scq l1 l2 ((w1:Nat):Int) ((vh1:Nat):Int) ((w2:Nat):Int) ex ey),slF (rI .i64) p1 c1 l1,slF (rI .i64) p2 c2 l2])) ?_ (fun hD5=> ?_)
   ·
    rintro ⟨u5_1,u5_2,u17_1⟩
    dsimp only [cw]
    refine zD 12 (by kernel_rfl) ?_
    ·
     refine zv rfl rfl rfl rfl (.c rfl (.c rfl (.c rfl (.c rfl .n)))) ce13 (zHa (w1:=w1) (vh1:=vh1) (m1:=m1) (p1:=p1) (n1:=n1) (c1:=c1) (l1:=l1) (w2:=w2) (vh2:=vh2) (m2:=m2) (p2:=p2) (n2:=n2) (c2:=c2) (l2:=l2) (ex:=(ex+1)) (ey:=ey) (hn1:=by assumption) (hw1:=by assumption) (hh1:=by assumption) (hwh1:=by assumption) (hb1:=by assumption) (hg1:=by assumption) (hn2:=by assumption) (hw2:=by assumption) (hh2:=by assumption) (hwh2:=by assumption) (hb2:=by assumption) (hg2:=by assumption) (hp:=by first|rfl|assumption|exact Cr.ps4_mid hp9|exact hp9.1|exact hp9.2.1|exact hp9.2.2.1|exact hp9.2.2.2|omega)) (.c (j:=2) rfl (.c (j:=3) rfl .n)) ?_
     rintro ⟨u12_1,u12_2⟩ -
     dsimp only [List.append_eq,List.nil_append,List.cons_append]
     exact zO (hD3 (u5_1,u5_2,u12_1,u12_2,u17_1)) (by kernel_rfl) ((.of rfl):SubM _ _) .rfl .rfl ((.of [0,1,2,3,4] rfl):SelR _ _ _)
   refine zga (X:=Wd×Wd) (k':=8) (L':=(lb 20 4095)) (fun (u5_1,u5_2)=>([(69,.agg (cw [u5_1,u5_2]).toArray),(75,.int .i64 ey),(74,.int .i64 (ex+1)),(72,.agg #[.int .i64 ((w2:Nat):Int),.int .i64 ((vh2:Nat):Int),.int .i64 m2,.slice p2 n2 c2]),(71,.agg #[.int .i64 ((w1:Nat):Int),.int .i64 ((vh1:Nat):Int),.int .i64 m1,.slice p1 n1 c1]),(70,.agg (cw [w37,w48]).toArray),(10,.pointer (some ⟨b9,0,none⟩)),(9,.int .i64 0),(8,.pointer (some ⟨b3,0,none⟩)),(5,.pointer (some ⟨b2,0,none⟩)),(4,.pointer (some ⟨b1,0,none⟩)),(2,.int .i64 ex),(3,.int .i64 ey)],[],[boxA b9 32 (cw [w37,w48]),boxA b3 55 [.bool false,.slice none 0 0,.bool false,.slice none 0 0,.bool false,.slice none 0 0,.bool false,.slice none 0 0],boxA b2 24 [.int .i64 ((w2:Nat):Int),.int .i64 ((vh2:Nat):Int),.int .i64 m2,.slice p2 n2 c2],boxA b1 24 [.int .i64 ((w1:Nat):Int),.int .i64 ((vh1:Nat):Int),.int .i64 m1,.slice p1 n1 c1]],[qF true u5_1 u5_2 (Cr.scq l1 l2 ((w1:Nat):Int) ((vh1:Nat):Int) ((w2:Nat):Int) (ex - 1) ey),qF true w37 w48 (Cr.scq l1 l2 ((w1:Nat):Int) ((vh1:Nat):Int) ((w2:Nat):Int) ex ey),slF (rI .i64) p1 c1 l1,slF (rI .i64) p2 c2 l2])) ?_ (fun hD6=> ?_)
   ·
    rintro ⟨u5_1,u5_2⟩
    dsimp only [cw]
    refine zlb 12 17 (by kernel_rfl) ?_ ?_
    ·
     refine zv rfl rfl rfl rfl (.c rfl (.c rfl (.c rfl (.c rfl .n)))) ce13 (zHa (w1:=w1) (vh1:=vh1) (m1:=m1) (p1:=p1) (n1:=n1) (c1:=c1) (l1:=l1) (w2:=w2) (vh2:=vh2) (m2:=m2) (p2:=p2) (n2:=n2) (c2:=c2) (l2:=l2) (ex:=(ex+1)) (ey:=ey) (hn1:=by assumption) (hw1:=by assumption) (hh1:=by assumption) (hwh1:=by assumption) (hb1:=by assumption) (hg1:=by assumption) (hn2:=by assumption) (hw2:=by assumption) (hh2:=by assumption) (hwh2:=by assumption) (hb2:=by assumption) (hg2:=by assumption) (hp:=by first|rfl|assumption|exact Cr.ps4_mid hp9|exact hp9.1|exact hp9.2.1|exact hp9.2.2.1|exact hp9.2.2.2|omega)) (.c (j:=2) rfl (.c (j:=3) rfl .n)) ?_
     rintro ⟨u12_1,u12_2⟩ -
     dsimp only [List.append_eq,List.nil_append,List.cons_append]
     exact zO (hD4 (u5_1,u5_2,u12_1,u12_2)) (by kernel_rfl) ((.of rfl):SubM _ _) .rfl .rfl ((.of [0,1,2,3,4] rfl):SelR _ _ _)
    ·
     refine zBa rfl rfl rfl rfl (zu zr32 rfl) (fun u17_1 _=> ?_)
     exact zO (hD5 (u5_1,u5_2,u17_1)) (by kernel_rfl) ((.of rfl):SubM _ _) .rfl .rfl ((.of [0,1,2,3] rfl):SelR _ _ _)
   refine zga (X:=Nat) (k':=8) (L':=(lb 20 135135)) (fun u17_1=>([(11,.pointer (some ⟨u17_1,0,none⟩)),(75,.int .i64 ey),(74,.int .i64 (ex+1)),(72,.agg #[.int .i64 ((w2:Nat):Int),.int .i64 ((vh2:Nat):Int),.int .i64 m2,.slice p2 n2 c2]),(71,.agg #[.int .i64 ((w1:Nat):Int),.int .i64 ((vh1:Nat):Int),.int .i64 m1,.slice p1 n1 c1]),(70,.agg (cw [w37,w48]).toArray),(68,.int .i64 ey),(67,.int .i64 (ex - 1)),(65,.agg #[.int .i64 ((w2:Nat):Int),.int .i64 ((vh2:Nat):Int),.int .i64 m2,.slice p2 n2 c2]),(64,.agg #[.int .i64 ((w1:Nat):Int),.int .i64 ((vh1:Nat):Int),.int .i64 m1,.slice p1 n1 c1]),(10,.pointer (some ⟨b9,0,none⟩)),(9,.int .i64 0),(8,.pointer (some ⟨b3,0,none⟩)),(5,.pointer (some ⟨b2,0,none⟩)),(4,.pointer (some ⟨b1,0,none⟩)),(2,.int .i64 ex),(3,.int .i64 ey)],[boxA u17_1 32 [.bool false,.slice none 0 0,.bool false,.slice none 0 0]],[boxA b9 32 (cw [w37,w48]),boxA b3 55 [.bool false,.slice none 0 0,.bool false,.slice none 0 0,.bool false,.slice none 0 0,.bool false,.slice none 0 0],boxA b2 24 [.int .i64 ((w2:Nat):Int),.int .i64 ((vh2:Nat):Int),.int .i64 m2,.slice p2 n2 c2],boxA b1 24 [.int .i64 ((w1:Nat):Int),.int .i64 ((vh1:Nat):Int),.int .i64 m1,.slice p1 n1 c1]],[qF true w37 w48 (Cr.scq l1 l2 ((w1:Nat):Int) ((vh1:Nat):Int) ((w2:Nat):Int) ex ey),slF (rI .i64) p1 c1 l1,slF (rI .i64) p2 c2 l2])) ?_ (fun hD7=> ?_)
   ·
    rintro u17_1
    dsimp only [cw]
    refine zD 5 (by kernel_rfl) ?_
    ·
     refine zv rfl rfl rfl rfl (.c rfl (.c rfl (.c rfl (.c rfl .n)))) ce13 (zHa (w1:=w1) (vh1:=vh1) (m1:=m1) (p1:=p1) (n1:=n1) (c1:=c1) (l1:=l1) (w2:=w2) (vh2:=vh2) (m2:=m2) (p2:=p2) (n2:=n2) (c2:=c2) (l2:=l2) (ex:=(ex - 1)) (ey:=ey) (hn1:=by assumption) (hw1:=by assumption) (hh1:=by assumption) (hwh1:=by assumption) (hb1:=by assumption) (hg1:=by assumption) (hn2:=by assumption) (hw2:=by assumption) (hh2:=by assumption) (hwh2:=by assumption) (hb2:=by assumption) (hg2:=by assumption) (hp:=by first|rfl|assumption|exact Cr.ps4_mid hp9|exact hp9.1|exact hp9.2.1|exact hp9.2.2.1|exact hp9.2.2.2|omega)) (.c (j:=1) rfl (.c (j:=2) rfl .n)) ?_
     rintro ⟨u5_1,u5_2⟩ -
     dsimp only [List.append_eq,List.nil_append,List.cons_append]
     exact zO (hD5 (u5_1,u5_2,u17_1)) (by kernel_rfl) ((.of rfl):SubM _ _) .rfl .rfl ((.of [0,1,2,3] rfl):SelR _ _ _)
   refine zlb 5 17 (by kernel_rfl) ?_ ?_
   ·
    refine zv rfl rfl rfl rfl (.c rfl (.c rfl (.c rfl (.c rfl .n)))) ce13 (zHa (w1:=w1) (vh1:=vh1) (m1:=m1) (p1:=p1) (n1:=n1) (c1:=c1) (l1:=l1) (w2:=w2) (vh2:=vh2) (m2:=m2) (p2:=p2) (n2:=n2) (c2:=c2) (l2:=l2) (ex:=(ex - 1)) (ey:=ey) (hn1:=by assumption) (hw1:=by assumption) (hh1:=by assumption) (hwh1:=by assumption) (hb1:=by assumption) (hg1:=by assumption) (hn2:=by assumption) (hw2:=by assumption) (hh2:=by assumption) (hwh2:=by assumption) (hb2:=by assumption) (hg2:=by assumption) (hp:=by first|rfl|assumption|exact Cr.ps4_mid hp9|exact hp9.1|exact hp9.2.1|exact hp9.2.2.1|exact hp9.2.2.2|omega)) (.c (j:=1) rfl (.c (j:=2) rfl .n)) ?_
    rintro ⟨u5_1,u5_2⟩ -
    dsimp only [List.append_eq,List.nil_append,List.cons_append]
    exact zO (hD6 (u5_1,u5_2)) (by kernel_rfl) ((.of rfl):SubM _ _) .rfl .rfl ((.of [0,1,2,3] rfl):SelR _ _ _)
   ·
    refine zBa rfl rfl rfl rfl (zu zr32 rfl) (fun u17_1 _=> ?_)
    exact zO (hD7 u17_1) (by kernel_rfl) ((.of rfl):SubM _ _) .rfl .rfl ((.of [0,1,2] rfl):SelR _ _ _)
theorem zEe {wi1:Int} {hi1:Int} {m1:Int} {p1:Option Addr} {n1:Nat} {c1:Nat} {l1:List Int} {wi2:Int} {hi2:Int} {m2:Int} {p2:Option Addr} {n2:Nat} {c2:Nat} {l2:List Int} {ex:Int} {ey:Int} (hn1:l1.length=n1) (hn2:l2.length=n2) (hex: -9223372036854775808≤ex∧ex≤9223372036854775807) (hey: -9223372036854775808≤ey∧ey≤9223372036854775807):Con Tryz.prog 23 [.agg #[.int .i64 wi1,.int .i64 hi1,.int .i64 m1,.slice p1 n1 c1],.agg #[.int .i64 wi2,.int .i64 hi2,.int .i64 m2,.slice p2 n2 c2],.int .i64 ex,.int .i64 ey] [] [slF (rI .i64) p1 c1 l1,slF (rI .i64) p2 c2 l2] (Y:=Wd×Wd×Wd×Wd) (fun y=>¬((Cr.rk2 wi1 hi1 m1 l1 wi2 hi2 m2 l2)∧(Cr.ps4 wi1 hi1 wi2 hi2 ex ey)∧¬(Cr.dg l1 l2 wi1 hi1 wi2 ex ey))→y.1=wz∧y.2.1=wz∧y.2.2.1=wz∧y.2.2.2=wz) (fun y=> .tuple #[.agg #[y.1.b,y.1.l,y.2.1.b,y.2.1.l,y.2.2.1.b,y.2.2.1.l,y.2.2.2.b,y.2.2.2.l],.int .i64 (if (Cr.rk2 wi1 hi1 m1 l1 wi2 hi2 m2 l2) then (if (Cr.ps4 wi1 hi1 wi2 hi2 ex ey) then (if (Cr.dg l1 l2 wi1 hi1 wi2 ex ey) then 13 else 0) else 15) else 1)]) (fun y=>[]) (fun y=>[qF (decide ((Cr.rk2 wi1 hi1 m1 l1 wi2 hi2 m2 l2)∧(Cr.ps4 wi1 hi1 wi2 hi2 ex ey)∧¬(Cr.dg l1 l2 wi1 hi1 wi2 ex ey))) y.1 y.2.1 (if ((Cr.rk2 wi1 hi1 m1 l1 wi2 hi2 m2 l2)∧(Cr.ps4 wi1 hi1 wi2 hi2 ex ey)∧¬(Cr.dg l1 l2 wi1 hi1 wi2 ex ey)) then (Cr.vlX l1 l2 wi1 hi1 wi2 ex ey) else 0),qF (decide ((Cr.rk2 wi1 hi1 m1 l1 wi2 hi2 m2 l2)∧(Cr.ps4 wi1 hi1 wi2 hi2 ex ey)∧¬(Cr.dg l1 l2 wi1 hi1 wi2 ex ey))) y.2.2.1 y.2.2.2 (if ((Cr.rk2 wi1 hi1 m1 l1 wi2 hi2 m2 l2)∧(Cr.ps4 wi1 hi1 wi2 hi2 ex ey)∧¬(Cr.dg l1 l2 wi1 hi1 wi2 ex ey)) then (Cr.vlY l1 l2 wi1 hi1 wi2 ex ey) else 0)]):=by
 refine zr Tryz.func23 rfl rfl rfl (fun c=> ?_)
 show RunC _ _ _ _ _ [(0,.agg #[.int .i64 wi1,.int .i64 hi1,.int .i64 m1,.slice p1 n1 c1]),(1,.agg #[.int .i64 wi2,.int .i64 hi2,.int .i64 m2,.slice p2 n2 c2]),(2,.int .i64 ex),(3,.int .i64 ey)] [] [slF (rI .i64) p1 c1 l1,slF (rI .i64) p2 c2 l2]
 refine zaa 0 rfl (fun hL0=> ?_)
 refine zaa 1 rfl (fun hL1=> ?_)
 refine zh<|zc<|zK rfl rfl (zP rfl rfl) (fun b1=> ?_)
 refine zK rfl rfl (zP rfl rfl) (fun b2=> ?_)
 refine zK rfl rfl (zu zr55 rfl) (fun b3=> ?_)
 refine r_pv rfl rfl (ze rfl)<|zj<|zf<|zh<|zh<|zc<|r_u rfl rfl (zd 2 ty24 rfl rfl (.take (.take (.take (.take .nil)))))<|r_u rfl rfl (zd 1 ty24 rfl rfl (.take (.take (.take (.take .nil)))))<|zN rfl rfl (.c rfl (.c rfl .n)) ce34 (zdd (wi1:=wi1) (hi1:=hi1) (m1:=m1) (p1:=p1) (n1:=n1) (c1:=c1) (l1:=l1) (wi2:=wi2) (hi2:=hi2) (m2:=m2) (p2:=p2) (n2:=n2) (c2:=c2) (l2:=l2) (hn1:=by assumption) (hn2:=by assumption)) (.c (j:=0) rfl (.c (j:=1) rfl .n))<|r_pv rfl rfl (ze rfl)<|zj<|zf<|zh<|zc<|r_pv rfl rfl (za rfl)<|r_pv rfl rfl (zMa rfl rfl)<|zj<|zf<|zJ rfl (fun hc=> ?_) (fun hc=> ?_)
 ·
  have hno:¬(Cr.rk2 wi1 hi1 m1 l1 wi2 hi2 m2 l2):=fun k=>hc (if_pos k)
  refine zh<|zc<|r_pv rfl rfl (zE zr55 rfl Tryz.underlying55 (.c sz32 (.c sz32 .n)) .n .n)<|r_pv rfl rfl (za rfl)<|zl 0 rfl rfl rfl rfl rfl sz55 rfl (.take (.take (.take (.take (.take (.take (.take (.take .nil)))))))) .z<|r_pv rfl rfl (ze rfl)<|zj<|zf<|zL<|zq<|zIa (qF false wz wz 0) (fun g _=>qF_none g) ?_
  have hg9:¬((Cr.rk2 wi1 hi1 m1 l1 wi2 hi2 m2 l2)∧(Cr.ps4 wi1 hi1 wi2 hi2 ex ey)∧¬(Cr.dg l1 l2 wi1 hi1 wi2 ex ey)):=fun k=>hno k.1
  exact zua Tryz.results23 (wz,wz,wz,wz) (fun _=>⟨rfl,rfl,rfl,rfl⟩) (zp 0 ty55 rfl rfl (.take (.take (.take (.take (.take (.take (.take (.take .nil))))))))) (zt rfl) (by simp only [if_neg hno];rfl) (ho:=(.n:PickO _ _ _)) ((.e (j:=0) rfl (by rw [if_neg hg9,decide_eq_false hg9]) (.e (j:=0) rfl (by rw [if_neg hg9,decide_eq_false hg9]) .n)):SelR _ _ _)
 ·
  have hok:(Cr.rk2 wi1 hi1 m1 l1 wi2 hi2 m2 l2):=Bl.c0.1 (Decidable.not_not.1 hc)
  obtain ⟨w1,vh1,rfl,rfl,hw1,hh1,hwh1,hb1,hg1⟩:=Cr.rokN (hok.1) hn1
  obtain ⟨w2,vh2,rfl,rfl,hw2,hh2,hwh2,hb2,hg2⟩:=Cr.rokN (hok.2) hn2
  refine zH<|zf<|zh<|zc<|r_u rfl rfl (zd 2 ty24 rfl rfl (.take (.take (.take (.take .nil)))))<|r_u rfl rfl (zd 1 ty24 rfl rfl (.take (.take (.take (.take .nil)))))<|zw rfl rfl (.c rfl (.c rfl .n)) ce35 (zeb (w1:=w1) (vh1:=vh1) (m1:=m1) (p1:=p1) (n1:=n1) (c1:=c1) (l1:=l1) (w2:=w2) (vh2:=vh2) (m2:=m2) (p2:=p2) (n2:=n2) (c2:=c2) (l2:=l2) (hn1:=by assumption) (hw1:=by first|rfl|assumption|exact Cr.ps4_mid hp9|exact hp9.1|exact hp9.2.1|exact hp9.2.2.1|exact hp9.2.2.2|omega) (hh1:=by first|rfl|assumption|exact Cr.ps4_mid hp9|exact hp9.1|exact hp9.2.1|exact hp9.2.2.1|exact hp9.2.2.2|omega) (hwh1:=by first|rfl|assumption|exact Cr.ps4_mid hp9|exact hp9.1|exact hp9.2.1|exact hp9.2.2.1|exact hp9.2.2.2|omega) (hb1:=by first|rfl|assumption|exact Cr.ps4_mid hp9|exact hp9.1|exact hp9.2.1|exact hp9.2.2.1|exact hp9.2.2.2|omega) (hg1:=by first|rfl|assumption|exact Cr.ps4_mid hp9|exact hp9.1|exact hp9.2.1|exact hp9.2.2.1|exact hp9.2.2.2|omega) (hn2:=by assumption) (hw2:=by first|rfl|assumption|exact Cr.ps4_mid hp9|exact hp9.1|exact hp9.2.1|exact hp9.2.2.1|exact hp9.2.2.2|omega) (hh2:=by first|rfl|assumption|exact Cr.ps4_mid hp9|exact hp9.1|exact hp9.2.1|exact hp9.2.2.1|exact hp9.2.2.2|omega) (hwh2:=by first|rfl|assumption|exact Cr.ps4_mid hp9|exact hp9.1|exact hp9.2.1|exact hp9.2.2.1|exact hp9.2.2.2|omega) (hb2:=by first|rfl|assumption|exact Cr.ps4_mid hp9|exact hp9.1|exact hp9.2.1|exact hp9.2.2.1|exact hp9.2.2.2|omega) (hg2:=by first|rfl|assumption|exact Cr.ps4_mid hp9|exact hp9.1|exact hp9.2.1|exact hp9.2.2.1|exact hp9.2.2.2|omega) (hok:=by exact hok.2)) (.c (j:=0) rfl (.c (j:=1) rfl .n)) ?_
  rintro ⟨bm4,ps5,cs6,pq7,cq8⟩ -
  dsimp only [List.append_eq,List.nil_append,List.cons_append]
  refine r_pv rfl rfl (ze rfl)<|zj<|zf<|zh<|zUa (X:=Unit) (fun x=>True) (fun x=>[(73,.bool (decide ((((((((ex<(-1048576))∨(1048576<ex))∨(ey<(-1048576)))∨(1048576<ey))∨(¬(0≤(ex - 1)∧0≤ey∧(ex - 1)≤((w2:Nat):Int) - ((w1:Nat):Int)∧ey≤((vh2:Nat):Int) - ((vh1:Nat):Int))))∨(¬(0≤(ex+1)∧0≤ey∧(ex+1)≤((w2:Nat):Int) - ((w1:Nat):Int)∧ey≤((vh2:Nat):Int) - ((vh1:Nat):Int))))∨(¬(0≤ex∧0≤(ey - 1)∧ex≤((w2:Nat):Int) - ((w1:Nat):Int)∧(ey - 1)≤((vh2:Nat):Int) - ((vh1:Nat):Int))))∨(¬(0≤ex∧0≤(ey+1)∧ex≤((w2:Nat):Int) - ((w1:Nat):Int)∧(ey+1)≤((vh2:Nat):Int) - ((vh1:Nat):Int)))))),(11,.pointer (some ⟨bm4,0,none⟩)),(9,.int .i64 0),(8,.pointer (some ⟨b3,0,none⟩)),(2,.int .i64 ex),(3,.int .i64 ey)]) (fun x=>[boxA b3 55 [.bool false,.slice none 0 0,.bool false,.slice none 0 0,.bool false,.slice none 0 0,.bool false,.slice none 0 0],boxA b2 24 [.int .i64 ((w2:Nat):Int),.int .i64 ((vh2:Nat):Int),.int .i64 m2,.slice p2 n2 c2],boxA b1 24 [.int .i64 ((w1:Nat):Int),.int .i64 ((vh1:Nat):Int),.int .i64 m1,.slice p1 n1 c1]]) (fun x=>[atF bm4 0 [.int .i64 ((w1:Nat):Int),.int .i64 ((vh1:Nat):Int),.int .i64 m1,.slice p1 n1 c1,.int .i64 ((w2:Nat):Int),.int .i64 ((vh2:Nat):Int),.int .i64 m2,.slice p2 n2 c2,.slice ps5 (vh2+1) cs6,.slice pq7 (vh2+1) cq8,.int .i64 (Cr.sumN (Cr.px l1) n1),.int .i64 ((((n1:Nat):Int)*(Cr.sumN (Cr.sq l1) n1)) - ((Cr.sumN (Cr.px l1) n1)*(Cr.sumN (Cr.px l1) n1)))],slF (rS (rI .i64)) ps5 cs6 (Cr.tab (Cr.px l2) w2 (vh2+1)),slF (rS (rI .i64)) pq7 cq8 (Cr.tab (Cr.sq l2) w2 (vh2+1)),slF (rI .i64) p1 c1 l1,slF (rI .i64) p2 c2 l2]) ?_ ?_
  ·
   refine zc<|r_pv rfl rfl (za rfl)<|r_pv rfl rfl (zja rfl rfl)<|zS rfl rfl (za rfl) (fun h9=> ?_) (fun h9=> ?_)
   ·
    refine zb rfl rfl<|zb rfl rfl<|r_pv rfl rfl (zm rfl rfl)<|r_pv rfl rfl (za rfl)<|zb rfl rfl<|zb rfl rfl<|r_pv rfl rfl (zm rfl rfl)<|r_pv rfl rfl (za rfl)<|zb rfl rfl<|zb rfl rfl<|r_pv rfl rfl (zm rfl rfl)<|r_pv rfl rfl (za rfl)<|zb rfl rfl<|zb rfl rfl<|zb rfl rfl<|zb rfl rfl<|zb rfl rfl<|zb rfl rfl<|r_pv rfl rfl (zm rfl rfl)<|r_pv rfl rfl (za rfl)<|zb rfl rfl<|zb rfl rfl<|zb rfl rfl<|zb rfl rfl<|zb rfl rfl<|zb rfl rfl<|r_pv rfl rfl (zm rfl rfl)<|r_pv rfl rfl (za rfl)<|zb rfl rfl<|zb rfl rfl<|zb rfl rfl<|zb rfl rfl<|zb rfl rfl<|zb rfl rfl<|r_pv rfl rfl (zm rfl rfl)<|r_pv rfl rfl (za rfl)<|zb rfl rfl<|zb rfl rfl<|zb rfl rfl<|zb rfl rfl<|zb rfl rfl<|zb rfl rfl<|r_pv rfl rfl (zm rfl rfl)<|zj ?_
    exact zha () (show True from by first|trivial|omega|simp_all) ((.e rfl (congrArg Value.bool (by first|(simp_all;done)|(simp_all;omega)|(simp;omega)|omega)) (.of rfl)):SubM _ _) (ho:=((.of [0,0,0] rfl):PickO _ _ _)) ((.of [0,1,2,3,4] rfl):SelR _ _ _)
   ·
    refine r_pv rfl rfl (za rfl)<|r_pv rfl rfl (zwa rfl rfl)<|r_pv rfl rfl (zm rfl rfl)<|zS rfl rfl (za rfl) (fun h10=> ?_) (fun h10=> ?_)
    ·
     refine zb rfl rfl<|zb rfl rfl<|r_pv rfl rfl (zm rfl rfl)<|r_pv rfl rfl (za rfl)<|zb rfl rfl<|zb rfl rfl<|r_pv rfl rfl (zm rfl rfl)<|r_pv rfl rfl (za rfl)<|zb rfl rfl<|zb rfl rfl<|zb rfl rfl<|zb rfl rfl<|zb rfl rfl<|zb rfl rfl<|r_pv rfl rfl (zm rfl rfl)<|r_pv rfl rfl (za rfl)<|zb rfl rfl<|zb rfl rfl<|zb rfl rfl<|zb rfl rfl<|zb rfl rfl<|zb rfl rfl<|r_pv rfl rfl (zm rfl rfl)<|r_pv rfl rfl (za rfl)<|zb rfl rfl<|zb rfl rfl<|zb rfl rfl<|zb rfl rfl<|zb rfl rfl<|zb rfl rfl<|r_pv rfl rfl (zm rfl rfl)<|r_pv rfl rfl (za rfl)<|zb rfl rfl<|zb rfl rfl<|zb rfl rfl<|zb rfl rfl<|zb rfl rfl<|zb rfl rfl<|r_pv rfl rfl (zm rfl rfl)<|zj ?_
     exact zha () (show True from by first|trivial|omega|simp_all) ((.e rfl (congrArg Value.bool (by first|(simp_all;done)|(simp_all;omega)|(simp;omega)|omega)) (.of rfl)):SubM _ _) (ho:=((.of [0,0,0] rfl):PickO _ _ _)) ((.of [0,1,2,3,4] rfl):SelR _ _ _)
    ·
     refine r_pv rfl rfl (za rfl)<|r_pv rfl rfl (zja rfl rfl)<|r_pv rfl rfl (zm rfl rfl)<|zS rfl rfl (za rfl) (fun h11=> ?_) (fun h11=> ?_)
     ·
      refine zb rfl rfl<|zb rfl rfl<|r_pv rfl rfl (zm rfl rfl)<|r_pv rfl rfl (za rfl)<|zb rfl rfl<|zb rfl rfl<|zb rfl rfl<|zb rfl rfl<|zb rfl rfl<|zb rfl rfl<|r_pv rfl rfl (zm rfl rfl)<|r_pv rfl rfl (za rfl)<|zb rfl rfl<|zb rfl rfl<|zb rfl rfl<|zb rfl rfl<|zb rfl rfl<|zb rfl rfl<|r_pv rfl rfl (zm rfl rfl)<|r_pv rfl rfl (za rfl)<|zb rfl rfl<|zb rfl rfl<|zb rfl rfl<|zb rfl rfl<|zb rfl rfl<|zb rfl rfl<|r_pv rfl rfl (zm rfl rfl)<|r_pv rfl rfl (za rfl)<|zb rfl rfl<|zb rfl rfl<|zb rfl rfl<|zb rfl rfl<|zb rfl rfl<|zb rfl rfl<|r_pv rfl rfl (zm rfl rfl)<|zj ?_
      exact zha () (show True from by first|trivial|omega|simp_all) ((.e rfl (congrArg Value.bool (by first|(simp_all;done)|(simp_all;omega)|(simp;omega)|omega)) (.of rfl)):SubM _ _) (ho:=((.of [0,0,0] rfl):PickO _ _ _)) ((.of [0,1,2,3,4] rfl):SelR _ _ _)
     ·
      refine r_pv rfl rfl (za rfl)<|r_pv rfl rfl (zwa rfl rfl)<|r_pv rfl rfl (zm rfl rfl)<|zS rfl rfl (za rfl) (fun h12=> ?_) (fun h12=> ?_)
      ·
       refine zb rfl rfl<|zb rfl rfl<|zb rfl rfl<|zb rfl rfl<|zb rfl rfl<|zb rfl rfl<|r_pv rfl rfl (zm rfl rfl)<|r_pv rfl rfl (za rfl)<|zb rfl rfl<|zb rfl rfl<|zb rfl rfl<|zb rfl rfl<|zb rfl rfl<|zb rfl rfl<|r_pv rfl rfl (zm rfl rfl)<|r_pv rfl rfl (za rfl)<|zb rfl rfl<|zb rfl rfl<|zb rfl rfl<|zb rfl rfl<|zb rfl rfl<|zb rfl rfl<|r_pv rfl rfl (zm rfl rfl)<|r_pv rfl rfl (za rfl)<|zb rfl rfl<|zb rfl rfl<|zb rfl rfl<|zb rfl rfl<|zb rfl rfl<|zb rfl rfl<|r_pv rfl rfl (zm rfl rfl)<|zj ?_
       exact zha () (show True from by first|trivial|omega|simp_all) ((.e rfl (congrArg Value.bool (by first|(simp_all;done)|(simp_all;omega)|(simp;omega)|omega)) (.of rfl)):SubM _ _) (ho:=((.of [0,0,0] rfl):PickO _ _ _)) ((.of [0,1,2,3,4] rfl):SelR _ _ _)
      ·
       refine r_pv rfl rfl (za rfl)<|r_pv rfl rfl (za rfl)<|r_pv rfl rfl (zda (z:=(ex - 1)) rfl rfl (w64 (by omega)))<|r_pv rfl rfl (za rfl)<|zN rfl rfl (.c rfl (.c rfl (.c rfl .n))) ce36 (zhc (w1:=w1) (vh1:=vh1) (m1:=m1) (p1:=p1) (n1:=n1) (c1:=c1) (w2:=w2) (vh2:=vh2) (m2:=m2) (p2:=p2) (n2:=n2) (c2:=c2) (bm:=bm4) (ps:=ps5) (cs:=cs6) (pq:=pq7) (cq:=cq8) (sm:=(Cr.sumN (Cr.px l1) n1)) (sp:=((((n1:Nat):Int)*(Cr.sumN (Cr.sq l1) n1)) - ((Cr.sumN (Cr.px l1) n1)*(Cr.sumN (Cr.px l1) n1)))) (ex:=(ex - 1)) (ey:=ey) (hw1:=by first|rfl|assumption|exact Cr.ps4_mid hp9|exact hp9.1|exact hp9.2.1|exact hp9.2.2.1|exact hp9.2.2.2|omega) (hh1:=by first|rfl|assumption|exact Cr.ps4_mid hp9|exact hp9.1|exact hp9.2.1|exact hp9.2.2.1|exact hp9.2.2.2|omega) (hw2:=by first|rfl|assumption|exact Cr.ps4_mid hp9|exact hp9.1|exact hp9.2.1|exact hp9.2.2.1|exact hp9.2.2.2|omega) (hh2:=by first|rfl|assumption|exact Cr.ps4_mid hp9|exact hp9.1|exact hp9.2.1|exact hp9.2.2.1|exact hp9.2.2.2|omega)) (.c (j:=0) rfl .n)<|r_pv rfl rfl (zAa rfl)<|r_pv rfl rfl (zm rfl rfl)<|zS rfl rfl (za rfl) (fun h13=> ?_) (fun h13=> ?_)
       ·
        refine zb rfl rfl<|zb rfl rfl<|zb rfl rfl<|zb rfl rfl<|zb rfl rfl<|zb rfl rfl<|r_pv rfl rfl (zm rfl rfl)<|r_pv rfl rfl (za rfl)<|zb rfl rfl<|zb rfl rfl<|zb rfl rfl<|zb rfl rfl<|zb rfl rfl<|zb rfl rfl<|r_pv rfl rfl (zm rfl rfl)<|r_pv rfl rfl (za rfl)<|zb rfl rfl<|zb rfl rfl<|zb rfl rfl<|zb rfl rfl<|zb rfl rfl<|zb rfl rfl<|r_pv rfl rfl (zm rfl rfl)<|zj ?_
        exact zha () (show True from by first|trivial|omega|simp_all) ((.e rfl (congrArg Value.bool (by first|(simp_all;done)|(simp_all;omega)|(simp;omega)|omega)) (.of rfl)):SubM _ _) (ho:=((.of [0,0,0] rfl):PickO _ _ _)) ((.of [0,1,2,3,4] rfl):SelR _ _ _)
       ·
        refine r_pv rfl rfl (za rfl)<|r_pv rfl rfl (za rfl)<|r_pv rfl rfl (zG (z:=(ex+1)) rfl rfl (w64 (by omega)))<|r_pv rfl rfl (za rfl)<|zN rfl rfl (.c rfl (.c rfl (.c rfl .n))) ce36 (zhc (w1:=w1) (vh1:=vh1) (m1:=m1) (p1:=p1) (n1:=n1) (c1:=c1) (w2:=w2) (vh2:=vh2) (m2:=m2) (p2:=p2) (n2:=n2) (c2:=c2) (bm:=bm4) (ps:=ps5) (cs:=cs6) (pq:=pq7) (cq:=cq8) (sm:=(Cr.sumN (Cr.px l1) n1)) (sp:=((((n1:Nat):Int)*(Cr.sumN (Cr.sq l1) n1)) - ((Cr.sumN (Cr.px l1) n1)*(Cr.sumN (Cr.px l1) n1)))) (ex:=(ex+1)) (ey:=ey) (hw1:=by first|rfl|assumption|exact Cr.ps4_mid hp9|exact hp9.1|exact hp9.2.1|exact hp9.2.2.1|exact hp9.2.2.2|omega) (hh1:=by first|rfl|assumption|exact Cr.ps4_mid hp9|exact hp9.1|exact hp9.2.1|exact hp9.2.2.1|exact hp9.2.2.2|omega) (hw2:=by first|rfl|assumption|exact Cr.ps4_mid hp9|exact hp9.1|exact hp9.2.1|exact hp9.2.2.1|exact hp9.2.2.2|omega) (hh2:=by first|rfl|assumption|exact Cr.ps4_mid hp9|exact hp9.1|exact hp9.2.1|exact hp9.2.2.1|exact hp9.2.2.2|omega)) (.c (j:=0) rfl .n)<|r_pv rfl rfl (zAa rfl)<|r_pv rfl rfl (zm rfl rfl)<|zS rfl rfl (za rfl) (fun h14=> ?_) (fun h14=> ?_)
        ·
         refine zb rfl rfl<|zb rfl rfl<|zb rfl rfl<|zb rfl rfl<|zb rfl rfl<|zb rfl rfl<|r_pv rfl rfl (zm rfl rfl)<|r_pv rfl rfl (za rfl)<|zb rfl rfl<|zb rfl rfl<|zb rfl rfl<|zb rfl rfl<|zb rfl rfl<|zb rfl rfl<|r_pv rfl rfl (zm rfl rfl)<|zj ?_
         exact zha () (show True from by first|trivial|omega|simp_all) ((.e rfl (congrArg Value.bool (by first|(simp_all;done)|(simp_all;omega)|(simp;omega)|omega)) (.of rfl)):SubM _ _) (ho:=((.of [0,0,0] rfl):PickO _ _ _)) ((.of [0,1,2,3,4] rfl):SelR _ _ _)
        ·
         refine r_pv rfl rfl (za rfl)<|r_pv rfl rfl (za rfl)<|r_pv rfl rfl (za rfl)<|r_pv rfl rfl (zda (z:=(ey - 1)) rfl rfl (w64 (by omega)))<|zN rfl rfl (.c rfl (.c rfl (.c rfl .n))) ce36 (zhc (w1:=w1) (vh1:=vh1) (m1:=m1) (p1:=p1) (n1:=n1) (c1:=c1) (w2:=w2) (vh2:=vh2) (m2:=m2) (p2:=p2) (n2:=n2) (c2:=c2) (bm:=bm4) (ps:=ps5) (cs:=cs6) (pq:=pq7) (cq:=cq8) (sm:=(Cr.sumN (Cr.px l1) n1)) (sp:=((((n1:Nat):Int)*(Cr.sumN (Cr.sq l1) n1)) - ((Cr.sumN (Cr.px l1) n1)*(Cr.sumN (Cr.px l1) n1)))) (ex:=ex) (ey:=(ey - 1)) (hw1:=by first|rfl|assumption|exact Cr.ps4_mid hp9|exact hp9.1|exact hp9.2.1|exact hp9.2.2.1|exact hp9.2.2.2|omega) (hh1:=by first|rfl|assumption|exact Cr.ps4_mid hp9|exact hp9.1|exact hp9.2.1|exact hp9.2.2.1|exact hp9.2.2.2|omega) (hw2:=by first|rfl|assumption|exact Cr.ps4_mid hp9|exact hp9.1|exact hp9.2.1|exact hp9.2.2.1|exact hp9.2.2.2|omega) (hh2:=by first|rfl|assumption|exact Cr.ps4_mid hp9|exact hp9.1|exact hp9.2.1|exact hp9.2.2.1|exact hp9.2.2.2|omega)) (.c (j:=0) rfl .n)<|r_pv rfl rfl (zAa rfl)<|r_pv rfl rfl (zm rfl rfl)<|zS rfl rfl (za rfl) (fun h15=> ?_) (fun h15=> ?_)
         ·
          refine zb rfl rfl<|zb rfl rfl<|zb rfl rfl<|zb rfl rfl<|zb rfl rfl<|zb rfl rfl<|r_pv rfl rfl (zm rfl rfl)<|zj ?_
          exact zha () (show True from by first|trivial|omega|simp_all) ((.e rfl (congrArg Value.bool (by first|(simp_all;done)|(simp_all;omega)|(simp;omega)|omega)) (.of rfl)):SubM _ _) (ho:=((.of [0,0,0] rfl):PickO _ _ _)) ((.of [0,1,2,3,4] rfl):SelR _ _ _)
         ·
          refine r_pv rfl rfl (za rfl)<|r_pv rfl rfl (za rfl)<|r_pv rfl rfl (za rfl)<|r_pv rfl rfl (zG (z:=(ey+1)) rfl rfl (w64 (by omega)))<|zN rfl rfl (.c rfl (.c rfl (.c rfl .n))) ce36 (zhc (w1:=w1) (vh1:=vh1) (m1:=m1) (p1:=p1) (n1:=n1) (c1:=c1) (w2:=w2) (vh2:=vh2) (m2:=m2) (p2:=p2) (n2:=n2) (c2:=c2) (bm:=bm4) (ps:=ps5) (cs:=cs6) (pq:=pq7) (cq:=cq8) (sm:=(Cr.sumN (Cr.px l1) n1)) (sp:=((((n1:Nat):Int)*(Cr.sumN (Cr.sq l1) n1)) - ((Cr.sumN (Cr.px l1) n1)*(Cr.sumN (Cr.px l1) n1)))) (ex:=ex) (ey:=(ey+1)) (hw1:=by first|rfl|assumption|exact Cr.ps4_mid hp9|exact hp9.1|exact hp9.2.1|exact hp9.2.2.1|exact hp9.2.2.2|omega) (hh1:=by first|rfl|assumption|exact Cr.ps4_mid hp9|exact hp9.1|exact hp9.2.1|exact hp9.2.2.1|exact hp9.2.2.2|omega) (hw2:=by first|rfl|assumption|exact Cr.ps4_mid hp9|exact hp9.1|exact hp9.2.1|exact hp9.2.2.1|exact hp9.2.2.2|omega) (hh2:=by first|rfl|assumption|exact Cr.ps4_mid hp9|exact hp9.1|exact hp9.2.1|exact hp9.2.2.1|exact hp9.2.2.2|omega)) (.c (j:=0) rfl .n)<|r_pv rfl rfl (zAa rfl)<|r_pv rfl rfl (zm rfl rfl)<|zj ?_
          exact zha () (show True from by first|trivial|omega|simp_all) ((.e rfl (congrArg Value.bool (by first|(simp_all;done)|(simp_all;omega)|(simp;omega)|omega)) (.of rfl)):SubM _ _) (ho:=((.of [0,0,0] rfl):PickO _ _ _)) ((.of [0,1,2,3,4] rfl):SelR _ _ _)
  ·
   rintro ⟨⟩ -
   try dsimp only
   refine zJ rfl (fun hp=> ?_) (fun hp=> ?_)
   ·
    have hp9:¬(Cr.ps4 ((w1:Nat):Int) ((vh1:Nat):Int) ((w2:Nat):Int) ((vh2:Nat):Int) ex ey):=(Cr.ps4_prog (by omega) (by omega) (by omega) (by omega)).2 hp
    refine zh<|zc<|r_pv rfl rfl (zE zr55 rfl Tryz.underlying55 (.c sz32 (.c sz32 .n)) .n .n)<|zl 0 rfl rfl rfl rfl rfl sz55 rfl (.take (.take (.take (.take (.take (.take (.take (.take .nil)))))))) .z<|r_pv rfl rfl (ze rfl)<|zj<|zf<|zL<|zq<|zIa (qF false wz wz 0) (fun g _=>qF_none g) ?_
    have hg9:¬((Cr.rk2 ((w1:Nat):Int) ((vh1:Nat):Int) m1 l1 ((w2:Nat):Int) ((vh2:Nat):Int) m2 l2)∧(Cr.ps4 ((w1:Nat):Int) ((vh1:Nat):Int) ((w2:Nat):Int) ((vh2:Nat):Int) ex ey)∧¬(Cr.dg l1 l2 ((w1:Nat):Int) ((vh1:Nat):Int) ((w2:Nat):Int) ex ey)):=fun k=>hp9 k.2.1
    exact zua Tryz.results23 (wz,wz,wz,wz) (fun _=>⟨rfl,rfl,rfl,rfl⟩) (zp 0 ty55 rfl rfl (.take (.take (.take (.take (.take (.take (.take (.take .nil))))))))) (zt rfl) (by rw [if_pos hok,if_neg hp9];rfl) (ho:=(.n:PickO _ _ _)) ((.e (j:=0) rfl (by rw [if_neg hg9,decide_eq_false hg9]) (.e (j:=0) rfl (by rw [if_neg hg9,decide_eq_false hg9]) .n)):SelR _ _ _)
   ·
    have hp9:(Cr.ps4 ((w1:Nat):Int) ((vh1:Nat):Int) ((w2:Nat):Int) ((vh2:Nat):Int) ex ey):=Decidable.not_not.1 (fun k=>hp ((Cr.ps4_prog (by omega) (by omega) (by omega) (by omega)).1 k))
    have hb0:=Cr.ps4_mid hp9
    have hb1x:=hb0.1
    have hb2x:=hb0.2.1
    have hb3x:=hb0.2.2.1
    have hb4x:=hb0.2.2.2
    have hq0:Big.hq (Cr.scq l1 l2 ((w1:Nat):Int) ((vh1:Nat):Int) ((w2:Nat):Int) ex ey)≤6:=Cr.scq_hq hg1 hg2 hw1 hh1 hwh1 hwh2 hb1 hn1 (Cr.ps4_mid hp9)
    have hq1:Big.hq (Cr.scq l1 l2 ((w1:Nat):Int) ((vh1:Nat):Int) ((w2:Nat):Int) (ex - 1) ey)≤6:=Cr.scq_hq hg1 hg2 hw1 hh1 hwh1 hwh2 hb1 hn1 hp9.1
    have hq2:Big.hq (Cr.scq l1 l2 ((w1:Nat):Int) ((vh1:Nat):Int) ((w2:Nat):Int) (ex+1) ey)≤6:=Cr.scq_hq hg1 hg2 hw1 hh1 hwh1 hwh2 hb1 hn1 hp9.2.1
    have hq3:Big.hq (Cr.scq l1 l2 ((w1:Nat):Int) ((vh1:Nat):Int) ((w2:Nat):Int) ex (ey - 1))≤6:=Cr.scq_hq hg1 hg2 hw1 hh1 hwh1 hwh2 hb1 hn1 hp9.2.2.1
    have hq4:Big.hq (Cr.scq l1 l2 ((w1:Nat):Int) ((vh1:Nat):Int) ((w2:Nat):Int) ex (ey+1))≤6:=Cr.scq_hq hg1 hg2 hw1 hh1 hwh1 hwh2 hb1 hn1 hp9.2.2.2
    refine zH<|zf<|zh<|zc<|r_pv rfl rfl (za rfl)<|r_pv rfl rfl (za rfl)<|r_pv rfl rfl (za rfl)<|zw rfl rfl (.c rfl (.c rfl (.c rfl .n))) ce37 (zsb (w1:=w1) (vh1:=vh1) (m1:=m1) (p1:=p1) (n1:=n1) (c1:=c1) (l1:=l1) (w2:=w2) (vh2:=vh2) (m2:=m2) (p2:=p2) (n2:=n2) (c2:=c2) (l2:=l2) (bm:=bm4) (ps:=ps5) (cs:=cs6) (pq:=pq7) (cq:=cq8) (ex:=ex) (ey:=ey) (hn1:=by assumption) (hw1:=by first|rfl|assumption|exact Cr.ps4_mid hp9|exact hp9.1|exact hp9.2.1|exact hp9.2.2.1|exact hp9.2.2.2|omega) (hh1:=by first|rfl|assumption|exact Cr.ps4_mid hp9|exact hp9.1|exact hp9.2.1|exact hp9.2.2.1|exact hp9.2.2.2|omega) (hwh1:=by first|rfl|assumption|exact Cr.ps4_mid hp9|exact hp9.1|exact hp9.2.1|exact hp9.2.2.1|exact hp9.2.2.2|omega) (hb1:=by first|rfl|assumption|exact Cr.ps4_mid hp9|exact hp9.1|exact hp9.2.1|exact hp9.2.2.1|exact hp9.2.2.2|omega) (hg1:=by first|rfl|assumption|exact Cr.ps4_mid hp9|exact hp9.1|exact hp9.2.1|exact hp9.2.2.1|exact hp9.2.2.2|omega) (hn2:=by assumption) (hw2:=by first|rfl|assumption|exact Cr.ps4_mid hp9|exact hp9.1|exact hp9.2.1|exact hp9.2.2.1|exact hp9.2.2.2|omega) (hh2:=by first|rfl|assumption|exact Cr.ps4_mid hp9|exact hp9.1|exact hp9.2.1|exact hp9.2.2.1|exact hp9.2.2.2|omega) (hwh2:=by first|rfl|assumption|exact Cr.ps4_mid hp9|exact hp9.1|exact hp9.2.1|exact hp9.2.2.1|exact hp9.2.2.2|omega) (hb2:=by first|rfl|assumption|exact Cr.ps4_mid hp9|exact hp9.1|exact hp9.2.1|exact hp9.2.2.1|exact hp9.2.2.2|omega) (hg2:=by first|rfl|assumption|exact Cr.ps4_mid hp9|exact hp9.1|exact hp9.2.1|exact hp9.2.2.1|exact hp9.2.2.2|omega) (hp:=by first|rfl|assumption|exact Cr.ps4_mid hp9|exact hp9.1|exact hp9.2.1|exact hp9.2.2.1|exact hp9.2.2.2|omega)) (.c (j:=0) rfl (.c (j:=3) rfl (.c (j:=4) rfl (.c (j:=1) rfl (.c (j:=2) rfl .n))))) ?_
    rintro ⟨w316,w417⟩ -
    dsimp only [List.append_eq,List.nil_append,List.cons_append]
    refine zK rfl rfl (zu zr32 rfl) (fun b18=> ?_)
    refine zl 0 rfl rfl rfl rfl rfl sz32 rfl (.take (.take (.take (.take .nil)))) .z<|zj<|zf<|zh<|zld 0 rfl .z<|zc<|r_pv rfl rfl (zRb .n (.c rfl .n))<|r_pv rfl rfl (ze rfl)<|zj<|zf<|zh<|zc<|r_pv rfl rfl (za rfl)<|r_pv rfl rfl (za rfl)<|r_pv rfl rfl (za rfl)<|r_pv rfl rfl (zda (z:=(ex - 1)) rfl rfl (w64 (by omega)))<|r_pv rfl rfl (za rfl)<|zw rfl rfl (.c rfl (.c rfl (.c rfl .n))) ce37 (zsb (w1:=w1) (vh1:=vh1) (m1:=m1) (p1:=p1) (n1:=n1) (c1:=c1) (l1:=l1) (w2:=w2) (vh2:=vh2) (m2:=m2) (p2:=p2) (n2:=n2) (c2:=c2) (l2:=l2) (bm:=bm4) (ps:=ps5) (cs:=cs6) (pq:=pq7) (cq:=cq8) (ex:=(ex - 1)) (ey:=ey) (hn1:=by assumption) (hw1:=by first|rfl|assumption|exact Cr.ps4_mid hp9|exact hp9.1|exact hp9.2.1|exact hp9.2.2.1|exact hp9.2.2.2|omega) (hh1:=by first|rfl|assumption|exact Cr.ps4_mid hp9|exact hp9.1|exact hp9.2.1|exact hp9.2.2.1|exact hp9.2.2.2|omega) (hwh1:=by first|rfl|assumption|exact Cr.ps4_mid hp9|exact hp9.1|exact hp9.2.1|exact hp9.2.2.1|exact hp9.2.2.2|omega) (hb1:=by first|rfl|assumption|exact Cr.ps4_mid hp9|exact hp9.1|exact hp9.2.1|exact hp9.2.2.1|exact hp9.2.2.2|omega) (hg1:=by first|rfl|assumption|exact Cr.ps4_mid hp9|exact hp9.1|exact hp9.2.1|exact hp9.2.2.1|exact hp9.2.2.2|omega) (hn2:=by assumption) (hw2:=by first|rfl|assumption|exact Cr.ps4_mid hp9|exact hp9.1|exact hp9.2.1|exact hp9.2.2.1|exact hp9.2.2.2|omega) (hh2:=by first|rfl|assumption|exact Cr.ps4_mid hp9|exact hp9.1|exact hp9.2.1|exact hp9.2.2.1|exact hp9.2.2.2|omega) (hwh2:=by first|rfl|assumption|exact Cr.ps4_mid hp9|exact hp9.1|exact hp9.2.1|exact hp9.2.2.1|exact hp9.2.2.2|omega) (hb2:=by first|rfl|assumption|exact Cr.ps4_mid hp9|exact hp9.1|exact hp9.2.1|exact hp9.2.2.1|exact hp9.2.2.2|omega) (hg2:=by first|rfl|assumption|exact Cr.ps4_mid hp9|exact hp9.1|exact hp9.2.1|exact hp9.2.2.1|exact hp9.2.2.2|omega) (hp:=by first|rfl|assumption|exact Cr.ps4_mid hp9|exact hp9.1|exact hp9.2.1|exact hp9.2.2.1|exact hp9.2.2.2|omega)) (.c (j:=2) rfl (.c (j:=5) rfl (.c (j:=6) rfl (.c (j:=3) rfl (.c (j:=4) rfl .n))))) ?_
    rintro ⟨w319,w420⟩ -
    dsimp only [List.append_eq,List.nil_append,List.cons_append]
    refine r_pv rfl rfl (za rfl)<|r_pv rfl rfl (za rfl)<|r_pv rfl rfl (zG (z:=(ex+1)) rfl rfl (w64 (by omega)))<|r_pv rfl rfl (za rfl)<|zw rfl rfl (.c rfl (.c rfl (.c rfl .n))) ce37 (zsb (w1:=w1) (vh1:=vh1) (m1:=m1) (p1:=p1) (n1:=n1) (c1:=c1) (l1:=l1) (w2:=w2) (vh2:=vh2) (m2:=m2) (p2:=p2) (n2:=n2) (c2:=c2) (l2:=l2) (bm:=bm4) (ps:=ps5) (cs:=cs6) (pq:=pq7) (cq:=cq8) (ex:=(ex+1)) (ey:=ey) (hn1:=by assumption) (hw1:=by first|rfl|assumption|exact Cr.ps4_mid hp9|exact hp9.1|exact hp9.2.1|exact hp9.2.2.1|exact hp9.2.2.2|omega) (hh1:=by first|rfl|assumption|exact Cr.ps4_mid hp9|exact hp9.1|exact hp9.2.1|exact hp9.2.2.1|exact hp9.2.2.2|omega) (hwh1:=by first|rfl|assumption|exact Cr.ps4_mid hp9|exact hp9.1|exact hp9.2.1|exact hp9.2.2.1|exact hp9.2.2.2|omega) (hb1:=by first|rfl|assumption|exact Cr.ps4_mid hp9|exact hp9.1|exact hp9.2.1|exact hp9.2.2.1|exact hp9.2.2.2|omega) (hg1:=by first|rfl|assumption|exact Cr.ps4_mid hp9|exact hp9.1|exact hp9.2.1|exact hp9.2.2.1|exact hp9.2.2.2|omega) (hn2:=by assumption) (hw2:=by first|rfl|assumption|exact Cr.ps4_mid hp9|exact hp9.1|exact hp9.2.1|exact hp9.2.2.1|exact hp9.2.2.2|omega) (hh2:=by first|rfl|assumption|exact Cr.ps4_mid hp9|exact hp9.1|exact hp9.2.1|exact hp9.2.2.1|exact hp9.2.2.2|omega) (hwh2:=by first|rfl|assumption|exact Cr.ps4_mid hp9|exact hp9.1|exact hp9.2.1|exact hp9.2.2.1|exact hp9.2.2.2|omega) (hb2:=by first|rfl|assumption|exact Cr.ps4_mid hp9|exact hp9.1|exact hp9.2.1|exact hp9.2.2.1|exact hp9.2.2.2|omega) (hg2:=by first|rfl|assumption|exact Cr.ps4_mid hp9|exact hp9.1|exact hp9.2.1|exact hp9.2.2.1|exact hp9.2.2.2|omega) (hp:=by first|rfl|assumption|exact Cr.ps4_mid hp9|exact hp9.1|exact hp9.2.1|exact hp9.2.2.1|exact hp9.2.2.2|omega)) (.c (j:=3) rfl (.c (j:=6) rfl (.c (j:=7) rfl (.c (j:=4) rfl (.c (j:=5) rfl .n))))) ?_
    rintro ⟨w321,w422⟩ -
    dsimp only [List.append_eq,List.nil_append,List.cons_append]
    refine zQc (first:=[]) (cap:=[.pointer (some ⟨b18,0,none⟩)]) rfl rfl rfl (.c rfl (.c rfl .n)) ce47 (zKc (u1:=w319) (v1:=w420) (q1:=(Cr.scq l1 l2 ((w1:Nat):Int) ((vh1:Nat):Int) ((w2:Nat):Int) (ex - 1) ey)) (u2:=w321) (v2:=w422) (q2:=(Cr.scq l1 l2 ((w1:Nat):Int) ((vh1:Nat):Int) ((w2:Nat):Int) (ex+1) ey)) (bc:=b18) (uc:=w316) (vc:=w417) (qc:=(Cr.scq l1 l2 ((w1:Nat):Int) ((vh1:Nat):Int) ((w2:Nat):Int) ex ey)) (hq1:=by first|rfl|assumption|exact Cr.ps4_mid hp9|exact hp9.1|exact hp9.2.1|exact hp9.2.2.1|exact hp9.2.2.2|omega) (hq2:=by first|rfl|assumption|exact Cr.ps4_mid hp9|exact hp9.1|exact hp9.2.1|exact hp9.2.2.1|exact hp9.2.2.2|omega) (hqc:=by first|rfl|assumption|exact Cr.ps4_mid hp9|exact hp9.1|exact hp9.2.1|exact hp9.2.2.1|exact hp9.2.2.2|omega)) (.c (j:=1) rfl (.c (j:=0) rfl (.c (j:=2) rfl (.c (j:=3) rfl .n)))) ?_
    rintro ⟨w323,w424⟩ hy25
    dsimp only [List.append_eq,List.nil_append,List.cons_append]
    replace hy25:(Cr.pkd (Cr.scq l1 l2 ((w1:Nat):Int) ((vh1:Nat):Int) ((w2:Nat):Int) (ex - 1) ey) (Cr.scq l1 l2 ((w1:Nat):Int) ((vh1:Nat):Int) ((w2:Nat):Int) ex ey) (Cr.scq l1 l2 ((w1:Nat):Int) ((vh1:Nat):Int) ((w2:Nat):Int) (ex+1) ey))→w323=wz∧w424=wz:=hy25
    refine r_pv rfl rfl (za rfl)<|r_pv rfl rfl (zo rfl rfl)<|r_pv rfl rfl (zo rfl rfl)<|zK rfl rfl (zu zr32 rfl) (fun b26=> ?_)
    refine zl 0 rfl rfl rfl rfl rfl sz32 rfl (.take (.take (.take (.take .nil)))) .z<|r_pv rfl rfl (ze rfl)<|zj<|zf<|zh<|zc<|r_pv rfl rfl (za rfl)<|r_pv rfl rfl (za rfl)<|r_pv rfl rfl (za rfl)<|r_pv rfl rfl (za rfl)<|r_pv rfl rfl (zda (z:=(ey - 1)) rfl rfl (w64 (by omega)))<|zw rfl rfl (.c rfl (.c rfl (.c rfl .n))) ce37 (zsb (w1:=w1) (vh1:=vh1) (m1:=m1) (p1:=p1) (n1:=n1) (c1:=c1) (l1:=l1) (w2:=w2) (vh2:=vh2) (m2:=m2) (p2:=p2) (n2:=n2) (c2:=c2) (l2:=l2) (bm:=bm4) (ps:=ps5) (cs:=cs6) (pq:=pq7) (cq:=cq8) (ex:=ex) (ey:=(ey - 1)) (hn1:=by assumption) (hw1:=by first|rfl|assumption|exact Cr.ps4_mid hp9|exact hp9.1|exact hp9.2.1|exact hp9.2.2.1|exact hp9.2.2.2|omega) (hh1:=by first|rfl|assumption|exact Cr.ps4_mid hp9|exact hp9.1|exact hp9.2.1|exact hp9.2.2.1|exact hp9.2.2.2|omega) (hwh1:=by first|rfl|assumption|exact Cr.ps4_mid hp9|exact hp9.1|exact hp9.2.1|exact hp9.2.2.1|exact hp9.2.2.2|omega) (hb1:=by first|rfl|assumption|exact Cr.ps4_mid hp9|exact hp9.1|exact hp9.2.1|exact hp9.2.2.1|exact hp9.2.2.2|omega) (hg1:=by first|rfl|assumption|exact Cr.ps4_mid hp9|exact hp9.1|exact hp9.2.1|exact hp9.2.2.1|exact hp9.2.2.2|omega) (hn2:=by assumption) (hw2:=by first|rfl|assumption|exact Cr.ps4_mid hp9|exact hp9.1|exact hp9.2.1|exact hp9.2.2.1|exact hp9.2.2.2|omega) (hh2:=by first|rfl|assumption|exact Cr.ps4_mid hp9|exact hp9.1|exact hp9.2.1|exact hp9.2.2.1|exact hp9.2.2.2|omega) (hwh2:=by first|rfl|assumption|exact Cr.ps4_mid hp9|exact hp9.1|exact hp9.2.1|exact hp9.2.2.1|exact hp9.2.2.2|omega) (hb2:=by first|rfl|assumption|exact Cr.ps4_mid hp9|exact hp9.1|exact hp9.2.1|exact hp9.2.2.1|exact hp9.2.2.2|omega) (hg2:=by first|rfl|assumption|exact Cr.ps4_mid hp9|exact hp9.1|exact hp9.2.1|exact hp9.2.2.1|exact hp9.2.2.2|omega) (hp:=by first|rfl|assumption|exact Cr.ps4_mid hp9|exact hp9.1|exact hp9.2.1|exact hp9.2.2.1|exact hp9.2.2.2|omega)) (.c (j:=5) rfl (.c (j:=8) rfl (.c (j:=9) rfl (.c (j:=6) rfl (.c (j:=7) rfl .n))))) ?_
    rintro ⟨w327,w428⟩ -
    dsimp only [List.append_eq,List.nil_append,List.cons_append]
    refine r_pv rfl rfl (za rfl)<|r_pv rfl rfl (za rfl)<|r_pv rfl rfl (za rfl)<|r_pv rfl rfl (zG (z:=(ey+1)) rfl rfl (w64 (by omega)))<|zw rfl rfl (.c rfl (.c rfl (.c rfl .n))) ce37 (zsb (w1:=w1) (vh1:=vh1) (m1:=m1) (p1:=p1) (n1:=n1) (c1:=c1) (l1:=l1) (w2:=w2) (vh2:=vh2) (m2:=m2) (p2:=p2) (n2:=n2) (c2:=c2) (l2:=l2) (bm:=bm4) (ps:=ps5) (cs:=cs6) (pq:=pq7) (cq:=cq8) (ex:=ex) (ey:=(ey+1)) (hn1:=by assumption) (hw1:=by first|rfl|assumption|exact Cr.ps4_mid hp9|exact hp9.1|exact hp9.2.1|exact hp9.2.2.1|exact hp9.2.2.2|omega) (hh1:=by first|rfl|assumption|exact Cr.ps4_mid hp9|exact hp9.1|exact hp9.2.1|exact hp9.2.2.1|exact hp9.2.2.2|omega) (hwh1:=by first|rfl|assumption|exact Cr.ps4_mid hp9|exact hp9.1|exact hp9.2.1|exact hp9.2.2.1|exact hp9.2.2.2|omega) (hb1:=by first|rfl|assumption|exact Cr.ps4_mid hp9|exact hp9.1|exact hp9.2.1|exact hp9.2.2.1|exact hp9.2.2.2|omega) (hg1:=by first|rfl|assumption|exact Cr.ps4_mid hp9|exact hp9.1|exact hp9.2.1|exact hp9.2.2.1|exact hp9.2.2.2|omega) (hn2:=by assumption) (hw2:=by first|rfl|assumption|exact Cr.ps4_mid hp9|exact hp9.1|exact hp9.2.1|exact hp9.2.2.1|exact hp9.2.2.2|omega) (hh2:=by first|rfl|assumption|exact Cr.ps4_mid hp9|exact hp9.1|exact hp9.2.1|exact hp9.2.2.1|exact hp9.2.2.2|omega) (hwh2:=by first|rfl|assumption|exact Cr.ps4_mid hp9|exact hp9.1|exact hp9.2.1|exact hp9.2.2.1|exact hp9.2.2.2|omega) (hb2:=by first|rfl|assumption|exact Cr.ps4_mid hp9|exact hp9.1|exact hp9.2.1|exact hp9.2.2.1|exact hp9.2.2.2|omega) (hg2:=by first|rfl|assumption|exact Cr.ps4_mid hp9|exact hp9.1|exact hp9.2.1|exact hp9.2.2.1|exact hp9.2.2.2|omega) (hp:=by first|rfl|assumption|exact Cr.ps4_mid hp9|exact hp9.1|exact hp9.2.1|exact hp9.2.2.1|exact hp9.2.2.2|omega)) (.c (j:=6) rfl (.c (j:=9) rfl (.c (j:=10) rfl (.c (j:=7) rfl (.c (j:=8) rfl .n))))) ?_
    rintro ⟨w329,w430⟩ -
    dsimp only [List.append_eq,List.nil_append,List.cons_append]
    refine zQc (first:=[]) (cap:=[.pointer (some ⟨b18,0,none⟩)]) rfl rfl rfl (.c rfl (.c rfl .n)) ce47 (zKc (u1:=w327) (v1:=w428) (q1:=(Cr.scq l1 l2 ((w1:Nat):Int) ((vh1:Nat):Int) ((w2:Nat):Int) ex (ey - 1))) (u2:=w329) (v2:=w430) (q2:=(Cr.scq l1 l2 ((w1:Nat):Int) ((vh1:Nat):Int) ((w2:Nat):Int) ex (ey+1))) (bc:=b18) (uc:=w316) (vc:=w417) (qc:=(Cr.scq l1 l2 ((w1:Nat):Int) ((vh1:Nat):Int) ((w2:Nat):Int) ex ey)) (hq1:=by first|rfl|assumption|exact Cr.ps4_mid hp9|exact hp9.1|exact hp9.2.1|exact hp9.2.2.1|exact hp9.2.2.2|omega) (hq2:=by first|rfl|assumption|exact Cr.ps4_mid hp9|exact hp9.1|exact hp9.2.1|exact hp9.2.2.1|exact hp9.2.2.2|omega) (hqc:=by first|rfl|assumption|exact Cr.ps4_mid hp9|exact hp9.1|exact hp9.2.1|exact hp9.2.2.1|exact hp9.2.2.2|omega)) (.c (j:=1) rfl (.c (j:=0) rfl (.c (j:=5) rfl (.c (j:=6) rfl .n)))) ?_
    rintro ⟨w331,w432⟩ hy33
    dsimp only [List.append_eq,List.nil_append,List.cons_append]
    replace hy33:(Cr.pkd (Cr.scq l1 l2 ((w1:Nat):Int) ((vh1:Nat):Int) ((w2:Nat):Int) ex (ey - 1)) (Cr.scq l1 l2 ((w1:Nat):Int) ((vh1:Nat):Int) ((w2:Nat):Int) ex ey) (Cr.scq l1 l2 ((w1:Nat):Int) ((vh1:Nat):Int) ((w2:Nat):Int) ex (ey+1)))→w331=wz∧w432=wz:=hy33
    refine r_pv rfl rfl (za rfl)<|r_pv rfl rfl (zo rfl rfl)<|r_pv rfl rfl (zo rfl rfl)<|zK rfl rfl (zu zr32 rfl) (fun b34=> ?_)
    refine zl 0 rfl rfl rfl rfl rfl sz32 rfl (.take (.take (.take (.take .nil)))) .z<|r_pv rfl rfl (ze rfl)<|zj<|zf<|zh<|zUa (X:=Unit) (fun x=>True) (fun x=>[(115,.bool (decide ((¬(¬(Cr.pkd (Cr.scq l1 l2 ((w1:Nat):Int) ((vh1:Nat):Int) ((w2:Nat):Int) (ex - 1) ey) (Cr.scq l1 l2 ((w1:Nat):Int) ((vh1:Nat):Int) ((w2:Nat):Int) ex ey) (Cr.scq l1 l2 ((w1:Nat):Int) ((vh1:Nat):Int) ((w2:Nat):Int) (ex+1) ey))))∨(¬(¬(Cr.pkd (Cr.scq l1 l2 ((w1:Nat):Int) ((vh1:Nat):Int) ((w2:Nat):Int) ex (ey - 1)) (Cr.scq l1 l2 ((w1:Nat):Int) ((vh1:Nat):Int) ((w2:Nat):Int) ex ey) (Cr.scq l1 l2 ((w1:Nat):Int) ((vh1:Nat):Int) ((w2:Nat):Int) ex (ey+1)))))))),(16,.pointer (some ⟨b34,0,none⟩)),(14,.pointer (some ⟨b26,0,none⟩)),(9,.int .i64 0),(8,.pointer (some ⟨b3,0,none⟩))]) (fun x=>[boxA b34 32 (cw [w331,w432]),boxA b26 32 (cw [w323,w424]),boxA b3 55 [.bool false,.slice none 0 0,.bool false,.slice none 0 0,.bool false,.slice none 0 0,.bool false,.slice none 0 0],boxA b2 24 [.int .i64 ((w2:Nat):Int),.int .i64 ((vh2:Nat):Int),.int .i64 m2,.slice p2 n2 c2],boxA b1 24 [.int .i64 ((w1:Nat):Int),.int .i64 ((vh1:Nat):Int),.int .i64 m1,.slice p1 n1 c1]]) (fun x=>[qF (decide (¬(Cr.pkd (Cr.scq l1 l2 ((w1:Nat):Int) ((vh1:Nat):Int) ((w2:Nat):Int) ex (ey - 1)) (Cr.scq l1 l2 ((w1:Nat):Int) ((vh1:Nat):Int) ((w2:Nat):Int) ex ey) (Cr.scq l1 l2 ((w1:Nat):Int) ((vh1:Nat):Int) ((w2:Nat):Int) ex (ey+1))))) w331 w432 (if (Cr.pkd (Cr.scq l1 l2 ((w1:Nat):Int) ((vh1:Nat):Int) ((w2:Nat):Int) ex (ey - 1)) (Cr.scq l1 l2 ((w1:Nat):Int) ((vh1:Nat):Int) ((w2:Nat):Int) ex ey) (Cr.scq l1 l2 ((w1:Nat):Int) ((vh1:Nat):Int) ((w2:Nat):Int) ex (ey+1))) then 0 else Cr.pkv (Cr.scq l1 l2 ((w1:Nat):Int) ((vh1:Nat):Int) ((w2:Nat):Int) ex (ey - 1)) (Cr.scq l1 l2 ((w1:Nat):Int) ((vh1:Nat):Int) ((w2:Nat):Int) ex ey) (Cr.scq l1 l2 ((w1:Nat):Int) ((vh1:Nat):Int) ((w2:Nat):Int) ex (ey+1))),qF true w329 w430 (Cr.scq l1 l2 ((w1:Nat):Int) ((vh1:Nat):Int) ((w2:Nat):Int) ex (ey+1)),qF true w327 w428 (Cr.scq l1 l2 ((w1:Nat):Int) ((vh1:Nat):Int) ((w2:Nat):Int) ex (ey - 1)),qF (decide (¬(Cr.pkd (Cr.scq l1 l2 ((w1:Nat):Int) ((vh1:Nat):Int) ((w2:Nat):Int) (ex - 1) ey) (Cr.scq l1 l2 ((w1:Nat):Int) ((vh1:Nat):Int) ((w2:Nat):Int) ex ey) (Cr.scq l1 l2 ((w1:Nat):Int) ((vh1:Nat):Int) ((w2:Nat):Int) (ex+1) ey)))) w323 w424 (if (Cr.pkd (Cr.scq l1 l2 ((w1:Nat):Int) ((vh1:Nat):Int) ((w2:Nat):Int) (ex - 1) ey) (Cr.scq l1 l2 ((w1:Nat):Int) ((vh1:Nat):Int) ((w2:Nat):Int) ex ey) (Cr.scq l1 l2 ((w1:Nat):Int) ((vh1:Nat):Int) ((w2:Nat):Int) (ex+1) ey)) then 0 else Cr.pkv (Cr.scq l1 l2 ((w1:Nat):Int) ((vh1:Nat):Int) ((w2:Nat):Int) (ex - 1) ey) (Cr.scq l1 l2 ((w1:Nat):Int) ((vh1:Nat):Int) ((w2:Nat):Int) ex ey) (Cr.scq l1 l2 ((w1:Nat):Int) ((vh1:Nat):Int) ((w2:Nat):Int) (ex+1) ey)),qF true w321 w422 (Cr.scq l1 l2 ((w1:Nat):Int) ((vh1:Nat):Int) ((w2:Nat):Int) (ex+1) ey),qF true w319 w420 (Cr.scq l1 l2 ((w1:Nat):Int) ((vh1:Nat):Int) ((w2:Nat):Int) (ex - 1) ey),atF b18 0 [w316.b,w316.l,w417.b,w417.l],qF true w316 w417 (Cr.scq l1 l2 ((w1:Nat):Int) ((vh1:Nat):Int) ((w2:Nat):Int) ex ey),atF bm4 0 [.int .i64 ((w1:Nat):Int),.int .i64 ((vh1:Nat):Int),.int .i64 m1,.slice p1 n1 c1,.int .i64 ((w2:Nat):Int),.int .i64 ((vh2:Nat):Int),.int .i64 m2,.slice p2 n2 c2,.slice ps5 (vh2+1) cs6,.slice pq7 (vh2+1) cq8,.int .i64 (Cr.sumN (Cr.px l1) n1),.int .i64 ((((n1:Nat):Int)*(Cr.sumN (Cr.sq l1) n1)) - ((Cr.sumN (Cr.px l1) n1)*(Cr.sumN (Cr.px l1) n1)))],slF (rS (rI .i64)) ps5 cs6 (Cr.tab (Cr.px l2) w2 (vh2+1)),slF (rS (rI .i64)) pq7 cq8 (Cr.tab (Cr.sq l2) w2 (vh2+1)),slF (rI .i64) p1 c1 l1,slF (rI .i64) p2 c2 l2]) ?_ ?_
    ·
     refine zc<|r_pv rfl rfl (za rfl)<|r_pv rfl rfl (zAa rfl)<|zS rfl rfl (za rfl) (fun h35=> ?_) (fun h35=> ?_)
     ·
      refine zb rfl rfl<|zb rfl rfl<|r_pv rfl rfl (zm rfl rfl)<|zj ?_
      exact zha () (show True from by first|trivial|omega|simp_all) ((.e rfl (congrArg Value.bool (by first|(simp_all;done)|(simp_all;omega)|(simp;omega)|omega)) (.of rfl)):SubM _ _) (ho:=((.of [0,0,1,1,1] rfl):PickO _ _ _)) ((.of [0,1,2,3,4,5,6,7,8,9,10,11,12] rfl):SelR _ _ _)
     ·
      refine r_pv rfl rfl (za rfl)<|r_pv rfl rfl (zAa rfl)<|r_pv rfl rfl (zm rfl rfl)<|zj ?_
      exact zha () (show True from by first|trivial|omega|simp_all) ((.e rfl (congrArg Value.bool (by first|(simp_all;done)|(simp_all;omega)|(simp;omega)|omega)) (.of rfl)):SubM _ _) (ho:=((.of [0,0,1,1,1] rfl):PickO _ _ _)) ((.of [0,1,2,3,4,5,6,7,8,9,10,11,12] rfl):SelR _ _ _)
    ·
     rintro ⟨⟩ -
     try dsimp only [cw]
     refine zJ rfl (fun hd=> ?_) (fun hd=> ?_)
     ·
      have hd9:(Cr.dg l1 l2 ((w1:Nat):Int) ((vh1:Nat):Int) ((w2:Nat):Int) ex ey):=hd.elim (fun k=>Or.inl (Decidable.not_not.1 k)) (fun k=>Or.inr (Decidable.not_not.1 k))
      refine zh<|zc<|r_pv rfl rfl (zE zr55 rfl Tryz.underlying55 (.c sz32 (.c sz32 .n)) .n .n)<|zl 2 rfl rfl rfl rfl rfl sz55 rfl (.take (.take (.take (.take (.take (.take (.take (.take .nil)))))))) (.s (.s .z))<|r_pv rfl rfl (ze rfl)<|zj<|zf<|zL<|zq<|zIa (qF false wz wz 0) (fun g _=>qF_none g) ?_
      have hg9:¬((Cr.rk2 ((w1:Nat):Int) ((vh1:Nat):Int) m1 l1 ((w2:Nat):Int) ((vh2:Nat):Int) m2 l2)∧(Cr.ps4 ((w1:Nat):Int) ((vh1:Nat):Int) ((w2:Nat):Int) ((vh2:Nat):Int) ex ey)∧¬(Cr.dg l1 l2 ((w1:Nat):Int) ((vh1:Nat):Int) ((w2:Nat):Int) ex ey)):=fun k=>k.2.2 hd9
      exact zua Tryz.results23 (wz,wz,wz,wz) (fun _=>⟨rfl,rfl,rfl,rfl⟩) (zp 2 ty55 rfl rfl (.take (.take (.take (.take (.take (.take (.take (.take .nil))))))))) (zt rfl) (by rw [if_pos hok,if_pos hp9,if_pos hd9];rfl) (ho:=(.n:PickO _ _ _)) ((.e (j:=0) rfl (by rw [if_neg hg9,decide_eq_false hg9]) (.e (j:=0) rfl (by rw [if_neg hg9,decide_eq_false hg9]) .n)):SelR _ _ _)
     ·
      have hdx:¬(Cr.dgX l1 l2 ((w1:Nat):Int) ((vh1:Nat):Int) ((w2:Nat):Int) ex ey):=fun k=>hd (Or.inl (fun a=>a k))
      have hdy:¬(Cr.dgY l1 l2 ((w1:Nat):Int) ((vh1:Nat):Int) ((w2:Nat):Int) ex ey):=fun k=>hd (Or.inr (fun a=>a k))
      have hd9:¬(Cr.dg l1 l2 ((w1:Nat):Int) ((vh1:Nat):Int) ((w2:Nat):Int) ex ey):=fun k=>k.elim hdx hdy
      refine zH<|zf<|zh<|zc<|r_u rfl rfl (zd 1 ty32 rfl rfl (.take (.take (.take (.take .nil)))))<|r_u rfl rfl (zd 0 ty32 rfl rfl (.take (.take (.take (.take .nil)))))<|r_pv rfl rfl (zE zr55 rfl Tryz.underlying55 (.c sz32 (.c sz32 .n)) (.c rfl (.c rfl .n)) (.c rfl rfl rfl (.take (.take (.take (.take .nil)))) (.c rfl rfl rfl (.skip (.skip (.skip (.skip (.take (.take (.take (.take .nil)))))))) .n)))<|zl 2 rfl rfl rfl rfl rfl sz55 rfl (.take (.take (.take (.take (.take (.take (.take (.take .nil)))))))) (.s (.s .z))<|r_pv rfl rfl (ze rfl)<|zj<|zf<|zL ?_
      have hg9:((Cr.rk2 ((w1:Nat):Int) ((vh1:Nat):Int) m1 l1 ((w2:Nat):Int) ((vh2:Nat):Int) m2 l2)∧(Cr.ps4 ((w1:Nat):Int) ((vh1:Nat):Int) ((w2:Nat):Int) ((vh2:Nat):Int) ex ey)∧¬(Cr.dg l1 l2 ((w1:Nat):Int) ((vh1:Nat):Int) ((w2:Nat):Int) ex ey)):=⟨hok,hp9,hd9⟩
      exact zua Tryz.results23 (w323,w424,w331,w432) (fun k=>absurd hg9 k) (zp 2 ty55 rfl rfl (.take (.take (.take (.take (.take (.take (.take (.take .nil))))))))) (zt rfl) (by rw [if_pos hok,if_pos hp9,if_neg hd9]) (ho:=(.n:PickO _ _ _)) ((.e (j:=3) rfl (by rw [if_pos hg9,decide_eq_true hg9,if_neg (show ¬Cr.pkd _ _ _ from hdx),decide_eq_true (show ¬Cr.pkd _ _ _ from hdx),Cr.vlX]) (.e (j:=0) rfl (by rw [if_pos hg9,decide_eq_true hg9,if_neg (show ¬Cr.pkd _ _ _ from hdy),decide_eq_true (show ¬Cr.pkd _ _ _ from hdy),Cr.vlY]) .n)):SelR _ _ _)
end Go.Proofs.YtkamccndgblheaaGreat.Sp
