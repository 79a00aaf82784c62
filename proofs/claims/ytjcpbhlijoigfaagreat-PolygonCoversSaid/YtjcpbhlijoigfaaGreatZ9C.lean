/- Lemmas on the walk and plain lemmas that the claim of this folder uses; each states its own conditions. Lines were printed by a program of ours. -/
import Derived.Test.YtjcpbhlijoigfaaGreatZ9B
set_option linter.unusedVariables false
set_option linter.unusedSimpArgs false
set_option linter.unusedSectionVars false
open Go.Value renaming int → ya, pointer → yc
open Go.IntKind renaming i64 → yb
open Go.Proofs.YtjcpbhlijoigfaaGreat.Big renaming digs → yd, valL → yf, raw → yk, okL_getD → ym, trimL → yn, digs_ok → yp, zR → yq, raw_big → yt, okL → yv, sg → yw, ln → yx, valL_digs → yz, pw → yA, hq_num → yC, hq_den → yD, len_digs_nil → yF, cmp → yG, getD_set_ne → yH, okL_snoc → yJ, nn → yK, ln_mono' → yL, hq → yM, okL_set → yN, zLa → yO, qv → yP, sg_raw → yQ, two_lt → yR, den_ne → yS, LgI → yT
open Go.Proofs.Tryz renaming underlying39 → ye, underlying121 → yg, underlying120 → yh, underlying43 → yi, prog → yj, underlying41 → yl, underlying98 → yo, underlying22 → yr, underlying96 → yu, underlying2 → yy, underlying4 → yB, underlying54 → yE, results155 → yI
namespace Go.Proofs.YtjcpbhlijoigfaaGreat.Sp
open Go
set_option linter.unusedVariables false
set_option maxRecDepth 100000
set_option maxHeartbeats 8000000
theorem zSc {p:Option Addr} {n:Nat} {cap:Nat} {l:List Pg.P2} (hn:l.length=n) (h64:n≤64) (hrng:∀x∈l,Pg.inR x):Con yj 75 [.slice p n cap] [] [slF (rI2 .i64) p cap l] (Y:=Nat×(List Nat)×(List Nat)) (fun y=>Pg.Rg n (List.range n) y.2.1 y.2.2) (fun y=> .pointer (some ⟨y.1,0,none⟩)) (fun y=>[boxA y.1 98 (rgC p n cap (y.2.1) (y.2.2) ((n:Nat):Int) (Pg.sg l))]) (fun y=>[]):=by
 refine zl Tryz.func75 rfl rfl rfl (fun c=> ?_)
 show RunC _ _ _ _ _ [(0,.slice p n cap)] [] [slF (rI2 .i64) p cap l]
 refine zda 0 rfl (fun hL0=> ?_)
 refine zg<|za<|e_p (zc rfl)<|zh<|zd<|zg<|za<|e_mv rfl<|e_mv rfl<|e_p (zN yr rfl)<|e_p (zH zr98 rfl yo (.c sz22 (.c sz96 (.c sz96 (.c sz3 (.c sz3 .n))))) (.c rfl (.c rfl (.c rfl .n))) (.c rfl rfl rfl (.take .nil) (.c rfl rfl rfl (.s8 (.s8 (.s8 (.s8 (.s8 (.s8 (.s8 (.s8 (.s8 (.s8 (.s8 (.s8 (.s8 (.s8 (.s8 (.s8 (.skip (.take .nil)))))))))))))))))) (.c rfl rfl rfl (.s8 (.s8 (.s8 (.s8 (.s8 (.s8 (.s8 (.s8 (.s8 (.s8 (.s8 (.s8 (.s8 (.s8 (.s8 (.s8 (.s2 (.take .nil)))))))))))))))))) .n))))<|zM rfl rfl (zS rfl rfl) (fun b1=> ?_)
 refine e_p (zc rfl)<|zh<|zd<|zg<|zg<|za<|e_mv rfl<|zL rfl rfl (.c rfl .n) ce47 (zRc (p:=p) (n:=n) (cap:=cap) (l:=l) (hn:=ass) (h64:=ass) (hrng:=ass)) (.c (j:=0) rfl .n)<|e_p (zba rfl rfl)<|zh<|zd<|zG rfl (fun hneg=> ?_) (fun hneg=> ?_)
 ·
  refine za<|e_mv rfl<|e_p (zQ rfl)<|e_p (zf yo rfl sz3 rfl rfl)<|zm 0 rfl rfl rfl rfl rfl sz3 rfl (.s8 (.s8 (.s8 (.s8 (.s8 (.s8 (.s8 (.s8 (.s8 (.s8 (.s8 (.s8 (.s8 (.s8 (.s8 (.s8 (.s2 (.take .nil)))))))))))))))))) .z<|zh<|zd<|zg<|zg ?_
  change RunC _ _ _ _ _ [(15,.pointer (some ⟨b1,130,none⟩)),(14,.pointer (some ⟨b1,0,none⟩)),(13,.pointer (some ⟨b1,0,none⟩)),(12,.bool (decide (Pg.db l<0))),(11,.int .i64 (Pg.db l)),(10,.slice p n cap),(3,.pointer (some ⟨b1,0,none⟩)),(9,.pointer (some ⟨b1,0,none⟩)),(8,.agg #[.slice p n cap,.int .i64 0,.int .i64 0,.int .i64 0,.int .i64 0,.int .i64 0,.int .i64 0,.int .i64 0,.int .i64 0,.int .i64 0,.int .i64 0,.int .i64 0,.int .i64 0,.int .i64 0,.int .i64 0,.int .i64 0,.int .i64 0,.int .i64 0,.int .i64 0,.int .i64 0,.int .i64 0,.int .i64 0,.int .i64 0,.int .i64 0,.int .i64 0,.int .i64 0,.int .i64 0,.int .i64 0,.int .i64 0,.int .i64 0,.int .i64 0,.int .i64 0,.int .i64 0,.int .i64 0,.int .i64 0,.int .i64 0,.int .i64 0,.int .i64 0,.int .i64 0,.int .i64 0,.int .i64 0,.int .i64 0,.int .i64 0,.int .i64 0,.int .i64 0,.int .i64 0,.int .i64 0,.int .i64 0,.int .i64 0,.int .i64 0,.int .i64 0,.int .i64 0,.int .i64 0,.int .i64 0,.int .i64 0,.int .i64 0,.int .i64 0,.int .i64 0,.int .i64 0,.int .i64 0,.int .i64 0,.int .i64 0,.int .i64 0,.int .i64 0,.int .i64 0,.int .i64 0,.int .i64 0,.int .i64 0,.int .i64 0,.int .i64 0,.int .i64 0,.int .i64 0,.int .i64 0,.int .i64 0,.int .i64 0,.int .i64 0,.int .i64 0,.int .i64 0,.int .i64 0,.int .i64 0,.int .i64 0,.int .i64 0,.int .i64 0,.int .i64 0,.int .i64 0,.int .i64 0,.int .i64 0,.int .i64 0,.int .i64 0,.int .i64 0,.int .i64 0,.int .i64 0,.int .i64 0,.int .i64 0,.int .i64 0,.int .i64 0,.int .i64 0,.int .i64 0,.int .i64 0,.int .i64 0,.int .i64 0,.int .i64 0,.int .i64 0,.int .i64 0,.int .i64 0,.int .i64 0,.int .i64 0,.int .i64 0,.int .i64 0,.int .i64 0,.int .i64 0,.int .i64 0,.int .i64 0,.int .i64 0,.int .i64 0,.int .i64 0,.int .i64 0,.int .i64 0,.int .i64 0,.int .i64 0,.int .i64 0,.int .i64 0,.int .i64 0,.int .i64 0,.int .i64 0,.int .i64 0,.int .i64 0,.int .i64 0,.int .i64 0,.int .i64 ((n:Nat):Int),.int .i64 1]),(7,.int .i64 ((n:Nat):Int)),(6,.slice p n cap),(5,.slice p n cap),(2,.pointer none),(0,.slice p n cap)] [boxA b1 98 (rgC p n cap (List.replicate 64 0) (List.replicate 64 0) ((n:Nat):Int) (-1))] [slF (rI2 .i64) p cap l]
  have e2:(rgC p n cap (List.replicate 64 0) (List.replicate 64 0) ((n:Nat):Int) (-1))=(rgC p n cap (List.replicate 64 0) (List.replicate 64 0) ((n:Nat):Int) (Pg.sg l)):=by rw [Pg.sg_neg hneg]
  rw [e2]
  refine za<|e_mv rfl<|e_p (zN yr rfl)<|e_mv rfl<|zh<|zd<|zA<|zpa (X:=Nat×(List Nat)×(List Nat)) (fun x:Nat×(List Nat)×(List Nat)=>x.1≤n∧x.2.1.length=64∧x.2.2.length=64∧∀u,u<x.1→x.2.1.getD u 0=(u+n - 1)%n∧x.2.2.getD u 0=(u+1)%n) (fun x=>[(18,.int .i64 ((x.1:Nat):Int)),(17,.int .i64 ((n:Nat):Int)),(3,.pointer (some ⟨b1,0,none⟩)),(2,.pointer none),(0,.slice p n cap)]) (fun x=>[boxA b1 98 (rgC p n cap (x.2.1) (x.2.2) ((n:Nat):Int) (Pg.sg l))]) (fun x=>[slF (rI2 .i64) p cap l]) (fun x:Nat×(List Nat)×(List Nat)=>n - x.1) (0,(List.replicate 64 0),(List.replicate 64 0)) (show 0≤n∧(List.replicate 64 0).length=64∧(List.replicate 64 0).length=64∧∀u,u<0→(List.replicate 64 0).getD u 0=(u+n - 1)%n∧(List.replicate 64 0).getD u 0=(u+1)%n from by exact ⟨Nat.zero_le _,List.length_replicate,List.length_replicate,fun u h=>by omega⟩) ((.e rfl (by first|rfl|(congr 1;omega)|simp_all) (.of rfl)):SubM _ _) (ho:=((.c (i:=0) rfl .n):PickO _ _ _)) ((.c (j:=0) rfl .n):SelR _ _ _) ?_
  rintro ⟨w,B,N⟩ hI
  replace hI:w≤n∧B.length=64∧N.length=64∧∀u,u<w→B.getD u 0=(u+n - 1)%n∧N.getD u 0=(u+1)%n:=hI
  try dsimp only
  obtain ⟨hw,hLB,hLN,hall⟩:=hI
  refine zg<|za<|e_p (zba rfl rfl)<|zh<|zd<|zg<|zG rfl (fun h3=> ?_) (fun h3=> ?_)
  ·
   have hm0:0<n:=by omega
   have hm1:=Nat.mod_lt (w+n - 1) hm0
   have hm2:=Nat.mod_lt (w+1) hm0
   refine zw<|zd<|zg<|zA<|zg<|za<|e_mv rfl<|e_p (zc rfl)<|zh<|zd<|zg<|zY (OW:=[boxA b1 98 (rgC p n cap B N ((n:Nat):Int) (Pg.sg l))]) (O:=[]) 13 mixed (.then (.block (.then (.then (.block (.then .ret)))))) kr<|e_dm 0 rfl rfl rfl<|e_dm 1 rfl rfl rfl<|e_dm 2 rfl rfl rfl<|e_dm 3 rfl rfl rfl<|e_pv 4 rfl rfl (zN yr rfl)<|e_pv 5 rfl rfl (zK (z:=(((w+n):Nat):Int)) rfl rfl (w64 om))<|e_pv 6 rfl rfl (zka (z:=((((w+n):Nat):Int) - 1)) rfl rfl (w64 om)) ?_
   have e4:(((((w+n):Nat):Int) - 1):Int)=(((w+n - 1):Nat):Int):=by omega
   rw [e4]
   refine e_dm 7 rfl rfl rfl<|e_pv 8 rfl rfl (zN yr rfl)<|e_pv 9 rfl rfl (zxa (z:=((((w+n - 1)%n):Nat):Int)) rfl rfl om (remN om om))<|e_pv 10 rfl rfl (zQ rfl)<|e_pv 11 rfl rfl (zf yo rfl sz96 rfl rfl)<|e_pv 12 rfl rfl (zfa (i:=w) yu sz3 rfl rfl om)<|e_one 13 (zq kr rfl rfl rfl rfl rfl sz3 rfl (rg_setB (x:=((w+n - 1)%n)) rgl rgl om) ?_)
   refine zU kr<|zd<|zY (OW:=[boxA b1 98 (rgC p n cap (B.set w ((w+n - 1)%n)) N ((n:Nat):Int) (Pg.sg l))]) (O:=[]) 10 mixed (.block (.then (.then (.block (.then .ret))))) kr<|e_dm 0 rfl rfl rfl<|e_dm 1 rfl rfl rfl<|e_dm 2 rfl rfl rfl<|e_pv 3 rfl rfl (zK (z:=(((w+1):Nat):Int)) rfl rfl (w64 om))<|e_dm 4 rfl rfl rfl<|e_pv 5 rfl rfl (zN yr rfl)<|e_pv 6 rfl rfl (zxa (z:=((((w+1)%n):Nat):Int)) rfl rfl om (remN om om))<|e_pv 7 rfl rfl (zQ rfl)<|e_pv 8 rfl rfl (zf yo rfl sz96 rfl rfl)<|e_pv 9 rfl rfl (zfa (i:=w) yu sz3 rfl rfl om)<|e_one 10 (zq kr rfl rfl rfl rfl rfl sz3 rfl (rg_setN (x:=((w+1)%n)) rgl rgl om) ?_)
   refine zU kr<|zO<|zd<|za<|e_p (zK (z:=(((w+1):Nat):Int)) rfl rfl (w64 om))<|e_mv rfl<|zh<|zha ((w+1),(B.set w ((w+n - 1)%n)),(N.set w ((w+1)%n))) (show (w+1)≤n∧(B.set w ((w+n - 1)%n)).length=64∧(N.set w ((w+1)%n)).length=64∧∀u,u<(w+1)→(B.set w ((w+n - 1)%n)).getD u 0=(u+n - 1)%n∧(N.set w ((w+1)%n)).getD u 0=(u+1)%n from by refine ⟨by omega,by rw [List.length_set];exact hLB,by rw [List.length_set];exact hLN,fun u hu=> ?_⟩;rw [Pg.getD_set om,Pg.getD_set om];by_cases e:u=w;(rw [if_pos e,if_pos e,e];exact ⟨rfl,rfl⟩);(rw [if_neg e,if_neg e];exact hall u om)) (by show n - (w+1)<n - w;omega) ((.of rfl):SubM _ _) (ho:=((.c (i:=0) rfl .n):PickO _ _ _)) ((.c (j:=0) rfl .n):SelR _ _ _)
  ·
   refine zna<|zj<|zj<|zy<|zd<|zg<|za<|e_mv rfl<|e_p (zc rfl)<|zh<|zd<|zI ?_
   exact zu Tryz.results75 (b1,B,N) (Pg.Rg.mk0 h64 hLB hLN (fun u hu=>hall u om)) (zk rfl) rfl (ho:=((.c (i:=0) rfl .n):PickO _ _ _)) (.n:SelR _ _ _)
 ·
  refine zw<|zd<|zg<|zg ?_
  change RunC _ _ _ _ _ [(12,.bool (decide (Pg.db l<0))),(11,.int .i64 (Pg.db l)),(10,.slice p n cap),(3,.pointer (some ⟨b1,0,none⟩)),(9,.pointer (some ⟨b1,0,none⟩)),(8,.agg #[.slice p n cap,.int .i64 0,.int .i64 0,.int .i64 0,.int .i64 0,.int .i64 0,.int .i64 0,.int .i64 0,.int .i64 0,.int .i64 0,.int .i64 0,.int .i64 0,.int .i64 0,.int .i64 0,.int .i64 0,.int .i64 0,.int .i64 0,.int .i64 0,.int .i64 0,.int .i64 0,.int .i64 0,.int .i64 0,.int .i64 0,.int .i64 0,.int .i64 0,.int .i64 0,.int .i64 0,.int .i64 0,.int .i64 0,.int .i64 0,.int .i64 0,.int .i64 0,.int .i64 0,.int .i64 0,.int .i64 0,.int .i64 0,.int .i64 0,.int .i64 0,.int .i64 0,.int .i64 0,.int .i64 0,.int .i64 0,.int .i64 0,.int .i64 0,.int .i64 0,.int .i64 0,.int .i64 0,.int .i64 0,.int .i64 0,.int .i64 0,.int .i64 0,.int .i64 0,.int .i64 0,.int .i64 0,.int .i64 0,.int .i64 0,.int .i64 0,.int .i64 0,.int .i64 0,.int .i64 0,.int .i64 0,.int .i64 0,.int .i64 0,.int .i64 0,.int .i64 0,.int .i64 0,.int .i64 0,.int .i64 0,.int .i64 0,.int .i64 0,.int .i64 0,.int .i64 0,.int .i64 0,.int .i64 0,.int .i64 0,.int .i64 0,.int .i64 0,.int .i64 0,.int .i64 0,.int .i64 0,.int .i64 0,.int .i64 0,.int .i64 0,.int .i64 0,.int .i64 0,.int .i64 0,.int .i64 0,.int .i64 0,.int .i64 0,.int .i64 0,.int .i64 0,.int .i64 0,.int .i64 0,.int .i64 0,.int .i64 0,.int .i64 0,.int .i64 0,.int .i64 0,.int .i64 0,.int .i64 0,.int .i64 0,.int .i64 0,.int .i64 0,.int .i64 0,.int .i64 0,.int .i64 0,.int .i64 0,.int .i64 0,.int .i64 0,.int .i64 0,.int .i64 0,.int .i64 0,.int .i64 0,.int .i64 0,.int .i64 0,.int .i64 0,.int .i64 0,.int .i64 0,.int .i64 0,.int .i64 0,.int .i64 0,.int .i64 0,.int .i64 0,.int .i64 0,.int .i64 0,.int .i64 0,.int .i64 0,.int .i64 0,.int .i64 0,.int .i64 ((n:Nat):Int),.int .i64 1]),(7,.int .i64 ((n:Nat):Int)),(6,.slice p n cap),(5,.slice p n cap),(2,.pointer none),(0,.slice p n cap)] [boxA b1 98 (rgC p n cap (List.replicate 64 0) (List.replicate 64 0) ((n:Nat):Int) 1)] [slF (rI2 .i64) p cap l]
  have e5:(rgC p n cap (List.replicate 64 0) (List.replicate 64 0) ((n:Nat):Int) 1)=(rgC p n cap (List.replicate 64 0) (List.replicate 64 0) ((n:Nat):Int) (Pg.sg l)):=by rw [Pg.sg_pos hneg]
  rw [e5]
  refine za<|e_mv rfl<|e_p (zN yr rfl)<|e_mv rfl<|zh<|zd<|zA<|zpa (X:=Nat×(List Nat)×(List Nat)) (fun x:Nat×(List Nat)×(List Nat)=>x.1≤n∧x.2.1.length=64∧x.2.2.length=64∧∀u,u<x.1→x.2.1.getD u 0=(u+n - 1)%n∧x.2.2.getD u 0=(u+1)%n) (fun x=>[(18,.int .i64 ((x.1:Nat):Int)),(17,.int .i64 ((n:Nat):Int)),(3,.pointer (some ⟨b1,0,none⟩)),(2,.pointer none),(0,.slice p n cap)]) (fun x=>[boxA b1 98 (rgC p n cap (x.2.1) (x.2.2) ((n:Nat):Int) (Pg.sg l))]) (fun x=>[slF (rI2 .i64) p cap l]) (fun x:Nat×(List Nat)×(List Nat)=>n - x.1) (0,(List.replicate 64 0),(List.replicate 64 0)) (show 0≤n∧(List.replicate 64 0).length=64∧(List.replicate 64 0).length=64∧∀u,u<0→(List.replicate 64 0).getD u 0=(u+n - 1)%n∧(List.replicate 64 0).getD u 0=(u+1)%n from by exact ⟨Nat.zero_le _,List.length_replicate,List.length_replicate,fun u h=>by omega⟩) ((.e rfl (by first|rfl|(congr 1;omega)|simp_all) (.of rfl)):SubM _ _) (ho:=((.c (i:=0) rfl .n):PickO _ _ _)) ((.c (j:=0) rfl .n):SelR _ _ _) ?_
  rintro ⟨w,B,N⟩ hI
  replace hI:w≤n∧B.length=64∧N.length=64∧∀u,u<w→B.getD u 0=(u+n - 1)%n∧N.getD u 0=(u+1)%n:=hI
  try dsimp only
  obtain ⟨hw,hLB,hLN,hall⟩:=hI
  refine zg<|za<|e_p (zba rfl rfl)<|zh<|zd<|zg<|zG rfl (fun h6=> ?_) (fun h6=> ?_)
  ·
   have hm0:0<n:=by omega
   have hm1:=Nat.mod_lt (w+n - 1) hm0
   have hm2:=Nat.mod_lt (w+1) hm0
   refine zw<|zd<|zg<|zA<|zg<|za<|e_mv rfl<|e_p (zc rfl)<|zh<|zd<|zg<|zY (OW:=[boxA b1 98 (rgC p n cap B N ((n:Nat):Int) (Pg.sg l))]) (O:=[]) 13 mixed (.then (.block (.then (.then (.block (.then .ret)))))) kr<|e_dm 0 rfl rfl rfl<|e_dm 1 rfl rfl rfl<|e_dm 2 rfl rfl rfl<|e_dm 3 rfl rfl rfl<|e_pv 4 rfl rfl (zN yr rfl)<|e_pv 5 rfl rfl (zK (z:=(((w+n):Nat):Int)) rfl rfl (w64 om))<|e_pv 6 rfl rfl (zka (z:=((((w+n):Nat):Int) - 1)) rfl rfl (w64 om)) ?_
   have e7:(((((w+n):Nat):Int) - 1):Int)=(((w+n - 1):Nat):Int):=by omega
   rw [e7]
   refine e_dm 7 rfl rfl rfl<|e_pv 8 rfl rfl (zN yr rfl)<|e_pv 9 rfl rfl (zxa (z:=((((w+n - 1)%n):Nat):Int)) rfl rfl om (remN om om))<|e_pv 10 rfl rfl (zQ rfl)<|e_pv 11 rfl rfl (zf yo rfl sz96 rfl rfl)<|e_pv 12 rfl rfl (zfa (i:=w) yu sz3 rfl rfl om)<|e_one 13 (zq kr rfl rfl rfl rfl rfl sz3 rfl (rg_setB (x:=((w+n - 1)%n)) rgl rgl om) ?_)
   refine zU kr<|zd<|zY (OW:=[boxA b1 98 (rgC p n cap (B.set w ((w+n - 1)%n)) N ((n:Nat):Int) (Pg.sg l))]) (O:=[]) 10 mixed (.block (.then (.then (.block (.then .ret))))) kr<|e_dm 0 rfl rfl rfl<|e_dm 1 rfl rfl rfl<|e_dm 2 rfl rfl rfl<|e_pv 3 rfl rfl (zK (z:=(((w+1):Nat):Int)) rfl rfl (w64 om))<|e_dm 4 rfl rfl rfl<|e_pv 5 rfl rfl (zN yr rfl)<|e_pv 6 rfl rfl (zxa (z:=((((w+1)%n):Nat):Int)) rfl rfl om (remN om om))<|e_pv 7 rfl rfl (zQ rfl)<|e_pv 8 rfl rfl (zf yo rfl sz96 rfl rfl)<|e_pv 9 rfl rfl (zfa (i:=w) yu sz3 rfl rfl om)<|e_one 10 (zq kr rfl rfl rfl rfl rfl sz3 rfl (rg_setN (x:=((w+1)%n)) rgl rgl om) ?_)
   refine zU kr<|zO<|zd<|za<|e_p (zK (z:=(((w+1):Nat):Int)) rfl rfl (w64 om))<|e_mv rfl<|zh<|zha ((w+1),(B.set w ((w+n - 1)%n)),(N.set w ((w+1)%n))) (show (w+1)≤n∧(B.set w ((w+n - 1)%n)).length=64∧(N.set w ((w+1)%n)).length=64∧∀u,u<(w+1)→(B.set w ((w+n - 1)%n)).getD u 0=(u+n - 1)%n∧(N.set w ((w+1)%n)).getD u 0=(u+1)%n from by refine ⟨by omega,by rw [List.length_set];exact hLB,by rw [List.length_set];exact hLN,fun u hu=> ?_⟩;rw [Pg.getD_set om,Pg.getD_set om];by_cases e:u=w;(rw [if_pos e,if_pos e,e];exact ⟨rfl,rfl⟩);(rw [if_neg e,if_neg e];exact hall u om)) (by show n - (w+1)<n - w;omega) ((.of rfl):SubM _ _) (ho:=((.c (i:=0) rfl .n):PickO _ _ _)) ((.c (j:=0) rfl .n):SelR _ _ _)
  ·
   refine zna<|zj<|zj<|zy<|zd<|zg<|za<|e_mv rfl<|e_p (zc rfl)<|zh<|zd<|zI ?_
   exact zu Tryz.results75 (b1,B,N) (Pg.Rg.mk0 h64 hLB hLN (fun u hu=>hall u om)) (zk rfl) rfl (ho:=((.c (i:=0) rfl .n):PickO _ _ _)) (.n:SelR _ _ _)
theorem zOf {p:Option Addr} {n:Nat} {cap:Nat} {l:List Pg.P2} (hn:l.length=n):Con yj 30 [.slice p n cap] [] [slF (rI2 .i64) p cap l] (Y:=(Option Addr)×Nat) (fun y=>True) (fun y=> .tuple #[.slice (y.1) ((Pg.erV l).length) (y.2),.int .i64 (Pg.erC l)]) (fun y=>[rowA 50 (rI3 .i64) (y.1) (y.2) (Pg.erV l)]) (fun y=>[]):=by
 refine zl Tryz.func30 rfl rfl rfl (fun c=> ?_)
 show RunC _ _ _ _ _ [(0,.slice p n cap)] [] [slF (rI2 .i64) p cap l]
 refine zda 0 rfl (fun hL0=> ?_)
 refine zg<|za<|e_p (zc rfl)<|e_p (zc rfl)<|zh<|zd<|zg<|zg<|za<|e_mv rfl<|zL rfl rfl (.c rfl .n) ce15 (zic (p:=p) (n:=n) (cap:=cap) (l:=l) (hn:=ass)) (.c (j:=0) rfl .n)<|e_p (zc rfl)<|zh<|zd<|zg<|za<|e_mv rfl<|e_p (zdb rfl rfl)<|zh<|zd<|zG rfl (fun hbad=> ?_) (fun hbad=> ?_)
 ·
  obtain ⟨hv1,hv2⟩:=Pg.er_bad hbad
  refine zg<|zlb 50 (rI3 .i64) ?_
  have e1:([]:List Pg.T3)=(Pg.erV l):=by exact hv1.symm
  rw [e1]
  refine za<|e_mv rfl<|e_p (zc rfl)<|e_p (zc rfl)<|zh<|zd<|zI<|zi ?_
  exact zza Tryz.results30 (none,0) trivial (zk rfl) (zk rfl) (by rw [hv1,hv2];rfl) (ho:=((.c (i:=0) rfl .n):PickO _ _ _)) (.n:SelR _ _ _)
 ·
  have hz:=Decidable.not_not.1 hbad
  have hok:=Pg.ok hz
  have hrng:=hok.rng
  have h64:n≤64:=by have:=hok.n64;omega
  have hn3:3≤n:=by have:=hok.n3;omega
  refine zw<|zd<|zg<|za<|e_mv rfl<|zC rfl rfl (.c rfl .n) ce75 (zSc (p:=p) (n:=n) (cap:=cap) (l:=l) (hn:=ass) (h64:=by first|rfl|assumption|omega|exact hok.n64|exact hok.rng|exact hG.1|exact Pg.sg_rng l) (hrng:=by first|rfl|assumption|omega|exact hok.n64|exact hok.rng|exact hG.1|exact Pg.sg_rng l)) (.c (j:=0) rfl .n) ?_
  rintro ⟨b2,B3,N4⟩ hR0
  dsimp only [aq,nq,cq]
  replace hR0:Pg.Rg n (List.range n) B3 N4:=hR0
  refine e_p (zc rfl)<|zh<|zd<|zg<|za<|e_mv rfl<|e_p (zN yr rfl)<|zIa rfl rfl (zsb (r:=rB) (k:=n) (x0:=false) (γ0:=()) Tryz.underlying95 inf4 rfl rfl rfl rfl om om rfl (fun g _=>by trivial) dd) (fun b5 _=> ?_)
  refine e_p (zc rfl)<|zh<|zd<|zg<|zlb 50 (rI3 .i64)<|za<|e_p (zc rfl)<|zh<|zd<|zg<|zA<|zpa (X:=(List Nat)×(List Nat)×(List Nat)×(List Bool)×(List Pg.T3)×(Option Addr)×Nat) (fun x:(List Nat)×(List Nat)×(List Nat)×(List Bool)×(List Pg.T3)×(Option Addr)×Nat=>Pg.Rg n x.1 x.2.1 x.2.2.1∧3≤x.1.length∧x.1.length≤64∧Pg.Gn n x.1 x.2.2.2.1∧Pg.ears l (Pg.sg l) (x.1.length - 3) x.1 x.2.2.2.2.1=Pg.earO l∧x.2.2.2.2.1.length+x.1.length=n) (fun x=>[(7,.slice (x.2.2.2.2.2.1) (x.2.2.2.2.1.length) (x.2.2.2.2.2.2)),(6,.slice (some ⟨b5,0,none⟩) n n),(5,.pointer (some ⟨b2,0,none⟩))]) (fun x=>[rowA 50 (rI3 .i64) (x.2.2.2.2.2.1) (x.2.2.2.2.2.2) (x.2.2.2.2.1),rowA 4 rB (some ⟨b5,0,none⟩) n (x.2.2.2.1),boxA b2 98 (rgC p n cap (x.2.1) (x.2.2.1) ((x.1.length:Nat):Int) (Pg.sg l))]) (fun x=>[slF (rI2 .i64) p cap l]) (fun x:(List Nat)×(List Nat)×(List Nat)×(List Bool)×(List Pg.T3)×(Option Addr)×Nat=>x.1.length) ((List.range n),B3,N4,(List.replicate n false),[],none,0) (show Pg.Rg n (List.range n) B3 N4∧3≤(List.range n).length∧(List.range n).length≤64∧Pg.Gn n (List.range n) (List.replicate n false)∧Pg.ears l (Pg.sg l) ((List.range n).length - 3) (List.range n) ([])=Pg.earO l∧([]).length+(List.range n).length=n from by exact ⟨hR0,by rw [List.length_range];exact hn3,by rw [List.length_range];exact h64,Pg.Gn.zero,by rw [List.length_range];unfold Pg.earO;rw [hn],by rw [List.length_range];exact Nat.zero_add n⟩) ((.e rfl (by first|rfl|(congr 1;omega)|simp_all) (.c rfl (.c rfl .n))):SubM _ _) (ho:=((.c (i:=0) rfl (.e (i:=0) rfl (by first|rfl|(congr 1;omega)|simp_all) (.e (i:=0) rfl (by first|rfl|(congr 1;omega)|simp_all) .n))):PickO _ _ _)) ((.c (j:=0) rfl .n):SelR _ _ _) ?_
  rintro ⟨L,B,N,G,out,p7,c7⟩ hI
  replace hI:Pg.Rg n L B N∧3≤L.length∧L.length≤64∧Pg.Gn n L G∧Pg.ears l (Pg.sg l) (L.length - 3) L out=Pg.earO l∧out.length+L.length=n:=hI
  try dsimp only
  obtain ⟨hg,h3,h4,hG,hE,ho⟩:=hI
  have hLB:=hg.lb
  have hLN:=hg.ln
  have hGn:=hG.1
  refine zg<|zg<|za<|e_mv rfl<|e_p (zQ rfl)<|e_p (zf yo rfl sz3 rfl rfl)<|e_ru (ze 2 ty3 rfl rfl (rg_k rgl rgl))<|e_p (zAa rfl rfl)<|zh<|zd<|zG rfl (fun hgt=> ?_) (fun hgt=> ?_)
  ·
   refine zw<|zd<|zA<|zg<|za<|e_mv rfl<|e_mv rfl<|e_mv rfl<|e_p (zYa (.c rfl .n) .n)<|zBd (zaa (i:=1) rfl)<|zBd (zaa (i:=2) rfl)<|zqc (A:=[boxA b2 98 (rgC p n cap B N ((L.length:Nat):Int) (Pg.sg l)),rowA 4 rB (some ⟨b5,0,none⟩) n G]) (F:=[rowA 50 (rI3 .i64) p7 c7 out]) (first:=[]) (cap:=[]) rfl rfl rfl (.c rfl (.c rfl (.c rfl .n))) ce76 (zGe (b:=b2) (p:=p) (n:=n) (cap:=cap) (l:=l) (B:=B) (N:=N) (kk:=((L.length:Nat):Int)) (s:=(Pg.sg l)) (L:=L) (pb:=some ⟨b5,0,none⟩) (nb:=n) (cb:=n) (G:=G) (hn:=ass) (hg:=by first|rfl|assumption|omega|exact hok.n64|exact hok.rng|exact hG.1|exact Pg.sg_rng l) (hrng:=by first|rfl|assumption|omega|exact hok.n64|exact hok.rng|exact hG.1|exact Pg.sg_rng l) (hs:=by first|rfl|assumption|omega|exact hok.n64|exact hok.rng|exact hG.1|exact Pg.sg_rng l) (hG:=by first|rfl|assumption|omega|exact hok.n64|exact hok.rng|exact hG.1|exact Pg.sg_rng l) (hnb:=by first|rfl|assumption|omega|exact hok.n64|exact hok.rng|exact hG.1|exact Pg.sg_rng l) (h3:=by first|rfl|assumption|omega|exact hok.n64|exact hok.rng|exact hG.1|exact Pg.sg_rng l)) (.c (j:=0) rfl .n) ?_
   rintro r1 hR1
   dsimp only [aq,nq,cq]
   replace hR1:Pg.Fst L (Pg.earI l (Pg.sg l) L) r1:=hR1
   refine e_p (zc rfl)<|zh<|zd<|zg<|zg<|za<|e_mv rfl<|e_p (zba rfl rfl)<|zh<|zd<|zG rfl (fun hneg=> ?_) (fun hneg=> ?_)
   ·
    refine zg ?_
    have hqn:∀j,j<L.length→¬Pg.earI l (Pg.sg l) L j:=by rcases hR1 with ⟨w,h5,h6,h7⟩|h;(exfalso;omega);exact h.2
    obtain ⟨hv1,hv2⟩:=Pg.er_none hz (by rw [← hE];exact Pg.ears_none om hqn)
    refine zlb 50 (rI3 .i64) ?_
    have e6:([]:List Pg.T3)=(Pg.erV l):=by exact hv1.symm
    rw [e6]
    refine za<|e_p (zc rfl)<|e_p (zc rfl)<|zh<|zd<|zI<|zi<|zp<|zi<|zp<|zi ?_
    exact zza Tryz.results30 (none,0) trivial (zk rfl) (zk rfl) (by rw [hv1,hv2];rfl) (ho:=((.c (i:=0) rfl .n):PickO _ _ _)) (.n:SelR _ _ _)
   ·
    obtain ⟨q,hq1,hq2,hq3,hq4⟩:∃q,q<L.length∧r1=((Pg.nt L q:Nat):Int)∧(Pg.earI l (Pg.sg l) L) q∧∀j,j<q→¬(Pg.earI l (Pg.sg l) L) j:=by rcases hR1 with h|h;exact h;first|omega|exact absurd trivial (h.2 0 om)
    have e7:(r1:Int)=(((Pg.nt L q):Nat):Int):=by exact hq2
    rw [e7]
    obtain ⟨haq1,haq2,haq3,haq4,haq5⟩:=hg.at hq1 rfl
    have hLBq:=hg.lb
    have hLNq:=hg.ln
    have hL6q:=hg.n64
    refine zw<|zd<|zg<|zsa (.c (i:=2) rfl (.c (i:=0) rfl (.c (i:=0) rfl .n)))<|zY (OW:=[rowA 50 (rI3 .i64) p7 c7 out]) (O:=[boxA b2 98 (rgC p n cap B N ((L.length:Nat):Int) (Pg.sg l)),rowA 4 rB (some ⟨b5,0,none⟩) n G]) 16 mixed (.then (.block (.then (.block (.then .ret))))) kr<|e_dm 0 rfl rfl rfl<|e_dm 1 rfl rfl rfl<|e_dm 2 rfl rfl rfl<|e_pv 3 rfl rfl (zQ rfl)<|e_pv 4 rfl rfl (zf yo rfl sz96 rfl rfl)<|e_pv 5 rfl rfl (zfa (i:=(Pg.nt L q)) yu sz3 rfl rfl om)<|e_uw 6 rfl rfl (ze 1 ty3 rfl rfl (rg_B rgl rgl om))<|e_dm 7 rfl rfl rfl<|e_dm 8 rfl rfl rfl<|e_dm 9 rfl rfl rfl<|e_pv 10 rfl rfl (zQ rfl)<|e_pv 11 rfl rfl (zf yo rfl sz96 rfl rfl)<|e_pv 12 rfl rfl (zfa (i:=(Pg.nt L q)) yu sz3 rfl rfl om)<|e_uw 13 rfl rfl (ze 1 ty3 rfl rfl (rg_N rgl rgl om))<|e_pv 14 rfl rfl (zta zr50 rfl Tryz.underlying50 sz3 (.c rfl (.c rfl (.c rfl .n))) (.c rfl rfl rfl (.take .nil) (.c rfl rfl rfl (.skip (.take .nil)) (.c rfl rfl rfl (.s2 (.take .nil)) .n))))<|e_one 15 (zAe rfl rfl rfl rfl (zX (enc:=fun z:Int×Int×Int=>[.int .i64 z.1,.int .i64 z.2.1,.int .i64 z.2.2]) (ok:=fun z=>InK .i64 z.1∧InK .i64 z.2.1∧InK .i64 z.2.2) (h1:=fun _=>rfl) (h2:=fun _=>rfl) (k:=1) yE inf50 rfl dd dd dd (.c (x:=((((B.getD (Pg.nt L q) 0):Nat):Int),(((Pg.nt L q):Nat):Int),(((N.getD (Pg.nt L q) 0):Nat):Int))) rfl rfl (fun _ _=>by exact ⟨zD.2 (by first|omega|decide|(dsimp only;omega)),zD.2 (by first|omega|decide|(dsimp only;omega)),zD.2 (by first|omega|decide|(dsimp only;omega))⟩) .n)) (fun b8 _=> ?_))
    refine zQb 0 rfl .z<|e_one 16 (zyd (A':=fun v:Option Addr×Nat=>rowA 50 (rI3 .i64) v.1 v.2 (out++([((((B.getD (Pg.nt L q) 0):Nat):Int),(((Pg.nt L q):Nat):Int),(((N.getD (Pg.nt L q) 0):Nat):Int))]))) kr rfl rfl rfl (zua 0 rfl yE inf50 dd rfl rfl cbs rfl cbs om om) ?_)
    rintro ⟨p9,c10⟩ -
    dsimp only [aq,nq,cq]
    refine e_pv 17 rfl rfl (zc rfl)<|zU kr<|zd<|zg<|za<|e_mv rfl<|e_mv rfl<|zBd (zaa (i:=2) rfl)<|zqc (A:=[boxA b2 98 (rgC p n cap B N ((L.length:Nat):Int) (Pg.sg l))]) (F:=[rowA 50 (rI3 .i64) p9 c10 (out++([((((B.getD (Pg.nt L q) 0):Nat):Int),(((Pg.nt L q):Nat):Int),(((N.getD (Pg.nt L q) 0):Nat):Int))])),emA,rowA 4 rB (some ⟨b5,0,none⟩) n G]) (first:=[]) (cap:=[]) rfl rfl rfl (.c rfl (.c rfl .n)) ce78 (zpg (b:=b2) (p:=p) (n:=n) (cap:=cap) (l:=l) (B:=B) (N:=N) (kk:=((L.length:Nat):Int)) (s:=(Pg.sg l)) (L:=L) (v:=(Pg.nt L q)) (i:=q) (hn:=ass) (hg:=by first|rfl|assumption|omega|exact hok.n64|exact hok.rng|exact hG.1|exact Pg.sg_rng l) (hrng:=by first|rfl|assumption|omega|exact hok.n64|exact hok.rng|exact hG.1|exact Pg.sg_rng l) (hs:=by first|rfl|assumption|omega|exact hok.n64|exact hok.rng|exact hG.1|exact Pg.sg_rng l) (hi:=by first|rfl|assumption|omega|exact hok.n64|exact hok.rng|exact hG.1|exact Pg.sg_rng l) (hv:=by first|rfl|assumption|omega|exact hok.n64|exact hok.rng|exact hG.1|exact Pg.sg_rng l) (h2:=by first|rfl|assumption|omega|exact hok.n64|exact hok.rng|exact hG.1|exact Pg.sg_rng l) (hk0:=by first|rfl|assumption|omega|exact hok.n64|exact hok.rng|exact hG.1|exact Pg.sg_rng l)) (.c (j:=1) rfl .n) ?_
    rintro ⟨⟩ -
    dsimp only [aq,nq,cq]
    refine zh<|zd ?_
    have hlen:(L.eraseIdx q).length=L.length - 1:=by rw [List.length_eraseIdx,if_pos hq1]
    have e11:((L.length:Nat):Int) - 1=(((L.eraseIdx q).length:Nat):Int):=by omega
    rw [e11]
    refine za<|e_mv rfl<|e_mv rfl<|e_p (zia (j:=(Pg.nt L q)) Tryz.underlying95 sz4 rfl rfl rfl om)<|zJa 3 rfl rfl rfl (zea (j:=(Pg.nt L q)) (x0:=true) (γ0:=()) rfl rfl (by first|omega|(rw [List.length_map];omega)|(simp only [List.length_set];omega)|(simp;done)|(simp;omega)) rfl rfl sz4 (fun _ _=>by trivial)) (fun _=>(.s (.s (.s .z)))) (fun _ _=> ?_)
    refine zh<|zO<|zha ((L.eraseIdx q),(Pg.cutB B N (Pg.nt L q)),(Pg.cutN B N (Pg.nt L q)),(G.set (Pg.nt L q) true),(out++([((((B.getD (Pg.nt L q) 0):Nat):Int),(((Pg.nt L q):Nat):Int),(((N.getD (Pg.nt L q) 0):Nat):Int))])),p9,c10) (show Pg.Rg n (L.eraseIdx q) (Pg.cutB B N (Pg.nt L q)) (Pg.cutN B N (Pg.nt L q))∧3≤(L.eraseIdx q).length∧(L.eraseIdx q).length≤64∧Pg.Gn n (L.eraseIdx q) (G.set (Pg.nt L q) true)∧Pg.ears l (Pg.sg l) ((L.eraseIdx q).length - 3) (L.eraseIdx q) (out++([((((B.getD (Pg.nt L q) 0):Nat):Int),(((Pg.nt L q):Nat):Int),(((N.getD (Pg.nt L q) 0):Nat):Int))]))=Pg.earO l∧(out++([((((B.getD (Pg.nt L q) 0):Nat):Int),(((Pg.nt L q):Nat):Int),(((N.getD (Pg.nt L q) 0):Nat):Int))])).length+(L.eraseIdx q).length=n from by exact ⟨hg.cut hq1 rfl om,by omega,by omega,hG.set hg hq1 rfl,(by have h9:=Pg.ears_some (l:=l) (s:=Pg.sg l) (out:=out) om hq1 hq3 hq4;unfold Pg.tri at h9;rw [← haq2,←haq3] at h9;rw [← h9];exact hE),by rw [List.length_append,hlen];show out.length+1+_=_;omega⟩) (by show (L.eraseIdx q).length<L.length;omega) ((.e rfl (by first|rfl|(congr 1;omega)|simp_all) (.c rfl (.c rfl .n))):SubM _ _) (ho:=((.c (i:=1) rfl (.c (i:=2) rfl (.e (i:=0) rfl (by first|rfl|(congr 1;omega)|simp_all) .n))):PickO _ _ _)) ((.c (j:=1) rfl .n):SelR _ _ _)
  ·
   refine zna<|zj<|zj<|zy<|zd<|zg<|za<|e_mv rfl<|e_mv rfl<|zBd (zaa (i:=1) rfl)<|zBd (zaa (i:=2) rfl)<|zqc (A:=[boxA b2 98 (rgC p n cap B N ((L.length:Nat):Int) (Pg.sg l)),rowA 4 rB (some ⟨b5,0,none⟩) n G]) (F:=[rowA 50 (rI3 .i64) p7 c7 out]) (first:=[]) (cap:=[]) rfl rfl rfl (.c rfl (.c rfl (.c rfl .n))) ce76 (zHe (b:=b2) (p:=p) (n:=n) (cap:=cap) (l:=l) (B:=B) (N:=N) (kk:=((L.length:Nat):Int)) (s:=(Pg.sg l)) (L:=L) (pb:=some ⟨b5,0,none⟩) (nb:=n) (cb:=n) (G:=G) (hn:=ass) (hg:=by first|rfl|assumption|omega|exact hok.n64|exact hok.rng|exact hG.1|exact Pg.sg_rng l) (hrng:=by first|rfl|assumption|omega|exact hok.n64|exact hok.rng|exact hG.1|exact Pg.sg_rng l) (hs:=by first|rfl|assumption|omega|exact hok.n64|exact hok.rng|exact hG.1|exact Pg.sg_rng l) (hG:=by first|rfl|assumption|omega|exact hok.n64|exact hok.rng|exact hG.1|exact Pg.sg_rng l) (hnb:=by first|rfl|assumption|omega|exact hok.n64|exact hok.rng|exact hG.1|exact Pg.sg_rng l) (h3:=by first|rfl|assumption|omega|exact hok.n64|exact hok.rng|exact hG.1|exact Pg.sg_rng l)) (.c (j:=0) rfl .n) ?_
   rintro r2 hR2
   dsimp only [aq,nq,cq]
   replace hR2:Pg.Fst L (fun _=>True) r2:=hR2
   refine e_p (zc rfl)<|zh<|zd<|zg ?_
   obtain ⟨q,hq1,hq2,hq3,hq4⟩:∃q,q<L.length∧r2=((Pg.nt L q:Nat):Int)∧(fun _=>True) q∧∀j,j<q→¬(fun _=>True) j:=by rcases hR2 with h|h;exact h;first|omega|exact absurd trivial (h.2 0 om)
   have hq0:q=0:=by rcases Nat.eq_zero_or_pos q with h|h;exact h;exact absurd trivial (hq4 0 h)
   subst hq0
   have e12:(r2:Int)=(((Pg.nt L 0):Nat):Int):=by exact hq2
   rw [e12]
   obtain ⟨ha01,ha02,ha03,ha04,ha05⟩:=hg.at hq1 rfl
   have hLB0:=hg.lb
   have hLN0:=hg.ln
   have hL60:=hg.n64
   obtain ⟨ha11,ha12,ha13,ha14,ha15⟩:=hg.at (show 1<L.length by omega) rfl
   have hLB1:=hg.lb
   have hLN1:=hg.ln
   have hL61:=hg.n64
   have hL3:L.length=3:=by omega
   have hk1:N.getD (Pg.nt L 0) 0=Pg.nt L 1:=by rw [ha02,hL3];rfl
   have hk2:N.getD (Pg.nt L 1) 0=Pg.nt L 2:=by rw [ha12,hL3];rfl
   have hk3:N.getD (N.getD (Pg.nt L 0) 0) 0<64:=by rw [hk1];omega
   obtain ⟨hv1,hv2⟩:=Pg.er_some hz (hE.symm.trans (Pg.ears_end (out:=out) (l:=l) (s:=Pg.sg l) hL3))
   refine zsa (.c (i:=2) rfl (.c (i:=0) rfl (.c (i:=0) rfl .n)))<|zY (OW:=[rowA 50 (rI3 .i64) p7 c7 out]) (O:=[boxA b2 98 (rgC p n cap B N ((L.length:Nat):Int) (Pg.sg l)),rowA 4 rB (some ⟨b5,0,none⟩) n G]) 21 mixed (.then .ret) kr<|e_dm 0 rfl rfl rfl<|e_dm 1 rfl rfl rfl<|e_dm 2 rfl rfl rfl<|e_dm 3 rfl rfl rfl<|e_pv 4 rfl rfl (zQ rfl)<|e_pv 5 rfl rfl (zf yo rfl sz96 rfl rfl)<|e_pv 6 rfl rfl (zfa (i:=(Pg.nt L 0)) yu sz3 rfl rfl om)<|e_uw 7 rfl rfl (ze 1 ty3 rfl rfl (rg_N rgl rgl om))<|e_dm 8 rfl rfl rfl<|e_dm 9 rfl rfl rfl<|e_dm 10 rfl rfl rfl<|e_pv 11 rfl rfl (zQ rfl)<|e_pv 12 rfl rfl (zf yo rfl sz96 rfl rfl)<|e_pv 13 rfl rfl (zfa (i:=(Pg.nt L 0)) yu sz3 rfl rfl om)<|e_uw 14 rfl rfl (ze 1 ty3 rfl rfl (rg_N rgl rgl om))<|e_pv 15 rfl rfl (zQ rfl)<|e_pv 16 rfl rfl (zf yo rfl sz96 rfl rfl)<|e_pv 17 rfl rfl (zfa (i:=(N.getD (Pg.nt L 0) 0)) yu sz3 rfl rfl om)<|e_uw 18 rfl rfl (ze 1 ty3 rfl rfl (rg_N rgl rgl om))<|e_pv 19 rfl rfl (zta zr50 rfl Tryz.underlying50 sz3 (.c rfl (.c rfl (.c rfl .n))) (.c rfl rfl rfl (.take .nil) (.c rfl rfl rfl (.skip (.take .nil)) (.c rfl rfl rfl (.s2 (.take .nil)) .n))))<|e_one 20 (zAe rfl rfl rfl rfl (zX (enc:=fun z:Int×Int×Int=>[.int .i64 z.1,.int .i64 z.2.1,.int .i64 z.2.2]) (ok:=fun z=>InK .i64 z.1∧InK .i64 z.2.1∧InK .i64 z.2.2) (h1:=fun _=>rfl) (h2:=fun _=>rfl) (k:=1) yE inf50 rfl dd dd dd (.c (x:=((((Pg.nt L 0):Nat):Int),(((N.getD (Pg.nt L 0) 0):Nat):Int),(((N.getD (N.getD (Pg.nt L 0) 0) 0):Nat):Int))) rfl rfl (fun _ _=>by exact ⟨zD.2 (by first|omega|decide|(dsimp only;omega)),zD.2 (by first|omega|decide|(dsimp only;omega)),zD.2 (by first|omega|decide|(dsimp only;omega))⟩) .n)) (fun b13 _=> ?_))
   refine zQb 0 rfl .z<|e_one 21 (zyd (A':=fun v:Option Addr×Nat=>rowA 50 (rI3 .i64) v.1 v.2 (out++([((((Pg.nt L 0):Nat):Int),(((N.getD (Pg.nt L 0) 0):Nat):Int),(((N.getD (N.getD (Pg.nt L 0) 0) 0):Nat):Int))]))) kr rfl rfl rfl (zua 0 rfl yE inf50 dd rfl rfl cbs rfl cbs om om) ?_)
   rintro ⟨p14,c15⟩ -
   dsimp only [aq,nq,cq]
   refine e_pv 22 rfl rfl (zc rfl)<|e_pv 23 rfl rfl (zc rfl)<|zU kr<|zd<|zI ?_
   have e16:((out++([((((Pg.nt L 0):Nat):Int),(((N.getD (Pg.nt L 0) 0):Nat):Int),(((N.getD (N.getD (Pg.nt L 0) 0) 0):Nat):Int))])):List Pg.T3)=(Pg.erV l):=by rw [hv1,hk1,hk2]
   rw [e16]
   exact zza Tryz.results30 (p14,c15) trivial (zk rfl) (zk rfl) (by rw [hv1,hv2];simp) (ho:=((.c (i:=0) rfl .n):PickO _ _ _)) (.n:SelR _ _ _)
end Go.Proofs.YtjcpbhlijoigfaaGreat.Sp
namespace Go.Proofs.YtjcpbhlijoigfaaGreat.Sp
open Go
set_option linter.unusedVariables false
def Wd.zz (u v:Wd):Prop:=u.s=false∧v.s=false∧u.n=0∧v.n=0
instance (u v:Wd):Decidable (Wd.zz u v):=inferInstanceAs (Decidable (_∧_))
def qo (y:Big.RQ):Option Rat:=if Big.qok y then some (yP y) else none
section
variable {P : Program} {O : List As} {R : List Fa} {f : Nat} {u v : Wd}
end
end Go.Proofs.YtjcpbhlijoigfaaGreat.Sp
namespace Go.Proofs.YtjcpbhlijoigfaaGreat.Pg
set_option linter.unusedVariables false
open Go.Proofs.YtjcpbhlijoigfaaGreat.Big
abbrev Q2:=Rat×Rat
abbrev gq (l:List Q2) (i:Nat):Q2:=l.getD i ((0:Rat),(0:Rat))
def prq (a b:Q2):Rat:=a.1*b.2 - b.1*a.2
def awq (a b:Q2):Q2:=(b.1 - a.1,b.2 - a.2)
def sdq (a b q:Q2):Rat:=prq (awq a b) (awq a q)
def ptq (s t:Rat) (q r:Q2):Q2:=(q.1+s / (s - t)*(awq q r).1,q.2+s / (s - t)*(awq q r).2)
def hp (K:Nat) (q:Q2):Prop:=hq q.1≤K∧hq q.2≤K
instance (K:Nat) (q:Q2):Decidable (hp K q):=inferInstanceAs (Decidable (_∧_))
theorem hp_mono {K K':Nat} {q:Q2} (h:hp K q) (k:K≤K'):hp K' q:=⟨Nat.le_trans h.1 k,Nat.le_trans h.2 k⟩
theorem hp_awq {a b:Q2} {K L:Nat} (ha:hp K a) (hb:hp L b):hp (K+L+1) (awq a b):=by
  have h1:=hq_sub b.1 a.1
  have h2:=hq_sub b.2 a.2
  have:=ha.1;have:=ha.2;have:=hb.1;have:=hb.2
  exact ⟨by show hq (b.1 - a.1)≤_;omega,by show hq (b.2 - a.2)≤_;omega⟩
structure Pb (K:Nat) (a b:Q2):Prop where
  m1:hq (a.1*b.2)≤K
  m2:hq (b.1*a.2)≤K
  p:hq (prq a b)≤2*K+1
theorem pb {a b:Q2} {K L:Nat} (ha:hp K a) (hb:hp L b):Pb (K+L) a b:=by
  have h1:=hq_mul a.1 b.2
  have h2:=hq_mul b.1 a.2
  have h3:=hq_sub (a.1*b.2) (b.1*a.2)
  have:=ha.1;have:=ha.2;have:=hb.1;have:=hb.2
  exact ⟨by omega,by omega,by unfold prq;omega⟩
theorem hq_sdq {a b q:Q2} {K:Nat} (ha:hp 3 a) (hb:hp 3 b) (h:hp K q):hq (sdq a b q)≤2*K+23:=by
  have h1:=(pb (hp_awq ha hb) (hp_awq ha h)).p
  unfold sdq;omega
structure Nb (K:Nat) (s t:Rat) (q r:Q2):Prop where
  d:hq (s - t)≤4*K+47
  f:hq (s / (s - t))≤6*K+70
  w:hp (2*K+1) (awq q r)
  m1:hq (s / (s - t)*(awq q r).1)≤8*K+71
  m2:hq (s / (s - t)*(awq q r).2)≤8*K+71
  p:hp (9*K+72) (ptq s t q r)
theorem nb {K:Nat} {s t:Rat} {q r:Q2} (hs:hq s≤2*K+23) (ht:hq t≤2*K+23) (hn:s - t≠0) (h1:hp K q) (h2:hp K r):Nb K s t q r:=by
  have a1:=hq_sub s t
  have a2:=hq_div s hn
  have a3:=hp_awq h1 h2
  have a4:=hq_mul (s / (s - t)) (awq q r).1
  have a5:=hq_mul (s / (s - t)) (awq q r).2
  have a6:=hq_add q.1 (s / (s - t)*(awq q r).1)
  have a7:=hq_add q.2 (s / (s - t)*(awq q r).2)
  have:=a3.1;have:=a3.2;have:=h1.1;have:=h1.2
  exact ⟨by omega,by omega,hp_mono a3 (by omega),by omega,by omega,⟨by show hq (q.1+_)≤_;omega,by show hq (q.2+_)≤_;omega⟩⟩
theorem opp {s t:Rat} (h:sgq s*sgq t<0):s - t≠0:=by
  intro e
  have:s=t:=by rw [← sgq_sub_zero,e];rfl
  subst this
  have h1:=sgq_rng s
  have h2:sgq s= -1∨sgq s=0∨sgq s=1:=by omega
  rcases h2 with h2|h2|h2 <;> rw [h2] at h <;> omega
theorem sg_mul (s t:Rat): -1≤sgq s*sgq t∧sgq s*sgq t≤1:=by
  have h1:=sgq_rng s
  have h2:=sgq_rng t
  have h:=mul_b (x:=sgq s) (y:=sgq t) (m:=1) (n:=1) (by omega) (by omega)
  omega
def clA (a b q r:Q2):List Q2:=(if 0≤sgq (sdq a b q) then [q] else [])++(if sgq (sdq a b q)*sgq (sdq a b r)<0 then [ptq (sdq a b q) (sdq a b r) q r] else [])
def clN (n:Nat) (a b:Q2) (l:List Q2):Nat→List Q2
  |0=>[]
  |i+1=>clN n a b l i++clA a b (gq l i) (gq l ((i+1)%n))
def clL (a b:Q2) (l:List Q2):List Q2:=clN l.length a b l l.length
theorem clA_len (a b q r:Q2):(clA a b q r).length≤2:=by unfold clA;split <;> split <;> simp
theorem clN_len {n:Nat} {a b:Q2} {l:List Q2}:∀i,(clN n a b l i).length≤2*i
  |0=>Nat.le_refl _
  |i+1=>by
    have h1:=clN_len (n:=n) (a:=a) (b:=b) (l:=l) i
    have h2:=clA_len a b (gq l i) (gq l ((i+1)%n))
    unfold clN;rw [List.length_append];omega
theorem clL_len {a b:Q2} {l:List Q2}:(clL a b l).length≤2*l.length:=clN_len _
def bq (K:Nat) (l:List Q2):Prop:=∀x∈l,hp K x
instance (K:Nat) (l:List Q2):Decidable (bq K l):=inferInstanceAs (Decidable (∀x∈l,_))
theorem bq_at {K:Nat} {l:List Q2} (h:bq K l) {i:Nat} (hi:i<l.length):hp K (gq l i):=h _ (Ms.getD_mem _ hi)
theorem clA_bq {a b q r:Q2} {K:Nat} (ha:hp 3 a) (hb:hp 3 b) (h1:hp K q) (h2:hp K r):bq (9*K+72) (clA a b q r):=by
  intro x hx
  unfold clA at hx
  rcases List.mem_append.1 hx with hx|hx
  · split at hx
    · rw [List.mem_singleton] at hx;subst hx;exact hp_mono h1 (by omega)
    · cases hx
  · split at hx
    · rename_i hc
      rw [List.mem_singleton] at hx;subst hx
      exact (nb (hq_sdq ha hb h1) (hq_sdq ha hb h2) (opp hc) h1 h2).p
    · cases hx
theorem clN_bq {n:Nat} {a b:Q2} {l:List Q2} {K:Nat} (hn:l.length=n) (ha:hp 3 a) (hb:hp 3 b) (h:bq K l):∀{i:Nat},i≤n→bq (9*K+72) (clN n a b l i)
  |0,_=>fun x hx=>by cases hx
  |i+1,hi=>fun x hx=>by
    unfold clN at hx
    rcases List.mem_append.1 hx with hx|hx
    · exact clN_bq hn ha hb h (i:=i) (by omega) x hx
    · exact clA_bq ha hb (bq_at h (by omega)) (bq_at h (by rw [hn];exact Nat.mod_lt _ (by omega))) x hx
theorem clL_bq {a b:Q2} {l:List Q2} {K:Nat} (ha:hp 3 a) (hb:hp 3 b) (h:bq K l):bq (9*K+72) (clL a b l):=clN_bq rfl ha hb h (Nat.le_refl _)
theorem clA_yes {a b q r:Q2} (h:0≤sgq (sdq a b q)) (h2:sgq (sdq a b q)*sgq (sdq a b r)<0):clA a b q r=[q,ptq (sdq a b q) (sdq a b r) q r]:=by unfold clA;rw [if_pos h,if_pos h2];rfl
theorem clA_in {a b q r:Q2} (h:0≤sgq (sdq a b q)) (h2:¬sgq (sdq a b q)*sgq (sdq a b r)<0):clA a b q r=[q]:=by unfold clA;rw [if_pos h,if_neg h2];rfl
theorem clA_new {a b q r:Q2} (h:¬0≤sgq (sdq a b q)) (h2:sgq (sdq a b q)*sgq (sdq a b r)<0):clA a b q r=[ptq (sdq a b q) (sdq a b r) q r]:=by unfold clA;rw [if_neg h,if_pos h2];rfl
theorem clA_no {a b q r:Q2} (h:¬0≤sgq (sdq a b q)) (h2:¬sgq (sdq a b q)*sgq (sdq a b r)<0):clA a b q r=[]:=by unfold clA;rw [if_neg h,if_neg h2];rfl
def pq (x y:Int):Q2:=((x:Rat),(y:Rat))
theorem hp_pq {x y:Int} (hx: -9223372036854775808≤x∧x≤9223372036854775807) (hy: -9223372036854775808≤y∧y≤9223372036854775807):hp 3 (pq x y):=⟨hq_64 hx.1 hx.2,hq_64 hy.1 hy.2⟩
def pts (l:List P2):List Q2:=l.map (fun p=>pq p.1 p.2)
def win (l:List P2) (a b:P2):List Q2:=clL (pq 1 b.2) (pq 0 b.2) (clL (pq 0 a.2) (pq 1 a.2) (clL (pq b.1 0) (pq b.1 1) (clL (pq a.1 1) (pq a.1 0) (pts l))))
def wnC (l:List P2) (a b:P2):Int:=if ck l≠0 then ck l else if ¬(inR a∧inR b) then 2 else if b.1≤a.1∨b.2≤a.2 then 5 else 0
def wnV (l:List P2) (a b:P2):List Q2:=if wnC l a b≠0 then [] else win l a b
theorem wn_bad {l:List P2} {a b:P2} (h:ck l≠0):wnC l a b=ck l∧wnV l a b=[]:=by
  have h1:wnC l a b=ck l:=by unfold wnC;rw [if_pos h]
  exact ⟨h1,by unfold wnV;rw [h1,if_pos h]⟩
theorem wn_far {l:List P2} {a b:P2} (h:ck l=0) (h2:¬(inR a∧inR b)):wnC l a b=2∧wnV l a b=[]:=by
  have h1:wnC l a b=2:=by unfold wnC;rw [if_neg (fun k=>k h),if_pos h2]
  exact ⟨h1,by unfold wnV;rw [h1,if_pos (by decide)]⟩
theorem wn_ord {l:List P2} {a b:P2} (h:ck l=0) (h2:inR a∧inR b) (h3:b.1≤a.1∨b.2≤a.2):wnC l a b=5∧wnV l a b=[]:=by
  have h1:wnC l a b=5:=by unfold wnC;rw [if_neg (fun k=>k h),if_neg (fun k=>k h2),if_pos h3]
  exact ⟨h1,by unfold wnV;rw [h1,if_pos (by decide)]⟩
theorem wn_ok {l:List P2} {a b:P2} (h:ck l=0) (h2:inR a∧inR b) (h3:¬(b.1≤a.1∨b.2≤a.2)):wnC l a b=0∧wnV l a b=win l a b:=by
  have h1:wnC l a b=0:=by unfold wnC;rw [if_neg (fun k=>k h),if_neg (fun k=>k h2),if_neg h3]
  exact ⟨h1,by unfold wnV;rw [h1,if_neg (by decide)]⟩
theorem pts_bq {l:List P2} (h:∀x∈l,inR x):bq 3 (pts l):=fun x hx=>by
  unfold pts at hx
  obtain ⟨p,hp,e⟩:=List.mem_map.1 hx
  have:=h p hp
  unfold inR at this
  rw [← e]
  exact hp_pq (by omega) (by omega)
theorem pts_take {l:List P2} {i:Nat} (h:i<l.length):pts (l.take (i+1))=pts (l.take i)++[pq (l.getD i (0,0)).1 (l.getD i (0,0)).2]:=by
  unfold pts;rw [Ms.take_snoc (0,0) h,List.map_append];rfl
def szT (n:Nat) (l:List Q2) (i:Nat):Rat:=prq (gq l i) (gq l ((i+1)%n))
def szN (n:Nat) (l:List Q2):Nat→Rat
  |0=>0
  |i+1=>szN n l i+szT n l i
def sz (l:List Q2):Rat:=szN l.length l l.length
theorem d01:Rat.divInt 0 1=0:=by decide
def exA:List P2:=[(0,0),(4,0),(4,4),(2,1),(0,4)]
def exB:List P2:=[(0,0),(4,0),(4,4),(0,4)]
theorem ex1:arV exA=20∧arC exA=0:=by decide +kernel
theorem ex2:isV exA (1,1)=1∧isC exA (1,1)=0:=by decide +kernel
theorem ex3:isV exA (2,2)= -1∧isC exA (2,2)=0:=by decide +kernel
theorem ex4:erV exA=[(1,2,3),(0,1,3),(0,3,4)]∧erC exA=0:=by decide +kernel
theorem ex5:wnC exB (2,-1) (9,2)=0:=by decide +kernel
def exW:List Q2:=wnV exB (2,-1) (9,2)
theorem ex6:bq 100 exW:=by decide +kernel
theorem ex7:∀i,i≤exW.length→hq (szN exW.length exW i)≤500000:=by decide +kernel
theorem ex8:sz exW=((8:Int):Rat):=by decide +kernel
end Go.Proofs.YtjcpbhlijoigfaaGreat.Pg
namespace Go.Proofs.YtjcpbhlijoigfaaGreat.Sp
open Go
set_option linter.unusedVariables false
def rR:Rp (Rat×Rat):=⟨8,Wd×Wd×Wd×Wd,fun _ w=>[w.1.b,w.1.l,w.2.1.b,w.2.1.l,w.2.2.1.b,w.2.2.1.l,w.2.2.2.b,w.2.2.2.l],fun g q w=>(qF true w.1 w.2.1 q.1).on g∧(qF true w.2.2.1 w.2.2.2 q.2).on g,fun _ _ _ _ h k=>⟨(qF true _ _ _).mono _ _ h k.1,(qF true _ _ _).mono _ _ h k.2⟩,fun _ _=>rfl,fun _ _=>rfl⟩
theorem open_rR {A:Fa} {q:Rat×Rat} {w1 w2 w3 w4:Wd} {R:List Fa}:∀g,Holds g (A :: okF rR q (w1,w2,w3,w4) :: R)→Holds g (A :: qF true w1 w2 q.1 :: qF true w3 w4 q.2 :: R):=fun g ⟨h,a,r⟩=>⟨h,a.1,a.2,r⟩
section
variable {P : Program} {c : Cx} {O : List As} {R : List Fa} {α : Type} {T e : TypeId} {r : Rp α} {l : List α} {b : Nat}
end
end Go.Proofs.YtjcpbhlijoigfaaGreat.Sp
namespace Go.Proofs.YtjcpbhlijoigfaaGreat.Sp
open Go
set_option linter.unusedVariables false
set_option maxRecDepth 100000
set_option maxHeartbeats 8000000
theorem zyb {p:Option Addr} {n:Nat} {cap:Nat} {l:List Int} (hn:l.length=n):Con yj 134 [.slice p n cap] [] [slF (rI .u32) p cap l] (Y:=Unit) (fun y=>True) (fun y=> .slice p ((yn l).length) cap) (fun y=>[]) (fun y=>[slF (rI .u32) p cap (yn l)]):=by
 refine zl Tryz.func134 rfl rfl rfl (fun c=> ?_)
 show RunC _ _ _ _ _ [(0,.slice p n cap)] [] [slF (rI .u32) p cap l]
 refine zda 0 rfl (fun hL0=> ?_)
 refine zg<|za<|e_p (zc rfl)<|zh<|zd<|zg<|zA<|zpa (X:=Nat) (fun x:Nat=>x≤l.length∧yn (l.take x)=yn l) (fun x=>[(0,.slice p x cap),(2,.slice none 0 0)]) (fun x=>[]) (fun x=>[slF (rI .u32) p cap (l.take x),slF (rI .u32) p cap l]) (fun x:Nat=>x) n (show n≤l.length∧yn (l.take n)=yn l from by exact ⟨by omega,by rw [List.take_of_length_le om]⟩) ((.c rfl (.c rfl .n)):SubM _ _) (ho:=(.n:PickO _ _ _)) ((.e (j:=0) rfl (by rw [List.take_of_length_le om]) (.c (j:=0) rfl .n)):SelR _ _ _) ?_
 rintro k hI
 replace hI:k≤l.length∧yn (l.take k)=yn l:=hI
 try dsimp only
 obtain ⟨hk,hT⟩:=hI
 have hlt:(l.take k).length=k:=by rw [List.length_take];omega
 refine zg<|zHa (X:=Unit) (fun x=>True) (fun x=>[(14,.bool (decide (0<k∧l.getD (k - 1) 0=0))),(0,.slice p k cap),(2,.slice none 0 0)]) (fun x=>[]) (fun x=>[slF (rI .u32) p cap (l.take k),slF (rI .u32) p cap l]) ?_ ?_
 ·
  refine za<|e_mv rfl<|e_p (zN ye rfl)<|e_p (zAa rfl rfl)<|zV rfl rfl (zW rfl) (fun h1=> ?_) (fun h1=> ?_)
  ·
   refine e_mv rfl<|e_mv rfl<|e_p (zN ye rfl)<|e_p (zka (z:=(((k:Nat):Int) - 1)) rfl rfl (w64 om))<|zZ (x0:=((l.take k).getD ((((k:Nat):Int) - 1).toNat) 0)) 0 ((((k:Nat):Int) - 1).toNat) rfl ye sz121 rfl rfl rfl cbs rfl om (gD (d:=0) om) (fun b2 o3 hok4=> ?_)
   replace hok4:=zB.1 hok4
   refine e_ru (zv (j:=0) 0 ty121 rfl rfl rfl rfl)<|e_p (zDa rfl rfl)<|e_p (zn rfl rfl)<|zh ?_
   exact zga () (show True from by first|trivial|omega|simp_all) ((.e rfl (congrArg Value.bool (by rw [Big.getD_take l om];have h1:0<k:=om;have h2:((k:Int) - 1).toNat=k - 1:=om;simp [h1,h2])) (.c rfl (.c rfl .n))):SubM _ _) (ho:=(.n:PickO _ _ _)) ((.of [1,2] rfl):SelR _ _ _)
  ·
   refine e_no<|e_no<|e_no<|e_no<|e_no<|e_no<|e_no<|e_p (zn rfl rfl)<|zh ?_
   exact zga () (show True from by first|trivial|omega|simp_all) ((.e rfl (congrArg Value.bool (by have h1:¬0<k:=om;simp [h1])) (.c rfl (.c rfl .n))):SubM _ _) (ho:=(.n:PickO _ _ _)) ((.of [0,1] rfl):SelR _ _ _)
 ·
  rintro ⟨⟩ -
  try dsimp only
  refine zG rfl (fun hc=> ?_) (fun hc=> ?_)
  ·
   refine zw<|zd<|zA<|za<|e_mv rfl<|e_mv rfl<|e_p (zN ye rfl)<|e_p (zka (z:=(((k - 1):Nat):Int)) rfl rfl (w64 om))<|e_p (zub (hi:=(k - 1)) ye sz121 rfl (.s rfl) (.inr ⟨_,rfl⟩) om)<|zxc (zbc 0 rfl (k - 1) om) (fun _ _=> ?_)
   refine e_p (zc rfl)<|zh<|zO<|zha (k - 1) (show (k - 1)≤l.length∧yn (l.take (k - 1))=yn l from by exact ⟨by omega,by rw [← hT,Big.trim_go l hc.1 hk hc.2]⟩) (by show k - 1<k;omega) ((.e rfl (by first|rfl|(congr 1;omega)|simp_all) (.c rfl .n)):SubM _ _) (ho:=(.n:PickO _ _ _)) ((.e (j:=0) rfl (by rw [List.take_take];congr 2;omega) (.c (j:=2) rfl .n)):SelR _ _ _)
  ·
   refine zna<|zj<|zj<|zy<|zd<|zg<|za<|e_mv rfl<|e_p (zc rfl)<|zh<|zd<|zI ?_
   have hfin:yn l=l.take k:=by rw [← hT];exact Big.trim_stop l hk hc
   exact zu Tryz.results134 () trivial (zk rfl) (by rw [hfin,hlt]) (ho:=(.n:PickO _ _ _)) ((.e (j:=0) rfl (by rw [hfin]) .n):SelR _ _ _)
theorem zre {p:Option Addr} {n:Nat} {cap:Nat} {l:List Int} {i:Nat} (hn:l.length=n) (hi:i≤4611686018427387904):Con yj 147 [.slice p n cap,ya yb ((i:Nat):Int)] [] [slF (rI .u32) p cap l] (Y:=Unit) (fun y=>True) (fun y=> .int .u32 (l.getD i 0)) (fun y=>[]) (fun y=>[]):=by
 refine zl Tryz.func147 rfl rfl rfl (fun c=> ?_)
 show RunC _ _ _ _ _ [(0,.slice p n cap),(1,ya yb ((i:Nat):Int))] [] [slF (rI .u32) p cap l]
 refine zda 0 rfl (fun hL0=> ?_)
 refine zg<|za<|e_p (zc rfl)<|zh<|zd<|zg<|zg<|za<|e_mv rfl<|e_mv rfl<|e_p (zN ye rfl)<|e_p (zba rfl rfl)<|zh<|zd<|zG rfl (fun h1=> ?_) (fun h1=> ?_)
 ·
  refine zg<|za<|e_mv rfl<|e_mv rfl<|zZ (x0:=(l.getD i 0)) 0 i rfl ye sz121 rfl rfl rfl cbs rfl rfl (gD (d:=0) om) (fun b2 o3 hok4=> ?_)
  replace hok4:=zB.1 hok4
  refine e_ru (zv (j:=0) 0 ty121 rfl rfl rfl rfl)<|e_p (zc rfl)<|zh<|zd<|zI<|zi ?_
  exact zu Tryz.results147 () trivial (zk rfl) rfl (ho:=(.n:PickO _ _ _)) (.n:SelR _ _ _)
 ·
  refine zw<|zd<|zg<|za<|e_p (zc rfl)<|zh<|zd<|zI ?_
  exact zu Tryz.results147 () trivial (zk rfl) (by rw [show l.getD i 0=0 by simp [List.getD,List.getElem?_eq_none (show l.length≤i by omega)]]) (ho:=(.n:PickO _ _ _)) (.n:SelR _ _ _)
theorem zPf {p1:Option Addr} {n1:Nat} {c1:Nat} {l1:List Int} {p2:Option Addr} {n2:Nat} {c2:Nat} {l2:List Int} (hn1:l1.length=n1) (hn2:l2.length=n2) (hb1:n1≤1099511627776) (hb2:n2≤1099511627776) (ho1:yv l1) (ho2:yv l2):Con yj 135 [.slice p1 n1 c1,.slice p2 n2 c2] [] [slF (rI .u32) p1 c1 l1,slF (rI .u32) p2 c2 l2] (Y:=(Option Addr)×Nat) (fun y=>True) (fun y=> .slice (y.1) ((yd (yf l1+yf l2).toNat).length) (y.2)) (fun y=>[]) (fun y=>[slF (rI .u32) (y.1) (y.2) (yd (yf l1+yf l2).toNat)]):=by
 refine zl Tryz.func135 rfl rfl rfl (fun c=> ?_)
 show RunC _ _ _ _ _ [(0,.slice p1 n1 c1),(1,.slice p2 n2 c2)] [] [slF (rI .u32) p1 c1 l1,slF (rI .u32) p2 c2 l2]
 refine zda 0 rfl (fun hL0=> ?_)
 refine zda 1 rfl (fun hL1=> ?_)
 refine zg<|za<|e_p (zc rfl)<|zh<|zd<|zg<|za<|e_mv rfl<|e_p (zN ye rfl)<|e_mv rfl<|e_p (zN ye rfl)<|e_p (v:= ya yb (((max n1 n2):Nat):Int)) (by rw [show ((((max n1 n2):Nat):Int):Int)=max ((n1:Nat):Int) ((n2:Nat):Int) by omega];exact zUe rfl rfl)<|e_p (zK (z:=((((max n1 n2)+1):Nat):Int)) rfl rfl (w64 om))<|zIa rfl rfl (zsb (r:=rI .u32) (k:=((max n1 n2)+1)) (x0:=0) (γ0:=()) ye inf121 rfl rfl rfl rfl om om rfl (fun g _=>by exact zB.2 dd) dd) (fun b1 _=> ?_)
 refine e_p (zc rfl)<|zh<|zd<|zg<|za<|e_p (zc rfl)<|zh<|zd<|zg<|zg<|za<|e_mv rfl<|e_p (zN ye rfl)<|e_mv rfl<|zh<|zd<|zA<|zpa (X:=Nat×(List Int)×Int) (fun x:Nat×(List Int)×Int=>x.1≤max n1 n2+1∧x.2.1.length=x.1∧0≤x.2.2∧x.2.2≤1∧yv x.2.1∧yf x.2.1+yA x.1*x.2.2=yf (l1.take x.1)+yf (l2.take x.1)) (fun x=>[(6,.int .u32 (x.2.2)),(18,ya yb ((x.1:Nat):Int)),(17,ya yb ((((max n1 n2)+1):Nat):Int)),(5,.slice (some ⟨b1,0,none⟩) ((max n1 n2)+1) ((max n1 n2)+1)),(4,.slice none 0 0),(0,.slice p1 n1 c1),(1,.slice p2 n2 c2)]) (fun x=>[rowA 121 (rI .u32) (some ⟨b1,0,none⟩) ((max n1 n2)+1) (x.2.1++List.replicate (max n1 n2+1 - x.1) 0)]) (fun x=>[slF (rI .u32) p1 c1 l1,slF (rI .u32) p2 c2 l2]) (fun x:Nat×(List Int)×Int=>max n1 n2+1 - x.1) (0,[],0) (show 0≤max n1 n2+1∧([]).length=0∧0≤0∧0≤1∧yv ([])∧yf ([])+yA 0*0=yf (l1.take 0)+yf (l2.take 0) from by exact ⟨by omega,rfl,by decide,by decide,Big.okL_nil,by simp [yf]⟩) ((.c rfl (.e rfl (by first|rfl|(congr 1;omega)|simp_all) (.of rfl))):SubM _ _) (ho:=((.e (i:=0) rfl (by simp) .n):PickO _ _ _)) ((.of [0,1] rfl):SelR _ _ _) ?_
 rintro ⟨i,os,cy⟩ hI
 replace hI:i≤max n1 n2+1∧os.length=i∧0≤cy∧cy≤1∧yv os∧yf os+yA i*cy=yf (l1.take i)+yf (l2.take i):=hI
 try dsimp only
 obtain ⟨hi,hol,hc0,hc1,hok,hv⟩:=hI
 have hg1:=ym ho1 i
 have hg2:=ym ho2 i
 refine zg<|za<|e_p (zba rfl rfl)<|zh<|zd<|zg<|zG rfl (fun h2=> ?_) (fun h2=> ?_)
 ·
  refine zw<|zd<|zg<|zA<|zg<|za<|e_mv rfl<|e_p (zc rfl)<|zh<|zd<|zg<|za<|e_mv rfl<|e_mv rfl<|zL rfl rfl (.c rfl (.c rfl .n)) ce147 (zre (p:=p1) (n:=n1) (cap:=c1) (l:=l1) (i:=i) (hn:=ass) (hi:=cbb)) (.c (j:=0) rfl .n)<|e_mv rfl<|e_mv rfl<|zL rfl rfl (.c rfl (.c rfl .n)) ce147 (zre (p:=p2) (n:=n2) (cap:=c2) (l:=l2) (i:=i) (hn:=ass) (hi:=cbb)) (.c (j:=1) rfl .n)<|e_p (zK (z:=(l1.getD i 0+l2.getD i 0)) rfl rfl (wu32 om))<|e_mv rfl<|e_p (zK (z:=((l1.getD i 0+l2.getD i 0)+cy)) rfl rfl (wu32 om))<|e_p (zc rfl)<|zh<|zd<|zg<|za<|e_p (zc rfl)<|zh<|zd<|zg<|zg<|za<|e_mv rfl<|e_p (zBa rfl rfl)<|zh<|zd<|zG rfl (fun hc=> ?_) (fun hc=> ?_)
  ·
   refine za<|e_mv rfl<|e_p (zka (z:=(((l1.getD i 0+l2.getD i 0)+cy) - 1000000000)) rfl rfl (wu32 om))<|e_p (zc rfl)<|e_p (zc rfl)<|zh<|zd<|za<|e_mv rfl<|e_mv rfl<|e_mv rfl<|e_p (zia (j:=i) ye sz121 rfl rfl rfl om)<|zJa 0 rfl rfl rfl (zea (j:=i) (x0:=(((l1.getD i 0+l2.getD i 0)+cy) - 1000000000)) (γ0:=()) rfl rfl (by first|omega|(rw [List.length_map];omega)|(simp only [List.length_set];omega)|(simp;done)|(simp;omega)) rfl rfl sz121 (fun _ _=>by exact zB.2 om)) (fun _=> .z) (fun _ _=> ?_)
   refine zh<|zO<|zd<|za<|e_p (zK (z:=(((i+1):Nat):Int)) rfl rfl (w64 om))<|e_mv rfl<|zh<|zha ((i+1),os++[l1.getD i 0+l2.getD i 0+cy - 1000000000],1) (show (i+1)≤max n1 n2+1∧(os++[l1.getD i 0+l2.getD i 0+cy - 1000000000]).length=(i+1)∧0≤1∧1≤1∧yv (os++[l1.getD i 0+l2.getD i 0+cy - 1000000000])∧yf (os++[l1.getD i 0+l2.getD i 0+cy - 1000000000])+yA (i+1)*1=yf (l1.take (i+1))+yf (l2.take (i+1)) from by exact ⟨by omega,by simp [hol],by decide,by decide,yJ hok om om,Big.plus_step hol hv om⟩) (by show max n1 n2+1 - (i+1)<max n1 n2+1 - i;omega) ((.of rfl):SubM _ _) (ho:=((.e (i:=0) rfl (by rw [Big.set_pad hol om]) .n):PickO _ _ _)) ((.of [0,1] rfl):SelR _ _ _)
  ·
   refine zw<|zd<|za<|e_mv rfl<|e_mv rfl<|e_mv rfl<|e_p (zia (j:=i) ye sz121 rfl rfl rfl om)<|zJa 0 rfl rfl rfl (zea (j:=i) (x0:=((l1.getD i 0+l2.getD i 0)+cy)) (γ0:=()) rfl rfl (by first|omega|(rw [List.length_map];omega)|(simp only [List.length_set];omega)|(simp;done)|(simp;omega)) rfl rfl sz121 (fun _ _=>by exact zB.2 om)) (fun _=> .z) (fun _ _=> ?_)
   refine zh<|zO<|zd<|za<|e_p (zK (z:=(((i+1):Nat):Int)) rfl rfl (w64 om))<|e_mv rfl<|zh<|zha ((i+1),os++[l1.getD i 0+l2.getD i 0+cy],0) (show (i+1)≤max n1 n2+1∧(os++[l1.getD i 0+l2.getD i 0+cy]).length=(i+1)∧0≤0∧0≤1∧yv (os++[l1.getD i 0+l2.getD i 0+cy])∧yf (os++[l1.getD i 0+l2.getD i 0+cy])+yA (i+1)*0=yf (l1.take (i+1))+yf (l2.take (i+1)) from by exact ⟨by omega,by simp [hol],by decide,by decide,yJ hok om om,Big.plus_step hol hv om⟩) (by show max n1 n2+1 - (i+1)<max n1 n2+1 - i;omega) ((.of rfl):SubM _ _) (ho:=((.e (i:=0) rfl (by rw [Big.set_pad hol om]) .n):PickO _ _ _)) ((.of [0,1] rfl):SelR _ _ _)
 ·
  have e3:os++List.replicate (max n1 n2+1 - i) 0=os:=by rw [show max n1 n2+1 - i=0 by omega];simp
  rw [e3]
  have hfin:=Big.plus_fin ho1 ho2 hok hc0 hol om hv
  have htr:yn os=yd (yf l1+yf l2).toNat:=by rw [Big.digs_valL hok,hfin]
  refine zna<|zj<|zj<|zy<|zd<|zg<|za<|e_mv rfl<|zla 0 rfl .z<|zC rfl rfl (.c rfl .n) ce134 (zyb (p:=some ⟨b1,0,none⟩) (n:=((max n1 n2)+1)) (cap:=((max n1 n2)+1)) (l:=os) (hn:=cbb)) (.c (j:=0) rfl .n) ?_
  rintro ⟨⟩ -
  dsimp only [aq,nq,cq]
  refine e_p (zc rfl)<|zh<|zd<|zI ?_
  exact zu Tryz.results135 ((some ⟨b1,0,none⟩),((max n1 n2)+1)) trivial (zk rfl) (by rw [htr]) (ho:=(.n:PickO _ _ _)) ((.e (j:=0) rfl (by rw [htr]) .n):SelR _ _ _)
theorem zEd {a:Nat} {b:Nat} {p1:Option Addr} {c1:Nat} {p2:Option Addr} {c2:Nat} (hb1:(yd (a)).length≤1099511627776) (hb2:(yd (b)).length≤1099511627776):Con yj 135 [.slice (p1) ((yd (a)).length) (c1),.slice (p2) ((yd (b)).length) (c2)] [] [slF (rI .u32) (p1) (c1) (yd (a)),slF (rI .u32) (p2) (c2) (yd (b))] (Y:=(Option Addr)×(Nat)) (fun y=>True) (fun y=> .slice (y.1) ((yd (a+b)).length) (y.2)) (fun y=>[]) (fun y=>[slF (rI .u32) (y.1) (y.2) (yd (a+b))]):=by
  have h:= @zPf p1 (yd a).length c1 (yd a) p2 (yd b).length c2 (yd b) rfl rfl hb1 hb2 (yp a) (yp b)
  rw [yz,yz,show ((a:Int)+(b:Int)).toNat=a+b by omega] at h
  exact h
theorem zjc {x:Int}:Con yj 156 [ya yb x] [] [] (Y:=Unit) (fun y=>True) (fun y=> .bool false) (fun y=>[]) (fun y=>[]):=by
 refine zl Tryz.func156 rfl rfl rfl (fun c=> ?_)
 show RunC _ _ _ _ _ [(0,ya yb x)] [] []
 refine zg<|za<|e_p (zc rfl)<|zh<|zd<|zg<|za<|e_mv rfl<|e_mv rfl<|e_p (zdb rfl rfl)<|e_p (zc rfl)<|zh<|zd<|zI ?_
 exact zu Tryz.results156 () trivial (zk rfl) (by simp) (ho:=(.n:PickO _ _ _)) (.n:SelR _ _ _)
theorem zkc {x:Int}:Con yj 158 [.int .u32 x] [] [] (Y:=Unit) (fun y=>True) (fun y=> .bool false) (fun y=>[]) (fun y=>[]):=by
 refine zl Tryz.func158 rfl rfl rfl (fun c=> ?_)
 show RunC _ _ _ _ _ [(0,.int .u32 x)] [] []
 refine zg<|za<|e_p (zc rfl)<|zh<|zd<|zg<|za<|e_mv rfl<|e_mv rfl<|e_p (zdb rfl rfl)<|e_p (zc rfl)<|zh<|zd<|zI ?_
 exact zu Tryz.results158 () trivial (zk rfl) (by simp) (ho:=(.n:PickO _ _ _)) (.n:SelR _ _ _)
theorem zTc {u:Int} {v:Int}:Con yj 148 [ya yb u,ya yb v] [] [] (Y:=Unit) (fun y=>True) (fun y=> ya yb (yG u v)) (fun y=>[]) (fun y=>[]):=by
 refine zl Tryz.func148 rfl rfl rfl (fun c=> ?_)
 show RunC _ _ _ _ _ [(0,ya yb u),(1,ya yb v)] [] []
 refine zg<|za<|e_p (zc rfl)<|zh<|zd<|zg<|za<|e_mv rfl<|zL rfl rfl (.c rfl .n) ce156 (zjc (x:=u)) (.n)<|e_p (zc rfl)<|zh<|zd<|zg<|za<|e_mv rfl<|zL rfl rfl (.c rfl .n) ce156 (zjc (x:=v)) (.n)<|e_p (zc rfl)<|zh<|zd<|zg<|zg<|za<|e_mv rfl<|zh<|zd<|zPa rfl rfl<|zw<|zd<|zg<|zg<|za<|e_mv rfl<|zh<|zd<|zPa rfl rfl<|zw<|zd<|zg<|zg<|za<|e_mv rfl<|e_mv rfl<|e_p (zba rfl rfl)<|zh<|zd<|zG rfl (fun h1=> ?_) (fun h1=> ?_)
 ·
  refine zg<|za<|e_p (zc rfl)<|zh<|zd<|zI<|zi ?_
  exact zu Tryz.results148 () trivial (zk rfl) (by rw [Big.cmp_lt om]) (ho:=(.n:PickO _ _ _)) (.n:SelR _ _ _)
 ·
  refine zw<|zd<|zg<|zg<|za<|e_mv rfl<|e_mv rfl<|e_p (zAa rfl rfl)<|zh<|zd<|zG rfl (fun h2=> ?_) (fun h2=> ?_)
  ·
   refine zg<|za<|e_p (zc rfl)<|zh<|zd<|zI<|zi ?_
   exact zu Tryz.results148 () trivial (zk rfl) (by rw [Big.cmp_gt om]) (ho:=(.n:PickO _ _ _)) (.n:SelR _ _ _)
  ·
   refine zw<|zd<|zg<|za<|e_p (zc rfl)<|zh<|zd<|zI ?_
   exact zu Tryz.results148 () trivial (zk rfl) (by rw [show yG u v=0 by simp [yG];omega]) (ho:=(.n:PickO _ _ _)) (.n:SelR _ _ _)
theorem zbe {u:Int} {v:Int}:Con yj 150 [.int .u32 u,.int .u32 v] [] [] (Y:=Unit) (fun y=>True) (fun y=> ya yb (yG u v)) (fun y=>[]) (fun y=>[]):=by
 refine zl Tryz.func150 rfl rfl rfl (fun c=> ?_)
 show RunC _ _ _ _ _ [(0,.int .u32 u),(1,.int .u32 v)] [] []
 refine zg<|za<|e_p (zc rfl)<|zh<|zd<|zg<|za<|e_mv rfl<|zL rfl rfl (.c rfl .n) ce158 (zkc (x:=u)) (.n)<|e_p (zc rfl)<|zh<|zd<|zg<|za<|e_mv rfl<|zL rfl rfl (.c rfl .n) ce158 (zkc (x:=v)) (.n)<|e_p (zc rfl)<|zh<|zd<|zg<|zg<|za<|e_mv rfl<|zh<|zd<|zPa rfl rfl<|zw<|zd<|zg<|zg<|za<|e_mv rfl<|zh<|zd<|zPa rfl rfl<|zw<|zd<|zg<|zg<|za<|e_mv rfl<|e_mv rfl<|e_p (zba rfl rfl)<|zh<|zd<|zG rfl (fun h1=> ?_) (fun h1=> ?_)
 ·
  refine zg<|za<|e_p (zc rfl)<|zh<|zd<|zI<|zi ?_
  exact zu Tryz.results150 () trivial (zk rfl) (by rw [Big.cmp_lt om]) (ho:=(.n:PickO _ _ _)) (.n:SelR _ _ _)
 ·
  refine zw<|zd<|zg<|zg<|za<|e_mv rfl<|e_mv rfl<|e_p (zAa rfl rfl)<|zh<|zd<|zG rfl (fun h2=> ?_) (fun h2=> ?_)
  ·
   refine zg<|za<|e_p (zc rfl)<|zh<|zd<|zI<|zi ?_
   exact zu Tryz.results150 () trivial (zk rfl) (by rw [Big.cmp_gt om]) (ho:=(.n:PickO _ _ _)) (.n:SelR _ _ _)
  ·
   refine zw<|zd<|zg<|za<|e_p (zc rfl)<|zh<|zd<|zI ?_
   exact zu Tryz.results150 () trivial (zk rfl) (by rw [show yG u v=0 by simp [yG];omega]) (ho:=(.n:PickO _ _ _)) (.n:SelR _ _ _)
theorem back_u32 {b:Nat} {p:Option Addr} {n cap:Nat} {l:List Int} (hn:l.length=n):Back yj 157 [yc (some ⟨b,0,none⟩)] [atF b 0 [.slice p n cap],slF (rI .u32) p cap l] n (fun k=>[ya yb ((k:Nat):Int),.int .u32 (l.getD k 0)]):=by
  refine back_intro Tryz.func157 rfl rfl rfl (fun l0 c X Y φ ψ OO RR OS RS H x0 hx0=> ?_)
  show RunC _ _ _ _ _ [(0,.func (.yield l0) #[] #[]),(1,yc (some ⟨b,0,none⟩))] (OO x0) (atF b 0 [.slice p n cap] :: slF (rI .u32) p cap l :: RR x0)
  refine zda 1 rfl (fun hL=> ?_)
  refine zg<|za<|e_ru (zv (j:=0) 0 ty39 rfl rfl rfl rfl)<|e_p (zN ye rfl)<|e_p (zka (z:=(((n:Nat):Int) - 1)) rfl rfl (w64 om))<|e_p (zc rfl)<|zh<|zd<|zA<|zSe (X:=X×Nat) (fun z=>φ z.1 z.2∧z.2≤n) (fun z=>[(3,ya yb (((z.2:Nat):Int) - 1)),(1,yc (some ⟨b,0,none⟩)),(0,.func (.yield l0) #[] #[])]) (fun z=>OO z.1) (fun z=>atF b 0 [.slice p n cap] :: slF (rI .u32) p cap l :: RR z.1) (fun z=>z.2) (x0,n) ⟨hx0,Nat.le_refl _⟩ (.c rfl (.c rfl (.c rfl .n)):SubM _ _) (fun w m=>m) ?_
  rintro ⟨x,k⟩ ⟨hx,hk⟩
  dsimp only at hx hk
  try dsimp only
  refine zg<|zg<|za<|e_mv rfl<|e_p (zBa rfl rfl)<|zh<|zd<|zG rfl (fun h=> ?_) (fun h=> ?_)
  · refine zw ?_
    refine zd ?_
    obtain ⟨j,rfl⟩:∃j,k=j+1:=⟨k - 1,by omega⟩
    rw [show (((j+1:Nat):Int) - 1)=(j:Int) by omega]
    refine zg<|zA<|zg<|za<|e_mv rfl<|e_mv rfl<|e_ru (zv (j:=0) 0 ty39 rfl rfl rfl rfl)<|e_mv rfl<|zZ (x0:=l.getD j 0) 1 j rfl ye sz121 rfl rfl rfl hn rfl rfl (gD (d:=0) om) (fun b2 o3 hok=> ?_)
    refine e_ru (zv (j:=0) 0 ty121 rfl rfl rfl rfl)<|zgg (X:=X) (Y:=Y) (φ:=fun x'=>φ x' j) (ψ:=ψ) (OO:=OO) (RR:=fun x'=>[atF b 0 [.slice p n cap],slF (rI .u32) p cap l]++RR x') (OS:=OS) (RS:=RS) (vs:=[ya yb ((j:Nat):Int),.int .u32 (l.getD j 0)]) rfl rfl rfl (.c rfl (.c rfl .n)) (fun w m=>H x j w om hx (m.weaken fun h g s r a=>⟨h,g,s,r.2,Hp.le_refl _,Hp.le_refl _,a,fun _ _ e=> .inl e⟩)) (fun x' hx'=> ?_) (fun y hy=> ?_)
    · refine e_p (zEb rfl) ?_
      refine zh<|zd<|zPa rfl rfl<|zw<|zO<|zd<|za<|e_mv rfl<|e_p (zka (z:=((j:Int) - 1)) rfl rfl (w64 om))<|e_p (zc rfl)<|zh ?_
      exact zfg (x',j) ⟨hx',by show j≤n;omega⟩ (by show j<j+1;omega) (.c rfl (.c rfl (.c rfl .n)):SubM _ _) (fun w m=>m)
    · refine e_p (zEb rfl) ?_
      refine zh<|zd<|zVa rfl rfl<|zI<|zp<|zi<|zi<|zp ?_
      exact zSd rfl y hy (fun w m=>m)
  · have hk0 : k = 0 := by omega
    subst hk0
    refine zna<|zj<|zj<|zy<|p_endI ?_
    exact zRd rfl x hx (fun w m=>m)
theorem zKb {p:Option Addr} {n:Nat} {cap:Nat}:Con yj 149 [.slice p n cap] [] [] (Y:=Nat) (fun y=>True) (fun y=> .func (.func 157) #[] #[yc (some ⟨y,0,none⟩)]) (fun y=>[]) (fun y=>[atF y 0 [.slice p n cap]]):=by
 refine zl Tryz.func149 rfl rfl rfl (fun c=> ?_)
 show RunC _ _ _ _ _ [(0,.slice p n cap)] [] []
 refine zg<|za<|zM rfl rfl (zS rfl rfl) (fun b1=> ?_)
 refine e_p (zc rfl)<|zh<|zd<|zg<|za<|e_p (zYa .n (.c rfl .n))<|e_p (zc rfl)<|zh<|zd<|zI<|zVe 0 rfl .z ?_
 exact zu Tryz.results149 b1 trivial (zk rfl) rfl (ho:=(.n:PickO _ _ _)) ((.c (j:=0) rfl .n):SelR _ _ _)
theorem zXb {a:Nat} {b:Nat} {p1:Option Addr} {c1:Nat} {p2:Option Addr} {c2:Nat}:Con yj 136 [.slice p1 ((yd a).length) c1,.slice p2 ((yd b).length) c2] [] [slF (rI .u32) p1 c1 (yd a),slF (rI .u32) p2 c2 (yd b)] (Y:=Unit) (fun y=>True) (fun y=> ya yb (yG (a:Int) (b:Int))) (fun y=>[]) (fun y=>[]):=by
 refine zoc Tryz.func136 rfl rfl rfl (fun c=> ?_)
 show RunC _ _ _ _ _ [(0,.slice p1 ((yd a).length) c1),(1,.slice p2 ((yd b).length) c2)] [] [slF (rI .u32) p1 c1 (yd a),slF (rI .u32) p2 c2 (yd b)]
 refine zda 0 rfl (fun hL0=> ?_)
 refine zda 1 rfl (fun hL1=> ?_)
 refine zg<|za<|zM rfl rfl (zS rfl rfl) (fun b1=> ?_)
 refine zM rfl rfl (zo zr3 rfl) (fun b2=> ?_)
 refine zh<|zd<|zg<|zg<|za<|e_mv rfl<|e_p (zN ye rfl)<|e_ru (ze 1 ty39 rfl rfl rfl)<|e_p (zN ye rfl)<|e_p (zdb rfl rfl)<|zh<|zd<|zG rfl (fun hlen=> ?_) (fun hlen=> ?_)
 ·
  refine zg<|za<|e_mv rfl<|e_p (zN ye rfl)<|e_ru (ze 1 ty39 rfl rfl rfl)<|e_p (zN ye rfl)<|zL rfl rfl (.c rfl (.c rfl .n)) ce148 (zTc (u:=(((yd a).length:Nat):Int)) (v:=(((yd b).length:Nat):Int))) (.n)<|zm 0 rfl rfl rfl rfl rfl sz3 rfl (.take .nil) .z<|zh<|zd<|zI<|zi<|zWe ?_
  exact zu Tryz.results136 () trivial (zwb 0 ty3 rfl rfl rfl) (by rw [Big.cmp_len om]) (ho:=(.n:PickO _ _ _)) (.n:SelR _ _ _)
 ·
  replace hlen:(yd a).length=(yd b).length:=by omega
  refine zw<|zd<|zg<|zg<|za<|e_mv rfl<|zC rfl rfl (.c rfl .n) ce149 (zKb (p:=p1) (n:=(yd a).length) (cap:=c1)) (.n) ?_
  rintro b3 -
  dsimp only [aq,nq,cq]
  refine zh<|zd<|zA<|zVd (fa:=[atF b3 0 [.slice p1 ((yd a).length) c1],slF (rI .u32) p1 c1 (yd a)]) (N:=((yd a).length)) (encs:=fun k=>[ya yb ((k:Nat):Int),.int .u32 ((yd a).getD k 0)]) rfl ce157 (back_u32 cbs) (fun _=>rfl) rfl (X:=Unit) (Y:=Unit) (fun x k=>k≤(yd a).length∧(yd a).drop k=(yd b).drop k) (fun y=>True) (fun x=>[boxA b2 3 [ya yb 0],boxA b1 39 [.slice p2 ((yd b).length) c2]]) (fun x=>[slF (rI .u32) p2 c2 (yd b)]) (fun y=>[boxA b2 3 [ya yb (yG (a:Int) (b:Int))],boxA b1 39 [.slice p2 ((yd b).length) c2]]) (fun y=>[atF b3 0 [.slice p1 ((yd a).length) c1],slF (rI .u32) p1 c1 (yd a),slF (rI .u32) p2 c2 (yd b)]) (fun k=>[(6,.int .u32 ((yd a).getD k 0)),(5,ya yb ((k:Nat):Int)),(20,.int .u32 ((yd a).getD k 0)),(19,ya yb ((k:Nat):Int)),(18,.func (.func 157) #[] #[yc (some ⟨b3,0,none⟩)]),(17,.slice p1 ((yd a).length) c1),(11,.bool (decide ((((yd a).length:Nat):Int)≠(((yd b).length:Nat):Int)))),(10,ya yb (((yd b).length:Nat):Int)),(9,.slice p2 ((yd b).length) c2),(8,ya yb (((yd a).length:Nat):Int)),(7,.slice p1 ((yd a).length) c1),(4,yc (some ⟨b2,0,none⟩)),(3,yc (some ⟨b1,0,none⟩)),(0,.slice p1 ((yd a).length) c1),(1,.slice p2 ((yd b).length) c2)]) () (show ((yd a).length)≤(yd a).length∧(yd a).drop ((yd a).length)=(yd b).drop ((yd a).length) from by exact ⟨Nat.le_refl _,by rw [List.drop_length,hlen,List.drop_length]⟩) (ho:=((.of [0,0] rfl):PickO _ _ _)) ((.of [0,1,2] rfl):SelR _ _ _) ?_ ?_ ?_ ?_
  ·
   intro l k O' R' Q' hP
   refine zg<|za<|e_p (zc rfl)<|zh<|zd<|za<|e_p (zc rfl)<|zh ?_
   exact hP
  ·
   rintro l4 D5 o6 o7 ⟨⟩ k hkN hI
   replace hI:(k+1)≤(yd a).length∧(yd a).drop (k+1)=(yd b).drop (k+1):=hI
   try dsimp only
   have hg1:=ym (yp a) k
   have hg2:=ym (yp b) k
   refine zA<|zg<|za<|e_mv rfl<|e_ru (ze 3 ty39 rfl rfl rfl)<|e_mv rfl<|zZ (x0:=((yd b).getD k 0)) 2 k rfl ye sz121 rfl rfl rfl cbs rfl rfl (gD (d:=0) om) (fun b8 o9 hok10=> ?_)
   replace hok10:=zB.1 hok10
   refine e_ru (zv (j:=0) 0 ty121 rfl rfl rfl rfl)<|e_p (zdb rfl rfl)<|zh<|zd<|zG rfl (fun hne=> ?_) (fun hne=> ?_)
   ·
    refine zg<|za<|e_mv rfl<|e_ru (ze 3 ty39 rfl rfl rfl)<|e_mv rfl<|zZ (x0:=((yd b).getD k 0)) 3 k rfl ye sz121 rfl rfl rfl cbs rfl rfl (gD (d:=0) om) (fun b11 o12 hok13=> ?_)
    replace hok13:=zB.1 hok13
    refine e_ru (zv (j:=0) 0 ty121 rfl rfl rfl rfl)<|zL rfl rfl (.c rfl (.c rfl .n)) ce150 (zbe (u:=((yd a).getD k 0)) (v:=((yd b).getD k 0))) (.n)<|zm 2 rfl rfl rfl rfl rfl sz3 rfl (.take .nil) (.s (.s .z))<|zh<|zd<|zI<|zp ?_
    exact zUd () (show True from by first|trivial|omega) (ho:=((.c (i:=0) rfl (.c (i:=0) rfl (.e (i:=0) rfl (by rw [Big.cmp_at hlen om hI.2 hne]) (.c (i:=0) rfl .n)))):PickO _ _ _)) ((.of [2,3,4] rfl):SelR _ _ _)
   ·
    refine zw<|zO ?_
    exact zTd () (show k≤(yd a).length∧(yd a).drop k=(yd b).drop k from by exact ⟨by omega,Big.drop_more om om hI.2 (Decidable.not_not.1 hne)⟩) (ho:=((.of [0,0,0,0] rfl):PickO _ _ _)) ((.of [1,2,3] rfl):SelR _ _ _)
  ·
   rintro D14 ⟨⟩ hI
   replace hI:0≤(yd a).length∧(yd a).drop 0=(yd b).drop 0:=hI
   try dsimp only
   have heq:(yd a)=(yd b):=by simpa using hI.2
   have hab:=Big.cmp_eq heq
   refine zO<|zd<|zg<|za<|zm 1 rfl rfl rfl rfl rfl sz3 rfl (.take .nil) (.s .z)<|zh<|zd<|zI<|zoe 0 rfl rfl ?_
   exact zu Tryz.results136 () trivial (zwb 0 ty3 rfl rfl rfl) (by rw [hab];simp [yG]) (ho:=(.n:PickO _ _ _)) (.n:SelR _ _ _)
  ·
   rintro D15 ⟨⟩ hS
   replace hS:True:=hS
   try dsimp only
   refine zp<|zi<|zoe 0 rfl rfl ?_
   exact zu Tryz.results136 () trivial (zwb 0 ty3 rfl rfl rfl) rfl (ho:=(.n:PickO _ _ _)) (.n:SelR _ _ _)
theorem zIe {g:Int}:Con yj 152 [.int .u32 g] [] [] (Y:=Unit) (fun y=>True) (fun y=> .bool (decide (1000000000≤g))) (fun y=>[]) (fun y=>[]):=by
 refine zl Tryz.func152 rfl rfl rfl (fun c=> ?_)
 show RunC _ _ _ _ _ [(0,.int .u32 g)] [] []
 refine zg<|za<|e_p (zc rfl)<|zh<|zd<|zg<|za<|e_mv rfl<|e_p (zBa rfl rfl)<|e_p (zc rfl)<|zh<|zd<|zI ?_
 exact zu Tryz.results152 () trivial (zk rfl) rfl (ho:=(.n:PickO _ _ _)) (.n:SelR _ _ _)
theorem zdd {p:Option Addr} {n:Nat} {cap:Nat} {l:List Int} (hn:l.length=n):Con yj 159 [.slice p n cap,.func (.func 152) #[] #[]] [] [slF (rI .u32) p cap l] (Y:=Int) (fun y=>(0≤y↔∃g∈l,1000000000≤g)) (fun y=> ya yb y) (fun y=>[]) (fun y=>[]):=by
 refine zl Tryz.func159 rfl rfl rfl (fun c=> ?_)
 show RunC _ _ _ _ _ [(0,.slice p n cap),(1,.func (.func 152) #[] #[])] [] [slF (rI .u32) p cap l]
 refine zda 0 rfl (fun hL0=> ?_)
 refine zg<|za<|e_p (zc rfl)<|zh<|zd<|zg<|zg<|za<|e_mv rfl<|e_p (zN ye rfl)<|e_mv rfl<|zh<|zd<|zA<|zpa (X:=Nat) (fun x:Nat=>x≤n∧∀j,j<x→l.getD j 0<1000000000) (fun x=>[(8,ya yb ((x:Nat):Int)),(7,ya yb ((n:Nat):Int)),(0,.slice p n cap),(1,.func (.func 152) #[] #[])]) (fun x=>[]) (fun x=>[slF (rI .u32) p cap l]) (fun x:Nat=>n - x) 0 (show 0≤n∧∀j,j<0→l.getD j 0<1000000000 from by exact ⟨by omega,fun j h=>by omega⟩) ((.e rfl (by first|rfl|(congr 1;omega)|simp_all) (.of rfl)):SubM _ _) (ho:=(.n:PickO _ _ _)) ((.c (j:=0) rfl .n):SelR _ _ _) ?_
 rintro i hI
 replace hI:i≤n∧∀j,j<i→l.getD j 0<1000000000:=hI
 try dsimp only
 obtain ⟨hi,hall⟩:=hI
 refine zg<|za<|e_p (zba rfl rfl)<|zh<|zd<|zg<|zG rfl (fun h1=> ?_) (fun h1=> ?_)
 ·
  refine zw<|zd<|zg<|zA<|zg<|za<|e_mv rfl<|e_p (zc rfl)<|zh<|zd<|zg<|za<|e_mv rfl<|e_mv rfl<|e_mv rfl<|zZ (x0:=(l.getD i 0)) 0 i rfl ye sz121 rfl rfl rfl cbs rfl rfl (gD (d:=0) om) (fun b2 o3 hok4=> ?_)
  replace hok4:=zB.1 hok4
  refine e_ru (zv (j:=0) 0 ty121 rfl rfl rfl rfl)<|zAc (first:=[]) (cap:=[]) rfl rfl rfl (.c rfl .n) ce152 (zIe (g:=(l.getD i 0))) (.n) ?_
  rintro ⟨⟩ -
  dsimp only [aq,nq,cq]
  refine zh<|zd<|zG rfl (fun hb=> ?_) (fun hb=> ?_)
  ·
   refine zg<|za<|e_mv rfl<|e_p (zc rfl)<|zh<|zd<|zI<|zp<|zi<|zi<|zp<|zi ?_
   exact zu Tryz.results159 ((i:Nat):Int) (⟨fun _=>⟨l.getD i 0,Big.getD_mem om,hb⟩,fun _=>by omega⟩) (zk rfl) rfl (ho:=(.n:PickO _ _ _)) (.n:SelR _ _ _)
  ·
   refine zw<|zO<|zd<|za<|e_p (zK (z:=(((i+1):Nat):Int)) rfl rfl (w64 om))<|e_mv rfl<|zh<|zha (i+1) (show (i+1)≤n∧∀j,j<(i+1)→l.getD j 0<1000000000 from by refine ⟨by omega,fun j hj=> ?_⟩;by_cases e:j=i;subst e;omega;exact hall j om) (by show n - (i+1)<n - i;omega) ((.of rfl):SubM _ _) (ho:=(.n:PickO _ _ _)) ((.c (j:=1) rfl .n):SelR _ _ _)
 ·
  refine zna<|zj<|zj<|zy<|zd<|zg<|za<|e_p (zc rfl)<|zh<|zd<|zI ?_
  exact zu Tryz.results159 (-1) (⟨fun h=>by omega,fun ⟨g,hg,hb⟩=>by obtain ⟨j,hj,e⟩:=Big.mem_getD hg;have:=hall j om;omega⟩) (zk rfl) rfl (ho:=(.n:PickO _ _ _)) (.n:SelR _ _ _)
theorem ztc {p:Option Addr} {n:Nat} {cap:Nat} {l:List Int} (hn:l.length=n):Con yj 151 [.slice p n cap,.func (.func 152) #[] #[]] [] [slF (rI .u32) p cap l] (Y:=Unit) (fun y=>True) (fun y=> .bool (decide (∃g∈l,1000000000≤g))) (fun y=>[]) (fun y=>[]):=by
 refine zl Tryz.func151 rfl rfl rfl (fun c=> ?_)
 show RunC _ _ _ _ _ [(0,.slice p n cap),(1,.func (.func 152) #[] #[])] [] [slF (rI .u32) p cap l]
 refine zda 0 rfl (fun hL0=> ?_)
 refine zg<|za<|e_p (zc rfl)<|zh<|zd<|zg<|za<|e_mv rfl<|e_mv rfl<|zC rfl rfl (.c rfl (.c rfl .n)) ce159 (zdd (p:=p) (n:=n) (cap:=cap) (l:=l) (hn:=ass)) (.c (j:=0) rfl .n) ?_
 rintro r1 hr
 dsimp only [aq,nq,cq]
 replace hr:(0≤r1↔∃g∈l,1000000000≤g):=hr
 refine e_p (zBa rfl rfl)<|e_p (zc rfl)<|zh<|zd<|zI ?_
 exact zu Tryz.results151 () trivial (zk rfl) (congrArg Value.bool (decide_eq_decide.2 hr.symm)) (ho:=(.n:PickO _ _ _)) (.n:SelR _ _ _)
theorem zUc {s:Bool} {p:Option Addr} {n:Nat} {cap:Nat} {l:List Int} (hn:l.length=n):Con yj 138 [.agg #[.bool s,.slice p n cap]] [] [slF (rI .u32) p cap l] (Y:=Unit) (fun y=>True) (fun y=> .bool (decide (Big.canon s l))) (fun y=>[]) (fun y=>[]):=by
 refine zl Tryz.func138 rfl rfl rfl (fun c=> ?_)
 show RunC _ _ _ _ _ [(0,.agg #[.bool s,.slice p n cap])] [] [slF (rI .u32) p cap l]
 refine zda 0 rfl (fun hL0=> ?_)
 refine zg<|za<|zM rfl rfl (zS rfl rfl) (fun b1=> ?_)
 refine e_p (zc rfl)<|zh<|zd<|zg<|za<|e_p (zf yl rfl sz39 rfl rfl)<|e_ru (ze 0 ty39 rfl rfl rfl)<|e_p (zN ye rfl)<|e_p (zc rfl)<|zh<|zd<|zg<|zg<|za<|e_mv rfl<|e_p (zDa rfl rfl)<|zh<|zd<|zG rfl (fun h0=> ?_) (fun h0=> ?_)
 ·
  refine zg<|za<|e_p (zf yl rfl sz4 rfl rfl)<|e_ru (ze 0 ty4 rfl rfl rfl)<|e_p (zEb rfl)<|e_p (zc rfl)<|zh<|zd<|zI<|zi ?_
  exact zu Tryz.results138 () trivial (zk rfl) (congrArg Value.bool (by have:l.length=0:=om;cases s <;> simp [Big.canon,this])) (ho:=(.n:PickO _ _ _)) (.n:SelR _ _ _)
 ·
  refine zw<|zd<|zHa (X:=Unit) (fun x=>True) (fun x=>[(2,.bool (decide (((l.getD ((((n:Nat):Int) - 1).toNat) 0)≠0)∧(¬(∃g∈l,1000000000≤g)))))]) (fun x=>[boxA b1 41 [.bool s,.slice p n cap]]) (fun x=>[slF (rI .u32) p cap l]) ?_ ?_
  ·
   refine za<|e_p (zf yl rfl sz39 rfl rfl)<|e_ru (ze 0 ty39 rfl rfl rfl)<|e_mv rfl<|e_p (zka (z:=(((n:Nat):Int) - 1)) rfl rfl (w64 om))<|zZ (x0:=(l.getD ((((n:Nat):Int) - 1).toNat) 0)) 0 ((((n:Nat):Int) - 1).toNat) rfl ye sz121 rfl rfl rfl cbs rfl om (gD (d:=0) om) (fun b2 o3 hok4=> ?_)
   replace hok4:=zB.1 hok4
   refine e_ru (zv (j:=0) 0 ty121 rfl rfl rfl rfl)<|e_p (zdb rfl rfl)<|zV rfl rfl (zW rfl) (fun h5=> ?_) (fun h5=> ?_)
   ·
    refine e_p (zf yl rfl sz39 rfl rfl)<|e_ru (ze 0 ty39 rfl rfl rfl)<|zL rfl rfl (.c rfl (.c rfl .n)) ce151 (ztc (p:=p) (n:=n) (cap:=cap) (l:=l) (hn:=ass)) (.c (j:=1) rfl .n)<|e_p (zVb rfl)<|e_p (zn rfl rfl)<|e_p (zc rfl)<|zh ?_
    exact zga () (show True from by first|trivial|omega|simp_all) ((.e rfl (congrArg Value.bool (by simp_all)) .n):SubM _ _) (ho:=((.c (i:=0) rfl .n):PickO _ _ _)) ((.c (j:=1) rfl .n):SelR _ _ _)
   ·
    refine e_no<|e_no<|e_no<|e_no<|e_p (zn rfl rfl)<|e_p (zc rfl)<|zh ?_
    exact zga () (show True from by first|trivial|omega|simp_all) ((.e rfl (congrArg Value.bool (by simp_all)) .n):SubM _ _) (ho:=((.c (i:=0) rfl .n):PickO _ _ _)) ((.c (j:=1) rfl .n):SelR _ _ _)
  ·
   rintro ⟨⟩ -
   try dsimp only
   refine zI ?_
   exact zu Tryz.results138 () trivial (zk rfl) (congrArg Value.bool (decide_eq_decide.2 (by rw [Big.canon_more om,hn];have e:((n:Int) - 1).toNat=n - 1:=om;simp [e]))) (ho:=(.n:PickO _ _ _)) (.n:SelR _ _ _)
theorem zQa {s:Bool} {p:Option Addr} {n:Nat} {cap:Nat} {l:List Int} (hn:l.length=n):Con yj 117 [.agg #[.bool s,.slice p n cap]] [] [slF (rI .u32) p cap l] (Y:=(Option Addr)×Nat) (fun y=>True) (fun y=> .slice (y.1) ((yd ((yk s l).natAbs)).length) (y.2)) (fun y=>[]) (fun y=>[slF (rI .u32) (y.1) (y.2) (yd ((yk s l).natAbs))]):=by
 refine zl Tryz.func117 rfl rfl rfl (fun c=> ?_)
 show RunC _ _ _ _ _ [(0,.agg #[.bool s,.slice p n cap])] [] [slF (rI .u32) p cap l]
 refine zda 0 rfl (fun hL0=> ?_)
 refine zTa 0 rfl (fun hE0=> ?_)
 have hnn:yK l:=fun g hg=>(zB.1 (hE0 g hg)).1
 refine zg<|za<|zM rfl rfl (zS rfl rfl) (fun b1=> ?_)
 refine e_p (zc rfl)<|zh<|zd<|zg<|zg<|za<|e_ru (zb 0 ty41 rfl rfl (.t2 .nil))<|zL rfl rfl (.c rfl .n) ce138 (zUc (s:=s) (p:=p) (n:=n) (cap:=cap) (l:=l) (hn:=ass)) (.c (j:=0) rfl .n)<|e_p (zVb rfl)<|zh<|zd<|zG rfl (fun hc=> ?_) (fun hc=> ?_)
 ·
  refine zg<|za<|e_p (zc rfl)<|zh<|zd<|zI<|zi ?_
  have hd:yd (yk s l).natAbs=[]:=by rw [Big.raw_digs hnn,if_neg hc]
  refine zzd (rI .u32) ?_
  exact zu Tryz.results117 (none,0) trivial (zk rfl) (by rw [hd];rfl) (ho:=(.n:PickO _ _ _)) ((.e (j:=0) rfl (by rw [hd]) .n):SelR _ _ _)
 ·
  refine zw<|zd<|zg<|za<|e_p (zf yl rfl sz39 rfl rfl)<|e_ru (ze 0 ty39 rfl rfl rfl)<|e_p (zc rfl)<|zh<|zd<|zI ?_
  have hd:yd (yk s l).natAbs=l:=by rw [Big.raw_digs hnn,if_pos (Decidable.not_not.1 hc)]
  exact zu Tryz.results117 (p,cap) trivial (zk rfl) (by rw [hd,hn]) (ho:=(.n:PickO _ _ _)) ((.e (j:=0) rfl (by rw [hd]) .n):SelR _ _ _)
theorem zzb {z:Int} {p:Option Addr} {cap:Nat}:Con yj 117 [.agg #[.bool (decide ((z)<0)),.slice (p) ((yd ((z).natAbs)).length) (cap)]] [] [slF (rI .u32) (p) (cap) (yd ((z).natAbs))] (Y:=(Option Addr)×(Nat)) (fun y=>True) (fun y=> .slice (y.1) ((yd ((z).natAbs)).length) (y.2)) (fun y=>[]) (fun y=>[slF (rI .u32) (y.1) (y.2) (yd ((z).natAbs))]):=by
  have h:= @zQa (decide ((z)<0)) p (yd (z).natAbs).length cap (yd (z).natAbs) rfl
  rw [yt] at h
  exact h
theorem zQf {s:Bool} {p:Option Addr} {n:Nat} {cap:Nat} {l:List Int} (hn:l.length=n) (ho:yv l):Con yj 114 [.bool s,.slice p n cap] [] [slF (rI .u32) p cap l] (Y:=(Option Addr)×Nat) (fun y=>True) (fun y=> .agg #[.bool (decide ((yw s (yf l))<0)),.slice (y.1) ((yd ((yw s (yf l)).natAbs)).length) (y.2)]) (fun y=>[]) (fun y=>[slF (rI .u32) (y.1) (y.2) (yd ((yw s (yf l)).natAbs))]):=by
 refine zl Tryz.func114 rfl rfl rfl (fun c=> ?_)
 show RunC _ _ _ _ _ [(0,.bool s),(1,.slice p n cap)] [] [slF (rI .u32) p cap l]
 refine zda 0 rfl (fun hL0=> ?_)
 have htr:yn l=yd (yw s (yf l)).natAbs:=by rw [Big.sg_abs (Big.valL_nonneg ho),Big.digs_valL ho]
 refine zg<|za<|zM rfl rfl (zo zr41 rfl) (fun b1=> ?_)
 refine zh<|zd<|zg<|za<|e_mv rfl<|zC rfl rfl (.c rfl .n) ce134 (zyb (p:=p) (n:=n) (cap:=cap) (l:=l) (hn:=ass)) (.c (j:=0) rfl .n) ?_
 rintro ⟨⟩ -
 dsimp only [aq,nq,cq]
 refine e_p (zc rfl)<|zh<|zd<|zg<|zg<|za<|e_mv rfl<|e_p (zN ye rfl)<|e_p (zDa rfl rfl)<|zh<|zd<|zG rfl (fun h0=> ?_) (fun h0=> ?_)
 ·
  refine zg<|za<|e_p (zH zr41 rfl yl (.c sz4 (.c sz39 .n)) .n .n)<|zm 0 rfl rfl rfl rfl rfl sz41 rfl (.t2 .nil) .z<|zh<|zd<|zI<|zi ?_
  have hz:yf l=0:=Big.trim_zero ho om
  refine zzd (rI .u32) ?_
  exact zu Tryz.results114 (none,0) trivial (zr 0 ty41 rfl rfl (.t2 .nil)) (by rw [hz,Big.sg_zero];rfl) (ho:=(.n:PickO _ _ _)) ((.e (j:=0) rfl (by rw [hz,Big.sg_zero];rfl) .n):SelR _ _ _)
 ·
  refine zw<|zd<|zg<|za<|e_mv rfl<|e_mv rfl<|e_p (zH zr41 rfl yl (.c sz4 (.c sz39 .n)) (.c rfl (.c rfl .n)) (.c rfl rfl rfl (.take .nil) (.c rfl rfl rfl (.skip (.take .nil)) .n)))<|zm 0 rfl rfl rfl rfl rfl sz41 rfl (.t2 .nil) .z<|zh<|zd<|zI ?_
  have hp:0<yf l:=Big.valL_pos ho (fun e=>h0 (by rw [e];rfl))
  exact zu Tryz.results114 (p,cap) trivial (zr 0 ty41 rfl rfl (.t2 .nil)) (by rw [Big.sg_pos hp,htr]) (ho:=(.n:PickO _ _ _)) ((.e (j:=0) rfl (by rw [htr]) .n):SelR _ _ _)
theorem zCa {s:Bool} {a:Nat} {p:Option Addr} {cap:Nat}:Con yj 114 [.bool (s),.slice (p) ((yd (a)).length) (cap)] [] [slF (rI .u32) (p) (cap) (yd (a))] (Y:=(Option Addr)×(Nat)) (fun y=>True) (fun y=> .agg #[.bool (decide ((yw s (a:Int))<0)),.slice (y.1) ((yd ((yw s (a:Int)).natAbs)).length) (y.2)]) (fun y=>[]) (fun y=>[slF (rI .u32) (y.1) (y.2) (yd ((yw s (a:Int)).natAbs))]):=by
  have h:= @zQf s p (yd a).length cap (yd a) rfl (yp a)
  rw [yz] at h
  exact h
theorem zvb {n0:Nat} (hn0:n0<18446744073709551616):Con yj 115 [.int .u64 ((n0:Nat):Int)] [] [] (Y:=(Option Addr)×Nat) (fun y=>True) (fun y=> .slice (y.1) ((yd n0).length) (y.2)) (fun y=>[]) (fun y=>[slF (rI .u32) (y.1) (y.2) (yd n0)]):=by
 refine zl Tryz.func115 rfl rfl rfl (fun c=> ?_)
 show RunC _ _ _ _ _ [(0,.int .u64 ((n0:Nat):Int))] [] []
 refine zg<|za<|e_p (zc rfl)<|zh<|zd<|zg<|za<|e_p (zc rfl)<|zh<|zd<|zg<|zA<|zlb 121 (rI .u32)<|zpa (X:=Nat×(Option Addr)×Nat×(List Int)) (fun x:Nat×(Option Addr)×Nat×(List Int)=>x.1≤n0∧x.2.2.2++yd x.1=yd n0) (fun x=>[(3,.slice (x.2.1) (x.2.2.2.length) (x.2.2.1)),(0,.int .u64 ((x.1:Nat):Int)),(2,.slice none 0 0)]) (fun x=>[rowA 121 (rI .u32) (x.2.1) (x.2.2.1) (x.2.2.2)]) (fun x=>[]) (fun x:Nat×(Option Addr)×Nat×(List Int)=>x.1) (n0,none,0,[]) (show n0≤n0∧([])++yd n0=yd n0 from by exact ⟨Nat.le_refl _,rfl⟩) ((.e rfl (by first|rfl|(congr 1;omega)|simp_all) (.c rfl (.c rfl .n))):SubM _ _) (ho:=((.c (i:=0) rfl .n):PickO _ _ _)) (.n:SelR _ _ _) ?_
 rintro ⟨n,p,c,os⟩ hI
 replace hI:n≤n0∧os++yd n=yd n0:=hI
 try dsimp only
 obtain ⟨hnn,hos⟩:=hI
 have hlen:os.length+(yd n).length≤3:=by have:=congrArg List.length hos;rw [List.length_append] at this;have:=Big.zhf hn0;omega
 refine zg<|zg<|za<|e_mv rfl<|e_p (zAa rfl rfl)<|zh<|zd<|zG rfl (fun hc=> ?_) (fun hc=> ?_)
 ·
  refine zw<|zd<|zg<|zA<|za<|e_mv rfl<|e_mv rfl<|e_p (zxa (z:=(((n%1000000000):Nat):Int)) rfl rfl om (remN om om))<|e_p (zE (z:=(((n%1000000000):Nat):Int)) rfl (by rw [yh];rfl) yg (wu32 om))<|zIa rfl rfl (zX (enc:=fun z:Int=>[.int .u32 z]) (ok:=InK .u32) (h1:=fun _=>rfl) (h2:=fun _=>rfl) (k:=1) ye inf121 rfl dd dd dd (.c (x:=(((n%1000000000):Nat):Int)) rfl rfl (fun _ _=>by exact zB.2 om) .n)) (fun b1 _=> ?_)
  refine zla 0 rfl .z<|zJa 1 rfl rfl rfl (zua 0 rfl ye inf121 dd rfl rfl cbs rfl cbs om om) (fun _=>(.s .z)) ?_
  rintro ⟨p2,c3⟩ -
  dsimp only [aq,nq,cq]
  refine e_p (zc rfl)<|zh<|zO<|zd<|za<|e_mv rfl<|e_p (zjb (z:=(((n / 1000000000):Nat):Int)) rfl rfl om (by rw [quoN (z:=(((n / 1000000000):Nat):Int)) om om];exact wu64 om))<|e_p (zc rfl)<|zh<|zha ((n / 1000000000),p2,c3,os++[((n%1000000000:Nat):Int)]) (show (n / 1000000000)≤n0∧(os++[((n%1000000000:Nat):Int)])++yd (n / 1000000000)=yd n0 from by exact ⟨by omega,Big.split_step om hos⟩) (by show n / 1000000000<n;omega) ((.e rfl (by simp) (.c rfl (.c rfl .n))):SubM _ _) (ho:=((.e (i:=1) rfl (by first|rfl|(congr 1;omega)|simp_all) .n):PickO _ _ _)) (.n:SelR _ _ _)
 ·
  refine zna<|zj<|zj<|zy<|zd<|zg<|za<|e_mv rfl<|e_p (zc rfl)<|zh<|zd<|zI ?_
  have hz:n=0:=by omega
  subst hz
  have hd:os=yd n0:=by simpa [Big.digs_zero] using hos
  refine zOb 0 rfl .z ?_
  exact zu Tryz.results115 (p,c) trivial (zk rfl) (by rw [hd]) (ho:=(.n:PickO _ _ _)) ((.e (j:=0) rfl (by rw [hd]) .n):SelR _ _ _)
theorem zeg {z:Int} (hz: -9223372036854775808≤z∧z≤9223372036854775807):Con yj 84 [ya yb z] [] [] (Y:=(Option Addr)×Nat) (fun y=>True) (fun y=> .agg #[.bool (decide (z<0)),.slice (y.1) ((yd ((z).natAbs)).length) (y.2)]) (fun y=>[]) (fun y=>[slF (rI .u32) (y.1) (y.2) (yd ((z).natAbs))]):=by
 refine zl Tryz.func84 rfl rfl rfl (fun c=> ?_)
 show RunC _ _ _ _ _ [(0,ya yb z)] [] []
 refine zg<|za<|zM rfl rfl (zo zr41 rfl) (fun b1=> ?_)
 refine zh<|zd<|zg<|za<|e_mv rfl<|e_p (zE (z:=(z%18446744073709551616)) rfl (by rw [Tryz.underlying3];rfl) yh (wu64m om))<|e_p (zc rfl)<|zh<|zd<|zg<|zg<|za<|e_mv rfl<|e_p (zba rfl rfl)<|zh<|zd<|zG rfl (fun hs=> ?_) (fun hs=> ?_)
 ·
  refine za<|e_mv rfl<|e_p (zvd (z:=((z.natAbs:Nat):Int)) rfl (wu64m om))<|e_p (zc rfl)<|zh<|zd<|zg<|za<|e_mv rfl<|e_p (zba rfl rfl)<|e_mv rfl<|zC rfl rfl (.c rfl .n) ce115 (zvb (n0:=z.natAbs) (hn0:=om)) (.n) ?_
  rintro ⟨p22,c23⟩ -
  dsimp only [aq,nq,cq]
  refine zC rfl rfl (.c rfl (.c rfl .n)) ce114 (zCa (s:=decide (z<0)) (a:=z.natAbs) (p:=p22) (cap:=c23)) (.c (j:=0) rfl .n) ?_
  rintro ⟨p24,c25⟩ -
  dsimp only [aq,nq,cq]
  refine zm 0 rfl rfl rfl rfl rfl sz41 rfl (.t2 .nil) .z<|zh<|zd<|zI ?_
  have hsg:yw (decide (z<0)) (z.natAbs:Int)=z:=Big.sg_big z
  exact zu Tryz.results84 (p24,c25) trivial (zr 0 ty41 rfl rfl (.t2 .nil)) (by rw [hsg]) (ho:=(.n:PickO _ _ _)) ((.e (j:=0) rfl (by rw [hsg]) .n):SelR _ _ _)
 ·
  have e6:((z%18446744073709551616):Int)=((z.natAbs:Nat):Int):=by omega
  rw [e6]
  refine zw<|zd<|zg<|za<|e_mv rfl<|e_p (zba rfl rfl)<|e_mv rfl<|zC rfl rfl (.c rfl .n) ce115 (zvb (n0:=z.natAbs) (hn0:=om)) (.n) ?_
  rintro ⟨p27,c28⟩ -
  dsimp only [aq,nq,cq]
  refine zC rfl rfl (.c rfl (.c rfl .n)) ce114 (zCa (s:=decide (z<0)) (a:=z.natAbs) (p:=p27) (cap:=c28)) (.c (j:=0) rfl .n) ?_
  rintro ⟨p29,c210⟩ -
  dsimp only [aq,nq,cq]
  refine zm 0 rfl rfl rfl rfl rfl sz41 rfl (.t2 .nil) .z<|zh<|zd<|zI ?_
  have hsg:yw (decide (z<0)) (z.natAbs:Int)=z:=Big.sg_big z
  exact zu Tryz.results84 (p29,c210) trivial (zr 0 ty41 rfl rfl (.t2 .nil)) (by rw [hsg]) (ho:=(.n:PickO _ _ _)) ((.e (j:=0) rfl (by rw [hsg]) .n):SelR _ _ _)
theorem zrf {z:Int} (hz: -9223372036854775808≤z∧z≤9223372036854775807):Con yj 84 [ya yb (z)] [] [] (Y:=(Wd)) (fun y=>True) (fun y=> .agg #[y.b,y.l]) (fun y=>[]) (fun y=>[zF y (z)]):=by
  exact zUb (zeg hz)
theorem zVc {a:Nat} {b:Nat} {p1:Option Addr} {c1:Nat} {p2:Option Addr} {c2:Nat} (hb1:(yd a).length≤1099511627776) (hb2:(yd b).length≤1099511627776) (hab:b≤a):Con yj 137 [.slice p1 ((yd a).length) c1,.slice p2 ((yd b).length) c2] [] [slF (rI .u32) p1 c1 (yd a),slF (rI .u32) p2 c2 (yd b)] (Y:=(Option Addr)×Nat) (fun y=>True) (fun y=> .slice (y.1) ((yd (a - b)).length) (y.2)) (fun y=>[]) (fun y=>[slF (rI .u32) (y.1) (y.2) (yd (a - b))]):=by
 refine zl Tryz.func137 rfl rfl rfl (fun c=> ?_)
 show RunC _ _ _ _ _ [(0,.slice p1 ((yd a).length) c1),(1,.slice p2 ((yd b).length) c2)] [] [slF (rI .u32) p1 c1 (yd a),slF (rI .u32) p2 c2 (yd b)]
 refine zda 0 rfl (fun hL0=> ?_)
 refine zda 1 rfl (fun hL1=> ?_)
 refine zg<|za<|e_p (zc rfl)<|zh<|zd<|zg<|za<|e_mv rfl<|e_p (zN ye rfl)<|zIa rfl rfl (zsb (r:=rI .u32) (k:=(yd a).length) (x0:=0) (γ0:=()) ye inf121 rfl rfl rfl rfl om om rfl (fun g _=>by exact zB.2 dd) dd) (fun b1 _=> ?_)
 refine e_p (zc rfl)<|zh<|zd<|zg<|za<|e_p (zc rfl)<|zh<|zd<|zg<|zg<|za<|e_mv rfl<|e_p (zN ye rfl)<|e_mv rfl<|zh<|zd<|zA<|zpa (X:=Nat×(List Int)×Int) (fun x:Nat×(List Int)×Int=>x.1≤(yd a).length∧x.2.1.length=x.1∧0≤x.2.2∧x.2.2≤1∧yv x.2.1∧yf x.2.1+yf ((yd b).take x.1)=yf ((yd a).take x.1)+yA x.1*x.2.2) (fun x=>[(6,.int .u32 (x.2.2)),(14,ya yb ((x.1:Nat):Int)),(13,ya yb (((yd a).length:Nat):Int)),(5,.slice (some ⟨b1,0,none⟩) ((yd a).length) ((yd a).length)),(4,.slice none 0 0),(0,.slice p1 ((yd a).length) c1),(1,.slice p2 ((yd b).length) c2)]) (fun x=>[rowA 121 (rI .u32) (some ⟨b1,0,none⟩) ((yd a).length) (x.2.1++List.replicate ((yd a).length - x.1) 0)]) (fun x=>[slF (rI .u32) p1 c1 (yd a),slF (rI .u32) p2 c2 (yd b)]) (fun x:Nat×(List Int)×Int=>(yd a).length - x.1) (0,[],0) (show 0≤(yd a).length∧([]).length=0∧0≤0∧0≤1∧yv ([])∧yf ([])+yf ((yd b).take 0)=yf ((yd a).take 0)+yA 0*0 from by exact ⟨by omega,rfl,by decide,by decide,Big.okL_nil,by simp [yf]⟩) ((.c rfl (.e rfl (by first|rfl|(congr 1;omega)|simp_all) (.of rfl))):SubM _ _) (ho:=((.e (i:=0) rfl (by simp) .n):PickO _ _ _)) ((.of [0,1] rfl):SelR _ _ _) ?_
 rintro ⟨i,os,bo⟩ hI
 replace hI:i≤(yd a).length∧os.length=i∧0≤bo∧bo≤1∧yv os∧yf os+yf ((yd b).take i)=yf ((yd a).take i)+yA i*bo:=hI
 try dsimp only
 obtain ⟨hi,hol,hc0,hc1,hok,hv⟩:=hI
 have hg1:=ym (yp a) i
 have hg2:=ym (yp b) i
 refine zg<|za<|e_p (zba rfl rfl)<|zh<|zd<|zg<|zG rfl (fun h2=> ?_) (fun h2=> ?_)
 ·
  refine zw<|zd<|zg<|zA<|zg<|za<|e_mv rfl<|e_p (zc rfl)<|zh<|zd<|zg<|za<|e_mv rfl<|e_mv rfl<|zL rfl rfl (.c rfl (.c rfl .n)) ce147 (zre (p:=p2) (n:=(yd b).length) (cap:=c2) (l:=yd b) (i:=i) (hn:=cbb) (hi:=cbb)) (.c (j:=1) rfl .n)<|e_mv rfl<|e_p (zK (z:=((yd b).getD i 0+bo)) rfl rfl (wu32 om))<|e_p (zc rfl)<|zh<|zd<|zg<|za<|e_p (zc rfl)<|zh<|zd<|zg<|za<|e_mv rfl<|e_mv rfl<|zZ (x0:=((yd a).getD i 0)) 0 i rfl ye sz121 rfl rfl rfl (by first|rfl|assumption|(simp;omega)) rfl rfl (gD (d:=0) om) (fun b3 o4 hok5=> ?_)
  replace hok5:=zB.1 hok5
  refine e_ru (zv (j:=0) 0 ty121 rfl rfl rfl rfl)<|e_mv rfl<|e_p (zba rfl rfl)<|zh<|zd<|zG rfl (fun hc=> ?_) (fun hc=> ?_)
  ·
   refine za<|e_mv rfl<|e_mv rfl<|e_mv rfl<|e_mv rfl<|zZ (x0:=((yd a).getD i 0)) 1 i rfl ye sz121 rfl rfl rfl (by first|rfl|assumption|(simp;omega)) rfl rfl (gD (d:=0) om) (fun b6 o7 hok8=> ?_)
   replace hok8:=zB.1 hok8
   refine e_ru (zv (j:=0) 0 ty121 rfl rfl rfl rfl)<|e_p (zK (z:=(((yd a).getD i 0)+1000000000)) rfl rfl (wu32 om))<|e_mv rfl<|e_p (zka (z:=((((yd a).getD i 0)+1000000000) - ((yd b).getD i 0+bo))) rfl rfl (wu32 om))<|e_p (zia (j:=i) ye sz121 rfl rfl rfl om)<|zJa 0 rfl rfl rfl (zea (j:=i) (x0:=((((yd a).getD i 0)+1000000000) - ((yd b).getD i 0+bo))) (γ0:=()) rfl rfl (by first|omega|(rw [List.length_map];omega)|(simp only [List.length_set];omega)|(simp;done)|(simp;omega)) rfl rfl sz121 (fun _ _=>by exact zB.2 om)) (fun _=> .z) (fun _ _=> ?_)
   refine e_p (zc rfl)<|zh<|zO<|zd<|za<|e_p (zK (z:=(((i+1):Nat):Int)) rfl rfl (w64 om))<|e_mv rfl<|zh<|zha ((i+1),os++[(yd a).getD i 0+1000000000 - ((yd b).getD i 0+bo)],1) (show (i+1)≤(yd a).length∧(os++[(yd a).getD i 0+1000000000 - ((yd b).getD i 0+bo)]).length=(i+1)∧0≤1∧1≤1∧yv (os++[(yd a).getD i 0+1000000000 - ((yd b).getD i 0+bo)])∧yf (os++[(yd a).getD i 0+1000000000 - ((yd b).getD i 0+bo)])+yf ((yd b).take (i+1))=yf ((yd a).take (i+1))+yA (i+1)*1 from by exact ⟨by omega,by simp [hol],by decide,by decide,yJ hok om om,Big.minus_step hol hv om⟩) (by show (yd a).length - (i+1)<(yd a).length - i;omega) ((.of rfl):SubM _ _) (ho:=((.e (i:=0) rfl (by rw [Big.set_pad hol om]) .n):PickO _ _ _)) ((.of [2,3] rfl):SelR _ _ _)
  ·
   refine za<|e_mv rfl<|e_mv rfl<|e_mv rfl<|e_mv rfl<|zZ (x0:=((yd a).getD i 0)) 1 i rfl ye sz121 rfl rfl rfl (by first|rfl|assumption|(simp;omega)) rfl rfl (gD (d:=0) om) (fun b9 o10 hok11=> ?_)
   replace hok11:=zB.1 hok11
   refine e_ru (zv (j:=0) 0 ty121 rfl rfl rfl rfl)<|e_mv rfl<|e_p (zka (z:=(((yd a).getD i 0) - ((yd b).getD i 0+bo))) rfl rfl (wu32 om))<|e_p (zia (j:=i) ye sz121 rfl rfl rfl om)<|zJa 0 rfl rfl rfl (zea (j:=i) (x0:=(((yd a).getD i 0) - ((yd b).getD i 0+bo))) (γ0:=()) rfl rfl (by first|omega|(rw [List.length_map];omega)|(simp only [List.length_set];omega)|(simp;done)|(simp;omega)) rfl rfl sz121 (fun _ _=>by exact zB.2 om)) (fun _=> .z) (fun _ _=> ?_)
   refine zh<|zO<|zd<|za<|e_p (zK (z:=(((i+1):Nat):Int)) rfl rfl (w64 om))<|e_mv rfl<|zh<|zha ((i+1),os++[(yd a).getD i 0 - ((yd b).getD i 0+bo)],0) (show (i+1)≤(yd a).length∧(os++[(yd a).getD i 0 - ((yd b).getD i 0+bo)]).length=(i+1)∧0≤0∧0≤1∧yv (os++[(yd a).getD i 0 - ((yd b).getD i 0+bo)])∧yf (os++[(yd a).getD i 0 - ((yd b).getD i 0+bo)])+yf ((yd b).take (i+1))=yf ((yd a).take (i+1))+yA (i+1)*0 from by exact ⟨by omega,by simp [hol],by decide,by decide,yJ hok om om,Big.minus_step hol hv om⟩) (by show (yd a).length - (i+1)<(yd a).length - i;omega) ((.of rfl):SubM _ _) (ho:=((.e (i:=0) rfl (by rw [Big.set_pad hol om]) .n):PickO _ _ _)) ((.of [2,3] rfl):SelR _ _ _)
 ·
  have e12:os++List.replicate ((yd a).length - i) 0=os:=by rw [show (yd a).length - i=0 by omega];simp
  rw [e12]
  have htr:yn os=yd (a - b):=Big.minus_fin hab hok hc0 hol om hv
  refine zna<|zj<|zj<|zy<|zd<|zg<|za<|e_mv rfl<|zla 0 rfl .z<|zC rfl rfl (.c rfl .n) ce134 (zyb (p:=some ⟨b1,0,none⟩) (n:=(yd a).length) (cap:=(yd a).length) (l:=os) (hn:=cbb)) (.c (j:=0) rfl .n) ?_
  rintro ⟨⟩ -
  dsimp only [aq,nq,cq]
  refine e_p (zc rfl)<|zh<|zd<|zI ?_
  exact zu Tryz.results137 ((some ⟨b1,0,none⟩),((yd a).length)) trivial (zk rfl) (by rw [htr]) (ho:=(.n:PickO _ _ _)) ((.e (j:=0) rfl (by rw [htr]) .n):SelR _ _ _)
theorem zrg {s:Bool} {t:Bool} {a:Nat} {b:Nat} {p1:Option Addr} {c1:Nat} {p2:Option Addr} {c2:Nat} (hb1:(yd a).length≤1099511627776) (hb2:(yd b).length≤1099511627776):Con yj 116 [.bool s,.slice p1 ((yd a).length) c1,.bool t,.slice p2 ((yd b).length) c2] [] [slF (rI .u32) p1 c1 (yd a),slF (rI .u32) p2 c2 (yd b)] (Y:=(Option Addr)×Nat) (fun y=>True) (fun y=> .agg #[.bool (decide ((yw s (a:Int)+yw t (b:Int))<0)),.slice (y.1) ((yd ((yw s (a:Int)+yw t (b:Int)).natAbs)).length) (y.2)]) (fun y=>[]) (fun y=>[slF (rI .u32) (y.1) (y.2) (yd ((yw s (a:Int)+yw t (b:Int)).natAbs))]):=by
 refine zl Tryz.func116 rfl rfl rfl (fun c=> ?_)
 show RunC _ _ _ _ _ [(0,.bool s),(1,.slice p1 ((yd a).length) c1),(2,.bool t),(3,.slice p2 ((yd b).length) c2)] [] [slF (rI .u32) p1 c1 (yd a),slF (rI .u32) p2 c2 (yd b)]
 refine zda 0 rfl (fun hL0=> ?_)
 refine zda 1 rfl (fun hL1=> ?_)
 refine zg<|za<|zM rfl rfl (zo zr41 rfl) (fun b1=> ?_)
 refine zh<|zd<|zg<|zA<|zg<|za<|e_mv rfl<|e_mv rfl<|e_p (zHc yB rfl rfl)<|e_p (zc rfl)<|zh<|zd<|zG rfl (fun hst=> ?_) (fun hst=> ?_)
 ·
  refine zg<|za<|e_mv rfl<|e_mv rfl<|e_mv rfl<|zC rfl rfl (.c rfl (.c rfl .n)) ce135 (zEd (a:=a) (b:=b) (p1:=p1) (c1:=c1) (p2:=p2) (c2:=c2) (hb1:=ass) (hb2:=ass)) (.c (j:=0) rfl (.c (j:=1) rfl .n)) ?_
  rintro ⟨p32,c33⟩ -
  dsimp only [aq,nq,cq]
  refine zC rfl rfl (.c rfl (.c rfl .n)) ce114 (zCa (s:=s) (a:=a+b) (p:=p32) (cap:=c33)) (.c (j:=0) rfl .n) ?_
  rintro ⟨p24,c25⟩ -
  dsimp only [aq,nq,cq]
  refine zm 0 rfl rfl rfl rfl rfl sz41 rfl (.t2 .nil) .z<|zh<|zd<|zI<|zp<|zi ?_
  have hz:yw s ((a+b:Nat):Int)=yw s (a:Int)+yw t (b:Int):=by rw [← hst];unfold yw;split <;> omega
  exact zu Tryz.results116 (p24,c25) trivial (zr 0 ty41 rfl rfl (.t2 .nil)) (by rw [hz]) (ho:=(.n:PickO _ _ _)) ((.e (j:=0) rfl (by rw [hz]) .n):SelR _ _ _)
 ·
  refine zg<|za<|e_mv rfl<|e_mv rfl<|zL rfl rfl (.c rfl (.c rfl .n)) ce136 (zXb (a:=a) (b:=b) (p1:=p1) (c1:=c1) (p2:=p2) (c2:=c2)) (.c (j:=0) rfl (.c (j:=1) rfl .n))<|e_p (zBa rfl rfl)<|e_p (zc rfl)<|zh<|zd<|zG rfl (fun hcmp=> ?_) (fun hcmp=> ?_)
  ·
   have hab:b≤a:=by have:=Big.cmp_ge.1 hcmp;omega
   refine zg<|za<|e_mv rfl<|e_mv rfl<|e_mv rfl<|zC rfl rfl (.c rfl (.c rfl .n)) ce137 (zVc (a:=a) (b:=b) (p1:=p1) (c1:=c1) (p2:=p2) (c2:=c2) (hb1:=ass) (hb2:=ass) (hab:=cbb)) (.c (j:=0) rfl (.c (j:=1) rfl .n)) ?_
   rintro ⟨p36,c37⟩ -
   dsimp only [aq,nq,cq]
   refine zC rfl rfl (.c rfl (.c rfl .n)) ce114 (zCa (s:=s) (a:=a - b) (p:=p36) (cap:=c37)) (.c (j:=0) rfl .n) ?_
   rintro ⟨p28,c29⟩ -
   dsimp only [aq,nq,cq]
   refine zm 0 rfl rfl rfl rfl rfl sz41 rfl (.t2 .nil) .z<|zh<|zd<|zI<|zp<|zi ?_
   have hz:yw s ((a - b:Nat):Int)=yw s (a:Int)+yw t (b:Int):=by revert hst;unfold yw;cases s <;> cases t <;> simp <;> omega
   exact zu Tryz.results116 (p28,c29) trivial (zr 0 ty41 rfl rfl (.t2 .nil)) (by rw [hz]) (ho:=(.n:PickO _ _ _)) ((.e (j:=0) rfl (by rw [hz]) .n):SelR _ _ _)
  ·
   have hab:a≤b:=by have:¬(b:Int)≤a:=fun h=>hcmp (Big.cmp_ge.2 h);omega
   refine zw<|zO<|zd<|zg<|za<|e_mv rfl<|e_mv rfl<|e_mv rfl<|zC rfl rfl (.c rfl (.c rfl .n)) ce137 (zVc (a:=b) (b:=a) (p1:=p2) (c1:=c2) (p2:=p1) (c2:=c1) (hb1:=ass) (hb2:=ass) (hab:=cbb)) (.c (j:=1) rfl (.c (j:=0) rfl .n)) ?_
   rintro ⟨p310,c311⟩ -
   dsimp only [aq,nq,cq]
   refine zC rfl rfl (.c rfl (.c rfl .n)) ce114 (zCa (s:=t) (a:=b - a) (p:=p310) (cap:=c311)) (.c (j:=0) rfl .n) ?_
   rintro ⟨p212,c213⟩ -
   dsimp only [aq,nq,cq]
   refine zm 0 rfl rfl rfl rfl rfl sz41 rfl (.t2 .nil) .z<|zh<|zd<|zI ?_
   have hz:yw t ((b - a:Nat):Int)=yw s (a:Int)+yw t (b:Int):=by revert hst;unfold yw;cases s <;> cases t <;> simp <;> omega
   exact zu Tryz.results116 (p212,c213) trivial (zr 0 ty41 rfl rfl (.t2 .nil)) (by rw [hz]) (ho:=(.n:PickO _ _ _)) ((.e (j:=0) rfl (by rw [hz]) .n):SelR _ _ _)
theorem zFd {a:Nat} {b:Nat} {p1:Option Addr} {c1:Nat} {p2:Option Addr} {c2:Nat} (hb1:(yd a).length≤1099511627776) (hb2:(yd b).length≤1099511627776):Con yj 118 [.slice p1 ((yd a).length) c1,.slice p2 ((yd b).length) c2] [] [slF (rI .u32) p1 c1 (yd a),slF (rI .u32) p2 c2 (yd b)] (Y:=(Option Addr)×Nat) (fun y=>True) (fun y=> .slice (y.1) ((yd (a*b)).length) (y.2)) (fun y=>[]) (fun y=>[slF (rI .u32) (y.1) (y.2) (yd (a*b))]):=by
 refine zl Tryz.func118 rfl rfl rfl (fun c=> ?_)
 show RunC _ _ _ _ _ [(0,.slice p1 ((yd a).length) c1),(1,.slice p2 ((yd b).length) c2)] [] [slF (rI .u32) p1 c1 (yd a),slF (rI .u32) p2 c2 (yd b)]
 refine zda 0 rfl (fun hL0=> ?_)
 refine zda 1 rfl (fun hL1=> ?_)
 have hoa:=yp a
 have hob:=yp b
 refine zg<|za<|e_p (zc rfl)<|zh<|zd<|zg<|za<|e_mv rfl<|e_p (zN ye rfl)<|e_mv rfl<|e_p (zN ye rfl)<|e_p (zK (z:=(((((yd a).length)+((yd b).length)):Nat):Int)) rfl rfl (w64 om))<|zIa rfl rfl (zsb (r:=rI .u32) (k:=(((yd a).length)+((yd b).length))) (x0:=0) (γ0:=()) ye inf121 rfl rfl rfl rfl om om rfl (fun g _=>by exact zB.2 dd) dd) (fun b1 _=> ?_)
 refine e_p (zc rfl)<|zh<|zd<|zg<|zg<|za<|e_mv rfl<|e_p (zN ye rfl)<|e_mv rfl<|zh<|zd<|zA<|zpa (X:=Nat×(List Int)) (fun x:Nat×(List Int)=>x.1≤(yd a).length∧x.2.length=(yd a).length+(yd b).length∧yv x.2∧(∀k,x.1+(yd b).length≤k→x.2.getD k 0=0)∧yf x.2=yf ((yd a).take x.1)*yf (yd b)) (fun x=>[(20,ya yb ((x.1:Nat):Int)),(19,ya yb (((yd a).length:Nat):Int)),(18,.slice p1 ((yd a).length) c1),(5,.slice (some ⟨b1,0,none⟩) (((yd a).length)+((yd b).length)) (((yd a).length)+((yd b).length))),(4,.slice none 0 0),(1,.slice p2 ((yd b).length) c2)]) (fun x=>[rowA 121 (rI .u32) (some ⟨b1,0,none⟩) (((yd a).length)+((yd b).length)) (x.2)]) (fun x=>[slF (rI .u32) p1 c1 (yd a),slF (rI .u32) p2 c2 (yd b)]) (fun x:Nat×(List Int)=>(yd a).length - x.1) (0,List.replicate ((yd a).length+(yd b).length) 0) (show 0≤(yd a).length∧(List.replicate ((yd a).length+(yd b).length) 0).length=(yd a).length+(yd b).length∧yv (List.replicate ((yd a).length+(yd b).length) 0)∧(∀k,0+(yd b).length≤k→(List.replicate ((yd a).length+(yd b).length) 0).getD k 0=0)∧yf (List.replicate ((yd a).length+(yd b).length) 0)=yf ((yd a).take 0)*yf (yd b) from by exact ⟨by omega,by simp,Big.okL_zeros _,fun k _=>Big.getD_zeros _ k,by simp [Big.valL_zeros,yf]⟩) ((.e rfl (by first|rfl|(congr 1;omega)|simp_all) (.of rfl)):SubM _ _) (ho:=((.e (i:=0) rfl (by first|rfl|(congr 1;omega)|simp_all) .n):PickO _ _ _)) ((.of [0,1] rfl):SelR _ _ _) ?_
 rintro ⟨i,os⟩ hI
 replace hI:i≤(yd a).length∧os.length=(yd a).length+(yd b).length∧yv os∧(∀k,i+(yd b).length≤k→os.getD k 0=0)∧yf os=yf ((yd a).take i)*yf (yd b):=hI
 try dsimp only
 obtain ⟨hi,hol,hok,hz,hv⟩:=hI
 have hg1:=ym hoa i
 refine zg<|za<|e_p (zba rfl rfl)<|zh<|zd<|zg<|zG rfl (fun h2=> ?_) (fun h2=> ?_)
 ·
  refine zw<|zd<|zg<|zA<|zg<|za<|e_mv rfl<|zZ (x0:=((yd a).getD i 0)) 0 i rfl ye sz121 rfl rfl rfl (by first|rfl|assumption|(simp;omega)|omega) rfl rfl (gD (d:=0) om) (fun b3 o4 hok5=> ?_)
  replace hok5:=zB.1 hok5
  refine e_ru (zv (j:=0) 0 ty121 rfl rfl rfl rfl)<|e_p (zc rfl)<|e_p (zc rfl)<|zh<|zd<|zg<|za<|e_p (zc rfl)<|zh<|zd<|zg<|zg<|za<|e_mv rfl<|e_p (zN ye rfl)<|e_mv rfl<|zh<|zd<|zA<|zpa (X:=Nat×(List Int)×Int) (fun x:Nat×(List Int)×Int=>x.1≤(yd b).length∧x.2.1.length=(yd a).length+(yd b).length∧yv x.2.1∧0≤x.2.2∧x.2.2<1000000000∧(∀k,i+(yd b).length≤k→x.2.1.getD k 0=0)∧yf x.2.1+yA (i+x.1)*x.2.2=yf ((yd a).take i)*yf (yd b)+yA i*(yd a).getD i 0*yf ((yd b).take x.1)) (fun x=>[(8,.int .u64 (x.2.2)),(27,ya yb ((x.1:Nat):Int)),(26,ya yb (((yd b).length:Nat):Int)),(25,.slice p2 ((yd b).length) c2),(7,.int .u32 ((yd a).getD i 0)),(6,ya yb ((i:Nat):Int)),(20,ya yb ((i:Nat):Int)),(19,ya yb (((yd a).length:Nat):Int)),(18,.slice p1 ((yd a).length) c1),(5,.slice (some ⟨b1,0,none⟩) (((yd a).length)+((yd b).length)) (((yd a).length)+((yd b).length))),(4,.slice none 0 0),(1,.slice p2 ((yd b).length) c2)]) (fun x=>[rowA 121 (rI .u32) (some ⟨b1,0,none⟩) (((yd a).length)+((yd b).length)) (x.2.1)]) (fun x=>[atF b3 o4 [.int .u32 ((yd a).getD i 0)],slF (rI .u32) p1 c1 (yd a),slF (rI .u32) p2 c2 (yd b)]) (fun x:Nat×(List Int)×Int=>(yd b).length - x.1) (0,os,0) (show 0≤(yd b).length∧os.length=(yd a).length+(yd b).length∧yv os∧0≤0∧0<1000000000∧(∀k,i+(yd b).length≤k→os.getD k 0=0)∧yf os+yA (i+0)*0=yf ((yd a).take i)*yf (yd b)+yA i*(yd a).getD i 0*yf ((yd b).take 0) from by exact ⟨by omega,hol,hok,by decide,by decide,hz,by rw [hv];simp [yf]⟩) ((.c rfl (.e rfl (by first|rfl|(congr 1;omega)|simp_all) (.of rfl))):SubM _ _) (ho:=((.c (i:=0) rfl .n):PickO _ _ _)) ((.of [0,1,2] rfl):SelR _ _ _) ?_
  rintro ⟨j,os2,cy⟩ hJ
  replace hJ:j≤(yd b).length∧os2.length=(yd a).length+(yd b).length∧yv os2∧0≤cy∧cy<1000000000∧(∀k,i+(yd b).length≤k→os2.getD k 0=0)∧yf os2+yA (i+j)*cy=yf ((yd a).take i)*yf (yd b)+yA i*(yd a).getD i 0*yf ((yd b).take j):=hJ
  try dsimp only
  obtain ⟨hj,hol2,hok2,hcy0,hcy1,hz2,hv2⟩:=hJ
  have hg2:=ym hob j
  have hg3:=ym hok2 (i+j)
  have hpq:=Big.mul_lim hg1 hg2
  refine zg<|za<|e_p (zba rfl rfl)<|zh<|zd<|zg<|zG rfl (fun h6=> ?_) (fun h6=> ?_)
  ·
   refine zw<|zd<|zg<|zA<|zg<|za<|e_mv rfl<|zZ (x0:=((yd b).getD j 0)) 2 j rfl ye sz121 rfl rfl rfl (by first|rfl|assumption|(simp;omega)|omega) rfl rfl (gD (d:=0) om) (fun b7 o8 hok9=> ?_)
   replace hok9:=zB.1 hok9
   refine e_ru (zv (j:=0) 0 ty121 rfl rfl rfl rfl)<|e_p (zc rfl)<|e_p (zc rfl)<|zh<|zd<|zg<|za<|e_mv rfl<|e_mv rfl<|e_mv rfl<|e_p (zK (z:=(((i+j):Nat):Int)) rfl rfl (w64 om))<|e_p (zia (j:=(i+j)) ye sz121 rfl rfl rfl om)<|r_vl rfl rfl (zja 0 (i+j) rfl ty121 rfl rfl (gD (d:=0) om) rfl) (fun _ hok10=> ?_)
   replace hok10:=zB.1 hok10
   refine e_p (zE (z:=(os2.getD (i+j) 0)) rfl (by rw [yg];rfl) yh (wu64 om))<|e_mv rfl<|e_p (zE (z:=((yd a).getD i 0)) rfl (by rw [yg];rfl) yh (wu64 om))<|e_mv rfl<|e_p (zE (z:=((yd b).getD j 0)) rfl (by rw [yg];rfl) yh (wu64 om))<|e_p (zFa (z:=(((yd a).getD i 0)*((yd b).getD j 0))) rfl rfl (wu64 om))<|e_p (zK (z:=((os2.getD (i+j) 0)+(((yd a).getD i 0)*((yd b).getD j 0)))) rfl rfl (wu64 om))<|e_mv rfl<|e_p (zK (z:=(((os2.getD (i+j) 0)+(((yd a).getD i 0)*((yd b).getD j 0)))+cy)) rfl rfl (wu64 om))<|e_p (zc rfl)<|zh<|zd<|za<|e_mv rfl<|e_mv rfl<|e_mv rfl<|e_p (zK (z:=(((i+j):Nat):Int)) rfl rfl (w64 om))<|e_mv rfl<|e_p (zxa (z:=((((os2.getD (i+j) 0)+(((yd a).getD i 0)*((yd b).getD j 0)))+cy)%1000000000)) rfl rfl om (remN om om))<|e_p (zE (z:=((((os2.getD (i+j) 0)+(((yd a).getD i 0)*((yd b).getD j 0)))+cy)%1000000000)) rfl (by rw [yh];rfl) yg (wu32 om))<|e_mv rfl<|e_p (zjb (z:=((((os2.getD (i+j) 0)+(((yd a).getD i 0)*((yd b).getD j 0)))+cy) / 1000000000)) rfl rfl om (by rw [quoN (z:=((((os2.getD (i+j) 0)+(((yd a).getD i 0)*((yd b).getD j 0)))+cy) / 1000000000)) om om];exact wu64 om))<|e_p (zia (j:=(i+j)) ye sz121 rfl rfl rfl om)<|zJa 0 rfl rfl rfl (zea (j:=(i+j)) (x0:=((((os2.getD (i+j) 0)+(((yd a).getD i 0)*((yd b).getD j 0)))+cy)%1000000000)) (γ0:=()) rfl rfl (by first|omega|(rw [List.length_map];omega)|(simp only [List.length_set];omega)|(simp;done)|(simp;omega)) rfl rfl sz121 (fun _ _=>by exact zB.2 om)) (fun _=> .z) (fun _ _=> ?_)
   refine e_p (zc rfl)<|zh<|zO<|zd<|za<|e_p (zK (z:=(((j+1):Nat):Int)) rfl rfl (w64 om))<|e_mv rfl<|zh<|zha ((j+1),os2.set (i+j) ((os2.getD (i+j) 0+(yd a).getD i 0*(yd b).getD j 0+cy)%1000000000),(os2.getD (i+j) 0+(yd a).getD i 0*(yd b).getD j 0+cy) / 1000000000) (show (j+1)≤(yd b).length∧(os2.set (i+j) ((os2.getD (i+j) 0+(yd a).getD i 0*(yd b).getD j 0+cy)%1000000000)).length=(yd a).length+(yd b).length∧yv (os2.set (i+j) ((os2.getD (i+j) 0+(yd a).getD i 0*(yd b).getD j 0+cy)%1000000000))∧0≤((os2.getD (i+j) 0+(yd a).getD i 0*(yd b).getD j 0+cy) / 1000000000)∧((os2.getD (i+j) 0+(yd a).getD i 0*(yd b).getD j 0+cy) / 1000000000)<1000000000∧(∀k,i+(yd b).length≤k→(os2.set (i+j) ((os2.getD (i+j) 0+(yd a).getD i 0*(yd b).getD j 0+cy)%1000000000)).getD k 0=0)∧yf (os2.set (i+j) ((os2.getD (i+j) 0+(yd a).getD i 0*(yd b).getD j 0+cy)%1000000000))+yA (i+(j+1))*((os2.getD (i+j) 0+(yd a).getD i 0*(yd b).getD j 0+cy) / 1000000000)=yf ((yd a).take i)*yf (yd b)+yA i*(yd a).getD i 0*yf ((yd b).take (j+1)) from by exact ⟨by omega,by simpa using hol2,yN hok2 om om,by omega,by omega,fun k hk=>by rw [yH om];exact hz2 k om,Big.mul_step hv2 om om⟩) (by show (yd b).length - (j+1)<(yd b).length - j;omega) ((.e rfl (by first|rfl|(congr 1;omega)|simp_all) (.of rfl)):SubM _ _) (ho:=((.e (i:=0) rfl (by first|rfl|(congr 1;omega)|simp_all) .n):PickO _ _ _)) ((.of [1,2,3] rfl):SelR _ _ _)
  ·
   have hjb:j=(yd b).length:=by omega
   subst hjb
   have hv3:=hv2
   refine zna<|zj<|zj<|zy<|zd<|za<|e_mv rfl<|e_mv rfl<|e_mv rfl<|e_p (zN ye rfl)<|e_p (zK (z:=(((i+((yd b).length)):Nat):Int)) rfl rfl (w64 om))<|e_mv rfl<|e_p (zE (z:=cy) rfl (by rw [yh];rfl) yg (wu32 om))<|e_p (zia (j:=(i+((yd b).length))) ye sz121 rfl rfl rfl om)<|zJa 0 rfl rfl rfl (zea (j:=(i+((yd b).length))) (x0:=cy) (γ0:=()) rfl rfl (by first|omega|(rw [List.length_map];omega)|(simp only [List.length_set];omega)|(simp;done)|(simp;omega)) rfl rfl sz121 (fun _ _=>by exact zB.2 om)) (fun _=> .z) (fun _ _=> ?_)
   refine zh<|zO<|zd<|za<|e_p (zK (z:=(((i+1):Nat):Int)) rfl rfl (w64 om))<|e_mv rfl<|zh<|zha ((i+1),os2.set (i+(yd b).length) cy) (show (i+1)≤(yd a).length∧(os2.set (i+(yd b).length) cy).length=(yd a).length+(yd b).length∧yv (os2.set (i+(yd b).length) cy)∧(∀k,(i+1)+(yd b).length≤k→(os2.set (i+(yd b).length) cy).getD k 0=0)∧yf (os2.set (i+(yd b).length) cy)=yf ((yd a).take (i+1))*yf (yd b) from by exact ⟨by omega,by simpa using hol2,yN hok2 om om,fun k hk=>by rw [yH om];exact hz2 k om,Big.mul_round hv3 om (hz2 _ (Nat.le_refl _))⟩) (by show (yd a).length - (i+1)<(yd a).length - i;omega) ((.of rfl):SubM _ _) (ho:=((.e (i:=0) rfl (by first|rfl|(congr 1;omega)|simp_all) .n):PickO _ _ _)) ((.of [1,2] rfl):SelR _ _ _)
 ·
  have hia:i=(yd a).length:=by omega
  have hfin:yn os=yd (a*b):=Big.trimL_of hok (by rw [hv,hia,List.take_length,yz,yz,Int.natCast_mul])
  refine zna<|zj<|zj<|zy<|zd<|zg<|za<|e_mv rfl<|zla 0 rfl .z<|zC rfl rfl (.c rfl .n) ce134 (zyb (p:=some ⟨b1,0,none⟩) (n:=(((yd a).length)+((yd b).length))) (cap:=(((yd a).length)+((yd b).length))) (l:=os) (hn:=cbb)) (.c (j:=0) rfl .n) ?_
  rintro ⟨⟩ -
  dsimp only [aq,nq,cq]
  refine e_p (zc rfl)<|zh<|zd<|zI ?_
  exact zu Tryz.results118 ((some ⟨b1,0,none⟩),(((yd a).length)+((yd b).length))) trivial (zk rfl) (by rw [hfin]) (ho:=(.n:PickO _ _ _)) ((.e (j:=0) rfl (by rw [hfin]) .n):SelR _ _ _)
theorem zse {s:Bool} {p:Option Addr} {n:Nat} {cap:Nat} {l:List Int} (hn:l.length=n):Con yj 120 [.agg #[.bool s,.slice p n cap]] [] [slF (rI .u32) p cap l] (Y:=Unit) (fun y=>True) (fun y=> ya yb ((yk s l).sign)) (fun y=>[]) (fun y=>[]):=by
 refine zl Tryz.func120 rfl rfl rfl (fun c=> ?_)
 show RunC _ _ _ _ _ [(0,.agg #[.bool s,.slice p n cap])] [] [slF (rI .u32) p cap l]
 refine zda 0 rfl (fun hL0=> ?_)
 refine zTa 0 rfl (fun hE0=> ?_)
 have hnn:yK l:=fun g hg=>(zB.1 (hE0 g hg)).1
 refine zg<|za<|zM rfl rfl (zS rfl rfl) (fun b1=> ?_)
 refine e_p (zc rfl)<|zh<|zd<|zg<|zA<|zg<|za<|e_ru (zb 0 ty41 rfl rfl (.t2 .nil))<|zC rfl rfl (.c rfl .n) ce117 (zQa (s:=s) (p:=p) (n:=n) (cap:=cap) (l:=l) (hn:=ass)) (.c (j:=0) rfl .n) ?_
 rintro ⟨p22,c23⟩ -
 dsimp only [aq,nq,cq]
 refine e_p (zN ye rfl)<|e_p (zDa rfl rfl)<|e_p (zc rfl)<|zh<|zd<|zG rfl (fun h0=> ?_) (fun h0=> ?_)
 ·
  refine zg<|za<|e_p (zc rfl)<|zh<|zd<|zI<|zp<|zi ?_
  exact zu Tryz.results120 () trivial (zk rfl) (by rw [show yk s l=0 by have:=yF.1 (show (yd (yk s l).natAbs).length=0 by omega);omega];rfl) (ho:=(.n:PickO _ _ _)) (.n:SelR _ _ _)
 ·
  refine zg<|za<|e_p (zf yl rfl sz4 rfl rfl)<|e_ru (ze 0 ty4 rfl rfl rfl)<|e_p (zc rfl)<|zh<|zd<|zXa rfl (fun hs=> ?_) (fun hs=> ?_)
  ·
   refine zg<|za<|e_p (zc rfl)<|zh<|zd<|zI<|zp<|zi ?_
   exact zu Tryz.results120 () trivial (zk rfl) (by rw [Big.sign_neg hnn hs (by intro e;rw [e] at h0;exact h0 rfl)]) (ho:=(.n:PickO _ _ _)) (.n:SelR _ _ _)
  ·
   refine zw<|zO<|zd<|zg<|za<|e_p (zc rfl)<|zh<|zd<|zI ?_
   exact zu Tryz.results120 () trivial (zk rfl) (by rw [Big.sign_pos hnn hs (by intro e;rw [e] at h0;exact h0 rfl)]) (ho:=(.n:PickO _ _ _)) (.n:SelR _ _ _)
theorem zWc {z:Int} {p:Option Addr} {cap:Nat}:Con yj 120 [.agg #[.bool (decide ((z)<0)),.slice (p) ((yd ((z).natAbs)).length) (cap)]] [] [slF (rI .u32) (p) (cap) (yd ((z).natAbs))] (Y:=Unit) (fun y=>True) (fun y=> ya yb ((z).sign)) (fun y=>[]) (fun y=>[]):=by
  have h:= @zse (decide ((z)<0)) p (yd (z).natAbs).length cap (yd (z).natAbs) rfl
  rw [yt] at h
  exact h
theorem zXc {w1:Wd} {x1:Int}:Con yj 120 [.agg #[w1.b,w1.l]] [] [zF w1 (x1)] (Y:=Unit) (fun y=>True) (fun y=> ya yb ((x1).sign)) (fun y=>[]) (fun y=>[]):=by
  exact zqe (fun p c=>zWc)
theorem zsg {s:Bool} {p1:Option Addr} {n1:Nat} {c1:Nat} {l1:List Int} {t:Bool} {p2:Option Addr} {n2:Nat} {c2:Nat} {l2:List Int} (hn1:l1.length=n1) (hn2:l2.length=n2) (hb1:yx (yk s l1)≤1099511627776) (hb2:yx (yk t l2)≤1099511627776):Con yj 85 [.agg #[.bool s,.slice p1 n1 c1],.agg #[.bool t,.slice p2 n2 c2]] [] [slF (rI .u32) p1 c1 l1,slF (rI .u32) p2 c2 l2] (Y:=(Option Addr)×Nat) (fun y=>True) (fun y=> .agg #[.bool (decide ((yk s l1+yk t l2)<0)),.slice (y.1) ((yd ((yk s l1+yk t l2).natAbs)).length) (y.2)]) (fun y=>[]) (fun y=>[slF (rI .u32) (y.1) (y.2) (yd ((yk s l1+yk t l2).natAbs))]):=by
 refine zl Tryz.func85 rfl rfl rfl (fun c=> ?_)
 show RunC _ _ _ _ _ [(0,.agg #[.bool s,.slice p1 n1 c1]),(1,.agg #[.bool t,.slice p2 n2 c2])] [] [slF (rI .u32) p1 c1 l1,slF (rI .u32) p2 c2 l2]
 refine zda 0 rfl (fun hL0=> ?_)
 refine zTa 0 rfl (fun hE0=> ?_)
 refine zda 1 rfl (fun hL1=> ?_)
 refine zTa 1 rfl (fun hE1=> ?_)
 have hnn1:yK l1:=fun g hg=>(zB.1 (hE0 g hg)).1
 have hnn2:yK l2:=fun g hg=>(zB.1 (hE1 g hg)).1
 refine zg<|za<|zM rfl rfl (zS rfl rfl) (fun b1=> ?_)
 refine zM rfl rfl (zS rfl rfl) (fun b2=> ?_)
 refine zM rfl rfl (zo zr41 rfl) (fun b3=> ?_)
 refine zh<|zd<|zg<|zY (OW:=[boxA b3 41 [wz.b,wz.l]]) (O:=[boxA b2 41 [.bool t,.slice p2 n2 c2],boxA b1 41 [.bool s,.slice p1 n1 c1]]) 9 mixed (.then .ret) kr<|e_pv 0 rfl rfl (zf yl rfl sz4 rfl rfl)<|e_uw 1 rfl rfl (ze 2 ty4 rfl rfl rfl)<|e_uw 2 rfl rfl (zb 2 ty41 rfl rfl (.t2 .nil))<|e_pv 4 rfl rfl (zf yl rfl sz4 rfl rfl)<|e_uw 5 rfl rfl (ze 1 ty4 rfl rfl rfl)<|e_uw 6 rfl rfl (zb 1 ty41 rfl rfl (.t2 .nil))<|e_one 3 (zx rfl rfl rfl rfl (.c rfl .n) ce117 (zQa (s:=s) (p:=p1) (n:=n1) (cap:=c1) (l:=l1) (hn:=ass)) (.c (j:=0) rfl .n) ?_)
 rintro ⟨p24,c25⟩ -
 dsimp only [aq,nq,cq]
 refine e_one 7 (zx rfl rfl rfl rfl (.c rfl .n) ce117 (zQa (s:=t) (p:=p2) (n:=n2) (cap:=c2) (l:=l2) (hn:=ass)) (.c (j:=2) rfl .n) ?_)
 rintro ⟨p26,c27⟩ -
 dsimp only [aq,nq,cq]
 refine e_one 8 (zx rfl rfl rfl rfl (.c rfl (.c rfl (.c rfl (.c rfl .n)))) ce116 (zrg (s:=s) (t:=t) (a:=(yk s l1).natAbs) (b:=(yk t l2).natAbs) (p1:=p24) (c1:=c25) (p2:=p26) (c2:=c27) (hb1:=cbb) (hb2:=cbb)) (.c (j:=1) rfl (.c (j:=0) rfl .n)) ?_)
 rintro ⟨p38,c39⟩ -
 dsimp only [aq,nq,cq]
 refine e_one 9 (zq kr rfl rfl rfl rfl rfl sz41 rfl (.t2 .nil) ?_)
 refine zU kr<|zd<|zI ?_
 have hz:yw s ((yk s l1).natAbs:Int)+yw t ((yk t l2).natAbs:Int)=yk s l1+yk t l2:=by rw [yQ hnn1,yQ hnn2]
 exact zu Tryz.results85 (p38,c39) trivial (zr 0 ty41 rfl rfl (.t2 .nil)) (by rw [hz]) (ho:=(.n:PickO _ _ _)) ((.e (j:=0) rfl (by rw [hz]) .n):SelR _ _ _)
theorem zRf {x1:Int} {x2:Int} {p1:Option Addr} {c1:Nat} {p2:Option Addr} {c2:Nat} (hb1:yx x1≤1099511627776) (hb2:yx x2≤1099511627776):Con yj 85 [.agg #[.bool (decide ((x1)<0)),.slice (p1) ((yd ((x1).natAbs)).length) (c1)],.agg #[.bool (decide ((x2)<0)),.slice (p2) ((yd ((x2).natAbs)).length) (c2)]] [] [slF (rI .u32) (p1) (c1) (yd ((x1).natAbs)),slF (rI .u32) (p2) (c2) (yd ((x2).natAbs))] (Y:=(Option Addr)×(Nat)) (fun y=>True) (fun y=> .agg #[.bool (decide ((x1+x2)<0)),.slice (y.1) ((yd ((x1+x2).natAbs)).length) (y.2)]) (fun y=>[]) (fun y=>[slF (rI .u32) (y.1) (y.2) (yd ((x1+x2).natAbs))]):=by
  have h:= @zsg (decide ((x1)<0)) p1 (yd (x1).natAbs).length c1 (yd (x1).natAbs) (decide ((x2)<0)) p2 (yd (x2).natAbs).length c2 (yd (x2).natAbs) rfl rfl (by rw [yt];exact hb1) (by rw [yt];exact hb2)
  rw [yt,yt] at h
  exact h
theorem zSf {w1:Wd} {w2:Wd} {x1:Int} {x2:Int} (hb1:yx x1≤1099511627776) (hb2:yx x2≤1099511627776):Con yj 85 [.agg #[w1.b,w1.l],.agg #[w2.b,w2.l]] [] [zF w1 (x1),zF w2 (x2)] (Y:=(Wd)) (fun y=>True) (fun y=> .agg #[y.b,y.l]) (fun y=>[]) (fun y=>[zF y (x1+x2)]):=by
  exact zUb (zCc (fun p1 c1 p2 c2=>zRf hb1 hb2))
theorem ztg {s:Bool} {p1:Option Addr} {n1:Nat} {c1:Nat} {l1:List Int} {t:Bool} {p2:Option Addr} {n2:Nat} {c2:Nat} {l2:List Int} (hn1:l1.length=n1) (hn2:l2.length=n2) (hb1:yx (yk s l1)≤1099511627776) (hb2:yx (yk t l2)≤1099511627776):Con yj 86 [.agg #[.bool s,.slice p1 n1 c1],.agg #[.bool t,.slice p2 n2 c2]] [] [slF (rI .u32) p1 c1 l1,slF (rI .u32) p2 c2 l2] (Y:=(Option Addr)×Nat) (fun y=>True) (fun y=> .agg #[.bool (decide ((yk s l1*yk t l2)<0)),.slice (y.1) ((yd ((yk s l1*yk t l2).natAbs)).length) (y.2)]) (fun y=>[]) (fun y=>[slF (rI .u32) (y.1) (y.2) (yd ((yk s l1*yk t l2).natAbs))]):=by
 refine zl Tryz.func86 rfl rfl rfl (fun c=> ?_)
 show RunC _ _ _ _ _ [(0,.agg #[.bool s,.slice p1 n1 c1]),(1,.agg #[.bool t,.slice p2 n2 c2])] [] [slF (rI .u32) p1 c1 l1,slF (rI .u32) p2 c2 l2]
 refine zda 0 rfl (fun hL0=> ?_)
 refine zTa 0 rfl (fun hE0=> ?_)
 refine zda 1 rfl (fun hL1=> ?_)
 refine zTa 1 rfl (fun hE1=> ?_)
 have hnn1:yK l1:=fun g hg=>(zB.1 (hE0 g hg)).1
 have hnn2:yK l2:=fun g hg=>(zB.1 (hE1 g hg)).1
 refine zg<|za<|zM rfl rfl (zS rfl rfl) (fun b1=> ?_)
 refine zM rfl rfl (zS rfl rfl) (fun b2=> ?_)
 refine zM rfl rfl (zo zr41 rfl) (fun b3=> ?_)
 refine zh<|zd<|zg<|zY (OW:=[boxA b3 41 [wz.b,wz.l]]) (O:=[boxA b2 41 [.bool t,.slice p2 n2 c2],boxA b1 41 [.bool s,.slice p1 n1 c1]]) 11 mixed (.then .ret) kr<|e_pv 0 rfl rfl (zf yl rfl sz4 rfl rfl)<|e_uw 1 rfl rfl (ze 2 ty4 rfl rfl rfl)<|e_pv 2 rfl rfl (zf yl rfl sz4 rfl rfl)<|e_uw 3 rfl rfl (ze 1 ty4 rfl rfl rfl)<|e_pv 4 rfl rfl (zOa yB rfl rfl)<|e_uw 5 rfl rfl (zb 2 ty41 rfl rfl (.t2 .nil))<|e_uw 7 rfl rfl (zb 1 ty41 rfl rfl (.t2 .nil))<|e_one 6 (zx rfl rfl rfl rfl (.c rfl .n) ce117 (zQa (s:=s) (p:=p1) (n:=n1) (cap:=c1) (l:=l1) (hn:=ass)) (.c (j:=0) rfl .n) ?_)
 rintro ⟨p24,c25⟩ -
 dsimp only [aq,nq,cq]
 refine e_one 8 (zx rfl rfl rfl rfl (.c rfl .n) ce117 (zQa (s:=t) (p:=p2) (n:=n2) (cap:=c2) (l:=l2) (hn:=ass)) (.c (j:=2) rfl .n) ?_)
 rintro ⟨p26,c27⟩ -
 dsimp only [aq,nq,cq]
 refine e_one 9 (zx rfl rfl rfl rfl (.c rfl (.c rfl .n)) ce118 (zFd (a:=(yk s l1).natAbs) (b:=(yk t l2).natAbs) (p1:=p24) (c1:=c25) (p2:=p26) (c2:=c27) (hb1:=cbb) (hb2:=cbb)) (.c (j:=1) rfl (.c (j:=0) rfl .n)) ?_)
 rintro ⟨p38,c39⟩ -
 dsimp only [aq,nq,cq]
 refine e_one 10 (zx rfl rfl rfl rfl (.c rfl (.c rfl .n)) ce114 (zCa (s:=decide (s≠t)) (a:=((yk s l1).natAbs)*((yk t l2).natAbs)) (p:=p38) (cap:=c39)) (.c (j:=0) rfl .n) ?_)
 rintro ⟨p210,c211⟩ -
 dsimp only [aq,nq,cq]
 refine e_one 11 (zq kr rfl rfl rfl rfl rfl sz41 rfl (.t2 .nil) ?_)
 refine zU kr<|zd<|zI ?_
 have hz:yw (decide (s≠t)) (((yk s l1).natAbs*(yk t l2).natAbs:Nat):Int)=yk s l1*yk t l2:=by rw [Big.sg_mul,yQ hnn1,yQ hnn2]
 exact zu Tryz.results86 (p210,c211) trivial (zr 0 ty41 rfl rfl (.t2 .nil)) (by rw [hz]) (ho:=(.n:PickO _ _ _)) ((.e (j:=0) rfl (by rw [hz]) .n):SelR _ _ _)
theorem zTf {x1:Int} {x2:Int} {p1:Option Addr} {c1:Nat} {p2:Option Addr} {c2:Nat} (hb1:yx x1≤1099511627776) (hb2:yx x2≤1099511627776):Con yj 86 [.agg #[.bool (decide ((x1)<0)),.slice (p1) ((yd ((x1).natAbs)).length) (c1)],.agg #[.bool (decide ((x2)<0)),.slice (p2) ((yd ((x2).natAbs)).length) (c2)]] [] [slF (rI .u32) (p1) (c1) (yd ((x1).natAbs)),slF (rI .u32) (p2) (c2) (yd ((x2).natAbs))] (Y:=(Option Addr)×(Nat)) (fun y=>True) (fun y=> .agg #[.bool (decide ((x1*x2)<0)),.slice (y.1) ((yd ((x1*x2).natAbs)).length) (y.2)]) (fun y=>[]) (fun y=>[slF (rI .u32) (y.1) (y.2) (yd ((x1*x2).natAbs))]):=by
  have h:= @ztg (decide ((x1)<0)) p1 (yd (x1).natAbs).length c1 (yd (x1).natAbs) (decide ((x2)<0)) p2 (yd (x2).natAbs).length c2 (yd (x2).natAbs) rfl rfl (by rw [yt];exact hb1) (by rw [yt];exact hb2)
  rw [yt,yt] at h
  exact h
theorem zAb {w1:Wd} {w2:Wd} {x1:Int} {x2:Int} (hb1:yx x1≤1099511627776) (hb2:yx x2≤1099511627776):Con yj 86 [.agg #[w1.b,w1.l],.agg #[w2.b,w2.l]] [] [zF w1 (x1),zF w2 (x2)] (Y:=(Wd)) (fun y=>True) (fun y=> .agg #[y.b,y.l]) (fun y=>[]) (fun y=>[zF y (x1*x2)]):=by
  exact zUb (zCc (fun p1 c1 p2 c2=>zTf hb1 hb2))
end Go.Proofs.YtjcpbhlijoigfaaGreat.Sp
namespace Go.Proofs.YtjcpbhlijoigfaaGreat.Sp
open Go
set_option linter.unusedVariables false
set_option maxRecDepth 100000
set_option maxHeartbeats 8000000
theorem zug {p:Option Addr} {n:Nat} {cap:Nat} {l:List Int} (hn:l.length=n) (hb:n≤2199023255552):Con yj 153 [.slice p n cap] [] [slF (rI .u32) p cap l] (Y:=(Option Addr)×Nat) (fun y=>True) (fun y=> .slice (y.1) (l.length) (y.2)) (fun y=>[]) (fun y=>[slF (rI .u32) (y.1) (y.2) l]):=by
 refine zl Tryz.func153 rfl rfl rfl (fun c=> ?_)
 show RunC _ _ _ _ _ [(0,.slice p n cap)] [] [slF (rI .u32) p cap l]
 refine zda 0 rfl (fun hL0=> ?_)
 refine c_nil 0 rfl (fun hnil=> ?_)
 refine zg<|za<|e_p (zc rfl)<|zh<|zd<|zg<|zg<|za<|e_mv rfl<|e_p (zAd ye rfl rfl)<|zh<|zd<|zXa rfl (fun h0=> ?_) (fun h0=> ?_)
 ·
  refine zg<|za<|e_p (zc rfl)<|zh<|zd<|zI<|zi ?_
  obtain rfl:l=[]:=hnil (by simpa using h0)
  refine zzd (rI .u32) ?_
  exact zu Tryz.results153 (none,0) trivial (zk rfl) rfl (ho:=(.n:PickO _ _ _)) ((.c (j:=0) rfl .n):SelR _ _ _)
 ·
  refine zw<|zd<|zg<|za<|zIa rfl rfl (zwa (rI .u32) ye inf121) (fun b1 _=> ?_)
  refine e_mv rfl<|zJa 0 rfl rfl rfl (zua 0 rfl ye inf121 dd rfl rfl cbs rfl cbs (by first|omega|(simp;omega)) (by first|omega|(simp;omega))) (fun _=> .z) ?_
  rintro ⟨p2,c3⟩ -
  dsimp only [aq,nq,cq]
  refine e_p (zc rfl)<|zh<|zd<|zI<|zOb 0 rfl .z ?_
  exact zu Tryz.results153 (p2,c3) trivial (zk rfl) (by simp [hn]) (ho:=(.n:PickO _ _ _)) ((.c (j:=0) rfl .n):SelR _ _ _)
theorem znd {a:Nat} {p:Option Addr} {cap:Nat} (hb:(yd (a)).length≤2199023255552):Con yj 153 [.slice (p) ((yd (a)).length) (cap)] [] [slF (rI .u32) (p) (cap) (yd (a))] (Y:=(Option Addr)×(Nat)) (fun y=>True) (fun y=> .slice (y.1) ((yd (a)).length) (y.2)) (fun y=>[]) (fun y=>[slF (rI .u32) (y.1) (y.2) (yd (a))]):=by
  exact zug rfl hb
theorem zEc {a:Nat} {p:Option Addr} {cap:Nat}:Con yj 154 [.slice p ((yd a).length) cap] [] [slF (rI .u32) p cap (yd a)] (Y:=Unit) (fun y=>True) (fun y=> .tuple #[.int .u64 (((if (yd a).length≤2 then a else 0):Nat):Int),.bool (decide ((yd a).length≤2))]) (fun y=>[]) (fun y=>[]):=by
 refine zoc Tryz.func154 rfl rfl rfl (fun c=> ?_)
 show RunC _ _ _ _ _ [(0,.slice p ((yd a).length) cap)] [] [slF (rI .u32) p cap (yd a)]
 refine zda 0 rfl (fun hL0=> ?_)
 refine zg<|za<|e_p (zc rfl)<|e_p (zc rfl)<|zh<|zd<|zg<|zg<|za<|e_mv rfl<|e_p (zN ye rfl)<|e_p (zAa rfl rfl)<|zh<|zd<|zG rfl (fun hgt=> ?_) (fun hgt=> ?_)
 ·
  refine zg<|za<|e_p (zc rfl)<|e_p (zc rfl)<|zh<|zd<|zI<|zi<|zWe ?_
  exact zza Tryz.results154 () trivial (zk rfl) (zk rfl) (by rw [if_neg om,decide_eq_false (show ¬(yd a).length≤2 by omega)];rfl) (ho:=(.n:PickO _ _ _)) (.n:SelR _ _ _)
 ·
  have hle:(yd a).length≤2:=by omega
  have h18:=yR hle
  refine zw<|zd<|zg<|za<|zM rfl rfl (zo zr120 rfl) (fun b1=> ?_)
  refine zm 0 rfl rfl rfl rfl rfl sz120 rfl (.take .nil) .z<|zh<|zd<|zg<|zg<|za<|e_mv rfl<|zC rfl rfl (.c rfl .n) ce149 (zKb (p:=p) (n:=(yd a).length) (cap:=cap)) (.n) ?_
  rintro b2 -
  dsimp only [aq,nq,cq]
  refine zh<|zd<|zA<|zVd (fa:=[atF b2 0 [.slice p ((yd a).length) cap],slF (rI .u32) p cap (yd a)]) (N:=((yd a).length)) (encs:=fun k=>[ya yb ((k:Nat):Int),.int .u32 ((yd a).getD k 0)]) rfl ce157 (back_u32 cbs) (fun _=>rfl) rfl (X:=Int) (Y:=Unit) (fun x k=>k≤(yd a).length∧x=yf ((yd a).drop k)∧0≤x∧x*yA k≤(a:Int)) (fun y=>False) (fun x=>[boxA b1 120 [.int .u64 x]]) (fun x=>[]) (fun y=>[]) (fun y=>[]) (fun k=>[(6,.int .u32 ((yd a).getD k 0)),(13,.int .u32 ((yd a).getD k 0)),(12,ya yb ((k:Nat):Int)),(11,.func (.func 157) #[] #[yc (some ⟨b2,0,none⟩)]),(10,.slice p ((yd a).length) cap),(4,yc (some ⟨b1,0,none⟩)),(9,.bool (decide (2<(((yd a).length:Nat):Int)))),(8,ya yb (((yd a).length:Nat):Int)),(7,.slice p ((yd a).length) cap),(3,.bool false),(2,.int .u64 0),(0,.slice p ((yd a).length) cap)]) (0:Int) (show ((yd a).length)≤(yd a).length∧(0:Int)=yf ((yd a).drop ((yd a).length))∧0≤(0:Int)∧(0:Int)*yA ((yd a).length)≤(a:Int) from by exact ⟨Nat.le_refl _,by simp [yf],Int.le_refl _,by simp⟩) (ho:=((.e (i:=0) rfl (by first|rfl|(congr 1;omega)|simp_all) .n):PickO _ _ _)) ((.of [0,1] rfl):SelR _ _ _) ?_ ?_ ?_ ?_
  ·
   intro l k O' R' Q' hP
   refine za<|e_p (zc rfl)<|zh ?_
   exact hP
  ·
   rintro l3 D4 o5 o6 z k hkN hI
   replace hI:(k+1)≤(yd a).length∧z=yf ((yd a).drop (k+1))∧0≤z∧z*yA (k+1)≤(a:Int):=hI
   try dsimp only
   obtain ⟨hk,hz,hz0,hzp⟩:=hI
   have hg:=ym (yp a) k
   have hlim:=Big.word_lim hle (show k+1≤(yd a).length by omega) hz0 hzp
   refine zA<|za<|e_ru (ze 2 ty120 rfl rfl rfl)<|e_p (zFa (z:=(z*1000000000)) rfl rfl (wu64 om))<|e_mv rfl<|e_p (zE (z:=((yd a).getD k 0)) rfl (by rw [yg];rfl) yh (wu64 om))<|e_p (zK (z:=((z*1000000000)+((yd a).getD k 0))) rfl rfl (wu64 om))<|zm 2 rfl rfl rfl rfl rfl sz120 rfl (.take .nil) (.s (.s .z))<|zh<|zO ?_
   exact zTd (z*1000000000+(yd a).getD k 0) (show k≤(yd a).length∧(z*1000000000+(yd a).getD k 0)=yf ((yd a).drop k)∧0≤(z*1000000000+(yd a).getD k 0)∧(z*1000000000+(yd a).getD k 0)*yA k≤(a:Int) from by exact ⟨by omega,by rw [hz];exact Big.word_step k,by omega,Big.word_keep (show k+1≤(yd a).length by omega) hz⟩) (ho:=((.c (i:=0) rfl (.c (i:=0) rfl (.e (i:=0) rfl (by first|rfl|(congr 1;omega)|simp_all) .n))):PickO _ _ _)) ((.of [0,1] rfl):SelR _ _ _)
  ·
   rintro D7 z hI
   replace hI:0≤(yd a).length∧z=yf ((yd a).drop 0)∧0≤z∧z*yA 0≤(a:Int):=hI
   try dsimp only
   have hz9:z=(a:Int):=by rw [hI.2.1,List.drop_zero,yz]
   refine zO<|zd<|zg<|za<|e_ru (ze 1 ty120 rfl rfl rfl)<|e_p (zc rfl)<|e_p (zc rfl)<|zh<|zd<|zI<|zoe 0 rfl rfl ?_
   exact zza Tryz.results154 () trivial (zk rfl) (zk rfl) (by rw [if_pos hle,decide_eq_true hle,hz9]) (ho:=(.n:PickO _ _ _)) (.n:SelR _ _ _)
  ·
   intro _ _ h;exact h.elim
theorem zGd {a:Nat} {mm:Nat} {p:Option Addr} {cap:Nat} (hb:(yd a).length≤1099511627776) (hm0:0<mm) (hm1:mm<4294967296):Con yj 160 [.slice p ((yd a).length) cap,.int .u32 ((mm:Nat):Int)] [] [slF (rI .u32) p cap (yd a)] (Y:=(Option Addr)×Nat) (fun y=>True) (fun y=> .tuple #[.slice (y.1) ((yd (a / mm)).length) (y.2),.int .u32 (((a%mm):Nat):Int)]) (fun y=>[]) (fun y=>[slF (rI .u32) (y.1) (y.2) (yd (a / mm))]):=by
 refine zoc Tryz.func160 rfl rfl rfl (fun c=> ?_)
 show RunC _ _ _ _ _ [(0,.slice p ((yd a).length) cap),(1,.int .u32 ((mm:Nat):Int))] [] [slF (rI .u32) p cap (yd a)]
 refine zda 0 rfl (fun hL0=> ?_)
 refine zg<|za<|zM rfl rfl (zS rfl rfl) (fun b1=> ?_)
 refine zM rfl rfl (zo zr39 rfl) (fun b2=> ?_)
 refine e_p (zc rfl)<|zh<|zd<|zg<|za<|e_mv rfl<|e_p (zN ye rfl)<|zIa rfl rfl (zsb (r:=rI .u32) (k:=(yd a).length) (x0:=0) (γ0:=()) ye inf121 rfl rfl rfl rfl om om rfl (fun g _=>by exact zB.2 dd) dd) (fun b3 _=> ?_)
 refine zm 1 rfl rfl rfl rfl rfl sz39 rfl (.take .nil) (.s .z)<|zh<|zd<|zg<|za<|zM rfl rfl (zo zr120 rfl) (fun b4=> ?_)
 refine zm 0 rfl rfl rfl rfl rfl sz120 rfl (.take .nil) .z<|zh<|zd<|zg<|zg<|za<|e_mv rfl<|zC rfl rfl (.c rfl .n) ce149 (zKb (p:=p) (n:=(yd a).length) (cap:=cap)) (.n) ?_
 rintro b5 -
 dsimp only [aq,nq,cq]
 refine zh<|zd<|zA<|zVd (fa:=[atF b5 0 [.slice p ((yd a).length) cap],slF (rI .u32) p cap (yd a)]) (N:=((yd a).length)) (encs:=fun k=>[ya yb ((k:Nat):Int),.int .u32 ((yd a).getD k 0)]) rfl ce157 (back_u32 (by first|rfl|assumption|(simp;done)|omega)) (fun _=>rfl) rfl (X:=(List Int)×(List Int)×Int) (Y:=Unit) (fun x k=>x.1=List.replicate k 0++x.2.1∧Big.ShI (yd a) (mm:Int) k x.2.1 x.2.2) (fun y=>False) (fun x=>[boxA b4 120 [.int .u64 (x.2.2)],rowA 121 (rI .u32) (some ⟨b3,0,none⟩) ((yd a).length) (x.1),boxA b2 39 [.slice (some ⟨b3,0,none⟩) ((yd a).length) ((yd a).length)],boxA b1 121 [.int .u32 ((mm:Nat):Int)]]) (fun x=>[]) (fun y=>[]) (fun y=>[]) (fun k=>[(8,.int .u32 ((yd a).getD k 0)),(7,ya yb ((k:Nat):Int)),(16,.int .u32 ((yd a).getD k 0)),(15,ya yb ((k:Nat):Int)),(14,.func (.func 157) #[] #[yc (some ⟨b5,0,none⟩)]),(13,.slice p ((yd a).length) cap),(6,yc (some ⟨b4,0,none⟩)),(12,.slice (some ⟨b3,0,none⟩) ((yd a).length) ((yd a).length)),(11,ya yb (((yd a).length:Nat):Int)),(10,.slice p ((yd a).length) cap),(5,.int .u32 0),(4,yc (some ⟨b2,0,none⟩)),(3,yc (some ⟨b1,0,none⟩)),(0,.slice p ((yd a).length) cap),(1,.int .u32 ((mm:Nat):Int))]) ((List.replicate (yd a).length 0),([]:List Int),(0:Int)) (show (List.replicate (yd a).length 0)=List.replicate ((yd a).length) 0++([]:List Int)∧Big.ShI (yd a) (mm:Int) ((yd a).length) ([]:List Int) (0:Int) from by exact ⟨by simp,Big.ShI.start om⟩) (ho:=((.e (i:=0) rfl (by first|rfl|(congr 1;omega)|simp_all) (.e (i:=0) rfl (by first|rfl|(congr 1;omega)|simp_all) (.of [0,0] rfl))):PickO _ _ _)) ((.of [0,1] rfl):SelR _ _ _) ?_ ?_ ?_ ?_
 ·
  intro l k O' R' Q' hP
  refine zg<|za<|e_p (zc rfl)<|zh<|zd<|za<|e_p (zc rfl)<|zh ?_
  exact hP
 ·
  rintro l6 D7 o8 o9 ⟨os,qs,z⟩ k hkN hI
  replace hI:os=List.replicate (k+1) 0++qs∧Big.ShI (yd a) (mm:Int) (k+1) qs z:=hI
  try dsimp only
  obtain ⟨hos,hS⟩:=hI
  have hz0:=hS.r0
  have hz1:=hS.r1
  have hkle:=hS.le
  have hosl:os.length=(yd a).length:=by rw [hos,List.length_append,List.length_replicate,hS.len];omega
  have hg:=ym (yp a) k
  have hdg:=Big.sh_digit hz0 hz1 hg
  have hrm:=Int.emod_lt_of_pos (z*1000000000+(yd a).getD k 0) (show 0<(mm:Int) by omega)
  have hrm0:=Int.emod_nonneg (z*1000000000+(yd a).getD k 0) (show (mm:Int)≠0 by omega)
  refine zA<|zg<|za<|e_ru (ze 2 ty120 rfl rfl rfl)<|e_p (zFa (z:=(z*1000000000)) rfl rfl (wu64 om))<|e_mv rfl<|e_p (zE (z:=((yd a).getD k 0)) rfl (by rw [yg];rfl) yh (wu64 om))<|e_p (zK (z:=((z*1000000000)+((yd a).getD k 0))) rfl rfl (wu64 om))<|e_p (zc rfl)<|zh<|zd<|zsa (.c (i:=3) rfl (.c (i:=2) rfl (.c (i:=0) rfl (.c (i:=0) rfl (.c (i:=0) rfl (.c (i:=0) rfl .n))))))<|zef (OW:=[rowA 121 (rI .u32) (some ⟨b3,0,none⟩) ((yd a).length) os,boxA b4 120 [.int .u64 z]]) (O:=[objA l6 o8,objA D7 o9,boxA b2 39 [.slice (some ⟨b3,0,none⟩) ((yd a).length) ((yd a).length)],boxA b1 121 [.int .u32 ((mm:Nat):Int)]]) 12 mixed kr kr<|e_uw 0 rfl rfl (ze 4 ty39 rfl rfl rfl)<|e_dm 1 rfl rfl rfl<|e_dm 2 rfl rfl rfl<|e_uw 3 rfl rfl (ze 5 ty121 rfl rfl rfl)<|e_pv 4 rfl rfl (zE (z:=((mm:Nat):Int)) rfl (by rw [yg];rfl) yh (wu64 om))<|e_pv 5 rfl rfl (zjb (z:=(((z*1000000000)+((yd a).getD k 0)) / ((mm:Nat):Int))) rfl rfl om (by rw [quoN (z:=(((z*1000000000)+((yd a).getD k 0)) / ((mm:Nat):Int))) om om];exact wu64 om))<|e_pv 6 rfl rfl (zE (z:=(((z*1000000000)+((yd a).getD k 0)) / ((mm:Nat):Int))) rfl (by rw [yh];rfl) yg (wu32 om))<|e_dm 7 rfl rfl rfl<|e_u 8 rfl rfl (ze 3 ty121 rfl rfl rfl)<|e_pv 9 rfl rfl (zE (z:=((mm:Nat):Int)) rfl (by rw [yg];rfl) yh (wu64 om))<|e_pv 10 rfl rfl (zxa (z:=(((z*1000000000)+((yd a).getD k 0))%((mm:Nat):Int))) rfl rfl om (remN om om))<|e_pv 11 rfl rfl (zia (j:=k) ye sz121 rfl rfl rfl om)<|e_one 12 (zyd (A':=fun _=>rowA 121 (rI .u32) (some ⟨b3,0,none⟩) ((yd a).length) (os.set k (((z*1000000000)+((yd a).getD k 0)) / ((mm:Nat):Int)))) kr rfl rfl rfl (zea (j:=k) (x0:=(((z*1000000000)+((yd a).getD k 0)) / ((mm:Nat):Int))) (γ0:=()) rfl rfl (by first|omega|(rw [List.length_map];omega)|(simp only [List.length_set];omega)|(simp;done)|(simp;omega)) rfl rfl sz121 (fun _ _=>by exact zB.2 om)) (fun _ _=> ?_))
  refine zZa (zaa (i:=1) rfl)<|e_one 13 (zq kr rfl rfl rfl rfl rfl sz120 rfl (.take .nil) ?_)
  refine zff kr<|zO ?_
  exact zTd ((os.set k (((z*1000000000)+((yd a).getD k 0)) / ((mm:Nat):Int))),((z*1000000000+(yd a).getD k 0) / (mm:Int) :: qs),((z*1000000000+(yd a).getD k 0)%(mm:Int))) (show (os.set k (((z*1000000000)+((yd a).getD k 0)) / ((mm:Nat):Int)))=List.replicate k 0++((z*1000000000+(yd a).getD k 0) / (mm:Int) :: qs)∧Big.ShI (yd a) (mm:Int) k ((z*1000000000+(yd a).getD k 0) / (mm:Int) :: qs) ((z*1000000000+(yd a).getD k 0)%(mm:Int)) from by exact ⟨by rw [hos];exact Big.pad_set _,hS.step (yp a)⟩) (ho:=((.c (i:=2) rfl (.c (i:=2) rfl (.e (i:=0) rfl (by first|rfl|(congr 1;omega)|simp_all) (.of [0,0,0] rfl)))):PickO _ _ _)) ((.of [0,1] rfl):SelR _ _ _)
 ·
  rintro D10 ⟨os,qs,z⟩ hI
  replace hI:os=List.replicate 0 0++qs∧Big.ShI (yd a) (mm:Int) 0 qs z:=hI
  try dsimp only
  obtain ⟨hos,hS⟩:=hI
  obtain ⟨hf1,hf2⟩:=hS.fin
  have hoq:os=qs:=by simpa using hos
  have htr:yn os=yd (a / mm):=by rw [hoq];exact hf1
  have hosl:os.length=(yd a).length:=by rw [hoq,hS.len];omega
  have hzr:=hS.r1
  have hzr0:=hS.r0
  refine zO<|zd<|zg<|zsa (.c (i:=3) rfl (.c (i:=0) rfl (.c (i:=0) rfl (.c (i:=0) rfl (.c (i:=0) rfl .n)))))<|zef (OW:=[boxA b2 39 [.slice (some ⟨b3,0,none⟩) ((yd a).length) ((yd a).length)]]) (O:=[objA D10 (.deferred (some [])),boxA b4 120 [.int .u64 z],rowA 121 (rI .u32) (some ⟨b3,0,none⟩) ((yd a).length) os,boxA b1 121 [.int .u32 ((mm:Nat):Int)]]) 4 mixed kr kr<|e_uw 0 rfl rfl (ze 0 ty39 rfl rfl rfl)<|e_u 2 rfl rfl (ze 1 ty120 rfl rfl rfl)<|e_pv 3 rfl rfl (zE (z:=z) rfl (by rw [yh];rfl) yg (wu32 om))<|zQb 2 rfl (.s (.s .z))<|e_one 1 (zx rfl rfl rfl rfl (.c rfl .n) ce134 (zyb (p:=some ⟨b3,0,none⟩) (n:=(yd a).length) (cap:=(yd a).length) (l:=os) (hn:=cbb)) (.c (j:=0) rfl .n) ?_)
  rintro ⟨⟩ -
  dsimp only [aq,nq,cq]
  refine e_one 4 (zq kr rfl rfl rfl rfl rfl sz39 rfl (.take .nil) ?_)
  refine e_pv 5 rfl rfl (zc rfl)<|zff kr<|zd<|zI<|zoe 1 rfl rfl ?_
  exact zza Tryz.results160 ((some ⟨b3,0,none⟩),((yd a).length)) trivial (zwb 0 ty39 rfl rfl rfl) (zk rfl) (by rw [htr,hf2]) (ho:=(.n:PickO _ _ _)) ((.e (j:=0) rfl (by rw [htr]) .n):SelR _ _ _)
 ·
  intro _ _ h;exact h.elim
theorem zsf {p:Option Addr} {n:Nat} {cap:Nat} {l:List Int} (hn:l.length=n):Con yj 134 [.slice p n cap] [rowA 121 (rI .u32) p cap l] [] (Y:=Unit) (fun y=>True) (fun y=> .slice p ((yn l).length) cap) (fun y=>[rowA 121 (rI .u32) p cap (yn l)]) (fun y=>[]):=by
 refine zl Tryz.func134 rfl rfl rfl (fun c=> ?_)
 show RunC _ _ _ _ _ [(0,.slice p n cap)] [rowA 121 (rI .u32) p cap l] []
 refine zKf 0 rfl (fun hcl=> ?_)
 refine zg<|za<|e_p (zc rfl)<|zh<|zd<|zg<|zA<|zpa (X:=Nat) (fun x:Nat=>x≤l.length∧yn (l.take x)=yn l) (fun x=>[(0,.slice p x cap),(2,.slice none 0 0)]) (fun x=>[rowA 121 (rI .u32) p cap l]) (fun x=>[]) (fun x:Nat=>x) n (show n≤l.length∧yn (l.take n)=yn l from by exact ⟨by omega,by rw [List.take_of_length_le om]⟩) ((.c rfl (.c rfl .n)):SubM _ _) (ho:=((.c (i:=0) rfl .n):PickO _ _ _)) (.n:SelR _ _ _) ?_
 rintro k hI
 replace hI:k≤l.length∧yn (l.take k)=yn l:=hI
 try dsimp only
 obtain ⟨hk,hT⟩:=hI
 refine zg<|zHa (X:=Unit) (fun x=>True) (fun x=>[(14,.bool (decide (0<k∧l.getD (k - 1) 0=0))),(0,.slice p k cap),(2,.slice none 0 0)]) (fun x=>[rowA 121 (rI .u32) p cap l]) (fun x=>[]) ?_ ?_
 ·
  refine za<|e_mv rfl<|e_p (zN ye rfl)<|e_p (zAa rfl rfl)<|zV rfl rfl (zW rfl) (fun h1=> ?_) (fun h1=> ?_)
  ·
   refine e_mv rfl<|e_mv rfl<|e_p (zN ye rfl)<|e_p (zka (z:=(((k - 1):Nat):Int)) rfl rfl (w64 om))<|e_ru (zmd 0 (k - 1) rfl ye sz121 rfl cbo rfl rfl om)<|r_vl rfl rfl (zja 0 (k - 1) rfl ty121 rfl rfl (gD (d:=0) om) rfl) (fun _ hok2=> ?_)
   replace hok2:=zB.1 hok2
   refine e_p (zDa rfl rfl)<|e_p (zn rfl rfl)<|zh ?_
   exact zga () (show True from by first|trivial|omega|simp_all) ((.e rfl (congrArg Value.bool (by have h1:0<k:=om;have h2:((k:Int) - 1).toNat=k - 1:=om;simp [h1,h2])) (.c rfl (.c rfl .n))):SubM _ _) (ho:=((.c (i:=0) rfl .n):PickO _ _ _)) (.n:SelR _ _ _)
  ·
   refine e_no<|e_no<|e_no<|e_no<|e_no<|e_no<|e_no<|e_p (zn rfl rfl)<|zh ?_
   exact zga () (show True from by first|trivial|omega|simp_all) ((.e rfl (congrArg Value.bool (by have h1:¬0<k:=om;simp [h1])) (.c rfl (.c rfl .n))):SubM _ _) (ho:=((.c (i:=0) rfl .n):PickO _ _ _)) (.n:SelR _ _ _)
 ·
  rintro ⟨⟩ -
  try dsimp only
  refine zG rfl (fun hc=> ?_) (fun hc=> ?_)
  ·
   refine zw<|zd<|zA<|za<|e_mv rfl<|e_mv rfl<|e_p (zN ye rfl)<|e_p (zka (z:=(((k - 1):Nat):Int)) rfl rfl (w64 om))<|e_p (zub (hi:=(k - 1)) ye sz121 rfl (.s rfl) (.inr ⟨_,rfl⟩) om)<|e_p (zc rfl)<|zh<|zO<|zha (k - 1) (show (k - 1)≤l.length∧yn (l.take (k - 1))=yn l from by exact ⟨by omega,by rw [← hT,Big.trim_go l hc.1 hk hc.2]⟩) (by show k - 1<k;omega) ((.e rfl (by first|rfl|(congr 1;omega)|simp_all) (.c rfl .n)):SubM _ _) (ho:=((.c (i:=0) rfl .n):PickO _ _ _)) (.n:SelR _ _ _)
  ·
   refine zna<|zj<|zj<|zy<|zd<|zg<|za<|e_mv rfl<|e_p (zc rfl)<|zh<|zd<|zI ?_
   have hfin:l.take k=yn l:=by rw [← hT];exact (Big.trim_stop l hk hc).symm
   have hlk:(l.take k).length=k:=by rw [List.length_take];omega
   refine p_mem (fun w mm=>mm.rowTake 0 rfl k) ?_
   dsimp only [List.set]
   have e3:l.take k=yn l:=by exact hfin
   rw [e3]
   exact zu Tryz.results134 () trivial (zk rfl) (by rw [← hfin,hlk]) (ho:=((.c (i:=0) rfl .n):PickO _ _ _)) (.n:SelR _ _ _)
theorem zJe {a:Nat} {b:Nat} {p1:Option Addr} {c1:Nat} {p2:Option Addr} {c2:Nat} (hb1:(yd a).length≤1099511627776) (hb2:(yd b).length≤1099511627776):Con yj 118 [.slice p1 ((yd a).length) c1,.slice p2 ((yd b).length) c2] [] [slF (rI .u32) p1 c1 (yd a),slF (rI .u32) p2 c2 (yd b)] (Y:=(Option Addr)×Nat) (fun y=>True) (fun y=> .slice (y.1) ((yd (a*b)).length) (y.2)) (fun y=>[rowA 121 (rI .u32) (y.1) (y.2) (yd (a*b))]) (fun y=>[]):=by
 refine zl Tryz.func118 rfl rfl rfl (fun c=> ?_)
 show RunC _ _ _ _ _ [(0,.slice p1 ((yd a).length) c1),(1,.slice p2 ((yd b).length) c2)] [] [slF (rI .u32) p1 c1 (yd a),slF (rI .u32) p2 c2 (yd b)]
 refine zda 0 rfl (fun hL0=> ?_)
 refine zda 1 rfl (fun hL1=> ?_)
 have hoa:=yp a
 have hob:=yp b
 refine zg<|za<|e_p (zc rfl)<|zh<|zd<|zg<|za<|e_mv rfl<|e_p (zN ye rfl)<|e_mv rfl<|e_p (zN ye rfl)<|e_p (zK (z:=(((((yd a).length)+((yd b).length)):Nat):Int)) rfl rfl (w64 om))<|zIa rfl rfl (zsb (r:=rI .u32) (k:=(((yd a).length)+((yd b).length))) (x0:=0) (γ0:=()) ye inf121 rfl rfl rfl rfl om om rfl (fun g _=>by exact zB.2 dd) dd) (fun b1 _=> ?_)
 refine e_p (zc rfl)<|zh<|zd<|zg<|zg<|za<|e_mv rfl<|e_p (zN ye rfl)<|e_mv rfl<|zh<|zd<|zA<|zpa (X:=Nat×(List Int)) (fun x:Nat×(List Int)=>x.1≤(yd a).length∧x.2.length=(yd a).length+(yd b).length∧yv x.2∧(∀k,x.1+(yd b).length≤k→x.2.getD k 0=0)∧yf x.2=yf ((yd a).take x.1)*yf (yd b)) (fun x=>[(20,ya yb ((x.1:Nat):Int)),(19,ya yb (((yd a).length:Nat):Int)),(18,.slice p1 ((yd a).length) c1),(5,.slice (some ⟨b1,0,none⟩) (((yd a).length)+((yd b).length)) (((yd a).length)+((yd b).length))),(4,.slice none 0 0),(1,.slice p2 ((yd b).length) c2)]) (fun x=>[rowA 121 (rI .u32) (some ⟨b1,0,none⟩) (((yd a).length)+((yd b).length)) (x.2)]) (fun x=>[slF (rI .u32) p1 c1 (yd a),slF (rI .u32) p2 c2 (yd b)]) (fun x:Nat×(List Int)=>(yd a).length - x.1) (0,List.replicate ((yd a).length+(yd b).length) 0) (show 0≤(yd a).length∧(List.replicate ((yd a).length+(yd b).length) 0).length=(yd a).length+(yd b).length∧yv (List.replicate ((yd a).length+(yd b).length) 0)∧(∀k,0+(yd b).length≤k→(List.replicate ((yd a).length+(yd b).length) 0).getD k 0=0)∧yf (List.replicate ((yd a).length+(yd b).length) 0)=yf ((yd a).take 0)*yf (yd b) from by exact ⟨by omega,by simp,Big.okL_zeros _,fun k _=>Big.getD_zeros _ k,by simp [Big.valL_zeros,yf]⟩) ((.e rfl (by first|rfl|(congr 1;omega)|simp_all) (.of rfl)):SubM _ _) (ho:=((.e (i:=0) rfl (by first|rfl|(congr 1;omega)|simp_all) .n):PickO _ _ _)) ((.of [0,1] rfl):SelR _ _ _) ?_
 rintro ⟨i,os⟩ hI
 replace hI:i≤(yd a).length∧os.length=(yd a).length+(yd b).length∧yv os∧(∀k,i+(yd b).length≤k→os.getD k 0=0)∧yf os=yf ((yd a).take i)*yf (yd b):=hI
 try dsimp only
 obtain ⟨hi,hol,hok,hz,hv⟩:=hI
 have hg1:=ym hoa i
 refine zg<|za<|e_p (zba rfl rfl)<|zh<|zd<|zg<|zG rfl (fun h2=> ?_) (fun h2=> ?_)
 ·
  refine zw<|zd<|zg<|zA<|zg<|za<|e_mv rfl<|zZ (x0:=((yd a).getD i 0)) 0 i rfl ye sz121 rfl rfl rfl (by first|rfl|assumption|(simp;omega)|omega) rfl rfl (gD (d:=0) om) (fun b3 o4 hok5=> ?_)
  replace hok5:=zB.1 hok5
  refine e_ru (zv (j:=0) 0 ty121 rfl rfl rfl rfl)<|e_p (zc rfl)<|e_p (zc rfl)<|zh<|zd<|zg<|za<|e_p (zc rfl)<|zh<|zd<|zg<|zg<|za<|e_mv rfl<|e_p (zN ye rfl)<|e_mv rfl<|zh<|zd<|zA<|zpa (X:=Nat×(List Int)×Int) (fun x:Nat×(List Int)×Int=>x.1≤(yd b).length∧x.2.1.length=(yd a).length+(yd b).length∧yv x.2.1∧0≤x.2.2∧x.2.2<1000000000∧(∀k,i+(yd b).length≤k→x.2.1.getD k 0=0)∧yf x.2.1+yA (i+x.1)*x.2.2=yf ((yd a).take i)*yf (yd b)+yA i*(yd a).getD i 0*yf ((yd b).take x.1)) (fun x=>[(8,.int .u64 (x.2.2)),(27,ya yb ((x.1:Nat):Int)),(26,ya yb (((yd b).length:Nat):Int)),(25,.slice p2 ((yd b).length) c2),(7,.int .u32 ((yd a).getD i 0)),(6,ya yb ((i:Nat):Int)),(20,ya yb ((i:Nat):Int)),(19,ya yb (((yd a).length:Nat):Int)),(18,.slice p1 ((yd a).length) c1),(5,.slice (some ⟨b1,0,none⟩) (((yd a).length)+((yd b).length)) (((yd a).length)+((yd b).length))),(4,.slice none 0 0),(1,.slice p2 ((yd b).length) c2)]) (fun x=>[rowA 121 (rI .u32) (some ⟨b1,0,none⟩) (((yd a).length)+((yd b).length)) (x.2.1)]) (fun x=>[atF b3 o4 [.int .u32 ((yd a).getD i 0)],slF (rI .u32) p1 c1 (yd a),slF (rI .u32) p2 c2 (yd b)]) (fun x:Nat×(List Int)×Int=>(yd b).length - x.1) (0,os,0) (show 0≤(yd b).length∧os.length=(yd a).length+(yd b).length∧yv os∧0≤0∧0<1000000000∧(∀k,i+(yd b).length≤k→os.getD k 0=0)∧yf os+yA (i+0)*0=yf ((yd a).take i)*yf (yd b)+yA i*(yd a).getD i 0*yf ((yd b).take 0) from by exact ⟨by omega,hol,hok,by decide,by decide,hz,by rw [hv];simp [yf]⟩) ((.c rfl (.e rfl (by first|rfl|(congr 1;omega)|simp_all) (.of rfl))):SubM _ _) (ho:=((.c (i:=0) rfl .n):PickO _ _ _)) ((.of [0,1,2] rfl):SelR _ _ _) ?_
  rintro ⟨j,os2,cy⟩ hJ
  replace hJ:j≤(yd b).length∧os2.length=(yd a).length+(yd b).length∧yv os2∧0≤cy∧cy<1000000000∧(∀k,i+(yd b).length≤k→os2.getD k 0=0)∧yf os2+yA (i+j)*cy=yf ((yd a).take i)*yf (yd b)+yA i*(yd a).getD i 0*yf ((yd b).take j):=hJ
  try dsimp only
  obtain ⟨hj,hol2,hok2,hcy0,hcy1,hz2,hv2⟩:=hJ
  have hg2:=ym hob j
  have hg3:=ym hok2 (i+j)
  have hpq:=Big.mul_lim hg1 hg2
  refine zg<|za<|e_p (zba rfl rfl)<|zh<|zd<|zg<|zG rfl (fun h6=> ?_) (fun h6=> ?_)
  ·
   refine zw<|zd<|zg<|zA<|zg<|za<|e_mv rfl<|zZ (x0:=((yd b).getD j 0)) 2 j rfl ye sz121 rfl rfl rfl (by first|rfl|assumption|(simp;omega)|omega) rfl rfl (gD (d:=0) om) (fun b7 o8 hok9=> ?_)
   replace hok9:=zB.1 hok9
   refine e_ru (zv (j:=0) 0 ty121 rfl rfl rfl rfl)<|e_p (zc rfl)<|e_p (zc rfl)<|zh<|zd<|zg<|za<|e_mv rfl<|e_mv rfl<|e_mv rfl<|e_p (zK (z:=(((i+j):Nat):Int)) rfl rfl (w64 om))<|e_p (zia (j:=(i+j)) ye sz121 rfl rfl rfl om)<|r_vl rfl rfl (zja 0 (i+j) rfl ty121 rfl rfl (gD (d:=0) om) rfl) (fun _ hok10=> ?_)
   replace hok10:=zB.1 hok10
   refine e_p (zE (z:=(os2.getD (i+j) 0)) rfl (by rw [yg];rfl) yh (wu64 om))<|e_mv rfl<|e_p (zE (z:=((yd a).getD i 0)) rfl (by rw [yg];rfl) yh (wu64 om))<|e_mv rfl<|e_p (zE (z:=((yd b).getD j 0)) rfl (by rw [yg];rfl) yh (wu64 om))<|e_p (zFa (z:=(((yd a).getD i 0)*((yd b).getD j 0))) rfl rfl (wu64 om))<|e_p (zK (z:=((os2.getD (i+j) 0)+(((yd a).getD i 0)*((yd b).getD j 0)))) rfl rfl (wu64 om))<|e_mv rfl<|e_p (zK (z:=(((os2.getD (i+j) 0)+(((yd a).getD i 0)*((yd b).getD j 0)))+cy)) rfl rfl (wu64 om))<|e_p (zc rfl)<|zh<|zd<|za<|e_mv rfl<|e_mv rfl<|e_mv rfl<|e_p (zK (z:=(((i+j):Nat):Int)) rfl rfl (w64 om))<|e_mv rfl<|e_p (zxa (z:=((((os2.getD (i+j) 0)+(((yd a).getD i 0)*((yd b).getD j 0)))+cy)%1000000000)) rfl rfl om (remN om om))<|e_p (zE (z:=((((os2.getD (i+j) 0)+(((yd a).getD i 0)*((yd b).getD j 0)))+cy)%1000000000)) rfl (by rw [yh];rfl) yg (wu32 om))<|e_mv rfl<|e_p (zjb (z:=((((os2.getD (i+j) 0)+(((yd a).getD i 0)*((yd b).getD j 0)))+cy) / 1000000000)) rfl rfl om (by rw [quoN (z:=((((os2.getD (i+j) 0)+(((yd a).getD i 0)*((yd b).getD j 0)))+cy) / 1000000000)) om om];exact wu64 om))<|e_p (zia (j:=(i+j)) ye sz121 rfl rfl rfl om)<|zJa 0 rfl rfl rfl (zea (j:=(i+j)) (x0:=((((os2.getD (i+j) 0)+(((yd a).getD i 0)*((yd b).getD j 0)))+cy)%1000000000)) (γ0:=()) rfl rfl (by first|omega|(rw [List.length_map];omega)|(simp only [List.length_set];omega)|(simp;done)|(simp;omega)) rfl rfl sz121 (fun _ _=>by exact zB.2 om)) (fun _=> .z) (fun _ _=> ?_)
   refine e_p (zc rfl)<|zh<|zO<|zd<|za<|e_p (zK (z:=(((j+1):Nat):Int)) rfl rfl (w64 om))<|e_mv rfl<|zh<|zha ((j+1),os2.set (i+j) ((os2.getD (i+j) 0+(yd a).getD i 0*(yd b).getD j 0+cy)%1000000000),(os2.getD (i+j) 0+(yd a).getD i 0*(yd b).getD j 0+cy) / 1000000000) (show (j+1)≤(yd b).length∧(os2.set (i+j) ((os2.getD (i+j) 0+(yd a).getD i 0*(yd b).getD j 0+cy)%1000000000)).length=(yd a).length+(yd b).length∧yv (os2.set (i+j) ((os2.getD (i+j) 0+(yd a).getD i 0*(yd b).getD j 0+cy)%1000000000))∧0≤((os2.getD (i+j) 0+(yd a).getD i 0*(yd b).getD j 0+cy) / 1000000000)∧((os2.getD (i+j) 0+(yd a).getD i 0*(yd b).getD j 0+cy) / 1000000000)<1000000000∧(∀k,i+(yd b).length≤k→(os2.set (i+j) ((os2.getD (i+j) 0+(yd a).getD i 0*(yd b).getD j 0+cy)%1000000000)).getD k 0=0)∧yf (os2.set (i+j) ((os2.getD (i+j) 0+(yd a).getD i 0*(yd b).getD j 0+cy)%1000000000))+yA (i+(j+1))*((os2.getD (i+j) 0+(yd a).getD i 0*(yd b).getD j 0+cy) / 1000000000)=yf ((yd a).take i)*yf (yd b)+yA i*(yd a).getD i 0*yf ((yd b).take (j+1)) from by exact ⟨by omega,by simpa using hol2,yN hok2 om om,by omega,by omega,fun k hk=>by rw [yH om];exact hz2 k om,Big.mul_step hv2 om om⟩) (by show (yd b).length - (j+1)<(yd b).length - j;omega) ((.e rfl (by first|rfl|(congr 1;omega)|simp_all) (.of rfl)):SubM _ _) (ho:=((.e (i:=0) rfl (by first|rfl|(congr 1;omega)|simp_all) .n):PickO _ _ _)) ((.of [1,2,3] rfl):SelR _ _ _)
  ·
   have hjb:j=(yd b).length:=by omega
   subst hjb
   have hv3:=hv2
   refine zna<|zj<|zj<|zy<|zd<|za<|e_mv rfl<|e_mv rfl<|e_mv rfl<|e_p (zN ye rfl)<|e_p (zK (z:=(((i+((yd b).length)):Nat):Int)) rfl rfl (w64 om))<|e_mv rfl<|e_p (zE (z:=cy) rfl (by rw [yh];rfl) yg (wu32 om))<|e_p (zia (j:=(i+((yd b).length))) ye sz121 rfl rfl rfl om)<|zJa 0 rfl rfl rfl (zea (j:=(i+((yd b).length))) (x0:=cy) (γ0:=()) rfl rfl (by first|omega|(rw [List.length_map];omega)|(simp only [List.length_set];omega)|(simp;done)|(simp;omega)) rfl rfl sz121 (fun _ _=>by exact zB.2 om)) (fun _=> .z) (fun _ _=> ?_)
   refine zh<|zO<|zd<|za<|e_p (zK (z:=(((i+1):Nat):Int)) rfl rfl (w64 om))<|e_mv rfl<|zh<|zha ((i+1),os2.set (i+(yd b).length) cy) (show (i+1)≤(yd a).length∧(os2.set (i+(yd b).length) cy).length=(yd a).length+(yd b).length∧yv (os2.set (i+(yd b).length) cy)∧(∀k,(i+1)+(yd b).length≤k→(os2.set (i+(yd b).length) cy).getD k 0=0)∧yf (os2.set (i+(yd b).length) cy)=yf ((yd a).take (i+1))*yf (yd b) from by exact ⟨by omega,by simpa using hol2,yN hok2 om om,fun k hk=>by rw [yH om];exact hz2 k om,Big.mul_round hv3 om (hz2 _ (Nat.le_refl _))⟩) (by show (yd a).length - (i+1)<(yd a).length - i;omega) ((.of rfl):SubM _ _) (ho:=((.e (i:=0) rfl (by first|rfl|(congr 1;omega)|simp_all) .n):PickO _ _ _)) ((.of [1,2] rfl):SelR _ _ _)
 ·
  have hia:i=(yd a).length:=by omega
  have hfin:yn os=yd (a*b):=Big.trimL_of hok (by rw [hv,hia,List.take_length,yz,yz,Int.natCast_mul])
  refine zna<|zj<|zj<|zy<|zd<|zg<|za<|e_mv rfl<|zqc (A:=[rowA 121 (rI .u32) (some ⟨b1,0,none⟩) (((yd a).length)+((yd b).length)) os]) (F:=[]) (first:=[]) (cap:=[]) rfl rfl rfl (.c rfl .n) ce134 (zsf (p:=some ⟨b1,0,none⟩) (n:=(((yd a).length)+((yd b).length))) (cap:=(((yd a).length)+((yd b).length))) (l:=os) (hn:=cbb)) (.n) ?_
  rintro ⟨⟩ -
  dsimp only [aq,nq,cq]
  refine e_p (zc rfl)<|zh<|zd<|zI ?_
  have e11:yn os=yd (a*b):=by exact hfin
  rw [e11]
  exact zu Tryz.results118 ((some ⟨b1,0,none⟩),(((yd a).length)+((yd b).length))) trivial (zk rfl) rfl (ho:=((.c (i:=0) rfl .n):PickO _ _ _)) (.n:SelR _ _ _)
end Go.Proofs.YtjcpbhlijoigfaaGreat.Sp
namespace Go.Proofs.YtjcpbhlijoigfaaGreat.Sp
open Go
set_option linter.unusedVariables false
set_option maxRecDepth 100000
set_option maxHeartbeats 8000000
theorem zUf {a:Nat} {b:Nat} {p1:Option Addr} {c1:Nat} {p2:Option Addr} {c2:Nat} (hb1:(yd a).length≤1099511627776) (hb2:(yd b).length≤1099511627776) (hb3:2≤(yd b).length) (hab:b≤a):Con yj 161 [.slice p1 ((yd a).length) c1,.slice p2 ((yd b).length) c2] [] [slF (rI .u32) p1 c1 (yd a),slF (rI .u32) p2 c2 (yd b)] (Y:=(Option Addr)×Nat×(Option Addr)×Nat) (fun y=>True) (fun y=> .tuple #[.slice (y.1) ((yd (a / b)).length) (y.2.1),.slice (y.2.2.1) ((yd (a%b)).length) (y.2.2.2)]) (fun y=>[]) (fun y=>[slF (rI .u32) (y.1) (y.2.1) (yd (a / b)),slF (rI .u32) (y.2.2.1) (y.2.2.2) (yd (a%b))]):=by
 refine zl Tryz.func161 rfl rfl rfl (fun c=> ?_)
 show RunC _ _ _ _ _ [(0,.slice p1 ((yd a).length) c1),(1,.slice p2 ((yd b).length) c2)] [] [slF (rI .u32) p1 c1 (yd a),slF (rI .u32) p2 c2 (yd b)]
 refine zda 0 rfl (fun hL0=> ?_)
 refine zda 1 rfl (fun hL1=> ?_)
 have hob:=yp b
 have htop:=ym hob ((yd b).length - 1)
 have hdt:=Big.digs_top (b:=b) (n:=(yd b).length - 1) om
 have hab2:=yL hab
 have hq1:0≤1000000000 / ((yd b).getD ((yd b).length - 1) 0+1):=Int.ediv_nonneg om om
 have hq2:1000000000 / ((yd b).getD ((yd b).length - 1) 0+1)≤500000000:=Int.ediv_le_of_le_mul om om
 refine zg<|za<|e_p (zc rfl)<|e_p (zc rfl)<|zh<|zd<|zg<|za<|e_mv rfl<|e_mv rfl<|e_p (zN ye rfl)<|e_p (zka (z:=((((yd b).length - 1):Nat):Int)) rfl rfl (w64 om))<|zZ (x0:=((yd b).getD ((yd b).length - 1) 0)) 1 ((yd b).length - 1) rfl ye sz121 rfl rfl rfl (by first|rfl|assumption|(simp;done)|omega) rfl rfl (gD (d:=0) om) (fun b1 o2 hok3=> ?_)
 replace hok3:=zB.1 hok3
 refine e_ru (zv (j:=0) 0 ty121 rfl rfl rfl rfl)<|e_p (zE (z:=((yd b).getD ((yd b).length - 1) 0)) rfl (by rw [yg];rfl) yh (wu64 om))<|e_p (zK (z:=(((yd b).getD ((yd b).length - 1) 0)+1)) rfl rfl (wu64 om))<|e_p (zjb (z:=(1000000000 / (((yd b).getD ((yd b).length - 1) 0)+1))) rfl rfl om (by rw [quoN (z:=(1000000000 / (((yd b).getD ((yd b).length - 1) 0)+1))) om om];exact wu64 om))<|e_p (zE (z:=(1000000000 / (((yd b).getD ((yd b).length - 1) 0)+1))) rfl (by rw [yh];rfl) yg (wu32 om))<|e_p (zc rfl)<|zh<|zd<|zg ?_
 obtain ⟨s,hs⟩:∃s:Nat,s=(1000000000 / ((yd b).getD ((yd b).length - 1) 0+1)).toNat:=⟨_,rfl⟩
 obtain ⟨hs1,hs2,hs3⟩:=Big.scale_len (n:=(yd b).length - 1) om hs
 have hsd:=Big.digs_one hs1 (by omega:s<1000000000)
 have hsl:(yd s).length=1:=by rw [hsd];rfl
 have e4:((1000000000 / (((yd b).getD ((yd b).length - 1) 0)+1)):Int)=((s:Nat):Int):=by omega
 rw [e4]
 refine za<|e_mv rfl<|e_mv rfl<|zIa rfl rfl (zX (enc:=fun z:Int=>[.int .u32 z]) (ok:=InK .u32) (h1:=fun _=>rfl) (h2:=fun _=>rfl) (k:=1) ye inf121 rfl dd dd dd (.c (x:=((s:Nat):Int)) rfl rfl (fun _ _=>by exact zB.2 om) .n)) (fun b5 _=> ?_)
 refine zla 0 rfl .z ?_
 have e6:[((s:Nat):Int)]=yd s:=by exact hsd.symm
 rw [e6]
 have e7:(.slice (some ⟨b5,0,none⟩) 1 1:Value)= .slice (some ⟨b5,0,none⟩) ((yd s).length) 1:=by rw [hsl]
 rw [e7]
 refine zC rfl rfl (.c rfl (.c rfl .n)) ce118 (zJe (a:=a) (b:=s) (p1:=p1) (c1:=c1) (p2:=some ⟨b5,0,none⟩) (c2:=1) (hb1:=ass) (hb2:=cbb)) (.c (j:=2) rfl (.c (j:=0) rfl .n)) ?_
 rintro ⟨p38,c39⟩ -
 dsimp only [aq,nq,cq]
 refine e_p (zc rfl)<|zh<|zd<|zg<|za<|e_mv rfl<|e_mv rfl<|zIa rfl rfl (zX (enc:=fun z:Int=>[.int .u32 z]) (ok:=InK .u32) (h1:=fun _=>rfl) (h2:=fun _=>rfl) (k:=1) ye inf121 rfl dd dd dd (.c (x:=((s:Nat):Int)) rfl rfl (fun _ _=>by exact zB.2 om) .n)) (fun b10 _=> ?_)
 refine zla 0 rfl .z ?_
 have e11:[((s:Nat):Int)]=yd s:=by exact hsd.symm
 rw [e11]
 have e12:(.slice (some ⟨b10,0,none⟩) 1 1:Value)= .slice (some ⟨b10,0,none⟩) ((yd s).length) 1:=by rw [hsl]
 rw [e12]
 refine zC rfl rfl (.c rfl (.c rfl .n)) ce118 (zFd (a:=b) (b:=s) (p1:=p2) (c1:=c2) (p2:=some ⟨b10,0,none⟩) (c2:=1) (hb1:=ass) (hb2:=cbb)) (.c (j:=4) rfl (.c (j:=0) rfl .n)) ?_
 rintro ⟨p313,c314⟩ -
 dsimp only [aq,nq,cq]
 refine e_p (zc rfl)<|zh<|zd<|zg ?_
 obtain ⟨A,hA⟩:∃z,z=a*s:=⟨_,rfl⟩
 rw [← hA]
 obtain ⟨V,hV⟩:∃z,z=b*s:=⟨_,rfl⟩
 rw [← hV]
 have hAl:(yd a).length≤(yd A).length:=by rw [hA];exact Big.len_mul_ge hs1
 have hAl2:(yd A).length≤(yd a).length+1:=by have h8:=Big.len_mul_le a s;rw [hsl] at h8;rw [hA];exact h8
 obtain ⟨m,hm⟩:∃z,(yd V).length=z+2:=⟨(yd b).length - 2,by rw [hV,hs3];omega⟩
 have hmb:(yd b).length=m+2:=by rw [hV,hs3] at hm;omega
 have e15:(yd V).length=(m+2):=by exact hm
 rw [e15]
 refine za<|e_mv rfl<|e_p (zN ye rfl)<|e_p (zc rfl)<|zh<|zd<|zg<|za<|e_mv rfl<|zIa rfl rfl (zX (enc:=fun z:Int=>[.int .u32 z]) (ok:=InK .u32) (h1:=fun _=>rfl) (h2:=fun _=>rfl) (k:=1) ye inf121 rfl dd dd dd (.c (x:=0) rfl rfl (fun _ _=>by exact zB.2 om) .n)) (fun b16 _=> ?_)
 refine zla 0 rfl .z<|zJa 2 rfl rfl rfl (zua 0 rfl ye inf121 dd rfl rfl (by first|rfl|assumption|(simp;done)|omega) rfl (by first|rfl|assumption|(simp;done)|omega) om om) (fun _=>(.s (.s .z))) ?_
 rintro ⟨p17,c18⟩ -
 dsimp only [aq,nq,cq]
 refine e_p (zc rfl)<|zh<|zd<|zg<|zg<|za<|e_mv rfl<|e_p (zN ye rfl)<|e_mv rfl<|e_p (zN ye rfl)<|e_p (zKa rfl rfl)<|zh<|zd<|zG rfl (fun h19=> ?_) (fun h19=> ?_)
 ·
  exact absurd ‹_› om
 ·
  refine zw<|zd<|zg ?_
  obtain ⟨M,hM⟩:∃z,z=((yd A).length)+1:=⟨_,rfl⟩
  rw [← hM]
  refine za<|e_mv rfl<|e_p (zN ye rfl)<|e_mv rfl<|e_p (zka (z:=(((M - (m+2)):Nat):Int)) rfl rfl (w64 om))<|zIa rfl rfl (zsb (r:=rI .u32) (k:=(M - (m+2))) (x0:=0) (γ0:=()) ye inf121 rfl rfl rfl rfl om om rfl (fun g _=>by exact zB.2 dd) dd) (fun b20 _=> ?_)
  refine e_p (zc rfl)<|zh<|zd<|zg<|zg ?_
  have hMl:m+3≤M:=by omega
  have hLg:yT M (m+2) ((A:Nat):Int) ((V:Nat):Int) (M - (m+2)) (yd A++[0]) []:=yT.start (yJ (yp A) dd dd) (by simp [hM]) (by rw [Big.valL_snoc,yz];simp) hm om (by rw [Big.valL_snoc,yz,hM,Nat.add_sub_cancel];simpa using Big.digs_lt A) om
  refine za<|e_mv rfl<|e_p (zN ye rfl)<|e_mv rfl<|e_p (zka (z:=(((M:Nat):Int) - (((m+2):Nat):Int))) rfl rfl (w64 om))<|e_p (zka (z:=((((M:Nat):Int) - (((m+2):Nat):Int)) - 1)) rfl rfl (w64 om))<|e_p (zc rfl)<|zh<|zd<|zA<|zpa (X:=Nat×(List Int)×(List Int)) (fun x:Nat×(List Int)×(List Int)=>yT M (m+2) ((A:Nat):Int) ((V:Nat):Int) x.1 x.2.1 x.2.2) (fun x=>[(10,ya yb (((x.1:Nat):Int) - 1)),(4,.slice (some ⟨b20,0,none⟩) (M - (m+2)) (M - (m+2))),(7,.slice p17 M c18),(9,ya yb (((m+2):Nat):Int)),(8,.slice p313 (m+2) c314),(6,.int .u32 ((s:Nat):Int)),(5,.slice none 0 0)]) (fun x=>[rowA 121 (rI .u32) (some ⟨b20,0,none⟩) (M - (m+2)) (List.replicate x.1 0++x.2.2),rowA 121 (rI .u32) p17 c18 (x.2.1)]) (fun x=>[slF (rI .u32) (some ⟨b16,0,none⟩) 1 ([0]),slF (rI .u32) p313 c314 (yd V),slF (rI .u32) (some ⟨b10,0,none⟩) 1 (yd s),slF (rI .u32) (some ⟨b5,0,none⟩) 1 (yd s),atF b1 o2 [.int .u32 ((yd b).getD ((yd b).length - 1) 0)],slF (rI .u32) p1 c1 (yd a),slF (rI .u32) p2 c2 (yd b)]) (fun x:Nat×(List Int)×(List Int)=>x.1) ((M - (m+2)),(yd A++[0]),([]:List Int)) (show yT M (m+2) ((A:Nat):Int) ((V:Nat):Int) (M - (m+2)) (yd A++[0]) ([]:List Int) from by exact hLg) ((.e rfl (congrArg (Value.int .i64) om) (.of rfl)):SubM _ _) (ho:=((.e (i:=0) rfl (by simp) (.e (i:=2) rfl (by simp) .n)):PickO _ _ _)) ((.of [0,1,2,3,4,5,6] rfl):SelR _ _ _) ?_
  rintro ⟨jj,u,qs⟩ hI
  replace hI:yT M (m+2) ((A:Nat):Int) ((V:Nat):Int) jj u qs:=hI
  try dsimp only
  refine zg<|zg<|za<|e_mv rfl<|e_p (zBa rfl rfl)<|zh<|zd<|zG rfl (fun hj=> ?_) (fun hj=> ?_)
  ·
   obtain ⟨j,rfl⟩:∃j,jj=j+1:=⟨jj - 1,by omega⟩
   have e21:(((((j+1):Nat):Int) - 1):Int)=((j:Nat):Int):=by omega
   rw [e21]
   have hjM:=hI.jle
   have hul:=hI.ul
   have hT:=hI.tp hm
   have hu2:=hT.a2
   have hu1:=hT.a1
   have hu0:=hT.a0
   have hvt1:=hT.vt1
   have hvt2:=hT.vt2
   have hvs0:=hT.vs0
   have hvs1:=hT.vs1
   have hgst:=hT.start
   have hgl0:=Big.Gs.le hT hgst
   have hg00:=hgst.g0
   have hg01:=hgst.r0
   have hrlt:=Int.emod_lt_of_pos ((u.getD (j+(m+2)) 0)*1000000000+(u.getD (j+(m+1)) 0)) (show 0<((yd V).getD (m+1) 0) by omega)
   refine zw<|zd<|zg<|zA<|zg<|zY (OW:=[]) (O:=[rowA 121 (rI .u32) (some ⟨b20,0,none⟩) (M - (m+2)) (List.replicate (j+1) 0++qs),rowA 121 (rI .u32) p17 c18 u]) 100000 mixed (.then (.block (.then (.then (.block (.then .ret)))))) kr<|e_dm 0 rfl rfl rfl<|e_dm 1 rfl rfl rfl<|e_dm 2 rfl rfl rfl<|e_pv 3 rfl rfl (zK (z:=(((j+(m+2)):Nat):Int)) rfl rfl (w64 om))<|e_dm 7 rfl rfl rfl<|e_dm 8 rfl rfl rfl<|e_dm 9 rfl rfl rfl<|e_pv 10 rfl rfl (zK (z:=(((j+(m+2)):Nat):Int)) rfl rfl (w64 om))<|e_pv 11 rfl rfl (zka (z:=(((j+(m+1)):Nat):Int)) rfl rfl (w64 om))<|e_u 12 rfl rfl (zqa 1 (j+(m+1)) rfl ye sz121 rfl (by first|rfl|assumption|(simp;done)|omega) rfl rfl om)<|d_vl 13 rfl rfl kr kr rfl rfl (zja 1 (j+(m+1)) rfl ty121 rfl rfl (gD (d:=0) om) rfl) (fun _ hok22=> ?_)
   replace hok22:=zB.1 hok22
   refine e_pv 14 rfl rfl (zE (z:=(u.getD (j+(m+1)) 0)) rfl (by rw [yg];rfl) yh (wu64 om))<|e_one 4 (zLf 1 rfl rfl rfl rfl rfl (.c rfl (.c rfl .n)) ce147 (zre (p:=p17) (n:=M) (cap:=c18) (l:=u) (i:=(j+(m+2))) (hn:=cbb) (hi:=cbb)) (.c (j:=0) rfl .n) ?_)
   refine e_pv 5 rfl rfl (zE (z:=u.getD (j+(m+2)) 0) rfl (by rw [yg];rfl) yh (wu64 om))<|e_pv 6 rfl rfl (zFa (z:=(u.getD (j+(m+2)) 0*1000000000)) rfl rfl (wu64 om))<|e_pv 15 rfl rfl (zK (z:=((u.getD (j+(m+2)) 0*1000000000)+(u.getD (j+(m+1)) 0))) rfl rfl (wu64 om))<|e_pv 16 rfl rfl (zc rfl)<|zU kr<|zd<|zg<|zY (OW:=[]) (O:=[rowA 121 (rI .u32) (some ⟨b20,0,none⟩) (M - (m+2)) (List.replicate (j+1) 0++qs),rowA 121 (rI .u32) p17 c18 u]) 100000 mixed (.then (.block (.then (.then (.block (.then .ret)))))) kr<|e_dm 0 rfl rfl rfl<|e_dm 1 rfl rfl rfl<|e_dm 2 rfl rfl rfl<|e_pv 3 rfl rfl (zka (z:=(((m+1):Nat):Int)) rfl rfl (w64 om))<|zca (x0:=((yd V).getD (m+1) 0)) 4 rfl rfl kr kr 1 (m+1) rfl ye sz121 rfl rfl rfl (by first|rfl|assumption|(simp;done)|omega) rfl rfl (gD (d:=0) om) (fun b23 o24 hok25=> ?_)
   replace hok25:=zB.1 hok25
   refine e_u 5 rfl rfl (zv (j:=0) 0 ty121 rfl rfl rfl rfl)<|e_pv 6 rfl rfl (zE (z:=((yd V).getD (m+1) 0)) rfl (by rw [yg];rfl) yh (wu64 om))<|e_pv 7 rfl rfl (zjb (z:=(((u.getD (j+(m+2)) 0*1000000000)+(u.getD (j+(m+1)) 0)) / ((yd V).getD (m+1) 0))) rfl rfl om (by rw [quoN (z:=(((u.getD (j+(m+2)) 0*1000000000)+(u.getD (j+(m+1)) 0)) / ((yd V).getD (m+1) 0))) om om];exact wu64 om))<|e_dm 8 rfl rfl rfl<|e_dm 9 rfl rfl rfl<|e_dm 10 rfl rfl rfl<|e_pv 11 rfl rfl (zka (z:=(((m+1):Nat):Int)) rfl rfl (w64 om))<|zca (x0:=((yd V).getD (m+1) 0)) 12 rfl rfl kr kr 2 (m+1) rfl ye sz121 rfl rfl rfl (by first|rfl|assumption|(simp;done)|omega) rfl rfl (gD (d:=0) om) (fun b26 o27 hok28=> ?_)
   replace hok28:=zB.1 hok28
   refine e_u 13 rfl rfl (zv (j:=0) 0 ty121 rfl rfl rfl rfl)<|e_pv 14 rfl rfl (zE (z:=((yd V).getD (m+1) 0)) rfl (by rw [yg];rfl) yh (wu64 om))<|e_pv 15 rfl rfl (zxa (z:=(((u.getD (j+(m+2)) 0*1000000000)+(u.getD (j+(m+1)) 0))%((yd V).getD (m+1) 0))) rfl rfl om (remN om om))<|e_pv 16 rfl rfl (zc rfl)<|e_pv 17 rfl rfl (zc rfl)<|zU kr<|zd<|zHa (X:=Int) (fun x=>(0≤x∧x<1000000000)∧(yf (u.drop j))<(x+1)*(V:Int)∧x*(V:Int)<(yf (u.drop j))+(V:Int)) (fun x=>[(12,.int .u64 x),(10,ya yb ((j:Nat):Int)),(4,.slice (some ⟨b20,0,none⟩) (M - (m+2)) (M - (m+2))),(7,.slice p17 M c18),(9,ya yb (((m+2):Nat):Int)),(8,.slice p313 (m+2) c314),(6,.int .u32 ((s:Nat):Int)),(5,.slice none 0 0)]) (fun x=>[rowA 121 (rI .u32) (some ⟨b20,0,none⟩) (M - (m+2)) (List.replicate (j+1) 0++qs),rowA 121 (rI .u32) p17 c18 u]) (fun x=>[atF b26 o27 [.int .u32 ((yd V).getD (m+1) 0)],atF b23 o24 [.int .u32 ((yd V).getD (m+1) 0)],slF (rI .u32) (some ⟨b16,0,none⟩) 1 ([0]),slF (rI .u32) p313 c314 (yd V),slF (rI .u32) (some ⟨b10,0,none⟩) 1 (yd s),slF (rI .u32) (some ⟨b5,0,none⟩) 1 (yd s),atF b1 o2 [.int .u32 ((yd b).getD ((yd b).length - 1) 0)],slF (rI .u32) p1 c1 (yd a),slF (rI .u32) p2 c2 (yd b)]) ?_ ?_
   ·
    refine zA<|zpa (X:=Int×Int) (fun x:Int×Int=>Big.Gs (yf (u.drop j)) (V:Int) ((yd V).getD (m+1) 0) ((u.getD (j+(m+2)) 0)*1000000000+(u.getD (j+(m+1)) 0)) x.1 x.2∧x.2<1000000000) (fun x=>[(13,.int .u64 (x.2)),(12,.int .u64 (x.1)),(10,ya yb ((j:Nat):Int)),(4,.slice (some ⟨b20,0,none⟩) (M - (m+2)) (M - (m+2))),(7,.slice p17 M c18),(9,ya yb (((m+2):Nat):Int)),(8,.slice p313 (m+2) c314),(6,.int .u32 ((s:Nat):Int)),(5,.slice none 0 0)]) (fun x=>[rowA 121 (rI .u32) (some ⟨b20,0,none⟩) (M - (m+2)) (List.replicate (j+1) 0++qs),rowA 121 (rI .u32) p17 c18 u]) (fun x=>[atF b26 o27 [.int .u32 ((yd V).getD (m+1) 0)],atF b23 o24 [.int .u32 ((yd V).getD (m+1) 0)],slF (rI .u32) (some ⟨b16,0,none⟩) 1 ([0]),slF (rI .u32) p313 c314 (yd V),slF (rI .u32) (some ⟨b10,0,none⟩) 1 (yd s),slF (rI .u32) (some ⟨b5,0,none⟩) 1 (yd s),atF b1 o2 [.int .u32 ((yd b).getD ((yd b).length - 1) 0)],slF (rI .u32) p1 c1 (yd a),slF (rI .u32) p2 c2 (yd b)]) (fun x:Int×Int=>x.1.toNat) ((((u.getD (j+(m+2)) 0*1000000000)+(u.getD (j+(m+1)) 0)) / ((yd V).getD (m+1) 0)),(((u.getD (j+(m+2)) 0*1000000000)+(u.getD (j+(m+1)) 0))%((yd V).getD (m+1) 0))) (show Big.Gs (yf (u.drop j)) (V:Int) ((yd V).getD (m+1) 0) ((u.getD (j+(m+2)) 0)*1000000000+(u.getD (j+(m+1)) 0)) (((u.getD (j+(m+2)) 0*1000000000)+(u.getD (j+(m+1)) 0)) / ((yd V).getD (m+1) 0)) (((u.getD (j+(m+2)) 0*1000000000)+(u.getD (j+(m+1)) 0))%((yd V).getD (m+1) 0))∧(((u.getD (j+(m+2)) 0*1000000000)+(u.getD (j+(m+1)) 0))%((yd V).getD (m+1) 0))<1000000000 from by exact ⟨hgst,by omega⟩) ((.of rfl):SubM _ _) (ho:=((.of [0,0] rfl):PickO _ _ _)) ((.of [0,1,2,3,4,5,6,7,8] rfl):SelR _ _ _) ?_
    rintro ⟨g,r⟩ hG
    replace hG:Big.Gs (yf (u.drop j)) (V:Int) ((yd V).getD (m+1) 0) ((u.getD (j+(m+2)) 0)*1000000000+(u.getD (j+(m+1)) 0)) g r∧r<1000000000:=hG
    try dsimp only
    obtain ⟨hGs,hr9⟩:=hG
    have hgl:=Big.Gs.le hT hGs
    have hg0:=hGs.g0
    have hr0:=hGs.r0
    have hgm:=Big.mul_lim3 hg0 hgl.1 hvs0 hvs1
    refine zg<|zHa (X:=Unit) (fun x=>True) (fun x=>[(123,.bool (decide ((1000000000≤g)∨(((r*1000000000)+(u.getD (j+m) 0))<(g*((yd V).getD m 0)))))),(13,.int .u64 r),(12,.int .u64 g),(10,ya yb ((j:Nat):Int)),(4,.slice (some ⟨b20,0,none⟩) (M - (m+2)) (M - (m+2))),(7,.slice p17 M c18),(9,ya yb (((m+2):Nat):Int)),(8,.slice p313 (m+2) c314),(6,.int .u32 ((s:Nat):Int)),(5,.slice none 0 0)]) (fun x=>[rowA 121 (rI .u32) (some ⟨b20,0,none⟩) (M - (m+2)) (List.replicate (j+1) 0++qs),rowA 121 (rI .u32) p17 c18 u]) (fun x=>[atF b26 o27 [.int .u32 ((yd V).getD (m+1) 0)],atF b23 o24 [.int .u32 ((yd V).getD (m+1) 0)],slF (rI .u32) (some ⟨b16,0,none⟩) 1 ([0]),slF (rI .u32) p313 c314 (yd V),slF (rI .u32) (some ⟨b10,0,none⟩) 1 (yd s),slF (rI .u32) (some ⟨b5,0,none⟩) 1 (yd s),atF b1 o2 [.int .u32 ((yd b).getD ((yd b).length - 1) 0)],slF (rI .u32) p1 c1 (yd a),slF (rI .u32) p2 c2 (yd b)]) ?_ ?_
    ·
     refine zY (OW:=[]) (O:=[rowA 121 (rI .u32) (some ⟨b20,0,none⟩) (M - (m+2)) (List.replicate (j+1) 0++qs),rowA 121 (rI .u32) p17 c18 u]) 100000 mixed (.then (.then (.then (.block (.then (.block (.then (.then (.block (.then .ret)))))))))) kr<|e_dm 0 rfl rfl rfl<|e_pv 1 rfl rfl (zBa rfl rfl)<|zPb 2 rfl rfl kr kr rfl rfl (zW rfl) (fun hge=> ?_) (fun hge=> ?_)
     ·
      refine e_skip 3 rfl rfl<|e_skip 4 rfl rfl<|e_skip 5 rfl rfl<|e_skip 6 rfl rfl<|e_skip 7 rfl rfl<|e_skip 8 rfl rfl<|e_skip 9 rfl rfl<|e_skip 10 rfl rfl<|e_skip 11 rfl rfl<|e_skip 12 rfl rfl<|e_skip 13 rfl rfl<|e_skip 14 rfl rfl<|e_skip 15 rfl rfl<|e_skip 16 rfl rfl<|e_skip 17 rfl rfl<|e_skip 18 rfl rfl<|e_skip 19 rfl rfl<|e_skip 20 rfl rfl<|e_skip 21 rfl rfl<|e_skip 22 rfl rfl<|e_pv 23 rfl rfl (zn rfl rfl)<|zU kr ?_
      exact zga () (show True from by first|trivial|omega|simp_all) ((.e rfl (congrArg Value.bool (by exact (decide_eq_true (.inl hge)).symm)) (.of rfl)):SubM _ _) (ho:=((.of [0,0] rfl):PickO _ _ _)) ((.of [0,1,2,3,4,5,6,7,8] rfl):SelR _ _ _)
     ·
      refine e_dm 3 rfl rfl rfl<|e_dm 4 rfl rfl rfl<|e_dm 5 rfl rfl rfl<|e_pv 6 rfl rfl (zka (z:=((m:Nat):Int)) rfl rfl (w64 om))<|zca (x0:=((yd V).getD m 0)) 7 rfl rfl kr kr 3 m rfl ye sz121 rfl rfl rfl (by first|rfl|assumption|(simp;done)|omega) rfl rfl (gD (d:=0) om) (fun b29 o30 hok31=> ?_)
      replace hok31:=zB.1 hok31
      refine e_u 8 rfl rfl (zv (j:=0) 0 ty121 rfl rfl rfl rfl)<|e_pv 9 rfl rfl (zE (z:=((yd V).getD m 0)) rfl (by rw [yg];rfl) yh (wu64 om))<|e_pv 10 rfl rfl (zFa (z:=(g*((yd V).getD m 0))) rfl rfl (wu64 om))<|e_dm 11 rfl rfl rfl<|e_pv 12 rfl rfl (zFa (z:=(r*1000000000)) rfl rfl (wu64 om))<|e_dm 13 rfl rfl rfl<|e_dm 14 rfl rfl rfl<|e_dm 15 rfl rfl rfl<|e_pv 16 rfl rfl (zK (z:=(((j+(m+2)):Nat):Int)) rfl rfl (w64 om))<|e_pv 17 rfl rfl (zka (z:=(((j+m):Nat):Int)) rfl rfl (w64 om))<|e_u 18 rfl rfl (zqa 1 (j+m) rfl ye sz121 rfl (by first|rfl|assumption|(simp;done)|omega) rfl rfl om)<|d_vl 19 rfl rfl kr kr rfl rfl (zja 1 (j+m) rfl ty121 rfl rfl (gD (d:=0) om) rfl) (fun _ hok32=> ?_)
      replace hok32:=zB.1 hok32
      refine e_pv 20 rfl rfl (zE (z:=(u.getD (j+m) 0)) rfl (by rw [yg];rfl) yh (wu64 om))<|e_pv 21 rfl rfl (zK (z:=((r*1000000000)+(u.getD (j+m) 0))) rfl rfl (wu64 om))<|e_pv 22 rfl rfl (zAa rfl rfl)<|e_pv 23 rfl rfl (zn rfl rfl)<|zU kr ?_
      exact zga () (show True from by first|trivial|omega|simp_all) ((.e rfl (congrArg Value.bool (by exact decide_eq_decide.2 ⟨fun h=> .inr h,fun h=>h.resolve_left hge⟩)) (.of rfl)):SubM _ _) (ho:=((.of [0,0] rfl):PickO _ _ _)) ((.of [1,2,3,4,5,6,7,8,9] rfl):SelR _ _ _)
    ·
     rintro ⟨⟩ -
     try dsimp only
     refine zG rfl (fun hgs=> ?_) (fun hgs=> ?_)
     ·
      have hst:=hGs.step hT hgs
      have hst1:=hst.1
      refine zw<|zd<|zA<|zg<|za<|e_mv rfl<|e_p (zka (z:=(g - 1)) rfl rfl (wu64 om))<|e_p (zc rfl)<|zh<|zd<|zg<|za<|e_mv rfl<|e_mv rfl<|e_mv rfl<|e_p (zka (z:=(((m+1):Nat):Int)) rfl rfl (w64 om))<|zZ (x0:=((yd V).getD (m+1) 0)) 3 (m+1) rfl ye sz121 rfl rfl rfl (by first|rfl|assumption|(simp;done)|omega) rfl rfl (gD (d:=0) om) (fun b33 o34 hok35=> ?_)
      replace hok35:=zB.1 hok35
      refine e_ru (zv (j:=0) 0 ty121 rfl rfl rfl rfl)<|e_p (zE (z:=((yd V).getD (m+1) 0)) rfl (by rw [yg];rfl) yh (wu64 om))<|e_p (zK (z:=(r+((yd V).getD (m+1) 0))) rfl rfl (wu64 om))<|e_p (zc rfl)<|zh<|zd<|zg<|za<|e_mv rfl<|e_p (zBa rfl rfl)<|zh<|zd<|zG rfl (fun hbr=> ?_) (fun hbr=> ?_)
      ·
       refine zna<|ztd rfl<|zj<|zy ?_
       exact zga (g - 1) (show (0≤(g - 1)∧(g - 1)<1000000000)∧(yf (u.drop j))<((g - 1)+1)*(V:Int)∧(g - 1)*(V:Int)<(yf (u.drop j))+(V:Int) from by have hs9:=(hGs.step hT hgs).2;have hb9:=Big.Gs.broke hT hs9 hbr;exact ⟨⟨hs9.g0,hb9.1⟩,hs9.up,Big.Gs.fin hT hs9 hb9.1 hb9.2⟩) ((.of rfl):SubM _ _) (ho:=((.of [0,0] rfl):PickO _ _ _)) ((.of [1,2,3,4,5,6,7,8,9] rfl):SelR _ _ _)
      ·
       refine zw<|zO<|zha ((g - 1),(r+((yd V).getD (m+1) 0))) (show Big.Gs (yf (u.drop j)) (V:Int) ((yd V).getD (m+1) 0) ((u.getD (j+(m+2)) 0)*1000000000+(u.getD (j+(m+1)) 0)) (g - 1) (r+((yd V).getD (m+1) 0))∧(r+((yd V).getD (m+1) 0))<1000000000 from by exact ⟨(hGs.step hT hgs).2,by omega⟩) (by have:=(hGs.step hT hgs).1;show (g - 1).toNat<g.toNat;omega) ((.of rfl):SubM _ _) (ho:=((.of [0,0] rfl):PickO _ _ _)) ((.of [1,2,3,4,5,6,7,8,9] rfl):SelR _ _ _)
     ·
      refine zna<|zj<|zj<|zy ?_
      exact zga g (show (0≤g∧g<1000000000)∧(yf (u.drop j))<(g+1)*(V:Int)∧g*(V:Int)<(yf (u.drop j))+(V:Int) from by exact ⟨⟨hg0,by omega⟩,hGs.up,Big.Gs.fin hT hGs om om⟩) ((.of rfl):SubM _ _) (ho:=((.of [0,0] rfl):PickO _ _ _)) ((.of [0,1,2,3,4,5,6,7,8] rfl):SelR _ _ _)
   ·
    rintro g hC
    replace hC:(0≤g∧g<1000000000)∧(yf (u.drop j))<(g+1)*(V:Int)∧g*(V:Int)<(yf (u.drop j))+(V:Int):=hC
    try dsimp only
    obtain ⟨⟨hg0,hg1⟩,hup,hdn⟩:=hC
    refine zg<|za<|e_p (zc rfl)<|e_p (zc rfl)<|zh<|zd<|zg<|zg<|za<|e_mv rfl<|e_mv rfl<|zh<|zd<|zA<|zpa (X:=Nat×(List Int)×Int×Int) (fun x:Nat×(List Int)×Int×Int=>x.1≤m+2∧Big.MsI u j g (yd V) x.1 x.2.1 x.2.2.1 x.2.2.2) (fun x=>[(15,.int .u64 (x.2.2.2)),(14,ya yb (x.2.2.1)),(137,ya yb ((x.1:Nat):Int)),(136,ya yb (((m+2):Nat):Int)),(12,.int .u64 g),(10,ya yb ((j:Nat):Int)),(4,.slice (some ⟨b20,0,none⟩) (M - (m+2)) (M - (m+2))),(7,.slice p17 M c18),(9,ya yb (((m+2):Nat):Int)),(8,.slice p313 (m+2) c314),(6,.int .u32 ((s:Nat):Int)),(5,.slice none 0 0)]) (fun x=>[rowA 121 (rI .u32) (some ⟨b20,0,none⟩) (M - (m+2)) (List.replicate (j+1) 0++qs),rowA 121 (rI .u32) p17 c18 (x.2.1)]) (fun x=>[atF b26 o27 [.int .u32 ((yd V).getD (m+1) 0)],atF b23 o24 [.int .u32 ((yd V).getD (m+1) 0)],slF (rI .u32) (some ⟨b16,0,none⟩) 1 ([0]),slF (rI .u32) p313 c314 (yd V),slF (rI .u32) (some ⟨b10,0,none⟩) 1 (yd s),slF (rI .u32) (some ⟨b5,0,none⟩) 1 (yd s),atF b1 o2 [.int .u32 ((yd b).getD ((yd b).length - 1) 0)],slF (rI .u32) p1 c1 (yd a),slF (rI .u32) p2 c2 (yd b)]) (fun x:Nat×(List Int)×Int×Int=>(m+2) - x.1) (0,u,0,0) (show 0≤m+2∧Big.MsI u j g (yd V) 0 u 0 0 from by exact ⟨Nat.zero_le _,Big.MsI.start hI.uo j g _⟩) ((.c rfl (.c rfl (.e rfl (by first|rfl|(congr 1;omega)|simp_all) (.of rfl)))):SubM _ _) (ho:=((.of [0,0] rfl):PickO _ _ _)) ((.of [0,1,2,3,4,5,6,7,8] rfl):SelR _ _ _) ?_
    rintro ⟨i,w,bo,ca⟩ hMM
    replace hMM:i≤m+2∧Big.MsI u j g (yd V) i w bo ca:=hMM
    try dsimp only
    obtain ⟨hile,hM2⟩:=hMM
    have hb0:=hM2.b0
    have hb1:=hM2.b1
    have hc0:=hM2.c0
    have hc1:=hM2.c1
    have hwl:=hM2.len
    have hwo:=ym hM2.ok (j+i)
    have hvi:=ym (yp V) i
    have hca:=Big.ms_carry ⟨hg0,hg1⟩ hvi ⟨hc0,hc1⟩
    have hgx:=Int.mul_nonneg hg0 hvi.1
    refine zg<|za<|e_p (zba rfl rfl)<|zh<|zd<|zg<|zG rfl (fun hi=> ?_) (fun hi=> ?_)
    ·
     refine zw<|zd<|zg<|zA<|zg<|za<|e_mv rfl<|e_p (zc rfl)<|zh<|zd<|zg<|za<|e_mv rfl<|e_mv rfl<|e_mv rfl<|zZ (x0:=((yd V).getD i 0)) 3 i rfl ye sz121 rfl rfl rfl (by first|rfl|assumption|(simp;done)|omega) rfl rfl (gD (d:=0) om) (fun b36 o37 hok38=> ?_)
     replace hok38:=zB.1 hok38
     refine e_ru (zv (j:=0) 0 ty121 rfl rfl rfl rfl)<|e_p (zE (z:=((yd V).getD i 0)) rfl (by rw [yg];rfl) yh (wu64 om))<|e_p (zFa (z:=(g*((yd V).getD i 0))) rfl rfl (wu64 om))<|e_mv rfl<|e_p (zK (z:=((g*((yd V).getD i 0))+ca)) rfl rfl (wu64 om))<|e_p (zc rfl)<|zh<|zd<|zg<|za<|e_mv rfl<|e_p (zjb (z:=(((g*((yd V).getD i 0))+ca) / 1000000000)) rfl rfl om (by rw [quoN (z:=(((g*((yd V).getD i 0))+ca) / 1000000000)) om om];exact wu64 om))<|e_p (zc rfl)<|zh<|zd<|zg<|za<|e_mv rfl<|e_mv rfl<|e_mv rfl<|e_p (zK (z:=(((j+i):Nat):Int)) rfl rfl (w64 om))<|e_ru (zqa 1 (j+i) rfl ye sz121 rfl (by first|rfl|assumption|(simp;done)|omega) rfl rfl om)<|r_vl rfl rfl (zja 1 (j+i) rfl ty121 rfl rfl (gD (d:=0) om) rfl) (fun _ hok39=> ?_)
     replace hok39:=zB.1 hok39
     refine e_p (zE (z:=(w.getD (j+i) 0)) rfl (by rw [yg];rfl) yy (w64 om))<|e_mv rfl<|e_p (zka (z:=((w.getD (j+i) 0) - bo)) rfl rfl (w64 om))<|e_mv rfl<|e_p (zxa (z:=(((g*((yd V).getD i 0))+ca)%1000000000)) rfl rfl om (remN om om))<|e_p (zE (z:=(((g*((yd V).getD i 0))+ca)%1000000000)) rfl (by rw [yh];rfl) yy (w64 om))<|e_p (zka (z:=(((w.getD (j+i) 0) - bo) - (((g*((yd V).getD i 0))+ca)%1000000000))) rfl rfl (w64 om))<|e_p (zc rfl)<|zh<|zd<|zg<|za<|e_p (zc rfl)<|zh<|zd<|zg<|zg<|za<|e_mv rfl<|e_p (zba rfl rfl)<|zh<|zd<|zG rfl (fun hneg=> ?_) (fun hneg=> ?_)
     ·
      refine za<|e_mv rfl<|e_p (zK (z:=((((w.getD (j+i) 0) - bo) - (((g*((yd V).getD i 0))+ca)%1000000000))+1000000000)) rfl rfl (w64 om))<|e_p (zc rfl)<|e_p (zc rfl)<|zh<|zd<|za<|e_mv rfl<|e_mv rfl<|e_mv rfl<|e_p (zK (z:=(((j+i):Nat):Int)) rfl rfl (w64 om))<|e_mv rfl<|e_p (zE (z:=((((w.getD (j+i) 0) - bo) - (((g*((yd V).getD i 0))+ca)%1000000000))+1000000000)) rfl (by rw [yy];rfl) yg (wu32 om))<|e_ru (zqa 1 (j+i) rfl ye sz121 rfl (by first|rfl|assumption|(simp;done)|omega) rfl rfl om)<|zJa 1 rfl rfl rfl (zea (j:=(j+i)) (x0:=((((w.getD (j+i) 0) - bo) - (((g*((yd V).getD i 0))+ca)%1000000000))+1000000000)) (γ0:=()) rfl rfl (by first|omega|(rw [List.length_map];omega)|(simp only [List.length_set];omega)|(simp;done)|(simp;omega)) rfl rfl sz121 (fun _ _=>by exact zB.2 om)) (fun _=>(.s .z)) (fun _ _=> ?_)
      refine zh<|zO<|zd<|za<|e_p (zK (z:=(((i+1):Nat):Int)) rfl rfl (w64 om))<|e_mv rfl<|zh<|zha ((i+1),(w.set (j+i) ((((w.getD (j+i) 0) - bo) - (((g*((yd V).getD i 0))+ca)%1000000000))+1000000000)),1,(((g*((yd V).getD i 0))+ca) / 1000000000)) (show (i+1)≤m+2∧Big.MsI u j g (yd V) (i+1) (w.set (j+i) ((((w.getD (j+i) 0) - bo) - (((g*((yd V).getD i 0))+ca)%1000000000))+1000000000)) 1 (((g*((yd V).getD i 0))+ca) / 1000000000) from by exact ⟨by omega,hM2.step ⟨hg0,hg1⟩ (yp V) om om ⟨by omega,by omega⟩ ⟨by decide,by decide⟩⟩) (by show (m+2) - (i+1)<(m+2) - i;omega) ((.of rfl):SubM _ _) (ho:=((.of [0,0] rfl):PickO _ _ _)) ((.of [1,2,3,4,5,6,7,8,9] rfl):SelR _ _ _)
     ·
      refine zw<|zd<|za<|e_mv rfl<|e_mv rfl<|e_mv rfl<|e_p (zK (z:=(((j+i):Nat):Int)) rfl rfl (w64 om))<|e_mv rfl<|e_p (zE (z:=(((w.getD (j+i) 0) - bo) - (((g*((yd V).getD i 0))+ca)%1000000000))) rfl (by rw [yy];rfl) yg (wu32 om))<|e_ru (zqa 1 (j+i) rfl ye sz121 rfl (by first|rfl|assumption|(simp;done)|omega) rfl rfl om)<|zJa 1 rfl rfl rfl (zea (j:=(j+i)) (x0:=(((w.getD (j+i) 0) - bo) - (((g*((yd V).getD i 0))+ca)%1000000000))) (γ0:=()) rfl rfl (by first|omega|(rw [List.length_map];omega)|(simp only [List.length_set];omega)|(simp;done)|(simp;omega)) rfl rfl sz121 (fun _ _=>by exact zB.2 om)) (fun _=>(.s .z)) (fun _ _=> ?_)
      refine zh<|zO<|zd<|za<|e_p (zK (z:=(((i+1):Nat):Int)) rfl rfl (w64 om))<|e_mv rfl<|zh<|zha ((i+1),(w.set (j+i) (((w.getD (j+i) 0) - bo) - (((g*((yd V).getD i 0))+ca)%1000000000))),0,(((g*((yd V).getD i 0))+ca) / 1000000000)) (show (i+1)≤m+2∧Big.MsI u j g (yd V) (i+1) (w.set (j+i) (((w.getD (j+i) 0) - bo) - (((g*((yd V).getD i 0))+ca)%1000000000))) 0 (((g*((yd V).getD i 0))+ca) / 1000000000) from by exact ⟨by omega,hM2.step ⟨hg0,hg1⟩ (yp V) om om ⟨by omega,by omega⟩ ⟨by decide,by decide⟩⟩) (by show (m+2) - (i+1)<(m+2) - i;omega) ((.of rfl):SubM _ _) (ho:=((.of [0,0] rfl):PickO _ _ _)) ((.of [1,2,3,4,5,6,7,8,9] rfl):SelR _ _ _)
    ·
     have hM3:Big.MsI u j g (yd V) (m+2) w bo ca:=by have h8:i=m+2:=om;exact h8 ▸ hM2
     have hwo2:=ym hM2.ok (j+(m+2))
     refine zna<|zj<|zj<|zy<|zd<|zg<|za<|e_mv rfl<|e_mv rfl<|e_mv rfl<|e_p (zK (z:=(((j+(m+2)):Nat):Int)) rfl rfl (w64 om))<|e_ru (zqa 1 (j+(m+2)) rfl ye sz121 rfl (by first|rfl|assumption|(simp;done)|omega) rfl rfl om)<|r_vl rfl rfl (zja 1 (j+(m+2)) rfl ty121 rfl rfl (gD (d:=0) om) rfl) (fun _ hok40=> ?_)
     replace hok40:=zB.1 hok40
     refine e_p (zE (z:=(w.getD (j+(m+2)) 0)) rfl (by rw [yg];rfl) yy (w64 om))<|e_mv rfl<|e_p (zka (z:=((w.getD (j+(m+2)) 0) - bo)) rfl rfl (w64 om))<|e_mv rfl<|e_p (zE (z:=ca) rfl (by rw [yh];rfl) yy (w64 om))<|e_p (zka (z:=(((w.getD (j+(m+2)) 0) - bo) - ca)) rfl rfl (w64 om))<|e_p (zc rfl)<|zh<|zd<|zg<|zg<|za<|e_mv rfl<|e_p (zba rfl rfl)<|zh<|zd<|zG rfl (fun hd=> ?_) (fun hd=> ?_)
     ·
      have hg9:=hI.neg1 hM3 hm hd
      refine zg<|za<|e_mv rfl<|e_mv rfl<|e_mv rfl<|e_p (zK (z:=(((j+(m+2)):Nat):Int)) rfl rfl (w64 om))<|e_mv rfl<|e_p (zK (z:=((((w.getD (j+(m+2)) 0) - bo) - ca)+1000000000)) rfl rfl (w64 om))<|e_p (zE (z:=((((w.getD (j+(m+2)) 0) - bo) - ca)+1000000000)) rfl (by rw [yy];rfl) yg (wu32 om))<|e_ru (zqa 1 (j+(m+2)) rfl ye sz121 rfl (by first|rfl|assumption|(simp;done)|omega) rfl rfl om)<|zJa 1 rfl rfl rfl (zea (j:=(j+(m+2))) (x0:=((((w.getD (j+(m+2)) 0) - bo) - ca)+1000000000)) (γ0:=()) rfl rfl (by first|omega|(rw [List.length_map];omega)|(simp only [List.length_set];omega)|(simp;done)|(simp;omega)) rfl rfl sz121 (fun _ _=>by exact zB.2 om)) (fun _=>(.s .z)) (fun _ _=> ?_)
      refine zh<|zd<|zg<|za<|e_mv rfl<|e_p (zka (z:=(g - 1)) rfl rfl (wu64 om))<|e_p (zc rfl)<|zh<|zd<|zg<|za<|e_p (zc rfl)<|zh<|zd<|zg<|zg<|za<|e_mv rfl<|e_mv rfl<|zh<|zd<|zA<|zpa (X:=Nat×(List Int)×Int) (fun x:Nat×(List Int)×Int=>x.1≤m+2∧Big.AbI (w.set (j+(m+2)) ((((w.getD (j+(m+2)) 0) - bo) - ca)+1000000000)) j (yd V) x.1 x.2.1 x.2.2) (fun x=>[(20,.int .u32 (x.2.2)),(201,ya yb ((x.1:Nat):Int)),(200,ya yb (((m+2):Nat):Int)),(12,.int .u64 (g - 1)),(10,ya yb ((j:Nat):Int)),(4,.slice (some ⟨b20,0,none⟩) (M - (m+2)) (M - (m+2))),(7,.slice p17 M c18),(9,ya yb (((m+2):Nat):Int)),(8,.slice p313 (m+2) c314),(6,.int .u32 ((s:Nat):Int)),(5,.slice none 0 0)]) (fun x=>[rowA 121 (rI .u32) (some ⟨b20,0,none⟩) (M - (m+2)) (List.replicate (j+1) 0++qs),rowA 121 (rI .u32) p17 c18 (x.2.1)]) (fun x=>[atF b26 o27 [.int .u32 ((yd V).getD (m+1) 0)],atF b23 o24 [.int .u32 ((yd V).getD (m+1) 0)],slF (rI .u32) (some ⟨b16,0,none⟩) 1 ([0]),slF (rI .u32) p313 c314 (yd V),slF (rI .u32) (some ⟨b10,0,none⟩) 1 (yd s),slF (rI .u32) (some ⟨b5,0,none⟩) 1 (yd s),atF b1 o2 [.int .u32 ((yd b).getD ((yd b).length - 1) 0)],slF (rI .u32) p1 c1 (yd a),slF (rI .u32) p2 c2 (yd b)]) (fun x:Nat×(List Int)×Int=>(m+2) - x.1) (0,(w.set (j+(m+2)) ((((w.getD (j+(m+2)) 0) - bo) - ca)+1000000000)),0) (show 0≤m+2∧Big.AbI (w.set (j+(m+2)) ((((w.getD (j+(m+2)) 0) - bo) - ca)+1000000000)) j (yd V) 0 (w.set (j+(m+2)) ((((w.getD (j+(m+2)) 0) - bo) - ca)+1000000000)) 0 from by exact ⟨Nat.zero_le _,Big.AbI.start (yN hM2.ok om om) _ _⟩) ((.c rfl (.e rfl (by first|rfl|(congr 1;omega)|simp_all) (.of rfl))):SubM _ _) (ho:=((.c (i:=0) rfl (.e (i:=0) rfl (by first|rfl|(congr 1;omega)|simp_all) .n)):PickO _ _ _)) ((.of [0,1,2,3,4,5,6,7,8] rfl):SelR _ _ _) ?_
      rintro ⟨i2,xs,cc⟩ hAA
      replace hAA:i2≤m+2∧Big.AbI (w.set (j+(m+2)) ((((w.getD (j+(m+2)) 0) - bo) - ca)+1000000000)) j (yd V) i2 xs cc:=hAA
      try dsimp only
      obtain ⟨hile2,hA2⟩:=hAA
      have hk0:=hA2.c0
      have hk1:=hA2.c1
      have hxl:=hA2.len
      rw [List.length_set] at hxl
      have hxo:=ym hA2.ok (j+i2)
      have hvi2:=ym (yp V) i2
      refine zg<|za<|e_p (zba rfl rfl)<|zh<|zd<|zg<|zG rfl (fun hi=> ?_) (fun hi=> ?_)
      ·
       refine zw<|zd<|zg<|zA<|zg<|za<|e_mv rfl<|e_p (zc rfl)<|zh<|zd<|zg<|zY (OW:=[]) (O:=[rowA 121 (rI .u32) (some ⟨b20,0,none⟩) (M - (m+2)) (List.replicate (j+1) 0++qs),rowA 121 (rI .u32) p17 c18 xs]) 100000 mixed (.then (.block (.then (.then (.block (.then (.then (.block (.then (.then (.block (.then .ret)))))))))))) kr<|e_dm 0 rfl rfl rfl<|e_dm 1 rfl rfl rfl<|e_dm 2 rfl rfl rfl<|e_pv 3 rfl rfl (zK (z:=(((j+i2):Nat):Int)) rfl rfl (w64 om))<|e_u 4 rfl rfl (zqa 1 (j+i2) rfl ye sz121 rfl (by first|rfl|assumption|(simp;done)|omega) rfl rfl om)<|d_vl 5 rfl rfl kr kr rfl rfl (zja 1 (j+i2) rfl ty121 rfl rfl (gD (d:=0) om) rfl) (fun _ hok41=> ?_)
       replace hok41:=zB.1 hok41
       refine e_dm 6 rfl rfl rfl<|e_dm 7 rfl rfl rfl<|zca (x0:=((yd V).getD i2 0)) 8 rfl rfl kr kr 3 i2 rfl ye sz121 rfl rfl rfl (by first|rfl|assumption|(simp;done)|omega) rfl rfl (gD (d:=0) om) (fun b42 o43 hok44=> ?_)
       replace hok44:=zB.1 hok44
       refine e_u 9 rfl rfl (zv (j:=0) 0 ty121 rfl rfl rfl rfl)<|e_pv 10 rfl rfl (zK (z:=((xs.getD (j+i2) 0)+((yd V).getD i2 0))) rfl rfl (wu32 om))<|e_dm 11 rfl rfl rfl<|e_pv 12 rfl rfl (zK (z:=(((xs.getD (j+i2) 0)+((yd V).getD i2 0))+cc)) rfl rfl (wu32 om))<|e_pv 13 rfl rfl (zc rfl)<|zU kr<|zd<|zg<|za<|e_p (zc rfl)<|zh<|zd<|zg<|zg<|za<|e_mv rfl<|e_p (zBa rfl rfl)<|zh<|zd<|zG rfl (fun hcy=> ?_) (fun hcy=> ?_)
       ·
        refine za<|e_mv rfl<|e_p (zka (z:=((((xs.getD (j+i2) 0)+((yd V).getD i2 0))+cc) - 1000000000)) rfl rfl (wu32 om))<|e_p (zc rfl)<|e_p (zc rfl)<|zh<|zd<|za<|e_mv rfl<|e_mv rfl<|e_mv rfl<|e_p (zK (z:=(((j+i2):Nat):Int)) rfl rfl (w64 om))<|e_mv rfl<|e_ru (zqa 1 (j+i2) rfl ye sz121 rfl (by first|rfl|assumption|(simp;done)|omega) rfl rfl om)<|zJa 1 rfl rfl rfl (zea (j:=(j+i2)) (x0:=((((xs.getD (j+i2) 0)+((yd V).getD i2 0))+cc) - 1000000000)) (γ0:=()) rfl rfl (by first|omega|(rw [List.length_map];omega)|(simp only [List.length_set];omega)|(simp;done)|(simp;omega)) rfl rfl sz121 (fun _ _=>by exact zB.2 om)) (fun _=>(.s .z)) (fun _ _=> ?_)
        refine zh<|zO<|zd<|za<|e_p (zK (z:=(((i2+1):Nat):Int)) rfl rfl (w64 om))<|e_mv rfl<|zh<|zha ((i2+1),(xs.set (j+i2) ((((xs.getD (j+i2) 0)+((yd V).getD i2 0))+cc) - 1000000000)),1) (show (i2+1)≤m+2∧Big.AbI (w.set (j+(m+2)) ((((w.getD (j+(m+2)) 0) - bo) - ca)+1000000000)) j (yd V) (i2+1) (xs.set (j+i2) ((((xs.getD (j+i2) 0)+((yd V).getD i2 0))+cc) - 1000000000)) 1 from by exact ⟨by omega,hA2.step (by rw [List.length_set];omega) om ⟨by omega,by omega⟩ ⟨by decide,by decide⟩⟩) (by show (m+2) - (i2+1)<(m+2) - i2;omega) ((.of rfl):SubM _ _) (ho:=((.of [0,0] rfl):PickO _ _ _)) ((.of [1,2,3,4,5,6,7,8,9] rfl):SelR _ _ _)
       ·
        refine zw<|zd<|za<|e_mv rfl<|e_mv rfl<|e_mv rfl<|e_p (zK (z:=(((j+i2):Nat):Int)) rfl rfl (w64 om))<|e_mv rfl<|e_ru (zqa 1 (j+i2) rfl ye sz121 rfl (by first|rfl|assumption|(simp;done)|omega) rfl rfl om)<|zJa 1 rfl rfl rfl (zea (j:=(j+i2)) (x0:=(((xs.getD (j+i2) 0)+((yd V).getD i2 0))+cc)) (γ0:=()) rfl rfl (by first|omega|(rw [List.length_map];omega)|(simp only [List.length_set];omega)|(simp;done)|(simp;omega)) rfl rfl sz121 (fun _ _=>by exact zB.2 om)) (fun _=>(.s .z)) (fun _ _=> ?_)
        refine zh<|zO<|zd<|za<|e_p (zK (z:=(((i2+1):Nat):Int)) rfl rfl (w64 om))<|e_mv rfl<|zh<|zha ((i2+1),(xs.set (j+i2) (((xs.getD (j+i2) 0)+((yd V).getD i2 0))+cc)),0) (show (i2+1)≤m+2∧Big.AbI (w.set (j+(m+2)) ((((w.getD (j+(m+2)) 0) - bo) - ca)+1000000000)) j (yd V) (i2+1) (xs.set (j+i2) (((xs.getD (j+i2) 0)+((yd V).getD i2 0))+cc)) 0 from by exact ⟨by omega,hA2.step (by rw [List.length_set];omega) om ⟨by omega,by omega⟩ ⟨by decide,by decide⟩⟩) (by show (m+2) - (i2+1)<(m+2) - i2;omega) ((.of rfl):SubM _ _) (ho:=((.of [0,0] rfl):PickO _ _ _)) ((.of [1,2,3,4,5,6,7,8,9] rfl):SelR _ _ _)
      ·
       have hA3:Big.AbI (w.set (j+(m+2)) ((((w.getD (j+(m+2)) 0) - bo) - ca)+1000000000)) j (yd V) (m+2) xs cc:=by have h8:i2=m+2:=om;exact h8 ▸ hA2
       have hxo2:=ym hA2.ok (j+(m+2))
       refine zna<|zj<|zj<|zy<|zd<|za<|e_mv rfl<|e_mv rfl<|e_mv rfl<|e_p (zK (z:=(((j+(m+2)):Nat):Int)) rfl rfl (w64 om))<|e_mv rfl<|e_mv rfl<|e_mv rfl<|e_p (zK (z:=(((j+(m+2)):Nat):Int)) rfl rfl (w64 om))<|e_ru (zqa 1 (j+(m+2)) rfl ye sz121 rfl (by first|rfl|assumption|(simp;done)|omega) rfl rfl om)<|r_vl rfl rfl (zja 1 (j+(m+2)) rfl ty121 rfl rfl (gD (d:=0) om) rfl) (fun _ hok45=> ?_)
       replace hok45:=zB.1 hok45
       refine e_mv rfl<|e_p (zK (z:=((xs.getD (j+(m+2)) 0)+cc)) rfl rfl (wu32 om))<|e_p (zxa (z:=(((xs.getD (j+(m+2)) 0)+cc)%1000000000)) rfl rfl om (remN om om))<|e_ru (zqa 1 (j+(m+2)) rfl ye sz121 rfl (by first|rfl|assumption|(simp;done)|omega) rfl rfl om)<|zJa 1 rfl rfl rfl (zea (j:=(j+(m+2))) (x0:=(((xs.getD (j+(m+2)) 0)+cc)%1000000000)) (γ0:=()) rfl rfl (by first|omega|(rw [List.length_map];omega)|(simp only [List.length_set];omega)|(simp;done)|(simp;omega)) rfl rfl sz121 (fun _ _=>by exact zB.2 om)) (fun _=>(.s .z)) (fun _ _=> ?_)
       refine zh<|zd<|za<|e_mv rfl<|e_mv rfl<|e_mv rfl<|e_p (zE (z:=(g - 1)) rfl (by rw [yh];rfl) yg (wu32 om))<|e_p (zia (j:=j) ye sz121 rfl rfl rfl om)<|zJa 0 rfl rfl rfl (zea (j:=j) (x0:=(g - 1)) (γ0:=()) rfl rfl (by first|omega|(rw [List.length_map];omega)|(simp only [List.length_set];omega)|(simp;done)|(simp;omega)) rfl rfl sz121 (fun _ _=>by exact zB.2 om)) (fun _=> .z) (fun _ _=> ?_)
       refine zh<|zO<|zd<|za<|e_mv rfl<|e_p (zka (z:=(((j:Nat):Int) - 1)) rfl rfl (w64 om))<|e_p (zc rfl)<|zh<|zha (j,(xs.set (j+(m+2)) (((xs.getD (j+(m+2)) 0)+cc)%1000000000)),((g - 1) :: qs)) (show yT M (m+2) ((A:Nat):Int) ((V:Nat):Int) j (xs.set (j+(m+2)) (((xs.getD (j+(m+2)) 0)+cc)%1000000000)) ((g - 1) :: qs) from by exact (hI.neg ⟨hg0,hg1⟩ hdn hup hM3 hm hd hA3).2) (by show j<j+1;omega) ((.of rfl):SubM _ _) (ho:=((.e (i:=0) rfl (by rw [Big.pad_set]) (.c (i:=0) rfl .n)):PickO _ _ _)) ((.of [2,3,4,5,6,7,8] rfl):SelR _ _ _)
     ·
      refine za<|e_mv rfl<|e_mv rfl<|e_mv rfl<|e_p (zK (z:=(((j+(m+2)):Nat):Int)) rfl rfl (w64 om))<|e_mv rfl<|e_p (zE (z:=(((w.getD (j+(m+2)) 0) - bo) - ca)) rfl (by rw [yy];rfl) yg (wu32 om))<|e_ru (zqa 1 (j+(m+2)) rfl ye sz121 rfl (by first|rfl|assumption|(simp;done)|omega) rfl rfl om)<|zJa 1 rfl rfl rfl (zea (j:=(j+(m+2))) (x0:=(((w.getD (j+(m+2)) 0) - bo) - ca)) (γ0:=()) rfl rfl (by first|omega|(rw [List.length_map];omega)|(simp only [List.length_set];omega)|(simp;done)|(simp;omega)) rfl rfl sz121 (fun _ _=>by exact zB.2 om)) (fun _=>(.s .z)) (fun _ _=> ?_)
      refine zh<|zd<|za<|e_mv rfl<|e_mv rfl<|e_mv rfl<|e_p (zE (z:=g) rfl (by rw [yh];rfl) yg (wu32 om))<|e_p (zia (j:=j) ye sz121 rfl rfl rfl om)<|zJa 0 rfl rfl rfl (zea (j:=j) (x0:=g) (γ0:=()) rfl rfl (by first|omega|(rw [List.length_map];omega)|(simp only [List.length_set];omega)|(simp;done)|(simp;omega)) rfl rfl sz121 (fun _ _=>by exact zB.2 om)) (fun _=> .z) (fun _ _=> ?_)
      refine zh<|zO<|zd<|za<|e_mv rfl<|e_p (zka (z:=(((j:Nat):Int) - 1)) rfl rfl (w64 om))<|e_p (zc rfl)<|zh<|zha (j,(w.set (j+(m+2)) (((w.getD (j+(m+2)) 0) - bo) - ca)),(g :: qs)) (show yT M (m+2) ((A:Nat):Int) ((V:Nat):Int) j (w.set (j+(m+2)) (((w.getD (j+(m+2)) 0) - bo) - ca)) (g :: qs) from by exact hI.pos ⟨hg0,hg1⟩ hup hM3 hm om) (by show j<j+1;omega) ((.of rfl):SubM _ _) (ho:=((.e (i:=0) rfl (by rw [Big.pad_set]) (.c (i:=0) rfl .n)):PickO _ _ _)) ((.of [2,3,4,5,6,7,8] rfl):SelR _ _ _)
  ·
   have hj0:jj=0:=by omega
   have hI0:yT M (m+2) ((A:Nat):Int) ((V:Nat):Int) 0 u qs:=hj0 ▸ hI
   obtain ⟨hf1,hf2⟩:=hI0.fin hm
   have hsc:=Big.scale_div (a:=a) (b:=b) hs1
   have hql:qs.length=M - (m+2):=by have h8:=hI0.ql;omega
   have hul0:=hI0.ul
   refine zna<|zj<|zj<|zy<|zd<|zg<|zFf 1 rfl (.s .z)<|zda 0 rfl (fun hcu=> ?_)
   have hAV:(yd (A%V)).length≤1099511627776:=Nat.le_trans (yL (Nat.le_of_lt (Nat.mod_lt A (Nat.pos_of_ne_zero (fun e=>by rw [e] at hm;cases hm))))) om
   have e46:List.replicate jj 0++qs=qs:=by rw [hj0];rfl
   rw [e46]
   refine za<|e_mv rfl<|e_mv rfl<|e_p (zub (hi:=(m+2)) ye sz121 rfl (.s rfl) (.inr ⟨_,rfl⟩) om)<|zxc (zbc 0 rfl (m+2) om) (fun _ _=> ?_)
   refine zC rfl rfl (.c rfl .n) ce134 (zyb (p:=p17) (n:=(m+2)) (cap:=c18) (l:=(u.take (m+2))) (hn:=cbb)) (.c (j:=0) rfl .n) ?_
   rintro ⟨⟩ -
   dsimp only [aq,nq,cq]
   refine e_mv rfl ?_
   have e47:yn (u.take (m+2))=yd (A%V):=by exact hf2
   rw [e47]
   refine zC rfl rfl (.c rfl (.c rfl .n)) ce160 (zGd (a:=A%V) (mm:=s) (p:=p17) (cap:=c18) (hb:=om) (hm0:=om) (hm1:=om)) (.c (j:=0) rfl .n) ?_
   rintro ⟨p248,c249⟩ -
   dsimp only [aq,nq,cq]
   refine e_mv rfl<|e_p (zt rfl rfl)<|e_p (zt rfl rfl)<|e_p (zc rfl)<|zh<|zd<|zg<|za<|e_mv rfl<|zla 0 rfl .z<|zC rfl rfl (.c rfl .n) ce134 (zyb (p:=some ⟨b20,0,none⟩) (n:=(M - (m+2))) (cap:=(M - (m+2))) (l:=qs) (hn:=cbb)) (.c (j:=0) rfl .n) ?_
   rintro ⟨⟩ -
   dsimp only [aq,nq,cq]
   refine e_mv rfl<|e_p (zc rfl)<|e_p (zc rfl)<|zh<|zd<|zI ?_
   have e50:yn qs=yd (A / V):=by exact hf1
   rw [e50]
   exact zza Tryz.results161 ((some ⟨b20,0,none⟩),(M - (m+2)),p248,c249) trivial (zk rfl) (zk rfl) (by rw [hA,hV,hsc.1,hsc.2]) (ho:=(.n:PickO _ _ _)) ((.e (j:=0) rfl (by rw [hA,hV,hsc.1]) (.e (j:=2) rfl (by rw [hA,hV,hsc.2]) .n)):SelR _ _ _)
end Go.Proofs.YtjcpbhlijoigfaaGreat.Sp
namespace Go.Proofs.YtjcpbhlijoigfaaGreat.Sp
open Go
set_option linter.unusedVariables false
set_option maxRecDepth 100000
set_option maxHeartbeats 8000000
theorem zte {a:Nat} {b:Nat} {p1:Option Addr} {c1:Nat} {p2:Option Addr} {c2:Nat} (hb1:(yd a).length≤1099511627776) (hb2:(yd b).length≤1099511627776) (hb0:0<b):Con yj 155 [.slice p1 ((yd a).length) c1,.slice p2 ((yd b).length) c2] [] [slF (rI .u32) p1 c1 (yd a),slF (rI .u32) p2 c2 (yd b)] (Y:=(Option Addr)×Nat×(Option Addr)×Nat) (fun y=>True) (fun y=> .tuple #[.slice (y.1) ((yd (a / b)).length) (y.2.1),.slice (y.2.2.1) ((yd (a%b)).length) (y.2.2.2)]) (fun y=>[]) (fun y=>[slF (rI .u32) (y.1) (y.2.1) (yd (a / b)),slF (rI .u32) (y.2.2.1) (y.2.2.2) (yd (a%b))]):=by
 refine zl Tryz.func155 rfl rfl rfl (fun c=> ?_)
 show RunC _ _ _ _ _ [(0,.slice p1 ((yd a).length) c1),(1,.slice p2 ((yd b).length) c2)] [] [slF (rI .u32) p1 c1 (yd a),slF (rI .u32) p2 c2 (yd b)]
 refine zda 0 rfl (fun hL0=> ?_)
 refine zda 1 rfl (fun hL1=> ?_)
 have hd1:=Nat.div_le_self a b
 have hd2:=Nat.mod_le a b
 have hob:=ym (yp b) 0
 refine zg<|za<|e_p (zc rfl)<|e_p (zc rfl)<|zh<|zd<|zg<|zg<|za<|e_mv rfl<|e_mv rfl<|zL rfl rfl (.c rfl (.c rfl .n)) ce136 (zXb (a:=a) (b:=b) (p1:=p1) (c1:=c1) (p2:=p2) (c2:=c2)) (.c (j:=0) rfl (.c (j:=1) rfl .n))<|e_p (zba rfl rfl)<|zh<|zd<|zG rfl (fun hlt=> ?_) (fun hlt=> ?_)
 ·
  have hab9:¬(b:Int)≤a:=fun h=>by have:=Big.cmp_ge.2 h;omega
  have hab:a<b:=by omega
  refine zg<|za<|e_mv rfl<|e_p (zc rfl)<|e_p (zc rfl)<|zh<|zd<|zI<|zi ?_
  have hz1:a / b=0:=Nat.div_eq_of_lt hab
  have hz2:a%b=a:=Nat.mod_eq_of_lt hab
  refine zzd (rI .u32) ?_
  exact zza yI (none,0,p1,c1) trivial (zk rfl) (zk rfl) (by rw [hz1,hz2];rfl) (ho:=(.n:PickO _ _ _)) ((.e (j:=0) rfl (by rw [hz1];rfl) (.e (j:=1) rfl (by rw [hz2]) .n)):SelR _ _ _)
 ·
  have hab:b≤a:=by have h9:=Big.cmp_ge.1 (by omega:0≤yG (a:Int) (b:Int));omega
  refine zw<|zd<|zg<|za<|e_mv rfl<|zL rfl rfl (.c rfl .n) ce154 (zEc (a:=a) (p:=p1) (cap:=c1)) (.c (j:=0) rfl .n)<|e_mv rfl<|e_p (zt rfl rfl)<|e_p (zt rfl rfl)<|e_p (zc rfl)<|e_p (zc rfl)<|zh<|zd<|zg<|za<|e_mv rfl<|zL rfl rfl (.c rfl .n) ce154 (zEc (a:=b) (p:=p2) (cap:=c2)) (.c (j:=1) rfl .n)<|e_mv rfl<|e_p (zt rfl rfl)<|e_p (zt rfl rfl)<|e_p (zc rfl)<|e_p (zc rfl)<|zh<|zd<|zg<|zHa (X:=Unit) (fun x=>True) (fun x=>[(30,.bool (decide (((yd a).length≤2)∧((yd b).length≤2)))),(8,.int .u64 (((if (yd b).length≤2 then b else 0):Nat):Int)),(6,.int .u64 (((if (yd a).length≤2 then a else 0):Nat):Int)),(5,.slice none 0 0),(4,.slice none 0 0),(0,.slice p1 ((yd a).length) c1),(1,.slice p2 ((yd b).length) c2)]) (fun x=>[]) (fun x=>[slF (rI .u32) p1 c1 (yd a),slF (rI .u32) p2 c2 (yd b)]) ?_ ?_
  ·
   refine za<|e_mv rfl<|zV rfl rfl (zW rfl) (fun h1=> ?_) (fun h1=> ?_)
   ·
    refine e_mv rfl<|e_p (zn rfl rfl)<|zh ?_
    exact zga () (show True from by first|trivial|omega|simp_all) ((.e rfl (congrArg Value.bool cbu) (.of rfl)):SubM _ _) (ho:=(.n:PickO _ _ _)) ((.of [0,1] rfl):SelR _ _ _)
   ·
    refine e_no<|e_p (zn rfl rfl)<|zh ?_
    exact zga () (show True from by first|trivial|omega|simp_all) ((.e rfl (congrArg Value.bool cbu) (.of rfl)):SubM _ _) (ho:=(.n:PickO _ _ _)) ((.of [0,1] rfl):SelR _ _ _)
  ·
   rintro ⟨⟩ -
   try dsimp only
   refine zG rfl (fun hw=> ?_) (fun hw=> ?_)
   ·
    have ha18:=yR hw.1
    have hb18:=yR hw.2
    have hdn0:(0:Int)≤(a:Int) / (b:Int):=Int.ediv_nonneg om om
    have hdn1:(a:Int) / (b:Int)≤a:=Int.ediv_le_self _ om
    have hdm0:(0:Int)≤(a:Int)%(b:Int):=Int.emod_nonneg _ om
    have hdm1:(a:Int)%(b:Int)<b:=Int.emod_lt_of_pos _ om
    refine zg ?_
    have e2:(if (yd a).length≤2 then a else 0)=a:=by rw [if_pos hw.1]
    rw [e2]
    have e3:(if (yd b).length≤2 then b else 0)=b:=by rw [if_pos hw.2]
    rw [e3]
    refine zY (OW:=[]) (O:=[]) 100000 mixed (.then (.then .ret)) kr<|e_dm 0 rfl rfl rfl<|e_dm 1 rfl rfl rfl<|e_pv 2 rfl rfl (zjb (z:=(((a / b):Nat):Int)) rfl rfl om (by rw [quoN (z:=(((a / b):Nat):Int)) om om];exact wu64 om))<|e_dm 4 rfl rfl rfl<|e_dm 5 rfl rfl rfl<|e_pv 6 rfl rfl (zxa (z:=(((a%b):Nat):Int)) rfl rfl om (remN om om))<|e_one 3 (zx rfl rfl rfl rfl (.c rfl .n) ce115 (zvb (n0:=(a / b)) (hn0:=cbo)) (.n) ?_)
    rintro ⟨p24,c25⟩ -
    dsimp only [aq,nq,cq]
    refine e_one 7 (zx rfl rfl rfl rfl (.c rfl .n) ce115 (zvb (n0:=(a%b)) (hn0:=cbo)) (.n) ?_)
    rintro ⟨p26,c27⟩ -
    dsimp only [aq,nq,cq]
    refine e_pv 8 rfl rfl (zc rfl)<|e_pv 9 rfl rfl (zc rfl)<|zU kr<|zd<|zI<|zi ?_
    exact zza yI (p24,c25,p26,c27) trivial (zk rfl) (zk rfl) rfl (ho:=(.n:PickO _ _ _)) ((.of [1,0] rfl):SelR _ _ _)
   ·
    refine zw<|zd<|zg<|zg<|za<|e_mv rfl<|e_p (zN ye rfl)<|e_p (zDa rfl rfl)<|zh<|zd<|zG rfl (fun hl1=> ?_) (fun hl1=> ?_)
    ·
     have hbd:=Big.one_digit (by omega:(yd b).length=1)
     have hln0:=Big.zjf hb0
     have hmlt:=Nat.mod_lt a hb0
     have hdm0:(0:Int)≤(a:Int)%(b:Int):=Int.emod_nonneg _ om
     have hdm1:(a:Int)%(b:Int)<b:=Int.emod_lt_of_pos _ om
     refine zg<|za<|e_mv rfl<|e_mv rfl<|zZ (x0:=((yd b).getD 0 0)) 1 0 rfl ye sz121 rfl rfl rfl (by first|rfl|assumption|(simp;done)|omega) rfl rfl (gD (d:=0) om) (fun b8 o9 hok10=> ?_)
     replace hok10:=zB.1 hok10
     refine e_ru (zv (j:=0) 0 ty121 rfl rfl rfl rfl) ?_
     have e11:(((yd b).getD 0 0):Int)=((b:Nat):Int):=by exact hbd
     rw [e11]
     refine zC rfl rfl (.c rfl (.c rfl .n)) ce160 (zGd (a:=a) (mm:=b) (p:=p1) (cap:=c1) (hb:=ass) (hm0:=ass) (hm1:=cbo)) (.c (j:=1) rfl .n) ?_
     rintro ⟨p212,c213⟩ -
     dsimp only [aq,nq,cq]
     refine e_mv rfl<|e_p (zt rfl rfl)<|e_p (zt rfl rfl)<|e_p (zc rfl)<|e_p (zc rfl)<|zh<|zd<|zg<|za<|e_mv rfl<|e_mv rfl<|e_p (zE (z:=(((a%b):Nat):Int)) rfl (by rw [yg];rfl) yh (wu64 om))<|zC rfl rfl (.c rfl .n) ce115 (zvb (n0:=(a%b)) (hn0:=cbo)) (.n) ?_
     rintro ⟨p214,c215⟩ -
     dsimp only [aq,nq,cq]
     refine e_p (zc rfl)<|e_p (zc rfl)<|zh<|zd<|zI<|zi ?_
     exact zza yI (p212,c213,p214,c215) trivial (zk rfl) (zk rfl) rfl (ho:=(.n:PickO _ _ _)) ((.of [1,0] rfl):SelR _ _ _)
    ·
     have hln0:=Big.zjf hb0
     refine zw<|zd<|zg<|za<|e_mv rfl<|e_mv rfl<|zC rfl rfl (.c rfl (.c rfl .n)) ce161 (zUf (a:=a) (b:=b) (p1:=p1) (c1:=c1) (p2:=p2) (c2:=c2) (hb1:=ass) (hb2:=ass) (hb3:=cbo) (hab:=cbo)) (.c (j:=0) rfl (.c (j:=1) rfl .n)) ?_
     rintro ⟨p316,c317,p418,c419⟩ -
     dsimp only [aq,nq,cq]
     refine e_p (zt rfl rfl)<|e_p (zt rfl rfl)<|e_p (zc rfl)<|e_p (zc rfl)<|zh<|zd<|zI ?_
     exact zza yI (p316,c317,p418,c419) trivial (zk rfl) (zk rfl) rfl (ho:=(.n:PickO _ _ _)) ((.of [0,1] rfl):SelR _ _ _)
theorem ztf {s:Bool} {p1:Option Addr} {n1:Nat} {c1:Nat} {l1:List Int} {t:Bool} {p2:Option Addr} {n2:Nat} {c2:Nat} {l2:List Int} (hn1:l1.length=n1) (hn2:l2.length=n2) (hb1:yx (yk s l1)≤1099511627776) (hb2:yx (yk t l2)≤1099511627776):Con yj 140 [.agg #[.bool s,.slice p1 n1 c1],.agg #[.bool t,.slice p2 n2 c2]] [] [slF (rI .u32) p1 c1 l1,slF (rI .u32) p2 c2 l2] (Y:=(Option Addr)×Nat) (fun y=>True) (fun y=> .agg #[.bool (decide (((Nat.gcd (yk s l1).natAbs (yk t l2).natAbs:Nat):Int)<0)),.slice (y.1) ((yd (((Nat.gcd (yk s l1).natAbs (yk t l2).natAbs:Nat):Int).natAbs)).length) (y.2)]) (fun y=>[]) (fun y=>[slF (rI .u32) (y.1) (y.2) (yd (((Nat.gcd (yk s l1).natAbs (yk t l2).natAbs:Nat):Int).natAbs))]):=by
 refine zl Tryz.func140 rfl rfl rfl (fun c=> ?_)
 show RunC _ _ _ _ _ [(0,.agg #[.bool s,.slice p1 n1 c1]),(1,.agg #[.bool t,.slice p2 n2 c2])] [] [slF (rI .u32) p1 c1 l1,slF (rI .u32) p2 c2 l2]
 refine zda 0 rfl (fun hL0=> ?_)
 refine zTa 0 rfl (fun hE0=> ?_)
 refine zda 1 rfl (fun hL1=> ?_)
 refine zTa 1 rfl (fun hE1=> ?_)
 have hnn1:yK l1:=fun g hg=>(zB.1 (hE0 g hg)).1
 have hnn2:yK l2:=fun g hg=>(zB.1 (hE1 g hg)).1
 obtain ⟨x1,hx1⟩:∃z,z=yk s l1:=⟨_,rfl⟩
 obtain ⟨x2,hx2⟩:∃z,z=yk t l2:=⟨_,rfl⟩
 unfold yx at hb1 hb2
 refine zg<|za<|zM rfl rfl (zS rfl rfl) (fun b1=> ?_)
 refine zM rfl rfl (zS rfl rfl) (fun b2=> ?_)
 refine zM rfl rfl (zo zr41 rfl) (fun b3=> ?_)
 refine zh<|zd<|zg<|zY (OW:=[]) (O:=[boxA b3 41 [wz.b,wz.l],boxA b2 41 [.bool t,.slice p2 n2 c2],boxA b1 41 [.bool s,.slice p1 n1 c1]]) 100000 mixed (.then .ret) kr<|e_u 0 rfl rfl (zb 2 ty41 rfl rfl (.t2 .nil))<|e_u 2 rfl rfl (zb 1 ty41 rfl rfl (.t2 .nil))<|e_one 1 (zx rfl rfl rfl rfl (.c rfl .n) ce117 (zQa (s:=s) (p:=p1) (n:=n1) (cap:=c1) (l:=l1) (hn:=ass)) (.c (j:=0) rfl .n) ?_)
 rintro ⟨p24,c25⟩ -
 dsimp only [aq,nq,cq]
 refine e_one 3 (zx rfl rfl rfl rfl (.c rfl .n) ce117 (zQa (s:=t) (p:=p2) (n:=n2) (cap:=c2) (l:=l2) (hn:=ass)) (.c (j:=2) rfl .n) ?_)
 rintro ⟨p26,c27⟩ -
 dsimp only [aq,nq,cq]
 refine e_pv 4 rfl rfl (zc rfl)<|e_pv 5 rfl rfl (zc rfl)<|zU kr<|zd<|zg<|zA<|zpa (X:=Nat×Nat×(Option Addr)×Nat×(Option Addr)×Nat) (fun x:Nat×Nat×(Option Addr)×Nat×(Option Addr)×Nat=>Nat.gcd x.1 x.2.1=Nat.gcd (yk s l1).natAbs (yk t l2).natAbs∧(yd x.1).length≤1099511627776∧(yd x.2.1).length≤1099511627776) (fun x=>[(6,.slice (x.2.2.2.2.1) ((yd (x.2.1)).length) (x.2.2.2.2.2)),(5,.slice (x.2.2.1) ((yd (x.1)).length) (x.2.2.2.1)),(4,yc (some ⟨b3,0,none⟩))]) (fun x=>[boxA b3 41 [wz.b,wz.l],boxA b2 41 [.bool t,.slice p2 n2 c2],boxA b1 41 [.bool s,.slice p1 n1 c1]]) (fun x=>[slF (rI .u32) (x.2.2.1) (x.2.2.2.1) (yd (x.1)),slF (rI .u32) (x.2.2.2.2.1) (x.2.2.2.2.2) (yd (x.2.1)),slF (rI .u32) p26 c27 (yd ((yk t l2).natAbs)),slF (rI .u32) p24 c25 (yd ((yk s l1).natAbs)),slF (rI .u32) p1 c1 l1,slF (rI .u32) p2 c2 l2]) (fun x:Nat×Nat×(Option Addr)×Nat×(Option Addr)×Nat=>x.2.1) ((yk s l1).natAbs,(yk t l2).natAbs,p24,c25,p26,c27) (show Nat.gcd ((yk s l1).natAbs) ((yk t l2).natAbs)=Nat.gcd (yk s l1).natAbs (yk t l2).natAbs∧(yd ((yk s l1).natAbs)).length≤1099511627776∧(yd ((yk t l2).natAbs)).length≤1099511627776 from by exact ⟨rfl,hb1,hb2⟩) ((.of rfl):SubM _ _) (ho:=((.of [0,0,0] rfl):PickO _ _ _)) ((.of [1,0,0,1,2,3] rfl):SelR _ _ _) ?_
 rintro ⟨a,b,pa,ca,pb,cb⟩ hI
 replace hI:Nat.gcd a b=Nat.gcd (yk s l1).natAbs (yk t l2).natAbs∧(yd a).length≤1099511627776∧(yd b).length≤1099511627776:=hI
 try dsimp only
 obtain ⟨hgc,hba,hbb⟩:=hI
 refine zg<|zg<|za<|e_mv rfl<|e_p (zN ye rfl)<|e_p (zAa rfl rfl)<|zh<|zd<|zG rfl (fun hne=> ?_) (fun hne=> ?_)
 ·
  have hb0:0<b:=Nat.pos_of_ne_zero (fun e=>by rw [e] at hne;simp [Big.digs_zero] at hne)
  refine zw<|zd<|zA<|zg<|za<|e_mv rfl<|zL rfl rfl (.c rfl .n) ce154 (zEc (a:=a) (p:=pa) (cap:=ca)) (.c (j:=0) rfl .n)<|e_mv rfl<|e_p (zt rfl rfl)<|e_p (zt rfl rfl)<|e_p (zc rfl)<|e_p (zc rfl)<|zh<|zd<|zg<|za<|e_mv rfl<|zL rfl rfl (.c rfl .n) ce154 (zEc (a:=b) (p:=pb) (cap:=cb)) (.c (j:=1) rfl .n)<|e_mv rfl<|e_p (zt rfl rfl)<|e_p (zt rfl rfl)<|e_p (zc rfl)<|e_p (zc rfl)<|zh<|zd<|zg<|zHa (X:=Unit) (fun x=>True) (fun x=>[(33,.bool (decide (((yd a).length≤2)∧((yd b).length≤2)))),(9,.int .u64 (((if (yd b).length≤2 then b else 0):Nat):Int)),(7,.int .u64 (((if (yd a).length≤2 then a else 0):Nat):Int)),(6,.slice pb ((yd b).length) cb),(5,.slice pa ((yd a).length) ca),(4,yc (some ⟨b3,0,none⟩))]) (fun x=>[boxA b3 41 [wz.b,wz.l],boxA b2 41 [.bool t,.slice p2 n2 c2],boxA b1 41 [.bool s,.slice p1 n1 c1]]) (fun x=>[slF (rI .u32) pa ca (yd a),slF (rI .u32) pb cb (yd b),slF (rI .u32) p26 c27 (yd ((yk t l2).natAbs)),slF (rI .u32) p24 c25 (yd ((yk s l1).natAbs)),slF (rI .u32) p1 c1 l1,slF (rI .u32) p2 c2 l2]) ?_ ?_
  ·
   refine za<|e_mv rfl<|zV rfl rfl (zW rfl) (fun hw1=> ?_) (fun hw1=> ?_)
   ·
    refine e_mv rfl<|e_p (zn rfl rfl)<|zh ?_
    exact zga () (show True from by first|trivial|omega|simp_all) ((.e rfl (congrArg Value.bool cbu) (.of rfl)):SubM _ _) (ho:=((.of [0,0,0] rfl):PickO _ _ _)) ((.of [0,1,2,3,4,5] rfl):SelR _ _ _)
   ·
    refine e_no<|e_p (zn rfl rfl)<|zh ?_
    exact zga () (show True from by first|trivial|omega|simp_all) ((.e rfl (congrArg Value.bool cbu) (.of rfl)):SubM _ _) (ho:=((.of [0,0,0] rfl):PickO _ _ _)) ((.of [0,1,2,3,4,5] rfl):SelR _ _ _)
  ·
   rintro ⟨⟩ -
   try dsimp only
   refine zG rfl (fun hw=> ?_) (fun hw=> ?_)
   ·
    have ha18:=yR hw.1
    have hb18:=yR hw.2
    have e8:(if (yd a).length≤2 then a else 0)=a:=by rw [if_pos hw.1]
    rw [e8]
    have e9:(if (yd b).length≤2 then b else 0)=b:=by rw [if_pos hw.2]
    rw [e9]
    refine zg<|zA<|zpa (X:=Nat×Nat) (fun x:Nat×Nat=>Nat.gcd x.1 x.2=Nat.gcd a b∧x.1<1000000000000000000∧x.2<1000000000000000000) (fun x=>[(9,.int .u64 ((x.2:Nat):Int)),(7,.int .u64 ((x.1:Nat):Int)),(6,.slice pb ((yd b).length) cb),(5,.slice pa ((yd a).length) ca),(4,yc (some ⟨b3,0,none⟩))]) (fun x=>[boxA b3 41 [wz.b,wz.l],boxA b2 41 [.bool t,.slice p2 n2 c2],boxA b1 41 [.bool s,.slice p1 n1 c1]]) (fun x=>[slF (rI .u32) pa ca (yd a),slF (rI .u32) pb cb (yd b),slF (rI .u32) p26 c27 (yd ((yk t l2).natAbs)),slF (rI .u32) p24 c25 (yd ((yk s l1).natAbs)),slF (rI .u32) p1 c1 l1,slF (rI .u32) p2 c2 l2]) (fun x:Nat×Nat=>x.2) (a,b) (show Nat.gcd a b=Nat.gcd a b∧a<1000000000000000000∧b<1000000000000000000 from by exact ⟨rfl,ha18,hb18⟩) ((.of rfl):SubM _ _) (ho:=((.of [0,0,0] rfl):PickO _ _ _)) ((.of [0,1,2,3,4,5] rfl):SelR _ _ _) ?_
    rintro ⟨q,r⟩ hJ
    replace hJ:Nat.gcd q r=Nat.gcd a b∧q<1000000000000000000∧r<1000000000000000000:=hJ
    try dsimp only
    obtain ⟨hgq,hq18,hr18⟩:=hJ
    have hmr:=Nat.mod_le q r
    refine zg<|zg<|za<|e_mv rfl<|e_p (zAa rfl rfl)<|zh<|zd<|zG rfl (fun hy=> ?_) (fun hy=> ?_)
    ·
     refine zw<|zd<|zA<|zY (OW:=[]) (O:=[boxA b3 41 [wz.b,wz.l],boxA b2 41 [.bool t,.slice p2 n2 c2],boxA b1 41 [.bool s,.slice p1 n1 c1]]) 100000 mixed (.block (.then (.block (.then (.then (.block (.then (.block (.then .ret))))))))) kr<|e_dm 0 rfl rfl rfl<|e_dm 1 rfl rfl rfl<|e_dm 2 rfl rfl rfl<|e_pv 3 rfl rfl (zxa (z:=(((q%r):Nat):Int)) rfl rfl om (remN om om))<|e_pv 4 rfl rfl (zc rfl)<|e_pv 5 rfl rfl (zc rfl)<|zU kr<|zO<|zha (r,(q%r)) (show Nat.gcd r (q%r)=Nat.gcd a b∧r<1000000000000000000∧(q%r)<1000000000000000000 from by exact ⟨by rw [Big.gcd_rest,hgq],hr18,by omega⟩) (by exact Nat.mod_lt q om) ((.of rfl):SubM _ _) (ho:=((.of [0,0,0] rfl):PickO _ _ _)) ((.of [0,1,2,3,4,5] rfl):SelR _ _ _)
    ·
     have hrz:r=0:=by omega
     have hfin:q=Nat.gcd (yk s l1).natAbs (yk t l2).natAbs:=by rw [← hgc,←hgq,hrz,Nat.gcd_zero_right]
     refine zna<|zj<|zj<|zy<|zd<|zg<|za<|e_mv rfl<|zC rfl rfl (.c rfl .n) ce115 (zvb (n0:=q) (hn0:=cbo)) (.n) ?_
     rintro ⟨p210,c211⟩ -
     dsimp only [aq,nq,cq]
     refine zC rfl rfl (.c rfl (.c rfl .n)) ce114 (zCa (s:=false) (a:=q) (p:=p210) (cap:=c211)) (.c (j:=0) rfl .n) ?_
     rintro ⟨p212,c213⟩ -
     dsimp only [aq,nq,cq]
     refine zm 0 rfl rfl rfl rfl rfl sz41 rfl (.t2 .nil) .z<|zh<|zd<|zI<|zi<|zp<|zi<|zp<|zi ?_
     exact zu Tryz.results140 (p212,c213) trivial (zr 0 ty41 rfl rfl (.t2 .nil)) (by rw [← hfin];rfl) (ho:=(.n:PickO _ _ _)) ((.e (j:=0) rfl (by rw [← hfin];rfl) .n):SelR _ _ _)
   ·
    refine zw<|zd<|zg<|za<|e_mv rfl<|e_mv rfl<|zC rfl rfl (.c rfl (.c rfl .n)) ce155 (zte (a:=a) (b:=b) (p1:=pa) (c1:=ca) (p2:=pb) (c2:=cb) (hb1:=cbo) (hb2:=cbo) (hb0:=cbo)) (.c (j:=0) rfl (.c (j:=1) rfl .n)) ?_
    rintro ⟨p314,c315,p416,c417⟩ -
    dsimp only [aq,nq,cq]
    refine e_mv rfl<|e_p (zt rfl rfl)<|e_p (zt rfl rfl)<|e_p (zc rfl)<|e_p (zc rfl)<|zh<|zd<|za<|e_mv rfl<|e_mv rfl<|e_p (zc rfl)<|e_p (zc rfl)<|zh<|zO<|zha (b,(a%b),pb,cb,p416,c417) (show Nat.gcd b (a%b)=Nat.gcd (yk s l1).natAbs (yk t l2).natAbs∧(yd b).length≤1099511627776∧(yd (a%b)).length≤1099511627776 from by exact ⟨by rw [Big.gcd_rest,hgc],hbb,Nat.le_trans (yL (Nat.le_of_lt (Nat.mod_lt a hb0))) hbb⟩) (by exact Nat.mod_lt a hb0) ((.e rfl (by first|rfl|(congr 1;omega)|simp_all) (.c rfl (.c rfl .n))):SubM _ _) (ho:=((.of [0,0,0] rfl):PickO _ _ _)) ((.c (j:=3) rfl (.e (j:=1) rfl (by first|rfl|simp_all) (.of [4,5,6,7] rfl))):SelR _ _ _)
 ·
  have hbz:b=0:=yF.1 om
  have hfin:a=Nat.gcd (yk s l1).natAbs (yk t l2).natAbs:=by rw [← hgc,hbz,Nat.gcd_zero_right]
  refine zna<|zj<|zj<|zy<|zd<|zg<|za<|e_mv rfl<|zC rfl rfl (.c rfl .n) ce153 (znd (a:=a) (p:=pa) (cap:=ca) (hb:=cbo)) (.c (j:=0) rfl .n) ?_
  rintro ⟨p218,c219⟩ -
  dsimp only [aq,nq,cq]
  refine zC rfl rfl (.c rfl (.c rfl .n)) ce114 (zCa (s:=false) (a:=a) (p:=p218) (cap:=c219)) (.c (j:=0) rfl .n) ?_
  rintro ⟨p220,c221⟩ -
  dsimp only [aq,nq,cq]
  refine zm 0 rfl rfl rfl rfl rfl sz41 rfl (.t2 .nil) .z<|zh<|zd<|zI ?_
  exact zu Tryz.results140 (p220,c221) trivial (zr 0 ty41 rfl rfl (.t2 .nil)) (by rw [← hfin];rfl) (ho:=(.n:PickO _ _ _)) ((.e (j:=0) rfl (by rw [← hfin];rfl) .n):SelR _ _ _)
theorem zVf {x1:Int} {x2:Int} {p1:Option Addr} {c1:Nat} {p2:Option Addr} {c2:Nat} (hb1:yx x1≤1099511627776) (hb2:yx x2≤1099511627776):Con yj 140 [.agg #[.bool (decide ((x1)<0)),.slice (p1) ((yd ((x1).natAbs)).length) (c1)],.agg #[.bool (decide ((x2)<0)),.slice (p2) ((yd ((x2).natAbs)).length) (c2)]] [] [slF (rI .u32) (p1) (c1) (yd ((x1).natAbs)),slF (rI .u32) (p2) (c2) (yd ((x2).natAbs))] (Y:=(Option Addr)×(Nat)) (fun y=>True) (fun y=> .agg #[.bool (decide ((((Nat.gcd x1.natAbs x2.natAbs:Nat):Int))<0)),.slice (y.1) ((yd ((((Nat.gcd x1.natAbs x2.natAbs:Nat):Int)).natAbs)).length) (y.2)]) (fun y=>[]) (fun y=>[slF (rI .u32) (y.1) (y.2) (yd ((((Nat.gcd x1.natAbs x2.natAbs:Nat):Int)).natAbs))]):=by
  have h:= @ztf (decide ((x1)<0)) p1 (yd (x1).natAbs).length c1 (yd (x1).natAbs) (decide ((x2)<0)) p2 (yd (x2).natAbs).length c2 (yd (x2).natAbs) rfl rfl (by rw [yt];exact hb1) (by rw [yt];exact hb2)
  rw [yt,yt] at h
  exact h
theorem zue {w1:Wd} {w2:Wd} {x1:Int} {x2:Int} (hb1:yx x1≤1099511627776) (hb2:yx x2≤1099511627776):Con yj 140 [.agg #[w1.b,w1.l],.agg #[w2.b,w2.l]] [] [zF w1 (x1),zF w2 (x2)] (Y:=(Wd)) (fun y=>True) (fun y=> .agg #[y.b,y.l]) (fun y=>[]) (fun y=>[zF y (((Nat.gcd x1.natAbs x2.natAbs:Nat):Int))]):=by
  exact zUb (zCc (fun p1 c1 p2 c2=>zVf hb1 hb2))
end Go.Proofs.YtjcpbhlijoigfaaGreat.Sp
namespace Go.Proofs.YtjcpbhlijoigfaaGreat.Sp
open Go
set_option linter.unusedVariables false
set_option maxRecDepth 100000
set_option maxHeartbeats 8000000
theorem zce {x1:Int} {x2:Int} {p1:Option Addr} {c1:Nat} {p2:Option Addr} {c2:Nat} (hb1:yx x1≤1099511627776) (hb2:yx x2≤1099511627776) (hy:x2≠0):Con yj 141 [.agg #[.bool (decide (x1<0)),.slice p1 ((yd ((x1).natAbs)).length) c1],.agg #[.bool (decide (x2<0)),.slice p2 ((yd ((x2).natAbs)).length) c2]] [] [slF (rI .u32) p1 c1 (yd ((x1).natAbs)),slF (rI .u32) p2 c2 (yd ((x2).natAbs))] (Y:=(Option Addr)×Nat×(Option Addr)×Nat) (fun y=>True) (fun y=> .tuple #[.agg #[.bool (decide ((Big.fq x1 x2)<0)),.slice (y.1) ((yd ((Big.fq x1 x2).natAbs)).length) (y.2.1)],.agg #[.bool (decide ((Big.fr x1 x2)<0)),.slice (y.2.2.1) ((yd ((Big.fr x1 x2).natAbs)).length) (y.2.2.2)],ya yb 0]) (fun y=>[]) (fun y=>[slF (rI .u32) (y.1) (y.2.1) (yd ((Big.fq x1 x2).natAbs)),slF (rI .u32) (y.2.2.1) (y.2.2.2) (yd ((Big.fr x1 x2).natAbs))]):=by
 refine zl Tryz.func141 rfl rfl rfl (fun c=> ?_)
 show RunC _ _ _ _ _ [(0,.agg #[.bool (decide (x1<0)),.slice p1 ((yd ((x1).natAbs)).length) c1]),(1,.agg #[.bool (decide (x2<0)),.slice p2 ((yd ((x2).natAbs)).length) c2])] [] [slF (rI .u32) p1 c1 (yd ((x1).natAbs)),slF (rI .u32) p2 c2 (yd ((x2).natAbs))]
 refine zda 0 rfl (fun hL0=> ?_)
 refine zda 1 rfl (fun hL1=> ?_)
 unfold yx at hb1 hb2
 have hd1:=Nat.div_le_self x1.natAbs x2.natAbs
 have hd2:=Nat.mod_lt x1.natAbs (show 0<x2.natAbs by omega)
 have hl1:=yL hd1
 have hl2:=yL (Nat.le_of_lt hd2)
 refine zg<|za<|zM rfl rfl (zS rfl rfl) (fun b1=> ?_)
 refine zM rfl rfl (zS rfl rfl) (fun b2=> ?_)
 refine zM rfl rfl (zo zr41 rfl) (fun b3=> ?_)
 refine zM rfl rfl (zo zr41 rfl) (fun b4=> ?_)
 refine e_p (zc rfl)<|zh<|zd<|zg<|zY (OW:=[]) (O:=[boxA b4 41 [wz.b,wz.l],boxA b3 41 [wz.b,wz.l],boxA b2 41 [.bool (decide (x2<0)),.slice p2 ((yd ((x2).natAbs)).length) c2],boxA b1 41 [.bool (decide (x1<0)),.slice p1 ((yd ((x1).natAbs)).length) c1]]) 100000 mixed (.then .ret) kr<|e_u 0 rfl rfl (zb 3 ty41 rfl rfl (.t2 .nil))<|e_u 2 rfl rfl (zb 2 ty41 rfl rfl (.t2 .nil))<|e_one 1 (zx rfl rfl rfl rfl (.c rfl .n) ce117 (zzb (z:=x1) (p:=p1) (cap:=c1)) (.c (j:=0) rfl .n) ?_)
 rintro ⟨p25,c26⟩ -
 dsimp only [aq,nq,cq]
 refine e_one 3 (zx rfl rfl rfl rfl (.c rfl .n) ce117 (zzb (z:=x2) (p:=p2) (cap:=c2)) (.c (j:=2) rfl .n) ?_)
 rintro ⟨p27,c28⟩ -
 dsimp only [aq,nq,cq]
 refine e_pv 4 rfl rfl (zc rfl)<|e_pv 5 rfl rfl (zc rfl)<|zU kr<|zd<|zg<|zg<|za<|e_mv rfl<|e_p (zN ye rfl)<|e_p (zDa rfl rfl)<|zh<|zd<|zG rfl (fun h9=> ?_) (fun h9=> ?_)
 ·
  exact absurd (yF.1 (show (yd x2.natAbs).length=0 by omega)) om
 ·
  refine zw<|zd<|zg<|za<|e_mv rfl<|e_mv rfl<|zC rfl rfl (.c rfl (.c rfl .n)) ce155 (zte (a:=(x1).natAbs) (b:=(x2).natAbs) (p1:=p25) (c1:=c26) (p2:=p27) (c2:=c28) (hb1:=by first|rfl|assumption|omega|(decide +kernel)) (hb2:=by first|rfl|assumption|omega|(decide +kernel)) (hb0:=by first|rfl|assumption|omega|(decide +kernel))) (.c (j:=1) rfl (.c (j:=0) rfl .n)) ?_
  rintro ⟨p310,c311,p412,c413⟩ -
  dsimp only [aq,nq,cq]
  refine e_mv rfl<|e_p (zt rfl rfl)<|e_p (zt rfl rfl)<|e_p (zc rfl)<|e_p (zc rfl)<|zh<|zd<|zg<|za<|e_mv rfl<|zC rfl rfl (.c rfl .n) ce153 (znd (a:=((x1).natAbs)%((x2).natAbs)) (p:=p412) (cap:=c413) (hb:=by first|rfl|assumption|omega|(decide +kernel))) (.c (j:=1) rfl .n) ?_
  rintro ⟨p214,c215⟩ -
  dsimp only [aq,nq,cq]
  refine e_p (zc rfl)<|zh<|zd<|zg<|zg<|za<|e_mv rfl<|e_p (zN ye rfl)<|e_p (zAa rfl rfl)<|zV rfl rfl (zW rfl) (fun hpos=> ?_) (fun hpos=> ?_)
  ·
   refine e_p (zf yl rfl sz4 rfl rfl)<|e_ru (ze 3 ty4 rfl rfl rfl)<|e_p (zf yl rfl sz4 rfl rfl)<|e_ru (ze 2 ty4 rfl rfl rfl)<|e_p (zOa yB rfl rfl)<|e_p (zn rfl rfl)<|zh<|zd<|zG rfl (fun hadj=> ?_) (fun hadj=> ?_)
   ·
    have hsg:(decide (decide (x1<0)≠decide (x2<0)))=true:=decide_eq_true hadj
    have hr0:x1.natAbs%x2.natAbs≠0:=fun e=>by have h9:=hpos;rw [e,Big.digs_zero] at h9;exact absurd h9 dd
    refine za<|e_mv rfl<|zIa rfl rfl (zX (enc:=fun z:Int=>[.int .u32 z]) (ok:=InK .u32) (h1:=fun _=>rfl) (h2:=fun _=>rfl) (k:=1) ye inf121 rfl dd dd dd (.c (x:=1) rfl rfl (fun _ _=>by exact zB.2 om) .n)) (fun b16 _=> ?_)
    refine zla 0 rfl .z ?_
    have e17:[1]=yd 1:=by exact (Big.digs_one (s:=1) dd dd).symm
    rw [e17]
    have e18:(.slice (some ⟨b16,0,none⟩) 1 1:Value)= .slice (some ⟨b16,0,none⟩) ((yd 1).length) 1:=by rfl
    rw [e18]
    refine zC rfl rfl (.c rfl (.c rfl .n)) ce135 (zEd (a:=((x1).natAbs) / ((x2).natAbs)) (b:=1) (p1:=p310) (c1:=c311) (p2:=some ⟨b16,0,none⟩) (c2:=1) (hb1:=by first|rfl|assumption|omega|(decide +kernel)) (hb2:=by first|rfl|assumption|omega|(decide +kernel))) (.c (j:=2) rfl (.c (j:=0) rfl .n)) ?_
    rintro ⟨p319,c320⟩ -
    dsimp only [aq,nq,cq]
    refine e_mv rfl<|e_mv rfl<|zC rfl rfl (.c rfl (.c rfl .n)) ce137 (zVc (a:=(x2).natAbs) (b:=(((x1).natAbs)%((x2).natAbs))) (p1:=p27) (c1:=c28) (p2:=p214) (c2:=c215) (hb1:=by first|rfl|assumption|omega|(decide +kernel)) (hb2:=by first|rfl|assumption|omega|(decide +kernel)) (hab:=by first|rfl|assumption|omega|(decide +kernel))) (.c (j:=5) rfl (.c (j:=2) rfl .n)) ?_
    rintro ⟨p321,c322⟩ -
    dsimp only [aq,nq,cq]
    refine e_p (zc rfl)<|e_p (zc rfl)<|zh<|zd<|zg<|zsa (.c (i:=2) rfl (.c (i:=1) rfl (.c (i:=0) rfl (.c (i:=0) rfl (.c (i:=0) rfl .n)))))<|zY (OW:=[boxA b3 41 [wz.b,wz.l],boxA b4 41 [wz.b,wz.l]]) (O:=[emA,boxA b2 41 [.bool (decide (x2<0)),.slice p2 ((yd ((x2).natAbs)).length) c2],boxA b1 41 [.bool (decide (x1<0)),.slice p1 ((yd ((x1).natAbs)).length) c1]]) 11 mixed (.then .ret) kr<|e_pv 0 rfl rfl (zf yl rfl sz4 rfl rfl)<|e_uw 1 rfl rfl (ze 4 ty4 rfl rfl rfl)<|e_pv 2 rfl rfl (zf yl rfl sz4 rfl rfl)<|e_uw 3 rfl rfl (ze 3 ty4 rfl rfl rfl)<|e_pv 4 rfl rfl (zOa yB rfl rfl)<|e_dm 5 rfl rfl rfl<|e_pv 7 rfl rfl (zf yl rfl sz4 rfl rfl)<|e_uw 8 rfl rfl (ze 3 ty4 rfl rfl rfl)<|e_dm 9 rfl rfl rfl<|e_one 6 (zx rfl rfl rfl rfl (.c rfl (.c rfl .n)) ce114 (zCa (s:=decide (decide (x1<0)≠decide (x2<0))) (a:=(((x1).natAbs) / ((x2).natAbs))+1) (p:=p319) (cap:=c320)) (.c (j:=1) rfl .n) ?_)
    rintro ⟨p223,c224⟩ -
    dsimp only [aq,nq,cq]
    refine e_one 10 (zx rfl rfl rfl rfl (.c rfl (.c rfl .n)) ce114 (zCa (s:=decide (x2<0)) (a:=((x2).natAbs) - (((x1).natAbs)%((x2).natAbs))) (p:=p321) (cap:=c322)) (.c (j:=1) rfl .n) ?_)
    rintro ⟨p225,c226⟩ -
    dsimp only [aq,nq,cq]
    refine e_one 11 (zq kr rfl rfl rfl rfl rfl sz41 rfl (.t2 .nil) ?_)
    refine zZa (zaa (i:=1) rfl)<|e_one 12 (zq kr rfl rfl rfl rfl rfl sz41 rfl (.t2 .nil) ?_)
    refine e_pv 13 rfl rfl (zc rfl)<|zU kr<|zd<|zI ?_
    have hz1:yw (decide (decide (x1<0)≠decide (x2<0))) ((x1.natAbs / x2.natAbs+1:Nat):Int)=Big.fq x1 x2:=by rw [hsg];exact (Big.fq_odd hy hadj hr0).1
    have hz2:yw (decide (x2<0)) ((x2.natAbs - x1.natAbs%x2.natAbs:Nat):Int)=Big.fr x1 x2:=(Big.fq_odd hy hadj hr0).2
    exact zed Tryz.results141 (p223,c224,p225,c226) trivial (zr 1 ty41 rfl rfl (.t2 .nil)) (zr 0 ty41 rfl rfl (.t2 .nil)) (zk rfl) (by rw [hz1,hz2]) (ho:=(.n:PickO _ _ _)) ((.e (j:=1) rfl (by rw [hz1]) (.e (j:=0) rfl (by rw [hz2]) .n)):SelR _ _ _)
   ·
    refine zw<|zd<|zg<|zsa (.c (i:=1) rfl (.c (i:=0) rfl (.c (i:=0) rfl (.c (i:=0) rfl .n))))<|zY (OW:=[boxA b3 41 [wz.b,wz.l],boxA b4 41 [wz.b,wz.l]]) (O:=[boxA b2 41 [.bool (decide (x2<0)),.slice p2 ((yd ((x2).natAbs)).length) c2],boxA b1 41 [.bool (decide (x1<0)),.slice p1 ((yd ((x1).natAbs)).length) c1]]) 11 mixed (.then .ret) kr<|e_pv 0 rfl rfl (zf yl rfl sz4 rfl rfl)<|e_uw 1 rfl rfl (ze 3 ty4 rfl rfl rfl)<|e_pv 2 rfl rfl (zf yl rfl sz4 rfl rfl)<|e_uw 3 rfl rfl (ze 2 ty4 rfl rfl rfl)<|e_pv 4 rfl rfl (zOa yB rfl rfl)<|e_dm 5 rfl rfl rfl<|e_pv 7 rfl rfl (zf yl rfl sz4 rfl rfl)<|e_uw 8 rfl rfl (ze 2 ty4 rfl rfl rfl)<|e_dm 9 rfl rfl rfl<|e_one 6 (zx rfl rfl rfl rfl (.c rfl (.c rfl .n)) ce114 (zCa (s:=decide (decide (x1<0)≠decide (x2<0))) (a:=((x1).natAbs) / ((x2).natAbs)) (p:=p310) (cap:=c311)) (.c (j:=1) rfl .n) ?_)
    rintro ⟨p227,c228⟩ -
    dsimp only [aq,nq,cq]
    refine e_one 10 (zx rfl rfl rfl rfl (.c rfl (.c rfl .n)) ce114 (zCa (s:=decide (x2<0)) (a:=(((x1).natAbs)%((x2).natAbs))) (p:=p214) (cap:=c215)) (.c (j:=1) rfl .n) ?_)
    rintro ⟨p229,c230⟩ -
    dsimp only [aq,nq,cq]
    refine e_one 11 (zq kr rfl rfl rfl rfl rfl sz41 rfl (.t2 .nil) ?_)
    refine zZa (zaa (i:=1) rfl)<|e_one 12 (zq kr rfl rfl rfl rfl rfl sz41 rfl (.t2 .nil) ?_)
    refine e_pv 13 rfl rfl (zc rfl)<|zU kr<|zd<|zI ?_
    have hsg:(decide (decide (x1<0)≠decide (x2<0)))=false:=decide_eq_false hadj
    have hz1:yw (decide (decide (x1<0)≠decide (x2<0))) ((x1.natAbs / x2.natAbs:Nat):Int)=Big.fq x1 x2:=by rw [hsg];exact (Big.fq_same hy (Decidable.not_not.1 hadj)).1
    have hz2:yw (decide (x2<0)) ((x1.natAbs%x2.natAbs:Nat):Int)=Big.fr x1 x2:=(Big.fq_same hy (Decidable.not_not.1 hadj)).2
    exact zed Tryz.results141 (p227,c228,p229,c230) trivial (zr 1 ty41 rfl rfl (.t2 .nil)) (zr 0 ty41 rfl rfl (.t2 .nil)) (zk rfl) (by rw [hz1,hz2]) (ho:=(.n:PickO _ _ _)) ((.e (j:=1) rfl (by rw [hz1]) (.e (j:=0) rfl (by rw [hz2]) .n)):SelR _ _ _)
  ·
   refine e_no<|e_no<|e_no<|e_no<|e_no<|e_p (zn rfl rfl)<|zh<|zd<|zPa rfl rfl<|zw<|zd<|zg<|zsa (.c (i:=1) rfl (.c (i:=0) rfl (.c (i:=0) rfl (.c (i:=0) rfl .n))))<|zY (OW:=[boxA b3 41 [wz.b,wz.l],boxA b4 41 [wz.b,wz.l]]) (O:=[boxA b2 41 [.bool (decide (x2<0)),.slice p2 ((yd ((x2).natAbs)).length) c2],boxA b1 41 [.bool (decide (x1<0)),.slice p1 ((yd ((x1).natAbs)).length) c1]]) 11 mixed (.then .ret) kr<|e_pv 0 rfl rfl (zf yl rfl sz4 rfl rfl)<|e_uw 1 rfl rfl (ze 3 ty4 rfl rfl rfl)<|e_pv 2 rfl rfl (zf yl rfl sz4 rfl rfl)<|e_uw 3 rfl rfl (ze 2 ty4 rfl rfl rfl)<|e_pv 4 rfl rfl (zOa yB rfl rfl)<|e_dm 5 rfl rfl rfl<|e_pv 7 rfl rfl (zf yl rfl sz4 rfl rfl)<|e_uw 8 rfl rfl (ze 2 ty4 rfl rfl rfl)<|e_dm 9 rfl rfl rfl<|e_one 6 (zx rfl rfl rfl rfl (.c rfl (.c rfl .n)) ce114 (zCa (s:=decide (decide (x1<0)≠decide (x2<0))) (a:=((x1).natAbs) / ((x2).natAbs)) (p:=p310) (cap:=c311)) (.c (j:=1) rfl .n) ?_)
   rintro ⟨p231,c232⟩ -
   dsimp only [aq,nq,cq]
   refine e_one 10 (zx rfl rfl rfl rfl (.c rfl (.c rfl .n)) ce114 (zCa (s:=decide (x2<0)) (a:=(((x1).natAbs)%((x2).natAbs))) (p:=p214) (cap:=c215)) (.c (j:=1) rfl .n) ?_)
   rintro ⟨p233,c234⟩ -
   dsimp only [aq,nq,cq]
   refine e_one 11 (zq kr rfl rfl rfl rfl rfl sz41 rfl (.t2 .nil) ?_)
   refine zZa (zaa (i:=1) rfl)<|e_one 12 (zq kr rfl rfl rfl rfl rfl sz41 rfl (.t2 .nil) ?_)
   refine e_pv 13 rfl rfl (zc rfl)<|zU kr<|zd<|zI ?_
   have hr0:x1.natAbs%x2.natAbs=0:=yF.1 om
   have hz:yw (decide (decide (x1<0)≠decide (x2<0))) ((x1.natAbs / x2.natAbs:Nat):Int)=Big.fq x1 x2∧yw (decide (x2<0)) ((x1.natAbs%x2.natAbs:Nat):Int)=Big.fr x1 x2:=by by_cases h:decide (x1<0)=decide (x2<0);rw [decide_eq_false (not_not_intro h)];exact Big.fq_same hy h;rw [decide_eq_true h];exact Big.fq_even hy h hr0
   exact zed Tryz.results141 (p231,c232,p233,c234) trivial (zr 1 ty41 rfl rfl (.t2 .nil)) (zr 0 ty41 rfl rfl (.t2 .nil)) (zk rfl) (by rw [hz.1,hz.2]) (ho:=(.n:PickO _ _ _)) ((.e (j:=1) rfl (by rw [hz.1]) (.e (j:=0) rfl (by rw [hz.2]) .n)):SelR _ _ _)
theorem zBb {w1:Wd} {w2:Wd} {x1:Int} {x2:Int} (hb1:yx x1≤1099511627776) (hb2:yx x2≤1099511627776) (hy:x2≠0):Con yj 141 [.agg #[w1.b,w1.l],.agg #[w2.b,w2.l]] [] [zF w1 (x1),zF w2 (x2)] (Y:=(Wd)×(Wd)) (fun y=>True) (fun y=> .tuple #[.agg #[y.1.b,y.1.l],.agg #[y.2.b,y.2.l],ya yb (0)]) (fun y=>[]) (fun y=>[zF y.1 (Big.fq x1 x2),zF y.2 (Big.fr x1 x2)]):=by
  exact zlf (zCc (fun p1 c1 p2 c2=>zce hb1 hb2 hy))
theorem zHd {x1:Int} {x2:Int} {p1:Option Addr} {c1:Nat} {p2:Option Addr} {c2:Nat}:Con yj 142 [.agg #[.bool (decide (x1<0)),.slice p1 ((yd ((x1).natAbs)).length) c1],.agg #[.bool (decide (x2<0)),.slice p2 ((yd ((x2).natAbs)).length) c2]] [] [slF (rI .u32) p1 c1 (yd ((x1).natAbs)),slF (rI .u32) p2 c2 (yd ((x2).natAbs))] (Y:=Unit) (fun y=>True) (fun y=> ya yb (yG x1 x2)) (fun y=>[]) (fun y=>[]):=by
 refine zl Tryz.func142 rfl rfl rfl (fun c=> ?_)
 show RunC _ _ _ _ _ [(0,.agg #[.bool (decide (x1<0)),.slice p1 ((yd ((x1).natAbs)).length) c1]),(1,.agg #[.bool (decide (x2<0)),.slice p2 ((yd ((x2).natAbs)).length) c2])] [] [slF (rI .u32) p1 c1 (yd ((x1).natAbs)),slF (rI .u32) p2 c2 (yd ((x2).natAbs))]
 refine zda 0 rfl (fun hL0=> ?_)
 refine zda 1 rfl (fun hL1=> ?_)
 have hcb:=Big.cmp_b (x1.natAbs:Int) (x2.natAbs:Int)
 refine zg<|za<|zM rfl rfl (zS rfl rfl) (fun b1=> ?_)
 refine zM rfl rfl (zS rfl rfl) (fun b2=> ?_)
 refine e_p (zc rfl)<|zh<|zd<|zg<|zg<|zY (OW:=[]) (O:=[boxA b2 41 [.bool (decide (x2<0)),.slice p2 ((yd ((x2).natAbs)).length) c2],boxA b1 41 [.bool (decide (x1<0)),.slice p1 ((yd ((x1).natAbs)).length) c1]]) 100000 mixed (.then (.then .ret)) kr<|e_u 0 rfl rfl (zb 1 ty41 rfl rfl (.t2 .nil))<|e_u 2 rfl rfl (zb 0 ty41 rfl rfl (.t2 .nil))<|e_one 1 (zGa rfl rfl rfl rfl (.c rfl .n) ce120 (zWc (z:=x1) (p:=p1) (cap:=c1)) (.c (j:=0) rfl .n) ?_)
 refine e_one 3 (zGa rfl rfl rfl rfl (.c rfl .n) ce120 (zWc (z:=x2) (p:=p2) (cap:=c2)) (.c (j:=1) rfl .n) ?_)
 refine e_pv 4 rfl rfl (zc rfl)<|e_pv 5 rfl rfl (zc rfl)<|zU kr<|zd<|zg<|za<|e_mv rfl<|e_mv rfl<|e_p (zdb rfl rfl)<|zh<|zd<|zG rfl (fun hs=> ?_) (fun hs=> ?_)
 ·
  refine zg<|za<|e_mv rfl<|e_mv rfl<|zL rfl rfl (.c rfl (.c rfl .n)) ce148 (zTc (u:=(x1).sign) (v:=(x2).sign)) (.n)<|e_p (zc rfl)<|zh<|zd<|zI<|zi ?_
  exact zu Tryz.results142 () trivial (zk rfl) (by rw [Big.cmp_signs hs]) (ho:=(.n:PickO _ _ _)) (.n:SelR _ _ _)
 ·
  refine zw<|zd<|zg<|zY (OW:=[]) (O:=[boxA b2 41 [.bool (decide (x2<0)),.slice p2 ((yd ((x2).natAbs)).length) c2],boxA b1 41 [.bool (decide (x1<0)),.slice p1 ((yd ((x1).natAbs)).length) c1]]) 100000 mixed (.then .ret) kr<|e_u 0 rfl rfl (zb 1 ty41 rfl rfl (.t2 .nil))<|e_u 2 rfl rfl (zb 0 ty41 rfl rfl (.t2 .nil))<|e_one 1 (zx rfl rfl rfl rfl (.c rfl .n) ce117 (zzb (z:=x1) (p:=p1) (cap:=c1)) (.c (j:=0) rfl .n) ?_)
  rintro ⟨p23,c24⟩ -
  dsimp only [aq,nq,cq]
  refine e_one 3 (zx rfl rfl rfl rfl (.c rfl .n) ce117 (zzb (z:=x2) (p:=p2) (cap:=c2)) (.c (j:=2) rfl .n) ?_)
  rintro ⟨p25,c26⟩ -
  dsimp only [aq,nq,cq]
  refine e_one 4 (zGa rfl rfl rfl rfl (.c rfl (.c rfl .n)) ce136 (zXb (a:=(x1).natAbs) (b:=(x2).natAbs) (p1:=p23) (c1:=c24) (p2:=p25) (c2:=c26)) (.c (j:=1) rfl (.c (j:=0) rfl .n)) ?_)
  refine e_pv 5 rfl rfl (zc rfl)<|zU kr<|zd<|zg<|zg<|za<|e_p (zf yl rfl sz4 rfl rfl)<|e_ru (ze 1 ty4 rfl rfl rfl)<|zh<|zd<|zXa rfl (fun hn=> ?_) (fun hn=> ?_)
  ·
   refine zg<|za<|e_mv rfl<|e_p (zvd (z:=(-(yG (((x1).natAbs):Int) (((x2).natAbs):Int)))) rfl (w64 om))<|e_p (zc rfl)<|zh<|zd<|zI<|zi ?_
   exact zu Tryz.results142 () trivial (zk rfl) (by rw [Big.cmp_neg hs (by simpa using hn)]) (ho:=(.n:PickO _ _ _)) (.n:SelR _ _ _)
  ·
   refine zw<|zd<|zg<|za<|e_mv rfl<|e_p (zc rfl)<|zh<|zd<|zI ?_
   exact zu Tryz.results142 () trivial (zk rfl) (by rw [Big.cmp_pos hs (by simpa using hn)]) (ho:=(.n:PickO _ _ _)) (.n:SelR _ _ _)
theorem zde {s:Bool} {p:Option Addr} {n:Nat} {cap:Nat} {l:List Int} (hn:l.length=n) (hln:yx (yk s l)≤1099511627776):Con yj 139 [.agg #[.bool s,.slice p n cap]] [] [slF (rI .u32) p cap l] (Y:=(Option Addr)×Nat) (fun y=>True) (fun y=> .agg #[.bool (decide ((- yk s l)<0)),.slice (y.1) ((yd ((- yk s l).natAbs)).length) (y.2)]) (fun y=>[]) (fun y=>[slF (rI .u32) (y.1) (y.2) (yd ((- yk s l).natAbs))]):=by
 refine zl Tryz.func139 rfl rfl rfl (fun c=> ?_)
 show RunC _ _ _ _ _ [(0,.agg #[.bool s,.slice p n cap])] [] [slF (rI .u32) p cap l]
 refine zda 0 rfl (fun hL0=> ?_)
 refine zTa 0 rfl (fun hE0=> ?_)
 have hnn:yK l:=fun g hg=>(zB.1 (hE0 g hg)).1
 unfold yx at hln
 refine zg<|za<|zM rfl rfl (zS rfl rfl) (fun b1=> ?_)
 refine zM rfl rfl (zo zr41 rfl) (fun b2=> ?_)
 refine zh<|zd<|zg<|zY (OW:=[boxA b2 41 [wz.b,wz.l]]) (O:=[boxA b1 41 [.bool s,.slice p n cap]]) 7 mixed (.then .ret) kr<|e_pv 0 rfl rfl (zf yl rfl sz4 rfl rfl)<|e_uw 1 rfl rfl (ze 1 ty4 rfl rfl rfl)<|e_pv 2 rfl rfl (zEb rfl)<|e_uw 3 rfl rfl (zb 1 ty41 rfl rfl (.t2 .nil))<|e_one 4 (zx rfl rfl rfl rfl (.c rfl .n) ce117 (zQa (s:=s) (p:=p) (n:=n) (cap:=cap) (l:=l) (hn:=ass)) (.c (j:=0) rfl .n) ?_)
 rintro ⟨p23,c24⟩ -
 dsimp only [aq,nq,cq]
 refine e_one 5 (zx rfl rfl rfl rfl (.c rfl .n) ce153 (znd (a:=(yk s l).natAbs) (p:=p23) (cap:=c24) (hb:=cbb)) (.c (j:=0) rfl .n) ?_)
 rintro ⟨p25,c26⟩ -
 dsimp only [aq,nq,cq]
 refine e_one 6 (zx rfl rfl rfl rfl (.c rfl (.c rfl .n)) ce114 (zCa (s:= !s) (a:=((yk s l).natAbs)) (p:=p25) (cap:=c26)) (.c (j:=0) rfl .n) ?_)
 rintro ⟨p27,c28⟩ -
 dsimp only [aq,nq,cq]
 refine e_one 7 (zq kr rfl rfl rfl rfl rfl sz41 rfl (.t2 .nil) ?_)
 refine zU kr<|zd<|zI ?_
 have hz:yw (!s) ((yk s l).natAbs:Int)= - yk s l:=by rw [Big.sg_not,yQ hnn]
 exact zu Tryz.results139 (p27,c28) trivial (zr 0 ty41 rfl rfl (.t2 .nil)) (by rw [hz]) (ho:=(.n:PickO _ _ _)) ((.e (j:=0) rfl (by rw [hz]) .n):SelR _ _ _)
theorem zod {z:Int} {p:Option Addr} {cap:Nat} (hln:yx z≤1099511627776):Con yj 139 [.agg #[.bool (decide ((z)<0)),.slice (p) ((yd ((z).natAbs)).length) (cap)]] [] [slF (rI .u32) (p) (cap) (yd ((z).natAbs))] (Y:=(Option Addr)×(Nat)) (fun y=>True) (fun y=> .agg #[.bool (decide ((- z)<0)),.slice (y.1) ((yd ((- z).natAbs)).length) (y.2)]) (fun y=>[]) (fun y=>[slF (rI .u32) (y.1) (y.2) (yd ((- z).natAbs))]):=by
  have h:= @zde (decide ((z)<0)) p (yd (z).natAbs).length cap (yd (z).natAbs) rfl (by rw [yt];exact hln)
  rw [yt] at h
  exact h
theorem zpd {w1:Wd} {x1:Int} (hln:yx x1≤1099511627776):Con yj 139 [.agg #[w1.b,w1.l]] [] [zF w1 (x1)] (Y:=(Wd)) (fun y=>True) (fun y=> .agg #[y.b,y.l]) (fun y=>[]) (fun y=>[zF y (- x1)]):=by
  exact zUb (zqe (fun p c=>zod hln))
end Go.Proofs.YtjcpbhlijoigfaaGreat.Sp
namespace Go.Proofs.YtjcpbhlijoigfaaGreat.Sp
open Go
set_option linter.unusedVariables false
set_option maxRecDepth 100000
set_option maxHeartbeats 8000000
theorem zKe {s:Bool} {p1:Option Addr} {n1:Nat} {c1:Nat} {l1:List Int} {t:Bool} {p2:Option Addr} {n2:Nat} {c2:Nat} {l2:List Int} (hn1:l1.length=n1) (hn2:l2.length=n2) (hm1:n1≤1048576) (hm2:n2≤1048576):Con yj 124 [.agg #[.bool s,.slice p1 n1 c1,.bool t,.slice p2 n2 c2]] [] [slF (rI .u32) p1 c1 l1,slF (rI .u32) p2 c2 l2] (Y:=Unit) (fun y=>True) (fun y=> .bool (decide (Big.qok ((s,l1),(t,l2))))) (fun y=>[]) (fun y=>[]):=by
 refine zl Tryz.func124 rfl rfl rfl (fun c=> ?_)
 show RunC _ _ _ _ _ [(0,.agg #[.bool s,.slice p1 n1 c1,.bool t,.slice p2 n2 c2])] [] [slF (rI .u32) p1 c1 l1,slF (rI .u32) p2 c2 l2]
 refine zda 0 rfl (fun hL0=> ?_)
 refine zTa 0 rfl (fun hE0=> ?_)
 refine zda 1 rfl (fun hL1=> ?_)
 refine zTa 1 rfl (fun hE1=> ?_)
 have hnn1:yK l1:=fun g hg=>(zB.1 (hE0 g hg)).1
 have hnn2:yK l2:=fun g hg=>(zB.1 (hE1 g hg)).1
 have hb1:yx (yk s l1)≤n1:=by have:=Big.zUa (s:=s) hnn1;omega
 have hb2:yx (yk t l2)≤n2:=by have:=Big.zUa (s:=t) hnn2;omega
 refine zg<|za<|zM rfl rfl (zS rfl rfl) (fun b1=> ?_)
 refine e_p (zc rfl)<|zh<|zd<|zg<|zHa (X:=Unit) (fun x=>True) (fun x=>[(18,.bool (decide (¬(Big.canon s l1∧Big.canon t l2∧0<yk t l2)))),(2,.bool false),(1,yc (some ⟨b1,0,none⟩))]) (fun x=>[boxA b1 43 [.bool s,.slice p1 n1 c1,.bool t,.slice p2 n2 c2]]) (fun x=>[slF (rI .u32) p1 c1 l1,slF (rI .u32) p2 c2 l2]) ?_ ?_
 ·
  refine za<|e_p (zf yi rfl sz41 rfl rfl)<|e_ru (zb 0 ty41 rfl rfl (.t2 .nil))<|zL rfl rfl (.c rfl .n) ce138 (zUc (s:=s) (p:=p1) (n:=n1) (cap:=c1) (l:=l1) (hn:=ass)) (.c (j:=0) rfl .n)<|e_p (zVb rfl)<|zV rfl rfl (zW rfl) (fun h2=> ?_) (fun h2=> ?_)
  ·
   refine e_no<|e_no<|e_no<|e_no<|e_p (zn rfl rfl)<|e_mv rfl<|e_no<|e_no<|e_no<|e_no<|e_p (zn rfl rfl)<|zh ?_
   exact zga () (show True from by first|trivial|omega|simp_all) ((.e rfl (congrArg Value.bool (by simp_all)) (.c rfl (.c rfl .n))):SubM _ _) (ho:=((.c (i:=0) rfl .n):PickO _ _ _)) ((.of [0,1] rfl):SelR _ _ _)
  ·
   refine e_p (zf yi rfl sz41 rfl rfl)<|e_ru (zb 0 ty41 rfl rfl (.s2 (.t2 .nil)))<|zL rfl rfl (.c rfl .n) ce138 (zUc (s:=t) (p:=p2) (n:=n2) (cap:=c2) (l:=l2) (hn:=ass)) (.c (j:=1) rfl .n)<|e_p (zVb rfl)<|e_p (zn rfl rfl)<|zV rfl rfl (zW rfl) (fun h3=> ?_) (fun h3=> ?_)
   ·
    refine e_no<|e_no<|e_no<|e_no<|e_p (zn rfl rfl)<|zh ?_
    exact zga () (show True from by first|trivial|omega|simp_all) ((.e rfl (congrArg Value.bool (by simp_all)) (.c rfl (.c rfl .n))):SubM _ _) (ho:=((.c (i:=0) rfl .n):PickO _ _ _)) ((.of [0,1] rfl):SelR _ _ _)
   ·
    refine e_p (zf yi rfl sz41 rfl rfl)<|e_ru (zb 0 ty41 rfl rfl (.s2 (.t2 .nil)))<|zL rfl rfl (.c rfl .n) ce120 (zse (s:=t) (p:=p2) (n:=n2) (cap:=c2) (l:=l2) (hn:=ass)) (.c (j:=1) rfl .n)<|e_p (zKa rfl rfl)<|e_p (zn rfl rfl)<|zh ?_
    exact zga () (show True from by first|trivial|omega|simp_all) ((.e rfl (congrArg Value.bool (by exact decide_eq_decide.2 (Big.sgn_le (Decidable.not_not.1 ‹_›) (Decidable.not_not.1 ‹_›)))) (.c rfl (.c rfl .n))):SubM _ _) (ho:=((.c (i:=0) rfl .n):PickO _ _ _)) ((.of [0,1] rfl):SelR _ _ _)
 ·
  rintro ⟨⟩ -
  try dsimp only
  refine zG rfl (fun hc=> ?_) (fun hc=> ?_)
  ·
   refine zg<|za<|e_p (zc rfl)<|zh<|zd<|zI<|zi ?_
   exact zu Tryz.results124 () trivial (zk rfl) (congrArg Value.bool (decide_eq_false (fun h=>hc ⟨h.1,h.2.1,h.2.2.1⟩))) (ho:=(.n:PickO _ _ _)) (.n:SelR _ _ _)
  ·
   refine zw<|zd<|zg<|za<|e_p (zf yi rfl sz41 rfl rfl)<|e_ru (zb 0 ty41 rfl rfl (.t2 .nil))<|e_p (zf yi rfl sz41 rfl rfl)<|e_ru (zb 0 ty41 rfl rfl (.s2 (.t2 .nil)))<|zC rfl rfl (.c rfl (.c rfl .n)) ce140 (ztf (s:=s) (p1:=p1) (n1:=n1) (c1:=c1) (l1:=l1) (t:=t) (p2:=p2) (n2:=n2) (c2:=c2) (l2:=l2) (hn1:=ass) (hn2:=ass) (hb1:=by first|rfl|assumption|omega|(rw [yq];omega)|(decide +kernel)) (hb2:=by first|rfl|assumption|omega|(rw [yq];omega)|(decide +kernel))) (.c (j:=0) rfl (.c (j:=1) rfl .n)) ?_
   rintro ⟨p34,c35⟩ -
   dsimp only [aq,nq,cq]
   refine zC rfl rfl (.c rfl .n) ce84 (zeg (z:=1) (hz:=by first|rfl|assumption|omega|(rw [yq];omega)|(decide +kernel))) (.n) ?_
   rintro ⟨p26,c27⟩ -
   dsimp only [aq,nq,cq]
   refine zL rfl rfl (.c rfl (.c rfl .n)) ce142 (zHd (x1:=((Nat.gcd (yk s l1).natAbs (yk t l2).natAbs:Nat):Int)) (x2:=1) (p1:=p34) (c1:=c35) (p2:=p26) (c2:=c27)) (.c (j:=1) rfl (.c (j:=0) rfl .n))<|e_p (zDa rfl rfl)<|e_p (zc rfl)<|zh<|zd<|zI ?_
   exact zu Tryz.results124 () trivial (zk rfl) (congrArg Value.bool (decide_eq_decide.2 (Big.qok_gcd (x:=((s,l1),(t,l2))) (Decidable.not_not.1 hc)).symm)) (ho:=(.n:PickO _ _ _)) (.n:SelR _ _ _)
theorem zYb {w1:Wd} {w2:Wd} {x1:Int} {x2:Int} (hl1:yx x1≤1048576) (hl2:yx x2≤1048576) (hd:x2≠0):Con yj 121 [.agg #[w1.b,w1.l],.agg #[w2.b,w2.l]] [] [zF w1 x1,zF w2 x2] (Y:=Wd×Wd) (fun y=>True) (fun y=> .agg #[y.1.b,y.1.l,y.2.b,y.2.l]) (fun y=>[]) (fun y=>[qF true y.1 y.2 (Rat.divInt x1 x2)]):=by
 refine zl Tryz.func121 rfl rfl rfl (fun c=> ?_)
 show RunC _ _ _ _ _ [(0,.agg #[w1.b,w1.l]),(1,.agg #[w2.b,w2.l])] [] [zF w1 x1,zF w2 x2]
 refine zg<|za<|zM rfl rfl (zS rfl rfl) (fun b1=> ?_)
 refine zM rfl rfl (zS rfl rfl) (fun b2=> ?_)
 refine zM rfl rfl (zo zr43 rfl) (fun b3=> ?_)
 refine zh<|zd<|zg<|zg<|za<|e_ru (zb 1 ty41 rfl rfl (.t2 .nil))<|zL rfl rfl (.c rfl .n) ce120 (zXc (w1:=w2) (x1:=x2)) (.c (j:=1) rfl .n)<|e_p (zba rfl rfl)<|zh<|zd<|zG rfl (fun hneg=> ?_) (fun hneg=> ?_)
 ·
  have hs:x2<0:=by rcases Big.sign_le (x:=x2) with h|h|h <;> omega
  have hgp:=Big.gcd_pos_right (n:= -x1) (d:= -x2) om
  have hgl:=Big.zDd (n:= -x1) (d:= -x2) om
  rw [yq] at hgl
  obtain ⟨hr1,hr2⟩:=Big.red_flip (n:=x1) hs
  refine zsa (.c (i:=2) rfl (.c (i:=1) rfl (.c (i:=0) rfl .n)))<|zY (OW:=[boxA b1 41 [w1.b,w1.l],boxA b2 41 [w2.b,w2.l]]) (O:=[boxA b3 43 (cw [wz,wz])]) 4 mixed (.then .ret) kr<|e_uw 0 rfl rfl (zb 0 ty41 rfl rfl (.t2 .nil))<|e_uw 2 rfl rfl (zb 1 ty41 rfl rfl (.t2 .nil))<|e_one 1 (zx rfl rfl rfl rfl (.c rfl .n) ce139 (zpd (w1:=w1) (x1:=x1) (hln:=by first|rfl|assumption|omega|(rw [yq];omega)|(decide +kernel))) (.c (j:=0) rfl .n) ?_)
  rintro w34 -
  dsimp only [aq,nq,cq]
  refine e_one 3 (zx rfl rfl rfl rfl (.c rfl .n) ce139 (zpd (w1:=w2) (x1:=x2) (hln:=by first|rfl|assumption|omega|(rw [yq];omega)|(decide +kernel))) (.c (j:=2) rfl .n) ?_)
  rintro w35 -
  dsimp only [aq,nq,cq]
  refine e_one 4 (zq kr rfl rfl rfl rfl rfl sz41 rfl (.t2 .nil) ?_)
  refine zZa (zaa (i:=1) rfl)<|e_one 5 (zq kr rfl rfl rfl rfl rfl sz41 rfl (.t2 .nil) ?_)
  refine zU kr<|zd<|zg<|za<|e_ru (zb 1 ty41 rfl rfl (.t2 .nil))<|e_ru (zb 0 ty41 rfl rfl (.t2 .nil))<|zC rfl rfl (.c rfl (.c rfl .n)) ce140 (zue (w1:=w34) (w2:=w35) (x1:= - x1) (x2:= - x2) (hb1:=by first|rfl|assumption|omega|(rw [yq];omega)|(decide +kernel)) (hb2:=by first|rfl|assumption|omega|(rw [yq];omega)|(decide +kernel))) (.c (j:=1) rfl (.c (j:=0) rfl .n)) ?_
  rintro w36 -
  dsimp only [aq,nq,cq]
  refine zM rfl rfl (zo zr41 rfl) (fun b7=> ?_)
  refine zm 0 rfl rfl rfl rfl rfl sz41 rfl (.t2 .nil) .z<|zh<|zd<|zg<|za<|e_ru (zb 2 ty41 rfl rfl (.t2 .nil))<|e_ru (zb 0 ty41 rfl rfl (.t2 .nil))<|zC rfl rfl (.c rfl (.c rfl .n)) ce141 (zBb (w1:=w34) (w2:=w36) (x1:= - x1) (x2:=((Nat.gcd (- x1).natAbs (- x2).natAbs:Nat):Int)) (hb1:=by first|rfl|assumption|omega|(rw [yq];omega)|(decide +kernel)) (hb2:=by first|rfl|assumption|omega|(rw [yq];omega)|(decide +kernel)) (hy:=by first|rfl|assumption|omega|(rw [yq];omega)|(decide +kernel))) (.c (j:=2) rfl (.c (j:=0) rfl .n)) ?_
  rintro ⟨w38,w49⟩ -
  dsimp only [aq,nq,cq]
  refine e_mv rfl<|e_p (zt rfl rfl)<|e_p (zt rfl rfl)<|e_p (zt rfl rfl)<|zm 2 rfl rfl rfl rfl rfl sz41 rfl (.t2 .nil) (.s (.s .z))<|zh<|zd<|zg<|za<|e_ru (zb 1 ty41 rfl rfl (.t2 .nil))<|e_ru (zb 0 ty41 rfl rfl (.t2 .nil))<|zC rfl rfl (.c rfl (.c rfl .n)) ce141 (zBb (w1:=w35) (w2:=w36) (x1:= - x2) (x2:=((Nat.gcd (- x1).natAbs (- x2).natAbs:Nat):Int)) (hb1:=by first|rfl|assumption|omega|(rw [yq];omega)|(decide +kernel)) (hb2:=by first|rfl|assumption|omega|(rw [yq];omega)|(decide +kernel)) (hy:=by first|rfl|assumption|omega|(rw [yq];omega)|(decide +kernel))) (.c (j:=3) rfl (.c (j:=2) rfl .n)) ?_
  rintro ⟨w310,w411⟩ -
  dsimp only [aq,nq,cq]
  refine e_mv rfl<|e_p (zt rfl rfl)<|e_p (zt rfl rfl)<|e_p (zt rfl rfl)<|zm 1 rfl rfl rfl rfl rfl sz41 rfl (.t2 .nil) (.s .z)<|zh<|zd<|zg<|za<|e_ru (zb 2 ty41 rfl rfl (.t2 .nil))<|e_ru (zb 1 ty41 rfl rfl (.t2 .nil))<|e_p (zH zr43 rfl yi (.c sz41 (.c sz41 .n)) (.c rfl (.c rfl .n)) (.c rfl rfl rfl (.t2 .nil) (.c rfl rfl rfl (.s2 (.t2 .nil)) .n)))<|zm 3 rfl rfl rfl rfl rfl sz43 rfl (.t4 .nil) (.s (.s (.s .z)))<|zh<|zd<|zI<|zJb (qF true w38 w310 (Rat.divInt x1 x2)) (qF_close 2 0 rfl rfl (by exact ⟨hr1,hr2,Nat.le_trans (Big.hq_divInt hd) om⟩)) ?_
  exact zu Tryz.results121 (w38,w310) trivial (zr 3 ty43 rfl rfl (.t4 .nil)) rfl (ho:=(.n:PickO _ _ _)) ((.c (j:=0) rfl .n):SelR _ _ _)
 ·
  have hs:0<x2:=by rcases Big.sign_le (x:=x2) with h|h|h <;> omega
  have hgp:=Big.gcd_pos_right (n:=x1) (d:=x2) om
  have hgl:=Big.zDd (n:=x1) (d:=x2) om
  obtain ⟨hr1,hr2⟩:=Big.red_pos (n:=x1) hs
  refine zw<|zd<|zg<|za<|e_ru (zb 2 ty41 rfl rfl (.t2 .nil))<|e_ru (zb 1 ty41 rfl rfl (.t2 .nil))<|zC rfl rfl (.c rfl (.c rfl .n)) ce140 (zue (w1:=w1) (w2:=w2) (x1:=x1) (x2:=x2) (hb1:=by first|rfl|assumption|omega|(rw [yq];omega)|(decide +kernel)) (hb2:=by first|rfl|assumption|omega|(rw [yq];omega)|(decide +kernel))) (.c (j:=0) rfl (.c (j:=1) rfl .n)) ?_
  rintro w312 -
  dsimp only [aq,nq,cq]
  refine zM rfl rfl (zo zr41 rfl) (fun b13=> ?_)
  refine zm 0 rfl rfl rfl rfl rfl sz41 rfl (.t2 .nil) .z<|zh<|zd<|zg<|za<|e_ru (zb 3 ty41 rfl rfl (.t2 .nil))<|e_ru (zb 0 ty41 rfl rfl (.t2 .nil))<|zC rfl rfl (.c rfl (.c rfl .n)) ce141 (zBb (w1:=w1) (w2:=w312) (x1:=x1) (x2:=((Nat.gcd x1.natAbs x2.natAbs:Nat):Int)) (hb1:=by first|rfl|assumption|omega|(rw [yq];omega)|(decide +kernel)) (hb2:=by first|rfl|assumption|omega|(rw [yq];omega)|(decide +kernel)) (hy:=by first|rfl|assumption|omega|(rw [yq];omega)|(decide +kernel))) (.c (j:=1) rfl (.c (j:=0) rfl .n)) ?_
  rintro ⟨w314,w415⟩ -
  dsimp only [aq,nq,cq]
  refine e_mv rfl<|e_p (zt rfl rfl)<|e_p (zt rfl rfl)<|e_p (zt rfl rfl)<|zm 3 rfl rfl rfl rfl rfl sz41 rfl (.t2 .nil) (.s (.s (.s .z)))<|zh<|zd<|zg<|za<|e_ru (zb 2 ty41 rfl rfl (.t2 .nil))<|e_ru (zb 0 ty41 rfl rfl (.t2 .nil))<|zC rfl rfl (.c rfl (.c rfl .n)) ce141 (zBb (w1:=w2) (w2:=w312) (x1:=x2) (x2:=((Nat.gcd x1.natAbs x2.natAbs:Nat):Int)) (hb1:=by first|rfl|assumption|omega|(rw [yq];omega)|(decide +kernel)) (hb2:=by first|rfl|assumption|omega|(rw [yq];omega)|(decide +kernel)) (hy:=by first|rfl|assumption|omega|(rw [yq];omega)|(decide +kernel))) (.c (j:=4) rfl (.c (j:=2) rfl .n)) ?_
  rintro ⟨w316,w417⟩ -
  dsimp only [aq,nq,cq]
  refine e_mv rfl<|e_p (zt rfl rfl)<|e_p (zt rfl rfl)<|e_p (zt rfl rfl)<|zm 2 rfl rfl rfl rfl rfl sz41 rfl (.t2 .nil) (.s (.s .z))<|zh<|zd<|zg<|za<|e_ru (zb 3 ty41 rfl rfl (.t2 .nil))<|e_ru (zb 2 ty41 rfl rfl (.t2 .nil))<|e_p (zH zr43 rfl yi (.c sz41 (.c sz41 .n)) (.c rfl (.c rfl .n)) (.c rfl rfl rfl (.t2 .nil) (.c rfl rfl rfl (.s2 (.t2 .nil)) .n)))<|zm 1 rfl rfl rfl rfl rfl sz43 rfl (.t4 .nil) (.s .z)<|zh<|zd<|zI<|zJb (qF true w314 w316 (Rat.divInt x1 x2)) (qF_close 2 0 rfl rfl (by exact ⟨hr1,hr2,Nat.le_trans (Big.hq_divInt hd) om⟩)) ?_
  exact zu Tryz.results121 (w314,w316) trivial (zr 1 ty43 rfl rfl (.t4 .nil)) rfl (ho:=(.n:PickO _ _ _)) ((.c (j:=0) rfl .n):SelR _ _ _)
theorem zLe {s:Bool} {p1:Option Addr} {n1:Nat} {c1:Nat} {l1:List Int} {t:Bool} {p2:Option Addr} {n2:Nat} {c2:Nat} {l2:List Int} (hn1:l1.length=n1) (hn2:l2.length=n2) (hm1:n1≤1048576) (hm2:n2≤1048576) (hq:Big.qok ((s,l1),(t,l2))):Con yj 125 [.agg #[.bool s,.slice p1 n1 c1,.bool t,.slice p2 n2 c2]] [] [slF (rI .u32) p1 c1 l1,slF (rI .u32) p2 c2 l2] (Y:=(Option Addr)×Nat×(Option Addr)×Nat) (fun y=>True) (fun y=> .agg #[.bool (decide (((yP ((s,l1),(t,l2))).num)<0)),.slice (y.1) ((yd (((yP ((s,l1),(t,l2))).num).natAbs)).length) (y.2.1),.bool (decide ((((yP ((s,l1),(t,l2))).den:Nat):Int)<0)),.slice (y.2.2.1) ((yd ((((yP ((s,l1),(t,l2))).den:Nat):Int).natAbs)).length) (y.2.2.2)]) (fun y=>[]) (fun y=>[slF (rI .u32) (y.1) (y.2.1) (yd (((yP ((s,l1),(t,l2))).num).natAbs)),slF (rI .u32) (y.2.2.1) (y.2.2.2) (yd ((((yP ((s,l1),(t,l2))).den:Nat):Int).natAbs))]):=by
 refine zl Tryz.func125 rfl rfl rfl (fun c=> ?_)
 show RunC _ _ _ _ _ [(0,.agg #[.bool s,.slice p1 n1 c1,.bool t,.slice p2 n2 c2])] [] [slF (rI .u32) p1 c1 l1,slF (rI .u32) p2 c2 l2]
 refine zda 0 rfl (fun hL0=> ?_)
 refine zTa 0 rfl (fun hE0=> ?_)
 refine zda 1 rfl (fun hL1=> ?_)
 refine zTa 1 rfl (fun hE1=> ?_)
 have hnn1:yK l1:=fun g hg=>(zB.1 (hE0 g hg)).1
 have hnn2:yK l2:=fun g hg=>(zB.1 (hE1 g hg)).1
 have hb1:yx (yk s l1)≤n1:=by have:=Big.zUa (s:=s) hnn1;omega
 have hb2:yx (yk t l2)≤n2:=by have:=Big.zUa (s:=t) hnn2;omega
 refine zg<|za<|zM rfl rfl (zS rfl rfl) (fun b1=> ?_)
 refine zM rfl rfl (zo zr43 rfl) (fun b2=> ?_)
 refine zh<|zd<|zg<|zY (OW:=[boxA b2 43 (cw [wz,wz])]) (O:=[boxA b1 43 [.bool s,.slice p1 n1 c1,.bool t,.slice p2 n2 c2]]) 9 mixed (.then .ret) kr<|e_pv 0 rfl rfl (zf yi rfl sz41 rfl rfl)<|e_uw 1 rfl rfl (zb 1 ty41 rfl rfl (.t2 .nil))<|e_pv 4 rfl rfl (zf yi rfl sz41 rfl rfl)<|e_uw 5 rfl rfl (zb 1 ty41 rfl rfl (.s2 (.t2 .nil)))<|e_one 2 (zx rfl rfl rfl rfl (.c rfl .n) ce139 (zde (s:=s) (p:=p1) (n:=n1) (cap:=c1) (l:=l1) (hn:=ass) (hln:=by first|rfl|assumption|omega|(rw [yq];omega)|(decide +kernel))) (.c (j:=0) rfl .n) ?_)
 rintro ⟨p23,c24⟩ -
 dsimp only [aq,nq,cq]
 refine e_one 3 (zx rfl rfl rfl rfl (.c rfl .n) ce139 (zod (z:= - yk s l1) (p:=p23) (cap:=c24) (hln:=by first|rfl|assumption|omega|(rw [yq];omega)|(decide +kernel))) (.c (j:=0) rfl .n) ?_)
 rintro ⟨p25,c26⟩ -
 dsimp only [aq,nq,cq]
 refine e_one 6 (zx rfl rfl rfl rfl (.c rfl .n) ce139 (zde (s:=t) (p:=p2) (n:=n2) (cap:=c2) (l:=l2) (hn:=ass) (hln:=by first|rfl|assumption|omega|(rw [yq];omega)|(decide +kernel))) (.c (j:=3) rfl .n) ?_)
 rintro ⟨p27,c28⟩ -
 dsimp only [aq,nq,cq]
 refine e_one 7 (zx rfl rfl rfl rfl (.c rfl .n) ce139 (zod (z:= - yk t l2) (p:=p27) (cap:=c28) (hln:=by first|rfl|assumption|omega|(rw [yq];omega)|(decide +kernel))) (.c (j:=0) rfl .n) ?_)
 rintro ⟨p29,c210⟩ -
 dsimp only [aq,nq,cq]
 refine e_pv 8 rfl rfl (zH zr43 rfl yi (.c sz41 (.c sz41 .n)) (.c rfl (.c rfl .n)) (.c rfl rfl rfl (.t2 .nil) (.c rfl rfl rfl (.s2 (.t2 .nil)) .n)))<|e_one 9 (zq kr rfl rfl rfl rfl rfl sz43 rfl (.t4 .nil) ?_)
 refine zU kr<|zd<|zI ?_
 have hz1: - - yk s l1=(yP ((s,l1),(t,l2))).num:=by rw [Int.neg_neg];exact (Big.qv_parts hq).1.symm
 have hz2: - - yk t l2=(((yP ((s,l1),(t,l2))).den:Nat):Int):=by rw [Int.neg_neg];exact (Big.qv_parts hq).2.symm
 exact zu Tryz.results125 (p25,c26,p29,c210) trivial (zr 0 ty43 rfl rfl (.t4 .nil)) (by rw [hz1,hz2]) (ho:=(.n:PickO _ _ _)) ((.e (j:=2) rfl (by rw [hz1]) (.e (j:=0) rfl (by rw [hz2]) .n)):SelR _ _ _)
theorem zee {s:Bool} {p1:Option Addr} {n1:Nat} {c1:Nat} {l1:List Int} {t:Bool} {p2:Option Addr} {n2:Nat} {c2:Nat} {l2:List Int} (hn1:l1.length=n1) (hn2:l2.length=n2) (hm1:n1≤1048576) (hm2:n2≤1048576) (hq:Big.qok ((s,l1),(t,l2))) (hl:yM (yP ((s,l1),(t,l2)))≤1048576):Con yj 125 [.agg #[.bool (s),.slice (p1) (n1) (c1),.bool (t),.slice (p2) (n2) (c2)]] [] [slF (rI .u32) (p1) (c1) (l1),slF (rI .u32) (p2) (c2) (l2)] (Y:=(Wd)×(Wd)) (fun y=>True) (fun y=> .agg #[y.1.b,y.1.l,y.2.b,y.2.l]) (fun y=>[]) (fun y=>[qF true y.1 y.2 (yP ((s,l1),(t,l2)))]):=by
  exact con_qr (zLe hn1 hn2 hm1 hm2 hq) rfl rfl hl
theorem zYc {z:Int} (hz: -9223372036854775808≤z∧z≤9223372036854775807):Con yj 93 [ya yb z] [] [] (Y:=Wd×Wd) (fun y=>True) (fun y=> .agg #[y.1.b,y.1.l,y.2.b,y.2.l]) (fun y=>[]) (fun y=>[qF true y.1 y.2 ((z:Int):Rat)]):=by
 refine zl Tryz.func93 rfl rfl rfl (fun c=> ?_)
 show RunC _ _ _ _ _ [(0,ya yb z)] [] []
 refine zg<|za<|zM rfl rfl (zo zr43 rfl) (fun b1=> ?_)
 refine zh<|zd<|zg<|za<|e_mv rfl<|zC rfl rfl (.c rfl .n) ce84 (zrf (z:=z) (hz:=ass)) (.n) ?_
 rintro w32 -
 dsimp only [aq,nq,cq]
 refine zC rfl rfl (.c rfl .n) ce84 (zrf (z:=1) (hz:=by first|rfl|assumption|omega|(rw [yq];omega)|(decide +kernel))) (.n) ?_
 rintro w33 -
 dsimp only [aq,nq,cq]
 refine e_p (zH zr43 rfl yi (.c sz41 (.c sz41 .n)) (.c rfl (.c rfl .n)) (.c rfl rfl rfl (.t2 .nil) (.c rfl rfl rfl (.s2 (.t2 .nil)) .n)))<|zm 0 rfl rfl rfl rfl rfl sz43 rfl (.t4 .nil) .z<|zh<|zd<|zI<|zJb (qF true w32 w33 ((z:Int):Rat)) (qF_close 1 0 rfl rfl (by exact ⟨(Rat.num_intCast z).symm,by rw [Rat.den_intCast];rfl,Nat.le_trans (Big.hq_64 hz.1 hz.2) dd⟩)) ?_
 exact zu Tryz.results93 (w32,w33) trivial (zr 0 ty43 rfl rfl (.t4 .nil)) rfl (ho:=(.n:PickO _ _ _)) ((.c (j:=0) rfl .n):SelR _ _ _)
theorem zMe {s:Bool} {p1:Option Addr} {n1:Nat} {c1:Nat} {l1:List Int} {t:Bool} {p2:Option Addr} {n2:Nat} {c2:Nat} {l2:List Int} (hn1:l1.length=n1) (hn2:l2.length=n2) (hm1:n1≤1048576) (hm2:n2≤1048576):Con yj 98 [.agg #[.bool s,.slice p1 n1 c1,.bool t,.slice p2 n2 c2]] [] [slF (rI .u32) p1 c1 l1,slF (rI .u32) p2 c2 l2] (Y:=Wd×Wd) (fun y=>True) (fun y=> .agg #[y.1.b,y.1.l,y.2.b,y.2.l]) (fun y=>[]) (fun y=>[qF true y.1 y.2 (yP ((s,l1),(t,l2)))]):=by
 refine zl Tryz.func98 rfl rfl rfl (fun c=> ?_)
 show RunC _ _ _ _ _ [(0,.agg #[.bool s,.slice p1 n1 c1,.bool t,.slice p2 n2 c2])] [] [slF (rI .u32) p1 c1 l1,slF (rI .u32) p2 c2 l2]
 refine zda 0 rfl (fun hL0=> ?_)
 refine zTa 0 rfl (fun hE0=> ?_)
 refine zda 1 rfl (fun hL1=> ?_)
 refine zTa 1 rfl (fun hE1=> ?_)
 have hnn1:yK l1:=fun g hg=>(zB.1 (hE0 g hg)).1
 have hnn2:yK l2:=fun g hg=>(zB.1 (hE1 g hg)).1
 have hb1:yx (yk s l1)≤n1:=by have:=Big.zUa (s:=s) hnn1;omega
 have hb2:yx (yk t l2)≤n2:=by have:=Big.zUa (s:=t) hnn2;omega
 refine zg<|za<|zM rfl rfl (zS rfl rfl) (fun b1=> ?_)
 refine zM rfl rfl (zo zr43 rfl) (fun b2=> ?_)
 refine zh<|zd<|zg<|zg<|za<|e_ru (zb 1 ty43 rfl rfl (.t4 .nil))<|zL rfl rfl (.c rfl .n) ce124 (zKe (s:=s) (p1:=p1) (n1:=n1) (c1:=c1) (l1:=l1) (t:=t) (p2:=p2) (n2:=n2) (c2:=c2) (l2:=l2) (hn1:=ass) (hn2:=ass) (hm1:=ass) (hm2:=ass)) (.c (j:=0) rfl (.c (j:=1) rfl .n))<|zh<|zd<|zG rfl (fun hq=> ?_) (fun hq=> ?_)
 ·
  have hrp:=Big.raw_parts (x:=((s,l1),(t,l2))) hnn1 hnn2 hq
  have hqp:=Big.qv_parts (x:=((s,l1),(t,l2))) hq
  have hl:yM (yP ((s,l1),(t,l2)))≤1048576:=by unfold yM;rw [hqp.1,hqp.2];dsimp only;omega
  refine zg<|za<|e_ru (zb 1 ty43 rfl rfl (.t4 .nil))<|zC rfl rfl (.c rfl .n) ce125 (zee (s:=s) (p1:=p1) (n1:=n1) (c1:=c1) (l1:=l1) (t:=t) (p2:=p2) (n2:=n2) (c2:=c2) (l2:=l2) (hn1:=ass) (hn2:=ass) (hm1:=ass) (hm2:=ass) (hq:=by first|rfl|assumption|omega|(rw [yq];omega)|(decide +kernel)) (hl:=by first|rfl|assumption|omega|(rw [yq];omega)|(decide +kernel))) (.c (j:=0) rfl (.c (j:=1) rfl .n)) ?_
  rintro ⟨w33,w44⟩ -
  dsimp only [aq,nq,cq]
  refine zm 0 rfl rfl rfl rfl rfl sz43 rfl (.t4 .nil) .z<|zh<|zd<|zI<|zi ?_
  exact zu Tryz.results98 (w33,w44) trivial (zr 0 ty43 rfl rfl (.t4 .nil)) rfl (ho:=(.n:PickO _ _ _)) ((.c (j:=0) rfl .n):SelR _ _ _)
 ·
  have hz:=Big.qv_not (x:=((s,l1),(t,l2))) hq
  refine zw<|zd<|zg<|za<|zC rfl rfl (.c rfl .n) ce93 (zYc (z:=0) (hz:=by first|rfl|assumption|omega|(rw [yq];omega)|(decide +kernel))) (.n) ?_
  rintro ⟨w35,w46⟩ -
  dsimp only [aq,nq,cq]
  refine zm 0 rfl rfl rfl rfl rfl sz43 rfl (.t4 .nil) .z<|zh<|zd<|zI ?_
  exact zu Tryz.results98 (w35,w46) trivial (zr 0 ty43 rfl rfl (.t4 .nil)) rfl (ho:=(.n:PickO _ _ _)) ((.e (j:=0) rfl (by rw [hz];rfl) .n):SelR _ _ _)
theorem zEa {k1:Bool} {u1:Wd} {v1:Wd} {q1:Rat}:Con yj 98 [.agg #[u1.b,u1.l,v1.b,v1.l]] [] [qF k1 u1 v1 (q1)] (Y:=(Wd)×(Wd)) (fun y=>True) (fun y=> .agg #[y.1.b,y.1.l,y.2.b,y.2.l]) (fun y=>[]) (fun y=>[qF true y.1 y.2 (q1)]):=by
  exact zkf (fun x hx hk h1 h2 hl=>by subst hx;exact zMe rfl rfl h1 h2)
theorem zLb {k1:Bool} {u1:Wd} {v1:Wd} {q1:Rat}:Con yj 97 [.agg #[u1.b,u1.l,v1.b,v1.l]] [] [qF k1 u1 v1 q1] (Y:=Unit) (fun y=>True) (fun y=> ya yb (Big.sgq q1)) (fun y=>[]) (fun y=>[]):=by
 refine zl Tryz.func97 rfl rfl rfl (fun c=> ?_)
 show RunC _ _ _ _ _ [(0,.agg #[u1.b,u1.l,v1.b,v1.l])] [] [qF k1 u1 v1 q1]
 refine zg<|za<|zM rfl rfl (zS rfl rfl) (fun b1=> ?_)
 refine e_p (zc rfl)<|zh<|zd<|zg<|za<|e_ru (zb 0 ty43 rfl rfl (.t4 .nil))<|zC rfl rfl (.c rfl .n) ce98 (zEa (k1:=k1) (u1:=u1) (v1:=v1) (q1:=q1)) (.c (j:=0) rfl .n) ?_
 rintro ⟨w32,w43⟩ -
 dsimp only [aq,nq,cq]
 refine e_p (zyc yi rfl ty41 rfl (.t2 .nil))<|zxc (qF_open 0 rfl) (fun _ _=> ?_)
 refine zL rfl rfl (.c rfl .n) ce120 (zXc (w1:=w32) (x1:=(q1).num)) (.c (j:=0) rfl .n)<|e_p (zc rfl)<|zh<|zd<|zI ?_
 exact zu Tryz.results97 () trivial (zk rfl) rfl (ho:=(.n:PickO _ _ _)) (.n:SelR _ _ _)
theorem zWf {k1:Bool} {u1:Wd} {v1:Wd} {q1:Rat} (hl:yM q1≤1048576):Con yj 126 [.agg #[u1.b,u1.l,v1.b,v1.l]] [] [qF k1 u1 v1 q1] (Y:=Wd×Wd) (fun y=>True) (fun y=> .agg #[y.1.b,y.1.l,y.2.b,y.2.l]) (fun y=>[]) (fun y=>[qF true y.1 y.2 (- q1)]):=by
 refine zl Tryz.func126 rfl rfl rfl (fun c=> ?_)
 show RunC _ _ _ _ _ [(0,.agg #[u1.b,u1.l,v1.b,v1.l])] [] [qF k1 u1 v1 q1]
 have a1:=yC q1
 have a2:=yD q1
 refine zg<|za<|zM rfl rfl (zS rfl rfl) (fun b1=> ?_)
 refine zM rfl rfl (zo zr43 rfl) (fun b2=> ?_)
 refine zh<|zd<|zg<|za<|e_ru (zb 1 ty43 rfl rfl (.t4 .nil))<|zC rfl rfl (.c rfl .n) ce98 (zEa (k1:=k1) (u1:=u1) (v1:=v1) (q1:=q1)) (.c (j:=0) rfl .n) ?_
 rintro ⟨w33,w44⟩ -
 dsimp only [aq,nq,cq]
 refine zm 1 rfl rfl rfl rfl rfl sz43 rfl (.t4 .nil) (.s .z)<|zh<|zd<|zg<|zY (OW:=[boxA b2 43 (cw [wz,wz])]) (O:=[boxA b1 43 (cw [w33,w44])]) 6 mixed (.then .ret) kr<|e_pv 0 rfl rfl (zf yi rfl sz41 rfl rfl)<|e_uw 1 rfl rfl (zb 1 ty41 rfl rfl (.t2 .nil))<|e_pv 3 rfl rfl (zf yi rfl sz41 rfl rfl)<|e_uw 4 rfl rfl (zb 1 ty41 rfl rfl (.s2 (.t2 .nil)))<|zFb (qF_open 0 rfl) (fun _ _=> ?_)
 refine e_one 2 (zx rfl rfl rfl rfl (.c rfl .n) ce139 (zpd (w1:=w33) (x1:=(q1).num) (hln:=by first|rfl|assumption|omega|(rw [yq];omega)|(decide +kernel))) (.c (j:=0) rfl .n) ?_)
 rintro w35 -
 dsimp only [aq,nq,cq]
 refine e_pv 5 rfl rfl (zH zr43 rfl yi (.c sz41 (.c sz41 .n)) (.c rfl (.c rfl .n)) (.c rfl rfl rfl (.t2 .nil) (.c rfl rfl rfl (.s2 (.t2 .nil)) .n)))<|e_one 6 (zq kr rfl rfl rfl rfl rfl sz43 rfl (.t4 .nil) ?_)
 refine zU kr<|zd<|zI<|zJb (qF true w35 w44 (- q1)) (qF_close 0 2 rfl rfl (by exact ⟨(Rat.neg_num q1).symm,by rw [Rat.neg_den],by rw [Big.hq_neg];exact hl⟩)) ?_
 exact zu Tryz.results126 (w35,w44) trivial (zr 0 ty43 rfl rfl (.t4 .nil)) rfl (ho:=(.n:PickO _ _ _)) ((.c (j:=0) rfl .n):SelR _ _ _)
theorem zlc {k1:Bool} {u1:Wd} {v1:Wd} {q1:Rat} {k2:Bool} {u2:Wd} {v2:Wd} {q2:Rat} (hl:yM q1+yM q2+1≤1048576):Con yj 101 [.agg #[u1.b,u1.l,v1.b,v1.l],.agg #[u2.b,u2.l,v2.b,v2.l]] [] [qF k1 u1 v1 q1,qF k2 u2 v2 q2] (Y:=Wd×Wd) (fun y=>True) (fun y=> .agg #[y.1.b,y.1.l,y.2.b,y.2.l]) (fun y=>[]) (fun y=>[qF true y.1 y.2 (q1+q2)]):=by
 refine zl Tryz.func101 rfl rfl rfl (fun c=> ?_)
 show RunC _ _ _ _ _ [(0,.agg #[u1.b,u1.l,v1.b,v1.l]),(1,.agg #[u2.b,u2.l,v2.b,v2.l])] [] [qF k1 u1 v1 q1,qF k2 u2 v2 q2]
 have a1:=yC q1
 have a2:=yD q1
 have a3:=yC q2
 have a4:=yD q2
 have b1:=yO q1.num q2.den
 have b2:=yO q2.num q1.den
 have b3:=Big.zPc (q1.num*q2.den) (q2.num*q1.den)
 have b4:=yO (q1.den:Int) q2.den
 have b5:=yO q1.num q2.num
 refine zg<|za<|zM rfl rfl (zS rfl rfl) (fun b1=> ?_)
 refine zM rfl rfl (zS rfl rfl) (fun b2=> ?_)
 refine zM rfl rfl (zo zr43 rfl) (fun b3=> ?_)
 refine zh<|zd<|zg<|zsa (.c (i:=2) rfl (.c (i:=1) rfl (.c (i:=0) rfl .n)))<|zY (OW:=[boxA b1 43 (cw [u1,v1]),boxA b2 43 (cw [u2,v2])]) (O:=[boxA b3 43 (cw [wz,wz])]) 4 mixed (.then .ret) kr<|e_uw 0 rfl rfl (zb 0 ty43 rfl rfl (.t4 .nil))<|e_uw 2 rfl rfl (zb 1 ty43 rfl rfl (.t4 .nil))<|e_one 1 (zx rfl rfl rfl rfl (.c rfl .n) ce98 (zEa (k1:=k1) (u1:=u1) (v1:=v1) (q1:=q1)) (.c (j:=0) rfl .n) ?_)
 rintro ⟨w34,w45⟩ -
 dsimp only [aq,nq,cq]
 refine e_one 3 (zx rfl rfl rfl rfl (.c rfl .n) ce98 (zEa (k1:=k2) (u1:=u2) (v1:=v2) (q1:=q2)) (.c (j:=2) rfl .n) ?_)
 rintro ⟨w36,w47⟩ -
 dsimp only [aq,nq,cq]
 refine e_one 4 (zq kr rfl rfl rfl rfl rfl sz43 rfl (.t4 .nil) ?_)
 refine zZa (zaa (i:=1) rfl)<|e_one 5 (zq kr rfl rfl rfl rfl rfl sz43 rfl (.t4 .nil) ?_)
 refine zU kr<|zd<|zg<|zsa (.c (i:=2) rfl (.c (i:=0) rfl (.c (i:=0) rfl .n)))<|zY (OW:=[boxA b3 43 (cw [wz,wz])]) (O:=[boxA b2 43 (cw [w36,w47]),boxA b1 43 (cw [w34,w45])]) 17 mixed (.then .ret) kr<|e_pv 0 rfl rfl (zf yi rfl sz41 rfl rfl)<|e_uw 1 rfl rfl (zb 2 ty41 rfl rfl (.t2 .nil))<|e_pv 2 rfl rfl (zf yi rfl sz41 rfl rfl)<|e_uw 3 rfl rfl (zb 1 ty41 rfl rfl (.s2 (.t2 .nil)))<|e_pv 5 rfl rfl (zf yi rfl sz41 rfl rfl)<|e_uw 6 rfl rfl (zb 1 ty41 rfl rfl (.t2 .nil))<|e_pv 7 rfl rfl (zf yi rfl sz41 rfl rfl)<|e_uw 8 rfl rfl (zb 2 ty41 rfl rfl (.s2 (.t2 .nil)))<|e_pv 11 rfl rfl (zf yi rfl sz41 rfl rfl)<|e_uw 12 rfl rfl (zb 2 ty41 rfl rfl (.s2 (.t2 .nil)))<|e_pv 13 rfl rfl (zf yi rfl sz41 rfl rfl)<|e_uw 14 rfl rfl (zb 1 ty41 rfl rfl (.s2 (.t2 .nil)))<|zFb (qF_open 1 rfl) (fun _ _=> ?_)
 refine zFb (qF_open 2 rfl) (fun _ _=> ?_)
 refine e_one 4 (zx rfl rfl rfl rfl (.c rfl (.c rfl .n)) ce86 (zAb (w1:=w34) (w2:=w47) (x1:=(q1).num) (x2:=(((q2).den:Nat):Int)) (hb1:=by first|rfl|assumption|omega|(rw [yq];omega)|(decide +kernel)) (hb2:=by first|rfl|assumption|omega|(rw [yq];omega)|(decide +kernel))) (.c (j:=2) rfl (.c (j:=1) rfl .n)) ?_)
 rintro w38 -
 dsimp only [aq,nq,cq]
 refine e_one 9 (zx rfl rfl rfl rfl (.c rfl (.c rfl .n)) ce86 (zAb (w1:=w36) (w2:=w45) (x1:=(q2).num) (x2:=(((q1).den:Nat):Int)) (hb1:=by first|rfl|assumption|omega|(rw [yq];omega)|(decide +kernel)) (hb2:=by first|rfl|assumption|omega|(rw [yq];omega)|(decide +kernel))) (.c (j:=1) rfl (.c (j:=4) rfl .n)) ?_)
 rintro w39 -
 dsimp only [aq,nq,cq]
 refine e_one 10 (zx rfl rfl rfl rfl (.c rfl (.c rfl .n)) ce85 (zSf (w1:=w38) (w2:=w39) (x1:=((q1).num)*(((q2).den:Nat):Int)) (x2:=((q2).num)*(((q1).den:Nat):Int)) (hb1:=by first|rfl|assumption|omega|(rw [yq];omega)|(decide +kernel)) (hb2:=by first|rfl|assumption|omega|(rw [yq];omega)|(decide +kernel))) (.c (j:=1) rfl (.c (j:=0) rfl .n)) ?_)
 rintro w310 -
 dsimp only [aq,nq,cq]
 refine e_one 15 (zx rfl rfl rfl rfl (.c rfl (.c rfl .n)) ce86 (zAb (w1:=w45) (w2:=w47) (x1:=(((q1).den:Nat):Int)) (x2:=(((q2).den:Nat):Int)) (hb1:=by first|rfl|assumption|omega|(rw [yq];omega)|(decide +kernel)) (hb2:=by first|rfl|assumption|omega|(rw [yq];omega)|(decide +kernel))) (.c (j:=6) rfl (.c (j:=4) rfl .n)) ?_)
 rintro w311 -
 dsimp only [aq,nq,cq]
 refine e_one 16 (zx rfl rfl rfl rfl (.c rfl (.c rfl .n)) ce121 (zYb (w1:=w310) (w2:=w311) (x1:=(((q1).num)*(((q2).den:Nat):Int))+(((q2).num)*(((q1).den:Nat):Int))) (x2:=(((q1).den:Nat):Int)*(((q2).den:Nat):Int)) (hl1:=by first|rfl|assumption|omega|(rw [yq];omega)|(decide +kernel)) (hl2:=by first|rfl|assumption|omega|(rw [yq];omega)|(decide +kernel)) (hd:=by exact Int.mul_ne_zero (yS q1) (yS q2))) (.c (j:=1) rfl (.c (j:=0) rfl .n)) ?_)
 rintro ⟨w312,w413⟩ -
 dsimp only [aq,nq,cq]
 refine e_one 17 (zq kr rfl rfl rfl rfl rfl sz43 rfl (.t4 .nil) ?_)
 refine zU kr<|zd<|zI ?_
 exact zu Tryz.results101 (w312,w413) trivial (zr 0 ty43 rfl rfl (.t4 .nil)) rfl (ho:=(.n:PickO _ _ _)) ((.e (j:=0) rfl (by rw [Big.add_parts]) .n):SelR _ _ _)
theorem zRb {k1:Bool} {u1:Wd} {v1:Wd} {q1:Rat} {k2:Bool} {u2:Wd} {v2:Wd} {q2:Rat} (hl:yM q1+yM q2+1≤1048576):Con yj 102 [.agg #[u1.b,u1.l,v1.b,v1.l],.agg #[u2.b,u2.l,v2.b,v2.l]] [] [qF k1 u1 v1 q1,qF k2 u2 v2 q2] (Y:=Wd×Wd) (fun y=>True) (fun y=> .agg #[y.1.b,y.1.l,y.2.b,y.2.l]) (fun y=>[]) (fun y=>[qF true y.1 y.2 (q1*q2)]):=by
 refine zl Tryz.func102 rfl rfl rfl (fun c=> ?_)
 show RunC _ _ _ _ _ [(0,.agg #[u1.b,u1.l,v1.b,v1.l]),(1,.agg #[u2.b,u2.l,v2.b,v2.l])] [] [qF k1 u1 v1 q1,qF k2 u2 v2 q2]
 have a1:=yC q1
 have a2:=yD q1
 have a3:=yC q2
 have a4:=yD q2
 have b1:=yO q1.num q2.den
 have b2:=yO q2.num q1.den
 have b3:=Big.zPc (q1.num*q2.den) (q2.num*q1.den)
 have b4:=yO (q1.den:Int) q2.den
 have b5:=yO q1.num q2.num
 refine zg<|za<|zM rfl rfl (zS rfl rfl) (fun b1=> ?_)
 refine zM rfl rfl (zS rfl rfl) (fun b2=> ?_)
 refine zM rfl rfl (zo zr43 rfl) (fun b3=> ?_)
 refine zh<|zd<|zg<|zsa (.c (i:=2) rfl (.c (i:=1) rfl (.c (i:=0) rfl .n)))<|zY (OW:=[boxA b1 43 (cw [u1,v1]),boxA b2 43 (cw [u2,v2])]) (O:=[boxA b3 43 (cw [wz,wz])]) 4 mixed (.then .ret) kr<|e_uw 0 rfl rfl (zb 0 ty43 rfl rfl (.t4 .nil))<|e_uw 2 rfl rfl (zb 1 ty43 rfl rfl (.t4 .nil))<|e_one 1 (zx rfl rfl rfl rfl (.c rfl .n) ce98 (zEa (k1:=k1) (u1:=u1) (v1:=v1) (q1:=q1)) (.c (j:=0) rfl .n) ?_)
 rintro ⟨w34,w45⟩ -
 dsimp only [aq,nq,cq]
 refine e_one 3 (zx rfl rfl rfl rfl (.c rfl .n) ce98 (zEa (k1:=k2) (u1:=u2) (v1:=v2) (q1:=q2)) (.c (j:=2) rfl .n) ?_)
 rintro ⟨w36,w47⟩ -
 dsimp only [aq,nq,cq]
 refine e_one 4 (zq kr rfl rfl rfl rfl rfl sz43 rfl (.t4 .nil) ?_)
 refine zZa (zaa (i:=1) rfl)<|e_one 5 (zq kr rfl rfl rfl rfl rfl sz43 rfl (.t4 .nil) ?_)
 refine zU kr<|zd<|zg<|zsa (.c (i:=2) rfl (.c (i:=0) rfl (.c (i:=0) rfl .n)))<|zY (OW:=[boxA b3 43 (cw [wz,wz])]) (O:=[boxA b2 43 (cw [w36,w47]),boxA b1 43 (cw [w34,w45])]) 11 mixed (.then .ret) kr<|e_pv 0 rfl rfl (zf yi rfl sz41 rfl rfl)<|e_uw 1 rfl rfl (zb 2 ty41 rfl rfl (.t2 .nil))<|e_pv 2 rfl rfl (zf yi rfl sz41 rfl rfl)<|e_uw 3 rfl rfl (zb 1 ty41 rfl rfl (.t2 .nil))<|e_pv 5 rfl rfl (zf yi rfl sz41 rfl rfl)<|e_uw 6 rfl rfl (zb 2 ty41 rfl rfl (.s2 (.t2 .nil)))<|e_pv 7 rfl rfl (zf yi rfl sz41 rfl rfl)<|e_uw 8 rfl rfl (zb 1 ty41 rfl rfl (.s2 (.t2 .nil)))<|zFb (qF_open 1 rfl) (fun _ _=> ?_)
 refine zFb (qF_open 2 rfl) (fun _ _=> ?_)
 refine e_one 4 (zx rfl rfl rfl rfl (.c rfl (.c rfl .n)) ce86 (zAb (w1:=w34) (w2:=w36) (x1:=(q1).num) (x2:=(q2).num) (hb1:=by first|rfl|assumption|omega|(rw [yq];omega)|(decide +kernel)) (hb2:=by first|rfl|assumption|omega|(rw [yq];omega)|(decide +kernel))) (.c (j:=2) rfl (.c (j:=0) rfl .n)) ?_)
 rintro w38 -
 dsimp only [aq,nq,cq]
 refine e_one 9 (zx rfl rfl rfl rfl (.c rfl (.c rfl .n)) ce86 (zAb (w1:=w45) (w2:=w47) (x1:=(((q1).den:Nat):Int)) (x2:=(((q2).den:Nat):Int)) (hb1:=by first|rfl|assumption|omega|(rw [yq];omega)|(decide +kernel)) (hb2:=by first|rfl|assumption|omega|(rw [yq];omega)|(decide +kernel))) (.c (j:=4) rfl (.c (j:=2) rfl .n)) ?_)
 rintro w39 -
 dsimp only [aq,nq,cq]
 refine e_one 10 (zx rfl rfl rfl rfl (.c rfl (.c rfl .n)) ce121 (zYb (w1:=w38) (w2:=w39) (x1:=((q1).num)*((q2).num)) (x2:=(((q1).den:Nat):Int)*(((q2).den:Nat):Int)) (hl1:=by first|rfl|assumption|omega|(rw [yq];omega)|(decide +kernel)) (hl2:=by first|rfl|assumption|omega|(rw [yq];omega)|(decide +kernel)) (hd:=by exact Int.mul_ne_zero (yS q1) (yS q2))) (.c (j:=1) rfl (.c (j:=0) rfl .n)) ?_)
 rintro ⟨w310,w411⟩ -
 dsimp only [aq,nq,cq]
 refine e_one 11 (zq kr rfl rfl rfl rfl rfl sz43 rfl (.t4 .nil) ?_)
 refine zU kr<|zd<|zI ?_
 exact zu Tryz.results102 (w310,w411) trivial (zr 0 ty43 rfl rfl (.t4 .nil)) rfl (ho:=(.n:PickO _ _ _)) ((.e (j:=0) rfl (by rw [Big.mul_parts]) .n):SelR _ _ _)
theorem zCb {k1:Bool} {u1:Wd} {v1:Wd} {q1:Rat} {k2:Bool} {u2:Wd} {v2:Wd} {q2:Rat} (hl:yM q1+yM q2+1≤1048576):Con yj 100 [.agg #[u1.b,u1.l,v1.b,v1.l],.agg #[u2.b,u2.l,v2.b,v2.l]] [] [qF k1 u1 v1 q1,qF k2 u2 v2 q2] (Y:=Wd×Wd) (fun y=>True) (fun y=> .agg #[y.1.b,y.1.l,y.2.b,y.2.l]) (fun y=>[]) (fun y=>[qF true y.1 y.2 (q1 - q2)]):=by
 refine zl Tryz.func100 rfl rfl rfl (fun c=> ?_)
 show RunC _ _ _ _ _ [(0,.agg #[u1.b,u1.l,v1.b,v1.l]),(1,.agg #[u2.b,u2.l,v2.b,v2.l])] [] [qF k1 u1 v1 q1,qF k2 u2 v2 q2]
 have a1:=yC q1
 have a2:=yD q1
 have a3:=yC q2
 have a4:=yD q2
 refine zg<|za<|zM rfl rfl (zS rfl rfl) (fun b1=> ?_)
 refine zM rfl rfl (zS rfl rfl) (fun b2=> ?_)
 refine zM rfl rfl (zo zr43 rfl) (fun b3=> ?_)
 refine zh<|zd<|zg<|zY (OW:=[boxA b3 43 (cw [wz,wz])]) (O:=[boxA b2 43 (cw [u2,v2]),boxA b1 43 (cw [u1,v1])]) 4 mixed (.then .ret) kr<|e_uw 0 rfl rfl (zb 2 ty43 rfl rfl (.t4 .nil))<|e_uw 1 rfl rfl (zb 1 ty43 rfl rfl (.t4 .nil))<|e_one 2 (zx rfl rfl rfl rfl (.c rfl .n) ce126 (zWf (k1:=k2) (u1:=u2) (v1:=v2) (q1:=q2) (hl:=by first|rfl|assumption|omega|(rw [yq];omega)|(decide +kernel)|(rw [Big.hq_neg];omega))) (.c (j:=1) rfl .n) ?_)
 rintro ⟨w34,w45⟩ -
 dsimp only [aq,nq,cq]
 refine e_one 3 (zx rfl rfl rfl rfl (.c rfl (.c rfl .n)) ce101 (zlc (k1:=k1) (u1:=u1) (v1:=v1) (q1:=q1) (k2:=true) (u2:=w34) (v2:=w45) (q2:= - q2) (hl:=by first|rfl|assumption|omega|(rw [yq];omega)|(decide +kernel)|(rw [Big.hq_neg];omega))) (.c (j:=1) rfl (.c (j:=0) rfl .n)) ?_)
 rintro ⟨w36,w47⟩ -
 dsimp only [aq,nq,cq]
 refine e_one 4 (zq kr rfl rfl rfl rfl rfl sz43 rfl (.t4 .nil) ?_)
 refine zU kr<|zd<|zI ?_
 exact zu Tryz.results100 (w36,w47) trivial (zr 0 ty43 rfl rfl (.t4 .nil)) rfl (ho:=(.n:PickO _ _ _)) ((.e (j:=0) rfl (by rw [Rat.sub_eq_add_neg]) .n):SelR _ _ _)
theorem zfe {k1:Bool} {u1:Wd} {v1:Wd} {q1:Rat} {k2:Bool} {u2:Wd} {v2:Wd} {q2:Rat} (hl:yM q1+yM q2+1≤1048576):Con yj 99 [.agg #[u1.b,u1.l,v1.b,v1.l],.agg #[u2.b,u2.l,v2.b,v2.l]] [] [qF k1 u1 v1 q1,qF k2 u2 v2 q2] (Y:=Wd×Wd) (fun y=>True) (fun y=> .tuple #[.agg #[y.1.b,y.1.l,y.2.b,y.2.l],ya yb (if q2=0 then 14 else 0)]) (fun y=>[]) (fun y=>[qF (decide (q2≠0)) y.1 y.2 (q1 / q2)]):=by
 refine zl Tryz.func99 rfl rfl rfl (fun c=> ?_)
 show RunC _ _ _ _ _ [(0,.agg #[u1.b,u1.l,v1.b,v1.l]),(1,.agg #[u2.b,u2.l,v2.b,v2.l])] [] [qF k1 u1 v1 q1,qF k2 u2 v2 q2]
 have a1:=yC q1
 have a2:=yD q1
 have a3:=yC q2
 have a4:=yD q2
 have b1:=yO q1.num q2.den
 have b2:=yO (q1.den:Int) q2.num
 refine zg<|za<|zM rfl rfl (zS rfl rfl) (fun b1=> ?_)
 refine zM rfl rfl (zS rfl rfl) (fun b2=> ?_)
 refine zM rfl rfl (zo zr43 rfl) (fun b3=> ?_)
 refine e_p (zc rfl)<|zh<|zd<|zg<|zsa (.c (i:=2) rfl (.c (i:=1) rfl (.c (i:=0) rfl .n)))<|zY (OW:=[boxA b1 43 (cw [u1,v1]),boxA b2 43 (cw [u2,v2])]) (O:=[boxA b3 43 (cw [wz,wz])]) 4 mixed (.then .ret) kr<|e_uw 0 rfl rfl (zb 0 ty43 rfl rfl (.t4 .nil))<|e_uw 2 rfl rfl (zb 1 ty43 rfl rfl (.t4 .nil))<|e_one 1 (zx rfl rfl rfl rfl (.c rfl .n) ce98 (zEa (k1:=k1) (u1:=u1) (v1:=v1) (q1:=q1)) (.c (j:=0) rfl .n) ?_)
 rintro ⟨w34,w45⟩ -
 dsimp only [aq,nq,cq]
 refine e_one 3 (zx rfl rfl rfl rfl (.c rfl .n) ce98 (zEa (k1:=k2) (u1:=u2) (v1:=v2) (q1:=q2)) (.c (j:=2) rfl .n) ?_)
 rintro ⟨w36,w47⟩ -
 dsimp only [aq,nq,cq]
 refine e_one 4 (zq kr rfl rfl rfl rfl rfl sz43 rfl (.t4 .nil) ?_)
 refine zZa (zaa (i:=1) rfl)<|e_one 5 (zq kr rfl rfl rfl rfl rfl sz43 rfl (.t4 .nil) ?_)
 refine zU kr<|zd<|zg<|zg<|za<|e_p (zf yi rfl sz41 rfl rfl)<|e_ru (zb 0 ty41 rfl rfl (.t2 .nil))<|zxc (qF_open 0 rfl) (fun _ _=> ?_)
 refine zL rfl rfl (.c rfl .n) ce120 (zXc (w1:=w36) (x1:=(q2).num)) (.c (j:=0) rfl .n)<|e_p (zDa rfl rfl)<|zh<|zd<|zG rfl (fun hz0=> ?_) (fun hz0=> ?_)
 ·
  have hx0:q2=0:=Rat.num_eq_zero.1 (Big.sign_zero.1 hz0)
  refine zg<|za<|e_p (zH zr43 rfl yi (.c sz41 (.c sz41 .n)) .n .n)<|zm 2 rfl rfl rfl rfl rfl sz43 rfl (.t4 .nil) (.s (.s .z))<|e_p (zc rfl)<|zh<|zd<|zI<|zi<|zJb (qF false wz wz 0) (fun g _=>qF_none g) ?_
  exact zza Tryz.results99 (wz,wz) trivial (zr 2 ty43 rfl rfl (.t4 .nil)) (zk rfl) (by rw [if_pos hx0];rfl) (ho:=(.n:PickO _ _ _)) ((.e (j:=0) rfl (by rw [Big.div_nil hx0,decide_eq_false (not_not_intro hx0)]) .n):SelR _ _ _)
 ·
  have hx1:q2.num≠0:=fun e=>hz0 (Big.sign_zero.2 e)
  have hx0:q2≠0:=fun e=>hx1 (Rat.num_eq_zero.2 e)
  refine zw<|zd<|zg<|zsa (.c (i:=2) rfl (.c (i:=0) rfl (.c (i:=0) rfl .n)))<|zY (OW:=[boxA b3 43 (cw [wz,wz])]) (O:=[boxA b2 43 (cw [w36,w47]),boxA b1 43 (cw [w34,w45])]) 11 mixed (.then .ret) kr<|e_pv 0 rfl rfl (zf yi rfl sz41 rfl rfl)<|e_uw 1 rfl rfl (zb 2 ty41 rfl rfl (.t2 .nil))<|e_pv 2 rfl rfl (zf yi rfl sz41 rfl rfl)<|e_uw 3 rfl rfl (zb 1 ty41 rfl rfl (.s2 (.t2 .nil)))<|e_pv 5 rfl rfl (zf yi rfl sz41 rfl rfl)<|e_uw 6 rfl rfl (zb 2 ty41 rfl rfl (.s2 (.t2 .nil)))<|e_pv 7 rfl rfl (zf yi rfl sz41 rfl rfl)<|e_uw 8 rfl rfl (zb 1 ty41 rfl rfl (.t2 .nil))<|zFb (qF_open 3 rfl) (fun _ _=> ?_)
  refine e_one 4 (zx rfl rfl rfl rfl (.c rfl (.c rfl .n)) ce86 (zAb (w1:=w34) (w2:=w47) (x1:=(q1).num) (x2:=(((q2).den:Nat):Int)) (hb1:=by first|rfl|assumption|omega|(rw [yq];omega)|(decide +kernel)) (hb2:=by first|rfl|assumption|omega|(rw [yq];omega)|(decide +kernel))) (.c (j:=0) rfl (.c (j:=3) rfl .n)) ?_)
  rintro w38 -
  dsimp only [aq,nq,cq]
  refine e_one 9 (zx rfl rfl rfl rfl (.c rfl (.c rfl .n)) ce86 (zAb (w1:=w45) (w2:=w36) (x1:=(((q1).den:Nat):Int)) (x2:=(q2).num) (hb1:=by first|rfl|assumption|omega|(rw [yq];omega)|(decide +kernel)) (hb2:=by first|rfl|assumption|omega|(rw [yq];omega)|(decide +kernel))) (.c (j:=2) rfl (.c (j:=3) rfl .n)) ?_)
  rintro w39 -
  dsimp only [aq,nq,cq]
  refine e_one 10 (zx rfl rfl rfl rfl (.c rfl (.c rfl .n)) ce121 (zYb (w1:=w38) (w2:=w39) (x1:=((q1).num)*(((q2).den:Nat):Int)) (x2:=(((q1).den:Nat):Int)*((q2).num)) (hl1:=by first|rfl|assumption|omega|(rw [yq];omega)|(decide +kernel)) (hl2:=by first|rfl|assumption|omega|(rw [yq];omega)|(decide +kernel)) (hd:=by exact Int.mul_ne_zero (yS q1) hx1)) (.c (j:=1) rfl (.c (j:=0) rfl .n)) ?_)
  rintro ⟨w310,w411⟩ -
  dsimp only [aq,nq,cq]
  refine e_one 11 (zq kr rfl rfl rfl rfl rfl sz43 rfl (.t4 .nil) ?_)
  refine e_pv 12 rfl rfl (zc rfl)<|zU kr<|zd<|zI ?_
  exact zza Tryz.results99 (w310,w411) trivial (zr 0 ty43 rfl rfl (.t4 .nil)) (zk rfl) (by rw [if_neg hx0]) (ho:=(.n:PickO _ _ _)) ((.e (j:=0) rfl (by rw [decide_eq_true hx0,Big.div_parts hx1]) .n):SelR _ _ _)
theorem zmb {k1:Bool} {u1:Wd} {v1:Wd} {q1:Rat} {k2:Bool} {u2:Wd} {v2:Wd} {q2:Rat} (hl:yM q1+yM q2+1≤1048576) (hy:q2≠0):Con yj 99 [.agg #[u1.b,u1.l,v1.b,v1.l],.agg #[u2.b,u2.l,v2.b,v2.l]] [] [qF k1 u1 v1 (q1),qF k2 u2 v2 (q2)] (Y:=(Wd)×(Wd)) (fun y=>True) (fun y=> .tuple #[.agg #[y.1.b,y.1.l,y.2.b,y.2.l],ya yb (0)]) (fun y=>[]) (fun y=>[qF true y.1 y.2 (q1 / q2)]):=by
  have h:= @zfe k1 u1 v1 q1 k2 u2 v2 q2 hl
  rw [if_neg hy,decide_eq_true hy] at h
  exact h
end Go.Proofs.YtjcpbhlijoigfaaGreat.Sp
