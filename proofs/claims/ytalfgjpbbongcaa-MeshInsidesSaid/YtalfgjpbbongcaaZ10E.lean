/- Lemmas on the walk and plain lemmas that the claim of this folder uses; each states its own conditions. Lines were printed by a program of ours. -/
import Derived.Test.YtalfgjpbbongcaaZ10D
set_option linter.unusedVariables false
set_option linter.unusedSimpArgs false
set_option linter.unusedSectionVars false
namespace Go.Proofs.Ytalfgjpbbongcaa.Sp
open Go
set_option linter.unusedVariables false
set_option maxRecDepth 100000
set_option maxHeartbeats 1000000
theorem zPd {pv:Option Addr} {nv:Nat} {cv:Nat} {V:List (Int×Int×Int)} {pf:Option Addr} {nf:Nat} {cf:Nat} {F:List (Int×Int×Int)} (hnv:V.length=nv) (hnf:F.length=nf):Con Try.prog 16 [.agg #[.slice pv nv cv,.slice pf nf cf]] [] [slF (rI3 .i64) pv cv V,slF (rI3 .i64) pf cf F] (Y:=Wd) (fun y=>True) (fun y=> .tuple #[.agg #[y.b,y.l],.int .i64 (Ms.volC V F)]) (fun y=>[]) (fun y=>[zF y (Ms.vol V F)]):=by
 refine zB Try.func16 rfl rfl rfl (fun c=> ?_)
 show RunC _ _ _ _ _ [(0,.agg #[.slice pv nv cv,.slice pf nf cf])] [] [slF (rI3 .i64) pv cv V,slF (rI3 .i64) pf cf F]
 refine zoa 0 rfl (fun hL0=> ?_)
 refine zoa 1 rfl (fun hL1=> ?_)
 refine zh<|za<|zS rfl rfl (zca rfl rfl) (fun b1=> ?_)
 refine zS rfl rfl (zn zr34 rfl) (fun b2=> ?_)
 refine r_pv rfl rfl (ze rfl)<|zj<|zc<|zh<|zh<|za<|r_u rfl rfl (zf 1 ty25 rfl rfl (.take (.take .nil)))<|zY rfl rfl (.c rfl .n) ce14 (zJb (pv:=pv) (nv:=nv) (cv:=cv) (V:=V) (pf:=pf) (nf:=nf) (cf:=cf) (F:=F) (hnv:=by assumption) (hnf:=by assumption)) (.c (j:=0) rfl (.c (j:=1) rfl .n))<|r_pv rfl rfl (ze rfl)<|zj<|zc<|zh<|za<|r_pv rfl rfl (zb rfl)<|r_pv rfl rfl (zZa rfl rfl)<|zj<|zc<|zI rfl (fun hcode=> ?_) (fun hcode=> ?_)
 ·
  refine zh<|za<|r_pv rfl rfl (zna zr34 rfl Try.underlying34 (.c sz4 (.c sz32 .n)) .n .n)<|r_pv rfl rfl (zb rfl)<|zx 0 rfl rfl rfl rfl rfl sz34 rfl (.take (.take .nil)) .z<|r_pv rfl rfl (ze rfl)<|zj<|zc<|zP<|zl ?_
  obtain ⟨hz1,hz2⟩:=Ms.volC_bad hcode
  refine zWe (zF wz 0) (fun g _=>zF_zero g) ?_
  exact zmb Try.results16 wz trivial (zV 0 ty34 rfl rfl (.take (.take .nil))) (zz rfl) (by rw [hz1];rfl) (ho:=(.n:PickO _ _ _)) ((.e (j:=0) rfl (by rw [hz2]) .n):SelR _ _ _)
 ·
  have hc0:=Decidable.not_not.1 hcode
  have hf0:=Ms.check_form hc0
  have hg:=Ms.form_zero.1 hf0
  have hnv5:nv≤512:=by have:=hg.nv;omega
  have hnf5:nf≤1024:=by have:=hg.nf;omega
  refine zw<|zc<|zh<|zh<|za<|r_u rfl rfl (zf 1 ty25 rfl rfl (.take (.take .nil)))<|zea rfl rfl (.c rfl .n) ce56 (zgc (pv:=pv) (nv:=nv) (cv:=cv) (V:=V) (pf:=pf) (nf:=nf) (cf:=cf) (F:=F) (hnv:=by assumption) (hnf:=by assumption) (hg:=by first|rfl|assumption|omega)) (.c (j:=0) rfl (.c (j:=1) rfl .n)) ?_
  rintro ⟨b23,bm1⟩ hB
  dsimp only [List.append_eq,List.nil_append,List.cons_append]
  replace hB:Ms.BMap F bm1:=hB
  refine r_u rfl rfl (zDb (encK:=(fun z:Int=> .int .i64 z)) (encV:=(fun z:Int=> .int .i64 z)) (ok:=(InK .i64)) (m:=bm1) 0 rfl Try.underlying76 rfl)<|r_pv rfl rfl (zRa rfl rfl)<|zj<|zc<|zI rfl (fun hlen=> ?_) (fun hlen=> ?_)
  ·
   refine zh<|za<|r_pv rfl rfl (zna zr34 rfl Try.underlying34 (.c sz4 (.c sz32 .n)) .n .n)<|zx 1 rfl rfl rfl rfl rfl sz34 rfl (.take (.take .nil)) (.s .z)<|r_pv rfl rfl (ze rfl)<|zj<|zc<|zP<|zl ?_
   obtain ⟨hz1,hz2⟩:=Ms.volC_open hc0 (hB.empty.1 (by omega))
   refine zWe (zF wz 0) (fun g _=>zF_zero g) ?_
   exact zmb Try.results16 wz trivial (zV 1 ty34 rfl rfl (.take (.take .nil))) (zz rfl) (by rw [hz1];rfl) (ho:=(.n:PickO _ _ _)) ((.e (j:=0) rfl (by rw [hz2]) .n):SelR _ _ _)
  ·
   refine zw<|zc<|zh<|za<|zea rfl rfl (.c rfl .n) ce57 (zHb (z:=(0:Int)) (hz:=by first|rfl|assumption|omega)) (.n) ?_
   rintro w34 -
   dsimp only [List.append_eq,List.nil_append,List.cons_append]
   refine zS rfl rfl (zn zr34 rfl) (fun b5=> ?_)
   refine zx 0 rfl rfl rfl rfl rfl sz34 rfl (.take (.take .nil)) .z<|zj<|zc<|zh<|zh<|za<|r_pv rfl rfl (zm Try.underlying25 rfl sz23 rfl rfl)<|r_u rfl rfl (zd 3 ty23 rfl rfl rfl)<|r_pv rfl rfl (zX Try.underlying23 rfl)<|r_pv rfl rfl (zb rfl)<|zj<|zc<|zr<|zua (X:=Nat×Int×Wd) (fun x:Nat×Int×Wd=>x.1≤nf∧x.2.1=Ms.volS V (F.take x.1)∧Big.ln x.2.1≤4000+x.1) (fun x=>[(27,.int .i64 ((x.1:Nat):Int)),(26,.int .i64 ((nf:Nat):Int)),(25,.slice pf nf cf),(5,.pointer (some ⟨b5,0,none⟩)),(3,.int .i64 0),(2,.pointer (some ⟨b2,0,none⟩)),(1,.pointer (some ⟨b1,0,none⟩))]) (fun x=>[boxA b5 34 [x.2.2.b,x.2.2.l],mapA b23 (fun z:Int=> .int .i64 z) (fun z:Int=> .int .i64 z) (InK .i64) bm1,boxA b2 34 [.bool false,.slice none 0 0],boxA b1 25 [.slice pv nv cv,.slice pf nf cf]]) (fun x=>[zF x.2.2 (x.2.1),zF w34 (0:Int),slF (rI3 .i64) pv cv V,slF (rI3 .i64) pf cf F]) (fun x:Nat×Int×Wd=>nf - x.1) (0,(0:Int),w34) (show 0≤nf∧(0:Int)=Ms.volS V (F.take 0)∧Big.ln (0:Int)≤4000+0 from by exact ⟨Nat.zero_le _,rfl,by rw [Big.zyc];omega⟩) ((.e rfl (by first|rfl|(congr 1;omega)|simp_all) (.of rfl)):SubM _ _) (ho:=((.of [0,0,0,0] rfl):PickO _ _ _)) ((.of [0,0,1,2] rfl):SelR _ _ _) ?_
   rintro ⟨i,s,ws⟩ hI
   replace hI:i≤nf∧s=Ms.volS V (F.take i)∧Big.ln s≤4000+i:=hI
   try dsimp only
   obtain ⟨hi,hs,hln⟩:=hI
   refine zh<|za<|r_pv rfl rfl (zD rfl rfl)<|zj<|zc<|zh<|zI rfl (fun h6=> ?_) (fun h6=> ?_)
   ·
    have hat:=hg.at (show i<F.length by omega)
    have hv0:=hg.vat (i:=((F.getD i (0,0,0)).1).toNat) (by omega)
    have hv1:=hg.vat (i:=((F.getD i (0,0,0)).2.1).toNat) (by omega)
    have hv2:=hg.vat (i:=((F.getD i (0,0,0)).2.2).toNat) (by omega)
    refine zw<|zc<|zh<|zr<|zh<|za<|zW (x0:=(F.getD i (0,0,0))) 3 i rfl Try.underlying23 sz44 rfl rfl rfl (by first|rfl|assumption|(simp_all;done)|omega) rfl rfl (gD (d:=(0,0,0)) (by omega)) (fun b7 o8 hok9=> ?_)
    obtain ⟨hok9x,hok9y,hok9z⟩:=hok9
    replace hok9x:=zo.1 hok9x
    replace hok9y:=zo.1 hok9y
    replace hok9z:=zo.1 hok9z
    refine r_u rfl rfl (zN (j:=0) 0 ty44 rfl rfl rfl (.take (.take (.take .nil))))<|zS rfl rfl (zn zr44 rfl) (fun b10=> ?_)
    refine zx 0 rfl rfl rfl rfl rfl sz44 rfl (.take (.take (.take .nil))) .z<|zj<|zc<|zh<|za<|r_pv rfl rfl (zna zr42 rfl Try.underlying42 (.c sz3 (.c sz3 (.c sz3 .n))) .n .n)<|zS rfl rfl (zn zr42 rfl) (fun b11=> ?_)
    refine zx 0 rfl rfl rfl rfl rfl sz42 rfl (.take (.take (.take .nil))) .z<|zj<|zc<|zh<|zla (OW:=[]) (O:=[boxA b11 42 [.int .i64 0,.int .i64 0,.int .i64 0],boxA b10 44 [.int .i64 ((F.getD i (0,0,0)).1),.int .i64 ((F.getD i (0,0,0)).2.1),.int .i64 ((F.getD i (0,0,0)).2.2)],boxA b5 34 [ws.b,ws.l],mapA b23 (fun z:Int=> .int .i64 z) (fun z:Int=> .int .i64 z) (InK .i64) bm1,boxA b2 34 [.bool false,.slice none 0 0],boxA b1 25 [.slice pv nv cv,.slice pf nf cf]]) 27 mixed (.then (.block (.then (.then (.block (.then .ret)))))) (by kernel_rfl)<|d_u 0 rfl rfl (by kernel_rfl) (by kernel_rfl) rfl rfl (zf 0 ty42 rfl rfl (.take (.take (.take .nil))))<|d_pv 1 rfl rfl (by kernel_rfl) (by kernel_rfl) rfl rfl (zm Try.underlying25 rfl sz22 rfl rfl)<|d_u 2 rfl rfl (by kernel_rfl) (by kernel_rfl) rfl rfl (zd 5 ty22 rfl rfl rfl)<|d_pv 3 rfl rfl (by kernel_rfl) (by kernel_rfl) rfl rfl (zg (i:=0) Try.underlying44 sz3 rfl rfl (by decide) rfl)<|d_u 4 rfl rfl (by kernel_rfl) (by kernel_rfl) rfl rfl (zd 1 ty3 rfl rfl rfl)<|zta (x0:=(V.getD (((F.getD i (0,0,0)).1).toNat) (0,0,0))) 5 rfl rfl (by kernel_rfl) (by kernel_rfl) 3 (((F.getD i (0,0,0)).1).toNat) rfl Try.underlying22 sz42 rfl rfl rfl (by first|rfl|assumption|(simp_all;done)|omega) rfl (by omega) (gD (d:=(0,0,0)) (by omega)) (fun b12 o13 hok14=> ?_)
    obtain ⟨hok14x,hok14y,hok14z⟩:=hok14
    replace hok14x:=zo.1 hok14x
    replace hok14y:=zo.1 hok14y
    replace hok14z:=zo.1 hok14z
    refine d_u 6 rfl rfl (by kernel_rfl) (by kernel_rfl) rfl rfl (zN (j:=0) 0 ty42 rfl rfl rfl (.take (.take (.take .nil))))<|d_u 8 rfl rfl (by kernel_rfl) (by kernel_rfl) rfl rfl (zf 0 ty42 rfl rfl (.take (.take (.take .nil))))<|d_pv 9 rfl rfl (by kernel_rfl) (by kernel_rfl) rfl rfl (zm Try.underlying25 rfl sz22 rfl rfl)<|d_u 10 rfl rfl (by kernel_rfl) (by kernel_rfl) rfl rfl (zd 5 ty22 rfl rfl rfl)<|d_pv 11 rfl rfl (by kernel_rfl) (by kernel_rfl) rfl rfl (zg (i:=1) Try.underlying44 sz3 rfl rfl (by decide) rfl)<|d_u 12 rfl rfl (by kernel_rfl) (by kernel_rfl) rfl rfl (zd 1 ty3 rfl rfl rfl)<|zta (x0:=(V.getD (((F.getD i (0,0,0)).2.1).toNat) (0,0,0))) 13 rfl rfl (by kernel_rfl) (by kernel_rfl) 4 (((F.getD i (0,0,0)).2.1).toNat) rfl Try.underlying22 sz42 rfl rfl rfl (by first|rfl|assumption|(simp_all;done)|omega) rfl (by omega) (gD (d:=(0,0,0)) (by omega)) (fun b15 o16 hok17=> ?_)
    obtain ⟨hok17x,hok17y,hok17z⟩:=hok17
    replace hok17x:=zo.1 hok17x
    replace hok17y:=zo.1 hok17y
    replace hok17z:=zo.1 hok17z
    refine d_u 14 rfl rfl (by kernel_rfl) (by kernel_rfl) rfl rfl (zN (j:=0) 0 ty42 rfl rfl rfl (.take (.take (.take .nil))))<|d_u 16 rfl rfl (by kernel_rfl) (by kernel_rfl) rfl rfl (zf 0 ty42 rfl rfl (.take (.take (.take .nil))))<|d_pv 17 rfl rfl (by kernel_rfl) (by kernel_rfl) rfl rfl (zm Try.underlying25 rfl sz22 rfl rfl)<|d_u 18 rfl rfl (by kernel_rfl) (by kernel_rfl) rfl rfl (zd 5 ty22 rfl rfl rfl)<|d_pv 19 rfl rfl (by kernel_rfl) (by kernel_rfl) rfl rfl (zg (i:=2) Try.underlying44 sz3 rfl rfl (by decide) rfl)<|d_u 20 rfl rfl (by kernel_rfl) (by kernel_rfl) rfl rfl (zd 1 ty3 rfl rfl rfl)<|zta (x0:=(V.getD (((F.getD i (0,0,0)).2.2).toNat) (0,0,0))) 21 rfl rfl (by kernel_rfl) (by kernel_rfl) 5 (((F.getD i (0,0,0)).2.2).toNat) rfl Try.underlying22 sz42 rfl rfl rfl (by first|rfl|assumption|(simp_all;done)|omega) rfl (by omega) (gD (d:=(0,0,0)) (by omega)) (fun b18 o19 hok20=> ?_)
    obtain ⟨hok20x,hok20y,hok20z⟩:=hok20
    replace hok20x:=zo.1 hok20x
    replace hok20y:=zo.1 hok20y
    replace hok20z:=zo.1 hok20z
    refine d_u 22 rfl rfl (by kernel_rfl) (by kernel_rfl) rfl rfl (zN (j:=0) 0 ty42 rfl rfl rfl (.take (.take (.take .nil))))<|zPb (m':=[(54,.agg #[.int .i64 ((V.getD (((F.getD i (0,0,0)).2.2).toNat) (0,0,0)).1),.int .i64 ((V.getD (((F.getD i (0,0,0)).2.2).toNat) (0,0,0)).2.1),.int .i64 ((V.getD (((F.getD i (0,0,0)).2.2).toNat) (0,0,0)).2.2)]),(48,.agg #[.int .i64 0,.int .i64 0,.int .i64 0]),(46,.agg #[.int .i64 ((V.getD (((F.getD i (0,0,0)).2.1).toNat) (0,0,0)).1),.int .i64 ((V.getD (((F.getD i (0,0,0)).2.1).toNat) (0,0,0)).2.1),.int .i64 ((V.getD (((F.getD i (0,0,0)).2.1).toNat) (0,0,0)).2.2)]),(40,.agg #[.int .i64 0,.int .i64 0,.int .i64 0]),(38,.agg #[.int .i64 ((V.getD (((F.getD i (0,0,0)).1).toNat) (0,0,0)).1),.int .i64 ((V.getD (((F.getD i (0,0,0)).1).toNat) (0,0,0)).2.1),.int .i64 ((V.getD (((F.getD i (0,0,0)).1).toNat) (0,0,0)).2.2)]),(32,.agg #[.int .i64 0,.int .i64 0,.int .i64 0]),(27,.int .i64 ((i:Nat):Int)),(26,.int .i64 ((nf:Nat):Int)),(25,.slice pf nf cf),(5,.pointer (some ⟨b5,0,none⟩)),(3,.int .i64 0),(2,.pointer (some ⟨b2,0,none⟩)),(1,.pointer (some ⟨b1,0,none⟩))]) (R':=[zF ws s,zF w34 (0:Int),slF (rI3 .i64) pv cv V,slF (rI3 .i64) pf cf F]) ((.of rfl):SubM _ _) (List.Perm.refl _) (List.Perm.refl _) ((.of [4,5,6,7] rfl):SelR _ _ _) ?_
    obtain ⟨qd1,hqd1⟩:∃z,z=(V.getD (((F.getD i (0,0,0)).2.2).toNat) (0,0,0)).1:=⟨_,rfl⟩
    rw [← hqd1]
    obtain ⟨qd2,hqd2⟩:∃z,z=(V.getD (((F.getD i (0,0,0)).2.2).toNat) (0,0,0)).2.1:=⟨_,rfl⟩
    rw [← hqd2]
    obtain ⟨qd3,hqd3⟩:∃z,z=(V.getD (((F.getD i (0,0,0)).2.2).toNat) (0,0,0)).2.2:=⟨_,rfl⟩
    rw [← hqd3]
    obtain ⟨qd4,hqd4⟩:∃z,z=(V.getD (((F.getD i (0,0,0)).2.1).toNat) (0,0,0)).1:=⟨_,rfl⟩
    rw [← hqd4]
    obtain ⟨qd5,hqd5⟩:∃z,z=(V.getD (((F.getD i (0,0,0)).2.1).toNat) (0,0,0)).2.1:=⟨_,rfl⟩
    rw [← hqd5]
    obtain ⟨qd6,hqd6⟩:∃z,z=(V.getD (((F.getD i (0,0,0)).2.1).toNat) (0,0,0)).2.2:=⟨_,rfl⟩
    rw [← hqd6]
    obtain ⟨qd7,hqd7⟩:∃z,z=(V.getD (((F.getD i (0,0,0)).1).toNat) (0,0,0)).1:=⟨_,rfl⟩
    rw [← hqd7]
    obtain ⟨qd8,hqd8⟩:∃z,z=(V.getD (((F.getD i (0,0,0)).1).toNat) (0,0,0)).2.1:=⟨_,rfl⟩
    rw [← hqd8]
    obtain ⟨qd9,hqd9⟩:∃z,z=(V.getD (((F.getD i (0,0,0)).1).toNat) (0,0,0)).2.2:=⟨_,rfl⟩
    rw [← hqd9]
    refine zL (X:=Wd×Wd×Wd×Wd×Wd×Wd×Wd×Wd×Wd×Nat×Nat×Nat) (k':=0) (L':=(lb 30 1073741823)) (fun (u7_1,u7_2,u7_3,u15_1,u15_2,u15_3,u23_1,u23_2,u23_3,u24_1,u25_1,u26_1)=>([(11,.pointer (some ⟨u26_1,0,none⟩)),(10,.pointer (some ⟨u25_1,0,none⟩)),(9,.pointer (some ⟨u24_1,0,none⟩)),(27,.int .i64 ((i:Nat):Int)),(26,.int .i64 ((nf:Nat):Int)),(25,.slice pf nf cf),(5,.pointer (some ⟨b5,0,none⟩)),(3,.int .i64 0),(2,.pointer (some ⟨b2,0,none⟩)),(1,.pointer (some ⟨b1,0,none⟩))],[boxA u26_1 89 (cw [u23_1,u23_2,u23_3]),boxA u25_1 89 (cw [u15_1,u15_2,u15_3]),boxA u24_1 89 (cw [u7_1,u7_2,u7_3])],[boxA b11 42 [.int .i64 0,.int .i64 0,.int .i64 0],boxA b10 44 [.int .i64 ((F.getD i (0,0,0)).1),.int .i64 ((F.getD i (0,0,0)).2.1),.int .i64 ((F.getD i (0,0,0)).2.2)],boxA b5 34 [ws.b,ws.l],mapA b23 (fun z:Int=> .int .i64 z) (fun z:Int=> .int .i64 z) (InK .i64) bm1,boxA b2 34 [.bool false,.slice none 0 0],boxA b1 25 [.slice pv nv cv,.slice pf nf cf]],[zF u23_1 (qd1 - 0),zF u23_2 (qd2 - 0),zF u23_3 (qd3 - 0),zF u15_1 (qd4 - 0),zF u15_2 (qd5 - 0),zF u15_3 (qd6 - 0),zF u7_1 (qd7 - 0),zF u7_2 (qd8 - 0),zF u7_3 (qd9 - 0),zF ws s,zF w34 (0:Int),slF (rI3 .i64) pv cv V,slF (rI3 .i64) pf cf F])) ?_ (fun hD0=> ?_)
    ·
     rintro ⟨u7_1,u7_2,u7_3,u15_1,u15_2,u15_3,u23_1,u23_2,u23_3,u24_1,u25_1,u26_1⟩
     dsimp only [cw]
     refine zma (by kernel_rfl) ?_
     subst hqd1 hqd2 hqd3 hqd4 hqd5 hqd6 hqd7 hqd8 hqd9
     refine zc<|zgb (.c (i:=5) rfl (.c (i:=0) rfl (.c (i:=0) rfl (.c (i:=0) rfl (.c (i:=0) rfl (.c (i:=0) rfl (.c (i:=0) rfl (.c (i:=0) rfl (.c (i:=0) rfl .n)))))))))<|zla (OW:=[boxA b5 34 [ws.b,ws.l]]) (O:=[boxA u26_1 89 [u23_1.b,u23_1.l,u23_2.b,u23_2.l,u23_3.b,u23_3.l],boxA u25_1 89 [u15_1.b,u15_1.l,u15_2.b,u15_2.l,u15_3.b,u15_3.l],boxA u24_1 89 [u7_1.b,u7_1.l,u7_2.b,u7_2.l,u7_3.b,u7_3.l],boxA b11 42 [.int .i64 0,.int .i64 0,.int .i64 0],boxA b10 44 [.int .i64 ((F.getD i (0,0,0)).1),.int .i64 ((F.getD i (0,0,0)).2.1),.int .i64 ((F.getD i (0,0,0)).2.2)],mapA b23 (fun z:Int=> .int .i64 z) (fun z:Int=> .int .i64 z) (InK .i64) bm1,boxA b2 34 [.bool false,.slice none 0 0],boxA b1 25 [.slice pv nv cv,.slice pf nf cf]]) 7 mixed (.block (.then (.then (.block (.then .ret))))) (by kernel_rfl)<|d_uw 0 rfl rfl (by kernel_rfl) (by kernel_rfl) (by kernel_rfl) rfl rfl (zf 0 ty34 rfl rfl (.take (.take .nil)))<|d_uw 1 rfl rfl (by kernel_rfl) (by kernel_rfl) (by kernel_rfl) rfl rfl (zf 3 ty89 rfl rfl (.take (.take (.take (.take (.take (.take .nil)))))))<|d_uw 2 rfl rfl (by kernel_rfl) (by kernel_rfl) (by kernel_rfl) rfl rfl (zf 2 ty89 rfl rfl (.take (.take (.take (.take (.take (.take .nil)))))))<|d_uw 3 rfl rfl (by kernel_rfl) (by kernel_rfl) (by kernel_rfl) rfl rfl (zf 1 ty89 rfl rfl (.take (.take (.take (.take (.take (.take .nil)))))))<|zE 4 (by kernel_rfl) (zu rfl rfl rfl rfl (.c rfl (.c rfl .n)) ce61 (zka (ex:=(((V.getD (((F.getD i (0,0,0)).2.1).toNat) (0,0,0)).1) - 0)) (ey:=(((V.getD (((F.getD i (0,0,0)).2.1).toNat) (0,0,0)).2.1) - 0)) (ez:=(((V.getD (((F.getD i (0,0,0)).2.1).toNat) (0,0,0)).2.2) - 0)) (wa0:=u15_1) (wa1:=u15_2) (wa2:=u15_3) (fx:=(((V.getD (((F.getD i (0,0,0)).2.2).toNat) (0,0,0)).1) - 0)) (fy:=(((V.getD (((F.getD i (0,0,0)).2.2).toNat) (0,0,0)).2.1) - 0)) (fz:=(((V.getD (((F.getD i (0,0,0)).2.2).toNat) (0,0,0)).2.2) - 0)) (wb0:=u23_1) (wb1:=u23_2) (wb2:=u23_3) (hlex:=by exact Nat.le_trans (Big.zv (by omega)) (by decide)) (hley:=by exact Nat.le_trans (Big.zv (by omega)) (by decide)) (hlez:=by exact Nat.le_trans (Big.zv (by omega)) (by decide)) (hlfx:=by exact Nat.le_trans (Big.zv (by omega)) (by decide)) (hlfy:=by exact Nat.le_trans (Big.zv (by omega)) (by decide)) (hlfz:=by exact Nat.le_trans (Big.zv (by omega)) (by decide))) (.c (j:=3) rfl (.c (j:=4) rfl (.c (j:=5) rfl (.c (j:=0) rfl (.c (j:=1) rfl (.c (j:=2) rfl .n)))))) ?_)
     rintro ⟨wr021,wr122,wr223⟩ -
     dsimp only [List.append_eq,List.nil_append,List.cons_append]
     refine zE 5 (by kernel_rfl) (zu rfl rfl rfl rfl (.c rfl (.c rfl .n)) ce60 (zjb (ex:=(((V.getD (((F.getD i (0,0,0)).1).toNat) (0,0,0)).1) - 0)) (ey:=(((V.getD (((F.getD i (0,0,0)).1).toNat) (0,0,0)).2.1) - 0)) (ez:=(((V.getD (((F.getD i (0,0,0)).1).toNat) (0,0,0)).2.2) - 0)) (wa0:=u7_1) (wa1:=u7_2) (wa2:=u7_3) (fx:=((((V.getD (((F.getD i (0,0,0)).2.1).toNat) (0,0,0)).2.1) - 0)*(((V.getD (((F.getD i (0,0,0)).2.2).toNat) (0,0,0)).2.2) - 0) - (((V.getD (((F.getD i (0,0,0)).2.1).toNat) (0,0,0)).2.2) - 0)*(((V.getD (((F.getD i (0,0,0)).2.2).toNat) (0,0,0)).2.1) - 0))) (fy:=((((V.getD (((F.getD i (0,0,0)).2.1).toNat) (0,0,0)).2.2) - 0)*(((V.getD (((F.getD i (0,0,0)).2.2).toNat) (0,0,0)).1) - 0) - (((V.getD (((F.getD i (0,0,0)).2.1).toNat) (0,0,0)).1) - 0)*(((V.getD (((F.getD i (0,0,0)).2.2).toNat) (0,0,0)).2.2) - 0))) (fz:=((((V.getD (((F.getD i (0,0,0)).2.1).toNat) (0,0,0)).1) - 0)*(((V.getD (((F.getD i (0,0,0)).2.2).toNat) (0,0,0)).2.1) - 0) - (((V.getD (((F.getD i (0,0,0)).2.1).toNat) (0,0,0)).2.1) - 0)*(((V.getD (((F.getD i (0,0,0)).2.2).toNat) (0,0,0)).1) - 0))) (wb0:=wr021) (wb1:=wr122) (wb2:=wr223) (hlex:=by first|(exact Nat.le_trans (Big.zv (by omega)) (by decide))|(refine Nat.le_trans (Big.zU ?_ ?_ ?_ ?_) (by decide) <;> exact Nat.le_trans (Big.zv (by omega)) (by decide))) (hley:=by first|(exact Nat.le_trans (Big.zv (by omega)) (by decide))|(refine Nat.le_trans (Big.zU ?_ ?_ ?_ ?_) (by decide) <;> exact Nat.le_trans (Big.zv (by omega)) (by decide))) (hlez:=by first|(exact Nat.le_trans (Big.zv (by omega)) (by decide))|(refine Nat.le_trans (Big.zU ?_ ?_ ?_ ?_) (by decide) <;> exact Nat.le_trans (Big.zv (by omega)) (by decide))) (hlfx:=by first|(exact Nat.le_trans (Big.zv (by omega)) (by decide))|(refine Nat.le_trans (Big.zU ?_ ?_ ?_ ?_) (by decide) <;> exact Nat.le_trans (Big.zv (by omega)) (by decide))) (hlfy:=by first|(exact Nat.le_trans (Big.zv (by omega)) (by decide))|(refine Nat.le_trans (Big.zU ?_ ?_ ?_ ?_) (by decide) <;> exact Nat.le_trans (Big.zv (by omega)) (by decide))) (hlfz:=by first|(exact Nat.le_trans (Big.zv (by omega)) (by decide))|(refine Nat.le_trans (Big.zU ?_ ?_ ?_ ?_) (by decide) <;> exact Nat.le_trans (Big.zv (by omega)) (by decide)))) (.c (j:=9) rfl (.c (j:=10) rfl (.c (j:=11) rfl (.c (j:=0) rfl (.c (j:=1) rfl (.c (j:=2) rfl .n)))))) ?_)
     rintro w324 -
     dsimp only [List.append_eq,List.nil_append,List.cons_append]
     refine zE 6 (by kernel_rfl) (zu rfl rfl rfl rfl (.c rfl (.c rfl .n)) ce59 (zlb (w1:=ws) (w2:=w324) (x1:=s) (x2:=Ms.dot ((((V.getD (((F.getD i (0,0,0)).1).toNat) (0,0,0)).1) - 0),(((V.getD (((F.getD i (0,0,0)).1).toNat) (0,0,0)).2.1) - 0),(((V.getD (((F.getD i (0,0,0)).1).toNat) (0,0,0)).2.2) - 0)) (((((V.getD (((F.getD i (0,0,0)).2.1).toNat) (0,0,0)).2.1) - 0)*(((V.getD (((F.getD i (0,0,0)).2.2).toNat) (0,0,0)).2.2) - 0) - (((V.getD (((F.getD i (0,0,0)).2.1).toNat) (0,0,0)).2.2) - 0)*(((V.getD (((F.getD i (0,0,0)).2.2).toNat) (0,0,0)).2.1) - 0)),((((V.getD (((F.getD i (0,0,0)).2.1).toNat) (0,0,0)).2.2) - 0)*(((V.getD (((F.getD i (0,0,0)).2.2).toNat) (0,0,0)).1) - 0) - (((V.getD (((F.getD i (0,0,0)).2.1).toNat) (0,0,0)).1) - 0)*(((V.getD (((F.getD i (0,0,0)).2.2).toNat) (0,0,0)).2.2) - 0)),((((V.getD (((F.getD i (0,0,0)).2.1).toNat) (0,0,0)).1) - 0)*(((V.getD (((F.getD i (0,0,0)).2.2).toNat) (0,0,0)).2.1) - 0) - (((V.getD (((F.getD i (0,0,0)).2.1).toNat) (0,0,0)).2.1) - 0)*(((V.getD (((F.getD i (0,0,0)).2.2).toNat) (0,0,0)).1) - 0)))) (hb1:=by first|omega|(refine Nat.le_trans (Big.zQb _ _ ?_ ?_ ?_ ?_ ?_ ?_) (by decide) <;> (try dsimp only) <;> first|(exact Nat.le_trans (Big.zv (by omega)) (by decide))|(refine Nat.le_trans (Big.zU ?_ ?_ ?_ ?_) (by decide) <;> exact Nat.le_trans (Big.zv (by omega)) (by decide)))) (hb2:=by first|omega|(refine Nat.le_trans (Big.zQb _ _ ?_ ?_ ?_ ?_ ?_ ?_) (by decide) <;> (try dsimp only) <;> first|(exact Nat.le_trans (Big.zv (by omega)) (by decide))|(refine Nat.le_trans (Big.zU ?_ ?_ ?_ ?_) (by decide) <;> exact Nat.le_trans (Big.zv (by omega)) (by decide))))) (.c (j:=13) rfl (.c (j:=0) rfl .n)) ?_)
     rintro w325 -
     dsimp only [List.append_eq,List.nil_append,List.cons_append]
     refine zE 7 (by kernel_rfl) (zM (by kernel_rfl) rfl rfl rfl rfl rfl sz34 rfl (.take (.take .nil)) ?_)
     refine zma (by kernel_rfl)<|zA<|zc<|za<|r_pv rfl rfl (zC (z:=(((i+1):Nat):Int)) rfl rfl (w64 (by omega)))<|r_pv rfl rfl (zb rfl)<|zj<|zga ((i+1),(s+(Ms.dot ((((V.getD (((F.getD i (0,0,0)).1).toNat) (0,0,0)).1) - 0),(((V.getD (((F.getD i (0,0,0)).1).toNat) (0,0,0)).2.1) - 0),(((V.getD (((F.getD i (0,0,0)).1).toNat) (0,0,0)).2.2) - 0)) (((((V.getD (((F.getD i (0,0,0)).2.1).toNat) (0,0,0)).2.1) - 0)*(((V.getD (((F.getD i (0,0,0)).2.2).toNat) (0,0,0)).2.2) - 0) - (((V.getD (((F.getD i (0,0,0)).2.1).toNat) (0,0,0)).2.2) - 0)*(((V.getD (((F.getD i (0,0,0)).2.2).toNat) (0,0,0)).2.1) - 0)),((((V.getD (((F.getD i (0,0,0)).2.1).toNat) (0,0,0)).2.2) - 0)*(((V.getD (((F.getD i (0,0,0)).2.2).toNat) (0,0,0)).1) - 0) - (((V.getD (((F.getD i (0,0,0)).2.1).toNat) (0,0,0)).1) - 0)*(((V.getD (((F.getD i (0,0,0)).2.2).toNat) (0,0,0)).2.2) - 0)),((((V.getD (((F.getD i (0,0,0)).2.1).toNat) (0,0,0)).1) - 0)*(((V.getD (((F.getD i (0,0,0)).2.2).toNat) (0,0,0)).2.1) - 0) - (((V.getD (((F.getD i (0,0,0)).2.1).toNat) (0,0,0)).2.1) - 0)*(((V.getD (((F.getD i (0,0,0)).2.2).toNat) (0,0,0)).1) - 0))))),w325) (show (i+1)≤nf∧(s+(Ms.dot ((((V.getD (((F.getD i (0,0,0)).1).toNat) (0,0,0)).1) - 0),(((V.getD (((F.getD i (0,0,0)).1).toNat) (0,0,0)).2.1) - 0),(((V.getD (((F.getD i (0,0,0)).1).toNat) (0,0,0)).2.2) - 0)) (((((V.getD (((F.getD i (0,0,0)).2.1).toNat) (0,0,0)).2.1) - 0)*(((V.getD (((F.getD i (0,0,0)).2.2).toNat) (0,0,0)).2.2) - 0) - (((V.getD (((F.getD i (0,0,0)).2.1).toNat) (0,0,0)).2.2) - 0)*(((V.getD (((F.getD i (0,0,0)).2.2).toNat) (0,0,0)).2.1) - 0)),((((V.getD (((F.getD i (0,0,0)).2.1).toNat) (0,0,0)).2.2) - 0)*(((V.getD (((F.getD i (0,0,0)).2.2).toNat) (0,0,0)).1) - 0) - (((V.getD (((F.getD i (0,0,0)).2.1).toNat) (0,0,0)).1) - 0)*(((V.getD (((F.getD i (0,0,0)).2.2).toNat) (0,0,0)).2.2) - 0)),((((V.getD (((F.getD i (0,0,0)).2.1).toNat) (0,0,0)).1) - 0)*(((V.getD (((F.getD i (0,0,0)).2.2).toNat) (0,0,0)).2.1) - 0) - (((V.getD (((F.getD i (0,0,0)).2.1).toNat) (0,0,0)).2.1) - 0)*(((V.getD (((F.getD i (0,0,0)).2.2).toNat) (0,0,0)).1) - 0)))))=Ms.volS V (F.take (i+1))∧Big.ln (s+(Ms.dot ((((V.getD (((F.getD i (0,0,0)).1).toNat) (0,0,0)).1) - 0),(((V.getD (((F.getD i (0,0,0)).1).toNat) (0,0,0)).2.1) - 0),(((V.getD (((F.getD i (0,0,0)).1).toNat) (0,0,0)).2.2) - 0)) (((((V.getD (((F.getD i (0,0,0)).2.1).toNat) (0,0,0)).2.1) - 0)*(((V.getD (((F.getD i (0,0,0)).2.2).toNat) (0,0,0)).2.2) - 0) - (((V.getD (((F.getD i (0,0,0)).2.1).toNat) (0,0,0)).2.2) - 0)*(((V.getD (((F.getD i (0,0,0)).2.2).toNat) (0,0,0)).2.1) - 0)),((((V.getD (((F.getD i (0,0,0)).2.1).toNat) (0,0,0)).2.2) - 0)*(((V.getD (((F.getD i (0,0,0)).2.2).toNat) (0,0,0)).1) - 0) - (((V.getD (((F.getD i (0,0,0)).2.1).toNat) (0,0,0)).1) - 0)*(((V.getD (((F.getD i (0,0,0)).2.2).toNat) (0,0,0)).2.2) - 0)),((((V.getD (((F.getD i (0,0,0)).2.1).toNat) (0,0,0)).1) - 0)*(((V.getD (((F.getD i (0,0,0)).2.2).toNat) (0,0,0)).2.1) - 0) - (((V.getD (((F.getD i (0,0,0)).2.1).toNat) (0,0,0)).2.1) - 0)*(((V.getD (((F.getD i (0,0,0)).2.2).toNat) (0,0,0)).1) - 0)))))≤4000+(i+1) from by refine ⟨by omega,by rw [Ms.volS_take (by omega),hs];simp [Ms.tet,Ms.det,Ms.pt,Ms.cross],?_⟩;refine Nat.le_trans (Big.zab _ _) ?_;have h9:∀z:Int,Big.ln z≤3000→max (Big.ln s) (Big.ln z)+1≤4000+(i+1):=fun z hz=>(by omega);refine h9 _ ?_;refine Big.zQb _ _ ?_ ?_ ?_ ?_ ?_ ?_ <;> (try dsimp only) <;> first|(exact Nat.le_trans (Big.zv (by omega)) (by decide))|(refine Nat.le_trans (Big.zU ?_ ?_ ?_ ?_) (by decide) <;> exact Nat.le_trans (Big.zv (by omega)) (by decide))) (by show nf - (i+1)<nf - i;omega) ((.of rfl):SubM _ _) (ho:=((.of [0,5,5,5] rfl):PickO _ _ _)) ((.e (j:=0) rfl (by first|rfl|simp_all) (.of [15,16,17] rfl)):SelR _ _ _)
    refine zL (X:=Wd×Wd×Wd×Wd×Wd×Wd×Wd×Wd×Wd×Nat×Nat×Nat) (k':=1) (L':=(lb 30 536870911)) (fun (u7_1,u7_2,u7_3,u15_1,u15_2,u15_3,u23_1,u23_2,u23_3,u24_1,u25_1,u26_1)=>([(11,.pointer (some ⟨u26_1,0,none⟩)),(10,.pointer (some ⟨u25_1,0,none⟩)),(9,.pointer (some ⟨u24_1,0,none⟩)),(55,.agg (cw [u23_1,u23_2,u23_3]).toArray),(27,.int .i64 ((i:Nat):Int)),(26,.int .i64 ((nf:Nat):Int)),(25,.slice pf nf cf),(5,.pointer (some ⟨b5,0,none⟩)),(3,.int .i64 0),(2,.pointer (some ⟨b2,0,none⟩)),(1,.pointer (some ⟨b1,0,none⟩))],[boxA u25_1 89 (cw [u15_1,u15_2,u15_3]),boxA u24_1 89 (cw [u7_1,u7_2,u7_3]),boxA u26_1 89 [.bool false,.slice none 0 0,.bool false,.slice none 0 0,.bool false,.slice none 0 0]],[boxA b11 42 [.int .i64 0,.int .i64 0,.int .i64 0],boxA b10 44 [.int .i64 ((F.getD i (0,0,0)).1),.int .i64 ((F.getD i (0,0,0)).2.1),.int .i64 ((F.getD i (0,0,0)).2.2)],boxA b5 34 [ws.b,ws.l],mapA b23 (fun z:Int=> .int .i64 z) (fun z:Int=> .int .i64 z) (InK .i64) bm1,boxA b2 34 [.bool false,.slice none 0 0],boxA b1 25 [.slice pv nv cv,.slice pf nf cf]],[zF u23_1 (qd1 - 0),zF u23_2 (qd2 - 0),zF u23_3 (qd3 - 0),zF u15_1 (qd4 - 0),zF u15_2 (qd5 - 0),zF u15_3 (qd6 - 0),zF u7_1 (qd7 - 0),zF u7_2 (qd8 - 0),zF u7_3 (qd9 - 0),zF ws s,zF w34 (0:Int),slF (rI3 .i64) pv cv V,slF (rI3 .i64) pf cf F])) ?_ (fun hD1=> ?_)
    ·
     rintro ⟨u7_1,u7_2,u7_3,u15_1,u15_2,u15_3,u23_1,u23_2,u23_3,u24_1,u25_1,u26_1⟩
     dsimp only [cw]
     refine zE 29 (by kernel_rfl) ?_
     ·
      refine zzb (zia (i:=2) rfl)<|zM (by kernel_rfl) rfl rfl rfl rfl rfl sz89 rfl (.take (.take (.take (.take (.take (.take .nil)))))) ?_
      exact zp (hD0 (u7_1,u7_2,u7_3,u15_1,u15_2,u15_3,u23_1,u23_2,u23_3,u24_1,u25_1,u26_1)) (by kernel_rfl) ((.of rfl):SubM _ _) .rfl .rfl ((.of [0,1,2,3,4,5,6,7,8,9,10,11,12] rfl):SelR _ _ _)
    refine zL (X:=Wd×Wd×Wd×Wd×Wd×Wd×Wd×Wd×Wd×Nat×Nat×Nat) (k':=2) (L':=(lb 30 268435455)) (fun (u7_1,u7_2,u7_3,u15_1,u15_2,u15_3,u23_1,u23_2,u23_3,u24_1,u25_1,u26_1)=>([(11,.pointer (some ⟨u26_1,0,none⟩)),(10,.pointer (some ⟨u25_1,0,none⟩)),(9,.pointer (some ⟨u24_1,0,none⟩)),(55,.agg (cw [u23_1,u23_2,u23_3]).toArray),(47,.agg (cw [u15_1,u15_2,u15_3]).toArray),(27,.int .i64 ((i:Nat):Int)),(26,.int .i64 ((nf:Nat):Int)),(25,.slice pf nf cf),(5,.pointer (some ⟨b5,0,none⟩)),(3,.int .i64 0),(2,.pointer (some ⟨b2,0,none⟩)),(1,.pointer (some ⟨b1,0,none⟩))],[boxA u24_1 89 (cw [u7_1,u7_2,u7_3]),boxA u26_1 89 [.bool false,.slice none 0 0,.bool false,.slice none 0 0,.bool false,.slice none 0 0],boxA u25_1 89 [.bool false,.slice none 0 0,.bool false,.slice none 0 0,.bool false,.slice none 0 0]],[boxA b11 42 [.int .i64 0,.int .i64 0,.int .i64 0],boxA b10 44 [.int .i64 ((F.getD i (0,0,0)).1),.int .i64 ((F.getD i (0,0,0)).2.1),.int .i64 ((F.getD i (0,0,0)).2.2)],boxA b5 34 [ws.b,ws.l],mapA b23 (fun z:Int=> .int .i64 z) (fun z:Int=> .int .i64 z) (InK .i64) bm1,boxA b2 34 [.bool false,.slice none 0 0],boxA b1 25 [.slice pv nv cv,.slice pf nf cf]],[zF u23_1 (qd1 - 0),zF u23_2 (qd2 - 0),zF u23_3 (qd3 - 0),zF u15_1 (qd4 - 0),zF u15_2 (qd5 - 0),zF u15_3 (qd6 - 0),zF u7_1 (qd7 - 0),zF u7_2 (qd8 - 0),zF u7_3 (qd9 - 0),zF ws s,zF w34 (0:Int),slF (rI3 .i64) pv cv V,slF (rI3 .i64) pf cf F])) ?_ (fun hD2=> ?_)
    ·
     rintro ⟨u7_1,u7_2,u7_3,u15_1,u15_2,u15_3,u23_1,u23_2,u23_3,u24_1,u25_1,u26_1⟩
     dsimp only [cw]
     refine zE 28 (by kernel_rfl) ?_
     ·
      refine zzb (zia (i:=2) rfl)<|zM (by kernel_rfl) rfl rfl rfl rfl rfl sz89 rfl (.take (.take (.take (.take (.take (.take .nil)))))) ?_
      exact zp (hD1 (u7_1,u7_2,u7_3,u15_1,u15_2,u15_3,u23_1,u23_2,u23_3,u24_1,u25_1,u26_1)) (by kernel_rfl) ((.of rfl):SubM _ _) .rfl .rfl ((.of [0,1,2,3,4,5,6,7,8,9,10,11,12] rfl):SelR _ _ _)
    refine zL (X:=Wd×Wd×Wd×Wd×Wd×Wd×Wd×Wd×Wd×Nat×Nat×Nat) (k':=3) (L':=(lb 30 134217727)) (fun (u7_1,u7_2,u7_3,u15_1,u15_2,u15_3,u23_1,u23_2,u23_3,u24_1,u25_1,u26_1)=>([(11,.pointer (some ⟨u26_1,0,none⟩)),(10,.pointer (some ⟨u25_1,0,none⟩)),(9,.pointer (some ⟨u24_1,0,none⟩)),(55,.agg (cw [u23_1,u23_2,u23_3]).toArray),(47,.agg (cw [u15_1,u15_2,u15_3]).toArray),(39,.agg (cw [u7_1,u7_2,u7_3]).toArray),(27,.int .i64 ((i:Nat):Int)),(26,.int .i64 ((nf:Nat):Int)),(25,.slice pf nf cf),(5,.pointer (some ⟨b5,0,none⟩)),(3,.int .i64 0),(2,.pointer (some ⟨b2,0,none⟩)),(1,.pointer (some ⟨b1,0,none⟩))],[boxA u26_1 89 [.bool false,.slice none 0 0,.bool false,.slice none 0 0,.bool false,.slice none 0 0],boxA u25_1 89 [.bool false,.slice none 0 0,.bool false,.slice none 0 0,.bool false,.slice none 0 0],boxA u24_1 89 [.bool false,.slice none 0 0,.bool false,.slice none 0 0,.bool false,.slice none 0 0]],[boxA b11 42 [.int .i64 0,.int .i64 0,.int .i64 0],boxA b10 44 [.int .i64 ((F.getD i (0,0,0)).1),.int .i64 ((F.getD i (0,0,0)).2.1),.int .i64 ((F.getD i (0,0,0)).2.2)],boxA b5 34 [ws.b,ws.l],mapA b23 (fun z:Int=> .int .i64 z) (fun z:Int=> .int .i64 z) (InK .i64) bm1,boxA b2 34 [.bool false,.slice none 0 0],boxA b1 25 [.slice pv nv cv,.slice pf nf cf]],[zF u23_1 (qd1 - 0),zF u23_2 (qd2 - 0),zF u23_3 (qd3 - 0),zF u15_1 (qd4 - 0),zF u15_2 (qd5 - 0),zF u15_3 (qd6 - 0),zF u7_1 (qd7 - 0),zF u7_2 (qd8 - 0),zF u7_3 (qd9 - 0),zF ws s,zF w34 (0:Int),slF (rI3 .i64) pv cv V,slF (rI3 .i64) pf cf F])) ?_ (fun hD3=> ?_)
    ·
     rintro ⟨u7_1,u7_2,u7_3,u15_1,u15_2,u15_3,u23_1,u23_2,u23_3,u24_1,u25_1,u26_1⟩
     dsimp only [cw]
     refine zE 27 (by kernel_rfl) ?_
     ·
      refine zzb (zia (i:=2) rfl)<|zM (by kernel_rfl) rfl rfl rfl rfl rfl sz89 rfl (.take (.take (.take (.take (.take (.take .nil)))))) ?_
      exact zp (hD2 (u7_1,u7_2,u7_3,u15_1,u15_2,u15_3,u23_1,u23_2,u23_3,u24_1,u25_1,u26_1)) (by kernel_rfl) ((.of rfl):SubM _ _) .rfl .rfl ((.of [0,1,2,3,4,5,6,7,8,9,10,11,12] rfl):SelR _ _ _)
    refine zL (X:=Wd×Wd×Wd×Wd×Wd×Wd×Wd×Wd×Wd×Nat×Nat) (k':=4) (L':=(lb 30 67108863)) (fun (u7_1,u7_2,u7_3,u15_1,u15_2,u15_3,u23_1,u23_2,u23_3,u24_1,u25_1)=>([(10,.pointer (some ⟨u25_1,0,none⟩)),(9,.pointer (some ⟨u24_1,0,none⟩)),(55,.agg (cw [u23_1,u23_2,u23_3]).toArray),(47,.agg (cw [u15_1,u15_2,u15_3]).toArray),(39,.agg (cw [u7_1,u7_2,u7_3]).toArray),(27,.int .i64 ((i:Nat):Int)),(26,.int .i64 ((nf:Nat):Int)),(25,.slice pf nf cf),(5,.pointer (some ⟨b5,0,none⟩)),(3,.int .i64 0),(2,.pointer (some ⟨b2,0,none⟩)),(1,.pointer (some ⟨b1,0,none⟩))],[boxA u25_1 89 [.bool false,.slice none 0 0,.bool false,.slice none 0 0,.bool false,.slice none 0 0],boxA u24_1 89 [.bool false,.slice none 0 0,.bool false,.slice none 0 0,.bool false,.slice none 0 0]],[boxA b11 42 [.int .i64 0,.int .i64 0,.int .i64 0],boxA b10 44 [.int .i64 ((F.getD i (0,0,0)).1),.int .i64 ((F.getD i (0,0,0)).2.1),.int .i64 ((F.getD i (0,0,0)).2.2)],boxA b5 34 [ws.b,ws.l],mapA b23 (fun z:Int=> .int .i64 z) (fun z:Int=> .int .i64 z) (InK .i64) bm1,boxA b2 34 [.bool false,.slice none 0 0],boxA b1 25 [.slice pv nv cv,.slice pf nf cf]],[zF u23_1 (qd1 - 0),zF u23_2 (qd2 - 0),zF u23_3 (qd3 - 0),zF u15_1 (qd4 - 0),zF u15_2 (qd5 - 0),zF u15_3 (qd6 - 0),zF u7_1 (qd7 - 0),zF u7_2 (qd8 - 0),zF u7_3 (qd9 - 0),zF ws s,zF w34 (0:Int),slF (rI3 .i64) pv cv V,slF (rI3 .i64) pf cf F])) ?_ (fun hD4=> ?_)
    ·
     rintro ⟨u7_1,u7_2,u7_3,u15_1,u15_2,u15_3,u23_1,u23_2,u23_3,u24_1,u25_1⟩
     dsimp only [cw]
     refine zE 26 (by kernel_rfl) ?_
     ·
      refine zO rfl rfl rfl rfl (zn zr89 rfl) (fun u26_1 _=> ?_)
      exact zp (hD3 (u7_1,u7_2,u7_3,u15_1,u15_2,u15_3,u23_1,u23_2,u23_3,u24_1,u25_1,u26_1)) (by kernel_rfl) ((.of rfl):SubM _ _) .rfl .rfl ((.of [0,1,2,3,4,5,6,7,8,9,10,11,12] rfl):SelR _ _ _)
    refine zL (X:=Wd×Wd×Wd×Wd×Wd×Wd×Wd×Wd×Wd×Nat×Nat) (k':=4) (L':=(lb 30 100663295)) (fun (u7_1,u7_2,u7_3,u15_1,u15_2,u15_3,u23_1,u23_2,u23_3,u24_1,u26_1)=>([(11,.pointer (some ⟨u26_1,0,none⟩)),(9,.pointer (some ⟨u24_1,0,none⟩)),(55,.agg (cw [u23_1,u23_2,u23_3]).toArray),(47,.agg (cw [u15_1,u15_2,u15_3]).toArray),(39,.agg (cw [u7_1,u7_2,u7_3]).toArray),(27,.int .i64 ((i:Nat):Int)),(26,.int .i64 ((nf:Nat):Int)),(25,.slice pf nf cf),(5,.pointer (some ⟨b5,0,none⟩)),(3,.int .i64 0),(2,.pointer (some ⟨b2,0,none⟩)),(1,.pointer (some ⟨b1,0,none⟩))],[boxA u26_1 89 [.bool false,.slice none 0 0,.bool false,.slice none 0 0,.bool false,.slice none 0 0],boxA u24_1 89 [.bool false,.slice none 0 0,.bool false,.slice none 0 0,.bool false,.slice none 0 0]],[boxA b11 42 [.int .i64 0,.int .i64 0,.int .i64 0],boxA b10 44 [.int .i64 ((F.getD i (0,0,0)).1),.int .i64 ((F.getD i (0,0,0)).2.1),.int .i64 ((F.getD i (0,0,0)).2.2)],boxA b5 34 [ws.b,ws.l],mapA b23 (fun z:Int=> .int .i64 z) (fun z:Int=> .int .i64 z) (InK .i64) bm1,boxA b2 34 [.bool false,.slice none 0 0],boxA b1 25 [.slice pv nv cv,.slice pf nf cf]],[zF u23_1 (qd1 - 0),zF u23_2 (qd2 - 0),zF u23_3 (qd3 - 0),zF u15_1 (qd4 - 0),zF u15_2 (qd5 - 0),zF u15_3 (qd6 - 0),zF u7_1 (qd7 - 0),zF u7_2 (qd8 - 0),zF u7_3 (qd9 - 0),zF ws s,zF w34 (0:Int),slF (rI3 .i64) pv cv V,slF (rI3 .i64) pf cf F])) ?_ (fun hD5=> ?_)
    ·
     rintro ⟨u7_1,u7_2,u7_3,u15_1,u15_2,u15_3,u23_1,u23_2,u23_3,u24_1,u26_1⟩
     dsimp only [cw]
     refine zE 25 (by kernel_rfl) ?_
     ·
      refine zO rfl rfl rfl rfl (zn zr89 rfl) (fun u25_1 _=> ?_)
      exact zp (hD3 (u7_1,u7_2,u7_3,u15_1,u15_2,u15_3,u23_1,u23_2,u23_3,u24_1,u25_1,u26_1)) (by kernel_rfl) ((.of rfl):SubM _ _) (zR 1 rfl (zR 0 rfl (zR 0 rfl .nil))) .rfl ((.of [0,1,2,3,4,5,6,7,8,9,10,11,12] rfl):SelR _ _ _)
    refine zL (X:=Wd×Wd×Wd×Wd×Wd×Wd×Wd×Wd×Wd×Nat×Nat) (k':=4) (L':=(lb 30 117440511)) (fun (u7_1,u7_2,u7_3,u15_1,u15_2,u15_3,u23_1,u23_2,u23_3,u25_1,u26_1)=>([(11,.pointer (some ⟨u26_1,0,none⟩)),(10,.pointer (some ⟨u25_1,0,none⟩)),(55,.agg (cw [u23_1,u23_2,u23_3]).toArray),(47,.agg (cw [u15_1,u15_2,u15_3]).toArray),(39,.agg (cw [u7_1,u7_2,u7_3]).toArray),(27,.int .i64 ((i:Nat):Int)),(26,.int .i64 ((nf:Nat):Int)),(25,.slice pf nf cf),(5,.pointer (some ⟨b5,0,none⟩)),(3,.int .i64 0),(2,.pointer (some ⟨b2,0,none⟩)),(1,.pointer (some ⟨b1,0,none⟩))],[boxA u26_1 89 [.bool false,.slice none 0 0,.bool false,.slice none 0 0,.bool false,.slice none 0 0],boxA u25_1 89 [.bool false,.slice none 0 0,.bool false,.slice none 0 0,.bool false,.slice none 0 0]],[boxA b11 42 [.int .i64 0,.int .i64 0,.int .i64 0],boxA b10 44 [.int .i64 ((F.getD i (0,0,0)).1),.int .i64 ((F.getD i (0,0,0)).2.1),.int .i64 ((F.getD i (0,0,0)).2.2)],boxA b5 34 [ws.b,ws.l],mapA b23 (fun z:Int=> .int .i64 z) (fun z:Int=> .int .i64 z) (InK .i64) bm1,boxA b2 34 [.bool false,.slice none 0 0],boxA b1 25 [.slice pv nv cv,.slice pf nf cf]],[zF u23_1 (qd1 - 0),zF u23_2 (qd2 - 0),zF u23_3 (qd3 - 0),zF u15_1 (qd4 - 0),zF u15_2 (qd5 - 0),zF u15_3 (qd6 - 0),zF u7_1 (qd7 - 0),zF u7_2 (qd8 - 0),zF u7_3 (qd9 - 0),zF ws s,zF w34 (0:Int),slF (rI3 .i64) pv cv V,slF (rI3 .i64) pf cf F])) ?_ (fun hD6=> ?_)
    ·
     rintro ⟨u7_1,u7_2,u7_3,u15_1,u15_2,u15_3,u23_1,u23_2,u23_3,u25_1,u26_1⟩
     dsimp only [cw]
     refine zE 24 (by kernel_rfl) ?_
     ·
      refine zO rfl rfl rfl rfl (zn zr89 rfl) (fun u24_1 _=> ?_)
      exact zp (hD3 (u7_1,u7_2,u7_3,u15_1,u15_2,u15_3,u23_1,u23_2,u23_3,u24_1,u25_1,u26_1)) (by kernel_rfl) ((.of rfl):SubM _ _) (zR 1 rfl (zR 1 rfl (zR 0 rfl .nil))) .rfl ((.of [0,1,2,3,4,5,6,7,8,9,10,11,12] rfl):SelR _ _ _)
    refine zL (X:=Wd×Wd×Wd×Wd×Wd×Wd×Nat×Nat×Nat) (k':=4) (L':=(lb 30 125829119)) (fun (u7_1,u7_2,u7_3,u15_1,u15_2,u15_3,u24_1,u25_1,u26_1)=>([(11,.pointer (some ⟨u26_1,0,none⟩)),(10,.pointer (some ⟨u25_1,0,none⟩)),(9,.pointer (some ⟨u24_1,0,none⟩)),(47,.agg (cw [u15_1,u15_2,u15_3]).toArray),(39,.agg (cw [u7_1,u7_2,u7_3]).toArray),(54,.agg #[.int .i64 qd1,.int .i64 qd2,.int .i64 qd3]),(48,.agg #[.int .i64 0,.int .i64 0,.int .i64 0]),(27,.int .i64 ((i:Nat):Int)),(26,.int .i64 ((nf:Nat):Int)),(25,.slice pf nf cf),(5,.pointer (some ⟨b5,0,none⟩)),(3,.int .i64 0),(2,.pointer (some ⟨b2,0,none⟩)),(1,.pointer (some ⟨b1,0,none⟩))],[boxA u26_1 89 [.bool false,.slice none 0 0,.bool false,.slice none 0 0,.bool false,.slice none 0 0],boxA u25_1 89 [.bool false,.slice none 0 0,.bool false,.slice none 0 0,.bool false,.slice none 0 0],boxA u24_1 89 [.bool false,.slice none 0 0,.bool false,.slice none 0 0,.bool false,.slice none 0 0]],[boxA b11 42 [.int .i64 0,.int .i64 0,.int .i64 0],boxA b10 44 [.int .i64 ((F.getD i (0,0,0)).1),.int .i64 ((F.getD i (0,0,0)).2.1),.int .i64 ((F.getD i (0,0,0)).2.2)],boxA b5 34 [ws.b,ws.l],mapA b23 (fun z:Int=> .int .i64 z) (fun z:Int=> .int .i64 z) (InK .i64) bm1,boxA b2 34 [.bool false,.slice none 0 0],boxA b1 25 [.slice pv nv cv,.slice pf nf cf]],[zF u15_1 (qd4 - 0),zF u15_2 (qd5 - 0),zF u15_3 (qd6 - 0),zF u7_1 (qd7 - 0),zF u7_2 (qd8 - 0),zF u7_3 (qd9 - 0),zF ws s,zF w34 (0:Int),slF (rI3 .i64) pv cv V,slF (rI3 .i64) pf cf F])) ?_ (fun hD7=> ?_)
    ·
     rintro ⟨u7_1,u7_2,u7_3,u15_1,u15_2,u15_3,u24_1,u25_1,u26_1⟩
     dsimp only [cw]
     refine zE 23 (by kernel_rfl) ?_
     ·
      refine zu rfl rfl rfl rfl (.c rfl (.c rfl .n)) ce58 (zwa (ex:=0) (ey:=0) (ez:=0) (fx:=qd1) (fy:=qd2) (fz:=qd3) (hbex:=by omega) (hbey:=by omega) (hbez:=by omega) (hbfx:=by omega) (hbfy:=by omega) (hbfz:=by omega)) (.n) ?_
      rintro ⟨u23_1,u23_2,u23_3⟩ -
      dsimp only [List.append_eq,List.nil_append,List.cons_append]
      exact zp (hD3 (u7_1,u7_2,u7_3,u15_1,u15_2,u15_3,u23_1,u23_2,u23_3,u24_1,u25_1,u26_1)) (by kernel_rfl) ((.of rfl):SubM _ _) .rfl .rfl ((.of [0,1,2,3,4,5,6,7,8,9,10,11,12] rfl):SelR _ _ _)
    refine zL (X:=Wd×Wd×Wd×Wd×Wd×Wd×Wd×Wd×Wd×Nat) (k':=5) (L':=(lb 30 33554431)) (fun (u7_1,u7_2,u7_3,u15_1,u15_2,u15_3,u23_1,u23_2,u23_3,u24_1)=>([(9,.pointer (some ⟨u24_1,0,none⟩)),(55,.agg (cw [u23_1,u23_2,u23_3]).toArray),(47,.agg (cw [u15_1,u15_2,u15_3]).toArray),(39,.agg (cw [u7_1,u7_2,u7_3]).toArray),(27,.int .i64 ((i:Nat):Int)),(26,.int .i64 ((nf:Nat):Int)),(25,.slice pf nf cf),(5,.pointer (some ⟨b5,0,none⟩)),(3,.int .i64 0),(2,.pointer (some ⟨b2,0,none⟩)),(1,.pointer (some ⟨b1,0,none⟩))],[boxA u24_1 89 [.bool false,.slice none 0 0,.bool false,.slice none 0 0,.bool false,.slice none 0 0]],[boxA b11 42 [.int .i64 0,.int .i64 0,.int .i64 0],boxA b10 44 [.int .i64 ((F.getD i (0,0,0)).1),.int .i64 ((F.getD i (0,0,0)).2.1),.int .i64 ((F.getD i (0,0,0)).2.2)],boxA b5 34 [ws.b,ws.l],mapA b23 (fun z:Int=> .int .i64 z) (fun z:Int=> .int .i64 z) (InK .i64) bm1,boxA b2 34 [.bool false,.slice none 0 0],boxA b1 25 [.slice pv nv cv,.slice pf nf cf]],[zF u23_1 (qd1 - 0),zF u23_2 (qd2 - 0),zF u23_3 (qd3 - 0),zF u15_1 (qd4 - 0),zF u15_2 (qd5 - 0),zF u15_3 (qd6 - 0),zF u7_1 (qd7 - 0),zF u7_2 (qd8 - 0),zF u7_3 (qd9 - 0),zF ws s,zF w34 (0:Int),slF (rI3 .i64) pv cv V,slF (rI3 .i64) pf cf F])) ?_ (fun hD8=> ?_)
    ·
     rintro ⟨u7_1,u7_2,u7_3,u15_1,u15_2,u15_3,u23_1,u23_2,u23_3,u24_1⟩
     dsimp only [cw]
     refine zMa 25 26 (by kernel_rfl) ?_ ?_
     ·
      refine zO rfl rfl rfl rfl (zn zr89 rfl) (fun u25_1 _=> ?_)
      exact zp (hD4 (u7_1,u7_2,u7_3,u15_1,u15_2,u15_3,u23_1,u23_2,u23_3,u24_1,u25_1)) (by kernel_rfl) ((.of rfl):SubM _ _) .rfl .rfl ((.of [0,1,2,3,4,5,6,7,8,9,10,11,12] rfl):SelR _ _ _)
     ·
      refine zO rfl rfl rfl rfl (zn zr89 rfl) (fun u26_1 _=> ?_)
      exact zp (hD5 (u7_1,u7_2,u7_3,u15_1,u15_2,u15_3,u23_1,u23_2,u23_3,u24_1,u26_1)) (by kernel_rfl) ((.of rfl):SubM _ _) .rfl .rfl ((.of [0,1,2,3,4,5,6,7,8,9,10,11,12] rfl):SelR _ _ _)
    refine zL (X:=Wd×Wd×Wd×Wd×Wd×Wd×Wd×Wd×Wd×Nat) (k':=5) (L':=(lb 30 50331647)) (fun (u7_1,u7_2,u7_3,u15_1,u15_2,u15_3,u23_1,u23_2,u23_3,u25_1)=>([(10,.pointer (some ⟨u25_1,0,none⟩)),(55,.agg (cw [u23_1,u23_2,u23_3]).toArray),(47,.agg (cw [u15_1,u15_2,u15_3]).toArray),(39,.agg (cw [u7_1,u7_2,u7_3]).toArray),(27,.int .i64 ((i:Nat):Int)),(26,.int .i64 ((nf:Nat):Int)),(25,.slice pf nf cf),(5,.pointer (some ⟨b5,0,none⟩)),(3,.int .i64 0),(2,.pointer (some ⟨b2,0,none⟩)),(1,.pointer (some ⟨b1,0,none⟩))],[boxA u25_1 89 [.bool false,.slice none 0 0,.bool false,.slice none 0 0,.bool false,.slice none 0 0]],[boxA b11 42 [.int .i64 0,.int .i64 0,.int .i64 0],boxA b10 44 [.int .i64 ((F.getD i (0,0,0)).1),.int .i64 ((F.getD i (0,0,0)).2.1),.int .i64 ((F.getD i (0,0,0)).2.2)],boxA b5 34 [ws.b,ws.l],mapA b23 (fun z:Int=> .int .i64 z) (fun z:Int=> .int .i64 z) (InK .i64) bm1,boxA b2 34 [.bool false,.slice none 0 0],boxA b1 25 [.slice pv nv cv,.slice pf nf cf]],[zF u23_1 (qd1 - 0),zF u23_2 (qd2 - 0),zF u23_3 (qd3 - 0),zF u15_1 (qd4 - 0),zF u15_2 (qd5 - 0),zF u15_3 (qd6 - 0),zF u7_1 (qd7 - 0),zF u7_2 (qd8 - 0),zF u7_3 (qd9 - 0),zF ws s,zF w34 (0:Int),slF (rI3 .i64) pv cv V,slF (rI3 .i64) pf cf F])) ?_ (fun hD9=> ?_)
    ·
     rintro ⟨u7_1,u7_2,u7_3,u15_1,u15_2,u15_3,u23_1,u23_2,u23_3,u25_1⟩
     dsimp only [cw]
     refine zMa 24 26 (by kernel_rfl) ?_ ?_
     ·
      refine zO rfl rfl rfl rfl (zn zr89 rfl) (fun u24_1 _=> ?_)
      exact zp (hD4 (u7_1,u7_2,u7_3,u15_1,u15_2,u15_3,u23_1,u23_2,u23_3,u24_1,u25_1)) (by kernel_rfl) ((.of rfl):SubM _ _) (zR 1 rfl (zR 0 rfl .nil)) .rfl ((.of [0,1,2,3,4,5,6,7,8,9,10,11,12] rfl):SelR _ _ _)
     ·
      refine zO rfl rfl rfl rfl (zn zr89 rfl) (fun u26_1 _=> ?_)
      exact zp (hD6 (u7_1,u7_2,u7_3,u15_1,u15_2,u15_3,u23_1,u23_2,u23_3,u25_1,u26_1)) (by kernel_rfl) ((.of rfl):SubM _ _) .rfl .rfl ((.of [0,1,2,3,4,5,6,7,8,9,10,11,12] rfl):SelR _ _ _)
    refine zL (X:=Wd×Wd×Wd×Wd×Wd×Wd×Wd×Wd×Wd×Nat) (k':=5) (L':=(lb 30 83886079)) (fun (u7_1,u7_2,u7_3,u15_1,u15_2,u15_3,u23_1,u23_2,u23_3,u26_1)=>([(11,.pointer (some ⟨u26_1,0,none⟩)),(55,.agg (cw [u23_1,u23_2,u23_3]).toArray),(47,.agg (cw [u15_1,u15_2,u15_3]).toArray),(39,.agg (cw [u7_1,u7_2,u7_3]).toArray),(27,.int .i64 ((i:Nat):Int)),(26,.int .i64 ((nf:Nat):Int)),(25,.slice pf nf cf),(5,.pointer (some ⟨b5,0,none⟩)),(3,.int .i64 0),(2,.pointer (some ⟨b2,0,none⟩)),(1,.pointer (some ⟨b1,0,none⟩))],[boxA u26_1 89 [.bool false,.slice none 0 0,.bool false,.slice none 0 0,.bool false,.slice none 0 0]],[boxA b11 42 [.int .i64 0,.int .i64 0,.int .i64 0],boxA b10 44 [.int .i64 ((F.getD i (0,0,0)).1),.int .i64 ((F.getD i (0,0,0)).2.1),.int .i64 ((F.getD i (0,0,0)).2.2)],boxA b5 34 [ws.b,ws.l],mapA b23 (fun z:Int=> .int .i64 z) (fun z:Int=> .int .i64 z) (InK .i64) bm1,boxA b2 34 [.bool false,.slice none 0 0],boxA b1 25 [.slice pv nv cv,.slice pf nf cf]],[zF u23_1 (qd1 - 0),zF u23_2 (qd2 - 0),zF u23_3 (qd3 - 0),zF u15_1 (qd4 - 0),zF u15_2 (qd5 - 0),zF u15_3 (qd6 - 0),zF u7_1 (qd7 - 0),zF u7_2 (qd8 - 0),zF u7_3 (qd9 - 0),zF ws s,zF w34 (0:Int),slF (rI3 .i64) pv cv V,slF (rI3 .i64) pf cf F])) ?_ (fun hD10=> ?_)
    ·
     rintro ⟨u7_1,u7_2,u7_3,u15_1,u15_2,u15_3,u23_1,u23_2,u23_3,u26_1⟩
     dsimp only [cw]
     refine zMa 24 25 (by kernel_rfl) ?_ ?_
     ·
      refine zO rfl rfl rfl rfl (zn zr89 rfl) (fun u24_1 _=> ?_)
      exact zp (hD5 (u7_1,u7_2,u7_3,u15_1,u15_2,u15_3,u23_1,u23_2,u23_3,u24_1,u26_1)) (by kernel_rfl) ((.of rfl):SubM _ _) (zR 1 rfl (zR 0 rfl .nil)) .rfl ((.of [0,1,2,3,4,5,6,7,8,9,10,11,12] rfl):SelR _ _ _)
     ·
      refine zO rfl rfl rfl rfl (zn zr89 rfl) (fun u25_1 _=> ?_)
      exact zp (hD6 (u7_1,u7_2,u7_3,u15_1,u15_2,u15_3,u23_1,u23_2,u23_3,u25_1,u26_1)) (by kernel_rfl) ((.of rfl):SubM _ _) (zR 1 rfl (zR 0 rfl .nil)) .rfl ((.of [0,1,2,3,4,5,6,7,8,9,10,11,12] rfl):SelR _ _ _)
    refine zL (X:=Wd×Wd×Wd×Wd×Wd×Wd×Nat×Nat) (k':=5) (L':=(lb 30 58720255)) (fun (u7_1,u7_2,u7_3,u15_1,u15_2,u15_3,u24_1,u25_1)=>([(10,.pointer (some ⟨u25_1,0,none⟩)),(9,.pointer (some ⟨u24_1,0,none⟩)),(47,.agg (cw [u15_1,u15_2,u15_3]).toArray),(39,.agg (cw [u7_1,u7_2,u7_3]).toArray),(54,.agg #[.int .i64 qd1,.int .i64 qd2,.int .i64 qd3]),(48,.agg #[.int .i64 0,.int .i64 0,.int .i64 0]),(27,.int .i64 ((i:Nat):Int)),(26,.int .i64 ((nf:Nat):Int)),(25,.slice pf nf cf),(5,.pointer (some ⟨b5,0,none⟩)),(3,.int .i64 0),(2,.pointer (some ⟨b2,0,none⟩)),(1,.pointer (some ⟨b1,0,none⟩))],[boxA u25_1 89 [.bool false,.slice none 0 0,.bool false,.slice none 0 0,.bool false,.slice none 0 0],boxA u24_1 89 [.bool false,.slice none 0 0,.bool false,.slice none 0 0,.bool false,.slice none 0 0]],[boxA b11 42 [.int .i64 0,.int .i64 0,.int .i64 0],boxA b10 44 [.int .i64 ((F.getD i (0,0,0)).1),.int .i64 ((F.getD i (0,0,0)).2.1),.int .i64 ((F.getD i (0,0,0)).2.2)],boxA b5 34 [ws.b,ws.l],mapA b23 (fun z:Int=> .int .i64 z) (fun z:Int=> .int .i64 z) (InK .i64) bm1,boxA b2 34 [.bool false,.slice none 0 0],boxA b1 25 [.slice pv nv cv,.slice pf nf cf]],[zF u15_1 (qd4 - 0),zF u15_2 (qd5 - 0),zF u15_3 (qd6 - 0),zF u7_1 (qd7 - 0),zF u7_2 (qd8 - 0),zF u7_3 (qd9 - 0),zF ws s,zF w34 (0:Int),slF (rI3 .i64) pv cv V,slF (rI3 .i64) pf cf F])) ?_ (fun hD11=> ?_)
    ·
     rintro ⟨u7_1,u7_2,u7_3,u15_1,u15_2,u15_3,u24_1,u25_1⟩
     dsimp only [cw]
     refine zMa 23 26 (by kernel_rfl) ?_ ?_
     ·
      refine zu rfl rfl rfl rfl (.c rfl (.c rfl .n)) ce58 (zwa (ex:=0) (ey:=0) (ez:=0) (fx:=qd1) (fy:=qd2) (fz:=qd3) (hbex:=by omega) (hbey:=by omega) (hbez:=by omega) (hbfx:=by omega) (hbfy:=by omega) (hbfz:=by omega)) (.n) ?_
      rintro ⟨u23_1,u23_2,u23_3⟩ -
      dsimp only [List.append_eq,List.nil_append,List.cons_append]
      exact zp (hD4 (u7_1,u7_2,u7_3,u15_1,u15_2,u15_3,u23_1,u23_2,u23_3,u24_1,u25_1)) (by kernel_rfl) ((.of rfl):SubM _ _) .rfl .rfl ((.of [0,1,2,3,4,5,6,7,8,9,10,11,12] rfl):SelR _ _ _)
     ·
      refine zO rfl rfl rfl rfl (zn zr89 rfl) (fun u26_1 _=> ?_)
      exact zp (hD7 (u7_1,u7_2,u7_3,u15_1,u15_2,u15_3,u24_1,u25_1,u26_1)) (by kernel_rfl) ((.of rfl):SubM _ _) .rfl .rfl ((.of [0,1,2,3,4,5,6,7,8,9] rfl):SelR _ _ _)
    refine zL (X:=Wd×Wd×Wd×Wd×Wd×Wd×Nat×Nat) (k':=5) (L':=(lb 30 92274687)) (fun (u7_1,u7_2,u7_3,u15_1,u15_2,u15_3,u24_1,u26_1)=>([(11,.pointer (some ⟨u26_1,0,none⟩)),(9,.pointer (some ⟨u24_1,0,none⟩)),(47,.agg (cw [u15_1,u15_2,u15_3]).toArray),(39,.agg (cw [u7_1,u7_2,u7_3]).toArray),(54,.agg #[.int .i64 qd1,.int .i64 qd2,.int .i64 qd3]),(48,.agg #[.int .i64 0,.int .i64 0,.int .i64 0]),(27,.int .i64 ((i:Nat):Int)),(26,.int .i64 ((nf:Nat):Int)),(25,.slice pf nf cf),(5,.pointer (some ⟨b5,0,none⟩)),(3,.int .i64 0),(2,.pointer (some ⟨b2,0,none⟩)),(1,.pointer (some ⟨b1,0,none⟩))],[boxA u26_1 89 [.bool false,.slice none 0 0,.bool false,.slice none 0 0,.bool false,.slice none 0 0],boxA u24_1 89 [.bool false,.slice none 0 0,.bool false,.slice none 0 0,.bool false,.slice none 0 0]],[boxA b11 42 [.int .i64 0,.int .i64 0,.int .i64 0],boxA b10 44 [.int .i64 ((F.getD i (0,0,0)).1),.int .i64 ((F.getD i (0,0,0)).2.1),.int .i64 ((F.getD i (0,0,0)).2.2)],boxA b5 34 [ws.b,ws.l],mapA b23 (fun z:Int=> .int .i64 z) (fun z:Int=> .int .i64 z) (InK .i64) bm1,boxA b2 34 [.bool false,.slice none 0 0],boxA b1 25 [.slice pv nv cv,.slice pf nf cf]],[zF u15_1 (qd4 - 0),zF u15_2 (qd5 - 0),zF u15_3 (qd6 - 0),zF u7_1 (qd7 - 0),zF u7_2 (qd8 - 0),zF u7_3 (qd9 - 0),zF ws s,zF w34 (0:Int),slF (rI3 .i64) pv cv V,slF (rI3 .i64) pf cf F])) ?_ (fun hD12=> ?_)
    ·
     rintro ⟨u7_1,u7_2,u7_3,u15_1,u15_2,u15_3,u24_1,u26_1⟩
     dsimp only [cw]
     refine zMa 23 25 (by kernel_rfl) ?_ ?_
     ·
      refine zu rfl rfl rfl rfl (.c rfl (.c rfl .n)) ce58 (zwa (ex:=0) (ey:=0) (ez:=0) (fx:=qd1) (fy:=qd2) (fz:=qd3) (hbex:=by omega) (hbey:=by omega) (hbez:=by omega) (hbfx:=by omega) (hbfy:=by omega) (hbfz:=by omega)) (.n) ?_
      rintro ⟨u23_1,u23_2,u23_3⟩ -
      dsimp only [List.append_eq,List.nil_append,List.cons_append]
      exact zp (hD5 (u7_1,u7_2,u7_3,u15_1,u15_2,u15_3,u23_1,u23_2,u23_3,u24_1,u26_1)) (by kernel_rfl) ((.of rfl):SubM _ _) .rfl .rfl ((.of [0,1,2,3,4,5,6,7,8,9,10,11,12] rfl):SelR _ _ _)
     ·
      refine zO rfl rfl rfl rfl (zn zr89 rfl) (fun u25_1 _=> ?_)
      exact zp (hD7 (u7_1,u7_2,u7_3,u15_1,u15_2,u15_3,u24_1,u25_1,u26_1)) (by kernel_rfl) ((.of rfl):SubM _ _) (zR 1 rfl (zR 0 rfl (zR 0 rfl .nil))) .rfl ((.of [0,1,2,3,4,5,6,7,8,9] rfl):SelR _ _ _)
    refine zL (X:=Wd×Wd×Wd×Wd×Wd×Wd×Nat×Nat) (k':=5) (L':=(lb 30 109051903)) (fun (u7_1,u7_2,u7_3,u15_1,u15_2,u15_3,u25_1,u26_1)=>([(11,.pointer (some ⟨u26_1,0,none⟩)),(10,.pointer (some ⟨u25_1,0,none⟩)),(47,.agg (cw [u15_1,u15_2,u15_3]).toArray),(39,.agg (cw [u7_1,u7_2,u7_3]).toArray),(54,.agg #[.int .i64 qd1,.int .i64 qd2,.int .i64 qd3]),(48,.agg #[.int .i64 0,.int .i64 0,.int .i64 0]),(27,.int .i64 ((i:Nat):Int)),(26,.int .i64 ((nf:Nat):Int)),(25,.slice pf nf cf),(5,.pointer (some ⟨b5,0,none⟩)),(3,.int .i64 0),(2,.pointer (some ⟨b2,0,none⟩)),(1,.pointer (some ⟨b1,0,none⟩))],[boxA u26_1 89 [.bool false,.slice none 0 0,.bool false,.slice none 0 0,.bool false,.slice none 0 0],boxA u25_1 89 [.bool false,.slice none 0 0,.bool false,.slice none 0 0,.bool false,.slice none 0 0]],[boxA b11 42 [.int .i64 0,.int .i64 0,.int .i64 0],boxA b10 44 [.int .i64 ((F.getD i (0,0,0)).1),.int .i64 ((F.getD i (0,0,0)).2.1),.int .i64 ((F.getD i (0,0,0)).2.2)],boxA b5 34 [ws.b,ws.l],mapA b23 (fun z:Int=> .int .i64 z) (fun z:Int=> .int .i64 z) (InK .i64) bm1,boxA b2 34 [.bool false,.slice none 0 0],boxA b1 25 [.slice pv nv cv,.slice pf nf cf]],[zF u15_1 (qd4 - 0),zF u15_2 (qd5 - 0),zF u15_3 (qd6 - 0),zF u7_1 (qd7 - 0),zF u7_2 (qd8 - 0),zF u7_3 (qd9 - 0),zF ws s,zF w34 (0:Int),slF (rI3 .i64) pv cv V,slF (rI3 .i64) pf cf F])) ?_ (fun hD13=> ?_)
    ·
     rintro ⟨u7_1,u7_2,u7_3,u15_1,u15_2,u15_3,u25_1,u26_1⟩
     dsimp only [cw]
     refine zMa 23 24 (by kernel_rfl) ?_ ?_
     ·
      refine zu rfl rfl rfl rfl (.c rfl (.c rfl .n)) ce58 (zwa (ex:=0) (ey:=0) (ez:=0) (fx:=qd1) (fy:=qd2) (fz:=qd3) (hbex:=by omega) (hbey:=by omega) (hbez:=by omega) (hbfx:=by omega) (hbfy:=by omega) (hbfz:=by omega)) (.n) ?_
      rintro ⟨u23_1,u23_2,u23_3⟩ -
      dsimp only [List.append_eq,List.nil_append,List.cons_append]
      exact zp (hD6 (u7_1,u7_2,u7_3,u15_1,u15_2,u15_3,u23_1,u23_2,u23_3,u25_1,u26_1)) (by kernel_rfl) ((.of rfl):SubM _ _) .rfl .rfl ((.of [0,1,2,3,4,5,6,7,8,9,10,11,12] rfl):SelR _ _ _)
     ·
      refine zO rfl rfl rfl rfl (zn zr89 rfl) (fun u24_1 _=> ?_)
      exact zp (hD7 (u7_1,u7_2,u7_3,u15_1,u15_2,u15_3,u24_1,u25_1,u26_1)) (by kernel_rfl) ((.of rfl):SubM _ _) (zR 1 rfl (zR 1 rfl (zR 0 rfl .nil))) .rfl ((.of [0,1,2,3,4,5,6,7,8,9] rfl):SelR _ _ _)
    refine zL (X:=Wd×Wd×Wd×Nat×Nat×Nat) (k':=5) (L':=(lb 30 125796351)) (fun (u7_1,u7_2,u7_3,u24_1,u25_1,u26_1)=>([(11,.pointer (some ⟨u26_1,0,none⟩)),(10,.pointer (some ⟨u25_1,0,none⟩)),(9,.pointer (some ⟨u24_1,0,none⟩)),(39,.agg (cw [u7_1,u7_2,u7_3]).toArray),(54,.agg #[.int .i64 qd1,.int .i64 qd2,.int .i64 qd3]),(48,.agg #[.int .i64 0,.int .i64 0,.int .i64 0]),(46,.agg #[.int .i64 qd4,.int .i64 qd5,.int .i64 qd6]),(40,.agg #[.int .i64 0,.int .i64 0,.int .i64 0]),(27,.int .i64 ((i:Nat):Int)),(26,.int .i64 ((nf:Nat):Int)),(25,.slice pf nf cf),(5,.pointer (some ⟨b5,0,none⟩)),(3,.int .i64 0),(2,.pointer (some ⟨b2,0,none⟩)),(1,.pointer (some ⟨b1,0,none⟩))],[boxA u26_1 89 [.bool false,.slice none 0 0,.bool false,.slice none 0 0,.bool false,.slice none 0 0],boxA u25_1 89 [.bool false,.slice none 0 0,.bool false,.slice none 0 0,.bool false,.slice none 0 0],boxA u24_1 89 [.bool false,.slice none 0 0,.bool false,.slice none 0 0,.bool false,.slice none 0 0]],[boxA b11 42 [.int .i64 0,.int .i64 0,.int .i64 0],boxA b10 44 [.int .i64 ((F.getD i (0,0,0)).1),.int .i64 ((F.getD i (0,0,0)).2.1),.int .i64 ((F.getD i (0,0,0)).2.2)],boxA b5 34 [ws.b,ws.l],mapA b23 (fun z:Int=> .int .i64 z) (fun z:Int=> .int .i64 z) (InK .i64) bm1,boxA b2 34 [.bool false,.slice none 0 0],boxA b1 25 [.slice pv nv cv,.slice pf nf cf]],[zF u7_1 (qd7 - 0),zF u7_2 (qd8 - 0),zF u7_3 (qd9 - 0),zF ws s,zF w34 (0:Int),slF (rI3 .i64) pv cv V,slF (rI3 .i64) pf cf F])) ?_ (fun hD14=> ?_)
    ·
     rintro ⟨u7_1,u7_2,u7_3,u24_1,u25_1,u26_1⟩
     dsimp only [cw]
     refine zE 15 (by kernel_rfl) ?_
     ·
      refine zu rfl rfl rfl rfl (.c rfl (.c rfl .n)) ce58 (zwa (ex:=0) (ey:=0) (ez:=0) (fx:=qd4) (fy:=qd5) (fz:=qd6) (hbex:=by omega) (hbey:=by omega) (hbez:=by omega) (hbfx:=by omega) (hbfy:=by omega) (hbfz:=by omega)) (.n) ?_
      rintro ⟨u15_1,u15_2,u15_3⟩ -
      dsimp only [List.append_eq,List.nil_append,List.cons_append]
      exact zp (hD7 (u7_1,u7_2,u7_3,u15_1,u15_2,u15_3,u24_1,u25_1,u26_1)) (by kernel_rfl) ((.of rfl):SubM _ _) .rfl .rfl ((.of [0,1,2,3,4,5,6,7,8,9] rfl):SelR _ _ _)
    refine zL (X:=Wd×Wd×Wd×Wd×Wd×Wd×Wd×Wd×Wd) (k':=6) (L':=(lb 30 16777215)) (fun (u7_1,u7_2,u7_3,u15_1,u15_2,u15_3,u23_1,u23_2,u23_3)=>([(55,.agg (cw [u23_1,u23_2,u23_3]).toArray),(47,.agg (cw [u15_1,u15_2,u15_3]).toArray),(39,.agg (cw [u7_1,u7_2,u7_3]).toArray),(27,.int .i64 ((i:Nat):Int)),(26,.int .i64 ((nf:Nat):Int)),(25,.slice pf nf cf),(5,.pointer (some ⟨b5,0,none⟩)),(3,.int .i64 0),(2,.pointer (some ⟨b2,0,none⟩)),(1,.pointer (some ⟨b1,0,none⟩))],[],[boxA b11 42 [.int .i64 0,.int .i64 0,.int .i64 0],boxA b10 44 [.int .i64 ((F.getD i (0,0,0)).1),.int .i64 ((F.getD i (0,0,0)).2.1),.int .i64 ((F.getD i (0,0,0)).2.2)],boxA b5 34 [ws.b,ws.l],mapA b23 (fun z:Int=> .int .i64 z) (fun z:Int=> .int .i64 z) (InK .i64) bm1,boxA b2 34 [.bool false,.slice none 0 0],boxA b1 25 [.slice pv nv cv,.slice pf nf cf]],[zF u23_1 (qd1 - 0),zF u23_2 (qd2 - 0),zF u23_3 (qd3 - 0),zF u15_1 (qd4 - 0),zF u15_2 (qd5 - 0),zF u15_3 (qd6 - 0),zF u7_1 (qd7 - 0),zF u7_2 (qd8 - 0),zF u7_3 (qd9 - 0),zF ws s,zF w34 (0:Int),slF (rI3 .i64) pv cv V,slF (rI3 .i64) pf cf F])) ?_ (fun hD15=> ?_)
    ·
     rintro ⟨u7_1,u7_2,u7_3,u15_1,u15_2,u15_3,u23_1,u23_2,u23_3⟩
     dsimp only [cw]
     refine zPa 24 25 26 (by kernel_rfl) ?_ ?_ ?_
     ·
      refine zO rfl rfl rfl rfl (zn zr89 rfl) (fun u24_1 _=> ?_)
      exact zp (hD8 (u7_1,u7_2,u7_3,u15_1,u15_2,u15_3,u23_1,u23_2,u23_3,u24_1)) (by kernel_rfl) ((.of rfl):SubM _ _) .rfl .rfl ((.of [0,1,2,3,4,5,6,7,8,9,10,11,12] rfl):SelR _ _ _)
     ·
      refine zO rfl rfl rfl rfl (zn zr89 rfl) (fun u25_1 _=> ?_)
      exact zp (hD9 (u7_1,u7_2,u7_3,u15_1,u15_2,u15_3,u23_1,u23_2,u23_3,u25_1)) (by kernel_rfl) ((.of rfl):SubM _ _) .rfl .rfl ((.of [0,1,2,3,4,5,6,7,8,9,10,11,12] rfl):SelR _ _ _)
     ·
      refine zO rfl rfl rfl rfl (zn zr89 rfl) (fun u26_1 _=> ?_)
      exact zp (hD10 (u7_1,u7_2,u7_3,u15_1,u15_2,u15_3,u23_1,u23_2,u23_3,u26_1)) (by kernel_rfl) ((.of rfl):SubM _ _) .rfl .rfl ((.of [0,1,2,3,4,5,6,7,8,9,10,11,12] rfl):SelR _ _ _)
    refine zL (X:=Wd×Wd×Wd×Wd×Wd×Wd×Nat) (k':=6) (L':=(lb 30 25165823)) (fun (u7_1,u7_2,u7_3,u15_1,u15_2,u15_3,u24_1)=>([(9,.pointer (some ⟨u24_1,0,none⟩)),(47,.agg (cw [u15_1,u15_2,u15_3]).toArray),(39,.agg (cw [u7_1,u7_2,u7_3]).toArray),(54,.agg #[.int .i64 qd1,.int .i64 qd2,.int .i64 qd3]),(48,.agg #[.int .i64 0,.int .i64 0,.int .i64 0]),(27,.int .i64 ((i:Nat):Int)),(26,.int .i64 ((nf:Nat):Int)),(25,.slice pf nf cf),(5,.pointer (some ⟨b5,0,none⟩)),(3,.int .i64 0),(2,.pointer (some ⟨b2,0,none⟩)),(1,.pointer (some ⟨b1,0,none⟩))],[boxA u24_1 89 [.bool false,.slice none 0 0,.bool false,.slice none 0 0,.bool false,.slice none 0 0]],[boxA b11 42 [.int .i64 0,.int .i64 0,.int .i64 0],boxA b10 44 [.int .i64 ((F.getD i (0,0,0)).1),.int .i64 ((F.getD i (0,0,0)).2.1),.int .i64 ((F.getD i (0,0,0)).2.2)],boxA b5 34 [ws.b,ws.l],mapA b23 (fun z:Int=> .int .i64 z) (fun z:Int=> .int .i64 z) (InK .i64) bm1,boxA b2 34 [.bool false,.slice none 0 0],boxA b1 25 [.slice pv nv cv,.slice pf nf cf]],[zF u15_1 (qd4 - 0),zF u15_2 (qd5 - 0),zF u15_3 (qd6 - 0),zF u7_1 (qd7 - 0),zF u7_2 (qd8 - 0),zF u7_3 (qd9 - 0),zF ws s,zF w34 (0:Int),slF (rI3 .i64) pv cv V,slF (rI3 .i64) pf cf F])) ?_ (fun hD16=> ?_)
    ·
     rintro ⟨u7_1,u7_2,u7_3,u15_1,u15_2,u15_3,u24_1⟩
     dsimp only [cw]
     refine zPa 23 25 26 (by kernel_rfl) ?_ ?_ ?_
     ·
      refine zu rfl rfl rfl rfl (.c rfl (.c rfl .n)) ce58 (zwa (ex:=0) (ey:=0) (ez:=0) (fx:=qd1) (fy:=qd2) (fz:=qd3) (hbex:=by omega) (hbey:=by omega) (hbez:=by omega) (hbfx:=by omega) (hbfy:=by omega) (hbfz:=by omega)) (.n) ?_
      rintro ⟨u23_1,u23_2,u23_3⟩ -
      dsimp only [List.append_eq,List.nil_append,List.cons_append]
      exact zp (hD8 (u7_1,u7_2,u7_3,u15_1,u15_2,u15_3,u23_1,u23_2,u23_3,u24_1)) (by kernel_rfl) ((.of rfl):SubM _ _) .rfl .rfl ((.of [0,1,2,3,4,5,6,7,8,9,10,11,12] rfl):SelR _ _ _)
     ·
      refine zO rfl rfl rfl rfl (zn zr89 rfl) (fun u25_1 _=> ?_)
      exact zp (hD11 (u7_1,u7_2,u7_3,u15_1,u15_2,u15_3,u24_1,u25_1)) (by kernel_rfl) ((.of rfl):SubM _ _) .rfl .rfl ((.of [0,1,2,3,4,5,6,7,8,9] rfl):SelR _ _ _)
     ·
      refine zO rfl rfl rfl rfl (zn zr89 rfl) (fun u26_1 _=> ?_)
      exact zp (hD12 (u7_1,u7_2,u7_3,u15_1,u15_2,u15_3,u24_1,u26_1)) (by kernel_rfl) ((.of rfl):SubM _ _) .rfl .rfl ((.of [0,1,2,3,4,5,6,7,8,9] rfl):SelR _ _ _)
    refine zL (X:=Wd×Wd×Wd×Wd×Wd×Wd×Nat) (k':=6) (L':=(lb 30 41943039)) (fun (u7_1,u7_2,u7_3,u15_1,u15_2,u15_3,u25_1)=>([(10,.pointer (some ⟨u25_1,0,none⟩)),(47,.agg (cw [u15_1,u15_2,u15_3]).toArray),(39,.agg (cw [u7_1,u7_2,u7_3]).toArray),(54,.agg #[.int .i64 qd1,.int .i64 qd2,.int .i64 qd3]),(48,.agg #[.int .i64 0,.int .i64 0,.int .i64 0]),(27,.int .i64 ((i:Nat):Int)),(26,.int .i64 ((nf:Nat):Int)),(25,.slice pf nf cf),(5,.pointer (some ⟨b5,0,none⟩)),(3,.int .i64 0),(2,.pointer (some ⟨b2,0,none⟩)),(1,.pointer (some ⟨b1,0,none⟩))],[boxA u25_1 89 [.bool false,.slice none 0 0,.bool false,.slice none 0 0,.bool false,.slice none 0 0]],[boxA b11 42 [.int .i64 0,.int .i64 0,.int .i64 0],boxA b10 44 [.int .i64 ((F.getD i (0,0,0)).1),.int .i64 ((F.getD i (0,0,0)).2.1),.int .i64 ((F.getD i (0,0,0)).2.2)],boxA b5 34 [ws.b,ws.l],mapA b23 (fun z:Int=> .int .i64 z) (fun z:Int=> .int .i64 z) (InK .i64) bm1,boxA b2 34 [.bool false,.slice none 0 0],boxA b1 25 [.slice pv nv cv,.slice pf nf cf]],[zF u15_1 (qd4 - 0),zF u15_2 (qd5 - 0),zF u15_3 (qd6 - 0),zF u7_1 (qd7 - 0),zF u7_2 (qd8 - 0),zF u7_3 (qd9 - 0),zF ws s,zF w34 (0:Int),slF (rI3 .i64) pv cv V,slF (rI3 .i64) pf cf F])) ?_ (fun hD17=> ?_)
    ·
     rintro ⟨u7_1,u7_2,u7_3,u15_1,u15_2,u15_3,u25_1⟩
     dsimp only [cw]
     refine zPa 23 24 26 (by kernel_rfl) ?_ ?_ ?_
     ·
      refine zu rfl rfl rfl rfl (.c rfl (.c rfl .n)) ce58 (zwa (ex:=0) (ey:=0) (ez:=0) (fx:=qd1) (fy:=qd2) (fz:=qd3) (hbex:=by omega) (hbey:=by omega) (hbez:=by omega) (hbfx:=by omega) (hbfy:=by omega) (hbfz:=by omega)) (.n) ?_
      rintro ⟨u23_1,u23_2,u23_3⟩ -
      dsimp only [List.append_eq,List.nil_append,List.cons_append]
      exact zp (hD9 (u7_1,u7_2,u7_3,u15_1,u15_2,u15_3,u23_1,u23_2,u23_3,u25_1)) (by kernel_rfl) ((.of rfl):SubM _ _) .rfl .rfl ((.of [0,1,2,3,4,5,6,7,8,9,10,11,12] rfl):SelR _ _ _)
     ·
      refine zO rfl rfl rfl rfl (zn zr89 rfl) (fun u24_1 _=> ?_)
      exact zp (hD11 (u7_1,u7_2,u7_3,u15_1,u15_2,u15_3,u24_1,u25_1)) (by kernel_rfl) ((.of rfl):SubM _ _) (zR 1 rfl (zR 0 rfl .nil)) .rfl ((.of [0,1,2,3,4,5,6,7,8,9] rfl):SelR _ _ _)
     ·
      refine zO rfl rfl rfl rfl (zn zr89 rfl) (fun u26_1 _=> ?_)
      exact zp (hD13 (u7_1,u7_2,u7_3,u15_1,u15_2,u15_3,u25_1,u26_1)) (by kernel_rfl) ((.of rfl):SubM _ _) .rfl .rfl ((.of [0,1,2,3,4,5,6,7,8,9] rfl):SelR _ _ _)
    refine zL (X:=Wd×Wd×Wd×Wd×Wd×Wd×Nat) (k':=6) (L':=(lb 30 75497471)) (fun (u7_1,u7_2,u7_3,u15_1,u15_2,u15_3,u26_1)=>([(11,.pointer (some ⟨u26_1,0,none⟩)),(47,.agg (cw [u15_1,u15_2,u15_3]).toArray),(39,.agg (cw [u7_1,u7_2,u7_3]).toArray),(54,.agg #[.int .i64 qd1,.int .i64 qd2,.int .i64 qd3]),(48,.agg #[.int .i64 0,.int .i64 0,.int .i64 0]),(27,.int .i64 ((i:Nat):Int)),(26,.int .i64 ((nf:Nat):Int)),(25,.slice pf nf cf),(5,.pointer (some ⟨b5,0,none⟩)),(3,.int .i64 0),(2,.pointer (some ⟨b2,0,none⟩)),(1,.pointer (some ⟨b1,0,none⟩))],[boxA u26_1 89 [.bool false,.slice none 0 0,.bool false,.slice none 0 0,.bool false,.slice none 0 0]],[boxA b11 42 [.int .i64 0,.int .i64 0,.int .i64 0],boxA b10 44 [.int .i64 ((F.getD i (0,0,0)).1),.int .i64 ((F.getD i (0,0,0)).2.1),.int .i64 ((F.getD i (0,0,0)).2.2)],boxA b5 34 [ws.b,ws.l],mapA b23 (fun z:Int=> .int .i64 z) (fun z:Int=> .int .i64 z) (InK .i64) bm1,boxA b2 34 [.bool false,.slice none 0 0],boxA b1 25 [.slice pv nv cv,.slice pf nf cf]],[zF u15_1 (qd4 - 0),zF u15_2 (qd5 - 0),zF u15_3 (qd6 - 0),zF u7_1 (qd7 - 0),zF u7_2 (qd8 - 0),zF u7_3 (qd9 - 0),zF ws s,zF w34 (0:Int),slF (rI3 .i64) pv cv V,slF (rI3 .i64) pf cf F])) ?_ (fun hD18=> ?_)
    ·
     rintro ⟨u7_1,u7_2,u7_3,u15_1,u15_2,u15_3,u26_1⟩
     dsimp only [cw]
     refine zPa 23 24 25 (by kernel_rfl) ?_ ?_ ?_
     ·
      refine zu rfl rfl rfl rfl (.c rfl (.c rfl .n)) ce58 (zwa (ex:=0) (ey:=0) (ez:=0) (fx:=qd1) (fy:=qd2) (fz:=qd3) (hbex:=by omega) (hbey:=by omega) (hbez:=by omega) (hbfx:=by omega) (hbfy:=by omega) (hbfz:=by omega)) (.n) ?_
      rintro ⟨u23_1,u23_2,u23_3⟩ -
      dsimp only [List.append_eq,List.nil_append,List.cons_append]
      exact zp (hD10 (u7_1,u7_2,u7_3,u15_1,u15_2,u15_3,u23_1,u23_2,u23_3,u26_1)) (by kernel_rfl) ((.of rfl):SubM _ _) .rfl .rfl ((.of [0,1,2,3,4,5,6,7,8,9,10,11,12] rfl):SelR _ _ _)
     ·
      refine zO rfl rfl rfl rfl (zn zr89 rfl) (fun u24_1 _=> ?_)
      exact zp (hD12 (u7_1,u7_2,u7_3,u15_1,u15_2,u15_3,u24_1,u26_1)) (by kernel_rfl) ((.of rfl):SubM _ _) (zR 1 rfl (zR 0 rfl .nil)) .rfl ((.of [0,1,2,3,4,5,6,7,8,9] rfl):SelR _ _ _)
     ·
      refine zO rfl rfl rfl rfl (zn zr89 rfl) (fun u25_1 _=> ?_)
      exact zp (hD13 (u7_1,u7_2,u7_3,u15_1,u15_2,u15_3,u25_1,u26_1)) (by kernel_rfl) ((.of rfl):SubM _ _) (zR 1 rfl (zR 0 rfl .nil)) .rfl ((.of [0,1,2,3,4,5,6,7,8,9] rfl):SelR _ _ _)
    refine zL (X:=Wd×Wd×Wd×Nat×Nat) (k':=6) (L':=(lb 30 58687487)) (fun (u7_1,u7_2,u7_3,u24_1,u25_1)=>([(10,.pointer (some ⟨u25_1,0,none⟩)),(9,.pointer (some ⟨u24_1,0,none⟩)),(39,.agg (cw [u7_1,u7_2,u7_3]).toArray),(54,.agg #[.int .i64 qd1,.int .i64 qd2,.int .i64 qd3]),(48,.agg #[.int .i64 0,.int .i64 0,.int .i64 0]),(46,.agg #[.int .i64 qd4,.int .i64 qd5,.int .i64 qd6]),(40,.agg #[.int .i64 0,.int .i64 0,.int .i64 0]),(27,.int .i64 ((i:Nat):Int)),(26,.int .i64 ((nf:Nat):Int)),(25,.slice pf nf cf),(5,.pointer (some ⟨b5,0,none⟩)),(3,.int .i64 0),(2,.pointer (some ⟨b2,0,none⟩)),(1,.pointer (some ⟨b1,0,none⟩))],[boxA u25_1 89 [.bool false,.slice none 0 0,.bool false,.slice none 0 0,.bool false,.slice none 0 0],boxA u24_1 89 [.bool false,.slice none 0 0,.bool false,.slice none 0 0,.bool false,.slice none 0 0]],[boxA b11 42 [.int .i64 0,.int .i64 0,.int .i64 0],boxA b10 44 [.int .i64 ((F.getD i (0,0,0)).1),.int .i64 ((F.getD i (0,0,0)).2.1),.int .i64 ((F.getD i (0,0,0)).2.2)],boxA b5 34 [ws.b,ws.l],mapA b23 (fun z:Int=> .int .i64 z) (fun z:Int=> .int .i64 z) (InK .i64) bm1,boxA b2 34 [.bool false,.slice none 0 0],boxA b1 25 [.slice pv nv cv,.slice pf nf cf]],[zF u7_1 (qd7 - 0),zF u7_2 (qd8 - 0),zF u7_3 (qd9 - 0),zF ws s,zF w34 (0:Int),slF (rI3 .i64) pv cv V,slF (rI3 .i64) pf cf F])) ?_ (fun hD19=> ?_)
    ·
     rintro ⟨u7_1,u7_2,u7_3,u24_1,u25_1⟩
     dsimp only [cw]
     refine zMa 15 26 (by kernel_rfl) ?_ ?_
     ·
      refine zu rfl rfl rfl rfl (.c rfl (.c rfl .n)) ce58 (zwa (ex:=0) (ey:=0) (ez:=0) (fx:=qd4) (fy:=qd5) (fz:=qd6) (hbex:=by omega) (hbey:=by omega) (hbez:=by omega) (hbfx:=by omega) (hbfy:=by omega) (hbfz:=by omega)) (.n) ?_
      rintro ⟨u15_1,u15_2,u15_3⟩ -
      dsimp only [List.append_eq,List.nil_append,List.cons_append]
      exact zp (hD11 (u7_1,u7_2,u7_3,u15_1,u15_2,u15_3,u24_1,u25_1)) (by kernel_rfl) ((.of rfl):SubM _ _) .rfl .rfl ((.of [0,1,2,3,4,5,6,7,8,9] rfl):SelR _ _ _)
     ·
      refine zO rfl rfl rfl rfl (zn zr89 rfl) (fun u26_1 _=> ?_)
      exact zp (hD14 (u7_1,u7_2,u7_3,u24_1,u25_1,u26_1)) (by kernel_rfl) ((.of rfl):SubM _ _) .rfl .rfl ((.of [0,1,2,3,4,5,6] rfl):SelR _ _ _)
    refine zL (X:=Wd×Wd×Wd×Nat×Nat) (k':=6) (L':=(lb 30 92241919)) (fun (u7_1,u7_2,u7_3,u24_1,u26_1)=>([(11,.pointer (some ⟨u26_1,0,none⟩)),(9,.pointer (some ⟨u24_1,0,none⟩)),(39,.agg (cw [u7_1,u7_2,u7_3]).toArray),(54,.agg #[.int .i64 qd1,.int .i64 qd2,.int .i64 qd3]),(48,.agg #[.int .i64 0,.int .i64 0,.int .i64 0]),(46,.agg #[.int .i64 qd4,.int .i64 qd5,.int .i64 qd6]),(40,.agg #[.int .i64 0,.int .i64 0,.int .i64 0]),(27,.int .i64 ((i:Nat):Int)),(26,.int .i64 ((nf:Nat):Int)),(25,.slice pf nf cf),(5,.pointer (some ⟨b5,0,none⟩)),(3,.int .i64 0),(2,.pointer (some ⟨b2,0,none⟩)),(1,.pointer (some ⟨b1,0,none⟩))],[boxA u26_1 89 [.bool false,.slice none 0 0,.bool false,.slice none 0 0,.bool false,.slice none 0 0],boxA u24_1 89 [.bool false,.slice none 0 0,.bool false,.slice none 0 0,.bool false,.slice none 0 0]],[boxA b11 42 [.int .i64 0,.int .i64 0,.int .i64 0],boxA b10 44 [.int .i64 ((F.getD i (0,0,0)).1),.int .i64 ((F.getD i (0,0,0)).2.1),.int .i64 ((F.getD i (0,0,0)).2.2)],boxA b5 34 [ws.b,ws.l],mapA b23 (fun z:Int=> .int .i64 z) (fun z:Int=> .int .i64 z) (InK .i64) bm1,boxA b2 34 [.bool false,.slice none 0 0],boxA b1 25 [.slice pv nv cv,.slice pf nf cf]],[zF u7_1 (qd7 - 0),zF u7_2 (qd8 - 0),zF u7_3 (qd9 - 0),zF ws s,zF w34 (0:Int),slF (rI3 .i64) pv cv V,slF (rI3 .i64) pf cf F])) ?_ (fun hD20=> ?_)
    ·
     rintro ⟨u7_1,u7_2,u7_3,u24_1,u26_1⟩
     dsimp only [cw]
     refine zMa 15 25 (by kernel_rfl) ?_ ?_
     ·
      refine zu rfl rfl rfl rfl (.c rfl (.c rfl .n)) ce58 (zwa (ex:=0) (ey:=0) (ez:=0) (fx:=qd4) (fy:=qd5) (fz:=qd6) (hbex:=by omega) (hbey:=by omega) (hbez:=by omega) (hbfx:=by omega) (hbfy:=by omega) (hbfz:=by omega)) (.n) ?_
      rintro ⟨u15_1,u15_2,u15_3⟩ -
      dsimp only [List.append_eq,List.nil_append,List.cons_append]
      exact zp (hD12 (u7_1,u7_2,u7_3,u15_1,u15_2,u15_3,u24_1,u26_1)) (by kernel_rfl) ((.of rfl):SubM _ _) .rfl .rfl ((.of [0,1,2,3,4,5,6,7,8,9] rfl):SelR _ _ _)
     ·
      refine zO rfl rfl rfl rfl (zn zr89 rfl) (fun u25_1 _=> ?_)
      exact zp (hD14 (u7_1,u7_2,u7_3,u24_1,u25_1,u26_1)) (by kernel_rfl) ((.of rfl):SubM _ _) (zR 1 rfl (zR 0 rfl (zR 0 rfl .nil))) .rfl ((.of [0,1,2,3,4,5,6] rfl):SelR _ _ _)
    refine zL (X:=Wd×Wd×Wd×Nat×Nat) (k':=6) (L':=(lb 30 109019135)) (fun (u7_1,u7_2,u7_3,u25_1,u26_1)=>([(11,.pointer (some ⟨u26_1,0,none⟩)),(10,.pointer (some ⟨u25_1,0,none⟩)),(39,.agg (cw [u7_1,u7_2,u7_3]).toArray),(54,.agg #[.int .i64 qd1,.int .i64 qd2,.int .i64 qd3]),(48,.agg #[.int .i64 0,.int .i64 0,.int .i64 0]),(46,.agg #[.int .i64 qd4,.int .i64 qd5,.int .i64 qd6]),(40,.agg #[.int .i64 0,.int .i64 0,.int .i64 0]),(27,.int .i64 ((i:Nat):Int)),(26,.int .i64 ((nf:Nat):Int)),(25,.slice pf nf cf),(5,.pointer (some ⟨b5,0,none⟩)),(3,.int .i64 0),(2,.pointer (some ⟨b2,0,none⟩)),(1,.pointer (some ⟨b1,0,none⟩))],[boxA u26_1 89 [.bool false,.slice none 0 0,.bool false,.slice none 0 0,.bool false,.slice none 0 0],boxA u25_1 89 [.bool false,.slice none 0 0,.bool false,.slice none 0 0,.bool false,.slice none 0 0]],[boxA b11 42 [.int .i64 0,.int .i64 0,.int .i64 0],boxA b10 44 [.int .i64 ((F.getD i (0,0,0)).1),.int .i64 ((F.getD i (0,0,0)).2.1),.int .i64 ((F.getD i (0,0,0)).2.2)],boxA b5 34 [ws.b,ws.l],mapA b23 (fun z:Int=> .int .i64 z) (fun z:Int=> .int .i64 z) (InK .i64) bm1,boxA b2 34 [.bool false,.slice none 0 0],boxA b1 25 [.slice pv nv cv,.slice pf nf cf]],[zF u7_1 (qd7 - 0),zF u7_2 (qd8 - 0),zF u7_3 (qd9 - 0),zF ws s,zF w34 (0:Int),slF (rI3 .i64) pv cv V,slF (rI3 .i64) pf cf F])) ?_ (fun hD21=> ?_)
    ·
     rintro ⟨u7_1,u7_2,u7_3,u25_1,u26_1⟩
     dsimp only [cw]
     refine zMa 15 24 (by kernel_rfl) ?_ ?_
     ·
      refine zu rfl rfl rfl rfl (.c rfl (.c rfl .n)) ce58 (zwa (ex:=0) (ey:=0) (ez:=0) (fx:=qd4) (fy:=qd5) (fz:=qd6) (hbex:=by omega) (hbey:=by omega) (hbez:=by omega) (hbfx:=by omega) (hbfy:=by omega) (hbfz:=by omega)) (.n) ?_
      rintro ⟨u15_1,u15_2,u15_3⟩ -
      dsimp only [List.append_eq,List.nil_append,List.cons_append]
      exact zp (hD13 (u7_1,u7_2,u7_3,u15_1,u15_2,u15_3,u25_1,u26_1)) (by kernel_rfl) ((.of rfl):SubM _ _) .rfl .rfl ((.of [0,1,2,3,4,5,6,7,8,9] rfl):SelR _ _ _)
     ·
      refine zO rfl rfl rfl rfl (zn zr89 rfl) (fun u24_1 _=> ?_)
      exact zp (hD14 (u7_1,u7_2,u7_3,u24_1,u25_1,u26_1)) (by kernel_rfl) ((.of rfl):SubM _ _) (zR 1 rfl (zR 1 rfl (zR 0 rfl .nil))) .rfl ((.of [0,1,2,3,4,5,6] rfl):SelR _ _ _)
    refine zL (X:=Nat×Nat×Nat) (k':=6) (L':=(lb 30 125796223)) (fun (u24_1,u25_1,u26_1)=>([(11,.pointer (some ⟨u26_1,0,none⟩)),(10,.pointer (some ⟨u25_1,0,none⟩)),(9,.pointer (some ⟨u24_1,0,none⟩)),(54,.agg #[.int .i64 qd1,.int .i64 qd2,.int .i64 qd3]),(48,.agg #[.int .i64 0,.int .i64 0,.int .i64 0]),(46,.agg #[.int .i64 qd4,.int .i64 qd5,.int .i64 qd6]),(40,.agg #[.int .i64 0,.int .i64 0,.int .i64 0]),(38,.agg #[.int .i64 qd7,.int .i64 qd8,.int .i64 qd9]),(32,.agg #[.int .i64 0,.int .i64 0,.int .i64 0]),(27,.int .i64 ((i:Nat):Int)),(26,.int .i64 ((nf:Nat):Int)),(25,.slice pf nf cf),(5,.pointer (some ⟨b5,0,none⟩)),(3,.int .i64 0),(2,.pointer (some ⟨b2,0,none⟩)),(1,.pointer (some ⟨b1,0,none⟩))],[boxA u26_1 89 [.bool false,.slice none 0 0,.bool false,.slice none 0 0,.bool false,.slice none 0 0],boxA u25_1 89 [.bool false,.slice none 0 0,.bool false,.slice none 0 0,.bool false,.slice none 0 0],boxA u24_1 89 [.bool false,.slice none 0 0,.bool false,.slice none 0 0,.bool false,.slice none 0 0]],[boxA b11 42 [.int .i64 0,.int .i64 0,.int .i64 0],boxA b10 44 [.int .i64 ((F.getD i (0,0,0)).1),.int .i64 ((F.getD i (0,0,0)).2.1),.int .i64 ((F.getD i (0,0,0)).2.2)],boxA b5 34 [ws.b,ws.l],mapA b23 (fun z:Int=> .int .i64 z) (fun z:Int=> .int .i64 z) (InK .i64) bm1,boxA b2 34 [.bool false,.slice none 0 0],boxA b1 25 [.slice pv nv cv,.slice pf nf cf]],[zF ws s,zF w34 (0:Int),slF (rI3 .i64) pv cv V,slF (rI3 .i64) pf cf F])) ?_ (fun hD22=> ?_)
    ·
     rintro ⟨u24_1,u25_1,u26_1⟩
     dsimp only
     refine zE 7 (by kernel_rfl) ?_
     ·
      refine zu rfl rfl rfl rfl (.c rfl (.c rfl .n)) ce58 (zwa (ex:=0) (ey:=0) (ez:=0) (fx:=qd7) (fy:=qd8) (fz:=qd9) (hbex:=by omega) (hbey:=by omega) (hbez:=by omega) (hbfx:=by omega) (hbfy:=by omega) (hbfz:=by omega)) (.n) ?_
      rintro ⟨u7_1,u7_2,u7_3⟩ -
      dsimp only [List.append_eq,List.nil_append,List.cons_append]
      exact zp (hD14 (u7_1,u7_2,u7_3,u24_1,u25_1,u26_1)) (by kernel_rfl) ((.of rfl):SubM _ _) .rfl .rfl ((.of [0,1,2,3,4,5,6] rfl):SelR _ _ _)
    refine zL (X:=Wd×Wd×Wd×Wd×Wd×Wd) (k':=7) (L':=(lb 30 8388607)) (fun (u7_1,u7_2,u7_3,u15_1,u15_2,u15_3)=>([(47,.agg (cw [u15_1,u15_2,u15_3]).toArray),(39,.agg (cw [u7_1,u7_2,u7_3]).toArray),(54,.agg #[.int .i64 qd1,.int .i64 qd2,.int .i64 qd3]),(48,.agg #[.int .i64 0,.int .i64 0,.int .i64 0]),(27,.int .i64 ((i:Nat):Int)),(26,.int .i64 ((nf:Nat):Int)),(25,.slice pf nf cf),(5,.pointer (some ⟨b5,0,none⟩)),(3,.int .i64 0),(2,.pointer (some ⟨b2,0,none⟩)),(1,.pointer (some ⟨b1,0,none⟩))],[],[boxA b11 42 [.int .i64 0,.int .i64 0,.int .i64 0],boxA b10 44 [.int .i64 ((F.getD i (0,0,0)).1),.int .i64 ((F.getD i (0,0,0)).2.1),.int .i64 ((F.getD i (0,0,0)).2.2)],boxA b5 34 [ws.b,ws.l],mapA b23 (fun z:Int=> .int .i64 z) (fun z:Int=> .int .i64 z) (InK .i64) bm1,boxA b2 34 [.bool false,.slice none 0 0],boxA b1 25 [.slice pv nv cv,.slice pf nf cf]],[zF u15_1 (qd4 - 0),zF u15_2 (qd5 - 0),zF u15_3 (qd6 - 0),zF u7_1 (qd7 - 0),zF u7_2 (qd8 - 0),zF u7_3 (qd9 - 0),zF ws s,zF w34 (0:Int),slF (rI3 .i64) pv cv V,slF (rI3 .i64) pf cf F])) ?_ (fun hD23=> ?_)
    ·
     rintro ⟨u7_1,u7_2,u7_3,u15_1,u15_2,u15_3⟩
     dsimp only [cw]
     refine zMc 23 24 25 26 (by kernel_rfl) ?_ ?_ ?_ ?_
     ·
      refine zu rfl rfl rfl rfl (.c rfl (.c rfl .n)) ce58 (zwa (ex:=0) (ey:=0) (ez:=0) (fx:=qd1) (fy:=qd2) (fz:=qd3) (hbex:=by omega) (hbey:=by omega) (hbez:=by omega) (hbfx:=by omega) (hbfy:=by omega) (hbfz:=by omega)) (.n) ?_
      rintro ⟨u23_1,u23_2,u23_3⟩ -
      dsimp only [List.append_eq,List.nil_append,List.cons_append]
      exact zp (hD15 (u7_1,u7_2,u7_3,u15_1,u15_2,u15_3,u23_1,u23_2,u23_3)) (by kernel_rfl) ((.of rfl):SubM _ _) .rfl .rfl ((.of [0,1,2,3,4,5,6,7,8,9,10,11,12] rfl):SelR _ _ _)
     ·
      refine zO rfl rfl rfl rfl (zn zr89 rfl) (fun u24_1 _=> ?_)
      exact zp (hD16 (u7_1,u7_2,u7_3,u15_1,u15_2,u15_3,u24_1)) (by kernel_rfl) ((.of rfl):SubM _ _) .rfl .rfl ((.of [0,1,2,3,4,5,6,7,8,9] rfl):SelR _ _ _)
     ·
      refine zO rfl rfl rfl rfl (zn zr89 rfl) (fun u25_1 _=> ?_)
      exact zp (hD17 (u7_1,u7_2,u7_3,u15_1,u15_2,u15_3,u25_1)) (by kernel_rfl) ((.of rfl):SubM _ _) .rfl .rfl ((.of [0,1,2,3,4,5,6,7,8,9] rfl):SelR _ _ _)
     ·
      refine zO rfl rfl rfl rfl (zn zr89 rfl) (fun u26_1 _=> ?_)
      exact zp (hD18 (u7_1,u7_2,u7_3,u15_1,u15_2,u15_3,u26_1)) (by kernel_rfl) ((.of rfl):SubM _ _) .rfl .rfl ((.of [0,1,2,3,4,5,6,7,8,9] rfl):SelR _ _ _)
    refine zL (X:=Wd×Wd×Wd×Nat) (k':=7) (L':=(lb 30 25133055)) (fun (u7_1,u7_2,u7_3,u24_1)=>([(9,.pointer (some ⟨u24_1,0,none⟩)),(39,.agg (cw [u7_1,u7_2,u7_3]).toArray),(54,.agg #[.int .i64 qd1,.int .i64 qd2,.int .i64 qd3]),(48,.agg #[.int .i64 0,.int .i64 0,.int .i64 0]),(46,.agg #[.int .i64 qd4,.int .i64 qd5,.int .i64 qd6]),(40,.agg #[.int .i64 0,.int .i64 0,.int .i64 0]),(27,.int .i64 ((i:Nat):Int)),(26,.int .i64 ((nf:Nat):Int)),(25,.slice pf nf cf),(5,.pointer (some ⟨b5,0,none⟩)),(3,.int .i64 0),(2,.pointer (some ⟨b2,0,none⟩)),(1,.pointer (some ⟨b1,0,none⟩))],[boxA u24_1 89 [.bool false,.slice none 0 0,.bool false,.slice none 0 0,.bool false,.slice none 0 0]],[boxA b11 42 [.int .i64 0,.int .i64 0,.int .i64 0],boxA b10 44 [.int .i64 ((F.getD i (0,0,0)).1),.int .i64 ((F.getD i (0,0,0)).2.1),.int .i64 ((F.getD i (0,0,0)).2.2)],boxA b5 34 [ws.b,ws.l],mapA b23 (fun z:Int=> .int .i64 z) (fun z:Int=> .int .i64 z) (InK .i64) bm1,boxA b2 34 [.bool false,.slice none 0 0],boxA b1 25 [.slice pv nv cv,.slice pf nf cf]],[zF u7_1 (qd7 - 0),zF u7_2 (qd8 - 0),zF u7_3 (qd9 - 0),zF ws s,zF w34 (0:Int),slF (rI3 .i64) pv cv V,slF (rI3 .i64) pf cf F])) ?_ (fun hD24=> ?_)
    ·
     rintro ⟨u7_1,u7_2,u7_3,u24_1⟩
     dsimp only [cw]
     refine zPa 15 25 26 (by kernel_rfl) ?_ ?_ ?_
     ·
      refine zu rfl rfl rfl rfl (.c rfl (.c rfl .n)) ce58 (zwa (ex:=0) (ey:=0) (ez:=0) (fx:=qd4) (fy:=qd5) (fz:=qd6) (hbex:=by omega) (hbey:=by omega) (hbez:=by omega) (hbfx:=by omega) (hbfy:=by omega) (hbfz:=by omega)) (.n) ?_
      rintro ⟨u15_1,u15_2,u15_3⟩ -
      dsimp only [List.append_eq,List.nil_append,List.cons_append]
      exact zp (hD16 (u7_1,u7_2,u7_3,u15_1,u15_2,u15_3,u24_1)) (by kernel_rfl) ((.of rfl):SubM _ _) .rfl .rfl ((.of [0,1,2,3,4,5,6,7,8,9] rfl):SelR _ _ _)
     ·
      refine zO rfl rfl rfl rfl (zn zr89 rfl) (fun u25_1 _=> ?_)
      exact zp (hD19 (u7_1,u7_2,u7_3,u24_1,u25_1)) (by kernel_rfl) ((.of rfl):SubM _ _) .rfl .rfl ((.of [0,1,2,3,4,5,6] rfl):SelR _ _ _)
     ·
      refine zO rfl rfl rfl rfl (zn zr89 rfl) (fun u26_1 _=> ?_)
      exact zp (hD20 (u7_1,u7_2,u7_3,u24_1,u26_1)) (by kernel_rfl) ((.of rfl):SubM _ _) .rfl .rfl ((.of [0,1,2,3,4,5,6] rfl):SelR _ _ _)
    refine zL (X:=Wd×Wd×Wd×Nat) (k':=7) (L':=(lb 30 41910271)) (fun (u7_1,u7_2,u7_3,u25_1)=>([(10,.pointer (some ⟨u25_1,0,none⟩)),(39,.agg (cw [u7_1,u7_2,u7_3]).toArray),(54,.agg #[.int .i64 qd1,.int .i64 qd2,.int .i64 qd3]),(48,.agg #[.int .i64 0,.int .i64 0,.int .i64 0]),(46,.agg #[.int .i64 qd4,.int .i64 qd5,.int .i64 qd6]),(40,.agg #[.int .i64 0,.int .i64 0,.int .i64 0]),(27,.int .i64 ((i:Nat):Int)),(26,.int .i64 ((nf:Nat):Int)),(25,.slice pf nf cf),(5,.pointer (some ⟨b5,0,none⟩)),(3,.int .i64 0),(2,.pointer (some ⟨b2,0,none⟩)),(1,.pointer (some ⟨b1,0,none⟩))],[boxA u25_1 89 [.bool false,.slice none 0 0,.bool false,.slice none 0 0,.bool false,.slice none 0 0]],[boxA b11 42 [.int .i64 0,.int .i64 0,.int .i64 0],boxA b10 44 [.int .i64 ((F.getD i (0,0,0)).1),.int .i64 ((F.getD i (0,0,0)).2.1),.int .i64 ((F.getD i (0,0,0)).2.2)],boxA b5 34 [ws.b,ws.l],mapA b23 (fun z:Int=> .int .i64 z) (fun z:Int=> .int .i64 z) (InK .i64) bm1,boxA b2 34 [.bool false,.slice none 0 0],boxA b1 25 [.slice pv nv cv,.slice pf nf cf]],[zF u7_1 (qd7 - 0),zF u7_2 (qd8 - 0),zF u7_3 (qd9 - 0),zF ws s,zF w34 (0:Int),slF (rI3 .i64) pv cv V,slF (rI3 .i64) pf cf F])) ?_ (fun hD25=> ?_)
    ·
     rintro ⟨u7_1,u7_2,u7_3,u25_1⟩
     dsimp only [cw]
     refine zPa 15 24 26 (by kernel_rfl) ?_ ?_ ?_
     ·
      refine zu rfl rfl rfl rfl (.c rfl (.c rfl .n)) ce58 (zwa (ex:=0) (ey:=0) (ez:=0) (fx:=qd4) (fy:=qd5) (fz:=qd6) (hbex:=by omega) (hbey:=by omega) (hbez:=by omega) (hbfx:=by omega) (hbfy:=by omega) (hbfz:=by omega)) (.n) ?_
      rintro ⟨u15_1,u15_2,u15_3⟩ -
      dsimp only [List.append_eq,List.nil_append,List.cons_append]
      exact zp (hD17 (u7_1,u7_2,u7_3,u15_1,u15_2,u15_3,u25_1)) (by kernel_rfl) ((.of rfl):SubM _ _) .rfl .rfl ((.of [0,1,2,3,4,5,6,7,8,9] rfl):SelR _ _ _)
     ·
      refine zO rfl rfl rfl rfl (zn zr89 rfl) (fun u24_1 _=> ?_)
      exact zp (hD19 (u7_1,u7_2,u7_3,u24_1,u25_1)) (by kernel_rfl) ((.of rfl):SubM _ _) (zR 1 rfl (zR 0 rfl .nil)) .rfl ((.of [0,1,2,3,4,5,6] rfl):SelR _ _ _)
     ·
      refine zO rfl rfl rfl rfl (zn zr89 rfl) (fun u26_1 _=> ?_)
      exact zp (hD21 (u7_1,u7_2,u7_3,u25_1,u26_1)) (by kernel_rfl) ((.of rfl):SubM _ _) .rfl .rfl ((.of [0,1,2,3,4,5,6] rfl):SelR _ _ _)
    refine zL (X:=Wd×Wd×Wd×Nat) (k':=7) (L':=(lb 30 75464703)) (fun (u7_1,u7_2,u7_3,u26_1)=>([(11,.pointer (some ⟨u26_1,0,none⟩)),(39,.agg (cw [u7_1,u7_2,u7_3]).toArray),(54,.agg #[.int .i64 qd1,.int .i64 qd2,.int .i64 qd3]),(48,.agg #[.int .i64 0,.int .i64 0,.int .i64 0]),(46,.agg #[.int .i64 qd4,.int .i64 qd5,.int .i64 qd6]),(40,.agg #[.int .i64 0,.int .i64 0,.int .i64 0]),(27,.int .i64 ((i:Nat):Int)),(26,.int .i64 ((nf:Nat):Int)),(25,.slice pf nf cf),(5,.pointer (some ⟨b5,0,none⟩)),(3,.int .i64 0),(2,.pointer (some ⟨b2,0,none⟩)),(1,.pointer (some ⟨b1,0,none⟩))],[boxA u26_1 89 [.bool false,.slice none 0 0,.bool false,.slice none 0 0,.bool false,.slice none 0 0]],[boxA b11 42 [.int .i64 0,.int .i64 0,.int .i64 0],boxA b10 44 [.int .i64 ((F.getD i (0,0,0)).1),.int .i64 ((F.getD i (0,0,0)).2.1),.int .i64 ((F.getD i (0,0,0)).2.2)],boxA b5 34 [ws.b,ws.l],mapA b23 (fun z:Int=> .int .i64 z) (fun z:Int=> .int .i64 z) (InK .i64) bm1,boxA b2 34 [.bool false,.slice none 0 0],boxA b1 25 [.slice pv nv cv,.slice pf nf cf]],[zF u7_1 (qd7 - 0),zF u7_2 (qd8 - 0),zF u7_3 (qd9 - 0),zF ws s,zF w34 (0:Int),slF (rI3 .i64) pv cv V,slF (rI3 .i64) pf cf F])) ?_ (fun hD26=> ?_)
    ·
     rintro ⟨u7_1,u7_2,u7_3,u26_1⟩
     dsimp only [cw]
     refine zPa 15 24 25 (by kernel_rfl) ?_ ?_ ?_
     ·
      refine zu rfl rfl rfl rfl (.c rfl (.c rfl .n)) ce58 (zwa (ex:=0) (ey:=0) (ez:=0) (fx:=qd4) (fy:=qd5) (fz:=qd6) (hbex:=by omega) (hbey:=by omega) (hbez:=by omega) (hbfx:=by omega) (hbfy:=by omega) (hbfz:=by omega)) (.n) ?_
      rintro ⟨u15_1,u15_2,u15_3⟩ -
      dsimp only [List.append_eq,List.nil_append,List.cons_append]
      exact zp (hD18 (u7_1,u7_2,u7_3,u15_1,u15_2,u15_3,u26_1)) (by kernel_rfl) ((.of rfl):SubM _ _) .rfl .rfl ((.of [0,1,2,3,4,5,6,7,8,9] rfl):SelR _ _ _)
     ·
      refine zO rfl rfl rfl rfl (zn zr89 rfl) (fun u24_1 _=> ?_)
      exact zp (hD20 (u7_1,u7_2,u7_3,u24_1,u26_1)) (by kernel_rfl) ((.of rfl):SubM _ _) (zR 1 rfl (zR 0 rfl .nil)) .rfl ((.of [0,1,2,3,4,5,6] rfl):SelR _ _ _)
     ·
      refine zO rfl rfl rfl rfl (zn zr89 rfl) (fun u25_1 _=> ?_)
      exact zp (hD21 (u7_1,u7_2,u7_3,u25_1,u26_1)) (by kernel_rfl) ((.of rfl):SubM _ _) (zR 1 rfl (zR 0 rfl .nil)) .rfl ((.of [0,1,2,3,4,5,6] rfl):SelR _ _ _)
    refine zL (X:=Nat×Nat) (k':=7) (L':=(lb 30 58687359)) (fun (u24_1,u25_1)=>([(10,.pointer (some ⟨u25_1,0,none⟩)),(9,.pointer (some ⟨u24_1,0,none⟩)),(54,.agg #[.int .i64 qd1,.int .i64 qd2,.int .i64 qd3]),(48,.agg #[.int .i64 0,.int .i64 0,.int .i64 0]),(46,.agg #[.int .i64 qd4,.int .i64 qd5,.int .i64 qd6]),(40,.agg #[.int .i64 0,.int .i64 0,.int .i64 0]),(38,.agg #[.int .i64 qd7,.int .i64 qd8,.int .i64 qd9]),(32,.agg #[.int .i64 0,.int .i64 0,.int .i64 0]),(27,.int .i64 ((i:Nat):Int)),(26,.int .i64 ((nf:Nat):Int)),(25,.slice pf nf cf),(5,.pointer (some ⟨b5,0,none⟩)),(3,.int .i64 0),(2,.pointer (some ⟨b2,0,none⟩)),(1,.pointer (some ⟨b1,0,none⟩))],[boxA u25_1 89 [.bool false,.slice none 0 0,.bool false,.slice none 0 0,.bool false,.slice none 0 0],boxA u24_1 89 [.bool false,.slice none 0 0,.bool false,.slice none 0 0,.bool false,.slice none 0 0]],[boxA b11 42 [.int .i64 0,.int .i64 0,.int .i64 0],boxA b10 44 [.int .i64 ((F.getD i (0,0,0)).1),.int .i64 ((F.getD i (0,0,0)).2.1),.int .i64 ((F.getD i (0,0,0)).2.2)],boxA b5 34 [ws.b,ws.l],mapA b23 (fun z:Int=> .int .i64 z) (fun z:Int=> .int .i64 z) (InK .i64) bm1,boxA b2 34 [.bool false,.slice none 0 0],boxA b1 25 [.slice pv nv cv,.slice pf nf cf]],[zF ws s,zF w34 (0:Int),slF (rI3 .i64) pv cv V,slF (rI3 .i64) pf cf F])) ?_ (fun hD27=> ?_)
    ·
     rintro ⟨u24_1,u25_1⟩
     dsimp only
     refine zMa 7 26 (by kernel_rfl) ?_ ?_
     ·
      refine zu rfl rfl rfl rfl (.c rfl (.c rfl .n)) ce58 (zwa (ex:=0) (ey:=0) (ez:=0) (fx:=qd7) (fy:=qd8) (fz:=qd9) (hbex:=by omega) (hbey:=by omega) (hbez:=by omega) (hbfx:=by omega) (hbfy:=by omega) (hbfz:=by omega)) (.n) ?_
      rintro ⟨u7_1,u7_2,u7_3⟩ -
      dsimp only [List.append_eq,List.nil_append,List.cons_append]
      exact zp (hD19 (u7_1,u7_2,u7_3,u24_1,u25_1)) (by kernel_rfl) ((.of rfl):SubM _ _) .rfl .rfl ((.of [0,1,2,3,4,5,6] rfl):SelR _ _ _)
     ·
      refine zO rfl rfl rfl rfl (zn zr89 rfl) (fun u26_1 _=> ?_)
      exact zp (hD22 (u24_1,u25_1,u26_1)) (by kernel_rfl) ((.of rfl):SubM _ _) .rfl .rfl ((.of [0,1,2,3] rfl):SelR _ _ _)
    refine zL (X:=Nat×Nat) (k':=7) (L':=(lb 30 92241791)) (fun (u24_1,u26_1)=>([(11,.pointer (some ⟨u26_1,0,none⟩)),(9,.pointer (some ⟨u24_1,0,none⟩)),(54,.agg #[.int .i64 qd1,.int .i64 qd2,.int .i64 qd3]),(48,.agg #[.int .i64 0,.int .i64 0,.int .i64 0]),(46,.agg #[.int .i64 qd4,.int .i64 qd5,.int .i64 qd6]),(40,.agg #[.int .i64 0,.int .i64 0,.int .i64 0]),(38,.agg #[.int .i64 qd7,.int .i64 qd8,.int .i64 qd9]),(32,.agg #[.int .i64 0,.int .i64 0,.int .i64 0]),(27,.int .i64 ((i:Nat):Int)),(26,.int .i64 ((nf:Nat):Int)),(25,.slice pf nf cf),(5,.pointer (some ⟨b5,0,none⟩)),(3,.int .i64 0),(2,.pointer (some ⟨b2,0,none⟩)),(1,.pointer (some ⟨b1,0,none⟩))],[boxA u26_1 89 [.bool false,.slice none 0 0,.bool false,.slice none 0 0,.bool false,.slice none 0 0],boxA u24_1 89 [.bool false,.slice none 0 0,.bool false,.slice none 0 0,.bool false,.slice none 0 0]],[boxA b11 42 [.int .i64 0,.int .i64 0,.int .i64 0],boxA b10 44 [.int .i64 ((F.getD i (0,0,0)).1),.int .i64 ((F.getD i (0,0,0)).2.1),.int .i64 ((F.getD i (0,0,0)).2.2)],boxA b5 34 [ws.b,ws.l],mapA b23 (fun z:Int=> .int .i64 z) (fun z:Int=> .int .i64 z) (InK .i64) bm1,boxA b2 34 [.bool false,.slice none 0 0],boxA b1 25 [.slice pv nv cv,.slice pf nf cf]],[zF ws s,zF w34 (0:Int),slF (rI3 .i64) pv cv V,slF (rI3 .i64) pf cf F])) ?_ (fun hD28=> ?_)
    ·
     rintro ⟨u24_1,u26_1⟩
     dsimp only
     refine zMa 7 25 (by kernel_rfl) ?_ ?_
     ·
      refine zu rfl rfl rfl rfl (.c rfl (.c rfl .n)) ce58 (zwa (ex:=0) (ey:=0) (ez:=0) (fx:=qd7) (fy:=qd8) (fz:=qd9) (hbex:=by omega) (hbey:=by omega) (hbez:=by omega) (hbfx:=by omega) (hbfy:=by omega) (hbfz:=by omega)) (.n) ?_
      rintro ⟨u7_1,u7_2,u7_3⟩ -
      dsimp only [List.append_eq,List.nil_append,List.cons_append]
      exact zp (hD20 (u7_1,u7_2,u7_3,u24_1,u26_1)) (by kernel_rfl) ((.of rfl):SubM _ _) .rfl .rfl ((.of [0,1,2,3,4,5,6] rfl):SelR _ _ _)
     ·
      refine zO rfl rfl rfl rfl (zn zr89 rfl) (fun u25_1 _=> ?_)
      exact zp (hD22 (u24_1,u25_1,u26_1)) (by kernel_rfl) ((.of rfl):SubM _ _) (zR 1 rfl (zR 0 rfl (zR 0 rfl .nil))) .rfl ((.of [0,1,2,3] rfl):SelR _ _ _)
    refine zL (X:=Nat×Nat) (k':=7) (L':=(lb 30 109019007)) (fun (u25_1,u26_1)=>([(11,.pointer (some ⟨u26_1,0,none⟩)),(10,.pointer (some ⟨u25_1,0,none⟩)),(54,.agg #[.int .i64 qd1,.int .i64 qd2,.int .i64 qd3]),(48,.agg #[.int .i64 0,.int .i64 0,.int .i64 0]),(46,.agg #[.int .i64 qd4,.int .i64 qd5,.int .i64 qd6]),(40,.agg #[.int .i64 0,.int .i64 0,.int .i64 0]),(38,.agg #[.int .i64 qd7,.int .i64 qd8,.int .i64 qd9]),(32,.agg #[.int .i64 0,.int .i64 0,.int .i64 0]),(27,.int .i64 ((i:Nat):Int)),(26,.int .i64 ((nf:Nat):Int)),(25,.slice pf nf cf),(5,.pointer (some ⟨b5,0,none⟩)),(3,.int .i64 0),(2,.pointer (some ⟨b2,0,none⟩)),(1,.pointer (some ⟨b1,0,none⟩))],[boxA u26_1 89 [.bool false,.slice none 0 0,.bool false,.slice none 0 0,.bool false,.slice none 0 0],boxA u25_1 89 [.bool false,.slice none 0 0,.bool false,.slice none 0 0,.bool false,.slice none 0 0]],[boxA b11 42 [.int .i64 0,.int .i64 0,.int .i64 0],boxA b10 44 [.int .i64 ((F.getD i (0,0,0)).1),.int .i64 ((F.getD i (0,0,0)).2.1),.int .i64 ((F.getD i (0,0,0)).2.2)],boxA b5 34 [ws.b,ws.l],mapA b23 (fun z:Int=> .int .i64 z) (fun z:Int=> .int .i64 z) (InK .i64) bm1,boxA b2 34 [.bool false,.slice none 0 0],boxA b1 25 [.slice pv nv cv,.slice pf nf cf]],[zF ws s,zF w34 (0:Int),slF (rI3 .i64) pv cv V,slF (rI3 .i64) pf cf F])) ?_ (fun hD29=> ?_)
    ·
     rintro ⟨u25_1,u26_1⟩
     dsimp only
     refine zMa 7 24 (by kernel_rfl) ?_ ?_
     ·
      refine zu rfl rfl rfl rfl (.c rfl (.c rfl .n)) ce58 (zwa (ex:=0) (ey:=0) (ez:=0) (fx:=qd7) (fy:=qd8) (fz:=qd9) (hbex:=by omega) (hbey:=by omega) (hbez:=by omega) (hbfx:=by omega) (hbfy:=by omega) (hbfz:=by omega)) (.n) ?_
      rintro ⟨u7_1,u7_2,u7_3⟩ -
      dsimp only [List.append_eq,List.nil_append,List.cons_append]
      exact zp (hD21 (u7_1,u7_2,u7_3,u25_1,u26_1)) (by kernel_rfl) ((.of rfl):SubM _ _) .rfl .rfl ((.of [0,1,2,3,4,5,6] rfl):SelR _ _ _)
     ·
      refine zO rfl rfl rfl rfl (zn zr89 rfl) (fun u24_1 _=> ?_)
      exact zp (hD22 (u24_1,u25_1,u26_1)) (by kernel_rfl) ((.of rfl):SubM _ _) (zR 1 rfl (zR 1 rfl (zR 0 rfl .nil))) .rfl ((.of [0,1,2,3] rfl):SelR _ _ _)
    refine zL (X:=Wd×Wd×Wd) (k':=8) (L':=(lb 30 8355839)) (fun (u7_1,u7_2,u7_3)=>([(39,.agg (cw [u7_1,u7_2,u7_3]).toArray),(54,.agg #[.int .i64 qd1,.int .i64 qd2,.int .i64 qd3]),(48,.agg #[.int .i64 0,.int .i64 0,.int .i64 0]),(46,.agg #[.int .i64 qd4,.int .i64 qd5,.int .i64 qd6]),(40,.agg #[.int .i64 0,.int .i64 0,.int .i64 0]),(27,.int .i64 ((i:Nat):Int)),(26,.int .i64 ((nf:Nat):Int)),(25,.slice pf nf cf),(5,.pointer (some ⟨b5,0,none⟩)),(3,.int .i64 0),(2,.pointer (some ⟨b2,0,none⟩)),(1,.pointer (some ⟨b1,0,none⟩))],[],[boxA b11 42 [.int .i64 0,.int .i64 0,.int .i64 0],boxA b10 44 [.int .i64 ((F.getD i (0,0,0)).1),.int .i64 ((F.getD i (0,0,0)).2.1),.int .i64 ((F.getD i (0,0,0)).2.2)],boxA b5 34 [ws.b,ws.l],mapA b23 (fun z:Int=> .int .i64 z) (fun z:Int=> .int .i64 z) (InK .i64) bm1,boxA b2 34 [.bool false,.slice none 0 0],boxA b1 25 [.slice pv nv cv,.slice pf nf cf]],[zF u7_1 (qd7 - 0),zF u7_2 (qd8 - 0),zF u7_3 (qd9 - 0),zF ws s,zF w34 (0:Int),slF (rI3 .i64) pv cv V,slF (rI3 .i64) pf cf F])) ?_ (fun hD30=> ?_)
    ·
     rintro ⟨u7_1,u7_2,u7_3⟩
     dsimp only [cw]
     refine zMc 15 24 25 26 (by kernel_rfl) ?_ ?_ ?_ ?_
     ·
      refine zu rfl rfl rfl rfl (.c rfl (.c rfl .n)) ce58 (zwa (ex:=0) (ey:=0) (ez:=0) (fx:=qd4) (fy:=qd5) (fz:=qd6) (hbex:=by omega) (hbey:=by omega) (hbez:=by omega) (hbfx:=by omega) (hbfy:=by omega) (hbfz:=by omega)) (.n) ?_
      rintro ⟨u15_1,u15_2,u15_3⟩ -
      dsimp only [List.append_eq,List.nil_append,List.cons_append]
      exact zp (hD23 (u7_1,u7_2,u7_3,u15_1,u15_2,u15_3)) (by kernel_rfl) ((.of rfl):SubM _ _) .rfl .rfl ((.of [0,1,2,3,4,5,6,7,8,9] rfl):SelR _ _ _)
     ·
      refine zO rfl rfl rfl rfl (zn zr89 rfl) (fun u24_1 _=> ?_)
      exact zp (hD24 (u7_1,u7_2,u7_3,u24_1)) (by kernel_rfl) ((.of rfl):SubM _ _) .rfl .rfl ((.of [0,1,2,3,4,5,6] rfl):SelR _ _ _)
     ·
      refine zO rfl rfl rfl rfl (zn zr89 rfl) (fun u25_1 _=> ?_)
      exact zp (hD25 (u7_1,u7_2,u7_3,u25_1)) (by kernel_rfl) ((.of rfl):SubM _ _) .rfl .rfl ((.of [0,1,2,3,4,5,6] rfl):SelR _ _ _)
     ·
      refine zO rfl rfl rfl rfl (zn zr89 rfl) (fun u26_1 _=> ?_)
      exact zp (hD26 (u7_1,u7_2,u7_3,u26_1)) (by kernel_rfl) ((.of rfl):SubM _ _) .rfl .rfl ((.of [0,1,2,3,4,5,6] rfl):SelR _ _ _)
    refine zL (X:=Nat) (k':=8) (L':=(lb 30 25132927)) (fun u24_1=>([(9,.pointer (some ⟨u24_1,0,none⟩)),(54,.agg #[.int .i64 qd1,.int .i64 qd2,.int .i64 qd3]),(48,.agg #[.int .i64 0,.int .i64 0,.int .i64 0]),(46,.agg #[.int .i64 qd4,.int .i64 qd5,.int .i64 qd6]),(40,.agg #[.int .i64 0,.int .i64 0,.int .i64 0]),(38,.agg #[.int .i64 qd7,.int .i64 qd8,.int .i64 qd9]),(32,.agg #[.int .i64 0,.int .i64 0,.int .i64 0]),(27,.int .i64 ((i:Nat):Int)),(26,.int .i64 ((nf:Nat):Int)),(25,.slice pf nf cf),(5,.pointer (some ⟨b5,0,none⟩)),(3,.int .i64 0),(2,.pointer (some ⟨b2,0,none⟩)),(1,.pointer (some ⟨b1,0,none⟩))],[boxA u24_1 89 [.bool false,.slice none 0 0,.bool false,.slice none 0 0,.bool false,.slice none 0 0]],[boxA b11 42 [.int .i64 0,.int .i64 0,.int .i64 0],boxA b10 44 [.int .i64 ((F.getD i (0,0,0)).1),.int .i64 ((F.getD i (0,0,0)).2.1),.int .i64 ((F.getD i (0,0,0)).2.2)],boxA b5 34 [ws.b,ws.l],mapA b23 (fun z:Int=> .int .i64 z) (fun z:Int=> .int .i64 z) (InK .i64) bm1,boxA b2 34 [.bool false,.slice none 0 0],boxA b1 25 [.slice pv nv cv,.slice pf nf cf]],[zF ws s,zF w34 (0:Int),slF (rI3 .i64) pv cv V,slF (rI3 .i64) pf cf F])) ?_ (fun hD31=> ?_)
    ·
     rintro u24_1
     dsimp only
     refine zPa 7 25 26 (by kernel_rfl) ?_ ?_ ?_
     ·
      refine zu rfl rfl rfl rfl (.c rfl (.c rfl .n)) ce58 (zwa (ex:=0) (ey:=0) (ez:=0) (fx:=qd7) (fy:=qd8) (fz:=qd9) (hbex:=by omega) (hbey:=by omega) (hbez:=by omega) (hbfx:=by omega) (hbfy:=by omega) (hbfz:=by omega)) (.n) ?_
      rintro ⟨u7_1,u7_2,u7_3⟩ -
      dsimp only [List.append_eq,List.nil_append,List.cons_append]
      exact zp (hD24 (u7_1,u7_2,u7_3,u24_1)) (by kernel_rfl) ((.of rfl):SubM _ _) .rfl .rfl ((.of [0,1,2,3,4,5,6] rfl):SelR _ _ _)
     ·
      refine zO rfl rfl rfl rfl (zn zr89 rfl) (fun u25_1 _=> ?_)
      exact zp (hD27 (u24_1,u25_1)) (by kernel_rfl) ((.of rfl):SubM _ _) .rfl .rfl ((.of [0,1,2,3] rfl):SelR _ _ _)
     ·
      refine zO rfl rfl rfl rfl (zn zr89 rfl) (fun u26_1 _=> ?_)
      exact zp (hD28 (u24_1,u26_1)) (by kernel_rfl) ((.of rfl):SubM _ _) .rfl .rfl ((.of [0,1,2,3] rfl):SelR _ _ _)
    refine zL (X:=Nat) (k':=8) (L':=(lb 30 41910143)) (fun u25_1=>([(10,.pointer (some ⟨u25_1,0,none⟩)),(54,.agg #[.int .i64 qd1,.int .i64 qd2,.int .i64 qd3]),(48,.agg #[.int .i64 0,.int .i64 0,.int .i64 0]),(46,.agg #[.int .i64 qd4,.int .i64 qd5,.int .i64 qd6]),(40,.agg #[.int .i64 0,.int .i64 0,.int .i64 0]),(38,.agg #[.int .i64 qd7,.int .i64 qd8,.int .i64 qd9]),(32,.agg #[.int .i64 0,.int .i64 0,.int .i64 0]),(27,.int .i64 ((i:Nat):Int)),(26,.int .i64 ((nf:Nat):Int)),(25,.slice pf nf cf),(5,.pointer (some ⟨b5,0,none⟩)),(3,.int .i64 0),(2,.pointer (some ⟨b2,0,none⟩)),(1,.pointer (some ⟨b1,0,none⟩))],[boxA u25_1 89 [.bool false,.slice none 0 0,.bool false,.slice none 0 0,.bool false,.slice none 0 0]],[boxA b11 42 [.int .i64 0,.int .i64 0,.int .i64 0],boxA b10 44 [.int .i64 ((F.getD i (0,0,0)).1),.int .i64 ((F.getD i (0,0,0)).2.1),.int .i64 ((F.getD i (0,0,0)).2.2)],boxA b5 34 [ws.b,ws.l],mapA b23 (fun z:Int=> .int .i64 z) (fun z:Int=> .int .i64 z) (InK .i64) bm1,boxA b2 34 [.bool false,.slice none 0 0],boxA b1 25 [.slice pv nv cv,.slice pf nf cf]],[zF ws s,zF w34 (0:Int),slF (rI3 .i64) pv cv V,slF (rI3 .i64) pf cf F])) ?_ (fun hD32=> ?_)
    ·
     rintro u25_1
     dsimp only
     refine zPa 7 24 26 (by kernel_rfl) ?_ ?_ ?_
     ·
      refine zu rfl rfl rfl rfl (.c rfl (.c rfl .n)) ce58 (zwa (ex:=0) (ey:=0) (ez:=0) (fx:=qd7) (fy:=qd8) (fz:=qd9) (hbex:=by omega) (hbey:=by omega) (hbez:=by omega) (hbfx:=by omega) (hbfy:=by omega) (hbfz:=by omega)) (.n) ?_
      rintro ⟨u7_1,u7_2,u7_3⟩ -
      dsimp only [List.append_eq,List.nil_append,List.cons_append]
      exact zp (hD25 (u7_1,u7_2,u7_3,u25_1)) (by kernel_rfl) ((.of rfl):SubM _ _) .rfl .rfl ((.of [0,1,2,3,4,5,6] rfl):SelR _ _ _)
     ·
      refine zO rfl rfl rfl rfl (zn zr89 rfl) (fun u24_1 _=> ?_)
      exact zp (hD27 (u24_1,u25_1)) (by kernel_rfl) ((.of rfl):SubM _ _) (zR 1 rfl (zR 0 rfl .nil)) .rfl ((.of [0,1,2,3] rfl):SelR _ _ _)
     ·
      refine zO rfl rfl rfl rfl (zn zr89 rfl) (fun u26_1 _=> ?_)
      exact zp (hD29 (u25_1,u26_1)) (by kernel_rfl) ((.of rfl):SubM _ _) .rfl .rfl ((.of [0,1,2,3] rfl):SelR _ _ _)
    refine zL (X:=Nat) (k':=8) (L':=(lb 30 75464575)) (fun u26_1=>([(11,.pointer (some ⟨u26_1,0,none⟩)),(54,.agg #[.int .i64 qd1,.int .i64 qd2,.int .i64 qd3]),(48,.agg #[.int .i64 0,.int .i64 0,.int .i64 0]),(46,.agg #[.int .i64 qd4,.int .i64 qd5,.int .i64 qd6]),(40,.agg #[.int .i64 0,.int .i64 0,.int .i64 0]),(38,.agg #[.int .i64 qd7,.int .i64 qd8,.int .i64 qd9]),(32,.agg #[.int .i64 0,.int .i64 0,.int .i64 0]),(27,.int .i64 ((i:Nat):Int)),(26,.int .i64 ((nf:Nat):Int)),(25,.slice pf nf cf),(5,.pointer (some ⟨b5,0,none⟩)),(3,.int .i64 0),(2,.pointer (some ⟨b2,0,none⟩)),(1,.pointer (some ⟨b1,0,none⟩))],[boxA u26_1 89 [.bool false,.slice none 0 0,.bool false,.slice none 0 0,.bool false,.slice none 0 0]],[boxA b11 42 [.int .i64 0,.int .i64 0,.int .i64 0],boxA b10 44 [.int .i64 ((F.getD i (0,0,0)).1),.int .i64 ((F.getD i (0,0,0)).2.1),.int .i64 ((F.getD i (0,0,0)).2.2)],boxA b5 34 [ws.b,ws.l],mapA b23 (fun z:Int=> .int .i64 z) (fun z:Int=> .int .i64 z) (InK .i64) bm1,boxA b2 34 [.bool false,.slice none 0 0],boxA b1 25 [.slice pv nv cv,.slice pf nf cf]],[zF ws s,zF w34 (0:Int),slF (rI3 .i64) pv cv V,slF (rI3 .i64) pf cf F])) ?_ (fun hD33=> ?_)
    ·
     rintro u26_1
     dsimp only
     refine zPa 7 24 25 (by kernel_rfl) ?_ ?_ ?_
     ·
      refine zu rfl rfl rfl rfl (.c rfl (.c rfl .n)) ce58 (zwa (ex:=0) (ey:=0) (ez:=0) (fx:=qd7) (fy:=qd8) (fz:=qd9) (hbex:=by omega) (hbey:=by omega) (hbez:=by omega) (hbfx:=by omega) (hbfy:=by omega) (hbfz:=by omega)) (.n) ?_
      rintro ⟨u7_1,u7_2,u7_3⟩ -
      dsimp only [List.append_eq,List.nil_append,List.cons_append]
      exact zp (hD26 (u7_1,u7_2,u7_3,u26_1)) (by kernel_rfl) ((.of rfl):SubM _ _) .rfl .rfl ((.of [0,1,2,3,4,5,6] rfl):SelR _ _ _)
     ·
      refine zO rfl rfl rfl rfl (zn zr89 rfl) (fun u24_1 _=> ?_)
      exact zp (hD28 (u24_1,u26_1)) (by kernel_rfl) ((.of rfl):SubM _ _) (zR 1 rfl (zR 0 rfl .nil)) .rfl ((.of [0,1,2,3] rfl):SelR _ _ _)
     ·
      refine zO rfl rfl rfl rfl (zn zr89 rfl) (fun u25_1 _=> ?_)
      exact zp (hD29 (u25_1,u26_1)) (by kernel_rfl) ((.of rfl):SubM _ _) (zR 1 rfl (zR 0 rfl .nil)) .rfl ((.of [0,1,2,3] rfl):SelR _ _ _)
    refine zMc 7 24 25 26 (by kernel_rfl) ?_ ?_ ?_ ?_
    ·
     refine zu rfl rfl rfl rfl (.c rfl (.c rfl .n)) ce58 (zwa (ex:=0) (ey:=0) (ez:=0) (fx:=qd7) (fy:=qd8) (fz:=qd9) (hbex:=by omega) (hbey:=by omega) (hbez:=by omega) (hbfx:=by omega) (hbfy:=by omega) (hbfz:=by omega)) (.n) ?_
     rintro ⟨u7_1,u7_2,u7_3⟩ -
     dsimp only [List.append_eq,List.nil_append,List.cons_append]
     exact zp (hD30 (u7_1,u7_2,u7_3)) (by kernel_rfl) ((.of rfl):SubM _ _) .rfl .rfl ((.of [0,1,2,3,4,5,6] rfl):SelR _ _ _)
    ·
     refine zO rfl rfl rfl rfl (zn zr89 rfl) (fun u24_1 _=> ?_)
     exact zp (hD31 u24_1) (by kernel_rfl) ((.of rfl):SubM _ _) .rfl .rfl ((.of [0,1,2,3] rfl):SelR _ _ _)
    ·
     refine zO rfl rfl rfl rfl (zn zr89 rfl) (fun u25_1 _=> ?_)
     exact zp (hD32 u25_1) (by kernel_rfl) ((.of rfl):SubM _ _) .rfl .rfl ((.of [0,1,2,3] rfl):SelR _ _ _)
    ·
     refine zO rfl rfl rfl rfl (zn zr89 rfl) (fun u26_1 _=> ?_)
     exact zp (hD33 u26_1) (by kernel_rfl) ((.of rfl):SubM _ _) .rfl .rfl ((.of [0,1,2,3] rfl):SelR _ _ _)
   ·
    refine zaa<|zk<|zk<|zt<|zc<|zh<|za<|r_u rfl rfl (zf 0 ty34 rfl rfl (.take (.take .nil)))<|zx 2 rfl rfl rfl rfl rfl sz34 rfl (.take (.take .nil)) (.s (.s .z))<|r_pv rfl rfl (ze rfl)<|zj<|zc<|zP ?_
    obtain ⟨hz1,hz2⟩:=Ms.volC_ok hc0 (fun h=>hlen (by have:=hB.empty.2 h;omega))
    have hs9:s=Ms.vol V F:=by rw [hz2,hs,List.take_of_length_le (by omega)]
    exact zmb Try.results16 ws trivial (zV 2 ty34 rfl rfl (.take (.take .nil))) (zz rfl) (by rw [hz1]) (ho:=(.n:PickO _ _ _)) ((.e (j:=0) rfl (by rw [← hs9]) .n):SelR _ _ _)
end Go.Proofs.Ytalfgjpbbongcaa.Sp
namespace Go.Proofs.Ytalfgjpbbongcaa.Sp
open Go
set_option linter.unusedVariables false
set_option maxRecDepth 100000
set_option maxHeartbeats 1000000
theorem zze:Con Try.prog 12 [] [] [] (Y:=Unit) (fun y=>True) (fun y=> .bool true) (fun y=>[]) (fun y=>[]):=by
 refine zB Try.func12 rfl rfl rfl (fun c=> ?_)
 show RunC _ _ _ _ _ [] [] []
 refine zh<|za<|r_pv rfl rfl (ze rfl)<|zj<|zc<|zh<|za<|zea rfl rfl (.n) ce44 (zUb) (.n) ?_
 rintro ⟨pvA,pfA⟩ -
 dsimp only [List.append_eq,List.nil_append,List.cons_append]
 refine zea rfl rfl (.c rfl .n) ce16 (zPd (pv:=pvA) (nv:=4) (cv:=4) (V:=Ms.exV) (pf:=pfA) (nf:=4) (cf:=4) (F:=Ms.exF) (hnv:=by first|rfl|assumption|decide|(simp [Ms.exV,Ms.exF];done)) (hnf:=by first|rfl|assumption|decide|(simp [Ms.exV,Ms.exF];done))) (.c (j:=0) rfl (.c (j:=1) rfl .n)) ?_
 rintro w31 -
 dsimp only [List.append_eq,List.nil_append,List.cons_append]
 have e2:Ms.volC Ms.exV Ms.exF=0:=by exact Ms.ex_volC
 rw [e2]
 have e3:Ms.vol Ms.exV Ms.exF=(1:Int):=by exact Ms.ex_vol
 rw [e3]
 refine r_pv rfl rfl (zb rfl)<|r_pv rfl rfl (zja rfl rfl)<|r_pv rfl rfl (zja rfl rfl)<|zS rfl rfl (zn zr34 rfl) (fun b4=> ?_)
 refine zx 0 rfl rfl rfl rfl rfl sz34 rfl (.take (.take .nil)) .z<|r_pv rfl rfl (ze rfl)<|zj<|zc<|zh<|za<|zea rfl rfl (.n) ce44 (zUb) (.n) ?_
 rintro ⟨pvB,pfB⟩ -
 dsimp only [List.append_eq,List.nil_append,List.cons_append]
 refine zY rfl rfl (.c rfl .n) ce25 (zye (pv:=pvB) (nv:=4) (cv:=4) (V:=Ms.exV) (pf:=pfB) (nf:=4) (cf:=4) (F:=Ms.exF) (hnv:=by first|rfl|assumption|decide|(simp [Ms.exV,Ms.exF];done)) (hnf:=by first|rfl|assumption|decide|(simp [Ms.exV,Ms.exF];done))) (.c (j:=0) rfl (.c (j:=1) rfl .n)) ?_
 have e5:Ms.check Ms.exV Ms.exF=0:=by exact Ms.ex_check
 rw [e5]
 have e6:Ms.eulerR Ms.exV Ms.exF=2:=by exact Ms.ex_euler
 rw [e6]
 refine r_pv rfl rfl (zb rfl)<|r_pv rfl rfl (zja rfl rfl)<|r_pv rfl rfl (zja rfl rfl)<|r_pv rfl rfl (ze rfl)<|r_pv rfl rfl (ze rfl)<|zj<|zc<|zh<|za<|zea rfl rfl (.n) ce44 (zUb) (.n) ?_
 rintro ⟨pvC,pfC⟩ -
 dsimp only [List.append_eq,List.nil_append,List.cons_append]
 refine zS rfl rfl (zn zr25 rfl) (fun b7=> ?_)
 refine zx 0 rfl rfl rfl rfl rfl sz25 rfl (.take (.take .nil)) .z<|zj<|zc<|zh<|za<|r_pv rfl rfl (zm Try.underlying25 rfl sz23 rfl rfl)<|r_u rfl rfl (zd 0 ty23 rfl rfl rfl)<|r_pv rfl rfl (zBb (hi:=3) Try.underlying23 sz44 rfl (.s rfl) (.inr ⟨_,rfl⟩) (by first|omega|decide))<|zIc (zXb 1 rfl 3 (by first|omega|decide)) (fun _ _=> ?_)
 refine r_pv rfl rfl (zm Try.underlying25 rfl sz23 rfl rfl)<|zx 0 rfl rfl rfl rfl rfl sz23 rfl (.skip (.take .nil)) .z<|zj<|zc<|zh<|za<|r_u rfl rfl (zf 0 ty25 rfl rfl (.take (.take .nil)))<|zea rfl rfl (.c rfl .n) ce23 (zqd (pv:=pvC) (nv:=4) (cv:=4) (V:=Ms.exV) (pf:=pfC) (nf:=3) (cf:=4) (F:=(Ms.exF.take 3)) (hnv:=by first|rfl|assumption|decide|(simp [Ms.exV,Ms.exF];done)) (hnf:=by first|rfl|assumption|decide|(simp [Ms.exV,Ms.exF];done))) (.c (j:=1) rfl (.c (j:=0) rfl .n)) ?_
 rintro ⟨p28,c29,bm1⟩ hB
 dsimp only [List.append_eq,List.nil_append,List.cons_append]
 replace hB:Ms.check Ms.exV (Ms.exF.take 3)=0→Ms.BMap (Ms.exF.take 3) bm1:=hB
 have e10:Ms.check Ms.exV (Ms.exF.take 3)=0:=by exact Ms.ex_open
 rw [e10]
 have e11:Ms.bordersR Ms.exV (Ms.exF.take 3) bm1=Ms.exL:=by exact Ms.ex_borders (hB Ms.ex_open)
 rw [e11]
 refine r_pv rfl rfl (zb rfl)<|r_pv rfl rfl (zja rfl rfl)<|r_pv rfl rfl (zja rfl rfl)<|r_pv rfl rfl (ze rfl)<|r_pv rfl rfl (ze rfl)<|zj<|zc<|zh<|zla (OW:=[]) (O:=[boxA b7 25 [.slice pvC 4 4,.slice pfC 3 4],boxA b4 34 [w31.b,w31.l]]) 100000 mixed (.then .ret) (by kernel_rfl)<|d_pv 0 rfl rfl (by kernel_rfl) (by kernel_rfl) rfl rfl (zb rfl)<|d_pv 1 rfl rfl (by kernel_rfl) (by kernel_rfl) rfl rfl (zxa rfl rfl)<|d_pv 2 rfl rfl (by kernel_rfl) (by kernel_rfl) rfl rfl (zb rfl)<|d_pv 3 rfl rfl (by kernel_rfl) (by kernel_rfl) rfl rfl (zb rfl)<|d_pv 4 rfl rfl (by kernel_rfl) (by kernel_rfl) rfl rfl (zxa rfl rfl)<|d_pv 5 rfl rfl (by kernel_rfl) (by kernel_rfl) rfl rfl (zy rfl rfl)<|d_pv 6 rfl rfl (by kernel_rfl) (by kernel_rfl) rfl rfl (zb rfl)<|d_pv 7 rfl rfl (by kernel_rfl) (by kernel_rfl) rfl rfl (zb rfl)<|d_pv 8 rfl rfl (by kernel_rfl) (by kernel_rfl) rfl rfl (zxa rfl rfl)<|d_pv 9 rfl rfl (by kernel_rfl) (by kernel_rfl) rfl rfl (zy rfl rfl)<|d_pv 10 rfl rfl (by kernel_rfl) (by kernel_rfl) rfl rfl (zb rfl)<|d_u 11 rfl rfl (by kernel_rfl) (by kernel_rfl) rfl rfl (zf 1 ty34 rfl rfl (.take (.take .nil)))<|zE 12 (by kernel_rfl) (zu rfl rfl rfl rfl (.c rfl .n) ce45 (zpa (z:=(1:Int)) (hz:=by first|rfl|assumption|decide|(simp [Ms.exV,Ms.exF];done))) (.n) ?_)
 rintro w312 -
 dsimp only [List.append_eq,List.nil_append,List.cons_append]
 refine zE 13 (by kernel_rfl) (zqa rfl rfl rfl rfl (.c rfl (.c rfl .n)) ce18 (zKd (w1:=w31) (w2:=w312) (x1:=(1:Int)) (x2:=(1:Int))) (.c (j:=7) rfl (.c (j:=0) rfl .n)) ?_)
 rw [show (decide ((1:Int)=(1:Int)))=true from by decide]
 refine d_pv 14 rfl rfl (by kernel_rfl) (by kernel_rfl) rfl rfl (zy rfl rfl)<|d_pv 15 rfl rfl (by kernel_rfl) (by kernel_rfl) rfl rfl (zb rfl)<|d_pv 16 rfl rfl (by kernel_rfl) (by kernel_rfl) rfl rfl (zb rfl)<|d_pv 17 rfl rfl (by kernel_rfl) (by kernel_rfl) rfl rfl (zxa rfl rfl)<|d_pv 18 rfl rfl (by kernel_rfl) (by kernel_rfl) rfl rfl (zy rfl rfl)<|d_pv 19 rfl rfl (by kernel_rfl) (by kernel_rfl) rfl rfl (zb rfl)<|d_pv 20 rfl rfl (by kernel_rfl) (by kernel_rfl) rfl rfl (zb rfl)<|d_pv 21 rfl rfl (by kernel_rfl) (by kernel_rfl) rfl rfl (zX Try.underlying37 rfl) ?_
 have e13:(((Ms.exL).length:Nat):Int)=1:=by rfl
 rw [e13]
 refine d_pv 22 rfl rfl (by kernel_rfl) (by kernel_rfl) rfl rfl (zxa rfl rfl)<|d_pv 23 rfl rfl (by kernel_rfl) (by kernel_rfl) rfl rfl (zy rfl rfl)<|d_pv 24 rfl rfl (by kernel_rfl) (by kernel_rfl) rfl rfl (zb rfl)<|d_pv 25 rfl rfl (by kernel_rfl) (by kernel_rfl) rfl rfl (zb rfl)<|d_vl 26 rfl rfl (by kernel_rfl) (by kernel_rfl) rfl rfl (zVb (x0:=(Ms.exL.getD 0 [])) 1 0 rfl Try.underlying37 sz50 rfl (by first|rfl|assumption|(simp_all;done)|omega) rfl rfl (gD (d:=[]) (by first|omega|decide))) ?_
 rintro ⟨b14,o15,p16,c17⟩ -
 dsimp only [List.append_eq,List.nil_append,List.cons_append]
 refine d_u 27 rfl rfl (by kernel_rfl) (by kernel_rfl) rfl rfl (zH (j:=0) 0 ty50 rfl rfl rfl rfl)<|zE 28 (by kernel_rfl) (zYb rfl rfl rfl rfl (zJ (enc:=fun z:Int=>[.int .i64 z]) (ok:=InK .i64) (h1:=fun _=>rfl) (h2:=fun _=>rfl) (k:=3) Try.underlying50 inf3 rfl (by decide) (by decide) (by decide) (.c (x:=1) rfl rfl (fun _ _=>by exact zo.2 (by omega)) (.c (x:=3) rfl rfl (fun _ _=>by exact zo.2 (by omega)) (.c (x:=2) rfl rfl (fun _ _=>by exact zo.2 (by omega)) .n)))) (fun b18 _=> ?_))
 refine zcb 0 rfl .z<|zE 29 (by kernel_rfl) (zqa rfl rfl rfl rfl (.c rfl (.c rfl .n)) ce28 (zge (p1:=p16) (n1:=(Ms.exL.getD 0 []).length) (c1:=c17) (l1:=(Ms.exL.getD 0 [])) (p2:=some ⟨b18,0,none⟩) (n2:=3) (c2:=3) (l2:=[1,3,2]) (hn1:=by first|rfl|assumption|decide|(simp [Ms.exV,Ms.exF];done)) (hn2:=by first|rfl|assumption|decide|(simp [Ms.exV,Ms.exF];done))) (.c (j:=2) rfl (.c (j:=0) rfl .n)) ?_)
 rw [show (decide ((Ms.exL.getD 0 [])=([1,3,2])))=true from by decide]
 refine d_pv 30 rfl rfl (by kernel_rfl) (by kernel_rfl) rfl rfl (zy rfl rfl)<|d_pv 31 rfl rfl (by kernel_rfl) (by kernel_rfl) rfl rfl (zb rfl)<|d_u 32 rfl rfl (by kernel_rfl) (by kernel_rfl) rfl rfl (zf 1 ty25 rfl rfl (.take (.take .nil)))<|zE 33 (by kernel_rfl) (zqa rfl rfl rfl rfl (.c rfl .n) ce14 (zJb (pv:=pvC) (nv:=4) (cv:=4) (V:=Ms.exV) (pf:=pfC) (nf:=3) (cf:=4) (F:=(Ms.exF.take 3)) (hnv:=by first|rfl|assumption|decide|(simp [Ms.exV,Ms.exF];done)) (hnf:=by first|rfl|assumption|decide|(simp [Ms.exV,Ms.exF];done))) (.c (j:=6) rfl (.c (j:=5) rfl .n)) ?_)
 have e19:Ms.check Ms.exV (Ms.exF.take 3)=0:=by exact Ms.ex_open
 rw [e19]
 refine d_pv 34 rfl rfl (by kernel_rfl) (by kernel_rfl) rfl rfl (zxa rfl rfl)<|d_pv 35 rfl rfl (by kernel_rfl) (by kernel_rfl) rfl rfl (zy rfl rfl)<|d_pv 36 rfl rfl (by kernel_rfl) (by kernel_rfl) rfl rfl (ze rfl)<|zma (by kernel_rfl)<|zc<|zP ?_
 exact zG Try.results12 () trivial (zz rfl) rfl (ho:=(.n:PickO _ _ _)) (.n:SelR _ _ _)
end Go.Proofs.Ytalfgjpbbongcaa.Sp
