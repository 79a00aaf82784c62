/- Lemmas on the walk and plain lemmas that the claim of this folder uses; each states its own conditions. Lines were printed by a program of ours. -/
import Derived.Test.YtalfgjpbbongcaaZ10D
set_option linter.unusedVariables false
set_option linter.unusedSimpArgs false
set_option linter.unusedSectionVars false
namespace Go.Proofs.Ytalfgjpbbongcaa.Sp
open Go
set_option linter.unusedVariables false
set_option maxRecDepth 100000
set_option maxHeartbeats 1000000
theorem zPd {pv:Option Addr} {nv:Nat} {cv:Nat} {V:List(Int×Int×Int)} {pf:Option Addr} {nf:Nat} {cf:Nat} {F:List(Int×Int×Int)}(hnv:V.length=nv)(hnf:F.length=nf):Con Try.prog 16 [.agg#[.slice pv nv cv,.slice pf nf cf]] [] [slF(rI3 .i64)pv cv V,slF(rI3 .i64)pf cf F](Y:=Wd)(fun y=>True)(fun y=> .tuple#[.agg#[y.b,y.l],.int .i64(Ms.volC V F)])(fun y=>[])(fun y=>[zF y(Ms.vol V F)]):=by
 refine zB Try.func16 rfl rfl rfl(fun c=> ?_)
 show RunC _ _ _ _ _ [(0,.agg#[.slice pv nv cv,.slice pf nf cf])] [] [slF(rI3 .i64)pv cv V,slF(rI3 .i64)pf cf F]
 refine zoa 0 rfl(fun hL0=> ?_)
 refine zoa 1 rfl(fun hL1=> ?_)
 refine zh<|za<|zS rfl rfl(zca rfl rfl)(fun b1=> ?_)
 refine zS rfl rfl(zn zr34 rfl)(fun b2=> ?_)
 refine r_pv rfl rfl(ze rfl)<|zj<|zc<|zh<|zh<|za<|r_u rfl rfl(zf 1 ty25 rfl rfl(.take(.take .nil)))<|zY rfl rfl(.c rfl .n)ce14(zJb(pv:=pv)(nv:=nv)(cv:=cv)(V:=V)(pf:=pf)(nf:=nf)(cf:=cf)(F:=F)(hnv:=by assumption)(hnf:=by assumption))(.c(j:=0)rfl(.c(j:=1)rfl .n))<|r_pv rfl rfl(ze rfl)<|zj<|zc<|zh<|za<|r_pv rfl rfl(zb rfl)<|r_pv rfl rfl(zZa rfl rfl)<|zj<|zc<|zI rfl(fun hcode=> ?_)(fun hcode=> ?_)
 ·
  refine zh<|za<|r_pv rfl rfl(zna zr34 rfl Try.underlying34(.c sz4(.c sz32 .n)) .n .n)<|r_pv rfl rfl(zb rfl)<|zx 0 rfl rfl rfl rfl rfl sz34 rfl(.take(.take .nil)) .z<|r_pv rfl rfl(ze rfl)<|zj<|zc<|zP<|zl ?_
  obtain ⟨hz1,hz2⟩:=Ms.volC_bad hcode
  refine zWe(zF wz 0)(fun g _=>zF_zero g) ?_
  exact zmb Try.results16 wz trivial(zV 0 ty34 rfl rfl(.take(.take .nil)))(zz rfl)(by rw [hz1];rfl)(ho:=(.n:PickO _ _ _))((.e(j:=0)rfl(by rw [hz2]) .n):SelR _ _ _)
 ·
  have hc0:=Decidable.not_not.1 hcode
  have hf0:=Ms.check_form hc0
  have hg:=Ms.form_zero.1 hf0
  have hnv5:nv≤512:=by have:=hg.nv;omega
  have hnf5:nf≤1024:=by have:=hg.nf;omega
  refine zw<|zc<|zh<|zh<|za<|r_u rfl rfl(zf 1 ty25 rfl rfl(.take(.take .nil)))<|zea rfl rfl(.c rfl .n)ce56(zgc(pv:=pv)(nv:=nv)(cv:=cv)(V:=V)(pf:=pf)(nf:=nf)(cf:=cf)(F:=F)(hnv:=by assumption)(hnf:=by assumption)(hg:=by first|rfl|assumption|omega))(.c(j:=0)rfl(.c(j:=1)rfl .n)) ?_
  rintro ⟨b23,bm1⟩hB
  dsimp only [List.append_eq,List.nil_append,List.cons_append]
  replace hB:Ms.BMap F bm1:=hB
  refine r_u rfl rfl(zDb(encK:=(fun z:Int=> .int .i64 z))(encV:=(fun z:Int=> .int .i64 z))(ok:=(InK .i64))(m:=bm1) 0 rfl Try.underlying76 rfl)<|r_pv rfl rfl(zRa rfl rfl)<|zj<|zc<|zI rfl(fun hlen=> ?_)(fun hlen=> ?_)
  ·
   refine zh<|za<|r_pv rfl rfl(zna zr34 rfl Try.underlying34(.c sz4(.c sz32 .n)) .n .n)<|zx 1 rfl rfl rfl rfl rfl sz34 rfl(.take(.take .nil))(.s .z)<|r_pv rfl rfl(ze rfl)<|zj<|zc<|zP<|zl ?_
   obtain ⟨hz1,hz2⟩:=Ms.volC_open hc0(hB.empty.1(by omega))
   refine zWe(zF wz 0)(fun g _=>zF_zero g) ?_
   exact zmb Try.results16 wz trivial(zV 1 ty34 rfl rfl(.take(.take .nil)))(zz rfl)(by rw [hz1];rfl)(ho:=(.n:PickO _ _ _))((.e(j:=0)rfl(by rw [hz2]) .n):SelR _ _ _)
  ·
   refine zw<|zc<|zh<|za<|zea rfl rfl(.c rfl .n)ce57(zHb(z:=(0:Int))(hz:=by first|rfl|assumption|omega))(.n) ?_
   rintro w34 -
   dsimp only [List.append_eq,List.nil_append,List.cons_append]
   refine zS rfl rfl(zn zr34 rfl)(fun b5=> ?_)
   refine zx 0 rfl rfl rfl rfl rfl sz34 rfl(.take(.take .nil)) .z<|zj<|zc<|zh<|zh<|za<|r_pv rfl rfl(zm Try.underlying25 rfl sz23 rfl rfl)<|r_u rfl rfl(zd 3 ty23 rfl rfl rfl)<|r_pv rfl rfl(zX Try.underlying23 rfl)<|r_pv rfl rfl(zb rfl)<|zj<|zc<|zr<|zua(X:=Nat×Int×Wd)(fun x:Nat×Int×Wd=>x.1≤nf∧x.2.1=Ms.volS V(F.take x.1)∧Big.ln x.2.1≤4000+x.1)(fun x=>[(27,.int .i64((x.1:Nat):Int)),(26,.int .i64((nf:Nat):Int)),(25,.slice pf nf cf),(5,.pointer(some⟨b5,0,none⟩)),(3,.int .i64 0),(2,.pointer(some⟨b2,0,none⟩)),(1,.pointer(some⟨b1,0,none⟩))])(fun x=>[boxA b5 34 [x.2.2.b,x.2.2.l],mapA b23(fun z:Int=> .int .i64 z)(fun z:Int=> .int .i64 z)(InK .i64)bm1,boxA b2 34 [.bool false,.slice none 0 0],boxA b1 25 [.slice pv nv cv,.slice pf nf cf]])(fun x=>[zF x.2.2(x.2.1),zF w34(0:Int),slF(rI3 .i64)pv cv V,slF(rI3 .i64)pf cf F])(fun x:Nat×Int×Wd=>nf - x.1)(0,(0:Int),w34)(show 0≤nf∧(0:Int)=Ms.volS V(F.take 0)∧Big.ln(0:Int)≤4000+0 from by exact⟨Nat.zero_le _,rfl,by rw [Big.zyc];omega⟩)((.e rfl(by first|rfl|(congr 1;omega)|simp_all)(.of rfl)):SubM _ _)(ho:=((.of [0,0,0,0]rfl):PickO _ _ _))((.of [0,0,1,2]rfl):SelR _ _ _) ?_
   rintro ⟨i,s,ws⟩hI
   replace hI:i≤nf∧s=Ms.volS V(F.take i)∧Big.ln s≤4000+i:=hI
   try dsimp only
   obtain ⟨hi,hs,hln⟩:=hI
   refine zh<|za<|r_pv rfl rfl(zD rfl rfl)<|zj<|zc<|zh<|zI rfl(fun h6=> ?_)(fun h6=> ?_)
   ·
    have hat:=hg.at(show i<F.length by omega)
    have hv0:=hg.vat(i:=((F.getD i(0,0,0)).1).toNat)(by omega)
    have hv1:=hg.vat(i:=((F.getD i(0,0,0)).2.1).toNat)(by omega)
    have hv2:=hg.vat(i:=((F.getD i(0,0,0)).2.2).toNat)(by omega)
    refine zw<|zc<|zh<|zr<|zh<|za<|zW(x0:=(F.getD i(0,0,0))) 3 i rfl Try.underlying23 sz44 rfl rfl rfl(by first|rfl|assumption|(simp_all;done)|omega)rfl rfl(gD(d:=(0,0,0))(by omega))(fun b7 o8 hok9=> ?_)
    obtain ⟨hok9x,hok9y,hok9z⟩:=hok9
    replace hok9x:=zo.1 hok9x
    replace hok9y:=zo.1 hok9y
    replace hok9z:=zo.1 hok9z
    refine r_u rfl rfl(zN(j:=0) 0 ty44 rfl rfl rfl(.take(.take(.take .nil))))<|zS rfl rfl(zn zr44 rfl)(fun b10=> ?_)
    refine zx 0 rfl rfl rfl rfl rfl sz44 rfl(.take(.take(.take .nil))) .z<|zj<|zc<|zh<|za<|r_pv rfl rfl(zna zr42 rfl Try.underlying42(.c sz3(.c sz3(.c sz3 .n))) .n .n)<|zS rfl rfl(zn zr42 rfl)(fun b11=> ?_)
    refine zx 0 rfl rfl rfl rfl rfl sz42 rfl(.take(.take(.take .nil))) .z<|zj<|zc<|zh<|zla(OW:=[])(O:=[boxA b11 42 [.int .i64 0,.int .i64 0,.int .i64 0],boxA b10 44 [.int .i64((F.getD i(0,0,0)).1),.int .i64((F.getD i(0,0,0)).2.1),.int .i64((F.getD i(0,0,0)).2.2)],boxA b5 34 [ws.b,ws.l],mapA b23(fun z:Int=> .int .i64 z)(fun z:Int=> .int .i64 z)(InK .i64)bm1,boxA b2 34 [.bool false,.slice none 0 0],boxA b1 25 [.slice pv nv cv,.slice pf nf cf]]) 27 mixed(.then(.block(.then(.then(.block(.then .ret))))))(by kernel_rfl)<|d_u 0 rfl rfl(by kernel_rfl)(by kernel_rfl)rfl rfl(zf 0 ty42 rfl rfl(.take(.take(.take .nil))))<|d_pv 1 rfl rfl(by kernel_rfl)(by kernel_rfl)rfl rfl(zm Try.underlying25 rfl sz22 rfl rfl)<|d_u 2 rfl rfl(by kernel_rfl)(by kernel_rfl)rfl rfl(zd 5 ty22 rfl rfl rfl)<|d_pv 3 rfl rfl(by kernel_rfl)(by kernel_rfl)rfl rfl(zg(i:=0)Try.underlying44 sz3 rfl rfl(by decide)rfl)<|d_u 4 rfl rfl(by kernel_rfl)(by kernel_rfl)rfl rfl(zd 1 ty3 rfl rfl rfl)<|zta(x0:=(V.getD(((F.getD i(0,0,0)).1).toNat)(0,0,0))) 5 rfl rfl(by kernel_rfl)(by kernel_rfl) 3(((F.getD i(0,0,0)).1).toNat)rfl Try.underlying22 sz42 rfl rfl rfl(by first|rfl|assumption|(simp_all;done)|omega)rfl(by omega)(gD(d:=(0,0,0))(by omega))(fun b12 o13 hok14=> ?_)
    obtain ⟨hok14x,hok14y,hok14z⟩:=hok14
    replace hok14x:=zo.1 hok14x
    replace hok14y:=zo.1 hok14y
    replace hok14z:=zo.1 hok14z
    refine d_u 6 rfl rfl(by kernel_rfl)(by kernel_rfl)rfl rfl(zN(j:=0) 0 ty42 rfl rfl rfl(.take(.take(.take .nil))))<|d_u 8 rfl rfl(by kernel_rfl)(by kernel_rfl)rfl rfl(zf 0 ty42 rfl rfl(.take(.take(.take .nil))))<|d_pv 9 rfl rfl(by kernel_rfl)(by kernel_rfl)rfl rfl(zm Try.underlying25 rfl sz22 rfl rfl)<|d_u 10 rfl rfl(by kernel_rfl)(by kernel_rfl)rfl rfl(zd 5 ty22 rfl rfl rfl)<|d_pv 11 rfl rfl(by kernel_rfl)(by kernel_rfl)rfl rfl(zg(i:=1)Try.underlying44 sz3 rfl rfl(by decide)rfl)<|d_u 12 rfl rfl(by kernel_rfl)(by kernel_rfl)rfl rfl(zd 1 ty3 rfl rfl rfl)<|zta(x0:=(V.getD(((F.getD i(0,0,0)).2.1).toNat)(0,0,0))) 13 rfl rfl(by kernel_rfl)(by kernel_rfl) 4(((F.getD i(0,0,0)).2.1).toNat)rfl Try.underlying22 sz42 rfl rfl rfl(by first|rfl|assumption|(simp_all;done)|omega)rfl(by omega)(gD(d:=(0,0,0))(by omega))(fun b15 o16 hok17=> ?_)
    obtain ⟨hok17x,hok17y,hok17z⟩:=hok17
    replace hok17x:=zo.1 hok17x
    replace hok17y:=zo.1 hok17y
    replace hok17z:=zo.1 hok17z
    refine d_u 14 rfl rfl(by kernel_rfl)(by kernel_rfl)rfl rfl(zN(j:=0) 0 ty42 rfl rfl rfl(.take(.take(.take .nil))))<|d_u 16 rfl rfl(by kernel_rfl)(by kernel_rfl)rfl rfl(zf 0 ty42 rfl rfl(.take(.take(.take .nil))))<|d_pv 17 rfl rfl(by kernel_rfl)(by kernel_rfl)rfl rfl(zm Try.underlying25 rfl sz22 rfl rfl)<|d_u 18 rfl rfl(by kernel_rfl)(by kernel_rfl)rfl rfl(zd 5 ty22 rfl rfl rfl)<|d_pv 19 rfl rfl(by kernel_rfl)(by kernel_rfl)rfl rfl(zg(i:=2)Try.underlying44 sz3 rfl rfl(by decide)rfl)<|d_u 20 rfl rfl(by kernel_rfl)(by kernel_rfl)rfl rfl(zd 1 ty3 rfl rfl rfl)<|zta(x0:=(V.getD(((F.getD i(0,0,0)).2.2).toNat)(0,0,0))) 21 rfl rfl(by kernel_rfl)(by kernel_rfl) 5(((F.getD i(0,0,0)).2.2).toNat)rfl Try.underlying22 sz42 rfl rfl rfl(by first|rfl|assumption|(simp_all;done)|omega)rfl(by omega)(gD(d:=(0,0,0))(by omega))(fun b18 o19 hok20=> ?_)
    obtain ⟨hok20x,hok20y,hok20z⟩:=hok20
    replace hok20x:=zo.1 hok20x
    replace hok20y:=zo.1 hok20y
    replace hok20z:=zo.1 hok20z
    refine d_u 22 rfl rfl(by kernel_rfl)(by kernel_rfl)rfl rfl(zN(j:=0) 0 ty42 rfl rfl rfl(.take(.take(.take .nil))))<|zPb(m':=[(54,.agg#[.int .i64((V.getD(((F.getD i(0,0,0)).2.2).toNat)(0,0,0)).1),.int .i64((V.getD(((F.getD i(0,0,0)).2.2).toNat)(0,0,0)).2.1),.int .i64((V.getD(((F.getD i(0,0,0)).2.2).toNat)(0,0,0)).2.2)]),(48,.agg#[.int .i64 0,.int .i64 0,.int .i64 0]),(46,.agg#[.int .i64((V.getD(((F.getD i(0,0,0)).2.1).toNat)(0,0,0)).1),.int .i64((V.getD(((F.getD i(0,0,0)).2.1).toNat)(0,0,0)).2.1),.int .i64((V.getD(((F.getD i(0,0,0)).2.1).toNat)(0,0,0)).2.2)]),(40,.agg#[.int .i64 0,.int .i64 0,.int .i64 0]),(38,.agg#[.int .i64((V.getD(((F.getD i(0,0,0)).1).toNat)(0,0,0)).1),.int .i64((V.getD(((F.getD i(0,0,0)).1).toNat)(0,0,0)).2.1),.int .i64((V.getD(((F.getD i(0,0,0)).1).toNat)(0,0,0)).2.2)]),(32,.agg#[.int .i64 0,.int .i64 0,.int .i64 0]),(27,.int .i64((i:Nat):Int)),(26,.int .i64((nf:Nat):Int)),(25,.slice pf nf cf),(5,.pointer(some⟨b5,0,none⟩)),(3,.int .i64 0),(2,.pointer(some⟨b2,0,none⟩)),(1,.pointer(some⟨b1,0,none⟩))])(R':=[zF ws s,zF w34(0:Int),slF(rI3 .i64)pv cv V,slF(rI3 .i64)pf cf F])((.of rfl):SubM _ _)(List.Perm.refl _)(List.Perm.refl _)((.of [4,5,6,7]rfl):SelR _ _ _) ?_
    obtain ⟨qd1,hqd1⟩:∃z,z=(V.getD(((F.getD i(0,0,0)).2.2).toNat)(0,0,0)).1:=⟨_,rfl⟩
    rw [← hqd1]
    obtain ⟨qd2,hqd2⟩:∃z,z=(V.getD(((F.getD i(0,0,0)).2.2).toNat)(0,0,0)).2.1:=⟨_,rfl⟩
    rw [← hqd2]
    obtain ⟨qd3,hqd3⟩:∃z,z=(V.getD(((F.getD i(0,0,0)).2.2).toNat)(0,0,0)).2.2:=⟨_,rfl⟩
    rw [← hqd3]
    obtain ⟨qd4,hqd4⟩:∃z,z=(V.getD(((F.getD i(0,0,0)).2.1).toNat)(0,0,0)).1:=⟨_,rfl⟩
    rw [← hqd4]
    obtain ⟨qd5,hqd5⟩:∃z,z=(V.getD(((F.getD i(0,0,0)).2.1).toNat)(0,0,0)).2.1:=⟨_,rfl⟩
    rw [← hqd5]
    obtain ⟨qd6,hqd6⟩:∃z,z=(V.getD(((F.getD i(0,0,0)).2.1).toNat)(0,0,0)).2.2:=⟨_,rfl⟩
    rw [← hqd6]
    obtain ⟨qd7,hqd7⟩:∃z,z=(V.getD(((F.getD i(0,0,0)).1).toNat)(0,0,0)).1:=⟨_,rfl⟩
    rw [← hqd7]
    obtain ⟨qd8,hqd8⟩:∃z,z=(V.getD(((F.getD i(0,0,0)).1).toNat)(0,0,0)).2.1:=⟨_,rfl⟩
    rw [← hqd8]
    obtain ⟨qd9,hqd9⟩:∃z,z=(V.getD(((F.getD i(0,0,0)).1).toNat)(0,0,0)).2.2:=⟨_,rfl⟩
    rw [← hqd9]
    refine zL(X:=Wd×Wd×Wd×Wd×Wd×Wd×Wd×Wd×Wd×Nat×Nat×Nat)(k':=0)(L':=(lb 30 1073741823))(fun(u7_1,u7_2,u7_3,u15_1,u15_2,u15_3,u23_1,u23_2,u23_3,u24_1,u25_1,u26_1)=>([(11,.pointer(some⟨u26_1,0,none⟩)),(10,.pointer(some⟨u25_1,0,none⟩)),(9,.pointer(some⟨u24_1,0,none⟩)),(27,.int .i64((i:Nat):Int)),(26,.int .i64((nf:Nat):Int)),(25,.slice pf nf cf),(5,.pointer(some⟨b5,0,none⟩)),(3,.int .i64 0),(2,.pointer(some⟨b2,0,none⟩)),(1,.pointer(some⟨b1,0,none⟩))],[boxA u26_1 89(cw [u23_1,u23_2,u23_3]),boxA u25_1 89(cw [u15_1,u15_2,u15_3]),boxA u24_1 89(cw [u7_1,u7_2,u7_3])],[boxA b11 42 [.int .i64 0,.int .i64 0,.int .i64 0],boxA b10 44 [.int .i64((F.getD i(0,0,0)).1),.int .i64((F.getD i(0,0,0)).2.1),.int .i64((F.getD i(0,0,0)).2.2)],boxA b5 34 [ws.b,ws.l],mapA b23(fun z:Int=> .int .i64 z)(fun z:Int=> .int .i64 z)(InK .i64)bm1,boxA b2 34 [.bool false,.slice none 0 0],boxA b1 25 [.slice pv nv cv,.slice pf nf cf]],[zF u23_1(qd1 - 0),zF u23_2(qd2 - 0),zF u23_3(qd3 - 0),zF u15_1(qd4 - 0),zF u15_2(qd5 - 0),zF u15_3(qd6 - 0),zF u7_1(qd7 - 0),zF u7_2(qd8 - 0),zF u7_3(qd9 - 0),zF ws s,zF w34(0:Int),slF(rI3 .i64)pv cv V,slF(rI3 .i64)pf cf F])) ?_(fun hD0=> ?_)
    ·
     rintro ⟨u7_1,u7_2,u7_3,u15_1,u15_2,u15_3,u23_1,u23_2,u23_3,u24_1,u25_1,u26_1⟩
     dsimp only [cw]
     refine zma(by kernel_rfl) ?_
     subst hqd1 hqd2 hqd3 hqd4 hqd5 hqd6 hqd7 hqd8 hqd9
     refine zc<|zgb(.c(i:=5)rfl(.c(i:=0)rfl(.c(i:=0)rfl(.c(i:=0)rfl(.c(i:=0)rfl(.c(i:=0)rfl(.c(i:=0)rfl(.c(i:=0)rfl(.c(i:=0)rfl .n)))))))))<|zla(OW:=[boxA b5 34 [ws.b,ws.l]])(O:=[boxA u26_1 89 [u23_1.b,u23_1.l,u23_2.b,u23_2.l,u23_3.b,u23_3.l],boxA u25_1 89 [u15_1.b,u15_1.l,u15_2.b,u15_2.l,u15_3.b,u15_3.l],boxA u24_1 89 [u7_1.b,u7_1.l,u7_2.b,u7_2.l,u7_3.b,u7_3.l],boxA b11 42 [.int .i64 0,.int .i64 0,.int .i64 0],boxA b10 44 [.int .i64((F.getD i(0,0,0)).1),.int .i64((F.getD i(0,0,0)).2.1),.int .i64((F.getD i(0,0,0)).2.2)],mapA b23(fun z:Int=> .int .i64 z)(fun z:Int=> .int .i64 z)(InK .i64)bm1,boxA b2 34 [.bool false,.slice none 0 0],boxA b1 25 [.slice pv nv cv,.slice pf nf cf]]) 7 mixed(.block(.then(.then(.block(.then .ret)))))(by kernel_rfl)<|d_uw 0 rfl rfl(by kernel_rfl)(by kernel_rfl)(by kernel_rfl)rfl rfl(zf 0 ty34 rfl rfl(.take(.take .nil)))<|d_uw 1 rfl rfl(by kernel_rfl)(by kernel_rfl)(by kernel_rfl)rfl rfl(zf 3 ty89 rfl rfl(.take(.take(.take(.take(.take(.take .nil)))))))<|d_uw 2 rfl rfl(by kernel_rfl)(by kernel_rfl)(by kernel_rfl)rfl rfl(zf 2 ty89 rfl rfl(.take(.take(.take(.take(.take(.take .nil)))))))<|d_uw 3 rfl rfl(by kernel_rfl)(by kernel_rfl)(by kernel_rfl)rfl rfl(zf 1 ty89 rfl rfl(.take(.take(.take(.take(.take(.take .nil)))))))<|zE 4(by kernel_rfl)(zu rfl rfl rfl rfl(.c rfl(.c rfl .n))ce61(zka(ex:=(((V.getD(((F.getD i(0,0,0)).2.1).toNat)(0,0,0)).1) - 0))(ey:=(((V.getD(((F.getD i(0,0,0)).2.1).toNat)(0,0,0)).2.1) - 0))(ez:=(((V.getD(((F.getD i(0,0,0)).2.1).toNat)(0,0,0)).2.2) - 0))(wa0:=u15_1)(wa1:=u15_2)(wa2:=u15_3)(fx:=(((V.getD(((F.getD i(0,0,0)).2.2).toNat)(0,0,0)).1) - 0))(fy:=(((V.getD(((F.getD i(0,0,0)).2.2).toNat)(0,0,0)).2.1) - 0))(fz:=(((V.getD(((F.getD i(0,0,0)).2.2).toNat)(0,0,0)).2.2) - 0))(wb0:=u23_1)(wb1:=u23_2)(wb2:=u23_3)(hlex:=by exact Nat.le_trans(Big.zv(by omega))(by decide))(hley:=by exact Nat.le_trans(Big.zv(by omega))(by decide))(hlez:=by exact Nat.le_trans(Big.zv(by omega))(by decide))(hlfx:=by exact Nat.le_trans(Big.zv(by omega))(by decide))(hlfy:=by exact Nat.le_trans(Big.zv(by omega))(by decide))(hlfz:=by exact Nat.le_trans(Big.zv(by omega))(by decide)))(.c(j:=3)rfl(.c(j:=4)rfl(.c(j:=5)rfl(.c(j:=0)rfl(.c(j:=1)rfl(.c(j:=2)rfl .n)))))) ?_)
     rintro ⟨wr021,wr122,wr223⟩ -
     dsimp only [List.append_eq,List.nil_append,List.cons_append]
     refine zE 5(by kernel_rfl)(zu rfl rfl rfl rfl(.c rfl(.c rfl .n))ce60(zjb(ex:=(((V.getD(((F.getD i(0,0,0)).1).toNat)(0,0,0)).1) - 0))(ey:=(((V.getD(((F.getD i(0,0,0)).1).toNat)(0,0,0)).2.1) - 0))(ez:=(((V.getD(((F.getD i(0,0,0)).1).toNat)(0,0,0)).2.2) - 0))(wa0:=u7_1)(wa1:=u7_2)(wa2:=u7_3)(fx:=((((V.getD(((F.getD i(0,0,0)).2.1).toNat)(0,0,0)).2.1) - 0)*(((V.getD(((F.getD i(0,0,0)).2.2).toNat)(0,0,0)).2.2) - 0) - (((V.getD(((F.getD i(0,0,0)).2.1).toNat)(0,0,0)).2.2) - 0)*(((V.getD(((F.getD i(0,0,0)).2.2).toNat)(0,0,0)).2.1) - 0)))(fy:=((((V.getD(((F.getD i(0,0,0)).2.1).toNat)(0,0,0)).2.2) - 0)*(((V.getD(((F.getD i(0,0,0)).2.2).toNat)(0,0,0)).1) - 0) - (((V.getD(((F.getD i(0,0,0)).2.1).toNat)(0,0,0)).1) - 0)*(((V.getD(((F.getD i(0,0,0)).2.2).toNat)(0,0,0)).2.2) - 0)))(fz:=((((V.getD(((F.getD i(0,0,0)).2.1).toNat)(0,0,0)).1) - 0)*(((V.getD(((F.getD i(0,0,0)).2.2).toNat)(0,0,0)).2.1) - 0) - (((V.getD(((F.getD i(0,0,0)).2.1).toNat)(0,0,0)).2.1) - 0)*(((V.getD(((F.getD i(0,0,0)).2.2).toNat)(0,0,0)).1) - 0)))(wb0:=wr021)(wb1:=wr122)(wb2:=wr223)(hlex:=by first|(exact Nat.le_trans(Big.zv(by omega))(by decide))|(refine Nat.le_trans(Big.zU ?_ ?_ ?_ ?_)(by decide) <;> exact Nat.le_trans(Big.zv(by omega))(by decide)))(hley:=by first|(exact Nat.le_trans(Big.zv(by omega))(by decide))|(refine Nat.le_trans(Big.zU ?_ ?_ ?_ ?_)(by decide) <;> exact Nat.le_trans(Big.zv(by omega))(by decide)))(hlez:=by first|(exact Nat.le_trans(Big.zv(by omega))(by decide))|(refine Nat.le_trans(Big.zU ?_ ?_ ?_ ?_)(by decide) <;> exact Nat.le_trans(Big.zv(by omega))(by decide)))(hlfx:=by first|(exact Nat.le_trans(Big.zv(by omega))(by decide))|(refine Nat.le_trans(Big.zU ?_ ?_ ?_ ?_)(by decide) <;> exact Nat.le_trans(Big.zv(by omega))(by decide)))(hlfy:=by first|(exact Nat.le_trans(Big.zv(by omega))(by decide))|(refine Nat.le_trans(Big.zU ?_ ?_ ?_ ?_)(by decide) <;> exact Nat.le_trans(Big.zv(by omega))(by decide)))(hlfz:=by first|(exact Nat.le_trans(Big.zv(by omega))(by decide))|(refine Nat.le_trans(Big.zU ?_ ?_ ?_ ?_)(by decide) <;> exact Nat.le_trans(Big.zv(by omega))(by decide))))(.c(j:=9)rfl(.c(j:=10)rfl(.c(j:=11)rfl(.c(j:=0)rfl(.c(j:=1)rfl(.c(j:=2)rfl .n)))))) ?_)
     rintro w324 -
     dsimp only [List.append_eq,List.nil_append,List.cons_append]
     refine zE 6(by kernel_rfl)(zu rfl rfl rfl rfl(.c rfl(.c rfl .n))ce59(zlb(w1:=ws)(w2:=w324)(x1:=s)(x2:=Ms.dot((((V.getD(((F.getD i(0,0,0)).1).toNat)(0,0,0)).1) - 0),(((V.getD(((F.getD i(0,0,0)).1).toNat)(0,0,0)).2.1) - 0),(((V.getD(((F.getD i(0,0,0)).1).toNat)(0,0,0)).2.2) - 0))(((((V.getD(((F.getD i(0,0,0)).2.1).toNat)(0,0,0)).2.1) - 0)*(((V.getD(((F.getD i(0,0,0)).2.2).toNat)(0,0,0)).2.2) - 0) - (((V.getD(((F.getD i(0,0,0)).2.1).toNat)(0,0,0)).2.2) - 0)*(((V.getD(((F.getD i(0,0,0)).2.2).toNat)(0,0,0)).2.1) - 0)),((((V.getD(((F.getD i(0,0,0)).2.1).toNat)(0,0,0)).2.2) - 0)*(((V.getD(((F.getD i(0,0,0)).2.2).toNat)(0,0,0)).1) - 0) - (((V.getD(((F.getD i(0,0,0)).2.1).toNat)(0,0,0)).1) - 0)*(((V.getD(((F.getD i(0,0,0)).2.2).toNat)(0,0,0)).2.2) - 0)),((((V.getD(((F.getD i(0,0,0)).2.1).toNat)(0,0,0)).1) - 0)*(((V.getD(((F.getD i(0,0,0)).2.2).toNat)(0,0,0)).2.1) - 0) - (((V.getD(((F.getD i(0,0,0)).2.1).toNat)(0,0,0)).2.1) - 0)*(((V.getD(((F.getD i(0,0,0)).2.2).toNat)(0,0,0)).1) - 0))))(hb1:=by first|omega|(refine Nat.le_trans(Big.zQb _ _ ?_ ?_ ?_ ?_ ?_ ?_)(by decide) <;> (try dsimp only) <;> first|(exact Nat.le_trans(Big.zv(by omega))(by decide))|(refine Nat.le_trans(Big.zU ?_ ?_ ?_ ?_)(by decide) <;> exact Nat.le_trans(Big.zv(by omega))(by decide))))(hb2:=by first|omega|(refine Nat.le_trans(Big.zQb _ _ ?_ ?_ ?_ ?_ ?_ ?_)(by decide) <;> (try dsimp only) <;> first|(exact Nat.le_trans(Big.zv(by omega))(by decide))|(refine Nat.le_trans(Big.zU ?_ ?_ ?_ ?_)(by decide) <;> exact Nat.le_trans(Big.zv(by omega))(by decide)))))(.c(j:=13)rfl(.c(j:=0)rfl .n)) ?_)
     rintro w325 -
     dsimp only [List.append_eq,List.nil_append,List.cons_append]
     refine zE 7(by kernel_rfl)(zM(by kernel_rfl)rfl rfl rfl rfl rfl sz34 rfl(.take(.take .nil)) ?_)
     refine zma(by kernel_rfl)<|zA<|zc<|za<|r_pv rfl rfl(zC(z:=(((i+1):Nat):Int))rfl rfl(w64(by omega)))<|r_pv rfl rfl(zb rfl)<|zj<|zga((i+1),(s+(Ms.dot((((V.getD(((F.getD i(0,0,0)).1).toNat)(0,0,0)).1) - 0),(((V.getD(((F.getD i(0,0,0)).1).toNat)(0,0,0)).2.1) - 0),(((V.getD(((F.getD i(0,0,0)).1).toNat)(0,0,0)).2.2) - 0))(((((V.getD(((F.getD i(0,0,0)).2.1).toNat)(0,0,0)).2.1) - 0)*(((V.getD(((F.getD i(0,0,0)).2.2).toNat)(0,0,0)).2.2) - 0) - (((V.getD(((F.getD i(0,0,0)).2.1).toNat)(0,0,0)).2.2) - 0)*(((V.getD(((F.getD i(0,0,0)).2.2).toNat)(0,0,0)).2.1) - 0)),((((V.getD(((F.getD i(0,0,0)).2.1).toNat)(0,0,0)).2.2) - 0)*(((V.getD(((F.getD i(0,0,0)).2.2).toNat)(0,0,0)).1) - 0) - (((V.getD(((F.getD i(0,0,0)).2.1).toNat)(0,0,0)).1) - 0)*(((V.getD(((F.getD i(0,0,0)).2.2).toNat)(0,0,0)).2.2) - 0)),((((V.getD(((F.getD i(0,0,0)).2.1).toNat)(0,0,0)).1) - 0)*(((V.getD(((F.getD i(0,0,0)).2.2).toNat)(0,0,0)).2.1) - 0) - (((V.getD(((F.getD i(0,0,0)).2.1).toNat)(0,0,0)).2.1) - 0)*(((V.getD(((F.getD i(0,0,0)).2.2).toNat)(0,0,0)).1) - 0))))),w325)(show(i+1)≤nf∧(s+(Ms.dot((((V.getD(((F.getD i(0,0,0)).1).toNat)(0,0,0)).1) - 0),(((V.getD(((F.getD i(0,0,0)).1).toNat)(0,0,0)).2.1) - 0),(((V.getD(((F.getD i(0,0,0)).1).toNat)(0,0,0)).2.2) - 0))(((((V.getD(((F.getD i(0,0,0)).2.1).toNat)(0,0,0)).2.1) - 0)*(((V.getD(((F.getD i(0,0,0)).2.2).toNat)(0,0,0)).2.2) - 0) - (((V.getD(((F.getD i(0,0,0)).2.1).toNat)(0,0,0)).2.2) - 0)*(((V.getD(((F.getD i(0,0,0)).2.2).toNat)(0,0,0)).2.1) - 0)),((((V.getD(((F.getD i(0,0,0)).2.1).toNat)(0,0,0)).2.2) - 0)*(((V.getD(((F.getD i(0,0,0)).2.2).toNat)(0,0,0)).1) - 0) - (((V.getD(((F.getD i(0,0,0)).2.1).toNat)(0,0,0)).1) - 0)*(((V.getD(((F.getD i(0,0,0)).2.2).toNat)(0,0,0)).2.2) - 0)),((((V.getD(((F.getD i(0,0,0)).2.1).toNat)(0,0,0)).1) - 0)*(((V.getD(((F.getD i(0,0,0)).2.2).toNat)(0,0,0)).2.1) - 0) - (((V.getD(((F.getD i(0,0,0)).2.1).toNat)(0,0,0)).2.1) - 0)*(((V.getD(((F.getD i(0,0,0)).2.2).toNat)(0,0,0)).1) - 0)))))=Ms.volS V(F.take(i+1))∧Big.ln(s+(Ms.dot((((V.getD(((F.getD i(0,0,0)).1).toNat)(0,0,0)).1) - 0),(((V.getD(((F.getD i(0,0,0)).1).toNat)(0,0,0)).2.1) - 0),(((V.getD(((F.getD i(0,0,0)).1).toNat)(0,0,0)).2.2) - 0))(((((V.getD(((F.getD i(0,0,0)).2.1).toNat)(0,0,0)).2.1) - 0)*(((V.getD(((F.getD i(0,0,0)).2.2).toNat)(0,0,0)).2.2) - 0) - (((V.getD(((F.getD i(0,0,0)).2.1).toNat)(0,0,0)).2.2) - 0)*(((V.getD(((F.getD i(0,0,0)).2.2).toNat)(0,0,0)).2.1) - 0)),((((V.getD(((F.getD i(0,0,0)).2.1).toNat)(0,0,0)).2.2) - 0)*(((V.getD(((F.getD i(0,0,0)).2.2).toNat)(0,0,0)).1) - 0) - (((V.getD(((F.getD i(0,0,0)).2.1).toNat)(0,0,0)).1) - 0)*(((V.getD(((F.getD i(0,0,0)).2.2).toNat)(0,0,0)).2.2) - 0)),((((V.getD(((F.getD i(0,0,0)).2.1).toNat)(0,0,0)).1) - 0)*(((V.getD(((F.getD i(0,0,0)).2.2).toNat)(0,0,0)).2.1) - 0) - (((V.getD(((F.getD i(0,0,0)).2.1).toNat)(0,0,0)).2.1) - 0)*(((V.getD(((F.getD i(0,0,0)).2.2).toNat)(0,0,0)).1) - 0)))))≤4000+(i+1)from by refine⟨by omega,by rw [Ms.volS_take(by omega),hs];simp [Ms.tet,Ms.det,Ms.pt,Ms.cross],?_⟩;refine Nat.le_trans(Big.zab _ _) ?_;have h9:∀z:Int,Big.ln z≤3000→max(Big.ln s)(Big.ln z)+1≤4000+(i+1):=fun z hz=>(by omega);refine h9 _ ?_;refine Big.zQb _ _ ?_ ?_ ?_ ?_ ?_ ?_ <;> (try dsimp only) <;> first|(exact Nat.le_trans(Big.zv(by omega))(by decide))|(refine Nat.le_trans(Big.zU ?_ ?_ ?_ ?_)(by decide) <;> exact Nat.le_trans(Big.zv(by omega))(by decide)))(by show nf - (i+1)<nf - i;omega)((.of rfl):SubM _ _)(ho:=((.of [0,5,5,5]rfl):PickO _ _ _))((.e(j:=0)rfl(by first|rfl|simp_all)(.of [15,16,17]rfl)):SelR _ _ _)
    refine zL(X:=Wd×Wd×Wd×Wd×Wd×Wd×Wd×Wd×Wd×Nat×Nat×Nat)(k':=1)(L':=(lb 30 536870911))(fun(u7_1,u7_2,u7_3,u15_1,u15_2,u15_3,u23_1,u23_2,u23_3,u24_1,u25_1,u26_1)=>([(11,.pointer(some⟨u26_1,0,none⟩)),(10,.pointer(some⟨u25_1,0,none⟩)),(9,.pointer(some⟨u24_1,0,none⟩)),(55,.agg(cw [u23_1,u23_2,u23_3]).toArray),(27,.int .i64((i:Nat):Int)),(26,.int .i64((nf:Nat):Int)),(25,.slice pf nf cf),(5,.pointer(some⟨b5,0,none⟩)),(3,.int .i64 0),(2,.pointer(some⟨b2,0,none⟩)),(1,.pointer(some⟨b1,0,none⟩))],[boxA u25_1 89(cw [u15_1,u15_2,u15_3]),boxA u24_1 89(cw [u7_1,u7_2,u7_3]),boxA u26_1 89 [.bool false,.slice none 0 0,.bool false,.slice none 0 0,.bool false,.slice none 0 0]],[boxA b11 42 [.int .i64 0,.int .i64 0,.int .i64 0],boxA b10 44 [.int .i64((F.getD i(0,0,0)).1),.int .i64((F.getD i(0,0,0)).2.1),.int .i64((F.getD i(0,0,0)).2.2)],boxA b5 34 [ws.b,ws.l],mapA b23(fun z:Int=> .int .i64 z)(fun z:Int=> .int .i64 z)(InK .i64)bm1,boxA b2 34 [.bool false,.slice none 0 0],boxA b1 25 [.slice pv nv cv,.slice pf nf cf]],[zF u23_1(qd1 - 0),zF u23_2(qd2 - 0),zF u23_3(qd3 - 0),zF u15_1(qd4 - 0),zF u15_2(qd5 - 0),zF u15_3(qd6 - 0),zF u7_1(qd7 - 0),zF u7_2(qd8 - 0),zF u7_3(qd9 - 0),zF ws s,zF w34(0:Int),slF(rI3 .i64)pv cv V,slF(rI3 .i64)pf cf F])) ?_(fun hD1=> ?_)
    ·
     rintro ⟨u7_1,u7_2,u7_3,u15_1,u15_2,u15_3,u23_1,u23_2,u23_3,u24_1,u25_1,u26_1⟩
     dsimp only [cw]
     refine zE 29(by kernel_rfl) ?_
     ·
      refine zzb(zia(i:=2)rfl)<|zM(by kernel_rfl)rfl rfl rfl rfl rfl sz89 rfl(.take(.take(.take(.take(.take(.take .nil)))))) ?_
      exact zp(hD0(u7_1,u7_2,u7_3,u15_1,u15_2,u15_3,u23_1,u23_2,u23_3,u24_1,u25_1,u26_1))(by kernel_rfl)((.of rfl):SubM _ _) .rfl .rfl((.of [0,1,2,3,4,5,6,7,8,9,10,11,12]rfl):SelR _ _ _)
    refine zL(X:=Wd×Wd×Wd×Wd×Wd×Wd×Wd×Wd×Wd×Nat×Nat×Nat)(k':=2)(L':=(lb 30 268435455))(fun(u7_1,u7_2,u7_3,u15_1,u15_2,u15_3,u23_1,u23_2,u23_3,u24_1,u25_1,u26_1)=>([(11,.pointer(some⟨u26_1,0,none⟩)),(10,.pointer(some⟨u25_1,0,none⟩)),(9,.pointer(some⟨u24_1,0,none⟩)),(55,.agg(cw [u23_1,u23_2,u23_3]).toArray),(47,.agg(cw [u15_1,u15_2,u15_3]).toArray),(27,.int .i64((i:Nat):Int)),(26,.int .i64((nf:Nat):Int)),(25,.slice pf nf cf),(5,.pointer(some⟨b5,0,none⟩)),(3,.int .i64 0),(2,.pointer(some⟨b2,0,none⟩)),(1,.pointer(some⟨b1,0,none⟩))],[boxA u24_1 89(cw [u7_1,u7_2,u7_3]),boxA u26_1 89 [.bool false,.slice none 0 0,.bool false,.slice none 0 0,.bool false,.slice none 0 0],boxA u25_1 89 [.bool false,.slice none 0 0,.bool false,.slice none 0 0,.bool false,.slice none 0 0]],[boxA b11 42 [.int .i64 0,.int .i64 0,.int .i64 0],boxA b10 44 [.int .i64((F.getD i(0,0,0)).1),.int .i64((F.getD i(0,0,0)).2.1),.int .i64((F.getD i(0,0,0)).2.2)],boxA b5 34 [ws.b,ws.l],mapA b23(fun z:Int=> .int .i64 z)(fun z:Int=> .int .i64 z)(InK .i64)bm1,boxA b2 34 [.bool false,.slice none 0 0],boxA b1 25 [.slice pv nv cv,.slice pf nf cf]],[zF u23_1(qd1 - 0),zF u23_2(qd2 - 0),zF u23_3(qd3 - 0),zF u15_1(qd4 - 0),zF u15_2(qd5 - 0),zF u15_3(qd6 - 0),zF u7_1(qd7 - 0),zF u7_2(qd8 - 0),zF u7_3(qd9 - 0),zF ws s,zF w34(0:Int),slF(rI3 .i64)pv cv V,slF(rI3 .i64)pf cf F])) ?_(fun hD2=> ?_)
    ·
     rintro ⟨u7_1,u7_2,u7_3,u15_1,u15_2,u15_3,u23_1,u23_2,u23_3,u24_1,u25_1,u26_1⟩
     dsimp only [cw]
     refine zE 28(by kernel_rfl) ?_
     ·
      refine zzb(zia(i:=2)rfl)<|zM(by kernel_rfl)rfl rfl rfl rfl rfl sz89 rfl(.take(.take(.take(.take(.take(.take .nil)))))) ?_
      exact zp(hD1(u7_1,u7_2,u7_3,u15_1,u15_2,u15_3,u23_1,u23_2,u23_3,u24_1,u25_1,u26_1))(by kernel_rfl)((.of rfl):SubM _ _) .rfl .rfl((.of [0,1,2,3,4,5,6,7,8,9,10,11,12]rfl):SelR _ _ _)
    refine zL(X:=Wd×Wd×Wd×Wd×Wd×Wd×Wd×Wd×Wd×Nat×Nat×Nat)(k':=3)(L':=(lb 30 134217727))(fun(u7_1,u7_2,u7_3,u15_1,u15_2,u15_3,u23_1,u23_2,u23_3,u24_1,u25_1,u26_1)=>([(11,.pointer(some⟨u26_1,0,none⟩)),(10,.pointer(some⟨u25_1,0,none⟩)),(9,.pointer(some⟨u24_1,0,none⟩)),(55,.agg(cw [u23_1,u23_2,u23_3]).toArray),(47,.agg(cw [u15_1,u15_2,u15_3]).toArray),(39,.agg(cw [u7_1,u7_2,u7_3]).toArray),(27,.int .i64((i:Nat):Int)),(26,.int .i64((nf:Nat):Int)),(25,.slice pf nf cf),(5,.pointer(some⟨b5,0,none⟩)),(3,.int .i64 0),(2,.pointer(some⟨b2,0,none⟩)),(1,.pointer(some⟨b1,0,none⟩))],[boxA u26_1 89 [.bool false,.slice none 0 0,.bool false,.slice none 0 0,.bool false,.slice none 0 0],boxA u25_1 89 [.bool false,.slice none 0 0,.bool false,.slice none 0 0,.bool false,.slice none 0 0],boxA u24_1 89 [.bool false,.slice none 0 0,.bool false,.slice none 0 0,.bool false,.slice none 0 0]],[boxA b11 42 [.int .i64 0,.int .i64 0,.int .i64 0],boxA b10 44 [.int .i64((F.getD i(0,0,0)).1),.int .i64((F.getD i(0,0,0)).2.1),.int .i64((F.getD i(0,0,0)).2.2)],boxA b5 34 [ws.b,ws.l],mapA b23(fun z:Int=> .int .i64 z)(fun z:Int=> .int .i64 z)(InK .i64)bm1,boxA b2 34 [.bool false,.slice none 0 0],boxA b1 25 [.slice pv nv cv,.slice pf nf cf]],[zF u23_1(qd1 - 0),zF u23_2(qd2 - 0),zF u23_3(qd3 - 0),zF u15_1(qd4 - 0),zF u15_2(qd5 - 0),zF u15_3(qd6 - 0),zF u7_1(qd7 - 0),zF u7_2(qd8 - 0),zF u7_3(qd9 - 0),zF ws s,zF w34(0:Int),slF(rI3 .i64)pv cv V,slF(rI3 .i64)pf cf F])) ?_(fun hD3=> ?_)
    ·
     rintro ⟨u7_1,u7_2,u7_3,u15_1,u15_2,u15_3,u23_1,u23_2,u23_3,u24_1,u25_1,u26_1⟩
     dsimp only [cw]
     refine zE 27(by kernel_rfl) ?_
     ·
      refine zzb(zia(i:=2)rfl)<|zM(by kernel_rfl)rfl rfl rfl rfl rfl sz89 rfl(.take(.take(.take(.take(.take(.take .nil)))))) ?_
      exact zp(hD2(u7_1,u7_2,u7_3,u15_1,u15_2,u15_3,u23_1,u23_2,u23_3,u24_1,u25_1,u26_1))(by kernel_rfl)((.of rfl):SubM _ _) .rfl .rfl((.of [0,1,2,3,4,5,6,7,8,9,10,11,12]rfl):SelR _ _ _)
    refine zL(X:=Wd×Wd×Wd×Wd×Wd×Wd×Wd×Wd×Wd×Nat×Nat)(k':=4)(L':=(lb 30 67108863))(fun(u7_1,u7_2,u7_3,u15_1,u15_2,u15_3,u23_1,u23_2,u23_3,u24_1,u25_1)=>([(10,.pointer(some⟨u25_1,0,none⟩)),(9,.pointer(some⟨u24_1,0,none⟩)),(55,.agg(cw [u23_1,u23_2,u23_3]).toArray),(47,.agg(cw [u15_1,u15_2,u15_3]).toArray),(39,.agg(cw [u7_1,u7_2,u7_3]).toArray),(27,.int .i64((i:Nat):Int)),(26,.int .i64((nf:Nat):Int)),(25,.slice pf nf cf),(5,.pointer(some⟨b5,0,none⟩)),(3,.int .i64 0),(2,.pointer(some⟨b2,0,none⟩)),(1,.pointer(some⟨b1,0,none⟩))],[boxA u25_1 89 [.bool false,.slice none 0 0,.bool false,.slice none 0 0,.bool false,.slice none 0 0],boxA u24_1 89 [.bool false,.slice none 0 0,.bool false,.slice none 0 0,.bool false,.slice none 0 0]],[boxA b11 42 [.int .i64 0,.int .i64 0,.int .i64 0],boxA b10 44 [.int .i64((F.getD i(0,0,0)).1),.int .i64((F.getD i(0,0,0)).2.1),.int .i64((F.getD i(0,0,0)).2.2)],boxA b5 34 [ws.b,ws.l],mapA b23(fun z:Int=> .int .i64 z)(fun z:Int=> .int .i64 z)(InK .i64)bm1,boxA b2 34 [.bool false,.slice none 0 0],boxA b1 25 [.slice pv nv cv,.slice pf nf cf]],[zF u23_1(qd1 - 0),zF u23_2(qd2 - 0),zF u23_3(qd3 - 0),zF u15_1(qd4 - 0),zF u15_2(qd5 - 0),zF u15_3(qd6 - 0),zF u7_1(qd7 - 0),zF u7_2(qd8 - 0),zF u7_3(qd9 - 0),zF ws s,zF w34(0:Int),slF(rI3 .i64)pv cv V,slF(rI3 .i64)pf cf F])) ?_(fun hD4=> ?_)
    ·
     rintro ⟨u7_1,u7_2,u7_3,u15_1,u15_2,u15_3,u23_1,u23_2,u23_3,u24_1,u25_1⟩
     dsimp only [cw]
     refine zE 26(by kernel_rfl) ?_
     ·
      refine zO rfl rfl rfl rfl(zn zr89 rfl)(fun u26_1 _=> ?_)
      exact zp(hD3(u7_1,u7_2,u7_3,u15_1,u15_2,u15_3,u23_1,u23_2,u23_3,u24_1,u25_1,u26_1))(by kernel_rfl)((.of rfl):SubM _ _) .rfl .rfl((.of [0,1,2,3,4,5,6,7,8,9,10,11,12]rfl):SelR _ _ _)
    refine zL(X:=Wd×Wd×Wd×Wd×Wd×Wd×Wd×Wd×Wd×Nat×Nat)(k':=4)(L':=(lb 30 100663295))(fun(u7_1,u7_2,u7_3,u15_1,u15_2,u15_3,u23_1,u23_2,u23_3,u24_1,u26_1)=>([(11,.pointer(some⟨u26_1,0,none⟩)),(9,.pointer(some⟨u24_1,0,none⟩)),(55,.agg(cw [u23_1,u23_2,u23_3]).toArray),(47,.agg(cw [u15_1,u15_2,u15_3]).toArray),(39,.agg(cw [u7_1,u7_2,u7_3]).toArray),(27,.int .i64((i:Nat):Int)),(26,.int .i64((nf:Nat):Int)),(25,.slice pf nf cf),(5,.pointer(some⟨b5,0,none⟩)),(3,.int .i64 0),(2,.pointer(some⟨b2,0,none⟩)),(1,.pointer(some⟨b1,0,none⟩))],[boxA u26_1 89 [.bool false,.slice none 0 0,.bool false,.slice none 0 0,.bool false,.slice none 0 0],boxA u24_1 89 [.bool false,.slice none 0 0,.bool false,.slice none 0 0,.bool false,.slice none 0 0]],[boxA b11 42 [.int .i64 0,.int .i64 0,.int .i64 0],boxA b10 44 [.int .i64((F.getD i(0,0,0)).1),.int .i64((F.getD i(0,0,0)).2.1),.int .i64((F.getD i(0,0,0)).2.2)],boxA b5 34 [ws.b,ws.l],mapA b23(fun z:Int=> .int .i64 z)(fun z:Int=> .int .i64 z)(InK .i64)bm1,boxA b2 34 [.bool false,.slice none 0 0],boxA b1 25 [.slice pv nv cv,.slice pf nf cf]],[zF u23_1(qd1 - 0),zF u23_2(qd2 - 0),zF u23_3(qd3 - 0),zF u15_1(qd4 - 0),zF u15_2(qd5 - 0),zF u15_3(qd6 - 0),zF u7_1(qd7 - 0),zF u7_2(qd8 - 0),zF u7_3(qd9 - 0),zF ws s,zF w34(0:Int),slF(rI3 .i64)pv cv V,slF(rI3 .i64)pf cf F])) ?_(fun hD5=> ?_)
    ·
     rintro ⟨u7_1,u7_2,u7_3,u15_1,u15_2,u15_3,u23_1,u23_2,u23_3,u24_1,u26_1⟩
     dsimp only [cw]
     refine zE 25(by kernel_rfl) ?_
     ·
      refine zO rfl rfl rfl rfl(zn zr89 rfl)(fun u25_1 _=> ?_)
      exact zp(hD3(u7_1,u7_2,u7_3,u15_1,u15_2,u15_3,u23_1,u23_2,u23_3,u24_1,u25_1,u26_1))(by kernel_rfl)((.of rfl):SubM _ _)(zR 1 rfl(zR 0 rfl(zR 0 rfl .nil))) .rfl((.of [0,1,2,3,4,5,6,7,8,9,10,11,12]rfl):SelR _ _ _)
    refine zL(X:=Wd×Wd×Wd×Wd×Wd×Wd×Wd×Wd×Wd×Nat×Nat)(k':=4)(L':=(lb 30 117440511))(fun(u7_1,u7_2,u7_3,u15_1,u15_2,u15_3,u23_1,u23_2,u23_3,u25_1,u26_1)=>([(11,.pointer(some⟨u26_1,0,none⟩)),(10,.pointer(some⟨u25_1,0,none⟩)),(55,.agg(cw [u23_1,u23_2,u23_3]).toArray),(47,.agg(cw [u15_1,u15_2,u15_3]).toArray),(39,.agg(cw [u7_1,u7_2,u7_3]).toArray),(27,.int .i64((i:Nat):Int)),(26,.int .i64((nf:Nat):Int)),(25,.slice pf nf cf),(5,.pointer(some⟨b5,0,none⟩)),(3,.int .i64 0),(2,.pointer(some⟨b2,0,none⟩)),(1,.pointer(some⟨b1,0,none⟩))],[boxA u26_1 89 [.bool false,.slice none 0 0,.bool false,.slice none 0 0,.bool false,.slice none 0 0],boxA u25_1 89 [.bool false,.slice none 0 0,.bool false,.slice none 0 0,.bool false,.slice none 0 0]],[boxA b11 42 [.int .i64 0,.int .i64 0,.int .i64 0],boxA b10 44 [.int .i64((F.getD i(0,0,0)).1),.int .i64((F.getD i(0,0,0)).2.1),.int .i64((F.getD i(0,0,0)).2.2)],boxA b5 34 [ws.b,ws.l],mapA b23(fun z:Int=> .int .i64 z)(fun z:Int=> .int .i64 z)(InK .i64)bm1,boxA b2 34 [.bool false,.slice none 0 0],boxA b1 25 [.slice pv nv cv,.slice pf nf cf]],[zF u23_1(qd1 - 0),zF u23_2(qd2 - 0),zF u23_3(qd3 - 0),zF u15_1(qd4 - 0),zF u15_2(qd5 - 0),zF u15_3(qd6 - 0),zF u7_1(qd7 - 0),zF u7_2(qd8 - 0),zF u7_3(qd9 - 0),zF ws s,zF w34(0:Int),slF(rI3 .i64)pv cv V,slF(rI3 .i64)pf cf F])) ?_(fun hD6=> ?_)
    ·
     rintro ⟨u7_1,u7_2,u7_3,u15_1,u15_2,u15_3,u23_1,u23_2,u23_3,u25_1,u26_1⟩
     dsimp only [cw]
     refine zE 24(by kernel_rfl) ?_
     ·
      refine zO rfl rfl rfl rfl(zn zr89 rfl)(fun u24_1 _=> ?_)
      exact zp(hD3(u7_1,u7_2,u7_3,u15_1,u15_2,u15_3,u23_1,u23_2,u23_3,u24_1,u25_1,u26_1))(by kernel_rfl)((.of rfl):SubM _ _)(zR 1 rfl(zR 1 rfl(zR 0 rfl .nil))) .rfl((.of [0,1,2,3,4,5,6,7,8,9,10,11,12]rfl):SelR _ _ _)
    refine zL(X:=Wd×Wd×Wd×Wd×Wd×Wd×Nat×Nat×Nat)(k':=4)(L':=(lb 30 125829119))(fun(u7_1,u7_2,u7_3,u15_1,u15_2,u15_3,u24_1,u25_1,u26_1)=>([(11,.pointer(some⟨u26_1,0,none⟩)),(10,.pointer(some⟨u25_1,0,none⟩)),(9,.pointer(some⟨u24_1,0,none⟩)),(47,.agg(cw [u15_1,u15_2,u15_3]).toArray),(39,.agg(cw [u7_1,u7_2,u7_3]).toArray),(54,.agg#[.int .i64 qd1,.int .i64 qd2,.int .i64 qd3]),(48,.agg#[.int .i64 0,.int .i64 0,.int .i64 0]),(27,.int .i64((i:Nat):Int)),(26,.int .i64((nf:Nat):Int)),(25,.slice pf nf cf),(5,.pointer(some⟨b5,0,none⟩)),(3,.int .i64 0),(2,.pointer(some⟨b2,0,none⟩)),(1,.pointer(some⟨b1,0,none⟩))],[boxA u26_1 89 [.bool false,.slice none 0 0,.bool false,.slice none 0 0,.bool false,.slice none 0 0],boxA u25_1 89 [.bool false,.slice none 0 0,.bool false,.slice none 0 0,.bool false,.slice none 0 0],boxA u24_1 89 [.bool false,.slice none 0 0,.bool false,.slice none 0 0,.bool false,.slice none 0 0]],[boxA b11 42 [.int .i64 0,.int .i64 0,.int .i64 0],boxA b10 44 [.int .i64((F.getD i(0,0,0)).1),.int .i64((F.getD i(0,0,0)).2.1),.int .i64((F.getD i(0,0,0)).2.2)],boxA b5 34 [ws.b,ws.l],mapA b23(fun z:Int=> .int .i64 z)(fun z:Int=> .int .i64 z)(InK .i64)bm1,boxA b2 34 [.bool false,.slice none 0 0],boxA b1 25 [.slice pv nv cv,.slice pf nf cf]],[zF u15_1(qd4 - 0),zF u15_2(qd5 - 0),zF u15_3(qd6 - 0),zF u7_1(qd7 - 0),zF u7_2(qd8 - 0),zF u7_3(qd9 - 0),zF ws s,zF w34(0:Int),slF(rI3 .i64)pv cv V,slF(rI3 .i64)pf cf F])) ?_(fun hD7=> ?_)
    ·
     rintro ⟨u7_1,u7_2,u7_3,u15_1,u15_2,u15_3,u24_1,u25_1,u26_1⟩
     dsimp only [cw]
     refine zE 23(by kernel_rfl) ?_
     ·
      refine zu rfl rfl rfl rfl(.c rfl(.c rfl .n))ce58(zwa(ex:=0)(ey:=0)(ez:=0)(fx:=qd1)(fy:=qd2)(fz:=qd3)(hbex:=by omega)(hbey:=by omega)(hbez:=by omega)(hbfx:=by omega)(hbfy:=by omega)(hbfz:=by omega))(.n) ?_
      rintro ⟨u23_1,u23_2,u23_3⟩ -
      dsimp only [List.append_eq,List.nil_append,List.cons_append]
      exact zp(hD3(u7_1,u7_2,u7_3,u15_1,u15_2,u15_3,u23_1,u23_2,u23_3,u24_1,u25_1,u26_1))(by kernel_rfl)((.of rfl):SubM _ _) .rfl .rfl((.of [0,1,2,3,4,5,6,7,8,9,10,11,12]rfl):SelR _ _ _)
    refine zL(X:=Wd×Wd×Wd×Wd×Wd×Wd×Wd×Wd×Wd×Nat)(k':=5)(L':=(lb 30 33554431))(fun(u7_1,u7_2,u7_3,u15_1,u15_2,u15_3,u23_1,u23_2,u23_3,u24_1)=>([(9,.pointer(some⟨u24_1,0,none⟩)),(55,.agg(cw [u23_1,u23_2,u23_3]).toArray),(47,.agg(cw [u15_1,u15_2,u15_3]).toArray),(39,.agg(cw [u7_1,u7_2,u7_3]).toArray),(27,.int .i64((i:Nat):Int)),(26,.int .i64((nf:Nat):Int)),(25,.slice pf nf cf),(5,.pointer(some⟨b5,0,none⟩)),(3,.int .i64 0),(2,.pointer(some⟨b2,0,none⟩)),(1,.pointer(some⟨b1,0,none⟩))],[boxA u24_1 89 [.bool false,.slice none 0 0,.bool false,.slice none 0 0,.bool false,.slice none 0 0]],[boxA b11 42 [.int .i64 0,.int .i64 0,.int .i64 0],boxA b10 44 [.int .i64((F.getD i(0,0,0)).1),.int .i64((F.getD i(0,0,0)).2.1),.int .i64((F.getD i(0,0,0)).2.2)],boxA b5 34 [ws.b,ws.l],mapA b23(fun z:Int=> .int .i64 z)(fun z:Int=> .int .i64 z)(InK .i64)bm1,boxA b2 34 [.bool false,.slice none 0 0],boxA b1 25 [.slice pv nv cv,.slice pf nf cf]],[zF u23_1(qd1 - 0),zF u23_2(qd2 - 0),zF u23_3(qd3 - 0),zF u15_1(qd4 - 0),zF u15_2(qd5 - 0),zF u15_3(qd6 - 0),zF u7_1(qd7 - 0),zF u7_2(qd8 - 0),zF u7_3(qd9 - 0),zF ws s,zF w34(0:Int),slF(rI3 .i64)pv cv V,slF(rI3 .i64)pf cf F])) ?_(fun hD8=> ?_)
    ·
     rintro ⟨u7_1,u7_2,u7_3,u15_1,u15_2,u15_3,u23_1,u23_2,u23_3,u24_1⟩
     dsimp only [cw]
     refine zMa 25 26(by kernel_rfl) ?_ ?_
     ·
      refine zO rfl rfl rfl rfl(zn zr89 rfl)(fun u25_1 _=> ?_)
      exact zp(hD4(u7_1,u7_2,u7_3,u15_1,u15_2,u15_3,u23_1,u23_2,u23_3,u24_1,u25_1))(by kernel_rfl)((.of rfl):SubM _ _) .rfl .rfl((.of [0,1,2,3,4,5,6,7,8,9,10,11,12]rfl):SelR _ _ _)
     ·
      refine zO rfl rfl rfl rfl(zn zr89 rfl)(fun u26_1 _=> ?_)
      exact zp(hD5(u7_1,u7_2,u7_3,u15_1,u15_2,u15_3,u23_1,u23_2,u23_3,u24_1,u26_1))(by kernel_rfl)((.of rfl):SubM _ _) .rfl .rfl((.of [0,1,2,3,4,5,6,7,8,9,10,11,12]rfl):SelR _ _ _)
    refine zL(X:=Wd×Wd×Wd×Wd×Wd×Wd×Wd×Wd×Wd×Nat)(k':=5)(L':=(lb 30 50331647))(fun(u7_1,u7_2,u7_3,u15_1,u15_2,u15_3,u23_1,u23_2,u23_3,u25_1)=>([(10,.pointer(some⟨u25_1,0,none⟩)),(55,.agg(cw [u23_1,u23_2,u23_3]).toArray),(47,.agg(cw [u15_1,u15_2,u15_3]).toArray),(39,.agg(cw [u7_1,u7_2,u7_3]).toArray),(27,.int .i64((i:Nat):Int)),(26,.int .i64((nf:Nat):Int)),(25,.slice pf nf cf),(5,.pointer(some⟨b5,0,none⟩)),(3,.int .i64 0),(2,.pointer(some⟨b2,0,none⟩)),(1,.pointer(some⟨b1,0,none⟩))],[boxA u25_1 89 [.bool false,.slice none 0 0,.bool false,.slice none 0 0,.bool false,.slice none 0 0]],[boxA b11 42 [.int .i64 0,.int .i64 0,.int .i64 0],boxA b10 44 [.int .i64((F.getD i(0,0,0)).1),.int .i64((F.getD i(0,0,0)).2.1),.int .i64((F.getD i(0,0,0)).2.2)],boxA b5 34 [ws.b,ws.l],mapA b23(fun z:Int=> .int .i64 z)(fun z:Int=> .int .i64 z)(InK .i64)bm1,boxA b2 34 [.bool false,.slice none 0 0],boxA b1 25 [.slice pv nv cv,.slice pf nf cf]],[zF u23_1(qd1 - 0),zF u23_2(qd2 - 0),zF u23_3(qd3 - 0),zF u15_1(qd4 - 0),zF u15_2(qd5 - 0),zF u15_3(qd6 - 0),zF u7_1(qd7 - 0),zF u7_2(qd8 - 0),zF u7_3(qd9 - 0),zF ws s,zF w34(0:Int),slF(rI3 .i64)pv cv V,slF(rI3 .i64)pf cf F])) ?_(fun hD9=> ?_)
    ·
     rintro ⟨u7_1,u7_2,u7_3,u15_1,u15_2,u15_3,u23_1,u23_2,u23_3,u25_1⟩
     dsimp only [cw]
     refine zMa 24 26(by kernel_rfl) ?_ ?_
     ·
      refine zO rfl rfl rfl rfl(zn zr89 rfl)(fun u24_1 _=> ?_)
      exact zp(hD4(u7_1,u7_2,u7_3,u15_1,u15_2,u15_3,u23_1,u23_2,u23_3,u24_1,u25_1))(by kernel_rfl)((.of rfl):SubM _ _)(zR 1 rfl(zR 0 rfl .nil)) .rfl((.of [0,1,2,3,4,5,6,7,8,9,10,11,12]rfl):SelR _ _ _)
     ·
      refine zO rfl rfl rfl rfl(zn zr89 rfl)(fun u26_1 _=> ?_)
      exact zp(hD6(u7_1,u7_2,u7_3,u15_1,u15_2,u15_3,u23_1,u23_2,u23_3,u25_1,u26_1))(by kernel_rfl)((.of rfl):SubM _ _) .rfl .rfl((.of [0,1,2,3,4,5,6,7,8,9,10,11,12]rfl):SelR _ _ _)
    refine zL(X:=Wd×Wd×Wd×Wd×Wd×Wd×Wd×Wd×Wd×Nat)(k':=5)(L':=(lb 30 83886079))(fun(u7_1,u7_2,u7_3,u15_1,u15_2,u15_3,u23_1,u23_2,u23_3,u26_1)=>([(11,.pointer(some⟨u26_1,0,none⟩)),(55,.agg(cw [u23_1,u23_2,u23_3]).toArray),(47,.agg(cw [u15_1,u15_2,u15_3]).toArray),(39,.agg(cw [u7_1,u7_2,u7_3]).toArray),(27,.int .i64((i:Nat):Int)),(26,.int .i64((nf:Nat):Int)),(25,.slice pf nf cf),(5,.pointer(some⟨b5,0,none⟩)),(3,.int .i64 0),(2,.pointer(some⟨b2,0,none⟩)),(1,.pointer(some⟨b1,0,none⟩))],[boxA u26_1 89 [.bool false,.slice none 0 0,.bool false,.slice none 0 0,.bool false,.slice none 0 0]],[boxA b11 42 [.int .i64 0,.int .i64 0,.int .i64 0],boxA b10 44 [.int .i64((F.getD i(0,0,0)).1),.int .i64((F.getD i(0,0,0)).2.1),.int .i64((F.getD i(0,0,0)).2.2)],boxA b5 34 [ws.b,ws.l],mapA b23(fun z:Int=> .int .i64 z)(fun z:Int=> .int .i64 z)(InK .i64)bm1,boxA b2 34 [.bool false,.slice none 0 0],boxA b1 25 [.slice pv nv cv,.slice pf nf cf]],[zF u23_1(qd1 - 0),zF u23_2(qd2 - 0),zF u23_3(qd3 - 0),zF u15_1(qd4 - 0),zF u15_2(qd5 - 0),zF u15_3(qd6 - 0),zF u7_1(qd7 - 0),zF u7_2(qd8 - 0),zF u7_3(qd9 - 0),zF ws s,zF w34(0:Int),slF(rI3 .i64)pv cv V,slF(rI3 .i64)pf cf F])) ?_(fun hD10=> ?_)
    ·
     rintro ⟨u7_1,u7_2,u7_3,u15_1,u15_2,u15_3,u23_1,u23_2,u23_3,u26_1⟩
     dsimp only [cw]
     refine zMa 24 25(by kernel_rfl) ?_ ?_
     ·
      refine zO rfl rfl rfl rfl(zn zr89 rfl)(fun u24_1 _=> ?_)
      exact zp(hD5(u7_1,u7_2,u7_3,u15_1,u15_2,u15_3,u23_1,u23_2,u23_3,u24_1,u26_1))(by kernel_rfl)((.of rfl):SubM _ _)(zR 1 rfl(zR 0 rfl .nil)) .rfl((.of [0,1,2,3,4,5,6,7,8,9,10,11,12]rfl):SelR _ _ _)
     ·
      refine zO rfl rfl rfl rfl(zn zr89 rfl)(fun u25_1 _=> ?_)
      exact zp(hD6(u7_1,u7_2,u7_3,u15_1,u15_2,u15_3,u23_1,u23_2,u23_3,u25_1,u26_1))(by kernel_rfl)((.of rfl):SubM _ _)(zR 1 rfl(zR 0 rfl .nil)) .rfl((.of [0,1,2,3,4,5,6,7,8,9,10,11,12]rfl):SelR _ _ _)
    refine zL(X:=Wd×Wd×Wd×Wd×Wd×Wd×Nat×Nat)(k':=5)(L':=(lb 30 58720255))(fun(u7_1,u7_2,u7_3,u15_1,u15_2,u15_3,u24_1,u25_1)=>([(10,.pointer(some⟨u25_1,0,none⟩)),(9,.pointer(some⟨u24_1,0,none⟩)),(47,.agg(cw [u15_1,u15_2,u15_3]).toArray),(39,.agg(cw [u7_1,u7_2,u7_3]).toArray),(54,.agg#[.int .i64 qd1,.int .i64 qd2,.int .i64 qd3]),(48,.agg#[.int .i64 0,.int .i64 0,.int .i64 0]),(27,.int .i64((i:Nat):Int)),(26,.int .i64((nf:Nat):Int)),(25,.slice pf nf cf),(5,.pointer(some⟨b5,0,none⟩)),(3,.int .i64 0),(2,.pointer(some⟨b2,0,none⟩)),(1,.pointer(some⟨b1,0,none⟩))],[boxA u25_1 89 [.bool false,.slice none 0 0,.bool false,.slice none 0 0,.bool false,.slice none 0 0],boxA u24_1 89 [.bool false,.slice none 0 0,.bool false,.slice none 0 0,.bool false,.slice none 0 0]],[boxA b11 42 [.int .i64 0,.int .i64 0,.int .i64 0],boxA b10 44 [.int .i64((F.getD i(0,0,0)).1),.int .i64((F.getD i(0,0,0)).2.1),.int .i64((F.getD i(0,0,0)).2.2)],boxA b5 34 [ws.b,ws.l],mapA b23(fun z:Int=> .int .i64 z)(fun z:Int=> .int .i64 z)(InK .i64)bm1,boxA b2 34 [.bool false,.slice none 0 0],boxA b1 25 [.slice pv nv cv,.slice pf nf cf]],[zF u15_1(qd4 - 0),zF u15_2(qd5 - 0),zF u15_3(qd6 - 0),zF u7_1(qd7 - 0),zF u7_2(qd8 - 0),zF u7_3(qd9 - 0),zF ws s,zF w34(0:Int),slF(rI3 .i64)pv cv V,slF(rI3 .i64)pf cf F])) ?_(fun hD11=> ?_)
    ·
     rintro ⟨u7_1,u7_2,u7_3,u15_1,u15_2,u15_3,u24_1,u25_1⟩
     dsimp only [cw]
     refine zMa 23 26(by kernel_rfl) ?_ ?_
     ·
      refine zu rfl rfl rfl rfl(.c rfl(.c rfl .n))ce58(zwa(ex:=0)(ey:=0)(ez:=0)(fx:=qd1)(fy:=qd2)(fz:=qd3)(hbex:=by omega)(hbey:=by omega)(hbez:=by omega)(hbfx:=by omega)(hbfy:=by omega)(hbfz:=by omega))(.n) ?_
      rintro ⟨u23_1,u23_2,u23_3⟩ -
      dsimp only [List.append_eq,List.nil_append,List.cons_append]
      exact zp(hD4(u7_1,u7_2,u7_3,u15_1,u15_2,u15_3,u23_1,u23_2,u23_3,u24_1,u25_1))(by kernel_rfl)((.of rfl):SubM _ _) .rfl .rfl((.of [0,1,2,3,4,5,6,7,8,9,10,11,12]rfl):SelR _ _ _)
     ·
      refine zO rfl rfl rfl rfl(zn zr89 rfl)(fun u26_1 _=> ?_)
      exact zp(hD7(u7_1,u7_2,u7_3,u15_1,u15_2,u15_3,u24_1,u25_1,u26_1))(by kernel_rfl)((.of rfl):SubM _ _) .rfl .rfl((.of [0,1,2,3,4,5,6,7,8,9]rfl):SelR _ _ _)
    refine zL(X:=Wd×Wd×Wd×Wd×Wd×Wd×Nat×Nat)(k':=5)(L':=(lb 30 92274687))(fun(u7_1,u7_2,u7_3,u15_1,u15_2,u15_3,u24_1,u26_1)=>([(11,.pointer(some⟨u26_1,0,none⟩)),(9,.pointer(some⟨u24_1,0,none⟩)),(47,.agg(cw [u15_1,u15_2,u15_3]).toArray),(39,.agg(cw [u7_1,u7_2,u7_3]).toArray),(54,.agg#[.int .i64 qd1,.int .i64 qd2,.int .i64 qd3]),(48,.agg#[.int .i64 0,.int .i64 0,.int .i64 0]),(27,.int .i64((i:Nat):Int)),(26,.int .i64((nf:Nat):Int)),(25,.slice pf nf cf),(5,.pointer(some⟨b5,0,none⟩)),(3,.int .i64 0),(2,.pointer(some⟨b2,0,none⟩)),(1,.pointer(some⟨b1,0,none⟩))],[boxA u26_1 89 [.bool false,.slice none 0 0,.bool false,.slice none 0 0,.bool false,.slice none 0 0],boxA u24_1 89 [.bool false,.slice none 0 0,.bool false,.slice none 0 0,.bool false,.slice none 0 0]],[boxA b11 42 [.int .i64 0,.int .i64 0,.int .i64 0],boxA b10 44 [.int .i64((F.getD i(0,0,0)).1),.int .i64((F.getD i(0,0,0)).2.1),.int .i64((F.getD i(0,0,0)).2.2)],boxA b5 34 [ws.b,ws.l],mapA b23(fun z:Int=> .int .i64 z)(fun z:Int=> .int .i64 z)(InK .i64)bm1,boxA b2 34 [.bool false,.slice none 0 0],boxA b1 25 [.slice pv nv cv,.slice pf nf cf]],[zF u15_1(qd4 - 0),zF u15_2(qd5 - 0),zF u15_3(qd6 - 0),zF u7_1(qd7 - 0),zF u7_2(qd8 - 0),zF u7_3(qd9 - 0),zF ws s,zF w34(0:Int),slF(rI3 .i64)pv cv V,slF(rI3 .i64)pf cf F])) ?_(fun hD12=> ?_)
    ·
     rintro ⟨u7_1,u7_2,u7_3,u15_1,u15_2,u15_3,u24_1,u26_1⟩
     dsimp only [cw]
     refine zMa 23 25(by kernel_rfl) ?_ ?_
     ·
      refine zu rfl rfl rfl rfl(.c rfl(.c rfl .n))ce58(zwa(ex:=0)(ey:=0)(ez:=0)(fx:=qd1)(fy:=qd2)(fz:=qd3)(hbex:=by omega)(hbey:=by omega)(hbez:=by omega)(hbfx:=by omega)(hbfy:=by omega)(hbfz:=by omega))(.n) ?_
      rintro ⟨u23_1,u23_2,u23_3⟩ -
      dsimp only [List.append_eq,List.nil_append,List.cons_append]
      exact zp(hD5(u7_1,u7_2,u7_3,u15_1,u15_2,u15_3,u23_1,u23_2,u23_3,u24_1,u26_1))(by kernel_rfl)((.of rfl):SubM _ _) .rfl .rfl((.of [0,1,2,3,4,5,6,7,8,9,10,11,12]rfl):SelR _ _ _)
     ·
      refine zO rfl rfl rfl rfl(zn zr89 rfl)(fun u25_1 _=> ?_)
      exact zp(hD7(u7_1,u7_2,u7_3,u15_1,u15_2,u15_3,u24_1,u25_1,u26_1))(by kernel_rfl)((.of rfl):SubM _ _)(zR 1 rfl(zR 0 rfl(zR 0 rfl .nil))) .rfl((.of [0,1,2,3,4,5,6,7,8,9]rfl):SelR _ _ _)
    refine zL(X:=Wd×Wd×Wd×Wd×Wd×Wd×Nat×Nat)(k':=5)(L':=(lb 30 109051903))(fun(u7_1,u7_2,u7_3,u15_1,u15_2,u15_3,u25_1,u26_1)=>([(11,.pointer(some⟨u26_1,0,none⟩)),(10,.pointer(some⟨u25_1,0,none⟩)),(47,.agg(cw [u15_1,u15_2,u15_3]).toArray),(39,.agg(cw [u7_1,u7_2,u7_3]).toArray),(54,.agg#[.int .i64 qd1,.int .i64 qd2,.int .i64 qd3]),(48,.agg#[.int .i64 0,.int .i64 0,.int .i64 0]),(27,.int .i64((i:Nat):Int)),(26,.int .i64((nf:Nat):Int)),(25,.slice pf nf cf),(5,.pointer(some⟨b5,0,none⟩)),(3,.int .i64 0),(2,.pointer(some⟨b2,0,none⟩)),(1,.pointer(some⟨b1,0,none⟩))],[boxA u26_1 89 [.bool false,.slice none 0 0,.bool false,.slice none 0 0,.bool false,.slice none 0 0],boxA u25_1 89 [.bool false,.slice none 0 0,.bool false,.slice none 0 0,.bool false,.slice none 0 0]],[boxA b11 42 [.int .i64 0,.int .i64 0,.int .i64 0],boxA b10 44 [.int .i64((F.getD i(0,0,0)).1),.int .i64((F.getD i(0,0,0)).2.1),.int .i64((F.getD i(0,0,0)).2.2)],boxA b5 34 [ws.b,ws.l],mapA b23(fun z:Int=> .int .i64 z)(fun z:Int=> .int .i64 z)(InK .i64)bm1,boxA b2 34 [.bool false,.slice none 0 0],boxA b1 25 [.slice pv nv cv,.slice pf nf cf]],[zF u15_1(qd4 - 0),zF u15_2(qd5 - 0),zF u15_3(qd6 - 0),zF u7_1(qd7 - 0),zF u7_2(qd8 - 0),zF u7_3(qd9 - 0),zF ws s,zF w34(0:Int),slF(rI3 .i64)pv cv V,slF(rI3 .i64)pf cf F])) ?_(fun hD13=> ?_)
    ·
     rintro ⟨u7_1,u7_2,u7_3,u15_1,u15_2,u15_3,u25_1,u26_1⟩
     dsimp only [cw]
     refine zMa 23 24(by kernel_rfl) ?_ ?_
     ·
      refine zu rfl rfl rfl rfl(.c rfl(.c rfl .n))ce58(zwa(ex:=0)(ey:=0)(ez:=0)(fx:=qd1)(fy:=qd2)(fz:=qd3)(hbex:=by omega)(hbey:=by omega)(hbez:=by omega)(hbfx:=by omega)(hbfy:=by omega)(hbfz:=by omega))(.n) ?_
      rintro ⟨u23_1,u23_2,u23_3⟩ -
      dsimp only [List.append_eq,List.nil_append,List.cons_append]
      exact zp(hD6(u7_1,u7_2,u7_3,u15_1,u15_2,u15_3,u23_1,u23_2,u23_3,u25_1,u26_1))(by kernel_rfl)((.of rfl):SubM _ _) .rfl .rfl((.of [0,1,2,3,4,5,6,7,8,9,10,11,12]rfl):SelR _ _ _)
     ·
      refine zO rfl rfl rfl rfl(zn zr89 rfl)(fun u24_1 _=> ?_)
      exact zp(hD7(u7_1,u7_2,u7_3,u15_1,u15_2,u15_3,u24_1,u25_1,u26_1))(by kernel_rfl)((.of rfl):SubM _ _)(zR 1 rfl(zR 1 rfl(zR 0 rfl .nil))) .rfl((.of [0,1,2,3,4,5,6,7,8,9]rfl):SelR _ _ _)
    refine zL(X:=Wd×Wd×Wd×Nat×Nat×Nat)(k':=5)(L':=(lb 30 125796351))(fun(u7_1,u7_2,u7_3,u24_1,u25_1,u26_1)=>([(11,.pointer(some⟨u26_1,0,none⟩)),(10,.pointer(some⟨u25_1,0,none⟩)),(9,.pointer(some⟨u24_1,0,none⟩)),(39,.agg(cw [u7_1,u7_2,u7_3]).toArray),(54,.agg#[.int .i64 qd1,.int .i64 qd2,.int .i64 qd3]),(48,.agg#[.int .i64 0,.int .i64 0,.int .i64 0]),(46,.agg#[.int .i64 qd4,.int .i64 qd5,.int .i64 qd6]),(40,.agg#[.int .i64 0,.int .i64 0,.int .i64 0]),(27,.int .i64((i:Nat):Int)),(26,.int .i64((nf:Nat):Int)),(25,.slice pf nf cf),(5,.pointer(some⟨b5,0,none⟩)),(3,.int .i64 0),(2,.pointer(some⟨b2,0,none⟩)),(1,.pointer(some⟨b1,0,none⟩))],[boxA u26_1 89 [.bool false,.slice none 0 0,.bool false,.slice none 0 0,.bool false,.slice none 0 0],boxA u25_1 89 [.bool false,.slice none 0 0,.bool false,.slice none 0 0,.bool false,.slice none 0 0],boxA u24_1 89 [.bool false,.slice none 0 0,.bool false,.slice none 0 0,.bool false,.slice none 0 0]],[boxA b11 42 [.int .i64 0,.int .i64 0,.int .i64 0],boxA b10 44 [.int .i64((F.getD i(0,0,0)).1),.int .i64((F.getD i(0,0,0)).2.1),.int .i64((F.getD i(0,0,0)).2.2)],boxA b5 34 [ws.b,ws.l],mapA b23(fun z:Int=> .int .i64 z)(fun z:Int=> .int .i64 z)(InK .i64)bm1,boxA b2 34 [.bool false,.slice none 0 0],boxA b1 25 [.slice pv nv cv,.slice pf nf cf]],[zF u7_1(qd7 - 0),zF u7_2(qd8 - 0),zF u7_3(qd9 - 0),zF ws s,zF w34(0:Int),slF(rI3 .i64)pv cv V,slF(rI3 .i64)pf cf F])) ?_(fun hD14=> ?_)
    ·
     rintro ⟨u7_1,u7_2,u7_3,u24_1,u25_1,u26_1⟩
     dsimp only [cw]
     refine zE 15(by kernel_rfl) ?_
     ·
      refine zu rfl rfl rfl rfl(.c rfl(.c rfl .n))ce58(zwa(ex:=0)(ey:=0)(ez:=0)(fx:=qd4)(fy:=qd5)(fz:=qd6)(hbex:=by omega)(hbey:=by omega)(hbez:=by omega)(hbfx:=by omega)(hbfy:=by omega)(hbfz:=by omega))(.n) ?_
      rintro ⟨u15_1,u15_2,u15_3⟩ -
      dsimp only [List.append_eq,List.nil_append,List.cons_append]
      exact zp(hD7(u7_1,u7_2,u7_3,u15_1,u15_2,u15_3,u24_1,u25_1,u26_1))(by kernel_rfl)((.of rfl):SubM _ _) .rfl .rfl((.of [0,1,2,3,4,5,6,7,8,9]rfl):SelR _ _ _)
    refine zL(X:=Wd×Wd×Wd×Wd×Wd×Wd×Wd×Wd×Wd)(k':=6)(L':=(lb 30 16777215))(fun(u7_1,u7_2,u7_3,u15_1,u15_2,u15_3,u23_1,u23_2,u23_3)=>([(55,.agg(cw [u23_1,u23_2,u23_3]).toArray),(47,.agg(cw [u15_1,u15_2,u15_3]).toArray),(39,.agg(cw [u7_1,u7_2,u7_3]).toArray),(27,.int .i64((i:Nat):Int)),(26,.int .i64((nf:Nat):Int)),(25,.slice pf nf cf),(5,.pointer(some⟨b5,0,none⟩)),(3,.int .i64 0),(2,.pointer(some⟨b2,0,none⟩)),(1,.pointer(some⟨b1,0,none⟩))],[],[boxA b11 42 [.int .i64 0,.int .i64 0,.int .i64 0],boxA b10 44 [.int .i64((F.getD i(0,0,0)).1),.int .i64((F.getD i(0,0,0)).2.1),.int .i64((F.getD i(0,0,0)).2.2)],boxA b5 34 [ws.b,ws.l],mapA b23(fun z:Int=> .int .i64 z)(fun z:Int=> .int .i64 z)(InK .i64)bm1,boxA b2 34 [.bool false,.slice none 0 0],boxA b1 25 [.slice pv nv cv,.slice pf nf cf]],[zF u23_1(qd1 - 0),zF u23_2(qd2 - 0),zF u23_3(qd3 - 0),zF u15_1(qd4 - 0),zF u15_2(qd5 - 0),zF u15_3(qd6 - 0),zF u7_1(qd7 - 0),zF u7_2(qd8 - 0),zF u7_3(qd9 - 0),zF ws s,zF w34(0:Int),slF(rI3 .i64)pv cv V,slF(rI3 .i64)pf cf F])) ?_(fun hD15=> ?_)
    ·
     rintro ⟨u7_1,u7_2,u7_3,u15_1,u15_2,u15_3,u23_1,u23_2,u23_3⟩
     dsimp only [cw]
     refine zPa 24 25 26(by kernel_rfl) ?_ ?_ ?_
     ·
      refine zO rfl rfl rfl rfl(zn zr89 rfl)(fun u24_1 _=> ?_)
      exact zp(hD8(u7_1,u7_2,u7_3,u15_1,u15_2,u15_3,u23_1,u23_2,u23_3,u24_1))(by kernel_rfl)((.of rfl):SubM _ _) .rfl .rfl((.of [0,1,2,3,4,5,6,7,8,9,10,11,12]rfl):SelR _ _ _)
     ·
      refine zO rfl rfl rfl rfl(zn zr89 rfl)(fun u25_1 _=> ?_)
      exact zp(hD9(u7_1,u7_2,u7_3,u15_1,u15_2,u15_3,u23_1,u23_2,u23_3,u25_1))(by kernel_rfl)((.of rfl):SubM _ _) .rfl .rfl((.of [0,1,2,3,4,5,6,7,8,9,10,11,12]rfl):SelR _ _ _)
     ·
      refine zO rfl rfl rfl rfl(zn zr89 rfl)(fun u26_1 _=> ?_)
      exact zp(hD10(u7_1,u7_2,u7_3,u15_1,u15_2,u15_3,u23_1,u23_2,u23_3,u26_1))(by kernel_rfl)((.of rfl):SubM _ _) .rfl .rfl((.of [0,1,2,3,4,5,6,7,8,9,10,11,12]rfl):SelR _ _ _)
    refine zL(X:=Wd×Wd×Wd×Wd×Wd×Wd×Nat)(k':=6)(L':=(lb 30 25165823))(fun(u7_1,u7_2,u7_3,u15_1,u15_2,u15_3,u24_1)=>([(9,.pointer(some⟨u24_1,0,none⟩)),(47,.agg(cw [u15_1,u15_2,u15_3]).toArray),(39,.agg(cw [u7_1,u7_2,u7_3]).toArray),(54,.agg#[.int .i64 qd1,.int .i64 qd2,.int .i64 qd3]),(48,.agg#[.int .i64 0,.int .i64 0,.int .i64 0]),(27,.int .i64((i:Nat):Int)),(26,.int .i64((nf:Nat):Int)),(25,.slice pf nf cf),(5,.pointer(some⟨b5,0,none⟩)),(3,.int .i64 0),(2,.pointer(some⟨b2,0,none⟩)),(1,.pointer(some⟨b1,0,none⟩))],[boxA u24_1 89 [.bool false,.slice none 0 0,.bool false,.slice none 0 0,.bool false,.slice none 0 0]],[boxA b11 42 [.int .i64 0,.int .i64 0,.int .i64 0],boxA b10 44 [.int .i64((F.getD i(0,0,0)).1),.int .i64((F.getD i(0,0,0)).2.1),.int .i64((F.getD i(0,0,0)).2.2)],boxA b5 34 [ws.b,ws.l],mapA b23(fun z:Int=> .int .i64 z)(fun z:Int=> .int .i64 z)(InK .i64)bm1,boxA b2 34 [.bool false,.slice none 0 0],boxA b1 25 [.slice pv nv cv,.slice pf nf cf]],[zF u15_1(qd4 - 0),zF u15_2(qd5 - 0),zF u15_3(qd6 - 0),zF u7_1(qd7 - 0),zF u7_2(qd8 - 0),zF u7_3(qd9 - 0),zF ws s,zF w34(0:Int),slF(rI3 .i64)pv cv V,slF(rI3 .i64)pf cf F])) ?_(fun hD16=> ?_)
    ·
     rintro ⟨u7_1,u7_2,u7_3,u15_1,u15_2,u15_3,u24_1⟩
     dsimp only [cw]
     refine zPa 23 25 26(by kernel_rfl) ?_ ?_ ?_
     ·
      refine zu rfl rfl rfl rfl(.c rfl(.c rfl .n))ce58(zwa(ex:=0)(ey:=0)(ez:=0)(fx:=qd1)(fy:=qd2)(fz:=qd3)(hbex:=by omega)(hbey:=by omega)(hbez:=by omega)(hbfx:=by omega)(hbfy:=by omega)(hbfz:=by omega))(.n) ?_
      rintro ⟨u23_1,u23_2,u23_3⟩ -
      dsimp only [List.append_eq,List.nil_append,List.cons_append]
      exact zp(hD8(u7_1,u7_2,u7_3,u15_1,u15_2,u15_3,u23_1,u23_2,u23_3,u24_1))(by kernel_rfl)((.of rfl):SubM _ _) .rfl .rfl((.of [0,1,2,3,4,5,6,7,8,9,10,11,12]rfl):SelR _ _ _)
     ·
      refine zO rfl rfl rfl rfl(zn zr89 rfl)(fun u25_1 _=> ?_)
      exact zp(hD11(u7_1,u7_2,u7_3,u15_1,u15_2,u15_3,u24_1,u25_1))(by kernel_rfl)((.of rfl):SubM _ _) .rfl .rfl((.of [0,1,2,3,4,5,6,7,8,9]rfl):SelR _ _ _)
     ·
      refine zO rfl rfl rfl rfl(zn zr89 rfl)(fun u26_1 _=> ?_)
      exact zp(hD12(u7_1,u7_2,u7_3,u15_1,u15_2,u15_3,u24_1,u26_1))(by kernel_rfl)((.of rfl):SubM _ _) .rfl .rfl((.of [0,1,2,3,4,5,6,7,8,9]rfl):SelR _ _ _)
    refine zL(X:=Wd×Wd×Wd×Wd×Wd×Wd×Nat)(k':=6)(L':=(lb 30 41943039))(fun(u7_1,u7_2,u7_3,u15_1,u15_2,u15_3,u25_1)=>([(10,.pointer(some⟨u25_1,0,none⟩)),(47,.agg(cw [u15_1,u15_2,u15_3]).toArray),(39,.agg(cw [u7_1,u7_2,u7_3]).toArray),(54,.agg#[.int .i64 qd1,.int .i64 qd2,.int .i64 qd3]),(48,.agg#[.int .i64 0,.int .i64 0,.int .i64 0]),(27,.int .i64((i:Nat):Int)),(26,.int .i64((nf:Nat):Int)),(25,.slice pf nf cf),(5,.pointer(some⟨b5,0,none⟩)),(3,.int .i64 0),(2,.pointer(some⟨b2,0,none⟩)),(1,.pointer(some⟨b1,0,none⟩))],[boxA u25_1 89 [.bool false,.slice none 0 0,.bool false,.slice none 0 0,.bool false,.slice none 0 0]],[boxA b11 42 [.int .i64 0,.int .i64 0,.int .i64 0],boxA b10 44 [.int .i64((F.getD i(0,0,0)).1),.int .i64((F.getD i(0,0,0)).2.1),.int .i64((F.getD i(0,0,0)).2.2)],boxA b5 34 [ws.b,ws.l],mapA b23(fun z:Int=> .int .i64 z)(fun z:Int=> .int .i64 z)(InK .i64)bm1,boxA b2 34 [.bool false,.slice none 0 0],boxA b1 25 [.slice pv nv cv,.slice pf nf cf]],[zF u15_1(qd4 - 0),zF u15_2(qd5 - 0),zF u15_3(qd6 - 0),zF u7_1(qd7 - 0),zF u7_2(qd8 - 0),zF u7_3(qd9 - 0),zF ws s,zF w34(0:Int),slF(rI3 .i64)pv cv V,slF(rI3 .i64)pf cf F])) ?_(fun hD17=> ?_)
    ·
     rintro ⟨u7_1,u7_2,u7_3,u15_1,u15_2,u15_3,u25_1⟩
     dsimp only [cw]
     refine zPa 23 24 26(by kernel_rfl) ?_ ?_ ?_
     ·
      refine zu rfl rfl rfl rfl(.c rfl(.c rfl .n))ce58(zwa(ex:=0)(ey:=0)(ez:=0)(fx:=qd1)(fy:=qd2)(fz:=qd3)(hbex:=by omega)(hbey:=by omega)(hbez:=by omega)(hbfx:=by omega)(hbfy:=by omega)(hbfz:=by omega))(.n) ?_
      rintro ⟨u23_1,u23_2,u23_3⟩ -
      dsimp only [List.append_eq,List.nil_append,List.cons_append]
      exact zp(hD9(u7_1,u7_2,u7_3,u15_1,u15_2,u15_3,u23_1,u23_2,u23_3,u25_1))(by kernel_rfl)((.of rfl):SubM _ _) .rfl .rfl((.of [0,1,2,3,4,5,6,7,8,9,10,11,12]rfl):SelR _ _ _)
     ·
      refine zO rfl rfl rfl rfl(zn zr89 rfl)(fun u24_1 _=> ?_)
      exact zp(hD11(u7_1,u7_2,u7_3,u15_1,u15_2,u15_3,u24_1,u25_1))(by kernel_rfl)((.of rfl):SubM _ _)(zR 1 rfl(zR 0 rfl .nil)) .rfl((.of [0,1,2,3,4,5,6,7,8,9]rfl):SelR _ _ _)
     ·
      refine zO rfl rfl rfl rfl(zn zr89 rfl)(fun u26_1 _=> ?_)
      exact zp(hD13(u7_1,u7_2,u7_3,u15_1,u15_2,u15_3,u25_1,u26_1))(by kernel_rfl)((.of rfl):SubM _ _) .rfl .rfl((.of [0,1,2,3,4,5,6,7,8,9]rfl):SelR _ _ _)
    refine zL(X:=Wd×Wd×Wd×Wd×Wd×Wd×Nat)(k':=6)(L':=(lb 30 75497471))(fun(u7_1,u7_2,u7_3,u15_1,u15_2,u15_3,u26_1)=>([(11,.pointer(some⟨u26_1,0,none⟩)),(47,.agg(cw [u15_1,u15_2,u15_3]).toArray),(39,.agg(cw [u7_1,u7_2,u7_3]).toArray),(54,.agg#[.int .i64 qd1,.int .i64 qd2,.int .i64 qd3]),(48,.agg#[.int .i64 0,.int .i64 0,.int .i64 0]),(27,.int .i64((i:Nat):Int)),(26,.int .i64((nf:Nat):Int)),(25,.slice pf nf cf),(5,.pointer(some⟨b5,0,none⟩)),(3,.int .i64 0),(2,.pointer(some⟨b2,0,none⟩)),(1,.pointer(some⟨b1,0,none⟩))],[boxA u26_1 89 [.bool false,.slice none 0 0,.bool false,.slice none 0 0,.bool false,.slice none 0 0]],[boxA b11 42 [.int .i64 0,.int .i64 0,.int .i64 0],boxA b10 44 [.int .i64((F.getD i(0,0,0)).1),.int .i64((F.getD i(0,0,0)).2.1),.int .i64((F.getD i(0,0,0)).2.2)],boxA b5 34 [ws.b,ws.l],mapA b23(fun z:Int=> .int .i64 z)(fun z:Int=> .int .i64 z)(InK .i64)bm1,boxA b2 34 [.bool false,.slice none 0 0],boxA b1 25 [.slice pv nv cv,.slice pf nf cf]],[zF u15_1(qd4 - 0),zF u15_2(qd5 - 0),zF u15_3(qd6 - 0),zF u7_1(qd7 - 0),zF u7_2(qd8 - 0),zF u7_3(qd9 - 0),zF ws s,zF w34(0:Int),slF(rI3 .i64)pv cv V,slF(rI3 .i64)pf cf F])) ?_(fun hD18=> ?_)
    ·
     rintro ⟨u7_1,u7_2,u7_3,u15_1,u15_2,u15_3,u26_1⟩
     dsimp only [cw]
     refine zPa 23 24 25(by kernel_rfl) ?_ ?_ ?_
     ·
      refine zu rfl rfl rfl rfl(.c rfl(.c rfl .n))ce58(zwa(ex:=0)(ey:=0)(ez:=0)(fx:=qd1)(fy:=qd2)(fz:=qd3)(hbex:=by omega)(hbey:=by omega)(hbez:=by omega)(hbfx:=by omega)(hbfy:=by omega)(hbfz:=by omega))(.n) ?_
      rintro ⟨u23_1,u23_2,u23_3⟩ -
      dsimp only [List.append_eq,List.nil_append,List.cons_append]
      exact zp(hD10(u7_1,u7_2,u7_3,u15_1,u15_2,u15_3,u23_1,u23_2,u23_3,u26_1))(by kernel_rfl)((.of rfl):SubM _ _) .rfl .rfl((.of [0,1,2,3,4,5,6,7,8,9,10,11,12]rfl):SelR _ _ _)
     ·
      refine zO rfl rfl rfl rfl(zn zr89 rfl)(fun u24_1 _=> ?_)
      exact zp(hD12(u7_1,u7_2,u7_3,u15_1,u15_2,u15_3,u24_1,u26_1))(by kernel_rfl)((.of rfl):SubM _ _)(zR 1 rfl(zR 0 rfl .nil)) .rfl((.of [0,1,2,3,4,5,6,7,8,9]rfl):SelR _ _ _)
     ·
      refine zO rfl rfl rfl rfl(zn zr89 rfl)(fun u25_1 _=> ?_)
      exact zp(hD13(u7_1,u7_2,u7_3,u15_1,u15_2,u15_3,u25_1,u26_1))(by kernel_rfl)((.of rfl):SubM _ _)(zR 1 rfl(zR 0 rfl .nil)) .rfl((.of [0,1,2,3,4,5,6,7,8,9]rfl):SelR _ _ _)
    refine zL(X:=Wd×Wd×Wd×Nat×Nat)(k':=6)(L':=(lb 30 58687487))(fun(u7_1,u7_2,u7_3,u24_1,u25_1)=>([(10,.pointer(some⟨u25_1,0,none⟩)),(9,.pointer(some⟨u24_1,0,none⟩)),(39,.agg(cw [u7_1,u7_2,u7_3]).toArray),(54,.agg#[.int .i64 qd1,.int .i64 qd2,.int .i64 qd3]),(48,.agg#[.int .i64 0,.int .i64 0,.int .i64 0]),(46,.agg#[.int .i64 qd4,.int .i64 qd5,.int .i64 qd6]),(40,.agg#[.int .i64 0,.int .i64 0,.int .i64 0]),(27,.int .i64((i:Nat):Int)),(26,.int .i64((nf:Nat):Int)),(25,.slice pf nf cf),(5,.pointer(some⟨b5,0,none⟩)),(3,.int .i64 0),(2,.pointer(some⟨b2,0,none⟩)),(1,.pointer(some⟨b1,0,none⟩))],[boxA u25_1 89 [.bool false,.slice none 0 0,.bool false,.slice none 0 0,.bool false,.slice none 0 0],boxA u24_1 89 [.bool false,.slice none 0 0,.bool false,.slice none 0 0,.bool false,.slice none 0 0]],[boxA b11 42 [.int .i64 0,.int .i64 0,.int .i64 0],boxA b10 44 [.int .i64((F.getD i(0,0,0)).1),.int .i64((F.getD i(0,0,0)).2.1),.int .i64((F.getD i(0,0,0)).2.2)],boxA b5 34 [ws.b,ws.l],mapA b23(fun z:Int=> .int .i64 z)(fun z:Int=> .int .i64 z)(InK .i64)bm1,boxA b2 34 [.bool false,.slice none 0 0],boxA b1 25 [.slice pv nv cv,.slice pf nf cf]],[zF u7_1(qd7 - 0),zF u7_2(qd8 - 0),zF u7_3(qd9 - 0),zF ws s,zF w34(0:Int),slF(rI3 .i64)pv cv V,slF(rI3 .i64)pf cf F])) ?_(fun hD19=> ?_)
    ·
     rintro ⟨u7_1,u7_2,u7_3,u24_1,u25_1⟩
     dsimp only [cw]
     refine zMa 15 26(by kernel_rfl) ?_ ?_
     ·
      refine zu rfl rfl rfl rfl(.c rfl(.c rfl .n))ce58(zwa(ex:=0)(ey:=0)(ez:=0)(fx:=qd4)(fy:=qd5)(fz:=qd6)(hbex:=by omega)(hbey:=by omega)(hbez:=by omega)(hbfx:=by omega)(hbfy:=by omega)(hbfz:=by omega))(.n) ?_
      rintro ⟨u15_1,u15_2,u15_3⟩ -
      dsimp only [List.append_eq,List.nil_append,List.cons_append]
      exact zp(hD11(u7_1,u7_2,u7_3,u15_1,u15_2,u15_3,u24_1,u25_1))(by kernel_rfl)((.of rfl):SubM _ _) .rfl .rfl((.of [0,1,2,3,4,5,6,7,8,9]rfl):SelR _ _ _)
     ·
      refine zO rfl rfl rfl rfl(zn zr89 rfl)(fun u26_1 _=> ?_)
      exact zp(hD14(u7_1,u7_2,u7_3,u24_1,u25_1,u26_1))(by kernel_rfl)((.of rfl):SubM _ _) .rfl .rfl((.of [0,1,2,3,4,5,6]rfl):SelR _ _ _)
    refine zL(X:=Wd×Wd×Wd×Nat×Nat)(k':=6)(L':=(lb 30 92241919))(fun(u7_1,u7_2,u7_3,u24_1,u26_1)=>([(11,.pointer(some⟨u26_1,0,none⟩)),(9,.pointer(some⟨u24_1,0,none⟩)),(39,.agg(cw [u7_1,u7_2,u7_3]).toArray),(54,.agg#[.int .i64 qd1,.int .i64 qd2,.int .i64 qd3]),(48,.agg#[.int .i64 0,.int .i64 0,.int .i64 0]),(46,.agg#[.int .i64 qd4,.int .i64 qd5,.int .i64 qd6]),(40,.agg#[.int .i64 0,.int .i64 0,.int .i64 0]),(27,.int .i64((i:Nat):Int)),(26,.int .i64((nf:Nat):Int)),(25,.slice pf nf cf),(5,.pointer(some⟨b5,0,none⟩)),(3,.int .i64 0),(2,.pointer(some⟨b2,0,none⟩)),(1,.pointer(some⟨b1,0,none⟩))],[boxA u26_1 89 [.bool false,.slice none 0 0,.bool false,.slice none 0 0,.bool false,.slice none 0 0],boxA u24_1 89 [.bool false,.slice none 0 0,.bool false,.slice none 0 0,.bool false,.slice none 0 0]],[boxA b11 42 [.int .i64 0,.int .i64 0,.int .i64 0],boxA b10 44 [.int .i64((F.getD i(0,0,0)).1),.int .i64((F.getD i(0,0,0)).2.1),.int .i64((F.getD i(0,0,0)).2.2)],boxA b5 34 [ws.b,ws.l],mapA b23(fun z:Int=> .int .i64 z)(fun z:Int=> .int .i64 z)(InK .i64)bm1,boxA b2 34 [.bool false,.slice none 0 0],boxA b1 25 [.slice pv nv cv,.slice pf nf cf]],[zF u7_1(qd7 - 0),zF u7_2(qd8 - 0),zF u7_3(qd9 - 0),zF ws s,zF w34(0:Int),slF(rI3 .i64)pv cv V,slF(rI3 .i64)pf cf F])) ?_(fun hD20=> ?_)
    ·
     rintro ⟨u7_1,u7_2,u7_3,u24_1,u26_1⟩
     dsimp only [cw]
     refine zMa 15 25(by kernel_rfl) ?_ ?_
     ·
      refine zu rfl rfl rfl rfl(.c rfl(.c rfl .n))ce58(zwa(ex:=0)(ey:=0)(ez:=0)(fx:=qd4)(fy:=qd5)(fz:=qd6)(hbex:=by omega)(hbey:=by omega)(hbez:=by omega)(hbfx:=by omega)(hbfy:=by omega)(hbfz:=by omega))(.n) ?_
      rintro ⟨u15_1,u15_2,u15_3⟩ -
      dsimp only [List.append_eq,List.nil_append,List.cons_append]
      exact zp(hD12(u7_1,u7_2,u7_3,u15_1,u15_2,u15_3,u24_1,u26_1))(by kernel_rfl)((.of rfl):SubM _ _) .rfl .rfl((.of [0,1,2,3,4,5,6,7,8,9]rfl):SelR _ _ _)
     ·
      refine zO rfl rfl rfl rfl(zn zr89 rfl)(fun u25_1 _=> ?_)
      exact zp(hD14(u7_1,u7_2,u7_3,u24_1,u25_1,u26_1))(by kernel_rfl)((.of rfl):SubM _ _)(zR 1 rfl(zR 0 rfl(zR 0 rfl .nil))) .rfl((.of [0,1,2,3,4,5,6]rfl):SelR _ _ _)
    refine zL(X:=Wd×Wd×Wd×Nat×Nat)(k':=6)(L':=(lb 30 109019135))(fun(u7_1,u7_2,u7_3,u25_1,u26_1)=>([(11,.pointer(some⟨u26_1,0,none⟩)),(10,.pointer(some⟨u25_1,0,none⟩)),(39,.agg(cw [u7_1,u7_2,u7_3]).toArray),(54,.agg#[.int .i64 qd1,.int .i64 qd2,.int .i64 qd3]),(48,.agg#[.int .i64 0,.int .i64 0,.int .i64 0]),(46,.agg#[.int .i64 qd4,.int .i64 qd5,.int .i64 qd6]),(40,.agg#[.int .i64 0,.int .i64 0,.int .i64 0]),(27,.int .i64((i:Nat):Int)),(26,.int .i64((nf:Nat):Int)),(25,.slice pf nf cf),(5,.pointer(some⟨b5,0,none⟩)),(3,.int .i64 0),(2,.pointer(some⟨b2,0,none⟩)),(1,.pointer(some⟨b1,0,none⟩))],[boxA u26_1 89 [.bool false,.slice none 0 0,.bool false,.slice none 0 0,.bool false,.slice none 0 0],boxA u25_1 89 [.bool false,.slice none 0 0,.bool false,.slice none 0 0,.bool false,.slice none 0 0]],[boxA b11 42 [.int .i64 0,.int .i64 0,.int .i64 0],boxA b10 44 [.int .i64((F.getD i(0,0,0)).1),.int .i64((F.getD i(0,0,0)).2.1),.int .i64((F.getD i(0,0,0)).2.2)],boxA b5 34 [ws.b,ws.l],mapA b23(fun z:Int=> .int .i64 z)(fun z:Int=> .int .i64 z)(InK .i64)bm1,boxA b2 34 [.bool false,.slice none 0 0],boxA b1 25 [.slice pv nv cv,.slice pf nf cf]],[zF u7_1(qd7 - 0),zF u7_2(qd8 - 0),zF u7_3(qd9 - 0),zF ws s,zF w34(0:Int),slF(rI3 .i64)pv cv V,slF(rI3 .i64)pf cf F])) ?_(fun hD21=> ?_)
    ·
     rintro ⟨u7_1,u7_2,u7_3,u25_1,u26_1⟩
     dsimp only [cw]
     refine zMa 15 24(by kernel_rfl) ?_ ?_
     ·
      refine zu rfl rfl rfl rfl(.c rfl(.c rfl .n))ce58(zwa(ex:=0)(ey:=0)(ez:=0)(fx:=qd4)(fy:=qd5)(fz:=qd6)(hbex:=by omega)(hbey:=by omega)(hbez:=by omega)(hbfx:=by omega)(hbfy:=by omega)(hbfz:=by omega))(.n) ?_
      rintro ⟨u15_1,u15_2,u15_3⟩ -
      dsimp only [List.append_eq,List.nil_append,List.cons_append]
      exact zp(hD13(u7_1,u7_2,u7_3,u15_1,u15_2,u15_3,u25_1,u26_1))(by kernel_rfl)((.of rfl):SubM _ _) .rfl .rfl((.of [0,1,2,3,4,5,6,7,8,9]rfl):SelR _ _ _)
     ·
      refine zO rfl rfl rfl rfl(zn zr89 rfl)(fun u24_1 _=> ?_)
      exact zp(hD14(u7_1,u7_2,u7_3,u24_1,u25_1,u26_1))(by kernel_rfl)((.of rfl):SubM _ _)(zR 1 rfl(zR 1 rfl(zR 0 rfl .nil))) .rfl((.of [0,1,2,3,4,5,6]rfl):SelR _ _ _)
    refine zL(X:=Nat×Nat×Nat)(k':=6)(L':=(lb 30 125796223))(fun(u24_1,u25_1,u26_1)=>([(11,.pointer(some⟨u26_1,0,none⟩)),(10,.pointer(some⟨u25_1,0,none⟩)),(9,.pointer(some⟨u24_1,0,none⟩)),(54,.agg#[.int .i64 qd1,.int .i64 qd2,.int .i64 qd3]),(48,.agg#[.int .i64 0,.int .i64 0,.int .i64 0]),(46,.agg#[.int .i64 qd4,.int .i64 qd5,.int .i64 qd6]),(40,.agg#[.int .i64 0,.int .i64 0,.int .i64 0]),(38,.agg#[.int .i64 qd7,.int .i64 qd8,.int .i64 qd9]),(32,.agg#[.int .i64 0,.int .i64 0,.int .i64 0]),(27,.int .i64((i:Nat):Int)),(26,.int .i64((nf:Nat):Int)),(25,.slice pf nf cf),(5,.pointer(some⟨b5,0,none⟩)),(3,.int .i64 0),(2,.pointer(some⟨b2,0,none⟩)),(1,.pointer(some⟨b1,0,none⟩))],[boxA u26_1 89 [.bool false,.slice none 0 0,.bool false,.slice none 0 0,.bool false,.slice none 0 0],boxA u25_1 89 [.bool false,.slice none 0 0,.bool false,.slice none 0 0,.bool false,.slice none 0 0],boxA u24_1 89 [.bool false,.slice none 0 0,.bool false,.slice none 0 0,.bool false,.slice none 0 0]],[boxA b11 42 [.int .i64 0,.int .i64 0,.int .i64 0],boxA b10 44 [.int .i64((F.getD i(0,0,0)).1),.int .i64((F.getD i(0,0,0)).2.1),.int .i64((F.getD i(0,0,0)).2.2)],boxA b5 34 [ws.b,ws.l],mapA b23(fun z:Int=> .int .i64 z)(fun z:Int=> .int .i64 z)(InK .i64)bm1,boxA b2 34 [.bool false,.slice none 0 0],boxA b1 25 [.slice pv nv cv,.slice pf nf cf]],[zF ws s,zF w34(0:Int),slF(rI3 .i64)pv cv V,slF(rI3 .i64)pf cf F])) ?_(fun hD22=> ?_)
    ·
     rintro ⟨u24_1,u25_1,u26_1⟩
     dsimp only
     refine zE 7(by kernel_rfl) ?_
     ·
      refine zu rfl rfl rfl rfl(.c rfl(.c rfl .n))ce58(zwa(ex:=0)(ey:=0)(ez:=0)(fx:=qd7)(fy:=qd8)(fz:=qd9)(hbex:=by omega)(hbey:=by omega)(hbez:=by omega)(hbfx:=by omega)(hbfy:=by omega)(hbfz:=by omega))(.n) ?_
      rintro ⟨u7_1,u7_2,u7_3⟩ -
      dsimp only [List.append_eq,List.nil_append,List.cons_append]
      exact zp(hD14(u7_1,u7_2,u7_3,u24_1,u25_1,u26_1))(by kernel_rfl)((.of rfl):SubM _ _) .rfl .rfl((.of [0,1,2,3,4,5,6]rfl):SelR _ _ _)
    refine zL(X:=Wd×Wd×Wd×Wd×Wd×Wd)(k':=7)(L':=(lb 30 8388607))(fun(u7_1,u7_2,u7_3,u15_1,u15_2,u15_3)=>([(47,.agg(cw [u15_1,u15_2,u15_3]).toArray),(39,.agg(cw [u7_1,u7_2,u7_3]).toArray),(54,.agg#[.int .i64 qd1,.int .i64 qd2,.int .i64 qd3]),(48,.agg#[.int .i64 0,.int .i64 0,.int .i64 0]),(27,.int .i64((i:Nat):Int)),(26,.int .i64((nf:Nat):Int)),(25,.slice pf nf cf),(5,.pointer(some⟨b5,0,none⟩)),(3,.int .i64 0),(2,.pointer(some⟨b2,0,none⟩)),(1,.pointer(some⟨b1,0,none⟩))],[],[boxA b11 42 [.int .i64 0,.int .i64 0,.int .i64 0],boxA b10 44 [.int .i64((F.getD i(0,0,0)).1),.int .i64((F.getD i(0,0,0)).2.1),.int .i64((F.getD i(0,0,0)).2.2)],boxA b5 34 [ws.b,ws.l],mapA b23(fun z:Int=> .int .i64 z)(fun z:Int=> .int .i64 z)(InK .i64)bm1,boxA b2 34 [.bool false,.slice none 0 0],boxA b1 25 [.slice pv nv cv,.slice pf nf cf]],[zF u15_1(qd4 - 0),zF u15_2(qd5 - 0),zF u15_3(qd6 - 0),zF u7_1(qd7 - 0),zF u7_2(qd8 - 0),zF u7_3(qd9 - 0),zF ws s,zF w34(0:Int),slF(rI3 .i64)pv cv V,slF(rI3 .i64)pf cf F])) ?_(fun hD23=> ?_)
    ·
     rintro ⟨u7_1,u7_2,u7_3,u15_1,u15_2,u15_3⟩
     dsimp only [cw]
     refine zMc 23 24 25 26(by kernel_rfl) ?_ ?_ ?_ ?_
     ·
      refine zu rfl rfl rfl rfl(.c rfl(.c rfl .n))ce58(zwa(ex:=0)(ey:=0)(ez:=0)(fx:=qd1)(fy:=qd2)(fz:=qd3)(hbex:=by omega)(hbey:=by omega)(hbez:=by omega)(hbfx:=by omega)(hbfy:=by omega)(hbfz:=by omega))(.n) ?_
      rintro ⟨u23_1,u23_2,u23_3⟩ -
      dsimp only [List.append_eq,List.nil_append,List.cons_append]
      exact zp(hD15(u7_1,u7_2,u7_3,u15_1,u15_2,u15_3,u23_1,u23_2,u23_3))(by kernel_rfl)((.of rfl):SubM _ _) .rfl .rfl((.of [0,1,2,3,4,5,6,7,8,9,10,11,12]rfl):SelR _ _ _)
     ·
      refine zO rfl rfl rfl rfl(zn zr89 rfl)(fun u24_1 _=> ?_)
      exact zp(hD16(u7_1,u7_2,u7_3,u15_1,u15_2,u15_3,u24_1))(by kernel_rfl)((.of rfl):SubM _ _) .rfl .rfl((.of [0,1,2,3,4,5,6,7,8,9]rfl):SelR _ _ _)
     ·
      refine zO rfl rfl rfl rfl(zn zr89 rfl)(fun u25_1 _=> ?_)
      exact zp(hD17(u7_1,u7_2,u7_3,u15_1,u15_2,u15_3,u25_1))(by kernel_rfl)((.of rfl):SubM _ _) .rfl .rfl((.of [0,1,2,3,4,5,6,7,8,9]rfl):SelR _ _ _)
     ·
      refine zO rfl rfl rfl rfl(zn zr89 rfl)(fun u26_1 _=> ?_)
      exact zp(hD18(u7_1,u7_2,u7_3,u15_1,u15_2,u15_3,u26_1))(by kernel_rfl)((.of rfl):SubM _ _) .rfl .rfl((.of [0,1,2,3,4,5,6,7,8,9]rfl):SelR _ _ _)
    refine zL(X:=Wd×Wd×Wd×Nat)(k':=7)(L':=(lb 30 25133055))(fun(u7_1,u7_2,u7_3,u24_1)=>([(9,.pointer(some⟨u24_1,0,none⟩)),(39,.agg(cw [u7_1,u7_2,u7_3]).toArray),(54,.agg#[.int .i64 qd1,.int .i64 qd2,.int .i64 qd3]),(48,.agg#[.int .i64 0,.int .i64 0,.int .i64 0]),(46,.agg#[.int .i64 qd4,.int .i64 qd5,.int .i64 qd6]),(40,.agg#[.int .i64 0,.int .i64 0,.int .i64 0]),(27,.int .i64((i:Nat):Int)),(26,.int .i64((nf:Nat):Int)),(25,.slice pf nf cf),(5,.pointer(some⟨b5,0,none⟩)),(3,.int .i64 0),(2,.pointer(some⟨b2,0,none⟩)),(1,.pointer(some⟨b1,0,none⟩))],[boxA u24_1 89 [.bool false,.slice none 0 0,.bool false,.slice none 0 0,.bool false,.slice none 0 0]],[boxA b11 42 [.int .i64 0,.int .i64 0,.int .i64 0],boxA b10 44 [.int .i64((F.getD i(0,0,0)).1),.int .i64((F.getD i(0,0,0)).2.1),.int .i64((F.getD i(0,0,0)).2.2)],boxA b5 34 [ws.b,ws.l],mapA b23(fun z:Int=> .int .i64 z)(fun z:Int=> .int .i64 z)(InK .i64)bm1,boxA b2 34 [.bool false,.slice none 0 0],boxA b1 25 [.slice pv nv cv,.slice pf nf cf]],[zF u7_1(qd7 - 0),zF u7_2(qd8 - 0),zF u7_3(qd9 - 0),zF ws s,zF w34(0:Int),slF(rI3 .i64)pv cv V,slF(rI3 .i64)pf cf F])) ?_(fun hD24=> ?_)
    ·
     rintro ⟨u7_1,u7_2,u7_3,u24_1⟩
     dsimp only [cw]
     refine zPa 15 25 26(by kernel_rfl) ?_ ?_ ?_
     ·
      refine zu rfl rfl rfl rfl(.c rfl(.c rfl .n))ce58(zwa(ex:=0)(ey:=0)(ez:=0)(fx:=qd4)(fy:=qd5)(fz:=qd6)(hbex:=by omega)(hbey:=by omega)(hbez:=by omega)(hbfx:=by omega)(hbfy:=by omega)(hbfz:=by omega))(.n) ?_
      rintro ⟨u15_1,u15_2,u15_3⟩ -
      dsimp only [List.append_eq,List.nil_append,List.cons_append]
      exact zp(hD16(u7_1,u7_2,u7_3,u15_1,u15_2,u15_3,u24_1))(by kernel_rfl)((.of rfl):SubM _ _) .rfl .rfl((.of [0,1,2,3,4,5,6,7,8,9]rfl):SelR _ _ _)
     ·
      refine zO rfl rfl rfl rfl(zn zr89 rfl)(fun u25_1 _=> ?_)
      exact zp(hD19(u7_1,u7_2,u7_3,u24_1,u25_1))(by kernel_rfl)((.of rfl):SubM _ _) .rfl .rfl((.of [0,1,2,3,4,5,6]rfl):SelR _ _ _)
     ·
      refine zO rfl rfl rfl rfl(zn zr89 rfl)(fun u26_1 _=> ?_)
      exact zp(hD20(u7_1,u7_2,u7_3,u24_1,u26_1))(by kernel_rfl)((.of rfl):SubM _ _) .rfl .rfl((.of [0,1,2,3,4,5,6]rfl):SelR _ _ _)
    refine zL(X:=Wd×Wd×Wd×Nat)(k':=7)(L':=(lb 30 41910271))(fun(u7_1,u7_2,u7_3,u25_1)=>([(10,.pointer(some⟨u25_1,0,none⟩)),(39,.agg(cw [u7_1,u7_2,u7_3]).toArray),(54,.agg#[.int .i64 qd1,.int .i64 qd2,.int .i64 qd3]),(48,.agg#[.int .i64 0,.int .i64 0,.int .i64 0]),(46,.agg#[.int .i64 qd4,.int .i64 qd5,.int .i64 qd6]),(40,.agg#[.int .i64 0,.int .i64 0,.int .i64 0]),(27,.int .i64((i:Nat):Int)),(26,.int .i64((nf:Nat):Int)),(25,.slice pf nf cf),(5,.pointer(some⟨b5,0,none⟩)),(3,.int .i64 0),(2,.pointer(some⟨b2,0,none⟩)),(1,.pointer(some⟨b1,0,none⟩))],[boxA u25_1 89 [.bool false,.slice none 0 0,.bool false,.slice none 0 0,.bool false,.slice none 0 0]],[boxA b11 42 [.int .i64 0,.int .i64 0,.int .i64 0],boxA b10 44 [.int .i64((F.getD i(0,0,0)).1),.int .i64((F.getD i(0,0,0)).2.1),.int .i64((F.getD i(0,0,0)).2.2)],boxA b5 34 [ws.b,ws.l],mapA b23(fun z:Int=> .int .i64 z)(fun z:Int=> .int .i64 z)(InK .i64)bm1,boxA b2 34 [.bool false,.slice none 0 0],boxA b1 25 [.slice pv nv cv,.slice pf nf cf]],[zF u7_1(qd7 - 0),zF u7_2(qd8 - 0),zF u7_3(qd9 - 0),zF ws s,zF w34(0:Int),slF(rI3 .i64)pv cv V,slF(rI3 .i64)pf cf F])) ?_(fun hD25=> ?_)
    ·
     rintro ⟨u7_1,u7_2,u7_3,u25_1⟩
     dsimp only [cw]
     refine zPa 15 24 26(by kernel_rfl) ?_ ?_ ?_
     ·
      refine zu rfl rfl rfl rfl(.c rfl(.c rfl .n))ce58(zwa(ex:=0)(ey:=0)(ez:=0)(fx:=qd4)(fy:=qd5)(fz:=qd6)(hbex:=by omega)(hbey:=by omega)(hbez:=by omega)(hbfx:=by omega)(hbfy:=by omega)(hbfz:=by omega))(.n) ?_
      rintro ⟨u15_1,u15_2,u15_3⟩ -
      dsimp only [List.append_eq,List.nil_append,List.cons_append]
      exact zp(hD17(u7_1,u7_2,u7_3,u15_1,u15_2,u15_3,u25_1))(by kernel_rfl)((.of rfl):SubM _ _) .rfl .rfl((.of [0,1,2,3,4,5,6,7,8,9]rfl):SelR _ _ _)
     ·
      refine zO rfl rfl rfl rfl(zn zr89 rfl)(fun u24_1 _=> ?_)
      exact zp(hD19(u7_1,u7_2,u7_3,u24_1,u25_1))(by kernel_rfl)((.of rfl):SubM _ _)(zR 1 rfl(zR 0 rfl .nil)) .rfl((.of [0,1,2,3,4,5,6]rfl):SelR _ _ _)
     ·
      refine zO rfl rfl rfl rfl(zn zr89 rfl)(fun u26_1 _=> ?_)
      exact zp(hD21(u7_1,u7_2,u7_3,u25_1,u26_1))(by kernel_rfl)((.of rfl):SubM _ _) .rfl .rfl((.of [0,1,2,3,4,5,6]rfl):SelR _ _ _)
    refine zL(X:=Wd×Wd×Wd×Nat)(k':=7)(L':=(lb 30 75464703))(fun(u7_1,u7_2,u7_3,u26_1)=>([(11,.pointer(some⟨u26_1,0,none⟩)),(39,.agg(cw [u7_1,u7_2,u7_3]).toArray),(54,.agg#[.int .i64 qd1,.int .i64 qd2,.int .i64 qd3]),(48,.agg#[.int .i64 0,.int .i64 0,.int .i64 0]),(46,.agg#[.int .i64 qd4,.int .i64 qd5,.int .i64 qd6]),(40,.agg#[.int .i64 0,.int .i64 0,.int .i64 0]),(27,.int .i64((i:Nat):Int)),(26,.int .i64((nf:Nat):Int)),(25,.slice pf nf cf),(5,.pointer(some⟨b5,0,none⟩)),(3,.int .i64 0),(2,.pointer(some⟨b2,0,none⟩)),(1,.pointer(some⟨b1,0,none⟩))],[boxA u26_1 89 [.bool false,.slice none 0 0,.bool false,.slice none 0 0,.bool false,.slice none 0 0]],[boxA b11 42 [.int .i64 0,.int .i64 0,.int .i64 0],boxA b10 44 [.int .i64((F.getD i(0,0,0)).1),.int .i64((F.getD i(0,0,0)).2.1),.int .i64((F.getD i(0,0,0)).2.2)],boxA b5 34 [ws.b,ws.l],mapA b23(fun z:Int=> .int .i64 z)(fun z:Int=> .int .i64 z)(InK .i64)bm1,boxA b2 34 [.bool false,.slice none 0 0],boxA b1 25 [.slice pv nv cv,.slice pf nf cf]],[zF u7_1(qd7 - 0),zF u7_2(qd8 - 0),zF u7_3(qd9 - 0),zF ws s,zF w34(0:Int),slF(rI3 .i64)pv cv V,slF(rI3 .i64)pf cf F])) ?_(fun hD26=> ?_)
    ·
     rintro ⟨u7_1,u7_2,u7_3,u26_1⟩
     dsimp only [cw]
     refine zPa 15 24 25(by kernel_rfl) ?_ ?_ ?_
     ·
      refine zu rfl rfl rfl rfl(.c rfl(.c rfl .n))ce58(zwa(ex:=0)(ey:=0)(ez:=0)(fx:=qd4)(fy:=qd5)(fz:=qd6)(hbex:=by omega)(hbey:=by omega)(hbez:=by omega)(hbfx:=by omega)(hbfy:=by omega)(hbfz:=by omega))(.n) ?_
      rintro ⟨u15_1,u15_2,u15_3⟩ -
      dsimp only [List.append_eq,List.nil_append,List.cons_append]
      exact zp(hD18(u7_1,u7_2,u7_3,u15_1,u15_2,u15_3,u26_1))(by kernel_rfl)((.of rfl):SubM _ _) .rfl .rfl((.of [0,1,2,3,4,5,6,7,8,9]rfl):SelR _ _ _)
     ·
      refine zO rfl rfl rfl rfl(zn zr89 rfl)(fun u24_1 _=> ?_)
      exact zp(hD20(u7_1,u7_2,u7_3,u24_1,u26_1))(by kernel_rfl)((.of rfl):SubM _ _)(zR 1 rfl(zR 0 rfl .nil)) .rfl((.of [0,1,2,3,4,5,6]rfl):SelR _ _ _)
     ·
      refine zO rfl rfl rfl rfl(zn zr89 rfl)(fun u25_1 _=> ?_)
      exact zp(hD21(u7_1,u7_2,u7_3,u25_1,u26_1))(by kernel_rfl)((.of rfl):SubM _ _)(zR 1 rfl(zR 0 rfl .nil)) .rfl((.of [0,1,2,3,4,5,6]rfl):SelR _ _ _)
    refine zL(X:=Nat×Nat)(k':=7)(L':=(lb 30 58687359))(fun(u24_1,u25_1)=>([(10,.pointer(some⟨u25_1,0,none⟩)),(9,.pointer(some⟨u24_1,0,none⟩)),(54,.agg#[.int .i64 qd1,.int .i64 qd2,.int .i64 qd3]),(48,.agg#[.int .i64 0,.int .i64 0,.int .i64 0]),(46,.agg#[.int .i64 qd4,.int .i64 qd5,.int .i64 qd6]),(40,.agg#[.int .i64 0,.int .i64 0,.int .i64 0]),(38,.agg#[.int .i64 qd7,.int .i64 qd8,.int .i64 qd9]),(32,.agg#[.int .i64 0,.int .i64 0,.int .i64 0]),(27,.int .i64((i:Nat):Int)),(26,.int .i64((nf:Nat):Int)),(25,.slice pf nf cf),(5,.pointer(some⟨b5,0,none⟩)),(3,.int .i64 0),(2,.pointer(some⟨b2,0,none⟩)),(1,.pointer(some⟨b1,0,none⟩))],[boxA u25_1 89 [.bool false,.slice none 0 0,.bool false,.slice none 0 0,.bool false,.slice none 0 0],boxA u24_1 89 [.bool false,.slice none 0 0,.bool false,.slice none 0 0,.bool false,.slice none 0 0]],[boxA b11 42 [.int .i64 0,.int .i64 0,.int .i64 0],boxA b10 44 [.int .i64((F.getD i(0,0,0)).1),.int .i64((F.getD i(0,0,0)).2.1),.int .i64((F.getD i(0,0,0)).2.2)],boxA b5 34 [ws.b,ws.l],mapA b23(fun z:Int=> .int .i64 z)(fun z:Int=> .int .i64 z)(InK .i64)bm1,boxA b2 34 [.bool false,.slice none 0 0],boxA b1 25 [.slice pv nv cv,.slice pf nf cf]],[zF ws s,zF w34(0:Int),slF(rI3 .i64)pv cv V,slF(rI3 .i64)pf cf F])) ?_(fun hD27=> ?_)
    ·
     rintro ⟨u24_1,u25_1⟩
     dsimp only
     refine zMa 7 26(by kernel_rfl) ?_ ?_
     ·
      refine zu rfl rfl rfl rfl(.c rfl(.c rfl .n))ce58(zwa(ex:=0)(ey:=0)(ez:=0)(fx:=qd7)(fy:=qd8)(fz:=qd9)(hbex:=by omega)(hbey:=by omega)(hbez:=by omega)(hbfx:=by omega)(hbfy:=by omega)(hbfz:=by omega))(.n) ?_
      rintro ⟨u7_1,u7_2,u7_3⟩ -
      dsimp only [List.append_eq,List.nil_append,List.cons_append]
      exact zp(hD19(u7_1,u7_2,u7_3,u24_1,u25_1))(by kernel_rfl)((.of rfl):SubM _ _) .rfl .rfl((.of [0,1,2,3,4,5,6]rfl):SelR _ _ _)
     ·
      refine zO rfl rfl rfl rfl(zn zr89 rfl)(fun u26_1 _=> ?_)
      exact zp(hD22(u24_1,u25_1,u26_1))(by kernel_rfl)((.of rfl):SubM _ _) .rfl .rfl((.of [0,1,2,3]rfl):SelR _ _ _)
    refine zL(X:=Nat×Nat)(k':=7)(L':=(lb 30 92241791))(fun(u24_1,u26_1)=>([(11,.pointer(some⟨u26_1,0,none⟩)),(9,.pointer(some⟨u24_1,0,none⟩)),(54,.agg#[.int .i64 qd1,.int .i64 qd2,.int .i64 qd3]),(48,.agg#[.int .i64 0,.int .i64 0,.int .i64 0]),(46,.agg#[.int .i64 qd4,.int .i64 qd5,.int .i64 qd6]),(40,.agg#[.int .i64 0,.int .i64 0,.int .i64 0]),(38,.agg#[.int .i64 qd7,.int .i64 qd8,.int .i64 qd9]),(32,.agg#[.int .i64 0,.int .i64 0,.int .i64 0]),(27,.int .i64((i:Nat):Int)),(26,.int .i64((nf:Nat):Int)),(25,.slice pf nf cf),(5,.pointer(some⟨b5,0,none⟩)),(3,.int .i64 0),(2,.pointer(some⟨b2,0,none⟩)),(1,.pointer(some⟨b1,0,none⟩))],[boxA u26_1 89 [.bool false,.slice none 0 0,.bool false,.slice none 0 0,.bool false,.slice none 0 0],boxA u24_1 89 [.bool false,.slice none 0 0,.bool false,.slice none 0 0,.bool false,.slice none 0 0]],[boxA b11 42 [.int .i64 0,.int .i64 0,.int .i64 0],boxA b10 44 [.int .i64((F.getD i(0,0,0)).1),.int .i64((F.getD i(0,0,0)).2.1),.int .i64((F.getD i(0,0,0)).2.2)],boxA b5 34 [ws.b,ws.l],mapA b23(fun z:Int=> .int .i64 z)(fun z:Int=> .int .i64 z)(InK .i64)bm1,boxA b2 34 [.bool false,.slice none 0 0],boxA b1 25 [.slice pv nv cv,.slice pf nf cf]],[zF ws s,zF w34(0:Int),slF(rI3 .i64)pv cv V,slF(rI3 .i64)pf cf F])) ?_(fun hD28=> ?_)
    ·
     rintro ⟨u24_1,u26_1⟩
     dsimp only
     refine zMa 7 25(by kernel_rfl) ?_ ?_
     ·
      refine zu rfl rfl rfl rfl(.c rfl(.c rfl .n))ce58(zwa(ex:=0)(ey:=0)(ez:=0)(fx:=qd7)(fy:=qd8)(fz:=qd9)(hbex:=by omega)(hbey:=by omega)(hbez:=by omega)(hbfx:=by omega)(hbfy:=by omega)(hbfz:=by omega))(.n) ?_
      rintro ⟨u7_1,u7_2,u7_3⟩ -
      dsimp only [List.append_eq,List.nil_append,List.cons_append]
      exact zp(hD20(u7_1,u7_2,u7_3,u24_1,u26_1))(by kernel_rfl)((.of rfl):SubM _ _) .rfl .rfl((.of [0,1,2,3,4,5,6]rfl):SelR _ _ _)
     ·
      refine zO rfl rfl rfl rfl(zn zr89 rfl)(fun u25_1 _=> ?_)
      exact zp(hD22(u24_1,u25_1,u26_1))(by kernel_rfl)((.of rfl):SubM _ _)(zR 1 rfl(zR 0 rfl(zR 0 rfl .nil))) .rfl((.of [0,1,2,3]rfl):SelR _ _ _)
    refine zL(X:=Nat×Nat)(k':=7)(L':=(lb 30 109019007))(fun(u25_1,u26_1)=>([(11,.pointer(some⟨u26_1,0,none⟩)),(10,.pointer(some⟨u25_1,0,none⟩)),(54,.agg#[.int .i64 qd1,.int .i64 qd2,.int .i64 qd3]),(48,.agg#[.int .i64 0,.int .i64 0,.int .i64 0]),(46,.agg#[.int .i64 qd4,.int .i64 qd5,.int .i64 qd6]),(40,.agg#[.int .i64 0,.int .i64 0,.int .i64 0]),(38,.agg#[.int .i64 qd7,.int .i64 qd8,.int .i64 qd9]),(32,.agg#[.int .i64 0,.int .i64 0,.int .i64 0]),(27,.int .i64((i:Nat):Int)),(26,.int .i64((nf:Nat):Int)),(25,.slice pf nf cf),(5,.pointer(some⟨b5,0,none⟩)),(3,.int .i64 0),(2,.pointer(some⟨b2,0,none⟩)),(1,.pointer(some⟨b1,0,none⟩))],[boxA u26_1 89 [.bool false,.slice none 0 0,.bool false,.slice none 0 0,.bool false,.slice none 0 0],boxA u25_1 89 [.bool false,.slice none 0 0,.bool false,.slice none 0 0,.bool false,.slice none 0 0]],[boxA b11 42 [.int .i64 0,.int .i64 0,.int .i64 0],boxA b10 44 [.int .i64((F.getD i(0,0,0)).1),.int .i64((F.getD i(0,0,0)).2.1),.int .i64((F.getD i(0,0,0)).2.2)],boxA b5 34 [ws.b,ws.l],mapA b23(fun z:Int=> .int .i64 z)(fun z:Int=> .int .i64 z)(InK .i64)bm1,boxA b2 34 [.bool false,.slice none 0 0],boxA b1 25 [.slice pv nv cv,.slice pf nf cf]],[zF ws s,zF w34(0:Int),slF(rI3 .i64)pv cv V,slF(rI3 .i64)pf cf F])) ?_(fun hD29=> ?_)
    ·
     rintro ⟨u25_1,u26_1⟩
     dsimp only
     refine zMa 7 24(by kernel_rfl) ?_ ?_
     ·
      refine zu rfl rfl rfl rfl(.c rfl(.c rfl .n))ce58(zwa(ex:=0)(ey:=0)(ez:=0)(fx:=qd7)(fy:=qd8)(fz:=qd9)(hbex:=by omega)(hbey:=by omega)(hbez:=by omega)(hbfx:=by omega)(hbfy:=by omega)(hbfz:=by omega))(.n) ?_
      rintro ⟨u7_1,u7_2,u7_3⟩ -
      dsimp only [List.append_eq,List.nil_append,List.cons_append]
      exact zp(hD21(u7_1,u7_2,u7_3,u25_1,u26_1))(by kernel_rfl)((.of rfl):SubM _ _) .rfl .rfl((.of [0,1,2,3,4,5,6]rfl):SelR _ _ _)
     ·
      refine zO rfl rfl rfl rfl(zn zr89 rfl)(fun u24_1 _=> ?_)
      exact zp(hD22(u24_1,u25_1,u26_1))(by kernel_rfl)((.of rfl):SubM _ _)(zR 1 rfl(zR 1 rfl(zR 0 rfl .nil))) .rfl((.of [0,1,2,3]rfl):SelR _ _ _)
    refine zL(X:=Wd×Wd×Wd)(k':=8)(L':=(lb 30 8355839))(fun(u7_1,u7_2,u7_3)=>([(39,.agg(cw [u7_1,u7_2,u7_3]).toArray),(54,.agg#[.int .i64 qd1,.int .i64 qd2,.int .i64 qd3]),(48,.agg#[.int .i64 0,.int .i64 0,.int .i64 0]),(46,.agg#[.int .i64 qd4,.int .i64 qd5,.int .i64 qd6]),(40,.agg#[.int .i64 0,.int .i64 0,.int .i64 0]),(27,.int .i64((i:Nat):Int)),(26,.int .i64((nf:Nat):Int)),(25,.slice pf nf cf),(5,.pointer(some⟨b5,0,none⟩)),(3,.int .i64 0),(2,.pointer(some⟨b2,0,none⟩)),(1,.pointer(some⟨b1,0,none⟩))],[],[boxA b11 42 [.int .i64 0,.int .i64 0,.int .i64 0],boxA b10 44 [.int .i64((F.getD i(0,0,0)).1),.int .i64((F.getD i(0,0,0)).2.1),.int .i64((F.getD i(0,0,0)).2.2)],boxA b5 34 [ws.b,ws.l],mapA b23(fun z:Int=> .int .i64 z)(fun z:Int=> .int .i64 z)(InK .i64)bm1,boxA b2 34 [.bool false,.slice none 0 0],boxA b1 25 [.slice pv nv cv,.slice pf nf cf]],[zF u7_1(qd7 - 0),zF u7_2(qd8 - 0),zF u7_3(qd9 - 0),zF ws s,zF w34(0:Int),slF(rI3 .i64)pv cv V,slF(rI3 .i64)pf cf F])) ?_(fun hD30=> ?_)
    ·
     rintro ⟨u7_1,u7_2,u7_3⟩
     dsimp only [cw]
     refine zMc 15 24 25 26(by kernel_rfl) ?_ ?_ ?_ ?_
     ·
      refine zu rfl rfl rfl rfl(.c rfl(.c rfl .n))ce58(zwa(ex:=0)(ey:=0)(ez:=0)(fx:=qd4)(fy:=qd5)(fz:=qd6)(hbex:=by omega)(hbey:=by omega)(hbez:=by omega)(hbfx:=by omega)(hbfy:=by omega)(hbfz:=by omega))(.n) ?_
      rintro ⟨u15_1,u15_2,u15_3⟩ -
      dsimp only [List.append_eq,List.nil_append,List.cons_append]
      exact zp(hD23(u7_1,u7_2,u7_3,u15_1,u15_2,u15_3))(by kernel_rfl)((.of rfl):SubM _ _) .rfl .rfl((.of [0,1,2,3,4,5,6,7,8,9]rfl):SelR _ _ _)
     ·
      refine zO rfl rfl rfl rfl(zn zr89 rfl)(fun u24_1 _=> ?_)
      exact zp(hD24(u7_1,u7_2,u7_3,u24_1))(by kernel_rfl)((.of rfl):SubM _ _) .rfl .rfl((.of [0,1,2,3,4,5,6]rfl):SelR _ _ _)
     ·
      refine zO rfl rfl rfl rfl(zn zr89 rfl)(fun u25_1 _=> ?_)
      exact zp(hD25(u7_1,u7_2,u7_3,u25_1))(by kernel_rfl)((.of rfl):SubM _ _) .rfl .rfl((.of [0,1,2,3,4,5,6]rfl):SelR _ _ _)
     ·
      refine zO rfl rfl rfl rfl(zn zr89 rfl)(fun u26_1 _=> ?_)
      exact zp(hD26(u7_1,u7_2,u7_3,u26_1))(by kernel_rfl)((.of rfl):SubM _ _) .rfl .rfl((.of [0,1,2,3,4,5,6]rfl):SelR _ _ _)
    refine zL(X:=Nat)(k':=8)(L':=(lb 30 25132927))(fun u24_1=>([(9,.pointer(some⟨u24_1,0,none⟩)),(54,.agg#[.int .i64 qd1,.int .i64 qd2,.int .i64 qd3]),(48,.agg#[.int .i64 0,.int .i64 0,.int .i64 0]),(46,.agg#[.int .i64 qd4,.int .i64 qd5,.int .i64 qd6]),(40,.agg#[.int .i64 0,.int .i64 0,.int .i64 0]),(38,.agg#[.int .i64 qd7,.int .i64 qd8,.int .i64 qd9]),(32,.agg#[.int .i64 0,.int .i64 0,.int .i64 0]),(27,.int .i64((i:Nat):Int)),(26,.int .i64((nf:Nat):Int)),(25,.slice pf nf cf),(5,.pointer(some⟨b5,0,none⟩)),(3,.int .i64 0),(2,.pointer(some⟨b2,0,none⟩)),(1,.pointer(some⟨b1,0,none⟩))],[boxA u24_1 89 [.bool false,.slice none 0 0,.bool false,.slice none 0 0,.bool false,.slice none 0 0]],[boxA b11 42 [.int .i64 0,.int .i64 0,.int .i64 0],boxA b10 44 [.int .i64((F.getD i(0,0,0)).1),.int .i64((F.getD i(0,0,0)).2.1),.int .i64((F.getD i(0,0,0)).2.2)],boxA b5 34 [ws.b,ws.l],mapA b23(fun z:Int=> .int .i64 z)(fun z:Int=> .int .i64 z)(InK .i64)bm1,boxA b2 34 [.bool false,.slice none 0 0],boxA b1 25 [.slice pv nv cv,.slice pf nf cf]],[zF ws s,zF w34(0:Int),slF(rI3 .i64)pv cv V,slF(rI3 .i64)pf cf F])) ?_(fun hD31=> ?_)
    ·
     rintro u24_1
     dsimp only
     refine zPa 7 25 26(by kernel_rfl) ?_ ?_ ?_
     ·
      refine zu rfl rfl rfl rfl(.c rfl(.c rfl .n))ce58(zwa(ex:=0)(ey:=0)(ez:=0)(fx:=qd7)(fy:=qd8)(fz:=qd9)(hbex:=by omega)(hbey:=by omega)(hbez:=by omega)(hbfx:=by omega)(hbfy:=by omega)(hbfz:=by omega))(.n) ?_
      rintro ⟨u7_1,u7_2,u7_3⟩ -
      dsimp only [List.append_eq,List.nil_append,List.cons_append]
      exact zp(hD24(u7_1,u7_2,u7_3,u24_1))(by kernel_rfl)((.of rfl):SubM _ _) .rfl .rfl((.of [0,1,2,3,4,5,6]rfl):SelR _ _ _)
     ·
      refine zO rfl rfl rfl rfl(zn zr89 rfl)(fun u25_1 _=> ?_)
      exact zp(hD27(u24_1,u25_1))(by kernel_rfl)((.of rfl):SubM _ _) .rfl .rfl((.of [0,1,2,3]rfl):SelR _ _ _)
     ·
      refine zO rfl rfl rfl rfl(zn zr89 rfl)(fun u26_1 _=> ?_)
      exact zp(hD28(u24_1,u26_1))(by kernel_rfl)((.of rfl):SubM _ _) .rfl .rfl((.of [0,1,2,3]rfl):SelR _ _ _)
    refine zL(X:=Nat)(k':=8)(L':=(lb 30 41910143))(fun u25_1=>([(10,.pointer(some⟨u25_1,0,none⟩)),(54,.agg#[.int .i64 qd1,.int .i64 qd2,.int .i64 qd3]),(48,.agg#[.int .i64 0,.int .i64 0,.int .i64 0]),(46,.agg#[.int .i64 qd4,.int .i64 qd5,.int .i64 qd6]),(40,.agg#[.int .i64 0,.int .i64 0,.int .i64 0]),(38,.agg#[.int .i64 qd7,.int .i64 qd8,.int .i64 qd9]),(32,.agg#[.int .i64 0,.int .i64 0,.int .i64 0]),(27,.int .i64((i:Nat):Int)),(26,.int .i64((nf:Nat):Int)),(25,.slice pf nf cf),(5,.pointer(some⟨b5,0,none⟩)),(3,.int .i64 0),(2,.pointer(some⟨b2,0,none⟩)),(1,.pointer(some⟨b1,0,none⟩))],[boxA u25_1 89 [.bool false,.slice none 0 0,.bool false,.slice none 0 0,.bool false,.slice none 0 0]],[boxA b11 42 [.int .i64 0,.int .i64 0,.int .i64 0],boxA b10 44 [.int .i64((F.getD i(0,0,0)).1),.int .i64((F.getD i(0,0,0)).2.1),.int .i64((F.getD i(0,0,0)).2.2)],boxA b5 34 [ws.b,ws.l],mapA b23(fun z:Int=> .int .i64 z)(fun z:Int=> .int .i64 z)(InK .i64)bm1,boxA b2 34 [.bool false,.slice none 0 0],boxA b1 25 [.slice pv nv cv,.slice pf nf cf]],[zF ws s,zF w34(0:Int),slF(rI3 .i64)pv cv V,slF(rI3 .i64)pf cf F])) ?_(fun hD32=> ?_)
    ·
     rintro u25_1
     dsimp only
     refine zPa 7 24 26(by kernel_rfl) ?_ ?_ ?_
     ·
      refine zu rfl rfl rfl rfl(.c rfl(.c rfl .n))ce58(zwa(ex:=0)(ey:=0)(ez:=0)(fx:=qd7)(fy:=qd8)(fz:=qd9)(hbex:=by omega)(hbey:=by omega)(hbez:=by omega)(hbfx:=by omega)(hbfy:=by omega)(hbfz:=by omega))(.n) ?_
      rintro ⟨u7_1,u7_2,u7_3⟩ -
      dsimp only [List.append_eq,List.nil_append,List.cons_append]
      exact zp(hD25(u7_1,u7_2,u7_3,u25_1))(by kernel_rfl)((.of rfl):SubM _ _) .rfl .rfl((.of [0,1,2,3,4,5,6]rfl):SelR _ _ _)
     ·
      refine zO rfl rfl rfl rfl(zn zr89 rfl)(fun u24_1 _=> ?_)
      exact zp(hD27(u24_1,u25_1))(by kernel_rfl)((.of rfl):SubM _ _)(zR 1 rfl(zR 0 rfl .nil)) .rfl((.of [0,1,2,3]rfl):SelR _ _ _)
     ·
      refine zO rfl rfl rfl rfl(zn zr89 rfl)(fun u26_1 _=> ?_)
      exact zp(hD29(u25_1,u26_1))(by kernel_rfl)((.of rfl):SubM _ _) .rfl .rfl((.of [0,1,2,3]rfl):SelR _ _ _)
    refine zL(X:=Nat)(k':=8)(L':=(lb 30 75464575))(fun u26_1=>([(11,.pointer(some⟨u26_1,0,none⟩)),(54,.agg#[.int .i64 qd1,.int .i64 qd2,.int .i64 qd3]),(48,.agg#[.int .i64 0,.int .i64 0,.int .i64 0]),(46,.agg#[.int .i64 qd4,.int .i64 qd5,.int .i64 qd6]),(40,.agg#[.int .i64 0,.int .i64 0,.int .i64 0]),(38,.agg#[.int .i64 qd7,.int .i64 qd8,.int .i64 qd9]),(32,.agg#[.int .i64 0,.int .i64 0,.int .i64 0]),(27,.int .i64((i:Nat):Int)),(26,.int .i64((nf:Nat):Int)),(25,.slice pf nf cf),(5,.pointer(some⟨b5,0,none⟩)),(3,.int .i64 0),(2,.pointer(some⟨b2,0,none⟩)),(1,.pointer(some⟨b1,0,none⟩))],[boxA u26_1 89 [.bool false,.slice none 0 0,.bool false,.slice none 0 0,.bool false,.slice none 0 0]],[boxA b11 42 [.int .i64 0,.int .i64 0,.int .i64 0],boxA b10 44 [.int .i64((F.getD i(0,0,0)).1),.int .i64((F.getD i(0,0,0)).2.1),.int .i64((F.getD i(0,0,0)).2.2)],boxA b5 34 [ws.b,ws.l],mapA b23(fun z:Int=> .int .i64 z)(fun z:Int=> .int .i64 z)(InK .i64)bm1,boxA b2 34 [.bool false,.slice none 0 0],boxA b1 25 [.slice pv nv cv,.slice pf nf cf]],[zF ws s,zF w34(0:Int),slF(rI3 .i64)pv cv V,slF(rI3 .i64)pf cf F])) ?_(fun hD33=> ?_)
    ·
     rintro u26_1
     dsimp only
     refine zPa 7 24 25(by kernel_rfl) ?_ ?_ ?_
     ·
      refine zu rfl rfl rfl rfl(.c rfl(.c rfl .n))ce58(zwa(ex:=0)(ey:=0)(ez:=0)(fx:=qd7)(fy:=qd8)(fz:=qd9)(hbex:=by omega)(hbey:=by omega)(hbez:=by omega)(hbfx:=by omega)(hbfy:=by omega)(hbfz:=by omega))(.n) ?_
      rintro ⟨u7_1,u7_2,u7_3⟩ -
      dsimp only [List.append_eq,List.nil_append,List.cons_append]
      exact zp(hD26(u7_1,u7_2,u7_3,u26_1))(by kernel_rfl)((.of rfl):SubM _ _) .rfl .rfl((.of [0,1,2,3,4,5,6]rfl):SelR _ _ _)
     ·
      refine zO rfl rfl rfl rfl(zn zr89 rfl)(fun u24_1 _=> ?_)
      exact zp(hD28(u24_1,u26_1))(by kernel_rfl)((.of rfl):SubM _ _)(zR 1 rfl(zR 0 rfl .nil)) .rfl((.of [0,1,2,3]rfl):SelR _ _ _)
     ·
      refine zO rfl rfl rfl rfl(zn zr89 rfl)(fun u25_1 _=> ?_)
      exact zp(hD29(u25_1,u26_1))(by kernel_rfl)((.of rfl):SubM _ _)(zR 1 rfl(zR 0 rfl .nil)) .rfl((.of [0,1,2,3]rfl):SelR _ _ _)
    refine zMc 7 24 25 26(by kernel_rfl) ?_ ?_ ?_ ?_
    ·
     refine zu rfl rfl rfl rfl(.c rfl(.c rfl .n))ce58(zwa(ex:=0)(ey:=0)(ez:=0)(fx:=qd7)(fy:=qd8)(fz:=qd9)(hbex:=by omega)(hbey:=by omega)(hbez:=by omega)(hbfx:=by omega)(hbfy:=by omega)(hbfz:=by omega))(.n) ?_
     rintro ⟨u7_1,u7_2,u7_3⟩ -
     dsimp only [List.append_eq,List.nil_append,List.cons_append]
     exact zp(hD30(u7_1,u7_2,u7_3))(by kernel_rfl)((.of rfl):SubM _ _) .rfl .rfl((.of [0,1,2,3,4,5,6]rfl):SelR _ _ _)
    ·
     refine zO rfl rfl rfl rfl(zn zr89 rfl)(fun u24_1 _=> ?_)
     exact zp(hD31 u24_1)(by kernel_rfl)((.of rfl):SubM _ _) .rfl .rfl((.of [0,1,2,3]rfl):SelR _ _ _)
    ·
     refine zO rfl rfl rfl rfl(zn zr89 rfl)(fun u25_1 _=> ?_)
     exact zp(hD32 u25_1)(by kernel_rfl)((.of rfl):SubM _ _) .rfl .rfl((.of [0,1,2,3]rfl):SelR _ _ _)
    ·
     refine zO rfl rfl rfl rfl(zn zr89 rfl)(fun u26_1 _=> ?_)
     exact zp(hD33 u26_1)(by kernel_rfl)((.of rfl):SubM _ _) .rfl .rfl((.of [0,1,2,3]rfl):SelR _ _ _)
   ·
    refine zaa<|zk<|zk<|zt<|zc<|zh<|za<|r_u rfl rfl(zf 0 ty34 rfl rfl(.take(.take .nil)))<|zx 2 rfl rfl rfl rfl rfl sz34 rfl(.take(.take .nil))(.s(.s .z))<|r_pv rfl rfl(ze rfl)<|zj<|zc<|zP ?_
    obtain ⟨hz1,hz2⟩:=Ms.volC_ok hc0(fun h=>hlen(by have:=hB.empty.2 h;omega))
    have hs9:s=Ms.vol V F:=by rw [hz2,hs,List.take_of_length_le(by omega)]
    exact zmb Try.results16 ws trivial(zV 2 ty34 rfl rfl(.take(.take .nil)))(zz rfl)(by rw [hz1])(ho:=(.n:PickO _ _ _))((.e(j:=0)rfl(by rw [← hs9]) .n):SelR _ _ _)
end Go.Proofs.Ytalfgjpbbongcaa.Sp
namespace Go.Proofs.Ytalfgjpbbongcaa.Sp
open Go
set_option linter.unusedVariables false
set_option maxRecDepth 100000
set_option maxHeartbeats 1000000
theorem zze:Con Try.prog 12 [] [] [](Y:=Unit)(fun y=>True)(fun y=> .bool true)(fun y=>[])(fun y=>[]):=by
 refine zB Try.func12 rfl rfl rfl(fun c=> ?_)
 show RunC _ _ _ _ _ [] [] []
 refine zh<|za<|r_pv rfl rfl(ze rfl)<|zj<|zc<|zh<|za<|zea rfl rfl(.n)ce44(zUb)(.n) ?_
 rintro ⟨pvA,pfA⟩ -
 dsimp only [List.append_eq,List.nil_append,List.cons_append]
 refine zea rfl rfl(.c rfl .n)ce16(zPd(pv:=pvA)(nv:=4)(cv:=4)(V:=Ms.exV)(pf:=pfA)(nf:=4)(cf:=4)(F:=Ms.exF)(hnv:=by first|rfl|assumption|decide|(simp [Ms.exV,Ms.exF];done))(hnf:=by first|rfl|assumption|decide|(simp [Ms.exV,Ms.exF];done)))(.c(j:=0)rfl(.c(j:=1)rfl .n)) ?_
 rintro w31 -
 dsimp only [List.append_eq,List.nil_append,List.cons_append]
 have e2:Ms.volC Ms.exV Ms.exF=0:=by exact Ms.ex_volC
 rw [e2]
 have e3:Ms.vol Ms.exV Ms.exF=(1:Int):=by exact Ms.ex_vol
 rw [e3]
 refine r_pv rfl rfl(zb rfl)<|r_pv rfl rfl(zja rfl rfl)<|r_pv rfl rfl(zja rfl rfl)<|zS rfl rfl(zn zr34 rfl)(fun b4=> ?_)
 refine zx 0 rfl rfl rfl rfl rfl sz34 rfl(.take(.take .nil)) .z<|r_pv rfl rfl(ze rfl)<|zj<|zc<|zh<|za<|zea rfl rfl(.n)ce44(zUb)(.n) ?_
 rintro ⟨pvB,pfB⟩ -
 dsimp only [List.append_eq,List.nil_append,List.cons_append]
 refine zY rfl rfl(.c rfl .n)ce25(zye(pv:=pvB)(nv:=4)(cv:=4)(V:=Ms.exV)(pf:=pfB)(nf:=4)(cf:=4)(F:=Ms.exF)(hnv:=by first|rfl|assumption|decide|(simp [Ms.exV,Ms.exF];done))(hnf:=by first|rfl|assumption|decide|(simp [Ms.exV,Ms.exF];done)))(.c(j:=0)rfl(.c(j:=1)rfl .n)) ?_
 have e5:Ms.check Ms.exV Ms.exF=0:=by exact Ms.ex_check
 rw [e5]
 have e6:Ms.eulerR Ms.exV Ms.exF=2:=by exact Ms.ex_euler
 rw [e6]
 refine r_pv rfl rfl(zb rfl)<|r_pv rfl rfl(zja rfl rfl)<|r_pv rfl rfl(zja rfl rfl)<|r_pv rfl rfl(ze rfl)<|r_pv rfl rfl(ze rfl)<|zj<|zc<|zh<|za<|zea rfl rfl(.n)ce44(zUb)(.n) ?_
 rintro ⟨pvC,pfC⟩ -
 dsimp only [List.append_eq,List.nil_append,List.cons_append]
 refine zS rfl rfl(zn zr25 rfl)(fun b7=> ?_)
 refine zx 0 rfl rfl rfl rfl rfl sz25 rfl(.take(.take .nil)) .z<|zj<|zc<|zh<|za<|r_pv rfl rfl(zm Try.underlying25 rfl sz23 rfl rfl)<|r_u rfl rfl(zd 0 ty23 rfl rfl rfl)<|r_pv rfl rfl(zBb(hi:=3)Try.underlying23 sz44 rfl(.s rfl)(.inr⟨_,rfl⟩)(by first|omega|decide))<|zIc(zXb 1 rfl 3(by first|omega|decide))(fun _ _=> ?_)
 refine r_pv rfl rfl(zm Try.underlying25 rfl sz23 rfl rfl)<|zx 0 rfl rfl rfl rfl rfl sz23 rfl(.skip(.take .nil)) .z<|zj<|zc<|zh<|za<|r_u rfl rfl(zf 0 ty25 rfl rfl(.take(.take .nil)))<|zea rfl rfl(.c rfl .n)ce23(zqd(pv:=pvC)(nv:=4)(cv:=4)(V:=Ms.exV)(pf:=pfC)(nf:=3)(cf:=4)(F:=(Ms.exF.take 3))(hnv:=by first|rfl|assumption|decide|(simp [Ms.exV,Ms.exF];done))(hnf:=by first|rfl|assumption|decide|(simp [Ms.exV,Ms.exF];done)))(.c(j:=1)rfl(.c(j:=0)rfl .n)) ?_
 rintro ⟨p28,c29,bm1⟩hB
 dsimp only [List.append_eq,List.nil_append,List.cons_append]
 replace hB:Ms.check Ms.exV(Ms.exF.take 3)=0→Ms.BMap(Ms.exF.take 3)bm1:=hB
 have e10:Ms.check Ms.exV(Ms.exF.take 3)=0:=by exact Ms.ex_open
 rw [e10]
 have e11:Ms.bordersR Ms.exV(Ms.exF.take 3)bm1=Ms.exL:=by exact Ms.ex_borders(hB Ms.ex_open)
 rw [e11]
 refine r_pv rfl rfl(zb rfl)<|r_pv rfl rfl(zja rfl rfl)<|r_pv rfl rfl(zja rfl rfl)<|r_pv rfl rfl(ze rfl)<|r_pv rfl rfl(ze rfl)<|zj<|zc<|zh<|zla(OW:=[])(O:=[boxA b7 25 [.slice pvC 4 4,.slice pfC 3 4],boxA b4 34 [w31.b,w31.l]]) 100000 mixed(.then .ret)(by kernel_rfl)<|d_pv 0 rfl rfl(by kernel_rfl)(by kernel_rfl)rfl rfl(zb rfl)<|d_pv 1 rfl rfl(by kernel_rfl)(by kernel_rfl)rfl rfl(zxa rfl rfl)<|d_pv 2 rfl rfl(by kernel_rfl)(by kernel_rfl)rfl rfl(zb rfl)<|d_pv 3 rfl rfl(by kernel_rfl)(by kernel_rfl)rfl rfl(zb rfl)<|d_pv 4 rfl rfl(by kernel_rfl)(by kernel_rfl)rfl rfl(zxa rfl rfl)<|d_pv 5 rfl rfl(by kernel_rfl)(by kernel_rfl)rfl rfl(zy rfl rfl)<|d_pv 6 rfl rfl(by kernel_rfl)(by kernel_rfl)rfl rfl(zb rfl)<|d_pv 7 rfl rfl(by kernel_rfl)(by kernel_rfl)rfl rfl(zb rfl)<|d_pv 8 rfl rfl(by kernel_rfl)(by kernel_rfl)rfl rfl(zxa rfl rfl)<|d_pv 9 rfl rfl(by kernel_rfl)(by kernel_rfl)rfl rfl(zy rfl rfl)<|d_pv 10 rfl rfl(by kernel_rfl)(by kernel_rfl)rfl rfl(zb rfl)<|d_u 11 rfl rfl(by kernel_rfl)(by kernel_rfl)rfl rfl(zf 1 ty34 rfl rfl(.take(.take .nil)))<|zE 12(by kernel_rfl)(zu rfl rfl rfl rfl(.c rfl .n)ce45(zpa(z:=(1:Int))(hz:=by first|rfl|assumption|decide|(simp [Ms.exV,Ms.exF];done)))(.n) ?_)
 rintro w312 -
 dsimp only [List.append_eq,List.nil_append,List.cons_append]
 refine zE 13(by kernel_rfl)(zqa rfl rfl rfl rfl(.c rfl(.c rfl .n))ce18(zKd(w1:=w31)(w2:=w312)(x1:=(1:Int))(x2:=(1:Int)))(.c(j:=7)rfl(.c(j:=0)rfl .n)) ?_)
 rw [show(decide((1:Int)=(1:Int)))=true from by decide]
 refine d_pv 14 rfl rfl(by kernel_rfl)(by kernel_rfl)rfl rfl(zy rfl rfl)<|d_pv 15 rfl rfl(by kernel_rfl)(by kernel_rfl)rfl rfl(zb rfl)<|d_pv 16 rfl rfl(by kernel_rfl)(by kernel_rfl)rfl rfl(zb rfl)<|d_pv 17 rfl rfl(by kernel_rfl)(by kernel_rfl)rfl rfl(zxa rfl rfl)<|d_pv 18 rfl rfl(by kernel_rfl)(by kernel_rfl)rfl rfl(zy rfl rfl)<|d_pv 19 rfl rfl(by kernel_rfl)(by kernel_rfl)rfl rfl(zb rfl)<|d_pv 20 rfl rfl(by kernel_rfl)(by kernel_rfl)rfl rfl(zb rfl)<|d_pv 21 rfl rfl(by kernel_rfl)(by kernel_rfl)rfl rfl(zX Try.underlying37 rfl) ?_
 have e13:(((Ms.exL).length:Nat):Int)=1:=by rfl
 rw [e13]
 refine d_pv 22 rfl rfl(by kernel_rfl)(by kernel_rfl)rfl rfl(zxa rfl rfl)<|d_pv 23 rfl rfl(by kernel_rfl)(by kernel_rfl)rfl rfl(zy rfl rfl)<|d_pv 24 rfl rfl(by kernel_rfl)(by kernel_rfl)rfl rfl(zb rfl)<|d_pv 25 rfl rfl(by kernel_rfl)(by kernel_rfl)rfl rfl(zb rfl)<|d_vl 26 rfl rfl(by kernel_rfl)(by kernel_rfl)rfl rfl(zVb(x0:=(Ms.exL.getD 0 [])) 1 0 rfl Try.underlying37 sz50 rfl(by first|rfl|assumption|(simp_all;done)|omega)rfl rfl(gD(d:=[])(by first|omega|decide))) ?_
 rintro ⟨b14,o15,p16,c17⟩ -
 dsimp only [List.append_eq,List.nil_append,List.cons_append]
 refine d_u 27 rfl rfl(by kernel_rfl)(by kernel_rfl)rfl rfl(zH(j:=0) 0 ty50 rfl rfl rfl rfl)<|zE 28(by kernel_rfl)(zYb rfl rfl rfl rfl(zJ(enc:=fun z:Int=>[.int .i64 z])(ok:=InK .i64)(h1:=fun _=>rfl)(h2:=fun _=>rfl)(k:=3)Try.underlying50 inf3 rfl(by decide)(by decide)(by decide)(.c(x:=1)rfl rfl(fun _ _=>by exact zo.2(by omega))(.c(x:=3)rfl rfl(fun _ _=>by exact zo.2(by omega))(.c(x:=2)rfl rfl(fun _ _=>by exact zo.2(by omega)) .n))))(fun b18 _=> ?_))
 refine zcb 0 rfl .z<|zE 29(by kernel_rfl)(zqa rfl rfl rfl rfl(.c rfl(.c rfl .n))ce28(zge(p1:=p16)(n1:=(Ms.exL.getD 0 []).length)(c1:=c17)(l1:=(Ms.exL.getD 0 []))(p2:=some⟨b18,0,none⟩)(n2:=3)(c2:=3)(l2:=[1,3,2])(hn1:=by first|rfl|assumption|decide|(simp [Ms.exV,Ms.exF];done))(hn2:=by first|rfl|assumption|decide|(simp [Ms.exV,Ms.exF];done)))(.c(j:=2)rfl(.c(j:=0)rfl .n)) ?_)
 rw [show(decide((Ms.exL.getD 0 [])=([1,3,2])))=true from by decide]
 refine d_pv 30 rfl rfl(by kernel_rfl)(by kernel_rfl)rfl rfl(zy rfl rfl)<|d_pv 31 rfl rfl(by kernel_rfl)(by kernel_rfl)rfl rfl(zb rfl)<|d_u 32 rfl rfl(by kernel_rfl)(by kernel_rfl)rfl rfl(zf 1 ty25 rfl rfl(.take(.take .nil)))<|zE 33(by kernel_rfl)(zqa rfl rfl rfl rfl(.c rfl .n)ce14(zJb(pv:=pvC)(nv:=4)(cv:=4)(V:=Ms.exV)(pf:=pfC)(nf:=3)(cf:=4)(F:=(Ms.exF.take 3))(hnv:=by first|rfl|assumption|decide|(simp [Ms.exV,Ms.exF];done))(hnf:=by first|rfl|assumption|decide|(simp [Ms.exV,Ms.exF];done)))(.c(j:=6)rfl(.c(j:=5)rfl .n)) ?_)
 have e19:Ms.check Ms.exV(Ms.exF.take 3)=0:=by exact Ms.ex_open
 rw [e19]
 refine d_pv 34 rfl rfl(by kernel_rfl)(by kernel_rfl)rfl rfl(zxa rfl rfl)<|d_pv 35 rfl rfl(by kernel_rfl)(by kernel_rfl)rfl rfl(zy rfl rfl)<|d_pv 36 rfl rfl(by kernel_rfl)(by kernel_rfl)rfl rfl(ze rfl)<|zma(by kernel_rfl)<|zc<|zP ?_
 exact zG Try.results12()trivial(zz rfl)rfl(ho:=(.n:PickO _ _ _))(.n:SelR _ _ _)
end Go.Proofs.Ytalfgjpbbongcaa.Sp
namespace Go.Proofs.Ytalfgjpbbongcaa.Sp
open Go
set_option linter.unusedVariables false
set_option maxRecDepth 100000
set_option maxHeartbeats 1000000
theorem zAe {ex:Int} {ey:Int} {ez:Int} {wa0:Wd} {wa1:Wd} {wa2:Wd} {fx:Int} {fy:Int} {fz:Int} {wb0:Wd} {wb1:Wd} {wb2:Wd} {gx:Int} {gy:Int} {gz:Int} {wd0:Wd} {wd1:Wd} {wd2:Wd}(hlex:Big.ln ex≤10)(hley:Big.ln ey≤10)(hlez:Big.ln ez≤10)(hlfx:Big.ln fx≤10)(hlfy:Big.ln fy≤10)(hlfz:Big.ln fz≤10)(hlgx:Big.ln gx≤10)(hlgy:Big.ln gy≤10)(hlgz:Big.ln gz≤10):Con Try.prog 80 [.agg#[wa0.b,wa0.l,wa1.b,wa1.l,wa2.b,wa2.l],.agg#[wb0.b,wb0.l,wb1.b,wb1.l,wb2.b,wb2.l],.agg#[wd0.b,wd0.l,wd1.b,wd1.l,wd2.b,wd2.l]] [] [zF wa0 ex,zF wa1 ey,zF wa2 ez,zF wb0 fx,zF wb1 fy,zF wb2 fz,zF wd0 gx,zF wd1 gy,zF wd2 gz](Y:=Unit)(fun y=>True)(fun y=> .bool(Ms.holds(ex,ey,ez)(fx,fy,fz)(gx,gy,gz)))(fun y=>[])(fun y=>[]):=by
 refine zB Try.func80 rfl rfl rfl(fun c=> ?_)
 show RunC _ _ _ _ _ [(0,.agg#[wa0.b,wa0.l,wa1.b,wa1.l,wa2.b,wa2.l]),(1,.agg#[wb0.b,wb0.l,wb1.b,wb1.l,wb2.b,wb2.l]),(2,.agg#[wd0.b,wd0.l,wd1.b,wd1.l,wd2.b,wd2.l])] [] [zF wa0 ex,zF wa1 ey,zF wa2 ez,zF wb0 fx,zF wb1 fy,zF wb2 fz,zF wd0 gx,zF wd1 gy,zF wd2 gz]
 have hca0:Big.ln(ey*fz - ez*fy)≤21:=Big.zU(by omega)(by omega)(by omega)(by omega)
 have hca1:Big.ln(ez*fx - ex*fz)≤21:=Big.zU(by omega)(by omega)(by omega)(by omega)
 have hca2:Big.ln(ex*fy - ey*fx)≤21:=Big.zU(by omega)(by omega)(by omega)(by omega)
 have hcb0:Big.ln(fy*gz - fz*gy)≤21:=Big.zU(by omega)(by omega)(by omega)(by omega)
 have hcb1:Big.ln(fz*gx - fx*gz)≤21:=Big.zU(by omega)(by omega)(by omega)(by omega)
 have hcb2:Big.ln(fx*gy - fy*gx)≤21:=Big.zU(by omega)(by omega)(by omega)(by omega)
 have hcc0:Big.ln(gy*ez - gz*ey)≤21:=Big.zU(by omega)(by omega)(by omega)(by omega)
 have hcc1:Big.ln(gz*ex - gx*ez)≤21:=Big.zU(by omega)(by omega)(by omega)(by omega)
 have hcc2:Big.ln(gx*ey - gy*ex)≤21:=Big.zU(by omega)(by omega)(by omega)(by omega)
 have hm0:Big.ln((fy*gz - fz*gy)+(gy*ez - gz*ey))≤22:=by have h2:=Big.zab(fy*gz - fz*gy)(gy*ez - gz*ey);omega
 have hm1:Big.ln((fz*gx - fx*gz)+(gz*ex - gx*ez))≤22:=by have h2:=Big.zab(fz*gx - fx*gz)(gz*ex - gx*ez);omega
 have hm2:Big.ln((fx*gy - fy*gx)+(gx*ey - gy*ex))≤22:=by have h2:=Big.zab(fx*gy - fy*gx)(gx*ey - gy*ex);omega
 have hn0:Big.ln((ey*fz - ez*fy)+((fy*gz - fz*gy)+(gy*ez - gz*ey)))≤23:=by have h1:=Big.zab(ey*fz - ez*fy)((fy*gz - fz*gy)+(gy*ez - gz*ey));have h2:=Big.zab(fy*gz - fz*gy)(gy*ez - gz*ey);omega
 have hn1:Big.ln((ez*fx - ex*fz)+((fz*gx - fx*gz)+(gz*ex - gx*ez)))≤23:=by have h1:=Big.zab(ez*fx - ex*fz)((fz*gx - fx*gz)+(gz*ex - gx*ez));have h2:=Big.zab(fz*gx - fx*gz)(gz*ex - gx*ez);omega
 have hn2:Big.ln((ex*fy - ey*fx)+((fx*gy - fy*gx)+(gx*ey - gy*ex)))≤23:=by have h1:=Big.zab(ex*fy - ey*fx)((fx*gy - fy*gx)+(gx*ey - gy*ex));have h2:=Big.zab(fx*gy - fy*gx)(gx*ey - gy*ex);omega
 have hd0:=Big.zQb(ex,ey,ez)((fy*gz - fz*gy),(fz*gx - fx*gz),(fx*gy - fy*gx))(by dsimp only;omega)(by dsimp only;omega)(by dsimp only;omega)(by dsimp only;omega)(by dsimp only;omega)(by dsimp only;omega)
 have hd1:=Big.zQb((ey*fz - ez*fy),(ez*fx - ex*fz),(ex*fy - ey*fx))(((ey*fz - ez*fy)+((fy*gz - fz*gy)+(gy*ez - gz*ey))),((ez*fx - ex*fz)+((fz*gx - fx*gz)+(gz*ex - gx*ez))),((ex*fy - ey*fx)+((fx*gy - fy*gx)+(gx*ey - gy*ex))))(by dsimp only;omega)(by dsimp only;omega)(by dsimp only;omega)(by dsimp only;omega)(by dsimp only;omega)(by dsimp only;omega)
 have hd2:=Big.zQb((fy*gz - fz*gy),(fz*gx - fx*gz),(fx*gy - fy*gx))(((ey*fz - ez*fy)+((fy*gz - fz*gy)+(gy*ez - gz*ey))),((ez*fx - ex*fz)+((fz*gx - fx*gz)+(gz*ex - gx*ez))),((ex*fy - ey*fx)+((fx*gy - fy*gx)+(gx*ey - gy*ex))))(by dsimp only;omega)(by dsimp only;omega)(by dsimp only;omega)(by dsimp only;omega)(by dsimp only;omega)(by dsimp only;omega)
 have hd3:=Big.zQb((gy*ez - gz*ey),(gz*ex - gx*ez),(gx*ey - gy*ex))(((ey*fz - ez*fy)+((fy*gz - fz*gy)+(gy*ez - gz*ey))),((ez*fx - ex*fz)+((fz*gx - fx*gz)+(gz*ex - gx*ez))),((ex*fy - ey*fx)+((fx*gy - fy*gx)+(gx*ey - gy*ex))))(by dsimp only;omega)(by dsimp only;omega)(by dsimp only;omega)(by dsimp only;omega)(by dsimp only;omega)(by dsimp only;omega)
 refine zh<|c_addF(zF wz 0)(fun g _=>zF_zero g)<|za<|zS rfl rfl(zca rfl rfl)(fun b1=> ?_)
 refine zS rfl rfl(zca rfl rfl)(fun b2=> ?_)
 refine zS rfl rfl(zca rfl rfl)(fun b3=> ?_)
 refine r_pv rfl rfl(ze rfl)<|zj<|zc<|zh<|za<|r_pv rfl rfl(zK zr89 rfl Try.underlying89 sz34 .n .n)<|zS rfl rfl(zn zr89 rfl)(fun b4=> ?_)
 refine zx 0 rfl rfl rfl rfl rfl sz89 rfl(.take(.take(.take(.take(.take(.take .nil)))))) .z<|zj<|zc<|zh<|zla(OW:=[])(O:=[boxA b4 89 [.bool false,.slice none 0 0,.bool false,.slice none 0 0,.bool false,.slice none 0 0],boxA b3 89 [wd0.b,wd0.l,wd1.b,wd1.l,wd2.b,wd2.l],boxA b2 89 [wb0.b,wb0.l,wb1.b,wb1.l,wb2.b,wb2.l],boxA b1 89 [wa0.b,wa0.l,wa1.b,wa1.l,wa2.b,wa2.l]]) 12 mixed(.then .ret)(by kernel_rfl)<|d_u 0 rfl rfl(by kernel_rfl)(by kernel_rfl)rfl rfl(zf 3 ty89 rfl rfl(.take(.take(.take(.take(.take(.take .nil)))))))<|d_u 1 rfl rfl(by kernel_rfl)(by kernel_rfl)rfl rfl(zf 2 ty89 rfl rfl(.take(.take(.take(.take(.take(.take .nil)))))))<|d_u 3 rfl rfl(by kernel_rfl)(by kernel_rfl)rfl rfl(zf 2 ty89 rfl rfl(.take(.take(.take(.take(.take(.take .nil)))))))<|d_u 4 rfl rfl(by kernel_rfl)(by kernel_rfl)rfl rfl(zf 1 ty89 rfl rfl(.take(.take(.take(.take(.take(.take .nil)))))))<|d_u 6 rfl rfl(by kernel_rfl)(by kernel_rfl)rfl rfl(zf 1 ty89 rfl rfl(.take(.take(.take(.take(.take(.take .nil)))))))<|d_u 7 rfl rfl(by kernel_rfl)(by kernel_rfl)rfl rfl(zf 3 ty89 rfl rfl(.take(.take(.take(.take(.take(.take .nil)))))))<|zPb(m':=[(21,.agg#[wa0.b,wa0.l,wa1.b,wa1.l,wa2.b,wa2.l]),(20,.agg#[wd0.b,wd0.l,wd1.b,wd1.l,wd2.b,wd2.l]),(18,.agg#[wd0.b,wd0.l,wd1.b,wd1.l,wd2.b,wd2.l]),(17,.agg#[wb0.b,wb0.l,wb1.b,wb1.l,wb2.b,wb2.l]),(15,.agg#[wb0.b,wb0.l,wb1.b,wb1.l,wb2.b,wb2.l]),(14,.agg#[wa0.b,wa0.l,wa1.b,wa1.l,wa2.b,wa2.l]),(7,.pointer(some⟨b4,0,none⟩)),(6,.bool false),(5,.pointer(some⟨b3,0,none⟩)),(4,.pointer(some⟨b2,0,none⟩)),(3,.pointer(some⟨b1,0,none⟩))])(R':=[zF wz 0,zF wa0 ex,zF wa1 ey,zF wa2 ez,zF wb0 fx,zF wb1 fy,zF wb2 fz,zF wd0 gx,zF wd1 gy,zF wd2 gz])((.of rfl):SubM _ _)(List.Perm.refl _)(List.Perm.refl _)((.of [0,1,2,3,4,5,6,7,8,9]rfl):SelR _ _ _)<|zL(X:=Wd×Wd×Wd×Wd×Wd×Wd×Wd×Wd×Wd×Nat×Nat×Nat)(k':=0)(L':=(lb 15 32767))(fun(u2_1,u2_2,u2_3,u5_1,u5_2,u5_3,u8_1,u8_2,u8_3,u9_1,u10_1,u11_1)=>([(10,.pointer(some⟨u11_1,0,none⟩)),(9,.pointer(some⟨u10_1,0,none⟩)),(8,.pointer(some⟨u9_1,0,none⟩)),(7,.pointer(some⟨b4,0,none⟩)),(6,.bool false),(5,.pointer(some⟨b3,0,none⟩)),(4,.pointer(some⟨b2,0,none⟩)),(3,.pointer(some⟨b1,0,none⟩))],[boxA u11_1 89(cw [u8_1,u8_2,u8_3]),boxA u10_1 89(cw [u5_1,u5_2,u5_3]),boxA u9_1 89(cw [u2_1,u2_2,u2_3])],[boxA b4 89 [.bool false,.slice none 0 0,.bool false,.slice none 0 0,.bool false,.slice none 0 0],boxA b3 89(cw [wd0,wd1,wd2]),boxA b2 89(cw [wb0,wb1,wb2]),boxA b1 89(cw [wa0,wa1,wa2])],[zF u8_1(gy*ez - gz*ey),zF u8_2(gz*ex - gx*ez),zF u8_3(gx*ey - gy*ex),zF u5_1(fy*gz - fz*gy),zF u5_2(fz*gx - fx*gz),zF u5_3(fx*gy - fy*gx),zF u2_1(ey*fz - ez*fy),zF u2_2(ez*fx - ex*fz),zF u2_3(ex*fy - ey*fx),zF wz 0,zF wa0 ex,zF wa1 ey,zF wa2 ez,zF wb0 fx,zF wb1 fy,zF wb2 fz,zF wd0 gx,zF wd1 gy,zF wd2 gz])) ?_(fun hD0=> ?_)
 ·
  rintro ⟨u2_1,u2_2,u2_3,u5_1,u5_2,u5_3,u8_1,u8_2,u8_3,u9_1,u10_1,u11_1⟩
  dsimp only [cw]
  refine zma(by kernel_rfl)<|zc<|zh<|zh<|za<|r_pv rfl rfl(zb rfl)<|zj<|zc<|zr<|zSa<|zQ<|zh<|za<|r_pv rfl rfl(zD rfl rfl)<|zj<|zc<|zh<|zT rfl rfl<|zw<|zc<|zh<|zr<|zh<|za<|r_pv rfl rfl(zb rfl)<|r_pv rfl rfl(ze rfl)<|zj<|zc<|zgb(.c(i:=3)rfl(.c(i:=0)rfl(.c(i:=0)rfl(.c(i:=0)rfl(.c(i:=0)rfl(.c(i:=0)rfl(.c(i:=0)rfl .n)))))))<|zla(OW:=[boxA b4 89 [.bool false,.slice none 0 0,.bool false,.slice none 0 0,.bool false,.slice none 0 0]])(O:=[boxA u11_1 89 [u8_1.b,u8_1.l,u8_2.b,u8_2.l,u8_3.b,u8_3.l],boxA u10_1 89 [u5_1.b,u5_1.l,u5_2.b,u5_2.l,u5_3.b,u5_3.l],boxA u9_1 89 [u2_1.b,u2_1.l,u2_2.b,u2_2.l,u2_3.b,u2_3.l],boxA b3 89 [wd0.b,wd0.l,wd1.b,wd1.l,wd2.b,wd2.l],boxA b2 89 [wb0.b,wb0.l,wb1.b,wb1.l,wb2.b,wb2.l],boxA b1 89 [wa0.b,wa0.l,wa1.b,wa1.l,wa2.b,wa2.l]]) 13 mixed(.block(.then(.then(.block(.then .ret)))))(by kernel_rfl)<|d_pv 0 rfl rfl(by kernel_rfl)(by kernel_rfl)rfl rfl(zb rfl)<|d_pv 1 rfl rfl(by kernel_rfl)(by kernel_rfl)rfl rfl(zb rfl)<|d_pv 2 rfl rfl(by kernel_rfl)(by kernel_rfl)rfl rfl(zg(i:=0)Try.underlying89 sz34 rfl rfl(by decide)rfl)<|d_uw 3 rfl rfl(by kernel_rfl)(by kernel_rfl)(by kernel_rfl)rfl rfl(zf 3 ty34 rfl rfl(.take(.take .nil)))<|d_pv 4 rfl rfl(by kernel_rfl)(by kernel_rfl)rfl rfl(zb rfl)<|d_pv 5 rfl rfl(by kernel_rfl)(by kernel_rfl)rfl rfl(zg(i:=0)Try.underlying89 sz34 rfl rfl(by decide)rfl)<|d_uw 6 rfl rfl(by kernel_rfl)(by kernel_rfl)(by kernel_rfl)rfl rfl(zf 2 ty34 rfl rfl(.take(.take .nil)))<|d_pv 7 rfl rfl(by kernel_rfl)(by kernel_rfl)rfl rfl(zb rfl)<|d_pv 8 rfl rfl(by kernel_rfl)(by kernel_rfl)rfl rfl(zg(i:=0)Try.underlying89 sz34 rfl rfl(by decide)rfl)<|d_uw 9 rfl rfl(by kernel_rfl)(by kernel_rfl)(by kernel_rfl)rfl rfl(zf 1 ty34 rfl rfl(.take(.take .nil)))<|zE 10(by kernel_rfl)(zu rfl rfl rfl rfl(.c rfl(.c rfl .n))ce59(zlb(w1:=u5_1)(w2:=u8_1)(x1:=(fy*gz - fz*gy))(x2:=(gy*ez - gz*ey))(hb1:=by omega)(hb2:=by omega))(.c(j:=3)rfl(.c(j:=0)rfl .n)) ?_)
  rintro w35 -
  dsimp only [List.append_eq,List.nil_append,List.cons_append]
  refine zE 11(by kernel_rfl)(zu rfl rfl rfl rfl(.c rfl(.c rfl .n))ce59(zlb(w1:=u2_1)(w2:=w35)(x1:=(ey*fz - ez*fy))(x2:=(fy*gz - fz*gy)+(gy*ez - gz*ey))(hb1:=by omega)(hb2:=by omega))(.c(j:=7)rfl(.c(j:=0)rfl .n)) ?_)
  rintro w36 -
  dsimp only [List.append_eq,List.nil_append,List.cons_append]
  refine d_pv 12 rfl rfl(by kernel_rfl)(by kernel_rfl)rfl rfl(zg(i:=0)Try.underlying89 sz34 rfl rfl(by decide)rfl)<|zE 13(by kernel_rfl)(zM(by kernel_rfl)rfl rfl rfl rfl rfl sz34 rfl(.take(.take .nil)) ?_)
  refine zma(by kernel_rfl)<|zA<|zc<|za<|r_pv rfl rfl(zC(z:=1)rfl rfl(w64(by decide)))<|r_pv rfl rfl(zb rfl)<|zj<|zba<|zQ<|zh<|za<|r_pv rfl rfl(zD rfl rfl)<|zj<|zc<|zh<|zT rfl rfl<|zw<|zc<|zh<|zr<|zh<|za<|r_pv rfl rfl(zb rfl)<|r_pv rfl rfl(ze rfl)<|zj<|zc<|zla(OW:=[boxA b4 89 [w36.b,w36.l,.bool false,.slice none 0 0,.bool false,.slice none 0 0]])(O:=[boxA u11_1 89 [u8_1.b,u8_1.l,u8_2.b,u8_2.l,u8_3.b,u8_3.l],boxA u10_1 89 [u5_1.b,u5_1.l,u5_2.b,u5_2.l,u5_3.b,u5_3.l],boxA u9_1 89 [u2_1.b,u2_1.l,u2_2.b,u2_2.l,u2_3.b,u2_3.l],boxA b3 89 [wd0.b,wd0.l,wd1.b,wd1.l,wd2.b,wd2.l],boxA b2 89 [wb0.b,wb0.l,wb1.b,wb1.l,wb2.b,wb2.l],boxA b1 89 [wa0.b,wa0.l,wa1.b,wa1.l,wa2.b,wa2.l]]) 13 mixed(.block(.then(.then(.block(.then .ret)))))(by kernel_rfl)<|d_pv 0 rfl rfl(by kernel_rfl)(by kernel_rfl)rfl rfl(zb rfl)<|d_pv 1 rfl rfl(by kernel_rfl)(by kernel_rfl)rfl rfl(zb rfl)<|d_pv 2 rfl rfl(by kernel_rfl)(by kernel_rfl)rfl rfl(zg(i:=1)Try.underlying89 sz34 rfl rfl(by decide)rfl)<|d_uw 3 rfl rfl(by kernel_rfl)(by kernel_rfl)(by kernel_rfl)rfl rfl(zf 3 ty34 rfl rfl(.skip(.skip(.take(.take .nil)))))<|d_pv 4 rfl rfl(by kernel_rfl)(by kernel_rfl)rfl rfl(zb rfl)<|d_pv 5 rfl rfl(by kernel_rfl)(by kernel_rfl)rfl rfl(zg(i:=1)Try.underlying89 sz34 rfl rfl(by decide)rfl)<|d_uw 6 rfl rfl(by kernel_rfl)(by kernel_rfl)(by kernel_rfl)rfl rfl(zf 2 ty34 rfl rfl(.skip(.skip(.take(.take .nil)))))<|d_pv 7 rfl rfl(by kernel_rfl)(by kernel_rfl)rfl rfl(zb rfl)<|d_pv 8 rfl rfl(by kernel_rfl)(by kernel_rfl)rfl rfl(zg(i:=1)Try.underlying89 sz34 rfl rfl(by decide)rfl)<|d_uw 9 rfl rfl(by kernel_rfl)(by kernel_rfl)(by kernel_rfl)rfl rfl(zf 1 ty34 rfl rfl(.skip(.skip(.take(.take .nil)))))<|zE 10(by kernel_rfl)(zu rfl rfl rfl rfl(.c rfl(.c rfl .n))ce59(zlb(w1:=u5_2)(w2:=u8_2)(x1:=(fz*gx - fx*gz))(x2:=(gz*ex - gx*ez))(hb1:=by omega)(hb2:=by omega))(.c(j:=6)rfl(.c(j:=3)rfl .n)) ?_)
  rintro w37 -
  dsimp only [List.append_eq,List.nil_append,List.cons_append]
  refine zE 11(by kernel_rfl)(zu rfl rfl rfl rfl(.c rfl(.c rfl .n))ce59(zlb(w1:=u2_2)(w2:=w37)(x1:=(ez*fx - ex*fz))(x2:=(fz*gx - fx*gz)+(gz*ex - gx*ez))(hb1:=by omega)(hb2:=by omega))(.c(j:=10)rfl(.c(j:=0)rfl .n)) ?_)
  rintro w38 -
  dsimp only [List.append_eq,List.nil_append,List.cons_append]
  refine d_pv 12 rfl rfl(by kernel_rfl)(by kernel_rfl)rfl rfl(zg(i:=1)Try.underlying89 sz34 rfl rfl(by decide)rfl)<|zE 13(by kernel_rfl)(zM(by kernel_rfl)rfl rfl rfl rfl rfl sz34 rfl(.skip(.skip(.take(.take .nil)))) ?_)
  refine zma(by kernel_rfl)<|zA<|zc<|za<|r_pv rfl rfl(zC(z:=2)rfl rfl(w64(by decide)))<|r_pv rfl rfl(zb rfl)<|zj<|zba<|zQ<|zh<|za<|r_pv rfl rfl(zD rfl rfl)<|zj<|zc<|zh<|zT rfl rfl<|zw<|zc<|zh<|zr<|zh<|za<|r_pv rfl rfl(zb rfl)<|r_pv rfl rfl(ze rfl)<|zj<|zc<|zla(OW:=[boxA b4 89 [w36.b,w36.l,w38.b,w38.l,.bool false,.slice none 0 0]])(O:=[boxA u11_1 89 [u8_1.b,u8_1.l,u8_2.b,u8_2.l,u8_3.b,u8_3.l],boxA u10_1 89 [u5_1.b,u5_1.l,u5_2.b,u5_2.l,u5_3.b,u5_3.l],boxA u9_1 89 [u2_1.b,u2_1.l,u2_2.b,u2_2.l,u2_3.b,u2_3.l],boxA b3 89 [wd0.b,wd0.l,wd1.b,wd1.l,wd2.b,wd2.l],boxA b2 89 [wb0.b,wb0.l,wb1.b,wb1.l,wb2.b,wb2.l],boxA b1 89 [wa0.b,wa0.l,wa1.b,wa1.l,wa2.b,wa2.l]]) 13 mixed(.block(.then(.then(.block(.then .ret)))))(by kernel_rfl)<|d_pv 0 rfl rfl(by kernel_rfl)(by kernel_rfl)rfl rfl(zb rfl)<|d_pv 1 rfl rfl(by kernel_rfl)(by kernel_rfl)rfl rfl(zb rfl)<|d_pv 2 rfl rfl(by kernel_rfl)(by kernel_rfl)rfl rfl(zg(i:=2)Try.underlying89 sz34 rfl rfl(by decide)rfl)<|d_uw 3 rfl rfl(by kernel_rfl)(by kernel_rfl)(by kernel_rfl)rfl rfl(zf 3 ty34 rfl rfl(.skip(.skip(.skip(.skip(.take(.take .nil)))))))<|d_pv 4 rfl rfl(by kernel_rfl)(by kernel_rfl)rfl rfl(zb rfl)<|d_pv 5 rfl rfl(by kernel_rfl)(by kernel_rfl)rfl rfl(zg(i:=2)Try.underlying89 sz34 rfl rfl(by decide)rfl)<|d_uw 6 rfl rfl(by kernel_rfl)(by kernel_rfl)(by kernel_rfl)rfl rfl(zf 2 ty34 rfl rfl(.skip(.skip(.skip(.skip(.take(.take .nil)))))))<|d_pv 7 rfl rfl(by kernel_rfl)(by kernel_rfl)rfl rfl(zb rfl)<|d_pv 8 rfl rfl(by kernel_rfl)(by kernel_rfl)rfl rfl(zg(i:=2)Try.underlying89 sz34 rfl rfl(by decide)rfl)<|d_uw 9 rfl rfl(by kernel_rfl)(by kernel_rfl)(by kernel_rfl)rfl rfl(zf 1 ty34 rfl rfl(.skip(.skip(.skip(.skip(.take(.take .nil)))))))<|zE 10(by kernel_rfl)(zu rfl rfl rfl rfl(.c rfl(.c rfl .n))ce59(zlb(w1:=u5_3)(w2:=u8_3)(x1:=(fx*gy - fy*gx))(x2:=(gx*ey - gy*ex))(hb1:=by omega)(hb2:=by omega))(.c(j:=9)rfl(.c(j:=6)rfl .n)) ?_)
  rintro w39 -
  dsimp only [List.append_eq,List.nil_append,List.cons_append]
  refine zE 11(by kernel_rfl)(zu rfl rfl rfl rfl(.c rfl(.c rfl .n))ce59(zlb(w1:=u2_3)(w2:=w39)(x1:=(ex*fy - ey*fx))(x2:=(fx*gy - fy*gx)+(gx*ey - gy*ex))(hb1:=by omega)(hb2:=by omega))(.c(j:=13)rfl(.c(j:=0)rfl .n)) ?_)
  rintro w310 -
  dsimp only [List.append_eq,List.nil_append,List.cons_append]
  refine d_pv 12 rfl rfl(by kernel_rfl)(by kernel_rfl)rfl rfl(zg(i:=2)Try.underlying89 sz34 rfl rfl(by decide)rfl)<|zE 13(by kernel_rfl)(zM(by kernel_rfl)rfl rfl rfl rfl rfl sz34 rfl(.skip(.skip(.skip(.skip(.take(.take .nil)))))) ?_)
  refine zma(by kernel_rfl)<|zA<|zc<|za<|r_pv rfl rfl(zC(z:=3)rfl rfl(w64(by decide)))<|r_pv rfl rfl(zb rfl)<|zj<|zba<|zQ<|zh<|za<|r_pv rfl rfl(zD rfl rfl)<|zj<|zc<|zh<|zva rfl rfl<|zaa<|zk<|zk<|zt<|zc<|zh<|zh<|za<|r_u rfl rfl(zf 6 ty89 rfl rfl(.take(.take(.take(.take(.take(.take .nil)))))))<|r_u rfl rfl(zf 2 ty89 rfl rfl(.take(.take(.take(.take(.take(.take .nil)))))))<|zea rfl rfl(.c rfl(.c rfl .n))ce60(zjb(ex:=ex)(ey:=ey)(ez:=ez)(wa0:=wa0)(wa1:=wa1)(wa2:=wa2)(fx:=(fy*gz - fz*gy))(fy:=(fz*gx - fx*gz))(fz:=(fx*gy - fy*gx))(wb0:=u5_1)(wb1:=u5_2)(wb2:=u5_3)(hlex:=by omega)(hley:=by omega)(hlez:=by omega)(hlfx:=by omega)(hlfy:=by omega)(hlfz:=by omega))(.c(j:=16)rfl(.c(j:=17)rfl(.c(j:=18)rfl(.c(j:=9)rfl(.c(j:=10)rfl(.c(j:=11)rfl .n)))))) ?_
  rintro w311 -
  dsimp only [List.append_eq,List.nil_append,List.cons_append]
  refine zY rfl rfl(.c rfl .n)ce81(zVa(w1:=w311)(x1:=Ms.dot(ex,ey,ez)((fy*gz - fz*gy),(fz*gx - fx*gz),(fx*gy - fy*gx))))(.c(j:=0)rfl .n)<|r_pv rfl rfl(zZa rfl rfl)<|zj<|zc<|zI rfl(fun hdet=> ?_)(fun hdet=> ?_)
  ·
   refine zh<|za<|r_pv rfl rfl(ze rfl)<|zj<|zc<|zP<|zl ?_
   exact zG Try.results80()trivial(zz rfl)(congrArg Value.bool(Ms.holds_1 hdet))(ho:=(.n:PickO _ _ _))(.n:SelR _ _ _)
  ·
   refine zw<|zc<|zh<|zh<|za<|r_u rfl rfl(zf 0 ty89 rfl rfl(.take(.take(.take(.take(.take(.take .nil)))))))<|zY rfl rfl(.c rfl .n)ce102(zAd(ex:=(ey*fz - ez*fy)+((fy*gz - fz*gy)+(gy*ez - gz*ey)))(ey:=(ez*fx - ex*fz)+((fz*gx - fx*gz)+(gz*ex - gx*ez)))(ez:=(ex*fy - ey*fx)+((fx*gy - fy*gx)+(gx*ey - gy*ex)))(wa0:=w36)(wa1:=w38)(wa2:=w310)(hlex:=by omega)(hley:=by omega)(hlez:=by omega))(.c(j:=5)rfl(.c(j:=3)rfl(.c(j:=1)rfl .n)))<|r_pv rfl rfl(zpc rfl)<|zj<|zc<|zI rfl(fun hz=> ?_)(fun hz=> ?_)
   ·
    refine zLa(X:=Unit)(fun x=>True)(fun x=>[(6,.bool(decide(((0≤(Ms.dot((ey*fz - ez*fy),(ez*fx - ex*fz),(ex*fy - ey*fx))(((ey*fz - ez*fy)+((fy*gz - fz*gy)+(gy*ez - gz*ey))),((ez*fx - ex*fz)+((fz*gx - fx*gz)+(gz*ex - gx*ez))),((ex*fy - ey*fx)+((fx*gy - fy*gx)+(gx*ey - gy*ex))))).sign)∧(0≤(Ms.dot((fy*gz - fz*gy),(fz*gx - fx*gz),(fx*gy - fy*gx))(((ey*fz - ez*fy)+((fy*gz - fz*gy)+(gy*ez - gz*ey))),((ez*fx - ex*fz)+((fz*gx - fx*gz)+(gz*ex - gx*ez))),((ex*fy - ey*fx)+((fx*gy - fy*gx)+(gx*ey - gy*ex))))).sign))∧(0≤(Ms.dot((gy*ez - gz*ey),(gz*ex - gx*ez),(gx*ey - gy*ex))(((ey*fz - ez*fy)+((fy*gz - fz*gy)+(gy*ez - gz*ey))),((ez*fx - ex*fz)+((fz*gx - fx*gz)+(gz*ex - gx*ez))),((ex*fy - ey*fx)+((fx*gy - fy*gx)+(gx*ey - gy*ex))))).sign)))),(10,.pointer(some⟨u11_1,0,none⟩)),(9,.pointer(some⟨u10_1,0,none⟩)),(8,.pointer(some⟨u9_1,0,none⟩)),(5,.pointer(some⟨b3,0,none⟩)),(4,.pointer(some⟨b2,0,none⟩)),(3,.pointer(some⟨b1,0,none⟩))])(fun x=>[boxA b4 89(cw [w36,w38,w310]),boxA u11_1 89(cw [u8_1,u8_2,u8_3]),boxA u10_1 89(cw [u5_1,u5_2,u5_3]),boxA u9_1 89(cw [u2_1,u2_2,u2_3]),boxA b3 89(cw [wd0,wd1,wd2]),boxA b2 89(cw [wb0,wb1,wb2]),boxA b1 89(cw [wa0,wa1,wa2])])(fun x=>[zF w311(Ms.dot(ex,ey,ez)((fy*gz - fz*gy),(fz*gx - fx*gz),(fx*gy - fy*gx))),zF w310((ex*fy - ey*fx)+((fx*gy - fy*gx)+(gx*ey - gy*ex))),zF w39((fx*gy - fy*gx)+(gx*ey - gy*ex)),zF w38((ez*fx - ex*fz)+((fz*gx - fx*gz)+(gz*ex - gx*ez))),zF w37((fz*gx - fx*gz)+(gz*ex - gx*ez)),zF w36((ey*fz - ez*fy)+((fy*gz - fz*gy)+(gy*ez - gz*ey))),zF w35((fy*gz - fz*gy)+(gy*ez - gz*ey)),zF u8_1(gy*ez - gz*ey),zF u8_2(gz*ex - gx*ez),zF u8_3(gx*ey - gy*ex),zF u5_1(fy*gz - fz*gy),zF u5_2(fz*gx - fx*gz),zF u5_3(fx*gy - fy*gx),zF u2_1(ey*fz - ez*fy),zF u2_2(ez*fx - ex*fz),zF u2_3(ex*fy - ey*fx),zF wz 0,zF wa0 ex,zF wa1 ey,zF wa2 ez,zF wb0 fx,zF wb1 fy,zF wb2 fz,zF wd0 gx,zF wd1 gy,zF wd2 gz]) ?_ ?_
    ·
     refine za<|r_u rfl rfl(zf 3 ty89 rfl rfl(.take(.take(.take(.take(.take(.take .nil)))))))<|r_u rfl rfl(zf 0 ty89 rfl rfl(.take(.take(.take(.take(.take(.take .nil)))))))<|zea rfl rfl(.c rfl(.c rfl .n))ce60(zjb(ex:=(ey*fz - ez*fy))(ey:=(ez*fx - ex*fz))(ez:=(ex*fy - ey*fx))(wa0:=u2_1)(wa1:=u2_2)(wa2:=u2_3)(fx:=(ey*fz - ez*fy)+((fy*gz - fz*gy)+(gy*ez - gz*ey)))(fy:=(ez*fx - ex*fz)+((fz*gx - fx*gz)+(gz*ex - gx*ez)))(fz:=(ex*fy - ey*fx)+((fx*gy - fy*gx)+(gx*ey - gy*ex)))(wb0:=w36)(wb1:=w38)(wb2:=w310)(hlex:=by omega)(hley:=by omega)(hlez:=by omega)(hlfx:=by omega)(hlfy:=by omega)(hlfz:=by omega))(.c(j:=13)rfl(.c(j:=14)rfl(.c(j:=15)rfl(.c(j:=5)rfl(.c(j:=3)rfl(.c(j:=1)rfl .n)))))) ?_
     rintro w312 -
     dsimp only [List.append_eq,List.nil_append,List.cons_append]
     refine zY rfl rfl(.c rfl .n)ce81(zVa(w1:=w312)(x1:=Ms.dot((ey*fz - ez*fy),(ez*fx - ex*fz),(ex*fy - ey*fx))(((ey*fz - ez*fy)+((fy*gz - fz*gy)+(gy*ez - gz*ey))),((ez*fx - ex*fz)+((fz*gx - fx*gz)+(gz*ex - gx*ez))),((ex*fy - ey*fx)+((fx*gy - fy*gx)+(gx*ey - gy*ex))))))(.c(j:=0)rfl .n)<|r_pv rfl rfl(zeb rfl rfl)<|zZ rfl rfl(zb rfl)(fun h13=> ?_)(fun h13=> ?_)
     ·
      refine r_u rfl rfl(zf 2 ty89 rfl rfl(.take(.take(.take(.take(.take(.take .nil)))))))<|r_u rfl rfl(zf 0 ty89 rfl rfl(.take(.take(.take(.take(.take(.take .nil)))))))<|zea rfl rfl(.c rfl(.c rfl .n))ce60(zjb(ex:=(fy*gz - fz*gy))(ey:=(fz*gx - fx*gz))(ez:=(fx*gy - fy*gx))(wa0:=u5_1)(wa1:=u5_2)(wa2:=u5_3)(fx:=(ey*fz - ez*fy)+((fy*gz - fz*gy)+(gy*ez - gz*ey)))(fy:=(ez*fx - ex*fz)+((fz*gx - fx*gz)+(gz*ex - gx*ez)))(fz:=(ex*fy - ey*fx)+((fx*gy - fy*gx)+(gx*ey - gy*ex)))(wb0:=w36)(wb1:=w38)(wb2:=w310)(hlex:=by omega)(hley:=by omega)(hlez:=by omega)(hlfx:=by omega)(hlfy:=by omega)(hlfz:=by omega))(.c(j:=11)rfl(.c(j:=12)rfl(.c(j:=13)rfl(.c(j:=6)rfl(.c(j:=4)rfl(.c(j:=2)rfl .n)))))) ?_
      rintro w314 -
      dsimp only [List.append_eq,List.nil_append,List.cons_append]
      refine zY rfl rfl(.c rfl .n)ce81(zVa(w1:=w314)(x1:=Ms.dot((fy*gz - fz*gy),(fz*gx - fx*gz),(fx*gy - fy*gx))(((ey*fz - ez*fy)+((fy*gz - fz*gy)+(gy*ez - gz*ey))),((ez*fx - ex*fz)+((fz*gx - fx*gz)+(gz*ex - gx*ez))),((ex*fy - ey*fx)+((fx*gy - fy*gx)+(gx*ey - gy*ex))))))(.c(j:=0)rfl .n)<|r_pv rfl rfl(zeb rfl rfl)<|r_pv rfl rfl(zy rfl rfl)<|zZ rfl rfl(zb rfl)(fun h15=> ?_)(fun h15=> ?_)
      ·
       refine r_u rfl rfl(zf 1 ty89 rfl rfl(.take(.take(.take(.take(.take(.take .nil)))))))<|r_u rfl rfl(zf 0 ty89 rfl rfl(.take(.take(.take(.take(.take(.take .nil)))))))<|zea rfl rfl(.c rfl(.c rfl .n))ce60(zjb(ex:=(gy*ez - gz*ey))(ey:=(gz*ex - gx*ez))(ez:=(gx*ey - gy*ex))(wa0:=u8_1)(wa1:=u8_2)(wa2:=u8_3)(fx:=(ey*fz - ez*fy)+((fy*gz - fz*gy)+(gy*ez - gz*ey)))(fy:=(ez*fx - ex*fz)+((fz*gx - fx*gz)+(gz*ex - gx*ez)))(fz:=(ex*fy - ey*fx)+((fx*gy - fy*gx)+(gx*ey - gy*ex)))(wb0:=w36)(wb1:=w38)(wb2:=w310)(hlex:=by omega)(hley:=by omega)(hlez:=by omega)(hlfx:=by omega)(hlfy:=by omega)(hlfz:=by omega))(.c(j:=9)rfl(.c(j:=10)rfl(.c(j:=11)rfl(.c(j:=7)rfl(.c(j:=5)rfl(.c(j:=3)rfl .n)))))) ?_
       rintro w316 -
       dsimp only [List.append_eq,List.nil_append,List.cons_append]
       refine zY rfl rfl(.c rfl .n)ce81(zVa(w1:=w316)(x1:=Ms.dot((gy*ez - gz*ey),(gz*ex - gx*ez),(gx*ey - gy*ex))(((ey*fz - ez*fy)+((fy*gz - fz*gy)+(gy*ez - gz*ey))),((ez*fx - ex*fz)+((fz*gx - fx*gz)+(gz*ex - gx*ez))),((ex*fy - ey*fx)+((fx*gy - fy*gx)+(gx*ey - gy*ex))))))(.c(j:=0)rfl .n)<|r_pv rfl rfl(zeb rfl rfl)<|r_pv rfl rfl(zy rfl rfl)<|r_pv rfl rfl(ze rfl)<|zj ?_
       exact zfa()(show True from by first|trivial|omega|simp_all)((.e rfl(congrArg Value.bool(by first|(simp_all;done)|(simp_all;omega)|(simp;omega)|omega))(.of rfl)):SubM _ _)(ho:=((.of [0,0,0,0,0,0,0]rfl):PickO _ _ _))((.of [3,4,5,6,7,8,9,10,11,12,13,14,15,16,17,18,19,20,21,22,23,24,25,26,27,28]rfl):SelR _ _ _)
      ·
       refine zi rfl rfl<|zi rfl rfl<|zi rfl rfl<|zi rfl rfl<|zi rfl rfl<|r_pv rfl rfl(zy rfl rfl)<|r_pv rfl rfl(ze rfl)<|zj ?_
       exact zfa()(show True from by first|trivial|omega|simp_all)((.e rfl(congrArg Value.bool(by first|(simp_all;done)|(simp_all;omega)|(simp;omega)|omega))(.of rfl)):SubM _ _)(ho:=((.of [0,0,0,0,0,0,0]rfl):PickO _ _ _))((.of [2,3,4,5,6,7,8,9,10,11,12,13,14,15,16,17,18,19,20,21,22,23,24,25,26,27]rfl):SelR _ _ _)
     ·
      refine zi rfl rfl<|zi rfl rfl<|zi rfl rfl<|zi rfl rfl<|zi rfl rfl<|r_pv rfl rfl(zy rfl rfl)<|r_pv rfl rfl(zb rfl)<|zi rfl rfl<|zi rfl rfl<|zi rfl rfl<|zi rfl rfl<|zi rfl rfl<|r_pv rfl rfl(zy rfl rfl)<|r_pv rfl rfl(ze rfl)<|zj ?_
      exact zfa()(show True from by first|trivial|omega|simp_all)((.e rfl(congrArg Value.bool(by first|(simp_all;done)|(simp_all;omega)|(simp;omega)|omega))(.of rfl)):SubM _ _)(ho:=((.of [0,0,0,0,0,0,0]rfl):PickO _ _ _))((.of [1,2,3,4,5,6,7,8,9,10,11,12,13,14,15,16,17,18,19,20,21,22,23,24,25,26]rfl):SelR _ _ _)
    ·
     rintro ⟨⟩ -
     try dsimp only [cw]
     refine zP<|zl ?_
     exact zG Try.results80()trivial(zz rfl)(congrArg Value.bool(Ms.holds_2(Decidable.not_not.1 hdet)hz))(ho:=(.n:PickO _ _ _))(.n:SelR _ _ _)
   ·
    refine zw<|zc<|zh<|za<|r_pv rfl rfl(ze rfl)<|zj<|zc<|zLa(X:=Unit)(fun x=>True)(fun x=>[(6,.bool(decide(((Ms.dot((ey*fz - ez*fy),(ez*fx - ex*fz),(ex*fy - ey*fx))((ey*fz - ez*fy),(ez*fx - ex*fz),(ex*fy - ey*fx))=0∧Ms.dot(ex,ey,ez)(fx,fy,fz)≤0)∨(Ms.dot((fy*gz - fz*gy),(fz*gx - fx*gz),(fx*gy - fy*gx))((fy*gz - fz*gy),(fz*gx - fx*gz),(fx*gy - fy*gx))=0∧Ms.dot(fx,fy,fz)(gx,gy,gz)≤0))∨(Ms.dot((gy*ez - gz*ey),(gz*ex - gx*ez),(gx*ey - gy*ex))((gy*ez - gz*ey),(gz*ex - gx*ez),(gx*ey - gy*ex))=0∧Ms.dot(gx,gy,gz)(ex,ey,ez)≤0))))])(fun x=>[boxA b4 89(cw [w36,w38,w310]),boxA u11_1 89(cw [u8_1,u8_2,u8_3]),boxA u10_1 89(cw [u5_1,u5_2,u5_3]),boxA u9_1 89(cw [u2_1,u2_2,u2_3]),boxA b3 89(cw [wd0,wd1,wd2]),boxA b2 89(cw [wb0,wb1,wb2]),boxA b1 89(cw [wa0,wa1,wa2])])(fun x=>[zF w311(Ms.dot(ex,ey,ez)((fy*gz - fz*gy),(fz*gx - fx*gz),(fx*gy - fy*gx))),zF w310((ex*fy - ey*fx)+((fx*gy - fy*gx)+(gx*ey - gy*ex))),zF w39((fx*gy - fy*gx)+(gx*ey - gy*ex)),zF w38((ez*fx - ex*fz)+((fz*gx - fx*gz)+(gz*ex - gx*ez))),zF w37((fz*gx - fx*gz)+(gz*ex - gx*ez)),zF w36((ey*fz - ez*fy)+((fy*gz - fz*gy)+(gy*ez - gz*ey))),zF w35((fy*gz - fz*gy)+(gy*ez - gz*ey)),zF u8_1(gy*ez - gz*ey),zF u8_2(gz*ex - gx*ez),zF u8_3(gx*ey - gy*ex),zF u5_1(fy*gz - fz*gy),zF u5_2(fz*gx - fx*gz),zF u5_3(fx*gy - fy*gx),zF u2_1(ey*fz - ez*fy),zF u2_2(ez*fx - ex*fz),zF u2_3(ex*fy - ey*fx),zF wz 0,zF wa0 ex,zF wa1 ey,zF wa2 ez,zF wb0 fx,zF wb1 fy,zF wb2 fz,zF wd0 gx,zF wd1 gy,zF wd2 gz]) ?_ ?_
    ·
     refine za<|r_pv rfl rfl(zb rfl)<|r_u rfl rfl(zf 6 ty89 rfl rfl(.take(.take(.take(.take(.take(.take .nil)))))))<|r_u rfl rfl(zf 5 ty89 rfl rfl(.take(.take(.take(.take(.take(.take .nil)))))))<|r_u rfl rfl(zf 3 ty89 rfl rfl(.take(.take(.take(.take(.take(.take .nil)))))))<|zjc(first:=[])(cap:=[])rfl rfl rfl(.c rfl(.c rfl(.c rfl .n)))ce103(zfc(ex:=ex)(ey:=ey)(ez:=ez)(wa0:=wa0)(wa1:=wa1)(wa2:=wa2)(fx:=fx)(fy:=fy)(fz:=fz)(wb0:=wb0)(wb1:=wb1)(wb2:=wb2)(gx:=(ey*fz - ez*fy))(gy:=(ez*fx - ex*fz))(gz:=(ex*fy - ey*fx))(wd0:=u2_1)(wd1:=u2_2)(wd2:=u2_3)(hlex:=by omega)(hley:=by omega)(hlez:=by omega)(hlfx:=by omega)(hlfy:=by omega)(hlfz:=by omega)(hlgx:=by omega)(hlgy:=by omega)(hlgz:=by omega))(.c(j:=17)rfl(.c(j:=18)rfl(.c(j:=19)rfl(.c(j:=20)rfl(.c(j:=21)rfl(.c(j:=22)rfl(.c(j:=13)rfl(.c(j:=14)rfl(.c(j:=15)rfl .n))))))))) ?_
     rintro ⟨⟩ -
     dsimp only [List.append_eq,List.nil_append,List.cons_append]
     refine zZ rfl rfl(zb rfl)(fun h17=> ?_)(fun h17=> ?_)
     ·
      refine zi rfl rfl<|zi rfl rfl<|zi rfl rfl<|zi rfl rfl<|zi rfl rfl<|r_pv rfl rfl(zy rfl rfl)<|r_pv rfl rfl(zb rfl)<|zi rfl rfl<|zi rfl rfl<|zi rfl rfl<|zi rfl rfl<|zi rfl rfl<|r_pv rfl rfl(zy rfl rfl)<|r_pv rfl rfl(ze rfl)<|zj ?_
      exact zfa()(show True from by first|trivial|omega|simp_all)((.e rfl(congrArg Value.bool(by first|(simp_all;done)|(simp_all;omega)|(simp;omega)|omega)) .n):SubM _ _)(ho:=((.of [0,0,0,0,0,0,0]rfl):PickO _ _ _))((.of [0,1,2,3,4,5,6,7,8,9,10,11,12,13,14,15,16,17,18,19,20,21,22,23,24,25]rfl):SelR _ _ _)
     ·
      refine r_pv rfl rfl(zb rfl)<|r_u rfl rfl(zf 5 ty89 rfl rfl(.take(.take(.take(.take(.take(.take .nil)))))))<|r_u rfl rfl(zf 4 ty89 rfl rfl(.take(.take(.take(.take(.take(.take .nil)))))))<|r_u rfl rfl(zf 2 ty89 rfl rfl(.take(.take(.take(.take(.take(.take .nil)))))))<|zjc(first:=[])(cap:=[])rfl rfl rfl(.c rfl(.c rfl(.c rfl .n)))ce103(zfc(ex:=fx)(ey:=fy)(ez:=fz)(wa0:=wb0)(wa1:=wb1)(wa2:=wb2)(fx:=gx)(fy:=gy)(fz:=gz)(wb0:=wd0)(wb1:=wd1)(wb2:=wd2)(gx:=(fy*gz - fz*gy))(gy:=(fz*gx - fx*gz))(gz:=(fx*gy - fy*gx))(wd0:=u5_1)(wd1:=u5_2)(wd2:=u5_3)(hlex:=by omega)(hley:=by omega)(hlez:=by omega)(hlfx:=by omega)(hlfy:=by omega)(hlfz:=by omega)(hlgx:=by omega)(hlgy:=by omega)(hlgz:=by omega))(.c(j:=20)rfl(.c(j:=21)rfl(.c(j:=22)rfl(.c(j:=23)rfl(.c(j:=24)rfl(.c(j:=25)rfl(.c(j:=10)rfl(.c(j:=11)rfl(.c(j:=12)rfl .n))))))))) ?_
      rintro ⟨⟩ -
      dsimp only [List.append_eq,List.nil_append,List.cons_append]
      refine r_pv rfl rfl(zy rfl rfl)<|zZ rfl rfl(zb rfl)(fun h18=> ?_)(fun h18=> ?_)
      ·
       refine zi rfl rfl<|zi rfl rfl<|zi rfl rfl<|zi rfl rfl<|zi rfl rfl<|r_pv rfl rfl(zy rfl rfl)<|r_pv rfl rfl(ze rfl)<|zj ?_
       exact zfa()(show True from by first|trivial|omega|simp_all)((.e rfl(congrArg Value.bool(by first|(simp_all;done)|(simp_all;omega)|(simp;omega)|omega)) .n):SubM _ _)(ho:=((.of [0,0,0,0,0,0,0]rfl):PickO _ _ _))((.of [0,1,2,3,4,5,6,7,8,9,10,11,12,13,14,15,16,17,18,19,20,21,22,23,24,25]rfl):SelR _ _ _)
      ·
       refine r_pv rfl rfl(zb rfl)<|r_u rfl rfl(zf 4 ty89 rfl rfl(.take(.take(.take(.take(.take(.take .nil)))))))<|r_u rfl rfl(zf 6 ty89 rfl rfl(.take(.take(.take(.take(.take(.take .nil)))))))<|r_u rfl rfl(zf 1 ty89 rfl rfl(.take(.take(.take(.take(.take(.take .nil)))))))<|zjc(first:=[])(cap:=[])rfl rfl rfl(.c rfl(.c rfl(.c rfl .n)))ce103(zfc(ex:=gx)(ey:=gy)(ez:=gz)(wa0:=wd0)(wa1:=wd1)(wa2:=wd2)(fx:=ex)(fy:=ey)(fz:=ez)(wb0:=wa0)(wb1:=wa1)(wb2:=wa2)(gx:=(gy*ez - gz*ey))(gy:=(gz*ex - gx*ez))(gz:=(gx*ey - gy*ex))(wd0:=u8_1)(wd1:=u8_2)(wd2:=u8_3)(hlex:=by omega)(hley:=by omega)(hlez:=by omega)(hlfx:=by omega)(hlfy:=by omega)(hlfz:=by omega)(hlgx:=by omega)(hlgy:=by omega)(hlgz:=by omega))(.c(j:=23)rfl(.c(j:=24)rfl(.c(j:=25)rfl(.c(j:=17)rfl(.c(j:=18)rfl(.c(j:=19)rfl(.c(j:=7)rfl(.c(j:=8)rfl(.c(j:=9)rfl .n))))))))) ?_
       rintro ⟨⟩ -
       dsimp only [List.append_eq,List.nil_append,List.cons_append]
       refine r_pv rfl rfl(zy rfl rfl)<|r_pv rfl rfl(ze rfl)<|zj ?_
       exact zfa()(show True from by first|trivial|omega|simp_all)((.e rfl(congrArg Value.bool(by first|(simp_all;done)|(simp_all;omega)|(simp;omega)|omega)) .n):SubM _ _)(ho:=((.of [0,0,0,0,0,0,0]rfl):PickO _ _ _))((.of [0,1,2,3,4,5,6,7,8,9,10,11,12,13,14,15,16,17,18,19,20,21,22,23,24,25]rfl):SelR _ _ _)
    ·
     rintro ⟨⟩ -
     try dsimp only [cw]
     refine zP ?_
     exact zG Try.results80()trivial(zz rfl)(congrArg Value.bool(Ms.holds_3(Decidable.not_not.1 hdet)(Decidable.not_not.1 hz)))(ho:=(.n:PickO _ _ _))(.n:SelR _ _ _)
 refine zL(X:=Wd×Wd×Wd×Wd×Wd×Wd×Wd×Wd×Wd×Nat×Nat×Nat)(k':=1)(L':=(lb 15 16383))(fun(u2_1,u2_2,u2_3,u5_1,u5_2,u5_3,u8_1,u8_2,u8_3,u9_1,u10_1,u11_1)=>([(10,.pointer(some⟨u11_1,0,none⟩)),(9,.pointer(some⟨u10_1,0,none⟩)),(8,.pointer(some⟨u9_1,0,none⟩)),(22,.agg(cw [u8_1,u8_2,u8_3]).toArray),(7,.pointer(some⟨b4,0,none⟩)),(6,.bool false),(5,.pointer(some⟨b3,0,none⟩)),(4,.pointer(some⟨b2,0,none⟩)),(3,.pointer(some⟨b1,0,none⟩))],[boxA u10_1 89(cw [u5_1,u5_2,u5_3]),boxA u9_1 89(cw [u2_1,u2_2,u2_3]),boxA u11_1 89 [.bool false,.slice none 0 0,.bool false,.slice none 0 0,.bool false,.slice none 0 0]],[boxA b4 89 [.bool false,.slice none 0 0,.bool false,.slice none 0 0,.bool false,.slice none 0 0],boxA b3 89(cw [wd0,wd1,wd2]),boxA b2 89(cw [wb0,wb1,wb2]),boxA b1 89(cw [wa0,wa1,wa2])],[zF u8_1(gy*ez - gz*ey),zF u8_2(gz*ex - gx*ez),zF u8_3(gx*ey - gy*ex),zF u5_1(fy*gz - fz*gy),zF u5_2(fz*gx - fx*gz),zF u5_3(fx*gy - fy*gx),zF u2_1(ey*fz - ez*fy),zF u2_2(ez*fx - ex*fz),zF u2_3(ex*fy - ey*fx),zF wz 0,zF wa0 ex,zF wa1 ey,zF wa2 ez,zF wb0 fx,zF wb1 fy,zF wb2 fz,zF wd0 gx,zF wd1 gy,zF wd2 gz])) ?_(fun hD1=> ?_)
 ·
  rintro ⟨u2_1,u2_2,u2_3,u5_1,u5_2,u5_3,u8_1,u8_2,u8_3,u9_1,u10_1,u11_1⟩
  dsimp only [cw]
  refine zE 14(by kernel_rfl) ?_
  ·
   refine zzb(zia(i:=2)rfl)<|zM(by kernel_rfl)rfl rfl rfl rfl rfl sz89 rfl(.take(.take(.take(.take(.take(.take .nil)))))) ?_
   exact zp(hD0(u2_1,u2_2,u2_3,u5_1,u5_2,u5_3,u8_1,u8_2,u8_3,u9_1,u10_1,u11_1))(by kernel_rfl)((.of rfl):SubM _ _) .rfl .rfl((.of [0,1,2,3,4,5,6,7,8,9,10,11,12,13,14,15,16,17,18]rfl):SelR _ _ _)
 refine zL(X:=Wd×Wd×Wd×Wd×Wd×Wd×Wd×Wd×Wd×Nat×Nat×Nat)(k':=2)(L':=(lb 15 8191))(fun(u2_1,u2_2,u2_3,u5_1,u5_2,u5_3,u8_1,u8_2,u8_3,u9_1,u10_1,u11_1)=>([(10,.pointer(some⟨u11_1,0,none⟩)),(9,.pointer(some⟨u10_1,0,none⟩)),(8,.pointer(some⟨u9_1,0,none⟩)),(22,.agg(cw [u8_1,u8_2,u8_3]).toArray),(19,.agg(cw [u5_1,u5_2,u5_3]).toArray),(7,.pointer(some⟨b4,0,none⟩)),(6,.bool false),(5,.pointer(some⟨b3,0,none⟩)),(4,.pointer(some⟨b2,0,none⟩)),(3,.pointer(some⟨b1,0,none⟩))],[boxA u9_1 89(cw [u2_1,u2_2,u2_3]),boxA u11_1 89 [.bool false,.slice none 0 0,.bool false,.slice none 0 0,.bool false,.slice none 0 0],boxA u10_1 89 [.bool false,.slice none 0 0,.bool false,.slice none 0 0,.bool false,.slice none 0 0]],[boxA b4 89 [.bool false,.slice none 0 0,.bool false,.slice none 0 0,.bool false,.slice none 0 0],boxA b3 89(cw [wd0,wd1,wd2]),boxA b2 89(cw [wb0,wb1,wb2]),boxA b1 89(cw [wa0,wa1,wa2])],[zF u8_1(gy*ez - gz*ey),zF u8_2(gz*ex - gx*ez),zF u8_3(gx*ey - gy*ex),zF u5_1(fy*gz - fz*gy),zF u5_2(fz*gx - fx*gz),zF u5_3(fx*gy - fy*gx),zF u2_1(ey*fz - ez*fy),zF u2_2(ez*fx - ex*fz),zF u2_3(ex*fy - ey*fx),zF wz 0,zF wa0 ex,zF wa1 ey,zF wa2 ez,zF wb0 fx,zF wb1 fy,zF wb2 fz,zF wd0 gx,zF wd1 gy,zF wd2 gz])) ?_(fun hD2=> ?_)
 ·
  rintro ⟨u2_1,u2_2,u2_3,u5_1,u5_2,u5_3,u8_1,u8_2,u8_3,u9_1,u10_1,u11_1⟩
  dsimp only [cw]
  refine zE 13(by kernel_rfl) ?_
  ·
   refine zzb(zia(i:=2)rfl)<|zM(by kernel_rfl)rfl rfl rfl rfl rfl sz89 rfl(.take(.take(.take(.take(.take(.take .nil)))))) ?_
   exact zp(hD1(u2_1,u2_2,u2_3,u5_1,u5_2,u5_3,u8_1,u8_2,u8_3,u9_1,u10_1,u11_1))(by kernel_rfl)((.of rfl):SubM _ _) .rfl .rfl((.of [0,1,2,3,4,5,6,7,8,9,10,11,12,13,14,15,16,17,18]rfl):SelR _ _ _)
 refine zL(X:=Wd×Wd×Wd×Wd×Wd×Wd×Wd×Wd×Wd×Nat×Nat×Nat)(k':=3)(L':=(lb 15 4095))(fun(u2_1,u2_2,u2_3,u5_1,u5_2,u5_3,u8_1,u8_2,u8_3,u9_1,u10_1,u11_1)=>([(10,.pointer(some⟨u11_1,0,none⟩)),(9,.pointer(some⟨u10_1,0,none⟩)),(8,.pointer(some⟨u9_1,0,none⟩)),(22,.agg(cw [u8_1,u8_2,u8_3]).toArray),(19,.agg(cw [u5_1,u5_2,u5_3]).toArray),(16,.agg(cw [u2_1,u2_2,u2_3]).toArray),(7,.pointer(some⟨b4,0,none⟩)),(6,.bool false),(5,.pointer(some⟨b3,0,none⟩)),(4,.pointer(some⟨b2,0,none⟩)),(3,.pointer(some⟨b1,0,none⟩))],[boxA u11_1 89 [.bool false,.slice none 0 0,.bool false,.slice none 0 0,.bool false,.slice none 0 0],boxA u10_1 89 [.bool false,.slice none 0 0,.bool false,.slice none 0 0,.bool false,.slice none 0 0],boxA u9_1 89 [.bool false,.slice none 0 0,.bool false,.slice none 0 0,.bool false,.slice none 0 0]],[boxA b4 89 [.bool false,.slice none 0 0,.bool false,.slice none 0 0,.bool false,.slice none 0 0],boxA b3 89(cw [wd0,wd1,wd2]),boxA b2 89(cw [wb0,wb1,wb2]),boxA b1 89(cw [wa0,wa1,wa2])],[zF u8_1(gy*ez - gz*ey),zF u8_2(gz*ex - gx*ez),zF u8_3(gx*ey - gy*ex),zF u5_1(fy*gz - fz*gy),zF u5_2(fz*gx - fx*gz),zF u5_3(fx*gy - fy*gx),zF u2_1(ey*fz - ez*fy),zF u2_2(ez*fx - ex*fz),zF u2_3(ex*fy - ey*fx),zF wz 0,zF wa0 ex,zF wa1 ey,zF wa2 ez,zF wb0 fx,zF wb1 fy,zF wb2 fz,zF wd0 gx,zF wd1 gy,zF wd2 gz])) ?_(fun hD3=> ?_)
 ·
  rintro ⟨u2_1,u2_2,u2_3,u5_1,u5_2,u5_3,u8_1,u8_2,u8_3,u9_1,u10_1,u11_1⟩
  dsimp only [cw]
  refine zE 12(by kernel_rfl) ?_
  ·
   refine zzb(zia(i:=2)rfl)<|zM(by kernel_rfl)rfl rfl rfl rfl rfl sz89 rfl(.take(.take(.take(.take(.take(.take .nil)))))) ?_
   exact zp(hD2(u2_1,u2_2,u2_3,u5_1,u5_2,u5_3,u8_1,u8_2,u8_3,u9_1,u10_1,u11_1))(by kernel_rfl)((.of rfl):SubM _ _) .rfl .rfl((.of [0,1,2,3,4,5,6,7,8,9,10,11,12,13,14,15,16,17,18]rfl):SelR _ _ _)
 refine zL(X:=Wd×Wd×Wd×Wd×Wd×Wd×Wd×Wd×Wd×Nat×Nat)(k':=4)(L':=(lb 15 2047))(fun(u2_1,u2_2,u2_3,u5_1,u5_2,u5_3,u8_1,u8_2,u8_3,u9_1,u10_1)=>([(9,.pointer(some⟨u10_1,0,none⟩)),(8,.pointer(some⟨u9_1,0,none⟩)),(22,.agg(cw [u8_1,u8_2,u8_3]).toArray),(19,.agg(cw [u5_1,u5_2,u5_3]).toArray),(16,.agg(cw [u2_1,u2_2,u2_3]).toArray),(7,.pointer(some⟨b4,0,none⟩)),(6,.bool false),(5,.pointer(some⟨b3,0,none⟩)),(4,.pointer(some⟨b2,0,none⟩)),(3,.pointer(some⟨b1,0,none⟩))],[boxA u10_1 89 [.bool false,.slice none 0 0,.bool false,.slice none 0 0,.bool false,.slice none 0 0],boxA u9_1 89 [.bool false,.slice none 0 0,.bool false,.slice none 0 0,.bool false,.slice none 0 0]],[boxA b4 89 [.bool false,.slice none 0 0,.bool false,.slice none 0 0,.bool false,.slice none 0 0],boxA b3 89(cw [wd0,wd1,wd2]),boxA b2 89(cw [wb0,wb1,wb2]),boxA b1 89(cw [wa0,wa1,wa2])],[zF u8_1(gy*ez - gz*ey),zF u8_2(gz*ex - gx*ez),zF u8_3(gx*ey - gy*ex),zF u5_1(fy*gz - fz*gy),zF u5_2(fz*gx - fx*gz),zF u5_3(fx*gy - fy*gx),zF u2_1(ey*fz - ez*fy),zF u2_2(ez*fx - ex*fz),zF u2_3(ex*fy - ey*fx),zF wz 0,zF wa0 ex,zF wa1 ey,zF wa2 ez,zF wb0 fx,zF wb1 fy,zF wb2 fz,zF wd0 gx,zF wd1 gy,zF wd2 gz])) ?_(fun hD4=> ?_)
 ·
  rintro ⟨u2_1,u2_2,u2_3,u5_1,u5_2,u5_3,u8_1,u8_2,u8_3,u9_1,u10_1⟩
  dsimp only [cw]
  refine zE 11(by kernel_rfl) ?_
  ·
   refine zO rfl rfl rfl rfl(zn zr89 rfl)(fun u11_1 _=> ?_)
   exact zp(hD3(u2_1,u2_2,u2_3,u5_1,u5_2,u5_3,u8_1,u8_2,u8_3,u9_1,u10_1,u11_1))(by kernel_rfl)((.of rfl):SubM _ _) .rfl .rfl((.of [0,1,2,3,4,5,6,7,8,9,10,11,12,13,14,15,16,17,18]rfl):SelR _ _ _)
 refine zL(X:=Wd×Wd×Wd×Wd×Wd×Wd×Wd×Wd×Wd×Nat×Nat)(k':=4)(L':=(lb 15 3071))(fun(u2_1,u2_2,u2_3,u5_1,u5_2,u5_3,u8_1,u8_2,u8_3,u9_1,u11_1)=>([(10,.pointer(some⟨u11_1,0,none⟩)),(8,.pointer(some⟨u9_1,0,none⟩)),(22,.agg(cw [u8_1,u8_2,u8_3]).toArray),(19,.agg(cw [u5_1,u5_2,u5_3]).toArray),(16,.agg(cw [u2_1,u2_2,u2_3]).toArray),(7,.pointer(some⟨b4,0,none⟩)),(6,.bool false),(5,.pointer(some⟨b3,0,none⟩)),(4,.pointer(some⟨b2,0,none⟩)),(3,.pointer(some⟨b1,0,none⟩))],[boxA u11_1 89 [.bool false,.slice none 0 0,.bool false,.slice none 0 0,.bool false,.slice none 0 0],boxA u9_1 89 [.bool false,.slice none 0 0,.bool false,.slice none 0 0,.bool false,.slice none 0 0]],[boxA b4 89 [.bool false,.slice none 0 0,.bool false,.slice none 0 0,.bool false,.slice none 0 0],boxA b3 89(cw [wd0,wd1,wd2]),boxA b2 89(cw [wb0,wb1,wb2]),boxA b1 89(cw [wa0,wa1,wa2])],[zF u8_1(gy*ez - gz*ey),zF u8_2(gz*ex - gx*ez),zF u8_3(gx*ey - gy*ex),zF u5_1(fy*gz - fz*gy),zF u5_2(fz*gx - fx*gz),zF u5_3(fx*gy - fy*gx),zF u2_1(ey*fz - ez*fy),zF u2_2(ez*fx - ex*fz),zF u2_3(ex*fy - ey*fx),zF wz 0,zF wa0 ex,zF wa1 ey,zF wa2 ez,zF wb0 fx,zF wb1 fy,zF wb2 fz,zF wd0 gx,zF wd1 gy,zF wd2 gz])) ?_(fun hD5=> ?_)
 ·
  rintro ⟨u2_1,u2_2,u2_3,u5_1,u5_2,u5_3,u8_1,u8_2,u8_3,u9_1,u11_1⟩
  dsimp only [cw]
  refine zE 10(by kernel_rfl) ?_
  ·
   refine zO rfl rfl rfl rfl(zn zr89 rfl)(fun u10_1 _=> ?_)
   exact zp(hD3(u2_1,u2_2,u2_3,u5_1,u5_2,u5_3,u8_1,u8_2,u8_3,u9_1,u10_1,u11_1))(by kernel_rfl)((.of rfl):SubM _ _)(zR 1 rfl(zR 0 rfl(zR 0 rfl .nil))) .rfl((.of [0,1,2,3,4,5,6,7,8,9,10,11,12,13,14,15,16,17,18]rfl):SelR _ _ _)
 refine zL(X:=Wd×Wd×Wd×Wd×Wd×Wd×Wd×Wd×Wd×Nat×Nat)(k':=4)(L':=(lb 15 3583))(fun(u2_1,u2_2,u2_3,u5_1,u5_2,u5_3,u8_1,u8_2,u8_3,u10_1,u11_1)=>([(10,.pointer(some⟨u11_1,0,none⟩)),(9,.pointer(some⟨u10_1,0,none⟩)),(22,.agg(cw [u8_1,u8_2,u8_3]).toArray),(19,.agg(cw [u5_1,u5_2,u5_3]).toArray),(16,.agg(cw [u2_1,u2_2,u2_3]).toArray),(7,.pointer(some⟨b4,0,none⟩)),(6,.bool false),(5,.pointer(some⟨b3,0,none⟩)),(4,.pointer(some⟨b2,0,none⟩)),(3,.pointer(some⟨b1,0,none⟩))],[boxA u11_1 89 [.bool false,.slice none 0 0,.bool false,.slice none 0 0,.bool false,.slice none 0 0],boxA u10_1 89 [.bool false,.slice none 0 0,.bool false,.slice none 0 0,.bool false,.slice none 0 0]],[boxA b4 89 [.bool false,.slice none 0 0,.bool false,.slice none 0 0,.bool false,.slice none 0 0],boxA b3 89(cw [wd0,wd1,wd2]),boxA b2 89(cw [wb0,wb1,wb2]),boxA b1 89(cw [wa0,wa1,wa2])],[zF u8_1(gy*ez - gz*ey),zF u8_2(gz*ex - gx*ez),zF u8_3(gx*ey - gy*ex),zF u5_1(fy*gz - fz*gy),zF u5_2(fz*gx - fx*gz),zF u5_3(fx*gy - fy*gx),zF u2_1(ey*fz - ez*fy),zF u2_2(ez*fx - ex*fz),zF u2_3(ex*fy - ey*fx),zF wz 0,zF wa0 ex,zF wa1 ey,zF wa2 ez,zF wb0 fx,zF wb1 fy,zF wb2 fz,zF wd0 gx,zF wd1 gy,zF wd2 gz])) ?_(fun hD6=> ?_)
 ·
  rintro ⟨u2_1,u2_2,u2_3,u5_1,u5_2,u5_3,u8_1,u8_2,u8_3,u10_1,u11_1⟩
  dsimp only [cw]
  refine zE 9(by kernel_rfl) ?_
  ·
   refine zO rfl rfl rfl rfl(zn zr89 rfl)(fun u9_1 _=> ?_)
   exact zp(hD3(u2_1,u2_2,u2_3,u5_1,u5_2,u5_3,u8_1,u8_2,u8_3,u9_1,u10_1,u11_1))(by kernel_rfl)((.of rfl):SubM _ _)(zR 1 rfl(zR 1 rfl(zR 0 rfl .nil))) .rfl((.of [0,1,2,3,4,5,6,7,8,9,10,11,12,13,14,15,16,17,18]rfl):SelR _ _ _)
 refine zL(X:=Wd×Wd×Wd×Wd×Wd×Wd×Nat×Nat×Nat)(k':=4)(L':=(lb 15 3839))(fun(u2_1,u2_2,u2_3,u5_1,u5_2,u5_3,u9_1,u10_1,u11_1)=>([(10,.pointer(some⟨u11_1,0,none⟩)),(9,.pointer(some⟨u10_1,0,none⟩)),(8,.pointer(some⟨u9_1,0,none⟩)),(19,.agg(cw [u5_1,u5_2,u5_3]).toArray),(16,.agg(cw [u2_1,u2_2,u2_3]).toArray),(21,.agg(cw [wa0,wa1,wa2]).toArray),(20,.agg(cw [wd0,wd1,wd2]).toArray),(7,.pointer(some⟨b4,0,none⟩)),(6,.bool false),(5,.pointer(some⟨b3,0,none⟩)),(4,.pointer(some⟨b2,0,none⟩)),(3,.pointer(some⟨b1,0,none⟩))],[boxA u11_1 89 [.bool false,.slice none 0 0,.bool false,.slice none 0 0,.bool false,.slice none 0 0],boxA u10_1 89 [.bool false,.slice none 0 0,.bool false,.slice none 0 0,.bool false,.slice none 0 0],boxA u9_1 89 [.bool false,.slice none 0 0,.bool false,.slice none 0 0,.bool false,.slice none 0 0]],[boxA b4 89 [.bool false,.slice none 0 0,.bool false,.slice none 0 0,.bool false,.slice none 0 0],boxA b3 89(cw [wd0,wd1,wd2]),boxA b2 89(cw [wb0,wb1,wb2]),boxA b1 89(cw [wa0,wa1,wa2])],[zF u5_1(fy*gz - fz*gy),zF u5_2(fz*gx - fx*gz),zF u5_3(fx*gy - fy*gx),zF u2_1(ey*fz - ez*fy),zF u2_2(ez*fx - ex*fz),zF u2_3(ex*fy - ey*fx),zF wz 0,zF wa0 ex,zF wa1 ey,zF wa2 ez,zF wb0 fx,zF wb1 fy,zF wb2 fz,zF wd0 gx,zF wd1 gy,zF wd2 gz])) ?_(fun hD7=> ?_)
 ·
  rintro ⟨u2_1,u2_2,u2_3,u5_1,u5_2,u5_3,u9_1,u10_1,u11_1⟩
  dsimp only [cw]
  refine zE 8(by kernel_rfl) ?_
  ·
   refine zu rfl rfl rfl rfl(.c rfl(.c rfl .n))ce61(zka(ex:=gx)(ey:=gy)(ez:=gz)(wa0:=wd0)(wa1:=wd1)(wa2:=wd2)(fx:=ex)(fy:=ey)(fz:=ez)(wb0:=wa0)(wb1:=wa1)(wb2:=wa2)(hlex:=by omega)(hley:=by omega)(hlez:=by omega)(hlfx:=by omega)(hlfy:=by omega)(hlfz:=by omega))(.c(j:=13)rfl(.c(j:=14)rfl(.c(j:=15)rfl(.c(j:=7)rfl(.c(j:=8)rfl(.c(j:=9)rfl .n)))))) ?_
   rintro ⟨u8_1,u8_2,u8_3⟩ -
   dsimp only [List.append_eq,List.nil_append,List.cons_append]
   exact zp(hD3(u2_1,u2_2,u2_3,u5_1,u5_2,u5_3,u8_1,u8_2,u8_3,u9_1,u10_1,u11_1))(by kernel_rfl)((.of rfl):SubM _ _) .rfl .rfl((.of [0,1,2,3,4,5,6,7,8,9,10,11,12,13,14,15,16,17,18]rfl):SelR _ _ _)
 refine zL(X:=Wd×Wd×Wd×Wd×Wd×Wd×Wd×Wd×Wd×Nat)(k':=5)(L':=(lb 15 1023))(fun(u2_1,u2_2,u2_3,u5_1,u5_2,u5_3,u8_1,u8_2,u8_3,u9_1)=>([(8,.pointer(some⟨u9_1,0,none⟩)),(22,.agg(cw [u8_1,u8_2,u8_3]).toArray),(19,.agg(cw [u5_1,u5_2,u5_3]).toArray),(16,.agg(cw [u2_1,u2_2,u2_3]).toArray),(7,.pointer(some⟨b4,0,none⟩)),(6,.bool false),(5,.pointer(some⟨b3,0,none⟩)),(4,.pointer(some⟨b2,0,none⟩)),(3,.pointer(some⟨b1,0,none⟩))],[boxA u9_1 89 [.bool false,.slice none 0 0,.bool false,.slice none 0 0,.bool false,.slice none 0 0]],[boxA b4 89 [.bool false,.slice none 0 0,.bool false,.slice none 0 0,.bool false,.slice none 0 0],boxA b3 89(cw [wd0,wd1,wd2]),boxA b2 89(cw [wb0,wb1,wb2]),boxA b1 89(cw [wa0,wa1,wa2])],[zF u8_1(gy*ez - gz*ey),zF u8_2(gz*ex - gx*ez),zF u8_3(gx*ey - gy*ex),zF u5_1(fy*gz - fz*gy),zF u5_2(fz*gx - fx*gz),zF u5_3(fx*gy - fy*gx),zF u2_1(ey*fz - ez*fy),zF u2_2(ez*fx - ex*fz),zF u2_3(ex*fy - ey*fx),zF wz 0,zF wa0 ex,zF wa1 ey,zF wa2 ez,zF wb0 fx,zF wb1 fy,zF wb2 fz,zF wd0 gx,zF wd1 gy,zF wd2 gz])) ?_(fun hD8=> ?_)
 ·
  rintro ⟨u2_1,u2_2,u2_3,u5_1,u5_2,u5_3,u8_1,u8_2,u8_3,u9_1⟩
  dsimp only [cw]
  refine zMa 10 11(by kernel_rfl) ?_ ?_
  ·
   refine zO rfl rfl rfl rfl(zn zr89 rfl)(fun u10_1 _=> ?_)
   exact zp(hD4(u2_1,u2_2,u2_3,u5_1,u5_2,u5_3,u8_1,u8_2,u8_3,u9_1,u10_1))(by kernel_rfl)((.of rfl):SubM _ _) .rfl .rfl((.of [0,1,2,3,4,5,6,7,8,9,10,11,12,13,14,15,16,17,18]rfl):SelR _ _ _)
  ·
   refine zO rfl rfl rfl rfl(zn zr89 rfl)(fun u11_1 _=> ?_)
   exact zp(hD5(u2_1,u2_2,u2_3,u5_1,u5_2,u5_3,u8_1,u8_2,u8_3,u9_1,u11_1))(by kernel_rfl)((.of rfl):SubM _ _) .rfl .rfl((.of [0,1,2,3,4,5,6,7,8,9,10,11,12,13,14,15,16,17,18]rfl):SelR _ _ _)
 refine zL(X:=Wd×Wd×Wd×Wd×Wd×Wd×Wd×Wd×Wd×Nat)(k':=5)(L':=(lb 15 1535))(fun(u2_1,u2_2,u2_3,u5_1,u5_2,u5_3,u8_1,u8_2,u8_3,u10_1)=>([(9,.pointer(some⟨u10_1,0,none⟩)),(22,.agg(cw [u8_1,u8_2,u8_3]).toArray),(19,.agg(cw [u5_1,u5_2,u5_3]).toArray),(16,.agg(cw [u2_1,u2_2,u2_3]).toArray),(7,.pointer(some⟨b4,0,none⟩)),(6,.bool false),(5,.pointer(some⟨b3,0,none⟩)),(4,.pointer(some⟨b2,0,none⟩)),(3,.pointer(some⟨b1,0,none⟩))],[boxA u10_1 89 [.bool false,.slice none 0 0,.bool false,.slice none 0 0,.bool false,.slice none 0 0]],[boxA b4 89 [.bool false,.slice none 0 0,.bool false,.slice none 0 0,.bool false,.slice none 0 0],boxA b3 89(cw [wd0,wd1,wd2]),boxA b2 89(cw [wb0,wb1,wb2]),boxA b1 89(cw [wa0,wa1,wa2])],[zF u8_1(gy*ez - gz*ey),zF u8_2(gz*ex - gx*ez),zF u8_3(gx*ey - gy*ex),zF u5_1(fy*gz - fz*gy),zF u5_2(fz*gx - fx*gz),zF u5_3(fx*gy - fy*gx),zF u2_1(ey*fz - ez*fy),zF u2_2(ez*fx - ex*fz),zF u2_3(ex*fy - ey*fx),zF wz 0,zF wa0 ex,zF wa1 ey,zF wa2 ez,zF wb0 fx,zF wb1 fy,zF wb2 fz,zF wd0 gx,zF wd1 gy,zF wd2 gz])) ?_(fun hD9=> ?_)
 ·
  rintro ⟨u2_1,u2_2,u2_3,u5_1,u5_2,u5_3,u8_1,u8_2,u8_3,u10_1⟩
  dsimp only [cw]
  refine zMa 9 11(by kernel_rfl) ?_ ?_
  ·
   refine zO rfl rfl rfl rfl(zn zr89 rfl)(fun u9_1 _=> ?_)
   exact zp(hD4(u2_1,u2_2,u2_3,u5_1,u5_2,u5_3,u8_1,u8_2,u8_3,u9_1,u10_1))(by kernel_rfl)((.of rfl):SubM _ _)(zR 1 rfl(zR 0 rfl .nil)) .rfl((.of [0,1,2,3,4,5,6,7,8,9,10,11,12,13,14,15,16,17,18]rfl):SelR _ _ _)
  ·
   refine zO rfl rfl rfl rfl(zn zr89 rfl)(fun u11_1 _=> ?_)
   exact zp(hD6(u2_1,u2_2,u2_3,u5_1,u5_2,u5_3,u8_1,u8_2,u8_3,u10_1,u11_1))(by kernel_rfl)((.of rfl):SubM _ _) .rfl .rfl((.of [0,1,2,3,4,5,6,7,8,9,10,11,12,13,14,15,16,17,18]rfl):SelR _ _ _)
 refine zL(X:=Wd×Wd×Wd×Wd×Wd×Wd×Wd×Wd×Wd×Nat)(k':=5)(L':=(lb 15 2559))(fun(u2_1,u2_2,u2_3,u5_1,u5_2,u5_3,u8_1,u8_2,u8_3,u11_1)=>([(10,.pointer(some⟨u11_1,0,none⟩)),(22,.agg(cw [u8_1,u8_2,u8_3]).toArray),(19,.agg(cw [u5_1,u5_2,u5_3]).toArray),(16,.agg(cw [u2_1,u2_2,u2_3]).toArray),(7,.pointer(some⟨b4,0,none⟩)),(6,.bool false),(5,.pointer(some⟨b3,0,none⟩)),(4,.pointer(some⟨b2,0,none⟩)),(3,.pointer(some⟨b1,0,none⟩))],[boxA u11_1 89 [.bool false,.slice none 0 0,.bool false,.slice none 0 0,.bool false,.slice none 0 0]],[boxA b4 89 [.bool false,.slice none 0 0,.bool false,.slice none 0 0,.bool false,.slice none 0 0],boxA b3 89(cw [wd0,wd1,wd2]),boxA b2 89(cw [wb0,wb1,wb2]),boxA b1 89(cw [wa0,wa1,wa2])],[zF u8_1(gy*ez - gz*ey),zF u8_2(gz*ex - gx*ez),zF u8_3(gx*ey - gy*ex),zF u5_1(fy*gz - fz*gy),zF u5_2(fz*gx - fx*gz),zF u5_3(fx*gy - fy*gx),zF u2_1(ey*fz - ez*fy),zF u2_2(ez*fx - ex*fz),zF u2_3(ex*fy - ey*fx),zF wz 0,zF wa0 ex,zF wa1 ey,zF wa2 ez,zF wb0 fx,zF wb1 fy,zF wb2 fz,zF wd0 gx,zF wd1 gy,zF wd2 gz])) ?_(fun hD10=> ?_)
 ·
  rintro ⟨u2_1,u2_2,u2_3,u5_1,u5_2,u5_3,u8_1,u8_2,u8_3,u11_1⟩
  dsimp only [cw]
  refine zMa 9 10(by kernel_rfl) ?_ ?_
  ·
   refine zO rfl rfl rfl rfl(zn zr89 rfl)(fun u9_1 _=> ?_)
   exact zp(hD5(u2_1,u2_2,u2_3,u5_1,u5_2,u5_3,u8_1,u8_2,u8_3,u9_1,u11_1))(by kernel_rfl)((.of rfl):SubM _ _)(zR 1 rfl(zR 0 rfl .nil)) .rfl((.of [0,1,2,3,4,5,6,7,8,9,10,11,12,13,14,15,16,17,18]rfl):SelR _ _ _)
  ·
   refine zO rfl rfl rfl rfl(zn zr89 rfl)(fun u10_1 _=> ?_)
   exact zp(hD6(u2_1,u2_2,u2_3,u5_1,u5_2,u5_3,u8_1,u8_2,u8_3,u10_1,u11_1))(by kernel_rfl)((.of rfl):SubM _ _)(zR 1 rfl(zR 0 rfl .nil)) .rfl((.of [0,1,2,3,4,5,6,7,8,9,10,11,12,13,14,15,16,17,18]rfl):SelR _ _ _)
 refine zL(X:=Wd×Wd×Wd×Wd×Wd×Wd×Nat×Nat)(k':=5)(L':=(lb 15 1791))(fun(u2_1,u2_2,u2_3,u5_1,u5_2,u5_3,u9_1,u10_1)=>([(9,.pointer(some⟨u10_1,0,none⟩)),(8,.pointer(some⟨u9_1,0,none⟩)),(19,.agg(cw [u5_1,u5_2,u5_3]).toArray),(16,.agg(cw [u2_1,u2_2,u2_3]).toArray),(21,.agg(cw [wa0,wa1,wa2]).toArray),(20,.agg(cw [wd0,wd1,wd2]).toArray),(7,.pointer(some⟨b4,0,none⟩)),(6,.bool false),(5,.pointer(some⟨b3,0,none⟩)),(4,.pointer(some⟨b2,0,none⟩)),(3,.pointer(some⟨b1,0,none⟩))],[boxA u10_1 89 [.bool false,.slice none 0 0,.bool false,.slice none 0 0,.bool false,.slice none 0 0],boxA u9_1 89 [.bool false,.slice none 0 0,.bool false,.slice none 0 0,.bool false,.slice none 0 0]],[boxA b4 89 [.bool false,.slice none 0 0,.bool false,.slice none 0 0,.bool false,.slice none 0 0],boxA b3 89(cw [wd0,wd1,wd2]),boxA b2 89(cw [wb0,wb1,wb2]),boxA b1 89(cw [wa0,wa1,wa2])],[zF u5_1(fy*gz - fz*gy),zF u5_2(fz*gx - fx*gz),zF u5_3(fx*gy - fy*gx),zF u2_1(ey*fz - ez*fy),zF u2_2(ez*fx - ex*fz),zF u2_3(ex*fy - ey*fx),zF wz 0,zF wa0 ex,zF wa1 ey,zF wa2 ez,zF wb0 fx,zF wb1 fy,zF wb2 fz,zF wd0 gx,zF wd1 gy,zF wd2 gz])) ?_(fun hD11=> ?_)
 ·
  rintro ⟨u2_1,u2_2,u2_3,u5_1,u5_2,u5_3,u9_1,u10_1⟩
  dsimp only [cw]
  refine zMa 8 11(by kernel_rfl) ?_ ?_
  ·
   refine zu rfl rfl rfl rfl(.c rfl(.c rfl .n))ce61(zka(ex:=gx)(ey:=gy)(ez:=gz)(wa0:=wd0)(wa1:=wd1)(wa2:=wd2)(fx:=ex)(fy:=ey)(fz:=ez)(wb0:=wa0)(wb1:=wa1)(wb2:=wa2)(hlex:=by omega)(hley:=by omega)(hlez:=by omega)(hlfx:=by omega)(hlfy:=by omega)(hlfz:=by omega))(.c(j:=13)rfl(.c(j:=14)rfl(.c(j:=15)rfl(.c(j:=7)rfl(.c(j:=8)rfl(.c(j:=9)rfl .n)))))) ?_
   rintro ⟨u8_1,u8_2,u8_3⟩ -
   dsimp only [List.append_eq,List.nil_append,List.cons_append]
   exact zp(hD4(u2_1,u2_2,u2_3,u5_1,u5_2,u5_3,u8_1,u8_2,u8_3,u9_1,u10_1))(by kernel_rfl)((.of rfl):SubM _ _) .rfl .rfl((.of [0,1,2,3,4,5,6,7,8,9,10,11,12,13,14,15,16,17,18]rfl):SelR _ _ _)
  ·
   refine zO rfl rfl rfl rfl(zn zr89 rfl)(fun u11_1 _=> ?_)
   exact zp(hD7(u2_1,u2_2,u2_3,u5_1,u5_2,u5_3,u9_1,u10_1,u11_1))(by kernel_rfl)((.of rfl):SubM _ _) .rfl .rfl((.of [0,1,2,3,4,5,6,7,8,9,10,11,12,13,14,15]rfl):SelR _ _ _)
 refine zL(X:=Wd×Wd×Wd×Wd×Wd×Wd×Nat×Nat)(k':=5)(L':=(lb 15 2815))(fun(u2_1,u2_2,u2_3,u5_1,u5_2,u5_3,u9_1,u11_1)=>([(10,.pointer(some⟨u11_1,0,none⟩)),(8,.pointer(some⟨u9_1,0,none⟩)),(19,.agg(cw [u5_1,u5_2,u5_3]).toArray),(16,.agg(cw [u2_1,u2_2,u2_3]).toArray),(21,.agg(cw [wa0,wa1,wa2]).toArray),(20,.agg(cw [wd0,wd1,wd2]).toArray),(7,.pointer(some⟨b4,0,none⟩)),(6,.bool false),(5,.pointer(some⟨b3,0,none⟩)),(4,.pointer(some⟨b2,0,none⟩)),(3,.pointer(some⟨b1,0,none⟩))],[boxA u11_1 89 [.bool false,.slice none 0 0,.bool false,.slice none 0 0,.bool false,.slice none 0 0],boxA u9_1 89 [.bool false,.slice none 0 0,.bool false,.slice none 0 0,.bool false,.slice none 0 0]],[boxA b4 89 [.bool false,.slice none 0 0,.bool false,.slice none 0 0,.bool false,.slice none 0 0],boxA b3 89(cw [wd0,wd1,wd2]),boxA b2 89(cw [wb0,wb1,wb2]),boxA b1 89(cw [wa0,wa1,wa2])],[zF u5_1(fy*gz - fz*gy),zF u5_2(fz*gx - fx*gz),zF u5_3(fx*gy - fy*gx),zF u2_1(ey*fz - ez*fy),zF u2_2(ez*fx - ex*fz),zF u2_3(ex*fy - ey*fx),zF wz 0,zF wa0 ex,zF wa1 ey,zF wa2 ez,zF wb0 fx,zF wb1 fy,zF wb2 fz,zF wd0 gx,zF wd1 gy,zF wd2 gz])) ?_(fun hD12=> ?_)
 ·
  rintro ⟨u2_1,u2_2,u2_3,u5_1,u5_2,u5_3,u9_1,u11_1⟩
  dsimp only [cw]
  refine zMa 8 10(by kernel_rfl) ?_ ?_
  ·
   refine zu rfl rfl rfl rfl(.c rfl(.c rfl .n))ce61(zka(ex:=gx)(ey:=gy)(ez:=gz)(wa0:=wd0)(wa1:=wd1)(wa2:=wd2)(fx:=ex)(fy:=ey)(fz:=ez)(wb0:=wa0)(wb1:=wa1)(wb2:=wa2)(hlex:=by omega)(hley:=by omega)(hlez:=by omega)(hlfx:=by omega)(hlfy:=by omega)(hlfz:=by omega))(.c(j:=13)rfl(.c(j:=14)rfl(.c(j:=15)rfl(.c(j:=7)rfl(.c(j:=8)rfl(.c(j:=9)rfl .n)))))) ?_
   rintro ⟨u8_1,u8_2,u8_3⟩ -
   dsimp only [List.append_eq,List.nil_append,List.cons_append]
   exact zp(hD5(u2_1,u2_2,u2_3,u5_1,u5_2,u5_3,u8_1,u8_2,u8_3,u9_1,u11_1))(by kernel_rfl)((.of rfl):SubM _ _) .rfl .rfl((.of [0,1,2,3,4,5,6,7,8,9,10,11,12,13,14,15,16,17,18]rfl):SelR _ _ _)
  ·
   refine zO rfl rfl rfl rfl(zn zr89 rfl)(fun u10_1 _=> ?_)
   exact zp(hD7(u2_1,u2_2,u2_3,u5_1,u5_2,u5_3,u9_1,u10_1,u11_1))(by kernel_rfl)((.of rfl):SubM _ _)(zR 1 rfl(zR 0 rfl(zR 0 rfl .nil))) .rfl((.of [0,1,2,3,4,5,6,7,8,9,10,11,12,13,14,15]rfl):SelR _ _ _)
 refine zL(X:=Wd×Wd×Wd×Wd×Wd×Wd×Nat×Nat)(k':=5)(L':=(lb 15 3327))(fun(u2_1,u2_2,u2_3,u5_1,u5_2,u5_3,u10_1,u11_1)=>([(10,.pointer(some⟨u11_1,0,none⟩)),(9,.pointer(some⟨u10_1,0,none⟩)),(19,.agg(cw [u5_1,u5_2,u5_3]).toArray),(16,.agg(cw [u2_1,u2_2,u2_3]).toArray),(21,.agg(cw [wa0,wa1,wa2]).toArray),(20,.agg(cw [wd0,wd1,wd2]).toArray),(7,.pointer(some⟨b4,0,none⟩)),(6,.bool false),(5,.pointer(some⟨b3,0,none⟩)),(4,.pointer(some⟨b2,0,none⟩)),(3,.pointer(some⟨b1,0,none⟩))],[boxA u11_1 89 [.bool false,.slice none 0 0,.bool false,.slice none 0 0,.bool false,.slice none 0 0],boxA u10_1 89 [.bool false,.slice none 0 0,.bool false,.slice none 0 0,.bool false,.slice none 0 0]],[boxA b4 89 [.bool false,.slice none 0 0,.bool false,.slice none 0 0,.bool false,.slice none 0 0],boxA b3 89(cw [wd0,wd1,wd2]),boxA b2 89(cw [wb0,wb1,wb2]),boxA b1 89(cw [wa0,wa1,wa2])],[zF u5_1(fy*gz - fz*gy),zF u5_2(fz*gx - fx*gz),zF u5_3(fx*gy - fy*gx),zF u2_1(ey*fz - ez*fy),zF u2_2(ez*fx - ex*fz),zF u2_3(ex*fy - ey*fx),zF wz 0,zF wa0 ex,zF wa1 ey,zF wa2 ez,zF wb0 fx,zF wb1 fy,zF wb2 fz,zF wd0 gx,zF wd1 gy,zF wd2 gz])) ?_(fun hD13=> ?_)
 ·
  rintro ⟨u2_1,u2_2,u2_3,u5_1,u5_2,u5_3,u10_1,u11_1⟩
  dsimp only [cw]
  refine zMa 8 9(by kernel_rfl) ?_ ?_
  ·
   refine zu rfl rfl rfl rfl(.c rfl(.c rfl .n))ce61(zka(ex:=gx)(ey:=gy)(ez:=gz)(wa0:=wd0)(wa1:=wd1)(wa2:=wd2)(fx:=ex)(fy:=ey)(fz:=ez)(wb0:=wa0)(wb1:=wa1)(wb2:=wa2)(hlex:=by omega)(hley:=by omega)(hlez:=by omega)(hlfx:=by omega)(hlfy:=by omega)(hlfz:=by omega))(.c(j:=13)rfl(.c(j:=14)rfl(.c(j:=15)rfl(.c(j:=7)rfl(.c(j:=8)rfl(.c(j:=9)rfl .n)))))) ?_
   rintro ⟨u8_1,u8_2,u8_3⟩ -
   dsimp only [List.append_eq,List.nil_append,List.cons_append]
   exact zp(hD6(u2_1,u2_2,u2_3,u5_1,u5_2,u5_3,u8_1,u8_2,u8_3,u10_1,u11_1))(by kernel_rfl)((.of rfl):SubM _ _) .rfl .rfl((.of [0,1,2,3,4,5,6,7,8,9,10,11,12,13,14,15,16,17,18]rfl):SelR _ _ _)
  ·
   refine zO rfl rfl rfl rfl(zn zr89 rfl)(fun u9_1 _=> ?_)
   exact zp(hD7(u2_1,u2_2,u2_3,u5_1,u5_2,u5_3,u9_1,u10_1,u11_1))(by kernel_rfl)((.of rfl):SubM _ _)(zR 1 rfl(zR 1 rfl(zR 0 rfl .nil))) .rfl((.of [0,1,2,3,4,5,6,7,8,9,10,11,12,13,14,15]rfl):SelR _ _ _)
 refine zL(X:=Wd×Wd×Wd×Nat×Nat×Nat)(k':=5)(L':=(lb 15 3807))(fun(u2_1,u2_2,u2_3,u9_1,u10_1,u11_1)=>([(10,.pointer(some⟨u11_1,0,none⟩)),(9,.pointer(some⟨u10_1,0,none⟩)),(8,.pointer(some⟨u9_1,0,none⟩)),(16,.agg(cw [u2_1,u2_2,u2_3]).toArray),(21,.agg(cw [wa0,wa1,wa2]).toArray),(20,.agg(cw [wd0,wd1,wd2]).toArray),(18,.agg(cw [wd0,wd1,wd2]).toArray),(17,.agg(cw [wb0,wb1,wb2]).toArray),(7,.pointer(some⟨b4,0,none⟩)),(6,.bool false),(5,.pointer(some⟨b3,0,none⟩)),(4,.pointer(some⟨b2,0,none⟩)),(3,.pointer(some⟨b1,0,none⟩))],[boxA u11_1 89 [.bool false,.slice none 0 0,.bool false,.slice none 0 0,.bool false,.slice none 0 0],boxA u10_1 89 [.bool false,.slice none 0 0,.bool false,.slice none 0 0,.bool false,.slice none 0 0],boxA u9_1 89 [.bool false,.slice none 0 0,.bool false,.slice none 0 0,.bool false,.slice none 0 0]],[boxA b4 89 [.bool false,.slice none 0 0,.bool false,.slice none 0 0,.bool false,.slice none 0 0],boxA b3 89(cw [wd0,wd1,wd2]),boxA b2 89(cw [wb0,wb1,wb2]),boxA b1 89(cw [wa0,wa1,wa2])],[zF u2_1(ey*fz - ez*fy),zF u2_2(ez*fx - ex*fz),zF u2_3(ex*fy - ey*fx),zF wz 0,zF wa0 ex,zF wa1 ey,zF wa2 ez,zF wb0 fx,zF wb1 fy,zF wb2 fz,zF wd0 gx,zF wd1 gy,zF wd2 gz])) ?_(fun hD14=> ?_)
 ·
  rintro ⟨u2_1,u2_2,u2_3,u9_1,u10_1,u11_1⟩
  dsimp only [cw]
  refine zE 5(by kernel_rfl) ?_
  ·
   refine zu rfl rfl rfl rfl(.c rfl(.c rfl .n))ce61(zka(ex:=fx)(ey:=fy)(ez:=fz)(wa0:=wb0)(wa1:=wb1)(wa2:=wb2)(fx:=gx)(fy:=gy)(fz:=gz)(wb0:=wd0)(wb1:=wd1)(wb2:=wd2)(hlex:=by omega)(hley:=by omega)(hlez:=by omega)(hlfx:=by omega)(hlfy:=by omega)(hlfz:=by omega))(.c(j:=7)rfl(.c(j:=8)rfl(.c(j:=9)rfl(.c(j:=10)rfl(.c(j:=11)rfl(.c(j:=12)rfl .n)))))) ?_
   rintro ⟨u5_1,u5_2,u5_3⟩ -
   dsimp only [List.append_eq,List.nil_append,List.cons_append]
   exact zp(hD7(u2_1,u2_2,u2_3,u5_1,u5_2,u5_3,u9_1,u10_1,u11_1))(by kernel_rfl)((.of rfl):SubM _ _) .rfl .rfl((.of [0,1,2,3,4,5,6,7,8,9,10,11,12,13,14,15]rfl):SelR _ _ _)
 refine zL(X:=Wd×Wd×Wd×Wd×Wd×Wd×Wd×Wd×Wd)(k':=6)(L':=(lb 15 511))(fun(u2_1,u2_2,u2_3,u5_1,u5_2,u5_3,u8_1,u8_2,u8_3)=>([(22,.agg(cw [u8_1,u8_2,u8_3]).toArray),(19,.agg(cw [u5_1,u5_2,u5_3]).toArray),(16,.agg(cw [u2_1,u2_2,u2_3]).toArray),(7,.pointer(some⟨b4,0,none⟩)),(6,.bool false),(5,.pointer(some⟨b3,0,none⟩)),(4,.pointer(some⟨b2,0,none⟩)),(3,.pointer(some⟨b1,0,none⟩))],[],[boxA b4 89 [.bool false,.slice none 0 0,.bool false,.slice none 0 0,.bool false,.slice none 0 0],boxA b3 89(cw [wd0,wd1,wd2]),boxA b2 89(cw [wb0,wb1,wb2]),boxA b1 89(cw [wa0,wa1,wa2])],[zF u8_1(gy*ez - gz*ey),zF u8_2(gz*ex - gx*ez),zF u8_3(gx*ey - gy*ex),zF u5_1(fy*gz - fz*gy),zF u5_2(fz*gx - fx*gz),zF u5_3(fx*gy - fy*gx),zF u2_1(ey*fz - ez*fy),zF u2_2(ez*fx - ex*fz),zF u2_3(ex*fy - ey*fx),zF wz 0,zF wa0 ex,zF wa1 ey,zF wa2 ez,zF wb0 fx,zF wb1 fy,zF wb2 fz,zF wd0 gx,zF wd1 gy,zF wd2 gz])) ?_(fun hD15=> ?_)
 ·
  rintro ⟨u2_1,u2_2,u2_3,u5_1,u5_2,u5_3,u8_1,u8_2,u8_3⟩
  dsimp only [cw]
  refine zPa 9 10 11(by kernel_rfl) ?_ ?_ ?_
  ·
   refine zO rfl rfl rfl rfl(zn zr89 rfl)(fun u9_1 _=> ?_)
   exact zp(hD8(u2_1,u2_2,u2_3,u5_1,u5_2,u5_3,u8_1,u8_2,u8_3,u9_1))(by kernel_rfl)((.of rfl):SubM _ _) .rfl .rfl((.of [0,1,2,3,4,5,6,7,8,9,10,11,12,13,14,15,16,17,18]rfl):SelR _ _ _)
  ·
   refine zO rfl rfl rfl rfl(zn zr89 rfl)(fun u10_1 _=> ?_)
   exact zp(hD9(u2_1,u2_2,u2_3,u5_1,u5_2,u5_3,u8_1,u8_2,u8_3,u10_1))(by kernel_rfl)((.of rfl):SubM _ _) .rfl .rfl((.of [0,1,2,3,4,5,6,7,8,9,10,11,12,13,14,15,16,17,18]rfl):SelR _ _ _)
  ·
   refine zO rfl rfl rfl rfl(zn zr89 rfl)(fun u11_1 _=> ?_)
   exact zp(hD10(u2_1,u2_2,u2_3,u5_1,u5_2,u5_3,u8_1,u8_2,u8_3,u11_1))(by kernel_rfl)((.of rfl):SubM _ _) .rfl .rfl((.of [0,1,2,3,4,5,6,7,8,9,10,11,12,13,14,15,16,17,18]rfl):SelR _ _ _)
 refine zL(X:=Wd×Wd×Wd×Wd×Wd×Wd×Nat)(k':=6)(L':=(lb 15 767))(fun(u2_1,u2_2,u2_3,u5_1,u5_2,u5_3,u9_1)=>([(8,.pointer(some⟨u9_1,0,none⟩)),(19,.agg(cw [u5_1,u5_2,u5_3]).toArray),(16,.agg(cw [u2_1,u2_2,u2_3]).toArray),(21,.agg(cw [wa0,wa1,wa2]).toArray),(20,.agg(cw [wd0,wd1,wd2]).toArray),(7,.pointer(some⟨b4,0,none⟩)),(6,.bool false),(5,.pointer(some⟨b3,0,none⟩)),(4,.pointer(some⟨b2,0,none⟩)),(3,.pointer(some⟨b1,0,none⟩))],[boxA u9_1 89 [.bool false,.slice none 0 0,.bool false,.slice none 0 0,.bool false,.slice none 0 0]],[boxA b4 89 [.bool false,.slice none 0 0,.bool false,.slice none 0 0,.bool false,.slice none 0 0],boxA b3 89(cw [wd0,wd1,wd2]),boxA b2 89(cw [wb0,wb1,wb2]),boxA b1 89(cw [wa0,wa1,wa2])],[zF u5_1(fy*gz - fz*gy),zF u5_2(fz*gx - fx*gz),zF u5_3(fx*gy - fy*gx),zF u2_1(ey*fz - ez*fy),zF u2_2(ez*fx - ex*fz),zF u2_3(ex*fy - ey*fx),zF wz 0,zF wa0 ex,zF wa1 ey,zF wa2 ez,zF wb0 fx,zF wb1 fy,zF wb2 fz,zF wd0 gx,zF wd1 gy,zF wd2 gz])) ?_(fun hD16=> ?_)
 ·
  rintro ⟨u2_1,u2_2,u2_3,u5_1,u5_2,u5_3,u9_1⟩
  dsimp only [cw]
  refine zPa 8 10 11(by kernel_rfl) ?_ ?_ ?_
  ·
   refine zu rfl rfl rfl rfl(.c rfl(.c rfl .n))ce61(zka(ex:=gx)(ey:=gy)(ez:=gz)(wa0:=wd0)(wa1:=wd1)(wa2:=wd2)(fx:=ex)(fy:=ey)(fz:=ez)(wb0:=wa0)(wb1:=wa1)(wb2:=wa2)(hlex:=by omega)(hley:=by omega)(hlez:=by omega)(hlfx:=by omega)(hlfy:=by omega)(hlfz:=by omega))(.c(j:=13)rfl(.c(j:=14)rfl(.c(j:=15)rfl(.c(j:=7)rfl(.c(j:=8)rfl(.c(j:=9)rfl .n)))))) ?_
   rintro ⟨u8_1,u8_2,u8_3⟩ -
   dsimp only [List.append_eq,List.nil_append,List.cons_append]
   exact zp(hD8(u2_1,u2_2,u2_3,u5_1,u5_2,u5_3,u8_1,u8_2,u8_3,u9_1))(by kernel_rfl)((.of rfl):SubM _ _) .rfl .rfl((.of [0,1,2,3,4,5,6,7,8,9,10,11,12,13,14,15,16,17,18]rfl):SelR _ _ _)
  ·
   refine zO rfl rfl rfl rfl(zn zr89 rfl)(fun u10_1 _=> ?_)
   exact zp(hD11(u2_1,u2_2,u2_3,u5_1,u5_2,u5_3,u9_1,u10_1))(by kernel_rfl)((.of rfl):SubM _ _) .rfl .rfl((.of [0,1,2,3,4,5,6,7,8,9,10,11,12,13,14,15]rfl):SelR _ _ _)
  ·
   refine zO rfl rfl rfl rfl(zn zr89 rfl)(fun u11_1 _=> ?_)
   exact zp(hD12(u2_1,u2_2,u2_3,u5_1,u5_2,u5_3,u9_1,u11_1))(by kernel_rfl)((.of rfl):SubM _ _) .rfl .rfl((.of [0,1,2,3,4,5,6,7,8,9,10,11,12,13,14,15]rfl):SelR _ _ _)
 refine zL(X:=Wd×Wd×Wd×Wd×Wd×Wd×Nat)(k':=6)(L':=(lb 15 1279))(fun(u2_1,u2_2,u2_3,u5_1,u5_2,u5_3,u10_1)=>([(9,.pointer(some⟨u10_1,0,none⟩)),(19,.agg(cw [u5_1,u5_2,u5_3]).toArray),(16,.agg(cw [u2_1,u2_2,u2_3]).toArray),(21,.agg(cw [wa0,wa1,wa2]).toArray),(20,.agg(cw [wd0,wd1,wd2]).toArray),(7,.pointer(some⟨b4,0,none⟩)),(6,.bool false),(5,.pointer(some⟨b3,0,none⟩)),(4,.pointer(some⟨b2,0,none⟩)),(3,.pointer(some⟨b1,0,none⟩))],[boxA u10_1 89 [.bool false,.slice none 0 0,.bool false,.slice none 0 0,.bool false,.slice none 0 0]],[boxA b4 89 [.bool false,.slice none 0 0,.bool false,.slice none 0 0,.bool false,.slice none 0 0],boxA b3 89(cw [wd0,wd1,wd2]),boxA b2 89(cw [wb0,wb1,wb2]),boxA b1 89(cw [wa0,wa1,wa2])],[zF u5_1(fy*gz - fz*gy),zF u5_2(fz*gx - fx*gz),zF u5_3(fx*gy - fy*gx),zF u2_1(ey*fz - ez*fy),zF u2_2(ez*fx - ex*fz),zF u2_3(ex*fy - ey*fx),zF wz 0,zF wa0 ex,zF wa1 ey,zF wa2 ez,zF wb0 fx,zF wb1 fy,zF wb2 fz,zF wd0 gx,zF wd1 gy,zF wd2 gz])) ?_(fun hD17=> ?_)
 ·
  rintro ⟨u2_1,u2_2,u2_3,u5_1,u5_2,u5_3,u10_1⟩
  dsimp only [cw]
  refine zPa 8 9 11(by kernel_rfl) ?_ ?_ ?_
  ·
   refine zu rfl rfl rfl rfl(.c rfl(.c rfl .n))ce61(zka(ex:=gx)(ey:=gy)(ez:=gz)(wa0:=wd0)(wa1:=wd1)(wa2:=wd2)(fx:=ex)(fy:=ey)(fz:=ez)(wb0:=wa0)(wb1:=wa1)(wb2:=wa2)(hlex:=by omega)(hley:=by omega)(hlez:=by omega)(hlfx:=by omega)(hlfy:=by omega)(hlfz:=by omega))(.c(j:=13)rfl(.c(j:=14)rfl(.c(j:=15)rfl(.c(j:=7)rfl(.c(j:=8)rfl(.c(j:=9)rfl .n)))))) ?_
   rintro ⟨u8_1,u8_2,u8_3⟩ -
   dsimp only [List.append_eq,List.nil_append,List.cons_append]
   exact zp(hD9(u2_1,u2_2,u2_3,u5_1,u5_2,u5_3,u8_1,u8_2,u8_3,u10_1))(by kernel_rfl)((.of rfl):SubM _ _) .rfl .rfl((.of [0,1,2,3,4,5,6,7,8,9,10,11,12,13,14,15,16,17,18]rfl):SelR _ _ _)
  ·
   refine zO rfl rfl rfl rfl(zn zr89 rfl)(fun u9_1 _=> ?_)
   exact zp(hD11(u2_1,u2_2,u2_3,u5_1,u5_2,u5_3,u9_1,u10_1))(by kernel_rfl)((.of rfl):SubM _ _)(zR 1 rfl(zR 0 rfl .nil)) .rfl((.of [0,1,2,3,4,5,6,7,8,9,10,11,12,13,14,15]rfl):SelR _ _ _)
  ·
   refine zO rfl rfl rfl rfl(zn zr89 rfl)(fun u11_1 _=> ?_)
   exact zp(hD13(u2_1,u2_2,u2_3,u5_1,u5_2,u5_3,u10_1,u11_1))(by kernel_rfl)((.of rfl):SubM _ _) .rfl .rfl((.of [0,1,2,3,4,5,6,7,8,9,10,11,12,13,14,15]rfl):SelR _ _ _)
 refine zL(X:=Wd×Wd×Wd×Wd×Wd×Wd×Nat)(k':=6)(L':=(lb 15 2303))(fun(u2_1,u2_2,u2_3,u5_1,u5_2,u5_3,u11_1)=>([(10,.pointer(some⟨u11_1,0,none⟩)),(19,.agg(cw [u5_1,u5_2,u5_3]).toArray),(16,.agg(cw [u2_1,u2_2,u2_3]).toArray),(21,.agg(cw [wa0,wa1,wa2]).toArray),(20,.agg(cw [wd0,wd1,wd2]).toArray),(7,.pointer(some⟨b4,0,none⟩)),(6,.bool false),(5,.pointer(some⟨b3,0,none⟩)),(4,.pointer(some⟨b2,0,none⟩)),(3,.pointer(some⟨b1,0,none⟩))],[boxA u11_1 89 [.bool false,.slice none 0 0,.bool false,.slice none 0 0,.bool false,.slice none 0 0]],[boxA b4 89 [.bool false,.slice none 0 0,.bool false,.slice none 0 0,.bool false,.slice none 0 0],boxA b3 89(cw [wd0,wd1,wd2]),boxA b2 89(cw [wb0,wb1,wb2]),boxA b1 89(cw [wa0,wa1,wa2])],[zF u5_1(fy*gz - fz*gy),zF u5_2(fz*gx - fx*gz),zF u5_3(fx*gy - fy*gx),zF u2_1(ey*fz - ez*fy),zF u2_2(ez*fx - ex*fz),zF u2_3(ex*fy - ey*fx),zF wz 0,zF wa0 ex,zF wa1 ey,zF wa2 ez,zF wb0 fx,zF wb1 fy,zF wb2 fz,zF wd0 gx,zF wd1 gy,zF wd2 gz])) ?_(fun hD18=> ?_)
 ·
  rintro ⟨u2_1,u2_2,u2_3,u5_1,u5_2,u5_3,u11_1⟩
  dsimp only [cw]
  refine zPa 8 9 10(by kernel_rfl) ?_ ?_ ?_
  ·
   refine zu rfl rfl rfl rfl(.c rfl(.c rfl .n))ce61(zka(ex:=gx)(ey:=gy)(ez:=gz)(wa0:=wd0)(wa1:=wd1)(wa2:=wd2)(fx:=ex)(fy:=ey)(fz:=ez)(wb0:=wa0)(wb1:=wa1)(wb2:=wa2)(hlex:=by omega)(hley:=by omega)(hlez:=by omega)(hlfx:=by omega)(hlfy:=by omega)(hlfz:=by omega))(.c(j:=13)rfl(.c(j:=14)rfl(.c(j:=15)rfl(.c(j:=7)rfl(.c(j:=8)rfl(.c(j:=9)rfl .n)))))) ?_
   rintro ⟨u8_1,u8_2,u8_3⟩ -
   dsimp only [List.append_eq,List.nil_append,List.cons_append]
   exact zp(hD10(u2_1,u2_2,u2_3,u5_1,u5_2,u5_3,u8_1,u8_2,u8_3,u11_1))(by kernel_rfl)((.of rfl):SubM _ _) .rfl .rfl((.of [0,1,2,3,4,5,6,7,8,9,10,11,12,13,14,15,16,17,18]rfl):SelR _ _ _)
  ·
   refine zO rfl rfl rfl rfl(zn zr89 rfl)(fun u9_1 _=> ?_)
   exact zp(hD12(u2_1,u2_2,u2_3,u5_1,u5_2,u5_3,u9_1,u11_1))(by kernel_rfl)((.of rfl):SubM _ _)(zR 1 rfl(zR 0 rfl .nil)) .rfl((.of [0,1,2,3,4,5,6,7,8,9,10,11,12,13,14,15]rfl):SelR _ _ _)
  ·
   refine zO rfl rfl rfl rfl(zn zr89 rfl)(fun u10_1 _=> ?_)
   exact zp(hD13(u2_1,u2_2,u2_3,u5_1,u5_2,u5_3,u10_1,u11_1))(by kernel_rfl)((.of rfl):SubM _ _)(zR 1 rfl(zR 0 rfl .nil)) .rfl((.of [0,1,2,3,4,5,6,7,8,9,10,11,12,13,14,15]rfl):SelR _ _ _)
 refine zL(X:=Wd×Wd×Wd×Nat×Nat)(k':=6)(L':=(lb 15 1759))(fun(u2_1,u2_2,u2_3,u9_1,u10_1)=>([(9,.pointer(some⟨u10_1,0,none⟩)),(8,.pointer(some⟨u9_1,0,none⟩)),(16,.agg(cw [u2_1,u2_2,u2_3]).toArray),(21,.agg(cw [wa0,wa1,wa2]).toArray),(20,.agg(cw [wd0,wd1,wd2]).toArray),(18,.agg(cw [wd0,wd1,wd2]).toArray),(17,.agg(cw [wb0,wb1,wb2]).toArray),(7,.pointer(some⟨b4,0,none⟩)),(6,.bool false),(5,.pointer(some⟨b3,0,none⟩)),(4,.pointer(some⟨b2,0,none⟩)),(3,.pointer(some⟨b1,0,none⟩))],[boxA u10_1 89 [.bool false,.slice none 0 0,.bool false,.slice none 0 0,.bool false,.slice none 0 0],boxA u9_1 89 [.bool false,.slice none 0 0,.bool false,.slice none 0 0,.bool false,.slice none 0 0]],[boxA b4 89 [.bool false,.slice none 0 0,.bool false,.slice none 0 0,.bool false,.slice none 0 0],boxA b3 89(cw [wd0,wd1,wd2]),boxA b2 89(cw [wb0,wb1,wb2]),boxA b1 89(cw [wa0,wa1,wa2])],[zF u2_1(ey*fz - ez*fy),zF u2_2(ez*fx - ex*fz),zF u2_3(ex*fy - ey*fx),zF wz 0,zF wa0 ex,zF wa1 ey,zF wa2 ez,zF wb0 fx,zF wb1 fy,zF wb2 fz,zF wd0 gx,zF wd1 gy,zF wd2 gz])) ?_(fun hD19=> ?_)
 ·
  rintro ⟨u2_1,u2_2,u2_3,u9_1,u10_1⟩
  dsimp only [cw]
  refine zMa 5 11(by kernel_rfl) ?_ ?_
  ·
   refine zu rfl rfl rfl rfl(.c rfl(.c rfl .n))ce61(zka(ex:=fx)(ey:=fy)(ez:=fz)(wa0:=wb0)(wa1:=wb1)(wa2:=wb2)(fx:=gx)(fy:=gy)(fz:=gz)(wb0:=wd0)(wb1:=wd1)(wb2:=wd2)(hlex:=by omega)(hley:=by omega)(hlez:=by omega)(hlfx:=by omega)(hlfy:=by omega)(hlfz:=by omega))(.c(j:=7)rfl(.c(j:=8)rfl(.c(j:=9)rfl(.c(j:=10)rfl(.c(j:=11)rfl(.c(j:=12)rfl .n)))))) ?_
   rintro ⟨u5_1,u5_2,u5_3⟩ -
   dsimp only [List.append_eq,List.nil_append,List.cons_append]
   exact zp(hD11(u2_1,u2_2,u2_3,u5_1,u5_2,u5_3,u9_1,u10_1))(by kernel_rfl)((.of rfl):SubM _ _) .rfl .rfl((.of [0,1,2,3,4,5,6,7,8,9,10,11,12,13,14,15]rfl):SelR _ _ _)
  ·
   refine zO rfl rfl rfl rfl(zn zr89 rfl)(fun u11_1 _=> ?_)
   exact zp(hD14(u2_1,u2_2,u2_3,u9_1,u10_1,u11_1))(by kernel_rfl)((.of rfl):SubM _ _) .rfl .rfl((.of [0,1,2,3,4,5,6,7,8,9,10,11,12]rfl):SelR _ _ _)
 refine zL(X:=Wd×Wd×Wd×Nat×Nat)(k':=6)(L':=(lb 15 2783))(fun(u2_1,u2_2,u2_3,u9_1,u11_1)=>([(10,.pointer(some⟨u11_1,0,none⟩)),(8,.pointer(some⟨u9_1,0,none⟩)),(16,.agg(cw [u2_1,u2_2,u2_3]).toArray),(21,.agg(cw [wa0,wa1,wa2]).toArray),(20,.agg(cw [wd0,wd1,wd2]).toArray),(18,.agg(cw [wd0,wd1,wd2]).toArray),(17,.agg(cw [wb0,wb1,wb2]).toArray),(7,.pointer(some⟨b4,0,none⟩)),(6,.bool false),(5,.pointer(some⟨b3,0,none⟩)),(4,.pointer(some⟨b2,0,none⟩)),(3,.pointer(some⟨b1,0,none⟩))],[boxA u11_1 89 [.bool false,.slice none 0 0,.bool false,.slice none 0 0,.bool false,.slice none 0 0],boxA u9_1 89 [.bool false,.slice none 0 0,.bool false,.slice none 0 0,.bool false,.slice none 0 0]],[boxA b4 89 [.bool false,.slice none 0 0,.bool false,.slice none 0 0,.bool false,.slice none 0 0],boxA b3 89(cw [wd0,wd1,wd2]),boxA b2 89(cw [wb0,wb1,wb2]),boxA b1 89(cw [wa0,wa1,wa2])],[zF u2_1(ey*fz - ez*fy),zF u2_2(ez*fx - ex*fz),zF u2_3(ex*fy - ey*fx),zF wz 0,zF wa0 ex,zF wa1 ey,zF wa2 ez,zF wb0 fx,zF wb1 fy,zF wb2 fz,zF wd0 gx,zF wd1 gy,zF wd2 gz])) ?_(fun hD20=> ?_)
 ·
  rintro ⟨u2_1,u2_2,u2_3,u9_1,u11_1⟩
  dsimp only [cw]
  refine zMa 5 10(by kernel_rfl) ?_ ?_
  ·
   refine zu rfl rfl rfl rfl(.c rfl(.c rfl .n))ce61(zka(ex:=fx)(ey:=fy)(ez:=fz)(wa0:=wb0)(wa1:=wb1)(wa2:=wb2)(fx:=gx)(fy:=gy)(fz:=gz)(wb0:=wd0)(wb1:=wd1)(wb2:=wd2)(hlex:=by omega)(hley:=by omega)(hlez:=by omega)(hlfx:=by omega)(hlfy:=by omega)(hlfz:=by omega))(.c(j:=7)rfl(.c(j:=8)rfl(.c(j:=9)rfl(.c(j:=10)rfl(.c(j:=11)rfl(.c(j:=12)rfl .n)))))) ?_
   rintro ⟨u5_1,u5_2,u5_3⟩ -
   dsimp only [List.append_eq,List.nil_append,List.cons_append]
   exact zp(hD12(u2_1,u2_2,u2_3,u5_1,u5_2,u5_3,u9_1,u11_1))(by kernel_rfl)((.of rfl):SubM _ _) .rfl .rfl((.of [0,1,2,3,4,5,6,7,8,9,10,11,12,13,14,15]rfl):SelR _ _ _)
  ·
   refine zO rfl rfl rfl rfl(zn zr89 rfl)(fun u10_1 _=> ?_)
   exact zp(hD14(u2_1,u2_2,u2_3,u9_1,u10_1,u11_1))(by kernel_rfl)((.of rfl):SubM _ _)(zR 1 rfl(zR 0 rfl(zR 0 rfl .nil))) .rfl((.of [0,1,2,3,4,5,6,7,8,9,10,11,12]rfl):SelR _ _ _)
 refine zL(X:=Wd×Wd×Wd×Nat×Nat)(k':=6)(L':=(lb 15 3295))(fun(u2_1,u2_2,u2_3,u10_1,u11_1)=>([(10,.pointer(some⟨u11_1,0,none⟩)),(9,.pointer(some⟨u10_1,0,none⟩)),(16,.agg(cw [u2_1,u2_2,u2_3]).toArray),(21,.agg(cw [wa0,wa1,wa2]).toArray),(20,.agg(cw [wd0,wd1,wd2]).toArray),(18,.agg(cw [wd0,wd1,wd2]).toArray),(17,.agg(cw [wb0,wb1,wb2]).toArray),(7,.pointer(some⟨b4,0,none⟩)),(6,.bool false),(5,.pointer(some⟨b3,0,none⟩)),(4,.pointer(some⟨b2,0,none⟩)),(3,.pointer(some⟨b1,0,none⟩))],[boxA u11_1 89 [.bool false,.slice none 0 0,.bool false,.slice none 0 0,.bool false,.slice none 0 0],boxA u10_1 89 [.bool false,.slice none 0 0,.bool false,.slice none 0 0,.bool false,.slice none 0 0]],[boxA b4 89 [.bool false,.slice none 0 0,.bool false,.slice none 0 0,.bool false,.slice none 0 0],boxA b3 89(cw [wd0,wd1,wd2]),boxA b2 89(cw [wb0,wb1,wb2]),boxA b1 89(cw [wa0,wa1,wa2])],[zF u2_1(ey*fz - ez*fy),zF u2_2(ez*fx - ex*fz),zF u2_3(ex*fy - ey*fx),zF wz 0,zF wa0 ex,zF wa1 ey,zF wa2 ez,zF wb0 fx,zF wb1 fy,zF wb2 fz,zF wd0 gx,zF wd1 gy,zF wd2 gz])) ?_(fun hD21=> ?_)
 ·
  rintro ⟨u2_1,u2_2,u2_3,u10_1,u11_1⟩
  dsimp only [cw]
  refine zMa 5 9(by kernel_rfl) ?_ ?_
  ·
   refine zu rfl rfl rfl rfl(.c rfl(.c rfl .n))ce61(zka(ex:=fx)(ey:=fy)(ez:=fz)(wa0:=wb0)(wa1:=wb1)(wa2:=wb2)(fx:=gx)(fy:=gy)(fz:=gz)(wb0:=wd0)(wb1:=wd1)(wb2:=wd2)(hlex:=by omega)(hley:=by omega)(hlez:=by omega)(hlfx:=by omega)(hlfy:=by omega)(hlfz:=by omega))(.c(j:=7)rfl(.c(j:=8)rfl(.c(j:=9)rfl(.c(j:=10)rfl(.c(j:=11)rfl(.c(j:=12)rfl .n)))))) ?_
   rintro ⟨u5_1,u5_2,u5_3⟩ -
   dsimp only [List.append_eq,List.nil_append,List.cons_append]
   exact zp(hD13(u2_1,u2_2,u2_3,u5_1,u5_2,u5_3,u10_1,u11_1))(by kernel_rfl)((.of rfl):SubM _ _) .rfl .rfl((.of [0,1,2,3,4,5,6,7,8,9,10,11,12,13,14,15]rfl):SelR _ _ _)
  ·
   refine zO rfl rfl rfl rfl(zn zr89 rfl)(fun u9_1 _=> ?_)
   exact zp(hD14(u2_1,u2_2,u2_3,u9_1,u10_1,u11_1))(by kernel_rfl)((.of rfl):SubM _ _)(zR 1 rfl(zR 1 rfl(zR 0 rfl .nil))) .rfl((.of [0,1,2,3,4,5,6,7,8,9,10,11,12]rfl):SelR _ _ _)
 refine zL(X:=Nat×Nat×Nat)(k':=6)(L':=(lb 15 3803))(fun(u9_1,u10_1,u11_1)=>([(10,.pointer(some⟨u11_1,0,none⟩)),(9,.pointer(some⟨u10_1,0,none⟩)),(8,.pointer(some⟨u9_1,0,none⟩)),(21,.agg(cw [wa0,wa1,wa2]).toArray),(20,.agg(cw [wd0,wd1,wd2]).toArray),(18,.agg(cw [wd0,wd1,wd2]).toArray),(17,.agg(cw [wb0,wb1,wb2]).toArray),(15,.agg(cw [wb0,wb1,wb2]).toArray),(14,.agg(cw [wa0,wa1,wa2]).toArray),(7,.pointer(some⟨b4,0,none⟩)),(6,.bool false),(5,.pointer(some⟨b3,0,none⟩)),(4,.pointer(some⟨b2,0,none⟩)),(3,.pointer(some⟨b1,0,none⟩))],[boxA u11_1 89 [.bool false,.slice none 0 0,.bool false,.slice none 0 0,.bool false,.slice none 0 0],boxA u10_1 89 [.bool false,.slice none 0 0,.bool false,.slice none 0 0,.bool false,.slice none 0 0],boxA u9_1 89 [.bool false,.slice none 0 0,.bool false,.slice none 0 0,.bool false,.slice none 0 0]],[boxA b4 89 [.bool false,.slice none 0 0,.bool false,.slice none 0 0,.bool false,.slice none 0 0],boxA b3 89(cw [wd0,wd1,wd2]),boxA b2 89(cw [wb0,wb1,wb2]),boxA b1 89(cw [wa0,wa1,wa2])],[zF wz 0,zF wa0 ex,zF wa1 ey,zF wa2 ez,zF wb0 fx,zF wb1 fy,zF wb2 fz,zF wd0 gx,zF wd1 gy,zF wd2 gz])) ?_(fun hD22=> ?_)
 ·
  rintro ⟨u9_1,u10_1,u11_1⟩
  dsimp only [cw]
  refine zE 2(by kernel_rfl) ?_
  ·
   refine zu rfl rfl rfl rfl(.c rfl(.c rfl .n))ce61(zka(ex:=ex)(ey:=ey)(ez:=ez)(wa0:=wa0)(wa1:=wa1)(wa2:=wa2)(fx:=fx)(fy:=fy)(fz:=fz)(wb0:=wb0)(wb1:=wb1)(wb2:=wb2)(hlex:=by omega)(hley:=by omega)(hlez:=by omega)(hlfx:=by omega)(hlfy:=by omega)(hlfz:=by omega))(.c(j:=1)rfl(.c(j:=2)rfl(.c(j:=3)rfl(.c(j:=4)rfl(.c(j:=5)rfl(.c(j:=6)rfl .n)))))) ?_
   rintro ⟨u2_1,u2_2,u2_3⟩ -
   dsimp only [List.append_eq,List.nil_append,List.cons_append]
   exact zp(hD14(u2_1,u2_2,u2_3,u9_1,u10_1,u11_1))(by kernel_rfl)((.of rfl):SubM _ _) .rfl .rfl((.of [0,1,2,3,4,5,6,7,8,9,10,11,12]rfl):SelR _ _ _)
 refine zL(X:=Wd×Wd×Wd×Wd×Wd×Wd)(k':=7)(L':=(lb 15 255))(fun(u2_1,u2_2,u2_3,u5_1,u5_2,u5_3)=>([(19,.agg(cw [u5_1,u5_2,u5_3]).toArray),(16,.agg(cw [u2_1,u2_2,u2_3]).toArray),(21,.agg(cw [wa0,wa1,wa2]).toArray),(20,.agg(cw [wd0,wd1,wd2]).toArray),(7,.pointer(some⟨b4,0,none⟩)),(6,.bool false),(5,.pointer(some⟨b3,0,none⟩)),(4,.pointer(some⟨b2,0,none⟩)),(3,.pointer(some⟨b1,0,none⟩))],[],[boxA b4 89 [.bool false,.slice none 0 0,.bool false,.slice none 0 0,.bool false,.slice none 0 0],boxA b3 89(cw [wd0,wd1,wd2]),boxA b2 89(cw [wb0,wb1,wb2]),boxA b1 89(cw [wa0,wa1,wa2])],[zF u5_1(fy*gz - fz*gy),zF u5_2(fz*gx - fx*gz),zF u5_3(fx*gy - fy*gx),zF u2_1(ey*fz - ez*fy),zF u2_2(ez*fx - ex*fz),zF u2_3(ex*fy - ey*fx),zF wz 0,zF wa0 ex,zF wa1 ey,zF wa2 ez,zF wb0 fx,zF wb1 fy,zF wb2 fz,zF wd0 gx,zF wd1 gy,zF wd2 gz])) ?_(fun hD23=> ?_)
 ·
  rintro ⟨u2_1,u2_2,u2_3,u5_1,u5_2,u5_3⟩
  dsimp only [cw]
  refine zMc 8 9 10 11(by kernel_rfl) ?_ ?_ ?_ ?_
  ·
   refine zu rfl rfl rfl rfl(.c rfl(.c rfl .n))ce61(zka(ex:=gx)(ey:=gy)(ez:=gz)(wa0:=wd0)(wa1:=wd1)(wa2:=wd2)(fx:=ex)(fy:=ey)(fz:=ez)(wb0:=wa0)(wb1:=wa1)(wb2:=wa2)(hlex:=by omega)(hley:=by omega)(hlez:=by omega)(hlfx:=by omega)(hlfy:=by omega)(hlfz:=by omega))(.c(j:=13)rfl(.c(j:=14)rfl(.c(j:=15)rfl(.c(j:=7)rfl(.c(j:=8)rfl(.c(j:=9)rfl .n)))))) ?_
   rintro ⟨u8_1,u8_2,u8_3⟩ -
   dsimp only [List.append_eq,List.nil_append,List.cons_append]
   exact zp(hD15(u2_1,u2_2,u2_3,u5_1,u5_2,u5_3,u8_1,u8_2,u8_3))(by kernel_rfl)((.of rfl):SubM _ _) .rfl .rfl((.of [0,1,2,3,4,5,6,7,8,9,10,11,12,13,14,15,16,17,18]rfl):SelR _ _ _)
  ·
   refine zO rfl rfl rfl rfl(zn zr89 rfl)(fun u9_1 _=> ?_)
   exact zp(hD16(u2_1,u2_2,u2_3,u5_1,u5_2,u5_3,u9_1))(by kernel_rfl)((.of rfl):SubM _ _) .rfl .rfl((.of [0,1,2,3,4,5,6,7,8,9,10,11,12,13,14,15]rfl):SelR _ _ _)
  ·
   refine zO rfl rfl rfl rfl(zn zr89 rfl)(fun u10_1 _=> ?_)
   exact zp(hD17(u2_1,u2_2,u2_3,u5_1,u5_2,u5_3,u10_1))(by kernel_rfl)((.of rfl):SubM _ _) .rfl .rfl((.of [0,1,2,3,4,5,6,7,8,9,10,11,12,13,14,15]rfl):SelR _ _ _)
  ·
   refine zO rfl rfl rfl rfl(zn zr89 rfl)(fun u11_1 _=> ?_)
   exact zp(hD18(u2_1,u2_2,u2_3,u5_1,u5_2,u5_3,u11_1))(by kernel_rfl)((.of rfl):SubM _ _) .rfl .rfl((.of [0,1,2,3,4,5,6,7,8,9,10,11,12,13,14,15]rfl):SelR _ _ _)
 refine zL(X:=Wd×Wd×Wd×Nat)(k':=7)(L':=(lb 15 735))(fun(u2_1,u2_2,u2_3,u9_1)=>([(8,.pointer(some⟨u9_1,0,none⟩)),(16,.agg(cw [u2_1,u2_2,u2_3]).toArray),(21,.agg(cw [wa0,wa1,wa2]).toArray),(20,.agg(cw [wd0,wd1,wd2]).toArray),(18,.agg(cw [wd0,wd1,wd2]).toArray),(17,.agg(cw [wb0,wb1,wb2]).toArray),(7,.pointer(some⟨b4,0,none⟩)),(6,.bool false),(5,.pointer(some⟨b3,0,none⟩)),(4,.pointer(some⟨b2,0,none⟩)),(3,.pointer(some⟨b1,0,none⟩))],[boxA u9_1 89 [.bool false,.slice none 0 0,.bool false,.slice none 0 0,.bool false,.slice none 0 0]],[boxA b4 89 [.bool false,.slice none 0 0,.bool false,.slice none 0 0,.bool false,.slice none 0 0],boxA b3 89(cw [wd0,wd1,wd2]),boxA b2 89(cw [wb0,wb1,wb2]),boxA b1 89(cw [wa0,wa1,wa2])],[zF u2_1(ey*fz - ez*fy),zF u2_2(ez*fx - ex*fz),zF u2_3(ex*fy - ey*fx),zF wz 0,zF wa0 ex,zF wa1 ey,zF wa2 ez,zF wb0 fx,zF wb1 fy,zF wb2 fz,zF wd0 gx,zF wd1 gy,zF wd2 gz])) ?_(fun hD24=> ?_)
 ·
  rintro ⟨u2_1,u2_2,u2_3,u9_1⟩
  dsimp only [cw]
  refine zPa 5 10 11(by kernel_rfl) ?_ ?_ ?_
  ·
   refine zu rfl rfl rfl rfl(.c rfl(.c rfl .n))ce61(zka(ex:=fx)(ey:=fy)(ez:=fz)(wa0:=wb0)(wa1:=wb1)(wa2:=wb2)(fx:=gx)(fy:=gy)(fz:=gz)(wb0:=wd0)(wb1:=wd1)(wb2:=wd2)(hlex:=by omega)(hley:=by omega)(hlez:=by omega)(hlfx:=by omega)(hlfy:=by omega)(hlfz:=by omega))(.c(j:=7)rfl(.c(j:=8)rfl(.c(j:=9)rfl(.c(j:=10)rfl(.c(j:=11)rfl(.c(j:=12)rfl .n)))))) ?_
   rintro ⟨u5_1,u5_2,u5_3⟩ -
   dsimp only [List.append_eq,List.nil_append,List.cons_append]
   exact zp(hD16(u2_1,u2_2,u2_3,u5_1,u5_2,u5_3,u9_1))(by kernel_rfl)((.of rfl):SubM _ _) .rfl .rfl((.of [0,1,2,3,4,5,6,7,8,9,10,11,12,13,14,15]rfl):SelR _ _ _)
  ·
   refine zO rfl rfl rfl rfl(zn zr89 rfl)(fun u10_1 _=> ?_)
   exact zp(hD19(u2_1,u2_2,u2_3,u9_1,u10_1))(by kernel_rfl)((.of rfl):SubM _ _) .rfl .rfl((.of [0,1,2,3,4,5,6,7,8,9,10,11,12]rfl):SelR _ _ _)
  ·
   refine zO rfl rfl rfl rfl(zn zr89 rfl)(fun u11_1 _=> ?_)
   exact zp(hD20(u2_1,u2_2,u2_3,u9_1,u11_1))(by kernel_rfl)((.of rfl):SubM _ _) .rfl .rfl((.of [0,1,2,3,4,5,6,7,8,9,10,11,12]rfl):SelR _ _ _)
 refine zL(X:=Wd×Wd×Wd×Nat)(k':=7)(L':=(lb 15 1247))(fun(u2_1,u2_2,u2_3,u10_1)=>([(9,.pointer(some⟨u10_1,0,none⟩)),(16,.agg(cw [u2_1,u2_2,u2_3]).toArray),(21,.agg(cw [wa0,wa1,wa2]).toArray),(20,.agg(cw [wd0,wd1,wd2]).toArray),(18,.agg(cw [wd0,wd1,wd2]).toArray),(17,.agg(cw [wb0,wb1,wb2]).toArray),(7,.pointer(some⟨b4,0,none⟩)),(6,.bool false),(5,.pointer(some⟨b3,0,none⟩)),(4,.pointer(some⟨b2,0,none⟩)),(3,.pointer(some⟨b1,0,none⟩))],[boxA u10_1 89 [.bool false,.slice none 0 0,.bool false,.slice none 0 0,.bool false,.slice none 0 0]],[boxA b4 89 [.bool false,.slice none 0 0,.bool false,.slice none 0 0,.bool false,.slice none 0 0],boxA b3 89(cw [wd0,wd1,wd2]),boxA b2 89(cw [wb0,wb1,wb2]),boxA b1 89(cw [wa0,wa1,wa2])],[zF u2_1(ey*fz - ez*fy),zF u2_2(ez*fx - ex*fz),zF u2_3(ex*fy - ey*fx),zF wz 0,zF wa0 ex,zF wa1 ey,zF wa2 ez,zF wb0 fx,zF wb1 fy,zF wb2 fz,zF wd0 gx,zF wd1 gy,zF wd2 gz])) ?_(fun hD25=> ?_)
 ·
  rintro ⟨u2_1,u2_2,u2_3,u10_1⟩
  dsimp only [cw]
  refine zPa 5 9 11(by kernel_rfl) ?_ ?_ ?_
  ·
   refine zu rfl rfl rfl rfl(.c rfl(.c rfl .n))ce61(zka(ex:=fx)(ey:=fy)(ez:=fz)(wa0:=wb0)(wa1:=wb1)(wa2:=wb2)(fx:=gx)(fy:=gy)(fz:=gz)(wb0:=wd0)(wb1:=wd1)(wb2:=wd2)(hlex:=by omega)(hley:=by omega)(hlez:=by omega)(hlfx:=by omega)(hlfy:=by omega)(hlfz:=by omega))(.c(j:=7)rfl(.c(j:=8)rfl(.c(j:=9)rfl(.c(j:=10)rfl(.c(j:=11)rfl(.c(j:=12)rfl .n)))))) ?_
   rintro ⟨u5_1,u5_2,u5_3⟩ -
   dsimp only [List.append_eq,List.nil_append,List.cons_append]
   exact zp(hD17(u2_1,u2_2,u2_3,u5_1,u5_2,u5_3,u10_1))(by kernel_rfl)((.of rfl):SubM _ _) .rfl .rfl((.of [0,1,2,3,4,5,6,7,8,9,10,11,12,13,14,15]rfl):SelR _ _ _)
  ·
   refine zO rfl rfl rfl rfl(zn zr89 rfl)(fun u9_1 _=> ?_)
   exact zp(hD19(u2_1,u2_2,u2_3,u9_1,u10_1))(by kernel_rfl)((.of rfl):SubM _ _)(zR 1 rfl(zR 0 rfl .nil)) .rfl((.of [0,1,2,3,4,5,6,7,8,9,10,11,12]rfl):SelR _ _ _)
  ·
   refine zO rfl rfl rfl rfl(zn zr89 rfl)(fun u11_1 _=> ?_)
   exact zp(hD21(u2_1,u2_2,u2_3,u10_1,u11_1))(by kernel_rfl)((.of rfl):SubM _ _) .rfl .rfl((.of [0,1,2,3,4,5,6,7,8,9,10,11,12]rfl):SelR _ _ _)
 refine zL(X:=Wd×Wd×Wd×Nat)(k':=7)(L':=(lb 15 2271))(fun(u2_1,u2_2,u2_3,u11_1)=>([(10,.pointer(some⟨u11_1,0,none⟩)),(16,.agg(cw [u2_1,u2_2,u2_3]).toArray),(21,.agg(cw [wa0,wa1,wa2]).toArray),(20,.agg(cw [wd0,wd1,wd2]).toArray),(18,.agg(cw [wd0,wd1,wd2]).toArray),(17,.agg(cw [wb0,wb1,wb2]).toArray),(7,.pointer(some⟨b4,0,none⟩)),(6,.bool false),(5,.pointer(some⟨b3,0,none⟩)),(4,.pointer(some⟨b2,0,none⟩)),(3,.pointer(some⟨b1,0,none⟩))],[boxA u11_1 89 [.bool false,.slice none 0 0,.bool false,.slice none 0 0,.bool false,.slice none 0 0]],[boxA b4 89 [.bool false,.slice none 0 0,.bool false,.slice none 0 0,.bool false,.slice none 0 0],boxA b3 89(cw [wd0,wd1,wd2]),boxA b2 89(cw [wb0,wb1,wb2]),boxA b1 89(cw [wa0,wa1,wa2])],[zF u2_1(ey*fz - ez*fy),zF u2_2(ez*fx - ex*fz),zF u2_3(ex*fy - ey*fx),zF wz 0,zF wa0 ex,zF wa1 ey,zF wa2 ez,zF wb0 fx,zF wb1 fy,zF wb2 fz,zF wd0 gx,zF wd1 gy,zF wd2 gz])) ?_(fun hD26=> ?_)
 ·
  rintro ⟨u2_1,u2_2,u2_3,u11_1⟩
  dsimp only [cw]
  refine zPa 5 9 10(by kernel_rfl) ?_ ?_ ?_
  ·
   refine zu rfl rfl rfl rfl(.c rfl(.c rfl .n))ce61(zka(ex:=fx)(ey:=fy)(ez:=fz)(wa0:=wb0)(wa1:=wb1)(wa2:=wb2)(fx:=gx)(fy:=gy)(fz:=gz)(wb0:=wd0)(wb1:=wd1)(wb2:=wd2)(hlex:=by omega)(hley:=by omega)(hlez:=by omega)(hlfx:=by omega)(hlfy:=by omega)(hlfz:=by omega))(.c(j:=7)rfl(.c(j:=8)rfl(.c(j:=9)rfl(.c(j:=10)rfl(.c(j:=11)rfl(.c(j:=12)rfl .n)))))) ?_
   rintro ⟨u5_1,u5_2,u5_3⟩ -
   dsimp only [List.append_eq,List.nil_append,List.cons_append]
   exact zp(hD18(u2_1,u2_2,u2_3,u5_1,u5_2,u5_3,u11_1))(by kernel_rfl)((.of rfl):SubM _ _) .rfl .rfl((.of [0,1,2,3,4,5,6,7,8,9,10,11,12,13,14,15]rfl):SelR _ _ _)
  ·
   refine zO rfl rfl rfl rfl(zn zr89 rfl)(fun u9_1 _=> ?_)
   exact zp(hD20(u2_1,u2_2,u2_3,u9_1,u11_1))(by kernel_rfl)((.of rfl):SubM _ _)(zR 1 rfl(zR 0 rfl .nil)) .rfl((.of [0,1,2,3,4,5,6,7,8,9,10,11,12]rfl):SelR _ _ _)
  ·
   refine zO rfl rfl rfl rfl(zn zr89 rfl)(fun u10_1 _=> ?_)
   exact zp(hD21(u2_1,u2_2,u2_3,u10_1,u11_1))(by kernel_rfl)((.of rfl):SubM _ _)(zR 1 rfl(zR 0 rfl .nil)) .rfl((.of [0,1,2,3,4,5,6,7,8,9,10,11,12]rfl):SelR _ _ _)
 refine zL(X:=Nat×Nat)(k':=7)(L':=(lb 15 1755))(fun(u9_1,u10_1)=>([(9,.pointer(some⟨u10_1,0,none⟩)),(8,.pointer(some⟨u9_1,0,none⟩)),(21,.agg(cw [wa0,wa1,wa2]).toArray),(20,.agg(cw [wd0,wd1,wd2]).toArray),(18,.agg(cw [wd0,wd1,wd2]).toArray),(17,.agg(cw [wb0,wb1,wb2]).toArray),(15,.agg(cw [wb0,wb1,wb2]).toArray),(14,.agg(cw [wa0,wa1,wa2]).toArray),(7,.pointer(some⟨b4,0,none⟩)),(6,.bool false),(5,.pointer(some⟨b3,0,none⟩)),(4,.pointer(some⟨b2,0,none⟩)),(3,.pointer(some⟨b1,0,none⟩))],[boxA u10_1 89 [.bool false,.slice none 0 0,.bool false,.slice none 0 0,.bool false,.slice none 0 0],boxA u9_1 89 [.bool false,.slice none 0 0,.bool false,.slice none 0 0,.bool false,.slice none 0 0]],[boxA b4 89 [.bool false,.slice none 0 0,.bool false,.slice none 0 0,.bool false,.slice none 0 0],boxA b3 89(cw [wd0,wd1,wd2]),boxA b2 89(cw [wb0,wb1,wb2]),boxA b1 89(cw [wa0,wa1,wa2])],[zF wz 0,zF wa0 ex,zF wa1 ey,zF wa2 ez,zF wb0 fx,zF wb1 fy,zF wb2 fz,zF wd0 gx,zF wd1 gy,zF wd2 gz])) ?_(fun hD27=> ?_)
 ·
  rintro ⟨u9_1,u10_1⟩
  dsimp only [cw]
  refine zMa 2 11(by kernel_rfl) ?_ ?_
  ·
   refine zu rfl rfl rfl rfl(.c rfl(.c rfl .n))ce61(zka(ex:=ex)(ey:=ey)(ez:=ez)(wa0:=wa0)(wa1:=wa1)(wa2:=wa2)(fx:=fx)(fy:=fy)(fz:=fz)(wb0:=wb0)(wb1:=wb1)(wb2:=wb2)(hlex:=by omega)(hley:=by omega)(hlez:=by omega)(hlfx:=by omega)(hlfy:=by omega)(hlfz:=by omega))(.c(j:=1)rfl(.c(j:=2)rfl(.c(j:=3)rfl(.c(j:=4)rfl(.c(j:=5)rfl(.c(j:=6)rfl .n)))))) ?_
   rintro ⟨u2_1,u2_2,u2_3⟩ -
   dsimp only [List.append_eq,List.nil_append,List.cons_append]
   exact zp(hD19(u2_1,u2_2,u2_3,u9_1,u10_1))(by kernel_rfl)((.of rfl):SubM _ _) .rfl .rfl((.of [0,1,2,3,4,5,6,7,8,9,10,11,12]rfl):SelR _ _ _)
  ·
   refine zO rfl rfl rfl rfl(zn zr89 rfl)(fun u11_1 _=> ?_)
   exact zp(hD22(u9_1,u10_1,u11_1))(by kernel_rfl)((.of rfl):SubM _ _) .rfl .rfl((.of [0,1,2,3,4,5,6,7,8,9]rfl):SelR _ _ _)
 refine zL(X:=Nat×Nat)(k':=7)(L':=(lb 15 2779))(fun(u9_1,u11_1)=>([(10,.pointer(some⟨u11_1,0,none⟩)),(8,.pointer(some⟨u9_1,0,none⟩)),(21,.agg(cw [wa0,wa1,wa2]).toArray),(20,.agg(cw [wd0,wd1,wd2]).toArray),(18,.agg(cw [wd0,wd1,wd2]).toArray),(17,.agg(cw [wb0,wb1,wb2]).toArray),(15,.agg(cw [wb0,wb1,wb2]).toArray),(14,.agg(cw [wa0,wa1,wa2]).toArray),(7,.pointer(some⟨b4,0,none⟩)),(6,.bool false),(5,.pointer(some⟨b3,0,none⟩)),(4,.pointer(some⟨b2,0,none⟩)),(3,.pointer(some⟨b1,0,none⟩))],[boxA u11_1 89 [.bool false,.slice none 0 0,.bool false,.slice none 0 0,.bool false,.slice none 0 0],boxA u9_1 89 [.bool false,.slice none 0 0,.bool false,.slice none 0 0,.bool false,.slice none 0 0]],[boxA b4 89 [.bool false,.slice none 0 0,.bool false,.slice none 0 0,.bool false,.slice none 0 0],boxA b3 89(cw [wd0,wd1,wd2]),boxA b2 89(cw [wb0,wb1,wb2]),boxA b1 89(cw [wa0,wa1,wa2])],[zF wz 0,zF wa0 ex,zF wa1 ey,zF wa2 ez,zF wb0 fx,zF wb1 fy,zF wb2 fz,zF wd0 gx,zF wd1 gy,zF wd2 gz])) ?_(fun hD28=> ?_)
 ·
  rintro ⟨u9_1,u11_1⟩
  dsimp only [cw]
  refine zMa 2 10(by kernel_rfl) ?_ ?_
  ·
   refine zu rfl rfl rfl rfl(.c rfl(.c rfl .n))ce61(zka(ex:=ex)(ey:=ey)(ez:=ez)(wa0:=wa0)(wa1:=wa1)(wa2:=wa2)(fx:=fx)(fy:=fy)(fz:=fz)(wb0:=wb0)(wb1:=wb1)(wb2:=wb2)(hlex:=by omega)(hley:=by omega)(hlez:=by omega)(hlfx:=by omega)(hlfy:=by omega)(hlfz:=by omega))(.c(j:=1)rfl(.c(j:=2)rfl(.c(j:=3)rfl(.c(j:=4)rfl(.c(j:=5)rfl(.c(j:=6)rfl .n)))))) ?_
   rintro ⟨u2_1,u2_2,u2_3⟩ -
   dsimp only [List.append_eq,List.nil_append,List.cons_append]
   exact zp(hD20(u2_1,u2_2,u2_3,u9_1,u11_1))(by kernel_rfl)((.of rfl):SubM _ _) .rfl .rfl((.of [0,1,2,3,4,5,6,7,8,9,10,11,12]rfl):SelR _ _ _)
  ·
   refine zO rfl rfl rfl rfl(zn zr89 rfl)(fun u10_1 _=> ?_)
   exact zp(hD22(u9_1,u10_1,u11_1))(by kernel_rfl)((.of rfl):SubM _ _)(zR 1 rfl(zR 0 rfl(zR 0 rfl .nil))) .rfl((.of [0,1,2,3,4,5,6,7,8,9]rfl):SelR _ _ _)
 refine zL(X:=Nat×Nat)(k':=7)(L':=(lb 15 3291))(fun(u10_1,u11_1)=>([(10,.pointer(some⟨u11_1,0,none⟩)),(9,.pointer(some⟨u10_1,0,none⟩)),(21,.agg(cw [wa0,wa1,wa2]).toArray),(20,.agg(cw [wd0,wd1,wd2]).toArray),(18,.agg(cw [wd0,wd1,wd2]).toArray),(17,.agg(cw [wb0,wb1,wb2]).toArray),(15,.agg(cw [wb0,wb1,wb2]).toArray),(14,.agg(cw [wa0,wa1,wa2]).toArray),(7,.pointer(some⟨b4,0,none⟩)),(6,.bool false),(5,.pointer(some⟨b3,0,none⟩)),(4,.pointer(some⟨b2,0,none⟩)),(3,.pointer(some⟨b1,0,none⟩))],[boxA u11_1 89 [.bool false,.slice none 0 0,.bool false,.slice none 0 0,.bool false,.slice none 0 0],boxA u10_1 89 [.bool false,.slice none 0 0,.bool false,.slice none 0 0,.bool false,.slice none 0 0]],[boxA b4 89 [.bool false,.slice none 0 0,.bool false,.slice none 0 0,.bool false,.slice none 0 0],boxA b3 89(cw [wd0,wd1,wd2]),boxA b2 89(cw [wb0,wb1,wb2]),boxA b1 89(cw [wa0,wa1,wa2])],[zF wz 0,zF wa0 ex,zF wa1 ey,zF wa2 ez,zF wb0 fx,zF wb1 fy,zF wb2 fz,zF wd0 gx,zF wd1 gy,zF wd2 gz])) ?_(fun hD29=> ?_)
 ·
  rintro ⟨u10_1,u11_1⟩
  dsimp only [cw]
  refine zMa 2 9(by kernel_rfl) ?_ ?_
  ·
   refine zu rfl rfl rfl rfl(.c rfl(.c rfl .n))ce61(zka(ex:=ex)(ey:=ey)(ez:=ez)(wa0:=wa0)(wa1:=wa1)(wa2:=wa2)(fx:=fx)(fy:=fy)(fz:=fz)(wb0:=wb0)(wb1:=wb1)(wb2:=wb2)(hlex:=by omega)(hley:=by omega)(hlez:=by omega)(hlfx:=by omega)(hlfy:=by omega)(hlfz:=by omega))(.c(j:=1)rfl(.c(j:=2)rfl(.c(j:=3)rfl(.c(j:=4)rfl(.c(j:=5)rfl(.c(j:=6)rfl .n)))))) ?_
   rintro ⟨u2_1,u2_2,u2_3⟩ -
   dsimp only [List.append_eq,List.nil_append,List.cons_append]
   exact zp(hD21(u2_1,u2_2,u2_3,u10_1,u11_1))(by kernel_rfl)((.of rfl):SubM _ _) .rfl .rfl((.of [0,1,2,3,4,5,6,7,8,9,10,11,12]rfl):SelR _ _ _)
  ·
   refine zO rfl rfl rfl rfl(zn zr89 rfl)(fun u9_1 _=> ?_)
   exact zp(hD22(u9_1,u10_1,u11_1))(by kernel_rfl)((.of rfl):SubM _ _)(zR 1 rfl(zR 1 rfl(zR 0 rfl .nil))) .rfl((.of [0,1,2,3,4,5,6,7,8,9]rfl):SelR _ _ _)
 refine zL(X:=Wd×Wd×Wd)(k':=8)(L':=(lb 15 223))(fun(u2_1,u2_2,u2_3)=>([(16,.agg(cw [u2_1,u2_2,u2_3]).toArray),(21,.agg(cw [wa0,wa1,wa2]).toArray),(20,.agg(cw [wd0,wd1,wd2]).toArray),(18,.agg(cw [wd0,wd1,wd2]).toArray),(17,.agg(cw [wb0,wb1,wb2]).toArray),(7,.pointer(some⟨b4,0,none⟩)),(6,.bool false),(5,.pointer(some⟨b3,0,none⟩)),(4,.pointer(some⟨b2,0,none⟩)),(3,.pointer(some⟨b1,0,none⟩))],[],[boxA b4 89 [.bool false,.slice none 0 0,.bool false,.slice none 0 0,.bool false,.slice none 0 0],boxA b3 89(cw [wd0,wd1,wd2]),boxA b2 89(cw [wb0,wb1,wb2]),boxA b1 89(cw [wa0,wa1,wa2])],[zF u2_1(ey*fz - ez*fy),zF u2_2(ez*fx - ex*fz),zF u2_3(ex*fy - ey*fx),zF wz 0,zF wa0 ex,zF wa1 ey,zF wa2 ez,zF wb0 fx,zF wb1 fy,zF wb2 fz,zF wd0 gx,zF wd1 gy,zF wd2 gz])) ?_(fun hD30=> ?_)
 ·
  rintro ⟨u2_1,u2_2,u2_3⟩
  dsimp only [cw]
  refine zMc 5 9 10 11(by kernel_rfl) ?_ ?_ ?_ ?_
  ·
   refine zu rfl rfl rfl rfl(.c rfl(.c rfl .n))ce61(zka(ex:=fx)(ey:=fy)(ez:=fz)(wa0:=wb0)(wa1:=wb1)(wa2:=wb2)(fx:=gx)(fy:=gy)(fz:=gz)(wb0:=wd0)(wb1:=wd1)(wb2:=wd2)(hlex:=by omega)(hley:=by omega)(hlez:=by omega)(hlfx:=by omega)(hlfy:=by omega)(hlfz:=by omega))(.c(j:=7)rfl(.c(j:=8)rfl(.c(j:=9)rfl(.c(j:=10)rfl(.c(j:=11)rfl(.c(j:=12)rfl .n)))))) ?_
   rintro ⟨u5_1,u5_2,u5_3⟩ -
   dsimp only [List.append_eq,List.nil_append,List.cons_append]
   exact zp(hD23(u2_1,u2_2,u2_3,u5_1,u5_2,u5_3))(by kernel_rfl)((.of rfl):SubM _ _) .rfl .rfl((.of [0,1,2,3,4,5,6,7,8,9,10,11,12,13,14,15]rfl):SelR _ _ _)
  ·
   refine zO rfl rfl rfl rfl(zn zr89 rfl)(fun u9_1 _=> ?_)
   exact zp(hD24(u2_1,u2_2,u2_3,u9_1))(by kernel_rfl)((.of rfl):SubM _ _) .rfl .rfl((.of [0,1,2,3,4,5,6,7,8,9,10,11,12]rfl):SelR _ _ _)
  ·
   refine zO rfl rfl rfl rfl(zn zr89 rfl)(fun u10_1 _=> ?_)
   exact zp(hD25(u2_1,u2_2,u2_3,u10_1))(by kernel_rfl)((.of rfl):SubM _ _) .rfl .rfl((.of [0,1,2,3,4,5,6,7,8,9,10,11,12]rfl):SelR _ _ _)
  ·
   refine zO rfl rfl rfl rfl(zn zr89 rfl)(fun u11_1 _=> ?_)
   exact zp(hD26(u2_1,u2_2,u2_3,u11_1))(by kernel_rfl)((.of rfl):SubM _ _) .rfl .rfl((.of [0,1,2,3,4,5,6,7,8,9,10,11,12]rfl):SelR _ _ _)
 refine zL(X:=Nat)(k':=8)(L':=(lb 15 731))(fun u9_1=>([(8,.pointer(some⟨u9_1,0,none⟩)),(21,.agg(cw [wa0,wa1,wa2]).toArray),(20,.agg(cw [wd0,wd1,wd2]).toArray),(18,.agg(cw [wd0,wd1,wd2]).toArray),(17,.agg(cw [wb0,wb1,wb2]).toArray),(15,.agg(cw [wb0,wb1,wb2]).toArray),(14,.agg(cw [wa0,wa1,wa2]).toArray),(7,.pointer(some⟨b4,0,none⟩)),(6,.bool false),(5,.pointer(some⟨b3,0,none⟩)),(4,.pointer(some⟨b2,0,none⟩)),(3,.pointer(some⟨b1,0,none⟩))],[boxA u9_1 89 [.bool false,.slice none 0 0,.bool false,.slice none 0 0,.bool false,.slice none 0 0]],[boxA b4 89 [.bool false,.slice none 0 0,.bool false,.slice none 0 0,.bool false,.slice none 0 0],boxA b3 89(cw [wd0,wd1,wd2]),boxA b2 89(cw [wb0,wb1,wb2]),boxA b1 89(cw [wa0,wa1,wa2])],[zF wz 0,zF wa0 ex,zF wa1 ey,zF wa2 ez,zF wb0 fx,zF wb1 fy,zF wb2 fz,zF wd0 gx,zF wd1 gy,zF wd2 gz])) ?_(fun hD31=> ?_)
 ·
  rintro u9_1
  dsimp only [cw]
  refine zPa 2 10 11(by kernel_rfl) ?_ ?_ ?_
  ·
   refine zu rfl rfl rfl rfl(.c rfl(.c rfl .n))ce61(zka(ex:=ex)(ey:=ey)(ez:=ez)(wa0:=wa0)(wa1:=wa1)(wa2:=wa2)(fx:=fx)(fy:=fy)(fz:=fz)(wb0:=wb0)(wb1:=wb1)(wb2:=wb2)(hlex:=by omega)(hley:=by omega)(hlez:=by omega)(hlfx:=by omega)(hlfy:=by omega)(hlfz:=by omega))(.c(j:=1)rfl(.c(j:=2)rfl(.c(j:=3)rfl(.c(j:=4)rfl(.c(j:=5)rfl(.c(j:=6)rfl .n)))))) ?_
   rintro ⟨u2_1,u2_2,u2_3⟩ -
   dsimp only [List.append_eq,List.nil_append,List.cons_append]
   exact zp(hD24(u2_1,u2_2,u2_3,u9_1))(by kernel_rfl)((.of rfl):SubM _ _) .rfl .rfl((.of [0,1,2,3,4,5,6,7,8,9,10,11,12]rfl):SelR _ _ _)
  ·
   refine zO rfl rfl rfl rfl(zn zr89 rfl)(fun u10_1 _=> ?_)
   exact zp(hD27(u9_1,u10_1))(by kernel_rfl)((.of rfl):SubM _ _) .rfl .rfl((.of [0,1,2,3,4,5,6,7,8,9]rfl):SelR _ _ _)
  ·
   refine zO rfl rfl rfl rfl(zn zr89 rfl)(fun u11_1 _=> ?_)
   exact zp(hD28(u9_1,u11_1))(by kernel_rfl)((.of rfl):SubM _ _) .rfl .rfl((.of [0,1,2,3,4,5,6,7,8,9]rfl):SelR _ _ _)
 refine zL(X:=Nat)(k':=8)(L':=(lb 15 1243))(fun u10_1=>([(9,.pointer(some⟨u10_1,0,none⟩)),(21,.agg(cw [wa0,wa1,wa2]).toArray),(20,.agg(cw [wd0,wd1,wd2]).toArray),(18,.agg(cw [wd0,wd1,wd2]).toArray),(17,.agg(cw [wb0,wb1,wb2]).toArray),(15,.agg(cw [wb0,wb1,wb2]).toArray),(14,.agg(cw [wa0,wa1,wa2]).toArray),(7,.pointer(some⟨b4,0,none⟩)),(6,.bool false),(5,.pointer(some⟨b3,0,none⟩)),(4,.pointer(some⟨b2,0,none⟩)),(3,.pointer(some⟨b1,0,none⟩))],[boxA u10_1 89 [.bool false,.slice none 0 0,.bool false,.slice none 0 0,.bool false,.slice none 0 0]],[boxA b4 89 [.bool false,.slice none 0 0,.bool false,.slice none 0 0,.bool false,.slice none 0 0],boxA b3 89(cw [wd0,wd1,wd2]),boxA b2 89(cw [wb0,wb1,wb2]),boxA b1 89(cw [wa0,wa1,wa2])],[zF wz 0,zF wa0 ex,zF wa1 ey,zF wa2 ez,zF wb0 fx,zF wb1 fy,zF wb2 fz,zF wd0 gx,zF wd1 gy,zF wd2 gz])) ?_(fun hD32=> ?_)
 ·
  rintro u10_1
  dsimp only [cw]
  refine zPa 2 9 11(by kernel_rfl) ?_ ?_ ?_
  ·
   refine zu rfl rfl rfl rfl(.c rfl(.c rfl .n))ce61(zka(ex:=ex)(ey:=ey)(ez:=ez)(wa0:=wa0)(wa1:=wa1)(wa2:=wa2)(fx:=fx)(fy:=fy)(fz:=fz)(wb0:=wb0)(wb1:=wb1)(wb2:=wb2)(hlex:=by omega)(hley:=by omega)(hlez:=by omega)(hlfx:=by omega)(hlfy:=by omega)(hlfz:=by omega))(.c(j:=1)rfl(.c(j:=2)rfl(.c(j:=3)rfl(.c(j:=4)rfl(.c(j:=5)rfl(.c(j:=6)rfl .n)))))) ?_
   rintro ⟨u2_1,u2_2,u2_3⟩ -
   dsimp only [List.append_eq,List.nil_append,List.cons_append]
   exact zp(hD25(u2_1,u2_2,u2_3,u10_1))(by kernel_rfl)((.of rfl):SubM _ _) .rfl .rfl((.of [0,1,2,3,4,5,6,7,8,9,10,11,12]rfl):SelR _ _ _)
  ·
   refine zO rfl rfl rfl rfl(zn zr89 rfl)(fun u9_1 _=> ?_)
   exact zp(hD27(u9_1,u10_1))(by kernel_rfl)((.of rfl):SubM _ _)(zR 1 rfl(zR 0 rfl .nil)) .rfl((.of [0,1,2,3,4,5,6,7,8,9]rfl):SelR _ _ _)
  ·
   refine zO rfl rfl rfl rfl(zn zr89 rfl)(fun u11_1 _=> ?_)
   exact zp(hD29(u10_1,u11_1))(by kernel_rfl)((.of rfl):SubM _ _) .rfl .rfl((.of [0,1,2,3,4,5,6,7,8,9]rfl):SelR _ _ _)
 refine zL(X:=Nat)(k':=8)(L':=(lb 15 2267))(fun u11_1=>([(10,.pointer(some⟨u11_1,0,none⟩)),(21,.agg(cw [wa0,wa1,wa2]).toArray),(20,.agg(cw [wd0,wd1,wd2]).toArray),(18,.agg(cw [wd0,wd1,wd2]).toArray),(17,.agg(cw [wb0,wb1,wb2]).toArray),(15,.agg(cw [wb0,wb1,wb2]).toArray),(14,.agg(cw [wa0,wa1,wa2]).toArray),(7,.pointer(some⟨b4,0,none⟩)),(6,.bool false),(5,.pointer(some⟨b3,0,none⟩)),(4,.pointer(some⟨b2,0,none⟩)),(3,.pointer(some⟨b1,0,none⟩))],[boxA u11_1 89 [.bool false,.slice none 0 0,.bool false,.slice none 0 0,.bool false,.slice none 0 0]],[boxA b4 89 [.bool false,.slice none 0 0,.bool false,.slice none 0 0,.bool false,.slice none 0 0],boxA b3 89(cw [wd0,wd1,wd2]),boxA b2 89(cw [wb0,wb1,wb2]),boxA b1 89(cw [wa0,wa1,wa2])],[zF wz 0,zF wa0 ex,zF wa1 ey,zF wa2 ez,zF wb0 fx,zF wb1 fy,zF wb2 fz,zF wd0 gx,zF wd1 gy,zF wd2 gz])) ?_(fun hD33=> ?_)
 ·
  rintro u11_1
  dsimp only [cw]
  refine zPa 2 9 10(by kernel_rfl) ?_ ?_ ?_
  ·
   refine zu rfl rfl rfl rfl(.c rfl(.c rfl .n))ce61(zka(ex:=ex)(ey:=ey)(ez:=ez)(wa0:=wa0)(wa1:=wa1)(wa2:=wa2)(fx:=fx)(fy:=fy)(fz:=fz)(wb0:=wb0)(wb1:=wb1)(wb2:=wb2)(hlex:=by omega)(hley:=by omega)(hlez:=by omega)(hlfx:=by omega)(hlfy:=by omega)(hlfz:=by omega))(.c(j:=1)rfl(.c(j:=2)rfl(.c(j:=3)rfl(.c(j:=4)rfl(.c(j:=5)rfl(.c(j:=6)rfl .n)))))) ?_
   rintro ⟨u2_1,u2_2,u2_3⟩ -
   dsimp only [List.append_eq,List.nil_append,List.cons_append]
   exact zp(hD26(u2_1,u2_2,u2_3,u11_1))(by kernel_rfl)((.of rfl):SubM _ _) .rfl .rfl((.of [0,1,2,3,4,5,6,7,8,9,10,11,12]rfl):SelR _ _ _)
  ·
   refine zO rfl rfl rfl rfl(zn zr89 rfl)(fun u9_1 _=> ?_)
   exact zp(hD28(u9_1,u11_1))(by kernel_rfl)((.of rfl):SubM _ _)(zR 1 rfl(zR 0 rfl .nil)) .rfl((.of [0,1,2,3,4,5,6,7,8,9]rfl):SelR _ _ _)
  ·
   refine zO rfl rfl rfl rfl(zn zr89 rfl)(fun u10_1 _=> ?_)
   exact zp(hD29(u10_1,u11_1))(by kernel_rfl)((.of rfl):SubM _ _)(zR 1 rfl(zR 0 rfl .nil)) .rfl((.of [0,1,2,3,4,5,6,7,8,9]rfl):SelR _ _ _)
 refine zMc 2 9 10 11(by kernel_rfl) ?_ ?_ ?_ ?_
 ·
  refine zu rfl rfl rfl rfl(.c rfl(.c rfl .n))ce61(zka(ex:=ex)(ey:=ey)(ez:=ez)(wa0:=wa0)(wa1:=wa1)(wa2:=wa2)(fx:=fx)(fy:=fy)(fz:=fz)(wb0:=wb0)(wb1:=wb1)(wb2:=wb2)(hlex:=by omega)(hley:=by omega)(hlez:=by omega)(hlfx:=by omega)(hlfy:=by omega)(hlfz:=by omega))(.c(j:=1)rfl(.c(j:=2)rfl(.c(j:=3)rfl(.c(j:=4)rfl(.c(j:=5)rfl(.c(j:=6)rfl .n)))))) ?_
  rintro ⟨u2_1,u2_2,u2_3⟩ -
  dsimp only [List.append_eq,List.nil_append,List.cons_append]
  exact zp(hD30(u2_1,u2_2,u2_3))(by kernel_rfl)((.of rfl):SubM _ _) .rfl .rfl((.of [0,1,2,3,4,5,6,7,8,9,10,11,12]rfl):SelR _ _ _)
 ·
  refine zO rfl rfl rfl rfl(zn zr89 rfl)(fun u9_1 _=> ?_)
  exact zp(hD31 u9_1)(by kernel_rfl)((.of rfl):SubM _ _) .rfl .rfl((.of [0,1,2,3,4,5,6,7,8,9]rfl):SelR _ _ _)
 ·
  refine zO rfl rfl rfl rfl(zn zr89 rfl)(fun u10_1 _=> ?_)
  exact zp(hD32 u10_1)(by kernel_rfl)((.of rfl):SubM _ _) .rfl .rfl((.of [0,1,2,3,4,5,6,7,8,9]rfl):SelR _ _ _)
 ·
  refine zO rfl rfl rfl rfl(zn zr89 rfl)(fun u11_1 _=> ?_)
  exact zp(hD33 u11_1)(by kernel_rfl)((.of rfl):SubM _ _) .rfl .rfl((.of [0,1,2,3,4,5,6,7,8,9]rfl):SelR _ _ _)
theorem zUc {ex:Int} {ey:Int} {ez:Int} {fx:Int} {fy:Int} {fz:Int}(hbex: -1073741824≤ex∧ex≤1073741824)(hbey: -1073741824≤ey∧ey≤1073741824)(hbez: -1073741824≤ez∧ez≤1073741824)(hbfx: -1073741824≤fx∧fx≤1073741824)(hbfy: -1073741824≤fy∧fy≤1073741824)(hbfz: -1073741824≤fz∧fz≤1073741824):Con Try.prog 106 [.agg#[.int .i64 ex,.int .i64 ey,.int .i64 ez],.agg#[.int .i64 fx,.int .i64 fy,.int .i64 fz]] [] [](Y:=Unit)(fun y=>True)(fun y=> .bool(Ms.lbtw(ex,ey,ez)(fx,fy,fz)))(fun y=>[])(fun y=>[]):=by
 refine zB Try.func106 rfl rfl rfl(fun c=> ?_)
 show RunC _ _ _ _ _ [(0,.agg#[.int .i64 ex,.int .i64 ey,.int .i64 ez]),(1,.agg#[.int .i64 fx,.int .i64 fy,.int .i64 fz])] [] []
 refine zh<|za<|zS rfl rfl(zca rfl rfl)(fun b1=> ?_)
 refine zS rfl rfl(zca rfl rfl)(fun b2=> ?_)
 refine r_pv rfl rfl(ze rfl)<|zj<|zc<|zh<|zh<|za<|r_u rfl rfl(zf 1 ty44 rfl rfl(.take(.take(.take .nil))))<|r_u rfl rfl(zf 0 ty44 rfl rfl(.take(.take(.take .nil))))<|zY rfl rfl(.c rfl(.c rfl .n))ce104(zrb(ex:=ex)(ey:=ey)(ez:=ez)(fx:=fx)(fy:=fy)(fz:=fz)(hbex:=by assumption)(hbey:=by assumption)(hbez:=by assumption)(hbfx:=by assumption)(hbfy:=by assumption)(hbfz:=by assumption))(.n)<|r_pv rfl rfl(zK zr44 rfl Try.underlying44 sz3 .n .n)<|r_pv rfl rfl(zCd(p:=(ey*fz - ez*fy)=0∧(ez*fx - ex*fz)=0∧(ex*fy - ey*fx)=0)(by kernel_rfl)rfl rfl(zvc Try.underlying44 sz3(zFb ty3 rfl rfl(zEb Try.underlying3)(zFb ty3 rfl rfl(zEb Try.underlying3)(zFb ty3 rfl rfl(zEb Try.underlying3)zld))))(by simp [Bool.decide_and]))<|zj<|zc<|zI rfl(fun hcr=> ?_)(fun hcr=> ?_)
 ·
  refine zh<|za<|r_pv rfl rfl(ze rfl)<|zj<|zc<|zP<|zl ?_
  exact zG Try.results106()trivial(zz rfl)(congrArg Value.bool(Ms.lbtw_0 hcr))(ho:=(.n:PickO _ _ _))(.n:SelR _ _ _)
 ·
  refine zw<|zc<|zh<|zh<|za<|r_pv rfl rfl(zb rfl)<|zj<|zc<|zr<|zSa<|zQ<|zh<|za<|r_pv rfl rfl(zD rfl rfl)<|zj<|zc<|zh<|zT rfl rfl<|zw<|zc<|zh<|zr<|zh<|za<|r_pv rfl rfl(zb rfl)<|r_pv rfl rfl(ze rfl)<|zj<|zc<|zLa(X:=Unit)(fun x=>True)(fun x=>[(35,.bool(decide(((0<ex)∧(0<fx))∨((ex<0)∧(fx<0))))),(5,.int .i64 0),(13,.int .i64 0),(12,.bool true),(11,.int .i64 0),(4,.bool false),(3,.pointer(some⟨b2,0,none⟩)),(2,.pointer(some⟨b1,0,none⟩))])(fun x=>[boxA b2 44 [.int .i64 fx,.int .i64 fy,.int .i64 fz],boxA b1 44 [.int .i64 ex,.int .i64 ey,.int .i64 ez]])(fun x=>[]) ?_ ?_
  ·
   refine za<|r_pv rfl rfl(zb rfl)<|r_pv rfl rfl(zg(i:=0)Try.underlying44 sz3 rfl rfl(by decide)rfl)<|r_u rfl rfl(zd 1 ty3 rfl rfl rfl)<|r_pv rfl rfl(zRa rfl rfl)<|zZ rfl rfl(zb rfl)(fun h3=> ?_)(fun h3=> ?_)
   ·
    refine r_pv rfl rfl(zb rfl)<|r_pv rfl rfl(zg(i:=0)Try.underlying44 sz3 rfl rfl(by decide)rfl)<|r_u rfl rfl(zd 0 ty3 rfl rfl rfl)<|r_pv rfl rfl(zRa rfl rfl)<|r_pv rfl rfl(zy rfl rfl)<|zZ rfl rfl(zb rfl)(fun h4=> ?_)(fun h4=> ?_)
    ·
     refine zi rfl rfl<|zi rfl rfl<|zi rfl rfl<|zi rfl rfl<|zi rfl rfl<|zi rfl rfl<|zi rfl rfl<|zi rfl rfl<|zi rfl rfl<|zi rfl rfl<|r_pv rfl rfl(zy rfl rfl)<|zj ?_
     exact zfa()(show True from by first|trivial|omega|simp_all)((.e rfl(congrArg Value.bool(by first|(simp_all;done)|(simp_all;omega)|(simp;omega)|omega))(.of rfl)):SubM _ _)(ho:=((.of [0,0]rfl):PickO _ _ _))(.n:SelR _ _ _)
    ·
     refine r_pv rfl rfl(zb rfl)<|r_pv rfl rfl(zg(i:=0)Try.underlying44 sz3 rfl rfl(by decide)rfl)<|r_u rfl rfl(zd 1 ty3 rfl rfl rfl)<|r_pv rfl rfl(zD rfl rfl)<|zZ rfl rfl(zb rfl)(fun h5=> ?_)(fun h5=> ?_)
     ·
      refine r_pv rfl rfl(zb rfl)<|r_pv rfl rfl(zg(i:=0)Try.underlying44 sz3 rfl rfl(by decide)rfl)<|r_u rfl rfl(zd 0 ty3 rfl rfl rfl)<|r_pv rfl rfl(zD rfl rfl)<|r_pv rfl rfl(zy rfl rfl)<|r_pv rfl rfl(zy rfl rfl)<|zj ?_
      exact zfa()(show True from by first|trivial|omega|simp_all)((.e rfl(congrArg Value.bool(by first|(simp_all;done)|(simp_all;omega)|(simp;omega)|omega))(.of rfl)):SubM _ _)(ho:=((.of [0,0]rfl):PickO _ _ _))(.n:SelR _ _ _)
     ·
      refine zi rfl rfl<|zi rfl rfl<|zi rfl rfl<|zi rfl rfl<|r_pv rfl rfl(zy rfl rfl)<|r_pv rfl rfl(zy rfl rfl)<|zj ?_
      exact zfa()(show True from by first|trivial|omega|simp_all)((.e rfl(congrArg Value.bool(by first|(simp_all;done)|(simp_all;omega)|(simp;omega)|omega))(.of rfl)):SubM _ _)(ho:=((.of [0,0]rfl):PickO _ _ _))(.n:SelR _ _ _)
   ·
    refine zi rfl rfl<|zi rfl rfl<|zi rfl rfl<|zi rfl rfl<|r_pv rfl rfl(zy rfl rfl)<|r_pv rfl rfl(zb rfl)<|r_pv rfl rfl(zb rfl)<|r_pv rfl rfl(zg(i:=0)Try.underlying44 sz3 rfl rfl(by decide)rfl)<|r_u rfl rfl(zd 1 ty3 rfl rfl rfl)<|r_pv rfl rfl(zD rfl rfl)<|zZ rfl rfl(zb rfl)(fun h6=> ?_)(fun h6=> ?_)
    ·
     refine r_pv rfl rfl(zb rfl)<|r_pv rfl rfl(zg(i:=0)Try.underlying44 sz3 rfl rfl(by decide)rfl)<|r_u rfl rfl(zd 0 ty3 rfl rfl rfl)<|r_pv rfl rfl(zD rfl rfl)<|r_pv rfl rfl(zy rfl rfl)<|r_pv rfl rfl(zy rfl rfl)<|zj ?_
     exact zfa()(show True from by first|trivial|omega|simp_all)((.e rfl(congrArg Value.bool(by first|(simp_all;done)|(simp_all;omega)|(simp;omega)|omega))(.of rfl)):SubM _ _)(ho:=((.of [0,0]rfl):PickO _ _ _))(.n:SelR _ _ _)
    ·
     refine zi rfl rfl<|zi rfl rfl<|zi rfl rfl<|zi rfl rfl<|r_pv rfl rfl(zy rfl rfl)<|r_pv rfl rfl(zy rfl rfl)<|zj ?_
     exact zfa()(show True from by first|trivial|omega|simp_all)((.e rfl(congrArg Value.bool(by first|(simp_all;done)|(simp_all;omega)|(simp;omega)|omega))(.of rfl)):SubM _ _)(ho:=((.of [0,0]rfl):PickO _ _ _))(.n:SelR _ _ _)
  ·
   rintro ⟨⟩ -
   try dsimp only
   refine zI rfl(fun hsg=> ?_)(fun hsg=> ?_)
   ·
    refine zh<|za<|r_pv rfl rfl(ze rfl)<|zj<|zc<|zP<|zq<|zl<|zl<|zq<|zl ?_
    exact zG Try.results106()trivial(zz rfl)(congrArg Value.bool(Ms.lbtw_1 hsg))(ho:=(.n:PickO _ _ _))(.n:SelR _ _ _)
   ·
    have hsg0:=hsg
    refine zw<|zA<|zc<|za<|r_pv rfl rfl(zC(z:=1)rfl rfl(w64(by decide)))<|r_pv rfl rfl(zb rfl)<|zj<|zba<|zQ<|zh<|za<|r_pv rfl rfl(zD rfl rfl)<|zj<|zc<|zh<|zT rfl rfl<|zw<|zc<|zh<|zr<|zh<|za<|r_pv rfl rfl(zb rfl)<|r_pv rfl rfl(ze rfl)<|zj<|zc<|zLa(X:=Unit)(fun x=>True)(fun x=>[(35,.bool(decide(((0<ey)∧(0<fy))∨((ey<0)∧(fy<0))))),(5,.int .i64 1),(13,.int .i64 1),(12,.bool true),(11,.int .i64 1),(36,.int .i64 1),(4,.bool false),(3,.pointer(some⟨b2,0,none⟩)),(2,.pointer(some⟨b1,0,none⟩))])(fun x=>[boxA b2 44 [.int .i64 fx,.int .i64 fy,.int .i64 fz],boxA b1 44 [.int .i64 ex,.int .i64 ey,.int .i64 ez]])(fun x=>[]) ?_ ?_
    ·
     refine za<|r_pv rfl rfl(zb rfl)<|r_pv rfl rfl(zg(i:=1)Try.underlying44 sz3 rfl rfl(by decide)rfl)<|r_u rfl rfl(zd 1 ty3 rfl rfl rfl)<|r_pv rfl rfl(zRa rfl rfl)<|zZ rfl rfl(zb rfl)(fun h7=> ?_)(fun h7=> ?_)
     ·
      refine r_pv rfl rfl(zb rfl)<|r_pv rfl rfl(zg(i:=1)Try.underlying44 sz3 rfl rfl(by decide)rfl)<|r_u rfl rfl(zd 0 ty3 rfl rfl rfl)<|r_pv rfl rfl(zRa rfl rfl)<|r_pv rfl rfl(zy rfl rfl)<|zZ rfl rfl(zb rfl)(fun h8=> ?_)(fun h8=> ?_)
      ·
       refine zi rfl rfl<|zi rfl rfl<|zi rfl rfl<|zi rfl rfl<|zi rfl rfl<|zi rfl rfl<|zi rfl rfl<|zi rfl rfl<|zi rfl rfl<|zi rfl rfl<|r_pv rfl rfl(zy rfl rfl)<|zj ?_
       exact zfa()(show True from by first|trivial|omega|simp_all)((.e rfl(congrArg Value.bool(by first|(simp_all;done)|(simp_all;omega)|(simp;omega)|omega))(.of rfl)):SubM _ _)(ho:=((.of [0,0]rfl):PickO _ _ _))(.n:SelR _ _ _)
      ·
       refine r_pv rfl rfl(zb rfl)<|r_pv rfl rfl(zg(i:=1)Try.underlying44 sz3 rfl rfl(by decide)rfl)<|r_u rfl rfl(zd 1 ty3 rfl rfl rfl)<|r_pv rfl rfl(zD rfl rfl)<|zZ rfl rfl(zb rfl)(fun h9=> ?_)(fun h9=> ?_)
       ·
        refine r_pv rfl rfl(zb rfl)<|r_pv rfl rfl(zg(i:=1)Try.underlying44 sz3 rfl rfl(by decide)rfl)<|r_u rfl rfl(zd 0 ty3 rfl rfl rfl)<|r_pv rfl rfl(zD rfl rfl)<|r_pv rfl rfl(zy rfl rfl)<|r_pv rfl rfl(zy rfl rfl)<|zj ?_
        exact zfa()(show True from by first|trivial|omega|simp_all)((.e rfl(congrArg Value.bool(by first|(simp_all;done)|(simp_all;omega)|(simp;omega)|omega))(.of rfl)):SubM _ _)(ho:=((.of [0,0]rfl):PickO _ _ _))(.n:SelR _ _ _)
       ·
        refine zi rfl rfl<|zi rfl rfl<|zi rfl rfl<|zi rfl rfl<|r_pv rfl rfl(zy rfl rfl)<|r_pv rfl rfl(zy rfl rfl)<|zj ?_
        exact zfa()(show True from by first|trivial|omega|simp_all)((.e rfl(congrArg Value.bool(by first|(simp_all;done)|(simp_all;omega)|(simp;omega)|omega))(.of rfl)):SubM _ _)(ho:=((.of [0,0]rfl):PickO _ _ _))(.n:SelR _ _ _)
     ·
      refine zi rfl rfl<|zi rfl rfl<|zi rfl rfl<|zi rfl rfl<|r_pv rfl rfl(zy rfl rfl)<|r_pv rfl rfl(zb rfl)<|r_pv rfl rfl(zb rfl)<|r_pv rfl rfl(zg(i:=1)Try.underlying44 sz3 rfl rfl(by decide)rfl)<|r_u rfl rfl(zd 1 ty3 rfl rfl rfl)<|r_pv rfl rfl(zD rfl rfl)<|zZ rfl rfl(zb rfl)(fun h10=> ?_)(fun h10=> ?_)
      ·
       refine r_pv rfl rfl(zb rfl)<|r_pv rfl rfl(zg(i:=1)Try.underlying44 sz3 rfl rfl(by decide)rfl)<|r_u rfl rfl(zd 0 ty3 rfl rfl rfl)<|r_pv rfl rfl(zD rfl rfl)<|r_pv rfl rfl(zy rfl rfl)<|r_pv rfl rfl(zy rfl rfl)<|zj ?_
       exact zfa()(show True from by first|trivial|omega|simp_all)((.e rfl(congrArg Value.bool(by first|(simp_all;done)|(simp_all;omega)|(simp;omega)|omega))(.of rfl)):SubM _ _)(ho:=((.of [0,0]rfl):PickO _ _ _))(.n:SelR _ _ _)
      ·
       refine zi rfl rfl<|zi rfl rfl<|zi rfl rfl<|zi rfl rfl<|r_pv rfl rfl(zy rfl rfl)<|r_pv rfl rfl(zy rfl rfl)<|zj ?_
       exact zfa()(show True from by first|trivial|omega|simp_all)((.e rfl(congrArg Value.bool(by first|(simp_all;done)|(simp_all;omega)|(simp;omega)|omega))(.of rfl)):SubM _ _)(ho:=((.of [0,0]rfl):PickO _ _ _))(.n:SelR _ _ _)
    ·
     rintro ⟨⟩ -
     try dsimp only
     refine zI rfl(fun hsg=> ?_)(fun hsg=> ?_)
     ·
      refine zh<|za<|r_pv rfl rfl(ze rfl)<|zj<|zc<|zP<|zq<|zl<|zl<|zq<|zl ?_
      exact zG Try.results106()trivial(zz rfl)(congrArg Value.bool(Ms.lbtw_2 hsg))(ho:=(.n:PickO _ _ _))(.n:SelR _ _ _)
     ·
      have hsg1:=hsg
      refine zw<|zA<|zc<|za<|r_pv rfl rfl(zC(z:=2)rfl rfl(w64(by decide)))<|r_pv rfl rfl(zb rfl)<|zj<|zba<|zQ<|zh<|za<|r_pv rfl rfl(zD rfl rfl)<|zj<|zc<|zh<|zT rfl rfl<|zw<|zc<|zh<|zr<|zh<|za<|r_pv rfl rfl(zb rfl)<|r_pv rfl rfl(ze rfl)<|zj<|zc<|zLa(X:=Unit)(fun x=>True)(fun x=>[(35,.bool(decide(((0<ez)∧(0<fz))∨((ez<0)∧(fz<0))))),(5,.int .i64 2),(13,.int .i64 2),(12,.bool true),(11,.int .i64 2),(36,.int .i64 2),(4,.bool false),(3,.pointer(some⟨b2,0,none⟩)),(2,.pointer(some⟨b1,0,none⟩))])(fun x=>[boxA b2 44 [.int .i64 fx,.int .i64 fy,.int .i64 fz],boxA b1 44 [.int .i64 ex,.int .i64 ey,.int .i64 ez]])(fun x=>[]) ?_ ?_
      ·
       refine za<|r_pv rfl rfl(zb rfl)<|r_pv rfl rfl(zg(i:=2)Try.underlying44 sz3 rfl rfl(by decide)rfl)<|r_u rfl rfl(zd 1 ty3 rfl rfl rfl)<|r_pv rfl rfl(zRa rfl rfl)<|zZ rfl rfl(zb rfl)(fun h11=> ?_)(fun h11=> ?_)
       ·
        refine r_pv rfl rfl(zb rfl)<|r_pv rfl rfl(zg(i:=2)Try.underlying44 sz3 rfl rfl(by decide)rfl)<|r_u rfl rfl(zd 0 ty3 rfl rfl rfl)<|r_pv rfl rfl(zRa rfl rfl)<|r_pv rfl rfl(zy rfl rfl)<|zZ rfl rfl(zb rfl)(fun h12=> ?_)(fun h12=> ?_)
        ·
         refine zi rfl rfl<|zi rfl rfl<|zi rfl rfl<|zi rfl rfl<|zi rfl rfl<|zi rfl rfl<|zi rfl rfl<|zi rfl rfl<|zi rfl rfl<|zi rfl rfl<|r_pv rfl rfl(zy rfl rfl)<|zj ?_
         exact zfa()(show True from by first|trivial|omega|simp_all)((.e rfl(congrArg Value.bool(by first|(simp_all;done)|(simp_all;omega)|(simp;omega)|omega))(.of rfl)):SubM _ _)(ho:=((.of [0,0]rfl):PickO _ _ _))(.n:SelR _ _ _)
        ·
         refine r_pv rfl rfl(zb rfl)<|r_pv rfl rfl(zg(i:=2)Try.underlying44 sz3 rfl rfl(by decide)rfl)<|r_u rfl rfl(zd 1 ty3 rfl rfl rfl)<|r_pv rfl rfl(zD rfl rfl)<|zZ rfl rfl(zb rfl)(fun h13=> ?_)(fun h13=> ?_)
         ·
          refine r_pv rfl rfl(zb rfl)<|r_pv rfl rfl(zg(i:=2)Try.underlying44 sz3 rfl rfl(by decide)rfl)<|r_u rfl rfl(zd 0 ty3 rfl rfl rfl)<|r_pv rfl rfl(zD rfl rfl)<|r_pv rfl rfl(zy rfl rfl)<|r_pv rfl rfl(zy rfl rfl)<|zj ?_
          exact zfa()(show True from by first|trivial|omega|simp_all)((.e rfl(congrArg Value.bool(by first|(simp_all;done)|(simp_all;omega)|(simp;omega)|omega))(.of rfl)):SubM _ _)(ho:=((.of [0,0]rfl):PickO _ _ _))(.n:SelR _ _ _)
         ·
          refine zi rfl rfl<|zi rfl rfl<|zi rfl rfl<|zi rfl rfl<|r_pv rfl rfl(zy rfl rfl)<|r_pv rfl rfl(zy rfl rfl)<|zj ?_
          exact zfa()(show True from by first|trivial|omega|simp_all)((.e rfl(congrArg Value.bool(by first|(simp_all;done)|(simp_all;omega)|(simp;omega)|omega))(.of rfl)):SubM _ _)(ho:=((.of [0,0]rfl):PickO _ _ _))(.n:SelR _ _ _)
       ·
        refine zi rfl rfl<|zi rfl rfl<|zi rfl rfl<|zi rfl rfl<|r_pv rfl rfl(zy rfl rfl)<|r_pv rfl rfl(zb rfl)<|r_pv rfl rfl(zb rfl)<|r_pv rfl rfl(zg(i:=2)Try.underlying44 sz3 rfl rfl(by decide)rfl)<|r_u rfl rfl(zd 1 ty3 rfl rfl rfl)<|r_pv rfl rfl(zD rfl rfl)<|zZ rfl rfl(zb rfl)(fun h14=> ?_)(fun h14=> ?_)
        ·
         refine r_pv rfl rfl(zb rfl)<|r_pv rfl rfl(zg(i:=2)Try.underlying44 sz3 rfl rfl(by decide)rfl)<|r_u rfl rfl(zd 0 ty3 rfl rfl rfl)<|r_pv rfl rfl(zD rfl rfl)<|r_pv rfl rfl(zy rfl rfl)<|r_pv rfl rfl(zy rfl rfl)<|zj ?_
         exact zfa()(show True from by first|trivial|omega|simp_all)((.e rfl(congrArg Value.bool(by first|(simp_all;done)|(simp_all;omega)|(simp;omega)|omega))(.of rfl)):SubM _ _)(ho:=((.of [0,0]rfl):PickO _ _ _))(.n:SelR _ _ _)
        ·
         refine zi rfl rfl<|zi rfl rfl<|zi rfl rfl<|zi rfl rfl<|r_pv rfl rfl(zy rfl rfl)<|r_pv rfl rfl(zy rfl rfl)<|zj ?_
         exact zfa()(show True from by first|trivial|omega|simp_all)((.e rfl(congrArg Value.bool(by first|(simp_all;done)|(simp_all;omega)|(simp;omega)|omega))(.of rfl)):SubM _ _)(ho:=((.of [0,0]rfl):PickO _ _ _))(.n:SelR _ _ _)
      ·
       rintro ⟨⟩ -
       try dsimp only
       refine zI rfl(fun hsg=> ?_)(fun hsg=> ?_)
       ·
        refine zh<|za<|r_pv rfl rfl(ze rfl)<|zj<|zc<|zP<|zq<|zl<|zl<|zq<|zl ?_
        exact zG Try.results106()trivial(zz rfl)(congrArg Value.bool(Ms.lbtw_3 hsg))(ho:=(.n:PickO _ _ _))(.n:SelR _ _ _)
       ·
        have hsg2:=hsg
        refine zw<|zA<|zc<|za<|r_pv rfl rfl(zC(z:=3)rfl rfl(w64(by decide)))<|r_pv rfl rfl(zb rfl)<|zj<|zba<|zQ<|zh<|za<|r_pv rfl rfl(zD rfl rfl)<|zj<|zc<|zh<|zva rfl rfl<|zaa<|zk<|zk<|zt<|zc<|zh<|za<|r_pv rfl rfl(ze rfl)<|zj<|zc<|zP ?_
        exact zG Try.results106()trivial(zz rfl)(congrArg Value.bool(Ms.lbtw_4(Decidable.not_not.1 hcr)hsg0 hsg1 hsg2))(ho:=(.n:PickO _ _ _))(.n:SelR _ _ _)
theorem con_on {ex:Int} {ey:Int} {ez:Int} {fx:Int} {fy:Int} {fz:Int} {gx:Int} {gy:Int} {gz:Int}(hbex: -4194304≤ex∧ex≤4194304)(hbey: -4194304≤ey∧ey≤4194304)(hbez: -4194304≤ez∧ez≤4194304)(hbfx: -4194304≤fx∧fx≤4194304)(hbfy: -4194304≤fy∧fy≤4194304)(hbfz: -4194304≤fz∧fz≤4194304)(hbgx: -4194304≤gx∧gx≤4194304)(hbgy: -4194304≤gy∧gy≤4194304)(hbgz: -4194304≤gz∧gz≤4194304):Con Try.prog 82 [.agg#[.int .i64 ex,.int .i64 ey,.int .i64 ez],.agg#[.int .i64 fx,.int .i64 fy,.int .i64 fz],.agg#[.int .i64 gx,.int .i64 gy,.int .i64 gz]] [] [](Y:=Unit)(fun y=>True)(fun y=> .bool(Ms.on_(ex,ey,ez)(fx,fy,fz)(gx,gy,gz)))(fun y=>[])(fun y=>[]):=by
 refine zB Try.func82 rfl rfl rfl(fun c=> ?_)
 show RunC _ _ _ _ _ [(0,.agg#[.int .i64 ex,.int .i64 ey,.int .i64 ez]),(1,.agg#[.int .i64 fx,.int .i64 fy,.int .i64 fz]),(2,.agg#[.int .i64 gx,.int .i64 gy,.int .i64 gz])] [] []
 have hwex: -8388608≤ex∧ex≤8388608:=⟨by omega,by omega⟩
 have hwey: -8388608≤ey∧ey≤8388608:=⟨by omega,by omega⟩
 have hwez: -8388608≤ez∧ez≤8388608:=⟨by omega,by omega⟩
 have hwfx: -8388608≤fx∧fx≤8388608:=⟨by omega,by omega⟩
 have hwfy: -8388608≤fy∧fy≤8388608:=⟨by omega,by omega⟩
 have hwfz: -8388608≤fz∧fz≤8388608:=⟨by omega,by omega⟩
 have hwgx: -8388608≤gx∧gx≤8388608:=⟨by omega,by omega⟩
 have hwgy: -8388608≤gy∧gy≤8388608:=⟨by omega,by omega⟩
 have hwgz: -8388608≤gz∧gz≤8388608:=⟨by omega,by omega⟩
 have hBex: -1073741824≤ex∧ex≤1073741824:=⟨by omega,by omega⟩
 have hBey: -1073741824≤ey∧ey≤1073741824:=⟨by omega,by omega⟩
 have hBez: -1073741824≤ez∧ez≤1073741824:=⟨by omega,by omega⟩
 have hBfx: -1073741824≤fx∧fx≤1073741824:=⟨by omega,by omega⟩
 have hBfy: -1073741824≤fy∧fy≤1073741824:=⟨by omega,by omega⟩
 have hBfz: -1073741824≤fz∧fz≤1073741824:=⟨by omega,by omega⟩
 have hBgx: -1073741824≤gx∧gx≤1073741824:=⟨by omega,by omega⟩
 have hBgy: -1073741824≤gy∧gy≤1073741824:=⟨by omega,by omega⟩
 have hBgz: -1073741824≤gz∧gz≤1073741824:=⟨by omega,by omega⟩
 have hCex: -4611686018427387903≤ex∧ex≤4611686018427387903:=⟨by omega,by omega⟩
 have hCey: -4611686018427387903≤ey∧ey≤4611686018427387903:=⟨by omega,by omega⟩
 have hCez: -4611686018427387903≤ez∧ez≤4611686018427387903:=⟨by omega,by omega⟩
 have hCfx: -4611686018427387903≤fx∧fx≤4611686018427387903:=⟨by omega,by omega⟩
 have hCfy: -4611686018427387903≤fy∧fy≤4611686018427387903:=⟨by omega,by omega⟩
 have hCfz: -4611686018427387903≤fz∧fz≤4611686018427387903:=⟨by omega,by omega⟩
 have hCgx: -4611686018427387903≤gx∧gx≤4611686018427387903:=⟨by omega,by omega⟩
 have hCgy: -4611686018427387903≤gy∧gy≤4611686018427387903:=⟨by omega,by omega⟩
 have hCgz: -4611686018427387903≤gz∧gz≤4611686018427387903:=⟨by omega,by omega⟩
 have hDex: -4611686018427387904≤ex∧ex≤4611686018427387904:=⟨by omega,by omega⟩
 have hDey: -4611686018427387904≤ey∧ey≤4611686018427387904:=⟨by omega,by omega⟩
 have hDez: -4611686018427387904≤ez∧ez≤4611686018427387904:=⟨by omega,by omega⟩
 have hFfx: -2147483648≤fx∧fx≤2147483648:=⟨by omega,by omega⟩
 have hFfy: -2147483648≤fy∧fy≤2147483648:=⟨by omega,by omega⟩
 have hFfz: -2147483648≤fz∧fz≤2147483648:=⟨by omega,by omega⟩
 have hFgx: -2147483648≤gx∧gx≤2147483648:=⟨by omega,by omega⟩
 have hFgy: -2147483648≤gy∧gy≤2147483648:=⟨by omega,by omega⟩
 have hFgz: -2147483648≤gz∧gz≤2147483648:=⟨by omega,by omega⟩
 have hw0: -8388608≤(fx - ex)∧(fx - ex)≤8388608:=⟨by omega,by omega⟩
 have hw1: -8388608≤(fy - ey)∧(fy - ey)≤8388608:=⟨by omega,by omega⟩
 have hw2: -8388608≤(fz - ez)∧(fz - ez)≤8388608:=⟨by omega,by omega⟩
 have hw3: -8388608≤(gx - ex)∧(gx - ex)≤8388608:=⟨by omega,by omega⟩
 have hw4: -8388608≤(gy - ey)∧(gy - ey)≤8388608:=⟨by omega,by omega⟩
 have hw5: -8388608≤(gz - ez)∧(gz - ez)≤8388608:=⟨by omega,by omega⟩
 have hB0: -1073741824≤(fx - ex)∧(fx - ex)≤1073741824:=⟨by omega,by omega⟩
 have hB1: -1073741824≤(fy - ey)∧(fy - ey)≤1073741824:=⟨by omega,by omega⟩
 have hB2: -1073741824≤(fz - ez)∧(fz - ez)≤1073741824:=⟨by omega,by omega⟩
 have hB3: -1073741824≤(gx - ex)∧(gx - ex)≤1073741824:=⟨by omega,by omega⟩
 have hB4: -1073741824≤(gy - ey)∧(gy - ey)≤1073741824:=⟨by omega,by omega⟩
 have hB5: -1073741824≤(gz - ez)∧(gz - ez)≤1073741824:=⟨by omega,by omega⟩
 obtain ⟨hia0,hla0,hma0⟩:=Ms.lim3(Ms.cross_lim hwey hwfz hwez hwfy)
 obtain ⟨hia1,hla1,hma1⟩:=Ms.lim3(Ms.cross_lim hwez hwfx hwex hwfz)
 obtain ⟨hia2,hla2,hma2⟩:=Ms.lim3(Ms.cross_lim hwex hwfy hwey hwfx)
 obtain ⟨hib0,hlb0,hmb0⟩:=Ms.lim3(Ms.cross_lim hwfy hwgz hwfz hwgy)
 obtain ⟨hib1,hlb1,hmb1⟩:=Ms.lim3(Ms.cross_lim hwfz hwgx hwfx hwgz)
 obtain ⟨hib2,hlb2,hmb2⟩:=Ms.lim3(Ms.cross_lim hwfx hwgy hwfy hwgx)
 obtain ⟨hic0,hlc0,hmc0⟩:=Ms.lim3(Ms.cross_lim hwgy hwez hwgz hwey)
 obtain ⟨hic1,hlc1,hmc1⟩:=Ms.lim3(Ms.cross_lim hwgz hwex hwgx hwez)
 obtain ⟨hic2,hlc2,hmc2⟩:=Ms.lim3(Ms.cross_lim hwgx hwey hwgy hwex)
 obtain ⟨hin0,hln0,hmn0⟩:=Ms.lim3(Ms.cross_lim hw1 hw5 hw2 hw4)
 obtain ⟨hin1,hln1,hmn1⟩:=Ms.lim3(Ms.cross_lim hw2 hw3 hw0 hw5)
 obtain ⟨hin2,hln2,hmn2⟩:=Ms.lim3(Ms.cross_lim hw0 hw4 hw1 hw3)
 obtain ⟨hda0,hda1,hda2,hda3,hda4,hda5⟩:=Ms.dot_lim hla0 hla1 hla2 hln0 hln1 hln2
 obtain ⟨hdb0,hdb1,hdb2,hdb3,hdb4,hdb5⟩:=Ms.dot_lim hlb0 hlb1 hlb2 hln0 hln1 hln2
 obtain ⟨hdc0,hdc1,hdc2,hdc3,hdc4,hdc5⟩:=Ms.dot_lim hlc0 hlc1 hlc2 hln0 hln1 hln2
 have hl0:Big.ln(0:Int)≤1099511627776:=by rw [Big.zyc];omega
 have hdd:Big.ln(Ms.det(ex,ey,ez)(fx,fy,fz)(gx,gy,gz))≤1099511627776:=Nat.le_trans(Big.zha(by omega)(by omega)(by omega)(by omega)(by omega)(by omega)(by omega)(by omega)(by omega))(by decide)
 refine zh<|za<|zS rfl rfl(zca rfl rfl)(fun b1=> ?_)
 refine zS rfl rfl(zca rfl rfl)(fun b2=> ?_)
 refine zS rfl rfl(zca rfl rfl)(fun b3=> ?_)
 refine r_pv rfl rfl(ze rfl)<|zj<|zc<|zh<|zh<|za<|r_u rfl rfl(zf 2 ty44 rfl rfl(.take(.take(.take .nil))))<|r_u rfl rfl(zf 1 ty44 rfl rfl(.take(.take(.take .nil))))<|r_u rfl rfl(zf 0 ty44 rfl rfl(.take(.take(.take .nil))))<|zea rfl rfl(.c rfl(.c rfl(.c rfl .n)))ce63(zAb(ex:=ex)(ey:=ey)(ez:=ez)(fx:=fx)(fy:=fy)(fz:=fz)(gx:=gx)(gy:=gy)(gz:=gz)(hbex:=by assumption)(hbey:=by assumption)(hbez:=by assumption)(hbfx:=by assumption)(hbfy:=by assumption)(hbfz:=by assumption)(hbgx:=by assumption)(hbgy:=by assumption)(hbgz:=by assumption))(.n) ?_
 rintro w34 -
 dsimp only [List.append_eq,List.nil_append,List.cons_append]
 refine zY rfl rfl(.c rfl .n)ce83(zNa(w1:=w34)(x1:=Ms.det(ex,ey,ez)(fx,fy,fz)(gx,gy,gz))(hln:=by assumption))(.c(j:=0)rfl .n)<|r_pv rfl rfl(zZa rfl rfl)<|zj<|zc<|zI rfl(fun hdet=> ?_)(fun hdet=> ?_)
 ·
  refine zh<|za<|r_pv rfl rfl(ze rfl)<|zj<|zc<|zP<|zl ?_
  exact zG Try.results82()trivial(zz rfl)(congrArg Value.bool(Ms.on_1 hdet))(ho:=(.n:PickO _ _ _))(.n:SelR _ _ _)
 ·
  refine zw<|zc<|zh<|zla(OW:=[])(O:=[boxA b3 44 [.int .i64 gx,.int .i64 gy,.int .i64 gz],boxA b2 44 [.int .i64 fx,.int .i64 fy,.int .i64 fz],boxA b1 44 [.int .i64 ex,.int .i64 ey,.int .i64 ez]]) 8 mixed(.then .ret)(by kernel_rfl)<|d_u 0 rfl rfl(by kernel_rfl)(by kernel_rfl)rfl rfl(zf 1 ty44 rfl rfl(.take(.take(.take .nil))))<|d_u 1 rfl rfl(by kernel_rfl)(by kernel_rfl)rfl rfl(zf 2 ty44 rfl rfl(.take(.take(.take .nil))))<|d_u 3 rfl rfl(by kernel_rfl)(by kernel_rfl)rfl rfl(zf 0 ty44 rfl rfl(.take(.take(.take .nil))))<|d_u 4 rfl rfl(by kernel_rfl)(by kernel_rfl)rfl rfl(zf 2 ty44 rfl rfl(.take(.take(.take .nil))))<|zPb(m':=[(23,.agg#[.int .i64 ex,.int .i64 ey,.int .i64 ez]),(22,.agg#[.int .i64 gx,.int .i64 gy,.int .i64 gz]),(20,.agg#[.int .i64 ex,.int .i64 ey,.int .i64 ez]),(19,.agg#[.int .i64 fx,.int .i64 fy,.int .i64 fz]),(6,.bool false),(5,.pointer(some⟨b3,0,none⟩)),(4,.pointer(some⟨b2,0,none⟩)),(3,.pointer(some⟨b1,0,none⟩))])(R':=[zF w34(Ms.det(ex,ey,ez)(fx,fy,fz)(gx,gy,gz))])((.of rfl):SubM _ _)(List.Perm.refl _)(List.Perm.refl _)((.c(j:=0)rfl .n):SelR _ _ _)<|zL(X:=Nat)(k':=0)(L':=(lb 9 511))(fun u7_1=>([(7,.pointer(some⟨u7_1,0,none⟩)),(6,.bool false),(5,.pointer(some⟨b3,0,none⟩)),(4,.pointer(some⟨b2,0,none⟩)),(3,.pointer(some⟨b1,0,none⟩))],[boxA u7_1 44 [.int .i64((fy - ey)*(gz - ez) - (fz - ez)*(gy - ey)),.int .i64((fz - ez)*(gx - ex) - (fx - ex)*(gz - ez)),.int .i64((fx - ex)*(gy - ey) - (fy - ey)*(gx - ex))]],[boxA b3 44 [.int .i64 gx,.int .i64 gy,.int .i64 gz],boxA b2 44 [.int .i64 fx,.int .i64 fy,.int .i64 fz],boxA b1 44 [.int .i64 ex,.int .i64 ey,.int .i64 ez]],[zF w34(Ms.det(ex,ey,ez)(fx,fy,fz)(gx,gy,gz))])) ?_(fun hD0=> ?_)
  ·
   rintro u7_1
   dsimp only
   refine zma(by kernel_rfl)<|zc<|zh<|zh<|za<|r_u rfl rfl(zf 0 ty44 rfl rfl(.take(.take(.take .nil))))<|r_pv rfl rfl(zK zr44 rfl Try.underlying44 sz3 .n .n)<|r_pv rfl rfl(zLc(p:=((fy - ey)*(gz - ez) - (fz - ez)*(gy - ey))=0∧((fz - ez)*(gx - ex) - (fx - ex)*(gz - ez))=0∧((fx - ex)*(gy - ey) - (fy - ey)*(gx - ex))=0)(by kernel_rfl)rfl rfl(zvc Try.underlying44 sz3(zFb ty3 rfl rfl(zEb Try.underlying3)(zFb ty3 rfl rfl(zEb Try.underlying3)(zFb ty3 rfl rfl(zEb Try.underlying3)zld))))(by simp [Bool.decide_and]))<|zj<|zc<|zI rfl(fun hz=> ?_)(fun hz=> ?_)
   ·
    refine zLa(X:=Unit)(fun x=>True)(fun x=>[(6,.bool(decide((((Ms.lbtw(ex,ey,ez)(fx,fy,fz))=true)∨((Ms.lbtw(fx,fy,fz)(gx,gy,gz))=true))∨((Ms.lbtw(gx,gy,gz)(ex,ey,ez))=true)))),(7,.pointer(some⟨u7_1,0,none⟩)),(5,.pointer(some⟨b3,0,none⟩)),(4,.pointer(some⟨b2,0,none⟩)),(3,.pointer(some⟨b1,0,none⟩))])(fun x=>[boxA u7_1 44 [.int .i64((fy - ey)*(gz - ez) - (fz - ez)*(gy - ey)),.int .i64((fz - ez)*(gx - ex) - (fx - ex)*(gz - ez)),.int .i64((fx - ex)*(gy - ey) - (fy - ey)*(gx - ex))],boxA b3 44 [.int .i64 gx,.int .i64 gy,.int .i64 gz],boxA b2 44 [.int .i64 fx,.int .i64 fy,.int .i64 fz],boxA b1 44 [.int .i64 ex,.int .i64 ey,.int .i64 ez]])(fun x=>[zF w34(Ms.det(ex,ey,ez)(fx,fy,fz)(gx,gy,gz))]) ?_ ?_
    ·
     refine za<|r_u rfl rfl(zf 3 ty44 rfl rfl(.take(.take(.take .nil))))<|r_u rfl rfl(zf 2 ty44 rfl rfl(.take(.take(.take .nil))))<|zY rfl rfl(.c rfl(.c rfl .n))ce106(zUc(ex:=ex)(ey:=ey)(ez:=ez)(fx:=fx)(fy:=fy)(fz:=fz)(hbex:=by assumption)(hbey:=by assumption)(hbez:=by assumption)(hbfx:=by assumption)(hbfy:=by assumption)(hbfz:=by assumption))(.n)<|zWb rfl rfl(zb rfl)(fun h5=> ?_)(fun h5=> ?_)
     ·
      refine zi rfl rfl<|zi rfl rfl<|zi rfl rfl<|r_pv rfl rfl(zy rfl rfl)<|r_pv rfl rfl(zb rfl)<|zi rfl rfl<|zi rfl rfl<|zi rfl rfl<|r_pv rfl rfl(zy rfl rfl)<|r_pv rfl rfl(ze rfl)<|zj ?_
      exact zfa()(show True from by first|trivial|omega|simp_all)((.e rfl(congrArg Value.bool(by first|(simp_all;done)|(simp_all;omega)|(simp;omega)|omega))(.of rfl)):SubM _ _)(ho:=((.of [0,0,0,0]rfl):PickO _ _ _))((.c(j:=0)rfl .n):SelR _ _ _)
     ·
      refine r_u rfl rfl(zf 2 ty44 rfl rfl(.take(.take(.take .nil))))<|r_u rfl rfl(zf 1 ty44 rfl rfl(.take(.take(.take .nil))))<|zY rfl rfl(.c rfl(.c rfl .n))ce106(zUc(ex:=fx)(ey:=fy)(ez:=fz)(fx:=gx)(fy:=gy)(fz:=gz)(hbex:=by assumption)(hbey:=by assumption)(hbez:=by assumption)(hbfx:=by assumption)(hbfy:=by assumption)(hbfz:=by assumption))(.n)<|r_pv rfl rfl(zy rfl rfl)<|zWb rfl rfl(zb rfl)(fun h6=> ?_)(fun h6=> ?_)
      ·
       refine zi rfl rfl<|zi rfl rfl<|zi rfl rfl<|r_pv rfl rfl(zy rfl rfl)<|r_pv rfl rfl(ze rfl)<|zj ?_
       exact zfa()(show True from by first|trivial|omega|simp_all)((.e rfl(congrArg Value.bool(by first|(simp_all;done)|(simp_all;omega)|(simp;omega)|omega))(.of rfl)):SubM _ _)(ho:=((.of [0,0,0,0]rfl):PickO _ _ _))((.c(j:=0)rfl .n):SelR _ _ _)
      ·
       refine r_u rfl rfl(zf 1 ty44 rfl rfl(.take(.take(.take .nil))))<|r_u rfl rfl(zf 3 ty44 rfl rfl(.take(.take(.take .nil))))<|zY rfl rfl(.c rfl(.c rfl .n))ce106(zUc(ex:=gx)(ey:=gy)(ez:=gz)(fx:=ex)(fy:=ey)(fz:=ez)(hbex:=by assumption)(hbey:=by assumption)(hbez:=by assumption)(hbfx:=by assumption)(hbfy:=by assumption)(hbfz:=by assumption))(.n)<|r_pv rfl rfl(zy rfl rfl)<|r_pv rfl rfl(ze rfl)<|zj ?_
       exact zfa()(show True from by first|trivial|omega|simp_all)((.e rfl(congrArg Value.bool(by first|(simp_all;done)|(simp_all;omega)|(simp;omega)|omega))(.of rfl)):SubM _ _)(ho:=((.of [0,0,0,0]rfl):PickO _ _ _))((.c(j:=0)rfl .n):SelR _ _ _)
    ·
     rintro ⟨⟩ -
     try dsimp only
     refine zP<|zl ?_
     exact zG Try.results82()trivial(zz rfl)(congrArg Value.bool(Ms.on_2(Decidable.not_not.1 hdet)hz))(ho:=(.n:PickO _ _ _))(.n:SelR _ _ _)
   ·
    refine zw<|zc<|zh<|zh<|za<|r_u rfl rfl(zf 3 ty44 rfl rfl(.take(.take(.take .nil))))<|r_u rfl rfl(zf 2 ty44 rfl rfl(.take(.take(.take .nil))))<|r_pv rfl rfl(zK zr136 rfl Try.underlying136 sz44(.c rfl(.c rfl .n))(.c rfl rfl rfl(.take(.take(.take .nil)))(.c rfl rfl rfl(.skip(.skip(.skip(.take(.take(.take .nil)))))) .n)))<|r_u rfl rfl(zf 2 ty44 rfl rfl(.take(.take(.take .nil))))<|r_u rfl rfl(zf 1 ty44 rfl rfl(.take(.take(.take .nil))))<|r_pv rfl rfl(zK zr136 rfl Try.underlying136 sz44(.c rfl(.c rfl .n))(.c rfl rfl rfl(.take(.take(.take .nil)))(.c rfl rfl rfl(.skip(.skip(.skip(.take(.take(.take .nil)))))) .n)))<|r_u rfl rfl(zf 1 ty44 rfl rfl(.take(.take(.take .nil))))<|r_u rfl rfl(zf 3 ty44 rfl rfl(.take(.take(.take .nil))))<|r_pv rfl rfl(zK zr136 rfl Try.underlying136 sz44(.c rfl(.c rfl .n))(.c rfl rfl rfl(.take(.take(.take .nil)))(.c rfl rfl rfl(.skip(.skip(.skip(.take(.take(.take .nil)))))) .n)))<|r_pv rfl rfl(zK zr137 rfl Try.underlying137 sz136(.c rfl(.c rfl(.c rfl .n)))(.c rfl rfl rfl(.take(.take(.take(.take(.take(.take .nil))))))(.c rfl rfl rfl(.skip(.skip(.skip(.skip(.skip(.skip(.take(.take(.take(.take(.take(.take .nil))))))))))))(.c rfl rfl rfl(.skip(.skip(.skip(.skip(.skip(.skip(.skip(.skip(.skip(.skip(.skip(.skip(.take(.take(.take(.take(.take(.take .nil)))))))))))))))))) .n))))<|r_pv rfl rfl(zb rfl)<|zj<|zc<|zr<|zSa<|zQ<|zh<|za<|r_pv rfl rfl(zD rfl rfl)<|zj<|zc<|zh<|zT rfl rfl<|zw<|zc<|zh<|zr<|zh<|za<|r_pv rfl rfl(zza(i:=0)Try.underlying137 ty136 rfl rfl(by decide)(.take(.take(.take(.take(.take(.take .nil)))))))<|zS rfl rfl(zn zr136 rfl)(fun b7=> ?_)
    refine zx 0 rfl rfl rfl rfl rfl sz136 rfl(.take(.take(.take(.take(.take(.take .nil)))))) .z<|zj<|zc<|zh<|za<|r_pv rfl rfl(zg(i:=0)Try.underlying136 sz44 rfl rfl(by decide)rfl)<|r_u rfl rfl(zf 0 ty44 rfl rfl(.take(.take(.take .nil))))<|r_pv rfl rfl(zg(i:=1)Try.underlying136 sz44 rfl rfl(by decide)rfl)<|r_u rfl rfl(zf 0 ty44 rfl rfl(.skip(.skip(.skip(.take(.take(.take .nil)))))))<|zY rfl rfl(.c rfl(.c rfl .n))ce104(zrb(ex:=ex)(ey:=ey)(ez:=ez)(fx:=fx)(fy:=fy)(fz:=fz)(hbex:=by assumption)(hbey:=by assumption)(hbez:=by assumption)(hbfx:=by assumption)(hbfy:=by assumption)(hbfz:=by assumption))(.n)<|zS rfl rfl(zn zr44 rfl)(fun b8=> ?_)
    refine zx 0 rfl rfl rfl rfl rfl sz44 rfl(.take(.take(.take .nil))) .z<|zj<|zc<|zh<|za<|zea rfl rfl(.c rfl .n)ce45(zpa(z:=(0:Int))(hz:=by decide))(.n) ?_
    rintro w39 -
    dsimp only [List.append_eq,List.nil_append,List.cons_append]
    refine zS rfl rfl(zn zr34 rfl)(fun b10=> ?_)
    refine zx 0 rfl rfl rfl rfl rfl sz34 rfl(.take(.take .nil)) .z<|zj<|zc<|zh<|zh<|za<|r_pv rfl rfl(zb rfl)<|zj<|zc<|zr<|zSa<|zQ<|zh<|za<|r_pv rfl rfl(zD rfl rfl)<|zj<|zc<|zh<|zT rfl rfl<|zw<|zc<|zh<|zr<|zh<|za<|r_pv rfl rfl(zb rfl)<|r_pv rfl rfl(ze rfl)<|zj<|zc<|zla(OW:=[boxA b10 34 [w39.b,w39.l]])(O:=[boxA b8 44 [.int .i64(ey*fz - ez*fy),.int .i64(ez*fx - ex*fz),.int .i64(ex*fy - ey*fx)],boxA b7 136 [.int .i64 ex,.int .i64 ey,.int .i64 ez,.int .i64 fx,.int .i64 fy,.int .i64 fz],boxA u7_1 44 [.int .i64((fy - ey)*(gz - ez) - (fz - ez)*(gy - ey)),.int .i64((fz - ez)*(gx - ex) - (fx - ex)*(gz - ez)),.int .i64((fx - ex)*(gy - ey) - (fy - ey)*(gx - ex))],boxA b3 44 [.int .i64 gx,.int .i64 gy,.int .i64 gz],boxA b2 44 [.int .i64 fx,.int .i64 fy,.int .i64 fz],boxA b1 44 [.int .i64 ex,.int .i64 ey,.int .i64 ez]]) 11 mixed(.block(.then(.then(.block(.then(.block(.then(.then(.block(.then .ret))))))))))(by kernel_rfl)<|d_uw 0 rfl rfl(by kernel_rfl)(by kernel_rfl)(by kernel_rfl)rfl rfl(zf 0 ty34 rfl rfl(.take(.take .nil)))<|d_pv 1 rfl rfl(by kernel_rfl)(by kernel_rfl)rfl rfl(zb rfl)<|d_pv 2 rfl rfl(by kernel_rfl)(by kernel_rfl)rfl rfl(zg(i:=0)Try.underlying44 sz3 rfl rfl(by decide)rfl)<|d_uw 3 rfl rfl(by kernel_rfl)(by kernel_rfl)(by kernel_rfl)rfl rfl(zd 1 ty3 rfl rfl rfl)<|d_pv 5 rfl rfl(by kernel_rfl)(by kernel_rfl)rfl rfl(zb rfl)<|d_pv 6 rfl rfl(by kernel_rfl)(by kernel_rfl)rfl rfl(zg(i:=0)Try.underlying44 sz3 rfl rfl(by decide)rfl)<|d_uw 7 rfl rfl(by kernel_rfl)(by kernel_rfl)(by kernel_rfl)rfl rfl(zd 3 ty3 rfl rfl rfl)<|zE 4(by kernel_rfl)(zu rfl rfl rfl rfl(.c rfl .n)ce45(zpa(z:=(ey*fz - ez*fy))(hz:=by assumption))(.n) ?_)
    rintro w311 -
    dsimp only [List.append_eq,List.nil_append,List.cons_append]
    refine zE 8(by kernel_rfl)(zu rfl rfl rfl rfl(.c rfl .n)ce45(zpa(z:=((fy - ey)*(gz - ez) - (fz - ez)*(gy - ey)))(hz:=by assumption))(.n) ?_)
    rintro w312 -
    dsimp only [List.append_eq,List.nil_append,List.cons_append]
    refine zE 9(by kernel_rfl)(zu rfl rfl rfl rfl(.c rfl(.c rfl .n))ce97(zXa(w1:=w311)(w2:=w312)(x1:=(ey*fz - ez*fy))(x2:=((fy - ey)*(gz - ez) - (fz - ez)*(gy - ey)))(hb1:=by assumption)(hb2:=by assumption))(.c(j:=1)rfl(.c(j:=0)rfl .n)) ?_)
    rintro w313 -
    dsimp only [List.append_eq,List.nil_append,List.cons_append]
    refine zE 10(by kernel_rfl)(zu rfl rfl rfl rfl(.c rfl(.c rfl .n))ce62(zWa(w1:=w39)(w2:=w313)(x1:=(0:Int))(x2:=(ey*fz - ez*fy)*((fy - ey)*(gz - ez) - (fz - ez)*(gy - ey)))(hb1:=by assumption)(hb2:=by assumption))(.c(j:=3)rfl(.c(j:=0)rfl .n)) ?_)
    rintro w314 -
    dsimp only [List.append_eq,List.nil_append,List.cons_append]
    refine zE 11(by kernel_rfl)(zM(by kernel_rfl)rfl rfl rfl rfl rfl sz34 rfl(.take(.take .nil)) ?_)
    refine zma(by kernel_rfl)<|zA<|zc<|za<|r_pv rfl rfl(zC(z:=1)rfl rfl(w64(by decide)))<|r_pv rfl rfl(zb rfl)<|zj<|zba<|zQ<|zh<|za<|r_pv rfl rfl(zD rfl rfl)<|zj<|zc<|zh<|zT rfl rfl<|zw<|zc<|zh<|zr<|zh<|za<|r_pv rfl rfl(zb rfl)<|r_pv rfl rfl(ze rfl)<|zj<|zc<|zla(OW:=[boxA b10 34 [w314.b,w314.l]])(O:=[boxA b8 44 [.int .i64(ey*fz - ez*fy),.int .i64(ez*fx - ex*fz),.int .i64(ex*fy - ey*fx)],boxA b7 136 [.int .i64 ex,.int .i64 ey,.int .i64 ez,.int .i64 fx,.int .i64 fy,.int .i64 fz],boxA u7_1 44 [.int .i64((fy - ey)*(gz - ez) - (fz - ez)*(gy - ey)),.int .i64((fz - ez)*(gx - ex) - (fx - ex)*(gz - ez)),.int .i64((fx - ex)*(gy - ey) - (fy - ey)*(gx - ex))],boxA b3 44 [.int .i64 gx,.int .i64 gy,.int .i64 gz],boxA b2 44 [.int .i64 fx,.int .i64 fy,.int .i64 fz],boxA b1 44 [.int .i64 ex,.int .i64 ey,.int .i64 ez]]) 11 mixed(.block(.then(.then(.block(.then(.block(.then(.then(.block(.then .ret))))))))))(by kernel_rfl)<|d_uw 0 rfl rfl(by kernel_rfl)(by kernel_rfl)(by kernel_rfl)rfl rfl(zf 0 ty34 rfl rfl(.take(.take .nil)))<|d_pv 1 rfl rfl(by kernel_rfl)(by kernel_rfl)rfl rfl(zb rfl)<|d_pv 2 rfl rfl(by kernel_rfl)(by kernel_rfl)rfl rfl(zg(i:=1)Try.underlying44 sz3 rfl rfl(by decide)rfl)<|d_uw 3 rfl rfl(by kernel_rfl)(by kernel_rfl)(by kernel_rfl)rfl rfl(zd 1 ty3 rfl rfl rfl)<|d_pv 5 rfl rfl(by kernel_rfl)(by kernel_rfl)rfl rfl(zb rfl)<|d_pv 6 rfl rfl(by kernel_rfl)(by kernel_rfl)rfl rfl(zg(i:=1)Try.underlying44 sz3 rfl rfl(by decide)rfl)<|d_uw 7 rfl rfl(by kernel_rfl)(by kernel_rfl)(by kernel_rfl)rfl rfl(zd 3 ty3 rfl rfl rfl)<|zE 4(by kernel_rfl)(zu rfl rfl rfl rfl(.c rfl .n)ce45(zpa(z:=(ez*fx - ex*fz))(hz:=by assumption))(.n) ?_)
    rintro w315 -
    dsimp only [List.append_eq,List.nil_append,List.cons_append]
    refine zE 8(by kernel_rfl)(zu rfl rfl rfl rfl(.c rfl .n)ce45(zpa(z:=((fz - ez)*(gx - ex) - (fx - ex)*(gz - ez)))(hz:=by assumption))(.n) ?_)
    rintro w316 -
    dsimp only [List.append_eq,List.nil_append,List.cons_append]
    refine zE 9(by kernel_rfl)(zu rfl rfl rfl rfl(.c rfl(.c rfl .n))ce97(zXa(w1:=w315)(w2:=w316)(x1:=(ez*fx - ex*fz))(x2:=((fz - ez)*(gx - ex) - (fx - ex)*(gz - ez)))(hb1:=by assumption)(hb2:=by assumption))(.c(j:=1)rfl(.c(j:=0)rfl .n)) ?_)
    rintro w317 -
    dsimp only [List.append_eq,List.nil_append,List.cons_append]
    refine zE 10(by kernel_rfl)(zu rfl rfl rfl rfl(.c rfl(.c rfl .n))ce62(zWa(w1:=w314)(w2:=w317)(x1:=(0:Int)+((ey*fz - ez*fy)*((fy - ey)*(gz - ez) - (fz - ez)*(gy - ey))))(x2:=(ez*fx - ex*fz)*((fz - ez)*(gx - ex) - (fx - ex)*(gz - ez)))(hb1:=by assumption)(hb2:=by assumption))(.c(j:=3)rfl(.c(j:=0)rfl .n)) ?_)
    rintro w318 -
    dsimp only [List.append_eq,List.nil_append,List.cons_append]
    refine zE 11(by kernel_rfl)(zM(by kernel_rfl)rfl rfl rfl rfl rfl sz34 rfl(.take(.take .nil)) ?_)
    refine zma(by kernel_rfl)<|zA<|zc<|za<|r_pv rfl rfl(zC(z:=2)rfl rfl(w64(by decide)))<|r_pv rfl rfl(zb rfl)<|zj<|zba<|zQ<|zh<|za<|r_pv rfl rfl(zD rfl rfl)<|zj<|zc<|zh<|zT rfl rfl<|zw<|zc<|zh<|zr<|zh<|za<|r_pv rfl rfl(zb rfl)<|r_pv rfl rfl(ze rfl)<|zj<|zc<|zla(OW:=[boxA b10 34 [w318.b,w318.l]])(O:=[boxA b8 44 [.int .i64(ey*fz - ez*fy),.int .i64(ez*fx - ex*fz),.int .i64(ex*fy - ey*fx)],boxA b7 136 [.int .i64 ex,.int .i64 ey,.int .i64 ez,.int .i64 fx,.int .i64 fy,.int .i64 fz],boxA u7_1 44 [.int .i64((fy - ey)*(gz - ez) - (fz - ez)*(gy - ey)),.int .i64((fz - ez)*(gx - ex) - (fx - ex)*(gz - ez)),.int .i64((fx - ex)*(gy - ey) - (fy - ey)*(gx - ex))],boxA b3 44 [.int .i64 gx,.int .i64 gy,.int .i64 gz],boxA b2 44 [.int .i64 fx,.int .i64 fy,.int .i64 fz],boxA b1 44 [.int .i64 ex,.int .i64 ey,.int .i64 ez]]) 11 mixed(.block(.then(.then(.block(.then(.block(.then(.then(.block(.then .ret))))))))))(by kernel_rfl)<|d_uw 0 rfl rfl(by kernel_rfl)(by kernel_rfl)(by kernel_rfl)rfl rfl(zf 0 ty34 rfl rfl(.take(.take .nil)))<|d_pv 1 rfl rfl(by kernel_rfl)(by kernel_rfl)rfl rfl(zb rfl)<|d_pv 2 rfl rfl(by kernel_rfl)(by kernel_rfl)rfl rfl(zg(i:=2)Try.underlying44 sz3 rfl rfl(by decide)rfl)<|d_uw 3 rfl rfl(by kernel_rfl)(by kernel_rfl)(by kernel_rfl)rfl rfl(zd 1 ty3 rfl rfl rfl)<|d_pv 5 rfl rfl(by kernel_rfl)(by kernel_rfl)rfl rfl(zb rfl)<|d_pv 6 rfl rfl(by kernel_rfl)(by kernel_rfl)rfl rfl(zg(i:=2)Try.underlying44 sz3 rfl rfl(by decide)rfl)<|d_uw 7 rfl rfl(by kernel_rfl)(by kernel_rfl)(by kernel_rfl)rfl rfl(zd 3 ty3 rfl rfl rfl)<|zE 4(by kernel_rfl)(zu rfl rfl rfl rfl(.c rfl .n)ce45(zpa(z:=(ex*fy - ey*fx))(hz:=by assumption))(.n) ?_)
    rintro w319 -
    dsimp only [List.append_eq,List.nil_append,List.cons_append]
    refine zE 8(by kernel_rfl)(zu rfl rfl rfl rfl(.c rfl .n)ce45(zpa(z:=((fx - ex)*(gy - ey) - (fy - ey)*(gx - ex)))(hz:=by assumption))(.n) ?_)
    rintro w320 -
    dsimp only [List.append_eq,List.nil_append,List.cons_append]
    refine zE 9(by kernel_rfl)(zu rfl rfl rfl rfl(.c rfl(.c rfl .n))ce97(zXa(w1:=w319)(w2:=w320)(x1:=(ex*fy - ey*fx))(x2:=((fx - ex)*(gy - ey) - (fy - ey)*(gx - ex)))(hb1:=by assumption)(hb2:=by assumption))(.c(j:=1)rfl(.c(j:=0)rfl .n)) ?_)
    rintro w321 -
    dsimp only [List.append_eq,List.nil_append,List.cons_append]
    refine zE 10(by kernel_rfl)(zu rfl rfl rfl rfl(.c rfl(.c rfl .n))ce62(zWa(w1:=w318)(w2:=w321)(x1:=((0:Int)+((ey*fz - ez*fy)*((fy - ey)*(gz - ez) - (fz - ez)*(gy - ey))))+((ez*fx - ex*fz)*((fz - ez)*(gx - ex) - (fx - ex)*(gz - ez))))(x2:=(ex*fy - ey*fx)*((fx - ex)*(gy - ey) - (fy - ey)*(gx - ex)))(hb1:=by assumption)(hb2:=by assumption))(.c(j:=3)rfl(.c(j:=0)rfl .n)) ?_)
    rintro w322 -
    dsimp only [List.append_eq,List.nil_append,List.cons_append]
    refine zE 11(by kernel_rfl)(zM(by kernel_rfl)rfl rfl rfl rfl rfl sz34 rfl(.take(.take .nil)) ?_)
    refine zma(by kernel_rfl)<|zA<|zc<|za<|r_pv rfl rfl(zC(z:=3)rfl rfl(w64(by decide)))<|r_pv rfl rfl(zb rfl)<|zj<|zba<|zQ<|zh<|za<|r_pv rfl rfl(zD rfl rfl)<|zj<|zc<|zh<|zva rfl rfl<|zaa<|zk<|zk<|zt<|zc<|zh<|za<|r_u rfl rfl(zf 0 ty34 rfl rfl(.take(.take .nil)))<|zY rfl rfl(.c rfl .n)ce83(zNa(w1:=w322)(x1:=(((0:Int)+((ey*fz - ez*fy)*((fy - ey)*(gz - ez) - (fz - ez)*(gy - ey))))+((ez*fx - ex*fz)*((fz - ez)*(gx - ex) - (fx - ex)*(gz - ez))))+((ex*fy - ey*fx)*((fx - ex)*(gy - ey) - (fy - ey)*(gx - ex))))(hln:=by assumption))(.c(j:=0)rfl .n)<|r_pv rfl rfl(zD rfl rfl)<|zj<|zc<|zI rfl(fun hng=> ?_)(fun hng=> ?_)
    ·
     refine zh<|za<|r_pv rfl rfl(ze rfl)<|zj<|zc<|zP<|zq<|zl<|zl<|zq<|zl ?_
     exact zG Try.results82()trivial(zz rfl)(congrArg Value.bool(Ms.on_3a(Decidable.not_not.1 hdet)hz hng))(ho:=(.n:PickO _ _ _))(.n:SelR _ _ _)
    ·
     have hng0:=hng
     refine zw<|zA<|zc<|za<|r_pv rfl rfl(zC(z:=1)rfl rfl(w64(by decide)))<|r_pv rfl rfl(zb rfl)<|zj<|zba<|zQ<|zh<|za<|r_pv rfl rfl(zD rfl rfl)<|zj<|zc<|zh<|zT rfl rfl<|zw<|zc<|zh<|zr<|zh<|za<|r_pv rfl rfl(zza(i:=1)Try.underlying137 ty136 rfl rfl(by decide)(.skip(.skip(.skip(.skip(.skip(.skip(.take(.take(.take(.take(.take(.take .nil)))))))))))))<|zS rfl rfl(zn zr136 rfl)(fun b23=> ?_)
     refine zx 0 rfl rfl rfl rfl rfl sz136 rfl(.take(.take(.take(.take(.take(.take .nil)))))) .z<|zj<|zc<|zh<|za<|r_pv rfl rfl(zg(i:=0)Try.underlying136 sz44 rfl rfl(by decide)rfl)<|r_u rfl rfl(zf 0 ty44 rfl rfl(.take(.take(.take .nil))))<|r_pv rfl rfl(zg(i:=1)Try.underlying136 sz44 rfl rfl(by decide)rfl)<|r_u rfl rfl(zf 0 ty44 rfl rfl(.skip(.skip(.skip(.take(.take(.take .nil)))))))<|zY rfl rfl(.c rfl(.c rfl .n))ce104(zrb(ex:=fx)(ey:=fy)(ez:=fz)(fx:=gx)(fy:=gy)(fz:=gz)(hbex:=by assumption)(hbey:=by assumption)(hbez:=by assumption)(hbfx:=by assumption)(hbfy:=by assumption)(hbfz:=by assumption))(.n)<|zS rfl rfl(zn zr44 rfl)(fun b24=> ?_)
     refine zx 0 rfl rfl rfl rfl rfl sz44 rfl(.take(.take(.take .nil))) .z<|zj<|zc<|zh<|za<|zea rfl rfl(.c rfl .n)ce45(zpa(z:=(0:Int))(hz:=by decide))(.n) ?_
     rintro w325 -
     dsimp only [List.append_eq,List.nil_append,List.cons_append]
     refine zS rfl rfl(zn zr34 rfl)(fun b26=> ?_)
     refine zx 0 rfl rfl rfl rfl rfl sz34 rfl(.take(.take .nil)) .z<|zj<|zc<|zh<|zh<|za<|r_pv rfl rfl(zb rfl)<|zj<|zc<|zr<|zSa<|zQ<|zh<|za<|r_pv rfl rfl(zD rfl rfl)<|zj<|zc<|zh<|zT rfl rfl<|zw<|zc<|zh<|zr<|zh<|za<|r_pv rfl rfl(zb rfl)<|r_pv rfl rfl(ze rfl)<|zj<|zc<|zla(OW:=[boxA b26 34 [w325.b,w325.l]])(O:=[boxA b24 44 [.int .i64(fy*gz - fz*gy),.int .i64(fz*gx - fx*gz),.int .i64(fx*gy - fy*gx)],boxA b23 136 [.int .i64 fx,.int .i64 fy,.int .i64 fz,.int .i64 gx,.int .i64 gy,.int .i64 gz],boxA b10 34 [w322.b,w322.l],boxA b8 44 [.int .i64(ey*fz - ez*fy),.int .i64(ez*fx - ex*fz),.int .i64(ex*fy - ey*fx)],boxA b7 136 [.int .i64 ex,.int .i64 ey,.int .i64 ez,.int .i64 fx,.int .i64 fy,.int .i64 fz],boxA u7_1 44 [.int .i64((fy - ey)*(gz - ez) - (fz - ez)*(gy - ey)),.int .i64((fz - ez)*(gx - ex) - (fx - ex)*(gz - ez)),.int .i64((fx - ex)*(gy - ey) - (fy - ey)*(gx - ex))],boxA b3 44 [.int .i64 gx,.int .i64 gy,.int .i64 gz],boxA b2 44 [.int .i64 fx,.int .i64 fy,.int .i64 fz],boxA b1 44 [.int .i64 ex,.int .i64 ey,.int .i64 ez]]) 11 mixed(.block(.then(.then(.block(.then(.block(.then(.then(.block(.then .ret))))))))))(by kernel_rfl)<|d_uw 0 rfl rfl(by kernel_rfl)(by kernel_rfl)(by kernel_rfl)rfl rfl(zf 0 ty34 rfl rfl(.take(.take .nil)))<|d_pv 1 rfl rfl(by kernel_rfl)(by kernel_rfl)rfl rfl(zb rfl)<|d_pv 2 rfl rfl(by kernel_rfl)(by kernel_rfl)rfl rfl(zg(i:=0)Try.underlying44 sz3 rfl rfl(by decide)rfl)<|d_uw 3 rfl rfl(by kernel_rfl)(by kernel_rfl)(by kernel_rfl)rfl rfl(zd 1 ty3 rfl rfl rfl)<|d_pv 5 rfl rfl(by kernel_rfl)(by kernel_rfl)rfl rfl(zb rfl)<|d_pv 6 rfl rfl(by kernel_rfl)(by kernel_rfl)rfl rfl(zg(i:=0)Try.underlying44 sz3 rfl rfl(by decide)rfl)<|d_uw 7 rfl rfl(by kernel_rfl)(by kernel_rfl)(by kernel_rfl)rfl rfl(zd 6 ty3 rfl rfl rfl)<|zE 4(by kernel_rfl)(zu rfl rfl rfl rfl(.c rfl .n)ce45(zpa(z:=(fy*gz - fz*gy))(hz:=by assumption))(.n) ?_)
     rintro w327 -
     dsimp only [List.append_eq,List.nil_append,List.cons_append]
     refine zE 8(by kernel_rfl)(zu rfl rfl rfl rfl(.c rfl .n)ce45(zpa(z:=((fy - ey)*(gz - ez) - (fz - ez)*(gy - ey)))(hz:=by assumption))(.n) ?_)
     rintro w328 -
     dsimp only [List.append_eq,List.nil_append,List.cons_append]
     refine zE 9(by kernel_rfl)(zu rfl rfl rfl rfl(.c rfl(.c rfl .n))ce97(zXa(w1:=w327)(w2:=w328)(x1:=(fy*gz - fz*gy))(x2:=((fy - ey)*(gz - ez) - (fz - ez)*(gy - ey)))(hb1:=by assumption)(hb2:=by assumption))(.c(j:=1)rfl(.c(j:=0)rfl .n)) ?_)
     rintro w329 -
     dsimp only [List.append_eq,List.nil_append,List.cons_append]
     refine zE 10(by kernel_rfl)(zu rfl rfl rfl rfl(.c rfl(.c rfl .n))ce62(zWa(w1:=w325)(w2:=w329)(x1:=(0:Int))(x2:=(fy*gz - fz*gy)*((fy - ey)*(gz - ez) - (fz - ez)*(gy - ey)))(hb1:=by assumption)(hb2:=by assumption))(.c(j:=3)rfl(.c(j:=0)rfl .n)) ?_)
     rintro w330 -
     dsimp only [List.append_eq,List.nil_append,List.cons_append]
     refine zE 11(by kernel_rfl)(zM(by kernel_rfl)rfl rfl rfl rfl rfl sz34 rfl(.take(.take .nil)) ?_)
     refine zma(by kernel_rfl)<|zA<|zc<|za<|r_pv rfl rfl(zC(z:=1)rfl rfl(w64(by decide)))<|r_pv rfl rfl(zb rfl)<|zj<|zba<|zQ<|zh<|za<|r_pv rfl rfl(zD rfl rfl)<|zj<|zc<|zh<|zT rfl rfl<|zw<|zc<|zh<|zr<|zh<|za<|r_pv rfl rfl(zb rfl)<|r_pv rfl rfl(ze rfl)<|zj<|zc<|zla(OW:=[boxA b26 34 [w330.b,w330.l]])(O:=[boxA b24 44 [.int .i64(fy*gz - fz*gy),.int .i64(fz*gx - fx*gz),.int .i64(fx*gy - fy*gx)],boxA b23 136 [.int .i64 fx,.int .i64 fy,.int .i64 fz,.int .i64 gx,.int .i64 gy,.int .i64 gz],boxA b10 34 [w322.b,w322.l],boxA b8 44 [.int .i64(ey*fz - ez*fy),.int .i64(ez*fx - ex*fz),.int .i64(ex*fy - ey*fx)],boxA b7 136 [.int .i64 ex,.int .i64 ey,.int .i64 ez,.int .i64 fx,.int .i64 fy,.int .i64 fz],boxA u7_1 44 [.int .i64((fy - ey)*(gz - ez) - (fz - ez)*(gy - ey)),.int .i64((fz - ez)*(gx - ex) - (fx - ex)*(gz - ez)),.int .i64((fx - ex)*(gy - ey) - (fy - ey)*(gx - ex))],boxA b3 44 [.int .i64 gx,.int .i64 gy,.int .i64 gz],boxA b2 44 [.int .i64 fx,.int .i64 fy,.int .i64 fz],boxA b1 44 [.int .i64 ex,.int .i64 ey,.int .i64 ez]]) 11 mixed(.block(.then(.then(.block(.then(.block(.then(.then(.block(.then .ret))))))))))(by kernel_rfl)<|d_uw 0 rfl rfl(by kernel_rfl)(by kernel_rfl)(by kernel_rfl)rfl rfl(zf 0 ty34 rfl rfl(.take(.take .nil)))<|d_pv 1 rfl rfl(by kernel_rfl)(by kernel_rfl)rfl rfl(zb rfl)<|d_pv 2 rfl rfl(by kernel_rfl)(by kernel_rfl)rfl rfl(zg(i:=1)Try.underlying44 sz3 rfl rfl(by decide)rfl)<|d_uw 3 rfl rfl(by kernel_rfl)(by kernel_rfl)(by kernel_rfl)rfl rfl(zd 1 ty3 rfl rfl rfl)<|d_pv 5 rfl rfl(by kernel_rfl)(by kernel_rfl)rfl rfl(zb rfl)<|d_pv 6 rfl rfl(by kernel_rfl)(by kernel_rfl)rfl rfl(zg(i:=1)Try.underlying44 sz3 rfl rfl(by decide)rfl)<|d_uw 7 rfl rfl(by kernel_rfl)(by kernel_rfl)(by kernel_rfl)rfl rfl(zd 6 ty3 rfl rfl rfl)<|zE 4(by kernel_rfl)(zu rfl rfl rfl rfl(.c rfl .n)ce45(zpa(z:=(fz*gx - fx*gz))(hz:=by assumption))(.n) ?_)
     rintro w331 -
     dsimp only [List.append_eq,List.nil_append,List.cons_append]
     refine zE 8(by kernel_rfl)(zu rfl rfl rfl rfl(.c rfl .n)ce45(zpa(z:=((fz - ez)*(gx - ex) - (fx - ex)*(gz - ez)))(hz:=by assumption))(.n) ?_)
     rintro w332 -
     dsimp only [List.append_eq,List.nil_append,List.cons_append]
     refine zE 9(by kernel_rfl)(zu rfl rfl rfl rfl(.c rfl(.c rfl .n))ce97(zXa(w1:=w331)(w2:=w332)(x1:=(fz*gx - fx*gz))(x2:=((fz - ez)*(gx - ex) - (fx - ex)*(gz - ez)))(hb1:=by assumption)(hb2:=by assumption))(.c(j:=1)rfl(.c(j:=0)rfl .n)) ?_)
     rintro w333 -
     dsimp only [List.append_eq,List.nil_append,List.cons_append]
     refine zE 10(by kernel_rfl)(zu rfl rfl rfl rfl(.c rfl(.c rfl .n))ce62(zWa(w1:=w330)(w2:=w333)(x1:=(0:Int)+((fy*gz - fz*gy)*((fy - ey)*(gz - ez) - (fz - ez)*(gy - ey))))(x2:=(fz*gx - fx*gz)*((fz - ez)*(gx - ex) - (fx - ex)*(gz - ez)))(hb1:=by assumption)(hb2:=by assumption))(.c(j:=3)rfl(.c(j:=0)rfl .n)) ?_)
     rintro w334 -
     dsimp only [List.append_eq,List.nil_append,List.cons_append]
     refine zE 11(by kernel_rfl)(zM(by kernel_rfl)rfl rfl rfl rfl rfl sz34 rfl(.take(.take .nil)) ?_)
     refine zma(by kernel_rfl)<|zA<|zc<|za<|r_pv rfl rfl(zC(z:=2)rfl rfl(w64(by decide)))<|r_pv rfl rfl(zb rfl)<|zj<|zba<|zQ<|zh<|za<|r_pv rfl rfl(zD rfl rfl)<|zj<|zc<|zh<|zT rfl rfl<|zw<|zc<|zh<|zr<|zh<|za<|r_pv rfl rfl(zb rfl)<|r_pv rfl rfl(ze rfl)<|zj<|zc<|zla(OW:=[boxA b26 34 [w334.b,w334.l]])(O:=[boxA b24 44 [.int .i64(fy*gz - fz*gy),.int .i64(fz*gx - fx*gz),.int .i64(fx*gy - fy*gx)],boxA b23 136 [.int .i64 fx,.int .i64 fy,.int .i64 fz,.int .i64 gx,.int .i64 gy,.int .i64 gz],boxA b10 34 [w322.b,w322.l],boxA b8 44 [.int .i64(ey*fz - ez*fy),.int .i64(ez*fx - ex*fz),.int .i64(ex*fy - ey*fx)],boxA b7 136 [.int .i64 ex,.int .i64 ey,.int .i64 ez,.int .i64 fx,.int .i64 fy,.int .i64 fz],boxA u7_1 44 [.int .i64((fy - ey)*(gz - ez) - (fz - ez)*(gy - ey)),.int .i64((fz - ez)*(gx - ex) - (fx - ex)*(gz - ez)),.int .i64((fx - ex)*(gy - ey) - (fy - ey)*(gx - ex))],boxA b3 44 [.int .i64 gx,.int .i64 gy,.int .i64 gz],boxA b2 44 [.int .i64 fx,.int .i64 fy,.int .i64 fz],boxA b1 44 [.int .i64 ex,.int .i64 ey,.int .i64 ez]]) 11 mixed(.block(.then(.then(.block(.then(.block(.then(.then(.block(.then .ret))))))))))(by kernel_rfl)<|d_uw 0 rfl rfl(by kernel_rfl)(by kernel_rfl)(by kernel_rfl)rfl rfl(zf 0 ty34 rfl rfl(.take(.take .nil)))<|d_pv 1 rfl rfl(by kernel_rfl)(by kernel_rfl)rfl rfl(zb rfl)<|d_pv 2 rfl rfl(by kernel_rfl)(by kernel_rfl)rfl rfl(zg(i:=2)Try.underlying44 sz3 rfl rfl(by decide)rfl)<|d_uw 3 rfl rfl(by kernel_rfl)(by kernel_rfl)(by kernel_rfl)rfl rfl(zd 1 ty3 rfl rfl rfl)<|d_pv 5 rfl rfl(by kernel_rfl)(by kernel_rfl)rfl rfl(zb rfl)<|d_pv 6 rfl rfl(by kernel_rfl)(by kernel_rfl)rfl rfl(zg(i:=2)Try.underlying44 sz3 rfl rfl(by decide)rfl)<|d_uw 7 rfl rfl(by kernel_rfl)(by kernel_rfl)(by kernel_rfl)rfl rfl(zd 6 ty3 rfl rfl rfl)<|zE 4(by kernel_rfl)(zu rfl rfl rfl rfl(.c rfl .n)ce45(zpa(z:=(fx*gy - fy*gx))(hz:=by assumption))(.n) ?_)
     rintro w335 -
     dsimp only [List.append_eq,List.nil_append,List.cons_append]
     refine zE 8(by kernel_rfl)(zu rfl rfl rfl rfl(.c rfl .n)ce45(zpa(z:=((fx - ex)*(gy - ey) - (fy - ey)*(gx - ex)))(hz:=by assumption))(.n) ?_)
     rintro w336 -
     dsimp only [List.append_eq,List.nil_append,List.cons_append]
     refine zE 9(by kernel_rfl)(zu rfl rfl rfl rfl(.c rfl(.c rfl .n))ce97(zXa(w1:=w335)(w2:=w336)(x1:=(fx*gy - fy*gx))(x2:=((fx - ex)*(gy - ey) - (fy - ey)*(gx - ex)))(hb1:=by assumption)(hb2:=by assumption))(.c(j:=1)rfl(.c(j:=0)rfl .n)) ?_)
     rintro w337 -
     dsimp only [List.append_eq,List.nil_append,List.cons_append]
     refine zE 10(by kernel_rfl)(zu rfl rfl rfl rfl(.c rfl(.c rfl .n))ce62(zWa(w1:=w334)(w2:=w337)(x1:=((0:Int)+((fy*gz - fz*gy)*((fy - ey)*(gz - ez) - (fz - ez)*(gy - ey))))+((fz*gx - fx*gz)*((fz - ez)*(gx - ex) - (fx - ex)*(gz - ez))))(x2:=(fx*gy - fy*gx)*((fx - ex)*(gy - ey) - (fy - ey)*(gx - ex)))(hb1:=by assumption)(hb2:=by assumption))(.c(j:=3)rfl(.c(j:=0)rfl .n)) ?_)
     rintro w338 -
     dsimp only [List.append_eq,List.nil_append,List.cons_append]
     refine zE 11(by kernel_rfl)(zM(by kernel_rfl)rfl rfl rfl rfl rfl sz34 rfl(.take(.take .nil)) ?_)
     refine zma(by kernel_rfl)<|zA<|zc<|za<|r_pv rfl rfl(zC(z:=3)rfl rfl(w64(by decide)))<|r_pv rfl rfl(zb rfl)<|zj<|zba<|zQ<|zh<|za<|r_pv rfl rfl(zD rfl rfl)<|zj<|zc<|zh<|zva rfl rfl<|zaa<|zk<|zk<|zt<|zc<|zh<|za<|r_u rfl rfl(zf 0 ty34 rfl rfl(.take(.take .nil)))<|zY rfl rfl(.c rfl .n)ce83(zNa(w1:=w338)(x1:=(((0:Int)+((fy*gz - fz*gy)*((fy - ey)*(gz - ez) - (fz - ez)*(gy - ey))))+((fz*gx - fx*gz)*((fz - ez)*(gx - ex) - (fx - ex)*(gz - ez))))+((fx*gy - fy*gx)*((fx - ex)*(gy - ey) - (fy - ey)*(gx - ex))))(hln:=by assumption))(.c(j:=0)rfl .n)<|r_pv rfl rfl(zD rfl rfl)<|zj<|zc<|zI rfl(fun hng=> ?_)(fun hng=> ?_)
     ·
      refine zh<|za<|r_pv rfl rfl(ze rfl)<|zj<|zc<|zP<|zq<|zl<|zl<|zq<|zl ?_
      exact zG Try.results82()trivial(zz rfl)(congrArg Value.bool(Ms.on_3b(Decidable.not_not.1 hdet)hz hng))(ho:=(.n:PickO _ _ _))(.n:SelR _ _ _)
     ·
      have hng1:=hng
      refine zw<|zA<|zc<|za<|r_pv rfl rfl(zC(z:=2)rfl rfl(w64(by decide)))<|r_pv rfl rfl(zb rfl)<|zj<|zba<|zQ<|zh<|za<|r_pv rfl rfl(zD rfl rfl)<|zj<|zc<|zh<|zT rfl rfl<|zw<|zc<|zh<|zr<|zh<|za<|r_pv rfl rfl(zza(i:=2)Try.underlying137 ty136 rfl rfl(by decide)(.skip(.skip(.skip(.skip(.skip(.skip(.skip(.skip(.skip(.skip(.skip(.skip(.take(.take(.take(.take(.take(.take .nil)))))))))))))))))))<|zS rfl rfl(zn zr136 rfl)(fun b39=> ?_)
      refine zx 0 rfl rfl rfl rfl rfl sz136 rfl(.take(.take(.take(.take(.take(.take .nil)))))) .z<|zj<|zc<|zh<|za<|r_pv rfl rfl(zg(i:=0)Try.underlying136 sz44 rfl rfl(by decide)rfl)<|r_u rfl rfl(zf 0 ty44 rfl rfl(.take(.take(.take .nil))))<|r_pv rfl rfl(zg(i:=1)Try.underlying136 sz44 rfl rfl(by decide)rfl)<|r_u rfl rfl(zf 0 ty44 rfl rfl(.skip(.skip(.skip(.take(.take(.take .nil)))))))<|zY rfl rfl(.c rfl(.c rfl .n))ce104(zrb(ex:=gx)(ey:=gy)(ez:=gz)(fx:=ex)(fy:=ey)(fz:=ez)(hbex:=by assumption)(hbey:=by assumption)(hbez:=by assumption)(hbfx:=by assumption)(hbfy:=by assumption)(hbfz:=by assumption))(.n)<|zS rfl rfl(zn zr44 rfl)(fun b40=> ?_)
      refine zx 0 rfl rfl rfl rfl rfl sz44 rfl(.take(.take(.take .nil))) .z<|zj<|zc<|zh<|za<|zea rfl rfl(.c rfl .n)ce45(zpa(z:=(0:Int))(hz:=by decide))(.n) ?_
      rintro w341 -
      dsimp only [List.append_eq,List.nil_append,List.cons_append]
      refine zS rfl rfl(zn zr34 rfl)(fun b42=> ?_)
      refine zx 0 rfl rfl rfl rfl rfl sz34 rfl(.take(.take .nil)) .z<|zj<|zc<|zh<|zh<|za<|r_pv rfl rfl(zb rfl)<|zj<|zc<|zr<|zSa<|zQ<|zh<|za<|r_pv rfl rfl(zD rfl rfl)<|zj<|zc<|zh<|zT rfl rfl<|zw<|zc<|zh<|zr<|zh<|za<|r_pv rfl rfl(zb rfl)<|r_pv rfl rfl(ze rfl)<|zj<|zc<|zla(OW:=[boxA b42 34 [w341.b,w341.l]])(O:=[boxA b40 44 [.int .i64(gy*ez - gz*ey),.int .i64(gz*ex - gx*ez),.int .i64(gx*ey - gy*ex)],boxA b39 136 [.int .i64 gx,.int .i64 gy,.int .i64 gz,.int .i64 ex,.int .i64 ey,.int .i64 ez],boxA b26 34 [w338.b,w338.l],boxA b24 44 [.int .i64(fy*gz - fz*gy),.int .i64(fz*gx - fx*gz),.int .i64(fx*gy - fy*gx)],boxA b23 136 [.int .i64 fx,.int .i64 fy,.int .i64 fz,.int .i64 gx,.int .i64 gy,.int .i64 gz],boxA b10 34 [w322.b,w322.l],boxA b8 44 [.int .i64(ey*fz - ez*fy),.int .i64(ez*fx - ex*fz),.int .i64(ex*fy - ey*fx)],boxA b7 136 [.int .i64 ex,.int .i64 ey,.int .i64 ez,.int .i64 fx,.int .i64 fy,.int .i64 fz],boxA u7_1 44 [.int .i64((fy - ey)*(gz - ez) - (fz - ez)*(gy - ey)),.int .i64((fz - ez)*(gx - ex) - (fx - ex)*(gz - ez)),.int .i64((fx - ex)*(gy - ey) - (fy - ey)*(gx - ex))],boxA b3 44 [.int .i64 gx,.int .i64 gy,.int .i64 gz],boxA b2 44 [.int .i64 fx,.int .i64 fy,.int .i64 fz],boxA b1 44 [.int .i64 ex,.int .i64 ey,.int .i64 ez]]) 11 mixed(.block(.then(.then(.block(.then(.block(.then(.then(.block(.then .ret))))))))))(by kernel_rfl)<|d_uw 0 rfl rfl(by kernel_rfl)(by kernel_rfl)(by kernel_rfl)rfl rfl(zf 0 ty34 rfl rfl(.take(.take .nil)))<|d_pv 1 rfl rfl(by kernel_rfl)(by kernel_rfl)rfl rfl(zb rfl)<|d_pv 2 rfl rfl(by kernel_rfl)(by kernel_rfl)rfl rfl(zg(i:=0)Try.underlying44 sz3 rfl rfl(by decide)rfl)<|d_uw 3 rfl rfl(by kernel_rfl)(by kernel_rfl)(by kernel_rfl)rfl rfl(zd 1 ty3 rfl rfl rfl)<|d_pv 5 rfl rfl(by kernel_rfl)(by kernel_rfl)rfl rfl(zb rfl)<|d_pv 6 rfl rfl(by kernel_rfl)(by kernel_rfl)rfl rfl(zg(i:=0)Try.underlying44 sz3 rfl rfl(by decide)rfl)<|d_uw 7 rfl rfl(by kernel_rfl)(by kernel_rfl)(by kernel_rfl)rfl rfl(zd 9 ty3 rfl rfl rfl)<|zE 4(by kernel_rfl)(zu rfl rfl rfl rfl(.c rfl .n)ce45(zpa(z:=(gy*ez - gz*ey))(hz:=by assumption))(.n) ?_)
      rintro w343 -
      dsimp only [List.append_eq,List.nil_append,List.cons_append]
      refine zE 8(by kernel_rfl)(zu rfl rfl rfl rfl(.c rfl .n)ce45(zpa(z:=((fy - ey)*(gz - ez) - (fz - ez)*(gy - ey)))(hz:=by assumption))(.n) ?_)
      rintro w344 -
      dsimp only [List.append_eq,List.nil_append,List.cons_append]
      refine zE 9(by kernel_rfl)(zu rfl rfl rfl rfl(.c rfl(.c rfl .n))ce97(zXa(w1:=w343)(w2:=w344)(x1:=(gy*ez - gz*ey))(x2:=((fy - ey)*(gz - ez) - (fz - ez)*(gy - ey)))(hb1:=by assumption)(hb2:=by assumption))(.c(j:=1)rfl(.c(j:=0)rfl .n)) ?_)
      rintro w345 -
      dsimp only [List.append_eq,List.nil_append,List.cons_append]
      refine zE 10(by kernel_rfl)(zu rfl rfl rfl rfl(.c rfl(.c rfl .n))ce62(zWa(w1:=w341)(w2:=w345)(x1:=(0:Int))(x2:=(gy*ez - gz*ey)*((fy - ey)*(gz - ez) - (fz - ez)*(gy - ey)))(hb1:=by assumption)(hb2:=by assumption))(.c(j:=3)rfl(.c(j:=0)rfl .n)) ?_)
      rintro w346 -
      dsimp only [List.append_eq,List.nil_append,List.cons_append]
      refine zE 11(by kernel_rfl)(zM(by kernel_rfl)rfl rfl rfl rfl rfl sz34 rfl(.take(.take .nil)) ?_)
      refine zma(by kernel_rfl)<|zA<|zc<|za<|r_pv rfl rfl(zC(z:=1)rfl rfl(w64(by decide)))<|r_pv rfl rfl(zb rfl)<|zj<|zba<|zQ<|zh<|za<|r_pv rfl rfl(zD rfl rfl)<|zj<|zc<|zh<|zT rfl rfl<|zw<|zc<|zh<|zr<|zh<|za<|r_pv rfl rfl(zb rfl)<|r_pv rfl rfl(ze rfl)<|zj<|zc<|zla(OW:=[boxA b42 34 [w346.b,w346.l]])(O:=[boxA b40 44 [.int .i64(gy*ez - gz*ey),.int .i64(gz*ex - gx*ez),.int .i64(gx*ey - gy*ex)],boxA b39 136 [.int .i64 gx,.int .i64 gy,.int .i64 gz,.int .i64 ex,.int .i64 ey,.int .i64 ez],boxA b26 34 [w338.b,w338.l],boxA b24 44 [.int .i64(fy*gz - fz*gy),.int .i64(fz*gx - fx*gz),.int .i64(fx*gy - fy*gx)],boxA b23 136 [.int .i64 fx,.int .i64 fy,.int .i64 fz,.int .i64 gx,.int .i64 gy,.int .i64 gz],boxA b10 34 [w322.b,w322.l],boxA b8 44 [.int .i64(ey*fz - ez*fy),.int .i64(ez*fx - ex*fz),.int .i64(ex*fy - ey*fx)],boxA b7 136 [.int .i64 ex,.int .i64 ey,.int .i64 ez,.int .i64 fx,.int .i64 fy,.int .i64 fz],boxA u7_1 44 [.int .i64((fy - ey)*(gz - ez) - (fz - ez)*(gy - ey)),.int .i64((fz - ez)*(gx - ex) - (fx - ex)*(gz - ez)),.int .i64((fx - ex)*(gy - ey) - (fy - ey)*(gx - ex))],boxA b3 44 [.int .i64 gx,.int .i64 gy,.int .i64 gz],boxA b2 44 [.int .i64 fx,.int .i64 fy,.int .i64 fz],boxA b1 44 [.int .i64 ex,.int .i64 ey,.int .i64 ez]]) 11 mixed(.block(.then(.then(.block(.then(.block(.then(.then(.block(.then .ret))))))))))(by kernel_rfl)<|d_uw 0 rfl rfl(by kernel_rfl)(by kernel_rfl)(by kernel_rfl)rfl rfl(zf 0 ty34 rfl rfl(.take(.take .nil)))<|d_pv 1 rfl rfl(by kernel_rfl)(by kernel_rfl)rfl rfl(zb rfl)<|d_pv 2 rfl rfl(by kernel_rfl)(by kernel_rfl)rfl rfl(zg(i:=1)Try.underlying44 sz3 rfl rfl(by decide)rfl)<|d_uw 3 rfl rfl(by kernel_rfl)(by kernel_rfl)(by kernel_rfl)rfl rfl(zd 1 ty3 rfl rfl rfl)<|d_pv 5 rfl rfl(by kernel_rfl)(by kernel_rfl)rfl rfl(zb rfl)<|d_pv 6 rfl rfl(by kernel_rfl)(by kernel_rfl)rfl rfl(zg(i:=1)Try.underlying44 sz3 rfl rfl(by decide)rfl)<|d_uw 7 rfl rfl(by kernel_rfl)(by kernel_rfl)(by kernel_rfl)rfl rfl(zd 9 ty3 rfl rfl rfl)<|zE 4(by kernel_rfl)(zu rfl rfl rfl rfl(.c rfl .n)ce45(zpa(z:=(gz*ex - gx*ez))(hz:=by assumption))(.n) ?_)
      rintro w347 -
      dsimp only [List.append_eq,List.nil_append,List.cons_append]
      refine zE 8(by kernel_rfl)(zu rfl rfl rfl rfl(.c rfl .n)ce45(zpa(z:=((fz - ez)*(gx - ex) - (fx - ex)*(gz - ez)))(hz:=by assumption))(.n) ?_)
      rintro w348 -
      dsimp only [List.append_eq,List.nil_append,List.cons_append]
      refine zE 9(by kernel_rfl)(zu rfl rfl rfl rfl(.c rfl(.c rfl .n))ce97(zXa(w1:=w347)(w2:=w348)(x1:=(gz*ex - gx*ez))(x2:=((fz - ez)*(gx - ex) - (fx - ex)*(gz - ez)))(hb1:=by assumption)(hb2:=by assumption))(.c(j:=1)rfl(.c(j:=0)rfl .n)) ?_)
      rintro w349 -
      dsimp only [List.append_eq,List.nil_append,List.cons_append]
      refine zE 10(by kernel_rfl)(zu rfl rfl rfl rfl(.c rfl(.c rfl .n))ce62(zWa(w1:=w346)(w2:=w349)(x1:=(0:Int)+((gy*ez - gz*ey)*((fy - ey)*(gz - ez) - (fz - ez)*(gy - ey))))(x2:=(gz*ex - gx*ez)*((fz - ez)*(gx - ex) - (fx - ex)*(gz - ez)))(hb1:=by assumption)(hb2:=by assumption))(.c(j:=3)rfl(.c(j:=0)rfl .n)) ?_)
      rintro w350 -
      dsimp only [List.append_eq,List.nil_append,List.cons_append]
      refine zE 11(by kernel_rfl)(zM(by kernel_rfl)rfl rfl rfl rfl rfl sz34 rfl(.take(.take .nil)) ?_)
      refine zma(by kernel_rfl)<|zA<|zc<|za<|r_pv rfl rfl(zC(z:=2)rfl rfl(w64(by decide)))<|r_pv rfl rfl(zb rfl)<|zj<|zba<|zQ<|zh<|za<|r_pv rfl rfl(zD rfl rfl)<|zj<|zc<|zh<|zT rfl rfl<|zw<|zc<|zh<|zr<|zh<|za<|r_pv rfl rfl(zb rfl)<|r_pv rfl rfl(ze rfl)<|zj<|zc<|zla(OW:=[boxA b42 34 [w350.b,w350.l]])(O:=[boxA b40 44 [.int .i64(gy*ez - gz*ey),.int .i64(gz*ex - gx*ez),.int .i64(gx*ey - gy*ex)],boxA b39 136 [.int .i64 gx,.int .i64 gy,.int .i64 gz,.int .i64 ex,.int .i64 ey,.int .i64 ez],boxA b26 34 [w338.b,w338.l],boxA b24 44 [.int .i64(fy*gz - fz*gy),.int .i64(fz*gx - fx*gz),.int .i64(fx*gy - fy*gx)],boxA b23 136 [.int .i64 fx,.int .i64 fy,.int .i64 fz,.int .i64 gx,.int .i64 gy,.int .i64 gz],boxA b10 34 [w322.b,w322.l],boxA b8 44 [.int .i64(ey*fz - ez*fy),.int .i64(ez*fx - ex*fz),.int .i64(ex*fy - ey*fx)],boxA b7 136 [.int .i64 ex,.int .i64 ey,.int .i64 ez,.int .i64 fx,.int .i64 fy,.int .i64 fz],boxA u7_1 44 [.int .i64((fy - ey)*(gz - ez) - (fz - ez)*(gy - ey)),.int .i64((fz - ez)*(gx - ex) - (fx - ex)*(gz - ez)),.int .i64((fx - ex)*(gy - ey) - (fy - ey)*(gx - ex))],boxA b3 44 [.int .i64 gx,.int .i64 gy,.int .i64 gz],boxA b2 44 [.int .i64 fx,.int .i64 fy,.int .i64 fz],boxA b1 44 [.int .i64 ex,.int .i64 ey,.int .i64 ez]]) 11 mixed(.block(.then(.then(.block(.then(.block(.then(.then(.block(.then .ret))))))))))(by kernel_rfl)<|d_uw 0 rfl rfl(by kernel_rfl)(by kernel_rfl)(by kernel_rfl)rfl rfl(zf 0 ty34 rfl rfl(.take(.take .nil)))<|d_pv 1 rfl rfl(by kernel_rfl)(by kernel_rfl)rfl rfl(zb rfl)<|d_pv 2 rfl rfl(by kernel_rfl)(by kernel_rfl)rfl rfl(zg(i:=2)Try.underlying44 sz3 rfl rfl(by decide)rfl)<|d_uw 3 rfl rfl(by kernel_rfl)(by kernel_rfl)(by kernel_rfl)rfl rfl(zd 1 ty3 rfl rfl rfl)<|d_pv 5 rfl rfl(by kernel_rfl)(by kernel_rfl)rfl rfl(zb rfl)<|d_pv 6 rfl rfl(by kernel_rfl)(by kernel_rfl)rfl rfl(zg(i:=2)Try.underlying44 sz3 rfl rfl(by decide)rfl)<|d_uw 7 rfl rfl(by kernel_rfl)(by kernel_rfl)(by kernel_rfl)rfl rfl(zd 9 ty3 rfl rfl rfl)<|zE 4(by kernel_rfl)(zu rfl rfl rfl rfl(.c rfl .n)ce45(zpa(z:=(gx*ey - gy*ex))(hz:=by assumption))(.n) ?_)
      rintro w351 -
      dsimp only [List.append_eq,List.nil_append,List.cons_append]
      refine zE 8(by kernel_rfl)(zu rfl rfl rfl rfl(.c rfl .n)ce45(zpa(z:=((fx - ex)*(gy - ey) - (fy - ey)*(gx - ex)))(hz:=by assumption))(.n) ?_)
      rintro w352 -
      dsimp only [List.append_eq,List.nil_append,List.cons_append]
      refine zE 9(by kernel_rfl)(zu rfl rfl rfl rfl(.c rfl(.c rfl .n))ce97(zXa(w1:=w351)(w2:=w352)(x1:=(gx*ey - gy*ex))(x2:=((fx - ex)*(gy - ey) - (fy - ey)*(gx - ex)))(hb1:=by assumption)(hb2:=by assumption))(.c(j:=1)rfl(.c(j:=0)rfl .n)) ?_)
      rintro w353 -
      dsimp only [List.append_eq,List.nil_append,List.cons_append]
      refine zE 10(by kernel_rfl)(zu rfl rfl rfl rfl(.c rfl(.c rfl .n))ce62(zWa(w1:=w350)(w2:=w353)(x1:=((0:Int)+((gy*ez - gz*ey)*((fy - ey)*(gz - ez) - (fz - ez)*(gy - ey))))+((gz*ex - gx*ez)*((fz - ez)*(gx - ex) - (fx - ex)*(gz - ez))))(x2:=(gx*ey - gy*ex)*((fx - ex)*(gy - ey) - (fy - ey)*(gx - ex)))(hb1:=by assumption)(hb2:=by assumption))(.c(j:=3)rfl(.c(j:=0)rfl .n)) ?_)
      rintro w354 -
      dsimp only [List.append_eq,List.nil_append,List.cons_append]
      refine zE 11(by kernel_rfl)(zM(by kernel_rfl)rfl rfl rfl rfl rfl sz34 rfl(.take(.take .nil)) ?_)
      refine zma(by kernel_rfl)<|zA<|zc<|za<|r_pv rfl rfl(zC(z:=3)rfl rfl(w64(by decide)))<|r_pv rfl rfl(zb rfl)<|zj<|zba<|zQ<|zh<|za<|r_pv rfl rfl(zD rfl rfl)<|zj<|zc<|zh<|zva rfl rfl<|zaa<|zk<|zk<|zt<|zc<|zh<|za<|r_u rfl rfl(zf 0 ty34 rfl rfl(.take(.take .nil)))<|zY rfl rfl(.c rfl .n)ce83(zNa(w1:=w354)(x1:=(((0:Int)+((gy*ez - gz*ey)*((fy - ey)*(gz - ez) - (fz - ez)*(gy - ey))))+((gz*ex - gx*ez)*((fz - ez)*(gx - ex) - (fx - ex)*(gz - ez))))+((gx*ey - gy*ex)*((fx - ex)*(gy - ey) - (fy - ey)*(gx - ex))))(hln:=by assumption))(.c(j:=0)rfl .n)<|r_pv rfl rfl(zD rfl rfl)<|zj<|zc<|zI rfl(fun hng=> ?_)(fun hng=> ?_)
      ·
       refine zh<|za<|r_pv rfl rfl(ze rfl)<|zj<|zc<|zP<|zq<|zl<|zl<|zq<|zl ?_
       exact zG Try.results82()trivial(zz rfl)(congrArg Value.bool(Ms.on_3c(Decidable.not_not.1 hdet)hz hng))(ho:=(.n:PickO _ _ _))(.n:SelR _ _ _)
      ·
       have hng2:=hng
       refine zw<|zA<|zc<|za<|r_pv rfl rfl(zC(z:=3)rfl rfl(w64(by decide)))<|r_pv rfl rfl(zb rfl)<|zj<|zba<|zQ<|zh<|za<|r_pv rfl rfl(zD rfl rfl)<|zj<|zc<|zh<|zva rfl rfl<|zaa<|zk<|zk<|zt<|zc<|zh<|za<|r_pv rfl rfl(ze rfl)<|zj<|zc<|zP ?_
       exact zG Try.results82()trivial(zz rfl)(congrArg Value.bool(Ms.on_4(Decidable.not_not.1 hdet)hz hng0 hng1 hng2))(ho:=(.n:PickO _ _ _))(.n:SelR _ _ _)
  refine zL(X:=Nat)(k':=1)(L':=(lb 9 255))(fun u7_1=>([(7,.pointer(some⟨u7_1,0,none⟩)),(25,.agg#[.int .i64((fy - ey)*(gz - ez) - (fz - ez)*(gy - ey)),.int .i64((fz - ez)*(gx - ex) - (fx - ex)*(gz - ez)),.int .i64((fx - ex)*(gy - ey) - (fy - ey)*(gx - ex))]),(6,.bool false),(5,.pointer(some⟨b3,0,none⟩)),(4,.pointer(some⟨b2,0,none⟩)),(3,.pointer(some⟨b1,0,none⟩))],[boxA u7_1 44 [.int .i64 0,.int .i64 0,.int .i64 0]],[boxA b3 44 [.int .i64 gx,.int .i64 gy,.int .i64 gz],boxA b2 44 [.int .i64 fx,.int .i64 fy,.int .i64 fz],boxA b1 44 [.int .i64 ex,.int .i64 ey,.int .i64 ez]],[zF w34(Ms.det(ex,ey,ez)(fx,fy,fz)(gx,gy,gz))])) ?_(fun hD1=> ?_)
  ·
   rintro u7_1
   dsimp only
   refine zE 8(by kernel_rfl) ?_
   ·
    refine zM(by kernel_rfl)rfl rfl rfl rfl rfl sz44 rfl(.take(.take(.take .nil))) ?_
    exact zp(hD0 u7_1)(by kernel_rfl)((.of rfl):SubM _ _) .rfl .rfl((.c(j:=0)rfl .n):SelR _ _ _)
  refine zL(X:=Unit)(k':=2)(L':=(lb 9 127))(fun _=>([(25,.agg#[.int .i64((fy - ey)*(gz - ez) - (fz - ez)*(gy - ey)),.int .i64((fz - ez)*(gx - ex) - (fx - ex)*(gz - ez)),.int .i64((fx - ex)*(gy - ey) - (fy - ey)*(gx - ex))]),(6,.bool false),(5,.pointer(some⟨b3,0,none⟩)),(4,.pointer(some⟨b2,0,none⟩)),(3,.pointer(some⟨b1,0,none⟩))],[],[boxA b3 44 [.int .i64 gx,.int .i64 gy,.int .i64 gz],boxA b2 44 [.int .i64 fx,.int .i64 fy,.int .i64 fz],boxA b1 44 [.int .i64 ex,.int .i64 ey,.int .i64 ez]],[zF w34(Ms.det(ex,ey,ez)(fx,fy,fz)(gx,gy,gz))])) ?_(fun hD2=> ?_)
  ·
   rintro ⟨⟩
   dsimp only
   refine zE 7(by kernel_rfl) ?_
   ·
    refine zO rfl rfl rfl rfl(zn zr44 rfl)(fun u7_1 _=> ?_)
    exact zp(hD1 u7_1)(by kernel_rfl)((.of rfl):SubM _ _) .rfl .rfl((.c(j:=0)rfl .n):SelR _ _ _)
  refine zL(X:=Nat)(k':=2)(L':=(lb 9 191))(fun u7_1=>([(7,.pointer(some⟨u7_1,0,none⟩)),(24,.agg#[.int .i64(gx - ex),.int .i64(gy - ey),.int .i64(gz - ez)]),(21,.agg#[.int .i64(fx - ex),.int .i64(fy - ey),.int .i64(fz - ez)]),(6,.bool false),(5,.pointer(some⟨b3,0,none⟩)),(4,.pointer(some⟨b2,0,none⟩)),(3,.pointer(some⟨b1,0,none⟩))],[boxA u7_1 44 [.int .i64 0,.int .i64 0,.int .i64 0]],[boxA b3 44 [.int .i64 gx,.int .i64 gy,.int .i64 gz],boxA b2 44 [.int .i64 fx,.int .i64 fy,.int .i64 fz],boxA b1 44 [.int .i64 ex,.int .i64 ey,.int .i64 ez]],[zF w34(Ms.det(ex,ey,ez)(fx,fy,fz)(gx,gy,gz))])) ?_(fun hD3=> ?_)
  ·
   rintro u7_1
   dsimp only
   refine zE 6(by kernel_rfl) ?_
   ·
    refine zqa rfl rfl rfl rfl(.c rfl(.c rfl .n))ce104(zrb(ex:=(fx - ex))(ey:=(fy - ey))(ez:=(fz - ez))(fx:=(gx - ex))(fy:=(gy - ey))(fz:=(gz - ez))(hbex:=by assumption)(hbey:=by assumption)(hbez:=by assumption)(hbfx:=by assumption)(hbfy:=by assumption)(hbfz:=by assumption))(.n) ?_
    exact zp(hD1 u7_1)(by kernel_rfl)((.of rfl):SubM _ _) .rfl .rfl((.c(j:=0)rfl .n):SelR _ _ _)
  refine zL(X:=Unit)(k':=3)(L':=(lb 9 63))(fun _=>([(24,.agg#[.int .i64(gx - ex),.int .i64(gy - ey),.int .i64(gz - ez)]),(21,.agg#[.int .i64(fx - ex),.int .i64(fy - ey),.int .i64(fz - ez)]),(6,.bool false),(5,.pointer(some⟨b3,0,none⟩)),(4,.pointer(some⟨b2,0,none⟩)),(3,.pointer(some⟨b1,0,none⟩))],[],[boxA b3 44 [.int .i64 gx,.int .i64 gy,.int .i64 gz],boxA b2 44 [.int .i64 fx,.int .i64 fy,.int .i64 fz],boxA b1 44 [.int .i64 ex,.int .i64 ey,.int .i64 ez]],[zF w34(Ms.det(ex,ey,ez)(fx,fy,fz)(gx,gy,gz))])) ?_(fun hD4=> ?_)
  ·
   rintro ⟨⟩
   dsimp only
   refine zMa 6 7(by kernel_rfl) ?_ ?_
   ·
    refine zqa rfl rfl rfl rfl(.c rfl(.c rfl .n))ce104(zrb(ex:=(fx - ex))(ey:=(fy - ey))(ez:=(fz - ez))(fx:=(gx - ex))(fy:=(gy - ey))(fz:=(gz - ez))(hbex:=by assumption)(hbey:=by assumption)(hbez:=by assumption)(hbfx:=by assumption)(hbfy:=by assumption)(hbfz:=by assumption))(.n) ?_
    exact zp(hD2())(by kernel_rfl)((.of rfl):SubM _ _) .rfl .rfl((.c(j:=0)rfl .n):SelR _ _ _)
   ·
    refine zO rfl rfl rfl rfl(zn zr44 rfl)(fun u7_1 _=> ?_)
    exact zp(hD3 u7_1)(by kernel_rfl)((.of rfl):SubM _ _) .rfl .rfl((.c(j:=0)rfl .n):SelR _ _ _)
  refine zL(X:=Nat)(k':=3)(L':=(lb 9 159))(fun u7_1=>([(7,.pointer(some⟨u7_1,0,none⟩)),(21,.agg#[.int .i64(fx - ex),.int .i64(fy - ey),.int .i64(fz - ez)]),(23,.agg#[.int .i64 ex,.int .i64 ey,.int .i64 ez]),(22,.agg#[.int .i64 gx,.int .i64 gy,.int .i64 gz]),(6,.bool false),(5,.pointer(some⟨b3,0,none⟩)),(4,.pointer(some⟨b2,0,none⟩)),(3,.pointer(some⟨b1,0,none⟩))],[boxA u7_1 44 [.int .i64 0,.int .i64 0,.int .i64 0]],[boxA b3 44 [.int .i64 gx,.int .i64 gy,.int .i64 gz],boxA b2 44 [.int .i64 fx,.int .i64 fy,.int .i64 fz],boxA b1 44 [.int .i64 ex,.int .i64 ey,.int .i64 ez]],[zF w34(Ms.det(ex,ey,ez)(fx,fy,fz)(gx,gy,gz))])) ?_(fun hD5=> ?_)
  ·
   rintro u7_1
   dsimp only
   refine zE 5(by kernel_rfl) ?_
   ·
    refine zqa rfl rfl rfl rfl(.c rfl(.c rfl .n))ce105(zRc(ex:=gx)(ey:=gy)(ez:=gz)(fx:=ex)(fy:=ey)(fz:=ez)(hbex:=by assumption)(hbey:=by assumption)(hbez:=by assumption)(hbfx:=by assumption)(hbfy:=by assumption)(hbfz:=by assumption))(.n) ?_
    exact zp(hD3 u7_1)(by kernel_rfl)((.of rfl):SubM _ _) .rfl .rfl((.c(j:=0)rfl .n):SelR _ _ _)
  refine zL(X:=Unit)(k':=4)(L':=(lb 9 31))(fun _=>([(21,.agg#[.int .i64(fx - ex),.int .i64(fy - ey),.int .i64(fz - ez)]),(23,.agg#[.int .i64 ex,.int .i64 ey,.int .i64 ez]),(22,.agg#[.int .i64 gx,.int .i64 gy,.int .i64 gz]),(6,.bool false),(5,.pointer(some⟨b3,0,none⟩)),(4,.pointer(some⟨b2,0,none⟩)),(3,.pointer(some⟨b1,0,none⟩))],[],[boxA b3 44 [.int .i64 gx,.int .i64 gy,.int .i64 gz],boxA b2 44 [.int .i64 fx,.int .i64 fy,.int .i64 fz],boxA b1 44 [.int .i64 ex,.int .i64 ey,.int .i64 ez]],[zF w34(Ms.det(ex,ey,ez)(fx,fy,fz)(gx,gy,gz))])) ?_(fun hD6=> ?_)
  ·
   rintro ⟨⟩
   dsimp only
   refine zMa 5 7(by kernel_rfl) ?_ ?_
   ·
    refine zqa rfl rfl rfl rfl(.c rfl(.c rfl .n))ce105(zRc(ex:=gx)(ey:=gy)(ez:=gz)(fx:=ex)(fy:=ey)(fz:=ez)(hbex:=by assumption)(hbey:=by assumption)(hbez:=by assumption)(hbfx:=by assumption)(hbfy:=by assumption)(hbfz:=by assumption))(.n) ?_
    exact zp(hD4())(by kernel_rfl)((.of rfl):SubM _ _) .rfl .rfl((.c(j:=0)rfl .n):SelR _ _ _)
   ·
    refine zO rfl rfl rfl rfl(zn zr44 rfl)(fun u7_1 _=> ?_)
    exact zp(hD5 u7_1)(by kernel_rfl)((.of rfl):SubM _ _) .rfl .rfl((.c(j:=0)rfl .n):SelR _ _ _)
  refine zL(X:=Nat)(k':=4)(L':=(lb 9 155))(fun u7_1=>([(7,.pointer(some⟨u7_1,0,none⟩)),(23,.agg#[.int .i64 ex,.int .i64 ey,.int .i64 ez]),(22,.agg#[.int .i64 gx,.int .i64 gy,.int .i64 gz]),(20,.agg#[.int .i64 ex,.int .i64 ey,.int .i64 ez]),(19,.agg#[.int .i64 fx,.int .i64 fy,.int .i64 fz]),(6,.bool false),(5,.pointer(some⟨b3,0,none⟩)),(4,.pointer(some⟨b2,0,none⟩)),(3,.pointer(some⟨b1,0,none⟩))],[boxA u7_1 44 [.int .i64 0,.int .i64 0,.int .i64 0]],[boxA b3 44 [.int .i64 gx,.int .i64 gy,.int .i64 gz],boxA b2 44 [.int .i64 fx,.int .i64 fy,.int .i64 fz],boxA b1 44 [.int .i64 ex,.int .i64 ey,.int .i64 ez]],[zF w34(Ms.det(ex,ey,ez)(fx,fy,fz)(gx,gy,gz))])) ?_(fun hD7=> ?_)
  ·
   rintro u7_1
   dsimp only
   refine zE 2(by kernel_rfl) ?_
   ·
    refine zqa rfl rfl rfl rfl(.c rfl(.c rfl .n))ce105(zRc(ex:=fx)(ey:=fy)(ez:=fz)(fx:=ex)(fy:=ey)(fz:=ez)(hbex:=by assumption)(hbey:=by assumption)(hbez:=by assumption)(hbfx:=by assumption)(hbfy:=by assumption)(hbfz:=by assumption))(.n) ?_
    exact zp(hD5 u7_1)(by kernel_rfl)((.of rfl):SubM _ _) .rfl .rfl((.c(j:=0)rfl .n):SelR _ _ _)
  refine zMa 2 7(by kernel_rfl) ?_ ?_
  ·
   refine zqa rfl rfl rfl rfl(.c rfl(.c rfl .n))ce105(zRc(ex:=fx)(ey:=fy)(ez:=fz)(fx:=ex)(fy:=ey)(fz:=ez)(hbex:=by assumption)(hbey:=by assumption)(hbez:=by assumption)(hbfx:=by assumption)(hbfy:=by assumption)(hbfz:=by assumption))(.n) ?_
   exact zp(hD6())(by kernel_rfl)((.of rfl):SubM _ _) .rfl .rfl((.c(j:=0)rfl .n):SelR _ _ _)
  ·
   refine zO rfl rfl rfl rfl(zn zr44 rfl)(fun u7_1 _=> ?_)
   exact zp(hD7 u7_1)(by kernel_rfl)((.of rfl):SubM _ _) .rfl .rfl((.c(j:=0)rfl .n):SelR _ _ _)
end Go.Proofs.Ytalfgjpbbongcaa.Sp
