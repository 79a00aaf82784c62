/- Lemmas on the walk and plain lemmas that the claim of this folder uses; each states its own conditions. Lines were printed by a program of ours. -/
import Derived.Test.YtjcpbhlijoigfaaGreatZ5E
set_option linter.unusedVariables false
set_option linter.unusedSimpArgs false
set_option linter.unusedSectionVars false
open Go.Value renaming int → ya, pointer → yc
open Go.IntKind renaming i64 → yb
open Go.Proofs.Tryz renaming underlying22 → yd, underlying30 → ye, underlying98 → yf, underlying96 → yg, underlying34 → yj, prog → yl, underlying84 → yu, underlying50 → yx, underlying54 → yy, results5 → yA, underlying95 → yC, underlying69 → yF, results16 → yH, results76 → yK, results19 → yL, results53 → yM, results20 → yN
open Go.Proofs.YtjcpbhlijoigfaaGreat.Pg renaming nt → yh, pq → yi, hp_pq → ym, win → yn, sg_rng → yo, clL → yp, inR → yr, pts → yv, wnV → yw, db → yz, far → yB, sg → yD, sz → yE, crs → yI, earI → yJ, wnC → yO, Ok → yP, bad → yQ
open Go.Proofs.YtjcpbhlijoigfaaGreat.Er renaming qabs_hq → yk, winR → yG
open Go.Proofs.YtjcpbhlijoigfaaGreat.Ms renaming all_lt_succ → yq
open Go.Proofs.YtjcpbhlijoigfaaGreat.Big renaming qabs → yt
namespace Go.Proofs.YtjcpbhlijoigfaaGreat.Sp
open Go
set_option linter.unusedVariables false
set_option maxRecDepth 100000
set_option maxHeartbeats 8000000
theorem zbf {b:Nat} {p:Option Addr} {n:Nat} {cap:Nat} {l:List Pg.P2} {B:List Nat} {N:List Nat} {kk:Int} {s:Int} {L:List Nat} {v:Nat} {i:Nat} (hn:l.length=n) (hg:Pg.Rg n L B N) (hrng:∀x∈l,yr x) (hs:s=1∨s= -1) (hi:i<L.length) (hv:yh L i=v):Con yl 82 [yc (some ⟨b,0,none⟩),ya yb ((v:Nat):Int)] [boxA b 98 (rgC p n cap B N kk s)] [slF (rI2 .i64) p cap l] (Y:=Unit) (fun y=>True) (fun y=> ya yb (Pg.corn l s L i)) (fun y=>[boxA b 98 (rgC p n cap B N kk s)]) (fun y=>[]):=by
 refine zo Tryz.func82 rfl rfl rfl (fun c=> ?_)
 show RunC _ _ _ _ _ [(0,yc (some ⟨b,0,none⟩)),(1,ya yb ((v:Nat):Int))] [boxA b 98 (rgC p n cap B N kk s)] [slF (rI2 .i64) p cap l]
 refine zea 0 rfl (fun hL0=> ?_)
 have hLB:=hg.lb
 have hLN:=hg.ln
 have hn64:=hg.n64
 obtain ⟨hvn,hvN,hvB,hvN2,hvB2⟩:=hg.at hi hv
 have hq0:yr (l.getD (B.getD v 0) (0,0)):=yP.gt hrng om
 have hq1:yr (l.getD v (0,0)):=yP.gt hrng om
 have hq2:yr (l.getD (N.getD v 0) (0,0)):=yP.gt hrng om
 have hsm:=Pg.s_mul (z:=yI ((l.getD (B.getD v 0) (0,0)).1,(l.getD (B.getD v 0) (0,0)).2) ((l.getD v (0,0)).1,(l.getD v (0,0)).2) ((l.getD (N.getD v 0) (0,0)).1,(l.getD (N.getD v 0) (0,0)).2)) hs
 refine zh<|za<|e_p (zd rfl)<|zi<|ze<|zh<|zY (OW:=[]) (O:=[boxA b 98 (rgC p n cap B N kk s)]) 100000 mixed (.then .ret) kr<|e_dm 0 rfl rfl rfl<|e_pv 1 rfl rfl (zV rfl)<|e_pv 2 rfl rfl (zf yf rfl sz3 rfl rfl)<|e_u 3 rfl rfl (zg 0 ty3 rfl rfl (rg_s rgl rgl))<|e_dm 4 rfl rfl rfl<|e_pv 5 rfl rfl (zV rfl)<|e_pv 6 rfl rfl (zf yf rfl sz22 rfl rfl)<|e_u 7 rfl rfl (zg 0 ty22 rfl rfl rfl)<|e_dm 8 rfl rfl rfl<|e_dm 9 rfl rfl rfl<|e_pv 10 rfl rfl (zV rfl)<|e_pv 11 rfl rfl (zf yf rfl sz96 rfl rfl)<|e_pv 12 rfl rfl (zja (i:=v) yg sz3 rfl rfl om)<|e_u 13 rfl rfl (zg 0 ty3 rfl rfl (rg_B rgl rgl om))<|zga (x0:=(l.getD (B.getD v 0) (0,0))) 14 rfl rfl kr kr 0 (B.getD v 0) rfl yd sz30 rfl rfl rfl cbs rfl rfl (gD (d:=(0,0)) om) (fun b1 o2 hok3=> ?_)
 obtain ⟨hok3x,hok3y⟩:=hok3
 replace hok3x:=zM.1 hok3x
 replace hok3y:=zM.1 hok3y
 refine e_u 15 rfl rfl (zt (j:=0) 0 ty30 rfl rfl rfl (.t2 .nil))<|e_dm 16 rfl rfl rfl<|e_pv 17 rfl rfl (zV rfl)<|e_pv 18 rfl rfl (zf yf rfl sz22 rfl rfl)<|e_u 19 rfl rfl (zg 0 ty22 rfl rfl rfl)<|e_dm 20 rfl rfl rfl<|zga (x0:=(l.getD v (0,0))) 21 rfl rfl kr kr 1 v rfl yd sz30 rfl rfl rfl cbs rfl rfl (gD (d:=(0,0)) om) (fun b4 o5 hok6=> ?_)
 obtain ⟨hok6x,hok6y⟩:=hok6
 replace hok6x:=zM.1 hok6x
 replace hok6y:=zM.1 hok6y
 refine e_u 22 rfl rfl (zt (j:=0) 0 ty30 rfl rfl rfl (.t2 .nil))<|e_dm 23 rfl rfl rfl<|e_pv 24 rfl rfl (zV rfl)<|e_pv 25 rfl rfl (zf yf rfl sz22 rfl rfl)<|e_u 26 rfl rfl (zg 0 ty22 rfl rfl rfl)<|e_dm 27 rfl rfl rfl<|e_dm 28 rfl rfl rfl<|e_pv 29 rfl rfl (zV rfl)<|e_pv 30 rfl rfl (zf yf rfl sz96 rfl rfl)<|e_pv 31 rfl rfl (zja (i:=v) yg sz3 rfl rfl om)<|e_u 32 rfl rfl (zg 0 ty3 rfl rfl (rg_N rgl rgl om))<|zga (x0:=(l.getD (N.getD v 0) (0,0))) 33 rfl rfl kr kr 2 (N.getD v 0) rfl yd sz30 rfl rfl rfl cbs rfl rfl (gD (d:=(0,0)) om) (fun b7 o8 hok9=> ?_)
 obtain ⟨hok9x,hok9y⟩:=hok9
 replace hok9x:=zM.1 hok9x
 replace hok9y:=zM.1 hok9y
 refine e_u 34 rfl rfl (zt (j:=0) 0 ty30 rfl rfl rfl (.t2 .nil))<|e_one 35 (zta rfl rfl rfl rfl (.c rfl (.c rfl (.c rfl .n))) ce54 (zib (ex:=(l.getD (B.getD v 0) (0,0)).1) (ey:=(l.getD (B.getD v 0) (0,0)).2) (fx:=(l.getD v (0,0)).1) (fy:=(l.getD v (0,0)).2) (gx:=(l.getD (N.getD v 0) (0,0)).1) (gy:=(l.getD (N.getD v 0) (0,0)).2) (hre:=cbo) (hrf:=cbo) (hrg:=cbo)) (.n) ?_)
 refine e_pv 36 rfl rfl (zEa (z:=(s*(yI (((l.getD (B.getD v 0) (0,0)).1),((l.getD (B.getD v 0) (0,0)).2)) (((l.getD v (0,0)).1),((l.getD v (0,0)).2)) (((l.getD (N.getD v 0) (0,0)).1),((l.getD (N.getD v 0) (0,0)).2))).sign)) rfl rfl (w64 om))<|e_pv 37 rfl rfl (zd rfl)<|zW kr<|ze<|zL ?_
 exact zx Tryz.results82 () trivial (zl rfl) (congrArg (Value.int .i64) (by unfold Pg.corn Pg.gt;rw [hv,←hvN,←hvB])) (ho:=(o0 rfl)) sN
theorem zzg {b:Nat} {p:Option Addr} {n:Nat} {cap:Nat} {l:List Pg.P2} {B:List Nat} {N:List Nat} {kk:Int} {s:Int} {L:List Nat} {v:Nat} {i:Nat} (hn:l.length=n) (hg:Pg.Rg n L B N) (hrng:∀x∈l,yr x) (hs:s=1∨s= -1) (hi:i<L.length) (hv:yh L i=v) (h2:2≤L.length) (hk0:0≤kk∧kk≤64):Con yl 78 [yc (some ⟨b,0,none⟩),ya yb ((v:Nat):Int)] [boxA b 98 (rgC p n cap B N kk s)] [slF (rI2 .i64) p cap l] (Y:=Unit) (fun y=>True) (fun y=> .tuple #[]) (fun y=>[boxA b 98 (rgC p n cap (Pg.cutB B N v) (Pg.cutN B N v) (kk - 1) s)]) (fun y=>[]):=by
 refine zo Tryz.func78 rfl rfl rfl (fun c=> ?_)
 show RunC _ _ _ _ _ [(0,yc (some ⟨b,0,none⟩)),(1,ya yb ((v:Nat):Int))] [boxA b 98 (rgC p n cap B N kk s)] [slF (rI2 .i64) p cap l]
 refine zea 0 rfl (fun hL0=> ?_)
 have hLB:=hg.lb
 have hLN:=hg.ln
 have hn64:=hg.n64
 obtain ⟨hvn,hvN,hvB,hvN2,hvB2⟩:=hg.at hi hv
 have hcv:(Pg.cutN B N v).getD v 0=N.getD v 0:=by have h9:=(hg.cut hi hv h2).ln;exact Pg.cutN_v hg hi hv h2
 have hcv2:(N.set (B.getD v 0) (N.getD v 0)).getD v 0=N.getD v 0:=hcv
 have hcv3:(N.set (B.getD v 0) (N.getD v 0)).getD v 0<64:=by omega
 refine zh<|zY (OW:=[boxA b 98 (rgC p n cap B N kk s)]) (O:=[]) 16 mixed (.then .ret) kr<|e_dm 0 rfl rfl rfl<|e_dm 1 rfl rfl rfl<|e_dm 2 rfl rfl rfl<|e_pv 3 rfl rfl (zV rfl)<|e_pv 4 rfl rfl (zf yf rfl sz96 rfl rfl)<|e_pv 5 rfl rfl (zja (i:=v) yg sz3 rfl rfl om)<|e_uw 6 rfl rfl (zg 0 ty3 rfl rfl (rg_B rgl rgl om))<|e_dm 7 rfl rfl rfl<|e_dm 8 rfl rfl rfl<|e_pv 9 rfl rfl (zV rfl)<|e_pv 10 rfl rfl (zf yf rfl sz96 rfl rfl)<|e_pv 11 rfl rfl (zja (i:=v) yg sz3 rfl rfl om)<|e_uw 12 rfl rfl (zg 0 ty3 rfl rfl (rg_N rgl rgl om))<|e_pv 13 rfl rfl (zV rfl)<|e_pv 14 rfl rfl (zf yf rfl sz96 rfl rfl)<|e_pv 15 rfl rfl (zja (i:=(B.getD v 0)) yg sz3 rfl rfl om)<|e_one 16 (zr kr rfl rfl rfl rfl rfl sz3 rfl (rg_setN (x:=(N.getD v 0)) rgl rgl om) ?_)
 refine zW kr<|ze<|zh<|zY (OW:=[boxA b 98 (rgC p n cap B (N.set (B.getD v 0) (N.getD v 0)) kk s)]) (O:=[]) 16 mixed (.then .ret) kr<|e_dm 0 rfl rfl rfl<|e_dm 1 rfl rfl rfl<|e_dm 2 rfl rfl rfl<|e_pv 3 rfl rfl (zV rfl)<|e_pv 4 rfl rfl (zf yf rfl sz96 rfl rfl)<|e_pv 5 rfl rfl (zja (i:=v) yg sz3 rfl rfl om)<|e_uw 6 rfl rfl (zg 0 ty3 rfl rfl (rg_N rgl rgl om))<|e_dm 7 rfl rfl rfl<|e_dm 8 rfl rfl rfl<|e_pv 9 rfl rfl (zV rfl)<|e_pv 10 rfl rfl (zf yf rfl sz96 rfl rfl)<|e_pv 11 rfl rfl (zja (i:=v) yg sz3 rfl rfl om)<|e_uw 12 rfl rfl (zg 0 ty3 rfl rfl (rg_B rgl rgl om))<|e_pv 13 rfl rfl (zV rfl)<|e_pv 14 rfl rfl (zf yf rfl sz96 rfl rfl)<|e_pv 15 rfl rfl (zja (i:=((N.set (B.getD v 0) (N.getD v 0)).getD v 0)) yg sz3 rfl rfl om)<|e_one 16 (zr kr rfl rfl rfl rfl rfl sz3 rfl (rg_setB (x:=(B.getD v 0)) rgl rgl om) ?_)
 refine zW kr<|ze<|za<|e_mv rfl<|e_p (zV rfl)<|e_p (zf yf rfl sz3 rfl rfl)<|e_ru (zg 0 ty3 rfl rfl (rg_k rgl rgl))<|e_p (zna (z:=(kk - 1)) rfl rfl (w64 om))<|e_p (zV rfl)<|e_p (zf yf rfl sz3 rfl rfl)<|zm 0 rfl rfl rfl rfl rfl sz3 rfl (rg_setk rgl rgl) .z<|zi<|p_end ?_
 exact p_ret0 Tryz.results78 () trivial rfl (ho:=(o0 rfl)) sN
theorem zAg {b:Nat} {p:Option Addr} {n:Nat} {cap:Nat} {l:List Pg.P2} {B:List Nat} {N:List Nat} {kk:Int} {s:Int} {L:List Nat} {v:Nat} {i:Nat} (hn:l.length=n) (hg:Pg.Rg n L B N) (hrng:∀x∈l,yr x) (hs:s=1∨s= -1) (hi:i<L.length) (hv:yh L i=v) (h3:3≤L.length):Con yl 77 [yc (some ⟨b,0,none⟩),ya yb ((v:Nat):Int)] [boxA b 98 (rgC p n cap B N kk s)] [slF (rI2 .i64) p cap l] (Y:=Unit) (fun y=>True) (fun y=> .bool (decide (yJ l s L i))) (fun y=>[boxA b 98 (rgC p n cap B N kk s)]) (fun y=>[]):=by
 refine zo Tryz.func77 rfl rfl rfl (fun c=> ?_)
 show RunC _ _ _ _ _ [(0,yc (some ⟨b,0,none⟩)),(1,ya yb ((v:Nat):Int))] [boxA b 98 (rgC p n cap B N kk s)] [slF (rI2 .i64) p cap l]
 refine zea 0 rfl (fun hL0=> ?_)
 have hLB:=hg.lb
 have hLN:=hg.ln
 have hn64:=hg.n64
 obtain ⟨hvn,hvN,hvB,hvN2,hvB2⟩:=hg.at hi hv
 have hq0:yr (l.getD (B.getD v 0) (0,0)):=yP.gt hrng om
 have hq1:yr (l.getD v (0,0)):=yP.gt hrng om
 have hq2:yr (l.getD (N.getD v 0) (0,0)):=yP.gt hrng om
 have hin3:∀t,Pg.in3I l s L i t↔Pg.in3 s (l.getD (B.getD v 0) (0,0)) (l.getD v (0,0)) (l.getD (N.getD v 0) (0,0)) (l.getD (yh L ((i+2+t)%L.length)) (0,0)):=fun t=>by unfold Pg.in3I Pg.gt;rw [hv,←hvN,←hvB]
 refine zh<|za<|e_p (zd rfl)<|zi<|ze<|zh<|zh<|za<|e_mv rfl<|e_mv rfl<|zvc (A:=[boxA b 98 (rgC p n cap B N kk s)]) (F:=[]) (first:=[]) (cap:=[]) rfl rfl rfl (.c rfl (.c rfl .n)) ce82 (zbf (b:=b) (p:=p) (n:=n) (cap:=cap) (l:=l) (B:=B) (N:=N) (kk:=kk) (s:=s) (L:=L) (v:=v) (i:=i) (hn:=ass) (hg:=ass) (hrng:=ass) (hs:=ass) (hi:=ass) (hv:=ass)) (.c (j:=0) rfl .n) ?_
 rintro ⟨⟩ -
 dsimp only [aq,nq,cq]
 refine e_p (zWa rfl rfl)<|zi<|ze<|zJ rfl (fun hco=> ?_) (fun hco=> ?_)
 ·
  refine zh<|za<|e_p (zd rfl)<|zi<|ze<|zL<|zj ?_
  exact zx Tryz.results77 () trivial (zl rfl) (congrArg Value.bool (decide_eq_false (fun h=>by have:=h.1;omega))) (ho:=(o0 rfl)) sN
 ·
  refine zC<|ze<|zh<|zY (OW:=[]) (O:=[boxA b 98 (rgC p n cap B N kk s)]) 34 mixed (.then .ret) kr<|e_dm 0 rfl rfl rfl<|e_pv 1 rfl rfl (zV rfl)<|e_pv 2 rfl rfl (zf yf rfl sz22 rfl rfl)<|e_u 3 rfl rfl (zg 0 ty22 rfl rfl rfl)<|e_dm 4 rfl rfl rfl<|e_dm 5 rfl rfl rfl<|e_pv 6 rfl rfl (zV rfl)<|e_pv 7 rfl rfl (zf yf rfl sz96 rfl rfl)<|e_pv 8 rfl rfl (zja (i:=v) yg sz3 rfl rfl om)<|e_u 9 rfl rfl (zg 0 ty3 rfl rfl (rg_B rgl rgl om))<|zga (x0:=(l.getD (B.getD v 0) (0,0))) 10 rfl rfl kr kr 0 (B.getD v 0) rfl yd sz30 rfl rfl rfl cbs rfl rfl (gD (d:=(0,0)) om) (fun b1 o2 hok3=> ?_)
  obtain ⟨hok3x,hok3y⟩:=hok3
  replace hok3x:=zM.1 hok3x
  replace hok3y:=zM.1 hok3y
  refine e_u 11 rfl rfl (zt (j:=0) 0 ty30 rfl rfl rfl (.t2 .nil))<|e_dm 12 rfl rfl rfl<|e_pv 13 rfl rfl (zV rfl)<|e_pv 14 rfl rfl (zf yf rfl sz22 rfl rfl)<|e_u 15 rfl rfl (zg 0 ty22 rfl rfl rfl)<|e_dm 16 rfl rfl rfl<|zga (x0:=(l.getD v (0,0))) 17 rfl rfl kr kr 1 v rfl yd sz30 rfl rfl rfl cbs rfl rfl (gD (d:=(0,0)) om) (fun b4 o5 hok6=> ?_)
  obtain ⟨hok6x,hok6y⟩:=hok6
  replace hok6x:=zM.1 hok6x
  replace hok6y:=zM.1 hok6y
  refine e_u 18 rfl rfl (zt (j:=0) 0 ty30 rfl rfl rfl (.t2 .nil))<|e_dm 19 rfl rfl rfl<|e_pv 20 rfl rfl (zV rfl)<|e_pv 21 rfl rfl (zf yf rfl sz22 rfl rfl)<|e_u 22 rfl rfl (zg 0 ty22 rfl rfl rfl)<|e_dm 23 rfl rfl rfl<|e_dm 24 rfl rfl rfl<|e_pv 25 rfl rfl (zV rfl)<|e_pv 26 rfl rfl (zf yf rfl sz96 rfl rfl)<|e_pv 27 rfl rfl (zja (i:=v) yg sz3 rfl rfl om)<|e_u 28 rfl rfl (zg 0 ty3 rfl rfl (rg_N rgl rgl om))<|zga (x0:=(l.getD (N.getD v 0) (0,0))) 29 rfl rfl kr kr 2 (N.getD v 0) rfl yd sz30 rfl rfl rfl cbs rfl rfl (gD (d:=(0,0)) om) (fun b7 o8 hok9=> ?_)
  obtain ⟨hok9x,hok9y⟩:=hok9
  replace hok9x:=zM.1 hok9x
  replace hok9y:=zM.1 hok9y
  refine e_u 30 rfl rfl (zt (j:=0) 0 ty30 rfl rfl rfl (.t2 .nil))<|zNb (m':=[(44,.agg #[ya yb ((l.getD (N.getD v 0) (0,0)).1),ya yb ((l.getD (N.getD v 0) (0,0)).2)]),(32,.agg #[ya yb ((l.getD v (0,0)).1),ya yb ((l.getD v (0,0)).2)]),(25,.agg #[ya yb ((l.getD (B.getD v 0) (0,0)).1),ya yb ((l.getD (B.getD v 0) (0,0)).2)]),(4,.bool false),(0,yc (some ⟨b,0,none⟩)),(1,ya yb ((v:Nat):Int))]) (R':=[slF (rI2 .i64) p cap l]) (mR rfl) (List.Perm.refl _) (List.Perm.refl _) ((.c (j:=3) rfl .n):SelR _ _ _) ?_
  obtain ⟨qd1,hqd1⟩:∃z:Int,z=(l.getD (N.getD v 0) (0,0)).1:=⟨_,rfl⟩
  rw [← hqd1]
  obtain ⟨qd2,hqd2⟩:∃z:Int,z=(l.getD (N.getD v 0) (0,0)).2:=⟨_,rfl⟩
  rw [← hqd2]
  obtain ⟨qd3,hqd3⟩:∃z:Int,z=(l.getD (B.getD v 0) (0,0)).1:=⟨_,rfl⟩
  rw [← hqd3]
  obtain ⟨qd4,hqd4⟩:∃z:Int,z=(l.getD (B.getD v 0) (0,0)).2:=⟨_,rfl⟩
  rw [← hqd4]
  refine zca (X:=Nat×Nat×Nat) (k':=0) (L':=(lb 37 137438953471)) (fun (u31_1,u32_1,u33_1)=>([(7,yc (some ⟨u33_1,0,none⟩)),(6,yc (some ⟨u32_1,0,none⟩)),(5,yc (some ⟨u31_1,0,none⟩)),(4,.bool false),(0,yc (some ⟨b,0,none⟩)),(1,ya yb ((v:Nat):Int))],[boxA u33_1 30 [ya yb qd1,ya yb qd2],boxA u32_1 30 [ya yb ((l.getD v (0,0)).1),ya yb ((l.getD v (0,0)).2)],boxA u31_1 30 [ya yb qd3,ya yb qd4]],[boxA b 98 (rgC p n cap B N kk s)],[slF (rI2 .i64) p cap l])) ?_ (fun hD0=> ?_)
  ·
   rintro ⟨u31_1,u32_1,u33_1⟩
   dsimp only
   refine zW kr ?_
   subst hqd1 hqd2 hqd3 hqd4
   refine ze<|zh<|zh<|zY (OW:=[]) (O:=[boxA u33_1 30 [ya yb ((l.getD (N.getD v 0) (0,0)).1),ya yb ((l.getD (N.getD v 0) (0,0)).2)],boxA u32_1 30 [ya yb ((l.getD v (0,0)).1),ya yb ((l.getD v (0,0)).2)],boxA u31_1 30 [ya yb ((l.getD (B.getD v 0) (0,0)).1),ya yb ((l.getD (B.getD v 0) (0,0)).2)],boxA b 98 (rgC p n cap B N kk s)]) 100000 mixed (.then (.then .ret)) kr<|e_dm 0 rfl rfl rfl<|e_dm 1 rfl rfl rfl<|e_dm 2 rfl rfl rfl<|e_pv 3 rfl rfl (zV rfl)<|e_pv 4 rfl rfl (zf yf rfl sz96 rfl rfl)<|e_pv 5 rfl rfl (zja (i:=v) yg sz3 rfl rfl om)<|e_u 6 rfl rfl (zg 3 ty3 rfl rfl (rg_N rgl rgl om))<|e_pv 7 rfl rfl (zV rfl)<|e_pv 8 rfl rfl (zf yf rfl sz96 rfl rfl)<|e_pv 9 rfl rfl (zja (i:=(N.getD v 0)) yg sz3 rfl rfl om)<|e_u 10 rfl rfl (zg 3 ty3 rfl rfl (rg_N rgl rgl om))<|e_pv 11 rfl rfl (zd rfl)<|zW kr<|ze<|zE<|zra (X:=Nat) (fun x:Nat=>x≤L.length - 3∧∀u,u<x→¬Pg.in3I l s L i u) (fun x=>[(8,ya yb (((yh L ((i+2+x)%L.length)):Nat):Int)),(7,yc (some ⟨u33_1,0,none⟩)),(6,yc (some ⟨u32_1,0,none⟩)),(5,yc (some ⟨u31_1,0,none⟩)),(0,yc (some ⟨b,0,none⟩)),(1,ya yb ((v:Nat):Int))]) (fun x=>[boxA u33_1 30 [ya yb ((l.getD (N.getD v 0) (0,0)).1),ya yb ((l.getD (N.getD v 0) (0,0)).2)],boxA u32_1 30 [ya yb ((l.getD v (0,0)).1),ya yb ((l.getD v (0,0)).2)],boxA u31_1 30 [ya yb ((l.getD (B.getD v 0) (0,0)).1),ya yb ((l.getD (B.getD v 0) (0,0)).2)],boxA b 98 (rgC p n cap B N kk s)]) (fun x=>[slF (rI2 .i64) p cap l]) (fun x:Nat=>L.length - 3 - x) 0 (show 0≤L.length - 3∧∀u,u<0→¬Pg.in3I l s L i u from by exact ⟨Nat.zero_le _,fun u h=>by omega⟩) ((.e rfl (by rw [hg.nx2 hi hv]) (.of rfl)):SubM _ _) (ho:=((.of [0,0,0,0] rfl):PickO _ _ _)) (s0 rfl) ?_
   rintro t hI
   replace hI:t≤L.length - 3∧∀u,u<t→¬Pg.in3I l s L i u:=hI
   try dsimp only
   obtain ⟨ht,hall⟩:=hI
   refine zh<|zh<|za<|e_mv rfl<|e_mv rfl<|e_mv rfl<|e_p (zV rfl)<|e_p (zf yf rfl sz96 rfl rfl)<|e_p (zja (i:=v) yg sz3 rfl rfl om)<|e_ru (zg 3 ty3 rfl rfl (rg_B rgl rgl om))<|e_p (zXa rfl rfl)<|zi<|ze<|zJ rfl (fun hst=> ?_) (fun hst=> ?_)
   ·
    have htl:t<L.length - 3:=by have h9:=Pg.stop_iff hg hi h3 ht;rw [← hvB] at h9;omega
    have hws:=hg.lt _ (Nat.mod_lt (i+2+t) (show 0<L.length by omega))
    have hwr:yr (l.getD (yh L ((i+2+t)%L.length)) (0,0)):=yP.gt hrng om
    have hsm0:=Pg.s_mul (z:=yI ((l.getD (B.getD v 0) (0,0)).1,(l.getD (B.getD v 0) (0,0)).2) ((l.getD v (0,0)).1,(l.getD v (0,0)).2) ((l.getD (yh L ((i+2+t)%L.length)) (0,0)).1,(l.getD (yh L ((i+2+t)%L.length)) (0,0)).2)) hs
    have hsm1:=Pg.s_mul (z:=yI ((l.getD v (0,0)).1,(l.getD v (0,0)).2) ((l.getD (N.getD v 0) (0,0)).1,(l.getD (N.getD v 0) (0,0)).2) ((l.getD (yh L ((i+2+t)%L.length)) (0,0)).1,(l.getD (yh L ((i+2+t)%L.length)) (0,0)).2)) hs
    have hsm2:=Pg.s_mul (z:=yI ((l.getD (N.getD v 0) (0,0)).1,(l.getD (N.getD v 0) (0,0)).2) ((l.getD (B.getD v 0) (0,0)).1,(l.getD (B.getD v 0) (0,0)).2) ((l.getD (yh L ((i+2+t)%L.length)) (0,0)).1,(l.getD (yh L ((i+2+t)%L.length)) (0,0)).2)) hs
    refine zC<|ze<|zh<|zE<|zh<|za<|e_mv rfl<|e_p (zV rfl)<|e_p (zf yf rfl sz22 rfl rfl)<|e_ru (zg 3 ty22 rfl rfl rfl)<|e_mv rfl<|zX (x0:=(l.getD (yh L ((i+2+t)%L.length)) (0,0))) 0 (yh L ((i+2+t)%L.length)) rfl yd sz30 rfl rfl rfl cbs rfl rfl (gD (d:=(0,0)) om) (fun b10 o11 hok12=> ?_)
    obtain ⟨hok12x,hok12y⟩:=hok12
    replace hok12x:=zM.1 hok12x
    replace hok12y:=zM.1 hok12y
    refine e_ru (zt (j:=0) 0 ty30 rfl rfl rfl (.t2 .nil))<|zP rfl rfl (zn zr30 rfl) (fun b13=> ?_)
    refine zm 0 rfl rfl rfl rfl rfl sz30 rfl (.t2 .nil) .z<|zi<|ze<|zGa (X:=Unit) (fun x=>True) (fun x=>[(110,.bool (decide (((0≤(s*(yI (((l.getD (B.getD v 0) (0,0)).1),((l.getD (B.getD v 0) (0,0)).2)) (((l.getD v (0,0)).1),((l.getD v (0,0)).2)) (((l.getD (yh L ((i+2+t)%L.length)) (0,0)).1),((l.getD (yh L ((i+2+t)%L.length)) (0,0)).2))).sign))∧(0≤(s*(yI (((l.getD v (0,0)).1),((l.getD v (0,0)).2)) (((l.getD (N.getD v 0) (0,0)).1),((l.getD (N.getD v 0) (0,0)).2)) (((l.getD (yh L ((i+2+t)%L.length)) (0,0)).1),((l.getD (yh L ((i+2+t)%L.length)) (0,0)).2))).sign)))∧(0≤(s*(yI (((l.getD (N.getD v 0) (0,0)).1),((l.getD (N.getD v 0) (0,0)).2)) (((l.getD (B.getD v 0) (0,0)).1),((l.getD (B.getD v 0) (0,0)).2)) (((l.getD (yh L ((i+2+t)%L.length)) (0,0)).1),((l.getD (yh L ((i+2+t)%L.length)) (0,0)).2))).sign))))),(8,ya yb (((yh L ((i+2+t)%L.length)):Nat):Int)),(7,yc (some ⟨u33_1,0,none⟩)),(6,yc (some ⟨u32_1,0,none⟩)),(5,yc (some ⟨u31_1,0,none⟩)),(0,yc (some ⟨b,0,none⟩)),(1,ya yb ((v:Nat):Int))]) (fun x=>[boxA b13 30 [ya yb ((l.getD (yh L ((i+2+t)%L.length)) (0,0)).1),ya yb ((l.getD (yh L ((i+2+t)%L.length)) (0,0)).2)],boxA u33_1 30 [ya yb ((l.getD (N.getD v 0) (0,0)).1),ya yb ((l.getD (N.getD v 0) (0,0)).2)],boxA u32_1 30 [ya yb ((l.getD v (0,0)).1),ya yb ((l.getD v (0,0)).2)],boxA u31_1 30 [ya yb ((l.getD (B.getD v 0) (0,0)).1),ya yb ((l.getD (B.getD v 0) (0,0)).2)],boxA b 98 (rgC p n cap B N kk s)]) (fun x=>[atF b10 o11 [ya yb ((l.getD (yh L ((i+2+t)%L.length)) (0,0)).1),ya yb ((l.getD (yh L ((i+2+t)%L.length)) (0,0)).2)],slF (rI2 .i64) p cap l]) ?_ ?_
    ·
     refine zY (OW:=[]) (O:=[boxA b13 30 [ya yb ((l.getD (yh L ((i+2+t)%L.length)) (0,0)).1),ya yb ((l.getD (yh L ((i+2+t)%L.length)) (0,0)).2)],boxA u33_1 30 [ya yb ((l.getD (N.getD v 0) (0,0)).1),ya yb ((l.getD (N.getD v 0) (0,0)).2)],boxA u32_1 30 [ya yb ((l.getD v (0,0)).1),ya yb ((l.getD v (0,0)).2)],boxA u31_1 30 [ya yb ((l.getD (B.getD v 0) (0,0)).1),ya yb ((l.getD (B.getD v 0) (0,0)).2)],boxA b 98 (rgC p n cap B N kk s)]) 100000 mixed (.then (.block (.then (.then (.block (.then .ret)))))) kr<|e_dm 0 rfl rfl rfl<|e_pv 1 rfl rfl (zV rfl)<|e_pv 2 rfl rfl (zf yf rfl sz3 rfl rfl)<|e_u 3 rfl rfl (zg 4 ty3 rfl rfl (rg_s rgl rgl))<|e_u 4 rfl rfl (zb 3 ty30 rfl rfl (.t2 .nil))<|e_u 5 rfl rfl (zb 2 ty30 rfl rfl (.t2 .nil))<|e_u 6 rfl rfl (zb 0 ty30 rfl rfl (.t2 .nil))<|e_one 7 (zta rfl rfl rfl rfl (.c rfl (.c rfl (.c rfl .n))) ce54 (zib (ex:=((l.getD (B.getD v 0) (0,0)).1)) (ey:=((l.getD (B.getD v 0) (0,0)).2)) (fx:=(l.getD v (0,0)).1) (fy:=(l.getD v (0,0)).2) (gx:=(l.getD (yh L ((i+2+t)%L.length)) (0,0)).1) (gy:=(l.getD (yh L ((i+2+t)%L.length)) (0,0)).2) (hre:=cbo) (hrf:=cbo) (hrg:=cbo)) (.n) ?_)
     refine e_pv 8 rfl rfl (zEa (z:=(s*(yI (((l.getD (B.getD v 0) (0,0)).1),((l.getD (B.getD v 0) (0,0)).2)) (((l.getD v (0,0)).1),((l.getD v (0,0)).2)) (((l.getD (yh L ((i+2+t)%L.length)) (0,0)).1),((l.getD (yh L ((i+2+t)%L.length)) (0,0)).2))).sign)) rfl rfl (w64 om))<|e_pv 9 rfl rfl (zNa rfl rfl)<|zGb 10 rfl rfl kr kr rfl rfl (zaa rfl) (fun h14=> ?_) (fun h14=> ?_)
     ·
      refine e_dm 11 rfl rfl rfl<|e_pv 12 rfl rfl (zV rfl)<|e_pv 13 rfl rfl (zf yf rfl sz3 rfl rfl)<|e_u 14 rfl rfl (zg 4 ty3 rfl rfl (rg_s rgl rgl))<|e_u 15 rfl rfl (zb 2 ty30 rfl rfl (.t2 .nil))<|e_u 16 rfl rfl (zb 1 ty30 rfl rfl (.t2 .nil))<|e_u 17 rfl rfl (zb 0 ty30 rfl rfl (.t2 .nil))<|e_one 18 (zta rfl rfl rfl rfl (.c rfl (.c rfl (.c rfl .n))) ce54 (zib (ex:=(l.getD v (0,0)).1) (ey:=(l.getD v (0,0)).2) (fx:=((l.getD (N.getD v 0) (0,0)).1)) (fy:=((l.getD (N.getD v 0) (0,0)).2)) (gx:=(l.getD (yh L ((i+2+t)%L.length)) (0,0)).1) (gy:=(l.getD (yh L ((i+2+t)%L.length)) (0,0)).2) (hre:=cbo) (hrf:=cbo) (hrg:=cbo)) (.n) ?_)
      refine e_pv 19 rfl rfl (zEa (z:=(s*(yI (((l.getD v (0,0)).1),((l.getD v (0,0)).2)) (((l.getD (N.getD v 0) (0,0)).1),((l.getD (N.getD v 0) (0,0)).2)) (((l.getD (yh L ((i+2+t)%L.length)) (0,0)).1),((l.getD (yh L ((i+2+t)%L.length)) (0,0)).2))).sign)) rfl rfl (w64 om))<|e_pv 20 rfl rfl (zNa rfl rfl)<|e_pv 21 rfl rfl (zp rfl rfl)<|zGb 22 rfl rfl kr kr rfl rfl (zaa rfl) (fun h15=> ?_) (fun h15=> ?_)
      ·
       refine e_dm 23 rfl rfl rfl<|e_pv 24 rfl rfl (zV rfl)<|e_pv 25 rfl rfl (zf yf rfl sz3 rfl rfl)<|e_u 26 rfl rfl (zg 4 ty3 rfl rfl (rg_s rgl rgl))<|e_u 27 rfl rfl (zb 1 ty30 rfl rfl (.t2 .nil))<|e_u 28 rfl rfl (zb 3 ty30 rfl rfl (.t2 .nil))<|e_u 29 rfl rfl (zb 0 ty30 rfl rfl (.t2 .nil))<|e_one 30 (zta rfl rfl rfl rfl (.c rfl (.c rfl (.c rfl .n))) ce54 (zib (ex:=((l.getD (N.getD v 0) (0,0)).1)) (ey:=((l.getD (N.getD v 0) (0,0)).2)) (fx:=((l.getD (B.getD v 0) (0,0)).1)) (fy:=((l.getD (B.getD v 0) (0,0)).2)) (gx:=(l.getD (yh L ((i+2+t)%L.length)) (0,0)).1) (gy:=(l.getD (yh L ((i+2+t)%L.length)) (0,0)).2) (hre:=cbo) (hrf:=cbo) (hrg:=cbo)) (.n) ?_)
       refine e_pv 31 rfl rfl (zEa (z:=(s*(yI (((l.getD (N.getD v 0) (0,0)).1),((l.getD (N.getD v 0) (0,0)).2)) (((l.getD (B.getD v 0) (0,0)).1),((l.getD (B.getD v 0) (0,0)).2)) (((l.getD (yh L ((i+2+t)%L.length)) (0,0)).1),((l.getD (yh L ((i+2+t)%L.length)) (0,0)).2))).sign)) rfl rfl (w64 om))<|e_pv 32 rfl rfl (zNa rfl rfl)<|e_pv 33 rfl rfl (zp rfl rfl)<|zW kr ?_
       exact zha () tt9 ((.e rfl (congrArg Value.bool cbu) (.of rfl)):SubM _ _) (ho:=((.of [0,0,0,0,0] rfl):PickO _ _ _)) ((.of [0,1] rfl):SelR _ _ _)
      ·
       refine e_skip 23 rfl rfl<|e_skip 24 rfl rfl<|e_skip 25 rfl rfl<|e_skip 26 rfl rfl<|e_skip 27 rfl rfl<|e_skip 28 rfl rfl<|e_skip 29 rfl rfl<|e_skip 30 rfl rfl<|e_skip 31 rfl rfl<|e_skip 32 rfl rfl<|e_pv 33 rfl rfl (zp rfl rfl)<|zW kr ?_
       exact zha () tt9 ((.e rfl (congrArg Value.bool cbu) (.of rfl)):SubM _ _) (ho:=((.of [0,0,0,0,0] rfl):PickO _ _ _)) ((.of [0,1] rfl):SelR _ _ _)
     ·
      refine e_skip 11 rfl rfl<|e_skip 12 rfl rfl<|e_skip 13 rfl rfl<|e_skip 14 rfl rfl<|e_skip 15 rfl rfl<|e_skip 16 rfl rfl<|e_skip 17 rfl rfl<|e_skip 18 rfl rfl<|e_skip 19 rfl rfl<|e_skip 20 rfl rfl<|e_pv 21 rfl rfl (zp rfl rfl)<|e_dm 22 rfl rfl rfl<|e_skip 23 rfl rfl<|e_skip 24 rfl rfl<|e_skip 25 rfl rfl<|e_skip 26 rfl rfl<|e_skip 27 rfl rfl<|e_skip 28 rfl rfl<|e_skip 29 rfl rfl<|e_skip 30 rfl rfl<|e_skip 31 rfl rfl<|e_skip 32 rfl rfl<|e_pv 33 rfl rfl (zp rfl rfl)<|zW kr ?_
      exact zha () tt9 ((.e rfl (congrArg Value.bool cbu) (.of rfl)):SubM _ _) (ho:=((.of [0,0,0,0,0] rfl):PickO _ _ _)) ((.of [0,1] rfl):SelR _ _ _)
    ·
     rintro ⟨⟩ -
     try dsimp only
     refine zJ rfl (fun hin=> ?_) (fun hin=> ?_)
     ·
      refine zh<|za<|e_p (zd rfl)<|zi<|ze<|zL<|zy<|zj<|zj<|zy<|zj ?_
      exact zx Tryz.results77 () trivial (zl rfl) (congrArg Value.bool (decide_eq_false (fun h=>h.2 t htl ((hin3 t).2 ⟨hin.1.1,hin.1.2,hin.2⟩)))) (ho:=((.c (i:=4) rfl .n):PickO _ _ _)) sN
     ·
      refine zC<|zT<|ze<|za<|e_mv rfl<|e_mv rfl<|e_p (zV rfl)<|e_p (zf yf rfl sz96 rfl rfl)<|e_p (zja (i:=(yh L ((i+2+t)%L.length))) yg sz3 rfl rfl om)<|e_ru (zg 4 ty3 rfl rfl (rg_N rgl rgl om))<|e_p (zd rfl)<|zi<|zla (t+1) (show (t+1)≤L.length - 3∧∀u,u<(t+1)→¬Pg.in3I l s L i u from by exact ⟨htl,yq hall (fun h=>hin (by have h9:=(hin3 t).1 h;exact ⟨⟨h9.1,h9.2.1⟩,h9.2.2⟩))⟩) (by show L.length - 3 - (t+1)<L.length - 3 - t;omega) ((.e rfl (by rw [hg.nxm _ om];rfl) (.of rfl)):SubM _ _) (ho:=((.of [1,1,1,1] rfl):PickO _ _ _)) ((.c (j:=1) rfl .n):SelR _ _ _)
   ·
    have hte:t=L.length - 3:=by have h9:=Pg.stop_iff hg hi h3 ht;rw [← hvB] at h9;omega
    refine zqa<|zk<|zk<|zD<|ze<|zh<|za<|e_p (zd rfl)<|zi<|ze<|zL ?_
    exact zx Tryz.results77 () trivial (zl rfl) (congrArg Value.bool (decide_eq_true ⟨by omega,fun u hu=>hall u om⟩)) (ho:=((.c (i:=3) rfl .n):PickO _ _ _)) sN
  refine zca (X:=Nat×Nat×Nat) (k':=1) (L':=(lb 37 68719476735)) (fun (u31_1,u32_1,u33_1)=>([(7,yc (some ⟨u33_1,0,none⟩)),(6,yc (some ⟨u32_1,0,none⟩)),(5,yc (some ⟨u31_1,0,none⟩)),(44,.agg #[ya yb qd1,ya yb qd2]),(4,.bool false),(0,yc (some ⟨b,0,none⟩)),(1,ya yb ((v:Nat):Int))],[boxA u32_1 30 [ya yb ((l.getD v (0,0)).1),ya yb ((l.getD v (0,0)).2)],boxA u31_1 30 [ya yb qd3,ya yb qd4],boxA u33_1 30 [ya yb 0,ya yb 0]],[boxA b 98 (rgC p n cap B N kk s)],[slF (rI2 .i64) p cap l])) ?_ (fun hD1=> ?_)
  ·
   rintro ⟨u31_1,u32_1,u33_1⟩
   dsimp only
   refine zya 36 kr ?_
   ·
    refine zPb (zfa (i:=2) rfl)<|zr kr rfl rfl rfl rfl rfl sz30 rfl (.t2 .nil) ?_
    exact zH (hD0 (u31_1,u32_1,u33_1)) kr (mR rfl) .rfl .rfl (s0 rfl)
  refine zca (X:=Nat×Nat×Nat) (k':=2) (L':=(lb 37 34359738367)) (fun (u31_1,u32_1,u33_1)=>([(7,yc (some ⟨u33_1,0,none⟩)),(6,yc (some ⟨u32_1,0,none⟩)),(5,yc (some ⟨u31_1,0,none⟩)),(44,.agg #[ya yb qd1,ya yb qd2]),(32,.agg #[ya yb ((l.getD v (0,0)).1),ya yb ((l.getD v (0,0)).2)]),(4,.bool false),(0,yc (some ⟨b,0,none⟩)),(1,ya yb ((v:Nat):Int))],[boxA u31_1 30 [ya yb qd3,ya yb qd4],boxA u33_1 30 [ya yb 0,ya yb 0],boxA u32_1 30 [ya yb 0,ya yb 0]],[boxA b 98 (rgC p n cap B N kk s)],[slF (rI2 .i64) p cap l])) ?_ (fun hD2=> ?_)
  ·
   rintro ⟨u31_1,u32_1,u33_1⟩
   dsimp only
   refine zya 35 kr ?_
   ·
    refine zPb (zfa (i:=2) rfl)<|zr kr rfl rfl rfl rfl rfl sz30 rfl (.t2 .nil) ?_
    exact zH (hD1 (u31_1,u32_1,u33_1)) kr (mR rfl) .rfl .rfl (s0 rfl)
  refine zca (X:=Nat×Nat×Nat) (k':=3) (L':=(lb 37 17179869183)) (fun (u31_1,u32_1,u33_1)=>([(7,yc (some ⟨u33_1,0,none⟩)),(6,yc (some ⟨u32_1,0,none⟩)),(5,yc (some ⟨u31_1,0,none⟩)),(44,.agg #[ya yb qd1,ya yb qd2]),(32,.agg #[ya yb ((l.getD v (0,0)).1),ya yb ((l.getD v (0,0)).2)]),(25,.agg #[ya yb qd3,ya yb qd4]),(4,.bool false),(0,yc (some ⟨b,0,none⟩)),(1,ya yb ((v:Nat):Int))],[boxA u33_1 30 [ya yb 0,ya yb 0],boxA u32_1 30 [ya yb 0,ya yb 0],boxA u31_1 30 [ya yb 0,ya yb 0]],[boxA b 98 (rgC p n cap B N kk s)],[slF (rI2 .i64) p cap l])) ?_ (fun hD3=> ?_)
  ·
   rintro ⟨u31_1,u32_1,u33_1⟩
   dsimp only
   refine zya 34 kr ?_
   ·
    refine zPb (zfa (i:=2) rfl)<|zr kr rfl rfl rfl rfl rfl sz30 rfl (.t2 .nil) ?_
    exact zH (hD2 (u31_1,u32_1,u33_1)) kr (mR rfl) .rfl .rfl (s0 rfl)
  refine zca (X:=Nat×Nat) (k':=4) (L':=(lb 37 8589934591)) (fun (u31_1,u32_1)=>([(6,yc (some ⟨u32_1,0,none⟩)),(5,yc (some ⟨u31_1,0,none⟩)),(44,.agg #[ya yb qd1,ya yb qd2]),(32,.agg #[ya yb ((l.getD v (0,0)).1),ya yb ((l.getD v (0,0)).2)]),(25,.agg #[ya yb qd3,ya yb qd4]),(4,.bool false),(0,yc (some ⟨b,0,none⟩)),(1,ya yb ((v:Nat):Int))],[boxA u32_1 30 [ya yb 0,ya yb 0],boxA u31_1 30 [ya yb 0,ya yb 0]],[boxA b 98 (rgC p n cap B N kk s)],[slF (rI2 .i64) p cap l])) ?_ (fun hD4=> ?_)
  ·
   rintro ⟨u31_1,u32_1⟩
   dsimp only
   refine zya 33 kr ?_
   ·
    refine zma rfl rfl rfl rfl (zn zr30 rfl) (fun u33_1 _=> ?_)
    exact zH (hD3 (u31_1,u32_1,u33_1)) kr (mR rfl) .rfl .rfl (s0 rfl)
  refine zca (X:=Nat×Nat) (k':=4) (L':=(lb 37 12884901887)) (fun (u31_1,u33_1)=>([(7,yc (some ⟨u33_1,0,none⟩)),(5,yc (some ⟨u31_1,0,none⟩)),(44,.agg #[ya yb qd1,ya yb qd2]),(32,.agg #[ya yb ((l.getD v (0,0)).1),ya yb ((l.getD v (0,0)).2)]),(25,.agg #[ya yb qd3,ya yb qd4]),(4,.bool false),(0,yc (some ⟨b,0,none⟩)),(1,ya yb ((v:Nat):Int))],[boxA u33_1 30 [ya yb 0,ya yb 0],boxA u31_1 30 [ya yb 0,ya yb 0]],[boxA b 98 (rgC p n cap B N kk s)],[slF (rI2 .i64) p cap l])) ?_ (fun hD5=> ?_)
  ·
   rintro ⟨u31_1,u33_1⟩
   dsimp only
   refine zya 32 kr ?_
   ·
    refine zma rfl rfl rfl rfl (zn zr30 rfl) (fun u32_1 _=> ?_)
    exact zH (hD3 (u31_1,u32_1,u33_1)) kr (mR rfl) (zJa 1 rfl (zJa 0 rfl (zJa 0 rfl .nil))) .rfl (s0 rfl)
  refine zca (X:=Nat×Nat) (k':=4) (L':=(lb 37 15032385535)) (fun (u32_1,u33_1)=>([(7,yc (some ⟨u33_1,0,none⟩)),(6,yc (some ⟨u32_1,0,none⟩)),(44,.agg #[ya yb qd1,ya yb qd2]),(32,.agg #[ya yb ((l.getD v (0,0)).1),ya yb ((l.getD v (0,0)).2)]),(25,.agg #[ya yb qd3,ya yb qd4]),(4,.bool false),(0,yc (some ⟨b,0,none⟩)),(1,ya yb ((v:Nat):Int))],[boxA u33_1 30 [ya yb 0,ya yb 0],boxA u32_1 30 [ya yb 0,ya yb 0]],[boxA b 98 (rgC p n cap B N kk s)],[slF (rI2 .i64) p cap l])) ?_ (fun hD6=> ?_)
  ·
   rintro ⟨u32_1,u33_1⟩
   dsimp only
   refine zya 31 kr ?_
   ·
    refine zma rfl rfl rfl rfl (zn zr30 rfl) (fun u31_1 _=> ?_)
    exact zH (hD3 (u31_1,u32_1,u33_1)) kr (mR rfl) (zJa 1 rfl (zJa 1 rfl (zJa 0 rfl .nil))) .rfl (s0 rfl)
  refine zca (X:=Nat) (k':=5) (L':=(lb 37 4294967295)) (fun u31_1=>([(5,yc (some ⟨u31_1,0,none⟩)),(44,.agg #[ya yb qd1,ya yb qd2]),(32,.agg #[ya yb ((l.getD v (0,0)).1),ya yb ((l.getD v (0,0)).2)]),(25,.agg #[ya yb qd3,ya yb qd4]),(4,.bool false),(0,yc (some ⟨b,0,none⟩)),(1,ya yb ((v:Nat):Int))],[boxA u31_1 30 [ya yb 0,ya yb 0]],[boxA b 98 (rgC p n cap B N kk s)],[slF (rI2 .i64) p cap l])) ?_ (fun hD7=> ?_)
  ·
   rintro u31_1
   dsimp only
   refine zdb 32 33 kr ?_ ?_
   ·
    refine zma rfl rfl rfl rfl (zn zr30 rfl) (fun u32_1 _=> ?_)
    exact zH (hD4 (u31_1,u32_1)) kr (mR rfl) .rfl .rfl (s0 rfl)
   ·
    refine zma rfl rfl rfl rfl (zn zr30 rfl) (fun u33_1 _=> ?_)
    exact zH (hD5 (u31_1,u33_1)) kr (mR rfl) .rfl .rfl (s0 rfl)
  refine zca (X:=Nat) (k':=5) (L':=(lb 37 6442450943)) (fun u32_1=>([(6,yc (some ⟨u32_1,0,none⟩)),(44,.agg #[ya yb qd1,ya yb qd2]),(32,.agg #[ya yb ((l.getD v (0,0)).1),ya yb ((l.getD v (0,0)).2)]),(25,.agg #[ya yb qd3,ya yb qd4]),(4,.bool false),(0,yc (some ⟨b,0,none⟩)),(1,ya yb ((v:Nat):Int))],[boxA u32_1 30 [ya yb 0,ya yb 0]],[boxA b 98 (rgC p n cap B N kk s)],[slF (rI2 .i64) p cap l])) ?_ (fun hD8=> ?_)
  ·
   rintro u32_1
   dsimp only
   refine zdb 31 33 kr ?_ ?_
   ·
    refine zma rfl rfl rfl rfl (zn zr30 rfl) (fun u31_1 _=> ?_)
    exact zH (hD4 (u31_1,u32_1)) kr (mR rfl) (zJa 1 rfl (zJa 0 rfl .nil)) .rfl (s0 rfl)
   ·
    refine zma rfl rfl rfl rfl (zn zr30 rfl) (fun u33_1 _=> ?_)
    exact zH (hD6 (u32_1,u33_1)) kr (mR rfl) .rfl .rfl (s0 rfl)
  refine zca (X:=Nat) (k':=5) (L':=(lb 37 10737418239)) (fun u33_1=>([(7,yc (some ⟨u33_1,0,none⟩)),(44,.agg #[ya yb qd1,ya yb qd2]),(32,.agg #[ya yb ((l.getD v (0,0)).1),ya yb ((l.getD v (0,0)).2)]),(25,.agg #[ya yb qd3,ya yb qd4]),(4,.bool false),(0,yc (some ⟨b,0,none⟩)),(1,ya yb ((v:Nat):Int))],[boxA u33_1 30 [ya yb 0,ya yb 0]],[boxA b 98 (rgC p n cap B N kk s)],[slF (rI2 .i64) p cap l])) ?_ (fun hD9=> ?_)
  ·
   rintro u33_1
   dsimp only
   refine zdb 31 32 kr ?_ ?_
   ·
    refine zma rfl rfl rfl rfl (zn zr30 rfl) (fun u31_1 _=> ?_)
    exact zH (hD5 (u31_1,u33_1)) kr (mR rfl) (zJa 1 rfl (zJa 0 rfl .nil)) .rfl (s0 rfl)
   ·
    refine zma rfl rfl rfl rfl (zn zr30 rfl) (fun u32_1 _=> ?_)
    exact zH (hD6 (u32_1,u33_1)) kr (mR rfl) (zJa 1 rfl (zJa 0 rfl .nil)) .rfl (s0 rfl)
  refine zsd 31 32 33 kr ?_ ?_ ?_
  ·
   refine zma rfl rfl rfl rfl (zn zr30 rfl) (fun u31_1 _=> ?_)
   exact zH (hD7 u31_1) kr (mR rfl) .rfl .rfl (s0 rfl)
  ·
   refine zma rfl rfl rfl rfl (zn zr30 rfl) (fun u32_1 _=> ?_)
   exact zH (hD8 u32_1) kr (mR rfl) .rfl .rfl (s0 rfl)
  ·
   refine zma rfl rfl rfl rfl (zn zr30 rfl) (fun u33_1 _=> ?_)
   exact zH (hD9 u33_1) kr (mR rfl) .rfl .rfl (s0 rfl)
end Go.Proofs.YtjcpbhlijoigfaaGreat.Sp
namespace Go.Proofs.YtjcpbhlijoigfaaGreat.Sp
open Go
set_option linter.unusedVariables false
set_option maxRecDepth 100000
set_option maxHeartbeats 8000000
theorem zOf {z:Int}:Con yl 79 [ya yb z] [] [] (Y:=Unit) (fun y=>True) (fun y=> .bool true) (fun y=>[]) (fun y=>[]):=by
 refine zo Tryz.func79 rfl rfl rfl (fun c=> ?_)
 show RunC _ _ _ _ _ [(0,ya yb z)] [] []
 refine zh<|za<|e_p (zd rfl)<|zi<|ze<|zh<|za<|e_p (zd rfl)<|zi<|ze<|zL ?_
 exact zx Tryz.results79 () trivial (zl rfl) rfl (ho:=oN) sN
theorem zcf {b:Nat} {p:Option Addr} {n:Nat} {cap:Nat} {l:List Pg.P2} {B:List Nat} {N:List Nat} {kk:Int} {s:Int} {L:List Nat} {pb:Option Addr} {nb:Nat} {cb:Nat} {G:List Bool} (hn:l.length=n) (hg:Pg.Rg n L B N) (hrng:∀x∈l,yr x) (hs:s=1∨s= -1) (hG:Pg.Gn n L G) (hnb:G.length=nb) (h3:3≤L.length):Con yl 76 [yc (some ⟨b,0,none⟩),.slice pb nb cb,.func (.func 77) #[yc (some ⟨b,0,none⟩)] #[]] [boxA b 98 (rgC p n cap B N kk s),rowA 4 rB pb cb G] [slF (rI2 .i64) p cap l] (Y:=Int) (fun y=>Pg.Fst L (yJ l s L) y) (fun y=> ya yb y) (fun y=>[boxA b 98 (rgC p n cap B N kk s),rowA 4 rB pb cb G]) (fun y=>[]):=by
 refine zo Tryz.func76 rfl rfl rfl (fun c=> ?_)
 show RunC _ _ _ _ _ [(0,yc (some ⟨b,0,none⟩)),(1,.slice pb nb cb),(2,.func (.func 77) #[yc (some ⟨b,0,none⟩)] #[])] [boxA b 98 (rgC p n cap B N kk s),rowA 4 rB pb cb G] [slF (rI2 .i64) p cap l]
 refine zea 0 rfl (fun hL0=> ?_)
 have hLB:=hg.lb
 have hLN:=hg.ln
 have hn64:=hg.n64
 have hGn:=hG.1
 refine zh<|za<|e_p (zd rfl)<|zi<|ze<|zh<|zh<|za<|e_mv rfl<|e_p (zV rfl)<|e_p (zf yf rfl sz22 rfl rfl)<|e_ru (zg 0 ty22 rfl rfl rfl)<|e_p (zR yd rfl)<|e_mv rfl<|zi<|ze<|zE<|zra (X:=Nat×Nat) (fun x:Nat×Nat=>Pg.Fs n L (yJ l s L) x.1 x.2) (fun x=>[(13,ya yb ((x.1:Nat):Int)),(12,ya yb ((n:Nat):Int)),(1,.slice pb nb cb),(2,.func (.func 77) #[yc (some ⟨b,0,none⟩)] #[])]) (fun x=>[boxA b 98 (rgC p n cap B N kk s),rowA 4 rB pb cb G]) (fun x=>[slF (rI2 .i64) p cap l]) (fun x:Nat×Nat=>n - x.1) (0,0) (show Pg.Fs n L (yJ l s L) 0 0 from by exact Pg.Fs.zero) ((.e rfl cgs (.of rfl)):SubM _ _) (ho:=((.of [0,0] rfl):PickO _ _ _)) (s0 rfl) ?_
 rintro ⟨v,k⟩ hF
 replace hF:Pg.Fs n L (yJ l s L) v k:=hF
 try dsimp only
 have hvn:=hF.vn
 refine zh<|za<|e_p (zda rfl rfl)<|zi<|ze<|zh<|zJ rfl (fun h1=> ?_) (fun h1=> ?_)
 ·
  refine zC<|ze<|zh<|zE<|zh<|za<|e_mv rfl<|e_p (zd rfl)<|zi<|ze<|zGa (X:=Unit) (fun x=>True) (fun x=>[(25,.bool (decide (((!(G.getD v false))=true)∧(yJ l s L k)))),(7,ya yb ((v:Nat):Int)),(13,ya yb ((v:Nat):Int)),(12,ya yb ((n:Nat):Int)),(1,.slice pb nb cb),(2,.func (.func 77) #[yc (some ⟨b,0,none⟩)] #[])]) (fun x=>[boxA b 98 (rgC p n cap B N kk s),rowA 4 rB pb cb G]) (fun x=>[slF (rI2 .i64) p cap l]) ?_ ?_
  ·
   refine za<|e_mv rfl<|e_mv rfl<|e_ru (zsa 1 v rfl yC sz4 rfl (by first|rfl|simp_all|omega) rfl rfl om)<|r_vl rfl rfl (zpa 1 v rfl ty4 rfl rfl (gD (d:=false) om) rfl) (fun _ hok2=> ?_)
   refine e_p (zOb rfl)<|zDe rfl rfl (zaa rfl) (fun hgo=> ?_) (fun hgo=> ?_)
   ·
    refine e_mv rfl<|e_mv rfl<|zvc (A:=[boxA b 98 (rgC p n cap B N kk s)]) (F:=[rowA 4 rB pb cb G]) (first:=[yc (some ⟨b,0,none⟩)]) (cap:=[]) rfl rfl rfl (.c rfl .n) ce77 (zAg (b:=b) (p:=p) (n:=n) (cap:=cap) (l:=l) (B:=B) (N:=N) (kk:=kk) (s:=s) (L:=L) (v:=v) (i:=k) (hn:=ass) (hg:=ass) (hrng:=ass) (hs:=ass) (hi:=by first|rfl|assumption|omega|exact (hF.here hg hG om (by first|assumption|simp_all)).1|exact (hF.here hg hG om (by first|assumption|simp_all)).2) (hv:=by first|rfl|assumption|omega|exact (hF.here hg hG om (by first|assumption|simp_all)).1|exact (hF.here hg hG om (by first|assumption|simp_all)).2) (h3:=ass)) (.c (j:=0) rfl .n) ?_
    rintro ⟨⟩ -
    dsimp only [aq,nq,cq]
    refine e_p (zp rfl rfl)<|zi ?_
    exact zha () tt9 ((.e rfl (congrArg Value.bool cbu) (.of rfl)):SubM _ _) (ho:=((.of [0,0] rfl):PickO _ _ _)) (s0 rfl)
   ·
    refine e_no<|e_no<|e_no<|e_p (zp rfl rfl)<|zi ?_
    exact zha () tt9 ((.e rfl (congrArg Value.bool cbu) (.of rfl)):SubM _ _) (ho:=((.of [0,0] rfl):PickO _ _ _)) (s0 rfl)
  ·
   rintro ⟨⟩ -
   try dsimp only
   refine zJ rfl (fun hear=> ?_) (fun hear=> ?_)
   ·
    refine zh<|za<|e_mv rfl<|e_p (zd rfl)<|zi<|ze<|zL<|zy<|zj<|zj<|zy<|zj ?_
    exact zx yK ((v:Nat):Int) (.inl ⟨k,(hF.here hg hG om (by first|assumption|simp_all)).1,by rw [(hF.here hg hG om (by first|assumption|simp_all)).2],hear.2,hF.no⟩) (zl rfl) rfl (ho:=((.of [0,0] rfl):PickO _ _ _)) sN
   ·
    refine zC<|zT<|ze<|za<|e_p (zO (z:=(((v+1):Nat):Int)) rfl rfl (w64 om))<|e_mv rfl<|zi<|zla ((v+1),(if G.getD v false=true then k else k+1)) (show Pg.Fs n L (yJ l s L) (v+1) (if G.getD v false=true then k else k+1) from by by_cases hgb:G.getD v false=true;(rw [if_pos hgb];exact hF.skip hG om hgb);(rw [if_neg hgb];exact hF.next hg om (hF.here hg hG om hgb) (fun h9=>hear (by first|exact ⟨by simpa using hgb,h9⟩|simpa using hgb)))) (by show n - (v+1)<n - v;omega) (mR rfl) (ho:=((.of [0,0] rfl):PickO _ _ _)) (s0 rfl)
 ·
  refine zqa<|zk<|zk<|zD<|ze<|zh<|za<|e_p (zd rfl)<|zi<|ze<|zL ?_
  exact zx yK (-1) (.inr ⟨rfl,Pg.Fs.fin (n:=n) (by have h9:v=n:=om;rw [h9] at hF;exact hF) hg⟩) (zl rfl) rfl (ho:=((.of [0,0] rfl):PickO _ _ _)) sN
theorem zdf {b:Nat} {p:Option Addr} {n:Nat} {cap:Nat} {l:List Pg.P2} {B:List Nat} {N:List Nat} {kk:Int} {s:Int} {L:List Nat} {pb:Option Addr} {nb:Nat} {cb:Nat} {G:List Bool} (hn:l.length=n) (hg:Pg.Rg n L B N) (hrng:∀x∈l,yr x) (hs:s=1∨s= -1) (hG:Pg.Gn n L G) (hnb:G.length=nb) (h3:3≤L.length):Con yl 76 [yc (some ⟨b,0,none⟩),.slice pb nb cb,.func (.func 79) #[] #[]] [boxA b 98 (rgC p n cap B N kk s),rowA 4 rB pb cb G] [slF (rI2 .i64) p cap l] (Y:=Int) (fun y=>Pg.Fst L (fun _=>True) y) (fun y=> ya yb y) (fun y=>[boxA b 98 (rgC p n cap B N kk s),rowA 4 rB pb cb G]) (fun y=>[]):=by
 refine zo Tryz.func76 rfl rfl rfl (fun c=> ?_)
 show RunC _ _ _ _ _ [(0,yc (some ⟨b,0,none⟩)),(1,.slice pb nb cb),(2,.func (.func 79) #[] #[])] [boxA b 98 (rgC p n cap B N kk s),rowA 4 rB pb cb G] [slF (rI2 .i64) p cap l]
 refine zea 0 rfl (fun hL0=> ?_)
 have hLB:=hg.lb
 have hLN:=hg.ln
 have hn64:=hg.n64
 have hGn:=hG.1
 refine zh<|za<|e_p (zd rfl)<|zi<|ze<|zh<|zh<|za<|e_mv rfl<|e_p (zV rfl)<|e_p (zf yf rfl sz22 rfl rfl)<|e_ru (zg 0 ty22 rfl rfl rfl)<|e_p (zR yd rfl)<|e_mv rfl<|zi<|ze<|zE<|zra (X:=Nat×Nat) (fun x:Nat×Nat=>Pg.Fs n L (fun _=>True) x.1 x.2) (fun x=>[(13,ya yb ((x.1:Nat):Int)),(12,ya yb ((n:Nat):Int)),(1,.slice pb nb cb),(2,.func (.func 79) #[] #[])]) (fun x=>[boxA b 98 (rgC p n cap B N kk s),rowA 4 rB pb cb G]) (fun x=>[slF (rI2 .i64) p cap l]) (fun x:Nat×Nat=>n - x.1) (0,0) (show Pg.Fs n L (fun _=>True) 0 0 from by exact Pg.Fs.zero) ((.e rfl cgs (.of rfl)):SubM _ _) (ho:=((.of [0,0] rfl):PickO _ _ _)) (s0 rfl) ?_
 rintro ⟨v,k⟩ hF
 replace hF:Pg.Fs n L (fun _=>True) v k:=hF
 try dsimp only
 have hvn:=hF.vn
 refine zh<|za<|e_p (zda rfl rfl)<|zi<|ze<|zh<|zJ rfl (fun h1=> ?_) (fun h1=> ?_)
 ·
  refine zC<|ze<|zh<|zE<|zh<|za<|e_mv rfl<|e_p (zd rfl)<|zi<|ze<|zGa (X:=Unit) (fun x=>True) (fun x=>[(25,.bool (decide (((!(G.getD v false))=true)∨False))),(7,ya yb ((v:Nat):Int)),(13,ya yb ((v:Nat):Int)),(12,ya yb ((n:Nat):Int)),(1,.slice pb nb cb),(2,.func (.func 79) #[] #[])]) (fun x=>[boxA b 98 (rgC p n cap B N kk s),rowA 4 rB pb cb G]) (fun x=>[slF (rI2 .i64) p cap l]) ?_ ?_
  ·
   refine za<|e_mv rfl<|e_mv rfl<|e_ru (zsa 1 v rfl yC sz4 rfl (by first|rfl|simp_all|omega) rfl rfl om)<|r_vl rfl rfl (zpa 1 v rfl ty4 rfl rfl (gD (d:=false) om) rfl) (fun _ hok2=> ?_)
   refine e_p (zOb rfl)<|zDe rfl rfl (zaa rfl) (fun hgo=> ?_) (fun hgo=> ?_)
   ·
    refine e_mv rfl<|e_mv rfl<|zFc (first:=[]) (cap:=[]) rfl rfl rfl (.c rfl .n) ce79 (zOf (z:=((v:Nat):Int))) (.n) ?_
    rintro ⟨⟩ -
    dsimp only [aq,nq,cq]
    refine e_p (zp rfl rfl)<|zi ?_
    exact zha () tt9 ((.e rfl (congrArg Value.bool cbu) (.of rfl)):SubM _ _) (ho:=((.of [0,0] rfl):PickO _ _ _)) (s0 rfl)
   ·
    refine e_no<|e_no<|e_no<|e_p (zp rfl rfl)<|zi ?_
    exact zha () tt9 ((.e rfl (congrArg Value.bool cbu) (.of rfl)):SubM _ _) (ho:=((.of [0,0] rfl):PickO _ _ _)) (s0 rfl)
  ·
   rintro ⟨⟩ -
   try dsimp only
   refine zJ rfl (fun hear=> ?_) (fun hear=> ?_)
   ·
    refine zh<|za<|e_mv rfl<|e_p (zd rfl)<|zi<|ze<|zL<|zy<|zj<|zj<|zy<|zj ?_
    exact zx yK ((v:Nat):Int) (.inl ⟨k,(hF.here hg hG om (by first|assumption|simp_all)).1,by rw [(hF.here hg hG om (by first|assumption|simp_all)).2],trivial,hF.no⟩) (zl rfl) rfl (ho:=((.of [0,0] rfl):PickO _ _ _)) sN
   ·
    refine zC<|zT<|ze<|za<|e_p (zO (z:=(((v+1):Nat):Int)) rfl rfl (w64 om))<|e_mv rfl<|zi<|zla ((v+1),(if G.getD v false=true then k else k+1)) (show Pg.Fs n L (fun _=>True) (v+1) (if G.getD v false=true then k else k+1) from by by_cases hgb:G.getD v false=true;(rw [if_pos hgb];exact hF.skip hG om hgb);(rw [if_neg hgb];exact hF.next hg om (hF.here hg hG om hgb) (fun h9=>hear (by first|exact ⟨by simpa using hgb,h9⟩|simpa using hgb)))) (by show n - (v+1)<n - v;omega) (mR rfl) (ho:=((.of [0,0] rfl):PickO _ _ _)) (s0 rfl)
 ·
  refine zqa<|zk<|zk<|zD<|ze<|zh<|za<|e_p (zd rfl)<|zi<|ze<|zL ?_
  exact zx yK (-1) (.inr ⟨rfl,Pg.Fs.fin (n:=n) (by have h9:v=n:=om;rw [h9] at hF;exact hF) hg⟩) (zl rfl) rfl (ho:=((.of [0,0] rfl):PickO _ _ _)) sN
end Go.Proofs.YtjcpbhlijoigfaaGreat.Sp
namespace Go.Proofs.YtjcpbhlijoigfaaGreat.Sp
open Go
set_option maxRecDepth 100000
theorem zr98:Zero yl 98 (.agg #[.slice none 0 0,.int .i64 0,.int .i64 0,.int .i64 0,.int .i64 0,.int .i64 0,.int .i64 0,.int .i64 0,.int .i64 0,.int .i64 0,.int .i64 0,.int .i64 0,.int .i64 0,.int .i64 0,.int .i64 0,.int .i64 0,.int .i64 0,.int .i64 0,.int .i64 0,.int .i64 0,.int .i64 0,.int .i64 0,.int .i64 0,.int .i64 0,.int .i64 0,.int .i64 0,.int .i64 0,.int .i64 0,.int .i64 0,.int .i64 0,.int .i64 0,.int .i64 0,.int .i64 0,.int .i64 0,.int .i64 0,.int .i64 0,.int .i64 0,.int .i64 0,.int .i64 0,.int .i64 0,.int .i64 0,.int .i64 0,.int .i64 0,.int .i64 0,.int .i64 0,.int .i64 0,.int .i64 0,.int .i64 0,.int .i64 0,.int .i64 0,.int .i64 0,.int .i64 0,.int .i64 0,.int .i64 0,.int .i64 0,.int .i64 0,.int .i64 0,.int .i64 0,.int .i64 0,.int .i64 0,.int .i64 0,.int .i64 0,.int .i64 0,.int .i64 0,.int .i64 0,.int .i64 0,.int .i64 0,.int .i64 0,.int .i64 0,.int .i64 0,.int .i64 0,.int .i64 0,.int .i64 0,.int .i64 0,.int .i64 0,.int .i64 0,.int .i64 0,.int .i64 0,.int .i64 0,.int .i64 0,.int .i64 0,.int .i64 0,.int .i64 0,.int .i64 0,.int .i64 0,.int .i64 0,.int .i64 0,.int .i64 0,.int .i64 0,.int .i64 0,.int .i64 0,.int .i64 0,.int .i64 0,.int .i64 0,.int .i64 0,.int .i64 0,.int .i64 0,.int .i64 0,.int .i64 0,.int .i64 0,.int .i64 0,.int .i64 0,.int .i64 0,.int .i64 0,.int .i64 0,.int .i64 0,.int .i64 0,.int .i64 0,.int .i64 0,.int .i64 0,.int .i64 0,.int .i64 0,.int .i64 0,.int .i64 0,.int .i64 0,.int .i64 0,.int .i64 0,.int .i64 0,.int .i64 0,.int .i64 0,.int .i64 0,.int .i64 0,.int .i64 0,.int .i64 0,.int .i64 0,.int .i64 0,.int .i64 0,.int .i64 0,.int .i64 0,.int .i64 0,.int .i64 0]):=by unfold Zero;kernel_rfl
end Go.Proofs.YtjcpbhlijoigfaaGreat.Sp
namespace Go.Proofs.YtjcpbhlijoigfaaGreat.Sp
open Go
set_option linter.unusedVariables false
set_option maxRecDepth 100000
set_option maxHeartbeats 8000000
theorem zte {p:Option Addr} {n:Nat} {cap:Nat} {l:List Pg.P2} (hn:l.length=n) (h64:n≤64) (hrng:∀x∈l,yr x):Con yl 75 [.slice p n cap] [] [slF (rI2 .i64) p cap l] (Y:=Nat×(List Nat)×(List Nat)) (fun y=>Pg.Rg n (List.range n) y.2.1 y.2.2) (fun y=> yc (some ⟨y.1,0,none⟩)) (fun y=>[boxA y.1 98 (rgC p n cap (y.2.1) (y.2.2) ((n:Nat):Int) (yD l))]) (fun y=>[]):=by
 refine zo Tryz.func75 rfl rfl rfl (fun c=> ?_)
 show RunC _ _ _ _ _ [(0,.slice p n cap)] [] [slF (rI2 .i64) p cap l]
 refine zea 0 rfl (fun hL0=> ?_)
 refine zh<|za<|e_p (zd rfl)<|zi<|ze<|zh<|za<|e_mv rfl<|e_mv rfl<|e_p (zR yd rfl)<|e_p (zK zr98 rfl yf (.c sz22 (.c sz96 (.c sz96 (.c sz3 (.c sz3 .n))))) (.c rfl (.c rfl (.c rfl .n))) (.c rfl rfl rfl (.take .nil) (.c rfl rfl rfl (.s8 (.s8 (.s8 (.s8 (.s8 (.s8 (.s8 (.s8 (.s8 (.s8 (.s8 (.s8 (.s8 (.s8 (.s8 (.s8 (.skip (.take .nil)))))))))))))))))) (.c rfl rfl rfl (.s8 (.s8 (.s8 (.s8 (.s8 (.s8 (.s8 (.s8 (.s8 (.s8 (.s8 (.s8 (.s8 (.s8 (.s8 (.s8 (.s2 (.take .nil)))))))))))))))))) .n))))<|zP rfl rfl (zS rfl rfl) (fun b1=> ?_)
 refine e_p (zd rfl)<|zi<|ze<|zh<|zh<|za<|e_mv rfl<|zQ rfl rfl (.c rfl .n) ce47 (zfd (p:=p) (n:=n) (cap:=cap) (l:=l) (hn:=ass) (h64:=ass) (hrng:=ass)) (.c (j:=0) rfl .n)<|e_p (zda rfl rfl)<|zi<|ze<|zJ rfl (fun hneg=> ?_) (fun hneg=> ?_)
 ·
  refine za<|e_mv rfl<|e_p (zV rfl)<|e_p (zf yf rfl sz3 rfl rfl)<|zm 0 rfl rfl rfl rfl rfl sz3 rfl (.s8 (.s8 (.s8 (.s8 (.s8 (.s8 (.s8 (.s8 (.s8 (.s8 (.s8 (.s8 (.s8 (.s8 (.s8 (.s8 (.s2 (.take .nil)))))))))))))))))) .z<|zi<|ze<|zh<|zh ?_
  change RunC _ _ _ _ _ [(15,yc (some ⟨b1,130,none⟩)),(14,yc (some ⟨b1,0,none⟩)),(13,yc (some ⟨b1,0,none⟩)),(12,.bool (decide (yz l<0))),(11,ya yb (yz l)),(10,.slice p n cap),(3,yc (some ⟨b1,0,none⟩)),(9,yc (some ⟨b1,0,none⟩)),(8,.agg #[.slice p n cap,ya yb 0,ya yb 0,ya yb 0,ya yb 0,ya yb 0,ya yb 0,ya yb 0,ya yb 0,ya yb 0,ya yb 0,ya yb 0,ya yb 0,ya yb 0,ya yb 0,ya yb 0,ya yb 0,ya yb 0,ya yb 0,ya yb 0,ya yb 0,ya yb 0,ya yb 0,ya yb 0,ya yb 0,ya yb 0,ya yb 0,ya yb 0,ya yb 0,ya yb 0,ya yb 0,ya yb 0,ya yb 0,ya yb 0,ya yb 0,ya yb 0,ya yb 0,ya yb 0,ya yb 0,ya yb 0,ya yb 0,ya yb 0,ya yb 0,ya yb 0,ya yb 0,ya yb 0,ya yb 0,ya yb 0,ya yb 0,ya yb 0,ya yb 0,ya yb 0,ya yb 0,ya yb 0,ya yb 0,ya yb 0,ya yb 0,ya yb 0,ya yb 0,ya yb 0,ya yb 0,ya yb 0,ya yb 0,ya yb 0,ya yb 0,ya yb 0,ya yb 0,ya yb 0,ya yb 0,ya yb 0,ya yb 0,ya yb 0,ya yb 0,ya yb 0,ya yb 0,ya yb 0,ya yb 0,ya yb 0,ya yb 0,ya yb 0,ya yb 0,ya yb 0,ya yb 0,ya yb 0,ya yb 0,ya yb 0,ya yb 0,ya yb 0,ya yb 0,ya yb 0,ya yb 0,ya yb 0,ya yb 0,ya yb 0,ya yb 0,ya yb 0,ya yb 0,ya yb 0,ya yb 0,ya yb 0,ya yb 0,ya yb 0,ya yb 0,ya yb 0,ya yb 0,ya yb 0,ya yb 0,ya yb 0,ya yb 0,ya yb 0,ya yb 0,ya yb 0,ya yb 0,ya yb 0,ya yb 0,ya yb 0,ya yb 0,ya yb 0,ya yb 0,ya yb 0,ya yb 0,ya yb 0,ya yb 0,ya yb 0,ya yb 0,ya yb 0,ya yb 0,ya yb 0,ya yb 0,ya yb ((n:Nat):Int),ya yb 1]),(7,ya yb ((n:Nat):Int)),(6,.slice p n cap),(5,.slice p n cap),(2,.pointer none),(0,.slice p n cap)] [boxA b1 98 (rgC p n cap (List.replicate 64 0) (List.replicate 64 0) ((n:Nat):Int) (-1))] [slF (rI2 .i64) p cap l]
  have e2:(rgC p n cap (List.replicate 64 0) (List.replicate 64 0) ((n:Nat):Int) (-1))=(rgC p n cap (List.replicate 64 0) (List.replicate 64 0) ((n:Nat):Int) (yD l)):=by rw [Pg.sg_neg hneg]
  rw [e2]
  refine za<|e_mv rfl<|e_p (zR yd rfl)<|e_mv rfl<|zi<|ze<|zE<|zra (X:=Nat×(List Nat)×(List Nat)) (fun x:Nat×(List Nat)×(List Nat)=>x.1≤n∧x.2.1.length=64∧x.2.2.length=64∧∀u,u<x.1→x.2.1.getD u 0=(u+n - 1)%n∧x.2.2.getD u 0=(u+1)%n) (fun x=>[(18,ya yb ((x.1:Nat):Int)),(17,ya yb ((n:Nat):Int)),(3,yc (some ⟨b1,0,none⟩)),(2,.pointer none),(0,.slice p n cap)]) (fun x=>[boxA b1 98 (rgC p n cap (x.2.1) (x.2.2) ((n:Nat):Int) (yD l))]) (fun x=>[slF (rI2 .i64) p cap l]) (fun x:Nat×(List Nat)×(List Nat)=>n - x.1) (0,(List.replicate 64 0),(List.replicate 64 0)) (show 0≤n∧(List.replicate 64 0).length=64∧(List.replicate 64 0).length=64∧∀u,u<0→(List.replicate 64 0).getD u 0=(u+n - 1)%n∧(List.replicate 64 0).getD u 0=(u+1)%n from by exact ⟨Nat.zero_le _,List.length_replicate,List.length_replicate,fun u h=>by omega⟩) ((.e rfl cgs (.of rfl)):SubM _ _) (ho:=(o0 rfl)) (s0 rfl) ?_
  rintro ⟨w,B,N⟩ hI
  replace hI:w≤n∧B.length=64∧N.length=64∧∀u,u<w→B.getD u 0=(u+n - 1)%n∧N.getD u 0=(u+1)%n:=hI
  try dsimp only
  obtain ⟨hw,hLB,hLN,hall⟩:=hI
  refine zh<|za<|e_p (zda rfl rfl)<|zi<|ze<|zh<|zJ rfl (fun h3=> ?_) (fun h3=> ?_)
  ·
   have hm0:0<n:=by omega
   have hm1:=Nat.mod_lt (w+n - 1) hm0
   have hm2:=Nat.mod_lt (w+1) hm0
   refine zC<|ze<|zh<|zE<|zh<|za<|e_mv rfl<|e_p (zd rfl)<|zi<|ze<|zh<|zY (OW:=[boxA b1 98 (rgC p n cap B N ((n:Nat):Int) (yD l))]) (O:=[]) 13 mixed (.then (.block (.then (.then (.block (.then .ret)))))) kr<|e_dm 0 rfl rfl rfl<|e_dm 1 rfl rfl rfl<|e_dm 2 rfl rfl rfl<|e_dm 3 rfl rfl rfl<|e_pv 4 rfl rfl (zR yd rfl)<|e_pv 5 rfl rfl (zO (z:=(((w+n):Nat):Int)) rfl rfl (w64 om))<|e_pv 6 rfl rfl (zna (z:=((((w+n):Nat):Int) - 1)) rfl rfl (w64 om)) ?_
   have e4:(((((w+n):Nat):Int) - 1):Int)=(((w+n - 1):Nat):Int):=by omega
   rw [e4]
   refine e_dm 7 rfl rfl rfl<|e_pv 8 rfl rfl (zR yd rfl)<|e_pv 9 rfl rfl (zza (z:=((((w+n - 1)%n):Nat):Int)) rfl rfl om (remN om om))<|e_pv 10 rfl rfl (zV rfl)<|e_pv 11 rfl rfl (zf yf rfl sz96 rfl rfl)<|e_pv 12 rfl rfl (zja (i:=w) yg sz3 rfl rfl om)<|e_one 13 (zr kr rfl rfl rfl rfl rfl sz3 rfl (rg_setB (x:=((w+n - 1)%n)) rgl rgl om) ?_)
   refine zW kr<|ze<|zY (OW:=[boxA b1 98 (rgC p n cap (B.set w ((w+n - 1)%n)) N ((n:Nat):Int) (yD l))]) (O:=[]) 10 mixed (.block (.then (.then (.block (.then .ret))))) kr<|e_dm 0 rfl rfl rfl<|e_dm 1 rfl rfl rfl<|e_dm 2 rfl rfl rfl<|e_pv 3 rfl rfl (zO (z:=(((w+1):Nat):Int)) rfl rfl (w64 om))<|e_dm 4 rfl rfl rfl<|e_pv 5 rfl rfl (zR yd rfl)<|e_pv 6 rfl rfl (zza (z:=((((w+1)%n):Nat):Int)) rfl rfl om (remN om om))<|e_pv 7 rfl rfl (zV rfl)<|e_pv 8 rfl rfl (zf yf rfl sz96 rfl rfl)<|e_pv 9 rfl rfl (zja (i:=w) yg sz3 rfl rfl om)<|e_one 10 (zr kr rfl rfl rfl rfl rfl sz3 rfl (rg_setN (x:=((w+1)%n)) rgl rgl om) ?_)
   refine zW kr<|zT<|ze<|za<|e_p (zO (z:=(((w+1):Nat):Int)) rfl rfl (w64 om))<|e_mv rfl<|zi<|zla ((w+1),(B.set w ((w+n - 1)%n)),(N.set w ((w+1)%n))) (show (w+1)≤n∧(B.set w ((w+n - 1)%n)).length=64∧(N.set w ((w+1)%n)).length=64∧∀u,u<(w+1)→(B.set w ((w+n - 1)%n)).getD u 0=(u+n - 1)%n∧(N.set w ((w+1)%n)).getD u 0=(u+1)%n from by refine ⟨by omega,by rw [List.length_set];exact hLB,by rw [List.length_set];exact hLN,fun u hu=> ?_⟩;rw [Pg.getD_set om,Pg.getD_set om];by_cases e:u=w;(rw [if_pos e,if_pos e,e];exact ⟨rfl,rfl⟩);(rw [if_neg e,if_neg e];exact hall u om)) (by show n - (w+1)<n - w;omega) (mR rfl) (ho:=(o0 rfl)) (s0 rfl)
  ·
   refine zqa<|zk<|zk<|zD<|ze<|zh<|za<|e_mv rfl<|e_p (zd rfl)<|zi<|ze<|zL ?_
   exact zx Tryz.results75 (b1,B,N) (Pg.Rg.mk0 h64 hLB hLN (fun u hu=>hall u om)) (zl rfl) rfl (ho:=(o0 rfl)) sN
 ·
  refine zC<|ze<|zh<|zh ?_
  change RunC _ _ _ _ _ [(12,.bool (decide (yz l<0))),(11,ya yb (yz l)),(10,.slice p n cap),(3,yc (some ⟨b1,0,none⟩)),(9,yc (some ⟨b1,0,none⟩)),(8,.agg #[.slice p n cap,ya yb 0,ya yb 0,ya yb 0,ya yb 0,ya yb 0,ya yb 0,ya yb 0,ya yb 0,ya yb 0,ya yb 0,ya yb 0,ya yb 0,ya yb 0,ya yb 0,ya yb 0,ya yb 0,ya yb 0,ya yb 0,ya yb 0,ya yb 0,ya yb 0,ya yb 0,ya yb 0,ya yb 0,ya yb 0,ya yb 0,ya yb 0,ya yb 0,ya yb 0,ya yb 0,ya yb 0,ya yb 0,ya yb 0,ya yb 0,ya yb 0,ya yb 0,ya yb 0,ya yb 0,ya yb 0,ya yb 0,ya yb 0,ya yb 0,ya yb 0,ya yb 0,ya yb 0,ya yb 0,ya yb 0,ya yb 0,ya yb 0,ya yb 0,ya yb 0,ya yb 0,ya yb 0,ya yb 0,ya yb 0,ya yb 0,ya yb 0,ya yb 0,ya yb 0,ya yb 0,ya yb 0,ya yb 0,ya yb 0,ya yb 0,ya yb 0,ya yb 0,ya yb 0,ya yb 0,ya yb 0,ya yb 0,ya yb 0,ya yb 0,ya yb 0,ya yb 0,ya yb 0,ya yb 0,ya yb 0,ya yb 0,ya yb 0,ya yb 0,ya yb 0,ya yb 0,ya yb 0,ya yb 0,ya yb 0,ya yb 0,ya yb 0,ya yb 0,ya yb 0,ya yb 0,ya yb 0,ya yb 0,ya yb 0,ya yb 0,ya yb 0,ya yb 0,ya yb 0,ya yb 0,ya yb 0,ya yb 0,ya yb 0,ya yb 0,ya yb 0,ya yb 0,ya yb 0,ya yb 0,ya yb 0,ya yb 0,ya yb 0,ya yb 0,ya yb 0,ya yb 0,ya yb 0,ya yb 0,ya yb 0,ya yb 0,ya yb 0,ya yb 0,ya yb 0,ya yb 0,ya yb 0,ya yb 0,ya yb 0,ya yb 0,ya yb 0,ya yb 0,ya yb 0,ya yb 0,ya yb ((n:Nat):Int),ya yb 1]),(7,ya yb ((n:Nat):Int)),(6,.slice p n cap),(5,.slice p n cap),(2,.pointer none),(0,.slice p n cap)] [boxA b1 98 (rgC p n cap (List.replicate 64 0) (List.replicate 64 0) ((n:Nat):Int) 1)] [slF (rI2 .i64) p cap l]
  have e5:(rgC p n cap (List.replicate 64 0) (List.replicate 64 0) ((n:Nat):Int) 1)=(rgC p n cap (List.replicate 64 0) (List.replicate 64 0) ((n:Nat):Int) (yD l)):=by rw [Pg.sg_pos hneg]
  rw [e5]
  refine za<|e_mv rfl<|e_p (zR yd rfl)<|e_mv rfl<|zi<|ze<|zE<|zra (X:=Nat×(List Nat)×(List Nat)) (fun x:Nat×(List Nat)×(List Nat)=>x.1≤n∧x.2.1.length=64∧x.2.2.length=64∧∀u,u<x.1→x.2.1.getD u 0=(u+n - 1)%n∧x.2.2.getD u 0=(u+1)%n) (fun x=>[(18,ya yb ((x.1:Nat):Int)),(17,ya yb ((n:Nat):Int)),(3,yc (some ⟨b1,0,none⟩)),(2,.pointer none),(0,.slice p n cap)]) (fun x=>[boxA b1 98 (rgC p n cap (x.2.1) (x.2.2) ((n:Nat):Int) (yD l))]) (fun x=>[slF (rI2 .i64) p cap l]) (fun x:Nat×(List Nat)×(List Nat)=>n - x.1) (0,(List.replicate 64 0),(List.replicate 64 0)) (show 0≤n∧(List.replicate 64 0).length=64∧(List.replicate 64 0).length=64∧∀u,u<0→(List.replicate 64 0).getD u 0=(u+n - 1)%n∧(List.replicate 64 0).getD u 0=(u+1)%n from by exact ⟨Nat.zero_le _,List.length_replicate,List.length_replicate,fun u h=>by omega⟩) ((.e rfl cgs (.of rfl)):SubM _ _) (ho:=(o0 rfl)) (s0 rfl) ?_
  rintro ⟨w,B,N⟩ hI
  replace hI:w≤n∧B.length=64∧N.length=64∧∀u,u<w→B.getD u 0=(u+n - 1)%n∧N.getD u 0=(u+1)%n:=hI
  try dsimp only
  obtain ⟨hw,hLB,hLN,hall⟩:=hI
  refine zh<|za<|e_p (zda rfl rfl)<|zi<|ze<|zh<|zJ rfl (fun h6=> ?_) (fun h6=> ?_)
  ·
   have hm0:0<n:=by omega
   have hm1:=Nat.mod_lt (w+n - 1) hm0
   have hm2:=Nat.mod_lt (w+1) hm0
   refine zC<|ze<|zh<|zE<|zh<|za<|e_mv rfl<|e_p (zd rfl)<|zi<|ze<|zh<|zY (OW:=[boxA b1 98 (rgC p n cap B N ((n:Nat):Int) (yD l))]) (O:=[]) 13 mixed (.then (.block (.then (.then (.block (.then .ret)))))) kr<|e_dm 0 rfl rfl rfl<|e_dm 1 rfl rfl rfl<|e_dm 2 rfl rfl rfl<|e_dm 3 rfl rfl rfl<|e_pv 4 rfl rfl (zR yd rfl)<|e_pv 5 rfl rfl (zO (z:=(((w+n):Nat):Int)) rfl rfl (w64 om))<|e_pv 6 rfl rfl (zna (z:=((((w+n):Nat):Int) - 1)) rfl rfl (w64 om)) ?_
   have e7:(((((w+n):Nat):Int) - 1):Int)=(((w+n - 1):Nat):Int):=by omega
   rw [e7]
   refine e_dm 7 rfl rfl rfl<|e_pv 8 rfl rfl (zR yd rfl)<|e_pv 9 rfl rfl (zza (z:=((((w+n - 1)%n):Nat):Int)) rfl rfl om (remN om om))<|e_pv 10 rfl rfl (zV rfl)<|e_pv 11 rfl rfl (zf yf rfl sz96 rfl rfl)<|e_pv 12 rfl rfl (zja (i:=w) yg sz3 rfl rfl om)<|e_one 13 (zr kr rfl rfl rfl rfl rfl sz3 rfl (rg_setB (x:=((w+n - 1)%n)) rgl rgl om) ?_)
   refine zW kr<|ze<|zY (OW:=[boxA b1 98 (rgC p n cap (B.set w ((w+n - 1)%n)) N ((n:Nat):Int) (yD l))]) (O:=[]) 10 mixed (.block (.then (.then (.block (.then .ret))))) kr<|e_dm 0 rfl rfl rfl<|e_dm 1 rfl rfl rfl<|e_dm 2 rfl rfl rfl<|e_pv 3 rfl rfl (zO (z:=(((w+1):Nat):Int)) rfl rfl (w64 om))<|e_dm 4 rfl rfl rfl<|e_pv 5 rfl rfl (zR yd rfl)<|e_pv 6 rfl rfl (zza (z:=((((w+1)%n):Nat):Int)) rfl rfl om (remN om om))<|e_pv 7 rfl rfl (zV rfl)<|e_pv 8 rfl rfl (zf yf rfl sz96 rfl rfl)<|e_pv 9 rfl rfl (zja (i:=w) yg sz3 rfl rfl om)<|e_one 10 (zr kr rfl rfl rfl rfl rfl sz3 rfl (rg_setN (x:=((w+1)%n)) rgl rgl om) ?_)
   refine zW kr<|zT<|ze<|za<|e_p (zO (z:=(((w+1):Nat):Int)) rfl rfl (w64 om))<|e_mv rfl<|zi<|zla ((w+1),(B.set w ((w+n - 1)%n)),(N.set w ((w+1)%n))) (show (w+1)≤n∧(B.set w ((w+n - 1)%n)).length=64∧(N.set w ((w+1)%n)).length=64∧∀u,u<(w+1)→(B.set w ((w+n - 1)%n)).getD u 0=(u+n - 1)%n∧(N.set w ((w+1)%n)).getD u 0=(u+1)%n from by refine ⟨by omega,by rw [List.length_set];exact hLB,by rw [List.length_set];exact hLN,fun u hu=> ?_⟩;rw [Pg.getD_set om,Pg.getD_set om];by_cases e:u=w;(rw [if_pos e,if_pos e,e];exact ⟨rfl,rfl⟩);(rw [if_neg e,if_neg e];exact hall u om)) (by show n - (w+1)<n - w;omega) (mR rfl) (ho:=(o0 rfl)) (s0 rfl)
  ·
   refine zqa<|zk<|zk<|zD<|ze<|zh<|za<|e_mv rfl<|e_p (zd rfl)<|zi<|ze<|zL ?_
   exact zx Tryz.results75 (b1,B,N) (Pg.Rg.mk0 h64 hLB hLN (fun u hu=>hall u om)) (zl rfl) rfl (ho:=(o0 rfl)) sN
theorem zhg {p:Option Addr} {n:Nat} {cap:Nat} {l:List Pg.P2} (hn:l.length=n):Con yl 30 [.slice p n cap] [] [slF (rI2 .i64) p cap l] (Y:=(Option Addr)×Nat) (fun y=>True) (fun y=> .tuple #[.slice (y.1) ((Pg.erV l).length) (y.2),ya yb (Pg.erC l)]) (fun y=>[rowA 50 (rI3 .i64) (y.1) (y.2) (Pg.erV l)]) (fun y=>[]):=by
 refine zo Tryz.func30 rfl rfl rfl (fun c=> ?_)
 show RunC _ _ _ _ _ [(0,.slice p n cap)] [] [slF (rI2 .i64) p cap l]
 refine zea 0 rfl (fun hL0=> ?_)
 refine zh<|za<|e_p (zd rfl)<|e_p (zd rfl)<|zi<|ze<|zh<|zh<|za<|e_mv rfl<|zQ rfl rfl (.c rfl .n) ce15 (zed (p:=p) (n:=n) (cap:=cap) (l:=l) (hn:=ass)) (.c (j:=0) rfl .n)<|e_p (zd rfl)<|zi<|ze<|zh<|za<|e_mv rfl<|e_p (zXa rfl rfl)<|zi<|ze<|zJ rfl (fun hbad=> ?_) (fun hbad=> ?_)
 ·
  obtain ⟨hv1,hv2⟩:=Pg.er_bad hbad
  refine zh<|zqb 50 (rI3 .i64) ?_
  have e1:([]:List Pg.T3)=(Pg.erV l):=by exact hv1.symm
  rw [e1]
  refine za<|e_mv rfl<|e_p (zd rfl)<|e_p (zd rfl)<|zi<|ze<|zL<|zj ?_
  exact zBa Tryz.results30 (none,0) trivial (zl rfl) (zl rfl) (by rw [hv1,hv2];rfl) (ho:=(o0 rfl)) sN
 ·
  have hz:=Decidable.not_not.1 hbad
  have hok:=Pg.ok hz
  have hrng:=hok.rng
  have h64:n≤64:=by have:=hok.n64;omega
  have hn3:3≤n:=by have:=hok.n3;omega
  refine zC<|ze<|zh<|za<|e_mv rfl<|zG rfl rfl (.c rfl .n) ce75 (zte (p:=p) (n:=n) (cap:=cap) (l:=l) (hn:=ass) (h64:=by first|rfl|assumption|omega|exact hok.n64|exact hok.rng|exact hG.1|exact yo l) (hrng:=by first|rfl|assumption|omega|exact hok.n64|exact hok.rng|exact hG.1|exact yo l)) (.c (j:=0) rfl .n) ?_
  rintro ⟨b2,B3,N4⟩ hR0
  dsimp only [aq,nq,cq]
  replace hR0:Pg.Rg n (List.range n) B3 N4:=hR0
  refine e_p (zd rfl)<|zi<|ze<|zh<|za<|e_mv rfl<|e_p (zR yd rfl)<|zKa rfl rfl (zyb (r:=rB) (k:=n) (x0:=false) (γ0:=()) yC inf4 rfl rfl rfl rfl om om rfl (fun g _=>by trivial) dd) (fun b5 _=> ?_)
  refine e_p (zd rfl)<|zi<|ze<|zh<|zqb 50 (rI3 .i64)<|za<|e_p (zd rfl)<|zi<|ze<|zh<|zE<|zra (X:=(List Nat)×(List Nat)×(List Nat)×(List Bool)×(List Pg.T3)×(Option Addr)×Nat) (fun x:(List Nat)×(List Nat)×(List Nat)×(List Bool)×(List Pg.T3)×(Option Addr)×Nat=>Pg.Rg n x.1 x.2.1 x.2.2.1∧3≤x.1.length∧x.1.length≤64∧Pg.Gn n x.1 x.2.2.2.1∧Pg.ears l (yD l) (x.1.length - 3) x.1 x.2.2.2.2.1=Pg.earO l∧x.2.2.2.2.1.length+x.1.length=n) (fun x=>[(7,.slice (x.2.2.2.2.2.1) (x.2.2.2.2.1.length) (x.2.2.2.2.2.2)),(6,.slice (some ⟨b5,0,none⟩) n n),(5,yc (some ⟨b2,0,none⟩))]) (fun x=>[rowA 50 (rI3 .i64) (x.2.2.2.2.2.1) (x.2.2.2.2.2.2) (x.2.2.2.2.1),rowA 4 rB (some ⟨b5,0,none⟩) n (x.2.2.2.1),boxA b2 98 (rgC p n cap (x.2.1) (x.2.2.1) ((x.1.length:Nat):Int) (yD l))]) (fun x=>[slF (rI2 .i64) p cap l]) (fun x:(List Nat)×(List Nat)×(List Nat)×(List Bool)×(List Pg.T3)×(Option Addr)×Nat=>x.1.length) ((List.range n),B3,N4,(List.replicate n false),[],none,0) (show Pg.Rg n (List.range n) B3 N4∧3≤(List.range n).length∧(List.range n).length≤64∧Pg.Gn n (List.range n) (List.replicate n false)∧Pg.ears l (yD l) ((List.range n).length - 3) (List.range n) ([])=Pg.earO l∧([]).length+(List.range n).length=n from by exact ⟨hR0,by rw [List.length_range];exact hn3,by rw [List.length_range];exact h64,Pg.Gn.zero,by rw [List.length_range];unfold Pg.earO;rw [hn],by rw [List.length_range];exact Nat.zero_add n⟩) ((.e rfl cgs (.c rfl (.c rfl .n))):SubM _ _) (ho:=((.c (i:=0) rfl (.e (i:=0) rfl cgs (.e (i:=0) rfl cgs .n))):PickO _ _ _)) (s0 rfl) ?_
  rintro ⟨L,B,N,G,out,p7,c7⟩ hI
  replace hI:Pg.Rg n L B N∧3≤L.length∧L.length≤64∧Pg.Gn n L G∧Pg.ears l (yD l) (L.length - 3) L out=Pg.earO l∧out.length+L.length=n:=hI
  try dsimp only
  obtain ⟨hg,h3,h4,hG,hE,ho⟩:=hI
  have hLB:=hg.lb
  have hLN:=hg.ln
  have hGn:=hG.1
  refine zh<|zh<|za<|e_mv rfl<|e_p (zV rfl)<|e_p (zf yf rfl sz3 rfl rfl)<|e_ru (zg 2 ty3 rfl rfl (rg_k rgl rgl))<|e_p (zDa rfl rfl)<|zi<|ze<|zJ rfl (fun hgt=> ?_) (fun hgt=> ?_)
  ·
   refine zC<|ze<|zE<|zh<|za<|e_mv rfl<|e_mv rfl<|e_mv rfl<|e_p (zcb (.c rfl .n) .n)<|zId (zfa (i:=1) rfl)<|zId (zfa (i:=2) rfl)<|zvc (A:=[boxA b2 98 (rgC p n cap B N ((L.length:Nat):Int) (yD l)),rowA 4 rB (some ⟨b5,0,none⟩) n G]) (F:=[rowA 50 (rI3 .i64) p7 c7 out]) (first:=[]) (cap:=[]) rfl rfl rfl (.c rfl (.c rfl (.c rfl .n))) ce76 (zcf (b:=b2) (p:=p) (n:=n) (cap:=cap) (l:=l) (B:=B) (N:=N) (kk:=((L.length:Nat):Int)) (s:=(yD l)) (L:=L) (pb:=some ⟨b5,0,none⟩) (nb:=n) (cb:=n) (G:=G) (hn:=ass) (hg:=by first|rfl|assumption|omega|exact hok.n64|exact hok.rng|exact hG.1|exact yo l) (hrng:=by first|rfl|assumption|omega|exact hok.n64|exact hok.rng|exact hG.1|exact yo l) (hs:=by first|rfl|assumption|omega|exact hok.n64|exact hok.rng|exact hG.1|exact yo l) (hG:=by first|rfl|assumption|omega|exact hok.n64|exact hok.rng|exact hG.1|exact yo l) (hnb:=by first|rfl|assumption|omega|exact hok.n64|exact hok.rng|exact hG.1|exact yo l) (h3:=by first|rfl|assumption|omega|exact hok.n64|exact hok.rng|exact hG.1|exact yo l)) (.c (j:=0) rfl .n) ?_
   rintro r1 hR1
   dsimp only [aq,nq,cq]
   replace hR1:Pg.Fst L (yJ l (yD l) L) r1:=hR1
   refine e_p (zd rfl)<|zi<|ze<|zh<|zh<|za<|e_mv rfl<|e_p (zda rfl rfl)<|zi<|ze<|zJ rfl (fun hneg=> ?_) (fun hneg=> ?_)
   ·
    refine zh ?_
    have hqn:∀j,j<L.length→¬yJ l (yD l) L j:=by rcases hR1 with ⟨w,h5,h6,h7⟩|h;(exfalso;omega);exact h.2
    obtain ⟨hv1,hv2⟩:=Pg.er_none hz (by rw [← hE];exact Pg.ears_none om hqn)
    refine zqb 50 (rI3 .i64) ?_
    have e6:([]:List Pg.T3)=(Pg.erV l):=by exact hv1.symm
    rw [e6]
    refine za<|e_p (zd rfl)<|e_p (zd rfl)<|zi<|ze<|zL<|zj<|zy<|zj<|zy<|zj ?_
    exact zBa Tryz.results30 (none,0) trivial (zl rfl) (zl rfl) (by rw [hv1,hv2];rfl) (ho:=(o0 rfl)) sN
   ·
    obtain ⟨q,hq1,hq2,hq3,hq4⟩:∃q,q<L.length∧r1=((yh L q:Nat):Int)∧(yJ l (yD l) L) q∧∀j,j<q→¬(yJ l (yD l) L) j:=by rcases hR1 with h|h;exact h;first|omega|exact absurd trivial (h.2 0 om)
    have e7:(r1:Int)=(((yh L q):Nat):Int):=by exact hq2
    rw [e7]
    obtain ⟨haq1,haq2,haq3,haq4,haq5⟩:=hg.at hq1 rfl
    have hLBq:=hg.lb
    have hLNq:=hg.ln
    have hL6q:=hg.n64
    refine zC<|ze<|zh<|zwa (.c (i:=2) rfl (.c (i:=0) rfl (.c (i:=0) rfl .n)))<|zY (OW:=[rowA 50 (rI3 .i64) p7 c7 out]) (O:=[boxA b2 98 (rgC p n cap B N ((L.length:Nat):Int) (yD l)),rowA 4 rB (some ⟨b5,0,none⟩) n G]) 16 mixed (.then (.block (.then (.block (.then .ret))))) kr<|e_dm 0 rfl rfl rfl<|e_dm 1 rfl rfl rfl<|e_dm 2 rfl rfl rfl<|e_pv 3 rfl rfl (zV rfl)<|e_pv 4 rfl rfl (zf yf rfl sz96 rfl rfl)<|e_pv 5 rfl rfl (zja (i:=(yh L q)) yg sz3 rfl rfl om)<|e_uw 6 rfl rfl (zg 1 ty3 rfl rfl (rg_B rgl rgl om))<|e_dm 7 rfl rfl rfl<|e_dm 8 rfl rfl rfl<|e_dm 9 rfl rfl rfl<|e_pv 10 rfl rfl (zV rfl)<|e_pv 11 rfl rfl (zf yf rfl sz96 rfl rfl)<|e_pv 12 rfl rfl (zja (i:=(yh L q)) yg sz3 rfl rfl om)<|e_uw 13 rfl rfl (zg 1 ty3 rfl rfl (rg_N rgl rgl om))<|e_pv 14 rfl rfl (zYa zr50 rfl yx sz3 (.c rfl (.c rfl (.c rfl .n))) (.c rfl rfl rfl (.take .nil) (.c rfl rfl rfl (.skip (.take .nil)) (.c rfl rfl rfl (.s2 (.take .nil)) .n))))<|e_one 15 (zif rfl rfl rfl rfl (zba (enc:=fun z:Int×Int×Int=>[ya yb z.1,ya yb z.2.1,ya yb z.2.2]) (ok:=fun z=>InK .i64 z.1∧InK .i64 z.2.1∧InK .i64 z.2.2) (h1:=fun _=>rfl) (h2:=fun _=>rfl) (k:=1) yy inf50 rfl dd dd dd (.c (x:=((((B.getD (yh L q) 0):Nat):Int),(((yh L q):Nat):Int),(((N.getD (yh L q) 0):Nat):Int))) rfl rfl (fun _ _=>by exact ⟨zM.2 (by first|omega|decide|(dsimp only;omega)),zM.2 (by first|omega|decide|(dsimp only;omega)),zM.2 (by first|omega|decide|(dsimp only;omega))⟩) .n)) (fun b8 _=> ?_))
    refine zWb 0 rfl .z<|e_one 16 (zae (A':=fun v:Option Addr×Nat=>rowA 50 (rI3 .i64) v.1 v.2 (out++([((((B.getD (yh L q) 0):Nat):Int),(((yh L q):Nat):Int),(((N.getD (yh L q) 0):Nat):Int))]))) kr rfl rfl rfl (zua 0 rfl yy inf50 dd rfl rfl cbs rfl cbs om om) ?_)
    rintro ⟨p9,c10⟩ -
    dsimp only [aq,nq,cq]
    refine e_pv 17 rfl rfl (zd rfl)<|zW kr<|ze<|zh<|za<|e_mv rfl<|e_mv rfl<|zId (zfa (i:=2) rfl)<|zvc (A:=[boxA b2 98 (rgC p n cap B N ((L.length:Nat):Int) (yD l))]) (F:=[rowA 50 (rI3 .i64) p9 c10 (out++([((((B.getD (yh L q) 0):Nat):Int),(((yh L q):Nat):Int),(((N.getD (yh L q) 0):Nat):Int))])),emA,rowA 4 rB (some ⟨b5,0,none⟩) n G]) (first:=[]) (cap:=[]) rfl rfl rfl (.c rfl (.c rfl .n)) ce78 (zzg (b:=b2) (p:=p) (n:=n) (cap:=cap) (l:=l) (B:=B) (N:=N) (kk:=((L.length:Nat):Int)) (s:=(yD l)) (L:=L) (v:=(yh L q)) (i:=q) (hn:=ass) (hg:=by first|rfl|assumption|omega|exact hok.n64|exact hok.rng|exact hG.1|exact yo l) (hrng:=by first|rfl|assumption|omega|exact hok.n64|exact hok.rng|exact hG.1|exact yo l) (hs:=by first|rfl|assumption|omega|exact hok.n64|exact hok.rng|exact hG.1|exact yo l) (hi:=by first|rfl|assumption|omega|exact hok.n64|exact hok.rng|exact hG.1|exact yo l) (hv:=by first|rfl|assumption|omega|exact hok.n64|exact hok.rng|exact hG.1|exact yo l) (h2:=by first|rfl|assumption|omega|exact hok.n64|exact hok.rng|exact hG.1|exact yo l) (hk0:=by first|rfl|assumption|omega|exact hok.n64|exact hok.rng|exact hG.1|exact yo l)) (.c (j:=1) rfl .n) ?_
    rintro ⟨⟩ -
    dsimp only [aq,nq,cq]
    refine zi<|ze ?_
    have hlen:(L.eraseIdx q).length=L.length - 1:=by rw [List.length_eraseIdx,if_pos hq1]
    have e11:((L.length:Nat):Int) - 1=(((L.eraseIdx q).length:Nat):Int):=by omega
    rw [e11]
    refine za<|e_mv rfl<|e_mv rfl<|e_p (zoa (j:=(yh L q)) yC sz4 rfl rfl rfl om)<|zQa 3 rfl rfl rfl (zia (j:=(yh L q)) (x0:=true) (γ0:=()) rfl rfl (by first|omega|(rw [List.length_map];omega)|(simp only [List.length_set];omega)|(simp;done)|(simp;omega)) rfl rfl sz4 (fun _ _=>by trivial)) (fun _=>(.s (.s (.s .z)))) (fun _ _=> ?_)
    refine zi<|zT<|zla ((L.eraseIdx q),(Pg.cutB B N (yh L q)),(Pg.cutN B N (yh L q)),(G.set (yh L q) true),(out++([((((B.getD (yh L q) 0):Nat):Int),(((yh L q):Nat):Int),(((N.getD (yh L q) 0):Nat):Int))])),p9,c10) (show Pg.Rg n (L.eraseIdx q) (Pg.cutB B N (yh L q)) (Pg.cutN B N (yh L q))∧3≤(L.eraseIdx q).length∧(L.eraseIdx q).length≤64∧Pg.Gn n (L.eraseIdx q) (G.set (yh L q) true)∧Pg.ears l (yD l) ((L.eraseIdx q).length - 3) (L.eraseIdx q) (out++([((((B.getD (yh L q) 0):Nat):Int),(((yh L q):Nat):Int),(((N.getD (yh L q) 0):Nat):Int))]))=Pg.earO l∧(out++([((((B.getD (yh L q) 0):Nat):Int),(((yh L q):Nat):Int),(((N.getD (yh L q) 0):Nat):Int))])).length+(L.eraseIdx q).length=n from by exact ⟨hg.cut hq1 rfl om,by omega,by omega,hG.set hg hq1 rfl,(by have h9:=Pg.ears_some (l:=l) (s:=yD l) (out:=out) om hq1 hq3 hq4;unfold Pg.tri at h9;rw [← haq2,←haq3] at h9;rw [← h9];exact hE),by rw [List.length_append,hlen];show out.length+1+_=_;omega⟩) (by show (L.eraseIdx q).length<L.length;omega) ((.e rfl cgs (.c rfl (.c rfl .n))):SubM _ _) (ho:=((.c (i:=1) rfl (.c (i:=2) rfl (.e (i:=0) rfl cgs .n))):PickO _ _ _)) ((.c (j:=1) rfl .n):SelR _ _ _)
  ·
   refine zqa<|zk<|zk<|zD<|ze<|zh<|za<|e_mv rfl<|e_mv rfl<|zId (zfa (i:=1) rfl)<|zId (zfa (i:=2) rfl)<|zvc (A:=[boxA b2 98 (rgC p n cap B N ((L.length:Nat):Int) (yD l)),rowA 4 rB (some ⟨b5,0,none⟩) n G]) (F:=[rowA 50 (rI3 .i64) p7 c7 out]) (first:=[]) (cap:=[]) rfl rfl rfl (.c rfl (.c rfl (.c rfl .n))) ce76 (zdf (b:=b2) (p:=p) (n:=n) (cap:=cap) (l:=l) (B:=B) (N:=N) (kk:=((L.length:Nat):Int)) (s:=(yD l)) (L:=L) (pb:=some ⟨b5,0,none⟩) (nb:=n) (cb:=n) (G:=G) (hn:=ass) (hg:=by first|rfl|assumption|omega|exact hok.n64|exact hok.rng|exact hG.1|exact yo l) (hrng:=by first|rfl|assumption|omega|exact hok.n64|exact hok.rng|exact hG.1|exact yo l) (hs:=by first|rfl|assumption|omega|exact hok.n64|exact hok.rng|exact hG.1|exact yo l) (hG:=by first|rfl|assumption|omega|exact hok.n64|exact hok.rng|exact hG.1|exact yo l) (hnb:=by first|rfl|assumption|omega|exact hok.n64|exact hok.rng|exact hG.1|exact yo l) (h3:=by first|rfl|assumption|omega|exact hok.n64|exact hok.rng|exact hG.1|exact yo l)) (.c (j:=0) rfl .n) ?_
   rintro r2 hR2
   dsimp only [aq,nq,cq]
   replace hR2:Pg.Fst L (fun _=>True) r2:=hR2
   refine e_p (zd rfl)<|zi<|ze<|zh ?_
   obtain ⟨q,hq1,hq2,hq3,hq4⟩:∃q,q<L.length∧r2=((yh L q:Nat):Int)∧(fun _=>True) q∧∀j,j<q→¬(fun _=>True) j:=by rcases hR2 with h|h;exact h;first|omega|exact absurd trivial (h.2 0 om)
   have hq0:q=0:=by rcases Nat.eq_zero_or_pos q with h|h;exact h;exact absurd trivial (hq4 0 h)
   subst hq0
   have e12:(r2:Int)=(((yh L 0):Nat):Int):=by exact hq2
   rw [e12]
   obtain ⟨ha01,ha02,ha03,ha04,ha05⟩:=hg.at hq1 rfl
   have hLB0:=hg.lb
   have hLN0:=hg.ln
   have hL60:=hg.n64
   obtain ⟨ha11,ha12,ha13,ha14,ha15⟩:=hg.at (show 1<L.length by omega) rfl
   have hLB1:=hg.lb
   have hLN1:=hg.ln
   have hL61:=hg.n64
   have hL3:L.length=3:=by omega
   have hk1:N.getD (yh L 0) 0=yh L 1:=by rw [ha02,hL3];rfl
   have hk2:N.getD (yh L 1) 0=yh L 2:=by rw [ha12,hL3];rfl
   have hk3:N.getD (N.getD (yh L 0) 0) 0<64:=by rw [hk1];omega
   obtain ⟨hv1,hv2⟩:=Pg.er_some hz (hE.symm.trans (Pg.ears_end (out:=out) (l:=l) (s:=yD l) hL3))
   refine zwa (.c (i:=2) rfl (.c (i:=0) rfl (.c (i:=0) rfl .n)))<|zY (OW:=[rowA 50 (rI3 .i64) p7 c7 out]) (O:=[boxA b2 98 (rgC p n cap B N ((L.length:Nat):Int) (yD l)),rowA 4 rB (some ⟨b5,0,none⟩) n G]) 21 mixed (.then .ret) kr<|e_dm 0 rfl rfl rfl<|e_dm 1 rfl rfl rfl<|e_dm 2 rfl rfl rfl<|e_dm 3 rfl rfl rfl<|e_pv 4 rfl rfl (zV rfl)<|e_pv 5 rfl rfl (zf yf rfl sz96 rfl rfl)<|e_pv 6 rfl rfl (zja (i:=(yh L 0)) yg sz3 rfl rfl om)<|e_uw 7 rfl rfl (zg 1 ty3 rfl rfl (rg_N rgl rgl om))<|e_dm 8 rfl rfl rfl<|e_dm 9 rfl rfl rfl<|e_dm 10 rfl rfl rfl<|e_pv 11 rfl rfl (zV rfl)<|e_pv 12 rfl rfl (zf yf rfl sz96 rfl rfl)<|e_pv 13 rfl rfl (zja (i:=(yh L 0)) yg sz3 rfl rfl om)<|e_uw 14 rfl rfl (zg 1 ty3 rfl rfl (rg_N rgl rgl om))<|e_pv 15 rfl rfl (zV rfl)<|e_pv 16 rfl rfl (zf yf rfl sz96 rfl rfl)<|e_pv 17 rfl rfl (zja (i:=(N.getD (yh L 0) 0)) yg sz3 rfl rfl om)<|e_uw 18 rfl rfl (zg 1 ty3 rfl rfl (rg_N rgl rgl om))<|e_pv 19 rfl rfl (zYa zr50 rfl yx sz3 (.c rfl (.c rfl (.c rfl .n))) (.c rfl rfl rfl (.take .nil) (.c rfl rfl rfl (.skip (.take .nil)) (.c rfl rfl rfl (.s2 (.take .nil)) .n))))<|e_one 20 (zif rfl rfl rfl rfl (zba (enc:=fun z:Int×Int×Int=>[ya yb z.1,ya yb z.2.1,ya yb z.2.2]) (ok:=fun z=>InK .i64 z.1∧InK .i64 z.2.1∧InK .i64 z.2.2) (h1:=fun _=>rfl) (h2:=fun _=>rfl) (k:=1) yy inf50 rfl dd dd dd (.c (x:=((((yh L 0):Nat):Int),(((N.getD (yh L 0) 0):Nat):Int),(((N.getD (N.getD (yh L 0) 0) 0):Nat):Int))) rfl rfl (fun _ _=>by exact ⟨zM.2 (by first|omega|decide|(dsimp only;omega)),zM.2 (by first|omega|decide|(dsimp only;omega)),zM.2 (by first|omega|decide|(dsimp only;omega))⟩) .n)) (fun b13 _=> ?_))
   refine zWb 0 rfl .z<|e_one 21 (zae (A':=fun v:Option Addr×Nat=>rowA 50 (rI3 .i64) v.1 v.2 (out++([((((yh L 0):Nat):Int),(((N.getD (yh L 0) 0):Nat):Int),(((N.getD (N.getD (yh L 0) 0) 0):Nat):Int))]))) kr rfl rfl rfl (zua 0 rfl yy inf50 dd rfl rfl cbs rfl cbs om om) ?_)
   rintro ⟨p14,c15⟩ -
   dsimp only [aq,nq,cq]
   refine e_pv 22 rfl rfl (zd rfl)<|e_pv 23 rfl rfl (zd rfl)<|zW kr<|ze<|zL ?_
   have e16:((out++([((((yh L 0):Nat):Int),(((N.getD (yh L 0) 0):Nat):Int),(((N.getD (N.getD (yh L 0) 0) 0):Nat):Int))])):List Pg.T3)=(Pg.erV l):=by rw [hv1,hk1,hk2]
   rw [e16]
   exact zBa Tryz.results30 (p14,c15) trivial (zl rfl) (zl rfl) (by rw [hv1,hv2];simp) (ho:=(o0 rfl)) sN
end Go.Proofs.YtjcpbhlijoigfaaGreat.Sp
namespace Go.Proofs.YtjcpbhlijoigfaaGreat.Sp
open Go
set_option linter.unusedVariables false
set_option maxRecDepth 100000
set_option maxHeartbeats 8000000
theorem zue {p:Option Addr} {n:Nat} {cap:Nat} {l:List Pg.Q2} {ba:Nat} {ex:Int} {ey:Int} (hn:l.length=n) (hwex: -9223372036854775808≤ex∧ex≤9223372036854775807) (hwey: -9223372036854775808≤ey∧ey≤9223372036854775807) (hbq:Pg.bq 3 l) (hnK:n≤100000):Con yl 57 [.slice p n cap,yc (some ⟨ba,0,none⟩)] [] [slF rR p cap l,atF ba 0 [ya yb ex,ya yb ey]] (Y:=(Option Addr)×Nat) (fun y=>True) (fun y=> .slice (y.1) ((yp (yi ex 1) (yi ex 0) l).length) (y.2)) (fun y=>[rowA 69 rR (y.1) (y.2) (yp (yi ex 1) (yi ex 0) l)]) (fun y=>[]):=by
 refine zo Tryz.func57 rfl rfl rfl (fun c=> ?_)
 show RunC _ _ _ _ _ [(0,.slice p n cap),(1,yc (some ⟨ba,0,none⟩))] [] [slF rR p cap l,atF ba 0 [ya yb ex,ya yb ey]]
 refine zea 0 rfl (fun hL0=> ?_)
 refine zh<|za<|e_p (zd rfl)<|zi<|ze<|zh<|zY (OW:=[]) (O:=[]) 100000 mixed (.then .ret) kr<|e_dm 0 rfl rfl rfl<|e_pv 1 rfl rfl (zf ye rfl sz3 rfl rfl)<|e_u 2 rfl rfl (zB (j:=0) 1 ty3 rfl rfl rfl rfl)<|e_pv 4 rfl rfl (zf ye rfl sz3 rfl rfl)<|e_u 5 rfl rfl (zB (j:=0) 1 ty3 rfl rfl rfl rfl)<|e_one 3 (zq rfl rfl rfl rfl (.c rfl (.c rfl .n)) ce56 (zjb (ex:=ex) (ey:=1) (hwex:=ass) (hwey:=by first|rfl|assumption|omega|(exact ym om om))) (.n) ?_)
 rintro ⟨wr01,wr12,wr23,wr34⟩ -
 dsimp only [aq,nq,cq]
 refine e_one 6 (zq rfl rfl rfl rfl (.c rfl (.c rfl .n)) ce56 (zjb (ex:=ex) (ey:=0) (hwex:=ass) (hwey:=by first|rfl|assumption|omega|(exact ym om om))) (.n) ?_)
 rintro ⟨wr05,wr16,wr27,wr38⟩ -
 dsimp only [aq,nq,cq]
 refine e_one 7 (zq rfl rfl rfl rfl (.c rfl (.c rfl (.c rfl .n))) ce58 (zNc (p:=p) (n:=n) (cap:=cap) (l:=l) (wa0:=wr01) (wa1:=wr12) (wa2:=wr23) (wa3:=wr34) (qa:=(yi ex 1)) (wb0:=wr05) (wb1:=wr16) (wb2:=wr27) (wb3:=wr38) (qb:=(yi ex 0)) (K:=3) (hn:=ass) (hpa:=by first|rfl|assumption|omega|(exact ym om om)) (hpb:=by first|rfl|assumption|omega|(exact ym om om)) (hbq:=ass) (hK:=by first|rfl|assumption|omega|(exact ym om om)) (hnK:=ass)) (.c (j:=4) rfl (.c (j:=2) rfl (.c (j:=3) rfl (.c (j:=0) rfl (.c (j:=1) rfl .n))))) ?_)
 rintro ⟨p29,c210⟩ -
 dsimp only [aq,nq,cq]
 refine e_pv 8 rfl rfl (zd rfl)<|zW kr<|ze<|zL ?_
 exact zx Tryz.results57 (p29,c210) trivial (zl rfl) rfl (ho:=(o0 rfl)) sN
theorem zve {p:Option Addr} {n:Nat} {cap:Nat} {l:List Pg.Q2} {ba:Nat} {ex:Int} {ey:Int} (hn:l.length=n) (hwex: -9223372036854775808≤ex∧ex≤9223372036854775807) (hwey: -9223372036854775808≤ey∧ey≤9223372036854775807) (hbq:Pg.bq 99 l) (hnK:n≤100000):Con yl 59 [.slice p n cap,yc (some ⟨ba,0,none⟩)] [] [slF rR p cap l,atF ba 0 [ya yb ex,ya yb ey]] (Y:=(Option Addr)×Nat) (fun y=>True) (fun y=> .slice (y.1) ((yp (yi ex 0) (yi ex 1) l).length) (y.2)) (fun y=>[rowA 69 rR (y.1) (y.2) (yp (yi ex 0) (yi ex 1) l)]) (fun y=>[]):=by
 refine zo Tryz.func59 rfl rfl rfl (fun c=> ?_)
 show RunC _ _ _ _ _ [(0,.slice p n cap),(1,yc (some ⟨ba,0,none⟩))] [] [slF rR p cap l,atF ba 0 [ya yb ex,ya yb ey]]
 refine zea 0 rfl (fun hL0=> ?_)
 refine zh<|za<|e_p (zd rfl)<|zi<|ze<|zh<|zY (OW:=[]) (O:=[]) 100000 mixed (.then .ret) kr<|e_dm 0 rfl rfl rfl<|e_pv 1 rfl rfl (zf ye rfl sz3 rfl rfl)<|e_u 2 rfl rfl (zB (j:=0) 1 ty3 rfl rfl rfl rfl)<|e_pv 4 rfl rfl (zf ye rfl sz3 rfl rfl)<|e_u 5 rfl rfl (zB (j:=0) 1 ty3 rfl rfl rfl rfl)<|e_one 3 (zq rfl rfl rfl rfl (.c rfl (.c rfl .n)) ce56 (zjb (ex:=ex) (ey:=0) (hwex:=ass) (hwey:=by first|rfl|assumption|omega|(exact ym om om))) (.n) ?_)
 rintro ⟨wr01,wr12,wr23,wr34⟩ -
 dsimp only [aq,nq,cq]
 refine e_one 6 (zq rfl rfl rfl rfl (.c rfl (.c rfl .n)) ce56 (zjb (ex:=ex) (ey:=1) (hwex:=ass) (hwey:=by first|rfl|assumption|omega|(exact ym om om))) (.n) ?_)
 rintro ⟨wr05,wr16,wr27,wr38⟩ -
 dsimp only [aq,nq,cq]
 refine e_one 7 (zq rfl rfl rfl rfl (.c rfl (.c rfl (.c rfl .n))) ce58 (zNc (p:=p) (n:=n) (cap:=cap) (l:=l) (wa0:=wr01) (wa1:=wr12) (wa2:=wr23) (wa3:=wr34) (qa:=(yi ex 0)) (wb0:=wr05) (wb1:=wr16) (wb2:=wr27) (wb3:=wr38) (qb:=(yi ex 1)) (K:=99) (hn:=ass) (hpa:=by first|rfl|assumption|omega|(exact ym om om)) (hpb:=by first|rfl|assumption|omega|(exact ym om om)) (hbq:=ass) (hK:=by first|rfl|assumption|omega|(exact ym om om)) (hnK:=ass)) (.c (j:=4) rfl (.c (j:=2) rfl (.c (j:=3) rfl (.c (j:=0) rfl (.c (j:=1) rfl .n))))) ?_)
 rintro ⟨p29,c210⟩ -
 dsimp only [aq,nq,cq]
 refine e_pv 8 rfl rfl (zd rfl)<|zW kr<|ze<|zL ?_
 exact zx Tryz.results59 (p29,c210) trivial (zl rfl) rfl (ho:=(o0 rfl)) sN
theorem zwe {p:Option Addr} {n:Nat} {cap:Nat} {l:List Pg.Q2} {ba:Nat} {ex:Int} {ey:Int} (hn:l.length=n) (hwex: -9223372036854775808≤ex∧ex≤9223372036854775807) (hwey: -9223372036854775808≤ey∧ey≤9223372036854775807) (hbq:Pg.bq 963 l) (hnK:n≤100000):Con yl 60 [.slice p n cap,yc (some ⟨ba,0,none⟩)] [] [slF rR p cap l,atF ba 0 [ya yb ex,ya yb ey]] (Y:=(Option Addr)×Nat) (fun y=>True) (fun y=> .slice (y.1) ((yp (yi 0 ey) (yi 1 ey) l).length) (y.2)) (fun y=>[rowA 69 rR (y.1) (y.2) (yp (yi 0 ey) (yi 1 ey) l)]) (fun y=>[]):=by
 refine zo Tryz.func60 rfl rfl rfl (fun c=> ?_)
 show RunC _ _ _ _ _ [(0,.slice p n cap),(1,yc (some ⟨ba,0,none⟩))] [] [slF rR p cap l,atF ba 0 [ya yb ex,ya yb ey]]
 refine zea 0 rfl (fun hL0=> ?_)
 refine zh<|za<|e_p (zd rfl)<|zi<|ze<|zh<|zY (OW:=[]) (O:=[]) 100000 mixed (.then .ret) kr<|e_dm 0 rfl rfl rfl<|e_pv 1 rfl rfl (zf ye rfl sz3 rfl rfl)<|e_u 2 rfl rfl (zB (j:=1) 1 ty3 rfl rfl rfl rfl)<|e_pv 4 rfl rfl (zf ye rfl sz3 rfl rfl)<|e_u 5 rfl rfl (zB (j:=1) 1 ty3 rfl rfl rfl rfl)<|e_one 3 (zq rfl rfl rfl rfl (.c rfl (.c rfl .n)) ce56 (zjb (ex:=0) (ey:=ey) (hwex:=by first|rfl|assumption|omega|(exact ym om om)) (hwey:=ass)) (.n) ?_)
 rintro ⟨wr01,wr12,wr23,wr34⟩ -
 dsimp only [aq,nq,cq]
 refine e_one 6 (zq rfl rfl rfl rfl (.c rfl (.c rfl .n)) ce56 (zjb (ex:=1) (ey:=ey) (hwex:=by first|rfl|assumption|omega|(exact ym om om)) (hwey:=ass)) (.n) ?_)
 rintro ⟨wr05,wr16,wr27,wr38⟩ -
 dsimp only [aq,nq,cq]
 refine e_one 7 (zq rfl rfl rfl rfl (.c rfl (.c rfl (.c rfl .n))) ce58 (zNc (p:=p) (n:=n) (cap:=cap) (l:=l) (wa0:=wr01) (wa1:=wr12) (wa2:=wr23) (wa3:=wr34) (qa:=(yi 0 ey)) (wb0:=wr05) (wb1:=wr16) (wb2:=wr27) (wb3:=wr38) (qb:=(yi 1 ey)) (K:=963) (hn:=ass) (hpa:=by first|rfl|assumption|omega|(exact ym om om)) (hpb:=by first|rfl|assumption|omega|(exact ym om om)) (hbq:=ass) (hK:=by first|rfl|assumption|omega|(exact ym om om)) (hnK:=ass)) (.c (j:=4) rfl (.c (j:=2) rfl (.c (j:=3) rfl (.c (j:=0) rfl (.c (j:=1) rfl .n))))) ?_)
 rintro ⟨p29,c210⟩ -
 dsimp only [aq,nq,cq]
 refine e_pv 8 rfl rfl (zd rfl)<|zW kr<|ze<|zL ?_
 exact zx Tryz.results60 (p29,c210) trivial (zl rfl) rfl (ho:=(o0 rfl)) sN
theorem zxe {p:Option Addr} {n:Nat} {cap:Nat} {l:List Pg.Q2} {ba:Nat} {ex:Int} {ey:Int} (hn:l.length=n) (hwex: -9223372036854775808≤ex∧ex≤9223372036854775807) (hwey: -9223372036854775808≤ey∧ey≤9223372036854775807) (hbq:Pg.bq 8739 l) (hnK:n≤100000):Con yl 61 [.slice p n cap,yc (some ⟨ba,0,none⟩)] [] [slF rR p cap l,atF ba 0 [ya yb ex,ya yb ey]] (Y:=(Option Addr)×Nat) (fun y=>True) (fun y=> .slice (y.1) ((yp (yi 1 ey) (yi 0 ey) l).length) (y.2)) (fun y=>[rowA 69 rR (y.1) (y.2) (yp (yi 1 ey) (yi 0 ey) l)]) (fun y=>[]):=by
 refine zo Tryz.func61 rfl rfl rfl (fun c=> ?_)
 show RunC _ _ _ _ _ [(0,.slice p n cap),(1,yc (some ⟨ba,0,none⟩))] [] [slF rR p cap l,atF ba 0 [ya yb ex,ya yb ey]]
 refine zea 0 rfl (fun hL0=> ?_)
 refine zh<|za<|e_p (zd rfl)<|zi<|ze<|zh<|zY (OW:=[]) (O:=[]) 100000 mixed (.then .ret) kr<|e_dm 0 rfl rfl rfl<|e_pv 1 rfl rfl (zf ye rfl sz3 rfl rfl)<|e_u 2 rfl rfl (zB (j:=1) 1 ty3 rfl rfl rfl rfl)<|e_pv 4 rfl rfl (zf ye rfl sz3 rfl rfl)<|e_u 5 rfl rfl (zB (j:=1) 1 ty3 rfl rfl rfl rfl)<|e_one 3 (zq rfl rfl rfl rfl (.c rfl (.c rfl .n)) ce56 (zjb (ex:=1) (ey:=ey) (hwex:=by first|rfl|assumption|omega|(exact ym om om)) (hwey:=ass)) (.n) ?_)
 rintro ⟨wr01,wr12,wr23,wr34⟩ -
 dsimp only [aq,nq,cq]
 refine e_one 6 (zq rfl rfl rfl rfl (.c rfl (.c rfl .n)) ce56 (zjb (ex:=0) (ey:=ey) (hwex:=by first|rfl|assumption|omega|(exact ym om om)) (hwey:=ass)) (.n) ?_)
 rintro ⟨wr05,wr16,wr27,wr38⟩ -
 dsimp only [aq,nq,cq]
 refine e_one 7 (zq rfl rfl rfl rfl (.c rfl (.c rfl (.c rfl .n))) ce58 (zNc (p:=p) (n:=n) (cap:=cap) (l:=l) (wa0:=wr01) (wa1:=wr12) (wa2:=wr23) (wa3:=wr34) (qa:=(yi 1 ey)) (wb0:=wr05) (wb1:=wr16) (wb2:=wr27) (wb3:=wr38) (qb:=(yi 0 ey)) (K:=8739) (hn:=ass) (hpa:=by first|rfl|assumption|omega|(exact ym om om)) (hpb:=by first|rfl|assumption|omega|(exact ym om om)) (hbq:=ass) (hK:=by first|rfl|assumption|omega|(exact ym om om)) (hnK:=ass)) (.c (j:=4) rfl (.c (j:=2) rfl (.c (j:=3) rfl (.c (j:=0) rfl (.c (j:=1) rfl .n))))) ?_)
 rintro ⟨p29,c210⟩ -
 dsimp only [aq,nq,cq]
 refine e_pv 8 rfl rfl (zd rfl)<|zW kr<|ze<|zL ?_
 exact zx Tryz.results61 (p29,c210) trivial (zl rfl) rfl (ho:=(o0 rfl)) sN
end Go.Proofs.YtjcpbhlijoigfaaGreat.Sp
namespace Go.Proofs.YtjcpbhlijoigfaaGreat.Sp
open Go
set_option linter.unusedVariables false
set_option maxRecDepth 100000
set_option maxHeartbeats 8000000
theorem zqd {p:Option Addr} {n:Nat} {cap:Nat} {l:List Pg.P2} {ex:Int} {ey:Int} {fx:Int} {fy:Int} (hn:l.length=n) (hwex: -9223372036854775808≤ex∧ex≤9223372036854775807) (hwey: -9223372036854775808≤ey∧ey≤9223372036854775807) (hwfx: -9223372036854775808≤fx∧fx≤9223372036854775807) (hwfy: -9223372036854775808≤fy∧fy≤9223372036854775807):Con yl 19 [.slice p n cap,.agg #[ya yb ex,ya yb ey],.agg #[ya yb fx,ya yb fy]] [] [slF (rI2 .i64) p cap l] (Y:=(Option Addr)×Nat) (fun y=>True) (fun y=> .tuple #[.slice (y.1) ((yw l (ex,ey) (fx,fy)).length) (y.2),ya yb (yO l (ex,ey) (fx,fy))]) (fun y=>[rowA 69 rR (y.1) (y.2) (yw l (ex,ey) (fx,fy))]) (fun y=>[]):=by
 refine zo Tryz.func19 rfl rfl rfl (fun c=> ?_)
 show RunC _ _ _ _ _ [(0,.slice p n cap),(1,.agg #[ya yb ex,ya yb ey]),(2,.agg #[ya yb fx,ya yb fy])] [] [slF (rI2 .i64) p cap l]
 refine zea 0 rfl (fun hL0=> ?_)
 refine zh<|za<|zP rfl rfl (zS rfl rfl) (fun b1=> ?_)
 refine zP rfl rfl (zS rfl rfl) (fun b2=> ?_)
 refine e_p (zd rfl)<|e_p (zd rfl)<|zi<|ze<|zh<|zh<|za<|e_mv rfl<|zQ rfl rfl (.c rfl .n) ce15 (zed (p:=p) (n:=n) (cap:=cap) (l:=l) (hn:=ass)) (.c (j:=0) rfl .n)<|e_p (zd rfl)<|zi<|ze<|zh<|za<|e_mv rfl<|e_p (zXa rfl rfl)<|zi<|ze<|zJ rfl (fun hbad=> ?_) (fun hbad=> ?_)
 ·
  obtain ⟨hv1,hv2⟩:=Pg.wn_bad (a:=(ex,ey)) (b:=(fx,fy)) hbad
  refine zh<|zqb 69 rR ?_
  have e3:([]:List Pg.Q2)=yw l (ex,ey) (fx,fy):=hv2.symm
  rw [e3]
  refine za<|e_mv rfl<|e_p (zd rfl)<|e_p (zd rfl)<|zi<|ze<|zL<|zj ?_
  exact zBa yL (none,0) trivial (zl rfl) (zl rfl) (by rw [hv1,hv2];rfl) (ho:=(o0 rfl)) sN
 ·
  have hz:=Decidable.not_not.1 hbad
  have hok:=Pg.ok hz
  have hrng:=hok.rng
  have h64:n≤64:=by have:=hok.n64;omega
  refine zC<|ze<|zh<|zGa (X:=Unit) (fun x=>True) (fun x=>[(24,.bool (decide (((yB (ex,ey))=true)∨((yB (fx,fy))=true)))),(7,ya yb 0),(6,.slice none 0 0),(5,yc (some ⟨b2,0,none⟩)),(4,yc (some ⟨b1,0,none⟩)),(0,.slice p n cap)]) (fun x=>[boxA b2 30 [ya yb fx,ya yb fy],boxA b1 30 [ya yb ex,ya yb ey]]) (fun x=>[slF (rI2 .i64) p cap l]) ?_ ?_
  ·
   refine za<|e_ru (zb 1 ty30 rfl rfl (.t2 .nil))<|zQ rfl rfl (.c rfl .n) ce46 (zlc (ex:=ex) (ey:=ey) (hwex:=ass) (hwey:=ass)) (.n)<|zDe rfl rfl (zaa rfl) (fun h4=> ?_) (fun h4=> ?_)
   ·
    refine e_no<|e_no<|e_p (zp rfl rfl)<|zi ?_
    exact zha () tt9 ((.e rfl (congrArg Value.bool cbu) (.of rfl)):SubM _ _) (ho:=((.of [0,0] rfl):PickO _ _ _)) (s0 rfl)
   ·
    refine e_ru (zb 0 ty30 rfl rfl (.t2 .nil))<|zQ rfl rfl (.c rfl .n) ce46 (zlc (ex:=fx) (ey:=fy) (hwex:=ass) (hwey:=ass)) (.n)<|e_p (zp rfl rfl)<|zi ?_
    exact zha () tt9 ((.e rfl (congrArg Value.bool cbu) (.of rfl)):SubM _ _) (ho:=((.of [0,0] rfl):PickO _ _ _)) (s0 rfl)
  ·
   rintro ⟨⟩ -
   try dsimp only
   refine zJ rfl (fun hfar=> ?_) (fun hfar=> ?_)
   ·
    obtain ⟨hv1,hv2⟩:=Pg.wn_far (a:=(ex,ey)) (b:=(fx,fy)) hz (by simp [yB] at hfar;intro h;rcases hfar with k|k;exact k h.1;exact k h.2)
    refine zh<|zqb 69 rR ?_
    have e5:([]:List Pg.Q2)=yw l (ex,ey) (fx,fy):=hv2.symm
    rw [e5]
    refine za<|e_p (zd rfl)<|e_p (zd rfl)<|zi<|ze<|zL<|zj ?_
    exact zBa yL (none,0) trivial (zl rfl) (zl rfl) (by rw [hv1,hv2];rfl) (ho:=(o0 rfl)) sN
   ·
    have hin:yr (ex,ey)∧yr (fx,fy):=by simpa [yB] using hfar
    refine zC<|ze<|zh<|zGa (X:=Unit) (fun x=>True) (fun x=>[(36,.bool (decide ((fx≤ex)∨(fy≤ey)))),(7,ya yb 0),(6,.slice none 0 0),(5,yc (some ⟨b2,0,none⟩)),(4,yc (some ⟨b1,0,none⟩)),(0,.slice p n cap)]) (fun x=>[boxA b2 30 [ya yb fx,ya yb fy],boxA b1 30 [ya yb ex,ya yb ey]]) (fun x=>[slF (rI2 .i64) p cap l]) ?_ ?_
    ·
     refine za<|e_p (zf ye rfl sz3 rfl rfl)<|e_ru (zg 1 ty3 rfl rfl rfl)<|e_p (zf ye rfl sz3 rfl rfl)<|e_ru (zg 0 ty3 rfl rfl rfl)<|e_p (zNa rfl rfl)<|zZ rfl rfl (zaa rfl) (fun h6=> ?_) (fun h6=> ?_)
     ·
      refine e_no<|e_no<|e_no<|e_no<|e_no<|e_p (zp rfl rfl)<|zi ?_
      exact zha () tt9 ((.e rfl (congrArg Value.bool cbu) (.of rfl)):SubM _ _) (ho:=((.of [0,0] rfl):PickO _ _ _)) (s0 rfl)
     ·
      refine e_p (zf ye rfl sz3 rfl rfl)<|e_ru (zg 1 ty3 rfl rfl rfl)<|e_p (zf ye rfl sz3 rfl rfl)<|e_ru (zg 0 ty3 rfl rfl rfl)<|e_p (zNa rfl rfl)<|e_p (zp rfl rfl)<|zi ?_
      exact zha () tt9 ((.e rfl (congrArg Value.bool cbu) (.of rfl)):SubM _ _) (ho:=((.of [0,0] rfl):PickO _ _ _)) (s0 rfl)
    ·
     rintro ⟨⟩ -
     try dsimp only
     refine zJ rfl (fun hord=> ?_) (fun hord=> ?_)
     ·
      obtain ⟨hv1,hv2⟩:=Pg.wn_ord (a:=(ex,ey)) (b:=(fx,fy)) hz hin (by dsimp only;omega)
      refine zh<|zqb 69 rR ?_
      have e7:([]:List Pg.Q2)=yw l (ex,ey) (fx,fy):=hv2.symm
      rw [e7]
      refine za<|e_p (zd rfl)<|e_p (zd rfl)<|zi<|ze<|zL<|zj ?_
      exact zBa yL (none,0) trivial (zl rfl) (zl rfl) (by rw [hv1,hv2];rfl) (ho:=(o0 rfl)) sN
     ·
      obtain ⟨hv1,hv2⟩:=Pg.wn_ok (a:=(ex,ey)) (b:=(fx,fy)) hz hin (by dsimp only;omega)
      refine zC<|ze<|zh<|zqb 69 rR<|za<|e_p (zd rfl)<|zi<|ze<|zh<|zh<|za<|e_mv rfl<|e_p (zR yd rfl)<|e_mv rfl<|zi<|ze<|zE<|zra (X:=Nat×(Option Addr)×Nat) (fun x:Nat×(Option Addr)×Nat=>x.1≤n) (fun x=>[(9,.slice (x.2.1) (x.1) (x.2.2)),(39,ya yb ((x.1:Nat):Int)),(38,ya yb ((n:Nat):Int)),(37,.slice p n cap),(7,ya yb 0),(6,.slice none 0 0),(5,yc (some ⟨b2,0,none⟩)),(4,yc (some ⟨b1,0,none⟩))]) (fun x=>[rowA 69 rR (x.2.1) (x.2.2) (yv (l.take x.1)),boxA b2 30 [ya yb fx,ya yb fy],boxA b1 30 [ya yb ex,ya yb ey]]) (fun x=>[slF (rI2 .i64) p cap l]) (fun x:Nat×(Option Addr)×Nat=>n - x.1) (0,none,0) (show 0≤n from by exact Nat.zero_le _) ((.c rfl (.e rfl cgs (.of rfl))):SubM _ _) (ho:=((.e (i:=0) rfl cgs (.of [0,0] rfl)):PickO _ _ _)) (s0 rfl) ?_
      rintro ⟨i,p7,c7⟩ hI
      replace hI:i≤n:=hI
      try dsimp only
      refine zh<|za<|e_p (zda rfl rfl)<|zi<|ze<|zh<|zJ rfl (fun h8=> ?_) (fun h8=> ?_)
      ·
       have hpl:(yv (l.take i)).length=i:=by unfold yv;rw [List.length_map,List.length_take];omega
       refine zC<|ze<|zh<|zE<|zh<|za<|zX (x0:=(l.getD i (0,0))) 0 i rfl yd sz30 rfl rfl rfl cbs rfl rfl (gD (d:=(0,0)) om) (fun b9 o10 hok11=> ?_)
       obtain ⟨hok11x,hok11y⟩:=hok11
       replace hok11x:=zM.1 hok11x
       replace hok11y:=zM.1 hok11y
       refine e_ru (zt (j:=0) 0 ty30 rfl rfl rfl (.t2 .nil))<|zP rfl rfl (zn zr30 rfl) (fun b12=> ?_)
       refine zm 0 rfl rfl rfl rfl rfl sz30 rfl (.t2 .nil) .z<|zi<|ze<|za<|e_mv rfl<|e_p (zf ye rfl sz3 rfl rfl)<|e_ru (zg 0 ty3 rfl rfl rfl)<|e_p (zf ye rfl sz3 rfl rfl)<|e_ru (zg 0 ty3 rfl rfl rfl)<|zG rfl rfl (.c rfl (.c rfl .n)) ce56 (zjb (ex:=(l.getD i (0,0)).1) (ey:=(l.getD i (0,0)).2) (hwex:=cbo) (hwey:=cbo)) (.n) ?_
       rintro ⟨wr013,wr114,wr215,wr316⟩ -
       dsimp only [aq,nq,cq]
       refine zKa rfl rfl (zPa (r:=rR) (k:=1) yj inf69 rfl dd dd dd (.c (x:=(((yi ((l.getD i (0,0)).1) ((l.getD i (0,0)).2)).1),((yi ((l.getD i (0,0)).1) ((l.getD i (0,0)).2)).2))) (cs:=[wr013.b,wr013.l,wr114.b,wr114.l,wr215.b,wr215.l,wr316.b,wr316.l]) (wr013,wr114,wr215,wr316) rfl rfl rfl (fun g hr=>⟨Holds.get 0 rfl hr,Holds.get 1 rfl hr⟩) .n)) (fun b17 _=> ?_)
       refine zka 0 rfl .z<|zQa 2 rfl rfl rfl (zua 0 rfl yj inf69 dd rfl rfl cbs rfl cbs om om) (fun _=>(.s (.s .z))) ?_
       rintro ⟨p18,c19⟩ -
       dsimp only [aq,nq,cq]
       refine e_p (zd rfl)<|zi<|zT<|ze ?_
       have hrw:((yv (l.take i))++([(((yi ((l.getD i (0,0)).1) ((l.getD i (0,0)).2)).1),((yi ((l.getD i (0,0)).1) ((l.getD i (0,0)).2)).2))]))=yv (l.take (i+1)):=by rw [Pg.pts_take om]
       rw [hrw]
       refine za<|e_p (zO (z:=(((i+1):Nat):Int)) rfl rfl (w64 om))<|e_mv rfl<|zi<|zla ((i+1),p18,c19) (show (i+1)≤n from by show i+1≤n;omega) (by show n - (i+1)<n - i;omega) ((.e rfl cgs (.of rfl)):SubM _ _) (ho:=((.of [2,2,2] rfl):PickO _ _ _)) ((.c (j:=4) rfl .n):SelR _ _ _)
      ·
       refine zqa<|zk<|zk<|zD<|ze<|zh<|zh ?_
       have hin9:i=n:=by omega
       have e20:yv (l.take i)=yv l:=by rw [hin9,List.take_of_length_le om]
       rw [e20]
       have hpl:(yv l).length=i:=by unfold yv;rw [List.length_map];omega
       have hbq0:=Pg.pts_bq hrng
       have hbq1:Pg.bq 99 (yp (yi ex 1) (yi ex 0) (yv l)):=Pg.clL_bq (ym om om) (ym om om) hbq0
       have hbq2:Pg.bq 963 (yp (yi fx 0) (yi fx 1) (yp (yi ex 1) (yi ex 0) (yv l))):=Pg.clL_bq (ym om om) (ym om om) hbq1
       have hbq3:Pg.bq 8739 (yp (yi 0 ey) (yi 1 ey) (yp (yi fx 0) (yi fx 1) (yp (yi ex 1) (yi ex 0) (yv l)))):=Pg.clL_bq (ym om om) (ym om om) hbq2
       have hcl0:(yp (yi ex 1) (yi ex 0) (yv l)).length≤2*(yv l).length:=Pg.clL_len
       have hcl1:(yp (yi fx 0) (yi fx 1) (yp (yi ex 1) (yi ex 0) (yv l))).length≤2*(yp (yi ex 1) (yi ex 0) (yv l)).length:=Pg.clL_len
       have hcl2:(yp (yi 0 ey) (yi 1 ey) (yp (yi fx 0) (yi fx 1) (yp (yi ex 1) (yi ex 0) (yv l)))).length≤2*(yp (yi fx 0) (yi fx 1) (yp (yi ex 1) (yi ex 0) (yv l))).length:=Pg.clL_len
       refine zic 2 rfl (.s (.s .z))<|zic 1 rfl (.s .z)<|za<|e_p (zcb .n (.c rfl .n))<|e_p (zcb .n (.c rfl .n))<|e_p (zcb .n (.c rfl .n))<|e_p (zcb .n (.c rfl .n))<|zKa rfl rfl (zba (enc:=fun z:Nat×List Value=>[.func (.func z.1) #[] z.2.toArray]) (ok:=fun _=>True) (h1:=fun _=>rfl) (h2:=fun _=>rfl) (k:=4) yu inf83 rfl dd dd dd (.c (x:=(57,[yc (some ⟨b1,0,none⟩)])) rfl rfl (fun _ _=>by trivial) (.c (x:=(59,[yc (some ⟨b2,0,none⟩)])) rfl rfl (fun _ _=>by trivial) (.c (x:=(60,[yc (some ⟨b1,0,none⟩)])) rfl rfl (fun _ _=>by trivial) (.c (x:=(61,[yc (some ⟨b2,0,none⟩)])) rfl rfl (fun _ _=>by trivial) .n))))) (fun b21 _=> ?_)
       refine e_p (zR yu rfl)<|e_mv rfl<|zi<|ze<|zE<|zng<|zRc<|zh<|za<|e_p (zda rfl rfl)<|zi<|ze<|zh<|zub rfl rfl<|zC<|ze<|zh<|zE<|zh<|za<|e_p (zoa (j:=0) yu sz83 rfl rfl rfl om)<|r_vl rfl rfl (zpa (x0:=(57,[yc (some ⟨b1,0,none⟩)])) (v:= .func (.func 57) #[] #[yc (some ⟨b1,0,none⟩)]) 0 0 rfl ty83 rfl rfl (by rfl) rfl) (fun _ hok22=> ?_)
       refine e_p (zd rfl)<|zi<|ze<|za<|e_mv rfl<|e_mv rfl<|zka 1 rfl (.s .z)<|zFc (first:=[]) (cap:=[yc (some ⟨b1,0,none⟩)]) rfl rfl rfl (.c rfl .n) ce57 (zue (p:=p7) (n:=i) (cap:=c7) (l:=(yv l)) (ba:=b1) (ex:=ex) (ey:=ey) (hn:=cbo) (hwex:=ass) (hwey:=ass) (hbq:=cbo) (hnK:=cbo)) (.c (j:=0) rfl (.c (j:=2) rfl .n)) ?_
       rintro ⟨p223,c224⟩ -
       dsimp only [aq,nq,cq]
       refine e_p (zd rfl)<|zi<|zT<|ze<|za<|e_p (zO (z:=1) rfl rfl (w64 dd))<|e_mv rfl<|zi<|ztd<|zRc<|zh<|za<|e_p (zda rfl rfl)<|zi<|ze<|zh<|zub rfl rfl<|zC<|ze<|zh<|zE<|zh<|za<|e_p (zoa (j:=1) yu sz83 rfl rfl rfl om)<|r_vl rfl rfl (zpa (x0:=(59,[yc (some ⟨b2,0,none⟩)])) (v:= .func (.func 59) #[] #[yc (some ⟨b2,0,none⟩)]) 1 1 rfl ty83 rfl rfl (by rfl) rfl) (fun _ hok25=> ?_)
       refine e_p (zd rfl)<|zi<|ze<|za<|e_mv rfl<|e_mv rfl<|zka 0 rfl .z<|zFc (first:=[]) (cap:=[yc (some ⟨b2,0,none⟩)]) rfl rfl rfl (.c rfl .n) ce59 (zve (p:=p223) (n:=(yp (yi ex 1) (yi ex 0) (yv l)).length) (cap:=c224) (l:=(yp (yi ex 1) (yi ex 0) (yv l))) (ba:=b2) (ex:=fx) (ey:=fy) (hn:=cbo) (hwex:=ass) (hwey:=ass) (hbq:=cbo) (hnK:=cbo)) (.c (j:=0) rfl (.c (j:=2) rfl .n)) ?_
       rintro ⟨p226,c227⟩ -
       dsimp only [aq,nq,cq]
       refine e_p (zd rfl)<|zi<|zT<|ze<|za<|e_p (zO (z:=2) rfl rfl (w64 dd))<|e_mv rfl<|zi<|ztd<|zRc<|zh<|za<|e_p (zda rfl rfl)<|zi<|ze<|zh<|zub rfl rfl<|zC<|ze<|zh<|zE<|zh<|za<|e_p (zoa (j:=2) yu sz83 rfl rfl rfl om)<|r_vl rfl rfl (zpa (x0:=(60,[yc (some ⟨b1,0,none⟩)])) (v:= .func (.func 60) #[] #[yc (some ⟨b1,0,none⟩)]) 2 2 rfl ty83 rfl rfl (by rfl) rfl) (fun _ hok28=> ?_)
       refine e_p (zd rfl)<|zi<|ze<|za<|e_mv rfl<|e_mv rfl<|zka 0 rfl .z<|zFc (first:=[]) (cap:=[yc (some ⟨b1,0,none⟩)]) rfl rfl rfl (.c rfl .n) ce60 (zwe (p:=p226) (n:=(yp (yi fx 0) (yi fx 1) (yp (yi ex 1) (yi ex 0) (yv l))).length) (cap:=c227) (l:=(yp (yi fx 0) (yi fx 1) (yp (yi ex 1) (yi ex 0) (yv l)))) (ba:=b1) (ex:=ex) (ey:=ey) (hn:=cbo) (hwex:=ass) (hwey:=ass) (hbq:=cbo) (hnK:=cbo)) (.c (j:=0) rfl (.c (j:=4) rfl .n)) ?_
       rintro ⟨p229,c230⟩ -
       dsimp only [aq,nq,cq]
       refine e_p (zd rfl)<|zi<|zT<|ze<|za<|e_p (zO (z:=3) rfl rfl (w64 dd))<|e_mv rfl<|zi<|ztd<|zRc<|zh<|za<|e_p (zda rfl rfl)<|zi<|ze<|zh<|zub rfl rfl<|zC<|ze<|zh<|zE<|zh<|za<|e_p (zoa (j:=3) yu sz83 rfl rfl rfl om)<|r_vl rfl rfl (zpa (x0:=(61,[yc (some ⟨b2,0,none⟩)])) (v:= .func (.func 61) #[] #[yc (some ⟨b2,0,none⟩)]) 3 3 rfl ty83 rfl rfl (by rfl) rfl) (fun _ hok31=> ?_)
       refine e_p (zd rfl)<|zi<|ze<|za<|e_mv rfl<|e_mv rfl<|zka 0 rfl .z<|zFc (first:=[]) (cap:=[yc (some ⟨b2,0,none⟩)]) rfl rfl rfl (.c rfl .n) ce61 (zxe (p:=p229) (n:=(yp (yi 0 ey) (yi 1 ey) (yp (yi fx 0) (yi fx 1) (yp (yi ex 1) (yi ex 0) (yv l)))).length) (cap:=c230) (l:=(yp (yi 0 ey) (yi 1 ey) (yp (yi fx 0) (yi fx 1) (yp (yi ex 1) (yi ex 0) (yv l))))) (ba:=b2) (ex:=fx) (ey:=fy) (hn:=cbo) (hwex:=ass) (hwey:=ass) (hbq:=cbo) (hnK:=cbo)) (.c (j:=0) rfl (.c (j:=4) rfl .n)) ?_
       rintro ⟨p232,c233⟩ -
       dsimp only [aq,nq,cq]
       refine e_p (zd rfl)<|zi<|zT<|ze<|za<|e_p (zO (z:=4) rfl rfl (w64 dd))<|e_mv rfl<|zi<|ztd<|zRc<|zh<|za<|e_p (zda rfl rfl)<|zi<|ze<|zh<|zbb rfl rfl<|zqa<|zk<|zk<|zD<|ze<|zh<|za<|e_mv rfl<|e_p (zd rfl)<|e_p (zd rfl)<|zi<|ze<|zL ?_
       have e34:yp (yi 1 fy) (yi 0 fy) (yp (yi 0 ey) (yi 1 ey) (yp (yi fx 0) (yi fx 1) (yp (yi ex 1) (yi ex 0) (yv l))))=yw l (ex,ey) (fx,fy):=by exact hv2.symm
       rw [e34]
       exact zBa yL (p232,c233) trivial (zl rfl) (zl rfl) (by first|(rw [hv1,hv2];done)|(rw [hv1,hv2];rfl)) (ho:=(o0 rfl)) sN
end Go.Proofs.YtjcpbhlijoigfaaGreat.Sp
namespace Go.Proofs.YtjcpbhlijoigfaaGreat.Sp
open Go
set_option linter.unusedVariables false
set_option maxRecDepth 100000
set_option maxHeartbeats 8000000
theorem zPf:Con yl 11 [] [] [] (Y:=Unit) (fun y=>True) (fun y=> .bool true) (fun y=>[]) (fun y=>[]):=by
 refine zo Tryz.func11 rfl rfl rfl (fun c=> ?_)
 show RunC _ _ _ _ _ [] [] []
 refine zh<|za<|e_p (zd rfl)<|zi<|ze<|zh<|za<|e_p (zK zr30 rfl ye (.c sz3 (.c sz3 .n)) (.c rfl (.c rfl .n)) (.c rfl rfl rfl (.take .nil) (.c rfl rfl rfl (.skip (.take .nil)) .n)))<|e_p (zK zr30 rfl ye (.c sz3 (.c sz3 .n)) (.c rfl (.c rfl .n)) (.c rfl rfl rfl (.take .nil) (.c rfl rfl rfl (.skip (.take .nil)) .n)))<|e_p (zK zr30 rfl ye (.c sz3 (.c sz3 .n)) (.c rfl (.c rfl .n)) (.c rfl rfl rfl (.take .nil) (.c rfl rfl rfl (.skip (.take .nil)) .n)))<|e_p (zK zr30 rfl ye (.c sz3 (.c sz3 .n)) (.c rfl (.c rfl .n)) (.c rfl rfl rfl (.take .nil) (.c rfl rfl rfl (.skip (.take .nil)) .n)))<|e_p (zK zr30 rfl ye (.c sz3 (.c sz3 .n)) (.c rfl (.c rfl .n)) (.c rfl rfl rfl (.take .nil) (.c rfl rfl rfl (.skip (.take .nil)) .n)))<|zKa rfl rfl (zba (enc:=fun z:Int×Int=>[ya yb z.1,ya yb z.2]) (ok:=fun z=>InK .i64 z.1∧InK .i64 z.2) (h1:=fun _=>rfl) (h2:=fun _=>rfl) (k:=5) yd inf30 rfl dd dd dd (.c (x:=(0,0)) rfl rfl (fun _ _=>by exact ⟨zM.2 (by first|omega|decide|(dsimp only;omega)),zM.2 (by first|omega|decide|(dsimp only;omega))⟩) (.c (x:=(4,0)) rfl rfl (fun _ _=>by exact ⟨zM.2 (by first|omega|decide|(dsimp only;omega)),zM.2 (by first|omega|decide|(dsimp only;omega))⟩) (.c (x:=(4,4)) rfl rfl (fun _ _=>by exact ⟨zM.2 (by first|omega|decide|(dsimp only;omega)),zM.2 (by first|omega|decide|(dsimp only;omega))⟩) (.c (x:=(2,1)) rfl rfl (fun _ _=>by exact ⟨zM.2 (by first|omega|decide|(dsimp only;omega)),zM.2 (by first|omega|decide|(dsimp only;omega))⟩) (.c (x:=(0,4)) rfl rfl (fun _ _=>by exact ⟨zM.2 (by first|omega|decide|(dsimp only;omega)),zM.2 (by first|omega|decide|(dsimp only;omega))⟩) .n)))))) (fun b1 _=> ?_)
 refine e_p (zd rfl)<|zi<|ze<|zh<|za<|e_mv rfl<|zka 0 rfl .z<|zQ rfl rfl (.c rfl .n) ce13 (zgg (p:=some ⟨b1,0,none⟩) (n:=5) (cap:=5) (l:=[(0,0),(4,0),(4,4),(2,1),(0,4)]) (hn:=by first|rfl|assumption|decide|omega|(decide +kernel))) (.c (j:=0) rfl .n) ?_
 have e2:Pg.arV ([(0,0),(4,0),(4,4),(2,1),(0,4)])=20:=by exact Pg.ex1.1
 rw [e2]
 have e3:Pg.arC ([(0,0),(4,0),(4,4),(2,1),(0,4)])=0:=by exact Pg.ex1.2
 rw [e3]
 refine e_mv rfl<|e_p (zA rfl rfl)<|e_p (zA rfl rfl)<|e_p (zd rfl)<|e_p (zd rfl)<|zi<|ze<|zh<|za<|e_mv rfl<|e_p (zK zr30 rfl ye (.c sz3 (.c sz3 .n)) (.c rfl (.c rfl .n)) (.c rfl rfl rfl (.take .nil) (.c rfl rfl rfl (.skip (.take .nil)) .n)))<|zQ rfl rfl (.c rfl (.c rfl .n)) ce17 (zpd (p:=some ⟨b1,0,none⟩) (n:=5) (cap:=5) (l:=[(0,0),(4,0),(4,4),(2,1),(0,4)]) (hx:=1) (hy:=1) (hn:=by first|rfl|assumption|decide|omega|(decide +kernel)) (hwhx:=by first|rfl|assumption|decide|omega|(decide +kernel)) (hwhy:=by first|rfl|assumption|decide|omega|(decide +kernel))) (.c (j:=0) rfl .n) ?_
 have e4:Pg.isV ([(0,0),(4,0),(4,4),(2,1),(0,4)]) (1,1)=1:=by exact Pg.ex2.1
 rw [e4]
 have e5:Pg.isC ([(0,0),(4,0),(4,4),(2,1),(0,4)]) (1,1)=0:=by exact Pg.ex2.2
 rw [e5]
 refine e_mv rfl<|e_p (zA rfl rfl)<|e_p (zA rfl rfl)<|e_p (zd rfl)<|e_p (zd rfl)<|zi<|ze<|zh<|za<|e_mv rfl<|e_p (zK zr30 rfl ye (.c sz3 (.c sz3 .n)) (.c rfl (.c rfl .n)) (.c rfl rfl rfl (.take .nil) (.c rfl rfl rfl (.skip (.take .nil)) .n)))<|zQ rfl rfl (.c rfl (.c rfl .n)) ce17 (zpd (p:=some ⟨b1,0,none⟩) (n:=5) (cap:=5) (l:=[(0,0),(4,0),(4,4),(2,1),(0,4)]) (hx:=2) (hy:=2) (hn:=by first|rfl|assumption|decide|omega|(decide +kernel)) (hwhx:=by first|rfl|assumption|decide|omega|(decide +kernel)) (hwhy:=by first|rfl|assumption|decide|omega|(decide +kernel))) (.c (j:=0) rfl .n) ?_
 have e6:Pg.isV ([(0,0),(4,0),(4,4),(2,1),(0,4)]) (2,2)=(-1):=by exact Pg.ex3.1
 rw [e6]
 have e7:Pg.isC ([(0,0),(4,0),(4,4),(2,1),(0,4)]) (2,2)=0:=by exact Pg.ex3.2
 rw [e7]
 refine e_mv rfl<|e_p (zA rfl rfl)<|e_p (zA rfl rfl)<|e_p (zd rfl)<|e_p (zd rfl)<|zi<|ze<|zh<|za<|e_mv rfl<|zG rfl rfl (.c rfl .n) ce30 (zhg (p:=some ⟨b1,0,none⟩) (n:=5) (cap:=5) (l:=[(0,0),(4,0),(4,4),(2,1),(0,4)]) (hn:=by first|rfl|assumption|decide|omega|(decide +kernel))) (.c (j:=0) rfl .n) ?_
 rintro ⟨p28,c29⟩ -
 dsimp only [aq,nq,cq]
 have e10:Pg.erC ([(0,0),(4,0),(4,4),(2,1),(0,4)])=0:=by exact Pg.ex4.2
 rw [e10]
 refine e_mv rfl<|e_p (zA rfl rfl)<|e_p (zA rfl rfl)<|e_p (zd rfl)<|e_p (zd rfl)<|zi<|ze<|zh<|za<|e_p (zK zr30 rfl ye (.c sz3 (.c sz3 .n)) (.c rfl (.c rfl .n)) (.c rfl rfl rfl (.take .nil) (.c rfl rfl rfl (.skip (.take .nil)) .n)))<|e_p (zK zr30 rfl ye (.c sz3 (.c sz3 .n)) (.c rfl (.c rfl .n)) (.c rfl rfl rfl (.take .nil) (.c rfl rfl rfl (.skip (.take .nil)) .n)))<|e_p (zK zr30 rfl ye (.c sz3 (.c sz3 .n)) (.c rfl (.c rfl .n)) (.c rfl rfl rfl (.take .nil) (.c rfl rfl rfl (.skip (.take .nil)) .n)))<|e_p (zK zr30 rfl ye (.c sz3 (.c sz3 .n)) (.c rfl (.c rfl .n)) (.c rfl rfl rfl (.take .nil) (.c rfl rfl rfl (.skip (.take .nil)) .n)))<|zKa rfl rfl (zba (enc:=fun z:Int×Int=>[ya yb z.1,ya yb z.2]) (ok:=fun z=>InK .i64 z.1∧InK .i64 z.2) (h1:=fun _=>rfl) (h2:=fun _=>rfl) (k:=4) yd inf30 rfl dd dd dd (.c (x:=(0,0)) rfl rfl (fun _ _=>by exact ⟨zM.2 (by first|omega|decide|(dsimp only;omega)),zM.2 (by first|omega|decide|(dsimp only;omega))⟩) (.c (x:=(4,0)) rfl rfl (fun _ _=>by exact ⟨zM.2 (by first|omega|decide|(dsimp only;omega)),zM.2 (by first|omega|decide|(dsimp only;omega))⟩) (.c (x:=(4,4)) rfl rfl (fun _ _=>by exact ⟨zM.2 (by first|omega|decide|(dsimp only;omega)),zM.2 (by first|omega|decide|(dsimp only;omega))⟩) (.c (x:=(0,4)) rfl rfl (fun _ _=>by exact ⟨zM.2 (by first|omega|decide|(dsimp only;omega)),zM.2 (by first|omega|decide|(dsimp only;omega))⟩) .n))))) (fun b11 _=> ?_)
 refine e_p (zK zr30 rfl ye (.c sz3 (.c sz3 .n)) (.c rfl (.c rfl .n)) (.c rfl rfl rfl (.take .nil) (.c rfl rfl rfl (.skip (.take .nil)) .n)))<|e_p (zK zr30 rfl ye (.c sz3 (.c sz3 .n)) (.c rfl (.c rfl .n)) (.c rfl rfl rfl (.take .nil) (.c rfl rfl rfl (.skip (.take .nil)) .n)))<|zka 0 rfl .z<|zG rfl rfl (.c rfl (.c rfl (.c rfl .n))) ce19 (zqd (p:=some ⟨b11,0,none⟩) (n:=4) (cap:=4) (l:=[(0,0),(4,0),(4,4),(0,4)]) (ex:=2) (ey:=(-1)) (fx:=9) (fy:=2) (hn:=by first|rfl|assumption|decide|omega|(decide +kernel)) (hwex:=by first|rfl|assumption|decide|omega|(decide +kernel)) (hwey:=by first|rfl|assumption|decide|omega|(decide +kernel)) (hwfx:=by first|rfl|assumption|decide|omega|(decide +kernel)) (hwfy:=by first|rfl|assumption|decide|omega|(decide +kernel))) (.c (j:=0) rfl .n) ?_
 rintro ⟨p212,c213⟩ -
 dsimp only [aq,nq,cq]
 have e14:yO ([(0,0),(4,0),(4,4),(0,4)]) (2,(-1)) (9,2)=0:=by exact Pg.ex5
 rw [e14]
 refine e_mv rfl<|e_p (zA rfl rfl)<|e_p (zA rfl rfl)<|e_p (zd rfl)<|e_p (zd rfl)<|zi<|ze<|zh<|za<|e_mv rfl<|e_mv rfl<|e_p (zO (z:=0) rfl rfl (w64 dd))<|e_mv rfl<|e_p (zO (z:=0) rfl rfl (w64 dd))<|e_mv rfl<|e_p (zO (z:=0) rfl rfl (w64 dd))<|e_mv rfl<|e_p (zO (z:=0) rfl rfl (w64 dd))<|e_p (zxa rfl rfl) ?_
 rw [show true=true from by decide]
 refine e_mv rfl<|e_mv rfl<|e_p (zxa rfl rfl) ?_
 rw [show true=true from by decide]
 refine e_p (zp rfl rfl)<|e_mv rfl<|e_mv rfl<|e_p (zxa rfl rfl) ?_
 rw [show true=true from by decide]
 refine e_p (zp rfl rfl)<|e_mv rfl<|e_mv rfl<|e_p (zxa rfl rfl) ?_
 rw [show true=true from by decide]
 refine e_p (zp rfl rfl)<|e_mv rfl<|e_mv rfl<|e_p (zYa zr50 rfl yx sz3 (.c rfl (.c rfl (.c rfl .n))) (.c rfl rfl rfl (.take .nil) (.c rfl rfl rfl (.skip (.take .nil)) (.c rfl rfl rfl (.s2 (.take .nil)) .n))))<|e_p (zYa zr50 rfl yx sz3 (.c rfl (.c rfl (.c rfl .n))) (.c rfl rfl rfl (.take .nil) (.c rfl rfl rfl (.skip (.take .nil)) (.c rfl rfl rfl (.s2 (.take .nil)) .n))))<|e_p (zYa zr50 rfl yx sz3 (.c rfl (.c rfl (.c rfl .n))) (.c rfl rfl rfl (.take .nil) (.c rfl rfl rfl (.skip (.take .nil)) (.c rfl rfl rfl (.s2 (.take .nil)) .n))))<|zKa rfl rfl (zba (enc:=fun z:Int×Int×Int=>[ya yb z.1,ya yb z.2.1,ya yb z.2.2]) (ok:=fun z=>InK .i64 z.1∧InK .i64 z.2.1∧InK .i64 z.2.2) (h1:=fun _=>rfl) (h2:=fun _=>rfl) (k:=3) yy inf50 rfl dd dd dd (.c (x:=(1,2,3)) rfl rfl (fun _ _=>by exact ⟨zM.2 (by first|omega|decide|(dsimp only;omega)),zM.2 (by first|omega|decide|(dsimp only;omega)),zM.2 (by first|omega|decide|(dsimp only;omega))⟩) (.c (x:=(0,1,3)) rfl rfl (fun _ _=>by exact ⟨zM.2 (by first|omega|decide|(dsimp only;omega)),zM.2 (by first|omega|decide|(dsimp only;omega)),zM.2 (by first|omega|decide|(dsimp only;omega))⟩) (.c (x:=(0,3,4)) rfl rfl (fun _ _=>by exact ⟨zM.2 (by first|omega|decide|(dsimp only;omega)),zM.2 (by first|omega|decide|(dsimp only;omega)),zM.2 (by first|omega|decide|(dsimp only;omega))⟩) .n)))) (fun b15 _=> ?_)
 refine zka 3 rfl (.s (.s (.s .z)))<|zka 0 rfl .z<|zQ rfl rfl (.c rfl (.c rfl .n)) ce32 (zaf (p1:=p28) (n1:=(Pg.erV ([(0,0),(4,0),(4,4),(2,1),(0,4)])).length) (c1:=c29) (l1:=(Pg.erV ([(0,0),(4,0),(4,4),(2,1),(0,4)]))) (p2:=some ⟨b15,0,none⟩) (n2:=3) (c2:=3) (l2:=[(1,2,3),(0,1,3),(0,3,4)]) (hn1:=by first|rfl|assumption|decide|omega|(decide +kernel)) (hn2:=by first|rfl|assumption|decide|omega|(decide +kernel))) (.c (j:=1) rfl (.c (j:=0) rfl .n)) ?_
 rw [show (decide ((Pg.erV ([(0,0),(4,0),(4,4),(2,1),(0,4)]))=([(1,2,3),(0,1,3),(0,3,4)])))=true from by exact decide_eq_true Pg.ex4.1]
 refine e_p (zp rfl rfl)<|e_mv rfl<|e_mv rfl<|zka 1 rfl (.s .z)<|zG rfl rfl (.c rfl .n) ce24 (zXd (p:=p212) (n:=(yw ([(0,0),(4,0),(4,4),(0,4)]) (2,(-1)) (9,2)).length) (cap:=c213) (l:=(yw ([(0,0),(4,0),(4,4),(0,4)]) (2,(-1)) (9,2))) (K:=100) (hn:=by rfl) (hbq:=by exact Pg.ex6) (hK:=dd) (hz:=by exact fun i hi=>Nat.le_trans (Pg.ex7 i hi) dd)) (.c (j:=0) rfl .n) ?_
 rintro ⟨w316,w417⟩ -
 dsimp only [aq,nq,cq]
 refine zG rfl rfl (.c rfl .n) ce26 (zkb (z:=8) (hz:=by first|rfl|assumption|decide|omega|(decide +kernel))) (.n) ?_
 rintro ⟨w318,w419⟩ -
 dsimp only [aq,nq,cq]
 refine zQ rfl rfl (.c rfl (.c rfl .n)) ce44 (zzc (u1:=w316) (v1:=w417) (q1:=(yE (yw ([(0,0),(4,0),(4,4),(0,4)]) (2,(-1)) (9,2)))) (u2:=w318) (v2:=w419) (q2:=((8:Int):Rat)) (hl:=by decide +kernel)) (.c (j:=1) rfl (.c (j:=0) rfl .n)) ?_
 rw [show (decide ((yE (yw ([(0,0),(4,0),(4,4),(0,4)]) (2,(-1)) (9,2)))=((8:Int):Rat)))=true from by exact decide_eq_true Pg.ex8]
 refine e_p (zp rfl rfl)<|e_p (zd rfl)<|zi<|ze<|zL ?_
 exact zx Tryz.results11 () trivial (zl rfl) rfl (ho:=oN) sN
end Go.Proofs.YtjcpbhlijoigfaaGreat.Sp
namespace Go.Proofs.YtjcpbhlijoigfaaGreat.Sp
open Go
set_option linter.unusedVariables false
set_option maxRecDepth 100000
set_option maxHeartbeats 8000000
theorem zye {p:Option Addr} {n:Nat} {cap:Nat} {l:List Pg.P2} (hn:l.length=n) (h64:n≤64) (hrng:∀x∈l,yr x):Con yl 53 [.slice p n cap] [] [slF (rI2 .i64) p cap l] (Y:=Unit) (fun y=>True) (fun y=> .bool (decide (Pg.smpR l))) (fun y=>[]) (fun y=>[]):=by
 refine zo Tryz.func53 rfl rfl rfl (fun c=> ?_)
 show RunC _ _ _ _ _ [(0,.slice p n cap)] [] [slF (rI2 .i64) p cap l]
 refine zea 0 rfl (fun hL0=> ?_)
 refine zh<|za<|e_p (zd rfl)<|zi<|ze<|zh<|za<|e_mv rfl<|e_p (zR yd rfl)<|e_p (zd rfl)<|zi<|ze<|zh<|zh<|za<|e_p (zd rfl)<|zi<|ze<|zE<|zra (X:=Nat) (fun x:Nat=>x≤n∧∀w,w<x→∀j,j<n→w<j→¬yQ n l w j) (fun x=>[(4,ya yb ((x:Nat):Int)),(3,ya yb ((n:Nat):Int)),(0,.slice p n cap)]) (fun x=>[]) (fun x=>[slF (rI2 .i64) p cap l]) (fun x:Nat=>n - x) 0 (show 0≤n∧∀w,w<0→∀j,j<n→w<j→¬yQ n l w j from by exact ⟨Nat.zero_le _,fun w h=>by omega⟩) ((.e rfl cgs (.c rfl (.c rfl .n))):SubM _ _) (ho:=oN) (s0 rfl) ?_
 rintro k hI
 replace hI:k≤n∧∀w,w<k→∀j,j<n→w<j→¬yQ n l w j:=hI
 try dsimp only
 obtain ⟨hk,hall⟩:=hI
 refine zh<|zh<|za<|e_mv rfl<|e_mv rfl<|e_p (zda rfl rfl)<|zi<|ze<|zJ rfl (fun h1=> ?_) (fun h1=> ?_)
 ·
  refine zC<|ze<|zh<|zE<|zh<|za<|e_mv rfl<|e_p (zO (z:=(((k+1):Nat):Int)) rfl rfl (w64 om))<|e_p (zd rfl)<|zi<|ze<|zE<|zra (X:=Nat) (fun x:Nat=>k+1≤x∧∀w,w<x→k<w→¬yQ n l k w) (fun x=>[(5,ya yb ((x:Nat):Int)),(4,ya yb ((k:Nat):Int)),(3,ya yb ((n:Nat):Int)),(0,.slice p n cap)]) (fun x=>[]) (fun x=>[slF (rI2 .i64) p cap l]) (fun x:Nat=>n - x) (k+1) (show k+1≤(k+1)∧∀w,w<(k+1)→k<w→¬yQ n l k w from by exact ⟨Nat.le_refl _,fun w h h2=>by omega⟩) (mR rfl) (ho:=oN) (s0 rfl) ?_
  rintro j hJ
  replace hJ:k+1≤j∧∀w,w<j→k<w→¬yQ n l k w:=hJ
  try dsimp only
  obtain ⟨hj2,hB2⟩:=hJ
  refine zh<|zh<|za<|e_mv rfl<|e_mv rfl<|e_p (zda rfl rfl)<|zi<|ze<|zJ rfl (fun h2=> ?_) (fun h2=> ?_)
  ·
   have hm1:(k+1)%n<n:=Nat.mod_lt _ om
   have hm3:(j+1)%n<n:=Nat.mod_lt _ om
   have hg0:yr (l.getD k (0,0)):=yP.gt hrng om
   have hg1:yr (l.getD ((k+1)%n) (0,0)):=yP.gt hrng om
   have hg2:yr (l.getD j (0,0)):=yP.gt hrng om
   have hg3:yr (l.getD ((j+1)%n) (0,0)):=yP.gt hrng om
   refine zC<|ze<|zh<|zE<|zh<|za<|e_mv rfl<|e_mv rfl<|zX (x0:=(l.getD k (0,0))) 0 k rfl yd sz30 rfl rfl rfl cbs rfl rfl (gD (d:=(0,0)) om) (fun b3 o4 hok5=> ?_)
   obtain ⟨hok5x,hok5y⟩:=hok5
   replace hok5x:=zM.1 hok5x
   replace hok5y:=zM.1 hok5y
   refine e_ru (zt (j:=0) 0 ty30 rfl rfl rfl (.t2 .nil))<|zP rfl rfl (zn zr30 rfl) (fun b6=> ?_)
   refine zm 0 rfl rfl rfl rfl rfl sz30 rfl (.t2 .nil) .z<|zi<|ze<|zh<|za<|e_mv rfl<|e_mv rfl<|e_p (zO (z:=(((k+1):Nat):Int)) rfl rfl (w64 om))<|e_mv rfl<|e_p (zza (z:=((((k+1)%n):Nat):Int)) rfl rfl om (remN om om))<|zX (x0:=(l.getD ((k+1)%n) (0,0))) 1 ((k+1)%n) rfl yd sz30 rfl rfl rfl cbs rfl rfl (gD (d:=(0,0)) om) (fun b7 o8 hok9=> ?_)
   obtain ⟨hok9x,hok9y⟩:=hok9
   replace hok9x:=zM.1 hok9x
   replace hok9y:=zM.1 hok9y
   refine e_ru (zt (j:=0) 0 ty30 rfl rfl rfl (.t2 .nil))<|zP rfl rfl (zn zr30 rfl) (fun b10=> ?_)
   refine zm 0 rfl rfl rfl rfl rfl sz30 rfl (.t2 .nil) .z<|zi<|ze<|zh<|za<|e_mv rfl<|e_mv rfl<|zX (x0:=(l.getD j (0,0))) 2 j rfl yd sz30 rfl rfl rfl cbs rfl rfl (gD (d:=(0,0)) om) (fun b11 o12 hok13=> ?_)
   obtain ⟨hok13x,hok13y⟩:=hok13
   replace hok13x:=zM.1 hok13x
   replace hok13y:=zM.1 hok13y
   refine e_ru (zt (j:=0) 0 ty30 rfl rfl rfl (.t2 .nil))<|zP rfl rfl (zn zr30 rfl) (fun b14=> ?_)
   refine zm 0 rfl rfl rfl rfl rfl sz30 rfl (.t2 .nil) .z<|zi<|ze<|zh<|za<|e_mv rfl<|e_mv rfl<|e_p (zO (z:=(((j+1):Nat):Int)) rfl rfl (w64 om))<|e_mv rfl<|e_p (zza (z:=((((j+1)%n):Nat):Int)) rfl rfl om (remN om om))<|zX (x0:=(l.getD ((j+1)%n) (0,0))) 3 ((j+1)%n) rfl yd sz30 rfl rfl rfl cbs rfl rfl (gD (d:=(0,0)) om) (fun b15 o16 hok17=> ?_)
   obtain ⟨hok17x,hok17y⟩:=hok17
   replace hok17x:=zM.1 hok17x
   replace hok17y:=zM.1 hok17y
   refine e_ru (zt (j:=0) 0 ty30 rfl rfl rfl (.t2 .nil))<|zP rfl rfl (zn zr30 rfl) (fun b18=> ?_)
   refine zm 0 rfl rfl rfl rfl rfl sz30 rfl (.t2 .nil) .z<|zi<|ze<|zh<|za<|e_mv rfl<|e_mv rfl<|e_p (zO (z:=(((k+1):Nat):Int)) rfl rfl (w64 om))<|e_p (zxa rfl rfl)<|zi<|ze<|zJ rfl (fun he=> ?_) (fun he=> ?_)
   ·
    refine zGa (X:=Unit) (fun x=>True) (fun x=>[(59,.bool (decide ((Pg.onS (((l.getD k (0,0)).1),((l.getD k (0,0)).2)) (((l.getD ((k+1)%n) (0,0)).1),((l.getD ((k+1)%n) (0,0)).2)) (((l.getD ((j+1)%n) (0,0)).1),((l.getD ((j+1)%n) (0,0)).2)))∨(Pg.onS (((l.getD j (0,0)).1),((l.getD j (0,0)).2)) (((l.getD ((j+1)%n) (0,0)).1),((l.getD ((j+1)%n) (0,0)).2)) (((l.getD k (0,0)).1),((l.getD k (0,0)).2)))))),(5,ya yb ((j:Nat):Int)),(4,ya yb ((k:Nat):Int)),(3,ya yb ((n:Nat):Int)),(0,.slice p n cap)]) (fun x=>[boxA b18 30 [ya yb ((l.getD ((j+1)%n) (0,0)).1),ya yb ((l.getD ((j+1)%n) (0,0)).2)],boxA b14 30 [ya yb ((l.getD j (0,0)).1),ya yb ((l.getD j (0,0)).2)],boxA b10 30 [ya yb ((l.getD ((k+1)%n) (0,0)).1),ya yb ((l.getD ((k+1)%n) (0,0)).2)],boxA b6 30 [ya yb ((l.getD k (0,0)).1),ya yb ((l.getD k (0,0)).2)]]) (fun x=>[atF b15 o16 [ya yb ((l.getD ((j+1)%n) (0,0)).1),ya yb ((l.getD ((j+1)%n) (0,0)).2)],atF b11 o12 [ya yb ((l.getD j (0,0)).1),ya yb ((l.getD j (0,0)).2)],atF b7 o8 [ya yb ((l.getD ((k+1)%n) (0,0)).1),ya yb ((l.getD ((k+1)%n) (0,0)).2)],atF b3 o4 [ya yb ((l.getD k (0,0)).1),ya yb ((l.getD k (0,0)).2)],slF (rI2 .i64) p cap l]) ?_ ?_
    ·
     refine za<|e_ru (zb 3 ty30 rfl rfl (.t2 .nil))<|e_ru (zb 2 ty30 rfl rfl (.t2 .nil))<|e_ru (zb 0 ty30 rfl rfl (.t2 .nil))<|zQ rfl rfl (.c rfl (.c rfl (.c rfl .n))) ce35 (zSb (ex:=(l.getD k (0,0)).1) (ey:=(l.getD k (0,0)).2) (fx:=(l.getD ((k+1)%n) (0,0)).1) (fy:=(l.getD ((k+1)%n) (0,0)).2) (gx:=(l.getD ((j+1)%n) (0,0)).1) (gy:=(l.getD ((j+1)%n) (0,0)).2) (hre:=cbo) (hrf:=cbo) (hrg:=cbo)) (.n)<|zZ rfl rfl (zaa rfl) (fun h19=> ?_) (fun h19=> ?_)
     ·
      refine e_no<|e_no<|e_no<|e_no<|e_p (zp rfl rfl)<|zi ?_
      exact zha () tt9 ((.e rfl (congrArg Value.bool cbu) (.of rfl)):SubM _ _) (ho:=((.of [0,0,0,0] rfl):PickO _ _ _)) ((.of [0,1,2,3,4] rfl):SelR _ _ _)
     ·
      refine e_ru (zb 1 ty30 rfl rfl (.t2 .nil))<|e_ru (zb 0 ty30 rfl rfl (.t2 .nil))<|e_ru (zb 3 ty30 rfl rfl (.t2 .nil))<|zQ rfl rfl (.c rfl (.c rfl (.c rfl .n))) ce35 (zSb (ex:=(l.getD j (0,0)).1) (ey:=(l.getD j (0,0)).2) (fx:=(l.getD ((j+1)%n) (0,0)).1) (fy:=(l.getD ((j+1)%n) (0,0)).2) (gx:=(l.getD k (0,0)).1) (gy:=(l.getD k (0,0)).2) (hre:=cbo) (hrf:=cbo) (hrg:=cbo)) (.n)<|e_p (zp rfl rfl)<|zi ?_
      exact zha () tt9 ((.e rfl (congrArg Value.bool cbu) (.of rfl)):SubM _ _) (ho:=((.of [0,0,0,0] rfl):PickO _ _ _)) ((.of [0,1,2,3,4] rfl):SelR _ _ _)
    ·
     rintro ⟨⟩ -
     try dsimp only
     refine zJ rfl (fun hb1=> ?_) (fun hb1=> ?_)
     ·
      refine zh<|za<|e_p (zd rfl)<|zi<|ze<|zL<|zy<|zj<|zj<|zy<|zy<|zj<|zj<|zy<|zj ?_
      exact zx yM () trivial (zl rfl) (congrArg Value.bool (decide_eq_false (fun h=>(Pg.smpR_n hn).1 h k om j om om ((Pg.bad_1 om).2 hb1)))) (ho:=oN) sN
     ·
      refine zC<|zT<|ze<|za<|e_mv rfl<|e_p (zO (z:=(((j+1):Nat):Int)) rfl rfl (w64 om))<|e_p (zd rfl)<|zi<|zla (j+1) (show k+1≤(j+1)∧∀w,w<(j+1)→k<w→¬yQ n l k w from by exact ⟨by omega,yq hB2 (fun _ hb=>hb1 ((Pg.bad_1 om).1 hb))⟩) (by show n - (j+1)<n - j;omega) (mR rfl) (ho:=oN) ((.c (j:=4) rfl .n):SelR _ _ _)
   ·
    refine zh<|za<|e_mv rfl<|e_p (zO (z:=(((j+1):Nat):Int)) rfl rfl (w64 om))<|e_mv rfl<|e_p (zza (z:=((((j+1)%n):Nat):Int)) rfl rfl om (remN om om))<|e_mv rfl<|e_p (zxa rfl rfl)<|zi<|ze<|zJ rfl (fun he2=> ?_) (fun he2=> ?_)
    ·
     refine zGa (X:=Unit) (fun x=>True) (fun x=>[(75,.bool (decide ((Pg.onS (((l.getD k (0,0)).1),((l.getD k (0,0)).2)) (((l.getD ((k+1)%n) (0,0)).1),((l.getD ((k+1)%n) (0,0)).2)) (((l.getD j (0,0)).1),((l.getD j (0,0)).2)))∨(Pg.onS (((l.getD j (0,0)).1),((l.getD j (0,0)).2)) (((l.getD ((j+1)%n) (0,0)).1),((l.getD ((j+1)%n) (0,0)).2)) (((l.getD ((k+1)%n) (0,0)).1),((l.getD ((k+1)%n) (0,0)).2)))))),(5,ya yb ((j:Nat):Int)),(4,ya yb ((k:Nat):Int)),(3,ya yb ((n:Nat):Int)),(0,.slice p n cap)]) (fun x=>[boxA b18 30 [ya yb ((l.getD ((j+1)%n) (0,0)).1),ya yb ((l.getD ((j+1)%n) (0,0)).2)],boxA b14 30 [ya yb ((l.getD j (0,0)).1),ya yb ((l.getD j (0,0)).2)],boxA b10 30 [ya yb ((l.getD ((k+1)%n) (0,0)).1),ya yb ((l.getD ((k+1)%n) (0,0)).2)],boxA b6 30 [ya yb ((l.getD k (0,0)).1),ya yb ((l.getD k (0,0)).2)]]) (fun x=>[atF b15 o16 [ya yb ((l.getD ((j+1)%n) (0,0)).1),ya yb ((l.getD ((j+1)%n) (0,0)).2)],atF b11 o12 [ya yb ((l.getD j (0,0)).1),ya yb ((l.getD j (0,0)).2)],atF b7 o8 [ya yb ((l.getD ((k+1)%n) (0,0)).1),ya yb ((l.getD ((k+1)%n) (0,0)).2)],atF b3 o4 [ya yb ((l.getD k (0,0)).1),ya yb ((l.getD k (0,0)).2)],slF (rI2 .i64) p cap l]) ?_ ?_
     ·
      refine za<|e_ru (zb 3 ty30 rfl rfl (.t2 .nil))<|e_ru (zb 2 ty30 rfl rfl (.t2 .nil))<|e_ru (zb 1 ty30 rfl rfl (.t2 .nil))<|zQ rfl rfl (.c rfl (.c rfl (.c rfl .n))) ce35 (zSb (ex:=(l.getD k (0,0)).1) (ey:=(l.getD k (0,0)).2) (fx:=(l.getD ((k+1)%n) (0,0)).1) (fy:=(l.getD ((k+1)%n) (0,0)).2) (gx:=(l.getD j (0,0)).1) (gy:=(l.getD j (0,0)).2) (hre:=cbo) (hrf:=cbo) (hrg:=cbo)) (.n)<|zZ rfl rfl (zaa rfl) (fun h20=> ?_) (fun h20=> ?_)
      ·
       refine e_no<|e_no<|e_no<|e_no<|e_p (zp rfl rfl)<|zi ?_
       exact zha () tt9 ((.e rfl (congrArg Value.bool cbu) (.of rfl)):SubM _ _) (ho:=((.of [0,0,0,0] rfl):PickO _ _ _)) ((.of [0,1,2,3,4] rfl):SelR _ _ _)
      ·
       refine e_ru (zb 1 ty30 rfl rfl (.t2 .nil))<|e_ru (zb 0 ty30 rfl rfl (.t2 .nil))<|e_ru (zb 2 ty30 rfl rfl (.t2 .nil))<|zQ rfl rfl (.c rfl (.c rfl (.c rfl .n))) ce35 (zSb (ex:=(l.getD j (0,0)).1) (ey:=(l.getD j (0,0)).2) (fx:=(l.getD ((j+1)%n) (0,0)).1) (fy:=(l.getD ((j+1)%n) (0,0)).2) (gx:=(l.getD ((k+1)%n) (0,0)).1) (gy:=(l.getD ((k+1)%n) (0,0)).2) (hre:=cbo) (hrf:=cbo) (hrg:=cbo)) (.n)<|e_p (zp rfl rfl)<|zi ?_
       exact zha () tt9 ((.e rfl (congrArg Value.bool cbu) (.of rfl)):SubM _ _) (ho:=((.of [0,0,0,0] rfl):PickO _ _ _)) ((.of [0,1,2,3,4] rfl):SelR _ _ _)
     ·
      rintro ⟨⟩ -
      try dsimp only
      refine zJ rfl (fun hb2=> ?_) (fun hb2=> ?_)
      ·
       refine zh<|za<|e_p (zd rfl)<|zi<|ze<|zL<|zy<|zj<|zj<|zy<|zy<|zj<|zj<|zy<|zj ?_
       exact zx yM () trivial (zl rfl) (congrArg Value.bool (decide_eq_false (fun h=>(Pg.smpR_n hn).1 h k om j om om ((Pg.bad_2 om om).2 hb2)))) (ho:=oN) sN
      ·
       refine zC<|zT<|ze<|za<|e_mv rfl<|e_p (zO (z:=(((j+1):Nat):Int)) rfl rfl (w64 om))<|e_p (zd rfl)<|zi<|zla (j+1) (show k+1≤(j+1)∧∀w,w<(j+1)→k<w→¬yQ n l k w from by exact ⟨by omega,yq hB2 (fun _ hb=>hb2 ((Pg.bad_2 om om).1 hb))⟩) (by show n - (j+1)<n - j;omega) (mR rfl) (ho:=oN) ((.c (j:=4) rfl .n):SelR _ _ _)
    ·
     refine zh<|za<|e_ru (zb 3 ty30 rfl rfl (.t2 .nil))<|e_ru (zb 2 ty30 rfl rfl (.t2 .nil))<|e_ru (zb 1 ty30 rfl rfl (.t2 .nil))<|e_ru (zb 0 ty30 rfl rfl (.t2 .nil))<|zQ rfl rfl (.c rfl (.c rfl (.c rfl (.c rfl .n)))) ce92 (zBf (ex:=(l.getD k (0,0)).1) (ey:=(l.getD k (0,0)).2) (fx:=(l.getD ((k+1)%n) (0,0)).1) (fy:=(l.getD ((k+1)%n) (0,0)).2) (gx:=(l.getD j (0,0)).1) (gy:=(l.getD j (0,0)).2) (hx:=(l.getD ((j+1)%n) (0,0)).1) (hy:=(l.getD ((j+1)%n) (0,0)).2) (hre:=cbo) (hrf:=cbo) (hrg:=cbo) (hrh:=cbo)) (.n)<|zi<|ze<|zJ rfl (fun hb3=> ?_) (fun hb3=> ?_)
     ·
      refine zh<|za<|e_p (zd rfl)<|zi<|ze<|zL<|zy<|zj<|zj<|zy<|zy<|zj<|zj<|zy<|zj ?_
      exact zx yM () trivial (zl rfl) (congrArg Value.bool (decide_eq_false (fun h=>(Pg.smpR_n hn).1 h k om j om om ((Pg.bad_3 om om).2 hb3)))) (ho:=oN) sN
     ·
      refine zC<|zT<|ze<|za<|e_mv rfl<|e_p (zO (z:=(((j+1):Nat):Int)) rfl rfl (w64 om))<|e_p (zd rfl)<|zi<|zla (j+1) (show k+1≤(j+1)∧∀w,w<(j+1)→k<w→¬yQ n l k w from by exact ⟨by omega,yq hB2 (fun _ hb=>hb3 ((Pg.bad_3 om om).1 hb))⟩) (by show n - (j+1)<n - j;omega) (mR rfl) (ho:=oN) ((.c (j:=4) rfl .n):SelR _ _ _)
  ·
   refine zqa<|zk<|zk<|zD<|zT<|ze<|za<|e_mv rfl<|e_p (zO (z:=(((k+1):Nat):Int)) rfl rfl (w64 om))<|e_p (zd rfl)<|zi<|zla (k+1) (show (k+1)≤n∧∀w,w<(k+1)→∀j,j<n→w<j→¬yQ n l w j from by exact ⟨by omega,yq hall (fun w hw hw2=>hB2 w om hw2)⟩) (by show n - (k+1)<n - k;omega) (mR rfl) (ho:=oN) (s0 rfl)
 ·
  refine zqa<|zk<|zk<|zD<|ze<|zh<|za<|e_p (zd rfl)<|zi<|ze<|zL ?_
  exact zx yM () trivial (zl rfl) (congrArg Value.bool (decide_eq_true ((Pg.smpR_n hn).2 (fun w hw=>hall w om)))) (ho:=oN) sN
theorem zef {p:Option Addr} {n:Nat} {cap:Nat} {l:List Pg.P2} (hn:l.length=n):Con yl 16 [.slice p n cap] [] [slF (rI2 .i64) p cap l] (Y:=Unit) (fun y=>True) (fun y=> ya yb (Pg.ck l)) (fun y=>[]) (fun y=>[]):=by
 refine zo Tryz.func16 rfl rfl rfl (fun c=> ?_)
 show RunC _ _ _ _ _ [(0,.slice p n cap)] [] [slF (rI2 .i64) p cap l]
 refine zea 0 rfl (fun hL0=> ?_)
 refine zh<|za<|e_p (zd rfl)<|zi<|ze<|zh<|zGa (X:=Unit) (fun x=>True) (fun x=>[(12,.bool (decide ((((n:Nat):Int)<3)∨(64<((n:Nat):Int))))),(2,ya yb 0),(0,.slice p n cap)]) (fun x=>[]) (fun x=>[slF (rI2 .i64) p cap l]) ?_ ?_
 ·
  refine za<|e_mv rfl<|e_p (zR yd rfl)<|e_p (zda rfl rfl)<|zZ rfl rfl (zaa rfl) (fun h1=> ?_) (fun h1=> ?_)
  ·
   refine e_no<|e_no<|e_no<|e_p (zp rfl rfl)<|zi ?_
   exact zha () tt9 ((.e rfl (congrArg Value.bool cbu) (.c rfl (.c rfl .n))):SubM _ _) (ho:=oN) (s0 rfl)
  ·
   refine e_mv rfl<|e_p (zR yd rfl)<|e_p (zDa rfl rfl)<|e_p (zp rfl rfl)<|zi ?_
   exact zha () tt9 ((.e rfl (congrArg Value.bool cbu) (.c rfl (.c rfl .n))):SubM _ _) (ho:=oN) (s0 rfl)
 ·
  rintro ⟨⟩ -
  try dsimp only
  refine zJ rfl (fun hlim=> ?_) (fun hlim=> ?_)
  ·
   refine zh<|za<|e_p (zd rfl)<|zi<|ze<|zL<|zj ?_
   exact zx yH () trivial (zl rfl) (by rw [Pg.ck_lim om]) (ho:=oN) sN
  ·
   have hlm:¬(l.length<3∨64<l.length):=by omega
   refine zC<|ze<|zh<|zh<|za<|e_p (zd rfl)<|zi<|ze<|zE<|zra (X:=Nat) (fun x:Nat=>x≤n∧Pg.ck1 (l.take x) (l.drop x)=Pg.ck1 [] l) (fun x=>[(3,ya yb ((x:Nat):Int)),(0,.slice p n cap)]) (fun x=>[]) (fun x=>[slF (rI2 .i64) p cap l]) (fun x:Nat=>n - x) 0 (show 0≤n∧Pg.ck1 (l.take 0) (l.drop 0)=Pg.ck1 [] l from by exact ⟨Nat.zero_le _,rfl⟩) ((.e rfl cgs (.c rfl .n)):SubM _ _) (ho:=oN) (s0 rfl) ?_
   rintro i hI
   replace hI:i≤n∧Pg.ck1 (l.take i) (l.drop i)=Pg.ck1 [] l:=hI
   try dsimp only
   obtain ⟨hi,hck⟩:=hI
   refine zh<|zh<|za<|e_mv rfl<|e_mv rfl<|e_p (zR yd rfl)<|e_p (zda rfl rfl)<|zi<|ze<|zJ rfl (fun h2=> ?_) (fun h2=> ?_)
   ·
    refine zC<|ze<|zh<|zE<|zh<|zh<|za<|e_mv rfl<|e_mv rfl<|zX (x0:=(l.getD i (0,0))) 0 i rfl yd sz30 rfl rfl rfl cbs rfl rfl (gD (d:=(0,0)) om) (fun b3 o4 hok5=> ?_)
    obtain ⟨hok5x,hok5y⟩:=hok5
    replace hok5x:=zM.1 hok5x
    replace hok5y:=zM.1 hok5y
    refine e_ru (zt (j:=0) 0 ty30 rfl rfl rfl (.t2 .nil))<|zQ rfl rfl (.c rfl .n) ce48 (zGe (ex:=(l.getD i (0,0)).1) (ey:=(l.getD i (0,0)).2) (hwex:=cbo) (hwey:=cbo)) (.n)<|e_p (zgb rfl)<|zi<|ze<|zJ rfl (fun hfar=> ?_) (fun hfar=> ?_)
    ·
     refine zh<|za<|e_p (zd rfl)<|zi<|ze<|zL<|zj<|zy<|zj<|zj<|zy<|zj ?_
     have hv1:=Pg.ck1_far (l:=l) (i:=i) om (by simpa [yB] using hfar)
     exact zx yH () trivial (zl rfl) (by rw [Pg.ck_one hlm (by rw [← hck,hv1];decide),←hck,hv1]) (ho:=oN) sN
    ·
     refine zC<|ze<|zh<|za<|e_p (zd rfl)<|zi<|ze<|zE<|zra (X:=Nat) (fun x:Nat=>x≤i∧∀w,w<x→¬(l.getD i (0,0))=(l.getD w (0,0))) (fun x=>[(4,ya yb ((x:Nat):Int)),(3,ya yb ((i:Nat):Int)),(0,.slice p n cap)]) (fun x=>[]) (fun x=>[atF b3 o4 [ya yb ((l.getD i (0,0)).1),ya yb ((l.getD i (0,0)).2)],slF (rI2 .i64) p cap l]) (fun x:Nat=>i - x) 0 (show 0≤i∧∀w,w<0→¬(l.getD i (0,0))=(l.getD w (0,0)) from by exact ⟨Nat.zero_le _,fun w h=>by omega⟩) ((.e rfl cgs (.c rfl (.c rfl .n))):SubM _ _) (ho:=oN) ((.of [0,1] rfl):SelR _ _ _) ?_
     rintro j hJ
     replace hJ:j≤i∧∀w,w<j→¬(l.getD i (0,0))=(l.getD w (0,0)):=hJ
     try dsimp only
     obtain ⟨hj2,hB2⟩:=hJ
     refine zh<|zh<|za<|e_mv rfl<|e_mv rfl<|e_p (zda rfl rfl)<|zi<|ze<|zJ rfl (fun h6=> ?_) (fun h6=> ?_)
     ·
      refine zC<|ze<|zh<|zE<|zh<|zY (OW:=[]) (O:=[]) 100000 mixed (.then (.block (.then (.then (.block (.block (.then (.then (.block (.then .ret)))))))))) kr<|e_dm 0 rfl rfl rfl<|e_dm 1 rfl rfl rfl<|zga (x0:=(l.getD i (0,0))) 2 rfl rfl kr kr 1 i rfl yd sz30 rfl rfl rfl cbs rfl rfl (gD (d:=(0,0)) om) (fun b7 o8 hok9=> ?_)
      obtain ⟨hok9x,hok9y⟩:=hok9
      replace hok9x:=zM.1 hok9x
      replace hok9y:=zM.1 hok9y
      refine e_u 3 rfl rfl (zt (j:=0) 0 ty30 rfl rfl rfl (.t2 .nil))<|e_dm 4 rfl rfl rfl<|e_dm 5 rfl rfl rfl<|zga (x0:=(l.getD j (0,0))) 6 rfl rfl kr kr 2 j rfl yd sz30 rfl rfl rfl cbs rfl rfl (gD (d:=(0,0)) om) (fun b10 o11 hok12=> ?_)
      obtain ⟨hok12x,hok12y⟩:=hok12
      replace hok12x:=zM.1 hok12x
      replace hok12y:=zM.1 hok12y
      refine e_u 7 rfl rfl (zt (j:=0) 0 ty30 rfl rfl rfl (.t2 .nil))<|e_one 8 (zta rfl rfl rfl rfl (.c rfl (.c rfl .n)) ce52 (zzf (ex:=(l.getD i (0,0)).1) (ey:=(l.getD i (0,0)).2) (fx:=(l.getD j (0,0)).1) (fy:=(l.getD j (0,0)).2)) (.n) ?_)
      refine zW kr<|ze<|zJ rfl (fun hdup=> ?_) (fun hdup=> ?_)
      ·
       refine zh<|za<|e_p (zd rfl)<|zi<|ze<|zL<|zy<|zj<|zj<|zy<|zy<|zj<|zj<|zy<|zj ?_
       have hv1:=Pg.ck1_dup (l:=l) (i:=i) om (by simpa [yB] using hfar) (Pg.in_take (j:=j) om om hdup)
       exact zx yH () trivial (zl rfl) (by rw [Pg.ck_one hlm (by rw [← hck,hv1];decide),←hck,hv1]) (ho:=oN) sN
      ·
       refine zC<|zT<|ze<|za<|e_mv rfl<|e_p (zO (z:=(((j+1):Nat):Int)) rfl rfl (w64 om))<|e_p (zd rfl)<|zi<|zla (j+1) (show (j+1)≤i∧∀w,w<(j+1)→¬(l.getD i (0,0))=(l.getD w (0,0)) from by exact ⟨by omega,yq hB2 hdup⟩) (by show i - (j+1)<i - j;omega) (mR rfl) (ho:=oN) ((.of [2,3] rfl):SelR _ _ _)
     ·
      refine zqa<|zk<|zk<|zD<|zT<|ze<|za<|e_mv rfl<|e_p (zO (z:=(((i+1):Nat):Int)) rfl rfl (w64 om))<|e_p (zd rfl)<|zi<|zla (i+1) (show (i+1)≤n∧Pg.ck1 (l.take (i+1)) (l.drop (i+1))=Pg.ck1 [] l from by exact ⟨by omega,(Pg.ck1_go om (by simpa [yB] using hfar) (Pg.not_take om (fun w hw=>hB2 w om))).trans hck⟩) (by show n - (i+1)<n - i;omega) ((.c rfl (.c rfl .n)):SubM _ _) (ho:=oN) ((.c (j:=1) rfl .n):SelR _ _ _)
   ·
    have hz1:Pg.ck1 [] l=0:=by rw [← hck];exact Pg.ck1_end om
    have hrng:=Pg.ck1_zero hz1
    refine zqa<|zk<|zk<|zD<|ze<|zh<|zh<|za<|e_mv rfl<|zQ rfl rfl (.c rfl .n) ce53 (zye (p:=p) (n:=n) (cap:=cap) (l:=l) (hn:=ass) (h64:=cbo) (hrng:=cbo)) (.c (j:=0) rfl .n)<|e_p (zgb rfl)<|zi<|ze<|zJ rfl (fun hsm=> ?_) (fun hsm=> ?_)
    ·
     refine zh<|za<|e_p (zd rfl)<|zi<|ze<|zL<|zj ?_
     exact zx yH () trivial (zl rfl) (by rw [Pg.ck_two hlm hz1 (fun h=>absurd ((Pg.smp_iff om).1 h) (by simpa using hsm))]) (ho:=oN) sN
    ·
     refine zC<|ze<|zh<|za<|e_p (zd rfl)<|zi<|ze<|zL ?_
     exact zx yH () trivial (zl rfl) (by rw [Pg.ck_ok hlm hz1 ((Pg.smp_iff om).2 (by simpa using hsm))]) (ho:=oN) sN
theorem zZd {p:Option Addr} {n:Nat} {cap:Nat} {l:List Pg.P2} (hn:l.length=n):Con yl 14 [.slice p n cap] [] [slF (rI2 .i64) p cap l] (Y:=Unit) (fun y=>True) (fun y=> .tuple #[ya yb (Pg.arV l),ya yb (Pg.arC l)]) (fun y=>[]) (fun y=>[]):=by
 refine zo Tryz.func14 rfl rfl rfl (fun c=> ?_)
 show RunC _ _ _ _ _ [(0,.slice p n cap)] [] [slF (rI2 .i64) p cap l]
 refine zea 0 rfl (fun hL0=> ?_)
 refine zh<|za<|e_p (zd rfl)<|e_p (zd rfl)<|zi<|ze<|zh<|zh<|za<|e_mv rfl<|e_p (zR yd rfl)<|e_p (zDa rfl rfl)<|zi<|ze<|zJ rfl (fun hlim=> ?_) (fun hlim=> ?_)
 ·
  refine zh<|za<|e_p (zd rfl)<|e_p (zd rfl)<|zi<|ze<|zL<|zj ?_
  obtain ⟨hv1,hv2⟩:=Pg.ar_lim (l:=l) om
  exact zBa Tryz.results14 () trivial (zl rfl) (zl rfl) (by rw [hv1,hv2]) (ho:=oN) sN
 ·
  refine zC<|ze<|zh<|za<|e_p (zd rfl)<|zi<|ze<|zh<|zh<|za<|e_p (zd rfl)<|zi<|ze<|zE<|zra (X:=Nat) (fun x:Nat=>x≤n∧∀j,j<x→yB (l.getD j (0,0))=false) (fun x=>[(5,ya yb ((x:Nat):Int)),(4,ya yb 0),(0,.slice p n cap)]) (fun x=>[]) (fun x=>[slF (rI2 .i64) p cap l]) (fun x:Nat=>n - x) 0 (show 0≤n∧∀j,j<0→yB (l.getD j (0,0))=false from by exact ⟨Nat.zero_le _,fun j h=>by omega⟩) ((.e rfl cgs (.c rfl (.c rfl .n))):SubM _ _) (ho:=oN) (s0 rfl) ?_
  rintro i hI
  replace hI:i≤n∧∀j,j<i→yB (l.getD j (0,0))=false:=hI
  try dsimp only
  obtain ⟨hi,hall⟩:=hI
  refine zh<|zh<|za<|e_mv rfl<|e_mv rfl<|e_p (zR yd rfl)<|e_p (zda rfl rfl)<|zi<|ze<|zJ rfl (fun h1=> ?_) (fun h1=> ?_)
  ·
   refine zC<|ze<|zh<|zE<|zh<|za<|e_mv rfl<|e_mv rfl<|zX (x0:=(l.getD i (0,0))) 0 i rfl yd sz30 rfl rfl rfl cbs rfl rfl (gD (d:=(0,0)) om) (fun b2 o3 hok4=> ?_)
   obtain ⟨hok4x,hok4y⟩:=hok4
   replace hok4x:=zM.1 hok4x
   replace hok4y:=zM.1 hok4y
   refine e_ru (zt (j:=0) 0 ty30 rfl rfl rfl (.t2 .nil))<|zQ rfl rfl (.c rfl .n) ce48 (zGe (ex:=(l.getD i (0,0)).1) (ey:=(l.getD i (0,0)).2) (hwex:=cbo) (hwey:=cbo)) (.n)<|e_p (zgb rfl)<|zi<|ze<|zJ rfl (fun hfar=> ?_) (fun hfar=> ?_)
   ·
    refine zh<|za<|e_p (zd rfl)<|e_p (zd rfl)<|zi<|ze<|zL<|zy<|zj<|zj<|zy<|zj ?_
    obtain ⟨hv1,hv2⟩:=Pg.ar_far (l:=l) om (Ms.any_true (0,0) (i:=i) om (by simpa [yB] using hfar))
    exact zBa Tryz.results14 () trivial (zl rfl) (zl rfl) (by rw [hv1,hv2]) (ho:=oN) sN
   ·
    refine zC<|zT<|ze<|za<|e_mv rfl<|e_p (zO (z:=(((i+1):Nat):Int)) rfl rfl (w64 om))<|e_p (zd rfl)<|zi<|zla (i+1) (show (i+1)≤n∧∀j,j<(i+1)→yB (l.getD j (0,0))=false from by exact ⟨by omega,yq (P:=fun j=>yB (l.getD j (0,0))=false) hall (by simpa [yB] using hfar)⟩) (by show n - (i+1)<n - i;omega) (mR rfl) (ho:=oN) ((.c (j:=1) rfl .n):SelR _ _ _)
  ·
   have hnf:¬l.any yB=true:=by rw [Ms.any_false (0,0) (fun j hj=>hall j om)];decide
   have hrng:=Pg.any_far hnf
   refine zqa<|zk<|zk<|zD<|ze<|zh<|zh<|za<|e_p (zd rfl)<|zi<|ze<|zE<|zra (X:=Nat) (fun x:Nat=>x≤n) (fun x=>[(4,ya yb (Pg.dbN n l x)),(6,ya yb ((x:Nat):Int)),(0,.slice p n cap)]) (fun x=>[]) (fun x=>[slF (rI2 .i64) p cap l]) (fun x:Nat=>n - x) 0 (show 0≤n from by exact Nat.zero_le _) ((.e rfl cgs (.e rfl cgs (.c rfl .n))):SubM _ _) (ho:=oN) (s0 rfl) ?_
   rintro k hJ
   replace hJ:k≤n:=hJ
   try dsimp only
   refine zh<|zh<|za<|e_mv rfl<|e_mv rfl<|e_p (zR yd rfl)<|e_p (zda rfl rfl)<|zi<|ze<|zJ rfl (fun h5=> ?_) (fun h5=> ?_)
   ·
    have hm1:(k+1)%n<n:=Nat.mod_lt _ om
    have hg0:yr (l.getD k (0,0)):=yP.gt hrng om
    have hg1:yr (l.getD ((k+1)%n) (0,0)):=yP.gt hrng om
    obtain ⟨hp1,hp2⟩:=Pg.ab hg0 hg1
    have hb1:=Pg.dbN_b hn hrng (i:=k) om
    refine zC<|ze<|zh<|zE<|zh<|za<|e_mv rfl<|e_mv rfl<|e_p (zO (z:=(((k+1):Nat):Int)) rfl rfl (w64 om))<|e_mv rfl<|e_p (zR yd rfl)<|e_p (zza (z:=((((k+1)%n):Nat):Int)) rfl rfl om (remN om om))<|zX (x0:=(l.getD ((k+1)%n) (0,0))) 0 ((k+1)%n) rfl yd sz30 rfl rfl rfl cbs rfl rfl (gD (d:=(0,0)) om) (fun b6 o7 hok8=> ?_)
    obtain ⟨hok8x,hok8y⟩:=hok8
    replace hok8x:=zM.1 hok8x
    replace hok8y:=zM.1 hok8y
    refine e_ru (zt (j:=0) 0 ty30 rfl rfl rfl (.t2 .nil))<|zP rfl rfl (zn zr30 rfl) (fun b9=> ?_)
    refine zm 0 rfl rfl rfl rfl rfl sz30 rfl (.t2 .nil) .z<|zi<|ze<|zY (OW:=[]) (O:=[boxA b9 30 [ya yb ((l.getD ((k+1)%n) (0,0)).1),ya yb ((l.getD ((k+1)%n) (0,0)).2)]]) 100000 mixed (.block (.then (.then (.block (.then .ret))))) kr<|e_dm 0 rfl rfl rfl<|e_dm 1 rfl rfl rfl<|e_dm 2 rfl rfl rfl<|zga (x0:=(l.getD k (0,0))) 3 rfl rfl kr kr 1 k rfl yd sz30 rfl rfl rfl cbs rfl rfl (gD (d:=(0,0)) om) (fun b10 o11 hok12=> ?_)
    obtain ⟨hok12x,hok12y⟩:=hok12
    replace hok12x:=zM.1 hok12x
    replace hok12y:=zM.1 hok12y
    refine e_pv 4 rfl rfl (zf ye rfl sz3 rfl rfl)<|e_u 5 rfl rfl (zB (j:=0) 0 ty3 rfl rfl rfl rfl)<|e_pv 6 rfl rfl (zf ye rfl sz3 rfl rfl)<|e_u 7 rfl rfl (zg 0 ty3 rfl rfl rfl)<|e_pv 8 rfl rfl (zEa (z:=((l.getD k (0,0)).1*(l.getD ((k+1)%n) (0,0)).2)) rfl rfl (w64 om))<|e_pv 9 rfl rfl (zO (z:=((Pg.dbN n l k)+((l.getD k (0,0)).1*(l.getD ((k+1)%n) (0,0)).2))) rfl rfl (w64 om))<|e_pv 10 rfl rfl (zf ye rfl sz3 rfl rfl)<|e_u 11 rfl rfl (zg 0 ty3 rfl rfl rfl)<|e_dm 12 rfl rfl rfl<|e_dm 13 rfl rfl rfl<|zga (x0:=(l.getD k (0,0))) 14 rfl rfl kr kr 2 k rfl yd sz30 rfl rfl rfl cbs rfl rfl (gD (d:=(0,0)) om) (fun b13 o14 hok15=> ?_)
    obtain ⟨hok15x,hok15y⟩:=hok15
    replace hok15x:=zM.1 hok15x
    replace hok15y:=zM.1 hok15y
    refine e_pv 15 rfl rfl (zf ye rfl sz3 rfl rfl)<|e_u 16 rfl rfl (zB (j:=1) 0 ty3 rfl rfl rfl rfl)<|e_pv 17 rfl rfl (zEa (z:=((l.getD ((k+1)%n) (0,0)).1*(l.getD k (0,0)).2)) rfl rfl (w64 om))<|e_pv 18 rfl rfl (zna (z:=(((Pg.dbN n l k)+((l.getD k (0,0)).1*(l.getD ((k+1)%n) (0,0)).2)) - ((l.getD ((k+1)%n) (0,0)).1*(l.getD k (0,0)).2))) rfl rfl (w64 om))<|e_pv 19 rfl rfl (zd rfl)<|zW kr<|zT<|ze<|za<|e_mv rfl<|e_p (zO (z:=(((k+1):Nat):Int)) rfl rfl (w64 om))<|e_p (zd rfl)<|zi<|zla (k+1) (show (k+1)≤n from by show k+1≤n;omega) (by show n - (k+1)<n - k;omega) ((.e rfl (by refine congrArg (Value.int .i64) ?_;show _=Pg.dbN n l k+Pg.tm n l k;unfold Pg.tm Pg.gt;omega) (.c rfl (.c rfl .n))):SubM _ _) (ho:=oN) ((.c (j:=3) rfl .n):SelR _ _ _)
   ·
    refine zqa<|zk<|zk<|zD<|ze<|zh<|za<|e_mv rfl<|e_p (zd rfl)<|e_p (zd rfl)<|zi<|ze<|zL ?_
    obtain ⟨hv1,hv2⟩:=Pg.ar_ok (l:=l) om hnf
    exact zBa Tryz.results14 () trivial (zl rfl) (zl rfl) (by rw [hv1,hv2,show k=n by omega,yz,hn]) (ho:=oN) sN
end Go.Proofs.YtjcpbhlijoigfaaGreat.Sp
namespace Go.Proofs.YtjcpbhlijoigfaaGreat.Sp
open Go
set_option linter.unusedVariables false
set_option maxRecDepth 100000
set_option maxHeartbeats 8000000
theorem zBg {p:Option Addr} {n:Nat} {cap:Nat} {l:List Pg.P2} (hn:l.length=n):Con yl 12 [.slice p n cap] [] [slF (rI2 .i64) p cap l] (Y:=Unit) (fun y=>True) (fun y=> .bool (decide (((n:Nat):Int)≤70∧(((n:Nat):Int)≤12∨64<((n:Nat):Int))))) (fun y=>[]) (fun y=>[]):=by
 refine zo Tryz.func12 rfl rfl rfl (fun c=> ?_)
 show RunC _ _ _ _ _ [(0,.slice p n cap)] [] [slF (rI2 .i64) p cap l]
 refine zea 0 rfl (fun hL0=> ?_)
 refine zh<|za<|e_p (zd rfl)<|zi<|ze<|zGa (X:=Unit) (fun x=>True) (fun x=>[(2,.bool (decide ((((n:Nat):Int)≤70)∧((((n:Nat):Int)≤12)∨(64<((n:Nat):Int))))))]) (fun x=>[]) (fun x=>[slF (rI2 .i64) p cap l]) ?_ ?_
 ·
  refine za<|e_mv rfl<|e_p (zR yd rfl)<|e_p (zWa rfl rfl)<|zZ rfl rfl (zaa rfl) (fun h1=> ?_) (fun h1=> ?_)
  ·
   refine e_mv rfl<|e_p (zR yd rfl)<|e_p (zWa rfl rfl)<|zZ rfl rfl (zaa rfl) (fun h2=> ?_) (fun h2=> ?_)
   ·
    refine e_no<|e_no<|e_no<|e_p (zp rfl rfl)<|e_p (zp rfl rfl)<|e_p (zd rfl)<|zi ?_
    exact zha () tt9 ((.e rfl (congrArg Value.bool cbu) .n):SubM _ _) (ho:=oN) (s0 rfl)
   ·
    refine e_mv rfl<|e_p (zR yd rfl)<|e_p (zDa rfl rfl)<|e_p (zp rfl rfl)<|e_p (zp rfl rfl)<|e_p (zd rfl)<|zi ?_
    exact zha () tt9 ((.e rfl (congrArg Value.bool cbu) .n):SubM _ _) (ho:=oN) (s0 rfl)
  ·
   refine e_no<|e_no<|e_no<|e_no<|e_no<|e_no<|e_no<|e_no<|e_p (zp rfl rfl)<|e_p (zd rfl)<|zi ?_
   exact zha () tt9 ((.e rfl (congrArg Value.bool cbu) .n):SubM _ _) (ho:=oN) (s0 rfl)
 ·
  rintro ⟨⟩ -
  try dsimp only
  refine zL ?_
  exact zx Tryz.results12 () trivial (zl rfl) (congrArg Value.bool (by first|rfl|(simp;omega)|simp_all)) (ho:=oN) sN
end Go.Proofs.YtjcpbhlijoigfaaGreat.Sp
namespace Go.Proofs.YtjcpbhlijoigfaaGreat.Sp
open Go
set_option linter.unusedVariables false
set_option maxRecDepth 100000
set_option maxHeartbeats 8000000
theorem zze {p1:Option Addr} {n1:Nat} {c1:Nat} {l1:List Pg.Q2} {p2:Option Addr} {n2:Nat} {c2:Nat} {l2:List Pg.Q2} (hn1:l1.length=n1) (hn2:l2.length=n2) (hb1:Pg.bq 500000 l1) (hb2:Pg.bq 500000 l2):Con yl 20 [.slice p1 n1 c1,.slice p2 n2 c2] [] [slF rR p1 c1 l1,slF rR p2 c2 l2] (Y:=Unit) (fun y=>True) (fun y=> .bool (decide (l1=l2))) (fun y=>[]) (fun y=>[]):=by
 refine zo Tryz.func20 rfl rfl rfl (fun c=> ?_)
 show RunC _ _ _ _ _ [(0,.slice p1 n1 c1),(1,.slice p2 n2 c2)] [] [slF rR p1 c1 l1,slF rR p2 c2 l2]
 refine zea 0 rfl (fun hL0=> ?_)
 refine zea 1 rfl (fun hL1=> ?_)
 refine zh<|za<|e_p (zd rfl)<|zi<|ze<|zh<|zh<|za<|e_mv rfl<|e_p (zR yj rfl)<|e_mv rfl<|e_p (zR yj rfl)<|e_p (zXa rfl rfl)<|zi<|ze<|zJ rfl (fun hlen=> ?_) (fun hlen=> ?_)
 ·
  refine zh<|za<|e_p (zd rfl)<|zi<|ze<|zL<|zj ?_
  exact zx yN () trivial (zl rfl) (congrArg Value.bool (decide_eq_false (fun h=>hlen (by rw [← hn1,←hn2,h])))) (ho:=oN) sN
 ·
  refine zC<|ze<|zh<|zh<|za<|e_p (zd rfl)<|zi<|ze<|zE<|zra (X:=Nat) (fun x:Nat=>x≤n1∧∀j,j<x→l1.getD j ((0:Rat),(0:Rat))=l2.getD j ((0:Rat),(0:Rat))) (fun x=>[(5,ya yb ((x:Nat):Int)),(0,.slice p1 n1 c1),(1,.slice p2 n2 c2)]) (fun x=>[]) (fun x=>[slF rR p1 c1 l1,slF rR p2 c2 l2]) (fun x:Nat=>n1 - x) 0 (show 0≤n1∧∀j,j<0→l1.getD j ((0:Rat),(0:Rat))=l2.getD j ((0:Rat),(0:Rat)) from by exact ⟨Nat.zero_le _,fun j h=>by omega⟩) ((.e rfl cgs (.c rfl (.c rfl .n))):SubM _ _) (ho:=oN) ((.of [0,1] rfl):SelR _ _ _) ?_
  rintro i hI
  replace hI:i≤n1∧∀j,j<i→l1.getD j ((0:Rat),(0:Rat))=l2.getD j ((0:Rat),(0:Rat)):=hI
  try dsimp only
  obtain ⟨hi,hall⟩:=hI
  refine zh<|zh<|za<|e_mv rfl<|e_mv rfl<|e_p (zR yj rfl)<|e_p (zda rfl rfl)<|zi<|ze<|zJ rfl (fun h1=> ?_) (fun h1=> ?_)
  ·
   have hba1:Big.hq (Pg.gq l1 i).1≤500000:=(Pg.bq_at hb1 (i:=i) om).1
   have hba2:Big.hq (Pg.gq l1 i).2≤500000:=(Pg.bq_at hb1 (i:=i) om).2
   have hbb1:Big.hq (Pg.gq l2 i).1≤500000:=(Pg.bq_at hb2 (i:=i) om).1
   have hbb2:Big.hq (Pg.gq l2 i).2≤500000:=(Pg.bq_at hb2 (i:=i) om).2
   refine zC<|ze<|zh<|zE<|zh<|zY (OW:=[]) (O:=[]) 100000 mixed (.then (.block (.then (.then (.block (.then .ret)))))) kr<|e_dm 0 rfl rfl rfl<|e_dm 1 rfl rfl rfl<|d_vl 2 rfl rfl kr kr rfl rfl (zIa (x0:=(Pg.gq l1 i)) 0 i rfl yj sz69 rfl cbs rfl rfl (gD (d:=((0:Rat),(0:Rat))) om)) ?_
   rintro ⟨b2,o3,w4,w5,w6,w7⟩ -
   dsimp only [aq,nq,cq]
   refine zRb open_rR<|e_pv 3 rfl rfl (zf yF rfl sz43 rfl rfl)<|e_u 4 rfl rfl (zt (j:=0) 0 ty43 rfl rfl rfl (.t4 .nil))<|e_dm 5 rfl rfl rfl<|e_dm 6 rfl rfl rfl<|d_vl 7 rfl rfl kr kr rfl rfl (zIa (x0:=(Pg.gq l2 i)) 4 i rfl yj sz69 rfl cbs rfl rfl (gD (d:=((0:Rat),(0:Rat))) om)) ?_
   rintro ⟨b8,o9,w10,w11,w12,w13⟩ -
   dsimp only [aq,nq,cq]
   refine zRb open_rR<|e_pv 8 rfl rfl (zf yF rfl sz43 rfl rfl)<|e_u 9 rfl rfl (zt (j:=0) 0 ty43 rfl rfl rfl (.t4 .nil))<|e_one 10 (zta rfl rfl rfl rfl (.c rfl (.c rfl .n)) ce44 (zzc (u1:=w4) (v1:=w5) (q1:=(Pg.gq l1 i).1) (u2:=w10) (v2:=w11) (q2:=(Pg.gq l2 i).1) (hl:=cbo)) (.c (j:=4) rfl (.c (j:=1) rfl .n)) ?_)
   refine e_pv 11 rfl rfl (zgb rfl)<|zGb 12 rfl rfl kr kr rfl rfl (zaa rfl) (fun hd1=> ?_) (fun hd1=> ?_)
   ·
    refine e_skip 13 rfl rfl<|e_skip 14 rfl rfl<|e_skip 15 rfl rfl<|e_skip 16 rfl rfl<|e_skip 17 rfl rfl<|e_skip 18 rfl rfl<|e_skip 19 rfl rfl<|e_skip 20 rfl rfl<|e_skip 21 rfl rfl<|e_skip 22 rfl rfl<|e_skip 23 rfl rfl<|e_skip 24 rfl rfl<|e_pv 25 rfl rfl (zp rfl rfl)<|zW kr<|ze<|zub rfl rfl<|zh<|za<|e_p (zd rfl)<|zi<|ze<|zL<|zy<|zj<|zj<|zy<|zj ?_
    exact zx yN () trivial (zl rfl) (congrArg Value.bool (decide_eq_false (fun h=>hd1 (by rw [h])))) (ho:=oN) sN
   ·
    refine e_dm 13 rfl rfl rfl<|e_dm 14 rfl rfl rfl<|d_vl 15 rfl rfl kr kr rfl rfl (zIa (x0:=(Pg.gq l1 i)) 6 i rfl yj sz69 rfl cbs rfl rfl (gD (d:=((0:Rat),(0:Rat))) om)) ?_
    rintro ⟨b14,o15,w16,w17,w18,w19⟩ -
    dsimp only [aq,nq,cq]
    refine zRb open_rR<|e_pv 16 rfl rfl (zf yF rfl sz43 rfl rfl)<|e_u 17 rfl rfl (zt (j:=4) 0 ty43 rfl rfl rfl (.s4 (.t4 .nil)))<|e_dm 18 rfl rfl rfl<|e_dm 19 rfl rfl rfl<|d_vl 20 rfl rfl kr kr rfl rfl (zIa (x0:=(Pg.gq l2 i)) 10 i rfl yj sz69 rfl cbs rfl rfl (gD (d:=((0:Rat),(0:Rat))) om)) ?_
    rintro ⟨b20,o21,w22,w23,w24,w25⟩ -
    dsimp only [aq,nq,cq]
    refine zRb open_rR<|e_pv 21 rfl rfl (zf yF rfl sz43 rfl rfl)<|e_u 22 rfl rfl (zt (j:=4) 0 ty43 rfl rfl rfl (.s4 (.t4 .nil)))<|e_one 23 (zta rfl rfl rfl rfl (.c rfl (.c rfl .n)) ce44 (zzc (u1:=w18) (v1:=w19) (q1:=(Pg.gq l1 i).2) (u2:=w24) (v2:=w25) (q2:=(Pg.gq l2 i).2) (hl:=cbo)) (.c (j:=5) rfl (.c (j:=2) rfl .n)) ?_)
    refine e_pv 24 rfl rfl (zgb rfl)<|e_pv 25 rfl rfl (zp rfl rfl)<|zW kr<|ze<|zJ rfl (fun hd2=> ?_) (fun hd2=> ?_)
    ·
     refine zh<|za<|e_p (zd rfl)<|zi<|ze<|zL<|zy<|zj<|zj<|zy<|zj ?_
     exact zx yN () trivial (zl rfl) (congrArg Value.bool (decide_eq_false (fun h=>hd2 (by rw [h])))) (ho:=oN) sN
    ·
     refine zC<|zT<|ze<|za<|e_mv rfl<|e_p (zO (z:=(((i+1):Nat):Int)) rfl rfl (w64 om))<|e_p (zd rfl)<|zi<|zla (i+1) (show (i+1)≤n1∧∀j,j<(i+1)→l1.getD j ((0:Rat),(0:Rat))=l2.getD j ((0:Rat),(0:Rat)) from by exact ⟨by omega,yq hall (Prod.ext (Decidable.not_not.1 hd1) (Decidable.not_not.1 hd2))⟩) (by show n1 - (i+1)<n1 - i;omega) (mR rfl) (ho:=oN) ((.of [12,13] rfl):SelR _ _ _)
  ·
   refine zqa<|zk<|zk<|zD<|ze<|zh<|za<|e_p (zd rfl)<|zi<|ze<|zL ?_
   exact zx yN () trivial (zl rfl) (congrArg Value.bool (decide_eq_true (Ms.ext_getD ((0:Rat),(0:Rat)) om (fun j hj=>hall j om)))) (ho:=oN) sN
end Go.Proofs.YtjcpbhlijoigfaaGreat.Sp
namespace Go.Proofs.YtjcpbhlijoigfaaGreat.Sp
open Go
set_option linter.unusedVariables false
set_option maxRecDepth 100000
set_option maxHeartbeats 8000000
theorem zAe {p:Option Addr} {n:Nat} {cap:Nat} {l:List Pg.P2} (hn:l.length=n) (h64:n≤64) (hrng:∀x∈l,yr x):Con yl 22 [.slice p n cap] [] [slF (rI2 .i64) p cap l] (Y:=Unit) (fun y=>True) (fun y=> .bool (decide (Pg.cvR l))) (fun y=>[]) (fun y=>[]):=by
 refine zo Tryz.func22 rfl rfl rfl (fun c=> ?_)
 show RunC _ _ _ _ _ [(0,.slice p n cap)] [] [slF (rI2 .i64) p cap l]
 refine zea 0 rfl (fun hL0=> ?_)
 have hnf:¬l.any yB=true:=fun h=>by obtain ⟨x,hx,hf⟩:=List.any_eq_true.1 h;unfold yB at hf;simp at hf;exact hf (hrng x hx)
 have hA:Pg.arV l=yz l:=(Pg.ar_ok om hnf).1
 have hA0:Pg.arC l=0:=(Pg.ar_ok om hnf).2
 have hdbb:=Pg.dbN_b hn hrng (i:=n) (Nat.le_refl _)
 have hdb2:yz l=Pg.dbN n l n:=by rw [yz,hn]
 refine zh<|za<|e_p (zd rfl)<|zi<|ze<|zh<|za<|e_mv rfl<|zQ rfl rfl (.c rfl .n) ce14 (zZd (p:=p) (n:=n) (cap:=cap) (l:=l) (hn:=ass)) (.c (j:=0) rfl .n)<|e_mv rfl<|e_p (zA rfl rfl)<|e_p (zA rfl rfl)<|e_p (zd rfl)<|e_p (zd rfl)<|zi<|ze<|zh<|zh ?_
 have e1:Pg.arV l=yz l:=by exact hA
 rw [e1]
 refine za<|e_p (zd rfl)<|zi<|ze<|zE<|zra (X:=Nat) (fun x:Nat=>x≤n∧∀j,j<x→Pg.cvI l j) (fun x=>[(5,ya yb ((x:Nat):Int)),(3,ya yb (yz l)),(0,.slice p n cap)]) (fun x=>[]) (fun x=>[slF (rI2 .i64) p cap l]) (fun x:Nat=>n - x) 0 (show 0≤n∧∀j,j<0→Pg.cvI l j from by exact ⟨Nat.zero_le _,fun j h=>by omega⟩) ((.e rfl cgs (.c rfl (.c rfl .n))):SubM _ _) (ho:=oN) (s0 rfl) ?_
 rintro k hI
 replace hI:k≤n∧∀j,j<k→Pg.cvI l j:=hI
 try dsimp only
 obtain ⟨hk,hall⟩:=hI
 refine zh<|zh<|za<|e_mv rfl<|e_mv rfl<|e_p (zR yd rfl)<|e_p (zda rfl rfl)<|zi<|ze<|zJ rfl (fun h2=> ?_) (fun h2=> ?_)
 ·
  have hm1:(k+1)%n<n:=Nat.mod_lt _ om
  have hm2:(k+2)%n<n:=Nat.mod_lt _ om
  have hg0:yr (l.getD k (0,0)):=yP.gt hrng om
  have hg1:yr (l.getD ((k+1)%n) (0,0)):=yP.gt hrng om
  have hg2:yr (l.getD ((k+2)%n) (0,0)):=yP.gt hrng om
  have hcb: -35184372088832≤(yI ((l.getD k (0,0)).1,(l.getD k (0,0)).2) ((l.getD ((k+1)%n) (0,0)).1,(l.getD ((k+1)%n) (0,0)).2) ((l.getD ((k+2)%n) (0,0)).1,(l.getD ((k+2)%n) (0,0)).2))∧(yI ((l.getD k (0,0)).1,(l.getD k (0,0)).2) ((l.getD ((k+1)%n) (0,0)).1,(l.getD ((k+1)%n) (0,0)).2) ((l.getD ((k+2)%n) (0,0)).1,(l.getD ((k+2)%n) (0,0)).2))≤35184372088832:=(Pg.cb hg0 hg1 hg2).c
  have hcv:Pg.cvI l k↔((yI ((l.getD k (0,0)).1,(l.getD k (0,0)).2) ((l.getD ((k+1)%n) (0,0)).1,(l.getD ((k+1)%n) (0,0)).2) ((l.getD ((k+2)%n) (0,0)).1,(l.getD ((k+2)%n) (0,0)).2)).sign=0∨(yI ((l.getD k (0,0)).1,(l.getD k (0,0)).2) ((l.getD ((k+1)%n) (0,0)).1,(l.getD ((k+1)%n) (0,0)).2) ((l.getD ((k+2)%n) (0,0)).1,(l.getD ((k+2)%n) (0,0)).2)).sign=(yz l).sign):=by unfold Pg.cvI;rw [Pg.tr3_n hn]
  refine zC<|ze<|zh<|zE<|zh<|zY (OW:=[]) (O:=[]) 100000 mixed (.then (.block (.then (.then (.block (.then .ret)))))) kr<|e_dm 0 rfl rfl rfl<|e_dm 1 rfl rfl rfl<|zga (x0:=(l.getD k (0,0))) 2 rfl rfl kr kr 0 k rfl yd sz30 rfl rfl rfl cbs rfl rfl (gD (d:=(0,0)) om) (fun b3 o4 hok5=> ?_)
  obtain ⟨hok5x,hok5y⟩:=hok5
  replace hok5x:=zM.1 hok5x
  replace hok5y:=zM.1 hok5y
  refine e_u 3 rfl rfl (zt (j:=0) 0 ty30 rfl rfl rfl (.t2 .nil))<|e_dm 4 rfl rfl rfl<|e_dm 5 rfl rfl rfl<|e_pv 6 rfl rfl (zO (z:=(((k+1):Nat):Int)) rfl rfl (w64 om))<|e_dm 7 rfl rfl rfl<|e_pv 8 rfl rfl (zR yd rfl)<|e_pv 9 rfl rfl (zza (z:=((((k+1)%n):Nat):Int)) rfl rfl om (remN om om))<|zga (x0:=(l.getD ((k+1)%n) (0,0))) 10 rfl rfl kr kr 1 ((k+1)%n) rfl yd sz30 rfl rfl rfl cbs rfl rfl (gD (d:=(0,0)) om) (fun b6 o7 hok8=> ?_)
  obtain ⟨hok8x,hok8y⟩:=hok8
  replace hok8x:=zM.1 hok8x
  replace hok8y:=zM.1 hok8y
  refine e_u 11 rfl rfl (zt (j:=0) 0 ty30 rfl rfl rfl (.t2 .nil))<|e_dm 12 rfl rfl rfl<|e_dm 13 rfl rfl rfl<|e_pv 14 rfl rfl (zO (z:=(((k+2):Nat):Int)) rfl rfl (w64 om))<|e_dm 15 rfl rfl rfl<|e_pv 16 rfl rfl (zR yd rfl)<|e_pv 17 rfl rfl (zza (z:=((((k+2)%n):Nat):Int)) rfl rfl om (remN om om))<|zga (x0:=(l.getD ((k+2)%n) (0,0))) 18 rfl rfl kr kr 2 ((k+2)%n) rfl yd sz30 rfl rfl rfl cbs rfl rfl (gD (d:=(0,0)) om) (fun b9 o10 hok11=> ?_)
  obtain ⟨hok11x,hok11y⟩:=hok11
  replace hok11x:=zM.1 hok11x
  replace hok11y:=zM.1 hok11y
  refine e_u 19 rfl rfl (zt (j:=0) 0 ty30 rfl rfl rfl (.t2 .nil))<|e_one 20 (zta rfl rfl rfl rfl (.c rfl (.c rfl (.c rfl .n))) ce55 (zAb (ex:=(l.getD k (0,0)).1) (ey:=(l.getD k (0,0)).2) (fx:=(l.getD ((k+1)%n) (0,0)).1) (fy:=(l.getD ((k+1)%n) (0,0)).2) (gx:=(l.getD ((k+2)%n) (0,0)).1) (gy:=(l.getD ((k+2)%n) (0,0)).2) (hre:=cbo) (hrf:=cbo) (hrg:=cbo)) (.n) ?_)
  refine e_one 21 (zta rfl rfl rfl rfl (.c rfl .n) ce65 (zBb (z:=yI (((l.getD k (0,0)).1),((l.getD k (0,0)).2)) (((l.getD ((k+1)%n) (0,0)).1),((l.getD ((k+1)%n) (0,0)).2)) (((l.getD ((k+2)%n) (0,0)).1),((l.getD ((k+2)%n) (0,0)).2))) (hz:=cbo)) (.n) ?_)
  refine e_pv 22 rfl rfl (zd rfl)<|zW kr<|ze<|zh<|za<|e_mv rfl<|e_p (zXa rfl rfl)<|zZ rfl rfl (zaa rfl) (fun h42=> ?_) (fun h42=> ?_)
  ·
   refine e_mv rfl<|e_mv rfl<|zQ rfl rfl (.c rfl .n) ce65 (zBb (z:=yz l) (hz:=cbo)) (.n)<|e_p (zXa rfl rfl)<|e_p (zp rfl rfl)<|zi<|ze<|zJ rfl (fun h47=> ?_) (fun h47=> ?_)
   ·
    refine zh<|za<|e_p (zd rfl)<|zi<|ze<|zL<|zy<|zj<|zj<|zy<|zj ?_
    exact zx Tryz.results22 () trivial (zl rfl) (congrArg Value.bool (decide_eq_false (fun h=>by have h9:=hcv.1 ((Pg.cvR_n hn).1 h k om);omega))) (ho:=oN) sN
   ·
    refine zC<|zT<|ze<|za<|e_mv rfl<|e_p (zO (z:=(((k+1):Nat):Int)) rfl rfl (w64 om))<|e_p (zd rfl)<|zi<|zla (k+1) (show (k+1)≤n∧∀j,j<(k+1)→Pg.cvI l j from by exact ⟨by omega,yq hall (hcv.2 om)⟩) (by show n - (k+1)<n - k;omega) (mR rfl) (ho:=oN) ((.c (j:=3) rfl .n):SelR _ _ _)
  ·
   refine e_no<|e_no<|e_no<|e_no<|e_p (zp rfl rfl)<|zi<|ze<|zbb rfl rfl<|zC<|zT<|ze<|za<|e_mv rfl<|e_p (zO (z:=(((k+1):Nat):Int)) rfl rfl (w64 om))<|e_p (zd rfl)<|zi<|zla (k+1) (show (k+1)≤n∧∀j,j<(k+1)→Pg.cvI l j from by exact ⟨by omega,yq hall (hcv.2 om)⟩) (by show n - (k+1)<n - k;omega) (mR rfl) (ho:=oN) ((.c (j:=3) rfl .n):SelR _ _ _)
 ·
  refine zqa<|zk<|zk<|zD<|ze<|zh<|za<|e_p (zd rfl)<|zi<|ze<|zL ?_
  exact zx Tryz.results22 () trivial (zl rfl) (congrArg Value.bool (decide_eq_true ((Pg.cvR_n hn).2 (fun j hj=>hall j om)))) (ho:=oN) sN
end Go.Proofs.YtjcpbhlijoigfaaGreat.Sp
namespace Go.Proofs.YtjcpbhlijoigfaaGreat.Sp
open Go
set_option linter.unusedVariables false
section
variable {P : Program} {n : Sz} {m : Fm} {d : Option Tmp} {ty : TypeId} {ps : String} {af : Array Edge} {gd : Option (Nat × Bool)}
theorem mxe (a b:Int):(if a<b then b else a)=max a b:=by by_cases h:a<b <;> simp [h,Int.max_def] <;> omega
theorem mne (a b:Int):(if b<a then b else a)=min a b:=by by_cases h:b<a <;> simp [h,Int.min_def] <;> omega
theorem zCg {x y z u:Operand} {ats:Array TypeId} {k:IntKind} {a b c e:Int} (h1:evo m x=some (.int k a)) (h2:evo m y=some (.int k b)) (h3:evo m z=some (.int k c)) (h4:evo m u=some (.int k e)):PV P n ⟨d,.call ⟨.builtin .max,#[x,y,z,u],ats⟩,ty,ps,af,gd⟩ m (.int k (max (max (max a b) c) e)):=fun ac w f=>by
  simp [execOp,resolve,invoke,builtin,Builtin.max_,Builtin.max2,f.ev h1,f.ev h2,f.ev h3,f.ev h4,mxe]
theorem zDg {x y z u:Operand} {ats:Array TypeId} {k:IntKind} {a b c e:Int} (h1:evo m x=some (.int k a)) (h2:evo m y=some (.int k b)) (h3:evo m z=some (.int k c)) (h4:evo m u=some (.int k e)):PV P n ⟨d,.call ⟨.builtin .min,#[x,y,z,u],ats⟩,ty,ps,af,gd⟩ m (.int k (min (min (min a b) c) e)):=fun ac w f=>by
  simp [execOp,resolve,invoke,builtin,Builtin.min_,Builtin.min2,f.ev h1,f.ev h2,f.ev h3,f.ev h4,mne]
end
end Go.Proofs.YtjcpbhlijoigfaaGreat.Sp
namespace Go.Proofs.YtjcpbhlijoigfaaGreat.Sp
open Go
set_option linter.unusedVariables false
set_option maxRecDepth 100000
set_option maxHeartbeats 8000000
theorem ztc {p:Option Addr} {n:Nat} {cap:Nat} {l:List Pg.P2} {ex:Int} {ey:Int} {fx:Int} {fy:Int} (hn:l.length=n) (hwex: -9223372036854775808≤ex∧ex≤9223372036854775807) (hwey: -9223372036854775808≤ey∧ey≤9223372036854775807) (hwfx: -9223372036854775808≤fx∧fx≤9223372036854775807) (hwfy: -9223372036854775808≤fy∧fy≤9223372036854775807):Con yl 5 [.slice p n cap,.agg #[ya yb ex,ya yb ey],.agg #[ya yb fx,ya yb fy]] [] [slF (rI2 .i64) p cap l] (Y:=Unit) (fun y=>True) (fun y=> .bool true) (fun y=>[]) (fun y=>[]):=by
 refine zo Tryz.func5 rfl rfl rfl (fun c=> ?_)
 show RunC _ _ _ _ _ [(0,.slice p n cap),(1,.agg #[ya yb ex,ya yb ey]),(2,.agg #[ya yb fx,ya yb fy])] [] [slF (rI2 .i64) p cap l]
 refine zea 0 rfl (fun hL0=> ?_)
 refine zh<|za<|zP rfl rfl (zS rfl rfl) (fun b1=> ?_)
 refine zP rfl rfl (zS rfl rfl) (fun b2=> ?_)
 refine e_p (zd rfl)<|zi<|ze<|zh<|zh<|za<|zQ rfl rfl (.n) ce11 (zPf) (.n)<|e_p (zOb rfl)<|zi<|ze<|zbb rfl rfl<|zC<|ze<|zh<|zh<|za<|e_mv rfl<|zQ rfl rfl (.c rfl .n) ce12 (zBg (p:=p) (n:=n) (cap:=cap) (l:=l) (hn:=ass)) (.c (j:=0) rfl .n)<|e_p (zgb rfl)<|zi<|ze<|zJ rfl (fun h3=> ?_) (fun h3=> ?_)
 ·
  refine zh<|za<|e_p (zd rfl)<|zi<|ze<|zL<|zj ?_
  exact zx yA () trivial (zl rfl) rfl (ho:=oN) sN
 ·
  refine zC<|ze<|zh<|za<|e_mv rfl<|e_ru (zb 1 ty30 rfl rfl (.t2 .nil))<|e_ru (zb 0 ty30 rfl rfl (.t2 .nil))<|zG rfl rfl (.c rfl (.c rfl (.c rfl .n))) ce19 (zqd (p:=p) (n:=n) (cap:=cap) (l:=l) (ex:=ex) (ey:=ey) (fx:=fx) (fy:=fy) (hn:=ass) (hwex:=ass) (hwey:=ass) (hwfx:=ass) (hwfy:=ass)) (.c (j:=0) rfl .n) ?_
  rintro ⟨p24,c25⟩ -
  dsimp only [aq,nq,cq]
  refine e_mv rfl<|e_p (zA rfl rfl)<|e_p (zA rfl rfl)<|e_p (zd rfl)<|e_p (zd rfl)<|zi<|ze<|zh<|zBe 0 rfl .z<|za<|e_mv rfl<|zQ rfl rfl (.c rfl .n) ce16 (zef (p:=p) (n:=n) (cap:=cap) (l:=l) (hn:=ass)) (.c (j:=1) rfl .n)<|e_p (zd rfl)<|zi<|ze<|zh<|zGa (X:=Unit) (fun x=>True) (fun x=>[(53,.bool (decide ((Pg.ck l=0)∧((0x100000<(max (max (max ex ey) fx) fy))∨((min (min (min ex ey) fx) fy)<(-0x100000)))))),(9,ya yb (Pg.ck l)),(8,ya yb (yO l (ex,ey) (fx,fy))),(7,.slice p24 ((yw l (ex,ey) (fx,fy)).length) c25),(6,.bool false),(5,yc (some ⟨b2,0,none⟩)),(4,yc (some ⟨b1,0,none⟩)),(0,.slice p n cap)]) (fun x=>[boxA b2 30 [ya yb fx,ya yb fy],boxA b1 30 [ya yb ex,ya yb ey]]) (fun x=>[slF rR p24 c25 (yw l (ex,ey) (fx,fy)),slF (rI2 .i64) p cap l]) ?_ ?_
  ·
   refine za<|e_mv rfl<|e_p (zxa rfl rfl)<|zZ rfl rfl (zaa rfl) (fun h6=> ?_) (fun h6=> ?_)
   ·
    refine e_p (zf ye rfl sz3 rfl rfl)<|e_ru (zg 2 ty3 rfl rfl rfl)<|e_p (zf ye rfl sz3 rfl rfl)<|e_ru (zg 2 ty3 rfl rfl rfl)<|e_p (zf ye rfl sz3 rfl rfl)<|e_ru (zg 1 ty3 rfl rfl rfl)<|e_p (zf ye rfl sz3 rfl rfl)<|e_ru (zg 1 ty3 rfl rfl rfl)<|e_p (zCg rfl rfl rfl rfl)<|e_p (zDa rfl rfl)<|zZ rfl rfl (zaa rfl) (fun h7=> ?_) (fun h7=> ?_)
    ·
     refine e_no<|e_no<|e_no<|e_no<|e_no<|e_no<|e_no<|e_no<|e_no<|e_no<|e_p (zp rfl rfl)<|e_p (zp rfl rfl)<|zi ?_
     exact zha () tt9 ((.e rfl (congrArg Value.bool cbu) (.of rfl)):SubM _ _) (ho:=((.of [1,1] rfl):PickO _ _ _)) ((.of [0,1] rfl):SelR _ _ _)
    ·
     refine e_p (zf ye rfl sz3 rfl rfl)<|e_ru (zg 2 ty3 rfl rfl rfl)<|e_p (zf ye rfl sz3 rfl rfl)<|e_ru (zg 2 ty3 rfl rfl rfl)<|e_p (zf ye rfl sz3 rfl rfl)<|e_ru (zg 1 ty3 rfl rfl rfl)<|e_p (zf ye rfl sz3 rfl rfl)<|e_ru (zg 1 ty3 rfl rfl rfl)<|e_p (zDg rfl rfl rfl rfl)<|e_p (zda rfl rfl)<|e_p (zp rfl rfl)<|e_p (zp rfl rfl)<|zi ?_
     exact zha () tt9 ((.e rfl (congrArg Value.bool cbu) (.of rfl)):SubM _ _) (ho:=((.of [1,1] rfl):PickO _ _ _)) ((.of [0,1] rfl):SelR _ _ _)
   ·
    refine e_no<|e_no<|e_no<|e_no<|e_no<|e_no<|e_no<|e_no<|e_no<|e_no<|e_no<|e_no<|e_no<|e_no<|e_no<|e_no<|e_no<|e_no<|e_no<|e_no<|e_no<|e_no<|e_p (zp rfl rfl)<|zi ?_
    exact zha () tt9 ((.e rfl (congrArg Value.bool cbu) (.of rfl)):SubM _ _) (ho:=((.of [1,1] rfl):PickO _ _ _)) ((.of [0,1] rfl):SelR _ _ _)
  ·
   rintro ⟨⟩ -
   try dsimp only
   refine zJ rfl (fun hfar=> ?_) (fun hfar=> ?_)
   ·
    have hz:Pg.ck l=0:=hfar.1
    obtain ⟨hv1,hv2⟩:=Pg.wn_far (a:=(ex,ey)) (b:=(fx,fy)) hz (by intro h9;have h8:=hfar.2;unfold yr at h9;dsimp only at h9;omega)
    refine za<|e_p (zd rfl)<|zi<|ze<|zh<|zh<|za<|e_mv rfl<|e_p (zxa rfl rfl)<|e_mv rfl<|e_no<|e_no<|e_no<|e_no<|e_no<|e_no<|e_no<|e_no<|e_no<|e_no<|e_no<|e_no<|e_p (zp rfl rfl)<|zi<|ze<|zbb rfl rfl<|zC<|ze<|zh<|zh<|za<|e_mv rfl<|e_p (zXa rfl rfl)<|zi<|ze<|zub rfl rfl<|zGa (X:=Unit) (fun x=>True) (fun x=>[(6,.bool true),(8,ya yb (yO l (ex,ey) (fx,fy))),(7,.slice p24 ((yw l (ex,ey) (fx,fy)).length) c25),(5,yc (some ⟨b2,0,none⟩)),(4,yc (some ⟨b1,0,none⟩)),(0,.slice p n cap)]) (fun x=>[boxA b2 30 [ya yb fx,ya yb fy],boxA b1 30 [ya yb ex,ya yb ey]]) (fun x=>[slF rR p24 c25 (yw l (ex,ey) (fx,fy)),slF (rI2 .i64) p cap l]) ?_ ?_
    ·
     refine za<|e_mv rfl<|e_mv rfl<|e_p (zxa rfl rfl) ?_
     rw [show (decide ((yO l (ex,ey) (fx,fy))=2))=true from by exact decide_eq_true hv1]
     refine e_mv rfl<|e_mv rfl<|e_p (zR yj rfl)<|e_p (zxa rfl rfl) ?_
     rw [show (decide ((((yw l (ex,ey) (fx,fy)).length:Nat):Int)=0))=true from by exact decide_eq_true (by rw [hv2];rfl)]
     refine e_p (zp rfl rfl)<|e_p (zd rfl)<|zi ?_
     exact zha () tt9 (mR rfl) (ho:=((.of [0,0] rfl):PickO _ _ _)) ((.of [0,1] rfl):SelR _ _ _)
    ·
     rintro ⟨⟩ -
     try dsimp only
     refine zL<|zj ?_
     exact zx yA () trivial (zl rfl) rfl (ho:=oN) sN
   ·
    refine zC<|ze<|zh<|zGa (X:=Unit) (fun x=>True) (fun x=>[(69,.bool (decide ((Pg.ck l=0)∧((fx≤ex)∨(fy≤ey))))),(9,ya yb (Pg.ck l)),(8,ya yb (yO l (ex,ey) (fx,fy))),(7,.slice p24 ((yw l (ex,ey) (fx,fy)).length) c25),(6,.bool false),(5,yc (some ⟨b2,0,none⟩)),(4,yc (some ⟨b1,0,none⟩)),(0,.slice p n cap)]) (fun x=>[boxA b2 30 [ya yb fx,ya yb fy],boxA b1 30 [ya yb ex,ya yb ey]]) (fun x=>[slF rR p24 c25 (yw l (ex,ey) (fx,fy)),slF (rI2 .i64) p cap l]) ?_ ?_
    ·
     refine za<|e_mv rfl<|e_p (zxa rfl rfl)<|zZ rfl rfl (zaa rfl) (fun h8=> ?_) (fun h8=> ?_)
     ·
      refine e_p (zf ye rfl sz3 rfl rfl)<|e_ru (zg 1 ty3 rfl rfl rfl)<|e_p (zf ye rfl sz3 rfl rfl)<|e_ru (zg 0 ty3 rfl rfl rfl)<|e_p (zNa rfl rfl)<|zZ rfl rfl (zaa rfl) (fun h9=> ?_) (fun h9=> ?_)
      ·
       refine e_no<|e_no<|e_no<|e_no<|e_no<|e_p (zp rfl rfl)<|e_p (zp rfl rfl)<|zi ?_
       exact zha () tt9 ((.e rfl (congrArg Value.bool cbu) (.of rfl)):SubM _ _) (ho:=((.of [0,0] rfl):PickO _ _ _)) ((.of [0,1] rfl):SelR _ _ _)
      ·
       refine e_p (zf ye rfl sz3 rfl rfl)<|e_ru (zg 1 ty3 rfl rfl rfl)<|e_p (zf ye rfl sz3 rfl rfl)<|e_ru (zg 0 ty3 rfl rfl rfl)<|e_p (zNa rfl rfl)<|e_p (zp rfl rfl)<|e_p (zp rfl rfl)<|zi ?_
       exact zha () tt9 ((.e rfl (congrArg Value.bool cbu) (.of rfl)):SubM _ _) (ho:=((.of [0,0] rfl):PickO _ _ _)) ((.of [0,1] rfl):SelR _ _ _)
     ·
      refine e_no<|e_no<|e_no<|e_no<|e_no<|e_no<|e_no<|e_no<|e_no<|e_no<|e_no<|e_no<|e_p (zp rfl rfl)<|zi ?_
      exact zha () tt9 ((.e rfl (congrArg Value.bool cbu) (.of rfl)):SubM _ _) (ho:=((.of [0,0] rfl):PickO _ _ _)) ((.of [0,1] rfl):SelR _ _ _)
    ·
     rintro ⟨⟩ -
     try dsimp only
     refine zJ rfl (fun hord=> ?_) (fun hord=> ?_)
     ·
      have hz:Pg.ck l=0:=hord.1
      have hin:yr (ex,ey)∧yr (fx,fy):=by unfold yr;dsimp only;omega
      obtain ⟨hv1,hv2⟩:=Pg.wn_ord (a:=(ex,ey)) (b:=(fx,fy)) hz hin (by have h8:=hord.2;dsimp only;omega)
      refine za<|e_p (zd rfl)<|zi<|ze<|zh<|zh<|za<|e_mv rfl<|e_p (zXa rfl rfl)<|zi<|ze<|zub rfl rfl<|zGa (X:=Unit) (fun x=>True) (fun x=>[(6,.bool true),(8,ya yb (yO l (ex,ey) (fx,fy))),(7,.slice p24 ((yw l (ex,ey) (fx,fy)).length) c25),(5,yc (some ⟨b2,0,none⟩)),(4,yc (some ⟨b1,0,none⟩)),(0,.slice p n cap)]) (fun x=>[boxA b2 30 [ya yb fx,ya yb fy],boxA b1 30 [ya yb ex,ya yb ey]]) (fun x=>[slF rR p24 c25 (yw l (ex,ey) (fx,fy)),slF (rI2 .i64) p cap l]) ?_ ?_
      ·
       refine za<|e_mv rfl<|e_mv rfl<|e_p (zxa rfl rfl) ?_
       rw [show (decide ((yO l (ex,ey) (fx,fy))=5))=true from by exact decide_eq_true hv1]
       refine e_mv rfl<|e_mv rfl<|e_p (zR yj rfl)<|e_p (zxa rfl rfl) ?_
       rw [show (decide ((((yw l (ex,ey) (fx,fy)).length:Nat):Int)=0))=true from by exact decide_eq_true (by rw [hv2];rfl)]
       refine e_p (zp rfl rfl)<|e_p (zd rfl)<|zi ?_
       exact zha () tt9 (mR rfl) (ho:=((.of [0,0] rfl):PickO _ _ _)) ((.of [0,1] rfl):SelR _ _ _)
      ·
       rintro ⟨⟩ -
       try dsimp only
       refine zL<|zj ?_
       exact zx yA () trivial (zl rfl) rfl (ho:=oN) sN
     ·
      refine zC<|ze<|zh<|zh<|za<|e_mv rfl<|e_p (zXa rfl rfl)<|zi<|ze<|zJ rfl (fun h71=> ?_) (fun h71=> ?_)
      ·
       have hbad:Pg.ck l≠0:=h71
       obtain ⟨hv1,hv2⟩:=Pg.wn_bad (a:=(ex,ey)) (b:=(fx,fy)) hbad
       refine zGa (X:=Unit) (fun x=>True) (fun x=>[(6,.bool true),(8,ya yb (yO l (ex,ey) (fx,fy))),(7,.slice p24 ((yw l (ex,ey) (fx,fy)).length) c25),(5,yc (some ⟨b2,0,none⟩)),(4,yc (some ⟨b1,0,none⟩)),(0,.slice p n cap)]) (fun x=>[boxA b2 30 [ya yb fx,ya yb fy],boxA b1 30 [ya yb ex,ya yb ey]]) (fun x=>[slF rR p24 c25 (yw l (ex,ey) (fx,fy)),slF (rI2 .i64) p cap l]) ?_ ?_
       ·
        refine za<|e_mv rfl<|e_mv rfl<|e_p (zxa rfl rfl) ?_
        rw [show (decide ((yO l (ex,ey) (fx,fy))=Pg.ck l))=true from by exact decide_eq_true hv1]
        refine e_mv rfl<|e_mv rfl<|e_p (zR yj rfl)<|e_p (zxa rfl rfl) ?_
        rw [show (decide ((((yw l (ex,ey) (fx,fy)).length:Nat):Int)=0))=true from by exact decide_eq_true (by rw [hv2];rfl)]
        refine e_p (zp rfl rfl)<|e_p (zd rfl)<|zi ?_
        exact zha () tt9 (mR rfl) (ho:=((.of [0,0] rfl):PickO _ _ _)) ((.of [0,1] rfl):SelR _ _ _)
       ·
        rintro ⟨⟩ -
        try dsimp only
        refine zL<|zj ?_
        exact zx yA () trivial (zl rfl) rfl (ho:=oN) sN
      ·
       have hz:Pg.ck l=0:=Decidable.not_not.1 h71
       have hok:=Pg.ok hz
       have hrng:=hok.rng
       have h64:n≤64:=by have:=hok.n64;omega
       have hn3:3≤n:=by have:=hok.n3;omega
       have hsm:Pg.Sm n l:=by have h9:=Pg.Sm.of hz;rwa [hn] at h9
       have hdb:=Sw.db_ne hsm hrng
       have hin:yr (ex,ey)∧yr (fx,fy):=by unfold yr;dsimp only;omega
       have hor:¬(fx≤ex∨fy≤ey):=fun h9=>hord ⟨hz,by omega⟩
       obtain ⟨hv1,hv2⟩:=Pg.wn_ok (a:=(ex,ey)) (b:=(fx,fy)) hz hin hor
       have e10:(yO l (ex,ey) (fx,fy))=0:=by exact hv1
       rw [e10]
       have e11:(yw l (ex,ey) (fx,fy))=(yn l (ex,ey) (fx,fy)):=by exact hv2
       rw [e11]
       have hwe:(yG l (ex,ey) (fx,fy))=(yn l (ex,ey) (fx,fy)):=Er.winR_eq (show ex<fx by omega) (show ey<fy by omega)
       have hwb:=Er.wb hn om hrng hin.1 hin.2
       have hin1:=id hin
       unfold yr at hin1
       dsimp only at hin1
       have hnf:¬l.any yB=true:=fun h=>by obtain ⟨x,hx,hf⟩:=List.any_eq_true.1 h;unfold yB at hf;simp at hf;exact hf (hrng x hx)
       have hA:Pg.arV l=yz l:=(Pg.ar_ok om hnf).1
       have hA0:Pg.arC l=0:=(Pg.ar_ok om hnf).2
       have hdbb:=Pg.dbN_b hn hrng (i:=n) (Nat.le_refl _)
       have hdb2:yz l=Pg.dbN n l n:=by rw [yz,hn]
       refine zC<|ze<|zh<|zh<|za<|e_mv rfl<|e_p (zXa rfl rfl)<|e_mv rfl<|e_mv rfl<|e_mv rfl<|e_ru (zb 1 ty30 rfl rfl (.t2 .nil))<|e_ru (zb 0 ty30 rfl rfl (.t2 .nil))<|zG rfl rfl (.c rfl (.c rfl (.c rfl .n))) ce21 (zse (p:=p) (n:=n) (cap:=cap) (l:=l) (ex:=ex) (ey:=ey) (fx:=fx) (fy:=fy) (hn:=ass) (hwex:=ass) (hwey:=ass) (hwfx:=ass) (hwfy:=ass) (hrng:=by first|rfl|assumption|omega|exact hwb.q|exact hwb.q5|exact hwb.z|exact hwb.s|decide|(rw [yk];have:=hwb.s;omega)) (h64:=by first|rfl|assumption|omega|exact hwb.q|exact hwb.q5|exact hwb.z|exact hwb.s|decide|(rw [yk];have:=hwb.s;omega))) (.c (j:=1) rfl .n) ?_
       rintro ⟨p212,c213⟩ -
       dsimp only [aq,nq,cq]
       refine zka 0 rfl .z<|zQ rfl rfl (.c rfl (.c rfl .n)) ce20 (zze (p1:=p24) (n1:=(yn l (ex,ey) (fx,fy)).length) (c1:=c25) (l1:=(yn l (ex,ey) (fx,fy))) (p2:=p212) (n2:=(yG l (ex,ey) (fx,fy)).length) (c2:=c213) (l2:=(yG l (ex,ey) (fx,fy))) (hn1:=by first|rfl|assumption|omega|exact hwb.q|exact hwb.q5|exact hwb.z|exact hwb.s|decide|(rw [yk];have:=hwb.s;omega)) (hn2:=by first|rfl|assumption|omega|exact hwb.q|exact hwb.q5|exact hwb.z|exact hwb.s|decide|(rw [yk];have:=hwb.s;omega)) (hb1:=by exact hwb.q5) (hb2:=by rw [hwe];exact hwb.q5)) (.c (j:=1) rfl (.c (j:=0) rfl .n)) ?_
       rw [show (decide ((yn l (ex,ey) (fx,fy))=(yG l (ex,ey) (fx,fy))))=true from by exact decide_eq_true hwe.symm]
       refine e_p (zOb rfl)<|e_p (zp rfl rfl)<|zi<|ze<|zbb rfl rfl<|zC<|ze<|zh<|zh<|za<|e_mv rfl<|zQ rfl rfl (.c rfl .n) ce22 (zAe (p:=p) (n:=n) (cap:=cap) (l:=l) (hn:=ass) (h64:=by first|rfl|assumption|omega|exact hwb.q|exact hwb.q5|exact hwb.z|exact hwb.s|decide|(rw [yk];have:=hwb.s;omega)) (hrng:=by first|rfl|assumption|omega|exact hwb.q|exact hwb.q5|exact hwb.z|exact hwb.s|decide|(rw [yk];have:=hwb.s;omega))) (.c (j:=2) rfl .n)<|e_p (zgb rfl)<|zi<|ze<|zJ rfl (fun hcv=> ?_) (fun hcv=> ?_)
       ·
        refine zh<|za<|e_p (zd rfl)<|zi<|ze<|zL<|zj ?_
        exact zx yA () trivial (zl rfl) rfl (ho:=oN) sN
       ·
        have hcvx:Pg.cvR l:=by simpa using hcv
        have hws:=Er.win_small (a:=(ex,ey)) (b:=(fx,fy)) hz hn hcvx (show ex<fx by omega) (show ey<fy by omega)
        have hk1:Big.hq (yt (yE (yn l (ex,ey) (fx,fy))))≤100000000:=by rw [yk];exact hwb.s
        have hk2:Big.hq ((yz l:Int):Rat)≤3:=Big.hq_64 om om
        have hk3:Big.hq (yt ((yz l:Int):Rat))≤3:=by rw [yk];exact hk2
        have hk4:Big.hq ((2*(fx - ex):Int):Rat)≤3:=Big.hq_64 om om
        have hk5:Big.hq ((fy - ey:Int):Rat)≤3:=Big.hq_64 om om
        have hk6:=Big.hq_mul ((2*(fx - ex):Int):Rat) ((fy - ey:Int):Rat)
        refine zC<|ze<|zh<|za<|e_mv rfl<|zG rfl rfl (.c rfl .n) ce24 (zXd (p:=p24) (n:=(yn l (ex,ey) (fx,fy)).length) (cap:=c25) (l:=(yn l (ex,ey) (fx,fy))) (K:=78723) (hn:=by first|rfl|assumption|omega|exact hwb.q|exact hwb.q5|exact hwb.z|exact hwb.s|decide|(rw [yk];have:=hwb.s;omega)) (hbq:=by first|rfl|assumption|omega|exact hwb.q|exact hwb.q5|exact hwb.z|exact hwb.s|decide|(rw [yk];have:=hwb.s;omega)) (hK:=by first|rfl|assumption|omega|exact hwb.q|exact hwb.q5|exact hwb.z|exact hwb.s|decide|(rw [yk];have:=hwb.s;omega)) (hz:=by first|rfl|assumption|omega|exact hwb.q|exact hwb.q5|exact hwb.z|exact hwb.s|decide|(rw [yk];have:=hwb.s;omega))) (.c (j:=1) rfl .n) ?_
        rintro ⟨w314,w415⟩ -
        dsimp only [aq,nq,cq]
        refine zG rfl rfl (.c rfl .n) ce23 (zYd (k1:=true) (u1:=w314) (v1:=w415) (q1:=(yE (yn l (ex,ey) (fx,fy)))) (hl:=by have:=hwb.s;omega)) (.c (j:=0) rfl .n) ?_
        rintro ⟨w316,w417⟩ -
        dsimp only [aq,nq,cq]
        refine zP rfl rfl (zn zr43 rfl) (fun b18=> ?_)
        refine zm 0 rfl rfl rfl rfl rfl sz43 rfl (.t4 .nil) .z<|zi<|ze<|zh<|za<|e_mv rfl<|zQ rfl rfl (.c rfl .n) ce14 (zZd (p:=p) (n:=n) (cap:=cap) (l:=l) (hn:=ass)) (.c (j:=4) rfl .n)<|e_mv rfl<|e_p (zA rfl rfl)<|e_p (zA rfl rfl)<|e_p (zd rfl)<|e_p (zd rfl)<|zi<|ze<|zh ?_
        have e19:Pg.arV l=yz l:=by exact hA
        rw [e19]
        refine zY (OW:=[]) (O:=[boxA b18 43 (cw [w316,w417]),emA,boxA b2 30 [ya yb fx,ya yb fy],boxA b1 30 [ya yb ex,ya yb ey]]) 15 mixed (.then .ret) kr<|e_pv 0 rfl rfl (zf ye rfl sz3 rfl rfl)<|e_u 1 rfl rfl (zg 2 ty3 rfl rfl rfl)<|e_pv 2 rfl rfl (zf ye rfl sz3 rfl rfl)<|e_u 3 rfl rfl (zg 3 ty3 rfl rfl rfl)<|e_pv 4 rfl rfl (zna (z:=(fx - ex)) rfl rfl (w64 om))<|e_pv 5 rfl rfl (zEa (z:=(2*(fx - ex))) rfl rfl (w64 om))<|e_pv 7 rfl rfl (zf ye rfl sz3 rfl rfl)<|e_u 8 rfl rfl (zg 2 ty3 rfl rfl rfl)<|e_pv 9 rfl rfl (zf ye rfl sz3 rfl rfl)<|e_u 10 rfl rfl (zg 3 ty3 rfl rfl rfl)<|e_pv 11 rfl rfl (zna (z:=(fy - ey)) rfl rfl (w64 om))<|zNb (m':=[(113,ya yb (fy - ey)),(107,ya yb (2*(fx - ex))),(11,ya yb (yz l)),(10,yc (some ⟨b18,0,none⟩)),(6,.bool false)]) (R':=[qF true w316 w417 (yt (yE (yn l (ex,ey) (fx,fy)))),qF true w314 w415 (yE (yn l (ex,ey) (fx,fy))),slF rR p212 c213 (yG l (ex,ey) (fx,fy)),slF rR p24 c25 (yn l (ex,ey) (fx,fy)),slF (rI2 .i64) p cap l]) (mR rfl) (List.Perm.refl _) (List.Perm.refl _) ((.of [0,1,2,3,4] rfl):SelR _ _ _)<|zca (X:=Wd×Wd×Wd×Wd×Wd×Wd×Nat) (k':=0) (L':=(lb 16 65535)) (fun (u6_1,u6_2,u12_1,u12_2,u13_1,u13_2,u14_1)=>([(13,yc (some ⟨u14_1,0,none⟩)),(11,ya yb (yz l)),(10,yc (some ⟨b18,0,none⟩)),(6,.bool false)],[boxA u14_1 43 (cw [u13_1,u13_2])],[boxA b18 43 (cw [w316,w417]),emA,boxA b2 30 [ya yb fx,ya yb fy],boxA b1 30 [ya yb ex,ya yb ey]],[qF true u13_1 u13_2 ((((2*(fx - ex)):Int):Rat)*(((fy - ey):Int):Rat)),qF true u12_1 u12_2 (((fy - ey):Int):Rat),qF true u6_1 u6_2 (((2*(fx - ex)):Int):Rat),qF true w316 w417 (yt (yE (yn l (ex,ey) (fx,fy)))),qF true w314 w415 (yE (yn l (ex,ey) (fx,fy))),slF rR p212 c213 (yG l (ex,ey) (fx,fy)),slF rR p24 c25 (yn l (ex,ey) (fx,fy)),slF (rI2 .i64) p cap l])) ?_ (fun hD0=> ?_)
        ·
         rintro ⟨u6_1,u6_2,u12_1,u12_2,u13_1,u13_2,u14_1⟩
         dsimp only [cw]
         refine zW kr<|ze<|zGa (X:=Unit) (fun x=>True) (fun x=>[(6,.bool true)]) (fun x=>[boxA u14_1 43 (cw [u13_1,u13_2]),boxA b18 43 (cw [w316,w417]),boxA b2 30 [ya yb fx,ya yb fy],boxA b1 30 [ya yb ex,ya yb ey]]) (fun x=>[qF true u13_1 u13_2 ((((2*(fx - ex)):Int):Rat)*(((fy - ey):Int):Rat)),qF true u12_1 u12_2 (((fy - ey):Int):Rat),qF true u6_1 u6_2 (((2*(fx - ex)):Int):Rat),qF true w316 w417 (yt (yE (yn l (ex,ey) (fx,fy)))),qF true w314 w415 (yE (yn l (ex,ey) (fx,fy))),slF rR p212 c213 (yG l (ex,ey) (fx,fy)),slF rR p24 c25 (yn l (ex,ey) (fx,fy)),slF (rI2 .i64) p cap l]) ?_ ?_
         ·
          refine zY (OW:=[]) (O:=[boxA u14_1 43 (cw [u13_1,u13_2]),boxA b18 43 (cw [w316,w417]),emA,boxA b2 30 [ya yb fx,ya yb fy],boxA b1 30 [ya yb ex,ya yb ey]]) 100000 mixed (.then .ret) kr<|e_u 0 rfl rfl (zb 1 ty43 rfl rfl (.t4 .nil))<|e_dm 1 rfl rfl rfl<|e_one 2 (zq rfl rfl rfl rfl (.c rfl .n) ce26 (zkb (z:=yz l) (hz:=by first|rfl|assumption|omega|exact hwb.q|exact hwb.q5|exact hwb.z|exact hwb.s|decide|(rw [yk];have:=hwb.s;omega))) (.n) ?_)
          rintro ⟨w320,w421⟩ -
          dsimp only [aq,nq,cq]
          refine e_one 3 (zq rfl rfl rfl rfl (.c rfl .n) ce23 (zYd (k1:=true) (u1:=w320) (v1:=w421) (q1:=(((yz l):Int):Rat)) (hl:=by first|rfl|assumption|omega|exact hwb.q|exact hwb.q5|exact hwb.z|exact hwb.s|decide|(rw [yk];have:=hwb.s;omega))) (.c (j:=0) rfl .n) ?_)
          rintro ⟨w322,w423⟩ -
          dsimp only [aq,nq,cq]
          refine e_one 4 (zta rfl rfl rfl rfl (.c rfl (.c rfl .n)) ce27 (zMb (k1:=true) (u1:=w316) (v1:=w417) (q1:=(yt (yE (yn l (ex,ey) (fx,fy))))) (k2:=true) (u2:=w322) (v2:=w423) (q2:=(yt (((yz l):Int):Rat))) (hl:=by first|rfl|assumption|omega|exact hwb.q|exact hwb.q5|exact hwb.z|exact hwb.s|decide|(rw [yk];have:=hwb.s;omega))) (.c (j:=5) rfl (.c (j:=0) rfl .n)) ?_)
          refine e_pv 5 rfl rfl (zWa rfl rfl) ?_
          rw [show (decide (Big.sgq ((yt (yE (yn l (ex,ey) (fx,fy)))) - (yt (((yz l):Int):Rat)))≤0))=true from by exact decide_eq_true (Er.sgq_le_sub hws.1)]
          refine e_dm 6 rfl rfl rfl<|e_u 7 rfl rfl (zb 1 ty43 rfl rfl (.t4 .nil))<|e_u 8 rfl rfl (zb 0 ty43 rfl rfl (.t4 .nil))<|e_one 9 (zta rfl rfl rfl rfl (.c rfl (.c rfl .n)) ce27 (zMb (k1:=true) (u1:=w316) (v1:=w417) (q1:=(yt (yE (yn l (ex,ey) (fx,fy))))) (k2:=true) (u2:=u13_1) (v2:=u13_2) (q2:=(((2*(fx - ex)):Int):Rat)*(((fy - ey):Int):Rat)) (hl:=by first|rfl|assumption|omega|exact hwb.q|exact hwb.q5|exact hwb.z|exact hwb.s|decide|(rw [yk];have:=hwb.s;omega))) (.c (j:=5) rfl (.c (j:=2) rfl .n)) ?_)
          refine e_pv 10 rfl rfl (zWa rfl rfl) ?_
          rw [show (decide (Big.sgq ((yt (yE (yn l (ex,ey) (fx,fy)))) - ((((2*(fx - ex)):Int):Rat)*(((fy - ey):Int):Rat)))≤0))=true from by exact decide_eq_true (Er.sgq_le_sub hws.2)]
          refine e_pv 11 rfl rfl (zp rfl rfl)<|e_pv 12 rfl rfl (zd rfl)<|zW kr ?_
          exact zha () tt9 ((.c rfl .n):SubM _ _) (ho:=((.of [0,0,1,1] rfl):PickO _ _ _)) ((.of [2,3,4,5,6,7,8,9] rfl):SelR _ _ _)
         ·
          rintro ⟨⟩ -
          try dsimp only [cw]
          refine zL ?_
          exact zx yA () trivial (zl rfl) rfl (ho:=oN) sN
        refine zca (X:=Wd×Wd×Wd×Wd×Wd×Wd×Nat) (k':=1) (L':=(lb 16 32767)) (fun (u6_1,u6_2,u12_1,u12_2,u13_1,u13_2,u14_1)=>([(13,yc (some ⟨u14_1,0,none⟩)),(115,.agg (cw [u13_1,u13_2]).toArray),(11,ya yb (yz l)),(10,yc (some ⟨b18,0,none⟩)),(6,.bool false)],[boxA u14_1 43 (cw [wz,wz])],[boxA b18 43 (cw [w316,w417]),emA,boxA b2 30 [ya yb fx,ya yb fy],boxA b1 30 [ya yb ex,ya yb ey]],[qF true u13_1 u13_2 ((((2*(fx - ex)):Int):Rat)*(((fy - ey):Int):Rat)),qF true u12_1 u12_2 (((fy - ey):Int):Rat),qF true u6_1 u6_2 (((2*(fx - ex)):Int):Rat),qF true w316 w417 (yt (yE (yn l (ex,ey) (fx,fy)))),qF true w314 w415 (yE (yn l (ex,ey) (fx,fy))),slF rR p212 c213 (yG l (ex,ey) (fx,fy)),slF rR p24 c25 (yn l (ex,ey) (fx,fy)),slF (rI2 .i64) p cap l])) ?_ (fun hD1=> ?_)
        ·
         rintro ⟨u6_1,u6_2,u12_1,u12_2,u13_1,u13_2,u14_1⟩
         dsimp only [cw]
         refine zya 15 kr ?_
         ·
          refine zr kr rfl rfl rfl rfl rfl sz43 rfl (.t4 .nil) ?_
          exact zH (hD0 (u6_1,u6_2,u12_1,u12_2,u13_1,u13_2,u14_1)) kr (mR rfl) .rfl .rfl ((.of [0,1,2,3,4,5,6,7] rfl):SelR _ _ _)
        refine zca (X:=Wd×Wd×Wd×Wd×Wd×Wd) (k':=2) (L':=(lb 16 16383)) (fun (u6_1,u6_2,u12_1,u12_2,u13_1,u13_2)=>([(115,.agg (cw [u13_1,u13_2]).toArray),(11,ya yb (yz l)),(10,yc (some ⟨b18,0,none⟩)),(6,.bool false)],[],[boxA b18 43 (cw [w316,w417]),emA,boxA b2 30 [ya yb fx,ya yb fy],boxA b1 30 [ya yb ex,ya yb ey]],[qF true u13_1 u13_2 ((((2*(fx - ex)):Int):Rat)*(((fy - ey):Int):Rat)),qF true u12_1 u12_2 (((fy - ey):Int):Rat),qF true u6_1 u6_2 (((2*(fx - ex)):Int):Rat),qF true w316 w417 (yt (yE (yn l (ex,ey) (fx,fy)))),qF true w314 w415 (yE (yn l (ex,ey) (fx,fy))),slF rR p212 c213 (yG l (ex,ey) (fx,fy)),slF rR p24 c25 (yn l (ex,ey) (fx,fy)),slF (rI2 .i64) p cap l])) ?_ (fun hD2=> ?_)
        ·
         rintro ⟨u6_1,u6_2,u12_1,u12_2,u13_1,u13_2⟩
         dsimp only [cw]
         refine zya 14 kr ?_
         ·
          refine zma rfl rfl rfl rfl (zn zr43 rfl) (fun u14_1 _=> ?_)
          exact zH (hD1 (u6_1,u6_2,u12_1,u12_2,u13_1,u13_2,u14_1)) kr (mR rfl) .rfl .rfl ((.of [0,1,2,3,4,5,6,7] rfl):SelR _ _ _)
        refine zca (X:=Wd×Wd×Wd×Wd×Nat) (k':=2) (L':=(lb 16 24575)) (fun (u6_1,u6_2,u12_1,u12_2,u14_1)=>([(13,yc (some ⟨u14_1,0,none⟩)),(114,.agg (cw [u12_1,u12_2]).toArray),(108,.agg (cw [u6_1,u6_2]).toArray),(11,ya yb (yz l)),(10,yc (some ⟨b18,0,none⟩)),(6,.bool false)],[boxA u14_1 43 (cw [wz,wz])],[boxA b18 43 (cw [w316,w417]),emA,boxA b2 30 [ya yb fx,ya yb fy],boxA b1 30 [ya yb ex,ya yb ey]],[qF true u12_1 u12_2 (((fy - ey):Int):Rat),qF true u6_1 u6_2 (((2*(fx - ex)):Int):Rat),qF true w316 w417 (yt (yE (yn l (ex,ey) (fx,fy)))),qF true w314 w415 (yE (yn l (ex,ey) (fx,fy))),slF rR p212 c213 (yG l (ex,ey) (fx,fy)),slF rR p24 c25 (yn l (ex,ey) (fx,fy)),slF (rI2 .i64) p cap l])) ?_ (fun hD3=> ?_)
        ·
         rintro ⟨u6_1,u6_2,u12_1,u12_2,u14_1⟩
         dsimp only [cw]
         refine zya 13 kr ?_
         ·
          refine zq rfl rfl rfl rfl (.c rfl (.c rfl .n)) ce25 (zSa (k1:=true) (u1:=u6_1) (v1:=u6_2) (q1:=(((2*(fx - ex)):Int):Rat)) (k2:=true) (u2:=u12_1) (v2:=u12_2) (q2:=(((fy - ey):Int):Rat)) (hl:=by first|rfl|assumption|omega|exact hwb.q|exact hwb.q5|exact hwb.z|exact hwb.s|decide|(rw [yk];have:=hwb.s;omega))) (.c (j:=1) rfl (.c (j:=0) rfl .n)) ?_
          rintro ⟨u13_1,u13_2⟩ -
          dsimp only [aq,nq,cq]
          exact zH (hD1 (u6_1,u6_2,u12_1,u12_2,u13_1,u13_2,u14_1)) kr (mR rfl) .rfl .rfl ((.of [0,1,2,3,4,5,6,7] rfl):SelR _ _ _)
        refine zca (X:=Wd×Wd×Wd×Wd) (k':=3) (L':=(lb 16 8191)) (fun (u6_1,u6_2,u12_1,u12_2)=>([(114,.agg (cw [u12_1,u12_2]).toArray),(108,.agg (cw [u6_1,u6_2]).toArray),(11,ya yb (yz l)),(10,yc (some ⟨b18,0,none⟩)),(6,.bool false)],[],[boxA b18 43 (cw [w316,w417]),emA,boxA b2 30 [ya yb fx,ya yb fy],boxA b1 30 [ya yb ex,ya yb ey]],[qF true u12_1 u12_2 (((fy - ey):Int):Rat),qF true u6_1 u6_2 (((2*(fx - ex)):Int):Rat),qF true w316 w417 (yt (yE (yn l (ex,ey) (fx,fy)))),qF true w314 w415 (yE (yn l (ex,ey) (fx,fy))),slF rR p212 c213 (yG l (ex,ey) (fx,fy)),slF rR p24 c25 (yn l (ex,ey) (fx,fy)),slF (rI2 .i64) p cap l])) ?_ (fun hD4=> ?_)
        ·
         rintro ⟨u6_1,u6_2,u12_1,u12_2⟩
         dsimp only [cw]
         refine zdb 13 14 kr ?_ ?_
         ·
          refine zq rfl rfl rfl rfl (.c rfl (.c rfl .n)) ce25 (zSa (k1:=true) (u1:=u6_1) (v1:=u6_2) (q1:=(((2*(fx - ex)):Int):Rat)) (k2:=true) (u2:=u12_1) (v2:=u12_2) (q2:=(((fy - ey):Int):Rat)) (hl:=by first|rfl|assumption|omega|exact hwb.q|exact hwb.q5|exact hwb.z|exact hwb.s|decide|(rw [yk];have:=hwb.s;omega))) (.c (j:=1) rfl (.c (j:=0) rfl .n)) ?_
          rintro ⟨u13_1,u13_2⟩ -
          dsimp only [aq,nq,cq]
          exact zH (hD2 (u6_1,u6_2,u12_1,u12_2,u13_1,u13_2)) kr (mR rfl) .rfl .rfl ((.of [0,1,2,3,4,5,6,7] rfl):SelR _ _ _)
         ·
          refine zma rfl rfl rfl rfl (zn zr43 rfl) (fun u14_1 _=> ?_)
          exact zH (hD3 (u6_1,u6_2,u12_1,u12_2,u14_1)) kr (mR rfl) .rfl .rfl ((.of [0,1,2,3,4,5,6] rfl):SelR _ _ _)
        refine zca (X:=Wd×Wd×Nat) (k':=3) (L':=(lb 16 20479)) (fun (u6_1,u6_2,u14_1)=>([(13,yc (some ⟨u14_1,0,none⟩)),(108,.agg (cw [u6_1,u6_2]).toArray),(113,ya yb (fy - ey)),(11,ya yb (yz l)),(10,yc (some ⟨b18,0,none⟩)),(6,.bool false)],[boxA u14_1 43 (cw [wz,wz])],[boxA b18 43 (cw [w316,w417]),emA,boxA b2 30 [ya yb fx,ya yb fy],boxA b1 30 [ya yb ex,ya yb ey]],[qF true u6_1 u6_2 (((2*(fx - ex)):Int):Rat),qF true w316 w417 (yt (yE (yn l (ex,ey) (fx,fy)))),qF true w314 w415 (yE (yn l (ex,ey) (fx,fy))),slF rR p212 c213 (yG l (ex,ey) (fx,fy)),slF rR p24 c25 (yn l (ex,ey) (fx,fy)),slF (rI2 .i64) p cap l])) ?_ (fun hD5=> ?_)
        ·
         rintro ⟨u6_1,u6_2,u14_1⟩
         dsimp only [cw]
         refine zya 12 kr ?_
         ·
          refine zq rfl rfl rfl rfl (.c rfl .n) ce26 (zkb (z:=(fy - ey)) (hz:=by first|rfl|assumption|omega|exact hwb.q|exact hwb.q5|exact hwb.z|exact hwb.s|decide|(rw [yk];have:=hwb.s;omega))) (.n) ?_
          rintro ⟨u12_1,u12_2⟩ -
          dsimp only [aq,nq,cq]
          exact zH (hD3 (u6_1,u6_2,u12_1,u12_2,u14_1)) kr (mR rfl) .rfl .rfl ((.of [0,1,2,3,4,5,6] rfl):SelR _ _ _)
        refine zca (X:=Wd×Wd) (k':=4) (L':=(lb 16 4095)) (fun (u6_1,u6_2)=>([(108,.agg (cw [u6_1,u6_2]).toArray),(113,ya yb (fy - ey)),(11,ya yb (yz l)),(10,yc (some ⟨b18,0,none⟩)),(6,.bool false)],[],[boxA b18 43 (cw [w316,w417]),emA,boxA b2 30 [ya yb fx,ya yb fy],boxA b1 30 [ya yb ex,ya yb ey]],[qF true u6_1 u6_2 (((2*(fx - ex)):Int):Rat),qF true w316 w417 (yt (yE (yn l (ex,ey) (fx,fy)))),qF true w314 w415 (yE (yn l (ex,ey) (fx,fy))),slF rR p212 c213 (yG l (ex,ey) (fx,fy)),slF rR p24 c25 (yn l (ex,ey) (fx,fy)),slF (rI2 .i64) p cap l])) ?_ (fun hD6=> ?_)
        ·
         rintro ⟨u6_1,u6_2⟩
         dsimp only [cw]
         refine zdb 12 14 kr ?_ ?_
         ·
          refine zq rfl rfl rfl rfl (.c rfl .n) ce26 (zkb (z:=(fy - ey)) (hz:=by first|rfl|assumption|omega|exact hwb.q|exact hwb.q5|exact hwb.z|exact hwb.s|decide|(rw [yk];have:=hwb.s;omega))) (.n) ?_
          rintro ⟨u12_1,u12_2⟩ -
          dsimp only [aq,nq,cq]
          exact zH (hD4 (u6_1,u6_2,u12_1,u12_2)) kr (mR rfl) .rfl .rfl ((.of [0,1,2,3,4,5,6] rfl):SelR _ _ _)
         ·
          refine zma rfl rfl rfl rfl (zn zr43 rfl) (fun u14_1 _=> ?_)
          exact zH (hD5 (u6_1,u6_2,u14_1)) kr (mR rfl) .rfl .rfl ((.of [0,1,2,3,4,5] rfl):SelR _ _ _)
        refine zca (X:=Nat) (k':=4) (L':=(lb 16 20415)) (fun u14_1=>([(13,yc (some ⟨u14_1,0,none⟩)),(113,ya yb (fy - ey)),(107,ya yb (2*(fx - ex))),(11,ya yb (yz l)),(10,yc (some ⟨b18,0,none⟩)),(6,.bool false)],[boxA u14_1 43 (cw [wz,wz])],[boxA b18 43 (cw [w316,w417]),emA,boxA b2 30 [ya yb fx,ya yb fy],boxA b1 30 [ya yb ex,ya yb ey]],[qF true w316 w417 (yt (yE (yn l (ex,ey) (fx,fy)))),qF true w314 w415 (yE (yn l (ex,ey) (fx,fy))),slF rR p212 c213 (yG l (ex,ey) (fx,fy)),slF rR p24 c25 (yn l (ex,ey) (fx,fy)),slF (rI2 .i64) p cap l])) ?_ (fun hD7=> ?_)
        ·
         rintro u14_1
         dsimp only [cw]
         refine zya 6 kr ?_
         ·
          refine zq rfl rfl rfl rfl (.c rfl .n) ce26 (zkb (z:=(2*(fx - ex))) (hz:=by first|rfl|assumption|omega|exact hwb.q|exact hwb.q5|exact hwb.z|exact hwb.s|decide|(rw [yk];have:=hwb.s;omega))) (.n) ?_
          rintro ⟨u6_1,u6_2⟩ -
          dsimp only [aq,nq,cq]
          exact zH (hD5 (u6_1,u6_2,u14_1)) kr (mR rfl) .rfl .rfl ((.of [0,1,2,3,4,5] rfl):SelR _ _ _)
        refine zdb 6 14 kr ?_ ?_
        ·
         refine zq rfl rfl rfl rfl (.c rfl .n) ce26 (zkb (z:=(2*(fx - ex))) (hz:=by first|rfl|assumption|omega|exact hwb.q|exact hwb.q5|exact hwb.z|exact hwb.s|decide|(rw [yk];have:=hwb.s;omega))) (.n) ?_
         rintro ⟨u6_1,u6_2⟩ -
         dsimp only [aq,nq,cq]
         exact zH (hD6 (u6_1,u6_2)) kr (mR rfl) .rfl .rfl ((.of [0,1,2,3,4,5] rfl):SelR _ _ _)
        ·
         refine zma rfl rfl rfl rfl (zn zr43 rfl) (fun u14_1 _=> ?_)
         exact zH (hD7 u14_1) kr (mR rfl) .rfl .rfl ((.of [0,1,2,3,4] rfl):SelR _ _ _)
end Go.Proofs.YtjcpbhlijoigfaaGreat.Sp
