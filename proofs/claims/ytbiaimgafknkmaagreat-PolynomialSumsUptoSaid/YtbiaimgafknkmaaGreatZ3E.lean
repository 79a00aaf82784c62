/- Lemmas on the walk and plain lemmas that the claim of this folder uses; each states its own conditions. Lines were printed by a program of ours. -/
import Derived.Test.YtbiaimgafknkmaaGreatZ3D
set_option linter.unusedVariables false
set_option linter.unusedSimpArgs false
set_option linter.unusedSectionVars false
open Go.Proofs.Tryz renaming underlying55 → ya, underlying60 → yb
open Go.Proofs.YtbiaimgafknkmaaGreat.Big renaming hq → yc
namespace Go.Proofs.YtbiaimgafknkmaaGreat.Sp
open Go
set_option linter.unusedVariables false
set_option maxRecDepth 100000
set_option maxHeartbeats 8000000
theorem zjf:Con Tryz.prog 9 [] [] [] (Y:=Unit) (fun y=>True) (fun y=> .bool true) (fun y=>[]) (fun y=>[]):=by
 refine zl Tryz.func9 rfl rfl rfl (fun c=> ?_)
 show RunC _ _ _ _ _ [] [] []
 have hR:Po.eR.length=2:=rfl
 refine ze<|za<|e_p (zb rfl)<|zf<|zc<|ze<|za<|zpa rfl rfl (zK (enc:=fun z:Int=>[.int .i64 z]) (ok:=InK .i64) (h1:=fun _=>rfl) (h2:=fun _=>rfl) (k:=2) ya inf3 rfl dd dd dd (.c (x:=(-1)) rfl rfl (fun _ _=>by exact zza.2 om) (.c (x:=1) rfl rfl (fun _ _=>by exact zza.2 om) .n))) (fun b1 _=> ?_)
 refine zS 0 rfl .z<|zj rfl rfl (.c rfl .n) ce40 (zJc (p1:=some ⟨b1,0,none⟩) (n1:=2) (c1:=2) (l1:=[(-1),1]) (hn1:=by rfl) (hm1:=dd)) (.c (j:=0) rfl .n) ?_
 rintro ⟨p92,c93⟩ -
 dsimp only [aq,nq,cq]
 refine zpa rfl rfl (zK (enc:=fun z:Int=>[.int .i64 z]) (ok:=InK .i64) (h1:=fun _=>rfl) (h2:=fun _=>rfl) (k:=2) ya inf3 rfl dd dd dd (.c (x:=2) rfl rfl (fun _ _=>by exact zza.2 om) (.c (x:=1) rfl rfl (fun _ _=>by exact zza.2 om) .n))) (fun b4 _=> ?_)
 refine zS 0 rfl .z<|zj rfl rfl (.c rfl .n) ce40 (zJc (p1:=some ⟨b4,0,none⟩) (n1:=2) (c1:=2) (l1:=[2,1]) (hn1:=by rfl) (hm1:=dd)) (.c (j:=0) rfl .n) ?_
 rintro ⟨p95,c96⟩ -
 dsimp only [aq,nq,cq]
 refine zka (addQE 2 rfl)<|zka (addQE 1 rfl)<|zj rfl rfl (.c rfl (.c rfl .n)) ce17 (zrc (p1:=p92) (n1:=(Po.ofL ([(-1),1])).length) (c1:=c93) (l1:=((Po.ofL ([(-1),1])).map some)) (p2:=p95) (n2:=(Po.ofL ([2,1])).length) (c2:=c96) (l2:=((Po.ofL ([2,1])).map some)) (hn1:=by exact List.length_map _) (hm1:=dd) (hn2:=by exact List.length_map _) (hm2:=dd) (hm12:=dd) (hb1:=by rw [Po.vals_some];exact Po.bd_dec (by decide +kernel) dd) (hb2:=by rw [Po.vals_some];exact Po.bd_dec (by decide +kernel) dd) (hs:=by rw [Po.vals_some,Po.vals_some];exact fun k lo n _=>Po.cv_hq_of (K:=1) (L:=1) (N:=10) (Po.bd_cl (Po.bd_dec (by decide +kernel) dd)) (Po.bd_cl (Po.bd_dec (by decide +kernel) dd)) (by decide +kernel) dd k lo n)) (.c (j:=1) rfl (.c (j:=0) rfl .n)) ?_
 rintro ⟨p97,c98⟩ -
 dsimp only [aq,nq,cq]
 refine e_p (zb rfl)<|zf<|zc<|ze ?_
 have e9:(Po.mul (Po.vals ((Po.ofL ([(-1),1])).map some)) (Po.vals ((Po.ofL ([2,1])).map some)):List Rat)=Po.e1:=by rw [Po.vals_some,Po.vals_some];exact Po.ex_mul
 rw [e9]
 refine za<|e_mv rfl<|zpa rfl rfl (zK (enc:=fun z:Int=>[.int .i64 z]) (ok:=InK .i64) (h1:=fun _=>rfl) (h2:=fun _=>rfl) (k:=2) ya inf3 rfl dd dd dd (.c (x:=(-1)) rfl rfl (fun _ _=>by exact zza.2 om) (.c (x:=1) rfl rfl (fun _ _=>by exact zza.2 om) .n))) (fun b10 _=> ?_)
 refine zS 0 rfl .z<|zj rfl rfl (.c rfl .n) ce40 (zJc (p1:=some ⟨b10,0,none⟩) (n1:=2) (c1:=2) (l1:=[(-1),1]) (hn1:=by rfl) (hm1:=dd)) (.c (j:=0) rfl .n) ?_
 rintro ⟨p911,c912⟩ -
 dsimp only [aq,nq,cq]
 refine zka (addQE 2 rfl)<|zka (addQE 1 rfl)<|zj rfl rfl (.c rfl (.c rfl .n)) ce26 (ztb (p1:=p97) (n1:=(Po.e1).length) (c1:=c98) (l1:=((Po.e1).map some)) (p2:=p911) (n2:=(Po.ofL ([(-1),1])).length) (c2:=c912) (l2:=((Po.ofL ([(-1),1])).map some)) (hn1:=by exact List.length_map _) (hm1:=dd) (hn2:=by exact List.length_map _) (hm2:=dd) (hm12:=dd) (hb2:=by rw [Po.vals_some];exact Po.bd_dec (by decide +kernel) dd) (hok:=by rw [Po.vals_some,Po.vals_some];exact (Po.dgo_of (Po.cb_dec (by decide +kernel) dd) (Po.cb_dec (by decide +kernel) dd) dd (by decide +kernel)).2)) (.c (j:=1) rfl (.c (j:=0) rfl .n)) ?_
 rintro ⟨p813,c814,p915,c916⟩ -
 dsimp only [aq,nq,cq]
 refine e_mv rfl<|e_p (zn rfl rfl)<|e_p (zn rfl rfl)<|e_p (zn rfl rfl)<|e_p (zb rfl)<|e_p (zb rfl)<|e_p (zb rfl)<|zf<|zc<|ze ?_
 have e17:(Po.dq (Po.vals ((Po.e1).map some)) (Po.vals ((Po.ofL ([(-1),1])).map some)):List Rat)=Po.ofL [2,1]:=by rw [Po.vals_some,Po.vals_some];exact Po.ex_q
 rw [e17]
 have e18:(Po.dr (Po.vals ((Po.e1).map some)) (Po.vals ((Po.ofL ([(-1),1])).map some)):List Rat)=([]:List Rat):=by rw [Po.vals_some,Po.vals_some];exact Po.ex_r
 rw [e18]
 have e19:(([]:List Rat).length:Nat)=0:=by rfl
 rw [e19]
 have e20:(Po.dc (Po.vals ((Po.ofL ([(-1),1])).map some)):Int)=0:=by rw [Po.vals_some];exact Po.ex_c
 rw [e20]
 refine za<|zpa rfl rfl (zK (enc:=fun z:Int=>[.int .i64 z]) (ok:=InK .i64) (h1:=fun _=>rfl) (h2:=fun _=>rfl) (k:=3) ya inf3 rfl dd dd dd (.c (x:=(-2)) rfl rfl (fun _ _=>by exact zza.2 om) (.c (x:=0) rfl rfl (fun _ _=>by exact zza.2 om) (.c (x:=1) rfl rfl (fun _ _=>by exact zza.2 om) .n)))) (fun b21 _=> ?_)
 refine zS 0 rfl .z<|zj rfl rfl (.c rfl .n) ce40 (zJc (p1:=some ⟨b21,0,none⟩) (n1:=3) (c1:=3) (l1:=[(-2),0,1]) (hn1:=by rfl) (hm1:=dd)) (.c (j:=0) rfl .n) ?_
 rintro ⟨p922,c923⟩ -
 dsimp only [aq,nq,cq]
 refine zka (addQE 0 rfl)<|zj rfl rfl (.c rfl .n) ce43 (zCd (p1:=p922) (n1:=(Po.ofL ([(-2),0,1])).length) (c1:=c923) (l1:=((Po.ofL ([(-2),0,1])).map some)) (n:=10) (hn1:=by exact List.length_map _) (hm1:=dd) (hok:=by rw [Po.vals_some];exact Po.ex_s2.1) (hb:=by rw [Po.vals_some];exact Po.bd_dec (by decide +kernel) dd) (hne:=by rw [Po.vals_some];exact Po.ex_ne2) (hne2:=by rw [Po.vals_some];decide +kernel) (hlS:=by rw [Po.vals_some];exact Nat.le_trans Po.ex_l2 dd) (hA:=by rw [Po.vals_some];rw [show Po.iso (Po.sturm (Po.ofL [(-2),0,1])) 10 (-Po.bound (Po.cl (Po.ofL [(-2),0,1]))) (Po.bound (Po.cl (Po.ofL [(-2),0,1])))=Po.eR from Po.ex_iso];decide) (hk:=by rw [Po.vals_some];exact Po.ex_k2)) (.c (j:=0) rfl .n) ?_
 rintro ⟨p924,c925⟩ -
 dsimp only [aq,nq,cq]
 refine e_mv rfl<|e_p (zn rfl rfl)<|e_p (zn rfl rfl)<|e_p (zb rfl)<|e_p (zb rfl)<|zf<|zc<|ze ?_
 have e26:(Po.iso (Po.sturm (Po.vals ((Po.ofL ([(-2),0,1])).map some))) 10 (-(Po.bound (Po.cl (Po.vals ((Po.ofL ([(-2),0,1])).map some))))) (Po.bound (Po.cl (Po.vals ((Po.ofL ([(-2),0,1])).map some)))):List (Rat×Rat))=Po.eR:=by rw [Po.vals_some];exact Po.ex_iso
 rw [e26]
 refine za<|zpa rfl rfl (zK (enc:=fun z:Int=>[.int .i64 z]) (ok:=InK .i64) (h1:=fun _=>rfl) (h2:=fun _=>rfl) (k:=4) ya inf3 rfl dd dd dd (.c (x:=0) rfl rfl (fun _ _=>by exact zza.2 om) (.c (x:=(-1)) rfl rfl (fun _ _=>by exact zza.2 om) (.c (x:=0) rfl rfl (fun _ _=>by exact zza.2 om) (.c (x:=1) rfl rfl (fun _ _=>by exact zza.2 om) .n))))) (fun b27 _=> ?_)
 refine zS 0 rfl .z<|zj rfl rfl (.c rfl .n) ce40 (zJc (p1:=some ⟨b27,0,none⟩) (n1:=4) (c1:=4) (l1:=[0,(-1),0,1]) (hn1:=by rfl) (hm1:=dd)) (.c (j:=0) rfl .n) ?_
 rintro ⟨p928,c929⟩ -
 dsimp only [aq,nq,cq]
 refine zj rfl rfl (.c rfl .n) ce42 (zXa (z:=(-1)) (hz:=by first|rfl|decide|omega)) (.n) ?_
 rintro ⟨w330,w431⟩ -
 dsimp only [aq,nq,cq]
 refine zj rfl rfl (.c rfl .n) ce42 (zXa (z:=1) (hz:=by first|rfl|decide|omega)) (.n) ?_
 rintro ⟨w332,w433⟩ -
 dsimp only [aq,nq,cq]
 refine zka (addQE 2 rfl)<|zN rfl rfl (.c rfl (.c rfl (.c rfl .n))) ce45 (zBe (p1:=p928) (n1:=(Po.ofL ([0,(-1),0,1])).length) (c1:=c929) (l1:=((Po.ofL ([0,(-1),0,1])).map some)) (u1:=w330) (v1:=w431) (x1:=(((-1):Int):Rat)) (u2:=w332) (v2:=w433) (x2:=((1:Int):Rat)) (hn1:=by exact List.length_map _) (hm1:=dd) (hok:=by rw [Po.vals_some];exact Po.ex_s3.1) (hne:=by rw [Po.vals_some];exact Po.ex_ne3) (hlS:=by rw [Po.vals_some];exact Nat.le_trans Po.ex_l3 dd) (hx1:=by decide +kernel) (hx2:=by decide +kernel) (hv1:=by rw [Po.vals_some];exact Po.vok_sturm Po.ex_s3.2 (by decide +kernel)) (hv2:=by rw [Po.vals_some];exact Po.vok_sturm Po.ex_s3.2 (by decide +kernel)) (hle:=by decide +kernel)) (.c (j:=0) rfl (.c (j:=2) rfl (.c (j:=1) rfl .n)))<|e_mv rfl<|e_p (zn rfl rfl)<|e_p (zn rfl rfl)<|e_p (zb rfl)<|e_p (zb rfl)<|zf<|zc<|zUa (X:=Unit) (fun x=>True) (fun x=>[(0,.bool true)]) (fun x=>[]) (fun x=>[slF rE p928 c929 ((Po.ofL ([0,(-1),0,1])).map some),qF true w332 w433 ((1:Int):Rat),qF true w330 w431 (((-1):Int):Rat),slF rQ p928 c929 (Po.ofL ([0,(-1),0,1])),slF (rI .i64) (some ⟨b27,0,none⟩) 4 ([0,(-1),0,1]),slF rR p924 c925 (Po.eR),slF rE p922 c923 ((Po.ofL ([(-2),0,1])).map some),slF rQ p922 c923 (Po.ofL ([(-2),0,1])),slF (rI .i64) (some ⟨b21,0,none⟩) 3 ([(-2),0,1]),slF rQ p813 c814 (Po.ofL [2,1]),slF rQ p915 c916 ([]:List Rat),slF rE p911 c912 ((Po.ofL ([(-1),1])).map some),slF rE p97 c98 ((Po.e1).map some),slF rQ p911 c912 (Po.ofL ([(-1),1])),slF (rI .i64) (some ⟨b10,0,none⟩) 2 ([(-1),1]),slF rQ p97 c98 (Po.e1),slF rE p95 c96 ((Po.ofL ([2,1])).map some),slF rE p92 c93 ((Po.ofL ([(-1),1])).map some),slF rQ p95 c96 (Po.ofL ([2,1])),slF (rI .i64) (some ⟨b4,0,none⟩) 2 ([2,1]),slF rQ p92 c93 (Po.ofL ([(-1),1])),slF (rI .i64) (some ⟨b1,0,none⟩) 2 ([(-1),1])]) ?_ ?_
 ·
  have e34:(Po.bt (Po.sturm (Po.vals ((Po.ofL ([0,(-1),0,1])).map some))) (((-1):Int):Rat) ((1:Int):Rat):Int)=2:=by rw [Po.vals_some];exact Po.ex_bt
  rw [e34]
  refine zU (OW:=[]) (O:=[emA,emA,emA,emA,emA]) 100000 mixed (.then .ret) kr<|e_dm 0 rfl rfl rfl<|e_dm 1 rfl rfl rfl<|e_pv 2 rfl rfl (zH (z:=0) rfl rfl (w64 dd))<|e_dm 3 rfl rfl rfl<|e_pv 4 rfl rfl (zH (z:=0) rfl rfl (w64 dd))<|e_pv 5 rfl rfl (zra rfl rfl)<|e_dm 6 rfl rfl rfl<|e_dm 7 rfl rfl rfl<|e_one 8 (zGe rfl rfl rfl rfl (zK (enc:=fun z:Int=>[.int .i64 z]) (ok:=InK .i64) (h1:=fun _=>rfl) (h2:=fun _=>rfl) (k:=3) ya inf3 rfl dd dd dd (.c (x:=(-2)) rfl rfl (fun _ _=>by exact zza.2 om) (.c (x:=1) rfl rfl (fun _ _=>by exact zza.2 om) (.c (x:=1) rfl rfl (fun _ _=>by exact zza.2 om) .n)))) (fun b35 _=> ?_))
  refine zNb 0 rfl .z<|e_one 9 (zq rfl rfl rfl rfl (.c rfl .n) ce40 (zJc (p1:=some ⟨b35,0,none⟩) (n1:=3) (c1:=3) (l1:=[(-2),1,1]) (hn1:=by rfl) (hm1:=dd)) (.c (j:=0) rfl .n) ?_)
  rintro ⟨p936,c937⟩ -
  dsimp only [aq,nq,cq]
  refine e_one 10 (zFa rfl rfl rfl rfl (.c rfl (.c rfl .n)) ce12 (zkb (p1:=p97) (n1:=(Po.e1).length) (c1:=c98) (l1:=(Po.e1)) (p2:=p936) (n2:=(Po.ofL ([(-2),1,1])).length) (c2:=c937) (l2:=(Po.ofL ([(-2),1,1]))) (hn1:=by rfl) (hm1:=dd) (hn2:=by rfl) (hm2:=dd) (hb1:=by exact Po.bd_dec (by decide +kernel) dd) (hb2:=by exact Po.bd_dec (by decide +kernel) dd)) (.c (j:=17) rfl (.c (j:=0) rfl .n)) ?_)
  rw [show (decide ((Po.e1)=(Po.ofL ([(-2),1,1]))))=true from by exact decide_eq_true (by decide +kernel)]
  refine e_pv 11 rfl rfl (zL rfl rfl)<|e_dm 12 rfl rfl rfl<|e_dm 13 rfl rfl rfl<|e_one 14 (zGe rfl rfl rfl rfl (zK (enc:=fun z:Int=>[.int .i64 z]) (ok:=InK .i64) (h1:=fun _=>rfl) (h2:=fun _=>rfl) (k:=2) ya inf3 rfl dd dd dd (.c (x:=2) rfl rfl (fun _ _=>by exact zza.2 om) (.c (x:=1) rfl rfl (fun _ _=>by exact zza.2 om) .n))) (fun b38 _=> ?_))
  refine zNb 0 rfl .z<|e_one 15 (zq rfl rfl rfl rfl (.c rfl .n) ce40 (zJc (p1:=some ⟨b38,0,none⟩) (n1:=2) (c1:=2) (l1:=[2,1]) (hn1:=by rfl) (hm1:=dd)) (.c (j:=0) rfl .n) ?_)
  rintro ⟨p939,c940⟩ -
  dsimp only [aq,nq,cq]
  refine e_one 16 (zFa rfl rfl rfl rfl (.c rfl (.c rfl .n)) ce12 (zkb (p1:=p813) (n1:=(Po.ofL [2,1]).length) (c1:=c814) (l1:=(Po.ofL [2,1])) (p2:=p939) (n2:=(Po.ofL ([2,1])).length) (c2:=c940) (l2:=(Po.ofL ([2,1]))) (hn1:=by rfl) (hm1:=dd) (hn2:=by rfl) (hm2:=dd) (hb1:=by exact Po.bd_dec (by decide +kernel) dd) (hb2:=by exact Po.bd_dec (by decide +kernel) dd)) (.c (j:=13) rfl (.c (j:=0) rfl .n)) ?_)
  rw [show (decide ((Po.ofL [2,1])=(Po.ofL ([2,1]))))=true from by exact decide_eq_true (by decide +kernel)]
  refine e_pv 17 rfl rfl (zL rfl rfl)<|e_dm 18 rfl rfl rfl<|e_dm 19 rfl rfl rfl<|e_pv 20 rfl rfl (zC Tryz.underlying23 rfl)<|e_pv 21 rfl rfl (zra rfl rfl)<|e_pv 22 rfl rfl (zL rfl rfl)<|e_dm 23 rfl rfl rfl<|e_dm 24 rfl rfl rfl<|e_pv 25 rfl rfl (zC yb rfl)<|e_pv 26 rfl rfl (zra rfl rfl) ?_
  rw [show (decide ((((Po.eR).length:Nat):Int)=2))=true from by exact decide_eq_true dd]
  refine e_pv 27 rfl rfl (zL rfl rfl)<|e_dm 28 rfl rfl rfl<|e_dm 29 rfl rfl rfl<|d_vl 30 rfl rfl kr kr rfl rfl (zga (x0:=((Po.eR).getD 0 ((0:Rat),(0:Rat)))) 9 0 rfl yb sz48 rfl cbo rfl rfl (gD (d:=((0:Rat),(0:Rat))) om)) ?_
  rintro ⟨b41,o42,w43,w44,w45,w46⟩ -
  dsimp only [aq,nq,cq]
  refine zbb open_rR<|e_u 31 rfl rfl (zO (j:=0) 0 ty48 rfl rfl rfl (.t8 .nil))<|e_one 32 (zq rfl rfl rfl rfl (.c rfl .n) ce42 (zXa (z:=(-3)) (hz:=by first|rfl|decide|omega)) (.n) ?_)
  rintro ⟨w347,w448⟩ -
  dsimp only [aq,nq,cq]
  refine e_one 33 (zq rfl rfl rfl rfl (.c rfl .n) ce42 (zXa (z:=0) (hz:=by first|rfl|decide|omega)) (.n) ?_)
  rintro ⟨w349,w450⟩ -
  dsimp only [aq,nq,cq]
  refine e_pv 34 rfl rfl (zP zr48 rfl Tryz.underlying48 (.c sz28 (.c sz28 .n)) (.c rfl (.c rfl .n)) (.c rfl rfl rfl (.t4 .nil) (.c rfl rfl rfl (.s4 (.t4 .nil)) .n)))<|e_one 35 (zFa rfl rfl rfl rfl (.c rfl (.c rfl .n)) ce39 (zmc (u1:=w43) (u2:=w45) (u3:=w347) (u4:=w349) (v1:=w44) (v2:=w46) (v3:=w448) (v4:=w450) (q1:=((Po.eR).getD 0 ((0:Rat),(0:Rat))).1) (q2:=((Po.eR).getD 0 ((0:Rat),(0:Rat))).2) (q3:=(((-3):Int):Rat)) (q4:=((0:Int):Rat)) (hl1:=by decide +kernel) (hl2:=by decide +kernel)) (.c (j:=3) rfl (.c (j:=4) rfl (.c (j:=1) rfl (.c (j:=0) rfl .n)))) ?_)
  rw [show (decide ((((Po.eR).getD 0 ((0:Rat),(0:Rat))).1)=(((-3):Int):Rat)∧(((Po.eR).getD 0 ((0:Rat),(0:Rat))).2)=((0:Int):Rat)))=true from by exact decide_eq_true (by decide +kernel)]
  refine e_pv 36 rfl rfl (zL rfl rfl)<|e_dm 37 rfl rfl rfl<|e_dm 38 rfl rfl rfl<|d_vl 39 rfl rfl kr kr rfl rfl (zga (x0:=((Po.eR).getD 1 ((0:Rat),(0:Rat)))) 14 1 rfl yb sz48 rfl cbo rfl rfl (gD (d:=((0:Rat),(0:Rat))) om)) ?_
  rintro ⟨b51,o52,w53,w54,w55,w56⟩ -
  dsimp only [aq,nq,cq]
  refine zbb open_rR<|e_u 40 rfl rfl (zO (j:=0) 0 ty48 rfl rfl rfl (.t8 .nil))<|e_one 41 (zq rfl rfl rfl rfl (.c rfl .n) ce42 (zXa (z:=0) (hz:=by first|rfl|decide|omega)) (.n) ?_)
  rintro ⟨w357,w458⟩ -
  dsimp only [aq,nq,cq]
  refine e_one 42 (zq rfl rfl rfl rfl (.c rfl .n) ce42 (zXa (z:=3) (hz:=by first|rfl|decide|omega)) (.n) ?_)
  rintro ⟨w359,w460⟩ -
  dsimp only [aq,nq,cq]
  refine e_pv 43 rfl rfl (zP zr48 rfl Tryz.underlying48 (.c sz28 (.c sz28 .n)) (.c rfl (.c rfl .n)) (.c rfl rfl rfl (.t4 .nil) (.c rfl rfl rfl (.s4 (.t4 .nil)) .n)))<|e_one 44 (zFa rfl rfl rfl rfl (.c rfl (.c rfl .n)) ce39 (zmc (u1:=w53) (u2:=w55) (u3:=w357) (u4:=w359) (v1:=w54) (v2:=w56) (v3:=w458) (v4:=w460) (q1:=((Po.eR).getD 1 ((0:Rat),(0:Rat))).1) (q2:=((Po.eR).getD 1 ((0:Rat),(0:Rat))).2) (q3:=((0:Int):Rat)) (q4:=((3:Int):Rat)) (hl1:=by decide +kernel) (hl2:=by decide +kernel)) (.c (j:=3) rfl (.c (j:=4) rfl (.c (j:=1) rfl (.c (j:=0) rfl .n)))) ?_)
  rw [show (decide ((((Po.eR).getD 1 ((0:Rat),(0:Rat))).1)=((0:Int):Rat)∧(((Po.eR).getD 1 ((0:Rat),(0:Rat))).2)=((3:Int):Rat)))=true from by exact decide_eq_true (by decide +kernel)]
  refine e_pv 45 rfl rfl (zL rfl rfl)<|e_dm 46 rfl rfl rfl<|e_dm 47 rfl rfl rfl<|e_pv 48 rfl rfl (zra rfl rfl)<|e_pv 49 rfl rfl (zL rfl rfl)<|e_pv 50 rfl rfl (zb rfl)<|zT kr ?_
  exact zta () (show True from by first|trivial|omega|simp_all) ((.c rfl .n):SubM _ _) (ho:=(.n:PickO _ _ _)) ((.of [14,15,16,17,18,19,20,21,22,23,24,25,26,27,28,29,30,31,32,33,34,35] rfl):SelR _ _ _)
 ·
  rintro ⟨⟩ -
  try dsimp only
  refine zE ?_
  exact zw Tryz.results9 () trivial (zo rfl) rfl (ho:=(.n:PickO _ _ _)) (.n:SelR _ _ _)
end Go.Proofs.YtbiaimgafknkmaaGreat.Sp
namespace Go.Proofs.YtbiaimgafknkmaaGreat.Po
open Go.Proofs.YtbiaimgafknkmaaGreat.Big
theorem few_all {l:List (Option Rat)} {n:Nat} (hn:l.length=n) (h:∀i,i<n→hq ((l.getD i none).getD 0)≤2) (i:Nat):hq ((l.getD i none).getD 0)≤2:=by
  by_cases hi:i<n
  · exact h i hi
  · rw [at_end (by omega)];decide
theorem few_bd {l:List (Option Rat)} (h:∀i,hq ((l.getD i none).getD 0)≤2):bd 2 (vals l):=fun i=>by rw [vals_get];exact h i
theorem bd_mul {K L N:Nat} {p q:List Rat} (h1:bd K p) (h2:bd L q) (hl:p.length≤N):bd (1+N*(K+L+1)) (mul p q):=fun i=>by
  have e:(mul p q).getD i 0=cv p q i 0 (i+1):=by rw [mul_get,cv_co];rfl
  rw [e]
  refine Nat.le_trans (cv_hq_len h1 h2 i 0 (i+1)) (Nat.add_le_add_left (Nat.mul_le_mul_right _ ?_) _)
  omega
theorem sub_len (p q:List Rat):(sub p q).length≤max p.length q.length:=by
  unfold sub
  exact Nat.le_trans (cl_le_len _) (by rw [gen_len];exact Nat.le_refl _)
theorem scl_len (p:List Rat) (x:Rat):(scl p x).length≤p.length:=by
  unfold scl
  exact Nat.le_trans (cl_le_len _) (by rw [gen_len];exact Nat.le_refl _)
theorem bd_scl {K L:Nat} {p:List Rat} {x:Rat} (h:bd K p) (hx:hq x≤L):bd (K+L) (scl p x):=fun i=>by
  rw [scl_get]
  have:=hq_mul (p.getD i 0) x;have:=h i
  omega
end Go.Proofs.YtbiaimgafknkmaaGreat.Po
namespace Go.Proofs.YtbiaimgafknkmaaGreat.Sp
open Go
set_option linter.unusedVariables false
set_option maxRecDepth 100000
set_option maxHeartbeats 8000000
theorem zYb {p1:Option Addr} {n1:Nat} {c1:Nat} {l1:List (Option Rat)} {p2:Option Addr} {n2:Nat} {c2:Nat} {l2:List (Option Rat)} {u1:Wd} {v1:Wd} {x1:Option Rat} (hn1:l1.length=n1) (hn2:l2.length=n2):Con Tryz.prog 3 [.slice p1 n1 c1,.slice p2 n2 c2,.agg #[u1.b,u1.l,v1.b,v1.l]] [] [slF rE p1 c1 l1,slF rE p2 c2 l2,eF u1 v1 x1] (Y:=Unit) (fun y=>True) (fun y=> .bool true) (fun y=>[]) (fun y=>[]):=by
 refine zl Tryz.func3 rfl rfl rfl (fun c=> ?_)
 show RunC _ _ _ _ _ [(0,.slice p1 n1 c1),(1,.slice p2 n2 c2),(2,.agg #[u1.b,u1.l,v1.b,v1.l])] [] [slF rE p1 c1 l1,slF rE p2 c2 l2,eF u1 v1 x1]
 refine zQ 0 rfl (fun hL0=> ?_)
 refine zQ 1 rfl (fun hL1=> ?_)
 refine ze<|za<|zG rfl rfl (zM rfl rfl) (fun b1=> ?_)
 refine e_p (zb rfl)<|zf<|zc<|ze<|ze<|za<|zN rfl rfl (.n) ce9 (zjf) (.n)<|e_p (zFb rfl)<|zf<|zc<|zeb rfl rfl<|zB<|zc<|ze<|zUa (X:=Bool) (fun x=>(x=false→(((n1:Nat):Int)≤8∧∀i,i<n1→yc ((l1.getD i none).getD 0)≤2)∧(((n2:Nat):Int)≤8∧∀i,i<n2→yc ((l2.getD i none).getD 0)≤2)∧(u1.n≤2∧v1.n≤2))) (fun x=>[(21,.bool x),(6,.bool false),(5,.pointer (some ⟨b1,0,none⟩)),(0,.slice p1 n1 c1),(1,.slice p2 n2 c2)]) (fun x=>[boxA b1 28 (cw [u1,v1])]) (fun x=>[slF rE p1 c1 l1,slF rE p2 c2 l2,eF u1 v1 x1]) ?_ ?_
 ·
  refine za<|e_mv rfl<|zj rfl rfl (.c rfl (.c rfl .n)) ce10 (zhf (p1:=p1) (n1:=n1) (c1:=c1) (l1:=l1) (m:=8) (hn1:=ass)) (.c (j:=0) rfl .n) ?_
  rintro b92 hfa
  dsimp only [aq,nq,cq]
  replace hfa:(b92=true→((n1:Nat):Int)≤8∧∀i,i<n1→yc ((l1.getD i none).getD 0)≤2):=hfa
  refine e_p (zFb rfl)<|zFe rfl rfl (zma rfl) (fun h12=> ?_) (fun h12=> ?_)
  ·
   refine e_no<|e_no<|e_no<|e_p (zL rfl rfl)<|e_mv rfl<|e_no<|e_no<|e_no<|e_p (zL rfl rfl)<|zf ?_
   exact zta true (show (true=false→(((n1:Nat):Int)≤8∧∀i,i<n1→yc ((l1.getD i none).getD 0)≤2)∧(((n2:Nat):Int)≤8∧∀i,i<n2→yc ((l2.getD i none).getD 0)≤2)∧(u1.n≤2∧v1.n≤2)) from by (intro k;cases k)) ((.e rfl (congrArg Value.bool cbu) (.of rfl)):SubM _ _) (ho:=((.c (i:=0) rfl .n):PickO _ _ _)) ((.of [0,1,2] rfl):SelR _ _ _)
  ·
   have hf1:=hfa (by simpa using h12)
   refine e_mv rfl<|zj rfl rfl (.c rfl (.c rfl .n)) ce10 (zhf (p1:=p2) (n1:=n2) (c1:=c2) (l1:=l2) (m:=8) (hn1:=ass)) (.c (j:=1) rfl .n) ?_
   rintro b93 hfb
   dsimp only [aq,nq,cq]
   replace hfb:(b93=true→((n2:Nat):Int)≤8∧∀i,i<n2→yc ((l2.getD i none).getD 0)≤2):=hfb
   refine e_p (zFb rfl)<|e_p (zL rfl rfl)<|zFe rfl rfl (zma rfl) (fun h17=> ?_) (fun h17=> ?_)
   ·
    refine e_no<|e_no<|e_no<|e_p (zL rfl rfl)<|zf ?_
    exact zta true (show (true=false→(((n1:Nat):Int)≤8∧∀i,i<n1→yc ((l1.getD i none).getD 0)≤2)∧(((n2:Nat):Int)≤8∧∀i,i<n2→yc ((l2.getD i none).getD 0)≤2)∧(u1.n≤2∧v1.n≤2)) from by (intro k;cases k)) ((.e rfl (congrArg Value.bool cbu) (.of rfl)):SubM _ _) (ho:=((.c (i:=0) rfl .n):PickO _ _ _)) ((.of [0,1,2] rfl):SelR _ _ _)
   ·
    have hf2:=hfb (by simpa using h17)
    refine e_ru (zd 0 ty28 rfl rfl (.t4 .nil))<|zN rfl rfl (.c rfl .n) ce11 (zAd (u1:=u1) (v1:=v1)) (.n)<|e_p (zib rfl)<|e_p (zL rfl rfl)<|zf ?_
    exact zta (decide (¬(u1.n≤2∧v1.n≤2))) (show ((decide (¬(u1.n≤2∧v1.n≤2)))=false→(((n1:Nat):Int)≤8∧∀i,i<n1→yc ((l1.getD i none).getD 0)≤2)∧(((n2:Nat):Int)≤8∧∀i,i<n2→yc ((l2.getD i none).getD 0)≤2)∧(u1.n≤2∧v1.n≤2)) from by (intro k;exact ⟨hf1,hf2,Decidable.not_not.1 (of_decide_eq_false k)⟩)) ((.e rfl (congrArg Value.bool cbu) (.of rfl)):SubM _ _) (ho:=((.c (i:=0) rfl .n):PickO _ _ _)) ((.of [0,1,2] rfl):SelR _ _ _)
 ·
  rintro g9 hC
  replace hC:(g9=false→(((n1:Nat):Int)≤8∧∀i,i<n1→yc ((l1.getD i none).getD 0)≤2)∧(((n2:Nat):Int)≤8∧∀i,i<n2→yc ((l2.getD i none).getD 0)≤2)∧(u1.n≤2∧v1.n≤2)):=hC
  try dsimp only [cw]
  refine zIb rfl (fun h21=> ?_) (fun h21=> ?_)
  ·
   refine ze<|za<|e_p (zb rfl)<|zf<|zc<|zE<|zp ?_
   exact zw Tryz.results3 () trivial (zo rfl) rfl (ho:=(.n:PickO _ _ _)) (.n:SelR _ _ _)
  ·
   obtain ⟨hf1,hf2,hsm⟩:=hC h21
   refine zfd (p:=yc (x1.getD 0)≤2) (fun g hh=>ee_hq (Holds.get 2 rfl hh) hsm.1 hsm.2) (fun hqx=> ?_)
   have hm1:n1≤8:=by omega
   have hb1:=Po.few_all hn1 hf1.2
   have hv1:=Po.few_bd hb1
   have hl1:(Po.vals l1).length=n1:=by rw [Po.vals_len,hn1]
   have hm2:n2≤8:=by omega
   have hb2:=Po.few_all hn2 hf2.2
   have hv2:=Po.few_bd hb2
   have hl2:(Po.vals l2).length=n2:=by rw [Po.vals_len,hn2]
   have hla:=Po.add_len (Po.vals l1) (Po.vals l2)
   have hls:=Po.sub_len (Po.vals l1) (Po.vals l2)
   have hlm:=Po.mul_len (Po.vals l1) (Po.vals l2)
   have hlc:=Po.scl_len (Po.vals l1) (x1.getD 0)
   have hl9:=Po.mul_len (Po.vals l1) (Po.vals [x1])
   have hl8:(Po.vals [x1]).length=1:=rfl
   have hb9:Po.bd 2 (Po.vals [x1]):=Po.bd_one hqx
   refine zB<|zc<|zUa (X:=Unit) (fun x=>True) (fun x=>[(6,.bool true)]) (fun x=>[boxA b1 28 (cw [u1,v1])]) (fun x=>[slF rE p1 c1 l1,slF rE p2 c2 l2,eF u1 v1 x1]) ?_ ?_
   ·
    refine zU (OW:=[]) (O:=[boxA b1 28 (cw [u1,v1])]) 100000 mixed (.then .ret) kr<|e_dm 0 rfl rfl rfl<|e_dm 1 rfl rfl rfl<|e_dm 3 rfl rfl rfl<|e_dm 4 rfl rfl rfl<|e_one 2 (zq rfl rfl rfl rfl (.c rfl (.c rfl .n)) ce13 (zhe (p1:=p1) (n1:=n1) (c1:=c1) (l1:=l1) (p2:=p2) (n2:=n2) (c2:=c2) (l2:=l2) (hn1:=ass) (hm1:=by first|omega|rfl|assumption|decide) (hn2:=ass) (hm2:=by first|omega|rfl|assumption|decide) (hb:=by intro i;have h1:=hb1 i;have h2:=hb2 i;omega)) (.c (j:=0) rfl (.c (j:=1) rfl .n)) ?_)
    rintro ⟨p94,c95⟩ -
    dsimp only [aq,nq,cq]
    refine e_one 5 (zq rfl rfl rfl rfl (.c rfl (.c rfl .n)) ce14 (zje (p1:=p1) (n1:=n1) (c1:=c1) (l1:=l1) (p2:=p2) (n2:=n2) (c2:=c2) (l2:=l2) (hn1:=ass) (hm1:=by first|omega|rfl|assumption|decide) (hn2:=ass) (hm2:=by first|omega|rfl|assumption|decide) (hb:=by intro i;have h1:=hb1 i;have h2:=hb2 i;omega)) (.c (j:=1) rfl (.c (j:=2) rfl .n)) ?_)
    rintro ⟨p96,c97⟩ -
    dsimp only [aq,nq,cq]
    refine e_one 6 (zFa rfl rfl rfl rfl (.c rfl (.c rfl .n)) ce12 (zkb (p1:=p94) (n1:=(Po.add (Po.vals l1) (Po.vals l2)).length) (c1:=c95) (l1:=(Po.add (Po.vals l1) (Po.vals l2))) (p2:=p96) (n2:=(Po.add (Po.vals l1) (Po.vals l2)).length) (c2:=c97) (l2:=(Po.add (Po.vals l1) (Po.vals l2))) (hn1:=by rfl) (hm1:=om) (hn2:=by rfl) (hm2:=om) (hb1:=by exact Po.bd_mono (Po.bd_add hv1 hv2) dd) (hb2:=by exact Po.bd_mono (Po.bd_add hv1 hv2) dd)) (.c (j:=1) rfl (.c (j:=0) rfl .n)) ?_)
    rw [show (decide ((Po.add (Po.vals l1) (Po.vals l2))=(Po.add (Po.vals l1) (Po.vals l2))))=true from by exact decide_eq_true rfl]
    refine e_dm 7 rfl rfl rfl<|e_dm 8 rfl rfl rfl<|e_dm 9 rfl rfl rfl<|e_dm 11 rfl rfl rfl<|e_dm 12 rfl rfl rfl<|e_one 10 (zq rfl rfl rfl rfl (.c rfl (.c rfl .n)) ce15 (zie (p1:=p1) (n1:=n1) (c1:=c1) (l1:=l1) (p2:=p2) (n2:=n2) (c2:=c2) (l2:=l2) (hn1:=ass) (hm1:=by first|omega|rfl|assumption|decide) (hn2:=ass) (hm2:=by first|omega|rfl|assumption|decide) (hb:=by intro i;have h1:=hb1 i;have h2:=hb2 i;omega)) (.c (j:=2) rfl (.c (j:=3) rfl .n)) ?_)
    rintro ⟨p98,c99⟩ -
    dsimp only [aq,nq,cq]
    refine e_one 13 (zq rfl rfl rfl rfl (.c rfl (.c rfl .n)) ce16 (zCf (p1:=p1) (n1:=n1) (c1:=c1) (l1:=l1) (p2:=p2) (n2:=n2) (c2:=c2) (l2:=l2) (hn1:=ass) (hm1:=by first|omega|rfl|assumption|decide) (hn2:=ass) (hm2:=by first|omega|rfl|assumption|decide) (hb1:=by exact fun i=>Nat.le_trans (hb1 i) dd) (hb2:=by exact fun i=>Nat.le_trans (hb2 i) dd)) (.c (j:=3) rfl (.c (j:=4) rfl .n)) ?_)
    rintro ⟨p910,c911⟩ -
    dsimp only [aq,nq,cq]
    refine e_one 14 (zFa rfl rfl rfl rfl (.c rfl (.c rfl .n)) ce12 (zkb (p1:=p98) (n1:=(Po.sub (Po.vals l1) (Po.vals l2)).length) (c1:=c99) (l1:=(Po.sub (Po.vals l1) (Po.vals l2))) (p2:=p910) (n2:=(Po.sub (Po.vals l1) (Po.vals l2)).length) (c2:=c911) (l2:=(Po.sub (Po.vals l1) (Po.vals l2))) (hn1:=by rfl) (hm1:=om) (hn2:=by rfl) (hm2:=om) (hb1:=by exact Po.bd_mono (Po.bd_sub hv1 hv2) dd) (hb2:=by exact Po.bd_mono (Po.bd_sub hv1 hv2) dd)) (.c (j:=1) rfl (.c (j:=0) rfl .n)) ?_)
    rw [show (decide ((Po.sub (Po.vals l1) (Po.vals l2))=(Po.sub (Po.vals l1) (Po.vals l2))))=true from by exact decide_eq_true rfl]
    refine e_pv 15 rfl rfl (zL rfl rfl)<|e_dm 16 rfl rfl rfl<|e_dm 17 rfl rfl rfl<|e_dm 18 rfl rfl rfl<|e_dm 20 rfl rfl rfl<|e_dm 21 rfl rfl rfl<|e_one 19 (zq rfl rfl rfl rfl (.c rfl (.c rfl .n)) ce17 (zrc (p1:=p1) (n1:=n1) (c1:=c1) (l1:=l1) (p2:=p2) (n2:=n2) (c2:=c2) (l2:=l2) (hn1:=ass) (hm1:=by first|omega|rfl|assumption|decide) (hn2:=ass) (hm2:=by first|omega|rfl|assumption|decide) (hm12:=by first|omega|rfl|assumption|decide) (hb1:=by exact Po.bd_mono hv1 dd) (hb2:=by exact Po.bd_mono hv2 dd) (hs:=by exact fun k lo n _=>Po.cv_hq_of (K:=2) (L:=2) (N:=20) (Po.bd_cl hv1) (Po.bd_cl hv2) (by have:=Po.cl_le_len (Po.vals l1);omega) dd k lo n)) (.c (j:=4) rfl (.c (j:=5) rfl .n)) ?_)
    rintro ⟨p912,c913⟩ -
    dsimp only [aq,nq,cq]
    refine e_one 22 (zq rfl rfl rfl rfl (.c rfl (.c rfl .n)) ce18 (zBf (p1:=p1) (n1:=n1) (c1:=c1) (l1:=l1) (p2:=p2) (n2:=n2) (c2:=c2) (l2:=l2) (hn1:=ass) (hm1:=by first|omega|rfl|assumption|decide) (hn2:=ass) (hm2:=by first|omega|rfl|assumption|decide) (hm12:=by first|omega|rfl|assumption|decide) (hb1:=by exact fun i=>Nat.le_trans (hb1 i) dd) (hb2:=by exact fun i=>Nat.le_trans (hb2 i) dd) (hs:=by exact fun k lo n _=>Po.cv_hq_of (K:=2) (L:=2) (N:=20) hv1 hv2 om dd k lo n)) (.c (j:=5) rfl (.c (j:=6) rfl .n)) ?_)
    rintro ⟨p914,c915⟩ -
    dsimp only [aq,nq,cq]
    refine e_one 23 (zFa rfl rfl rfl rfl (.c rfl (.c rfl .n)) ce12 (zkb (p1:=p912) (n1:=(Po.mul (Po.vals l1) (Po.vals l2)).length) (c1:=c913) (l1:=(Po.mul (Po.vals l1) (Po.vals l2))) (p2:=p914) (n2:=(Po.mul (Po.vals l1) (Po.vals l2)).length) (c2:=c915) (l2:=(Po.mul (Po.vals l1) (Po.vals l2))) (hn1:=by rfl) (hm1:=om) (hn2:=by rfl) (hm2:=om) (hb1:=by exact Po.bd_mono (Po.bd_mul (N:=8) hv1 hv2 om) dd) (hb2:=by exact Po.bd_mono (Po.bd_mul (N:=8) hv1 hv2 om) dd)) (.c (j:=1) rfl (.c (j:=0) rfl .n)) ?_)
    rw [show (decide ((Po.mul (Po.vals l1) (Po.vals l2))=(Po.mul (Po.vals l1) (Po.vals l2))))=true from by exact decide_eq_true rfl]
    refine e_pv 24 rfl rfl (zL rfl rfl)<|e_dm 25 rfl rfl rfl<|e_dm 26 rfl rfl rfl<|e_u 27 rfl rfl (zd 0 ty28 rfl rfl (.t4 .nil))<|e_dm 29 rfl rfl rfl<|e_u 30 rfl rfl (zd 0 ty28 rfl rfl (.t4 .nil))<|e_one 28 (zq rfl rfl rfl rfl (.c rfl (.c rfl .n)) ce19 (zcc (p1:=p1) (n1:=n1) (c1:=c1) (l1:=l1) (u1:=u1) (v1:=v1) (x1:=x1) (hn1:=ass) (hm1:=by first|omega|rfl|assumption|decide) (hm9:=by first|omega|rfl|assumption|decide) (hb1:=by exact Po.bd_mono hv1 dd) (hb2:=by exact Po.bd_mono hb9 dd) (hs:=by exact fun k lo n h=>Nat.le_trans (Po.cv_one_hq (L:=2) (Po.bd_cl hv1) hqx k lo n h) dd)) (.c (j:=6) rfl (.c (j:=8) rfl .n)) ?_)
    rintro ⟨p916,c917⟩ -
    dsimp only [aq,nq,cq]
    refine e_one 31 (zq rfl rfl rfl rfl (.c rfl (.c rfl .n)) ce20 (zVc (p1:=p1) (n1:=n1) (c1:=c1) (l1:=l1) (u1:=u1) (v1:=v1) (x1:=x1) (hn1:=ass) (hm1:=by first|omega|rfl|assumption|decide) (hb:=by intro i;have h1:=hb1 i;omega)) (.c (j:=7) rfl (.c (j:=9) rfl .n)) ?_)
    rintro ⟨p918,c919⟩ -
    dsimp only [aq,nq,cq]
    refine e_one 32 (zFa rfl rfl rfl rfl (.c rfl (.c rfl .n)) ce12 (zkb (p1:=p916) (n1:=(Po.mul (Po.vals l1) (Po.vals [x1])).length) (c1:=c917) (l1:=(Po.mul (Po.vals l1) (Po.vals [x1]))) (p2:=p918) (n2:=(Po.scl (Po.vals l1) (x1.getD 0)).length) (c2:=c919) (l2:=(Po.scl (Po.vals l1) (x1.getD 0))) (hn1:=by rfl) (hm1:=om) (hn2:=by rfl) (hm2:=om) (hb1:=by exact Po.bd_mono (Po.bd_mul (N:=8) hv1 hb9 om) dd) (hb2:=by exact Po.bd_mono (Po.bd_scl hv1 hqx) dd)) (.c (j:=1) rfl (.c (j:=0) rfl .n)) ?_)
    rw [show (decide ((Po.mul (Po.vals l1) (Po.vals [x1]))=(Po.scl (Po.vals l1) (x1.getD 0))))=true from by exact decide_eq_true (Po.scl_mul _ _).symm]
    refine e_pv 33 rfl rfl (zL rfl rfl)<|e_pv 34 rfl rfl (zb rfl)<|zT kr ?_
    exact zta () (show True from by first|trivial|omega|simp_all) ((.c rfl .n):SubM _ _) (ho:=((.c (i:=0) rfl .n):PickO _ _ _)) ((.of [8,9,10] rfl):SelR _ _ _)
   ·
    rintro ⟨⟩ -
    try dsimp only [cw]
    refine zE ?_
    exact zw Tryz.results3 () trivial (zo rfl) rfl (ho:=(.n:PickO _ _ _)) (.n:SelR _ _ _)
end Go.Proofs.YtbiaimgafknkmaaGreat.Sp
namespace Go.Proofs.YtbiaimgafknkmaaGreat.Sp
open Go
set_option linter.unusedVariables false
def rRaw:Rp ((Bool×List Int)×(Bool×List Int)):=rP (rP rB (rS (rI .u32))) (rP rB (rS (rI .u32)))
theorem eF_of {g:Hp} {s t:Bool} {p1 p2:Option Addr} {c1 c2:Nat} {la lb:List Int} (ha:Sl (rI .u32) g p1 c1 la) (hb:Sl (rI .u32) g p2 c2 lb) (k1:la.length≤1099511627776) (k2:lb.length≤1099511627776):
    (eF ⟨s,p1,la.length,c1⟩ ⟨t,p2,lb.length,c2⟩ (qo ((s,la),(t,lb)))).on g:=⟨((s,la),(t,lb)),⟨rfl,rfl,k1,ha⟩,⟨rfl,rfl,k2,hb⟩,rfl⟩
theorem sl_raw {g:Hp} {p:Option Addr} {c:Nat} {l:List ((Bool×List Int)×(Bool×List Int))} (k:Sl rRaw g p c l) (hb:∀x,x∈l→x.1.2.length≤1099511627776∧x.2.2.length≤1099511627776):Sl rE g p c (l.map qo):=by
  refine ⟨by rw [List.length_map];exact k.1,k.2.1,k.2.2.1,fun i x e=> ?_⟩
  rw [List.getElem?_map] at e
  obtain ⟨x0,e0,rfl⟩:=Option.map_eq_some_iff.1 e
  obtain ⟨b,off,⟨⟨γ1,p1,c1⟩,⟨γ2,p2,c2⟩⟩,e1,e2,e3⟩:=k.2.2.2 i x0 e0
  obtain ⟨h1,h2⟩:=hb x0 (List.mem_of_getElem? e0)
  exact ⟨b,off,(⟨x0.1.1,p1,x0.1.2.length,c1⟩,⟨x0.2.1,p2,x0.2.2.length,c2⟩),e1,e2,eF_of e3.1.2 e3.2.2 h1 h2⟩
theorem mz_raw1 {x:(Bool×List Int)×(Bool×List Int)} {n:Nat} (h:(fun z:(Bool×List Int)×(Bool×List Int)=>(fun z:Bool×List Int=>(fun _:Bool=>1) z.1+mzL (fun _:Int=>1) z.2) z.1+(fun z:Bool×List Int=>(fun _:Bool=>1) z.1+mzL (fun _:Int=>1) z.2) z.2) x≤n):x.1.2.length≤n∧x.2.2.length≤n:=by
  have q1:=mzL_len (mz:=fun _:Int=>1) (l:=x.1.2) (fun _=>Nat.le_refl 1)
  have q2:=mzL_len (mz:=fun _:Int=>1) (l:=x.2.2) (fun _=>Nat.le_refl 1)
  simp only at h
  omega
theorem mz_raw {l:List ((Bool×List Int)×(Bool×List Int))} {n:Nat} (h:mzL (fun z:(Bool×List Int)×(Bool×List Int)=>(fun z:Bool×List Int=>(fun _:Bool=>1) z.1+mzL (fun _:Int=>1) z.2) z.1+(fun z:Bool×List Int=>(fun _:Bool=>1) z.1+mzL (fun _:Int=>1) z.2) z.2) l≤n) (hn:n≤1099511627776):∀x,x∈l→x.1.2.length≤1099511627776∧x.2.2.length≤1099511627776:=fun x hx=>by
  have:=mzL_mem (mz:=fun z:(Bool×List Int)×(Bool×List Int)=>(fun z:Bool×List Int=>(fun _:Bool=>1) z.1+mzL (fun _:Int=>1) z.2) z.1+(fun z:Bool×List Int=>(fun _:Bool=>1) z.1+mzL (fun _:Int=>1) z.2) z.2) hx
  exact mz_raw1 (Nat.le_trans (Nat.le_of_succ_le (Nat.le_trans this h)) hn)
end Go.Proofs.YtbiaimgafknkmaaGreat.Sp
