/- Lemmas on the walk and plain lemmas that the claim of this folder uses; each states its own conditions. Lines were printed by a program of ours. -/
import Derived.Test.YtahiajepeodhoaaGreatZ4D
set_option linter.unusedVariables false
set_option linter.unusedSimpArgs false
set_option linter.unusedSectionVars false
open Go.Proofs.Tryz renaming underlying57 → ya, underlying60 → yb, underlying62 → yc, prog → yd, underlying91 → ye, results105 → yh, underlying34 → yi
open Go.Proofs.YtahiajepeodhoaaGreat.Big renaming hq → yf, sgq_le → yg, sgq → yj
namespace Go.Proofs.YtahiajepeodhoaaGreat.Sp
open Go
set_option linter.unusedVariables false
set_option maxRecDepth 100000
set_option maxHeartbeats 8000000
theorem zbg {p:Option Addr} {n:Nat} {cap:Nat} {l:List Rat} {wt1:Wd} {wt2:Wd} {t:Rat} (hn:l.length=n) (hn1:1≤n) (hn9:n≤9) (hl:Cam.hqA 10000 l) (ht:yf t≤100):Con yd 106 [.slice p n cap,.agg #[wt1.b,wt1.l,wt2.b,wt2.l]] [] [slF rQ p cap l,qF true wt1 wt2 t] (Y:=(Option Addr)×Nat) (fun y=>True) (fun y=> .slice (y.1) n (y.2)) (fun y=>[]) (fun y=>[slF rQ (y.1) (y.2) (Cam.bern l t)]):=by
 refine zk Tryz.func106 rfl rfl rfl (fun c=> ?_)
 show RunC _ _ _ _ _ [(0,.slice p n cap),(1,.agg #[wt1.b,wt1.l,wt2.b,wt2.l])] [] [slF rQ p cap l,qF true wt1 wt2 t]
 refine zU 0 rfl (fun hL0=> ?_)
 have hTl:(Cam.tms l t).length=n:=(Po.gen_len _ _).trans hn
 have hTq:=Cam.tms_hq hl ht om
 refine ze<|za<|zE rfl rfl (zM rfl rfl) (fun b1=> ?_)
 refine e_p (zc rfl)<|zg<|zd<|ze<|za<|e_mv rfl<|e_p (zL yb rfl)<|e_p (zda (z:=(((n:Nat):Int) - 1)) rfl rfl (w64 om)) ?_
 have e2:((((n:Nat):Int) - 1):Int)=(((n - 1):Nat):Int):=by omega
 rw [e2]
 refine e_p (zc rfl)<|zg<|zd<|ze<|za<|e_mv rfl<|e_p (zL yb rfl)<|zva rfl rfl (zab (r:=rE) (k:=n) (x0:=none) (γ0:=(wz,wz)) ya inf32 rfl rfl rfl rfl om om rfl (fun g _=>eF_wz g) dd) (fun b3 _=> ?_)
 refine e_p (zc rfl)<|zg<|zd<|ze<|za<|zn rfl rfl (.c rfl .n) ce58 (zoa (z:=1) (hz:=by first|rfl|assumption|omega|decide)) (.n) ?_
 rintro ⟨w34,w45⟩ -
 dsimp only [aq,nq,cq]
 refine zE rfl rfl (zr zr32 rfl) (fun b6=> ?_)
 refine zi 0 rfl rfl rfl rfl rfl sz32 rfl (.t4 .nil) .z<|e_p (zc rfl)<|zg<|zd<|ze<|ze<|za<|e_mv rfl<|e_p (zL yb rfl)<|e_mv rfl<|zg<|zd<|zy<|zla (X:=Nat×(List (Option Rat))×Wd×Wd) (fun x:Nat×(List (Option Rat))×Wd×Wd=>x.1≤n∧x.2.1.length=n∧∀q,q<x.1→x.2.1.getD q none=some (Cam.tm l t q)) (fun x=>[(8,.int .i64 (((Cam.cho (n - 1) x.1):Nat):Int)),(25,.int .i64 ((x.1:Nat):Int)),(24,.int .i64 ((n:Nat):Int)),(23,.slice p n cap),(7,.pointer (some ⟨b6,0,none⟩)),(6,.slice (some ⟨b3,0,none⟩) n n),(5,.int .i64 (((n - 1):Nat):Int)),(4,.slice none 0 0),(3,.pointer (some ⟨b1,0,none⟩)),(0,.slice p n cap)]) (fun x=>[boxA b6 32 (cw [x.2.2.1,x.2.2.2]),rowA 32 rE (some ⟨b3,0,none⟩) n (x.2.1),boxA b1 32 (cw [wt1,wt2])]) (fun x=>[qF true x.2.2.1 x.2.2.2 (Cam.pwq t x.1),qF true w34 w45 ((1:Int):Rat),slF rQ p cap l,qF true wt1 wt2 t]) (fun x:Nat×(List (Option Rat))×Wd×Wd=>n - x.1) (0,List.replicate n none,w34,w45) (show 0≤n∧(List.replicate n none).length=n∧∀q,q<0→(List.replicate n none).getD q none=some (Cam.tm l t q) from by exact ⟨Nat.zero_le _,List.length_replicate,fun q hq=>by omega⟩) ((.e rfl (by rfl) (.e rfl cgs (.of rfl))):SubM _ _) (ho:=((.c (i:=0) rfl (.e (i:=0) rfl cgs (.c (i:=0) rfl .n))):PickO _ _ _)) ((.e (j:=0) rfl (by rfl) (.of [0,1,2] rfl)):SelR _ _ _) ?_
 rintro ⟨j,A,pa,pb⟩ hI
 replace hI:j≤n∧A.length=n∧∀q,q<j→A.getD q none=some (Cam.tm l t q):=hI
 try dsimp only [cw]
 obtain ⟨hj,hAl,hA⟩:=hI
 refine ze<|za<|e_p (zZ rfl rfl)<|zg<|zd<|ze<|zH rfl (fun h7=> ?_) (fun h7=> ?_)
 ·
  have hcm:Cam.cho (n - 1) j*(n - 1 - j)≤100*9:=Nat.mul_le_mul (Cam.cho_rng (n - 1) om j om).2 om
  have hcz:(0:Int)≤((Cam.cho (n - 1) j*(n - 1 - j) / (j+1):Nat):Int):=Int.natCast_nonneg _
  have hcd:Cam.cho (n - 1) j*(n - 1 - j) / (j+1)≤100:=Cam.cho_rng' (n - 1) om (j+1) om
  have hjn:j<n:=by omega
  have hj9:j*100≤900:=by omega
  refine zA<|zd<|ze<|zy<|ze<|za<|e_mv rfl<|r_vl rfl rfl (zua (x0:=(l.getD j (0:Rat))) 2 j rfl yb sz32 rfl (by first|rfl|assumption|omega|(simp;done)|exact (Po.gen_len _ _).trans hn) rfl rfl (gD (d:=(0:Rat)) om)) ?_
  rintro ⟨b8,o9,w10,w11⟩ -
  dsimp only [aq,nq,cq]
  refine zra open_rQ<|e_ru (zR (j:=0) 0 ty32 rfl rfl rfl (.t4 .nil))<|zE rfl rfl (zr zr32 rfl) (fun b12=> ?_)
  refine e_p (zc rfl)<|zi 0 rfl rfl rfl rfl rfl sz32 rfl (.t4 .nil) .z<|zg<|zd<|ze<|zpa (.c (i:=2) rfl (.c (i:=0) rfl (.c (i:=0) rfl (.c (i:=0) rfl .n))))<|zV (OW:=[rowA 32 rE (some ⟨b3,0,none⟩) n A]) (O:=[boxA b12 32 (cw [w10,w11]),boxA b6 32 (cw [pa,pb]),boxA b1 32 (cw [wt1,wt2])]) 9 mixed (.then (.block (.then (.then (.block (.then .ret)))))) kr<|e_dm 0 rfl rfl rfl<|e_dm 1 rfl rfl rfl<|e_uw 2 rfl rfl (zb 1 ty32 rfl rfl (.t4 .nil))<|e_uw 3 rfl rfl (zb 2 ty32 rfl rfl (.t4 .nil))<|e_dm 4 rfl rfl rfl<|e_one 5 (zm rfl rfl rfl rfl (.c rfl (.c rfl .n)) ce47 (zsb (z1:=1) (z2:=(((Cam.cho (n - 1) j):Nat):Int)) (hz1:=by first|rfl|assumption|omega|decide) (hz2:=by have h9:=(Cam.cho_rng (n - 1) om j om).2;omega) (hy:=by have h9:=(Cam.cho_rng (n - 1) om j om).1;omega)) (.n) ?_)
  rintro ⟨w313,w414⟩ -
  dsimp only [aq,nq,cq]
  refine e_one 6 (zJa rfl rfl rfl rfl (zt (r:=rQ) (k:=3) ya inf32 rfl dd dd dd (.c (x:=(l.getD j (0:Rat))) (cs:=[w10.b,w10.l,w11.b,w11.l]) (w10,w11) rfl rfl rfl (fun g hr=>Holds.get 2 rfl hr) (.c (x:=(Cam.pwq t j)) (cs:=[pa.b,pa.l,pb.b,pb.l]) (pa,pb) rfl rfl rfl (fun g hr=>Holds.get 3 rfl hr) (.c (x:=(Rat.divInt 1 (((Cam.cho (n - 1) j):Nat):Int))) (cs:=[w313.b,w313.l,w414.b,w414.l]) (w313,w414) rfl rfl rfl (fun g hr=>Holds.get 0 rfl hr) .n)))) (fun b15 _=> ?_))
  refine zja 0 rfl .z<|e_one 7 (zm rfl rfl rfl rfl (.c rfl .n) ce56 (zza (p:=some ⟨b15,0,none⟩) (n:=3) (cap:=3) (l:=[(l.getD j (0:Rat)),(Cam.pwq t j),(Rat.divInt 1 (((Cam.cho (n - 1) j):Nat):Int))]) (hn:=by first|rfl|assumption|omega|decide) (hn9:=by first|rfl|assumption|omega|decide) (hl:=by exact Cam.hqA_cons (by have h9:=hl j;omega) (Cam.hqA_cons (by have h9:=Cam.pwq_hq ht j;omega) (Cam.hqA_cons (by have h9:=Cam.cho_rng (n - 1) om j om;exact Nat.le_trans (Cam.chq h9.2 h9.1) dd) (Cam.hqA_nil dd)))) (hn1:=by first|rfl|assumption|omega|decide)) (.c (j:=0) rfl .n) ?_)
  rintro ⟨w316,w417⟩ -
  dsimp only [aq,nq,cq]
  refine e_pv 8 rfl rfl (zaa (j:=j) ya sz32 rfl rfl rfl om)<|e_one 9 (zId (A':=fun _=>rowA 32 rE (some ⟨b3,0,none⟩) n (A.set j (some (Cam.mulL ([(l.getD j (0:Rat)),(Cam.pwq t j),(Rat.divInt 1 (((Cam.cho (n - 1) j):Nat):Int))]))))) kr rfl rfl rfl (zT (r:=rE) (j:=j) (x0:=(some (Cam.mulL ([(l.getD j (0:Rat)),(Cam.pwq t j),(Rat.divInt 1 (((Cam.cho (n - 1) j):Nat):Int))])))) (γ0:=(w316,w417)) rfl rfl (by first|omega|(rw [List.length_map];omega)|(simp only [List.length_set];omega)|(simp;done)|(simp;omega)) rfl rfl sz32 (fun g hr=>qF_e (Holds.get 0 rfl hr))) (fun _ _=> ?_))
  refine zI kr<|zd<|ze<|za<|e_ru (zb 3 ty32 rfl rfl (.t4 .nil))<|e_ru (zb 4 ty32 rfl rfl (.t4 .nil))<|zva rfl rfl (zt (r:=rQ) (k:=2) ya inf32 rfl dd dd dd (.c (x:=(Cam.pwq t j)) (cs:=[pa.b,pa.l,pb.b,pb.l]) (pa,pb) rfl rfl rfl (fun g hr=>Holds.get 5 rfl hr) (.c (x:=t) (cs:=[wt1.b,wt1.l,wt2.b,wt2.l]) (wt1,wt2) rfl rfl rfl (fun g hr=>Holds.get 8 rfl hr) .n))) (fun b18 _=> ?_)
  refine zba 0 rfl .z<|zn rfl rfl (.c rfl .n) ce56 (zza (p:=some ⟨b18,0,none⟩) (n:=2) (cap:=2) (l:=[(Cam.pwq t j),t]) (hn:=by first|rfl|assumption|omega|decide) (hn9:=by first|rfl|assumption|omega|decide) (hl:=by exact Cam.hqA_cons (by have h9:=Cam.pwq_hq ht j;omega) (Cam.hqA_cons om (Cam.hqA_nil dd))) (hn1:=by first|rfl|assumption|omega|decide)) (.c (j:=0) rfl .n) ?_
  rintro ⟨w319,w420⟩ -
  dsimp only [aq,nq,cq]
  refine zi 4 rfl rfl rfl rfl rfl sz32 rfl (.t4 .nil) (.s (.s (.s (.s .z))))<|zg<|zd<|za<|e_mv rfl<|e_mv rfl<|e_mv rfl<|e_p (zda (z:=((((n - 1):Nat):Int) - ((j:Nat):Int))) rfl rfl (w64 om)) ?_
  have e21:(((((n - 1):Nat):Int) - ((j:Nat):Int)):Int)=(((n - 1 - j):Nat):Int):=by omega
  rw [e21]
  refine e_p (ztb (z:=((((Cam.cho (n - 1) j)*(n - 1 - j)):Nat):Int)) rfl rfl (w64 (by first|omega|exact ⟨(Int.natCast_mul _ _).symm,by omega,by omega⟩|exact (Int.natCast_ediv _ _).symm|exact ⟨rfl,by omega,by omega⟩|(refine ⟨?_,?_⟩ <;> omega)))) ?_
  refine e_mv rfl<|e_p (zN (z:=(((j+1):Nat):Int)) rfl rfl (w64 om))<|e_p (zdb (z:=(((((Cam.cho (n - 1) j)*(n - 1 - j)) / (j+1)):Nat):Int)) rfl rfl (by first|omega|exact ⟨(Int.natCast_mul _ _).symm,by omega,by omega⟩|exact (Int.natCast_ediv _ _).symm|exact ⟨rfl,by omega,by omega⟩|(refine ⟨?_,?_⟩ <;> omega)) (by rw [quoN (z:=(((((Cam.cho (n - 1) j)*(n - 1 - j)) / (j+1)):Nat):Int)) (by first|omega|exact ⟨(Int.natCast_mul _ _).symm,by omega,by omega⟩|exact (Int.natCast_ediv _ _).symm|exact ⟨rfl,by omega,by omega⟩|(refine ⟨?_,?_⟩ <;> omega)) (by first|omega|exact ⟨(Int.natCast_mul _ _).symm,by omega,by omega⟩|exact (Int.natCast_ediv _ _).symm|exact ⟨rfl,by omega,by omega⟩|(refine ⟨?_,?_⟩ <;> omega))];exact w64 (by first|omega|exact ⟨(Int.natCast_mul _ _).symm,by omega,by omega⟩|exact (Int.natCast_ediv _ _).symm|exact ⟨rfl,by omega,by omega⟩|(refine ⟨?_,?_⟩ <;> omega)))) ?_
  refine e_p (zc rfl)<|zg<|zQ<|zd<|za<|e_p (zN (z:=(((j+1):Nat):Int)) rfl rfl (w64 om))<|e_mv rfl<|zg<|zea ((j+1),(A.set j (some (Cam.mulL ([(l.getD j (0:Rat)),(Cam.pwq t j),(Rat.divInt 1 (((Cam.cho (n - 1) j):Nat):Int))])))),w319,w420) (show (j+1)≤n∧(A.set j (some (Cam.mulL ([(l.getD j (0:Rat)),(Cam.pwq t j),(Rat.divInt 1 (((Cam.cho (n - 1) j):Nat):Int))])))).length=n∧∀q,q<(j+1)→(A.set j (some (Cam.mulL ([(l.getD j (0:Rat)),(Cam.pwq t j),(Rat.divInt 1 (((Cam.cho (n - 1) j):Nat):Int))])))).getD q none=some (Cam.tm l t q) from by exact ⟨by omega,by rw [List.length_set];exact hAl,Po.set_step hA om (by rw [Cam.tm,hn])⟩) (by show n - (j+1)<n - j;omega) ((.e rfl (by rfl) (.of rfl)):SubM _ _) (ho:=((.of [4,1,3] rfl):PickO _ _ _)) ((.e (j:=0) rfl (by rfl) (.of [8,9,10] rfl)):SelR _ _ _)
 ·
  refine zha<|zj<|zj<|zx<|zd<|ze<|zlb 1 rfl (.s .z)<|zBb (slF rQ (some ⟨b3,0,none⟩) n (Cam.tms l t)) (zFg 0 rfl (by exact map_ext (by rw [hAl,hTl]) (fun q hq=>by rw [hA q om,Cam.tms_get om])))<|za<|e_mv rfl<|e_p (zL yb rfl)<|zva rfl rfl (zab (r:=rE) (k:=n) (x0:=none) (γ0:=(wz,wz)) ya inf32 rfl rfl rfl rfl om om rfl (fun g _=>eF_wz g) dd) (fun b22 _=> ?_)
  refine e_p (zc rfl)<|zg<|zd<|ze<|ze<|za<|e_mv rfl<|e_p (zL ya rfl)<|e_mv rfl<|zg<|zd<|zy<|zla (X:=Nat×(List (Option Rat))) (fun x:Nat×(List (Option Rat))=>x.1≤n∧x.2.length=n∧∀q,q<x.1→x.2.getD q none=some (Cam.bs (Cam.tms l t) q (q+1))) (fun x=>[(57,.int .i64 ((x.1:Nat):Int)),(56,.int .i64 ((n:Nat):Int)),(11,.slice (some ⟨b22,0,none⟩) n n),(6,.slice (some ⟨b3,0,none⟩) n n),(4,.slice none 0 0)]) (fun x=>[rowA 32 rE (some ⟨b22,0,none⟩) n (x.2),boxA b6 32 (cw [pa,pb]),boxA b1 32 (cw [wt1,wt2])]) (fun x=>[slF rQ (some ⟨b3,0,none⟩) n (Cam.tms l t),slF rE (some ⟨b3,0,none⟩) n A,qF true pa pb (Cam.pwq t j),qF true w34 w45 ((1:Int):Rat),slF rQ p cap l,qF true wt1 wt2 t]) (fun x:Nat×(List (Option Rat))=>n - x.1) (0,List.replicate n none) (show 0≤n∧(List.replicate n none).length=n∧∀q,q<0→(List.replicate n none).getD q none=some (Cam.bs (Cam.tms l t) q (q+1)) from by exact ⟨Nat.zero_le _,List.length_replicate,fun q hq=>by omega⟩) ((.e rfl cgs (.of rfl)):SubM _ _) (ho:=((.e (i:=0) rfl cgs (.of [0,1] rfl)):PickO _ _ _)) ((.of [0,1,2,3,4,5] rfl):SelR _ _ _) ?_
  rintro ⟨i,B⟩ hI
  replace hI:i≤n∧B.length=n∧∀q,q<i→B.getD q none=some (Cam.bs (Cam.tms l t) q (q+1)):=hI
  try dsimp only [cw]
  obtain ⟨hi,hBl,hB⟩:=hI
  refine ze<|za<|e_p (zZ rfl rfl)<|zg<|zd<|ze<|zH rfl (fun h23=> ?_) (fun h23=> ?_)
  ·
   refine zA<|zd<|ze<|zy<|ze<|za<|e_mv rfl<|e_p (zc rfl)<|zg<|zd<|ze<|za<|zn rfl rfl (.c rfl .n) ce58 (zoa (z:=0) (hz:=by first|rfl|assumption|omega|decide)) (.n) ?_
   rintro ⟨w324,w425⟩ -
   dsimp only [aq,nq,cq]
   refine zE rfl rfl (zr zr32 rfl) (fun b26=> ?_)
   refine zi 0 rfl rfl rfl rfl rfl sz32 rfl (.t4 .nil) .z<|e_p (zc rfl)<|zg<|zd<|ze<|ze<|za<|e_p (zc rfl)<|zg<|zd<|zy<|zla (X:=Nat×Wd×Wd) (fun x:Nat×Wd×Wd=>x.1≤i+1) (fun x=>[(14,.int .i64 (((Cam.cho i x.1):Nat):Int)),(15,.int .i64 ((x.1:Nat):Int)),(13,.pointer (some ⟨b26,0,none⟩)),(12,.int .i64 ((i:Nat):Int)),(57,.int .i64 ((i:Nat):Int)),(56,.int .i64 ((n:Nat):Int)),(11,.slice (some ⟨b22,0,none⟩) n n),(6,.slice (some ⟨b3,0,none⟩) n n),(4,.slice none 0 0)]) (fun x=>[boxA b26 32 (cw [x.2.1,x.2.2]),rowA 32 rE (some ⟨b22,0,none⟩) n B,boxA b6 32 (cw [pa,pb]),boxA b1 32 (cw [wt1,wt2])]) (fun x=>[qF true x.2.1 x.2.2 (Cam.bs (Cam.tms l t) i x.1),qF true w324 w425 ((0:Int):Rat),slF rQ (some ⟨b3,0,none⟩) n (Cam.tms l t),slF rE (some ⟨b3,0,none⟩) n A,qF true pa pb (Cam.pwq t j),qF true w34 w45 ((1:Int):Rat),slF rQ p cap l,qF true wt1 wt2 t]) (fun x:Nat×Wd×Wd=>i+1 - x.1) (0,w324,w425) (show 0≤i+1 from by exact Nat.zero_le _) ((.e rfl (by rfl) (.e rfl cgs (.of rfl))):SubM _ _) (ho:=((.of [0,0,0,0] rfl):PickO _ _ _)) ((.e (j:=0) rfl (by rfl) (.of [0,1,2,3,4,5,6] rfl)):SelR _ _ _) ?_
   rintro ⟨jj,sa,sb⟩ hJ
   replace hJ:jj≤i+1:=hJ
   try dsimp only [cw]
   refine ze<|ze<|za<|e_mv rfl<|e_mv rfl<|e_p (zxb rfl rfl)<|zg<|zd<|zH rfl (fun h27=> ?_) (fun h27=> ?_)
   ·
    have hji:jj≤i:=by omega
    have hcm:Cam.cho i jj*(i - jj)≤100*9:=Nat.mul_le_mul (Cam.cho_rng i om jj om).2 om
    have hcj:=(Cam.cho_rng i om jj om).2
    have hcz:(0:Int)≤((Cam.cho i jj*(i - jj) / (jj+1):Nat):Int):=Int.natCast_nonneg _
    have hcd:Cam.cho i jj*(i - jj) / (jj+1)≤100:=Cam.cho_rng' i om (jj+1) om
    have hj9:jj*11010≤99090:=by omega
    refine zA<|zd<|ze<|zy<|ze<|zV (OW:=[boxA b26 32 (cw [sa,sb])]) (O:=[rowA 32 rE (some ⟨b22,0,none⟩) n B,boxA b6 32 (cw [pa,pb]),boxA b1 32 (cw [wt1,wt2])]) 11 mixed (.then (.block (.then (.then (.block (.then (.block (.then (.then (.block (.then .ret))))))))))) kr<|e_uw 0 rfl rfl (zb 0 ty32 rfl rfl (.t4 .nil))<|e_dm 1 rfl rfl rfl<|e_dm 3 rfl rfl rfl<|e_dm 4 rfl rfl rfl<|d_vl 5 rfl rfl kr kr rfl rfl (zua (x0:=((Cam.tms l t).getD jj (0:Rat))) 2 jj rfl ya sz32 rfl (by first|rfl|assumption|omega|(simp;done)|exact (Po.gen_len _ _).trans hn) rfl rfl (gD (d:=(0:Rat)) om)) ?_
    rintro ⟨b28,o29,w30,w31⟩ -
    dsimp only [aq,nq,cq]
    refine zSa open_rQ<|e_u 6 rfl rfl (zR (j:=0) 0 ty32 rfl rfl rfl (.t4 .nil))<|e_one 2 (zm rfl rfl rfl rfl (.c rfl .n) ce58 (zoa (z:=(((Cam.cho i jj):Nat):Int)) (hz:=by first|rfl|assumption|omega|decide)) (.n) ?_)
    rintro ⟨w332,w433⟩ -
    dsimp only [aq,nq,cq]
    refine e_one 7 (zJa rfl rfl rfl rfl (zt (r:=rQ) (k:=2) ya inf32 rfl dd dd dd (.c (x:=(((((Cam.cho i jj):Nat):Int):Int):Rat)) (cs:=[w332.b,w332.l,w433.b,w433.l]) (w332,w433) rfl rfl rfl (fun g hr=>Holds.get 0 rfl hr) (.c (x:=((Cam.tms l t).getD jj (0:Rat))) (cs:=[w30.b,w30.l,w31.b,w31.l]) (w30,w31) rfl rfl rfl (fun g hr=>Holds.get 2 rfl hr) .n))) (fun b34 _=> ?_))
    refine zja 0 rfl .z<|e_one 8 (zm rfl rfl rfl rfl (.c rfl .n) ce56 (zza (p:=some ⟨b34,0,none⟩) (n:=2) (cap:=2) (l:=[(((((Cam.cho i jj):Nat):Int):Int):Rat),((Cam.tms l t).getD jj (0:Rat))]) (hn:=by first|rfl|assumption|omega|decide) (hn9:=by first|rfl|assumption|omega|decide) (hl:=by exact Cam.hqA_cons (Nat.le_trans (Cam.chi (Cam.cho_rng i om jj om).2) dd) (Cam.hqA_cons (by have h9:=hTq jj;omega) (Cam.hqA_nil dd))) (hn1:=by first|rfl|assumption|omega|decide)) (.c (j:=0) rfl .n) ?_)
    rintro ⟨w335,w436⟩ -
    dsimp only [aq,nq,cq]
    refine e_one 9 (zJa rfl rfl rfl rfl (zt (r:=rQ) (k:=2) ya inf32 rfl dd dd dd (.c (x:=(Cam.bs (Cam.tms l t) i jj)) (cs:=[sa.b,sa.l,sb.b,sb.l]) (sa,sb) rfl rfl rfl (fun g hr=>Holds.get 5 rfl hr) (.c (x:=(Cam.mulL ([(((((Cam.cho i jj):Nat):Int):Int):Rat),((Cam.tms l t).getD jj (0:Rat))]))) (cs:=[w335.b,w335.l,w436.b,w436.l]) (w335,w436) rfl rfl rfl (fun g hr=>Holds.get 0 rfl hr) .n))) (fun b37 _=> ?_))
    refine zja 0 rfl .z<|e_one 10 (zm rfl rfl rfl rfl (.c rfl .n) ce59 (zob (p:=some ⟨b37,0,none⟩) (n:=2) (cap:=2) (l:=[(Cam.bs (Cam.tms l t) i jj),(Cam.mulL ([(((((Cam.cho i jj):Nat):Int):Int):Rat),((Cam.tms l t).getD jj (0:Rat))]))]) (hn:=by first|rfl|assumption|omega|decide) (hn9:=by first|rfl|assumption|omega|decide) (hl:=by exact Cam.hqA_cons (by have h9:=Cam.bs_hq hTq (i:=i) om jj om;omega) (Cam.hqA_cons (by have h9:=Cam.m2_hq (Cam.chi (Cam.cho_rng i om jj om).2) (hTq jj);omega) (Cam.hqA_nil dd)))) (.c (j:=0) rfl .n) ?_)
    rintro ⟨w338,w439⟩ -
    dsimp only [aq,nq,cq]
    refine e_one 11 (zw kr rfl rfl rfl rfl rfl sz32 rfl (.t4 .nil) ?_)
    refine zI kr<|zd<|za<|e_mv rfl<|e_mv rfl<|e_mv rfl<|e_p (zda (z:=(((i:Nat):Int) - ((jj:Nat):Int))) rfl rfl (w64 om)) ?_
    have e40:((((i:Nat):Int) - ((jj:Nat):Int)):Int)=(((i - jj):Nat):Int):=by omega
    rw [e40]
    refine e_p (ztb (z:=((((Cam.cho i jj)*(i - jj)):Nat):Int)) rfl rfl (w64 (by first|omega|exact ⟨(Int.natCast_mul _ _).symm,by omega,by omega⟩|exact (Int.natCast_ediv _ _).symm|exact ⟨rfl,by omega,by omega⟩|(refine ⟨?_,?_⟩ <;> omega)))) ?_
    refine e_mv rfl<|e_p (zN (z:=(((jj+1):Nat):Int)) rfl rfl (w64 om))<|e_p (zdb (z:=(((((Cam.cho i jj)*(i - jj)) / (jj+1)):Nat):Int)) rfl rfl (by first|omega|exact ⟨(Int.natCast_mul _ _).symm,by omega,by omega⟩|exact (Int.natCast_ediv _ _).symm|exact ⟨rfl,by omega,by omega⟩|(refine ⟨?_,?_⟩ <;> omega)) (by rw [quoN (z:=(((((Cam.cho i jj)*(i - jj)) / (jj+1)):Nat):Int)) (by first|omega|exact ⟨(Int.natCast_mul _ _).symm,by omega,by omega⟩|exact (Int.natCast_ediv _ _).symm|exact ⟨rfl,by omega,by omega⟩|(refine ⟨?_,?_⟩ <;> omega)) (by first|omega|exact ⟨(Int.natCast_mul _ _).symm,by omega,by omega⟩|exact (Int.natCast_ediv _ _).symm|exact ⟨rfl,by omega,by omega⟩|(refine ⟨?_,?_⟩ <;> omega))];exact w64 (by first|omega|exact ⟨(Int.natCast_mul _ _).symm,by omega,by omega⟩|exact (Int.natCast_ediv _ _).symm|exact ⟨rfl,by omega,by omega⟩|(refine ⟨?_,?_⟩ <;> omega)))) ?_
    refine e_p (zc rfl)<|zg<|zQ<|zd<|za<|e_mv rfl<|e_p (zN (z:=(((jj+1):Nat):Int)) rfl rfl (w64 om))<|e_p (zc rfl)<|zg<|zea ((jj+1),w338,w439) (show (jj+1)≤i+1 from by show jj+1≤i+1;omega) (by show i+1 - (jj+1)<i+1 - jj;omega) ((.e rfl (by rfl) (.of rfl)):SubM _ _) (ho:=((.of [0,2,2,2] rfl):PickO _ _ _)) ((.e (j:=0) rfl (by rfl) (.of [8,9,10,11,12,13,14] rfl)):SelR _ _ _)
   ·
    refine zha<|zj<|zj<|zx<|zd<|za<|e_mv rfl<|e_mv rfl<|e_ru (zb 0 ty32 rfl rfl (.t4 .nil))<|e_p (zaa (j:=i) ya sz32 rfl rfl rfl om)<|zIa 1 rfl rfl rfl (zT (r:=rE) (j:=i) (x0:=(some (Cam.bs (Cam.tms l t) i jj))) (γ0:=(sa,sb)) rfl rfl (by first|omega|(rw [List.length_map];omega)|(simp only [List.length_set];omega)|(simp;done)|(simp;omega)) rfl rfl sz32 (fun g hr=>qF_e (Holds.get 0 rfl hr))) (fun _=>(.s .z)) (fun _ _=> ?_)
    refine zg<|zQ<|zd<|za<|e_p (zN (z:=(((i+1):Nat):Int)) rfl rfl (w64 om))<|e_mv rfl<|zg<|zea ((i+1),(B.set i (some (Cam.bs (Cam.tms l t) i jj)))) (show (i+1)≤n∧(B.set i (some (Cam.bs (Cam.tms l t) i jj))).length=n∧∀q,q<(i+1)→(B.set i (some (Cam.bs (Cam.tms l t) i jj))).getD q none=some (Cam.bs (Cam.tms l t) q (q+1)) from by exact ⟨by omega,by rw [List.length_set];exact hBl,Po.set_step hB om (by rw [show jj=i+1 by omega])⟩) (by show n - (i+1)<n - i;omega) (mR rfl) (ho:=((.of [1,1,1] rfl):PickO _ _ _)) ((.of [2,3,4,5,6,7] rfl):SelR _ _ _)
  ·
   refine zha<|zj<|zj<|zx<|zd<|ze<|za<|e_mv rfl<|e_p (zc rfl)<|zg<|zd<|zD<|zDb 0 rfl .z<|zjb (slF rQ (some ⟨b22,0,none⟩) n (Cam.bern l t)) (zFg 0 rfl (by exact map_ext (by rw [hBl,Cam.bern_len,hn]) (fun q hq=>by rw [Cam.bern_len] at hq;rw [hB q om,Cam.bern_get hq]))) ?_
   exact zv Tryz.results106 (some ⟨b22,0,none⟩,n) trivial (zo rfl) (by rfl) (ho:=oN) (s0 rfl)
end Go.Proofs.YtahiajepeodhoaaGreat.Sp
namespace Go.Proofs.YtahiajepeodhoaaGreat.Sp
open Go
set_option linter.unusedVariables false
set_option maxRecDepth 100000
set_option maxHeartbeats 8000000
theorem zFe {p:Option Addr} {n:Nat} {cap:Nat} {l:List Rat} {K:Nat} {d:Nat} (hn:l.length=n) (hn1:1≤n) (hn9:n≤9) (hc:Po.cb K l) (hK:K+10*d+20≤100000000) (ih:∀(d2:Nat) (hd2:d2<d) (p:Option Addr) (n cap:Nat) (l:List Rat) (K:Nat) (hn:l.length=n) (hn1:1≤n) (hn9:n≤9) (hc:Po.cb K l) (hK:K+10*d2+20≤100000000),Con yd 105 [.slice p n cap,.int .i64 ((d2:Nat):Int)] [] [slF rQ p cap l] (Y:=Unit) (fun y=>True) (fun y=> .int .i64 (Cam.sure d2 l)) (fun y=>[]) (fun y=>[])):Con yd 105 [.slice p n cap,.int .i64 ((d:Nat):Int)] [] [slF rQ p cap l] (Y:=Unit) (fun y=>True) (fun y=> .int .i64 (Cam.sure d l)) (fun y=>[]) (fun y=>[]):=by
 refine zk Tryz.func105 rfl rfl rfl (fun c=> ?_)
 show RunC _ _ _ _ _ [(0,.slice p n cap),(1,.int .i64 ((d:Nat):Int))] [] [slF rQ p cap l]
 refine zU 0 rfl (fun hL0=> ?_)
 have hlq:∀i,yf (l.getD i 0)≤100000000:=fun i=>Nat.le_trans (Po.cb_bd hc i) om
 refine ze<|za<|e_p (zc rfl)<|zg<|zd<|ze<|zQa (X:=Unit) (fun x=>True) (fun x=>[(25,.bool (decide (Cam.ends l))),(4,.int .i64 0),(0,.slice p n cap),(1,.int .i64 ((d:Nat):Int))]) (fun x=>[]) (fun x=>[slF rQ p cap l]) ?_ ?_
 ·
  refine za<|e_mv rfl<|r_vl rfl rfl (zua (x0:=(l.getD 0 (0:Rat))) 0 0 rfl ya sz32 rfl (by first|rfl|assumption|omega|(simp;done)|exact Cam.lfA_len _ _|exact (Cam.rsA_len _ _).trans hn|exact (Cam.hin_len _ _).trans ((Cam.rsA_len _ _).trans hn)|exact Cam.rsA_len _ _|exact (Cam.hin_len _ _).trans (Cam.rsA_len _ _)) rfl rfl (gD (d:=(0:Rat)) om)) ?_
  rintro ⟨b1,o2,w3,w4⟩ -
  dsimp only [aq,nq,cq]
  refine zra open_rQ<|e_ru (zR (j:=0) 0 ty32 rfl rfl rfl (.t4 .nil))<|zK rfl rfl (.c rfl .n) ce98 (zJb (k1:=true) (u1:=w3) (v1:=w4) (q1:=(l.getD 0 (0:Rat)))) (.c (j:=1) rfl .n)<|e_p (zxb rfl rfl)<|zia rfl rfl (zfa rfl) (fun g16=> ?_) (fun g16=> ?_)
  ·
   refine e_no<|e_no<|e_no<|e_no<|e_no<|e_no<|e_no<|e_no<|e_p (zC rfl rfl)<|zg ?_
   exact zS () tt9 ((.e rfl (congrArg Value.bool (by first|(exact (decide_eq_true (by first|exact .inl (yg.1 g16)|exact .inl (yg.1 om))).symm)|exact decide_eq_decide.2 (by unfold Cam.ends;rw [yg,hn];have h9:¬l.getD 0 0≤0:=(fun k=>absurd (yg.2 k) om);exact ⟨fun k=> .inr k,fun k=>k.elim (fun z=>absurd z h9) id⟩))) (.of rfl)):SubM _ _) (ho:=oN) ((.c (j:=2) rfl .n):SelR _ _ _)
  ·
   refine e_mv rfl<|e_mv rfl<|e_p (zL ya rfl)<|e_p (zda (z:=(((n:Nat):Int) - 1)) rfl rfl (w64 om)) ?_
   have e5:((((n:Nat):Int) - 1):Int)=(((n - 1):Nat):Int):=by omega
   rw [e5]
   refine r_vl rfl rfl (zua (x0:=(l.getD (n - 1) (0:Rat))) 2 (n - 1) rfl ya sz32 rfl (by first|rfl|assumption|omega|(simp;done)|exact Cam.lfA_len _ _|exact (Cam.rsA_len _ _).trans hn|exact (Cam.hin_len _ _).trans ((Cam.rsA_len _ _).trans hn)|exact Cam.rsA_len _ _|exact (Cam.hin_len _ _).trans (Cam.rsA_len _ _)) rfl rfl (gD (d:=(0:Rat)) om)) ?_
   rintro ⟨b6,o7,w8,w9⟩ -
   dsimp only [aq,nq,cq]
   refine zra open_rQ<|e_ru (zR (j:=0) 0 ty32 rfl rfl rfl (.t4 .nil))<|zK rfl rfl (.c rfl .n) ce98 (zJb (k1:=true) (u1:=w8) (v1:=w9) (q1:=(l.getD (n - 1) (0:Rat)))) (.c (j:=1) rfl .n)<|e_p (zxb rfl rfl)<|e_p (zC rfl rfl)<|zg ?_
   exact zS () tt9 ((.e rfl (congrArg Value.bool (by first|(exact (decide_eq_true (by first|exact .inl (yg.1 g16)|exact .inl (yg.1 om))).symm)|exact decide_eq_decide.2 (by unfold Cam.ends;rw [yg,hn];have h9:¬l.getD 0 0≤0:=(fun k=>absurd (yg.2 k) om);exact ⟨fun k=> .inr k,fun k=>k.elim (fun z=>absurd z h9) id⟩))) (.of rfl)):SubM _ _) (ho:=oN) ((.c (j:=4) rfl .n):SelR _ _ _)
 ·
  rintro ⟨⟩ -
  try dsimp only
  refine zH rfl (fun h25=> ?_) (fun h25=> ?_)
  ·
   refine ze<|za<|e_p (zc rfl)<|zg<|zd<|zD<|zl ?_
   exact zv yh () trivial (zo rfl) (by rw [Cam.sure_ends h25]) (ho:=oN) sN
  ·
   refine zA<|zd<|ze<|ze<|za<|e_mv rfl<|zK rfl rfl (.c rfl (.c rfl .n)) ce127 (zvg (p:=p) (n:=n) (cap:=cap) (l:=l) (hn:=ass) (hn9:=by first|rfl|assumption|omega|exact hlq _) (hl:=by first|rfl|assumption|omega|exact hlq _)) (.c (j:=0) rfl .n)<|e_p (zeb rfl)<|zg<|zd<|zZa rfl (fun h28=> ?_) (fun h28=> ?_)
   ·
    refine ze<|za<|e_p (zc rfl)<|zg<|zd<|zD<|zl ?_
    exact zv yh () trivial (zo rfl) (by rw [Cam.sure_clear h25 (by simpa using h28)]) (ho:=oN) sN
   ·
    refine zA<|zd<|ze<|ze<|za<|e_mv rfl<|e_p (zqa rfl rfl)<|zg<|zd<|zH rfl (fun h30=> ?_) (fun h30=> ?_)
    ·
     refine ze<|za<|e_p (zc rfl)<|zg<|zd<|zD<|zl ?_
     exact zv yh () trivial (zo rfl) (by rw [show d=0 by omega,Cam.sure_0 h25 (by simpa using h28)]) (ho:=oN) sN
    ·
     obtain ⟨d1,rfl⟩:∃d1,d=d1+1:=⟨d - 1,by omega⟩
     refine zA<|zd<|ze<|za<|e_mv rfl<|zn rfl rfl (.c rfl .n) ce129 (zag (p:=p) (n:=n) (cap:=cap) (l:=l) (hn:=ass) (hb:=by first|rfl|assumption|omega|exact hlq _)) (.c (j:=0) rfl .n) ?_
     rintro ⟨p210,c211⟩ -
     dsimp only [aq,nq,cq]
     refine e_p (zc rfl)<|zg<|zd<|ze<|za<|e_p (zc rfl)<|zg<|zd<|ze<|ze<|zJd 32 rQ<|za<|e_mv rfl<|e_p (zL ya rfl)<|e_p (zc rfl)<|zg<|zd<|zy<|zla (X:=Nat×(Option Addr)×Nat) (fun x:Nat×(Option Addr)×Nat=>x.1≤n) (fun x=>[(6,.slice (x.2.1) (x.1) (x.2.2)),(7,.int .i64 (((n - x.1):Nat):Int)),(5,.slice p210 (l.length) c211),(4,.int .i64 0),(1,.int .i64 (((d1+1):Nat):Int))]) (fun x=>[rowA 32 rQ (x.2.1) (x.2.2) (Cam.lfA l x.1),rowA 32 rQ p210 c211 (Cam.rsA l x.1)]) (fun x=>[slF rQ p cap l]) (fun x:Nat×(Option Addr)×Nat=>n - x.1) (0,none,0) (show 0≤n from by exact Nat.zero_le _) ((.e rfl (by rfl) (.e rfl (by rw [hn];rfl) (.of rfl))):SubM _ _) (ho:=((.e (i:=0) rfl (by rfl) (.e (i:=0) rfl (by rfl) .n)):PickO _ _ _)) (s0 rfl) ?_
     rintro ⟨jj,pR,cR⟩ hI
     replace hI:jj≤n:=hI
     try dsimp only
     have hRl:(Cam.rsA l jj).length=l.length:=Cam.rsA_len _ _
     refine ze<|ze<|za<|e_mv rfl<|e_p (zFa rfl rfl)<|zg<|zd<|zH rfl (fun h36=> ?_) (fun h36=> ?_)
     ·
      refine zA<|zd<|ze<|zy<|ze<|za<|e_mv rfl<|e_mv rfl<|e_ru (zma 1 0 rfl ya sz32 rfl (by first|rfl|assumption|omega|(simp;done)|exact Cam.lfA_len _ _|exact (Cam.rsA_len _ _).trans hn|exact (Cam.hin_len _ _).trans ((Cam.rsA_len _ _).trans hn)|exact Cam.rsA_len _ _|exact (Cam.hin_len _ _).trans (Cam.rsA_len _ _)) rfl rfl om)<|r_vl rfl rfl (zkb (x0:=((Cam.rsA l jj).getD 0 (0:Rat))) 1 0 rfl ty32 rfl rfl (gD (d:=(0:Rat)) om)) ?_
      rintro ⟨w13,w14⟩ -
      dsimp only [aq,nq,cq]
      refine zra open1_rQ<|zva rfl rfl (zt (r:=rQ) (k:=1) ya inf32 rfl dd dd dd (.c (x:=((Cam.rsA l jj).getD 0 (0:Rat))) (cs:=[w13.b,w13.l,w14.b,w14.l]) (w13,w14) rfl rfl rfl (fun g hr=>Holds.get 0 rfl hr) .n)) (fun b15 _=> ?_)
      refine zba 0 rfl .z<|zIa 1 rfl rfl rfl (zsa 0 rfl ya inf32 dd rfl rfl (by first|rfl|assumption|omega|(simp;done)|exact Cam.lfA_len _ _|exact (Cam.rsA_len _ _).trans hn|exact (Cam.hin_len _ _).trans ((Cam.rsA_len _ _).trans hn)|exact Cam.rsA_len _ _|exact (Cam.hin_len _ _).trans (Cam.rsA_len _ _)) rfl (by first|rfl|assumption|omega|(simp;done)|exact Cam.lfA_len _ _|exact (Cam.rsA_len _ _).trans hn|exact (Cam.hin_len _ _).trans ((Cam.rsA_len _ _).trans hn)|exact Cam.rsA_len _ _|exact (Cam.hin_len _ _).trans (Cam.rsA_len _ _)) om om) (fun _=>(.s .z)) ?_
      rintro ⟨p16,c17⟩ -
      dsimp only [aq,nq,cq]
      refine e_p (zc rfl)<|zg<|zd<|ze<|za<|e_mv rfl<|e_p (zda (z:=((((n - jj):Nat):Int) - 1)) rfl rfl (w64 om)) ?_
      have e18:(((((n - jj):Nat):Int) - 1):Int)=(((n - jj - 1):Nat):Int):=by omega
      rw [e18]
      refine e_mv rfl<|zg<|zd<|zy<|zla (X:=Nat) (fun x:Nat=>x≤n - jj - 1) (fun x=>[(47,.int .i64 ((x:Nat):Int)),(46,.int .i64 (((n - jj - 1):Nat):Int)),(6,.slice p16 (jj+1) c17),(7,.int .i64 (((n - jj):Nat):Int)),(5,.slice p210 (l.length) c211),(4,.int .i64 0),(1,.int .i64 (((d1+1):Nat):Int))]) (fun x=>[rowA 32 rQ p16 c17 ((Cam.lfA l jj)++([((Cam.rsA l jj).getD 0 (0:Rat))])),rowA 32 rQ p210 c211 (Cam.hin (Cam.rsA l jj) x)]) (fun x=>[slF rQ (some ⟨b15,0,none⟩) 1 ([((Cam.rsA l jj).getD 0 (0:Rat))]),qF true w13 w14 ((Cam.rsA l jj).getD 0 (0:Rat)),slF rQ p cap l]) (fun x:Nat=>n - jj - 1 - x) 0 (show 0≤n - jj - 1 from by exact Nat.zero_le _) ((.e rfl cgs (.of rfl)):SubM _ _) (ho:=((.c (i:=1) rfl (.e (i:=1) rfl (by rfl) .n)):PickO _ _ _)) ((.of [0,1,2] rfl):SelR _ _ _) ?_
      rintro i hJ
      replace hJ:i≤n - jj - 1:=hJ
      try dsimp only
      have hHl:(Cam.hin (Cam.rsA l jj) i).length=l.length:=(Cam.hin_len _ _).trans hRl
      refine ze<|za<|e_p (zZ rfl rfl)<|zg<|zd<|ze<|zH rfl (fun h48=> ?_) (fun h48=> ?_)
      ·
       have hrq:=Cam.rin_hq hc jj (i:=i) om
       refine zA<|zd<|ze<|zy<|ze<|za<|e_mv rfl<|e_p (zc rfl)<|zg<|zd<|zpa (.c (i:=1) rfl (.c (i:=0) rfl .n))<|zV (OW:=[rowA 32 rQ p210 c211 (Cam.hin (Cam.rsA l jj) i)]) (O:=[rowA 32 rQ p16 c17 ((Cam.lfA l jj)++([((Cam.rsA l jj).getD 0 (0:Rat))]))]) 17 mixed (.block (.then (.then (.block (.block (.then (.then (.block (.then .ret))))))))) kr<|e_dm 0 rfl rfl rfl<|e_dm 1 rfl rfl rfl<|e_dm 3 rfl rfl rfl<|e_dm 4 rfl rfl rfl<|e_uw 5 rfl rfl (zma 0 i rfl ya sz32 rfl (by first|rfl|assumption|omega|(simp;done)|exact Cam.lfA_len _ _|exact (Cam.rsA_len _ _).trans hn|exact (Cam.hin_len _ _).trans ((Cam.rsA_len _ _).trans hn)|exact Cam.rsA_len _ _|exact (Cam.hin_len _ _).trans (Cam.rsA_len _ _)) rfl rfl om)<|zJg 6 rfl rfl kr kr kr rfl rfl (zkb (x0:=((Cam.hin (Cam.rsA l jj) i).getD i (0:Rat))) 0 i rfl ty32 rfl rfl (gD (d:=(0:Rat)) om)) ?_
       rintro ⟨w20,w21⟩ -
       dsimp only [aq,nq,cq]
       refine zSa open1_rQ<|e_dm 7 rfl rfl rfl<|e_dm 8 rfl rfl rfl<|e_pv 9 rfl rfl (zN (z:=(((i+1):Nat):Int)) rfl rfl (w64 om))<|e_uw 10 rfl rfl (zma 0 (i+1) rfl ya sz32 rfl (by first|rfl|assumption|omega|(simp;done)|exact Cam.lfA_len _ _|exact (Cam.rsA_len _ _).trans hn|exact (Cam.hin_len _ _).trans ((Cam.rsA_len _ _).trans hn)|exact Cam.rsA_len _ _|exact (Cam.hin_len _ _).trans (Cam.rsA_len _ _)) rfl rfl om)<|zJg 11 rfl rfl kr kr kr rfl rfl (zkb (x0:=((Cam.hin (Cam.rsA l jj) i).getD (i+1) (0:Rat))) 0 (i+1) rfl ty32 rfl rfl (gD (d:=(0:Rat)) om)) ?_
       rintro ⟨w23,w24⟩ -
       dsimp only [aq,nq,cq]
       refine zSa open1_rQ<|zW (m':=[(61,.agg (cw [w23,w24]).toArray),(56,.agg (cw [w20,w21]).toArray),(51,.int .i64 ((i:Nat):Int)),(50,.slice p210 (l.length) c211),(47,.int .i64 ((i:Nat):Int)),(46,.int .i64 (((n - jj - 1):Nat):Int)),(6,.slice p16 (jj+1) c17),(7,.int .i64 (((n - jj):Nat):Int)),(5,.slice p210 (l.length) c211),(4,.int .i64 0),(1,.int .i64 (((d1+1):Nat):Int))]) (R':=[qF true w23 w24 ((Cam.hin (Cam.rsA l jj) i).getD (i+1) (0:Rat)),qF true w20 w21 ((Cam.hin (Cam.rsA l jj) i).getD i (0:Rat)),slF rQ (some ⟨b15,0,none⟩) 1 ([((Cam.rsA l jj).getD 0 (0:Rat))]),qF true w13 w14 ((Cam.rsA l jj).getD 0 (0:Rat)),slF rQ p cap l]) (mR rfl) (List.Perm.refl _) (List.Perm.refl _) ((.of [0,1,2,3,4] rfl):SelR _ _ _)<|zta (X:=Wd×Wd×Nat×Wd×Wd×Nat×Wd×Wd) (k':=0) (L':=(lb 18 262143)) (fun (u2_1,u2_2,u12_1,u13_1,u13_2,u14_1,u15_1,u15_2)=>([(47,.int .i64 ((i:Nat):Int)),(46,.int .i64 (((n - jj - 1):Nat):Int)),(6,.slice p16 (jj+1) c17),(7,.int .i64 (((n - jj):Nat):Int)),(5,.slice p210 (l.length) c211),(4,.int .i64 0),(1,.int .i64 (((d1+1):Nat):Int))],[rowA 32 rQ p210 c211 ((Cam.hin (Cam.rsA l jj) i).set i (Cam.mulL ([(Rat.divInt 1 2),(Cam.sumL ([((Cam.hin (Cam.rsA l jj) i).getD i (0:Rat)),((Cam.hin (Cam.rsA l jj) i).getD (i+1) (0:Rat))]))])))],[emA,emA,rowA 32 rQ p16 c17 ((Cam.lfA l jj)++([((Cam.rsA l jj).getD 0 (0:Rat))]))],[qF true u15_1 u15_2 (Cam.mulL ([(Rat.divInt 1 2),(Cam.sumL ([((Cam.hin (Cam.rsA l jj) i).getD i (0:Rat)),((Cam.hin (Cam.rsA l jj) i).getD (i+1) (0:Rat))]))])),slF rQ (some ⟨u14_1,0,none⟩) 2 ([(Rat.divInt 1 2),(Cam.sumL ([((Cam.hin (Cam.rsA l jj) i).getD i (0:Rat)),((Cam.hin (Cam.rsA l jj) i).getD (i+1) (0:Rat))]))]),qF true u13_1 u13_2 (Cam.sumL ([((Cam.hin (Cam.rsA l jj) i).getD i (0:Rat)),((Cam.hin (Cam.rsA l jj) i).getD (i+1) (0:Rat))])),slF rQ (some ⟨u12_1,0,none⟩) 2 ([((Cam.hin (Cam.rsA l jj) i).getD i (0:Rat)),((Cam.hin (Cam.rsA l jj) i).getD (i+1) (0:Rat))]),qF true u2_1 u2_2 (Rat.divInt 1 2),qF true w23 w24 ((Cam.hin (Cam.rsA l jj) i).getD (i+1) (0:Rat)),qF true w20 w21 ((Cam.hin (Cam.rsA l jj) i).getD i (0:Rat)),slF rQ (some ⟨b15,0,none⟩) 1 ([((Cam.rsA l jj).getD 0 (0:Rat))]),qF true w13 w14 ((Cam.rsA l jj).getD 0 (0:Rat)),slF rQ p cap l])) ?_ (fun hD0=> ?_)
       ·
        rintro ⟨u2_1,u2_2,u12_1,u13_1,u13_2,u14_1,u15_1,u15_2⟩
        dsimp only
        refine zI kr<|zQ<|zd<|za<|e_p (zN (z:=(((i+1):Nat):Int)) rfl rfl (w64 om))<|e_mv rfl<|zg<|zea (i+1) (show (i+1)≤n - jj - 1 from by show i+1≤n - jj - 1;omega) (by show n - jj - 1 - (i+1)<n - jj - 1 - i;omega) (mR rfl) (ho:=((.c (i:=3) rfl (.e (i:=0) rfl (by rfl) .n)):PickO _ _ _)) ((.of [7,8,9] rfl):SelR _ _ _)
       refine zta (X:=Wd×Wd×Nat×Wd×Wd×Nat×Wd×Wd) (k':=1) (L':=(lb 18 131071)) (fun (u2_1,u2_2,u12_1,u13_1,u13_2,u14_1,u15_1,u15_2)=>([(66,rowPtr p210 (i*4)),(65,.agg (cw [u15_1,u15_2]).toArray),(47,.int .i64 ((i:Nat):Int)),(46,.int .i64 (((n - jj - 1):Nat):Int)),(6,.slice p16 (jj+1) c17),(7,.int .i64 (((n - jj):Nat):Int)),(5,.slice p210 (l.length) c211),(4,.int .i64 0),(1,.int .i64 (((d1+1):Nat):Int))],[rowA 32 rQ p210 c211 (Cam.hin (Cam.rsA l jj) i)],[emA,emA,rowA 32 rQ p16 c17 ((Cam.lfA l jj)++([((Cam.rsA l jj).getD 0 (0:Rat))]))],[qF true u15_1 u15_2 (Cam.mulL ([(Rat.divInt 1 2),(Cam.sumL ([((Cam.hin (Cam.rsA l jj) i).getD i (0:Rat)),((Cam.hin (Cam.rsA l jj) i).getD (i+1) (0:Rat))]))])),slF rQ (some ⟨u14_1,0,none⟩) 2 ([(Rat.divInt 1 2),(Cam.sumL ([((Cam.hin (Cam.rsA l jj) i).getD i (0:Rat)),((Cam.hin (Cam.rsA l jj) i).getD (i+1) (0:Rat))]))]),qF true u13_1 u13_2 (Cam.sumL ([((Cam.hin (Cam.rsA l jj) i).getD i (0:Rat)),((Cam.hin (Cam.rsA l jj) i).getD (i+1) (0:Rat))])),slF rQ (some ⟨u12_1,0,none⟩) 2 ([((Cam.hin (Cam.rsA l jj) i).getD i (0:Rat)),((Cam.hin (Cam.rsA l jj) i).getD (i+1) (0:Rat))]),qF true u2_1 u2_2 (Rat.divInt 1 2),qF true w23 w24 ((Cam.hin (Cam.rsA l jj) i).getD (i+1) (0:Rat)),qF true w20 w21 ((Cam.hin (Cam.rsA l jj) i).getD i (0:Rat)),slF rQ (some ⟨b15,0,none⟩) 1 ([((Cam.rsA l jj).getD 0 (0:Rat))]),qF true w13 w14 ((Cam.rsA l jj).getD 0 (0:Rat)),slF rQ p cap l])) ?_ (fun hD1=> ?_)
       ·
        rintro ⟨u2_1,u2_2,u12_1,u13_1,u13_2,u14_1,u15_1,u15_2⟩
        dsimp only [cw]
        refine zcb 17 kr ?_
        ·
         refine zId (A':=fun _=>rowA 32 rQ p210 c211 ((Cam.hin (Cam.rsA l jj) i).set i (Cam.mulL ([(Rat.divInt 1 2),(Cam.sumL ([((Cam.hin (Cam.rsA l jj) i).getD i (0:Rat)),((Cam.hin (Cam.rsA l jj) i).getD (i+1) (0:Rat))]))])))) kr rfl rfl rfl (zT (r:=rQ) (j:=i) (x0:=(Cam.mulL ([(Rat.divInt 1 2),(Cam.sumL ([((Cam.hin (Cam.rsA l jj) i).getD i (0:Rat)),((Cam.hin (Cam.rsA l jj) i).getD (i+1) (0:Rat))]))]))) (γ0:=(u15_1,u15_2)) rfl rfl (by first|omega|(rw [List.length_map];omega)|(simp only [List.length_set];omega)|(simp;done)|(simp;omega)) rfl rfl sz32 (fun g hr=>Holds.get 0 rfl hr)) (fun _ _=> ?_)
         exact zX (hD0 (u2_1,u2_2,u12_1,u13_1,u13_2,u14_1,u15_1,u15_2)) kr (mR rfl) .rfl .rfl ((.of [0,1,2,3,4,5,6,7,8,9] rfl):SelR _ _ _)
       refine zta (X:=Wd×Wd×Nat×Wd×Wd×Nat) (k':=3) (L':=(lb 18 32767)) (fun (u2_1,u2_2,u12_1,u13_1,u13_2,u14_1)=>([(64,.slice (some ⟨u14_1,0,none⟩) 2 2),(51,.int .i64 ((i:Nat):Int)),(50,.slice p210 (l.length) c211),(47,.int .i64 ((i:Nat):Int)),(46,.int .i64 (((n - jj - 1):Nat):Int)),(6,.slice p16 (jj+1) c17),(7,.int .i64 (((n - jj):Nat):Int)),(5,.slice p210 (l.length) c211),(4,.int .i64 0),(1,.int .i64 (((d1+1):Nat):Int))],[rowA 32 rQ p210 c211 (Cam.hin (Cam.rsA l jj) i)],[emA,emA,rowA 32 rQ p16 c17 ((Cam.lfA l jj)++([((Cam.rsA l jj).getD 0 (0:Rat))]))],[slF rQ (some ⟨u14_1,0,none⟩) 2 ([(Rat.divInt 1 2),(Cam.sumL ([((Cam.hin (Cam.rsA l jj) i).getD i (0:Rat)),((Cam.hin (Cam.rsA l jj) i).getD (i+1) (0:Rat))]))]),qF true u13_1 u13_2 (Cam.sumL ([((Cam.hin (Cam.rsA l jj) i).getD i (0:Rat)),((Cam.hin (Cam.rsA l jj) i).getD (i+1) (0:Rat))])),slF rQ (some ⟨u12_1,0,none⟩) 2 ([((Cam.hin (Cam.rsA l jj) i).getD i (0:Rat)),((Cam.hin (Cam.rsA l jj) i).getD (i+1) (0:Rat))]),qF true u2_1 u2_2 (Rat.divInt 1 2),qF true w23 w24 ((Cam.hin (Cam.rsA l jj) i).getD (i+1) (0:Rat)),qF true w20 w21 ((Cam.hin (Cam.rsA l jj) i).getD i (0:Rat)),slF rQ (some ⟨b15,0,none⟩) 1 ([((Cam.rsA l jj).getD 0 (0:Rat))]),qF true w13 w14 ((Cam.rsA l jj).getD 0 (0:Rat)),slF rQ p cap l])) ?_ (fun hD2=> ?_)
       ·
        rintro ⟨u2_1,u2_2,u12_1,u13_1,u13_2,u14_1⟩
        dsimp only
        refine zcb 15 kr ?_
        ·
         refine zm rfl rfl rfl rfl (.c rfl .n) ce56 (zza (p:=some ⟨u14_1,0,none⟩) (n:=2) (cap:=2) (l:=[(Rat.divInt 1 2),(Cam.sumL ([((Cam.hin (Cam.rsA l jj) i).getD i (0:Rat)),((Cam.hin (Cam.rsA l jj) i).getD (i+1) (0:Rat))]))]) (hn:=by first|rfl|assumption|omega|exact hlq _) (hn9:=by first|rfl|assumption|omega|exact hlq _) (hl:=by exact Cam.hqA_cons (by have h9:yf (Rat.divInt 1 2)=1:=(by decide +kernel);omega) (Cam.hqA_cons (by have h9:=Cam.s2_hq (hrq i) (hrq (i+1));omega) (Cam.hqA_nil dd))) (hn1:=by first|rfl|assumption|omega|exact hlq _)) (.c (j:=0) rfl .n) ?_
         rintro ⟨u15_1,u15_2⟩ -
         dsimp only [aq,nq,cq]
         refine e_uw 16 rfl rfl (zma 0 i rfl ya sz32 rfl (by first|rfl|assumption|omega|(simp;done)|exact Cam.lfA_len _ _|exact (Cam.rsA_len _ _).trans hn|exact (Cam.hin_len _ _).trans ((Cam.rsA_len _ _).trans hn)|exact Cam.rsA_len _ _|exact (Cam.hin_len _ _).trans (Cam.rsA_len _ _)) rfl rfl om) ?_
         exact zX (hD1 (u2_1,u2_2,u12_1,u13_1,u13_2,u14_1,u15_1,u15_2)) kr (mR rfl) .rfl .rfl ((.of [0,1,2,3,4,5,6,7,8,9] rfl):SelR _ _ _)
       refine zta (X:=Wd×Wd×Nat×Wd×Wd) (k':=4) (L':=(lb 18 16383)) (fun (u2_1,u2_2,u12_1,u13_1,u13_2)=>([(63,.agg (cw [u13_1,u13_2]).toArray),(52,.agg (cw [u2_1,u2_2]).toArray),(51,.int .i64 ((i:Nat):Int)),(50,.slice p210 (l.length) c211),(47,.int .i64 ((i:Nat):Int)),(46,.int .i64 (((n - jj - 1):Nat):Int)),(6,.slice p16 (jj+1) c17),(7,.int .i64 (((n - jj):Nat):Int)),(5,.slice p210 (l.length) c211),(4,.int .i64 0),(1,.int .i64 (((d1+1):Nat):Int))],[rowA 32 rQ p210 c211 (Cam.hin (Cam.rsA l jj) i)],[emA,rowA 32 rQ p16 c17 ((Cam.lfA l jj)++([((Cam.rsA l jj).getD 0 (0:Rat))]))],[qF true u13_1 u13_2 (Cam.sumL ([((Cam.hin (Cam.rsA l jj) i).getD i (0:Rat)),((Cam.hin (Cam.rsA l jj) i).getD (i+1) (0:Rat))])),slF rQ (some ⟨u12_1,0,none⟩) 2 ([((Cam.hin (Cam.rsA l jj) i).getD i (0:Rat)),((Cam.hin (Cam.rsA l jj) i).getD (i+1) (0:Rat))]),qF true u2_1 u2_2 (Rat.divInt 1 2),qF true w23 w24 ((Cam.hin (Cam.rsA l jj) i).getD (i+1) (0:Rat)),qF true w20 w21 ((Cam.hin (Cam.rsA l jj) i).getD i (0:Rat)),slF rQ (some ⟨b15,0,none⟩) 1 ([((Cam.rsA l jj).getD 0 (0:Rat))]),qF true w13 w14 ((Cam.rsA l jj).getD 0 (0:Rat)),slF rQ p cap l])) ?_ (fun hD3=> ?_)
       ·
        rintro ⟨u2_1,u2_2,u12_1,u13_1,u13_2⟩
        dsimp only [cw]
        refine zcb 14 kr ?_
        ·
         refine zJa rfl rfl rfl rfl (zt (r:=rQ) (k:=2) ya inf32 rfl dd dd dd (.c (x:=(Rat.divInt 1 2)) (cs:=[u2_1.b,u2_1.l,u2_2.b,u2_2.l]) (u2_1,u2_2) rfl rfl rfl (fun g hr=>Holds.get 2 rfl hr) (.c (x:=(Cam.sumL ([((Cam.hin (Cam.rsA l jj) i).getD i (0:Rat)),((Cam.hin (Cam.rsA l jj) i).getD (i+1) (0:Rat))]))) (cs:=[u13_1.b,u13_1.l,u13_2.b,u13_2.l]) (u13_1,u13_2) rfl rfl rfl (fun g hr=>Holds.get 0 rfl hr) .n))) (fun u14_1 _=> ?_)
         refine zja 0 rfl .z ?_
         exact zX (hD2 (u2_1,u2_2,u12_1,u13_1,u13_2,u14_1)) kr (mR rfl) .rfl .rfl ((.of [0,1,2,3,4,5,6,7,8] rfl):SelR _ _ _)
       refine zta (X:=Wd×Wd×Nat) (k':=5) (L':=(lb 18 8191)) (fun (u2_1,u2_2,u12_1)=>([(62,.slice (some ⟨u12_1,0,none⟩) 2 2),(52,.agg (cw [u2_1,u2_2]).toArray),(51,.int .i64 ((i:Nat):Int)),(50,.slice p210 (l.length) c211),(47,.int .i64 ((i:Nat):Int)),(46,.int .i64 (((n - jj - 1):Nat):Int)),(6,.slice p16 (jj+1) c17),(7,.int .i64 (((n - jj):Nat):Int)),(5,.slice p210 (l.length) c211),(4,.int .i64 0),(1,.int .i64 (((d1+1):Nat):Int))],[rowA 32 rQ p210 c211 (Cam.hin (Cam.rsA l jj) i)],[emA,rowA 32 rQ p16 c17 ((Cam.lfA l jj)++([((Cam.rsA l jj).getD 0 (0:Rat))]))],[slF rQ (some ⟨u12_1,0,none⟩) 2 ([((Cam.hin (Cam.rsA l jj) i).getD i (0:Rat)),((Cam.hin (Cam.rsA l jj) i).getD (i+1) (0:Rat))]),qF true u2_1 u2_2 (Rat.divInt 1 2),qF true w23 w24 ((Cam.hin (Cam.rsA l jj) i).getD (i+1) (0:Rat)),qF true w20 w21 ((Cam.hin (Cam.rsA l jj) i).getD i (0:Rat)),slF rQ (some ⟨b15,0,none⟩) 1 ([((Cam.rsA l jj).getD 0 (0:Rat))]),qF true w13 w14 ((Cam.rsA l jj).getD 0 (0:Rat)),slF rQ p cap l])) ?_ (fun hD4=> ?_)
       ·
        rintro ⟨u2_1,u2_2,u12_1⟩
        dsimp only [cw]
        refine zcb 13 kr ?_
        ·
         refine zm rfl rfl rfl rfl (.c rfl .n) ce59 (zob (p:=some ⟨u12_1,0,none⟩) (n:=2) (cap:=2) (l:=[((Cam.hin (Cam.rsA l jj) i).getD i (0:Rat)),((Cam.hin (Cam.rsA l jj) i).getD (i+1) (0:Rat))]) (hn:=by first|rfl|assumption|omega|exact hlq _) (hn9:=by first|rfl|assumption|omega|exact hlq _) (hl:=by exact Cam.hqA_cons (by have h9:=hrq i;omega) (Cam.hqA_cons (by have h9:=hrq (i+1);omega) (Cam.hqA_nil dd)))) (.c (j:=0) rfl .n) ?_
         rintro ⟨u13_1,u13_2⟩ -
         dsimp only [aq,nq,cq]
         exact zX (hD3 (u2_1,u2_2,u12_1,u13_1,u13_2)) kr (mR rfl) .rfl .rfl ((.of [0,1,2,3,4,5,6,7] rfl):SelR _ _ _)
       refine zta (X:=Wd×Wd) (k':=6) (L':=(lb 18 4095)) (fun (u2_1,u2_2)=>([(52,.agg (cw [u2_1,u2_2]).toArray),(61,.agg (cw [w23,w24]).toArray),(56,.agg (cw [w20,w21]).toArray),(51,.int .i64 ((i:Nat):Int)),(50,.slice p210 (l.length) c211),(47,.int .i64 ((i:Nat):Int)),(46,.int .i64 (((n - jj - 1):Nat):Int)),(6,.slice p16 (jj+1) c17),(7,.int .i64 (((n - jj):Nat):Int)),(5,.slice p210 (l.length) c211),(4,.int .i64 0),(1,.int .i64 (((d1+1):Nat):Int))],[rowA 32 rQ p210 c211 (Cam.hin (Cam.rsA l jj) i)],[rowA 32 rQ p16 c17 ((Cam.lfA l jj)++([((Cam.rsA l jj).getD 0 (0:Rat))]))],[qF true u2_1 u2_2 (Rat.divInt 1 2),qF true w23 w24 ((Cam.hin (Cam.rsA l jj) i).getD (i+1) (0:Rat)),qF true w20 w21 ((Cam.hin (Cam.rsA l jj) i).getD i (0:Rat)),slF rQ (some ⟨b15,0,none⟩) 1 ([((Cam.rsA l jj).getD 0 (0:Rat))]),qF true w13 w14 ((Cam.rsA l jj).getD 0 (0:Rat)),slF rQ p cap l])) ?_ (fun hD5=> ?_)
       ·
        rintro ⟨u2_1,u2_2⟩
        dsimp only [cw]
        refine zcb 12 kr ?_
        ·
         refine zJa rfl rfl rfl rfl (zt (r:=rQ) (k:=2) ya inf32 rfl dd dd dd (.c (x:=((Cam.hin (Cam.rsA l jj) i).getD i (0:Rat))) (cs:=[w20.b,w20.l,w21.b,w21.l]) (w20,w21) rfl rfl rfl (fun g hr=>Holds.get 2 rfl hr) (.c (x:=((Cam.hin (Cam.rsA l jj) i).getD (i+1) (0:Rat))) (cs:=[w23.b,w23.l,w24.b,w24.l]) (w23,w24) rfl rfl rfl (fun g hr=>Holds.get 1 rfl hr) .n))) (fun u12_1 _=> ?_)
         refine zja 0 rfl .z ?_
         exact zX (hD4 (u2_1,u2_2,u12_1)) kr (mR rfl) .rfl .rfl ((.of [0,1,2,3,4,5,6] rfl):SelR _ _ _)
       refine zta (X:=Nat) (k':=6) (L':=(lb 18 8187)) (fun u12_1=>([(62,.slice (some ⟨u12_1,0,none⟩) 2 2),(51,.int .i64 ((i:Nat):Int)),(50,.slice p210 (l.length) c211),(47,.int .i64 ((i:Nat):Int)),(46,.int .i64 (((n - jj - 1):Nat):Int)),(6,.slice p16 (jj+1) c17),(7,.int .i64 (((n - jj):Nat):Int)),(5,.slice p210 (l.length) c211),(4,.int .i64 0),(1,.int .i64 (((d1+1):Nat):Int))],[rowA 32 rQ p210 c211 (Cam.hin (Cam.rsA l jj) i)],[emA,rowA 32 rQ p16 c17 ((Cam.lfA l jj)++([((Cam.rsA l jj).getD 0 (0:Rat))]))],[slF rQ (some ⟨u12_1,0,none⟩) 2 ([((Cam.hin (Cam.rsA l jj) i).getD i (0:Rat)),((Cam.hin (Cam.rsA l jj) i).getD (i+1) (0:Rat))]),qF true w23 w24 ((Cam.hin (Cam.rsA l jj) i).getD (i+1) (0:Rat)),qF true w20 w21 ((Cam.hin (Cam.rsA l jj) i).getD i (0:Rat)),slF rQ (some ⟨b15,0,none⟩) 1 ([((Cam.rsA l jj).getD 0 (0:Rat))]),qF true w13 w14 ((Cam.rsA l jj).getD 0 (0:Rat)),slF rQ p cap l])) ?_ (fun hD6=> ?_)
       ·
        rintro u12_1
        dsimp only
        refine zcb 2 kr ?_
        ·
         refine zm rfl rfl rfl rfl (.c rfl (.c rfl .n)) ce47 (zsb (z1:=1) (z2:=2) (hz1:=by first|rfl|assumption|omega|exact hlq _) (hz2:=by first|rfl|assumption|omega|exact hlq _) (hy:=by first|rfl|assumption|omega|exact hlq _)) (.n) ?_
         rintro ⟨u2_1,u2_2⟩ -
         dsimp only [aq,nq,cq]
         exact zX (hD4 (u2_1,u2_2,u12_1)) kr (mR rfl) .rfl .rfl ((.of [1,0,2,3,4,5,6] rfl):SelR _ _ _)
       refine zuc 2 12 kr ?_ ?_
       ·
        refine zm rfl rfl rfl rfl (.c rfl (.c rfl .n)) ce47 (zsb (z1:=1) (z2:=2) (hz1:=by first|rfl|assumption|omega|exact hlq _) (hz2:=by first|rfl|assumption|omega|exact hlq _) (hy:=by first|rfl|assumption|omega|exact hlq _)) (.n) ?_
        rintro ⟨u2_1,u2_2⟩ -
        dsimp only [aq,nq,cq]
        exact zX (hD5 (u2_1,u2_2)) kr (mR rfl) .rfl .rfl ((.of [0,1,2,3,4,5] rfl):SelR _ _ _)
       ·
        refine zJa rfl rfl rfl rfl (zt (r:=rQ) (k:=2) ya inf32 rfl dd dd dd (.c (x:=((Cam.hin (Cam.rsA l jj) i).getD i (0:Rat))) (cs:=[w20.b,w20.l,w21.b,w21.l]) (w20,w21) rfl rfl rfl (fun g hr=>Holds.get 1 rfl hr) (.c (x:=((Cam.hin (Cam.rsA l jj) i).getD (i+1) (0:Rat))) (cs:=[w23.b,w23.l,w24.b,w24.l]) (w23,w24) rfl rfl rfl (fun g hr=>Holds.get 0 rfl hr) .n))) (fun u12_1 _=> ?_)
        refine zja 0 rfl .z ?_
        exact zX (hD6 u12_1) kr (mR rfl) .rfl .rfl ((.of [0,1,2,3,4,5] rfl):SelR _ _ _)
      ·
       refine zha<|zj<|zj<|zx<|zQ<|zd<|za<|e_mv rfl<|e_p (zda (z:=((((n - jj):Nat):Int) - 1)) rfl rfl (w64 om))<|e_p (zc rfl)<|zg<|zea ((jj+1),p16,c17) (show (jj+1)≤n from by show jj+1≤n;omega) (by show n - (jj+1)<n - jj;omega) ((.e rfl (by rfl) (.e rfl (by first|rfl|(congr 1;done)|(congr 1;omega)) (.of rfl))):SubM _ _) (ho:=((.e (i:=0) rfl (by first|rfl|(rw [show i=l.length - jj - 1 by omega];rfl)) (.e (i:=0) rfl (by first|rfl|(rw [show i=l.length - jj - 1 by omega];rfl)) .n)):PickO _ _ _)) ((.c (j:=2) rfl .n):SelR _ _ _)
     ·
      refine zha<|zj<|zj<|zx<|zd<|ze ?_
      have hjn:jj=n:=by omega
      refine zlb 0 rfl .z<|zlb 1 rfl (.s .z) ?_
      have hs1:=Cam.sure_rng d1 (Cam.lfA l jj)
      have hs2:=Cam.sure_rng d1 (Cam.rsA l jj)
      refine za<|e_mv rfl<|e_mv rfl<|e_p (zda (z:=((((d1+1):Nat):Int) - 1)) rfl rfl (w64 om)) ?_
      have e25:(((((d1+1):Nat):Int) - 1):Int)=((d1:Nat):Int):=by omega
      rw [e25]
      refine zK rfl rfl (.c rfl (.c rfl .n)) ce105 (ih (d2:=d1) (p:=pR) (n:=jj) (cap:=cR) (l:=(Cam.lfA l jj)) (K:=(K+jj)) (hd2:=by first|rfl|assumption|omega|exact hlq _) (hn:=by exact Cam.lfA_len _ _) (hn1:=by first|rfl|assumption|omega|exact hlq _) (hn9:=by first|rfl|assumption|omega|exact hlq _) (hc:=by exact Cam.lf_cb hc jj) (hK:=by first|rfl|assumption|omega|exact hlq _)) (.c (j:=1) rfl .n)<|e_mv rfl<|e_mv rfl<|e_p (zda (z:=((((d1+1):Nat):Int) - 1)) rfl rfl (w64 om)) ?_
      have e26:(((((d1+1):Nat):Int) - 1):Int)=((d1:Nat):Int):=by omega
      rw [e26]
      refine zK rfl rfl (.c rfl (.c rfl .n)) ce105 (ih (d2:=d1) (p:=p210) (n:=l.length) (cap:=c211) (l:=(Cam.rsA l jj)) (K:=(K+jj)) (hd2:=by first|rfl|assumption|omega|exact hlq _) (hn:=by exact Cam.rsA_len _ _) (hn1:=by first|rfl|assumption|omega|exact hlq _) (hn9:=by first|rfl|assumption|omega|exact hlq _) (hc:=by exact Cam.rs_cb hc jj) (hK:=by first|rfl|assumption|omega|exact hlq _)) (.c (j:=0) rfl .n)<|e_p (zc rfl)<|e_p (zc rfl)<|zg<|zd<|ze<|zQa (X:=Unit) (fun x=>True) (fun x=>[(81,.bool (decide (((Cam.sure d1 (Cam.lfA l jj))<0)∨((Cam.sure d1 (Cam.rsA l jj))<0)))),(10,.int .i64 (Cam.sure d1 (Cam.rsA l jj))),(9,.int .i64 (Cam.sure d1 (Cam.lfA l jj))),(4,.int .i64 0)]) (fun x=>[]) (fun x=>[slF rQ p210 c211 (Cam.rsA l jj),slF rQ pR cR (Cam.lfA l jj),slF rQ p cap l]) ?_ ?_
      ·
       refine za<|e_mv rfl<|e_p (zZ rfl rfl)<|zia rfl rfl (zfa rfl) (fun h27=> ?_) (fun h27=> ?_)
       ·
        refine e_no<|e_no<|e_p (zC rfl rfl)<|zg ?_
        exact zS () tt9 ((.e rfl (congrArg Value.bool cbu) (.of rfl)):SubM _ _) (ho:=oN) ((.of [0,1,2] rfl):SelR _ _ _)
       ·
        refine e_mv rfl<|e_p (zZ rfl rfl)<|e_p (zC rfl rfl)<|zg ?_
        exact zS () tt9 ((.e rfl (congrArg Value.bool cbu) (.of rfl)):SubM _ _) (ho:=oN) ((.of [0,1,2] rfl):SelR _ _ _)
      ·
       rintro ⟨⟩ -
       try dsimp only
       refine zH rfl (fun h81=> ?_) (fun h81=> ?_)
       ·
        refine ze<|za<|e_p (zc rfl)<|zg<|zd<|zD<|zl ?_
        exact zv yh () trivial (zo rfl) (by rw [Cam.sure_neg h25 (by simpa using h28) (by rw [hn,←hjn];exact h81)]) (ho:=oN) sN
       ·
        refine zA<|zd<|ze<|za<|e_mv rfl<|e_mv rfl<|e_p (zBg rfl rfl)<|e_p (zc rfl)<|zg<|zd<|zD ?_
        exact zv yh () trivial (zo rfl) (by rw [Cam.sure_min h25 (by simpa using h28) (by rw [hn,←hjn];exact h81),hn,←hjn]) (ho:=oN) sN
theorem zrf {p:Option Addr} {n:Nat} {cap:Nat} {l:List Rat} {K:Nat} {d:Nat} (hn:l.length=n) (hn1:1≤n) (hn9:n≤9) (hc:Po.cb K l) (hK:K+10*d+20≤100000000):Con yd 105 [.slice (p) (n) (cap),.int .i64 (((d:Nat):Int))] [] [slF (rQ) (p) (cap) (l)] (Y:=Unit) (fun y=>True) (fun y=> .int .i64 ((Cam.sure d l))) (fun y=>[]) (fun y=>[]):=by
  induction d using Nat.strongRecOn generalizing p n cap l K with
  |_ d ih=>exact zFe hn hn1 hn9 hc hK (fun d2 hd2 p n cap l K hn hn1 hn9 hc hK=>by apply ih <;> assumption)
end Go.Proofs.YtahiajepeodhoaaGreat.Sp
namespace Go.Proofs.YtahiajepeodhoaaGreat.Sp
open Go
set_option linter.unusedVariables false
set_option maxRecDepth 100000
set_option maxHeartbeats 8000000
theorem zQd {p1:Option Addr} {n1:Nat} {c1:Nat} {l1:List (Option Rat)} {i:Nat} (hn1:l1.length=n1) (hm1:n1≤1000) (hi:i≤3000):Con yd 126 [.slice p1 n1 c1,.int .i64 ((i:Nat):Int)] [] [slF rE p1 c1 l1] (Y:=Wd×Wd×Bool) (fun y=>True) (fun y=> .agg #[y.1.b,y.1.l,y.2.1.b,y.2.1.l]) (fun y=>[]) (fun y=>[qF y.2.2 y.1 y.2.1 ((l1.getD i none).getD 0)]):=by
 refine zk Tryz.func126 rfl rfl rfl (fun c=> ?_)
 show RunC _ _ _ _ _ [(0,.slice p1 n1 c1),(1,.int .i64 ((i:Nat):Int))] [] [slF rE p1 c1 l1]
 refine zU 0 rfl (fun hL0=> ?_)
 refine ze<|za<|zE rfl rfl (zr zr32 rfl) (fun b1=> ?_)
 refine zg<|zd<|ze<|ze<|za<|e_mv rfl<|e_mv rfl<|e_p (zL yb rfl)<|e_p (zZ rfl rfl)<|zg<|zd<|zH rfl (fun hlt=> ?_) (fun hlt=> ?_)
 ·
  refine ze<|za<|e_mv rfl<|e_mv rfl<|r_vl rfl rfl (zua (x0:=(l1.getD i (none:Option Rat))) 0 i rfl yb sz32 rfl (by first|rfl|assumption|(simp;done)|omega) rfl rfl (gD (d:=(none:Option Rat)) om)) ?_
  rintro ⟨b2,o3,w4,w5⟩ -
  dsimp only [aq,nq,cq]
  refine zra open_rE<|e_ru (zR (j:=0) 0 ty32 rfl rfl rfl (.t4 .nil))<|zi 0 rfl rfl rfl rfl rfl sz32 rfl (.t4 .nil) .z<|zg<|zd<|zD<|zl ?_
  exact zv Tryz.results126 (w4,w5,((l1.getD i none).isSome)) trivial (zp 0 ty32 rfl rfl (.t4 .nil)) rfl (ho:=oN) ((.c (j:=1) rfl .n):SelR _ _ _)
 ·
  refine zA<|zd<|ze<|za<|zn rfl rfl (.n) ce101 (zHc) (.n) ?_
  rintro ⟨w36,w47⟩ -
  dsimp only [aq,nq,cq]
  refine zi 0 rfl rfl rfl rfl rfl sz32 rfl (.t4 .nil) .z<|zg<|zd<|zD ?_
  exact zv Tryz.results126 (w36,w47,true) trivial (zp 0 ty32 rfl rfl (.t4 .nil)) rfl (ho:=oN) ((.e (j:=0) rfl (by rw [Po.at_end om]) .n):SelR _ _ _)
theorem zsf {p1:Option Addr} {n1:Nat} {c1:Nat} {l1:List (Option Rat)} {p2:Option Addr} {n2:Nat} {c2:Nat} {l2:List (Option Rat)} (hn1:l1.length=n1) (hm1:n1≤1000) (hn2:l2.length=n2) (hm2:n2≤1000) (hb:∀i,yf ((l1.getD i none).getD 0)+yf ((l2.getD i none).getD 0)+1≤1099511627776):Con yd 104 [.slice p1 n1 c1,.slice p2 n2 c2,.func (.func 102) #[] #[]] [] [slF rE p1 c1 l1,slF rE p2 c2 l2] (Y:=(Option Addr)×Nat) (fun y=>True) (fun y=> .slice (y.1) ((Po.add (Po.vals l1) (Po.vals l2)).length) (y.2)) (fun y=>[]) (fun y=>[slF rQ (y.1) (y.2) (Po.add (Po.vals l1) (Po.vals l2))]):=by
 refine zk Tryz.func104 rfl rfl rfl (fun c=> ?_)
 show RunC _ _ _ _ _ [(0,.slice p1 n1 c1),(1,.slice p2 n2 c2),(2,.func (.func 102) #[] #[])] [] [slF rE p1 c1 l1,slF rE p2 c2 l2]
 refine zU 0 rfl (fun hL0=> ?_)
 refine zU 1 rfl (fun hL1=> ?_)
 refine ze<|za<|e_p (zc rfl)<|zg<|zd<|ze<|za<|e_mv rfl<|e_p (zL yb rfl)<|e_mv rfl<|e_p (zL yb rfl)<|e_p (v:= .int .i64 (((max n1 n2):Nat):Int)) (by rw [show ((((max n1 n2):Nat):Int):Int)=max ((n1:Nat):Int) ((n2:Nat):Int) by omega];exact zIe rfl rfl) ?_
 have e1:((((max n1 n2):Nat):Int):Int)=(((max n1 n2):Nat):Int):=by omega
 rw [e1]
 refine zva rfl rfl (zab (r:=rE) (k:=(max n1 n2)) (x0:=none) (γ0:=(wz,wz)) ya inf32 rfl rfl rfl rfl om om rfl (fun g _=>eF_wz g) dd) (fun b2 _=> ?_)
 refine e_p (zc rfl)<|zg<|zd<|ze<|ze<|za<|e_mv rfl<|e_p (zL ya rfl)<|e_mv rfl<|zg<|zd<|zy<|zla (X:=Nat×(List (Option Rat))) (fun x:Nat×(List (Option Rat))=>x.1≤max n1 n2∧x.2.length=max n1 n2∧∀j,j<x.1→x.2.getD j none=some (((l1.getD j none).getD 0)+((l2.getD j none).getD 0))) (fun x=>[(17,.int .i64 ((x.1:Nat):Int)),(16,.int .i64 (((max n1 n2):Nat):Int)),(7,.slice (some ⟨b2,0,none⟩) (max n1 n2) (max n1 n2)),(6,.slice none 0 0),(0,.slice p1 n1 c1),(1,.slice p2 n2 c2),(2,.func (.func 102) #[] #[])]) (fun x=>[rowA 32 rE (some ⟨b2,0,none⟩) (max n1 n2) (x.2)]) (fun x=>[slF rE p1 c1 l1,slF rE p2 c2 l2]) (fun x:Nat×(List (Option Rat))=>max n1 n2 - x.1) (0,List.replicate (max n1 n2) none) (show 0≤max n1 n2∧(List.replicate (max n1 n2) none).length=max n1 n2∧∀j,j<0→(List.replicate (max n1 n2) none).getD j none=some (((l1.getD j none).getD 0)+((l2.getD j none).getD 0)) from by exact ⟨Nat.zero_le _,List.length_replicate,fun j hj=>by omega⟩) ((.e rfl cgs (.of rfl)):SubM _ _) (ho:=((.e (i:=0) rfl cgs .n):PickO _ _ _)) ((.of [0,1] rfl):SelR _ _ _) ?_
 rintro ⟨i,A⟩ hI
 replace hI:i≤max n1 n2∧A.length=max n1 n2∧∀j,j<i→A.getD j none=some (((l1.getD j none).getD 0)+((l2.getD j none).getD 0)):=hI
 try dsimp only
 obtain ⟨hi,hAl,hA⟩:=hI
 refine ze<|za<|e_p (zZ rfl rfl)<|zg<|zd<|ze<|zH rfl (fun h3=> ?_) (fun h3=> ?_)
 ·
  refine zA<|zd<|ze<|zy<|ze<|za<|e_mv rfl<|e_p (zc rfl)<|zg<|zd<|za<|e_mv rfl<|e_mv rfl<|e_mv rfl<|e_mv rfl<|e_mv rfl<|zn rfl rfl (.c rfl (.c rfl .n)) ce126 (zQd (p1:=p1) (n1:=n1) (c1:=c1) (l1:=l1) (i:=i) (hn1:=ass) (hm1:=ass) (hi:=by first|rfl|assumption|exact hb _|omega)) (.c (j:=0) rfl .n) ?_
  rintro ⟨w34,w45,k96⟩ -
  dsimp only [aq,nq,cq]
  refine e_mv rfl<|e_mv rfl<|zn rfl rfl (.c rfl (.c rfl .n)) ce126 (zQd (p1:=p2) (n1:=n2) (c1:=c2) (l1:=l2) (i:=i) (hn1:=ass) (hm1:=ass) (hi:=by first|rfl|assumption|exact hb _|omega)) (.c (j:=2) rfl .n) ?_
  rintro ⟨w37,w48,k99⟩ -
  dsimp only [aq,nq,cq]
  refine zQc (first:=[]) (cap:=[]) rfl rfl rfl (.c rfl (.c rfl .n)) ce102 (zCc (k1:=k96) (u1:=w34) (v1:=w45) (q1:=((l1.getD i none).getD 0)) (k2:=k99) (u2:=w37) (v2:=w48) (q2:=((l2.getD i none).getD 0)) (hl:=by first|rfl|assumption|exact hb _|omega)) (.c (j:=1) rfl (.c (j:=0) rfl .n)) ?_
  rintro ⟨w310,w411⟩ -
  dsimp only [aq,nq,cq]
  refine e_p (zaa (j:=i) ya sz32 rfl rfl rfl om)<|zIa 0 rfl rfl rfl (zT (r:=rE) (j:=i) (x0:=(some (((l1.getD i none).getD 0)+((l2.getD i none).getD 0)))) (γ0:=(w310,w411)) rfl rfl (by first|omega|(rw [List.length_map];omega)|(simp only [List.length_set];omega)|(simp;done)|(simp;omega)) rfl rfl sz32 (fun g hr=>qF_e (Holds.get 0 rfl hr))) (fun _=> .z) (fun _ _=> ?_)
  refine zg<|zQ<|zd<|za<|e_p (zN (z:=(((i+1):Nat):Int)) rfl rfl (w64 om))<|e_mv rfl<|zg<|zea ((i+1),(A.set i (some (((l1.getD i none).getD 0)+((l2.getD i none).getD 0))))) (show (i+1)≤max n1 n2∧(A.set i (some (((l1.getD i none).getD 0)+((l2.getD i none).getD 0)))).length=max n1 n2∧∀j,j<(i+1)→(A.set i (some (((l1.getD i none).getD 0)+((l2.getD i none).getD 0)))).getD j none=some (((l1.getD j none).getD 0)+((l2.getD j none).getD 0)) from by exact ⟨by omega,by rw [List.length_set];exact hAl,Po.set_step hA om rfl⟩) (by show max n1 n2 - (i+1)<max n1 n2 - i;omega) (mR rfl) (ho:=(o0 rfl)) ((.of [3,4] rfl):SelR _ _ _)
 ·
  refine zha<|zj<|zj<|zx<|zd<|ze<|za<|e_mv rfl<|zba 0 rfl .z<|zn rfl rfl (.c rfl .n) ce67 (zPa (p1:=some ⟨b2,0,none⟩) (n1:=(max n1 n2)) (c1:=(max n1 n2)) (l1:=A) (hn1:=by first|rfl|assumption|exact hb _|omega) (hm1:=by first|rfl|assumption|exact hb _|omega)) (.c (j:=0) rfl .n) ?_
  rintro ⟨p912,c913⟩ -
  dsimp only [aq,nq,cq]
  refine e_p (zc rfl)<|zg<|zd<|zD ?_
  have hv9:=Po.vals_add (l:=l1) (m:=l2) (n:=max n1 n2) (by rw [hn1,hn2]) hAl (fun j hj=>hA j om)
  exact zv Tryz.results104 (p912,c913) trivial (zo rfl) (by rw [hv9]) (ho:=oN) ((.e (j:=0) rfl (by rw [hv9]) .n):SelR _ _ _)
theorem ztf {p1:Option Addr} {n1:Nat} {c1:Nat} {l1:List (Option Rat)} {p2:Option Addr} {n2:Nat} {c2:Nat} {l2:List (Option Rat)} (hn1:l1.length=n1) (hm1:n1≤1000) (hn2:l2.length=n2) (hm2:n2≤1000) (hb:∀i,yf ((l1.getD i none).getD 0)+yf ((l2.getD i none).getD 0)+1≤1099511627776):Con yd 104 [.slice p1 n1 c1,.slice p2 n2 c2,.func (.func 90) #[] #[]] [] [slF rE p1 c1 l1,slF rE p2 c2 l2] (Y:=(Option Addr)×Nat) (fun y=>True) (fun y=> .slice (y.1) ((Po.sub (Po.vals l1) (Po.vals l2)).length) (y.2)) (fun y=>[]) (fun y=>[slF rQ (y.1) (y.2) (Po.sub (Po.vals l1) (Po.vals l2))]):=by
 refine zk Tryz.func104 rfl rfl rfl (fun c=> ?_)
 show RunC _ _ _ _ _ [(0,.slice p1 n1 c1),(1,.slice p2 n2 c2),(2,.func (.func 90) #[] #[])] [] [slF rE p1 c1 l1,slF rE p2 c2 l2]
 refine zU 0 rfl (fun hL0=> ?_)
 refine zU 1 rfl (fun hL1=> ?_)
 refine ze<|za<|e_p (zc rfl)<|zg<|zd<|ze<|za<|e_mv rfl<|e_p (zL yb rfl)<|e_mv rfl<|e_p (zL yb rfl)<|e_p (v:= .int .i64 (((max n1 n2):Nat):Int)) (by rw [show ((((max n1 n2):Nat):Int):Int)=max ((n1:Nat):Int) ((n2:Nat):Int) by omega];exact zIe rfl rfl) ?_
 have e1:((((max n1 n2):Nat):Int):Int)=(((max n1 n2):Nat):Int):=by omega
 rw [e1]
 refine zva rfl rfl (zab (r:=rE) (k:=(max n1 n2)) (x0:=none) (γ0:=(wz,wz)) ya inf32 rfl rfl rfl rfl om om rfl (fun g _=>eF_wz g) dd) (fun b2 _=> ?_)
 refine e_p (zc rfl)<|zg<|zd<|ze<|ze<|za<|e_mv rfl<|e_p (zL ya rfl)<|e_mv rfl<|zg<|zd<|zy<|zla (X:=Nat×(List (Option Rat))) (fun x:Nat×(List (Option Rat))=>x.1≤max n1 n2∧x.2.length=max n1 n2∧∀j,j<x.1→x.2.getD j none=some (((l1.getD j none).getD 0) - ((l2.getD j none).getD 0))) (fun x=>[(17,.int .i64 ((x.1:Nat):Int)),(16,.int .i64 (((max n1 n2):Nat):Int)),(7,.slice (some ⟨b2,0,none⟩) (max n1 n2) (max n1 n2)),(6,.slice none 0 0),(0,.slice p1 n1 c1),(1,.slice p2 n2 c2),(2,.func (.func 90) #[] #[])]) (fun x=>[rowA 32 rE (some ⟨b2,0,none⟩) (max n1 n2) (x.2)]) (fun x=>[slF rE p1 c1 l1,slF rE p2 c2 l2]) (fun x:Nat×(List (Option Rat))=>max n1 n2 - x.1) (0,List.replicate (max n1 n2) none) (show 0≤max n1 n2∧(List.replicate (max n1 n2) none).length=max n1 n2∧∀j,j<0→(List.replicate (max n1 n2) none).getD j none=some (((l1.getD j none).getD 0) - ((l2.getD j none).getD 0)) from by exact ⟨Nat.zero_le _,List.length_replicate,fun j hj=>by omega⟩) ((.e rfl cgs (.of rfl)):SubM _ _) (ho:=((.e (i:=0) rfl cgs .n):PickO _ _ _)) ((.of [0,1] rfl):SelR _ _ _) ?_
 rintro ⟨i,A⟩ hI
 replace hI:i≤max n1 n2∧A.length=max n1 n2∧∀j,j<i→A.getD j none=some (((l1.getD j none).getD 0) - ((l2.getD j none).getD 0)):=hI
 try dsimp only
 obtain ⟨hi,hAl,hA⟩:=hI
 refine ze<|za<|e_p (zZ rfl rfl)<|zg<|zd<|ze<|zH rfl (fun h3=> ?_) (fun h3=> ?_)
 ·
  refine zA<|zd<|ze<|zy<|ze<|za<|e_mv rfl<|e_p (zc rfl)<|zg<|zd<|za<|e_mv rfl<|e_mv rfl<|e_mv rfl<|e_mv rfl<|e_mv rfl<|zn rfl rfl (.c rfl (.c rfl .n)) ce126 (zQd (p1:=p1) (n1:=n1) (c1:=c1) (l1:=l1) (i:=i) (hn1:=ass) (hm1:=ass) (hi:=by first|rfl|assumption|exact hb _|omega)) (.c (j:=0) rfl .n) ?_
  rintro ⟨w34,w45,k96⟩ -
  dsimp only [aq,nq,cq]
  refine e_mv rfl<|e_mv rfl<|zn rfl rfl (.c rfl (.c rfl .n)) ce126 (zQd (p1:=p2) (n1:=n2) (c1:=c2) (l1:=l2) (i:=i) (hn1:=ass) (hm1:=ass) (hi:=by first|rfl|assumption|exact hb _|omega)) (.c (j:=2) rfl .n) ?_
  rintro ⟨w37,w48,k99⟩ -
  dsimp only [aq,nq,cq]
  refine zQc (first:=[]) (cap:=[]) rfl rfl rfl (.c rfl (.c rfl .n)) ce90 (zQe (k1:=k96) (u1:=w34) (v1:=w45) (q1:=((l1.getD i none).getD 0)) (k2:=k99) (u2:=w37) (v2:=w48) (q2:=((l2.getD i none).getD 0)) (hl:=by first|rfl|assumption|exact hb _|omega)) (.c (j:=1) rfl (.c (j:=0) rfl .n)) ?_
  rintro ⟨w310,w411⟩ -
  dsimp only [aq,nq,cq]
  refine e_p (zaa (j:=i) ya sz32 rfl rfl rfl om)<|zIa 0 rfl rfl rfl (zT (r:=rE) (j:=i) (x0:=(some (((l1.getD i none).getD 0) - ((l2.getD i none).getD 0)))) (γ0:=(w310,w411)) rfl rfl (by first|omega|(rw [List.length_map];omega)|(simp only [List.length_set];omega)|(simp;done)|(simp;omega)) rfl rfl sz32 (fun g hr=>qF_e (Holds.get 0 rfl hr))) (fun _=> .z) (fun _ _=> ?_)
  refine zg<|zQ<|zd<|za<|e_p (zN (z:=(((i+1):Nat):Int)) rfl rfl (w64 om))<|e_mv rfl<|zg<|zea ((i+1),(A.set i (some (((l1.getD i none).getD 0) - ((l2.getD i none).getD 0))))) (show (i+1)≤max n1 n2∧(A.set i (some (((l1.getD i none).getD 0) - ((l2.getD i none).getD 0)))).length=max n1 n2∧∀j,j<(i+1)→(A.set i (some (((l1.getD i none).getD 0) - ((l2.getD i none).getD 0)))).getD j none=some (((l1.getD j none).getD 0) - ((l2.getD j none).getD 0)) from by exact ⟨by omega,by rw [List.length_set];exact hAl,Po.set_step hA om rfl⟩) (by show max n1 n2 - (i+1)<max n1 n2 - i;omega) (mR rfl) (ho:=(o0 rfl)) ((.of [3,4] rfl):SelR _ _ _)
 ·
  refine zha<|zj<|zj<|zx<|zd<|ze<|za<|e_mv rfl<|zba 0 rfl .z<|zn rfl rfl (.c rfl .n) ce67 (zPa (p1:=some ⟨b2,0,none⟩) (n1:=(max n1 n2)) (c1:=(max n1 n2)) (l1:=A) (hn1:=by first|rfl|assumption|exact hb _|omega) (hm1:=by first|rfl|assumption|exact hb _|omega)) (.c (j:=0) rfl .n) ?_
  rintro ⟨p912,c913⟩ -
  dsimp only [aq,nq,cq]
  refine e_p (zc rfl)<|zg<|zd<|zD ?_
  have hv9:=Po.vals_sub (l:=l1) (m:=l2) (n:=max n1 n2) (by rw [hn1,hn2]) hAl (fun j hj=>hA j om)
  exact zv Tryz.results104 (p912,c913) trivial (zo rfl) (by rw [hv9]) (ho:=oN) ((.e (j:=0) rfl (by rw [hv9]) .n):SelR _ _ _)
theorem zXe {p1:Option Addr} {n1:Nat} {c1:Nat} {l1:List (Option Rat)} {p2:Option Addr} {n2:Nat} {c2:Nat} {l2:List (Option Rat)} (hn1:l1.length=n1) (hm1:n1≤1000) (hn2:l2.length=n2) (hm2:n2≤1000) (hb:∀i,yf ((l1.getD i none).getD 0)+yf ((l2.getD i none).getD 0)+1≤1099511627776):Con yd 73 [.slice p1 n1 c1,.slice p2 n2 c2] [] [slF rE p1 c1 l1,slF rE p2 c2 l2] (Y:=(Option Addr)×Nat) (fun y=>True) (fun y=> .slice (y.1) ((Po.add (Po.vals l1) (Po.vals l2)).length) (y.2)) (fun y=>[]) (fun y=>[slF rQ (y.1) (y.2) (Po.add (Po.vals l1) (Po.vals l2))]):=by
 refine zk Tryz.func73 rfl rfl rfl (fun c=> ?_)
 show RunC _ _ _ _ _ [(0,.slice p1 n1 c1),(1,.slice p2 n2 c2)] [] [slF rE p1 c1 l1,slF rE p2 c2 l2]
 refine zU 0 rfl (fun hL0=> ?_)
 refine zU 1 rfl (fun hL1=> ?_)
 refine ze<|za<|e_p (zc rfl)<|zg<|zd<|ze<|za<|e_mv rfl<|e_mv rfl<|zn rfl rfl (.c rfl (.c rfl (.c rfl .n))) ce104 (zsf (p1:=p1) (n1:=n1) (c1:=c1) (l1:=l1) (p2:=p2) (n2:=n2) (c2:=c2) (l2:=l2) (hn1:=ass) (hm1:=ass) (hn2:=ass) (hm2:=ass) (hb:=ass)) (.c (j:=0) rfl (.c (j:=1) rfl .n)) ?_
 rintro ⟨p91,c92⟩ -
 dsimp only [aq,nq,cq]
 refine e_p (zc rfl)<|zg<|zd<|zD ?_
 exact zv Tryz.results73 (p91,c92) trivial (zo rfl) rfl (ho:=oN) (s0 rfl)
theorem zRd {p1:Option Addr} {n1:Nat} {c1:Nat} {l1:List (Option Rat)} {p2:Option Addr} {n2:Nat} {c2:Nat} {l2:List (Option Rat)} (hn1:l1.length=n1) (hm1:n1≤1000) (hn2:l2.length=n2) (hm2:n2≤1000) (hb:∀i,yf ((l1.getD i none).getD 0)+yf ((l2.getD i none).getD 0)+1≤1099511627776):Con yd 77 [.slice p1 n1 c1,.slice p2 n2 c2] [] [slF rE p1 c1 l1,slF rE p2 c2 l2] (Y:=(Option Addr)×Nat) (fun y=>True) (fun y=> .slice (y.1) ((Po.sub (Po.vals l1) (Po.vals l2)).length) (y.2)) (fun y=>[]) (fun y=>[slF rQ (y.1) (y.2) (Po.sub (Po.vals l1) (Po.vals l2))]):=by
 refine zk Tryz.func77 rfl rfl rfl (fun c=> ?_)
 show RunC _ _ _ _ _ [(0,.slice p1 n1 c1),(1,.slice p2 n2 c2)] [] [slF rE p1 c1 l1,slF rE p2 c2 l2]
 refine zU 0 rfl (fun hL0=> ?_)
 refine zU 1 rfl (fun hL1=> ?_)
 refine ze<|za<|e_p (zc rfl)<|zg<|zd<|ze<|za<|e_mv rfl<|e_mv rfl<|zn rfl rfl (.c rfl (.c rfl (.c rfl .n))) ce104 (ztf (p1:=p1) (n1:=n1) (c1:=c1) (l1:=l1) (p2:=p2) (n2:=n2) (c2:=c2) (l2:=l2) (hn1:=ass) (hm1:=ass) (hn2:=ass) (hm2:=ass) (hb:=ass)) (.c (j:=0) rfl (.c (j:=1) rfl .n)) ?_
 rintro ⟨p91,c92⟩ -
 dsimp only [aq,nq,cq]
 refine e_p (zc rfl)<|zg<|zd<|zD ?_
 exact zv Tryz.results77 (p91,c92) trivial (zo rfl) rfl (ho:=oN) (s0 rfl)
end Go.Proofs.YtahiajepeodhoaaGreat.Sp
namespace Go.Proofs.YtahiajepeodhoaaGreat.Sp
open Go
set_option linter.unusedVariables false
set_option maxRecDepth 100000
set_option maxHeartbeats 8000000
theorem zbd {p1:Option Addr} {n1:Nat} {c1:Nat} {l1:List (Option Rat)} {p2:Option Addr} {n2:Nat} {c2:Nat} {l2:List (Option Rat)} (hn1:l1.length=n1) (hm1:n1≤1000) (hn2:l2.length=n2) (hm2:n2≤1000) (hm12:n1+n2≤1000) (hb1:∀i,yf ((Po.vals l1).getD i 0)≤200000000000) (hb2:∀i,yf ((Po.vals l2).getD i 0)≤200000000000) (hs:∀k lo n,lo+n≤k+1→yf (Po.cv (Po.cl (Po.vals l1)) (Po.cl (Po.vals l2)) k lo n)≤200000000000):Con yd 75 [.slice p1 n1 c1,.slice p2 n2 c2] [] [slF rE p1 c1 l1,slF rE p2 c2 l2] (Y:=(Option Addr)×Nat) (fun y=>True) (fun y=> .slice (y.1) ((Po.mul (Po.vals l1) (Po.vals l2)).length) (y.2)) (fun y=>[]) (fun y=>[slF rQ (y.1) (y.2) (Po.mul (Po.vals l1) (Po.vals l2))]):=by
 refine zk Tryz.func75 rfl rfl rfl (fun c=> ?_)
 show RunC _ _ _ _ _ [(0,.slice p1 n1 c1),(1,.slice p2 n2 c2)] [] [slF rE p1 c1 l1,slF rE p2 c2 l2]
 refine zU 0 rfl (fun hL0=> ?_)
 refine zU 1 rfl (fun hL1=> ?_)
 refine ze<|za<|e_p (zc rfl)<|zg<|zd<|ze<|za<|e_mv rfl<|zn rfl rfl (.c rfl .n) ce67 (zPa (p1:=p1) (n1:=n1) (c1:=c1) (l1:=l1) (hn1:=ass) (hm1:=ass)) (.c (j:=0) rfl .n) ?_
 rintro ⟨p91,c92⟩ -
 dsimp only [aq,nq,cq]
 refine e_mv rfl<|zn rfl rfl (.c rfl .n) ce67 (zPa (p1:=p2) (n1:=n2) (c1:=c2) (l1:=l2) (hn1:=ass) (hm1:=ass)) (.c (j:=2) rfl .n) ?_
 rintro ⟨p93,c94⟩ -
 dsimp only [aq,nq,cq]
 refine e_p (zc rfl)<|e_p (zc rfl)<|zg<|zd<|ze ?_
 obtain ⟨P,hP⟩:∃z,z=(Po.cl (Po.vals l1)):=⟨_,rfl⟩
 have e5:(Po.cl (Po.vals l1):List Rat)=P:=by exact hP.symm
 rw [e5]
 obtain ⟨Q,hQ⟩:∃z,z=(Po.cl (Po.vals l2)):=⟨_,rfl⟩
 have e6:(Po.cl (Po.vals l2):List Rat)=Q:=by exact hQ.symm
 rw [e6]
 have hbP:∀i,yf (P.getD i 0)≤200000000000:=fun i=>by rw [hP,Po.cl_get];exact hb1 i
 have hbQ:∀i,yf (Q.getD i 0)≤200000000000:=fun i=>by rw [hQ,Po.cl_get];exact hb2 i
 have hsP:∀k lo n,lo+n≤k+1→yf (Po.cv P Q k lo n)≤200000000000:=by rw [hP,hQ];exact hs
 have hPl:P.length≤n1:=by rw [hP,←hn1,←Po.vals_len l1];exact Po.cl_le_len _
 have hQl:Q.length≤n2:=by rw [hQ,←hn2,←Po.vals_len l2];exact Po.cl_le_len _
 refine zQa (X:=Unit) (fun x=>True) (fun x=>[(20,.bool (decide (((((P).length:Nat):Int)=0)∨((((Q).length:Nat):Int)=0)))),(1,.slice p93 ((Q).length) c94),(0,.slice p91 ((P).length) c92),(4,.slice none 0 0)]) (fun x=>[]) (fun x=>[slF rQ p93 c94 Q,slF rQ p91 c92 P,slF rE p1 c1 l1,slF rE p2 c2 l2]) ?_ ?_
 ·
  refine za<|e_mv rfl<|e_p (zL yb rfl)<|e_p (zqa rfl rfl)<|zia rfl rfl (zfa rfl) (fun g1=> ?_) (fun g1=> ?_)
  ·
   refine e_no<|e_no<|e_no<|e_p (zC rfl rfl)<|zg ?_
   exact zS () tt9 ((.e rfl (congrArg Value.bool (by first|(exact (decide_eq_true (Or.inl g1)).symm)|exact decide_eq_decide.2 ⟨fun k=>Or.inr k,fun k=>k.elim (fun e=>absurd e g1) _root_.id⟩)) (.of rfl)):SubM _ _) (ho:=oN) ((.of [0,1,2,3] rfl):SelR _ _ _)
  ·
   refine e_mv rfl<|e_p (zL yb rfl)<|e_p (zqa rfl rfl)<|e_p (zC rfl rfl)<|zg ?_
   exact zS () tt9 ((.e rfl (congrArg Value.bool (by first|(exact (decide_eq_true (Or.inl g1)).symm)|exact decide_eq_decide.2 ⟨fun k=>Or.inr k,fun k=>k.elim (fun e=>absurd e g1) _root_.id⟩)) (.of rfl)):SubM _ _) (ho:=oN) ((.of [0,1,2,3] rfl):SelR _ _ _)
 ·
  rintro ⟨⟩ -
  try dsimp only
  refine zH rfl (fun h20=> ?_) (fun h20=> ?_)
  ·
   refine ze<|za<|e_p (zc rfl)<|zg<|zd<|zD<|zl<|zjc rQ ?_
   have hv9:(Po.mul (Po.vals l1) (Po.vals l2))=[]:=Po.mul_none hP hQ om
   exact zv Tryz.results75 (none,0) trivial (zo rfl) (by rw [hv9];rfl) (ho:=oN) ((.e (j:=0) rfl (by rw [hv9]) .n):SelR _ _ _)
  ·
   have hPQ:0<P.length∧0<Q.length:=by omega
   refine zA<|zd<|ze<|za<|e_mv rfl<|e_p (zL yb rfl)<|e_mv rfl<|e_p (zL yb rfl)<|e_p (zN (z:=(((((P).length)+((Q).length)):Nat):Int)) rfl rfl (w64 om))<|e_p (zda (z:=((((((P).length)+((Q).length)):Nat):Int) - 1)) rfl rfl (w64 om)) ?_
   have e7:(((((((P).length)+((Q).length)):Nat):Int) - 1):Int)=(((P.length+Q.length - 1):Nat):Int):=by omega
   rw [e7]
   refine zva rfl rfl (zab (r:=rE) (k:=(P.length+Q.length - 1)) (x0:=none) (γ0:=(wz,wz)) ya inf32 rfl rfl rfl rfl om om rfl (fun g _=>eF_wz g) dd) (fun b8 _=> ?_)
   refine e_p (zc rfl)<|zg<|zd<|ze<|ze<|za<|e_mv rfl<|e_p (zL ya rfl)<|e_mv rfl<|zg<|zd<|zy<|zla (X:=Nat×(List (Option Rat))) (fun x:Nat×(List (Option Rat))=>x.1≤P.length+Q.length - 1∧x.2.length=P.length+Q.length - 1∧∀j,j<x.1→x.2.getD j none=some (Po.pc P Q j)) (fun x=>[(30,.int .i64 ((x.1:Nat):Int)),(29,.int .i64 (((P.length+Q.length - 1):Nat):Int)),(5,.slice (some ⟨b8,0,none⟩) (P.length+Q.length - 1) (P.length+Q.length - 1)),(1,.slice p93 ((Q).length) c94),(0,.slice p91 ((P).length) c92),(4,.slice none 0 0)]) (fun x=>[rowA 32 rE (some ⟨b8,0,none⟩) (P.length+Q.length - 1) (x.2)]) (fun x=>[slF rQ p93 c94 Q,slF rQ p91 c92 P,slF rE p1 c1 l1,slF rE p2 c2 l2]) (fun x:Nat×(List (Option Rat))=>P.length+Q.length - 1 - x.1) (0,List.replicate (P.length+Q.length - 1) none) (show 0≤P.length+Q.length - 1∧(List.replicate (P.length+Q.length - 1) none).length=P.length+Q.length - 1∧∀j,j<0→(List.replicate (P.length+Q.length - 1) none).getD j none=some (Po.pc P Q j) from by exact ⟨Nat.zero_le _,List.length_replicate,fun j hj=>by omega⟩) ((.e rfl cgs (.of rfl)):SubM _ _) (ho:=((.e (i:=0) rfl cgs .n):PickO _ _ _)) ((.of [0,1,2,3] rfl):SelR _ _ _) ?_
   rintro ⟨k,A⟩ hI
   replace hI:k≤P.length+Q.length - 1∧A.length=P.length+Q.length - 1∧∀j,j<k→A.getD j none=some (Po.pc P Q j):=hI
   try dsimp only
   obtain ⟨hk,hAl,hA⟩:=hI
   refine ze<|za<|e_p (zZ rfl rfl)<|zg<|zd<|ze<|zH rfl (fun h9=> ?_) (fun h9=> ?_)
   ·
    refine zA<|zd<|ze<|zy<|ze<|za<|e_mv rfl<|e_p (zc rfl)<|zg<|zd<|ze<|za<|zn rfl rfl (.n) ce101 (zHc) (.n) ?_
    rintro ⟨w310,w411⟩ -
    dsimp only [aq,nq,cq]
    refine zE rfl rfl (zr zr32 rfl) (fun b12=> ?_)
    refine zi 0 rfl rfl rfl rfl rfl sz32 rfl (.t4 .nil) .z<|zg<|zd<|ze<|ze<|za<|e_mv rfl<|e_mv rfl<|e_p (zL yb rfl)<|e_p (zda (z:=(((k:Nat):Int) - (((Q).length:Nat):Int))) rfl rfl (w64 om))<|e_p (zN (z:=((((k:Nat):Int) - (((Q).length:Nat):Int))+1)) rfl rfl (w64 om))<|e_p (zIe rfl rfl) ?_
    have e13:((max 0 ((((k:Nat):Int) - (((Q).length:Nat):Int))+1)):Int)=(((k+1 - Q.length):Nat):Int):=by omega
    rw [e13]
    refine e_p (zc rfl)<|zg<|zd<|zy<|zla (X:=Nat×Wd×Wd) (fun x:Nat×Wd×Wd=>(k+1 - Q.length)≤x.1∧x.1≤max (k+1 - Q.length) (min k (P.length - 1)+1)) (fun x=>[(8,.int .i64 ((x.1:Nat):Int)),(7,.pointer (some ⟨b12,0,none⟩)),(6,.int .i64 ((k:Nat):Int)),(30,.int .i64 ((k:Nat):Int)),(29,.int .i64 (((P.length+Q.length - 1):Nat):Int)),(5,.slice (some ⟨b8,0,none⟩) (P.length+Q.length - 1) (P.length+Q.length - 1)),(1,.slice p93 ((Q).length) c94),(0,.slice p91 ((P).length) c92),(4,.slice none 0 0)]) (fun x=>[boxA b12 32 (cw [x.2.1,x.2.2]),rowA 32 rE (some ⟨b8,0,none⟩) (P.length+Q.length - 1) A]) (fun x=>[qF true x.2.1 x.2.2 (Po.cv P Q k (k+1 - Q.length) (x.1 - (k+1 - Q.length))),qF true w310 w411 ((0:Int):Rat),slF rQ p93 c94 Q,slF rQ p91 c92 P,slF rE p1 c1 l1,slF rE p2 c2 l2]) (fun x:Nat×Wd×Wd=>k+1 - x.1) ((k+1 - Q.length),w310,w411) (show (k+1 - Q.length)≤(k+1 - Q.length)∧(k+1 - Q.length)≤max (k+1 - Q.length) (min k (P.length - 1)+1) from by exact ⟨Nat.le_refl _,Nat.le_max_left _ _⟩) (mR rfl) (ho:=((.of [0,0] rfl):PickO _ _ _)) ((.e (j:=0) rfl (by rw [Nat.sub_self];rfl) (.of [0,1,2,3,4] rfl)):SelR _ _ _) ?_
    rintro ⟨i,su,sv⟩ hi
    replace hi:(k+1 - Q.length)≤i∧i≤max (k+1 - Q.length) (min k (P.length - 1)+1):=hi
    try dsimp only [cw]
    refine ze<|ze<|za<|e_mv rfl<|e_mv rfl<|e_mv rfl<|e_p (zL yb rfl)<|e_p (zda (z:=((((P).length:Nat):Int) - 1)) rfl rfl (w64 om))<|e_p (zBg rfl rfl)<|e_p (zxb rfl rfl)<|zg<|zd<|zH rfl (fun h14=> ?_) (fun h14=> ?_)
    ·
     refine zA<|zd<|ze<|zy<|zV (OW:=[boxA b12 32 (cw [su,sv])]) (O:=[rowA 32 rE (some ⟨b8,0,none⟩) (P.length+Q.length - 1) A]) 13 mixed (.block (.then (.then (.block (.then (.block (.then (.then (.block (.then .ret)))))))))) kr<|e_uw 0 rfl rfl (zb 0 ty32 rfl rfl (.t4 .nil))<|e_dm 1 rfl rfl rfl<|e_dm 2 rfl rfl rfl<|d_vl 3 rfl rfl kr kr rfl rfl (zua (x0:=((P).getD i (0:Rat))) 3 i rfl yb sz32 rfl (by first|rfl|assumption|(simp;done)|omega) rfl rfl (gD (d:=(0:Rat)) om)) ?_
     rintro ⟨b15,o16,w17,w18⟩ -
     dsimp only [aq,nq,cq]
     refine zSa open_rQ<|e_u 4 rfl rfl (zR (j:=0) 0 ty32 rfl rfl rfl (.t4 .nil))<|e_dm 5 rfl rfl rfl<|e_dm 6 rfl rfl rfl<|e_dm 7 rfl rfl rfl<|e_pv 8 rfl rfl (zda (z:=(((k:Nat):Int) - ((i:Nat):Int))) rfl rfl (w64 om)) ?_
     have e19:((((k:Nat):Int) - ((i:Nat):Int)):Int)=(((k - i):Nat):Int):=by omega
     rw [e19]
     refine d_vl 9 rfl rfl kr kr rfl rfl (zua (x0:=((Q).getD (k - i) (0:Rat))) 4 (k - i) rfl yb sz32 rfl (by first|rfl|assumption|(simp;done)|omega) rfl rfl (gD (d:=(0:Rat)) om)) ?_
     rintro ⟨b20,o21,w22,w23⟩ -
     dsimp only [aq,nq,cq]
     refine zSa open_rQ<|e_u 10 rfl rfl (zR (j:=0) 0 ty32 rfl rfl rfl (.t4 .nil))<|e_one 11 (zm rfl rfl rfl rfl (.c rfl (.c rfl .n)) ce89 (zad (k1:=true) (u1:=w17) (v1:=w18) (q1:=((P).getD i (0:Rat))) (k2:=true) (u2:=w22) (v2:=w23) (q2:=((Q).getD (k - i) (0:Rat))) (hl:=by have h1:=hbP i;have h2:=hbQ (k - i);omega)) (.c (j:=3) rfl (.c (j:=1) rfl .n)) ?_)
     rintro ⟨w324,w425⟩ -
     dsimp only [aq,nq,cq]
     refine e_one 12 (zm rfl rfl rfl rfl (.c rfl (.c rfl .n)) ce102 (zCc (k1:=true) (u1:=su) (v1:=sv) (q1:=(Po.cv P Q k (k+1 - Q.length) (i - (k+1 - Q.length)))) (k2:=true) (u2:=w324) (v2:=w425) (q2:=((P).getD i (0:Rat))*((Q).getD (k - i) (0:Rat))) (hl:=by have h1:=hsP k (k+1 - Q.length) (i - (k+1 - Q.length)) om;have h2:=hbP i;have h3:=hbQ (k - i);have h4:=Big.hq_mul (P.getD i 0) (Q.getD (k - i) 0);omega)) (.c (j:=5) rfl (.c (j:=0) rfl .n)) ?_)
     rintro ⟨w326,w427⟩ -
     dsimp only [aq,nq,cq]
     refine e_one 13 (zw kr rfl rfl rfl rfl rfl sz32 rfl (.t4 .nil) ?_)
     refine zI kr<|zQ<|zd<|za<|e_mv rfl<|e_p (zN (z:=(((i+1):Nat):Int)) rfl rfl (w64 om))<|e_p (zc rfl)<|zg<|zea ((i+1),w326,w427) (show (k+1 - Q.length)≤(i+1)∧(i+1)≤max (k+1 - Q.length) (min k (P.length - 1)+1) from by exact ⟨by omega,by omega⟩) (by show k+1 - (i+1)<k+1 - i;omega) (mR rfl) (ho:=((.of [0,0] rfl):PickO _ _ _)) ((.e (j:=0) rfl (by rw [Po.cv_step _ _ hi.1]) (.of [7,8,9,10,11] rfl)):SelR _ _ _)
    ·
     refine zha<|zj<|zj<|zx<|zd<|za<|e_mv rfl<|e_mv rfl<|e_ru (zb 0 ty32 rfl rfl (.t4 .nil))<|e_p (zaa (j:=k) ya sz32 rfl rfl rfl om)<|zIa 1 rfl rfl rfl (zT (r:=rE) (j:=k) (x0:=(some (Po.cv P Q k (k+1 - Q.length) (i - (k+1 - Q.length))))) (γ0:=(su,sv)) rfl rfl (by first|omega|(rw [List.length_map];omega)|(simp only [List.length_set];omega)|(simp;done)|(simp;omega)) rfl rfl sz32 (fun g hr=>qF_e (Holds.get 0 rfl hr))) (fun _=>(.s .z)) (fun _ _=> ?_)
     refine zg<|zQ<|zd<|za<|e_p (zN (z:=(((k+1):Nat):Int)) rfl rfl (w64 om))<|e_mv rfl<|zg<|zea ((k+1),(A.set k (some (Po.cv P Q k (k+1 - Q.length) (i - (k+1 - Q.length)))))) (show (k+1)≤P.length+Q.length - 1∧(A.set k (some (Po.cv P Q k (k+1 - Q.length) (i - (k+1 - Q.length))))).length=P.length+Q.length - 1∧∀j,j<(k+1)→(A.set k (some (Po.cv P Q k (k+1 - Q.length) (i - (k+1 - Q.length))))).getD j none=some (Po.pc P Q j) from by exact ⟨by omega,by rw [List.length_set];exact hAl,Po.set_step hA om (Po.pc_end hi.1 ass hi.2 hPQ.1)⟩) (by show P.length+Q.length - 1 - (k+1)<P.length+Q.length - 1 - k;omega) (mR rfl) (ho:=((.c (i:=1) rfl .n):PickO _ _ _)) ((.of [2,3,4,5] rfl):SelR _ _ _)
   ·
    refine zha<|zj<|zj<|zx<|zd<|ze<|za<|e_mv rfl<|zba 0 rfl .z<|zn rfl rfl (.c rfl .n) ce67 (zPa (p1:=some ⟨b8,0,none⟩) (n1:=(P.length+Q.length - 1)) (c1:=(P.length+Q.length - 1)) (l1:=A) (hn1:=cbo) (hm1:=cbo)) (.c (j:=0) rfl .n) ?_
    rintro ⟨p928,c929⟩ -
    dsimp only [aq,nq,cq]
    refine e_p (zc rfl)<|zg<|zd<|zD ?_
    have hv9:=Po.vals_mul hP hQ om rfl hAl (fun j hj=>hA j om)
    exact zv Tryz.results75 (p928,c929) trivial (zo rfl) (by rw [hv9]) (ho:=oN) ((.e (j:=0) rfl (by rw [hv9]) .n):SelR _ _ _)
end Go.Proofs.YtahiajepeodhoaaGreat.Sp
namespace Go.Proofs.YtahiajepeodhoaaGreat.Sp
open Go
set_option linter.unusedVariables false
set_option maxRecDepth 100000
set_option maxHeartbeats 8000000
theorem zgc {p1:Option Addr} {n1:Nat} {c1:Nat} {l1:List (Option Rat)} {u1:Wd} {v1:Wd} {x1:Option Rat} (hn1:l1.length=n1) (hm1:n1≤1000) (hm9:n1≤900) (hb1:∀i,yf ((Po.vals l1).getD i 0)≤200000000000) (hb2:∀i,yf ((Po.vals [x1]).getD i 0)≤200000000000) (hs:∀k lo n,lo+n≤k+1→yf (Po.cv (Po.cl (Po.vals l1)) (Po.cl (Po.vals [x1])) k lo n)≤200000000000):Con yd 74 [.slice p1 n1 c1,.agg #[u1.b,u1.l,v1.b,v1.l]] [] [slF rE p1 c1 l1,eF u1 v1 x1] (Y:=(Option Addr)×Nat) (fun y=>True) (fun y=> .slice (y.1) ((Po.mul (Po.vals l1) (Po.vals [x1])).length) (y.2)) (fun y=>[]) (fun y=>[slF rQ (y.1) (y.2) (Po.mul (Po.vals l1) (Po.vals [x1]))]):=by
 refine zk Tryz.func74 rfl rfl rfl (fun c=> ?_)
 show RunC _ _ _ _ _ [(0,.slice p1 n1 c1),(1,.agg #[u1.b,u1.l,v1.b,v1.l])] [] [slF rE p1 c1 l1,eF u1 v1 x1]
 refine zU 0 rfl (fun hL0=> ?_)
 refine ze<|za<|zE rfl rfl (zM rfl rfl) (fun b1=> ?_)
 refine e_p (zc rfl)<|zg<|zd<|ze<|za<|e_mv rfl<|e_ru (zb 0 ty32 rfl rfl (.t4 .nil))<|zva rfl rfl (zt (r:=rE) (k:=1) yb inf32 rfl dd dd dd (.c (x:=x1) (cs:=[u1.b,u1.l,v1.b,v1.l]) (u1,v1) rfl rfl rfl (fun g hr=>Holds.get 1 rfl hr) .n)) (fun b2 _=> ?_)
 refine zba 0 rfl .z<|zn rfl rfl (.c rfl (.c rfl .n)) ce75 (zbd (p1:=p1) (n1:=n1) (c1:=c1) (l1:=l1) (p2:=some ⟨b2,0,none⟩) (n2:=1) (c2:=1) (l2:=[x1]) (hn1:=ass) (hm1:=ass) (hn2:=cbo) (hm2:=cbo) (hm12:=cbo) (hb1:=ass) (hb2:=ass) (hs:=ass)) (.c (j:=1) rfl (.c (j:=0) rfl .n)) ?_
 rintro ⟨p93,c94⟩ -
 dsimp only [aq,nq,cq]
 refine e_p (zc rfl)<|zg<|zd<|zD ?_
 exact zv Tryz.results74 (p93,c94) trivial (zo rfl) rfl (ho:=oN) (s0 rfl)
theorem zrd {p1:Option Addr} {n1:Nat} {c1:Nat} {l1:List (Option Rat)} {u1:Wd} {v1:Wd} {x1:Option Rat} (hn1:l1.length=n1) (hm1:n1≤1000) (hx:yf (x1.getD 0)≤200000000000) (hb1:∀i,yf ((l1.getD i none).getD 0)≤200000000000) (hs:∀i,yf (Po.ev (x1.getD 0) ((Po.vals l1).drop i))≤200000000000):Con yd 70 [.slice p1 n1 c1,.agg #[u1.b,u1.l,v1.b,v1.l]] [] [slF rE p1 c1 l1,eF u1 v1 x1] (Y:=Wd×Wd) (fun y=>True) (fun y=> .agg #[y.1.b,y.1.l,y.2.b,y.2.l]) (fun y=>[]) (fun y=>[qF true y.1 y.2 (Po.ev (x1.getD 0) (Po.vals l1))]):=by
 refine zk Tryz.func70 rfl rfl rfl (fun c=> ?_)
 show RunC _ _ _ _ _ [(0,.slice p1 n1 c1),(1,.agg #[u1.b,u1.l,v1.b,v1.l])] [] [slF rE p1 c1 l1,eF u1 v1 x1]
 refine zU 0 rfl (fun hL0=> ?_)
 refine ze<|za<|zE rfl rfl (zM rfl rfl) (fun b1=> ?_)
 refine zE rfl rfl (zr zr32 rfl) (fun b2=> ?_)
 refine zg<|zd<|ze<|zBb (qF x1.isSome u1 v1 (x1.getD 0)) (eF_weak 1 rfl)<|za<|zn rfl rfl (.n) ce101 (zHc) (.n) ?_
 rintro ⟨w33,w44⟩ -
 dsimp only [aq,nq,cq]
 refine zE rfl rfl (zr zr32 rfl) (fun b5=> ?_)
 refine zi 0 rfl rfl rfl rfl rfl sz32 rfl (.t4 .nil) .z<|zg<|zd<|ze<|ze<|za<|e_mv rfl<|e_p (zL yb rfl)<|e_p (zda (z:=(((n1:Nat):Int) - 1)) rfl rfl (w64 om))<|e_p (zc rfl)<|zg<|zd<|zy<|zla (X:=Nat×Wd×Wd) (fun x:Nat×Wd×Wd=>x.1≤n1) (fun x=>[(6,.int .i64 (((x.1:Nat):Int) - 1)),(5,.pointer (some ⟨b5,0,none⟩)),(4,.pointer (some ⟨b2,0,none⟩)),(3,.pointer (some ⟨b1,0,none⟩)),(0,.slice p1 n1 c1)]) (fun x=>[boxA b5 32 (cw [x.2.1,x.2.2]),boxA b2 32 (cw [wz,wz]),boxA b1 32 (cw [u1,v1])]) (fun x=>[qF true x.2.1 x.2.2 (Po.ev (x1.getD 0) ((Po.vals l1).drop x.1)),qF true w33 w44 ((0:Int):Rat),qF x1.isSome u1 v1 (x1.getD 0),slF rE p1 c1 l1,eF u1 v1 x1]) (fun x:Nat×Wd×Wd=>x.1) (n1,w33,w44) (show n1≤n1 from by exact Nat.le_refl _) (mR rfl) (ho:=((.of [0,0,0] rfl):PickO _ _ _)) ((.e (j:=0) rfl (by rw [Po.ev_top hn1]) (.of [0,1,2,3] rfl)):SelR _ _ _) ?_
 rintro ⟨i,su,sv⟩ hI
 replace hI:i≤n1:=hI
 try dsimp only [cw]
 refine ze<|ze<|za<|e_mv rfl<|e_p (zXa rfl rfl)<|zg<|zd<|zH rfl (fun h12=> ?_) (fun h12=> ?_)
 ·
  refine zA<|zd<|ze<|zy<|zV (OW:=[boxA b5 32 (cw [su,sv])]) (O:=[boxA b2 32 (cw [wz,wz]),boxA b1 32 (cw [u1,v1])]) 8 mixed (.block (.then (.then (.block (.then .ret))))) kr<|e_uw 0 rfl rfl (zb 0 ty32 rfl rfl (.t4 .nil))<|e_uw 1 rfl rfl (zb 2 ty32 rfl rfl (.t4 .nil))<|e_dm 3 rfl rfl rfl<|e_dm 4 rfl rfl rfl ?_
  have e6:((((i:Nat):Int) - 1):Int)=(((i - 1):Nat):Int):=by omega
  rw [e6]
  refine d_vl 5 rfl rfl kr kr rfl rfl (zua (x0:=(l1.getD (i - 1) (none:Option Rat))) 3 (i - 1) rfl yb sz32 rfl (by first|rfl|assumption|(simp;done)|omega) rfl rfl (gD (d:=(none:Option Rat)) om)) ?_
  rintro ⟨b7,o8,w9,w10⟩ -
  dsimp only [aq,nq,cq]
  refine zSa open_rE<|e_u 6 rfl rfl (zR (j:=0) 0 ty32 rfl rfl rfl (.t4 .nil))<|e_one 2 (zm rfl rfl rfl rfl (.c rfl (.c rfl .n)) ce89 (zad (k1:=true) (u1:=su) (v1:=sv) (q1:=(Po.ev (x1.getD 0) ((Po.vals l1).drop i))) (k2:=x1.isSome) (u2:=u1) (v2:=v1) (q2:=(x1.getD 0)) (hl:=by have h1:=hs i;omega)) (.c (j:=3) rfl (.c (j:=5) rfl .n)) ?_)
  rintro ⟨w311,w412⟩ -
  dsimp only [aq,nq,cq]
  refine e_one 7 (zm rfl rfl rfl rfl (.c rfl (.c rfl .n)) ce102 (zCc (k1:=true) (u1:=w311) (v1:=w412) (q1:=(Po.ev (x1.getD 0) ((Po.vals l1).drop i))*(x1.getD 0)) (k2:=(l1.getD (i - 1) (none:Option Rat)).isSome) (u2:=w9) (v2:=w10) (q2:=((l1.getD (i - 1) (none:Option Rat)).getD 0)) (hl:=by have h1:=hs i;have h2:=Big.hq_mul (Po.ev (x1.getD 0) ((Po.vals l1).drop i)) (x1.getD 0);have h3:=hb1 (i - 1);omega)) (.c (j:=0) rfl (.c (j:=2) rfl .n)) ?_)
  rintro ⟨w313,w414⟩ -
  dsimp only [aq,nq,cq]
  refine e_one 8 (zw kr rfl rfl rfl rfl rfl sz32 rfl (.t4 .nil) ?_)
  refine zI kr<|zQ<|zd<|za<|e_mv rfl<|e_p (zda (z:=((((i - 1):Nat):Int) - 1)) rfl rfl (w64 om))<|e_p (zc rfl)<|zg<|zea ((i - 1),w313,w414) (show (i - 1)≤n1 from by omega) om ((.e rfl (by first|rfl|(congr 1;done)|(congr 1;omega)) (.of rfl)):SubM _ _) (ho:=((.of [0,0,0] rfl):PickO _ _ _)) ((.e (j:=0) rfl (by rw [← Po.vals_get,Po.ev_step om (by rw [Po.vals_len];omega)]) (.of [6,7,8,9] rfl)):SelR _ _ _)
 ·
  refine zha<|zj<|zj<|zx<|zd<|ze<|za<|e_ru (zb 0 ty32 rfl rfl (.t4 .nil))<|zn rfl rfl (.c rfl .n) ce97 (zAa (k1:=true) (u1:=su) (v1:=sv) (q1:=(Po.ev (x1.getD 0) ((Po.vals l1).drop i)))) (.c (j:=0) rfl .n) ?_
  rintro ⟨w315,w416⟩ -
  dsimp only [aq,nq,cq]
  refine zi 1 rfl rfl rfl rfl rfl sz32 rfl (.t4 .nil) (.s .z)<|zg<|zd<|zD ?_
  have hi0:i=0:=by omega
  have hv9:(Po.ev (x1.getD 0) ((Po.vals l1).drop i))=Po.ev (x1.getD 0) (Po.vals l1):=by rw [hi0];rfl
  exact zv Tryz.results70 (w315,w416) trivial (zp 1 ty32 rfl rfl (.t4 .nil)) rfl (ho:=oN) ((.e (j:=0) rfl (by rw [← hv9]) .n):SelR _ _ _)
theorem zqc {p1:Option Addr} {n1:Nat} {c1:Nat} {l1:List (Option Rat)} (hn1:l1.length=n1) (hm1:n1≤1000) (hb1:∀i,yf ((l1.getD i none).getD 0)≤200000000000):Con yd 76 [.slice p1 n1 c1] [] [slF rE p1 c1 l1] (Y:=(Option Addr)×Nat) (fun y=>True) (fun y=> .slice (y.1) ((Po.der (Po.vals l1)).length) (y.2)) (fun y=>[]) (fun y=>[slF rQ (y.1) (y.2) (Po.der (Po.vals l1))]):=by
 refine zk Tryz.func76 rfl rfl rfl (fun c=> ?_)
 show RunC _ _ _ _ _ [(0,.slice p1 n1 c1)] [] [slF rE p1 c1 l1]
 refine zU 0 rfl (fun hL0=> ?_)
 refine ze<|za<|e_p (zc rfl)<|zg<|zd<|ze<|za<|e_p (zc rfl)<|zg<|zd<|ze<|ze<|zJd 32 rQ<|za<|e_p (zc rfl)<|zg<|zd<|zy<|zla (X:=Nat×(Option Addr)×Nat×(List Rat)) (fun x:Nat×(Option Addr)×Nat×(List Rat)=>1≤x.1∧x.1≤max 1 n1∧x.2.2.2=Po.gen (Po.dg l1) (x.1 - 1)) (fun x=>[(3,.slice (x.2.1) (x.2.2.2.length) (x.2.2.1)),(4,.int .i64 ((x.1:Nat):Int)),(2,.slice none 0 0),(0,.slice p1 n1 c1)]) (fun x=>[rowA 32 rQ (x.2.1) (x.2.2.1) (x.2.2.2)]) (fun x=>[slF rE p1 c1 l1]) (fun x:Nat×(Option Addr)×Nat×(List Rat)=>n1 - x.1) (1,none,0,([]:List Rat)) (show 1≤1∧1≤max 1 n1∧([]:List Rat)=Po.gen (Po.dg l1) (1 - 1) from by exact ⟨by omega,by omega,rfl⟩) ((.e rfl cgs (.e rfl cgs (.c rfl (.c rfl .n)))):SubM _ _) (ho:=((.e (i:=0) rfl cgs .n):PickO _ _ _)) (s0 rfl) ?_
 rintro ⟨i,pR,cR,A⟩ hI
 replace hI:1≤i∧i≤max 1 n1∧A=Po.gen (Po.dg l1) (i - 1):=hI
 try dsimp only
 obtain ⟨hi1,hi,hA⟩:=hI
 have hAl:A.length=i - 1:=by rw [hA,Po.gen_len]
 refine ze<|ze<|za<|e_mv rfl<|e_mv rfl<|e_p (zL yb rfl)<|e_p (zZ rfl rfl)<|zg<|zd<|zH rfl (fun h1=> ?_) (fun h1=> ?_)
 ·
  refine zA<|zd<|ze<|zy<|zV (OW:=[rowA 32 rQ pR cR A]) (O:=[]) 9 mixed (.block (.then (.then (.block (.then .ret))))) kr<|e_dm 0 rfl rfl rfl<|e_dm 1 rfl rfl rfl<|e_dm 3 rfl rfl rfl<|e_dm 4 rfl rfl rfl<|d_vl 5 rfl rfl kr kr rfl rfl (zua (x0:=(l1.getD i (none:Option Rat))) 0 i rfl yb sz32 rfl (by first|rfl|assumption|(simp;done)|omega) rfl rfl (gD (d:=(none:Option Rat)) om)) ?_
  rintro ⟨b2,o3,w4,w5⟩ -
  dsimp only [aq,nq,cq]
  refine zSa open_rE<|e_u 6 rfl rfl (zR (j:=0) 0 ty32 rfl rfl rfl (.t4 .nil))<|e_one 2 (zm rfl rfl rfl rfl (.c rfl .n) ce58 (zoa (z:=((i:Nat):Int)) (hz:=cbo)) (.n) ?_)
  rintro ⟨w36,w47⟩ -
  dsimp only [aq,nq,cq]
  refine e_one 7 (zm rfl rfl rfl rfl (.c rfl (.c rfl .n)) ce89 (zad (k1:=true) (u1:=w36) (v1:=w47) (q1:=((((i:Nat):Int):Int):Rat)) (k2:=(l1.getD i (none:Option Rat)).isSome) (u2:=w4) (v2:=w5) (q2:=((l1.getD i (none:Option Rat)).getD 0)) (hl:=by have h1:=hb1 i;have h2:=Big.hq_64 (z:=((i:Nat):Int)) om om;omega)) (.c (j:=0) rfl (.c (j:=2) rfl .n)) ?_)
  rintro ⟨w38,w49⟩ -
  dsimp only [aq,nq,cq]
  refine e_one 8 (zJa rfl rfl rfl rfl (zt (r:=rQ) (k:=1) ya inf32 rfl dd dd dd (.c (x:=(((((i:Nat):Int):Int):Rat)*((l1.getD i (none:Option Rat)).getD 0))) (cs:=[w38.b,w38.l,w49.b,w49.l]) (w38,w49) rfl rfl rfl (fun g hr=>Holds.get 0 rfl hr) .n)) (fun b10 _=> ?_))
  refine zja 0 rfl .z<|e_one 9 (zId (A':=fun v:Option Addr×Nat=>rowA 32 rQ v.1 v.2 (A++([(((((i:Nat):Int):Int):Rat)*((l1.getD i (none:Option Rat)).getD 0))]))) kr rfl rfl rfl (zsa 0 rfl ya inf32 dd rfl rfl (by first|rfl|assumption|(simp;done)|omega) rfl (by first|rfl|assumption|(simp;done)|omega) om om) ?_)
  rintro ⟨p11,c12⟩ -
  dsimp only [aq,nq,cq]
  refine e_pv 10 rfl rfl (zc rfl)<|zI kr<|zQ<|zd<|za<|e_mv rfl<|e_p (zN (z:=(((i+1):Nat):Int)) rfl rfl (w64 om))<|e_p (zc rfl)<|zg<|zea ((i+1),p11,c12,(A++([(((((i:Nat):Int):Int):Rat)*((l1.getD i (none:Option Rat)).getD 0))]))) (show 1≤(i+1)∧(i+1)≤max 1 n1∧(A++([(((((i:Nat):Int):Int):Rat)*((l1.getD i (none:Option Rat)).getD 0))]))=Po.gen (Po.dg l1) ((i+1) - 1) from by exact ⟨by omega,by omega,by rw [hA];exact Po.dg_step hi1⟩) (by show n1 - (i+1)<n1 - i;omega) ((.e rfl (by simp) (.of rfl)):SubM _ _) (ho:=(o0 rfl)) ((.c (j:=6) rfl .n):SelR _ _ _)
 ·
  refine zha<|zj<|zj<|zx<|zd<|ze<|zlb 0 rfl .z<|za<|e_mv rfl<|zra (addQE 0 rfl)<|zn rfl rfl (.c rfl .n) ce67 (zPa (p1:=pR) (n1:=A.length) (c1:=cR) (l1:=(A.map some)) (hn1:=by exact List.length_map _) (hm1:=cbo)) (.c (j:=0) rfl .n) ?_
  rintro ⟨p913,c914⟩ -
  dsimp only [aq,nq,cq]
  refine e_p (zc rfl)<|zg<|zd<|zD ?_
  have hv9:Po.cl (Po.vals (A.map some))=(Po.der (Po.vals l1)):=by rw [hA];exact Po.dg_der hn1 om
  exact zv Tryz.results76 (p913,c914) trivial (zo rfl) (by rw [hv9]) (ho:=oN) ((.e (j:=0) rfl (by rw [hv9]) .n):SelR _ _ _)
end Go.Proofs.YtahiajepeodhoaaGreat.Sp
namespace Go.Proofs.YtahiajepeodhoaaGreat.Sp
open Go
set_option linter.unusedVariables false
set_option maxRecDepth 100000
set_option maxHeartbeats 8000000
theorem zrc {p1:Option Addr} {n1:Nat} {c1:Nat} {l1:List (Option Rat)} {p2:Option Addr} {n2:Nat} {c2:Nat} {l2:List (Option Rat)} (hn1:l1.length=n1) (hm1:n1≤1000) (hn2:l2.length=n2) (hm2:n2≤1000) (hm12:n1+n2≤400) (hb2:∀i,yf ((Po.vals l2).getD i 0)≤60000000000) (hok:Po.dok (Po.cl (Po.vals l2)) ((Po.cl (Po.vals l1)).length+1) [] (Po.cl (Po.vals l1))):Con yd 150 [.slice p1 n1 c1,.slice p2 n2 c2] [] [slF rE p1 c1 l1,slF rE p2 c2 l2] (Y:=(Option Addr)×Nat×(Option Addr)×Nat) (fun y=>True) (fun y=> .tuple #[.slice (y.1) ((Po.dq (Po.vals l1) (Po.vals l2)).length) (y.2.1),.slice (y.2.2.1) ((Po.dr (Po.vals l1) (Po.vals l2)).length) (y.2.2.2),.int .i64 (Po.dc (Po.vals l2))]) (fun y=>[]) (fun y=>[slF rQ (y.1) (y.2.1) (Po.dq (Po.vals l1) (Po.vals l2)),slF rQ (y.2.2.1) (y.2.2.2) (Po.dr (Po.vals l1) (Po.vals l2))]):=by
 refine zk Tryz.func150 rfl rfl rfl (fun c=> ?_)
 show RunC _ _ _ _ _ [(0,.slice p1 n1 c1),(1,.slice p2 n2 c2)] [] [slF rE p1 c1 l1,slF rE p2 c2 l2]
 refine zU 0 rfl (fun hL0=> ?_)
 refine zU 1 rfl (fun hL1=> ?_)
 refine ze<|za<|e_p (zc rfl)<|e_p (zc rfl)<|e_p (zc rfl)<|zg<|zd<|ze<|za<|e_mv rfl<|zn rfl rfl (.c rfl .n) ce67 (zPa (p1:=p1) (n1:=n1) (c1:=c1) (l1:=l1) (hn1:=ass) (hm1:=ass)) (.c (j:=0) rfl .n) ?_
 rintro ⟨p91,c92⟩ -
 dsimp only [aq,nq,cq]
 refine e_mv rfl<|zn rfl rfl (.c rfl .n) ce67 (zPa (p1:=p2) (n1:=n2) (c1:=c2) (l1:=l2) (hn1:=ass) (hm1:=ass)) (.c (j:=2) rfl .n) ?_
 rintro ⟨p93,c94⟩ -
 dsimp only [aq,nq,cq]
 refine e_p (zc rfl)<|e_p (zc rfl)<|zg<|zd<|ze<|ze ?_
 obtain ⟨P,hP⟩:∃z,z=(Po.cl (Po.vals l1)):=⟨_,rfl⟩
 have e5:(Po.cl (Po.vals l1):List Rat)=P:=by exact hP.symm
 rw [e5]
 obtain ⟨Q,hQ⟩:∃z,z=(Po.cl (Po.vals l2)):=⟨_,rfl⟩
 have e6:(Po.cl (Po.vals l2):List Rat)=Q:=by exact hQ.symm
 rw [e6]
 have hPl:P.length≤n1:=by rw [hP,←hn1,←Po.vals_len l1];exact Po.cl_le_len _
 have hQl:Q.length≤n2:=by rw [hQ,←hn2,←Po.vals_len l2];exact Po.cl_le_len _
 have hQc:Po.cl Q=Q:=by rw [hQ];exact Po.cl_cl _
 have hPc:Po.cl P=P:=by rw [hP];exact Po.cl_cl _
 have hbQ:Po.bd 60000000000 Q:=fun i=>by rw [hQ,Po.cl_get];exact hb2 i
 refine za<|e_mv rfl<|e_p (zL yb rfl)<|e_p (zqa rfl rfl)<|zg<|zd<|zH rfl (fun h20=> ?_) (fun h20=> ?_)
 ·
  refine ze<|za<|e_p (zc rfl)<|e_p (zc rfl)<|e_p (zc rfl)<|zg<|zd<|zD<|zl<|zjc rQ ?_
  have h0:(Po.cl (Po.vals l2)).length=0:=by rw [← hQ];omega
  have hv8:(Po.dq (Po.vals l1) (Po.vals l2))=[]:=if_pos h0
  have hv9:(Po.dr (Po.vals l1) (Po.vals l2))=[]:=if_pos h0
  have hv7:(Po.dc (Po.vals l2))=14:=if_pos h0
  exact zMc Tryz.results150 (none,0,none,0) trivial (zo rfl) (zo rfl) (zo rfl) (by rw [hv7,hv8,hv9];rfl) (ho:=oN) ((.e (j:=0) rfl (by rw [hv8]) (.e (j:=0) rfl (by rw [hv9]) .n)):SelR _ _ _)
 ·
  have hQ0:0<Q.length:=by omega
  have hQn:Q≠[]:=fun e=>by rw [e] at hQ0;exact absurd hQ0 dd
  refine zA<|zd<|ze<|c_nilF rQ<|za<|e_p (zc rfl)<|zg<|zd<|ze<|zy<|zla (X:=Nat×(List Rat)×(List Rat)×(Option Addr)×Nat×(Option Addr)×Nat) (fun x:Nat×(List Rat)×(List Rat)×(Option Addr)×Nat×(Option Addr)×Nat=>(x.2.2.1.length<x.1∧x.2.2.1.length≤400∧x.2.1.length≤400)∧Po.dok Q x.1 x.2.1 x.2.2.1∧Po.dv Q P.length [] P=Po.dv Q (x.1 - 1) x.2.1 x.2.2.1) (fun x=>[(7,.slice (x.2.2.2.2.2.1) (x.2.2.1.length) (x.2.2.2.2.2.2)),(8,.slice (x.2.2.2.1) (x.2.1.length) (x.2.2.2.2.1)),(1,.slice p93 ((Q).length) c94),(6,.int .i64 0),(5,.slice none 0 0),(4,.slice none 0 0)]) (fun x=>[]) (fun x=>[slF rQ (x.2.2.2.1) (x.2.2.2.2.1) (x.2.1),slF rQ (x.2.2.2.2.2.1) (x.2.2.2.2.2.2) (x.2.2.1),slF rQ none 0 ([]),slF rQ p93 c94 Q,slF rQ p91 c92 P,slF rE p1 c1 l1,slF rE p2 c2 l2]) (fun x:Nat×(List Rat)×(List Rat)×(Option Addr)×Nat×(Option Addr)×Nat=>x.1) ((P.length+1),([]:List Rat),P,none,0,p91,c92) (show (P.length<(P.length+1)∧P.length≤400∧([]:List Rat).length≤400)∧Po.dok Q (P.length+1) ([]:List Rat) P∧Po.dv Q P.length [] P=Po.dv Q ((P.length+1) - 1) ([]:List Rat) P from by exact ⟨by simp;omega,by rw [hP,hQ];exact hok,rfl⟩) ((.e rfl cgs (.e rfl cgs (.of rfl))):SubM _ _) (ho:=oN) ((.e (j:=0) rfl rfl (.e (j:=2) rfl rfl (.of [0,1,2,3,4] rfl))):SelR _ _ _) ?_
  rintro ⟨f,a,r,pa,ca,pr,cr⟩ hI
  replace hI:(r.length<f∧r.length≤400∧a.length≤400)∧Po.dok Q f a r∧Po.dv Q P.length [] P=Po.dv Q (f - 1) a r:=hI
  try dsimp only
  obtain ⟨⟨hf,hrl,hal⟩,hdk,hdv⟩:=hI
  refine ze<|ze<|za<|e_mv rfl<|e_p (zL yb rfl)<|e_mv rfl<|e_p (zL yb rfl)<|e_p (zXa rfl rfl)<|zg<|zd<|zH rfl (fun h25=> ?_) (fun h25=> ?_)
  ·
   refine zA<|zd<|zy<|ze<|za<|e_mv rfl<|e_p (zL yb rfl)<|e_mv rfl<|e_p (zL yb rfl)<|e_p (zda (z:=(((r.length:Nat):Int) - (((Q).length:Nat):Int))) rfl rfl (w64 om)) ?_
   have e7:((((r.length:Nat):Int) - (((Q).length:Nat):Int)):Int)=(((r.length - Q.length):Nat):Int):=by omega
   rw [e7]
   refine e_p (zc rfl)<|zg<|zd<|ze<|zV (OW:=[]) (O:=[]) 17 mixed (.then (.block (.then (.block (.then .ret))))) kr<|e_dm 0 rfl rfl rfl<|e_dm 1 rfl rfl rfl<|e_pv 2 rfl rfl (zL yb rfl)<|e_pv 3 rfl rfl (zda (z:=(((r.length:Nat):Int) - 1)) rfl rfl (w64 om)) ?_
   have e8:((((r.length:Nat):Int) - 1):Int)=(((r.length - 1):Nat):Int):=by omega
   rw [e8]
   refine d_vl 4 rfl rfl kr kr rfl rfl (zua (x0:=(r.getD (r.length - 1) (0:Rat))) 1 (r.length - 1) rfl yb sz32 rfl (by first|rfl|assumption|(simp;done)|omega) rfl rfl (gD (d:=(0:Rat)) om)) ?_
   rintro ⟨b9,o10,w11,w12⟩ -
   dsimp only [aq,nq,cq]
   refine zSa open_rQ<|e_u 5 rfl rfl (zR (j:=0) 0 ty32 rfl rfl rfl (.t4 .nil))<|e_dm 6 rfl rfl rfl<|e_dm 7 rfl rfl rfl<|e_pv 8 rfl rfl (zL yb rfl)<|e_pv 9 rfl rfl (zda (z:=((((Q).length:Nat):Int) - 1)) rfl rfl (w64 om)) ?_
   have e13:(((((Q).length:Nat):Int) - 1):Int)=(((Q.length - 1):Nat):Int):=by omega
   rw [e13]
   refine d_vl 10 rfl rfl kr kr rfl rfl (zua (x0:=((Q).getD (Q.length - 1) (0:Rat))) 5 (Q.length - 1) rfl yb sz32 rfl (by first|rfl|assumption|(simp;done)|omega) rfl rfl (gD (d:=(0:Rat)) om)) ?_
   rintro ⟨b14,o15,w16,w17⟩ -
   dsimp only [aq,nq,cq]
   refine zSa open_rQ<|e_u 11 rfl rfl (zR (j:=0) 0 ty32 rfl rfl rfl (.t4 .nil))<|zW (m':=[(43,.agg (cw [w16,w17]).toArray),(37,.agg (cw [w11,w12]).toArray),(9,.int .i64 (((r.length - Q.length):Nat):Int)),(7,.slice pr (r.length) cr),(8,.slice pa (a.length) ca),(1,.slice p93 ((Q).length) c94),(6,.int .i64 0),(5,.slice none 0 0),(4,.slice none 0 0)]) (R':=[qF true w16 w17 ((Q).getD (Q.length - 1) (0:Rat)),qF true w11 w12 (r.getD (r.length - 1) (0:Rat)),slF rQ pa ca a,slF rQ pr cr r,slF rQ none 0 ([]),slF rQ p93 c94 Q,slF rQ p91 c92 P,slF rE p1 c1 l1,slF rE p2 c2 l2]) (mR rfl) (List.Perm.refl _) (List.Perm.refl _) ((.of [1,3,4,5,6,7,8,9,10] rfl):SelR _ _ _)<|zta (X:=Wd×Wd×Nat) (k':=0) (L':=(lb 19 524287)) (fun (u12_1,u12_2,u16_1)=>([(10,.pointer (some ⟨u16_1,0,none⟩)),(9,.int .i64 (((r.length - Q.length):Nat):Int)),(7,.slice pr (r.length) cr),(8,.slice pa (a.length) ca),(1,.slice p93 ((Q).length) c94),(6,.int .i64 0),(5,.slice none 0 0),(4,.slice none 0 0)],[boxA u16_1 32 (cw [u12_1,u12_2])],[],[qF true u12_1 u12_2 ((r.getD (r.length - 1) (0:Rat)) / ((Q).getD (Q.length - 1) (0:Rat))),qF true w16 w17 ((Q).getD (Q.length - 1) (0:Rat)),qF true w11 w12 (r.getD (r.length - 1) (0:Rat)),slF rQ pa ca a,slF rQ pr cr r,slF rQ none 0 ([]),slF rQ p93 c94 Q,slF rQ p91 c92 P,slF rE p1 c1 l1,slF rE p2 c2 l2])) ?_ (fun hD0=> ?_)
   ·
    rintro ⟨u12_1,u12_2,u16_1⟩
    dsimp only [cw]
    refine zI kr<|zd<|ze<|za<|e_mv rfl<|e_p (zN (z:=((((r.length - Q.length)+1):Nat):Int)) rfl rfl (w64 om)) ?_
    have e18:(((((r.length - Q.length)+1):Nat):Int):Int)=(((r.length - Q.length+1):Nat):Int):=by omega
    rw [e18]
    refine zva rfl rfl (zab (r:=rE) (k:=(r.length - Q.length+1)) (x0:=none) (γ0:=(wz,wz)) yb inf32 rfl rfl rfl rfl om om rfl (fun g _=>eF_wz g) dd) (fun b19 _=> ?_)
    refine e_p (zc rfl)<|zg<|zd<|ze<|ze<|za<|e_mv rfl<|e_p (zL yb rfl)<|e_mv rfl<|zg<|zd<|zy<|zla (X:=Nat×(List (Option Rat))) (fun x:Nat×(List (Option Rat))=>x.1≤r.length - Q.length+1∧x.2.length=r.length - Q.length+1∧∀j,j<x.1→x.2.getD j none=some ((0:Int):Rat)) (fun x=>[(52,.int .i64 ((x.1:Nat):Int)),(51,.int .i64 (((r.length - Q.length+1):Nat):Int)),(12,.slice (some ⟨b19,0,none⟩) (r.length - Q.length+1) (r.length - Q.length+1)),(10,.pointer (some ⟨u16_1,0,none⟩)),(9,.int .i64 (((r.length - Q.length):Nat):Int)),(7,.slice pr (r.length) cr),(8,.slice pa (a.length) ca),(1,.slice p93 ((Q).length) c94),(6,.int .i64 0),(5,.slice none 0 0),(4,.slice none 0 0)]) (fun x=>[rowA 32 rE (some ⟨b19,0,none⟩) (r.length - Q.length+1) (x.2),boxA u16_1 32 (cw [u12_1,u12_2])]) (fun x=>[qF true u12_1 u12_2 ((r.getD (r.length - 1) (0:Rat)) / ((Q).getD (Q.length - 1) (0:Rat))),qF true w16 w17 ((Q).getD (Q.length - 1) (0:Rat)),qF true w11 w12 (r.getD (r.length - 1) (0:Rat)),slF rQ pa ca a,slF rQ pr cr r,slF rQ none 0 ([]),slF rQ p93 c94 Q,slF rQ p91 c92 P,slF rE p1 c1 l1,slF rE p2 c2 l2]) (fun x:Nat×(List (Option Rat))=>r.length - Q.length+1 - x.1) (0,List.replicate (r.length - Q.length+1) none) (show 0≤r.length - Q.length+1∧(List.replicate (r.length - Q.length+1) none).length=r.length - Q.length+1∧∀j,j<0→(List.replicate (r.length - Q.length+1) none).getD j none=some ((0:Int):Rat) from by exact ⟨Nat.zero_le _,List.length_replicate,fun j hj=>by omega⟩) ((.e rfl cgs (.of rfl)):SubM _ _) (ho:=((.e (i:=0) rfl cgs (.c (i:=0) rfl .n)):PickO _ _ _)) ((.of [0,1,2,3,4,5,6,7,8,9] rfl):SelR _ _ _) ?_
    rintro ⟨i,A⟩ hJ
    replace hJ:i≤r.length - Q.length+1∧A.length=r.length - Q.length+1∧∀j,j<i→A.getD j none=some ((0:Int):Rat):=hJ
    try dsimp only [cw]
    refine ze<|za<|e_p (zZ rfl rfl)<|zg<|zd<|ze<|zH rfl (fun h20=> ?_) (fun h20=> ?_)
    ·
     refine zA<|zd<|ze<|zy<|ze<|za<|e_mv rfl<|e_p (zc rfl)<|zg<|zd<|za<|e_mv rfl<|e_mv rfl<|zn rfl rfl (.n) ce101 (zHc) (.n) ?_
     rintro ⟨w321,w422⟩ -
     dsimp only [aq,nq,cq]
     refine e_p (zaa (j:=i) yb sz32 rfl rfl rfl om)<|zIa 0 rfl rfl rfl (zT (r:=rE) (j:=i) (x0:=(some ((0:Int):Rat))) (γ0:=(w321,w422)) rfl rfl (by first|omega|(rw [List.length_map];omega)|(simp only [List.length_set];omega)|(simp;done)|(simp;omega)) rfl rfl sz32 (fun g hr=>qF_e (Holds.get 0 rfl hr))) (fun _=> .z) (fun _ _=> ?_)
     refine zg<|zQ<|zd<|za<|e_p (zN (z:=(((i+1):Nat):Int)) rfl rfl (w64 om))<|e_mv rfl<|zg<|zea ((i+1),(A.set i (some ((0:Int):Rat)))) (show (i+1)≤r.length - Q.length+1∧(A.set i (some ((0:Int):Rat))).length=r.length - Q.length+1∧∀j,j<(i+1)→(A.set i (some ((0:Int):Rat))).getD j none=some ((0:Int):Rat) from by exact ⟨by omega,by rw [List.length_set];exact hJ.2.1,Po.set_step (g:=fun _=>((0:Int):Rat)) hJ.2.2 om rfl⟩) (by show r.length - Q.length+1 - (i+1)<r.length - Q.length+1 - i;omega) (mR rfl) (ho:=((.of [0,0] rfl):PickO _ _ _)) ((.of [1,2,3,4,5,6,7,8,9,10] rfl):SelR _ _ _)
    ·
     refine zha<|zj<|zj<|zx<|zd<|ze<|za<|e_mv rfl<|e_mv rfl<|e_ru (zb 1 ty32 rfl rfl (.t4 .nil))<|e_p (zaa (j:=(r.length - Q.length)) yb sz32 rfl rfl rfl om)<|zIa 0 rfl rfl rfl (zT (r:=rE) (j:=(r.length - Q.length)) (x0:=(some ((r.getD (r.length - 1) (0:Rat)) / ((Q).getD (Q.length - 1) (0:Rat))))) (γ0:=(u12_1,u12_2)) rfl rfl (by first|omega|(rw [List.length_map];omega)|(simp only [List.length_set];omega)|(simp;done)|(simp;omega)) rfl rfl sz32 (fun g hr=>qF_e (Holds.get 0 rfl hr))) (fun _=> .z) (fun _ _=> ?_)
     refine zg<|zd<|ze ?_
     have hB:Po.vals (A.set (r.length - Q.length) (some ((r.getD (r.length - 1) (0:Rat)) / ((Q).getD (Q.length - 1) (0:Rat)))))=Po.dt Q r:=Po.vals_mono hJ.2.1 (fun j hj=>hJ.2.2 j om)
     have hBl:(A.set (r.length - Q.length) (some ((r.getD (r.length - 1) (0:Rat)) / ((Q).getD (Q.length - 1) (0:Rat))))).length=r.length - Q.length+1:=by rw [List.length_set];exact hJ.2.1
     obtain ⟨hba,hbr⟩:=Po.dok_bd hdk om
     have hml:(Po.mul (Po.dt Q r) Q).length≤1000:=by rw [← Po.mul_mc];unfold Po.mc;exact Nat.le_trans (Po.cl_le_len _) (by rw [Po.gen_len,Po.dt_len];omega)
     refine za<|e_mv rfl<|e_mv rfl<|zra (addQE 3 rfl)<|zba 0 rfl .z<|zn rfl rfl (.c rfl (.c rfl .n)) ce73 (zXe (p1:=pa) (n1:=a.length) (c1:=ca) (l1:=(a.map some)) (p2:=some ⟨b19,0,none⟩) (n2:=(r.length - Q.length+1)) (c2:=(r.length - Q.length+1)) (l2:=(A.set (r.length - Q.length) (some ((r.getD (r.length - 1) (0:Rat)) / ((Q).getD (Q.length - 1) (0:Rat)))))) (hn1:=by exact List.length_map _) (hm1:=cbo) (hn2:=by exact hBl) (hm2:=cbo) (hb:=by intro j;rw [Po.msome,←Po.vals_get,hB];have h1:=hba j;have h2:=Po.dt_bd hbr hbQ j;omega)) (.c (j:=1) rfl (.c (j:=0) rfl .n)) ?_
     rintro ⟨p923,c924⟩ -
     dsimp only [aq,nq,cq]
     have e25:(Po.add (Po.vals (a.map some)) (Po.vals (A.set (r.length - Q.length) (some ((r.getD (r.length - 1) (0:Rat)) / ((Q).getD (Q.length - 1) (0:Rat)))))):List Rat)=Po.add a (Po.dt Q r):=by rw [Po.vals_some,hB]
     rw [e25]
     refine e_p (zc rfl)<|zg<|zd<|za<|e_mv rfl<|e_mv rfl<|e_mv rfl<|zra (addQE 9 rfl)<|zn rfl rfl (.c rfl (.c rfl .n)) ce75 (zbd (p1:=some ⟨b19,0,none⟩) (n1:=(r.length - Q.length+1)) (c1:=(r.length - Q.length+1)) (l1:=(A.set (r.length - Q.length) (some ((r.getD (r.length - 1) (0:Rat)) / ((Q).getD (Q.length - 1) (0:Rat)))))) (p2:=p93) (n2:=(Q).length) (c2:=c94) (l2:=((Q).map some)) (hn1:=by exact hBl) (hm1:=cbo) (hn2:=by exact List.length_map _) (hm2:=cbo) (hm12:=cbo) (hb1:=by rw [hB];intro j;exact Nat.le_trans (Po.dt_bd hbr hbQ j) dd) (hb2:=by rw [Po.vals_some];intro j;exact Nat.le_trans (hbQ j) dd) (hs:=by rw [hB,Po.vals_some,hQc];exact fun k lo n _=>Po.dt_cv_hq hbr hbQ k lo n)) (.c (j:=2) rfl (.c (j:=0) rfl .n)) ?_
     rintro ⟨p926,c927⟩ -
     dsimp only [aq,nq,cq]
     have e28:(Po.mul (Po.vals (A.set (r.length - Q.length) (some ((r.getD (r.length - 1) (0:Rat)) / ((Q).getD (Q.length - 1) (0:Rat)))))) (Po.vals ((Q).map some)):List Rat)=Po.mul (Po.dt Q r) Q:=by rw [Po.vals_some,hB]
     rw [e28]
     refine zra (addQE 9 rfl)<|zra (addQE 1 rfl)<|zn rfl rfl (.c rfl (.c rfl .n)) ce77 (zRd (p1:=pr) (n1:=r.length) (c1:=cr) (l1:=(r.map some)) (p2:=p926) (n2:=(Po.mul (Po.dt Q r) Q).length) (c2:=c927) (l2:=((Po.mul (Po.dt Q r) Q).map some)) (hn1:=by exact List.length_map _) (hm1:=cbo) (hn2:=by exact List.length_map _) (hm2:=by exact hml) (hb:=by intro j;rw [Po.msome,Po.msome];have h1:=hbr j;have h2:=Po.mul_dt_bd hbr hbQ j;omega)) (.c (j:=1) rfl (.c (j:=0) rfl .n)) ?_
     rintro ⟨p929,c930⟩ -
     dsimp only [aq,nq,cq]
     have e31:(Po.sub (Po.vals (r.map some)) (Po.vals ((Po.mul (Po.dt Q r) Q).map some)):List Rat)=Po.sub r (Po.mul (Po.dt Q r) Q):=by rw [Po.vals_some,Po.vals_some]
     rw [e31]
     refine e_p (zc rfl)<|zg<|zQ<|zea ((f - 1),(Po.add a (Po.dt Q r)),(Po.sub r (Po.mul (Po.dt Q r) Q)),p923,c924,p929,c930) (show ((Po.sub r (Po.mul (Po.dt Q r) Q)).length<(f - 1)∧(Po.sub r (Po.mul (Po.dt Q r) Q)).length≤400∧(Po.add a (Po.dt Q r)).length≤400)∧Po.dok Q (f - 1) (Po.add a (Po.dt Q r)) (Po.sub r (Po.mul (Po.dt Q r) Q))∧Po.dv Q P.length [] P=Po.dv Q ((f - 1) - 1) (Po.add a (Po.dt Q r)) (Po.sub r (Po.mul (Po.dt Q r) Q)) from by have h9:=Po.dt_less (r:=r) hQc hQn om;have h8:=Po.add_len a (Po.dt Q r);rw [Po.dt_len] at h8;exact ⟨⟨by omega,by omega,by omega⟩,Po.dok_yes hdk om om,hdv.trans (Po.dv_yes om om)⟩) om (mR rfl) (ho:=oN) ((.of [5,0,13,14,15,16,17] rfl):SelR _ _ _)
   refine zta (X:=Wd×Wd×Nat) (k':=2) (L':=(lb 19 131071)) (fun (u12_1,u12_2,u16_1)=>([(10,.pointer (some ⟨u16_1,0,none⟩)),(46,.int .i64 0),(45,.agg (cw [u12_1,u12_2]).toArray),(9,.int .i64 (((r.length - Q.length):Nat):Int)),(7,.slice pr (r.length) cr),(8,.slice pa (a.length) ca),(1,.slice p93 ((Q).length) c94),(6,.int .i64 0),(5,.slice none 0 0),(4,.slice none 0 0)],[boxA u16_1 32 (cw [wz,wz])],[],[qF true u12_1 u12_2 ((r.getD (r.length - 1) (0:Rat)) / ((Q).getD (Q.length - 1) (0:Rat))),qF true w16 w17 ((Q).getD (Q.length - 1) (0:Rat)),qF true w11 w12 (r.getD (r.length - 1) (0:Rat)),slF rQ pa ca a,slF rQ pr cr r,slF rQ none 0 ([]),slF rQ p93 c94 Q,slF rQ p91 c92 P,slF rE p1 c1 l1,slF rE p2 c2 l2])) ?_ (fun hD1=> ?_)
   ·
    rintro ⟨u12_1,u12_2,u16_1⟩
    dsimp only [cw]
    refine zcb 17 kr ?_
    ·
     refine zw kr rfl rfl rfl rfl rfl sz32 rfl (.t4 .nil)<|e_pv 18 rfl rfl (zc rfl) ?_
     exact zX (hD0 (u12_1,u12_2,u16_1)) kr (mR rfl) .rfl .rfl ((.of [0,1,2,3,4,5,6,7,8,9] rfl):SelR _ _ _)
   refine zta (X:=Wd×Wd) (k':=3) (L':=(lb 19 65535)) (fun (u12_1,u12_2)=>([(46,.int .i64 0),(45,.agg (cw [u12_1,u12_2]).toArray),(9,.int .i64 (((r.length - Q.length):Nat):Int)),(7,.slice pr (r.length) cr),(8,.slice pa (a.length) ca),(1,.slice p93 ((Q).length) c94),(6,.int .i64 0),(5,.slice none 0 0),(4,.slice none 0 0)],[],[],[qF true u12_1 u12_2 ((r.getD (r.length - 1) (0:Rat)) / ((Q).getD (Q.length - 1) (0:Rat))),qF true w16 w17 ((Q).getD (Q.length - 1) (0:Rat)),qF true w11 w12 (r.getD (r.length - 1) (0:Rat)),slF rQ pa ca a,slF rQ pr cr r,slF rQ none 0 ([]),slF rQ p93 c94 Q,slF rQ p91 c92 P,slF rE p1 c1 l1,slF rE p2 c2 l2])) ?_ (fun hD2=> ?_)
   ·
    rintro ⟨u12_1,u12_2⟩
    dsimp only [cw]
    refine zcb 16 kr ?_
    ·
     refine zib rfl rfl rfl rfl (zr zr32 rfl) (fun u16_1 _=> ?_)
     exact zX (hD1 (u12_1,u12_2,u16_1)) kr (mR rfl) .rfl .rfl ((.of [0,1,2,3,4,5,6,7,8,9] rfl):SelR _ _ _)
   refine zta (X:=Nat) (k':=6) (L':=(lb 19 69631)) (fun u16_1=>([(10,.pointer (some ⟨u16_1,0,none⟩)),(43,.agg (cw [w16,w17]).toArray),(37,.agg (cw [w11,w12]).toArray),(9,.int .i64 (((r.length - Q.length):Nat):Int)),(7,.slice pr (r.length) cr),(8,.slice pa (a.length) ca),(1,.slice p93 ((Q).length) c94),(6,.int .i64 0),(5,.slice none 0 0),(4,.slice none 0 0)],[boxA u16_1 32 (cw [wz,wz])],[],[qF true w16 w17 ((Q).getD (Q.length - 1) (0:Rat)),qF true w11 w12 (r.getD (r.length - 1) (0:Rat)),slF rQ pa ca a,slF rQ pr cr r,slF rQ none 0 ([]),slF rQ p93 c94 Q,slF rQ p91 c92 P,slF rE p1 c1 l1,slF rE p2 c2 l2])) ?_ (fun hD3=> ?_)
   ·
    rintro u16_1
    dsimp only [cw]
    refine zcb 12 kr ?_
    ·
     refine zm rfl rfl rfl rfl (.c rfl (.c rfl .n)) ce161 (zvb (k1:=true) (u1:=w11) (v1:=w12) (q1:=(r.getD (r.length - 1) (0:Rat))) (k2:=true) (u2:=w16) (v2:=w17) (q2:=((Q).getD (Q.length - 1) (0:Rat))) (hl:=by have h1:=(Po.dok_bd hdk om).2 (r.length - 1);have h2:=hbQ (Q.length - 1);omega) (hy:=by exact Po.lead_ne hQc hQn)) (.c (j:=1) rfl (.c (j:=0) rfl .n)) ?_
     rintro ⟨u12_1,u12_2⟩ -
     dsimp only [aq,nq,cq]
     refine e_dm 13 rfl rfl rfl<|e_pv 14 rfl rfl (zq rfl rfl)<|e_pv 15 rfl rfl (zq rfl rfl) ?_
     exact zX (hD1 (u12_1,u12_2,u16_1)) kr (mR rfl) .rfl .rfl ((.of [0,1,2,3,4,5,6,7,8,9] rfl):SelR _ _ _)
   refine zuc 12 16 kr ?_ ?_
   ·
    refine zm rfl rfl rfl rfl (.c rfl (.c rfl .n)) ce161 (zvb (k1:=true) (u1:=w11) (v1:=w12) (q1:=(r.getD (r.length - 1) (0:Rat))) (k2:=true) (u2:=w16) (v2:=w17) (q2:=((Q).getD (Q.length - 1) (0:Rat))) (hl:=by have h1:=(Po.dok_bd hdk om).2 (r.length - 1);have h2:=hbQ (Q.length - 1);omega) (hy:=by exact Po.lead_ne hQc hQn)) (.c (j:=1) rfl (.c (j:=0) rfl .n)) ?_
    rintro ⟨u12_1,u12_2⟩ -
    dsimp only [aq,nq,cq]
    refine e_dm 13 rfl rfl rfl<|e_pv 14 rfl rfl (zq rfl rfl)<|e_pv 15 rfl rfl (zq rfl rfl) ?_
    exact zX (hD2 (u12_1,u12_2)) kr (mR rfl) .rfl .rfl ((.of [0,1,2,3,4,5,6,7,8,9] rfl):SelR _ _ _)
   ·
    refine zib rfl rfl rfl rfl (zr zr32 rfl) (fun u16_1 _=> ?_)
    exact zX (hD3 u16_1) kr (mR rfl) .rfl .rfl ((.of [0,1,2,3,4,5,6,7,8] rfl):SelR _ _ _)
  ·
   refine zha<|zj<|zj<|zx<|zd<|ze<|za<|e_mv rfl<|e_mv rfl<|e_p (zc rfl)<|e_p (zc rfl)<|e_p (zc rfl)<|zg<|zd<|zD ?_
   have h0:¬(Po.cl (Po.vals l2)).length=0:=by rw [← hQ];omega
   have hdn:Po.dv Q P.length [] P=(a,r):=hdv.trans (Po.dv_no om)
   have hv8:(Po.dq (Po.vals l1) (Po.vals l2))=a:=(if_neg h0).trans (by unfold Po.divp;rw [← hQ,←hP,hdn])
   have hv9:(Po.dr (Po.vals l1) (Po.vals l2))=r:=(if_neg h0).trans (by unfold Po.divp;rw [← hQ,←hP,hdn])
   have hv7:(Po.dc (Po.vals l2))=0:=if_neg h0
   exact zMc Tryz.results150 (pa,ca,pr,cr) trivial (zo rfl) (zo rfl) (zo rfl) (by rw [hv7,hv8,hv9]) (ho:=oN) ((.e (j:=0) rfl (by rw [hv8]) (.e (j:=1) rfl (by rw [hv9]) .n)):SelR _ _ _)
end Go.Proofs.YtahiajepeodhoaaGreat.Sp
namespace Go.Proofs.YtahiajepeodhoaaGreat.Sp
open Go
set_option linter.unusedVariables false
set_option maxRecDepth 100000
set_option maxHeartbeats 8000000
theorem zhc {p1:Option Addr} {n1:Nat} {c1:Nat} {l1:List Rat} (hn1:l1.length=n1) (hm1:n1≤800) (hcl:Po.cl l1=l1) (hb:Po.bd 60000000000 l1):Con yd 160 [.slice p1 n1 c1] [] [slF rQ p1 c1 l1] (Y:=(Option Addr)×Nat) (fun y=>True) (fun y=> .slice (y.1) ((Po.mo l1).length) (y.2)) (fun y=>[]) (fun y=>[slF rQ (y.1) (y.2) (Po.mo l1)]):=by
 refine zk Tryz.func160 rfl rfl rfl (fun c=> ?_)
 show RunC _ _ _ _ _ [(0,.slice p1 n1 c1)] [] [slF rQ p1 c1 l1]
 refine zU 0 rfl (fun hL0=> ?_)
 refine ze<|za<|e_p (zc rfl)<|zg<|zd<|ze<|ze<|za<|e_mv rfl<|e_p (zL yb rfl)<|e_p (zqa rfl rfl)<|zg<|zd<|zH rfl (fun h7=> ?_) (fun h7=> ?_)
 ·
  refine ze<|za<|e_p (zc rfl)<|zg<|zd<|zD<|zl<|zjc rQ ?_
  have hv9:(Po.mo l1)=[]:=if_pos om
  exact zv Tryz.results160 (none,0) trivial (zo rfl) (by rw [hv9];rfl) (ho:=oN) ((.e (j:=0) rfl (by rw [hv9]) .n):SelR _ _ _)
 ·
  have hne:l1≠[]:=fun e=>h7 (by rw [← hn1,e];rfl)
  have hl0:=Po.lead_ne hcl hne
  have hlq:=Po.lead_hq hb
  have hiq:=Po.inv_hq hb
  have h1q:yf ((1:Int):Rat)=1:=by decide
  refine zA<|zd<|ze<|zV (OW:=[]) (O:=[]) 12 mixed (.then .ret) kr<|e_dm 1 rfl rfl rfl<|e_dm 2 rfl rfl rfl<|e_pv 3 rfl rfl (zL yb rfl)<|e_pv 4 rfl rfl (zda (z:=(((n1:Nat):Int) - 1)) rfl rfl (w64 om)) ?_
  have e1:((((n1:Nat):Int) - 1):Int)=(((n1 - 1):Nat):Int):=by omega
  rw [e1]
  refine d_vl 5 rfl rfl kr kr rfl rfl (zua (x0:=(l1.getD (n1 - 1) (0:Rat))) 0 (n1 - 1) rfl yb sz32 rfl (by first|rfl|assumption|(simp;done)|omega) rfl rfl (gD (d:=(0:Rat)) om)) ?_
  rintro ⟨b2,o3,w4,w5⟩ -
  dsimp only [aq,nq,cq]
  refine zSa open_rQ<|e_u 6 rfl rfl (zR (j:=0) 0 ty32 rfl rfl rfl (.t4 .nil))<|zW (m':=[(15,.agg (cw [w4,w5]).toArray),(2,.slice none 0 0),(0,.slice p1 n1 c1)]) (R':=[qF true w4 w5 (l1.getD (n1 - 1) (0:Rat)),slF rQ p1 c1 l1]) (mR rfl) (List.Perm.refl _) (List.Perm.refl _) ((.of [1,2] rfl):SelR _ _ _)<|zta (X:=Wd×Wd×Wd×Wd×Nat) (k':=0) (L':=(lb 14 16383)) (fun (u0_1,u0_2,u7_1,u7_2,u11_1)=>([(3,.pointer (some ⟨u11_1,0,none⟩)),(2,.slice none 0 0),(0,.slice p1 n1 c1)],[boxA u11_1 32 (cw [u7_1,u7_2])],[],[qF true u7_1 u7_2 (((1:Int):Rat) / (l1.getD (n1 - 1) (0:Rat))),qF true u0_1 u0_2 ((1:Int):Rat),qF true w4 w5 (l1.getD (n1 - 1) (0:Rat)),slF rQ p1 c1 l1])) ?_ (fun hD0=> ?_)
  ·
   rintro ⟨u0_1,u0_2,u7_1,u7_2,u11_1⟩
   dsimp only [cw]
   refine zI kr<|zd<|ze ?_
   obtain ⟨kq,hkq⟩:∃z:Rat,z=((1:Int):Rat) / (l1.getD (n1 - 1) (0:Rat)):=⟨_,rfl⟩
   rw [← hkq]
   refine za<|e_mv rfl<|e_ru (zb 0 ty32 rfl rfl (.t4 .nil))<|zra (addQe 0 rfl)<|zra (addQE 4 rfl)<|zn rfl rfl (.c rfl (.c rfl .n)) ce74 (zgc (p1:=p1) (n1:=n1) (c1:=c1) (l1:=(l1.map some)) (u1:=u7_1) (v1:=u7_2) (x1:=(some kq)) (hn1:=by exact (List.length_map _).trans hn1) (hm1:=by first|omega|rfl|assumption|decide) (hm9:=by first|omega|rfl|assumption|decide) (hb1:=by rw [Po.vals_some];exact fun i=>Nat.le_trans (hb i) dd) (hb2:=by exact Po.bd_one (by show yf kq≤_;rw [hkq,←hn1];exact Nat.le_trans hiq dd)) (hs:=by rw [Po.vals_some];intro k lo n h;exact Nat.le_trans (Po.cv_one_hq (Po.bd_cl hb) (by show yf kq≤_;rw [hkq,←hn1];exact hiq) k lo n h) dd)) (.c (j:=0) rfl (.c (j:=1) rfl .n)) ?_
   rintro ⟨p96,c97⟩ -
   dsimp only [aq,nq,cq]
   refine e_p (zc rfl)<|zg<|zd<|zD ?_
   have e8:(Po.mul (Po.vals (l1.map some)) (Po.vals [(some kq)]):List Rat)=Po.mo l1:=by unfold Po.mo;rw [if_neg om,Po.vals_some,hkq,←hn1];rfl
   rw [e8]
   exact zv Tryz.results160 (p96,c97) trivial (zo rfl) rfl (ho:=oN) (s0 rfl)
  refine zta (X:=Wd×Wd×Wd×Wd×Nat) (k':=2) (L':=(lb 14 4095)) (fun (u0_1,u0_2,u7_1,u7_2,u11_1)=>([(3,.pointer (some ⟨u11_1,0,none⟩)),(18,.int .i64 0),(17,.agg (cw [u7_1,u7_2]).toArray),(2,.slice none 0 0),(0,.slice p1 n1 c1)],[boxA u11_1 32 (cw [wz,wz])],[],[qF true u7_1 u7_2 (((1:Int):Rat) / (l1.getD (n1 - 1) (0:Rat))),qF true u0_1 u0_2 ((1:Int):Rat),qF true w4 w5 (l1.getD (n1 - 1) (0:Rat)),slF rQ p1 c1 l1])) ?_ (fun hD1=> ?_)
  ·
   rintro ⟨u0_1,u0_2,u7_1,u7_2,u11_1⟩
   dsimp only [cw]
   refine zcb 12 kr ?_
   ·
    refine zw kr rfl rfl rfl rfl rfl sz32 rfl (.t4 .nil)<|e_pv 13 rfl rfl (zc rfl) ?_
    exact zX (hD0 (u0_1,u0_2,u7_1,u7_2,u11_1)) kr (mR rfl) .rfl .rfl ((.of [0,1,2,3] rfl):SelR _ _ _)
  refine zta (X:=Wd×Wd×Wd×Wd) (k':=3) (L':=(lb 14 2047)) (fun (u0_1,u0_2,u7_1,u7_2)=>([(18,.int .i64 0),(17,.agg (cw [u7_1,u7_2]).toArray),(2,.slice none 0 0),(0,.slice p1 n1 c1)],[],[],[qF true u7_1 u7_2 (((1:Int):Rat) / (l1.getD (n1 - 1) (0:Rat))),qF true u0_1 u0_2 ((1:Int):Rat),qF true w4 w5 (l1.getD (n1 - 1) (0:Rat)),slF rQ p1 c1 l1])) ?_ (fun hD2=> ?_)
  ·
   rintro ⟨u0_1,u0_2,u7_1,u7_2⟩
   dsimp only [cw]
   refine zcb 11 kr ?_
   ·
    refine zib rfl rfl rfl rfl (zr zr32 rfl) (fun u11_1 _=> ?_)
    exact zX (hD1 (u0_1,u0_2,u7_1,u7_2,u11_1)) kr (mR rfl) .rfl .rfl ((.of [0,1,2,3] rfl):SelR _ _ _)
  refine zta (X:=Wd×Wd×Nat) (k':=6) (L':=(lb 14 2175)) (fun (u0_1,u0_2,u11_1)=>([(3,.pointer (some ⟨u11_1,0,none⟩)),(9,.agg (cw [u0_1,u0_2]).toArray),(15,.agg (cw [w4,w5]).toArray),(2,.slice none 0 0),(0,.slice p1 n1 c1)],[boxA u11_1 32 (cw [wz,wz])],[],[qF true u0_1 u0_2 ((1:Int):Rat),qF true w4 w5 (l1.getD (n1 - 1) (0:Rat)),slF rQ p1 c1 l1])) ?_ (fun hD3=> ?_)
  ·
   rintro ⟨u0_1,u0_2,u11_1⟩
   dsimp only [cw]
   refine zcb 7 kr ?_
   ·
    refine zm rfl rfl rfl rfl (.c rfl (.c rfl .n)) ce161 (zvb (k1:=true) (u1:=u0_1) (v1:=u0_2) (q1:=((1:Int):Rat)) (k2:=true) (u2:=w4) (v2:=w5) (q2:=(l1.getD (n1 - 1) (0:Rat))) (hl:=by have h9:=hb (n1 - 1);omega) (hy:=by rw [← hn1];exact hl0)) (.c (j:=0) rfl (.c (j:=1) rfl .n)) ?_
    rintro ⟨u7_1,u7_2⟩ -
    dsimp only [aq,nq,cq]
    refine e_dm 8 rfl rfl rfl<|e_pv 9 rfl rfl (zq rfl rfl)<|e_pv 10 rfl rfl (zq rfl rfl) ?_
    exact zX (hD1 (u0_1,u0_2,u7_1,u7_2,u11_1)) kr (mR rfl) .rfl .rfl ((.of [0,1,2,3] rfl):SelR _ _ _)
  refine zta (X:=Wd×Wd) (k':=7) (L':=(lb 14 127)) (fun (u0_1,u0_2)=>([(9,.agg (cw [u0_1,u0_2]).toArray),(15,.agg (cw [w4,w5]).toArray),(2,.slice none 0 0),(0,.slice p1 n1 c1)],[],[],[qF true u0_1 u0_2 ((1:Int):Rat),qF true w4 w5 (l1.getD (n1 - 1) (0:Rat)),slF rQ p1 c1 l1])) ?_ (fun hD4=> ?_)
  ·
   rintro ⟨u0_1,u0_2⟩
   dsimp only [cw]
   refine zuc 7 11 kr ?_ ?_
   ·
    refine zm rfl rfl rfl rfl (.c rfl (.c rfl .n)) ce161 (zvb (k1:=true) (u1:=u0_1) (v1:=u0_2) (q1:=((1:Int):Rat)) (k2:=true) (u2:=w4) (v2:=w5) (q2:=(l1.getD (n1 - 1) (0:Rat))) (hl:=by have h9:=hb (n1 - 1);omega) (hy:=by rw [← hn1];exact hl0)) (.c (j:=0) rfl (.c (j:=1) rfl .n)) ?_
    rintro ⟨u7_1,u7_2⟩ -
    dsimp only [aq,nq,cq]
    refine e_dm 8 rfl rfl rfl<|e_pv 9 rfl rfl (zq rfl rfl)<|e_pv 10 rfl rfl (zq rfl rfl) ?_
    exact zX (hD2 (u0_1,u0_2,u7_1,u7_2)) kr (mR rfl) .rfl .rfl ((.of [0,1,2,3] rfl):SelR _ _ _)
   ·
    refine zib rfl rfl rfl rfl (zr zr32 rfl) (fun u11_1 _=> ?_)
    exact zX (hD3 (u0_1,u0_2,u11_1)) kr (mR rfl) .rfl .rfl ((.of [0,1,2] rfl):SelR _ _ _)
  refine zta (X:=Nat) (k':=7) (L':=(lb 14 2174)) (fun u11_1=>([(3,.pointer (some ⟨u11_1,0,none⟩)),(15,.agg (cw [w4,w5]).toArray),(2,.slice none 0 0),(0,.slice p1 n1 c1)],[boxA u11_1 32 (cw [wz,wz])],[],[qF true w4 w5 (l1.getD (n1 - 1) (0:Rat)),slF rQ p1 c1 l1])) ?_ (fun hD5=> ?_)
  ·
   rintro u11_1
   dsimp only [cw]
   refine zcb 0 kr ?_
   ·
    refine zm rfl rfl rfl rfl (.c rfl .n) ce58 (zoa (z:=1) (hz:=by first|omega|rfl|assumption|decide)) (.n) ?_
    rintro ⟨u0_1,u0_2⟩ -
    dsimp only [aq,nq,cq]
    exact zX (hD3 (u0_1,u0_2,u11_1)) kr (mR rfl) .rfl .rfl ((.of [0,1,2] rfl):SelR _ _ _)
  refine zuc 0 11 kr ?_ ?_
  ·
   refine zm rfl rfl rfl rfl (.c rfl .n) ce58 (zoa (z:=1) (hz:=by first|omega|rfl|assumption|decide)) (.n) ?_
   rintro ⟨u0_1,u0_2⟩ -
   dsimp only [aq,nq,cq]
   exact zX (hD4 (u0_1,u0_2)) kr (mR rfl) .rfl .rfl ((.of [0,1,2] rfl):SelR _ _ _)
  ·
   refine zib rfl rfl rfl rfl (zr zr32 rfl) (fun u11_1 _=> ?_)
   exact zX (hD5 u11_1) kr (mR rfl) .rfl .rfl ((.of [0,1] rfl):SelR _ _ _)
theorem zwg {p1:Option Addr} {n1:Nat} {c1:Nat} {l1:List (Option Rat)} {p2:Option Addr} {n2:Nat} {c2:Nat} {l2:List (Option Rat)} (hn1:l1.length=n1) (hm1:n1≤190) (hn2:l2.length=n2) (hm2:n2≤190) (hok:Po.gcok (Po.vals l1) (Po.vals l2)):Con yd 159 [.slice p1 n1 c1,.slice p2 n2 c2] [] [slF rE p1 c1 l1,slF rE p2 c2 l2] (Y:=(Option Addr)×Nat) (fun y=>True) (fun y=> .slice (y.1) ((Po.gcd (Po.vals l1) (Po.vals l2)).length) (y.2)) (fun y=>[]) (fun y=>[slF rQ (y.1) (y.2) (Po.gcd (Po.vals l1) (Po.vals l2))]):=by
 refine zk Tryz.func159 rfl rfl rfl (fun c=> ?_)
 show RunC _ _ _ _ _ [(0,.slice p1 n1 c1),(1,.slice p2 n2 c2)] [] [slF rE p1 c1 l1,slF rE p2 c2 l2]
 refine zU 0 rfl (fun hL0=> ?_)
 refine zU 1 rfl (fun hL1=> ?_)
 have hPl:(Po.cl (Po.vals l1)).length≤n1:=by rw [← hn1,←Po.vals_len l1];exact Po.cl_le_len _
 have hQl:(Po.cl (Po.vals l2)).length≤n2:=by rw [← hn2,←Po.vals_len l2];exact Po.cl_le_len _
 have hPm:=Po.mo_len (Po.cl (Po.vals l1))
 have hQm:=Po.mo_len (Po.cl (Po.vals l2))
 refine ze<|za<|e_p (zc rfl)<|zg<|zd<|ze<|za<|e_mv rfl<|zn rfl rfl (.c rfl .n) ce67 (zPa (p1:=p1) (n1:=n1) (c1:=c1) (l1:=l1) (hn1:=ass) (hm1:=by first|omega|rfl|assumption|exact Po.cl_cl _)) (.c (j:=0) rfl .n) ?_
 rintro ⟨p91,c92⟩ -
 dsimp only [aq,nq,cq]
 refine zn rfl rfl (.c rfl .n) ce160 (zhc (p1:=p91) (n1:=(Po.cl (Po.vals l1)).length) (c1:=c92) (l1:=(Po.cl (Po.vals l1))) (hn1:=by first|omega|rfl|assumption|exact Po.cl_cl _) (hm1:=by first|omega|rfl|assumption|exact Po.cl_cl _) (hcl:=by first|omega|rfl|assumption|exact Po.cl_cl _) (hb:=by exact Po.bd_cl hok.1)) (.c (j:=0) rfl .n) ?_
 rintro ⟨p93,c94⟩ -
 dsimp only [aq,nq,cq]
 refine e_mv rfl<|zn rfl rfl (.c rfl .n) ce67 (zPa (p1:=p2) (n1:=n2) (c1:=c2) (l1:=l2) (hn1:=ass) (hm1:=by first|omega|rfl|assumption|exact Po.cl_cl _)) (.c (j:=3) rfl .n) ?_
 rintro ⟨p95,c96⟩ -
 dsimp only [aq,nq,cq]
 refine zn rfl rfl (.c rfl .n) ce160 (zhc (p1:=p95) (n1:=(Po.cl (Po.vals l2)).length) (c1:=c96) (l1:=(Po.cl (Po.vals l2))) (hn1:=by first|omega|rfl|assumption|exact Po.cl_cl _) (hm1:=by first|omega|rfl|assumption|exact Po.cl_cl _) (hcl:=by first|omega|rfl|assumption|exact Po.cl_cl _) (hb:=by exact Po.bd_cl hok.2.1)) (.c (j:=0) rfl .n) ?_
 rintro ⟨p97,c98⟩ -
 dsimp only [aq,nq,cq]
 refine e_p (zc rfl)<|e_p (zc rfl)<|zg<|zd<|ze<|zy<|zla (X:=Nat×(List Rat)×(List Rat)×(Option Addr)×Nat×(Option Addr)×Nat) (fun x:Nat×(List Rat)×(List Rat)×(Option Addr)×Nat×(Option Addr)×Nat=>(x.2.1.length≤190∧x.2.2.1.length≤x.1∧x.1≤190)∧(Po.cl x.2.1=x.2.1∧Po.cl x.2.2.1=x.2.2.1)∧Po.gok x.1 x.2.1 x.2.2.1∧Po.ge x.1 x.2.1 x.2.2.1=(Po.gcd (Po.vals l1) (Po.vals l2))) (fun x=>[(1,.slice (x.2.2.2.2.2.1) (x.2.2.1.length) (x.2.2.2.2.2.2)),(0,.slice (x.2.2.2.1) (x.2.1.length) (x.2.2.2.2.1)),(4,.slice none 0 0)]) (fun x=>[]) (fun x=>[slF rQ (x.2.2.2.1) (x.2.2.2.2.1) (x.2.1),slF rQ (x.2.2.2.2.2.1) (x.2.2.2.2.2.2) (x.2.2.1),slF rQ p97 c98 (Po.mo (Po.cl (Po.vals l2))),slF rQ p95 c96 (Po.cl (Po.vals l2)),slF rQ p93 c94 (Po.mo (Po.cl (Po.vals l1))),slF rQ p91 c92 (Po.cl (Po.vals l1)),slF rE p1 c1 l1,slF rE p2 c2 l2]) (fun x:Nat×(List Rat)×(List Rat)×(Option Addr)×Nat×(Option Addr)×Nat=>x.2.2.1.length) (((Po.cl (Po.vals l2)).length),(Po.mo (Po.cl (Po.vals l1))),(Po.mo (Po.cl (Po.vals l2))),p93,c94,p97,c98) (show ((Po.mo (Po.cl (Po.vals l1))).length≤190∧(Po.mo (Po.cl (Po.vals l2))).length≤((Po.cl (Po.vals l2)).length)∧((Po.cl (Po.vals l2)).length)≤190)∧(Po.cl (Po.mo (Po.cl (Po.vals l1)))=(Po.mo (Po.cl (Po.vals l1)))∧Po.cl (Po.mo (Po.cl (Po.vals l2)))=(Po.mo (Po.cl (Po.vals l2))))∧Po.gok ((Po.cl (Po.vals l2)).length) (Po.mo (Po.cl (Po.vals l1))) (Po.mo (Po.cl (Po.vals l2)))∧Po.ge ((Po.cl (Po.vals l2)).length) (Po.mo (Po.cl (Po.vals l1))) (Po.mo (Po.cl (Po.vals l2)))=(Po.gcd (Po.vals l1) (Po.vals l2)) from by exact ⟨⟨by omega,by omega,by omega⟩,⟨Po.mo_cl _,Po.mo_cl _⟩,hok.2.2,rfl⟩) (mR rfl) (ho:=oN) ((.of [2,0,0,1,2,3,4,5] rfl):SelR _ _ _) ?_
 rintro ⟨f,p,q,pp,cp,pq,ck⟩ hI
 replace hI:(p.length≤190∧q.length≤f∧f≤190)∧(Po.cl p=p∧Po.cl q=q)∧Po.gok f p q∧Po.ge f p q=(Po.gcd (Po.vals l1) (Po.vals l2)):=hI
 try dsimp only
 obtain ⟨⟨hpl,hqf,hf⟩,⟨hcp,hcq⟩,hgk,hge⟩:=hI
 refine ze<|ze<|za<|e_mv rfl<|e_p (zL yb rfl)<|e_p (zFa rfl rfl)<|zg<|zd<|zH rfl (fun h16=> ?_) (fun h16=> ?_)
 ·
  have hg:=Po.gok_yes hgk (show q.length≠0 by omega) om
  have hrl:=(Po.dqr_len p q).2
  refine zA<|zd<|zy<|ze<|za<|e_mv rfl<|e_mv rfl<|zra (addQE 0 rfl)<|zra (addQE 2 rfl)<|zn rfl rfl (.c rfl (.c rfl .n)) ce150 (zrc (p1:=pp) (n1:=p.length) (c1:=cp) (l1:=(p.map some)) (p2:=pq) (n2:=q.length) (c2:=ck) (l2:=(q.map some)) (hn1:=by exact List.length_map _) (hm1:=by first|omega|rfl|assumption|exact Po.cl_cl _) (hn2:=by exact List.length_map _) (hm2:=by first|omega|rfl|assumption|exact Po.cl_cl _) (hm12:=by first|omega|rfl|assumption|exact Po.cl_cl _) (hb2:=by rw [Po.vals_some];exact hg.1.1) (hok:=by rw [Po.vals_some,Po.vals_some];exact hg.1.2)) (.c (j:=1) rfl (.c (j:=0) rfl .n)) ?_
  rintro ⟨p89,c810,p911,c912⟩ -
  dsimp only [aq,nq,cq]
  refine e_mv rfl<|e_p (zq rfl rfl)<|e_p (zq rfl rfl)<|e_p (zq rfl rfl)<|e_p (zc rfl)<|e_p (zc rfl)<|e_p (zc rfl)<|zg<|zd ?_
  have e13:(Po.dr (Po.vals (p.map some)) (Po.vals (q.map some)):List Rat)=Po.dr p q:=by rw [Po.vals_some,Po.vals_some]
  rw [e13]
  refine za<|e_mv rfl<|e_mv rfl<|zn rfl rfl (.c rfl .n) ce160 (zhc (p1:=p911) (n1:=(Po.dr p q).length) (c1:=c912) (l1:=(Po.dr p q)) (hn1:=by first|omega|rfl|assumption|exact Po.cl_cl _) (hm1:=by first|omega|rfl|assumption|exact Po.cl_cl _) (hcl:=by exact Po.dr_cl _ _) (hb:=by exact hg.2.1)) (.c (j:=1) rfl .n) ?_
  rintro ⟨p914,c915⟩ -
  dsimp only [aq,nq,cq]
  refine e_p (zc rfl)<|e_p (zc rfl)<|zg<|zQ<|zea ((f - 1),q,(Po.mo (Po.dr p q)),pq,ck,p914,c915) (show (q.length≤190∧(Po.mo (Po.dr p q)).length≤(f - 1)∧(f - 1)≤190)∧(Po.cl q=q∧Po.cl (Po.mo (Po.dr p q))=(Po.mo (Po.dr p q)))∧Po.gok (f - 1) q (Po.mo (Po.dr p q))∧Po.ge (f - 1) q (Po.mo (Po.dr p q))=(Po.gcd (Po.vals l1) (Po.vals l2)) from by have h9:=Po.mdr_len (p:=p) hcq (show q.length≠0 by omega) hqf;exact ⟨⟨by omega,h9,by omega⟩,⟨hcq,Po.mo_cl _⟩,hg.2.2,(Po.ge_yes om hqf).symm.trans hge⟩) (by have h9:=Po.mo_len (Po.dr p q);have h8:=Po.dr_less (p:=p) hcq (show q.length≠0 by omega);(show (Po.mo (Po.dr p q)).length<q.length;omega)) (mR rfl) (ho:=oN) ((.of [6,0,7,8,9,10,11,12] rfl):SelR _ _ _)
 ·
  refine zha<|zj<|zj<|zx<|zd<|ze<|za<|e_mv rfl<|e_p (zc rfl)<|zg<|zd<|zD ?_
  have hv9:p=(Po.gcd (Po.vals l1) (Po.vals l2)):=(Po.ge_nil om).symm.trans hge
  exact zv Tryz.results159 (pp,cp) trivial (zo rfl) (by rw [← hv9]) (ho:=oN) ((.e (j:=0) rfl (by rw [← hv9]) .n):SelR _ _ _)
theorem zxg {p1:Option Addr} {n1:Nat} {c1:Nat} {l1:List (Option Rat)} (hn1:l1.length=n1) (hm1:n1≤190) (hok:Po.sqok (Po.vals l1)):Con yd 149 [.slice p1 n1 c1] [] [slF rE p1 c1 l1] (Y:=(Option Addr)×Nat) (fun y=>True) (fun y=> .slice (y.1) ((Po.sqf (Po.vals l1)).length) (y.2)) (fun y=>[]) (fun y=>[slF rQ (y.1) (y.2) (Po.sqf (Po.vals l1))]):=by
 refine zk Tryz.func149 rfl rfl rfl (fun c=> ?_)
 show RunC _ _ _ _ _ [(0,.slice p1 n1 c1)] [] [slF rE p1 c1 l1]
 refine zU 0 rfl (fun hL0=> ?_)
 refine ze<|za<|e_p (zc rfl)<|zg<|zd<|ze<|za<|e_mv rfl<|zn rfl rfl (.c rfl .n) ce67 (zPa (p1:=p1) (n1:=n1) (c1:=c1) (l1:=l1) (hn1:=ass) (hm1:=by first|omega|rfl|assumption|exact Po.cl_cl _)) (.c (j:=0) rfl .n) ?_
 rintro ⟨p91,c92⟩ -
 dsimp only [aq,nq,cq]
 refine e_p (zc rfl)<|zg<|zd<|ze<|ze ?_
 obtain ⟨P,hP⟩:∃z,z=(Po.cl (Po.vals l1)):=⟨_,rfl⟩
 have e3:(Po.cl (Po.vals l1):List Rat)=P:=by exact hP.symm
 rw [e3]
 have hPl:P.length≤n1:=by rw [hP,←hn1,←Po.vals_len l1];exact Po.cl_le_len _
 have hPd:=Po.der_len P
 refine za<|e_mv rfl<|e_p (zL yb rfl)<|e_p (zqa rfl rfl)<|zg<|zd<|zH rfl (fun h10=> ?_) (fun h10=> ?_)
 ·
  refine ze<|za<|e_p (zc rfl)<|zg<|zd<|zD<|zl<|zjc rQ ?_
  have hv9:(Po.sqf (Po.vals l1))=[]:=if_pos (by rw [← hP];omega)
  exact zv Tryz.results149 (none,0) trivial (zo rfl) (by rw [hv9];rfl) (ho:=oN) ((.e (j:=0) rfl (by rw [hv9]) .n):SelR _ _ _)
 ·
  obtain ⟨hk1,hk2,hk3⟩:=hok.2.2 (by rw [← hP];omega)
  rw [← hP] at hk1 hk2 hk3
  have hgl:=Po.gcd_len P (Po.der P)
  have hdl:=(Po.dqr_len P (Po.gcd P (Po.der P))).1
  refine zA<|zd<|ze<|za<|e_mv rfl<|e_mv rfl<|e_mv rfl<|zra (addQE 0 rfl)<|zn rfl rfl (.c rfl .n) ce76 (zqc (p1:=p91) (n1:=(P).length) (c1:=c92) (l1:=((P).map some)) (hn1:=by exact List.length_map _) (hm1:=by first|omega|rfl|assumption|exact Po.cl_cl _) (hb1:=by intro i;rw [Po.msome,hP,Po.cl_get];exact Nat.le_trans (hok.1 i) dd)) (.c (j:=0) rfl .n) ?_
  rintro ⟨p94,c95⟩ -
  dsimp only [aq,nq,cq]
  have e6:(Po.der (Po.vals ((P).map some)):List Rat)=Po.der P:=by rw [Po.vals_some]
  rw [e6]
  refine zra (addQE 0 rfl)<|zn rfl rfl (.c rfl (.c rfl .n)) ce159 (zwg (p1:=p91) (n1:=(P).length) (c1:=c92) (l1:=((P).map some)) (p2:=p94) (n2:=(Po.der P).length) (c2:=c95) (l2:=((Po.der P).map some)) (hn1:=by exact List.length_map _) (hm1:=by first|omega|rfl|assumption|exact Po.cl_cl _) (hn2:=by exact List.length_map _) (hm2:=by first|omega|rfl|assumption|exact Po.cl_cl _) (hok:=by rw [Po.vals_some,Po.vals_some];exact hk1)) (.c (j:=2) rfl (.c (j:=0) rfl .n)) ?_
  rintro ⟨p97,c98⟩ -
  dsimp only [aq,nq,cq]
  have e9:(Po.gcd (Po.vals ((P).map some)) (Po.vals ((Po.der P).map some)):List Rat)=Po.gcd P (Po.der P):=by rw [Po.vals_some,Po.vals_some]
  rw [e9]
  refine zra (addQE 0 rfl)<|zn rfl rfl (.c rfl (.c rfl .n)) ce150 (zrc (p1:=p91) (n1:=(P).length) (c1:=c92) (l1:=((P).map some)) (p2:=p97) (n2:=(Po.gcd P (Po.der P)).length) (c2:=c98) (l2:=((Po.gcd P (Po.der P)).map some)) (hn1:=by exact List.length_map _) (hm1:=by first|omega|rfl|assumption|exact Po.cl_cl _) (hn2:=by exact List.length_map _) (hm2:=by first|omega|rfl|assumption|exact Po.cl_cl _) (hm12:=by first|omega|rfl|assumption|exact Po.cl_cl _) (hb2:=by rw [Po.vals_some];exact hk2.1) (hok:=by rw [Po.vals_some,Po.vals_some];exact hk2.2)) (.c (j:=4) rfl (.c (j:=0) rfl .n)) ?_
  rintro ⟨p810,c811,p912,c913⟩ -
  dsimp only [aq,nq,cq]
  refine e_mv rfl<|e_p (zq rfl rfl)<|e_p (zq rfl rfl)<|e_p (zq rfl rfl)<|e_p (zc rfl)<|e_p (zc rfl)<|e_p (zc rfl)<|zg<|zd<|ze ?_
  have e14:(Po.dq (Po.vals ((P).map some)) (Po.vals ((Po.gcd P (Po.der P)).map some)):List Rat)=Po.dq P (Po.gcd P (Po.der P)):=by rw [Po.vals_some,Po.vals_some]
  rw [e14]
  refine za<|e_mv rfl<|zn rfl rfl (.c rfl .n) ce160 (zhc (p1:=p810) (n1:=(Po.dq P (Po.gcd P (Po.der P))).length) (c1:=c811) (l1:=(Po.dq P (Po.gcd P (Po.der P)))) (hn1:=by first|omega|rfl|assumption|exact Po.cl_cl _) (hm1:=by first|omega|rfl|assumption|exact Po.cl_cl _) (hcl:=by exact Po.dq_cl _ _) (hb:=by exact hk3)) (.c (j:=0) rfl .n) ?_
  rintro ⟨p915,c916⟩ -
  dsimp only [aq,nq,cq]
  refine e_p (zc rfl)<|zg<|zd<|zD ?_
  have hv9:(Po.sqf (Po.vals l1))=Po.mo (Po.dq P (Po.gcd P (Po.der P))):=by unfold Po.sqf;rw [← hP,if_neg om]
  exact zv Tryz.results149 (p915,c916) trivial (zo rfl) (by rw [hv9]) (ho:=oN) ((.e (j:=0) rfl (by rw [hv9]) .n):SelR _ _ _)
end Go.Proofs.YtahiajepeodhoaaGreat.Sp
namespace Go.Proofs.YtahiajepeodhoaaGreat.Sp
open Go
set_option linter.unusedVariables false
set_option maxRecDepth 100000
set_option maxHeartbeats 8000000
theorem zYe {pL:Option Addr} {nL:Nat} {cL:Nat} {L:List (List Rat)} {u1:Wd} {v1:Wd} {x1:Rat} (hnL:L.length=nL) (hmL:nL≤400) (hx:yf x1≤100000000000) (hv:Po.vok L x1):Con yd 151 [.slice pL nL cL,.agg #[u1.b,u1.l,v1.b,v1.l]] [] [slF (rS rQ) pL cL L,qF true u1 v1 x1] (Y:=Unit) (fun y=>True) (fun y=> .int .i64 (Po.vr L x1)) (fun y=>[]) (fun y=>[]):=by
 refine zk Tryz.func151 rfl rfl rfl (fun c=> ?_)
 show RunC _ _ _ _ _ [(0,.slice pL nL cL),(1,.agg #[u1.b,u1.l,v1.b,v1.l])] [] [slF (rS rQ) pL cL L,qF true u1 v1 x1]
 refine zU 0 rfl (fun hL0=> ?_)
 refine ze<|za<|zE rfl rfl (zM rfl rfl) (fun b1=> ?_)
 refine e_p (zc rfl)<|zg<|zd<|ze<|za<|e_p (zc rfl)<|e_p (zc rfl)<|zg<|zd<|ze<|ze<|za<|e_mv rfl<|e_p (zL ye rfl)<|e_mv rfl<|zg<|zd<|zy<|zla (X:=Nat×Int×Int) (fun x:Nat×Int×Int=>(x.1≤nL∧0≤x.2.1∧x.2.1≤x.1∧ -1≤x.2.2∧x.2.2≤1)∧Po.va x1 (L.drop x.1) x.2.1 x.2.2=Po.vr L x1) (fun x=>[(6,.int .i64 (x.2.2)),(5,.int .i64 (x.2.1)),(12,.int .i64 ((x.1:Nat):Int)),(11,.int .i64 ((nL:Nat):Int)),(10,.slice pL nL cL),(4,.int .i64 0),(3,.pointer (some ⟨b1,0,none⟩))]) (fun x=>[boxA b1 32 (cw [u1,v1])]) (fun x=>[slF (rS rQ) pL cL L,qF true u1 v1 x1]) (fun x:Nat×Int×Int=>nL - x.1) (0,0,0) (show (0≤nL∧0≤0∧0≤0∧ -1≤0∧0≤1)∧Po.va x1 (L.drop 0) 0 0=Po.vr L x1 from by exact ⟨by omega,rfl⟩) ((.c rfl (.c rfl (.e rfl cgs (.of rfl)))):SubM _ _) (ho:=(o0 rfl)) ((.of [0,1] rfl):SelR _ _ _) ?_
 rintro ⟨i,n,s⟩ hI
 replace hI:(i≤nL∧0≤n∧n≤i∧ -1≤s∧s≤1)∧Po.va x1 (L.drop i) n s=Po.vr L x1:=hI
 try dsimp only [cw]
 obtain ⟨⟨hi,hn0,hni,hs1,hs2⟩,hvr⟩:=hI
 have hss: -1≤s∧s≤1:=⟨hs1,hs2⟩
 refine ze<|za<|e_p (zZ rfl rfl)<|zg<|zd<|ze<|zH rfl (fun h13=> ?_) (fun h13=> ?_)
 ·
  have hiL:i<nL:=by omega
  have hw:=hv (L.getD i []) (by rw [List.getD_eq_getElem?_getD,List.getElem?_eq_getElem om];exact List.getElem_mem _)
  have hva:=Po.va_step x1 (show i<L.length by omega) n s
  refine zA<|zd<|ze<|zy<|ze<|za<|r_vl rfl rfl (zua (x0:=(L.getD i [])) 0 i rfl ye sz60 rfl (by first|rfl|assumption|(simp;done)|omega) rfl rfl (gD (d:=[]) om)) ?_
  rintro ⟨b2,o3,p4,c5⟩ -
  dsimp only [aq,nq,cq]
  refine e_ru (zu (j:=0) 0 ty60 rfl rfl rfl rfl)<|e_p (zc rfl)<|zg<|zd<|ze<|za<|e_mv rfl<|e_ru (zb 0 ty32 rfl rfl (.t4 .nil))<|zra (addQe 3 rfl)<|zra (addQE 2 rfl)<|zn rfl rfl (.c rfl (.c rfl .n)) ce70 (zrd (p1:=p4) (n1:=(L.getD i []).length) (c1:=c5) (l1:=((L.getD i []).map some)) (u1:=u1) (v1:=v1) (x1:=(some x1)) (hn1:=by exact List.length_map _) (hm1:=by exact Nat.le_trans hw.1 dd) (hx:=by exact Nat.le_trans hx dd) (hb1:=by intro j;rw [Po.msome];exact Nat.le_trans (hw.2.1 j) dd) (hs:=by intro j;rw [Po.vals_some];exact hw.2.2 j)) (.c (j:=0) rfl (.c (j:=1) rfl .n)) ?_
  rintro ⟨w36,w47⟩ -
  dsimp only [aq,nq,cq]
  have e8:(Po.ev ((some x1).getD 0) (Po.vals ((L.getD i []).map some)):Rat)=Po.ev x1 (L.getD i []):=by rw [Po.vals_some];rfl
  rw [e8]
  refine zK rfl rfl (.c rfl .n) ce98 (zJb (k1:=true) (u1:=w36) (v1:=w47) (q1:=(Po.ev x1 (L.getD i [])))) (.c (j:=0) rfl .n)<|e_p (zc rfl)<|zg<|zd<|ze<|ze<|za<|e_mv rfl<|e_p (zqa rfl rfl)<|zg<|zd<|zH rfl (fun h21=> ?_) (fun h21=> ?_)
  ·
   rw [if_pos h21] at hva
   refine zha<|zj<|zx<|zd<|za<|e_p (zN (z:=(((i+1):Nat):Int)) rfl rfl (w64 om))<|e_mv rfl<|zg<|zea ((i+1),n,s) (show ((i+1)≤nL∧0≤n∧n≤(i+1)∧ -1≤s∧s≤1)∧Po.va x1 (L.drop (i+1)) n s=Po.vr L x1 from by exact ⟨by omega,hva.symm.trans hvr⟩) (by show nL - (i+1)<nL - i;omega) (mR rfl) (ho:=(o0 rfl)) ((.of [5,6] rfl):SelR _ _ _)
  ·
   rw [if_neg h21] at hva
   refine zA<|zd<|ze<|ze<|za<|e_mv rfl<|e_mv rfl<|e_p (ztb (z:=(s*yj (Po.ev x1 (L.getD i [])))) rfl rfl (w64 (by exact ⟨rfl,Po.sg_mul hss (Big.sgq_rng _)⟩)))<|e_p (zZ rfl rfl)<|zg<|zd<|zH rfl (fun h25=> ?_) (fun h25=> ?_)
   ·
    rw [if_pos h25] at hva
    refine za<|e_mv rfl<|e_p (zN (z:=(n+1)) rfl rfl (w64 om))<|e_p (zc rfl)<|zg<|zd<|za<|e_mv rfl<|e_p (zc rfl)<|zg<|zQ<|zd<|za<|e_p (zN (z:=(((i+1):Nat):Int)) rfl rfl (w64 om))<|e_mv rfl<|zg<|zea ((i+1),(n+1),yj (Po.ev x1 (L.getD i []))) (show ((i+1)≤nL∧0≤(n+1)∧(n+1)≤(i+1)∧ -1≤(yj (Po.ev x1 (L.getD i [])))∧(yj (Po.ev x1 (L.getD i [])))≤1)∧Po.va x1 (L.drop (i+1)) (n+1) (yj (Po.ev x1 (L.getD i [])))=Po.vr L x1 from by have h9:=Big.sgq_rng (Po.ev x1 (L.getD i []));exact ⟨by omega,hva.symm.trans hvr⟩) (by show nL - (i+1)<nL - i;omega) (mR rfl) (ho:=(o0 rfl)) ((.of [5,6] rfl):SelR _ _ _)
   ·
    rw [if_neg h25] at hva
    refine zA<|zd<|za<|e_mv rfl<|e_p (zc rfl)<|zg<|zQ<|zd<|za<|e_p (zN (z:=(((i+1):Nat):Int)) rfl rfl (w64 om))<|e_mv rfl<|zg<|zea ((i+1),n,yj (Po.ev x1 (L.getD i []))) (show ((i+1)≤nL∧0≤n∧n≤(i+1)∧ -1≤(yj (Po.ev x1 (L.getD i [])))∧(yj (Po.ev x1 (L.getD i [])))≤1)∧Po.va x1 (L.drop (i+1)) n (yj (Po.ev x1 (L.getD i [])))=Po.vr L x1 from by have h9:=Big.sgq_rng (Po.ev x1 (L.getD i []));exact ⟨by omega,hva.symm.trans hvr⟩) (by show nL - (i+1)<nL - i;omega) (mR rfl) (ho:=(o0 rfl)) ((.of [5,6] rfl):SelR _ _ _)
 ·
  refine zha<|zj<|zj<|zx<|zd<|ze<|za<|e_mv rfl<|e_p (zc rfl)<|zg<|zd<|zD ?_
  have hv9:n=Po.vr L x1:=by rw [← hvr,List.drop_eq_nil_of_le om];rfl
  exact zv Tryz.results151 () trivial (zo rfl) (by rw [hv9]) (ho:=oN) sN
theorem zyg {pL:Option Addr} {nL:Nat} {cL:Nat} {L:List (List Rat)} {u1:Wd} {v1:Wd} {x1:Rat} {u2:Wd} {v2:Wd} {x2:Rat} (hnL:L.length=nL) (hmL:nL≤400) (hx1:yf x1≤100000000000) (hx2:yf x2≤100000000000) (hv1:Po.vok L x1) (hv2:Po.vok L x2):Con yd 131 [.slice pL nL cL,.agg #[u1.b,u1.l,v1.b,v1.l],.agg #[u2.b,u2.l,v2.b,v2.l]] [] [slF (rS rQ) pL cL L,qF true u1 v1 x1,qF true u2 v2 x2] (Y:=Unit) (fun y=>True) (fun y=> .int .i64 (Po.bt L x1 x2)) (fun y=>[]) (fun y=>[]):=by
 refine zk Tryz.func131 rfl rfl rfl (fun c=> ?_)
 show RunC _ _ _ _ _ [(0,.slice pL nL cL),(1,.agg #[u1.b,u1.l,v1.b,v1.l]),(2,.agg #[u2.b,u2.l,v2.b,v2.l])] [] [slF (rS rQ) pL cL L,qF true u1 v1 x1,qF true u2 v2 x2]
 refine zU 0 rfl (fun hL0=> ?_)
 have g1:=Po.vr_rng L x1
 have g2:=Po.vr_rng L x2
 refine ze<|za<|zE rfl rfl (zM rfl rfl) (fun b1=> ?_)
 refine zE rfl rfl (zM rfl rfl) (fun b2=> ?_)
 refine e_p (zc rfl)<|zg<|zd<|ze<|zV (OW:=[]) (O:=[boxA b2 32 (cw [u2,v2]),boxA b1 32 (cw [u1,v1])]) 100000 mixed (.then .ret) kr<|e_dm 0 rfl rfl rfl<|e_u 1 rfl rfl (zb 1 ty32 rfl rfl (.t4 .nil))<|e_dm 3 rfl rfl rfl<|e_u 4 rfl rfl (zb 0 ty32 rfl rfl (.t4 .nil))<|e_one 2 (zGa rfl rfl rfl rfl (.c rfl (.c rfl .n)) ce151 (zYe (pL:=pL) (nL:=nL) (cL:=cL) (L:=L) (u1:=u1) (v1:=v1) (x1:=x1) (hnL:=ass) (hmL:=ass) (hx:=ass) (hv:=ass)) (.c (j:=0) rfl (.c (j:=1) rfl .n)) ?_)
 refine e_one 5 (zGa rfl rfl rfl rfl (.c rfl (.c rfl .n)) ce151 (zYe (pL:=pL) (nL:=nL) (cL:=cL) (L:=L) (u1:=u2) (v1:=v2) (x1:=x2) (hnL:=ass) (hmL:=ass) (hx:=ass) (hv:=ass)) (.c (j:=0) rfl (.c (j:=2) rfl .n)) ?_)
 refine e_pv 6 rfl rfl (zda (z:=((Po.vr L x1) - (Po.vr L x2))) rfl rfl (w64 om))<|e_pv 7 rfl rfl (zc rfl)<|zI kr<|zd<|zD ?_
 exact zv Tryz.results131 () trivial (zo rfl) rfl (ho:=oN) sN
end Go.Proofs.YtahiajepeodhoaaGreat.Sp
namespace Go.Proofs.YtahiajepeodhoaaGreat.Sp
open Go
set_option linter.unusedVariables false
set_option maxRecDepth 100000
set_option maxHeartbeats 8000000
theorem zuf {p1:Option Addr} {n1:Nat} {c1:Nat} {l1:List (Option Rat)} (hn1:l1.length=n1) (hm1:n1≤190) (hok:Po.sok (Po.vals l1)):Con yd 130 [.slice p1 n1 c1] [] [slF rE p1 c1 l1] (Y:=(Option Addr)×Nat) (fun y=>True) (fun y=> .slice (y.1) ((Po.sturm (Po.vals l1)).length) (y.2)) (fun y=>[]) (fun y=>[slF (rS rQ) (y.1) (y.2) (Po.sturm (Po.vals l1))]):=by
 refine zk Tryz.func130 rfl rfl rfl (fun c=> ?_)
 show RunC _ _ _ _ _ [(0,.slice p1 n1 c1)] [] [slF rE p1 c1 l1]
 refine zU 0 rfl (fun hL0=> ?_)
 refine ze<|za<|e_p (zc rfl)<|zg<|zd<|ze<|za<|e_mv rfl<|zn rfl rfl (.c rfl .n) ce149 (zxg (p1:=p1) (n1:=n1) (c1:=c1) (l1:=l1) (hn1:=ass) (hm1:=ass) (hok:=by exact hok.1)) (.c (j:=0) rfl .n) ?_
 rintro ⟨p91,c92⟩ -
 dsimp only [aq,nq,cq]
 refine e_p (zc rfl)<|zg<|zd<|ze<|ze ?_
 obtain ⟨A0,hA0⟩:∃z,z=(Po.sqf (Po.vals l1)):=⟨_,rfl⟩
 have e3:(Po.sqf (Po.vals l1):List Rat)=A0:=by exact hA0.symm
 rw [e3]
 have hAl:A0.length≤n1:=by rw [hA0,←hn1,←Po.vals_len l1];exact Po.sqf_len _
 have hAc:Po.cl A0=A0:=by rw [hA0];exact Po.sqf_cl _
 obtain ⟨hk1,hk2,hk3,hk4⟩:=hok
 rw [← hA0] at hk2 hk3 hk4
 have hAd:=Po.der_len A0
 refine za<|e_mv rfl<|e_p (zL yb rfl)<|e_p (zqa rfl rfl)<|zg<|zd<|zH rfl (fun h13=> ?_) (fun h13=> ?_)
 ·
  refine ze<|za<|e_p (zc rfl)<|zg<|zd<|zD<|zl<|zjc (rS rQ) ?_
  have hv9:(Po.sturm (Po.vals l1))=[]:=if_pos (by rw [← hA0];omega)
  exact zv Tryz.results130 (none,0) trivial (zo rfl) (by rw [hv9];rfl) (ho:=oN) ((.e (j:=0) rfl (by rw [hv9]) .n):SelR _ _ _)
 ·
  refine zA<|zd<|ze<|za<|e_mv rfl<|zva rfl rfl (zWd 0 rfl ye inf60 rfl (by first|rfl|assumption|(simp;done)|omega)) (fun b4 _=> ?_)
  refine e_p (zc rfl)<|zg<|zd<|ze<|ze<|za<|e_mv rfl<|zra (addQE 0 rfl)<|zn rfl rfl (.c rfl .n) ce76 (zqc (p1:=p91) (n1:=(A0).length) (c1:=c92) (l1:=((A0).map some)) (hn1:=by exact List.length_map _) (hm1:=by first|omega|rfl|assumption|decide) (hb1:=by intro i;rw [Po.msome];exact Nat.le_trans (hk2 i) dd)) (.c (j:=0) rfl .n) ?_
  rintro ⟨p95,c96⟩ -
  dsimp only [aq,nq,cq]
  refine e_p (zc rfl)<|zg<|zd<|zy ?_
  have e7:(Po.der (Po.vals ((A0).map some)):List Rat)=Po.der A0:=by rw [Po.vals_some]
  rw [e7]
  refine zla (X:=Nat×(List Rat)×(List Rat)×(Option Addr)×Nat×(Option Addr)×Nat×(Option Addr)×Nat×(List (List Rat))) (fun x:Nat×(List Rat)×(List Rat)×(Option Addr)×Nat×(Option Addr)×Nat×(Option Addr)×Nat×(List (List Rat))=>(x.2.1.length≤190∧x.2.2.1.length≤x.1∧x.1≤190∧x.2.2.2.2.2.2.2.2.2.length+x.1≤200)∧(Po.cl x.2.1=x.2.1∧Po.cl x.2.2.1=x.2.2.1)∧Po.stok x.1 x.2.1 x.2.2.1∧x.2.2.2.2.2.2.2.2.2++Po.st x.1 x.2.1 x.2.2.1=(Po.sturm (Po.vals l1))) (fun x=>[(4,.slice (x.2.2.2.2.2.2.2.1) (x.2.2.2.2.2.2.2.2.2.length) (x.2.2.2.2.2.2.2.2.1)),(5,.slice (x.2.2.2.2.2.1) (x.2.2.1.length) (x.2.2.2.2.2.2.1)),(3,.slice (x.2.2.2.1) (x.2.1.length) (x.2.2.2.2.1)),(2,.slice none 0 0)]) (fun x=>[rowA 60 (rS rQ) (x.2.2.2.2.2.2.2.1) (x.2.2.2.2.2.2.2.2.1) (x.2.2.2.2.2.2.2.2.2)]) (fun x=>[slF rQ (x.2.2.2.1) (x.2.2.2.2.1) (x.2.1),slF rQ (x.2.2.2.2.2.1) (x.2.2.2.2.2.2.1) (x.2.2.1),slF rQ p95 c96 (Po.der A0),slF rE p91 c92 ((A0).map some),slF rQ p91 c92 A0,slF rE p1 c1 l1]) (fun x:Nat×(List Rat)×(List Rat)×(Option Addr)×Nat×(Option Addr)×Nat×(Option Addr)×Nat×(List (List Rat))=>x.2.2.1.length) (A0.length,A0,(Po.der A0),p91,c92,p95,c96,some ⟨b4,0,none⟩,1,[A0]) (show (A0.length≤190∧(Po.der A0).length≤A0.length∧A0.length≤190∧([A0]).length+A0.length≤200)∧(Po.cl A0=A0∧Po.cl (Po.der A0)=(Po.der A0))∧Po.stok A0.length A0 (Po.der A0)∧([A0])++Po.st A0.length A0 (Po.der A0)=(Po.sturm (Po.vals l1)) from by exact ⟨⟨by omega,by omega,by omega,by show 1+A0.length≤200;omega⟩,⟨hAc,Po.der_cl _⟩,hk4,by unfold Po.sturm;rw [← hA0,if_neg om];rfl⟩) ((.e rfl cgs (.c rfl (.e rfl cgs (.c rfl .n)))):SubM _ _) (ho:=((.e (i:=0) rfl cgs .n):PickO _ _ _)) ((.e (j:=2) rfl (by first|rfl|simp_all) (.of [0,0,1,2,3] rfl)):SelR _ _ _) ?_
  rintro ⟨f,a,b,pa,ca,pb,cb,pR,cR,A⟩ hI
  replace hI:(a.length≤190∧b.length≤f∧f≤190∧A.length+f≤200)∧(Po.cl a=a∧Po.cl b=b)∧Po.stok f a b∧A++Po.st f a b=(Po.sturm (Po.vals l1)):=hI
  try dsimp only
  obtain ⟨⟨hal,hbf,hf,hAf⟩,⟨hca,hcb⟩,hsk,hst⟩:=hI
  refine ze<|ze<|za<|e_mv rfl<|e_p (zL yb rfl)<|e_p (zFa rfl rfl)<|zg<|zd<|zH rfl (fun h20=> ?_) (fun h20=> ?_)
  ·
   have hg:=Po.stok_yes hsk (show b.length≠0 by omega) om
   have hrl:=(Po.dqr_len a b).2
   refine zA<|zd<|zy<|ze<|za<|e_mv rfl<|e_mv rfl<|zva rfl rfl (zWd 1 rfl ye inf60 rfl (by first|rfl|assumption|(simp;done)|omega)) (fun b8 _=> ?_)
   refine zba 0 rfl .z<|zIa 1 rfl rfl rfl (zsa 0 rfl ye inf60 dd rfl rfl (by first|rfl|assumption|(simp;done)|omega) rfl (by first|rfl|assumption|(simp;done)|omega) om om) (fun _=>(.s .z)) ?_
   rintro ⟨p9,c10⟩ -
   dsimp only [aq,nq,cq]
   refine e_p (zc rfl)<|zg<|zd<|ze<|za<|e_mv rfl<|e_mv rfl<|zra (addQE 1 rfl)<|zra (addQE 3 rfl)<|zn rfl rfl (.c rfl (.c rfl .n)) ce150 (zrc (p1:=pa) (n1:=a.length) (c1:=ca) (l1:=(a.map some)) (p2:=pb) (n2:=b.length) (c2:=cb) (l2:=(b.map some)) (hn1:=by exact List.length_map _) (hm1:=by first|omega|rfl|assumption|decide) (hn2:=by exact List.length_map _) (hm2:=by first|omega|rfl|assumption|decide) (hm12:=by first|omega|rfl|assumption|decide) (hb2:=by rw [Po.vals_some];exact hg.2.1.1) (hok:=by rw [Po.vals_some,Po.vals_some];exact hg.2.1.2)) (.c (j:=1) rfl (.c (j:=0) rfl .n)) ?_
   rintro ⟨p811,c812,p913,c914⟩ -
   dsimp only [aq,nq,cq]
   refine e_mv rfl<|e_p (zq rfl rfl)<|e_p (zq rfl rfl)<|e_p (zq rfl rfl)<|e_p (zc rfl)<|e_p (zc rfl)<|e_p (zc rfl)<|zg<|zd ?_
   have e15:(Po.dr (Po.vals (a.map some)) (Po.vals (b.map some)):List Rat)=Po.dr a b:=by rw [Po.vals_some,Po.vals_some]
   rw [e15]
   refine za<|e_mv rfl<|e_mv rfl<|zn rfl rfl (.c rfl .n) ce58 (zoa (z:=(-1)) (hz:=by first|omega|rfl|assumption|decide)) (.n) ?_
   rintro ⟨w316,w417⟩ -
   dsimp only [aq,nq,cq]
   refine zra (addQe 0 rfl)<|zra (addQE 3 rfl)<|zn rfl rfl (.c rfl (.c rfl .n)) ce74 (zgc (p1:=p913) (n1:=(Po.dr a b).length) (c1:=c914) (l1:=((Po.dr a b).map some)) (u1:=w316) (v1:=w417) (x1:=(some (((-1):Int):Rat))) (hn1:=by exact List.length_map _) (hm1:=by first|omega|rfl|assumption|decide) (hm9:=by first|omega|rfl|assumption|decide) (hb1:=by rw [Po.vals_some];exact fun i=>Nat.le_trans (hg.2.2.1 i) dd) (hb2:=by exact Po.bd_mono (Po.bd_one (x:=((-1:Int):Rat)) (L:=1) dd) dd) (hs:=by rw [Po.vals_some];intro k lo n h;exact Nat.le_trans (Po.cv_one_hq (L:=1) (Po.bd_cl hg.2.2.1) dd k lo n h) dd)) (.c (j:=0) rfl (.c (j:=1) rfl .n)) ?_
   rintro ⟨p918,c919⟩ -
   dsimp only [aq,nq,cq]
   refine e_p (zc rfl)<|e_p (zc rfl)<|zg<|zQ ?_
   have e20:(Po.mul (Po.vals ((Po.dr a b).map some)) (Po.vals [(some (((-1):Int):Rat))]):List Rat)=Po.mul (Po.dr a b) [((-1:Int):Rat)]:=by rw [Po.vals_some];rfl
   rw [e20]
   refine zea ((f - 1),b,(Po.mul (Po.dr a b) [((-1:Int):Rat)]),pb,cb,p918,c919,p9,c10,(A++([b]))) (show (b.length≤190∧(Po.mul (Po.dr a b) [((-1:Int):Rat)]).length≤(f - 1)∧(f - 1)≤190∧(A++([b])).length+(f - 1)≤200)∧(Po.cl b=b∧Po.cl (Po.mul (Po.dr a b) [((-1:Int):Rat)])=(Po.mul (Po.dr a b) [((-1:Int):Rat)]))∧Po.stok (f - 1) b (Po.mul (Po.dr a b) [((-1:Int):Rat)])∧(A++([b]))++Po.st (f - 1) b (Po.mul (Po.dr a b) [((-1:Int):Rat)])=(Po.sturm (Po.vals l1)) from by have h9:=Po.sdr_len (a:=a) hcb (show b.length≠0 by omega) hbf;exact ⟨⟨by omega,h9,by omega,by rw [List.length_append];show A.length+1+(f - 1)≤200;omega⟩,⟨hcb,Po.mul_cl _ _⟩,hg.2.2.2,by rw [List.append_assoc,List.singleton_append,←Po.st_yes om hbf];exact hst⟩) (by have h9:=Po.sdr_len (n:=b.length) (a:=a) hcb (show b.length≠0 by omega) (Nat.le_refl _);(show (Po.mul (Po.dr a b) [((-1:Int):Rat)]).length<b.length;omega)) ((.e rfl (by simp) (.of rfl)):SubM _ _) (ho:=((.c (i:=1) rfl .n):PickO _ _ _)) ((.of [10,0,11,12,13,14] rfl):SelR _ _ _)
  ·
   refine zha<|zj<|zj<|zx<|zd<|ze<|za<|e_mv rfl<|e_p (zc rfl)<|zg<|zd<|zD<|zDb 0 rfl .z ?_
   have hv9:A=(Po.sturm (Po.vals l1)):=by rw [← hst,Po.st_nil om,List.append_nil]
   exact zv Tryz.results130 (pR,cR) trivial (zo rfl) (by rw [← hv9]) (ho:=oN) ((.e (j:=0) rfl (by rw [← hv9]) .n):SelR _ _ _)
end Go.Proofs.YtahiajepeodhoaaGreat.Sp
namespace Go.Proofs.YtahiajepeodhoaaGreat.Po
open Go.Proofs.YtahiajepeodhoaaGreat.Big
theorem cv_hq_len {K L:Nat} {p q:List Rat} (h1:bd K p) (h2:bd L q) (k lo:Nat):∀n,hq (cv p q k lo n)≤1+min n (p.length - lo)*(K+L+1)
  |0=>by show hq 0≤_;rw [hq_zero];omega
  |n+1=>by
    show hq (cv p q k lo n+p.getD (lo+n) 0*q.getD (k - (lo+n)) 0)≤_
    have e3:=cv_hq_len h1 h2 k lo n
    by_cases h:lo+n<p.length
    · have e1 := hq_add (cv p q k lo n) (p.getD (lo + n) 0 * q.getD (k - (lo + n)) 0)
      have e2:=hq_mul (p.getD (lo+n) 0) (q.getD (k - (lo+n)) 0)
      have e4:=h1 (lo+n)
      have e5:=h2 (k - (lo+n))
      rw [show min (n+1) (p.length - lo)=min n (p.length - lo)+1 by omega,Nat.succ_mul]
      omega
    · rw [gD0 (l := p) (by omega), show min (n + 1) (p.length - lo) = min n (p.length - lo) by omega, Rat.zero_mul, Rat.add_zero]
      exact e3
theorem cv_hq_of {K L N:Nat} {p q:List Rat} (h1:bd K p) (h2:bd L q) (hl:p.length≤N) (hb:1+N*(K+L+1)≤200000000000) (k lo n:Nat):hq (cv p q k lo n)≤200000000000:=by
  refine Nat.le_trans (cv_hq_len h1 h2 k lo n) (Nat.le_trans (Nat.add_le_add_left (Nat.mul_le_mul_right _ ?_) _) hb)
  omega
def e1:List Rat:=ofL [-2,1,1]
def e2:List Rat:=ofL [-2,0,1]
def e3:List Rat:=ofL [0,-1,0,1]
end Go.Proofs.YtahiajepeodhoaaGreat.Po
namespace Go.Proofs.YtahiajepeodhoaaGreat.Sp
open Go
set_option linter.unusedVariables false
set_option maxRecDepth 100000
set_option maxHeartbeats 8000000
theorem zvf {p1:Option Addr} {n1:Nat} {c1:Nat} {l1:List (Option Rat)} {u1:Wd} {v1:Wd} {x1:Rat} {u2:Wd} {v2:Wd} {x2:Rat} (hn1:l1.length=n1) (hm1:n1≤190) (hok:Po.sok (Po.vals l1)) (hne:(Po.sturm (Po.vals l1)).length≠0) (hlS:(Po.sturm (Po.vals l1)).length≤400) (hx1:yf x1≤100000000000) (hx2:yf x2≤100000000000) (hv1:Po.vok (Po.sturm (Po.vals l1)) x1) (hv2:Po.vok (Po.sturm (Po.vals l1)) x2) (hle:¬x2<x1):Con yd 107 [.slice p1 n1 c1,.agg #[u1.b,u1.l,v1.b,v1.l],.agg #[u2.b,u2.l,v2.b,v2.l]] [] [slF rE p1 c1 l1,qF true u1 v1 x1,qF true u2 v2 x2] (Y:=Unit) (fun y=>True) (fun y=> .tuple #[.int .i64 (Po.bt (Po.sturm (Po.vals l1)) x1 x2),.int .i64 0]) (fun y=>[]) (fun y=>[]):=by
 refine zk Tryz.func107 rfl rfl rfl (fun c=> ?_)
 show RunC _ _ _ _ _ [(0,.slice p1 n1 c1),(1,.agg #[u1.b,u1.l,v1.b,v1.l]),(2,.agg #[u2.b,u2.l,v2.b,v2.l])] [] [slF rE p1 c1 l1,qF true u1 v1 x1,qF true u2 v2 x2]
 refine zU 0 rfl (fun hL0=> ?_)
 refine ze<|za<|zE rfl rfl (zM rfl rfl) (fun b1=> ?_)
 refine zE rfl rfl (zM rfl rfl) (fun b2=> ?_)
 refine e_p (zc rfl)<|e_p (zc rfl)<|zg<|zd<|ze<|za<|e_mv rfl<|zn rfl rfl (.c rfl .n) ce130 (zuf (p1:=p1) (n1:=n1) (c1:=c1) (l1:=l1) (hn1:=ass) (hm1:=ass) (hok:=ass)) (.c (j:=0) rfl .n) ?_
 rintro ⟨p93,c94⟩ -
 dsimp only [aq,nq,cq]
 refine e_p (zc rfl)<|zg<|zd<|ze<|ze<|za<|e_mv rfl<|e_p (zL ye rfl)<|e_p (zqa rfl rfl)<|zg<|zd<|zH rfl (fun h13=> ?_) (fun h13=> ?_)
 ·
  omega
 ·
  refine zA<|zd<|ze<|ze<|za<|e_ru (zb 1 ty32 rfl rfl (.t4 .nil))<|e_ru (zb 0 ty32 rfl rfl (.t4 .nil))<|zK rfl rfl (.c rfl (.c rfl .n)) ce68 (zWb (k1:=true) (u1:=u1) (v1:=v1) (q1:=x1) (k2:=true) (u2:=u2) (v2:=v2) (q2:=x2) (hl:=by first|omega|rfl|assumption|decide)) (.c (j:=2) rfl (.c (j:=3) rfl .n))<|e_p (zFa rfl rfl)<|zg<|zd<|zH rfl (fun h17=> ?_) (fun h17=> ?_)
  ·
   exact absurd (Po.lt_sgq.1 h17) hle
  ·
   refine zA<|zd<|ze<|za<|e_mv rfl<|e_ru (zb 1 ty32 rfl rfl (.t4 .nil))<|e_ru (zb 0 ty32 rfl rfl (.t4 .nil))<|zK rfl rfl (.c rfl (.c rfl (.c rfl .n))) ce131 (zyg (pL:=p93) (nL:=(Po.sturm (Po.vals l1)).length) (cL:=c94) (L:=(Po.sturm (Po.vals l1))) (u1:=u1) (v1:=v1) (x1:=x1) (u2:=u2) (v2:=v2) (x2:=x2) (hnL:=by first|omega|rfl|assumption|decide) (hmL:=ass) (hx1:=ass) (hx2:=ass) (hv1:=ass) (hv2:=ass)) (.c (j:=0) rfl (.c (j:=2) rfl (.c (j:=3) rfl .n)))<|e_p (zc rfl)<|e_p (zc rfl)<|zg<|zd<|zD ?_
   exact zDa Tryz.results107 () trivial (zo rfl) (zo rfl) rfl (ho:=oN) sN
end Go.Proofs.YtahiajepeodhoaaGreat.Sp
namespace Go.Proofs.YtahiajepeodhoaaGreat.Po
open Go.Proofs.YtahiajepeodhoaaGreat.Big
theorem sub_len (p q:List Rat):(sub p q).length≤max p.length q.length:=by
  unfold sub
  exact Nat.le_trans (cl_le_len _) (by rw [gen_len];exact Nat.le_refl _)
theorem scl_len (p:List Rat) (x:Rat):(scl p x).length≤p.length:=by
  unfold scl
  exact Nat.le_trans (cl_le_len _) (by rw [gen_len];exact Nat.le_refl _)
theorem mul_clr (p q:List Rat):mul p (cl q)=mul p q:=by unfold mul;rw [cl_cl]
theorem dqr_spec {p q:List Rat} (hn:(cl q).length≠0):(dr p q).length<(cl q).length∧add (mul (dq p q) q) (dr p q)=cl p:=by
  have h:=divp_spec (p:=p) (q:=q) (fun e=>hn (by rw [e];rfl))
  unfold dq dr
  rw [if_neg hn,if_neg hn]
  rw [mul_clr] at h
  exact h
end Go.Proofs.YtahiajepeodhoaaGreat.Po
namespace Go.Proofs.YtahiajepeodhoaaGreat.Po
open Go.Proofs.YtahiajepeodhoaaGreat.Big
set_option linter.unusedVariables false
theorem cb_two {K L:Nat} {d1 d2:Int} (h1:d1≠0) (h2:d2≠0) (l1:ln d1≤K) (l2:ln d2≤L):d1*d2≠0∧ln (d1*d2)≤K+L:=⟨Int.mul_ne_zero h1 h2,by have:=zna d1 d2;omega⟩
theorem cb_add {K L:Nat} {p q:List Rat} (h:cb K p) (g:cb L q):cb (K+L+1) (add p q):=by
  obtain ⟨d1,a1,a2,a3⟩:=h
  obtain ⟨d2,b1,b2,b3⟩:=g
  obtain ⟨c1,c2⟩:=cb_two a1 b1 a2 b2
  refine ⟨d1*d2,c1,by omega,fun i=> ?_⟩
  obtain ⟨n,n1,n2⟩:=a3 i
  obtain ⟨m,m1,m2⟩:=b3 i
  refine ⟨n*d2+m*d1,?_,?_⟩
  · have:=zAb (n*d2) (m*d1);have:=zna n d2;have:=zna m d1;omega
  · rw [add_get,Rat.intCast_mul,Rat.intCast_add,Rat.intCast_mul,Rat.intCast_mul,←n2,←m2];grind
theorem cb_sub {K L:Nat} {p q:List Rat} (h:cb K p) (g:cb L q):cb (K+L+1) (sub p q):=by
  obtain ⟨d1,a1,a2,a3⟩:=h
  obtain ⟨d2,b1,b2,b3⟩:=g
  obtain ⟨c1,c2⟩:=cb_two a1 b1 a2 b2
  refine ⟨d1*d2,c1,by omega,fun i=> ?_⟩
  obtain ⟨n,n1,n2⟩:=a3 i
  obtain ⟨m,m1,m2⟩:=b3 i
  refine ⟨n*d2 - m*d1,?_,?_⟩
  · have:=zGf (n*d2) (m*d1);have:=zna n d2;have:=zna m d1;omega
  · rw [sub_get,Rat.intCast_mul,Rat.intCast_sub,Rat.intCast_mul,Rat.intCast_mul,←n2,←m2];grind
theorem co_el {K L A:Nat} {d1 d2:Int} {f g:Nat→Rat} (hf:∀i,∃n:Int,ln n≤K∧f i*(d1:Rat)=(n:Rat)) (hg:∀i,∃n:Int,ln n≤L∧g i*(d2:Rat)=(n:Rat)) (hA:∀i,A≤i→f i=0) (k:Nat):
    ∀n,∃N:Int,ln N≤K+L+min n A∧co f g k n*((d1*d2:Int):Rat)=(N:Rat)
  |0=>⟨0,by rw [zgd];omega,by show (0:Rat)*_=_;rw [Rat.zero_mul];rfl⟩
  |n+1=>by
    obtain ⟨N,h1,h2⟩:=co_el hf hg hA k n
    by_cases hn:A≤n
    · refine ⟨N, by omega, ?_⟩
      show (co f g k n+f n*g (k - n))*_=_
      rw [hA n hn,Rat.zero_mul,Rat.add_zero];exact h2
    · obtain ⟨a, a1, a2⟩ := hf n
      obtain ⟨b,b1,b2⟩:=hg (k - n)
      refine ⟨N+a*b,?_,?_⟩
      · have:=zAb N (a*b);have:=zna a b;omega
      · show (co f g k n + f n * g (k - n)) * _ = _
        rw [Rat.intCast_add,←h2,Rat.intCast_mul a b,←a2,←b2,Rat.intCast_mul];grind
theorem cb_mul {K L A:Nat} {p q:List Rat} (h:cb K p) (g:cb L q) (hA:p.length≤A):cb (K+L+A) (mul p q):=by
  obtain ⟨d1,a1,a2,a3⟩:=h
  obtain ⟨d2,b1,b2,b3⟩:=g
  obtain ⟨c1,c2⟩:=cb_two a1 b1 a2 b2
  refine ⟨d1*d2,c1,by omega,fun i=> ?_⟩
  obtain ⟨N,h1,h2⟩:=co_el (A:=A) a3 b3 (fun i hi=>gD0 (by omega)) i (i+1)
  exact ⟨N,by omega,by rw [mul_get];exact h2⟩
theorem cb_1 {x:Rat} {K:Nat} (h:hq x≤K):cb (1+K) [x]:=by
  have:=cb_of_bd (l:=[x]) (k:=K) (fun i=>by
    cases i with
    |zero=>exact h
    |succ i=>show hq (0:Rat)≤K;rw [hq_zero];have:=hq_pos x;omega)
  exact cb_mono this (by show 1+1*K≤_;omega)
theorem three_pow:∀{d:Nat},1≤d→d+2≤3^d
  |0,h=>by omega
  |1,_=>by decide
  |d+2,_=>by
    have:=three_pow (d:=d+1) (by omega)
    rw [Nat.pow_succ];omega
theorem fall {K A B:Nat} (h:B<A):(K+(A+1 - B)*(K+1)+1)*3^B≤(K+1)*3^A:=by
  obtain ⟨d,rfl⟩:∃d,A=B+d:=⟨A - B,by omega⟩
  have e:K+(B+d+1 - B)*(K+1)+1=(K+1)*(d+2):=by
    rw [show B+d+1 - B=d+1 by omega,Nat.mul_comm (K+1),show d+2=(d+1)+1 by omega,Nat.succ_mul (d+1)];omega
  rw [e,Nat.pow_add,Nat.mul_comm (3^B),←Nat.mul_assoc,Nat.mul_assoc,Nat.mul_assoc]
  have h3:=three_pow (d:=d) (by omega)
  calc (K+1)*((d+2)*3^B)≤(K+1)*(3^d*3^B):=Nat.mul_le_mul_left _ (Nat.mul_le_mul_right _ h3)
    _=(K+1)*(3^d*3^B):=rfl
theorem le_pow (K A:Nat):K+1≤(K+1)*3^A:=Nat.le_mul_of_pos_right _ (Nat.pow_pos (by decide))
theorem gok3:∀(n K A:Nat) (p q:List Rat),cl p=p→cl q=q→cb K p→cb K q→p.length≤A→q.length<A→A≤9→(K+1)*3^A≤5000000000→gok n p q∧cb ((K+1)*3^A) (ge n p q)
  |0,K,A,p,q,_,_,hp,_,_,_,_,_=>⟨trivial,cb_mono hp (by have:=le_pow K A;show K≤_;omega)⟩
  |n+1,K,A,p,q,cp,cq,hp,hq,lp,lq,hA,hb=>by
    have hk:=le_pow K A
    by_cases h0:q.length=0
    · refine ⟨fun k => absurd h0 k, ?_⟩
      rw [ge_nil h0]
      exact cb_mono hp (by omega)
    · have hd := (div_cb (N := A + 1 - q.length) cp cq h0 hp hq (by omega)).2
      have hlt:=dr_less (p:=p) cq h0
      have hml:=mo_len (dr p q)
      have hf:=fall (K:=K) lq
      have hk2:=le_pow (K+(A+1 - q.length)*(K+1)) q.length
      have h10:(A+1)*(K+1)≤10*(K+1):=Nat.mul_le_mul_right _ (by omega)
      have ih:=gok3 n (K+(A+1 - q.length)*(K+1)) q.length q (mo (dr p q)) cq (mo_cl _) (cb_mono hq (by omega)) (cb_mo (dr_cl _ _) hd) (Nat.le_refl _) (by omega) (by omega) (by omega)
      refine ⟨fun _=>⟨dgo_cb (N:=A+1) cp cq h0 hp hq (by omega) (by omega) (by omega),bd_mono (cb_bd hd) (by omega),ih.1⟩,?_⟩
      have e5:ge (n+1) p q=ge n q (mo (dr p q)):=if_neg h0
      rw [e5]
      exact cb_mono ih.2 hf
theorem stok3:∀(n K A:Nat) (p q:List Rat),cl p=p→cl q=q→cb K p→cb K q→p.length≤A→q.length<A→A≤9→(K+1)*3^A≤5000000000→stok n p q∧∀l,l∈st n p q→l.length≤A∧cb ((K+1)*3^A) l
  |0,K,A,_,_,_,_,_,_,_,_,_,_=>⟨trivial,fun l h=>by cases h⟩
  |n+1,K,A,p,q,cp,cq,hp,hq,lp,lq,hA,hb=>by
    have hk:=le_pow K A
    by_cases h0:q.length=0
    · refine ⟨fun k => absurd h0 k, fun l h => ?_⟩
      rw [st_nil h0] at h
      cases h
    · have hd := (div_cb (N := A + 1 - q.length) cp cq h0 hp hq (by omega)).2
      have hlt:=dr_less (p:=p) cq h0
      have hml:=sdr_len (n:=q.length) (a:=p) cq h0 (Nat.le_refl _)
      have hf:=fall (K:=K) lq
      have hk2:=le_pow (K+(A+1 - q.length)*(K+1)) q.length
      have h10:(A+1)*(K+1)≤10*(K+1):=Nat.mul_le_mul_right _ (by omega)
      have ih:=stok3 n (K+(A+1 - q.length)*(K+1)) q.length q (mul (dr p q) [(((-1:Int)):Rat)]) cq (mul_cl _ _) (cb_mono hq (by omega)) (cb_neg hd) (Nat.le_refl _) (by omega) (by omega) (by omega)
      refine ⟨fun _=>⟨bd_mono (cb_bd hq) (by omega),dgo_cb (N:=A+1) cp cq h0 hp hq (by omega) (by omega) (by omega),bd_mono (cb_bd hd) (by omega),ih.1⟩,fun l h=> ?_⟩
      have e5:st (n+1) p q=q :: st n q (mul (dr p q) [(((-1:Int)):Rat)]):=if_neg h0
      rw [e5] at h
      rcases List.mem_cons.1 h with rfl|h
      · exact ⟨by omega,cb_mono hq (by omega)⟩
      · obtain ⟨i1, i2⟩ := ih.2 l h
        exact ⟨by omega,cb_mono i2 hf⟩
theorem sok7 {p:List Rat} (hl:p.length≤7) (h:cb 110 p):sok p∧∀q,q∈sturm p→q.length≤10∧bd 7000000000 q:=by
  have hP:cb 110 (cl p):=cb_cl h
  have hPl:=cl_le_len p
  have hD:cb 113 (der (cl p)):=cb_der hP (by omega)
  have hDl:=der_len (cl p)
  have hDc:=der_cl (cl p)
  have hsq:sqok p∧cb 1746000 (sqf p):=by
    by_cases h0:(cl p).length=0
    · have e : sqf p = [] := if_pos h0
      refine ⟨⟨bd_mono (cb_bd h) (by decide),bd_mono (cb_bd hD) (by decide),fun k=>absurd h0 k⟩,?_⟩
      rw [e];exact cb_mono (cb_of_bd (l:=[]) (k:=1) (fun i=>by rw [gD0 (Nat.zero_le _),hq_zero];decide)) (by decide)
    · have h6 : (113 + 1) * 3 ^ 7 = 249318 := by decide
      have hg:=gok3 (der (cl p)).length 113 7 (mo (cl p)) (mo (der (cl p))) (mo_cl _) (mo_cl _) (cb_mo (cl_cl p) (cb_mono hP (by decide))) (cb_mo hDc hD) (by have:=mo_len (cl p);omega) (by have:=mo_len (der (cl p));omega) (by decide) (by decide)
      have hG:cb 249318 (gcd (cl p) (der (cl p))):=by
        unfold gcd
        rw [cl_cl,hDc]
        exact cb_mono hg.2 (by omega)
      have hGn:(gcd (cl p) (der (cl p))).length≠0:=gcd_ne (by rw [cl_cl];exact h0)
      have hdiv:=(div_cb (N:=7) (cl_cl p) (gcd_cl _ _) hGn hP hG (by omega)).1
      refine ⟨⟨bd_mono (cb_bd h) (by decide),bd_mono (cb_bd hD) (by decide),fun _=>⟨⟨bd_mono (cb_bd hP) (by decide),bd_mono (cb_bd hD) (by decide),?_⟩,dgo_cb (N:=8) (cl_cl p) (gcd_cl _ _) hGn hP hG (by omega) (by decide) (by decide),bd_mono (cb_bd hdiv) (by decide)⟩⟩,?_⟩
      · rw [cl_cl,hDc];exact hg.1
      · unfold sqf
        rw [if_neg h0]
        exact cb_mo (dq_cl _ _) (cb_mono hdiv (by decide))
  obtain ⟨hs1,hs2⟩:=hsq
  have hsl:=sqf_len p
  have hsd:cb 1746003 (der (sqf p)):=cb_der hs2 (by omega)
  have hsdl:=der_len (sqf p)
  have h6:(1746003+1)*3^7=3818510748:=by decide
  have hst:stok (sqf p).length (sqf p) (der (sqf p))∧∀l,l∈st (sqf p).length (sqf p) (der (sqf p))→l.length≤7∧cb 3818510748 l:=by
    by_cases h0:(sqf p).length=0
    · have e : der (sqf p) = [] := List.eq_nil_of_length_eq_zero (by omega)
      rw [h0]
      exact ⟨trivial,fun l h=>by cases h⟩
    · have := stok3 (sqf p).length 1746003 7 (sqf p) (der (sqf p)) (sqf_cl p) (der_cl _) (cb_mono hs2 (by decide)) hsd (by omega) (by omega) (by decide) (by decide)
      rw [h6] at this
      exact this
  refine ⟨⟨hs1,bd_mono (cb_bd hs2) (by decide),bd_mono (cb_bd hsd) (by decide),hst.1⟩,fun q hq=> ?_⟩
  unfold sturm at hq
  split at hq
  · cases hq
  · rcases List.mem_cons.1 hq with rfl | hq
    · exact ⟨by omega,bd_mono (cb_bd hs2) (by decide)⟩
    · obtain ⟨k1, k2⟩ := hst.2 q hq
      exact ⟨by omega,bd_mono (cb_bd k2) (by decide)⟩
end Go.Proofs.YtahiajepeodhoaaGreat.Po
namespace Go.Proofs.YtahiajepeodhoaaGreat.Cam
open Big
theorem rl_cb {e:Ln} (h:In e):Po.cb 3 (rl e):=by
  have key:∀n:Int,Rat.divInt n 0x100000*((0x100000:Int):Rat)=(n:Rat):=fun n=>by
    rw [Rat.divInt_eq_div]
    exact Rat.div_mul_cancel (by decide +kernel)
  refine Po.cb_cl ⟨0x100000,by decide,by decide,fun i=> ?_⟩
  match i with
  |0=>exact ⟨0x100000,by decide,by show ((1:Int):Rat)*_=_;rw [show ((1:Int):Rat)=1 from rfl,Rat.one_mul]⟩
  |1=>exact ⟨e.r0,zXc h.r0.1 h.r0.2,key e.r0⟩
  |2=>exact ⟨e.r1,zXc h.r1.1 h.r1.2,key e.r1⟩
  |3=>exact ⟨e.r2,zXc h.r2.1 h.r2.2,key e.r2⟩
  |n+4=>exact ⟨0,by decide,by show (0:Rat)*_=_;rw [Rat.zero_mul];rfl⟩
theorem xx_cb:Po.cb 1 xx:=⟨1,by decide,by decide,fun i=>by
  match i with
  |0=>exact ⟨0,by decide,by decide +kernel⟩
  |1=>exact ⟨1,by decide,by decide +kernel⟩
  |n+2=>exact ⟨0,by decide,by show (0:Rat)*_=_;rw [Rat.zero_mul];rfl⟩⟩
theorem two_cb:Po.cb 2 [((2:Int):Rat)]:=Po.cb_mono (Po.cb_1 (K:=1) (by decide)) (by decide)
theorem xd_cb {e:Ln} (h:In e):Po.cb 9 (Po.mul xx (Po.der (rl e))):=Po.cb_mono (Po.cb_mul xx_cb (Po.cb_der (rl_cb h) (by have:=rl_len e;omega)) (Nat.le_refl 2)) (by decide)
theorem xd_len (e:Ln):(Po.mul xx (Po.der (rl e))).length≤4:=by
  have a:=Po.mul_len xx (Po.der (rl e));have b:=Po.der_len (rl e);have c:=rl_len e
  have d:xx.length=2:=rfl
  omega
theorem x2_cb {e:Ln} (h:In e):Po.cb 15 (Po.mul (Po.mul xx (Po.der (rl e))) [((2:Int):Rat)]):=Po.cb_mono (Po.cb_mul (xd_cb h) two_cb (xd_len e)) (by decide)
theorem x2_len (e:Ln):(Po.mul (Po.mul xx (Po.der (rl e))) [((2:Int):Rat)]).length≤4:=by
  have a:=Po.mul_len (Po.mul xx (Po.der (rl e))) [((2:Int):Rat)];have b:=xd_len e
  have c:[((2:Int):Rat)].length=1:=rfl
  omega
theorem alo_cb {e:Ln} (h:In e):Po.cb 19 (alo e):=Po.cb_mono (Po.cb_add (rl_cb h) (x2_cb h)) (by decide)
theorem alo_len (e:Ln):(alo e).length≤4:=by
  have a:=Po.add_len (rl e) (Po.mul (Po.mul xx (Po.der (rl e))) [((2:Int):Rat)]);have b:=x2_len e;have c:=rl_len e
  unfold alo;omega
theorem zGg {e:Ln} (h:In e):hq (mulL [tP1 e,tP1 e])≤6∧hq (mulL [tP2 e,tP2 e])≤6∧hq (sumL [mulL [tP1 e,tP1 e],mulL [tP2 e,tP2 e]])≤13∧hq (tq e)≤16:=by
  have a:=m2_hq (tq1 h) (tq1 h)
  have b:=m2_hq (tq2 h) (tq2 h)
  have c:=s2_hq a b
  have d:=m2_hq (a:=((36:Int):Rat)) (A:=3) (by decide) c
  refine ⟨by omega,by omega,by omega,?_⟩
  unfold tq;omega
theorem tan_cb {e:Ln} (h:In e):Po.cb 20 (tan e):=Po.cb_mono (Po.cb_mul xx_cb (Po.cb_1 (zGg h).2.2.2) (Nat.le_refl 2)) (by decide)
theorem tan_len (e:Ln):(tan e).length≤2:=by
  have a:=Po.mul_len xx [tq e]
  have c:[tq e].length=1:=rfl
  have d:xx.length=2:=rfl
  unfold tan;omega
theorem k_hq {k:Int} (h:1≤k∧k≤255):hq (Rat.divInt k 256)≤3:=dq (by decide) (by omega) (by decide)
theorem dk_cb {p:List Rat} {k:Int} (h:Po.cb 19 p) (hk:1≤k∧k≤255):Po.cb 24 (dk p k):=Po.cb_mono (Po.cb_sub h (Po.cb_1 (k_hq hk))) (by decide)
theorem dk_len {p:List Rat} {k:Int} (h:p.length≤4):(dk p k).length≤4:=by
  have a:=Po.sub_len p [Rat.divInt k 256]
  have c:[Rat.divInt k 256].length=1:=rfl
  unfold dk;omega
theorem d2_cb {p:List Rat} {k:Int} (h:Po.cb 19 p) (hl:p.length≤4) (hk:1≤k∧k≤255):Po.cb 52 (Po.mul (dk p k) (dk p k)):=Po.cb_mono (Po.cb_mul (dk_cb h hk) (dk_cb h hk) (dk_len hl)) (by decide)
theorem zHg {p:List Rat} {k:Int} (hl:p.length≤4):(Po.mul (dk p k) (dk p k)).length≤7:=by
  have a:=Po.mul_len (dk p k) (dk p k);have b:=dk_len (k:=k) hl;omega
theorem dd_cb {e:Ln} {p:List Rat} {k:Int} (hin:In e) (h:Po.cb 19 p) (hl:p.length≤4) (hk:1≤k∧k≤255):Po.cb 73 (dd e p k):=Po.cb_mono (Po.cb_sub (d2_cb h hl hk) (tan_cb hin)) (by decide)
theorem dd_len {e:Ln} {p:List Rat} {k:Int} (hl:p.length≤4):(dd e p k).length≤7:=by
  have a:=Po.sub_len (Po.mul (dk p k) (dk p k)) (tan e);have b:=zHg (k:=k) hl;have c:=tan_len e
  unfold dd;omega
end Go.Proofs.YtahiajepeodhoaaGreat.Cam
namespace Go.Proofs.YtahiajepeodhoaaGreat.Po
open Go.Proofs.YtahiajepeodhoaaGreat.Big
theorem last_ne {l:List Rat} (hl:cl l=l) (h:l.length≠0):l.getD (l.length - 1) 0≠0:=lead_ne hl (fun e=>h (by rw [e];rfl))
theorem len_le_of {l m:List Rat} (hl:cl l=l) (h:∀i,m.getD i 0=0→l.getD i 0=0):l.length≤m.length:=by
  by_cases h0:l.length=0
  · omega
  · refine Decidable.byContradiction fun k=>last_ne hl h0 (h _ (gD0 (by omega)))
theorem scl_length {l:List Rat} {a:Rat} (hl:cl l=l) (ha:a≠0):(scl l a).length=l.length:=by
  refine Nat.le_antisymm (scl_len l a) (len_le_of hl fun i h=> ?_)
  rw [scl_get] at h
  rcases Rat.mul_eq_zero.1 h with e|e
  · exact e
  · exact absurd e ha
theorem inv_ne {x:Rat} (h:x≠0):((1:Int):Rat) / x≠0:=fun e=>by
  have:=Rat.div_mul_cancel (a:=((1:Int):Rat)) h
  rw [e,Rat.zero_mul] at this
  exact absurd this (by decide +kernel)
theorem mo_scl {l:List Rat} (hl:cl l=l):∃a,a≠0∧mo l=scl l a:=by
  by_cases h:l.length=0
  · exact ⟨1,by decide +kernel,by unfold mo;rw [if_pos h,List.length_eq_zero_iff.1 h];rfl⟩
  · exact ⟨((1:Int):Rat) / lead l,inv_ne (last_ne hl h),by unfold mo;rw [if_neg h,scl_mul]⟩
theorem mo_length {l:List Rat} (hl:cl l=l):(mo l).length=l.length:=by
  obtain ⟨a,ha,e⟩:=mo_scl hl
  rw [e,scl_length hl ha]
theorem mo_scl' (l:List Rat):mo l=if l.length=0 then [] else scl l (((1:Int):Rat) / lead l):=by unfold mo;rw [scl_mul]
end Go.Proofs.YtahiajepeodhoaaGreat.Po
namespace Go.Proofs.YtahiajepeodhoaaGreat.Po
open Go.Proofs.YtahiajepeodhoaaGreat.Big
theorem ev_scl (x a:Rat) (l:List Rat):ev x (scl l a)=ev x l*a:=by
  rw [scl_mul,ev_mul]
  show ev x l*(0*x+a)=_
  grind
theorem ev_sub (x:Rat) (p q:List Rat):ev x (sub p q)=ev x p - ev x q:=by
  rw [← sub_scl,ev_add,ev_scl,show (((-1:Int):Int):Rat)= -1 by decide +kernel]
  grind
def syn (x:Rat):List Rat→List Rat
  |[]=>[]
  |[_]=>[]
  |_ :: b :: l=>ev x (b :: l) :: syn x (b :: l)
theorem syn_ev (x t:Rat):∀l:List Rat,ev t l=(t - x)*ev t (syn x l)+ev x l
  |[]=>by show (0:Rat)=(t - x)*0+0;grind
  |[a]=>by show 0*t+a=(t - x)*0+(0*x+a);grind
  |a :: b :: l=>by
    have ih:=syn_ev x t (b :: l)
    show ev t (b :: l)*t+a=(t - x)*(ev t (syn x (b :: l))*t+ev x (b :: l))+(ev x (b :: l)*x+a)
    rw [ih];grind
theorem syn_len (x:Rat):∀l:List Rat,(syn x l).length=l.length - 1
  |[]=>rfl
  |[_]=>rfl
  |a :: b :: l=>by
    show (syn x (b :: l)).length+1=l.length+1+1 - 1
    rw [syn_len x (b :: l)];rfl
theorem fresh:∀E:List Rat,∃t,∀e,e∈E→e<t
  |[]=>⟨0,fun e h=>by cases h⟩
  |a :: E=>by
    obtain ⟨t,ht⟩:=fresh E
    by_cases h:a<t
    · exact ⟨t,fun e he=>by rcases List.mem_cons.1 he with rfl|he;exact h;exact ht e he⟩
    · refine ⟨a + 1, fun e he => ?_⟩
      rcases List.mem_cons.1 he with rfl|he
      · grind
      · have:=ht e he;grind
theorem ev_vanish:∀(n:Nat) (l:List Rat),l.length≤n→∀E:List Rat,(∀t,t ∉ E→ev t l=0)→∀t,ev t l=0
  |0,l,hl,_,_,t=>by rw [List.length_eq_zero_iff.1 (show l.length=0 by omega)];rfl
  |n+1,l,hl,E,h,t=>by
    obtain ⟨s,hs⟩:=fresh E
    have hsE:s ∉ E:=fun k=>by have:=hs s k;grind
    have h0:=h s hsE
    have ih:=ev_vanish n (syn s l) (by rw [syn_len];omega) (s :: E) fun t ht=>by
      have h1:=h t fun k=>ht (List.mem_cons_of_mem _ k)
      have h2:=syn_ev s t l
      rw [h0,h1] at h2
      have h3:(t - s)*ev t (syn s l)=0:=by grind
      rcases Rat.mul_eq_zero.1 h3 with k|k
      · exact absurd (List.mem_cons.2 (.inl (by grind))) ht
      · exact k
    rw [syn_ev s t l,ih t,h0];grind
theorem ev_coef:∀l:List Rat,(∀t,ev t l=0)→∀i,l.getD i 0=0
  |[],_,i=>gD0 (Nat.zero_le _)
  |a :: l,h,i=>by
    have ha:a=0:=by
      have:=h 0
      have e:ev 0 (a :: l)=ev 0 l*0+a:=rfl
      rw [e] at this;grind
    have hl:=ev_vanish l.length l (Nat.le_refl _) [0] fun t ht=>by
      have:=h t
      have e:ev t (a :: l)=ev t l*t+a:=rfl
      rw [e,ha,Rat.add_zero] at this
      rcases Rat.mul_eq_zero.1 this with k|k
      · exact k
      · exact absurd (List.mem_cons.2 (.inl k)) ht
    cases i with
    |zero=>exact ha
    |succ i=>exact ev_coef l hl i
theorem ev_eq {p q:List Rat} (h:∀t,ev t p=ev t q) (i:Nat):p.getD i 0=q.getD i 0:=by
  have:=ev_coef (sub p q) (fun t=>by rw [ev_sub,h];grind) i
  rw [sub_get] at this;grind
theorem ev_ext' {p q:List Rat} (hp:cl p=p) (hq:cl q=q) (h:∀t,ev t p=ev t q):p=q:=zHb hp hq (ev_eq h)
theorem mo_ev {l:List Rat} (hl:cl l=l) (t:Rat):ev t (mo l)*lead l=ev t l:=by
  rw [mo_scl']
  split
  · rename_i h
    rw [List.length_eq_zero_iff.1 h]
    show (0:Rat)*_=0
    grind
  · rename_i h
    have h0:lead l≠0:=last_ne hl h
    rw [ev_scl,Rat.mul_assoc,Rat.div_mul_cancel h0,show ((1:Int):Rat)=1 by decide +kernel,Rat.mul_one]
theorem div_ev {p q:List Rat} (hp:cl p=p) (hq:cl q=q) (h:q.length≠0) (t:Rat):ev t p=ev t (dq p q)*ev t q+ev t (dr p q):=by
  have:=(dqr_spec (p:=p) (q:=q) (by rw [hq];exact h)).2
  rw [hp] at this
  rw [← this,ev_add,ev_mul]
  rw [this]
def dvd (g p:List Rat):Prop:=∃u:List Rat,∀t,ev t p=ev t g*ev t u
theorem ge_dvd:∀(n:Nat) (p q:List Rat),cl p=p→cl q=q→q.length≤n→dvd (ge n p q) p∧dvd (ge n p q) q
  |0,p,q,_,_,hn=>by
    refine ⟨⟨[1],fun t=> ?_⟩,⟨[],fun t=> ?_⟩⟩
    · show ev t p=ev t p*(0*t+1);grind
    · rw [List.length_eq_zero_iff.1 (show q.length = 0 by omega)]
      show (0:Rat)=_*0;grind
  |n+1,p,q,hp,hq,hn=>by
    by_cases h:q.length=0
    · rw [ge_nil h]
      refine ⟨⟨[1],fun t=> ?_⟩,⟨[],fun t=> ?_⟩⟩
      · show ev t p=ev t p*(0*t+1);grind
      · rw [List.length_eq_zero_iff.1 h]
        show (0:Rat)=_*0;grind
    · have e : ge (n + 1) p q = ge n q (mo (dr p q)) := if_neg h
      have hlt:=dr_less (p:=p) hq h
      have hml:=mo_len (dr p q)
      obtain ⟨⟨u,hu⟩,⟨v,hv⟩⟩:=ge_dvd n q (mo (dr p q)) hq (mo_cl _) (by omega)
      rw [e]
      refine ⟨⟨add (mul (dq p q) u) (mul v [lead (dr p q)]),fun t=> ?_⟩,u,hu⟩
      rw [div_ev hp hq h,ev_add,ev_mul,ev_mul,←mo_ev (dr_cl p q),hu,hv]
      show _=_*(_+_*(0*t+lead (dr p q)))
      grind
theorem gcd_dvd (p q:List Rat) (hp:cl p=p) (hq:cl q=q):dvd (gcd p q) p∧dvd (gcd p q) q:=by
  have h:=ge_dvd (cl q).length (mo (cl p)) (mo (cl q)) (mo_cl _) (mo_cl _) (mo_len _)
  obtain ⟨⟨u,hu⟩,⟨v,hv⟩⟩:=h
  unfold gcd
  refine ⟨⟨mul u [lead p],fun t=> ?_⟩,⟨mul v [lead q],fun t=> ?_⟩⟩
  · rw [ev_mul, ← Rat.mul_assoc, ← hu, hp, ← mo_ev hp]
    show _=_*(0*t+lead p);grind
  · rw [ev_mul, ← Rat.mul_assoc, ← hv, hq, ← mo_ev hq]
    show _=_*(0*t+lead q);grind
theorem co_top {f g:Nat→Rat} {a b:Nat} (hf:∀i,a<i→f i=0) (hg:∀i,b<i→g i=0):∀n,n≤a+b+1→co f g (a+b) n=if a<n then f a*g b else 0
  |0,_=>by rw [if_neg (by omega)];rfl
  |n+1,hn=>by
    show co f g (a+b) n+f n*g (a+b - n)=_
    rw [co_top hf hg n (by omega)]
    by_cases h1:n<a
    · rw [if_neg (by omega),if_neg (by omega),hg (a+b - n) (by omega)];grind
    · by_cases h2 : n = a
      · subst h2
        rw [if_neg (by omega),if_pos (by omega),show n+b - n=b by omega];grind
      · rw [if_pos (by omega),if_pos (by omega),hf n (by omega)];grind
theorem mul_length {p q:List Rat} (hp:cl p=p) (hq:cl q=q) (h1:p.length≠0) (h2:q.length≠0):(mul p q).length=p.length+q.length - 1:=by
  refine Nat.le_antisymm (mul_len p q) (Decidable.byContradiction fun k=> ?_)
  have e:=mul_get p q (p.length - 1+(q.length - 1))
  rw [gD0 (by omega)] at e
  unfold C at e
  rw [co_top (fun i hi=>gD0 (by omega)) (fun i hi=>gD0 (by omega)) _ (Nat.le_refl _),if_pos (by omega)] at e
  rcases Rat.mul_eq_zero.1 e.symm with k|k
  · exact last_ne hp h1 k
  · exact last_ne hq h2 k
theorem dr_dvd {p g:List Rat} (hp:cl p=p) (hg:cl g=g) (h:g.length≠0) (k:dvd g p):dr p g=[]:=by
  obtain ⟨u,hu⟩:=k
  have hlt:=dr_less (p:=p) hg h
  have e:dr p g=mul g (sub u (dq p g)):=ev_ext' (dr_cl _ _) (mul_cl _ _) fun t=>by
    have h1:=div_ev hp hg h t
    rw [ev_mul,ev_sub]
    rw [hu t] at h1
    grind
  by_cases h0:(sub u (dq p g)).length=0
  · rw [e,List.length_eq_zero_iff.1 h0,mul_comm',mul_nil]
  · have := mul_length hg (sub_cl u (dq p g)) h h0
    rw [← e] at this
    omega
theorem exact_mul {p g:List Rat} (hp:cl p=p) (hg:cl g=g) (h:g.length≠0) (k:dvd g p):mul (dq p g) g=p:=ev_ext' (mul_cl _ _) hp fun t=>by
  have:=div_ev hp hg h t
  rw [dr_dvd hp hg h k] at this
  rw [ev_mul,this]
  show _=_+(0:Rat);grind
end Go.Proofs.YtahiajepeodhoaaGreat.Po
namespace Go.Proofs.YtahiajepeodhoaaGreat.Po
open Go.Proofs.YtahiajepeodhoaaGreat.Big
theorem half2:Rat.divInt 1 2*2=1:=by decide +kernel
theorem sqf_nil (p:List Rat):(sqf p).length=0↔(cl p).length=0:=by
  constructor
  · intro h
    refine Decidable.byContradiction fun k=> ?_
    have he:sqf p=mo (dq (cl p) (gcd (cl p) (der (cl p)))):=if_neg k
    have hn:(gcd (cl p) (der (cl p))).length≠0:=gcd_ne (by rw [cl_cl];exact k)
    have hm:=exact_mul (cl_cl p) (gcd_cl (cl p) (der (cl p))) hn (gcd_dvd (cl p) (der (cl p)) (cl_cl p) (der_cl _)).1
    rw [he,mo_length (dq_cl _ _)] at h
    rw [List.length_eq_zero_iff.1 h,mul_nil] at hm
    exact k (by rw [← hm];rfl)
  · intro h
    unfold sqf
    rw [if_pos h];rfl
theorem sturm_nil (p:List Rat):(sturm p).length=0↔(cl p).length=0:=by
  rw [← sqf_nil]
  unfold sturm
  split
  · rename_i h;exact ⟨fun _=>h,fun _=>rfl⟩
  · rename_i h;exact ⟨fun k=>by simp at k,fun k=>absurd k h⟩
end Go.Proofs.YtahiajepeodhoaaGreat.Po
namespace Go.Proofs.YtahiajepeodhoaaGreat.Cam
open Big
set_option linter.unusedVariables false
theorem evd_hq {x:Rat} {K L:Nat} {l:List Rat} (h:Po.bd K l) (hx:hq x≤L) (hl:l.length≤9) (i:Nat):hq (Po.ev x (l.drop i))≤1+9*(K+L+1):=by
  have a:=Po.ev_hq (K:=K) hx (l:=l.drop i) (hqA_drop h i)
  have b:(l.drop i).length*(K+L+1)≤9*(K+L+1):=Nat.mul_le_mul_right _ (by rw [List.length_drop];omega)
  omega
theorem pos_no {p:List Rat} {t:Rat} (h:Po.ev ((0:Int):Rat) p≤0):pos p t=false:=by unfold pos;rw [if_pos h]
theorem pos_su {p:List Rat} {t:Rat} (h:¬Po.ev ((0:Int):Rat) p≤0) (k:sure 5 (bern p t)≠0):pos p t=decide (0<sure 5 (bern p t)):=by unfold pos;rw [if_neg h,if_pos k]
theorem pos_ct {p:List Rat} {t:Rat} (h:¬Po.ev ((0:Int):Rat) p≤0) (k:¬sure 5 (bern p t)≠0):pos p t=decide (Po.bt (Po.sturm p) ((0:Int):Rat) t=0):=by unfold pos;rw [if_neg h,if_neg k]
theorem pos_len {p:List Rat} (h:¬Po.ev ((0:Int):Rat) p≤0):1≤p.length:=by
  cases p with
  |nil=>exact absurd (show Po.ev ((0:Int):Rat) []≤0 from by show (0:Rat)≤0;exact Rat.le_refl) h
  |cons a l=>exact Nat.succ_le_succ (Nat.zero_le _)
theorem bern_cb {l:List Rat} {t:Rat} (hl:hqA 10000 l) (ht:hq t≤100) (h:l.length≤9):Po.cb 900001 (bern l t):=by
  refine Po.cb_mono (Po.cb_of_bd (k:=100000) (bern_hq hl ht h)) ?_
  rw [bern_len];omega
theorem lim_0 (e:Ln):¬lim e<((0:Int):Rat):=by
  have : 0 ≤ lim e := by unfold lim; rcases Rat.le_total (a := 0) (b := Rat.divInt e.fd e.f) with h | h
                         · exact Rat.mul_nonneg h h
                         · have := Rat.mul_nonneg (a := -Rat.divInt e.fd e.f) (b := -Rat.divInt e.fd e.f) (by grind) (by grind)
                           grind
  rw [show ((0:Int):Rat)=0 from rfl]
  grind
theorem csz {K L:Nat} {p q:List Rat} (h1:Po.bd K p) (h2:Po.bd L q) (hl:p.length≤9) (hK:K≤100000) (hL:L≤100000):∀k lo n,lo+n≤k+1→hq (Po.cv (Po.cl p) (Po.cl q) k lo n)≤200000000000:=fun k lo n _=>
  Po.cv_hq_of (N:=9) (Po.bd_cl h1) (Po.bd_cl h2) (Nat.le_trans (Po.cl_le_len _) hl) (by omega) k lo n
theorem bd1 {x:Rat} {K:Nat} (h:hq x≤K):Po.bd K [x]:=fun i=>by
  cases i with
  |zero=>exact h
  |succ i=>show hq (0:Rat)≤K;rw [hq_zero];have:=hq_pos x;omega
def pp (e:Ln) (i:Nat):List Rat:=[rl e,alo e].getD i []
theorem pp_0 (e:Ln):pp e 0=rl e:=rfl
theorem pp_1 (e:Ln):pp e 1=alo e:=rfl
theorem pp_cb {e:Ln} (h:In e):∀i,i<2→Po.cb 19 (pp e i)
  |0,_=>Po.cb_mono (rl_cb h) (by decide)
  |1,_=>alo_cb h
theorem pp_len {e:Ln}:∀i,(pp e i).length≤4
  |0=>rl_len e
  |1=>alo_len e
  |n+2=>Nat.zero_le _
theorem adm_no {e:Ln} {k:Int} {i:Nat} (hi:i<2) (h:¬adm1 e k (pp e i)=true):adm e k=false:=by
  unfold adm
  rcases (show i=0∨i=1 by omega) with rfl|rfl
  · rw [pp_0] at h
    rw [Bool.eq_false_iff.2 h];rfl
  · rw [pp_1] at h
    rw [Bool.eq_false_iff.2 h,Bool.and_false]
theorem adm_yes {e:Ln} {k:Int} (h:∀i,i<2→adm1 e k (pp e i)=true):adm e k=true:=by
  unfold adm
  have h0:=h 0 (by decide)
  have h1:=h 1 (by decide)
  rw [pp_0] at h0
  rw [pp_1] at h1
  rw [h0,h1];rfl
theorem adm1_f {e:Ln} {k:Int} {p:List Rat} (h:(!pos (dk p k) (lim e))=true):true=decide (¬adm1 e k p=true):=by
  have h1:pos (dk p k) (lim e)=false:=by simpa using h
  unfold adm1
  rw [h1];rfl
theorem adm1_t {e:Ln} {k:Int} {p:List Rat} (h:(!pos (dk p k) (lim e))=false):(!pos (dd e p k) (lim e))=decide (¬adm1 e k p=true):=by
  have h1:pos (dk p k) (lim e)=true:=by simpa using h
  unfold adm1
  rw [h1]
  cases pos (dd e p k) (lim e) <;> rfl
theorem srch_done {f:Nat→Bool} {n i j:Nat} (h:¬i<j):srch f n i j=i:=by
  cases n with
  |zero=>rfl
  |succ n=>unfold srch;rw [if_neg h]
theorem srch_lo {f:Nat→Bool} {n i j:Nat} (h:i<j) (k:¬f ((i+j) / 2)=true) (hn:0<n):srch f n i j=srch f (n - 1) ((i+j) / 2+1) j:=by
  obtain ⟨m,rfl⟩:∃m,n=m+1:=⟨n - 1,by omega⟩
  conv=>lhs;unfold srch
  rw [if_pos h,if_neg k,Nat.add_sub_cancel]
theorem srch_hi {f:Nat→Bool} {n i j:Nat} (h:i<j) (k:f ((i+j) / 2)=true) (hn:0<n):srch f n i j=srch f (n - 1) i ((i+j) / 2):=by
  obtain ⟨m,rfl⟩:∃m,n=m+1:=⟨n - 1,by omega⟩
  conv=>lhs;unfold srch
  rw [if_pos h,if_pos k,Nat.add_sub_cancel]
theorem srch_le {f:Nat→Bool}:∀(n i j:Nat),i≤j→srch f n i j≤j
  |0,i,j,h=>h
  |n+1,i,j,h=>by
    unfold srch
    split
    · split
      · have:=srch_le (f:=f) n i ((i+j) / 2) (by omega);omega
      · exact srch_le n _ j (by omega)
    · exact h
theorem md_le (e:Ln):md e≤255:=srch_le _ _ _ (by decide)
end Go.Proofs.YtahiajepeodhoaaGreat.Cam
namespace Go.Proofs.YtahiajepeodhoaaGreat.Sp
open Go
set_option linter.unusedVariables false
set_option maxRecDepth 100000
set_option maxHeartbeats 8000000
theorem zZe {p:Option Addr} {n:Nat} {cap:Nat} {l:List Rat} {wt1:Wd} {wt2:Wd} {t:Rat} (hn:l.length=n) (hn7:n≤7) (hc:Po.cb 110 l) (hcl:Po.cl l=l) (ht:yf t≤100) (ht0:¬t<((0:Int):Rat)):Con yd 78 [.slice p n cap,.agg #[wt1.b,wt1.l,wt2.b,wt2.l]] [] [slF rQ p cap l,qF true wt1 wt2 t] (Y:=Unit) (fun y=>True) (fun y=> .bool (Cam.pos l t)) (fun y=>[]) (fun y=>[]):=by
 refine zk Tryz.func78 rfl rfl rfl (fun c=> ?_)
 show RunC _ _ _ _ _ [(0,.slice p n cap),(1,.agg #[wt1.b,wt1.l,wt2.b,wt2.l])] [] [slF rQ p cap l,qF true wt1 wt2 t]
 refine zU 0 rfl (fun hL0=> ?_)
 have hb:=Po.cb_bd hc
 have hlA:Cam.hqA 10000 l:=fun i=>Nat.le_trans (hb i) dd
 have hz0:yf ((0:Int):Rat)≤3:=by decide
 obtain ⟨hsk1,hsk2⟩:=Po.sok7 (p:=l) om hc
 refine ze<|za<|zE rfl rfl (zM rfl rfl) (fun b1=> ?_)
 refine e_p (zc rfl)<|zg<|zd<|ze<|ze<|za<|e_mv rfl<|zn rfl rfl (.c rfl .n) ce58 (zoa (z:=0) (hz:=by first|rfl|assumption|omega|decide)) (.n) ?_
 rintro ⟨w32,w43⟩ -
 dsimp only [aq,nq,cq]
 refine zra (addQe 0 rfl)<|zra (addQE 2 rfl)<|zn rfl rfl (.c rfl (.c rfl .n)) ce70 (zrd (p1:=p) (n1:=n) (c1:=cap) (l1:=(l.map some)) (u1:=w32) (v1:=w43) (x1:=(some ((0:Int):Rat))) (hn1:=by exact (List.length_map _).trans hn) (hm1:=by first|rfl|assumption|omega|decide) (hx:=by first|rfl|assumption|omega|decide) (hb1:=by intro i;rw [Po.msome];exact Nat.le_trans (hb i) dd) (hs:=by intro i;rw [Po.vals_some];exact Nat.le_trans (Cam.evd_hq hb hz0 om i) dd)) (.c (j:=0) rfl (.c (j:=1) rfl .n)) ?_
 rintro ⟨w34,w45⟩ -
 dsimp only [aq,nq,cq]
 have e6:(Po.ev ((some ((0:Int):Rat)).getD 0) (Po.vals (l.map some)):Rat)=Po.ev ((0:Int):Rat) l:=by rw [Po.vals_some];rfl
 rw [e6]
 refine zK rfl rfl (.c rfl .n) ce98 (zJb (k1:=true) (u1:=w34) (v1:=w45) (q1:=(Po.ev ((0:Int):Rat) l))) (.c (j:=0) rfl .n)<|e_p (zxb rfl rfl)<|zg<|zd<|zH rfl (fun h12=> ?_) (fun h12=> ?_)
 ·
  refine ze<|za<|e_p (zc rfl)<|zg<|zd<|zD<|zl ?_
  exact zv Tryz.results78 () trivial (zo rfl) (by rw [Cam.pos_no (yg.1 h12)]) (ho:=oN) sN
 ·
  have he0:¬Po.ev ((0:Int):Rat) l≤0:=fun k=>h12 (yg.2 k)
  have hn1:1≤n:=by have h9:=Cam.pos_len he0;omega
  refine zA<|zd<|ze<|ze<|za<|e_mv rfl<|e_ru (zb 0 ty32 rfl rfl (.t4 .nil))<|zn rfl rfl (.c rfl (.c rfl .n)) ce106 (zbg (p:=p) (n:=n) (cap:=cap) (l:=l) (wt1:=wt1) (wt2:=wt2) (t:=t) (hn:=ass) (hn1:=by first|rfl|assumption|omega|decide) (hn9:=by first|rfl|assumption|omega|decide) (hl:=by exact hlA) (ht:=ass)) (.c (j:=4) rfl (.c (j:=5) rfl .n)) ?_
  rintro ⟨p97,c98⟩ -
  dsimp only [aq,nq,cq]
  refine zK rfl rfl (.c rfl (.c rfl .n)) ce105 (zrf (p:=p97) (n:=n) (cap:=c98) (l:=(Cam.bern l t)) (K:=900001) (d:=5) (hn:=by exact (Cam.bern_len l t).trans hn) (hn1:=by first|rfl|assumption|omega|decide) (hn9:=by first|rfl|assumption|omega|decide) (hc:=by exact Cam.bern_cb hlA ht om) (hK:=by first|rfl|assumption|omega|decide)) (.c (j:=0) rfl .n)<|e_p (zc rfl)<|zg<|zd<|ze<|za<|e_mv rfl<|e_p (zqb rfl rfl)<|zg<|zd<|zH rfl (fun h18=> ?_) (fun h18=> ?_)
  ·
   refine ze<|za<|e_mv rfl<|e_p (zFa rfl rfl)<|e_p (zc rfl)<|zg<|zd<|zD<|zl ?_
   exact zv Tryz.results78 () trivial (zo rfl) (by rw [Cam.pos_su he0 h18]) (ho:=oN) sN
  ·
   refine zA<|zd<|ze<|zV (OW:=[]) (O:=[boxA b1 32 (cw [wt1,wt2])]) 100000 mixed (.then .ret) kr<|e_dm 0 rfl rfl rfl<|e_u 2 rfl rfl (zb 0 ty32 rfl rfl (.t4 .nil))<|e_one 1 (zm rfl rfl rfl rfl (.c rfl .n) ce58 (zoa (z:=0) (hz:=by first|rfl|assumption|omega|decide)) (.n) ?_)
   rintro ⟨w39,w410⟩ -
   dsimp only [aq,nq,cq]
   refine e_one 3 (zGa rfl rfl rfl rfl (.c rfl (.c rfl (.c rfl .n))) ce107 (zvf (p1:=p) (n1:=n) (c1:=cap) (l1:=(l.map some)) (u1:=w39) (v1:=w410) (x1:=((0:Int):Rat)) (u2:=wt1) (v2:=wt2) (x2:=t) (hn1:=by exact (List.length_map _).trans hn) (hm1:=by first|rfl|assumption|omega|decide) (hok:=by rw [Po.vals_some];exact hsk1) (hne:=by rw [Po.vals_some];exact fun k=>absurd ((Po.sturm_nil l).1 k) (by rw [hcl];omega)) (hlS:=by rw [Po.vals_some];have h9:=Po.sturm_len l;omega) (hx1:=by first|rfl|assumption|omega|decide) (hx2:=by first|rfl|assumption|omega|decide) (hv1:=by rw [Po.vals_some];exact Po.vok_sturm hsk2 (Nat.le_trans hz0 dd)) (hv2:=by rw [Po.vals_some];exact Po.vok_sturm hsk2 (Nat.le_trans ht dd)) (hle:=ass)) (.c (j:=3) rfl (.c (j:=0) rfl (.c (j:=7) rfl .n))) ?_)
   refine e_dm 4 rfl rfl rfl<|e_pv 5 rfl rfl (zq rfl rfl)<|e_pv 6 rfl rfl (zq rfl rfl)<|e_pv 7 rfl rfl (zc rfl)<|e_pv 8 rfl rfl (zc rfl)<|zI kr<|zd<|ze<|za<|e_mv rfl<|e_p (zqa rfl rfl)<|e_p (zc rfl)<|zg<|zd<|zD ?_
   exact zv Tryz.results78 () trivial (zo rfl) (by rw [Cam.pos_ct he0 h18,Po.vals_some]) (ho:=oN) sN
end Go.Proofs.YtahiajepeodhoaaGreat.Sp
namespace Go.Proofs.YtahiajepeodhoaaGreat.Sp
open Go
set_option linter.unusedVariables false
set_option maxRecDepth 100000
set_option maxHeartbeats 1000000
theorem zzg {e:Cam.Ln} {wa1:Wd} {wa2:Wd} {wb1:Wd} {wb2:Wd} {wc1:Wd} {wc2:Wd} {wp1:Wd} {wp2:Wd} {wq1:Wd} {wq2:Wd} {wt1:Wd} {wt2:Wd} {pm:Option Addr} {cm:Nat} {k:Int} (hin:Cam.In e) (hok:Cam.ok e) (hk:1≤k∧k≤255):Con yd 46 [.agg #[wa1.b,wa1.l,wa2.b,wa2.l,wb1.b,wb1.l,wb2.b,wb2.l,wc1.b,wc1.l,wc2.b,wc2.l,wp1.b,wp1.l,wp2.b,wp2.l,wq1.b,wq1.l,wq2.b,wq2.l,wt1.b,wt1.l,wt2.b,wt2.l,.slice pm ((Cam.rl e).length) cm],.int .i64 k] [] [qF true wa1 wa2 (Rat.divInt e.r0 0x100000),qF true wb1 wb2 (Rat.divInt e.r1 0x100000),qF true wc1 wc2 (Rat.divInt e.r2 0x100000),qF true wp1 wp2 (Cam.tP1 e),qF true wq1 wq2 (Cam.tP2 e),qF true wt1 wt2 (Cam.lim e),slF rQ pm cm (Cam.rl e)] (Y:=Unit) (fun y=>True) (fun y=> .bool (Cam.adm e k)) (fun y=>[]) (fun y=>[]):=by
 refine zk Tryz.func46 rfl rfl rfl (fun c=> ?_)
 show RunC _ _ _ _ _ [(0,.agg #[wa1.b,wa1.l,wa2.b,wa2.l,wb1.b,wb1.l,wb2.b,wb2.l,wc1.b,wc1.l,wc2.b,wc2.l,wp1.b,wp1.l,wp2.b,wp2.l,wq1.b,wq1.l,wq2.b,wq2.l,wt1.b,wt1.l,wt2.b,wt2.l,.slice pm ((Cam.rl e).length) cm]),(1,.int .i64 k)] [] [qF true wa1 wa2 (Rat.divInt e.r0 0x100000),qF true wb1 wb2 (Rat.divInt e.r1 0x100000),qF true wc1 wc2 (Rat.divInt e.r2 0x100000),qF true wp1 wp2 (Cam.tP1 e),qF true wq1 wq2 (Cam.tP2 e),qF true wt1 wt2 (Cam.lim e),slF rQ pm cm (Cam.rl e)]
 refine zU 6 rfl (fun hL6=> ?_)
 have hlq:=Cam.lim_hq hin hok
 have hl0:=Cam.lim_0 e
 have hrb:=Po.cb_bd (Cam.rl_cb hin)
 have hrl:=Cam.rl_len e
 have hdl:=Po.der_len (Cam.rl e)
 have hdb:=Po.cb_bd (Po.cb_der (Cam.rl_cb hin) om)
 have hxb:=Po.cb_bd Cam.xx_cb
 have hmb:=Po.cb_bd (Cam.xd_cb hin)
 have hml:=Cam.xd_len e
 have hsb:=Po.cb_bd (Cam.x2_cb hin)
 have hsl:=Cam.x2_len e
 have htb:=Po.cb_bd (Cam.tan_cb hin)
 have htl:=Cam.tan_len e
 have hkb:=Cam.bd1 (Cam.k_hq hk)
 have h2b:=Cam.bd1 (x:=((2:Int):Rat)) (K:=1) dd
 obtain ⟨hp1,hp2,hp3,hp4⟩:=Cam.zGg hin
 have ht1:=Cam.tq1 hin
 have ht2:=Cam.tq2 hin
 have hqb:=Cam.bd1 hp4
 refine ze<|za<|zE rfl rfl (zM rfl rfl) (fun b1=> ?_)
 refine e_p (zc rfl)<|zg<|zd<|ze<|zvc 0 rfl .z<|za<|e_mv rfl<|zn rfl rfl (.c rfl (.c rfl .n)) ce47 (zsb (z1:=k) (z2:=256) (hz1:=by first|omega|assumption|rfl|decide|(simp;done)) (hz2:=by first|omega|assumption|rfl|decide|(simp;done)) (hy:=by first|omega|assumption|rfl|decide|(simp;done))) (.n) ?_
 rintro ⟨w32,w43⟩ -
 dsimp only [aq,nq,cq]
 refine zva rfl rfl (zt (r:=rQ) (k:=1) yb inf32 rfl dd dd dd (.c (x:=(Rat.divInt k 256)) (cs:=[w32.b,w32.l,w43.b,w43.l]) (w32,w43) rfl rfl rfl (fun g hr=>Holds.get 0 rfl hr) .n)) (fun b4 _=> ?_)
 refine e_p (zc rfl)<|zg<|zd<|ze<|za<|zn rfl rfl (.c rfl .n) ce58 (zoa (z:=0) (hz:=by first|omega|assumption|rfl|decide|(simp;done))) (.n) ?_
 rintro ⟨w35,w46⟩ -
 dsimp only [aq,nq,cq]
 refine zn rfl rfl (.c rfl .n) ce58 (zoa (z:=1) (hz:=by first|omega|assumption|rfl|decide|(simp;done))) (.n) ?_
 rintro ⟨w37,w48⟩ -
 dsimp only [aq,nq,cq]
 refine zva rfl rfl (zt (r:=rQ) (k:=2) yb inf32 rfl dd dd dd (.c (x:=((0:Int):Rat)) (cs:=[w35.b,w35.l,w46.b,w46.l]) (w35,w46) rfl rfl rfl (fun g hr=>Holds.get 1 rfl hr) (.c (x:=((1:Int):Rat)) (cs:=[w37.b,w37.l,w48.b,w48.l]) (w37,w48) rfl rfl rfl (fun g hr=>Holds.get 0 rfl hr) .n))) (fun b9 _=> ?_)
 refine e_p (zc rfl)<|zg<|zd<|ze<|zlb 0 rfl .z ?_
 have e10:([((0:Int):Rat),((1:Int):Rat)]:List Rat)=Cam.xx:=by rfl
 rw [e10]
 refine zlb 1 rfl (.s .z)<|zV (OW:=[]) (O:=[emA,emA,emA]) 100000 mixed (.then .ret) kr<|e_pv 0 rfl rfl (zf yc rfl sz60 rfl rfl)<|e_u 1 rfl rfl (zu (j:=24) 5 ty60 rfl rfl rfl rfl)<|e_dm 2 rfl rfl rfl<|e_pv 3 rfl rfl (zf yc rfl sz60 rfl rfl)<|e_u 4 rfl rfl (zu (j:=24) 5 ty60 rfl rfl rfl rfl) ?_
 first|refine zSa (addQE 12 rfl) ?_|refine zGb (addQE 12 rfl) ?_
 refine e_one 5 (zm rfl rfl rfl rfl (.c rfl .n) ce76 (zqc (p1:=pm) (n1:=(Cam.rl e).length) (c1:=cm) (l1:=((Cam.rl e).map some)) (hn1:=by exact List.length_map _) (hm1:=by first|omega|assumption|rfl|decide|(simp;done)) (hb1:=by intro i;rw [Po.msome];exact Nat.le_trans (hrb i) dd)) (.c (j:=0) rfl .n) ?_)
 rintro ⟨p911,c912⟩ -
 dsimp only [aq,nq,cq]
 have e13:(Po.der (Po.vals ((Cam.rl e).map some)):List Rat)=Po.der (Cam.rl e):=by first|(rw [Po.vals_some];done)|(rw [Po.vals_some];rfl)
 rw [e13]
 first|refine zSa (addQE 3 rfl) ?_|refine zGb (addQE 3 rfl) ?_
 first|refine zSa (addQE 1 rfl) ?_|refine zGb (addQE 1 rfl) ?_
 refine e_one 6 (zm rfl rfl rfl rfl (.c rfl (.c rfl .n)) ce75 (zbd (p1:=some ⟨b9,0,none⟩) (n1:=2) (c1:=2) (l1:=(Cam.xx.map some)) (p2:=p911) (n2:=(Po.der (Cam.rl e)).length) (c2:=c912) (l2:=((Po.der (Cam.rl e)).map some)) (hn1:=by exact List.length_map _) (hm1:=by first|omega|assumption|rfl|decide|(simp;done)) (hn2:=by exact List.length_map _) (hm2:=by first|omega|assumption|rfl|decide|(simp;done)) (hm12:=by first|omega|assumption|rfl|decide|(simp;done)) (hb1:=by rw [Po.vals_some];exact fun i=>Nat.le_trans (hxb i) dd) (hb2:=by rw [Po.vals_some];exact fun i=>Nat.le_trans (hdb i) dd) (hs:=by rw [Po.vals_some,Po.vals_some];exact Cam.csz hxb hdb dd dd dd)) (.c (j:=1) rfl (.c (j:=0) rfl .n)) ?_)
 rintro ⟨p914,c915⟩ -
 dsimp only [aq,nq,cq]
 have e16:(Po.mul (Po.vals (Cam.xx.map some)) (Po.vals ((Po.der (Cam.rl e)).map some)):List Rat)=Po.mul Cam.xx (Po.der (Cam.rl e)):=by first|(rw [Po.vals_some,Po.vals_some];done)|(rw [Po.vals_some,Po.vals_some];rfl)
 rw [e16]
 refine e_one 7 (zm rfl rfl rfl rfl (.c rfl .n) ce58 (zoa (z:=2) (hz:=by first|omega|assumption|rfl|decide|(simp;done))) (.n) ?_)
 rintro ⟨w317,w418⟩ -
 dsimp only [aq,nq,cq]
 first|refine zSa (addQe 0 rfl) ?_|refine zGb (addQe 0 rfl) ?_
 first|refine zSa (addQE 2 rfl) ?_|refine zGb (addQE 2 rfl) ?_
 refine e_one 8 (zm rfl rfl rfl rfl (.c rfl (.c rfl .n)) ce74 (zgc (p1:=p914) (n1:=(Po.mul Cam.xx (Po.der (Cam.rl e))).length) (c1:=c915) (l1:=((Po.mul Cam.xx (Po.der (Cam.rl e))).map some)) (u1:=w317) (v1:=w418) (x1:=(some ((2:Int):Rat))) (hn1:=by exact List.length_map _) (hm1:=by first|omega|assumption|rfl|decide|(simp;done)) (hm9:=by first|omega|assumption|rfl|decide|(simp;done)) (hb1:=by rw [Po.vals_some];exact fun i=>Nat.le_trans (hmb i) dd) (hb2:=by exact fun i=>Nat.le_trans (h2b i) dd) (hs:=by rw [Po.vals_some];exact Cam.csz hmb h2b om dd dd)) (.c (j:=0) rfl (.c (j:=1) rfl .n)) ?_)
 rintro ⟨p919,c920⟩ -
 dsimp only [aq,nq,cq]
 have e21:(Po.mul (Po.vals ((Po.mul Cam.xx (Po.der (Cam.rl e))).map some)) (Po.vals [(some ((2:Int):Rat))]):List Rat)=Po.mul (Po.mul Cam.xx (Po.der (Cam.rl e))) [((2:Int):Rat)]:=by first|(rw [Po.vals_some];done)|(rw [Po.vals_some];rfl)
 rw [e21]
 first|refine zSa (addQE 0 rfl) ?_|refine zGb (addQE 0 rfl) ?_
 refine e_one 9 (zm rfl rfl rfl rfl (.c rfl (.c rfl .n)) ce73 (zXe (p1:=pm) (n1:=(Cam.rl e).length) (c1:=cm) (l1:=((Cam.rl e).map some)) (p2:=p919) (n2:=(Po.mul (Po.mul Cam.xx (Po.der (Cam.rl e))) [((2:Int):Rat)]).length) (c2:=c920) (l2:=((Po.mul (Po.mul Cam.xx (Po.der (Cam.rl e))) [((2:Int):Rat)]).map some)) (hn1:=by exact List.length_map _) (hm1:=by first|omega|assumption|rfl|decide|(simp;done)) (hn2:=by exact List.length_map _) (hm2:=by first|omega|assumption|rfl|decide|(simp;done)) (hb:=by intro i;rw [Po.msome,Po.msome];have h8:=hrb i;have h9:=hsb i;omega)) (.c (j:=9) rfl (.c (j:=0) rfl .n)) ?_)
 rintro ⟨p922,c923⟩ -
 dsimp only [aq,nq,cq]
 have e24:(Po.add (Po.vals ((Cam.rl e).map some)) (Po.vals ((Po.mul (Po.mul Cam.xx (Po.der (Cam.rl e))) [((2:Int):Rat)]).map some)):List Rat)=Cam.alo e:=by first|(rw [Po.vals_some,Po.vals_some];done)|(rw [Po.vals_some,Po.vals_some];rfl)
 rw [e24]
 refine e_pv 10 rfl rfl (zc rfl)<|zI kr<|zd<|ze<|zV (OW:=[]) (O:=[emA,emA,emA]) 15 mixed (.then .ret) kr<|e_pv 0 rfl rfl (zf yc rfl sz32 rfl rfl)<|e_u 1 rfl rfl (zR (j:=12) 16 ty32 rfl rfl rfl (.s8 (.s4 (.t4 .nil))))<|e_pv 2 rfl rfl (zf yc rfl sz32 rfl rfl)<|e_u 3 rfl rfl (zR (j:=12) 16 ty32 rfl rfl rfl (.s8 (.s4 (.t4 .nil))))<|e_pv 6 rfl rfl (zf yc rfl sz32 rfl rfl)<|e_u 7 rfl rfl (zR (j:=16) 16 ty32 rfl rfl rfl (.s8 (.s8 (.t4 .nil))))<|e_pv 8 rfl rfl (zf yc rfl sz32 rfl rfl)<|e_u 9 rfl rfl (zR (j:=16) 16 ty32 rfl rfl rfl (.s8 (.s8 (.t4 .nil))))<|zW (m':=[(38,.agg (cw [wq1,wq2]).toArray),(36,.agg (cw [wq1,wq2]).toArray),(32,.agg (cw [wp1,wp2]).toArray),(30,.agg (cw [wp1,wp2]).toArray),(7,.slice p922 ((Cam.alo e).length) c923),(6,.slice (some ⟨b9,0,none⟩) 2 2),(5,.slice (some ⟨b4,0,none⟩) 1 1),(2,.pointer (some ⟨b1,0,none⟩))]) (R':=[slF rQ p922 c923 (Cam.alo e),slF rE (some ⟨b9,0,none⟩) 2 (Cam.xx.map some),slF rE pm cm ((Cam.rl e).map some),slF rQ (some ⟨b4,0,none⟩) 1 ([(Rat.divInt k 256)]),slF rQ (some ⟨b9,0,none⟩) 2 (Cam.xx),atF b1 0 [wa1.b,wa1.l,wa2.b,wa2.l,wb1.b,wb1.l,wb2.b,wb2.l,wc1.b,wc1.l,wc2.b,wc2.l,wp1.b,wp1.l,wp2.b,wp2.l,wq1.b,wq1.l,wq2.b,wq2.l,wt1.b,wt1.l,wt2.b,wt2.l,.slice pm ((Cam.rl e).length) cm],qF true wa1 wa2 (Rat.divInt e.r0 0x100000),qF true wb1 wb2 (Rat.divInt e.r1 0x100000),qF true wc1 wc2 (Rat.divInt e.r2 0x100000),qF true wp1 wp2 (Cam.tP1 e),qF true wq1 wq2 (Cam.tP2 e),qF true wt1 wt2 (Cam.lim e),slF rQ pm cm (Cam.rl e)]) (mR rfl) (List.Perm.refl _) (List.Perm.refl _) ((.of [0,8,10,11,12,16,17,18,19,20,21,22,23] rfl):SelR _ _ _)<|a_start<|a_step 4 rfl (X:=Nat) (fun x=> .slice (some ⟨x,0,none⟩) 2 2) (fun x=>[]) (fun x=>[slF rQ (some ⟨x,0,none⟩) 2 ([(Cam.tP1 e),(Cam.tP1 e)])]) [] kr rfl kr kr kr (fun _=> ?_) ?_
 ·
  refine zW (m':=[(32,.agg (cw [wp1,wp2]).toArray),(30,.agg (cw [wp1,wp2]).toArray)]) (R':=[qF true wp1 wp2 (Cam.tP1 e)]) ((.c rfl (.c rfl .n)):SubM _ _) (List.Perm.refl _) (List.Perm.refl _) ((.c (j:=9) rfl .n):SelR _ _ _)<|e_one 0 (zJa rfl rfl rfl rfl (zt (r:=rQ) (k:=2) ya inf32 rfl dd dd dd (.c (x:=(Cam.tP1 e)) (cs:=[wp1.b,wp1.l,wp2.b,wp2.l]) (wp1,wp2) rfl rfl rfl (fun g hr=>Holds.get 0 rfl hr) (.c (x:=(Cam.tP1 e)) (cs:=[wp1.b,wp1.l,wp2.b,wp2.l]) (wp1,wp2) rfl rfl rfl (fun g hr=>Holds.get 0 rfl hr) .n))) (fun u4_1 _=> ?_))
  refine zja 0 rfl .z<|zI kr ?_
  exact zS u4_1 trivial ((.c rfl .n):SubM _ _) (ho:=oN) (s0 rfl)
 refine a_step 5 rfl (X:=Wd×Wd) (fun x=> .agg #[x.1.b,x.1.l,x.2.b,x.2.l]) (fun x=>[]) (fun x=>[qF true x.1 x.2 (Cam.mulL ([(Cam.tP1 e),(Cam.tP1 e)]))]) [0] kr rfl kr kr kr (fun _=> ?_) ?_
 ·
  rintro g4_0
  refine zW (m':=[(33,.slice (some ⟨g4_0,0,none⟩) 2 2)]) (R':=[slF rQ (some ⟨g4_0,0,none⟩) 2 ([(Cam.tP1 e),(Cam.tP1 e)])]) ((.c rfl .n):SubM _ _) (List.Perm.refl _) (List.Perm.refl _) (s0 rfl)<|e_one 0 (zm rfl rfl rfl rfl (.c rfl .n) ce56 (zza (p:=some ⟨g4_0,0,none⟩) (n:=2) (cap:=2) (l:=[(Cam.tP1 e),(Cam.tP1 e)]) (hn:=by exact rfl) (hn9:=dd) (hl:=by exact Cam.hqA_cons om (Cam.hqA_cons om (Cam.hqA_nil dd))) (hn1:=dd)) (.c (j:=0) rfl .n) ?_)
  rintro ⟨u5_1,u5_2⟩ -
  dsimp only [aq,nq,cq]
  refine zI kr ?_
  exact zS (u5_1,u5_2) trivial ((.c rfl .n):SubM _ _) (ho:=oN) (s0 rfl)
 refine a_step 10 rfl (X:=Nat) (fun x=> .slice (some ⟨x,0,none⟩) 2 2) (fun x=>[]) (fun x=>[slF rQ (some ⟨x,0,none⟩) 2 ([(Cam.tP2 e),(Cam.tP2 e)])]) [] kr rfl kr kr kr (fun _=> ?_) ?_
 ·
  refine zW (m':=[(38,.agg (cw [wq1,wq2]).toArray),(36,.agg (cw [wq1,wq2]).toArray)]) (R':=[qF true wq1 wq2 (Cam.tP2 e)]) ((.c rfl (.c rfl .n)):SubM _ _) (List.Perm.refl _) (List.Perm.refl _) ((.c (j:=10) rfl .n):SelR _ _ _)<|e_one 0 (zJa rfl rfl rfl rfl (zt (r:=rQ) (k:=2) ya inf32 rfl dd dd dd (.c (x:=(Cam.tP2 e)) (cs:=[wq1.b,wq1.l,wq2.b,wq2.l]) (wq1,wq2) rfl rfl rfl (fun g hr=>Holds.get 0 rfl hr) (.c (x:=(Cam.tP2 e)) (cs:=[wq1.b,wq1.l,wq2.b,wq2.l]) (wq1,wq2) rfl rfl rfl (fun g hr=>Holds.get 0 rfl hr) .n))) (fun u10_1 _=> ?_))
  refine zja 0 rfl .z<|zI kr ?_
  exact zS u10_1 trivial ((.c rfl .n):SubM _ _) (ho:=oN) (s0 rfl)
 refine a_step 11 rfl (X:=Wd×Wd) (fun x=> .agg #[x.1.b,x.1.l,x.2.b,x.2.l]) (fun x=>[]) (fun x=>[qF true x.1 x.2 (Cam.mulL ([(Cam.tP2 e),(Cam.tP2 e)]))]) [0] kr rfl kr kr kr (fun _=> ?_) ?_
 ·
  rintro g10_0
  refine zW (m':=[(39,.slice (some ⟨g10_0,0,none⟩) 2 2)]) (R':=[slF rQ (some ⟨g10_0,0,none⟩) 2 ([(Cam.tP2 e),(Cam.tP2 e)])]) ((.c rfl .n):SubM _ _) (List.Perm.refl _) (List.Perm.refl _) (s0 rfl)<|e_one 0 (zm rfl rfl rfl rfl (.c rfl .n) ce56 (zza (p:=some ⟨g10_0,0,none⟩) (n:=2) (cap:=2) (l:=[(Cam.tP2 e),(Cam.tP2 e)]) (hn:=by exact rfl) (hn9:=dd) (hl:=by exact Cam.hqA_cons om (Cam.hqA_cons om (Cam.hqA_nil dd))) (hn1:=dd)) (.c (j:=0) rfl .n) ?_)
  rintro ⟨u11_1,u11_2⟩ -
  dsimp only [aq,nq,cq]
  refine zI kr ?_
  exact zS (u11_1,u11_2) trivial ((.c rfl .n):SubM _ _) (ho:=oN) (s0 rfl)
 refine a_step 12 rfl (X:=Nat) (fun x=> .slice (some ⟨x,0,none⟩) 2 2) (fun x=>[]) (fun x=>[slF rQ (some ⟨x,0,none⟩) 2 ([(Cam.mulL ([(Cam.tP1 e),(Cam.tP1 e)])),(Cam.mulL ([(Cam.tP2 e),(Cam.tP2 e)]))])]) [0,2] kr rfl kr kr kr (fun _=> ?_) ?_
 ·
  rintro ⟨g11_0,g11_1⟩
  rintro ⟨g5_0,g5_1⟩
  refine zW (m':=[(40,.agg (cw [g11_0,g11_1]).toArray),(34,.agg (cw [g5_0,g5_1]).toArray)]) (R':=[qF true g11_0 g11_1 (Cam.mulL ([(Cam.tP2 e),(Cam.tP2 e)])),qF true g5_0 g5_1 (Cam.mulL ([(Cam.tP1 e),(Cam.tP1 e)]))]) ((.c rfl (.c rfl .n)):SubM _ _) (List.Perm.refl _) (List.Perm.refl _) ((.of [0,1] rfl):SelR _ _ _)<|e_one 0 (zJa rfl rfl rfl rfl (zt (r:=rQ) (k:=2) ya inf32 rfl dd dd dd (.c (x:=(Cam.mulL ([(Cam.tP1 e),(Cam.tP1 e)]))) (cs:=[g5_0.b,g5_0.l,g5_1.b,g5_1.l]) (g5_0,g5_1) rfl rfl rfl (fun g hr=>Holds.get 1 rfl hr) (.c (x:=(Cam.mulL ([(Cam.tP2 e),(Cam.tP2 e)]))) (cs:=[g11_0.b,g11_0.l,g11_1.b,g11_1.l]) (g11_0,g11_1) rfl rfl rfl (fun g hr=>Holds.get 0 rfl hr) .n))) (fun u12_1 _=> ?_))
  refine zja 0 rfl .z<|zI kr ?_
  exact zS u12_1 trivial ((.c rfl .n):SubM _ _) (ho:=oN) (s0 rfl)
 refine a_step 13 rfl (X:=Wd×Wd) (fun x=> .agg #[x.1.b,x.1.l,x.2.b,x.2.l]) (fun x=>[]) (fun x=>[qF true x.1 x.2 (Cam.sumL ([(Cam.mulL ([(Cam.tP1 e),(Cam.tP1 e)])),(Cam.mulL ([(Cam.tP2 e),(Cam.tP2 e)]))]))]) [0] kr rfl kr kr kr (fun _=> ?_) ?_
 ·
  rintro g12_0
  refine zW (m':=[(41,.slice (some ⟨g12_0,0,none⟩) 2 2)]) (R':=[slF rQ (some ⟨g12_0,0,none⟩) 2 ([(Cam.mulL ([(Cam.tP1 e),(Cam.tP1 e)])),(Cam.mulL ([(Cam.tP2 e),(Cam.tP2 e)]))])]) ((.c rfl .n):SubM _ _) (List.Perm.refl _) (List.Perm.refl _) (s0 rfl)<|e_one 0 (zm rfl rfl rfl rfl (.c rfl .n) ce59 (zob (p:=some ⟨g12_0,0,none⟩) (n:=2) (cap:=2) (l:=[(Cam.mulL ([(Cam.tP1 e),(Cam.tP1 e)])),(Cam.mulL ([(Cam.tP2 e),(Cam.tP2 e)]))]) (hn:=by exact rfl) (hn9:=dd) (hl:=by exact Cam.hqA_cons om (Cam.hqA_cons om (Cam.hqA_nil dd)))) (.c (j:=0) rfl .n) ?_)
  rintro ⟨u13_1,u13_2⟩ -
  dsimp only [aq,nq,cq]
  refine zI kr ?_
  exact zS (u13_1,u13_2) trivial ((.c rfl .n):SubM _ _) (ho:=oN) (s0 rfl)
 refine a_step 14 rfl (X:=Nat) (fun x=> .pointer (some ⟨x,0,none⟩)) (fun x=>[boxA x 32 [.bool false,.slice none 0 0,.bool false,.slice none 0 0]]) (fun x=>[]) [] kr rfl kr kr kr (fun _=> ?_) ?_
 ·
  refine zW (m':=[]) (R':=[]) (.n:SubM _ _) (List.Perm.refl _) (List.Perm.refl _) sN<|e_one 0 (zJa rfl rfl rfl rfl (zr zr32 rfl) (fun u14_1 _=> ?_))
  refine zI kr ?_
  exact zS u14_1 trivial ((.c rfl .n):SubM _ _) (ho:=(o0 rfl)) sN
 refine a_fin (k':=1) (L':=(lb 16 32767)) kr kr kr kr kr kr kr ?_
 rintro g14_0 ⟨g13_0,g13_1⟩ _ _ _ _ _
 refine zW (m':=[(8,.pointer (some ⟨g14_0,0,none⟩)),(42,.agg (cw [g13_0,g13_1]).toArray),(38,.agg (cw [wq1,wq2]).toArray),(36,.agg (cw [wq1,wq2]).toArray),(32,.agg (cw [wp1,wp2]).toArray),(30,.agg (cw [wp1,wp2]).toArray),(7,.slice p922 ((Cam.alo e).length) c923),(6,.slice (some ⟨b9,0,none⟩) 2 2),(5,.slice (some ⟨b4,0,none⟩) 1 1),(2,.pointer (some ⟨b1,0,none⟩))]) (OW':=[boxA g14_0 32 (cw [wz,wz])]) (R':=[qF true g13_0 g13_1 (Cam.sumL ([(Cam.mulL ([(Cam.tP1 e),(Cam.tP1 e)])),(Cam.mulL ([(Cam.tP2 e),(Cam.tP2 e)]))])),slF rQ p922 c923 (Cam.alo e),slF rE (some ⟨b9,0,none⟩) 2 (Cam.xx.map some),slF rE pm cm ((Cam.rl e).map some),slF rQ (some ⟨b4,0,none⟩) 1 ([(Rat.divInt k 256)]),slF rQ (some ⟨b9,0,none⟩) 2 (Cam.xx),atF b1 0 [wa1.b,wa1.l,wa2.b,wa2.l,wb1.b,wb1.l,wb2.b,wb2.l,wc1.b,wc1.l,wc2.b,wc2.l,wp1.b,wp1.l,wp2.b,wp2.l,wq1.b,wq1.l,wq2.b,wq2.l,wt1.b,wt1.l,wt2.b,wt2.l,.slice pm ((Cam.rl e).length) cm],qF true wa1 wa2 (Rat.divInt e.r0 0x100000),qF true wb1 wb2 (Rat.divInt e.r1 0x100000),qF true wc1 wc2 (Rat.divInt e.r2 0x100000),qF true wp1 wp2 (Cam.tP1 e),qF true wq1 wq2 (Cam.tP2 e),qF true wt1 wt2 (Cam.lim e),slF rQ pm cm (Cam.rl e)]) (mR rfl) (List.Perm.refl _) (List.Perm.refl _) ((.of [0,6,7,8,9,10,11,12,13,14,15,16,17,18] rfl):SelR _ _ _)<|e_one 15 (zw kr rfl rfl rfl rfl rfl sz32 rfl (.t4 .nil) ?_)
 refine zI kr<|zd<|ze<|zvc 0 rfl .z<|zV (OW:=[]) (O:=[emA,emA,emA,emA]) 100000 mixed (.then .ret) kr<|e_dm 0 rfl rfl rfl<|e_u 2 rfl rfl (zR (j:=0) 0 ty32 rfl rfl rfl (.t4 .nil))<|e_one 1 (zm rfl rfl rfl rfl (.c rfl .n) ce58 (zoa (z:=36) (hz:=by first|omega|assumption|rfl|decide|(simp;done))) (.n) ?_)
 rintro ⟨w325,w426⟩ -
 dsimp only [aq,nq,cq]
 refine e_one 3 (zJa rfl rfl rfl rfl (zt (r:=rQ) (k:=2) ya inf32 rfl dd dd dd (.c (x:=((36:Int):Rat)) (cs:=[w325.b,w325.l,w426.b,w426.l]) (w325,w426) rfl rfl rfl (fun g hr=>Holds.get 0 rfl hr) (.c (x:=(Cam.sumL ([(Cam.mulL ([(Cam.tP1 e),(Cam.tP1 e)])),(Cam.mulL ([(Cam.tP2 e),(Cam.tP2 e)]))]))) (cs:=[g13_0.b,g13_0.l,g13_1.b,g13_1.l]) (g13_0,g13_1) rfl rfl rfl (fun g hr=>Holds.get 2 rfl hr) .n))) (fun b27 _=> ?_))
 refine zja 0 rfl .z<|e_one 4 (zm rfl rfl rfl rfl (.c rfl .n) ce56 (zza (p:=some ⟨b27,0,none⟩) (n:=2) (cap:=2) (l:=[((36:Int):Rat),(Cam.sumL ([(Cam.mulL ([(Cam.tP1 e),(Cam.tP1 e)])),(Cam.mulL ([(Cam.tP2 e),(Cam.tP2 e)]))]))]) (hn:=by exact rfl) (hn9:=dd) (hl:=by exact Cam.hqA_cons dd (Cam.hqA_cons om (Cam.hqA_nil dd))) (hn1:=dd)) (.c (j:=0) rfl .n) ?_)
 rintro ⟨w328,w429⟩ -
 dsimp only [aq,nq,cq]
 first|refine zSa (addQe 0 rfl) ?_|refine zGb (addQe 0 rfl) ?_
 refine e_one 5 (zm rfl rfl rfl rfl (.c rfl (.c rfl .n)) ce74 (zgc (p1:=some ⟨b9,0,none⟩) (n1:=2) (c1:=2) (l1:=(Cam.xx.map some)) (u1:=w328) (v1:=w429) (x1:=(some (Cam.mulL ([((36:Int):Rat),(Cam.sumL ([(Cam.mulL ([(Cam.tP1 e),(Cam.tP1 e)])),(Cam.mulL ([(Cam.tP2 e),(Cam.tP2 e)]))]))])))) (hn1:=by exact List.length_map _) (hm1:=by first|omega|assumption|rfl|decide|(simp;done)) (hm9:=by first|omega|assumption|rfl|decide|(simp;done)) (hb1:=by rw [Po.vals_some];exact fun i=>Nat.le_trans (hxb i) dd) (hb2:=by exact fun i=>Nat.le_trans (hqb i) dd) (hs:=by rw [Po.vals_some];exact Cam.csz hxb hqb dd dd dd)) (.c (j:=7) rfl (.c (j:=0) rfl .n)) ?_)
 rintro ⟨p930,c931⟩ -
 dsimp only [aq,nq,cq]
 have e32:(Po.mul (Po.vals (Cam.xx.map some)) (Po.vals [(some (Cam.mulL ([((36:Int):Rat),(Cam.sumL ([(Cam.mulL ([(Cam.tP1 e),(Cam.tP1 e)])),(Cam.mulL ([(Cam.tP2 e),(Cam.tP2 e)]))]))])))]):List Rat)=Cam.tan e:=by first|(rw [Po.vals_some];done)|(rw [Po.vals_some];rfl)
 rw [e32]
 refine e_pv 6 rfl rfl (zc rfl)<|zI kr<|zd<|ze<|ze<|za<|e_p (zf yc rfl sz60 rfl rfl)<|e_ru (zu (j:=24) 12 ty60 rfl rfl rfl rfl)<|e_mv rfl<|zva rfl rfl (zt (r:=rS rQ) (k:=2) ye inf60 rfl dd dd dd (.c (x:=(Cam.rl e)) (cs:=[.slice pm ((Cam.rl e).length) cm]) (pm,cm) rfl rfl rfl (fun g hr=>Holds.get 19 rfl hr) (.c (x:=(Cam.alo e)) (cs:=[.slice p922 ((Cam.alo e).length) c923]) (p922,c923) rfl rfl rfl (fun g hr=>Holds.get 7 rfl hr) .n))) (fun b33 _=> ?_)
 refine e_p (zL ye rfl)<|e_mv rfl<|zg<|zd<|zy<|zlb 0 rfl .z<|zla (X:=Nat) (fun x:Nat=>x≤2∧∀q,q<x→Cam.adm1 e k (Cam.pp e q)=true) (fun x=>[(54,.int .i64 ((x:Nat):Int)),(53,.int .i64 2),(52,.slice (some ⟨b33,0,none⟩) 2 2),(9,.slice p930 ((Cam.tan e).length) c931),(5,.slice (some ⟨b4,0,none⟩) 1 1),(2,.pointer (some ⟨b1,0,none⟩))]) (fun x=>[]) (fun x=>[slF (rS rQ) (some ⟨b33,0,none⟩) 2 ([(Cam.rl e),(Cam.alo e)]),slF rQ p930 c931 (Cam.tan e),slF rE pm cm ((Cam.rl e).map some),slF rQ (some ⟨b4,0,none⟩) 1 ([(Rat.divInt k 256)]),atF b1 0 [wa1.b,wa1.l,wa2.b,wa2.l,wb1.b,wb1.l,wb2.b,wb2.l,wc1.b,wc1.l,wc2.b,wc2.l,wp1.b,wp1.l,wp2.b,wp2.l,wq1.b,wq1.l,wq2.b,wq2.l,wt1.b,wt1.l,wt2.b,wt2.l,.slice pm ((Cam.rl e).length) cm],qF true wa1 wa2 (Rat.divInt e.r0 0x100000),qF true wb1 wb2 (Rat.divInt e.r1 0x100000),qF true wc1 wc2 (Rat.divInt e.r2 0x100000),qF true wp1 wp2 (Cam.tP1 e),qF true wq1 wq2 (Cam.tP2 e),qF true wt1 wt2 (Cam.lim e),slF rQ pm cm (Cam.rl e)]) (fun x:Nat=>2 - x) 0 (show 0≤2∧∀q,q<0→Cam.adm1 e k (Cam.pp e q)=true from by exact ⟨by decide,fun q h=>by omega⟩) ((.e rfl cgs (.of rfl)):SubM _ _) (ho:=oN) ((.of [0,1,10,11,13,14,15,16,17,18,19,20] rfl):SelR _ _ _) ?_
 rintro i hI
 replace hI:i≤2∧∀q,q<i→Cam.adm1 e k (Cam.pp e q)=true:=hI
 try dsimp only
 obtain ⟨hi,hall⟩:=hI
 refine ze<|za<|e_p (zZ rfl rfl)<|zg<|zd<|ze<|zH rfl (fun h55=> ?_) (fun h55=> ?_)
 ·
  refine zA<|zd<|ze<|zy<|ze<|za<|r_vl rfl rfl (zua (x0:=(([(Cam.rl e),(Cam.alo e)]).getD i [])) 0 i rfl ye sz60 rfl (by first|rfl|assumption|omega|(simp;done)) rfl rfl (gD (d:=[]) (by first|omega|(show i<2;omega)))) ?_
  rintro ⟨b34,o35,p36,c37⟩ -
  dsimp only [aq,nq,cq]
  have e38:(([(Cam.rl e),(Cam.alo e)]).getD i []:List Rat)=Cam.pp e i:=by rfl
  rw [e38]
  refine e_ru (zu (j:=0) 0 ty60 rfl rfl rfl rfl)<|e_p (zc rfl)<|zg<|zd<|ze ?_
  have hpb:=Po.cb_bd (Cam.pp_cb hin i om)
  have hpl:=Cam.pp_len (e:=e) i
  have hdkb:=Po.cb_bd (Cam.dk_cb (Cam.pp_cb hin i om) hk)
  have hdkl:=Cam.dk_len (k:=k) hpl
  have hd2b:=Po.cb_bd (Cam.d2_cb (Cam.pp_cb hin i om) hpl hk)
  have hd2l:=Cam.zHg (k:=k) hpl
  have hddl:=Cam.dd_len (e:=e) (k:=k) hpl
  refine za<|e_mv rfl<|e_mv rfl<|zra (addQE 1 rfl)<|zra (addQE 6 rfl)<|zn rfl rfl (.c rfl (.c rfl .n)) ce77 (zRd (p1:=p36) (n1:=(Cam.pp e i).length) (c1:=c37) (l1:=((Cam.pp e i).map some)) (p2:=some ⟨b4,0,none⟩) (n2:=1) (c2:=1) (l2:=(([(Rat.divInt k 256)]).map some)) (hn1:=by exact List.length_map _) (hm1:=by first|omega|assumption|rfl|decide|(simp;done)) (hn2:=by exact List.length_map _) (hm2:=by first|omega|assumption|rfl|decide|(simp;done)) (hb:=by intro i;rw [Po.msome,Po.msome];have h8:=hpb i;have h9:=hkb i;omega)) (.c (j:=1) rfl (.c (j:=0) rfl .n)) ?_
  rintro ⟨p939,c940⟩ -
  dsimp only [aq,nq,cq]
  have e41:(Po.sub (Po.vals ((Cam.pp e i).map some)) (Po.vals (([(Rat.divInt k 256)]).map some)):List Rat)=Cam.dk (Cam.pp e i) k:=by first|(rw [Po.vals_some,Po.vals_some];done)|(rw [Po.vals_some,Po.vals_some];rfl)
  rw [e41]
  refine e_p (zc rfl)<|zg<|zd<|zQa (X:=Unit) (fun x=>True) (fun x=>[(76,.bool (decide (¬Cam.adm1 e k (Cam.pp e i)=true))),(54,.int .i64 ((i:Nat):Int)),(53,.int .i64 2),(52,.slice (some ⟨b33,0,none⟩) 2 2),(9,.slice p930 ((Cam.tan e).length) c931),(5,.slice (some ⟨b4,0,none⟩) 1 1),(2,.pointer (some ⟨b1,0,none⟩))]) (fun x=>[]) (fun x=>[slF rE (some ⟨b4,0,none⟩) 1 (([(Rat.divInt k 256)]).map some),slF (rS rQ) (some ⟨b33,0,none⟩) 2 ([(Cam.rl e),(Cam.alo e)]),slF rQ p930 c931 (Cam.tan e),slF rE pm cm ((Cam.rl e).map some),slF rQ (some ⟨b4,0,none⟩) 1 ([(Rat.divInt k 256)]),atF b1 0 [wa1.b,wa1.l,wa2.b,wa2.l,wb1.b,wb1.l,wb2.b,wb2.l,wc1.b,wc1.l,wc2.b,wc2.l,wp1.b,wp1.l,wp2.b,wp2.l,wq1.b,wq1.l,wq2.b,wq2.l,wt1.b,wt1.l,wt2.b,wt2.l,.slice pm ((Cam.rl e).length) cm],qF true wa1 wa2 (Rat.divInt e.r0 0x100000),qF true wb1 wb2 (Rat.divInt e.r1 0x100000),qF true wc1 wc2 (Rat.divInt e.r2 0x100000),qF true wp1 wp2 (Cam.tP1 e),qF true wq1 wq2 (Cam.tP2 e),qF true wt1 wt2 (Cam.lim e),slF rQ pm cm (Cam.rl e)]) ?_ ?_
  ·
   refine zV (OW:=[]) (O:=[]) 100000 mixed (.then (.block (.then (.then (.block (.then .ret)))))) kr<|e_dm 0 rfl rfl rfl<|e_pv 1 rfl rfl (zf yc rfl sz32 rfl rfl)<|e_u 2 rfl rfl (zR (j:=20) 9 ty32 rfl rfl rfl (.s8 (.s8 (.s4 (.t4 .nil)))))<|e_one 3 (zGa rfl rfl rfl rfl (.c rfl (.c rfl .n)) ce78 (zZe (p:=p939) (n:=(Cam.dk (Cam.pp e i) k).length) (cap:=c940) (l:=(Cam.dk (Cam.pp e i) k)) (wt1:=wt1) (wt2:=wt2) (t:=(Cam.lim e)) (hn:=by first|omega|assumption|rfl|decide|(simp;done)) (hn7:=om) (hc:=by exact Po.cb_mono (Cam.dk_cb (Cam.pp_cb hin i om) hk) dd) (hcl:=by exact Po.sub_cl _ _) (ht:=by first|omega|assumption|rfl|decide|(simp;done)) (ht0:=by first|omega|assumption|rfl|decide|(simp;done))) (.c (j:=0) rfl (.c (j:=15) rfl .n)) ?_)
   refine e_pv 4 rfl rfl (zeb rfl)<|d_pv_b 5 rfl rfl kr kr rfl rfl (zfa rfl) (fun h66=> ?_) (fun h66=> ?_)
   ·
    refine e_skip 6 rfl rfl<|e_skip 7 rfl rfl<|e_skip 8 rfl rfl<|e_skip 9 rfl rfl<|e_skip 10 rfl rfl<|e_skip 11 rfl rfl<|e_skip 12 rfl rfl<|e_skip 13 rfl rfl<|e_skip 14 rfl rfl<|e_pv 15 rfl rfl (zC rfl rfl)<|zI kr ?_
    exact zS () tt9 ((.e rfl (congrArg Value.bool (by first|exact Cam.adm1_f h66|exact Cam.adm1_t h66)) (.of rfl)):SubM _ _) (ho:=oN) ((.of [1,5,6,7,8,9,10,11,12,13,14,15,16] rfl):SelR _ _ _)
   ·
    refine e_dm 6 rfl rfl rfl<|e_dm 7 rfl rfl rfl<|e_dm 9 rfl rfl rfl<|e_pv 11 rfl rfl (zf yc rfl sz32 rfl rfl)<|e_u 12 rfl rfl (zR (j:=20) 9 ty32 rfl rfl rfl (.s8 (.s8 (.s4 (.t4 .nil))))) ?_
    first|refine zSa (addQE 0 rfl) ?_|refine zGb (addQE 0 rfl) ?_
    refine e_one 8 (zm rfl rfl rfl rfl (.c rfl (.c rfl .n)) ce75 (zbd (p1:=p939) (n1:=(Cam.dk (Cam.pp e i) k).length) (c1:=c940) (l1:=((Cam.dk (Cam.pp e i) k).map some)) (p2:=p939) (n2:=(Cam.dk (Cam.pp e i) k).length) (c2:=c940) (l2:=((Cam.dk (Cam.pp e i) k).map some)) (hn1:=by exact List.length_map _) (hm1:=by first|omega|assumption|rfl|decide|(simp;done)) (hn2:=by exact List.length_map _) (hm2:=by first|omega|assumption|rfl|decide|(simp;done)) (hm12:=by first|omega|assumption|rfl|decide|(simp;done)) (hb1:=by rw [Po.vals_some];exact fun i=>Nat.le_trans (hdkb i) dd) (hb2:=by rw [Po.vals_some];exact fun i=>Nat.le_trans (hdkb i) dd) (hs:=by rw [Po.vals_some];exact Cam.csz hdkb hdkb om dd dd)) (.c (j:=0) rfl (.c (j:=0) rfl .n)) ?_)
    rintro ⟨p942,c943⟩ -
    dsimp only [aq,nq,cq]
    have e44:(Po.mul (Po.vals ((Cam.dk (Cam.pp e i) k).map some)) (Po.vals ((Cam.dk (Cam.pp e i) k).map some)):List Rat)=Po.mul (Cam.dk (Cam.pp e i) k) (Cam.dk (Cam.pp e i) k):=by first|(rw [Po.vals_some];done)|(rw [Po.vals_some];rfl)
    rw [e44]
    first|refine zSa (addQE 0 rfl) ?_|refine zGb (addQE 0 rfl) ?_
    first|refine zSa (addQE 9 rfl) ?_|refine zGb (addQE 9 rfl) ?_
    refine e_one 10 (zm rfl rfl rfl rfl (.c rfl (.c rfl .n)) ce77 (zRd (p1:=p942) (n1:=(Po.mul (Cam.dk (Cam.pp e i) k) (Cam.dk (Cam.pp e i) k)).length) (c1:=c943) (l1:=((Po.mul (Cam.dk (Cam.pp e i) k) (Cam.dk (Cam.pp e i) k)).map some)) (p2:=p930) (n2:=(Cam.tan e).length) (c2:=c931) (l2:=((Cam.tan e).map some)) (hn1:=by exact List.length_map _) (hm1:=by first|omega|assumption|rfl|decide|(simp;done)) (hn2:=by exact List.length_map _) (hm2:=by first|omega|assumption|rfl|decide|(simp;done)) (hb:=by intro i;rw [Po.msome,Po.msome];have h8:=hd2b i;have h9:=htb i;omega)) (.c (j:=1) rfl (.c (j:=0) rfl .n)) ?_)
    rintro ⟨p945,c946⟩ -
    dsimp only [aq,nq,cq]
    have e47:(Po.sub (Po.vals ((Po.mul (Cam.dk (Cam.pp e i) k) (Cam.dk (Cam.pp e i) k)).map some)) (Po.vals ((Cam.tan e).map some)):List Rat)=Cam.dd e (Cam.pp e i) k:=by first|(rw [Po.vals_some,Po.vals_some];done)|(rw [Po.vals_some,Po.vals_some];rfl)
    rw [e47]
    refine e_one 13 (zGa rfl rfl rfl rfl (.c rfl (.c rfl .n)) ce78 (zZe (p:=p945) (n:=(Cam.dd e (Cam.pp e i) k).length) (cap:=c946) (l:=(Cam.dd e (Cam.pp e i) k)) (wt1:=wt1) (wt2:=wt2) (t:=(Cam.lim e)) (hn:=by first|omega|assumption|rfl|decide|(simp;done)) (hn7:=om) (hc:=by exact Po.cb_mono (Cam.dd_cb hin (Cam.pp_cb hin i om) hpl hk) dd) (hcl:=by exact Po.sub_cl _ _) (ht:=by first|omega|assumption|rfl|decide|(simp;done)) (ht0:=by first|omega|assumption|rfl|decide|(simp;done))) (.c (j:=0) rfl (.c (j:=20) rfl .n)) ?_)
    refine e_pv 14 rfl rfl (zeb rfl)<|e_pv 15 rfl rfl (zC rfl rfl)<|zI kr ?_
    exact zS () tt9 ((.e rfl (congrArg Value.bool (by first|exact Cam.adm1_f h66|exact Cam.adm1_t h66)) (.of rfl)):SubM _ _) (ho:=oN) ((.of [6,10,11,12,13,14,15,16,17,18,19,20,21] rfl):SelR _ _ _)
  ·
   rintro ⟨⟩ -
   try dsimp only
   refine zH rfl (fun h76=> ?_) (fun h76=> ?_)
   ·
    refine ze<|za<|e_p (zc rfl)<|zg<|zd<|zD<|zP<|zl<|zl<|zP<|zl ?_
    exact zv Tryz.results46 () trivial (zo rfl) (by rw [Cam.adm_no om h76]) (ho:=oN) sN
   ·
    refine zA<|zQ<|zd<|za<|e_p (zN (z:=(((i+1):Nat):Int)) rfl rfl (w64 om))<|e_mv rfl<|zg<|zea (i+1) (show (i+1)≤2∧∀q,q<(i+1)→Cam.adm1 e k (Cam.pp e q)=true from by exact ⟨by omega,fun q hq=>by by_cases e1:q=i;rw [e1];exact Decidable.not_not.1 h76;exact hall q om⟩) (by show 2 - (i+1)<2 - i;omega) (mR rfl) (ho:=oN) ((.of [1,2,3,4,5,6,7,8,9,10,11,12] rfl):SelR _ _ _)
 ·
  refine zha<|zj<|zj<|zx<|zd<|ze<|za<|e_p (zc rfl)<|zg<|zd<|zD ?_
  exact zv Tryz.results46 () trivial (zo rfl) (by rw [Cam.adm_yes (fun q hq=>hall q om)]) (ho:=oN) sN
end Go.Proofs.YtahiajepeodhoaaGreat.Sp
namespace Go.Proofs.YtahiajepeodhoaaGreat.Cam
open Big
set_option linter.unusedVariables false
def mdc (e:Ln):Int:=if ck e=0 then (if md e=0 then 13 else 0) else ck e
theorem mdc_no {e:Ln} (h:ck e≠0):mdc e=ck e:=if_neg h
theorem mdc_13 {e:Ln} (h:ck e=0) (k:md e=0):mdc e=13:=by unfold mdc;rw [if_pos h,if_pos k]
theorem mdc_0 {e:Ln} (h:ck e=0) (k:md e≠0):mdc e=0:=by unfold mdc;rw [if_pos h,if_neg k]
def nadm (e:Ln) (i:Nat):Bool:= !adm e ((i+1:Nat):Int)
def e0:Ln:=⟨64,0,0,-131072,0,0,0,0,64⟩
theorem e0_in:In e0:=⟨by decide,by decide,by decide,by decide,by decide,by decide,by decide,by decide,by decide⟩
theorem e0_ok:ok e0:=by decide
theorem e0_ck:ck e0=0:=if_pos e0_ok
theorem e0_md:md e0=159:=by decide +kernel
theorem e0_mdc:mdc e0=0:=mdc_0 e0_ck (by rw [e0_md];decide)
theorem e0_ins:ins e0 (Rat.divInt 1 2) ((0:Int):Rat):=by decide +kernel
theorem e0_dX:dX e0 (Rat.divInt 1 2) ((0:Int):Rat)=Rat.divInt 31 64:=by decide +kernel
def ez:Ln:=⟨0,0,0,0,0,0,0,0,0⟩
theorem ez_in:In ez:=⟨by decide,by decide,by decide,by decide,by decide,by decide,by decide,by decide,by decide⟩
theorem ez_ck:ck ez=2:=if_neg (by decide)
theorem e0_pc {x y:Rat}:pc e0 [(some x,some y)]=0:=pc_yes e0_ck fun j hj=>by
  have:j=0:=by have:j<1:=hj;omega
  subst this;rfl
theorem pc_some {e:Ln} {x y:Rat} (h:ok e):pc e [(some x,some y)]=0:=pc_yes (if_pos h) fun j hj=>by
  have:j=0:=by have:j<1:=hj;omega
  subst this;rfl
theorem pix_nrm {f c:Int} (h:f≠0) (x:Rat):pix f c (nrm f c x)=x:=by
  have h0:((f:Int):Rat)≠0:=fun k=>h (Rat.intCast_inj.1 (k.trans rfl))
  unfold pix nrm
  rw [Rat.div_mul_cancel h0];grind
theorem pix_hq {f c:Int} {q:Rat} {K:Nat} (h:hq q≤K) (h1: -9223372036854775808≤c∧c≤9223372036854775807) (h2: -9223372036854775808≤f∧f≤9223372036854775807):hq (pix f c q)≤K+7:=by
  have a:=iq h1
  have b:=iq h2
  have c1:=hq_mul q (f:Rat)
  have d:=hq_add (q*(f:Rat)) (c:Rat)
  unfold pix;omega
end Go.Proofs.YtahiajepeodhoaaGreat.Cam
namespace Go.Proofs.YtahiajepeodhoaaGreat.Sp
open Go
set_option linter.unusedVariables false
structure Ep where
  (tm x y z a b c d:Int)
deriving DecidableEq
section
variable {P : Program} {n : Sz} {m : Fm} {O : List As} {R : List Fa} {d : Option Tmp} {ty : TypeId} {ps : String} {af : Array Edge} {gd : Option (Nat × Bool)}
theorem pv_shr {t t2:TypeId} {x y:Operand} {k k2:IntKind} {a b z:Int} (h1:evo m x=some (.int k a)) (h2:evo m y=some (.int k2 b)) (hb:0≤b) (hz:a / 2^min b.toNat k.bits=z):PV P n ⟨d,.binOp .shr t x y t2,ty,ps,af,gd⟩ m (.int k z):=fun ac w f=>by
  simp [execOp,f.ev h1,f.ev h2,eqGuard_at_int,binOp_shr,shift_shr_any _ _ _ _ hb,hz]
end
end Go.Proofs.YtahiajepeodhoaaGreat.Sp
namespace Go.Proofs.YtahiajepeodhoaaGreat.Sh
end Go.Proofs.YtahiajepeodhoaaGreat.Sh
namespace Go.Proofs.YtahiajepeodhoaaGreat.Sp
open Go
end Go.Proofs.YtahiajepeodhoaaGreat.Sp
namespace Go.Proofs.YtahiajepeodhoaaGreat.Sp
open Go
set_option linter.unusedVariables false
set_option maxRecDepth 100000
set_option maxHeartbeats 8000000
theorem zAg {e:Cam.Ln} {wa1:Wd} {wa2:Wd} {wb1:Wd} {wb2:Wd} {wc1:Wd} {wc2:Wd} {wp1:Wd} {wp2:Wd} {wq1:Wd} {wq2:Wd} {wt1:Wd} {wt2:Wd} {pm:Option Addr} {cm:Nat} {bm:Nat} {i:Nat} (hin:Cam.In e) (hok:Cam.ok e) (hi:i<255):Con yd 45 [.int .i64 ((i:Nat):Int),.pointer (some ⟨bm,0,none⟩)] [] [atF bm 0 [wa1.b,wa1.l,wa2.b,wa2.l,wb1.b,wb1.l,wb2.b,wb2.l,wc1.b,wc1.l,wc2.b,wc2.l,wp1.b,wp1.l,wp2.b,wp2.l,wq1.b,wq1.l,wq2.b,wq2.l,wt1.b,wt1.l,wt2.b,wt2.l,.slice pm ((Cam.rl e).length) cm],qF true wa1 wa2 (Rat.divInt e.r0 0x100000),qF true wb1 wb2 (Rat.divInt e.r1 0x100000),qF true wc1 wc2 (Rat.divInt e.r2 0x100000),qF true wp1 wp2 (Cam.tP1 e),qF true wq1 wq2 (Cam.tP2 e),qF true wt1 wt2 (Cam.lim e),slF rQ pm cm (Cam.rl e)] (Y:=Unit) (fun y=>True) (fun y=> .bool (Cam.nadm e i)) (fun y=>[]) (fun y=>[]):=by
 refine zk Tryz.func45 rfl rfl rfl (fun c=> ?_)
 show RunC _ _ _ _ _ [(0,.int .i64 ((i:Nat):Int)),(1,.pointer (some ⟨bm,0,none⟩))] [] [atF bm 0 [wa1.b,wa1.l,wa2.b,wa2.l,wb1.b,wb1.l,wb2.b,wb2.l,wc1.b,wc1.l,wc2.b,wc2.l,wp1.b,wp1.l,wp2.b,wp2.l,wq1.b,wq1.l,wq2.b,wq2.l,wt1.b,wt1.l,wt2.b,wt2.l,.slice pm ((Cam.rl e).length) cm],qF true wa1 wa2 (Rat.divInt e.r0 0x100000),qF true wb1 wb2 (Rat.divInt e.r1 0x100000),qF true wc1 wc2 (Rat.divInt e.r2 0x100000),qF true wp1 wp2 (Cam.tP1 e),qF true wq1 wq2 (Cam.tP2 e),qF true wt1 wt2 (Cam.lim e),slF rQ pm cm (Cam.rl e)]
 refine zU 7 rfl (fun hL7=> ?_)
 refine ze<|za<|e_p (zc rfl)<|zg<|zd<|ze<|za<|e_ru (zR (j:=0) 0 ty62 rfl rfl rfl (.t8 (.t8 (.t8 (.take .nil)))))<|e_mv rfl<|e_p (zN (z:=(((i+1):Nat):Int)) rfl rfl (w64 om))<|zK rfl rfl (.c rfl (.c rfl .n)) ce46 (zzg (e:=e) (wa1:=wa1) (wa2:=wa2) (wb1:=wb1) (wb2:=wb2) (wc1:=wc1) (wc2:=wc2) (wp1:=wp1) (wp2:=wp2) (wq1:=wq1) (wq2:=wq2) (wt1:=wt1) (wt2:=wt2) (pm:=pm) (cm:=cm) (k:=(((i+1):Nat):Int)) (hin:=ass) (hok:=ass) (hk:=cbo)) (.c (j:=1) rfl (.c (j:=2) rfl (.c (j:=3) rfl (.c (j:=4) rfl (.c (j:=5) rfl (.c (j:=6) rfl (.c (j:=7) rfl .n)))))))<|e_p (zeb rfl)<|e_p (zc rfl)<|zg<|zd<|zD ?_
 exact zv Tryz.results45 () trivial (zo rfl) (by rfl) (ho:=oN) sN
theorem zwf {e:Cam.Ln} {wa1:Wd} {wa2:Wd} {wb1:Wd} {wb2:Wd} {wc1:Wd} {wc2:Wd} {wp1:Wd} {wp2:Wd} {wq1:Wd} {wq2:Wd} {wt1:Wd} {wt2:Wd} {pm:Option Addr} {cm:Nat} {bm:Nat} (hin:Cam.In e) (hok:Cam.ok e):Con yd 44 [.int .i64 255,.func (.func 45) #[] #[.pointer (some ⟨bm,0,none⟩)]] [] [atF bm 0 [wa1.b,wa1.l,wa2.b,wa2.l,wb1.b,wb1.l,wb2.b,wb2.l,wc1.b,wc1.l,wc2.b,wc2.l,wp1.b,wp1.l,wp2.b,wp2.l,wq1.b,wq1.l,wq2.b,wq2.l,wt1.b,wt1.l,wt2.b,wt2.l,.slice pm ((Cam.rl e).length) cm],qF true wa1 wa2 (Rat.divInt e.r0 0x100000),qF true wb1 wb2 (Rat.divInt e.r1 0x100000),qF true wc1 wc2 (Rat.divInt e.r2 0x100000),qF true wp1 wp2 (Cam.tP1 e),qF true wq1 wq2 (Cam.tP2 e),qF true wt1 wt2 (Cam.lim e),slF rQ pm cm (Cam.rl e)] (Y:=Unit) (fun y=>True) (fun y=> .int .i64 (((Cam.md e):Nat):Int)) (fun y=>[]) (fun y=>[]):=by
 refine zk Tryz.func44 rfl rfl rfl (fun c=> ?_)
 show RunC _ _ _ _ _ [(0,.int .i64 255),(1,.func (.func 45) #[] #[.pointer (some ⟨bm,0,none⟩)])] [] [atF bm 0 [wa1.b,wa1.l,wa2.b,wa2.l,wb1.b,wb1.l,wb2.b,wb2.l,wc1.b,wc1.l,wc2.b,wc2.l,wp1.b,wp1.l,wp2.b,wp2.l,wq1.b,wq1.l,wq2.b,wq2.l,wt1.b,wt1.l,wt2.b,wt2.l,.slice pm ((Cam.rl e).length) cm],qF true wa1 wa2 (Rat.divInt e.r0 0x100000),qF true wb1 wb2 (Rat.divInt e.r1 0x100000),qF true wc1 wc2 (Rat.divInt e.r2 0x100000),qF true wp1 wp2 (Cam.tP1 e),qF true wq1 wq2 (Cam.tP2 e),qF true wt1 wt2 (Cam.lim e),slF rQ pm cm (Cam.rl e)]
 refine zU 7 rfl (fun hL7=> ?_)
 refine ze<|za<|e_p (zc rfl)<|zg<|zd<|ze<|za<|e_mv rfl<|e_p (zc rfl)<|e_p (zc rfl)<|zg<|zd<|ze<|zy<|zla (X:=Nat×Nat×Nat) (fun x:Nat×Nat×Nat=>(x.1≤x.2.1∧x.2.1≤255∧x.2.1 - x.1≤x.2.2)∧Cam.srch (Cam.nadm e) x.2.2 x.1 x.2.1=Cam.md e) (fun x=>[(6,.int .i64 ((x.2.1:Nat):Int)),(5,.int .i64 ((x.1:Nat):Int)),(4,.int .i64 0),(1,.func (.func 45) #[] #[.pointer (some ⟨bm,0,none⟩)])]) (fun x=>[]) (fun x=>[atF bm 0 [wa1.b,wa1.l,wa2.b,wa2.l,wb1.b,wb1.l,wb2.b,wb2.l,wc1.b,wc1.l,wc2.b,wc2.l,wp1.b,wp1.l,wp2.b,wp2.l,wq1.b,wq1.l,wq2.b,wq2.l,wt1.b,wt1.l,wt2.b,wt2.l,.slice pm ((Cam.rl e).length) cm],qF true wa1 wa2 (Rat.divInt e.r0 0x100000),qF true wb1 wb2 (Rat.divInt e.r1 0x100000),qF true wc1 wc2 (Rat.divInt e.r2 0x100000),qF true wp1 wp2 (Cam.tP1 e),qF true wq1 wq2 (Cam.tP2 e),qF true wt1 wt2 (Cam.lim e),slF rQ pm cm (Cam.rl e)]) (fun x:Nat×Nat×Nat=>x.2.1 - x.1) (0,255,255) (show (0≤255∧255≤255∧255 - 0≤255)∧Cam.srch (Cam.nadm e) 255 0 255=Cam.md e from by exact ⟨⟨by decide,by decide,by decide⟩,rfl⟩) ((.e rfl (by rfl) (.e rfl (by rfl) (.c rfl (.c rfl .n)))):SubM _ _) (ho:=oN) ((.of [0,1,2,3,4,5,6,7] rfl):SelR _ _ _) ?_
 rintro ⟨i,j,f⟩ hI
 replace hI:(i≤j∧j≤255∧j - i≤f)∧Cam.srch (Cam.nadm e) f i j=Cam.md e:=hI
 try dsimp only
 obtain ⟨⟨hij,hj,hf⟩,hs⟩:=hI
 refine ze<|ze<|za<|e_mv rfl<|e_mv rfl<|e_p (zZ rfl rfl)<|zg<|zd<|zH rfl (fun h11=> ?_) (fun h11=> ?_)
 ·
  refine zA<|zd<|zy<|ze<|za<|e_mv rfl<|e_mv rfl<|e_p (zN (z:=(((i+j):Nat):Int)) rfl rfl (w64 om))<|e_p (zG (z:=(((i+j):Nat):Int)) rfl (by rw [Tryz.underlying3];rfl) Tryz.underlying87 (wu64 om))<|e_p (pv_shr (z:=((((i+j):Nat):Int) / 2)) rfl rfl dd rfl)<|e_p (zG (z:=((((i+j):Nat):Int) / 2)) rfl (by rw [Tryz.underlying87];rfl) Tryz.underlying3 (w64 om)) ?_
  have e1:(((((i+j):Nat):Int) / 2):Int)=((((i+j) / 2):Nat):Int):=by omega
  rw [e1]
  refine e_p (zc rfl)<|zg<|zd<|ze<|za<|e_mv rfl<|e_mv rfl<|zQc (first:=[]) (cap:=[.pointer (some ⟨bm,0,none⟩)]) rfl rfl rfl (.c rfl .n) ce45 (zAg (e:=e) (wa1:=wa1) (wa2:=wa2) (wb1:=wb1) (wb2:=wb2) (wc1:=wc1) (wc2:=wc2) (wp1:=wp1) (wp2:=wp2) (wq1:=wq1) (wq2:=wq2) (wt1:=wt1) (wt2:=wt2) (pm:=pm) (cm:=cm) (bm:=bm) (i:=((i+j) / 2)) (hin:=ass) (hok:=ass) (hi:=cbo)) (.c (j:=0) rfl (.c (j:=1) rfl (.c (j:=2) rfl (.c (j:=3) rfl (.c (j:=4) rfl (.c (j:=5) rfl (.c (j:=6) rfl (.c (j:=7) rfl .n)))))))) ?_
  rintro ⟨⟩ -
  dsimp only [aq,nq,cq]
  refine e_p (zeb rfl)<|zg<|zd<|zZa rfl (fun h21=> ?_) (fun h21=> ?_)
  ·
   refine za<|e_mv rfl<|e_p (zN (z:=(((((i+j) / 2)+1):Nat):Int)) rfl rfl (w64 om))<|e_p (zc rfl)<|zg<|zQ<|zea (((i+j) / 2+1),j,(f - 1)) (show (((i+j) / 2+1)≤j∧j≤255∧j - ((i+j) / 2+1)≤(f - 1))∧Cam.srch (Cam.nadm e) (f - 1) ((i+j) / 2+1) j=Cam.md e from by exact ⟨⟨by omega,by omega,by omega⟩,(Cam.srch_lo (f:=(Cam.nadm e)) om (by simpa using h21) om).symm.trans hs⟩) (by show j - ((i+j) / 2+1)<j - i;omega) ((.c rfl (.e rfl cgs (.c rfl (.c rfl .n)))):SubM _ _) (ho:=oN) ((.of [0,1,2,3,4,5,6,7] rfl):SelR _ _ _)
  ·
   refine za<|e_mv rfl<|e_p (zc rfl)<|zg<|zQ<|zea (i,((i+j) / 2),(f - 1)) (show (i≤((i+j) / 2)∧((i+j) / 2)≤255∧((i+j) / 2) - i≤(f - 1))∧Cam.srch (Cam.nadm e) (f - 1) i ((i+j) / 2)=Cam.md e from by exact ⟨⟨by omega,by omega,by omega⟩,(Cam.srch_hi (f:=(Cam.nadm e)) om (by simpa using h21) om).symm.trans hs⟩) (by show (i+j) / 2 - i<j - i;omega) (mR rfl) (ho:=oN) ((.of [0,1,2,3,4,5,6,7] rfl):SelR _ _ _)
 ·
  refine zha<|zj<|zj<|zx<|zd<|ze<|za<|e_mv rfl<|e_p (zc rfl)<|zg<|zd<|zD ?_
  exact zv Tryz.results44 () trivial (zo rfl) (by rw [← hs,Cam.srch_done om]) (ho:=oN) sN
theorem zGe {e:Cam.Ln} (hin:Cam.In e):Con yd 14 [.agg #[.int .i64 (e.f),.int .i64 (e.cx),.int .i64 (e.cy),.int .i64 (e.r0),.int .i64 (e.r1),.int .i64 (e.r2),.int .i64 (e.p1),.int .i64 (e.p2),.int .i64 (e.fd)]] [] [] (Y:=Wd×Wd) (fun y=>True) (fun y=> .tuple #[.agg #[y.1.b,y.1.l,y.2.b,y.2.l],.int .i64 (Cam.mdc e)]) (fun y=>[]) (fun y=>[qF (decide (Cam.mdc e=0)) y.1 y.2 (if Cam.mdc e=0 then Rat.divInt ((Cam.md e:Nat):Int) 256 else 0)]):=by
 refine zk Tryz.func14 rfl rfl rfl (fun c=> ?_)
 show RunC _ _ _ _ _ [(0,.agg #[.int .i64 (e.f),.int .i64 (e.cx),.int .i64 (e.cy),.int .i64 (e.r0),.int .i64 (e.r1),.int .i64 (e.r2),.int .i64 (e.p1),.int .i64 (e.p2),.int .i64 (e.fd)])] [] []
 obtain ⟨hf1,hcx1,hcy1,hr01,hr11,hr21,hp11,hp21,hfd1⟩:=id hin
 refine ze<|za<|zE rfl rfl (zM rfl rfl) (fun b1=> ?_)
 refine zE rfl rfl (zr zr32 rfl) (fun b2=> ?_)
 refine e_p (zc rfl)<|zg<|zd<|ze<|ze<|za<|e_ru (zb 1 ty27 rfl rfl (.t8 (.take .nil)))<|zK rfl rfl (.c rfl .n) ce24 (zbc (e:=e) (hin:=ass)) (.n)<|e_p (zc rfl)<|zg<|zd<|ze<|za<|e_mv rfl<|e_p (zqb rfl rfl)<|zg<|zd<|zH rfl (fun h10=> ?_) (fun h10=> ?_)
 ·
  refine ze<|za<|e_p (zJ zr32 rfl Tryz.underlying32 (.c sz30 (.c sz30 .n)) .n .n)<|e_mv rfl<|zi 0 rfl rfl rfl rfl rfl sz32 rfl (.t4 .nil) .z<|e_p (zc rfl)<|zg<|zd<|zD<|zl<|zjb (qF false wz wz 0) (fun g _=>qF_none g) ?_
  exact zDa Tryz.results14 (wz,wz) trivial (zp 0 ty32 rfl rfl (.t4 .nil)) (zo rfl) (by rw [Cam.mdc_no h10];rfl) (ho:=oN) ((.e (j:=0) rfl (by rw [Cam.mdc_no h10,if_neg h10,decide_eq_false h10]) .n):SelR _ _ _)
 ·
  have hok:Cam.ok e:=Cam.ck_ok (Decidable.not_not.1 h10)
  have hmd:=Cam.md_le e
  refine zA<|zd<|ze<|za<|e_ru (zb 1 ty27 rfl rfl (.t8 (.take .nil)))<|zn rfl rfl (.c rfl .n) ce33 (zac (e:=e) (hin:=ass) (hok:=by first|rfl|assumption|omega|decide)) (.n) ?_
  rintro ⟨wa13,wa24,wb15,wb26,wc17,wc28,wp19,wp210,wq111,wq212,wt113,wt214,pm15,cm16⟩ -
  dsimp only [aq,nq,cq]
  refine zE rfl rfl (zr zr62 rfl) (fun b17=> ?_)
  refine zi 0 rfl rfl rfl rfl rfl sz62 rfl (.t8 (.t8 (.t8 (.take .nil)))) .z<|zg<|zd<|ze<|zvc 0 rfl .z<|za<|e_p (zcd .n (.c rfl .n))<|zK rfl rfl (.c rfl (.c rfl .n)) ce44 (zwf (e:=e) (wa1:=wa13) (wa2:=wa24) (wb1:=wb15) (wb2:=wb26) (wc1:=wc17) (wc2:=wc28) (wp1:=wp19) (wp2:=wp210) (wq1:=wq111) (wq2:=wq212) (wt1:=wt113) (wt2:=wt214) (pm:=pm15) (cm:=cm16) (bm:=b17) (hin:=ass) (hok:=by first|rfl|assumption|omega|decide)) (.c (j:=0) rfl (.c (j:=1) rfl (.c (j:=2) rfl (.c (j:=3) rfl (.c (j:=4) rfl (.c (j:=5) rfl (.c (j:=6) rfl (.c (j:=7) rfl .n))))))))<|e_p (zc rfl)<|zg<|zd<|ze<|ze<|za<|e_mv rfl<|e_p (zqa rfl rfl)<|zg<|zd<|zH rfl (fun h18=> ?_) (fun h18=> ?_)
  ·
   refine ze<|za<|e_p (zJ zr32 rfl Tryz.underlying32 (.c sz30 (.c sz30 .n)) .n .n)<|zi 1 rfl rfl rfl rfl rfl sz32 rfl (.t4 .nil) (.s .z)<|e_p (zc rfl)<|zg<|zd<|zD<|zl<|zjb (qF false wz wz 0) (fun g _=>qF_none g) ?_
   exact zDa Tryz.results14 (wz,wz) trivial (zp 1 ty32 rfl rfl (.t4 .nil)) (zo rfl) (by rw [Cam.mdc_13 (Decidable.not_not.1 h10) om];rfl) (ho:=oN) ((.e (j:=0) rfl (by rw [Cam.mdc_13 (Decidable.not_not.1 h10) om];rfl) .n):SelR _ _ _)
  ·
   refine zA<|zd<|ze<|za<|e_mv rfl<|zn rfl rfl (.c rfl (.c rfl .n)) ce47 (zsb (z1:=(((Cam.md e):Nat):Int)) (z2:=256) (hz1:=by first|rfl|assumption|omega|decide) (hz2:=by first|rfl|assumption|omega|decide) (hy:=by first|rfl|assumption|omega|decide)) (.n) ?_
   rintro ⟨w318,w419⟩ -
   dsimp only [aq,nq,cq]
   refine zi 1 rfl rfl rfl rfl rfl sz32 rfl (.t4 .nil) (.s .z)<|e_p (zc rfl)<|zg<|zd<|zD ?_
   exact zDa Tryz.results14 (w318,w419) trivial (zp 1 ty32 rfl rfl (.t4 .nil)) (zo rfl) (by rw [Cam.mdc_0 (Decidable.not_not.1 h10) om]) (ho:=oN) ((.e (j:=0) rfl (by rw [Cam.mdc_0 (Decidable.not_not.1 h10) om];rfl) .n):SelR _ _ _)
end Go.Proofs.YtahiajepeodhoaaGreat.Sp
namespace Go.Proofs.YtahiajepeodhoaaGreat.Sp
open Go
set_option linter.unusedVariables false
set_option maxRecDepth 100000
set_option maxHeartbeats 8000000
theorem zme {e:Cam.Ln} {wa1:Wd} {wa2:Wd} {wb1:Wd} {wb2:Wd} {wc1:Wd} {wc2:Wd} {wp1:Wd} {wp2:Wd} {wq1:Wd} {wq2:Wd} {wt1:Wd} {wt2:Wd} {pm:Option Addr} {cm:Nat} {u1:Wd} {u2:Wd} {v1:Wd} {v2:Wd} {qx:Rat} {qy:Rat} (hin:Cam.In e) (hok:Cam.ok e) (hx:yf qx≤100) (hy:yf qy≤100):Con yd 35 [.agg #[wa1.b,wa1.l,wa2.b,wa2.l,wb1.b,wb1.l,wb2.b,wb2.l,wc1.b,wc1.l,wc2.b,wc2.l,wp1.b,wp1.l,wp2.b,wp2.l,wq1.b,wq1.l,wq2.b,wq2.l,wt1.b,wt1.l,wt2.b,wt2.l,.slice pm ((Cam.rl e).length) cm],.agg #[u1.b,u1.l,u2.b,u2.l,v1.b,v1.l,v2.b,v2.l]] [] [qF true wa1 wa2 (Rat.divInt e.r0 0x100000),qF true wb1 wb2 (Rat.divInt e.r1 0x100000),qF true wc1 wc2 (Rat.divInt e.r2 0x100000),qF true wp1 wp2 (Cam.tP1 e),qF true wq1 wq2 (Cam.tP2 e),qF true wt1 wt2 (Cam.lim e),slF rQ pm cm (Cam.rl e),qF true u1 u2 qx,qF true v1 v2 qy] (Y:=Wd×Wd×Wd×Wd) (fun y=>True) (fun y=> .agg #[y.1.b,y.1.l,y.2.1.b,y.2.1.l,y.2.2.1.b,y.2.2.1.l,y.2.2.2.b,y.2.2.2.l]) (fun y=>[]) (fun y=>[qF true y.1 y.2.1 (Cam.dX e qx qy),qF true y.2.2.1 y.2.2.2 (Cam.dY e qx qy)]):=by
 refine zk Tryz.func35 rfl rfl rfl (fun c=> ?_)
 show RunC _ _ _ _ _ [(0,.agg #[wa1.b,wa1.l,wa2.b,wa2.l,wb1.b,wb1.l,wb2.b,wb2.l,wc1.b,wc1.l,wc2.b,wc2.l,wp1.b,wp1.l,wp2.b,wp2.l,wq1.b,wq1.l,wq2.b,wq2.l,wt1.b,wt1.l,wt2.b,wt2.l,.slice pm ((Cam.rl e).length) cm]),(1,.agg #[u1.b,u1.l,u2.b,u2.l,v1.b,v1.l,v2.b,v2.l])] [] [qF true wa1 wa2 (Rat.divInt e.r0 0x100000),qF true wb1 wb2 (Rat.divInt e.r1 0x100000),qF true wc1 wc2 (Rat.divInt e.r2 0x100000),qF true wp1 wp2 (Cam.tP1 e),qF true wq1 wq2 (Cam.tP2 e),qF true wt1 wt2 (Cam.lim e),slF rQ pm cm (Cam.rl e),qF true u1 u2 qx,qF true v1 v2 qy]
 refine zU 6 rfl (fun hL6=> ?_)
 have hsq:=Cam.sq_hq hx hy
 have hrq:=Cam.ev_hq hsq (Cam.rl e) (Cam.rl_hq hin)
 have hrl:=Cam.rl_len e
 have hrk:(Cam.rl e).length*(4*100+1+4)≤4*(4*100+1+4):=Nat.mul_le_mul_right _ hrl
 have ht1:=Cam.tq1 hin
 have ht2:=Cam.tq2 hin
 have h2q:yf ((2:Int):Rat)≤3:=by decide
 have hp3:=Cam.m3_hq h2q hx hy
 have hpx:=Cam.m3_hq h2q hx hx
 have hpy:=Cam.m3_hq h2q hy hy
 have hqx:=Cam.s2_hq hsq hpx
 have hqy:=Cam.s2_hq hsq hpy
 have hrX:=Cam.m2_hq hx hrq
 have hrY:=Cam.m2_hq hy hrq
 have hu1:=Cam.m2_hq ht1 hp3
 have hu2:=Cam.m2_hq ht2 hp3
 have hu3:=Cam.m2_hq ht1 hqy
 have hu4:=Cam.m2_hq ht2 hqx
 have hl26:Cam.hqA 1000000000 [((2:Int):Rat),qx,qy]:=by exact Cam.hqA_cons om (Cam.hqA_cons om (Cam.hqA_cons om (Cam.hqA_nil dd)))
 have hl30:Cam.hqA 1000000000 [qx,Po.ev (Cam.sq qx qy) (Cam.rl e)]:=by exact Cam.hqA_cons om (Cam.hqA_cons om (Cam.hqA_nil dd))
 have hl35:Cam.hqA 1000000000 [Cam.tP1 e,Cam.mulL [((2:Int):Rat),qx,qy]]:=by exact Cam.hqA_cons om (Cam.hqA_cons om (Cam.hqA_nil dd))
 have hl43:Cam.hqA 1000000000 [((2:Int):Rat),qx,qx]:=by exact Cam.hqA_cons om (Cam.hqA_cons om (Cam.hqA_cons om (Cam.hqA_nil dd)))
 have hl45:Cam.hqA 1000000000 [Cam.sq qx qy,Cam.mulL [((2:Int):Rat),qx,qx]]:=by exact Cam.hqA_cons om (Cam.hqA_cons om (Cam.hqA_nil dd))
 have hl47:Cam.hqA 1000000000 [Cam.tP2 e,Cam.sumL [Cam.sq qx qy,Cam.mulL [((2:Int):Rat),qx,qx]]]:=by exact Cam.hqA_cons om (Cam.hqA_cons om (Cam.hqA_nil dd))
 have hl49:Cam.hqA 1000000000 [Cam.mulL [qx,Po.ev (Cam.sq qx qy) (Cam.rl e)],Cam.mulL [Cam.tP1 e,Cam.mulL [((2:Int):Rat),qx,qy]],Cam.mulL [Cam.tP2 e,Cam.sumL [Cam.sq qx qy,Cam.mulL [((2:Int):Rat),qx,qx]]]]:=by exact Cam.hqA_cons om (Cam.hqA_cons om (Cam.hqA_cons om (Cam.hqA_nil dd)))
 have hl53:Cam.hqA 1000000000 [qy,Po.ev (Cam.sq qx qy) (Cam.rl e)]:=by exact Cam.hqA_cons om (Cam.hqA_cons om (Cam.hqA_nil dd))
 have hl61:Cam.hqA 1000000000 [((2:Int):Rat),qy,qy]:=by exact Cam.hqA_cons om (Cam.hqA_cons om (Cam.hqA_cons om (Cam.hqA_nil dd)))
 have hl63:Cam.hqA 1000000000 [Cam.sq qx qy,Cam.mulL [((2:Int):Rat),qy,qy]]:=by exact Cam.hqA_cons om (Cam.hqA_cons om (Cam.hqA_nil dd))
 have hl65:Cam.hqA 1000000000 [Cam.tP1 e,Cam.sumL [Cam.sq qx qy,Cam.mulL [((2:Int):Rat),qy,qy]]]:=by exact Cam.hqA_cons om (Cam.hqA_cons om (Cam.hqA_nil dd))
 have hl70:Cam.hqA 1000000000 [Cam.tP2 e,Cam.mulL [((2:Int):Rat),qx,qy]]:=by exact Cam.hqA_cons om (Cam.hqA_cons om (Cam.hqA_nil dd))
 have hl72:Cam.hqA 1000000000 [Cam.mulL [qy,Po.ev (Cam.sq qx qy) (Cam.rl e)],Cam.mulL [Cam.tP1 e,Cam.sumL [Cam.sq qx qy,Cam.mulL [((2:Int):Rat),qy,qy]]],Cam.mulL [Cam.tP2 e,Cam.mulL [((2:Int):Rat),qx,qy]]]:=by exact Cam.hqA_cons om (Cam.hqA_cons om (Cam.hqA_cons om (Cam.hqA_nil dd)))
 refine ze<|za<|zE rfl rfl (zM rfl rfl) (fun b1=> ?_)
 refine zE rfl rfl (zM rfl rfl) (fun b2=> ?_)
 refine zE rfl rfl (zr zr34 rfl) (fun b3=> ?_)
 refine zg<|zd<|ze<|zV (OW:=[]) (O:=[boxA b3 34 (cw [wz,wz,wz,wz]),boxA b2 34 (cw [u1,u2,v1,v2]),boxA b1 62 [wa1.b,wa1.l,wa2.b,wa2.l,wb1.b,wb1.l,wb2.b,wb2.l,wc1.b,wc1.l,wc2.b,wc2.l,wp1.b,wp1.l,wp2.b,wp2.l,wq1.b,wq1.l,wq2.b,wq2.l,wt1.b,wt1.l,wt2.b,wt2.l,.slice pm ((Cam.rl e).length) cm]]) 11 mixed (.then .ret) kr<|e_pv 0 rfl rfl (zf yi rfl sz32 rfl rfl)<|e_u 1 rfl rfl (zb 1 ty32 rfl rfl (.t4 .nil))<|e_pv 2 rfl rfl (zf yi rfl sz32 rfl rfl)<|e_u 3 rfl rfl (zb 1 ty32 rfl rfl (.s4 (.t4 .nil)))<|e_u 4 rfl rfl (zb 1 ty34 rfl rfl (.t8 .nil))<|zW (m':=[(15,.agg (cw [u1,u2,v1,v2]).toArray),(14,.agg (cw [v1,v2]).toArray),(12,.agg (cw [u1,u2]).toArray),(4,.pointer (some ⟨b3,0,none⟩)),(2,.pointer (some ⟨b1,0,none⟩))]) (R':=[qF true wa1 wa2 (Rat.divInt e.r0 0x100000),qF true wb1 wb2 (Rat.divInt e.r1 0x100000),qF true wc1 wc2 (Rat.divInt e.r2 0x100000),qF true wp1 wp2 (Cam.tP1 e),qF true wq1 wq2 (Cam.tP2 e),qF true wt1 wt2 (Cam.lim e),slF rQ pm cm (Cam.rl e),qF true u1 u2 qx,qF true v1 v2 qy]) (mR rfl) (List.Perm.refl _) (List.Perm.refl _) ((.of [0,1,2,3,4,5,6,7,8] rfl):SelR _ _ _)<|a_start<|a_step 5 rfl (X:=Wd×Wd) (fun x=> .agg #[x.1.b,x.1.l,x.2.b,x.2.l]) (fun x=>[]) (fun x=>[qF true x.1 x.2 (Cam.sq qx qy)]) [] kr rfl kr kr kr (fun _=> ?_) ?_
 ·
  refine zW (m':=[(15,.agg (cw [u1,u2,v1,v2]).toArray)]) (R':=[qF true u1 u2 qx,qF true v1 v2 qy]) ((.c rfl .n):SubM _ _) (List.Perm.refl _) (List.Perm.refl _) ((.of [7,8] rfl):SelR _ _ _)<|e_one 0 (zm rfl rfl rfl rfl (.c rfl .n) ce69 (zpc (u1:=u1) (u2:=u2) (v1:=v1) (v2:=v2) (qx:=qx) (qy:=qy) (hx:=ass) (hy:=ass)) (.c (j:=0) rfl (.c (j:=1) rfl .n)) ?_)
  rintro ⟨u5_1,u5_2⟩ -
  dsimp only [aq,nq,cq]
  refine zI kr ?_
  exact zS (u5_1,u5_2) trivial ((.c rfl .n):SubM _ _) (ho:=oN) (s0 rfl)
 refine a_step 6 rfl (X:=Wd×Wd) (fun x=> .agg #[x.1.b,x.1.l,x.2.b,x.2.l]) (fun x=>[]) (fun x=>[qF true x.1 x.2 ((2:Int):Rat)]) [] kr rfl kr kr kr (fun _=> ?_) ?_
 ·
  refine zW (m':=[]) (R':=[]) (.n:SubM _ _) (List.Perm.refl _) (List.Perm.refl _) sN<|e_one 0 (zm rfl rfl rfl rfl (.c rfl .n) ce58 (zoa (z:=2) (hz:=by first|rfl|assumption|omega|decide|(simp;done))) (.n) ?_)
  rintro ⟨u6_1,u6_2⟩ -
  dsimp only [aq,nq,cq]
  refine zI kr ?_
  exact zS (u6_1,u6_2) trivial ((.c rfl .n):SubM _ _) (ho:=oN) (s0 rfl)
 refine a_step 7 rfl (X:=Nat) (fun x=> .pointer (some ⟨x,0,none⟩)) (fun x=>[boxA x 32 [.bool false,.slice none 0 0,.bool false,.slice none 0 0]]) (fun x=>[]) [] kr rfl kr kr kr (fun _=> ?_) ?_
 ·
  refine zW (m':=[]) (R':=[]) (.n:SubM _ _) (List.Perm.refl _) (List.Perm.refl _) sN<|e_one 0 (zJa rfl rfl rfl rfl (zr zr32 rfl) (fun u7_1 _=> ?_))
  refine zI kr ?_
  exact zS u7_1 trivial ((.c rfl .n):SubM _ _) (ho:=(o0 rfl)) sN
 refine a_step 8 rfl (X:=Nat) (fun x=> .pointer (some ⟨x,0,none⟩)) (fun x=>[boxA x 32 [.bool false,.slice none 0 0,.bool false,.slice none 0 0]]) (fun x=>[]) [] kr rfl kr kr kr (fun _=> ?_) ?_
 ·
  refine zW (m':=[]) (R':=[]) (.n:SubM _ _) (List.Perm.refl _) (List.Perm.refl _) sN<|e_one 0 (zJa rfl rfl rfl rfl (zr zr32 rfl) (fun u8_1 _=> ?_))
  refine zI kr ?_
  exact zS u8_1 trivial ((.c rfl .n):SubM _ _) (ho:=(o0 rfl)) sN
 refine a_step 9 rfl (X:=Nat) (fun x=> .pointer (some ⟨x,0,none⟩)) (fun x=>[boxA x 32 [.bool false,.slice none 0 0,.bool false,.slice none 0 0]]) (fun x=>[]) [] kr rfl kr kr kr (fun _=> ?_) ?_
 ·
  refine zW (m':=[]) (R':=[]) (.n:SubM _ _) (List.Perm.refl _) (List.Perm.refl _) sN<|e_one 0 (zJa rfl rfl rfl rfl (zr zr32 rfl) (fun u9_1 _=> ?_))
  refine zI kr ?_
  exact zS u9_1 trivial ((.c rfl .n):SubM _ _) (ho:=(o0 rfl)) sN
 refine a_step 10 rfl (X:=Nat) (fun x=> .pointer (some ⟨x,0,none⟩)) (fun x=>[boxA x 32 [.bool false,.slice none 0 0,.bool false,.slice none 0 0]]) (fun x=>[]) [] kr rfl kr kr kr (fun _=> ?_) ?_
 ·
  refine zW (m':=[]) (R':=[]) (.n:SubM _ _) (List.Perm.refl _) (List.Perm.refl _) sN<|e_one 0 (zJa rfl rfl rfl rfl (zr zr32 rfl) (fun u10_1 _=> ?_))
  refine zI kr ?_
  exact zS u10_1 trivial ((.c rfl .n):SubM _ _) (ho:=(o0 rfl)) sN
 refine a_fin (k':=4) (L':=(lb 15 2047)) kr kr kr kr kr kr kr ?_
 rintro g10_0 g9_0 g8_0 g7_0 ⟨g6_0,g6_1⟩ ⟨g5_0,g5_1⟩
 refine zW (m':=[(8,.pointer (some ⟨g10_0,0,none⟩)),(7,.pointer (some ⟨g9_0,0,none⟩)),(6,.pointer (some ⟨g8_0,0,none⟩)),(5,.pointer (some ⟨g7_0,0,none⟩)),(17,.agg (cw [g6_0,g6_1]).toArray),(16,.agg (cw [g5_0,g5_1]).toArray),(15,.agg (cw [u1,u2,v1,v2]).toArray),(14,.agg (cw [v1,v2]).toArray),(12,.agg (cw [u1,u2]).toArray),(4,.pointer (some ⟨b3,0,none⟩)),(2,.pointer (some ⟨b1,0,none⟩))]) (OW':=[boxA g10_0 32 (cw [wz,wz]),boxA g9_0 32 (cw [wz,wz]),boxA g8_0 32 (cw [wz,wz]),boxA g7_0 32 (cw [wz,wz])]) (R':=[qF true g6_0 g6_1 ((2:Int):Rat),qF true g5_0 g5_1 (Cam.sq qx qy),qF true wa1 wa2 (Rat.divInt e.r0 0x100000),qF true wb1 wb2 (Rat.divInt e.r1 0x100000),qF true wc1 wc2 (Rat.divInt e.r2 0x100000),qF true wp1 wp2 (Cam.tP1 e),qF true wq1 wq2 (Cam.tP2 e),qF true wt1 wt2 (Cam.lim e),slF rQ pm cm (Cam.rl e),qF true u1 u2 qx,qF true v1 v2 qy]) (mR rfl) (List.Perm.refl _) (List.Perm.refl _) ((.of [0,1,2,3,4,5,6,7,8,9,10] rfl):SelR _ _ _)<|zCa (zga (i:=3) rfl)<|e_one 11 (zw kr rfl rfl rfl rfl rfl sz32 rfl (.t4 .nil) ?_)
 refine zCa (zga (i:=3) rfl)<|e_one 12 (zw kr rfl rfl rfl rfl rfl sz32 rfl (.t4 .nil) ?_)
 refine zCa (zga (i:=3) rfl)<|e_one 13 (zw kr rfl rfl rfl rfl rfl sz32 rfl (.t4 .nil) ?_)
 refine zCa (zga (i:=3) rfl)<|e_one 14 (zw kr rfl rfl rfl rfl rfl sz32 rfl (.t4 .nil) ?_)
 refine zI kr<|zd<|ze<|zBb (eF g5_0 g5_1 (some (Cam.sq qx qy))) (fun g h=>qF_e (Holds.get 1 rfl h))<|za<|e_p (zf yc rfl sz60 rfl rfl)<|e_ru (zh 6 ty60 rfl rfl rfl)<|e_ru (zb 1 ty32 rfl rfl (.t4 .nil))<|zra (addQE 9 rfl)<|zn rfl rfl (.c rfl (.c rfl .n)) ce70 (zrd (p1:=pm) (n1:=(Cam.rl e).length) (c1:=cm) (l1:=((Cam.rl e).map some)) (u1:=g5_0) (v1:=g5_1) (x1:=(some (Cam.sq qx qy))) (hn1:=by exact List.length_map _) (hm1:=om) (hx:=by show yf (Cam.sq qx qy)≤_;omega) (hb1:=by intro i;have h9:=Cam.rl_hq hin i;rw [Po.msome];omega) (hs:=by intro i;rw [Po.vals_some];exact Nat.le_trans (Cam.rl_drop hin hsq i) dd)) (.c (j:=0) rfl (.c (j:=1) rfl .n)) ?_
 rintro ⟨w34,w45⟩ -
 dsimp only [aq,nq,cq]
 refine zE rfl rfl (zr zr32 rfl) (fun b6=> ?_)
 refine zi 0 rfl rfl rfl rfl rfl sz32 rfl (.t4 .nil) .z<|zg<|zd<|ze ?_
 have e7:(Po.ev ((some (Cam.sq qx qy)).getD 0) (Po.vals ((Cam.rl e).map some)):Rat)=Po.ev (Cam.sq qx qy) (Cam.rl e):=by rw [Po.vals_some];rfl
 rw [e7]
 refine za<|e_ru (zb 1 ty32 rfl rfl (.t4 .nil))<|e_ru (zb 4 ty32 rfl rfl (.t4 .nil))<|e_ru (zb 3 ty32 rfl rfl (.t4 .nil))<|zva rfl rfl (zt (r:=rQ) (k:=3) ya inf32 rfl dd dd dd (.c (x:=((2:Int):Rat)) (cs:=[g6_0.b,g6_0.l,g6_1.b,g6_1.l]) (g6_0,g6_1) rfl rfl rfl (fun g hr=>Holds.get 3 rfl hr) (.c (x:=qx) (cs:=[u1.b,u1.l,u2.b,u2.l]) (u1,u2) rfl rfl rfl (fun g hr=>Holds.get 12 rfl hr) (.c (x:=qy) (cs:=[v1.b,v1.l,v2.b,v2.l]) (v1,v2) rfl rfl rfl (fun g hr=>Holds.get 13 rfl hr) .n)))) (fun b8 _=> ?_)
 refine zba 0 rfl .z<|zn rfl rfl (.c rfl .n) ce56 (zza (p:=some ⟨b8,0,none⟩) (n:=3) (cap:=3) (l:=[((2:Int):Rat),qx,qy]) (hn:=by exact rfl) (hn9:=dd) (hl:=by exact hl26) (hn1:=dd)) (.c (j:=0) rfl .n) ?_
 rintro ⟨w39,w410⟩ -
 dsimp only [aq,nq,cq]
 refine zE rfl rfl (zr zr32 rfl) (fun b11=> ?_)
 refine zi 0 rfl rfl rfl rfl rfl sz32 rfl (.t4 .nil) .z<|zg<|zd<|ze<|zpa (.c (i:=7) rfl (.c (i:=0) rfl (.c (i:=1) rfl (.c (i:=1) rfl (.c (i:=1) rfl (.c (i:=1) rfl (.c (i:=1) rfl (.c (i:=2) rfl .n))))))))<|zV (OW:=[boxA b3 34 (cw [wz,wz,wz,wz])]) (O:=[boxA b11 32 (cw [w39,w410]),boxA b6 32 (cw [w34,w45]),boxA g10_0 32 (cw [g6_0,g6_1]),boxA g9_0 32 (cw [g5_0,g5_1]),boxA g8_0 32 (cw [v1,v2]),boxA g7_0 32 (cw [u1,u2]),boxA b1 62 [wa1.b,wa1.l,wa2.b,wa2.l,wb1.b,wb1.l,wb2.b,wb2.l,wc1.b,wc1.l,wc2.b,wc2.l,wp1.b,wp1.l,wp2.b,wp2.l,wq1.b,wq1.l,wq2.b,wq2.l,wt1.b,wt1.l,wt2.b,wt2.l,.slice pm ((Cam.rl e).length) cm]]) 47 mixed (.then .ret) kr<|e_uw 0 rfl rfl (zb 6 ty32 rfl rfl (.t4 .nil))<|e_uw 1 rfl rfl (zb 2 ty32 rfl rfl (.t4 .nil))<|e_pv 4 rfl rfl (zf yc rfl sz32 rfl rfl)<|e_uw 5 rfl rfl (zb 7 ty32 rfl rfl (.s8 (.s4 (.t4 .nil))))<|e_uw 6 rfl rfl (zb 1 ty32 rfl rfl (.t4 .nil))<|e_pv 9 rfl rfl (zf yc rfl sz32 rfl rfl)<|e_uw 10 rfl rfl (zb 7 ty32 rfl rfl (.s8 (.s8 (.t4 .nil))))<|e_uw 11 rfl rfl (zb 4 ty32 rfl rfl (.t4 .nil))<|e_uw 12 rfl rfl (zb 3 ty32 rfl rfl (.t4 .nil))<|e_uw 13 rfl rfl (zb 6 ty32 rfl rfl (.t4 .nil))<|e_uw 14 rfl rfl (zb 6 ty32 rfl rfl (.t4 .nil))<|e_uw 23 rfl rfl (zb 5 ty32 rfl rfl (.t4 .nil))<|e_uw 24 rfl rfl (zb 2 ty32 rfl rfl (.t4 .nil))<|e_pv 27 rfl rfl (zf yc rfl sz32 rfl rfl)<|e_uw 28 rfl rfl (zb 7 ty32 rfl rfl (.s8 (.s4 (.t4 .nil))))<|e_uw 29 rfl rfl (zb 4 ty32 rfl rfl (.t4 .nil))<|e_uw 30 rfl rfl (zb 3 ty32 rfl rfl (.t4 .nil))<|e_uw 31 rfl rfl (zb 5 ty32 rfl rfl (.t4 .nil))<|e_uw 32 rfl rfl (zb 5 ty32 rfl rfl (.t4 .nil))<|e_pv 39 rfl rfl (zf yc rfl sz32 rfl rfl)<|e_uw 40 rfl rfl (zb 7 ty32 rfl rfl (.s8 (.s8 (.t4 .nil))))<|e_uw 41 rfl rfl (zb 1 ty32 rfl rfl (.t4 .nil))<|zW (m':=[(68,.agg (cw [w39,w410]).toArray),(67,.agg (cw [wq1,wq2]).toArray),(59,.agg (cw [v1,v2]).toArray),(58,.agg (cw [v1,v2]).toArray),(57,.agg (cw [g6_0,g6_1]).toArray),(56,.agg (cw [g5_0,g5_1]).toArray),(55,.agg (cw [wp1,wp2]).toArray),(51,.agg (cw [w34,w45]).toArray),(50,.agg (cw [v1,v2]).toArray),(41,.agg (cw [u1,u2]).toArray),(40,.agg (cw [u1,u2]).toArray),(39,.agg (cw [g6_0,g6_1]).toArray),(38,.agg (cw [g5_0,g5_1]).toArray),(37,.agg (cw [wq1,wq2]).toArray),(33,.agg (cw [w39,w410]).toArray),(32,.agg (cw [wp1,wp2]).toArray),(28,.agg (cw [w34,w45]).toArray),(27,.agg (cw [u1,u2]).toArray),(4,.pointer (some ⟨b3,0,none⟩))]) (R':=[qF true w39 w410 (Cam.mulL ([((2:Int):Rat),qx,qy])),qF true w34 w45 (Po.ev (Cam.sq qx qy) (Cam.rl e)),slF rE pm cm ((Cam.rl e).map some),eF g5_0 g5_1 (some (Cam.sq qx qy)),qF true g6_0 g6_1 ((2:Int):Rat),qF true g5_0 g5_1 (Cam.sq qx qy),qF true wa1 wa2 (Rat.divInt e.r0 0x100000),qF true wb1 wb2 (Rat.divInt e.r1 0x100000),qF true wc1 wc2 (Rat.divInt e.r2 0x100000),qF true wp1 wp2 (Cam.tP1 e),qF true wq1 wq2 (Cam.tP2 e),qF true wt1 wt2 (Cam.lim e),slF rQ pm cm (Cam.rl e),qF true u1 u2 qx,qF true v1 v2 qy]) (mR rfl) (List.Perm.refl _) (List.Perm.refl _) ((.of [0,2,3,4,5,6,7,8,9,10,11,12,13,14,15] rfl):SelR _ _ _) ?_
 refine a_start<|a_step 2 rfl (X:=Nat) (fun x=> .slice (some ⟨x,0,none⟩) 2 2) (fun x=>[]) (fun x=>[slF rQ (some ⟨x,0,none⟩) 2 ([qx,(Po.ev (Cam.sq qx qy) (Cam.rl e))])]) [] kr rfl kr kr kr (fun _=> ?_) ?_
 ·
  refine zW (m':=[(28,.agg (cw [w34,w45]).toArray),(27,.agg (cw [u1,u2]).toArray)]) (R':=[qF true w34 w45 (Po.ev (Cam.sq qx qy) (Cam.rl e)),qF true u1 u2 qx]) ((.c rfl (.c rfl .n)):SubM _ _) (List.Perm.refl _) (List.Perm.refl _) ((.of [1,13] rfl):SelR _ _ _)<|e_one 0 (zJa rfl rfl rfl rfl (zt (r:=rQ) (k:=2) ya inf32 rfl dd dd dd (.c (x:=qx) (cs:=[u1.b,u1.l,u2.b,u2.l]) (u1,u2) rfl rfl rfl (fun g hr=>Holds.get 1 rfl hr) (.c (x:=(Po.ev (Cam.sq qx qy) (Cam.rl e))) (cs:=[w34.b,w34.l,w45.b,w45.l]) (w34,w45) rfl rfl rfl (fun g hr=>Holds.get 0 rfl hr) .n))) (fun u2_1r2 _=> ?_))
  refine zja 0 rfl .z<|zI kr ?_
  exact zS u2_1r2 trivial ((.c rfl .n):SubM _ _) (ho:=oN) (s0 rfl)
 refine a_step 3 rfl (X:=Wd×Wd) (fun x=> .agg #[x.1.b,x.1.l,x.2.b,x.2.l]) (fun x=>[]) (fun x=>[qF true x.1 x.2 (Cam.mulL ([qx,(Po.ev (Cam.sq qx qy) (Cam.rl e))]))]) [0] kr rfl kr kr kr (fun _=> ?_) ?_
 ·
  rintro g2_0r2
  refine zW (m':=[(29,.slice (some ⟨g2_0r2,0,none⟩) 2 2)]) (R':=[slF rQ (some ⟨g2_0r2,0,none⟩) 2 ([qx,(Po.ev (Cam.sq qx qy) (Cam.rl e))])]) ((.c rfl .n):SubM _ _) (List.Perm.refl _) (List.Perm.refl _) (s0 rfl)<|e_one 0 (zm rfl rfl rfl rfl (.c rfl .n) ce56 (zza (p:=some ⟨g2_0r2,0,none⟩) (n:=2) (cap:=2) (l:=[qx,(Po.ev (Cam.sq qx qy) (Cam.rl e))]) (hn:=by exact rfl) (hn9:=dd) (hl:=by exact hl30) (hn1:=dd)) (.c (j:=0) rfl .n) ?_)
  rintro ⟨u3_1r2,u3_2r2⟩ -
  dsimp only [aq,nq,cq]
  refine zI kr ?_
  exact zS (u3_1r2,u3_2r2) trivial ((.c rfl .n):SubM _ _) (ho:=oN) (s0 rfl)
 refine a_step 7 rfl (X:=Nat) (fun x=> .slice (some ⟨x,0,none⟩) 2 2) (fun x=>[]) (fun x=>[slF rQ (some ⟨x,0,none⟩) 2 ([(Cam.tP1 e),(Cam.mulL ([((2:Int):Rat),qx,qy]))])]) [] kr rfl kr kr kr (fun _=> ?_) ?_
 ·
  refine zW (m':=[(33,.agg (cw [w39,w410]).toArray),(32,.agg (cw [wp1,wp2]).toArray)]) (R':=[qF true w39 w410 (Cam.mulL ([((2:Int):Rat),qx,qy])),qF true wp1 wp2 (Cam.tP1 e)]) ((.c rfl (.c rfl .n)):SubM _ _) (List.Perm.refl _) (List.Perm.refl _) ((.of [0,9] rfl):SelR _ _ _)<|e_one 0 (zJa rfl rfl rfl rfl (zt (r:=rQ) (k:=2) ya inf32 rfl dd dd dd (.c (x:=(Cam.tP1 e)) (cs:=[wp1.b,wp1.l,wp2.b,wp2.l]) (wp1,wp2) rfl rfl rfl (fun g hr=>Holds.get 1 rfl hr) (.c (x:=(Cam.mulL ([((2:Int):Rat),qx,qy]))) (cs:=[w39.b,w39.l,w410.b,w410.l]) (w39,w410) rfl rfl rfl (fun g hr=>Holds.get 0 rfl hr) .n))) (fun u7_1r2 _=> ?_))
  refine zja 0 rfl .z<|zI kr ?_
  exact zS u7_1r2 trivial ((.c rfl .n):SubM _ _) (ho:=oN) (s0 rfl)
 refine a_step 8 rfl (X:=Wd×Wd) (fun x=> .agg #[x.1.b,x.1.l,x.2.b,x.2.l]) (fun x=>[]) (fun x=>[qF true x.1 x.2 (Cam.mulL ([(Cam.tP1 e),(Cam.mulL ([((2:Int):Rat),qx,qy]))]))]) [0] kr rfl kr kr kr (fun _=> ?_) ?_
 ·
  rintro g7_0r2
  refine zW (m':=[(34,.slice (some ⟨g7_0r2,0,none⟩) 2 2)]) (R':=[slF rQ (some ⟨g7_0r2,0,none⟩) 2 ([(Cam.tP1 e),(Cam.mulL ([((2:Int):Rat),qx,qy]))])]) ((.c rfl .n):SubM _ _) (List.Perm.refl _) (List.Perm.refl _) (s0 rfl)<|e_one 0 (zm rfl rfl rfl rfl (.c rfl .n) ce56 (zza (p:=some ⟨g7_0r2,0,none⟩) (n:=2) (cap:=2) (l:=[(Cam.tP1 e),(Cam.mulL ([((2:Int):Rat),qx,qy]))]) (hn:=by exact rfl) (hn9:=dd) (hl:=by exact hl35) (hn1:=dd)) (.c (j:=0) rfl .n) ?_)
  rintro ⟨u8_1r2,u8_2r2⟩ -
  dsimp only [aq,nq,cq]
  refine zI kr ?_
  exact zS (u8_1r2,u8_2r2) trivial ((.c rfl .n):SubM _ _) (ho:=oN) (s0 rfl)
 refine a_step 15 rfl (X:=Nat) (fun x=> .slice (some ⟨x,0,none⟩) 3 3) (fun x=>[]) (fun x=>[slF rQ (some ⟨x,0,none⟩) 3 ([((2:Int):Rat),qx,qx])]) [] kr rfl kr kr kr (fun _=> ?_) ?_
 ·
  refine zW (m':=[(41,.agg (cw [u1,u2]).toArray),(40,.agg (cw [u1,u2]).toArray),(39,.agg (cw [g6_0,g6_1]).toArray)]) (R':=[qF true g6_0 g6_1 ((2:Int):Rat),qF true u1 u2 qx]) (mR rfl) (List.Perm.refl _) (List.Perm.refl _) ((.of [4,13] rfl):SelR _ _ _)<|e_one 0 (zJa rfl rfl rfl rfl (zt (r:=rQ) (k:=3) ya inf32 rfl dd dd dd (.c (x:=((2:Int):Rat)) (cs:=[g6_0.b,g6_0.l,g6_1.b,g6_1.l]) (g6_0,g6_1) rfl rfl rfl (fun g hr=>Holds.get 0 rfl hr) (.c (x:=qx) (cs:=[u1.b,u1.l,u2.b,u2.l]) (u1,u2) rfl rfl rfl (fun g hr=>Holds.get 1 rfl hr) (.c (x:=qx) (cs:=[u1.b,u1.l,u2.b,u2.l]) (u1,u2) rfl rfl rfl (fun g hr=>Holds.get 1 rfl hr) .n)))) (fun u15_1r2 _=> ?_))
  refine zja 0 rfl .z<|zI kr ?_
  exact zS u15_1r2 trivial ((.c rfl .n):SubM _ _) (ho:=oN) (s0 rfl)
 refine a_step 16 rfl (X:=Wd×Wd) (fun x=> .agg #[x.1.b,x.1.l,x.2.b,x.2.l]) (fun x=>[]) (fun x=>[qF true x.1 x.2 (Cam.mulL ([((2:Int):Rat),qx,qx]))]) [0] kr rfl kr kr kr (fun _=> ?_) ?_
 ·
  rintro g15_0r2
  refine zW (m':=[(42,.slice (some ⟨g15_0r2,0,none⟩) 3 3)]) (R':=[slF rQ (some ⟨g15_0r2,0,none⟩) 3 ([((2:Int):Rat),qx,qx])]) ((.c rfl .n):SubM _ _) (List.Perm.refl _) (List.Perm.refl _) (s0 rfl)<|e_one 0 (zm rfl rfl rfl rfl (.c rfl .n) ce56 (zza (p:=some ⟨g15_0r2,0,none⟩) (n:=3) (cap:=3) (l:=[((2:Int):Rat),qx,qx]) (hn:=by exact rfl) (hn9:=dd) (hl:=by exact hl43) (hn1:=dd)) (.c (j:=0) rfl .n) ?_)
  rintro ⟨u16_1r2,u16_2r2⟩ -
  dsimp only [aq,nq,cq]
  refine zI kr ?_
  exact zS (u16_1r2,u16_2r2) trivial ((.c rfl .n):SubM _ _) (ho:=oN) (s0 rfl)
 refine a_step 17 rfl (X:=Nat) (fun x=> .slice (some ⟨x,0,none⟩) 2 2) (fun x=>[]) (fun x=>[slF rQ (some ⟨x,0,none⟩) 2 ([(Cam.sq qx qy),(Cam.mulL ([((2:Int):Rat),qx,qx]))])]) [0] kr rfl kr kr kr (fun _=> ?_) ?_
 ·
  rintro ⟨g16_0r2,g16_1r2⟩
  refine zW (m':=[(43,.agg (cw [g16_0r2,g16_1r2]).toArray),(38,.agg (cw [g5_0,g5_1]).toArray)]) (R':=[qF true g16_0r2 g16_1r2 (Cam.mulL ([((2:Int):Rat),qx,qx])),eF g5_0 g5_1 (some (Cam.sq qx qy)),qF true g5_0 g5_1 (Cam.sq qx qy)]) ((.c rfl (.c rfl .n)):SubM _ _) (List.Perm.refl _) (List.Perm.refl _) ((.of [0,4,6] rfl):SelR _ _ _)<|e_one 0 (zJa rfl rfl rfl rfl (zt (r:=rQ) (k:=2) ya inf32 rfl dd dd dd (.c (x:=(Cam.sq qx qy)) (cs:=[g5_0.b,g5_0.l,g5_1.b,g5_1.l]) (g5_0,g5_1) rfl rfl rfl (fun g hr=>Holds.get 2 rfl hr) (.c (x:=(Cam.mulL ([((2:Int):Rat),qx,qx]))) (cs:=[g16_0r2.b,g16_0r2.l,g16_1r2.b,g16_1r2.l]) (g16_0r2,g16_1r2) rfl rfl rfl (fun g hr=>Holds.get 0 rfl hr) .n))) (fun u17_1r2 _=> ?_))
  refine zja 0 rfl .z<|zI kr ?_
  exact zS u17_1r2 trivial ((.c rfl .n):SubM _ _) (ho:=oN) (s0 rfl)
 refine a_step 18 rfl (X:=Wd×Wd) (fun x=> .agg #[x.1.b,x.1.l,x.2.b,x.2.l]) (fun x=>[]) (fun x=>[qF true x.1 x.2 (Cam.sumL ([(Cam.sq qx qy),(Cam.mulL ([((2:Int):Rat),qx,qx]))]))]) [0] kr rfl kr kr kr (fun _=> ?_) ?_
 ·
  rintro g17_0r2
  refine zW (m':=[(44,.slice (some ⟨g17_0r2,0,none⟩) 2 2)]) (R':=[slF rQ (some ⟨g17_0r2,0,none⟩) 2 ([(Cam.sq qx qy),(Cam.mulL ([((2:Int):Rat),qx,qx]))])]) ((.c rfl .n):SubM _ _) (List.Perm.refl _) (List.Perm.refl _) (s0 rfl)<|e_one 0 (zm rfl rfl rfl rfl (.c rfl .n) ce59 (zob (p:=some ⟨g17_0r2,0,none⟩) (n:=2) (cap:=2) (l:=[(Cam.sq qx qy),(Cam.mulL ([((2:Int):Rat),qx,qx]))]) (hn:=by exact rfl) (hn9:=dd) (hl:=by exact hl45)) (.c (j:=0) rfl .n) ?_)
  rintro ⟨u18_1r2,u18_2r2⟩ -
  dsimp only [aq,nq,cq]
  refine zI kr ?_
  exact zS (u18_1r2,u18_2r2) trivial ((.c rfl .n):SubM _ _) (ho:=oN) (s0 rfl)
 refine a_step 19 rfl (X:=Nat) (fun x=> .slice (some ⟨x,0,none⟩) 2 2) (fun x=>[]) (fun x=>[slF rQ (some ⟨x,0,none⟩) 2 ([(Cam.tP2 e),(Cam.sumL ([(Cam.sq qx qy),(Cam.mulL ([((2:Int):Rat),qx,qx]))]))])]) [0] kr rfl kr kr kr (fun _=> ?_) ?_
 ·
  rintro ⟨g18_0r2,g18_1r2⟩
  refine zW (m':=[(45,.agg (cw [g18_0r2,g18_1r2]).toArray),(37,.agg (cw [wq1,wq2]).toArray)]) (R':=[qF true g18_0r2 g18_1r2 (Cam.sumL ([(Cam.sq qx qy),(Cam.mulL ([((2:Int):Rat),qx,qx]))])),qF true wq1 wq2 (Cam.tP2 e)]) ((.c rfl (.c rfl .n)):SubM _ _) (List.Perm.refl _) (List.Perm.refl _) ((.of [0,11] rfl):SelR _ _ _)<|e_one 0 (zJa rfl rfl rfl rfl (zt (r:=rQ) (k:=2) ya inf32 rfl dd dd dd (.c (x:=(Cam.tP2 e)) (cs:=[wq1.b,wq1.l,wq2.b,wq2.l]) (wq1,wq2) rfl rfl rfl (fun g hr=>Holds.get 1 rfl hr) (.c (x:=(Cam.sumL ([(Cam.sq qx qy),(Cam.mulL ([((2:Int):Rat),qx,qx]))]))) (cs:=[g18_0r2.b,g18_0r2.l,g18_1r2.b,g18_1r2.l]) (g18_0r2,g18_1r2) rfl rfl rfl (fun g hr=>Holds.get 0 rfl hr) .n))) (fun u19_1r2 _=> ?_))
  refine zja 0 rfl .z<|zI kr ?_
  exact zS u19_1r2 trivial ((.c rfl .n):SubM _ _) (ho:=oN) (s0 rfl)
 refine a_step 20 rfl (X:=Wd×Wd) (fun x=> .agg #[x.1.b,x.1.l,x.2.b,x.2.l]) (fun x=>[]) (fun x=>[qF true x.1 x.2 (Cam.mulL ([(Cam.tP2 e),(Cam.sumL ([(Cam.sq qx qy),(Cam.mulL ([((2:Int):Rat),qx,qx]))]))]))]) [0] kr rfl kr kr kr (fun _=> ?_) ?_
 ·
  rintro g19_0r2
  refine zW (m':=[(46,.slice (some ⟨g19_0r2,0,none⟩) 2 2)]) (R':=[slF rQ (some ⟨g19_0r2,0,none⟩) 2 ([(Cam.tP2 e),(Cam.sumL ([(Cam.sq qx qy),(Cam.mulL ([((2:Int):Rat),qx,qx]))]))])]) ((.c rfl .n):SubM _ _) (List.Perm.refl _) (List.Perm.refl _) (s0 rfl)<|e_one 0 (zm rfl rfl rfl rfl (.c rfl .n) ce56 (zza (p:=some ⟨g19_0r2,0,none⟩) (n:=2) (cap:=2) (l:=[(Cam.tP2 e),(Cam.sumL ([(Cam.sq qx qy),(Cam.mulL ([((2:Int):Rat),qx,qx]))]))]) (hn:=by exact rfl) (hn9:=dd) (hl:=by exact hl47) (hn1:=dd)) (.c (j:=0) rfl .n) ?_)
  rintro ⟨u20_1r2,u20_2r2⟩ -
  dsimp only [aq,nq,cq]
  refine zI kr ?_
  exact zS (u20_1r2,u20_2r2) trivial ((.c rfl .n):SubM _ _) (ho:=oN) (s0 rfl)
 refine a_step 21 rfl (X:=Nat) (fun x=> .slice (some ⟨x,0,none⟩) 3 3) (fun x=>[]) (fun x=>[slF rQ (some ⟨x,0,none⟩) 3 ([(Cam.mulL ([qx,(Po.ev (Cam.sq qx qy) (Cam.rl e))])),(Cam.mulL ([(Cam.tP1 e),(Cam.mulL ([((2:Int):Rat),qx,qy]))])),(Cam.mulL ([(Cam.tP2 e),(Cam.sumL ([(Cam.sq qx qy),(Cam.mulL ([((2:Int):Rat),qx,qx]))]))]))])]) [0,6,8] kr rfl kr kr kr (fun _=> ?_) ?_
 ·
  rintro ⟨g20_0r2,g20_1r2⟩
  rintro ⟨g8_0r2,g8_1r2⟩
  rintro ⟨g3_0r2,g3_1r2⟩
  refine zW (m':=[(47,.agg (cw [g20_0r2,g20_1r2]).toArray),(35,.agg (cw [g8_0r2,g8_1r2]).toArray),(30,.agg (cw [g3_0r2,g3_1r2]).toArray)]) (R':=[qF true g20_0r2 g20_1r2 (Cam.mulL ([(Cam.tP2 e),(Cam.sumL ([(Cam.sq qx qy),(Cam.mulL ([((2:Int):Rat),qx,qx]))]))])),qF true g8_0r2 g8_1r2 (Cam.mulL ([(Cam.tP1 e),(Cam.mulL ([((2:Int):Rat),qx,qy]))])),qF true g3_0r2 g3_1r2 (Cam.mulL ([qx,(Po.ev (Cam.sq qx qy) (Cam.rl e))]))]) (mR rfl) (List.Perm.refl _) (List.Perm.refl _) ((.of [0,1,2] rfl):SelR _ _ _)<|e_one 0 (zJa rfl rfl rfl rfl (zt (r:=rQ) (k:=3) ya inf32 rfl dd dd dd (.c (x:=(Cam.mulL ([qx,(Po.ev (Cam.sq qx qy) (Cam.rl e))]))) (cs:=[g3_0r2.b,g3_0r2.l,g3_1r2.b,g3_1r2.l]) (g3_0r2,g3_1r2) rfl rfl rfl (fun g hr=>Holds.get 2 rfl hr) (.c (x:=(Cam.mulL ([(Cam.tP1 e),(Cam.mulL ([((2:Int):Rat),qx,qy]))]))) (cs:=[g8_0r2.b,g8_0r2.l,g8_1r2.b,g8_1r2.l]) (g8_0r2,g8_1r2) rfl rfl rfl (fun g hr=>Holds.get 1 rfl hr) (.c (x:=(Cam.mulL ([(Cam.tP2 e),(Cam.sumL ([(Cam.sq qx qy),(Cam.mulL ([((2:Int):Rat),qx,qx]))]))]))) (cs:=[g20_0r2.b,g20_0r2.l,g20_1r2.b,g20_1r2.l]) (g20_0r2,g20_1r2) rfl rfl rfl (fun g hr=>Holds.get 0 rfl hr) .n)))) (fun u21_1r2 _=> ?_))
  refine zja 0 rfl .z<|zI kr ?_
  exact zS u21_1r2 trivial ((.c rfl .n):SubM _ _) (ho:=oN) (s0 rfl)
 refine a_step 22 rfl (X:=Wd×Wd) (fun x=> .agg #[x.1.b,x.1.l,x.2.b,x.2.l]) (fun x=>[]) (fun x=>[qF true x.1 x.2 (Cam.sumL ([(Cam.mulL ([qx,(Po.ev (Cam.sq qx qy) (Cam.rl e))])),(Cam.mulL ([(Cam.tP1 e),(Cam.mulL ([((2:Int):Rat),qx,qy]))])),(Cam.mulL ([(Cam.tP2 e),(Cam.sumL ([(Cam.sq qx qy),(Cam.mulL ([((2:Int):Rat),qx,qx]))]))]))]))]) [0] kr rfl kr kr kr (fun _=> ?_) ?_
 ·
  rintro g21_0r2
  refine zW (m':=[(48,.slice (some ⟨g21_0r2,0,none⟩) 3 3)]) (R':=[slF rQ (some ⟨g21_0r2,0,none⟩) 3 ([(Cam.mulL ([qx,(Po.ev (Cam.sq qx qy) (Cam.rl e))])),(Cam.mulL ([(Cam.tP1 e),(Cam.mulL ([((2:Int):Rat),qx,qy]))])),(Cam.mulL ([(Cam.tP2 e),(Cam.sumL ([(Cam.sq qx qy),(Cam.mulL ([((2:Int):Rat),qx,qx]))]))]))])]) ((.c rfl .n):SubM _ _) (List.Perm.refl _) (List.Perm.refl _) (s0 rfl)<|e_one 0 (zm rfl rfl rfl rfl (.c rfl .n) ce59 (zob (p:=some ⟨g21_0r2,0,none⟩) (n:=3) (cap:=3) (l:=[(Cam.mulL ([qx,(Po.ev (Cam.sq qx qy) (Cam.rl e))])),(Cam.mulL ([(Cam.tP1 e),(Cam.mulL ([((2:Int):Rat),qx,qy]))])),(Cam.mulL ([(Cam.tP2 e),(Cam.sumL ([(Cam.sq qx qy),(Cam.mulL ([((2:Int):Rat),qx,qx]))]))]))]) (hn:=by exact rfl) (hn9:=dd) (hl:=by exact hl49)) (.c (j:=0) rfl .n) ?_)
  rintro ⟨u22_1r2,u22_2r2⟩ -
  dsimp only [aq,nq,cq]
  refine zI kr ?_
  exact zS (u22_1r2,u22_2r2) trivial ((.c rfl .n):SubM _ _) (ho:=oN) (s0 rfl)
 refine a_step 25 rfl (X:=Nat) (fun x=> .slice (some ⟨x,0,none⟩) 2 2) (fun x=>[]) (fun x=>[slF rQ (some ⟨x,0,none⟩) 2 ([qy,(Po.ev (Cam.sq qx qy) (Cam.rl e))])]) [] kr rfl kr kr kr (fun _=> ?_) ?_
 ·
  refine zW (m':=[(51,.agg (cw [w34,w45]).toArray),(50,.agg (cw [v1,v2]).toArray)]) (R':=[qF true w34 w45 (Po.ev (Cam.sq qx qy) (Cam.rl e)),qF true v1 v2 qy]) ((.c rfl (.c rfl .n)):SubM _ _) (List.Perm.refl _) (List.Perm.refl _) ((.of [1,14] rfl):SelR _ _ _)<|e_one 0 (zJa rfl rfl rfl rfl (zt (r:=rQ) (k:=2) ya inf32 rfl dd dd dd (.c (x:=qy) (cs:=[v1.b,v1.l,v2.b,v2.l]) (v1,v2) rfl rfl rfl (fun g hr=>Holds.get 1 rfl hr) (.c (x:=(Po.ev (Cam.sq qx qy) (Cam.rl e))) (cs:=[w34.b,w34.l,w45.b,w45.l]) (w34,w45) rfl rfl rfl (fun g hr=>Holds.get 0 rfl hr) .n))) (fun u25_1r2 _=> ?_))
  refine zja 0 rfl .z<|zI kr ?_
  exact zS u25_1r2 trivial ((.c rfl .n):SubM _ _) (ho:=oN) (s0 rfl)
 refine a_step 26 rfl (X:=Wd×Wd) (fun x=> .agg #[x.1.b,x.1.l,x.2.b,x.2.l]) (fun x=>[]) (fun x=>[qF true x.1 x.2 (Cam.mulL ([qy,(Po.ev (Cam.sq qx qy) (Cam.rl e))]))]) [0] kr rfl kr kr kr (fun _=> ?_) ?_
 ·
  rintro g25_0r2
  refine zW (m':=[(52,.slice (some ⟨g25_0r2,0,none⟩) 2 2)]) (R':=[slF rQ (some ⟨g25_0r2,0,none⟩) 2 ([qy,(Po.ev (Cam.sq qx qy) (Cam.rl e))])]) ((.c rfl .n):SubM _ _) (List.Perm.refl _) (List.Perm.refl _) (s0 rfl)<|e_one 0 (zm rfl rfl rfl rfl (.c rfl .n) ce56 (zza (p:=some ⟨g25_0r2,0,none⟩) (n:=2) (cap:=2) (l:=[qy,(Po.ev (Cam.sq qx qy) (Cam.rl e))]) (hn:=by exact rfl) (hn9:=dd) (hl:=by exact hl53) (hn1:=dd)) (.c (j:=0) rfl .n) ?_)
  rintro ⟨u26_1r2,u26_2r2⟩ -
  dsimp only [aq,nq,cq]
  refine zI kr ?_
  exact zS (u26_1r2,u26_2r2) trivial ((.c rfl .n):SubM _ _) (ho:=oN) (s0 rfl)
 refine a_step 33 rfl (X:=Nat) (fun x=> .slice (some ⟨x,0,none⟩) 3 3) (fun x=>[]) (fun x=>[slF rQ (some ⟨x,0,none⟩) 3 ([((2:Int):Rat),qy,qy])]) [] kr rfl kr kr kr (fun _=> ?_) ?_
 ·
  refine zW (m':=[(59,.agg (cw [v1,v2]).toArray),(58,.agg (cw [v1,v2]).toArray),(57,.agg (cw [g6_0,g6_1]).toArray)]) (R':=[qF true g6_0 g6_1 ((2:Int):Rat),qF true v1 v2 qy]) (mR rfl) (List.Perm.refl _) (List.Perm.refl _) ((.of [4,14] rfl):SelR _ _ _)<|e_one 0 (zJa rfl rfl rfl rfl (zt (r:=rQ) (k:=3) ya inf32 rfl dd dd dd (.c (x:=((2:Int):Rat)) (cs:=[g6_0.b,g6_0.l,g6_1.b,g6_1.l]) (g6_0,g6_1) rfl rfl rfl (fun g hr=>Holds.get 0 rfl hr) (.c (x:=qy) (cs:=[v1.b,v1.l,v2.b,v2.l]) (v1,v2) rfl rfl rfl (fun g hr=>Holds.get 1 rfl hr) (.c (x:=qy) (cs:=[v1.b,v1.l,v2.b,v2.l]) (v1,v2) rfl rfl rfl (fun g hr=>Holds.get 1 rfl hr) .n)))) (fun u33_1r2 _=> ?_))
  refine zja 0 rfl .z<|zI kr ?_
  exact zS u33_1r2 trivial ((.c rfl .n):SubM _ _) (ho:=oN) (s0 rfl)
 refine a_step 34 rfl (X:=Wd×Wd) (fun x=> .agg #[x.1.b,x.1.l,x.2.b,x.2.l]) (fun x=>[]) (fun x=>[qF true x.1 x.2 (Cam.mulL ([((2:Int):Rat),qy,qy]))]) [0] kr rfl kr kr kr (fun _=> ?_) ?_
 ·
  rintro g33_0r2
  refine zW (m':=[(60,.slice (some ⟨g33_0r2,0,none⟩) 3 3)]) (R':=[slF rQ (some ⟨g33_0r2,0,none⟩) 3 ([((2:Int):Rat),qy,qy])]) ((.c rfl .n):SubM _ _) (List.Perm.refl _) (List.Perm.refl _) (s0 rfl)<|e_one 0 (zm rfl rfl rfl rfl (.c rfl .n) ce56 (zza (p:=some ⟨g33_0r2,0,none⟩) (n:=3) (cap:=3) (l:=[((2:Int):Rat),qy,qy]) (hn:=by exact rfl) (hn9:=dd) (hl:=by exact hl61) (hn1:=dd)) (.c (j:=0) rfl .n) ?_)
  rintro ⟨u34_1r2,u34_2r2⟩ -
  dsimp only [aq,nq,cq]
  refine zI kr ?_
  exact zS (u34_1r2,u34_2r2) trivial ((.c rfl .n):SubM _ _) (ho:=oN) (s0 rfl)
 refine a_step 35 rfl (X:=Nat) (fun x=> .slice (some ⟨x,0,none⟩) 2 2) (fun x=>[]) (fun x=>[slF rQ (some ⟨x,0,none⟩) 2 ([(Cam.sq qx qy),(Cam.mulL ([((2:Int):Rat),qy,qy]))])]) [0] kr rfl kr kr kr (fun _=> ?_) ?_
 ·
  rintro ⟨g34_0r2,g34_1r2⟩
  refine zW (m':=[(61,.agg (cw [g34_0r2,g34_1r2]).toArray),(56,.agg (cw [g5_0,g5_1]).toArray)]) (R':=[qF true g34_0r2 g34_1r2 (Cam.mulL ([((2:Int):Rat),qy,qy])),eF g5_0 g5_1 (some (Cam.sq qx qy)),qF true g5_0 g5_1 (Cam.sq qx qy)]) ((.c rfl (.c rfl .n)):SubM _ _) (List.Perm.refl _) (List.Perm.refl _) ((.of [0,4,6] rfl):SelR _ _ _)<|e_one 0 (zJa rfl rfl rfl rfl (zt (r:=rQ) (k:=2) ya inf32 rfl dd dd dd (.c (x:=(Cam.sq qx qy)) (cs:=[g5_0.b,g5_0.l,g5_1.b,g5_1.l]) (g5_0,g5_1) rfl rfl rfl (fun g hr=>Holds.get 2 rfl hr) (.c (x:=(Cam.mulL ([((2:Int):Rat),qy,qy]))) (cs:=[g34_0r2.b,g34_0r2.l,g34_1r2.b,g34_1r2.l]) (g34_0r2,g34_1r2) rfl rfl rfl (fun g hr=>Holds.get 0 rfl hr) .n))) (fun u35_1r2 _=> ?_))
  refine zja 0 rfl .z<|zI kr ?_
  exact zS u35_1r2 trivial ((.c rfl .n):SubM _ _) (ho:=oN) (s0 rfl)
 refine a_step 36 rfl (X:=Wd×Wd) (fun x=> .agg #[x.1.b,x.1.l,x.2.b,x.2.l]) (fun x=>[]) (fun x=>[qF true x.1 x.2 (Cam.sumL ([(Cam.sq qx qy),(Cam.mulL ([((2:Int):Rat),qy,qy]))]))]) [0] kr rfl kr kr kr (fun _=> ?_) ?_
 ·
  rintro g35_0r2
  refine zW (m':=[(62,.slice (some ⟨g35_0r2,0,none⟩) 2 2)]) (R':=[slF rQ (some ⟨g35_0r2,0,none⟩) 2 ([(Cam.sq qx qy),(Cam.mulL ([((2:Int):Rat),qy,qy]))])]) ((.c rfl .n):SubM _ _) (List.Perm.refl _) (List.Perm.refl _) (s0 rfl)<|e_one 0 (zm rfl rfl rfl rfl (.c rfl .n) ce59 (zob (p:=some ⟨g35_0r2,0,none⟩) (n:=2) (cap:=2) (l:=[(Cam.sq qx qy),(Cam.mulL ([((2:Int):Rat),qy,qy]))]) (hn:=by exact rfl) (hn9:=dd) (hl:=by exact hl63)) (.c (j:=0) rfl .n) ?_)
  rintro ⟨u36_1r2,u36_2r2⟩ -
  dsimp only [aq,nq,cq]
  refine zI kr ?_
  exact zS (u36_1r2,u36_2r2) trivial ((.c rfl .n):SubM _ _) (ho:=oN) (s0 rfl)
 refine a_step 37 rfl (X:=Nat) (fun x=> .slice (some ⟨x,0,none⟩) 2 2) (fun x=>[]) (fun x=>[slF rQ (some ⟨x,0,none⟩) 2 ([(Cam.tP1 e),(Cam.sumL ([(Cam.sq qx qy),(Cam.mulL ([((2:Int):Rat),qy,qy]))]))])]) [0] kr rfl kr kr kr (fun _=> ?_) ?_
 ·
  rintro ⟨g36_0r2,g36_1r2⟩
  refine zW (m':=[(63,.agg (cw [g36_0r2,g36_1r2]).toArray),(55,.agg (cw [wp1,wp2]).toArray)]) (R':=[qF true g36_0r2 g36_1r2 (Cam.sumL ([(Cam.sq qx qy),(Cam.mulL ([((2:Int):Rat),qy,qy]))])),qF true wp1 wp2 (Cam.tP1 e)]) ((.c rfl (.c rfl .n)):SubM _ _) (List.Perm.refl _) (List.Perm.refl _) ((.of [0,10] rfl):SelR _ _ _)<|e_one 0 (zJa rfl rfl rfl rfl (zt (r:=rQ) (k:=2) ya inf32 rfl dd dd dd (.c (x:=(Cam.tP1 e)) (cs:=[wp1.b,wp1.l,wp2.b,wp2.l]) (wp1,wp2) rfl rfl rfl (fun g hr=>Holds.get 1 rfl hr) (.c (x:=(Cam.sumL ([(Cam.sq qx qy),(Cam.mulL ([((2:Int):Rat),qy,qy]))]))) (cs:=[g36_0r2.b,g36_0r2.l,g36_1r2.b,g36_1r2.l]) (g36_0r2,g36_1r2) rfl rfl rfl (fun g hr=>Holds.get 0 rfl hr) .n))) (fun u37_1r2 _=> ?_))
  refine zja 0 rfl .z<|zI kr ?_
  exact zS u37_1r2 trivial ((.c rfl .n):SubM _ _) (ho:=oN) (s0 rfl)
 refine a_step 38 rfl (X:=Wd×Wd) (fun x=> .agg #[x.1.b,x.1.l,x.2.b,x.2.l]) (fun x=>[]) (fun x=>[qF true x.1 x.2 (Cam.mulL ([(Cam.tP1 e),(Cam.sumL ([(Cam.sq qx qy),(Cam.mulL ([((2:Int):Rat),qy,qy]))]))]))]) [0] kr rfl kr kr kr (fun _=> ?_) ?_
 ·
  rintro g37_0r2
  refine zW (m':=[(64,.slice (some ⟨g37_0r2,0,none⟩) 2 2)]) (R':=[slF rQ (some ⟨g37_0r2,0,none⟩) 2 ([(Cam.tP1 e),(Cam.sumL ([(Cam.sq qx qy),(Cam.mulL ([((2:Int):Rat),qy,qy]))]))])]) ((.c rfl .n):SubM _ _) (List.Perm.refl _) (List.Perm.refl _) (s0 rfl)<|e_one 0 (zm rfl rfl rfl rfl (.c rfl .n) ce56 (zza (p:=some ⟨g37_0r2,0,none⟩) (n:=2) (cap:=2) (l:=[(Cam.tP1 e),(Cam.sumL ([(Cam.sq qx qy),(Cam.mulL ([((2:Int):Rat),qy,qy]))]))]) (hn:=by exact rfl) (hn9:=dd) (hl:=by exact hl65) (hn1:=dd)) (.c (j:=0) rfl .n) ?_)
  rintro ⟨u38_1r2,u38_2r2⟩ -
  dsimp only [aq,nq,cq]
  refine zI kr ?_
  exact zS (u38_1r2,u38_2r2) trivial ((.c rfl .n):SubM _ _) (ho:=oN) (s0 rfl)
 refine a_step 42 rfl (X:=Nat) (fun x=> .slice (some ⟨x,0,none⟩) 2 2) (fun x=>[]) (fun x=>[slF rQ (some ⟨x,0,none⟩) 2 ([(Cam.tP2 e),(Cam.mulL ([((2:Int):Rat),qx,qy]))])]) [] kr rfl kr kr kr (fun _=> ?_) ?_
 ·
  refine zW (m':=[(68,.agg (cw [w39,w410]).toArray),(67,.agg (cw [wq1,wq2]).toArray)]) (R':=[qF true w39 w410 (Cam.mulL ([((2:Int):Rat),qx,qy])),qF true wq1 wq2 (Cam.tP2 e)]) ((.c rfl (.c rfl .n)):SubM _ _) (List.Perm.refl _) (List.Perm.refl _) ((.of [0,10] rfl):SelR _ _ _)<|e_one 0 (zJa rfl rfl rfl rfl (zt (r:=rQ) (k:=2) ya inf32 rfl dd dd dd (.c (x:=(Cam.tP2 e)) (cs:=[wq1.b,wq1.l,wq2.b,wq2.l]) (wq1,wq2) rfl rfl rfl (fun g hr=>Holds.get 1 rfl hr) (.c (x:=(Cam.mulL ([((2:Int):Rat),qx,qy]))) (cs:=[w39.b,w39.l,w410.b,w410.l]) (w39,w410) rfl rfl rfl (fun g hr=>Holds.get 0 rfl hr) .n))) (fun u42_1r2 _=> ?_))
  refine zja 0 rfl .z<|zI kr ?_
  exact zS u42_1r2 trivial ((.c rfl .n):SubM _ _) (ho:=oN) (s0 rfl)
 refine a_step 43 rfl (X:=Wd×Wd) (fun x=> .agg #[x.1.b,x.1.l,x.2.b,x.2.l]) (fun x=>[]) (fun x=>[qF true x.1 x.2 (Cam.mulL ([(Cam.tP2 e),(Cam.mulL ([((2:Int):Rat),qx,qy]))]))]) [0] kr rfl kr kr kr (fun _=> ?_) ?_
 ·
  rintro g42_0r2
  refine zW (m':=[(69,.slice (some ⟨g42_0r2,0,none⟩) 2 2)]) (R':=[slF rQ (some ⟨g42_0r2,0,none⟩) 2 ([(Cam.tP2 e),(Cam.mulL ([((2:Int):Rat),qx,qy]))])]) ((.c rfl .n):SubM _ _) (List.Perm.refl _) (List.Perm.refl _) (s0 rfl)<|e_one 0 (zm rfl rfl rfl rfl (.c rfl .n) ce56 (zza (p:=some ⟨g42_0r2,0,none⟩) (n:=2) (cap:=2) (l:=[(Cam.tP2 e),(Cam.mulL ([((2:Int):Rat),qx,qy]))]) (hn:=by exact rfl) (hn9:=dd) (hl:=by exact hl70) (hn1:=dd)) (.c (j:=0) rfl .n) ?_)
  rintro ⟨u43_1r2,u43_2r2⟩ -
  dsimp only [aq,nq,cq]
  refine zI kr ?_
  exact zS (u43_1r2,u43_2r2) trivial ((.c rfl .n):SubM _ _) (ho:=oN) (s0 rfl)
 refine a_step 44 rfl (X:=Nat) (fun x=> .slice (some ⟨x,0,none⟩) 3 3) (fun x=>[]) (fun x=>[slF rQ (some ⟨x,0,none⟩) 3 ([(Cam.mulL ([qy,(Po.ev (Cam.sq qx qy) (Cam.rl e))])),(Cam.mulL ([(Cam.tP1 e),(Cam.sumL ([(Cam.sq qx qy),(Cam.mulL ([((2:Int):Rat),qy,qy]))]))])),(Cam.mulL ([(Cam.tP2 e),(Cam.mulL ([((2:Int):Rat),qx,qy]))]))])]) [0,2,8] kr rfl kr kr kr (fun _=> ?_) ?_
 ·
  rintro ⟨g43_0r2,g43_1r2⟩
  rintro ⟨g38_0r2,g38_1r2⟩
  rintro ⟨g26_0r2,g26_1r2⟩
  refine zW (m':=[(70,.agg (cw [g43_0r2,g43_1r2]).toArray),(65,.agg (cw [g38_0r2,g38_1r2]).toArray),(53,.agg (cw [g26_0r2,g26_1r2]).toArray)]) (R':=[qF true g43_0r2 g43_1r2 (Cam.mulL ([(Cam.tP2 e),(Cam.mulL ([((2:Int):Rat),qx,qy]))])),qF true g38_0r2 g38_1r2 (Cam.mulL ([(Cam.tP1 e),(Cam.sumL ([(Cam.sq qx qy),(Cam.mulL ([((2:Int):Rat),qy,qy]))]))])),qF true g26_0r2 g26_1r2 (Cam.mulL ([qy,(Po.ev (Cam.sq qx qy) (Cam.rl e))]))]) (mR rfl) (List.Perm.refl _) (List.Perm.refl _) ((.of [0,1,2] rfl):SelR _ _ _)<|e_one 0 (zJa rfl rfl rfl rfl (zt (r:=rQ) (k:=3) ya inf32 rfl dd dd dd (.c (x:=(Cam.mulL ([qy,(Po.ev (Cam.sq qx qy) (Cam.rl e))]))) (cs:=[g26_0r2.b,g26_0r2.l,g26_1r2.b,g26_1r2.l]) (g26_0r2,g26_1r2) rfl rfl rfl (fun g hr=>Holds.get 2 rfl hr) (.c (x:=(Cam.mulL ([(Cam.tP1 e),(Cam.sumL ([(Cam.sq qx qy),(Cam.mulL ([((2:Int):Rat),qy,qy]))]))]))) (cs:=[g38_0r2.b,g38_0r2.l,g38_1r2.b,g38_1r2.l]) (g38_0r2,g38_1r2) rfl rfl rfl (fun g hr=>Holds.get 1 rfl hr) (.c (x:=(Cam.mulL ([(Cam.tP2 e),(Cam.mulL ([((2:Int):Rat),qx,qy]))]))) (cs:=[g43_0r2.b,g43_0r2.l,g43_1r2.b,g43_1r2.l]) (g43_0r2,g43_1r2) rfl rfl rfl (fun g hr=>Holds.get 0 rfl hr) .n)))) (fun u44_1r2 _=> ?_))
  refine zja 0 rfl .z<|zI kr ?_
  exact zS u44_1r2 trivial ((.c rfl .n):SubM _ _) (ho:=oN) (s0 rfl)
 refine a_step 45 rfl (X:=Wd×Wd) (fun x=> .agg #[x.1.b,x.1.l,x.2.b,x.2.l]) (fun x=>[]) (fun x=>[qF true x.1 x.2 (Cam.sumL ([(Cam.mulL ([qy,(Po.ev (Cam.sq qx qy) (Cam.rl e))])),(Cam.mulL ([(Cam.tP1 e),(Cam.sumL ([(Cam.sq qx qy),(Cam.mulL ([((2:Int):Rat),qy,qy]))]))])),(Cam.mulL ([(Cam.tP2 e),(Cam.mulL ([((2:Int):Rat),qx,qy]))]))]))]) [0] kr rfl kr kr kr (fun _=> ?_) ?_
 ·
  rintro g44_0r2
  refine zW (m':=[(71,.slice (some ⟨g44_0r2,0,none⟩) 3 3)]) (R':=[slF rQ (some ⟨g44_0r2,0,none⟩) 3 ([(Cam.mulL ([qy,(Po.ev (Cam.sq qx qy) (Cam.rl e))])),(Cam.mulL ([(Cam.tP1 e),(Cam.sumL ([(Cam.sq qx qy),(Cam.mulL ([((2:Int):Rat),qy,qy]))]))])),(Cam.mulL ([(Cam.tP2 e),(Cam.mulL ([((2:Int):Rat),qx,qy]))]))])]) ((.c rfl .n):SubM _ _) (List.Perm.refl _) (List.Perm.refl _) (s0 rfl)<|e_one 0 (zm rfl rfl rfl rfl (.c rfl .n) ce59 (zob (p:=some ⟨g44_0r2,0,none⟩) (n:=3) (cap:=3) (l:=[(Cam.mulL ([qy,(Po.ev (Cam.sq qx qy) (Cam.rl e))])),(Cam.mulL ([(Cam.tP1 e),(Cam.sumL ([(Cam.sq qx qy),(Cam.mulL ([((2:Int):Rat),qy,qy]))]))])),(Cam.mulL ([(Cam.tP2 e),(Cam.mulL ([((2:Int):Rat),qx,qy]))]))]) (hn:=by exact rfl) (hn9:=dd) (hl:=by exact hl72)) (.c (j:=0) rfl .n) ?_)
  rintro ⟨u45_1r2,u45_2r2⟩ -
  dsimp only [aq,nq,cq]
  refine zI kr ?_
  exact zS (u45_1r2,u45_2r2) trivial ((.c rfl .n):SubM _ _) (ho:=oN) (s0 rfl)
 refine a_step 46 rfl (X:=Wd×Wd×Wd×Wd) (fun x=> .agg #[x.2.2.1.b,x.2.2.1.l,x.2.2.2.b,x.2.2.2.l,x.1.b,x.1.l,x.2.1.b,x.2.1.l]) (fun x=>[]) (fun x=>[qF true x.1 x.2.1 (Cam.sumL ([(Cam.mulL ([qy,(Po.ev (Cam.sq qx qy) (Cam.rl e))])),(Cam.mulL ([(Cam.tP1 e),(Cam.sumL ([(Cam.sq qx qy),(Cam.mulL ([((2:Int):Rat),qy,qy]))]))])),(Cam.mulL ([(Cam.tP2 e),(Cam.mulL ([((2:Int):Rat),qx,qy]))]))])),qF true x.2.2.1 x.2.2.2 (Cam.sumL ([(Cam.mulL ([qx,(Po.ev (Cam.sq qx qy) (Cam.rl e))])),(Cam.mulL ([(Cam.tP1 e),(Cam.mulL ([((2:Int):Rat),qx,qy]))])),(Cam.mulL ([(Cam.tP2 e),(Cam.sumL ([(Cam.sq qx qy),(Cam.mulL ([((2:Int):Rat),qx,qx]))]))]))]))]) [0,12] kr rfl kr kr kr (fun _=> ?_) ?_
 ·
  rintro ⟨g45_0r2,g45_1r2⟩
  rintro ⟨g22_0r2,g22_1r2⟩
  refine zW (m':=[(72,.agg (cw [g45_0r2,g45_1r2]).toArray),(49,.agg (cw [g22_0r2,g22_1r2]).toArray)]) (R':=[qF true g45_0r2 g45_1r2 (Cam.sumL ([(Cam.mulL ([qy,(Po.ev (Cam.sq qx qy) (Cam.rl e))])),(Cam.mulL ([(Cam.tP1 e),(Cam.sumL ([(Cam.sq qx qy),(Cam.mulL ([((2:Int):Rat),qy,qy]))]))])),(Cam.mulL ([(Cam.tP2 e),(Cam.mulL ([((2:Int):Rat),qx,qy]))]))])),qF true g22_0r2 g22_1r2 (Cam.sumL ([(Cam.mulL ([qx,(Po.ev (Cam.sq qx qy) (Cam.rl e))])),(Cam.mulL ([(Cam.tP1 e),(Cam.mulL ([((2:Int):Rat),qx,qy]))])),(Cam.mulL ([(Cam.tP2 e),(Cam.sumL ([(Cam.sq qx qy),(Cam.mulL ([((2:Int):Rat),qx,qx]))]))]))]))]) ((.c rfl (.c rfl .n)):SubM _ _) (List.Perm.refl _) (List.Perm.refl _) ((.of [0,1] rfl):SelR _ _ _)<|e_pv 0 rfl rfl (zJ zr34 rfl yi (.c sz32 (.c sz32 .n)) (.c rfl (.c rfl .n)) (.c rfl rfl rfl (.t4 .nil) (.c rfl rfl rfl (.s4 (.t4 .nil)) .n)))<|zI kr ?_
  exact zS (g45_0r2,g45_1r2,g22_0r2,g22_1r2) trivial ((.c rfl .n):SubM _ _) (ho:=oN) ((.of [0,1] rfl):SelR _ _ _)
 refine a_fin (k':=1) (L':=(lb 48 140737488355327)) kr kr kr kr kr kr kr ?_
 rintro ⟨g46_0r2,g46_1r2,g46_2r2,g46_3r2⟩ _ _ _ _ _ _ _ _ _ _ _ _ _ _ _ _ _ _ _ _ _ _ _ _
 refine zW (m':=[(73,.agg (cw [g46_2r2,g46_3r2,g46_0r2,g46_1r2]).toArray),(68,.agg (cw [w39,w410]).toArray),(67,.agg (cw [wq1,wq2]).toArray),(59,.agg (cw [v1,v2]).toArray),(58,.agg (cw [v1,v2]).toArray),(57,.agg (cw [g6_0,g6_1]).toArray),(56,.agg (cw [g5_0,g5_1]).toArray),(55,.agg (cw [wp1,wp2]).toArray),(51,.agg (cw [w34,w45]).toArray),(50,.agg (cw [v1,v2]).toArray),(41,.agg (cw [u1,u2]).toArray),(40,.agg (cw [u1,u2]).toArray),(39,.agg (cw [g6_0,g6_1]).toArray),(38,.agg (cw [g5_0,g5_1]).toArray),(37,.agg (cw [wq1,wq2]).toArray),(33,.agg (cw [w39,w410]).toArray),(32,.agg (cw [wp1,wp2]).toArray),(28,.agg (cw [w34,w45]).toArray),(27,.agg (cw [u1,u2]).toArray),(4,.pointer (some ⟨b3,0,none⟩))]) (OW':=[boxA b3 34 (cw [wz,wz,wz,wz])]) (R':=[qF true g46_0r2 g46_1r2 (Cam.sumL ([(Cam.mulL ([qy,(Po.ev (Cam.sq qx qy) (Cam.rl e))])),(Cam.mulL ([(Cam.tP1 e),(Cam.sumL ([(Cam.sq qx qy),(Cam.mulL ([((2:Int):Rat),qy,qy]))]))])),(Cam.mulL ([(Cam.tP2 e),(Cam.mulL ([((2:Int):Rat),qx,qy]))]))])),qF true g46_2r2 g46_3r2 (Cam.sumL ([(Cam.mulL ([qx,(Po.ev (Cam.sq qx qy) (Cam.rl e))])),(Cam.mulL ([(Cam.tP1 e),(Cam.mulL ([((2:Int):Rat),qx,qy]))])),(Cam.mulL ([(Cam.tP2 e),(Cam.sumL ([(Cam.sq qx qy),(Cam.mulL ([((2:Int):Rat),qx,qx]))]))]))])),qF true w39 w410 (Cam.mulL ([((2:Int):Rat),qx,qy])),qF true w34 w45 (Po.ev (Cam.sq qx qy) (Cam.rl e)),slF rE pm cm ((Cam.rl e).map some),eF g5_0 g5_1 (some (Cam.sq qx qy)),qF true g6_0 g6_1 ((2:Int):Rat),qF true g5_0 g5_1 (Cam.sq qx qy),qF true wa1 wa2 (Rat.divInt e.r0 0x100000),qF true wb1 wb2 (Rat.divInt e.r1 0x100000),qF true wc1 wc2 (Rat.divInt e.r2 0x100000),qF true wp1 wp2 (Cam.tP1 e),qF true wq1 wq2 (Cam.tP2 e),qF true wt1 wt2 (Cam.lim e),slF rQ pm cm (Cam.rl e),qF true u1 u2 qx,qF true v1 v2 qy]) (mR rfl) (List.Perm.refl _) (List.Perm.refl _) ((.of [0,1,26,27,28,29,30,31,32,33,34,35,36,37,38,39,40] rfl):SelR _ _ _)<|e_one 47 (zw kr rfl rfl rfl rfl rfl sz34 rfl (.t8 .nil) ?_)
 refine zI kr<|zd<|zD ?_
 exact zv Tryz.results35 (g46_2r2,g46_3r2,g46_0r2,g46_1r2) trivial (zp 0 ty34 rfl rfl (.t8 .nil)) rfl (ho:=oN) ((.e (j:=1) rfl (by rw [Cam.dX_sum]) (.e (j:=0) rfl (by rw [Cam.dY_sum]) .n)):SelR _ _ _)
end Go.Proofs.YtahiajepeodhoaaGreat.Sp
