/- Lemmas on the walk and plain lemmas that the claim of this folder uses; each states its own conditions. Lines were printed by a program of ours. -/
import Derived.Test.YtjeahiahjgifgaaGreatDoorZ5B
set_option linter.unusedVariables false
set_option linter.unusedSimpArgs false
set_option linter.unusedSectionVars false
open Go.Value renaming int → yc, pointer → ye
open Go.IntKind renaming i64 → yd
open Go.Proofs.YtjeahiahjgifgaaGreatDoor.Big renaming digs → yf, valL → yk, raw → ym, zZ → yo, okL_getD → yr, trimL → yu, digs_ok → yv, ln → yx, hq_num → yz, hq_den → yA, valL_digs → yC, raw_big → yE, ln_mono' → yF, hq → yG, zab → yH, sign_zero → yI, pw → yJ, len_digs_nil → yK, qv → yL, two_lt → yM, den_ne → yN, okL → yO, LgI → yP
open Go.Proofs.Tryz renaming underlying40 → yg, underlying131 → yh, underlying44 → yi, underlying130 → yj, prog → yl, underlying42 → yn, underlying29 → yp, underlying27 → yq, underlying2 → yt, underlying23 → yw, underlying4 → yB, results130 → yD
open Go.Proofs.YtjeahiahjgifgaaGreatDoor.Sh renaming ax → yQ
namespace Go.Proofs.YtjeahiahjgifgaaGreatDoor.Sp
open Go
set_option linter.unusedVariables false
set_option maxRecDepth 100000
set_option maxHeartbeats 8000000
theorem zLf {p:Option Addr} {n:Nat} {cap:Nat} {l:List Int} (hn:l.length=n) (hb:n≤2199023255552):Con yl 131 [.slice p n cap] [] [slF (rI .u32) p cap l] (Y:=(Option Addr)×Nat) (fun y=>True) (fun y=> .slice (y.1) (l.length) (y.2)) (fun y=>[]) (fun y=>[slF (rI .u32) (y.1) (y.2) l]):=by
 refine zx Tryz.func131 rfl rfl rfl (fun c=> ?_)
 show RunC _ _ _ _ _ [(0,.slice p n cap)] [] [slF (rI .u32) p cap l]
 refine zpa 0 rfl (fun hL0=> ?_)
 refine c_nil 0 rfl (fun hnil=> ?_)
 refine zj<|zc<|e_p (zh rfl)<|zk<|zf<|zj<|zj<|zc<|e_mv rfl<|e_p (zDd yg rfl rfl)<|zk<|zf<|zhb rfl (fun h0=> ?_) (fun h0=> ?_)
 ·
  refine zj<|zc<|e_p (zh rfl)<|zk<|zf<|zR<|zq ?_
  obtain rfl:l=[]:=hnil (by simpa using h0)
  refine zCd (rI .u32) ?_
  exact zL Tryz.results131 (none,0) trivial (zD rfl) rfl (ho:=(.n:PickO _ _ _)) ((.c (j:=0) rfl .n):SelR _ _ _)
 ·
  refine zB<|zf<|zj<|zc<|zJa rfl rfl (zAa (rI .u32) yg inf131) (fun b1 _=> ?_)
  refine e_mv rfl<|zWa 0 rfl rfl rfl (zNa 0 rfl yg inf131 dd rfl rfl cbs rfl cbs (by first|omega|(simp;omega)) (by first|omega|(simp;omega))) (fun _=> .z) ?_
  rintro ⟨p2,c3⟩ -
  dsimp only [aq,nq,cq]
  refine e_p (zh rfl)<|zk<|zf<|zR<|zUb 0 rfl .z ?_
  exact zL Tryz.results131 (p2,c3) trivial (zD rfl) (by simp [hn]) (ho:=(.n:PickO _ _ _)) ((.c (j:=0) rfl .n):SelR _ _ _)
theorem zsd {a:Nat} {p:Option Addr} {cap:Nat} (hb:(yf (a)).length≤2199023255552):Con yl 131 [.slice (p) ((yf (a)).length) (cap)] [] [slF (rI .u32) (p) (cap) (yf (a))] (Y:=(Option Addr)×(Nat)) (fun y=>True) (fun y=> .slice (y.1) ((yf (a)).length) (y.2)) (fun y=>[]) (fun y=>[slF (rI .u32) (y.1) (y.2) (yf (a))]):=by
  exact zLf rfl hb
theorem zHc {a:Nat} {p:Option Addr} {cap:Nat}:Con yl 129 [.slice p ((yf a).length) cap] [] [slF (rI .u32) p cap (yf a)] (Y:=Unit) (fun y=>True) (fun y=> .tuple #[.int .u64 (((if (yf a).length≤2 then a else 0):Nat):Int),.bool (decide ((yf a).length≤2))]) (fun y=>[]) (fun y=>[]):=by
 refine ztc Tryz.func129 rfl rfl rfl (fun c=> ?_)
 show RunC _ _ _ _ _ [(0,.slice p ((yf a).length) cap)] [] [slF (rI .u32) p cap (yf a)]
 refine zpa 0 rfl (fun hL0=> ?_)
 refine zj<|zc<|e_p (zh rfl)<|e_p (zh rfl)<|zk<|zf<|zj<|zj<|zc<|e_mv rfl<|e_p (zea yg rfl)<|e_p (zZa rfl rfl)<|zk<|zf<|zT rfl (fun hgt=> ?_) (fun hgt=> ?_)
 ·
  refine zj<|zc<|e_p (zh rfl)<|e_p (zh rfl)<|zk<|zf<|zR<|zq<|zIe ?_
  exact zDa Tryz.results129 () trivial (zD rfl) (zD rfl) (by rw [if_neg om,decide_eq_false (show ¬(yf a).length≤2 by omega)];rfl) (ho:=(.n:PickO _ _ _)) (.n:SelR _ _ _)
 ·
  have hle:(yf a).length≤2:=by omega
  have h18:=yM hle
  refine zB<|zf<|zj<|zc<|zJ rfl rfl (zp zr130 rfl) (fun b1=> ?_)
  refine zl 0 rfl rfl rfl rfl rfl sz130 rfl (.take .nil) .z<|zk<|zf<|zj<|zj<|zc<|e_mv rfl<|zG rfl rfl (.c rfl .n) ce133 (zSb (p:=p) (n:=(yf a).length) (cap:=cap)) (.n) ?_
  rintro b2 -
  dsimp only [aq,nq,cq]
  refine zk<|zf<|zu<|zYd (fa:=[atF b2 0 [.slice p ((yf a).length) cap],slF (rI .u32) p cap (yf a)]) (N:=((yf a).length)) (encs:=fun k=>[yc yd ((k:Nat):Int),.int .u32 ((yf a).getD k 0)]) rfl ce141 (back_u32 cbs) (fun _=>rfl) rfl (X:=Int) (Y:=Unit) (fun x k=>k≤(yf a).length∧x=yk ((yf a).drop k)∧0≤x∧x*yJ k≤(a:Int)) (fun y=>False) (fun x=>[boxA b1 130 [.int .u64 x]]) (fun x=>[]) (fun y=>[]) (fun y=>[]) (fun k=>[(6,.int .u32 ((yf a).getD k 0)),(13,.int .u32 ((yf a).getD k 0)),(12,yc yd ((k:Nat):Int)),(11,.func (.func 141) #[] #[ye (some ⟨b2,0,none⟩)]),(10,.slice p ((yf a).length) cap),(4,ye (some ⟨b1,0,none⟩)),(9,.bool (decide (2<(((yf a).length:Nat):Int)))),(8,yc yd (((yf a).length:Nat):Int)),(7,.slice p ((yf a).length) cap),(3,.bool false),(2,.int .u64 0),(0,.slice p ((yf a).length) cap)]) (0:Int) (show ((yf a).length)≤(yf a).length∧(0:Int)=yk ((yf a).drop ((yf a).length))∧0≤(0:Int)∧(0:Int)*yJ ((yf a).length)≤(a:Int) from by exact ⟨Nat.le_refl _,by simp [yk],Int.le_refl _,by simp⟩) (ho:=((.e (i:=0) rfl (by first|rfl|(congr 1;omega)|simp_all) .n):PickO _ _ _)) ((.of [0,1] rfl):SelR _ _ _) ?_ ?_ ?_ ?_
  ·
   intro l k O' R' Q' hP
   refine zc<|e_p (zh rfl)<|zk ?_
   exact hP
  ·
   rintro l3 D4 o5 o6 z k hkN hI
   replace hI:(k+1)≤(yf a).length∧z=yk ((yf a).drop (k+1))∧0≤z∧z*yJ (k+1)≤(a:Int):=hI
   try dsimp only
   obtain ⟨hk,hz,hz0,hzp⟩:=hI
   have hg:=yr (yv a) k
   have hlim:=Big.word_lim hle (show k+1≤(yf a).length by omega) hz0 hzp
   refine zu<|zc<|e_ru (ze 2 ty130 rfl rfl rfl)<|e_p (zGa (z:=(z*1000000000)) rfl rfl (wu64 om))<|e_mv rfl<|e_p (zH (z:=((yf a).getD k 0)) rfl (by rw [yh];rfl) yj (wu64 om))<|e_p (zI (z:=((z*1000000000)+((yf a).getD k 0))) rfl rfl (wu64 om))<|zl 2 rfl rfl rfl rfl rfl sz130 rfl (.take .nil) (.s (.s .z))<|zk<|zK ?_
   exact zWd (z*1000000000+(yf a).getD k 0) (show k≤(yf a).length∧(z*1000000000+(yf a).getD k 0)=yk ((yf a).drop k)∧0≤(z*1000000000+(yf a).getD k 0)∧(z*1000000000+(yf a).getD k 0)*yJ k≤(a:Int) from by exact ⟨by omega,by rw [hz];exact Big.word_step k,by omega,Big.word_keep (show k+1≤(yf a).length by omega) hz⟩) (ho:=((.c (i:=0) rfl (.c (i:=0) rfl (.e (i:=0) rfl (by first|rfl|(congr 1;omega)|simp_all) .n))):PickO _ _ _)) ((.of [0,1] rfl):SelR _ _ _)
  ·
   rintro D7 z hI
   replace hI:0≤(yf a).length∧z=yk ((yf a).drop 0)∧0≤z∧z*yJ 0≤(a:Int):=hI
   try dsimp only
   have hz9:z=(a:Int):=by rw [hI.2.1,List.drop_zero,yC]
   refine zK<|zf<|zj<|zc<|e_ru (ze 1 ty130 rfl rfl rfl)<|e_p (zh rfl)<|e_p (zh rfl)<|zk<|zf<|zR<|zje 0 rfl rfl ?_
   exact zDa Tryz.results129 () trivial (zD rfl) (zD rfl) (by rw [if_pos hle,decide_eq_true hle,hz9]) (ho:=(.n:PickO _ _ _)) (.n:SelR _ _ _)
  ·
   intro _ _ h;exact h.elim
theorem zLd {a:Nat} {mm:Nat} {p:Option Addr} {cap:Nat} (hb:(yf a).length≤1099511627776) (hm0:0<mm) (hm1:mm<4294967296):Con yl 139 [.slice p ((yf a).length) cap,.int .u32 ((mm:Nat):Int)] [] [slF (rI .u32) p cap (yf a)] (Y:=(Option Addr)×Nat) (fun y=>True) (fun y=> .tuple #[.slice (y.1) ((yf (a / mm)).length) (y.2),.int .u32 (((a%mm):Nat):Int)]) (fun y=>[]) (fun y=>[slF (rI .u32) (y.1) (y.2) (yf (a / mm))]):=by
 refine ztc Tryz.func139 rfl rfl rfl (fun c=> ?_)
 show RunC _ _ _ _ _ [(0,.slice p ((yf a).length) cap),(1,.int .u32 ((mm:Nat):Int))] [] [slF (rI .u32) p cap (yf a)]
 refine zpa 0 rfl (fun hL0=> ?_)
 refine zj<|zc<|zJ rfl rfl (zda rfl rfl) (fun b1=> ?_)
 refine zJ rfl rfl (zp zr40 rfl) (fun b2=> ?_)
 refine e_p (zh rfl)<|zk<|zf<|zj<|zc<|e_mv rfl<|e_p (zea yg rfl)<|zJa rfl rfl (zFb (r:=rI .u32) (k:=(yf a).length) (x0:=0) (γ0:=()) yg inf131 rfl rfl rfl rfl om om rfl (fun _ _=>by exact zE.2 dd) dd) (fun b3 _=> ?_)
 refine zl 1 rfl rfl rfl rfl rfl sz40 rfl (.take .nil) (.s .z)<|zk<|zf<|zj<|zc<|zJ rfl rfl (zp zr130 rfl) (fun b4=> ?_)
 refine zl 0 rfl rfl rfl rfl rfl sz130 rfl (.take .nil) .z<|zk<|zf<|zj<|zj<|zc<|e_mv rfl<|zG rfl rfl (.c rfl .n) ce133 (zSb (p:=p) (n:=(yf a).length) (cap:=cap)) (.n) ?_
 rintro b5 -
 dsimp only [aq,nq,cq]
 refine zk<|zf<|zu<|zYd (fa:=[atF b5 0 [.slice p ((yf a).length) cap],slF (rI .u32) p cap (yf a)]) (N:=((yf a).length)) (encs:=fun k=>[yc yd ((k:Nat):Int),.int .u32 ((yf a).getD k 0)]) rfl ce141 (back_u32 (by first|rfl|assumption|(simp;done)|omega)) (fun _=>rfl) rfl (X:=(List Int)×(List Int)×Int) (Y:=Unit) (fun x k=>x.1=List.replicate k 0++x.2.1∧Big.ShI (yf a) (mm:Int) k x.2.1 x.2.2) (fun y=>False) (fun x=>[boxA b4 130 [.int .u64 (x.2.2)],rowA 131 (rI .u32) (some ⟨b3,0,none⟩) ((yf a).length) (x.1),boxA b2 40 [.slice (some ⟨b3,0,none⟩) ((yf a).length) ((yf a).length)],boxA b1 131 [.int .u32 ((mm:Nat):Int)]]) (fun x=>[]) (fun y=>[]) (fun y=>[]) (fun k=>[(8,.int .u32 ((yf a).getD k 0)),(7,yc yd ((k:Nat):Int)),(16,.int .u32 ((yf a).getD k 0)),(15,yc yd ((k:Nat):Int)),(14,.func (.func 141) #[] #[ye (some ⟨b5,0,none⟩)]),(13,.slice p ((yf a).length) cap),(6,ye (some ⟨b4,0,none⟩)),(12,.slice (some ⟨b3,0,none⟩) ((yf a).length) ((yf a).length)),(11,yc yd (((yf a).length:Nat):Int)),(10,.slice p ((yf a).length) cap),(5,.int .u32 0),(4,ye (some ⟨b2,0,none⟩)),(3,ye (some ⟨b1,0,none⟩)),(0,.slice p ((yf a).length) cap),(1,.int .u32 ((mm:Nat):Int))]) ((List.replicate (yf a).length 0),([]:List Int),(0:Int)) (show (List.replicate (yf a).length 0)=List.replicate ((yf a).length) 0++([]:List Int)∧Big.ShI (yf a) (mm:Int) ((yf a).length) ([]:List Int) (0:Int) from by exact ⟨by simp,Big.ShI.start om⟩) (ho:=((.e (i:=0) rfl (by first|rfl|(congr 1;omega)|simp_all) (.e (i:=0) rfl (by first|rfl|(congr 1;omega)|simp_all) (.of [0,0] rfl))):PickO _ _ _)) ((.of [0,1] rfl):SelR _ _ _) ?_ ?_ ?_ ?_
 ·
  intro l k O' R' Q' hP
  refine zj<|zc<|e_p (zh rfl)<|zk<|zf<|zc<|e_p (zh rfl)<|zk ?_
  exact hP
 ·
  rintro l6 D7 o8 o9 ⟨os,qs,z⟩ k hkN hI
  replace hI:os=List.replicate (k+1) 0++qs∧Big.ShI (yf a) (mm:Int) (k+1) qs z:=hI
  try dsimp only
  obtain ⟨hos,hS⟩:=hI
  have hz0:=hS.r0
  have hz1:=hS.r1
  have hkle:=hS.le
  have hosl:os.length=(yf a).length:=by rw [hos,List.length_append,List.length_replicate,hS.len];omega
  have hg:=yr (yv a) k
  have hdg:=Big.sh_digit hz0 hz1 hg
  have hrm:=Int.emod_lt_of_pos (z*1000000000+(yf a).getD k 0) (show 0<(mm:Int) by omega)
  have hrm0:=Int.emod_nonneg (z*1000000000+(yf a).getD k 0) (show (mm:Int)≠0 by omega)
  refine zu<|zj<|zc<|e_ru (ze 2 ty130 rfl rfl rfl)<|e_p (zGa (z:=(z*1000000000)) rfl rfl (wu64 om))<|e_mv rfl<|e_p (zH (z:=((yf a).getD k 0)) rfl (by rw [yh];rfl) yj (wu64 om))<|e_p (zI (z:=((z*1000000000)+((yf a).getD k 0))) rfl rfl (wu64 om))<|e_p (zh rfl)<|zk<|zf<|zba (.c (i:=3) rfl (.c (i:=2) rfl (.c (i:=0) rfl (.c (i:=0) rfl (.c (i:=0) rfl (.c (i:=0) rfl .n))))))<|zMe (OW:=[rowA 131 (rI .u32) (some ⟨b3,0,none⟩) ((yf a).length) os,boxA b4 130 [.int .u64 z]]) (O:=[objA l6 o8,objA D7 o9,boxA b2 40 [.slice (some ⟨b3,0,none⟩) ((yf a).length) ((yf a).length)],boxA b1 131 [.int .u32 ((mm:Nat):Int)]]) 12 mixed kr kr<|e_uw 0 rfl rfl (ze 4 ty40 rfl rfl rfl)<|e_dm 1 rfl rfl rfl<|e_dm 2 rfl rfl rfl<|e_uw 3 rfl rfl (ze 5 ty131 rfl rfl rfl)<|e_pv 4 rfl rfl (zH (z:=((mm:Nat):Int)) rfl (by rw [yh];rfl) yj (wu64 om))<|e_pv 5 rfl rfl (zdb (z:=(((z*1000000000)+((yf a).getD k 0)) / ((mm:Nat):Int))) rfl rfl om (by rw [quoN (z:=(((z*1000000000)+((yf a).getD k 0)) / ((mm:Nat):Int))) om om];exact wu64 om))<|e_pv 6 rfl rfl (zH (z:=(((z*1000000000)+((yf a).getD k 0)) / ((mm:Nat):Int))) rfl (by rw [yj];rfl) yh (wu32 om))<|e_dm 7 rfl rfl rfl<|e_u 8 rfl rfl (ze 3 ty131 rfl rfl rfl)<|e_pv 9 rfl rfl (zH (z:=((mm:Nat):Int)) rfl (by rw [yh];rfl) yj (wu64 om))<|e_pv 10 rfl rfl (zeb (z:=(((z*1000000000)+((yf a).getD k 0))%((mm:Nat):Int))) rfl rfl om (remN om om))<|e_pv 11 rfl rfl (zja (j:=k) yg sz131 rfl rfl rfl om)<|e_one 12 (zDf (A':=fun _=>rowA 131 (rI .u32) (some ⟨b3,0,none⟩) ((yf a).length) (os.set k (((z*1000000000)+((yf a).getD k 0)) / ((mm:Nat):Int)))) kr rfl rfl rfl (zha (j:=k) (x0:=(((z*1000000000)+((yf a).getD k 0)) / ((mm:Nat):Int))) (γ0:=()) rfl rfl (by first|omega|(rw [List.length_map];omega)|(simp only [List.length_set];omega)|(simp;done)|(simp;omega)) rfl rfl sz131 (fun _ _=>by exact zE.2 om)) (fun _ _=> ?_))
  refine zcb (zta (i:=1) rfl)<|e_one 13 (zo kr rfl rfl rfl rfl rfl sz130 rfl (.take .nil) ?_)
  refine zNe kr<|zK ?_
  exact zWd ((os.set k (((z*1000000000)+((yf a).getD k 0)) / ((mm:Nat):Int))),((z*1000000000+(yf a).getD k 0) / (mm:Int) :: qs),((z*1000000000+(yf a).getD k 0)%(mm:Int))) (show (os.set k (((z*1000000000)+((yf a).getD k 0)) / ((mm:Nat):Int)))=List.replicate k 0++((z*1000000000+(yf a).getD k 0) / (mm:Int) :: qs)∧Big.ShI (yf a) (mm:Int) k ((z*1000000000+(yf a).getD k 0) / (mm:Int) :: qs) ((z*1000000000+(yf a).getD k 0)%(mm:Int)) from by exact ⟨by rw [hos];exact Big.pad_set _,hS.step (yv a)⟩) (ho:=((.c (i:=2) rfl (.c (i:=2) rfl (.e (i:=0) rfl (by first|rfl|(congr 1;omega)|simp_all) (.of [0,0,0] rfl)))):PickO _ _ _)) ((.of [0,1] rfl):SelR _ _ _)
 ·
  rintro D10 ⟨os,qs,z⟩ hI
  replace hI:os=List.replicate 0 0++qs∧Big.ShI (yf a) (mm:Int) 0 qs z:=hI
  try dsimp only
  obtain ⟨hos,hS⟩:=hI
  obtain ⟨hf1,hf2⟩:=hS.fin
  have hoq:os=qs:=by simpa using hos
  have htr:yu os=yf (a / mm):=by rw [hoq];exact hf1
  have hosl:os.length=(yf a).length:=by rw [hoq,hS.len];omega
  have hzr:=hS.r1
  have hzr0:=hS.r0
  refine zK<|zf<|zj<|zba (.c (i:=3) rfl (.c (i:=0) rfl (.c (i:=0) rfl (.c (i:=0) rfl (.c (i:=0) rfl .n)))))<|zMe (OW:=[boxA b2 40 [.slice (some ⟨b3,0,none⟩) ((yf a).length) ((yf a).length)]]) (O:=[objA D10 (.deferred (some [])),boxA b4 130 [.int .u64 z],rowA 131 (rI .u32) (some ⟨b3,0,none⟩) ((yf a).length) os,boxA b1 131 [.int .u32 ((mm:Nat):Int)]]) 4 mixed kr kr<|e_uw 0 rfl rfl (ze 0 ty40 rfl rfl rfl)<|e_u 2 rfl rfl (ze 1 ty130 rfl rfl rfl)<|e_pv 3 rfl rfl (zH (z:=z) rfl (by rw [yj];rfl) yh (wu32 om))<|zkc 2 rfl (.s (.s .z))<|e_one 1 (zm rfl rfl rfl rfl (.c rfl .n) ce135 (zHb (p:=some ⟨b3,0,none⟩) (n:=(yf a).length) (cap:=(yf a).length) (l:=os) (hn:=cbb)) (.c (j:=0) rfl .n) ?_)
  rintro ⟨⟩ -
  dsimp only [aq,nq,cq]
  refine e_one 4 (zo kr rfl rfl rfl rfl rfl sz40 rfl (.take .nil) ?_)
  refine e_pv 5 rfl rfl (zh rfl)<|zNe kr<|zf<|zR<|zje 1 rfl rfl ?_
  exact zDa Tryz.results139 ((some ⟨b3,0,none⟩),((yf a).length)) trivial (zEb 0 ty40 rfl rfl rfl) (zD rfl) (by rw [htr,hf2]) (ho:=(.n:PickO _ _ _)) ((.e (j:=0) rfl (by rw [htr]) .n):SelR _ _ _)
 ·
  intro _ _ h;exact h.elim
theorem zTe {p:Option Addr} {n:Nat} {cap:Nat} {l:List Int} (hn:l.length=n):Con yl 135 [.slice p n cap] [rowA 131 (rI .u32) p cap l] [] (Y:=Unit) (fun y=>True) (fun y=> .slice p ((yu l).length) cap) (fun y=>[rowA 131 (rI .u32) p cap (yu l)]) (fun y=>[]):=by
 refine zx Tryz.func135 rfl rfl rfl (fun c=> ?_)
 show RunC _ _ _ _ _ [(0,.slice p n cap)] [rowA 131 (rI .u32) p cap l] []
 refine zmf 0 rfl (fun hcl=> ?_)
 refine zj<|zc<|e_p (zh rfl)<|zk<|zf<|zj<|zu<|zza (X:=Nat) (fun x:Nat=>x≤l.length∧yu (l.take x)=yu l) (fun x=>[(0,.slice p x cap),(2,.slice none 0 0)]) (fun x=>[rowA 131 (rI .u32) p cap l]) (fun x=>[]) (fun x:Nat=>x) n (show n≤l.length∧yu (l.take n)=yu l from by exact ⟨by omega,by rw [List.take_of_length_le om]⟩) ((.c rfl (.c rfl .n)):SubM _ _) (ho:=((.c (i:=0) rfl .n):PickO _ _ _)) (.n:SelR _ _ _) ?_
 rintro k hI
 replace hI:k≤l.length∧yu (l.take k)=yu l:=hI
 try dsimp only
 obtain ⟨hk,hT⟩:=hI
 refine zj<|zIa (X:=Unit) (fun x=>True) (fun x=>[(14,.bool (decide (0<k∧l.getD (k - 1) 0=0))),(0,.slice p k cap),(2,.slice none 0 0)]) (fun x=>[rowA 131 (rI .u32) p cap l]) (fun x=>[]) ?_ ?_
 ·
  refine zc<|e_mv rfl<|e_p (zea yg rfl)<|e_p (zZa rfl rfl)<|zsa rfl rfl (zva rfl) (fun h1=> ?_) (fun h1=> ?_)
  ·
   refine e_mv rfl<|e_mv rfl<|e_p (zea yg rfl)<|e_p (zma (z:=(((k - 1):Nat):Int)) rfl rfl (w64 om))<|e_ru (zqd 0 (k - 1) rfl yg sz131 rfl cbo rfl rfl om)<|r_vl rfl rfl (zra 0 (k - 1) rfl ty131 rfl rfl (gD (d:=0) om) rfl) (fun _ hok2=> ?_)
   replace hok2:=zE.1 hok2
   refine e_p (zMa rfl rfl)<|e_p (zU rfl rfl)<|zk ?_
   exact zna () (show True from by first|trivial|omega|simp_all) ((.e rfl (congrArg Value.bool (by have h1:0<k:=om;have h2:((k:Int) - 1).toNat=k - 1:=om;simp [h1,h2])) (.c rfl (.c rfl .n))):SubM _ _) (ho:=((.c (i:=0) rfl .n):PickO _ _ _)) (.n:SelR _ _ _)
  ·
   refine e_no<|e_no<|e_no<|e_no<|e_no<|e_no<|e_no<|e_p (zU rfl rfl)<|zk ?_
   exact zna () (show True from by first|trivial|omega|simp_all) ((.e rfl (congrArg Value.bool (by have h1:¬0<k:=om;simp [h1])) (.c rfl (.c rfl .n))):SubM _ _) (ho:=((.c (i:=0) rfl .n):PickO _ _ _)) (.n:SelR _ _ _)
 ·
  rintro ⟨⟩ -
  try dsimp only
  refine zT rfl (fun hc=> ?_) (fun hc=> ?_)
  ·
   refine zB<|zf<|zu<|zc<|e_mv rfl<|e_mv rfl<|e_p (zea yg rfl)<|e_p (zma (z:=(((k - 1):Nat):Int)) rfl rfl (w64 om))<|e_p (zQb (hi:=(k - 1)) yg sz131 rfl (.s rfl) (.inr ⟨_,rfl⟩) om)<|e_p (zh rfl)<|zk<|zK<|zwa (k - 1) (show (k - 1)≤l.length∧yu (l.take (k - 1))=yu l from by exact ⟨by omega,by rw [← hT,Big.trim_go l hc.1 hk hc.2]⟩) (by show k - 1<k;omega) ((.e rfl (by first|rfl|(congr 1;omega)|simp_all) (.c rfl .n)):SubM _ _) (ho:=((.c (i:=0) rfl .n):PickO _ _ _)) (.n:SelR _ _ _)
  ·
   refine zla<|zn<|zn<|zC<|zf<|zj<|zc<|e_mv rfl<|e_p (zh rfl)<|zk<|zf<|zR ?_
   have hfin:l.take k=yu l:=by rw [← hT];exact (Big.trim_stop l hk hc).symm
   have hlk:(l.take k).length=k:=by rw [List.length_take];omega
   refine p_mem (fun w mm=>mm.rowTake 0 rfl k) ?_
   dsimp only [List.set]
   have e3:l.take k=yu l:=by exact hfin
   rw [e3]
   exact zL Tryz.results135 () trivial (zD rfl) (by rw [← hfin,hlk]) (ho:=((.c (i:=0) rfl .n):PickO _ _ _)) (.n:SelR _ _ _)
theorem zxe {a:Nat} {b:Nat} {p1:Option Addr} {c1:Nat} {p2:Option Addr} {c2:Nat} (hb1:(yf a).length≤1099511627776) (hb2:(yf b).length≤1099511627776):Con yl 121 [.slice p1 ((yf a).length) c1,.slice p2 ((yf b).length) c2] [] [slF (rI .u32) p1 c1 (yf a),slF (rI .u32) p2 c2 (yf b)] (Y:=(Option Addr)×Nat) (fun y=>True) (fun y=> .slice (y.1) ((yf (a*b)).length) (y.2)) (fun y=>[rowA 131 (rI .u32) (y.1) (y.2) (yf (a*b))]) (fun y=>[]):=by
 refine zx Tryz.func121 rfl rfl rfl (fun c=> ?_)
 show RunC _ _ _ _ _ [(0,.slice p1 ((yf a).length) c1),(1,.slice p2 ((yf b).length) c2)] [] [slF (rI .u32) p1 c1 (yf a),slF (rI .u32) p2 c2 (yf b)]
 refine zpa 0 rfl (fun hL0=> ?_)
 refine zpa 1 rfl (fun hL1=> ?_)
 have hoa:=yv a
 have hob:=yv b
 refine zj<|zc<|e_p (zh rfl)<|zk<|zf<|zj<|zc<|e_mv rfl<|e_p (zea yg rfl)<|e_mv rfl<|e_p (zea yg rfl)<|e_p (zI (z:=(((((yf a).length)+((yf b).length)):Nat):Int)) rfl rfl (w64 om))<|zJa rfl rfl (zFb (r:=rI .u32) (k:=(((yf a).length)+((yf b).length))) (x0:=0) (γ0:=()) yg inf131 rfl rfl rfl rfl om om rfl (fun _ _=>by exact zE.2 dd) dd) (fun b1 _=> ?_)
 refine e_p (zh rfl)<|zk<|zf<|zj<|zj<|zc<|e_mv rfl<|e_p (zea yg rfl)<|e_mv rfl<|zk<|zf<|zu<|zza (X:=Nat×(List Int)) (fun x:Nat×(List Int)=>x.1≤(yf a).length∧x.2.length=(yf a).length+(yf b).length∧yO x.2∧(∀k,x.1+(yf b).length≤k→x.2.getD k 0=0)∧yk x.2=yk ((yf a).take x.1)*yk (yf b)) (fun x=>[(20,yc yd ((x.1:Nat):Int)),(19,yc yd (((yf a).length:Nat):Int)),(18,.slice p1 ((yf a).length) c1),(5,.slice (some ⟨b1,0,none⟩) (((yf a).length)+((yf b).length)) (((yf a).length)+((yf b).length))),(4,.slice none 0 0),(1,.slice p2 ((yf b).length) c2)]) (fun x=>[rowA 131 (rI .u32) (some ⟨b1,0,none⟩) (((yf a).length)+((yf b).length)) (x.2)]) (fun x=>[slF (rI .u32) p1 c1 (yf a),slF (rI .u32) p2 c2 (yf b)]) (fun x:Nat×(List Int)=>(yf a).length - x.1) (0,List.replicate ((yf a).length+(yf b).length) 0) (show 0≤(yf a).length∧(List.replicate ((yf a).length+(yf b).length) 0).length=(yf a).length+(yf b).length∧yO (List.replicate ((yf a).length+(yf b).length) 0)∧(∀k,0+(yf b).length≤k→(List.replicate ((yf a).length+(yf b).length) 0).getD k 0=0)∧yk (List.replicate ((yf a).length+(yf b).length) 0)=yk ((yf a).take 0)*yk (yf b) from by exact ⟨by omega,by simp,Big.okL_zeros _,fun k _=>Big.getD_zeros _ k,by simp [Big.valL_zeros,yk]⟩) ((.e rfl (by first|rfl|(congr 1;omega)|simp_all) (.of rfl)):SubM _ _) (ho:=((.e (i:=0) rfl (by first|rfl|(congr 1;omega)|simp_all) .n):PickO _ _ _)) ((.of [0,1] rfl):SelR _ _ _) ?_
 rintro ⟨i,os⟩ hI
 replace hI:i≤(yf a).length∧os.length=(yf a).length+(yf b).length∧yO os∧(∀k,i+(yf b).length≤k→os.getD k 0=0)∧yk os=yk ((yf a).take i)*yk (yf b):=hI
 try dsimp only
 obtain ⟨hi,hol,hok,hz,hv⟩:=hI
 have hg1:=yr hoa i
 refine zj<|zc<|e_p (zS rfl rfl)<|zk<|zf<|zj<|zT rfl (fun h2=> ?_) (fun h2=> ?_)
 ·
  refine zB<|zf<|zj<|zu<|zj<|zc<|e_mv rfl<|zP (x0:=((yf a).getD i 0)) 0 i rfl yg sz131 rfl rfl rfl (by first|rfl|assumption|(simp;omega)|omega) rfl rfl (gD (d:=0) om) (fun b3 o4 hok5=> ?_)
  replace hok5:=zE.1 hok5
  refine e_ru (zA (j:=0) 0 ty131 rfl rfl rfl rfl)<|e_p (zh rfl)<|e_p (zh rfl)<|zk<|zf<|zj<|zc<|e_p (zh rfl)<|zk<|zf<|zj<|zj<|zc<|e_mv rfl<|e_p (zea yg rfl)<|e_mv rfl<|zk<|zf<|zu<|zza (X:=Nat×(List Int)×Int) (fun x:Nat×(List Int)×Int=>x.1≤(yf b).length∧x.2.1.length=(yf a).length+(yf b).length∧yO x.2.1∧0≤x.2.2∧x.2.2<1000000000∧(∀k,i+(yf b).length≤k→x.2.1.getD k 0=0)∧yk x.2.1+yJ (i+x.1)*x.2.2=yk ((yf a).take i)*yk (yf b)+yJ i*(yf a).getD i 0*yk ((yf b).take x.1)) (fun x=>[(8,.int .u64 (x.2.2)),(27,yc yd ((x.1:Nat):Int)),(26,yc yd (((yf b).length:Nat):Int)),(25,.slice p2 ((yf b).length) c2),(7,.int .u32 ((yf a).getD i 0)),(6,yc yd ((i:Nat):Int)),(20,yc yd ((i:Nat):Int)),(19,yc yd (((yf a).length:Nat):Int)),(18,.slice p1 ((yf a).length) c1),(5,.slice (some ⟨b1,0,none⟩) (((yf a).length)+((yf b).length)) (((yf a).length)+((yf b).length))),(4,.slice none 0 0),(1,.slice p2 ((yf b).length) c2)]) (fun x=>[rowA 131 (rI .u32) (some ⟨b1,0,none⟩) (((yf a).length)+((yf b).length)) (x.2.1)]) (fun x=>[atF b3 o4 [.int .u32 ((yf a).getD i 0)],slF (rI .u32) p1 c1 (yf a),slF (rI .u32) p2 c2 (yf b)]) (fun x:Nat×(List Int)×Int=>(yf b).length - x.1) (0,os,0) (show 0≤(yf b).length∧os.length=(yf a).length+(yf b).length∧yO os∧0≤0∧0<1000000000∧(∀k,i+(yf b).length≤k→os.getD k 0=0)∧yk os+yJ (i+0)*0=yk ((yf a).take i)*yk (yf b)+yJ i*(yf a).getD i 0*yk ((yf b).take 0) from by exact ⟨by omega,hol,hok,by decide,by decide,hz,by rw [hv];simp [yk]⟩) ((.c rfl (.e rfl (by first|rfl|(congr 1;omega)|simp_all) (.of rfl))):SubM _ _) (ho:=((.c (i:=0) rfl .n):PickO _ _ _)) ((.of [0,1,2] rfl):SelR _ _ _) ?_
  rintro ⟨j,os2,cy⟩ hJ
  replace hJ:j≤(yf b).length∧os2.length=(yf a).length+(yf b).length∧yO os2∧0≤cy∧cy<1000000000∧(∀k,i+(yf b).length≤k→os2.getD k 0=0)∧yk os2+yJ (i+j)*cy=yk ((yf a).take i)*yk (yf b)+yJ i*(yf a).getD i 0*yk ((yf b).take j):=hJ
  try dsimp only
  obtain ⟨hj,hol2,hok2,hcy0,hcy1,hz2,hv2⟩:=hJ
  have hg2:=yr hob j
  have hg3:=yr hok2 (i+j)
  have hpq:=Big.mul_lim hg1 hg2
  refine zj<|zc<|e_p (zS rfl rfl)<|zk<|zf<|zj<|zT rfl (fun h6=> ?_) (fun h6=> ?_)
  ·
   refine zB<|zf<|zj<|zu<|zj<|zc<|e_mv rfl<|zP (x0:=((yf b).getD j 0)) 2 j rfl yg sz131 rfl rfl rfl (by first|rfl|assumption|(simp;omega)|omega) rfl rfl (gD (d:=0) om) (fun b7 o8 hok9=> ?_)
   replace hok9:=zE.1 hok9
   refine e_ru (zA (j:=0) 0 ty131 rfl rfl rfl rfl)<|e_p (zh rfl)<|e_p (zh rfl)<|zk<|zf<|zj<|zc<|e_mv rfl<|e_mv rfl<|e_mv rfl<|e_p (zI (z:=(((i+j):Nat):Int)) rfl rfl (w64 om))<|e_p (zja (j:=(i+j)) yg sz131 rfl rfl rfl om)<|r_vl rfl rfl (zra 0 (i+j) rfl ty131 rfl rfl (gD (d:=0) om) rfl) (fun _ hok10=> ?_)
   replace hok10:=zE.1 hok10
   refine e_p (zH (z:=(os2.getD (i+j) 0)) rfl (by rw [yh];rfl) yj (wu64 om))<|e_mv rfl<|e_p (zH (z:=((yf a).getD i 0)) rfl (by rw [yh];rfl) yj (wu64 om))<|e_mv rfl<|e_p (zH (z:=((yf b).getD j 0)) rfl (by rw [yh];rfl) yj (wu64 om))<|e_p (zGa (z:=(((yf a).getD i 0)*((yf b).getD j 0))) rfl rfl (wu64 om))<|e_p (zI (z:=((os2.getD (i+j) 0)+(((yf a).getD i 0)*((yf b).getD j 0)))) rfl rfl (wu64 om))<|e_mv rfl<|e_p (zI (z:=(((os2.getD (i+j) 0)+(((yf a).getD i 0)*((yf b).getD j 0)))+cy)) rfl rfl (wu64 om))<|e_p (zh rfl)<|zk<|zf<|zc<|e_mv rfl<|e_mv rfl<|e_mv rfl<|e_p (zI (z:=(((i+j):Nat):Int)) rfl rfl (w64 om))<|e_mv rfl<|e_p (zeb (z:=((((os2.getD (i+j) 0)+(((yf a).getD i 0)*((yf b).getD j 0)))+cy)%1000000000)) rfl rfl om (remN om om))<|e_p (zH (z:=((((os2.getD (i+j) 0)+(((yf a).getD i 0)*((yf b).getD j 0)))+cy)%1000000000)) rfl (by rw [yj];rfl) yh (wu32 om))<|e_mv rfl<|e_p (zdb (z:=((((os2.getD (i+j) 0)+(((yf a).getD i 0)*((yf b).getD j 0)))+cy) / 1000000000)) rfl rfl om (by rw [quoN (z:=((((os2.getD (i+j) 0)+(((yf a).getD i 0)*((yf b).getD j 0)))+cy) / 1000000000)) om om];exact wu64 om))<|e_p (zja (j:=(i+j)) yg sz131 rfl rfl rfl om)<|zWa 0 rfl rfl rfl (zha (j:=(i+j)) (x0:=((((os2.getD (i+j) 0)+(((yf a).getD i 0)*((yf b).getD j 0)))+cy)%1000000000)) (γ0:=()) rfl rfl (by first|omega|(rw [List.length_map];omega)|(simp only [List.length_set];omega)|(simp;done)|(simp;omega)) rfl rfl sz131 (fun _ _=>by exact zE.2 om)) (fun _=> .z) (fun _ _=> ?_)
   refine e_p (zh rfl)<|zk<|zK<|zf<|zc<|e_p (zI (z:=(((j+1):Nat):Int)) rfl rfl (w64 om))<|e_mv rfl<|zk<|zwa ((j+1),os2.set (i+j) ((os2.getD (i+j) 0+(yf a).getD i 0*(yf b).getD j 0+cy)%1000000000),(os2.getD (i+j) 0+(yf a).getD i 0*(yf b).getD j 0+cy) / 1000000000) (show (j+1)≤(yf b).length∧(os2.set (i+j) ((os2.getD (i+j) 0+(yf a).getD i 0*(yf b).getD j 0+cy)%1000000000)).length=(yf a).length+(yf b).length∧yO (os2.set (i+j) ((os2.getD (i+j) 0+(yf a).getD i 0*(yf b).getD j 0+cy)%1000000000))∧0≤((os2.getD (i+j) 0+(yf a).getD i 0*(yf b).getD j 0+cy) / 1000000000)∧((os2.getD (i+j) 0+(yf a).getD i 0*(yf b).getD j 0+cy) / 1000000000)<1000000000∧(∀k,i+(yf b).length≤k→(os2.set (i+j) ((os2.getD (i+j) 0+(yf a).getD i 0*(yf b).getD j 0+cy)%1000000000)).getD k 0=0)∧yk (os2.set (i+j) ((os2.getD (i+j) 0+(yf a).getD i 0*(yf b).getD j 0+cy)%1000000000))+yJ (i+(j+1))*((os2.getD (i+j) 0+(yf a).getD i 0*(yf b).getD j 0+cy) / 1000000000)=yk ((yf a).take i)*yk (yf b)+yJ i*(yf a).getD i 0*yk ((yf b).take (j+1)) from by exact ⟨by omega,by simpa using hol2,Big.okL_set hok2 om om,by omega,by omega,fun k hk=>by rw [Big.getD_set_ne om];exact hz2 k om,Big.mul_step hv2 om om⟩) (by show (yf b).length - (j+1)<(yf b).length - j;omega) ((.e rfl (by first|rfl|(congr 1;omega)|simp_all) (.of rfl)):SubM _ _) (ho:=((.e (i:=0) rfl (by first|rfl|(congr 1;omega)|simp_all) .n):PickO _ _ _)) ((.of [1,2,3] rfl):SelR _ _ _)
  ·
   have hjb:j=(yf b).length:=by omega
   subst hjb
   have hv3:=hv2
   refine zla<|zn<|zn<|zC<|zf<|zc<|e_mv rfl<|e_mv rfl<|e_mv rfl<|e_p (zea yg rfl)<|e_p (zI (z:=(((i+((yf b).length)):Nat):Int)) rfl rfl (w64 om))<|e_mv rfl<|e_p (zH (z:=cy) rfl (by rw [yj];rfl) yh (wu32 om))<|e_p (zja (j:=(i+((yf b).length))) yg sz131 rfl rfl rfl om)<|zWa 0 rfl rfl rfl (zha (j:=(i+((yf b).length))) (x0:=cy) (γ0:=()) rfl rfl (by first|omega|(rw [List.length_map];omega)|(simp only [List.length_set];omega)|(simp;done)|(simp;omega)) rfl rfl sz131 (fun _ _=>by exact zE.2 om)) (fun _=> .z) (fun _ _=> ?_)
   refine zk<|zK<|zf<|zc<|e_p (zI (z:=(((i+1):Nat):Int)) rfl rfl (w64 om))<|e_mv rfl<|zk<|zwa ((i+1),os2.set (i+(yf b).length) cy) (show (i+1)≤(yf a).length∧(os2.set (i+(yf b).length) cy).length=(yf a).length+(yf b).length∧yO (os2.set (i+(yf b).length) cy)∧(∀k,(i+1)+(yf b).length≤k→(os2.set (i+(yf b).length) cy).getD k 0=0)∧yk (os2.set (i+(yf b).length) cy)=yk ((yf a).take (i+1))*yk (yf b) from by exact ⟨by omega,by simpa using hol2,Big.okL_set hok2 om om,fun k hk=>by rw [Big.getD_set_ne om];exact hz2 k om,Big.mul_round hv3 om (hz2 _ (Nat.le_refl _))⟩) (by show (yf a).length - (i+1)<(yf a).length - i;omega) ((.of rfl):SubM _ _) (ho:=((.e (i:=0) rfl (by first|rfl|(congr 1;omega)|simp_all) .n):PickO _ _ _)) ((.of [1,2] rfl):SelR _ _ _)
 ·
  have hia:i=(yf a).length:=by omega
  have hfin:yu os=yf (a*b):=Big.trimL_of hok (by rw [hv,hia,List.take_length,yC,yC,Int.natCast_mul])
  refine zla<|zn<|zn<|zC<|zf<|zj<|zc<|e_mv rfl<|zFf (A:=[rowA 131 (rI .u32) (some ⟨b1,0,none⟩) (((yf a).length)+((yf b).length)) os]) (F:=[]) (first:=[]) (cap:=[]) rfl rfl rfl (.c rfl .n) ce135 (zTe (p:=some ⟨b1,0,none⟩) (n:=(((yf a).length)+((yf b).length))) (cap:=(((yf a).length)+((yf b).length))) (l:=os) (hn:=cbb)) (.n) ?_
  rintro ⟨⟩ -
  dsimp only [aq,nq,cq]
  refine e_p (zh rfl)<|zk<|zf<|zR ?_
  have e11:yu os=yf (a*b):=by exact hfin
  rw [e11]
  exact zL Tryz.results121 ((some ⟨b1,0,none⟩),(((yf a).length)+((yf b).length))) trivial (zD rfl) rfl (ho:=((.c (i:=0) rfl .n):PickO _ _ _)) (.n:SelR _ _ _)
end Go.Proofs.YtjeahiahjgifgaaGreatDoor.Sp
namespace Go.Proofs.YtjeahiahjgifgaaGreatDoor.Sp
open Go
set_option linter.unusedVariables false
set_option maxRecDepth 100000
set_option maxHeartbeats 8000000
theorem ztf {a:Nat} {b:Nat} {p1:Option Addr} {c1:Nat} {p2:Option Addr} {c2:Nat} (hb1:(yf a).length≤1099511627776) (hb2:(yf b).length≤1099511627776) (hb3:2≤(yf b).length) (hab:b≤a):Con yl 140 [.slice p1 ((yf a).length) c1,.slice p2 ((yf b).length) c2] [] [slF (rI .u32) p1 c1 (yf a),slF (rI .u32) p2 c2 (yf b)] (Y:=(Option Addr)×Nat×(Option Addr)×Nat) (fun y=>True) (fun y=> .tuple #[.slice (y.1) ((yf (a / b)).length) (y.2.1),.slice (y.2.2.1) ((yf (a%b)).length) (y.2.2.2)]) (fun y=>[]) (fun y=>[slF (rI .u32) (y.1) (y.2.1) (yf (a / b)),slF (rI .u32) (y.2.2.1) (y.2.2.2) (yf (a%b))]):=by
 refine zx Tryz.func140 rfl rfl rfl (fun c=> ?_)
 show RunC _ _ _ _ _ [(0,.slice p1 ((yf a).length) c1),(1,.slice p2 ((yf b).length) c2)] [] [slF (rI .u32) p1 c1 (yf a),slF (rI .u32) p2 c2 (yf b)]
 refine zpa 0 rfl (fun hL0=> ?_)
 refine zpa 1 rfl (fun hL1=> ?_)
 have hob:=yv b
 have htop:=yr hob ((yf b).length - 1)
 have hdt:=Big.digs_top (b:=b) (n:=(yf b).length - 1) om
 have hab2:=yF hab
 have hq1:0≤1000000000 / ((yf b).getD ((yf b).length - 1) 0+1):=Int.ediv_nonneg om om
 have hq2:1000000000 / ((yf b).getD ((yf b).length - 1) 0+1)≤500000000:=Int.ediv_le_of_le_mul om om
 refine zj<|zc<|e_p (zh rfl)<|e_p (zh rfl)<|zk<|zf<|zj<|zc<|e_mv rfl<|e_mv rfl<|e_p (zea yg rfl)<|e_p (zma (z:=((((yf b).length - 1):Nat):Int)) rfl rfl (w64 om))<|zP (x0:=((yf b).getD ((yf b).length - 1) 0)) 1 ((yf b).length - 1) rfl yg sz131 rfl rfl rfl (by first|rfl|assumption|(simp;done)|omega) rfl rfl (gD (d:=0) om) (fun b1 o2 hok3=> ?_)
 replace hok3:=zE.1 hok3
 refine e_ru (zA (j:=0) 0 ty131 rfl rfl rfl rfl)<|e_p (zH (z:=((yf b).getD ((yf b).length - 1) 0)) rfl (by rw [yh];rfl) yj (wu64 om))<|e_p (zI (z:=(((yf b).getD ((yf b).length - 1) 0)+1)) rfl rfl (wu64 om))<|e_p (zdb (z:=(1000000000 / (((yf b).getD ((yf b).length - 1) 0)+1))) rfl rfl om (by rw [quoN (z:=(1000000000 / (((yf b).getD ((yf b).length - 1) 0)+1))) om om];exact wu64 om))<|e_p (zH (z:=(1000000000 / (((yf b).getD ((yf b).length - 1) 0)+1))) rfl (by rw [yj];rfl) yh (wu32 om))<|e_p (zh rfl)<|zk<|zf<|zj ?_
 obtain ⟨s,hs⟩:∃s:Nat,s=(1000000000 / ((yf b).getD ((yf b).length - 1) 0+1)).toNat:=⟨_,rfl⟩
 obtain ⟨hs1,hs2,hs3⟩:=Big.scale_len (n:=(yf b).length - 1) om hs
 have hsd:=Big.digs_one hs1 (by omega:s<1000000000)
 have hsl:(yf s).length=1:=by rw [hsd];rfl
 have e4:((1000000000 / (((yf b).getD ((yf b).length - 1) 0)+1)):Int)=((s:Nat):Int):=by omega
 rw [e4]
 refine zc<|e_mv rfl<|e_mv rfl<|zJa rfl rfl (zQ (enc:=fun z:Int=>[.int .u32 z]) (ok:=InK .u32) (h1:=fun _=>rfl) (h2:=fun _=>rfl) (k:=1) yg inf131 rfl dd dd dd (.c (x:=((s:Nat):Int)) rfl rfl (fun _ _=>by exact zE.2 om) .n)) (fun b5 _=> ?_)
 refine zqa 0 rfl .z ?_
 have e6:[((s:Nat):Int)]=yf s:=by exact hsd.symm
 rw [e6]
 have e7:(.slice (some ⟨b5,0,none⟩) 1 1:Value)= .slice (some ⟨b5,0,none⟩) ((yf s).length) 1:=by rw [hsl]
 rw [e7]
 refine zG rfl rfl (.c rfl (.c rfl .n)) ce121 (zxe (a:=a) (b:=s) (p1:=p1) (c1:=c1) (p2:=some ⟨b5,0,none⟩) (c2:=1) (hb1:=ass) (hb2:=cbb)) (.c (j:=2) rfl (.c (j:=0) rfl .n)) ?_
 rintro ⟨p38,c39⟩ -
 dsimp only [aq,nq,cq]
 refine e_p (zh rfl)<|zk<|zf<|zj<|zc<|e_mv rfl<|e_mv rfl<|zJa rfl rfl (zQ (enc:=fun z:Int=>[.int .u32 z]) (ok:=InK .u32) (h1:=fun _=>rfl) (h2:=fun _=>rfl) (k:=1) yg inf131 rfl dd dd dd (.c (x:=((s:Nat):Int)) rfl rfl (fun _ _=>by exact zE.2 om) .n)) (fun b10 _=> ?_)
 refine zqa 0 rfl .z ?_
 have e11:[((s:Nat):Int)]=yf s:=by exact hsd.symm
 rw [e11]
 have e12:(.slice (some ⟨b10,0,none⟩) 1 1:Value)= .slice (some ⟨b10,0,none⟩) ((yf s).length) 1:=by rw [hsl]
 rw [e12]
 refine zG rfl rfl (.c rfl (.c rfl .n)) ce121 (zKd (a:=b) (b:=s) (p1:=p2) (c1:=c2) (p2:=some ⟨b10,0,none⟩) (c2:=1) (hb1:=ass) (hb2:=cbb)) (.c (j:=4) rfl (.c (j:=0) rfl .n)) ?_
 rintro ⟨p313,c314⟩ -
 dsimp only [aq,nq,cq]
 refine e_p (zh rfl)<|zk<|zf<|zj ?_
 obtain ⟨A,hA⟩:∃z,z=a*s:=⟨_,rfl⟩
 rw [← hA]
 obtain ⟨V,hV⟩:∃z,z=b*s:=⟨_,rfl⟩
 rw [← hV]
 have hAl:(yf a).length≤(yf A).length:=by rw [hA];exact Big.len_mul_ge hs1
 have hAl2:(yf A).length≤(yf a).length+1:=by have h8:=Big.len_mul_le a s;rw [hsl] at h8;rw [hA];exact h8
 obtain ⟨m,hm⟩:∃z,(yf V).length=z+2:=⟨(yf b).length - 2,by rw [hV,hs3];omega⟩
 have hmb:(yf b).length=m+2:=by rw [hV,hs3] at hm;omega
 have e15:(yf V).length=(m+2):=by exact hm
 rw [e15]
 refine zc<|e_mv rfl<|e_p (zea yg rfl)<|e_p (zh rfl)<|zk<|zf<|zj<|zc<|e_mv rfl<|zJa rfl rfl (zQ (enc:=fun z:Int=>[.int .u32 z]) (ok:=InK .u32) (h1:=fun _=>rfl) (h2:=fun _=>rfl) (k:=1) yg inf131 rfl dd dd dd (.c (x:=0) rfl rfl (fun _ _=>by exact zE.2 om) .n)) (fun b16 _=> ?_)
 refine zqa 0 rfl .z<|zWa 2 rfl rfl rfl (zNa 0 rfl yg inf131 dd rfl rfl (by first|rfl|assumption|(simp;done)|omega) rfl (by first|rfl|assumption|(simp;done)|omega) om om) (fun _=>(.s (.s .z))) ?_
 rintro ⟨p17,c18⟩ -
 dsimp only [aq,nq,cq]
 refine e_p (zh rfl)<|zk<|zf<|zj<|zj<|zc<|e_mv rfl<|e_p (zea yg rfl)<|e_mv rfl<|e_p (zea yg rfl)<|e_p (zIc rfl rfl)<|zk<|zf<|zT rfl (fun h19=> ?_) (fun h19=> ?_)
 ·
  exact absurd ‹_› om
 ·
  refine zB<|zf<|zj ?_
  obtain ⟨M,hM⟩:∃z,z=((yf A).length)+1:=⟨_,rfl⟩
  rw [← hM]
  refine zc<|e_mv rfl<|e_p (zea yg rfl)<|e_mv rfl<|e_p (zma (z:=(((M - (m+2)):Nat):Int)) rfl rfl (w64 om))<|zJa rfl rfl (zFb (r:=rI .u32) (k:=(M - (m+2))) (x0:=0) (γ0:=()) yg inf131 rfl rfl rfl rfl om om rfl (fun _ _=>by exact zE.2 dd) dd) (fun b20 _=> ?_)
  refine e_p (zh rfl)<|zk<|zf<|zj<|zj ?_
  have hMl:m+3≤M:=by omega
  have hLg:yP M (m+2) ((A:Nat):Int) ((V:Nat):Int) (M - (m+2)) (yf A++[0]) []:=yP.start (Big.okL_snoc (yv A) dd dd) (by simp [hM]) (by rw [Big.valL_snoc,yC];simp) hm om (by rw [Big.valL_snoc,yC,hM,Nat.add_sub_cancel];simpa using Big.digs_lt A) om
  refine zc<|e_mv rfl<|e_p (zea yg rfl)<|e_mv rfl<|e_p (zma (z:=(((M:Nat):Int) - (((m+2):Nat):Int))) rfl rfl (w64 om))<|e_p (zma (z:=((((M:Nat):Int) - (((m+2):Nat):Int)) - 1)) rfl rfl (w64 om))<|e_p (zh rfl)<|zk<|zf<|zu<|zza (X:=Nat×(List Int)×(List Int)) (fun x:Nat×(List Int)×(List Int)=>yP M (m+2) ((A:Nat):Int) ((V:Nat):Int) x.1 x.2.1 x.2.2) (fun x=>[(10,yc yd (((x.1:Nat):Int) - 1)),(4,.slice (some ⟨b20,0,none⟩) (M - (m+2)) (M - (m+2))),(7,.slice p17 M c18),(9,yc yd (((m+2):Nat):Int)),(8,.slice p313 (m+2) c314),(6,.int .u32 ((s:Nat):Int)),(5,.slice none 0 0)]) (fun x=>[rowA 131 (rI .u32) (some ⟨b20,0,none⟩) (M - (m+2)) (List.replicate x.1 0++x.2.2),rowA 131 (rI .u32) p17 c18 (x.2.1)]) (fun x=>[slF (rI .u32) (some ⟨b16,0,none⟩) 1 ([0]),slF (rI .u32) p313 c314 (yf V),slF (rI .u32) (some ⟨b10,0,none⟩) 1 (yf s),slF (rI .u32) (some ⟨b5,0,none⟩) 1 (yf s),atF b1 o2 [.int .u32 ((yf b).getD ((yf b).length - 1) 0)],slF (rI .u32) p1 c1 (yf a),slF (rI .u32) p2 c2 (yf b)]) (fun x:Nat×(List Int)×(List Int)=>x.1) ((M - (m+2)),(yf A++[0]),([]:List Int)) (show yP M (m+2) ((A:Nat):Int) ((V:Nat):Int) (M - (m+2)) (yf A++[0]) ([]:List Int) from by exact hLg) ((.e rfl (congrArg (Value.int .i64) om) (.of rfl)):SubM _ _) (ho:=((.e (i:=0) rfl (by simp) (.e (i:=2) rfl (by simp) .n)):PickO _ _ _)) ((.of [0,1,2,3,4,5,6] rfl):SelR _ _ _) ?_
  rintro ⟨jj,u,qs⟩ hI
  replace hI:yP M (m+2) ((A:Nat):Int) ((V:Nat):Int) jj u qs:=hI
  try dsimp only
  refine zj<|zj<|zc<|e_mv rfl<|e_p (zpb rfl rfl)<|zk<|zf<|zT rfl (fun hj=> ?_) (fun hj=> ?_)
  ·
   obtain ⟨j,rfl⟩:∃j,jj=j+1:=⟨jj - 1,by omega⟩
   have e21:(((((j+1):Nat):Int) - 1):Int)=((j:Nat):Int):=by omega
   rw [e21]
   have hjM:=hI.jle
   have hul:=hI.ul
   have hT:=hI.tp hm
   have hu2:=hT.a2
   have hu1:=hT.a1
   have hu0:=hT.a0
   have hvt1:=hT.vt1
   have hvt2:=hT.vt2
   have hvs0:=hT.vs0
   have hvs1:=hT.vs1
   have hgst:=hT.start
   have hgl0:=Big.Gs.le hT hgst
   have hg00:=hgst.g0
   have hg01:=hgst.r0
   have hrlt:=Int.emod_lt_of_pos ((u.getD (j+(m+2)) 0)*1000000000+(u.getD (j+(m+1)) 0)) (show 0<((yf V).getD (m+1) 0) by omega)
   refine zB<|zf<|zj<|zu<|zj<|zO (OW:=[]) (O:=[rowA 131 (rI .u32) (some ⟨b20,0,none⟩) (M - (m+2)) (List.replicate (j+1) 0++qs),rowA 131 (rI .u32) p17 c18 u]) 100000 mixed (.then (.block (.then (.then (.block (.then .ret)))))) kr<|e_dm 0 rfl rfl rfl<|e_dm 1 rfl rfl rfl<|e_dm 2 rfl rfl rfl<|e_pv 3 rfl rfl (zI (z:=(((j+(m+2)):Nat):Int)) rfl rfl (w64 om))<|e_dm 7 rfl rfl rfl<|e_dm 8 rfl rfl rfl<|e_dm 9 rfl rfl rfl<|e_pv 10 rfl rfl (zI (z:=(((j+(m+2)):Nat):Int)) rfl rfl (w64 om))<|e_pv 11 rfl rfl (zma (z:=(((j+(m+1)):Nat):Int)) rfl rfl (w64 om))<|e_u 12 rfl rfl (zxa 1 (j+(m+1)) rfl yg sz131 rfl (by first|rfl|assumption|(simp;done)|omega) rfl rfl om)<|d_vl 13 rfl rfl kr kr rfl rfl (zra 1 (j+(m+1)) rfl ty131 rfl rfl (gD (d:=0) om) rfl) (fun _ hok22=> ?_)
   replace hok22:=zE.1 hok22
   refine e_pv 14 rfl rfl (zH (z:=(u.getD (j+(m+1)) 0)) rfl (by rw [yh];rfl) yj (wu64 om))<|e_one 4 (znf 1 rfl rfl rfl rfl rfl (.c rfl (.c rfl .n)) ce143 (zke (p:=p17) (n:=M) (cap:=c18) (l:=u) (i:=(j+(m+2))) (hn:=cbb) (hi:=cbb)) (.c (j:=0) rfl .n) ?_)
   refine e_pv 5 rfl rfl (zH (z:=u.getD (j+(m+2)) 0) rfl (by rw [yh];rfl) yj (wu64 om))<|e_pv 6 rfl rfl (zGa (z:=(u.getD (j+(m+2)) 0*1000000000)) rfl rfl (wu64 om))<|e_pv 15 rfl rfl (zI (z:=((u.getD (j+(m+2)) 0*1000000000)+(u.getD (j+(m+1)) 0))) rfl rfl (wu64 om))<|e_pv 16 rfl rfl (zh rfl)<|zM kr<|zf<|zj<|zO (OW:=[]) (O:=[rowA 131 (rI .u32) (some ⟨b20,0,none⟩) (M - (m+2)) (List.replicate (j+1) 0++qs),rowA 131 (rI .u32) p17 c18 u]) 100000 mixed (.then (.block (.then (.then (.block (.then .ret)))))) kr<|e_dm 0 rfl rfl rfl<|e_dm 1 rfl rfl rfl<|e_dm 2 rfl rfl rfl<|e_pv 3 rfl rfl (zma (z:=(((m+1):Nat):Int)) rfl rfl (w64 om))<|zOa (x0:=((yf V).getD (m+1) 0)) 4 rfl rfl kr kr 1 (m+1) rfl yg sz131 rfl rfl rfl (by first|rfl|assumption|(simp;done)|omega) rfl rfl (gD (d:=0) om) (fun b23 o24 hok25=> ?_)
   replace hok25:=zE.1 hok25
   refine e_u 5 rfl rfl (zA (j:=0) 0 ty131 rfl rfl rfl rfl)<|e_pv 6 rfl rfl (zH (z:=((yf V).getD (m+1) 0)) rfl (by rw [yh];rfl) yj (wu64 om))<|e_pv 7 rfl rfl (zdb (z:=(((u.getD (j+(m+2)) 0*1000000000)+(u.getD (j+(m+1)) 0)) / ((yf V).getD (m+1) 0))) rfl rfl om (by rw [quoN (z:=(((u.getD (j+(m+2)) 0*1000000000)+(u.getD (j+(m+1)) 0)) / ((yf V).getD (m+1) 0))) om om];exact wu64 om))<|e_dm 8 rfl rfl rfl<|e_dm 9 rfl rfl rfl<|e_dm 10 rfl rfl rfl<|e_pv 11 rfl rfl (zma (z:=(((m+1):Nat):Int)) rfl rfl (w64 om))<|zOa (x0:=((yf V).getD (m+1) 0)) 12 rfl rfl kr kr 2 (m+1) rfl yg sz131 rfl rfl rfl (by first|rfl|assumption|(simp;done)|omega) rfl rfl (gD (d:=0) om) (fun b26 o27 hok28=> ?_)
   replace hok28:=zE.1 hok28
   refine e_u 13 rfl rfl (zA (j:=0) 0 ty131 rfl rfl rfl rfl)<|e_pv 14 rfl rfl (zH (z:=((yf V).getD (m+1) 0)) rfl (by rw [yh];rfl) yj (wu64 om))<|e_pv 15 rfl rfl (zeb (z:=(((u.getD (j+(m+2)) 0*1000000000)+(u.getD (j+(m+1)) 0))%((yf V).getD (m+1) 0))) rfl rfl om (remN om om))<|e_pv 16 rfl rfl (zh rfl)<|e_pv 17 rfl rfl (zh rfl)<|zM kr<|zf<|zIa (X:=Int) (fun x=>(0≤x∧x<1000000000)∧(yk (u.drop j))<(x+1)*(V:Int)∧x*(V:Int)<(yk (u.drop j))+(V:Int)) (fun x=>[(12,.int .u64 x),(10,yc yd ((j:Nat):Int)),(4,.slice (some ⟨b20,0,none⟩) (M - (m+2)) (M - (m+2))),(7,.slice p17 M c18),(9,yc yd (((m+2):Nat):Int)),(8,.slice p313 (m+2) c314),(6,.int .u32 ((s:Nat):Int)),(5,.slice none 0 0)]) (fun x=>[rowA 131 (rI .u32) (some ⟨b20,0,none⟩) (M - (m+2)) (List.replicate (j+1) 0++qs),rowA 131 (rI .u32) p17 c18 u]) (fun x=>[atF b26 o27 [.int .u32 ((yf V).getD (m+1) 0)],atF b23 o24 [.int .u32 ((yf V).getD (m+1) 0)],slF (rI .u32) (some ⟨b16,0,none⟩) 1 ([0]),slF (rI .u32) p313 c314 (yf V),slF (rI .u32) (some ⟨b10,0,none⟩) 1 (yf s),slF (rI .u32) (some ⟨b5,0,none⟩) 1 (yf s),atF b1 o2 [.int .u32 ((yf b).getD ((yf b).length - 1) 0)],slF (rI .u32) p1 c1 (yf a),slF (rI .u32) p2 c2 (yf b)]) ?_ ?_
   ·
    refine zu<|zza (X:=Int×Int) (fun x:Int×Int=>Big.Gs (yk (u.drop j)) (V:Int) ((yf V).getD (m+1) 0) ((u.getD (j+(m+2)) 0)*1000000000+(u.getD (j+(m+1)) 0)) x.1 x.2∧x.2<1000000000) (fun x=>[(13,.int .u64 (x.2)),(12,.int .u64 (x.1)),(10,yc yd ((j:Nat):Int)),(4,.slice (some ⟨b20,0,none⟩) (M - (m+2)) (M - (m+2))),(7,.slice p17 M c18),(9,yc yd (((m+2):Nat):Int)),(8,.slice p313 (m+2) c314),(6,.int .u32 ((s:Nat):Int)),(5,.slice none 0 0)]) (fun x=>[rowA 131 (rI .u32) (some ⟨b20,0,none⟩) (M - (m+2)) (List.replicate (j+1) 0++qs),rowA 131 (rI .u32) p17 c18 u]) (fun x=>[atF b26 o27 [.int .u32 ((yf V).getD (m+1) 0)],atF b23 o24 [.int .u32 ((yf V).getD (m+1) 0)],slF (rI .u32) (some ⟨b16,0,none⟩) 1 ([0]),slF (rI .u32) p313 c314 (yf V),slF (rI .u32) (some ⟨b10,0,none⟩) 1 (yf s),slF (rI .u32) (some ⟨b5,0,none⟩) 1 (yf s),atF b1 o2 [.int .u32 ((yf b).getD ((yf b).length - 1) 0)],slF (rI .u32) p1 c1 (yf a),slF (rI .u32) p2 c2 (yf b)]) (fun x:Int×Int=>x.1.toNat) ((((u.getD (j+(m+2)) 0*1000000000)+(u.getD (j+(m+1)) 0)) / ((yf V).getD (m+1) 0)),(((u.getD (j+(m+2)) 0*1000000000)+(u.getD (j+(m+1)) 0))%((yf V).getD (m+1) 0))) (show Big.Gs (yk (u.drop j)) (V:Int) ((yf V).getD (m+1) 0) ((u.getD (j+(m+2)) 0)*1000000000+(u.getD (j+(m+1)) 0)) (((u.getD (j+(m+2)) 0*1000000000)+(u.getD (j+(m+1)) 0)) / ((yf V).getD (m+1) 0)) (((u.getD (j+(m+2)) 0*1000000000)+(u.getD (j+(m+1)) 0))%((yf V).getD (m+1) 0))∧(((u.getD (j+(m+2)) 0*1000000000)+(u.getD (j+(m+1)) 0))%((yf V).getD (m+1) 0))<1000000000 from by exact ⟨hgst,by omega⟩) ((.of rfl):SubM _ _) (ho:=((.of [0,0] rfl):PickO _ _ _)) ((.of [0,1,2,3,4,5,6,7,8] rfl):SelR _ _ _) ?_
    rintro ⟨g,r⟩ hG
    replace hG:Big.Gs (yk (u.drop j)) (V:Int) ((yf V).getD (m+1) 0) ((u.getD (j+(m+2)) 0)*1000000000+(u.getD (j+(m+1)) 0)) g r∧r<1000000000:=hG
    try dsimp only
    obtain ⟨hGs,hr9⟩:=hG
    have hgl:=Big.Gs.le hT hGs
    have hg0:=hGs.g0
    have hr0:=hGs.r0
    have hgm:=Big.mul_lim3 hg0 hgl.1 hvs0 hvs1
    refine zj<|zIa (X:=Unit) (fun x=>True) (fun x=>[(123,.bool (decide ((1000000000≤g)∨(((r*1000000000)+(u.getD (j+m) 0))<(g*((yf V).getD m 0)))))),(13,.int .u64 r),(12,.int .u64 g),(10,yc yd ((j:Nat):Int)),(4,.slice (some ⟨b20,0,none⟩) (M - (m+2)) (M - (m+2))),(7,.slice p17 M c18),(9,yc yd (((m+2):Nat):Int)),(8,.slice p313 (m+2) c314),(6,.int .u32 ((s:Nat):Int)),(5,.slice none 0 0)]) (fun x=>[rowA 131 (rI .u32) (some ⟨b20,0,none⟩) (M - (m+2)) (List.replicate (j+1) 0++qs),rowA 131 (rI .u32) p17 c18 u]) (fun x=>[atF b26 o27 [.int .u32 ((yf V).getD (m+1) 0)],atF b23 o24 [.int .u32 ((yf V).getD (m+1) 0)],slF (rI .u32) (some ⟨b16,0,none⟩) 1 ([0]),slF (rI .u32) p313 c314 (yf V),slF (rI .u32) (some ⟨b10,0,none⟩) 1 (yf s),slF (rI .u32) (some ⟨b5,0,none⟩) 1 (yf s),atF b1 o2 [.int .u32 ((yf b).getD ((yf b).length - 1) 0)],slF (rI .u32) p1 c1 (yf a),slF (rI .u32) p2 c2 (yf b)]) ?_ ?_
    ·
     refine zO (OW:=[]) (O:=[rowA 131 (rI .u32) (some ⟨b20,0,none⟩) (M - (m+2)) (List.replicate (j+1) 0++qs),rowA 131 (rI .u32) p17 c18 u]) 100000 mixed (.then (.then (.then (.block (.then (.block (.then (.then (.block (.then .ret)))))))))) kr<|e_dm 0 rfl rfl rfl<|e_pv 1 rfl rfl (zpb rfl rfl)<|zie 2 rfl rfl kr kr rfl rfl (zva rfl) (fun hge=> ?_) (fun hge=> ?_)
     ·
      refine e_skip 3 rfl rfl<|e_skip 4 rfl rfl<|e_skip 5 rfl rfl<|e_skip 6 rfl rfl<|e_skip 7 rfl rfl<|e_skip 8 rfl rfl<|e_skip 9 rfl rfl<|e_skip 10 rfl rfl<|e_skip 11 rfl rfl<|e_skip 12 rfl rfl<|e_skip 13 rfl rfl<|e_skip 14 rfl rfl<|e_skip 15 rfl rfl<|e_skip 16 rfl rfl<|e_skip 17 rfl rfl<|e_skip 18 rfl rfl<|e_skip 19 rfl rfl<|e_skip 20 rfl rfl<|e_skip 21 rfl rfl<|e_skip 22 rfl rfl<|e_pv 23 rfl rfl (zU rfl rfl)<|zM kr ?_
      exact zna () (show True from by first|trivial|omega|simp_all) ((.e rfl (congrArg Value.bool (by exact (decide_eq_true (.inl hge)).symm)) (.of rfl)):SubM _ _) (ho:=((.of [0,0] rfl):PickO _ _ _)) ((.of [0,1,2,3,4,5,6,7,8] rfl):SelR _ _ _)
     ·
      refine e_dm 3 rfl rfl rfl<|e_dm 4 rfl rfl rfl<|e_dm 5 rfl rfl rfl<|e_pv 6 rfl rfl (zma (z:=((m:Nat):Int)) rfl rfl (w64 om))<|zOa (x0:=((yf V).getD m 0)) 7 rfl rfl kr kr 3 m rfl yg sz131 rfl rfl rfl (by first|rfl|assumption|(simp;done)|omega) rfl rfl (gD (d:=0) om) (fun b29 o30 hok31=> ?_)
      replace hok31:=zE.1 hok31
      refine e_u 8 rfl rfl (zA (j:=0) 0 ty131 rfl rfl rfl rfl)<|e_pv 9 rfl rfl (zH (z:=((yf V).getD m 0)) rfl (by rw [yh];rfl) yj (wu64 om))<|e_pv 10 rfl rfl (zGa (z:=(g*((yf V).getD m 0))) rfl rfl (wu64 om))<|e_dm 11 rfl rfl rfl<|e_pv 12 rfl rfl (zGa (z:=(r*1000000000)) rfl rfl (wu64 om))<|e_dm 13 rfl rfl rfl<|e_dm 14 rfl rfl rfl<|e_dm 15 rfl rfl rfl<|e_pv 16 rfl rfl (zI (z:=(((j+(m+2)):Nat):Int)) rfl rfl (w64 om))<|e_pv 17 rfl rfl (zma (z:=(((j+m):Nat):Int)) rfl rfl (w64 om))<|e_u 18 rfl rfl (zxa 1 (j+m) rfl yg sz131 rfl (by first|rfl|assumption|(simp;done)|omega) rfl rfl om)<|d_vl 19 rfl rfl kr kr rfl rfl (zra 1 (j+m) rfl ty131 rfl rfl (gD (d:=0) om) rfl) (fun _ hok32=> ?_)
      replace hok32:=zE.1 hok32
      refine e_pv 20 rfl rfl (zH (z:=(u.getD (j+m) 0)) rfl (by rw [yh];rfl) yj (wu64 om))<|e_pv 21 rfl rfl (zI (z:=((r*1000000000)+(u.getD (j+m) 0))) rfl rfl (wu64 om))<|e_pv 22 rfl rfl (zZa rfl rfl)<|e_pv 23 rfl rfl (zU rfl rfl)<|zM kr ?_
      exact zna () (show True from by first|trivial|omega|simp_all) ((.e rfl (congrArg Value.bool (by exact decide_eq_decide.2 ⟨fun h=> .inr h,fun h=>h.resolve_left hge⟩)) (.of rfl)):SubM _ _) (ho:=((.of [0,0] rfl):PickO _ _ _)) ((.of [1,2,3,4,5,6,7,8,9] rfl):SelR _ _ _)
    ·
     rintro ⟨⟩ -
     try dsimp only
     refine zT rfl (fun hgs=> ?_) (fun hgs=> ?_)
     ·
      have hst:=hGs.step hT hgs
      have hst1:=hst.1
      refine zB<|zf<|zu<|zj<|zc<|e_mv rfl<|e_p (zma (z:=(g - 1)) rfl rfl (wu64 om))<|e_p (zh rfl)<|zk<|zf<|zj<|zc<|e_mv rfl<|e_mv rfl<|e_mv rfl<|e_p (zma (z:=(((m+1):Nat):Int)) rfl rfl (w64 om))<|zP (x0:=((yf V).getD (m+1) 0)) 3 (m+1) rfl yg sz131 rfl rfl rfl (by first|rfl|assumption|(simp;done)|omega) rfl rfl (gD (d:=0) om) (fun b33 o34 hok35=> ?_)
      replace hok35:=zE.1 hok35
      refine e_ru (zA (j:=0) 0 ty131 rfl rfl rfl rfl)<|e_p (zH (z:=((yf V).getD (m+1) 0)) rfl (by rw [yh];rfl) yj (wu64 om))<|e_p (zI (z:=(r+((yf V).getD (m+1) 0))) rfl rfl (wu64 om))<|e_p (zh rfl)<|zk<|zf<|zj<|zc<|e_mv rfl<|e_p (zpb rfl rfl)<|zk<|zf<|zT rfl (fun hbr=> ?_) (fun hbr=> ?_)
      ·
       refine zla<|zob rfl<|zn<|zC ?_
       exact zna (g - 1) (show (0≤(g - 1)∧(g - 1)<1000000000)∧(yk (u.drop j))<((g - 1)+1)*(V:Int)∧(g - 1)*(V:Int)<(yk (u.drop j))+(V:Int) from by have hs9:=(hGs.step hT hgs).2;have hb9:=Big.Gs.broke hT hs9 hbr;exact ⟨⟨hs9.g0,hb9.1⟩,hs9.up,Big.Gs.fin hT hs9 hb9.1 hb9.2⟩) ((.of rfl):SubM _ _) (ho:=((.of [0,0] rfl):PickO _ _ _)) ((.of [1,2,3,4,5,6,7,8,9] rfl):SelR _ _ _)
      ·
       refine zB<|zK<|zwa ((g - 1),(r+((yf V).getD (m+1) 0))) (show Big.Gs (yk (u.drop j)) (V:Int) ((yf V).getD (m+1) 0) ((u.getD (j+(m+2)) 0)*1000000000+(u.getD (j+(m+1)) 0)) (g - 1) (r+((yf V).getD (m+1) 0))∧(r+((yf V).getD (m+1) 0))<1000000000 from by exact ⟨(hGs.step hT hgs).2,by omega⟩) (by have:=(hGs.step hT hgs).1;show (g - 1).toNat<g.toNat;omega) ((.of rfl):SubM _ _) (ho:=((.of [0,0] rfl):PickO _ _ _)) ((.of [1,2,3,4,5,6,7,8,9] rfl):SelR _ _ _)
     ·
      refine zla<|zn<|zn<|zC ?_
      exact zna g (show (0≤g∧g<1000000000)∧(yk (u.drop j))<(g+1)*(V:Int)∧g*(V:Int)<(yk (u.drop j))+(V:Int) from by exact ⟨⟨hg0,by omega⟩,hGs.up,Big.Gs.fin hT hGs om om⟩) ((.of rfl):SubM _ _) (ho:=((.of [0,0] rfl):PickO _ _ _)) ((.of [0,1,2,3,4,5,6,7,8] rfl):SelR _ _ _)
   ·
    rintro g hC
    replace hC:(0≤g∧g<1000000000)∧(yk (u.drop j))<(g+1)*(V:Int)∧g*(V:Int)<(yk (u.drop j))+(V:Int):=hC
    try dsimp only
    obtain ⟨⟨hg0,hg1⟩,hup,hdn⟩:=hC
    refine zj<|zc<|e_p (zh rfl)<|e_p (zh rfl)<|zk<|zf<|zj<|zj<|zc<|e_mv rfl<|e_mv rfl<|zk<|zf<|zu<|zza (X:=Nat×(List Int)×Int×Int) (fun x:Nat×(List Int)×Int×Int=>x.1≤m+2∧Big.MsI u j g (yf V) x.1 x.2.1 x.2.2.1 x.2.2.2) (fun x=>[(15,.int .u64 (x.2.2.2)),(14,yc yd (x.2.2.1)),(137,yc yd ((x.1:Nat):Int)),(136,yc yd (((m+2):Nat):Int)),(12,.int .u64 g),(10,yc yd ((j:Nat):Int)),(4,.slice (some ⟨b20,0,none⟩) (M - (m+2)) (M - (m+2))),(7,.slice p17 M c18),(9,yc yd (((m+2):Nat):Int)),(8,.slice p313 (m+2) c314),(6,.int .u32 ((s:Nat):Int)),(5,.slice none 0 0)]) (fun x=>[rowA 131 (rI .u32) (some ⟨b20,0,none⟩) (M - (m+2)) (List.replicate (j+1) 0++qs),rowA 131 (rI .u32) p17 c18 (x.2.1)]) (fun x=>[atF b26 o27 [.int .u32 ((yf V).getD (m+1) 0)],atF b23 o24 [.int .u32 ((yf V).getD (m+1) 0)],slF (rI .u32) (some ⟨b16,0,none⟩) 1 ([0]),slF (rI .u32) p313 c314 (yf V),slF (rI .u32) (some ⟨b10,0,none⟩) 1 (yf s),slF (rI .u32) (some ⟨b5,0,none⟩) 1 (yf s),atF b1 o2 [.int .u32 ((yf b).getD ((yf b).length - 1) 0)],slF (rI .u32) p1 c1 (yf a),slF (rI .u32) p2 c2 (yf b)]) (fun x:Nat×(List Int)×Int×Int=>(m+2) - x.1) (0,u,0,0) (show 0≤m+2∧Big.MsI u j g (yf V) 0 u 0 0 from by exact ⟨Nat.zero_le _,Big.MsI.start hI.uo j g _⟩) ((.c rfl (.c rfl (.e rfl (by first|rfl|(congr 1;omega)|simp_all) (.of rfl)))):SubM _ _) (ho:=((.of [0,0] rfl):PickO _ _ _)) ((.of [0,1,2,3,4,5,6,7,8] rfl):SelR _ _ _) ?_
    rintro ⟨i,w,bo,ca⟩ hMM
    replace hMM:i≤m+2∧Big.MsI u j g (yf V) i w bo ca:=hMM
    try dsimp only
    obtain ⟨hile,hM2⟩:=hMM
    have hb0:=hM2.b0
    have hb1:=hM2.b1
    have hc0:=hM2.c0
    have hc1:=hM2.c1
    have hwl:=hM2.len
    have hwo:=yr hM2.ok (j+i)
    have hvi:=yr (yv V) i
    have hca:=Big.ms_carry ⟨hg0,hg1⟩ hvi ⟨hc0,hc1⟩
    have hgx:=Int.mul_nonneg hg0 hvi.1
    refine zj<|zc<|e_p (zS rfl rfl)<|zk<|zf<|zj<|zT rfl (fun hi=> ?_) (fun hi=> ?_)
    ·
     refine zB<|zf<|zj<|zu<|zj<|zc<|e_mv rfl<|e_p (zh rfl)<|zk<|zf<|zj<|zc<|e_mv rfl<|e_mv rfl<|e_mv rfl<|zP (x0:=((yf V).getD i 0)) 3 i rfl yg sz131 rfl rfl rfl (by first|rfl|assumption|(simp;done)|omega) rfl rfl (gD (d:=0) om) (fun b36 o37 hok38=> ?_)
     replace hok38:=zE.1 hok38
     refine e_ru (zA (j:=0) 0 ty131 rfl rfl rfl rfl)<|e_p (zH (z:=((yf V).getD i 0)) rfl (by rw [yh];rfl) yj (wu64 om))<|e_p (zGa (z:=(g*((yf V).getD i 0))) rfl rfl (wu64 om))<|e_mv rfl<|e_p (zI (z:=((g*((yf V).getD i 0))+ca)) rfl rfl (wu64 om))<|e_p (zh rfl)<|zk<|zf<|zj<|zc<|e_mv rfl<|e_p (zdb (z:=(((g*((yf V).getD i 0))+ca) / 1000000000)) rfl rfl om (by rw [quoN (z:=(((g*((yf V).getD i 0))+ca) / 1000000000)) om om];exact wu64 om))<|e_p (zh rfl)<|zk<|zf<|zj<|zc<|e_mv rfl<|e_mv rfl<|e_mv rfl<|e_p (zI (z:=(((j+i):Nat):Int)) rfl rfl (w64 om))<|e_ru (zxa 1 (j+i) rfl yg sz131 rfl (by first|rfl|assumption|(simp;done)|omega) rfl rfl om)<|r_vl rfl rfl (zra 1 (j+i) rfl ty131 rfl rfl (gD (d:=0) om) rfl) (fun _ hok39=> ?_)
     replace hok39:=zE.1 hok39
     refine e_p (zH (z:=(w.getD (j+i) 0)) rfl (by rw [yh];rfl) yt (w64 om))<|e_mv rfl<|e_p (zma (z:=((w.getD (j+i) 0) - bo)) rfl rfl (w64 om))<|e_mv rfl<|e_p (zeb (z:=(((g*((yf V).getD i 0))+ca)%1000000000)) rfl rfl om (remN om om))<|e_p (zH (z:=(((g*((yf V).getD i 0))+ca)%1000000000)) rfl (by rw [yj];rfl) yt (w64 om))<|e_p (zma (z:=(((w.getD (j+i) 0) - bo) - (((g*((yf V).getD i 0))+ca)%1000000000))) rfl rfl (w64 om))<|e_p (zh rfl)<|zk<|zf<|zj<|zc<|e_p (zh rfl)<|zk<|zf<|zj<|zj<|zc<|e_mv rfl<|e_p (zS rfl rfl)<|zk<|zf<|zT rfl (fun hneg=> ?_) (fun hneg=> ?_)
     ·
      refine zc<|e_mv rfl<|e_p (zI (z:=((((w.getD (j+i) 0) - bo) - (((g*((yf V).getD i 0))+ca)%1000000000))+1000000000)) rfl rfl (w64 om))<|e_p (zh rfl)<|e_p (zh rfl)<|zk<|zf<|zc<|e_mv rfl<|e_mv rfl<|e_mv rfl<|e_p (zI (z:=(((j+i):Nat):Int)) rfl rfl (w64 om))<|e_mv rfl<|e_p (zH (z:=((((w.getD (j+i) 0) - bo) - (((g*((yf V).getD i 0))+ca)%1000000000))+1000000000)) rfl (by rw [yt];rfl) yh (wu32 om))<|e_ru (zxa 1 (j+i) rfl yg sz131 rfl (by first|rfl|assumption|(simp;done)|omega) rfl rfl om)<|zWa 1 rfl rfl rfl (zha (j:=(j+i)) (x0:=((((w.getD (j+i) 0) - bo) - (((g*((yf V).getD i 0))+ca)%1000000000))+1000000000)) (γ0:=()) rfl rfl (by first|omega|(rw [List.length_map];omega)|(simp only [List.length_set];omega)|(simp;done)|(simp;omega)) rfl rfl sz131 (fun _ _=>by exact zE.2 om)) (fun _=>(.s .z)) (fun _ _=> ?_)
      refine zk<|zK<|zf<|zc<|e_p (zI (z:=(((i+1):Nat):Int)) rfl rfl (w64 om))<|e_mv rfl<|zk<|zwa ((i+1),(w.set (j+i) ((((w.getD (j+i) 0) - bo) - (((g*((yf V).getD i 0))+ca)%1000000000))+1000000000)),1,(((g*((yf V).getD i 0))+ca) / 1000000000)) (show (i+1)≤m+2∧Big.MsI u j g (yf V) (i+1) (w.set (j+i) ((((w.getD (j+i) 0) - bo) - (((g*((yf V).getD i 0))+ca)%1000000000))+1000000000)) 1 (((g*((yf V).getD i 0))+ca) / 1000000000) from by exact ⟨by omega,hM2.step ⟨hg0,hg1⟩ (yv V) om om ⟨by omega,by omega⟩ ⟨by decide,by decide⟩⟩) (by show (m+2) - (i+1)<(m+2) - i;omega) ((.of rfl):SubM _ _) (ho:=((.of [0,0] rfl):PickO _ _ _)) ((.of [1,2,3,4,5,6,7,8,9] rfl):SelR _ _ _)
     ·
      refine zB<|zf<|zc<|e_mv rfl<|e_mv rfl<|e_mv rfl<|e_p (zI (z:=(((j+i):Nat):Int)) rfl rfl (w64 om))<|e_mv rfl<|e_p (zH (z:=(((w.getD (j+i) 0) - bo) - (((g*((yf V).getD i 0))+ca)%1000000000))) rfl (by rw [yt];rfl) yh (wu32 om))<|e_ru (zxa 1 (j+i) rfl yg sz131 rfl (by first|rfl|assumption|(simp;done)|omega) rfl rfl om)<|zWa 1 rfl rfl rfl (zha (j:=(j+i)) (x0:=(((w.getD (j+i) 0) - bo) - (((g*((yf V).getD i 0))+ca)%1000000000))) (γ0:=()) rfl rfl (by first|omega|(rw [List.length_map];omega)|(simp only [List.length_set];omega)|(simp;done)|(simp;omega)) rfl rfl sz131 (fun _ _=>by exact zE.2 om)) (fun _=>(.s .z)) (fun _ _=> ?_)
      refine zk<|zK<|zf<|zc<|e_p (zI (z:=(((i+1):Nat):Int)) rfl rfl (w64 om))<|e_mv rfl<|zk<|zwa ((i+1),(w.set (j+i) (((w.getD (j+i) 0) - bo) - (((g*((yf V).getD i 0))+ca)%1000000000))),0,(((g*((yf V).getD i 0))+ca) / 1000000000)) (show (i+1)≤m+2∧Big.MsI u j g (yf V) (i+1) (w.set (j+i) (((w.getD (j+i) 0) - bo) - (((g*((yf V).getD i 0))+ca)%1000000000))) 0 (((g*((yf V).getD i 0))+ca) / 1000000000) from by exact ⟨by omega,hM2.step ⟨hg0,hg1⟩ (yv V) om om ⟨by omega,by omega⟩ ⟨by decide,by decide⟩⟩) (by show (m+2) - (i+1)<(m+2) - i;omega) ((.of rfl):SubM _ _) (ho:=((.of [0,0] rfl):PickO _ _ _)) ((.of [1,2,3,4,5,6,7,8,9] rfl):SelR _ _ _)
    ·
     have hM3:Big.MsI u j g (yf V) (m+2) w bo ca:=by have h8:i=m+2:=om;exact h8 ▸ hM2
     have hwo2:=yr hM2.ok (j+(m+2))
     refine zla<|zn<|zn<|zC<|zf<|zj<|zc<|e_mv rfl<|e_mv rfl<|e_mv rfl<|e_p (zI (z:=(((j+(m+2)):Nat):Int)) rfl rfl (w64 om))<|e_ru (zxa 1 (j+(m+2)) rfl yg sz131 rfl (by first|rfl|assumption|(simp;done)|omega) rfl rfl om)<|r_vl rfl rfl (zra 1 (j+(m+2)) rfl ty131 rfl rfl (gD (d:=0) om) rfl) (fun _ hok40=> ?_)
     replace hok40:=zE.1 hok40
     refine e_p (zH (z:=(w.getD (j+(m+2)) 0)) rfl (by rw [yh];rfl) yt (w64 om))<|e_mv rfl<|e_p (zma (z:=((w.getD (j+(m+2)) 0) - bo)) rfl rfl (w64 om))<|e_mv rfl<|e_p (zH (z:=ca) rfl (by rw [yj];rfl) yt (w64 om))<|e_p (zma (z:=(((w.getD (j+(m+2)) 0) - bo) - ca)) rfl rfl (w64 om))<|e_p (zh rfl)<|zk<|zf<|zj<|zj<|zc<|e_mv rfl<|e_p (zS rfl rfl)<|zk<|zf<|zT rfl (fun hd=> ?_) (fun hd=> ?_)
     ·
      have hg9:=hI.neg1 hM3 hm hd
      refine zj<|zc<|e_mv rfl<|e_mv rfl<|e_mv rfl<|e_p (zI (z:=(((j+(m+2)):Nat):Int)) rfl rfl (w64 om))<|e_mv rfl<|e_p (zI (z:=((((w.getD (j+(m+2)) 0) - bo) - ca)+1000000000)) rfl rfl (w64 om))<|e_p (zH (z:=((((w.getD (j+(m+2)) 0) - bo) - ca)+1000000000)) rfl (by rw [yt];rfl) yh (wu32 om))<|e_ru (zxa 1 (j+(m+2)) rfl yg sz131 rfl (by first|rfl|assumption|(simp;done)|omega) rfl rfl om)<|zWa 1 rfl rfl rfl (zha (j:=(j+(m+2))) (x0:=((((w.getD (j+(m+2)) 0) - bo) - ca)+1000000000)) (γ0:=()) rfl rfl (by first|omega|(rw [List.length_map];omega)|(simp only [List.length_set];omega)|(simp;done)|(simp;omega)) rfl rfl sz131 (fun _ _=>by exact zE.2 om)) (fun _=>(.s .z)) (fun _ _=> ?_)
      refine zk<|zf<|zj<|zc<|e_mv rfl<|e_p (zma (z:=(g - 1)) rfl rfl (wu64 om))<|e_p (zh rfl)<|zk<|zf<|zj<|zc<|e_p (zh rfl)<|zk<|zf<|zj<|zj<|zc<|e_mv rfl<|e_mv rfl<|zk<|zf<|zu<|zza (X:=Nat×(List Int)×Int) (fun x:Nat×(List Int)×Int=>x.1≤m+2∧Big.AbI (w.set (j+(m+2)) ((((w.getD (j+(m+2)) 0) - bo) - ca)+1000000000)) j (yf V) x.1 x.2.1 x.2.2) (fun x=>[(20,.int .u32 (x.2.2)),(201,yc yd ((x.1:Nat):Int)),(200,yc yd (((m+2):Nat):Int)),(12,.int .u64 (g - 1)),(10,yc yd ((j:Nat):Int)),(4,.slice (some ⟨b20,0,none⟩) (M - (m+2)) (M - (m+2))),(7,.slice p17 M c18),(9,yc yd (((m+2):Nat):Int)),(8,.slice p313 (m+2) c314),(6,.int .u32 ((s:Nat):Int)),(5,.slice none 0 0)]) (fun x=>[rowA 131 (rI .u32) (some ⟨b20,0,none⟩) (M - (m+2)) (List.replicate (j+1) 0++qs),rowA 131 (rI .u32) p17 c18 (x.2.1)]) (fun x=>[atF b26 o27 [.int .u32 ((yf V).getD (m+1) 0)],atF b23 o24 [.int .u32 ((yf V).getD (m+1) 0)],slF (rI .u32) (some ⟨b16,0,none⟩) 1 ([0]),slF (rI .u32) p313 c314 (yf V),slF (rI .u32) (some ⟨b10,0,none⟩) 1 (yf s),slF (rI .u32) (some ⟨b5,0,none⟩) 1 (yf s),atF b1 o2 [.int .u32 ((yf b).getD ((yf b).length - 1) 0)],slF (rI .u32) p1 c1 (yf a),slF (rI .u32) p2 c2 (yf b)]) (fun x:Nat×(List Int)×Int=>(m+2) - x.1) (0,(w.set (j+(m+2)) ((((w.getD (j+(m+2)) 0) - bo) - ca)+1000000000)),0) (show 0≤m+2∧Big.AbI (w.set (j+(m+2)) ((((w.getD (j+(m+2)) 0) - bo) - ca)+1000000000)) j (yf V) 0 (w.set (j+(m+2)) ((((w.getD (j+(m+2)) 0) - bo) - ca)+1000000000)) 0 from by exact ⟨Nat.zero_le _,Big.AbI.start (Big.okL_set hM2.ok om om) _ _⟩) ((.c rfl (.e rfl (by first|rfl|(congr 1;omega)|simp_all) (.of rfl))):SubM _ _) (ho:=((.c (i:=0) rfl (.e (i:=0) rfl (by first|rfl|(congr 1;omega)|simp_all) .n)):PickO _ _ _)) ((.of [0,1,2,3,4,5,6,7,8] rfl):SelR _ _ _) ?_
      rintro ⟨i2,xs,cc⟩ hAA
      replace hAA:i2≤m+2∧Big.AbI (w.set (j+(m+2)) ((((w.getD (j+(m+2)) 0) - bo) - ca)+1000000000)) j (yf V) i2 xs cc:=hAA
      try dsimp only
      obtain ⟨hile2,hA2⟩:=hAA
      have hk0:=hA2.c0
      have hk1:=hA2.c1
      have hxl:=hA2.len
      rw [List.length_set] at hxl
      have hxo:=yr hA2.ok (j+i2)
      have hvi2:=yr (yv V) i2
      refine zj<|zc<|e_p (zS rfl rfl)<|zk<|zf<|zj<|zT rfl (fun hi=> ?_) (fun hi=> ?_)
      ·
       refine zB<|zf<|zj<|zu<|zj<|zc<|e_mv rfl<|e_p (zh rfl)<|zk<|zf<|zj<|zO (OW:=[]) (O:=[rowA 131 (rI .u32) (some ⟨b20,0,none⟩) (M - (m+2)) (List.replicate (j+1) 0++qs),rowA 131 (rI .u32) p17 c18 xs]) 100000 mixed (.then (.block (.then (.then (.block (.then (.then (.block (.then (.then (.block (.then .ret)))))))))))) kr<|e_dm 0 rfl rfl rfl<|e_dm 1 rfl rfl rfl<|e_dm 2 rfl rfl rfl<|e_pv 3 rfl rfl (zI (z:=(((j+i2):Nat):Int)) rfl rfl (w64 om))<|e_u 4 rfl rfl (zxa 1 (j+i2) rfl yg sz131 rfl (by first|rfl|assumption|(simp;done)|omega) rfl rfl om)<|d_vl 5 rfl rfl kr kr rfl rfl (zra 1 (j+i2) rfl ty131 rfl rfl (gD (d:=0) om) rfl) (fun _ hok41=> ?_)
       replace hok41:=zE.1 hok41
       refine e_dm 6 rfl rfl rfl<|e_dm 7 rfl rfl rfl<|zOa (x0:=((yf V).getD i2 0)) 8 rfl rfl kr kr 3 i2 rfl yg sz131 rfl rfl rfl (by first|rfl|assumption|(simp;done)|omega) rfl rfl (gD (d:=0) om) (fun b42 o43 hok44=> ?_)
       replace hok44:=zE.1 hok44
       refine e_u 9 rfl rfl (zA (j:=0) 0 ty131 rfl rfl rfl rfl)<|e_pv 10 rfl rfl (zI (z:=((xs.getD (j+i2) 0)+((yf V).getD i2 0))) rfl rfl (wu32 om))<|e_dm 11 rfl rfl rfl<|e_pv 12 rfl rfl (zI (z:=(((xs.getD (j+i2) 0)+((yf V).getD i2 0))+cc)) rfl rfl (wu32 om))<|e_pv 13 rfl rfl (zh rfl)<|zM kr<|zf<|zj<|zc<|e_p (zh rfl)<|zk<|zf<|zj<|zj<|zc<|e_mv rfl<|e_p (zpb rfl rfl)<|zk<|zf<|zT rfl (fun hcy=> ?_) (fun hcy=> ?_)
       ·
        refine zc<|e_mv rfl<|e_p (zma (z:=((((xs.getD (j+i2) 0)+((yf V).getD i2 0))+cc) - 1000000000)) rfl rfl (wu32 om))<|e_p (zh rfl)<|e_p (zh rfl)<|zk<|zf<|zc<|e_mv rfl<|e_mv rfl<|e_mv rfl<|e_p (zI (z:=(((j+i2):Nat):Int)) rfl rfl (w64 om))<|e_mv rfl<|e_ru (zxa 1 (j+i2) rfl yg sz131 rfl (by first|rfl|assumption|(simp;done)|omega) rfl rfl om)<|zWa 1 rfl rfl rfl (zha (j:=(j+i2)) (x0:=((((xs.getD (j+i2) 0)+((yf V).getD i2 0))+cc) - 1000000000)) (γ0:=()) rfl rfl (by first|omega|(rw [List.length_map];omega)|(simp only [List.length_set];omega)|(simp;done)|(simp;omega)) rfl rfl sz131 (fun _ _=>by exact zE.2 om)) (fun _=>(.s .z)) (fun _ _=> ?_)
        refine zk<|zK<|zf<|zc<|e_p (zI (z:=(((i2+1):Nat):Int)) rfl rfl (w64 om))<|e_mv rfl<|zk<|zwa ((i2+1),(xs.set (j+i2) ((((xs.getD (j+i2) 0)+((yf V).getD i2 0))+cc) - 1000000000)),1) (show (i2+1)≤m+2∧Big.AbI (w.set (j+(m+2)) ((((w.getD (j+(m+2)) 0) - bo) - ca)+1000000000)) j (yf V) (i2+1) (xs.set (j+i2) ((((xs.getD (j+i2) 0)+((yf V).getD i2 0))+cc) - 1000000000)) 1 from by exact ⟨by omega,hA2.step (by rw [List.length_set];omega) om ⟨by omega,by omega⟩ ⟨by decide,by decide⟩⟩) (by show (m+2) - (i2+1)<(m+2) - i2;omega) ((.of rfl):SubM _ _) (ho:=((.of [0,0] rfl):PickO _ _ _)) ((.of [1,2,3,4,5,6,7,8,9] rfl):SelR _ _ _)
       ·
        refine zB<|zf<|zc<|e_mv rfl<|e_mv rfl<|e_mv rfl<|e_p (zI (z:=(((j+i2):Nat):Int)) rfl rfl (w64 om))<|e_mv rfl<|e_ru (zxa 1 (j+i2) rfl yg sz131 rfl (by first|rfl|assumption|(simp;done)|omega) rfl rfl om)<|zWa 1 rfl rfl rfl (zha (j:=(j+i2)) (x0:=(((xs.getD (j+i2) 0)+((yf V).getD i2 0))+cc)) (γ0:=()) rfl rfl (by first|omega|(rw [List.length_map];omega)|(simp only [List.length_set];omega)|(simp;done)|(simp;omega)) rfl rfl sz131 (fun _ _=>by exact zE.2 om)) (fun _=>(.s .z)) (fun _ _=> ?_)
        refine zk<|zK<|zf<|zc<|e_p (zI (z:=(((i2+1):Nat):Int)) rfl rfl (w64 om))<|e_mv rfl<|zk<|zwa ((i2+1),(xs.set (j+i2) (((xs.getD (j+i2) 0)+((yf V).getD i2 0))+cc)),0) (show (i2+1)≤m+2∧Big.AbI (w.set (j+(m+2)) ((((w.getD (j+(m+2)) 0) - bo) - ca)+1000000000)) j (yf V) (i2+1) (xs.set (j+i2) (((xs.getD (j+i2) 0)+((yf V).getD i2 0))+cc)) 0 from by exact ⟨by omega,hA2.step (by rw [List.length_set];omega) om ⟨by omega,by omega⟩ ⟨by decide,by decide⟩⟩) (by show (m+2) - (i2+1)<(m+2) - i2;omega) ((.of rfl):SubM _ _) (ho:=((.of [0,0] rfl):PickO _ _ _)) ((.of [1,2,3,4,5,6,7,8,9] rfl):SelR _ _ _)
      ·
       have hA3:Big.AbI (w.set (j+(m+2)) ((((w.getD (j+(m+2)) 0) - bo) - ca)+1000000000)) j (yf V) (m+2) xs cc:=by have h8:i2=m+2:=om;exact h8 ▸ hA2
       have hxo2:=yr hA2.ok (j+(m+2))
       refine zla<|zn<|zn<|zC<|zf<|zc<|e_mv rfl<|e_mv rfl<|e_mv rfl<|e_p (zI (z:=(((j+(m+2)):Nat):Int)) rfl rfl (w64 om))<|e_mv rfl<|e_mv rfl<|e_mv rfl<|e_p (zI (z:=(((j+(m+2)):Nat):Int)) rfl rfl (w64 om))<|e_ru (zxa 1 (j+(m+2)) rfl yg sz131 rfl (by first|rfl|assumption|(simp;done)|omega) rfl rfl om)<|r_vl rfl rfl (zra 1 (j+(m+2)) rfl ty131 rfl rfl (gD (d:=0) om) rfl) (fun _ hok45=> ?_)
       replace hok45:=zE.1 hok45
       refine e_mv rfl<|e_p (zI (z:=((xs.getD (j+(m+2)) 0)+cc)) rfl rfl (wu32 om))<|e_p (zeb (z:=(((xs.getD (j+(m+2)) 0)+cc)%1000000000)) rfl rfl om (remN om om))<|e_ru (zxa 1 (j+(m+2)) rfl yg sz131 rfl (by first|rfl|assumption|(simp;done)|omega) rfl rfl om)<|zWa 1 rfl rfl rfl (zha (j:=(j+(m+2))) (x0:=(((xs.getD (j+(m+2)) 0)+cc)%1000000000)) (γ0:=()) rfl rfl (by first|omega|(rw [List.length_map];omega)|(simp only [List.length_set];omega)|(simp;done)|(simp;omega)) rfl rfl sz131 (fun _ _=>by exact zE.2 om)) (fun _=>(.s .z)) (fun _ _=> ?_)
       refine zk<|zf<|zc<|e_mv rfl<|e_mv rfl<|e_mv rfl<|e_p (zH (z:=(g - 1)) rfl (by rw [yj];rfl) yh (wu32 om))<|e_p (zja (j:=j) yg sz131 rfl rfl rfl om)<|zWa 0 rfl rfl rfl (zha (j:=j) (x0:=(g - 1)) (γ0:=()) rfl rfl (by first|omega|(rw [List.length_map];omega)|(simp only [List.length_set];omega)|(simp;done)|(simp;omega)) rfl rfl sz131 (fun _ _=>by exact zE.2 om)) (fun _=> .z) (fun _ _=> ?_)
       refine zk<|zK<|zf<|zc<|e_mv rfl<|e_p (zma (z:=(((j:Nat):Int) - 1)) rfl rfl (w64 om))<|e_p (zh rfl)<|zk<|zwa (j,(xs.set (j+(m+2)) (((xs.getD (j+(m+2)) 0)+cc)%1000000000)),((g - 1) :: qs)) (show yP M (m+2) ((A:Nat):Int) ((V:Nat):Int) j (xs.set (j+(m+2)) (((xs.getD (j+(m+2)) 0)+cc)%1000000000)) ((g - 1) :: qs) from by exact (hI.neg ⟨hg0,hg1⟩ hdn hup hM3 hm hd hA3).2) (by show j<j+1;omega) ((.of rfl):SubM _ _) (ho:=((.e (i:=0) rfl (by rw [Big.pad_set]) (.c (i:=0) rfl .n)):PickO _ _ _)) ((.of [2,3,4,5,6,7,8] rfl):SelR _ _ _)
     ·
      refine zc<|e_mv rfl<|e_mv rfl<|e_mv rfl<|e_p (zI (z:=(((j+(m+2)):Nat):Int)) rfl rfl (w64 om))<|e_mv rfl<|e_p (zH (z:=(((w.getD (j+(m+2)) 0) - bo) - ca)) rfl (by rw [yt];rfl) yh (wu32 om))<|e_ru (zxa 1 (j+(m+2)) rfl yg sz131 rfl (by first|rfl|assumption|(simp;done)|omega) rfl rfl om)<|zWa 1 rfl rfl rfl (zha (j:=(j+(m+2))) (x0:=(((w.getD (j+(m+2)) 0) - bo) - ca)) (γ0:=()) rfl rfl (by first|omega|(rw [List.length_map];omega)|(simp only [List.length_set];omega)|(simp;done)|(simp;omega)) rfl rfl sz131 (fun _ _=>by exact zE.2 om)) (fun _=>(.s .z)) (fun _ _=> ?_)
      refine zk<|zf<|zc<|e_mv rfl<|e_mv rfl<|e_mv rfl<|e_p (zH (z:=g) rfl (by rw [yj];rfl) yh (wu32 om))<|e_p (zja (j:=j) yg sz131 rfl rfl rfl om)<|zWa 0 rfl rfl rfl (zha (j:=j) (x0:=g) (γ0:=()) rfl rfl (by first|omega|(rw [List.length_map];omega)|(simp only [List.length_set];omega)|(simp;done)|(simp;omega)) rfl rfl sz131 (fun _ _=>by exact zE.2 om)) (fun _=> .z) (fun _ _=> ?_)
      refine zk<|zK<|zf<|zc<|e_mv rfl<|e_p (zma (z:=(((j:Nat):Int) - 1)) rfl rfl (w64 om))<|e_p (zh rfl)<|zk<|zwa (j,(w.set (j+(m+2)) (((w.getD (j+(m+2)) 0) - bo) - ca)),(g :: qs)) (show yP M (m+2) ((A:Nat):Int) ((V:Nat):Int) j (w.set (j+(m+2)) (((w.getD (j+(m+2)) 0) - bo) - ca)) (g :: qs) from by exact hI.pos ⟨hg0,hg1⟩ hup hM3 hm om) (by show j<j+1;omega) ((.of rfl):SubM _ _) (ho:=((.e (i:=0) rfl (by rw [Big.pad_set]) (.c (i:=0) rfl .n)):PickO _ _ _)) ((.of [2,3,4,5,6,7,8] rfl):SelR _ _ _)
  ·
   have hj0:jj=0:=by omega
   have hI0:yP M (m+2) ((A:Nat):Int) ((V:Nat):Int) 0 u qs:=hj0 ▸ hI
   obtain ⟨hf1,hf2⟩:=hI0.fin hm
   have hsc:=Big.scale_div (a:=a) (b:=b) hs1
   have hql:qs.length=M - (m+2):=by have h8:=hI0.ql;omega
   have hul0:=hI0.ul
   refine zla<|zn<|zn<|zC<|zf<|zj<|zif 1 rfl (.s .z)<|zpa 0 rfl (fun hcu=> ?_)
   have hAV:(yf (A%V)).length≤1099511627776:=Nat.le_trans (yF (Nat.le_of_lt (Nat.mod_lt A (Nat.pos_of_ne_zero (fun e=>by rw [e] at hm;cases hm))))) om
   have e46:List.replicate jj 0++qs=qs:=by rw [hj0];rfl
   rw [e46]
   refine zc<|e_mv rfl<|e_mv rfl<|e_p (zQb (hi:=(m+2)) yg sz131 rfl (.s rfl) (.inr ⟨_,rfl⟩) om)<|zxc (zGc 0 rfl (m+2) om) (fun _ _=> ?_)
   refine zG rfl rfl (.c rfl .n) ce135 (zHb (p:=p17) (n:=(m+2)) (cap:=c18) (l:=(u.take (m+2))) (hn:=cbb)) (.c (j:=0) rfl .n) ?_
   rintro ⟨⟩ -
   dsimp only [aq,nq,cq]
   refine e_mv rfl ?_
   have e47:yu (u.take (m+2))=yf (A%V):=by exact hf2
   rw [e47]
   refine zG rfl rfl (.c rfl (.c rfl .n)) ce139 (zLd (a:=A%V) (mm:=s) (p:=p17) (cap:=c18) (hb:=om) (hm0:=om) (hm1:=om)) (.c (j:=0) rfl .n) ?_
   rintro ⟨p248,c249⟩ -
   dsimp only [aq,nq,cq]
   refine e_mv rfl<|e_p (zw rfl rfl)<|e_p (zw rfl rfl)<|e_p (zh rfl)<|zk<|zf<|zj<|zc<|e_mv rfl<|zqa 0 rfl .z<|zG rfl rfl (.c rfl .n) ce135 (zHb (p:=some ⟨b20,0,none⟩) (n:=(M - (m+2))) (cap:=(M - (m+2))) (l:=qs) (hn:=cbb)) (.c (j:=0) rfl .n) ?_
   rintro ⟨⟩ -
   dsimp only [aq,nq,cq]
   refine e_mv rfl<|e_p (zh rfl)<|e_p (zh rfl)<|zk<|zf<|zR ?_
   have e50:yu qs=yf (A / V):=by exact hf1
   rw [e50]
   exact zDa Tryz.results140 ((some ⟨b20,0,none⟩),(M - (m+2)),p248,c249) trivial (zD rfl) (zD rfl) (by rw [hA,hV,hsc.1,hsc.2]) (ho:=(.n:PickO _ _ _)) ((.e (j:=0) rfl (by rw [hA,hV,hsc.1]) (.e (j:=2) rfl (by rw [hA,hV,hsc.2]) .n)):SelR _ _ _)
end Go.Proofs.YtjeahiahjgifgaaGreatDoor.Sp
namespace Go.Proofs.YtjeahiahjgifgaaGreatDoor.Sp
open Go
set_option linter.unusedVariables false
set_option maxRecDepth 100000
set_option maxHeartbeats 8000000
theorem zme {a:Nat} {b:Nat} {p1:Option Addr} {c1:Nat} {p2:Option Addr} {c2:Nat} (hb1:(yf a).length≤1099511627776) (hb2:(yf b).length≤1099511627776) (hb0:0<b):Con yl 130 [.slice p1 ((yf a).length) c1,.slice p2 ((yf b).length) c2] [] [slF (rI .u32) p1 c1 (yf a),slF (rI .u32) p2 c2 (yf b)] (Y:=(Option Addr)×Nat×(Option Addr)×Nat) (fun y=>True) (fun y=> .tuple #[.slice (y.1) ((yf (a / b)).length) (y.2.1),.slice (y.2.2.1) ((yf (a%b)).length) (y.2.2.2)]) (fun y=>[]) (fun y=>[slF (rI .u32) (y.1) (y.2.1) (yf (a / b)),slF (rI .u32) (y.2.2.1) (y.2.2.2) (yf (a%b))]):=by
 refine zx Tryz.func130 rfl rfl rfl (fun c=> ?_)
 show RunC _ _ _ _ _ [(0,.slice p1 ((yf a).length) c1),(1,.slice p2 ((yf b).length) c2)] [] [slF (rI .u32) p1 c1 (yf a),slF (rI .u32) p2 c2 (yf b)]
 refine zpa 0 rfl (fun hL0=> ?_)
 refine zpa 1 rfl (fun hL1=> ?_)
 have hd1:=Nat.div_le_self a b
 have hd2:=Nat.mod_le a b
 have hob:=yr (yv b) 0
 refine zj<|zc<|e_p (zh rfl)<|e_p (zh rfl)<|zk<|zf<|zj<|zj<|zc<|e_mv rfl<|e_mv rfl<|zV rfl rfl (.c rfl (.c rfl .n)) ce118 (zdc (a:=a) (b:=b) (p1:=p1) (c1:=c1) (p2:=p2) (c2:=c2)) (.c (j:=0) rfl (.c (j:=1) rfl .n))<|e_p (zS rfl rfl)<|zk<|zf<|zT rfl (fun hlt=> ?_) (fun hlt=> ?_)
 ·
  have hab9:¬(b:Int)≤a:=fun h=>by have:=Big.cmp_ge.2 h;omega
  have hab:a<b:=by omega
  refine zj<|zc<|e_mv rfl<|e_p (zh rfl)<|e_p (zh rfl)<|zk<|zf<|zR<|zq ?_
  have hz1:a / b=0:=Nat.div_eq_of_lt hab
  have hz2:a%b=a:=Nat.mod_eq_of_lt hab
  refine zCd (rI .u32) ?_
  exact zDa yD (none,0,p1,c1) trivial (zD rfl) (zD rfl) (by rw [hz1,hz2];rfl) (ho:=(.n:PickO _ _ _)) ((.e (j:=0) rfl (by rw [hz1];rfl) (.e (j:=1) rfl (by rw [hz2]) .n)):SelR _ _ _)
 ·
  have hab:b≤a:=by have h9:=Big.cmp_ge.1 (by omega:0≤Big.cmp (a:Int) (b:Int));omega
  refine zB<|zf<|zj<|zc<|e_mv rfl<|zV rfl rfl (.c rfl .n) ce129 (zHc (a:=a) (p:=p1) (cap:=c1)) (.c (j:=0) rfl .n)<|e_mv rfl<|e_p (zw rfl rfl)<|e_p (zw rfl rfl)<|e_p (zh rfl)<|e_p (zh rfl)<|zk<|zf<|zj<|zc<|e_mv rfl<|zV rfl rfl (.c rfl .n) ce129 (zHc (a:=b) (p:=p2) (cap:=c2)) (.c (j:=1) rfl .n)<|e_mv rfl<|e_p (zw rfl rfl)<|e_p (zw rfl rfl)<|e_p (zh rfl)<|e_p (zh rfl)<|zk<|zf<|zj<|zIa (X:=Unit) (fun x=>True) (fun x=>[(30,.bool (decide (((yf a).length≤2)∧((yf b).length≤2)))),(8,.int .u64 (((if (yf b).length≤2 then b else 0):Nat):Int)),(6,.int .u64 (((if (yf a).length≤2 then a else 0):Nat):Int)),(5,.slice none 0 0),(4,.slice none 0 0),(0,.slice p1 ((yf a).length) c1),(1,.slice p2 ((yf b).length) c2)]) (fun x=>[]) (fun x=>[slF (rI .u32) p1 c1 (yf a),slF (rI .u32) p2 c2 (yf b)]) ?_ ?_
  ·
   refine zc<|e_mv rfl<|zsa rfl rfl (zva rfl) (fun h1=> ?_) (fun h1=> ?_)
   ·
    refine e_mv rfl<|e_p (zU rfl rfl)<|zk ?_
    exact zna () (show True from by first|trivial|omega|simp_all) ((.e rfl (congrArg Value.bool cbu) (.of rfl)):SubM _ _) (ho:=(.n:PickO _ _ _)) ((.of [0,1] rfl):SelR _ _ _)
   ·
    refine e_no<|e_p (zU rfl rfl)<|zk ?_
    exact zna () (show True from by first|trivial|omega|simp_all) ((.e rfl (congrArg Value.bool cbu) (.of rfl)):SubM _ _) (ho:=(.n:PickO _ _ _)) ((.of [0,1] rfl):SelR _ _ _)
  ·
   rintro ⟨⟩ -
   try dsimp only
   refine zT rfl (fun hw=> ?_) (fun hw=> ?_)
   ·
    have ha18:=yM hw.1
    have hb18:=yM hw.2
    have hdn0:(0:Int)≤(a:Int) / (b:Int):=Int.ediv_nonneg om om
    have hdn1:(a:Int) / (b:Int)≤a:=Int.ediv_le_self _ om
    have hdm0:(0:Int)≤(a:Int)%(b:Int):=Int.emod_nonneg _ om
    have hdm1:(a:Int)%(b:Int)<b:=Int.emod_lt_of_pos _ om
    refine zj ?_
    have e2:(if (yf a).length≤2 then a else 0)=a:=by rw [if_pos hw.1]
    rw [e2]
    have e3:(if (yf b).length≤2 then b else 0)=b:=by rw [if_pos hw.2]
    rw [e3]
    refine zO (OW:=[]) (O:=[]) 100000 mixed (.then (.then .ret)) kr<|e_dm 0 rfl rfl rfl<|e_dm 1 rfl rfl rfl<|e_pv 2 rfl rfl (zdb (z:=(((a / b):Nat):Int)) rfl rfl om (by rw [quoN (z:=(((a / b):Nat):Int)) om om];exact wu64 om))<|e_dm 4 rfl rfl rfl<|e_dm 5 rfl rfl rfl<|e_pv 6 rfl rfl (zeb (z:=(((a%b):Nat):Int)) rfl rfl om (remN om om))<|e_one 3 (zm rfl rfl rfl rfl (.c rfl .n) ce122 (zDb (n0:=(a / b)) (hn0:=cbo)) (.n) ?_)
    rintro ⟨p24,c25⟩ -
    dsimp only [aq,nq,cq]
    refine e_one 7 (zm rfl rfl rfl rfl (.c rfl .n) ce122 (zDb (n0:=(a%b)) (hn0:=cbo)) (.n) ?_)
    rintro ⟨p26,c27⟩ -
    dsimp only [aq,nq,cq]
    refine e_pv 8 rfl rfl (zh rfl)<|e_pv 9 rfl rfl (zh rfl)<|zM kr<|zf<|zR<|zq ?_
    exact zDa yD (p24,c25,p26,c27) trivial (zD rfl) (zD rfl) rfl (ho:=(.n:PickO _ _ _)) ((.of [1,0] rfl):SelR _ _ _)
   ·
    refine zB<|zf<|zj<|zj<|zc<|e_mv rfl<|e_p (zea yg rfl)<|e_p (zMa rfl rfl)<|zk<|zf<|zT rfl (fun hl1=> ?_) (fun hl1=> ?_)
    ·
     have hbd:=Big.one_digit (by omega:(yf b).length=1)
     have hln0:=Big.zQe hb0
     have hmlt:=Nat.mod_lt a hb0
     have hdm0:(0:Int)≤(a:Int)%(b:Int):=Int.emod_nonneg _ om
     have hdm1:(a:Int)%(b:Int)<b:=Int.emod_lt_of_pos _ om
     refine zj<|zc<|e_mv rfl<|e_mv rfl<|zP (x0:=((yf b).getD 0 0)) 1 0 rfl yg sz131 rfl rfl rfl (by first|rfl|assumption|(simp;done)|omega) rfl rfl (gD (d:=0) om) (fun b8 o9 hok10=> ?_)
     replace hok10:=zE.1 hok10
     refine e_ru (zA (j:=0) 0 ty131 rfl rfl rfl rfl) ?_
     have e11:(((yf b).getD 0 0):Int)=((b:Nat):Int):=by exact hbd
     rw [e11]
     refine zG rfl rfl (.c rfl (.c rfl .n)) ce139 (zLd (a:=a) (mm:=b) (p:=p1) (cap:=c1) (hb:=ass) (hm0:=ass) (hm1:=cbo)) (.c (j:=1) rfl .n) ?_
     rintro ⟨p212,c213⟩ -
     dsimp only [aq,nq,cq]
     refine e_mv rfl<|e_p (zw rfl rfl)<|e_p (zw rfl rfl)<|e_p (zh rfl)<|e_p (zh rfl)<|zk<|zf<|zj<|zc<|e_mv rfl<|e_mv rfl<|e_p (zH (z:=(((a%b):Nat):Int)) rfl (by rw [yh];rfl) yj (wu64 om))<|zG rfl rfl (.c rfl .n) ce122 (zDb (n0:=(a%b)) (hn0:=cbo)) (.n) ?_
     rintro ⟨p214,c215⟩ -
     dsimp only [aq,nq,cq]
     refine e_p (zh rfl)<|e_p (zh rfl)<|zk<|zf<|zR<|zq ?_
     exact zDa yD (p212,c213,p214,c215) trivial (zD rfl) (zD rfl) rfl (ho:=(.n:PickO _ _ _)) ((.of [1,0] rfl):SelR _ _ _)
    ·
     have hln0:=Big.zQe hb0
     refine zB<|zf<|zj<|zc<|e_mv rfl<|e_mv rfl<|zG rfl rfl (.c rfl (.c rfl .n)) ce140 (ztf (a:=a) (b:=b) (p1:=p1) (c1:=c1) (p2:=p2) (c2:=c2) (hb1:=ass) (hb2:=ass) (hb3:=cbo) (hab:=cbo)) (.c (j:=0) rfl (.c (j:=1) rfl .n)) ?_
     rintro ⟨p316,c317,p418,c419⟩ -
     dsimp only [aq,nq,cq]
     refine e_p (zw rfl rfl)<|e_p (zw rfl rfl)<|e_p (zh rfl)<|e_p (zh rfl)<|zk<|zf<|zR ?_
     exact zDa yD (p316,c317,p418,c419) trivial (zD rfl) (zD rfl) rfl (ho:=(.n:PickO _ _ _)) ((.of [0,1] rfl):SelR _ _ _)
theorem zUe {s:Bool} {p1:Option Addr} {n1:Nat} {c1:Nat} {l1:List Int} {t:Bool} {p2:Option Addr} {n2:Nat} {c2:Nat} {l2:List Int} (hn1:l1.length=n1) (hn2:l2.length=n2) (hb1:yx (ym s l1)≤1099511627776) (hb2:yx (ym t l2)≤1099511627776):Con yl 112 [.agg #[.bool s,.slice p1 n1 c1],.agg #[.bool t,.slice p2 n2 c2]] [] [slF (rI .u32) p1 c1 l1,slF (rI .u32) p2 c2 l2] (Y:=(Option Addr)×Nat) (fun y=>True) (fun y=> .agg #[.bool (decide (((Nat.gcd (ym s l1).natAbs (ym t l2).natAbs:Nat):Int)<0)),.slice (y.1) ((yf (((Nat.gcd (ym s l1).natAbs (ym t l2).natAbs:Nat):Int).natAbs)).length) (y.2)]) (fun y=>[]) (fun y=>[slF (rI .u32) (y.1) (y.2) (yf (((Nat.gcd (ym s l1).natAbs (ym t l2).natAbs:Nat):Int).natAbs))]):=by
 refine zx Tryz.func112 rfl rfl rfl (fun c=> ?_)
 show RunC _ _ _ _ _ [(0,.agg #[.bool s,.slice p1 n1 c1]),(1,.agg #[.bool t,.slice p2 n2 c2])] [] [slF (rI .u32) p1 c1 l1,slF (rI .u32) p2 c2 l2]
 refine zpa 0 rfl (fun hL0=> ?_)
 refine zfb 0 rfl (fun hE0=> ?_)
 refine zpa 1 rfl (fun hL1=> ?_)
 refine zfb 1 rfl (fun hE1=> ?_)
 have hnn1:Big.nn l1:=fun g hg=>(zE.1 (hE0 g hg)).1
 have hnn2:Big.nn l2:=fun g hg=>(zE.1 (hE1 g hg)).1
 obtain ⟨x1,hx1⟩:∃z,z=ym s l1:=⟨_,rfl⟩
 obtain ⟨x2,hx2⟩:∃z,z=ym t l2:=⟨_,rfl⟩
 unfold yx at hb1 hb2
 refine zj<|zc<|zJ rfl rfl (zda rfl rfl) (fun b1=> ?_)
 refine zJ rfl rfl (zda rfl rfl) (fun b2=> ?_)
 refine zJ rfl rfl (zp zr42 rfl) (fun b3=> ?_)
 refine zk<|zf<|zj<|zO (OW:=[]) (O:=[boxA b3 42 [wz.b,wz.l],boxA b2 42 [.bool t,.slice p2 n2 c2],boxA b1 42 [.bool s,.slice p1 n1 c1]]) 100000 mixed (.then .ret) kr<|e_u 0 rfl rfl (zd 2 ty42 rfl rfl (.t2 .nil))<|e_u 2 rfl rfl (zd 1 ty42 rfl rfl (.t2 .nil))<|e_one 1 (zm rfl rfl rfl rfl (.c rfl .n) ce119 (zXa (s:=s) (p:=p1) (n:=n1) (cap:=c1) (l:=l1) (hn:=ass)) (.c (j:=0) rfl .n) ?_)
 rintro ⟨p24,c25⟩ -
 dsimp only [aq,nq,cq]
 refine e_one 3 (zm rfl rfl rfl rfl (.c rfl .n) ce119 (zXa (s:=t) (p:=p2) (n:=n2) (cap:=c2) (l:=l2) (hn:=ass)) (.c (j:=2) rfl .n) ?_)
 rintro ⟨p26,c27⟩ -
 dsimp only [aq,nq,cq]
 refine e_pv 4 rfl rfl (zh rfl)<|e_pv 5 rfl rfl (zh rfl)<|zM kr<|zf<|zj<|zu<|zza (X:=Nat×Nat×(Option Addr)×Nat×(Option Addr)×Nat) (fun x:Nat×Nat×(Option Addr)×Nat×(Option Addr)×Nat=>Nat.gcd x.1 x.2.1=Nat.gcd (ym s l1).natAbs (ym t l2).natAbs∧(yf x.1).length≤1099511627776∧(yf x.2.1).length≤1099511627776) (fun x=>[(6,.slice (x.2.2.2.2.1) ((yf (x.2.1)).length) (x.2.2.2.2.2)),(5,.slice (x.2.2.1) ((yf (x.1)).length) (x.2.2.2.1)),(4,ye (some ⟨b3,0,none⟩))]) (fun x=>[boxA b3 42 [wz.b,wz.l],boxA b2 42 [.bool t,.slice p2 n2 c2],boxA b1 42 [.bool s,.slice p1 n1 c1]]) (fun x=>[slF (rI .u32) (x.2.2.1) (x.2.2.2.1) (yf (x.1)),slF (rI .u32) (x.2.2.2.2.1) (x.2.2.2.2.2) (yf (x.2.1)),slF (rI .u32) p26 c27 (yf ((ym t l2).natAbs)),slF (rI .u32) p24 c25 (yf ((ym s l1).natAbs)),slF (rI .u32) p1 c1 l1,slF (rI .u32) p2 c2 l2]) (fun x:Nat×Nat×(Option Addr)×Nat×(Option Addr)×Nat=>x.2.1) ((ym s l1).natAbs,(ym t l2).natAbs,p24,c25,p26,c27) (show Nat.gcd ((ym s l1).natAbs) ((ym t l2).natAbs)=Nat.gcd (ym s l1).natAbs (ym t l2).natAbs∧(yf ((ym s l1).natAbs)).length≤1099511627776∧(yf ((ym t l2).natAbs)).length≤1099511627776 from by exact ⟨rfl,hb1,hb2⟩) ((.of rfl):SubM _ _) (ho:=((.of [0,0,0] rfl):PickO _ _ _)) ((.of [1,0,0,1,2,3] rfl):SelR _ _ _) ?_
 rintro ⟨a,b,pa,ca,pb,cb⟩ hI
 replace hI:Nat.gcd a b=Nat.gcd (ym s l1).natAbs (ym t l2).natAbs∧(yf a).length≤1099511627776∧(yf b).length≤1099511627776:=hI
 try dsimp only
 obtain ⟨hgc,hba,hbb⟩:=hI
 refine zj<|zj<|zc<|e_mv rfl<|e_p (zea yg rfl)<|e_p (zZa rfl rfl)<|zk<|zf<|zT rfl (fun hne=> ?_) (fun hne=> ?_)
 ·
  have hb0:0<b:=Nat.pos_of_ne_zero (fun e=>by rw [e] at hne;simp [Big.digs_zero] at hne)
  refine zB<|zf<|zu<|zj<|zc<|e_mv rfl<|zV rfl rfl (.c rfl .n) ce129 (zHc (a:=a) (p:=pa) (cap:=ca)) (.c (j:=0) rfl .n)<|e_mv rfl<|e_p (zw rfl rfl)<|e_p (zw rfl rfl)<|e_p (zh rfl)<|e_p (zh rfl)<|zk<|zf<|zj<|zc<|e_mv rfl<|zV rfl rfl (.c rfl .n) ce129 (zHc (a:=b) (p:=pb) (cap:=cb)) (.c (j:=1) rfl .n)<|e_mv rfl<|e_p (zw rfl rfl)<|e_p (zw rfl rfl)<|e_p (zh rfl)<|e_p (zh rfl)<|zk<|zf<|zj<|zIa (X:=Unit) (fun x=>True) (fun x=>[(33,.bool (decide (((yf a).length≤2)∧((yf b).length≤2)))),(9,.int .u64 (((if (yf b).length≤2 then b else 0):Nat):Int)),(7,.int .u64 (((if (yf a).length≤2 then a else 0):Nat):Int)),(6,.slice pb ((yf b).length) cb),(5,.slice pa ((yf a).length) ca),(4,ye (some ⟨b3,0,none⟩))]) (fun x=>[boxA b3 42 [wz.b,wz.l],boxA b2 42 [.bool t,.slice p2 n2 c2],boxA b1 42 [.bool s,.slice p1 n1 c1]]) (fun x=>[slF (rI .u32) pa ca (yf a),slF (rI .u32) pb cb (yf b),slF (rI .u32) p26 c27 (yf ((ym t l2).natAbs)),slF (rI .u32) p24 c25 (yf ((ym s l1).natAbs)),slF (rI .u32) p1 c1 l1,slF (rI .u32) p2 c2 l2]) ?_ ?_
  ·
   refine zc<|e_mv rfl<|zsa rfl rfl (zva rfl) (fun hw1=> ?_) (fun hw1=> ?_)
   ·
    refine e_mv rfl<|e_p (zU rfl rfl)<|zk ?_
    exact zna () (show True from by first|trivial|omega|simp_all) ((.e rfl (congrArg Value.bool cbu) (.of rfl)):SubM _ _) (ho:=((.of [0,0,0] rfl):PickO _ _ _)) ((.of [0,1,2,3,4,5] rfl):SelR _ _ _)
   ·
    refine e_no<|e_p (zU rfl rfl)<|zk ?_
    exact zna () (show True from by first|trivial|omega|simp_all) ((.e rfl (congrArg Value.bool cbu) (.of rfl)):SubM _ _) (ho:=((.of [0,0,0] rfl):PickO _ _ _)) ((.of [0,1,2,3,4,5] rfl):SelR _ _ _)
  ·
   rintro ⟨⟩ -
   try dsimp only
   refine zT rfl (fun hw=> ?_) (fun hw=> ?_)
   ·
    have ha18:=yM hw.1
    have hb18:=yM hw.2
    have e8:(if (yf a).length≤2 then a else 0)=a:=by rw [if_pos hw.1]
    rw [e8]
    have e9:(if (yf b).length≤2 then b else 0)=b:=by rw [if_pos hw.2]
    rw [e9]
    refine zj<|zu<|zza (X:=Nat×Nat) (fun x:Nat×Nat=>Nat.gcd x.1 x.2=Nat.gcd a b∧x.1<1000000000000000000∧x.2<1000000000000000000) (fun x=>[(9,.int .u64 ((x.2:Nat):Int)),(7,.int .u64 ((x.1:Nat):Int)),(6,.slice pb ((yf b).length) cb),(5,.slice pa ((yf a).length) ca),(4,ye (some ⟨b3,0,none⟩))]) (fun x=>[boxA b3 42 [wz.b,wz.l],boxA b2 42 [.bool t,.slice p2 n2 c2],boxA b1 42 [.bool s,.slice p1 n1 c1]]) (fun x=>[slF (rI .u32) pa ca (yf a),slF (rI .u32) pb cb (yf b),slF (rI .u32) p26 c27 (yf ((ym t l2).natAbs)),slF (rI .u32) p24 c25 (yf ((ym s l1).natAbs)),slF (rI .u32) p1 c1 l1,slF (rI .u32) p2 c2 l2]) (fun x:Nat×Nat=>x.2) (a,b) (show Nat.gcd a b=Nat.gcd a b∧a<1000000000000000000∧b<1000000000000000000 from by exact ⟨rfl,ha18,hb18⟩) ((.of rfl):SubM _ _) (ho:=((.of [0,0,0] rfl):PickO _ _ _)) ((.of [0,1,2,3,4,5] rfl):SelR _ _ _) ?_
    rintro ⟨q,r⟩ hJ
    replace hJ:Nat.gcd q r=Nat.gcd a b∧q<1000000000000000000∧r<1000000000000000000:=hJ
    try dsimp only
    obtain ⟨hgq,hq18,hr18⟩:=hJ
    have hmr:=Nat.mod_le q r
    refine zj<|zj<|zc<|e_mv rfl<|e_p (zZa rfl rfl)<|zk<|zf<|zT rfl (fun hy=> ?_) (fun hy=> ?_)
    ·
     refine zB<|zf<|zu<|zO (OW:=[]) (O:=[boxA b3 42 [wz.b,wz.l],boxA b2 42 [.bool t,.slice p2 n2 c2],boxA b1 42 [.bool s,.slice p1 n1 c1]]) 100000 mixed (.block (.then (.block (.then (.then (.block (.then (.block (.then .ret))))))))) kr<|e_dm 0 rfl rfl rfl<|e_dm 1 rfl rfl rfl<|e_dm 2 rfl rfl rfl<|e_pv 3 rfl rfl (zeb (z:=(((q%r):Nat):Int)) rfl rfl om (remN om om))<|e_pv 4 rfl rfl (zh rfl)<|e_pv 5 rfl rfl (zh rfl)<|zM kr<|zK<|zwa (r,(q%r)) (show Nat.gcd r (q%r)=Nat.gcd a b∧r<1000000000000000000∧(q%r)<1000000000000000000 from by exact ⟨by rw [Big.gcd_rest,hgq],hr18,by omega⟩) (by exact Nat.mod_lt q om) ((.of rfl):SubM _ _) (ho:=((.of [0,0,0] rfl):PickO _ _ _)) ((.of [0,1,2,3,4,5] rfl):SelR _ _ _)
    ·
     have hrz:r=0:=by omega
     have hfin:q=Nat.gcd (ym s l1).natAbs (ym t l2).natAbs:=by rw [← hgc,←hgq,hrz,Nat.gcd_zero_right]
     refine zla<|zn<|zn<|zC<|zf<|zj<|zc<|e_mv rfl<|zG rfl rfl (.c rfl .n) ce122 (zDb (n0:=q) (hn0:=cbo)) (.n) ?_
     rintro ⟨p210,c211⟩ -
     dsimp only [aq,nq,cq]
     refine zG rfl rfl (.c rfl (.c rfl .n)) ce120 (zHa (s:=false) (a:=q) (p:=p210) (cap:=c211)) (.c (j:=0) rfl .n) ?_
     rintro ⟨p212,c213⟩ -
     dsimp only [aq,nq,cq]
     refine zl 0 rfl rfl rfl rfl rfl sz42 rfl (.t2 .nil) .z<|zk<|zf<|zR<|zq<|zca<|zq<|zca<|zq ?_
     exact zL Tryz.results112 (p212,c213) trivial (zr 0 ty42 rfl rfl (.t2 .nil)) (by rw [← hfin];rfl) (ho:=(.n:PickO _ _ _)) ((.e (j:=0) rfl (by rw [← hfin];rfl) .n):SelR _ _ _)
   ·
    refine zB<|zf<|zj<|zc<|e_mv rfl<|e_mv rfl<|zG rfl rfl (.c rfl (.c rfl .n)) ce130 (zme (a:=a) (b:=b) (p1:=pa) (c1:=ca) (p2:=pb) (c2:=cb) (hb1:=cbo) (hb2:=cbo) (hb0:=cbo)) (.c (j:=0) rfl (.c (j:=1) rfl .n)) ?_
    rintro ⟨p314,c315,p416,c417⟩ -
    dsimp only [aq,nq,cq]
    refine e_mv rfl<|e_p (zw rfl rfl)<|e_p (zw rfl rfl)<|e_p (zh rfl)<|e_p (zh rfl)<|zk<|zf<|zc<|e_mv rfl<|e_mv rfl<|e_p (zh rfl)<|e_p (zh rfl)<|zk<|zK<|zwa (b,(a%b),pb,cb,p416,c417) (show Nat.gcd b (a%b)=Nat.gcd (ym s l1).natAbs (ym t l2).natAbs∧(yf b).length≤1099511627776∧(yf (a%b)).length≤1099511627776 from by exact ⟨by rw [Big.gcd_rest,hgc],hbb,Nat.le_trans (yF (Nat.le_of_lt (Nat.mod_lt a hb0))) hbb⟩) (by exact Nat.mod_lt a hb0) ((.e rfl (by first|rfl|(congr 1;omega)|simp_all) (.c rfl (.c rfl .n))):SubM _ _) (ho:=((.of [0,0,0] rfl):PickO _ _ _)) ((.c (j:=3) rfl (.e (j:=1) rfl (by first|rfl|simp_all) (.of [4,5,6,7] rfl))):SelR _ _ _)
 ·
  have hbz:b=0:=yK.1 om
  have hfin:a=Nat.gcd (ym s l1).natAbs (ym t l2).natAbs:=by rw [← hgc,hbz,Nat.gcd_zero_right]
  refine zla<|zn<|zn<|zC<|zf<|zj<|zc<|e_mv rfl<|zG rfl rfl (.c rfl .n) ce131 (zsd (a:=a) (p:=pa) (cap:=ca) (hb:=cbo)) (.c (j:=0) rfl .n) ?_
  rintro ⟨p218,c219⟩ -
  dsimp only [aq,nq,cq]
  refine zG rfl rfl (.c rfl (.c rfl .n)) ce120 (zHa (s:=false) (a:=a) (p:=p218) (cap:=c219)) (.c (j:=0) rfl .n) ?_
  rintro ⟨p220,c221⟩ -
  dsimp only [aq,nq,cq]
  refine zl 0 rfl rfl rfl rfl rfl sz42 rfl (.t2 .nil) .z<|zk<|zf<|zR ?_
  exact zL Tryz.results112 (p220,c221) trivial (zr 0 ty42 rfl rfl (.t2 .nil)) (by rw [← hfin];rfl) (ho:=(.n:PickO _ _ _)) ((.e (j:=0) rfl (by rw [← hfin];rfl) .n):SelR _ _ _)
theorem zuf {x1:Int} {x2:Int} {p1:Option Addr} {c1:Nat} {p2:Option Addr} {c2:Nat} (hb1:yx x1≤1099511627776) (hb2:yx x2≤1099511627776):Con yl 112 [.agg #[.bool (decide ((x1)<0)),.slice (p1) ((yf ((x1).natAbs)).length) (c1)],.agg #[.bool (decide ((x2)<0)),.slice (p2) ((yf ((x2).natAbs)).length) (c2)]] [] [slF (rI .u32) (p1) (c1) (yf ((x1).natAbs)),slF (rI .u32) (p2) (c2) (yf ((x2).natAbs))] (Y:=(Option Addr)×(Nat)) (fun y=>True) (fun y=> .agg #[.bool (decide ((((Nat.gcd x1.natAbs x2.natAbs:Nat):Int))<0)),.slice (y.1) ((yf ((((Nat.gcd x1.natAbs x2.natAbs:Nat):Int)).natAbs)).length) (y.2)]) (fun y=>[]) (fun y=>[slF (rI .u32) (y.1) (y.2) (yf ((((Nat.gcd x1.natAbs x2.natAbs:Nat):Int)).natAbs))]):=by
  have h:= @zUe (decide ((x1)<0)) p1 (yf (x1).natAbs).length c1 (yf (x1).natAbs) (decide ((x2)<0)) p2 (yf (x2).natAbs).length c2 (yf (x2).natAbs) rfl rfl (by rw [yE];exact hb1) (by rw [yE];exact hb2)
  rw [yE,yE] at h
  exact h
theorem zne {w1:Wd} {w2:Wd} {x1:Int} {x2:Int} (hb1:yx x1≤1099511627776) (hb2:yx x2≤1099511627776):Con yl 112 [.agg #[w1.b,w1.l],.agg #[w2.b,w2.l]] [] [zF w1 (x1),zF w2 (x2)] (Y:=(Wd)) (fun y=>True) (fun y=> .agg #[y.b,y.l]) (fun y=>[]) (fun y=>[zF y (((Nat.gcd x1.natAbs x2.natAbs:Nat):Int))]):=by
  exact zac (zBc (fun p1 c1 p2 c2=>zuf hb1 hb2))
end Go.Proofs.YtjeahiahjgifgaaGreatDoor.Sp
namespace Go.Proofs.YtjeahiahjgifgaaGreatDoor.Sp
open Go
set_option linter.unusedVariables false
set_option maxRecDepth 100000
set_option maxHeartbeats 8000000
theorem zce {x1:Int} {x2:Int} {p1:Option Addr} {c1:Nat} {p2:Option Addr} {c2:Nat} (hb1:yx x1≤1099511627776) (hb2:yx x2≤1099511627776) (hy:x2≠0):Con yl 124 [.agg #[.bool (decide (x1<0)),.slice p1 ((yf ((x1).natAbs)).length) c1],.agg #[.bool (decide (x2<0)),.slice p2 ((yf ((x2).natAbs)).length) c2]] [] [slF (rI .u32) p1 c1 (yf ((x1).natAbs)),slF (rI .u32) p2 c2 (yf ((x2).natAbs))] (Y:=(Option Addr)×Nat×(Option Addr)×Nat) (fun y=>True) (fun y=> .tuple #[.agg #[.bool (decide ((Big.fq x1 x2)<0)),.slice (y.1) ((yf ((Big.fq x1 x2).natAbs)).length) (y.2.1)],.agg #[.bool (decide ((Big.fr x1 x2)<0)),.slice (y.2.2.1) ((yf ((Big.fr x1 x2).natAbs)).length) (y.2.2.2)],yc yd 0]) (fun y=>[]) (fun y=>[slF (rI .u32) (y.1) (y.2.1) (yf ((Big.fq x1 x2).natAbs)),slF (rI .u32) (y.2.2.1) (y.2.2.2) (yf ((Big.fr x1 x2).natAbs))]):=by
 refine zx Tryz.func124 rfl rfl rfl (fun c=> ?_)
 show RunC _ _ _ _ _ [(0,.agg #[.bool (decide (x1<0)),.slice p1 ((yf ((x1).natAbs)).length) c1]),(1,.agg #[.bool (decide (x2<0)),.slice p2 ((yf ((x2).natAbs)).length) c2])] [] [slF (rI .u32) p1 c1 (yf ((x1).natAbs)),slF (rI .u32) p2 c2 (yf ((x2).natAbs))]
 refine zpa 0 rfl (fun hL0=> ?_)
 refine zpa 1 rfl (fun hL1=> ?_)
 unfold yx at hb1 hb2
 have hd1:=Nat.div_le_self x1.natAbs x2.natAbs
 have hd2:=Nat.mod_lt x1.natAbs (show 0<x2.natAbs by omega)
 have hl1:=yF hd1
 have hl2:=yF (Nat.le_of_lt hd2)
 refine zj<|zc<|zJ rfl rfl (zda rfl rfl) (fun b1=> ?_)
 refine zJ rfl rfl (zda rfl rfl) (fun b2=> ?_)
 refine zJ rfl rfl (zp zr42 rfl) (fun b3=> ?_)
 refine zJ rfl rfl (zp zr42 rfl) (fun b4=> ?_)
 refine e_p (zh rfl)<|zk<|zf<|zj<|zO (OW:=[]) (O:=[boxA b4 42 [wz.b,wz.l],boxA b3 42 [wz.b,wz.l],boxA b2 42 [.bool (decide (x2<0)),.slice p2 ((yf ((x2).natAbs)).length) c2],boxA b1 42 [.bool (decide (x1<0)),.slice p1 ((yf ((x1).natAbs)).length) c1]]) 100000 mixed (.then .ret) kr<|e_u 0 rfl rfl (zd 3 ty42 rfl rfl (.t2 .nil))<|e_u 2 rfl rfl (zd 2 ty42 rfl rfl (.t2 .nil))<|e_one 1 (zm rfl rfl rfl rfl (.c rfl .n) ce119 (zIb (z:=x1) (p:=p1) (cap:=c1)) (.c (j:=0) rfl .n) ?_)
 rintro ⟨p25,c26⟩ -
 dsimp only [aq,nq,cq]
 refine e_one 3 (zm rfl rfl rfl rfl (.c rfl .n) ce119 (zIb (z:=x2) (p:=p2) (cap:=c2)) (.c (j:=2) rfl .n) ?_)
 rintro ⟨p27,c28⟩ -
 dsimp only [aq,nq,cq]
 refine e_pv 4 rfl rfl (zh rfl)<|e_pv 5 rfl rfl (zh rfl)<|zM kr<|zf<|zj<|zj<|zc<|e_mv rfl<|e_p (zea yg rfl)<|e_p (zMa rfl rfl)<|zk<|zf<|zT rfl (fun h9=> ?_) (fun h9=> ?_)
 ·
  exact absurd (yK.1 (show (yf x2.natAbs).length=0 by omega)) om
 ·
  refine zB<|zf<|zj<|zc<|e_mv rfl<|e_mv rfl<|zG rfl rfl (.c rfl (.c rfl .n)) ce130 (zme (a:=(x1).natAbs) (b:=(x2).natAbs) (p1:=p25) (c1:=c26) (p2:=p27) (c2:=c28) (hb1:=by first|rfl|assumption|omega|(decide +kernel)) (hb2:=by first|rfl|assumption|omega|(decide +kernel)) (hb0:=by first|rfl|assumption|omega|(decide +kernel))) (.c (j:=1) rfl (.c (j:=0) rfl .n)) ?_
  rintro ⟨p310,c311,p412,c413⟩ -
  dsimp only [aq,nq,cq]
  refine e_mv rfl<|e_p (zw rfl rfl)<|e_p (zw rfl rfl)<|e_p (zh rfl)<|e_p (zh rfl)<|zk<|zf<|zj<|zc<|e_mv rfl<|zG rfl rfl (.c rfl .n) ce131 (zsd (a:=((x1).natAbs)%((x2).natAbs)) (p:=p412) (cap:=c413) (hb:=by first|rfl|assumption|omega|(decide +kernel))) (.c (j:=1) rfl .n) ?_
  rintro ⟨p214,c215⟩ -
  dsimp only [aq,nq,cq]
  refine e_p (zh rfl)<|zk<|zf<|zj<|zj<|zc<|e_mv rfl<|e_p (zea yg rfl)<|e_p (zZa rfl rfl)<|zsa rfl rfl (zva rfl) (fun hpos=> ?_) (fun hpos=> ?_)
  ·
   refine e_p (zg yn rfl sz4 rfl rfl)<|e_ru (ze 3 ty4 rfl rfl rfl)<|e_p (zg yn rfl sz4 rfl rfl)<|e_ru (ze 2 ty4 rfl rfl rfl)<|e_p (zUa yB rfl rfl)<|e_p (zU rfl rfl)<|zk<|zf<|zT rfl (fun hadj=> ?_) (fun hadj=> ?_)
   ·
    have hsg:(decide (decide (x1<0)≠decide (x2<0)))=true:=decide_eq_true hadj
    have hr0:x1.natAbs%x2.natAbs≠0:=fun e=>by have h9:=hpos;rw [e,Big.digs_zero] at h9;exact absurd h9 dd
    refine zc<|e_mv rfl<|zJa rfl rfl (zQ (enc:=fun z:Int=>[.int .u32 z]) (ok:=InK .u32) (h1:=fun _=>rfl) (h2:=fun _=>rfl) (k:=1) yg inf131 rfl dd dd dd (.c (x:=1) rfl rfl (fun _ _=>by exact zE.2 om) .n)) (fun b16 _=> ?_)
    refine zqa 0 rfl .z ?_
    have e17:[1]=yf 1:=by exact (Big.digs_one (s:=1) dd dd).symm
    rw [e17]
    have e18:(.slice (some ⟨b16,0,none⟩) 1 1:Value)= .slice (some ⟨b16,0,none⟩) ((yf 1).length) 1:=by rfl
    rw [e18]
    refine zG rfl rfl (.c rfl (.c rfl .n)) ce136 (zJd (a:=((x1).natAbs) / ((x2).natAbs)) (b:=1) (p1:=p310) (c1:=c311) (p2:=some ⟨b16,0,none⟩) (c2:=1) (hb1:=by first|rfl|assumption|omega|(decide +kernel)) (hb2:=by first|rfl|assumption|omega|(decide +kernel))) (.c (j:=2) rfl (.c (j:=0) rfl .n)) ?_
    rintro ⟨p319,c320⟩ -
    dsimp only [aq,nq,cq]
    refine e_mv rfl<|e_mv rfl<|zG rfl rfl (.c rfl (.c rfl .n)) ce137 (zRc (a:=(x2).natAbs) (b:=(((x1).natAbs)%((x2).natAbs))) (p1:=p27) (c1:=c28) (p2:=p214) (c2:=c215) (hb1:=by first|rfl|assumption|omega|(decide +kernel)) (hb2:=by first|rfl|assumption|omega|(decide +kernel)) (hab:=by first|rfl|assumption|omega|(decide +kernel))) (.c (j:=5) rfl (.c (j:=2) rfl .n)) ?_
    rintro ⟨p321,c322⟩ -
    dsimp only [aq,nq,cq]
    refine e_p (zh rfl)<|e_p (zh rfl)<|zk<|zf<|zj<|zba (.c (i:=2) rfl (.c (i:=1) rfl (.c (i:=0) rfl (.c (i:=0) rfl (.c (i:=0) rfl .n)))))<|zO (OW:=[boxA b3 42 [wz.b,wz.l],boxA b4 42 [wz.b,wz.l]]) (O:=[emA,boxA b2 42 [.bool (decide (x2<0)),.slice p2 ((yf ((x2).natAbs)).length) c2],boxA b1 42 [.bool (decide (x1<0)),.slice p1 ((yf ((x1).natAbs)).length) c1]]) 11 mixed (.then .ret) kr<|e_pv 0 rfl rfl (zg yn rfl sz4 rfl rfl)<|e_uw 1 rfl rfl (ze 4 ty4 rfl rfl rfl)<|e_pv 2 rfl rfl (zg yn rfl sz4 rfl rfl)<|e_uw 3 rfl rfl (ze 3 ty4 rfl rfl rfl)<|e_pv 4 rfl rfl (zUa yB rfl rfl)<|e_dm 5 rfl rfl rfl<|e_pv 7 rfl rfl (zg yn rfl sz4 rfl rfl)<|e_uw 8 rfl rfl (ze 3 ty4 rfl rfl rfl)<|e_dm 9 rfl rfl rfl<|e_one 6 (zm rfl rfl rfl rfl (.c rfl (.c rfl .n)) ce120 (zHa (s:=decide (decide (x1<0)≠decide (x2<0))) (a:=(((x1).natAbs) / ((x2).natAbs))+1) (p:=p319) (cap:=c320)) (.c (j:=1) rfl .n) ?_)
    rintro ⟨p223,c224⟩ -
    dsimp only [aq,nq,cq]
    refine e_one 10 (zm rfl rfl rfl rfl (.c rfl (.c rfl .n)) ce120 (zHa (s:=decide (x2<0)) (a:=((x2).natAbs) - (((x1).natAbs)%((x2).natAbs))) (p:=p321) (cap:=c322)) (.c (j:=1) rfl .n) ?_)
    rintro ⟨p225,c226⟩ -
    dsimp only [aq,nq,cq]
    refine e_one 11 (zo kr rfl rfl rfl rfl rfl sz42 rfl (.t2 .nil) ?_)
    refine zcb (zta (i:=1) rfl)<|e_one 12 (zo kr rfl rfl rfl rfl rfl sz42 rfl (.t2 .nil) ?_)
    refine e_pv 13 rfl rfl (zh rfl)<|zM kr<|zf<|zR ?_
    have hz1:Big.sg (decide (decide (x1<0)≠decide (x2<0))) ((x1.natAbs / x2.natAbs+1:Nat):Int)=Big.fq x1 x2:=by rw [hsg];exact (Big.fq_odd hy hadj hr0).1
    have hz2:Big.sg (decide (x2<0)) ((x2.natAbs - x1.natAbs%x2.natAbs:Nat):Int)=Big.fr x1 x2:=(Big.fq_odd hy hadj hr0).2
    exact zbd Tryz.results124 (p223,c224,p225,c226) trivial (zr 1 ty42 rfl rfl (.t2 .nil)) (zr 0 ty42 rfl rfl (.t2 .nil)) (zD rfl) (by rw [hz1,hz2]) (ho:=(.n:PickO _ _ _)) ((.e (j:=1) rfl (by rw [hz1]) (.e (j:=0) rfl (by rw [hz2]) .n)):SelR _ _ _)
   ·
    refine zB<|zf<|zj<|zba (.c (i:=1) rfl (.c (i:=0) rfl (.c (i:=0) rfl (.c (i:=0) rfl .n))))<|zO (OW:=[boxA b3 42 [wz.b,wz.l],boxA b4 42 [wz.b,wz.l]]) (O:=[boxA b2 42 [.bool (decide (x2<0)),.slice p2 ((yf ((x2).natAbs)).length) c2],boxA b1 42 [.bool (decide (x1<0)),.slice p1 ((yf ((x1).natAbs)).length) c1]]) 11 mixed (.then .ret) kr<|e_pv 0 rfl rfl (zg yn rfl sz4 rfl rfl)<|e_uw 1 rfl rfl (ze 3 ty4 rfl rfl rfl)<|e_pv 2 rfl rfl (zg yn rfl sz4 rfl rfl)<|e_uw 3 rfl rfl (ze 2 ty4 rfl rfl rfl)<|e_pv 4 rfl rfl (zUa yB rfl rfl)<|e_dm 5 rfl rfl rfl<|e_pv 7 rfl rfl (zg yn rfl sz4 rfl rfl)<|e_uw 8 rfl rfl (ze 2 ty4 rfl rfl rfl)<|e_dm 9 rfl rfl rfl<|e_one 6 (zm rfl rfl rfl rfl (.c rfl (.c rfl .n)) ce120 (zHa (s:=decide (decide (x1<0)≠decide (x2<0))) (a:=((x1).natAbs) / ((x2).natAbs)) (p:=p310) (cap:=c311)) (.c (j:=1) rfl .n) ?_)
    rintro ⟨p227,c228⟩ -
    dsimp only [aq,nq,cq]
    refine e_one 10 (zm rfl rfl rfl rfl (.c rfl (.c rfl .n)) ce120 (zHa (s:=decide (x2<0)) (a:=(((x1).natAbs)%((x2).natAbs))) (p:=p214) (cap:=c215)) (.c (j:=1) rfl .n) ?_)
    rintro ⟨p229,c230⟩ -
    dsimp only [aq,nq,cq]
    refine e_one 11 (zo kr rfl rfl rfl rfl rfl sz42 rfl (.t2 .nil) ?_)
    refine zcb (zta (i:=1) rfl)<|e_one 12 (zo kr rfl rfl rfl rfl rfl sz42 rfl (.t2 .nil) ?_)
    refine e_pv 13 rfl rfl (zh rfl)<|zM kr<|zf<|zR ?_
    have hsg:(decide (decide (x1<0)≠decide (x2<0)))=false:=decide_eq_false hadj
    have hz1:Big.sg (decide (decide (x1<0)≠decide (x2<0))) ((x1.natAbs / x2.natAbs:Nat):Int)=Big.fq x1 x2:=by rw [hsg];exact (Big.fq_same hy (Decidable.not_not.1 hadj)).1
    have hz2:Big.sg (decide (x2<0)) ((x1.natAbs%x2.natAbs:Nat):Int)=Big.fr x1 x2:=(Big.fq_same hy (Decidable.not_not.1 hadj)).2
    exact zbd Tryz.results124 (p227,c228,p229,c230) trivial (zr 1 ty42 rfl rfl (.t2 .nil)) (zr 0 ty42 rfl rfl (.t2 .nil)) (zD rfl) (by rw [hz1,hz2]) (ho:=(.n:PickO _ _ _)) ((.e (j:=1) rfl (by rw [hz1]) (.e (j:=0) rfl (by rw [hz2]) .n)):SelR _ _ _)
  ·
   refine e_no<|e_no<|e_no<|e_no<|e_no<|e_p (zU rfl rfl)<|zk<|zf<|zua rfl rfl<|zB<|zf<|zj<|zba (.c (i:=1) rfl (.c (i:=0) rfl (.c (i:=0) rfl (.c (i:=0) rfl .n))))<|zO (OW:=[boxA b3 42 [wz.b,wz.l],boxA b4 42 [wz.b,wz.l]]) (O:=[boxA b2 42 [.bool (decide (x2<0)),.slice p2 ((yf ((x2).natAbs)).length) c2],boxA b1 42 [.bool (decide (x1<0)),.slice p1 ((yf ((x1).natAbs)).length) c1]]) 11 mixed (.then .ret) kr<|e_pv 0 rfl rfl (zg yn rfl sz4 rfl rfl)<|e_uw 1 rfl rfl (ze 3 ty4 rfl rfl rfl)<|e_pv 2 rfl rfl (zg yn rfl sz4 rfl rfl)<|e_uw 3 rfl rfl (ze 2 ty4 rfl rfl rfl)<|e_pv 4 rfl rfl (zUa yB rfl rfl)<|e_dm 5 rfl rfl rfl<|e_pv 7 rfl rfl (zg yn rfl sz4 rfl rfl)<|e_uw 8 rfl rfl (ze 2 ty4 rfl rfl rfl)<|e_dm 9 rfl rfl rfl<|e_one 6 (zm rfl rfl rfl rfl (.c rfl (.c rfl .n)) ce120 (zHa (s:=decide (decide (x1<0)≠decide (x2<0))) (a:=((x1).natAbs) / ((x2).natAbs)) (p:=p310) (cap:=c311)) (.c (j:=1) rfl .n) ?_)
   rintro ⟨p231,c232⟩ -
   dsimp only [aq,nq,cq]
   refine e_one 10 (zm rfl rfl rfl rfl (.c rfl (.c rfl .n)) ce120 (zHa (s:=decide (x2<0)) (a:=(((x1).natAbs)%((x2).natAbs))) (p:=p214) (cap:=c215)) (.c (j:=1) rfl .n) ?_)
   rintro ⟨p233,c234⟩ -
   dsimp only [aq,nq,cq]
   refine e_one 11 (zo kr rfl rfl rfl rfl rfl sz42 rfl (.t2 .nil) ?_)
   refine zcb (zta (i:=1) rfl)<|e_one 12 (zo kr rfl rfl rfl rfl rfl sz42 rfl (.t2 .nil) ?_)
   refine e_pv 13 rfl rfl (zh rfl)<|zM kr<|zf<|zR ?_
   have hr0:x1.natAbs%x2.natAbs=0:=yK.1 om
   have hz:Big.sg (decide (decide (x1<0)≠decide (x2<0))) ((x1.natAbs / x2.natAbs:Nat):Int)=Big.fq x1 x2∧Big.sg (decide (x2<0)) ((x1.natAbs%x2.natAbs:Nat):Int)=Big.fr x1 x2:=by by_cases h:decide (x1<0)=decide (x2<0);rw [decide_eq_false (not_not_intro h)];exact Big.fq_same hy h;rw [decide_eq_true h];exact Big.fq_even hy h hr0
   exact zbd Tryz.results124 (p231,c232,p233,c234) trivial (zr 1 ty42 rfl rfl (.t2 .nil)) (zr 0 ty42 rfl rfl (.t2 .nil)) (zD rfl) (by rw [hz.1,hz.2]) (ho:=(.n:PickO _ _ _)) ((.e (j:=1) rfl (by rw [hz.1]) (.e (j:=0) rfl (by rw [hz.2]) .n)):SelR _ _ _)
theorem zKb {w1:Wd} {w2:Wd} {x1:Int} {x2:Int} (hb1:yx x1≤1099511627776) (hb2:yx x2≤1099511627776) (hy:x2≠0):Con yl 124 [.agg #[w1.b,w1.l],.agg #[w2.b,w2.l]] [] [zF w1 (x1),zF w2 (x2)] (Y:=(Wd)×(Wd)) (fun y=>True) (fun y=> .tuple #[.agg #[y.1.b,y.1.l],.agg #[y.2.b,y.2.l],yc yd (0)]) (fun y=>[]) (fun y=>[zF y.1 (Big.fq x1 x2),zF y.2 (Big.fr x1 x2)]):=by
  exact zSe (zBc (fun p1 c1 p2 c2=>zce hb1 hb2 hy))
theorem zMd {x1:Int} {x2:Int} {p1:Option Addr} {c1:Nat} {p2:Option Addr} {c2:Nat}:Con yl 102 [.agg #[.bool (decide (x1<0)),.slice p1 ((yf ((x1).natAbs)).length) c1],.agg #[.bool (decide (x2<0)),.slice p2 ((yf ((x2).natAbs)).length) c2]] [] [slF (rI .u32) p1 c1 (yf ((x1).natAbs)),slF (rI .u32) p2 c2 (yf ((x2).natAbs))] (Y:=Unit) (fun y=>True) (fun y=> yc yd (Big.cmp x1 x2)) (fun y=>[]) (fun y=>[]):=by
 refine zx Tryz.func102 rfl rfl rfl (fun c=> ?_)
 show RunC _ _ _ _ _ [(0,.agg #[.bool (decide (x1<0)),.slice p1 ((yf ((x1).natAbs)).length) c1]),(1,.agg #[.bool (decide (x2<0)),.slice p2 ((yf ((x2).natAbs)).length) c2])] [] [slF (rI .u32) p1 c1 (yf ((x1).natAbs)),slF (rI .u32) p2 c2 (yf ((x2).natAbs))]
 refine zpa 0 rfl (fun hL0=> ?_)
 refine zpa 1 rfl (fun hL1=> ?_)
 have hcb:=Big.cmp_b (x1.natAbs:Int) (x2.natAbs:Int)
 refine zj<|zc<|zJ rfl rfl (zda rfl rfl) (fun b1=> ?_)
 refine zJ rfl rfl (zda rfl rfl) (fun b2=> ?_)
 refine e_p (zh rfl)<|zk<|zf<|zj<|zj<|zO (OW:=[]) (O:=[boxA b2 42 [.bool (decide (x2<0)),.slice p2 ((yf ((x2).natAbs)).length) c2],boxA b1 42 [.bool (decide (x1<0)),.slice p1 ((yf ((x1).natAbs)).length) c1]]) 100000 mixed (.then (.then .ret)) kr<|e_u 0 rfl rfl (zd 1 ty42 rfl rfl (.t2 .nil))<|e_u 2 rfl rfl (zd 0 ty42 rfl rfl (.t2 .nil))<|e_one 1 (zBa rfl rfl rfl rfl (.c rfl .n) ce105 (zSc (z:=x1) (p:=p1) (cap:=c1)) (.c (j:=0) rfl .n) ?_)
 refine e_one 3 (zBa rfl rfl rfl rfl (.c rfl .n) ce105 (zSc (z:=x2) (p:=p2) (cap:=c2)) (.c (j:=1) rfl .n) ?_)
 refine e_pv 4 rfl rfl (zh rfl)<|e_pv 5 rfl rfl (zh rfl)<|zM kr<|zf<|zj<|zc<|e_mv rfl<|e_mv rfl<|e_p (zvb rfl rfl)<|zk<|zf<|zT rfl (fun hs=> ?_) (fun hs=> ?_)
 ·
  refine zj<|zc<|e_mv rfl<|e_mv rfl<|zV rfl rfl (.c rfl (.c rfl .n)) ce117 (zQc (u:=(x1).sign) (v:=(x2).sign)) (.n)<|e_p (zh rfl)<|zk<|zf<|zR<|zq ?_
  exact zL Tryz.results102 () trivial (zD rfl) (by rw [Big.cmp_signs hs]) (ho:=(.n:PickO _ _ _)) (.n:SelR _ _ _)
 ·
  refine zB<|zf<|zj<|zO (OW:=[]) (O:=[boxA b2 42 [.bool (decide (x2<0)),.slice p2 ((yf ((x2).natAbs)).length) c2],boxA b1 42 [.bool (decide (x1<0)),.slice p1 ((yf ((x1).natAbs)).length) c1]]) 100000 mixed (.then .ret) kr<|e_u 0 rfl rfl (zd 1 ty42 rfl rfl (.t2 .nil))<|e_u 2 rfl rfl (zd 0 ty42 rfl rfl (.t2 .nil))<|e_one 1 (zm rfl rfl rfl rfl (.c rfl .n) ce119 (zIb (z:=x1) (p:=p1) (cap:=c1)) (.c (j:=0) rfl .n) ?_)
  rintro ⟨p23,c24⟩ -
  dsimp only [aq,nq,cq]
  refine e_one 3 (zm rfl rfl rfl rfl (.c rfl .n) ce119 (zIb (z:=x2) (p:=p2) (cap:=c2)) (.c (j:=2) rfl .n) ?_)
  rintro ⟨p25,c26⟩ -
  dsimp only [aq,nq,cq]
  refine e_one 4 (zBa rfl rfl rfl rfl (.c rfl (.c rfl .n)) ce118 (zdc (a:=(x1).natAbs) (b:=(x2).natAbs) (p1:=p23) (c1:=c24) (p2:=p25) (c2:=c26)) (.c (j:=1) rfl (.c (j:=0) rfl .n)) ?_)
  refine e_pv 5 rfl rfl (zh rfl)<|zM kr<|zf<|zj<|zj<|zc<|e_p (zg yn rfl sz4 rfl rfl)<|e_ru (ze 1 ty4 rfl rfl rfl)<|zk<|zf<|zhb rfl (fun hn=> ?_) (fun hn=> ?_)
  ·
   refine zj<|zc<|e_mv rfl<|e_p (zhc (z:=(-(Big.cmp (((x1).natAbs):Int) (((x2).natAbs):Int)))) rfl (w64 om))<|e_p (zh rfl)<|zk<|zf<|zR<|zq ?_
   exact zL Tryz.results102 () trivial (zD rfl) (by rw [Big.cmp_neg hs (by simpa using hn)]) (ho:=(.n:PickO _ _ _)) (.n:SelR _ _ _)
  ·
   refine zB<|zf<|zj<|zc<|e_mv rfl<|e_p (zh rfl)<|zk<|zf<|zR ?_
   exact zL Tryz.results102 () trivial (zD rfl) (by rw [Big.cmp_pos hs (by simpa using hn)]) (ho:=(.n:PickO _ _ _)) (.n:SelR _ _ _)
theorem zde {s:Bool} {p:Option Addr} {n:Nat} {cap:Nat} {l:List Int} (hn:l.length=n) (hln:yx (ym s l)≤1099511627776):Con yl 123 [.agg #[.bool s,.slice p n cap]] [] [slF (rI .u32) p cap l] (Y:=(Option Addr)×Nat) (fun y=>True) (fun y=> .agg #[.bool (decide ((- ym s l)<0)),.slice (y.1) ((yf ((- ym s l).natAbs)).length) (y.2)]) (fun y=>[]) (fun y=>[slF (rI .u32) (y.1) (y.2) (yf ((- ym s l).natAbs))]):=by
 refine zx Tryz.func123 rfl rfl rfl (fun c=> ?_)
 show RunC _ _ _ _ _ [(0,.agg #[.bool s,.slice p n cap])] [] [slF (rI .u32) p cap l]
 refine zpa 0 rfl (fun hL0=> ?_)
 refine zfb 0 rfl (fun hE0=> ?_)
 have hnn:Big.nn l:=fun g hg=>(zE.1 (hE0 g hg)).1
 unfold yx at hln
 refine zj<|zc<|zJ rfl rfl (zda rfl rfl) (fun b1=> ?_)
 refine zJ rfl rfl (zp zr42 rfl) (fun b2=> ?_)
 refine zk<|zf<|zj<|zO (OW:=[boxA b2 42 [wz.b,wz.l]]) (O:=[boxA b1 42 [.bool s,.slice p n cap]]) 7 mixed (.then .ret) kr<|e_pv 0 rfl rfl (zg yn rfl sz4 rfl rfl)<|e_uw 1 rfl rfl (ze 1 ty4 rfl rfl rfl)<|e_pv 2 rfl rfl (zic rfl)<|e_uw 3 rfl rfl (zd 1 ty42 rfl rfl (.t2 .nil))<|e_one 4 (zm rfl rfl rfl rfl (.c rfl .n) ce119 (zXa (s:=s) (p:=p) (n:=n) (cap:=cap) (l:=l) (hn:=ass)) (.c (j:=0) rfl .n) ?_)
 rintro ⟨p23,c24⟩ -
 dsimp only [aq,nq,cq]
 refine e_one 5 (zm rfl rfl rfl rfl (.c rfl .n) ce131 (zsd (a:=(ym s l).natAbs) (p:=p23) (cap:=c24) (hb:=cbb)) (.c (j:=0) rfl .n) ?_)
 rintro ⟨p25,c26⟩ -
 dsimp only [aq,nq,cq]
 refine e_one 6 (zm rfl rfl rfl rfl (.c rfl (.c rfl .n)) ce120 (zHa (s:= !s) (a:=((ym s l).natAbs)) (p:=p25) (cap:=c26)) (.c (j:=0) rfl .n) ?_)
 rintro ⟨p27,c28⟩ -
 dsimp only [aq,nq,cq]
 refine e_one 7 (zo kr rfl rfl rfl rfl rfl sz42 rfl (.t2 .nil) ?_)
 refine zM kr<|zf<|zR ?_
 have hz:Big.sg (!s) ((ym s l).natAbs:Int)= - ym s l:=by rw [Big.sg_not,Big.sg_raw hnn]
 exact zL Tryz.results123 (p27,c28) trivial (zr 0 ty42 rfl rfl (.t2 .nil)) (by rw [hz]) (ho:=(.n:PickO _ _ _)) ((.e (j:=0) rfl (by rw [hz]) .n):SelR _ _ _)
theorem ztd {z:Int} {p:Option Addr} {cap:Nat} (hln:yx z≤1099511627776):Con yl 123 [.agg #[.bool (decide ((z)<0)),.slice (p) ((yf ((z).natAbs)).length) (cap)]] [] [slF (rI .u32) (p) (cap) (yf ((z).natAbs))] (Y:=(Option Addr)×(Nat)) (fun y=>True) (fun y=> .agg #[.bool (decide ((- z)<0)),.slice (y.1) ((yf ((- z).natAbs)).length) (y.2)]) (fun y=>[]) (fun y=>[slF (rI .u32) (y.1) (y.2) (yf ((- z).natAbs))]):=by
  have h:= @zde (decide ((z)<0)) p (yf (z).natAbs).length cap (yf (z).natAbs) rfl (by rw [yE];exact hln)
  rw [yE] at h
  exact h
theorem zud {w1:Wd} {x1:Int} (hln:yx x1≤1099511627776):Con yl 123 [.agg #[w1.b,w1.l]] [] [zF w1 (x1)] (Y:=(Wd)) (fun y=>True) (fun y=> .agg #[y.b,y.l]) (fun y=>[]) (fun y=>[zF y (- x1)]):=by
  exact zac (zGd (fun p c=>ztd hln))
end Go.Proofs.YtjeahiahjgifgaaGreatDoor.Sp
namespace Go.Proofs.YtjeahiahjgifgaaGreatDoor.Sp
open Go
set_option linter.unusedVariables false
set_option maxRecDepth 100000
set_option maxHeartbeats 8000000
theorem zye {s:Bool} {p1:Option Addr} {n1:Nat} {c1:Nat} {l1:List Int} {t:Bool} {p2:Option Addr} {n2:Nat} {c2:Nat} {l2:List Int} (hn1:l1.length=n1) (hn2:l2.length=n2) (hm1:n1≤1048576) (hm2:n2≤1048576):Con yl 97 [.agg #[.bool s,.slice p1 n1 c1,.bool t,.slice p2 n2 c2]] [] [slF (rI .u32) p1 c1 l1,slF (rI .u32) p2 c2 l2] (Y:=Unit) (fun y=>True) (fun y=> .bool (decide (Big.qok ((s,l1),(t,l2))))) (fun y=>[]) (fun y=>[]):=by
 refine zx Tryz.func97 rfl rfl rfl (fun c=> ?_)
 show RunC _ _ _ _ _ [(0,.agg #[.bool s,.slice p1 n1 c1,.bool t,.slice p2 n2 c2])] [] [slF (rI .u32) p1 c1 l1,slF (rI .u32) p2 c2 l2]
 refine zpa 0 rfl (fun hL0=> ?_)
 refine zfb 0 rfl (fun hE0=> ?_)
 refine zpa 1 rfl (fun hL1=> ?_)
 refine zfb 1 rfl (fun hE1=> ?_)
 have hnn1:Big.nn l1:=fun g hg=>(zE.1 (hE0 g hg)).1
 have hnn2:Big.nn l2:=fun g hg=>(zE.1 (hE1 g hg)).1
 have hb1:yx (ym s l1)≤n1:=by have:=Big.zgb (s:=s) hnn1;omega
 have hb2:yx (ym t l2)≤n2:=by have:=Big.zgb (s:=t) hnn2;omega
 refine zj<|zc<|zJ rfl rfl (zda rfl rfl) (fun b1=> ?_)
 refine e_p (zh rfl)<|zk<|zf<|zj<|zIa (X:=Unit) (fun x=>True) (fun x=>[(18,.bool (decide (¬(Big.canon s l1∧Big.canon t l2∧0<ym t l2)))),(2,.bool false),(1,ye (some ⟨b1,0,none⟩))]) (fun x=>[boxA b1 44 [.bool s,.slice p1 n1 c1,.bool t,.slice p2 n2 c2]]) (fun x=>[slF (rI .u32) p1 c1 l1,slF (rI .u32) p2 c2 l2]) ?_ ?_
 ·
  refine zc<|e_p (zg yi rfl sz42 rfl rfl)<|e_ru (zd 0 ty42 rfl rfl (.t2 .nil))<|zV rfl rfl (.c rfl .n) ce111 (zoc (s:=s) (p:=p1) (n:=n1) (cap:=c1) (l:=l1) (hn:=ass)) (.c (j:=0) rfl .n)<|e_p (zKa rfl)<|zsa rfl rfl (zva rfl) (fun h2=> ?_) (fun h2=> ?_)
  ·
   refine e_no<|e_no<|e_no<|e_no<|e_p (zU rfl rfl)<|e_mv rfl<|e_no<|e_no<|e_no<|e_no<|e_p (zU rfl rfl)<|zk ?_
   exact zna () (show True from by first|trivial|omega|simp_all) ((.e rfl (congrArg Value.bool (by simp_all)) (.c rfl (.c rfl .n))):SubM _ _) (ho:=((.c (i:=0) rfl .n):PickO _ _ _)) ((.of [0,1] rfl):SelR _ _ _)
  ·
   refine e_p (zg yi rfl sz42 rfl rfl)<|e_ru (zd 0 ty42 rfl rfl (.s2 (.t2 .nil)))<|zV rfl rfl (.c rfl .n) ce111 (zoc (s:=t) (p:=p2) (n:=n2) (cap:=c2) (l:=l2) (hn:=ass)) (.c (j:=1) rfl .n)<|e_p (zKa rfl)<|e_p (zU rfl rfl)<|zsa rfl rfl (zva rfl) (fun h3=> ?_) (fun h3=> ?_)
   ·
    refine e_no<|e_no<|e_no<|e_no<|e_p (zU rfl rfl)<|zk ?_
    exact zna () (show True from by first|trivial|omega|simp_all) ((.e rfl (congrArg Value.bool (by simp_all)) (.c rfl (.c rfl .n))):SubM _ _) (ho:=((.c (i:=0) rfl .n):PickO _ _ _)) ((.of [0,1] rfl):SelR _ _ _)
   ·
    refine e_p (zg yi rfl sz42 rfl rfl)<|e_ru (zd 0 ty42 rfl rfl (.s2 (.t2 .nil)))<|zV rfl rfl (.c rfl .n) ce105 (zle (s:=t) (p:=p2) (n:=n2) (cap:=c2) (l:=l2) (hn:=ass)) (.c (j:=1) rfl .n)<|e_p (zIc rfl rfl)<|e_p (zU rfl rfl)<|zk ?_
    exact zna () (show True from by first|trivial|omega|simp_all) ((.e rfl (congrArg Value.bool (by exact decide_eq_decide.2 (Big.sgn_le (Decidable.not_not.1 ‹_›) (Decidable.not_not.1 ‹_›)))) (.c rfl (.c rfl .n))):SubM _ _) (ho:=((.c (i:=0) rfl .n):PickO _ _ _)) ((.of [0,1] rfl):SelR _ _ _)
 ·
  rintro ⟨⟩ -
  try dsimp only
  refine zT rfl (fun hc=> ?_) (fun hc=> ?_)
  ·
   refine zj<|zc<|e_p (zh rfl)<|zk<|zf<|zR<|zq ?_
   exact zL Tryz.results97 () trivial (zD rfl) (congrArg Value.bool (decide_eq_false (fun h=>hc ⟨h.1,h.2.1,h.2.2.1⟩))) (ho:=(.n:PickO _ _ _)) (.n:SelR _ _ _)
  ·
   refine zB<|zf<|zj<|zc<|e_p (zg yi rfl sz42 rfl rfl)<|e_ru (zd 0 ty42 rfl rfl (.t2 .nil))<|e_p (zg yi rfl sz42 rfl rfl)<|e_ru (zd 0 ty42 rfl rfl (.s2 (.t2 .nil)))<|zG rfl rfl (.c rfl (.c rfl .n)) ce112 (zUe (s:=s) (p1:=p1) (n1:=n1) (c1:=c1) (l1:=l1) (t:=t) (p2:=p2) (n2:=n2) (c2:=c2) (l2:=l2) (hn1:=ass) (hn2:=ass) (hb1:=by first|rfl|assumption|omega|(rw [yo];omega)|(decide +kernel)) (hb2:=by first|rfl|assumption|omega|(rw [yo];omega)|(decide +kernel))) (.c (j:=0) rfl (.c (j:=1) rfl .n)) ?_
   rintro ⟨p34,c35⟩ -
   dsimp only [aq,nq,cq]
   refine zG rfl rfl (.c rfl .n) ce104 (zBf (z:=1) (hz:=by first|rfl|assumption|omega|(rw [yo];omega)|(decide +kernel))) (.n) ?_
   rintro ⟨p26,c27⟩ -
   dsimp only [aq,nq,cq]
   refine zV rfl rfl (.c rfl (.c rfl .n)) ce102 (zMd (x1:=((Nat.gcd (ym s l1).natAbs (ym t l2).natAbs:Nat):Int)) (x2:=1) (p1:=p34) (c1:=c35) (p2:=p26) (c2:=c27)) (.c (j:=1) rfl (.c (j:=0) rfl .n))<|e_p (zMa rfl rfl)<|e_p (zh rfl)<|zk<|zf<|zR ?_
   exact zL Tryz.results97 () trivial (zD rfl) (congrArg Value.bool (decide_eq_decide.2 (Big.qok_gcd (x:=((s,l1),(t,l2))) (Decidable.not_not.1 hc)).symm)) (ho:=(.n:PickO _ _ _)) (.n:SelR _ _ _)
theorem zLb {w1:Wd} {w2:Wd} {x1:Int} {x2:Int} (hl1:yx x1≤1048576) (hl2:yx x2≤1048576) (hd:x2≠0):Con yl 106 [.agg #[w1.b,w1.l],.agg #[w2.b,w2.l]] [] [zF w1 x1,zF w2 x2] (Y:=Wd×Wd) (fun y=>True) (fun y=> .agg #[y.1.b,y.1.l,y.2.b,y.2.l]) (fun y=>[]) (fun y=>[qF true y.1 y.2 (Rat.divInt x1 x2)]):=by
 refine zx Tryz.func106 rfl rfl rfl (fun c=> ?_)
 show RunC _ _ _ _ _ [(0,.agg #[w1.b,w1.l]),(1,.agg #[w2.b,w2.l])] [] [zF w1 x1,zF w2 x2]
 refine zj<|zc<|zJ rfl rfl (zda rfl rfl) (fun b1=> ?_)
 refine zJ rfl rfl (zda rfl rfl) (fun b2=> ?_)
 refine zJ rfl rfl (zp zr44 rfl) (fun b3=> ?_)
 refine zk<|zf<|zj<|zj<|zc<|e_ru (zd 1 ty42 rfl rfl (.t2 .nil))<|zV rfl rfl (.c rfl .n) ce105 (zpc (w1:=w2) (x1:=x2)) (.c (j:=1) rfl .n)<|e_p (zS rfl rfl)<|zk<|zf<|zT rfl (fun hneg=> ?_) (fun hneg=> ?_)
 ·
  have hs:x2<0:=by rcases Big.sign_le (x:=x2) with h|h|h <;> omega
  have hgp:=Big.gcd_pos_right (n:= -x1) (d:= -x2) om
  have hgl:=Big.zHd (n:= -x1) (d:= -x2) om
  rw [yo] at hgl
  obtain ⟨hr1,hr2⟩:=Big.red_flip (n:=x1) hs
  refine zba (.c (i:=2) rfl (.c (i:=1) rfl (.c (i:=0) rfl .n)))<|zO (OW:=[boxA b1 42 [w1.b,w1.l],boxA b2 42 [w2.b,w2.l]]) (O:=[boxA b3 44 (cw [wz,wz])]) 4 mixed (.then .ret) kr<|e_uw 0 rfl rfl (zd 0 ty42 rfl rfl (.t2 .nil))<|e_uw 2 rfl rfl (zd 1 ty42 rfl rfl (.t2 .nil))<|e_one 1 (zm rfl rfl rfl rfl (.c rfl .n) ce123 (zud (w1:=w1) (x1:=x1) (hln:=by first|rfl|assumption|omega|(rw [yo];omega)|(decide +kernel))) (.c (j:=0) rfl .n) ?_)
  rintro w34 -
  dsimp only [aq,nq,cq]
  refine e_one 3 (zm rfl rfl rfl rfl (.c rfl .n) ce123 (zud (w1:=w2) (x1:=x2) (hln:=by first|rfl|assumption|omega|(rw [yo];omega)|(decide +kernel))) (.c (j:=2) rfl .n) ?_)
  rintro w35 -
  dsimp only [aq,nq,cq]
  refine e_one 4 (zo kr rfl rfl rfl rfl rfl sz42 rfl (.t2 .nil) ?_)
  refine zcb (zta (i:=1) rfl)<|e_one 5 (zo kr rfl rfl rfl rfl rfl sz42 rfl (.t2 .nil) ?_)
  refine zM kr<|zf<|zj<|zc<|e_ru (zd 1 ty42 rfl rfl (.t2 .nil))<|e_ru (zd 0 ty42 rfl rfl (.t2 .nil))<|zG rfl rfl (.c rfl (.c rfl .n)) ce112 (zne (w1:=w34) (w2:=w35) (x1:= - x1) (x2:= - x2) (hb1:=by first|rfl|assumption|omega|(rw [yo];omega)|(decide +kernel)) (hb2:=by first|rfl|assumption|omega|(rw [yo];omega)|(decide +kernel))) (.c (j:=1) rfl (.c (j:=0) rfl .n)) ?_
  rintro w36 -
  dsimp only [aq,nq,cq]
  refine zJ rfl rfl (zp zr42 rfl) (fun b7=> ?_)
  refine zl 0 rfl rfl rfl rfl rfl sz42 rfl (.t2 .nil) .z<|zk<|zf<|zj<|zc<|e_ru (zd 2 ty42 rfl rfl (.t2 .nil))<|e_ru (zd 0 ty42 rfl rfl (.t2 .nil))<|zG rfl rfl (.c rfl (.c rfl .n)) ce124 (zKb (w1:=w34) (w2:=w36) (x1:= - x1) (x2:=((Nat.gcd (- x1).natAbs (- x2).natAbs:Nat):Int)) (hb1:=by first|rfl|assumption|omega|(rw [yo];omega)|(decide +kernel)) (hb2:=by first|rfl|assumption|omega|(rw [yo];omega)|(decide +kernel)) (hy:=by first|rfl|assumption|omega|(rw [yo];omega)|(decide +kernel))) (.c (j:=2) rfl (.c (j:=0) rfl .n)) ?_
  rintro ⟨w38,w49⟩ -
  dsimp only [aq,nq,cq]
  refine e_mv rfl<|e_p (zw rfl rfl)<|e_p (zw rfl rfl)<|e_p (zw rfl rfl)<|zl 2 rfl rfl rfl rfl rfl sz42 rfl (.t2 .nil) (.s (.s .z))<|zk<|zf<|zj<|zc<|e_ru (zd 1 ty42 rfl rfl (.t2 .nil))<|e_ru (zd 0 ty42 rfl rfl (.t2 .nil))<|zG rfl rfl (.c rfl (.c rfl .n)) ce124 (zKb (w1:=w35) (w2:=w36) (x1:= - x2) (x2:=((Nat.gcd (- x1).natAbs (- x2).natAbs:Nat):Int)) (hb1:=by first|rfl|assumption|omega|(rw [yo];omega)|(decide +kernel)) (hb2:=by first|rfl|assumption|omega|(rw [yo];omega)|(decide +kernel)) (hy:=by first|rfl|assumption|omega|(rw [yo];omega)|(decide +kernel))) (.c (j:=3) rfl (.c (j:=2) rfl .n)) ?_
  rintro ⟨w310,w411⟩ -
  dsimp only [aq,nq,cq]
  refine e_mv rfl<|e_p (zw rfl rfl)<|e_p (zw rfl rfl)<|e_p (zw rfl rfl)<|zl 1 rfl rfl rfl rfl rfl sz42 rfl (.t2 .nil) (.s .z)<|zk<|zf<|zj<|zc<|e_ru (zd 2 ty42 rfl rfl (.t2 .nil))<|e_ru (zd 1 ty42 rfl rfl (.t2 .nil))<|e_p (zv zr44 rfl yi (.c sz42 (.c sz42 .n)) (.c rfl (.c rfl .n)) (.c rfl rfl rfl (.t2 .nil) (.c rfl rfl rfl (.s2 (.t2 .nil)) .n)))<|zl 3 rfl rfl rfl rfl rfl sz44 rfl (.t4 .nil) (.s (.s (.s .z)))<|zk<|zf<|zR<|zbb (qF true w38 w310 (Rat.divInt x1 x2)) (qF_close 2 0 rfl rfl (by exact ⟨hr1,hr2,Nat.le_trans (Big.hq_divInt hd) om⟩)) ?_
  exact zL Tryz.results106 (w38,w310) trivial (zr 3 ty44 rfl rfl (.t4 .nil)) rfl (ho:=(.n:PickO _ _ _)) ((.c (j:=0) rfl .n):SelR _ _ _)
 ·
  have hs:0<x2:=by rcases Big.sign_le (x:=x2) with h|h|h <;> omega
  have hgp:=Big.gcd_pos_right (n:=x1) (d:=x2) om
  have hgl:=Big.zHd (n:=x1) (d:=x2) om
  obtain ⟨hr1,hr2⟩:=Big.red_pos (n:=x1) hs
  refine zB<|zf<|zj<|zc<|e_ru (zd 2 ty42 rfl rfl (.t2 .nil))<|e_ru (zd 1 ty42 rfl rfl (.t2 .nil))<|zG rfl rfl (.c rfl (.c rfl .n)) ce112 (zne (w1:=w1) (w2:=w2) (x1:=x1) (x2:=x2) (hb1:=by first|rfl|assumption|omega|(rw [yo];omega)|(decide +kernel)) (hb2:=by first|rfl|assumption|omega|(rw [yo];omega)|(decide +kernel))) (.c (j:=0) rfl (.c (j:=1) rfl .n)) ?_
  rintro w312 -
  dsimp only [aq,nq,cq]
  refine zJ rfl rfl (zp zr42 rfl) (fun b13=> ?_)
  refine zl 0 rfl rfl rfl rfl rfl sz42 rfl (.t2 .nil) .z<|zk<|zf<|zj<|zc<|e_ru (zd 3 ty42 rfl rfl (.t2 .nil))<|e_ru (zd 0 ty42 rfl rfl (.t2 .nil))<|zG rfl rfl (.c rfl (.c rfl .n)) ce124 (zKb (w1:=w1) (w2:=w312) (x1:=x1) (x2:=((Nat.gcd x1.natAbs x2.natAbs:Nat):Int)) (hb1:=by first|rfl|assumption|omega|(rw [yo];omega)|(decide +kernel)) (hb2:=by first|rfl|assumption|omega|(rw [yo];omega)|(decide +kernel)) (hy:=by first|rfl|assumption|omega|(rw [yo];omega)|(decide +kernel))) (.c (j:=1) rfl (.c (j:=0) rfl .n)) ?_
  rintro ⟨w314,w415⟩ -
  dsimp only [aq,nq,cq]
  refine e_mv rfl<|e_p (zw rfl rfl)<|e_p (zw rfl rfl)<|e_p (zw rfl rfl)<|zl 3 rfl rfl rfl rfl rfl sz42 rfl (.t2 .nil) (.s (.s (.s .z)))<|zk<|zf<|zj<|zc<|e_ru (zd 2 ty42 rfl rfl (.t2 .nil))<|e_ru (zd 0 ty42 rfl rfl (.t2 .nil))<|zG rfl rfl (.c rfl (.c rfl .n)) ce124 (zKb (w1:=w2) (w2:=w312) (x1:=x2) (x2:=((Nat.gcd x1.natAbs x2.natAbs:Nat):Int)) (hb1:=by first|rfl|assumption|omega|(rw [yo];omega)|(decide +kernel)) (hb2:=by first|rfl|assumption|omega|(rw [yo];omega)|(decide +kernel)) (hy:=by first|rfl|assumption|omega|(rw [yo];omega)|(decide +kernel))) (.c (j:=4) rfl (.c (j:=2) rfl .n)) ?_
  rintro ⟨w316,w417⟩ -
  dsimp only [aq,nq,cq]
  refine e_mv rfl<|e_p (zw rfl rfl)<|e_p (zw rfl rfl)<|e_p (zw rfl rfl)<|zl 2 rfl rfl rfl rfl rfl sz42 rfl (.t2 .nil) (.s (.s .z))<|zk<|zf<|zj<|zc<|e_ru (zd 3 ty42 rfl rfl (.t2 .nil))<|e_ru (zd 2 ty42 rfl rfl (.t2 .nil))<|e_p (zv zr44 rfl yi (.c sz42 (.c sz42 .n)) (.c rfl (.c rfl .n)) (.c rfl rfl rfl (.t2 .nil) (.c rfl rfl rfl (.s2 (.t2 .nil)) .n)))<|zl 1 rfl rfl rfl rfl rfl sz44 rfl (.t4 .nil) (.s .z)<|zk<|zf<|zR<|zbb (qF true w314 w316 (Rat.divInt x1 x2)) (qF_close 2 0 rfl rfl (by exact ⟨hr1,hr2,Nat.le_trans (Big.hq_divInt hd) om⟩)) ?_
  exact zL Tryz.results106 (w314,w316) trivial (zr 1 ty44 rfl rfl (.t4 .nil)) rfl (ho:=(.n:PickO _ _ _)) ((.c (j:=0) rfl .n):SelR _ _ _)
theorem zze {s:Bool} {p1:Option Addr} {n1:Nat} {c1:Nat} {l1:List Int} {t:Bool} {p2:Option Addr} {n2:Nat} {c2:Nat} {l2:List Int} (hn1:l1.length=n1) (hn2:l2.length=n2) (hm1:n1≤1048576) (hm2:n2≤1048576) (hq:Big.qok ((s,l1),(t,l2))):Con yl 116 [.agg #[.bool s,.slice p1 n1 c1,.bool t,.slice p2 n2 c2]] [] [slF (rI .u32) p1 c1 l1,slF (rI .u32) p2 c2 l2] (Y:=(Option Addr)×Nat×(Option Addr)×Nat) (fun y=>True) (fun y=> .agg #[.bool (decide (((yL ((s,l1),(t,l2))).num)<0)),.slice (y.1) ((yf (((yL ((s,l1),(t,l2))).num).natAbs)).length) (y.2.1),.bool (decide ((((yL ((s,l1),(t,l2))).den:Nat):Int)<0)),.slice (y.2.2.1) ((yf ((((yL ((s,l1),(t,l2))).den:Nat):Int).natAbs)).length) (y.2.2.2)]) (fun y=>[]) (fun y=>[slF (rI .u32) (y.1) (y.2.1) (yf (((yL ((s,l1),(t,l2))).num).natAbs)),slF (rI .u32) (y.2.2.1) (y.2.2.2) (yf ((((yL ((s,l1),(t,l2))).den:Nat):Int).natAbs))]):=by
 refine zx Tryz.func116 rfl rfl rfl (fun c=> ?_)
 show RunC _ _ _ _ _ [(0,.agg #[.bool s,.slice p1 n1 c1,.bool t,.slice p2 n2 c2])] [] [slF (rI .u32) p1 c1 l1,slF (rI .u32) p2 c2 l2]
 refine zpa 0 rfl (fun hL0=> ?_)
 refine zfb 0 rfl (fun hE0=> ?_)
 refine zpa 1 rfl (fun hL1=> ?_)
 refine zfb 1 rfl (fun hE1=> ?_)
 have hnn1:Big.nn l1:=fun g hg=>(zE.1 (hE0 g hg)).1
 have hnn2:Big.nn l2:=fun g hg=>(zE.1 (hE1 g hg)).1
 have hb1:yx (ym s l1)≤n1:=by have:=Big.zgb (s:=s) hnn1;omega
 have hb2:yx (ym t l2)≤n2:=by have:=Big.zgb (s:=t) hnn2;omega
 refine zj<|zc<|zJ rfl rfl (zda rfl rfl) (fun b1=> ?_)
 refine zJ rfl rfl (zp zr44 rfl) (fun b2=> ?_)
 refine zk<|zf<|zj<|zO (OW:=[boxA b2 44 (cw [wz,wz])]) (O:=[boxA b1 44 [.bool s,.slice p1 n1 c1,.bool t,.slice p2 n2 c2]]) 9 mixed (.then .ret) kr<|e_pv 0 rfl rfl (zg yi rfl sz42 rfl rfl)<|e_uw 1 rfl rfl (zd 1 ty42 rfl rfl (.t2 .nil))<|e_pv 4 rfl rfl (zg yi rfl sz42 rfl rfl)<|e_uw 5 rfl rfl (zd 1 ty42 rfl rfl (.s2 (.t2 .nil)))<|e_one 2 (zm rfl rfl rfl rfl (.c rfl .n) ce123 (zde (s:=s) (p:=p1) (n:=n1) (cap:=c1) (l:=l1) (hn:=ass) (hln:=by first|rfl|assumption|omega|(rw [yo];omega)|(decide +kernel))) (.c (j:=0) rfl .n) ?_)
 rintro ⟨p23,c24⟩ -
 dsimp only [aq,nq,cq]
 refine e_one 3 (zm rfl rfl rfl rfl (.c rfl .n) ce123 (ztd (z:= - ym s l1) (p:=p23) (cap:=c24) (hln:=by first|rfl|assumption|omega|(rw [yo];omega)|(decide +kernel))) (.c (j:=0) rfl .n) ?_)
 rintro ⟨p25,c26⟩ -
 dsimp only [aq,nq,cq]
 refine e_one 6 (zm rfl rfl rfl rfl (.c rfl .n) ce123 (zde (s:=t) (p:=p2) (n:=n2) (cap:=c2) (l:=l2) (hn:=ass) (hln:=by first|rfl|assumption|omega|(rw [yo];omega)|(decide +kernel))) (.c (j:=3) rfl .n) ?_)
 rintro ⟨p27,c28⟩ -
 dsimp only [aq,nq,cq]
 refine e_one 7 (zm rfl rfl rfl rfl (.c rfl .n) ce123 (ztd (z:= - ym t l2) (p:=p27) (cap:=c28) (hln:=by first|rfl|assumption|omega|(rw [yo];omega)|(decide +kernel))) (.c (j:=0) rfl .n) ?_)
 rintro ⟨p29,c210⟩ -
 dsimp only [aq,nq,cq]
 refine e_pv 8 rfl rfl (zv zr44 rfl yi (.c sz42 (.c sz42 .n)) (.c rfl (.c rfl .n)) (.c rfl rfl rfl (.t2 .nil) (.c rfl rfl rfl (.s2 (.t2 .nil)) .n)))<|e_one 9 (zo kr rfl rfl rfl rfl rfl sz44 rfl (.t4 .nil) ?_)
 refine zM kr<|zf<|zR ?_
 have hz1: - - ym s l1=(yL ((s,l1),(t,l2))).num:=by rw [Int.neg_neg];exact (Big.qv_parts hq).1.symm
 have hz2: - - ym t l2=(((yL ((s,l1),(t,l2))).den:Nat):Int):=by rw [Int.neg_neg];exact (Big.qv_parts hq).2.symm
 exact zL Tryz.results116 (p25,c26,p29,c210) trivial (zr 0 ty44 rfl rfl (.t4 .nil)) (by rw [hz1,hz2]) (ho:=(.n:PickO _ _ _)) ((.e (j:=2) rfl (by rw [hz1]) (.e (j:=0) rfl (by rw [hz2]) .n)):SelR _ _ _)
theorem zee {s:Bool} {p1:Option Addr} {n1:Nat} {c1:Nat} {l1:List Int} {t:Bool} {p2:Option Addr} {n2:Nat} {c2:Nat} {l2:List Int} (hn1:l1.length=n1) (hn2:l2.length=n2) (hm1:n1≤1048576) (hm2:n2≤1048576) (hq:Big.qok ((s,l1),(t,l2))) (hl:yG (yL ((s,l1),(t,l2)))≤1048576):Con yl 116 [.agg #[.bool (s),.slice (p1) (n1) (c1),.bool (t),.slice (p2) (n2) (c2)]] [] [slF (rI .u32) (p1) (c1) (l1),slF (rI .u32) (p2) (c2) (l2)] (Y:=(Wd)×(Wd)) (fun y=>True) (fun y=> .agg #[y.1.b,y.1.l,y.2.b,y.2.l]) (fun y=>[]) (fun y=>[qF true y.1 y.2 (yL ((s,l1),(t,l2)))]):=by
  exact con_qr (zze hn1 hn2 hm1 hm2 hq) rfl rfl hl
theorem zy {z:Int} (hz: -9223372036854775808≤z∧z≤9223372036854775807):Con yl 71 [yc yd z] [] [] (Y:=Wd×Wd) (fun y=>True) (fun y=> .agg #[y.1.b,y.1.l,y.2.b,y.2.l]) (fun y=>[]) (fun y=>[qF true y.1 y.2 ((z:Int):Rat)]):=by
 refine zx Tryz.func71 rfl rfl rfl (fun c=> ?_)
 show RunC _ _ _ _ _ [(0,yc yd z)] [] []
 refine zj<|zc<|zJ rfl rfl (zp zr44 rfl) (fun b1=> ?_)
 refine zk<|zf<|zj<|zc<|e_mv rfl<|zG rfl rfl (.c rfl .n) ce104 (zrd (z:=z) (hz:=ass)) (.n) ?_
 rintro w32 -
 dsimp only [aq,nq,cq]
 refine zG rfl rfl (.c rfl .n) ce104 (zrd (z:=1) (hz:=by first|rfl|assumption|omega|(rw [yo];omega)|(decide +kernel))) (.n) ?_
 rintro w33 -
 dsimp only [aq,nq,cq]
 refine e_p (zv zr44 rfl yi (.c sz42 (.c sz42 .n)) (.c rfl (.c rfl .n)) (.c rfl rfl rfl (.t2 .nil) (.c rfl rfl rfl (.s2 (.t2 .nil)) .n)))<|zl 0 rfl rfl rfl rfl rfl sz44 rfl (.t4 .nil) .z<|zk<|zf<|zR<|zbb (qF true w32 w33 ((z:Int):Rat)) (qF_close 1 0 rfl rfl (by exact ⟨(Rat.num_intCast z).symm,by rw [Rat.den_intCast];rfl,Nat.le_trans (Big.hq_64 hz.1 hz.2) dd⟩)) ?_
 exact zL Tryz.results71 (w32,w33) trivial (zr 0 ty44 rfl rfl (.t4 .nil)) rfl (ho:=(.n:PickO _ _ _)) ((.c (j:=0) rfl .n):SelR _ _ _)
theorem zAe {s:Bool} {p1:Option Addr} {n1:Nat} {c1:Nat} {l1:List Int} {t:Bool} {p2:Option Addr} {n2:Nat} {c2:Nat} {l2:List Int} (hn1:l1.length=n1) (hn2:l2.length=n2) (hm1:n1≤1048576) (hm2:n2≤1048576):Con yl 101 [.agg #[.bool s,.slice p1 n1 c1,.bool t,.slice p2 n2 c2]] [] [slF (rI .u32) p1 c1 l1,slF (rI .u32) p2 c2 l2] (Y:=Wd×Wd) (fun y=>True) (fun y=> .agg #[y.1.b,y.1.l,y.2.b,y.2.l]) (fun y=>[]) (fun y=>[qF true y.1 y.2 (yL ((s,l1),(t,l2)))]):=by
 refine zx Tryz.func101 rfl rfl rfl (fun c=> ?_)
 show RunC _ _ _ _ _ [(0,.agg #[.bool s,.slice p1 n1 c1,.bool t,.slice p2 n2 c2])] [] [slF (rI .u32) p1 c1 l1,slF (rI .u32) p2 c2 l2]
 refine zpa 0 rfl (fun hL0=> ?_)
 refine zfb 0 rfl (fun hE0=> ?_)
 refine zpa 1 rfl (fun hL1=> ?_)
 refine zfb 1 rfl (fun hE1=> ?_)
 have hnn1:Big.nn l1:=fun g hg=>(zE.1 (hE0 g hg)).1
 have hnn2:Big.nn l2:=fun g hg=>(zE.1 (hE1 g hg)).1
 have hb1:yx (ym s l1)≤n1:=by have:=Big.zgb (s:=s) hnn1;omega
 have hb2:yx (ym t l2)≤n2:=by have:=Big.zgb (s:=t) hnn2;omega
 refine zj<|zc<|zJ rfl rfl (zda rfl rfl) (fun b1=> ?_)
 refine zJ rfl rfl (zp zr44 rfl) (fun b2=> ?_)
 refine zk<|zf<|zj<|zj<|zc<|e_ru (zd 1 ty44 rfl rfl (.t4 .nil))<|zV rfl rfl (.c rfl .n) ce97 (zye (s:=s) (p1:=p1) (n1:=n1) (c1:=c1) (l1:=l1) (t:=t) (p2:=p2) (n2:=n2) (c2:=c2) (l2:=l2) (hn1:=ass) (hn2:=ass) (hm1:=ass) (hm2:=ass)) (.c (j:=0) rfl (.c (j:=1) rfl .n))<|zk<|zf<|zT rfl (fun hq=> ?_) (fun hq=> ?_)
 ·
  have hrp:=Big.raw_parts (x:=((s,l1),(t,l2))) hnn1 hnn2 hq
  have hqp:=Big.qv_parts (x:=((s,l1),(t,l2))) hq
  have hl:yG (yL ((s,l1),(t,l2)))≤1048576:=by unfold yG;rw [hqp.1,hqp.2];dsimp only;omega
  refine zj<|zc<|e_ru (zd 1 ty44 rfl rfl (.t4 .nil))<|zG rfl rfl (.c rfl .n) ce116 (zee (s:=s) (p1:=p1) (n1:=n1) (c1:=c1) (l1:=l1) (t:=t) (p2:=p2) (n2:=n2) (c2:=c2) (l2:=l2) (hn1:=ass) (hn2:=ass) (hm1:=ass) (hm2:=ass) (hq:=by first|rfl|assumption|omega|(rw [yo];omega)|(decide +kernel)) (hl:=by first|rfl|assumption|omega|(rw [yo];omega)|(decide +kernel))) (.c (j:=0) rfl (.c (j:=1) rfl .n)) ?_
  rintro ⟨w33,w44⟩ -
  dsimp only [aq,nq,cq]
  refine zl 0 rfl rfl rfl rfl rfl sz44 rfl (.t4 .nil) .z<|zk<|zf<|zR<|zq ?_
  exact zL Tryz.results101 (w33,w44) trivial (zr 0 ty44 rfl rfl (.t4 .nil)) rfl (ho:=(.n:PickO _ _ _)) ((.c (j:=0) rfl .n):SelR _ _ _)
 ·
  have hz:=Big.qv_not (x:=((s,l1),(t,l2))) hq
  refine zB<|zf<|zj<|zc<|zG rfl rfl (.c rfl .n) ce71 (zy (z:=0) (hz:=by first|rfl|assumption|omega|(rw [yo];omega)|(decide +kernel))) (.n) ?_
  rintro ⟨w35,w46⟩ -
  dsimp only [aq,nq,cq]
  refine zl 0 rfl rfl rfl rfl rfl sz44 rfl (.t4 .nil) .z<|zk<|zf<|zR ?_
  exact zL Tryz.results101 (w35,w46) trivial (zr 0 ty44 rfl rfl (.t4 .nil)) rfl (ho:=(.n:PickO _ _ _)) ((.e (j:=0) rfl (by rw [hz];rfl) .n):SelR _ _ _)
theorem zVa {k1:Bool} {u1:Wd} {v1:Wd} {q1:Rat}:Con yl 101 [.agg #[u1.b,u1.l,v1.b,v1.l]] [] [qF k1 u1 v1 (q1)] (Y:=(Wd)×(Wd)) (fun y=>True) (fun y=> .agg #[y.1.b,y.1.l,y.2.b,y.2.l]) (fun y=>[]) (fun y=>[qF true y.1 y.2 (q1)]):=by
  exact zRe (fun x hx hk h1 h2 hl=>by subst hx;exact zAe rfl rfl h1 h2)
theorem zNd {k1:Bool} {u1:Wd} {v1:Wd} {q1:Rat}:Con yl 79 [.agg #[u1.b,u1.l,v1.b,v1.l]] [] [qF k1 u1 v1 q1] (Y:=Unit) (fun y=>True) (fun y=> yc yd (Big.sgq q1)) (fun y=>[]) (fun y=>[]):=by
 refine zx Tryz.func79 rfl rfl rfl (fun c=> ?_)
 show RunC _ _ _ _ _ [(0,.agg #[u1.b,u1.l,v1.b,v1.l])] [] [qF k1 u1 v1 q1]
 refine zj<|zc<|zJ rfl rfl (zda rfl rfl) (fun b1=> ?_)
 refine e_p (zh rfl)<|zk<|zf<|zj<|zc<|e_ru (zd 0 ty44 rfl rfl (.t4 .nil))<|zG rfl rfl (.c rfl .n) ce101 (zVa (k1:=k1) (u1:=u1) (v1:=v1) (q1:=q1)) (.c (j:=0) rfl .n) ?_
 rintro ⟨w32,w43⟩ -
 dsimp only [aq,nq,cq]
 refine e_p (zyc yi rfl ty42 rfl (.t2 .nil))<|zxc (qF_open 0 rfl) (fun _ _=> ?_)
 refine zV rfl rfl (.c rfl .n) ce105 (zpc (w1:=w32) (x1:=(q1).num)) (.c (j:=0) rfl .n)<|e_p (zh rfl)<|zk<|zf<|zR ?_
 exact zL Tryz.results79 () trivial (zD rfl) rfl (ho:=(.n:PickO _ _ _)) (.n:SelR _ _ _)
theorem zvf {k1:Bool} {u1:Wd} {v1:Wd} {q1:Rat} (hl:yG q1≤1048576):Con yl 107 [.agg #[u1.b,u1.l,v1.b,v1.l]] [] [qF k1 u1 v1 q1] (Y:=Wd×Wd) (fun y=>True) (fun y=> .agg #[y.1.b,y.1.l,y.2.b,y.2.l]) (fun y=>[]) (fun y=>[qF true y.1 y.2 (- q1)]):=by
 refine zx Tryz.func107 rfl rfl rfl (fun c=> ?_)
 show RunC _ _ _ _ _ [(0,.agg #[u1.b,u1.l,v1.b,v1.l])] [] [qF k1 u1 v1 q1]
 have a1:=yz q1
 have a2:=yA q1
 refine zj<|zc<|zJ rfl rfl (zda rfl rfl) (fun b1=> ?_)
 refine zJ rfl rfl (zp zr44 rfl) (fun b2=> ?_)
 refine zk<|zf<|zj<|zc<|e_ru (zd 1 ty44 rfl rfl (.t4 .nil))<|zG rfl rfl (.c rfl .n) ce101 (zVa (k1:=k1) (u1:=u1) (v1:=v1) (q1:=q1)) (.c (j:=0) rfl .n) ?_
 rintro ⟨w33,w44⟩ -
 dsimp only [aq,nq,cq]
 refine zl 1 rfl rfl rfl rfl rfl sz44 rfl (.t4 .nil) (.s .z)<|zk<|zf<|zj<|zO (OW:=[boxA b2 44 (cw [wz,wz])]) (O:=[boxA b1 44 (cw [w33,w44])]) 6 mixed (.then .ret) kr<|e_pv 0 rfl rfl (zg yi rfl sz42 rfl rfl)<|e_uw 1 rfl rfl (zd 1 ty42 rfl rfl (.t2 .nil))<|e_pv 3 rfl rfl (zg yi rfl sz42 rfl rfl)<|e_uw 4 rfl rfl (zd 1 ty42 rfl rfl (.s2 (.t2 .nil)))<|zjc (qF_open 0 rfl) (fun _ _=> ?_)
 refine e_one 2 (zm rfl rfl rfl rfl (.c rfl .n) ce123 (zud (w1:=w33) (x1:=(q1).num) (hln:=by first|rfl|assumption|omega|(rw [yo];omega)|(decide +kernel))) (.c (j:=0) rfl .n) ?_)
 rintro w35 -
 dsimp only [aq,nq,cq]
 refine e_pv 5 rfl rfl (zv zr44 rfl yi (.c sz42 (.c sz42 .n)) (.c rfl (.c rfl .n)) (.c rfl rfl rfl (.t2 .nil) (.c rfl rfl rfl (.s2 (.t2 .nil)) .n)))<|e_one 6 (zo kr rfl rfl rfl rfl rfl sz44 rfl (.t4 .nil) ?_)
 refine zM kr<|zf<|zR<|zbb (qF true w35 w44 (- q1)) (qF_close 0 2 rfl rfl (by exact ⟨(Rat.neg_num q1).symm,by rw [Rat.neg_den],by rw [Big.hq_neg];exact hl⟩)) ?_
 exact zL Tryz.results107 (w35,w44) trivial (zr 0 ty44 rfl rfl (.t4 .nil)) rfl (ho:=(.n:PickO _ _ _)) ((.c (j:=0) rfl .n):SelR _ _ _)
theorem zka {k1:Bool} {u1:Wd} {v1:Wd} {q1:Rat} {k2:Bool} {u2:Wd} {v2:Wd} {q2:Rat} (hl:yG q1+yG q2+1≤1048576):Con yl 80 [.agg #[u1.b,u1.l,v1.b,v1.l],.agg #[u2.b,u2.l,v2.b,v2.l]] [] [qF k1 u1 v1 q1,qF k2 u2 v2 q2] (Y:=Wd×Wd) (fun y=>True) (fun y=> .agg #[y.1.b,y.1.l,y.2.b,y.2.l]) (fun y=>[]) (fun y=>[qF true y.1 y.2 (q1+q2)]):=by
 refine zx Tryz.func80 rfl rfl rfl (fun c=> ?_)
 show RunC _ _ _ _ _ [(0,.agg #[u1.b,u1.l,v1.b,v1.l]),(1,.agg #[u2.b,u2.l,v2.b,v2.l])] [] [qF k1 u1 v1 q1,qF k2 u2 v2 q2]
 have a1:=yz q1
 have a2:=yA q1
 have a3:=yz q2
 have a4:=yA q2
 have b1:=yH q1.num q2.den
 have b2:=yH q2.num q1.den
 have b3:=Big.zfd (q1.num*q2.den) (q2.num*q1.den)
 have b4:=yH (q1.den:Int) q2.den
 have b5:=yH q1.num q2.num
 refine zj<|zc<|zJ rfl rfl (zda rfl rfl) (fun b1=> ?_)
 refine zJ rfl rfl (zda rfl rfl) (fun b2=> ?_)
 refine zJ rfl rfl (zp zr44 rfl) (fun b3=> ?_)
 refine zk<|zf<|zj<|zba (.c (i:=2) rfl (.c (i:=1) rfl (.c (i:=0) rfl .n)))<|zO (OW:=[boxA b1 44 (cw [u1,v1]),boxA b2 44 (cw [u2,v2])]) (O:=[boxA b3 44 (cw [wz,wz])]) 4 mixed (.then .ret) kr<|e_uw 0 rfl rfl (zd 0 ty44 rfl rfl (.t4 .nil))<|e_uw 2 rfl rfl (zd 1 ty44 rfl rfl (.t4 .nil))<|e_one 1 (zm rfl rfl rfl rfl (.c rfl .n) ce101 (zVa (k1:=k1) (u1:=u1) (v1:=v1) (q1:=q1)) (.c (j:=0) rfl .n) ?_)
 rintro ⟨w34,w45⟩ -
 dsimp only [aq,nq,cq]
 refine e_one 3 (zm rfl rfl rfl rfl (.c rfl .n) ce101 (zVa (k1:=k2) (u1:=u2) (v1:=v2) (q1:=q2)) (.c (j:=2) rfl .n) ?_)
 rintro ⟨w36,w47⟩ -
 dsimp only [aq,nq,cq]
 refine e_one 4 (zo kr rfl rfl rfl rfl rfl sz44 rfl (.t4 .nil) ?_)
 refine zcb (zta (i:=1) rfl)<|e_one 5 (zo kr rfl rfl rfl rfl rfl sz44 rfl (.t4 .nil) ?_)
 refine zM kr<|zf<|zj<|zba (.c (i:=2) rfl (.c (i:=0) rfl (.c (i:=0) rfl .n)))<|zO (OW:=[boxA b3 44 (cw [wz,wz])]) (O:=[boxA b2 44 (cw [w36,w47]),boxA b1 44 (cw [w34,w45])]) 17 mixed (.then .ret) kr<|e_pv 0 rfl rfl (zg yi rfl sz42 rfl rfl)<|e_uw 1 rfl rfl (zd 2 ty42 rfl rfl (.t2 .nil))<|e_pv 2 rfl rfl (zg yi rfl sz42 rfl rfl)<|e_uw 3 rfl rfl (zd 1 ty42 rfl rfl (.s2 (.t2 .nil)))<|e_pv 5 rfl rfl (zg yi rfl sz42 rfl rfl)<|e_uw 6 rfl rfl (zd 1 ty42 rfl rfl (.t2 .nil))<|e_pv 7 rfl rfl (zg yi rfl sz42 rfl rfl)<|e_uw 8 rfl rfl (zd 2 ty42 rfl rfl (.s2 (.t2 .nil)))<|e_pv 11 rfl rfl (zg yi rfl sz42 rfl rfl)<|e_uw 12 rfl rfl (zd 2 ty42 rfl rfl (.s2 (.t2 .nil)))<|e_pv 13 rfl rfl (zg yi rfl sz42 rfl rfl)<|e_uw 14 rfl rfl (zd 1 ty42 rfl rfl (.s2 (.t2 .nil)))<|zjc (qF_open 1 rfl) (fun _ _=> ?_)
 refine zjc (qF_open 2 rfl) (fun _ _=> ?_)
 refine e_one 4 (zm rfl rfl rfl rfl (.c rfl (.c rfl .n)) ce103 (zJb (w1:=w34) (w2:=w47) (x1:=(q1).num) (x2:=(((q2).den:Nat):Int)) (hb1:=by first|rfl|assumption|omega|(rw [yo];omega)|(decide +kernel)) (hb2:=by first|rfl|assumption|omega|(rw [yo];omega)|(decide +kernel))) (.c (j:=2) rfl (.c (j:=1) rfl .n)) ?_)
 rintro w38 -
 dsimp only [aq,nq,cq]
 refine e_one 9 (zm rfl rfl rfl rfl (.c rfl (.c rfl .n)) ce103 (zJb (w1:=w36) (w2:=w45) (x1:=(q2).num) (x2:=(((q1).den:Nat):Int)) (hb1:=by first|rfl|assumption|omega|(rw [yo];omega)|(decide +kernel)) (hb2:=by first|rfl|assumption|omega|(rw [yo];omega)|(decide +kernel))) (.c (j:=1) rfl (.c (j:=4) rfl .n)) ?_)
 rintro w39 -
 dsimp only [aq,nq,cq]
 refine e_one 10 (zm rfl rfl rfl rfl (.c rfl (.c rfl .n)) ce108 (zrf (w1:=w38) (w2:=w39) (x1:=((q1).num)*(((q2).den:Nat):Int)) (x2:=((q2).num)*(((q1).den:Nat):Int)) (hb1:=by first|rfl|assumption|omega|(rw [yo];omega)|(decide +kernel)) (hb2:=by first|rfl|assumption|omega|(rw [yo];omega)|(decide +kernel))) (.c (j:=1) rfl (.c (j:=0) rfl .n)) ?_)
 rintro w310 -
 dsimp only [aq,nq,cq]
 refine e_one 15 (zm rfl rfl rfl rfl (.c rfl (.c rfl .n)) ce103 (zJb (w1:=w45) (w2:=w47) (x1:=(((q1).den:Nat):Int)) (x2:=(((q2).den:Nat):Int)) (hb1:=by first|rfl|assumption|omega|(rw [yo];omega)|(decide +kernel)) (hb2:=by first|rfl|assumption|omega|(rw [yo];omega)|(decide +kernel))) (.c (j:=6) rfl (.c (j:=4) rfl .n)) ?_)
 rintro w311 -
 dsimp only [aq,nq,cq]
 refine e_one 16 (zm rfl rfl rfl rfl (.c rfl (.c rfl .n)) ce106 (zLb (w1:=w310) (w2:=w311) (x1:=(((q1).num)*(((q2).den:Nat):Int))+(((q2).num)*(((q1).den:Nat):Int))) (x2:=(((q1).den:Nat):Int)*(((q2).den:Nat):Int)) (hl1:=by first|rfl|assumption|omega|(rw [yo];omega)|(decide +kernel)) (hl2:=by first|rfl|assumption|omega|(rw [yo];omega)|(decide +kernel)) (hd:=by exact Int.mul_ne_zero (yN q1) (yN q2))) (.c (j:=1) rfl (.c (j:=0) rfl .n)) ?_)
 rintro ⟨w312,w413⟩ -
 dsimp only [aq,nq,cq]
 refine e_one 17 (zo kr rfl rfl rfl rfl rfl sz44 rfl (.t4 .nil) ?_)
 refine zM kr<|zf<|zR ?_
 exact zL Tryz.results80 (w312,w413) trivial (zr 0 ty44 rfl rfl (.t4 .nil)) rfl (ho:=(.n:PickO _ _ _)) ((.e (j:=0) rfl (by rw [Big.add_parts]) .n):SelR _ _ _)
theorem zY {k1:Bool} {u1:Wd} {v1:Wd} {q1:Rat} {k2:Bool} {u2:Wd} {v2:Wd} {q2:Rat} (hl:yG q1+yG q2+1≤1048576):Con yl 81 [.agg #[u1.b,u1.l,v1.b,v1.l],.agg #[u2.b,u2.l,v2.b,v2.l]] [] [qF k1 u1 v1 q1,qF k2 u2 v2 q2] (Y:=Wd×Wd) (fun y=>True) (fun y=> .agg #[y.1.b,y.1.l,y.2.b,y.2.l]) (fun y=>[]) (fun y=>[qF true y.1 y.2 (q1*q2)]):=by
 refine zx Tryz.func81 rfl rfl rfl (fun c=> ?_)
 show RunC _ _ _ _ _ [(0,.agg #[u1.b,u1.l,v1.b,v1.l]),(1,.agg #[u2.b,u2.l,v2.b,v2.l])] [] [qF k1 u1 v1 q1,qF k2 u2 v2 q2]
 have a1:=yz q1
 have a2:=yA q1
 have a3:=yz q2
 have a4:=yA q2
 have b1:=yH q1.num q2.den
 have b2:=yH q2.num q1.den
 have b3:=Big.zfd (q1.num*q2.den) (q2.num*q1.den)
 have b4:=yH (q1.den:Int) q2.den
 have b5:=yH q1.num q2.num
 refine zj<|zc<|zJ rfl rfl (zda rfl rfl) (fun b1=> ?_)
 refine zJ rfl rfl (zda rfl rfl) (fun b2=> ?_)
 refine zJ rfl rfl (zp zr44 rfl) (fun b3=> ?_)
 refine zk<|zf<|zj<|zba (.c (i:=2) rfl (.c (i:=1) rfl (.c (i:=0) rfl .n)))<|zO (OW:=[boxA b1 44 (cw [u1,v1]),boxA b2 44 (cw [u2,v2])]) (O:=[boxA b3 44 (cw [wz,wz])]) 4 mixed (.then .ret) kr<|e_uw 0 rfl rfl (zd 0 ty44 rfl rfl (.t4 .nil))<|e_uw 2 rfl rfl (zd 1 ty44 rfl rfl (.t4 .nil))<|e_one 1 (zm rfl rfl rfl rfl (.c rfl .n) ce101 (zVa (k1:=k1) (u1:=u1) (v1:=v1) (q1:=q1)) (.c (j:=0) rfl .n) ?_)
 rintro ⟨w34,w45⟩ -
 dsimp only [aq,nq,cq]
 refine e_one 3 (zm rfl rfl rfl rfl (.c rfl .n) ce101 (zVa (k1:=k2) (u1:=u2) (v1:=v2) (q1:=q2)) (.c (j:=2) rfl .n) ?_)
 rintro ⟨w36,w47⟩ -
 dsimp only [aq,nq,cq]
 refine e_one 4 (zo kr rfl rfl rfl rfl rfl sz44 rfl (.t4 .nil) ?_)
 refine zcb (zta (i:=1) rfl)<|e_one 5 (zo kr rfl rfl rfl rfl rfl sz44 rfl (.t4 .nil) ?_)
 refine zM kr<|zf<|zj<|zba (.c (i:=2) rfl (.c (i:=0) rfl (.c (i:=0) rfl .n)))<|zO (OW:=[boxA b3 44 (cw [wz,wz])]) (O:=[boxA b2 44 (cw [w36,w47]),boxA b1 44 (cw [w34,w45])]) 11 mixed (.then .ret) kr<|e_pv 0 rfl rfl (zg yi rfl sz42 rfl rfl)<|e_uw 1 rfl rfl (zd 2 ty42 rfl rfl (.t2 .nil))<|e_pv 2 rfl rfl (zg yi rfl sz42 rfl rfl)<|e_uw 3 rfl rfl (zd 1 ty42 rfl rfl (.t2 .nil))<|e_pv 5 rfl rfl (zg yi rfl sz42 rfl rfl)<|e_uw 6 rfl rfl (zd 2 ty42 rfl rfl (.s2 (.t2 .nil)))<|e_pv 7 rfl rfl (zg yi rfl sz42 rfl rfl)<|e_uw 8 rfl rfl (zd 1 ty42 rfl rfl (.s2 (.t2 .nil)))<|zjc (qF_open 1 rfl) (fun _ _=> ?_)
 refine zjc (qF_open 2 rfl) (fun _ _=> ?_)
 refine e_one 4 (zm rfl rfl rfl rfl (.c rfl (.c rfl .n)) ce103 (zJb (w1:=w34) (w2:=w36) (x1:=(q1).num) (x2:=(q2).num) (hb1:=by first|rfl|assumption|omega|(rw [yo];omega)|(decide +kernel)) (hb2:=by first|rfl|assumption|omega|(rw [yo];omega)|(decide +kernel))) (.c (j:=2) rfl (.c (j:=0) rfl .n)) ?_)
 rintro w38 -
 dsimp only [aq,nq,cq]
 refine e_one 9 (zm rfl rfl rfl rfl (.c rfl (.c rfl .n)) ce103 (zJb (w1:=w45) (w2:=w47) (x1:=(((q1).den:Nat):Int)) (x2:=(((q2).den:Nat):Int)) (hb1:=by first|rfl|assumption|omega|(rw [yo];omega)|(decide +kernel)) (hb2:=by first|rfl|assumption|omega|(rw [yo];omega)|(decide +kernel))) (.c (j:=4) rfl (.c (j:=2) rfl .n)) ?_)
 rintro w39 -
 dsimp only [aq,nq,cq]
 refine e_one 10 (zm rfl rfl rfl rfl (.c rfl (.c rfl .n)) ce106 (zLb (w1:=w38) (w2:=w39) (x1:=((q1).num)*((q2).num)) (x2:=(((q1).den:Nat):Int)*(((q2).den:Nat):Int)) (hl1:=by first|rfl|assumption|omega|(rw [yo];omega)|(decide +kernel)) (hl2:=by first|rfl|assumption|omega|(rw [yo];omega)|(decide +kernel)) (hd:=by exact Int.mul_ne_zero (yN q1) (yN q2))) (.c (j:=1) rfl (.c (j:=0) rfl .n)) ?_)
 rintro ⟨w310,w411⟩ -
 dsimp only [aq,nq,cq]
 refine e_one 11 (zo kr rfl rfl rfl rfl rfl sz44 rfl (.t4 .nil) ?_)
 refine zM kr<|zf<|zR ?_
 exact zL Tryz.results81 (w310,w411) trivial (zr 0 ty44 rfl rfl (.t4 .nil)) rfl (ho:=(.n:PickO _ _ _)) ((.e (j:=0) rfl (by rw [Big.mul_parts]) .n):SelR _ _ _)
theorem zxb {k1:Bool} {u1:Wd} {v1:Wd} {q1:Rat} {k2:Bool} {u2:Wd} {v2:Wd} {q2:Rat} (hl:yG q1+yG q2+1≤1048576):Con yl 78 [.agg #[u1.b,u1.l,v1.b,v1.l],.agg #[u2.b,u2.l,v2.b,v2.l]] [] [qF k1 u1 v1 q1,qF k2 u2 v2 q2] (Y:=Wd×Wd) (fun y=>True) (fun y=> .agg #[y.1.b,y.1.l,y.2.b,y.2.l]) (fun y=>[]) (fun y=>[qF true y.1 y.2 (q1 - q2)]):=by
 refine zx Tryz.func78 rfl rfl rfl (fun c=> ?_)
 show RunC _ _ _ _ _ [(0,.agg #[u1.b,u1.l,v1.b,v1.l]),(1,.agg #[u2.b,u2.l,v2.b,v2.l])] [] [qF k1 u1 v1 q1,qF k2 u2 v2 q2]
 have a1:=yz q1
 have a2:=yA q1
 have a3:=yz q2
 have a4:=yA q2
 refine zj<|zc<|zJ rfl rfl (zda rfl rfl) (fun b1=> ?_)
 refine zJ rfl rfl (zda rfl rfl) (fun b2=> ?_)
 refine zJ rfl rfl (zp zr44 rfl) (fun b3=> ?_)
 refine zk<|zf<|zj<|zO (OW:=[boxA b3 44 (cw [wz,wz])]) (O:=[boxA b2 44 (cw [u2,v2]),boxA b1 44 (cw [u1,v1])]) 4 mixed (.then .ret) kr<|e_uw 0 rfl rfl (zd 2 ty44 rfl rfl (.t4 .nil))<|e_uw 1 rfl rfl (zd 1 ty44 rfl rfl (.t4 .nil))<|e_one 2 (zm rfl rfl rfl rfl (.c rfl .n) ce107 (zvf (k1:=k2) (u1:=u2) (v1:=v2) (q1:=q2) (hl:=by first|rfl|assumption|omega|(rw [yo];omega)|(decide +kernel)|(rw [Big.hq_neg];omega))) (.c (j:=1) rfl .n) ?_)
 rintro ⟨w34,w45⟩ -
 dsimp only [aq,nq,cq]
 refine e_one 3 (zm rfl rfl rfl rfl (.c rfl (.c rfl .n)) ce80 (zka (k1:=k1) (u1:=u1) (v1:=v1) (q1:=q1) (k2:=true) (u2:=w34) (v2:=w45) (q2:= - q2) (hl:=by first|rfl|assumption|omega|(rw [yo];omega)|(decide +kernel)|(rw [Big.hq_neg];omega))) (.c (j:=1) rfl (.c (j:=0) rfl .n)) ?_)
 rintro ⟨w36,w47⟩ -
 dsimp only [aq,nq,cq]
 refine e_one 4 (zo kr rfl rfl rfl rfl rfl sz44 rfl (.t4 .nil) ?_)
 refine zM kr<|zf<|zR ?_
 exact zL Tryz.results78 (w36,w47) trivial (zr 0 ty44 rfl rfl (.t4 .nil)) rfl (ho:=(.n:PickO _ _ _)) ((.e (j:=0) rfl (by rw [Rat.sub_eq_add_neg]) .n):SelR _ _ _)
theorem zTc {w1:Wd} {x1:Int}:Con yl 126 [.agg #[w1.b,w1.l]] [] [zF w1 x1] (Y:=Wd) (fun y=>True) (fun y=> .agg #[y.b,y.l]) (fun y=>[]) (fun y=>[zF y x1]):=by
 refine zx Tryz.func126 rfl rfl rfl (fun c=> ?_)
 show RunC _ _ _ _ _ [(0,.agg #[w1.b,w1.l])] [] [zF w1 x1]
 refine zj<|zc<|zJ rfl rfl (zda rfl rfl) (fun b1=> ?_)
 refine zJ rfl rfl (zp zr42 rfl) (fun b2=> ?_)
 refine zk<|zf<|zj<|zj<|zc<|e_ru (zd 1 ty42 rfl rfl (.t2 .nil))<|zV rfl rfl (.c rfl .n) ce111 (zwe (w1:=w1) (x1:=x1)) (.c (j:=0) rfl .n)<|zk<|zf<|zaa rfl rfl<|zj<|zc<|e_ru (zd 1 ty42 rfl rfl (.t2 .nil))<|zl 0 rfl rfl rfl rfl rfl sz42 rfl (.t2 .nil) .z<|zk<|zf<|zR<|zq ?_
 exact zL Tryz.results126 w1 trivial (zr 0 ty42 rfl rfl (.t2 .nil)) rfl (ho:=(.n:PickO _ _ _)) ((.c (j:=0) rfl .n):SelR _ _ _)
theorem zMf {w1:Wd} {w2:Wd} {x1:Int} {x2:Int} (hl1:yx x1≤1048576) (hl2:yx x2≤1048576):Con yl 110 [.agg #[w1.b,w1.l],.agg #[w2.b,w2.l]] [] [zF w1 x1,zF w2 x2] (Y:=Wd×Wd) (fun y=>True) (fun y=> .tuple #[.agg #[y.1.b,y.1.l,y.2.b,y.2.l],yc yd (if x2=0 then 14 else 0)]) (fun y=>[]) (fun y=>[qF (decide (x2≠0)) y.1 y.2 (Rat.divInt x1 x2)]):=by
 refine zx Tryz.func110 rfl rfl rfl (fun c=> ?_)
 show RunC _ _ _ _ _ [(0,.agg #[w1.b,w1.l]),(1,.agg #[w2.b,w2.l])] [] [zF w1 x1,zF w2 x2]
 refine zj<|zc<|zJ rfl rfl (zda rfl rfl) (fun b1=> ?_)
 refine zJ rfl rfl (zda rfl rfl) (fun b2=> ?_)
 refine zJ rfl rfl (zp zr44 rfl) (fun b3=> ?_)
 refine e_p (zh rfl)<|zk<|zf<|zj<|zba (.c (i:=2) rfl (.c (i:=1) rfl (.c (i:=0) rfl .n)))<|zO (OW:=[boxA b1 42 [w1.b,w1.l],boxA b2 42 [w2.b,w2.l]]) (O:=[boxA b3 44 (cw [wz,wz])]) 4 mixed (.then .ret) kr<|e_uw 0 rfl rfl (zd 0 ty42 rfl rfl (.t2 .nil))<|e_uw 2 rfl rfl (zd 1 ty42 rfl rfl (.t2 .nil))<|e_one 1 (zm rfl rfl rfl rfl (.c rfl .n) ce126 (zTc (w1:=w1) (x1:=x1)) (.c (j:=0) rfl .n) ?_)
 rintro w34 -
 dsimp only [aq,nq,cq]
 refine e_one 3 (zm rfl rfl rfl rfl (.c rfl .n) ce126 (zTc (w1:=w2) (x1:=x2)) (.c (j:=2) rfl .n) ?_)
 rintro w35 -
 dsimp only [aq,nq,cq]
 refine e_one 4 (zo kr rfl rfl rfl rfl rfl sz42 rfl (.t2 .nil) ?_)
 refine zcb (zta (i:=1) rfl)<|e_one 5 (zo kr rfl rfl rfl rfl rfl sz42 rfl (.t2 .nil) ?_)
 refine zM kr<|zf<|zj<|zj<|zc<|e_ru (zd 0 ty42 rfl rfl (.t2 .nil))<|zV rfl rfl (.c rfl .n) ce105 (zpc (w1:=w35) (x1:=x2)) (.c (j:=0) rfl .n)<|e_p (zMa rfl rfl)<|zk<|zf<|zT rfl (fun hz0=> ?_) (fun hz0=> ?_)
 ·
  have hx0:x2=0:=yI.1 hz0
  refine zj<|zc<|e_p (zv zr44 rfl yi (.c sz42 (.c sz42 .n)) .n .n)<|zl 2 rfl rfl rfl rfl rfl sz44 rfl (.t4 .nil) (.s (.s .z))<|e_p (zh rfl)<|zk<|zf<|zR<|zq<|zbb (qF false wz wz 0) (fun g _=>qF_none g) ?_
  exact zDa Tryz.results110 (wz,wz) trivial (zr 2 ty44 rfl rfl (.t4 .nil)) (zD rfl) (by rw [if_pos hx0];rfl) (ho:=(.n:PickO _ _ _)) ((.e (j:=0) rfl (by rw [Big.divInt_nil hx0,decide_eq_false (not_not_intro hx0)]) .n):SelR _ _ _)
 ·
  have hx0:x2≠0:=fun e=>hz0 (yI.2 e)
  refine zB<|zf<|zj<|zc<|e_ru (zd 1 ty42 rfl rfl (.t2 .nil))<|e_ru (zd 0 ty42 rfl rfl (.t2 .nil))<|zG rfl rfl (.c rfl (.c rfl .n)) ce106 (zLb (w1:=w34) (w2:=w35) (x1:=x1) (x2:=x2) (hl1:=ass) (hl2:=ass) (hd:=by first|rfl|assumption|omega|(rw [yo];omega)|(decide +kernel))) (.c (j:=1) rfl (.c (j:=0) rfl .n)) ?_
  rintro ⟨w36,w47⟩ -
  dsimp only [aq,nq,cq]
  refine zl 2 rfl rfl rfl rfl rfl sz44 rfl (.t4 .nil) (.s (.s .z))<|e_p (zh rfl)<|zk<|zf<|zR ?_
  exact zDa Tryz.results110 (w36,w47) trivial (zr 2 ty44 rfl rfl (.t4 .nil)) (zD rfl) (by rw [if_neg hx0]) (ho:=(.n:PickO _ _ _)) ((.e (j:=0) rfl (by rw [decide_eq_true hx0]) .n):SelR _ _ _)
theorem zNf {z1:Int} {z2:Int} (hz1: -9223372036854775808≤z1∧z1≤9223372036854775807) (hz2: -9223372036854775808≤z2∧z2≤9223372036854775807):Con yl 95 [yc yd z1,yc yd z2] [] [] (Y:=Wd×Wd) (fun y=>True) (fun y=> .tuple #[.agg #[y.1.b,y.1.l,y.2.b,y.2.l],yc yd (if z2=0 then 14 else 0)]) (fun y=>[]) (fun y=>[qF (decide (z2≠0)) y.1 y.2 (Rat.divInt z1 z2)]):=by
 refine zx Tryz.func95 rfl rfl rfl (fun c=> ?_)
 show RunC _ _ _ _ _ [(0,yc yd z1),(1,yc yd z2)] [] []
 have g1:=Big.zOe hz1.1 hz1.2
 have g2:=Big.zOe hz2.1 hz2.2
 refine zj<|zc<|zJ rfl rfl (zp zr44 rfl) (fun b1=> ?_)
 refine e_p (zh rfl)<|zk<|zf<|zj<|zc<|e_mv rfl<|zG rfl rfl (.c rfl .n) ce104 (zrd (z:=z1) (hz:=ass)) (.n) ?_
 rintro w32 -
 dsimp only [aq,nq,cq]
 refine e_mv rfl<|zG rfl rfl (.c rfl .n) ce104 (zrd (z:=z2) (hz:=ass)) (.n) ?_
 rintro w33 -
 dsimp only [aq,nq,cq]
 refine zG rfl rfl (.c rfl (.c rfl .n)) ce110 (zMf (w1:=w32) (w2:=w33) (x1:=z1) (x2:=z2) (hl1:=by first|rfl|assumption|omega|(rw [yo];omega)|(decide +kernel)) (hl2:=by first|rfl|assumption|omega|(rw [yo];omega)|(decide +kernel))) (.c (j:=1) rfl (.c (j:=0) rfl .n)) ?_
 rintro ⟨w34,w45⟩ -
 dsimp only [aq,nq,cq]
 refine e_p (zw rfl rfl)<|e_p (zw rfl rfl)<|zl 0 rfl rfl rfl rfl rfl sz44 rfl (.t4 .nil) .z<|e_p (zh rfl)<|zk<|zf<|zR ?_
 exact zDa Tryz.results95 (w34,w45) trivial (zr 0 ty44 rfl rfl (.t4 .nil)) (zD rfl) rfl (ho:=(.n:PickO _ _ _)) ((.c (j:=0) rfl .n):SelR _ _ _)
theorem zVe {z1:Int} {z2:Int} (hz1: -9223372036854775808≤z1∧z1≤9223372036854775807) (hz2: -9223372036854775808≤z2∧z2≤9223372036854775807) (hy:z2≠0):Con yl 95 [yc yd (z1),yc yd (z2)] [] [] (Y:=(Wd)×(Wd)) (fun y=>True) (fun y=> .tuple #[.agg #[y.1.b,y.1.l,y.2.b,y.2.l],yc yd (0)]) (fun y=>[]) (fun y=>[qF true y.1 y.2 (Rat.divInt z1 z2)]):=by
  have h:=zNf hz1 hz2
  rw [if_neg hy,decide_eq_true hy] at h
  exact h
theorem zec {k1:Bool} {u1:Wd} {v1:Wd} {q1:Rat} {k2:Bool} {u2:Wd} {v2:Wd} {q2:Rat} (hl:yG q1+yG q2+1≤1048576):Con yl 77 [.agg #[u1.b,u1.l,v1.b,v1.l],.agg #[u2.b,u2.l,v2.b,v2.l]] [] [qF k1 u1 v1 q1,qF k2 u2 v2 q2] (Y:=Wd×Wd) (fun y=>True) (fun y=> .tuple #[.agg #[y.1.b,y.1.l,y.2.b,y.2.l],yc yd (if q2=0 then 14 else 0)]) (fun y=>[]) (fun y=>[qF (decide (q2≠0)) y.1 y.2 (q1 / q2)]):=by
 refine zx Tryz.func77 rfl rfl rfl (fun c=> ?_)
 show RunC _ _ _ _ _ [(0,.agg #[u1.b,u1.l,v1.b,v1.l]),(1,.agg #[u2.b,u2.l,v2.b,v2.l])] [] [qF k1 u1 v1 q1,qF k2 u2 v2 q2]
 have a1:=yz q1
 have a2:=yA q1
 have a3:=yz q2
 have a4:=yA q2
 have b1:=yH q1.num q2.den
 have b2:=yH (q1.den:Int) q2.num
 refine zj<|zc<|zJ rfl rfl (zda rfl rfl) (fun b1=> ?_)
 refine zJ rfl rfl (zda rfl rfl) (fun b2=> ?_)
 refine zJ rfl rfl (zp zr44 rfl) (fun b3=> ?_)
 refine e_p (zh rfl)<|zk<|zf<|zj<|zba (.c (i:=2) rfl (.c (i:=1) rfl (.c (i:=0) rfl .n)))<|zO (OW:=[boxA b1 44 (cw [u1,v1]),boxA b2 44 (cw [u2,v2])]) (O:=[boxA b3 44 (cw [wz,wz])]) 4 mixed (.then .ret) kr<|e_uw 0 rfl rfl (zd 0 ty44 rfl rfl (.t4 .nil))<|e_uw 2 rfl rfl (zd 1 ty44 rfl rfl (.t4 .nil))<|e_one 1 (zm rfl rfl rfl rfl (.c rfl .n) ce101 (zVa (k1:=k1) (u1:=u1) (v1:=v1) (q1:=q1)) (.c (j:=0) rfl .n) ?_)
 rintro ⟨w34,w45⟩ -
 dsimp only [aq,nq,cq]
 refine e_one 3 (zm rfl rfl rfl rfl (.c rfl .n) ce101 (zVa (k1:=k2) (u1:=u2) (v1:=v2) (q1:=q2)) (.c (j:=2) rfl .n) ?_)
 rintro ⟨w36,w47⟩ -
 dsimp only [aq,nq,cq]
 refine e_one 4 (zo kr rfl rfl rfl rfl rfl sz44 rfl (.t4 .nil) ?_)
 refine zcb (zta (i:=1) rfl)<|e_one 5 (zo kr rfl rfl rfl rfl rfl sz44 rfl (.t4 .nil) ?_)
 refine zM kr<|zf<|zj<|zj<|zc<|e_p (zg yi rfl sz42 rfl rfl)<|e_ru (zd 0 ty42 rfl rfl (.t2 .nil))<|zxc (qF_open 0 rfl) (fun _ _=> ?_)
 refine zV rfl rfl (.c rfl .n) ce105 (zpc (w1:=w36) (x1:=(q2).num)) (.c (j:=0) rfl .n)<|e_p (zMa rfl rfl)<|zk<|zf<|zT rfl (fun hz0=> ?_) (fun hz0=> ?_)
 ·
  have hx0:q2=0:=Rat.num_eq_zero.1 (yI.1 hz0)
  refine zj<|zc<|e_p (zv zr44 rfl yi (.c sz42 (.c sz42 .n)) .n .n)<|zl 2 rfl rfl rfl rfl rfl sz44 rfl (.t4 .nil) (.s (.s .z))<|e_p (zh rfl)<|zk<|zf<|zR<|zq<|zbb (qF false wz wz 0) (fun g _=>qF_none g) ?_
  exact zDa Tryz.results77 (wz,wz) trivial (zr 2 ty44 rfl rfl (.t4 .nil)) (zD rfl) (by rw [if_pos hx0];rfl) (ho:=(.n:PickO _ _ _)) ((.e (j:=0) rfl (by rw [Big.div_nil hx0,decide_eq_false (not_not_intro hx0)]) .n):SelR _ _ _)
 ·
  have hx1:q2.num≠0:=fun e=>hz0 (yI.2 e)
  have hx0:q2≠0:=fun e=>hx1 (Rat.num_eq_zero.2 e)
  refine zB<|zf<|zj<|zba (.c (i:=2) rfl (.c (i:=0) rfl (.c (i:=0) rfl .n)))<|zO (OW:=[boxA b3 44 (cw [wz,wz])]) (O:=[boxA b2 44 (cw [w36,w47]),boxA b1 44 (cw [w34,w45])]) 11 mixed (.then .ret) kr<|e_pv 0 rfl rfl (zg yi rfl sz42 rfl rfl)<|e_uw 1 rfl rfl (zd 2 ty42 rfl rfl (.t2 .nil))<|e_pv 2 rfl rfl (zg yi rfl sz42 rfl rfl)<|e_uw 3 rfl rfl (zd 1 ty42 rfl rfl (.s2 (.t2 .nil)))<|e_pv 5 rfl rfl (zg yi rfl sz42 rfl rfl)<|e_uw 6 rfl rfl (zd 2 ty42 rfl rfl (.s2 (.t2 .nil)))<|e_pv 7 rfl rfl (zg yi rfl sz42 rfl rfl)<|e_uw 8 rfl rfl (zd 1 ty42 rfl rfl (.t2 .nil))<|zjc (qF_open 3 rfl) (fun _ _=> ?_)
  refine e_one 4 (zm rfl rfl rfl rfl (.c rfl (.c rfl .n)) ce103 (zJb (w1:=w34) (w2:=w47) (x1:=(q1).num) (x2:=(((q2).den:Nat):Int)) (hb1:=by first|rfl|assumption|omega|(rw [yo];omega)|(decide +kernel)) (hb2:=by first|rfl|assumption|omega|(rw [yo];omega)|(decide +kernel))) (.c (j:=0) rfl (.c (j:=3) rfl .n)) ?_)
  rintro w38 -
  dsimp only [aq,nq,cq]
  refine e_one 9 (zm rfl rfl rfl rfl (.c rfl (.c rfl .n)) ce103 (zJb (w1:=w45) (w2:=w36) (x1:=(((q1).den:Nat):Int)) (x2:=(q2).num) (hb1:=by first|rfl|assumption|omega|(rw [yo];omega)|(decide +kernel)) (hb2:=by first|rfl|assumption|omega|(rw [yo];omega)|(decide +kernel))) (.c (j:=2) rfl (.c (j:=3) rfl .n)) ?_)
  rintro w39 -
  dsimp only [aq,nq,cq]
  refine e_one 10 (zm rfl rfl rfl rfl (.c rfl (.c rfl .n)) ce106 (zLb (w1:=w38) (w2:=w39) (x1:=((q1).num)*(((q2).den:Nat):Int)) (x2:=(((q1).den:Nat):Int)*((q2).num)) (hl1:=by first|rfl|assumption|omega|(rw [yo];omega)|(decide +kernel)) (hl2:=by first|rfl|assumption|omega|(rw [yo];omega)|(decide +kernel)) (hd:=by exact Int.mul_ne_zero (yN q1) hx1)) (.c (j:=1) rfl (.c (j:=0) rfl .n)) ?_)
  rintro ⟨w310,w411⟩ -
  dsimp only [aq,nq,cq]
  refine e_one 11 (zo kr rfl rfl rfl rfl rfl sz44 rfl (.t4 .nil) ?_)
  refine e_pv 12 rfl rfl (zh rfl)<|zM kr<|zf<|zR ?_
  exact zDa Tryz.results77 (w310,w411) trivial (zr 0 ty44 rfl rfl (.t4 .nil)) (zD rfl) (by rw [if_neg hx0]) (ho:=(.n:PickO _ _ _)) ((.e (j:=0) rfl (by rw [decide_eq_true hx0,Big.div_parts hx1]) .n):SelR _ _ _)
theorem zqc {k1:Bool} {u1:Wd} {v1:Wd} {q1:Rat} {k2:Bool} {u2:Wd} {v2:Wd} {q2:Rat} (hl:yG q1+yG q2+1≤1048576) (hy:q2≠0):Con yl 77 [.agg #[u1.b,u1.l,v1.b,v1.l],.agg #[u2.b,u2.l,v2.b,v2.l]] [] [qF k1 u1 v1 (q1),qF k2 u2 v2 (q2)] (Y:=(Wd)×(Wd)) (fun y=>True) (fun y=> .tuple #[.agg #[y.1.b,y.1.l,y.2.b,y.2.l],yc yd (0)]) (fun y=>[]) (fun y=>[qF true y.1 y.2 (q1 / q2)]):=by
  have h:= @zec k1 u1 v1 q1 k2 u2 v2 q2 hl
  rw [if_neg hy,decide_eq_true hy] at h
  exact h
end Go.Proofs.YtjeahiahjgifgaaGreatDoor.Sp
namespace Go.Proofs.YtjeahiahjgifgaaGreatDoor.Sp
open Go
set_option linter.unusedVariables false
set_option maxRecDepth 100000
set_option maxHeartbeats 8000000
theorem zvd {a:Int} {b:Int} {bf:Nat} {uf:Wd} {vf:Wd} {qf:Rat} (ha: -1048576≤a∧a≤1048576) (hb: -1048576≤b∧b≤1048576) (hqf:yG qf≤6):Con yl 96 [yc yd a,yc yd b,ye (some ⟨bf,0,none⟩)] [] [atF bf 0 [uf.b,uf.l,vf.b,vf.l],qF true uf vf qf] (Y:=Wd×Wd) (fun y=>True) (fun y=> .agg #[y.1.b,y.1.l,y.2.b,y.2.l]) (fun y=>[]) (fun y=>[qF true y.1 y.2 (((a:Int):Rat)+(qf*(((b - a):Int):Rat)))]):=by
 refine zx Tryz.func96 rfl rfl rfl (fun c=> ?_)
 show RunC _ _ _ _ _ [(0,yc yd a),(1,yc yd b),(2,ye (some ⟨bf,0,none⟩))] [] [atF bf 0 [uf.b,uf.l,vf.b,vf.l],qF true uf vf qf]
 refine zj<|zc<|zJ rfl rfl (zp zr44 rfl) (fun b1=> ?_)
 refine zk<|zf<|zj<|zO (OW:=[boxA b1 44 (cw [wz,wz])]) (O:=[]) 9 mixed (.then .ret) kr<|e_dm 0 rfl rfl rfl<|e_u 2 rfl rfl (zX (j:=0) 0 ty44 rfl rfl rfl (.t4 .nil))<|e_dm 3 rfl rfl rfl<|e_dm 4 rfl rfl rfl<|e_pv 5 rfl rfl (zma (z:=(b - a)) rfl rfl (w64 om))<|e_one 1 (zm rfl rfl rfl rfl (.c rfl .n) ce71 (zy (z:=a) (hz:=yQ)) (.n) ?_)
 rintro ⟨w32,w43⟩ -
 dsimp only [aq,nq,cq]
 refine e_one 6 (zm rfl rfl rfl rfl (.c rfl .n) ce71 (zy (z:=(b - a)) (hz:=yQ)) (.n) ?_)
 rintro ⟨w34,w45⟩ -
 dsimp only [aq,nq,cq]
 refine e_one 7 (zm rfl rfl rfl rfl (.c rfl (.c rfl .n)) ce81 (zY (k1:=true) (u1:=uf) (v1:=vf) (q1:=qf) (k2:=true) (u2:=w34) (v2:=w45) (q2:=(((b - a):Int):Rat)) (hl:=yQ)) (.c (j:=3) rfl (.c (j:=0) rfl .n)) ?_)
 rintro ⟨w36,w47⟩ -
 dsimp only [aq,nq,cq]
 refine e_one 8 (zm rfl rfl rfl rfl (.c rfl (.c rfl .n)) ce80 (zka (k1:=true) (u1:=w32) (v1:=w43) (q1:=((a:Int):Rat)) (k2:=true) (u2:=w36) (v2:=w47) (q2:=qf*(((b - a):Int):Rat)) (hl:=yQ)) (.c (j:=2) rfl (.c (j:=0) rfl .n)) ?_)
 rintro ⟨w38,w49⟩ -
 dsimp only [aq,nq,cq]
 refine e_one 9 (zo kr rfl rfl rfl rfl rfl sz44 rfl (.t4 .nil) ?_)
 refine zM kr<|zf<|zR ?_
 exact zL Tryz.results96 (w38,w49) trivial (zr 0 ty44 rfl rfl (.t4 .nil)) rfl (ho:=(.n:PickO _ _ _)) ((.c (j:=0) rfl .n):SelR _ _ _)
theorem zCc {s:Sh.S} {r:Int} (hok:Sh.Ok s) (hr:0≤r∧r≤64) (hlt:s.ta<s.tb):Con yl 61 [.agg #[yc yd (s.fi),yc yd (s.st),yc yd (s.ta),yc yd (s.xa),yc yd (s.ya),yc yd (s.za),yc yd (s.qa),yc yd (s.qb),yc yd (s.qc),yc yd (s.qd),yc yd (s.tb),yc yd (s.xb),yc yd (s.yb),yc yd (s.zb),yc yd (s.ra),yc yd (s.rb),yc yd (s.rc),yc yd (s.rd)],yc yd r] [] [] (Y:=Wd×Wd×Wd×Wd×Wd×Wd) (fun y=>True) (fun y=> .agg #[y.1.b,y.1.l,y.2.1.b,y.2.1.l,y.2.2.1.b,y.2.2.1.l,y.2.2.2.1.b,y.2.2.2.1.l,y.2.2.2.2.1.b,y.2.2.2.2.1.l,y.2.2.2.2.2.b,y.2.2.2.2.2.l]) (fun y=>[]) (fun y=>[qF true y.1 y.2.1 ((Sh.pos s r).1),qF true y.2.2.1 y.2.2.2.1 ((Sh.pos s r).2.1),qF true y.2.2.2.2.1 y.2.2.2.2.2 ((Sh.pos s r).2.2)]):=by
 refine zx Tryz.func61 rfl rfl rfl (fun c=> ?_)
 show RunC _ _ _ _ _ [(0,.agg #[yc yd (s.fi),yc yd (s.st),yc yd (s.ta),yc yd (s.xa),yc yd (s.ya),yc yd (s.za),yc yd (s.qa),yc yd (s.qb),yc yd (s.qc),yc yd (s.qd),yc yd (s.tb),yc yd (s.xb),yc yd (s.yb),yc yd (s.zb),yc yd (s.ra),yc yd (s.rb),yc yd (s.rc),yc yd (s.rd)]),(1,yc yd r)] [] []
 have hn:=hok.n
 have hpa:=hok.pa
 have hpb:=hok.pb
 have hqa:=hok.qa
 have hqb:=hok.qb
 have htm:=Sh.tm_b hok hr
 have hrs: -(64*1073741824)≤r*s.st∧r*s.st≤64*1073741824:=by have h8:=htm;unfold Sh.tm at h8;have h9:=Sh.mul_b (x:=r) (y:=s.st) (m:=64) (n:=1073741824) om om;omega
 have hfq:=Sh.frc_hq hok hr
 refine zj<|zc<|zJ rfl rfl (zda rfl rfl) (fun b1=> ?_)
 refine zJ rfl rfl (zp zr106 rfl) (fun b2=> ?_)
 refine zk<|zf<|zj<|zc<|e_p (zg yp rfl sz3 rfl rfl)<|e_ru (ze 1 ty3 rfl rfl rfl)<|e_mv rfl<|e_p (zg yp rfl sz3 rfl rfl)<|e_ru (ze 1 ty3 rfl rfl rfl)<|e_p (zGa (z:=(r*s.st)) rfl rfl (w64 om))<|e_p (zI (z:=(s.fi+(r*s.st))) rfl rfl (w64 om))<|e_p (zg yp rfl sz27 rfl rfl)<|e_p (zg yq rfl sz3 rfl rfl)<|e_ru (ze 1 ty3 rfl rfl rfl)<|e_p (zma (z:=((s.fi+(r*s.st)) - s.ta)) rfl rfl (w64 om))<|e_p (zg yp rfl sz27 rfl rfl)<|e_p (zg yq rfl sz3 rfl rfl)<|e_ru (ze 1 ty3 rfl rfl rfl)<|e_p (zg yp rfl sz27 rfl rfl)<|e_p (zg yq rfl sz3 rfl rfl)<|e_ru (ze 1 ty3 rfl rfl rfl)<|e_p (zma (z:=(s.tb - s.ta)) rfl rfl (w64 om))<|zG rfl rfl (.c rfl (.c rfl .n)) ce95 (zVe (z1:=((s.fi+(r*s.st)) - s.ta)) (z2:=(s.tb - s.ta)) (hz1:=yQ) (hz2:=yQ) (hy:=yQ)) (.n) ?_
 rintro ⟨w33,w44⟩ -
 dsimp only [aq,nq,cq]
 refine e_mv rfl<|e_p (zw rfl rfl)<|e_p (zw rfl rfl)<|zJ rfl rfl (zp zr44 rfl) (fun b5=> ?_)
 refine zl 0 rfl rfl rfl rfl rfl sz44 rfl (.t4 .nil) .z<|e_p (zh rfl)<|zk<|zf<|zj ?_
 have e6:s.fi+(r*s.st)=Sh.tm s r:=by rfl
 rw [e6]
 have e7:(Rat.divInt ((Sh.tm s r) - s.ta) (s.tb - s.ta):Rat)=Sh.frc s r:=by rfl
 rw [e7]
 refine zNc 0 rfl .z<|zc<|e_p (zcc .n (.c rfl .n))<|e_p (zh rfl)<|zk<|zf<|zj<|zba (.c (i:=1) rfl (.c (i:=1) rfl .n))<|zO (OW:=[boxA b2 106 (cw [wz,wz,wz,wz,wz,wz])]) (O:=[boxA b1 29 (cS s)]) 31 mixed (.then .ret) kr<|e_dm 0 rfl rfl rfl<|e_pv 1 rfl rfl (zg yp rfl sz27 rfl rfl)<|e_pv 2 rfl rfl (zg yq rfl sz23 rfl rfl)<|e_pv 3 rfl rfl (zg yw rfl sz3 rfl rfl)<|e_uw 4 rfl rfl (ze 1 ty3 rfl rfl rfl)<|e_pv 5 rfl rfl (zg yp rfl sz27 rfl rfl)<|e_pv 6 rfl rfl (zg yq rfl sz23 rfl rfl)<|e_pv 7 rfl rfl (zg yw rfl sz3 rfl rfl)<|e_uw 8 rfl rfl (ze 1 ty3 rfl rfl rfl)<|e_dm 10 rfl rfl rfl<|e_pv 11 rfl rfl (zg yp rfl sz27 rfl rfl)<|e_pv 12 rfl rfl (zg yq rfl sz23 rfl rfl)<|e_pv 13 rfl rfl (zg yw rfl sz3 rfl rfl)<|e_uw 14 rfl rfl (ze 1 ty3 rfl rfl rfl)<|e_pv 15 rfl rfl (zg yp rfl sz27 rfl rfl)<|e_pv 16 rfl rfl (zg yq rfl sz23 rfl rfl)<|e_pv 17 rfl rfl (zg yw rfl sz3 rfl rfl)<|e_uw 18 rfl rfl (ze 1 ty3 rfl rfl rfl)<|e_dm 20 rfl rfl rfl<|e_pv 21 rfl rfl (zg yp rfl sz27 rfl rfl)<|e_pv 22 rfl rfl (zg yq rfl sz23 rfl rfl)<|e_pv 23 rfl rfl (zg yw rfl sz3 rfl rfl)<|e_uw 24 rfl rfl (ze 1 ty3 rfl rfl rfl)<|e_pv 25 rfl rfl (zg yp rfl sz27 rfl rfl)<|e_pv 26 rfl rfl (zg yq rfl sz23 rfl rfl)<|e_pv 27 rfl rfl (zg yw rfl sz3 rfl rfl)<|e_uw 28 rfl rfl (ze 1 ty3 rfl rfl rfl)<|e_one 9 (zdd (first:=[]) (cap:=[ye (some ⟨b5,0,none⟩)]) rfl rfl rfl rfl rfl (.c rfl (.c rfl .n)) ce96 (zvd (a:=s.xa) (b:=s.xb) (bf:=b5) (uf:=w33) (vf:=w44) (qf:=Sh.frc s r) (ha:=yQ) (hb:=yQ) (hqf:=yQ)) (.c (j:=0) rfl (.c (j:=1) rfl .n)) ?_)
 rintro ⟨w38,w49⟩ -
 dsimp only [aq,nq,cq]
 refine e_one 19 (zdd (first:=[]) (cap:=[ye (some ⟨b5,0,none⟩)]) rfl rfl rfl rfl rfl (.c rfl (.c rfl .n)) ce96 (zvd (a:=s.ya) (b:=s.yb) (bf:=b5) (uf:=w33) (vf:=w44) (qf:=Sh.frc s r) (ha:=yQ) (hb:=yQ) (hqf:=yQ)) (.c (j:=1) rfl (.c (j:=2) rfl .n)) ?_)
 rintro ⟨w310,w411⟩ -
 dsimp only [aq,nq,cq]
 refine e_one 29 (zdd (first:=[]) (cap:=[ye (some ⟨b5,0,none⟩)]) rfl rfl rfl rfl rfl (.c rfl (.c rfl .n)) ce96 (zvd (a:=s.za) (b:=s.zb) (bf:=b5) (uf:=w33) (vf:=w44) (qf:=Sh.frc s r) (ha:=yQ) (hb:=yQ) (hqf:=yQ)) (.c (j:=2) rfl (.c (j:=3) rfl .n)) ?_)
 rintro ⟨w312,w413⟩ -
 dsimp only [aq,nq,cq]
 refine e_pv 30 rfl rfl (zTa zr106 rfl Tryz.underlying106 sz44 (.c rfl (.c rfl (.c rfl .n))) (.c rfl rfl rfl (.t4 .nil) (.c rfl rfl rfl (.s4 (.t4 .nil)) (.c rfl rfl rfl (.s8 (.t4 .nil)) .n))))<|e_one 31 (zo kr rfl rfl rfl rfl rfl sz106 rfl (.t8 (.t4 .nil)) ?_)
 refine zM kr<|zf<|zR ?_
 exact zL Tryz.results61 (w38,w49,w310,w411,w312,w413) trivial (zr 0 ty106 rfl rfl (.t8 (.t4 .nil))) rfl (ho:=(.n:PickO _ _ _)) ((.of [2,1,0] rfl):SelR _ _ _)
end Go.Proofs.YtjeahiahjgifgaaGreatDoor.Sp
