/- Lemmas on the walk and plain lemmas that the claim of this folder uses; each states its own conditions. Lines were printed by a program of ours. -/
import Derived.Test.YtahiajepeodhoaaGreatZ5B
set_option linter.unusedVariables false
set_option linter.unusedSimpArgs false
set_option linter.unusedSectionVars false
open Go.Value renaming int → ya, pointer → yc
open Go.IntKind renaming i64 → yb
open Go.Proofs.YtahiajepeodhoaaGreat.Big renaming digs → yd, raw → yf, valL → yj, digs_ok → ym, okL_getD → yn, ln → yp, zO → yq, trimL → yr, raw_big → yt, valL_digs → yu, okL → yv, ln_mono' → yx, pw → yz, hq_num → yB, hq_den → yC, sg → yD, valL_nonneg → yE, cmp_ge → yF, zma → yG, nn → yI, len_digs_nil → yJ, zYa → yK, ShI → yL, getD_set_ne → yM, hq → yO, pad_set → yP, okL_set → yQ, sign_zero → yR, okL_snoc → yS, qv → yT, two_lt → yU, den_ne → yV, LgI → yW
open Go.Proofs.Tryz renaming underlying28 → ye, underlying30 → yg, underlying84 → yh, underlying96 → yi, underlying32 → yk, prog → yl, underlying2 → yw, underlying4 → yA, results87 → yH, results142 → yN
namespace Go.Proofs.YtahiajepeodhoaaGreat.Sp
open Go
set_option linter.unusedVariables false
set_option maxRecDepth 100000
set_option maxHeartbeats 8000000
theorem zJg {p:Option Addr} {n:Nat} {cap:Nat} {l:List Int} (hn:l.length=n) (hb:n≤8796093022208):Con yl 143 [.slice p n cap] [] [slF (rI .u32) p cap l] (Y:=(Option Addr)×Nat) (fun y=>True) (fun y=> .slice (y.1) (l.length) (y.2)) (fun y=>[]) (fun y=>[slF (rI .u32) (y.1) (y.2) l]):=by
 refine zl Tryz.func143 rfl rfl rfl (fun c=> ?_)
 show RunC _ _ _ _ _ [(0,.slice p n cap)] [] [slF (rI .u32) p cap l]
 refine zU 0 rfl (fun hL0=> ?_)
 refine c_nil 0 rfl (fun hnil=> ?_)
 refine ze<|za<|e_p (zb rfl)<|zf<|zd<|ze<|ze<|za<|e_mv rfl<|e_p (zLc ye rfl rfl)<|zf<|zd<|zZa rfl (fun h0=> ?_) (fun h0=> ?_)
 ·
  refine ze<|za<|e_p (zb rfl)<|zf<|zd<|zC<|zk ?_
  obtain rfl:l=[]:=hnil (by simpa using h0)
  refine zec (rI .u32) ?_
  exact zu Tryz.results143 (none,0) trivial (zn rfl) rfl (ho:=oN) (s0 rfl)
 ·
  refine zB<|zd<|ze<|za<|zva rfl rfl (zsa (rI .u32) ye inf84) (fun b1 _=> ?_)
  refine e_mv rfl<|zEa 0 rfl rfl rfl (zoa 0 rfl ye inf84 dd rfl rfl cbs rfl cbs (by first|omega|(simp;omega)) (by first|omega|(simp;omega))) (fun _=> .z) ?_
  rintro ⟨p2,c3⟩ -
  dsimp only [aq,nq,cq]
  refine e_p (zb rfl)<|zf<|zd<|zC<|zyb 0 rfl .z ?_
  exact zu Tryz.results143 (p2,c3) trivial (zn rfl) (by simp [hn]) (ho:=oN) (s0 rfl)
theorem zEd {a:Nat} {p:Option Addr} {cap:Nat} (hb:(yd (a)).length≤8796093022208):Con yl 143 [.slice (p) ((yd (a)).length) (cap)] [] [slF (rI .u32) (p) (cap) (yd (a))] (Y:=(Option Addr)×(Nat)) (fun y=>True) (fun y=> .slice (y.1) ((yd (a)).length) (y.2)) (fun y=>[]) (fun y=>[slF (rI .u32) (y.1) (y.2) (yd (a))]):=by
  exact zJg rfl hb
theorem zVc {a:Nat} {p:Option Addr} {cap:Nat}:Con yl 141 [.slice p ((yd a).length) cap] [] [slF (rI .u32) p cap (yd a)] (Y:=Unit) (fun y=>True) (fun y=> .tuple #[.int .u64 (((if (yd a).length≤2 then a else 0):Nat):Int),.bool (decide ((yd a).length≤2))]) (fun y=>[]) (fun y=>[]):=by
 refine zAc Tryz.func141 rfl rfl rfl (fun c=> ?_)
 show RunC _ _ _ _ _ [(0,.slice p ((yd a).length) cap)] [] [slF (rI .u32) p cap (yd a)]
 refine zU 0 rfl (fun hL0=> ?_)
 refine ze<|za<|e_p (zb rfl)<|e_p (zb rfl)<|zf<|zd<|ze<|ze<|za<|e_mv rfl<|e_p (zK ye rfl)<|e_p (zCa rfl rfl)<|zf<|zd<|zG rfl (fun hgt=> ?_) (fun hgt=> ?_)
 ·
  refine ze<|za<|e_p (zb rfl)<|e_p (zb rfl)<|zf<|zd<|zC<|zk<|zpf ?_
  exact zFa Tryz.results141 () trivial (zn rfl) (zn rfl) (by rw [if_neg om,decide_eq_false (show ¬(yd a).length≤2 by omega)];rfl) (ho:=oN) sN
 ·
  have hle:(yd a).length≤2:=by omega
  have h18:=yU hle
  refine zB<|zd<|ze<|za<|zI rfl rfl (zr zr96 rfl) (fun b1=> ?_)
  refine zj 0 rfl rfl rfl rfl rfl sz96 rfl (.take .nil) .z<|zf<|zd<|ze<|ze<|za<|e_mv rfl<|zm rfl rfl (.c rfl .n) ce145 (zUb (p:=p) (n:=(yd a).length) (cap:=cap)) (.n) ?_
  rintro b2 -
  dsimp only [aq,nq,cq]
  refine zf<|zd<|zx<|zle (fa:=[atF b2 0 [.slice p ((yd a).length) cap],slF (rI .u32) p cap (yd a)]) (N:=((yd a).length)) (encs:=fun k=>[ya yb ((k:Nat):Int),.int .u32 ((yd a).getD k 0)]) rfl ce157 (back_u32 cbs) (fun _=>rfl) rfl (X:=Int) (Y:=Unit) (fun x k=>k≤(yd a).length∧x=yj ((yd a).drop k)∧0≤x∧x*yz k≤(a:Int)) (fun y=>False) (fun x=>[boxA b1 96 [.int .u64 x]]) (fun x=>[]) (fun y=>[]) (fun y=>[]) (fun k=>[(6,.int .u32 ((yd a).getD k 0)),(13,.int .u32 ((yd a).getD k 0)),(12,ya yb ((k:Nat):Int)),(11,.func (.func 157) #[] #[yc (some ⟨b2,0,none⟩)]),(10,.slice p ((yd a).length) cap),(4,yc (some ⟨b1,0,none⟩)),(9,.bool (decide (2<(((yd a).length:Nat):Int)))),(8,ya yb (((yd a).length:Nat):Int)),(7,.slice p ((yd a).length) cap),(3,.bool false),(2,.int .u64 0),(0,.slice p ((yd a).length) cap)]) (0:Int) (show ((yd a).length)≤(yd a).length∧(0:Int)=yj ((yd a).drop ((yd a).length))∧0≤(0:Int)∧(0:Int)*yz ((yd a).length)≤(a:Int) from by exact ⟨Nat.le_refl _,by simp [yj],Int.le_refl _,by simp⟩) (ho:=((.e (i:=0) rfl cgs .n):PickO _ _ _)) ((.of [0,1] rfl):SelR _ _ _) ?_ ?_ ?_ ?_
  ·
   intro l k O' R' Q' hP
   refine za<|e_p (zb rfl)<|zf ?_
   exact hP
  ·
   rintro l3 D4 o5 o6 z k hkN hI
   replace hI:(k+1)≤(yd a).length∧z=yj ((yd a).drop (k+1))∧0≤z∧z*yz (k+1)≤(a:Int):=hI
   try dsimp only
   obtain ⟨hk,hz,hz0,hzp⟩:=hI
   have hg:=yn (ym a) k
   have hlim:=Big.word_lim hle (show k+1≤(yd a).length by omega) hz0 hzp
   refine zx<|za<|e_ru (zh 2 ty96 rfl rfl rfl)<|e_p (zpb (z:=(z*1000000000)) rfl rfl (wu64 om))<|e_mv rfl<|e_p (zD (z:=((yd a).getD k 0)) rfl (by rw [yh];rfl) yi (wu64 om))<|e_p (zL (z:=((z*1000000000)+((yd a).getD k 0))) rfl rfl (wu64 om))<|zj 2 rfl rfl rfl rfl rfl sz96 rfl (.take .nil) (.s (.s .z))<|zf<|zP ?_
   exact zje (z*1000000000+(yd a).getD k 0) (show k≤(yd a).length∧(z*1000000000+(yd a).getD k 0)=yj ((yd a).drop k)∧0≤(z*1000000000+(yd a).getD k 0)∧(z*1000000000+(yd a).getD k 0)*yz k≤(a:Int) from by exact ⟨by omega,by rw [hz];exact Big.word_step k,by omega,Big.word_keep (show k+1≤(yd a).length by omega) hz⟩) (ho:=((.c (i:=0) rfl (.c (i:=0) rfl (.e (i:=0) rfl cgs .n))):PickO _ _ _)) ((.of [0,1] rfl):SelR _ _ _)
  ·
   rintro D7 z hI
   replace hI:0≤(yd a).length∧z=yj ((yd a).drop 0)∧0≤z∧z*yz 0≤(a:Int):=hI
   try dsimp only
   have hz9:z=(a:Int):=by rw [hI.2.1,List.drop_zero,yu]
   refine zP<|zd<|ze<|za<|e_ru (zh 1 ty96 rfl rfl rfl)<|e_p (zb rfl)<|e_p (zb rfl)<|zf<|zd<|zC<|zDe 0 rfl rfl ?_
   exact zFa Tryz.results141 () trivial (zn rfl) (zn rfl) (by rw [if_pos hle,decide_eq_true hle,hz9]) (ho:=oN) sN
  ·
   intro _ _ h;exact h.elim
theorem zVd {a:Nat} {mm:Nat} {p:Option Addr} {cap:Nat} (hb:(yd a).length≤4398046511104) (hm0:0<mm) (hm1:mm<4294967296):Con yl 155 [.slice p ((yd a).length) cap,.int .u32 ((mm:Nat):Int)] [] [slF (rI .u32) p cap (yd a)] (Y:=(Option Addr)×Nat) (fun y=>True) (fun y=> .tuple #[.slice (y.1) ((yd (a / mm)).length) (y.2),.int .u32 (((a%mm):Nat):Int)]) (fun y=>[]) (fun y=>[slF (rI .u32) (y.1) (y.2) (yd (a / mm))]):=by
 refine zAc Tryz.func155 rfl rfl rfl (fun c=> ?_)
 show RunC _ _ _ _ _ [(0,.slice p ((yd a).length) cap),(1,.int .u32 ((mm:Nat):Int))] [] [slF (rI .u32) p cap (yd a)]
 refine zU 0 rfl (fun hL0=> ?_)
 refine ze<|za<|zI rfl rfl (zR rfl rfl) (fun b1=> ?_)
 refine zI rfl rfl (zr zr28 rfl) (fun b2=> ?_)
 refine e_p (zb rfl)<|zf<|zd<|ze<|za<|e_mv rfl<|e_p (zK ye rfl)<|zva rfl rfl (zab (r:=rI .u32) (k:=(yd a).length) (x0:=0) (γ0:=()) ye inf84 rfl rfl rfl rfl om om rfl (fun g _=>by exact zy.2 dd) dd) (fun b3 _=> ?_)
 refine zj 1 rfl rfl rfl rfl rfl sz28 rfl (.take .nil) (.s .z)<|zf<|zd<|ze<|za<|zI rfl rfl (zr zr96 rfl) (fun b4=> ?_)
 refine zj 0 rfl rfl rfl rfl rfl sz96 rfl (.take .nil) .z<|zf<|zd<|ze<|ze<|za<|e_mv rfl<|zm rfl rfl (.c rfl .n) ce145 (zUb (p:=p) (n:=(yd a).length) (cap:=cap)) (.n) ?_
 rintro b5 -
 dsimp only [aq,nq,cq]
 refine zf<|zd<|zx<|zle (fa:=[atF b5 0 [.slice p ((yd a).length) cap],slF (rI .u32) p cap (yd a)]) (N:=((yd a).length)) (encs:=fun k=>[ya yb ((k:Nat):Int),.int .u32 ((yd a).getD k 0)]) rfl ce157 (back_u32 (by first|rfl|assumption|(simp;done)|omega)) (fun _=>rfl) rfl (X:=(List Int)×(List Int)×Int) (Y:=Unit) (fun x k=>x.1=List.replicate k 0++x.2.1∧yL (yd a) (mm:Int) k x.2.1 x.2.2) (fun y=>False) (fun x=>[boxA b4 96 [.int .u64 (x.2.2)],rowA 84 (rI .u32) (some ⟨b3,0,none⟩) ((yd a).length) (x.1),boxA b2 28 [.slice (some ⟨b3,0,none⟩) ((yd a).length) ((yd a).length)],boxA b1 84 [.int .u32 ((mm:Nat):Int)]]) (fun x=>[]) (fun y=>[]) (fun y=>[]) (fun k=>[(8,.int .u32 ((yd a).getD k 0)),(7,ya yb ((k:Nat):Int)),(16,.int .u32 ((yd a).getD k 0)),(15,ya yb ((k:Nat):Int)),(14,.func (.func 157) #[] #[yc (some ⟨b5,0,none⟩)]),(13,.slice p ((yd a).length) cap),(6,yc (some ⟨b4,0,none⟩)),(12,.slice (some ⟨b3,0,none⟩) ((yd a).length) ((yd a).length)),(11,ya yb (((yd a).length:Nat):Int)),(10,.slice p ((yd a).length) cap),(5,.int .u32 0),(4,yc (some ⟨b2,0,none⟩)),(3,yc (some ⟨b1,0,none⟩)),(0,.slice p ((yd a).length) cap),(1,.int .u32 ((mm:Nat):Int))]) ((List.replicate (yd a).length 0),([]:List Int),(0:Int)) (show (List.replicate (yd a).length 0)=List.replicate ((yd a).length) 0++([]:List Int)∧yL (yd a) (mm:Int) ((yd a).length) ([]:List Int) (0:Int) from by exact ⟨by simp,yL.start om⟩) (ho:=((.e (i:=0) rfl cgs (.e (i:=0) rfl cgs (.of [0,0] rfl))):PickO _ _ _)) ((.of [0,1] rfl):SelR _ _ _) ?_ ?_ ?_ ?_
 ·
  intro l k O' R' Q' hP
  refine ze<|za<|e_p (zb rfl)<|zf<|zd<|za<|e_p (zb rfl)<|zf ?_
  exact hP
 ·
  rintro l6 D7 o8 o9 ⟨os,qs,z⟩ k hkN hI
  replace hI:os=List.replicate (k+1) 0++qs∧yL (yd a) (mm:Int) (k+1) qs z:=hI
  try dsimp only
  obtain ⟨hos,hS⟩:=hI
  have hz0:=hS.r0
  have hz1:=hS.r1
  have hkle:=hS.le
  have hosl:os.length=(yd a).length:=by rw [hos,List.length_append,List.length_replicate,hS.len];omega
  have hg:=yn (ym a) k
  have hdg:=Big.sh_digit hz0 hz1 hg
  have hrm:=Int.emod_lt_of_pos (z*1000000000+(yd a).getD k 0) (show 0<(mm:Int) by omega)
  have hrm0:=Int.emod_nonneg (z*1000000000+(yd a).getD k 0) (show (mm:Int)≠0 by omega)
  refine zx<|ze<|za<|e_ru (zh 2 ty96 rfl rfl rfl)<|e_p (zpb (z:=(z*1000000000)) rfl rfl (wu64 om))<|e_mv rfl<|e_p (zD (z:=((yd a).getD k 0)) rfl (by rw [yh];rfl) yi (wu64 om))<|e_p (zL (z:=((z*1000000000)+((yd a).getD k 0))) rfl rfl (wu64 om))<|e_p (zb rfl)<|zf<|zd<|zqa (.c (i:=3) rfl (.c (i:=2) rfl (.c (i:=0) rfl (.c (i:=0) rfl (.c (i:=0) rfl (.c (i:=0) rfl .n))))))<|zrf (OW:=[rowA 84 (rI .u32) (some ⟨b3,0,none⟩) ((yd a).length) os,boxA b4 96 [.int .u64 z]]) (O:=[objA l6 o8,objA D7 o9,boxA b2 28 [.slice (some ⟨b3,0,none⟩) ((yd a).length) ((yd a).length)],boxA b1 84 [.int .u32 ((mm:Nat):Int)]]) 12 mixed kr kr<|e_uw 0 rfl rfl (zh 4 ty28 rfl rfl rfl)<|e_dm 1 rfl rfl rfl<|e_dm 2 rfl rfl rfl<|e_uw 3 rfl rfl (zh 5 ty84 rfl rfl rfl)<|e_pv 4 rfl rfl (zD (z:=((mm:Nat):Int)) rfl (by rw [yh];rfl) yi (wu64 om))<|e_pv 5 rfl rfl (zeb (z:=(((z*1000000000)+((yd a).getD k 0)) / ((mm:Nat):Int))) rfl rfl om (by rw [quoN (z:=(((z*1000000000)+((yd a).getD k 0)) / ((mm:Nat):Int))) om om];exact wu64 om))<|e_pv 6 rfl rfl (zD (z:=(((z*1000000000)+((yd a).getD k 0)) / ((mm:Nat):Int))) rfl (by rw [yi];rfl) yh (wu32 om))<|e_dm 7 rfl rfl rfl<|e_u 8 rfl rfl (zh 3 ty84 rfl rfl rfl)<|e_pv 9 rfl rfl (zD (z:=((mm:Nat):Int)) rfl (by rw [yh];rfl) yi (wu64 om))<|e_pv 10 rfl rfl (zmb (z:=(((z*1000000000)+((yd a).getD k 0))%((mm:Nat):Int))) rfl rfl om (remN om om))<|e_pv 11 rfl rfl (zZ (j:=k) ye sz84 rfl rfl rfl om)<|e_one 12 (zAd (A':=fun _=>rowA 84 (rI .u32) (some ⟨b3,0,none⟩) ((yd a).length) (os.set k (((z*1000000000)+((yd a).getD k 0)) / ((mm:Nat):Int)))) kr rfl rfl rfl (zS (j:=k) (x0:=(((z*1000000000)+((yd a).getD k 0)) / ((mm:Nat):Int))) (γ0:=()) rfl rfl (by first|omega|(rw [List.length_map];omega)|(simp only [List.length_set];omega)|(simp;done)|(simp;omega)) rfl rfl sz84 (fun _ _=>by exact zy.2 om)) (fun _ _=> ?_))
  refine zza (zea (i:=1) rfl)<|e_one 13 (zv kr rfl rfl rfl rfl rfl sz96 rfl (.take .nil) ?_)
  refine zsf kr<|zP ?_
  exact zje ((os.set k (((z*1000000000)+((yd a).getD k 0)) / ((mm:Nat):Int))),((z*1000000000+(yd a).getD k 0) / (mm:Int) :: qs),((z*1000000000+(yd a).getD k 0)%(mm:Int))) (show (os.set k (((z*1000000000)+((yd a).getD k 0)) / ((mm:Nat):Int)))=List.replicate k 0++((z*1000000000+(yd a).getD k 0) / (mm:Int) :: qs)∧yL (yd a) (mm:Int) k ((z*1000000000+(yd a).getD k 0) / (mm:Int) :: qs) ((z*1000000000+(yd a).getD k 0)%(mm:Int)) from by exact ⟨by rw [hos];exact yP _,hS.step (ym a)⟩) (ho:=((.c (i:=2) rfl (.c (i:=2) rfl (.e (i:=0) rfl cgs (.of [0,0,0] rfl)))):PickO _ _ _)) ((.of [0,1] rfl):SelR _ _ _)
 ·
  rintro D10 ⟨os,qs,z⟩ hI
  replace hI:os=List.replicate 0 0++qs∧yL (yd a) (mm:Int) 0 qs z:=hI
  try dsimp only
  obtain ⟨hos,hS⟩:=hI
  obtain ⟨hf1,hf2⟩:=hS.fin
  have hoq:os=qs:=by simpa using hos
  have htr:yr os=yd (a / mm):=by rw [hoq];exact hf1
  have hosl:os.length=(yd a).length:=by rw [hoq,hS.len];omega
  have hzr:=hS.r1
  have hzr0:=hS.r0
  refine zP<|zd<|ze<|zqa (.c (i:=3) rfl (.c (i:=0) rfl (.c (i:=0) rfl (.c (i:=0) rfl (.c (i:=0) rfl .n)))))<|zrf (OW:=[boxA b2 28 [.slice (some ⟨b3,0,none⟩) ((yd a).length) ((yd a).length)]]) (O:=[objA D10 (.deferred (some [])),boxA b4 96 [.int .u64 z],rowA 84 (rI .u32) (some ⟨b3,0,none⟩) ((yd a).length) os,boxA b1 84 [.int .u32 ((mm:Nat):Int)]]) 4 mixed kr kr<|e_uw 0 rfl rfl (zh 0 ty28 rfl rfl rfl)<|e_u 2 rfl rfl (zh 1 ty96 rfl rfl rfl)<|e_pv 3 rfl rfl (zD (z:=z) rfl (by rw [yi];rfl) yh (wu32 om))<|zla 2 rfl (.s (.s .z))<|e_one 1 (zp rfl rfl rfl rfl (.c rfl .n) ce138 (zJb (p:=some ⟨b3,0,none⟩) (n:=(yd a).length) (cap:=(yd a).length) (l:=os) (hn:=cbb)) (.c (j:=0) rfl .n) ?_)
  rintro ⟨⟩ -
  dsimp only [aq,nq,cq]
  refine e_one 4 (zv kr rfl rfl rfl rfl rfl sz28 rfl (.take .nil) ?_)
  refine e_pv 5 rfl rfl (zb rfl)<|zsf kr<|zd<|zC<|zDe 1 rfl rfl ?_
  exact zFa Tryz.results155 ((some ⟨b3,0,none⟩),((yd a).length)) trivial (zHb 0 ty28 rfl rfl rfl) (zn rfl) (by rw [htr,hf2]) (ho:=oN) ((.e (j:=0) rfl (by rw [htr]) .n):SelR _ _ _)
 ·
  intro _ _ h;exact h.elim
theorem zzf {p:Option Addr} {n:Nat} {cap:Nat} {l:List Int} (hn:l.length=n):Con yl 138 [.slice p n cap] [rowA 84 (rI .u32) p cap l] [] (Y:=Unit) (fun y=>True) (fun y=> .slice p ((yr l).length) cap) (fun y=>[rowA 84 (rI .u32) p cap (yr l)]) (fun y=>[]):=by
 refine zl Tryz.func138 rfl rfl rfl (fun c=> ?_)
 show RunC _ _ _ _ _ [(0,.slice p n cap)] [rowA 84 (rI .u32) p cap l] []
 refine zSf 0 rfl (fun hcl=> ?_)
 refine ze<|za<|e_p (zb rfl)<|zf<|zd<|ze<|zx<|zja (X:=Nat) (fun x:Nat=>x≤l.length∧yr (l.take x)=yr l) (fun x=>[(0,.slice p x cap),(2,.slice none 0 0)]) (fun x=>[rowA 84 (rI .u32) p cap l]) (fun x=>[]) (fun x:Nat=>x) n (show n≤l.length∧yr (l.take n)=yr l from by exact ⟨by omega,by rw [List.take_of_length_le om]⟩) ((.c rfl (.c rfl .n)):SubM _ _) (ho:=(o0 rfl)) sN ?_
 rintro k hI
 replace hI:k≤l.length∧yr (l.take k)=yr l:=hI
 try dsimp only
 obtain ⟨hk,hT⟩:=hI
 refine ze<|zOa (X:=Unit) (fun x=>True) (fun x=>[(14,.bool (decide (0<k∧l.getD (k - 1) 0=0))),(0,.slice p k cap),(2,.slice none 0 0)]) (fun x=>[rowA 84 (rI .u32) p cap l]) (fun x=>[]) ?_ ?_
 ·
  refine za<|e_mv rfl<|e_p (zK ye rfl)<|e_p (zCa rfl rfl)<|zha rfl rfl (zga rfl) (fun h1=> ?_) (fun h1=> ?_)
  ·
   refine e_mv rfl<|e_mv rfl<|e_p (zK ye rfl)<|e_p (zca (z:=(((k - 1):Nat):Int)) rfl rfl (w64 om))<|e_ru (zCd 0 (k - 1) rfl ye sz84 rfl cbo rfl rfl om)<|r_vl rfl rfl (zra 0 (k - 1) rfl ty84 rfl rfl (gD (d:=0) om) rfl) (fun _ hok2=> ?_)
   replace hok2:=zy.1 hok2
   refine e_p (zwa rfl rfl)<|e_p (zE rfl rfl)<|zf ?_
   exact zT () tt9 ((.e rfl (congrArg Value.bool (by have h1:0<k:=om;have h2:((k:Int) - 1).toNat=k - 1:=om;simp [h1,h2])) (.c rfl (.c rfl .n))):SubM _ _) (ho:=(o0 rfl)) sN
  ·
   refine e_no<|e_no<|e_no<|e_no<|e_no<|e_no<|e_no<|e_p (zE rfl rfl)<|zf ?_
   exact zT () tt9 ((.e rfl (congrArg Value.bool (by have h1:¬0<k:=om;simp [h1])) (.c rfl (.c rfl .n))):SubM _ _) (ho:=(o0 rfl)) sN
 ·
  rintro ⟨⟩ -
  try dsimp only
  refine zG rfl (fun hc=> ?_) (fun hc=> ?_)
  ·
   refine zB<|zd<|zx<|za<|e_mv rfl<|e_mv rfl<|e_p (zK ye rfl)<|e_p (zca (z:=(((k - 1):Nat):Int)) rfl rfl (w64 om))<|e_p (zRb (hi:=(k - 1)) ye sz84 rfl (.s rfl) (.inr ⟨_,rfl⟩) om)<|e_p (zb rfl)<|zf<|zP<|zda (k - 1) (show (k - 1)≤l.length∧yr (l.take (k - 1))=yr l from by exact ⟨by omega,by rw [← hT,Big.trim_go l hc.1 hk hc.2]⟩) (by show k - 1<k;omega) ((.e rfl cgs (.c rfl .n)):SubM _ _) (ho:=(o0 rfl)) sN
  ·
   refine zfa<|zi<|zi<|zw<|zd<|ze<|za<|e_mv rfl<|e_p (zb rfl)<|zf<|zd<|zC ?_
   have hfin:l.take k=yr l:=by rw [← hT];exact (Big.trim_stop l hk hc).symm
   have hlk:(l.take k).length=k:=by rw [List.length_take];omega
   refine p_mem (fun w mm=>mm.rowTake 0 rfl k) ?_
   dsimp only [List.set]
   have e3:l.take k=yr l:=by exact hfin
   rw [e3]
   exact zu Tryz.results138 () trivial (zn rfl) (by rw [← hfin,hlk]) (ho:=(o0 rfl)) sN
theorem zYe {a:Nat} {b:Nat} {p1:Option Addr} {c1:Nat} {p2:Option Addr} {c2:Nat} (hb1:(yd a).length≤4398046511104) (hb2:(yd b).length≤4398046511104):Con yl 124 [.slice p1 ((yd a).length) c1,.slice p2 ((yd b).length) c2] [] [slF (rI .u32) p1 c1 (yd a),slF (rI .u32) p2 c2 (yd b)] (Y:=(Option Addr)×Nat) (fun y=>True) (fun y=> .slice (y.1) ((yd (a*b)).length) (y.2)) (fun y=>[rowA 84 (rI .u32) (y.1) (y.2) (yd (a*b))]) (fun y=>[]):=by
 refine zl Tryz.func124 rfl rfl rfl (fun c=> ?_)
 show RunC _ _ _ _ _ [(0,.slice p1 ((yd a).length) c1),(1,.slice p2 ((yd b).length) c2)] [] [slF (rI .u32) p1 c1 (yd a),slF (rI .u32) p2 c2 (yd b)]
 refine zU 0 rfl (fun hL0=> ?_)
 refine zU 1 rfl (fun hL1=> ?_)
 have hoa:=ym a
 have hob:=ym b
 refine ze<|za<|e_p (zb rfl)<|zf<|zd<|ze<|za<|e_mv rfl<|e_p (zK ye rfl)<|e_mv rfl<|e_p (zK ye rfl)<|e_p (zL (z:=(((((yd a).length)+((yd b).length)):Nat):Int)) rfl rfl (w64 om))<|zva rfl rfl (zab (r:=rI .u32) (k:=(((yd a).length)+((yd b).length))) (x0:=0) (γ0:=()) ye inf84 rfl rfl rfl rfl om om rfl (fun g _=>by exact zy.2 dd) dd) (fun b1 _=> ?_)
 refine e_p (zb rfl)<|zf<|zd<|ze<|ze<|za<|e_mv rfl<|e_p (zK ye rfl)<|e_mv rfl<|zf<|zd<|zx<|zja (X:=Nat×(List Int)) (fun x:Nat×(List Int)=>x.1≤(yd a).length∧x.2.length=(yd a).length+(yd b).length∧yv x.2∧(∀k,x.1+(yd b).length≤k→x.2.getD k 0=0)∧yj x.2=yj ((yd a).take x.1)*yj (yd b)) (fun x=>[(20,ya yb ((x.1:Nat):Int)),(19,ya yb (((yd a).length:Nat):Int)),(18,.slice p1 ((yd a).length) c1),(5,.slice (some ⟨b1,0,none⟩) (((yd a).length)+((yd b).length)) (((yd a).length)+((yd b).length))),(4,.slice none 0 0),(1,.slice p2 ((yd b).length) c2)]) (fun x=>[rowA 84 (rI .u32) (some ⟨b1,0,none⟩) (((yd a).length)+((yd b).length)) (x.2)]) (fun x=>[slF (rI .u32) p1 c1 (yd a),slF (rI .u32) p2 c2 (yd b)]) (fun x:Nat×(List Int)=>(yd a).length - x.1) (0,List.replicate ((yd a).length+(yd b).length) 0) (show 0≤(yd a).length∧(List.replicate ((yd a).length+(yd b).length) 0).length=(yd a).length+(yd b).length∧yv (List.replicate ((yd a).length+(yd b).length) 0)∧(∀k,0+(yd b).length≤k→(List.replicate ((yd a).length+(yd b).length) 0).getD k 0=0)∧yj (List.replicate ((yd a).length+(yd b).length) 0)=yj ((yd a).take 0)*yj (yd b) from by exact ⟨by omega,by simp,Big.okL_zeros _,fun k _=>Big.getD_zeros _ k,by simp [Big.valL_zeros,yj]⟩) ((.e rfl cgs (.of rfl)):SubM _ _) (ho:=((.e (i:=0) rfl cgs .n):PickO _ _ _)) ((.of [0,1] rfl):SelR _ _ _) ?_
 rintro ⟨i,os⟩ hI
 replace hI:i≤(yd a).length∧os.length=(yd a).length+(yd b).length∧yv os∧(∀k,i+(yd b).length≤k→os.getD k 0=0)∧yj os=yj ((yd a).take i)*yj (yd b):=hI
 try dsimp only
 obtain ⟨hi,hol,hok,hz,hv⟩:=hI
 have hg1:=yn hoa i
 refine ze<|za<|e_p (zX rfl rfl)<|zf<|zd<|ze<|zG rfl (fun h2=> ?_) (fun h2=> ?_)
 ·
  refine zB<|zd<|ze<|zx<|ze<|za<|e_mv rfl<|zY (x0:=((yd a).getD i 0)) 0 i rfl ye sz84 rfl rfl rfl (by first|rfl|assumption|(simp;omega)|omega) rfl rfl (gD (d:=0) om) (fun b3 o4 hok5=> ?_)
  replace hok5:=zy.1 hok5
  refine e_ru (zt (j:=0) 0 ty84 rfl rfl rfl rfl)<|e_p (zb rfl)<|e_p (zb rfl)<|zf<|zd<|ze<|za<|e_p (zb rfl)<|zf<|zd<|ze<|ze<|za<|e_mv rfl<|e_p (zK ye rfl)<|e_mv rfl<|zf<|zd<|zx<|zja (X:=Nat×(List Int)×Int) (fun x:Nat×(List Int)×Int=>x.1≤(yd b).length∧x.2.1.length=(yd a).length+(yd b).length∧yv x.2.1∧0≤x.2.2∧x.2.2<1000000000∧(∀k,i+(yd b).length≤k→x.2.1.getD k 0=0)∧yj x.2.1+yz (i+x.1)*x.2.2=yj ((yd a).take i)*yj (yd b)+yz i*(yd a).getD i 0*yj ((yd b).take x.1)) (fun x=>[(8,.int .u64 (x.2.2)),(27,ya yb ((x.1:Nat):Int)),(26,ya yb (((yd b).length:Nat):Int)),(25,.slice p2 ((yd b).length) c2),(7,.int .u32 ((yd a).getD i 0)),(6,ya yb ((i:Nat):Int)),(20,ya yb ((i:Nat):Int)),(19,ya yb (((yd a).length:Nat):Int)),(18,.slice p1 ((yd a).length) c1),(5,.slice (some ⟨b1,0,none⟩) (((yd a).length)+((yd b).length)) (((yd a).length)+((yd b).length))),(4,.slice none 0 0),(1,.slice p2 ((yd b).length) c2)]) (fun x=>[rowA 84 (rI .u32) (some ⟨b1,0,none⟩) (((yd a).length)+((yd b).length)) (x.2.1)]) (fun x=>[atF b3 o4 [.int .u32 ((yd a).getD i 0)],slF (rI .u32) p1 c1 (yd a),slF (rI .u32) p2 c2 (yd b)]) (fun x:Nat×(List Int)×Int=>(yd b).length - x.1) (0,os,0) (show 0≤(yd b).length∧os.length=(yd a).length+(yd b).length∧yv os∧0≤0∧0<1000000000∧(∀k,i+(yd b).length≤k→os.getD k 0=0)∧yj os+yz (i+0)*0=yj ((yd a).take i)*yj (yd b)+yz i*(yd a).getD i 0*yj ((yd b).take 0) from by exact ⟨by omega,hol,hok,by decide,by decide,hz,by rw [hv];simp [yj]⟩) ((.c rfl (.e rfl cgs (.of rfl))):SubM _ _) (ho:=(o0 rfl)) ((.of [0,1,2] rfl):SelR _ _ _) ?_
  rintro ⟨j,os2,cy⟩ hJ
  replace hJ:j≤(yd b).length∧os2.length=(yd a).length+(yd b).length∧yv os2∧0≤cy∧cy<1000000000∧(∀k,i+(yd b).length≤k→os2.getD k 0=0)∧yj os2+yz (i+j)*cy=yj ((yd a).take i)*yj (yd b)+yz i*(yd a).getD i 0*yj ((yd b).take j):=hJ
  try dsimp only
  obtain ⟨hj,hol2,hok2,hcy0,hcy1,hz2,hv2⟩:=hJ
  have hg2:=yn hob j
  have hg3:=yn hok2 (i+j)
  have hpq:=Big.mul_lim hg1 hg2
  refine ze<|za<|e_p (zX rfl rfl)<|zf<|zd<|ze<|zG rfl (fun h6=> ?_) (fun h6=> ?_)
  ·
   refine zB<|zd<|ze<|zx<|ze<|za<|e_mv rfl<|zY (x0:=((yd b).getD j 0)) 2 j rfl ye sz84 rfl rfl rfl (by first|rfl|assumption|(simp;omega)|omega) rfl rfl (gD (d:=0) om) (fun b7 o8 hok9=> ?_)
   replace hok9:=zy.1 hok9
   refine e_ru (zt (j:=0) 0 ty84 rfl rfl rfl rfl)<|e_p (zb rfl)<|e_p (zb rfl)<|zf<|zd<|ze<|za<|e_mv rfl<|e_mv rfl<|e_mv rfl<|e_p (zL (z:=(((i+j):Nat):Int)) rfl rfl (w64 om))<|e_p (zZ (j:=(i+j)) ye sz84 rfl rfl rfl om)<|r_vl rfl rfl (zra 0 (i+j) rfl ty84 rfl rfl (gD (d:=0) om) rfl) (fun _ hok10=> ?_)
   replace hok10:=zy.1 hok10
   refine e_p (zD (z:=(os2.getD (i+j) 0)) rfl (by rw [yh];rfl) yi (wu64 om))<|e_mv rfl<|e_p (zD (z:=((yd a).getD i 0)) rfl (by rw [yh];rfl) yi (wu64 om))<|e_mv rfl<|e_p (zD (z:=((yd b).getD j 0)) rfl (by rw [yh];rfl) yi (wu64 om))<|e_p (zpb (z:=(((yd a).getD i 0)*((yd b).getD j 0))) rfl rfl (wu64 om))<|e_p (zL (z:=((os2.getD (i+j) 0)+(((yd a).getD i 0)*((yd b).getD j 0)))) rfl rfl (wu64 om))<|e_mv rfl<|e_p (zL (z:=(((os2.getD (i+j) 0)+(((yd a).getD i 0)*((yd b).getD j 0)))+cy)) rfl rfl (wu64 om))<|e_p (zb rfl)<|zf<|zd<|za<|e_mv rfl<|e_mv rfl<|e_mv rfl<|e_p (zL (z:=(((i+j):Nat):Int)) rfl rfl (w64 om))<|e_mv rfl<|e_p (zmb (z:=((((os2.getD (i+j) 0)+(((yd a).getD i 0)*((yd b).getD j 0)))+cy)%1000000000)) rfl rfl om (remN om om))<|e_p (zD (z:=((((os2.getD (i+j) 0)+(((yd a).getD i 0)*((yd b).getD j 0)))+cy)%1000000000)) rfl (by rw [yi];rfl) yh (wu32 om))<|e_mv rfl<|e_p (zeb (z:=((((os2.getD (i+j) 0)+(((yd a).getD i 0)*((yd b).getD j 0)))+cy) / 1000000000)) rfl rfl om (by rw [quoN (z:=((((os2.getD (i+j) 0)+(((yd a).getD i 0)*((yd b).getD j 0)))+cy) / 1000000000)) om om];exact wu64 om))<|e_p (zZ (j:=(i+j)) ye sz84 rfl rfl rfl om)<|zEa 0 rfl rfl rfl (zS (j:=(i+j)) (x0:=((((os2.getD (i+j) 0)+(((yd a).getD i 0)*((yd b).getD j 0)))+cy)%1000000000)) (γ0:=()) rfl rfl (by first|omega|(rw [List.length_map];omega)|(simp only [List.length_set];omega)|(simp;done)|(simp;omega)) rfl rfl sz84 (fun _ _=>by exact zy.2 om)) (fun _=> .z) (fun _ _=> ?_)
   refine e_p (zb rfl)<|zf<|zP<|zd<|za<|e_p (zL (z:=(((j+1):Nat):Int)) rfl rfl (w64 om))<|e_mv rfl<|zf<|zda ((j+1),os2.set (i+j) ((os2.getD (i+j) 0+(yd a).getD i 0*(yd b).getD j 0+cy)%1000000000),(os2.getD (i+j) 0+(yd a).getD i 0*(yd b).getD j 0+cy) / 1000000000) (show (j+1)≤(yd b).length∧(os2.set (i+j) ((os2.getD (i+j) 0+(yd a).getD i 0*(yd b).getD j 0+cy)%1000000000)).length=(yd a).length+(yd b).length∧yv (os2.set (i+j) ((os2.getD (i+j) 0+(yd a).getD i 0*(yd b).getD j 0+cy)%1000000000))∧0≤((os2.getD (i+j) 0+(yd a).getD i 0*(yd b).getD j 0+cy) / 1000000000)∧((os2.getD (i+j) 0+(yd a).getD i 0*(yd b).getD j 0+cy) / 1000000000)<1000000000∧(∀k,i+(yd b).length≤k→(os2.set (i+j) ((os2.getD (i+j) 0+(yd a).getD i 0*(yd b).getD j 0+cy)%1000000000)).getD k 0=0)∧yj (os2.set (i+j) ((os2.getD (i+j) 0+(yd a).getD i 0*(yd b).getD j 0+cy)%1000000000))+yz (i+(j+1))*((os2.getD (i+j) 0+(yd a).getD i 0*(yd b).getD j 0+cy) / 1000000000)=yj ((yd a).take i)*yj (yd b)+yz i*(yd a).getD i 0*yj ((yd b).take (j+1)) from by exact ⟨by omega,by simpa using hol2,yQ hok2 om om,by omega,by omega,fun k hk=>by rw [yM om];exact hz2 k om,Big.mul_step hv2 om om⟩) (by show (yd b).length - (j+1)<(yd b).length - j;omega) ((.e rfl cgs (.of rfl)):SubM _ _) (ho:=((.e (i:=0) rfl cgs .n):PickO _ _ _)) ((.of [1,2,3] rfl):SelR _ _ _)
  ·
   have hjb:j=(yd b).length:=by omega
   subst hjb
   have hv3:=hv2
   refine zfa<|zi<|zi<|zw<|zd<|za<|e_mv rfl<|e_mv rfl<|e_mv rfl<|e_p (zK ye rfl)<|e_p (zL (z:=(((i+((yd b).length)):Nat):Int)) rfl rfl (w64 om))<|e_mv rfl<|e_p (zD (z:=cy) rfl (by rw [yi];rfl) yh (wu32 om))<|e_p (zZ (j:=(i+((yd b).length))) ye sz84 rfl rfl rfl om)<|zEa 0 rfl rfl rfl (zS (j:=(i+((yd b).length))) (x0:=cy) (γ0:=()) rfl rfl (by first|omega|(rw [List.length_map];omega)|(simp only [List.length_set];omega)|(simp;done)|(simp;omega)) rfl rfl sz84 (fun _ _=>by exact zy.2 om)) (fun _=> .z) (fun _ _=> ?_)
   refine zf<|zP<|zd<|za<|e_p (zL (z:=(((i+1):Nat):Int)) rfl rfl (w64 om))<|e_mv rfl<|zf<|zda ((i+1),os2.set (i+(yd b).length) cy) (show (i+1)≤(yd a).length∧(os2.set (i+(yd b).length) cy).length=(yd a).length+(yd b).length∧yv (os2.set (i+(yd b).length) cy)∧(∀k,(i+1)+(yd b).length≤k→(os2.set (i+(yd b).length) cy).getD k 0=0)∧yj (os2.set (i+(yd b).length) cy)=yj ((yd a).take (i+1))*yj (yd b) from by exact ⟨by omega,by simpa using hol2,yQ hok2 om om,fun k hk=>by rw [yM om];exact hz2 k om,Big.mul_round hv3 om (hz2 _ (Nat.le_refl _))⟩) (by show (yd a).length - (i+1)<(yd a).length - i;omega) (mR rfl) (ho:=((.e (i:=0) rfl cgs .n):PickO _ _ _)) ((.of [1,2] rfl):SelR _ _ _)
 ·
  have hia:i=(yd a).length:=by omega
  have hfin:yr os=yd (a*b):=Big.trimL_of hok (by rw [hv,hia,List.take_length,yu,yu,Int.natCast_mul])
  refine zfa<|zi<|zi<|zw<|zd<|ze<|za<|e_mv rfl<|zAg (A:=[rowA 84 (rI .u32) (some ⟨b1,0,none⟩) (((yd a).length)+((yd b).length)) os]) (F:=[]) (first:=[]) (cap:=[]) rfl rfl rfl (.c rfl .n) ce138 (zzf (p:=some ⟨b1,0,none⟩) (n:=(((yd a).length)+((yd b).length))) (cap:=(((yd a).length)+((yd b).length))) (l:=os) (hn:=cbb)) (.n) ?_
  rintro ⟨⟩ -
  dsimp only [aq,nq,cq]
  refine e_p (zb rfl)<|zf<|zd<|zC ?_
  have e11:yr os=yd (a*b):=by exact hfin
  rw [e11]
  exact zu Tryz.results124 ((some ⟨b1,0,none⟩),(((yd a).length)+((yd b).length))) trivial (zn rfl) rfl (ho:=(o0 rfl)) sN
end Go.Proofs.YtahiajepeodhoaaGreat.Sp
namespace Go.Proofs.YtahiajepeodhoaaGreat.Sp
open Go
set_option linter.unusedVariables false
set_option maxRecDepth 100000
set_option maxHeartbeats 8000000
theorem zZf {a:Nat} {b:Nat} {p1:Option Addr} {c1:Nat} {p2:Option Addr} {c2:Nat} (hb1:(yd a).length≤4398046511104) (hb2:(yd b).length≤4398046511104) (hb3:2≤(yd b).length) (hab:b≤a):Con yl 156 [.slice p1 ((yd a).length) c1,.slice p2 ((yd b).length) c2] [] [slF (rI .u32) p1 c1 (yd a),slF (rI .u32) p2 c2 (yd b)] (Y:=(Option Addr)×Nat×(Option Addr)×Nat) (fun y=>True) (fun y=> .tuple #[.slice (y.1) ((yd (a / b)).length) (y.2.1),.slice (y.2.2.1) ((yd (a%b)).length) (y.2.2.2)]) (fun y=>[]) (fun y=>[slF (rI .u32) (y.1) (y.2.1) (yd (a / b)),slF (rI .u32) (y.2.2.1) (y.2.2.2) (yd (a%b))]):=by
 refine zl Tryz.func156 rfl rfl rfl (fun c=> ?_)
 show RunC _ _ _ _ _ [(0,.slice p1 ((yd a).length) c1),(1,.slice p2 ((yd b).length) c2)] [] [slF (rI .u32) p1 c1 (yd a),slF (rI .u32) p2 c2 (yd b)]
 refine zU 0 rfl (fun hL0=> ?_)
 refine zU 1 rfl (fun hL1=> ?_)
 have hob:=ym b
 have htop:=yn hob ((yd b).length - 1)
 have hdt:=Big.digs_top (b:=b) (n:=(yd b).length - 1) om
 have hab2:=yx hab
 have hq1:0≤1000000000 / ((yd b).getD ((yd b).length - 1) 0+1):=Int.ediv_nonneg om om
 have hq2:1000000000 / ((yd b).getD ((yd b).length - 1) 0+1)≤500000000:=Int.ediv_le_of_le_mul om om
 refine ze<|za<|e_p (zb rfl)<|e_p (zb rfl)<|zf<|zd<|ze<|za<|e_mv rfl<|e_mv rfl<|e_p (zK ye rfl)<|e_p (zca (z:=((((yd b).length - 1):Nat):Int)) rfl rfl (w64 om))<|zY (x0:=((yd b).getD ((yd b).length - 1) 0)) 1 ((yd b).length - 1) rfl ye sz84 rfl rfl rfl (by first|rfl|assumption|(simp;done)|omega) rfl rfl (gD (d:=0) om) (fun b1 o2 hok3=> ?_)
 replace hok3:=zy.1 hok3
 refine e_ru (zt (j:=0) 0 ty84 rfl rfl rfl rfl)<|e_p (zD (z:=((yd b).getD ((yd b).length - 1) 0)) rfl (by rw [yh];rfl) yi (wu64 om))<|e_p (zL (z:=(((yd b).getD ((yd b).length - 1) 0)+1)) rfl rfl (wu64 om))<|e_p (zeb (z:=(1000000000 / (((yd b).getD ((yd b).length - 1) 0)+1))) rfl rfl om (by rw [quoN (z:=(1000000000 / (((yd b).getD ((yd b).length - 1) 0)+1))) om om];exact wu64 om))<|e_p (zD (z:=(1000000000 / (((yd b).getD ((yd b).length - 1) 0)+1))) rfl (by rw [yi];rfl) yh (wu32 om))<|e_p (zb rfl)<|zf<|zd<|ze ?_
 obtain ⟨s,hs⟩:∃s:Nat,s=(1000000000 / ((yd b).getD ((yd b).length - 1) 0+1)).toNat:=⟨_,rfl⟩
 obtain ⟨hs1,hs2,hs3⟩:=Big.scale_len (n:=(yd b).length - 1) om hs
 have hsd:=Big.digs_one hs1 (by omega:s<1000000000)
 have hsl:(yd s).length=1:=by rw [hsd];rfl
 have e4:((1000000000 / (((yd b).getD ((yd b).length - 1) 0)+1)):Int)=((s:Nat):Int):=by omega
 rw [e4]
 refine za<|e_mv rfl<|e_mv rfl<|zva rfl rfl (zaa (enc:=fun z:Int=>[.int .u32 z]) (ok:=InK .u32) (h1:=fun _=>rfl) (h2:=fun _=>rfl) (k:=1) ye inf84 rfl dd dd dd (.c (x:=((s:Nat):Int)) rfl rfl (fun _ _=>by exact zy.2 om) .n)) (fun b5 _=> ?_)
 refine zba 0 rfl .z ?_
 have e6:[((s:Nat):Int)]=yd s:=by exact hsd.symm
 rw [e6]
 have e7:(.slice (some ⟨b5,0,none⟩) 1 1:Value)= .slice (some ⟨b5,0,none⟩) ((yd s).length) 1:=by rw [hsl]
 rw [e7]
 refine zm rfl rfl (.c rfl (.c rfl .n)) ce124 (zYe (a:=a) (b:=s) (p1:=p1) (c1:=c1) (p2:=some ⟨b5,0,none⟩) (c2:=1) (hb1:=ass) (hb2:=cbb)) (.c (j:=2) rfl (.c (j:=0) rfl .n)) ?_
 rintro ⟨p38,c39⟩ -
 dsimp only [aq,nq,cq]
 refine e_p (zb rfl)<|zf<|zd<|ze<|za<|e_mv rfl<|e_mv rfl<|zva rfl rfl (zaa (enc:=fun z:Int=>[.int .u32 z]) (ok:=InK .u32) (h1:=fun _=>rfl) (h2:=fun _=>rfl) (k:=1) ye inf84 rfl dd dd dd (.c (x:=((s:Nat):Int)) rfl rfl (fun _ _=>by exact zy.2 om) .n)) (fun b10 _=> ?_)
 refine zba 0 rfl .z ?_
 have e11:[((s:Nat):Int)]=yd s:=by exact hsd.symm
 rw [e11]
 have e12:(.slice (some ⟨b10,0,none⟩) 1 1:Value)= .slice (some ⟨b10,0,none⟩) ((yd s).length) 1:=by rw [hsl]
 rw [e12]
 refine zm rfl rfl (.c rfl (.c rfl .n)) ce124 (zUd (a:=b) (b:=s) (p1:=p2) (c1:=c2) (p2:=some ⟨b10,0,none⟩) (c2:=1) (hb1:=ass) (hb2:=cbb)) (.c (j:=4) rfl (.c (j:=0) rfl .n)) ?_
 rintro ⟨p313,c314⟩ -
 dsimp only [aq,nq,cq]
 refine e_p (zb rfl)<|zf<|zd<|ze ?_
 obtain ⟨A,hA⟩:∃z,z=a*s:=⟨_,rfl⟩
 rw [← hA]
 obtain ⟨V,hV⟩:∃z,z=b*s:=⟨_,rfl⟩
 rw [← hV]
 have hAl:(yd a).length≤(yd A).length:=by rw [hA];exact Big.len_mul_ge hs1
 have hAl2:(yd A).length≤(yd a).length+1:=by have h8:=Big.len_mul_le a s;rw [hsl] at h8;rw [hA];exact h8
 obtain ⟨m,hm⟩:∃z,(yd V).length=z+2:=⟨(yd b).length - 2,by rw [hV,hs3];omega⟩
 have hmb:(yd b).length=m+2:=by rw [hV,hs3] at hm;omega
 have e15:(yd V).length=(m+2):=by exact hm
 rw [e15]
 refine za<|e_mv rfl<|e_p (zK ye rfl)<|e_p (zb rfl)<|zf<|zd<|ze<|za<|e_mv rfl<|zva rfl rfl (zaa (enc:=fun z:Int=>[.int .u32 z]) (ok:=InK .u32) (h1:=fun _=>rfl) (h2:=fun _=>rfl) (k:=1) ye inf84 rfl dd dd dd (.c (x:=0) rfl rfl (fun _ _=>by exact zy.2 om) .n)) (fun b16 _=> ?_)
 refine zba 0 rfl .z<|zEa 2 rfl rfl rfl (zoa 0 rfl ye inf84 dd rfl rfl (by first|rfl|assumption|(simp;done)|omega) rfl (by first|rfl|assumption|(simp;done)|omega) om om) (fun _=>(.s (.s .z))) ?_
 rintro ⟨p17,c18⟩ -
 dsimp only [aq,nq,cq]
 refine e_p (zb rfl)<|zf<|zd<|ze<|ze<|za<|e_mv rfl<|e_p (zK ye rfl)<|e_mv rfl<|e_p (zK ye rfl)<|e_p (zxb rfl rfl)<|zf<|zd<|zG rfl (fun h19=> ?_) (fun h19=> ?_)
 ·
  exact absurd ‹_› om
 ·
  refine zB<|zd<|ze ?_
  obtain ⟨M,hM⟩:∃z,z=((yd A).length)+1:=⟨_,rfl⟩
  rw [← hM]
  refine za<|e_mv rfl<|e_p (zK ye rfl)<|e_mv rfl<|e_p (zca (z:=(((M - (m+2)):Nat):Int)) rfl rfl (w64 om))<|zva rfl rfl (zab (r:=rI .u32) (k:=(M - (m+2))) (x0:=0) (γ0:=()) ye inf84 rfl rfl rfl rfl om om rfl (fun g _=>by exact zy.2 dd) dd) (fun b20 _=> ?_)
  refine e_p (zb rfl)<|zf<|zd<|ze<|ze ?_
  have hMl:m+3≤M:=by omega
  have hLg:yW M (m+2) ((A:Nat):Int) ((V:Nat):Int) (M - (m+2)) (yd A++[0]) []:=yW.start (yS (ym A) dd dd) (by simp [hM]) (by rw [Big.valL_snoc,yu];simp) hm om (by rw [Big.valL_snoc,yu,hM,Nat.add_sub_cancel];simpa using Big.digs_lt A) om
  refine za<|e_mv rfl<|e_p (zK ye rfl)<|e_mv rfl<|e_p (zca (z:=(((M:Nat):Int) - (((m+2):Nat):Int))) rfl rfl (w64 om))<|e_p (zca (z:=((((M:Nat):Int) - (((m+2):Nat):Int)) - 1)) rfl rfl (w64 om))<|e_p (zb rfl)<|zf<|zd<|zx<|zja (X:=Nat×(List Int)×(List Int)) (fun x:Nat×(List Int)×(List Int)=>yW M (m+2) ((A:Nat):Int) ((V:Nat):Int) x.1 x.2.1 x.2.2) (fun x=>[(10,ya yb (((x.1:Nat):Int) - 1)),(4,.slice (some ⟨b20,0,none⟩) (M - (m+2)) (M - (m+2))),(7,.slice p17 M c18),(9,ya yb (((m+2):Nat):Int)),(8,.slice p313 (m+2) c314),(6,.int .u32 ((s:Nat):Int)),(5,.slice none 0 0)]) (fun x=>[rowA 84 (rI .u32) (some ⟨b20,0,none⟩) (M - (m+2)) (List.replicate x.1 0++x.2.2),rowA 84 (rI .u32) p17 c18 (x.2.1)]) (fun x=>[slF (rI .u32) (some ⟨b16,0,none⟩) 1 ([0]),slF (rI .u32) p313 c314 (yd V),slF (rI .u32) (some ⟨b10,0,none⟩) 1 (yd s),slF (rI .u32) (some ⟨b5,0,none⟩) 1 (yd s),atF b1 o2 [.int .u32 ((yd b).getD ((yd b).length - 1) 0)],slF (rI .u32) p1 c1 (yd a),slF (rI .u32) p2 c2 (yd b)]) (fun x:Nat×(List Int)×(List Int)=>x.1) ((M - (m+2)),(yd A++[0]),([]:List Int)) (show yW M (m+2) ((A:Nat):Int) ((V:Nat):Int) (M - (m+2)) (yd A++[0]) ([]:List Int) from by exact hLg) ((.e rfl (congrArg (Value.int .i64) om) (.of rfl)):SubM _ _) (ho:=((.e (i:=0) rfl (by simp) (.e (i:=2) rfl (by simp) .n)):PickO _ _ _)) ((.of [0,1,2,3,4,5,6] rfl):SelR _ _ _) ?_
  rintro ⟨jj,u,qs⟩ hI
  replace hI:yW M (m+2) ((A:Nat):Int) ((V:Nat):Int) jj u qs:=hI
  try dsimp only
  refine ze<|ze<|za<|e_mv rfl<|e_p (zXa rfl rfl)<|zf<|zd<|zG rfl (fun hj=> ?_) (fun hj=> ?_)
  ·
   obtain ⟨j,rfl⟩:∃j,jj=j+1:=⟨jj - 1,by omega⟩
   have e21:(((((j+1):Nat):Int) - 1):Int)=((j:Nat):Int):=by omega
   rw [e21]
   have hjM:=hI.jle
   have hul:=hI.ul
   have hT:=hI.tp hm
   have hu2:=hT.a2
   have hu1:=hT.a1
   have hu0:=hT.a0
   have hvt1:=hT.vt1
   have hvt2:=hT.vt2
   have hvs0:=hT.vs0
   have hvs1:=hT.vs1
   have hgst:=hT.start
   have hgl0:=Big.Gs.le hT hgst
   have hg00:=hgst.g0
   have hg01:=hgst.r0
   have hrlt:=Int.emod_lt_of_pos ((u.getD (j+(m+2)) 0)*1000000000+(u.getD (j+(m+1)) 0)) (show 0<((yd V).getD (m+1) 0) by omega)
   refine zB<|zd<|ze<|zx<|ze<|zV (OW:=[]) (O:=[rowA 84 (rI .u32) (some ⟨b20,0,none⟩) (M - (m+2)) (List.replicate (j+1) 0++qs),rowA 84 (rI .u32) p17 c18 u]) 100000 mixed (.then (.block (.then (.then (.block (.then .ret)))))) kr<|e_dm 0 rfl rfl rfl<|e_dm 1 rfl rfl rfl<|e_dm 2 rfl rfl rfl<|e_pv 3 rfl rfl (zL (z:=(((j+(m+2)):Nat):Int)) rfl rfl (w64 om))<|e_dm 7 rfl rfl rfl<|e_dm 8 rfl rfl rfl<|e_dm 9 rfl rfl rfl<|e_pv 10 rfl rfl (zL (z:=(((j+(m+2)):Nat):Int)) rfl rfl (w64 om))<|e_pv 11 rfl rfl (zca (z:=(((j+(m+1)):Nat):Int)) rfl rfl (w64 om))<|e_u 12 rfl rfl (zka 1 (j+(m+1)) rfl ye sz84 rfl (by first|rfl|assumption|(simp;done)|omega) rfl rfl om)<|d_vl 13 rfl rfl kr kr rfl rfl (zra 1 (j+(m+1)) rfl ty84 rfl rfl (gD (d:=0) om) rfl) (fun _ hok22=> ?_)
   replace hok22:=zy.1 hok22
   refine e_pv 14 rfl rfl (zD (z:=(u.getD (j+(m+1)) 0)) rfl (by rw [yh];rfl) yi (wu64 om))<|e_one 4 (zTf 1 rfl rfl rfl rfl rfl (.c rfl (.c rfl .n)) ce162 (zEe (p:=p17) (n:=M) (cap:=c18) (l:=u) (i:=(j+(m+2))) (hn:=cbb) (hi:=cbb)) (.c (j:=0) rfl .n) ?_)
   refine e_pv 5 rfl rfl (zD (z:=u.getD (j+(m+2)) 0) rfl (by rw [yh];rfl) yi (wu64 om))<|e_pv 6 rfl rfl (zpb (z:=(u.getD (j+(m+2)) 0*1000000000)) rfl rfl (wu64 om))<|e_pv 15 rfl rfl (zL (z:=((u.getD (j+(m+2)) 0*1000000000)+(u.getD (j+(m+1)) 0))) rfl rfl (wu64 om))<|e_pv 16 rfl rfl (zb rfl)<|zH kr<|zd<|ze<|zV (OW:=[]) (O:=[rowA 84 (rI .u32) (some ⟨b20,0,none⟩) (M - (m+2)) (List.replicate (j+1) 0++qs),rowA 84 (rI .u32) p17 c18 u]) 100000 mixed (.then (.block (.then (.then (.block (.then .ret)))))) kr<|e_dm 0 rfl rfl rfl<|e_dm 1 rfl rfl rfl<|e_dm 2 rfl rfl rfl<|e_pv 3 rfl rfl (zca (z:=(((m+1):Nat):Int)) rfl rfl (w64 om))<|zHa (x0:=((yd V).getD (m+1) 0)) 4 rfl rfl kr kr 1 (m+1) rfl ye sz84 rfl rfl rfl (by first|rfl|assumption|(simp;done)|omega) rfl rfl (gD (d:=0) om) (fun b23 o24 hok25=> ?_)
   replace hok25:=zy.1 hok25
   refine e_u 5 rfl rfl (zt (j:=0) 0 ty84 rfl rfl rfl rfl)<|e_pv 6 rfl rfl (zD (z:=((yd V).getD (m+1) 0)) rfl (by rw [yh];rfl) yi (wu64 om))<|e_pv 7 rfl rfl (zeb (z:=(((u.getD (j+(m+2)) 0*1000000000)+(u.getD (j+(m+1)) 0)) / ((yd V).getD (m+1) 0))) rfl rfl om (by rw [quoN (z:=(((u.getD (j+(m+2)) 0*1000000000)+(u.getD (j+(m+1)) 0)) / ((yd V).getD (m+1) 0))) om om];exact wu64 om))<|e_dm 8 rfl rfl rfl<|e_dm 9 rfl rfl rfl<|e_dm 10 rfl rfl rfl<|e_pv 11 rfl rfl (zca (z:=(((m+1):Nat):Int)) rfl rfl (w64 om))<|zHa (x0:=((yd V).getD (m+1) 0)) 12 rfl rfl kr kr 2 (m+1) rfl ye sz84 rfl rfl rfl (by first|rfl|assumption|(simp;done)|omega) rfl rfl (gD (d:=0) om) (fun b26 o27 hok28=> ?_)
   replace hok28:=zy.1 hok28
   refine e_u 13 rfl rfl (zt (j:=0) 0 ty84 rfl rfl rfl rfl)<|e_pv 14 rfl rfl (zD (z:=((yd V).getD (m+1) 0)) rfl (by rw [yh];rfl) yi (wu64 om))<|e_pv 15 rfl rfl (zmb (z:=(((u.getD (j+(m+2)) 0*1000000000)+(u.getD (j+(m+1)) 0))%((yd V).getD (m+1) 0))) rfl rfl om (remN om om))<|e_pv 16 rfl rfl (zb rfl)<|e_pv 17 rfl rfl (zb rfl)<|zH kr<|zd<|zOa (X:=Int) (fun x=>(0≤x∧x<1000000000)∧(yj (u.drop j))<(x+1)*(V:Int)∧x*(V:Int)<(yj (u.drop j))+(V:Int)) (fun x=>[(12,.int .u64 x),(10,ya yb ((j:Nat):Int)),(4,.slice (some ⟨b20,0,none⟩) (M - (m+2)) (M - (m+2))),(7,.slice p17 M c18),(9,ya yb (((m+2):Nat):Int)),(8,.slice p313 (m+2) c314),(6,.int .u32 ((s:Nat):Int)),(5,.slice none 0 0)]) (fun x=>[rowA 84 (rI .u32) (some ⟨b20,0,none⟩) (M - (m+2)) (List.replicate (j+1) 0++qs),rowA 84 (rI .u32) p17 c18 u]) (fun x=>[atF b26 o27 [.int .u32 ((yd V).getD (m+1) 0)],atF b23 o24 [.int .u32 ((yd V).getD (m+1) 0)],slF (rI .u32) (some ⟨b16,0,none⟩) 1 ([0]),slF (rI .u32) p313 c314 (yd V),slF (rI .u32) (some ⟨b10,0,none⟩) 1 (yd s),slF (rI .u32) (some ⟨b5,0,none⟩) 1 (yd s),atF b1 o2 [.int .u32 ((yd b).getD ((yd b).length - 1) 0)],slF (rI .u32) p1 c1 (yd a),slF (rI .u32) p2 c2 (yd b)]) ?_ ?_
   ·
    refine zx<|zja (X:=Int×Int) (fun x:Int×Int=>Big.Gs (yj (u.drop j)) (V:Int) ((yd V).getD (m+1) 0) ((u.getD (j+(m+2)) 0)*1000000000+(u.getD (j+(m+1)) 0)) x.1 x.2∧x.2<1000000000) (fun x=>[(13,.int .u64 (x.2)),(12,.int .u64 (x.1)),(10,ya yb ((j:Nat):Int)),(4,.slice (some ⟨b20,0,none⟩) (M - (m+2)) (M - (m+2))),(7,.slice p17 M c18),(9,ya yb (((m+2):Nat):Int)),(8,.slice p313 (m+2) c314),(6,.int .u32 ((s:Nat):Int)),(5,.slice none 0 0)]) (fun x=>[rowA 84 (rI .u32) (some ⟨b20,0,none⟩) (M - (m+2)) (List.replicate (j+1) 0++qs),rowA 84 (rI .u32) p17 c18 u]) (fun x=>[atF b26 o27 [.int .u32 ((yd V).getD (m+1) 0)],atF b23 o24 [.int .u32 ((yd V).getD (m+1) 0)],slF (rI .u32) (some ⟨b16,0,none⟩) 1 ([0]),slF (rI .u32) p313 c314 (yd V),slF (rI .u32) (some ⟨b10,0,none⟩) 1 (yd s),slF (rI .u32) (some ⟨b5,0,none⟩) 1 (yd s),atF b1 o2 [.int .u32 ((yd b).getD ((yd b).length - 1) 0)],slF (rI .u32) p1 c1 (yd a),slF (rI .u32) p2 c2 (yd b)]) (fun x:Int×Int=>x.1.toNat) ((((u.getD (j+(m+2)) 0*1000000000)+(u.getD (j+(m+1)) 0)) / ((yd V).getD (m+1) 0)),(((u.getD (j+(m+2)) 0*1000000000)+(u.getD (j+(m+1)) 0))%((yd V).getD (m+1) 0))) (show Big.Gs (yj (u.drop j)) (V:Int) ((yd V).getD (m+1) 0) ((u.getD (j+(m+2)) 0)*1000000000+(u.getD (j+(m+1)) 0)) (((u.getD (j+(m+2)) 0*1000000000)+(u.getD (j+(m+1)) 0)) / ((yd V).getD (m+1) 0)) (((u.getD (j+(m+2)) 0*1000000000)+(u.getD (j+(m+1)) 0))%((yd V).getD (m+1) 0))∧(((u.getD (j+(m+2)) 0*1000000000)+(u.getD (j+(m+1)) 0))%((yd V).getD (m+1) 0))<1000000000 from by exact ⟨hgst,by omega⟩) (mR rfl) (ho:=((.of [0,0] rfl):PickO _ _ _)) ((.of [0,1,2,3,4,5,6,7,8] rfl):SelR _ _ _) ?_
    rintro ⟨g,r⟩ hG
    replace hG:Big.Gs (yj (u.drop j)) (V:Int) ((yd V).getD (m+1) 0) ((u.getD (j+(m+2)) 0)*1000000000+(u.getD (j+(m+1)) 0)) g r∧r<1000000000:=hG
    try dsimp only
    obtain ⟨hGs,hr9⟩:=hG
    have hgl:=Big.Gs.le hT hGs
    have hg0:=hGs.g0
    have hr0:=hGs.r0
    have hgm:=Big.mul_lim3 hg0 hgl.1 hvs0 hvs1
    refine ze<|zOa (X:=Unit) (fun x=>True) (fun x=>[(123,.bool (decide ((1000000000≤g)∨(((r*1000000000)+(u.getD (j+m) 0))<(g*((yd V).getD m 0)))))),(13,.int .u64 r),(12,.int .u64 g),(10,ya yb ((j:Nat):Int)),(4,.slice (some ⟨b20,0,none⟩) (M - (m+2)) (M - (m+2))),(7,.slice p17 M c18),(9,ya yb (((m+2):Nat):Int)),(8,.slice p313 (m+2) c314),(6,.int .u32 ((s:Nat):Int)),(5,.slice none 0 0)]) (fun x=>[rowA 84 (rI .u32) (some ⟨b20,0,none⟩) (M - (m+2)) (List.replicate (j+1) 0++qs),rowA 84 (rI .u32) p17 c18 u]) (fun x=>[atF b26 o27 [.int .u32 ((yd V).getD (m+1) 0)],atF b23 o24 [.int .u32 ((yd V).getD (m+1) 0)],slF (rI .u32) (some ⟨b16,0,none⟩) 1 ([0]),slF (rI .u32) p313 c314 (yd V),slF (rI .u32) (some ⟨b10,0,none⟩) 1 (yd s),slF (rI .u32) (some ⟨b5,0,none⟩) 1 (yd s),atF b1 o2 [.int .u32 ((yd b).getD ((yd b).length - 1) 0)],slF (rI .u32) p1 c1 (yd a),slF (rI .u32) p2 c2 (yd b)]) ?_ ?_
    ·
     refine zV (OW:=[]) (O:=[rowA 84 (rI .u32) (some ⟨b20,0,none⟩) (M - (m+2)) (List.replicate (j+1) 0++qs),rowA 84 (rI .u32) p17 c18 u]) 100000 mixed (.then (.then (.then (.block (.then (.block (.then (.then (.block (.then .ret)))))))))) kr<|e_dm 0 rfl rfl rfl<|e_pv 1 rfl rfl (zXa rfl rfl)<|zCe 2 rfl rfl kr kr rfl rfl (zga rfl) (fun hge=> ?_) (fun hge=> ?_)
     ·
      refine e_skip 3 rfl rfl<|e_skip 4 rfl rfl<|e_skip 5 rfl rfl<|e_skip 6 rfl rfl<|e_skip 7 rfl rfl<|e_skip 8 rfl rfl<|e_skip 9 rfl rfl<|e_skip 10 rfl rfl<|e_skip 11 rfl rfl<|e_skip 12 rfl rfl<|e_skip 13 rfl rfl<|e_skip 14 rfl rfl<|e_skip 15 rfl rfl<|e_skip 16 rfl rfl<|e_skip 17 rfl rfl<|e_skip 18 rfl rfl<|e_skip 19 rfl rfl<|e_skip 20 rfl rfl<|e_skip 21 rfl rfl<|e_skip 22 rfl rfl<|e_pv 23 rfl rfl (zE rfl rfl)<|zH kr ?_
      exact zT () tt9 ((.e rfl (congrArg Value.bool (by exact (decide_eq_true (.inl hge)).symm)) (.of rfl)):SubM _ _) (ho:=((.of [0,0] rfl):PickO _ _ _)) ((.of [0,1,2,3,4,5,6,7,8] rfl):SelR _ _ _)
     ·
      refine e_dm 3 rfl rfl rfl<|e_dm 4 rfl rfl rfl<|e_dm 5 rfl rfl rfl<|e_pv 6 rfl rfl (zca (z:=((m:Nat):Int)) rfl rfl (w64 om))<|zHa (x0:=((yd V).getD m 0)) 7 rfl rfl kr kr 3 m rfl ye sz84 rfl rfl rfl (by first|rfl|assumption|(simp;done)|omega) rfl rfl (gD (d:=0) om) (fun b29 o30 hok31=> ?_)
      replace hok31:=zy.1 hok31
      refine e_u 8 rfl rfl (zt (j:=0) 0 ty84 rfl rfl rfl rfl)<|e_pv 9 rfl rfl (zD (z:=((yd V).getD m 0)) rfl (by rw [yh];rfl) yi (wu64 om))<|e_pv 10 rfl rfl (zpb (z:=(g*((yd V).getD m 0))) rfl rfl (wu64 om))<|e_dm 11 rfl rfl rfl<|e_pv 12 rfl rfl (zpb (z:=(r*1000000000)) rfl rfl (wu64 om))<|e_dm 13 rfl rfl rfl<|e_dm 14 rfl rfl rfl<|e_dm 15 rfl rfl rfl<|e_pv 16 rfl rfl (zL (z:=(((j+(m+2)):Nat):Int)) rfl rfl (w64 om))<|e_pv 17 rfl rfl (zca (z:=(((j+m):Nat):Int)) rfl rfl (w64 om))<|e_u 18 rfl rfl (zka 1 (j+m) rfl ye sz84 rfl (by first|rfl|assumption|(simp;done)|omega) rfl rfl om)<|d_vl 19 rfl rfl kr kr rfl rfl (zra 1 (j+m) rfl ty84 rfl rfl (gD (d:=0) om) rfl) (fun _ hok32=> ?_)
      replace hok32:=zy.1 hok32
      refine e_pv 20 rfl rfl (zD (z:=(u.getD (j+m) 0)) rfl (by rw [yh];rfl) yi (wu64 om))<|e_pv 21 rfl rfl (zL (z:=((r*1000000000)+(u.getD (j+m) 0))) rfl rfl (wu64 om))<|e_pv 22 rfl rfl (zCa rfl rfl)<|e_pv 23 rfl rfl (zE rfl rfl)<|zH kr ?_
      exact zT () tt9 ((.e rfl (congrArg Value.bool (by exact decide_eq_decide.2 ⟨fun h=> .inr h,fun h=>h.resolve_left hge⟩)) (.of rfl)):SubM _ _) (ho:=((.of [0,0] rfl):PickO _ _ _)) ((.of [1,2,3,4,5,6,7,8,9] rfl):SelR _ _ _)
    ·
     rintro ⟨⟩ -
     try dsimp only
     refine zG rfl (fun hgs=> ?_) (fun hgs=> ?_)
     ·
      have hst:=hGs.step hT hgs
      have hst1:=hst.1
      refine zB<|zd<|zx<|ze<|za<|e_mv rfl<|e_p (zca (z:=(g - 1)) rfl rfl (wu64 om))<|e_p (zb rfl)<|zf<|zd<|ze<|za<|e_mv rfl<|e_mv rfl<|e_mv rfl<|e_p (zca (z:=(((m+1):Nat):Int)) rfl rfl (w64 om))<|zY (x0:=((yd V).getD (m+1) 0)) 3 (m+1) rfl ye sz84 rfl rfl rfl (by first|rfl|assumption|(simp;done)|omega) rfl rfl (gD (d:=0) om) (fun b33 o34 hok35=> ?_)
      replace hok35:=zy.1 hok35
      refine e_ru (zt (j:=0) 0 ty84 rfl rfl rfl rfl)<|e_p (zD (z:=((yd V).getD (m+1) 0)) rfl (by rw [yh];rfl) yi (wu64 om))<|e_p (zL (z:=(r+((yd V).getD (m+1) 0))) rfl rfl (wu64 om))<|e_p (zb rfl)<|zf<|zd<|ze<|za<|e_mv rfl<|e_p (zXa rfl rfl)<|zf<|zd<|zG rfl (fun hbr=> ?_) (fun hbr=> ?_)
      ·
       refine zfa<|zKd rfl<|zi<|zw ?_
       exact zT (g - 1) (show (0≤(g - 1)∧(g - 1)<1000000000)∧(yj (u.drop j))<((g - 1)+1)*(V:Int)∧(g - 1)*(V:Int)<(yj (u.drop j))+(V:Int) from by have hs9:=(hGs.step hT hgs).2;have hb9:=Big.Gs.broke hT hs9 hbr;exact ⟨⟨hs9.g0,hb9.1⟩,hs9.up,Big.Gs.fin hT hs9 hb9.1 hb9.2⟩) (mR rfl) (ho:=((.of [0,0] rfl):PickO _ _ _)) ((.of [1,2,3,4,5,6,7,8,9] rfl):SelR _ _ _)
      ·
       refine zB<|zP<|zda ((g - 1),(r+((yd V).getD (m+1) 0))) (show Big.Gs (yj (u.drop j)) (V:Int) ((yd V).getD (m+1) 0) ((u.getD (j+(m+2)) 0)*1000000000+(u.getD (j+(m+1)) 0)) (g - 1) (r+((yd V).getD (m+1) 0))∧(r+((yd V).getD (m+1) 0))<1000000000 from by exact ⟨(hGs.step hT hgs).2,by omega⟩) (by have:=(hGs.step hT hgs).1;show (g - 1).toNat<g.toNat;omega) (mR rfl) (ho:=((.of [0,0] rfl):PickO _ _ _)) ((.of [1,2,3,4,5,6,7,8,9] rfl):SelR _ _ _)
     ·
      refine zfa<|zi<|zi<|zw ?_
      exact zT g (show (0≤g∧g<1000000000)∧(yj (u.drop j))<(g+1)*(V:Int)∧g*(V:Int)<(yj (u.drop j))+(V:Int) from by exact ⟨⟨hg0,by omega⟩,hGs.up,Big.Gs.fin hT hGs om om⟩) (mR rfl) (ho:=((.of [0,0] rfl):PickO _ _ _)) ((.of [0,1,2,3,4,5,6,7,8] rfl):SelR _ _ _)
   ·
    rintro g hC
    replace hC:(0≤g∧g<1000000000)∧(yj (u.drop j))<(g+1)*(V:Int)∧g*(V:Int)<(yj (u.drop j))+(V:Int):=hC
    try dsimp only
    obtain ⟨⟨hg0,hg1⟩,hup,hdn⟩:=hC
    refine ze<|za<|e_p (zb rfl)<|e_p (zb rfl)<|zf<|zd<|ze<|ze<|za<|e_mv rfl<|e_mv rfl<|zf<|zd<|zx<|zja (X:=Nat×(List Int)×Int×Int) (fun x:Nat×(List Int)×Int×Int=>x.1≤m+2∧Big.MsI u j g (yd V) x.1 x.2.1 x.2.2.1 x.2.2.2) (fun x=>[(15,.int .u64 (x.2.2.2)),(14,ya yb (x.2.2.1)),(137,ya yb ((x.1:Nat):Int)),(136,ya yb (((m+2):Nat):Int)),(12,.int .u64 g),(10,ya yb ((j:Nat):Int)),(4,.slice (some ⟨b20,0,none⟩) (M - (m+2)) (M - (m+2))),(7,.slice p17 M c18),(9,ya yb (((m+2):Nat):Int)),(8,.slice p313 (m+2) c314),(6,.int .u32 ((s:Nat):Int)),(5,.slice none 0 0)]) (fun x=>[rowA 84 (rI .u32) (some ⟨b20,0,none⟩) (M - (m+2)) (List.replicate (j+1) 0++qs),rowA 84 (rI .u32) p17 c18 (x.2.1)]) (fun x=>[atF b26 o27 [.int .u32 ((yd V).getD (m+1) 0)],atF b23 o24 [.int .u32 ((yd V).getD (m+1) 0)],slF (rI .u32) (some ⟨b16,0,none⟩) 1 ([0]),slF (rI .u32) p313 c314 (yd V),slF (rI .u32) (some ⟨b10,0,none⟩) 1 (yd s),slF (rI .u32) (some ⟨b5,0,none⟩) 1 (yd s),atF b1 o2 [.int .u32 ((yd b).getD ((yd b).length - 1) 0)],slF (rI .u32) p1 c1 (yd a),slF (rI .u32) p2 c2 (yd b)]) (fun x:Nat×(List Int)×Int×Int=>(m+2) - x.1) (0,u,0,0) (show 0≤m+2∧Big.MsI u j g (yd V) 0 u 0 0 from by exact ⟨Nat.zero_le _,Big.MsI.start hI.uo j g _⟩) ((.c rfl (.c rfl (.e rfl cgs (.of rfl)))):SubM _ _) (ho:=((.of [0,0] rfl):PickO _ _ _)) ((.of [0,1,2,3,4,5,6,7,8] rfl):SelR _ _ _) ?_
    rintro ⟨i,w,bo,ca⟩ hMM
    replace hMM:i≤m+2∧Big.MsI u j g (yd V) i w bo ca:=hMM
    try dsimp only
    obtain ⟨hile,hM2⟩:=hMM
    have hb0:=hM2.b0
    have hb1:=hM2.b1
    have hc0:=hM2.c0
    have hc1:=hM2.c1
    have hwl:=hM2.len
    have hwo:=yn hM2.ok (j+i)
    have hvi:=yn (ym V) i
    have hca:=Big.ms_carry ⟨hg0,hg1⟩ hvi ⟨hc0,hc1⟩
    have hgx:=Int.mul_nonneg hg0 hvi.1
    refine ze<|za<|e_p (zX rfl rfl)<|zf<|zd<|ze<|zG rfl (fun hi=> ?_) (fun hi=> ?_)
    ·
     refine zB<|zd<|ze<|zx<|ze<|za<|e_mv rfl<|e_p (zb rfl)<|zf<|zd<|ze<|za<|e_mv rfl<|e_mv rfl<|e_mv rfl<|zY (x0:=((yd V).getD i 0)) 3 i rfl ye sz84 rfl rfl rfl (by first|rfl|assumption|(simp;done)|omega) rfl rfl (gD (d:=0) om) (fun b36 o37 hok38=> ?_)
     replace hok38:=zy.1 hok38
     refine e_ru (zt (j:=0) 0 ty84 rfl rfl rfl rfl)<|e_p (zD (z:=((yd V).getD i 0)) rfl (by rw [yh];rfl) yi (wu64 om))<|e_p (zpb (z:=(g*((yd V).getD i 0))) rfl rfl (wu64 om))<|e_mv rfl<|e_p (zL (z:=((g*((yd V).getD i 0))+ca)) rfl rfl (wu64 om))<|e_p (zb rfl)<|zf<|zd<|ze<|za<|e_mv rfl<|e_p (zeb (z:=(((g*((yd V).getD i 0))+ca) / 1000000000)) rfl rfl om (by rw [quoN (z:=(((g*((yd V).getD i 0))+ca) / 1000000000)) om om];exact wu64 om))<|e_p (zb rfl)<|zf<|zd<|ze<|za<|e_mv rfl<|e_mv rfl<|e_mv rfl<|e_p (zL (z:=(((j+i):Nat):Int)) rfl rfl (w64 om))<|e_ru (zka 1 (j+i) rfl ye sz84 rfl (by first|rfl|assumption|(simp;done)|omega) rfl rfl om)<|r_vl rfl rfl (zra 1 (j+i) rfl ty84 rfl rfl (gD (d:=0) om) rfl) (fun _ hok39=> ?_)
     replace hok39:=zy.1 hok39
     refine e_p (zD (z:=(w.getD (j+i) 0)) rfl (by rw [yh];rfl) yw (w64 om))<|e_mv rfl<|e_p (zca (z:=((w.getD (j+i) 0) - bo)) rfl rfl (w64 om))<|e_mv rfl<|e_p (zmb (z:=(((g*((yd V).getD i 0))+ca)%1000000000)) rfl rfl om (remN om om))<|e_p (zD (z:=(((g*((yd V).getD i 0))+ca)%1000000000)) rfl (by rw [yi];rfl) yw (w64 om))<|e_p (zca (z:=(((w.getD (j+i) 0) - bo) - (((g*((yd V).getD i 0))+ca)%1000000000))) rfl rfl (w64 om))<|e_p (zb rfl)<|zf<|zd<|ze<|za<|e_p (zb rfl)<|zf<|zd<|ze<|ze<|za<|e_mv rfl<|e_p (zX rfl rfl)<|zf<|zd<|zG rfl (fun hneg=> ?_) (fun hneg=> ?_)
     ·
      refine za<|e_mv rfl<|e_p (zL (z:=((((w.getD (j+i) 0) - bo) - (((g*((yd V).getD i 0))+ca)%1000000000))+1000000000)) rfl rfl (w64 om))<|e_p (zb rfl)<|e_p (zb rfl)<|zf<|zd<|za<|e_mv rfl<|e_mv rfl<|e_mv rfl<|e_p (zL (z:=(((j+i):Nat):Int)) rfl rfl (w64 om))<|e_mv rfl<|e_p (zD (z:=((((w.getD (j+i) 0) - bo) - (((g*((yd V).getD i 0))+ca)%1000000000))+1000000000)) rfl (by rw [yw];rfl) yh (wu32 om))<|e_ru (zka 1 (j+i) rfl ye sz84 rfl (by first|rfl|assumption|(simp;done)|omega) rfl rfl om)<|zEa 1 rfl rfl rfl (zS (j:=(j+i)) (x0:=((((w.getD (j+i) 0) - bo) - (((g*((yd V).getD i 0))+ca)%1000000000))+1000000000)) (γ0:=()) rfl rfl (by first|omega|(rw [List.length_map];omega)|(simp only [List.length_set];omega)|(simp;done)|(simp;omega)) rfl rfl sz84 (fun _ _=>by exact zy.2 om)) (fun _=>(.s .z)) (fun _ _=> ?_)
      refine zf<|zP<|zd<|za<|e_p (zL (z:=(((i+1):Nat):Int)) rfl rfl (w64 om))<|e_mv rfl<|zf<|zda ((i+1),(w.set (j+i) ((((w.getD (j+i) 0) - bo) - (((g*((yd V).getD i 0))+ca)%1000000000))+1000000000)),1,(((g*((yd V).getD i 0))+ca) / 1000000000)) (show (i+1)≤m+2∧Big.MsI u j g (yd V) (i+1) (w.set (j+i) ((((w.getD (j+i) 0) - bo) - (((g*((yd V).getD i 0))+ca)%1000000000))+1000000000)) 1 (((g*((yd V).getD i 0))+ca) / 1000000000) from by exact ⟨by omega,hM2.step ⟨hg0,hg1⟩ (ym V) om om ⟨by omega,by omega⟩ ⟨by decide,by decide⟩⟩) (by show (m+2) - (i+1)<(m+2) - i;omega) (mR rfl) (ho:=((.of [0,0] rfl):PickO _ _ _)) ((.of [1,2,3,4,5,6,7,8,9] rfl):SelR _ _ _)
     ·
      refine zB<|zd<|za<|e_mv rfl<|e_mv rfl<|e_mv rfl<|e_p (zL (z:=(((j+i):Nat):Int)) rfl rfl (w64 om))<|e_mv rfl<|e_p (zD (z:=(((w.getD (j+i) 0) - bo) - (((g*((yd V).getD i 0))+ca)%1000000000))) rfl (by rw [yw];rfl) yh (wu32 om))<|e_ru (zka 1 (j+i) rfl ye sz84 rfl (by first|rfl|assumption|(simp;done)|omega) rfl rfl om)<|zEa 1 rfl rfl rfl (zS (j:=(j+i)) (x0:=(((w.getD (j+i) 0) - bo) - (((g*((yd V).getD i 0))+ca)%1000000000))) (γ0:=()) rfl rfl (by first|omega|(rw [List.length_map];omega)|(simp only [List.length_set];omega)|(simp;done)|(simp;omega)) rfl rfl sz84 (fun _ _=>by exact zy.2 om)) (fun _=>(.s .z)) (fun _ _=> ?_)
      refine zf<|zP<|zd<|za<|e_p (zL (z:=(((i+1):Nat):Int)) rfl rfl (w64 om))<|e_mv rfl<|zf<|zda ((i+1),(w.set (j+i) (((w.getD (j+i) 0) - bo) - (((g*((yd V).getD i 0))+ca)%1000000000))),0,(((g*((yd V).getD i 0))+ca) / 1000000000)) (show (i+1)≤m+2∧Big.MsI u j g (yd V) (i+1) (w.set (j+i) (((w.getD (j+i) 0) - bo) - (((g*((yd V).getD i 0))+ca)%1000000000))) 0 (((g*((yd V).getD i 0))+ca) / 1000000000) from by exact ⟨by omega,hM2.step ⟨hg0,hg1⟩ (ym V) om om ⟨by omega,by omega⟩ ⟨by decide,by decide⟩⟩) (by show (m+2) - (i+1)<(m+2) - i;omega) (mR rfl) (ho:=((.of [0,0] rfl):PickO _ _ _)) ((.of [1,2,3,4,5,6,7,8,9] rfl):SelR _ _ _)
    ·
     have hM3:Big.MsI u j g (yd V) (m+2) w bo ca:=by have h8:i=m+2:=om;exact h8 ▸ hM2
     have hwo2:=yn hM2.ok (j+(m+2))
     refine zfa<|zi<|zi<|zw<|zd<|ze<|za<|e_mv rfl<|e_mv rfl<|e_mv rfl<|e_p (zL (z:=(((j+(m+2)):Nat):Int)) rfl rfl (w64 om))<|e_ru (zka 1 (j+(m+2)) rfl ye sz84 rfl (by first|rfl|assumption|(simp;done)|omega) rfl rfl om)<|r_vl rfl rfl (zra 1 (j+(m+2)) rfl ty84 rfl rfl (gD (d:=0) om) rfl) (fun _ hok40=> ?_)
     replace hok40:=zy.1 hok40
     refine e_p (zD (z:=(w.getD (j+(m+2)) 0)) rfl (by rw [yh];rfl) yw (w64 om))<|e_mv rfl<|e_p (zca (z:=((w.getD (j+(m+2)) 0) - bo)) rfl rfl (w64 om))<|e_mv rfl<|e_p (zD (z:=ca) rfl (by rw [yi];rfl) yw (w64 om))<|e_p (zca (z:=(((w.getD (j+(m+2)) 0) - bo) - ca)) rfl rfl (w64 om))<|e_p (zb rfl)<|zf<|zd<|ze<|ze<|za<|e_mv rfl<|e_p (zX rfl rfl)<|zf<|zd<|zG rfl (fun hd=> ?_) (fun hd=> ?_)
     ·
      have hg9:=hI.neg1 hM3 hm hd
      refine ze<|za<|e_mv rfl<|e_mv rfl<|e_mv rfl<|e_p (zL (z:=(((j+(m+2)):Nat):Int)) rfl rfl (w64 om))<|e_mv rfl<|e_p (zL (z:=((((w.getD (j+(m+2)) 0) - bo) - ca)+1000000000)) rfl rfl (w64 om))<|e_p (zD (z:=((((w.getD (j+(m+2)) 0) - bo) - ca)+1000000000)) rfl (by rw [yw];rfl) yh (wu32 om))<|e_ru (zka 1 (j+(m+2)) rfl ye sz84 rfl (by first|rfl|assumption|(simp;done)|omega) rfl rfl om)<|zEa 1 rfl rfl rfl (zS (j:=(j+(m+2))) (x0:=((((w.getD (j+(m+2)) 0) - bo) - ca)+1000000000)) (γ0:=()) rfl rfl (by first|omega|(rw [List.length_map];omega)|(simp only [List.length_set];omega)|(simp;done)|(simp;omega)) rfl rfl sz84 (fun _ _=>by exact zy.2 om)) (fun _=>(.s .z)) (fun _ _=> ?_)
      refine zf<|zd<|ze<|za<|e_mv rfl<|e_p (zca (z:=(g - 1)) rfl rfl (wu64 om))<|e_p (zb rfl)<|zf<|zd<|ze<|za<|e_p (zb rfl)<|zf<|zd<|ze<|ze<|za<|e_mv rfl<|e_mv rfl<|zf<|zd<|zx<|zja (X:=Nat×(List Int)×Int) (fun x:Nat×(List Int)×Int=>x.1≤m+2∧Big.AbI (w.set (j+(m+2)) ((((w.getD (j+(m+2)) 0) - bo) - ca)+1000000000)) j (yd V) x.1 x.2.1 x.2.2) (fun x=>[(20,.int .u32 (x.2.2)),(201,ya yb ((x.1:Nat):Int)),(200,ya yb (((m+2):Nat):Int)),(12,.int .u64 (g - 1)),(10,ya yb ((j:Nat):Int)),(4,.slice (some ⟨b20,0,none⟩) (M - (m+2)) (M - (m+2))),(7,.slice p17 M c18),(9,ya yb (((m+2):Nat):Int)),(8,.slice p313 (m+2) c314),(6,.int .u32 ((s:Nat):Int)),(5,.slice none 0 0)]) (fun x=>[rowA 84 (rI .u32) (some ⟨b20,0,none⟩) (M - (m+2)) (List.replicate (j+1) 0++qs),rowA 84 (rI .u32) p17 c18 (x.2.1)]) (fun x=>[atF b26 o27 [.int .u32 ((yd V).getD (m+1) 0)],atF b23 o24 [.int .u32 ((yd V).getD (m+1) 0)],slF (rI .u32) (some ⟨b16,0,none⟩) 1 ([0]),slF (rI .u32) p313 c314 (yd V),slF (rI .u32) (some ⟨b10,0,none⟩) 1 (yd s),slF (rI .u32) (some ⟨b5,0,none⟩) 1 (yd s),atF b1 o2 [.int .u32 ((yd b).getD ((yd b).length - 1) 0)],slF (rI .u32) p1 c1 (yd a),slF (rI .u32) p2 c2 (yd b)]) (fun x:Nat×(List Int)×Int=>(m+2) - x.1) (0,(w.set (j+(m+2)) ((((w.getD (j+(m+2)) 0) - bo) - ca)+1000000000)),0) (show 0≤m+2∧Big.AbI (w.set (j+(m+2)) ((((w.getD (j+(m+2)) 0) - bo) - ca)+1000000000)) j (yd V) 0 (w.set (j+(m+2)) ((((w.getD (j+(m+2)) 0) - bo) - ca)+1000000000)) 0 from by exact ⟨Nat.zero_le _,Big.AbI.start (yQ hM2.ok om om) _ _⟩) ((.c rfl (.e rfl cgs (.of rfl))):SubM _ _) (ho:=((.c (i:=0) rfl (.e (i:=0) rfl cgs .n)):PickO _ _ _)) ((.of [0,1,2,3,4,5,6,7,8] rfl):SelR _ _ _) ?_
      rintro ⟨i2,xs,cc⟩ hAA
      replace hAA:i2≤m+2∧Big.AbI (w.set (j+(m+2)) ((((w.getD (j+(m+2)) 0) - bo) - ca)+1000000000)) j (yd V) i2 xs cc:=hAA
      try dsimp only
      obtain ⟨hile2,hA2⟩:=hAA
      have hk0:=hA2.c0
      have hk1:=hA2.c1
      have hxl:=hA2.len
      rw [List.length_set] at hxl
      have hxo:=yn hA2.ok (j+i2)
      have hvi2:=yn (ym V) i2
      refine ze<|za<|e_p (zX rfl rfl)<|zf<|zd<|ze<|zG rfl (fun hi=> ?_) (fun hi=> ?_)
      ·
       refine zB<|zd<|ze<|zx<|ze<|za<|e_mv rfl<|e_p (zb rfl)<|zf<|zd<|ze<|zV (OW:=[]) (O:=[rowA 84 (rI .u32) (some ⟨b20,0,none⟩) (M - (m+2)) (List.replicate (j+1) 0++qs),rowA 84 (rI .u32) p17 c18 xs]) 100000 mixed (.then (.block (.then (.then (.block (.then (.then (.block (.then (.then (.block (.then .ret)))))))))))) kr<|e_dm 0 rfl rfl rfl<|e_dm 1 rfl rfl rfl<|e_dm 2 rfl rfl rfl<|e_pv 3 rfl rfl (zL (z:=(((j+i2):Nat):Int)) rfl rfl (w64 om))<|e_u 4 rfl rfl (zka 1 (j+i2) rfl ye sz84 rfl (by first|rfl|assumption|(simp;done)|omega) rfl rfl om)<|d_vl 5 rfl rfl kr kr rfl rfl (zra 1 (j+i2) rfl ty84 rfl rfl (gD (d:=0) om) rfl) (fun _ hok41=> ?_)
       replace hok41:=zy.1 hok41
       refine e_dm 6 rfl rfl rfl<|e_dm 7 rfl rfl rfl<|zHa (x0:=((yd V).getD i2 0)) 8 rfl rfl kr kr 3 i2 rfl ye sz84 rfl rfl rfl (by first|rfl|assumption|(simp;done)|omega) rfl rfl (gD (d:=0) om) (fun b42 o43 hok44=> ?_)
       replace hok44:=zy.1 hok44
       refine e_u 9 rfl rfl (zt (j:=0) 0 ty84 rfl rfl rfl rfl)<|e_pv 10 rfl rfl (zL (z:=((xs.getD (j+i2) 0)+((yd V).getD i2 0))) rfl rfl (wu32 om))<|e_dm 11 rfl rfl rfl<|e_pv 12 rfl rfl (zL (z:=(((xs.getD (j+i2) 0)+((yd V).getD i2 0))+cc)) rfl rfl (wu32 om))<|e_pv 13 rfl rfl (zb rfl)<|zH kr<|zd<|ze<|za<|e_p (zb rfl)<|zf<|zd<|ze<|ze<|za<|e_mv rfl<|e_p (zXa rfl rfl)<|zf<|zd<|zG rfl (fun hcy=> ?_) (fun hcy=> ?_)
       ·
        refine za<|e_mv rfl<|e_p (zca (z:=((((xs.getD (j+i2) 0)+((yd V).getD i2 0))+cc) - 1000000000)) rfl rfl (wu32 om))<|e_p (zb rfl)<|e_p (zb rfl)<|zf<|zd<|za<|e_mv rfl<|e_mv rfl<|e_mv rfl<|e_p (zL (z:=(((j+i2):Nat):Int)) rfl rfl (w64 om))<|e_mv rfl<|e_ru (zka 1 (j+i2) rfl ye sz84 rfl (by first|rfl|assumption|(simp;done)|omega) rfl rfl om)<|zEa 1 rfl rfl rfl (zS (j:=(j+i2)) (x0:=((((xs.getD (j+i2) 0)+((yd V).getD i2 0))+cc) - 1000000000)) (γ0:=()) rfl rfl (by first|omega|(rw [List.length_map];omega)|(simp only [List.length_set];omega)|(simp;done)|(simp;omega)) rfl rfl sz84 (fun _ _=>by exact zy.2 om)) (fun _=>(.s .z)) (fun _ _=> ?_)
        refine zf<|zP<|zd<|za<|e_p (zL (z:=(((i2+1):Nat):Int)) rfl rfl (w64 om))<|e_mv rfl<|zf<|zda ((i2+1),(xs.set (j+i2) ((((xs.getD (j+i2) 0)+((yd V).getD i2 0))+cc) - 1000000000)),1) (show (i2+1)≤m+2∧Big.AbI (w.set (j+(m+2)) ((((w.getD (j+(m+2)) 0) - bo) - ca)+1000000000)) j (yd V) (i2+1) (xs.set (j+i2) ((((xs.getD (j+i2) 0)+((yd V).getD i2 0))+cc) - 1000000000)) 1 from by exact ⟨by omega,hA2.step (by rw [List.length_set];omega) om ⟨by omega,by omega⟩ ⟨by decide,by decide⟩⟩) (by show (m+2) - (i2+1)<(m+2) - i2;omega) (mR rfl) (ho:=((.of [0,0] rfl):PickO _ _ _)) ((.of [1,2,3,4,5,6,7,8,9] rfl):SelR _ _ _)
       ·
        refine zB<|zd<|za<|e_mv rfl<|e_mv rfl<|e_mv rfl<|e_p (zL (z:=(((j+i2):Nat):Int)) rfl rfl (w64 om))<|e_mv rfl<|e_ru (zka 1 (j+i2) rfl ye sz84 rfl (by first|rfl|assumption|(simp;done)|omega) rfl rfl om)<|zEa 1 rfl rfl rfl (zS (j:=(j+i2)) (x0:=(((xs.getD (j+i2) 0)+((yd V).getD i2 0))+cc)) (γ0:=()) rfl rfl (by first|omega|(rw [List.length_map];omega)|(simp only [List.length_set];omega)|(simp;done)|(simp;omega)) rfl rfl sz84 (fun _ _=>by exact zy.2 om)) (fun _=>(.s .z)) (fun _ _=> ?_)
        refine zf<|zP<|zd<|za<|e_p (zL (z:=(((i2+1):Nat):Int)) rfl rfl (w64 om))<|e_mv rfl<|zf<|zda ((i2+1),(xs.set (j+i2) (((xs.getD (j+i2) 0)+((yd V).getD i2 0))+cc)),0) (show (i2+1)≤m+2∧Big.AbI (w.set (j+(m+2)) ((((w.getD (j+(m+2)) 0) - bo) - ca)+1000000000)) j (yd V) (i2+1) (xs.set (j+i2) (((xs.getD (j+i2) 0)+((yd V).getD i2 0))+cc)) 0 from by exact ⟨by omega,hA2.step (by rw [List.length_set];omega) om ⟨by omega,by omega⟩ ⟨by decide,by decide⟩⟩) (by show (m+2) - (i2+1)<(m+2) - i2;omega) (mR rfl) (ho:=((.of [0,0] rfl):PickO _ _ _)) ((.of [1,2,3,4,5,6,7,8,9] rfl):SelR _ _ _)
      ·
       have hA3:Big.AbI (w.set (j+(m+2)) ((((w.getD (j+(m+2)) 0) - bo) - ca)+1000000000)) j (yd V) (m+2) xs cc:=by have h8:i2=m+2:=om;exact h8 ▸ hA2
       have hxo2:=yn hA2.ok (j+(m+2))
       refine zfa<|zi<|zi<|zw<|zd<|za<|e_mv rfl<|e_mv rfl<|e_mv rfl<|e_p (zL (z:=(((j+(m+2)):Nat):Int)) rfl rfl (w64 om))<|e_mv rfl<|e_mv rfl<|e_mv rfl<|e_p (zL (z:=(((j+(m+2)):Nat):Int)) rfl rfl (w64 om))<|e_ru (zka 1 (j+(m+2)) rfl ye sz84 rfl (by first|rfl|assumption|(simp;done)|omega) rfl rfl om)<|r_vl rfl rfl (zra 1 (j+(m+2)) rfl ty84 rfl rfl (gD (d:=0) om) rfl) (fun _ hok45=> ?_)
       replace hok45:=zy.1 hok45
       refine e_mv rfl<|e_p (zL (z:=((xs.getD (j+(m+2)) 0)+cc)) rfl rfl (wu32 om))<|e_p (zmb (z:=(((xs.getD (j+(m+2)) 0)+cc)%1000000000)) rfl rfl om (remN om om))<|e_ru (zka 1 (j+(m+2)) rfl ye sz84 rfl (by first|rfl|assumption|(simp;done)|omega) rfl rfl om)<|zEa 1 rfl rfl rfl (zS (j:=(j+(m+2))) (x0:=(((xs.getD (j+(m+2)) 0)+cc)%1000000000)) (γ0:=()) rfl rfl (by first|omega|(rw [List.length_map];omega)|(simp only [List.length_set];omega)|(simp;done)|(simp;omega)) rfl rfl sz84 (fun _ _=>by exact zy.2 om)) (fun _=>(.s .z)) (fun _ _=> ?_)
       refine zf<|zd<|za<|e_mv rfl<|e_mv rfl<|e_mv rfl<|e_p (zD (z:=(g - 1)) rfl (by rw [yi];rfl) yh (wu32 om))<|e_p (zZ (j:=j) ye sz84 rfl rfl rfl om)<|zEa 0 rfl rfl rfl (zS (j:=j) (x0:=(g - 1)) (γ0:=()) rfl rfl (by first|omega|(rw [List.length_map];omega)|(simp only [List.length_set];omega)|(simp;done)|(simp;omega)) rfl rfl sz84 (fun _ _=>by exact zy.2 om)) (fun _=> .z) (fun _ _=> ?_)
       refine zf<|zP<|zd<|za<|e_mv rfl<|e_p (zca (z:=(((j:Nat):Int) - 1)) rfl rfl (w64 om))<|e_p (zb rfl)<|zf<|zda (j,(xs.set (j+(m+2)) (((xs.getD (j+(m+2)) 0)+cc)%1000000000)),((g - 1) :: qs)) (show yW M (m+2) ((A:Nat):Int) ((V:Nat):Int) j (xs.set (j+(m+2)) (((xs.getD (j+(m+2)) 0)+cc)%1000000000)) ((g - 1) :: qs) from by exact (hI.neg ⟨hg0,hg1⟩ hdn hup hM3 hm hd hA3).2) (by show j<j+1;omega) (mR rfl) (ho:=((.e (i:=0) rfl (by rw [yP]) (.c (i:=0) rfl .n)):PickO _ _ _)) ((.of [2,3,4,5,6,7,8] rfl):SelR _ _ _)
     ·
      refine za<|e_mv rfl<|e_mv rfl<|e_mv rfl<|e_p (zL (z:=(((j+(m+2)):Nat):Int)) rfl rfl (w64 om))<|e_mv rfl<|e_p (zD (z:=(((w.getD (j+(m+2)) 0) - bo) - ca)) rfl (by rw [yw];rfl) yh (wu32 om))<|e_ru (zka 1 (j+(m+2)) rfl ye sz84 rfl (by first|rfl|assumption|(simp;done)|omega) rfl rfl om)<|zEa 1 rfl rfl rfl (zS (j:=(j+(m+2))) (x0:=(((w.getD (j+(m+2)) 0) - bo) - ca)) (γ0:=()) rfl rfl (by first|omega|(rw [List.length_map];omega)|(simp only [List.length_set];omega)|(simp;done)|(simp;omega)) rfl rfl sz84 (fun _ _=>by exact zy.2 om)) (fun _=>(.s .z)) (fun _ _=> ?_)
      refine zf<|zd<|za<|e_mv rfl<|e_mv rfl<|e_mv rfl<|e_p (zD (z:=g) rfl (by rw [yi];rfl) yh (wu32 om))<|e_p (zZ (j:=j) ye sz84 rfl rfl rfl om)<|zEa 0 rfl rfl rfl (zS (j:=j) (x0:=g) (γ0:=()) rfl rfl (by first|omega|(rw [List.length_map];omega)|(simp only [List.length_set];omega)|(simp;done)|(simp;omega)) rfl rfl sz84 (fun _ _=>by exact zy.2 om)) (fun _=> .z) (fun _ _=> ?_)
      refine zf<|zP<|zd<|za<|e_mv rfl<|e_p (zca (z:=(((j:Nat):Int) - 1)) rfl rfl (w64 om))<|e_p (zb rfl)<|zf<|zda (j,(w.set (j+(m+2)) (((w.getD (j+(m+2)) 0) - bo) - ca)),(g :: qs)) (show yW M (m+2) ((A:Nat):Int) ((V:Nat):Int) j (w.set (j+(m+2)) (((w.getD (j+(m+2)) 0) - bo) - ca)) (g :: qs) from by exact hI.pos ⟨hg0,hg1⟩ hup hM3 hm om) (by show j<j+1;omega) (mR rfl) (ho:=((.e (i:=0) rfl (by rw [yP]) (.c (i:=0) rfl .n)):PickO _ _ _)) ((.of [2,3,4,5,6,7,8] rfl):SelR _ _ _)
  ·
   have hj0:jj=0:=by omega
   have hI0:yW M (m+2) ((A:Nat):Int) ((V:Nat):Int) 0 u qs:=hj0 ▸ hI
   obtain ⟨hf1,hf2⟩:=hI0.fin hm
   have hsc:=Big.scale_div (a:=a) (b:=b) hs1
   have hql:qs.length=M - (m+2):=by have h8:=hI0.ql;omega
   have hul0:=hI0.ul
   refine zfa<|zi<|zi<|zw<|zd<|ze<|zjb 1 rfl (.s .z)<|zU 0 rfl (fun hcu=> ?_)
   have hAV:(yd (A%V)).length≤4398046511104:=Nat.le_trans (yx (Nat.le_of_lt (Nat.mod_lt A (Nat.pos_of_ne_zero (fun e=>by rw [e] at hm;cases hm))))) om
   have e46:List.replicate jj 0++qs=qs:=by rw [hj0];rfl
   rw [e46]
   refine za<|e_mv rfl<|e_mv rfl<|e_p (zRb (hi:=(m+2)) ye sz84 rfl (.s rfl) (.inr ⟨_,rfl⟩) om)<|zmc (zUc 0 rfl (m+2) om) (fun _ _=> ?_)
   refine zm rfl rfl (.c rfl .n) ce138 (zJb (p:=p17) (n:=(m+2)) (cap:=c18) (l:=(u.take (m+2))) (hn:=cbb)) (.c (j:=0) rfl .n) ?_
   rintro ⟨⟩ -
   dsimp only [aq,nq,cq]
   refine e_mv rfl ?_
   have e47:yr (u.take (m+2))=yd (A%V):=by exact hf2
   rw [e47]
   refine zm rfl rfl (.c rfl (.c rfl .n)) ce155 (zVd (a:=A%V) (mm:=s) (p:=p17) (cap:=c18) (hb:=om) (hm0:=om) (hm1:=om)) (.c (j:=0) rfl .n) ?_
   rintro ⟨p248,c249⟩ -
   dsimp only [aq,nq,cq]
   refine e_mv rfl<|e_p (zq rfl rfl)<|e_p (zq rfl rfl)<|e_p (zb rfl)<|zf<|zd<|ze<|za<|e_mv rfl<|zba 0 rfl .z<|zm rfl rfl (.c rfl .n) ce138 (zJb (p:=some ⟨b20,0,none⟩) (n:=(M - (m+2))) (cap:=(M - (m+2))) (l:=qs) (hn:=cbb)) (.c (j:=0) rfl .n) ?_
   rintro ⟨⟩ -
   dsimp only [aq,nq,cq]
   refine e_mv rfl<|e_p (zb rfl)<|e_p (zb rfl)<|zf<|zd<|zC ?_
   have e50:yr qs=yd (A / V):=by exact hf1
   rw [e50]
   exact zFa Tryz.results156 ((some ⟨b20,0,none⟩),(M - (m+2)),p248,c249) trivial (zn rfl) (zn rfl) (by rw [hA,hV,hsc.1,hsc.2]) (ho:=oN) ((.e (j:=0) rfl (by rw [hA,hV,hsc.1]) (.e (j:=2) rfl (by rw [hA,hV,hsc.2]) .n)):SelR _ _ _)
end Go.Proofs.YtahiajepeodhoaaGreat.Sp
namespace Go.Proofs.YtahiajepeodhoaaGreat.Sp
open Go
set_option linter.unusedVariables false
set_option maxRecDepth 100000
set_option maxHeartbeats 8000000
theorem zGe {a:Nat} {b:Nat} {p1:Option Addr} {c1:Nat} {p2:Option Addr} {c2:Nat} (hb1:(yd a).length≤4398046511104) (hb2:(yd b).length≤4398046511104) (hb0:0<b):Con yl 142 [.slice p1 ((yd a).length) c1,.slice p2 ((yd b).length) c2] [] [slF (rI .u32) p1 c1 (yd a),slF (rI .u32) p2 c2 (yd b)] (Y:=(Option Addr)×Nat×(Option Addr)×Nat) (fun y=>True) (fun y=> .tuple #[.slice (y.1) ((yd (a / b)).length) (y.2.1),.slice (y.2.2.1) ((yd (a%b)).length) (y.2.2.2)]) (fun y=>[]) (fun y=>[slF (rI .u32) (y.1) (y.2.1) (yd (a / b)),slF (rI .u32) (y.2.2.1) (y.2.2.2) (yd (a%b))]):=by
 refine zl Tryz.func142 rfl rfl rfl (fun c=> ?_)
 show RunC _ _ _ _ _ [(0,.slice p1 ((yd a).length) c1),(1,.slice p2 ((yd b).length) c2)] [] [slF (rI .u32) p1 c1 (yd a),slF (rI .u32) p2 c2 (yd b)]
 refine zU 0 rfl (fun hL0=> ?_)
 refine zU 1 rfl (fun hL1=> ?_)
 have hd1:=Nat.div_le_self a b
 have hd2:=Nat.mod_le a b
 have hob:=yn (ym b) 0
 refine ze<|za<|e_p (zb rfl)<|e_p (zb rfl)<|zf<|zd<|ze<|ze<|za<|e_mv rfl<|e_mv rfl<|zJ rfl rfl (.c rfl (.c rfl .n)) ce122 (zgc (a:=a) (b:=b) (p1:=p1) (c1:=c1) (p2:=p2) (c2:=c2)) (.c (j:=0) rfl (.c (j:=1) rfl .n))<|e_p (zX rfl rfl)<|zf<|zd<|zG rfl (fun hlt=> ?_) (fun hlt=> ?_)
 ·
  have hab9:¬(b:Int)≤a:=fun h=>by have:=yF.2 h;omega
  have hab:a<b:=by omega
  refine ze<|za<|e_mv rfl<|e_p (zb rfl)<|e_p (zb rfl)<|zf<|zd<|zC<|zk ?_
  have hz1:a / b=0:=Nat.div_eq_of_lt hab
  have hz2:a%b=a:=Nat.mod_eq_of_lt hab
  refine zec (rI .u32) ?_
  exact zFa yN (none,0,p1,c1) trivial (zn rfl) (zn rfl) (by rw [hz1,hz2];rfl) (ho:=oN) ((.e (j:=0) rfl (by rw [hz1];rfl) (.e (j:=1) rfl (by rw [hz2]) .n)):SelR _ _ _)
 ·
  have hab:b≤a:=by have h9:=yF.1 (by omega:0≤Big.cmp (a:Int) (b:Int));omega
  refine zB<|zd<|ze<|za<|e_mv rfl<|zJ rfl rfl (.c rfl .n) ce141 (zVc (a:=a) (p:=p1) (cap:=c1)) (.c (j:=0) rfl .n)<|e_mv rfl<|e_p (zq rfl rfl)<|e_p (zq rfl rfl)<|e_p (zb rfl)<|e_p (zb rfl)<|zf<|zd<|ze<|za<|e_mv rfl<|zJ rfl rfl (.c rfl .n) ce141 (zVc (a:=b) (p:=p2) (cap:=c2)) (.c (j:=1) rfl .n)<|e_mv rfl<|e_p (zq rfl rfl)<|e_p (zq rfl rfl)<|e_p (zb rfl)<|e_p (zb rfl)<|zf<|zd<|ze<|zOa (X:=Unit) (fun x=>True) (fun x=>[(30,.bool (decide (((yd a).length≤2)∧((yd b).length≤2)))),(8,.int .u64 (((if (yd b).length≤2 then b else 0):Nat):Int)),(6,.int .u64 (((if (yd a).length≤2 then a else 0):Nat):Int)),(5,.slice none 0 0),(4,.slice none 0 0),(0,.slice p1 ((yd a).length) c1),(1,.slice p2 ((yd b).length) c2)]) (fun x=>[]) (fun x=>[slF (rI .u32) p1 c1 (yd a),slF (rI .u32) p2 c2 (yd b)]) ?_ ?_
  ·
   refine za<|e_mv rfl<|zha rfl rfl (zga rfl) (fun h1=> ?_) (fun h1=> ?_)
   ·
    refine e_mv rfl<|e_p (zE rfl rfl)<|zf ?_
    exact zT () tt9 ((.e rfl (congrArg Value.bool cbu) (.of rfl)):SubM _ _) (ho:=oN) ((.of [0,1] rfl):SelR _ _ _)
   ·
    refine e_no<|e_p (zE rfl rfl)<|zf ?_
    exact zT () tt9 ((.e rfl (congrArg Value.bool cbu) (.of rfl)):SubM _ _) (ho:=oN) ((.of [0,1] rfl):SelR _ _ _)
  ·
   rintro ⟨⟩ -
   try dsimp only
   refine zG rfl (fun hw=> ?_) (fun hw=> ?_)
   ·
    have ha18:=yU hw.1
    have hb18:=yU hw.2
    have hdn0:(0:Int)≤(a:Int) / (b:Int):=Int.ediv_nonneg om om
    have hdn1:(a:Int) / (b:Int)≤a:=Int.ediv_le_self _ om
    have hdm0:(0:Int)≤(a:Int)%(b:Int):=Int.emod_nonneg _ om
    have hdm1:(a:Int)%(b:Int)<b:=Int.emod_lt_of_pos _ om
    refine ze ?_
    have e2:(if (yd a).length≤2 then a else 0)=a:=by rw [if_pos hw.1]
    rw [e2]
    have e3:(if (yd b).length≤2 then b else 0)=b:=by rw [if_pos hw.2]
    rw [e3]
    refine zV (OW:=[]) (O:=[]) 100000 mixed (.then (.then .ret)) kr<|e_dm 0 rfl rfl rfl<|e_dm 1 rfl rfl rfl<|e_pv 2 rfl rfl (zeb (z:=(((a / b):Nat):Int)) rfl rfl om (by rw [quoN (z:=(((a / b):Nat):Int)) om om];exact wu64 om))<|e_dm 4 rfl rfl rfl<|e_dm 5 rfl rfl rfl<|e_pv 6 rfl rfl (zmb (z:=(((a%b):Nat):Int)) rfl rfl om (remN om om))<|e_one 3 (zp rfl rfl rfl rfl (.c rfl .n) ce116 (zEb (n0:=(a / b)) (hn0:=cbo)) (.n) ?_)
    rintro ⟨p24,c25⟩ -
    dsimp only [aq,nq,cq]
    refine e_one 7 (zp rfl rfl rfl rfl (.c rfl .n) ce116 (zEb (n0:=(a%b)) (hn0:=cbo)) (.n) ?_)
    rintro ⟨p26,c27⟩ -
    dsimp only [aq,nq,cq]
    refine e_pv 8 rfl rfl (zb rfl)<|e_pv 9 rfl rfl (zb rfl)<|zH kr<|zd<|zC<|zk ?_
    exact zFa yN (p24,c25,p26,c27) trivial (zn rfl) (zn rfl) rfl (ho:=oN) ((.of [1,0] rfl):SelR _ _ _)
   ·
    refine zB<|zd<|ze<|ze<|za<|e_mv rfl<|e_p (zK ye rfl)<|e_p (zwa rfl rfl)<|zf<|zd<|zG rfl (fun hl1=> ?_) (fun hl1=> ?_)
    ·
     have hbd:=Big.one_digit (by omega:(yd b).length=1)
     have hln0:=Big.zvf hb0
     have hmlt:=Nat.mod_lt a hb0
     have hdm0:(0:Int)≤(a:Int)%(b:Int):=Int.emod_nonneg _ om
     have hdm1:(a:Int)%(b:Int)<b:=Int.emod_lt_of_pos _ om
     refine ze<|za<|e_mv rfl<|e_mv rfl<|zY (x0:=((yd b).getD 0 0)) 1 0 rfl ye sz84 rfl rfl rfl (by first|rfl|assumption|(simp;done)|omega) rfl rfl (gD (d:=0) om) (fun b8 o9 hok10=> ?_)
     replace hok10:=zy.1 hok10
     refine e_ru (zt (j:=0) 0 ty84 rfl rfl rfl rfl) ?_
     have e11:(((yd b).getD 0 0):Int)=((b:Nat):Int):=by exact hbd
     rw [e11]
     refine zm rfl rfl (.c rfl (.c rfl .n)) ce155 (zVd (a:=a) (mm:=b) (p:=p1) (cap:=c1) (hb:=ass) (hm0:=ass) (hm1:=cbo)) (.c (j:=1) rfl .n) ?_
     rintro ⟨p212,c213⟩ -
     dsimp only [aq,nq,cq]
     refine e_mv rfl<|e_p (zq rfl rfl)<|e_p (zq rfl rfl)<|e_p (zb rfl)<|e_p (zb rfl)<|zf<|zd<|ze<|za<|e_mv rfl<|e_mv rfl<|e_p (zD (z:=(((a%b):Nat):Int)) rfl (by rw [yh];rfl) yi (wu64 om))<|zm rfl rfl (.c rfl .n) ce116 (zEb (n0:=(a%b)) (hn0:=cbo)) (.n) ?_
     rintro ⟨p214,c215⟩ -
     dsimp only [aq,nq,cq]
     refine e_p (zb rfl)<|e_p (zb rfl)<|zf<|zd<|zC<|zk ?_
     exact zFa yN (p212,c213,p214,c215) trivial (zn rfl) (zn rfl) rfl (ho:=oN) ((.of [1,0] rfl):SelR _ _ _)
    ·
     have hln0:=Big.zvf hb0
     refine zB<|zd<|ze<|za<|e_mv rfl<|e_mv rfl<|zm rfl rfl (.c rfl (.c rfl .n)) ce156 (zZf (a:=a) (b:=b) (p1:=p1) (c1:=c1) (p2:=p2) (c2:=c2) (hb1:=ass) (hb2:=ass) (hb3:=cbo) (hab:=cbo)) (.c (j:=0) rfl (.c (j:=1) rfl .n)) ?_
     rintro ⟨p316,c317,p418,c419⟩ -
     dsimp only [aq,nq,cq]
     refine e_p (zq rfl rfl)<|e_p (zq rfl rfl)<|e_p (zb rfl)<|e_p (zb rfl)<|zf<|zd<|zC ?_
     exact zFa yN (p316,c317,p418,c419) trivial (zn rfl) (zn rfl) rfl (ho:=oN) ((.of [0,1] rfl):SelR _ _ _)
theorem zAf {s:Bool} {p1:Option Addr} {n1:Nat} {c1:Nat} {l1:List Int} {t:Bool} {p2:Option Addr} {n2:Nat} {c2:Nat} {l2:List Int} (hn1:l1.length=n1) (hn2:l2.length=n2) (hb1:yp (yf s l1)≤4398046511104) (hb2:yp (yf t l2)≤4398046511104):Con yl 119 [.agg #[.bool s,.slice p1 n1 c1],.agg #[.bool t,.slice p2 n2 c2]] [] [slF (rI .u32) p1 c1 l1,slF (rI .u32) p2 c2 l2] (Y:=(Option Addr)×Nat) (fun y=>True) (fun y=> .agg #[.bool (decide (((Nat.gcd (yf s l1).natAbs (yf t l2).natAbs:Nat):Int)<0)),.slice (y.1) ((yd (((Nat.gcd (yf s l1).natAbs (yf t l2).natAbs:Nat):Int).natAbs)).length) (y.2)]) (fun y=>[]) (fun y=>[slF (rI .u32) (y.1) (y.2) (yd (((Nat.gcd (yf s l1).natAbs (yf t l2).natAbs:Nat):Int).natAbs))]):=by
 refine zl Tryz.func119 rfl rfl rfl (fun c=> ?_)
 show RunC _ _ _ _ _ [(0,.agg #[.bool s,.slice p1 n1 c1]),(1,.agg #[.bool t,.slice p2 n2 c2])] [] [slF (rI .u32) p1 c1 l1,slF (rI .u32) p2 c2 l2]
 refine zU 0 rfl (fun hL0=> ?_)
 refine zUa 0 rfl (fun hE0=> ?_)
 refine zU 1 rfl (fun hL1=> ?_)
 refine zUa 1 rfl (fun hE1=> ?_)
 have hnn1:yI l1:=fun g hg=>(zy.1 (hE0 g hg)).1
 have hnn2:yI l2:=fun g hg=>(zy.1 (hE1 g hg)).1
 obtain ⟨x1,hx1⟩:∃z,z=yf s l1:=⟨_,rfl⟩
 obtain ⟨x2,hx2⟩:∃z,z=yf t l2:=⟨_,rfl⟩
 unfold yp at hb1 hb2
 refine ze<|za<|zI rfl rfl (zR rfl rfl) (fun b1=> ?_)
 refine zI rfl rfl (zR rfl rfl) (fun b2=> ?_)
 refine zI rfl rfl (zr zr30 rfl) (fun b3=> ?_)
 refine zf<|zd<|ze<|zV (OW:=[]) (O:=[boxA b3 30 [wz.b,wz.l],boxA b2 30 [.bool t,.slice p2 n2 c2],boxA b1 30 [.bool s,.slice p1 n1 c1]]) 100000 mixed (.then .ret) kr<|e_u 0 rfl rfl (zc 2 ty30 rfl rfl (.t2 .nil))<|e_u 2 rfl rfl (zc 1 ty30 rfl rfl (.t2 .nil))<|e_one 1 (zp rfl rfl rfl rfl (.c rfl .n) ce123 (zVa (s:=s) (p:=p1) (n:=n1) (cap:=c1) (l:=l1) (hn:=ass)) (.c (j:=0) rfl .n) ?_)
 rintro ⟨p24,c25⟩ -
 dsimp only [aq,nq,cq]
 refine e_one 3 (zp rfl rfl rfl rfl (.c rfl .n) ce123 (zVa (s:=t) (p:=p2) (n:=n2) (cap:=c2) (l:=l2) (hn:=ass)) (.c (j:=2) rfl .n) ?_)
 rintro ⟨p26,c27⟩ -
 dsimp only [aq,nq,cq]
 refine e_pv 4 rfl rfl (zb rfl)<|e_pv 5 rfl rfl (zb rfl)<|zH kr<|zd<|ze<|zx<|zja (X:=Nat×Nat×(Option Addr)×Nat×(Option Addr)×Nat) (fun x:Nat×Nat×(Option Addr)×Nat×(Option Addr)×Nat=>Nat.gcd x.1 x.2.1=Nat.gcd (yf s l1).natAbs (yf t l2).natAbs∧(yd x.1).length≤4398046511104∧(yd x.2.1).length≤4398046511104) (fun x=>[(6,.slice (x.2.2.2.2.1) ((yd (x.2.1)).length) (x.2.2.2.2.2)),(5,.slice (x.2.2.1) ((yd (x.1)).length) (x.2.2.2.1)),(4,yc (some ⟨b3,0,none⟩))]) (fun x=>[boxA b3 30 [wz.b,wz.l],boxA b2 30 [.bool t,.slice p2 n2 c2],boxA b1 30 [.bool s,.slice p1 n1 c1]]) (fun x=>[slF (rI .u32) (x.2.2.1) (x.2.2.2.1) (yd (x.1)),slF (rI .u32) (x.2.2.2.2.1) (x.2.2.2.2.2) (yd (x.2.1)),slF (rI .u32) p26 c27 (yd ((yf t l2).natAbs)),slF (rI .u32) p24 c25 (yd ((yf s l1).natAbs)),slF (rI .u32) p1 c1 l1,slF (rI .u32) p2 c2 l2]) (fun x:Nat×Nat×(Option Addr)×Nat×(Option Addr)×Nat=>x.2.1) ((yf s l1).natAbs,(yf t l2).natAbs,p24,c25,p26,c27) (show Nat.gcd ((yf s l1).natAbs) ((yf t l2).natAbs)=Nat.gcd (yf s l1).natAbs (yf t l2).natAbs∧(yd ((yf s l1).natAbs)).length≤4398046511104∧(yd ((yf t l2).natAbs)).length≤4398046511104 from by exact ⟨rfl,hb1,hb2⟩) (mR rfl) (ho:=((.of [0,0,0] rfl):PickO _ _ _)) ((.of [1,0,0,1,2,3] rfl):SelR _ _ _) ?_
 rintro ⟨a,b,pa,ca,pb,cb⟩ hI
 replace hI:Nat.gcd a b=Nat.gcd (yf s l1).natAbs (yf t l2).natAbs∧(yd a).length≤4398046511104∧(yd b).length≤4398046511104:=hI
 try dsimp only
 obtain ⟨hgc,hba,hbb⟩:=hI
 refine ze<|ze<|za<|e_mv rfl<|e_p (zK ye rfl)<|e_p (zCa rfl rfl)<|zf<|zd<|zG rfl (fun hne=> ?_) (fun hne=> ?_)
 ·
  have hb0:0<b:=Nat.pos_of_ne_zero (fun e=>by rw [e] at hne;simp [Big.digs_zero] at hne)
  refine zB<|zd<|zx<|ze<|za<|e_mv rfl<|zJ rfl rfl (.c rfl .n) ce141 (zVc (a:=a) (p:=pa) (cap:=ca)) (.c (j:=0) rfl .n)<|e_mv rfl<|e_p (zq rfl rfl)<|e_p (zq rfl rfl)<|e_p (zb rfl)<|e_p (zb rfl)<|zf<|zd<|ze<|za<|e_mv rfl<|zJ rfl rfl (.c rfl .n) ce141 (zVc (a:=b) (p:=pb) (cap:=cb)) (.c (j:=1) rfl .n)<|e_mv rfl<|e_p (zq rfl rfl)<|e_p (zq rfl rfl)<|e_p (zb rfl)<|e_p (zb rfl)<|zf<|zd<|ze<|zOa (X:=Unit) (fun x=>True) (fun x=>[(33,.bool (decide (((yd a).length≤2)∧((yd b).length≤2)))),(9,.int .u64 (((if (yd b).length≤2 then b else 0):Nat):Int)),(7,.int .u64 (((if (yd a).length≤2 then a else 0):Nat):Int)),(6,.slice pb ((yd b).length) cb),(5,.slice pa ((yd a).length) ca),(4,yc (some ⟨b3,0,none⟩))]) (fun x=>[boxA b3 30 [wz.b,wz.l],boxA b2 30 [.bool t,.slice p2 n2 c2],boxA b1 30 [.bool s,.slice p1 n1 c1]]) (fun x=>[slF (rI .u32) pa ca (yd a),slF (rI .u32) pb cb (yd b),slF (rI .u32) p26 c27 (yd ((yf t l2).natAbs)),slF (rI .u32) p24 c25 (yd ((yf s l1).natAbs)),slF (rI .u32) p1 c1 l1,slF (rI .u32) p2 c2 l2]) ?_ ?_
  ·
   refine za<|e_mv rfl<|zha rfl rfl (zga rfl) (fun hw1=> ?_) (fun hw1=> ?_)
   ·
    refine e_mv rfl<|e_p (zE rfl rfl)<|zf ?_
    exact zT () tt9 ((.e rfl (congrArg Value.bool cbu) (.of rfl)):SubM _ _) (ho:=((.of [0,0,0] rfl):PickO _ _ _)) ((.of [0,1,2,3,4,5] rfl):SelR _ _ _)
   ·
    refine e_no<|e_p (zE rfl rfl)<|zf ?_
    exact zT () tt9 ((.e rfl (congrArg Value.bool cbu) (.of rfl)):SubM _ _) (ho:=((.of [0,0,0] rfl):PickO _ _ _)) ((.of [0,1,2,3,4,5] rfl):SelR _ _ _)
  ·
   rintro ⟨⟩ -
   try dsimp only
   refine zG rfl (fun hw=> ?_) (fun hw=> ?_)
   ·
    have ha18:=yU hw.1
    have hb18:=yU hw.2
    have e8:(if (yd a).length≤2 then a else 0)=a:=by rw [if_pos hw.1]
    rw [e8]
    have e9:(if (yd b).length≤2 then b else 0)=b:=by rw [if_pos hw.2]
    rw [e9]
    refine ze<|zx<|zja (X:=Nat×Nat) (fun x:Nat×Nat=>Nat.gcd x.1 x.2=Nat.gcd a b∧x.1<1000000000000000000∧x.2<1000000000000000000) (fun x=>[(9,.int .u64 ((x.2:Nat):Int)),(7,.int .u64 ((x.1:Nat):Int)),(6,.slice pb ((yd b).length) cb),(5,.slice pa ((yd a).length) ca),(4,yc (some ⟨b3,0,none⟩))]) (fun x=>[boxA b3 30 [wz.b,wz.l],boxA b2 30 [.bool t,.slice p2 n2 c2],boxA b1 30 [.bool s,.slice p1 n1 c1]]) (fun x=>[slF (rI .u32) pa ca (yd a),slF (rI .u32) pb cb (yd b),slF (rI .u32) p26 c27 (yd ((yf t l2).natAbs)),slF (rI .u32) p24 c25 (yd ((yf s l1).natAbs)),slF (rI .u32) p1 c1 l1,slF (rI .u32) p2 c2 l2]) (fun x:Nat×Nat=>x.2) (a,b) (show Nat.gcd a b=Nat.gcd a b∧a<1000000000000000000∧b<1000000000000000000 from by exact ⟨rfl,ha18,hb18⟩) (mR rfl) (ho:=((.of [0,0,0] rfl):PickO _ _ _)) ((.of [0,1,2,3,4,5] rfl):SelR _ _ _) ?_
    rintro ⟨q,r⟩ hJ
    replace hJ:Nat.gcd q r=Nat.gcd a b∧q<1000000000000000000∧r<1000000000000000000:=hJ
    try dsimp only
    obtain ⟨hgq,hq18,hr18⟩:=hJ
    have hmr:=Nat.mod_le q r
    refine ze<|ze<|za<|e_mv rfl<|e_p (zCa rfl rfl)<|zf<|zd<|zG rfl (fun hy=> ?_) (fun hy=> ?_)
    ·
     refine zB<|zd<|zx<|zV (OW:=[]) (O:=[boxA b3 30 [wz.b,wz.l],boxA b2 30 [.bool t,.slice p2 n2 c2],boxA b1 30 [.bool s,.slice p1 n1 c1]]) 100000 mixed (.block (.then (.block (.then (.then (.block (.then (.block (.then .ret))))))))) kr<|e_dm 0 rfl rfl rfl<|e_dm 1 rfl rfl rfl<|e_dm 2 rfl rfl rfl<|e_pv 3 rfl rfl (zmb (z:=(((q%r):Nat):Int)) rfl rfl om (remN om om))<|e_pv 4 rfl rfl (zb rfl)<|e_pv 5 rfl rfl (zb rfl)<|zH kr<|zP<|zda (r,(q%r)) (show Nat.gcd r (q%r)=Nat.gcd a b∧r<1000000000000000000∧(q%r)<1000000000000000000 from by exact ⟨by rw [Big.gcd_rest,hgq],hr18,by omega⟩) (by exact Nat.mod_lt q om) (mR rfl) (ho:=((.of [0,0,0] rfl):PickO _ _ _)) ((.of [0,1,2,3,4,5] rfl):SelR _ _ _)
    ·
     have hrz:r=0:=by omega
     have hfin:q=Nat.gcd (yf s l1).natAbs (yf t l2).natAbs:=by rw [← hgc,←hgq,hrz,Nat.gcd_zero_right]
     refine zfa<|zi<|zi<|zw<|zd<|ze<|za<|e_mv rfl<|zm rfl rfl (.c rfl .n) ce116 (zEb (n0:=q) (hn0:=cbo)) (.n) ?_
     rintro ⟨p210,c211⟩ -
     dsimp only [aq,nq,cq]
     refine zm rfl rfl (.c rfl (.c rfl .n)) ce115 (zDa (s:=false) (a:=q) (p:=p210) (cap:=c211)) (.c (j:=0) rfl .n) ?_
     rintro ⟨p212,c213⟩ -
     dsimp only [aq,nq,cq]
     refine zj 0 rfl rfl rfl rfl rfl sz30 rfl (.t2 .nil) .z<|zf<|zd<|zC<|zk<|zM<|zk<|zM<|zk ?_
     exact zu Tryz.results119 (p212,c213) trivial (zo 0 ty30 rfl rfl (.t2 .nil)) (by rw [← hfin];rfl) (ho:=oN) ((.e (j:=0) rfl (by rw [← hfin];rfl) .n):SelR _ _ _)
   ·
    refine zB<|zd<|ze<|za<|e_mv rfl<|e_mv rfl<|zm rfl rfl (.c rfl (.c rfl .n)) ce142 (zGe (a:=a) (b:=b) (p1:=pa) (c1:=ca) (p2:=pb) (c2:=cb) (hb1:=cbo) (hb2:=cbo) (hb0:=cbo)) (.c (j:=0) rfl (.c (j:=1) rfl .n)) ?_
    rintro ⟨p314,c315,p416,c417⟩ -
    dsimp only [aq,nq,cq]
    refine e_mv rfl<|e_p (zq rfl rfl)<|e_p (zq rfl rfl)<|e_p (zb rfl)<|e_p (zb rfl)<|zf<|zd<|za<|e_mv rfl<|e_mv rfl<|e_p (zb rfl)<|e_p (zb rfl)<|zf<|zP<|zda (b,(a%b),pb,cb,p416,c417) (show Nat.gcd b (a%b)=Nat.gcd (yf s l1).natAbs (yf t l2).natAbs∧(yd b).length≤4398046511104∧(yd (a%b)).length≤4398046511104 from by exact ⟨by rw [Big.gcd_rest,hgc],hbb,Nat.le_trans (yx (Nat.le_of_lt (Nat.mod_lt a hb0))) hbb⟩) (by exact Nat.mod_lt a hb0) ((.e rfl cgs (.c rfl (.c rfl .n))):SubM _ _) (ho:=((.of [0,0,0] rfl):PickO _ _ _)) ((.c (j:=3) rfl (.e (j:=1) rfl (by first|rfl|simp_all) (.of [4,5,6,7] rfl))):SelR _ _ _)
 ·
  have hbz:b=0:=yJ.1 om
  have hfin:a=Nat.gcd (yf s l1).natAbs (yf t l2).natAbs:=by rw [← hgc,hbz,Nat.gcd_zero_right]
  refine zfa<|zi<|zi<|zw<|zd<|ze<|za<|e_mv rfl<|zm rfl rfl (.c rfl .n) ce143 (zEd (a:=a) (p:=pa) (cap:=ca) (hb:=cbo)) (.c (j:=0) rfl .n) ?_
  rintro ⟨p218,c219⟩ -
  dsimp only [aq,nq,cq]
  refine zm rfl rfl (.c rfl (.c rfl .n)) ce115 (zDa (s:=false) (a:=a) (p:=p218) (cap:=c219)) (.c (j:=0) rfl .n) ?_
  rintro ⟨p220,c221⟩ -
  dsimp only [aq,nq,cq]
  refine zj 0 rfl rfl rfl rfl rfl sz30 rfl (.t2 .nil) .z<|zf<|zd<|zC ?_
  exact zu Tryz.results119 (p220,c221) trivial (zo 0 ty30 rfl rfl (.t2 .nil)) (by rw [← hfin];rfl) (ho:=oN) ((.e (j:=0) rfl (by rw [← hfin];rfl) .n):SelR _ _ _)
theorem zag {x1:Int} {x2:Int} {p1:Option Addr} {c1:Nat} {p2:Option Addr} {c2:Nat} (hb1:yp x1≤4398046511104) (hb2:yp x2≤4398046511104):Con yl 119 [.agg #[.bool (decide ((x1)<0)),.slice (p1) ((yd ((x1).natAbs)).length) (c1)],.agg #[.bool (decide ((x2)<0)),.slice (p2) ((yd ((x2).natAbs)).length) (c2)]] [] [slF (rI .u32) (p1) (c1) (yd ((x1).natAbs)),slF (rI .u32) (p2) (c2) (yd ((x2).natAbs))] (Y:=(Option Addr)×(Nat)) (fun y=>True) (fun y=> .agg #[.bool (decide ((((Nat.gcd x1.natAbs x2.natAbs:Nat):Int))<0)),.slice (y.1) ((yd ((((Nat.gcd x1.natAbs x2.natAbs:Nat):Int)).natAbs)).length) (y.2)]) (fun y=>[]) (fun y=>[slF (rI .u32) (y.1) (y.2) (yd ((((Nat.gcd x1.natAbs x2.natAbs:Nat):Int)).natAbs))]):=by
  have h:= @zAf (decide ((x1)<0)) p1 (yd (x1).natAbs).length c1 (yd (x1).natAbs) (decide ((x2)<0)) p2 (yd (x2).natAbs).length c2 (yd (x2).natAbs) rfl rfl (by rw [yt];exact hb1) (by rw [yt];exact hb2)
  rw [yt,yt] at h
  exact h
theorem zHe {w1:Wd} {w2:Wd} {x1:Int} {x2:Int} (hb1:yp x1≤4398046511104) (hb2:yp x2≤4398046511104):Con yl 119 [.agg #[w1.b,w1.l],.agg #[w2.b,w2.l]] [] [zF w1 (x1),zF w2 (x2)] (Y:=(Wd)) (fun y=>True) (fun y=> .agg #[y.b,y.l]) (fun y=>[]) (fun y=>[zF y (((Nat.gcd x1.natAbs x2.natAbs:Nat):Int))]):=by
  exact zfc (zqc (fun p1 c1 p2 c2=>zag hb1 hb2))
end Go.Proofs.YtahiajepeodhoaaGreat.Sp
namespace Go.Proofs.YtahiajepeodhoaaGreat.Sp
open Go
set_option linter.unusedVariables false
set_option maxRecDepth 100000
set_option maxHeartbeats 8000000
theorem zqe {x1:Int} {x2:Int} {p1:Option Addr} {c1:Nat} {p2:Option Addr} {c2:Nat} (hb1:yp x1≤4398046511104) (hb2:yp x2≤4398046511104) (hy:x2≠0):Con yl 137 [.agg #[.bool (decide (x1<0)),.slice p1 ((yd ((x1).natAbs)).length) c1],.agg #[.bool (decide (x2<0)),.slice p2 ((yd ((x2).natAbs)).length) c2]] [] [slF (rI .u32) p1 c1 (yd ((x1).natAbs)),slF (rI .u32) p2 c2 (yd ((x2).natAbs))] (Y:=(Option Addr)×Nat×(Option Addr)×Nat) (fun y=>True) (fun y=> .tuple #[.agg #[.bool (decide ((Big.fq x1 x2)<0)),.slice (y.1) ((yd ((Big.fq x1 x2).natAbs)).length) (y.2.1)],.agg #[.bool (decide ((Big.fr x1 x2)<0)),.slice (y.2.2.1) ((yd ((Big.fr x1 x2).natAbs)).length) (y.2.2.2)],ya yb 0]) (fun y=>[]) (fun y=>[slF (rI .u32) (y.1) (y.2.1) (yd ((Big.fq x1 x2).natAbs)),slF (rI .u32) (y.2.2.1) (y.2.2.2) (yd ((Big.fr x1 x2).natAbs))]):=by
 refine zl Tryz.func137 rfl rfl rfl (fun c=> ?_)
 show RunC _ _ _ _ _ [(0,.agg #[.bool (decide (x1<0)),.slice p1 ((yd ((x1).natAbs)).length) c1]),(1,.agg #[.bool (decide (x2<0)),.slice p2 ((yd ((x2).natAbs)).length) c2])] [] [slF (rI .u32) p1 c1 (yd ((x1).natAbs)),slF (rI .u32) p2 c2 (yd ((x2).natAbs))]
 refine zU 0 rfl (fun hL0=> ?_)
 refine zU 1 rfl (fun hL1=> ?_)
 unfold yp at hb1 hb2
 have hd1:=Nat.div_le_self x1.natAbs x2.natAbs
 have hd2:=Nat.mod_lt x1.natAbs (show 0<x2.natAbs by omega)
 have hl1:=yx hd1
 have hl2:=yx (Nat.le_of_lt hd2)
 refine ze<|za<|zI rfl rfl (zR rfl rfl) (fun b1=> ?_)
 refine zI rfl rfl (zR rfl rfl) (fun b2=> ?_)
 refine zI rfl rfl (zr zr30 rfl) (fun b3=> ?_)
 refine zI rfl rfl (zr zr30 rfl) (fun b4=> ?_)
 refine e_p (zb rfl)<|zf<|zd<|ze<|zV (OW:=[]) (O:=[boxA b4 30 [wz.b,wz.l],boxA b3 30 [wz.b,wz.l],boxA b2 30 [.bool (decide (x2<0)),.slice p2 ((yd ((x2).natAbs)).length) c2],boxA b1 30 [.bool (decide (x1<0)),.slice p1 ((yd ((x1).natAbs)).length) c1]]) 100000 mixed (.then .ret) kr<|e_u 0 rfl rfl (zc 3 ty30 rfl rfl (.t2 .nil))<|e_u 2 rfl rfl (zc 2 ty30 rfl rfl (.t2 .nil))<|e_one 1 (zp rfl rfl rfl rfl (.c rfl .n) ce123 (zKb (z:=x1) (p:=p1) (cap:=c1)) (.c (j:=0) rfl .n) ?_)
 rintro ⟨p25,c26⟩ -
 dsimp only [aq,nq,cq]
 refine e_one 3 (zp rfl rfl rfl rfl (.c rfl .n) ce123 (zKb (z:=x2) (p:=p2) (cap:=c2)) (.c (j:=2) rfl .n) ?_)
 rintro ⟨p27,c28⟩ -
 dsimp only [aq,nq,cq]
 refine e_pv 4 rfl rfl (zb rfl)<|e_pv 5 rfl rfl (zb rfl)<|zH kr<|zd<|ze<|ze<|za<|e_mv rfl<|e_p (zK ye rfl)<|e_p (zwa rfl rfl)<|zf<|zd<|zG rfl (fun h9=> ?_) (fun h9=> ?_)
 ·
  exact absurd (yJ.1 (show (yd x2.natAbs).length=0 by omega)) om
 ·
  refine zB<|zd<|ze<|za<|e_mv rfl<|e_mv rfl<|zm rfl rfl (.c rfl (.c rfl .n)) ce142 (zGe (a:=(x1).natAbs) (b:=(x2).natAbs) (p1:=p25) (c1:=c26) (p2:=p27) (c2:=c28) (hb1:=by first|rfl|assumption|omega|(decide +kernel)) (hb2:=by first|rfl|assumption|omega|(decide +kernel)) (hb0:=by first|rfl|assumption|omega|(decide +kernel))) (.c (j:=1) rfl (.c (j:=0) rfl .n)) ?_
  rintro ⟨p310,c311,p412,c413⟩ -
  dsimp only [aq,nq,cq]
  refine e_mv rfl<|e_p (zq rfl rfl)<|e_p (zq rfl rfl)<|e_p (zb rfl)<|e_p (zb rfl)<|zf<|zd<|ze<|za<|e_mv rfl<|zm rfl rfl (.c rfl .n) ce143 (zEd (a:=((x1).natAbs)%((x2).natAbs)) (p:=p412) (cap:=c413) (hb:=by first|rfl|assumption|omega|(decide +kernel))) (.c (j:=1) rfl .n) ?_
  rintro ⟨p214,c215⟩ -
  dsimp only [aq,nq,cq]
  refine e_p (zb rfl)<|zf<|zd<|ze<|ze<|za<|e_mv rfl<|e_p (zK ye rfl)<|e_p (zCa rfl rfl)<|zha rfl rfl (zga rfl) (fun hpos=> ?_) (fun hpos=> ?_)
  ·
   refine e_p (zg yg rfl sz4 rfl rfl)<|e_ru (zh 3 ty4 rfl rfl rfl)<|e_p (zg yg rfl sz4 rfl rfl)<|e_ru (zh 2 ty4 rfl rfl rfl)<|e_p (zPa yA rfl rfl)<|e_p (zE rfl rfl)<|zf<|zd<|zG rfl (fun hadj=> ?_) (fun hadj=> ?_)
   ·
    have hsg:(decide (decide (x1<0)≠decide (x2<0)))=true:=decide_eq_true hadj
    have hr0:x1.natAbs%x2.natAbs≠0:=fun e=>by have h9:=hpos;rw [e,Big.digs_zero] at h9;exact absurd h9 dd
    refine za<|e_mv rfl<|zva rfl rfl (zaa (enc:=fun z:Int=>[.int .u32 z]) (ok:=InK .u32) (h1:=fun _=>rfl) (h2:=fun _=>rfl) (k:=1) ye inf84 rfl dd dd dd (.c (x:=1) rfl rfl (fun _ _=>by exact zy.2 om) .n)) (fun b16 _=> ?_)
    refine zba 0 rfl .z ?_
    have e17:[1]=yd 1:=by exact (Big.digs_one (s:=1) dd dd).symm
    rw [e17]
    have e18:(.slice (some ⟨b16,0,none⟩) 1 1:Value)= .slice (some ⟨b16,0,none⟩) ((yd 1).length) 1:=by rfl
    rw [e18]
    refine zm rfl rfl (.c rfl (.c rfl .n)) ce152 (zTd (a:=((x1).natAbs) / ((x2).natAbs)) (b:=1) (p1:=p310) (c1:=c311) (p2:=some ⟨b16,0,none⟩) (c2:=1) (hb1:=by first|rfl|assumption|omega|(decide +kernel)) (hb2:=by first|rfl|assumption|omega|(decide +kernel))) (.c (j:=2) rfl (.c (j:=0) rfl .n)) ?_
    rintro ⟨p319,c320⟩ -
    dsimp only [aq,nq,cq]
    refine e_mv rfl<|e_mv rfl<|zm rfl rfl (.c rfl (.c rfl .n)) ce153 (zfd (a:=(x2).natAbs) (b:=(((x1).natAbs)%((x2).natAbs))) (p1:=p27) (c1:=c28) (p2:=p214) (c2:=c215) (hb1:=by first|rfl|assumption|omega|(decide +kernel)) (hb2:=by first|rfl|assumption|omega|(decide +kernel)) (hab:=by first|rfl|assumption|omega|(decide +kernel))) (.c (j:=5) rfl (.c (j:=2) rfl .n)) ?_
    rintro ⟨p321,c322⟩ -
    dsimp only [aq,nq,cq]
    refine e_p (zb rfl)<|e_p (zb rfl)<|zf<|zd<|ze<|zqa (.c (i:=2) rfl (.c (i:=1) rfl (.c (i:=0) rfl (.c (i:=0) rfl (.c (i:=0) rfl .n)))))<|zV (OW:=[boxA b3 30 [wz.b,wz.l],boxA b4 30 [wz.b,wz.l]]) (O:=[emA,boxA b2 30 [.bool (decide (x2<0)),.slice p2 ((yd ((x2).natAbs)).length) c2],boxA b1 30 [.bool (decide (x1<0)),.slice p1 ((yd ((x1).natAbs)).length) c1]]) 11 mixed (.then .ret) kr<|e_pv 0 rfl rfl (zg yg rfl sz4 rfl rfl)<|e_uw 1 rfl rfl (zh 4 ty4 rfl rfl rfl)<|e_pv 2 rfl rfl (zg yg rfl sz4 rfl rfl)<|e_uw 3 rfl rfl (zh 3 ty4 rfl rfl rfl)<|e_pv 4 rfl rfl (zPa yA rfl rfl)<|e_dm 5 rfl rfl rfl<|e_pv 7 rfl rfl (zg yg rfl sz4 rfl rfl)<|e_uw 8 rfl rfl (zh 3 ty4 rfl rfl rfl)<|e_dm 9 rfl rfl rfl<|e_one 6 (zp rfl rfl rfl rfl (.c rfl (.c rfl .n)) ce115 (zDa (s:=decide (decide (x1<0)≠decide (x2<0))) (a:=(((x1).natAbs) / ((x2).natAbs))+1) (p:=p319) (cap:=c320)) (.c (j:=1) rfl .n) ?_)
    rintro ⟨p223,c224⟩ -
    dsimp only [aq,nq,cq]
    refine e_one 10 (zp rfl rfl rfl rfl (.c rfl (.c rfl .n)) ce115 (zDa (s:=decide (x2<0)) (a:=((x2).natAbs) - (((x1).natAbs)%((x2).natAbs))) (p:=p321) (cap:=c322)) (.c (j:=1) rfl .n) ?_)
    rintro ⟨p225,c226⟩ -
    dsimp only [aq,nq,cq]
    refine e_one 11 (zv kr rfl rfl rfl rfl rfl sz30 rfl (.t2 .nil) ?_)
    refine zza (zea (i:=1) rfl)<|e_one 12 (zv kr rfl rfl rfl rfl rfl sz30 rfl (.t2 .nil) ?_)
    refine e_pv 13 rfl rfl (zb rfl)<|zH kr<|zd<|zC ?_
    have hz1:yD (decide (decide (x1<0)≠decide (x2<0))) ((x1.natAbs / x2.natAbs+1:Nat):Int)=Big.fq x1 x2:=by rw [hsg];exact (Big.fq_odd hy hadj hr0).1
    have hz2:yD (decide (x2<0)) ((x2.natAbs - x1.natAbs%x2.natAbs:Nat):Int)=Big.fr x1 x2:=(Big.fq_odd hy hadj hr0).2
    exact zGc Tryz.results137 (p223,c224,p225,c226) trivial (zo 1 ty30 rfl rfl (.t2 .nil)) (zo 0 ty30 rfl rfl (.t2 .nil)) (zn rfl) (by rw [hz1,hz2]) (ho:=oN) ((.e (j:=1) rfl (by rw [hz1]) (.e (j:=0) rfl (by rw [hz2]) .n)):SelR _ _ _)
   ·
    refine zB<|zd<|ze<|zqa (.c (i:=1) rfl (.c (i:=0) rfl (.c (i:=0) rfl (.c (i:=0) rfl .n))))<|zV (OW:=[boxA b3 30 [wz.b,wz.l],boxA b4 30 [wz.b,wz.l]]) (O:=[boxA b2 30 [.bool (decide (x2<0)),.slice p2 ((yd ((x2).natAbs)).length) c2],boxA b1 30 [.bool (decide (x1<0)),.slice p1 ((yd ((x1).natAbs)).length) c1]]) 11 mixed (.then .ret) kr<|e_pv 0 rfl rfl (zg yg rfl sz4 rfl rfl)<|e_uw 1 rfl rfl (zh 3 ty4 rfl rfl rfl)<|e_pv 2 rfl rfl (zg yg rfl sz4 rfl rfl)<|e_uw 3 rfl rfl (zh 2 ty4 rfl rfl rfl)<|e_pv 4 rfl rfl (zPa yA rfl rfl)<|e_dm 5 rfl rfl rfl<|e_pv 7 rfl rfl (zg yg rfl sz4 rfl rfl)<|e_uw 8 rfl rfl (zh 2 ty4 rfl rfl rfl)<|e_dm 9 rfl rfl rfl<|e_one 6 (zp rfl rfl rfl rfl (.c rfl (.c rfl .n)) ce115 (zDa (s:=decide (decide (x1<0)≠decide (x2<0))) (a:=((x1).natAbs) / ((x2).natAbs)) (p:=p310) (cap:=c311)) (.c (j:=1) rfl .n) ?_)
    rintro ⟨p227,c228⟩ -
    dsimp only [aq,nq,cq]
    refine e_one 10 (zp rfl rfl rfl rfl (.c rfl (.c rfl .n)) ce115 (zDa (s:=decide (x2<0)) (a:=(((x1).natAbs)%((x2).natAbs))) (p:=p214) (cap:=c215)) (.c (j:=1) rfl .n) ?_)
    rintro ⟨p229,c230⟩ -
    dsimp only [aq,nq,cq]
    refine e_one 11 (zv kr rfl rfl rfl rfl rfl sz30 rfl (.t2 .nil) ?_)
    refine zza (zea (i:=1) rfl)<|e_one 12 (zv kr rfl rfl rfl rfl rfl sz30 rfl (.t2 .nil) ?_)
    refine e_pv 13 rfl rfl (zb rfl)<|zH kr<|zd<|zC ?_
    have hsg:(decide (decide (x1<0)≠decide (x2<0)))=false:=decide_eq_false hadj
    have hz1:yD (decide (decide (x1<0)≠decide (x2<0))) ((x1.natAbs / x2.natAbs:Nat):Int)=Big.fq x1 x2:=by rw [hsg];exact (Big.fq_same hy (Decidable.not_not.1 hadj)).1
    have hz2:yD (decide (x2<0)) ((x1.natAbs%x2.natAbs:Nat):Int)=Big.fr x1 x2:=(Big.fq_same hy (Decidable.not_not.1 hadj)).2
    exact zGc Tryz.results137 (p227,c228,p229,c230) trivial (zo 1 ty30 rfl rfl (.t2 .nil)) (zo 0 ty30 rfl rfl (.t2 .nil)) (zn rfl) (by rw [hz1,hz2]) (ho:=oN) ((.e (j:=1) rfl (by rw [hz1]) (.e (j:=0) rfl (by rw [hz2]) .n)):SelR _ _ _)
  ·
   refine e_no<|e_no<|e_no<|e_no<|e_no<|e_p (zE rfl rfl)<|zf<|zd<|zTa rfl rfl<|zB<|zd<|ze<|zqa (.c (i:=1) rfl (.c (i:=0) rfl (.c (i:=0) rfl (.c (i:=0) rfl .n))))<|zV (OW:=[boxA b3 30 [wz.b,wz.l],boxA b4 30 [wz.b,wz.l]]) (O:=[boxA b2 30 [.bool (decide (x2<0)),.slice p2 ((yd ((x2).natAbs)).length) c2],boxA b1 30 [.bool (decide (x1<0)),.slice p1 ((yd ((x1).natAbs)).length) c1]]) 11 mixed (.then .ret) kr<|e_pv 0 rfl rfl (zg yg rfl sz4 rfl rfl)<|e_uw 1 rfl rfl (zh 3 ty4 rfl rfl rfl)<|e_pv 2 rfl rfl (zg yg rfl sz4 rfl rfl)<|e_uw 3 rfl rfl (zh 2 ty4 rfl rfl rfl)<|e_pv 4 rfl rfl (zPa yA rfl rfl)<|e_dm 5 rfl rfl rfl<|e_pv 7 rfl rfl (zg yg rfl sz4 rfl rfl)<|e_uw 8 rfl rfl (zh 2 ty4 rfl rfl rfl)<|e_dm 9 rfl rfl rfl<|e_one 6 (zp rfl rfl rfl rfl (.c rfl (.c rfl .n)) ce115 (zDa (s:=decide (decide (x1<0)≠decide (x2<0))) (a:=((x1).natAbs) / ((x2).natAbs)) (p:=p310) (cap:=c311)) (.c (j:=1) rfl .n) ?_)
   rintro ⟨p231,c232⟩ -
   dsimp only [aq,nq,cq]
   refine e_one 10 (zp rfl rfl rfl rfl (.c rfl (.c rfl .n)) ce115 (zDa (s:=decide (x2<0)) (a:=(((x1).natAbs)%((x2).natAbs))) (p:=p214) (cap:=c215)) (.c (j:=1) rfl .n) ?_)
   rintro ⟨p233,c234⟩ -
   dsimp only [aq,nq,cq]
   refine e_one 11 (zv kr rfl rfl rfl rfl rfl sz30 rfl (.t2 .nil) ?_)
   refine zza (zea (i:=1) rfl)<|e_one 12 (zv kr rfl rfl rfl rfl rfl sz30 rfl (.t2 .nil) ?_)
   refine e_pv 13 rfl rfl (zb rfl)<|zH kr<|zd<|zC ?_
   have hr0:x1.natAbs%x2.natAbs=0:=yJ.1 om
   have hz:yD (decide (decide (x1<0)≠decide (x2<0))) ((x1.natAbs / x2.natAbs:Nat):Int)=Big.fq x1 x2∧yD (decide (x2<0)) ((x1.natAbs%x2.natAbs:Nat):Int)=Big.fr x1 x2:=by by_cases h:decide (x1<0)=decide (x2<0);rw [decide_eq_false (not_not_intro h)];exact Big.fq_same hy h;rw [decide_eq_true h];exact Big.fq_even hy h hr0
   exact zGc Tryz.results137 (p231,c232,p233,c234) trivial (zo 1 ty30 rfl rfl (.t2 .nil)) (zo 0 ty30 rfl rfl (.t2 .nil)) (zn rfl) (by rw [hz.1,hz.2]) (ho:=oN) ((.e (j:=1) rfl (by rw [hz.1]) (.e (j:=0) rfl (by rw [hz.2]) .n)):SelR _ _ _)
theorem zLb {w1:Wd} {w2:Wd} {x1:Int} {x2:Int} (hb1:yp x1≤4398046511104) (hb2:yp x2≤4398046511104) (hy:x2≠0):Con yl 137 [.agg #[w1.b,w1.l],.agg #[w2.b,w2.l]] [] [zF w1 (x1),zF w2 (x2)] (Y:=(Wd)×(Wd)) (fun y=>True) (fun y=> .tuple #[.agg #[y.1.b,y.1.l],.agg #[y.2.b,y.2.l],ya yb (0)]) (fun y=>[]) (fun y=>[zF y.1 (Big.fq x1 x2),zF y.2 (Big.fr x1 x2)]):=by
  exact zxf (zqc (fun p1 c1 p2 c2=>zqe hb1 hb2 hy))
theorem zNc {x1:Int} {x2:Int} {p1:Option Addr} {c1:Nat} {p2:Option Addr} {c2:Nat}:Con yl 99 [.agg #[.bool (decide (x1<0)),.slice p1 ((yd ((x1).natAbs)).length) c1],.agg #[.bool (decide (x2<0)),.slice p2 ((yd ((x2).natAbs)).length) c2]] [] [slF (rI .u32) p1 c1 (yd ((x1).natAbs)),slF (rI .u32) p2 c2 (yd ((x2).natAbs))] (Y:=Unit) (fun y=>True) (fun y=> ya yb (Big.cmp x1 x2)) (fun y=>[]) (fun y=>[]):=by
 refine zl Tryz.func99 rfl rfl rfl (fun c=> ?_)
 show RunC _ _ _ _ _ [(0,.agg #[.bool (decide (x1<0)),.slice p1 ((yd ((x1).natAbs)).length) c1]),(1,.agg #[.bool (decide (x2<0)),.slice p2 ((yd ((x2).natAbs)).length) c2])] [] [slF (rI .u32) p1 c1 (yd ((x1).natAbs)),slF (rI .u32) p2 c2 (yd ((x2).natAbs))]
 refine zU 0 rfl (fun hL0=> ?_)
 refine zU 1 rfl (fun hL1=> ?_)
 have hcb:=Big.cmp_b (x1.natAbs:Int) (x2.natAbs:Int)
 refine ze<|za<|zI rfl rfl (zR rfl rfl) (fun b1=> ?_)
 refine zI rfl rfl (zR rfl rfl) (fun b2=> ?_)
 refine e_p (zb rfl)<|zf<|zd<|ze<|ze<|zV (OW:=[]) (O:=[boxA b2 30 [.bool (decide (x2<0)),.slice p2 ((yd ((x2).natAbs)).length) c2],boxA b1 30 [.bool (decide (x1<0)),.slice p1 ((yd ((x1).natAbs)).length) c1]]) 100000 mixed (.then (.then .ret)) kr<|e_u 0 rfl rfl (zc 1 ty30 rfl rfl (.t2 .nil))<|e_u 2 rfl rfl (zc 0 ty30 rfl rfl (.t2 .nil))<|e_one 1 (zbb rfl rfl rfl rfl (.c rfl .n) ce118 (zgd (z:=x1) (p:=p1) (cap:=c1)) (.c (j:=0) rfl .n) ?_)
 refine e_one 3 (zbb rfl rfl rfl rfl (.c rfl .n) ce118 (zgd (z:=x2) (p:=p2) (cap:=c2)) (.c (j:=1) rfl .n) ?_)
 refine e_pv 4 rfl rfl (zb rfl)<|e_pv 5 rfl rfl (zb rfl)<|zH kr<|zd<|ze<|za<|e_mv rfl<|e_mv rfl<|e_p (zib rfl rfl)<|zf<|zd<|zG rfl (fun hs=> ?_) (fun hs=> ?_)
 ·
  refine ze<|za<|e_mv rfl<|e_mv rfl<|zJ rfl rfl (.c rfl (.c rfl .n)) ce121 (zed (u:=(x1).sign) (v:=(x2).sign)) (.n)<|e_p (zb rfl)<|zf<|zd<|zC<|zk ?_
  exact zu Tryz.results99 () trivial (zn rfl) (by rw [Big.cmp_signs hs]) (ho:=oN) sN
 ·
  refine zB<|zd<|ze<|zV (OW:=[]) (O:=[boxA b2 30 [.bool (decide (x2<0)),.slice p2 ((yd ((x2).natAbs)).length) c2],boxA b1 30 [.bool (decide (x1<0)),.slice p1 ((yd ((x1).natAbs)).length) c1]]) 100000 mixed (.then .ret) kr<|e_u 0 rfl rfl (zc 1 ty30 rfl rfl (.t2 .nil))<|e_u 2 rfl rfl (zc 0 ty30 rfl rfl (.t2 .nil))<|e_one 1 (zp rfl rfl rfl rfl (.c rfl .n) ce123 (zKb (z:=x1) (p:=p1) (cap:=c1)) (.c (j:=0) rfl .n) ?_)
  rintro ⟨p23,c24⟩ -
  dsimp only [aq,nq,cq]
  refine e_one 3 (zp rfl rfl rfl rfl (.c rfl .n) ce123 (zKb (z:=x2) (p:=p2) (cap:=c2)) (.c (j:=2) rfl .n) ?_)
  rintro ⟨p25,c26⟩ -
  dsimp only [aq,nq,cq]
  refine e_one 4 (zbb rfl rfl rfl rfl (.c rfl (.c rfl .n)) ce122 (zgc (a:=(x1).natAbs) (b:=(x2).natAbs) (p1:=p23) (c1:=c24) (p2:=p25) (c2:=c26)) (.c (j:=1) rfl (.c (j:=0) rfl .n)) ?_)
  refine e_pv 5 rfl rfl (zb rfl)<|zH kr<|zd<|ze<|ze<|za<|e_p (zg yg rfl sz4 rfl rfl)<|e_ru (zh 1 ty4 rfl rfl rfl)<|zf<|zd<|zZa rfl (fun hn=> ?_) (fun hn=> ?_)
  ·
   refine ze<|za<|e_mv rfl<|e_p (znf (z:=(-(Big.cmp (((x1).natAbs):Int) (((x2).natAbs):Int)))) rfl (w64 om))<|e_p (zb rfl)<|zf<|zd<|zC<|zk ?_
   exact zu Tryz.results99 () trivial (zn rfl) (by rw [Big.cmp_neg hs (by simpa using hn)]) (ho:=oN) sN
  ·
   refine zB<|zd<|ze<|za<|e_mv rfl<|e_p (zb rfl)<|zf<|zd<|zC ?_
   exact zu Tryz.results99 () trivial (zn rfl) (by rw [Big.cmp_pos hs (by simpa using hn)]) (ho:=oN) sN
theorem zWd {w1:Wd} {w2:Wd} {x1:Int} {x2:Int}:Con yl 99 [.agg #[w1.b,w1.l],.agg #[w2.b,w2.l]] [] [zF w1 (x1),zF w2 (x2)] (Y:=Unit) (fun y=>True) (fun y=> ya yb (Big.cmp x1 x2)) (fun y=>[]) (fun y=>[]):=by
  exact zqc (fun p1 c1 p2 c2=>zNc)
theorem zre {s:Bool} {p:Option Addr} {n:Nat} {cap:Nat} {l:List Int} (hn:l.length=n) (hln:yp (yf s l)≤4398046511104):Con yl 136 [.agg #[.bool s,.slice p n cap]] [] [slF (rI .u32) p cap l] (Y:=(Option Addr)×Nat) (fun y=>True) (fun y=> .agg #[.bool (decide ((- yf s l)<0)),.slice (y.1) ((yd ((- yf s l).natAbs)).length) (y.2)]) (fun y=>[]) (fun y=>[slF (rI .u32) (y.1) (y.2) (yd ((- yf s l).natAbs))]):=by
 refine zl Tryz.func136 rfl rfl rfl (fun c=> ?_)
 show RunC _ _ _ _ _ [(0,.agg #[.bool s,.slice p n cap])] [] [slF (rI .u32) p cap l]
 refine zU 0 rfl (fun hL0=> ?_)
 refine zUa 0 rfl (fun hE0=> ?_)
 have hnn:yI l:=fun g hg=>(zy.1 (hE0 g hg)).1
 unfold yp at hln
 refine ze<|za<|zI rfl rfl (zR rfl rfl) (fun b1=> ?_)
 refine zI rfl rfl (zr zr30 rfl) (fun b2=> ?_)
 refine zf<|zd<|ze<|zV (OW:=[boxA b2 30 [wz.b,wz.l]]) (O:=[boxA b1 30 [.bool s,.slice p n cap]]) 7 mixed (.then .ret) kr<|e_pv 0 rfl rfl (zg yg rfl sz4 rfl rfl)<|e_uw 1 rfl rfl (zh 1 ty4 rfl rfl rfl)<|e_pv 2 rfl rfl (zqb rfl)<|e_uw 3 rfl rfl (zc 1 ty30 rfl rfl (.t2 .nil))<|e_one 4 (zp rfl rfl rfl rfl (.c rfl .n) ce123 (zVa (s:=s) (p:=p) (n:=n) (cap:=cap) (l:=l) (hn:=ass)) (.c (j:=0) rfl .n) ?_)
 rintro ⟨p23,c24⟩ -
 dsimp only [aq,nq,cq]
 refine e_one 5 (zp rfl rfl rfl rfl (.c rfl .n) ce143 (zEd (a:=(yf s l).natAbs) (p:=p23) (cap:=c24) (hb:=cbb)) (.c (j:=0) rfl .n) ?_)
 rintro ⟨p25,c26⟩ -
 dsimp only [aq,nq,cq]
 refine e_one 6 (zp rfl rfl rfl rfl (.c rfl (.c rfl .n)) ce115 (zDa (s:= !s) (a:=((yf s l).natAbs)) (p:=p25) (cap:=c26)) (.c (j:=0) rfl .n) ?_)
 rintro ⟨p27,c28⟩ -
 dsimp only [aq,nq,cq]
 refine e_one 7 (zv kr rfl rfl rfl rfl rfl sz30 rfl (.t2 .nil) ?_)
 refine zH kr<|zd<|zC ?_
 have hz:yD (!s) ((yf s l).natAbs:Int)= - yf s l:=by rw [Big.sg_not,Big.sg_raw hnn]
 exact zu Tryz.results136 (p27,c28) trivial (zo 0 ty30 rfl rfl (.t2 .nil)) (by rw [hz]) (ho:=oN) ((.e (j:=0) rfl (by rw [hz]) .n):SelR _ _ _)
theorem zFd {z:Int} {p:Option Addr} {cap:Nat} (hln:yp z≤4398046511104):Con yl 136 [.agg #[.bool (decide ((z)<0)),.slice (p) ((yd ((z).natAbs)).length) (cap)]] [] [slF (rI .u32) (p) (cap) (yd ((z).natAbs))] (Y:=(Option Addr)×(Nat)) (fun y=>True) (fun y=> .agg #[.bool (decide ((- z)<0)),.slice (y.1) ((yd ((- z).natAbs)).length) (y.2)]) (fun y=>[]) (fun y=>[slF (rI .u32) (y.1) (y.2) (yd ((- z).natAbs))]):=by
  have h:= @zre (decide ((z)<0)) p (yd (z).natAbs).length cap (yd (z).natAbs) rfl (by rw [yt];exact hln)
  rw [yt] at h
  exact h
theorem zGd {w1:Wd} {x1:Int} (hln:yp x1≤4398046511104):Con yl 136 [.agg #[w1.b,w1.l]] [] [zF w1 (x1)] (Y:=(Wd)) (fun y=>True) (fun y=> .agg #[y.b,y.l]) (fun y=>[]) (fun y=>[zF y (- x1)]):=by
  exact zfc (zRd (fun p c=>zFd hln))
end Go.Proofs.YtahiajepeodhoaaGreat.Sp
namespace Go.Proofs.YtahiajepeodhoaaGreat.Sp
open Go
set_option linter.unusedVariables false
set_option maxRecDepth 100000
set_option maxHeartbeats 8000000
theorem zsd {s:Bool} {p1:Option Addr} {n1:Nat} {c1:Nat} {l1:List Int} {t:Bool} {p2:Option Addr} {n2:Nat} {c2:Nat} {l2:List Int} (hn1:l1.length=n1) (hn2:l2.length=n2) (hm1:n1≤1099511627776) (hm2:n2≤1099511627776):Con yl 96 [.agg #[.bool s,.slice p1 n1 c1,.bool t,.slice p2 n2 c2]] [] [slF (rI .u32) p1 c1 l1,slF (rI .u32) p2 c2 l2] (Y:=Unit) (fun y=>True) (fun y=> .bool (decide (Big.qok ((s,l1),(t,l2))))) (fun y=>[]) (fun y=>[]):=by
 refine zl Tryz.func96 rfl rfl rfl (fun c=> ?_)
 show RunC _ _ _ _ _ [(0,.agg #[.bool s,.slice p1 n1 c1,.bool t,.slice p2 n2 c2])] [] [slF (rI .u32) p1 c1 l1,slF (rI .u32) p2 c2 l2]
 refine zU 0 rfl (fun hL0=> ?_)
 refine zUa 0 rfl (fun hE0=> ?_)
 refine zU 1 rfl (fun hL1=> ?_)
 refine zUa 1 rfl (fun hE1=> ?_)
 have hnn1:yI l1:=fun g hg=>(zy.1 (hE0 g hg)).1
 have hnn2:yI l2:=fun g hg=>(zy.1 (hE1 g hg)).1
 have hb1:yp (yf s l1)≤n1:=by have:=yK (s:=s) hnn1;omega
 have hb2:yp (yf t l2)≤n2:=by have:=yK (s:=t) hnn2;omega
 refine ze<|za<|zI rfl rfl (zR rfl rfl) (fun b1=> ?_)
 refine e_p (zb rfl)<|zf<|zd<|ze<|zOa (X:=Unit) (fun x=>True) (fun x=>[(18,.bool (decide (¬(Big.canon s l1∧Big.canon t l2∧0<yf t l2)))),(2,.bool false),(1,yc (some ⟨b1,0,none⟩))]) (fun x=>[boxA b1 32 [.bool s,.slice p1 n1 c1,.bool t,.slice p2 n2 c2]]) (fun x=>[slF (rI .u32) p1 c1 l1,slF (rI .u32) p2 c2 l2]) ?_ ?_
 ·
  refine za<|e_p (zg yk rfl sz30 rfl rfl)<|e_ru (zc 0 ty30 rfl rfl (.t2 .nil))<|zJ rfl rfl (.c rfl .n) ce117 (ztc (s:=s) (p:=p1) (n:=n1) (cap:=c1) (l:=l1) (hn:=ass)) (.c (j:=0) rfl .n)<|e_p (zGa rfl)<|zha rfl rfl (zga rfl) (fun h2=> ?_) (fun h2=> ?_)
  ·
   refine e_no<|e_no<|e_no<|e_no<|e_p (zE rfl rfl)<|e_mv rfl<|e_no<|e_no<|e_no<|e_no<|e_p (zE rfl rfl)<|zf ?_
   exact zT () tt9 ((.e rfl (congrArg Value.bool (by simp_all)) (.c rfl (.c rfl .n))):SubM _ _) (ho:=(o0 rfl)) ((.of [0,1] rfl):SelR _ _ _)
  ·
   refine e_p (zg yk rfl sz30 rfl rfl)<|e_ru (zc 0 ty30 rfl rfl (.s2 (.t2 .nil)))<|zJ rfl rfl (.c rfl .n) ce117 (ztc (s:=t) (p:=p2) (n:=n2) (cap:=c2) (l:=l2) (hn:=ass)) (.c (j:=1) rfl .n)<|e_p (zGa rfl)<|e_p (zE rfl rfl)<|zha rfl rfl (zga rfl) (fun h3=> ?_) (fun h3=> ?_)
   ·
    refine e_no<|e_no<|e_no<|e_no<|e_p (zE rfl rfl)<|zf ?_
    exact zT () tt9 ((.e rfl (congrArg Value.bool (by simp_all)) (.c rfl (.c rfl .n))):SubM _ _) (ho:=(o0 rfl)) ((.of [0,1] rfl):SelR _ _ _)
   ·
    refine e_p (zg yk rfl sz30 rfl rfl)<|e_ru (zc 0 ty30 rfl rfl (.s2 (.t2 .nil)))<|zJ rfl rfl (.c rfl .n) ce118 (zFe (s:=t) (p:=p2) (n:=n2) (cap:=c2) (l:=l2) (hn:=ass)) (.c (j:=1) rfl .n)<|e_p (zxb rfl rfl)<|e_p (zE rfl rfl)<|zf ?_
    exact zT () tt9 ((.e rfl (congrArg Value.bool (by exact decide_eq_decide.2 (Big.sgn_le (Decidable.not_not.1 ‹_›) (Decidable.not_not.1 ‹_›)))) (.c rfl (.c rfl .n))):SubM _ _) (ho:=(o0 rfl)) ((.of [0,1] rfl):SelR _ _ _)
 ·
  rintro ⟨⟩ -
  try dsimp only
  refine zG rfl (fun hc=> ?_) (fun hc=> ?_)
  ·
   refine ze<|za<|e_p (zb rfl)<|zf<|zd<|zC<|zk ?_
   exact zu Tryz.results96 () trivial (zn rfl) (congrArg Value.bool (decide_eq_false (fun h=>hc ⟨h.1,h.2.1,h.2.2.1⟩))) (ho:=oN) sN
  ·
   refine zB<|zd<|ze<|za<|e_p (zg yk rfl sz30 rfl rfl)<|e_ru (zc 0 ty30 rfl rfl (.t2 .nil))<|e_p (zg yk rfl sz30 rfl rfl)<|e_ru (zc 0 ty30 rfl rfl (.s2 (.t2 .nil)))<|zm rfl rfl (.c rfl (.c rfl .n)) ce119 (zAf (s:=s) (p1:=p1) (n1:=n1) (c1:=c1) (l1:=l1) (t:=t) (p2:=p2) (n2:=n2) (c2:=c2) (l2:=l2) (hn1:=ass) (hn2:=ass) (hb1:=by first|rfl|assumption|omega|(rw [yq];omega)|(decide +kernel)) (hb2:=by first|rfl|assumption|omega|(rw [yq];omega)|(decide +kernel))) (.c (j:=0) rfl (.c (j:=1) rfl .n)) ?_
   rintro ⟨p34,c35⟩ -
   dsimp only [aq,nq,cq]
   refine zm rfl rfl (.c rfl .n) ce91 (ztg (z:=1) (hz:=by first|rfl|assumption|omega|(rw [yq];omega)|(decide +kernel))) (.n) ?_
   rintro ⟨p26,c27⟩ -
   dsimp only [aq,nq,cq]
   refine zJ rfl rfl (.c rfl (.c rfl .n)) ce99 (zNc (x1:=((Nat.gcd (yf s l1).natAbs (yf t l2).natAbs:Nat):Int)) (x2:=1) (p1:=p34) (c1:=c35) (p2:=p26) (c2:=c27)) (.c (j:=1) rfl (.c (j:=0) rfl .n))<|e_p (zwa rfl rfl)<|e_p (zb rfl)<|zf<|zd<|zC ?_
   exact zu Tryz.results96 () trivial (zn rfl) (congrArg Value.bool (decide_eq_decide.2 (Big.qok_gcd (x:=((s,l1),(t,l2))) (Decidable.not_not.1 hc)).symm)) (ho:=oN) sN
theorem zMb {w1:Wd} {w2:Wd} {x1:Int} {x2:Int} (hl1:yp x1≤1099511627776) (hl2:yp x2≤1099511627776) (hd:x2≠0):Con yl 113 [.agg #[w1.b,w1.l],.agg #[w2.b,w2.l]] [] [zF w1 x1,zF w2 x2] (Y:=Wd×Wd) (fun y=>True) (fun y=> .agg #[y.1.b,y.1.l,y.2.b,y.2.l]) (fun y=>[]) (fun y=>[qF true y.1 y.2 (Rat.divInt x1 x2)]):=by
 refine zl Tryz.func113 rfl rfl rfl (fun c=> ?_)
 show RunC _ _ _ _ _ [(0,.agg #[w1.b,w1.l]),(1,.agg #[w2.b,w2.l])] [] [zF w1 x1,zF w2 x2]
 refine ze<|za<|zI rfl rfl (zR rfl rfl) (fun b1=> ?_)
 refine zI rfl rfl (zR rfl rfl) (fun b2=> ?_)
 refine zI rfl rfl (zr zr32 rfl) (fun b3=> ?_)
 refine zf<|zd<|ze<|ze<|za<|e_ru (zc 1 ty30 rfl rfl (.t2 .nil))<|zJ rfl rfl (.c rfl .n) ce118 (zuc (w1:=w2) (x1:=x2)) (.c (j:=1) rfl .n)<|e_p (zX rfl rfl)<|zf<|zd<|zG rfl (fun hneg=> ?_) (fun hneg=> ?_)
 ·
  have hs:x2<0:=by rcases Big.sign_le (x:=x2) with h|h|h <;> omega
  have hgp:=Big.gcd_pos_right (n:= -x1) (d:= -x2) om
  have hgl:=Big.zSd (n:= -x1) (d:= -x2) om
  rw [yq] at hgl
  obtain ⟨hr1,hr2⟩:=Big.red_flip (n:=x1) hs
  refine zqa (.c (i:=2) rfl (.c (i:=1) rfl (.c (i:=0) rfl .n)))<|zV (OW:=[boxA b1 30 [w1.b,w1.l],boxA b2 30 [w2.b,w2.l]]) (O:=[boxA b3 32 (cw [wz,wz])]) 4 mixed (.then .ret) kr<|e_uw 0 rfl rfl (zc 0 ty30 rfl rfl (.t2 .nil))<|e_uw 2 rfl rfl (zc 1 ty30 rfl rfl (.t2 .nil))<|e_one 1 (zp rfl rfl rfl rfl (.c rfl .n) ce136 (zGd (w1:=w1) (x1:=x1) (hln:=by first|rfl|assumption|omega|(rw [yq];omega)|(decide +kernel))) (.c (j:=0) rfl .n) ?_)
  rintro w34 -
  dsimp only [aq,nq,cq]
  refine e_one 3 (zp rfl rfl rfl rfl (.c rfl .n) ce136 (zGd (w1:=w2) (x1:=x2) (hln:=by first|rfl|assumption|omega|(rw [yq];omega)|(decide +kernel))) (.c (j:=2) rfl .n) ?_)
  rintro w35 -
  dsimp only [aq,nq,cq]
  refine e_one 4 (zv kr rfl rfl rfl rfl rfl sz30 rfl (.t2 .nil) ?_)
  refine zza (zea (i:=1) rfl)<|e_one 5 (zv kr rfl rfl rfl rfl rfl sz30 rfl (.t2 .nil) ?_)
  refine zH kr<|zd<|ze<|za<|e_ru (zc 1 ty30 rfl rfl (.t2 .nil))<|e_ru (zc 0 ty30 rfl rfl (.t2 .nil))<|zm rfl rfl (.c rfl (.c rfl .n)) ce119 (zHe (w1:=w34) (w2:=w35) (x1:= - x1) (x2:= - x2) (hb1:=by first|rfl|assumption|omega|(rw [yq];omega)|(decide +kernel)) (hb2:=by first|rfl|assumption|omega|(rw [yq];omega)|(decide +kernel))) (.c (j:=1) rfl (.c (j:=0) rfl .n)) ?_
  rintro w36 -
  dsimp only [aq,nq,cq]
  refine zI rfl rfl (zr zr30 rfl) (fun b7=> ?_)
  refine zj 0 rfl rfl rfl rfl rfl sz30 rfl (.t2 .nil) .z<|zf<|zd<|ze<|za<|e_ru (zc 2 ty30 rfl rfl (.t2 .nil))<|e_ru (zc 0 ty30 rfl rfl (.t2 .nil))<|zm rfl rfl (.c rfl (.c rfl .n)) ce137 (zLb (w1:=w34) (w2:=w36) (x1:= - x1) (x2:=((Nat.gcd (- x1).natAbs (- x2).natAbs:Nat):Int)) (hb1:=by first|rfl|assumption|omega|(rw [yq];omega)|(decide +kernel)) (hb2:=by first|rfl|assumption|omega|(rw [yq];omega)|(decide +kernel)) (hy:=by first|rfl|assumption|omega|(rw [yq];omega)|(decide +kernel))) (.c (j:=2) rfl (.c (j:=0) rfl .n)) ?_
  rintro ⟨w38,w49⟩ -
  dsimp only [aq,nq,cq]
  refine e_mv rfl<|e_p (zq rfl rfl)<|e_p (zq rfl rfl)<|e_p (zq rfl rfl)<|zj 2 rfl rfl rfl rfl rfl sz30 rfl (.t2 .nil) (.s (.s .z))<|zf<|zd<|ze<|za<|e_ru (zc 1 ty30 rfl rfl (.t2 .nil))<|e_ru (zc 0 ty30 rfl rfl (.t2 .nil))<|zm rfl rfl (.c rfl (.c rfl .n)) ce137 (zLb (w1:=w35) (w2:=w36) (x1:= - x2) (x2:=((Nat.gcd (- x1).natAbs (- x2).natAbs:Nat):Int)) (hb1:=by first|rfl|assumption|omega|(rw [yq];omega)|(decide +kernel)) (hb2:=by first|rfl|assumption|omega|(rw [yq];omega)|(decide +kernel)) (hy:=by first|rfl|assumption|omega|(rw [yq];omega)|(decide +kernel))) (.c (j:=3) rfl (.c (j:=2) rfl .n)) ?_
  rintro ⟨w310,w411⟩ -
  dsimp only [aq,nq,cq]
  refine e_mv rfl<|e_p (zq rfl rfl)<|e_p (zq rfl rfl)<|e_p (zq rfl rfl)<|zj 1 rfl rfl rfl rfl rfl sz30 rfl (.t2 .nil) (.s .z)<|zf<|zd<|ze<|za<|e_ru (zc 2 ty30 rfl rfl (.t2 .nil))<|e_ru (zc 1 ty30 rfl rfl (.t2 .nil))<|e_p (zN zr32 rfl yk (.c sz30 (.c sz30 .n)) (.c rfl (.c rfl .n)) (.c rfl rfl rfl (.t2 .nil) (.c rfl rfl rfl (.s2 (.t2 .nil)) .n)))<|zj 3 rfl rfl rfl rfl rfl sz32 rfl (.t4 .nil) (.s (.s (.s .z)))<|zf<|zd<|zC<|znb (qF true w38 w310 (Rat.divInt x1 x2)) (qF_close 2 0 rfl rfl (by exact ⟨hr1,hr2,Nat.le_trans (Big.hq_divInt hd) om⟩)) ?_
  exact zu Tryz.results113 (w38,w310) trivial (zo 3 ty32 rfl rfl (.t4 .nil)) rfl (ho:=oN) (s0 rfl)
 ·
  have hs:0<x2:=by rcases Big.sign_le (x:=x2) with h|h|h <;> omega
  have hgp:=Big.gcd_pos_right (n:=x1) (d:=x2) om
  have hgl:=Big.zSd (n:=x1) (d:=x2) om
  obtain ⟨hr1,hr2⟩:=Big.red_pos (n:=x1) hs
  refine zB<|zd<|ze<|za<|e_ru (zc 2 ty30 rfl rfl (.t2 .nil))<|e_ru (zc 1 ty30 rfl rfl (.t2 .nil))<|zm rfl rfl (.c rfl (.c rfl .n)) ce119 (zHe (w1:=w1) (w2:=w2) (x1:=x1) (x2:=x2) (hb1:=by first|rfl|assumption|omega|(rw [yq];omega)|(decide +kernel)) (hb2:=by first|rfl|assumption|omega|(rw [yq];omega)|(decide +kernel))) (.c (j:=0) rfl (.c (j:=1) rfl .n)) ?_
  rintro w312 -
  dsimp only [aq,nq,cq]
  refine zI rfl rfl (zr zr30 rfl) (fun b13=> ?_)
  refine zj 0 rfl rfl rfl rfl rfl sz30 rfl (.t2 .nil) .z<|zf<|zd<|ze<|za<|e_ru (zc 3 ty30 rfl rfl (.t2 .nil))<|e_ru (zc 0 ty30 rfl rfl (.t2 .nil))<|zm rfl rfl (.c rfl (.c rfl .n)) ce137 (zLb (w1:=w1) (w2:=w312) (x1:=x1) (x2:=((Nat.gcd x1.natAbs x2.natAbs:Nat):Int)) (hb1:=by first|rfl|assumption|omega|(rw [yq];omega)|(decide +kernel)) (hb2:=by first|rfl|assumption|omega|(rw [yq];omega)|(decide +kernel)) (hy:=by first|rfl|assumption|omega|(rw [yq];omega)|(decide +kernel))) (.c (j:=1) rfl (.c (j:=0) rfl .n)) ?_
  rintro ⟨w314,w415⟩ -
  dsimp only [aq,nq,cq]
  refine e_mv rfl<|e_p (zq rfl rfl)<|e_p (zq rfl rfl)<|e_p (zq rfl rfl)<|zj 3 rfl rfl rfl rfl rfl sz30 rfl (.t2 .nil) (.s (.s (.s .z)))<|zf<|zd<|ze<|za<|e_ru (zc 2 ty30 rfl rfl (.t2 .nil))<|e_ru (zc 0 ty30 rfl rfl (.t2 .nil))<|zm rfl rfl (.c rfl (.c rfl .n)) ce137 (zLb (w1:=w2) (w2:=w312) (x1:=x2) (x2:=((Nat.gcd x1.natAbs x2.natAbs:Nat):Int)) (hb1:=by first|rfl|assumption|omega|(rw [yq];omega)|(decide +kernel)) (hb2:=by first|rfl|assumption|omega|(rw [yq];omega)|(decide +kernel)) (hy:=by first|rfl|assumption|omega|(rw [yq];omega)|(decide +kernel))) (.c (j:=4) rfl (.c (j:=2) rfl .n)) ?_
  rintro ⟨w316,w417⟩ -
  dsimp only [aq,nq,cq]
  refine e_mv rfl<|e_p (zq rfl rfl)<|e_p (zq rfl rfl)<|e_p (zq rfl rfl)<|zj 2 rfl rfl rfl rfl rfl sz30 rfl (.t2 .nil) (.s (.s .z))<|zf<|zd<|ze<|za<|e_ru (zc 3 ty30 rfl rfl (.t2 .nil))<|e_ru (zc 2 ty30 rfl rfl (.t2 .nil))<|e_p (zN zr32 rfl yk (.c sz30 (.c sz30 .n)) (.c rfl (.c rfl .n)) (.c rfl rfl rfl (.t2 .nil) (.c rfl rfl rfl (.s2 (.t2 .nil)) .n)))<|zj 1 rfl rfl rfl rfl rfl sz32 rfl (.t4 .nil) (.s .z)<|zf<|zd<|zC<|znb (qF true w314 w316 (Rat.divInt x1 x2)) (qF_close 2 0 rfl rfl (by exact ⟨hr1,hr2,Nat.le_trans (Big.hq_divInt hd) om⟩)) ?_
  exact zu Tryz.results113 (w314,w316) trivial (zo 1 ty32 rfl rfl (.t4 .nil)) rfl (ho:=oN) (s0 rfl)
theorem zZe {s:Bool} {p1:Option Addr} {n1:Nat} {c1:Nat} {l1:List Int} {t:Bool} {p2:Option Addr} {n2:Nat} {c2:Nat} {l2:List Int} (hn1:l1.length=n1) (hn2:l2.length=n2) (hm1:n1≤1099511627776) (hm2:n2≤1099511627776) (hq:Big.qok ((s,l1),(t,l2))):Con yl 120 [.agg #[.bool s,.slice p1 n1 c1,.bool t,.slice p2 n2 c2]] [] [slF (rI .u32) p1 c1 l1,slF (rI .u32) p2 c2 l2] (Y:=(Option Addr)×Nat×(Option Addr)×Nat) (fun y=>True) (fun y=> .agg #[.bool (decide (((yT ((s,l1),(t,l2))).num)<0)),.slice (y.1) ((yd (((yT ((s,l1),(t,l2))).num).natAbs)).length) (y.2.1),.bool (decide ((((yT ((s,l1),(t,l2))).den:Nat):Int)<0)),.slice (y.2.2.1) ((yd ((((yT ((s,l1),(t,l2))).den:Nat):Int).natAbs)).length) (y.2.2.2)]) (fun y=>[]) (fun y=>[slF (rI .u32) (y.1) (y.2.1) (yd (((yT ((s,l1),(t,l2))).num).natAbs)),slF (rI .u32) (y.2.2.1) (y.2.2.2) (yd ((((yT ((s,l1),(t,l2))).den:Nat):Int).natAbs))]):=by
 refine zl Tryz.func120 rfl rfl rfl (fun c=> ?_)
 show RunC _ _ _ _ _ [(0,.agg #[.bool s,.slice p1 n1 c1,.bool t,.slice p2 n2 c2])] [] [slF (rI .u32) p1 c1 l1,slF (rI .u32) p2 c2 l2]
 refine zU 0 rfl (fun hL0=> ?_)
 refine zUa 0 rfl (fun hE0=> ?_)
 refine zU 1 rfl (fun hL1=> ?_)
 refine zUa 1 rfl (fun hE1=> ?_)
 have hnn1:yI l1:=fun g hg=>(zy.1 (hE0 g hg)).1
 have hnn2:yI l2:=fun g hg=>(zy.1 (hE1 g hg)).1
 have hb1:yp (yf s l1)≤n1:=by have:=yK (s:=s) hnn1;omega
 have hb2:yp (yf t l2)≤n2:=by have:=yK (s:=t) hnn2;omega
 refine ze<|za<|zI rfl rfl (zR rfl rfl) (fun b1=> ?_)
 refine zI rfl rfl (zr zr32 rfl) (fun b2=> ?_)
 refine zf<|zd<|ze<|zV (OW:=[boxA b2 32 (cw [wz,wz])]) (O:=[boxA b1 32 [.bool s,.slice p1 n1 c1,.bool t,.slice p2 n2 c2]]) 9 mixed (.then .ret) kr<|e_pv 0 rfl rfl (zg yk rfl sz30 rfl rfl)<|e_uw 1 rfl rfl (zc 1 ty30 rfl rfl (.t2 .nil))<|e_pv 4 rfl rfl (zg yk rfl sz30 rfl rfl)<|e_uw 5 rfl rfl (zc 1 ty30 rfl rfl (.s2 (.t2 .nil)))<|e_one 2 (zp rfl rfl rfl rfl (.c rfl .n) ce136 (zre (s:=s) (p:=p1) (n:=n1) (cap:=c1) (l:=l1) (hn:=ass) (hln:=by first|rfl|assumption|omega|(rw [yq];omega)|(decide +kernel))) (.c (j:=0) rfl .n) ?_)
 rintro ⟨p23,c24⟩ -
 dsimp only [aq,nq,cq]
 refine e_one 3 (zp rfl rfl rfl rfl (.c rfl .n) ce136 (zFd (z:= - yf s l1) (p:=p23) (cap:=c24) (hln:=by first|rfl|assumption|omega|(rw [yq];omega)|(decide +kernel))) (.c (j:=0) rfl .n) ?_)
 rintro ⟨p25,c26⟩ -
 dsimp only [aq,nq,cq]
 refine e_one 6 (zp rfl rfl rfl rfl (.c rfl .n) ce136 (zre (s:=t) (p:=p2) (n:=n2) (cap:=c2) (l:=l2) (hn:=ass) (hln:=by first|rfl|assumption|omega|(rw [yq];omega)|(decide +kernel))) (.c (j:=3) rfl .n) ?_)
 rintro ⟨p27,c28⟩ -
 dsimp only [aq,nq,cq]
 refine e_one 7 (zp rfl rfl rfl rfl (.c rfl .n) ce136 (zFd (z:= - yf t l2) (p:=p27) (cap:=c28) (hln:=by first|rfl|assumption|omega|(rw [yq];omega)|(decide +kernel))) (.c (j:=0) rfl .n) ?_)
 rintro ⟨p29,c210⟩ -
 dsimp only [aq,nq,cq]
 refine e_pv 8 rfl rfl (zN zr32 rfl yk (.c sz30 (.c sz30 .n)) (.c rfl (.c rfl .n)) (.c rfl rfl rfl (.t2 .nil) (.c rfl rfl rfl (.s2 (.t2 .nil)) .n)))<|e_one 9 (zv kr rfl rfl rfl rfl rfl sz32 rfl (.t4 .nil) ?_)
 refine zH kr<|zd<|zC ?_
 have hz1: - - yf s l1=(yT ((s,l1),(t,l2))).num:=by rw [Int.neg_neg];exact (Big.qv_parts hq).1.symm
 have hz2: - - yf t l2=(((yT ((s,l1),(t,l2))).den:Nat):Int):=by rw [Int.neg_neg];exact (Big.qv_parts hq).2.symm
 exact zu Tryz.results120 (p25,c26,p29,c210) trivial (zo 0 ty32 rfl rfl (.t4 .nil)) (by rw [hz1,hz2]) (ho:=oN) ((.e (j:=2) rfl (by rw [hz1]) (.e (j:=0) rfl (by rw [hz2]) .n)):SelR _ _ _)
theorem zse {s:Bool} {p1:Option Addr} {n1:Nat} {c1:Nat} {l1:List Int} {t:Bool} {p2:Option Addr} {n2:Nat} {c2:Nat} {l2:List Int} (hn1:l1.length=n1) (hn2:l2.length=n2) (hm1:n1≤1099511627776) (hm2:n2≤1099511627776) (hq:Big.qok ((s,l1),(t,l2))) (hl:yO (yT ((s,l1),(t,l2)))≤1099511627776):Con yl 120 [.agg #[.bool (s),.slice (p1) (n1) (c1),.bool (t),.slice (p2) (n2) (c2)]] [] [slF (rI .u32) (p1) (c1) (l1),slF (rI .u32) (p2) (c2) (l2)] (Y:=(Wd)×(Wd)) (fun y=>True) (fun y=> .agg #[y.1.b,y.1.l,y.2.b,y.2.l]) (fun y=>[]) (fun y=>[qF true y.1 y.2 (yT ((s,l1),(t,l2)))]):=by
  exact con_qr (zZe hn1 hn2 hm1 hm2 hq) rfl rfl hl
theorem zxa {z:Int} (hz: -9223372036854775808≤z∧z≤9223372036854775807):Con yl 58 [ya yb z] [] [] (Y:=Wd×Wd) (fun y=>True) (fun y=> .agg #[y.1.b,y.1.l,y.2.b,y.2.l]) (fun y=>[]) (fun y=>[qF true y.1 y.2 ((z:Int):Rat)]):=by
 refine zl Tryz.func58 rfl rfl rfl (fun c=> ?_)
 show RunC _ _ _ _ _ [(0,ya yb z)] [] []
 refine ze<|za<|zI rfl rfl (zr zr32 rfl) (fun b1=> ?_)
 refine zf<|zd<|ze<|za<|e_mv rfl<|zm rfl rfl (.c rfl .n) ce91 (zDd (z:=z) (hz:=ass)) (.n) ?_
 rintro w32 -
 dsimp only [aq,nq,cq]
 refine zm rfl rfl (.c rfl .n) ce91 (zDd (z:=1) (hz:=by first|rfl|assumption|omega|(rw [yq];omega)|(decide +kernel))) (.n) ?_
 rintro w33 -
 dsimp only [aq,nq,cq]
 refine e_p (zN zr32 rfl yk (.c sz30 (.c sz30 .n)) (.c rfl (.c rfl .n)) (.c rfl rfl rfl (.t2 .nil) (.c rfl rfl rfl (.s2 (.t2 .nil)) .n)))<|zj 0 rfl rfl rfl rfl rfl sz32 rfl (.t4 .nil) .z<|zf<|zd<|zC<|znb (qF true w32 w33 ((z:Int):Rat)) (qF_close 1 0 rfl rfl (by exact ⟨(Rat.num_intCast z).symm,by rw [Rat.den_intCast];rfl,Nat.le_trans (Big.hq_64 hz.1 hz.2) dd⟩)) ?_
 exact zu Tryz.results58 (w32,w33) trivial (zo 0 ty32 rfl rfl (.t4 .nil)) rfl (ho:=oN) (s0 rfl)
theorem zaf {s:Bool} {p1:Option Addr} {n1:Nat} {c1:Nat} {l1:List Int} {t:Bool} {p2:Option Addr} {n2:Nat} {c2:Nat} {l2:List Int} (hn1:l1.length=n1) (hn2:l2.length=n2) (hm1:n1≤1099511627776) (hm2:n2≤1099511627776):Con yl 97 [.agg #[.bool s,.slice p1 n1 c1,.bool t,.slice p2 n2 c2]] [] [slF (rI .u32) p1 c1 l1,slF (rI .u32) p2 c2 l2] (Y:=Wd×Wd) (fun y=>True) (fun y=> .agg #[y.1.b,y.1.l,y.2.b,y.2.l]) (fun y=>[]) (fun y=>[qF true y.1 y.2 (yT ((s,l1),(t,l2)))]):=by
 refine zl Tryz.func97 rfl rfl rfl (fun c=> ?_)
 show RunC _ _ _ _ _ [(0,.agg #[.bool s,.slice p1 n1 c1,.bool t,.slice p2 n2 c2])] [] [slF (rI .u32) p1 c1 l1,slF (rI .u32) p2 c2 l2]
 refine zU 0 rfl (fun hL0=> ?_)
 refine zUa 0 rfl (fun hE0=> ?_)
 refine zU 1 rfl (fun hL1=> ?_)
 refine zUa 1 rfl (fun hE1=> ?_)
 have hnn1:yI l1:=fun g hg=>(zy.1 (hE0 g hg)).1
 have hnn2:yI l2:=fun g hg=>(zy.1 (hE1 g hg)).1
 have hb1:yp (yf s l1)≤n1:=by have:=yK (s:=s) hnn1;omega
 have hb2:yp (yf t l2)≤n2:=by have:=yK (s:=t) hnn2;omega
 refine ze<|za<|zI rfl rfl (zR rfl rfl) (fun b1=> ?_)
 refine zI rfl rfl (zr zr32 rfl) (fun b2=> ?_)
 refine zf<|zd<|ze<|ze<|za<|e_ru (zc 1 ty32 rfl rfl (.t4 .nil))<|zJ rfl rfl (.c rfl .n) ce96 (zsd (s:=s) (p1:=p1) (n1:=n1) (c1:=c1) (l1:=l1) (t:=t) (p2:=p2) (n2:=n2) (c2:=c2) (l2:=l2) (hn1:=ass) (hn2:=ass) (hm1:=ass) (hm2:=ass)) (.c (j:=0) rfl (.c (j:=1) rfl .n))<|zf<|zd<|zG rfl (fun hq=> ?_) (fun hq=> ?_)
 ·
  have hrp:=Big.raw_parts (x:=((s,l1),(t,l2))) hnn1 hnn2 hq
  have hqp:=Big.qv_parts (x:=((s,l1),(t,l2))) hq
  have hl:yO (yT ((s,l1),(t,l2)))≤1099511627776:=by unfold yO;rw [hqp.1,hqp.2];dsimp only;omega
  refine ze<|za<|e_ru (zc 1 ty32 rfl rfl (.t4 .nil))<|zm rfl rfl (.c rfl .n) ce120 (zse (s:=s) (p1:=p1) (n1:=n1) (c1:=c1) (l1:=l1) (t:=t) (p2:=p2) (n2:=n2) (c2:=c2) (l2:=l2) (hn1:=ass) (hn2:=ass) (hm1:=ass) (hm2:=ass) (hq:=by first|rfl|assumption|omega|(rw [yq];omega)|(decide +kernel)) (hl:=by first|rfl|assumption|omega|(rw [yq];omega)|(decide +kernel))) (.c (j:=0) rfl (.c (j:=1) rfl .n)) ?_
  rintro ⟨w33,w44⟩ -
  dsimp only [aq,nq,cq]
  refine zj 0 rfl rfl rfl rfl rfl sz32 rfl (.t4 .nil) .z<|zf<|zd<|zC<|zk ?_
  exact zu Tryz.results97 (w33,w44) trivial (zo 0 ty32 rfl rfl (.t4 .nil)) rfl (ho:=oN) (s0 rfl)
 ·
  have hz:=Big.qv_not (x:=((s,l1),(t,l2))) hq
  refine zB<|zd<|ze<|za<|zm rfl rfl (.c rfl .n) ce58 (zxa (z:=0) (hz:=by first|rfl|assumption|omega|(rw [yq];omega)|(decide +kernel))) (.n) ?_
  rintro ⟨w35,w46⟩ -
  dsimp only [aq,nq,cq]
  refine zj 0 rfl rfl rfl rfl rfl sz32 rfl (.t4 .nil) .z<|zf<|zd<|zC ?_
  exact zu Tryz.results97 (w35,w46) trivial (zo 0 ty32 rfl rfl (.t4 .nil)) rfl (ho:=oN) ((.e (j:=0) rfl (by rw [hz];rfl) .n):SelR _ _ _)
theorem zya {k1:Bool} {u1:Wd} {v1:Wd} {q1:Rat}:Con yl 97 [.agg #[u1.b,u1.l,v1.b,v1.l]] [] [qF k1 u1 v1 (q1)] (Y:=(Wd)×(Wd)) (fun y=>True) (fun y=> .agg #[y.1.b,y.1.l,y.2.b,y.2.l]) (fun y=>[]) (fun y=>[qF true y.1 y.2 (q1)]):=by
  exact zwf (fun x hx hk h1 h2 hl=>by subst hx;exact zaf rfl rfl h1 h2)
theorem zFb {k1:Bool} {u1:Wd} {v1:Wd} {q1:Rat}:Con yl 98 [.agg #[u1.b,u1.l,v1.b,v1.l]] [] [qF k1 u1 v1 q1] (Y:=Unit) (fun y=>True) (fun y=> ya yb (Big.sgq q1)) (fun y=>[]) (fun y=>[]):=by
 refine zl Tryz.func98 rfl rfl rfl (fun c=> ?_)
 show RunC _ _ _ _ _ [(0,.agg #[u1.b,u1.l,v1.b,v1.l])] [] [qF k1 u1 v1 q1]
 refine ze<|za<|zI rfl rfl (zR rfl rfl) (fun b1=> ?_)
 refine e_p (zb rfl)<|zf<|zd<|ze<|za<|e_ru (zc 0 ty32 rfl rfl (.t4 .nil))<|zm rfl rfl (.c rfl .n) ce97 (zya (k1:=k1) (u1:=u1) (v1:=v1) (q1:=q1)) (.c (j:=0) rfl .n) ?_
 rintro ⟨w32,w43⟩ -
 dsimp only [aq,nq,cq]
 refine e_p (zIc yk rfl ty30 rfl (.t2 .nil))<|zmc (qF_open 0 rfl) (fun _ _=> ?_)
 refine zJ rfl rfl (.c rfl .n) ce118 (zuc (w1:=w32) (x1:=(q1).num)) (.c (j:=0) rfl .n)<|e_p (zb rfl)<|zf<|zd<|zC ?_
 exact zu Tryz.results98 () trivial (zn rfl) rfl (ho:=oN) sN
theorem zbg {k1:Bool} {u1:Wd} {v1:Wd} {q1:Rat} (hl:yO q1≤1099511627776):Con yl 114 [.agg #[u1.b,u1.l,v1.b,v1.l]] [] [qF k1 u1 v1 q1] (Y:=Wd×Wd) (fun y=>True) (fun y=> .agg #[y.1.b,y.1.l,y.2.b,y.2.l]) (fun y=>[]) (fun y=>[qF true y.1 y.2 (- q1)]):=by
 refine zl Tryz.func114 rfl rfl rfl (fun c=> ?_)
 show RunC _ _ _ _ _ [(0,.agg #[u1.b,u1.l,v1.b,v1.l])] [] [qF k1 u1 v1 q1]
 have a1:=yB q1
 have a2:=yC q1
 refine ze<|za<|zI rfl rfl (zR rfl rfl) (fun b1=> ?_)
 refine zI rfl rfl (zr zr32 rfl) (fun b2=> ?_)
 refine zf<|zd<|ze<|za<|e_ru (zc 1 ty32 rfl rfl (.t4 .nil))<|zm rfl rfl (.c rfl .n) ce97 (zya (k1:=k1) (u1:=u1) (v1:=v1) (q1:=q1)) (.c (j:=0) rfl .n) ?_
 rintro ⟨w33,w44⟩ -
 dsimp only [aq,nq,cq]
 refine zj 1 rfl rfl rfl rfl rfl sz32 rfl (.t4 .nil) (.s .z)<|zf<|zd<|ze<|zV (OW:=[boxA b2 32 (cw [wz,wz])]) (O:=[boxA b1 32 (cw [w33,w44])]) 6 mixed (.then .ret) kr<|e_pv 0 rfl rfl (zg yk rfl sz30 rfl rfl)<|e_uw 1 rfl rfl (zc 1 ty30 rfl rfl (.t2 .nil))<|e_pv 3 rfl rfl (zg yk rfl sz30 rfl rfl)<|e_uw 4 rfl rfl (zc 1 ty30 rfl rfl (.s2 (.t2 .nil)))<|zDb (qF_open 0 rfl) (fun _ _=> ?_)
 refine e_one 2 (zp rfl rfl rfl rfl (.c rfl .n) ce136 (zGd (w1:=w33) (x1:=(q1).num) (hln:=by first|rfl|assumption|omega|(rw [yq];omega)|(decide +kernel))) (.c (j:=0) rfl .n) ?_)
 rintro w35 -
 dsimp only [aq,nq,cq]
 refine e_pv 5 rfl rfl (zN zr32 rfl yk (.c sz30 (.c sz30 .n)) (.c rfl (.c rfl .n)) (.c rfl rfl rfl (.t2 .nil) (.c rfl rfl rfl (.s2 (.t2 .nil)) .n)))<|e_one 6 (zv kr rfl rfl rfl rfl rfl sz32 rfl (.t4 .nil) ?_)
 refine zH kr<|zd<|zC<|znb (qF true w35 w44 (- q1)) (qF_close 0 2 rfl rfl (by exact ⟨(Rat.neg_num q1).symm,by rw [Rat.neg_den],by rw [Big.hq_neg];exact hl⟩)) ?_
 exact zu Tryz.results114 (w35,w44) trivial (zo 0 ty32 rfl rfl (.t4 .nil)) rfl (ho:=oN) (s0 rfl)
theorem zvc {k1:Bool} {u1:Wd} {v1:Wd} {q1:Rat} {k2:Bool} {u2:Wd} {v2:Wd} {q2:Rat} (hl:yO q1+yO q2+1≤1099511627776):Con yl 102 [.agg #[u1.b,u1.l,v1.b,v1.l],.agg #[u2.b,u2.l,v2.b,v2.l]] [] [qF k1 u1 v1 q1,qF k2 u2 v2 q2] (Y:=Wd×Wd) (fun y=>True) (fun y=> .agg #[y.1.b,y.1.l,y.2.b,y.2.l]) (fun y=>[]) (fun y=>[qF true y.1 y.2 (q1+q2)]):=by
 refine zl Tryz.func102 rfl rfl rfl (fun c=> ?_)
 show RunC _ _ _ _ _ [(0,.agg #[u1.b,u1.l,v1.b,v1.l]),(1,.agg #[u2.b,u2.l,v2.b,v2.l])] [] [qF k1 u1 v1 q1,qF k2 u2 v2 q2]
 have a1:=yB q1
 have a2:=yC q1
 have a3:=yB q2
 have a4:=yC q2
 have b1:=yG q1.num q2.den
 have b2:=yG q2.num q1.den
 have b3:=Big.zvb (q1.num*q2.den) (q2.num*q1.den)
 have b4:=yG (q1.den:Int) q2.den
 have b5:=yG q1.num q2.num
 refine ze<|za<|zI rfl rfl (zR rfl rfl) (fun b1=> ?_)
 refine zI rfl rfl (zR rfl rfl) (fun b2=> ?_)
 refine zI rfl rfl (zr zr32 rfl) (fun b3=> ?_)
 refine zf<|zd<|ze<|zqa (.c (i:=2) rfl (.c (i:=1) rfl (.c (i:=0) rfl .n)))<|zV (OW:=[boxA b1 32 (cw [u1,v1]),boxA b2 32 (cw [u2,v2])]) (O:=[boxA b3 32 (cw [wz,wz])]) 4 mixed (.then .ret) kr<|e_uw 0 rfl rfl (zc 0 ty32 rfl rfl (.t4 .nil))<|e_uw 2 rfl rfl (zc 1 ty32 rfl rfl (.t4 .nil))<|e_one 1 (zp rfl rfl rfl rfl (.c rfl .n) ce97 (zya (k1:=k1) (u1:=u1) (v1:=v1) (q1:=q1)) (.c (j:=0) rfl .n) ?_)
 rintro ⟨w34,w45⟩ -
 dsimp only [aq,nq,cq]
 refine e_one 3 (zp rfl rfl rfl rfl (.c rfl .n) ce97 (zya (k1:=k2) (u1:=u2) (v1:=v2) (q1:=q2)) (.c (j:=2) rfl .n) ?_)
 rintro ⟨w36,w47⟩ -
 dsimp only [aq,nq,cq]
 refine e_one 4 (zv kr rfl rfl rfl rfl rfl sz32 rfl (.t4 .nil) ?_)
 refine zza (zea (i:=1) rfl)<|e_one 5 (zv kr rfl rfl rfl rfl rfl sz32 rfl (.t4 .nil) ?_)
 refine zH kr<|zd<|ze<|zqa (.c (i:=2) rfl (.c (i:=0) rfl (.c (i:=0) rfl .n)))<|zV (OW:=[boxA b3 32 (cw [wz,wz])]) (O:=[boxA b2 32 (cw [w36,w47]),boxA b1 32 (cw [w34,w45])]) 17 mixed (.then .ret) kr<|e_pv 0 rfl rfl (zg yk rfl sz30 rfl rfl)<|e_uw 1 rfl rfl (zc 2 ty30 rfl rfl (.t2 .nil))<|e_pv 2 rfl rfl (zg yk rfl sz30 rfl rfl)<|e_uw 3 rfl rfl (zc 1 ty30 rfl rfl (.s2 (.t2 .nil)))<|e_pv 5 rfl rfl (zg yk rfl sz30 rfl rfl)<|e_uw 6 rfl rfl (zc 1 ty30 rfl rfl (.t2 .nil))<|e_pv 7 rfl rfl (zg yk rfl sz30 rfl rfl)<|e_uw 8 rfl rfl (zc 2 ty30 rfl rfl (.s2 (.t2 .nil)))<|e_pv 11 rfl rfl (zg yk rfl sz30 rfl rfl)<|e_uw 12 rfl rfl (zc 2 ty30 rfl rfl (.s2 (.t2 .nil)))<|e_pv 13 rfl rfl (zg yk rfl sz30 rfl rfl)<|e_uw 14 rfl rfl (zc 1 ty30 rfl rfl (.s2 (.t2 .nil)))<|zDb (qF_open 1 rfl) (fun _ _=> ?_)
 refine zDb (qF_open 2 rfl) (fun _ _=> ?_)
 refine e_one 4 (zp rfl rfl rfl rfl (.c rfl (.c rfl .n)) ce100 (zrb (w1:=w34) (w2:=w47) (x1:=(q1).num) (x2:=(((q2).den:Nat):Int)) (hb1:=by first|rfl|assumption|omega|(rw [yq];omega)|(decide +kernel)) (hb2:=by first|rfl|assumption|omega|(rw [yq];omega)|(decide +kernel))) (.c (j:=2) rfl (.c (j:=1) rfl .n)) ?_)
 rintro w38 -
 dsimp only [aq,nq,cq]
 refine e_one 9 (zp rfl rfl rfl rfl (.c rfl (.c rfl .n)) ce100 (zrb (w1:=w36) (w2:=w45) (x1:=(q2).num) (x2:=(((q1).den:Nat):Int)) (hb1:=by first|rfl|assumption|omega|(rw [yq];omega)|(decide +kernel)) (hb2:=by first|rfl|assumption|omega|(rw [yq];omega)|(decide +kernel))) (.c (j:=1) rfl (.c (j:=4) rfl .n)) ?_)
 rintro w39 -
 dsimp only [aq,nq,cq]
 refine e_one 10 (zp rfl rfl rfl rfl (.c rfl (.c rfl .n)) ce125 (zXf (w1:=w38) (w2:=w39) (x1:=((q1).num)*(((q2).den:Nat):Int)) (x2:=((q2).num)*(((q1).den:Nat):Int)) (hb1:=by first|rfl|assumption|omega|(rw [yq];omega)|(decide +kernel)) (hb2:=by first|rfl|assumption|omega|(rw [yq];omega)|(decide +kernel))) (.c (j:=1) rfl (.c (j:=0) rfl .n)) ?_)
 rintro w310 -
 dsimp only [aq,nq,cq]
 refine e_one 15 (zp rfl rfl rfl rfl (.c rfl (.c rfl .n)) ce100 (zrb (w1:=w45) (w2:=w47) (x1:=(((q1).den:Nat):Int)) (x2:=(((q2).den:Nat):Int)) (hb1:=by first|rfl|assumption|omega|(rw [yq];omega)|(decide +kernel)) (hb2:=by first|rfl|assumption|omega|(rw [yq];omega)|(decide +kernel))) (.c (j:=6) rfl (.c (j:=4) rfl .n)) ?_)
 rintro w311 -
 dsimp only [aq,nq,cq]
 refine e_one 16 (zp rfl rfl rfl rfl (.c rfl (.c rfl .n)) ce113 (zMb (w1:=w310) (w2:=w311) (x1:=(((q1).num)*(((q2).den:Nat):Int))+(((q2).num)*(((q1).den:Nat):Int))) (x2:=(((q1).den:Nat):Int)*(((q2).den:Nat):Int)) (hl1:=by first|rfl|assumption|omega|(rw [yq];omega)|(decide +kernel)) (hl2:=by first|rfl|assumption|omega|(rw [yq];omega)|(decide +kernel)) (hd:=by exact Int.mul_ne_zero (yV q1) (yV q2))) (.c (j:=1) rfl (.c (j:=0) rfl .n)) ?_)
 rintro ⟨w312,w413⟩ -
 dsimp only [aq,nq,cq]
 refine e_one 17 (zv kr rfl rfl rfl rfl rfl sz32 rfl (.t4 .nil) ?_)
 refine zH kr<|zd<|zC ?_
 exact zu Tryz.results102 (w312,w413) trivial (zo 0 ty32 rfl rfl (.t4 .nil)) rfl (ho:=oN) ((.e (j:=0) rfl (by rw [Big.add_parts]) .n):SelR _ _ _)
theorem zWc {k1:Bool} {u1:Wd} {v1:Wd} {q1:Rat} {k2:Bool} {u2:Wd} {v2:Wd} {q2:Rat} (hl:yO q1+yO q2+1≤1099511627776):Con yl 89 [.agg #[u1.b,u1.l,v1.b,v1.l],.agg #[u2.b,u2.l,v2.b,v2.l]] [] [qF k1 u1 v1 q1,qF k2 u2 v2 q2] (Y:=Wd×Wd) (fun y=>True) (fun y=> .agg #[y.1.b,y.1.l,y.2.b,y.2.l]) (fun y=>[]) (fun y=>[qF true y.1 y.2 (q1*q2)]):=by
 refine zl Tryz.func89 rfl rfl rfl (fun c=> ?_)
 show RunC _ _ _ _ _ [(0,.agg #[u1.b,u1.l,v1.b,v1.l]),(1,.agg #[u2.b,u2.l,v2.b,v2.l])] [] [qF k1 u1 v1 q1,qF k2 u2 v2 q2]
 have a1:=yB q1
 have a2:=yC q1
 have a3:=yB q2
 have a4:=yC q2
 have b1:=yG q1.num q2.den
 have b2:=yG q2.num q1.den
 have b3:=Big.zvb (q1.num*q2.den) (q2.num*q1.den)
 have b4:=yG (q1.den:Int) q2.den
 have b5:=yG q1.num q2.num
 refine ze<|za<|zI rfl rfl (zR rfl rfl) (fun b1=> ?_)
 refine zI rfl rfl (zR rfl rfl) (fun b2=> ?_)
 refine zI rfl rfl (zr zr32 rfl) (fun b3=> ?_)
 refine zf<|zd<|ze<|zqa (.c (i:=2) rfl (.c (i:=1) rfl (.c (i:=0) rfl .n)))<|zV (OW:=[boxA b1 32 (cw [u1,v1]),boxA b2 32 (cw [u2,v2])]) (O:=[boxA b3 32 (cw [wz,wz])]) 4 mixed (.then .ret) kr<|e_uw 0 rfl rfl (zc 0 ty32 rfl rfl (.t4 .nil))<|e_uw 2 rfl rfl (zc 1 ty32 rfl rfl (.t4 .nil))<|e_one 1 (zp rfl rfl rfl rfl (.c rfl .n) ce97 (zya (k1:=k1) (u1:=u1) (v1:=v1) (q1:=q1)) (.c (j:=0) rfl .n) ?_)
 rintro ⟨w34,w45⟩ -
 dsimp only [aq,nq,cq]
 refine e_one 3 (zp rfl rfl rfl rfl (.c rfl .n) ce97 (zya (k1:=k2) (u1:=u2) (v1:=v2) (q1:=q2)) (.c (j:=2) rfl .n) ?_)
 rintro ⟨w36,w47⟩ -
 dsimp only [aq,nq,cq]
 refine e_one 4 (zv kr rfl rfl rfl rfl rfl sz32 rfl (.t4 .nil) ?_)
 refine zza (zea (i:=1) rfl)<|e_one 5 (zv kr rfl rfl rfl rfl rfl sz32 rfl (.t4 .nil) ?_)
 refine zH kr<|zd<|ze<|zqa (.c (i:=2) rfl (.c (i:=0) rfl (.c (i:=0) rfl .n)))<|zV (OW:=[boxA b3 32 (cw [wz,wz])]) (O:=[boxA b2 32 (cw [w36,w47]),boxA b1 32 (cw [w34,w45])]) 11 mixed (.then .ret) kr<|e_pv 0 rfl rfl (zg yk rfl sz30 rfl rfl)<|e_uw 1 rfl rfl (zc 2 ty30 rfl rfl (.t2 .nil))<|e_pv 2 rfl rfl (zg yk rfl sz30 rfl rfl)<|e_uw 3 rfl rfl (zc 1 ty30 rfl rfl (.t2 .nil))<|e_pv 5 rfl rfl (zg yk rfl sz30 rfl rfl)<|e_uw 6 rfl rfl (zc 2 ty30 rfl rfl (.s2 (.t2 .nil)))<|e_pv 7 rfl rfl (zg yk rfl sz30 rfl rfl)<|e_uw 8 rfl rfl (zc 1 ty30 rfl rfl (.s2 (.t2 .nil)))<|zDb (qF_open 1 rfl) (fun _ _=> ?_)
 refine zDb (qF_open 2 rfl) (fun _ _=> ?_)
 refine e_one 4 (zp rfl rfl rfl rfl (.c rfl (.c rfl .n)) ce100 (zrb (w1:=w34) (w2:=w36) (x1:=(q1).num) (x2:=(q2).num) (hb1:=by first|rfl|assumption|omega|(rw [yq];omega)|(decide +kernel)) (hb2:=by first|rfl|assumption|omega|(rw [yq];omega)|(decide +kernel))) (.c (j:=2) rfl (.c (j:=0) rfl .n)) ?_)
 rintro w38 -
 dsimp only [aq,nq,cq]
 refine e_one 9 (zp rfl rfl rfl rfl (.c rfl (.c rfl .n)) ce100 (zrb (w1:=w45) (w2:=w47) (x1:=(((q1).den:Nat):Int)) (x2:=(((q2).den:Nat):Int)) (hb1:=by first|rfl|assumption|omega|(rw [yq];omega)|(decide +kernel)) (hb2:=by first|rfl|assumption|omega|(rw [yq];omega)|(decide +kernel))) (.c (j:=4) rfl (.c (j:=2) rfl .n)) ?_)
 rintro w39 -
 dsimp only [aq,nq,cq]
 refine e_one 10 (zp rfl rfl rfl rfl (.c rfl (.c rfl .n)) ce113 (zMb (w1:=w38) (w2:=w39) (x1:=((q1).num)*((q2).num)) (x2:=(((q1).den:Nat):Int)*(((q2).den:Nat):Int)) (hl1:=by first|rfl|assumption|omega|(rw [yq];omega)|(decide +kernel)) (hl2:=by first|rfl|assumption|omega|(rw [yq];omega)|(decide +kernel)) (hd:=by exact Int.mul_ne_zero (yV q1) (yV q2))) (.c (j:=1) rfl (.c (j:=0) rfl .n)) ?_)
 rintro ⟨w310,w411⟩ -
 dsimp only [aq,nq,cq]
 refine e_one 11 (zv kr rfl rfl rfl rfl rfl sz32 rfl (.t4 .nil) ?_)
 refine zH kr<|zd<|zC ?_
 exact zu Tryz.results89 (w310,w411) trivial (zo 0 ty32 rfl rfl (.t4 .nil)) rfl (ho:=oN) ((.e (j:=0) rfl (by rw [Big.mul_parts]) .n):SelR _ _ _)
theorem zcg {k1:Bool} {u1:Wd} {v1:Wd} {q1:Rat} {k2:Bool} {u2:Wd} {v2:Wd} {q2:Rat} (hl:yO q1+yO q2+1≤1099511627776):Con yl 90 [.agg #[u1.b,u1.l,v1.b,v1.l],.agg #[u2.b,u2.l,v2.b,v2.l]] [] [qF k1 u1 v1 q1,qF k2 u2 v2 q2] (Y:=Wd×Wd) (fun y=>True) (fun y=> .agg #[y.1.b,y.1.l,y.2.b,y.2.l]) (fun y=>[]) (fun y=>[qF true y.1 y.2 (q1 - q2)]):=by
 refine zl Tryz.func90 rfl rfl rfl (fun c=> ?_)
 show RunC _ _ _ _ _ [(0,.agg #[u1.b,u1.l,v1.b,v1.l]),(1,.agg #[u2.b,u2.l,v2.b,v2.l])] [] [qF k1 u1 v1 q1,qF k2 u2 v2 q2]
 have a1:=yB q1
 have a2:=yC q1
 have a3:=yB q2
 have a4:=yC q2
 refine ze<|za<|zI rfl rfl (zR rfl rfl) (fun b1=> ?_)
 refine zI rfl rfl (zR rfl rfl) (fun b2=> ?_)
 refine zI rfl rfl (zr zr32 rfl) (fun b3=> ?_)
 refine zf<|zd<|ze<|zV (OW:=[boxA b3 32 (cw [wz,wz])]) (O:=[boxA b2 32 (cw [u2,v2]),boxA b1 32 (cw [u1,v1])]) 4 mixed (.then .ret) kr<|e_uw 0 rfl rfl (zc 2 ty32 rfl rfl (.t4 .nil))<|e_uw 1 rfl rfl (zc 1 ty32 rfl rfl (.t4 .nil))<|e_one 2 (zp rfl rfl rfl rfl (.c rfl .n) ce114 (zbg (k1:=k2) (u1:=u2) (v1:=v2) (q1:=q2) (hl:=by first|rfl|assumption|omega|(rw [yq];omega)|(decide +kernel)|(rw [Big.hq_neg];omega))) (.c (j:=1) rfl .n) ?_)
 rintro ⟨w34,w45⟩ -
 dsimp only [aq,nq,cq]
 refine e_one 3 (zp rfl rfl rfl rfl (.c rfl (.c rfl .n)) ce102 (zvc (k1:=k1) (u1:=u1) (v1:=v1) (q1:=q1) (k2:=true) (u2:=w34) (v2:=w45) (q2:= - q2) (hl:=by first|rfl|assumption|omega|(rw [yq];omega)|(decide +kernel)|(rw [Big.hq_neg];omega))) (.c (j:=1) rfl (.c (j:=0) rfl .n)) ?_)
 rintro ⟨w36,w47⟩ -
 dsimp only [aq,nq,cq]
 refine e_one 4 (zv kr rfl rfl rfl rfl rfl sz32 rfl (.t4 .nil) ?_)
 refine zH kr<|zd<|zC ?_
 exact zu Tryz.results90 (w36,w47) trivial (zo 0 ty32 rfl rfl (.t4 .nil)) rfl (ho:=oN) ((.e (j:=0) rfl (by rw [Rat.sub_eq_add_neg]) .n):SelR _ _ _)
theorem zOc {k1:Bool} {u1:Wd} {v1:Wd} {q1:Rat} {k2:Bool} {u2:Wd} {v2:Wd} {q2:Rat} (hl:yO q1+yO q2+1≤1099511627776):Con yl 68 [.agg #[u1.b,u1.l,v1.b,v1.l],.agg #[u2.b,u2.l,v2.b,v2.l]] [] [qF k1 u1 v1 q1,qF k2 u2 v2 q2] (Y:=Unit) (fun y=>True) (fun y=> ya yb (Big.sgq (q1 - q2))) (fun y=>[]) (fun y=>[]):=by
 refine zl Tryz.func68 rfl rfl rfl (fun c=> ?_)
 show RunC _ _ _ _ _ [(0,.agg #[u1.b,u1.l,v1.b,v1.l]),(1,.agg #[u2.b,u2.l,v2.b,v2.l])] [] [qF k1 u1 v1 q1,qF k2 u2 v2 q2]
 have a1:=yB q1
 have a2:=yC q1
 have a3:=yB q2
 have a4:=yC q2
 have b1:=yG q1.num q2.den
 have b2:=yG q2.num q1.den
 have b3:=Big.zvb (q1.num*q2.den) (q2.num*q1.den)
 have b4:=yG (q1.den:Int) q2.den
 have b5:=yG q1.num q2.num
 refine ze<|za<|zI rfl rfl (zR rfl rfl) (fun b1=> ?_)
 refine zI rfl rfl (zR rfl rfl) (fun b2=> ?_)
 refine e_p (zb rfl)<|zf<|zd<|ze<|zqa (.c (i:=1) rfl (.c (i:=0) rfl .n))<|zV (OW:=[boxA b1 32 (cw [u1,v1]),boxA b2 32 (cw [u2,v2])]) (O:=[]) 4 mixed (.then .ret) kr<|e_uw 0 rfl rfl (zc 0 ty32 rfl rfl (.t4 .nil))<|e_uw 2 rfl rfl (zc 1 ty32 rfl rfl (.t4 .nil))<|e_one 1 (zp rfl rfl rfl rfl (.c rfl .n) ce97 (zya (k1:=k1) (u1:=u1) (v1:=v1) (q1:=q1)) (.c (j:=0) rfl .n) ?_)
 rintro ⟨w33,w44⟩ -
 dsimp only [aq,nq,cq]
 refine e_one 3 (zp rfl rfl rfl rfl (.c rfl .n) ce97 (zya (k1:=k2) (u1:=u2) (v1:=v2) (q1:=q2)) (.c (j:=2) rfl .n) ?_)
 rintro ⟨w35,w46⟩ -
 dsimp only [aq,nq,cq]
 refine e_one 4 (zv kr rfl rfl rfl rfl rfl sz32 rfl (.t4 .nil) ?_)
 refine zza (zea (i:=1) rfl)<|e_one 5 (zv kr rfl rfl rfl rfl rfl sz32 rfl (.t4 .nil) ?_)
 refine zH kr<|zd<|ze<|zV (OW:=[]) (O:=[boxA b2 32 (cw [w35,w46]),boxA b1 32 (cw [w33,w44])]) 100000 mixed (.then .ret) kr<|e_pv 0 rfl rfl (zg yk rfl sz30 rfl rfl)<|e_u 1 rfl rfl (zc 1 ty30 rfl rfl (.t2 .nil))<|e_pv 2 rfl rfl (zg yk rfl sz30 rfl rfl)<|e_u 3 rfl rfl (zc 0 ty30 rfl rfl (.s2 (.t2 .nil)))<|e_pv 5 rfl rfl (zg yk rfl sz30 rfl rfl)<|e_u 6 rfl rfl (zc 0 ty30 rfl rfl (.t2 .nil))<|e_pv 7 rfl rfl (zg yk rfl sz30 rfl rfl)<|e_u 8 rfl rfl (zc 1 ty30 rfl rfl (.s2 (.t2 .nil)))<|zDb (qF_open 1 rfl) (fun _ _=> ?_)
 refine zDb (qF_open 2 rfl) (fun _ _=> ?_)
 refine e_one 4 (zp rfl rfl rfl rfl (.c rfl (.c rfl .n)) ce100 (zrb (w1:=w33) (w2:=w46) (x1:=(q1).num) (x2:=(((q2).den:Nat):Int)) (hb1:=by first|rfl|assumption|omega|(rw [yq];omega)|(decide +kernel)) (hb2:=by first|rfl|assumption|omega|(rw [yq];omega)|(decide +kernel))) (.c (j:=2) rfl (.c (j:=1) rfl .n)) ?_)
 rintro w37 -
 dsimp only [aq,nq,cq]
 refine e_one 9 (zp rfl rfl rfl rfl (.c rfl (.c rfl .n)) ce100 (zrb (w1:=w35) (w2:=w44) (x1:=(q2).num) (x2:=(((q1).den:Nat):Int)) (hb1:=by first|rfl|assumption|omega|(rw [yq];omega)|(decide +kernel)) (hb2:=by first|rfl|assumption|omega|(rw [yq];omega)|(decide +kernel))) (.c (j:=1) rfl (.c (j:=4) rfl .n)) ?_)
 rintro w38 -
 dsimp only [aq,nq,cq]
 refine e_one 10 (zbb rfl rfl rfl rfl (.c rfl (.c rfl .n)) ce99 (zWd (w1:=w37) (w2:=w38) (x1:=((q1).num)*(((q2).den:Nat):Int)) (x2:=((q2).num)*(((q1).den:Nat):Int))) (.c (j:=1) rfl (.c (j:=0) rfl .n)) ?_)
 refine e_pv 11 rfl rfl (zb rfl)<|zH kr<|zd<|zC ?_
 exact zu Tryz.results68 () trivial (zn rfl) (by rw [Big.cmp_rat]) (ho:=oN) sN
theorem zhd {w1:Wd} {x1:Int}:Con yl 132 [.agg #[w1.b,w1.l]] [] [zF w1 x1] (Y:=Wd) (fun y=>True) (fun y=> .agg #[y.b,y.l]) (fun y=>[]) (fun y=>[zF y x1]):=by
 refine zl Tryz.func132 rfl rfl rfl (fun c=> ?_)
 show RunC _ _ _ _ _ [(0,.agg #[w1.b,w1.l])] [] [zF w1 x1]
 refine ze<|za<|zI rfl rfl (zR rfl rfl) (fun b1=> ?_)
 refine zI rfl rfl (zr zr30 rfl) (fun b2=> ?_)
 refine zf<|zd<|ze<|ze<|za<|e_ru (zc 1 ty30 rfl rfl (.t2 .nil))<|zJ rfl rfl (.c rfl .n) ce117 (zXe (w1:=w1) (x1:=x1)) (.c (j:=0) rfl .n)<|zf<|zd<|zlb rfl rfl<|ze<|za<|e_ru (zc 1 ty30 rfl rfl (.t2 .nil))<|zj 0 rfl rfl rfl rfl rfl sz30 rfl (.t2 .nil) .z<|zf<|zd<|zC<|zk ?_
 exact zu Tryz.results132 w1 trivial (zo 0 ty30 rfl rfl (.t2 .nil)) rfl (ho:=oN) (s0 rfl)
theorem zKg {w1:Wd} {w2:Wd} {x1:Int} {x2:Int} (hl1:yp x1≤1099511627776) (hl2:yp x2≤1099511627776):Con yl 108 [.agg #[w1.b,w1.l],.agg #[w2.b,w2.l]] [] [zF w1 x1,zF w2 x2] (Y:=Wd×Wd) (fun y=>True) (fun y=> .tuple #[.agg #[y.1.b,y.1.l,y.2.b,y.2.l],ya yb (if x2=0 then 14 else 0)]) (fun y=>[]) (fun y=>[qF (decide (x2≠0)) y.1 y.2 (Rat.divInt x1 x2)]):=by
 refine zl Tryz.func108 rfl rfl rfl (fun c=> ?_)
 show RunC _ _ _ _ _ [(0,.agg #[w1.b,w1.l]),(1,.agg #[w2.b,w2.l])] [] [zF w1 x1,zF w2 x2]
 refine ze<|za<|zI rfl rfl (zR rfl rfl) (fun b1=> ?_)
 refine zI rfl rfl (zR rfl rfl) (fun b2=> ?_)
 refine zI rfl rfl (zr zr32 rfl) (fun b3=> ?_)
 refine e_p (zb rfl)<|zf<|zd<|ze<|zqa (.c (i:=2) rfl (.c (i:=1) rfl (.c (i:=0) rfl .n)))<|zV (OW:=[boxA b1 30 [w1.b,w1.l],boxA b2 30 [w2.b,w2.l]]) (O:=[boxA b3 32 (cw [wz,wz])]) 4 mixed (.then .ret) kr<|e_uw 0 rfl rfl (zc 0 ty30 rfl rfl (.t2 .nil))<|e_uw 2 rfl rfl (zc 1 ty30 rfl rfl (.t2 .nil))<|e_one 1 (zp rfl rfl rfl rfl (.c rfl .n) ce132 (zhd (w1:=w1) (x1:=x1)) (.c (j:=0) rfl .n) ?_)
 rintro w34 -
 dsimp only [aq,nq,cq]
 refine e_one 3 (zp rfl rfl rfl rfl (.c rfl .n) ce132 (zhd (w1:=w2) (x1:=x2)) (.c (j:=2) rfl .n) ?_)
 rintro w35 -
 dsimp only [aq,nq,cq]
 refine e_one 4 (zv kr rfl rfl rfl rfl rfl sz30 rfl (.t2 .nil) ?_)
 refine zza (zea (i:=1) rfl)<|e_one 5 (zv kr rfl rfl rfl rfl rfl sz30 rfl (.t2 .nil) ?_)
 refine zH kr<|zd<|ze<|ze<|za<|e_ru (zc 0 ty30 rfl rfl (.t2 .nil))<|zJ rfl rfl (.c rfl .n) ce118 (zuc (w1:=w35) (x1:=x2)) (.c (j:=0) rfl .n)<|e_p (zwa rfl rfl)<|zf<|zd<|zG rfl (fun hz0=> ?_) (fun hz0=> ?_)
 ·
  have hx0:x2=0:=yR.1 hz0
  refine ze<|za<|e_p (zN zr32 rfl yk (.c sz30 (.c sz30 .n)) .n .n)<|zj 2 rfl rfl rfl rfl rfl sz32 rfl (.t4 .nil) (.s (.s .z))<|e_p (zb rfl)<|zf<|zd<|zC<|zk<|znb (qF false wz wz 0) (fun g _=>qF_none g) ?_
  exact zFa Tryz.results108 (wz,wz) trivial (zo 2 ty32 rfl rfl (.t4 .nil)) (zn rfl) (by rw [if_pos hx0];rfl) (ho:=oN) ((.e (j:=0) rfl (by rw [Big.divInt_nil hx0,decide_eq_false (not_not_intro hx0)]) .n):SelR _ _ _)
 ·
  have hx0:x2≠0:=fun e=>hz0 (yR.2 e)
  refine zB<|zd<|ze<|za<|e_ru (zc 1 ty30 rfl rfl (.t2 .nil))<|e_ru (zc 0 ty30 rfl rfl (.t2 .nil))<|zm rfl rfl (.c rfl (.c rfl .n)) ce113 (zMb (w1:=w34) (w2:=w35) (x1:=x1) (x2:=x2) (hl1:=ass) (hl2:=ass) (hd:=by first|rfl|assumption|omega|(rw [yq];omega)|(decide +kernel))) (.c (j:=1) rfl (.c (j:=0) rfl .n)) ?_
  rintro ⟨w36,w47⟩ -
  dsimp only [aq,nq,cq]
  refine zj 2 rfl rfl rfl rfl rfl sz32 rfl (.t4 .nil) (.s (.s .z))<|e_p (zb rfl)<|zf<|zd<|zC ?_
  exact zFa Tryz.results108 (w36,w47) trivial (zo 2 ty32 rfl rfl (.t4 .nil)) (zn rfl) (by rw [if_neg hx0]) (ho:=oN) ((.e (j:=0) rfl (by rw [decide_eq_true hx0]) .n):SelR _ _ _)
theorem zLg {z1:Int} {z2:Int} (hz1: -9223372036854775808≤z1∧z1≤9223372036854775807) (hz2: -9223372036854775808≤z2∧z2≤9223372036854775807):Con yl 79 [ya yb z1,ya yb z2] [] [] (Y:=Wd×Wd) (fun y=>True) (fun y=> .tuple #[.agg #[y.1.b,y.1.l,y.2.b,y.2.l],ya yb (if z2=0 then 14 else 0)]) (fun y=>[]) (fun y=>[qF (decide (z2≠0)) y.1 y.2 (Rat.divInt z1 z2)]):=by
 refine zl Tryz.func79 rfl rfl rfl (fun c=> ?_)
 show RunC _ _ _ _ _ [(0,ya yb z1),(1,ya yb z2)] [] []
 have g1:=Big.zSc hz1.1 hz1.2
 have g2:=Big.zSc hz2.1 hz2.2
 refine ze<|za<|zI rfl rfl (zr zr32 rfl) (fun b1=> ?_)
 refine e_p (zb rfl)<|zf<|zd<|ze<|za<|e_mv rfl<|zm rfl rfl (.c rfl .n) ce91 (zDd (z:=z1) (hz:=ass)) (.n) ?_
 rintro w32 -
 dsimp only [aq,nq,cq]
 refine e_mv rfl<|zm rfl rfl (.c rfl .n) ce91 (zDd (z:=z2) (hz:=ass)) (.n) ?_
 rintro w33 -
 dsimp only [aq,nq,cq]
 refine zm rfl rfl (.c rfl (.c rfl .n)) ce108 (zKg (w1:=w32) (w2:=w33) (x1:=z1) (x2:=z2) (hl1:=by first|rfl|assumption|omega|(rw [yq];omega)|(decide +kernel)) (hl2:=by first|rfl|assumption|omega|(rw [yq];omega)|(decide +kernel))) (.c (j:=1) rfl (.c (j:=0) rfl .n)) ?_
 rintro ⟨w34,w45⟩ -
 dsimp only [aq,nq,cq]
 refine e_p (zq rfl rfl)<|e_p (zq rfl rfl)<|zj 0 rfl rfl rfl rfl rfl sz32 rfl (.t4 .nil) .z<|e_p (zb rfl)<|zf<|zd<|zC ?_
 exact zFa Tryz.results79 (w34,w45) trivial (zo 0 ty32 rfl rfl (.t4 .nil)) (zn rfl) rfl (ho:=oN) (s0 rfl)
theorem zBf {z1:Int} {z2:Int} (hz1: -9223372036854775808≤z1∧z1≤9223372036854775807) (hz2: -9223372036854775808≤z2∧z2≤9223372036854775807) (hy:z2≠0):Con yl 79 [ya yb (z1),ya yb (z2)] [] [] (Y:=(Wd)×(Wd)) (fun y=>True) (fun y=> .tuple #[.agg #[y.1.b,y.1.l,y.2.b,y.2.l],ya yb (0)]) (fun y=>[]) (fun y=>[qF true y.1 y.2 (Rat.divInt z1 z2)]):=by
  have h:=zLg hz1 hz2
  rw [if_neg hy,decide_eq_true hy] at h
  exact h
theorem zte {k1:Bool} {u1:Wd} {v1:Wd} {q1:Rat} {k2:Bool} {u2:Wd} {v2:Wd} {q2:Rat} (hl:yO q1+yO q2+1≤1099511627776):Con yl 161 [.agg #[u1.b,u1.l,v1.b,v1.l],.agg #[u2.b,u2.l,v2.b,v2.l]] [] [qF k1 u1 v1 q1,qF k2 u2 v2 q2] (Y:=Wd×Wd) (fun y=>True) (fun y=> .tuple #[.agg #[y.1.b,y.1.l,y.2.b,y.2.l],ya yb (if q2=0 then 14 else 0)]) (fun y=>[]) (fun y=>[qF (decide (q2≠0)) y.1 y.2 (q1 / q2)]):=by
 refine zl Tryz.func161 rfl rfl rfl (fun c=> ?_)
 show RunC _ _ _ _ _ [(0,.agg #[u1.b,u1.l,v1.b,v1.l]),(1,.agg #[u2.b,u2.l,v2.b,v2.l])] [] [qF k1 u1 v1 q1,qF k2 u2 v2 q2]
 have a1:=yB q1
 have a2:=yC q1
 have a3:=yB q2
 have a4:=yC q2
 have b1:=yG q1.num q2.den
 have b2:=yG (q1.den:Int) q2.num
 refine ze<|za<|zI rfl rfl (zR rfl rfl) (fun b1=> ?_)
 refine zI rfl rfl (zR rfl rfl) (fun b2=> ?_)
 refine zI rfl rfl (zr zr32 rfl) (fun b3=> ?_)
 refine e_p (zb rfl)<|zf<|zd<|ze<|zqa (.c (i:=2) rfl (.c (i:=1) rfl (.c (i:=0) rfl .n)))<|zV (OW:=[boxA b1 32 (cw [u1,v1]),boxA b2 32 (cw [u2,v2])]) (O:=[boxA b3 32 (cw [wz,wz])]) 4 mixed (.then .ret) kr<|e_uw 0 rfl rfl (zc 0 ty32 rfl rfl (.t4 .nil))<|e_uw 2 rfl rfl (zc 1 ty32 rfl rfl (.t4 .nil))<|e_one 1 (zp rfl rfl rfl rfl (.c rfl .n) ce97 (zya (k1:=k1) (u1:=u1) (v1:=v1) (q1:=q1)) (.c (j:=0) rfl .n) ?_)
 rintro ⟨w34,w45⟩ -
 dsimp only [aq,nq,cq]
 refine e_one 3 (zp rfl rfl rfl rfl (.c rfl .n) ce97 (zya (k1:=k2) (u1:=u2) (v1:=v2) (q1:=q2)) (.c (j:=2) rfl .n) ?_)
 rintro ⟨w36,w47⟩ -
 dsimp only [aq,nq,cq]
 refine e_one 4 (zv kr rfl rfl rfl rfl rfl sz32 rfl (.t4 .nil) ?_)
 refine zza (zea (i:=1) rfl)<|e_one 5 (zv kr rfl rfl rfl rfl rfl sz32 rfl (.t4 .nil) ?_)
 refine zH kr<|zd<|ze<|ze<|za<|e_p (zg yk rfl sz30 rfl rfl)<|e_ru (zc 0 ty30 rfl rfl (.t2 .nil))<|zmc (qF_open 0 rfl) (fun _ _=> ?_)
 refine zJ rfl rfl (.c rfl .n) ce118 (zuc (w1:=w36) (x1:=(q2).num)) (.c (j:=0) rfl .n)<|e_p (zwa rfl rfl)<|zf<|zd<|zG rfl (fun hz0=> ?_) (fun hz0=> ?_)
 ·
  have hx0:q2=0:=Rat.num_eq_zero.1 (yR.1 hz0)
  refine ze<|za<|e_p (zN zr32 rfl yk (.c sz30 (.c sz30 .n)) .n .n)<|zj 2 rfl rfl rfl rfl rfl sz32 rfl (.t4 .nil) (.s (.s .z))<|e_p (zb rfl)<|zf<|zd<|zC<|zk<|znb (qF false wz wz 0) (fun g _=>qF_none g) ?_
  exact zFa Tryz.results161 (wz,wz) trivial (zo 2 ty32 rfl rfl (.t4 .nil)) (zn rfl) (by rw [if_pos hx0];rfl) (ho:=oN) ((.e (j:=0) rfl (by rw [Big.div_nil hx0,decide_eq_false (not_not_intro hx0)]) .n):SelR _ _ _)
 ·
  have hx1:q2.num≠0:=fun e=>hz0 (yR.2 e)
  have hx0:q2≠0:=fun e=>hx1 (Rat.num_eq_zero.2 e)
  refine zB<|zd<|ze<|zqa (.c (i:=2) rfl (.c (i:=0) rfl (.c (i:=0) rfl .n)))<|zV (OW:=[boxA b3 32 (cw [wz,wz])]) (O:=[boxA b2 32 (cw [w36,w47]),boxA b1 32 (cw [w34,w45])]) 11 mixed (.then .ret) kr<|e_pv 0 rfl rfl (zg yk rfl sz30 rfl rfl)<|e_uw 1 rfl rfl (zc 2 ty30 rfl rfl (.t2 .nil))<|e_pv 2 rfl rfl (zg yk rfl sz30 rfl rfl)<|e_uw 3 rfl rfl (zc 1 ty30 rfl rfl (.s2 (.t2 .nil)))<|e_pv 5 rfl rfl (zg yk rfl sz30 rfl rfl)<|e_uw 6 rfl rfl (zc 2 ty30 rfl rfl (.s2 (.t2 .nil)))<|e_pv 7 rfl rfl (zg yk rfl sz30 rfl rfl)<|e_uw 8 rfl rfl (zc 1 ty30 rfl rfl (.t2 .nil))<|zDb (qF_open 3 rfl) (fun _ _=> ?_)
  refine e_one 4 (zp rfl rfl rfl rfl (.c rfl (.c rfl .n)) ce100 (zrb (w1:=w34) (w2:=w47) (x1:=(q1).num) (x2:=(((q2).den:Nat):Int)) (hb1:=by first|rfl|assumption|omega|(rw [yq];omega)|(decide +kernel)) (hb2:=by first|rfl|assumption|omega|(rw [yq];omega)|(decide +kernel))) (.c (j:=0) rfl (.c (j:=3) rfl .n)) ?_)
  rintro w38 -
  dsimp only [aq,nq,cq]
  refine e_one 9 (zp rfl rfl rfl rfl (.c rfl (.c rfl .n)) ce100 (zrb (w1:=w45) (w2:=w36) (x1:=(((q1).den:Nat):Int)) (x2:=(q2).num) (hb1:=by first|rfl|assumption|omega|(rw [yq];omega)|(decide +kernel)) (hb2:=by first|rfl|assumption|omega|(rw [yq];omega)|(decide +kernel))) (.c (j:=2) rfl (.c (j:=3) rfl .n)) ?_)
  rintro w39 -
  dsimp only [aq,nq,cq]
  refine e_one 10 (zp rfl rfl rfl rfl (.c rfl (.c rfl .n)) ce113 (zMb (w1:=w38) (w2:=w39) (x1:=((q1).num)*(((q2).den:Nat):Int)) (x2:=(((q1).den:Nat):Int)*((q2).num)) (hl1:=by first|rfl|assumption|omega|(rw [yq];omega)|(decide +kernel)) (hl2:=by first|rfl|assumption|omega|(rw [yq];omega)|(decide +kernel)) (hd:=by exact Int.mul_ne_zero (yV q1) hx1)) (.c (j:=1) rfl (.c (j:=0) rfl .n)) ?_)
  rintro ⟨w310,w411⟩ -
  dsimp only [aq,nq,cq]
  refine e_one 11 (zv kr rfl rfl rfl rfl rfl sz32 rfl (.t4 .nil) ?_)
  refine e_pv 12 rfl rfl (zb rfl)<|zH kr<|zd<|zC ?_
  exact zFa Tryz.results161 (w310,w411) trivial (zo 0 ty32 rfl rfl (.t4 .nil)) (zn rfl) (by rw [if_neg hx0]) (ho:=oN) ((.e (j:=0) rfl (by rw [decide_eq_true hx0,Big.div_parts hx1]) .n):SelR _ _ _)
theorem zsb {k1:Bool} {u1:Wd} {v1:Wd} {q1:Rat} {k2:Bool} {u2:Wd} {v2:Wd} {q2:Rat} (hl:yO q1+yO q2+1≤1099511627776) (hy:q2≠0):Con yl 161 [.agg #[u1.b,u1.l,v1.b,v1.l],.agg #[u2.b,u2.l,v2.b,v2.l]] [] [qF k1 u1 v1 (q1),qF k2 u2 v2 (q2)] (Y:=(Wd)×(Wd)) (fun y=>True) (fun y=> .tuple #[.agg #[y.1.b,y.1.l,y.2.b,y.2.l],ya yb (0)]) (fun y=>[]) (fun y=>[qF true y.1 y.2 (q1 / q2)]):=by
  have h:= @zte k1 u1 v1 q1 k2 u2 v2 q2 hl
  rw [if_neg hy,decide_eq_true hy] at h
  exact h
end Go.Proofs.YtahiajepeodhoaaGreat.Sp
namespace Go.Proofs.YtahiajepeodhoaaGreat.Sp
open Go
set_option linter.unusedVariables false
set_option maxRecDepth 100000
set_option maxHeartbeats 8000000
theorem zKa {s:Bool} {p:Option Addr} {n:Nat} {cap:Nat} {l:List Int} (hn:l.length=n) (ho:yv l) (hln:n≤17592186044416):Con yl 85 [.bool s,.slice p n cap] [] [slF (rI .u32) p cap l] (Y:=(Option Addr)×Nat) (fun y=>True) (fun y=> .agg #[.bool (decide ((yD s (yj l))<0)),.slice (y.1) ((yd ((yD s (yj l)).natAbs)).length) (y.2)]) (fun y=>[]) (fun y=>[slF (rI .u32) (y.1) (y.2) (yd ((yD s (yj l)).natAbs))]):=by
 refine zl Tryz.func85 rfl rfl rfl (fun c=> ?_)
 show RunC _ _ _ _ _ [(0,.bool s),(1,.slice p n cap)] [] [slF (rI .u32) p cap l]
 refine zU 0 rfl (fun hL0=> ?_)
 refine ze<|za<|zI rfl rfl (zr zr30 rfl) (fun b1=> ?_)
 refine zf<|zd<|ze<|za<|e_mv rfl<|e_p (zK ye rfl)<|e_p (zb rfl)<|zf<|zd<|ze<|zx<|zja (X:=Nat) (fun x:Nat=>x≤n∧yr (l.take x)=yr l) (fun x=>[(5,ya yb ((x:Nat):Int)),(4,yc (some ⟨b1,0,none⟩)),(0,.bool s),(1,.slice p n cap)]) (fun x=>[boxA b1 30 [wz.b,wz.l]]) (fun x=>[slF (rI .u32) p cap l]) (fun x:Nat=>x) n (show n≤n∧yr (l.take n)=yr l from by exact ⟨by omega,by rw [List.take_of_length_le om]⟩) (mR rfl) (ho:=(o0 rfl)) (s0 rfl) ?_
 rintro k hI
 replace hI:k≤n∧yr (l.take k)=yr l:=hI
 try dsimp only
 obtain ⟨hk,hT⟩:=hI
 refine ze<|zOa (X:=Unit) (fun x=>True) (fun x=>[(17,.bool (decide (0<k∧l.getD (k - 1) 0=0))),(5,ya yb ((k:Nat):Int)),(4,yc (some ⟨b1,0,none⟩)),(0,.bool s),(1,.slice p n cap)]) (fun x=>[boxA b1 30 [wz.b,wz.l]]) (fun x=>[slF (rI .u32) p cap l]) ?_ ?_
 ·
  refine za<|e_mv rfl<|e_p (zCa rfl rfl)<|zha rfl rfl (zga rfl) (fun h2=> ?_) (fun h2=> ?_)
  ·
   refine e_mv rfl<|e_mv rfl<|e_p (zca (z:=(((k:Nat):Int) - 1)) rfl rfl (w64 om))<|zY (x0:=(l.getD ((((k:Nat):Int) - 1).toNat) 0)) 0 ((((k:Nat):Int) - 1).toNat) rfl ye sz84 rfl rfl rfl cbs rfl om (gD (d:=0) om) (fun b3 o4 hok5=> ?_)
   replace hok5:=zy.1 hok5
   refine e_ru (zt (j:=0) 0 ty84 rfl rfl rfl rfl)<|e_p (zwa rfl rfl)<|e_p (zE rfl rfl)<|zf ?_
   exact zT () tt9 ((.e rfl (congrArg Value.bool (by have h1:0<k:=om;have h2:((k:Int) - 1).toNat=k - 1:=om;simp [h1,h2])) (.of rfl)):SubM _ _) (ho:=(o0 rfl)) ((.c (j:=1) rfl .n):SelR _ _ _)
  ·
   refine e_no<|e_no<|e_no<|e_no<|e_no<|e_no<|e_p (zE rfl rfl)<|zf ?_
   exact zT () tt9 ((.e rfl (congrArg Value.bool (by have h1:¬0<k:=om;simp [h1])) (.of rfl)):SubM _ _) (ho:=(o0 rfl)) (s0 rfl)
 ·
  rintro ⟨⟩ -
  try dsimp only
  refine zG rfl (fun hc=> ?_) (fun hc=> ?_)
  ·
   refine zB<|zd<|zx<|za<|e_mv rfl<|e_p (zca (z:=(((k - 1):Nat):Int)) rfl rfl (w64 om))<|e_p (zb rfl)<|zf<|zP<|zda (k - 1) (show (k - 1)≤n∧yr (l.take (k - 1))=yr l from by exact ⟨by omega,by rw [← hT,Big.trim_go l hc.1 om hc.2]⟩) (by show k - 1<k;omega) ((.e rfl cgs (.of rfl)):SubM _ _) (ho:=(o0 rfl)) (s0 rfl)
  ·
   have htr:l.take k=yd (yD s (yj l)).natAbs:=by rw [Big.sg_abs (yE ho),←Big.digs_valL ho,←hT];exact (Big.trim_stop l om hc).symm
   have hlt:(l.take k).length=k:=by rw [List.length_take];omega
   have hsg:=Big.made_sign (s:=s) ho htr hlt
   refine zfa<|zi<|zi<|zw<|zd<|ze<|za<|e_mv rfl<|zOd rfl rfl (zga rfl) (fun hs=> ?_) (fun hs=> ?_)
   ·
    refine e_mv rfl<|e_p (zCa rfl rfl)<|e_p (zE rfl rfl)<|zva rfl rfl (zsa (rI .u32) ye inf84) (fun b6 _=> ?_)
    refine e_mv rfl<|e_mv rfl<|e_p (zRb (hi:=k) ye sz84 rfl (.s rfl) (.inr ⟨_,rfl⟩) om)<|zmc (zUc 0 rfl k om) (fun _ _=> ?_)
    refine zEa 0 rfl rfl rfl (zoa 0 rfl ye inf84 dd rfl rfl cbs rfl cbs om om) (fun _=> .z) ?_
    rintro ⟨p7,c8⟩ -
    dsimp only [aq,nq,cq]
    refine e_p (zN zr30 rfl yg (.c sz4 (.c sz28 .n)) (.c rfl (.c rfl .n)) (.c rfl rfl rfl (.take .nil) (.c rfl rfl rfl (.skip (.take .nil)) .n)))<|zj 1 rfl rfl rfl rfl rfl sz30 rfl (.t2 .nil) (.s .z)<|zf<|zd<|zC ?_
    subst hs
    refine zyb 0 rfl .z ?_
    exact zu Tryz.results85 (p7,c8) trivial (zo 1 ty30 rfl rfl (.t2 .nil)) (by rw [hsg,←htr,hlt,Nat.zero_add] <;> simp) (ho:=oN) ((.e (j:=0) rfl (by rw [htr] <;> rfl) .n):SelR _ _ _)
   ·
    refine e_no<|e_no<|e_p (zE rfl rfl)<|zva rfl rfl (zsa (rI .u32) ye inf84) (fun b9 _=> ?_)
    refine e_mv rfl<|e_mv rfl<|e_p (zRb (hi:=k) ye sz84 rfl (.s rfl) (.inr ⟨_,rfl⟩) om)<|zmc (zUc 0 rfl k om) (fun _ _=> ?_)
    refine zEa 0 rfl rfl rfl (zoa 0 rfl ye inf84 dd rfl rfl cbs rfl cbs om om) (fun _=> .z) ?_
    rintro ⟨p10,c11⟩ -
    dsimp only [aq,nq,cq]
    refine e_p (zN zr30 rfl yg (.c sz4 (.c sz28 .n)) (.c rfl (.c rfl .n)) (.c rfl rfl rfl (.take .nil) (.c rfl rfl rfl (.skip (.take .nil)) .n)))<|zj 1 rfl rfl rfl rfl rfl sz30 rfl (.t2 .nil) (.s .z)<|zf<|zd<|zC ?_
    subst hs
    refine zyb 0 rfl .z ?_
    exact zu Tryz.results85 (p10,c11) trivial (zo 1 ty30 rfl rfl (.t2 .nil)) (by rw [hsg,←htr,hlt,Nat.zero_add] <;> simp) (ho:=oN) ((.e (j:=0) rfl (by rw [htr] <;> rfl) .n):SelR _ _ _)
theorem ztb {s:Bool} {a:Nat} {p:Option Addr} {cap:Nat} (hln:(yd (a)).length≤17592186044416):Con yl 85 [.bool (s),.slice (p) ((yd (a)).length) (cap)] [] [slF (rI .u32) (p) (cap) (yd (a))] (Y:=(Option Addr)×(Nat)) (fun y=>True) (fun y=> .agg #[.bool (decide ((yD s (a:Int))<0)),.slice (y.1) ((yd ((yD s (a:Int)).natAbs)).length) (y.2)]) (fun y=>[]) (fun y=>[slF (rI .u32) (y.1) (y.2) (yd ((yD s (a:Int)).natAbs))]):=by
  have h:= @zKa s p (yd a).length cap (yd a) rfl (ym a) hln
  rw [yu] at h
  exact h
theorem zcb {p:Option Addr} {n:Nat} {cap:Nat} {l:List Int} {i:Nat} (hn:l.length=n) (hi:i≤4611686018427387904):Con yl 112 [.slice p n cap,ya yb ((i:Nat):Int)] [] [slF (rI .u32) p cap l] (Y:=Unit) (fun y=>True) (fun y=> .int .u64 (l.getD i 0)) (fun y=>[]) (fun y=>[]):=by
 refine zl Tryz.func112 rfl rfl rfl (fun c=> ?_)
 show RunC _ _ _ _ _ [(0,.slice p n cap),(1,ya yb ((i:Nat):Int))] [] [slF (rI .u32) p cap l]
 refine zU 0 rfl (fun hL0=> ?_)
 refine ze<|za<|e_p (zb rfl)<|zf<|zd<|ze<|ze<|za<|e_mv rfl<|e_mv rfl<|e_p (zK ye rfl)<|e_p (zX rfl rfl)<|zf<|zd<|zG rfl (fun h1=> ?_) (fun h1=> ?_)
 ·
  refine ze<|za<|e_mv rfl<|e_mv rfl<|zY (x0:=(l.getD i 0)) 0 i rfl ye sz84 rfl rfl rfl cbs rfl rfl (gD (d:=0) om) (fun b2 o3 hok4=> ?_)
  replace hok4:=zy.1 hok4
  refine e_ru (zt (j:=0) 0 ty84 rfl rfl rfl rfl)<|e_p (zD (z:=(l.getD i 0)) rfl (by rw [yh];rfl) yi (wu64 om))<|e_p (zb rfl)<|zf<|zd<|zC<|zk ?_
  exact zu Tryz.results112 () trivial (zn rfl) rfl (ho:=oN) sN
 ·
  refine zB<|zd<|ze<|za<|e_p (zb rfl)<|zf<|zd<|zC ?_
  exact zu Tryz.results112 () trivial (zn rfl) (by rw [show l.getD i 0=0 by simp [List.getD,List.getElem?_eq_none (show l.length≤i by omega)]]) (ho:=oN) sN
theorem zDc {s:Bool} {p:Option Addr} {n:Nat} {cap:Nat} {l:List Int} (hn:l.length=n):Con yl 94 [.agg #[.bool s,.slice p n cap]] [] [slF (rI .u32) p cap l] (Y:=Unit) (fun y=>True) (fun y=> .bool (decide (Big.canon s l))) (fun y=>[]) (fun y=>[]):=by
 refine zl Tryz.func94 rfl rfl rfl (fun c=> ?_)
 show RunC _ _ _ _ _ [(0,.agg #[.bool s,.slice p n cap])] [] [slF (rI .u32) p cap l]
 refine zU 0 rfl (fun hL0=> ?_)
 refine ze<|za<|zI rfl rfl (zR rfl rfl) (fun b1=> ?_)
 refine e_p (zb rfl)<|zf<|zd<|ze<|za<|e_p (zg yg rfl sz28 rfl rfl)<|e_ru (zh 0 ty28 rfl rfl rfl)<|e_p (zK ye rfl)<|e_p (zb rfl)<|zf<|zd<|ze<|ze<|za<|e_p (zb rfl)<|zf<|zd<|zx<|zja (X:=Nat) (fun x:Nat=>x≤n∧∀j,j<x→l.getD j 0<1000000000) (fun x=>[(4,ya yb ((x:Nat):Int)),(3,ya yb ((n:Nat):Int)),(1,yc (some ⟨b1,0,none⟩))]) (fun x=>[boxA b1 30 [.bool s,.slice p n cap]]) (fun x=>[slF (rI .u32) p cap l]) (fun x:Nat=>n - x) 0 (show 0≤n∧∀j,j<0→l.getD j 0<1000000000 from by exact ⟨by omega,fun j h=>by omega⟩) ((.e rfl cgs (.c rfl (.c rfl .n))):SubM _ _) (ho:=(o0 rfl)) (s0 rfl) ?_
 rintro i hI
 replace hI:i≤n∧∀j,j<i→l.getD j 0<1000000000:=hI
 try dsimp only
 obtain ⟨hi,hall⟩:=hI
 refine ze<|ze<|za<|e_mv rfl<|e_mv rfl<|e_p (zX rfl rfl)<|zf<|zd<|zG rfl (fun h2=> ?_) (fun h2=> ?_)
 ·
  refine zB<|zd<|ze<|zx<|ze<|za<|e_p (zg yg rfl sz28 rfl rfl)<|e_ru (zh 0 ty28 rfl rfl rfl)<|e_mv rfl<|zY (x0:=(l.getD i 0)) 0 i rfl ye sz84 rfl rfl rfl cbs rfl rfl (gD (d:=0) om) (fun b3 o4 hok5=> ?_)
  replace hok5:=zy.1 hok5
  refine e_ru (zt (j:=0) 0 ty84 rfl rfl rfl rfl)<|e_p (zXa rfl rfl)<|zf<|zd<|zG rfl (fun hb=> ?_) (fun hb=> ?_)
  ·
   refine ze<|za<|e_p (zb rfl)<|zf<|zd<|zC<|zM<|zk<|zk<|zM<|zk ?_
   exact zu Tryz.results94 () trivial (zn rfl) (congrArg Value.bool (decide_eq_false (fun h=>((Big.canon_more om).1 h).2 ⟨_,Big.getD_mem om,hb⟩))) (ho:=oN) sN
  ·
   refine zB<|zP<|zd<|za<|e_mv rfl<|e_p (zL (z:=(((i+1):Nat):Int)) rfl rfl (w64 om))<|e_p (zb rfl)<|zf<|zda (i+1) (show (i+1)≤n∧∀j,j<(i+1)→l.getD j 0<1000000000 from by refine ⟨by omega,fun j hj=> ?_⟩;by_cases e:j=i;subst e;omega;exact hall j om) (by show n - (i+1)<n - i;omega) (mR rfl) (ho:=(o0 rfl)) ((.c (j:=1) rfl .n):SelR _ _ _)
 ·
  refine zfa<|zi<|zi<|zw<|zd<|ze<|ze<|za<|e_mv rfl<|e_p (zwa rfl rfl)<|zf<|zd<|zG rfl (fun h0=> ?_) (fun h0=> ?_)
  ·
   refine ze<|za<|e_p (zg yg rfl sz4 rfl rfl)<|e_ru (zh 0 ty4 rfl rfl rfl)<|e_p (zqb rfl)<|e_p (zb rfl)<|zf<|zd<|zC<|zk ?_
   exact zu Tryz.results94 () trivial (zn rfl) (congrArg Value.bool (by have:l.length=0:=om;cases s <;> simp [Big.canon,this])) (ho:=oN) sN
  ·
   refine zB<|zd<|ze<|za<|e_p (zg yg rfl sz28 rfl rfl)<|e_ru (zh 0 ty28 rfl rfl rfl)<|e_mv rfl<|e_p (zca (z:=(((n:Nat):Int) - 1)) rfl rfl (w64 om))<|zY (x0:=(l.getD ((((n:Nat):Int) - 1).toNat) 0)) 0 ((((n:Nat):Int) - 1).toNat) rfl ye sz84 rfl rfl rfl cbs rfl om (gD (d:=0) om) (fun b6 o7 hok8=> ?_)
   replace hok8:=zy.1 hok8
   refine e_ru (zt (j:=0) 0 ty84 rfl rfl rfl rfl)<|e_p (zib rfl rfl)<|e_p (zb rfl)<|zf<|zd<|zC ?_
   exact zu Tryz.results94 () trivial (zn rfl) (congrArg Value.bool (decide_eq_decide.2 (by rw [Big.canon_more om,hn];have e:((n:Int) - 1).toNat=n - 1:=om;rw [e];exact ⟨fun h=>h.1,fun h=>⟨h,fun ⟨g,hg,hb⟩=>by obtain ⟨j,hj,e⟩:=Big.mem_getD hg;have:=hall j om;omega⟩⟩))) (ho:=oN) sN
theorem zWa {s:Bool} {p:Option Addr} {n:Nat} {cap:Nat} {l:List Int} (hn:l.length=n) (hln:n≤4398046511104):Con yl 84 [.agg #[.bool s,.slice p n cap]] [] [slF (rI .u32) p cap l] (Y:=(Option Addr)×Nat) (fun y=>True) (fun y=> .agg #[.bool (decide ((yf s l)<0)),.slice (y.1) ((yd ((yf s l).natAbs)).length) (y.2)]) (fun y=>[]) (fun y=>[slF (rI .u32) (y.1) (y.2) (yd ((yf s l).natAbs))]):=by
 refine zl Tryz.func84 rfl rfl rfl (fun c=> ?_)
 show RunC _ _ _ _ _ [(0,.agg #[.bool s,.slice p n cap])] [] [slF (rI .u32) p cap l]
 refine zU 0 rfl (fun hL0=> ?_)
 refine zUa 0 rfl (fun hE0=> ?_)
 have hnn:yI l:=fun g hg=>(zy.1 (hE0 g hg)).1
 refine ze<|za<|zI rfl rfl (zR rfl rfl) (fun b1=> ?_)
 refine zI rfl rfl (zr zr30 rfl) (fun b2=> ?_)
 refine zf<|zd<|ze<|ze<|za<|e_ru (zc 1 ty30 rfl rfl (.t2 .nil))<|zJ rfl rfl (.c rfl .n) ce94 (zDc (s:=s) (p:=p) (n:=n) (cap:=cap) (l:=l) (hn:=ass)) (.c (j:=0) rfl .n)<|e_p (zGa rfl)<|zf<|zd<|zG rfl (fun hc=> ?_) (fun hc=> ?_)
 ·
  refine ze<|za<|e_p (zN zr30 rfl yg (.c sz4 (.c sz28 .n)) .n .n)<|zj 0 rfl rfl rfl rfl rfl sz30 rfl (.t2 .nil) .z<|zf<|zd<|zC<|zk ?_
  have hz:yf s l=0:=by unfold yf;rw [if_neg hc]
  refine zec (rI .u32) ?_
  exact zu Tryz.results84 (none,0) trivial (zo 0 ty30 rfl rfl (.t2 .nil)) (by rw [hz];rfl) (ho:=oN) ((.e (j:=0) rfl (by rw [hz];rfl) .n):SelR _ _ _)
 ·
  refine zB<|zd<|ze<|zV (OW:=[boxA b2 30 [wz.b,wz.l]]) (O:=[boxA b1 30 [.bool s,.slice p n cap]]) 5 mixed (.then .ret) kr<|e_pv 0 rfl rfl (zg yg rfl sz4 rfl rfl)<|e_u 1 rfl rfl (zh 0 ty4 rfl rfl rfl)<|e_pv 3 rfl rfl (zg yg rfl sz28 rfl rfl)<|e_uw 4 rfl rfl (zh 1 ty28 rfl rfl rfl)<|e_one 2 (zoc rfl rfl rfl rfl (zsa (rI .u32) ye inf84) (fun b3 _=> ?_))
  refine e_one 5 (zAd (A':=fun v:Option Addr×Nat=>rowA 84 (rI .u32) v.1 v.2 (([])++l)) kr rfl rfl rfl (zoa 0 rfl ye inf84 dd rfl rfl cbs rfl cbs om om) ?_)
  rintro ⟨p4,c5⟩ -
  dsimp only [aq,nq,cq]
  refine e_pv 6 rfl rfl (zN zr30 rfl yg (.c sz4 (.c sz28 .n)) (.c rfl (.c rfl .n)) (.c rfl rfl rfl (.take .nil) (.c rfl rfl rfl (.skip (.take .nil)) .n)))<|zza (zea (i:=1) rfl)<|e_one 7 (zv kr rfl rfl rfl rfl rfl sz30 rfl (.t2 .nil) ?_)
  refine zH kr<|zd<|zC ?_
  have hcc:Big.canon s l:=Decidable.not_not.1 hc
  have hd:yd (yf s l).natAbs=l:=by rw [Big.raw_digs hnn,if_pos hcc]
  have hs:=Big.raw_sign hnn hcc
  refine zyb 1 rfl (.s .z) ?_
  exact zu Tryz.results84 (p4,c5) trivial (zo 0 ty30 rfl rfl (.t2 .nil)) (by rw [hs,hd,hn,Nat.zero_add]) (ho:=oN) ((.e (j:=0) rfl (by rw [hd] <;> rfl) .n):SelR _ _ _)
theorem zid {z:Int} {p:Option Addr} {cap:Nat} (hln:yp z≤4398046511104):Con yl 84 [.agg #[.bool (decide ((z)<0)),.slice (p) ((yd ((z).natAbs)).length) (cap)]] [] [slF (rI .u32) (p) (cap) (yd ((z).natAbs))] (Y:=(Option Addr)×(Nat)) (fun y=>True) (fun y=> .agg #[.bool (decide ((z)<0)),.slice (y.1) ((yd ((z).natAbs)).length) (y.2)]) (fun y=>[]) (fun y=>[slF (rI .u32) (y.1) (y.2) (yd ((z).natAbs))]):=by
  have h:= @zWa (decide ((z)<0)) p (yd (z).natAbs).length cap (yd (z).natAbs) rfl hln
  rw [yt] at h
  exact h
theorem zCf {z:Int} (hz: -9223372036854775808≤z∧z≤9223372036854775807):Con yl 80 [ya yb z] [] [] (Y:=(Option Addr)×Nat) (fun y=>True) (fun y=> .agg #[.bool (decide (z<0)),.slice (y.1) ((yd ((z).natAbs)).length) (y.2)]) (fun y=>[]) (fun y=>[slF (rI .u32) (y.1) (y.2) (yd ((z).natAbs))]):=by
 refine zl Tryz.func80 rfl rfl rfl (fun c=> ?_)
 show RunC _ _ _ _ _ [(0,ya yb z)] [] []
 refine ze<|za<|zI rfl rfl (zr zr30 rfl) (fun b1=> ?_)
 refine zf<|zd<|ze<|za<|e_mv rfl<|e_p (zD (z:=(z%18446744073709551616)) rfl (by rw [Tryz.underlying3];rfl) yi (wu64m om))<|e_p (zb rfl)<|zf<|zd<|zOa (X:=Unit) (fun x=>True) (fun x=>[(3,.int .u64 ((z.natAbs:Nat):Int)),(2,yc (some ⟨b1,0,none⟩)),(0,ya yb z)]) (fun x=>[boxA b1 30 [wz.b,wz.l]]) (fun x=>[]) ?_ ?_
 ·
  refine ze<|za<|e_mv rfl<|e_p (zX rfl rfl)<|zf<|zd<|zG rfl (fun hs=> ?_) (fun hs=> ?_)
  ·
   refine za<|e_mv rfl<|e_p (zL (z:=(z+1)) rfl rfl (w64 om))<|e_p (znf (z:=(-(z+1))) rfl (w64 om))<|e_p (zD (z:=(-(z+1))) rfl (by rw [Tryz.underlying3];rfl) yi (wu64 om))<|e_p (zL (z:=((z.natAbs:Nat):Int)) rfl rfl (wu64 om))<|e_p (zb rfl)<|zf ?_
   exact zT () tt9 (mR rfl) (ho:=(o0 rfl)) sN
  ·
   have e2:((z%18446744073709551616):Int)=((z.natAbs:Nat):Int):=by omega
   rw [e2]
   refine zB ?_
   exact zT () tt9 (mR rfl) (ho:=(o0 rfl)) sN
 ·
  rintro ⟨⟩ -
  try dsimp only
  refine ze<|za<|zva rfl rfl (zsa (rI .u32) ye inf84) (fun b3 _=> ?_)
  refine e_p (zb rfl)<|zf<|zd<|ze<|zx<|zja (X:=Nat×(Option Addr)×Nat×(List Int)) (fun x:Nat×(Option Addr)×Nat×(List Int)=>x.1≤z.natAbs∧x.2.2.2++yd x.1=yd z.natAbs) (fun x=>[(4,.slice (x.2.1) (x.2.2.2.length) (x.2.2.1)),(3,.int .u64 ((x.1:Nat):Int)),(2,yc (some ⟨b1,0,none⟩)),(0,ya yb z)]) (fun x=>[rowA 84 (rI .u32) (x.2.1) (x.2.2.1) (x.2.2.2),boxA b1 30 [wz.b,wz.l]]) (fun x=>[]) (fun x:Nat×(Option Addr)×Nat×(List Int)=>x.1) (z.natAbs,some ⟨b3,0,none⟩,0,[]) (show z.natAbs≤z.natAbs∧([])++yd z.natAbs=yd z.natAbs from by exact ⟨Nat.le_refl _,rfl⟩) ((.e rfl cgs (.of rfl)):SubM _ _) (ho:=((.of [0,0] rfl):PickO _ _ _)) sN ?_
  rintro ⟨m,p,c,os⟩ hI
  replace hI:m≤z.natAbs∧os++yd m=yd z.natAbs:=hI
  try dsimp only
  obtain ⟨hnn,hos⟩:=hI
  have hlen0:os.length+(yd m).length≤3:=by have:=congrArg List.length hos;rw [List.length_append] at this;have:=Big.zuf (show z.natAbs<18446744073709551616 by omega);omega
  refine ze<|ze<|za<|e_mv rfl<|e_p (zCa rfl rfl)<|zf<|zd<|zG rfl (fun h4=> ?_) (fun h4=> ?_)
  ·
   refine zB<|zd<|zx<|ze<|za<|e_mv rfl<|e_mv rfl<|e_p (zmb (z:=(((m%1000000000):Nat):Int)) rfl rfl om (remN om om))<|e_p (zD (z:=(((m%1000000000):Nat):Int)) rfl (by rw [yi];rfl) yh (wu32 om))<|zva rfl rfl (zaa (enc:=fun z:Int=>[.int .u32 z]) (ok:=InK .u32) (h1:=fun _=>rfl) (h2:=fun _=>rfl) (k:=1) ye inf84 rfl dd dd dd (.c (x:=(((m%1000000000):Nat):Int)) rfl rfl (fun _ _=>by exact zy.2 om) .n)) (fun b5 _=> ?_)
   refine zba 0 rfl .z<|zEa 1 rfl rfl rfl (zoa 0 rfl ye inf84 dd rfl rfl cbs rfl cbs om om) (fun _=>(.s .z)) ?_
   rintro ⟨p6,c7⟩ -
   dsimp only [aq,nq,cq]
   refine e_p (zb rfl)<|zf<|zd<|za<|e_mv rfl<|e_p (zeb (z:=(((m / 1000000000):Nat):Int)) rfl rfl om (by rw [quoN (z:=(((m / 1000000000):Nat):Int)) om om];exact wu64 om))<|e_p (zb rfl)<|zf<|zP<|zda ((m / 1000000000),p6,c7,os++[((m%1000000000:Nat):Int)]) (show (m / 1000000000)≤z.natAbs∧(os++[((m%1000000000:Nat):Int)])++yd (m / 1000000000)=yd z.natAbs from by exact ⟨by omega,Big.split_step om hos⟩) (by show m / 1000000000<m;omega) ((.e rfl (by simp) (.of rfl)):SubM _ _) (ho:=((.e (i:=1) rfl cgs (.c (i:=1) rfl .n)):PickO _ _ _)) sN
  ·
   have hm0:m=0:=by omega
   subst hm0
   have hd:os=yd z.natAbs:=by simpa [Big.digs_zero] using hos
   have hok:yv os:=by rw [hd];exact ym _
   have hlen:os.length≤3:=by rw [hd];exact Big.zuf om
   have hsg:yD (decide (z<0)) (yj os)=z:=by rw [hd,yu];exact Big.sg_big z
   refine zfa<|zi<|zi<|zw<|zd<|ze<|za<|e_mv rfl<|e_p (zX rfl rfl)<|e_mv rfl<|zba 0 rfl .z<|zm rfl rfl (.c rfl (.c rfl .n)) ce85 (zKa (s:=decide (z<0)) (p:=p) (n:=os.length) (cap:=c) (l:=os) (hn:=by first|rfl|omega) (ho:=by exact hok) (hln:=by first|rfl|omega)) (.c (j:=0) rfl .n) ?_
   rintro ⟨p28,c29⟩ -
   dsimp only [aq,nq,cq]
   refine zj 1 rfl rfl rfl rfl rfl sz30 rfl (.t2 .nil) (.s .z)<|zf<|zd<|zC ?_
   exact zu Tryz.results80 (p28,c29) trivial (zo 1 ty30 rfl rfl (.t2 .nil)) (by rw [hsg]) (ho:=oN) ((.e (j:=0) rfl (by rw [hsg]) .n):SelR _ _ _)
theorem zDf {a:Nat} {b:Nat} {p1:Option Addr} {c1:Nat} {p2:Option Addr} {c2:Nat} (hb1:(yd a).length≤4398046511104) (hb2:(yd b).length≤4398046511104):Con yl 86 [.slice p1 ((yd a).length) c1,.slice p2 ((yd b).length) c2] [] [slF (rI .u32) p1 c1 (yd a),slF (rI .u32) p2 c2 (yd b)] (Y:=(Option Addr)×Nat) (fun y=>True) (fun y=> .slice (y.1) ((yd (a+b)).length) (y.2)) (fun y=>[]) (fun y=>[slF (rI .u32) (y.1) (y.2) (yd (a+b))]):=by
 refine zl Tryz.func86 rfl rfl rfl (fun c=> ?_)
 show RunC _ _ _ _ _ [(0,.slice p1 ((yd a).length) c1),(1,.slice p2 ((yd b).length) c2)] [] [slF (rI .u32) p1 c1 (yd a),slF (rI .u32) p2 c2 (yd b)]
 refine zU 0 rfl (fun hL0=> ?_)
 refine zU 1 rfl (fun hL1=> ?_)
 refine ze<|za<|e_p (zb rfl)<|zf<|zd<|ze<|za<|zva rfl rfl (zsa (rI .u32) ye inf84) (fun b1 _=> ?_)
 refine e_p (zb rfl)<|zf<|zd<|ze<|za<|e_p (zb rfl)<|zf<|zd<|ze<|ze<|za<|e_p (zb rfl)<|zf<|zd<|zx<|zja (X:=Nat×(Option Addr)×Nat×(List Int)×Int) (fun x:Nat×(Option Addr)×Nat×(List Int)×Int=>x.1≤max (yd a).length (yd b).length∧x.2.2.2.1.length=x.1∧0≤x.2.2.2.2∧x.2.2.2.2≤1∧yv x.2.2.2.1∧yj x.2.2.2.1+yz x.1*x.2.2.2.2=yj ((yd a).take x.1)+yj ((yd b).take x.1)) (fun x=>[(6,.int .u64 (x.2.2.2.2)),(5,.slice (x.2.1) (x.2.2.2.1.length) (x.2.2.1)),(7,ya yb ((x.1:Nat):Int)),(4,.slice none 0 0),(0,.slice p1 ((yd a).length) c1),(1,.slice p2 ((yd b).length) c2)]) (fun x=>[rowA 84 (rI .u32) (x.2.1) (x.2.2.1) (x.2.2.2.1)]) (fun x=>[slF (rI .u32) p1 c1 (yd a),slF (rI .u32) p2 c2 (yd b)]) (fun x:Nat×(Option Addr)×Nat×(List Int)×Int=>max (yd a).length (yd b).length - x.1) (0,some ⟨b1,0,none⟩,0,[],0) (show 0≤max (yd a).length (yd b).length∧([]).length=0∧0≤0∧0≤1∧yv ([])∧yj ([])+yz 0*0=yj ((yd a).take 0)+yj ((yd b).take 0) from by exact ⟨by omega,rfl,by decide,by decide,Big.okL_nil,by simp [yj]⟩) ((.c rfl (.e rfl cgs (.e rfl cgs (.of rfl)))):SubM _ _) (ho:=(o0 rfl)) ((.of [0,1] rfl):SelR _ _ _) ?_
 rintro ⟨i,p,c,os,cy⟩ hI
 replace hI:i≤max (yd a).length (yd b).length∧os.length=i∧0≤cy∧cy≤1∧yv os∧yj os+yz i*cy=yj ((yd a).take i)+yj ((yd b).take i):=hI
 try dsimp only
 obtain ⟨hi,hol,hc0,hc1,hok,hv⟩:=hI
 have hg1:=yn (ym a) i
 have hg2:=yn (ym b) i
 refine ze<|zOa (X:=Unit) (fun x=>True) (fun x=>[(19,.bool (decide (i<(yd a).length∨i<(yd b).length))),(6,.int .u64 cy),(5,.slice p (os.length) c),(7,ya yb ((i:Nat):Int)),(4,.slice none 0 0),(0,.slice p1 ((yd a).length) c1),(1,.slice p2 ((yd b).length) c2)]) (fun x=>[rowA 84 (rI .u32) p c os]) (fun x=>[slF (rI .u32) p1 c1 (yd a),slF (rI .u32) p2 c2 (yd b)]) ?_ ?_
 ·
  refine za<|e_mv rfl<|e_mv rfl<|e_p (zK ye rfl)<|e_p (zX rfl rfl)<|zha rfl rfl (zga rfl) (fun h2=> ?_) (fun h2=> ?_)
  ·
   refine e_no<|e_no<|e_no<|e_no<|e_p (zE rfl rfl)<|zf ?_
   exact zT () tt9 ((.e rfl (congrArg Value.bool (by simp;omega)) (.of rfl)):SubM _ _) (ho:=(o0 rfl)) ((.of [0,1] rfl):SelR _ _ _)
  ·
   refine e_mv rfl<|e_mv rfl<|e_p (zK ye rfl)<|e_p (zX rfl rfl)<|e_p (zE rfl rfl)<|zf ?_
   exact zT () tt9 ((.e rfl (congrArg Value.bool (by simp;omega)) (.of rfl)):SubM _ _) (ho:=(o0 rfl)) ((.of [0,1] rfl):SelR _ _ _)
 ·
  rintro ⟨⟩ -
  try dsimp only
  refine zG rfl (fun hc=> ?_) (fun hc=> ?_)
  ·
   refine zB<|zd<|ze<|zx<|ze<|za<|e_mv rfl<|e_mv rfl<|zJ rfl rfl (.c rfl (.c rfl .n)) ce112 (zcb (p:=p1) (n:=(yd a).length) (cap:=c1) (l:=yd a) (i:=i) (hn:=cbb) (hi:=cbb)) (.c (j:=0) rfl .n)<|e_mv rfl<|e_mv rfl<|zJ rfl rfl (.c rfl (.c rfl .n)) ce112 (zcb (p:=p2) (n:=(yd b).length) (cap:=c2) (l:=yd b) (i:=i) (hn:=cbb) (hi:=cbb)) (.c (j:=1) rfl .n)<|e_p (zL (z:=((yd a).getD i 0+(yd b).getD i 0)) rfl rfl (wu64 om))<|e_mv rfl<|e_p (zL (z:=(((yd a).getD i 0+(yd b).getD i 0)+cy)) rfl rfl (wu64 om))<|e_p (zb rfl)<|zf<|zd<|ze<|za<|e_mv rfl<|e_mv rfl<|e_p (zmb (z:=((((yd a).getD i 0+(yd b).getD i 0)+cy)%1000000000)) rfl rfl om (remN om om))<|e_p (zD (z:=((((yd a).getD i 0+(yd b).getD i 0)+cy)%1000000000)) rfl (by rw [yi];rfl) yh (wu32 om))<|zva rfl rfl (zaa (enc:=fun z:Int=>[.int .u32 z]) (ok:=InK .u32) (h1:=fun _=>rfl) (h2:=fun _=>rfl) (k:=1) ye inf84 rfl dd dd dd (.c (x:=((((yd a).getD i 0+(yd b).getD i 0)+cy)%1000000000)) rfl rfl (fun _ _=>by exact zy.2 om) .n)) (fun b3 _=> ?_)
   refine zba 0 rfl .z<|zEa 1 rfl rfl rfl (zoa 0 rfl ye inf84 dd rfl rfl cbs rfl cbs om om) (fun _=>(.s .z)) ?_
   rintro ⟨p4,c5⟩ -
   dsimp only [aq,nq,cq]
   refine e_p (zb rfl)<|zf<|zd<|za<|e_mv rfl<|e_p (zeb (z:=((((yd a).getD i 0+(yd b).getD i 0)+cy) / 1000000000)) rfl rfl om (by rw [quoN (z:=((((yd a).getD i 0+(yd b).getD i 0)+cy) / 1000000000)) om om];exact wu64 om))<|e_p (zb rfl)<|zf<|zP<|zd<|za<|e_mv rfl<|e_p (zL (z:=(((i+1):Nat):Int)) rfl rfl (w64 om))<|e_p (zb rfl)<|zf<|zda ((i+1),p4,c5,os++[((yd a).getD i 0+(yd b).getD i 0+cy)%1000000000],((yd a).getD i 0+(yd b).getD i 0+cy) / 1000000000) (show (i+1)≤max (yd a).length (yd b).length∧(os++[((yd a).getD i 0+(yd b).getD i 0+cy)%1000000000]).length=(i+1)∧0≤(((yd a).getD i 0+(yd b).getD i 0+cy) / 1000000000)∧(((yd a).getD i 0+(yd b).getD i 0+cy) / 1000000000)≤1∧yv (os++[((yd a).getD i 0+(yd b).getD i 0+cy)%1000000000])∧yj (os++[((yd a).getD i 0+(yd b).getD i 0+cy)%1000000000])+yz (i+1)*(((yd a).getD i 0+(yd b).getD i 0+cy) / 1000000000)=yj ((yd a).take (i+1))+yj ((yd b).take (i+1)) from by exact ⟨by omega,by simp [hol],by omega,by omega,yS hok om om,Big.plus_step hol hv om⟩) (by show max (yd a).length (yd b).length - (i+1)<max (yd a).length (yd b).length - i;omega) ((.e rfl cgs (.e rfl (by simp) (.of rfl))):SubM _ _) (ho:=((.e (i:=1) rfl cgs .n):PickO _ _ _)) ((.of [1,2] rfl):SelR _ _ _)
  ·
   have hok2:=yS hok hc0 (show cy<1000000000 by omega)
   have hfin:=Big.plus_end (a:=a) (b:=b) hol om om hv
   refine zfa<|zi<|zi<|zw<|zd<|ze<|za<|e_mv rfl<|e_mv rfl<|e_p (zD (z:=cy) rfl (by rw [yi];rfl) yh (wu32 om))<|zva rfl rfl (zaa (enc:=fun z:Int=>[.int .u32 z]) (ok:=InK .u32) (h1:=fun _=>rfl) (h2:=fun _=>rfl) (k:=1) ye inf84 rfl dd dd dd (.c (x:=cy) rfl rfl (fun _ _=>by exact zy.2 om) .n)) (fun b6 _=> ?_)
   refine zba 0 rfl .z<|zEa 1 rfl rfl rfl (zoa 0 rfl ye inf84 dd rfl rfl cbs rfl cbs om om) (fun _=>(.s .z)) ?_
   rintro ⟨p7,c8⟩ -
   dsimp only [aq,nq,cq]
   refine zba 1 rfl (.s .z)<|zm rfl rfl (.c rfl (.c rfl .n)) ce85 (zKa (s:=false) (p:=p7) (n:=os.length+1) (cap:=c8) (l:=(os++([cy]))) (hn:=by first|rfl|omega|(simp;done)|(simp;omega)) (ho:=by exact hok2) (hln:=by first|rfl|omega|(simp;done)|(simp;omega))) (.c (j:=0) rfl .n) ?_
   rintro ⟨p29,c210⟩ -
   dsimp only [aq,nq,cq]
   refine e_p (zBa yg rfl ty28 rfl rfl)<|e_p (zb rfl)<|zf<|zd<|zC ?_
   exact zu Tryz.results86 (p29,c210) trivial (zn rfl) (by rw [hfin]) (ho:=oN) ((.e (j:=0) rfl (by rw [hfin]) .n):SelR _ _ _)
theorem zYb {a:Nat} {b:Nat} {p1:Option Addr} {c1:Nat} {p2:Option Addr} {c2:Nat} (hb1:(yd a).length≤4398046511104) (hb2:(yd b).length≤4398046511104) (hab:b≤a):Con yl 88 [.slice p1 ((yd a).length) c1,.slice p2 ((yd b).length) c2] [] [slF (rI .u32) p1 c1 (yd a),slF (rI .u32) p2 c2 (yd b)] (Y:=(Option Addr)×Nat) (fun y=>True) (fun y=> .slice (y.1) ((yd (a - b)).length) (y.2)) (fun y=>[]) (fun y=>[slF (rI .u32) (y.1) (y.2) (yd (a - b))]):=by
 refine zl Tryz.func88 rfl rfl rfl (fun c=> ?_)
 show RunC _ _ _ _ _ [(0,.slice p1 ((yd a).length) c1),(1,.slice p2 ((yd b).length) c2)] [] [slF (rI .u32) p1 c1 (yd a),slF (rI .u32) p2 c2 (yd b)]
 refine zU 0 rfl (fun hL0=> ?_)
 refine zU 1 rfl (fun hL1=> ?_)
 refine ze<|za<|e_p (zb rfl)<|zf<|zd<|ze<|za<|zva rfl rfl (zsa (rI .u32) ye inf84) (fun b1 _=> ?_)
 refine e_p (zb rfl)<|zf<|zd<|ze<|za<|e_p (zb rfl)<|zf<|zd<|ze<|ze<|za<|e_p (zb rfl)<|zf<|zd<|zx<|zja (X:=Nat×(Option Addr)×Nat×(List Int)×Int) (fun x:Nat×(Option Addr)×Nat×(List Int)×Int=>x.1≤(yd a).length∧x.2.2.2.1.length=x.1∧0≤x.2.2.2.2∧x.2.2.2.2≤1∧yv x.2.2.2.1∧yj x.2.2.2.1+yj ((yd b).take x.1)=yj ((yd a).take x.1)+yz x.1*x.2.2.2.2) (fun x=>[(6,.int .u64 (x.2.2.2.2)),(5,.slice (x.2.1) (x.2.2.2.1.length) (x.2.2.1)),(7,ya yb ((x.1:Nat):Int)),(4,.slice none 0 0),(0,.slice p1 ((yd a).length) c1),(1,.slice p2 ((yd b).length) c2)]) (fun x=>[rowA 84 (rI .u32) (x.2.1) (x.2.2.1) (x.2.2.2.1)]) (fun x=>[slF (rI .u32) p1 c1 (yd a),slF (rI .u32) p2 c2 (yd b)]) (fun x:Nat×(Option Addr)×Nat×(List Int)×Int=>(yd a).length - x.1) (0,some ⟨b1,0,none⟩,0,[],0) (show 0≤(yd a).length∧([]).length=0∧0≤0∧0≤1∧yv ([])∧yj ([])+yj ((yd b).take 0)=yj ((yd a).take 0)+yz 0*0 from by exact ⟨by omega,rfl,by decide,by decide,Big.okL_nil,by simp [yj]⟩) ((.c rfl (.e rfl cgs (.e rfl cgs (.of rfl)))):SubM _ _) (ho:=(o0 rfl)) ((.of [0,1] rfl):SelR _ _ _) ?_
 rintro ⟨i,p,c,os,bo⟩ hI
 replace hI:i≤(yd a).length∧os.length=i∧0≤bo∧bo≤1∧yv os∧yj os+yj ((yd b).take i)=yj ((yd a).take i)+yz i*bo:=hI
 try dsimp only
 obtain ⟨hi,hol,hc0,hc1,hok,hv⟩:=hI
 have hg1:=yn (ym a) i
 have hg2:=yn (ym b) i
 refine ze<|ze<|za<|e_mv rfl<|e_mv rfl<|e_p (zK ye rfl)<|e_p (zX rfl rfl)<|zf<|zd<|zG rfl (fun h2=> ?_) (fun h2=> ?_)
 ·
  refine zB<|zd<|ze<|zx<|ze<|za<|e_mv rfl<|e_mv rfl<|zJ rfl rfl (.c rfl (.c rfl .n)) ce112 (zcb (p:=p1) (n:=(yd a).length) (cap:=c1) (l:=yd a) (i:=i) (hn:=cbb) (hi:=cbb)) (.c (j:=0) rfl .n)<|e_p (zL (z:=(1000000000+(yd a).getD i 0)) rfl rfl (wu64 om))<|e_mv rfl<|e_mv rfl<|zJ rfl rfl (.c rfl (.c rfl .n)) ce112 (zcb (p:=p2) (n:=(yd b).length) (cap:=c2) (l:=yd b) (i:=i) (hn:=cbb) (hi:=cbb)) (.c (j:=1) rfl .n)<|e_p (zca (z:=((1000000000+(yd a).getD i 0) - (yd b).getD i 0)) rfl rfl (wu64 om))<|e_mv rfl<|e_p (zca (z:=(((1000000000+(yd a).getD i 0) - (yd b).getD i 0) - bo)) rfl rfl (wu64 om))<|e_p (zb rfl)<|zf<|zd<|ze<|za<|e_mv rfl<|e_mv rfl<|e_p (zmb (z:=((((1000000000+(yd a).getD i 0) - (yd b).getD i 0) - bo)%1000000000)) rfl rfl om (remN om om))<|e_p (zD (z:=((((1000000000+(yd a).getD i 0) - (yd b).getD i 0) - bo)%1000000000)) rfl (by rw [yi];rfl) yh (wu32 om))<|zva rfl rfl (zaa (enc:=fun z:Int=>[.int .u32 z]) (ok:=InK .u32) (h1:=fun _=>rfl) (h2:=fun _=>rfl) (k:=1) ye inf84 rfl dd dd dd (.c (x:=((((1000000000+(yd a).getD i 0) - (yd b).getD i 0) - bo)%1000000000)) rfl rfl (fun _ _=>by exact zy.2 om) .n)) (fun b3 _=> ?_)
  refine zba 0 rfl .z<|zEa 1 rfl rfl rfl (zoa 0 rfl ye inf84 dd rfl rfl cbs rfl cbs om om) (fun _=>(.s .z)) ?_
  rintro ⟨p4,c5⟩ -
  dsimp only [aq,nq,cq]
  refine e_p (zb rfl)<|zf<|zd<|za<|e_mv rfl<|e_p (zeb (z:=((((1000000000+(yd a).getD i 0) - (yd b).getD i 0) - bo) / 1000000000)) rfl rfl om (by rw [quoN (z:=((((1000000000+(yd a).getD i 0) - (yd b).getD i 0) - bo) / 1000000000)) om om];exact wu64 om))<|e_p (zca (z:=(1 - ((((1000000000+(yd a).getD i 0) - (yd b).getD i 0) - bo) / 1000000000))) rfl rfl (wu64 om))<|e_p (zb rfl)<|zf<|zP<|zd<|za<|e_mv rfl<|e_p (zL (z:=(((i+1):Nat):Int)) rfl rfl (w64 om))<|e_p (zb rfl)<|zf<|zda ((i+1),p4,c5,os++[(1000000000+(yd a).getD i 0 - (yd b).getD i 0 - bo)%1000000000],1 - (1000000000+(yd a).getD i 0 - (yd b).getD i 0 - bo) / 1000000000) (show (i+1)≤(yd a).length∧(os++[(1000000000+(yd a).getD i 0 - (yd b).getD i 0 - bo)%1000000000]).length=(i+1)∧0≤(1 - (1000000000+(yd a).getD i 0 - (yd b).getD i 0 - bo) / 1000000000)∧(1 - (1000000000+(yd a).getD i 0 - (yd b).getD i 0 - bo) / 1000000000)≤1∧yv (os++[(1000000000+(yd a).getD i 0 - (yd b).getD i 0 - bo)%1000000000])∧yj (os++[(1000000000+(yd a).getD i 0 - (yd b).getD i 0 - bo)%1000000000])+yj ((yd b).take (i+1))=yj ((yd a).take (i+1))+yz (i+1)*(1 - (1000000000+(yd a).getD i 0 - (yd b).getD i 0 - bo) / 1000000000) from by exact ⟨by omega,by simp [hol],by omega,by omega,yS hok om om,Big.minus_step hol hv om⟩) (by show (yd a).length - (i+1)<(yd a).length - i;omega) ((.e rfl cgs (.e rfl (by simp) (.of rfl))):SubM _ _) (ho:=((.e (i:=1) rfl cgs .n):PickO _ _ _)) ((.of [1,2] rfl):SelR _ _ _)
 ·
  have htr:yr os=yd (a - b):=Big.minus_fin hab hok hc0 hol om hv
  have hfin:(yD false (yj os)).natAbs=a - b:=by rw [Big.sg_abs (yE hok)];have:=congrArg yj htr;rw [Big.valL_trim,yu] at this;omega
  refine zfa<|zi<|zi<|zw<|zd<|ze<|za<|e_mv rfl<|zba 0 rfl .z<|zm rfl rfl (.c rfl (.c rfl .n)) ce85 (zKa (s:=false) (p:=p) (n:=os.length) (cap:=c) (l:=os) (hn:=by first|rfl|omega|(simp;done)|(simp;omega)) (ho:=by exact hok) (hln:=by first|rfl|omega|(simp;done)|(simp;omega))) (.c (j:=0) rfl .n) ?_
  rintro ⟨p26,c27⟩ -
  dsimp only [aq,nq,cq]
  refine e_p (zBa yg rfl ty28 rfl rfl)<|e_p (zb rfl)<|zf<|zd<|zC ?_
  exact zu Tryz.results88 (p26,c27) trivial (zn rfl) (by rw [hfin]) (ho:=oN) ((.e (j:=0) rfl (by rw [hfin]) .n):SelR _ _ _)
theorem zjd {a:Nat} {b:Nat} {p1:Option Addr} {c1:Nat} {p2:Option Addr} {c2:Nat}:Con yl 87 [.slice p1 ((yd a).length) c1,.slice p2 ((yd b).length) c2] [] [slF (rI .u32) p1 c1 (yd a),slF (rI .u32) p2 c2 (yd b)] (Y:=Unit) (fun y=>True) (fun y=> ya yb (Big.cmp (a:Int) (b:Int))) (fun y=>[]) (fun y=>[]):=by
 refine zl Tryz.func87 rfl rfl rfl (fun c=> ?_)
 show RunC _ _ _ _ _ [(0,.slice p1 ((yd a).length) c1),(1,.slice p2 ((yd b).length) c2)] [] [slF (rI .u32) p1 c1 (yd a),slF (rI .u32) p2 c2 (yd b)]
 refine zU 0 rfl (fun hL0=> ?_)
 refine zU 1 rfl (fun hL1=> ?_)
 refine ze<|za<|e_p (zb rfl)<|zf<|zd<|ze<|ze<|za<|e_mv rfl<|e_p (zK ye rfl)<|e_mv rfl<|e_p (zK ye rfl)<|e_p (zib rfl rfl)<|zf<|zd<|zG rfl (fun hlen=> ?_) (fun hlen=> ?_)
 ·
  refine ze<|ze<|za<|e_mv rfl<|e_p (zK ye rfl)<|e_mv rfl<|e_p (zK ye rfl)<|e_p (zX rfl rfl)<|zf<|zd<|zG rfl (fun hll=> ?_) (fun hll=> ?_)
  ·
   refine ze<|za<|e_p (zb rfl)<|zf<|zd<|zC<|zk<|zk ?_
   exact zu yH () trivial (zn rfl) (by rw [← Big.cmp_len om,Big.cmp_lt om]) (ho:=oN) sN
  ·
   refine zB<|zd<|ze<|za<|e_p (zb rfl)<|zf<|zd<|zC<|zk ?_
   exact zu yH () trivial (zn rfl) (by rw [← Big.cmp_len om,Big.cmp_gt om]) (ho:=oN) sN
 ·
  replace hlen:(yd a).length=(yd b).length:=by omega
  refine zB<|zd<|ze<|ze<|za<|e_mv rfl<|e_p (zK ye rfl)<|e_p (zca (z:=((((yd a).length:Nat):Int) - 1)) rfl rfl (w64 om))<|e_p (zb rfl)<|zf<|zd<|zx<|zja (X:=Nat) (fun x:Nat=>x≤(yd a).length∧(yd a).drop x=(yd b).drop x) (fun x=>[(5,ya yb (((x:Nat):Int) - 1)),(0,.slice p1 ((yd a).length) c1),(1,.slice p2 ((yd b).length) c2)]) (fun x=>[]) (fun x=>[slF (rI .u32) p1 c1 (yd a),slF (rI .u32) p2 c2 (yd b)]) (fun x:Nat=>x) ((yd a).length) (show ((yd a).length)≤(yd a).length∧(yd a).drop ((yd a).length)=(yd b).drop ((yd a).length) from by exact ⟨Nat.le_refl _,by rw [List.drop_length,hlen,List.drop_length]⟩) ((.e rfl cgs (.c rfl (.c rfl .n))):SubM _ _) (ho:=oN) ((.of [0,1] rfl):SelR _ _ _) ?_
  rintro j hI
  replace hI:j≤(yd a).length∧(yd a).drop j=(yd b).drop j:=hI
  try dsimp only
  obtain ⟨hj,hd⟩:=hI
  refine ze<|ze<|za<|e_mv rfl<|e_p (zXa rfl rfl)<|zf<|zd<|zG rfl (fun h1=> ?_) (fun h1=> ?_)
  ·
   obtain ⟨k,rfl⟩:∃k,j=k+1:=⟨j - 1,by omega⟩
   have e2:(((((k+1):Nat):Int) - 1):Int)=((k:Nat):Int):=by omega
   rw [e2]
   refine zB<|zd<|ze<|zx<|ze<|ze<|zV (OW:=[]) (O:=[]) 100000 mixed (.then (.then (.block (.then (.then (.block (.then .ret))))))) kr<|e_dm 0 rfl rfl rfl<|e_dm 1 rfl rfl rfl<|zHa (x0:=((yd a).getD k 0)) 2 rfl rfl kr kr 0 k rfl ye sz84 rfl rfl rfl cbs rfl rfl (gD (d:=0) om) (fun b3 o4 hok5=> ?_)
   replace hok5:=zy.1 hok5
   refine e_u 3 rfl rfl (zt (j:=0) 0 ty84 rfl rfl rfl rfl)<|e_dm 4 rfl rfl rfl<|e_dm 5 rfl rfl rfl<|zHa (x0:=((yd b).getD k 0)) 6 rfl rfl kr kr 2 k rfl ye sz84 rfl rfl rfl cbs rfl rfl (gD (d:=0) om) (fun b6 o7 hok8=> ?_)
   replace hok8:=zy.1 hok8
   refine e_u 7 rfl rfl (zt (j:=0) 0 ty84 rfl rfl rfl rfl)<|e_pv 8 rfl rfl (zX rfl rfl)<|zH kr<|zd<|zG rfl (fun hlt=> ?_) (fun hlt=> ?_)
   ·
    refine ze<|za<|e_p (zb rfl)<|zf<|zd<|zC<|zk<|zM<|zk<|zk<|zM<|zk ?_
    exact zu yH () trivial (zn rfl) (by rw [← Big.cmp_at hlen om hd om,Big.cmp_lt om]) (ho:=oN) sN
   ·
    refine zB<|zd<|ze<|zV (OW:=[]) (O:=[]) 100000 mixed (.then (.block (.then (.then (.block (.then .ret)))))) kr<|e_dm 0 rfl rfl rfl<|e_dm 1 rfl rfl rfl<|zHa (x0:=((yd a).getD k 0)) 2 rfl rfl kr kr 2 k rfl ye sz84 rfl rfl rfl cbs rfl rfl (gD (d:=0) om) (fun b9 o10 hok11=> ?_)
    replace hok11:=zy.1 hok11
    refine e_u 3 rfl rfl (zt (j:=0) 0 ty84 rfl rfl rfl rfl)<|e_dm 4 rfl rfl rfl<|e_dm 5 rfl rfl rfl<|zHa (x0:=((yd b).getD k 0)) 6 rfl rfl kr kr 4 k rfl ye sz84 rfl rfl rfl cbs rfl rfl (gD (d:=0) om) (fun b12 o13 hok14=> ?_)
    replace hok14:=zy.1 hok14
    refine e_u 7 rfl rfl (zt (j:=0) 0 ty84 rfl rfl rfl rfl)<|e_pv 8 rfl rfl (zCa rfl rfl)<|zH kr<|zd<|zG rfl (fun hgt=> ?_) (fun hgt=> ?_)
    ·
     refine ze<|za<|e_p (zb rfl)<|zf<|zd<|zC<|zM<|zk<|zk<|zM<|zk ?_
     exact zu yH () trivial (zn rfl) (by rw [← Big.cmp_at hlen om hd om,Big.cmp_gt om]) (ho:=oN) sN
    ·
     refine zB<|zP<|zd<|za<|e_mv rfl<|e_p (zca (z:=(((k:Nat):Int) - 1)) rfl rfl (w64 om))<|e_p (zb rfl)<|zf<|zda k (show k≤(yd a).length∧(yd a).drop k=(yd b).drop k from by exact ⟨by omega,Big.drop_more om om hd om⟩) (by show k<k+1;omega) (mR rfl) (ho:=oN) ((.of [4,5] rfl):SelR _ _ _)
  ·
   refine zfa<|zi<|zi<|zw<|zd<|ze<|za<|e_p (zb rfl)<|zf<|zd<|zC ?_
   have hj0:j=0:=by omega
   subst hj0
   have heq:=Big.cmp_eq (show yd a=yd b by simpa using hd)
   exact zu yH () trivial (zn rfl) (by rw [heq] <;> simp [Big.cmp]) (ho:=oN) sN
theorem zIe {s:Bool} {p:Option Addr} {n:Nat} {cap:Nat} {l:List Int} (hn:l.length=n) (hln:n≤4398046511104):Con yl 82 [.agg #[.bool s,.slice p n cap]] [] [slF (rI .u32) p cap l] (Y:=(Option Addr)×Nat) (fun y=>True) (fun y=> .agg #[.bool (decide ((- yf s l)<0)),.slice (y.1) ((yd ((- yf s l).natAbs)).length) (y.2)]) (fun y=>[]) (fun y=>[slF (rI .u32) (y.1) (y.2) (yd ((- yf s l).natAbs))]):=by
 refine zl Tryz.func82 rfl rfl rfl (fun c=> ?_)
 show RunC _ _ _ _ _ [(0,.agg #[.bool s,.slice p n cap])] [] [slF (rI .u32) p cap l]
 refine zU 0 rfl (fun hL0=> ?_)
 refine zUa 0 rfl (fun hE0=> ?_)
 have hnn:yI l:=fun g hg=>(zy.1 (hE0 g hg)).1
 have hb:yp (yf s l)≤n:=by have:=yK (s:=s) hnn;omega
 unfold yp at hb
 refine ze<|za<|zI rfl rfl (zR rfl rfl) (fun b1=> ?_)
 refine zI rfl rfl (zr zr30 rfl) (fun b2=> ?_)
 refine zf<|zd<|ze<|za<|e_ru (zc 1 ty30 rfl rfl (.t2 .nil))<|zm rfl rfl (.c rfl .n) ce84 (zWa (s:=s) (p:=p) (n:=n) (cap:=cap) (l:=l) (hn:=ass) (hln:=ass)) (.c (j:=0) rfl .n) ?_
 rintro ⟨p23,c24⟩ -
 dsimp only [aq,nq,cq]
 refine zj 1 rfl rfl rfl rfl rfl sz30 rfl (.t2 .nil) (.s .z)<|zf<|zd<|ze<|za<|e_p (zg yg rfl sz4 rfl rfl)<|e_ru (zh 1 ty4 rfl rfl rfl)<|e_p (zqb rfl)<|e_p (zg yg rfl sz28 rfl rfl)<|e_ru (zh 1 ty28 rfl rfl rfl)<|zm rfl rfl (.c rfl (.c rfl .n)) ce85 (ztb (s:= !(decide ((yf s l)<0))) (a:=(yf s l).natAbs) (p:=p23) (cap:=c24) (hln:=cbb)) (.c (j:=0) rfl .n) ?_
 rintro ⟨p25,c26⟩ -
 dsimp only [aq,nq,cq]
 refine zj 0 rfl rfl rfl rfl rfl sz30 rfl (.t2 .nil) .z<|zf<|zd<|zC ?_
 have hz:yD (!decide (yf s l<0)) ((yf s l).natAbs:Int)= - yf s l:=by rw [Big.sg_not,Big.sg_big]
 exact zu Tryz.results82 (p25,c26) trivial (zo 0 ty30 rfl rfl (.t2 .nil)) (by rw [hz]) (ho:=oN) ((.e (j:=0) rfl (by rw [hz]) .n):SelR _ _ _)
theorem zEf {z:Int} {p:Option Addr} {cap:Nat} (hln:yp z≤4398046511104):Con yl 82 [.agg #[.bool (decide ((z)<0)),.slice (p) ((yd ((z).natAbs)).length) (cap)]] [] [slF (rI .u32) (p) (cap) (yd ((z).natAbs))] (Y:=(Option Addr)×(Nat)) (fun y=>True) (fun y=> .agg #[.bool (decide ((- z)<0)),.slice (y.1) ((yd ((- z).natAbs)).length) (y.2)]) (fun y=>[]) (fun y=>[slF (rI .u32) (y.1) (y.2) (yd ((- z).natAbs))]):=by
  have h:= @zIe (decide ((z)<0)) p (yd (z).natAbs).length cap (yd (z).natAbs) rfl hln
  rw [yt] at h
  exact h
theorem zXd {w1:Wd} {x1:Int} (hln:yp x1≤4398046511104):Con yl 82 [.agg #[w1.b,w1.l]] [] [zF w1 (x1)] (Y:=(Wd)) (fun y=>True) (fun y=> .agg #[y.b,y.l]) (fun y=>[]) (fun y=>[zF y (- x1)]):=by
  exact zfc (zRd (fun p c=>zEf hln))
theorem zYd {s:Bool} {p:Option Addr} {n:Nat} {cap:Nat} {l:List Int} (hn:l.length=n) (hln:n≤4398046511104):Con yl 55 [.agg #[.bool s,.slice p n cap]] [] [slF (rI .u32) p cap l] (Y:=Unit) (fun y=>True) (fun y=> ya yb ((yf s l).sign)) (fun y=>[]) (fun y=>[]):=by
 refine zl Tryz.func55 rfl rfl rfl (fun c=> ?_)
 show RunC _ _ _ _ _ [(0,.agg #[.bool s,.slice p n cap])] [] [slF (rI .u32) p cap l]
 refine zU 0 rfl (fun hL0=> ?_)
 refine zUa 0 rfl (fun hE0=> ?_)
 have hnn:yI l:=fun g hg=>(zy.1 (hE0 g hg)).1
 refine ze<|za<|zI rfl rfl (zR rfl rfl) (fun b1=> ?_)
 refine e_p (zb rfl)<|zf<|zd<|ze<|za<|e_ru (zc 0 ty30 rfl rfl (.t2 .nil))<|zm rfl rfl (.c rfl .n) ce84 (zWa (s:=s) (p:=p) (n:=n) (cap:=cap) (l:=l) (hn:=ass) (hln:=ass)) (.c (j:=0) rfl .n) ?_
 rintro ⟨p22,c23⟩ -
 dsimp only [aq,nq,cq]
 refine zj 0 rfl rfl rfl rfl rfl sz30 rfl (.t2 .nil) .z<|zf<|zd<|ze<|ze<|za<|e_p (zg yg rfl sz28 rfl rfl)<|e_ru (zh 0 ty28 rfl rfl rfl)<|e_p (zK ye rfl)<|e_p (zwa rfl rfl)<|zf<|zd<|zG rfl (fun h0=> ?_) (fun h0=> ?_)
 ·
  refine ze<|za<|e_p (zb rfl)<|zf<|zd<|zC<|zk ?_
  exact zu Tryz.results55 () trivial (zn rfl) (by rw [show yf s l=0 by have:=yJ.1 (show (yd (yf s l).natAbs).length=0 by omega);omega];rfl) (ho:=oN) sN
 ·
  refine zB<|zd<|ze<|ze<|za<|e_p (zg yg rfl sz4 rfl rfl)<|e_ru (zh 0 ty4 rfl rfl rfl)<|zf<|zd<|zZa rfl (fun hs=> ?_) (fun hs=> ?_)
  ·
   refine ze<|za<|e_p (zb rfl)<|zf<|zd<|zC<|zk ?_
   exact zu Tryz.results55 () trivial (zn rfl) (by rw [Int.sign_eq_neg_one_of_neg (by simpa using hs)]) (ho:=oN) sN
  ·
   refine zB<|zd<|ze<|za<|e_p (zb rfl)<|zf<|zd<|zC ?_
   exact zu Tryz.results55 () trivial (zn rfl) (by rw [Int.sign_eq_one_of_pos (by have h2:¬yf s l<0:=(by simpa using hs);have:(yf s l).natAbs≠0:=(fun e=>h0 (by rw [e];rfl));omega)]) (ho:=oN) sN
theorem ztd {z:Int} {p:Option Addr} {cap:Nat} (hln:yp z≤4398046511104):Con yl 55 [.agg #[.bool (decide ((z)<0)),.slice (p) ((yd ((z).natAbs)).length) (cap)]] [] [slF (rI .u32) (p) (cap) (yd ((z).natAbs))] (Y:=Unit) (fun y=>True) (fun y=> ya yb ((z).sign)) (fun y=>[]) (fun y=>[]):=by
  have h:= @zYd (decide ((z)<0)) p (yd (z).natAbs).length cap (yd (z).natAbs) rfl hln
  rw [yt] at h
  exact h
theorem zEc {w1:Wd} {x1:Int} (hln:yp x1≤4398046511104):Con yl 55 [.agg #[w1.b,w1.l]] [] [zF w1 (x1)] (Y:=Unit) (fun y=>True) (fun y=> ya yb ((x1).sign)) (fun y=>[]) (fun y=>[]):=by
  exact zRd (fun p c=>ztd hln)
theorem zJe {s:Bool} {p1:Option Addr} {n1:Nat} {c1:Nat} {l1:List Int} {t:Bool} {p2:Option Addr} {n2:Nat} {c2:Nat} {l2:List Int} (hn1:l1.length=n1) (hn2:l2.length=n2) (hm1:n1≤4398046511104) (hm2:n2≤4398046511104):Con yl 54 [.agg #[.bool s,.slice p1 n1 c1],.agg #[.bool t,.slice p2 n2 c2]] [] [slF (rI .u32) p1 c1 l1,slF (rI .u32) p2 c2 l2] (Y:=(Option Addr)×Nat) (fun y=>True) (fun y=> .agg #[.bool (decide ((yf s l1+yf t l2)<0)),.slice (y.1) ((yd ((yf s l1+yf t l2).natAbs)).length) (y.2)]) (fun y=>[]) (fun y=>[slF (rI .u32) (y.1) (y.2) (yd ((yf s l1+yf t l2).natAbs))]):=by
 refine zl Tryz.func54 rfl rfl rfl (fun c=> ?_)
 show RunC _ _ _ _ _ [(0,.agg #[.bool s,.slice p1 n1 c1]),(1,.agg #[.bool t,.slice p2 n2 c2])] [] [slF (rI .u32) p1 c1 l1,slF (rI .u32) p2 c2 l2]
 refine zU 0 rfl (fun hL0=> ?_)
 refine zUa 0 rfl (fun hE0=> ?_)
 refine zU 1 rfl (fun hL1=> ?_)
 refine zUa 1 rfl (fun hE1=> ?_)
 have hnn1:yI l1:=fun g hg=>(zy.1 (hE0 g hg)).1
 have hnn2:yI l2:=fun g hg=>(zy.1 (hE1 g hg)).1
 have hb1:yp (yf s l1)≤n1:=by have:=yK (s:=s) hnn1;omega
 have hb2:yp (yf t l2)≤n2:=by have:=yK (s:=t) hnn2;omega
 unfold yp at hb1 hb2
 refine ze<|za<|zI rfl rfl (zR rfl rfl) (fun b1=> ?_)
 refine zI rfl rfl (zR rfl rfl) (fun b2=> ?_)
 refine zI rfl rfl (zr zr30 rfl) (fun b3=> ?_)
 refine zf<|zd<|ze<|zqa (.c (i:=2) rfl (.c (i:=1) rfl (.c (i:=0) rfl .n)))<|zV (OW:=[boxA b1 30 [.bool s,.slice p1 n1 c1],boxA b2 30 [.bool t,.slice p2 n2 c2]]) (O:=[boxA b3 30 [wz.b,wz.l]]) 4 mixed (.then .ret) kr<|e_uw 0 rfl rfl (zc 0 ty30 rfl rfl (.t2 .nil))<|e_uw 2 rfl rfl (zc 1 ty30 rfl rfl (.t2 .nil))<|e_one 1 (zp rfl rfl rfl rfl (.c rfl .n) ce84 (zWa (s:=s) (p:=p1) (n:=n1) (cap:=c1) (l:=l1) (hn:=ass) (hln:=ass)) (.c (j:=0) rfl .n) ?_)
 rintro ⟨p24,c25⟩ -
 dsimp only [aq,nq,cq]
 refine e_one 3 (zp rfl rfl rfl rfl (.c rfl .n) ce84 (zWa (s:=t) (p:=p2) (n:=n2) (cap:=c2) (l:=l2) (hn:=ass) (hln:=ass)) (.c (j:=2) rfl .n) ?_)
 rintro ⟨p26,c27⟩ -
 dsimp only [aq,nq,cq]
 refine e_one 4 (zv kr rfl rfl rfl rfl rfl sz30 rfl (.t2 .nil) ?_)
 refine zza (zea (i:=1) rfl)<|e_one 5 (zv kr rfl rfl rfl rfl rfl sz30 rfl (.t2 .nil) ?_)
 refine zH kr<|zd<|ze<|ze<|za<|e_p (zg yg rfl sz4 rfl rfl)<|e_ru (zh 1 ty4 rfl rfl rfl)<|e_p (zg yg rfl sz4 rfl rfl)<|e_ru (zh 0 ty4 rfl rfl rfl)<|e_p (zZc yA rfl rfl)<|zf<|zd<|zG rfl (fun hst=> ?_) (fun hst=> ?_)
 ·
  refine ze<|zqa (.c (i:=2) rfl (.c (i:=0) rfl (.c (i:=0) rfl .n)))<|zV (OW:=[boxA b3 30 [wz.b,wz.l]]) (O:=[boxA b2 30 [.bool (decide ((yf t l2)<0)),.slice p26 ((yd ((yf t l2).natAbs)).length) c27],boxA b1 30 [.bool (decide ((yf s l1)<0)),.slice p24 ((yd ((yf s l1).natAbs)).length) c25]]) 8 mixed (.then (.then .ret)) kr<|e_pv 0 rfl rfl (zg yg rfl sz4 rfl rfl)<|e_uw 1 rfl rfl (zh 2 ty4 rfl rfl rfl)<|e_pv 2 rfl rfl (zg yg rfl sz28 rfl rfl)<|e_uw 3 rfl rfl (zh 2 ty28 rfl rfl rfl)<|e_pv 4 rfl rfl (zg yg rfl sz28 rfl rfl)<|e_uw 5 rfl rfl (zh 1 ty28 rfl rfl rfl)<|e_one 6 (zp rfl rfl rfl rfl (.c rfl (.c rfl .n)) ce86 (zDf (a:=(yf s l1).natAbs) (b:=(yf t l2).natAbs) (p1:=p24) (c1:=c25) (p2:=p26) (c2:=c27) (hb1:=by first|rfl|assumption|omega|(unfold yp;omega)|(simp;done)|(simp;omega)|(simp_all;done)) (hb2:=by first|rfl|assumption|omega|(unfold yp;omega)|(simp;done)|(simp;omega)|(simp_all;done))) (.c (j:=1) rfl (.c (j:=0) rfl .n)) ?_)
  rintro ⟨p38,c39⟩ -
  dsimp only [aq,nq,cq]
  refine e_one 7 (zp rfl rfl rfl rfl (.c rfl (.c rfl .n)) ce85 (ztb (s:=decide ((yf s l1)<0)) (a:=((yf s l1).natAbs)+((yf t l2).natAbs)) (p:=p38) (cap:=c39) (hln:=by have:=Big.len_add (yf s l1).natAbs (yf t l2).natAbs;omega)) (.c (j:=0) rfl .n) ?_)
  rintro ⟨p210,c211⟩ -
  dsimp only [aq,nq,cq]
  refine e_one 8 (zv kr rfl rfl rfl rfl rfl sz30 rfl (.t2 .nil) ?_)
  refine zH kr<|zd<|zC<|zk ?_
  have hz:=Big.add_same hst
  exact zu Tryz.results54 (p210,c211) trivial (zo 0 ty30 rfl rfl (.t2 .nil)) (by rw [hz]) (ho:=oN) ((.e (j:=0) rfl (by rw [hz]) .n):SelR _ _ _)
 ·
  refine zB<|zd<|ze<|ze<|za<|e_p (zg yg rfl sz28 rfl rfl)<|e_ru (zh 1 ty28 rfl rfl rfl)<|e_p (zg yg rfl sz28 rfl rfl)<|e_ru (zh 0 ty28 rfl rfl rfl)<|zJ rfl rfl (.c rfl (.c rfl .n)) ce87 (zjd (a:=(yf s l1).natAbs) (b:=(yf t l2).natAbs) (p1:=p24) (c1:=c25) (p2:=p26) (c2:=c27)) (.c (j:=1) rfl (.c (j:=0) rfl .n))<|e_p (zXa rfl rfl)<|zf<|zd<|zG rfl (fun hcmp=> ?_) (fun hcmp=> ?_)
  ·
   have hab:(yf t l2).natAbs≤(yf s l1).natAbs:=by have:=yF.1 hcmp;omega
   refine ze<|zqa (.c (i:=2) rfl (.c (i:=0) rfl (.c (i:=0) rfl .n)))<|zV (OW:=[boxA b3 30 [wz.b,wz.l]]) (O:=[boxA b2 30 [.bool (decide ((yf t l2)<0)),.slice p26 ((yd ((yf t l2).natAbs)).length) c27],boxA b1 30 [.bool (decide ((yf s l1)<0)),.slice p24 ((yd ((yf s l1).natAbs)).length) c25]]) 8 mixed (.then (.then .ret)) kr<|e_pv 0 rfl rfl (zg yg rfl sz4 rfl rfl)<|e_uw 1 rfl rfl (zh 2 ty4 rfl rfl rfl)<|e_pv 2 rfl rfl (zg yg rfl sz28 rfl rfl)<|e_uw 3 rfl rfl (zh 2 ty28 rfl rfl rfl)<|e_pv 4 rfl rfl (zg yg rfl sz28 rfl rfl)<|e_uw 5 rfl rfl (zh 1 ty28 rfl rfl rfl)<|e_one 6 (zp rfl rfl rfl rfl (.c rfl (.c rfl .n)) ce88 (zYb (a:=(yf s l1).natAbs) (b:=(yf t l2).natAbs) (p1:=p24) (c1:=c25) (p2:=p26) (c2:=c27) (hb1:=by first|rfl|assumption|omega|(unfold yp;omega)|(simp;done)|(simp;omega)|(simp_all;done)) (hb2:=by first|rfl|assumption|omega|(unfold yp;omega)|(simp;done)|(simp;omega)|(simp_all;done)) (hab:=by first|rfl|assumption|omega|(unfold yp;omega)|(simp;done)|(simp;omega)|(simp_all;done))) (.c (j:=1) rfl (.c (j:=0) rfl .n)) ?_)
   rintro ⟨p312,c313⟩ -
   dsimp only [aq,nq,cq]
   refine e_one 7 (zp rfl rfl rfl rfl (.c rfl (.c rfl .n)) ce85 (ztb (s:=decide ((yf s l1)<0)) (a:=((yf s l1).natAbs) - ((yf t l2).natAbs)) (p:=p312) (cap:=c313) (hln:=by have:=Big.len_sub (yf s l1).natAbs (yf t l2).natAbs;omega)) (.c (j:=0) rfl .n) ?_)
   rintro ⟨p214,c215⟩ -
   dsimp only [aq,nq,cq]
   refine e_one 8 (zv kr rfl rfl rfl rfl rfl sz30 rfl (.t2 .nil) ?_)
   refine zH kr<|zd<|zC<|zk ?_
   have hz:=Big.add_ge hst hab
   exact zu Tryz.results54 (p214,c215) trivial (zo 0 ty30 rfl rfl (.t2 .nil)) (by rw [hz]) (ho:=oN) ((.e (j:=0) rfl (by rw [hz]) .n):SelR _ _ _)
  ·
   have hab:(yf s l1).natAbs≤(yf t l2).natAbs:=by have:¬((yf t l2).natAbs:Int)≤(yf s l1).natAbs:=fun h=>hcmp (yF.2 h);omega
   refine zB<|zd<|ze<|zqa (.c (i:=2) rfl (.c (i:=0) rfl (.c (i:=0) rfl .n)))<|zV (OW:=[boxA b3 30 [wz.b,wz.l]]) (O:=[boxA b2 30 [.bool (decide ((yf t l2)<0)),.slice p26 ((yd ((yf t l2).natAbs)).length) c27],boxA b1 30 [.bool (decide ((yf s l1)<0)),.slice p24 ((yd ((yf s l1).natAbs)).length) c25]]) 8 mixed (.then .ret) kr<|e_pv 0 rfl rfl (zg yg rfl sz4 rfl rfl)<|e_uw 1 rfl rfl (zh 1 ty4 rfl rfl rfl)<|e_pv 2 rfl rfl (zg yg rfl sz28 rfl rfl)<|e_uw 3 rfl rfl (zh 1 ty28 rfl rfl rfl)<|e_pv 4 rfl rfl (zg yg rfl sz28 rfl rfl)<|e_uw 5 rfl rfl (zh 2 ty28 rfl rfl rfl)<|e_one 6 (zp rfl rfl rfl rfl (.c rfl (.c rfl .n)) ce88 (zYb (a:=(yf t l2).natAbs) (b:=(yf s l1).natAbs) (p1:=p26) (c1:=c27) (p2:=p24) (c2:=c25) (hb1:=by first|rfl|assumption|omega|(unfold yp;omega)|(simp;done)|(simp;omega)|(simp_all;done)) (hb2:=by first|rfl|assumption|omega|(unfold yp;omega)|(simp;done)|(simp;omega)|(simp_all;done)) (hab:=by first|rfl|assumption|omega|(unfold yp;omega)|(simp;done)|(simp;omega)|(simp_all;done))) (.c (j:=0) rfl (.c (j:=1) rfl .n)) ?_)
   rintro ⟨p316,c317⟩ -
   dsimp only [aq,nq,cq]
   refine e_one 7 (zp rfl rfl rfl rfl (.c rfl (.c rfl .n)) ce85 (ztb (s:=decide ((yf t l2)<0)) (a:=((yf t l2).natAbs) - ((yf s l1).natAbs)) (p:=p316) (cap:=c317) (hln:=by have:=Big.len_sub (yf t l2).natAbs (yf s l1).natAbs;omega)) (.c (j:=0) rfl .n) ?_)
   rintro ⟨p218,c219⟩ -
   dsimp only [aq,nq,cq]
   refine e_one 8 (zv kr rfl rfl rfl rfl rfl sz30 rfl (.t2 .nil) ?_)
   refine zH kr<|zd<|zC ?_
   have hz:=Big.add_lt hst hab
   exact zu Tryz.results54 (p218,c219) trivial (zo 0 ty30 rfl rfl (.t2 .nil)) (by rw [hz]) (ho:=oN) ((.e (j:=0) rfl (by rw [hz]) .n):SelR _ _ _)
theorem zFf {x1:Int} {x2:Int} {p1:Option Addr} {c1:Nat} {p2:Option Addr} {c2:Nat} (hb1:yp x1≤4398046511104) (hb2:yp x2≤4398046511104):Con yl 54 [.agg #[.bool (decide ((x1)<0)),.slice (p1) ((yd ((x1).natAbs)).length) (c1)],.agg #[.bool (decide ((x2)<0)),.slice (p2) ((yd ((x2).natAbs)).length) (c2)]] [] [slF (rI .u32) (p1) (c1) (yd ((x1).natAbs)),slF (rI .u32) (p2) (c2) (yd ((x2).natAbs))] (Y:=(Option Addr)×(Nat)) (fun y=>True) (fun y=> .agg #[.bool (decide ((x1+x2)<0)),.slice (y.1) ((yd ((x1+x2).natAbs)).length) (y.2)]) (fun y=>[]) (fun y=>[slF (rI .u32) (y.1) (y.2) (yd ((x1+x2).natAbs))]):=by
  have h:= @zJe (decide ((x1)<0)) p1 (yd (x1).natAbs).length c1 (yd (x1).natAbs) (decide ((x2)<0)) p2 (yd (x2).natAbs).length c2 (yd (x2).natAbs) rfl rfl hb1 hb2
  rw [yt,yt] at h
  exact h
theorem zGf {w1:Wd} {w2:Wd} {x1:Int} {x2:Int} (hb1:yp x1≤4398046511104) (hb2:yp x2≤4398046511104):Con yl 54 [.agg #[w1.b,w1.l],.agg #[w2.b,w2.l]] [] [zF w1 (x1),zF w2 (x2)] (Y:=(Wd)) (fun y=>True) (fun y=> .agg #[y.b,y.l]) (fun y=>[]) (fun y=>[zF y (x1+x2)]):=by
  exact zfc (zqc (fun p1 c1 p2 c2=>zFf hb1 hb2))
theorem zKe {s:Bool} {p1:Option Addr} {n1:Nat} {c1:Nat} {l1:List Int} {t:Bool} {p2:Option Addr} {n2:Nat} {c2:Nat} {l2:List Int} (hn1:l1.length=n1) (hn2:l2.length=n2) (hm1:n1≤4398046511104) (hm2:n2≤4398046511104):Con yl 111 [.agg #[.bool s,.slice p1 n1 c1],.agg #[.bool t,.slice p2 n2 c2]] [] [slF (rI .u32) p1 c1 l1,slF (rI .u32) p2 c2 l2] (Y:=(Option Addr)×Nat) (fun y=>True) (fun y=> .agg #[.bool (decide ((yf s l1 - yf t l2)<0)),.slice (y.1) ((yd ((yf s l1 - yf t l2).natAbs)).length) (y.2)]) (fun y=>[]) (fun y=>[slF (rI .u32) (y.1) (y.2) (yd ((yf s l1 - yf t l2).natAbs))]):=by
 refine zl Tryz.func111 rfl rfl rfl (fun c=> ?_)
 show RunC _ _ _ _ _ [(0,.agg #[.bool s,.slice p1 n1 c1]),(1,.agg #[.bool t,.slice p2 n2 c2])] [] [slF (rI .u32) p1 c1 l1,slF (rI .u32) p2 c2 l2]
 refine zU 0 rfl (fun hL0=> ?_)
 refine zUa 0 rfl (fun hE0=> ?_)
 refine zU 1 rfl (fun hL1=> ?_)
 refine zUa 1 rfl (fun hE1=> ?_)
 have hnn1:yI l1:=fun g hg=>(zy.1 (hE0 g hg)).1
 have hnn2:yI l2:=fun g hg=>(zy.1 (hE1 g hg)).1
 have hb1:yp (yf s l1)≤n1:=by have:=yK (s:=s) hnn1;omega
 have hb2:yp (yf t l2)≤n2:=by have:=yK (s:=t) hnn2;omega
 unfold yp at hb1 hb2
 refine ze<|za<|zI rfl rfl (zR rfl rfl) (fun b1=> ?_)
 refine zI rfl rfl (zR rfl rfl) (fun b2=> ?_)
 refine zI rfl rfl (zr zr30 rfl) (fun b3=> ?_)
 refine zf<|zd<|ze<|zV (OW:=[boxA b3 30 [wz.b,wz.l]]) (O:=[boxA b2 30 [.bool t,.slice p2 n2 c2],boxA b1 30 [.bool s,.slice p1 n1 c1]]) 4 mixed (.then .ret) kr<|e_uw 0 rfl rfl (zc 2 ty30 rfl rfl (.t2 .nil))<|e_uw 1 rfl rfl (zc 1 ty30 rfl rfl (.t2 .nil))<|e_one 2 (zp rfl rfl rfl rfl (.c rfl .n) ce82 (zIe (s:=t) (p:=p2) (n:=n2) (cap:=c2) (l:=l2) (hn:=ass) (hln:=ass)) (.c (j:=1) rfl .n) ?_)
 rintro ⟨p24,c25⟩ -
 dsimp only [aq,nq,cq]
 refine e_one 3 (zp rfl rfl rfl rfl (.c rfl (.c rfl .n)) ce54 (zJe (s:=s) (p1:=p1) (n1:=n1) (c1:=c1) (l1:=l1) (t:=decide ((- yf t l2)<0)) (p2:=p24) (n2:=(yd ((- yf t l2).natAbs)).length) (c2:=c25) (l2:=yd ((- yf t l2).natAbs)) (hn1:=ass) (hn2:=by first|rfl|assumption|omega|(rw [Int.natAbs_neg];omega)) (hm1:=ass) (hm2:=by first|rfl|assumption|omega|(rw [Int.natAbs_neg];omega))) (.c (j:=1) rfl (.c (j:=0) rfl .n)) ?_)
 rintro ⟨p36,c37⟩ -
 dsimp only [aq,nq,cq]
 refine e_one 4 (zv kr rfl rfl rfl rfl rfl sz30 rfl (.t2 .nil) ?_)
 refine zH kr<|zd<|zC ?_
 have hz:yf s l1+yf (decide ((- yf t l2)<0)) (yd (- yf t l2).natAbs)=yf s l1 - yf t l2:=by rw [yt];omega
 exact zu Tryz.results111 (p36,c37) trivial (zo 0 ty30 rfl rfl (.t2 .nil)) (by rw [hz]) (ho:=oN) ((.e (j:=0) rfl (by rw [hz]) .n):SelR _ _ _)
theorem zwc {x1:Int} {x2:Int} {p1:Option Addr} {c1:Nat} {p2:Option Addr} {c2:Nat} (hb1:yp x1≤4398046511104) (hb2:yp x2≤4398046511104):Con yl 111 [.agg #[.bool (decide ((x1)<0)),.slice (p1) ((yd ((x1).natAbs)).length) (c1)],.agg #[.bool (decide ((x2)<0)),.slice (p2) ((yd ((x2).natAbs)).length) (c2)]] [] [slF (rI .u32) (p1) (c1) (yd ((x1).natAbs)),slF (rI .u32) (p2) (c2) (yd ((x2).natAbs))] (Y:=(Option Addr)×(Nat)) (fun y=>True) (fun y=> .agg #[.bool (decide ((x1 - x2)<0)),.slice (y.1) ((yd ((x1 - x2).natAbs)).length) (y.2)]) (fun y=>[]) (fun y=>[slF (rI .u32) (y.1) (y.2) (yd ((x1 - x2).natAbs))]):=by
  have h:= @zKe (decide ((x1)<0)) p1 (yd (x1).natAbs).length c1 (yd (x1).natAbs) (decide ((x2)<0)) p2 (yd (x2).natAbs).length c2 (yd (x2).natAbs) rfl rfl hb1 hb2
  rw [yt,yt] at h
  exact h
theorem zdg {s:Bool} {p1:Option Addr} {n1:Nat} {c1:Nat} {l1:List Int} {t:Bool} {p2:Option Addr} {n2:Nat} {c2:Nat} {l2:List Int} (hn1:l1.length=n1) (hn2:l2.length=n2) (hm1:n1≤4398046511104) (hm2:n2≤4398046511104):Con yl 52 [.agg #[.bool s,.slice p1 n1 c1],.agg #[.bool t,.slice p2 n2 c2]] [] [slF (rI .u32) p1 c1 l1,slF (rI .u32) p2 c2 l2] (Y:=(Option Addr)×Nat) (fun y=>True) (fun y=> .agg #[.bool (decide ((yf s l1*yf t l2)<0)),.slice (y.1) ((yd ((yf s l1*yf t l2).natAbs)).length) (y.2)]) (fun y=>[]) (fun y=>[slF (rI .u32) (y.1) (y.2) (yd ((yf s l1*yf t l2).natAbs))]):=by
 refine zl Tryz.func52 rfl rfl rfl (fun c=> ?_)
 show RunC _ _ _ _ _ [(0,.agg #[.bool s,.slice p1 n1 c1]),(1,.agg #[.bool t,.slice p2 n2 c2])] [] [slF (rI .u32) p1 c1 l1,slF (rI .u32) p2 c2 l2]
 refine zU 0 rfl (fun hL0=> ?_)
 refine zUa 0 rfl (fun hE0=> ?_)
 refine zU 1 rfl (fun hL1=> ?_)
 refine zUa 1 rfl (fun hE1=> ?_)
 have hnn1:yI l1:=fun g hg=>(zy.1 (hE0 g hg)).1
 have hnn2:yI l2:=fun g hg=>(zy.1 (hE1 g hg)).1
 have hb1:yp (yf s l1)≤n1:=by have:=yK (s:=s) hnn1;omega
 have hb2:yp (yf t l2)≤n2:=by have:=yK (s:=t) hnn2;omega
 unfold yp at hb1 hb2
 have hoa:=ym (yf s l1).natAbs
 have hob:=ym (yf t l2).natAbs
 refine ze<|za<|zI rfl rfl (zR rfl rfl) (fun b1=> ?_)
 refine zI rfl rfl (zR rfl rfl) (fun b2=> ?_)
 refine zI rfl rfl (zr zr30 rfl) (fun b3=> ?_)
 refine zf<|zd<|ze<|zqa (.c (i:=2) rfl (.c (i:=1) rfl (.c (i:=0) rfl .n)))<|zV (OW:=[boxA b1 30 [.bool s,.slice p1 n1 c1],boxA b2 30 [.bool t,.slice p2 n2 c2]]) (O:=[boxA b3 30 [wz.b,wz.l]]) 4 mixed (.then .ret) kr<|e_uw 0 rfl rfl (zc 0 ty30 rfl rfl (.t2 .nil))<|e_uw 2 rfl rfl (zc 1 ty30 rfl rfl (.t2 .nil))<|e_one 1 (zp rfl rfl rfl rfl (.c rfl .n) ce84 (zWa (s:=s) (p:=p1) (n:=n1) (cap:=c1) (l:=l1) (hn:=ass) (hln:=ass)) (.c (j:=0) rfl .n) ?_)
 rintro ⟨p24,c25⟩ -
 dsimp only [aq,nq,cq]
 refine e_one 3 (zp rfl rfl rfl rfl (.c rfl .n) ce84 (zWa (s:=t) (p:=p2) (n:=n2) (cap:=c2) (l:=l2) (hn:=ass) (hln:=ass)) (.c (j:=2) rfl .n) ?_)
 rintro ⟨p26,c27⟩ -
 dsimp only [aq,nq,cq]
 refine e_one 4 (zv kr rfl rfl rfl rfl rfl sz30 rfl (.t2 .nil) ?_)
 refine zza (zea (i:=1) rfl)<|e_one 5 (zv kr rfl rfl rfl rfl rfl sz30 rfl (.t2 .nil) ?_)
 refine zH kr<|zd<|ze<|za<|e_p (zg yg rfl sz28 rfl rfl)<|e_ru (zh 1 ty28 rfl rfl rfl)<|e_p (zK ye rfl)<|e_p (zg yg rfl sz28 rfl rfl)<|e_ru (zh 0 ty28 rfl rfl rfl)<|e_p (zK ye rfl)<|e_p (zL (z:=(((((yd ((yf s l1).natAbs)).length)+((yd ((yf t l2).natAbs)).length)):Nat):Int)) rfl rfl (w64 om))<|zva rfl rfl (zab (r:=rI .u32) (k:=(((yd ((yf s l1).natAbs)).length)+((yd ((yf t l2).natAbs)).length))) (x0:=0) (γ0:=()) ye inf84 rfl rfl rfl rfl om om rfl (fun g _=>by exact zy.2 dd) dd) (fun b8 _=> ?_)
 refine e_p (zb rfl)<|zf<|zd<|ze<|ze<|za<|e_p (zb rfl)<|zf<|zd<|zx<|zja (X:=Nat×(List Int)) (fun x:Nat×(List Int)=>x.1≤(yd (yf s l1).natAbs).length∧x.2.length=(yd (yf s l1).natAbs).length+(yd (yf t l2).natAbs).length∧yv x.2∧(∀k,x.1+(yd (yf t l2).natAbs).length≤k→x.2.getD k 0=0)∧yj x.2=yj ((yd (yf s l1).natAbs).take x.1)*yj (yd (yf t l2).natAbs)) (fun x=>[(6,ya yb ((x.1:Nat):Int)),(5,.slice (some ⟨b8,0,none⟩) (((yd ((yf s l1).natAbs)).length)+((yd ((yf t l2).natAbs)).length)) (((yd ((yf s l1).natAbs)).length)+((yd ((yf t l2).natAbs)).length))),(4,yc (some ⟨b3,0,none⟩)),(3,yc (some ⟨b2,0,none⟩)),(2,yc (some ⟨b1,0,none⟩))]) (fun x=>[rowA 84 (rI .u32) (some ⟨b8,0,none⟩) (((yd ((yf s l1).natAbs)).length)+((yd ((yf t l2).natAbs)).length)) (x.2),boxA b2 30 [.bool (decide ((yf t l2)<0)),.slice p26 ((yd ((yf t l2).natAbs)).length) c27],boxA b1 30 [.bool (decide ((yf s l1)<0)),.slice p24 ((yd ((yf s l1).natAbs)).length) c25],boxA b3 30 [wz.b,wz.l]]) (fun x=>[slF (rI .u32) p26 c27 (yd ((yf t l2).natAbs)),slF (rI .u32) p24 c25 (yd ((yf s l1).natAbs)),slF (rI .u32) p1 c1 l1,slF (rI .u32) p2 c2 l2]) (fun x:Nat×(List Int)=>(yd (yf s l1).natAbs).length - x.1) (0,List.replicate ((yd (yf s l1).natAbs).length+(yd (yf t l2).natAbs).length) 0) (show 0≤(yd (yf s l1).natAbs).length∧(List.replicate ((yd (yf s l1).natAbs).length+(yd (yf t l2).natAbs).length) 0).length=(yd (yf s l1).natAbs).length+(yd (yf t l2).natAbs).length∧yv (List.replicate ((yd (yf s l1).natAbs).length+(yd (yf t l2).natAbs).length) 0)∧(∀k,0+(yd (yf t l2).natAbs).length≤k→(List.replicate ((yd (yf s l1).natAbs).length+(yd (yf t l2).natAbs).length) 0).getD k 0=0)∧yj (List.replicate ((yd (yf s l1).natAbs).length+(yd (yf t l2).natAbs).length) 0)=yj ((yd (yf s l1).natAbs).take 0)*yj (yd (yf t l2).natAbs) from by exact ⟨by omega,by simp,Big.okL_zeros _,fun k _=>Big.getD_zeros _ k,by simp [Big.valL_zeros,yj]⟩) ((.e rfl cgs (.of rfl)):SubM _ _) (ho:=((.e (i:=0) rfl cgs (.of [0,0,0] rfl)):PickO _ _ _)) ((.of [0,1,2,3] rfl):SelR _ _ _) ?_
 rintro ⟨i,os⟩ hI
 replace hI:i≤(yd (yf s l1).natAbs).length∧os.length=(yd (yf s l1).natAbs).length+(yd (yf t l2).natAbs).length∧yv os∧(∀k,i+(yd (yf t l2).natAbs).length≤k→os.getD k 0=0)∧yj os=yj ((yd (yf s l1).natAbs).take i)*yj (yd (yf t l2).natAbs):=hI
 try dsimp only
 obtain ⟨hi,hol,hok,hz,hv⟩:=hI
 have hg1:=yn hoa i
 refine ze<|ze<|za<|e_mv rfl<|e_p (zg yg rfl sz28 rfl rfl)<|e_ru (zh 2 ty28 rfl rfl rfl)<|e_p (zK ye rfl)<|e_p (zX rfl rfl)<|zf<|zd<|zG rfl (fun h9=> ?_) (fun h9=> ?_)
 ·
  refine zB<|zd<|ze<|zx<|ze<|za<|e_p (zb rfl)<|zf<|zd<|ze<|ze<|za<|e_p (zb rfl)<|zf<|zd<|zx<|zja (X:=Nat×(List Int)×Int) (fun x:Nat×(List Int)×Int=>x.1≤(yd (yf t l2).natAbs).length∧x.2.1.length=(yd (yf s l1).natAbs).length+(yd (yf t l2).natAbs).length∧yv x.2.1∧0≤x.2.2∧x.2.2<1000000000∧(∀k,i+(yd (yf t l2).natAbs).length≤k→x.2.1.getD k 0=0)∧yj x.2.1+yz (i+x.1)*x.2.2=yj ((yd (yf s l1).natAbs).take i)*yj (yd (yf t l2).natAbs)+yz i*(yd (yf s l1).natAbs).getD i 0*yj ((yd (yf t l2).natAbs).take x.1)) (fun x=>[(7,.int .u64 (x.2.2)),(8,ya yb ((x.1:Nat):Int)),(6,ya yb ((i:Nat):Int)),(5,.slice (some ⟨b8,0,none⟩) (((yd ((yf s l1).natAbs)).length)+((yd ((yf t l2).natAbs)).length)) (((yd ((yf s l1).natAbs)).length)+((yd ((yf t l2).natAbs)).length))),(4,yc (some ⟨b3,0,none⟩)),(3,yc (some ⟨b2,0,none⟩)),(2,yc (some ⟨b1,0,none⟩))]) (fun x=>[rowA 84 (rI .u32) (some ⟨b8,0,none⟩) (((yd ((yf s l1).natAbs)).length)+((yd ((yf t l2).natAbs)).length)) (x.2.1),boxA b2 30 [.bool (decide ((yf t l2)<0)),.slice p26 ((yd ((yf t l2).natAbs)).length) c27],boxA b1 30 [.bool (decide ((yf s l1)<0)),.slice p24 ((yd ((yf s l1).natAbs)).length) c25],boxA b3 30 [wz.b,wz.l]]) (fun x=>[slF (rI .u32) p26 c27 (yd ((yf t l2).natAbs)),slF (rI .u32) p24 c25 (yd ((yf s l1).natAbs)),slF (rI .u32) p1 c1 l1,slF (rI .u32) p2 c2 l2]) (fun x:Nat×(List Int)×Int=>(yd (yf t l2).natAbs).length - x.1) (0,os,0) (show 0≤(yd (yf t l2).natAbs).length∧os.length=(yd (yf s l1).natAbs).length+(yd (yf t l2).natAbs).length∧yv os∧0≤0∧0<1000000000∧(∀k,i+(yd (yf t l2).natAbs).length≤k→os.getD k 0=0)∧yj os+yz (i+0)*0=yj ((yd (yf s l1).natAbs).take i)*yj (yd (yf t l2).natAbs)+yz i*(yd (yf s l1).natAbs).getD i 0*yj ((yd (yf t l2).natAbs).take 0) from by exact ⟨by omega,hol,hok,by decide,by decide,hz,by rw [hv];simp [yj]⟩) ((.c rfl (.e rfl cgs (.of rfl))):SubM _ _) (ho:=((.of [0,0,0,0] rfl):PickO _ _ _)) ((.of [0,1,2,3] rfl):SelR _ _ _) ?_
  rintro ⟨j,os2,cy⟩ hJ
  replace hJ:j≤(yd (yf t l2).natAbs).length∧os2.length=(yd (yf s l1).natAbs).length+(yd (yf t l2).natAbs).length∧yv os2∧0≤cy∧cy<1000000000∧(∀k,i+(yd (yf t l2).natAbs).length≤k→os2.getD k 0=0)∧yj os2+yz (i+j)*cy=yj ((yd (yf s l1).natAbs).take i)*yj (yd (yf t l2).natAbs)+yz i*(yd (yf s l1).natAbs).getD i 0*yj ((yd (yf t l2).natAbs).take j):=hJ
  try dsimp only
  obtain ⟨hj,hol2,hok2,hcy0,hcy1,hz2,hv2⟩:=hJ
  have hg2:=yn hob j
  have hg3:=yn hok2 (i+j)
  have hpq:=Big.mul_lim hg1 hg2
  refine ze<|ze<|za<|e_mv rfl<|e_p (zg yg rfl sz28 rfl rfl)<|e_ru (zh 1 ty28 rfl rfl rfl)<|e_p (zK ye rfl)<|e_p (zX rfl rfl)<|zf<|zd<|zG rfl (fun h10=> ?_) (fun h10=> ?_)
  ·
   refine zB<|zd<|ze<|zx<|ze<|zV (OW:=[]) (O:=[rowA 84 (rI .u32) (some ⟨b8,0,none⟩) (((yd ((yf s l1).natAbs)).length)+((yd ((yf t l2).natAbs)).length)) os2,boxA b2 30 [.bool (decide ((yf t l2)<0)),.slice p26 ((yd ((yf t l2).natAbs)).length) c27],boxA b1 30 [.bool (decide ((yf s l1)<0)),.slice p24 ((yd ((yf s l1).natAbs)).length) c25],boxA b3 30 [wz.b,wz.l]]) 100000 mixed (.then (.block (.then (.then (.block (.then (.block (.then (.then (.block (.then .ret))))))))))) kr<|e_dm 0 rfl rfl rfl<|e_dm 1 rfl rfl rfl<|e_dm 2 rfl rfl rfl<|e_pv 3 rfl rfl (zL (z:=(((i+j):Nat):Int)) rfl rfl (w64 om))<|e_pv 4 rfl rfl (zZ (j:=(i+j)) ye sz84 rfl rfl rfl om)<|d_vl 5 rfl rfl kr kr rfl rfl (zra 0 (i+j) rfl ty84 rfl rfl (gD (d:=0) om) rfl) (fun _ hok11=> ?_)
   replace hok11:=zy.1 hok11
   refine e_pv 6 rfl rfl (zD (z:=(os2.getD (i+j) 0)) rfl (by rw [yh];rfl) yi (wu64 om))<|e_pv 7 rfl rfl (zg yg rfl sz28 rfl rfl)<|e_u 8 rfl rfl (zh 2 ty28 rfl rfl rfl)<|e_dm 9 rfl rfl rfl<|zHa (x0:=((yd ((yf s l1).natAbs)).getD i 0)) 10 rfl rfl kr kr 1 i rfl ye sz84 rfl rfl rfl (by first|rfl|assumption|(simp;omega)|omega) rfl rfl (gD (d:=0) om) (fun b12 o13 hok14=> ?_)
   replace hok14:=zy.1 hok14
   refine e_u 11 rfl rfl (zt (j:=0) 0 ty84 rfl rfl rfl rfl)<|e_pv 12 rfl rfl (zD (z:=((yd ((yf s l1).natAbs)).getD i 0)) rfl (by rw [yh];rfl) yi (wu64 om))<|e_pv 13 rfl rfl (zg yg rfl sz28 rfl rfl)<|e_u 14 rfl rfl (zh 1 ty28 rfl rfl rfl)<|e_dm 15 rfl rfl rfl<|zHa (x0:=((yd ((yf t l2).natAbs)).getD j 0)) 16 rfl rfl kr kr 1 j rfl ye sz84 rfl rfl rfl (by first|rfl|assumption|(simp;omega)|omega) rfl rfl (gD (d:=0) om) (fun b15 o16 hok17=> ?_)
   replace hok17:=zy.1 hok17
   refine e_u 17 rfl rfl (zt (j:=0) 0 ty84 rfl rfl rfl rfl)<|e_pv 18 rfl rfl (zD (z:=((yd ((yf t l2).natAbs)).getD j 0)) rfl (by rw [yh];rfl) yi (wu64 om))<|e_pv 19 rfl rfl (zpb (z:=(((yd ((yf s l1).natAbs)).getD i 0)*((yd ((yf t l2).natAbs)).getD j 0))) rfl rfl (wu64 om))<|e_pv 20 rfl rfl (zL (z:=((os2.getD (i+j) 0)+(((yd ((yf s l1).natAbs)).getD i 0)*((yd ((yf t l2).natAbs)).getD j 0)))) rfl rfl (wu64 om))<|e_dm 21 rfl rfl rfl<|e_pv 22 rfl rfl (zL (z:=(((os2.getD (i+j) 0)+(((yd ((yf s l1).natAbs)).getD i 0)*((yd ((yf t l2).natAbs)).getD j 0)))+cy)) rfl rfl (wu64 om))<|e_pv 23 rfl rfl (zb rfl)<|zH kr<|zd<|ze<|za<|e_mv rfl<|e_mv rfl<|e_mv rfl<|e_p (zL (z:=(((i+j):Nat):Int)) rfl rfl (w64 om))<|e_mv rfl<|e_p (zmb (z:=((((os2.getD (i+j) 0)+(((yd ((yf s l1).natAbs)).getD i 0)*((yd ((yf t l2).natAbs)).getD j 0)))+cy)%1000000000)) rfl rfl om (remN om om))<|e_p (zD (z:=((((os2.getD (i+j) 0)+(((yd ((yf s l1).natAbs)).getD i 0)*((yd ((yf t l2).natAbs)).getD j 0)))+cy)%1000000000)) rfl (by rw [yi];rfl) yh (wu32 om))<|e_p (zZ (j:=(i+j)) ye sz84 rfl rfl rfl om)<|zEa 0 rfl rfl rfl (zS (j:=(i+j)) (x0:=((((os2.getD (i+j) 0)+(((yd ((yf s l1).natAbs)).getD i 0)*((yd ((yf t l2).natAbs)).getD j 0)))+cy)%1000000000)) (γ0:=()) rfl rfl (by first|omega|(rw [List.length_map];omega)|(simp only [List.length_set];omega)|(simp;done)|(simp;omega)) rfl rfl sz84 (fun _ _=>by exact zy.2 om)) (fun _=> .z) (fun _ _=> ?_)
   refine zf<|zd<|za<|e_mv rfl<|e_p (zeb (z:=((((os2.getD (i+j) 0)+(((yd ((yf s l1).natAbs)).getD i 0)*((yd ((yf t l2).natAbs)).getD j 0)))+cy) / 1000000000)) rfl rfl om (by rw [quoN (z:=((((os2.getD (i+j) 0)+(((yd ((yf s l1).natAbs)).getD i 0)*((yd ((yf t l2).natAbs)).getD j 0)))+cy) / 1000000000)) om om];exact wu64 om))<|e_p (zb rfl)<|zf<|zP<|zd<|za<|e_mv rfl<|e_p (zL (z:=(((j+1):Nat):Int)) rfl rfl (w64 om))<|e_p (zb rfl)<|zf<|zda ((j+1),os2.set (i+j) ((os2.getD (i+j) 0+(yd (yf s l1).natAbs).getD i 0*(yd (yf t l2).natAbs).getD j 0+cy)%1000000000),(os2.getD (i+j) 0+(yd (yf s l1).natAbs).getD i 0*(yd (yf t l2).natAbs).getD j 0+cy) / 1000000000) (show (j+1)≤(yd (yf t l2).natAbs).length∧(os2.set (i+j) ((os2.getD (i+j) 0+(yd (yf s l1).natAbs).getD i 0*(yd (yf t l2).natAbs).getD j 0+cy)%1000000000)).length=(yd (yf s l1).natAbs).length+(yd (yf t l2).natAbs).length∧yv (os2.set (i+j) ((os2.getD (i+j) 0+(yd (yf s l1).natAbs).getD i 0*(yd (yf t l2).natAbs).getD j 0+cy)%1000000000))∧0≤((os2.getD (i+j) 0+(yd (yf s l1).natAbs).getD i 0*(yd (yf t l2).natAbs).getD j 0+cy) / 1000000000)∧((os2.getD (i+j) 0+(yd (yf s l1).natAbs).getD i 0*(yd (yf t l2).natAbs).getD j 0+cy) / 1000000000)<1000000000∧(∀k,i+(yd (yf t l2).natAbs).length≤k→(os2.set (i+j) ((os2.getD (i+j) 0+(yd (yf s l1).natAbs).getD i 0*(yd (yf t l2).natAbs).getD j 0+cy)%1000000000)).getD k 0=0)∧yj (os2.set (i+j) ((os2.getD (i+j) 0+(yd (yf s l1).natAbs).getD i 0*(yd (yf t l2).natAbs).getD j 0+cy)%1000000000))+yz (i+(j+1))*((os2.getD (i+j) 0+(yd (yf s l1).natAbs).getD i 0*(yd (yf t l2).natAbs).getD j 0+cy) / 1000000000)=yj ((yd (yf s l1).natAbs).take i)*yj (yd (yf t l2).natAbs)+yz i*(yd (yf s l1).natAbs).getD i 0*yj ((yd (yf t l2).natAbs).take (j+1)) from by exact ⟨by omega,by simpa using hol2,yQ hok2 om om,by omega,by omega,fun k hk=>by rw [yM om];exact hz2 k om,Big.mul_step hv2 om om⟩) (by show (yd (yf t l2).natAbs).length - (j+1)<(yd (yf t l2).natAbs).length - j;omega) ((.e rfl cgs (.of rfl)):SubM _ _) (ho:=((.e (i:=0) rfl cgs (.of [0,0,0] rfl)):PickO _ _ _)) ((.of [2,3,4,5] rfl):SelR _ _ _)
  ·
   have hjb:j=(yd (yf t l2).natAbs).length:=by omega
   subst hjb
   have hv3:=hv2
   refine zfa<|zi<|zi<|zw<|zd<|za<|e_mv rfl<|e_mv rfl<|e_p (zg yg rfl sz28 rfl rfl)<|e_ru (zh 1 ty28 rfl rfl rfl)<|e_p (zK ye rfl)<|e_p (zL (z:=(((i+((yd ((yf t l2).natAbs)).length)):Nat):Int)) rfl rfl (w64 om))<|e_mv rfl<|e_p (zD (z:=cy) rfl (by rw [yi];rfl) yh (wu32 om))<|e_p (zZ (j:=(i+((yd ((yf t l2).natAbs)).length))) ye sz84 rfl rfl rfl om)<|zEa 0 rfl rfl rfl (zS (j:=(i+((yd ((yf t l2).natAbs)).length))) (x0:=cy) (γ0:=()) rfl rfl (by first|omega|(rw [List.length_map];omega)|(simp only [List.length_set];omega)|(simp;done)|(simp;omega)) rfl rfl sz84 (fun _ _=>by exact zy.2 om)) (fun _=> .z) (fun _ _=> ?_)
   refine zf<|zP<|zd<|za<|e_mv rfl<|e_p (zL (z:=(((i+1):Nat):Int)) rfl rfl (w64 om))<|e_p (zb rfl)<|zf<|zda ((i+1),os2.set (i+(yd (yf t l2).natAbs).length) cy) (show (i+1)≤(yd (yf s l1).natAbs).length∧(os2.set (i+(yd (yf t l2).natAbs).length) cy).length=(yd (yf s l1).natAbs).length+(yd (yf t l2).natAbs).length∧yv (os2.set (i+(yd (yf t l2).natAbs).length) cy)∧(∀k,(i+1)+(yd (yf t l2).natAbs).length≤k→(os2.set (i+(yd (yf t l2).natAbs).length) cy).getD k 0=0)∧yj (os2.set (i+(yd (yf t l2).natAbs).length) cy)=yj ((yd (yf s l1).natAbs).take (i+1))*yj (yd (yf t l2).natAbs) from by exact ⟨by omega,by simpa using hol2,yQ hok2 om om,fun k hk=>by rw [yM om];exact hz2 k om,Big.mul_round hv3 om (hz2 _ (Nat.le_refl _))⟩) (by show (yd (yf s l1).natAbs).length - (i+1)<(yd (yf s l1).natAbs).length - i;omega) (mR rfl) (ho:=((.e (i:=0) rfl cgs (.of [0,0,0] rfl)):PickO _ _ _)) ((.of [0,1,2,3] rfl):SelR _ _ _)
 ·
  have hia:i=(yd (yf s l1).natAbs).length:=by omega
  have hfin:yD (decide (decide (yf s l1<0)≠decide (yf t l2<0))) (yj os)=yf s l1*yf t l2:=by rw [hv,hia,List.take_length,yu,yu,←Int.natCast_mul,Big.sg_mul,Big.sg_big,Big.sg_big]
  refine zfa<|zi<|zi<|zw<|zd<|ze<|za<|e_p (zg yg rfl sz4 rfl rfl)<|e_ru (zh 2 ty4 rfl rfl rfl)<|e_p (zg yg rfl sz4 rfl rfl)<|e_ru (zh 1 ty4 rfl rfl rfl)<|e_p (zPa yA rfl rfl)<|e_mv rfl<|zba 0 rfl .z<|zm rfl rfl (.c rfl (.c rfl .n)) ce85 (zKa (s:=decide (decide ((yf s l1)<0)≠decide ((yf t l2)<0))) (p:=some ⟨b8,0,none⟩) (n:=(((yd ((yf s l1).natAbs)).length)+((yd ((yf t l2).natAbs)).length))) (cap:=(((yd ((yf s l1).natAbs)).length)+((yd ((yf t l2).natAbs)).length))) (l:=os) (hn:=by first|rfl|assumption|omega|(unfold yp;omega)|(simp;done)|(simp;omega)|(simp_all;done)) (ho:=by exact hok) (hln:=by first|rfl|assumption|omega|(unfold yp;omega)|(simp;done)|(simp;omega)|(simp_all;done))) (.c (j:=0) rfl .n) ?_
  rintro ⟨p218,c219⟩ -
  dsimp only [aq,nq,cq]
  refine zj 3 rfl rfl rfl rfl rfl sz30 rfl (.t2 .nil) (.s (.s (.s .z)))<|zf<|zd<|zC ?_
  exact zu Tryz.results52 (p218,c219) trivial (zo 3 ty30 rfl rfl (.t2 .nil)) (by rw [hfin]) (ho:=oN) ((.e (j:=0) rfl (by rw [hfin]) .n):SelR _ _ _)
theorem zxc {x1:Int} {x2:Int} {p1:Option Addr} {c1:Nat} {p2:Option Addr} {c2:Nat} (hb1:yp x1≤4398046511104) (hb2:yp x2≤4398046511104):Con yl 52 [.agg #[.bool (decide ((x1)<0)),.slice (p1) ((yd ((x1).natAbs)).length) (c1)],.agg #[.bool (decide ((x2)<0)),.slice (p2) ((yd ((x2).natAbs)).length) (c2)]] [] [slF (rI .u32) (p1) (c1) (yd ((x1).natAbs)),slF (rI .u32) (p2) (c2) (yd ((x2).natAbs))] (Y:=(Option Addr)×(Nat)) (fun y=>True) (fun y=> .agg #[.bool (decide ((x1*x2)<0)),.slice (y.1) ((yd ((x1*x2).natAbs)).length) (y.2)]) (fun y=>[]) (fun y=>[slF (rI .u32) (y.1) (y.2) (yd ((x1*x2).natAbs))]):=by
  have h:= @zdg (decide ((x1)<0)) p1 (yd (x1).natAbs).length c1 (yd (x1).natAbs) (decide ((x2)<0)) p2 (yd (x2).natAbs).length c2 (yd (x2).natAbs) rfl rfl hb1 hb2
  rw [yt,yt] at h
  exact h
theorem zVb {w1:Wd} {w2:Wd} {x1:Int} {x2:Int} (hb1:yp x1≤4398046511104) (hb2:yp x2≤4398046511104):Con yl 52 [.agg #[w1.b,w1.l],.agg #[w2.b,w2.l]] [] [zF w1 (x1),zF w2 (x2)] (Y:=(Wd)) (fun y=>True) (fun y=> .agg #[y.b,y.l]) (fun y=>[]) (fun y=>[zF y (x1*x2)]):=by
  exact zfc (zqc (fun p1 c1 p2 c2=>zxc hb1 hb2))
end Go.Proofs.YtahiajepeodhoaaGreat.Sp
namespace Go.Proofs.YtahiajepeodhoaaGreat.Sp
open Go
set_option linter.unusedVariables false
set_option maxRecDepth 100000
set_option maxHeartbeats 8000000
theorem zhc {a:Nat} {d:Nat} {p0:Option Addr} {cap:Nat} (hb:(yd a).length≤4398046511104) (hd:d<1000000000):Con yl 134 [.slice p0 ((yd a).length) cap,.int .u64 ((d:Nat):Int)] [] [slF (rI .u32) p0 cap (yd a)] (Y:=(Option Addr)×Nat) (fun y=>True) (fun y=> .slice (y.1) ((yd (a*d)).length) (y.2)) (fun y=>[]) (fun y=>[slF (rI .u32) (y.1) (y.2) (yd (a*d))]):=by
 refine zl Tryz.func134 rfl rfl rfl (fun c=> ?_)
 show RunC _ _ _ _ _ [(0,.slice p0 ((yd a).length) cap),(1,.int .u64 ((d:Nat):Int))] [] [slF (rI .u32) p0 cap (yd a)]
 refine zU 0 rfl (fun hL0=> ?_)
 refine ze<|za<|e_p (zb rfl)<|zf<|zd<|ze<|za<|zva rfl rfl (zsa (rI .u32) ye inf84) (fun b1 _=> ?_)
 refine e_p (zb rfl)<|zf<|zd<|ze<|za<|e_p (zb rfl)<|zf<|zd<|ze<|ze<|za<|e_p (zb rfl)<|zf<|zd<|zx<|zja (X:=Nat×(Option Addr)×Nat×(List Int)×Int) (fun x:Nat×(Option Addr)×Nat×(List Int)×Int=>Big.ScI (yd a) (d:Int) x.1 x.2.2.2.1 x.2.2.2.2) (fun x=>[(6,.int .u64 (x.2.2.2.2)),(5,.slice (x.2.1) (x.2.2.2.1.length) (x.2.2.1)),(7,ya yb ((x.1:Nat):Int)),(4,.slice none 0 0),(0,.slice p0 ((yd a).length) cap),(1,.int .u64 ((d:Nat):Int))]) (fun x=>[rowA 84 (rI .u32) (x.2.1) (x.2.2.1) (x.2.2.2.1)]) (fun x=>[slF (rI .u32) p0 cap (yd a)]) (fun x:Nat×(Option Addr)×Nat×(List Int)×Int=>(yd a).length - x.1) (0,some ⟨b1,0,none⟩,0,[],0) (show Big.ScI (yd a) (d:Int) 0 ([]) 0 from by exact Big.ScI.start _ _) ((.c rfl (.e rfl cgs (.e rfl cgs (.of rfl)))):SubM _ _) (ho:=(o0 rfl)) (s0 rfl) ?_
 rintro ⟨i,p,c,os,cy⟩ hI
 replace hI:Big.ScI (yd a) (d:Int) i os cy:=hI
 try dsimp only
 have hi:=hI.le
 have hol:=hI.len
 have hc0:=hI.c0
 have hc1:=hI.c1
 have hg:=yn (ym a) i
 have hsl:=Big.sc_lim hg (show 0≤(d:Int)∧(d:Int)<1000000000 by omega) ⟨hc0,hc1⟩
 refine ze<|ze<|za<|e_mv rfl<|e_mv rfl<|e_p (zK ye rfl)<|e_p (zX rfl rfl)<|zf<|zd<|zG rfl (fun h2=> ?_) (fun h2=> ?_)
 ·
  refine zB<|zd<|ze<|zx<|ze<|za<|e_mv rfl<|e_mv rfl<|zY (x0:=((yd a).getD i 0)) 0 i rfl ye sz84 rfl rfl rfl (by first|rfl|assumption|(simp;done)|(simp;omega)|omega) rfl rfl (gD (d:=0) om) (fun b3 o4 hok5=> ?_)
  replace hok5:=zy.1 hok5
  refine e_ru (zt (j:=0) 0 ty84 rfl rfl rfl rfl)<|e_p (zD (z:=((yd a).getD i 0)) rfl (by rw [yh];rfl) yi (wu64 om))<|e_mv rfl<|e_p (zpb (z:=(((yd a).getD i 0)*((d:Nat):Int))) rfl rfl (wu64 om))<|e_mv rfl<|e_p (zL (z:=((((yd a).getD i 0)*((d:Nat):Int))+cy)) rfl rfl (wu64 om))<|e_p (zb rfl)<|zf<|zd<|ze<|za<|e_mv rfl<|e_mv rfl<|e_p (zmb (z:=(((((yd a).getD i 0)*((d:Nat):Int))+cy)%1000000000)) rfl rfl om (remN om om))<|e_p (zD (z:=(((((yd a).getD i 0)*((d:Nat):Int))+cy)%1000000000)) rfl (by rw [yi];rfl) yh (wu32 om))<|zva rfl rfl (zaa (enc:=fun z:Int=>[.int .u32 z]) (ok:=InK .u32) (h1:=fun _=>rfl) (h2:=fun _=>rfl) (k:=1) ye inf84 rfl dd dd dd (.c (x:=(((((yd a).getD i 0)*((d:Nat):Int))+cy)%1000000000)) rfl rfl (fun _ _=>by exact zy.2 om) .n)) (fun b6 _=> ?_)
  refine zba 0 rfl .z<|zEa 1 rfl rfl rfl (zoa 0 rfl ye inf84 dd rfl rfl (by first|rfl|assumption|(simp;done)|(simp;omega)|omega) rfl (by first|rfl|assumption|(simp;done)|(simp;omega)|omega) om om) (fun _=>(.s .z)) ?_
  rintro ⟨p7,c8⟩ -
  dsimp only [aq,nq,cq]
  refine e_p (zb rfl)<|zf<|zd<|za<|e_mv rfl<|e_p (zeb (z:=(((((yd a).getD i 0)*((d:Nat):Int))+cy) / 1000000000)) rfl rfl om (by rw [quoN (z:=(((((yd a).getD i 0)*((d:Nat):Int))+cy) / 1000000000)) om om];exact wu64 om))<|e_p (zb rfl)<|zf<|zP<|zd<|za<|e_mv rfl<|e_p (zL (z:=(((i+1):Nat):Int)) rfl rfl (w64 om))<|e_p (zb rfl)<|zf<|zda ((i+1),p7,c8,os++[((yd a).getD i 0*(d:Int)+cy)%1000000000],((yd a).getD i 0*(d:Int)+cy) / 1000000000) (show Big.ScI (yd a) (d:Int) (i+1) (os++[((yd a).getD i 0*(d:Int)+cy)%1000000000]) (((yd a).getD i 0*(d:Int)+cy) / 1000000000) from by exact hI.step (ym a) om om) (by show (yd a).length - (i+1)<(yd a).length - i;omega) ((.e rfl cgs (.e rfl (by simp) (.of rfl))):SubM _ _) (ho:=((.e (i:=1) rfl cgs .n):PickO _ _ _)) ((.c (j:=2) rfl .n):SelR _ _ _)
 ·
  obtain ⟨hok2,hfin⟩:=hI.fin om
  refine zfa<|zi<|zi<|zw<|zd<|ze<|za<|e_mv rfl<|e_mv rfl<|e_p (zD (z:=cy) rfl (by rw [yi];rfl) yh (wu32 om))<|zva rfl rfl (zaa (enc:=fun z:Int=>[.int .u32 z]) (ok:=InK .u32) (h1:=fun _=>rfl) (h2:=fun _=>rfl) (k:=1) ye inf84 rfl dd dd dd (.c (x:=cy) rfl rfl (fun _ _=>by exact zy.2 om) .n)) (fun b9 _=> ?_)
  refine zba 0 rfl .z<|zEa 1 rfl rfl rfl (zoa 0 rfl ye inf84 dd rfl rfl (by first|rfl|assumption|(simp;done)|(simp;omega)|omega) rfl (by first|rfl|assumption|(simp;done)|(simp;omega)|omega) om om) (fun _=>(.s .z)) ?_
  rintro ⟨p10,c11⟩ -
  dsimp only [aq,nq,cq]
  refine zba 1 rfl (.s .z)<|zm rfl rfl (.c rfl (.c rfl .n)) ce85 (zKa (s:=false) (p:=p10) (n:=os.length+1) (cap:=c11) (l:=(os++([cy]))) (hn:=by first|rfl|omega|(simp;done)|(simp;omega)) (ho:=by exact hok2) (hln:=by first|rfl|omega|(simp;done)|(simp;omega))) (.c (j:=0) rfl .n) ?_
  rintro ⟨p212,c213⟩ -
  dsimp only [aq,nq,cq]
  refine e_p (zBa yg rfl ty28 rfl rfl)<|e_p (zb rfl)<|zf<|zd<|zC ?_
  have hz:(yD false (yj (os++[cy]))).natAbs=a*d:=by rw [hfin];exact Int.natAbs_natCast _
  exact zu Tryz.results134 (p212,c213) trivial (zn rfl) (by rw [hz]) (ho:=oN) ((.e (j:=0) rfl (by rw [hz]) .n):SelR _ _ _)
theorem zZd {a:Nat} {d:Nat} {p0:Option Addr} {cap:Nat} (hb:(yd a).length≤4398046511104) (hd:d<1000000000):Con yl 135 [.slice p0 ((yd a).length) cap,.int .u32 ((d:Nat):Int)] [] [slF (rI .u32) p0 cap (yd a)] (Y:=(Option Addr)×Nat) (fun y=>True) (fun y=> .slice (y.1) ((yd (a*1000000000+d)).length) (y.2)) (fun y=>[]) (fun y=>[slF (rI .u32) (y.1) (y.2) (yd (a*1000000000+d))]):=by
 refine zl Tryz.func135 rfl rfl rfl (fun c=> ?_)
 show RunC _ _ _ _ _ [(0,.slice p0 ((yd a).length) cap),(1,.int .u32 ((d:Nat):Int))] [] [slF (rI .u32) p0 cap (yd a)]
 refine zU 0 rfl (fun hL0=> ?_)
 have hok2:yv ([((d:Nat):Int)]++yd a):=Big.okL_cons.2 ⟨by omega,ym a⟩
 have hz:(yD false (yj (((d:Nat):Int) :: yd a))).natAbs=a*1000000000+d:=by rw [Big.sg_abs (yE (l:=((d:Nat):Int) :: yd a) hok2)];simp only [yj,yu];omega
 refine ze<|za<|e_p (zb rfl)<|zf<|zd<|ze<|za<|e_mv rfl<|zva rfl rfl (zaa (enc:=fun z:Int=>[.int .u32 z]) (ok:=InK .u32) (h1:=fun _=>rfl) (h2:=fun _=>rfl) (k:=1) ye inf84 rfl dd dd dd (.c (x:=((d:Nat):Int)) rfl rfl (fun _ _=>by exact zy.2 om) .n)) (fun b1 _=> ?_)
 refine e_mv rfl<|zEa 0 rfl rfl rfl (zoa 0 rfl ye inf84 dd rfl rfl (by first|rfl|assumption|(simp;done)|(simp;omega)|omega) rfl (by first|rfl|assumption|(simp;done)|(simp;omega)|omega) om om) (fun _=> .z) ?_
 rintro ⟨p2,c3⟩ -
 dsimp only [aq,nq,cq]
 refine zba 0 rfl .z<|zm rfl rfl (.c rfl (.c rfl .n)) ce85 (zKa (s:=false) (p:=p2) (n:=1+((yd a).length)) (cap:=c3) (l:=(([((d:Nat):Int)])++(yd a))) (hn:=by first|rfl|omega|(simp;done)|(simp;omega)) (ho:=by exact hok2) (hln:=by first|rfl|omega|(simp;done)|(simp;omega))) (.c (j:=0) rfl .n) ?_
 rintro ⟨p24,c25⟩ -
 dsimp only [aq,nq,cq]
 refine e_p (zBa yg rfl ty28 rfl rfl)<|e_p (zb rfl)<|zf<|zd<|zC ?_
 exact zu Tryz.results135 (p24,c25) trivial (zn rfl) (by rw [hz]) (ho:=oN) ((.e (j:=0) rfl (by rw [hz]) .n):SelR _ _ _)
theorem zud {a:Nat} {mm:Nat} {p:Option Addr} {cap:Nat} (hb:(yd a).length≤4398046511104) (hm0:0<mm) (hm1:mm≤1000000000):Con yl 133 [.slice p ((yd a).length) cap,.int .u64 ((mm:Nat):Int)] [] [slF (rI .u32) p cap (yd a)] (Y:=(Option Addr)×Nat) (fun y=>True) (fun y=> .tuple #[.slice (y.1) ((yd (a / mm)).length) (y.2),.int .u64 (((a%mm):Nat):Int)]) (fun y=>[]) (fun y=>[slF (rI .u32) (y.1) (y.2) (yd (a / mm))]):=by
 refine zl Tryz.func133 rfl rfl rfl (fun c=> ?_)
 show RunC _ _ _ _ _ [(0,.slice p ((yd a).length) cap),(1,.int .u64 ((mm:Nat):Int))] [] [slF (rI .u32) p cap (yd a)]
 refine zU 0 rfl (fun hL0=> ?_)
 refine ze<|za<|e_p (zb rfl)<|e_p (zb rfl)<|zf<|zd<|ze<|za<|e_mv rfl<|e_p (zK ye rfl)<|zva rfl rfl (zab (r:=rI .u32) (k:=(yd a).length) (x0:=0) (γ0:=()) ye inf84 rfl rfl rfl rfl om om rfl (fun g _=>by exact zy.2 dd) dd) (fun b1 _=> ?_)
 refine e_p (zb rfl)<|zf<|zd<|ze<|za<|e_p (zb rfl)<|zf<|zd<|ze<|ze<|za<|e_mv rfl<|e_p (zK ye rfl)<|e_p (zca (z:=((((yd a).length:Nat):Int) - 1)) rfl rfl (w64 om))<|e_p (zb rfl)<|zf<|zd<|zx<|zja (X:=Nat×(List Int)×(List Int)×Int) (fun x:Nat×(List Int)×(List Int)×Int=>x.2.1=List.replicate x.1 0++x.2.2.1∧yL (yd a) (mm:Int) x.1 x.2.2.1 x.2.2.2) (fun x=>[(7,.int .u64 (x.2.2.2)),(8,ya yb (((x.1:Nat):Int) - 1)),(6,.slice (some ⟨b1,0,none⟩) ((yd a).length) ((yd a).length)),(5,.int .u64 0),(4,.slice none 0 0),(0,.slice p ((yd a).length) cap),(1,.int .u64 ((mm:Nat):Int))]) (fun x=>[rowA 84 (rI .u32) (some ⟨b1,0,none⟩) ((yd a).length) (x.2.1)]) (fun x=>[slF (rI .u32) p cap (yd a)]) (fun x:Nat×(List Int)×(List Int)×Int=>x.1) ((yd a).length,(List.replicate (yd a).length 0),([]:List Int),(0:Int)) (show (List.replicate (yd a).length 0)=List.replicate ((yd a).length) 0++([]:List Int)∧yL (yd a) (mm:Int) ((yd a).length) ([]:List Int) (0:Int) from by exact ⟨by simp,yL.start om⟩) ((.e rfl cgs (.e rfl cgs (.of rfl))):SubM _ _) (ho:=((.e (i:=0) rfl cgs .n):PickO _ _ _)) (s0 rfl) ?_
 rintro ⟨jj,os,qs,z⟩ hI
 replace hI:os=List.replicate jj 0++qs∧yL (yd a) (mm:Int) jj qs z:=hI
 try dsimp only
 obtain ⟨hos,hS⟩:=hI
 have hz0:=hS.r0
 have hz1:=hS.r1
 have hkle:=hS.le
 refine ze<|ze<|za<|e_mv rfl<|e_p (zXa rfl rfl)<|zf<|zd<|zG rfl (fun h2=> ?_) (fun h2=> ?_)
 ·
  obtain ⟨k,rfl⟩:∃k,jj=k+1:=⟨jj - 1,by omega⟩
  have e3:(((((k+1):Nat):Int) - 1):Int)=((k:Nat):Int):=by omega
  rw [e3]
  have hosl:os.length=(yd a).length:=by rw [hos,List.length_append,List.length_replicate,hS.len];omega
  have hg:=yn (ym a) k
  have hdg:=Big.sh_digit hz0 hz1 hg
  have hrm:=Int.emod_lt_of_pos (z*1000000000+(yd a).getD k 0) (show 0<(mm:Int) by omega)
  have hrm0:=Int.emod_nonneg (z*1000000000+(yd a).getD k 0) (show (mm:Int)≠0 by omega)
  refine zB<|zd<|ze<|zx<|ze<|za<|e_mv rfl<|e_p (zpb (z:=(z*1000000000)) rfl rfl (wu64 om))<|e_mv rfl<|e_mv rfl<|zY (x0:=((yd a).getD k 0)) 0 k rfl ye sz84 rfl rfl rfl (by first|rfl|assumption|(simp;done)|(simp;omega)|omega) rfl rfl (gD (d:=0) om) (fun b4 o5 hok6=> ?_)
  replace hok6:=zy.1 hok6
  refine e_ru (zt (j:=0) 0 ty84 rfl rfl rfl rfl)<|e_p (zD (z:=((yd a).getD k 0)) rfl (by rw [yh];rfl) yi (wu64 om))<|e_p (zL (z:=((z*1000000000)+((yd a).getD k 0))) rfl rfl (wu64 om))<|e_p (zb rfl)<|zf<|zd<|ze<|za<|e_mv rfl<|e_mv rfl<|e_mv rfl<|e_mv rfl<|e_p (zeb (z:=(((z*1000000000)+((yd a).getD k 0)) / ((mm:Nat):Int))) rfl rfl om (by rw [quoN (z:=(((z*1000000000)+((yd a).getD k 0)) / ((mm:Nat):Int))) om om];exact wu64 om))<|e_p (zD (z:=(((z*1000000000)+((yd a).getD k 0)) / ((mm:Nat):Int))) rfl (by rw [yi];rfl) yh (wu32 om))<|e_p (zZ (j:=k) ye sz84 rfl rfl rfl om)<|zEa 0 rfl rfl rfl (zS (j:=k) (x0:=(((z*1000000000)+((yd a).getD k 0)) / ((mm:Nat):Int))) (γ0:=()) rfl rfl (by first|omega|(rw [List.length_map];omega)|(simp only [List.length_set];omega)|(simp;done)|(simp;omega)) rfl rfl sz84 (fun _ _=>by exact zy.2 om)) (fun _=> .z) (fun _ _=> ?_)
  refine zf<|zd<|za<|e_mv rfl<|e_mv rfl<|e_p (zmb (z:=(((z*1000000000)+((yd a).getD k 0))%((mm:Nat):Int))) rfl rfl om (remN om om))<|e_p (zb rfl)<|zf<|zP<|zd<|za<|e_mv rfl<|e_p (zca (z:=(((k:Nat):Int) - 1)) rfl rfl (w64 om))<|e_p (zb rfl)<|zf<|zda (k,(os.set k (((z*1000000000)+((yd a).getD k 0)) / ((mm:Nat):Int))),((z*1000000000+(yd a).getD k 0) / (mm:Int) :: qs),((z*1000000000+(yd a).getD k 0)%(mm:Int))) (show (os.set k (((z*1000000000)+((yd a).getD k 0)) / ((mm:Nat):Int)))=List.replicate k 0++((z*1000000000+(yd a).getD k 0) / (mm:Int) :: qs)∧yL (yd a) (mm:Int) k ((z*1000000000+(yd a).getD k 0) / (mm:Int) :: qs) ((z*1000000000+(yd a).getD k 0)%(mm:Int)) from by exact ⟨by rw [hos];exact yP _,hS.step (ym a)⟩) (by show k<k+1;omega) ((.e rfl cgs (.of rfl)):SubM _ _) (ho:=(o0 rfl)) ((.c (j:=1) rfl .n):SelR _ _ _)
 ·
  have hj0:jj=0:=by omega
  have hS0:yL (yd a) (mm:Int) 0 qs z:=hj0 ▸ hS
  obtain ⟨hf1,hf2⟩:=hS0.fin
  have hoq:os=qs:=by rw [hos,hj0];rfl
  have hok2:yv os:=by rw [hoq];exact hS.ok
  have hosl:os.length=(yd a).length:=by rw [hoq,hS0.len];omega
  have hz9:(yD false (yj os)).natAbs=a / mm:=by rw [hoq,Big.sg_abs (yE hS.ok),←Big.valL_trim,hf1,yu];exact Int.toNat_natCast _
  refine zfa<|zi<|zi<|zw<|zd<|ze<|za<|e_mv rfl<|zba 0 rfl .z<|zm rfl rfl (.c rfl (.c rfl .n)) ce85 (zKa (s:=false) (p:=some ⟨b1,0,none⟩) (n:=(yd a).length) (cap:=(yd a).length) (l:=os) (hn:=by first|rfl|omega|(simp;done)|(simp;omega)) (ho:=by exact hok2) (hln:=by first|rfl|omega|(simp;done)|(simp;omega))) (.c (j:=0) rfl .n) ?_
  rintro ⟨p27,c28⟩ -
  dsimp only [aq,nq,cq]
  refine e_p (zBa yg rfl ty28 rfl rfl)<|e_mv rfl<|e_p (zb rfl)<|e_p (zb rfl)<|zf<|zd<|zC ?_
  exact zFa Tryz.results133 (p27,c28) trivial (zn rfl) (zn rfl) (by rw [hz9,hf2]) (ho:=oN) ((.e (j:=0) rfl (by rw [hz9]) .n):SelR _ _ _)
theorem zae {a:Nat} {p:Option Addr} {cap:Nat} (hb:(yd a).length≤2):Con yl 110 [.slice p ((yd a).length) cap] [] [slF (rI .u32) p cap (yd a)] (Y:=Unit) (fun y=>True) (fun y=> .int .u64 ((a:Nat):Int)) (fun y=>[]) (fun y=>[]):=by
 refine zl Tryz.func110 rfl rfl rfl (fun c=> ?_)
 show RunC _ _ _ _ _ [(0,.slice p ((yd a).length) cap)] [] [slF (rI .u32) p cap (yd a)]
 refine zU 0 rfl (fun hL0=> ?_)
 have hpv:=Big.pair_val hb
 have hg0:=yn (ym a) 0
 have hg1:=yn (ym a) 1
 refine ze<|za<|e_p (zb rfl)<|zf<|zd<|ze<|za<|e_mv rfl<|zJ rfl rfl (.c rfl (.c rfl .n)) ce112 (zcb (p:=p) (n:=(yd a).length) (cap:=cap) (l:=yd a) (i:=1) (hn:=cbb) (hi:=cbb)) (.c (j:=0) rfl .n)<|e_p (zpb (z:=((yd a).getD 1 0*1000000000)) rfl rfl (wu64 om))<|e_mv rfl<|zJ rfl rfl (.c rfl (.c rfl .n)) ce112 (zcb (p:=p) (n:=(yd a).length) (cap:=cap) (l:=yd a) (i:=0) (hn:=cbb) (hi:=cbb)) (.c (j:=0) rfl .n)<|e_p (zL (z:=(((yd a).getD 1 0*1000000000)+(yd a).getD 0 0)) rfl rfl (wu64 om))<|e_p (zb rfl)<|zf<|zd<|zC ?_
 exact zu Tryz.results110 () trivial (zn rfl) (by rw [hpv]) (ho:=oN) sN
end Go.Proofs.YtahiajepeodhoaaGreat.Sp
namespace Go.Proofs.YtahiajepeodhoaaGreat.Sp
open Go
set_option linter.unusedVariables false
set_option maxRecDepth 100000
set_option maxHeartbeats 8000000
theorem zvd {a:Nat} {b:Nat} {p1:Option Addr} {c1:Nat} {p2:Option Addr} {c2:Nat} (hb1:(yd a).length≤2199023255552) (hb2:(yd b).length≤2199023255552) (hb0:0<b):Con yl 109 [.slice p1 ((yd a).length) c1,.slice p2 ((yd b).length) c2] [] [slF (rI .u32) p1 c1 (yd a),slF (rI .u32) p2 c2 (yd b)] (Y:=(Option Addr)×Nat×(Option Addr)×Nat) (fun y=>True) (fun y=> .tuple #[.slice (y.1) ((yd (a / b)).length) (y.2.1),.slice (y.2.2.1) ((yd (a%b)).length) (y.2.2.2)]) (fun y=>[]) (fun y=>[slF (rI .u32) (y.1) (y.2.1) (yd (a / b)),slF (rI .u32) (y.2.2.1) (y.2.2.2) (yd (a%b))]):=by
 refine zl Tryz.func109 rfl rfl rfl (fun c=> ?_)
 show RunC _ _ _ _ _ [(0,.slice p1 ((yd a).length) c1),(1,.slice p2 ((yd b).length) c2)] [] [slF (rI .u32) p1 c1 (yd a),slF (rI .u32) p2 c2 (yd b)]
 refine zU 0 rfl (fun hL0=> ?_)
 refine zU 1 rfl (fun hL1=> ?_)
 have hln0:=Big.zvf hb0
 have hob:=yn (ym b) 0
 have hob1:=yn (ym b) ((yd b).length - 1)
 have hdv:=yx (Nat.div_le_self a b)
 have hdm:=Nat.mod_lt a hb0
 refine ze<|za<|e_p (zb rfl)<|e_p (zb rfl)<|zf<|zd<|ze<|za<|e_mv rfl<|e_p (zK ye rfl)<|e_p (zb rfl)<|zf<|zd<|ze<|ze<|za<|e_mv rfl<|e_p (zwa rfl rfl)<|zf<|zd<|zG rfl (fun hl1=> ?_) (fun hl1=> ?_)
 ·
  have hbd:=Big.one_digit (by omega:(yd b).length=1)
  have hbl:b<1000000000:=by omega
  have hokt:yv [((a%b:Nat):Int)]:=Big.okL_cons.2 ⟨by omega,Big.okL_nil⟩
  have hz3:=Big.made_nat hokt (show yj [((a%b:Nat):Int)]=((a%b:Nat):Int) by simp only [yj];omega)
  refine ze<|za<|e_mv rfl<|e_mv rfl<|zY (x0:=((yd b).getD 0 0)) 1 0 rfl ye sz84 rfl rfl rfl (by first|rfl|assumption|(simp;done)|(simp;omega)|omega) rfl rfl (gD (d:=0) om) (fun b1 o2 hok3=> ?_)
  replace hok3:=zy.1 hok3
  refine e_ru (zt (j:=0) 0 ty84 rfl rfl rfl rfl)<|e_p (zD (z:=((yd b).getD 0 0)) rfl (by rw [yh];rfl) yi (wu64 om)) ?_
  have e4:(((yd b).getD 0 0):Int)=((b:Nat):Int):=by exact hbd
  rw [e4]
  refine zm rfl rfl (.c rfl (.c rfl .n)) ce133 (zud (a:=a) (mm:=b) (p:=p1) (cap:=c1) (hb:=by first|rfl|assumption|omega|(simp;done)) (hm0:=ass) (hm1:=by first|rfl|assumption|omega|(simp;done))) (.c (j:=1) rfl .n) ?_
  rintro ⟨p25,c26⟩ -
  dsimp only [aq,nq,cq]
  refine e_mv rfl<|e_p (zq rfl rfl)<|e_p (zq rfl rfl)<|e_p (zb rfl)<|e_p (zb rfl)<|zf<|zd<|ze<|za<|e_mv rfl<|e_mv rfl<|e_p (zD (z:=(((a%b):Nat):Int)) rfl (by rw [yi];rfl) yh (wu32 om))<|zva rfl rfl (zaa (enc:=fun z:Int=>[.int .u32 z]) (ok:=InK .u32) (h1:=fun _=>rfl) (h2:=fun _=>rfl) (k:=1) ye inf84 rfl dd dd dd (.c (x:=(((a%b):Nat):Int)) rfl rfl (fun _ _=>by exact zy.2 om) .n)) (fun b7 _=> ?_)
  refine zba 0 rfl .z<|zm rfl rfl (.c rfl (.c rfl .n)) ce85 (zKa (s:=false) (p:=some ⟨b7,0,none⟩) (n:=1) (cap:=1) (l:=[(((a%b):Nat):Int)]) (hn:=by first|rfl|omega|(simp;done)|(simp;omega)) (ho:=by exact hokt) (hln:=by first|rfl|omega|(simp;done)|(simp;omega))) (.c (j:=0) rfl .n) ?_
  rintro ⟨p28,c29⟩ -
  dsimp only [aq,nq,cq]
  refine e_p (zBa yg rfl ty28 rfl rfl)<|e_p (zb rfl)<|e_p (zb rfl)<|zf<|zd<|zC<|zk ?_
  exact zFa Tryz.results109 (p25,c26,p28,c29) trivial (zn rfl) (zn rfl) (by rw [hz3]) (ho:=oN) ((.c (j:=2) rfl (.e (j:=0) rfl (by rw [hz3]) .n)):SelR _ _ _)
 ·
  refine zB<|zd<|ze<|ze<|za<|e_mv rfl<|e_mv rfl<|zJ rfl rfl (.c rfl (.c rfl .n)) ce87 (zjd (a:=a) (b:=b) (p1:=p1) (c1:=c1) (p2:=p2) (c2:=c2)) (.c (j:=0) rfl (.c (j:=1) rfl .n))<|e_p (zX rfl rfl)<|zf<|zd<|zG rfl (fun hlt=> ?_) (fun hlt=> ?_)
  ·
   have hab9:¬(b:Int)≤a:=fun h=>by have:=yF.2 h;omega
   have hab:a<b:=by omega
   refine ze<|za<|zva rfl rfl (zsa (rI .u32) ye inf84) (fun b10 _=> ?_)
   refine e_mv rfl<|e_p (zb rfl)<|e_p (zb rfl)<|zf<|zd<|zC<|zk ?_
   have hz1:a / b=0:=Nat.div_eq_of_lt hab
   have hz2:a%b=a:=Nat.mod_eq_of_lt hab
   refine zyb 0 rfl .z ?_
   exact zFa Tryz.results109 (some ⟨b10,0,none⟩,0,p1,c1) trivial (zn rfl) (zn rfl) (by rw [hz1,hz2];rfl) (ho:=oN) ((.e (j:=0) rfl (by rw [hz1];rfl) (.e (j:=1) rfl (by rw [hz2]) .n)):SelR _ _ _)
  ·
   have hab:b≤a:=by have h9:=yF.1 (by omega:0≤Big.cmp (a:Int) (b:Int));omega
   have hab2:=yx hab
   have hq1:0≤1000000000 / ((yd b).getD ((yd b).length - 1) 0+1):=Int.ediv_nonneg om om
   have hdt:=Big.digs_top (b:=b) (n:=(yd b).length - 1) om
   have hq2:1000000000 / ((yd b).getD ((yd b).length - 1) 0+1)≤500000000:=Int.ediv_le_of_le_mul om om
   refine zB<|zd<|ze<|za<|e_mv rfl<|e_mv rfl<|e_p (zca (z:=((((yd b).length - 1):Nat):Int)) rfl rfl (w64 om))<|zY (x0:=((yd b).getD ((yd b).length - 1) 0)) 1 ((yd b).length - 1) rfl ye sz84 rfl rfl rfl (by first|rfl|assumption|(simp;done)|(simp;omega)|omega) rfl rfl (gD (d:=0) om) (fun b11 o12 hok13=> ?_)
   replace hok13:=zy.1 hok13
   refine e_ru (zt (j:=0) 0 ty84 rfl rfl rfl rfl)<|e_p (zD (z:=((yd b).getD ((yd b).length - 1) 0)) rfl (by rw [yh];rfl) yi (wu64 om))<|e_p (zL (z:=(((yd b).getD ((yd b).length - 1) 0)+1)) rfl rfl (wu64 om))<|e_p (zeb (z:=(1000000000 / (((yd b).getD ((yd b).length - 1) 0)+1))) rfl rfl om (by rw [quoN (z:=(1000000000 / (((yd b).getD ((yd b).length - 1) 0)+1))) om om];exact wu64 om))<|e_p (zb rfl)<|zf<|zd<|ze ?_
   obtain ⟨s,hs⟩:∃s:Nat,s=(1000000000 / ((yd b).getD ((yd b).length - 1) 0+1)).toNat:=⟨_,rfl⟩
   obtain ⟨hs1,hs2,hs3⟩:=Big.scale_len (n:=(yd b).length - 1) om hs
   have hsd:=Big.digs_one hs1 (by omega:s<1000000000)
   have hsl:(yd s).length=1:=by rw [hsd];rfl
   have e14:((1000000000 / (((yd b).getD ((yd b).length - 1) 0)+1)):Int)=((s:Nat):Int):=by omega
   rw [e14]
   refine za<|e_mv rfl<|e_mv rfl<|zm rfl rfl (.c rfl (.c rfl .n)) ce134 (zhc (a:=a) (d:=s) (p0:=p1) (cap:=c1) (hb:=by first|rfl|assumption|omega|(simp;done)) (hd:=by first|rfl|assumption|omega|(simp;done))) (.c (j:=1) rfl .n) ?_
   rintro ⟨p315,c316⟩ -
   dsimp only [aq,nq,cq]
   refine e_mv rfl<|e_mv rfl<|zm rfl rfl (.c rfl (.c rfl .n)) ce134 (zhc (a:=b) (d:=s) (p0:=p2) (cap:=c2) (hb:=by first|rfl|assumption|omega|(simp;done)) (hd:=by first|rfl|assumption|omega|(simp;done))) (.c (j:=3) rfl .n) ?_
   rintro ⟨p317,c318⟩ -
   dsimp only [aq,nq,cq]
   refine e_p (zb rfl)<|e_p (zb rfl)<|zf<|zd<|ze ?_
   obtain ⟨A,hA⟩:∃z,z=a*s:=⟨_,rfl⟩
   rw [← hA]
   obtain ⟨V,hV⟩:∃z,z=b*s:=⟨_,rfl⟩
   rw [← hV]
   refine zU 1 rfl (fun hcA=> ?_)
   have hAl:(yd a).length≤(yd A).length:=by rw [hA];exact Big.len_mul_ge hs1
   have hAl2:(yd A).length≤(yd a).length+1:=by have h8:=Big.len_mul_le a s;rw [hsl] at h8;rw [hA];exact h8
   obtain ⟨m,hm⟩:∃z,(yd V).length=z+1:=⟨(yd b).length - 1,by rw [hV,hs3]⟩
   have hmb:(yd b).length=m+1:=by rw [hV,hs3] at hm;omega
   have e19:((((yd b).length:Nat):Int):Int)=(((m+1):Nat):Int):=by omega
   rw [e19]
   refine za<|e_mv rfl<|e_mv rfl<|e_p (zK ye rfl)<|e_mv rfl<|e_p (zca (z:=((((yd A).length - (m+1)):Nat):Int)) rfl rfl (w64 om))<|e_p (zL (z:=((((yd A).length - m):Nat):Int)) rfl rfl (w64 om))<|e_p (zzd (lo:=((yd A).length - m)) (hi:=(yd A).length) ye sz84 rfl (.s rfl) .n (.inr ⟨_,rfl⟩) (.inl ⟨rfl,rfl⟩) om om)<|zmc (zBe 1 rfl ((yd A).length - m) ((yd A).length) om om) (fun _ _=> ?_)
   refine zm rfl rfl (.c rfl (.c rfl .n)) ce85 (zKa (s:=false) (p:=(newP p315 c316 ((yd A).length - m) 1)) (n:=((yd A).length) - ((yd A).length - m)) (cap:=(c316 - ((yd A).length - m))) (l:=(((yd A).take ((yd A).length)).drop ((yd A).length - m))) (hn:=by first|rfl|omega|(simp;done)|(simp;omega)) (ho:=by exact Big.okL_drop (Big.okL_take (ym _) _) _) (hln:=by first|rfl|omega|(simp;done)|(simp;omega))) (.c (j:=0) rfl .n) ?_
   rintro ⟨p220,c221⟩ -
   dsimp only [aq,nq,cq]
   refine e_p (zBa yg rfl ty28 rfl rfl)<|e_p (zb rfl)<|zf<|zd<|ze ?_
   obtain ⟨R0,hR0⟩:∃z,z=(yD false (yj (((yd A).take ((yd A).length)).drop ((yd A).length - m)))).natAbs:=⟨_,rfl⟩
   rw [← hR0]
   have hpt:Big.PtI A V ((yd A).length - m) [] R0:=Big.PtI.start hm om (by rw [hR0,List.take_length];have:=yE (Big.okL_drop (ym A) ((yd A).length - m));simp only [yD];omega)
   refine za<|e_mv rfl<|e_p (zK ye rfl)<|e_mv rfl<|e_p (zca (z:=((((yd A).length - (m+1)):Nat):Int)) rfl rfl (w64 om))<|e_p (zL (z:=((((yd A).length - m):Nat):Int)) rfl rfl (w64 om))<|zva rfl rfl (zab (r:=rI .u32) (k:=((yd A).length - m)) (x0:=0) (γ0:=()) ye inf84 rfl rfl rfl rfl om om rfl (fun g _=>by exact zy.2 dd) dd) (fun b22 _=> ?_)
   refine e_p (zb rfl)<|zf<|zd<|ze<|ze<|za<|e_mv rfl<|e_p (zK ye rfl)<|e_mv rfl<|e_p (zca (z:=((((yd A).length:Nat):Int) - (((m+1):Nat):Int))) rfl rfl (w64 om))<|e_p (zb rfl)<|zf<|zd<|zx<|zja (X:=Nat×(List Int)×Nat×(Option Addr)×Nat) (fun x:Nat×(List Int)×Nat×(Option Addr)×Nat=>Big.PtI A V x.1 x.2.1 x.2.2.1∧x.1+x.2.1.length=(yd A).length - m) (fun x=>[(10,.slice (x.2.2.2.1) ((yd (x.2.2.1)).length) (x.2.2.2.2)),(12,ya yb (((x.1:Nat):Int) - 1)),(11,.slice (some ⟨b22,0,none⟩) ((yd A).length - m) ((yd A).length - m)),(1,.slice p317 ((yd V).length) c318),(0,.slice p315 ((yd A).length) c316),(9,.int .u64 ((s:Nat):Int)),(6,ya yb (((m+1):Nat):Int)),(5,.slice none 0 0),(4,.slice none 0 0)]) (fun x=>[rowA 84 (rI .u32) (some ⟨b22,0,none⟩) ((yd A).length - m) (List.replicate x.1 0++x.2.1)]) (fun x=>[slF (rI .u32) (x.2.2.2.1) (x.2.2.2.2) (yd (x.2.2.1)),slF (rI .u32) p220 c221 (yd R0),slF (rI .u32) (newP p315 c316 ((yd A).length - m) 1) (c316 - ((yd A).length - m)) (((yd A).take ((yd A).length)).drop ((yd A).length - m)),slF (rI .u32) p317 c318 (yd V),slF (rI .u32) p315 c316 (yd A),atF b11 o12 [.int .u32 ((yd b).getD ((yd b).length - 1) 0)],slF (rI .u32) p1 c1 (yd a),slF (rI .u32) p2 c2 (yd b)]) (fun x:Nat×(List Int)×Nat×(Option Addr)×Nat=>x.1) (((yd A).length - m),([]:List Int),R0,p220,c221) (show Big.PtI A V ((yd A).length - m) ([]:List Int) R0∧((yd A).length - m)+([]:List Int).length=(yd A).length - m from by exact ⟨hpt,rfl⟩) ((.e rfl cgs (.e rfl (congrArg (Value.int .i64) om) (.of rfl))):SubM _ _) (ho:=((.e (i:=0) rfl (by simp) .n):PickO _ _ _)) ((.e (j:=0) rfl (by first|rfl|simp_all) (.of [0,1,2,3,4,5,6] rfl)):SelR _ _ _) ?_
   rintro ⟨jj,qs,R,pr,cr⟩ hI
   replace hI:Big.PtI A V jj qs R∧jj+qs.length=(yd A).length - m:=hI
   try dsimp only
   obtain ⟨hP,hql⟩:=hI
   refine ze<|ze<|za<|e_mv rfl<|e_p (zXa rfl rfl)<|zf<|zd<|zG rfl (fun hj=> ?_) (fun hj=> ?_)
   ·
    obtain ⟨j,rfl⟩:∃j,jj=j+1:=⟨jj - 1,by omega⟩
    have e23:(((((j+1):Nat):Int) - 1):Int)=((j:Nat):Int):=by omega
    rw [e23]
    have hjle:=hP.le
    have hRV:=hP.lt
    have hdn:=yn (ym A) j
    obtain ⟨d,hd⟩:∃d:Nat,(yd A).getD j 0=(d:Int):=⟨_,(Int.toNat_of_nonneg hdn.1).symm⟩
    have hd9:d<1000000000:=by omega
    have hWlt9:=Big.pt_lim hRV hd9
    have hRl:=yx (Nat.le_of_lt hRV)
    refine zB<|zd<|ze<|zx<|ze<|za<|e_mv rfl<|e_mv rfl<|e_mv rfl<|zY (x0:=((yd A).getD j 0)) 4 j rfl ye sz84 rfl rfl rfl (by first|rfl|assumption|(simp;done)|(simp;omega)|omega) rfl rfl (gD (d:=0) om) (fun b24 o25 hok26=> ?_)
    replace hok26:=zy.1 hok26
    refine e_ru (zt (j:=0) 0 ty84 rfl rfl rfl rfl) ?_
    have e27:(((yd A).getD j 0):Int)=((d:Nat):Int):=by exact hd
    rw [e27]
    refine zm rfl rfl (.c rfl (.c rfl .n)) ce135 (zZd (a:=R) (d:=d) (p0:=pr) (cap:=cr) (hb:=by first|rfl|assumption|omega|(simp;done)) (hd:=by first|rfl|assumption|omega|(simp;done))) (.c (j:=1) rfl .n) ?_
    rintro ⟨p328,c329⟩ -
    dsimp only [aq,nq,cq]
    refine e_p (zb rfl)<|zf<|zd<|ze ?_
    obtain ⟨W,hW⟩:∃z,z=(R*1000000000+d):=⟨_,rfl⟩
    rw [← hW]
    have hWlt:W<V*1000000000:=by rw [hW];exact hWlt9
    have hWl:=Big.pt_wlen hWlt hm
    have hw1:=yn (ym W) (m+1)
    have hw0:=yn (ym W) m
    have hv0:=yn (ym V) m
    have hg0:0≤(((yd W).getD (m+1) 0*1000000000+(yd W).getD m 0) / ((yd V).getD m 0+1)):=Int.ediv_nonneg om om
    have hg1:(((yd W).getD (m+1) 0*1000000000+(yd W).getD m 0) / ((yd V).getD m 0+1))≤1000000000000000000:=Int.le_trans (Int.ediv_le_self _ om) om
    refine zV (OW:=[]) (O:=[rowA 84 (rI .u32) (some ⟨b22,0,none⟩) ((yd A).length - m) (List.replicate (j+1) 0++qs)]) 100000 mixed (.then (.block (.then (.then (.block (.then .ret)))))) kr<|e_dm 0 rfl rfl rfl<|e_dm 1 rfl rfl rfl<|e_dm 4 rfl rfl rfl<|e_dm 5 rfl rfl rfl<|e_pv 6 rfl rfl (zca (z:=((m:Nat):Int)) rfl rfl (w64 om))<|e_dm 9 rfl rfl rfl<|e_dm 10 rfl rfl rfl<|e_pv 11 rfl rfl (zca (z:=((m:Nat):Int)) rfl rfl (w64 om))<|zHa (x0:=((yd V).getD m 0)) 12 rfl rfl kr kr 5 m rfl ye sz84 rfl rfl rfl (by first|rfl|assumption|(simp;done)|(simp;omega)|omega) rfl rfl (gD (d:=0) om) (fun b30 o31 hok32=> ?_)
    replace hok32:=zy.1 hok32
    refine e_u 13 rfl rfl (zt (j:=0) 0 ty84 rfl rfl rfl rfl)<|e_pv 14 rfl rfl (zD (z:=((yd V).getD m 0)) rfl (by rw [yh];rfl) yi (wu64 om))<|e_pv 15 rfl rfl (zL (z:=(((yd V).getD m 0)+1)) rfl rfl (wu64 om))<|e_one 2 (zbb rfl rfl rfl rfl (.c rfl (.c rfl .n)) ce112 (zcb (p:=p328) (n:=(yd W).length) (cap:=c329) (l:=yd W) (i:=(m+1)) (hn:=by first|rfl|assumption|omega|(simp;done)) (hi:=by first|rfl|assumption|omega|(simp;done))) (.c (j:=1) rfl .n) ?_)
    refine e_pv 3 rfl rfl (zpb (z:=((yd W).getD (m+1) 0*1000000000)) rfl rfl (wu64 om))<|e_one 7 (zbb rfl rfl rfl rfl (.c rfl (.c rfl .n)) ce112 (zcb (p:=p328) (n:=(yd W).length) (cap:=c329) (l:=yd W) (i:=m) (hn:=by first|rfl|assumption|omega|(simp;done)) (hi:=by first|rfl|assumption|omega|(simp;done))) (.c (j:=1) rfl .n) ?_)
    refine e_pv 8 rfl rfl (zL (z:=(((yd W).getD (m+1) 0*1000000000)+(yd W).getD m 0)) rfl rfl (wu64 om))<|e_pv 16 rfl rfl (zeb (z:=((((yd W).getD (m+1) 0*1000000000)+(yd W).getD m 0) / (((yd V).getD m 0)+1))) rfl rfl om (by rw [quoN (z:=((((yd W).getD (m+1) 0*1000000000)+(yd W).getD m 0) / (((yd V).getD m 0)+1))) om om];exact wu64 om))<|e_pv 17 rfl rfl (zb rfl)<|zH kr<|zd<|ze ?_
    obtain ⟨g0,hg9⟩:∃g:Nat,(g:Int)=(((yd W).getD (m+1) 0*1000000000+(yd W).getD m 0) / ((yd V).getD m 0+1)):=⟨_,Int.toNat_of_nonneg hg0⟩
    obtain ⟨hgm,hgl⟩:=Big.pt_guess hWlt hm hg9
    have hVg:=yx hgm
    have e33:(((((yd W).getD (m+1) 0*1000000000)+(yd W).getD m 0) / (((yd V).getD m 0)+1)):Int)=((g0:Nat):Int):=by exact hg9.symm
    rw [e33]
    refine za<|e_mv rfl<|e_mv rfl<|e_mv rfl<|zm rfl rfl (.c rfl (.c rfl .n)) ce134 (zhc (a:=V) (d:=g0) (p0:=p317) (cap:=c318) (hb:=by first|rfl|assumption|omega|(simp;done)) (hd:=by first|rfl|assumption|omega|(simp;done))) (.c (j:=6) rfl .n) ?_
    rintro ⟨p334,c335⟩ -
    dsimp only [aq,nq,cq]
    refine zm rfl rfl (.c rfl (.c rfl .n)) ce88 (zYb (a:=W) (b:=V*g0) (p1:=p328) (c1:=c329) (p2:=p334) (c2:=c335) (hb1:=by first|rfl|assumption|omega|(simp;done)) (hb2:=by first|rfl|assumption|omega|(simp;done)) (hab:=by first|rfl|assumption|omega|(simp;done))) (.c (j:=2) rfl (.c (j:=0) rfl .n)) ?_
    rintro ⟨p336,c337⟩ -
    dsimp only [aq,nq,cq]
    refine e_p (zb rfl)<|zf<|zd<|ze<|zx<|zja (X:=Nat×Nat×(Option Addr)×Nat) (fun x:Nat×Nat×(Option Addr)×Nat=>x.2.1+V*x.1=W) (fun x=>[(10,.slice (x.2.2.1) ((yd (x.2.1)).length) (x.2.2.2)),(13,.int .u64 ((x.1:Nat):Int)),(12,ya yb ((j:Nat):Int)),(11,.slice (some ⟨b22,0,none⟩) ((yd A).length - m) ((yd A).length - m)),(1,.slice p317 ((yd V).length) c318),(0,.slice p315 ((yd A).length) c316),(9,.int .u64 ((s:Nat):Int)),(6,ya yb (((m+1):Nat):Int)),(5,.slice none 0 0),(4,.slice none 0 0)]) (fun x=>[rowA 84 (rI .u32) (some ⟨b22,0,none⟩) ((yd A).length - m) (List.replicate (j+1) 0++qs)]) (fun x=>[slF (rI .u32) (x.2.2.1) (x.2.2.2) (yd (x.2.1)),slF (rI .u32) p336 c337 (yd (W - (V*g0))),slF (rI .u32) p334 c335 (yd (V*g0)),atF b30 o31 [.int .u32 ((yd V).getD m 0)],slF (rI .u32) p328 c329 (yd W),atF b24 o25 [.int .u32 ((d:Nat):Int)],slF (rI .u32) pr cr (yd R),slF (rI .u32) p220 c221 (yd R0),slF (rI .u32) (newP p315 c316 ((yd A).length - m) 1) (c316 - ((yd A).length - m)) (((yd A).take ((yd A).length)).drop ((yd A).length - m)),slF (rI .u32) p317 c318 (yd V),slF (rI .u32) p315 c316 (yd A),atF b11 o12 [.int .u32 ((yd b).getD ((yd b).length - 1) 0)],slF (rI .u32) p1 c1 (yd a),slF (rI .u32) p2 c2 (yd b)]) (fun x:Nat×Nat×(Option Addr)×Nat=>x.2.1) (g0,(W - V*g0),p336,c337) (show (W - V*g0)+V*g0=W from by exact Nat.sub_add_cancel hgm) ((.e rfl cgs (.of rfl)):SubM _ _) (ho:=(o0 rfl)) ((.e (j:=0) rfl (by first|rfl|simp_all) (.of [0,1,2,3,4,5,6,7,8,9,10,11,12] rfl)):SelR _ _ _) ?_
    rintro ⟨g,r,p9,c9⟩ hJ
    replace hJ:r+V*g=W:=hJ
    try dsimp only
    have hgb:g<1000000000:=Nat.lt_of_mul_lt_mul_left (a:=V) om
    have hrl:=yx (show r≤W by omega)
    refine ze<|ze<|za<|e_mv rfl<|e_mv rfl<|zJ rfl rfl (.c rfl (.c rfl .n)) ce87 (zjd (a:=r) (b:=V) (p1:=p9) (c1:=c9) (p2:=p317) (c2:=c318)) (.c (j:=0) rfl (.c (j:=9) rfl .n))<|e_p (zXa rfl rfl)<|zf<|zd<|zG rfl (fun hge=> ?_) (fun hge=> ?_)
    ·
     have hrV:V≤r:=by have h9:=yF.1 hge;omega
     refine zB<|zd<|zx<|ze<|za<|e_mv rfl<|e_mv rfl<|zm rfl rfl (.c rfl (.c rfl .n)) ce88 (zYb (a:=r) (b:=V) (p1:=p9) (c1:=c9) (p2:=p317) (c2:=c318) (hb1:=by first|rfl|assumption|omega|(simp;done)) (hb2:=by first|rfl|assumption|omega|(simp;done)) (hab:=by first|rfl|assumption|omega|(simp;done))) (.c (j:=0) rfl (.c (j:=9) rfl .n)) ?_
     rintro ⟨p338,c339⟩ -
     dsimp only [aq,nq,cq]
     refine e_p (zb rfl)<|zf<|zd<|za<|e_mv rfl<|e_p (zL (z:=(((g+1):Nat):Int)) rfl rfl (wu64 om))<|e_p (zb rfl)<|zf<|zP<|zda ((g+1),(r - V),p338,c339) (show (r - V)+V*(g+1)=W from by rw [Nat.mul_succ];omega) (by show r - V<r;omega) ((.e rfl cgs (.of rfl)):SubM _ _) (ho:=(o0 rfl)) ((.e (j:=0) rfl (by first|rfl|simp_all) (.of [2,3,4,5,6,7,8,9,10,11,12,13,14] rfl)):SelR _ _ _)
    ·
     have hrV:r<V:=by have h9:¬(V:Int)≤r:=fun h=>hge (yF.2 h);omega
     have hst:=hP.step hd (by rw [← hW];exact hJ) hrV
     refine zfa<|zi<|zi<|zw<|zd<|za<|e_mv rfl<|e_mv rfl<|e_mv rfl<|e_p (zD (z:=((g:Nat):Int)) rfl (by rw [yi];rfl) yh (wu32 om))<|e_p (zZ (j:=j) ye sz84 rfl rfl rfl om)<|zEa 0 rfl rfl rfl (zS (j:=j) (x0:=((g:Nat):Int)) (γ0:=()) rfl rfl (by first|omega|(rw [List.length_map];omega)|(simp only [List.length_set];omega)|(simp;done)|(simp;omega)) rfl rfl sz84 (fun _ _=>by exact zy.2 om)) (fun _=> .z) (fun _ _=> ?_)
     refine zf<|zP<|zd<|za<|e_mv rfl<|e_p (zca (z:=(((j:Nat):Int) - 1)) rfl rfl (w64 om))<|e_p (zb rfl)<|zf<|zda (j,(((g:Nat):Int) :: qs),r,p9,c9) (show Big.PtI A V j (((g:Nat):Int) :: qs) r∧j+(((g:Nat):Int) :: qs).length=(yd A).length - m from by exact ⟨hst,by rw [List.length_cons];omega⟩) (by show j<j+1;omega) (mR rfl) (ho:=((.e (i:=0) rfl (by rw [yP]) .n):PickO _ _ _)) ((.of [0,7,8,9,10,11,12,13] rfl):SelR _ _ _)
   ·
    have hj0:jj=0:=by omega
    have hI0:Big.PtI A V 0 qs R:=hj0 ▸ hP
    obtain ⟨hf1,hf2⟩:=hI0.fin
    have hsc:=Big.scale_div (a:=a) (b:=b) hs1
    have hRV:=hI0.lt
    have hRl:=yx (Nat.le_of_lt hRV)
    have hz4:=Big.made_nat hI0.ok hf1
    have hok5:=hI0.ok
    refine zfa<|zi<|zi<|zw<|zd<|ze<|za<|e_mv rfl<|e_mv rfl<|zm rfl rfl (.c rfl (.c rfl .n)) ce133 (zud (a:=R) (mm:=s) (p:=pr) (cap:=cr) (hb:=by first|rfl|assumption|omega|(simp;done)) (hm0:=by first|rfl|assumption|omega|(simp;done)) (hm1:=by first|rfl|assumption|omega|(simp;done))) (.c (j:=0) rfl .n) ?_
    rintro ⟨p240,c241⟩ -
    dsimp only [aq,nq,cq]
    refine e_mv rfl<|e_p (zq rfl rfl)<|e_p (zq rfl rfl)<|e_p (zb rfl)<|e_p (zb rfl)<|zf<|zd<|ze ?_
    have e42:List.replicate jj 0++qs=qs:=by rw [hj0];rfl
    rw [e42]
    refine za<|e_mv rfl<|zba 0 rfl .z<|zm rfl rfl (.c rfl (.c rfl .n)) ce85 (zKa (s:=false) (p:=some ⟨b22,0,none⟩) (n:=((yd A).length - m)) (cap:=((yd A).length - m)) (l:=qs) (hn:=by first|rfl|omega|(simp;done)|(simp;omega)) (ho:=by exact hok5) (hln:=by first|rfl|omega|(simp;done)|(simp;omega))) (.c (j:=0) rfl .n) ?_
    rintro ⟨p243,c244⟩ -
    dsimp only [aq,nq,cq]
    refine e_p (zBa yg rfl ty28 rfl rfl)<|e_mv rfl<|e_p (zb rfl)<|e_p (zb rfl)<|zf<|zd<|zC ?_
    have hr9:R / s=a%b:=by rw [hf2,hA,hV,hsc.2]
    have hz5:(yD false (yj qs)).natAbs=a / b:=by rw [hz4,hA,hV,hsc.1]
    exact zFa Tryz.results109 (p243,c244,p240,c241) trivial (zn rfl) (zn rfl) (by rw [hz5,hr9]) (ho:=oN) ((.e (j:=0) rfl (by rw [hz5]) (.e (j:=2) rfl (by rw [hr9]) .n)):SelR _ _ _)
end Go.Proofs.YtahiajepeodhoaaGreat.Sp
