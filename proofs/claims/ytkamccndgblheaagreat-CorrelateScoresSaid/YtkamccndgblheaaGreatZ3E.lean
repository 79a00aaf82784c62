/- Lemmas on the walk and plain lemmas that the claim of this folder uses; each states its own conditions. Lines were printed by a program of ours. -/
import Derived.Test.YtkamccndgblheaaGreatZ3D
set_option linter.unusedVariables false
set_option linter.unusedSimpArgs false
set_option linter.unusedSectionVars false
namespace Go.Proofs.YtkamccndgblheaaGreat.Cr
section
variable {l : List Int} {w h n y x pw ph : Nat} (hn : l.length = n) (hwh : n = w * h) (hx : x + pw ≤ w) (hy : y + ph ≤ h)
include hn hwh hx hy
end
section
variable {l1 l2 l3 : List Int} {w1 h1 n1 w2 h2 n2 y x : Nat} {p q : Int} (h1n : n1 = w1 * h1) (h2n : n2 = w2 * h2) (hw : 0 < w1) (hx : x + w1 ≤ w2) (hy : y + h1 ≤ h2) (h3 : ∀ i, i < n2 → px l3 i = p * px l2 i + q)
include h1n h2n hx hy h3
end
theorem sumN_nn {f:Nat→Int} {n:Nat} (h:∀i,i<n→0≤f i):0≤sumN f n:=by
  induction n with
  |zero=>exact Int.le_refl _
  |succ n ih=>exact Int.add_nonneg (ih fun i hi=>h i (by omega)) (h n (by omega))
def vr (f:Nat→Int) (n:Nat):Int:=n*sumN (fun i=>f i*f i) n - sumN f n*sumN f n
theorem dev (f:Nat→Int) (a:Int) (n:Nat):sumN (fun i=>(f i - a)*(f i - a)) n=sumN (fun i=>f i*f i) n - 2*a*sumN f n+n*(a*a):=by
  induction n with
  |zero=>simp [sumN]
  |succ n ih=>simp only [sumN];rw [ih,Int.natCast_add];grind
theorem vr_succ (f:Nat→Int) (n:Nat):vr f (n+1)=vr f n+sumN (fun i=>(f i - f n)*(f i - f n)) n:=by
  rw [dev];unfold vr;simp only [sumN];rw [Int.natCast_add];grind
theorem sq_nn (a:Int):0≤a*a:=by
  rcases Int.le_total 0 a with h|h
  · exact Int.mul_nonneg h h
  · have:=Int.mul_nonneg (Int.neg_nonneg.2 h) (Int.neg_nonneg.2 h);rwa [Int.neg_mul_neg] at this
theorem vr_nn (f:Nat→Int) (n:Nat):0≤vr f n:=by
  induction n with
  |zero=>simp [vr,sumN]
  |succ n ih=>rw [vr_succ];exact Int.add_nonneg ih (sumN_nn fun i _=>sq_nn _)
def cv (f g:Nat→Int) (n:Nat):Int:=n*sumN (fun i=>f i*g i) n - sumN f n*sumN g n
theorem vr_lin (f g:Nat→Int) (a b:Int) (n:Nat):vr (fun i=>a*f i - b*g i) n=a*a*vr f n - 2*a*b*cv f g n+b*b*vr g n:=by
  have e1:sumN (fun i=>a*f i - b*g i) n=a*sumN f n - b*sumN g n:=by
    induction n with
    |zero=>simp [sumN]
    |succ n ih=>simp only [sumN];rw [ih];grind
  have e2:sumN (fun i=>(a*f i - b*g i)*(a*f i - b*g i)) n=a*a*sumN (fun i=>f i*f i) n - 2*a*b*sumN (fun i=>f i*g i) n+b*b*sumN (fun i=>g i*g i) n:=by
    clear e1
    induction n with
    |zero=>simp [sumN]
    |succ n ih=>simp only [sumN];rw [ih];grind
  unfold vr cv;rw [e1,e2];grind
theorem cauchy {f g:Nat→Int} {n:Nat} (hg:0<vr g n):cv f g n*cv f g n≤vr f n*vr g n:=by
  have h:=vr_nn (fun i=>vr g n*f i - cv f g n*g i) n
  rw [vr_lin] at h
  have e:vr g n*vr g n*vr f n - 2*vr g n*cv f g n*cv f g n+cv f g n*cv f g n*vr g n=vr g n*(vr f n*vr g n - cv f g n*cv f g n):=by grind
  rw [e] at h
  have:=Int.le_of_mul_le_mul_left (a:=vr g n) (b:=0) (c:=vr f n*vr g n - cv f g n*cv f g n) (by rw [Int.mul_zero];exact h) hg
  omega
end Go.Proofs.YtkamccndgblheaaGreat.Cr
namespace Go.Proofs.YtkamccndgblheaaGreat.Cr
theorem div_le1 {n d:Int} (hd:0<d) (h:n≤d):Rat.divInt n d≤1:=by
  have hp:(0:Rat)<(d:Rat):=Rat.intCast_pos.2 hd
  rw [Rat.divInt_eq_div]
  apply Rat.le_of_mul_le_mul_right (c:=(d:Rat)) _ hp
  rw [Rat.div_mul_cancel (by grind),Rat.one_mul];exact Rat.intCast_le_intCast.2 h
theorem div_ge1 {n d:Int} (hd:0<d) (h: -d≤n): -1≤Rat.divInt n d:=by
  have k:=div_le1 (n:= -n) hd (by omega)
  rw [← Rat.neg_divInt] at k;grind
theorem sc_rng {c a b:Int} (ha:0≤a) (hb:0≤b) (h:0<b→c*c≤a*b):sc c a b≤1∧ -1≤sc c a b:=by
  unfold sc
  split
  · exact ⟨by decide,by decide⟩
  · rename_i k
    have hp:0<a*b:=Int.mul_pos (by omega) (by omega)
    have hc:=h (by omega)
    have e:c*(c.natAbs:Int)≤c*c∧ -(c*c)≤c*(c.natAbs:Int):=by
      rcases Int.natAbs_eq c with q|q
      · rw [← q];have:=sq_nn c;omega
      · have : (c.natAbs : Int) = -c := by omega
        rw [this,Int.mul_neg];have:=sq_nn c;omega
    constructor
    · exact div_le1 hp (by omega)
    · exact div_ge1 hp (by omega)
def wn (l:List Int) (w y x pw k:Nat):Int:=px l ((y+k / pw)*w+(x+k%pw))
theorem box_wn (l:List Int) (w y x:Nat) {pw:Nat} (hp:0<pw) (ph:Nat):box (px l) w y x ph pw=sumN (wn l w y x pw) (pw*ph):=(sumN_lin (fun j i=>px l ((y+j)*w+(x+i))) hp ph).symm
theorem boxq_wn (l:List Int) (w y x:Nat) {pw:Nat} (hp:0<pw) (ph:Nat):box (sq l) w y x ph pw=sumN (fun k=>wn l w y x pw k*wn l w y x pw k) (pw*ph):=(sumN_lin (fun j i=>sq l ((y+j)*w+(x+i))) hp ph).symm
section
variable {l1 l2 : List Int} {w1 h1 n1 w2 y x : Nat} (h1n : n1 = w1 * h1) (hw : 0 < w1)
include h1n hw
theorem vb_is:vb l2 w1 h1 n1 w2 y x=vr (wn l2 w2 y x w1) n1:=by
  unfold vb vr;rw [box_wn l2 w2 y x hw,boxq_wn l2 w2 y x hw,←h1n]
theorem cc_is:cc l1 l2 w1 h1 n1 w2 y x=cv (px l1) (wn l2 w2 y x w1) n1:=by
  unfold cc cv;rw [box_wn l2 w2 y x hw,←h1n]
  congr 2;unfold crs;exact sumN_congr fun i _=>by unfold wn;rw [Nat.add_assoc]
theorem scr_rng:scr l1 l2 w1 h1 n1 w2 y x≤1∧ -1≤scr l1 l2 w1 h1 n1 w2 y x:=by
  unfold scr
  rw [vb_is h1n hw,cc_is h1n hw]
  exact sc_rng (vr_nn _ _) (vr_nn _ _) fun h=>cauchy h
end
end Go.Proofs.YtkamccndgblheaaGreat.Cr
namespace Go.Proofs.YtkamccndgblheaaGreat.Sp
open Go
set_option linter.unusedVariables false
set_option maxRecDepth 100000
set_option maxHeartbeats 1000000
theorem zGf {p:Option Addr} {n:Nat} {cap:Nat} {l:List Gr} (hn:l.length=n):Con Tryz.prog 8 [.slice p n cap] [] [slF rG p cap l] (Y:=Unit) (fun y=>True) (fun y=> .bool (decide (∀g∈l,g.n≤150))) (fun y=>[]) (fun y=>[]):=by
 refine zn Tryz.func8 rfl rfl rfl (fun c=> ?_)
 show RunC _ _ _ _ _ [(0,.slice p n cap)] [] [slF rG p cap l]
 refine zX 0 rfl (fun hL0=> ?_)
 refine zh<|zb<|r_pv rfl rfl (zc rfl)<|zj<|zd<|zh<|zh<|zb<|r_pv rfl rfl (za rfl)<|r_pv rfl rfl (zQ Tryz.underlying77 rfl)<|r_pv rfl rfl (za rfl)<|zj<|zd<|zG<|zla (X:=Nat) (fun x:Nat=>x≤n∧∀j,j<x→(l.getD j gr0).n≤150) (fun x=>[(7,.int .i64 ((x:Nat):Int)),(6,.int .i64 ((n:Nat):Int)),(5,.slice p n cap)]) (fun x=>[]) (fun x=>[slF rG p cap l]) (fun x:Nat=>n - x) 0 (show 0≤n∧∀j,j<0→(l.getD j gr0).n≤150 from by exact ⟨by omega,fun j h=>by omega⟩) ((.e rfl (by first|rfl|(congr 1;omega)|simp_all) (.c rfl (.c rfl .n))):SubM _ _) (ho:=(.n:PickO _ _ _)) ((.c (j:=0) rfl .n):SelR _ _ _) ?_
 rintro i hI
 replace hI:i≤n∧∀j,j<i→(l.getD j gr0).n≤150:=hI
 try dsimp only
 obtain ⟨hi,hall⟩:=hI
 refine zh<|zb<|r_pv rfl rfl (zga rfl rfl)<|zj<|zd<|zh<|zH rfl (fun h1=> ?_) (fun h1=> ?_)
 ·
  refine zD<|zd<|zh<|zG<|zh<|zb<|zU (x0:=(l.getD i gr0)) 0 i rfl Tryz.underlying77 sz24 rfl rfl rfl (by first|rfl|assumption|(simp_all;done)|omega) rfl rfl (gD (d:=gr0) (by omega)) (fun b2 o3 hok4=> ?_)
  obtain ⟨hok40,hok41,hok42⟩:=hok4
  replace hok40:=zV.1 hok40
  replace hok41:=zV.1 hok41
  replace hok42:=zV.1 hok42
  refine r_u rfl rfl (zCb (j:=0) 0 ty24 rfl rfl rfl (.take (.take (.take (.take .nil)))))<|zJ rfl rfl (zA zr24 rfl) (fun b5=> ?_)
  refine zm 0 rfl rfl rfl rfl rfl sz24 rfl (.take (.take (.take (.take .nil)))) .z<|zj<|zd<|zh<|zb<|r_pv rfl rfl (zg Tryz.underlying24 rfl sz22 rfl rfl)<|r_u rfl rfl (zi 0 ty22 rfl rfl rfl)<|r_pv rfl rfl (zQ Tryz.underlying22 rfl)<|r_pv rfl rfl (zwa rfl rfl)<|zj<|zd<|zH rfl (fun hb=> ?_) (fun hb=> ?_)
  ·
   refine zh<|zb<|r_pv rfl rfl (zc rfl)<|zj<|zd<|zI<|zY<|zo<|zo<|zY<|zo ?_
   exact zy Tryz.results8 () trivial (zp rfl) (congrArg Value.bool (decide_eq_false (fun k=>by have h9:=k _ (Cr.getD_memG (l:=l) (i:=i) (d:=gr0) (by omega));omega))) (ho:=(.n:PickO _ _ _)) (.n:SelR _ _ _)
  ·
   refine zD<|zW<|zd<|zb<|r_pv rfl rfl (zE (z:=(((i+1):Nat):Int)) rfl rfl (w64 (by omega)))<|r_pv rfl rfl (za rfl)<|zj<|zha (i+1) (show (i+1)≤n∧∀j,j<(i+1)→(l.getD j gr0).n≤150 from by refine ⟨by omega,fun j hj=> ?_⟩;by_cases e:j=i;subst e;omega;exact hall j (by omega)) (by show n - (i+1)<n - i;omega) ((.of rfl):SubM _ _) (ho:=(.n:PickO _ _ _)) ((.c (j:=1) rfl .n):SelR _ _ _)
 ·
  refine zja<|zl<|zl<|zx<|zd<|zh<|zb<|r_pv rfl rfl (zc rfl)<|zj<|zd<|zI ?_
  exact zy Tryz.results8 () trivial (zp rfl) (congrArg Value.bool (decide_eq_true (fun g hg=>by obtain ⟨j,hj,e⟩:=Cr.mem_getDG (d:=gr0) hg;have h9:=hall j (by rw [hn] at hj;omega);rw [e] at h9;exact h9))) (ho:=(.n:PickO _ _ _)) (.n:SelR _ _ _)
theorem zsd {p:Option Addr} {n:Nat} {cap:Nat} {l:List Gr} {ls:List (List Int)} (hn:l.length=n) (hls:∀i,i<n→(ls.getD i []).length=(l.getD i gr0).n):Con Tryz.prog 10 [.slice p n cap] [] [slF rG p cap l,gsF l ls] (Y:=Unit) (fun y=>True) (fun y=> .int .i64 (if (Cr.allok l ls n) then 0 else 1)) (fun y=>[]) (fun y=>[]):=by
 refine zn Tryz.func10 rfl rfl rfl (fun c=> ?_)
 show RunC _ _ _ _ _ [(0,.slice p n cap)] [] [slF rG p cap l,gsF l ls]
 refine zX 0 rfl (fun hL0=> ?_)
 refine zh<|zb<|r_pv rfl rfl (zc rfl)<|zj<|zd<|zh<|zh<|zb<|r_pv rfl rfl (za rfl)<|r_pv rfl rfl (zQ Tryz.underlying77 rfl)<|r_pv rfl rfl (za rfl)<|zj<|zd<|zG<|zla (X:=Nat) (fun x:Nat=>x≤n∧∀j,j<x→Bl.rok (l.getD j gr0).w (l.getD j gr0).h (l.getD j gr0).m (ls.getD j [])) (fun x=>[(8,.int .i64 ((x:Nat):Int)),(7,.int .i64 ((n:Nat):Int)),(6,.slice p n cap)]) (fun x=>[]) (fun x=>[slF rG p cap l,gsF l ls]) (fun x:Nat=>n - x) 0 (show 0≤n∧∀j,j<0→Bl.rok (l.getD j gr0).w (l.getD j gr0).h (l.getD j gr0).m (ls.getD j []) from by exact ⟨by omega,fun j h=>by omega⟩) ((.e rfl (by first|rfl|(congr 1;omega)|simp_all) (.c rfl (.c rfl .n))):SubM _ _) (ho:=(.n:PickO _ _ _)) ((.of [0,1] rfl):SelR _ _ _) ?_
 rintro i hI
 replace hI:i≤n∧∀j,j<i→Bl.rok (l.getD j gr0).w (l.getD j gr0).h (l.getD j gr0).m (ls.getD j []):=hI
 try dsimp only
 obtain ⟨hi,hall⟩:=hI
 refine zh<|zb<|r_pv rfl rfl (zga rfl rfl)<|zj<|zd<|zh<|zH rfl (fun h1=> ?_) (fun h1=> ?_)
 ·
  refine zD<|zd<|zh<|zG<|zh<|zb<|zU (x0:=(l.getD i gr0)) 0 i rfl Tryz.underlying77 sz24 rfl rfl rfl (by first|rfl|assumption|(simp_all;done)|omega) rfl rfl (gD (d:=gr0) (by omega)) (fun b2 o3 hok4=> ?_)
  obtain ⟨hok40,hok41,hok42⟩:=hok4
  replace hok40:=zV.1 hok40
  replace hok41:=zV.1 hok41
  replace hok42:=zV.1 hok42
  refine r_u rfl rfl (zCb (j:=0) 0 ty24 rfl rfl rfl (.take (.take (.take (.take .nil)))))<|zJ rfl rfl (zA zr24 rfl) (fun b5=> ?_)
  refine zm 0 rfl rfl rfl rfl rfl sz24 rfl (.take (.take (.take (.take .nil)))) .z<|zj<|zd<|zh<|zXb (slF (rI .i64) ((l.getD i gr0).p) ((l.getD i gr0).c) (ls.getD i [])) (gsF_get 2 rfl i (by omega))<|zb<|r_u rfl rfl (ze 0 ty24 rfl rfl (.take (.take (.take (.take .nil)))))<|zN rfl rfl (.c rfl .n) ce38 (zDd (w:=(l.getD i gr0).w) (h:=(l.getD i gr0).h) (m:=(l.getD i gr0).m) (p:=(l.getD i gr0).p) (n:=(l.getD i gr0).n) (cap:=(l.getD i gr0).c) (l:=(ls.getD i [])) (hn:=by first|rfl|assumption|exact hls i (by omega)|omega)) (.c (j:=0) rfl .n)<|r_pv rfl rfl (zc rfl)<|zj<|zd<|zh<|zb<|r_pv rfl rfl (za rfl)<|r_pv rfl rfl (zEa rfl rfl)<|zj<|zd<|zH rfl (fun hb=> ?_) (fun hb=> ?_)
  ·
   refine zh<|zb<|r_pv rfl rfl (za rfl)<|r_pv rfl rfl (zc rfl)<|zj<|zd<|zI<|zY<|zo<|zo<|zY<|zo ?_
   exact zy Tryz.results10 () trivial (zp rfl) (by rw [if_neg (fun k=>hb (if_pos k)),if_neg (fun k=>hb (if_pos (k i (by omega))))]) (ho:=(.n:PickO _ _ _)) (.n:SelR _ _ _)
  ·
   refine zD<|zW<|zd<|zb<|r_pv rfl rfl (zE (z:=(((i+1):Nat):Int)) rfl rfl (w64 (by omega)))<|r_pv rfl rfl (za rfl)<|zj<|zha (i+1) (show (i+1)≤n∧∀j,j<(i+1)→Bl.rok (l.getD j gr0).w (l.getD j gr0).h (l.getD j gr0).m (ls.getD j []) from by refine ⟨by omega,fun j hj=> ?_⟩;by_cases e:j=i;subst e;exact Bl.c0.1 (Decidable.not_not.1 hb);exact hall j (by omega)) (by show n - (i+1)<n - i;omega) ((.of rfl):SubM _ _) (ho:=(.n:PickO _ _ _)) ((.of [2,3] rfl):SelR _ _ _)
 ·
  refine zja<|zl<|zl<|zx<|zd<|zh<|zb<|r_pv rfl rfl (zc rfl)<|zj<|zd<|zI ?_
  exact zy Tryz.results10 () trivial (zp rfl) (by rw [if_pos (show (Cr.allok l ls n) from fun j hj=>hall j (by omega))]) (ho:=(.n:PickO _ _ _)) (.n:SelR _ _ _)
theorem zMc {wi1:Int} {hi1:Int} {m1:Int} {p1:Option Addr} {n1:Nat} {c1:Nat} {l1:List Int} {wi2:Int} {hi2:Int} {m2:Int} {p2:Option Addr} {n2:Nat} {c2:Nat} {l2:List Int} {ex:Int} {ey:Int} (hok:(Cr.rk2 wi1 hi1 m1 l1 wi2 hi2 m2 l2)):Con Tryz.prog 11 [.agg #[.int .i64 wi1,.int .i64 hi1,.int .i64 m1,.slice p1 n1 c1],.agg #[.int .i64 wi2,.int .i64 hi2,.int .i64 m2,.slice p2 n2 c2],.int .i64 ex,.int .i64 ey] [] [] (Y:=Unit) (fun y=>True) (fun y=> .bool (decide (Cr.pos wi1 hi1 wi2 hi2 ex ey))) (fun y=>[]) (fun y=>[]):=by
 refine zn Tryz.func11 rfl rfl rfl (fun c=> ?_)
 show RunC _ _ _ _ _ [(0,.agg #[.int .i64 wi1,.int .i64 hi1,.int .i64 m1,.slice p1 n1 c1]),(1,.agg #[.int .i64 wi2,.int .i64 hi2,.int .i64 m2,.slice p2 n2 c2]),(2,.int .i64 ex),(3,.int .i64 ey)] [] []
 obtain ⟨⟨hw1,hh1,_,_,_⟩,hw2,hh2,_,_,_⟩:=hok
 refine zh<|zb<|zJ rfl rfl (zP rfl rfl) (fun b1=> ?_)
 refine zJ rfl rfl (zP rfl rfl) (fun b2=> ?_)
 refine r_pv rfl rfl (zc rfl)<|zj<|zd<|zVa (X:=Unit) (fun x=>True) (fun x=>[(8,.bool (decide ((((0≤ex)∧(0≤ey))∧(ex≤(wi2 - wi1)))∧(ey≤(hi2 - hi1)))))]) (fun x=>[boxA b2 24 [.int .i64 wi2,.int .i64 hi2,.int .i64 m2,.slice p2 n2 c2],boxA b1 24 [.int .i64 wi1,.int .i64 hi1,.int .i64 m1,.slice p1 n1 c1]]) (fun x=>[]) ?_ ?_
 ·
  refine zb<|r_pv rfl rfl (za rfl)<|r_pv rfl rfl (zPa rfl rfl)<|zfa rfl rfl (za rfl) (fun h3=> ?_) (fun h3=> ?_)
  ·
   refine r_pv rfl rfl (za rfl)<|r_pv rfl rfl (zPa rfl rfl)<|r_pv rfl rfl (zt rfl rfl)<|zfa rfl rfl (za rfl) (fun h4=> ?_) (fun h4=> ?_)
   ·
    refine r_pv rfl rfl (za rfl)<|r_pv rfl rfl (zg Tryz.underlying24 rfl sz3 rfl rfl)<|r_u rfl rfl (zi 0 ty3 rfl rfl rfl)<|r_pv rfl rfl (zg Tryz.underlying24 rfl sz3 rfl rfl)<|r_u rfl rfl (zi 1 ty3 rfl rfl rfl)<|r_pv rfl rfl (zaa (z:=(wi2 - wi1)) rfl rfl (w64 (by omega)))<|r_pv rfl rfl (zrb rfl rfl)<|r_pv rfl rfl (zt rfl rfl)<|zfa rfl rfl (za rfl) (fun h5=> ?_) (fun h5=> ?_)
    ·
     refine r_pv rfl rfl (za rfl)<|r_pv rfl rfl (zg Tryz.underlying24 rfl sz3 rfl rfl)<|r_u rfl rfl (zi 0 ty3 rfl rfl rfl)<|r_pv rfl rfl (zg Tryz.underlying24 rfl sz3 rfl rfl)<|r_u rfl rfl (zi 1 ty3 rfl rfl rfl)<|r_pv rfl rfl (zaa (z:=(hi2 - hi1)) rfl rfl (w64 (by omega)))<|r_pv rfl rfl (zrb rfl rfl)<|r_pv rfl rfl (zt rfl rfl)<|r_pv rfl rfl (zc rfl)<|zj ?_
     exact zka () (show True from by first|trivial|omega|simp_all) ((.e rfl (congrArg Value.bool (by first|(simp_all;done)|(simp_all;omega)|(simp;omega)|omega)) .n):SubM _ _) (ho:=((.of [0,0] rfl):PickO _ _ _)) (.n:SelR _ _ _)
    ·
     refine zf rfl rfl<|zf rfl rfl<|zf rfl rfl<|zf rfl rfl<|zf rfl rfl<|zf rfl rfl<|zf rfl rfl<|r_pv rfl rfl (zt rfl rfl)<|r_pv rfl rfl (zc rfl)<|zj ?_
     exact zka () (show True from by first|trivial|omega|simp_all) ((.e rfl (congrArg Value.bool (by first|(simp_all;done)|(simp_all;omega)|(simp;omega)|omega)) .n):SubM _ _) (ho:=((.of [0,0] rfl):PickO _ _ _)) (.n:SelR _ _ _)
   ·
    refine zf rfl rfl<|zf rfl rfl<|zf rfl rfl<|zf rfl rfl<|zf rfl rfl<|zf rfl rfl<|zf rfl rfl<|r_pv rfl rfl (zt rfl rfl)<|r_pv rfl rfl (za rfl)<|zf rfl rfl<|zf rfl rfl<|zf rfl rfl<|zf rfl rfl<|zf rfl rfl<|zf rfl rfl<|zf rfl rfl<|r_pv rfl rfl (zt rfl rfl)<|r_pv rfl rfl (zc rfl)<|zj ?_
    exact zka () (show True from by first|trivial|omega|simp_all) ((.e rfl (congrArg Value.bool (by first|(simp_all;done)|(simp_all;omega)|(simp;omega)|omega)) .n):SubM _ _) (ho:=((.of [0,0] rfl):PickO _ _ _)) (.n:SelR _ _ _)
  ·
   refine zf rfl rfl<|zf rfl rfl<|r_pv rfl rfl (zt rfl rfl)<|r_pv rfl rfl (za rfl)<|zf rfl rfl<|zf rfl rfl<|zf rfl rfl<|zf rfl rfl<|zf rfl rfl<|zf rfl rfl<|zf rfl rfl<|r_pv rfl rfl (zt rfl rfl)<|r_pv rfl rfl (za rfl)<|zf rfl rfl<|zf rfl rfl<|zf rfl rfl<|zf rfl rfl<|zf rfl rfl<|zf rfl rfl<|zf rfl rfl<|r_pv rfl rfl (zt rfl rfl)<|r_pv rfl rfl (zc rfl)<|zj ?_
   exact zka () (show True from by first|trivial|omega|simp_all) ((.e rfl (congrArg Value.bool (by first|(simp_all;done)|(simp_all;omega)|(simp;omega)|omega)) .n):SubM _ _) (ho:=((.of [0,0] rfl):PickO _ _ _)) (.n:SelR _ _ _)
 ·
  rintro ⟨⟩ -
  try dsimp only
  refine zI ?_
  exact zy Tryz.results11 () trivial (zp rfl) (congrArg Value.bool (decide_eq_decide.2 (by unfold Cr.pos;constructor <;> intro k <;> omega))) (ho:=(.n:PickO _ _ _)) (.n:SelR _ _ _)
end Go.Proofs.YtkamccndgblheaaGreat.Sp
namespace Go.Proofs.YtkamccndgblheaaGreat.Sp
open Go
set_option linter.unusedVariables false
set_option maxRecDepth 100000
set_option maxHeartbeats 1000000
theorem zYe:Con Tryz.prog 7 [] [] [] (Y:=Unit) (fun y=>True) (fun y=> .bool true) (fun y=>[]) (fun y=>[]):=by
 refine zn Tryz.func7 rfl rfl rfl (fun c=> ?_)
 show RunC _ _ _ _ _ [] [] []
 refine zh<|zb<|r_pv rfl rfl (zc rfl)<|zj<|zd<|zh<|zb<|zxa rfl rfl (zR (enc:=fun z:Int=>[.int .i64 z]) (ok:=InK .i64) (h1:=fun _=>rfl) (h2:=fun _=>rfl) (k:=2) Tryz.underlying22 inf3 rfl (by decide) (by decide) (by decide) (.c (x:=1) rfl rfl (fun _ _=>by exact zV.2 (by omega)) (.c (x:=3) rfl rfl (fun _ _=>by exact zV.2 (by omega)) .n))) (fun b1 _=> ?_)
 refine r_pv rfl rfl (zL zr24 rfl Tryz.underlying24 (.c sz3 (.c sz3 (.c sz3 (.c sz22 .n)))) (.c rfl (.c rfl (.c rfl (.c rfl .n)))) (.c rfl rfl rfl (.take .nil) (.c rfl rfl rfl (.skip (.take .nil)) (.c rfl rfl rfl (.skip (.skip (.take .nil))) (.c rfl rfl rfl (.skip (.skip (.skip (.take .nil)))) .n)))))<|zxa rfl rfl (zR (enc:=fun z:Int=>[.int .i64 z]) (ok:=InK .i64) (h1:=fun _=>rfl) (h2:=fun _=>rfl) (k:=3) Tryz.underlying22 inf3 rfl (by decide) (by decide) (by decide) (.c (x:=2) rfl rfl (fun _ _=>by exact zV.2 (by omega)) (.c (x:=4) rfl rfl (fun _ _=>by exact zV.2 (by omega)) (.c (x:=3) rfl rfl (fun _ _=>by exact zV.2 (by omega)) .n)))) (fun b2 _=> ?_)
 refine r_pv rfl rfl (zL zr24 rfl Tryz.underlying24 (.c sz3 (.c sz3 (.c sz3 (.c sz22 .n)))) (.c rfl (.c rfl (.c rfl (.c rfl .n)))) (.c rfl rfl rfl (.take .nil) (.c rfl rfl rfl (.skip (.take .nil)) (.c rfl rfl rfl (.skip (.skip (.take .nil))) (.c rfl rfl rfl (.skip (.skip (.skip (.take .nil)))) .n)))))<|zJ rfl rfl (zA zr24 rfl) (fun b3=> ?_)
 refine zJ rfl rfl (zA zr24 rfl) (fun b4=> ?_)
 refine zm 1 rfl rfl rfl rfl rfl sz24 rfl (.take (.take (.take (.take .nil)))) (.s .z)<|zm 0 rfl rfl rfl rfl rfl sz24 rfl (.take (.take (.take (.take .nil)))) .z<|zj<|zd<|zh<|zb<|r_u rfl rfl (ze 1 ty24 rfl rfl (.take (.take (.take (.take .nil)))))<|r_u rfl rfl (ze 0 ty24 rfl rfl (.take (.take (.take (.take .nil)))))<|zia 3 rfl (.s (.s (.s .z)))<|zia 2 rfl (.s (.s .z))<|zv rfl rfl (.c rfl (.c rfl (.c rfl (.c rfl .n)))) ce9 (zrd (wi1:=2) (hi1:=1) (m1:=9) (p1:=some ⟨b1,0,none⟩) (n1:=2) (c1:=2) (l1:=[1,3]) (wi2:=3) (hi2:=1) (m2:=9) (p2:=some ⟨b2,0,none⟩) (n2:=3) (c2:=3) (l2:=[2,4,3]) (ex:=1) (ey:=0) (hn1:=by first|rfl|assumption|omega|decide|(decide +kernel)) (hn2:=by first|rfl|assumption|omega|decide|(decide +kernel))) (.c (j:=1) rfl (.c (j:=0) rfl .n)) ?_
 rintro ⟨w35,w46⟩ hy7
 dsimp only [List.append_eq,List.nil_append,List.cons_append]
 replace hy7:(Cr.sok 2 1 9 ([1,3]) 3 1 9 ([2,4,3]) 1 0)∨(w35=wz∧w46=wz):=hy7
 have e8:((if (Cr.rk2 2 1 9 ([1,3]) 3 1 9 ([2,4,3])) then (if (Cr.pos 2 1 3 1 1 0) then 0 else 15) else 1):Int)=0:=by decide +kernel
 rw [e8]
 have e9:((if (Cr.sok 2 1 9 ([1,3]) 3 1 9 ([2,4,3]) 1 0) then (Cr.scq ([1,3]) ([2,4,3]) 2 1 3 1 0) else 0):Rat)=((-1:Int):Rat):=by decide +kernel
 rw [e9]
 have e10:(decide (Cr.sok 2 1 9 ([1,3]) 3 1 9 ([2,4,3]) 1 0))=true:=by decide +kernel
 rw [e10]
 refine r_pv rfl rfl (za rfl)<|r_pv rfl rfl (zr rfl rfl)<|r_pv rfl rfl (zr rfl rfl)<|zJ rfl rfl (zA zr32 rfl) (fun b11=> ?_)
 refine zm 0 rfl rfl rfl rfl rfl sz32 rfl (.take (.take (.take (.take .nil)))) .z<|r_pv rfl rfl (zc rfl)<|zj<|zd<|zh<|zb<|r_u rfl rfl (ze 2 ty24 rfl rfl (.take (.take (.take (.take .nil)))))<|r_u rfl rfl (ze 1 ty24 rfl rfl (.take (.take (.take (.take .nil)))))<|zv rfl rfl (.c rfl (.c rfl .n)) ce18 (zqf (wi1:=2) (hi1:=1) (m1:=9) (p1:=some ⟨b1,0,none⟩) (n1:=2) (c1:=2) (l1:=[1,3]) (wi2:=3) (hi2:=1) (m2:=9) (p2:=some ⟨b2,0,none⟩) (n2:=3) (c2:=3) (l2:=[2,4,3]) (hn1:=by first|rfl|assumption|omega|decide|(decide +kernel)) (hn2:=by first|rfl|assumption|omega|decide|(decide +kernel))) (.c (j:=2) rfl (.c (j:=1) rfl .n)) ?_
 rintro ⟨w312,w413⟩ hy14
 dsimp only [List.append_eq,List.nil_append,List.cons_append]
 replace hy14:((if (Cr.rk2 2 1 9 ([1,3]) 3 1 9 ([2,4,3])) then Cr.best ([1,3]) ([2,4,3]) 2 1 3 1 else none).isSome=false→w312=wz∧w413=wz)∧Big.hq (Cr.pQ (if (Cr.rk2 2 1 9 ([1,3]) 3 1 9 ([2,4,3])) then Cr.best ([1,3]) ([2,4,3]) 2 1 3 1 else none))≤6:=hy14
 have e15:((if (Cr.rk2 2 1 9 ([1,3]) 3 1 9 ([2,4,3])) then (if (if (Cr.rk2 2 1 9 ([1,3]) 3 1 9 ([2,4,3])) then Cr.best ([1,3]) ([2,4,3]) 2 1 3 1 else none).isSome then 0 else 6) else 1):Int)=0:=by decide +kernel
 rw [e15]
 have e16:((Cr.pX (if (Cr.rk2 2 1 9 ([1,3]) 3 1 9 ([2,4,3])) then Cr.best ([1,3]) ([2,4,3]) 2 1 3 1 else none)):Int)=0:=by decide +kernel
 rw [e16]
 have e17:((Cr.pY (if (Cr.rk2 2 1 9 ([1,3]) 3 1 9 ([2,4,3])) then Cr.best ([1,3]) ([2,4,3]) 2 1 3 1 else none)):Int)=0:=by decide +kernel
 rw [e17]
 have e18:((Cr.pQ (if (Cr.rk2 2 1 9 ([1,3]) 3 1 9 ([2,4,3])) then Cr.best ([1,3]) ([2,4,3]) 2 1 3 1 else none)):Rat)=((1:Int):Rat):=by decide +kernel
 rw [e18]
 have e19:(if (Cr.rk2 2 1 9 ([1,3]) 3 1 9 ([2,4,3])) then Cr.best ([1,3]) ([2,4,3]) 2 1 3 1 else none).isSome=true:=by decide +kernel
 rw [e19]
 refine r_pv rfl rfl (za rfl)<|r_pv rfl rfl (zr rfl rfl)<|r_pv rfl rfl (zr rfl rfl)<|r_pv rfl rfl (zr rfl rfl)<|r_pv rfl rfl (zr rfl rfl)<|zJ rfl rfl (zA zr32 rfl) (fun b20=> ?_)
 refine r_pv rfl rfl (zc rfl)<|r_pv rfl rfl (zc rfl)<|zm 0 rfl rfl rfl rfl rfl sz32 rfl (.take (.take (.take (.take .nil)))) .z<|r_pv rfl rfl (zc rfl)<|zj<|zd<|zh<|zb<|r_u rfl rfl (ze 2 ty24 rfl rfl (.take (.take (.take (.take .nil)))))<|zv rfl rfl (.c rfl .n) ce32 (zKd (wi1:=3) (hi1:=1) (m1:=9) (p1:=some ⟨b2,0,none⟩) (n1:=3) (c1:=3) (l1:=[2,4,3]) (hn1:=by first|rfl|assumption|omega|decide|(decide +kernel))) (.c (j:=2) rfl .n) ?_
 rintro ⟨p321,kq,c322,rq⟩ hsq
 dsimp only [List.append_eq,List.nil_append,List.cons_append]
 replace hsq:rq.length=kq∧(rq=if Bl.rok 3 1 9 ([2,4,3]) then Cr.tab (Cr.sq ([2,4,3])) (Int.toNat 3) (Int.toNat 1+1) else []):=hsq
 have e23:((if Bl.rok 3 1 9 ([2,4,3]) then 0 else 1):Int)=0:=by decide +kernel
 rw [e23]
 have e24:Cr.exT=rq:=by rw [hsq.2];decide +kernel
 subst e24
 have e25:2=kq:=by exact hsq.1
 subst e25
 refine r_pv rfl rfl (za rfl)<|r_pv rfl rfl (zr rfl rfl)<|r_pv rfl rfl (zr rfl rfl)<|r_pv rfl rfl (zc rfl)<|r_pv rfl rfl (zc rfl)<|zj<|zd<|zh<|zca (OW:=[]) (O:=[boxA b20 32 [w312.b,w312.l,w413.b,w413.l],boxA b11 32 [w35.b,w35.l,w46.b,w46.l],boxA b4 24 [.int .i64 3,.int .i64 1,.int .i64 9,.slice (some ⟨b2,0,none⟩) 3 3],boxA b3 24 [.int .i64 2,.int .i64 1,.int .i64 9,.slice (some ⟨b1,0,none⟩) 2 2],emA,emA]) 100000 mixed (.then .ret) (by kernel_rfl)<|d_pv 0 rfl rfl (by kernel_rfl) (by kernel_rfl) rfl rfl (za rfl)<|d_pv 1 rfl rfl (by kernel_rfl) (by kernel_rfl) rfl rfl (zsa rfl rfl) ?_
 rw [show true=true from by decide]
 refine d_pv 2 rfl rfl (by kernel_rfl) (by kernel_rfl) rfl rfl (za rfl)<|d_pv 3 rfl rfl (by kernel_rfl) (by kernel_rfl) rfl rfl (za rfl)<|d_pv 4 rfl rfl (by kernel_rfl) (by kernel_rfl) rfl rfl (zsa rfl rfl)<|d_pv 5 rfl rfl (by kernel_rfl) (by kernel_rfl) rfl rfl (zt rfl rfl) ?_
 rw [show true=true from by decide]
 refine d_pv 6 rfl rfl (by kernel_rfl) (by kernel_rfl) rfl rfl (za rfl)<|d_pv 7 rfl rfl (by kernel_rfl) (by kernel_rfl) rfl rfl (za rfl)<|d_pv 8 rfl rfl (by kernel_rfl) (by kernel_rfl) rfl rfl (zsa rfl rfl)<|d_pv 9 rfl rfl (by kernel_rfl) (by kernel_rfl) rfl rfl (zt rfl rfl) ?_
 rw [show true=true from by decide]
 refine d_pv 10 rfl rfl (by kernel_rfl) (by kernel_rfl) rfl rfl (za rfl)<|d_pv 11 rfl rfl (by kernel_rfl) (by kernel_rfl) rfl rfl (za rfl)<|d_pv 12 rfl rfl (by kernel_rfl) (by kernel_rfl) rfl rfl (zsa rfl rfl)<|d_pv 13 rfl rfl (by kernel_rfl) (by kernel_rfl) rfl rfl (zt rfl rfl) ?_
 rw [show true=true from by decide]
 refine d_pv 14 rfl rfl (by kernel_rfl) (by kernel_rfl) rfl rfl (za rfl)<|d_pv 15 rfl rfl (by kernel_rfl) (by kernel_rfl) rfl rfl (za rfl)<|d_pv 16 rfl rfl (by kernel_rfl) (by kernel_rfl) rfl rfl (zsa rfl rfl)<|d_pv 17 rfl rfl (by kernel_rfl) (by kernel_rfl) rfl rfl (zt rfl rfl) ?_
 rw [show true=true from by decide]
 refine d_pv 18 rfl rfl (by kernel_rfl) (by kernel_rfl) rfl rfl (za rfl)<|d_u 19 rfl rfl (by kernel_rfl) (by kernel_rfl) rfl rfl (ze 1 ty32 rfl rfl (.take (.take (.take (.take .nil)))))<|zK 20 (by kernel_rfl) (zB rfl rfl rfl rfl (.c rfl .n) ce16 (zib (z:=(-1)) (hz:=by first|rfl|assumption|omega|decide|(decide +kernel))) (.n) ?_)
 rintro ⟨w326,w427⟩ -
 dsimp only [List.append_eq,List.nil_append,List.cons_append]
 refine zK 21 (by kernel_rfl) (zYa rfl rfl rfl rfl (.c rfl (.c rfl .n)) ce22 (zVb (u1:=w35) (v1:=w46) (q1:=((-1:Int):Rat)) (u2:=w326) (v2:=w427) (q2:=(((-1):Int):Rat)) (hl:=by first|rfl|assumption|omega|decide|(decide +kernel))) (.c (j:=3) rfl (.c (j:=0) rfl .n)) ?_)
 refine d_pv 22 rfl rfl (by kernel_rfl) (by kernel_rfl) rfl rfl (zt rfl rfl) ?_
 rw [show (decide (((-1:Int):Rat)=(((-1):Int):Rat)))=true from by decide +kernel]
 refine d_pv 23 rfl rfl (by kernel_rfl) (by kernel_rfl) rfl rfl (za rfl)<|d_u 24 rfl rfl (by kernel_rfl) (by kernel_rfl) rfl rfl (ze 0 ty32 rfl rfl (.take (.take (.take (.take .nil)))))<|zK 25 (by kernel_rfl) (zB rfl rfl rfl rfl (.c rfl .n) ce16 (zib (z:=1) (hz:=by first|rfl|assumption|omega|decide|(decide +kernel))) (.n) ?_)
 rintro ⟨w328,w429⟩ -
 dsimp only [List.append_eq,List.nil_append,List.cons_append]
 refine zK 26 (by kernel_rfl) (zYa rfl rfl rfl rfl (.c rfl (.c rfl .n)) ce22 (zVb (u1:=w312) (v1:=w413) (q1:=((1:Int):Rat)) (u2:=w328) (v2:=w429) (q2:=((1:Int):Rat)) (hl:=by first|rfl|assumption|omega|decide|(decide +kernel))) (.c (j:=3) rfl (.c (j:=0) rfl .n)) ?_)
 refine d_pv 27 rfl rfl (by kernel_rfl) (by kernel_rfl) rfl rfl (zt rfl rfl) ?_
 rw [show (decide (((1:Int):Rat)=((1:Int):Rat)))=true from by decide +kernel]
 refine d_pv 28 rfl rfl (by kernel_rfl) (by kernel_rfl) rfl rfl (za rfl)<|d_pv 29 rfl rfl (by kernel_rfl) (by kernel_rfl) rfl rfl (za rfl)<|d_pv 30 rfl rfl (by kernel_rfl) (by kernel_rfl) rfl rfl (zQ Tryz.underlying73 rfl)<|d_pv 31 rfl rfl (by kernel_rfl) (by kernel_rfl) rfl rfl (zsa rfl rfl)<|d_pv 32 rfl rfl (by kernel_rfl) (by kernel_rfl) rfl rfl (zt rfl rfl) ?_
 rw [show (decide (((2:Nat):Int)=2))=true from by decide]
 refine d_pv 33 rfl rfl (by kernel_rfl) (by kernel_rfl) rfl rfl (za rfl)<|d_pv 34 rfl rfl (by kernel_rfl) (by kernel_rfl) rfl rfl (za rfl)<|d_vl 35 rfl rfl (by kernel_rfl) (by kernel_rfl) rfl rfl (zkb (x0:=(Cr.exT.getD 1 [])) 2 1 rfl Tryz.underlying73 sz22 rfl (by first|rfl|assumption|(simp_all;done)|omega) rfl rfl (gD (d:=[]) (by first|omega|decide))) ?_
 rintro ⟨b30,o31,p32,c33⟩ -
 dsimp only [List.append_eq,List.nil_append,List.cons_append]
 refine d_u 36 rfl rfl (by kernel_rfl) (by kernel_rfl) rfl rfl (zk (j:=0) 0 ty22 rfl rfl rfl rfl)<|zK 37 (by kernel_rfl) (zvf rfl rfl rfl rfl (zR (enc:=fun z:Int=>[.int .i64 z]) (ok:=InK .i64) (h1:=fun _=>rfl) (h2:=fun _=>rfl) (k:=4) Tryz.underlying22 inf3 rfl (by decide) (by decide) (by decide) (.c (x:=0) rfl rfl (fun _ _=>by exact zV.2 (by omega)) (.c (x:=4) rfl rfl (fun _ _=>by exact zV.2 (by omega)) (.c (x:=20) rfl rfl (fun _ _=>by exact zV.2 (by omega)) (.c (x:=29) rfl rfl (fun _ _=>by exact zV.2 (by omega)) .n))))) (fun b34 _=> ?_))
 refine zQd 0 rfl .z<|zK 38 (by kernel_rfl) (zYa rfl rfl rfl rfl (.c rfl (.c rfl .n)) ce33 (zGe (p1:=p32) (n1:=(Cr.exT.getD 1 []).length) (c1:=c33) (l1:=(Cr.exT.getD 1 [])) (p2:=some ⟨b34,0,none⟩) (n2:=4) (c2:=4) (l2:=[0,4,20,29]) (hn1:=by first|rfl|assumption|omega|decide|(decide +kernel)) (hn2:=by first|rfl|assumption|omega|decide|(decide +kernel))) (.c (j:=2) rfl (.c (j:=0) rfl .n)) ?_)
 refine d_pv 39 rfl rfl (by kernel_rfl) (by kernel_rfl) rfl rfl (zt rfl rfl) ?_
 rw [show (decide ((Cr.exT.getD 1 [])=([0,4,20,29])))=true from by decide +kernel]
 refine d_pv 40 rfl rfl (by kernel_rfl) (by kernel_rfl) rfl rfl (zc rfl)<|zZ (by kernel_rfl)<|zd<|zI ?_
 exact zy Tryz.results7 () trivial (zp rfl) rfl (ho:=(.n:PickO _ _ _)) (.n:SelR _ _ _)
end Go.Proofs.YtkamccndgblheaaGreat.Sp
namespace Go.Proofs.YtkamccndgblheaaGreat.Cr
theorem wn_at {l:List Int} {w y x pw j i:Nat} (h:i<pw):wn l w y x pw (j*pw+i)=l.getD ((y+j)*w+x+i) 0:=by
  have hp:0<pw:=by omega
  have e1:(j*pw+i) / pw=j:=by rw [Nat.mul_comm,Nat.mul_add_div hp,Nat.div_eq_of_lt h,Nat.add_zero]
  have e2:(j*pw+i)%pw=i:=by rw [Nat.mul_comm,Nat.mul_add_mod,Nat.mod_eq_of_lt h]
  unfold wn px;rw [e1,e2,Nat.add_assoc]
theorem smp {f:Nat→Int} {n k:Nat} (hf:∀i,i<n→0≤f i∧f i≤65535) (hn:n≤4096) (hk:k≤n):0≤sumN f k∧sumN f k≤268431360:=by
  have:=sumN_le (f:=f) (n:=k) (B:=65535) fun j hj=>hf j (by omega)
  omega
theorem smq {f:Nat→Int} {n k:Nat} (hf:∀i,i<n→0≤f i∧f i≤4294836225) (hn:n≤4096) (hk:k≤n):0≤sumN f k∧sumN f k≤17591649177600:=by
  have:=sumN_le (f:=f) (n:=k) (B:=4294836225) fun j hj=>hf j (by omega)
  omega
section
variable {l1 l2 : List Int} {w1 h1 n1 w2 h2 n2 yy xx : Nat} (hg1 : ∀ i, i < n1 → 0 ≤ l1.getD i 0 ∧ l1.getD i 0 ≤ 65535) (hg2 : ∀ i, i < n2 → 0 ≤ l2.getD i 0 ∧ l2.getD i 0 ≤ 65535) (h1n : n1 = w1 * h1) (h2n : n2 = w2 * h2) (hw : 1 ≤ w1) (hx : xx + w1 ≤ w2) (hy : yy + h1 ≤ h2)
theorem win_in (h2n:n2=w2*h2) (hx:xx+w1≤w2) (hy:yy+h1≤h2) {j i:Nat} (hj:j<h1) (hi:i<w1):(yy+j)*w2+xx+i<n2:=by
  rw [Nat.add_assoc,h2n];exact at_lt (by omega) (by omega)
include hg2 h1n h2n hw hx hy in
theorem wn_b:∀k,k<n1→0≤wn l2 w2 yy xx w1 k∧wn l2 w2 yy xx w1 k≤65535:=fun k hk=>by
  have a:=Nat.div_lt_of_lt_mul (show k<w1*h1 by omega)
  have b:=Nat.mod_lt k (show w1>0 by omega)
  exact hg2 _ (by rw [← Nat.add_assoc];exact win_in h2n hx hy a b)
include hg2 h1n h2n hw hx hy in
theorem wn_q:∀k,k<n1→0≤wn l2 w2 yy xx w1 k*wn l2 w2 yy xx w1 k∧wn l2 w2 yy xx w1 k*wn l2 w2 yy xx w1 k≤4294836225:=fun k hk=>
  sq_b (wn_b hg2 h1n h2n hw hx hy k hk)
include hg1 hg2 h1n h2n hw hx hy in
theorem wn_c:∀k,k<n1→0≤px l1 k*wn l2 w2 yy xx w1 k∧px l1 k*wn l2 w2 yy xx w1 k≤4294836225:=fun k hk=>
  mul_g (hg1 k hk) (wn_b hg2 h1n h2n hw hx hy k hk)
end
section
variable {l1 l2 : List Int} {w1 h1 n1 w2 yy xx : Nat}
def lva (l1:List Int) (n1:Nat):Int:=((n1:Nat):Int)*sumN (sq l1) n1 - sumN (px l1) n1*sumN (px l1) n1
def lvb (l2:List Int) (w1 n1 w2 yy xx:Nat):Int:=((n1:Nat):Int)*sumN (fun k=>wn l2 w2 yy xx w1 k*wn l2 w2 yy xx w1 k) n1 - sumN (wn l2 w2 yy xx w1) n1*sumN (wn l2 w2 yy xx w1) n1
def lcc (l1 l2:List Int) (w1 n1 w2 yy xx:Nat):Int:=((n1:Nat):Int)*sumN (fun k=>px l1 k*wn l2 w2 yy xx w1 k) n1 - sumN (px l1) n1*sumN (wn l2 w2 yy xx w1) n1
theorem scr_ref (h1n:n1=w1*h1) (hw:1≤w1):scr l1 l2 w1 h1 n1 w2 yy xx=sc (lcc l1 l2 w1 n1 w2 yy xx) (lva l1 n1) (lvb l2 w1 n1 w2 yy xx):=by
  unfold scr;rw [vb_is h1n hw,cc_is h1n hw];rfl
theorem scr_ref0 (h1n:n1=w1*h1) (hw:1≤w1) (h:lva l1 n1=0∨lvb l2 w1 n1 w2 yy xx=0):(((0:Int)):Rat)=scr l1 l2 w1 h1 n1 w2 yy xx:=by
  rw [scr_ref h1n hw];unfold sc;rw [if_pos h];rfl
theorem scr_ref1 (h1n:n1=w1*h1) (hw:1≤w1) (h:¬(lva l1 n1=0∨lvb l2 w1 n1 w2 yy xx=0)):Rat.divInt (lcc l1 l2 w1 n1 w2 yy xx) (lva l1 n1)*Rat.divInt (max (lcc l1 l2 w1 n1 w2 yy xx) (-(lcc l1 l2 w1 n1 w2 yy xx))) (lvb l2 w1 n1 w2 yy xx)=scr l1 l2 w1 h1 n1 w2 yy xx:=by
  rw [scr_ref h1n hw];exact sc_ref (fun e=>h (.inl e)) (fun e=>h (.inr e))
end
theorem qabs_le {q:Rat} (h:q≤1∧ -1≤q):Big.sgq (Big.qabs q - ((1:Int):Rat))≤0:=by
  have k:¬0<Big.sgq (Big.qabs q - ((1:Int):Rat)):=fun e=>by
    rw [Big.sgq_pos,sub_pos] at e
    unfold Big.qabs at e
    split at e <;> grind
  omega
theorem hqd {a b:Int} (ha:I64 a) (hb:I64 b) (h:b≠0):Big.hq (Rat.divInt a b)≤6:=by
  have:=Big.zad ha.1 ha.2;have:=Big.zad hb.1 hb.2
  have:=Big.hq_divInt (n:=a) (d:=b) h
  omega
theorem hqd2 {a b c d:Int} (ha:I64 a) (hb:I64 b) (h:b≠0) (hc:I64 c) (hd:I64 d) (k:d≠0):Big.hq (Rat.divInt a b)+Big.hq (Rat.divInt c d)+1≤1048576:=by
  have:=hqd ha hb h;have:=hqd hc hd k;omega
end Go.Proofs.YtkamccndgblheaaGreat.Cr
namespace Go.Proofs.YtkamccndgblheaaGreat.Sp
open Go
def Wd.zz (u v:Wd):Prop:=u.s=false∧v.s=false∧u.n=0∧v.n=0
instance (u v:Wd):Decidable (Wd.zz u v):=inferInstanceAs (Decidable (_∧_))
theorem Wd.zz_wz:Wd.zz wz wz:=⟨rfl,rfl,rfl,rfl⟩
end Go.Proofs.YtkamccndgblheaaGreat.Sp
namespace Go.Proofs.YtkamccndgblheaaGreat.Sp
open Go
set_option linter.unusedVariables false
set_option maxRecDepth 100000
set_option maxHeartbeats 1000000
theorem zZe {k1:Bool} {u1:Wd} {v1:Wd} {q1:Rat} (hl:Big.hq q1≤1048576):Con Tryz.prog 15 [.agg #[u1.b,u1.l,v1.b,v1.l]] [] [qF k1 u1 v1 q1] (Y:=Wd×Wd) (fun y=>True) (fun y=> .agg #[y.1.b,y.1.l,y.2.b,y.2.l]) (fun y=>[]) (fun y=>[qF true y.1 y.2 (Big.qabs q1)]):=by
 refine zn Tryz.func15 rfl rfl rfl (fun c=> ?_)
 show RunC _ _ _ _ _ [(0,.agg #[u1.b,u1.l,v1.b,v1.l])] [] [qF k1 u1 v1 q1]
 refine zh<|zb<|zJ rfl rfl (zP rfl rfl) (fun b1=> ?_)
 refine zJ rfl rfl (zA zr32 rfl) (fun b2=> ?_)
 refine zj<|zd<|zh<|zh<|zb<|r_u rfl rfl (ze 1 ty32 rfl rfl (.take (.take (.take (.take .nil)))))<|zN rfl rfl (.c rfl .n) ce40 (zFc (k1:=k1) (u1:=u1) (v1:=v1) (q1:=q1) (hl:=by assumption)) (.c (j:=0) rfl .n)<|r_pv rfl rfl (zga rfl rfl)<|zj<|zd<|zH rfl (fun hneg=> ?_) (fun hneg=> ?_)
 ·
  refine zh<|zb<|r_u rfl rfl (ze 1 ty32 rfl rfl (.take (.take (.take (.take .nil)))))<|zv rfl rfl (.c rfl .n) ce42 (zqd (k1:=k1) (u1:=u1) (v1:=v1) (q1:=q1) (hl:=by assumption)) (.c (j:=0) rfl .n) ?_
  rintro ⟨w33,w44⟩ -
  dsimp only [List.append_eq,List.nil_append,List.cons_append]
  refine zm 0 rfl rfl rfl rfl rfl sz32 rfl (.take (.take (.take (.take .nil)))) .z<|zj<|zd<|zI<|zo ?_
  exact zy Tryz.results15 (w33,w44) trivial (zq 0 ty32 rfl rfl (.take (.take (.take (.take .nil))))) rfl (ho:=(.n:PickO _ _ _)) ((.e (j:=0) rfl (by rw [Big.qabs,if_pos (Big.sgq_lt.1 hneg)]) .n):SelR _ _ _)
 ·
  refine zD<|zd<|zh<|zb<|r_u rfl rfl (ze 1 ty32 rfl rfl (.take (.take (.take (.take .nil)))))<|zv rfl rfl (.c rfl .n) ce43 (zGa (k1:=k1) (u1:=u1) (v1:=v1) (q1:=q1)) (.c (j:=0) rfl .n) ?_
  rintro ⟨w35,w46⟩ -
  dsimp only [List.append_eq,List.nil_append,List.cons_append]
  refine zm 0 rfl rfl rfl rfl rfl sz32 rfl (.take (.take (.take (.take .nil)))) .z<|zj<|zd<|zI ?_
  exact zy Tryz.results15 (w35,w46) trivial (zq 0 ty32 rfl rfl (.take (.take (.take (.take .nil))))) rfl (ho:=(.n:PickO _ _ _)) ((.e (j:=0) rfl (by rw [Big.qabs,if_neg (fun k=>hneg (Big.sgq_lt.2 k))]) .n):SelR _ _ _)
theorem zme {u1:Wd} {v1:Wd}:Con Tryz.prog 19 [.agg #[u1.b,u1.l,v1.b,v1.l]] [] [] (Y:=Unit) (fun y=>True) (fun y=> .bool (decide (Wd.zz u1 v1))) (fun y=>[]) (fun y=>[]):=by
 refine zn Tryz.func19 rfl rfl rfl (fun c=> ?_)
 show RunC _ _ _ _ _ [(0,.agg #[u1.b,u1.l,v1.b,v1.l])] [] []
 refine zh<|zb<|zJ rfl rfl (zP rfl rfl) (fun b1=> ?_)
 refine r_pv rfl rfl (zc rfl)<|zj<|zd<|zVa (X:=Unit) (fun x=>True) (fun x=>[(26,.bool (decide (u1.s=false∧v1.s=false∧u1.n=0∧v1.n=0))),(2,.bool (decide (((((!u1.s)=true)∧((!v1.s)=true))∧(((u1.n:Nat):Int)=0))∧(((v1.n:Nat):Int)=0))))]) (fun x=>[boxA b1 32 (cw [u1,v1])]) (fun x=>[]) ?_ ?_
 ·
  refine zb<|r_pv rfl rfl (zg Tryz.underlying32 rfl sz30 rfl rfl)<|r_pv rfl rfl (zg Tryz.underlying30 rfl sz4 rfl rfl)<|r_u rfl rfl (zi 0 ty4 rfl rfl rfl)<|r_pv rfl rfl (zqb rfl)<|zOd rfl rfl (za rfl) (fun h2=> ?_) (fun h2=> ?_)
  ·
   refine r_pv rfl rfl (zg Tryz.underlying32 rfl sz30 rfl rfl)<|r_pv rfl rfl (zg Tryz.underlying30 rfl sz4 rfl rfl)<|r_u rfl rfl (zi 0 ty4 rfl rfl rfl)<|r_pv rfl rfl (zqb rfl)<|r_pv rfl rfl (zt rfl rfl)<|zOd rfl rfl (za rfl) (fun h3=> ?_) (fun h3=> ?_)
   ·
    refine r_pv rfl rfl (zg Tryz.underlying32 rfl sz30 rfl rfl)<|r_pv rfl rfl (zg Tryz.underlying30 rfl sz28 rfl rfl)<|r_u rfl rfl (zi 0 ty28 rfl rfl rfl)<|r_pv rfl rfl (zQ Tryz.underlying28 rfl)<|r_pv rfl rfl (zsa rfl rfl)<|r_pv rfl rfl (zt rfl rfl)<|zfa rfl rfl (za rfl) (fun h4=> ?_) (fun h4=> ?_)
    ·
     refine r_pv rfl rfl (zg Tryz.underlying32 rfl sz30 rfl rfl)<|r_pv rfl rfl (zg Tryz.underlying30 rfl sz28 rfl rfl)<|r_u rfl rfl (zi 0 ty28 rfl rfl rfl)<|r_pv rfl rfl (zQ Tryz.underlying28 rfl)<|r_pv rfl rfl (zsa rfl rfl)<|r_pv rfl rfl (zt rfl rfl)<|r_pv rfl rfl (zc rfl)<|zj ?_
     exact zka () (show True from by first|trivial|omega|simp_all) ((.e rfl (congrArg Value.bool (by first|(simp_all;done)|(simp_all;omega)|omega)) (.e rfl (congrArg Value.bool (by first|(simp_all;done)|(simp_all;omega)|omega)) .n)):SubM _ _) (ho:=((.c (i:=0) rfl .n):PickO _ _ _)) (.n:SelR _ _ _)
    ·
     refine zf rfl rfl<|zf rfl rfl<|zf rfl rfl<|zf rfl rfl<|zf rfl rfl<|r_pv rfl rfl (zt rfl rfl)<|r_pv rfl rfl (zc rfl)<|zj ?_
     exact zka () (show True from by first|trivial|omega|simp_all) ((.e rfl (congrArg Value.bool (by first|(simp_all;done)|(simp_all;omega)|omega)) (.e rfl (congrArg Value.bool (by first|(simp_all;done)|(simp_all;omega)|omega)) .n)):SubM _ _) (ho:=((.c (i:=0) rfl .n):PickO _ _ _)) (.n:SelR _ _ _)
   ·
    refine zf rfl rfl<|zf rfl rfl<|zf rfl rfl<|zf rfl rfl<|zf rfl rfl<|r_pv rfl rfl (zt rfl rfl)<|r_pv rfl rfl (za rfl)<|zf rfl rfl<|zf rfl rfl<|zf rfl rfl<|zf rfl rfl<|zf rfl rfl<|r_pv rfl rfl (zt rfl rfl)<|r_pv rfl rfl (zc rfl)<|zj ?_
    exact zka () (show True from by first|trivial|omega|simp_all) ((.e rfl (congrArg Value.bool (by first|(simp_all;done)|(simp_all;omega)|omega)) (.e rfl (congrArg Value.bool (by first|(simp_all;done)|(simp_all;omega)|omega)) .n)):SubM _ _) (ho:=((.c (i:=0) rfl .n):PickO _ _ _)) (.n:SelR _ _ _)
  ·
   refine zf rfl rfl<|zf rfl rfl<|zf rfl rfl<|zf rfl rfl<|r_pv rfl rfl (zt rfl rfl)<|r_pv rfl rfl (za rfl)<|zf rfl rfl<|zf rfl rfl<|zf rfl rfl<|zf rfl rfl<|zf rfl rfl<|r_pv rfl rfl (zt rfl rfl)<|r_pv rfl rfl (za rfl)<|zf rfl rfl<|zf rfl rfl<|zf rfl rfl<|zf rfl rfl<|zf rfl rfl<|r_pv rfl rfl (zt rfl rfl)<|r_pv rfl rfl (zc rfl)<|zj ?_
   exact zka () (show True from by first|trivial|omega|simp_all) ((.e rfl (congrArg Value.bool (by first|(simp_all;done)|(simp_all;omega)|omega)) (.e rfl (congrArg Value.bool (by first|(simp_all;done)|(simp_all;omega)|omega)) .n)):SubM _ _) (ho:=((.c (i:=0) rfl .n):PickO _ _ _)) (.n:SelR _ _ _)
 ·
  rintro ⟨⟩ -
  try dsimp only [cw]
  refine zI ?_
  exact zy Tryz.results19 () trivial (zp rfl) (congrArg Value.bool (decide_eq_decide.2 (by unfold Wd.zz;cases u1.s <;> cases v1.s <;> simp))) (ho:=(.n:PickO _ _ _)) (.n:SelR _ _ _)
end Go.Proofs.YtkamccndgblheaaGreat.Sp
namespace Go.Proofs.YtkamccndgblheaaGreat.Sp
open Go
set_option linter.unusedVariables false
set_option maxRecDepth 100000
set_option maxHeartbeats 1000000
theorem zne {w1:Nat} {vh1:Nat} {m1:Int} {p1:Option Addr} {n1:Nat} {c1:Nat} {l1:List Int} {w2:Nat} {vh2:Nat} {m2:Int} {p2:Option Addr} {n2:Nat} {c2:Nat} {l2:List Int} {xx:Nat} {yy:Nat} (hn1:l1.length=n1) (hw1:1≤w1∧w1≤64) (hh1:1≤vh1∧vh1≤64) (hwh1:n1=w1*vh1) (hb1:n1≤4096) (hg1:∀i,i<n1→0≤l1.getD i 0∧l1.getD i 0≤65535) (hn2:l2.length=n2) (hw2:1≤w2∧w2≤64) (hh2:1≤vh2∧vh2≤64) (hwh2:n2=w2*vh2) (hb2:n2≤4096) (hg2:∀i,i<n2→0≤l2.getD i 0∧l2.getD i 0≤65535) (hx:xx+w1≤w2) (hy:yy+vh1≤vh2):Con Tryz.prog 13 [.agg #[.int .i64 ((w1:Nat):Int),.int .i64 ((vh1:Nat):Int),.int .i64 m1,.slice p1 n1 c1],.agg #[.int .i64 ((w2:Nat):Int),.int .i64 ((vh2:Nat):Int),.int .i64 m2,.slice p2 n2 c2],.int .i64 ((xx:Nat):Int),.int .i64 ((yy:Nat):Int)] [] [slF (rI .i64) p1 c1 l1,slF (rI .i64) p2 c2 l2] (Y:=Wd×Wd) (fun y=>True) (fun y=> .agg #[y.1.b,y.1.l,y.2.b,y.2.l]) (fun y=>[]) (fun y=>[qF true y.1 y.2 (Cr.scr l1 l2 w1 vh1 n1 w2 yy xx)]):=by
 refine zn Tryz.func13 rfl rfl rfl (fun c=> ?_)
 show RunC _ _ _ _ _ [(0,.agg #[.int .i64 ((w1:Nat):Int),.int .i64 ((vh1:Nat):Int),.int .i64 m1,.slice p1 n1 c1]),(1,.agg #[.int .i64 ((w2:Nat):Int),.int .i64 ((vh2:Nat):Int),.int .i64 m2,.slice p2 n2 c2]),(2,.int .i64 ((xx:Nat):Int)),(3,.int .i64 ((yy:Nat):Int))] [] [slF (rI .i64) p1 c1 l1,slF (rI .i64) p2 c2 l2]
 refine zX 0 rfl (fun hL0=> ?_)
 refine zX 1 rfl (fun hL1=> ?_)
 refine zh<|zb<|zJ rfl rfl (zP rfl rfl) (fun b1=> ?_)
 refine zJ rfl rfl (zP rfl rfl) (fun b2=> ?_)
 refine zJ rfl rfl (zA zr32 rfl) (fun b3=> ?_)
 refine zj<|zd<|zh<|zb<|r_pv rfl rfl (zc rfl)<|r_pv rfl rfl (zc rfl)<|r_pv rfl rfl (zc rfl)<|r_pv rfl rfl (zc rfl)<|r_pv rfl rfl (zc rfl)<|r_pv rfl rfl (zc rfl)<|zj<|zd<|zh<|zh<|zb<|r_pv rfl rfl (zg Tryz.underlying24 rfl sz3 rfl rfl)<|r_u rfl rfl (zi 2 ty3 rfl rfl rfl)<|r_pv rfl rfl (za rfl)<|zj<|zd<|zG<|zla (X:=Nat) (fun x:Nat=>x≤vh1) (fun x=>[(28,.int .i64 ((x:Nat):Int)),(14,.int .i64 (Cr.sumN (fun k=>Cr.px l1 k*Cr.wn l2 w2 yy xx w1 k) (x*w1))),(13,.int .i64 (Cr.sumN (fun k=>Cr.wn l2 w2 yy xx w1 k*Cr.wn l2 w2 yy xx w1 k) (x*w1))),(12,.int .i64 (Cr.sumN (Cr.sq l1) (x*w1))),(11,.int .i64 (Cr.sumN (Cr.wn l2 w2 yy xx w1) (x*w1))),(10,.int .i64 (Cr.sumN (Cr.px l1) (x*w1))),(9,.int .i64 (((x*w1):Nat):Int)),(27,.int .i64 ((vh1:Nat):Int)),(8,.pointer (some ⟨b3,0,none⟩)),(5,.pointer (some ⟨b2,0,none⟩)),(4,.pointer (some ⟨b1,0,none⟩)),(2,.int .i64 ((xx:Nat):Int)),(3,.int .i64 ((yy:Nat):Int))]) (fun x=>[boxA b3 32 [.bool false,.slice none 0 0,.bool false,.slice none 0 0],boxA b2 24 [.int .i64 ((w2:Nat):Int),.int .i64 ((vh2:Nat):Int),.int .i64 m2,.slice p2 n2 c2],boxA b1 24 [.int .i64 ((w1:Nat):Int),.int .i64 ((vh1:Nat):Int),.int .i64 m1,.slice p1 n1 c1]]) (fun x=>[slF (rI .i64) p1 c1 l1,slF (rI .i64) p2 c2 l2]) (fun x:Nat=>vh1 - x) 0 (show 0≤vh1 from by exact Nat.zero_le _) ((.e rfl (by first|rfl|(congr 1;omega)|simp_all) (.e rfl (congrArg (Value.int .i64) (by rw [Nat.zero_mul];rfl)) (.e rfl (congrArg (Value.int .i64) (by rw [Nat.zero_mul];rfl)) (.e rfl (congrArg (Value.int .i64) (by rw [Nat.zero_mul];rfl)) (.e rfl (congrArg (Value.int .i64) (by rw [Nat.zero_mul];rfl)) (.e rfl (congrArg (Value.int .i64) (by rw [Nat.zero_mul];rfl)) (.e rfl (congrArg (Value.int .i64) (by rw [Nat.zero_mul];rfl)) (.of rfl)))))))):SubM _ _) (ho:=((.of [0,0,0] rfl):PickO _ _ _)) ((.of [0,1] rfl):SelR _ _ _) ?_
 rintro jj hI
 replace hI:jj≤vh1:=hI
 try dsimp only
 refine zh<|zb<|r_pv rfl rfl (zga rfl rfl)<|zj<|zd<|zh<|zH rfl (fun h4=> ?_) (fun h4=> ?_)
 ·
  refine zD<|zd<|zh<|zG<|zh<|zb<|r_pv rfl rfl (za rfl)<|r_pv rfl rfl (zc rfl)<|zj<|zd<|zh<|zb<|r_pv rfl rfl (zg Tryz.underlying24 rfl sz3 rfl rfl)<|r_u rfl rfl (zi 2 ty3 rfl rfl rfl)<|r_pv rfl rfl (za rfl)<|zj<|zd<|zG<|zla (X:=Nat) (fun x:Nat=>x≤w1) (fun x=>[(33,.int .i64 ((x:Nat):Int)),(14,.int .i64 (Cr.sumN (fun k=>Cr.px l1 k*Cr.wn l2 w2 yy xx w1 k) (jj*w1+x))),(13,.int .i64 (Cr.sumN (fun k=>Cr.wn l2 w2 yy xx w1 k*Cr.wn l2 w2 yy xx w1 k) (jj*w1+x))),(12,.int .i64 (Cr.sumN (Cr.sq l1) (jj*w1+x))),(11,.int .i64 (Cr.sumN (Cr.wn l2 w2 yy xx w1) (jj*w1+x))),(10,.int .i64 (Cr.sumN (Cr.px l1) (jj*w1+x))),(9,.int .i64 (((jj*w1+x):Nat):Int)),(32,.int .i64 ((w1:Nat):Int)),(15,.int .i64 ((jj:Nat):Int)),(28,.int .i64 ((jj:Nat):Int)),(27,.int .i64 ((vh1:Nat):Int)),(8,.pointer (some ⟨b3,0,none⟩)),(5,.pointer (some ⟨b2,0,none⟩)),(4,.pointer (some ⟨b1,0,none⟩)),(2,.int .i64 ((xx:Nat):Int)),(3,.int .i64 ((yy:Nat):Int))]) (fun x=>[boxA b3 32 [.bool false,.slice none 0 0,.bool false,.slice none 0 0],boxA b2 24 [.int .i64 ((w2:Nat):Int),.int .i64 ((vh2:Nat):Int),.int .i64 m2,.slice p2 n2 c2],boxA b1 24 [.int .i64 ((w1:Nat):Int),.int .i64 ((vh1:Nat):Int),.int .i64 m1,.slice p1 n1 c1]]) (fun x=>[slF (rI .i64) p1 c1 l1,slF (rI .i64) p2 c2 l2]) (fun x:Nat=>w1 - x) 0 (show 0≤w1 from by exact Nat.zero_le _) ((.e rfl (by first|rfl|(congr 1;omega)|simp_all) (.e rfl (congrArg (Value.int .i64) (by rfl)) (.e rfl (congrArg (Value.int .i64) (by rfl)) (.e rfl (congrArg (Value.int .i64) (by rfl)) (.e rfl (congrArg (Value.int .i64) (by rfl)) (.e rfl (congrArg (Value.int .i64) (by rfl)) (.e rfl (congrArg (Value.int .i64) (by rfl)) (.of rfl)))))))):SubM _ _) (ho:=((.of [0,0,0] rfl):PickO _ _ _)) ((.of [0,1] rfl):SelR _ _ _) ?_
  rintro ii hJ
  replace hJ:ii≤w1:=hJ
  try dsimp only
  refine zh<|zb<|r_pv rfl rfl (zga rfl rfl)<|zj<|zd<|zh<|zH rfl (fun h5=> ?_) (fun h5=> ?_)
  ·
   have hlt:jj*w1+ii<n1:=by rw [hwh1];exact Cr.at_lt (by omega) (by omega)
   have hlt2:(yy+jj)*w2+xx+ii<n2:=Cr.win_in hwh2 hx hy (by omega) (by omega)
   have hwn:=Cr.wn_at (l:=l2) (w:=w2) (y:=yy) (x:=xx) (j:=jj) (show ii<w1 by omega)
   have hp1:=hg1 _ hlt
   have hp2:=hg2 _ hlt2
   have hp3:=Cr.sq_b hp1
   have hp4:=Cr.sq_b hp2
   have hp5:=Cr.mul_g hp1 hp2
   have hs1:=Cr.px_sum (l:=l1) hg1 hb1 (show jj*w1+ii≤n1 by omega)
   have hs2:=Cr.sq_sum (l:=l1) hg1 hb1 (show jj*w1+ii≤n1 by omega)
   have hs3:=Cr.smp (Cr.wn_b hg2 hwh1 hwh2 hw1.1 hx hy) hb1 (show jj*w1+ii≤n1 by omega)
   have hs4:=Cr.smq (Cr.wn_q hg2 hwh1 hwh2 hw1.1 hx hy) hb1 (show jj*w1+ii≤n1 by omega)
   have hs5:=Cr.smq (Cr.wn_c hg1 hg2 hwh1 hwh2 hw1.1 hx hy) hb1 (show jj*w1+ii≤n1 by omega)
   have hyw1:jj*w1≤64*64:=Nat.mul_le_mul (by omega) hw1.2
   have hyw:(yy+jj)*w2≤64*64:=Nat.mul_le_mul (by omega) hw2.2
   refine zD<|zd<|zh<|zG<|zh<|zb<|r_pv rfl rfl (za rfl)<|r_pv rfl rfl (zc rfl)<|zj<|zd<|zh<|zca (OW:=[]) (O:=[boxA b3 32 [.bool false,.slice none 0 0,.bool false,.slice none 0 0],boxA b2 24 [.int .i64 ((w2:Nat):Int),.int .i64 ((vh2:Nat):Int),.int .i64 m2,.slice p2 n2 c2],boxA b1 24 [.int .i64 ((w1:Nat):Int),.int .i64 ((vh1:Nat):Int),.int .i64 m1,.slice p1 n1 c1]]) 100000 mixed (.then (.block (.then (.then (.block (.block (.then (.then (.block (.then .ret)))))))))) (by kernel_rfl)<|d_pv 0 rfl rfl (by kernel_rfl) (by kernel_rfl) rfl rfl (zg Tryz.underlying24 rfl sz22 rfl rfl)<|d_u 1 rfl rfl (by kernel_rfl) (by kernel_rfl) rfl rfl (zi 2 ty22 rfl rfl rfl)<|d_pv 2 rfl rfl (by kernel_rfl) (by kernel_rfl) rfl rfl (za rfl)<|d_pv 3 rfl rfl (by kernel_rfl) (by kernel_rfl) rfl rfl (zg Tryz.underlying24 rfl sz3 rfl rfl)<|d_u 4 rfl rfl (by kernel_rfl) (by kernel_rfl) rfl rfl (zi 2 ty3 rfl rfl rfl)<|d_pv 5 rfl rfl (by kernel_rfl) (by kernel_rfl) rfl rfl (zoa (z:=(((jj*w1):Nat):Int)) rfl rfl (w64 (by omega)))<|d_pv 6 rfl rfl (by kernel_rfl) (by kernel_rfl) rfl rfl (za rfl)<|d_pv 7 rfl rfl (by kernel_rfl) (by kernel_rfl) rfl rfl (zE (z:=((((jj*w1)+ii):Nat):Int)) rfl rfl (w64 (by omega)))<|zea (x0:=(l1.getD ((jj*w1)+ii) 0)) 8 rfl rfl (by kernel_rfl) (by kernel_rfl) 0 ((jj*w1)+ii) rfl Tryz.underlying22 sz3 rfl rfl rfl (by first|rfl|assumption|(simp_all;done)|omega) rfl rfl (gD (d:=0) (by omega)) (fun b6 o7 hok8=> ?_)
   replace hok8:=zV.1 hok8
   refine d_u 9 rfl rfl (by kernel_rfl) (by kernel_rfl) rfl rfl (zk (j:=0) 0 ty3 rfl rfl rfl rfl)<|d_pv 10 rfl rfl (by kernel_rfl) (by kernel_rfl) rfl rfl (zg Tryz.underlying24 rfl sz22 rfl rfl)<|d_u 11 rfl rfl (by kernel_rfl) (by kernel_rfl) rfl rfl (zi 1 ty22 rfl rfl rfl)<|d_pv 12 rfl rfl (by kernel_rfl) (by kernel_rfl) rfl rfl (za rfl)<|d_pv 13 rfl rfl (by kernel_rfl) (by kernel_rfl) rfl rfl (za rfl)<|d_pv 14 rfl rfl (by kernel_rfl) (by kernel_rfl) rfl rfl (zE (z:=(((yy+jj):Nat):Int)) rfl rfl (w64 (by omega)))<|d_pv 15 rfl rfl (by kernel_rfl) (by kernel_rfl) rfl rfl (zg Tryz.underlying24 rfl sz3 rfl rfl)<|d_u 16 rfl rfl (by kernel_rfl) (by kernel_rfl) rfl rfl (zi 1 ty3 rfl rfl rfl)<|d_pv 17 rfl rfl (by kernel_rfl) (by kernel_rfl) rfl rfl (zoa (z:=((((yy+jj)*w2):Nat):Int)) rfl rfl (w64 (by omega)))<|d_pv 18 rfl rfl (by kernel_rfl) (by kernel_rfl) rfl rfl (za rfl)<|d_pv 19 rfl rfl (by kernel_rfl) (by kernel_rfl) rfl rfl (zE (z:=(((((yy+jj)*w2)+xx):Nat):Int)) rfl rfl (w64 (by omega)))<|d_pv 20 rfl rfl (by kernel_rfl) (by kernel_rfl) rfl rfl (za rfl)<|d_pv 21 rfl rfl (by kernel_rfl) (by kernel_rfl) rfl rfl (zE (z:=((((((yy+jj)*w2)+xx)+ii):Nat):Int)) rfl rfl (w64 (by omega)))<|zea (x0:=(l2.getD ((((yy+jj)*w2)+xx)+ii) 0)) 22 rfl rfl (by kernel_rfl) (by kernel_rfl) 2 ((((yy+jj)*w2)+xx)+ii) rfl Tryz.underlying22 sz3 rfl rfl rfl (by first|rfl|assumption|(simp_all;done)|omega) rfl rfl (gD (d:=0) (by omega)) (fun b9 o10 hok11=> ?_)
   replace hok11:=zV.1 hok11
   refine d_u 23 rfl rfl (by kernel_rfl) (by kernel_rfl) rfl rfl (zk (j:=0) 0 ty3 rfl rfl rfl rfl)<|d_pv 24 rfl rfl (by kernel_rfl) (by kernel_rfl) rfl rfl (zc rfl)<|d_pv 25 rfl rfl (by kernel_rfl) (by kernel_rfl) rfl rfl (zc rfl)<|zZ (by kernel_rfl)<|zd<|zh<|zb<|r_pv rfl rfl (za rfl)<|r_pv rfl rfl (zE (z:=((((jj*w1+ii)+1):Nat):Int)) rfl rfl (w64 (by omega)))<|r_pv rfl rfl (zc rfl)<|zj<|zd<|zh<|zb<|r_pv rfl rfl (za rfl)<|r_pv rfl rfl (za rfl)<|r_pv rfl rfl (zE (z:=((Cr.sumN (Cr.px l1) (jj*w1+ii))+(l1.getD ((jj*w1)+ii) 0))) rfl rfl (w64 (by omega)))<|r_pv rfl rfl (zc rfl)<|zj<|zd<|zh<|zb<|r_pv rfl rfl (za rfl)<|r_pv rfl rfl (za rfl)<|r_pv rfl rfl (zE (z:=((Cr.sumN (Cr.wn l2 w2 yy xx w1) (jj*w1+ii))+(l2.getD ((((yy+jj)*w2)+xx)+ii) 0))) rfl rfl (w64 (by omega)))<|r_pv rfl rfl (zc rfl)<|zj<|zd<|zh<|zb<|r_pv rfl rfl (za rfl)<|r_pv rfl rfl (za rfl)<|r_pv rfl rfl (za rfl)<|r_pv rfl rfl (zoa (z:=((l1.getD ((jj*w1)+ii) 0)*(l1.getD ((jj*w1)+ii) 0))) rfl rfl (w64 (by omega)))<|r_pv rfl rfl (zE (z:=((Cr.sumN (Cr.sq l1) (jj*w1+ii))+((l1.getD ((jj*w1)+ii) 0)*(l1.getD ((jj*w1)+ii) 0)))) rfl rfl (w64 (by omega)))<|r_pv rfl rfl (zc rfl)<|zj<|zd<|zh<|zb<|r_pv rfl rfl (za rfl)<|r_pv rfl rfl (za rfl)<|r_pv rfl rfl (za rfl)<|r_pv rfl rfl (zoa (z:=((l2.getD ((((yy+jj)*w2)+xx)+ii) 0)*(l2.getD ((((yy+jj)*w2)+xx)+ii) 0))) rfl rfl (w64 (by omega)))<|r_pv rfl rfl (zE (z:=((Cr.sumN (fun k=>Cr.wn l2 w2 yy xx w1 k*Cr.wn l2 w2 yy xx w1 k) (jj*w1+ii))+((l2.getD ((((yy+jj)*w2)+xx)+ii) 0)*(l2.getD ((((yy+jj)*w2)+xx)+ii) 0)))) rfl rfl (w64 (by omega)))<|r_pv rfl rfl (zc rfl)<|zj<|zd<|zb<|r_pv rfl rfl (za rfl)<|r_pv rfl rfl (za rfl)<|r_pv rfl rfl (za rfl)<|r_pv rfl rfl (zoa (z:=((l1.getD ((jj*w1)+ii) 0)*(l2.getD ((((yy+jj)*w2)+xx)+ii) 0))) rfl rfl (w64 (by omega)))<|r_pv rfl rfl (zE (z:=((Cr.sumN (fun k=>Cr.px l1 k*Cr.wn l2 w2 yy xx w1 k) (jj*w1+ii))+((l1.getD ((jj*w1)+ii) 0)*(l2.getD ((((yy+jj)*w2)+xx)+ii) 0)))) rfl rfl (w64 (by omega)))<|r_pv rfl rfl (zc rfl)<|zj<|zW<|zd<|zb<|r_pv rfl rfl (zE (z:=(((ii+1):Nat):Int)) rfl rfl (w64 (by omega)))<|r_pv rfl rfl (za rfl)<|zj<|zha (ii+1) (show (ii+1)≤w1 from by omega) (by show w1 - (ii+1)<w1 - ii;omega) ((.c rfl (.e rfl (congrArg (Value.int .i64) (by rw [← hwn];rfl)) (.e rfl (congrArg (Value.int .i64) (by rw [← hwn];rfl)) (.e rfl (congrArg (Value.int .i64) (by rfl)) (.e rfl (congrArg (Value.int .i64) (by rw [← hwn];rfl)) (.e rfl (congrArg (Value.int .i64) (by rfl)) (.e rfl (congrArg (Value.int .i64) (by rfl)) (.of rfl)))))))):SubM _ _) (ho:=((.of [0,0,0] rfl):PickO _ _ _)) ((.of [2,3] rfl):SelR _ _ _)
  ·
   refine zja<|zl<|zl<|zx<|zW<|zd<|zb<|r_pv rfl rfl (zE (z:=(((jj+1):Nat):Int)) rfl rfl (w64 (by omega)))<|r_pv rfl rfl (za rfl)<|zj ?_
   have e9:jj*w1+ii=(jj+1)*w1:=by rw [Nat.succ_mul];omega
   refine zha (jj+1) (show (jj+1)≤vh1 from by omega) (by show vh1 - (jj+1)<vh1 - jj;omega) ((.c rfl (.e rfl (congrArg (Value.int .i64) (by rw [e9])) (.e rfl (congrArg (Value.int .i64) (by rw [e9])) (.e rfl (congrArg (Value.int .i64) (by rw [e9])) (.e rfl (congrArg (Value.int .i64) (by rw [e9])) (.e rfl (congrArg (Value.int .i64) (by rw [e9])) (.e rfl (congrArg (Value.int .i64) (by rw [e9])) (.of rfl)))))))):SubM _ _) (ho:=((.of [0,0,0] rfl):PickO _ _ _)) ((.of [0,1] rfl):SelR _ _ _)
 ·
  refine zja<|zl<|zl<|zx<|zd<|zh ?_
  have hj9:jj*w1=n1:=by rw [show jj=vh1 by omega,hwh1,Nat.mul_comm]
  have e12:jj*w1=n1:=by exact hj9
  rw [e12]
  have hs1:=Cr.px_sum (l:=l1) hg1 hb1 (Nat.le_refl n1)
  have hs2:=Cr.sq_sum (l:=l1) hg1 hb1 (Nat.le_refl n1)
  have hs3:=Cr.smp (Cr.wn_b hg2 hwh1 hwh2 hw1.1 hx hy) hb1 (Nat.le_refl n1)
  have hs4:=Cr.smq (Cr.wn_q hg2 hwh1 hwh2 hw1.1 hx hy) hb1 (Nat.le_refl n1)
  have hs5:=Cr.smq (Cr.wn_c hg1 hg2 hwh1 hwh2 hw1.1 hx hy) hb1 (Nat.le_refl n1)
  have hq2:=Bl.mul_b (x:=((n1:Nat):Int)) (y:=(Cr.sumN (Cr.sq l1) n1)) (m:=4096) (n:=17591649177600) (by omega) hs2
  have hq4:=Bl.mul_b (x:=((n1:Nat):Int)) (y:=(Cr.sumN (fun k=>Cr.wn l2 w2 yy xx w1 k*Cr.wn l2 w2 yy xx w1 k) n1)) (m:=4096) (n:=17591649177600) (by omega) hs4
  have hq5:=Bl.mul_b (x:=((n1:Nat):Int)) (y:=(Cr.sumN (fun k=>Cr.px l1 k*Cr.wn l2 w2 yy xx w1 k) n1)) (m:=4096) (n:=17591649177600) (by omega) hs5
  have hq1:=Bl.mul_b hs1 hs1
  have hq3:=Bl.mul_b hs3 hs3
  have hq6:=Bl.mul_b hs1 hs3
  refine zb<|r_pv rfl rfl (za rfl)<|r_pv rfl rfl (za rfl)<|r_pv rfl rfl (zoa (z:=(((n1:Nat):Int)*(Cr.sumN (fun k=>Cr.px l1 k*Cr.wn l2 w2 yy xx w1 k) n1))) rfl rfl (w64 (by omega)))<|r_pv rfl rfl (za rfl)<|r_pv rfl rfl (za rfl)<|r_pv rfl rfl (zoa (z:=((Cr.sumN (Cr.px l1) n1)*(Cr.sumN (Cr.wn l2 w2 yy xx w1) n1))) rfl rfl (w64 (by omega)))<|r_pv rfl rfl (zaa (z:=((((n1:Nat):Int)*(Cr.sumN (fun k=>Cr.px l1 k*Cr.wn l2 w2 yy xx w1 k) n1)) - ((Cr.sumN (Cr.px l1) n1)*(Cr.sumN (Cr.wn l2 w2 yy xx w1) n1)))) rfl rfl (w64 (by omega)))<|r_pv rfl rfl (za rfl)<|r_pv rfl rfl (za rfl)<|r_pv rfl rfl (zoa (z:=(((n1:Nat):Int)*(Cr.sumN (Cr.sq l1) n1))) rfl rfl (w64 (by omega)))<|r_pv rfl rfl (za rfl)<|r_pv rfl rfl (za rfl)<|r_pv rfl rfl (zoa (z:=((Cr.sumN (Cr.px l1) n1)*(Cr.sumN (Cr.px l1) n1))) rfl rfl (w64 (by omega)))<|r_pv rfl rfl (zaa (z:=((((n1:Nat):Int)*(Cr.sumN (Cr.sq l1) n1)) - ((Cr.sumN (Cr.px l1) n1)*(Cr.sumN (Cr.px l1) n1)))) rfl rfl (w64 (by omega)))<|r_pv rfl rfl (za rfl)<|r_pv rfl rfl (za rfl)<|r_pv rfl rfl (zoa (z:=(((n1:Nat):Int)*(Cr.sumN (fun k=>Cr.wn l2 w2 yy xx w1 k*Cr.wn l2 w2 yy xx w1 k) n1))) rfl rfl (w64 (by omega)))<|r_pv rfl rfl (za rfl)<|r_pv rfl rfl (za rfl)<|r_pv rfl rfl (zoa (z:=((Cr.sumN (Cr.wn l2 w2 yy xx w1) n1)*(Cr.sumN (Cr.wn l2 w2 yy xx w1) n1))) rfl rfl (w64 (by omega)))<|r_pv rfl rfl (zaa (z:=((((n1:Nat):Int)*(Cr.sumN (fun k=>Cr.wn l2 w2 yy xx w1 k*Cr.wn l2 w2 yy xx w1 k) n1)) - ((Cr.sumN (Cr.wn l2 w2 yy xx w1) n1)*(Cr.sumN (Cr.wn l2 w2 yy xx w1) n1)))) rfl rfl (w64 (by omega)))<|r_pv rfl rfl (zc rfl)<|r_pv rfl rfl (zc rfl)<|r_pv rfl rfl (zc rfl)<|zj<|zd<|zh<|zVa (X:=Unit) (fun x=>True) (fun x=>[(111,.bool (decide ((((((n1:Nat):Int)*(Cr.sumN (Cr.sq l1) n1)) - ((Cr.sumN (Cr.px l1) n1)*(Cr.sumN (Cr.px l1) n1)))=0)∨(((((n1:Nat):Int)*(Cr.sumN (fun k=>Cr.wn l2 w2 yy xx w1 k*Cr.wn l2 w2 yy xx w1 k) n1)) - ((Cr.sumN (Cr.wn l2 w2 yy xx w1) n1)*(Cr.sumN (Cr.wn l2 w2 yy xx w1) n1)))=0)))),(21,.int .i64 ((((n1:Nat):Int)*(Cr.sumN (fun k=>Cr.wn l2 w2 yy xx w1 k*Cr.wn l2 w2 yy xx w1 k) n1)) - ((Cr.sumN (Cr.wn l2 w2 yy xx w1) n1)*(Cr.sumN (Cr.wn l2 w2 yy xx w1) n1)))),(20,.int .i64 ((((n1:Nat):Int)*(Cr.sumN (Cr.sq l1) n1)) - ((Cr.sumN (Cr.px l1) n1)*(Cr.sumN (Cr.px l1) n1)))),(19,.int .i64 ((((n1:Nat):Int)*(Cr.sumN (fun k=>Cr.px l1 k*Cr.wn l2 w2 yy xx w1 k) n1)) - ((Cr.sumN (Cr.px l1) n1)*(Cr.sumN (Cr.wn l2 w2 yy xx w1) n1)))),(8,.pointer (some ⟨b3,0,none⟩))]) (fun x=>[boxA b3 32 [.bool false,.slice none 0 0,.bool false,.slice none 0 0],boxA b2 24 [.int .i64 ((w2:Nat):Int),.int .i64 ((vh2:Nat):Int),.int .i64 m2,.slice p2 n2 c2],boxA b1 24 [.int .i64 ((w1:Nat):Int),.int .i64 ((vh1:Nat):Int),.int .i64 m1,.slice p1 n1 c1]]) (fun x=>[slF (rI .i64) p1 c1 l1,slF (rI .i64) p2 c2 l2]) ?_ ?_
  ·
   refine zb<|r_pv rfl rfl (za rfl)<|r_pv rfl rfl (zsa rfl rfl)<|zfa rfl rfl (za rfl) (fun h13=> ?_) (fun h13=> ?_)
   ·
    refine zf rfl rfl<|zf rfl rfl<|r_pv rfl rfl (zt rfl rfl)<|zj ?_
    exact zka () (show True from by first|trivial|omega|simp_all) ((.e rfl (congrArg Value.bool (by first|(simp_all;done)|(simp_all;omega)|(simp;omega)|omega)) (.of rfl)):SubM _ _) (ho:=((.of [0,0,0] rfl):PickO _ _ _)) ((.of [0,1] rfl):SelR _ _ _)
   ·
    refine r_pv rfl rfl (za rfl)<|r_pv rfl rfl (zsa rfl rfl)<|r_pv rfl rfl (zt rfl rfl)<|zj ?_
    exact zka () (show True from by first|trivial|omega|simp_all) ((.e rfl (congrArg Value.bool (by first|(simp_all;done)|(simp_all;omega)|(simp;omega)|omega)) (.of rfl)):SubM _ _) (ho:=((.of [0,0,0] rfl):PickO _ _ _)) ((.of [0,1] rfl):SelR _ _ _)
  ·
   rintro ⟨⟩ -
   try dsimp only
   refine zH rfl (fun hz0=> ?_) (fun hz0=> ?_)
   ·
    refine zh<|zb<|zv rfl rfl (.c rfl .n) ce16 (zib (z:=0) (hz:=by first|rfl|assumption|omega)) (.n) ?_
    rintro ⟨w314,w415⟩ -
    dsimp only [List.append_eq,List.nil_append,List.cons_append]
    refine zm 0 rfl rfl rfl rfl rfl sz32 rfl (.take (.take (.take (.take .nil)))) .z<|zj<|zd<|zI<|zo ?_
    exact zy Tryz.results13 (w314,w415) trivial (zq 0 ty32 rfl rfl (.take (.take (.take (.take .nil))))) rfl (ho:=(.n:PickO _ _ _)) ((.e (j:=0) rfl (by rw [Cr.scr_ref0 hwh1 hw1.1 hz0]) .n):SelR _ _ _)
   ·
    refine zD<|zd<|zh<|zb<|r_pv rfl rfl (za rfl)<|r_pv rfl rfl (za rfl)<|zv rfl rfl (.c rfl (.c rfl .n)) ce25 (zEc (z1:=((((n1:Nat):Int)*(Cr.sumN (fun k=>Cr.px l1 k*Cr.wn l2 w2 yy xx w1 k) n1)) - ((Cr.sumN (Cr.px l1) n1)*(Cr.sumN (Cr.wn l2 w2 yy xx w1) n1)))) (z2:=((((n1:Nat):Int)*(Cr.sumN (Cr.sq l1) n1)) - ((Cr.sumN (Cr.px l1) n1)*(Cr.sumN (Cr.px l1) n1)))) (hz1:=by first|rfl|assumption|omega) (hz2:=by first|rfl|assumption|omega) (hy:=by exact fun e=>hz0 (Or.inl e))) (.n) ?_
    rintro ⟨w316,w417⟩ -
    dsimp only [List.append_eq,List.nil_append,List.cons_append]
    refine r_pv rfl rfl (za rfl)<|r_pv rfl rfl (zr rfl rfl)<|r_pv rfl rfl (zr rfl rfl)<|zJ rfl rfl (zA zr32 rfl) (fun b18=> ?_)
    refine zm 0 rfl rfl rfl rfl rfl sz32 rfl (.take (.take (.take (.take .nil)))) .z<|r_pv rfl rfl (zc rfl)<|zj<|zd<|zh<|zb<|r_pv rfl rfl (za rfl)<|r_pv rfl rfl (za rfl)<|r_pv rfl rfl (zLd (z:=(-((((n1:Nat):Int)*(Cr.sumN (fun k=>Cr.px l1 k*Cr.wn l2 w2 yy xx w1 k) n1)) - ((Cr.sumN (Cr.px l1) n1)*(Cr.sumN (Cr.wn l2 w2 yy xx w1) n1))))) rfl (w64 (by omega)))<|r_pv rfl rfl (zre rfl rfl)<|r_pv rfl rfl (za rfl)<|zv rfl rfl (.c rfl (.c rfl .n)) ce25 (zEc (z1:=(max ((((n1:Nat):Int)*(Cr.sumN (fun k=>Cr.px l1 k*Cr.wn l2 w2 yy xx w1 k) n1)) - ((Cr.sumN (Cr.px l1) n1)*(Cr.sumN (Cr.wn l2 w2 yy xx w1) n1))) (-((((n1:Nat):Int)*(Cr.sumN (fun k=>Cr.px l1 k*Cr.wn l2 w2 yy xx w1 k) n1)) - ((Cr.sumN (Cr.px l1) n1)*(Cr.sumN (Cr.wn l2 w2 yy xx w1) n1)))))) (z2:=((((n1:Nat):Int)*(Cr.sumN (fun k=>Cr.wn l2 w2 yy xx w1 k*Cr.wn l2 w2 yy xx w1 k) n1)) - ((Cr.sumN (Cr.wn l2 w2 yy xx w1) n1)*(Cr.sumN (Cr.wn l2 w2 yy xx w1) n1)))) (hz1:=by first|rfl|assumption|omega) (hz2:=by first|rfl|assumption|omega) (hy:=by exact fun e=>hz0 (Or.inr e))) (.n) ?_
    rintro ⟨w319,w420⟩ -
    dsimp only [List.append_eq,List.nil_append,List.cons_append]
    refine r_pv rfl rfl (za rfl)<|r_pv rfl rfl (zr rfl rfl)<|r_pv rfl rfl (zr rfl rfl)<|zJ rfl rfl (zA zr32 rfl) (fun b21=> ?_)
    refine zm 0 rfl rfl rfl rfl rfl sz32 rfl (.take (.take (.take (.take .nil)))) .z<|r_pv rfl rfl (zc rfl)<|zj<|zd<|zh<|zb<|r_u rfl rfl (ze 1 ty32 rfl rfl (.take (.take (.take (.take .nil)))))<|r_u rfl rfl (ze 0 ty32 rfl rfl (.take (.take (.take (.take .nil)))))<|zv rfl rfl (.c rfl (.c rfl .n)) ce39 (zVe (k1:=true) (u1:=w316) (v1:=w417) (q1:=Rat.divInt ((((n1:Nat):Int)*(Cr.sumN (fun k=>Cr.px l1 k*Cr.wn l2 w2 yy xx w1 k) n1)) - ((Cr.sumN (Cr.px l1) n1)*(Cr.sumN (Cr.wn l2 w2 yy xx w1) n1))) ((((n1:Nat):Int)*(Cr.sumN (Cr.sq l1) n1)) - ((Cr.sumN (Cr.px l1) n1)*(Cr.sumN (Cr.px l1) n1)))) (k2:=true) (u2:=w319) (v2:=w420) (q2:=Rat.divInt (max ((((n1:Nat):Int)*(Cr.sumN (fun k=>Cr.px l1 k*Cr.wn l2 w2 yy xx w1 k) n1)) - ((Cr.sumN (Cr.px l1) n1)*(Cr.sumN (Cr.wn l2 w2 yy xx w1) n1))) (-((((n1:Nat):Int)*(Cr.sumN (fun k=>Cr.px l1 k*Cr.wn l2 w2 yy xx w1 k) n1)) - ((Cr.sumN (Cr.px l1) n1)*(Cr.sumN (Cr.wn l2 w2 yy xx w1) n1))))) ((((n1:Nat):Int)*(Cr.sumN (fun k=>Cr.wn l2 w2 yy xx w1 k*Cr.wn l2 w2 yy xx w1 k) n1)) - ((Cr.sumN (Cr.wn l2 w2 yy xx w1) n1)*(Cr.sumN (Cr.wn l2 w2 yy xx w1) n1)))) (hl:=by exact Cr.hqd2 ⟨by omega,by omega⟩ ⟨by omega,by omega⟩ (fun e=>hz0 (Or.inl e)) ⟨by omega,by omega⟩ ⟨by omega,by omega⟩ (fun e=>hz0 (Or.inr e)))) (.c (j:=1) rfl (.c (j:=0) rfl .n)) ?_
    rintro ⟨w322,w423⟩ -
    dsimp only [List.append_eq,List.nil_append,List.cons_append]
    refine zm 2 rfl rfl rfl rfl rfl sz32 rfl (.take (.take (.take (.take .nil)))) (.s (.s .z))<|zj<|zd<|zI ?_
    exact zy Tryz.results13 (w322,w423) trivial (zq 2 ty32 rfl rfl (.take (.take (.take (.take .nil))))) rfl (ho:=(.n:PickO _ _ _)) ((.e (j:=0) rfl (by rw [← Cr.scr_ref1 hwh1 hw1.1 hz0];rfl) .n):SelR _ _ _)
theorem zoe {u1:Wd} {v1:Wd} {q1:Rat} {e1:Int} {u2:Wd} {v2:Wd} {q2:Rat} (hl:Big.hq q1+Big.hq q2+1≤1048576):Con Tryz.prog 12 [.agg #[u1.b,u1.l,v1.b,v1.l],.int .i64 e1,.agg #[u2.b,u2.l,v2.b,v2.l],.int .i64 0] [] [qF true u1 v1 q1,qF true u2 v2 q2] (Y:=Unit) (fun y=>True) (fun y=> .bool (decide ((e1:Int)=0∧q1=q2))) (fun y=>[]) (fun y=>[]):=by
 refine zn Tryz.func12 rfl rfl rfl (fun c=> ?_)
 show RunC _ _ _ _ _ [(0,.agg #[u1.b,u1.l,v1.b,v1.l]),(1,.int .i64 e1),(2,.agg #[u2.b,u2.l,v2.b,v2.l]),(3,.int .i64 0)] [] [qF true u1 v1 q1,qF true u2 v2 q2]
 refine zh<|zb<|zJ rfl rfl (zP rfl rfl) (fun b1=> ?_)
 refine zJ rfl rfl (zP rfl rfl) (fun b2=> ?_)
 refine r_pv rfl rfl (zc rfl)<|zj<|zd<|zh<|zh<|zb<|r_pv rfl rfl (za rfl)<|r_pv rfl rfl (zEa rfl rfl)<|zj<|zd<|zSa rfl rfl<|zD<|zd<|zVa (X:=Unit) (fun x=>True) (fun x=>[(24,.bool (decide ((e1:Int)=0∧q1=q2))),(8,.bool (decide ((e1=0)∧(q1=q2))))]) (fun x=>[boxA b2 32 (cw [u2,v2]),boxA b1 32 (cw [u1,v1])]) (fun x=>[qF true u1 v1 q1,qF true u2 v2 q2]) ?_ ?_
 ·
  refine zb<|r_pv rfl rfl (za rfl)<|r_pv rfl rfl (zsa rfl rfl)<|zfa rfl rfl (za rfl) (fun h3=> ?_) (fun h3=> ?_)
  ·
   refine r_u rfl rfl (ze 1 ty32 rfl rfl (.take (.take (.take (.take .nil)))))<|r_u rfl rfl (ze 0 ty32 rfl rfl (.take (.take (.take (.take .nil)))))<|zN rfl rfl (.c rfl (.c rfl .n)) ce22 (zVb (u1:=u1) (v1:=v1) (q1:=q1) (u2:=u2) (v2:=v2) (q2:=q2) (hl:=by assumption)) (.c (j:=0) rfl (.c (j:=1) rfl .n))<|r_pv rfl rfl (zt rfl rfl)<|r_pv rfl rfl (zc rfl)<|zj ?_
   exact zka () (show True from by first|trivial|omega|simp_all) ((.e rfl (congrArg Value.bool (by simp_all)) (.e rfl (congrArg Value.bool (by simp_all)) .n)):SubM _ _) (ho:=((.of [0,0] rfl):PickO _ _ _)) ((.of [0,1] rfl):SelR _ _ _)
  ·
   refine zf rfl rfl<|zf rfl rfl<|zf rfl rfl<|r_pv rfl rfl (zt rfl rfl)<|r_pv rfl rfl (zc rfl)<|zj ?_
   exact zka () (show True from by first|trivial|omega|simp_all) ((.e rfl (congrArg Value.bool (by simp_all)) (.e rfl (congrArg Value.bool (by simp_all)) .n)):SubM _ _) (ho:=((.of [0,0] rfl):PickO _ _ _)) ((.of [0,1] rfl):SelR _ _ _)
 ·
  rintro ⟨⟩ -
  try dsimp only [cw]
  refine zI ?_
  exact zy Tryz.results12 () trivial (zp rfl) rfl (ho:=(.n:PickO _ _ _)) (.n:SelR _ _ _)
theorem ztc {u1:Wd} {v1:Wd} {e1:Int} {u2:Wd} {v2:Wd} {e2:Int} (hne:e2≠0):Con Tryz.prog 12 [.agg #[u1.b,u1.l,v1.b,v1.l],.int .i64 e1,.agg #[u2.b,u2.l,v2.b,v2.l],.int .i64 e2] [] [] (Y:=Unit) (fun y=>True) (fun y=> .bool (decide ((e1:Int)=e2∧Wd.zz u1 v1))) (fun y=>[]) (fun y=>[]):=by
 refine zn Tryz.func12 rfl rfl rfl (fun c=> ?_)
 show RunC _ _ _ _ _ [(0,.agg #[u1.b,u1.l,v1.b,v1.l]),(1,.int .i64 e1),(2,.agg #[u2.b,u2.l,v2.b,v2.l]),(3,.int .i64 e2)] [] []
 refine zh<|zb<|zJ rfl rfl (zP rfl rfl) (fun b1=> ?_)
 refine zJ rfl rfl (zP rfl rfl) (fun b2=> ?_)
 refine r_pv rfl rfl (zc rfl)<|zj<|zd<|zh<|zh<|zb<|r_pv rfl rfl (za rfl)<|r_pv rfl rfl (zEa rfl rfl)<|zj<|zd<|zH rfl (fun h3=> ?_) (fun h3=> ?_)
 ·
  refine zVa (X:=Unit) (fun x=>True) (fun x=>[(17,.bool (decide ((e1:Int)=e2∧Wd.zz u1 v1))),(8,.bool (decide ((e1=e2)∧(Wd.zz u1 v1)))),(6,.pointer (some ⟨b2,0,none⟩)),(4,.pointer (some ⟨b1,0,none⟩)),(1,.int .i64 e1)]) (fun x=>[boxA b2 32 (cw [u2,v2]),boxA b1 32 (cw [u1,v1])]) (fun x=>[]) ?_ ?_
  ·
   refine zb<|r_pv rfl rfl (za rfl)<|r_pv rfl rfl (za rfl)<|r_pv rfl rfl (zsa rfl rfl)<|zfa rfl rfl (za rfl) (fun h4=> ?_) (fun h4=> ?_)
   ·
    refine r_u rfl rfl (ze 1 ty32 rfl rfl (.take (.take (.take (.take .nil)))))<|zN rfl rfl (.c rfl .n) ce19 (zme (u1:=u1) (v1:=v1)) (.n)<|r_pv rfl rfl (zt rfl rfl)<|r_pv rfl rfl (zc rfl)<|zj ?_
    exact zka () (show True from by first|trivial|omega|simp_all) ((.e rfl (congrArg Value.bool (by simp_all)) (.e rfl (congrArg Value.bool (by simp_all)) (.of rfl))):SubM _ _) (ho:=((.of [0,0] rfl):PickO _ _ _)) (.n:SelR _ _ _)
   ·
    refine zf rfl rfl<|zf rfl rfl<|r_pv rfl rfl (zt rfl rfl)<|r_pv rfl rfl (zc rfl)<|zj ?_
    exact zka () (show True from by first|trivial|omega|simp_all) ((.e rfl (congrArg Value.bool (by simp_all)) (.e rfl (congrArg Value.bool (by simp_all)) (.of rfl))):SubM _ _) (ho:=((.of [0,0] rfl):PickO _ _ _)) (.n:SelR _ _ _)
  ·
   rintro ⟨⟩ -
   try dsimp only [cw]
   refine zI<|zo ?_
   exact zy Tryz.results12 () trivial (zp rfl) rfl (ho:=(.n:PickO _ _ _)) (.n:SelR _ _ _)
 ·
  omega
end Go.Proofs.YtkamccndgblheaaGreat.Sp
namespace Go.Proofs.YtkamccndgblheaaGreat.Sp
open Go
set_option linter.unusedVariables false
set_option maxRecDepth 100000
set_option maxHeartbeats 1000000
theorem zGb {wi1:Int} {hi1:Int} {m1:Int} {p1:Option Addr} {n1:Nat} {c1:Nat} {l1:List Int} {wi2:Int} {hi2:Int} {m2:Int} {p2:Option Addr} {n2:Nat} {c2:Nat} {l2:List Int} {ex:Int} {ey:Int} (hn1:l1.length=n1) (hn2:l2.length=n2) (hbw1: -9223372036854775808≤wi1∧wi1≤9223372036854775807) (hbh1: -9223372036854775808≤hi1∧hi1≤9223372036854775807) (hbm1: -9223372036854775808≤m1∧m1≤9223372036854775807) (hbw2: -9223372036854775808≤wi2∧wi2≤9223372036854775807) (hbh2: -9223372036854775808≤hi2∧hi2≤9223372036854775807) (hbm2: -9223372036854775808≤m2∧m2≤9223372036854775807) (hex: -9223372036854775808≤ex∧ex≤9223372036854775807) (hey: -9223372036854775808≤ey∧ey≤9223372036854775807):Con Tryz.prog 3 [.agg #[.int .i64 wi1,.int .i64 hi1,.int .i64 m1,.slice p1 n1 c1],.agg #[.int .i64 wi2,.int .i64 hi2,.int .i64 m2,.slice p2 n2 c2],.agg #[.int .i64 ex,.int .i64 ey]] [] [slF (rI .i64) p1 c1 l1,slF (rI .i64) p2 c2 l2] (Y:=Unit) (fun y=>True) (fun y=> .bool true) (fun y=>[]) (fun y=>[]):=by
 refine zn Tryz.func3 rfl rfl rfl (fun c=> ?_)
 show RunC _ _ _ _ _ [(0,.agg #[.int .i64 wi1,.int .i64 hi1,.int .i64 m1,.slice p1 n1 c1]),(1,.agg #[.int .i64 wi2,.int .i64 hi2,.int .i64 m2,.slice p2 n2 c2]),(2,.agg #[.int .i64 ex,.int .i64 ey])] [] [slF (rI .i64) p1 c1 l1,slF (rI .i64) p2 c2 l2]
 refine zX 0 rfl (fun hL0=> ?_)
 refine zX 1 rfl (fun hL1=> ?_)
 refine zh<|zb<|zJ rfl rfl (zP rfl rfl) (fun b1=> ?_)
 refine zJ rfl rfl (zP rfl rfl) (fun b2=> ?_)
 refine zJ rfl rfl (zP rfl rfl) (fun b3=> ?_)
 refine r_pv rfl rfl (zc rfl)<|zj<|zd<|zh<|zh<|zb<|zN rfl rfl (.n) ce7 (zYe) (.n)<|r_pv rfl rfl (zqb rfl)<|zj<|zd<|zSa rfl rfl<|zD<|zd<|zh<|zh<|zb<|r_u rfl rfl (ze 2 ty24 rfl rfl (.take (.take (.take (.take .nil)))))<|r_u rfl rfl (ze 1 ty24 rfl rfl (.take (.take (.take (.take .nil)))))<|zxa rfl rfl (zR (enc:=fun z:Gr=>[.int .i64 z.w,.int .i64 z.h,.int .i64 z.m,.slice z.p z.n z.c]) (ok:=okG) (h1:=fun _=>rfl) (h2:=fun _=>rfl) (k:=2) Tryz.underlying77 inf24 rfl (by decide) (by decide) (by decide) (.c (x:=(⟨wi1,hi1,m1,p1,n1,c1⟩:Gr)) rfl rfl (fun _ _=>by exact ⟨zV.2 (by first|omega|decide|(dsimp only;omega)),zV.2 (by first|omega|decide|(dsimp only;omega)),zV.2 (by first|omega|decide|(dsimp only;omega))⟩) (.c (x:=(⟨wi2,hi2,m2,p2,n2,c2⟩:Gr)) rfl rfl (fun _ _=>by exact ⟨zV.2 (by first|omega|decide|(dsimp only;omega)),zV.2 (by first|omega|decide|(dsimp only;omega)),zV.2 (by first|omega|decide|(dsimp only;omega))⟩) .n))) (fun b4 _=> ?_)
 refine zia 0 rfl .z<|zN rfl rfl (.c rfl .n) ce8 (zGf (p:=some ⟨b4,0,none⟩) (n:=2) (cap:=2) (l:=[(⟨wi1,hi1,m1,p1,n1,c1⟩:Gr),(⟨wi2,hi2,m2,p2,n2,c2⟩:Gr)]) (hn:=by first|rfl|assumption|omega|(decide +kernel))) (.c (j:=0) rfl .n)<|r_pv rfl rfl (zbb rfl)<|zj<|zd<|zH rfl (fun hf=> ?_) (fun hf=> ?_)
 ·
  refine zh<|zb<|r_pv rfl rfl (zc rfl)<|zj<|zd<|zI<|zo ?_
  exact zy Tryz.results3 () trivial (zp rfl) rfl (ho:=(.n:PickO _ _ _)) (.n:SelR _ _ _)
 ·
  refine zD<|zd<|zh<|zb<|r_u rfl rfl (ze 3 ty24 rfl rfl (.take (.take (.take (.take .nil)))))<|r_u rfl rfl (ze 2 ty24 rfl rfl (.take (.take (.take (.take .nil)))))<|r_pv rfl rfl (zua (i:=0) Tryz.underlying25 sz3 rfl rfl (by decide) rfl)<|r_u rfl rfl (zi 1 ty3 rfl rfl rfl)<|r_pv rfl rfl (zua (i:=1) Tryz.underlying25 sz3 rfl rfl (by decide) rfl)<|r_u rfl rfl (zi 1 ty3 rfl rfl rfl)<|zv rfl rfl (.c rfl (.c rfl (.c rfl (.c rfl .n)))) ce9 (zrd (wi1:=wi1) (hi1:=hi1) (m1:=m1) (p1:=p1) (n1:=n1) (c1:=c1) (l1:=l1) (wi2:=wi2) (hi2:=hi2) (m2:=m2) (p2:=p2) (n2:=n2) (c2:=c2) (l2:=l2) (ex:=ex) (ey:=ey) (hn1:=by assumption) (hn2:=by assumption)) (.c (j:=1) rfl (.c (j:=2) rfl .n)) ?_
  rintro ⟨w35,w46⟩ hsc
  dsimp only [List.append_eq,List.nil_append,List.cons_append]
  replace hsc:(Cr.sok wi1 hi1 m1 l1 wi2 hi2 m2 l2 ex ey)∨(w35=wz∧w46=wz):=hsc
  refine r_pv rfl rfl (za rfl)<|r_pv rfl rfl (zr rfl rfl)<|r_pv rfl rfl (zr rfl rfl)<|zJ rfl rfl (zA zr32 rfl) (fun b7=> ?_)
  refine zm 0 rfl rfl rfl rfl rfl sz32 rfl (.take (.take (.take (.take .nil)))) .z<|r_pv rfl rfl (zc rfl)<|zj<|zd<|zh<|zXb (gsF [(⟨wi1,hi1,m1,p1,n1,c1⟩:Gr),(⟨wi2,hi2,m2,p2,n2,c2⟩:Gr)] [l1,l2]) (gsF_2 2 3 rfl rfl)<|zb<|r_u rfl rfl (ze 4 ty24 rfl rfl (.take (.take (.take (.take .nil)))))<|r_u rfl rfl (ze 3 ty24 rfl rfl (.take (.take (.take (.take .nil)))))<|zxa rfl rfl (zR (enc:=fun z:Gr=>[.int .i64 z.w,.int .i64 z.h,.int .i64 z.m,.slice z.p z.n z.c]) (ok:=okG) (h1:=fun _=>rfl) (h2:=fun _=>rfl) (k:=2) Tryz.underlying77 inf24 rfl (by decide) (by decide) (by decide) (.c (x:=(⟨wi1,hi1,m1,p1,n1,c1⟩:Gr)) rfl rfl (fun _ _=>by exact ⟨zV.2 (by first|omega|decide|(dsimp only;omega)),zV.2 (by first|omega|decide|(dsimp only;omega)),zV.2 (by first|omega|decide|(dsimp only;omega))⟩) (.c (x:=(⟨wi2,hi2,m2,p2,n2,c2⟩:Gr)) rfl rfl (fun _ _=>by exact ⟨zV.2 (by first|omega|decide|(dsimp only;omega)),zV.2 (by first|omega|decide|(dsimp only;omega)),zV.2 (by first|omega|decide|(dsimp only;omega))⟩) .n))) (fun b8 _=> ?_)
  refine zia 0 rfl .z<|zN rfl rfl (.c rfl .n) ce10 (zsd (p:=some ⟨b8,0,none⟩) (n:=2) (cap:=2) (l:=[(⟨wi1,hi1,m1,p1,n1,c1⟩:Gr),(⟨wi2,hi2,m2,p2,n2,c2⟩:Gr)]) (ls:=[l1,l2]) (hn:=by first|rfl|assumption|omega|(decide +kernel)) (hls:=by intro i hi;rcases (show i=0∨i=1 by omega) with rfl|rfl;exact hn1;exact hn2)) (.c (j:=0) rfl (.c (j:=1) rfl .n)) ?_
  have e9:((if (Cr.allok ([(⟨wi1,hi1,m1,p1,n1,c1⟩:Gr),(⟨wi2,hi2,m2,p2,n2,c2⟩:Gr)]) ([l1,l2]) 2) then 0 else 1):Int)=(if (Cr.rk2 wi1 hi1 m1 l1 wi2 hi2 m2 l2) then 0 else 1):=by exact Cr.chk2
  rw [e9]
  refine r_pv rfl rfl (zc rfl)<|zj<|zd<|zh<|zh<|zb<|r_pv rfl rfl (za rfl)<|r_pv rfl rfl (zsa rfl rfl)<|zfa rfl rfl (za rfl) (fun hk=> ?_) (fun hk=> ?_)
  ·
   have hok:(Cr.rk2 wi1 hi1 m1 l1 wi2 hi2 m2 l2):=Bl.c0.1 hk
   have e10:((if (Cr.rk2 wi1 hi1 m1 l1 wi2 hi2 m2 l2) then 0 else 1):Int)=0:=by exact if_pos hok
   rw [e10]
   obtain ⟨w1,vh1,rfl,rfl,hw1,hh1,hwh1,hb1,hg1⟩:=Cr.rokN (hok.1) hn1
   obtain ⟨w2,vh2,rfl,rfl,hw2,hh2,hwh2,hb2,hg2⟩:=Cr.rokN (hok.2) hn2
   refine r_u rfl rfl (ze 5 ty24 rfl rfl (.take (.take (.take (.take .nil)))))<|r_u rfl rfl (ze 4 ty24 rfl rfl (.take (.take (.take (.take .nil)))))<|r_pv rfl rfl (zua (i:=0) Tryz.underlying25 sz3 rfl rfl (by decide) rfl)<|r_u rfl rfl (zi 3 ty3 rfl rfl rfl)<|r_pv rfl rfl (zua (i:=1) Tryz.underlying25 sz3 rfl rfl (by decide) rfl)<|r_u rfl rfl (zi 3 ty3 rfl rfl rfl)<|zN rfl rfl (.c rfl (.c rfl (.c rfl (.c rfl .n)))) ce11 (zMc (wi1:=((w1:Nat):Int)) (hi1:=((vh1:Nat):Int)) (m1:=m1) (p1:=p1) (n1:=n1) (c1:=c1) (l1:=l1) (wi2:=((w2:Nat):Int)) (hi2:=((vh2:Nat):Int)) (m2:=m2) (p2:=p2) (n2:=n2) (c2:=c2) (l2:=l2) (ex:=ex) (ey:=ey) (hok:=by first|rfl|assumption|omega|(decide +kernel))) (.n)<|r_pv rfl rfl (zbb rfl)<|r_pv rfl rfl (zt rfl rfl)<|zj<|zd<|zH rfl (fun hp=> ?_) (fun hp=> ?_)
   ·
    have hg9:¬(Cr.sok ((w1:Nat):Int) ((vh1:Nat):Int) m1 l1 ((w2:Nat):Int) ((vh2:Nat):Int) m2 l2 ex ey):=fun k=>hp k.2
    have hco:((if (Cr.rk2 ((w1:Nat):Int) ((vh1:Nat):Int) m1 l1 ((w2:Nat):Int) ((vh2:Nat):Int) m2 l2) then (if (Cr.pos ((w1:Nat):Int) ((vh1:Nat):Int) ((w2:Nat):Int) ((vh2:Nat):Int) ex ey) then 0 else 15) else 1):Int)=15:=by rw [if_pos hok,if_neg hp]
    refine zb<|r_pv rfl rfl (zc rfl)<|zj<|zd<|zh<|zh<|zb<|r_pv rfl rfl (za rfl)<|r_pv rfl rfl (zEa rfl rfl)<|zj<|zd<|zIc rfl rfl<|zh<|zb<|r_u rfl rfl (ze 1 ty32 rfl rfl (.take (.take (.take (.take .nil)))))<|r_pv rfl rfl (za rfl)<|r_pv rfl rfl (zL zr32 rfl Tryz.underlying32 (.c sz30 (.c sz30 .n)) .n .n)<|r_pv rfl rfl (za rfl)<|zN rfl rfl (.c rfl (.c rfl (.c rfl (.c rfl .n)))) ce12 (ztc (u1:=w35) (v1:=w46) (e1:=(if (Cr.rk2 ((w1:Nat):Int) ((vh1:Nat):Int) m1 l1 ((w2:Nat):Int) ((vh2:Nat):Int) m2 l2) then (if (Cr.pos ((w1:Nat):Int) ((vh1:Nat):Int) ((w2:Nat):Int) ((vh2:Nat):Int) ex ey) then 0 else 15) else 1)) (u2:=wz) (v2:=wz) (e2:=15) (hne:=by decide)) (.n) ?_
    rw [show (decide (((if (Cr.rk2 ((w1:Nat):Int) ((vh1:Nat):Int) m1 l1 ((w2:Nat):Int) ((vh2:Nat):Int) m2 l2) then (if (Cr.pos ((w1:Nat):Int) ((vh1:Nat):Int) ((w2:Nat):Int) ((vh2:Nat):Int) ex ey) then 0 else 15) else 1):Int)=15∧Wd.zz w35 w46))=true from by exact decide_eq_true ⟨hco,hsc.elim (fun k=>absurd k hg9) (fun k=>by rw [k.1,k.2];exact Wd.zz_wz)⟩]
    refine r_pv rfl rfl (zc rfl)<|zj<|zd<|zI<|zo ?_
    exact zy Tryz.results3 () trivial (zp rfl) rfl (ho:=(.n:PickO _ _ _)) (.n:SelR _ _ _)
   ·
    have hp9:(Cr.pos ((w1:Nat):Int) ((vh1:Nat):Int) ((w2:Nat):Int) ((vh2:Nat):Int) ex ey):=Decidable.not_not.1 hp
    obtain ⟨xx,e11⟩:∃q:Nat,ex=(q:Int):=⟨ex.toNat,by have:=hp9.1;omega⟩
    subst e11
    obtain ⟨yy,e12⟩:∃q:Nat,ey=(q:Int):=⟨ey.toNat,by have:=hp9.2.1;omega⟩
    subst e12
    have hx:xx+w1≤w2:=by have:=hp9.2.2.1;omega
    have hy:yy+vh1≤vh2:=by have:=hp9.2.2.2;omega
    have hg9:(Cr.sok ((w1:Nat):Int) ((vh1:Nat):Int) m1 l1 ((w2:Nat):Int) ((vh2:Nat):Int) m2 l2 ((xx:Nat):Int) ((yy:Nat):Int)):=⟨hok,hp9⟩
    have e13:((if (Cr.sok ((w1:Nat):Int) ((vh1:Nat):Int) m1 l1 ((w2:Nat):Int) ((vh2:Nat):Int) m2 l2 ((xx:Nat):Int) ((yy:Nat):Int)) then (Cr.scq l1 l2 ((w1:Nat):Int) ((vh1:Nat):Int) ((w2:Nat):Int) ((xx:Nat):Int) ((yy:Nat):Int)) else 0):Rat)=(Cr.scr l1 l2 w1 vh1 n1 w2 yy xx):=by exact (if_pos hg9).trans (Cr.scq_nat hn1).symm
    rw [e13]
    have e14:(decide (Cr.sok ((w1:Nat):Int) ((vh1:Nat):Int) m1 l1 ((w2:Nat):Int) ((vh2:Nat):Int) m2 l2 ((xx:Nat):Int) ((yy:Nat):Int)))=true:=by exact decide_eq_true hg9
    rw [e14]
    have hq6:Big.hq (Cr.scr l1 l2 w1 vh1 n1 w2 yy xx)≤6:=Cr.scr_hq hg1 hg2 hw1 hh1 hwh1 hwh2 hb1 hx hy
    refine zD<|zd<|zh<|zh<|zb<|r_pv rfl rfl (za rfl)<|r_pv rfl rfl (zEa rfl rfl)<|zj<|zd<|zSa rfl rfl<|zD<|zd<|zh<|zca (OW:=[]) (O:=[emA,boxA b7 32 [w35.b,w35.l,w46.b,w46.l],emA,boxA b3 25 [.int .i64 ((xx:Nat):Int),.int .i64 ((yy:Nat):Int)],boxA b2 24 [.int .i64 ((w2:Nat):Int),.int .i64 ((vh2:Nat):Int),.int .i64 m2,.slice p2 n2 c2],boxA b1 24 [.int .i64 ((w1:Nat):Int),.int .i64 ((vh1:Nat):Int),.int .i64 m1,.slice p1 n1 c1]]) 100000 mixed (.then .ret) (by kernel_rfl)<|d_u 0 rfl rfl (by kernel_rfl) (by kernel_rfl) rfl rfl (ze 1 ty32 rfl rfl (.take (.take (.take (.take .nil)))))<|d_pv 1 rfl rfl (by kernel_rfl) (by kernel_rfl) rfl rfl (za rfl)<|d_u 2 rfl rfl (by kernel_rfl) (by kernel_rfl) rfl rfl (ze 5 ty24 rfl rfl (.take (.take (.take (.take .nil)))))<|d_u 3 rfl rfl (by kernel_rfl) (by kernel_rfl) rfl rfl (ze 4 ty24 rfl rfl (.take (.take (.take (.take .nil)))))<|d_pv 4 rfl rfl (by kernel_rfl) (by kernel_rfl) rfl rfl (zua (i:=0) Tryz.underlying25 sz3 rfl rfl (by decide) rfl)<|d_u 5 rfl rfl (by kernel_rfl) (by kernel_rfl) rfl rfl (zi 3 ty3 rfl rfl rfl)<|d_pv 6 rfl rfl (by kernel_rfl) (by kernel_rfl) rfl rfl (zua (i:=1) Tryz.underlying25 sz3 rfl rfl (by decide) rfl)<|d_u 7 rfl rfl (by kernel_rfl) (by kernel_rfl) rfl rfl (zi 3 ty3 rfl rfl rfl)<|d_pv 9 rfl rfl (by kernel_rfl) (by kernel_rfl) rfl rfl (za rfl)<|zK 8 (by kernel_rfl) (zB rfl rfl rfl rfl (.c rfl (.c rfl (.c rfl (.c rfl .n)))) ce13 (zne (w1:=w1) (vh1:=vh1) (m1:=m1) (p1:=p1) (n1:=n1) (c1:=c1) (l1:=l1) (w2:=w2) (vh2:=vh2) (m2:=m2) (p2:=p2) (n2:=n2) (c2:=c2) (l2:=l2) (xx:=xx) (yy:=yy) (hn1:=by assumption) (hw1:=by first|rfl|assumption|omega|(decide +kernel)) (hh1:=by first|rfl|assumption|omega|(decide +kernel)) (hwh1:=by first|rfl|assumption|omega|(decide +kernel)) (hb1:=by first|rfl|assumption|omega|(decide +kernel)) (hg1:=by first|rfl|assumption|omega|(decide +kernel)) (hn2:=by assumption) (hw2:=by first|rfl|assumption|omega|(decide +kernel)) (hh2:=by first|rfl|assumption|omega|(decide +kernel)) (hwh2:=by first|rfl|assumption|omega|(decide +kernel)) (hb2:=by first|rfl|assumption|omega|(decide +kernel)) (hg2:=by first|rfl|assumption|omega|(decide +kernel)) (hx:=by first|rfl|assumption|omega|(decide +kernel)) (hy:=by first|rfl|assumption|omega|(decide +kernel))) (.c (j:=4) rfl (.c (j:=5) rfl .n)) ?_)
    rintro ⟨w315,w416⟩ -
    dsimp only [List.append_eq,List.nil_append,List.cons_append]
    refine zK 10 (by kernel_rfl) (zYa rfl rfl rfl rfl (.c rfl (.c rfl (.c rfl (.c rfl .n)))) ce12 (zoe (u1:=w35) (v1:=w46) (q1:=(Cr.scr l1 l2 w1 vh1 n1 w2 yy xx)) (e1:=(if (Cr.rk2 ((w1:Nat):Int) ((vh1:Nat):Int) m1 l1 ((w2:Nat):Int) ((vh2:Nat):Int) m2 l2) then (if (Cr.pos ((w1:Nat):Int) ((vh1:Nat):Int) ((w2:Nat):Int) ((vh2:Nat):Int) ((xx:Nat):Int) ((yy:Nat):Int)) then 0 else 15) else 1)) (u2:=w315) (v2:=w416) (q2:=(Cr.scr l1 l2 w1 vh1 n1 w2 yy xx)) (hl:=by first|rfl|assumption|omega|(decide +kernel))) (.c (j:=3) rfl (.c (j:=0) rfl .n)) ?_)
    rw [show (decide (((if (Cr.rk2 ((w1:Nat):Int) ((vh1:Nat):Int) m1 l1 ((w2:Nat):Int) ((vh2:Nat):Int) m2 l2) then (if (Cr.pos ((w1:Nat):Int) ((vh1:Nat):Int) ((w2:Nat):Int) ((vh2:Nat):Int) ((xx:Nat):Int) ((yy:Nat):Int)) then 0 else 15) else 1):Int)=0∧(Cr.scr l1 l2 w1 vh1 n1 w2 yy xx)=(Cr.scr l1 l2 w1 vh1 n1 w2 yy xx)))=true from by exact decide_eq_true ⟨by rw [if_pos hok,if_pos hp9],rfl⟩]
    refine d_pv 11 rfl rfl (by kernel_rfl) (by kernel_rfl) rfl rfl (za rfl)<|d_u 12 rfl rfl (by kernel_rfl) (by kernel_rfl) rfl rfl (ze 1 ty32 rfl rfl (.take (.take (.take (.take .nil)))))<|zK 13 (by kernel_rfl) (zB rfl rfl rfl rfl (.c rfl .n) ce15 (zZe (k1:=true) (u1:=w35) (v1:=w46) (q1:=(Cr.scr l1 l2 w1 vh1 n1 w2 yy xx)) (hl:=by first|rfl|assumption|omega|(decide +kernel))) (.c (j:=3) rfl .n) ?_)
    rintro ⟨w317,w418⟩ -
    dsimp only [List.append_eq,List.nil_append,List.cons_append]
    refine zK 14 (by kernel_rfl) (zB rfl rfl rfl rfl (.c rfl .n) ce16 (zib (z:=1) (hz:=by first|rfl|assumption|omega|(decide +kernel))) (.n) ?_)
    rintro ⟨w319,w420⟩ -
    dsimp only [List.append_eq,List.nil_append,List.cons_append]
    refine zK 15 (by kernel_rfl) (zYa rfl rfl rfl rfl (.c rfl (.c rfl .n)) ce14 (zPb (k1:=true) (u1:=w317) (v1:=w418) (q1:=(Big.qabs (Cr.scr l1 l2 w1 vh1 n1 w2 yy xx))) (k2:=true) (u2:=w319) (v2:=w420) (q2:=((1:Int):Rat)) (hl:=by rw [Big.hq_qabs];have h1:Big.hq ((1:Int):Rat)≤6:=(by decide +kernel);omega)) (.c (j:=1) rfl (.c (j:=0) rfl .n)) ?_)
    refine d_pv 16 rfl rfl (by kernel_rfl) (by kernel_rfl) rfl rfl (zrb rfl rfl) ?_
    rw [show (decide (Big.sgq ((Big.qabs (Cr.scr l1 l2 w1 vh1 n1 w2 yy xx)) - ((1:Int):Rat))≤0))=true from by exact decide_eq_true (Cr.qabs_le (Cr.scr_rng hwh1 hw1.1))]
    refine d_pv 17 rfl rfl (by kernel_rfl) (by kernel_rfl) rfl rfl (zt rfl rfl)<|d_pv 18 rfl rfl (by kernel_rfl) (by kernel_rfl) rfl rfl (zc rfl)<|zZ (by kernel_rfl)<|zd<|zI ?_
    exact zy Tryz.results3 () trivial (zp rfl) rfl (ho:=(.n:PickO _ _ _)) (.n:SelR _ _ _)
  ·
   have hno:¬(Cr.rk2 wi1 hi1 m1 l1 wi2 hi2 m2 l2):=fun k=>hk (if_pos k)
   have e21:((if (Cr.rk2 wi1 hi1 m1 l1 wi2 hi2 m2 l2) then 0 else 1):Int)=1:=by exact if_neg hno
   rw [e21]
   have hg9:¬(Cr.sok wi1 hi1 m1 l1 wi2 hi2 m2 l2 ex ey):=fun k=>hno k.1
   have hco:((if (Cr.rk2 wi1 hi1 m1 l1 wi2 hi2 m2 l2) then (if (Cr.pos wi1 hi1 wi2 hi2 ex ey) then 0 else 15) else 1):Int)=1:=if_neg hno
   refine zf rfl rfl<|zf rfl rfl<|zf rfl rfl<|zf rfl rfl<|zf rfl rfl<|zf rfl rfl<|zf rfl rfl<|zf rfl rfl<|r_pv rfl rfl (zt rfl rfl)<|zj<|zd<|zSa rfl rfl<|zD<|zd<|zh<|zh<|zb<|r_pv rfl rfl (za rfl)<|r_pv rfl rfl (zEa rfl rfl)<|zj<|zd<|zIc rfl rfl<|zh<|zb<|r_u rfl rfl (ze 1 ty32 rfl rfl (.take (.take (.take (.take .nil)))))<|r_pv rfl rfl (za rfl)<|r_pv rfl rfl (zL zr32 rfl Tryz.underlying32 (.c sz30 (.c sz30 .n)) .n .n)<|r_pv rfl rfl (za rfl)<|zN rfl rfl (.c rfl (.c rfl (.c rfl (.c rfl .n)))) ce12 (ztc (u1:=w35) (v1:=w46) (e1:=(if (Cr.rk2 wi1 hi1 m1 l1 wi2 hi2 m2 l2) then (if (Cr.pos wi1 hi1 wi2 hi2 ex ey) then 0 else 15) else 1)) (u2:=wz) (v2:=wz) (e2:=1) (hne:=by decide)) (.n) ?_
   rw [show (decide (((if (Cr.rk2 wi1 hi1 m1 l1 wi2 hi2 m2 l2) then (if (Cr.pos wi1 hi1 wi2 hi2 ex ey) then 0 else 15) else 1):Int)=1∧Wd.zz w35 w46))=true from by exact decide_eq_true ⟨hco,hsc.elim (fun k=>absurd k hg9) (fun k=>by rw [k.1,k.2];exact Wd.zz_wz)⟩]
   refine r_pv rfl rfl (zc rfl)<|zj<|zd<|zI<|zo ?_
   exact zy Tryz.results3 () trivial (zp rfl) rfl (ho:=(.n:PickO _ _ _)) (.n:SelR _ _ _)
end Go.Proofs.YtkamccndgblheaaGreat.Sp
