/- Lemmas on the walk and plain lemmas that the claim of this folder uses; each states its own conditions. Lines were printed by a program of ours. -/
import Derived.Test.YtkamccndgblheaaGreatZ6D
set_option linter.unusedVariables false
set_option linter.unusedSimpArgs false
set_option linter.unusedSectionVars false
namespace Go.Proofs.YtkamccndgblheaaGreat.Cr
def cutL (l:List Int) (w y x pw:Nat):Nat→List Int
  |0=>[]
  |k+1=>cutL l w y x pw k++(l.take ((((y+k)*w)+x)+pw)).drop (((y+k)*w)+x)
section
variable {l : List Int} {w h n y x pw ph : Nat} (hn : l.length = n) (hwh : n = w * h) (hx : x + pw ≤ w) (hy : y + ph ≤ h)
include hn hwh hx hy
theorem row_in {k:Nat} (hk:k<ph):(y+k)*w+x+pw≤l.length:=by
  have:(y+k+1)*w≤h*w:=Nat.mul_le_mul_right _ (by omega)
  rw [Nat.add_mul,Nat.one_mul] at this
  rw [hn,hwh,Nat.mul_comm w h];omega
theorem cutL_len {k:Nat} (hk:k≤ph):(cutL l w y x pw k).length=pw*k:=by
  induction k with
  |zero=>rfl
  |succ k ih=>
    have:=row_in hn hwh hx hy (show k<ph by omega)
    rw [cutL,List.length_append,ih (by omega),List.length_drop,List.length_take,Nat.min_eq_left (by omega),Nat.mul_add,Nat.mul_one];omega
theorem cutL_at {k:Nat} (hp:0<pw) (hk:k<pw*ph):px (cutL l w y x pw ph) k=px l ((y+k / pw)*w+(x+k%pw)):=by
  have go:∀m,m≤ph→∀k,k<pw*m→px (cutL l w y x pw m) k=px l ((y+k / pw)*w+(x+k%pw)):=by
    intro m
    induction m with
    |zero=>intro _ k hk;simp at hk
    |succ m ih=>
      intro hm k hk
      have hl:=cutL_len hn hwh hx hy (show m≤ph by omega)
      have hr:=row_in hn hwh hx hy (show m<ph by omega)
      have hk2:k<pw*m+pw:=by rw [Nat.mul_add,Nat.mul_one] at hk;exact hk
      by_cases hc:k<pw*m
      · rw [← ih (by omega) k hc, cutL]; unfold px
        rw [List.getD_eq_getElem?_getD,List.getElem?_append_left (by omega),←List.getD_eq_getElem?_getD]
      · have e1:k / pw=m:=by
          apply Nat.div_eq_of_lt_le
          · rw [Nat.mul_comm];omega
          · rw [Nat.add_mul,Nat.one_mul,Nat.mul_comm m pw];exact hk2
        have e2:k%pw=k - pw*m:=by
          have:=Nat.div_add_mod k pw;rw [e1] at this;omega
        rw [cutL,e1,e2];unfold px
        rw [List.getD_eq_getElem?_getD,List.getElem?_append_right (by omega),List.getElem?_drop,List.getElem?_take_of_lt (by omega),←List.getD_eq_getElem?_getD,hl]
        congr 1;omega
  exact go ph (Nat.le_refl _) k hk
theorem cutL_b {m:Int} (hp:0<pw) (hg:∀i,i<n→0≤l.getD i 0∧l.getD i 0≤m) {k:Nat} (hk:k<pw*ph):0≤(cutL l w y x pw ph).getD k 0∧(cutL l w y x pw ph).getD k 0≤m:=by
  have e:=cutL_at hn hwh hx hy hp hk
  unfold px at e;rw [e];refine hg _ ?_
  have:=win_lt hp hx hy hk
  rw [hwh,←Nat.add_assoc];exact this
end
section
variable {l1 l2 l3 : List Int} {w1 h1 n1 w2 h2 n2 y x : Nat} {p q : Int} (h1n : n1 = w1 * h1) (h2n : n2 = w2 * h2) (hw : 0 < w1) (hx : x + w1 ≤ w2) (hy : y + h1 ≤ h2) (h3 : ∀ i, i < n2 → px l3 i = p * px l2 i + q)
include h1n h2n hx hy h3
end
theorem sumN_nn {f:Nat→Int} {n:Nat} (h:∀i,i<n→0≤f i):0≤sumN f n:=by
  induction n with
  |zero=>exact Int.le_refl _
  |succ n ih=>exact Int.add_nonneg (ih fun i hi=>h i (by omega)) (h n (by omega))
def vr (f:Nat→Int) (n:Nat):Int:=n*sumN (fun i=>f i*f i) n - sumN f n*sumN f n
theorem dev (f:Nat→Int) (a:Int) (n:Nat):sumN (fun i=>(f i - a)*(f i - a)) n=sumN (fun i=>f i*f i) n - 2*a*sumN f n+n*(a*a):=by
  induction n with
  |zero=>simp [sumN]
  |succ n ih=>simp only [sumN];rw [ih,Int.natCast_add];grind
theorem vr_succ (f:Nat→Int) (n:Nat):vr f (n+1)=vr f n+sumN (fun i=>(f i - f n)*(f i - f n)) n:=by
  rw [dev];unfold vr;simp only [sumN];rw [Int.natCast_add];grind
theorem sq_nn (a:Int):0≤a*a:=by
  rcases Int.le_total 0 a with h|h
  · exact Int.mul_nonneg h h
  · have:=Int.mul_nonneg (Int.neg_nonneg.2 h) (Int.neg_nonneg.2 h);rwa [Int.neg_mul_neg] at this
theorem vr_nn (f:Nat→Int) (n:Nat):0≤vr f n:=by
  induction n with
  |zero=>simp [vr,sumN]
  |succ n ih=>rw [vr_succ];exact Int.add_nonneg ih (sumN_nn fun i _=>sq_nn _)
def cv (f g:Nat→Int) (n:Nat):Int:=n*sumN (fun i=>f i*g i) n - sumN f n*sumN g n
theorem vr_lin (f g:Nat→Int) (a b:Int) (n:Nat):vr (fun i=>a*f i - b*g i) n=a*a*vr f n - 2*a*b*cv f g n+b*b*vr g n:=by
  have e1:sumN (fun i=>a*f i - b*g i) n=a*sumN f n - b*sumN g n:=by
    induction n with
    |zero=>simp [sumN]
    |succ n ih=>simp only [sumN];rw [ih];grind
  have e2:sumN (fun i=>(a*f i - b*g i)*(a*f i - b*g i)) n=a*a*sumN (fun i=>f i*f i) n - 2*a*b*sumN (fun i=>f i*g i) n+b*b*sumN (fun i=>g i*g i) n:=by
    clear e1
    induction n with
    |zero=>simp [sumN]
    |succ n ih=>simp only [sumN];rw [ih];grind
  unfold vr cv;rw [e1,e2];grind
theorem cauchy {f g:Nat→Int} {n:Nat} (hg:0<vr g n):cv f g n*cv f g n≤vr f n*vr g n:=by
  have h:=vr_nn (fun i=>vr g n*f i - cv f g n*g i) n
  rw [vr_lin] at h
  have e:vr g n*vr g n*vr f n - 2*vr g n*cv f g n*cv f g n+cv f g n*cv f g n*vr g n=vr g n*(vr f n*vr g n - cv f g n*cv f g n):=by grind
  rw [e] at h
  have:=Int.le_of_mul_le_mul_left (a:=vr g n) (b:=0) (c:=vr f n*vr g n - cv f g n*cv f g n) (by rw [Int.mul_zero];exact h) hg
  omega
end Go.Proofs.YtkamccndgblheaaGreat.Cr
namespace Go.Proofs.YtkamccndgblheaaGreat.Cr
theorem div_le1 {n d:Int} (hd:0<d) (h:n≤d):Rat.divInt n d≤1:=by
  have hp:(0:Rat)<(d:Rat):=Rat.intCast_pos.2 hd
  rw [Rat.divInt_eq_div]
  apply Rat.le_of_mul_le_mul_right (c:=(d:Rat)) _ hp
  rw [Rat.div_mul_cancel (by grind),Rat.one_mul];exact Rat.intCast_le_intCast.2 h
theorem div_ge1 {n d:Int} (hd:0<d) (h: -d≤n): -1≤Rat.divInt n d:=by
  have k:=div_le1 (n:= -n) hd (by omega)
  rw [← Rat.neg_divInt] at k;grind
theorem sc_rng {c a b:Int} (ha:0≤a) (hb:0≤b) (h:0<b→c*c≤a*b):sc c a b≤1∧ -1≤sc c a b:=by
  unfold sc
  split
  · exact ⟨by decide,by decide⟩
  · rename_i k
    have hp:0<a*b:=Int.mul_pos (by omega) (by omega)
    have hc:=h (by omega)
    have e:c*(c.natAbs:Int)≤c*c∧ -(c*c)≤c*(c.natAbs:Int):=by
      rcases Int.natAbs_eq c with q|q
      · rw [← q];have:=sq_nn c;omega
      · have : (c.natAbs : Int) = -c := by omega
        rw [this,Int.mul_neg];have:=sq_nn c;omega
    constructor
    · exact div_le1 hp (by omega)
    · exact div_ge1 hp (by omega)
def wn (l:List Int) (w y x pw k:Nat):Int:=px l ((y+k / pw)*w+(x+k%pw))
theorem box_wn (l:List Int) (w y x:Nat) {pw:Nat} (hp:0<pw) (ph:Nat):box (px l) w y x ph pw=sumN (wn l w y x pw) (pw*ph):=(sumN_lin (fun j i=>px l ((y+j)*w+(x+i))) hp ph).symm
theorem boxq_wn (l:List Int) (w y x:Nat) {pw:Nat} (hp:0<pw) (ph:Nat):box (sq l) w y x ph pw=sumN (fun k=>wn l w y x pw k*wn l w y x pw k) (pw*ph):=(sumN_lin (fun j i=>sq l ((y+j)*w+(x+i))) hp ph).symm
section
variable {l1 l2 : List Int} {w1 h1 n1 w2 y x : Nat} (h1n : n1 = w1 * h1) (hw : 0 < w1)
include h1n hw
theorem vb_is:vb l2 w1 h1 n1 w2 y x=vr (wn l2 w2 y x w1) n1:=by
  unfold vb vr;rw [box_wn l2 w2 y x hw,boxq_wn l2 w2 y x hw,←h1n]
theorem cc_is:cc l1 l2 w1 h1 n1 w2 y x=cv (px l1) (wn l2 w2 y x w1) n1:=by
  unfold cc cv;rw [box_wn l2 w2 y x hw,←h1n]
  congr 2;unfold crs;exact sumN_congr fun i _=>by unfold wn;rw [Nat.add_assoc]
theorem scr_rng:scr l1 l2 w1 h1 n1 w2 y x≤1∧ -1≤scr l1 l2 w1 h1 n1 w2 y x:=by
  unfold scr
  rw [vb_is h1n hw,cc_is h1n hw]
  exact sc_rng (vr_nn _ _) (vr_nn _ _) fun h=>cauchy h
end
theorem rok_cut {l:List Int} {w h n y x pw ph:Nat} {m:Int} (k:Bl.rok (w:Int) h m l) (hn:l.length=n) (hwh:n=w*h) (hx:x+pw≤w) (hy:y+ph≤h) (hp:1≤pw) (hq:1≤ph):Bl.rok (pw:Int) ph m (cutL l w y x pw ph):=by
  have hc:=cutL_len hn hwh hx hy (Nat.le_refl ph)
  refine ⟨by have:=k.1;omega,by have:=k.2.1;omega,k.2.2.1,by rw [hc,Int.natCast_mul],?_⟩
  rintro ⟨g,hg,hb⟩
  obtain ⟨i,hi,e⟩:=mem_getDG (d:=0) hg
  have:=cutL_b hn hwh hx hy (m:=m) hp (fun j hj=>by
    have hm:=getD_memG (l:=l) (i:=j) (d:=0) (by omega)
    have:¬(l.getD j 0<0∨m<l.getD j 0):=fun e=>k.2.2.2.2 ⟨_,hm,e⟩
    omega) (k:=i) (by omega)
  rw [e] at this;omega
end Go.Proofs.YtkamccndgblheaaGreat.Cr
namespace Go.Proofs.YtkamccndgblheaaGreat.Sp
open Go
set_option linter.unusedVariables false
set_option maxRecDepth 100000
set_option maxHeartbeats 1000000
theorem zRf {p:Option Addr} {n:Nat} {cap:Nat} {l:List Gr} (hn:l.length=n):Con Tryz.prog 8 [.slice p n cap] [] [slF rG p cap l] (Y:=Unit) (fun y=>True) (fun y=> .bool (decide (∀g∈l,g.n≤150))) (fun y=>[]) (fun y=>[]):=by
 refine zq Tryz.func8 rfl rfl rfl (fun c=> ?_)
 show RunC _ _ _ _ _ [(0,.slice p n cap)] [] [slF rG p cap l]
 refine zY 0 rfl (fun hL0=> ?_)
 refine zi<|zc<|r_pv rfl rfl (zd rfl)<|zj<|ze<|zi<|zi<|zc<|r_pv rfl rfl (za rfl)<|r_pv rfl rfl (zM Tryz.underlying77 rfl)<|r_pv rfl rfl (za rfl)<|zj<|ze<|zA<|zka (X:=Nat) (fun x:Nat=>x≤n∧∀j,j<x→(l.getD j gr0).n≤150) (fun x=>[(7,.int .i64 ((x:Nat):Int)),(6,.int .i64 ((n:Nat):Int)),(5,.slice p n cap)]) (fun x=>[]) (fun x=>[slF rG p cap l]) (fun x:Nat=>n - x) 0 (show 0≤n∧∀j,j<0→(l.getD j gr0).n≤150 from by exact ⟨by omega,fun j h=>by omega⟩) ((.e rfl (by first|rfl|(congr 1;omega)|simp_all) (.c rfl (.c rfl .n))):SubM _ _) (ho:=(.n:PickO _ _ _)) ((.c (j:=0) rfl .n):SelR _ _ _) ?_
 rintro i hI
 replace hI:i≤n∧∀j,j<i→(l.getD j gr0).n≤150:=hI
 try dsimp only
 obtain ⟨hi,hall⟩:=hI
 refine zi<|zc<|r_pv rfl rfl (zda rfl rfl)<|zj<|ze<|zi<|zG rfl (fun h1=> ?_) (fun h1=> ?_)
 ·
  refine zB<|ze<|zi<|zA<|zi<|zc<|zU (x0:=(l.getD i gr0)) 0 i rfl Tryz.underlying77 sz24 rfl rfl rfl (by first|rfl|assumption|(simp_all;done)|omega) rfl rfl (gD (d:=gr0) (by omega)) (fun b2 o3 hok4=> ?_)
  obtain ⟨hok40,hok41,hok42⟩:=hok4
  replace hok40:=zR.1 hok40
  replace hok41:=zR.1 hok41
  replace hok42:=zR.1 hok42
  refine r_u rfl rfl (zra (j:=0) 0 ty24 rfl rfl rfl (.take (.take (.take (.take .nil)))))<|zJ rfl rfl (zw zr24 rfl) (fun b5=> ?_)
  refine zn 0 rfl rfl rfl rfl rfl sz24 rfl (.take (.take (.take (.take .nil)))) .z<|zj<|ze<|zi<|zc<|r_pv rfl rfl (zg Tryz.underlying24 rfl sz22 rfl rfl)<|r_u rfl rfl (zh 0 ty22 rfl rfl rfl)<|r_pv rfl rfl (zM Tryz.underlying22 rfl)<|r_pv rfl rfl (zoa rfl rfl)<|zj<|ze<|zG rfl (fun hb=> ?_) (fun hb=> ?_)
  ·
   refine zi<|zc<|r_pv rfl rfl (zd rfl)<|zj<|ze<|zI<|zZ<|zp<|zp<|zZ<|zp ?_
   exact zE Tryz.results8 () trivial (zo rfl) (congrArg Value.bool (decide_eq_false (fun k=>by have h9:=k _ (Cr.getD_memG (l:=l) (i:=i) (d:=gr0) (by omega));omega))) (ho:=(.n:PickO _ _ _)) (.n:SelR _ _ _)
  ·
   refine zB<|zT<|ze<|zc<|r_pv rfl rfl (zx (z:=(((i+1):Nat):Int)) rfl rfl (w64 (by omega)))<|r_pv rfl rfl (za rfl)<|zj<|zha (i+1) (show (i+1)≤n∧∀j,j<(i+1)→(l.getD j gr0).n≤150 from by refine ⟨by omega,fun j hj=> ?_⟩;by_cases e:j=i;subst e;omega;exact hall j (by omega)) (by show n - (i+1)<n - i;omega) ((.of rfl):SubM _ _) (ho:=(.n:PickO _ _ _)) ((.c (j:=1) rfl .n):SelR _ _ _)
 ·
  refine zja<|zl<|zl<|zu<|ze<|zi<|zc<|r_pv rfl rfl (zd rfl)<|zj<|ze<|zI ?_
  exact zE Tryz.results8 () trivial (zo rfl) (congrArg Value.bool (decide_eq_true (fun g hg=>by obtain ⟨j,hj,e⟩:=Cr.mem_getDG (d:=gr0) hg;have h9:=hall j (by rw [hn] at hj;omega);rw [e] at h9;exact h9))) (ho:=(.n:PickO _ _ _)) (.n:SelR _ _ _)
theorem zyd {p:Option Addr} {n:Nat} {cap:Nat} {l:List Gr} {ls:List (List Int)} (hn:l.length=n) (hls:∀i,i<n→(ls.getD i []).length=(l.getD i gr0).n):Con Tryz.prog 10 [.slice p n cap] [] [slF rG p cap l,gsF l ls] (Y:=Unit) (fun y=>True) (fun y=> .int .i64 (if (Cr.allok l ls n) then 0 else 1)) (fun y=>[]) (fun y=>[]):=by
 refine zq Tryz.func10 rfl rfl rfl (fun c=> ?_)
 show RunC _ _ _ _ _ [(0,.slice p n cap)] [] [slF rG p cap l,gsF l ls]
 refine zY 0 rfl (fun hL0=> ?_)
 refine zi<|zc<|r_pv rfl rfl (zd rfl)<|zj<|ze<|zi<|zi<|zc<|r_pv rfl rfl (za rfl)<|r_pv rfl rfl (zM Tryz.underlying77 rfl)<|r_pv rfl rfl (za rfl)<|zj<|ze<|zA<|zka (X:=Nat) (fun x:Nat=>x≤n∧∀j,j<x→Bl.rok (l.getD j gr0).w (l.getD j gr0).h (l.getD j gr0).m (ls.getD j [])) (fun x=>[(8,.int .i64 ((x:Nat):Int)),(7,.int .i64 ((n:Nat):Int)),(6,.slice p n cap)]) (fun x=>[]) (fun x=>[slF rG p cap l,gsF l ls]) (fun x:Nat=>n - x) 0 (show 0≤n∧∀j,j<0→Bl.rok (l.getD j gr0).w (l.getD j gr0).h (l.getD j gr0).m (ls.getD j []) from by exact ⟨by omega,fun j h=>by omega⟩) ((.e rfl (by first|rfl|(congr 1;omega)|simp_all) (.c rfl (.c rfl .n))):SubM _ _) (ho:=(.n:PickO _ _ _)) ((.of [0,1] rfl):SelR _ _ _) ?_
 rintro i hI
 replace hI:i≤n∧∀j,j<i→Bl.rok (l.getD j gr0).w (l.getD j gr0).h (l.getD j gr0).m (ls.getD j []):=hI
 try dsimp only
 obtain ⟨hi,hall⟩:=hI
 refine zi<|zc<|r_pv rfl rfl (zda rfl rfl)<|zj<|ze<|zi<|zG rfl (fun h1=> ?_) (fun h1=> ?_)
 ·
  refine zB<|ze<|zi<|zA<|zi<|zc<|zU (x0:=(l.getD i gr0)) 0 i rfl Tryz.underlying77 sz24 rfl rfl rfl (by first|rfl|assumption|(simp_all;done)|omega) rfl rfl (gD (d:=gr0) (by omega)) (fun b2 o3 hok4=> ?_)
  obtain ⟨hok40,hok41,hok42⟩:=hok4
  replace hok40:=zR.1 hok40
  replace hok41:=zR.1 hok41
  replace hok42:=zR.1 hok42
  refine r_u rfl rfl (zra (j:=0) 0 ty24 rfl rfl rfl (.take (.take (.take (.take .nil)))))<|zJ rfl rfl (zw zr24 rfl) (fun b5=> ?_)
  refine zn 0 rfl rfl rfl rfl rfl sz24 rfl (.take (.take (.take (.take .nil)))) .z<|zj<|ze<|zi<|zCb (slF (rI .i64) ((l.getD i gr0).p) ((l.getD i gr0).c) (ls.getD i [])) (gsF_get 2 rfl i (by omega))<|zc<|r_u rfl rfl (zf 0 ty24 rfl rfl (.take (.take (.take (.take .nil)))))<|zN rfl rfl (.c rfl .n) ce38 (zJd (w:=(l.getD i gr0).w) (h:=(l.getD i gr0).h) (m:=(l.getD i gr0).m) (p:=(l.getD i gr0).p) (n:=(l.getD i gr0).n) (cap:=(l.getD i gr0).c) (l:=(ls.getD i [])) (hn:=by first|rfl|assumption|exact hls i (by omega)|omega)) (.c (j:=0) rfl .n)<|r_pv rfl rfl (zd rfl)<|zj<|ze<|zi<|zc<|r_pv rfl rfl (za rfl)<|r_pv rfl rfl (zKa rfl rfl)<|zj<|ze<|zG rfl (fun hb=> ?_) (fun hb=> ?_)
  ·
   refine zi<|zc<|r_pv rfl rfl (za rfl)<|r_pv rfl rfl (zd rfl)<|zj<|ze<|zI<|zZ<|zp<|zp<|zZ<|zp ?_
   exact zE Tryz.results10 () trivial (zo rfl) (by rw [if_neg (fun k=>hb (if_pos k)),if_neg (fun k=>hb (if_pos (k i (by omega))))]) (ho:=(.n:PickO _ _ _)) (.n:SelR _ _ _)
  ·
   refine zB<|zT<|ze<|zc<|r_pv rfl rfl (zx (z:=(((i+1):Nat):Int)) rfl rfl (w64 (by omega)))<|r_pv rfl rfl (za rfl)<|zj<|zha (i+1) (show (i+1)≤n∧∀j,j<(i+1)→Bl.rok (l.getD j gr0).w (l.getD j gr0).h (l.getD j gr0).m (ls.getD j []) from by refine ⟨by omega,fun j hj=> ?_⟩;by_cases e:j=i;subst e;exact Bl.c0.1 (Decidable.not_not.1 hb);exact hall j (by omega)) (by show n - (i+1)<n - i;omega) ((.of rfl):SubM _ _) (ho:=(.n:PickO _ _ _)) ((.of [2,3] rfl):SelR _ _ _)
 ·
  refine zja<|zl<|zl<|zu<|ze<|zi<|zc<|r_pv rfl rfl (zd rfl)<|zj<|ze<|zI ?_
  exact zE Tryz.results10 () trivial (zo rfl) (by rw [if_pos (show (Cr.allok l ls n) from fun j hj=>hall j (by omega))]) (ho:=(.n:PickO _ _ _)) (.n:SelR _ _ _)
theorem zTc {wi1:Int} {hi1:Int} {m1:Int} {p1:Option Addr} {n1:Nat} {c1:Nat} {l1:List Int} {wi2:Int} {hi2:Int} {m2:Int} {p2:Option Addr} {n2:Nat} {c2:Nat} {l2:List Int} {ex:Int} {ey:Int} (hok:(Cr.rk2 wi1 hi1 m1 l1 wi2 hi2 m2 l2)):Con Tryz.prog 11 [.agg #[.int .i64 wi1,.int .i64 hi1,.int .i64 m1,.slice p1 n1 c1],.agg #[.int .i64 wi2,.int .i64 hi2,.int .i64 m2,.slice p2 n2 c2],.int .i64 ex,.int .i64 ey] [] [] (Y:=Unit) (fun y=>True) (fun y=> .bool (decide (Cr.pos wi1 hi1 wi2 hi2 ex ey))) (fun y=>[]) (fun y=>[]):=by
 refine zq Tryz.func11 rfl rfl rfl (fun c=> ?_)
 show RunC _ _ _ _ _ [(0,.agg #[.int .i64 wi1,.int .i64 hi1,.int .i64 m1,.slice p1 n1 c1]),(1,.agg #[.int .i64 wi2,.int .i64 hi2,.int .i64 m2,.slice p2 n2 c2]),(2,.int .i64 ex),(3,.int .i64 ey)] [] []
 obtain ⟨⟨hw1,hh1,_,_,_⟩,hw2,hh2,_,_,_⟩:=hok
 refine zi<|zc<|zJ rfl rfl (zQ rfl rfl) (fun b1=> ?_)
 refine zJ rfl rfl (zQ rfl rfl) (fun b2=> ?_)
 refine r_pv rfl rfl (zd rfl)<|zj<|ze<|zGa (X:=Unit) (fun x=>True) (fun x=>[(8,.bool (decide ((((0≤ex)∧(0≤ey))∧(ex≤(wi2 - wi1)))∧(ey≤(hi2 - hi1)))))]) (fun x=>[boxA b2 24 [.int .i64 wi2,.int .i64 hi2,.int .i64 m2,.slice p2 n2 c2],boxA b1 24 [.int .i64 wi1,.int .i64 hi1,.int .i64 m1,.slice p1 n1 c1]]) (fun x=>[]) ?_ ?_
 ·
  refine zc<|r_pv rfl rfl (za rfl)<|r_pv rfl rfl (zMa rfl rfl)<|zP rfl rfl (za rfl) (fun h3=> ?_) (fun h3=> ?_)
  ·
   refine r_pv rfl rfl (za rfl)<|r_pv rfl rfl (zMa rfl rfl)<|r_pv rfl rfl (zm rfl rfl)<|zP rfl rfl (za rfl) (fun h4=> ?_) (fun h4=> ?_)
   ·
    refine r_pv rfl rfl (za rfl)<|r_pv rfl rfl (zg Tryz.underlying24 rfl sz3 rfl rfl)<|r_u rfl rfl (zh 0 ty3 rfl rfl rfl)<|r_pv rfl rfl (zg Tryz.underlying24 rfl sz3 rfl rfl)<|r_u rfl rfl (zh 1 ty3 rfl rfl rfl)<|r_pv rfl rfl (zaa (z:=(wi2 - wi1)) rfl rfl (w64 (by omega)))<|r_pv rfl rfl (zdb rfl rfl)<|r_pv rfl rfl (zm rfl rfl)<|zP rfl rfl (za rfl) (fun h5=> ?_) (fun h5=> ?_)
    ·
     refine r_pv rfl rfl (za rfl)<|r_pv rfl rfl (zg Tryz.underlying24 rfl sz3 rfl rfl)<|r_u rfl rfl (zh 0 ty3 rfl rfl rfl)<|r_pv rfl rfl (zg Tryz.underlying24 rfl sz3 rfl rfl)<|r_u rfl rfl (zh 1 ty3 rfl rfl rfl)<|r_pv rfl rfl (zaa (z:=(hi2 - hi1)) rfl rfl (w64 (by omega)))<|r_pv rfl rfl (zdb rfl rfl)<|r_pv rfl rfl (zm rfl rfl)<|r_pv rfl rfl (zd rfl)<|zj ?_
     exact zca () (show True from by first|trivial|omega|simp_all) ((.e rfl (congrArg Value.bool (by first|(simp_all;done)|(simp_all;omega)|(simp;omega)|omega)) .n):SubM _ _) (ho:=((.of [0,0] rfl):PickO _ _ _)) (.n:SelR _ _ _)
    ·
     refine zb rfl rfl<|zb rfl rfl<|zb rfl rfl<|zb rfl rfl<|zb rfl rfl<|zb rfl rfl<|zb rfl rfl<|r_pv rfl rfl (zm rfl rfl)<|r_pv rfl rfl (zd rfl)<|zj ?_
     exact zca () (show True from by first|trivial|omega|simp_all) ((.e rfl (congrArg Value.bool (by first|(simp_all;done)|(simp_all;omega)|(simp;omega)|omega)) .n):SubM _ _) (ho:=((.of [0,0] rfl):PickO _ _ _)) (.n:SelR _ _ _)
   ·
    refine zb rfl rfl<|zb rfl rfl<|zb rfl rfl<|zb rfl rfl<|zb rfl rfl<|zb rfl rfl<|zb rfl rfl<|r_pv rfl rfl (zm rfl rfl)<|r_pv rfl rfl (za rfl)<|zb rfl rfl<|zb rfl rfl<|zb rfl rfl<|zb rfl rfl<|zb rfl rfl<|zb rfl rfl<|zb rfl rfl<|r_pv rfl rfl (zm rfl rfl)<|r_pv rfl rfl (zd rfl)<|zj ?_
    exact zca () (show True from by first|trivial|omega|simp_all) ((.e rfl (congrArg Value.bool (by first|(simp_all;done)|(simp_all;omega)|(simp;omega)|omega)) .n):SubM _ _) (ho:=((.of [0,0] rfl):PickO _ _ _)) (.n:SelR _ _ _)
  ·
   refine zb rfl rfl<|zb rfl rfl<|r_pv rfl rfl (zm rfl rfl)<|r_pv rfl rfl (za rfl)<|zb rfl rfl<|zb rfl rfl<|zb rfl rfl<|zb rfl rfl<|zb rfl rfl<|zb rfl rfl<|zb rfl rfl<|r_pv rfl rfl (zm rfl rfl)<|r_pv rfl rfl (za rfl)<|zb rfl rfl<|zb rfl rfl<|zb rfl rfl<|zb rfl rfl<|zb rfl rfl<|zb rfl rfl<|zb rfl rfl<|r_pv rfl rfl (zm rfl rfl)<|r_pv rfl rfl (zd rfl)<|zj ?_
   exact zca () (show True from by first|trivial|omega|simp_all) ((.e rfl (congrArg Value.bool (by first|(simp_all;done)|(simp_all;omega)|(simp;omega)|omega)) .n):SubM _ _) (ho:=((.of [0,0] rfl):PickO _ _ _)) (.n:SelR _ _ _)
 ·
  rintro ⟨⟩ -
  try dsimp only
  refine zI ?_
  exact zE Tryz.results11 () trivial (zo rfl) (congrArg Value.bool (decide_eq_decide.2 (by unfold Cr.pos;constructor <;> intro k <;> omega))) (ho:=(.n:PickO _ _ _)) (.n:SelR _ _ _)
end Go.Proofs.YtkamccndgblheaaGreat.Sp
namespace Go.Proofs.YtkamccndgblheaaGreat.Sp
open Go
set_option linter.unusedVariables false
set_option maxRecDepth 100000
set_option maxHeartbeats 1000000
theorem zef:Con Tryz.prog 7 [] [] [] (Y:=Unit) (fun y=>True) (fun y=> .bool true) (fun y=>[]) (fun y=>[]):=by
 refine zq Tryz.func7 rfl rfl rfl (fun c=> ?_)
 show RunC _ _ _ _ _ [] [] []
 refine zi<|zc<|r_pv rfl rfl (zd rfl)<|zj<|ze<|zi<|zc<|zza rfl rfl (zV (enc:=fun z:Int=>[.int .i64 z]) (ok:=InK .i64) (h1:=fun _=>rfl) (h2:=fun _=>rfl) (k:=2) Tryz.underlying22 inf3 rfl (by decide) (by decide) (by decide) (.c (x:=1) rfl rfl (fun _ _=>by exact zR.2 (by omega)) (.c (x:=3) rfl rfl (fun _ _=>by exact zR.2 (by omega)) .n))) (fun b1 _=> ?_)
 refine r_pv rfl rfl (zK zr24 rfl Tryz.underlying24 (.c sz3 (.c sz3 (.c sz3 (.c sz22 .n)))) (.c rfl (.c rfl (.c rfl (.c rfl .n)))) (.c rfl rfl rfl (.take .nil) (.c rfl rfl rfl (.skip (.take .nil)) (.c rfl rfl rfl (.skip (.skip (.take .nil))) (.c rfl rfl rfl (.skip (.skip (.skip (.take .nil)))) .n)))))<|zza rfl rfl (zV (enc:=fun z:Int=>[.int .i64 z]) (ok:=InK .i64) (h1:=fun _=>rfl) (h2:=fun _=>rfl) (k:=3) Tryz.underlying22 inf3 rfl (by decide) (by decide) (by decide) (.c (x:=2) rfl rfl (fun _ _=>by exact zR.2 (by omega)) (.c (x:=4) rfl rfl (fun _ _=>by exact zR.2 (by omega)) (.c (x:=3) rfl rfl (fun _ _=>by exact zR.2 (by omega)) .n)))) (fun b2 _=> ?_)
 refine r_pv rfl rfl (zK zr24 rfl Tryz.underlying24 (.c sz3 (.c sz3 (.c sz3 (.c sz22 .n)))) (.c rfl (.c rfl (.c rfl (.c rfl .n)))) (.c rfl rfl rfl (.take .nil) (.c rfl rfl rfl (.skip (.take .nil)) (.c rfl rfl rfl (.skip (.skip (.take .nil))) (.c rfl rfl rfl (.skip (.skip (.skip (.take .nil)))) .n)))))<|zJ rfl rfl (zw zr24 rfl) (fun b3=> ?_)
 refine zJ rfl rfl (zw zr24 rfl) (fun b4=> ?_)
 refine zn 1 rfl rfl rfl rfl rfl sz24 rfl (.take (.take (.take (.take .nil)))) (.s .z)<|zn 0 rfl rfl rfl rfl rfl sz24 rfl (.take (.take (.take (.take .nil)))) .z<|zj<|ze<|zi<|zc<|r_u rfl rfl (zf 1 ty24 rfl rfl (.take (.take (.take (.take .nil)))))<|r_u rfl rfl (zf 0 ty24 rfl rfl (.take (.take (.take (.take .nil)))))<|zna 3 rfl (.s (.s (.s .z)))<|zna 2 rfl (.s (.s .z))<|zy rfl rfl (.c rfl (.c rfl (.c rfl (.c rfl .n)))) ce9 (zdf (wi1:=2) (hi1:=1) (m1:=9) (p1:=some ⟨b1,0,none⟩) (n1:=2) (c1:=2) (l1:=[1,3]) (wi2:=3) (hi2:=1) (m2:=9) (p2:=some ⟨b2,0,none⟩) (n2:=3) (c2:=3) (l2:=[2,4,3]) (ex:=1) (ey:=0) (hn1:=by first|rfl|assumption|omega|decide|(decide +kernel)) (hn2:=by first|rfl|assumption|omega|decide|(decide +kernel))) (.c (j:=1) rfl (.c (j:=0) rfl .n)) ?_
 rintro ⟨w35,w46⟩ hy7
 dsimp only [List.append_eq,List.nil_append,List.cons_append]
 replace hy7:(Cr.sok 2 1 9 ([1,3]) 3 1 9 ([2,4,3]) 1 0)∨(w35=wz∧w46=wz):=hy7
 have e8:((if (Cr.rk2 2 1 9 ([1,3]) 3 1 9 ([2,4,3])) then (if (Cr.pos 2 1 3 1 1 0) then 0 else 15) else 1):Int)=0:=by decide +kernel
 rw [e8]
 have e9:((if (Cr.sok 2 1 9 ([1,3]) 3 1 9 ([2,4,3]) 1 0) then (Cr.scq ([1,3]) ([2,4,3]) 2 1 3 1 0) else 0):Rat)=((-1:Int):Rat):=by decide +kernel
 rw [e9]
 have e10:(decide (Cr.sok 2 1 9 ([1,3]) 3 1 9 ([2,4,3]) 1 0))=true:=by decide +kernel
 rw [e10]
 refine r_pv rfl rfl (za rfl)<|r_pv rfl rfl (zr rfl rfl)<|r_pv rfl rfl (zr rfl rfl)<|zJ rfl rfl (zw zr32 rfl) (fun b11=> ?_)
 refine zn 0 rfl rfl rfl rfl rfl sz32 rfl (.take (.take (.take (.take .nil)))) .z<|r_pv rfl rfl (zd rfl)<|zj<|ze<|zi<|zc<|r_u rfl rfl (zf 2 ty24 rfl rfl (.take (.take (.take (.take .nil)))))<|r_u rfl rfl (zf 1 ty24 rfl rfl (.take (.take (.take (.take .nil)))))<|zy rfl rfl (.c rfl (.c rfl .n)) ce18 (zxf (wi1:=2) (hi1:=1) (m1:=9) (p1:=some ⟨b1,0,none⟩) (n1:=2) (c1:=2) (l1:=[1,3]) (wi2:=3) (hi2:=1) (m2:=9) (p2:=some ⟨b2,0,none⟩) (n2:=3) (c2:=3) (l2:=[2,4,3]) (hn1:=by first|rfl|assumption|omega|decide|(decide +kernel)) (hn2:=by first|rfl|assumption|omega|decide|(decide +kernel))) (.c (j:=2) rfl (.c (j:=1) rfl .n)) ?_
 rintro ⟨w312,w413⟩ hy14
 dsimp only [List.append_eq,List.nil_append,List.cons_append]
 replace hy14:((if (Cr.rk2 2 1 9 ([1,3]) 3 1 9 ([2,4,3])) then Cr.best ([1,3]) ([2,4,3]) 2 1 3 1 else none).isSome=false→w312=wz∧w413=wz)∧Big.hq (Cr.pQ (if (Cr.rk2 2 1 9 ([1,3]) 3 1 9 ([2,4,3])) then Cr.best ([1,3]) ([2,4,3]) 2 1 3 1 else none))≤6:=hy14
 have e15:((if (Cr.rk2 2 1 9 ([1,3]) 3 1 9 ([2,4,3])) then (if (if (Cr.rk2 2 1 9 ([1,3]) 3 1 9 ([2,4,3])) then Cr.best ([1,3]) ([2,4,3]) 2 1 3 1 else none).isSome then 0 else 6) else 1):Int)=0:=by decide +kernel
 rw [e15]
 have e16:((Cr.pX (if (Cr.rk2 2 1 9 ([1,3]) 3 1 9 ([2,4,3])) then Cr.best ([1,3]) ([2,4,3]) 2 1 3 1 else none)):Int)=0:=by decide +kernel
 rw [e16]
 have e17:((Cr.pY (if (Cr.rk2 2 1 9 ([1,3]) 3 1 9 ([2,4,3])) then Cr.best ([1,3]) ([2,4,3]) 2 1 3 1 else none)):Int)=0:=by decide +kernel
 rw [e17]
 have e18:((Cr.pQ (if (Cr.rk2 2 1 9 ([1,3]) 3 1 9 ([2,4,3])) then Cr.best ([1,3]) ([2,4,3]) 2 1 3 1 else none)):Rat)=((1:Int):Rat):=by decide +kernel
 rw [e18]
 have e19:(if (Cr.rk2 2 1 9 ([1,3]) 3 1 9 ([2,4,3])) then Cr.best ([1,3]) ([2,4,3]) 2 1 3 1 else none).isSome=true:=by decide +kernel
 rw [e19]
 refine r_pv rfl rfl (za rfl)<|r_pv rfl rfl (zr rfl rfl)<|r_pv rfl rfl (zr rfl rfl)<|r_pv rfl rfl (zr rfl rfl)<|r_pv rfl rfl (zr rfl rfl)<|zJ rfl rfl (zw zr32 rfl) (fun b20=> ?_)
 refine r_pv rfl rfl (zd rfl)<|r_pv rfl rfl (zd rfl)<|zn 0 rfl rfl rfl rfl rfl sz32 rfl (.take (.take (.take (.take .nil)))) .z<|r_pv rfl rfl (zd rfl)<|zj<|ze<|zi<|zc<|r_u rfl rfl (zf 2 ty24 rfl rfl (.take (.take (.take (.take .nil)))))<|zy rfl rfl (.c rfl .n) ce32 (zQd (wi1:=3) (hi1:=1) (m1:=9) (p1:=some ⟨b2,0,none⟩) (n1:=3) (c1:=3) (l1:=[2,4,3]) (hn1:=by first|rfl|assumption|omega|decide|(decide +kernel))) (.c (j:=2) rfl .n) ?_
 rintro ⟨p321,kq,c322,rq⟩ hsq
 dsimp only [List.append_eq,List.nil_append,List.cons_append]
 replace hsq:rq.length=kq∧(rq=if Bl.rok 3 1 9 ([2,4,3]) then Cr.tab (Cr.sq ([2,4,3])) (Int.toNat 3) (Int.toNat 1+1) else []):=hsq
 have e23:((if Bl.rok 3 1 9 ([2,4,3]) then 0 else 1):Int)=0:=by decide +kernel
 rw [e23]
 have e24:Cr.exT=rq:=by rw [hsq.2];decide +kernel
 subst e24
 have e25:2=kq:=by exact hsq.1
 subst e25
 refine r_pv rfl rfl (za rfl)<|r_pv rfl rfl (zr rfl rfl)<|r_pv rfl rfl (zr rfl rfl)<|r_pv rfl rfl (zd rfl)<|r_pv rfl rfl (zd rfl)<|zj<|ze<|zi<|zea (OW:=[]) (O:=[boxA b20 32 [w312.b,w312.l,w413.b,w413.l],boxA b11 32 [w35.b,w35.l,w46.b,w46.l],boxA b4 24 [.int .i64 3,.int .i64 1,.int .i64 9,.slice (some ⟨b2,0,none⟩) 3 3],boxA b3 24 [.int .i64 2,.int .i64 1,.int .i64 9,.slice (some ⟨b1,0,none⟩) 2 2],emA,emA]) 100000 mixed (.then .ret) (by kernel_rfl)<|d_pv 0 rfl rfl (by kernel_rfl) (by kernel_rfl) rfl rfl (za rfl)<|d_pv 1 rfl rfl (by kernel_rfl) (by kernel_rfl) rfl rfl (zva rfl rfl) ?_
 rw [show true=true from by decide]
 refine d_pv 2 rfl rfl (by kernel_rfl) (by kernel_rfl) rfl rfl (za rfl)<|d_pv 3 rfl rfl (by kernel_rfl) (by kernel_rfl) rfl rfl (za rfl)<|d_pv 4 rfl rfl (by kernel_rfl) (by kernel_rfl) rfl rfl (zva rfl rfl)<|d_pv 5 rfl rfl (by kernel_rfl) (by kernel_rfl) rfl rfl (zm rfl rfl) ?_
 rw [show true=true from by decide]
 refine d_pv 6 rfl rfl (by kernel_rfl) (by kernel_rfl) rfl rfl (za rfl)<|d_pv 7 rfl rfl (by kernel_rfl) (by kernel_rfl) rfl rfl (za rfl)<|d_pv 8 rfl rfl (by kernel_rfl) (by kernel_rfl) rfl rfl (zva rfl rfl)<|d_pv 9 rfl rfl (by kernel_rfl) (by kernel_rfl) rfl rfl (zm rfl rfl) ?_
 rw [show true=true from by decide]
 refine d_pv 10 rfl rfl (by kernel_rfl) (by kernel_rfl) rfl rfl (za rfl)<|d_pv 11 rfl rfl (by kernel_rfl) (by kernel_rfl) rfl rfl (za rfl)<|d_pv 12 rfl rfl (by kernel_rfl) (by kernel_rfl) rfl rfl (zva rfl rfl)<|d_pv 13 rfl rfl (by kernel_rfl) (by kernel_rfl) rfl rfl (zm rfl rfl) ?_
 rw [show true=true from by decide]
 refine d_pv 14 rfl rfl (by kernel_rfl) (by kernel_rfl) rfl rfl (za rfl)<|d_pv 15 rfl rfl (by kernel_rfl) (by kernel_rfl) rfl rfl (za rfl)<|d_pv 16 rfl rfl (by kernel_rfl) (by kernel_rfl) rfl rfl (zva rfl rfl)<|d_pv 17 rfl rfl (by kernel_rfl) (by kernel_rfl) rfl rfl (zm rfl rfl) ?_
 rw [show true=true from by decide]
 refine d_pv 18 rfl rfl (by kernel_rfl) (by kernel_rfl) rfl rfl (za rfl)<|d_u 19 rfl rfl (by kernel_rfl) (by kernel_rfl) rfl rfl (zf 1 ty32 rfl rfl (.take (.take (.take (.take .nil)))))<|zL 20 (by kernel_rfl) (zH rfl rfl rfl rfl (.c rfl .n) ce16 (znb (z:=(-1)) (hz:=by first|rfl|assumption|omega|decide|(decide +kernel))) (.n) ?_)
 rintro ⟨w326,w427⟩ -
 dsimp only [List.append_eq,List.nil_append,List.cons_append]
 refine zL 21 (by kernel_rfl) (zib rfl rfl rfl rfl (.c rfl (.c rfl .n)) ce22 (zKc (u1:=w35) (v1:=w46) (q1:=((-1:Int):Rat)) (u2:=w326) (v2:=w427) (q2:=(((-1):Int):Rat)) (hl:=by first|rfl|assumption|omega|decide|(decide +kernel))) (.c (j:=3) rfl (.c (j:=0) rfl .n)) ?_)
 refine d_pv 22 rfl rfl (by kernel_rfl) (by kernel_rfl) rfl rfl (zm rfl rfl) ?_
 rw [show (decide (((-1:Int):Rat)=(((-1):Int):Rat)))=true from by decide +kernel]
 refine d_pv 23 rfl rfl (by kernel_rfl) (by kernel_rfl) rfl rfl (za rfl)<|d_u 24 rfl rfl (by kernel_rfl) (by kernel_rfl) rfl rfl (zf 0 ty32 rfl rfl (.take (.take (.take (.take .nil)))))<|zL 25 (by kernel_rfl) (zH rfl rfl rfl rfl (.c rfl .n) ce16 (znb (z:=1) (hz:=by first|rfl|assumption|omega|decide|(decide +kernel))) (.n) ?_)
 rintro ⟨w328,w429⟩ -
 dsimp only [List.append_eq,List.nil_append,List.cons_append]
 refine zL 26 (by kernel_rfl) (zib rfl rfl rfl rfl (.c rfl (.c rfl .n)) ce22 (zKc (u1:=w312) (v1:=w413) (q1:=((1:Int):Rat)) (u2:=w328) (v2:=w429) (q2:=((1:Int):Rat)) (hl:=by first|rfl|assumption|omega|decide|(decide +kernel))) (.c (j:=3) rfl (.c (j:=0) rfl .n)) ?_)
 refine d_pv 27 rfl rfl (by kernel_rfl) (by kernel_rfl) rfl rfl (zm rfl rfl) ?_
 rw [show (decide (((1:Int):Rat)=((1:Int):Rat)))=true from by decide +kernel]
 refine d_pv 28 rfl rfl (by kernel_rfl) (by kernel_rfl) rfl rfl (za rfl)<|d_pv 29 rfl rfl (by kernel_rfl) (by kernel_rfl) rfl rfl (za rfl)<|d_pv 30 rfl rfl (by kernel_rfl) (by kernel_rfl) rfl rfl (zM Tryz.underlying73 rfl)<|d_pv 31 rfl rfl (by kernel_rfl) (by kernel_rfl) rfl rfl (zva rfl rfl)<|d_pv 32 rfl rfl (by kernel_rfl) (by kernel_rfl) rfl rfl (zm rfl rfl) ?_
 rw [show (decide (((2:Nat):Int)=2))=true from by decide]
 refine d_pv 33 rfl rfl (by kernel_rfl) (by kernel_rfl) rfl rfl (za rfl)<|d_pv 34 rfl rfl (by kernel_rfl) (by kernel_rfl) rfl rfl (za rfl)<|d_vl 35 rfl rfl (by kernel_rfl) (by kernel_rfl) rfl rfl (zqb (x0:=(Cr.exT.getD 1 [])) 2 1 rfl Tryz.underlying73 sz22 rfl (by first|rfl|assumption|(simp_all;done)|omega) rfl rfl (gD (d:=[]) (by first|omega|decide))) ?_
 rintro ⟨b30,o31,p32,c33⟩ -
 dsimp only [List.append_eq,List.nil_append,List.cons_append]
 refine d_u 36 rfl rfl (by kernel_rfl) (by kernel_rfl) rfl rfl (zk (j:=0) 0 ty22 rfl rfl rfl rfl)<|zL 37 (by kernel_rfl) (zbd rfl rfl rfl rfl (zV (enc:=fun z:Int=>[.int .i64 z]) (ok:=InK .i64) (h1:=fun _=>rfl) (h2:=fun _=>rfl) (k:=4) Tryz.underlying22 inf3 rfl (by decide) (by decide) (by decide) (.c (x:=0) rfl rfl (fun _ _=>by exact zR.2 (by omega)) (.c (x:=4) rfl rfl (fun _ _=>by exact zR.2 (by omega)) (.c (x:=20) rfl rfl (fun _ _=>by exact zR.2 (by omega)) (.c (x:=29) rfl rfl (fun _ _=>by exact zR.2 (by omega)) .n))))) (fun b34 _=> ?_))
 refine zOc 0 rfl .z<|zL 38 (by kernel_rfl) (zib rfl rfl rfl rfl (.c rfl (.c rfl .n)) ce33 (zKe (p1:=p32) (n1:=(Cr.exT.getD 1 []).length) (c1:=c33) (l1:=(Cr.exT.getD 1 [])) (p2:=some ⟨b34,0,none⟩) (n2:=4) (c2:=4) (l2:=[0,4,20,29]) (hn1:=by first|rfl|assumption|omega|decide|(decide +kernel)) (hn2:=by first|rfl|assumption|omega|decide|(decide +kernel))) (.c (j:=2) rfl (.c (j:=0) rfl .n)) ?_)
 refine d_pv 39 rfl rfl (by kernel_rfl) (by kernel_rfl) rfl rfl (zm rfl rfl) ?_
 rw [show (decide ((Cr.exT.getD 1 [])=([0,4,20,29])))=true from by decide +kernel]
 refine d_pv 40 rfl rfl (by kernel_rfl) (by kernel_rfl) rfl rfl (zd rfl)<|zba (by kernel_rfl)<|ze<|zI ?_
 exact zE Tryz.results7 () trivial (zo rfl) rfl (ho:=(.n:PickO _ _ _)) (.n:SelR _ _ _)
end Go.Proofs.YtkamccndgblheaaGreat.Sp
namespace Go.Proofs.YtkamccndgblheaaGreat.Sp
open Go
set_option linter.unusedVariables false
set_option maxRecDepth 100000
set_option maxHeartbeats 1000000
theorem zSf {w2:Nat} {vh2:Nat} {m2:Int} {p2:Option Addr} {n2:Nat} {c2:Nat} {l2:List Int} {xx:Nat} {yy:Nat} {pw:Nat} {ph:Nat} (hn2:l2.length=n2) (hw2:1≤w2∧w2≤64) (hh2:1≤vh2∧vh2≤64) (hwh2:n2=w2*vh2) (hb2:n2≤4096) (hg2:∀i,i<n2→0≤l2.getD i 0∧l2.getD i 0≤65535) (hx:xx+pw≤w2) (hy:yy+ph≤vh2):Con Tryz.prog 60 [.agg #[.int .i64 ((w2:Nat):Int),.int .i64 ((vh2:Nat):Int),.int .i64 m2,.slice p2 n2 c2],.int .i64 ((xx:Nat):Int),.int .i64 ((yy:Nat):Int),.int .i64 ((pw:Nat):Int),.int .i64 ((ph:Nat):Int)] [] [slF (rI .i64) p2 c2 l2] (Y:=(Option Addr)×Nat) (fun y=>True) (fun y=> .agg #[.int .i64 ((pw:Nat):Int),.int .i64 ((ph:Nat):Int),.int .i64 m2,.slice (y.1) (pw*ph) (y.2)]) (fun y=>[]) (fun y=>[slF (rI .i64) (y.1) (y.2) (Cr.cutL l2 w2 yy xx pw ph)]):=by
 refine zq Tryz.func60 rfl rfl rfl (fun c=> ?_)
 show RunC _ _ _ _ _ [(0,.agg #[.int .i64 ((w2:Nat):Int),.int .i64 ((vh2:Nat):Int),.int .i64 m2,.slice p2 n2 c2]),(1,.int .i64 ((xx:Nat):Int)),(2,.int .i64 ((yy:Nat):Int)),(3,.int .i64 ((pw:Nat):Int)),(4,.int .i64 ((ph:Nat):Int))] [] [slF (rI .i64) p2 c2 l2]
 refine zY 0 rfl (fun hL0=> ?_)
 refine zi<|zc<|zJ rfl rfl (zQ rfl rfl) (fun b1=> ?_)
 refine zJ rfl rfl (zw zr24 rfl) (fun b2=> ?_)
 refine zj<|ze<|zi<|zc<|r_pv rfl rfl (za rfl)<|r_pv rfl rfl (za rfl)<|r_pv rfl rfl (zg Tryz.underlying24 rfl sz3 rfl rfl)<|r_u rfl rfl (zh 1 ty3 rfl rfl rfl)<|r_pv rfl rfl (zK zr24 rfl Tryz.underlying24 (.c sz3 (.c sz3 (.c sz3 (.c sz22 .n)))) (.c rfl (.c rfl (.c rfl .n))) (.c rfl rfl rfl (.take .nil) (.c rfl rfl rfl (.skip (.take .nil)) (.c rfl rfl rfl (.skip (.skip (.take .nil))) .n))))<|zJ rfl rfl (zw zr24 rfl) (fun b3=> ?_)
 refine zn 0 rfl rfl rfl rfl rfl sz24 rfl (.take (.take (.take (.take .nil)))) .z<|zj<|ze<|zi<|zi<|zZd 3 (rI .i64)<|zc<|r_pv rfl rfl (za rfl)<|r_pv rfl rfl (za rfl)<|zj<|ze<|zA<|zka (X:=Nat×(Option Addr)×Nat) (fun x:Nat×(Option Addr)×Nat=>x.1≤ph) (fun x=>[(19,.int .i64 ((x.1:Nat):Int)),(18,.int .i64 ((ph:Nat):Int)),(11,.pointer (some ⟨b3,0,none⟩)),(10,.pointer (some ⟨b2,0,none⟩)),(5,.pointer (some ⟨b1,0,none⟩)),(1,.int .i64 ((xx:Nat):Int)),(2,.int .i64 ((yy:Nat):Int)),(3,.int .i64 ((pw:Nat):Int))]) (fun x=>[rowA 3 (rI .i64) (x.2.1) (x.2.2) (Cr.cutL l2 w2 yy xx pw x.1),boxA b3 24 [.int .i64 ((pw:Nat):Int),.int .i64 ((ph:Nat):Int),.int .i64 m2,.slice (x.2.1) (pw*x.1) (x.2.2)],boxA b2 24 [.int .i64 0,.int .i64 0,.int .i64 0,.slice none 0 0],boxA b1 24 [.int .i64 ((w2:Nat):Int),.int .i64 ((vh2:Nat):Int),.int .i64 m2,.slice p2 n2 c2]]) (fun x=>[slF (rI .i64) p2 c2 l2]) (fun x:Nat×(Option Addr)×Nat=>ph - x.1) (0,none,0) (show 0≤ph from by exact Nat.zero_le _) ((.e rfl (by first|rfl|(congr 1;omega)|simp_all) (.of rfl)):SubM _ _) (ho:=((.e (i:=0) rfl (by first|rfl|(congr 1;omega)|simp_all) (.e (i:=0) rfl (by first|rfl|(congr 1;omega)|simp_all) (.of [0,0] rfl))):PickO _ _ _)) ((.c (j:=0) rfl .n):SelR _ _ _) ?_
 rintro ⟨jj,pr,cr⟩ hI
 replace hI:jj≤ph:=hI
 try dsimp only
 refine zi<|zc<|r_pv rfl rfl (zda rfl rfl)<|zj<|ze<|zi<|zG rfl (fun h4=> ?_) (fun h4=> ?_)
 ·
  have hcl:=Cr.cutL_len hn2 hwh2 hx hy (show jj≤ph by omega)
  have hri:=Cr.row_in hn2 hwh2 hx hy (show jj<ph by omega)
  have hyw:(yy+jj)*w2≤64*64:=Nat.mul_le_mul (by omega) hw2.2
  have hpj:pw*jj≤64*64:=Nat.mul_le_mul (by omega) (by omega)
  refine zB<|ze<|zi<|zA<|zi<|zc<|r_pv rfl rfl (za rfl)<|r_pv rfl rfl (zd rfl)<|zj<|ze<|zea (OW:=[rowA 3 (rI .i64) pr cr (Cr.cutL l2 w2 yy xx pw jj),boxA b3 24 [.int .i64 ((pw:Nat):Int),.int .i64 ((ph:Nat):Int),.int .i64 m2,.slice pr (pw*jj) cr]]) (O:=[boxA b2 24 [.int .i64 0,.int .i64 0,.int .i64 0,.slice none 0 0],boxA b1 24 [.int .i64 ((w2:Nat):Int),.int .i64 ((vh2:Nat):Int),.int .i64 m2,.slice p2 n2 c2]]) 23 mixed (.block (.then (.then (.block (.then .ret))))) (by kernel_rfl)<|d_pv 0 rfl rfl (by kernel_rfl) (by kernel_rfl) rfl rfl (zg Tryz.underlying24 rfl sz22 rfl rfl)<|d_uw 1 rfl rfl (by kernel_rfl) (by kernel_rfl) (by kernel_rfl) rfl rfl (zh 1 ty22 rfl rfl rfl)<|d_pv 2 rfl rfl (by kernel_rfl) (by kernel_rfl) rfl rfl (zg Tryz.underlying24 rfl sz22 rfl rfl)<|d_uw 3 rfl rfl (by kernel_rfl) (by kernel_rfl) (by kernel_rfl) rfl rfl (zh 3 ty22 rfl rfl rfl)<|d_pv 4 rfl rfl (by kernel_rfl) (by kernel_rfl) rfl rfl (za rfl)<|d_pv 5 rfl rfl (by kernel_rfl) (by kernel_rfl) rfl rfl (za rfl)<|d_pv 6 rfl rfl (by kernel_rfl) (by kernel_rfl) rfl rfl (zx (z:=(((yy+jj):Nat):Int)) rfl rfl (w64 (by omega)))<|d_pv 7 rfl rfl (by kernel_rfl) (by kernel_rfl) rfl rfl (zg Tryz.underlying24 rfl sz3 rfl rfl)<|d_uw 8 rfl rfl (by kernel_rfl) (by kernel_rfl) (by kernel_rfl) rfl rfl (zh 3 ty3 rfl rfl rfl)<|d_pv 9 rfl rfl (by kernel_rfl) (by kernel_rfl) rfl rfl (zpa (z:=((((yy+jj)*w2):Nat):Int)) rfl rfl (w64 (by omega)))<|d_pv 10 rfl rfl (by kernel_rfl) (by kernel_rfl) rfl rfl (za rfl)<|d_pv 11 rfl rfl (by kernel_rfl) (by kernel_rfl) rfl rfl (zx (z:=(((((yy+jj)*w2)+xx):Nat):Int)) rfl rfl (w64 (by omega)))<|d_pv 12 rfl rfl (by kernel_rfl) (by kernel_rfl) rfl rfl (za rfl)<|d_pv 13 rfl rfl (by kernel_rfl) (by kernel_rfl) rfl rfl (za rfl)<|d_pv 14 rfl rfl (by kernel_rfl) (by kernel_rfl) rfl rfl (zx (z:=(((yy+jj):Nat):Int)) rfl rfl (w64 (by omega)))<|d_pv 15 rfl rfl (by kernel_rfl) (by kernel_rfl) rfl rfl (zg Tryz.underlying24 rfl sz3 rfl rfl)<|d_uw 16 rfl rfl (by kernel_rfl) (by kernel_rfl) (by kernel_rfl) rfl rfl (zh 3 ty3 rfl rfl rfl)<|d_pv 17 rfl rfl (by kernel_rfl) (by kernel_rfl) rfl rfl (zpa (z:=((((yy+jj)*w2):Nat):Int)) rfl rfl (w64 (by omega)))<|d_pv 18 rfl rfl (by kernel_rfl) (by kernel_rfl) rfl rfl (za rfl)<|d_pv 19 rfl rfl (by kernel_rfl) (by kernel_rfl) rfl rfl (zx (z:=(((((yy+jj)*w2)+xx):Nat):Int)) rfl rfl (w64 (by omega)))<|d_pv 20 rfl rfl (by kernel_rfl) (by kernel_rfl) rfl rfl (za rfl)<|d_pv 21 rfl rfl (by kernel_rfl) (by kernel_rfl) rfl rfl (zx (z:=((((((yy+jj)*w2)+xx)+pw):Nat):Int)) rfl rfl (w64 (by omega)))<|d_pv 22 rfl rfl (by kernel_rfl) (by kernel_rfl) rfl rfl (zNc (lo:=(((yy+jj)*w2)+xx)) (hi:=((((yy+jj)*w2)+xx)+pw)) Tryz.underlying22 sz3 rfl (.s rfl) (.s rfl) (.inr ⟨_,rfl⟩) (.inr ⟨_,rfl⟩) (by omega) (by omega)) ?_
  refine zxb (zXd 0 rfl (((yy+jj)*w2)+xx) ((((yy+jj)*w2)+xx)+pw) (by omega) (by omega)) (fun _ _=> ?_)
  refine zL 23 (by kernel_rfl) (zBd (A':=fun v:Option Addr×Nat=>rowA 3 (rI .i64) v.1 v.2 ((Cr.cutL l2 w2 yy xx pw jj)++((l2.take ((((yy+jj)*w2)+xx)+pw)).drop (((yy+jj)*w2)+xx)))) (by kernel_rfl) rfl rfl rfl (zxa 0 rfl Tryz.underlying22 inf3 (by decide) rfl rfl (by first|rfl|assumption|exact hcl|(rw [hcl];done)|(simp_all;done)|omega) rfl (by first|rfl|assumption|exact hcl|(rw [hcl];done)|(simp_all;done)|omega) (by omega) (by omega)) ?_)
  rintro ⟨p5,c6⟩ -
  dsimp only [List.append_eq,List.nil_append,List.cons_append]
  refine d_pv 24 rfl rfl (by kernel_rfl) (by kernel_rfl) rfl rfl (zg Tryz.underlying24 rfl sz22 rfl rfl)<|zJa (zma (i:=1) rfl)<|zL 25 (by kernel_rfl) (zD (by kernel_rfl) rfl rfl rfl rfl rfl sz22 rfl (.skip (.skip (.skip (.take .nil)))) ?_)
  refine zba (by kernel_rfl)<|zT<|ze<|zc<|r_pv rfl rfl (zx (z:=(((jj+1):Nat):Int)) rfl rfl (w64 (by omega)))<|r_pv rfl rfl (za rfl)<|zj ?_
  have e7:((Cr.cutL l2 w2 yy xx pw jj)++((l2.take ((((yy+jj)*w2)+xx)+pw)).drop (((yy+jj)*w2)+xx)))=(Cr.cutL l2 w2 yy xx pw (jj+1)):=by rfl
  rw [e7]
  have e8:(pw*jj)+(((((yy+jj)*w2)+xx)+pw) - (((yy+jj)*w2)+xx))=(pw*(jj+1)):=by rw [Nat.mul_add,Nat.mul_one];omega
  rw [e8]
  refine zha ((jj+1),p5,c6) (show (jj+1)≤ph from by omega) (by show ph - (jj+1)<ph - jj;omega) ((.of rfl):SubM _ _) (ho:=((.of [1,0,0,0] rfl):PickO _ _ _)) ((.c (j:=1) rfl .n):SelR _ _ _)
 ·
  refine zja<|zl<|zl<|zu<|ze<|zi<|zc<|r_u rfl rfl (zf 1 ty24 rfl rfl (.take (.take (.take (.take .nil)))))<|zn 2 rfl rfl rfl rfl rfl sz24 rfl (.take (.take (.take (.take .nil)))) (.s (.s .z))<|zj<|ze<|zI ?_
  have hj9:jj=ph:=by omega
  refine zta 0 rfl .z ?_
  exact zE Tryz.results60 (pr,cr) trivial (zt 2 ty24 rfl rfl (.take (.take (.take (.take .nil))))) (by rw [hj9]) (ho:=(.n:PickO _ _ _)) ((.e (j:=0) rfl (by rw [hj9]) .n):SelR _ _ _)
theorem zyf {w2:Nat} {vh2:Nat} {m2:Int} {p2:Option Addr} {n2:Nat} {c2:Nat} {l2:List Int} {ex:Int} {ey:Int} {pw:Nat} {ph:Nat} (hn2:l2.length=n2) (hw2:1≤w2∧w2≤64) (hh2:1≤vh2∧vh2≤64) (hwh2:n2=w2*vh2) (hb2:n2≤4096) (hg2:∀i,i<n2→0≤l2.getD i 0∧l2.getD i 0≤65535) (hx:0≤ex∧ex+pw≤w2) (hy:0≤ey∧ey+ph≤vh2):Con Tryz.prog 60 [.agg #[.int .i64 (((w2:Nat):Int)),.int .i64 (((vh2:Nat):Int)),.int .i64 (m2),.slice (p2) (n2) (c2)],.int .i64 (ex),.int .i64 (ey),.int .i64 (((pw:Nat):Int)),.int .i64 (((ph:Nat):Int))] [] [slF (rI .i64) (p2) (c2) (l2)] (Y:=(Option Addr)×(Nat)) (fun y=>True) (fun y=> .agg #[.int .i64 (((pw:Nat):Int)),.int .i64 (((ph:Nat):Int)),.int .i64 (m2),.slice (y.1) ((pw*ph)) (y.2)]) (fun y=>[]) (fun y=>[slF (rI .i64) (y.1) (y.2) ((Cr.cutL l2 w2 ey.toNat ex.toNat pw ph))]):=by
  obtain ⟨xx,rfl⟩:=Int.eq_ofNat_of_zero_le hx.1
  obtain ⟨yy,rfl⟩:=Int.eq_ofNat_of_zero_le hy.1
  exact zSf hn2 hw2 hh2 hwh2 hb2 hg2 (by omega) (by omega)
end Go.Proofs.YtkamccndgblheaaGreat.Sp
namespace Go.Proofs.YtkamccndgblheaaGreat.Cr
theorem wn_at {l:List Int} {w y x pw j i:Nat} (h:i<pw):wn l w y x pw (j*pw+i)=l.getD ((y+j)*w+x+i) 0:=by
  have hp:0<pw:=by omega
  have e1:(j*pw+i) / pw=j:=by rw [Nat.mul_comm,Nat.mul_add_div hp,Nat.div_eq_of_lt h,Nat.add_zero]
  have e2:(j*pw+i)%pw=i:=by rw [Nat.mul_comm,Nat.mul_add_mod,Nat.mod_eq_of_lt h]
  unfold wn px;rw [e1,e2,Nat.add_assoc]
theorem smp {f:Nat→Int} {n k:Nat} (hf:∀i,i<n→0≤f i∧f i≤65535) (hn:n≤4096) (hk:k≤n):0≤sumN f k∧sumN f k≤268431360:=by
  have:=sumN_le (f:=f) (n:=k) (B:=65535) fun j hj=>hf j (by omega)
  omega
theorem smq {f:Nat→Int} {n k:Nat} (hf:∀i,i<n→0≤f i∧f i≤4294836225) (hn:n≤4096) (hk:k≤n):0≤sumN f k∧sumN f k≤17591649177600:=by
  have:=sumN_le (f:=f) (n:=k) (B:=4294836225) fun j hj=>hf j (by omega)
  omega
section
variable {l1 l2 : List Int} {w1 h1 n1 w2 h2 n2 yy xx : Nat} (hg1 : ∀ i, i < n1 → 0 ≤ l1.getD i 0 ∧ l1.getD i 0 ≤ 65535) (hg2 : ∀ i, i < n2 → 0 ≤ l2.getD i 0 ∧ l2.getD i 0 ≤ 65535) (h1n : n1 = w1 * h1) (h2n : n2 = w2 * h2) (hw : 1 ≤ w1) (hx : xx + w1 ≤ w2) (hy : yy + h1 ≤ h2)
theorem win_in (h2n:n2=w2*h2) (hx:xx+w1≤w2) (hy:yy+h1≤h2) {j i:Nat} (hj:j<h1) (hi:i<w1):(yy+j)*w2+xx+i<n2:=by
  rw [Nat.add_assoc,h2n];exact at_lt (by omega) (by omega)
include hg2 h1n h2n hw hx hy in
theorem wn_b:∀k,k<n1→0≤wn l2 w2 yy xx w1 k∧wn l2 w2 yy xx w1 k≤65535:=fun k hk=>by
  have a:=Nat.div_lt_of_lt_mul (show k<w1*h1 by omega)
  have b:=Nat.mod_lt k (show w1>0 by omega)
  exact hg2 _ (by rw [← Nat.add_assoc];exact win_in h2n hx hy a b)
include hg2 h1n h2n hw hx hy in
theorem wn_q:∀k,k<n1→0≤wn l2 w2 yy xx w1 k*wn l2 w2 yy xx w1 k∧wn l2 w2 yy xx w1 k*wn l2 w2 yy xx w1 k≤4294836225:=fun k hk=>
  sq_b (wn_b hg2 h1n h2n hw hx hy k hk)
include hg1 hg2 h1n h2n hw hx hy in
theorem wn_c:∀k,k<n1→0≤px l1 k*wn l2 w2 yy xx w1 k∧px l1 k*wn l2 w2 yy xx w1 k≤4294836225:=fun k hk=>
  mul_g (hg1 k hk) (wn_b hg2 h1n h2n hw hx hy k hk)
end
section
variable {l1 l2 : List Int} {w1 h1 n1 w2 yy xx : Nat}
def lva (l1:List Int) (n1:Nat):Int:=((n1:Nat):Int)*sumN (sq l1) n1 - sumN (px l1) n1*sumN (px l1) n1
def lvb (l2:List Int) (w1 n1 w2 yy xx:Nat):Int:=((n1:Nat):Int)*sumN (fun k=>wn l2 w2 yy xx w1 k*wn l2 w2 yy xx w1 k) n1 - sumN (wn l2 w2 yy xx w1) n1*sumN (wn l2 w2 yy xx w1) n1
def lcc (l1 l2:List Int) (w1 n1 w2 yy xx:Nat):Int:=((n1:Nat):Int)*sumN (fun k=>px l1 k*wn l2 w2 yy xx w1 k) n1 - sumN (px l1) n1*sumN (wn l2 w2 yy xx w1) n1
theorem scr_ref (h1n:n1=w1*h1) (hw:1≤w1):scr l1 l2 w1 h1 n1 w2 yy xx=sc (lcc l1 l2 w1 n1 w2 yy xx) (lva l1 n1) (lvb l2 w1 n1 w2 yy xx):=by
  unfold scr;rw [vb_is h1n hw,cc_is h1n hw];rfl
theorem scr_ref0 (h1n:n1=w1*h1) (hw:1≤w1) (h:lva l1 n1=0∨lvb l2 w1 n1 w2 yy xx=0):(((0:Int)):Rat)=scr l1 l2 w1 h1 n1 w2 yy xx:=by
  rw [scr_ref h1n hw];unfold sc;rw [if_pos h];rfl
theorem scr_ref1 (h1n:n1=w1*h1) (hw:1≤w1) (h:¬(lva l1 n1=0∨lvb l2 w1 n1 w2 yy xx=0)):Rat.divInt (lcc l1 l2 w1 n1 w2 yy xx) (lva l1 n1)*Rat.divInt (max (lcc l1 l2 w1 n1 w2 yy xx) (-(lcc l1 l2 w1 n1 w2 yy xx))) (lvb l2 w1 n1 w2 yy xx)=scr l1 l2 w1 h1 n1 w2 yy xx:=by
  rw [scr_ref h1n hw];exact sc_ref (fun e=>h (.inl e)) (fun e=>h (.inr e))
end
theorem hqd {a b:Int} (ha:I64 a) (hb:I64 b) (h:b≠0):Big.hq (Rat.divInt a b)≤6:=by
  have:=Big.zhd ha.1 ha.2;have:=Big.zhd hb.1 hb.2
  have:=Big.hq_divInt (n:=a) (d:=b) h
  omega
theorem hqd2 {a b c d:Int} (ha:I64 a) (hb:I64 b) (h:b≠0) (hc:I64 c) (hd:I64 d) (k:d≠0):Big.hq (Rat.divInt a b)+Big.hq (Rat.divInt c d)+1≤1048576:=by
  have:=hqd ha hb h;have:=hqd hc hd k;omega
end Go.Proofs.YtkamccndgblheaaGreat.Cr
namespace Go.Proofs.YtkamccndgblheaaGreat.Cr
def tp (l:List Rat):Nat→Nat
  |0=>0
  |k+1=>if l.getD (tp l k) 0<l.getD k 0 then k else tp l k
section
variable (l : List Rat) (W : Nat) {k : Nat} (h : 0 < k)
include h
end
end Go.Proofs.YtkamccndgblheaaGreat.Cr
namespace Go.Proofs.YtkamccndgblheaaGreat.Cr
def pkd (l m r:Rat):Prop:=m<l∨m<r∨(l=m∧r=m)
instance (l m r:Rat):Decidable (pkd l m r):=inferInstanceAs (Decidable (_∨_))
theorem sgq_sub {a b:Rat}:0<Big.sgq (a - b)↔b<a:=by rw [Big.sgq_pos];exact sub_pos
theorem scq_int {l1 l2:List Int} {w1 h1 n1 w2:Nat} {x y:Int} (hn:l1.length=n1):scr l1 l2 w1 h1 n1 w2 y.toNat x.toNat=scq l1 l2 w1 h1 w2 x y:=by subst hn;rfl
theorem scq_hq {l1 l2:List Int} {w1 h1 n1 w2 h2 n2:Nat} {x y:Int} (hg1:∀i,i<n1→0≤l1.getD i 0∧l1.getD i 0≤65535) (hg2:∀i,i<n2→0≤l2.getD i 0∧l2.getD i 0≤65535) (hw:1≤w1∧w1≤64) (hh:1≤h1∧h1≤64) (h1n:n1=w1*h1) (h2n:n2=w2*h2) (hb:n1≤4096) (hn:l1.length=n1) (hp:pos w1 h1 w2 h2 x y):Big.hq (scq l1 l2 w1 h1 w2 x y)≤6:=by
  have:=hp.2.2.1;have:=hp.2.2.2;have:=hp.1;have:=hp.2.1
  rw [← scq_int hn];exact scr_hq hg1 hg2 hw hh h1n h2n hb (by omega) (by omega)
def ps4 (w1 h1 w2 h2 x y:Int):Prop:=pos w1 h1 w2 h2 (x - 1) y∧pos w1 h1 w2 h2 (x+1) y∧pos w1 h1 w2 h2 x (y - 1)∧pos w1 h1 w2 h2 x (y+1)
instance (w1 h1 w2 h2 x y:Int):Decidable (ps4 w1 h1 w2 h2 x y):=inferInstanceAs (Decidable (_∧_))
def dgX (l1 l2:List Int) (w1 h1 w2 x y:Int):Prop:=pkd (scq l1 l2 w1 h1 w2 (x - 1) y) (scq l1 l2 w1 h1 w2 x y) (scq l1 l2 w1 h1 w2 (x+1) y)
def dgY (l1 l2:List Int) (w1 h1 w2 x y:Int):Prop:=pkd (scq l1 l2 w1 h1 w2 x (y - 1)) (scq l1 l2 w1 h1 w2 x y) (scq l1 l2 w1 h1 w2 x (y+1))
instance (l1 l2:List Int) (w1 h1 w2 x y:Int):Decidable (dgX l1 l2 w1 h1 w2 x y):=inferInstanceAs (Decidable (pkd _ _ _))
instance (l1 l2:List Int) (w1 h1 w2 x y:Int):Decidable (dgY l1 l2 w1 h1 w2 x y):=inferInstanceAs (Decidable (pkd _ _ _))
def dg (l1 l2:List Int) (w1 h1 w2 x y:Int):Prop:=dgX l1 l2 w1 h1 w2 x y∨dgY l1 l2 w1 h1 w2 x y
instance (l1 l2:List Int) (w1 h1 w2 x y:Int):Decidable (dg l1 l2 w1 h1 w2 x y):=inferInstanceAs (Decidable (_∨_))
end Go.Proofs.YtkamccndgblheaaGreat.Cr
namespace Go.Proofs.YtkamccndgblheaaGreat.Cr
def gI (f:Nat→Int):Nat→List Int
  |0=>[]
  |k+1=>gI f k++[f k]
theorem gI_len (f:Nat→Int) (k:Nat):(gI f k).length=k:=by
  induction k with
  |zero=>rfl
  |succ k ih=>rw [gI,List.length_append,ih];rfl
theorem gI_at (f:Nat→Int) {k i:Nat} (h:i<k):(gI f k).getD i 0=f i:=by
  induction k with
  |zero=>omega
  |succ k ih=>
    have hl:=gI_len f k
    by_cases e:i=k
    · subst e;rw [gI,List.getD_eq_getElem?_getD,List.getElem?_append_right (by omega),hl];simp
    · rw [← ih (by omega),gI,List.getD_eq_getElem?_getD,List.getElem?_append_left (by omega),←List.getD_eq_getElem?_getD]
theorem wn_at2 {l:List Int} {w y x pw j i:Nat} (h:i<pw):wn l w y x pw (j*pw+i)=px l ((y+j)*w+(x+i)):=by
  rw [wn_at h,Nat.add_assoc];rfl
theorem gI_cut {l:List Int} {w h n y x pw ph:Nat} (hn:l.length=n) (hwh:n=w*h) (hx:x+pw≤w) (hy:y+ph≤h) (hp:0<pw):gI (wn l w y x pw) (pw*ph)=cutL l w y x pw ph:=by
  have hc:=cutL_len hn hwh hx hy (Nat.le_refl ph)
  refine Big.ext_getD (by rw [gI_len,hc]) fun i hi=> ?_
  rw [gI_len] at hi
  rw [gI_at _ hi];exact (cutL_at hn hwh hx hy hp hi).symm
theorem cut_all {l:List Int} {w h n y x pw ph:Nat} {m:Int} (k:Bl.rok (w:Int) h m l) (hn:l.length=n) (hwh:n=w*h) (hx:x+pw≤w) (hy:y+ph≤h) (hp:1≤pw) (hq:1≤ph):
    (cutL l w y x pw ph).length=pw*ph∧(1≤pw∧pw≤64)∧(1≤ph∧ph≤64)∧pw*ph≤4096∧(∀i,i<pw*ph→0≤(cutL l w y x pw ph).getD i 0∧(cutL l w y x pw ph).getD i 0≤65535):=by
  have hc:=cutL_len hn hwh hx hy (Nat.le_refl ph)
  have hk:=rok_cut k hn hwh hx hy hp hq
  obtain ⟨u,v,e1,e2,a,b,e,f,g⟩:=rokN hk hc
  have e1':pw=u:=by omega
  have e2':ph=v:=by omega
  subst e1';subst e2'
  exact ⟨hc,a,b,f,g⟩
def srk (sz rc:Int):Prop:=1≤sz∧sz≤64∧0≤rc∧rc≤64
instance (sz rc:Int):Decidable (srk sz rc):=inferInstanceAs (Decidable (_∧_))
theorem srk_not {sz rc:Int}:¬srk sz rc↔(((sz<1∨64<sz)∨rc<0)∨64<rc):=by unfold srk;omega
def bad (w h sz:Int) (p:Int×Int):Prop:=((p.1<0∨p.2<0)∨w - sz<p.1)∨h - sz<p.2
instance (w h sz:Int) (p:Int×Int):Decidable (bad w h sz p):=inferInstanceAs (Decidable (_∨_))
def outp (w h sz:Int) (la:List (Int×Int)):Prop:=∃p∈la,bad w h sz p
instance (w h sz:Int) (la:List (Int×Int)):Decidable (outp w h sz la):=inferInstanceAs (Decidable (∃p∈la,_))
theorem outp_no {w h sz:Int} {la:List (Int×Int)} {n:Nat} (hl:la.length=n) (k:∀j,j<n→¬bad w h sz (la.getD j (0,0))):¬outp w h sz la:=by
  rintro ⟨p,hp,hb⟩
  obtain ⟨i,hi,e⟩:=mem_getDG (d:=((0,0):Int×Int)) hp
  exact k i (by omega) (by rw [e];exact hb)
theorem outp_yes {w h sz:Int} {la:List (Int×Int)} {i:Nat} (hi:i<la.length) (k:bad w h sz (la.getD i (0,0))):outp w h sz la:=⟨_,getD_memG hi,k⟩
theorem not_bad {w h sz:Int} {la:List (Int×Int)} {i:Nat} (hi:i<la.length) (k:¬outp w h sz la):¬bad w h sz (la.getD i (0,0)):=fun b=>k (outp_yes hi b)
def shA (l1 l2:List Int) (w1 w2 h2 sz rc:Nat) (p:Int×Int):Pk:=
  allP (pat (cutL l1 w1 p.2.toNat p.1.toNat sz sz) l2 sz sz w2 h2) (p.1 - rc) (p.2 - rc) (2*rc+1) (2*rc+1)
def shOk (le:Rat) (A:Pk):Prop:=A.isSome=true∧¬pQ A<le
instance (le:Rat) (A:Pk):Decidable (shOk le A):=inferInstanceAs (Decidable (_∧_))
def shP (le:Rat) (p:Int×Int) (A:Pk):Int×Int:=if shOk le A then (pX A - p.1,pY A - p.2) else (0,0)
def shF (le:Rat) (A:Pk):Bool:=decide (shOk le A)
def fil {α β:Type} (f:α→β) (d:β) (a0:α) (l:List α) (k:Nat):List β:=(List.range l.length).map (fun i=>if i<k then f (l.getD i a0) else d)
theorem fil_len {α β:Type} (f:α→β) (d:β) (a0:α) (l:List α) (k:Nat):(fil f d a0 l k).length=l.length:=by simp [fil]
theorem fil_zero {α β:Type} (f:α→β) (d:β) (a0:α) (l:List α) {n:Nat} (hn:l.length=n):fil f d a0 l 0=List.replicate n d:=by
  subst hn;refine List.ext_getElem (by simp [fil]) fun i h1 h2=> ?_
  simp [fil]
theorem fil_set {α β:Type} (f:α→β) (d:β) (a0:α) (l:List α) {k:Nat} {z:β} (hz:z=f (l.getD k a0)):(fil f d a0 l k).set k z=fil f d a0 l (k+1):=by
  refine List.ext_getElem (by simp [fil]) fun i h1 h2=> ?_
  rw [List.getElem_set]
  by_cases e:k=i
  · subst e;rw [if_pos rfl,hz];simp only [fil,List.getElem_map,List.getElem_range];rw [if_pos (by omega)]
  · rw [if_neg e]; simp only [fil, List.getElem_map, List.getElem_range]
    by_cases h:i<k
    · rw [if_pos h,if_pos (by omega)]
    · rw [if_neg h,if_neg (by omega)]
theorem fil_same {α β:Type} (f:α→β) (d:β) (a0:α) (l:List α) {k:Nat} (hz:d=f (l.getD k a0)):fil f d a0 l k=fil f d a0 l (k+1):=by
  refine List.ext_getElem (by simp [fil]) fun i h1 h2=> ?_
  simp only [fil,List.getElem_map,List.getElem_range]
  by_cases h:i<k
  · rw [if_pos h,if_pos (by omega)]
  · by_cases e : i = k
    · subst e;rw [if_neg h,if_pos (by omega),hz]
    · rw [if_neg h,if_neg (by omega)]
theorem fil_at {α β:Type} (f:α→β) (d:β) (a0:α) (l:List α) {i k:Nat} (d':β) (hi:i<l.length) (hk:i<k):(fil f d a0 l k).getD i d'=f (l.getD i a0):=by
  unfold fil
  rw [List.getD_eq_getElem?_getD,List.getElem?_map,List.getElem?_range hi]
  simp only [Option.map_some,Option.getD_some];rw [if_pos hk]
def bx (A:Pk) (z:Int):Int:=if A.isSome then pX A - z else 0
def by' (A:Pk) (z:Int):Int:=if A.isSome then pY A - z else 0
def bq (A:Pk):Rat:=if A.isSome then pQ A else ((-2:Int):Rat)
theorem bq_some {A:Pk} (h:A.isSome=true):bq A=pQ A:=if_pos h
theorem bq_none {A:Pk} (h:A.isSome=false):bq A=((-2:Int):Rat):=by unfold bq;rw [h];rfl
theorem take_iff {A:Pk} {q:Rat} (h: -1≤q):bq A<q↔(A.isSome=false∨pQ A<q):=by
  cases k:A.isSome with
  | true => rw [bq_some k]; constructor
            · exact .inr
            · rintro (e | e)
              · cases e
              · exact e
  | false => rw [bq_none k]; constructor
             · exact fun _=> .inl rfl
             · intro _; have : ((-2 : Int) : Rat) < -1 := by decide +kernel
               grind
theorem stp_in {f:Int→Int→Option Rat} {a:Pk} {x y:Int} {P:Int→Int→Prop} (ha:a.isSome=true→P (pX a) (pY a)) (hx:P x y):(stp f a x y).isSome=true→P (pX (stp f a x y)) (pY (stp f a x y)):=by
  unfold stp;split
  · exact ha
  · split
    · exact fun _=>hx
    · exact ha
theorem rowP_in {f:Int→Int→Option Rat} {a:Pk} {le y:Int} {P:Int→Int→Prop} (ha:a.isSome=true→P (pX a) (pY a)) {k:Nat} (h:∀i:Nat,i<k→P (le+i) y):(rowP f le y a k).isSome=true→P (pX (rowP f le y a k)) (pY (rowP f le y a k)):=by
  induction k with
  |zero=>exact ha
  |succ k ih=>exact stp_in (ih fun i hi=>h i (by omega)) (h k (by omega))
theorem allP_in {f:Int→Int→Option Rat} {le tp:Int} {k n:Nat} {P:Int→Int→Prop} (h:∀j i:Nat,j<n→i<k→P (le+i) (tp+j)):(allP f le tp k n).isSome=true→P (pX (allP f le tp k n)) (pY (allP f le tp k n)):=by
  induction n with
  |zero=>intro e;cases e
  |succ n ih=>exact rowP_in (ih fun j i hj hi=>h j i (by omega) hi) fun i hi=>h n i (by omega) hi
theorem shA_in {l1 l2:List Int} {w1 w2 h2 sz rc:Nat} {p:Int×Int} (h:(shA l1 l2 w1 w2 h2 sz rc p).isSome=true):(p.1 - rc≤pX (shA l1 l2 w1 w2 h2 sz rc p)∧pX (shA l1 l2 w1 w2 h2 sz rc p)≤p.1+rc)∧(p.2 - rc≤pY (shA l1 l2 w1 w2 h2 sz rc p)∧pY (shA l1 l2 w1 w2 h2 sz rc p)≤p.2+rc):=
  allP_in (P:=fun x y=>(p.1 - rc≤x∧x≤p.1+rc)∧(p.2 - rc≤y∧y≤p.2+rc)) (fun j i hj hi=>by constructor <;> constructor <;> omega) h
theorem stp_hq {f:Int→Int→Option Rat} {a:Pk} {x y:Int} (ha:Big.hq (pQ a)≤6) (hf:∀q,f x y=some q→Big.hq q≤6):Big.hq (pQ (stp f a x y))≤6:=by
  unfold stp;split
  · exact ha
  · rename_i q e; split
    · exact hf q e
    · exact ha
theorem rowP_hq {f:Int→Int→Option Rat} {a:Pk} {le y:Int} (ha:Big.hq (pQ a)≤6) (hf:∀x y q,f x y=some q→Big.hq q≤6) (k:Nat):Big.hq (pQ (rowP f le y a k))≤6:=by
  induction k with
  |zero=>exact ha
  |succ k ih=>exact stp_hq ih (hf _ _)
theorem allP_hq6 {f:Int→Int→Option Rat} {le tp:Int} {k:Nat} (hf:∀x y q,f x y=some q→Big.hq q≤6) (n:Nat):Big.hq (pQ (allP f le tp k n))≤6:=by
  induction n with
  |zero=>exact (by decide:Big.hq 0≤6)
  |succ n ih=>exact rowP_hq ih hf k
theorem pat_hq {l1 l2:List Int} {w1 h1 n1 w2 h2 n2:Nat} (hg1:∀i,i<n1→0≤l1.getD i 0∧l1.getD i 0≤65535) (hg2:∀i,i<n2→0≤l2.getD i 0∧l2.getD i 0≤65535) (hw:1≤w1∧w1≤64) (hh:1≤h1∧h1≤64) (h1n:n1=w1*h1) (h2n:n2=w2*h2) (hb:n1≤4096) (hn:l1.length=n1) (x y:Int) (q:Rat) (e:pat l1 l2 w1 h1 w2 h2 x y=some q):Big.hq q≤6:=by
  by_cases hp:pos (w1:Int) h1 w2 h2 x y
  · unfold pat at e; rw [if_pos hp] at e; obtain rfl := Option.some.inj e
    exact scq_hq hg1 hg2 hw hh h1n h2n hb hn hp
  · rw [pat_none hp] at e;cases e
theorem pat_scq {l1 l2:List Int} {w1 h1 w2 h2 x y:Int} (hp:pos w1 h1 w2 h2 x y):pat l1 l2 w1 h1 w2 h2 x y=some (scq l1 l2 w1 h1 w2 x y):=if_pos hp
theorem scq_rng {l1 l2:List Int} {w1 h1 n1 w2:Nat} {x y:Int} (hn:l1.length=n1) (h1n:n1=w1*h1) (hw:0<w1):scq l1 l2 w1 h1 w2 x y≤1∧ -1≤scq l1 l2 w1 h1 w2 x y:=by
  rw [← scq_int hn];exact scr_rng h1n hw
def cd1 (p s:Prop) [Decidable p] [Decidable s]:Int:=if p then (if s then 0 else 2) else 1
def cd2 (p s:Prop) [Decidable p] [Decidable s] (b:Bool):Int:=if p then (if s then (if b=true then 0 else 1) else 2) else 1
def cd3 (p s:Prop) [Decidable p] [Decidable s] (b:Bool) (o:Prop) [Decidable o]:Int:=if p then (if s then (if b=true then (if o then 15 else 0) else 1) else 2) else 1
section
variable {p s o : Prop} [Decidable p] [Decidable s] [Decidable o] {b : Bool} {d : Prop}
theorem cd1_yes (hd:¬s↔d) (h:(if p then 0 else 1:Int)=0∧d):(2:Int)=cd1 p s:=by
  unfold cd1;by_cases hp:p
  · rw [if_pos hp,if_neg (hd.2 h.2)]
  · rw [if_neg hp] at h;exact absurd h.1 (by decide)
theorem cd1_no (hd:¬s↔d) (h:¬((if p then 0 else 1:Int)=0∧d)):(if p then 0 else 1:Int)=cd1 p s:=by
  unfold cd1;by_cases hp:p
  · rw [if_pos hp] at h ⊢;rw [if_pos hp,if_pos (Decidable.not_not.1 fun k=>h ⟨rfl,hd.1 k⟩)]
  · rw [if_neg hp,if_neg hp]
theorem cd2_yes (h:cd1 p s=0∧(!b)=true):(1:Int)=cd2 p s b:=by
  unfold cd1 at h;unfold cd2;by_cases hp:p
  · by_cases hs : s
    · rw [if_pos hp,if_pos hs,if_neg (by cases b <;> simp_all)]
    · rw [if_pos hp,if_neg hs] at h;exact absurd h.1 (by decide)
  · rw [if_neg hp] at h;exact absurd h.1 (by decide)
theorem cd2_no (h:¬(cd1 p s=0∧(!b)=true)):cd1 p s=cd2 p s b:=by
  unfold cd1 at *;unfold cd2;by_cases hp:p
  · by_cases hs : s
    · rw [if_pos hp,if_pos hs] at h ⊢;rw [if_pos hp,if_pos hs,if_pos (by cases b <;> simp_all)]
    · rw [if_pos hp,if_neg hs,if_pos hp,if_neg hs]
  · rw [if_neg hp,if_neg hp]
theorem cd2_zero (h:cd2 p s b=0):p∧s∧b=true:=by
  unfold cd2 at h;by_cases hp:p
  · by_cases hs : s
    · by_cases hb : b = true
      · exact ⟨hp,hs,hb⟩
      · rw [if_pos hp,if_pos hs,if_neg hb] at h;cases h
    · rw [if_pos hp,if_neg hs] at h;cases h
  · rw [if_neg hp] at h;cases h
theorem cd3_yes (h:cd2 p s b=0∧o):(15:Int)=cd3 p s b o:=by
  obtain ⟨a,c,d⟩:=cd2_zero h.1
  unfold cd3;rw [if_pos a,if_pos c,if_pos d,if_pos h.2]
theorem cd3_no (h:¬(cd2 p s b=0∧o)):cd2 p s b=cd3 p s b o:=by
  unfold cd2 at *;unfold cd3;by_cases hp:p
  · by_cases hs : s
    · by_cases hb : b = true
      · rw [if_pos hp,if_pos hs,if_pos hb] at h ⊢;rw [if_pos hp,if_pos hs,if_pos hb,if_neg fun k=>h ⟨rfl,k⟩]
      · rw [if_pos hp,if_pos hs,if_neg hb,if_pos hp,if_pos hs,if_neg hb]
    · rw [if_pos hp,if_neg hs,if_pos hp,if_neg hs]
  · rw [if_neg hp,if_neg hp]
theorem cd3_zero (h:cd3 p s b o=0):p∧s∧b=true∧¬o:=by
  unfold cd3 at h;by_cases hp:p
  · by_cases hs : s
    · by_cases hb : b = true
      · by_cases ho : o
        · rw [if_pos hp,if_pos hs,if_pos hb,if_pos ho] at h;cases h
        · exact ⟨hp,hs,hb,ho⟩
      · rw [if_pos hp,if_pos hs,if_neg hb] at h;cases h
    · rw [if_pos hp,if_neg hs] at h;cases h
  · rw [if_neg hp] at h;cases h
theorem cd3_ok (a:p) (c:s) (d:b=true) (e:¬o):cd3 p s b o=0:=by unfold cd3;rw [if_pos a,if_pos c,if_pos d,if_neg e]
end
theorem sub_neg {a b:Rat}:a - b<0↔a<b:=by grind
theorem nor5 {a b c d e:Prop} (h:¬((((a∨b)∨c)∨d)∨e)):(((¬a∧¬b)∧¬c)∧¬d)∧¬e:=
  ⟨⟨⟨⟨fun k=>h (.inl (.inl (.inl (.inl k)))),fun k=>h (.inl (.inl (.inl (.inr k))))⟩,fun k=>h (.inl (.inl (.inr k)))⟩,fun k=>h (.inl (.inr k))⟩,fun k=>h (.inr k)⟩
theorem and_yes {p:Prop} [Decidable p] {b:Bool} (h:p):b=decide (p∧b=true):=by cases b <;> simp [h]
theorem and_no {p q:Prop} [Decidable p] [Decidable q] (h:¬p):false=decide (p∧q):=by simp [h]
end Go.Proofs.YtkamccndgblheaaGreat.Cr
namespace Go.Proofs.YtkamccndgblheaaGreat.Sp
open Go
set_option linter.unusedVariables false
section
variable {P : Program} {n : Sz} {m : Fm} {O : List As} {R : List Fa} {d : Option Tmp} {ty : TypeId} {ps : String} {af : Array Edge} {gd : Option (Nat × Bool)} {α : Type}
theorem zzf {t T:TypeId} {bytes:Nat} {z:Value} {x y:Operand} {k1 k2:IntKind} {z1 z2:Int} {k:Nat} {r:Rp α} (hu:P.underlying t=some (.slice T)) (hI:Inf P T r.sz bytes z) (h1:evo m x=some (.int k1 z1)) (h2:evo m y=some (.int k2 z2))
    (hz1:z1=0) (hz2:z2=(k:Int)) (hb:bytes*k≤281474976710656) (hm:k≤9223372036854775807) (hzs:z.cells.size=r.sz) (hpos:0<r.sz):
    Ef P n ⟨d,.makeSlice t x y,ty,ps,af,gd⟩ m [] R (Y:=Nat) (fun _=>True) (fun b=> .slice (some ⟨b,0,none⟩) 0 k) (fun b=>[rowA T r (some ⟨b,0,none⟩) k []]) (fun _=>[]):=by
  intro a f w hh g s rr ap hw hg K Q hK
  have e:hh=Hp.emp:=s
  subst e;subst hz1;subst hz2
  obtain ⟨i,hi,hz,hsz,hby⟩:=hI.info
  have hrun:=run_make (P:=P) w t T i z hu hi hz k1 k2 (0:Int) (k:Int) (by omega) (by omega) (by rw [hby,←Int.natCast_mul];generalize bytes*k=q at hb;omega) (by omega)
  have hrun':(execOp a.eval ⟨d,.makeSlice t x y,ty,ps,af,gd⟩).run P w= .ok (.value (.slice (some ⟨w.heap.size,0,none⟩) 0 k)) (w.alloc (.cells (madeCells z.cells (k*r.sz)) T)):=by
    simp only [execOp,f.ev h1,f.ev h2,Sem.run_bind,hrun,Result.andThen_ok,Sem.run_pure,hsz,Int.toNat_natCast]
    rfl
  refine op_value hrun' ?_
  refine hK w.heap.size _ trivial (mem_new hw hg ?_)
  exact .inr ⟨w.heap.size,0,(madeCells z.cells (k*r.sz)).toList,rfl,Nat.zero_le _,by unfold maxLen;omega,by rw [Array.length_toList,size_madeCells,Nat.zero_add];exact Nat.le_refl _,by rw [Array.toArray_toList],fun j x hx=>by simp at hx⟩
end
end Go.Proofs.YtkamccndgblheaaGreat.Sp
namespace Go.Proofs.YtkamccndgblheaaGreat.Sp
open Go
set_option linter.unusedVariables false
set_option maxRecDepth 100000
set_option maxHeartbeats 1000000
theorem zTf {w:Nat} {h:Nat} {m:Int} {p:Option Addr} {n:Nat} {cap:Nat} {l:List Int} {ex:Int} {ey:Int}:Con Tryz.prog 85 [.agg #[.int .i64 ((w:Nat):Int),.int .i64 ((h:Nat):Int),.int .i64 m,.slice p n cap],.int .i64 ex,.int .i64 ey] [] [] (Y:=Unit) (fun y=>True) (fun y=> .bool (decide (((0≤ex∧ex<((w:Nat):Int))∧0≤ey)∧ey<((h:Nat):Int)))) (fun y=>[]) (fun y=>[]):=by
 refine zq Tryz.func85 rfl rfl rfl (fun c=> ?_)
 show RunC _ _ _ _ _ [(0,.agg #[.int .i64 ((w:Nat):Int),.int .i64 ((h:Nat):Int),.int .i64 m,.slice p n cap]),(1,.int .i64 ex),(2,.int .i64 ey)] [] []
 refine zi<|zc<|zJ rfl rfl (zQ rfl rfl) (fun b1=> ?_)
 refine r_pv rfl rfl (zd rfl)<|zj<|ze<|zGa (X:=Unit) (fun x=>True) (fun x=>[(6,.bool (decide ((((0≤ex)∧(ex<((w:Nat):Int)))∧(0≤ey))∧(ey<((h:Nat):Int)))))]) (fun x=>[boxA b1 24 [.int .i64 ((w:Nat):Int),.int .i64 ((h:Nat):Int),.int .i64 m,.slice p n cap]]) (fun x=>[]) ?_ ?_
 ·
  refine zc<|r_pv rfl rfl (za rfl)<|r_pv rfl rfl (zMa rfl rfl)<|zP rfl rfl (za rfl) (fun h2=> ?_) (fun h2=> ?_)
  ·
   refine r_pv rfl rfl (za rfl)<|r_pv rfl rfl (zg Tryz.underlying24 rfl sz3 rfl rfl)<|r_u rfl rfl (zh 0 ty3 rfl rfl rfl)<|r_pv rfl rfl (zda rfl rfl)<|r_pv rfl rfl (zm rfl rfl)<|zP rfl rfl (za rfl) (fun h3=> ?_) (fun h3=> ?_)
   ·
    refine r_pv rfl rfl (za rfl)<|r_pv rfl rfl (zMa rfl rfl)<|r_pv rfl rfl (zm rfl rfl)<|zP rfl rfl (za rfl) (fun h4=> ?_) (fun h4=> ?_)
    ·
     refine r_pv rfl rfl (za rfl)<|r_pv rfl rfl (zg Tryz.underlying24 rfl sz3 rfl rfl)<|r_u rfl rfl (zh 0 ty3 rfl rfl rfl)<|r_pv rfl rfl (zda rfl rfl)<|r_pv rfl rfl (zm rfl rfl)<|r_pv rfl rfl (zd rfl)<|zj ?_
     exact zca () (show True from by first|trivial|omega|simp_all) ((.e rfl (congrArg Value.bool (by first|(simp_all;done)|(simp_all;omega)|(simp;omega)|omega)) .n):SubM _ _) (ho:=((.c (i:=0) rfl .n):PickO _ _ _)) (.n:SelR _ _ _)
    ·
     refine zb rfl rfl<|zb rfl rfl<|zb rfl rfl<|zb rfl rfl<|r_pv rfl rfl (zm rfl rfl)<|r_pv rfl rfl (zd rfl)<|zj ?_
     exact zca () (show True from by first|trivial|omega|simp_all) ((.e rfl (congrArg Value.bool (by first|(simp_all;done)|(simp_all;omega)|(simp;omega)|omega)) .n):SubM _ _) (ho:=((.c (i:=0) rfl .n):PickO _ _ _)) (.n:SelR _ _ _)
   ·
    refine zb rfl rfl<|zb rfl rfl<|r_pv rfl rfl (zm rfl rfl)<|r_pv rfl rfl (za rfl)<|zb rfl rfl<|zb rfl rfl<|zb rfl rfl<|zb rfl rfl<|r_pv rfl rfl (zm rfl rfl)<|r_pv rfl rfl (zd rfl)<|zj ?_
    exact zca () (show True from by first|trivial|omega|simp_all) ((.e rfl (congrArg Value.bool (by first|(simp_all;done)|(simp_all;omega)|(simp;omega)|omega)) .n):SubM _ _) (ho:=((.c (i:=0) rfl .n):PickO _ _ _)) (.n:SelR _ _ _)
  ·
   refine zb rfl rfl<|zb rfl rfl<|zb rfl rfl<|zb rfl rfl<|r_pv rfl rfl (zm rfl rfl)<|r_pv rfl rfl (za rfl)<|zb rfl rfl<|zb rfl rfl<|r_pv rfl rfl (zm rfl rfl)<|r_pv rfl rfl (za rfl)<|zb rfl rfl<|zb rfl rfl<|zb rfl rfl<|zb rfl rfl<|r_pv rfl rfl (zm rfl rfl)<|r_pv rfl rfl (zd rfl)<|zj ?_
   exact zca () (show True from by first|trivial|omega|simp_all) ((.e rfl (congrArg Value.bool (by first|(simp_all;done)|(simp_all;omega)|(simp;omega)|omega)) .n):SubM _ _) (ho:=((.c (i:=0) rfl .n):PickO _ _ _)) (.n:SelR _ _ _)
 ·
  rintro ⟨⟩ -
  try dsimp only
  refine zI ?_
  exact zE Tryz.results85 () trivial (zo rfl) rfl (ho:=(.n:PickO _ _ _)) (.n:SelR _ _ _)
theorem zff {w:Nat} {h:Nat} {m:Int} {p:Option Addr} {n:Nat} {cap:Nat} {l:List Int} {x0:Nat} {y0:Nat} {pw:Nat} {ph:Nat} {b5:Nat} {b6:Nat} {b7:Nat} {i:Nat} {j:Nat} (hn:l.length=n) (hw:1≤w∧w≤64) (hh:1≤h∧h≤64) (hwh:n=w*h) (hb:n≤4096) (hg:∀i,i<n→0≤l.getD i 0∧l.getD i 0≤65535) (hx:x0+pw≤w) (hy:y0+ph≤h) (hpw:1≤pw) (hph:1≤ph) (hi:i<pw) (hj:j<ph):Con Tryz.prog 87 [.int .i64 ((i:Nat):Int),.int .i64 ((j:Nat):Int),.pointer (some ⟨b5,0,none⟩),.pointer (some ⟨b6,0,none⟩),.pointer (some ⟨b7,0,none⟩)] [] [atF b5 0 [.int .i64 ((w:Nat):Int),.int .i64 ((h:Nat):Int),.int .i64 m,.slice p n cap],atF b6 0 [.int .i64 ((x0:Nat):Int)],atF b7 0 [.int .i64 ((y0:Nat):Int)],slF (rI .i64) p cap l] (Y:=Unit) (fun y=>True) (fun y=> .int .i64 (Cr.px l ((y0+j)*w+(x0+i)))) (fun y=>[]) (fun y=>[]):=by
 refine zq Tryz.func87 rfl rfl rfl (fun c=> ?_)
 show RunC _ _ _ _ _ [(0,.int .i64 ((i:Nat):Int)),(1,.int .i64 ((j:Nat):Int)),(2,.pointer (some ⟨b5,0,none⟩)),(3,.pointer (some ⟨b6,0,none⟩)),(4,.pointer (some ⟨b7,0,none⟩))] [] [atF b5 0 [.int .i64 ((w:Nat):Int),.int .i64 ((h:Nat):Int),.int .i64 m,.slice p n cap],atF b6 0 [.int .i64 ((x0:Nat):Int)],atF b7 0 [.int .i64 ((y0:Nat):Int)],slF (rI .i64) p cap l]
 refine zY 3 rfl (fun hL3=> ?_)
 refine zi<|zc<|r_pv rfl rfl (zd rfl)<|zj<|ze<|zi<|zc<|r_u rfl rfl (zra (j:=0) 0 ty24 rfl rfl rfl (.take (.take (.take (.take .nil)))))<|r_u rfl rfl (zk (j:=0) 1 ty3 rfl rfl rfl rfl)<|r_pv rfl rfl (za rfl)<|r_pv rfl rfl (zx (z:=(((x0+i):Nat):Int)) rfl rfl (w64 (by omega)))<|r_u rfl rfl (zk (j:=0) 2 ty3 rfl rfl rfl rfl)<|r_pv rfl rfl (za rfl)<|r_pv rfl rfl (zx (z:=(((y0+j):Nat):Int)) rfl rfl (w64 (by omega)))<|zN rfl rfl (.c rfl (.c rfl (.c rfl .n))) ce88 (zLe (w:=w) (h:=h) (m:=m) (p:=p) (n:=n) (cap:=cap) (l:=l) (xx:=(x0+i)) (yy:=(y0+j)) (hn:=by assumption) (hw:=by assumption) (hh:=by assumption) (hwh:=by assumption) (hb:=by assumption) (hg:=by assumption) (hx:=by first|rfl|assumption|omega) (hy:=by first|rfl|assumption|omega)) (.c (j:=3) rfl .n)<|r_pv rfl rfl (zd rfl)<|zj<|ze<|zI ?_
 exact zE Tryz.results87 () trivial (zo rfl) rfl (ho:=(.n:PickO _ _ _)) (.n:SelR _ _ _)
theorem zgf {w:Nat} {h:Nat} {m:Int} {p:Option Addr} {n:Nat} {cap:Nat} {l:List Int} {x0:Nat} {y0:Nat} {pw:Nat} {ph:Nat} {b5:Nat} {b6:Nat} {b7:Nat} (hn:l.length=n) (hw:1≤w∧w≤64) (hh:1≤h∧h≤64) (hwh:n=w*h) (hb:n≤4096) (hg:∀i,i<n→0≤l.getD i 0∧l.getD i 0≤65535) (hx:x0+pw≤w) (hy:y0+ph≤h) (hpw:1≤pw) (hph:1≤ph):Con Tryz.prog 86 [.int .i64 ((pw:Nat):Int),.int .i64 ((ph:Nat):Int),.int .i64 m,.func (.func 87) #[] #[.pointer (some ⟨b5,0,none⟩),.pointer (some ⟨b6,0,none⟩),.pointer (some ⟨b7,0,none⟩)]] [] [atF b5 0 [.int .i64 ((w:Nat):Int),.int .i64 ((h:Nat):Int),.int .i64 m,.slice p n cap],atF b6 0 [.int .i64 ((x0:Nat):Int)],atF b7 0 [.int .i64 ((y0:Nat):Int)],slF (rI .i64) p cap l] (Y:=(Option Addr)×Nat) (fun y=>True) (fun y=> .agg #[.int .i64 ((pw:Nat):Int),.int .i64 ((ph:Nat):Int),.int .i64 m,.slice (y.1) (pw*ph) (y.2)]) (fun y=>[]) (fun y=>[slF (rI .i64) (y.1) (y.2) (Cr.cutL l w y0 x0 pw ph)]):=by
 refine zq Tryz.func86 rfl rfl rfl (fun c=> ?_)
 show RunC _ _ _ _ _ [(0,.int .i64 ((pw:Nat):Int)),(1,.int .i64 ((ph:Nat):Int)),(2,.int .i64 m),(3,.func (.func 87) #[] #[.pointer (some ⟨b5,0,none⟩),.pointer (some ⟨b6,0,none⟩),.pointer (some ⟨b7,0,none⟩)])] [] [atF b5 0 [.int .i64 ((w:Nat):Int),.int .i64 ((h:Nat):Int),.int .i64 m,.slice p n cap],atF b6 0 [.int .i64 ((x0:Nat):Int)],atF b7 0 [.int .i64 ((y0:Nat):Int)],slF (rI .i64) p cap l]
 refine zY 3 rfl (fun hL3=> ?_)
 have hpb:pw*ph≤64*64:=Nat.mul_le_mul (by omega) (by omega)
 refine zi<|zc<|zJ rfl rfl (zw zr24 rfl) (fun b1=> ?_)
 refine zj<|ze<|zi<|zc<|r_pv rfl rfl (za rfl)<|r_pv rfl rfl (za rfl)<|r_pv rfl rfl (za rfl)<|r_pv rfl rfl (za rfl)<|r_pv rfl rfl (za rfl)<|r_pv rfl rfl (zpa (z:=(((pw*ph):Nat):Int)) rfl rfl (w64 (by omega)))<|zza rfl rfl (zzf (r:=rI .i64) (k:=(pw*ph)) Tryz.underlying22 inf3 rfl rfl rfl rfl (by omega) (by omega) rfl (by decide)) (fun b2 _=> ?_)
 refine r_pv rfl rfl (zK zr24 rfl Tryz.underlying24 (.c sz3 (.c sz3 (.c sz3 (.c sz22 .n)))) (.c rfl (.c rfl (.c rfl (.c rfl .n)))) (.c rfl rfl rfl (.take .nil) (.c rfl rfl rfl (.skip (.take .nil)) (.c rfl rfl rfl (.skip (.skip (.take .nil))) (.c rfl rfl rfl (.skip (.skip (.skip (.take .nil)))) .n)))))<|zJ rfl rfl (zw zr24 rfl) (fun b3=> ?_)
 refine zn 0 rfl rfl rfl rfl rfl sz24 rfl (.take (.take (.take (.take .nil)))) .z<|zj<|ze<|zi<|zi<|zc<|r_pv rfl rfl (za rfl)<|r_pv rfl rfl (za rfl)<|zj<|ze<|zA<|zka (X:=Nat×(Option Addr)×Nat) (fun x:Nat×(Option Addr)×Nat=>x.1≤ph) (fun x=>[(21,.int .i64 ((x.1:Nat):Int)),(20,.int .i64 ((ph:Nat):Int)),(9,.pointer (some ⟨b3,0,none⟩)),(8,.pointer (some ⟨b1,0,none⟩)),(0,.int .i64 ((pw:Nat):Int)),(3,.func (.func 87) #[] #[.pointer (some ⟨b5,0,none⟩),.pointer (some ⟨b6,0,none⟩),.pointer (some ⟨b7,0,none⟩)])]) (fun x=>[boxA b3 24 [.int .i64 ((pw:Nat):Int),.int .i64 ((ph:Nat):Int),.int .i64 m,.slice (x.2.1) (x.1*pw) (x.2.2)],rowA 3 (rI .i64) (x.2.1) (x.2.2) (Cr.gI (Cr.wn l w y0 x0 pw) (x.1*pw)),boxA b1 24 [.int .i64 0,.int .i64 0,.int .i64 0,.slice none 0 0]]) (fun x=>[atF b5 0 [.int .i64 ((w:Nat):Int),.int .i64 ((h:Nat):Int),.int .i64 m,.slice p n cap],atF b6 0 [.int .i64 ((x0:Nat):Int)],atF b7 0 [.int .i64 ((y0:Nat):Int)],slF (rI .i64) p cap l]) (fun x:Nat×(Option Addr)×Nat=>ph - x.1) (0,some ⟨b2,0,none⟩,(pw*ph)) (show 0≤ph from by exact Nat.zero_le _) ((.e rfl (by first|rfl|(congr 1;omega)|simp_all) (.of rfl)):SubM _ _) (ho:=((.e (i:=0) rfl (by first|(rw [Nat.zero_mul];done)|(rw [Nat.zero_mul];rfl)) (.e (i:=0) rfl (by first|(rw [Nat.zero_mul];done)|(rw [Nat.zero_mul];rfl)) (.c (i:=0) rfl .n))):PickO _ _ _)) ((.of [0,1,2,3] rfl):SelR _ _ _) ?_
 rintro ⟨j,pr,cr⟩ hI
 replace hI:j≤ph:=hI
 try dsimp only
 refine zi<|zc<|r_pv rfl rfl (zda rfl rfl)<|zj<|ze<|zi<|zG rfl (fun h4=> ?_) (fun h4=> ?_)
 ·
  refine zB<|ze<|zi<|zA<|zi<|zc<|r_pv rfl rfl (za rfl)<|r_pv rfl rfl (zd rfl)<|zj<|ze<|zi<|zc<|r_pv rfl rfl (za rfl)<|r_pv rfl rfl (za rfl)<|zj<|ze<|zA<|zka (X:=Nat×(Option Addr)×Nat) (fun x:Nat×(Option Addr)×Nat=>x.1≤pw) (fun x=>[(25,.int .i64 ((x.1:Nat):Int)),(24,.int .i64 ((pw:Nat):Int)),(10,.int .i64 ((j:Nat):Int)),(21,.int .i64 ((j:Nat):Int)),(20,.int .i64 ((ph:Nat):Int)),(9,.pointer (some ⟨b3,0,none⟩)),(8,.pointer (some ⟨b1,0,none⟩)),(0,.int .i64 ((pw:Nat):Int)),(3,.func (.func 87) #[] #[.pointer (some ⟨b5,0,none⟩),.pointer (some ⟨b6,0,none⟩),.pointer (some ⟨b7,0,none⟩)])]) (fun x=>[boxA b3 24 [.int .i64 ((pw:Nat):Int),.int .i64 ((ph:Nat):Int),.int .i64 m,.slice (x.2.1) (j*pw+x.1) (x.2.2)],rowA 3 (rI .i64) (x.2.1) (x.2.2) (Cr.gI (Cr.wn l w y0 x0 pw) (j*pw+x.1)),boxA b1 24 [.int .i64 0,.int .i64 0,.int .i64 0,.slice none 0 0]]) (fun x=>[atF b5 0 [.int .i64 ((w:Nat):Int),.int .i64 ((h:Nat):Int),.int .i64 m,.slice p n cap],atF b6 0 [.int .i64 ((x0:Nat):Int)],atF b7 0 [.int .i64 ((y0:Nat):Int)],slF (rI .i64) p cap l]) (fun x:Nat×(Option Addr)×Nat=>pw - x.1) (0,pr,cr) (show 0≤pw from by exact Nat.zero_le _) ((.e rfl (by first|rfl|(congr 1;omega)|simp_all) (.of rfl)):SubM _ _) (ho:=((.e (i:=0) rfl (by rfl) (.e (i:=0) rfl (by rfl) (.c (i:=0) rfl .n))):PickO _ _ _)) ((.of [0,1,2,3] rfl):SelR _ _ _) ?_
  rintro ⟨i,pz,cz⟩ hJ
  replace hJ:i≤pw:=hJ
  try dsimp only
  refine zi<|zc<|r_pv rfl rfl (zda rfl rfl)<|zj<|ze<|zi<|zG rfl (fun h5=> ?_) (fun h5=> ?_)
  ·
   have hjb:j*pw≤64*64:=Nat.mul_le_mul (by omega) (by omega)
   have hlt:(y0+j)*w+(x0+i)<n:=by rw [hwh];exact Cr.at_lt (by omega) (by omega)
   have hpx:0≤Cr.px l ((y0+j)*w+(x0+i))∧Cr.px l ((y0+j)*w+(x0+i))≤65535:=hg _ hlt
   refine zB<|ze<|zi<|zA<|zi<|zc<|r_pv rfl rfl (za rfl)<|r_pv rfl rfl (zd rfl)<|zj<|ze<|zsa (.c (i:=1) rfl (.c (i:=0) rfl (.c (i:=0) rfl .n)))<|zea (OW:=[rowA 3 (rI .i64) pz cz (Cr.gI (Cr.wn l w y0 x0 pw) (j*pw+i)),boxA b3 24 [.int .i64 ((pw:Nat):Int),.int .i64 ((ph:Nat):Int),.int .i64 m,.slice pz (j*pw+i) cz]]) (O:=[boxA b1 24 [.int .i64 0,.int .i64 0,.int .i64 0,.slice none 0 0]]) 7 mixed (.block (.then (.then (.block (.block (.then (.then (.block (.then .ret))))))))) (by kernel_rfl)<|d_pv 0 rfl rfl (by kernel_rfl) (by kernel_rfl) rfl rfl (zg Tryz.underlying24 rfl sz22 rfl rfl)<|d_uw 1 rfl rfl (by kernel_rfl) (by kernel_rfl) (by kernel_rfl) rfl rfl (zh 1 ty22 rfl rfl rfl)<|d_pv 2 rfl rfl (by kernel_rfl) (by kernel_rfl) rfl rfl (za rfl)<|d_pv 3 rfl rfl (by kernel_rfl) (by kernel_rfl) rfl rfl (za rfl)<|d_pv 4 rfl rfl (by kernel_rfl) (by kernel_rfl) rfl rfl (za rfl)<|zL 5 (by kernel_rfl) (zCf (first:=[]) (cap:=[.pointer (some ⟨b5,0,none⟩),.pointer (some ⟨b6,0,none⟩),.pointer (some ⟨b7,0,none⟩)]) rfl rfl rfl rfl rfl (.c rfl (.c rfl .n)) ce87 (zff (w:=w) (h:=h) (m:=m) (p:=p) (n:=n) (cap:=cap) (l:=l) (x0:=x0) (y0:=y0) (pw:=pw) (ph:=ph) (b5:=b5) (b6:=b6) (b7:=b7) (i:=i) (j:=j) (hn:=by assumption) (hw:=by assumption) (hh:=by assumption) (hwh:=by assumption) (hb:=by assumption) (hg:=by assumption) (hx:=by assumption) (hy:=by assumption) (hpw:=by assumption) (hph:=by assumption) (hi:=by first|rfl|assumption|omega) (hj:=by first|rfl|assumption|omega)) (.c (j:=0) rfl (.c (j:=1) rfl (.c (j:=2) rfl (.c (j:=3) rfl .n)))) ?_)
   rintro ⟨⟩ -
   dsimp only [List.append_eq,List.nil_append,List.cons_append]
   refine zL 6 (by kernel_rfl) (zbd rfl rfl rfl rfl (zV (enc:=fun z:Int=>[.int .i64 z]) (ok:=InK .i64) (h1:=fun _=>rfl) (h2:=fun _=>rfl) (k:=1) Tryz.underlying22 inf3 rfl (by decide) (by decide) (by decide) (.c (x:=(Cr.px l ((y0+j)*w+(x0+i)))) rfl rfl (fun _ _=>by exact zR.2 (by omega)) .n)) (fun b6 _=> ?_))
   refine zOc 0 rfl .z<|zL 7 (by kernel_rfl) (zBd (A':=fun v:Option Addr×Nat=>rowA 3 (rI .i64) v.1 v.2 ((Cr.gI (Cr.wn l w y0 x0 pw) (j*pw+i))++([(Cr.px l ((y0+j)*w+(x0+i)))]))) (by kernel_rfl) rfl rfl rfl (zxa 0 rfl Tryz.underlying22 inf3 (by decide) rfl rfl (by first|rfl|assumption|exact Cr.gI_len _ _|omega) rfl (by first|rfl|assumption|exact Cr.gI_len _ _|omega) (by omega) (by omega)) ?_)
   rintro ⟨p7,c8⟩ -
   dsimp only [List.append_eq,List.nil_append,List.cons_append]
   refine d_pv 8 rfl rfl (by kernel_rfl) (by kernel_rfl) rfl rfl (zg Tryz.underlying24 rfl sz22 rfl rfl)<|zJa (zma (i:=1) rfl)<|zL 9 (by kernel_rfl) (zD (by kernel_rfl) rfl rfl rfl rfl rfl sz22 rfl (.skip (.skip (.skip (.take .nil)))) ?_)
   refine zba (by kernel_rfl)<|zT<|ze<|zc<|r_pv rfl rfl (zx (z:=(((i+1):Nat):Int)) rfl rfl (w64 (by omega)))<|r_pv rfl rfl (za rfl)<|zj<|zha ((i+1),p7,c8) (show (i+1)≤pw from by omega) (by show pw - (i+1)<pw - i;omega) ((.of rfl):SubM _ _) (ho:=((.e (i:=0) rfl (by first|rfl|(rw [← Cr.wn_at2 (show i<pw by omega)];rfl)) (.e (i:=0) rfl (by first|rfl|(rw [← Cr.wn_at2 (show i<pw by omega)];rfl)) (.c (i:=1) rfl .n))):PickO _ _ _)) ((.of [1,2,3,4] rfl):SelR _ _ _)
  ·
   refine zja<|zl<|zl<|zu<|zT<|ze<|zc<|r_pv rfl rfl (zx (z:=(((j+1):Nat):Int)) rfl rfl (w64 (by omega)))<|r_pv rfl rfl (za rfl)<|zj ?_
   have e9:j*pw+i=(j+1)*pw:=by rw [Nat.succ_mul];omega
   refine zha ((j+1),pz,cz) (show (j+1)≤ph from by omega) (by show ph - (j+1)<ph - j;omega) ((.of rfl):SubM _ _) (ho:=((.e (i:=0) rfl (by rw [e9]) (.e (i:=0) rfl (by rw [e9]) (.c (i:=0) rfl .n))):PickO _ _ _)) ((.of [0,1,2,3] rfl):SelR _ _ _)
 ·
  refine zja<|zl<|zl<|zu<|ze<|zi<|zc<|r_u rfl rfl (zf 0 ty24 rfl rfl (.take (.take (.take (.take .nil)))))<|zn 2 rfl rfl rfl rfl rfl sz24 rfl (.take (.take (.take (.take .nil)))) (.s (.s .z))<|zj<|ze<|zI ?_
  have hj9:j*pw=pw*ph:=by rw [show j=ph by omega,Nat.mul_comm]
  refine zta 1 rfl (.s .z) ?_
  exact zE Tryz.results86 (pr,cr) trivial (zt 2 ty24 rfl rfl (.take (.take (.take (.take .nil))))) (by rw [hj9]) (ho:=(.n:PickO _ _ _)) ((.e (j:=0) rfl (by rw [hj9,Cr.gI_cut hn hwh hx hy hpw]) .n):SelR _ _ _)
theorem zAf {w:Nat} {h:Nat} {m:Int} {p:Option Addr} {n:Nat} {cap:Nat} {l:List Int} {x0:Nat} {y0:Nat} {pw:Nat} {ph:Nat} (hn:l.length=n) (hw:1≤w∧w≤64) (hh:1≤h∧h≤64) (hwh:n=w*h) (hb:n≤4096) (hg:∀i,i<n→0≤l.getD i 0∧l.getD i 0≤65535) (hx:x0+pw≤w) (hy:y0+ph≤h) (hpw:1≤pw) (hph:1≤ph) (hok:Bl.rok w h m l):Con Tryz.prog 54 [.agg #[.int .i64 ((w:Nat):Int),.int .i64 ((h:Nat):Int),.int .i64 m,.slice p n cap],.int .i64 ((x0:Nat):Int),.int .i64 ((y0:Nat):Int),.int .i64 ((pw:Nat):Int),.int .i64 ((ph:Nat):Int)] [] [slF (rI .i64) p cap l] (Y:=(Option Addr)×Nat) (fun y=>True) (fun y=> .tuple #[.agg #[.int .i64 ((pw:Nat):Int),.int .i64 ((ph:Nat):Int),.int .i64 m,.slice (y.1) (pw*ph) (y.2)],.int .i64 0]) (fun y=>[]) (fun y=>[slF (rI .i64) (y.1) (y.2) (Cr.cutL l w y0 x0 pw ph)]):=by
 refine zq Tryz.func54 rfl rfl rfl (fun c=> ?_)
 show RunC _ _ _ _ _ [(0,.agg #[.int .i64 ((w:Nat):Int),.int .i64 ((h:Nat):Int),.int .i64 m,.slice p n cap]),(1,.int .i64 ((x0:Nat):Int)),(2,.int .i64 ((y0:Nat):Int)),(3,.int .i64 ((pw:Nat):Int)),(4,.int .i64 ((ph:Nat):Int))] [] [slF (rI .i64) p cap l]
 refine zY 0 rfl (fun hL0=> ?_)
 refine zi<|zc<|zJ rfl rfl (zQ rfl rfl) (fun b1=> ?_)
 refine zJ rfl rfl (zQ rfl rfl) (fun b2=> ?_)
 refine zJ rfl rfl (zQ rfl rfl) (fun b3=> ?_)
 refine zJ rfl rfl (zw zr24 rfl) (fun b4=> ?_)
 refine r_pv rfl rfl (zd rfl)<|zj<|ze<|zi<|zi<|zc<|r_u rfl rfl (zf 3 ty24 rfl rfl (.take (.take (.take (.take .nil)))))<|zN rfl rfl (.c rfl .n) ce61 (zlb (w:=((w:Nat):Int)) (h:=((h:Nat):Int)) (m:=m) (p:=p) (n:=n) (cap:=cap) (l:=l) (hn:=by assumption)) (.c (j:=0) rfl .n)<|r_pv rfl rfl (zd rfl)<|zj<|ze<|zi<|zc<|r_pv rfl rfl (za rfl)<|r_pv rfl rfl (zKa rfl rfl)<|zj<|ze<|zG rfl (fun hc=> ?_) (fun hc=> ?_)
 ·
  exact absurd (if_pos hok) hc
 ·
  refine zB<|ze<|zi<|zGa (X:=Unit) (fun x=>True) (fun x=>[(47,.bool (decide (((((¬(((0≤((x0:Nat):Int)∧((x0:Nat):Int)<((w:Nat):Int))∧0≤((y0:Nat):Int))∧((y0:Nat):Int)<((h:Nat):Int)))∨(((pw:Nat):Int)<1))∨(((ph:Nat):Int)<1))∨((((w:Nat):Int) - ((x0:Nat):Int))<((pw:Nat):Int)))∨((((h:Nat):Int) - ((y0:Nat):Int))<((ph:Nat):Int))))),(11,.int .i64 0),(10,.pointer (some ⟨b4,0,none⟩)),(7,.pointer (some ⟨b3,0,none⟩)),(6,.pointer (some ⟨b2,0,none⟩)),(5,.pointer (some ⟨b1,0,none⟩)),(3,.int .i64 ((pw:Nat):Int)),(4,.int .i64 ((ph:Nat):Int))]) (fun x=>[boxA b4 24 [.int .i64 0,.int .i64 0,.int .i64 0,.slice none 0 0],boxA b3 3 [.int .i64 ((y0:Nat):Int)],boxA b2 3 [.int .i64 ((x0:Nat):Int)],boxA b1 24 [.int .i64 ((w:Nat):Int),.int .i64 ((h:Nat):Int),.int .i64 m,.slice p n cap]]) (fun x=>[slF (rI .i64) p cap l]) ?_ ?_
  ·
   refine zc<|r_u rfl rfl (zf 3 ty24 rfl rfl (.take (.take (.take (.take .nil)))))<|r_u rfl rfl (zh 2 ty3 rfl rfl rfl)<|r_u rfl rfl (zh 1 ty3 rfl rfl rfl)<|zN rfl rfl (.c rfl (.c rfl (.c rfl .n))) ce85 (zTf (w:=w) (h:=h) (m:=m) (p:=p) (n:=n) (cap:=cap) (l:=l) (ex:=((x0:Nat):Int)) (ey:=((y0:Nat):Int))) (.n)<|r_pv rfl rfl (zXa rfl)<|zP rfl rfl (za rfl) (fun h5=> ?_) (fun h5=> ?_)
   ·
    refine zb rfl rfl<|zb rfl rfl<|r_pv rfl rfl (zm rfl rfl)<|r_pv rfl rfl (za rfl)<|zb rfl rfl<|zb rfl rfl<|r_pv rfl rfl (zm rfl rfl)<|r_pv rfl rfl (za rfl)<|zb rfl rfl<|zb rfl rfl<|zb rfl rfl<|zb rfl rfl<|zb rfl rfl<|zb rfl rfl<|r_pv rfl rfl (zm rfl rfl)<|r_pv rfl rfl (za rfl)<|zb rfl rfl<|zb rfl rfl<|zb rfl rfl<|zb rfl rfl<|zb rfl rfl<|zb rfl rfl<|r_pv rfl rfl (zm rfl rfl)<|zj ?_
    exact zca () (show True from by first|trivial|omega|simp_all) ((.e rfl (congrArg Value.bool (by first|(simp_all;done)|(simp_all;omega)|(simp;omega)|omega)) (.of rfl)):SubM _ _) (ho:=((.of [0,0,0,0] rfl):PickO _ _ _)) ((.c (j:=0) rfl .n):SelR _ _ _)
   ·
    refine r_pv rfl rfl (za rfl)<|r_pv rfl rfl (zda rfl rfl)<|r_pv rfl rfl (zm rfl rfl)<|zP rfl rfl (za rfl) (fun h6=> ?_) (fun h6=> ?_)
    ·
     refine zb rfl rfl<|zb rfl rfl<|r_pv rfl rfl (zm rfl rfl)<|r_pv rfl rfl (za rfl)<|zb rfl rfl<|zb rfl rfl<|zb rfl rfl<|zb rfl rfl<|zb rfl rfl<|zb rfl rfl<|r_pv rfl rfl (zm rfl rfl)<|r_pv rfl rfl (za rfl)<|zb rfl rfl<|zb rfl rfl<|zb rfl rfl<|zb rfl rfl<|zb rfl rfl<|zb rfl rfl<|r_pv rfl rfl (zm rfl rfl)<|zj ?_
     exact zca () (show True from by first|trivial|omega|simp_all) ((.e rfl (congrArg Value.bool (by first|(simp_all;done)|(simp_all;omega)|(simp;omega)|omega)) (.of rfl)):SubM _ _) (ho:=((.of [0,0,0,0] rfl):PickO _ _ _)) ((.c (j:=0) rfl .n):SelR _ _ _)
    ·
     refine r_pv rfl rfl (za rfl)<|r_pv rfl rfl (zda rfl rfl)<|r_pv rfl rfl (zm rfl rfl)<|zP rfl rfl (za rfl) (fun h7=> ?_) (fun h7=> ?_)
     ·
      refine zb rfl rfl<|zb rfl rfl<|zb rfl rfl<|zb rfl rfl<|zb rfl rfl<|zb rfl rfl<|r_pv rfl rfl (zm rfl rfl)<|r_pv rfl rfl (za rfl)<|zb rfl rfl<|zb rfl rfl<|zb rfl rfl<|zb rfl rfl<|zb rfl rfl<|zb rfl rfl<|r_pv rfl rfl (zm rfl rfl)<|zj ?_
      exact zca () (show True from by first|trivial|omega|simp_all) ((.e rfl (congrArg Value.bool (by first|(simp_all;done)|(simp_all;omega)|(simp;omega)|omega)) (.of rfl)):SubM _ _) (ho:=((.of [0,0,0,0] rfl):PickO _ _ _)) ((.c (j:=0) rfl .n):SelR _ _ _)
     ·
      refine r_pv rfl rfl (za rfl)<|r_pv rfl rfl (zg Tryz.underlying24 rfl sz3 rfl rfl)<|r_u rfl rfl (zh 3 ty3 rfl rfl rfl)<|r_u rfl rfl (zh 2 ty3 rfl rfl rfl)<|r_pv rfl rfl (zaa (z:=(((w:Nat):Int) - ((x0:Nat):Int))) rfl rfl (w64 (by omega)))<|r_pv rfl rfl (zoa rfl rfl)<|r_pv rfl rfl (zm rfl rfl)<|zP rfl rfl (za rfl) (fun h8=> ?_) (fun h8=> ?_)
      ·
       refine zb rfl rfl<|zb rfl rfl<|zb rfl rfl<|zb rfl rfl<|zb rfl rfl<|zb rfl rfl<|r_pv rfl rfl (zm rfl rfl)<|zj ?_
       exact zca () (show True from by first|trivial|omega|simp_all) ((.e rfl (congrArg Value.bool (by first|(simp_all;done)|(simp_all;omega)|(simp;omega)|omega)) (.of rfl)):SubM _ _) (ho:=((.of [0,0,0,0] rfl):PickO _ _ _)) ((.c (j:=0) rfl .n):SelR _ _ _)
      ·
       refine r_pv rfl rfl (za rfl)<|r_pv rfl rfl (zg Tryz.underlying24 rfl sz3 rfl rfl)<|r_u rfl rfl (zh 3 ty3 rfl rfl rfl)<|r_u rfl rfl (zh 1 ty3 rfl rfl rfl)<|r_pv rfl rfl (zaa (z:=(((h:Nat):Int) - ((y0:Nat):Int))) rfl rfl (w64 (by omega)))<|r_pv rfl rfl (zoa rfl rfl)<|r_pv rfl rfl (zm rfl rfl)<|zj ?_
       exact zca () (show True from by first|trivial|omega|simp_all) ((.e rfl (congrArg Value.bool (by first|(simp_all;done)|(simp_all;omega)|(simp;omega)|omega)) (.of rfl)):SubM _ _) (ho:=((.of [0,0,0,0] rfl):PickO _ _ _)) ((.c (j:=0) rfl .n):SelR _ _ _)
  ·
   rintro ⟨⟩ -
   try dsimp only
   refine zG rfl (fun h9=> ?_) (fun h9=> ?_)
   ·
    omega
   ·
    refine zB<|ze<|zi<|zkb 3 rfl (.s (.s (.s .z)))<|zkb 2 rfl (.s (.s .z))<|zkb 1 rfl (.s .z)<|zc<|r_pv rfl rfl (za rfl)<|r_pv rfl rfl (za rfl)<|r_pv rfl rfl (zg Tryz.underlying24 rfl sz3 rfl rfl)<|r_u rfl rfl (zk (j:=2) 2 ty3 rfl rfl rfl rfl)<|r_pv rfl rfl (zob .n (.c rfl (.c rfl (.c rfl .n))))<|zy rfl rfl (.c rfl (.c rfl (.c rfl (.c rfl .n)))) ce86 (zgf (w:=w) (h:=h) (m:=m) (p:=p) (n:=n) (cap:=cap) (l:=l) (x0:=x0) (y0:=y0) (pw:=pw) (ph:=ph) (b5:=b1) (b6:=b2) (b7:=b3) (hn:=by assumption) (hw:=by assumption) (hh:=by assumption) (hwh:=by assumption) (hb:=by assumption) (hg:=by assumption) (hx:=by assumption) (hy:=by assumption) (hpw:=by assumption) (hph:=by assumption)) (.c (j:=2) rfl (.c (j:=1) rfl (.c (j:=0) rfl (.c (j:=3) rfl .n)))) ?_
    rintro ⟨p310,c311⟩ -
    dsimp only [List.append_eq,List.nil_append,List.cons_append]
    refine zn 0 rfl rfl rfl rfl rfl sz24 rfl (.take (.take (.take (.take .nil)))) .z<|r_pv rfl rfl (zd rfl)<|zj<|ze<|zI ?_
    exact zBa Tryz.results54 (p310,c311) trivial (zt 0 ty24 rfl rfl (.take (.take (.take (.take .nil))))) (zo rfl) rfl (ho:=(.n:PickO _ _ _)) ((.c (j:=0) rfl .n):SelR _ _ _)
theorem zhf {w:Nat} {h:Nat} {m:Int} {p:Option Addr} {n:Nat} {cap:Nat} {l:List Int} {ex:Int} {ey:Int} {pw:Nat} {ph:Nat} (hn:l.length=n) (hw:1≤w∧w≤64) (hh:1≤h∧h≤64) (hwh:n=w*h) (hb:n≤4096) (hg:∀i,i<n→0≤l.getD i 0∧l.getD i 0≤65535) (hx:0≤ex∧ex+pw≤w) (hy:0≤ey∧ey+ph≤h) (hpw:1≤pw) (hph:1≤ph) (hok:Bl.rok w h m l):Con Tryz.prog 54 [.agg #[.int .i64 (((w:Nat):Int)),.int .i64 (((h:Nat):Int)),.int .i64 (m),.slice (p) (n) (cap)],.int .i64 (ex),.int .i64 (ey),.int .i64 (((pw:Nat):Int)),.int .i64 (((ph:Nat):Int))] [] [slF (rI .i64) (p) (cap) (l)] (Y:=(Option Addr)×(Nat)) (fun y=>True) (fun y=> .tuple #[.agg #[.int .i64 (((pw:Nat):Int)),.int .i64 (((ph:Nat):Int)),.int .i64 (m),.slice (y.1) ((pw*ph)) (y.2)],.int .i64 (0)]) (fun y=>[]) (fun y=>[slF (rI .i64) (y.1) (y.2) ((Cr.cutL l w ey.toNat ex.toNat pw ph))]):=by
  obtain ⟨xx,rfl⟩:=Int.eq_ofNat_of_zero_le hx.1
  obtain ⟨yy,rfl⟩:=Int.eq_ofNat_of_zero_le hy.1
  exact zAf hn hw hh hwh hb hg (by omega) (by omega) hpw hph hok
end Go.Proofs.YtkamccndgblheaaGreat.Sp
namespace Go.Proofs.YtkamccndgblheaaGreat.Sp
open Go
set_option linter.unusedVariables false
def Wd.zz (u v:Wd):Prop:=u.s=false∧v.s=false∧u.n=0∧v.n=0
instance (u v:Wd):Decidable (Wd.zz u v):=inferInstanceAs (Decidable (_∧_))
def qo (y:Big.RQ):Option Rat:=if Big.qok y then some (Big.qv y) else none
def eF (u v:Wd) (x:Option Rat):Fa:=⟨fun g=>∃y:Big.RQ,u.raw g y.1∧v.raw g y.2∧x=qo y,fun _ _ h ⟨y,a,b,e⟩=>⟨y,Wd.raw_mono h a,Wd.raw_mono h b,e⟩⟩
theorem qo_v (y:Big.RQ):(qo y).getD 0=Big.qv y:=by
  unfold qo;split
  · rfl
  · rename_i h;rw [Big.qv_not h];rfl
theorem eF_q {g:Hp} {u v:Wd} {x:Option Rat} (h:(eF u v x).on g):(qF x.isSome u v (x.getD 0)).on g:=by
  obtain ⟨y,a,b,rfl⟩:=h
  refine ⟨y,a,b,(qo_v y).symm,fun e=> ?_⟩
  by_cases hk:Big.qok y
  · exact hk
  · unfold qo at e;rw [if_neg hk] at e;cases e
theorem qo_s (y:Big.RQ):(qo y).isSome=decide (Big.qok y):=by
  unfold qo;split
  · rename_i h;rw [decide_eq_true h];rfl
  · rename_i h;rw [decide_eq_false h];rfl
theorem qo_hq (y:Big.RQ) (h1:Big.nn y.1.2) (h2:Big.nn y.2.2) {k:Nat} (k1:y.1.2.length≤k) (k2:y.2.2.length≤k) (k0:1≤k):Big.hq ((qo y).getD 0)≤k:=by
  rw [qo_v]
  by_cases hk:Big.qok y
  · obtain ⟨e1, e2⟩ := Big.qv_parts hk
    unfold Big.hq Big.ln
    rw [e1,e2]
    have a1:=Big.raw_digs (s:=y.1.1) h1
    have a2:=Big.raw_digs (s:=y.2.1) h2
    rw [if_pos hk.1] at a1;rw [if_pos hk.2.1] at a2
    rw [a1,a2];omega
  · rw [Big.qv_not hk,Big.hq_zero];exact k0
section
variable {P : Program} {O : List As} {R : List Fa} {f : Nat} {u v : Wd}
theorem zFf {x:Option Rat} {Y:Type} {φ:Y→Prop} {val:Y→Value} {O':Y→List As} {R':Y→List Fa}
    (h:∀(y:Big.RQ),qo y=x→y.1.2.length≤1048576→y.2.2.length≤1048576→Con P f [.agg #[.bool y.1.1,.slice u.p y.1.2.length u.c,.bool y.2.1,.slice v.p y.2.2.length v.c]] O [slF (rI .u32) u.p u.c y.1.2,slF (rI .u32) v.p v.c y.2.2] φ val O' R'):
    Con P f [.agg #[u.b,u.l,v.b,v.l]] O [eF u v x] φ val O' R':=
  Con.of (X:=Big.RQ) (ψ:=fun y=>qo y=x∧y.1.2.length≤1048576∧y.2.2.length≤1048576) (A2:=fun x=>[.agg #[.bool x.1.1,.slice u.p x.1.2.length u.c,.bool x.2.1,.slice v.p x.2.2.length v.c]]) (R2:=fun x=>[slF (rI .u32) u.p u.c x.1.2,slF (rI .u32) v.p v.c x.2.2])
    (fun x hx=>h x hx.1 hx.2.1 hx.2.2) fun g r=>by
      obtain ⟨x,a,b,e⟩:=r.1
      refine ⟨x,⟨e.symm,a.2.2.1,b.2.2.1⟩,?_,a.2.2.2,b.2.2.2,trivial⟩
      have h1:=Wd.rawL_eq a;have h2:=Wd.rawL_eq b
      simp only [rawL,List.cons.injEq,and_true] at h1 h2
      rw [h1.1,h1.2,h2.1,h2.2]
theorem eF_raw (i j:Nat) {la lb:List Int} (hi:R[i]? =some (slF (rI .u32) u.p u.c la)) (hj:R[j]? =some (slF (rI .u32) v.p v.c lb)) (h1:la.length=u.n) (h2:lb.length=v.n) (k1:u.n≤1048576) (k2:v.n≤1048576):∀g,Holds g R→(eF u v (qo ((u.s,la),(v.s,lb)))).on g:=fun g h=>
  ⟨((u.s,la),(v.s,lb)),⟨rfl,h1.symm,by show la.length≤1048576;omega,Holds.get i hi h⟩,⟨rfl,h2.symm,by show lb.length≤1048576;omega,Holds.get j hj h⟩,rfl⟩
theorem eF_weak (i:Nat) {x:Option Rat} (hi:R[i]? =some (eF u v x)):∀g,Holds g R→(qF x.isSome u v (x.getD 0)).on g:=fun g h=>eF_q (Holds.get i hi h)
end
end Go.Proofs.YtkamccndgblheaaGreat.Sp
namespace Go.Proofs.YtkamccndgblheaaGreat.Sp
open Go
set_option linter.unusedVariables false
set_option maxRecDepth 100000
set_option maxHeartbeats 1000000
theorem zue {w1:Nat} {vh1:Nat} {m1:Int} {p1:Option Addr} {n1:Nat} {c1:Nat} {l1:List Int} {w2:Nat} {vh2:Nat} {m2:Int} {p2:Option Addr} {n2:Nat} {c2:Nat} {l2:List Int} {xx:Nat} {yy:Nat} (hn1:l1.length=n1) (hw1:1≤w1∧w1≤64) (hh1:1≤vh1∧vh1≤64) (hwh1:n1=w1*vh1) (hb1:n1≤4096) (hg1:∀i,i<n1→0≤l1.getD i 0∧l1.getD i 0≤65535) (hn2:l2.length=n2) (hw2:1≤w2∧w2≤64) (hh2:1≤vh2∧vh2≤64) (hwh2:n2=w2*vh2) (hb2:n2≤4096) (hg2:∀i,i<n2→0≤l2.getD i 0∧l2.getD i 0≤65535) (hx:xx+w1≤w2) (hy:yy+vh1≤vh2):Con Tryz.prog 13 [.agg #[.int .i64 ((w1:Nat):Int),.int .i64 ((vh1:Nat):Int),.int .i64 m1,.slice p1 n1 c1],.agg #[.int .i64 ((w2:Nat):Int),.int .i64 ((vh2:Nat):Int),.int .i64 m2,.slice p2 n2 c2],.int .i64 ((xx:Nat):Int),.int .i64 ((yy:Nat):Int)] [] [slF (rI .i64) p1 c1 l1,slF (rI .i64) p2 c2 l2] (Y:=Wd×Wd) (fun y=>True) (fun y=> .agg #[y.1.b,y.1.l,y.2.b,y.2.l]) (fun y=>[]) (fun y=>[qF true y.1 y.2 (Cr.scr l1 l2 w1 vh1 n1 w2 yy xx)]):=by
 refine zq Tryz.func13 rfl rfl rfl (fun c=> ?_)
 show RunC _ _ _ _ _ [(0,.agg #[.int .i64 ((w1:Nat):Int),.int .i64 ((vh1:Nat):Int),.int .i64 m1,.slice p1 n1 c1]),(1,.agg #[.int .i64 ((w2:Nat):Int),.int .i64 ((vh2:Nat):Int),.int .i64 m2,.slice p2 n2 c2]),(2,.int .i64 ((xx:Nat):Int)),(3,.int .i64 ((yy:Nat):Int))] [] [slF (rI .i64) p1 c1 l1,slF (rI .i64) p2 c2 l2]
 refine zY 0 rfl (fun hL0=> ?_)
 refine zY 1 rfl (fun hL1=> ?_)
 refine zi<|zc<|zJ rfl rfl (zQ rfl rfl) (fun b1=> ?_)
 refine zJ rfl rfl (zQ rfl rfl) (fun b2=> ?_)
 refine zJ rfl rfl (zw zr32 rfl) (fun b3=> ?_)
 refine zj<|ze<|zi<|zc<|r_pv rfl rfl (zd rfl)<|r_pv rfl rfl (zd rfl)<|r_pv rfl rfl (zd rfl)<|r_pv rfl rfl (zd rfl)<|r_pv rfl rfl (zd rfl)<|r_pv rfl rfl (zd rfl)<|zj<|ze<|zi<|zi<|zc<|r_pv rfl rfl (zg Tryz.underlying24 rfl sz3 rfl rfl)<|r_u rfl rfl (zh 2 ty3 rfl rfl rfl)<|r_pv rfl rfl (za rfl)<|zj<|ze<|zA<|zka (X:=Nat) (fun x:Nat=>x≤vh1) (fun x=>[(28,.int .i64 ((x:Nat):Int)),(14,.int .i64 (Cr.sumN (fun k=>Cr.px l1 k*Cr.wn l2 w2 yy xx w1 k) (x*w1))),(13,.int .i64 (Cr.sumN (fun k=>Cr.wn l2 w2 yy xx w1 k*Cr.wn l2 w2 yy xx w1 k) (x*w1))),(12,.int .i64 (Cr.sumN (Cr.sq l1) (x*w1))),(11,.int .i64 (Cr.sumN (Cr.wn l2 w2 yy xx w1) (x*w1))),(10,.int .i64 (Cr.sumN (Cr.px l1) (x*w1))),(9,.int .i64 (((x*w1):Nat):Int)),(27,.int .i64 ((vh1:Nat):Int)),(8,.pointer (some ⟨b3,0,none⟩)),(5,.pointer (some ⟨b2,0,none⟩)),(4,.pointer (some ⟨b1,0,none⟩)),(2,.int .i64 ((xx:Nat):Int)),(3,.int .i64 ((yy:Nat):Int))]) (fun x=>[boxA b3 32 [.bool false,.slice none 0 0,.bool false,.slice none 0 0],boxA b2 24 [.int .i64 ((w2:Nat):Int),.int .i64 ((vh2:Nat):Int),.int .i64 m2,.slice p2 n2 c2],boxA b1 24 [.int .i64 ((w1:Nat):Int),.int .i64 ((vh1:Nat):Int),.int .i64 m1,.slice p1 n1 c1]]) (fun x=>[slF (rI .i64) p1 c1 l1,slF (rI .i64) p2 c2 l2]) (fun x:Nat=>vh1 - x) 0 (show 0≤vh1 from by exact Nat.zero_le _) ((.e rfl (by first|rfl|(congr 1;omega)|simp_all) (.e rfl (congrArg (Value.int .i64) (by rw [Nat.zero_mul];rfl)) (.e rfl (congrArg (Value.int .i64) (by rw [Nat.zero_mul];rfl)) (.e rfl (congrArg (Value.int .i64) (by rw [Nat.zero_mul];rfl)) (.e rfl (congrArg (Value.int .i64) (by rw [Nat.zero_mul];rfl)) (.e rfl (congrArg (Value.int .i64) (by rw [Nat.zero_mul];rfl)) (.e rfl (congrArg (Value.int .i64) (by rw [Nat.zero_mul];rfl)) (.of rfl)))))))):SubM _ _) (ho:=((.of [0,0,0] rfl):PickO _ _ _)) ((.of [0,1] rfl):SelR _ _ _) ?_
 rintro jj hI
 replace hI:jj≤vh1:=hI
 try dsimp only
 refine zi<|zc<|r_pv rfl rfl (zda rfl rfl)<|zj<|ze<|zi<|zG rfl (fun h4=> ?_) (fun h4=> ?_)
 ·
  refine zB<|ze<|zi<|zA<|zi<|zc<|r_pv rfl rfl (za rfl)<|r_pv rfl rfl (zd rfl)<|zj<|ze<|zi<|zc<|r_pv rfl rfl (zg Tryz.underlying24 rfl sz3 rfl rfl)<|r_u rfl rfl (zh 2 ty3 rfl rfl rfl)<|r_pv rfl rfl (za rfl)<|zj<|ze<|zA<|zka (X:=Nat) (fun x:Nat=>x≤w1) (fun x=>[(33,.int .i64 ((x:Nat):Int)),(14,.int .i64 (Cr.sumN (fun k=>Cr.px l1 k*Cr.wn l2 w2 yy xx w1 k) (jj*w1+x))),(13,.int .i64 (Cr.sumN (fun k=>Cr.wn l2 w2 yy xx w1 k*Cr.wn l2 w2 yy xx w1 k) (jj*w1+x))),(12,.int .i64 (Cr.sumN (Cr.sq l1) (jj*w1+x))),(11,.int .i64 (Cr.sumN (Cr.wn l2 w2 yy xx w1) (jj*w1+x))),(10,.int .i64 (Cr.sumN (Cr.px l1) (jj*w1+x))),(9,.int .i64 (((jj*w1+x):Nat):Int)),(32,.int .i64 ((w1:Nat):Int)),(15,.int .i64 ((jj:Nat):Int)),(28,.int .i64 ((jj:Nat):Int)),(27,.int .i64 ((vh1:Nat):Int)),(8,.pointer (some ⟨b3,0,none⟩)),(5,.pointer (some ⟨b2,0,none⟩)),(4,.pointer (some ⟨b1,0,none⟩)),(2,.int .i64 ((xx:Nat):Int)),(3,.int .i64 ((yy:Nat):Int))]) (fun x=>[boxA b3 32 [.bool false,.slice none 0 0,.bool false,.slice none 0 0],boxA b2 24 [.int .i64 ((w2:Nat):Int),.int .i64 ((vh2:Nat):Int),.int .i64 m2,.slice p2 n2 c2],boxA b1 24 [.int .i64 ((w1:Nat):Int),.int .i64 ((vh1:Nat):Int),.int .i64 m1,.slice p1 n1 c1]]) (fun x=>[slF (rI .i64) p1 c1 l1,slF (rI .i64) p2 c2 l2]) (fun x:Nat=>w1 - x) 0 (show 0≤w1 from by exact Nat.zero_le _) ((.e rfl (by first|rfl|(congr 1;omega)|simp_all) (.e rfl (congrArg (Value.int .i64) (by rfl)) (.e rfl (congrArg (Value.int .i64) (by rfl)) (.e rfl (congrArg (Value.int .i64) (by rfl)) (.e rfl (congrArg (Value.int .i64) (by rfl)) (.e rfl (congrArg (Value.int .i64) (by rfl)) (.e rfl (congrArg (Value.int .i64) (by rfl)) (.of rfl)))))))):SubM _ _) (ho:=((.of [0,0,0] rfl):PickO _ _ _)) ((.of [0,1] rfl):SelR _ _ _) ?_
  rintro ii hJ
  replace hJ:ii≤w1:=hJ
  try dsimp only
  refine zi<|zc<|r_pv rfl rfl (zda rfl rfl)<|zj<|ze<|zi<|zG rfl (fun h5=> ?_) (fun h5=> ?_)
  ·
   have hlt:jj*w1+ii<n1:=by rw [hwh1];exact Cr.at_lt (by omega) (by omega)
   have hlt2:(yy+jj)*w2+xx+ii<n2:=Cr.win_in hwh2 hx hy (by omega) (by omega)
   have hwn:=Cr.wn_at (l:=l2) (w:=w2) (y:=yy) (x:=xx) (j:=jj) (show ii<w1 by omega)
   have hp1:=hg1 _ hlt
   have hp2:=hg2 _ hlt2
   have hp3:=Cr.sq_b hp1
   have hp4:=Cr.sq_b hp2
   have hp5:=Cr.mul_g hp1 hp2
   have hs1:=Cr.px_sum (l:=l1) hg1 hb1 (show jj*w1+ii≤n1 by omega)
   have hs2:=Cr.sq_sum (l:=l1) hg1 hb1 (show jj*w1+ii≤n1 by omega)
   have hs3:=Cr.smp (Cr.wn_b hg2 hwh1 hwh2 hw1.1 hx hy) hb1 (show jj*w1+ii≤n1 by omega)
   have hs4:=Cr.smq (Cr.wn_q hg2 hwh1 hwh2 hw1.1 hx hy) hb1 (show jj*w1+ii≤n1 by omega)
   have hs5:=Cr.smq (Cr.wn_c hg1 hg2 hwh1 hwh2 hw1.1 hx hy) hb1 (show jj*w1+ii≤n1 by omega)
   have hyw1:jj*w1≤64*64:=Nat.mul_le_mul (by omega) hw1.2
   have hyw:(yy+jj)*w2≤64*64:=Nat.mul_le_mul (by omega) hw2.2
   refine zB<|ze<|zi<|zA<|zi<|zc<|r_pv rfl rfl (za rfl)<|r_pv rfl rfl (zd rfl)<|zj<|ze<|zi<|zea (OW:=[]) (O:=[boxA b3 32 [.bool false,.slice none 0 0,.bool false,.slice none 0 0],boxA b2 24 [.int .i64 ((w2:Nat):Int),.int .i64 ((vh2:Nat):Int),.int .i64 m2,.slice p2 n2 c2],boxA b1 24 [.int .i64 ((w1:Nat):Int),.int .i64 ((vh1:Nat):Int),.int .i64 m1,.slice p1 n1 c1]]) 100000 mixed (.then (.block (.then (.then (.block (.block (.then (.then (.block (.then .ret)))))))))) (by kernel_rfl)<|d_pv 0 rfl rfl (by kernel_rfl) (by kernel_rfl) rfl rfl (zg Tryz.underlying24 rfl sz22 rfl rfl)<|d_u 1 rfl rfl (by kernel_rfl) (by kernel_rfl) rfl rfl (zh 2 ty22 rfl rfl rfl)<|d_pv 2 rfl rfl (by kernel_rfl) (by kernel_rfl) rfl rfl (za rfl)<|d_pv 3 rfl rfl (by kernel_rfl) (by kernel_rfl) rfl rfl (zg Tryz.underlying24 rfl sz3 rfl rfl)<|d_u 4 rfl rfl (by kernel_rfl) (by kernel_rfl) rfl rfl (zh 2 ty3 rfl rfl rfl)<|d_pv 5 rfl rfl (by kernel_rfl) (by kernel_rfl) rfl rfl (zpa (z:=(((jj*w1):Nat):Int)) rfl rfl (w64 (by omega)))<|d_pv 6 rfl rfl (by kernel_rfl) (by kernel_rfl) rfl rfl (za rfl)<|d_pv 7 rfl rfl (by kernel_rfl) (by kernel_rfl) rfl rfl (zx (z:=((((jj*w1)+ii):Nat):Int)) rfl rfl (w64 (by omega)))<|zga (x0:=(l1.getD ((jj*w1)+ii) 0)) 8 rfl rfl (by kernel_rfl) (by kernel_rfl) 0 ((jj*w1)+ii) rfl Tryz.underlying22 sz3 rfl rfl rfl (by first|rfl|assumption|(simp_all;done)|omega) rfl rfl (gD (d:=0) (by omega)) (fun b6 o7 hok8=> ?_)
   replace hok8:=zR.1 hok8
   refine d_u 9 rfl rfl (by kernel_rfl) (by kernel_rfl) rfl rfl (zk (j:=0) 0 ty3 rfl rfl rfl rfl)<|d_pv 10 rfl rfl (by kernel_rfl) (by kernel_rfl) rfl rfl (zg Tryz.underlying24 rfl sz22 rfl rfl)<|d_u 11 rfl rfl (by kernel_rfl) (by kernel_rfl) rfl rfl (zh 1 ty22 rfl rfl rfl)<|d_pv 12 rfl rfl (by kernel_rfl) (by kernel_rfl) rfl rfl (za rfl)<|d_pv 13 rfl rfl (by kernel_rfl) (by kernel_rfl) rfl rfl (za rfl)<|d_pv 14 rfl rfl (by kernel_rfl) (by kernel_rfl) rfl rfl (zx (z:=(((yy+jj):Nat):Int)) rfl rfl (w64 (by omega)))<|d_pv 15 rfl rfl (by kernel_rfl) (by kernel_rfl) rfl rfl (zg Tryz.underlying24 rfl sz3 rfl rfl)<|d_u 16 rfl rfl (by kernel_rfl) (by kernel_rfl) rfl rfl (zh 1 ty3 rfl rfl rfl)<|d_pv 17 rfl rfl (by kernel_rfl) (by kernel_rfl) rfl rfl (zpa (z:=((((yy+jj)*w2):Nat):Int)) rfl rfl (w64 (by omega)))<|d_pv 18 rfl rfl (by kernel_rfl) (by kernel_rfl) rfl rfl (za rfl)<|d_pv 19 rfl rfl (by kernel_rfl) (by kernel_rfl) rfl rfl (zx (z:=(((((yy+jj)*w2)+xx):Nat):Int)) rfl rfl (w64 (by omega)))<|d_pv 20 rfl rfl (by kernel_rfl) (by kernel_rfl) rfl rfl (za rfl)<|d_pv 21 rfl rfl (by kernel_rfl) (by kernel_rfl) rfl rfl (zx (z:=((((((yy+jj)*w2)+xx)+ii):Nat):Int)) rfl rfl (w64 (by omega)))<|zga (x0:=(l2.getD ((((yy+jj)*w2)+xx)+ii) 0)) 22 rfl rfl (by kernel_rfl) (by kernel_rfl) 2 ((((yy+jj)*w2)+xx)+ii) rfl Tryz.underlying22 sz3 rfl rfl rfl (by first|rfl|assumption|(simp_all;done)|omega) rfl rfl (gD (d:=0) (by omega)) (fun b9 o10 hok11=> ?_)
   replace hok11:=zR.1 hok11
   refine d_u 23 rfl rfl (by kernel_rfl) (by kernel_rfl) rfl rfl (zk (j:=0) 0 ty3 rfl rfl rfl rfl)<|d_pv 24 rfl rfl (by kernel_rfl) (by kernel_rfl) rfl rfl (zd rfl)<|d_pv 25 rfl rfl (by kernel_rfl) (by kernel_rfl) rfl rfl (zd rfl)<|zba (by kernel_rfl)<|ze<|zi<|zc<|r_pv rfl rfl (za rfl)<|r_pv rfl rfl (zx (z:=((((jj*w1+ii)+1):Nat):Int)) rfl rfl (w64 (by omega)))<|r_pv rfl rfl (zd rfl)<|zj<|ze<|zi<|zc<|r_pv rfl rfl (za rfl)<|r_pv rfl rfl (za rfl)<|r_pv rfl rfl (zx (z:=((Cr.sumN (Cr.px l1) (jj*w1+ii))+(l1.getD ((jj*w1)+ii) 0))) rfl rfl (w64 (by omega)))<|r_pv rfl rfl (zd rfl)<|zj<|ze<|zi<|zc<|r_pv rfl rfl (za rfl)<|r_pv rfl rfl (za rfl)<|r_pv rfl rfl (zx (z:=((Cr.sumN (Cr.wn l2 w2 yy xx w1) (jj*w1+ii))+(l2.getD ((((yy+jj)*w2)+xx)+ii) 0))) rfl rfl (w64 (by omega)))<|r_pv rfl rfl (zd rfl)<|zj<|ze<|zi<|zc<|r_pv rfl rfl (za rfl)<|r_pv rfl rfl (za rfl)<|r_pv rfl rfl (za rfl)<|r_pv rfl rfl (zpa (z:=((l1.getD ((jj*w1)+ii) 0)*(l1.getD ((jj*w1)+ii) 0))) rfl rfl (w64 (by omega)))<|r_pv rfl rfl (zx (z:=((Cr.sumN (Cr.sq l1) (jj*w1+ii))+((l1.getD ((jj*w1)+ii) 0)*(l1.getD ((jj*w1)+ii) 0)))) rfl rfl (w64 (by omega)))<|r_pv rfl rfl (zd rfl)<|zj<|ze<|zi<|zc<|r_pv rfl rfl (za rfl)<|r_pv rfl rfl (za rfl)<|r_pv rfl rfl (za rfl)<|r_pv rfl rfl (zpa (z:=((l2.getD ((((yy+jj)*w2)+xx)+ii) 0)*(l2.getD ((((yy+jj)*w2)+xx)+ii) 0))) rfl rfl (w64 (by omega)))<|r_pv rfl rfl (zx (z:=((Cr.sumN (fun k=>Cr.wn l2 w2 yy xx w1 k*Cr.wn l2 w2 yy xx w1 k) (jj*w1+ii))+((l2.getD ((((yy+jj)*w2)+xx)+ii) 0)*(l2.getD ((((yy+jj)*w2)+xx)+ii) 0)))) rfl rfl (w64 (by omega)))<|r_pv rfl rfl (zd rfl)<|zj<|ze<|zc<|r_pv rfl rfl (za rfl)<|r_pv rfl rfl (za rfl)<|r_pv rfl rfl (za rfl)<|r_pv rfl rfl (zpa (z:=((l1.getD ((jj*w1)+ii) 0)*(l2.getD ((((yy+jj)*w2)+xx)+ii) 0))) rfl rfl (w64 (by omega)))<|r_pv rfl rfl (zx (z:=((Cr.sumN (fun k=>Cr.px l1 k*Cr.wn l2 w2 yy xx w1 k) (jj*w1+ii))+((l1.getD ((jj*w1)+ii) 0)*(l2.getD ((((yy+jj)*w2)+xx)+ii) 0)))) rfl rfl (w64 (by omega)))<|r_pv rfl rfl (zd rfl)<|zj<|zT<|ze<|zc<|r_pv rfl rfl (zx (z:=(((ii+1):Nat):Int)) rfl rfl (w64 (by omega)))<|r_pv rfl rfl (za rfl)<|zj<|zha (ii+1) (show (ii+1)≤w1 from by omega) (by show w1 - (ii+1)<w1 - ii;omega) ((.c rfl (.e rfl (congrArg (Value.int .i64) (by rw [← hwn];rfl)) (.e rfl (congrArg (Value.int .i64) (by rw [← hwn];rfl)) (.e rfl (congrArg (Value.int .i64) (by rfl)) (.e rfl (congrArg (Value.int .i64) (by rw [← hwn];rfl)) (.e rfl (congrArg (Value.int .i64) (by rfl)) (.e rfl (congrArg (Value.int .i64) (by rfl)) (.of rfl)))))))):SubM _ _) (ho:=((.of [0,0,0] rfl):PickO _ _ _)) ((.of [2,3] rfl):SelR _ _ _)
  ·
   refine zja<|zl<|zl<|zu<|zT<|ze<|zc<|r_pv rfl rfl (zx (z:=(((jj+1):Nat):Int)) rfl rfl (w64 (by omega)))<|r_pv rfl rfl (za rfl)<|zj ?_
   have e9:jj*w1+ii=(jj+1)*w1:=by rw [Nat.succ_mul];omega
   refine zha (jj+1) (show (jj+1)≤vh1 from by omega) (by show vh1 - (jj+1)<vh1 - jj;omega) ((.c rfl (.e rfl (congrArg (Value.int .i64) (by rw [e9])) (.e rfl (congrArg (Value.int .i64) (by rw [e9])) (.e rfl (congrArg (Value.int .i64) (by rw [e9])) (.e rfl (congrArg (Value.int .i64) (by rw [e9])) (.e rfl (congrArg (Value.int .i64) (by rw [e9])) (.e rfl (congrArg (Value.int .i64) (by rw [e9])) (.of rfl)))))))):SubM _ _) (ho:=((.of [0,0,0] rfl):PickO _ _ _)) ((.of [0,1] rfl):SelR _ _ _)
 ·
  refine zja<|zl<|zl<|zu<|ze<|zi ?_
  have hj9:jj*w1=n1:=by rw [show jj=vh1 by omega,hwh1,Nat.mul_comm]
  have e12:jj*w1=n1:=by exact hj9
  rw [e12]
  have hs1:=Cr.px_sum (l:=l1) hg1 hb1 (Nat.le_refl n1)
  have hs2:=Cr.sq_sum (l:=l1) hg1 hb1 (Nat.le_refl n1)
  have hs3:=Cr.smp (Cr.wn_b hg2 hwh1 hwh2 hw1.1 hx hy) hb1 (Nat.le_refl n1)
  have hs4:=Cr.smq (Cr.wn_q hg2 hwh1 hwh2 hw1.1 hx hy) hb1 (Nat.le_refl n1)
  have hs5:=Cr.smq (Cr.wn_c hg1 hg2 hwh1 hwh2 hw1.1 hx hy) hb1 (Nat.le_refl n1)
  have hq2:=Bl.mul_b (x:=((n1:Nat):Int)) (y:=(Cr.sumN (Cr.sq l1) n1)) (m:=4096) (n:=17591649177600) (by omega) hs2
  have hq4:=Bl.mul_b (x:=((n1:Nat):Int)) (y:=(Cr.sumN (fun k=>Cr.wn l2 w2 yy xx w1 k*Cr.wn l2 w2 yy xx w1 k) n1)) (m:=4096) (n:=17591649177600) (by omega) hs4
  have hq5:=Bl.mul_b (x:=((n1:Nat):Int)) (y:=(Cr.sumN (fun k=>Cr.px l1 k*Cr.wn l2 w2 yy xx w1 k) n1)) (m:=4096) (n:=17591649177600) (by omega) hs5
  have hq1:=Bl.mul_b hs1 hs1
  have hq3:=Bl.mul_b hs3 hs3
  have hq6:=Bl.mul_b hs1 hs3
  refine zc<|r_pv rfl rfl (za rfl)<|r_pv rfl rfl (za rfl)<|r_pv rfl rfl (zpa (z:=(((n1:Nat):Int)*(Cr.sumN (fun k=>Cr.px l1 k*Cr.wn l2 w2 yy xx w1 k) n1))) rfl rfl (w64 (by omega)))<|r_pv rfl rfl (za rfl)<|r_pv rfl rfl (za rfl)<|r_pv rfl rfl (zpa (z:=((Cr.sumN (Cr.px l1) n1)*(Cr.sumN (Cr.wn l2 w2 yy xx w1) n1))) rfl rfl (w64 (by omega)))<|r_pv rfl rfl (zaa (z:=((((n1:Nat):Int)*(Cr.sumN (fun k=>Cr.px l1 k*Cr.wn l2 w2 yy xx w1 k) n1)) - ((Cr.sumN (Cr.px l1) n1)*(Cr.sumN (Cr.wn l2 w2 yy xx w1) n1)))) rfl rfl (w64 (by omega)))<|r_pv rfl rfl (za rfl)<|r_pv rfl rfl (za rfl)<|r_pv rfl rfl (zpa (z:=(((n1:Nat):Int)*(Cr.sumN (Cr.sq l1) n1))) rfl rfl (w64 (by omega)))<|r_pv rfl rfl (za rfl)<|r_pv rfl rfl (za rfl)<|r_pv rfl rfl (zpa (z:=((Cr.sumN (Cr.px l1) n1)*(Cr.sumN (Cr.px l1) n1))) rfl rfl (w64 (by omega)))<|r_pv rfl rfl (zaa (z:=((((n1:Nat):Int)*(Cr.sumN (Cr.sq l1) n1)) - ((Cr.sumN (Cr.px l1) n1)*(Cr.sumN (Cr.px l1) n1)))) rfl rfl (w64 (by omega)))<|r_pv rfl rfl (za rfl)<|r_pv rfl rfl (za rfl)<|r_pv rfl rfl (zpa (z:=(((n1:Nat):Int)*(Cr.sumN (fun k=>Cr.wn l2 w2 yy xx w1 k*Cr.wn l2 w2 yy xx w1 k) n1))) rfl rfl (w64 (by omega)))<|r_pv rfl rfl (za rfl)<|r_pv rfl rfl (za rfl)<|r_pv rfl rfl (zpa (z:=((Cr.sumN (Cr.wn l2 w2 yy xx w1) n1)*(Cr.sumN (Cr.wn l2 w2 yy xx w1) n1))) rfl rfl (w64 (by omega)))<|r_pv rfl rfl (zaa (z:=((((n1:Nat):Int)*(Cr.sumN (fun k=>Cr.wn l2 w2 yy xx w1 k*Cr.wn l2 w2 yy xx w1 k) n1)) - ((Cr.sumN (Cr.wn l2 w2 yy xx w1) n1)*(Cr.sumN (Cr.wn l2 w2 yy xx w1) n1)))) rfl rfl (w64 (by omega)))<|r_pv rfl rfl (zd rfl)<|r_pv rfl rfl (zd rfl)<|r_pv rfl rfl (zd rfl)<|zj<|ze<|zi<|zGa (X:=Unit) (fun x=>True) (fun x=>[(111,.bool (decide ((((((n1:Nat):Int)*(Cr.sumN (Cr.sq l1) n1)) - ((Cr.sumN (Cr.px l1) n1)*(Cr.sumN (Cr.px l1) n1)))=0)∨(((((n1:Nat):Int)*(Cr.sumN (fun k=>Cr.wn l2 w2 yy xx w1 k*Cr.wn l2 w2 yy xx w1 k) n1)) - ((Cr.sumN (Cr.wn l2 w2 yy xx w1) n1)*(Cr.sumN (Cr.wn l2 w2 yy xx w1) n1)))=0)))),(21,.int .i64 ((((n1:Nat):Int)*(Cr.sumN (fun k=>Cr.wn l2 w2 yy xx w1 k*Cr.wn l2 w2 yy xx w1 k) n1)) - ((Cr.sumN (Cr.wn l2 w2 yy xx w1) n1)*(Cr.sumN (Cr.wn l2 w2 yy xx w1) n1)))),(20,.int .i64 ((((n1:Nat):Int)*(Cr.sumN (Cr.sq l1) n1)) - ((Cr.sumN (Cr.px l1) n1)*(Cr.sumN (Cr.px l1) n1)))),(19,.int .i64 ((((n1:Nat):Int)*(Cr.sumN (fun k=>Cr.px l1 k*Cr.wn l2 w2 yy xx w1 k) n1)) - ((Cr.sumN (Cr.px l1) n1)*(Cr.sumN (Cr.wn l2 w2 yy xx w1) n1)))),(8,.pointer (some ⟨b3,0,none⟩))]) (fun x=>[boxA b3 32 [.bool false,.slice none 0 0,.bool false,.slice none 0 0],boxA b2 24 [.int .i64 ((w2:Nat):Int),.int .i64 ((vh2:Nat):Int),.int .i64 m2,.slice p2 n2 c2],boxA b1 24 [.int .i64 ((w1:Nat):Int),.int .i64 ((vh1:Nat):Int),.int .i64 m1,.slice p1 n1 c1]]) (fun x=>[slF (rI .i64) p1 c1 l1,slF (rI .i64) p2 c2 l2]) ?_ ?_
  ·
   refine zc<|r_pv rfl rfl (za rfl)<|r_pv rfl rfl (zva rfl rfl)<|zP rfl rfl (za rfl) (fun h13=> ?_) (fun h13=> ?_)
   ·
    refine zb rfl rfl<|zb rfl rfl<|r_pv rfl rfl (zm rfl rfl)<|zj ?_
    exact zca () (show True from by first|trivial|omega|simp_all) ((.e rfl (congrArg Value.bool (by first|(simp_all;done)|(simp_all;omega)|(simp;omega)|omega)) (.of rfl)):SubM _ _) (ho:=((.of [0,0,0] rfl):PickO _ _ _)) ((.of [0,1] rfl):SelR _ _ _)
   ·
    refine r_pv rfl rfl (za rfl)<|r_pv rfl rfl (zva rfl rfl)<|r_pv rfl rfl (zm rfl rfl)<|zj ?_
    exact zca () (show True from by first|trivial|omega|simp_all) ((.e rfl (congrArg Value.bool (by first|(simp_all;done)|(simp_all;omega)|(simp;omega)|omega)) (.of rfl)):SubM _ _) (ho:=((.of [0,0,0] rfl):PickO _ _ _)) ((.of [0,1] rfl):SelR _ _ _)
  ·
   rintro ⟨⟩ -
   try dsimp only
   refine zG rfl (fun hz0=> ?_) (fun hz0=> ?_)
   ·
    refine zi<|zc<|zy rfl rfl (.c rfl .n) ce16 (znb (z:=0) (hz:=by first|rfl|assumption|omega)) (.n) ?_
    rintro ⟨w314,w415⟩ -
    dsimp only [List.append_eq,List.nil_append,List.cons_append]
    refine zn 0 rfl rfl rfl rfl rfl sz32 rfl (.take (.take (.take (.take .nil)))) .z<|zj<|ze<|zI<|zp ?_
    exact zE Tryz.results13 (w314,w415) trivial (zt 0 ty32 rfl rfl (.take (.take (.take (.take .nil))))) rfl (ho:=(.n:PickO _ _ _)) ((.e (j:=0) rfl (by rw [Cr.scr_ref0 hwh1 hw1.1 hz0]) .n):SelR _ _ _)
   ·
    refine zB<|ze<|zi<|zc<|r_pv rfl rfl (za rfl)<|r_pv rfl rfl (za rfl)<|zy rfl rfl (.c rfl (.c rfl .n)) ce25 (zJc (z1:=((((n1:Nat):Int)*(Cr.sumN (fun k=>Cr.px l1 k*Cr.wn l2 w2 yy xx w1 k) n1)) - ((Cr.sumN (Cr.px l1) n1)*(Cr.sumN (Cr.wn l2 w2 yy xx w1) n1)))) (z2:=((((n1:Nat):Int)*(Cr.sumN (Cr.sq l1) n1)) - ((Cr.sumN (Cr.px l1) n1)*(Cr.sumN (Cr.px l1) n1)))) (hz1:=by first|rfl|assumption|omega) (hz2:=by first|rfl|assumption|omega) (hy:=by exact fun e=>hz0 (Or.inl e))) (.n) ?_
    rintro ⟨w316,w417⟩ -
    dsimp only [List.append_eq,List.nil_append,List.cons_append]
    refine r_pv rfl rfl (za rfl)<|r_pv rfl rfl (zr rfl rfl)<|r_pv rfl rfl (zr rfl rfl)<|zJ rfl rfl (zw zr32 rfl) (fun b18=> ?_)
    refine zn 0 rfl rfl rfl rfl rfl sz32 rfl (.take (.take (.take (.take .nil)))) .z<|r_pv rfl rfl (zd rfl)<|zj<|ze<|zi<|zc<|r_pv rfl rfl (za rfl)<|r_pv rfl rfl (za rfl)<|r_pv rfl rfl (zBc (z:=(-((((n1:Nat):Int)*(Cr.sumN (fun k=>Cr.px l1 k*Cr.wn l2 w2 yy xx w1 k) n1)) - ((Cr.sumN (Cr.px l1) n1)*(Cr.sumN (Cr.wn l2 w2 yy xx w1) n1))))) rfl (w64 (by omega)))<|r_pv rfl rfl (zxe rfl rfl)<|r_pv rfl rfl (za rfl)<|zy rfl rfl (.c rfl (.c rfl .n)) ce25 (zJc (z1:=(max ((((n1:Nat):Int)*(Cr.sumN (fun k=>Cr.px l1 k*Cr.wn l2 w2 yy xx w1 k) n1)) - ((Cr.sumN (Cr.px l1) n1)*(Cr.sumN (Cr.wn l2 w2 yy xx w1) n1))) (-((((n1:Nat):Int)*(Cr.sumN (fun k=>Cr.px l1 k*Cr.wn l2 w2 yy xx w1 k) n1)) - ((Cr.sumN (Cr.px l1) n1)*(Cr.sumN (Cr.wn l2 w2 yy xx w1) n1)))))) (z2:=((((n1:Nat):Int)*(Cr.sumN (fun k=>Cr.wn l2 w2 yy xx w1 k*Cr.wn l2 w2 yy xx w1 k) n1)) - ((Cr.sumN (Cr.wn l2 w2 yy xx w1) n1)*(Cr.sumN (Cr.wn l2 w2 yy xx w1) n1)))) (hz1:=by first|rfl|assumption|omega) (hz2:=by first|rfl|assumption|omega) (hy:=by exact fun e=>hz0 (Or.inr e))) (.n) ?_
    rintro ⟨w319,w420⟩ -
    dsimp only [List.append_eq,List.nil_append,List.cons_append]
    refine r_pv rfl rfl (za rfl)<|r_pv rfl rfl (zr rfl rfl)<|r_pv rfl rfl (zr rfl rfl)<|zJ rfl rfl (zw zr32 rfl) (fun b21=> ?_)
    refine zn 0 rfl rfl rfl rfl rfl sz32 rfl (.take (.take (.take (.take .nil)))) .z<|r_pv rfl rfl (zd rfl)<|zj<|ze<|zi<|zc<|r_u rfl rfl (zf 1 ty32 rfl rfl (.take (.take (.take (.take .nil)))))<|r_u rfl rfl (zf 0 ty32 rfl rfl (.take (.take (.take (.take .nil)))))<|zy rfl rfl (.c rfl (.c rfl .n)) ce39 (zbf (k1:=true) (u1:=w316) (v1:=w417) (q1:=Rat.divInt ((((n1:Nat):Int)*(Cr.sumN (fun k=>Cr.px l1 k*Cr.wn l2 w2 yy xx w1 k) n1)) - ((Cr.sumN (Cr.px l1) n1)*(Cr.sumN (Cr.wn l2 w2 yy xx w1) n1))) ((((n1:Nat):Int)*(Cr.sumN (Cr.sq l1) n1)) - ((Cr.sumN (Cr.px l1) n1)*(Cr.sumN (Cr.px l1) n1)))) (k2:=true) (u2:=w319) (v2:=w420) (q2:=Rat.divInt (max ((((n1:Nat):Int)*(Cr.sumN (fun k=>Cr.px l1 k*Cr.wn l2 w2 yy xx w1 k) n1)) - ((Cr.sumN (Cr.px l1) n1)*(Cr.sumN (Cr.wn l2 w2 yy xx w1) n1))) (-((((n1:Nat):Int)*(Cr.sumN (fun k=>Cr.px l1 k*Cr.wn l2 w2 yy xx w1 k) n1)) - ((Cr.sumN (Cr.px l1) n1)*(Cr.sumN (Cr.wn l2 w2 yy xx w1) n1))))) ((((n1:Nat):Int)*(Cr.sumN (fun k=>Cr.wn l2 w2 yy xx w1 k*Cr.wn l2 w2 yy xx w1 k) n1)) - ((Cr.sumN (Cr.wn l2 w2 yy xx w1) n1)*(Cr.sumN (Cr.wn l2 w2 yy xx w1) n1)))) (hl:=by exact Cr.hqd2 ⟨by omega,by omega⟩ ⟨by omega,by omega⟩ (fun e=>hz0 (Or.inl e)) ⟨by omega,by omega⟩ ⟨by omega,by omega⟩ (fun e=>hz0 (Or.inr e)))) (.c (j:=1) rfl (.c (j:=0) rfl .n)) ?_
    rintro ⟨w322,w423⟩ -
    dsimp only [List.append_eq,List.nil_append,List.cons_append]
    refine zn 2 rfl rfl rfl rfl rfl sz32 rfl (.take (.take (.take (.take .nil)))) (.s (.s .z))<|zj<|ze<|zI ?_
    exact zE Tryz.results13 (w322,w423) trivial (zt 2 ty32 rfl rfl (.take (.take (.take (.take .nil))))) rfl (ho:=(.n:PickO _ _ _)) ((.e (j:=0) rfl (by rw [← Cr.scr_ref1 hwh1 hw1.1 hz0];rfl) .n):SelR _ _ _)
theorem zRd {w1:Nat} {vh1:Nat} {m1:Int} {p1:Option Addr} {n1:Nat} {c1:Nat} {l1:List Int} {w2:Nat} {vh2:Nat} {m2:Int} {p2:Option Addr} {n2:Nat} {c2:Nat} {l2:List Int} {ex:Int} {ey:Int} (hn1:l1.length=n1) (hw1:1≤w1∧w1≤64) (hh1:1≤vh1∧vh1≤64) (hwh1:n1=w1*vh1) (hb1:n1≤4096) (hg1:∀i,i<n1→0≤l1.getD i 0∧l1.getD i 0≤65535) (hn2:l2.length=n2) (hw2:1≤w2∧w2≤64) (hh2:1≤vh2∧vh2≤64) (hwh2:n2=w2*vh2) (hb2:n2≤4096) (hg2:∀i,i<n2→0≤l2.getD i 0∧l2.getD i 0≤65535) (hp:(Cr.pos ((w1:Nat):Int) ((vh1:Nat):Int) ((w2:Nat):Int) ((vh2:Nat):Int) ex ey)):Con Tryz.prog 13 [.agg #[.int .i64 (((w1:Nat):Int)),.int .i64 (((vh1:Nat):Int)),.int .i64 (m1),.slice (p1) (n1) (c1)],.agg #[.int .i64 (((w2:Nat):Int)),.int .i64 (((vh2:Nat):Int)),.int .i64 (m2),.slice (p2) (n2) (c2)],.int .i64 (ex),.int .i64 (ey)] [] [slF (rI .i64) (p1) (c1) (l1),slF (rI .i64) (p2) (c2) (l2)] (Y:=(Wd)×(Wd)) (fun y=>True) (fun y=> .agg #[y.1.b,y.1.l,y.2.b,y.2.l]) (fun y=>[]) (fun y=>[qF true y.1 y.2 ((Cr.scq l1 l2 ((w1:Nat):Int) ((vh1:Nat):Int) ((w2:Nat):Int) ex ey))]):=by
  obtain ⟨xx,rfl⟩:=Int.eq_ofNat_of_zero_le hp.1
  obtain ⟨yy,rfl⟩:=Int.eq_ofNat_of_zero_le hp.2.1
  have hp2:=hp.2.2.1
  have hp3:=hp.2.2.2
  rw [← Cr.scq_nat hn1]
  exact zue hn1 hw1 hh1 hwh1 hb1 hg1 hn2 hw2 hh2 hwh2 hb2 hg2 (by omega) (by omega)
end Go.Proofs.YtkamccndgblheaaGreat.Sp
namespace Go.Proofs.YtkamccndgblheaaGreat.Sp
open Go
set_option linter.unusedVariables false
set_option maxRecDepth 100000
set_option maxHeartbeats 1000000
theorem zSd {u1:Wd} {v1:Wd} {x1:Option Rat}:Con Tryz.prog 53 [.agg #[u1.b,u1.l,v1.b,v1.l]] [] [eF u1 v1 (x1)] (Y:=Unit) (fun y=>True) (fun y=> .bool (x1.isSome)) (fun y=>[]) (fun y=>[]):=by
  exact zFf (fun y hy h1 h2=>by subst hy;have h:= @zEc y.1.1 u1.p _ u1.c y.1.2 y.2.1 v1.p _ v1.c y.2.2 rfl rfl h1 h2;rw [qo_s];exact h)
theorem zzd {u1:Wd} {v1:Wd} {x1:Option Rat}:Con Tryz.prog 28 [.agg #[u1.b,u1.l,v1.b,v1.l]] [] [eF u1 v1 (x1)] (Y:=Unit) (fun y=>True) (fun y=> .bool (x1.isSome)) (fun y=>[]) (fun y=>[]):=by
  exact zFf (fun y hy h1 h2=>by subst hy;have h:= @zLb y.1.1 u1.p _ u1.c y.1.2 y.2.1 v1.p _ v1.c y.2.2 rfl rfl h1 h2;rw [qo_s];exact h)
theorem zTd {u1:Wd} {v1:Wd} (h1:u1.n≤1048576) (h2:v1.n≤1048576):Con Tryz.prog 26 [.agg #[u1.b,u1.l,v1.b,v1.l]] [] [] (Y:=Unit) (fun y=>True) (fun y=> .int .i64 (((u1.n+v1.n):Nat):Int)) (fun y=>[]) (fun y=>[]):=by
 refine zq Tryz.func26 rfl rfl rfl (fun c=> ?_)
 show RunC _ _ _ _ _ [(0,.agg #[u1.b,u1.l,v1.b,v1.l])] [] []
 refine zi<|zc<|zJ rfl rfl (zQ rfl rfl) (fun b1=> ?_)
 refine r_pv rfl rfl (zd rfl)<|zj<|ze<|zi<|zc<|r_pv rfl rfl (zg Tryz.underlying32 rfl sz30 rfl rfl)<|r_pv rfl rfl (zg Tryz.underlying30 rfl sz28 rfl rfl)<|r_u rfl rfl (zh 0 ty28 rfl rfl rfl)<|r_pv rfl rfl (zM Tryz.underlying28 rfl)<|r_pv rfl rfl (zg Tryz.underlying32 rfl sz30 rfl rfl)<|r_pv rfl rfl (zg Tryz.underlying30 rfl sz28 rfl rfl)<|r_u rfl rfl (zh 0 ty28 rfl rfl rfl)<|r_pv rfl rfl (zM Tryz.underlying28 rfl)<|r_pv rfl rfl (zx (z:=(((u1.n+v1.n):Nat):Int)) rfl rfl (w64 (by omega)))<|r_pv rfl rfl (zd rfl)<|zj<|ze<|zI ?_
 exact zE Tryz.results26 () trivial (zo rfl) rfl (ho:=(.n:PickO _ _ _)) (.n:SelR _ _ _)
end Go.Proofs.YtkamccndgblheaaGreat.Sp
namespace Go.Proofs.YtkamccndgblheaaGreat.Sp
open Go
set_option linter.unusedVariables false
set_option maxRecDepth 100000
set_option maxHeartbeats 1000000
theorem zif {wi1:Int} {hi1:Int} {m1:Int} {p1:Option Addr} {n1:Nat} {c1:Nat} {l1:List Int} {wi2:Int} {hi2:Int} {m2:Int} {p2:Option Addr} {n2:Nat} {c2:Nat} {l2:List Int} {pa:Option Addr} {na:Nat} {ca:Nat} {la:List (Int×Int)} {sz:Int} {rc:Int} {ul:Wd} {vl:Wd} {lx:Option Rat} (hn1:l1.length=n1) (hn2:l2.length=n2) (hla:la.length=na) (hna:na≤5) (hlq:Big.hq (lx.getD 0)≤16) (hsz: -9223372036854775808≤sz∧sz≤9223372036854775807) (hrc: -9223372036854775808≤rc∧rc≤9223372036854775807):Con Tryz.prog 27 [.agg #[.int .i64 wi1,.int .i64 hi1,.int .i64 m1,.slice p1 n1 c1],.agg #[.int .i64 wi2,.int .i64 hi2,.int .i64 m2,.slice p2 n2 c2],.slice pa na ca,.int .i64 sz,.int .i64 rc,.agg #[ul.b,ul.l,vl.b,vl.l]] [] [slF (rI .i64) p1 c1 l1,slF (rI .i64) p2 c2 l2,slF (rI2 .i64) pa ca la,eF ul vl lx] (Y:=(Option Addr)×Nat×Nat×(List (Int×Int))×(Option Addr)×Nat×Nat×(List Bool)) (fun y=>y.2.2.2.1.length=y.2.1∧y.2.2.2.2.2.2.2.length=y.2.2.2.2.2.1∧y.2.2.2.1=(if ((Cr.rk2 wi1 hi1 m1 l1 wi2 hi2 m2 l2)∧(Cr.srk sz rc)∧lx.isSome=true∧¬(Cr.outp wi1 hi1 sz la)) then (Cr.fil (fun p=>Cr.shP (lx.getD 0) p (Cr.shA l1 l2 wi1.toNat wi2.toNat hi2.toNat sz.toNat rc.toNat p)) (0,0) (0,0) la na) else [])∧y.2.2.2.2.2.2.2=(if ((Cr.rk2 wi1 hi1 m1 l1 wi2 hi2 m2 l2)∧(Cr.srk sz rc)∧lx.isSome=true∧¬(Cr.outp wi1 hi1 sz la)) then (Cr.fil (fun p=>Cr.shF (lx.getD 0) (Cr.shA l1 l2 wi1.toNat wi2.toNat hi2.toNat sz.toNat rc.toNat p)) false (0,0) la na) else [])) (fun y=> .tuple #[.slice (y.1) (y.2.1) (y.2.2.1),.slice (y.2.2.2.2.1) (y.2.2.2.2.2.1) (y.2.2.2.2.2.2.1),.int .i64 (Cr.cd3 (Cr.rk2 wi1 hi1 m1 l1 wi2 hi2 m2 l2) (Cr.srk sz rc) lx.isSome (Cr.outp wi1 hi1 sz la))]) (fun y=>[]) (fun y=>[slF (rI2 .i64) (y.1) (y.2.2.1) (y.2.2.2.1),slF rB (y.2.2.2.2.1) (y.2.2.2.2.2.2.1) (y.2.2.2.2.2.2.2)]):=by
 refine zq Tryz.func27 rfl rfl rfl (fun c=> ?_)
 show RunC _ _ _ _ _ [(0,.agg #[.int .i64 wi1,.int .i64 hi1,.int .i64 m1,.slice p1 n1 c1]),(1,.agg #[.int .i64 wi2,.int .i64 hi2,.int .i64 m2,.slice p2 n2 c2]),(2,.slice pa na ca),(3,.int .i64 sz),(4,.int .i64 rc),(5,.agg #[ul.b,ul.l,vl.b,vl.l])] [] [slF (rI .i64) p1 c1 l1,slF (rI .i64) p2 c2 l2,slF (rI2 .i64) pa ca la,eF ul vl lx]
 refine zY 0 rfl (fun hL0=> ?_)
 refine zY 1 rfl (fun hL1=> ?_)
 refine zY 2 rfl (fun hL2=> ?_)
 refine zi<|zc<|zJ rfl rfl (zQ rfl rfl) (fun b1=> ?_)
 refine zJ rfl rfl (zQ rfl rfl) (fun b2=> ?_)
 refine zJ rfl rfl (zQ rfl rfl) (fun b3=> ?_)
 refine r_pv rfl rfl (zd rfl)<|r_pv rfl rfl (zd rfl)<|r_pv rfl rfl (zd rfl)<|zj<|ze<|zi<|zi<|zc<|r_u rfl rfl (zf 2 ty24 rfl rfl (.take (.take (.take (.take .nil)))))<|r_u rfl rfl (zf 1 ty24 rfl rfl (.take (.take (.take (.take .nil)))))<|zN rfl rfl (.c rfl (.c rfl .n)) ce34 (zSc (wi1:=wi1) (hi1:=hi1) (m1:=m1) (p1:=p1) (n1:=n1) (c1:=c1) (l1:=l1) (wi2:=wi2) (hi2:=hi2) (m2:=m2) (p2:=p2) (n2:=n2) (c2:=c2) (l2:=l2) (hn1:=by assumption) (hn2:=by assumption)) (.c (j:=0) rfl (.c (j:=1) rfl .n))<|r_pv rfl rfl (zd rfl)<|zj<|ze<|zi<|zc<|r_pv rfl rfl (za rfl)<|r_pv rfl rfl (zKa rfl rfl)<|zj<|ze<|zG rfl (fun hc=> ?_) (fun hc=> ?_)
 ·
  have hno:¬(Cr.rk2 wi1 hi1 m1 l1 wi2 hi2 m2 l2):=fun k=>hc (if_pos k)
  refine zi<|zc<|r_pv rfl rfl (za rfl)<|r_pv rfl rfl (zd rfl)<|r_pv rfl rfl (zd rfl)<|r_pv rfl rfl (zd rfl)<|zj<|ze<|zI<|zp<|zbb 13 (rI2 .i64)<|zta 0 rfl .z<|zbb 4 rB<|zta 0 rfl .z ?_
  have hg9:¬((Cr.rk2 wi1 hi1 m1 l1 wi2 hi2 m2 l2)∧(Cr.srk sz rc)∧lx.isSome=true∧¬(Cr.outp wi1 hi1 sz la)):=fun k=>hno k.1
  exact zzb Tryz.results27 (none,0,0,[],none,0,0,[]) (⟨rfl,rfl,(if_neg hg9).symm,(if_neg hg9).symm⟩) (zo rfl) (zo rfl) (zo rfl) (by simp only [Cr.cd3,if_neg hno]) (ho:=(.n:PickO _ _ _)) ((.of [1,0] rfl):SelR _ _ _)
 ·
  have hok:(Cr.rk2 wi1 hi1 m1 l1 wi2 hi2 m2 l2):=Bl.c0.1 (Decidable.not_not.1 hc)
  obtain ⟨w1,vh1,rfl,rfl,hw1,hh1,hwh1,hb1,hg1⟩:=Cr.rokN (hok.1) hn1
  obtain ⟨w2,vh2,rfl,rfl,hw2,hh2,hwh2,hb2,hg2⟩:=Cr.rokN (hok.2) hn2
  refine zB<|ze<|zi<|zGa (X:=Unit) (fun x=>True) (fun x=>[(47,.bool (decide ((((sz<1)∨(64<sz))∨(rc<0))∨(64<rc)))),(14,.int .i64 0),(13,.slice none 0 0),(12,.slice none 0 0),(11,.pointer (some ⟨b3,0,none⟩)),(7,.pointer (some ⟨b2,0,none⟩)),(6,.pointer (some ⟨b1,0,none⟩)),(2,.slice pa na ca),(3,.int .i64 sz),(4,.int .i64 rc)]) (fun x=>[boxA b3 32 (cw [ul,vl]),boxA b2 24 [.int .i64 ((w2:Nat):Int),.int .i64 ((vh2:Nat):Int),.int .i64 m2,.slice p2 n2 c2],boxA b1 24 [.int .i64 ((w1:Nat):Int),.int .i64 ((vh1:Nat):Int),.int .i64 m1,.slice p1 n1 c1]]) (fun x=>[slF (rI .i64) p1 c1 l1,slF (rI .i64) p2 c2 l2,slF (rI2 .i64) pa ca la,eF ul vl lx]) ?_ ?_
  ·
   refine zc<|r_pv rfl rfl (za rfl)<|r_pv rfl rfl (zda rfl rfl)<|zP rfl rfl (za rfl) (fun h4=> ?_) (fun h4=> ?_)
   ·
    refine zb rfl rfl<|zb rfl rfl<|r_pv rfl rfl (zm rfl rfl)<|r_pv rfl rfl (za rfl)<|zb rfl rfl<|zb rfl rfl<|r_pv rfl rfl (zm rfl rfl)<|r_pv rfl rfl (za rfl)<|zb rfl rfl<|zb rfl rfl<|r_pv rfl rfl (zm rfl rfl)<|zj ?_
    exact zca () (show True from by first|trivial|omega|simp_all) ((.e rfl (congrArg Value.bool (by first|(simp_all;done)|(simp_all;omega)|(simp;omega)|omega)) (.of rfl)):SubM _ _) (ho:=((.of [0,0,0] rfl):PickO _ _ _)) ((.of [0,1,2,3] rfl):SelR _ _ _)
   ·
    refine r_pv rfl rfl (za rfl)<|r_pv rfl rfl (zoa rfl rfl)<|r_pv rfl rfl (zm rfl rfl)<|zP rfl rfl (za rfl) (fun h5=> ?_) (fun h5=> ?_)
    ·
     refine zb rfl rfl<|zb rfl rfl<|r_pv rfl rfl (zm rfl rfl)<|r_pv rfl rfl (za rfl)<|zb rfl rfl<|zb rfl rfl<|r_pv rfl rfl (zm rfl rfl)<|zj ?_
     exact zca () (show True from by first|trivial|omega|simp_all) ((.e rfl (congrArg Value.bool (by first|(simp_all;done)|(simp_all;omega)|(simp;omega)|omega)) (.of rfl)):SubM _ _) (ho:=((.of [0,0,0] rfl):PickO _ _ _)) ((.of [0,1,2,3] rfl):SelR _ _ _)
    ·
     refine r_pv rfl rfl (za rfl)<|r_pv rfl rfl (zda rfl rfl)<|r_pv rfl rfl (zm rfl rfl)<|zP rfl rfl (za rfl) (fun h6=> ?_) (fun h6=> ?_)
     ·
      refine zb rfl rfl<|zb rfl rfl<|r_pv rfl rfl (zm rfl rfl)<|zj ?_
      exact zca () (show True from by first|trivial|omega|simp_all) ((.e rfl (congrArg Value.bool (by first|(simp_all;done)|(simp_all;omega)|(simp;omega)|omega)) (.of rfl)):SubM _ _) (ho:=((.of [0,0,0] rfl):PickO _ _ _)) ((.of [0,1,2,3] rfl):SelR _ _ _)
     ·
      refine r_pv rfl rfl (za rfl)<|r_pv rfl rfl (zoa rfl rfl)<|r_pv rfl rfl (zm rfl rfl)<|zj ?_
      exact zca () (show True from by first|trivial|omega|simp_all) ((.e rfl (congrArg Value.bool (by first|(simp_all;done)|(simp_all;omega)|(simp;omega)|omega)) (.of rfl)):SubM _ _) (ho:=((.of [0,0,0] rfl):PickO _ _ _)) ((.of [0,1,2,3] rfl):SelR _ _ _)
  ·
   rintro ⟨⟩ -
   try dsimp only [cw]
   refine zG rfl (fun hr=> ?_) (fun hr=> ?_)
   ·
    have hns:¬(Cr.srk sz rc):=Cr.srk_not.2 hr
    refine zi<|zc<|r_pv rfl rfl (zd rfl)<|r_pv rfl rfl (zd rfl)<|r_pv rfl rfl (zd rfl)<|zj<|ze<|zI<|zp<|zbb 13 (rI2 .i64)<|zta 0 rfl .z<|zbb 4 rB<|zta 0 rfl .z ?_
    have hg9:¬((Cr.rk2 ((w1:Nat):Int) ((vh1:Nat):Int) m1 l1 ((w2:Nat):Int) ((vh2:Nat):Int) m2 l2)∧(Cr.srk sz rc)∧lx.isSome=true∧¬(Cr.outp ((w1:Nat):Int) ((vh1:Nat):Int) sz la)):=fun k=>hns k.2.1
    exact zzb Tryz.results27 (none,0,0,[],none,0,0,[]) (⟨rfl,rfl,(if_neg hg9).symm,(if_neg hg9).symm⟩) (zo rfl) (zo rfl) (zo rfl) (by rw [Cr.cd3,if_pos hok,if_neg hns]) (ho:=(.n:PickO _ _ _)) ((.of [1,0] rfl):SelR _ _ _)
   ·
    have hsr:(Cr.srk sz rc):=Decidable.not_not.1 (fun k=>hr (Cr.srk_not.1 k))
    have hsr2:1≤sz∧sz≤64∧0≤rc∧rc≤64:=hsr
    obtain ⟨s9,e7⟩:∃q:Nat,sz=(q:Int):=⟨sz.toNat,by omega⟩
    subst e7
    obtain ⟨r9,e8⟩:∃q:Nat,rc=(q:Int):=⟨rc.toNat,by omega⟩
    subst e8
    refine zB<|ze<|zi<|zi<|zc<|r_u rfl rfl (zf 0 ty32 rfl rfl (.take (.take (.take (.take .nil)))))<|zN rfl rfl (.c rfl .n) ce53 (zSd (u1:=ul) (v1:=vl) (x1:=lx)) (.c (j:=3) rfl .n)<|r_pv rfl rfl (zjb rfl)<|zj<|ze<|zyb rfl (fun hv=> ?_) (fun hv=> ?_)
    ·
     have hv9:¬lx.isSome=true:=by rw [Cr.bnt hv];exact Bool.false_ne_true
     refine zi<|zc<|r_pv rfl rfl (zd rfl)<|r_pv rfl rfl (zd rfl)<|r_pv rfl rfl (zd rfl)<|zj<|ze<|zI<|zp<|zbb 13 (rI2 .i64)<|zta 0 rfl .z<|zbb 4 rB<|zta 0 rfl .z ?_
     have hg9:¬((Cr.rk2 ((w1:Nat):Int) ((vh1:Nat):Int) m1 l1 ((w2:Nat):Int) ((vh2:Nat):Int) m2 l2)∧(Cr.srk ((s9:Nat):Int) ((r9:Nat):Int))∧lx.isSome=true∧¬(Cr.outp ((w1:Nat):Int) ((vh1:Nat):Int) ((s9:Nat):Int) la)):=fun k=>hv9 k.2.2.1
     exact zzb Tryz.results27 (none,0,0,[],none,0,0,[]) (⟨rfl,rfl,(if_neg hg9).symm,(if_neg hg9).symm⟩) (zo rfl) (zo rfl) (zo rfl) (by rw [Cr.cd3,if_pos hok,if_pos hsr,if_neg hv9]) (ho:=(.n:PickO _ _ _)) ((.of [1,0] rfl):SelR _ _ _)
    ·
     have hv9:lx.isSome=true:=Cr.bnf hv
     refine zB<|ze<|zi<|zi<|zc<|r_pv rfl rfl (za rfl)<|r_pv rfl rfl (zM Tryz.underlying59 rfl)<|r_pv rfl rfl (zoa rfl rfl)<|zj<|ze<|zG rfl (fun h9=> ?_) (fun h9=> ?_)
     ·
      omega
     ·
      refine zB<|ze<|zi<|zi<|zc<|r_pv rfl rfl (za rfl)<|r_pv rfl rfl (zM Tryz.underlying59 rfl)<|r_pv rfl rfl (za rfl)<|zj<|ze<|zA<|zka (X:=Nat) (fun x:Nat=>x≤na∧∀j,j<x→¬Cr.bad ((w1:Nat):Int) ((vh1:Nat):Int) ((s9:Nat):Int) (la.getD j (0,0))) (fun x=>[(56,.int .i64 ((x:Nat):Int)),(55,.int .i64 ((na:Nat):Int)),(54,.slice pa na ca),(11,.pointer (some ⟨b3,0,none⟩)),(7,.pointer (some ⟨b2,0,none⟩)),(6,.pointer (some ⟨b1,0,none⟩)),(2,.slice pa na ca),(3,.int .i64 ((s9:Nat):Int)),(4,.int .i64 ((r9:Nat):Int))]) (fun x=>[boxA b3 32 (cw [ul,vl]),boxA b2 24 [.int .i64 ((w2:Nat):Int),.int .i64 ((vh2:Nat):Int),.int .i64 m2,.slice p2 n2 c2],boxA b1 24 [.int .i64 ((w1:Nat):Int),.int .i64 ((vh1:Nat):Int),.int .i64 m1,.slice p1 n1 c1]]) (fun x=>[slF (rI .i64) p1 c1 l1,slF (rI .i64) p2 c2 l2,slF (rI2 .i64) pa ca la,eF ul vl lx]) (fun x:Nat=>na - x) 0 (show 0≤na∧∀j,j<0→¬Cr.bad ((w1:Nat):Int) ((vh1:Nat):Int) ((s9:Nat):Int) (la.getD j (0,0)) from by exact ⟨Nat.zero_le _,fun j h=>by omega⟩) ((.e rfl (by first|rfl|(congr 1;omega)|simp_all) (.of rfl)):SubM _ _) (ho:=((.of [0,0,0] rfl):PickO _ _ _)) ((.of [0,1,2,3] rfl):SelR _ _ _) ?_
      rintro i hI
      replace hI:i≤na∧∀j,j<i→¬Cr.bad ((w1:Nat):Int) ((vh1:Nat):Int) ((s9:Nat):Int) (la.getD j (0,0)):=hI
      try dsimp only [cw]
      obtain ⟨hi,hall⟩:=hI
      refine zi<|zc<|r_pv rfl rfl (zda rfl rfl)<|zj<|ze<|zi<|zG rfl (fun h10=> ?_) (fun h10=> ?_)
      ·
       refine zB<|ze<|zi<|zA<|zi<|zc<|zU (x0:=(la.getD i (0,0))) 2 i rfl Tryz.underlying59 sz68 rfl rfl rfl (by first|rfl|assumption|(rw [Cr.fil_len];assumption)|(simp only [List.length_replicate];done)|(rw [List.length_set,Cr.fil_len];assumption)|omega) rfl rfl (gD (d:=(0,0)) (by omega)) (fun b11 o12 hok13=> ?_)
       obtain ⟨hok13x,hok13y⟩:=hok13
       replace hok13x:=zR.1 hok13x
       replace hok13y:=zR.1 hok13y
       refine r_u rfl rfl (zra (j:=0) 0 ty68 rfl rfl rfl (.take (.take .nil)))<|zJ rfl rfl (zw zr68 rfl) (fun b14=> ?_)
       refine zn 0 rfl rfl rfl rfl rfl sz68 rfl (.take (.take .nil)) .z<|zj<|ze<|zGa (X:=Unit) (fun x=>True) (fun x=>[(85,.bool (decide (((((la.getD i (0,0)).1<0)∨((la.getD i (0,0)).2<0))∨((((w1:Nat):Int) - ((s9:Nat):Int))<(la.getD i (0,0)).1))∨((((vh1:Nat):Int) - ((s9:Nat):Int))<(la.getD i (0,0)).2)))),(56,.int .i64 ((i:Nat):Int)),(55,.int .i64 ((na:Nat):Int)),(54,.slice pa na ca),(11,.pointer (some ⟨b3,0,none⟩)),(7,.pointer (some ⟨b2,0,none⟩)),(6,.pointer (some ⟨b1,0,none⟩)),(2,.slice pa na ca),(3,.int .i64 ((s9:Nat):Int)),(4,.int .i64 ((r9:Nat):Int))]) (fun x=>[boxA b14 68 [.int .i64 ((la.getD i (0,0)).1),.int .i64 ((la.getD i (0,0)).2)],boxA b3 32 (cw [ul,vl]),boxA b2 24 [.int .i64 ((w2:Nat):Int),.int .i64 ((vh2:Nat):Int),.int .i64 m2,.slice p2 n2 c2],boxA b1 24 [.int .i64 ((w1:Nat):Int),.int .i64 ((vh1:Nat):Int),.int .i64 m1,.slice p1 n1 c1]]) (fun x=>[atF b11 o12 [.int .i64 ((la.getD i (0,0)).1),.int .i64 ((la.getD i (0,0)).2)],slF (rI .i64) p1 c1 l1,slF (rI .i64) p2 c2 l2,slF (rI2 .i64) pa ca la,eF ul vl lx]) ?_ ?_
       ·
        refine zc<|r_pv rfl rfl (zg Tryz.underlying68 rfl sz3 rfl rfl)<|r_u rfl rfl (zh 0 ty3 rfl rfl rfl)<|r_pv rfl rfl (zda rfl rfl)<|zP rfl rfl (za rfl) (fun h15=> ?_) (fun h15=> ?_)
        ·
         refine zb rfl rfl<|zb rfl rfl<|zb rfl rfl<|r_pv rfl rfl (zm rfl rfl)<|r_pv rfl rfl (za rfl)<|zb rfl rfl<|zb rfl rfl<|zb rfl rfl<|zb rfl rfl<|zb rfl rfl<|zb rfl rfl<|zb rfl rfl<|r_pv rfl rfl (zm rfl rfl)<|r_pv rfl rfl (za rfl)<|zb rfl rfl<|zb rfl rfl<|zb rfl rfl<|zb rfl rfl<|zb rfl rfl<|zb rfl rfl<|zb rfl rfl<|r_pv rfl rfl (zm rfl rfl)<|zj ?_
         exact zca () (show True from by first|trivial|omega|simp_all) ((.e rfl (congrArg Value.bool (by first|(simp_all;done)|(simp_all;omega)|(simp;omega)|omega)) (.of rfl)):SubM _ _) (ho:=((.of [0,0,0,0] rfl):PickO _ _ _)) ((.of [0,1,2,3,4] rfl):SelR _ _ _)
        ·
         refine r_pv rfl rfl (zg Tryz.underlying68 rfl sz3 rfl rfl)<|r_u rfl rfl (zh 0 ty3 rfl rfl rfl)<|r_pv rfl rfl (zda rfl rfl)<|r_pv rfl rfl (zm rfl rfl)<|zP rfl rfl (za rfl) (fun h16=> ?_) (fun h16=> ?_)
         ·
          refine zb rfl rfl<|zb rfl rfl<|zb rfl rfl<|zb rfl rfl<|zb rfl rfl<|zb rfl rfl<|zb rfl rfl<|r_pv rfl rfl (zm rfl rfl)<|r_pv rfl rfl (za rfl)<|zb rfl rfl<|zb rfl rfl<|zb rfl rfl<|zb rfl rfl<|zb rfl rfl<|zb rfl rfl<|zb rfl rfl<|r_pv rfl rfl (zm rfl rfl)<|zj ?_
          exact zca () (show True from by first|trivial|omega|simp_all) ((.e rfl (congrArg Value.bool (by first|(simp_all;done)|(simp_all;omega)|(simp;omega)|omega)) (.of rfl)):SubM _ _) (ho:=((.of [0,0,0,0] rfl):PickO _ _ _)) ((.of [0,1,2,3,4] rfl):SelR _ _ _)
         ·
          refine r_pv rfl rfl (zg Tryz.underlying68 rfl sz3 rfl rfl)<|r_u rfl rfl (zh 0 ty3 rfl rfl rfl)<|r_pv rfl rfl (zg Tryz.underlying24 rfl sz3 rfl rfl)<|r_u rfl rfl (zh 3 ty3 rfl rfl rfl)<|r_pv rfl rfl (za rfl)<|r_pv rfl rfl (zaa (z:=(((w1:Nat):Int) - ((s9:Nat):Int))) rfl rfl (w64 (by omega)))<|r_pv rfl rfl (zoa rfl rfl)<|r_pv rfl rfl (zm rfl rfl)<|zP rfl rfl (za rfl) (fun h17=> ?_) (fun h17=> ?_)
          ·
           refine zb rfl rfl<|zb rfl rfl<|zb rfl rfl<|zb rfl rfl<|zb rfl rfl<|zb rfl rfl<|zb rfl rfl<|r_pv rfl rfl (zm rfl rfl)<|zj ?_
           exact zca () (show True from by first|trivial|omega|simp_all) ((.e rfl (congrArg Value.bool (by first|(simp_all;done)|(simp_all;omega)|(simp;omega)|omega)) (.of rfl)):SubM _ _) (ho:=((.of [0,0,0,0] rfl):PickO _ _ _)) ((.of [0,1,2,3,4] rfl):SelR _ _ _)
          ·
           refine r_pv rfl rfl (zg Tryz.underlying68 rfl sz3 rfl rfl)<|r_u rfl rfl (zh 0 ty3 rfl rfl rfl)<|r_pv rfl rfl (zg Tryz.underlying24 rfl sz3 rfl rfl)<|r_u rfl rfl (zh 3 ty3 rfl rfl rfl)<|r_pv rfl rfl (za rfl)<|r_pv rfl rfl (zaa (z:=(((vh1:Nat):Int) - ((s9:Nat):Int))) rfl rfl (w64 (by omega)))<|r_pv rfl rfl (zoa rfl rfl)<|r_pv rfl rfl (zm rfl rfl)<|zj ?_
           exact zca () (show True from by first|trivial|omega|simp_all) ((.e rfl (congrArg Value.bool (by first|(simp_all;done)|(simp_all;omega)|(simp;omega)|omega)) (.of rfl)):SubM _ _) (ho:=((.of [0,0,0,0] rfl):PickO _ _ _)) ((.of [0,1,2,3,4] rfl):SelR _ _ _)
       ·
        rintro ⟨⟩ -
        try dsimp only [cw]
        refine zG rfl (fun hb=> ?_) (fun hb=> ?_)
        ·
         refine zi<|zc<|r_pv rfl rfl (zd rfl)<|r_pv rfl rfl (zd rfl)<|r_pv rfl rfl (zd rfl)<|zj<|ze<|zI<|zZ<|zp<|zp<|zZ<|zp ?_
         have ho9:(Cr.outp ((w1:Nat):Int) ((vh1:Nat):Int) ((s9:Nat):Int) la):=Cr.outp_yes (i:=i) (by omega) hb
         refine zbb 13 (rI2 .i64)<|zta 0 rfl .z<|zbb 4 rB<|zta 0 rfl .z ?_
         have hg9:¬((Cr.rk2 ((w1:Nat):Int) ((vh1:Nat):Int) m1 l1 ((w2:Nat):Int) ((vh2:Nat):Int) m2 l2)∧(Cr.srk ((s9:Nat):Int) ((r9:Nat):Int))∧lx.isSome=true∧¬(Cr.outp ((w1:Nat):Int) ((vh1:Nat):Int) ((s9:Nat):Int) la)):=fun k=>k.2.2.2 ho9
         exact zzb Tryz.results27 (none,0,0,[],none,0,0,[]) (⟨rfl,rfl,(if_neg hg9).symm,(if_neg hg9).symm⟩) (zo rfl) (zo rfl) (zo rfl) (by rw [Cr.cd3,if_pos hok,if_pos hsr,if_pos hv9,if_pos ho9]) (ho:=(.n:PickO _ _ _)) ((.of [1,0] rfl):SelR _ _ _)
        ·
         refine zB<|zT<|ze<|zc<|r_pv rfl rfl (zx (z:=(((i+1):Nat):Int)) rfl rfl (w64 (by omega)))<|r_pv rfl rfl (za rfl)<|zj<|zha (i+1) (show (i+1)≤na∧∀j,j<(i+1)→¬Cr.bad ((w1:Nat):Int) ((vh1:Nat):Int) ((s9:Nat):Int) (la.getD j (0,0)) from by refine ⟨by omega,fun j hj=> ?_⟩;by_cases e:j=i;subst e;exact hb;exact hall j (by omega)) (by show na - (i+1)<na - i;omega) ((.of rfl):SubM _ _) (ho:=((.of [1,1,1] rfl):PickO _ _ _)) ((.of [1,2,3,4] rfl):SelR _ _ _)
      ·
       have hno:¬(Cr.outp ((w1:Nat):Int) ((vh1:Nat):Int) ((s9:Nat):Int) la):=Cr.outp_no (n:=na) hla (fun j hj=>hall j (by omega))
       refine zja<|zl<|zl<|zu<|ze<|zi<|zea (OW:=[]) (O:=[boxA b3 32 [ul.b,ul.l,vl.b,vl.l],boxA b2 24 [.int .i64 ((w2:Nat):Int),.int .i64 ((vh2:Nat):Int),.int .i64 m2,.slice p2 n2 c2],boxA b1 24 [.int .i64 ((w1:Nat):Int),.int .i64 ((vh1:Nat):Int),.int .i64 m1,.slice p1 n1 c1]]) 100000 mixed (.then .ret) (by kernel_rfl)<|d_pv 0 rfl rfl (by kernel_rfl) (by kernel_rfl) rfl rfl (za rfl)<|d_pv 1 rfl rfl (by kernel_rfl) (by kernel_rfl) rfl rfl (zM Tryz.underlying59 rfl)<|d_pv 3 rfl rfl (by kernel_rfl) (by kernel_rfl) rfl rfl (za rfl)<|d_pv 4 rfl rfl (by kernel_rfl) (by kernel_rfl) rfl rfl (zM Tryz.underlying59 rfl)<|zfd (m':=[(91,.int .i64 ((na:Nat):Int)),(88,.int .i64 ((na:Nat):Int)),(11,.pointer (some ⟨b3,0,none⟩)),(7,.pointer (some ⟨b2,0,none⟩)),(6,.pointer (some ⟨b1,0,none⟩)),(2,.slice pa na ca),(3,.int .i64 ((s9:Nat):Int)),(4,.int .i64 ((r9:Nat):Int))]) (R':=[slF (rI .i64) p1 c1 l1,slF (rI .i64) p2 c2 l2,slF (rI2 .i64) pa ca la,eF ul vl lx]) ((.of rfl):SubM _ _) (List.Perm.refl _) (List.Perm.refl _) ((.of [0,1,2,3] rfl):SelR _ _ _)<|zya (X:=Nat×Nat) (k':=0) (L':=(lb 8 255)) (fun (u2_1,u5_1)=>([(19,.slice (some ⟨u5_1,0,none⟩) na na),(18,.slice (some ⟨u2_1,0,none⟩) na na),(11,.pointer (some ⟨b3,0,none⟩)),(7,.pointer (some ⟨b2,0,none⟩)),(6,.pointer (some ⟨b1,0,none⟩)),(2,.slice pa na ca),(3,.int .i64 ((s9:Nat):Int)),(4,.int .i64 ((r9:Nat):Int))],[],[rowA 4 rB (some ⟨u5_1,0,none⟩) na (List.replicate na false),rowA 68 (rI2 .i64) (some ⟨u2_1,0,none⟩) na (List.replicate na (0,0)),boxA b3 32 (cw [ul,vl]),boxA b2 24 [.int .i64 ((w2:Nat):Int),.int .i64 ((vh2:Nat):Int),.int .i64 m2,.slice p2 n2 c2],boxA b1 24 [.int .i64 ((w1:Nat):Int),.int .i64 ((vh1:Nat):Int),.int .i64 m1,.slice p1 n1 c1]],[slF (rI .i64) p1 c1 l1,slF (rI .i64) p2 c2 l2,slF (rI2 .i64) pa ca la,eF ul vl lx])) ?_ (fun hD0=> ?_)
       ·
        rintro ⟨u2_1,u5_1⟩
        dsimp only [cw]
        refine zba (by kernel_rfl)<|ze<|zi<|zi<|zc<|r_pv rfl rfl (za rfl)<|r_pv rfl rfl (zM Tryz.underlying59 rfl)<|r_pv rfl rfl (za rfl)<|zj<|ze<|zA<|zka (X:=Nat) (fun x:Nat=>x≤na) (fun x=>[(95,.int .i64 ((x:Nat):Int)),(94,.int .i64 ((na:Nat):Int)),(93,.slice pa na ca),(19,.slice (some ⟨u5_1,0,none⟩) na na),(18,.slice (some ⟨u2_1,0,none⟩) na na),(11,.pointer (some ⟨b3,0,none⟩)),(7,.pointer (some ⟨b2,0,none⟩)),(6,.pointer (some ⟨b1,0,none⟩)),(3,.int .i64 ((s9:Nat):Int)),(4,.int .i64 ((r9:Nat):Int))]) (fun x=>[rowA 4 rB (some ⟨u5_1,0,none⟩) na (Cr.fil (fun p=>Cr.shF (lx.getD 0) (Cr.shA l1 l2 w1 w2 vh2 s9 r9 p)) false (0,0) la x),rowA 68 (rI2 .i64) (some ⟨u2_1,0,none⟩) na (Cr.fil (fun p=>Cr.shP (lx.getD 0) p (Cr.shA l1 l2 w1 w2 vh2 s9 r9 p)) (0,0) (0,0) la x),boxA b3 32 (cw [ul,vl]),boxA b2 24 [.int .i64 ((w2:Nat):Int),.int .i64 ((vh2:Nat):Int),.int .i64 m2,.slice p2 n2 c2],boxA b1 24 [.int .i64 ((w1:Nat):Int),.int .i64 ((vh1:Nat):Int),.int .i64 m1,.slice p1 n1 c1]]) (fun x=>[slF (rI .i64) p1 c1 l1,slF (rI .i64) p2 c2 l2,slF (rI2 .i64) pa ca la,eF ul vl lx]) (fun x:Nat=>na - x) 0 (show 0≤na from by exact Nat.zero_le _) ((.e rfl (by first|rfl|(congr 1;omega)|simp_all) (.of rfl)):SubM _ _) (ho:=((.e (i:=0) rfl (by rw [Cr.fil_zero _ _ _ _ hla]) (.e (i:=0) rfl (by rw [Cr.fil_zero _ _ _ _ hla]) (.of [0,0,0] rfl))):PickO _ _ _)) ((.of [0,1,2,3] rfl):SelR _ _ _) ?_
        rintro k hK
        replace hK:k≤na:=hK
        try dsimp only [cw]
        refine zi<|zc<|r_pv rfl rfl (zda rfl rfl)<|zj<|ze<|zi<|zG rfl (fun h18=> ?_) (fun h18=> ?_)
        ·
         refine zB<|ze<|zi<|zA<|zi<|zc<|r_pv rfl rfl (za rfl)<|zU (x0:=(la.getD k (0,0))) 2 k rfl Tryz.underlying59 sz68 rfl rfl rfl (by first|rfl|assumption|(rw [Cr.fil_len];assumption)|(simp only [List.length_replicate];done)|(rw [List.length_set,Cr.fil_len];assumption)|omega) rfl rfl (gD (d:=(0,0)) (by omega)) (fun b19 o20 hok21=> ?_)
         obtain ⟨hok21x,hok21y⟩:=hok21
         replace hok21x:=zR.1 hok21x
         replace hok21y:=zR.1 hok21y
         refine r_u rfl rfl (zra (j:=0) 0 ty68 rfl rfl rfl (.take (.take .nil)))<|zJ rfl rfl (zw zr68 rfl) (fun b22=> ?_)
         refine r_pv rfl rfl (zd rfl)<|zn 0 rfl rfl rfl rfl rfl sz68 rfl (.take (.take .nil)) .z<|zj<|ze<|zi ?_
         have hkla:k<la.length:=by omega
         have hnb:=Cr.not_bad hkla hno
         have hb0:0≤(la.getD k (0,0)).1∧0≤(la.getD k (0,0)).2∧(la.getD k (0,0)).1+s9≤w1∧(la.getD k (0,0)).2+s9≤vh1:=by unfold Cr.bad at hnb;omega
         have hca:=Cr.cut_all hok.1 hn1 hwh1 (x:=(la.getD k (0,0)).1.toNat) (y:=(la.getD k (0,0)).2.toNat) (pw:=s9) (ph:=s9) (by omega) (by omega) (by omega) (by omega)
         refine zc<|r_u rfl rfl (zf 5 ty24 rfl rfl (.take (.take (.take (.take .nil)))))<|r_pv rfl rfl (zg Tryz.underlying68 rfl sz3 rfl rfl)<|r_u rfl rfl (zh 0 ty3 rfl rfl rfl)<|r_pv rfl rfl (zg Tryz.underlying68 rfl sz3 rfl rfl)<|r_u rfl rfl (zh 0 ty3 rfl rfl rfl)<|r_pv rfl rfl (za rfl)<|r_pv rfl rfl (za rfl)<|zy rfl rfl (.c rfl (.c rfl (.c rfl (.c rfl (.c rfl .n))))) ce54 (zhf (w:=w1) (h:=vh1) (m:=m1) (p:=p1) (n:=n1) (cap:=c1) (l:=l1) (ex:=(la.getD k (0,0)).1) (ey:=(la.getD k (0,0)).2) (pw:=s9) (ph:=s9) (hn:=by assumption) (hw:=by first|rfl|assumption|omega) (hh:=by first|rfl|assumption|omega) (hwh:=by first|rfl|assumption|omega) (hb:=by first|rfl|assumption|omega) (hg:=by first|rfl|assumption|omega) (hx:=by first|rfl|assumption|omega) (hy:=by first|rfl|assumption|omega) (hpw:=by first|rfl|assumption|omega) (hph:=by first|rfl|assumption|omega) (hok:=by exact hok.1)) (.c (j:=1) rfl .n) ?_
         rintro ⟨p323,c324⟩ -
         dsimp only [List.append_eq,List.nil_append,List.cons_append]
         refine r_pv rfl rfl (za rfl)<|r_pv rfl rfl (zr rfl rfl)<|r_pv rfl rfl (zr rfl rfl)<|zJ rfl rfl (zw zr24 rfl) (fun b25=> ?_)
         refine zn 0 rfl rfl rfl rfl rfl sz24 rfl (.take (.take (.take (.take .nil)))) .z<|r_pv rfl rfl (zd rfl)<|zj<|ze<|zi<|zea (OW:=[]) (O:=[boxA b25 24 [.int .i64 ((s9:Nat):Int),.int .i64 ((s9:Nat):Int),.int .i64 m1,.slice p323 (s9*s9) c324],boxA b22 68 [.int .i64 ((la.getD k (0,0)).1),.int .i64 ((la.getD k (0,0)).2)],rowA 4 rB (some ⟨u5_1,0,none⟩) na (Cr.fil (fun p=>Cr.shF (lx.getD 0) (Cr.shA l1 l2 w1 w2 vh2 s9 r9 p)) false (0,0) la k),rowA 68 (rI2 .i64) (some ⟨u2_1,0,none⟩) na (Cr.fil (fun p=>Cr.shP (lx.getD 0) p (Cr.shA l1 l2 w1 w2 vh2 s9 r9 p)) (0,0) (0,0) la k),boxA b3 32 [ul.b,ul.l,vl.b,vl.l],boxA b2 24 [.int .i64 ((w2:Nat):Int),.int .i64 ((vh2:Nat):Int),.int .i64 m2,.slice p2 n2 c2],boxA b1 24 [.int .i64 ((w1:Nat):Int),.int .i64 ((vh1:Nat):Int),.int .i64 m1,.slice p1 n1 c1]]) 28 mixed (.then (.block (.then (.then (.block (.then .ret)))))) (by kernel_rfl)<|d_u 0 rfl rfl (by kernel_rfl) (by kernel_rfl) rfl rfl (zf 0 ty24 rfl rfl (.take (.take (.take (.take .nil)))))<|d_u 1 rfl rfl (by kernel_rfl) (by kernel_rfl) rfl rfl (zf 5 ty24 rfl rfl (.take (.take (.take (.take .nil)))))<|d_pv 3 rfl rfl (by kernel_rfl) (by kernel_rfl) rfl rfl (zg Tryz.underlying68 rfl sz3 rfl rfl)<|d_u 4 rfl rfl (by kernel_rfl) (by kernel_rfl) rfl rfl (zh 1 ty3 rfl rfl rfl)<|d_pv 5 rfl rfl (by kernel_rfl) (by kernel_rfl) rfl rfl (za rfl)<|d_pv 6 rfl rfl (by kernel_rfl) (by kernel_rfl) rfl rfl (zaa (z:=((la.getD k (0,0)).1 - ((r9:Nat):Int))) rfl rfl (w64 (by omega)))<|d_pv 7 rfl rfl (by kernel_rfl) (by kernel_rfl) rfl rfl (zg Tryz.underlying68 rfl sz3 rfl rfl)<|d_u 8 rfl rfl (by kernel_rfl) (by kernel_rfl) rfl rfl (zh 1 ty3 rfl rfl rfl)<|d_pv 9 rfl rfl (by kernel_rfl) (by kernel_rfl) rfl rfl (za rfl)<|d_pv 10 rfl rfl (by kernel_rfl) (by kernel_rfl) rfl rfl (zaa (z:=((la.getD k (0,0)).2 - ((r9:Nat):Int))) rfl rfl (w64 (by omega)))<|d_pv 11 rfl rfl (by kernel_rfl) (by kernel_rfl) rfl rfl (zg Tryz.underlying68 rfl sz3 rfl rfl)<|d_u 12 rfl rfl (by kernel_rfl) (by kernel_rfl) rfl rfl (zh 1 ty3 rfl rfl rfl)<|d_pv 13 rfl rfl (by kernel_rfl) (by kernel_rfl) rfl rfl (za rfl)<|d_pv 14 rfl rfl (by kernel_rfl) (by kernel_rfl) rfl rfl (zx (z:=((la.getD k (0,0)).1+((r9:Nat):Int))) rfl rfl (w64 (by omega)))<|d_pv 15 rfl rfl (by kernel_rfl) (by kernel_rfl) rfl rfl (zg Tryz.underlying68 rfl sz3 rfl rfl)<|d_u 16 rfl rfl (by kernel_rfl) (by kernel_rfl) rfl rfl (zh 1 ty3 rfl rfl rfl)<|d_pv 17 rfl rfl (by kernel_rfl) (by kernel_rfl) rfl rfl (za rfl)<|d_pv 18 rfl rfl (by kernel_rfl) (by kernel_rfl) rfl rfl (zx (z:=((la.getD k (0,0)).2+((r9:Nat):Int))) rfl rfl (w64 (by omega)))<|zfd (m':=[(130,.int .i64 ((la.getD k (0,0)).2+((r9:Nat):Int))),(126,.int .i64 ((la.getD k (0,0)).1+((r9:Nat):Int))),(122,.int .i64 ((la.getD k (0,0)).2 - ((r9:Nat):Int))),(118,.int .i64 ((la.getD k (0,0)).1 - ((r9:Nat):Int))),(113,.agg #[.int .i64 ((w2:Nat):Int),.int .i64 ((vh2:Nat):Int),.int .i64 m2,.slice p2 n2 c2]),(112,.agg #[.int .i64 ((s9:Nat):Int),.int .i64 ((s9:Nat):Int),.int .i64 m1,.slice p323 (s9*s9) c324]),(20,.int .i64 ((k:Nat):Int)),(21,.pointer (some ⟨b22,0,none⟩)),(95,.int .i64 ((k:Nat):Int)),(94,.int .i64 ((na:Nat):Int)),(93,.slice pa na ca),(19,.slice (some ⟨u5_1,0,none⟩) na na),(18,.slice (some ⟨u2_1,0,none⟩) na na),(11,.pointer (some ⟨b3,0,none⟩)),(7,.pointer (some ⟨b2,0,none⟩)),(6,.pointer (some ⟨b1,0,none⟩)),(3,.int .i64 ((s9:Nat):Int)),(4,.int .i64 ((r9:Nat):Int))]) (R':=[slF (rI .i64) p323 c324 (Cr.cutL l1 w1 ((la.getD k (0,0)).2).toNat ((la.getD k (0,0)).1).toNat s9 s9),slF (rI .i64) p1 c1 l1,slF (rI .i64) p2 c2 l2,slF (rI2 .i64) pa ca la,eF ul vl lx]) ((.of rfl):SubM _ _) (List.Perm.refl _) (List.Perm.refl _) ((.of [0,2,3,4,5] rfl):SelR _ _ _) ?_
         obtain ⟨qd1,hqd1⟩:∃z:Int,z=((la.getD k (0,0)).2+((r9:Nat):Int)):=⟨_,rfl⟩
         rw [← hqd1]
         obtain ⟨qd2,hqd2⟩:∃z:Int,z=((la.getD k (0,0)).1+((r9:Nat):Int)):=⟨_,rfl⟩
         rw [← hqd2]
         obtain ⟨qd3,hqd3⟩:∃z:Int,z=((la.getD k (0,0)).2 - ((r9:Nat):Int)):=⟨_,rfl⟩
         rw [← hqd3]
         obtain ⟨qd4,hqd4⟩:∃z:Int,z=((la.getD k (0,0)).1 - ((r9:Nat):Int)):=⟨_,rfl⟩
         rw [← hqd4]
         refine zya (X:=Nat×Option Addr×Nat×Option Addr×Nat×Wd×Wd×Nat) (k':=0) (L':=(lb 30 1073741823)) (fun (u2_1r2,u2_2r2,u2_3r2,u2_4r2,u2_5r2,u19_1r2,u19_2r2,u25_1r2)=>([(27,.bool ((Cr.shA l1 l2 w1 w2 vh2 s9 r9 (la.getD k (0,0))).isSome)),(25,.int .i64 (Cr.pY (Cr.shA l1 l2 w1 w2 vh2 s9 r9 (la.getD k (0,0))))),(24,.int .i64 (Cr.pX (Cr.shA l1 l2 w1 w2 vh2 s9 r9 (la.getD k (0,0))))),(26,.pointer (some ⟨u25_1r2,0,none⟩)),(20,.int .i64 ((k:Nat):Int)),(21,.pointer (some ⟨b22,0,none⟩)),(95,.int .i64 ((k:Nat):Int)),(94,.int .i64 ((na:Nat):Int)),(93,.slice pa na ca),(19,.slice (some ⟨u5_1,0,none⟩) na na),(18,.slice (some ⟨u2_1,0,none⟩) na na),(11,.pointer (some ⟨b3,0,none⟩)),(7,.pointer (some ⟨b2,0,none⟩)),(6,.pointer (some ⟨b1,0,none⟩)),(3,.int .i64 ((s9:Nat):Int)),(4,.int .i64 ((r9:Nat):Int))],[boxA u25_1r2 32 (cw [u19_1r2,u19_2r2])],[boxA b25 24 [.int .i64 ((s9:Nat):Int),.int .i64 ((s9:Nat):Int),.int .i64 m1,.slice p323 (s9*s9) c324],boxA b22 68 [.int .i64 ((la.getD k (0,0)).1),.int .i64 ((la.getD k (0,0)).2)],rowA 4 rB (some ⟨u5_1,0,none⟩) na (Cr.fil (fun p=>Cr.shF (lx.getD 0) (Cr.shA l1 l2 w1 w2 vh2 s9 r9 p)) false (0,0) la k),rowA 68 (rI2 .i64) (some ⟨u2_1,0,none⟩) na (Cr.fil (fun p=>Cr.shP (lx.getD 0) p (Cr.shA l1 l2 w1 w2 vh2 s9 r9 p)) (0,0) (0,0) la k),boxA b3 32 (cw [ul,vl]),boxA b2 24 [.int .i64 ((w2:Nat):Int),.int .i64 ((vh2:Nat):Int),.int .i64 m2,.slice p2 n2 c2],boxA b1 24 [.int .i64 ((w1:Nat):Int),.int .i64 ((vh1:Nat):Int),.int .i64 m1,.slice p1 n1 c1]],[qF ((Cr.shA l1 l2 w1 w2 vh2 s9 r9 (la.getD k (0,0))).isSome) u19_1r2 u19_2r2 (Cr.pQ (Cr.shA l1 l2 w1 w2 vh2 s9 r9 (la.getD k (0,0)))),atF u2_1r2 0 [.int .i64 ((s9:Nat):Int),.int .i64 ((s9:Nat):Int),.int .i64 m1,.slice p323 (s9*s9) c324,.int .i64 ((w2:Nat):Int),.int .i64 ((vh2:Nat):Int),.int .i64 m2,.slice p2 n2 c2,.slice u2_2r2 (vh2+1) u2_3r2,.slice u2_4r2 (vh2+1) u2_5r2,.int .i64 (Cr.sumN (Cr.px (Cr.cutL l1 w1 ((la.getD k (0,0)).2).toNat ((la.getD k (0,0)).1).toNat s9 s9)) (s9*s9)),.int .i64 (((((s9*s9):Nat):Int)*(Cr.sumN (Cr.sq (Cr.cutL l1 w1 ((la.getD k (0,0)).2).toNat ((la.getD k (0,0)).1).toNat s9 s9)) (s9*s9))) - ((Cr.sumN (Cr.px (Cr.cutL l1 w1 ((la.getD k (0,0)).2).toNat ((la.getD k (0,0)).1).toNat s9 s9)) (s9*s9))*(Cr.sumN (Cr.px (Cr.cutL l1 w1 ((la.getD k (0,0)).2).toNat ((la.getD k (0,0)).1).toNat s9 s9)) (s9*s9))))],slF (rS (rI .i64)) u2_2r2 u2_3r2 (Cr.tab (Cr.px l2) w2 (vh2+1)),slF (rS (rI .i64)) u2_4r2 u2_5r2 (Cr.tab (Cr.sq l2) w2 (vh2+1)),slF (rI .i64) p323 c324 (Cr.cutL l1 w1 ((la.getD k (0,0)).2).toNat ((la.getD k (0,0)).1).toNat s9 s9),slF (rI .i64) p1 c1 l1,slF (rI .i64) p2 c2 l2,slF (rI2 .i64) pa ca la,eF ul vl lx])) ?_ (fun hD0=> ?_)
         ·
          rintro ⟨u2_1r2,u2_2r2,u2_3r2,u2_4r2,u2_5r2,u19_1r2,u19_2r2,u25_1r2⟩
          dsimp only [cw]
          refine zba (by kernel_rfl) ?_
          subst hqd1 hqd2 hqd3 hqd4
          refine ze ?_
          have hah:Big.hq (Cr.pQ (Cr.shA l1 l2 w1 w2 vh2 s9 r9 (la.getD k (0,0))))≤6:=Cr.allP_hq6 (Cr.pat_hq hca.2.2.2.2 hg2 hca.2.1 hca.2.1 rfl hwh2 hca.2.2.2.1 hca.1) _
          refine zCb (qF lx.isSome ul vl (lx.getD 0)) (eF_weak 8 rfl)<|zGa (X:=Unit) (fun x=>True) (fun x=>[(142,.bool (decide ((((Cr.shA l1 l2 w1 w2 vh2 s9 r9 (la.getD k (0,0))).isSome)=true)∧(¬((Cr.pQ (Cr.shA l1 l2 w1 w2 vh2 s9 r9 (la.getD k (0,0))))<(lx.getD 0)))))),(25,.int .i64 (Cr.pY (Cr.shA l1 l2 w1 w2 vh2 s9 r9 (la.getD k (0,0))))),(24,.int .i64 (Cr.pX (Cr.shA l1 l2 w1 w2 vh2 s9 r9 (la.getD k (0,0))))),(20,.int .i64 ((k:Nat):Int)),(21,.pointer (some ⟨b22,0,none⟩)),(95,.int .i64 ((k:Nat):Int)),(94,.int .i64 ((na:Nat):Int)),(93,.slice pa na ca),(19,.slice (some ⟨u5_1,0,none⟩) na na),(18,.slice (some ⟨u2_1,0,none⟩) na na),(11,.pointer (some ⟨b3,0,none⟩)),(7,.pointer (some ⟨b2,0,none⟩)),(6,.pointer (some ⟨b1,0,none⟩)),(3,.int .i64 ((s9:Nat):Int)),(4,.int .i64 ((r9:Nat):Int))]) (fun x=>[boxA u25_1r2 32 (cw [u19_1r2,u19_2r2]),boxA b25 24 [.int .i64 ((s9:Nat):Int),.int .i64 ((s9:Nat):Int),.int .i64 m1,.slice p323 (s9*s9) c324],boxA b22 68 [.int .i64 ((la.getD k (0,0)).1),.int .i64 ((la.getD k (0,0)).2)],rowA 4 rB (some ⟨u5_1,0,none⟩) na (Cr.fil (fun p=>Cr.shF (lx.getD 0) (Cr.shA l1 l2 w1 w2 vh2 s9 r9 p)) false (0,0) la k),rowA 68 (rI2 .i64) (some ⟨u2_1,0,none⟩) na (Cr.fil (fun p=>Cr.shP (lx.getD 0) p (Cr.shA l1 l2 w1 w2 vh2 s9 r9 p)) (0,0) (0,0) la k),boxA b3 32 (cw [ul,vl]),boxA b2 24 [.int .i64 ((w2:Nat):Int),.int .i64 ((vh2:Nat):Int),.int .i64 m2,.slice p2 n2 c2],boxA b1 24 [.int .i64 ((w1:Nat):Int),.int .i64 ((vh1:Nat):Int),.int .i64 m1,.slice p1 n1 c1]]) (fun x=>[qF lx.isSome ul vl (lx.getD 0),qF ((Cr.shA l1 l2 w1 w2 vh2 s9 r9 (la.getD k (0,0))).isSome) u19_1r2 u19_2r2 (Cr.pQ (Cr.shA l1 l2 w1 w2 vh2 s9 r9 (la.getD k (0,0)))),atF u2_1r2 0 [.int .i64 ((s9:Nat):Int),.int .i64 ((s9:Nat):Int),.int .i64 m1,.slice p323 (s9*s9) c324,.int .i64 ((w2:Nat):Int),.int .i64 ((vh2:Nat):Int),.int .i64 m2,.slice p2 n2 c2,.slice u2_2r2 (vh2+1) u2_3r2,.slice u2_4r2 (vh2+1) u2_5r2,.int .i64 (Cr.sumN (Cr.px (Cr.cutL l1 w1 ((la.getD k (0,0)).2).toNat ((la.getD k (0,0)).1).toNat s9 s9)) (s9*s9)),.int .i64 (((((s9*s9):Nat):Int)*(Cr.sumN (Cr.sq (Cr.cutL l1 w1 ((la.getD k (0,0)).2).toNat ((la.getD k (0,0)).1).toNat s9 s9)) (s9*s9))) - ((Cr.sumN (Cr.px (Cr.cutL l1 w1 ((la.getD k (0,0)).2).toNat ((la.getD k (0,0)).1).toNat s9 s9)) (s9*s9))*(Cr.sumN (Cr.px (Cr.cutL l1 w1 ((la.getD k (0,0)).2).toNat ((la.getD k (0,0)).1).toNat s9 s9)) (s9*s9))))],slF (rS (rI .i64)) u2_2r2 u2_3r2 (Cr.tab (Cr.px l2) w2 (vh2+1)),slF (rS (rI .i64)) u2_4r2 u2_5r2 (Cr.tab (Cr.sq l2) w2 (vh2+1)),slF (rI .i64) p323 c324 (Cr.cutL l1 w1 ((la.getD k (0,0)).2).toNat ((la.getD k (0,0)).1).toNat s9 s9),slF (rI .i64) p1 c1 l1,slF (rI .i64) p2 c2 l2,slF (rI2 .i64) pa ca la,eF ul vl lx]) ?_ ?_
          ·
           refine zc<|r_pv rfl rfl (za rfl)<|zYd rfl rfl (za rfl) (fun h30=> ?_) (fun h30=> ?_)
           ·
            refine r_u rfl rfl (zf 5 ty32 rfl rfl (.take (.take (.take (.take .nil)))))<|r_u rfl rfl (zf 0 ty32 rfl rfl (.take (.take (.take (.take .nil)))))<|zN rfl rfl (.c rfl (.c rfl .n)) ce46 (zxd (k1:=lx.isSome) (u1:=ul) (v1:=vl) (q1:=(lx.getD 0)) (k2:=(Cr.shA l1 l2 w1 w2 vh2 s9 r9 (la.getD k (0,0))).isSome) (u2:=u19_1r2) (v2:=u19_2r2) (q2:=(Cr.pQ (Cr.shA l1 l2 w1 w2 vh2 s9 r9 (la.getD k (0,0))))) (hl:=by first|rfl|assumption|omega)) (.c (j:=0) rfl (.c (j:=1) rfl .n))<|r_pv rfl rfl (zXa rfl)<|r_pv rfl rfl (zm rfl rfl)<|zj ?_
            exact zca () (show True from by first|trivial|omega|simp_all) ((.e rfl (congrArg Value.bool (by first|(simp_all;done)|(simp_all;omega)|(simp;omega)|omega)) (.of rfl)):SubM _ _) (ho:=((.of [0,0,0,0,0,0,0,0] rfl):PickO _ _ _)) ((.of [0,1,2,3,4,5,6,7,8,9] rfl):SelR _ _ _)
           ·
            refine zb rfl rfl<|zb rfl rfl<|zb rfl rfl<|zb rfl rfl<|r_pv rfl rfl (zm rfl rfl)<|zj ?_
            exact zca () (show True from by first|trivial|omega|simp_all) ((.e rfl (congrArg Value.bool (by first|(simp_all;done)|(simp_all;omega)|(simp;omega)|omega)) (.of rfl)):SubM _ _) (ho:=((.of [0,0,0,0,0,0,0,0] rfl):PickO _ _ _)) ((.of [0,1,2,3,4,5,6,7,8,9] rfl):SelR _ _ _)
          ·
           rintro ⟨⟩ -
           try dsimp only [cw]
           refine zG rfl (fun hsk=> ?_) (fun hsk=> ?_)
           ·
            have hin:=Cr.shA_in hsk.1
            have hfl1:(Cr.fil (fun p=>Cr.shP (lx.getD 0) p (Cr.shA l1 l2 w1 w2 vh2 s9 r9 p)) (0,0) (0,0) la k).length=na:=(Cr.fil_len _ _ _ _ _).trans hla
            have hfl2:(Cr.fil (fun p=>Cr.shF (lx.getD 0) (Cr.shA l1 l2 w1 w2 vh2 s9 r9 p)) false (0,0) la k).length=na:=(Cr.fil_len _ _ _ _ _).trans hla
            refine zc<|r_pv rfl rfl (za rfl)<|r_pv rfl rfl (za rfl)<|r_pv rfl rfl (za rfl)<|r_pv rfl rfl (za rfl)<|r_pv rfl rfl (za rfl)<|r_pv rfl rfl (zg Tryz.underlying68 rfl sz3 rfl rfl)<|r_u rfl rfl (zh 2 ty3 rfl rfl rfl)<|r_pv rfl rfl (zaa (z:=((Cr.pX (Cr.shA l1 l2 w1 w2 vh2 s9 r9 (la.getD k (0,0)))) - (la.getD k (0,0)).1)) rfl rfl (w64 (by omega)))<|r_pv rfl rfl (za rfl)<|r_pv rfl rfl (zg Tryz.underlying68 rfl sz3 rfl rfl)<|r_u rfl rfl (zh 2 ty3 rfl rfl rfl)<|r_pv rfl rfl (zaa (z:=((Cr.pY (Cr.shA l1 l2 w1 w2 vh2 s9 r9 (la.getD k (0,0)))) - (la.getD k (0,0)).2)) rfl rfl (w64 (by omega)))<|r_pv rfl rfl (zK zr68 rfl Tryz.underlying68 (.c sz3 (.c sz3 .n)) (.c rfl (.c rfl .n)) (.c rfl rfl rfl (.take .nil) (.c rfl rfl rfl (.skip (.take .nil)) .n)))<|r_pv rfl rfl (zX (j:=k) Tryz.underlying59 sz68 rfl rfl rfl (by omega))<|zDa 4 rfl rfl rfl (zW (j:=k) (x0:=(((Cr.pX (Cr.shA l1 l2 w1 w2 vh2 s9 r9 (la.getD k (0,0)))) - (la.getD k (0,0)).1),((Cr.pY (Cr.shA l1 l2 w1 w2 vh2 s9 r9 (la.getD k (0,0)))) - (la.getD k (0,0)).2))) (γ0:=()) rfl rfl (by first|omega|(rw [List.length_map];omega)|(simp only [List.length_set];omega)|(simp;done)|(simp;omega)) rfl rfl sz68 (fun _ _=>by exact ⟨zR.2 (by first|omega|decide|(dsimp only;omega)),zR.2 (by first|omega|decide|(dsimp only;omega))⟩)) (fun _=>(.s (.s (.s (.s .z))))) (fun _ _=> ?_)
            refine r_pv rfl rfl (zX (j:=k) Tryz.underlying63 sz4 rfl rfl rfl (by omega))<|zDa 3 rfl rfl rfl (zW (j:=k) (x0:=true) (γ0:=()) rfl rfl (by first|omega|(rw [List.length_map];omega)|(simp only [List.length_set];omega)|(simp;done)|(simp;omega)) rfl rfl sz4 (fun _ _=>by trivial)) (fun _=>(.s (.s (.s .z)))) (fun _ _=> ?_)
            refine zj<|zT<|ze<|zc<|r_pv rfl rfl (zx (z:=(((k+1):Nat):Int)) rfl rfl (w64 (by omega)))<|r_pv rfl rfl (za rfl)<|zj ?_
            have e31:((Cr.fil (fun p=>Cr.shP (lx.getD 0) p (Cr.shA l1 l2 w1 w2 vh2 s9 r9 p)) (0,0) (0,0) la k).set k (((Cr.pX (Cr.shA l1 l2 w1 w2 vh2 s9 r9 (la.getD k (0,0)))) - (la.getD k (0,0)).1),((Cr.pY (Cr.shA l1 l2 w1 w2 vh2 s9 r9 (la.getD k (0,0)))) - (la.getD k (0,0)).2)))=(Cr.fil (fun p=>Cr.shP (lx.getD 0) p (Cr.shA l1 l2 w1 w2 vh2 s9 r9 p)) (0,0) (0,0) la (k+1)):=by exact Cr.fil_set _ _ _ _ (if_pos hsk).symm
            rw [e31]
            have e32:((Cr.fil (fun p=>Cr.shF (lx.getD 0) (Cr.shA l1 l2 w1 w2 vh2 s9 r9 p)) false (0,0) la k).set k true)=(Cr.fil (fun p=>Cr.shF (lx.getD 0) (Cr.shA l1 l2 w1 w2 vh2 s9 r9 p)) false (0,0) la (k+1)):=by exact Cr.fil_set _ _ _ _ (decide_eq_true hsk).symm
            rw [e32]
            refine zha (k+1) (show (k+1)≤na from by omega) (by show na - (k+1)<na - k;omega) ((.of rfl):SubM _ _) (ho:=((.of [3,3,3,3,3] rfl):PickO _ _ _)) ((.of [6,7,8,9] rfl):SelR _ _ _)
           ·
            refine zB<|zT<|ze<|zc<|r_pv rfl rfl (zx (z:=(((k+1):Nat):Int)) rfl rfl (w64 (by omega)))<|r_pv rfl rfl (za rfl)<|zj ?_
            have e33:(Cr.fil (fun p=>Cr.shP (lx.getD 0) p (Cr.shA l1 l2 w1 w2 vh2 s9 r9 p)) (0,0) (0,0) la k)=(Cr.fil (fun p=>Cr.shP (lx.getD 0) p (Cr.shA l1 l2 w1 w2 vh2 s9 r9 p)) (0,0) (0,0) la (k+1)):=by exact Cr.fil_same _ _ _ _ (if_neg hsk).symm
            rw [e33]
            have e34:(Cr.fil (fun p=>Cr.shF (lx.getD 0) (Cr.shA l1 l2 w1 w2 vh2 s9 r9 p)) false (0,0) la k)=(Cr.fil (fun p=>Cr.shF (lx.getD 0) (Cr.shA l1 l2 w1 w2 vh2 s9 r9 p)) false (0,0) la (k+1)):=by exact Cr.fil_same _ _ _ _ (decide_eq_false hsk).symm
            rw [e34]
            refine zha (k+1) (show (k+1)≤na from by omega) (by show na - (k+1)<na - k;omega) ((.of rfl):SubM _ _) (ho:=((.of [3,3,3,3,3] rfl):PickO _ _ _)) ((.of [6,7,8,9] rfl):SelR _ _ _)
         refine zya (X:=Nat×Option Addr×Nat×Option Addr×Nat×Wd×Wd×Nat) (k':=2) (L':=(lb 30 268435455)) (fun (u2_1r2,u2_2r2,u2_3r2,u2_4r2,u2_5r2,u19_1r2,u19_2r2,u25_1r2)=>([(25,.int .i64 (Cr.pY (Cr.shA l1 l2 w1 w2 vh2 s9 r9 (la.getD k (0,0))))),(24,.int .i64 (Cr.pX (Cr.shA l1 l2 w1 w2 vh2 s9 r9 (la.getD k (0,0))))),(26,.pointer (some ⟨u25_1r2,0,none⟩)),(135,.bool ((Cr.shA l1 l2 w1 w2 vh2 s9 r9 (la.getD k (0,0))).isSome)),(134,.agg (cw [u19_1r2,u19_2r2]).toArray),(20,.int .i64 ((k:Nat):Int)),(21,.pointer (some ⟨b22,0,none⟩)),(95,.int .i64 ((k:Nat):Int)),(94,.int .i64 ((na:Nat):Int)),(93,.slice pa na ca),(19,.slice (some ⟨u5_1,0,none⟩) na na),(18,.slice (some ⟨u2_1,0,none⟩) na na),(11,.pointer (some ⟨b3,0,none⟩)),(7,.pointer (some ⟨b2,0,none⟩)),(6,.pointer (some ⟨b1,0,none⟩)),(3,.int .i64 ((s9:Nat):Int)),(4,.int .i64 ((r9:Nat):Int))],[boxA u25_1r2 32 [.bool false,.slice none 0 0,.bool false,.slice none 0 0]],[boxA b25 24 [.int .i64 ((s9:Nat):Int),.int .i64 ((s9:Nat):Int),.int .i64 m1,.slice p323 (s9*s9) c324],boxA b22 68 [.int .i64 ((la.getD k (0,0)).1),.int .i64 ((la.getD k (0,0)).2)],rowA 4 rB (some ⟨u5_1,0,none⟩) na (Cr.fil (fun p=>Cr.shF (lx.getD 0) (Cr.shA l1 l2 w1 w2 vh2 s9 r9 p)) false (0,0) la k),rowA 68 (rI2 .i64) (some ⟨u2_1,0,none⟩) na (Cr.fil (fun p=>Cr.shP (lx.getD 0) p (Cr.shA l1 l2 w1 w2 vh2 s9 r9 p)) (0,0) (0,0) la k),boxA b3 32 (cw [ul,vl]),boxA b2 24 [.int .i64 ((w2:Nat):Int),.int .i64 ((vh2:Nat):Int),.int .i64 m2,.slice p2 n2 c2],boxA b1 24 [.int .i64 ((w1:Nat):Int),.int .i64 ((vh1:Nat):Int),.int .i64 m1,.slice p1 n1 c1]],[qF ((Cr.shA l1 l2 w1 w2 vh2 s9 r9 (la.getD k (0,0))).isSome) u19_1r2 u19_2r2 (Cr.pQ (Cr.shA l1 l2 w1 w2 vh2 s9 r9 (la.getD k (0,0)))),atF u2_1r2 0 [.int .i64 ((s9:Nat):Int),.int .i64 ((s9:Nat):Int),.int .i64 m1,.slice p323 (s9*s9) c324,.int .i64 ((w2:Nat):Int),.int .i64 ((vh2:Nat):Int),.int .i64 m2,.slice p2 n2 c2,.slice u2_2r2 (vh2+1) u2_3r2,.slice u2_4r2 (vh2+1) u2_5r2,.int .i64 (Cr.sumN (Cr.px (Cr.cutL l1 w1 ((la.getD k (0,0)).2).toNat ((la.getD k (0,0)).1).toNat s9 s9)) (s9*s9)),.int .i64 (((((s9*s9):Nat):Int)*(Cr.sumN (Cr.sq (Cr.cutL l1 w1 ((la.getD k (0,0)).2).toNat ((la.getD k (0,0)).1).toNat s9 s9)) (s9*s9))) - ((Cr.sumN (Cr.px (Cr.cutL l1 w1 ((la.getD k (0,0)).2).toNat ((la.getD k (0,0)).1).toNat s9 s9)) (s9*s9))*(Cr.sumN (Cr.px (Cr.cutL l1 w1 ((la.getD k (0,0)).2).toNat ((la.getD k (0,0)).1).toNat s9 s9)) (s9*s9))))],slF (rS (rI .i64)) u2_2r2 u2_3r2 (Cr.tab (Cr.px l2) w2 (vh2+1)),slF (rS (rI .i64)) u2_4r2 u2_5r2 (Cr.tab (Cr.sq l2) w2 (vh2+1)),slF (rI .i64) p323 c324 (Cr.cutL l1 w1 ((la.getD k (0,0)).2).toNat ((la.getD k (0,0)).1).toNat s9 s9),slF (rI .i64) p1 c1 l1,slF (rI .i64) p2 c2 l2,slF (rI2 .i64) pa ca la,eF ul vl lx])) ?_ (fun hD1=> ?_)
         ·
          rintro ⟨u2_1r2,u2_2r2,u2_3r2,u2_4r2,u2_5r2,u19_1r2,u19_2r2,u25_1r2⟩
          dsimp only [cw]
          refine zL 28 (by kernel_rfl) ?_
          ·
           refine zD (by kernel_rfl) rfl rfl rfl rfl rfl sz32 rfl (.take (.take (.take (.take .nil))))<|d_pv 29 rfl rfl (by kernel_rfl) (by kernel_rfl) rfl rfl (zd rfl) ?_
           exact zla (hD0 (u2_1r2,u2_2r2,u2_3r2,u2_4r2,u2_5r2,u19_1r2,u19_2r2,u25_1r2)) (by kernel_rfl) ((.of rfl):SubM _ _) .rfl .rfl ((.of [0,1,2,3,4,5,6,7,8] rfl):SelR _ _ _)
         refine zya (X:=Nat×Option Addr×Nat×Option Addr×Nat×Wd×Wd) (k':=5) (L':=(lb 30 33554431)) (fun (u2_1r2,u2_2r2,u2_3r2,u2_4r2,u2_5r2,u19_1r2,u19_2r2)=>([(135,.bool ((Cr.shA l1 l2 w1 w2 vh2 s9 r9 (la.getD k (0,0))).isSome)),(134,.agg (cw [u19_1r2,u19_2r2]).toArray),(133,.int .i64 (Cr.pY (Cr.shA l1 l2 w1 w2 vh2 s9 r9 (la.getD k (0,0))))),(132,.int .i64 (Cr.pX (Cr.shA l1 l2 w1 w2 vh2 s9 r9 (la.getD k (0,0))))),(20,.int .i64 ((k:Nat):Int)),(21,.pointer (some ⟨b22,0,none⟩)),(95,.int .i64 ((k:Nat):Int)),(94,.int .i64 ((na:Nat):Int)),(93,.slice pa na ca),(19,.slice (some ⟨u5_1,0,none⟩) na na),(18,.slice (some ⟨u2_1,0,none⟩) na na),(11,.pointer (some ⟨b3,0,none⟩)),(7,.pointer (some ⟨b2,0,none⟩)),(6,.pointer (some ⟨b1,0,none⟩)),(3,.int .i64 ((s9:Nat):Int)),(4,.int .i64 ((r9:Nat):Int))],[],[boxA b25 24 [.int .i64 ((s9:Nat):Int),.int .i64 ((s9:Nat):Int),.int .i64 m1,.slice p323 (s9*s9) c324],boxA b22 68 [.int .i64 ((la.getD k (0,0)).1),.int .i64 ((la.getD k (0,0)).2)],rowA 4 rB (some ⟨u5_1,0,none⟩) na (Cr.fil (fun p=>Cr.shF (lx.getD 0) (Cr.shA l1 l2 w1 w2 vh2 s9 r9 p)) false (0,0) la k),rowA 68 (rI2 .i64) (some ⟨u2_1,0,none⟩) na (Cr.fil (fun p=>Cr.shP (lx.getD 0) p (Cr.shA l1 l2 w1 w2 vh2 s9 r9 p)) (0,0) (0,0) la k),boxA b3 32 (cw [ul,vl]),boxA b2 24 [.int .i64 ((w2:Nat):Int),.int .i64 ((vh2:Nat):Int),.int .i64 m2,.slice p2 n2 c2],boxA b1 24 [.int .i64 ((w1:Nat):Int),.int .i64 ((vh1:Nat):Int),.int .i64 m1,.slice p1 n1 c1]],[qF ((Cr.shA l1 l2 w1 w2 vh2 s9 r9 (la.getD k (0,0))).isSome) u19_1r2 u19_2r2 (Cr.pQ (Cr.shA l1 l2 w1 w2 vh2 s9 r9 (la.getD k (0,0)))),atF u2_1r2 0 [.int .i64 ((s9:Nat):Int),.int .i64 ((s9:Nat):Int),.int .i64 m1,.slice p323 (s9*s9) c324,.int .i64 ((w2:Nat):Int),.int .i64 ((vh2:Nat):Int),.int .i64 m2,.slice p2 n2 c2,.slice u2_2r2 (vh2+1) u2_3r2,.slice u2_4r2 (vh2+1) u2_5r2,.int .i64 (Cr.sumN (Cr.px (Cr.cutL l1 w1 ((la.getD k (0,0)).2).toNat ((la.getD k (0,0)).1).toNat s9 s9)) (s9*s9)),.int .i64 (((((s9*s9):Nat):Int)*(Cr.sumN (Cr.sq (Cr.cutL l1 w1 ((la.getD k (0,0)).2).toNat ((la.getD k (0,0)).1).toNat s9 s9)) (s9*s9))) - ((Cr.sumN (Cr.px (Cr.cutL l1 w1 ((la.getD k (0,0)).2).toNat ((la.getD k (0,0)).1).toNat s9 s9)) (s9*s9))*(Cr.sumN (Cr.px (Cr.cutL l1 w1 ((la.getD k (0,0)).2).toNat ((la.getD k (0,0)).1).toNat s9 s9)) (s9*s9))))],slF (rS (rI .i64)) u2_2r2 u2_3r2 (Cr.tab (Cr.px l2) w2 (vh2+1)),slF (rS (rI .i64)) u2_4r2 u2_5r2 (Cr.tab (Cr.sq l2) w2 (vh2+1)),slF (rI .i64) p323 c324 (Cr.cutL l1 w1 ((la.getD k (0,0)).2).toNat ((la.getD k (0,0)).1).toNat s9 s9),slF (rI .i64) p1 c1 l1,slF (rI .i64) p2 c2 l2,slF (rI2 .i64) pa ca la,eF ul vl lx])) ?_ (fun hD2=> ?_)
         ·
          rintro ⟨u2_1r2,u2_2r2,u2_3r2,u2_4r2,u2_5r2,u19_1r2,u19_2r2⟩
          dsimp only [cw]
          refine zL 25 (by kernel_rfl) ?_
          ·
           refine zgb rfl rfl rfl rfl (zw zr32 rfl) (fun u25_1r2 _=> ?_)
           refine d_pv 26 rfl rfl (by kernel_rfl) (by kernel_rfl) rfl rfl (zd rfl)<|d_pv 27 rfl rfl (by kernel_rfl) (by kernel_rfl) rfl rfl (zd rfl) ?_
           exact zla (hD1 (u2_1r2,u2_2r2,u2_3r2,u2_4r2,u2_5r2,u19_1r2,u19_2r2,u25_1r2)) (by kernel_rfl) ((.of rfl):SubM _ _) .rfl .rfl ((.of [0,1,2,3,4,5,6,7,8] rfl):SelR _ _ _)
         refine zya (X:=Nat×Option Addr×Nat×Option Addr×Nat×Nat) (k':=10) (L':=(lb 30 34078719)) (fun (u2_1r2,u2_2r2,u2_3r2,u2_4r2,u2_5r2,u25_1r2)=>([(26,.pointer (some ⟨u25_1r2,0,none⟩)),(114,.pointer (some ⟨u2_1r2,0,none⟩)),(130,.int .i64 qd1),(126,.int .i64 qd2),(122,.int .i64 qd3),(118,.int .i64 qd4),(20,.int .i64 ((k:Nat):Int)),(21,.pointer (some ⟨b22,0,none⟩)),(95,.int .i64 ((k:Nat):Int)),(94,.int .i64 ((na:Nat):Int)),(93,.slice pa na ca),(19,.slice (some ⟨u5_1,0,none⟩) na na),(18,.slice (some ⟨u2_1,0,none⟩) na na),(11,.pointer (some ⟨b3,0,none⟩)),(7,.pointer (some ⟨b2,0,none⟩)),(6,.pointer (some ⟨b1,0,none⟩)),(3,.int .i64 ((s9:Nat):Int)),(4,.int .i64 ((r9:Nat):Int))],[boxA u25_1r2 32 [.bool false,.slice none 0 0,.bool false,.slice none 0 0]],[boxA b25 24 [.int .i64 ((s9:Nat):Int),.int .i64 ((s9:Nat):Int),.int .i64 m1,.slice p323 (s9*s9) c324],boxA b22 68 [.int .i64 ((la.getD k (0,0)).1),.int .i64 ((la.getD k (0,0)).2)],rowA 4 rB (some ⟨u5_1,0,none⟩) na (Cr.fil (fun p=>Cr.shF (lx.getD 0) (Cr.shA l1 l2 w1 w2 vh2 s9 r9 p)) false (0,0) la k),rowA 68 (rI2 .i64) (some ⟨u2_1,0,none⟩) na (Cr.fil (fun p=>Cr.shP (lx.getD 0) p (Cr.shA l1 l2 w1 w2 vh2 s9 r9 p)) (0,0) (0,0) la k),boxA b3 32 (cw [ul,vl]),boxA b2 24 [.int .i64 ((w2:Nat):Int),.int .i64 ((vh2:Nat):Int),.int .i64 m2,.slice p2 n2 c2],boxA b1 24 [.int .i64 ((w1:Nat):Int),.int .i64 ((vh1:Nat):Int),.int .i64 m1,.slice p1 n1 c1]],[atF u2_1r2 0 [.int .i64 ((s9:Nat):Int),.int .i64 ((s9:Nat):Int),.int .i64 m1,.slice p323 (s9*s9) c324,.int .i64 ((w2:Nat):Int),.int .i64 ((vh2:Nat):Int),.int .i64 m2,.slice p2 n2 c2,.slice u2_2r2 (vh2+1) u2_3r2,.slice u2_4r2 (vh2+1) u2_5r2,.int .i64 (Cr.sumN (Cr.px (Cr.cutL l1 w1 ((la.getD k (0,0)).2).toNat ((la.getD k (0,0)).1).toNat s9 s9)) (s9*s9)),.int .i64 (((((s9*s9):Nat):Int)*(Cr.sumN (Cr.sq (Cr.cutL l1 w1 ((la.getD k (0,0)).2).toNat ((la.getD k (0,0)).1).toNat s9 s9)) (s9*s9))) - ((Cr.sumN (Cr.px (Cr.cutL l1 w1 ((la.getD k (0,0)).2).toNat ((la.getD k (0,0)).1).toNat s9 s9)) (s9*s9))*(Cr.sumN (Cr.px (Cr.cutL l1 w1 ((la.getD k (0,0)).2).toNat ((la.getD k (0,0)).1).toNat s9 s9)) (s9*s9))))],slF (rS (rI .i64)) u2_2r2 u2_3r2 (Cr.tab (Cr.px l2) w2 (vh2+1)),slF (rS (rI .i64)) u2_4r2 u2_5r2 (Cr.tab (Cr.sq l2) w2 (vh2+1)),slF (rI .i64) p323 c324 (Cr.cutL l1 w1 ((la.getD k (0,0)).2).toNat ((la.getD k (0,0)).1).toNat s9 s9),slF (rI .i64) p1 c1 l1,slF (rI .i64) p2 c2 l2,slF (rI2 .i64) pa ca la,eF ul vl lx])) ?_ (fun hD3=> ?_)
         ·
          rintro ⟨u2_1r2,u2_2r2,u2_3r2,u2_4r2,u2_5r2,u25_1r2⟩
          dsimp only [cw]
          refine zL 19 (by kernel_rfl) ?_
          ·
           refine zH rfl rfl rfl rfl (.c rfl (.c rfl (.c rfl (.c rfl (.c rfl (.c rfl .n)))))) ce45 (zjc (w1:=s9) (vh1:=s9) (m1:=m1) (p1:=p323) (n1:=(s9*s9)) (c1:=c324) (l1:=(Cr.cutL l1 w1 ((la.getD k (0,0)).2).toNat ((la.getD k (0,0)).1).toNat s9 s9)) (w2:=w2) (vh2:=vh2) (m2:=m2) (p2:=p2) (n2:=n2) (c2:=c2) (l2:=l2) (bm:=u2_1r2) (ps:=u2_2r2) (cs:=u2_3r2) (pq:=u2_4r2) (cq:=u2_5r2) (le:=qd4) (tp:=qd3) (ri:=qd2) (bo:=qd1) (hn1:=by exact hca.1) (hw1:=by exact hca.2.1) (hh1:=by exact hca.2.1) (hwh1:=by rfl) (hb1:=by exact hca.2.2.2.1) (hg1:=by exact hca.2.2.2.2) (hn2:=by assumption) (hw2:=by first|rfl|assumption|omega) (hh2:=by first|rfl|assumption|omega) (hwh2:=by first|rfl|assumption|omega) (hb2:=by first|rfl|assumption|omega) (hg2:=by first|rfl|assumption|omega) (hle:=by first|rfl|assumption|omega) (htp:=by first|rfl|assumption|omega) (hri:=by first|rfl|assumption|omega) (hbo:=by first|rfl|assumption|omega)) (.c (j:=0) rfl (.c (j:=3) rfl (.c (j:=5) rfl (.c (j:=1) rfl (.c (j:=2) rfl .n))))) ?_
           rintro ⟨u19_1r2,u19_2r2⟩ hy35
           dsimp only [List.append_eq,List.nil_append,List.cons_append]
           replace hy35:((Cr.allP (Cr.pat (Cr.cutL l1 w1 ((la.getD k (0,0)).2).toNat ((la.getD k (0,0)).1).toNat s9 s9) l2 ((s9:Nat):Int) ((s9:Nat):Int) ((w2:Nat):Int) ((vh2:Nat):Int)) qd4 qd3 (qd2 - qd4+1).toNat (qd1 - qd3+1).toNat).isSome=false→u19_1r2=wz∧u19_2r2=wz)∧Big.hq (Cr.pQ (Cr.allP (Cr.pat (Cr.cutL l1 w1 ((la.getD k (0,0)).2).toNat ((la.getD k (0,0)).1).toNat s9 s9) l2 ((s9:Nat):Int) ((s9:Nat):Int) ((w2:Nat):Int) ((vh2:Nat):Int)) qd4 qd3 (qd2 - qd4+1).toNat (qd1 - qd3+1).toNat))≤6:=hy35
           have hy36:((Cr.allP (Cr.pat (Cr.cutL l1 w1 ((la.getD k (0,0)).2).toNat ((la.getD k (0,0)).1).toNat s9 s9) l2 ((s9:Nat):Int) ((s9:Nat):Int) ((w2:Nat):Int) ((vh2:Nat):Int)) qd4 qd3 (qd2 - qd4+1).toNat (qd1 - qd3+1).toNat):Cr.Pk)=(Cr.shA l1 l2 w1 w2 vh2 s9 r9 (la.getD k (0,0))):=by unfold Cr.shA;congr 1 <;> omega
           rw [hy36]
           refine d_pv 20 rfl rfl (by kernel_rfl) (by kernel_rfl) rfl rfl (za rfl)<|d_pv 21 rfl rfl (by kernel_rfl) (by kernel_rfl) rfl rfl (zr rfl rfl)<|d_pv 22 rfl rfl (by kernel_rfl) (by kernel_rfl) rfl rfl (zr rfl rfl)<|d_pv 23 rfl rfl (by kernel_rfl) (by kernel_rfl) rfl rfl (zr rfl rfl)<|d_pv 24 rfl rfl (by kernel_rfl) (by kernel_rfl) rfl rfl (zr rfl rfl)<|d_pv 26 rfl rfl (by kernel_rfl) (by kernel_rfl) rfl rfl (zd rfl)<|d_pv 27 rfl rfl (by kernel_rfl) (by kernel_rfl) rfl rfl (zd rfl) ?_
           exact zla (hD1 (u2_1r2,u2_2r2,u2_3r2,u2_4r2,u2_5r2,u19_1r2,u19_2r2,u25_1r2)) (by kernel_rfl) ((.of rfl):SubM _ _) .rfl .rfl ((.of [0,1,2,3,4,5,6,7,8] rfl):SelR _ _ _)
         refine zya (X:=Nat×Option Addr×Nat×Option Addr×Nat) (k':=11) (L':=(lb 30 524287)) (fun (u2_1r2,u2_2r2,u2_3r2,u2_4r2,u2_5r2)=>([(114,.pointer (some ⟨u2_1r2,0,none⟩)),(130,.int .i64 qd1),(126,.int .i64 qd2),(122,.int .i64 qd3),(118,.int .i64 qd4),(20,.int .i64 ((k:Nat):Int)),(21,.pointer (some ⟨b22,0,none⟩)),(95,.int .i64 ((k:Nat):Int)),(94,.int .i64 ((na:Nat):Int)),(93,.slice pa na ca),(19,.slice (some ⟨u5_1,0,none⟩) na na),(18,.slice (some ⟨u2_1,0,none⟩) na na),(11,.pointer (some ⟨b3,0,none⟩)),(7,.pointer (some ⟨b2,0,none⟩)),(6,.pointer (some ⟨b1,0,none⟩)),(3,.int .i64 ((s9:Nat):Int)),(4,.int .i64 ((r9:Nat):Int))],[],[boxA b25 24 [.int .i64 ((s9:Nat):Int),.int .i64 ((s9:Nat):Int),.int .i64 m1,.slice p323 (s9*s9) c324],boxA b22 68 [.int .i64 ((la.getD k (0,0)).1),.int .i64 ((la.getD k (0,0)).2)],rowA 4 rB (some ⟨u5_1,0,none⟩) na (Cr.fil (fun p=>Cr.shF (lx.getD 0) (Cr.shA l1 l2 w1 w2 vh2 s9 r9 p)) false (0,0) la k),rowA 68 (rI2 .i64) (some ⟨u2_1,0,none⟩) na (Cr.fil (fun p=>Cr.shP (lx.getD 0) p (Cr.shA l1 l2 w1 w2 vh2 s9 r9 p)) (0,0) (0,0) la k),boxA b3 32 (cw [ul,vl]),boxA b2 24 [.int .i64 ((w2:Nat):Int),.int .i64 ((vh2:Nat):Int),.int .i64 m2,.slice p2 n2 c2],boxA b1 24 [.int .i64 ((w1:Nat):Int),.int .i64 ((vh1:Nat):Int),.int .i64 m1,.slice p1 n1 c1]],[atF u2_1r2 0 [.int .i64 ((s9:Nat):Int),.int .i64 ((s9:Nat):Int),.int .i64 m1,.slice p323 (s9*s9) c324,.int .i64 ((w2:Nat):Int),.int .i64 ((vh2:Nat):Int),.int .i64 m2,.slice p2 n2 c2,.slice u2_2r2 (vh2+1) u2_3r2,.slice u2_4r2 (vh2+1) u2_5r2,.int .i64 (Cr.sumN (Cr.px (Cr.cutL l1 w1 ((la.getD k (0,0)).2).toNat ((la.getD k (0,0)).1).toNat s9 s9)) (s9*s9)),.int .i64 (((((s9*s9):Nat):Int)*(Cr.sumN (Cr.sq (Cr.cutL l1 w1 ((la.getD k (0,0)).2).toNat ((la.getD k (0,0)).1).toNat s9 s9)) (s9*s9))) - ((Cr.sumN (Cr.px (Cr.cutL l1 w1 ((la.getD k (0,0)).2).toNat ((la.getD k (0,0)).1).toNat s9 s9)) (s9*s9))*(Cr.sumN (Cr.px (Cr.cutL l1 w1 ((la.getD k (0,0)).2).toNat ((la.getD k (0,0)).1).toNat s9 s9)) (s9*s9))))],slF (rS (rI .i64)) u2_2r2 u2_3r2 (Cr.tab (Cr.px l2) w2 (vh2+1)),slF (rS (rI .i64)) u2_4r2 u2_5r2 (Cr.tab (Cr.sq l2) w2 (vh2+1)),slF (rI .i64) p323 c324 (Cr.cutL l1 w1 ((la.getD k (0,0)).2).toNat ((la.getD k (0,0)).1).toNat s9 s9),slF (rI .i64) p1 c1 l1,slF (rI .i64) p2 c2 l2,slF (rI2 .i64) pa ca la,eF ul vl lx])) ?_ (fun hD4=> ?_)
         ·
          rintro ⟨u2_1r2,u2_2r2,u2_3r2,u2_4r2,u2_5r2⟩
          dsimp only [cw]
          refine znc 19 25 (by kernel_rfl) ?_ ?_
          ·
           refine zH rfl rfl rfl rfl (.c rfl (.c rfl (.c rfl (.c rfl (.c rfl (.c rfl .n)))))) ce45 (zjc (w1:=s9) (vh1:=s9) (m1:=m1) (p1:=p323) (n1:=(s9*s9)) (c1:=c324) (l1:=(Cr.cutL l1 w1 ((la.getD k (0,0)).2).toNat ((la.getD k (0,0)).1).toNat s9 s9)) (w2:=w2) (vh2:=vh2) (m2:=m2) (p2:=p2) (n2:=n2) (c2:=c2) (l2:=l2) (bm:=u2_1r2) (ps:=u2_2r2) (cs:=u2_3r2) (pq:=u2_4r2) (cq:=u2_5r2) (le:=qd4) (tp:=qd3) (ri:=qd2) (bo:=qd1) (hn1:=by exact hca.1) (hw1:=by exact hca.2.1) (hh1:=by exact hca.2.1) (hwh1:=by rfl) (hb1:=by exact hca.2.2.2.1) (hg1:=by exact hca.2.2.2.2) (hn2:=by assumption) (hw2:=by first|rfl|assumption|omega) (hh2:=by first|rfl|assumption|omega) (hwh2:=by first|rfl|assumption|omega) (hb2:=by first|rfl|assumption|omega) (hg2:=by first|rfl|assumption|omega) (hle:=by first|rfl|assumption|omega) (htp:=by first|rfl|assumption|omega) (hri:=by first|rfl|assumption|omega) (hbo:=by first|rfl|assumption|omega)) (.c (j:=0) rfl (.c (j:=3) rfl (.c (j:=5) rfl (.c (j:=1) rfl (.c (j:=2) rfl .n))))) ?_
           rintro ⟨u19_1r2,u19_2r2⟩ hy37
           dsimp only [List.append_eq,List.nil_append,List.cons_append]
           replace hy37:((Cr.allP (Cr.pat (Cr.cutL l1 w1 ((la.getD k (0,0)).2).toNat ((la.getD k (0,0)).1).toNat s9 s9) l2 ((s9:Nat):Int) ((s9:Nat):Int) ((w2:Nat):Int) ((vh2:Nat):Int)) qd4 qd3 (qd2 - qd4+1).toNat (qd1 - qd3+1).toNat).isSome=false→u19_1r2=wz∧u19_2r2=wz)∧Big.hq (Cr.pQ (Cr.allP (Cr.pat (Cr.cutL l1 w1 ((la.getD k (0,0)).2).toNat ((la.getD k (0,0)).1).toNat s9 s9) l2 ((s9:Nat):Int) ((s9:Nat):Int) ((w2:Nat):Int) ((vh2:Nat):Int)) qd4 qd3 (qd2 - qd4+1).toNat (qd1 - qd3+1).toNat))≤6:=hy37
           have hy38:((Cr.allP (Cr.pat (Cr.cutL l1 w1 ((la.getD k (0,0)).2).toNat ((la.getD k (0,0)).1).toNat s9 s9) l2 ((s9:Nat):Int) ((s9:Nat):Int) ((w2:Nat):Int) ((vh2:Nat):Int)) qd4 qd3 (qd2 - qd4+1).toNat (qd1 - qd3+1).toNat):Cr.Pk)=(Cr.shA l1 l2 w1 w2 vh2 s9 r9 (la.getD k (0,0))):=by unfold Cr.shA;congr 1 <;> omega
           rw [hy38]
           refine d_pv 20 rfl rfl (by kernel_rfl) (by kernel_rfl) rfl rfl (za rfl)<|d_pv 21 rfl rfl (by kernel_rfl) (by kernel_rfl) rfl rfl (zr rfl rfl)<|d_pv 22 rfl rfl (by kernel_rfl) (by kernel_rfl) rfl rfl (zr rfl rfl)<|d_pv 23 rfl rfl (by kernel_rfl) (by kernel_rfl) rfl rfl (zr rfl rfl)<|d_pv 24 rfl rfl (by kernel_rfl) (by kernel_rfl) rfl rfl (zr rfl rfl) ?_
           exact zla (hD2 (u2_1r2,u2_2r2,u2_3r2,u2_4r2,u2_5r2,u19_1r2,u19_2r2)) (by kernel_rfl) ((.of rfl):SubM _ _) .rfl .rfl ((.of [0,1,2,3,4,5,6,7,8] rfl):SelR _ _ _)
          ·
           refine zgb rfl rfl rfl rfl (zw zr32 rfl) (fun u25_1r2 _=> ?_)
           exact zla (hD3 (u2_1r2,u2_2r2,u2_3r2,u2_4r2,u2_5r2,u25_1r2)) (by kernel_rfl) ((.of rfl):SubM _ _) .rfl .rfl ((.of [0,1,2,3,4,5,6,7] rfl):SelR _ _ _)
         refine zya (X:=Nat) (k':=11) (L':=(lb 30 34078715)) (fun u25_1r2=>([(26,.pointer (some ⟨u25_1r2,0,none⟩)),(130,.int .i64 qd1),(126,.int .i64 qd2),(122,.int .i64 qd3),(118,.int .i64 qd4),(113,.agg #[.int .i64 ((w2:Nat):Int),.int .i64 ((vh2:Nat):Int),.int .i64 m2,.slice p2 n2 c2]),(112,.agg #[.int .i64 ((s9:Nat):Int),.int .i64 ((s9:Nat):Int),.int .i64 m1,.slice p323 (s9*s9) c324]),(20,.int .i64 ((k:Nat):Int)),(21,.pointer (some ⟨b22,0,none⟩)),(95,.int .i64 ((k:Nat):Int)),(94,.int .i64 ((na:Nat):Int)),(93,.slice pa na ca),(19,.slice (some ⟨u5_1,0,none⟩) na na),(18,.slice (some ⟨u2_1,0,none⟩) na na),(11,.pointer (some ⟨b3,0,none⟩)),(7,.pointer (some ⟨b2,0,none⟩)),(6,.pointer (some ⟨b1,0,none⟩)),(3,.int .i64 ((s9:Nat):Int)),(4,.int .i64 ((r9:Nat):Int))],[boxA u25_1r2 32 [.bool false,.slice none 0 0,.bool false,.slice none 0 0]],[boxA b25 24 [.int .i64 ((s9:Nat):Int),.int .i64 ((s9:Nat):Int),.int .i64 m1,.slice p323 (s9*s9) c324],boxA b22 68 [.int .i64 ((la.getD k (0,0)).1),.int .i64 ((la.getD k (0,0)).2)],rowA 4 rB (some ⟨u5_1,0,none⟩) na (Cr.fil (fun p=>Cr.shF (lx.getD 0) (Cr.shA l1 l2 w1 w2 vh2 s9 r9 p)) false (0,0) la k),rowA 68 (rI2 .i64) (some ⟨u2_1,0,none⟩) na (Cr.fil (fun p=>Cr.shP (lx.getD 0) p (Cr.shA l1 l2 w1 w2 vh2 s9 r9 p)) (0,0) (0,0) la k),boxA b3 32 (cw [ul,vl]),boxA b2 24 [.int .i64 ((w2:Nat):Int),.int .i64 ((vh2:Nat):Int),.int .i64 m2,.slice p2 n2 c2],boxA b1 24 [.int .i64 ((w1:Nat):Int),.int .i64 ((vh1:Nat):Int),.int .i64 m1,.slice p1 n1 c1]],[slF (rI .i64) p323 c324 (Cr.cutL l1 w1 ((la.getD k (0,0)).2).toNat ((la.getD k (0,0)).1).toNat s9 s9),slF (rI .i64) p1 c1 l1,slF (rI .i64) p2 c2 l2,slF (rI2 .i64) pa ca la,eF ul vl lx])) ?_ (fun hD5=> ?_)
         ·
          rintro u25_1r2
          dsimp only [cw]
          refine zL 2 (by kernel_rfl) ?_
          ·
           refine zH rfl rfl rfl rfl (.c rfl (.c rfl .n)) ce35 (zPa (w1:=s9) (vh1:=s9) (m1:=m1) (p1:=p323) (n1:=(s9*s9)) (c1:=c324) (l1:=(Cr.cutL l1 w1 ((la.getD k (0,0)).2).toNat ((la.getD k (0,0)).1).toNat s9 s9)) (w2:=w2) (vh2:=vh2) (m2:=m2) (p2:=p2) (n2:=n2) (c2:=c2) (l2:=l2) (hn1:=by exact hca.1) (hw1:=by exact hca.2.1) (hh1:=by exact hca.2.1) (hwh1:=by rfl) (hb1:=by exact hca.2.2.2.1) (hg1:=by exact hca.2.2.2.2) (hn2:=by assumption) (hw2:=by first|rfl|assumption|omega) (hh2:=by first|rfl|assumption|omega) (hwh2:=by first|rfl|assumption|omega) (hb2:=by first|rfl|assumption|omega) (hg2:=by first|rfl|assumption|omega) (hok:=by exact hok.2)) (.c (j:=0) rfl (.c (j:=2) rfl .n)) ?_
           rintro ⟨u2_1r2,u2_2r2,u2_3r2,u2_4r2,u2_5r2⟩ -
           dsimp only [List.append_eq,List.nil_append,List.cons_append]
           exact zla (hD3 (u2_1r2,u2_2r2,u2_3r2,u2_4r2,u2_5r2,u25_1r2)) (by kernel_rfl) ((.of rfl):SubM _ _) .rfl .rfl ((.of [0,1,2,3,4,5,6,7] rfl):SelR _ _ _)
         refine znc 2 25 (by kernel_rfl) ?_ ?_
         ·
          refine zH rfl rfl rfl rfl (.c rfl (.c rfl .n)) ce35 (zPa (w1:=s9) (vh1:=s9) (m1:=m1) (p1:=p323) (n1:=(s9*s9)) (c1:=c324) (l1:=(Cr.cutL l1 w1 ((la.getD k (0,0)).2).toNat ((la.getD k (0,0)).1).toNat s9 s9)) (w2:=w2) (vh2:=vh2) (m2:=m2) (p2:=p2) (n2:=n2) (c2:=c2) (l2:=l2) (hn1:=by exact hca.1) (hw1:=by exact hca.2.1) (hh1:=by exact hca.2.1) (hwh1:=by rfl) (hb1:=by exact hca.2.2.2.1) (hg1:=by exact hca.2.2.2.2) (hn2:=by assumption) (hw2:=by first|rfl|assumption|omega) (hh2:=by first|rfl|assumption|omega) (hwh2:=by first|rfl|assumption|omega) (hb2:=by first|rfl|assumption|omega) (hg2:=by first|rfl|assumption|omega) (hok:=by exact hok.2)) (.c (j:=0) rfl (.c (j:=2) rfl .n)) ?_
          rintro ⟨u2_1r2,u2_2r2,u2_3r2,u2_4r2,u2_5r2⟩ -
          dsimp only [List.append_eq,List.nil_append,List.cons_append]
          exact zla (hD4 (u2_1r2,u2_2r2,u2_3r2,u2_4r2,u2_5r2)) (by kernel_rfl) ((.of rfl):SubM _ _) .rfl .rfl ((.of [0,1,2,3,4,5,6,7] rfl):SelR _ _ _)
         ·
          refine zgb rfl rfl rfl rfl (zw zr32 rfl) (fun u25_1r2 _=> ?_)
          exact zla (hD5 u25_1r2) (by kernel_rfl) ((.of rfl):SubM _ _) .rfl .rfl ((.of [0,1,2,3,4] rfl):SelR _ _ _)
        ·
         refine zja<|zl<|zl<|zu<|ze<|zi<|zc<|r_pv rfl rfl (za rfl)<|r_pv rfl rfl (za rfl)<|r_pv rfl rfl (zd rfl)<|r_pv rfl rfl (zd rfl)<|r_pv rfl rfl (zd rfl)<|zj<|ze<|zI ?_
         have hk9:k=na:=by omega
         refine zta 1 rfl (.s .z)<|zta 0 rfl .z ?_
         have hg9:((Cr.rk2 ((w1:Nat):Int) ((vh1:Nat):Int) m1 l1 ((w2:Nat):Int) ((vh2:Nat):Int) m2 l2)∧(Cr.srk ((s9:Nat):Int) ((r9:Nat):Int))∧lx.isSome=true∧¬(Cr.outp ((w1:Nat):Int) ((vh1:Nat):Int) ((s9:Nat):Int) la)):=⟨hok,hsr,hv9,hno⟩
         exact zzb Tryz.results27 (some ⟨u2_1,0,none⟩,na,na,(Cr.fil (fun p=>Cr.shP (lx.getD 0) p (Cr.shA l1 l2 w1 w2 vh2 s9 r9 p)) (0,0) (0,0) la k),some ⟨u5_1,0,none⟩,na,na,(Cr.fil (fun p=>Cr.shF (lx.getD 0) (Cr.shA l1 l2 w1 w2 vh2 s9 r9 p)) false (0,0) la k)) (⟨(Cr.fil_len (fun p=>Cr.shP (lx.getD 0) p (Cr.shA l1 l2 w1 w2 vh2 s9 r9 p)) (0,0) (0,0) la k).trans hla,(Cr.fil_len (fun p=>Cr.shF (lx.getD 0) (Cr.shA l1 l2 w1 w2 vh2 s9 r9 p)) false (0,0) la k).trans hla,by rw [if_pos hg9,hk9];rfl,by rw [if_pos hg9,hk9];rfl⟩) (zo rfl) (zo rfl) (zo rfl) (by rw [Cr.cd3,if_pos hok,if_pos hsr,if_pos hv9,if_neg hno]) (ho:=(.n:PickO _ _ _)) ((.of [1,0] rfl):SelR _ _ _)
       refine zya (X:=Nat) (k':=2) (L':=(lb 8 95)) (fun u2_1=>([(18,.slice (some ⟨u2_1,0,none⟩) na na),(91,.int .i64 ((na:Nat):Int)),(11,.pointer (some ⟨b3,0,none⟩)),(7,.pointer (some ⟨b2,0,none⟩)),(6,.pointer (some ⟨b1,0,none⟩)),(2,.slice pa na ca),(3,.int .i64 ((s9:Nat):Int)),(4,.int .i64 ((r9:Nat):Int))],[],[rowA 68 (rI2 .i64) (some ⟨u2_1,0,none⟩) na (List.replicate na (0,0)),boxA b3 32 (cw [ul,vl]),boxA b2 24 [.int .i64 ((w2:Nat):Int),.int .i64 ((vh2:Nat):Int),.int .i64 m2,.slice p2 n2 c2],boxA b1 24 [.int .i64 ((w1:Nat):Int),.int .i64 ((vh1:Nat):Int),.int .i64 m1,.slice p1 n1 c1]],[slF (rI .i64) p1 c1 l1,slF (rI .i64) p2 c2 l2,slF (rI2 .i64) pa ca la,eF ul vl lx])) ?_ (fun hD1=> ?_)
       ·
        rintro u2_1
        dsimp only [cw]
        refine zL 5 (by kernel_rfl) ?_
        ·
         refine zbd rfl rfl rfl rfl (zIa (r:=rB) (k:=na) (x0:=false) (γ0:=()) Tryz.underlying63 inf4 rfl rfl rfl rfl (by omega) (by omega) rfl (fun _ _=>by trivial) (by decide)) (fun u5_1 _=> ?_)
         refine d_pv 7 rfl rfl (by kernel_rfl) (by kernel_rfl) rfl rfl (zd rfl) ?_
         exact zla (hD0 (u2_1,u5_1)) (by kernel_rfl) ((.of rfl):SubM _ _) .rfl .rfl ((.of [0,1,2,3] rfl):SelR _ _ _)
       refine zya (X:=Nat) (k':=3) (L':=(lb 8 59)) (fun u5_1=>([(92,.slice (some ⟨u5_1,0,none⟩) na na),(88,.int .i64 ((na:Nat):Int)),(11,.pointer (some ⟨b3,0,none⟩)),(7,.pointer (some ⟨b2,0,none⟩)),(6,.pointer (some ⟨b1,0,none⟩)),(2,.slice pa na ca),(3,.int .i64 ((s9:Nat):Int)),(4,.int .i64 ((r9:Nat):Int))],[],[rowA 4 rB (some ⟨u5_1,0,none⟩) na (List.replicate na false),boxA b3 32 (cw [ul,vl]),boxA b2 24 [.int .i64 ((w2:Nat):Int),.int .i64 ((vh2:Nat):Int),.int .i64 m2,.slice p2 n2 c2],boxA b1 24 [.int .i64 ((w1:Nat):Int),.int .i64 ((vh1:Nat):Int),.int .i64 m1,.slice p1 n1 c1]],[slF (rI .i64) p1 c1 l1,slF (rI .i64) p2 c2 l2,slF (rI2 .i64) pa ca la,eF ul vl lx])) ?_ (fun hD2=> ?_)
       ·
        rintro u5_1
        dsimp only [cw]
        refine zL 2 (by kernel_rfl) ?_
        ·
         refine zbd rfl rfl rfl rfl (zIa (r:=rI2 .i64) (k:=na) (x0:=(0,0)) (γ0:=()) Tryz.underlying59 inf68 rfl rfl rfl rfl (by omega) (by omega) rfl (fun _ _=>by first|trivial|exact Sl.nil _ _) (by decide)) (fun u2_1 _=> ?_)
         refine d_pv 6 rfl rfl (by kernel_rfl) (by kernel_rfl) rfl rfl (zd rfl)<|d_pv 7 rfl rfl (by kernel_rfl) (by kernel_rfl) rfl rfl (zd rfl) ?_
         exact zla (hD0 (u2_1,u5_1)) (by kernel_rfl) ((.of rfl):SubM _ _) .rfl (zgd 1 rfl (zgd 0 rfl (zgd 0 rfl (zgd 0 rfl (zgd 0 rfl .nil))))) ((.of [0,1,2,3] rfl):SelR _ _ _)
       refine znc 2 5 (by kernel_rfl) ?_ ?_
       ·
        refine zbd rfl rfl rfl rfl (zIa (r:=rI2 .i64) (k:=na) (x0:=(0,0)) (γ0:=()) Tryz.underlying59 inf68 rfl rfl rfl rfl (by omega) (by omega) rfl (fun _ _=>by first|trivial|exact Sl.nil _ _) (by decide)) (fun u2_1 _=> ?_)
        refine d_pv 6 rfl rfl (by kernel_rfl) (by kernel_rfl) rfl rfl (zd rfl) ?_
        exact zla (hD1 u2_1) (by kernel_rfl) ((.of rfl):SubM _ _) .rfl .rfl ((.of [0,1,2,3] rfl):SelR _ _ _)
       ·
        refine zbd rfl rfl rfl rfl (zIa (r:=rB) (k:=na) (x0:=false) (γ0:=()) Tryz.underlying63 inf4 rfl rfl rfl rfl (by omega) (by omega) rfl (fun _ _=>by trivial) (by decide)) (fun u5_1 _=> ?_)
        exact zla (hD2 u5_1) (by kernel_rfl) ((.of rfl):SubM _ _) .rfl .rfl ((.of [0,1,2,3] rfl):SelR _ _ _)
end Go.Proofs.YtkamccndgblheaaGreat.Sp
namespace Go.Proofs.YtkamccndgblheaaGreat.Sp
open Go
set_option linter.unusedVariables false
set_option maxRecDepth 100000
set_option maxHeartbeats 1000000
theorem zUd {w1:Nat} {vh1:Nat} {m1:Int} {p1:Option Addr} {n1:Nat} {c1:Nat} {l1:List Int} {w2:Nat} {vh2:Nat} {m2:Int} {p2:Option Addr} {n2:Nat} {c2:Nat} {l2:List Int} {ex:Int} {ey:Int} {s9:Nat} {r9:Nat} {ul:Wd} {vl:Wd} {le:Rat} (hn1:l1.length=n1) (hw1:1≤w1∧w1≤64) (hh1:1≤vh1∧vh1≤64) (hwh1:n1=w1*vh1) (hb1:n1≤4096) (hg1:∀i,i<n1→0≤l1.getD i 0∧l1.getD i 0≤65535) (hn2:l2.length=n2) (hw2:1≤w2∧w2≤64) (hh2:1≤vh2∧vh2≤64) (hwh2:n2=w2*vh2) (hb2:n2≤4096) (hg2:∀i,i<n2→0≤l2.getD i 0∧l2.getD i 0≤65535) (hok1:Bl.rok ((w1:Nat):Int) ((vh1:Nat):Int) m1 l1) (hok2:Bl.rok ((w2:Nat):Int) ((vh2:Nat):Int) m2 l2) (hx:0≤ex∧ex+s9≤w1) (hy:0≤ey∧ey+s9≤vh1) (hs9:1≤s9∧s9≤64) (hr9:r9≤64) (hle:Big.hq le≤16):Con Tryz.prog 31 [.agg #[.int .i64 ((w1:Nat):Int),.int .i64 ((vh1:Nat):Int),.int .i64 m1,.slice p1 n1 c1],.agg #[.int .i64 ((w2:Nat):Int),.int .i64 ((vh2:Nat):Int),.int .i64 m2,.slice p2 n2 c2],.agg #[.int .i64 ex,.int .i64 ey],.int .i64 ((s9:Nat):Int),.int .i64 ((r9:Nat):Int),.agg #[ul.b,ul.l,vl.b,vl.l]] [] [slF (rI .i64) p1 c1 l1,slF (rI .i64) p2 c2 l2,qF true ul vl le] (Y:=Unit) (fun y=>True) (fun y=> .tuple #[.agg #[.int .i64 ((Cr.shP le (ex,ey) (Cr.shA l1 l2 w1 w2 vh2 s9 r9 (ex,ey))).1),.int .i64 ((Cr.shP le (ex,ey) (Cr.shA l1 l2 w1 w2 vh2 s9 r9 (ex,ey))).2)],.bool (Cr.shF le (Cr.shA l1 l2 w1 w2 vh2 s9 r9 (ex,ey)))]) (fun y=>[]) (fun y=>[]):=by
 refine zq Tryz.func31 rfl rfl rfl (fun c=> ?_)
 show RunC _ _ _ _ _ [(0,.agg #[.int .i64 ((w1:Nat):Int),.int .i64 ((vh1:Nat):Int),.int .i64 m1,.slice p1 n1 c1]),(1,.agg #[.int .i64 ((w2:Nat):Int),.int .i64 ((vh2:Nat):Int),.int .i64 m2,.slice p2 n2 c2]),(2,.agg #[.int .i64 ex,.int .i64 ey]),(3,.int .i64 ((s9:Nat):Int)),(4,.int .i64 ((r9:Nat):Int)),(5,.agg #[ul.b,ul.l,vl.b,vl.l])] [] [slF (rI .i64) p1 c1 l1,slF (rI .i64) p2 c2 l2,qF true ul vl le]
 refine zY 0 rfl (fun hL0=> ?_)
 refine zY 1 rfl (fun hL1=> ?_)
 have hca:=Cr.cut_all hok1 hn1 hwh1 (x:=ex.toNat) (y:=ey.toNat) (pw:=s9) (ph:=s9) (by omega) (by omega) (by omega) (by omega)
 have hrc:Cr.rk2 ((s9:Nat):Int) ((s9:Nat):Int) m1 (Cr.cutL l1 w1 ey.toNat ex.toNat s9 s9) ((w2:Nat):Int) ((vh2:Nat):Int) m2 l2:=⟨Cr.rok_cut hok1 hn1 hwh1 (by omega) (by omega) (by omega) (by omega),hok2⟩
 refine zi<|zc<|zJ rfl rfl (zQ rfl rfl) (fun b1=> ?_)
 refine zJ rfl rfl (zQ rfl rfl) (fun b2=> ?_)
 refine zJ rfl rfl (zQ rfl rfl) (fun b3=> ?_)
 refine zJ rfl rfl (zQ rfl rfl) (fun b4=> ?_)
 refine zJ rfl rfl (zw zr68 rfl) (fun b5=> ?_)
 refine r_pv rfl rfl (zd rfl)<|zj<|ze<|zi<|zc<|r_u rfl rfl (zf 4 ty24 rfl rfl (.take (.take (.take (.take .nil)))))<|r_pv rfl rfl (zg Tryz.underlying68 rfl sz3 rfl rfl)<|r_u rfl rfl (zh 2 ty3 rfl rfl rfl)<|r_pv rfl rfl (zg Tryz.underlying68 rfl sz3 rfl rfl)<|r_u rfl rfl (zh 2 ty3 rfl rfl rfl)<|r_pv rfl rfl (za rfl)<|r_pv rfl rfl (za rfl)<|zy rfl rfl (.c rfl (.c rfl (.c rfl (.c rfl (.c rfl .n))))) ce60 (zyf (w2:=w1) (vh2:=vh1) (m2:=m1) (p2:=p1) (n2:=n1) (c2:=c1) (l2:=l1) (ex:=ex) (ey:=ey) (pw:=s9) (ph:=s9) (hn2:=by assumption) (hw2:=by assumption) (hh2:=by assumption) (hwh2:=by assumption) (hb2:=by assumption) (hg2:=by assumption) (hx:=by assumption) (hy:=by assumption)) (.c (j:=0) rfl .n) ?_
 rintro ⟨p36,c37⟩ -
 dsimp only [List.append_eq,List.nil_append,List.cons_append]
 refine zJ rfl rfl (zw zr24 rfl) (fun b8=> ?_)
 refine zn 0 rfl rfl rfl rfl rfl sz24 rfl (.take (.take (.take (.take .nil)))) .z<|zj<|ze<|zi<|zc<|r_pv rfl rfl (zK zr68 rfl Tryz.underlying68 (.c sz3 (.c sz3 .n)) .n .n)<|zJ rfl rfl (zw zr68 rfl) (fun b9=> ?_)
 refine zn 0 rfl rfl rfl rfl rfl sz68 rfl (.take (.take .nil)) .z<|r_pv rfl rfl (zd rfl)<|zj<|ze<|zi<|zc<|zy rfl rfl (.c rfl .n) ce16 (znb (z:=(-2)) (hz:=by first|rfl|assumption|omega)) (.n) ?_
 rintro ⟨w310,w411⟩ -
 dsimp only [List.append_eq,List.nil_append,List.cons_append]
 refine zJ rfl rfl (zw zr32 rfl) (fun b12=> ?_)
 refine zn 0 rfl rfl rfl rfl rfl sz32 rfl (.take (.take (.take (.take .nil)))) .z<|zj<|ze<|zi<|zi<|zc<|r_pv rfl rfl (za rfl)<|r_pv rfl rfl (zBc (z:=(-((r9:Nat):Int))) rfl (w64 (by omega)))<|r_pv rfl rfl (zd rfl)<|zj<|ze<|zA<|zka (X:=Nat×(Cr.Pk)×Wd×Wd) (fun x:Nat×(Cr.Pk)×Wd×Wd=>x.1≤(2*r9+1)∧x.2.1=(Cr.allP (Cr.pat (Cr.cutL l1 w1 ey.toNat ex.toNat s9 s9) l2 ((s9:Nat):Int) ((s9:Nat):Int) ((w2:Nat):Int) ((vh2:Nat):Int)) (ex - ((r9:Nat):Int)) (ey - ((r9:Nat):Int)) (2*r9+1) x.1)∧Big.hq (Cr.bq x.2.1)≤6) (fun x=>[(16,.bool (x.2.1.isSome)),(18,.int .i64 (-((r9:Nat):Int)+((x.1:Nat):Int))),(17,.pointer (some ⟨b12,0,none⟩)),(15,.pointer (some ⟨b9,0,none⟩)),(14,.pointer (some ⟨b8,0,none⟩)),(13,.bool false),(12,.pointer (some ⟨b5,0,none⟩)),(11,.pointer (some ⟨b4,0,none⟩)),(8,.pointer (some ⟨b3,0,none⟩)),(7,.pointer (some ⟨b2,0,none⟩)),(4,.int .i64 ((r9:Nat):Int))]) (fun x=>[boxA b12 32 (cw [x.2.2.1,x.2.2.2]),boxA b9 68 [.int .i64 (Cr.bx x.2.1 ex),.int .i64 (Cr.by' x.2.1 ey)],boxA b8 24 [.int .i64 ((s9:Nat):Int),.int .i64 ((s9:Nat):Int),.int .i64 m1,.slice p36 (s9*s9) c37],boxA b5 68 [.int .i64 0,.int .i64 0],boxA b4 32 (cw [ul,vl]),boxA b3 68 [.int .i64 ex,.int .i64 ey],boxA b2 24 [.int .i64 ((w2:Nat):Int),.int .i64 ((vh2:Nat):Int),.int .i64 m2,.slice p2 n2 c2],boxA b1 24 [.int .i64 ((w1:Nat):Int),.int .i64 ((vh1:Nat):Int),.int .i64 m1,.slice p1 n1 c1]]) (fun x=>[qF true x.2.2.1 x.2.2.2 (Cr.bq x.2.1),qF true w310 w411 (((-2):Int):Rat),slF (rI .i64) p36 c37 (Cr.cutL l1 w1 ey.toNat ex.toNat s9 s9),slF (rI .i64) p1 c1 l1,slF (rI .i64) p2 c2 l2,qF true ul vl le]) (fun x:Nat×(Cr.Pk)×Wd×Wd=>(2*r9+1) - x.1) (0,(none:Cr.Pk),w310,w411) (show 0≤(2*r9+1)∧(none:Cr.Pk)=(Cr.allP (Cr.pat (Cr.cutL l1 w1 ey.toNat ex.toNat s9 s9) l2 ((s9:Nat):Int) ((s9:Nat):Int) ((w2:Nat):Int) ((vh2:Nat):Int)) (ex - ((r9:Nat):Int)) (ey - ((r9:Nat):Int)) (2*r9+1) 0)∧Big.hq (Cr.bq (none:Cr.Pk))≤6 from by exact ⟨Nat.zero_le _,rfl,by decide +kernel⟩) ((.e rfl rfl (.e rfl (congrArg (Value.int .i64) (by omega)) (.of rfl))):SubM _ _) (ho:=((.c (i:=0) rfl (.e (i:=0) rfl rfl (.of [0,0,0,0,0,0] rfl))):PickO _ _ _)) ((.e (j:=0) rfl rfl (.of [0,1,2,3,4] rfl)):SelR _ _ _) ?_
 rintro ⟨j,B,u0,v0⟩ hI
 replace hI:j≤(2*r9+1)∧B=(Cr.allP (Cr.pat (Cr.cutL l1 w1 ey.toNat ex.toNat s9 s9) l2 ((s9:Nat):Int) ((s9:Nat):Int) ((w2:Nat):Int) ((vh2:Nat):Int)) (ex - ((r9:Nat):Int)) (ey - ((r9:Nat):Int)) (2*r9+1) j)∧Big.hq (Cr.bq B)≤6:=hI
 try dsimp only [cw]
 obtain ⟨hj,hB,hBq⟩:=hI
 refine zi<|zi<|zc<|r_pv rfl rfl (za rfl)<|r_pv rfl rfl (za rfl)<|r_pv rfl rfl (zdb rfl rfl)<|zj<|ze<|zG rfl (fun hdy=> ?_) (fun hdy=> ?_)
 ·
  refine zB<|ze<|zi<|zA<|zi<|zc<|r_pv rfl rfl (za rfl)<|r_pv rfl rfl (zBc (z:=(-((r9:Nat):Int))) rfl (w64 (by omega)))<|r_pv rfl rfl (zd rfl)<|zj<|ze<|zA<|zka (X:=Nat×(Cr.Pk)×Wd×Wd) (fun x:Nat×(Cr.Pk)×Wd×Wd=>x.1≤(2*r9+1)∧x.2.1=(Cr.rowP (Cr.pat (Cr.cutL l1 w1 ey.toNat ex.toNat s9 s9) l2 ((s9:Nat):Int) ((s9:Nat):Int) ((w2:Nat):Int) ((vh2:Nat):Int)) (ex - ((r9:Nat):Int)) ((ey - ((r9:Nat):Int))+((j:Nat):Int)) B x.1)∧Big.hq (Cr.bq x.2.1)≤6) (fun x=>[(16,.bool (x.2.1.isSome)),(19,.int .i64 (-((r9:Nat):Int)+((x.1:Nat):Int))),(18,.int .i64 (-((r9:Nat):Int)+((j:Nat):Int))),(17,.pointer (some ⟨b12,0,none⟩)),(15,.pointer (some ⟨b9,0,none⟩)),(14,.pointer (some ⟨b8,0,none⟩)),(13,.bool false),(12,.pointer (some ⟨b5,0,none⟩)),(11,.pointer (some ⟨b4,0,none⟩)),(8,.pointer (some ⟨b3,0,none⟩)),(7,.pointer (some ⟨b2,0,none⟩)),(4,.int .i64 ((r9:Nat):Int))]) (fun x=>[boxA b12 32 (cw [x.2.2.1,x.2.2.2]),boxA b9 68 [.int .i64 (Cr.bx x.2.1 ex),.int .i64 (Cr.by' x.2.1 ey)],boxA b8 24 [.int .i64 ((s9:Nat):Int),.int .i64 ((s9:Nat):Int),.int .i64 m1,.slice p36 (s9*s9) c37],boxA b5 68 [.int .i64 0,.int .i64 0],boxA b4 32 (cw [ul,vl]),boxA b3 68 [.int .i64 ex,.int .i64 ey],boxA b2 24 [.int .i64 ((w2:Nat):Int),.int .i64 ((vh2:Nat):Int),.int .i64 m2,.slice p2 n2 c2],boxA b1 24 [.int .i64 ((w1:Nat):Int),.int .i64 ((vh1:Nat):Int),.int .i64 m1,.slice p1 n1 c1]]) (fun x=>[qF true x.2.2.1 x.2.2.2 (Cr.bq x.2.1),qF true u0 v0 (Cr.bq B),qF true w310 w411 (((-2):Int):Rat),slF (rI .i64) p36 c37 (Cr.cutL l1 w1 ey.toNat ex.toNat s9 s9),slF (rI .i64) p1 c1 l1,slF (rI .i64) p2 c2 l2,qF true ul vl le]) (fun x:Nat×(Cr.Pk)×Wd×Wd=>(2*r9+1) - x.1) (0,B,u0,v0) (show 0≤(2*r9+1)∧B=(Cr.rowP (Cr.pat (Cr.cutL l1 w1 ey.toNat ex.toNat s9 s9) l2 ((s9:Nat):Int) ((s9:Nat):Int) ((w2:Nat):Int) ((vh2:Nat):Int)) (ex - ((r9:Nat):Int)) ((ey - ((r9:Nat):Int))+((j:Nat):Int)) B 0)∧Big.hq (Cr.bq B)≤6 from by exact ⟨Nat.zero_le _,rfl,hBq⟩) ((.c rfl (.e rfl (congrArg (Value.int .i64) (by omega)) (.of rfl))):SubM _ _) (ho:=((.of [0,0,0,0,0,0,0,0] rfl):PickO _ _ _)) ((.of [0,0,1,2,3,4,5] rfl):SelR _ _ _) ?_
  rintro ⟨i,A,ub,vb⟩ hJ
  replace hJ:i≤(2*r9+1)∧A=(Cr.rowP (Cr.pat (Cr.cutL l1 w1 ey.toNat ex.toNat s9 s9) l2 ((s9:Nat):Int) ((s9:Nat):Int) ((w2:Nat):Int) ((vh2:Nat):Int)) (ex - ((r9:Nat):Int)) ((ey - ((r9:Nat):Int))+((j:Nat):Int)) B i)∧Big.hq (Cr.bq A)≤6:=hJ
  try dsimp only [cw]
  obtain ⟨hi,hA,hAq⟩:=hJ
  refine zi<|zi<|zc<|r_pv rfl rfl (za rfl)<|r_pv rfl rfl (za rfl)<|r_pv rfl rfl (zdb rfl rfl)<|zj<|ze<|zG rfl (fun hdx=> ?_) (fun hdx=> ?_)
  ·
   refine zB<|ze<|zi<|zA<|zi<|zi<|zc<|r_u rfl rfl (zf 2 ty24 rfl rfl (.take (.take (.take (.take .nil)))))<|r_u rfl rfl (zf 6 ty24 rfl rfl (.take (.take (.take (.take .nil)))))<|r_pv rfl rfl (zg Tryz.underlying68 rfl sz3 rfl rfl)<|r_u rfl rfl (zh 5 ty3 rfl rfl rfl)<|r_pv rfl rfl (za rfl)<|r_pv rfl rfl (zx (z:=(ex+(-((r9:Nat):Int)+((i:Nat):Int)))) rfl rfl (w64 (by omega)))<|r_pv rfl rfl (zg Tryz.underlying68 rfl sz3 rfl rfl)<|r_u rfl rfl (zh 5 ty3 rfl rfl rfl)<|r_pv rfl rfl (za rfl)<|r_pv rfl rfl (zx (z:=(ey+(-((r9:Nat):Int)+((j:Nat):Int)))) rfl rfl (w64 (by omega)))<|zN rfl rfl (.c rfl (.c rfl (.c rfl (.c rfl .n)))) ce11 (zTc (wi1:=((s9:Nat):Int)) (hi1:=((s9:Nat):Int)) (m1:=m1) (p1:=p36) (n1:=(s9*s9)) (c1:=c37) (l1:=(Cr.cutL l1 w1 ey.toNat ex.toNat s9 s9)) (wi2:=((w2:Nat):Int)) (hi2:=((vh2:Nat):Int)) (m2:=m2) (p2:=p2) (n2:=n2) (c2:=c2) (l2:=l2) (ex:=(ex+(-((r9:Nat):Int)+((i:Nat):Int)))) (ey:=(ey+(-((r9:Nat):Int)+((j:Nat):Int)))) (hok:=by exact hrc)) (.n)<|r_pv rfl rfl (zXa rfl)<|zj<|ze<|zG rfl (fun hps=> ?_) (fun hps=> ?_)
   ·
    have hps9:¬Cr.pos ((s9:Nat):Int) ((s9:Nat):Int) ((w2:Nat):Int) ((vh2:Nat):Int) (ex+(-((r9:Nat):Int)+((i:Nat):Int))) (ey+(-((r9:Nat):Int)+((j:Nat):Int))):=hps
    refine zja<|zl<|zu<|ze<|zc<|r_pv rfl rfl (za rfl)<|r_pv rfl rfl (zx (z:=((-((r9:Nat):Int)+((i:Nat):Int))+1)) rfl rfl (w64 (by omega)))<|r_pv rfl rfl (zd rfl)<|zj ?_
    rw [show (ex+(-((r9:Nat):Int)+((i:Nat):Int)))=(ex - ((r9:Nat):Int))+((i:Nat):Int) by omega,show (ey+(-((r9:Nat):Int)+((j:Nat):Int)))=(ey - ((r9:Nat):Int))+((j:Nat):Int) by omega] at hps9
    refine zha ((i+1),A,ub,vb) (show (i+1)≤(2*r9+1)∧A=(Cr.rowP (Cr.pat (Cr.cutL l1 w1 ey.toNat ex.toNat s9 s9) l2 ((s9:Nat):Int) ((s9:Nat):Int) ((w2:Nat):Int) ((vh2:Nat):Int)) (ex - ((r9:Nat):Int)) ((ey - ((r9:Nat):Int))+((j:Nat):Int)) B (i+1))∧Big.hq (Cr.bq A)≤6 from by exact ⟨by omega,by rw [Cr.rowP,←hA,Cr.stp_none (Cr.pat_none hps9)],hAq⟩) (by show (2*r9+1) - (i+1)<(2*r9+1) - i;omega) ((.c rfl (.e rfl (congrArg (Value.int .i64) (by omega)) (.of rfl))):SubM _ _) (ho:=((.of [0,0,0,0,0,0,0,0] rfl):PickO _ _ _)) ((.of [0,1,2,3,4,5,6] rfl):SelR _ _ _)
   ·
    have hps9:Cr.pos ((s9:Nat):Int) ((s9:Nat):Int) ((w2:Nat):Int) ((vh2:Nat):Int) (ex+(-((r9:Nat):Int)+((i:Nat):Int))) (ey+(-((r9:Nat):Int)+((j:Nat):Int))):=Decidable.not_not.1 hps
    have hsq6:Big.hq (Cr.scq (Cr.cutL l1 w1 ey.toNat ex.toNat s9 s9) l2 ((s9:Nat):Int) ((s9:Nat):Int) ((w2:Nat):Int) (ex+(-((r9:Nat):Int)+((i:Nat):Int))) (ey+(-((r9:Nat):Int)+((j:Nat):Int))))≤6:=Cr.scq_hq hca.2.2.2.2 hg2 hca.2.1 hca.2.1 rfl hwh2 hca.2.2.2.1 hca.1 hps9
    have hsr:=(Cr.scq_rng (w2:=w2) (l2:=l2) (x:=(ex+(-((r9:Nat):Int)+((i:Nat):Int)))) (y:=(ey+(-((r9:Nat):Int)+((j:Nat):Int)))) hca.1 rfl (show 0<s9 by omega)).2
    refine zB<|ze<|zi<|zc<|r_u rfl rfl (zf 2 ty24 rfl rfl (.take (.take (.take (.take .nil)))))<|r_u rfl rfl (zf 6 ty24 rfl rfl (.take (.take (.take (.take .nil)))))<|r_pv rfl rfl (zg Tryz.underlying68 rfl sz3 rfl rfl)<|r_u rfl rfl (zh 5 ty3 rfl rfl rfl)<|r_pv rfl rfl (za rfl)<|r_pv rfl rfl (zx (z:=(ex+(-((r9:Nat):Int)+((i:Nat):Int)))) rfl rfl (w64 (by omega)))<|r_pv rfl rfl (zg Tryz.underlying68 rfl sz3 rfl rfl)<|r_u rfl rfl (zh 5 ty3 rfl rfl rfl)<|r_pv rfl rfl (za rfl)<|r_pv rfl rfl (zx (z:=(ey+(-((r9:Nat):Int)+((j:Nat):Int)))) rfl rfl (w64 (by omega)))<|zy rfl rfl (.c rfl (.c rfl (.c rfl (.c rfl .n)))) ce13 (zRd (w1:=s9) (vh1:=s9) (m1:=m1) (p1:=p36) (n1:=(s9*s9)) (c1:=c37) (l1:=(Cr.cutL l1 w1 ey.toNat ex.toNat s9 s9)) (w2:=w2) (vh2:=vh2) (m2:=m2) (p2:=p2) (n2:=n2) (c2:=c2) (l2:=l2) (ex:=(ex+(-((r9:Nat):Int)+((i:Nat):Int)))) (ey:=(ey+(-((r9:Nat):Int)+((j:Nat):Int)))) (hn1:=by exact hca.1) (hw1:=by exact hca.2.1) (hh1:=by exact hca.2.1) (hwh1:=by rfl) (hb1:=by exact hca.2.2.2.1) (hg1:=by exact hca.2.2.2.2) (hn2:=by assumption) (hw2:=by assumption) (hh2:=by assumption) (hwh2:=by assumption) (hb2:=by assumption) (hg2:=by assumption) (hp:=by exact hps9)) (.c (j:=3) rfl (.c (j:=5) rfl .n)) ?_
    rintro ⟨w313,w414⟩ -
    dsimp only [List.append_eq,List.nil_append,List.cons_append]
    refine zJ rfl rfl (zw zr32 rfl) (fun b15=> ?_)
    refine zn 0 rfl rfl rfl rfl rfl sz32 rfl (.take (.take (.take (.take .nil)))) .z<|zj<|ze<|zi<|zc<|r_u rfl rfl (zf 0 ty32 rfl rfl (.take (.take (.take (.take .nil)))))<|r_u rfl rfl (zf 1 ty32 rfl rfl (.take (.take (.take (.take .nil)))))<|zN rfl rfl (.c rfl (.c rfl .n)) ce14 (zvb (k1:=true) (u1:=w313) (v1:=w414) (q1:=(Cr.scq (Cr.cutL l1 w1 ey.toNat ex.toNat s9 s9) l2 ((s9:Nat):Int) ((s9:Nat):Int) ((w2:Nat):Int) (ex+(-((r9:Nat):Int)+((i:Nat):Int))) (ey+(-((r9:Nat):Int)+((j:Nat):Int))))) (k2:=true) (u2:=ub) (v2:=vb) (q2:=(Cr.bq A)) (hl:=by omega)) (.c (j:=0) rfl (.c (j:=1) rfl .n))<|r_pv rfl rfl (zoa rfl rfl)<|zj<|ze<|zG rfl (fun htk=> ?_) (fun htk=> ?_)
    ·
     refine zsa (.c (i:=2) rfl (.c (i:=1) rfl (.c (i:=0) rfl (.c (i:=0) rfl (.c (i:=0) rfl (.c (i:=0) rfl (.c (i:=0) rfl (.c (i:=0) rfl (.c (i:=0) rfl .n)))))))))<|zea (OW:=[boxA b9 68 [.int .i64 (Cr.bx A ex),.int .i64 (Cr.by' A ey)],boxA b12 32 [ub.b,ub.l,vb.b,vb.l]]) (O:=[boxA b15 32 [w313.b,w313.l,w414.b,w414.l],boxA b8 24 [.int .i64 ((s9:Nat):Int),.int .i64 ((s9:Nat):Int),.int .i64 m1,.slice p36 (s9*s9) c37],boxA b5 68 [.int .i64 0,.int .i64 0],boxA b4 32 [ul.b,ul.l,vl.b,vl.l],boxA b3 68 [.int .i64 ex,.int .i64 ey],boxA b2 24 [.int .i64 ((w2:Nat):Int),.int .i64 ((vh2:Nat):Int),.int .i64 m2,.slice p2 n2 c2],boxA b1 24 [.int .i64 ((w1:Nat):Int),.int .i64 ((vh1:Nat):Int),.int .i64 m1,.slice p1 n1 c1]]) 4 mixed (.block (.then (.then (.block (.block (.then (.then (.block (.then .ret))))))))) (by kernel_rfl)<|d_pv 0 rfl rfl (by kernel_rfl) (by kernel_rfl) rfl rfl (za rfl)<|d_pv 1 rfl rfl (by kernel_rfl) (by kernel_rfl) rfl rfl (za rfl)<|d_pv 2 rfl rfl (by kernel_rfl) (by kernel_rfl) rfl rfl (zK zr68 rfl Tryz.underlying68 (.c sz3 (.c sz3 .n)) (.c rfl (.c rfl .n)) (.c rfl rfl rfl (.take .nil) (.c rfl rfl rfl (.skip (.take .nil)) .n)))<|d_u 3 rfl rfl (by kernel_rfl) (by kernel_rfl) rfl rfl (zf 0 ty32 rfl rfl (.take (.take (.take (.take .nil)))))<|zL 4 (by kernel_rfl) (zD (by kernel_rfl) rfl rfl rfl rfl rfl sz68 rfl (.take (.take .nil)) ?_)
     refine zJa (zma (i:=1) rfl)<|zL 5 (by kernel_rfl) (zD (by kernel_rfl) rfl rfl rfl rfl rfl sz32 rfl (.take (.take (.take (.take .nil)))) ?_)
     refine d_pv 6 rfl rfl (by kernel_rfl) (by kernel_rfl) rfl rfl (zd rfl)<|zba (by kernel_rfl)<|zT<|ze<|zc<|r_pv rfl rfl (za rfl)<|r_pv rfl rfl (zx (z:=((-((r9:Nat):Int)+((i:Nat):Int))+1)) rfl rfl (w64 (by omega)))<|r_pv rfl rfl (zd rfl)<|zj ?_
     have htk2:=(Cr.take_iff hsr).1 (Cr.sgq_sub.1 htk)
     have e8:(ex+(-((r9:Nat):Int)+((i:Nat):Int)))=(ex - ((r9:Nat):Int))+((i:Nat):Int):=by omega
     have e9:(ey+(-((r9:Nat):Int)+((j:Nat):Int)))=(ey - ((r9:Nat):Int))+((j:Nat):Int):=by omega
     rw [e8,e9] at hps9 hsq6 htk2
     refine zha ((i+1),(some (((ex - ((r9:Nat):Int))+((i:Nat):Int)),((ey - ((r9:Nat):Int))+((j:Nat):Int)),(Cr.scq (Cr.cutL l1 w1 ey.toNat ex.toNat s9 s9) l2 ((s9:Nat):Int) ((s9:Nat):Int) ((w2:Nat):Int) ((ex - ((r9:Nat):Int))+((i:Nat):Int)) ((ey - ((r9:Nat):Int))+((j:Nat):Int))))),w313,w414) (show (i+1)≤(2*r9+1)∧(some (((ex - ((r9:Nat):Int))+((i:Nat):Int)),((ey - ((r9:Nat):Int))+((j:Nat):Int)),(Cr.scq (Cr.cutL l1 w1 ey.toNat ex.toNat s9 s9) l2 ((s9:Nat):Int) ((s9:Nat):Int) ((w2:Nat):Int) ((ex - ((r9:Nat):Int))+((i:Nat):Int)) ((ey - ((r9:Nat):Int))+((j:Nat):Int)))))=(Cr.rowP (Cr.pat (Cr.cutL l1 w1 ey.toNat ex.toNat s9 s9) l2 ((s9:Nat):Int) ((s9:Nat):Int) ((w2:Nat):Int) ((vh2:Nat):Int)) (ex - ((r9:Nat):Int)) ((ey - ((r9:Nat):Int))+((j:Nat):Int)) B (i+1))∧Big.hq (Cr.bq (some (((ex - ((r9:Nat):Int))+((i:Nat):Int)),((ey - ((r9:Nat):Int))+((j:Nat):Int)),(Cr.scq (Cr.cutL l1 w1 ey.toNat ex.toNat s9 s9) l2 ((s9:Nat):Int) ((s9:Nat):Int) ((w2:Nat):Int) ((ex - ((r9:Nat):Int))+((i:Nat):Int)) ((ey - ((r9:Nat):Int))+((j:Nat):Int))))))≤6 from by exact ⟨by omega,by rw [Cr.rowP,←hA,Cr.stp_new (Cr.pat_scq hps9) htk2],hsq6⟩) (by show (2*r9+1) - (i+1)<(2*r9+1) - i;omega) ((.e rfl rfl (.e rfl (congrArg (Value.int .i64) (by omega)) (.of rfl))):SubM _ _) (ho:=((.c (i:=0) rfl (.e (i:=0) rfl (by simp only [Cr.bx,Cr.by',Cr.pX,Cr.pY,Option.isSome,if_true];congr 1;congr 1;congr 1;omega;congr 1;congr 1;omega) (.of [1,1,1,1,1,1] rfl))):PickO _ _ _)) ((.e (j:=0) rfl (by rw [e8,e9];rfl) (.of [2,3,4,5,6,7] rfl)):SelR _ _ _)
    ·
     refine zB<|zT<|ze<|zc<|r_pv rfl rfl (za rfl)<|r_pv rfl rfl (zx (z:=((-((r9:Nat):Int)+((i:Nat):Int))+1)) rfl rfl (w64 (by omega)))<|r_pv rfl rfl (zd rfl)<|zj ?_
     have htk2:=fun k=>htk (Cr.sgq_sub.2 ((Cr.take_iff hsr).2 k))
     rw [show (ex+(-((r9:Nat):Int)+((i:Nat):Int)))=(ex - ((r9:Nat):Int))+((i:Nat):Int) by omega,show (ey+(-((r9:Nat):Int)+((j:Nat):Int)))=(ey - ((r9:Nat):Int))+((j:Nat):Int) by omega] at hps9 htk2
     refine zha ((i+1),A,ub,vb) (show (i+1)≤(2*r9+1)∧A=(Cr.rowP (Cr.pat (Cr.cutL l1 w1 ey.toNat ex.toNat s9 s9) l2 ((s9:Nat):Int) ((s9:Nat):Int) ((w2:Nat):Int) ((vh2:Nat):Int)) (ex - ((r9:Nat):Int)) ((ey - ((r9:Nat):Int))+((j:Nat):Int)) B (i+1))∧Big.hq (Cr.bq A)≤6 from by exact ⟨by omega,by rw [Cr.rowP,←hA,Cr.stp_old (Cr.pat_scq hps9) htk2],hAq⟩) (by show (2*r9+1) - (i+1)<(2*r9+1) - i;omega) ((.c rfl (.e rfl (congrArg (Value.int .i64) (by omega)) (.of rfl))):SubM _ _) (ho:=((.of [1,1,1,1,1,1,1,1] rfl):PickO _ _ _)) ((.of [1,2,3,4,5,6,7] rfl):SelR _ _ _)
  ·
   refine zja<|zl<|zl<|zu<|zT<|ze<|zc<|r_pv rfl rfl (za rfl)<|r_pv rfl rfl (zx (z:=((-((r9:Nat):Int)+((j:Nat):Int))+1)) rfl rfl (w64 (by omega)))<|r_pv rfl rfl (zd rfl)<|zj<|zha ((j+1),A,ub,vb) (show (j+1)≤(2*r9+1)∧A=(Cr.allP (Cr.pat (Cr.cutL l1 w1 ey.toNat ex.toNat s9 s9) l2 ((s9:Nat):Int) ((s9:Nat):Int) ((w2:Nat):Int) ((vh2:Nat):Int)) (ex - ((r9:Nat):Int)) (ey - ((r9:Nat):Int)) (2*r9+1) (j+1))∧Big.hq (Cr.bq A)≤6 from by exact ⟨by omega,by rw [hA,hB,show i=(2*r9+1) by omega];rfl,hAq⟩) (by show (2*r9+1) - (j+1)<(2*r9+1) - j;omega) ((.c rfl (.e rfl (congrArg (Value.int .i64) (by omega)) (.of rfl))):SubM _ _) (ho:=((.of [0,0,0,0,0,0,0,0] rfl):PickO _ _ _)) ((.of [0,2,3,4,5,6] rfl):SelR _ _ _)
 ·
  refine zja<|zl<|zl<|zu<|ze<|zi ?_
  have hjK:j=(2*r9+1):=by omega
  have hB9:B=(Cr.shA l1 l2 w1 w2 vh2 s9 r9 (ex,ey)):=by rw [hB,hjK];unfold Cr.shA;rfl
  have hqB:=hBq
  refine zGa (X:=Unit) (fun x=>True) (fun x=>[(83,.bool (decide (((!B.isSome)=true)∨(Big.sgq ((Cr.bq B) - le)<0)))),(15,.pointer (some ⟨b9,0,none⟩)),(13,.bool false),(12,.pointer (some ⟨b5,0,none⟩))]) (fun x=>[boxA b12 32 (cw [u0,v0]),boxA b9 68 [.int .i64 (Cr.bx B ex),.int .i64 (Cr.by' B ey)],boxA b8 24 [.int .i64 ((s9:Nat):Int),.int .i64 ((s9:Nat):Int),.int .i64 m1,.slice p36 (s9*s9) c37],boxA b5 68 [.int .i64 0,.int .i64 0],boxA b4 32 (cw [ul,vl]),boxA b3 68 [.int .i64 ex,.int .i64 ey],boxA b2 24 [.int .i64 ((w2:Nat):Int),.int .i64 ((vh2:Nat):Int),.int .i64 m2,.slice p2 n2 c2],boxA b1 24 [.int .i64 ((w1:Nat):Int),.int .i64 ((vh1:Nat):Int),.int .i64 m1,.slice p1 n1 c1]]) (fun x=>[qF true u0 v0 (Cr.bq B),qF true w310 w411 (((-2):Int):Rat),slF (rI .i64) p36 c37 (Cr.cutL l1 w1 ey.toNat ex.toNat s9 s9),slF (rI .i64) p1 c1 l1,slF (rI .i64) p2 c2 l2,qF true ul vl le]) ?_ ?_
  ·
   refine zc<|r_pv rfl rfl (za rfl)<|r_pv rfl rfl (zjb rfl)<|zYd rfl rfl (za rfl) (fun h16=> ?_) (fun h16=> ?_)
   ·
    refine zb rfl rfl<|zb rfl rfl<|zb rfl rfl<|zb rfl rfl<|r_pv rfl rfl (zm rfl rfl)<|zj ?_
    exact zca () (show True from by first|trivial|omega|simp_all) ((.e rfl (congrArg Value.bool (by first|(simp_all;done)|(simp_all;omega)|(simp;omega)|omega)) (.of rfl)):SubM _ _) (ho:=((.of [0,0,0,0,0,0,0,0] rfl):PickO _ _ _)) ((.of [0,1,2,3,4,5] rfl):SelR _ _ _)
   ·
    refine r_u rfl rfl (zf 0 ty32 rfl rfl (.take (.take (.take (.take .nil)))))<|r_u rfl rfl (zf 4 ty32 rfl rfl (.take (.take (.take (.take .nil)))))<|zN rfl rfl (.c rfl (.c rfl .n)) ce14 (zvb (k1:=true) (u1:=u0) (v1:=v0) (q1:=(Cr.bq B)) (k2:=true) (u2:=ul) (v2:=vl) (q2:=le) (hl:=by omega)) (.c (j:=0) rfl (.c (j:=5) rfl .n))<|r_pv rfl rfl (zda rfl rfl)<|r_pv rfl rfl (zm rfl rfl)<|zj ?_
    exact zca () (show True from by first|trivial|omega|simp_all) ((.e rfl (congrArg Value.bool (by first|(simp_all;done)|(simp_all;omega)|(simp;omega)|omega)) (.of rfl)):SubM _ _) (ho:=((.of [0,0,0,0,0,0,0,0] rfl):PickO _ _ _)) ((.of [0,1,2,3,4,5] rfl):SelR _ _ _)
  ·
   rintro ⟨⟩ -
   try dsimp only [cw]
   refine zG rfl (fun hn=> ?_) (fun hn=> ?_)
   ·
    refine zi<|zc<|r_pv rfl rfl (zK zr68 rfl Tryz.underlying68 (.c sz3 (.c sz3 .n)) .n .n)<|zn 3 rfl rfl rfl rfl rfl sz68 rfl (.take (.take .nil)) (.s (.s (.s .z)))<|r_pv rfl rfl (zd rfl)<|zj<|ze<|zI<|zp ?_
    have hsn:¬Cr.shOk le (Cr.shA l1 l2 w1 w2 vh2 s9 r9 (ex,ey)):=fun k=>hn.elim (fun e=>by rw [hB9] at e;rw [k.1] at e;cases e) (fun e=>k.2 (by rw [← Cr.bq_some k.1,←hB9];exact Cr.sub_neg.1 (Big.sgq_lt.1 e)))
    exact zBa Tryz.results31 () trivial (zt 3 ty68 rfl rfl (.take (.take .nil))) (zo rfl) (by rw [Cr.shP,if_neg hsn,Cr.shF,decide_eq_false hsn]) (ho:=(.n:PickO _ _ _)) (.n:SelR _ _ _)
   ·
    refine zB<|ze<|zi<|zc<|r_u rfl rfl (zf 1 ty68 rfl rfl (.take (.take .nil)))<|zn 3 rfl rfl rfl rfl rfl sz68 rfl (.take (.take .nil)) (.s (.s (.s .z)))<|r_pv rfl rfl (zd rfl)<|zj<|ze<|zI ?_
    have hso:(Cr.shA l1 l2 w1 w2 vh2 s9 r9 (ex,ey)).isSome=true:=by rw [← hB9];exact Cr.bnf (Bool.eq_false_iff.2 (fun k=>hn (Or.inl k)))
    have hsn:Cr.shOk le (Cr.shA l1 l2 w1 w2 vh2 s9 r9 (ex,ey)):=⟨hso,fun k=>hn (Or.inr (Big.sgq_lt.2 (Cr.sub_neg.2 (by rw [hB9,Cr.bq_some hso];exact k))))⟩
    exact zBa Tryz.results31 () trivial (zt 3 ty68 rfl rfl (.take (.take .nil))) (zo rfl) (by rw [Cr.shP,if_pos hsn,Cr.shF,decide_eq_true hsn,hB9,Cr.bx,Cr.by',if_pos hso,if_pos hso]) (ho:=(.n:PickO _ _ _)) (.n:SelR _ _ _)
theorem zVd {wi1:Int} {hi1:Int} {m1:Int} {p1:Option Addr} {n1:Nat} {c1:Nat} {pa:Option Addr} {na:Nat} {ca:Nat} {sz:Int} {rc:Int} {wa:Wd} {wb:Wd} {b3:Nat} {b5:Nat} {ex:Int} {ey:Int} (hw9:1≤wi1∧wi1≤64) (hh9:1≤hi1∧hi1≤64) (hs9:1≤sz∧sz≤64) (hex: -9223372036854775808≤ex∧ex≤9223372036854775807) (hey: -9223372036854775808≤ey∧ey≤9223372036854775807):Con Tryz.prog 30 [.agg #[.int .i64 ex,.int .i64 ey],.pointer (some ⟨b3,0,none⟩),.pointer (some ⟨b5,0,none⟩)] [] [atF b3 0 [.int .i64 wi1,.int .i64 hi1,.int .i64 m1,.slice p1 n1 c1],atF b5 0 [.slice pa na ca,.int .i64 sz,.int .i64 rc,wa.b,wa.l,wb.b,wb.l]] (Y:=Unit) (fun y=>True) (fun y=> .bool (decide (Cr.bad wi1 hi1 sz (ex,ey)))) (fun y=>[]) (fun y=>[]):=by
 refine zq Tryz.func30 rfl rfl rfl (fun c=> ?_)
 show RunC _ _ _ _ _ [(0,.agg #[.int .i64 ex,.int .i64 ey]),(1,.pointer (some ⟨b3,0,none⟩)),(2,.pointer (some ⟨b5,0,none⟩))] [] [atF b3 0 [.int .i64 wi1,.int .i64 hi1,.int .i64 m1,.slice p1 n1 c1],atF b5 0 [.slice pa na ca,.int .i64 sz,.int .i64 rc,wa.b,wa.l,wb.b,wb.l]]
 refine zi<|zc<|zJ rfl rfl (zQ rfl rfl) (fun b1=> ?_)
 refine r_pv rfl rfl (zd rfl)<|zj<|ze<|zGa (X:=Unit) (fun x=>True) (fun x=>[(4,.bool (decide ((((ex<0)∨(ey<0))∨((wi1 - sz)<ex))∨((hi1 - sz)<ey))))]) (fun x=>[boxA b1 68 [.int .i64 ex,.int .i64 ey]]) (fun x=>[atF b3 0 [.int .i64 wi1,.int .i64 hi1,.int .i64 m1,.slice p1 n1 c1],atF b5 0 [.slice pa na ca,.int .i64 sz,.int .i64 rc,wa.b,wa.l,wb.b,wb.l]]) ?_ ?_
 ·
  refine zc<|r_pv rfl rfl (zg Tryz.underlying68 rfl sz3 rfl rfl)<|r_u rfl rfl (zh 0 ty3 rfl rfl rfl)<|r_pv rfl rfl (zda rfl rfl)<|zP rfl rfl (za rfl) (fun h2=> ?_) (fun h2=> ?_)
  ·
   refine zb rfl rfl<|zb rfl rfl<|zb rfl rfl<|r_pv rfl rfl (zm rfl rfl)<|r_pv rfl rfl (za rfl)<|zb rfl rfl<|zb rfl rfl<|zb rfl rfl<|zb rfl rfl<|zb rfl rfl<|zb rfl rfl<|zb rfl rfl<|zb rfl rfl<|r_pv rfl rfl (zm rfl rfl)<|r_pv rfl rfl (za rfl)<|zb rfl rfl<|zb rfl rfl<|zb rfl rfl<|zb rfl rfl<|zb rfl rfl<|zb rfl rfl<|zb rfl rfl<|zb rfl rfl<|r_pv rfl rfl (zm rfl rfl)<|r_pv rfl rfl (zd rfl)<|zj ?_
   exact zca () (show True from by first|trivial|omega|simp_all) ((.e rfl (congrArg Value.bool (by first|(simp_all;done)|(simp_all;omega)|(simp;omega)|omega)) .n):SubM _ _) (ho:=((.c (i:=0) rfl .n):PickO _ _ _)) ((.of [0,1] rfl):SelR _ _ _)
  ·
   refine r_pv rfl rfl (zg Tryz.underlying68 rfl sz3 rfl rfl)<|r_u rfl rfl (zh 0 ty3 rfl rfl rfl)<|r_pv rfl rfl (zda rfl rfl)<|r_pv rfl rfl (zm rfl rfl)<|zP rfl rfl (za rfl) (fun h3=> ?_) (fun h3=> ?_)
   ·
    refine zb rfl rfl<|zb rfl rfl<|zb rfl rfl<|zb rfl rfl<|zb rfl rfl<|zb rfl rfl<|zb rfl rfl<|zb rfl rfl<|r_pv rfl rfl (zm rfl rfl)<|r_pv rfl rfl (za rfl)<|zb rfl rfl<|zb rfl rfl<|zb rfl rfl<|zb rfl rfl<|zb rfl rfl<|zb rfl rfl<|zb rfl rfl<|zb rfl rfl<|r_pv rfl rfl (zm rfl rfl)<|r_pv rfl rfl (zd rfl)<|zj ?_
    exact zca () (show True from by first|trivial|omega|simp_all) ((.e rfl (congrArg Value.bool (by first|(simp_all;done)|(simp_all;omega)|(simp;omega)|omega)) .n):SubM _ _) (ho:=((.c (i:=0) rfl .n):PickO _ _ _)) ((.of [0,1] rfl):SelR _ _ _)
   ·
    refine r_pv rfl rfl (zg Tryz.underlying68 rfl sz3 rfl rfl)<|r_u rfl rfl (zh 0 ty3 rfl rfl rfl)<|r_pv rfl rfl (zg Tryz.underlying24 rfl sz3 rfl rfl)<|r_u rfl rfl (zk (j:=0) 0 ty3 rfl rfl rfl rfl)<|r_pv rfl rfl (zg Tryz.underlying61 rfl sz3 rfl rfl)<|r_u rfl rfl (zk (j:=1) 1 ty3 rfl rfl rfl rfl)<|r_pv rfl rfl (zaa (z:=(wi1 - sz)) rfl rfl (w64 (by omega)))<|r_pv rfl rfl (zoa rfl rfl)<|r_pv rfl rfl (zm rfl rfl)<|zP rfl rfl (za rfl) (fun h4=> ?_) (fun h4=> ?_)
    ·
     refine zb rfl rfl<|zb rfl rfl<|zb rfl rfl<|zb rfl rfl<|zb rfl rfl<|zb rfl rfl<|zb rfl rfl<|zb rfl rfl<|r_pv rfl rfl (zm rfl rfl)<|r_pv rfl rfl (zd rfl)<|zj ?_
     exact zca () (show True from by first|trivial|omega|simp_all) ((.e rfl (congrArg Value.bool (by first|(simp_all;done)|(simp_all;omega)|(simp;omega)|omega)) .n):SubM _ _) (ho:=((.c (i:=0) rfl .n):PickO _ _ _)) ((.of [0,1] rfl):SelR _ _ _)
    ·
     refine r_pv rfl rfl (zg Tryz.underlying68 rfl sz3 rfl rfl)<|r_u rfl rfl (zh 0 ty3 rfl rfl rfl)<|r_pv rfl rfl (zg Tryz.underlying24 rfl sz3 rfl rfl)<|r_u rfl rfl (zk (j:=1) 0 ty3 rfl rfl rfl rfl)<|r_pv rfl rfl (zg Tryz.underlying61 rfl sz3 rfl rfl)<|r_u rfl rfl (zk (j:=1) 1 ty3 rfl rfl rfl rfl)<|r_pv rfl rfl (zaa (z:=(hi1 - sz)) rfl rfl (w64 (by omega)))<|r_pv rfl rfl (zoa rfl rfl)<|r_pv rfl rfl (zm rfl rfl)<|r_pv rfl rfl (zd rfl)<|zj ?_
     exact zca () (show True from by first|trivial|omega|simp_all) ((.e rfl (congrArg Value.bool (by first|(simp_all;done)|(simp_all;omega)|(simp;omega)|omega)) .n):SubM _ _) (ho:=((.c (i:=0) rfl .n):PickO _ _ _)) ((.of [0,1] rfl):SelR _ _ _)
 ·
  rintro ⟨⟩ -
  try dsimp only
  refine zI ?_
  exact zE Tryz.results30 () trivial (zo rfl) rfl (ho:=(.n:PickO _ _ _)) (.n:SelR _ _ _)
theorem zAc {wi1:Int} {hi1:Int} {m1:Int} {p1:Option Addr} {n1:Nat} {c1:Nat} {pa:Option Addr} {na:Nat} {ca:Nat} {la:List (Int×Int)} {sz:Int} {rc:Int} {wa:Wd} {wb:Wd} {b3:Nat} {b5:Nat} (hw9:1≤wi1∧wi1≤64) (hh9:1≤hi1∧hi1≤64) (hs9:1≤sz∧sz≤64) (hla:la.length=na):Con Tryz.prog 59 [.slice pa na ca,.func (.func 30) #[] #[.pointer (some ⟨b3,0,none⟩),.pointer (some ⟨b5,0,none⟩)]] [] [atF b3 0 [.int .i64 wi1,.int .i64 hi1,.int .i64 m1,.slice p1 n1 c1],atF b5 0 [.slice pa na ca,.int .i64 sz,.int .i64 rc,wa.b,wa.l,wb.b,wb.l],slF (rI2 .i64) pa ca la] (Y:=Int) (fun y=>(0≤y↔Cr.outp wi1 hi1 sz la)) (fun y=> .int .i64 y) (fun y=>[]) (fun y=>[]):=by
 refine zq Tryz.func59 rfl rfl rfl (fun c=> ?_)
 show RunC _ _ _ _ _ [(0,.slice pa na ca),(1,.func (.func 30) #[] #[.pointer (some ⟨b3,0,none⟩),.pointer (some ⟨b5,0,none⟩)])] [] [atF b3 0 [.int .i64 wi1,.int .i64 hi1,.int .i64 m1,.slice p1 n1 c1],atF b5 0 [.slice pa na ca,.int .i64 sz,.int .i64 rc,wa.b,wa.l,wb.b,wb.l],slF (rI2 .i64) pa ca la]
 refine zY 2 rfl (fun hL2=> ?_)
 refine zi<|zc<|r_pv rfl rfl (zd rfl)<|zj<|ze<|zi<|zi<|zc<|r_pv rfl rfl (za rfl)<|r_pv rfl rfl (zM Tryz.underlying59 rfl)<|r_pv rfl rfl (za rfl)<|zj<|ze<|zA<|zka (X:=Nat) (fun x:Nat=>x≤na∧∀j,j<x→¬Cr.bad wi1 hi1 sz (la.getD j (0,0))) (fun x=>[(8,.int .i64 ((x:Nat):Int)),(7,.int .i64 ((na:Nat):Int)),(0,.slice pa na ca),(1,.func (.func 30) #[] #[.pointer (some ⟨b3,0,none⟩),.pointer (some ⟨b5,0,none⟩)])]) (fun x=>[]) (fun x=>[atF b3 0 [.int .i64 wi1,.int .i64 hi1,.int .i64 m1,.slice p1 n1 c1],atF b5 0 [.slice pa na ca,.int .i64 sz,.int .i64 rc,wa.b,wa.l,wb.b,wb.l],slF (rI2 .i64) pa ca la]) (fun x:Nat=>na - x) 0 (show 0≤na∧∀j,j<0→¬Cr.bad wi1 hi1 sz (la.getD j (0,0)) from by exact ⟨by omega,fun j h=>by omega⟩) ((.e rfl (by first|rfl|(congr 1;omega)|simp_all) (.of rfl)):SubM _ _) (ho:=(.n:PickO _ _ _)) ((.of [0,1,2] rfl):SelR _ _ _) ?_
 rintro i hI
 replace hI:i≤na∧∀j,j<i→¬Cr.bad wi1 hi1 sz (la.getD j (0,0)):=hI
 try dsimp only
 obtain ⟨hi,hall⟩:=hI
 refine zi<|zc<|r_pv rfl rfl (zda rfl rfl)<|zj<|ze<|zi<|zG rfl (fun h1=> ?_) (fun h1=> ?_)
 ·
  refine zB<|ze<|zi<|zA<|zi<|zc<|r_pv rfl rfl (za rfl)<|r_pv rfl rfl (zd rfl)<|zj<|ze<|zi<|zc<|r_pv rfl rfl (za rfl)<|r_pv rfl rfl (za rfl)<|r_pv rfl rfl (za rfl)<|zU (x0:=(la.getD i (0,0))) 2 i rfl Tryz.underlying59 sz68 rfl rfl rfl (by first|rfl|assumption|(simp_all;done)|omega) rfl rfl (gD (d:=(0,0)) (by omega)) (fun b2 o3 hok4=> ?_)
  obtain ⟨hok4x,hok4y⟩:=hok4
  replace hok4x:=zR.1 hok4x
  replace hok4y:=zR.1 hok4y
  refine r_u rfl rfl (zra (j:=0) 0 ty68 rfl rfl rfl (.take (.take .nil)))<|zZc (first:=[]) (cap:=[.pointer (some ⟨b3,0,none⟩),.pointer (some ⟨b5,0,none⟩)]) rfl rfl rfl (.c rfl .n) ce30 (zVd (wi1:=wi1) (hi1:=hi1) (m1:=m1) (p1:=p1) (n1:=n1) (c1:=c1) (pa:=pa) (na:=na) (ca:=ca) (sz:=sz) (rc:=rc) (wa:=wa) (wb:=wb) (b3:=b3) (b5:=b5) (ex:=(la.getD i (0,0)).1) (ey:=(la.getD i (0,0)).2) (hw9:=by assumption) (hh9:=by assumption) (hs9:=by assumption) (hex:=by first|rfl|assumption|omega) (hey:=by first|rfl|assumption|omega)) (.c (j:=1) rfl (.c (j:=2) rfl .n)) ?_
  rintro ⟨⟩ -
  dsimp only [List.append_eq,List.nil_append,List.cons_append]
  refine zj<|ze<|zG rfl (fun hb=> ?_) (fun hb=> ?_)
  ·
   refine zi<|zc<|r_pv rfl rfl (za rfl)<|r_pv rfl rfl (zd rfl)<|zj<|ze<|zI<|zZ<|zp<|zp<|zZ<|zp ?_
   exact zE Tryz.results59 ((i:Nat):Int) (⟨fun _=>Cr.outp_yes (i:=i) (by omega) hb,fun _=>by omega⟩) (zo rfl) rfl (ho:=(.n:PickO _ _ _)) (.n:SelR _ _ _)
  ·
   refine zB<|zT<|ze<|zc<|r_pv rfl rfl (zx (z:=(((i+1):Nat):Int)) rfl rfl (w64 (by omega)))<|r_pv rfl rfl (za rfl)<|zj<|zha (i+1) (show (i+1)≤na∧∀j,j<(i+1)→¬Cr.bad wi1 hi1 sz (la.getD j (0,0)) from by refine ⟨by omega,fun j hj=> ?_⟩;by_cases e:j=i;subst e;exact hb;exact hall j (by omega)) (by show na - (i+1)<na - i;omega) ((.of rfl):SubM _ _) (ho:=(.n:PickO _ _ _)) ((.of [1,2,3] rfl):SelR _ _ _)
 ·
  refine zja<|zl<|zl<|zu<|ze<|zi<|zc<|r_pv rfl rfl (zd rfl)<|zj<|ze<|zI ?_
  exact zE Tryz.results59 (-1) (⟨fun h=>by omega,fun h=>absurd h (Cr.outp_no (n:=na) hla (fun j hj=>hall j (by omega)))⟩) (zo rfl) rfl (ho:=(.n:PickO _ _ _)) (.n:SelR _ _ _)
theorem zac {wi1:Int} {hi1:Int} {m1:Int} {p1:Option Addr} {n1:Nat} {c1:Nat} {pa:Option Addr} {na:Nat} {ca:Nat} {la:List (Int×Int)} {sz:Int} {rc:Int} {wa:Wd} {wb:Wd} {b3:Nat} {b5:Nat} (hw9:1≤wi1∧wi1≤64) (hh9:1≤hi1∧hi1≤64) (hs9:1≤sz∧sz≤64) (hla:la.length=na):Con Tryz.prog 29 [.slice pa na ca,.func (.func 30) #[] #[.pointer (some ⟨b3,0,none⟩),.pointer (some ⟨b5,0,none⟩)]] [] [atF b3 0 [.int .i64 wi1,.int .i64 hi1,.int .i64 m1,.slice p1 n1 c1],atF b5 0 [.slice pa na ca,.int .i64 sz,.int .i64 rc,wa.b,wa.l,wb.b,wb.l],slF (rI2 .i64) pa ca la] (Y:=Unit) (fun y=>True) (fun y=> .bool (decide (Cr.outp wi1 hi1 sz la))) (fun y=>[]) (fun y=>[]):=by
 refine zq Tryz.func29 rfl rfl rfl (fun c=> ?_)
 show RunC _ _ _ _ _ [(0,.slice pa na ca),(1,.func (.func 30) #[] #[.pointer (some ⟨b3,0,none⟩),.pointer (some ⟨b5,0,none⟩)])] [] [atF b3 0 [.int .i64 wi1,.int .i64 hi1,.int .i64 m1,.slice p1 n1 c1],atF b5 0 [.slice pa na ca,.int .i64 sz,.int .i64 rc,wa.b,wa.l,wb.b,wb.l],slF (rI2 .i64) pa ca la]
 refine zY 2 rfl (fun hL2=> ?_)
 refine zi<|zc<|r_pv rfl rfl (zd rfl)<|zj<|ze<|zi<|zc<|r_pv rfl rfl (za rfl)<|r_pv rfl rfl (za rfl)<|zy rfl rfl (.c rfl (.c rfl .n)) ce59 (zAc (wi1:=wi1) (hi1:=hi1) (m1:=m1) (p1:=p1) (n1:=n1) (c1:=c1) (pa:=pa) (na:=na) (ca:=ca) (la:=la) (sz:=sz) (rc:=rc) (wa:=wa) (wb:=wb) (b3:=b3) (b5:=b5) (hw9:=by assumption) (hh9:=by assumption) (hs9:=by assumption) (hla:=by assumption)) (.c (j:=0) rfl (.c (j:=1) rfl (.c (j:=2) rfl .n))) ?_
 rintro r1 hr
 dsimp only [List.append_eq,List.nil_append,List.cons_append]
 replace hr:(0≤r1↔Cr.outp wi1 hi1 sz la):=hr
 refine r_pv rfl rfl (zMa rfl rfl)<|r_pv rfl rfl (zd rfl)<|zj<|ze<|zI ?_
 exact zE Tryz.results29 () trivial (zo rfl) (congrArg Value.bool (decide_eq_decide.2 hr.symm)) (ho:=(.n:PickO _ _ _)) (.n:SelR _ _ _)
end Go.Proofs.YtkamccndgblheaaGreat.Sp
namespace Go.Proofs.YtkamccndgblheaaGreat.Sp
open Go
set_option linter.unusedVariables false
set_option maxRecDepth 100000
set_option maxHeartbeats 1000000
theorem zMb {wi1:Int} {hi1:Int} {m1:Int} {p1:Option Addr} {n1:Nat} {c1:Nat} {l1:List Int} {wi2:Int} {hi2:Int} {m2:Int} {p2:Option Addr} {n2:Nat} {c2:Nat} {l2:List Int} {pa:Option Addr} {na:Nat} {ca:Nat} {la:List (Int×Int)} {sz:Int} {rc:Int} {wa:Wd} {wb:Wd} {xl:List Int} {yl:List Int} (hn1:l1.length=n1) (hn2:l2.length=n2) (hbw1: -9223372036854775808≤wi1∧wi1≤9223372036854775807) (hbh1: -9223372036854775808≤hi1∧hi1≤9223372036854775807) (hbm1: -9223372036854775808≤m1∧m1≤9223372036854775807) (hbw2: -9223372036854775808≤wi2∧wi2≤9223372036854775807) (hbh2: -9223372036854775808≤hi2∧hi2≤9223372036854775807) (hbm2: -9223372036854775808≤m2∧m2≤9223372036854775807) (hla:la.length=na) (hsz: -9223372036854775808≤sz∧sz≤9223372036854775807) (hrc: -9223372036854775808≤rc∧rc≤9223372036854775807) (hxa:xl.length=wa.n) (hxb:yl.length=wb.n) (hwa:wa.n≤1048576) (hwb:wb.n≤1048576):Con Tryz.prog 6 [.agg #[.int .i64 wi1,.int .i64 hi1,.int .i64 m1,.slice p1 n1 c1],.agg #[.int .i64 wi2,.int .i64 hi2,.int .i64 m2,.slice p2 n2 c2],.agg #[.slice pa na ca,.int .i64 sz,.int .i64 rc,wa.b,wa.l,wb.b,wb.l]] [] [slF (rI .i64) p1 c1 l1,slF (rI .i64) p2 c2 l2,slF (rI2 .i64) pa ca la,slF (rI .u32) (wa.p) (wa.c) xl,slF (rI .u32) (wb.p) (wb.c) yl] (Y:=Unit) (fun y=>True) (fun y=> .bool true) (fun y=>[]) (fun y=>[]):=by
 refine zq Tryz.func6 rfl rfl rfl (fun c=> ?_)
 show RunC _ _ _ _ _ [(0,.agg #[.int .i64 wi1,.int .i64 hi1,.int .i64 m1,.slice p1 n1 c1]),(1,.agg #[.int .i64 wi2,.int .i64 hi2,.int .i64 m2,.slice p2 n2 c2]),(2,.agg #[.slice pa na ca,.int .i64 sz,.int .i64 rc,wa.b,wa.l,wb.b,wb.l])] [] [slF (rI .i64) p1 c1 l1,slF (rI .i64) p2 c2 l2,slF (rI2 .i64) pa ca la,slF (rI .u32) (wa.p) (wa.c) xl,slF (rI .u32) (wb.p) (wb.c) yl]
 refine zY 0 rfl (fun hL0=> ?_)
 refine zY 1 rfl (fun hL1=> ?_)
 refine zY 2 rfl (fun hL2=> ?_)
 refine zY 3 rfl (fun hL3=> ?_)
 refine zNa 3 rfl (fun hE3=> ?_)
 refine zY 4 rfl (fun hL4=> ?_)
 refine zNa 4 rfl (fun hE4=> ?_)
 have hnnx:Big.nn xl:=fun d hd=>(zv.1 (hE3 d hd)).1
 have hnny:Big.nn yl:=fun d hd=>(zv.1 (hE4 d hd)).1
 refine zi<|zc<|zJ rfl rfl (zQ rfl rfl) (fun b1=> ?_)
 refine zJ rfl rfl (zQ rfl rfl) (fun b2=> ?_)
 refine zJ rfl rfl (zQ rfl rfl) (fun b3=> ?_)
 refine r_pv rfl rfl (zd rfl)<|zj<|ze<|zi<|zi<|zc<|zN rfl rfl (.n) ce7 (zef) (.n)<|r_pv rfl rfl (zjb rfl)<|zj<|ze<|zZa rfl rfl<|zB<|ze<|zi<|zGa (X:=Unit) (fun x=>True) (fun x=>[(53,.bool (decide (((((¬(∀g∈([(⟨wi1,hi1,m1,p1,n1,c1⟩:Gr),(⟨wi2,hi2,m2,p2,n2,c2⟩:Gr)]),g.n≤150))∨(5<((na:Nat):Int)))∨(16<(((wa.n+wb.n):Nat):Int)))∨((5<sz)∧(sz≤64)))∨((3<rc)∧(rc≤64))))),(6,.bool false),(5,.pointer (some ⟨b3,0,none⟩)),(4,.pointer (some ⟨b2,0,none⟩)),(3,.pointer (some ⟨b1,0,none⟩))]) (fun x=>[boxA b3 61 [.slice pa na ca,.int .i64 sz,.int .i64 rc,wa.b,wa.l,wb.b,wb.l],boxA b2 24 [.int .i64 wi2,.int .i64 hi2,.int .i64 m2,.slice p2 n2 c2],boxA b1 24 [.int .i64 wi1,.int .i64 hi1,.int .i64 m1,.slice p1 n1 c1]]) (fun x=>[slF (rI .i64) p1 c1 l1,slF (rI .i64) p2 c2 l2,slF (rI2 .i64) pa ca la,slF (rI .u32) (wa.p) (wa.c) xl,slF (rI .u32) (wb.p) (wb.c) yl]) ?_ ?_
 ·
  refine zc<|r_u rfl rfl (zf 2 ty24 rfl rfl (.take (.take (.take (.take .nil)))))<|r_u rfl rfl (zf 1 ty24 rfl rfl (.take (.take (.take (.take .nil)))))<|zza rfl rfl (zV (enc:=fun z:Gr=>[.int .i64 z.w,.int .i64 z.h,.int .i64 z.m,.slice z.p z.n z.c]) (ok:=okG) (h1:=fun _=>rfl) (h2:=fun _=>rfl) (k:=2) Tryz.underlying77 inf24 rfl (by decide) (by decide) (by decide) (.c (x:=(⟨wi1,hi1,m1,p1,n1,c1⟩:Gr)) rfl rfl (fun _ _=>by exact ⟨zR.2 (by first|omega|decide|(dsimp only;omega)),zR.2 (by first|omega|decide|(dsimp only;omega)),zR.2 (by first|omega|decide|(dsimp only;omega))⟩) (.c (x:=(⟨wi2,hi2,m2,p2,n2,c2⟩:Gr)) rfl rfl (fun _ _=>by exact ⟨zR.2 (by first|omega|decide|(dsimp only;omega)),zR.2 (by first|omega|decide|(dsimp only;omega)),zR.2 (by first|omega|decide|(dsimp only;omega))⟩) .n))) (fun b4 _=> ?_)
  refine zna 0 rfl .z<|zN rfl rfl (.c rfl .n) ce8 (zRf (p:=some ⟨b4,0,none⟩) (n:=2) (cap:=2) (l:=[(⟨wi1,hi1,m1,p1,n1,c1⟩:Gr),(⟨wi2,hi2,m2,p2,n2,c2⟩:Gr)]) (hn:=by first|rfl|assumption|omega)) (.c (j:=0) rfl .n)<|r_pv rfl rfl (zXa rfl)<|zP rfl rfl (za rfl) (fun h5=> ?_) (fun h5=> ?_)
  ·
   refine zb rfl rfl<|zb rfl rfl<|zb rfl rfl<|zb rfl rfl<|r_pv rfl rfl (zm rfl rfl)<|r_pv rfl rfl (za rfl)<|zb rfl rfl<|zb rfl rfl<|zb rfl rfl<|zb rfl rfl<|r_pv rfl rfl (zm rfl rfl)<|r_pv rfl rfl (za rfl)<|zb rfl rfl<|zb rfl rfl<|zb rfl rfl<|zb rfl rfl<|zb rfl rfl<|zb rfl rfl<|zb rfl rfl<|zb rfl rfl<|r_pv rfl rfl (zm rfl rfl)<|r_pv rfl rfl (za rfl)<|zb rfl rfl<|zb rfl rfl<|zb rfl rfl<|zb rfl rfl<|zb rfl rfl<|zb rfl rfl<|zb rfl rfl<|zb rfl rfl<|r_pv rfl rfl (zm rfl rfl)<|zj ?_
   exact zca () (show True from by first|trivial|omega|simp_all) ((.e rfl (congrArg Value.bool (by first|(simp_all;done)|(simp_all;omega)|(simp;omega)|omega)) (.of rfl)):SubM _ _) (ho:=((.of [1,1,1] rfl):PickO _ _ _)) ((.of [1,2,3,4,5] rfl):SelR _ _ _)
  ·
   refine r_pv rfl rfl (zg Tryz.underlying61 rfl sz59 rfl rfl)<|r_u rfl rfl (zh 1 ty59 rfl rfl rfl)<|r_pv rfl rfl (zM Tryz.underlying59 rfl)<|r_pv rfl rfl (zoa rfl rfl)<|r_pv rfl rfl (zm rfl rfl)<|zP rfl rfl (za rfl) (fun h6=> ?_) (fun h6=> ?_)
   ·
    refine zb rfl rfl<|zb rfl rfl<|zb rfl rfl<|zb rfl rfl<|r_pv rfl rfl (zm rfl rfl)<|r_pv rfl rfl (za rfl)<|zb rfl rfl<|zb rfl rfl<|zb rfl rfl<|zb rfl rfl<|zb rfl rfl<|zb rfl rfl<|zb rfl rfl<|zb rfl rfl<|r_pv rfl rfl (zm rfl rfl)<|r_pv rfl rfl (za rfl)<|zb rfl rfl<|zb rfl rfl<|zb rfl rfl<|zb rfl rfl<|zb rfl rfl<|zb rfl rfl<|zb rfl rfl<|zb rfl rfl<|r_pv rfl rfl (zm rfl rfl)<|zj ?_
    exact zca () (show True from by first|trivial|omega|simp_all) ((.e rfl (congrArg Value.bool (by first|(simp_all;done)|(simp_all;omega)|(simp;omega)|omega)) (.of rfl)):SubM _ _) (ho:=((.of [1,1,1] rfl):PickO _ _ _)) ((.of [1,2,3,4,5] rfl):SelR _ _ _)
   ·
    refine r_pv rfl rfl (zg Tryz.underlying61 rfl sz32 rfl rfl)<|r_u rfl rfl (zf 1 ty32 rfl rfl (.skip (.skip (.skip (.take (.take (.take (.take .nil))))))))<|zN rfl rfl (.c rfl .n) ce26 (zTd (u1:=wa) (v1:=wb) (h1:=by assumption) (h2:=by assumption)) (.n)<|r_pv rfl rfl (zoa rfl rfl)<|r_pv rfl rfl (zm rfl rfl)<|zP rfl rfl (za rfl) (fun h7=> ?_) (fun h7=> ?_)
    ·
     refine zb rfl rfl<|zb rfl rfl<|zb rfl rfl<|zb rfl rfl<|zb rfl rfl<|zb rfl rfl<|zb rfl rfl<|zb rfl rfl<|r_pv rfl rfl (zm rfl rfl)<|r_pv rfl rfl (za rfl)<|zb rfl rfl<|zb rfl rfl<|zb rfl rfl<|zb rfl rfl<|zb rfl rfl<|zb rfl rfl<|zb rfl rfl<|zb rfl rfl<|r_pv rfl rfl (zm rfl rfl)<|zj ?_
     exact zca () (show True from by first|trivial|omega|simp_all) ((.e rfl (congrArg Value.bool (by first|(simp_all;done)|(simp_all;omega)|(simp;omega)|omega)) (.of rfl)):SubM _ _) (ho:=((.of [1,1,1] rfl):PickO _ _ _)) ((.of [1,2,3,4,5] rfl):SelR _ _ _)
    ·
     refine r_pv rfl rfl (zg Tryz.underlying61 rfl sz3 rfl rfl)<|r_u rfl rfl (zh 1 ty3 rfl rfl rfl)<|r_pv rfl rfl (zoa rfl rfl)<|zP rfl rfl (za rfl) (fun h8=> ?_) (fun h8=> ?_)
     ·
      refine r_pv rfl rfl (zg Tryz.underlying61 rfl sz3 rfl rfl)<|r_u rfl rfl (zh 1 ty3 rfl rfl rfl)<|r_pv rfl rfl (zdb rfl rfl)<|r_pv rfl rfl (zm rfl rfl)<|r_pv rfl rfl (zm rfl rfl)<|zP rfl rfl (za rfl) (fun h9=> ?_) (fun h9=> ?_)
      ·
       refine zb rfl rfl<|zb rfl rfl<|zb rfl rfl<|zb rfl rfl<|zb rfl rfl<|zb rfl rfl<|zb rfl rfl<|zb rfl rfl<|r_pv rfl rfl (zm rfl rfl)<|zj ?_
       exact zca () (show True from by first|trivial|omega|simp_all) ((.e rfl (congrArg Value.bool (by first|(simp_all;done)|(simp_all;omega)|(simp;omega)|omega)) (.of rfl)):SubM _ _) (ho:=((.of [1,1,1] rfl):PickO _ _ _)) ((.of [1,2,3,4,5] rfl):SelR _ _ _)
      ·
       refine r_pv rfl rfl (zg Tryz.underlying61 rfl sz3 rfl rfl)<|r_u rfl rfl (zh 1 ty3 rfl rfl rfl)<|r_pv rfl rfl (zoa rfl rfl)<|zP rfl rfl (za rfl) (fun h10=> ?_) (fun h10=> ?_)
       ·
        refine r_pv rfl rfl (zg Tryz.underlying61 rfl sz3 rfl rfl)<|r_u rfl rfl (zh 1 ty3 rfl rfl rfl)<|r_pv rfl rfl (zdb rfl rfl)<|r_pv rfl rfl (zm rfl rfl)<|r_pv rfl rfl (zm rfl rfl)<|zj ?_
        exact zca () (show True from by first|trivial|omega|simp_all) ((.e rfl (congrArg Value.bool (by first|(simp_all;done)|(simp_all;omega)|(simp;omega)|omega)) (.of rfl)):SubM _ _) (ho:=((.of [1,1,1] rfl):PickO _ _ _)) ((.of [1,2,3,4,5] rfl):SelR _ _ _)
       ·
        refine zb rfl rfl<|zb rfl rfl<|zb rfl rfl<|r_pv rfl rfl (zm rfl rfl)<|r_pv rfl rfl (zm rfl rfl)<|zj ?_
        exact zca () (show True from by first|trivial|omega|simp_all) ((.e rfl (congrArg Value.bool (by first|(simp_all;done)|(simp_all;omega)|(simp;omega)|omega)) (.of rfl)):SubM _ _) (ho:=((.of [1,1,1] rfl):PickO _ _ _)) ((.of [1,2,3,4,5] rfl):SelR _ _ _)
     ·
      refine zb rfl rfl<|zb rfl rfl<|zb rfl rfl<|r_pv rfl rfl (zm rfl rfl)<|r_pv rfl rfl (zm rfl rfl)<|r_pv rfl rfl (za rfl)<|r_pv rfl rfl (zg Tryz.underlying61 rfl sz3 rfl rfl)<|r_u rfl rfl (zh 1 ty3 rfl rfl rfl)<|r_pv rfl rfl (zoa rfl rfl)<|zP rfl rfl (za rfl) (fun h11=> ?_) (fun h11=> ?_)
      ·
       refine r_pv rfl rfl (zg Tryz.underlying61 rfl sz3 rfl rfl)<|r_u rfl rfl (zh 1 ty3 rfl rfl rfl)<|r_pv rfl rfl (zdb rfl rfl)<|r_pv rfl rfl (zm rfl rfl)<|r_pv rfl rfl (zm rfl rfl)<|zj ?_
       exact zca () (show True from by first|trivial|omega|simp_all) ((.e rfl (congrArg Value.bool (by first|(simp_all;done)|(simp_all;omega)|(simp;omega)|omega)) (.of rfl)):SubM _ _) (ho:=((.of [1,1,1] rfl):PickO _ _ _)) ((.of [1,2,3,4,5] rfl):SelR _ _ _)
      ·
       refine zb rfl rfl<|zb rfl rfl<|zb rfl rfl<|r_pv rfl rfl (zm rfl rfl)<|r_pv rfl rfl (zm rfl rfl)<|zj ?_
       exact zca () (show True from by first|trivial|omega|simp_all) ((.e rfl (congrArg Value.bool (by first|(simp_all;done)|(simp_all;omega)|(simp;omega)|omega)) (.of rfl)):SubM _ _) (ho:=((.of [1,1,1] rfl):PickO _ _ _)) ((.of [1,2,3,4,5] rfl):SelR _ _ _)
 ·
  rintro ⟨⟩ -
  try dsimp only
  refine zG rfl (fun hg=> ?_) (fun hg=> ?_)
  ·
   refine zi<|zc<|r_pv rfl rfl (zd rfl)<|zj<|ze<|zI<|zp ?_
   exact zE Tryz.results6 () trivial (zo rfl) rfl (ho:=(.n:PickO _ _ _)) (.n:SelR _ _ _)
  ·
   obtain ⟨⟨⟨⟨hg1,hg2⟩,hg3⟩,hg4x⟩,hg5⟩:=Cr.nor5 hg
   refine zB<|ze<|zi ?_
   obtain ⟨lx,hlx⟩:∃z,z=qo ((wa.s,xl),(wb.s,yl)):=⟨_,rfl⟩
   refine zCb (eF wa wb lx) (fun g r=>by rw [hlx];exact eF_raw 3 4 rfl rfl hxa hxb hwa hwb g r) ?_
   have hlq:Big.hq (lx.getD 0)≤16:=by rw [hlx];exact qo_hq _ hnnx hnny (k:=16) (by show xl.length≤16;omega) (by show yl.length≤16;omega) (by decide)
   refine zc<|r_u rfl rfl (zf 2 ty24 rfl rfl (.take (.take (.take (.take .nil)))))<|r_u rfl rfl (zf 1 ty24 rfl rfl (.take (.take (.take (.take .nil)))))<|r_pv rfl rfl (zg Tryz.underlying61 rfl sz59 rfl rfl)<|r_u rfl rfl (zh 0 ty59 rfl rfl rfl)<|r_pv rfl rfl (zg Tryz.underlying61 rfl sz3 rfl rfl)<|r_u rfl rfl (zh 0 ty3 rfl rfl rfl)<|r_pv rfl rfl (zg Tryz.underlying61 rfl sz3 rfl rfl)<|r_u rfl rfl (zh 0 ty3 rfl rfl rfl)<|r_pv rfl rfl (zg Tryz.underlying61 rfl sz32 rfl rfl)<|r_u rfl rfl (zf 0 ty32 rfl rfl (.skip (.skip (.skip (.take (.take (.take (.take .nil))))))))<|zy rfl rfl (.c rfl (.c rfl (.c rfl (.c rfl (.c rfl (.c rfl .n)))))) ce27 (zif (wi1:=wi1) (hi1:=hi1) (m1:=m1) (p1:=p1) (n1:=n1) (c1:=c1) (l1:=l1) (wi2:=wi2) (hi2:=hi2) (m2:=m2) (p2:=p2) (n2:=n2) (c2:=c2) (l2:=l2) (pa:=pa) (na:=na) (ca:=ca) (la:=la) (sz:=sz) (rc:=rc) (ul:=wa) (vl:=wb) (lx:=lx) (hn1:=by assumption) (hn2:=by assumption) (hla:=by assumption) (hna:=by first|rfl|assumption|omega) (hlq:=by first|rfl|assumption|omega) (hsz:=by assumption) (hrc:=by assumption)) (.c (j:=1) rfl (.c (j:=2) rfl (.c (j:=3) rfl (.c (j:=0) rfl .n)))) ?_
   rintro ⟨po12,ko,co13,lo,pf14,kf,cf15,lf⟩ hsh
   dsimp only [List.append_eq,List.nil_append,List.cons_append]
   replace hsh:lo.length=ko∧lf.length=kf∧lo=(if ((Cr.rk2 wi1 hi1 m1 l1 wi2 hi2 m2 l2)∧(Cr.srk sz rc)∧lx.isSome=true∧¬(Cr.outp wi1 hi1 sz la)) then (Cr.fil (fun p=>Cr.shP (lx.getD 0) p (Cr.shA l1 l2 wi1.toNat wi2.toNat hi2.toNat sz.toNat rc.toNat p)) (0,0) (0,0) la na) else [])∧lf=(if ((Cr.rk2 wi1 hi1 m1 l1 wi2 hi2 m2 l2)∧(Cr.srk sz rc)∧lx.isSome=true∧¬(Cr.outp wi1 hi1 sz la)) then (Cr.fil (fun p=>Cr.shF (lx.getD 0) (Cr.shA l1 l2 wi1.toNat wi2.toNat hi2.toNat sz.toNat rc.toNat p)) false (0,0) la na) else []):=hsh
   refine r_pv rfl rfl (za rfl)<|r_pv rfl rfl (zr rfl rfl)<|r_pv rfl rfl (zr rfl rfl)<|r_pv rfl rfl (zr rfl rfl)<|r_pv rfl rfl (zd rfl)<|r_pv rfl rfl (zd rfl)<|r_pv rfl rfl (zd rfl)<|zj<|ze<|zi<|zCb (gsF [(⟨wi1,hi1,m1,p1,n1,c1⟩:Gr),(⟨wi2,hi2,m2,p2,n2,c2⟩:Gr)] [l1,l2]) (gsF_2 3 4 rfl rfl)<|zc<|r_u rfl rfl (zf 2 ty24 rfl rfl (.take (.take (.take (.take .nil)))))<|r_u rfl rfl (zf 1 ty24 rfl rfl (.take (.take (.take (.take .nil)))))<|zza rfl rfl (zV (enc:=fun z:Gr=>[.int .i64 z.w,.int .i64 z.h,.int .i64 z.m,.slice z.p z.n z.c]) (ok:=okG) (h1:=fun _=>rfl) (h2:=fun _=>rfl) (k:=2) Tryz.underlying77 inf24 rfl (by decide) (by decide) (by decide) (.c (x:=(⟨wi1,hi1,m1,p1,n1,c1⟩:Gr)) rfl rfl (fun _ _=>by exact ⟨zR.2 (by first|omega|decide|(dsimp only;omega)),zR.2 (by first|omega|decide|(dsimp only;omega)),zR.2 (by first|omega|decide|(dsimp only;omega))⟩) (.c (x:=(⟨wi2,hi2,m2,p2,n2,c2⟩:Gr)) rfl rfl (fun _ _=>by exact ⟨zR.2 (by first|omega|decide|(dsimp only;omega)),zR.2 (by first|omega|decide|(dsimp only;omega)),zR.2 (by first|omega|decide|(dsimp only;omega))⟩) .n))) (fun b16 _=> ?_)
   refine zna 0 rfl .z<|zN rfl rfl (.c rfl .n) ce10 (zyd (p:=some ⟨b16,0,none⟩) (n:=2) (cap:=2) (l:=[(⟨wi1,hi1,m1,p1,n1,c1⟩:Gr),(⟨wi2,hi2,m2,p2,n2,c2⟩:Gr)]) (ls:=[l1,l2]) (hn:=by first|rfl|assumption|omega) (hls:=by intro i hi;rcases (show i=0∨i=1 by omega) with rfl|rfl;exact hn1;exact hn2)) (.c (j:=0) rfl (.c (j:=1) rfl .n)) ?_
   have e17:((if (Cr.allok ([(⟨wi1,hi1,m1,p1,n1,c1⟩:Gr),(⟨wi2,hi2,m2,p2,n2,c2⟩:Gr)]) ([l1,l2]) 2) then 0 else 1):Int)=(if (Cr.rk2 wi1 hi1 m1 l1 wi2 hi2 m2 l2) then 0 else 1):=by exact Cr.chk2
   rw [e17]
   refine r_pv rfl rfl (zd rfl)<|zj<|ze<|zGa (X:=Unit) (fun x=>True) (fun x=>[(10,.int .i64 (Cr.cd1 (Cr.rk2 wi1 hi1 m1 l1 wi2 hi2 m2 l2) (Cr.srk sz rc))),(9,.int .i64 (Cr.cd3 (Cr.rk2 wi1 hi1 m1 l1 wi2 hi2 m2 l2) (Cr.srk sz rc) lx.isSome (Cr.outp wi1 hi1 sz la))),(8,.slice pf14 kf cf15),(7,.slice po12 ko co13),(6,.bool false),(5,.pointer (some ⟨b3,0,none⟩)),(4,.pointer (some ⟨b2,0,none⟩)),(3,.pointer (some ⟨b1,0,none⟩))]) (fun x=>[boxA b3 61 [.slice pa na ca,.int .i64 sz,.int .i64 rc,wa.b,wa.l,wb.b,wb.l],boxA b2 24 [.int .i64 wi2,.int .i64 hi2,.int .i64 m2,.slice p2 n2 c2],boxA b1 24 [.int .i64 wi1,.int .i64 hi1,.int .i64 m1,.slice p1 n1 c1]]) (fun x=>[slF rG (some ⟨b16,0,none⟩) 2 ([(⟨wi1,hi1,m1,p1,n1,c1⟩:Gr),(⟨wi2,hi2,m2,p2,n2,c2⟩:Gr)]),gsF [(⟨wi1,hi1,m1,p1,n1,c1⟩:Gr),(⟨wi2,hi2,m2,p2,n2,c2⟩:Gr)] [l1,l2],slF (rI2 .i64) po12 co13 lo,slF rB pf14 cf15 lf,eF wa wb lx,slF (rI .i64) p1 c1 l1,slF (rI .i64) p2 c2 l2,slF (rI2 .i64) pa ca la,slF (rI .u32) (wa.p) (wa.c) xl,slF (rI .u32) (wb.p) (wb.c) yl]) ?_ ?_
   ·
    refine zGa (X:=Unit) (fun x=>True) (fun x=>[(94,.bool (decide ((((if (Cr.rk2 wi1 hi1 m1 l1 wi2 hi2 m2 l2) then 0 else 1):Int)=0)∧((((sz<1)∨(64<sz))∨(rc<0))∨(64<rc))))),(10,.int .i64 (if (Cr.rk2 wi1 hi1 m1 l1 wi2 hi2 m2 l2) then 0 else 1)),(9,.int .i64 (Cr.cd3 (Cr.rk2 wi1 hi1 m1 l1 wi2 hi2 m2 l2) (Cr.srk sz rc) lx.isSome (Cr.outp wi1 hi1 sz la))),(8,.slice pf14 kf cf15),(7,.slice po12 ko co13),(6,.bool false),(5,.pointer (some ⟨b3,0,none⟩)),(4,.pointer (some ⟨b2,0,none⟩)),(3,.pointer (some ⟨b1,0,none⟩))]) (fun x=>[boxA b3 61 [.slice pa na ca,.int .i64 sz,.int .i64 rc,wa.b,wa.l,wb.b,wb.l],boxA b2 24 [.int .i64 wi2,.int .i64 hi2,.int .i64 m2,.slice p2 n2 c2],boxA b1 24 [.int .i64 wi1,.int .i64 hi1,.int .i64 m1,.slice p1 n1 c1]]) (fun x=>[slF rG (some ⟨b16,0,none⟩) 2 ([(⟨wi1,hi1,m1,p1,n1,c1⟩:Gr),(⟨wi2,hi2,m2,p2,n2,c2⟩:Gr)]),gsF [(⟨wi1,hi1,m1,p1,n1,c1⟩:Gr),(⟨wi2,hi2,m2,p2,n2,c2⟩:Gr)] [l1,l2],slF (rI2 .i64) po12 co13 lo,slF rB pf14 cf15 lf,eF wa wb lx,slF (rI .i64) p1 c1 l1,slF (rI .i64) p2 c2 l2,slF (rI2 .i64) pa ca la,slF (rI .u32) (wa.p) (wa.c) xl,slF (rI .u32) (wb.p) (wb.c) yl]) ?_ ?_
    ·
     refine zc<|r_pv rfl rfl (za rfl)<|r_pv rfl rfl (zva rfl rfl)<|zP rfl rfl (za rfl) (fun h18=> ?_) (fun h18=> ?_)
     ·
      refine r_pv rfl rfl (zg Tryz.underlying61 rfl sz3 rfl rfl)<|r_u rfl rfl (zh 1 ty3 rfl rfl rfl)<|r_pv rfl rfl (zda rfl rfl)<|zP rfl rfl (za rfl) (fun h19=> ?_) (fun h19=> ?_)
      ·
       refine zb rfl rfl<|zb rfl rfl<|zb rfl rfl<|r_pv rfl rfl (zm rfl rfl)<|r_pv rfl rfl (za rfl)<|zb rfl rfl<|zb rfl rfl<|zb rfl rfl<|r_pv rfl rfl (zm rfl rfl)<|r_pv rfl rfl (za rfl)<|zb rfl rfl<|zb rfl rfl<|zb rfl rfl<|r_pv rfl rfl (zm rfl rfl)<|r_pv rfl rfl (zm rfl rfl)<|zj ?_
       exact zca () (show True from by first|trivial|omega|simp_all) ((.e rfl (congrArg Value.bool (by first|(simp_all;done)|(simp_all;omega)|(simp;omega)|omega)) (.of rfl)):SubM _ _) (ho:=((.of [1,1,1] rfl):PickO _ _ _)) ((.of [0,1,2,3,4,5,6,7,8,9] rfl):SelR _ _ _)
      ·
       refine r_pv rfl rfl (zg Tryz.underlying61 rfl sz3 rfl rfl)<|r_u rfl rfl (zh 1 ty3 rfl rfl rfl)<|r_pv rfl rfl (zoa rfl rfl)<|r_pv rfl rfl (zm rfl rfl)<|zP rfl rfl (za rfl) (fun h20=> ?_) (fun h20=> ?_)
       ·
        refine zb rfl rfl<|zb rfl rfl<|zb rfl rfl<|r_pv rfl rfl (zm rfl rfl)<|r_pv rfl rfl (za rfl)<|zb rfl rfl<|zb rfl rfl<|zb rfl rfl<|r_pv rfl rfl (zm rfl rfl)<|r_pv rfl rfl (zm rfl rfl)<|zj ?_
        exact zca () (show True from by first|trivial|omega|simp_all) ((.e rfl (congrArg Value.bool (by first|(simp_all;done)|(simp_all;omega)|(simp;omega)|omega)) (.of rfl)):SubM _ _) (ho:=((.of [1,1,1] rfl):PickO _ _ _)) ((.of [0,1,2,3,4,5,6,7,8,9] rfl):SelR _ _ _)
       ·
        refine r_pv rfl rfl (zg Tryz.underlying61 rfl sz3 rfl rfl)<|r_u rfl rfl (zh 1 ty3 rfl rfl rfl)<|r_pv rfl rfl (zda rfl rfl)<|r_pv rfl rfl (zm rfl rfl)<|zP rfl rfl (za rfl) (fun h21=> ?_) (fun h21=> ?_)
        ·
         refine zb rfl rfl<|zb rfl rfl<|zb rfl rfl<|r_pv rfl rfl (zm rfl rfl)<|r_pv rfl rfl (zm rfl rfl)<|zj ?_
         exact zca () (show True from by first|trivial|omega|simp_all) ((.e rfl (congrArg Value.bool (by first|(simp_all;done)|(simp_all;omega)|(simp;omega)|omega)) (.of rfl)):SubM _ _) (ho:=((.of [1,1,1] rfl):PickO _ _ _)) ((.of [0,1,2,3,4,5,6,7,8,9] rfl):SelR _ _ _)
        ·
         refine r_pv rfl rfl (zg Tryz.underlying61 rfl sz3 rfl rfl)<|r_u rfl rfl (zh 1 ty3 rfl rfl rfl)<|r_pv rfl rfl (zoa rfl rfl)<|r_pv rfl rfl (zm rfl rfl)<|r_pv rfl rfl (zm rfl rfl)<|zj ?_
         exact zca () (show True from by first|trivial|omega|simp_all) ((.e rfl (congrArg Value.bool (by first|(simp_all;done)|(simp_all;omega)|(simp;omega)|omega)) (.of rfl)):SubM _ _) (ho:=((.of [1,1,1] rfl):PickO _ _ _)) ((.of [0,1,2,3,4,5,6,7,8,9] rfl):SelR _ _ _)
     ·
      refine zb rfl rfl<|zb rfl rfl<|zb rfl rfl<|zb rfl rfl<|zb rfl rfl<|zb rfl rfl<|zb rfl rfl<|zb rfl rfl<|zb rfl rfl<|zb rfl rfl<|zb rfl rfl<|zb rfl rfl<|zb rfl rfl<|zb rfl rfl<|zb rfl rfl<|zb rfl rfl<|zb rfl rfl<|zb rfl rfl<|r_pv rfl rfl (zm rfl rfl)<|zj ?_
      exact zca () (show True from by first|trivial|omega|simp_all) ((.e rfl (congrArg Value.bool (by first|(simp_all;done)|(simp_all;omega)|(simp;omega)|omega)) (.of rfl)):SubM _ _) (ho:=((.of [1,1,1] rfl):PickO _ _ _)) ((.of [0,1,2,3,4,5,6,7,8,9] rfl):SelR _ _ _)
    ·
     rintro ⟨⟩ -
     try dsimp only
     refine zG rfl (fun h94=> ?_) (fun h94=> ?_)
     ·
      refine zc<|r_pv rfl rfl (zd rfl)<|zj ?_
      exact zca () (show True from by first|trivial|omega|simp_all) ((.e rfl (congrArg (Value.int .i64) (Cr.cd1_yes Cr.srk_not h94)) (.of rfl)):SubM _ _) (ho:=((.of [0,0,0] rfl):PickO _ _ _)) ((.of [0,1,2,3,4,5,6,7,8,9] rfl):SelR _ _ _)
     ·
      refine zB ?_
      exact zca () (show True from by first|trivial|omega|simp_all) ((.e rfl (congrArg (Value.int .i64) (Cr.cd1_no Cr.srk_not h94)) (.of rfl)):SubM _ _) (ho:=((.of [0,0,0] rfl):PickO _ _ _)) ((.of [0,1,2,3,4,5,6,7,8,9] rfl):SelR _ _ _)
   ·
    rintro ⟨⟩ -
    try dsimp only
    refine zGa (X:=Unit) (fun x=>True) (fun x=>[(10,.int .i64 (Cr.cd2 (Cr.rk2 wi1 hi1 m1 l1 wi2 hi2 m2 l2) (Cr.srk sz rc) lx.isSome)),(9,.int .i64 (Cr.cd3 (Cr.rk2 wi1 hi1 m1 l1 wi2 hi2 m2 l2) (Cr.srk sz rc) lx.isSome (Cr.outp wi1 hi1 sz la))),(8,.slice pf14 kf cf15),(7,.slice po12 ko co13),(6,.bool false),(5,.pointer (some ⟨b3,0,none⟩)),(4,.pointer (some ⟨b2,0,none⟩)),(3,.pointer (some ⟨b1,0,none⟩))]) (fun x=>[boxA b3 61 [.slice pa na ca,.int .i64 sz,.int .i64 rc,wa.b,wa.l,wb.b,wb.l],boxA b2 24 [.int .i64 wi2,.int .i64 hi2,.int .i64 m2,.slice p2 n2 c2],boxA b1 24 [.int .i64 wi1,.int .i64 hi1,.int .i64 m1,.slice p1 n1 c1]]) (fun x=>[slF rG (some ⟨b16,0,none⟩) 2 ([(⟨wi1,hi1,m1,p1,n1,c1⟩:Gr),(⟨wi2,hi2,m2,p2,n2,c2⟩:Gr)]),gsF [(⟨wi1,hi1,m1,p1,n1,c1⟩:Gr),(⟨wi2,hi2,m2,p2,n2,c2⟩:Gr)] [l1,l2],slF (rI2 .i64) po12 co13 lo,slF rB pf14 cf15 lf,eF wa wb lx,slF (rI .i64) p1 c1 l1,slF (rI .i64) p2 c2 l2,slF (rI2 .i64) pa ca la,slF (rI .u32) (wa.p) (wa.c) xl,slF (rI .u32) (wb.p) (wb.c) yl]) ?_ ?_
    ·
     refine zGa (X:=Unit) (fun x=>True) (fun x=>[(102,.bool (decide (((Cr.cd1 (Cr.rk2 wi1 hi1 m1 l1 wi2 hi2 m2 l2) (Cr.srk sz rc))=0)∧((!lx.isSome)=true)))),(10,.int .i64 (Cr.cd1 (Cr.rk2 wi1 hi1 m1 l1 wi2 hi2 m2 l2) (Cr.srk sz rc))),(9,.int .i64 (Cr.cd3 (Cr.rk2 wi1 hi1 m1 l1 wi2 hi2 m2 l2) (Cr.srk sz rc) lx.isSome (Cr.outp wi1 hi1 sz la))),(8,.slice pf14 kf cf15),(7,.slice po12 ko co13),(6,.bool false),(5,.pointer (some ⟨b3,0,none⟩)),(4,.pointer (some ⟨b2,0,none⟩)),(3,.pointer (some ⟨b1,0,none⟩))]) (fun x=>[boxA b3 61 [.slice pa na ca,.int .i64 sz,.int .i64 rc,wa.b,wa.l,wb.b,wb.l],boxA b2 24 [.int .i64 wi2,.int .i64 hi2,.int .i64 m2,.slice p2 n2 c2],boxA b1 24 [.int .i64 wi1,.int .i64 hi1,.int .i64 m1,.slice p1 n1 c1]]) (fun x=>[slF rG (some ⟨b16,0,none⟩) 2 ([(⟨wi1,hi1,m1,p1,n1,c1⟩:Gr),(⟨wi2,hi2,m2,p2,n2,c2⟩:Gr)]),gsF [(⟨wi1,hi1,m1,p1,n1,c1⟩:Gr),(⟨wi2,hi2,m2,p2,n2,c2⟩:Gr)] [l1,l2],slF (rI2 .i64) po12 co13 lo,slF rB pf14 cf15 lf,eF wa wb lx,slF (rI .i64) p1 c1 l1,slF (rI .i64) p2 c2 l2,slF (rI2 .i64) pa ca la,slF (rI .u32) (wa.p) (wa.c) xl,slF (rI .u32) (wb.p) (wb.c) yl]) ?_ ?_
     ·
      refine zc<|r_pv rfl rfl (za rfl)<|r_pv rfl rfl (zva rfl rfl)<|zP rfl rfl (za rfl) (fun h97=> ?_) (fun h97=> ?_)
      ·
       refine r_pv rfl rfl (zg Tryz.underlying61 rfl sz32 rfl rfl)<|r_u rfl rfl (zf 0 ty32 rfl rfl (.skip (.skip (.skip (.take (.take (.take (.take .nil))))))))<|zN rfl rfl (.c rfl .n) ce28 (zzd (u1:=wa) (v1:=wb) (x1:=lx)) (.c (j:=4) rfl .n)<|r_pv rfl rfl (zjb rfl)<|r_pv rfl rfl (zm rfl rfl)<|zj ?_
       exact zca () (show True from by first|trivial|omega|simp_all) ((.e rfl (congrArg Value.bool (by exact Cr.and_yes h97)) (.of rfl)):SubM _ _) (ho:=((.of [0,0,0] rfl):PickO _ _ _)) ((.of [0,1,2,3,4,5,6,7,8,9] rfl):SelR _ _ _)
      ·
       refine zb rfl rfl<|zb rfl rfl<|zb rfl rfl<|zb rfl rfl<|r_pv rfl rfl (zm rfl rfl)<|zj ?_
       exact zca () (show True from by first|trivial|omega|simp_all) ((.e rfl (congrArg Value.bool (by exact Cr.and_no h97)) (.of rfl)):SubM _ _) (ho:=((.of [0,0,0] rfl):PickO _ _ _)) ((.of [0,1,2,3,4,5,6,7,8,9] rfl):SelR _ _ _)
     ·
      rintro ⟨⟩ -
      try dsimp only
      refine zG rfl (fun h102=> ?_) (fun h102=> ?_)
      ·
       refine zc<|r_pv rfl rfl (zd rfl)<|zj ?_
       exact zca () (show True from by first|trivial|omega|simp_all) ((.e rfl (congrArg (Value.int .i64) (Cr.cd2_yes h102)) (.of rfl)):SubM _ _) (ho:=((.of [0,0,0] rfl):PickO _ _ _)) ((.of [0,1,2,3,4,5,6,7,8,9] rfl):SelR _ _ _)
      ·
       refine zB ?_
       exact zca () (show True from by first|trivial|omega|simp_all) ((.e rfl (congrArg (Value.int .i64) (Cr.cd2_no h102)) (.of rfl)):SubM _ _) (ho:=((.of [0,0,0] rfl):PickO _ _ _)) ((.of [0,1,2,3,4,5,6,7,8,9] rfl):SelR _ _ _)
    ·
     rintro ⟨⟩ -
     try dsimp only
     refine zkb 2 rfl (.s (.s .z))<|zkb 0 rfl .z<|zGa (X:=Unit) (fun x=>True) (fun x=>[(10,.int .i64 (Cr.cd3 (Cr.rk2 wi1 hi1 m1 l1 wi2 hi2 m2 l2) (Cr.srk sz rc) lx.isSome (Cr.outp wi1 hi1 sz la))),(9,.int .i64 (Cr.cd3 (Cr.rk2 wi1 hi1 m1 l1 wi2 hi2 m2 l2) (Cr.srk sz rc) lx.isSome (Cr.outp wi1 hi1 sz la))),(8,.slice pf14 kf cf15),(7,.slice po12 ko co13),(6,.bool false),(5,.pointer (some ⟨b3,0,none⟩)),(4,.pointer (some ⟨b2,0,none⟩)),(3,.pointer (some ⟨b1,0,none⟩))]) (fun x=>[boxA b2 24 [.int .i64 wi2,.int .i64 hi2,.int .i64 m2,.slice p2 n2 c2]]) (fun x=>[atF b3 0 [.slice pa na ca,.int .i64 sz,.int .i64 rc,wa.b,wa.l,wb.b,wb.l],atF b1 0 [.int .i64 wi1,.int .i64 hi1,.int .i64 m1,.slice p1 n1 c1],slF rG (some ⟨b16,0,none⟩) 2 ([(⟨wi1,hi1,m1,p1,n1,c1⟩:Gr),(⟨wi2,hi2,m2,p2,n2,c2⟩:Gr)]),gsF [(⟨wi1,hi1,m1,p1,n1,c1⟩:Gr),(⟨wi2,hi2,m2,p2,n2,c2⟩:Gr)] [l1,l2],slF (rI2 .i64) po12 co13 lo,slF rB pf14 cf15 lf,eF wa wb lx,slF (rI .i64) p1 c1 l1,slF (rI .i64) p2 c2 l2,slF (rI2 .i64) pa ca la,slF (rI .u32) (wa.p) (wa.c) xl,slF (rI .u32) (wb.p) (wb.c) yl]) ?_ ?_
     ·
      refine zGa (X:=Unit) (fun x=>True) (fun x=>[(110,.bool (decide (((Cr.cd2 (Cr.rk2 wi1 hi1 m1 l1 wi2 hi2 m2 l2) (Cr.srk sz rc) lx.isSome)=0)∧(Cr.outp wi1 hi1 sz la)))),(10,.int .i64 (Cr.cd2 (Cr.rk2 wi1 hi1 m1 l1 wi2 hi2 m2 l2) (Cr.srk sz rc) lx.isSome)),(9,.int .i64 (Cr.cd3 (Cr.rk2 wi1 hi1 m1 l1 wi2 hi2 m2 l2) (Cr.srk sz rc) lx.isSome (Cr.outp wi1 hi1 sz la))),(8,.slice pf14 kf cf15),(7,.slice po12 ko co13),(6,.bool false),(5,.pointer (some ⟨b3,0,none⟩)),(4,.pointer (some ⟨b2,0,none⟩)),(3,.pointer (some ⟨b1,0,none⟩))]) (fun x=>[boxA b2 24 [.int .i64 wi2,.int .i64 hi2,.int .i64 m2,.slice p2 n2 c2]]) (fun x=>[atF b3 0 [.slice pa na ca,.int .i64 sz,.int .i64 rc,wa.b,wa.l,wb.b,wb.l],atF b1 0 [.int .i64 wi1,.int .i64 hi1,.int .i64 m1,.slice p1 n1 c1],slF rG (some ⟨b16,0,none⟩) 2 ([(⟨wi1,hi1,m1,p1,n1,c1⟩:Gr),(⟨wi2,hi2,m2,p2,n2,c2⟩:Gr)]),gsF [(⟨wi1,hi1,m1,p1,n1,c1⟩:Gr),(⟨wi2,hi2,m2,p2,n2,c2⟩:Gr)] [l1,l2],slF (rI2 .i64) po12 co13 lo,slF rB pf14 cf15 lf,eF wa wb lx,slF (rI .i64) p1 c1 l1,slF (rI .i64) p2 c2 l2,slF (rI2 .i64) pa ca la,slF (rI .u32) (wa.p) (wa.c) xl,slF (rI .u32) (wb.p) (wb.c) yl]) ?_ ?_
      ·
       refine zc<|r_pv rfl rfl (za rfl)<|r_pv rfl rfl (zva rfl rfl)<|zP rfl rfl (za rfl) (fun hz2=> ?_) (fun hz2=> ?_)
       ·
        have hq3:=Cr.cd2_zero hz2
        have hw9:=hq3.1.1.1
        have hh9:=hq3.1.1.2.1
        have hs9:1≤sz∧sz≤64:=⟨hq3.2.1.1,hq3.2.1.2.1⟩
        refine r_pv rfl rfl (zg Tryz.underlying61 rfl sz59 rfl rfl)<|r_u rfl rfl (zk (j:=0) 0 ty59 rfl rfl rfl rfl)<|r_pv rfl rfl (zob .n (.c rfl (.c rfl .n)))<|zN rfl rfl (.c rfl (.c rfl .n)) ce29 (zac (wi1:=wi1) (hi1:=hi1) (m1:=m1) (p1:=p1) (n1:=n1) (c1:=c1) (pa:=pa) (na:=na) (ca:=ca) (la:=la) (sz:=sz) (rc:=rc) (wa:=wa) (wb:=wb) (b3:=b1) (b5:=b3) (hw9:=by first|rfl|assumption|omega) (hh9:=by first|rfl|assumption|omega) (hs9:=by first|rfl|assumption|omega) (hla:=by assumption)) (.c (j:=1) rfl (.c (j:=0) rfl (.c (j:=9) rfl .n)))<|r_pv rfl rfl (zm rfl rfl)<|zj ?_
        exact zca () (show True from by first|trivial|omega|simp_all) ((.e rfl (congrArg Value.bool (by first|(simp_all;done)|(simp_all;omega)|(simp;omega)|omega)) (.of rfl)):SubM _ _) (ho:=((.c (i:=1) rfl .n):PickO _ _ _)) ((.of [0,1,2,3,4,5,6,7,8,9,10,11] rfl):SelR _ _ _)
       ·
        refine zb rfl rfl<|zb rfl rfl<|zb rfl rfl<|zb rfl rfl<|r_pv rfl rfl (zm rfl rfl)<|zj ?_
        exact zca () (show True from by first|trivial|omega|simp_all) ((.e rfl (congrArg Value.bool (by first|(simp_all;done)|(simp_all;omega)|(simp;omega)|omega)) (.of rfl)):SubM _ _) (ho:=((.c (i:=1) rfl .n):PickO _ _ _)) ((.of [0,1,2,3,4,5,6,7,8,9,10,11] rfl):SelR _ _ _)
      ·
       rintro ⟨⟩ -
       try dsimp only
       refine zG rfl (fun h110=> ?_) (fun h110=> ?_)
       ·
        refine zc<|r_pv rfl rfl (zd rfl)<|zj ?_
        exact zca () (show True from by first|trivial|omega|simp_all) ((.e rfl (congrArg (Value.int .i64) (Cr.cd3_yes h110)) (.of rfl)):SubM _ _) (ho:=((.c (i:=0) rfl .n):PickO _ _ _)) ((.of [0,1,2,3,4,5,6,7,8,9,10,11] rfl):SelR _ _ _)
       ·
        refine zB ?_
        exact zca () (show True from by first|trivial|omega|simp_all) ((.e rfl (congrArg (Value.int .i64) (Cr.cd3_no h110)) (.of rfl)):SubM _ _) (ho:=((.c (i:=0) rfl .n):PickO _ _ _)) ((.of [0,1,2,3,4,5,6,7,8,9,10,11] rfl):SelR _ _ _)
     ·
      rintro ⟨⟩ -
      try dsimp only
      refine zi<|zi<|zc<|r_pv rfl rfl (za rfl)<|r_pv rfl rfl (zKa rfl rfl)<|zj<|ze<|zG rfl (fun hcc=> ?_) (fun hcc=> ?_)
      ·
       have hgn:¬((Cr.rk2 wi1 hi1 m1 l1 wi2 hi2 m2 l2)∧(Cr.srk sz rc)∧lx.isSome=true∧¬(Cr.outp wi1 hi1 sz la)):=fun k=>hcc (Cr.cd3_ok k.1 k.2.1 k.2.2.1 k.2.2.2)
       refine zi<|zc<|r_pv rfl rfl (za rfl)<|r_pv rfl rfl (za rfl)<|r_pv rfl rfl (zva rfl rfl) ?_
       rw [Cr.self_eq]
       refine r_pv rfl rfl (za rfl)<|r_pv rfl rfl (za rfl)<|r_pv rfl rfl (zM Tryz.underlying59 rfl)<|r_pv rfl rfl (zva rfl rfl) ?_
       rw [show (decide (((ko:Nat):Int)=0))=true from by exact decide_eq_true (by rw [← hsh.1,hsh.2.2.1,if_neg hgn];rfl)]
       refine r_pv rfl rfl (zm rfl rfl)<|r_pv rfl rfl (za rfl)<|r_pv rfl rfl (za rfl)<|r_pv rfl rfl (zM Tryz.underlying63 rfl)<|r_pv rfl rfl (zva rfl rfl) ?_
       rw [show (decide (((kf:Nat):Int)=0))=true from by exact decide_eq_true (by rw [← hsh.2.1,hsh.2.2.2,if_neg hgn];rfl)]
       refine r_pv rfl rfl (zm rfl rfl)<|r_pv rfl rfl (zd rfl)<|zj<|ze<|zI<|zp ?_
       exact zE Tryz.results6 () trivial (zo rfl) rfl (ho:=(.n:PickO _ _ _)) (.n:SelR _ _ _)
      ·
       have hz9:=Decidable.not_not.1 hcc
       have hg4:=Cr.cd3_zero hz9
       have e22:((Cr.cd3 (Cr.rk2 wi1 hi1 m1 l1 wi2 hi2 m2 l2) (Cr.srk sz rc) lx.isSome (Cr.outp wi1 hi1 sz la)):Int)=0:=by exact hz9
       rw [e22]
       have hsr2:1≤sz∧sz≤64∧0≤rc∧rc≤64:=hg4.2.1
       obtain ⟨w1,vh1,rfl,rfl,hw1,hh1,hwh1,hb1,hg1⟩:=Cr.rokN (hg4.1.1) hn1
       obtain ⟨w2,vh2,rfl,rfl,hw2,hh2,hwh2,hb2,hg2⟩:=Cr.rokN (hg4.1.2) hn2
       obtain ⟨s9,e23⟩:∃q:Nat,sz=(q:Int):=⟨sz.toNat,by omega⟩
       subst e23
       obtain ⟨r9,e24⟩:∃q:Nat,rc=(q:Int):=⟨rc.toNat,by omega⟩
       subst e24
       have e25:(Cr.fil (fun p=>Cr.shP (lx.getD 0) p (Cr.shA l1 l2 w1 w2 vh2 s9 r9 p)) (0,0) (0,0) la na)=lo:=by rw [hsh.2.2.1,if_pos hg4];rfl
       subst e25
       have e26:(Cr.fil (fun p=>Cr.shF (lx.getD 0) (Cr.shA l1 l2 w1 w2 vh2 s9 r9 p)) false (0,0) la na)=lf:=by rw [hsh.2.2.2,if_pos hg4];rfl
       subst e26
       have e27:na=ko:=by rw [← hsh.1];exact ((Cr.fil_len _ _ _ _ _).trans hla).symm
       subst e27
       have e28:na=kf:=by rw [← hsh.2.1];exact ((Cr.fil_len _ _ _ _ _).trans hla).symm
       subst e28
       refine zCb (qF lx.isSome wa wb (lx.getD 0)) (eF_weak 6 rfl) ?_
       have e29:lx.isSome=true:=by exact hg4.2.2.1
       rw [e29]
       refine zB<|ze<|zi<|zi<|zc<|r_pv rfl rfl (za rfl)<|r_pv rfl rfl (zKa rfl rfl)<|r_pv rfl rfl (za rfl)<|r_pv rfl rfl (za rfl)<|r_pv rfl rfl (zM Tryz.underlying59 rfl)<|r_pv rfl rfl (zg Tryz.underlying61 rfl sz59 rfl rfl)<|r_u rfl rfl (zk (j:=0) 1 ty59 rfl rfl rfl rfl)<|r_pv rfl rfl (zM Tryz.underlying59 rfl)<|r_pv rfl rfl (zKa rfl rfl) ?_
       rw [Cr.self_ne]
       refine r_pv rfl rfl (zm rfl rfl)<|r_pv rfl rfl (za rfl)<|r_pv rfl rfl (za rfl)<|r_pv rfl rfl (zM Tryz.underlying63 rfl)<|r_pv rfl rfl (zg Tryz.underlying61 rfl sz59 rfl rfl)<|r_u rfl rfl (zk (j:=0) 1 ty59 rfl rfl rfl rfl)<|r_pv rfl rfl (zM Tryz.underlying59 rfl)<|r_pv rfl rfl (zKa rfl rfl) ?_
       rw [Cr.self_ne]
       refine r_pv rfl rfl (zm rfl rfl)<|zj<|ze<|zZa rfl rfl<|zB<|ze<|zi<|zi<|zc<|r_pv rfl rfl (zg Tryz.underlying61 rfl sz59 rfl rfl)<|r_u rfl rfl (zk (j:=0) 1 ty59 rfl rfl rfl rfl)<|r_pv rfl rfl (zM Tryz.underlying59 rfl)<|r_pv rfl rfl (za rfl)<|zj<|ze<|zA<|zka (X:=Nat) (fun x:Nat=>x≤na) (fun x=>[(147,.int .i64 ((x:Nat):Int)),(146,.int .i64 ((na:Nat):Int)),(145,.slice pa na ca),(8,.slice pf14 na cf15),(7,.slice po12 na co13),(5,.pointer (some ⟨b3,0,none⟩)),(4,.pointer (some ⟨b2,0,none⟩)),(3,.pointer (some ⟨b1,0,none⟩))]) (fun x=>[boxA b2 24 [.int .i64 ((w2:Nat):Int),.int .i64 ((vh2:Nat):Int),.int .i64 m2,.slice p2 n2 c2]]) (fun x=>[qF true wa wb (lx.getD 0),atF b3 0 [.slice pa na ca,.int .i64 ((s9:Nat):Int),.int .i64 ((r9:Nat):Int),wa.b,wa.l,wb.b,wb.l],atF b1 0 [.int .i64 ((w1:Nat):Int),.int .i64 ((vh1:Nat):Int),.int .i64 m1,.slice p1 n1 c1],slF rG (some ⟨b16,0,none⟩) 2 ([(⟨((w1:Nat):Int),((vh1:Nat):Int),m1,p1,n1,c1⟩:Gr),(⟨((w2:Nat):Int),((vh2:Nat):Int),m2,p2,n2,c2⟩:Gr)]),gsF [(⟨((w1:Nat):Int),((vh1:Nat):Int),m1,p1,n1,c1⟩:Gr),(⟨((w2:Nat):Int),((vh2:Nat):Int),m2,p2,n2,c2⟩:Gr)] [l1,l2],slF (rI2 .i64) po12 co13 (Cr.fil (fun p=>Cr.shP (lx.getD 0) p (Cr.shA l1 l2 w1 w2 vh2 s9 r9 p)) (0,0) (0,0) la na),slF rB pf14 cf15 (Cr.fil (fun p=>Cr.shF (lx.getD 0) (Cr.shA l1 l2 w1 w2 vh2 s9 r9 p)) false (0,0) la na),eF wa wb lx,slF (rI .i64) p1 c1 l1,slF (rI .i64) p2 c2 l2,slF (rI2 .i64) pa ca la,slF (rI .u32) (wa.p) (wa.c) xl,slF (rI .u32) (wb.p) (wb.c) yl]) (fun x:Nat=>na - x) 0 (show 0≤na from by exact Nat.zero_le _) ((.e rfl (by first|rfl|(congr 1;omega)|simp_all) (.of rfl)):SubM _ _) (ho:=((.c (i:=0) rfl .n):PickO _ _ _)) ((.of [0,1,2,3,4,5,6,7,8,9,10,11,12] rfl):SelR _ _ _) ?_
       rintro k hI
       replace hI:k≤na:=hI
       try dsimp only
       refine zi<|zc<|r_pv rfl rfl (zda rfl rfl)<|zj<|ze<|zi<|zG rfl (fun h30=> ?_) (fun h30=> ?_)
       ·
        refine zB<|ze<|zi<|zA<|zi<|zc<|r_pv rfl rfl (za rfl)<|zU (x0:=(la.getD k (0,0))) 10 k rfl Tryz.underlying59 sz68 rfl rfl rfl (by first|rfl|assumption|(rw [Cr.fil_len];assumption)|omega) rfl rfl (gD (d:=(0,0)) (by omega)) (fun b31 o32 hok33=> ?_)
        obtain ⟨hok33x,hok33y⟩:=hok33
        replace hok33x:=zR.1 hok33x
        replace hok33y:=zR.1 hok33y
        refine r_u rfl rfl (zra (j:=0) 0 ty68 rfl rfl rfl (.take (.take .nil)))<|zJ rfl rfl (zw zr68 rfl) (fun b34=> ?_)
        refine r_pv rfl rfl (zd rfl)<|zn 0 rfl rfl rfl rfl rfl sz68 rfl (.take (.take .nil)) .z<|zj<|ze<|zi ?_
        have hkla:k<la.length:=by omega
        have hnb:=Cr.not_bad hkla hg4.2.2.2
        have hb0:0≤(la.getD k (0,0)).1∧0≤(la.getD k (0,0)).2∧(la.getD k (0,0)).1+s9≤w1∧(la.getD k (0,0)).2+s9≤vh1:=by unfold Cr.bad at hnb;omega
        refine zc<|r_u rfl rfl (zra (j:=0) 3 ty24 rfl rfl rfl (.take (.take (.take (.take .nil)))))<|r_u rfl rfl (zf 1 ty24 rfl rfl (.take (.take (.take (.take .nil)))))<|r_u rfl rfl (zf 0 ty68 rfl rfl (.take (.take .nil)))<|r_pv rfl rfl (zg Tryz.underlying61 rfl sz3 rfl rfl)<|r_u rfl rfl (zk (j:=1) 2 ty3 rfl rfl rfl rfl)<|r_pv rfl rfl (zg Tryz.underlying61 rfl sz3 rfl rfl)<|r_u rfl rfl (zk (j:=2) 2 ty3 rfl rfl rfl rfl)<|r_pv rfl rfl (zg Tryz.underlying61 rfl sz32 rfl rfl)<|r_u rfl rfl (zra (j:=3) 2 ty32 rfl rfl rfl (.skip (.skip (.skip (.take (.take (.take (.take .nil))))))))<|zN rfl rfl (.c rfl (.c rfl (.c rfl (.c rfl (.c rfl (.c rfl .n)))))) ce31 (zUd (w1:=w1) (vh1:=vh1) (m1:=m1) (p1:=p1) (n1:=n1) (c1:=c1) (l1:=l1) (w2:=w2) (vh2:=vh2) (m2:=m2) (p2:=p2) (n2:=n2) (c2:=c2) (l2:=l2) (ex:=(la.getD k (0,0)).1) (ey:=(la.getD k (0,0)).2) (s9:=s9) (r9:=r9) (ul:=wa) (vl:=wb) (le:=(lx.getD 0)) (hn1:=by assumption) (hw1:=by first|rfl|assumption|omega) (hh1:=by first|rfl|assumption|omega) (hwh1:=by first|rfl|assumption|omega) (hb1:=by first|rfl|assumption|omega) (hg1:=by first|rfl|assumption|omega) (hn2:=by assumption) (hw2:=by first|rfl|assumption|omega) (hh2:=by first|rfl|assumption|omega) (hwh2:=by first|rfl|assumption|omega) (hb2:=by first|rfl|assumption|omega) (hg2:=by first|rfl|assumption|omega) (hok1:=by exact hg4.1.1) (hok2:=by exact hg4.1.2) (hx:=by first|rfl|assumption|omega) (hy:=by first|rfl|assumption|omega) (hs9:=by first|rfl|assumption|omega) (hr9:=by first|rfl|assumption|omega) (hle:=by first|rfl|assumption|omega)) (.c (j:=9) rfl (.c (j:=10) rfl (.c (j:=1) rfl .n)))<|r_pv rfl rfl (za rfl)<|r_pv rfl rfl (zr rfl rfl)<|r_pv rfl rfl (zr rfl rfl)<|zJ rfl rfl (zw zr68 rfl) (fun b35=> ?_)
        refine zn 0 rfl rfl rfl rfl rfl sz68 rfl (.take (.take .nil)) .z<|r_pv rfl rfl (zd rfl)<|zj<|ze<|zi ?_
        have hfp:=Cr.fil_at (fun p=>Cr.shP (lx.getD 0) p (Cr.shA l1 l2 w1 w2 vh2 s9 r9 p)) (0,0) (0,0) la (k:=na) (i:=k) (0,0) hkla (by omega)
        have hff:=Cr.fil_at (fun p=>Cr.shF (lx.getD 0) (Cr.shA l1 l2 w1 w2 vh2 s9 r9 p)) false (0,0) la (k:=na) (i:=k) false hkla (by omega)
        have hf1:(Cr.fil (fun p=>Cr.shP (lx.getD 0) p (Cr.shA l1 l2 w1 w2 vh2 s9 r9 p)) (0,0) (0,0) la na).length=na:=(Cr.fil_len _ _ _ _ _).trans hla
        have hf2:(Cr.fil (fun p=>Cr.shF (lx.getD 0) (Cr.shA l1 l2 w1 w2 vh2 s9 r9 p)) false (0,0) la na).length=na:=(Cr.fil_len _ _ _ _ _).trans hla
        refine zea (OW:=[]) (O:=[boxA b35 68 [.int .i64 ((Cr.shP (lx.getD 0) (((la.getD k (0,0)).1),((la.getD k (0,0)).2)) (Cr.shA l1 l2 w1 w2 vh2 s9 r9 (((la.getD k (0,0)).1),((la.getD k (0,0)).2)))).1),.int .i64 ((Cr.shP (lx.getD 0) (((la.getD k (0,0)).1),((la.getD k (0,0)).2)) (Cr.shA l1 l2 w1 w2 vh2 s9 r9 (((la.getD k (0,0)).1),((la.getD k (0,0)).2)))).2)],boxA b34 68 [.int .i64 ((la.getD k (0,0)).1),.int .i64 ((la.getD k (0,0)).2)],boxA b2 24 [.int .i64 ((w2:Nat):Int),.int .i64 ((vh2:Nat):Int),.int .i64 m2,.slice p2 n2 c2]]) 100000 mixed (.then (.block (.then (.then (.block (.then .ret)))))) (by kernel_rfl)<|d_pv 0 rfl rfl (by kernel_rfl) (by kernel_rfl) rfl rfl (za rfl)<|d_pv 1 rfl rfl (by kernel_rfl) (by kernel_rfl) rfl rfl (za rfl)<|zga (x0:=((Cr.fil (fun p=>Cr.shP (lx.getD 0) p (Cr.shA l1 l2 w1 w2 vh2 s9 r9 p)) (0,0) (0,0) la na).getD k (0,0))) 2 rfl rfl (by kernel_rfl) (by kernel_rfl) 6 k rfl Tryz.underlying59 sz68 rfl rfl rfl (by first|rfl|assumption|(rw [Cr.fil_len];assumption)|omega) rfl rfl (gD (d:=(0,0)) (by omega)) (fun b36 o37 hok38=> ?_)
        obtain ⟨hok38x,hok38y⟩:=hok38
        replace hok38x:=zR.1 hok38x
        replace hok38y:=zR.1 hok38y
        refine d_u 3 rfl rfl (by kernel_rfl) (by kernel_rfl) rfl rfl (zra (j:=0) 0 ty68 rfl rfl rfl (.take (.take .nil)))<|d_u 4 rfl rfl (by kernel_rfl) (by kernel_rfl) rfl rfl (zf 0 ty68 rfl rfl (.take (.take .nil)))<|d_pv 5 rfl rfl (by kernel_rfl) (by kernel_rfl) rfl rfl (zne (p:=((Cr.fil (fun p=>Cr.shP (lx.getD 0) p (Cr.shA l1 l2 w1 w2 vh2 s9 r9 p)) (0,0) (0,0) la na).getD k (0,0)).1=(Cr.shP (lx.getD 0) (((la.getD k (0,0)).1),((la.getD k (0,0)).2)) (Cr.shA l1 l2 w1 w2 vh2 s9 r9 (((la.getD k (0,0)).1),((la.getD k (0,0)).2)))).1∧((Cr.fil (fun p=>Cr.shP (lx.getD 0) p (Cr.shA l1 l2 w1 w2 vh2 s9 r9 p)) (0,0) (0,0) la na).getD k (0,0)).2=(Cr.shP (lx.getD 0) (((la.getD k (0,0)).1),((la.getD k (0,0)).2)) (Cr.shA l1 l2 w1 w2 vh2 s9 r9 (((la.getD k (0,0)).1),((la.getD k (0,0)).2)))).2) (by kernel_rfl) rfl rfl (zme Tryz.underlying68 (by kernel_rfl) (zAe (by decide) ty3 rfl rfl (zze Tryz.underlying3) (zAe (by decide) ty3 rfl rfl (zze Tryz.underlying3) zJf))) (by simp [Bool.decide_and])) ?_
        rw [show (decide (¬(((Cr.fil (fun p=>Cr.shP (lx.getD 0) p (Cr.shA l1 l2 w1 w2 vh2 s9 r9 p)) (0,0) (0,0) la na).getD k (0,0)).1=(Cr.shP (lx.getD 0) (((la.getD k (0,0)).1),((la.getD k (0,0)).2)) (Cr.shA l1 l2 w1 w2 vh2 s9 r9 (((la.getD k (0,0)).1),((la.getD k (0,0)).2)))).1∧((Cr.fil (fun p=>Cr.shP (lx.getD 0) p (Cr.shA l1 l2 w1 w2 vh2 s9 r9 p)) (0,0) (0,0) la na).getD k (0,0)).2=(Cr.shP (lx.getD 0) (((la.getD k (0,0)).1),((la.getD k (0,0)).2)) (Cr.shA l1 l2 w1 w2 vh2 s9 r9 (((la.getD k (0,0)).1),((la.getD k (0,0)).2)))).2)))=false from by exact decide_eq_false (not_not_intro ⟨by rw [hfp],by rw [hfp]⟩)]
        refine d_pv 6 rfl rfl (by kernel_rfl) (by kernel_rfl) rfl rfl (za rfl)<|d_pv 7 rfl rfl (by kernel_rfl) (by kernel_rfl) rfl rfl (za rfl)<|d_pv 8 rfl rfl (by kernel_rfl) (by kernel_rfl) rfl rfl (za rfl)<|zga (x0:=((Cr.fil (fun p=>Cr.shF (lx.getD 0) (Cr.shA l1 l2 w1 w2 vh2 s9 r9 p)) false (0,0) la na).getD k false)) 9 rfl rfl (by kernel_rfl) (by kernel_rfl) 8 k rfl Tryz.underlying63 sz4 rfl rfl rfl (by first|rfl|assumption|(rw [Cr.fil_len];assumption)|omega) rfl rfl (gD (d:=false) (by omega)) (fun b39 o40 hok41=> ?_)
        refine d_u 10 rfl rfl (by kernel_rfl) (by kernel_rfl) rfl rfl (zk (j:=0) 0 ty4 rfl rfl rfl rfl)<|d_pv 11 rfl rfl (by kernel_rfl) (by kernel_rfl) rfl rfl (za rfl)<|d_pv 12 rfl rfl (by kernel_rfl) (by kernel_rfl) rfl rfl (zFa Tryz.underlying4 rfl rfl) ?_
        rw [show (decide (((Cr.fil (fun p=>Cr.shF (lx.getD 0) (Cr.shA l1 l2 w1 w2 vh2 s9 r9 p)) false (0,0) la na).getD k false)≠(Cr.shF (lx.getD 0) (Cr.shA l1 l2 w1 w2 vh2 s9 r9 (((la.getD k (0,0)).1),((la.getD k (0,0)).2))))))=false from by exact decide_eq_false (not_not_intro (by rw [hff]))]
        refine d_pv 13 rfl rfl (by kernel_rfl) (by kernel_rfl) rfl rfl (zm rfl rfl)<|zba (by kernel_rfl)<|ze<|zZa rfl rfl<|zB<|zT<|ze<|zc<|r_pv rfl rfl (zx (z:=(((k+1):Nat):Int)) rfl rfl (w64 (by omega)))<|r_pv rfl rfl (za rfl)<|zj<|zha (k+1) (show (k+1)≤na from by omega) (by show na - (k+1)<na - k;omega) ((.of rfl):SubM _ _) (ho:=((.c (i:=2) rfl .n):PickO _ _ _)) ((.of [3,4,5,6,7,8,9,10,11,12,13,14,15] rfl):SelR _ _ _)
       ·
        refine zja<|zl<|zl<|zu<|ze<|zi<|zc<|r_pv rfl rfl (zd rfl)<|zj<|ze<|zI ?_
        exact zE Tryz.results6 () trivial (zo rfl) rfl (ho:=(.n:PickO _ _ _)) (.n:SelR _ _ _)
end Go.Proofs.YtkamccndgblheaaGreat.Sp
