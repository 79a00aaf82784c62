/- Lemmas on the walk and plain lemmas that the claim of this folder uses; each states its own conditions. Lines were printed by a program of ours. -/
import Derived.Test.YtkamccndgblheaaZ6D
set_option linter.unusedVariables false
set_option linter.unusedSimpArgs false
set_option linter.unusedSectionVars false
namespace Go.Proofs.Ytkamccndgblheaa.Cr
theorem div_le1 {n d:Int} (hd:0<d) (h:n≤d):Rat.divInt n d≤1:=by
  have hp:(0:Rat)<(d:Rat):=Rat.intCast_pos.2 hd
  rw [Rat.divInt_eq_div]
  apply Rat.le_of_mul_le_mul_right (c:=(d:Rat)) _ hp
  rw [Rat.div_mul_cancel (by grind),Rat.one_mul];exact Rat.intCast_le_intCast.2 h
theorem div_ge1 {n d:Int} (hd:0<d) (h: -d≤n): -1≤Rat.divInt n d:=by
  have k:=div_le1 (n:= -n) hd (by omega)
  rw [← Rat.neg_divInt] at k;grind
theorem sc_rng {c a b:Int} (ha:0≤a) (hb:0≤b) (h:0<b→c*c≤a*b):sc c a b≤1∧ -1≤sc c a b:=by
  unfold sc
  split
  · exact ⟨by decide,by decide⟩
  · rename_i k
    have hp:0<a*b:=Int.mul_pos (by omega) (by omega)
    have hc:=h (by omega)
    have e:c*(c.natAbs:Int)≤c*c∧ -(c*c)≤c*(c.natAbs:Int):=by
      rcases Int.natAbs_eq c with q|q
      · rw [← q];have:=sq_nn c;omega
      · have : (c.natAbs : Int) = -c := by omega
        rw [this,Int.mul_neg];have:=sq_nn c;omega
    constructor
    · exact div_le1 hp (by omega)
    · exact div_ge1 hp (by omega)
theorem sc_self {a:Int} (ha:0≤a):sc a a a=if a=0 then 0 else 1:=by
  unfold sc
  by_cases h:a=0
  · rw [if_pos h,if_pos (.inl h)]
  · rw [if_neg h, if_neg (by omega), show (a.natAbs : Int) = a by omega]
    exact Rat.divInt_self' (Int.mul_ne_zero h h)
def wn (l:List Int) (w y x pw k:Nat):Int:=px l ((y+k / pw)*w+(x+k%pw))
theorem box_wn (l:List Int) (w y x:Nat) {pw:Nat} (hp:0<pw) (ph:Nat):box (px l) w y x ph pw=sumN (wn l w y x pw) (pw*ph):=(sumN_lin (fun j i=>px l ((y+j)*w+(x+i))) hp ph).symm
theorem boxq_wn (l:List Int) (w y x:Nat) {pw:Nat} (hp:0<pw) (ph:Nat):box (sq l) w y x ph pw=sumN (fun k=>wn l w y x pw k*wn l w y x pw k) (pw*ph):=(sumN_lin (fun j i=>sq l ((y+j)*w+(x+i))) hp ph).symm
section
variable {l1 l2 : List Int} {w1 h1 n1 w2 y x : Nat} (h1n : n1 = w1 * h1) (hw : 0 < w1)
include h1n hw
theorem va_is:va l1 n1=vr (px l1) n1:=rfl
theorem vb_is:vb l2 w1 h1 n1 w2 y x=vr (wn l2 w2 y x w1) n1:=by
  unfold vb vr;rw [box_wn l2 w2 y x hw,boxq_wn l2 w2 y x hw,←h1n]
theorem cc_is:cc l1 l2 w1 h1 n1 w2 y x=cv (px l1) (wn l2 w2 y x w1) n1:=by
  unfold cc cv;rw [box_wn l2 w2 y x hw,←h1n]
  congr 2;unfold crs;exact sumN_congr fun i _=>by unfold wn;rw [Nat.add_assoc]
theorem scr_rng:scr l1 l2 w1 h1 n1 w2 y x≤1∧ -1≤scr l1 l2 w1 h1 n1 w2 y x:=by
  unfold scr
  rw [vb_is h1n hw,cc_is h1n hw]
  exact sc_rng (vr_nn _ _) (vr_nn _ _) fun h=>cauchy h
end
theorem vr_congr {f g:Nat→Int} {n:Nat} (h:∀i,i<n→f i=g i):vr f n=vr g n:=by
  unfold vr;rw [sumN_congr h,sumN_congr (f:=fun i=>f i*f i) (g:=fun i=>g i*g i) fun i hi=>by rw [h i hi]]
theorem cv_congr {f g:Nat→Int} {n:Nat} (h:∀i,i<n→f i=g i):cv f g n=vr f n:=by
  unfold cv vr;rw [sumN_congr (f:=g) (g:=f) fun i hi=>(h i hi).symm,sumN_congr (f:=fun i=>f i*g i) (g:=fun i=>f i*f i) fun i hi=>by rw [h i hi]]
theorem scr_own {l:List Int} {w h n y x pw ph n1:Nat} (hn:l.length=n) (hwh:n=w*h) (hx:x+pw≤w) (hy:y+ph≤h) (hp:0<pw) (h1n:n1=pw*ph):
    scr (cutL l w y x pw ph) l pw ph n1 w y x=if va (cutL l w y x pw ph) n1=0 then 0 else 1:=by
  have e:∀k,k<n1→px (cutL l w y x pw ph) k=wn l w y x pw k:=fun k hk=>cutL_at hn hwh hx hy hp (by omega)
  unfold scr
  rw [vb_is h1n hp,cc_is h1n hp,va_is h1n hp,cv_congr e,←vr_congr e]
  exact sc_self (vr_nn _ _)
theorem va_zero {l:List Int} {n:Nat} (hn:l.length=n) (hn0:0<n) {a b:Int} (h1:(∀g∈l,a≤g)∧a∈l) (h2:(∀g∈l,g≤b)∧b∈l):va l n=0↔a=b:=by
  show vr (px l) n=0↔a=b
  constructor
  · intro h
    have k:=vr_zero h
    obtain ⟨i,hi,ei⟩:=mem_getDG (d:=0) h1.2
    obtain ⟨j,hj,ej⟩:=mem_getDG (d:=0) h2.2
    have:=k i j (by omega) (by omega)
    unfold px at this;rw [ei,ej] at this;exact this
  · intro h
    refine vr_const (a:=a) fun i hi=> ?_
    have m:=getD_memG (l:=l) (i:=i) (d:=0) (by omega)
    have:=h1.1 _ m;have:=h2.1 _ m
    unfold px;omega
theorem rok_cut {l:List Int} {w h n y x pw ph:Nat} {m:Int} (k:Bl.rok (w:Int) h m l) (hn:l.length=n) (hwh:n=w*h) (hx:x+pw≤w) (hy:y+ph≤h) (hp:1≤pw) (hq:1≤ph):Bl.rok (pw:Int) ph m (cutL l w y x pw ph):=by
  have hc:=cutL_len hn hwh hx hy (Nat.le_refl ph)
  refine ⟨by have:=k.1;omega,by have:=k.2.1;omega,k.2.2.1,by rw [hc,Int.natCast_mul],?_⟩
  rintro ⟨g,hg,hb⟩
  obtain ⟨i,hi,e⟩:=mem_getDG (d:=0) hg
  have:=cutL_b hn hwh hx hy (m:=m) hp (fun j hj=>by
    have hm:=getD_memG (l:=l) (i:=j) (d:=0) (by omega)
    have:¬(l.getD j 0<0∨m<l.getD j 0):=fun e=>k.2.2.2.2 ⟨_,hm,e⟩
    omega) (k:=i) (by omega)
  rw [e] at this;omega
theorem stp_ge {f:Int→Int→Option Rat} {a:Pk} {x y:Int}:(a.isSome=true→(stp f a x y).isSome=true∧pQ a≤pQ (stp f a x y))∧(∀q,f x y=some q→(stp f a x y).isSome=true∧q≤pQ (stp f a x y)):=by
  unfold stp
  cases hf:f x y with
  |none=>exact ⟨fun h=>⟨h,Rat.le_refl⟩,fun q e=>by cases e⟩
  |some q=>
    by_cases h:a.isSome=false∨pQ a<q
    · simp only [if_pos h]
      exact ⟨fun k=>⟨rfl,by rcases h with h|h;rw [h] at k;cases k;exact Rat.le_of_lt h⟩,fun r e=>by cases e;exact ⟨rfl,Rat.le_refl⟩⟩
    · simp only [if_neg h]
      refine ⟨fun k=>⟨k,Rat.le_refl⟩,fun r e=> ?_⟩
      obtain rfl:=Option.some.inj e
      refine ⟨?_,?_⟩
      · cases hs : a.isSome with
        |true=>rfl
        |false=>exact absurd (.inl hs) h
      · exact Rat.not_lt.1 fun k=>h (.inr k)
theorem rowP_ge {f:Int→Int→Option Rat} {le y:Int} {a:Pk} (k:Nat):(a.isSome=true→(rowP f le y a k).isSome=true∧pQ a≤pQ (rowP f le y a k))∧(∀i,i<k→∀q,f (le+(i:Nat)) y=some q→(rowP f le y a k).isSome=true∧q≤pQ (rowP f le y a k)):=by
  induction k with
  |zero=>exact ⟨fun h=>⟨h,Rat.le_refl⟩,fun i hi=>by omega⟩
  |succ k ih=>
    obtain ⟨s1,s2⟩:=stp_ge (f:=f) (a:=rowP f le y a k) (x:=le+(k:Nat)) (y:=y)
    refine ⟨fun h=> ?_,fun i hi q e=> ?_⟩
    · obtain ⟨a1, a2⟩ := ih.1 h
      obtain ⟨b1,b2⟩:=s1 a1
      exact ⟨b1,Rat.le_trans a2 b2⟩
    · by_cases hk : i = k
      · subst hk;exact s2 q e
      · obtain ⟨a1, a2⟩ := ih.2 i (by omega) q e
        obtain ⟨b1,b2⟩:=s1 a1
        exact ⟨b1,Rat.le_trans a2 b2⟩
theorem allP_ge {f:Int→Int→Option Rat} {le tp:Int} {k:Nat} (n:Nat):∀j,j<n→∀i,i<k→∀q,f (le+(i:Nat)) (tp+(j:Nat))=some q→(allP f le tp k n).isSome=true∧q≤pQ (allP f le tp k n):=by
  induction n with
  |zero=>intro j hj;omega
  |succ n ih=>
    intro j hj i hi q e
    obtain ⟨s1,s2⟩:=rowP_ge (f:=f) (le:=le) (y:=tp+(n:Nat)) (a:=allP f le tp k n) k
    by_cases hk:j=n
    · subst hk;exact s2 i hi q e
    · obtain ⟨a1, a2⟩ := ih j (by omega) i hi q e
      obtain ⟨b1,b2⟩:=s1 a1
      exact ⟨b1,Rat.le_trans a2 b2⟩
theorem allP_le {f:Int→Int→Option Rat} {u:Rat} (h:∀x y q,f x y=some q→q≤u) (hu:0≤u) (le tp:Int) (k n:Nat):pQ (allP f le tp k n)≤u:=by
  have hr:∀(y:Int) (a:Pk) (i:Nat),pQ a≤u→pQ (rowP f le y a i)≤u:=fun y a i ha=>by
    induction i with
    |zero=>exact ha
    |succ i ih=>
      rw [rowP];unfold stp
      split
      · exact ih
      · rename_i q e; split
        · exact h _ _ _ e
        · exact ih
  induction n with
  |zero=>exact hu
  |succ n ih=>exact hr _ _ _ ih
theorem best_own {l:List Int} {w h n y x pw ph:Nat} (hn:l.length=n) (hwh:n=w*h) (hx:x+pw≤w) (hy:y+ph≤h) (hp:0<pw) (hv:¬va (cutL l w y x pw ph) (pw*ph)=0):
    (best (cutL l w y x pw ph) l pw ph w h).isSome=true∧pQ (best (cutL l w y x pw ph) l pw ph w h)=1:=by
  have hc:=cutL_len hn hwh hx hy (Nat.le_refl ph)
  have hpos:pos (pw:Int) ph w h x y:=⟨by omega,by omega,by omega,by omega⟩
  have e:=pat_some (l2:=l) hc hpos
  rw [Int.toNat_natCast,Int.toNat_natCast,scr_own hn hwh hx hy hp rfl,if_neg hv] at e
  have g:=allP_ge (f:=pat (cutL l w y x pw ph) l pw ph w h) (le:=0) (tp:=0) (k:=((w:Int) - 0+1).toNat) ((h:Int) - 0+1).toNat y (by omega) x (by omega) 1 (by rw [Int.zero_add,Int.zero_add];exact e)
  have u:pQ (best (cutL l w y x pw ph) l pw ph w h)≤1:=allP_le (fun x' y' q e=>by
    by_cases hq:pos (pw:Int) ph w h x' y'
    · rw [pat_some hc hq] at e; obtain rfl := Option.some.inj e
      exact (scr_rng rfl hp).1
    · rw [pat_none hq] at e;cases e) (by decide) _ _ _ _
  exact ⟨g.1,Rat.le_antisymm u g.2⟩
end Go.Proofs.Ytkamccndgblheaa.Cr
namespace Go.Proofs.Ytkamccndgblheaa.Sp
open Go
set_option linter.unusedVariables false
set_option maxRecDepth 100000
set_option maxHeartbeats 1000000
theorem zyf {p:Option Addr} {n:Nat} {cap:Nat} {l:List Gr} (hn:l.length=n):Con Try.prog 8 [.slice p n cap] [] [slF rG p cap l] (Y:=Unit) (fun y=>True) (fun y=> .bool (decide (∀g∈l,g.n≤150))) (fun y=>[]) (fun y=>[]):=by
 refine zo Try.func8 rfl rfl rfl (fun c=> ?_)
 show RunC _ _ _ _ _ [(0,.slice p n cap)] [] [slF rG p cap l]
 refine zV 0 rfl (fun hL0=> ?_)
 refine zh<|zb<|r_pv rfl rfl (zc rfl)<|zj<|zd<|zh<|zh<|zb<|r_pv rfl rfl (za rfl)<|r_pv rfl rfl (zN Try.underlying56 rfl)<|r_pv rfl rfl (za rfl)<|zj<|zd<|zA<|zja (X:=Nat) (fun x:Nat=>x≤n∧∀j,j<x→(l.getD j gr0).n≤150) (fun x=>[(7,.int .i64 ((x:Nat):Int)),(6,.int .i64 ((n:Nat):Int)),(5,.slice p n cap)]) (fun x=>[]) (fun x=>[slF rG p cap l]) (fun x:Nat=>n - x) 0 (show 0≤n∧∀j,j<0→(l.getD j gr0).n≤150 from by exact ⟨by omega,fun j h=>by omega⟩) ((.e rfl (by first|rfl|(congr 1;omega)|simp_all) (.c rfl (.c rfl .n))):SubM _ _) (ho:=(.n:PickO _ _ _)) ((.c (j:=0) rfl .n):SelR _ _ _) ?_
 rintro i hI
 replace hI:i≤n∧∀j,j<i→(l.getD j gr0).n≤150:=hI
 try dsimp only
 obtain ⟨hi,hall⟩:=hI
 refine zh<|zb<|r_pv rfl rfl (zda rfl rfl)<|zj<|zd<|zh<|zG rfl (fun h1=> ?_) (fun h1=> ?_)
 ·
  refine zC<|zd<|zh<|zA<|zh<|zb<|zO (x0:=(l.getD i gr0)) 0 i rfl Try.underlying56 sz24 rfl rfl rfl (by first|rfl|assumption|(simp_all;done)|omega) rfl rfl (gD (d:=gr0) (by omega)) (fun b2 o3 hok4=> ?_)
  obtain ⟨hok40,hok41,hok42⟩:=hok4
  replace hok40:=zY.1 hok40
  replace hok41:=zY.1 hok41
  replace hok42:=zY.1 hok42
  refine r_u rfl rfl (zxb (j:=0) 0 ty24 rfl rfl rfl (.take (.take (.take (.take .nil)))))<|zK rfl rfl (zB zr24 rfl) (fun b5=> ?_)
  refine zm 0 rfl rfl rfl rfl rfl sz24 rfl (.take (.take (.take (.take .nil)))) .z<|zj<|zd<|zh<|zb<|r_pv rfl rfl (zf Try.underlying24 rfl sz22 rfl rfl)<|r_u rfl rfl (zi 0 ty22 rfl rfl rfl)<|r_pv rfl rfl (zN Try.underlying22 rfl)<|r_pv rfl rfl (zta rfl rfl)<|zj<|zd<|zG rfl (fun hb=> ?_) (fun hb=> ?_)
  ·
   refine zh<|zb<|r_pv rfl rfl (zc rfl)<|zj<|zd<|zH<|zX<|zn<|zn<|zX<|zn ?_
   exact zy Try.results8 () trivial (zp rfl) (congrArg Value.bool (decide_eq_false (fun k=>by have h9:=k _ (Cr.getD_memG (l:=l) (i:=i) (d:=gr0) (by omega));omega))) (ho:=(.n:PickO _ _ _)) (.n:SelR _ _ _)
  ·
   refine zC<|zT<|zd<|zb<|r_pv rfl rfl (zD (z:=(((i+1):Nat):Int)) rfl rfl (w64 (by omega)))<|r_pv rfl rfl (za rfl)<|zj<|zfa (i+1) (show (i+1)≤n∧∀j,j<(i+1)→(l.getD j gr0).n≤150 from by refine ⟨by omega,fun j hj=> ?_⟩;by_cases e:j=i;subst e;omega;exact hall j (by omega)) (by show n - (i+1)<n - i;omega) ((.of rfl):SubM _ _) (ho:=(.n:PickO _ _ _)) ((.c (j:=1) rfl .n):SelR _ _ _)
 ·
  refine zga<|zl<|zl<|zv<|zd<|zh<|zb<|r_pv rfl rfl (zc rfl)<|zj<|zd<|zH ?_
  exact zy Try.results8 () trivial (zp rfl) (congrArg Value.bool (decide_eq_true (fun g hg=>by obtain ⟨j,hj,e⟩:=Cr.mem_getDG (d:=gr0) hg;have h9:=hall j (by rw [hn] at hj;omega);rw [e] at h9;exact h9))) (ho:=(.n:PickO _ _ _)) (.n:SelR _ _ _)
theorem zkd {p:Option Addr} {n:Nat} {cap:Nat} {l:List Gr} {ls:List (List Int)} (hn:l.length=n) (hls:∀i,i<n→(ls.getD i []).length=(l.getD i gr0).n):Con Try.prog 10 [.slice p n cap] [] [slF rG p cap l,gsF l ls] (Y:=Unit) (fun y=>True) (fun y=> .int .i64 (if (Cr.allok l ls n) then 0 else 1)) (fun y=>[]) (fun y=>[]):=by
 refine zo Try.func10 rfl rfl rfl (fun c=> ?_)
 show RunC _ _ _ _ _ [(0,.slice p n cap)] [] [slF rG p cap l,gsF l ls]
 refine zV 0 rfl (fun hL0=> ?_)
 refine zh<|zb<|r_pv rfl rfl (zc rfl)<|zj<|zd<|zh<|zh<|zb<|r_pv rfl rfl (za rfl)<|r_pv rfl rfl (zN Try.underlying56 rfl)<|r_pv rfl rfl (za rfl)<|zj<|zd<|zA<|zja (X:=Nat) (fun x:Nat=>x≤n∧∀j,j<x→Bl.rok (l.getD j gr0).w (l.getD j gr0).h (l.getD j gr0).m (ls.getD j [])) (fun x=>[(8,.int .i64 ((x:Nat):Int)),(7,.int .i64 ((n:Nat):Int)),(6,.slice p n cap)]) (fun x=>[]) (fun x=>[slF rG p cap l,gsF l ls]) (fun x:Nat=>n - x) 0 (show 0≤n∧∀j,j<0→Bl.rok (l.getD j gr0).w (l.getD j gr0).h (l.getD j gr0).m (ls.getD j []) from by exact ⟨by omega,fun j h=>by omega⟩) ((.e rfl (by first|rfl|(congr 1;omega)|simp_all) (.c rfl (.c rfl .n))):SubM _ _) (ho:=(.n:PickO _ _ _)) ((.of [0,1] rfl):SelR _ _ _) ?_
 rintro i hI
 replace hI:i≤n∧∀j,j<i→Bl.rok (l.getD j gr0).w (l.getD j gr0).h (l.getD j gr0).m (ls.getD j []):=hI
 try dsimp only
 obtain ⟨hi,hall⟩:=hI
 refine zh<|zb<|r_pv rfl rfl (zda rfl rfl)<|zj<|zd<|zh<|zG rfl (fun h1=> ?_) (fun h1=> ?_)
 ·
  refine zC<|zd<|zh<|zA<|zh<|zb<|zO (x0:=(l.getD i gr0)) 0 i rfl Try.underlying56 sz24 rfl rfl rfl (by first|rfl|assumption|(simp_all;done)|omega) rfl rfl (gD (d:=gr0) (by omega)) (fun b2 o3 hok4=> ?_)
  obtain ⟨hok40,hok41,hok42⟩:=hok4
  replace hok40:=zY.1 hok40
  replace hok41:=zY.1 hok41
  replace hok42:=zY.1 hok42
  refine r_u rfl rfl (zxb (j:=0) 0 ty24 rfl rfl rfl (.take (.take (.take (.take .nil)))))<|zK rfl rfl (zB zr24 rfl) (fun b5=> ?_)
  refine zm 0 rfl rfl rfl rfl rfl sz24 rfl (.take (.take (.take (.take .nil)))) .z<|zj<|zd<|zh<|zRb (slF (rI .i64) ((l.getD i gr0).p) ((l.getD i gr0).c) (ls.getD i [])) (gsF_get 2 rfl i (by omega))<|zb<|r_u rfl rfl (ze 0 ty24 rfl rfl (.take (.take (.take (.take .nil)))))<|zP rfl rfl (.c rfl .n) ce23 (zvd (w:=(l.getD i gr0).w) (h:=(l.getD i gr0).h) (m:=(l.getD i gr0).m) (p:=(l.getD i gr0).p) (n:=(l.getD i gr0).n) (cap:=(l.getD i gr0).c) (l:=(ls.getD i [])) (hn:=by first|rfl|assumption|exact hls i (by omega)|omega)) (.c (j:=0) rfl .n)<|r_pv rfl rfl (zc rfl)<|zj<|zd<|zh<|zb<|r_pv rfl rfl (za rfl)<|r_pv rfl rfl (zGa rfl rfl)<|zj<|zd<|zG rfl (fun hb=> ?_) (fun hb=> ?_)
  ·
   refine zh<|zb<|r_pv rfl rfl (za rfl)<|r_pv rfl rfl (zc rfl)<|zj<|zd<|zH<|zX<|zn<|zn<|zX<|zn ?_
   exact zy Try.results10 () trivial (zp rfl) (by rw [if_neg (fun k=>hb (if_pos k)),if_neg (fun k=>hb (if_pos (k i (by omega))))]) (ho:=(.n:PickO _ _ _)) (.n:SelR _ _ _)
  ·
   refine zC<|zT<|zd<|zb<|r_pv rfl rfl (zD (z:=(((i+1):Nat):Int)) rfl rfl (w64 (by omega)))<|r_pv rfl rfl (za rfl)<|zj<|zfa (i+1) (show (i+1)≤n∧∀j,j<(i+1)→Bl.rok (l.getD j gr0).w (l.getD j gr0).h (l.getD j gr0).m (ls.getD j []) from by refine ⟨by omega,fun j hj=> ?_⟩;by_cases e:j=i;subst e;exact Bl.c0.1 (Decidable.not_not.1 hb);exact hall j (by omega)) (by show n - (i+1)<n - i;omega) ((.of rfl):SubM _ _) (ho:=(.n:PickO _ _ _)) ((.of [2,3] rfl):SelR _ _ _)
 ·
  refine zga<|zl<|zl<|zv<|zd<|zh<|zb<|r_pv rfl rfl (zc rfl)<|zj<|zd<|zH ?_
  exact zy Try.results10 () trivial (zp rfl) (by rw [if_pos (show (Cr.allok l ls n) from fun j hj=>hall j (by omega))]) (ho:=(.n:PickO _ _ _)) (.n:SelR _ _ _)
end Go.Proofs.Ytkamccndgblheaa.Sp
namespace Go.Proofs.Ytkamccndgblheaa.Sp
open Go
set_option linter.unusedVariables false
set_option maxRecDepth 100000
set_option maxHeartbeats 1000000
theorem zRe:Con Try.prog 7 [] [] [] (Y:=Unit) (fun y=>True) (fun y=> .bool true) (fun y=>[]) (fun y=>[]):=by
 refine zo Try.func7 rfl rfl rfl (fun c=> ?_)
 show RunC _ _ _ _ _ [] [] []
 refine zh<|zb<|r_pv rfl rfl (zc rfl)<|zj<|zd<|zh<|zb<|zva rfl rfl (zQ (enc:=fun z:Int=>[.int .i64 z]) (ok:=InK .i64) (h1:=fun _=>rfl) (h2:=fun _=>rfl) (k:=2) Try.underlying22 inf3 rfl (by decide) (by decide) (by decide) (.c (x:=1) rfl rfl (fun _ _=>by exact zY.2 (by omega)) (.c (x:=3) rfl rfl (fun _ _=>by exact zY.2 (by omega)) .n))) (fun b1 _=> ?_)
 refine r_pv rfl rfl (zJ zr24 rfl Try.underlying24 (.c sz3 (.c sz3 (.c sz3 (.c sz22 .n)))) (.c rfl (.c rfl (.c rfl (.c rfl .n)))) (.c rfl rfl rfl (.take .nil) (.c rfl rfl rfl (.skip (.take .nil)) (.c rfl rfl rfl (.skip (.skip (.take .nil))) (.c rfl rfl rfl (.skip (.skip (.skip (.take .nil)))) .n)))))<|zva rfl rfl (zQ (enc:=fun z:Int=>[.int .i64 z]) (ok:=InK .i64) (h1:=fun _=>rfl) (h2:=fun _=>rfl) (k:=3) Try.underlying22 inf3 rfl (by decide) (by decide) (by decide) (.c (x:=2) rfl rfl (fun _ _=>by exact zY.2 (by omega)) (.c (x:=4) rfl rfl (fun _ _=>by exact zY.2 (by omega)) (.c (x:=3) rfl rfl (fun _ _=>by exact zY.2 (by omega)) .n)))) (fun b2 _=> ?_)
 refine r_pv rfl rfl (zJ zr24 rfl Try.underlying24 (.c sz3 (.c sz3 (.c sz3 (.c sz22 .n)))) (.c rfl (.c rfl (.c rfl (.c rfl .n)))) (.c rfl rfl rfl (.take .nil) (.c rfl rfl rfl (.skip (.take .nil)) (.c rfl rfl rfl (.skip (.skip (.take .nil))) (.c rfl rfl rfl (.skip (.skip (.skip (.take .nil)))) .n)))))<|zK rfl rfl (zB zr24 rfl) (fun b3=> ?_)
 refine zK rfl rfl (zB zr24 rfl) (fun b4=> ?_)
 refine zm 1 rfl rfl rfl rfl rfl sz24 rfl (.take (.take (.take (.take .nil)))) (.s .z)<|zm 0 rfl rfl rfl rfl rfl sz24 rfl (.take (.take (.take (.take .nil)))) .z<|zj<|zd<|zh<|zb<|r_u rfl rfl (ze 1 ty24 rfl rfl (.take (.take (.take (.take .nil)))))<|r_u rfl rfl (ze 0 ty24 rfl rfl (.take (.take (.take (.take .nil)))))<|zha 3 rfl (.s (.s (.s .z)))<|zha 2 rfl (.s (.s .z))<|zx rfl rfl (.c rfl (.c rfl (.c rfl (.c rfl .n)))) ce12 (zjd (wi1:=2) (hi1:=1) (m1:=9) (p1:=some ⟨b1,0,none⟩) (n1:=2) (c1:=2) (l1:=[1,3]) (wi2:=3) (hi2:=1) (m2:=9) (p2:=some ⟨b2,0,none⟩) (n2:=3) (c2:=3) (l2:=[2,4,3]) (ex:=1) (ey:=0) (hn1:=by first|rfl|assumption|omega|decide|(decide +kernel)) (hn2:=by first|rfl|assumption|omega|decide|(decide +kernel))) (.c (j:=1) rfl (.c (j:=0) rfl .n)) ?_
 rintro ⟨w35,w46⟩ hy7
 dsimp only [List.append_eq,List.nil_append,List.cons_append]
 replace hy7:(Cr.sok 2 1 9 ([1,3]) 3 1 9 ([2,4,3]) 1 0)∨(w35=wz∧w46=wz):=hy7
 have e8:((if (Cr.rk2 2 1 9 ([1,3]) 3 1 9 ([2,4,3])) then (if (Cr.pos 2 1 3 1 1 0) then 0 else 15) else 1):Int)=0:=by decide +kernel
 rw [e8]
 have e9:((if (Cr.sok 2 1 9 ([1,3]) 3 1 9 ([2,4,3]) 1 0) then (Cr.scq ([1,3]) ([2,4,3]) 2 1 3 1 0) else 0):Rat)=((-1:Int):Rat):=by decide +kernel
 rw [e9]
 have e10:(decide (Cr.sok 2 1 9 ([1,3]) 3 1 9 ([2,4,3]) 1 0))=true:=by decide +kernel
 rw [e10]
 refine r_pv rfl rfl (za rfl)<|r_pv rfl rfl (zq rfl rfl)<|r_pv rfl rfl (zq rfl rfl)<|zK rfl rfl (zB zr40 rfl) (fun b11=> ?_)
 refine zm 0 rfl rfl rfl rfl rfl sz40 rfl (.take (.take (.take (.take .nil)))) .z<|r_pv rfl rfl (zc rfl)<|zj<|zd<|zh<|zb<|r_u rfl rfl (ze 2 ty24 rfl rfl (.take (.take (.take (.take .nil)))))<|r_u rfl rfl (ze 1 ty24 rfl rfl (.take (.take (.take (.take .nil)))))<|zx rfl rfl (.c rfl (.c rfl .n)) ce16 (zZd (wi1:=2) (hi1:=1) (m1:=9) (p1:=some ⟨b1,0,none⟩) (n1:=2) (c1:=2) (l1:=[1,3]) (wi2:=3) (hi2:=1) (m2:=9) (p2:=some ⟨b2,0,none⟩) (n2:=3) (c2:=3) (l2:=[2,4,3]) (hn1:=by first|rfl|assumption|omega|decide|(decide +kernel)) (hn2:=by first|rfl|assumption|omega|decide|(decide +kernel))) (.c (j:=2) rfl (.c (j:=1) rfl .n)) ?_
 rintro ⟨w312,w413⟩ hy14
 dsimp only [List.append_eq,List.nil_append,List.cons_append]
 replace hy14:((if (Cr.rk2 2 1 9 ([1,3]) 3 1 9 ([2,4,3])) then Cr.best ([1,3]) ([2,4,3]) 2 1 3 1 else none).isSome=false→w312=wz∧w413=wz)∧Big.hq (Cr.pQ (if (Cr.rk2 2 1 9 ([1,3]) 3 1 9 ([2,4,3])) then Cr.best ([1,3]) ([2,4,3]) 2 1 3 1 else none))≤6:=hy14
 have e15:((if (Cr.rk2 2 1 9 ([1,3]) 3 1 9 ([2,4,3])) then (if (if (Cr.rk2 2 1 9 ([1,3]) 3 1 9 ([2,4,3])) then Cr.best ([1,3]) ([2,4,3]) 2 1 3 1 else none).isSome then 0 else 6) else 1):Int)=0:=by decide +kernel
 rw [e15]
 have e16:((Cr.pX (if (Cr.rk2 2 1 9 ([1,3]) 3 1 9 ([2,4,3])) then Cr.best ([1,3]) ([2,4,3]) 2 1 3 1 else none)):Int)=0:=by decide +kernel
 rw [e16]
 have e17:((Cr.pY (if (Cr.rk2 2 1 9 ([1,3]) 3 1 9 ([2,4,3])) then Cr.best ([1,3]) ([2,4,3]) 2 1 3 1 else none)):Int)=0:=by decide +kernel
 rw [e17]
 have e18:((Cr.pQ (if (Cr.rk2 2 1 9 ([1,3]) 3 1 9 ([2,4,3])) then Cr.best ([1,3]) ([2,4,3]) 2 1 3 1 else none)):Rat)=((1:Int):Rat):=by decide +kernel
 rw [e18]
 have e19:(if (Cr.rk2 2 1 9 ([1,3]) 3 1 9 ([2,4,3])) then Cr.best ([1,3]) ([2,4,3]) 2 1 3 1 else none).isSome=true:=by decide +kernel
 rw [e19]
 refine r_pv rfl rfl (za rfl)<|r_pv rfl rfl (zq rfl rfl)<|r_pv rfl rfl (zq rfl rfl)<|r_pv rfl rfl (zq rfl rfl)<|r_pv rfl rfl (zq rfl rfl)<|zK rfl rfl (zB zr40 rfl) (fun b20=> ?_)
 refine r_pv rfl rfl (zc rfl)<|r_pv rfl rfl (zc rfl)<|zm 0 rfl rfl rfl rfl rfl sz40 rfl (.take (.take (.take (.take .nil)))) .z<|r_pv rfl rfl (zc rfl)<|zj<|zd<|zh<|zb<|r_u rfl rfl (ze 2 ty24 rfl rfl (.take (.take (.take (.take .nil)))))<|zx rfl rfl (.c rfl .n) ce9 (zCd (wi1:=3) (hi1:=1) (m1:=9) (p1:=some ⟨b2,0,none⟩) (n1:=3) (c1:=3) (l1:=[2,4,3]) (hn1:=by first|rfl|assumption|omega|decide|(decide +kernel))) (.c (j:=2) rfl .n) ?_
 rintro ⟨p321,kq,c322,rq⟩ hsq
 dsimp only [List.append_eq,List.nil_append,List.cons_append]
 replace hsq:rq.length=kq∧(rq=if Bl.rok 3 1 9 ([2,4,3]) then Cr.tab (Cr.sq ([2,4,3])) (Int.toNat 3) (Int.toNat 1+1) else []):=hsq
 have e23:((if Bl.rok 3 1 9 ([2,4,3]) then 0 else 1):Int)=0:=by decide +kernel
 rw [e23]
 have e24:Cr.exT=rq:=by rw [hsq.2];decide +kernel
 subst e24
 have e25:2=kq:=by exact hsq.1
 subst e25
 refine r_pv rfl rfl (za rfl)<|r_pv rfl rfl (zq rfl rfl)<|r_pv rfl rfl (zq rfl rfl)<|r_pv rfl rfl (zc rfl)<|r_pv rfl rfl (zc rfl)<|zj<|zd<|zh<|zZ (OW:=[]) (O:=[boxA b20 40 [w312.b,w312.l,w413.b,w413.l],boxA b11 40 [w35.b,w35.l,w46.b,w46.l],boxA b4 24 [.int .i64 3,.int .i64 1,.int .i64 9,.slice (some ⟨b2,0,none⟩) 3 3],boxA b3 24 [.int .i64 2,.int .i64 1,.int .i64 9,.slice (some ⟨b1,0,none⟩) 2 2],emA,emA]) 100000 mixed (.then .ret) (by kernel_rfl)<|d_pv 0 rfl rfl (by kernel_rfl) (by kernel_rfl) rfl rfl (za rfl)<|d_pv 1 rfl rfl (by kernel_rfl) (by kernel_rfl) rfl rfl (zxa rfl rfl) ?_
 rw [show true=true from by decide]
 refine d_pv 2 rfl rfl (by kernel_rfl) (by kernel_rfl) rfl rfl (za rfl)<|d_pv 3 rfl rfl (by kernel_rfl) (by kernel_rfl) rfl rfl (za rfl)<|d_pv 4 rfl rfl (by kernel_rfl) (by kernel_rfl) rfl rfl (zxa rfl rfl)<|d_pv 5 rfl rfl (by kernel_rfl) (by kernel_rfl) rfl rfl (zw rfl rfl) ?_
 rw [show true=true from by decide]
 refine d_pv 6 rfl rfl (by kernel_rfl) (by kernel_rfl) rfl rfl (za rfl)<|d_pv 7 rfl rfl (by kernel_rfl) (by kernel_rfl) rfl rfl (za rfl)<|d_pv 8 rfl rfl (by kernel_rfl) (by kernel_rfl) rfl rfl (zxa rfl rfl)<|d_pv 9 rfl rfl (by kernel_rfl) (by kernel_rfl) rfl rfl (zw rfl rfl) ?_
 rw [show true=true from by decide]
 refine d_pv 10 rfl rfl (by kernel_rfl) (by kernel_rfl) rfl rfl (za rfl)<|d_pv 11 rfl rfl (by kernel_rfl) (by kernel_rfl) rfl rfl (za rfl)<|d_pv 12 rfl rfl (by kernel_rfl) (by kernel_rfl) rfl rfl (zxa rfl rfl)<|d_pv 13 rfl rfl (by kernel_rfl) (by kernel_rfl) rfl rfl (zw rfl rfl) ?_
 rw [show true=true from by decide]
 refine d_pv 14 rfl rfl (by kernel_rfl) (by kernel_rfl) rfl rfl (za rfl)<|d_pv 15 rfl rfl (by kernel_rfl) (by kernel_rfl) rfl rfl (za rfl)<|d_pv 16 rfl rfl (by kernel_rfl) (by kernel_rfl) rfl rfl (zxa rfl rfl)<|d_pv 17 rfl rfl (by kernel_rfl) (by kernel_rfl) rfl rfl (zw rfl rfl) ?_
 rw [show true=true from by decide]
 refine d_pv 18 rfl rfl (by kernel_rfl) (by kernel_rfl) rfl rfl (za rfl)<|d_u 19 rfl rfl (by kernel_rfl) (by kernel_rfl) rfl rfl (ze 1 ty40 rfl rfl (.take (.take (.take (.take .nil)))))<|zI 20 (by kernel_rfl) (zE rfl rfl rfl rfl (.c rfl .n) ce17 (zib (z:=(-1)) (hz:=by first|rfl|assumption|omega|decide|(decide +kernel))) (.n) ?_)
 rintro ⟨w326,w427⟩ -
 dsimp only [List.append_eq,List.nil_append,List.cons_append]
 refine zI 21 (by kernel_rfl) (zRa rfl rfl rfl rfl (.c rfl (.c rfl .n)) ce14 (zjb (u1:=w35) (v1:=w46) (q1:=((-1:Int):Rat)) (u2:=w326) (v2:=w427) (q2:=(((-1):Int):Rat)) (hl:=by first|rfl|assumption|omega|decide|(decide +kernel))) (.c (j:=3) rfl (.c (j:=0) rfl .n)) ?_)
 refine d_pv 22 rfl rfl (by kernel_rfl) (by kernel_rfl) rfl rfl (zw rfl rfl) ?_
 rw [show (decide (((-1:Int):Rat)=(((-1):Int):Rat)))=true from by decide +kernel]
 refine d_pv 23 rfl rfl (by kernel_rfl) (by kernel_rfl) rfl rfl (za rfl)<|d_u 24 rfl rfl (by kernel_rfl) (by kernel_rfl) rfl rfl (ze 0 ty40 rfl rfl (.take (.take (.take (.take .nil)))))<|zI 25 (by kernel_rfl) (zE rfl rfl rfl rfl (.c rfl .n) ce17 (zib (z:=1) (hz:=by first|rfl|assumption|omega|decide|(decide +kernel))) (.n) ?_)
 rintro ⟨w328,w429⟩ -
 dsimp only [List.append_eq,List.nil_append,List.cons_append]
 refine zI 26 (by kernel_rfl) (zRa rfl rfl rfl rfl (.c rfl (.c rfl .n)) ce14 (zjb (u1:=w312) (v1:=w413) (q1:=((1:Int):Rat)) (u2:=w328) (v2:=w429) (q2:=((1:Int):Rat)) (hl:=by first|rfl|assumption|omega|decide|(decide +kernel))) (.c (j:=3) rfl (.c (j:=0) rfl .n)) ?_)
 refine d_pv 27 rfl rfl (by kernel_rfl) (by kernel_rfl) rfl rfl (zw rfl rfl) ?_
 rw [show (decide (((1:Int):Rat)=((1:Int):Rat)))=true from by decide +kernel]
 refine d_pv 28 rfl rfl (by kernel_rfl) (by kernel_rfl) rfl rfl (za rfl)<|d_pv 29 rfl rfl (by kernel_rfl) (by kernel_rfl) rfl rfl (za rfl)<|d_pv 30 rfl rfl (by kernel_rfl) (by kernel_rfl) rfl rfl (zN Try.underlying27 rfl)<|d_pv 31 rfl rfl (by kernel_rfl) (by kernel_rfl) rfl rfl (zxa rfl rfl)<|d_pv 32 rfl rfl (by kernel_rfl) (by kernel_rfl) rfl rfl (zw rfl rfl) ?_
 rw [show (decide (((2:Nat):Int)=2))=true from by decide]
 refine d_pv 33 rfl rfl (by kernel_rfl) (by kernel_rfl) rfl rfl (za rfl)<|d_pv 34 rfl rfl (by kernel_rfl) (by kernel_rfl) rfl rfl (za rfl)<|d_vl 35 rfl rfl (by kernel_rfl) (by kernel_rfl) rfl rfl (zlb (x0:=(Cr.exT.getD 1 [])) 2 1 rfl Try.underlying27 sz22 rfl (by first|rfl|assumption|(simp_all;done)|omega) rfl rfl (gD (d:=[]) (by first|omega|decide))) ?_
 rintro ⟨b30,o31,p32,c33⟩ -
 dsimp only [List.append_eq,List.nil_append,List.cons_append]
 refine d_u 36 rfl rfl (by kernel_rfl) (by kernel_rfl) rfl rfl (zk (j:=0) 0 ty22 rfl rfl rfl rfl)<|zI 37 (by kernel_rfl) (znf rfl rfl rfl rfl (zQ (enc:=fun z:Int=>[.int .i64 z]) (ok:=InK .i64) (h1:=fun _=>rfl) (h2:=fun _=>rfl) (k:=4) Try.underlying22 inf3 rfl (by decide) (by decide) (by decide) (.c (x:=0) rfl rfl (fun _ _=>by exact zY.2 (by omega)) (.c (x:=4) rfl rfl (fun _ _=>by exact zY.2 (by omega)) (.c (x:=20) rfl rfl (fun _ _=>by exact zY.2 (by omega)) (.c (x:=29) rfl rfl (fun _ _=>by exact zY.2 (by omega)) .n))))) (fun b34 _=> ?_))
 refine zHd 0 rfl .z<|zI 38 (by kernel_rfl) (zRa rfl rfl rfl rfl (.c rfl (.c rfl .n)) ce20 (zze (p1:=p32) (n1:=(Cr.exT.getD 1 []).length) (c1:=c33) (l1:=(Cr.exT.getD 1 [])) (p2:=some ⟨b34,0,none⟩) (n2:=4) (c2:=4) (l2:=[0,4,20,29]) (hn1:=by first|rfl|assumption|omega|decide|(decide +kernel)) (hn2:=by first|rfl|assumption|omega|decide|(decide +kernel))) (.c (j:=2) rfl (.c (j:=0) rfl .n)) ?_)
 refine d_pv 39 rfl rfl (by kernel_rfl) (by kernel_rfl) rfl rfl (zw rfl rfl) ?_
 rw [show (decide ((Cr.exT.getD 1 [])=([0,4,20,29])))=true from by decide +kernel]
 refine d_pv 40 rfl rfl (by kernel_rfl) (by kernel_rfl) rfl rfl (zc rfl)<|zW (by kernel_rfl)<|zd<|zH ?_
 exact zy Try.results7 () trivial (zp rfl) rfl (ho:=(.n:PickO _ _ _)) (.n:SelR _ _ _)
end Go.Proofs.Ytkamccndgblheaa.Sp
namespace Go.Proofs.Ytkamccndgblheaa.Sp
open Go
set_option linter.unusedVariables false
set_option maxRecDepth 100000
set_option maxHeartbeats 1000000
theorem zSe {w2:Nat} {vh2:Nat} {m2:Int} {p2:Option Addr} {n2:Nat} {c2:Nat} {l2:List Int} {xx:Nat} {yy:Nat} {pw:Nat} {ph:Nat} (hn2:l2.length=n2) (hw2:1≤w2∧w2≤64) (hh2:1≤vh2∧vh2≤64) (hwh2:n2=w2*vh2) (hb2:n2≤4096) (hg2:∀i,i<n2→0≤l2.getD i 0∧l2.getD i 0≤65535) (hx:xx+pw≤w2) (hy:yy+ph≤vh2):Con Try.prog 15 [.agg #[.int .i64 ((w2:Nat):Int),.int .i64 ((vh2:Nat):Int),.int .i64 m2,.slice p2 n2 c2],.int .i64 ((xx:Nat):Int),.int .i64 ((yy:Nat):Int),.int .i64 ((pw:Nat):Int),.int .i64 ((ph:Nat):Int)] [] [slF (rI .i64) p2 c2 l2] (Y:=(Option Addr)×Nat) (fun y=>True) (fun y=> .agg #[.int .i64 ((pw:Nat):Int),.int .i64 ((ph:Nat):Int),.int .i64 m2,.slice (y.1) (pw*ph) (y.2)]) (fun y=>[]) (fun y=>[slF (rI .i64) (y.1) (y.2) (Cr.cutL l2 w2 yy xx pw ph)]):=by
 refine zo Try.func15 rfl rfl rfl (fun c=> ?_)
 show RunC _ _ _ _ _ [(0,.agg #[.int .i64 ((w2:Nat):Int),.int .i64 ((vh2:Nat):Int),.int .i64 m2,.slice p2 n2 c2]),(1,.int .i64 ((xx:Nat):Int)),(2,.int .i64 ((yy:Nat):Int)),(3,.int .i64 ((pw:Nat):Int)),(4,.int .i64 ((ph:Nat):Int))] [] [slF (rI .i64) p2 c2 l2]
 refine zV 0 rfl (fun hL0=> ?_)
 refine zh<|zb<|zK rfl rfl (zU rfl rfl) (fun b1=> ?_)
 refine zK rfl rfl (zB zr24 rfl) (fun b2=> ?_)
 refine zj<|zd<|zh<|zb<|r_pv rfl rfl (za rfl)<|r_pv rfl rfl (za rfl)<|r_pv rfl rfl (zf Try.underlying24 rfl sz3 rfl rfl)<|r_u rfl rfl (zi 1 ty3 rfl rfl rfl)<|r_pv rfl rfl (zJ zr24 rfl Try.underlying24 (.c sz3 (.c sz3 (.c sz3 (.c sz22 .n)))) (.c rfl (.c rfl (.c rfl .n))) (.c rfl rfl rfl (.take .nil) (.c rfl rfl rfl (.skip (.take .nil)) (.c rfl rfl rfl (.skip (.skip (.take .nil))) .n))))<|zK rfl rfl (zB zr24 rfl) (fun b3=> ?_)
 refine zm 0 rfl rfl rfl rfl rfl sz24 rfl (.take (.take (.take (.take .nil)))) .z<|zj<|zd<|zh<|zh<|zId 3 (rI .i64)<|zb<|r_pv rfl rfl (za rfl)<|r_pv rfl rfl (za rfl)<|zj<|zd<|zA<|zja (X:=Nat×(Option Addr)×Nat) (fun x:Nat×(Option Addr)×Nat=>x.1≤ph) (fun x=>[(19,.int .i64 ((x.1:Nat):Int)),(18,.int .i64 ((ph:Nat):Int)),(11,.pointer (some ⟨b3,0,none⟩)),(10,.pointer (some ⟨b2,0,none⟩)),(5,.pointer (some ⟨b1,0,none⟩)),(1,.int .i64 ((xx:Nat):Int)),(2,.int .i64 ((yy:Nat):Int)),(3,.int .i64 ((pw:Nat):Int))]) (fun x=>[rowA 3 (rI .i64) (x.2.1) (x.2.2) (Cr.cutL l2 w2 yy xx pw x.1),boxA b3 24 [.int .i64 ((pw:Nat):Int),.int .i64 ((ph:Nat):Int),.int .i64 m2,.slice (x.2.1) (pw*x.1) (x.2.2)],boxA b2 24 [.int .i64 0,.int .i64 0,.int .i64 0,.slice none 0 0],boxA b1 24 [.int .i64 ((w2:Nat):Int),.int .i64 ((vh2:Nat):Int),.int .i64 m2,.slice p2 n2 c2]]) (fun x=>[slF (rI .i64) p2 c2 l2]) (fun x:Nat×(Option Addr)×Nat=>ph - x.1) (0,none,0) (show 0≤ph from by exact Nat.zero_le _) ((.e rfl (by first|rfl|(congr 1;omega)|simp_all) (.of rfl)):SubM _ _) (ho:=((.e (i:=0) rfl (by first|rfl|(congr 1;omega)|simp_all) (.e (i:=0) rfl (by first|rfl|(congr 1;omega)|simp_all) (.of [0,0] rfl))):PickO _ _ _)) ((.c (j:=0) rfl .n):SelR _ _ _) ?_
 rintro ⟨jj,pr,cr⟩ hI
 replace hI:jj≤ph:=hI
 try dsimp only
 refine zh<|zb<|r_pv rfl rfl (zda rfl rfl)<|zj<|zd<|zh<|zG rfl (fun h4=> ?_) (fun h4=> ?_)
 ·
  have hcl:=Cr.cutL_len hn2 hwh2 hx hy (show jj≤ph by omega)
  have hri:=Cr.row_in hn2 hwh2 hx hy (show jj<ph by omega)
  have hyw:(yy+jj)*w2≤64*64:=Nat.mul_le_mul (by omega) hw2.2
  have hpj:pw*jj≤64*64:=Nat.mul_le_mul (by omega) (by omega)
  refine zC<|zd<|zh<|zA<|zh<|zb<|r_pv rfl rfl (za rfl)<|r_pv rfl rfl (zc rfl)<|zj<|zd<|zZ (OW:=[rowA 3 (rI .i64) pr cr (Cr.cutL l2 w2 yy xx pw jj),boxA b3 24 [.int .i64 ((pw:Nat):Int),.int .i64 ((ph:Nat):Int),.int .i64 m2,.slice pr (pw*jj) cr]]) (O:=[boxA b2 24 [.int .i64 0,.int .i64 0,.int .i64 0,.slice none 0 0],boxA b1 24 [.int .i64 ((w2:Nat):Int),.int .i64 ((vh2:Nat):Int),.int .i64 m2,.slice p2 n2 c2]]) 23 mixed (.block (.then (.then (.block (.then .ret))))) (by kernel_rfl)<|d_pv 0 rfl rfl (by kernel_rfl) (by kernel_rfl) rfl rfl (zf Try.underlying24 rfl sz22 rfl rfl)<|d_uw 1 rfl rfl (by kernel_rfl) (by kernel_rfl) (by kernel_rfl) rfl rfl (zi 1 ty22 rfl rfl rfl)<|d_pv 2 rfl rfl (by kernel_rfl) (by kernel_rfl) rfl rfl (zf Try.underlying24 rfl sz22 rfl rfl)<|d_uw 3 rfl rfl (by kernel_rfl) (by kernel_rfl) (by kernel_rfl) rfl rfl (zi 3 ty22 rfl rfl rfl)<|d_pv 4 rfl rfl (by kernel_rfl) (by kernel_rfl) rfl rfl (za rfl)<|d_pv 5 rfl rfl (by kernel_rfl) (by kernel_rfl) rfl rfl (za rfl)<|d_pv 6 rfl rfl (by kernel_rfl) (by kernel_rfl) rfl rfl (zD (z:=(((yy+jj):Nat):Int)) rfl rfl (w64 (by omega)))<|d_pv 7 rfl rfl (by kernel_rfl) (by kernel_rfl) rfl rfl (zf Try.underlying24 rfl sz3 rfl rfl)<|d_uw 8 rfl rfl (by kernel_rfl) (by kernel_rfl) (by kernel_rfl) rfl rfl (zi 3 ty3 rfl rfl rfl)<|d_pv 9 rfl rfl (by kernel_rfl) (by kernel_rfl) rfl rfl (zsa (z:=((((yy+jj)*w2):Nat):Int)) rfl rfl (w64 (by omega)))<|d_pv 10 rfl rfl (by kernel_rfl) (by kernel_rfl) rfl rfl (za rfl)<|d_pv 11 rfl rfl (by kernel_rfl) (by kernel_rfl) rfl rfl (zD (z:=(((((yy+jj)*w2)+xx):Nat):Int)) rfl rfl (w64 (by omega)))<|d_pv 12 rfl rfl (by kernel_rfl) (by kernel_rfl) rfl rfl (za rfl)<|d_pv 13 rfl rfl (by kernel_rfl) (by kernel_rfl) rfl rfl (za rfl)<|d_pv 14 rfl rfl (by kernel_rfl) (by kernel_rfl) rfl rfl (zD (z:=(((yy+jj):Nat):Int)) rfl rfl (w64 (by omega)))<|d_pv 15 rfl rfl (by kernel_rfl) (by kernel_rfl) rfl rfl (zf Try.underlying24 rfl sz3 rfl rfl)<|d_uw 16 rfl rfl (by kernel_rfl) (by kernel_rfl) (by kernel_rfl) rfl rfl (zi 3 ty3 rfl rfl rfl)<|d_pv 17 rfl rfl (by kernel_rfl) (by kernel_rfl) rfl rfl (zsa (z:=((((yy+jj)*w2):Nat):Int)) rfl rfl (w64 (by omega)))<|d_pv 18 rfl rfl (by kernel_rfl) (by kernel_rfl) rfl rfl (za rfl)<|d_pv 19 rfl rfl (by kernel_rfl) (by kernel_rfl) rfl rfl (zD (z:=(((((yy+jj)*w2)+xx):Nat):Int)) rfl rfl (w64 (by omega)))<|d_pv 20 rfl rfl (by kernel_rfl) (by kernel_rfl) rfl rfl (za rfl)<|d_pv 21 rfl rfl (by kernel_rfl) (by kernel_rfl) rfl rfl (zD (z:=((((((yy+jj)*w2)+xx)+pw):Nat):Int)) rfl rfl (w64 (by omega)))<|d_pv 22 rfl rfl (by kernel_rfl) (by kernel_rfl) rfl rfl (zCc (lo:=(((yy+jj)*w2)+xx)) (hi:=((((yy+jj)*w2)+xx)+pw)) Try.underlying22 sz3 rfl (.s rfl) (.s rfl) (.inr ⟨_,rfl⟩) (.inr ⟨_,rfl⟩) (by omega) (by omega)) ?_
  refine zyb (zEd 0 rfl (((yy+jj)*w2)+xx) ((((yy+jj)*w2)+xx)+pw) (by omega) (by omega)) (fun _ _=> ?_)
  refine zI 23 (by kernel_rfl) (zae (A':=fun v:Option Addr×Nat=>rowA 3 (rI .i64) v.1 v.2 ((Cr.cutL l2 w2 yy xx pw jj)++((l2.take ((((yy+jj)*w2)+xx)+pw)).drop (((yy+jj)*w2)+xx)))) (by kernel_rfl) rfl rfl rfl (zua 0 rfl Try.underlying22 inf3 (by decide) rfl rfl (by first|rfl|assumption|exact hcl|(rw [hcl];done)|(simp_all;done)|omega) rfl (by first|rfl|assumption|exact hcl|(rw [hcl];done)|(simp_all;done)|omega) (by omega) (by omega)) ?_)
  rintro ⟨p5,c6⟩ -
  dsimp only [List.append_eq,List.nil_append,List.cons_append]
  refine d_pv 24 rfl rfl (by kernel_rfl) (by kernel_rfl) rfl rfl (zf Try.underlying24 rfl sz22 rfl rfl)<|zFa (zka (i:=1) rfl)<|zI 25 (by kernel_rfl) (zz (by kernel_rfl) rfl rfl rfl rfl rfl sz22 rfl (.skip (.skip (.skip (.take .nil)))) ?_)
  refine zW (by kernel_rfl)<|zT<|zd<|zb<|r_pv rfl rfl (zD (z:=(((jj+1):Nat):Int)) rfl rfl (w64 (by omega)))<|r_pv rfl rfl (za rfl)<|zj ?_
  have e7:((Cr.cutL l2 w2 yy xx pw jj)++((l2.take ((((yy+jj)*w2)+xx)+pw)).drop (((yy+jj)*w2)+xx)))=(Cr.cutL l2 w2 yy xx pw (jj+1)):=by rfl
  rw [e7]
  have e8:(pw*jj)+(((((yy+jj)*w2)+xx)+pw) - (((yy+jj)*w2)+xx))=(pw*(jj+1)):=by rw [Nat.mul_add,Nat.mul_one];omega
  rw [e8]
  refine zfa ((jj+1),p5,c6) (show (jj+1)≤ph from by omega) (by show ph - (jj+1)<ph - jj;omega) ((.of rfl):SubM _ _) (ho:=((.of [1,0,0,0] rfl):PickO _ _ _)) ((.c (j:=1) rfl .n):SelR _ _ _)
 ·
  refine zga<|zl<|zl<|zv<|zd<|zh<|zb<|r_u rfl rfl (ze 1 ty24 rfl rfl (.take (.take (.take (.take .nil)))))<|zm 2 rfl rfl rfl rfl rfl sz24 rfl (.take (.take (.take (.take .nil)))) (.s (.s .z))<|zj<|zd<|zH ?_
  have hj9:jj=ph:=by omega
  refine zSa 0 rfl .z ?_
  exact zy Try.results15 (pr,cr) trivial (zr 2 ty24 rfl rfl (.take (.take (.take (.take .nil))))) (by rw [hj9]) (ho:=(.n:PickO _ _ _)) ((.e (j:=0) rfl (by rw [hj9]) .n):SelR _ _ _)
end Go.Proofs.Ytkamccndgblheaa.Sp
namespace Go.Proofs.Ytkamccndgblheaa.Cr
def mnN (l:List Int):Nat→Int
  |0=>l.getD 0 0
  |k+1=>min (mnN l k) (l.getD k 0)
def mxN (l:List Int):Nat→Int
  |0=>l.getD 0 0
  |k+1=>max (mxN l k) (l.getD k 0)
theorem mnN_one (l:List Int):mnN l 1=l.getD 0 0:=by unfold mnN mnN;omega
theorem mxN_one (l:List Int):mxN l 1=l.getD 0 0:=by unfold mxN mxN;omega
theorem mnN_le {l:List Int} {k i:Nat} (h:i<k):mnN l k≤l.getD i 0:=by
  induction k with
  |zero=>omega
  |succ k ih=>
    rw [mnN]
    by_cases e:i=k
    · subst e;omega
    · have:=ih (by omega);omega
theorem mxN_ge {l:List Int} {k i:Nat} (h:i<k):l.getD i 0≤mxN l k:=by
  induction k with
  |zero=>omega
  |succ k ih=>
    rw [mxN]
    by_cases e:i=k
    · subst e;omega
    · have:=ih (by omega);omega
theorem mnN_is {l:List Int} (k:Nat):∃i,(i<k∨i=0)∧mnN l k=l.getD i 0:=by
  induction k with
  |zero=>exact ⟨0,.inr rfl,rfl⟩
  |succ k ih=>
    obtain ⟨i,hi,e⟩:=ih
    rw [mnN]
    by_cases h:mnN l k≤l.getD k 0
    · exact ⟨i,by omega,by rw [← e];omega⟩
    · exact ⟨k,by omega,by omega⟩
theorem mxN_is {l:List Int} (k:Nat):∃i,(i<k∨i=0)∧mxN l k=l.getD i 0:=by
  induction k with
  |zero=>exact ⟨0,.inr rfl,rfl⟩
  |succ k ih=>
    obtain ⟨i,hi,e⟩:=ih
    rw [mxN]
    by_cases h:l.getD k 0≤mxN l k
    · exact ⟨i,by omega,by rw [← e];omega⟩
    · exact ⟨k,by omega,by omega⟩
theorem va_mm {l:List Int} {n:Nat} (hn:l.length=n) (hn0:0<n):va l n=0↔mnN l n=mxN l n:=by
  refine va_zero hn hn0 ⟨fun g hg=> ?_,?_⟩ ⟨fun g hg=> ?_,?_⟩
  · obtain ⟨i,hi,e⟩:=mem_getDG (d:=0) hg;rw [← e];exact mnN_le (by omega)
  · obtain ⟨i,hi,e⟩:=mnN_is (l:=l) n;rw [e];exact getD_memG (by omega)
  · obtain ⟨i,hi,e⟩:=mem_getDG (d:=0) hg;rw [← e];exact mxN_ge (by omega)
  · obtain ⟨i,hi,e⟩:=mxN_is (l:=l) n;rw [e];exact getD_memG (by omega)
theorem best_some {l1 l2:List Int} {w1 h1 w2 h2:Nat} (hn:l1.length=w1*h1) {x y:Nat} (hp:pos (w1:Int) h1 w2 h2 x y):(best l1 l2 w1 h1 w2 h2).isSome=true:=by
  have e:=pat_some (l2:=l2) hn hp
  have b:=hp.2.2.1;have c:=hp.2.2.2
  exact (allP_ge (f:=pat l1 l2 w1 h1 w2 h2) (le:=0) (tp:=0) (k:=((w2:Int) - 0+1).toNat) ((h2:Int) - 0+1).toNat y (by omega) x (by omega) _ (by rw [Int.zero_add,Int.zero_add];exact e)).1
theorem pos_own {w h x y pw ph:Nat} (hx:x+pw≤w) (hy:y+ph≤h):pos (pw:Int) ph w h x y:=⟨by omega,by omega,by omega,by omega⟩
theorem scq_own {l:List Int} {w h n x y pw ph:Nat} (hn:l.length=n) (hwh:n=w*h) (hx:x+pw≤w) (hy:y+ph≤h) (hp:0<pw):
    scq (cutL l w y x pw ph) l pw ph w x y=if va (cutL l w y x pw ph) (pw*ph)=0 then 0 else 1:=by
  rw [← scq_nat (cutL_len hn hwh hx hy (Nat.le_refl ph)),scr_own hn hwh hx hy hp rfl]
end Go.Proofs.Ytkamccndgblheaa.Cr
namespace Go.Proofs.Ytkamccndgblheaa.Sp
open Go
set_option linter.unusedVariables false
set_option maxRecDepth 100000
set_option maxHeartbeats 1000000
theorem zgf {p:Option Addr} {n:Nat} {cap:Nat} {l:List Int} (hn:l.length=n) (h0:0<n):Con Try.prog 18 [.slice p n cap] [] [slF (rI .i64) p cap l] (Y:=Unit) (fun y=>True) (fun y=> .int .i64 (Cr.mnN l n)) (fun y=>[]) (fun y=>[]):=by
 refine zo Try.func18 rfl rfl rfl (fun c=> ?_)
 show RunC _ _ _ _ _ [(0,.slice p n cap)] [] [slF (rI .i64) p cap l]
 refine zV 0 rfl (fun hL0=> ?_)
 refine zh<|zb<|r_pv rfl rfl (zc rfl)<|zj<|zd<|zh<|zh<|zb<|r_pv rfl rfl (za rfl)<|r_pv rfl rfl (zN Try.underlying22 rfl)<|r_pv rfl rfl (zda rfl rfl)<|zj<|zd<|zG rfl (fun h1=> ?_) (fun h1=> ?_)
 ·
  omega
 ·
  refine zC<|zd<|zh<|zb<|r_pv rfl rfl (za rfl)<|zO (x0:=(l.getD 0 0)) 0 0 rfl Try.underlying22 sz3 rfl rfl rfl (by first|rfl|assumption|(simp_all;done)|omega) rfl rfl (gD (d:=0) (by omega)) (fun b2 o3 hok4=> ?_)
  replace hok4:=zY.1 hok4
  refine r_u rfl rfl (zk (j:=0) 0 ty3 rfl rfl rfl rfl)<|r_pv rfl rfl (zc rfl)<|zj<|zd<|zh<|zh<|zb<|r_pv rfl rfl (zc rfl)<|zj<|zd<|zA<|zja (X:=Nat) (fun x:Nat=>1≤x∧x≤n) (fun x=>[(3,.int .i64 (Cr.mnN l x)),(4,.int .i64 ((x:Nat):Int)),(2,.int .i64 0),(0,.slice p n cap)]) (fun x=>[]) (fun x=>[atF b2 o3 [.int .i64 (l.getD 0 0)],slF (rI .i64) p cap l]) (fun x:Nat=>n - x) 1 (show 1≤1∧1≤n from by exact ⟨Nat.le_refl _,h0⟩) ((.e rfl (congrArg (Value.int .i64) ((Cr.mnN_one l).symm)) (.e rfl (by first|rfl|(congr 1;omega)|simp_all) (.c rfl (.c rfl .n)))):SubM _ _) (ho:=(.n:PickO _ _ _)) ((.of [0,1] rfl):SelR _ _ _) ?_
  rintro i hI
  replace hI:1≤i∧i≤n:=hI
  try dsimp only
  refine zh<|zh<|zb<|r_pv rfl rfl (za rfl)<|r_pv rfl rfl (za rfl)<|r_pv rfl rfl (zN Try.underlying22 rfl)<|r_pv rfl rfl (zda rfl rfl)<|zj<|zd<|zG rfl (fun h5=> ?_) (fun h5=> ?_)
  ·
   refine zC<|zd<|zh<|zA<|zb<|r_pv rfl rfl (za rfl)<|r_pv rfl rfl (za rfl)<|r_pv rfl rfl (za rfl)<|zO (x0:=(l.getD i 0)) 1 i rfl Try.underlying22 sz3 rfl rfl rfl (by first|rfl|assumption|(simp_all;done)|omega) rfl rfl (gD (d:=0) (by omega)) (fun b6 o7 hok8=> ?_)
   replace hok8:=zY.1 hok8
   refine r_u rfl rfl (zk (j:=0) 0 ty3 rfl rfl rfl rfl)<|r_pv rfl rfl (pv_min rfl rfl)<|r_pv rfl rfl (zc rfl)<|zj<|zT<|zd<|zb<|r_pv rfl rfl (za rfl)<|r_pv rfl rfl (zD (z:=(((i+1):Nat):Int)) rfl rfl (w64 (by omega)))<|r_pv rfl rfl (zc rfl)<|zj<|zfa (i+1) (show 1≤(i+1)∧(i+1)≤n from by omega) (by show n - (i+1)<n - i;omega) ((.e rfl (congrArg (Value.int .i64) (by rfl)) (.of rfl)):SubM _ _) (ho:=(.n:PickO _ _ _)) ((.of [1,2] rfl):SelR _ _ _)
  ·
   refine zga<|zl<|zl<|zv<|zd<|zh<|zb<|r_pv rfl rfl (za rfl)<|r_pv rfl rfl (zc rfl)<|zj<|zd<|zH ?_
   exact zy Try.results18 () trivial (zp rfl) (by rw [show i=n by omega]) (ho:=(.n:PickO _ _ _)) (.n:SelR _ _ _)
theorem zhf {p:Option Addr} {n:Nat} {cap:Nat} {l:List Int} (hn:l.length=n) (h0:0<n):Con Try.prog 19 [.slice p n cap] [] [slF (rI .i64) p cap l] (Y:=Unit) (fun y=>True) (fun y=> .int .i64 (Cr.mxN l n)) (fun y=>[]) (fun y=>[]):=by
 refine zo Try.func19 rfl rfl rfl (fun c=> ?_)
 show RunC _ _ _ _ _ [(0,.slice p n cap)] [] [slF (rI .i64) p cap l]
 refine zV 0 rfl (fun hL0=> ?_)
 refine zh<|zb<|r_pv rfl rfl (zc rfl)<|zj<|zd<|zh<|zh<|zb<|r_pv rfl rfl (za rfl)<|r_pv rfl rfl (zN Try.underlying22 rfl)<|r_pv rfl rfl (zda rfl rfl)<|zj<|zd<|zG rfl (fun h1=> ?_) (fun h1=> ?_)
 ·
  omega
 ·
  refine zC<|zd<|zh<|zb<|r_pv rfl rfl (za rfl)<|zO (x0:=(l.getD 0 0)) 0 0 rfl Try.underlying22 sz3 rfl rfl rfl (by first|rfl|assumption|(simp_all;done)|omega) rfl rfl (gD (d:=0) (by omega)) (fun b2 o3 hok4=> ?_)
  replace hok4:=zY.1 hok4
  refine r_u rfl rfl (zk (j:=0) 0 ty3 rfl rfl rfl rfl)<|r_pv rfl rfl (zc rfl)<|zj<|zd<|zh<|zh<|zb<|r_pv rfl rfl (zc rfl)<|zj<|zd<|zA<|zja (X:=Nat) (fun x:Nat=>1≤x∧x≤n) (fun x=>[(3,.int .i64 (Cr.mxN l x)),(4,.int .i64 ((x:Nat):Int)),(2,.int .i64 0),(0,.slice p n cap)]) (fun x=>[]) (fun x=>[atF b2 o3 [.int .i64 (l.getD 0 0)],slF (rI .i64) p cap l]) (fun x:Nat=>n - x) 1 (show 1≤1∧1≤n from by exact ⟨Nat.le_refl _,h0⟩) ((.e rfl (congrArg (Value.int .i64) ((Cr.mxN_one l).symm)) (.e rfl (by first|rfl|(congr 1;omega)|simp_all) (.c rfl (.c rfl .n)))):SubM _ _) (ho:=(.n:PickO _ _ _)) ((.of [0,1] rfl):SelR _ _ _) ?_
  rintro i hI
  replace hI:1≤i∧i≤n:=hI
  try dsimp only
  refine zh<|zh<|zb<|r_pv rfl rfl (za rfl)<|r_pv rfl rfl (za rfl)<|r_pv rfl rfl (zN Try.underlying22 rfl)<|r_pv rfl rfl (zda rfl rfl)<|zj<|zd<|zG rfl (fun h5=> ?_) (fun h5=> ?_)
  ·
   refine zC<|zd<|zh<|zA<|zb<|r_pv rfl rfl (za rfl)<|r_pv rfl rfl (za rfl)<|r_pv rfl rfl (za rfl)<|zO (x0:=(l.getD i 0)) 1 i rfl Try.underlying22 sz3 rfl rfl rfl (by first|rfl|assumption|(simp_all;done)|omega) rfl rfl (gD (d:=0) (by omega)) (fun b6 o7 hok8=> ?_)
   replace hok8:=zY.1 hok8
   refine r_u rfl rfl (zk (j:=0) 0 ty3 rfl rfl rfl rfl)<|r_pv rfl rfl (zle rfl rfl)<|r_pv rfl rfl (zc rfl)<|zj<|zT<|zd<|zb<|r_pv rfl rfl (za rfl)<|r_pv rfl rfl (zD (z:=(((i+1):Nat):Int)) rfl rfl (w64 (by omega)))<|r_pv rfl rfl (zc rfl)<|zj<|zfa (i+1) (show 1≤(i+1)∧(i+1)≤n from by omega) (by show n - (i+1)<n - i;omega) ((.e rfl (congrArg (Value.int .i64) (by rfl)) (.of rfl)):SubM _ _) (ho:=(.n:PickO _ _ _)) ((.of [1,2] rfl):SelR _ _ _)
  ·
   refine zga<|zl<|zl<|zv<|zd<|zh<|zb<|r_pv rfl rfl (za rfl)<|r_pv rfl rfl (zc rfl)<|zj<|zd<|zH ?_
   exact zy Try.results19 () trivial (zp rfl) (by rw [show i=n by omega]) (ho:=(.n:PickO _ _ _)) (.n:SelR _ _ _)
theorem zKb {wi1:Int} {hi1:Int} {m1:Int} {p1:Option Addr} {n1:Nat} {c1:Nat} {l1:List Int} {xa:Int} {xb:Int} {xc:Int} {xd:Int} (hn1:l1.length=n1) (hbw1: -9223372036854775808≤wi1∧wi1≤9223372036854775807) (hbh1: -9223372036854775808≤hi1∧hi1≤9223372036854775807) (hbm1: -9223372036854775808≤m1∧m1≤9223372036854775807) (hxa:0≤xa∧xa≤255) (hxb:0≤xb∧xb≤255) (hxc:0≤xc∧xc≤255) (hxd:0≤xd∧xd≤255):Con Try.prog 6 [.agg #[.int .i64 wi1,.int .i64 hi1,.int .i64 m1,.slice p1 n1 c1],.agg #[.int .u8 xa,.int .u8 xb,.int .u8 xc,.int .u8 xd]] [] [slF (rI .i64) p1 c1 l1] (Y:=Unit) (fun y=>True) (fun y=> .bool true) (fun y=>[]) (fun y=>[]):=by
 refine zo Try.func6 rfl rfl rfl (fun c=> ?_)
 show RunC _ _ _ _ _ [(0,.agg #[.int .i64 wi1,.int .i64 hi1,.int .i64 m1,.slice p1 n1 c1]),(1,.agg #[.int .u8 xa,.int .u8 xb,.int .u8 xc,.int .u8 xd])] [] [slF (rI .i64) p1 c1 l1]
 refine zV 0 rfl (fun hL0=> ?_)
 refine zh<|zb<|zK rfl rfl (zU rfl rfl) (fun b1=> ?_)
 refine zK rfl rfl (zU rfl rfl) (fun b2=> ?_)
 refine r_pv rfl rfl (zc rfl)<|zj<|zd<|zh<|zh<|zb<|zP rfl rfl (.n) ce7 (zRe) (.n)<|r_pv rfl rfl (zvb rfl)<|zj<|zd<|zXa rfl rfl<|zC<|zd<|zh<|zh<|zRb (gsF [(⟨wi1,hi1,m1,p1,n1,c1⟩:Gr)] [l1]) (gsF_1 0 rfl)<|zb<|r_u rfl rfl (ze 1 ty24 rfl rfl (.take (.take (.take (.take .nil)))))<|zva rfl rfl (zQ (enc:=fun z:Gr=>[.int .i64 z.w,.int .i64 z.h,.int .i64 z.m,.slice z.p z.n z.c]) (ok:=okG) (h1:=fun _=>rfl) (h2:=fun _=>rfl) (k:=1) Try.underlying56 inf24 rfl (by decide) (by decide) (by decide) (.c (x:=(⟨wi1,hi1,m1,p1,n1,c1⟩:Gr)) rfl rfl (fun _ _=>by exact ⟨zY.2 (by first|omega|decide|(dsimp only;omega)),zY.2 (by first|omega|decide|(dsimp only;omega)),zY.2 (by first|omega|decide|(dsimp only;omega))⟩) .n)) (fun b3 _=> ?_)
 refine zha 0 rfl .z<|zP rfl rfl (.c rfl .n) ce8 (zyf (p:=some ⟨b3,0,none⟩) (n:=1) (cap:=1) (l:=[(⟨wi1,hi1,m1,p1,n1,c1⟩:Gr)]) (hn:=by first|rfl|assumption|omega|(decide +kernel))) (.c (j:=0) rfl .n)<|r_pv rfl rfl (zeb rfl)<|zia rfl rfl (za rfl) (fun hf=> ?_) (fun hf=> ?_)
 ·
  refine zg rfl rfl<|zg rfl rfl<|zg rfl rfl<|zg rfl rfl<|r_pv rfl rfl (zw rfl rfl)<|zj<|zd<|zFd rfl rfl<|zh<|zb<|r_pv rfl rfl (zc rfl)<|zj<|zd<|zH<|zn ?_
  exact zy Try.results6 () trivial (zp rfl) rfl (ho:=(.n:PickO _ _ _)) (.n:SelR _ _ _)
 ·
  refine r_u rfl rfl (ze 2 ty24 rfl rfl (.take (.take (.take (.take .nil)))))<|zva rfl rfl (zQ (enc:=fun z:Gr=>[.int .i64 z.w,.int .i64 z.h,.int .i64 z.m,.slice z.p z.n z.c]) (ok:=okG) (h1:=fun _=>rfl) (h2:=fun _=>rfl) (k:=1) Try.underlying56 inf24 rfl (by decide) (by decide) (by decide) (.c (x:=(⟨wi1,hi1,m1,p1,n1,c1⟩:Gr)) rfl rfl (fun _ _=>by exact ⟨zY.2 (by first|omega|decide|(dsimp only;omega)),zY.2 (by first|omega|decide|(dsimp only;omega)),zY.2 (by first|omega|decide|(dsimp only;omega))⟩) .n)) (fun b4 _=> ?_)
  refine zha 0 rfl .z<|zP rfl rfl (.c rfl .n) ce10 (zkd (p:=some ⟨b4,0,none⟩) (n:=1) (cap:=1) (l:=[(⟨wi1,hi1,m1,p1,n1,c1⟩:Gr)]) (ls:=[l1]) (hn:=by first|rfl|assumption|omega|(decide +kernel)) (hls:=by intro i hi;(obtain rfl:i=0:=(by omega));exact hn1)) (.c (j:=0) rfl (.c (j:=2) rfl .n)) ?_
  have e5:((if (Cr.allok ([(⟨wi1,hi1,m1,p1,n1,c1⟩:Gr)]) ([l1]) 1) then 0 else 1):Int)=(if Bl.rok wi1 hi1 m1 l1 then 0 else 1):=by exact Cr.chk1
  rw [e5]
  refine r_pv rfl rfl (zGa rfl rfl)<|r_pv rfl rfl (zw rfl rfl)<|zj<|zd<|zG rfl (fun hk=> ?_) (fun hk=> ?_)
  ·
   refine zh<|zb<|r_pv rfl rfl (zc rfl)<|zj<|zd<|zH<|zn ?_
   exact zy Try.results6 () trivial (zp rfl) rfl (ho:=(.n:PickO _ _ _)) (.n:SelR _ _ _)
  ·
   have hok:Bl.rok wi1 hi1 m1 l1:=Bl.c0.1 (Decidable.not_not.1 hk)
   obtain ⟨w1,vh1,rfl,rfl,hw1,hh1,hwh1,hb1,hg1⟩:=Cr.rokN hok hn1
   obtain ⟨na,e6⟩:∃q:Nat,xa=(q:Int):=⟨xa.toNat,by omega⟩
   subst e6
   obtain ⟨nb,e7⟩:∃q:Nat,xb=(q:Int):=⟨xb.toNat,by omega⟩
   subst e7
   obtain ⟨nc,e8⟩:∃q:Nat,xc=(q:Int):=⟨xc.toNat,by omega⟩
   subst e8
   obtain ⟨nd,e9⟩:∃q:Nat,xd=(q:Int):=⟨xd.toNat,by omega⟩
   subst e9
   refine zC<|zd<|zh<|zZ (OW:=[]) (O:=[emA,emA,boxA b2 49 [.int .u8 ((na:Nat):Int),.int .u8 ((nb:Nat):Int),.int .u8 ((nc:Nat):Int),.int .u8 ((nd:Nat):Int)],boxA b1 24 [.int .i64 ((w1:Nat):Int),.int .i64 ((vh1:Nat):Int),.int .i64 m1,.slice p1 n1 c1]]) 100000 mixed (.then .ret) (by kernel_rfl)<|d_pv 0 rfl rfl (by kernel_rfl) (by kernel_rfl) rfl rfl (zIa (i:=0) Try.underlying49 sz5 rfl rfl (by decide) rfl)<|d_u 1 rfl rfl (by kernel_rfl) (by kernel_rfl) rfl rfl (zi 2 ty5 rfl rfl rfl)<|d_pv 2 rfl rfl (by kernel_rfl) (by kernel_rfl) rfl rfl (zu (z:=((na:Nat):Int)) rfl (by rw [Try.underlying5];rfl) Try.underlying3 (w64 (by omega)))<|d_pv 3 rfl rfl (by kernel_rfl) (by kernel_rfl) rfl rfl (zf Try.underlying24 rfl sz3 rfl rfl)<|d_u 4 rfl rfl (by kernel_rfl) (by kernel_rfl) rfl rfl (zi 3 ty3 rfl rfl rfl)<|d_pv 5 rfl rfl (by kernel_rfl) (by kernel_rfl) rfl rfl (zDa (z:=(((na%w1):Nat):Int)) rfl rfl (by omega) (remN (by omega) (by omega)))<|d_pv 6 rfl rfl (by kernel_rfl) (by kernel_rfl) rfl rfl (zIa (i:=1) Try.underlying49 sz5 rfl rfl (by decide) rfl)<|d_u 7 rfl rfl (by kernel_rfl) (by kernel_rfl) rfl rfl (zi 2 ty5 rfl rfl rfl)<|d_pv 8 rfl rfl (by kernel_rfl) (by kernel_rfl) rfl rfl (zu (z:=((nb:Nat):Int)) rfl (by rw [Try.underlying5];rfl) Try.underlying3 (w64 (by omega)))<|d_pv 9 rfl rfl (by kernel_rfl) (by kernel_rfl) rfl rfl (zf Try.underlying24 rfl sz3 rfl rfl)<|d_u 10 rfl rfl (by kernel_rfl) (by kernel_rfl) rfl rfl (zi 3 ty3 rfl rfl rfl)<|d_pv 11 rfl rfl (by kernel_rfl) (by kernel_rfl) rfl rfl (zDa (z:=(((nb%vh1):Nat):Int)) rfl rfl (by omega) (remN (by omega) (by omega)))<|d_pv 12 rfl rfl (by kernel_rfl) (by kernel_rfl) rfl rfl (zc rfl)<|d_pv 13 rfl rfl (by kernel_rfl) (by kernel_rfl) rfl rfl (zc rfl)<|zW (by kernel_rfl)<|zd<|zh ?_
   obtain ⟨xx,hxx⟩:∃z:Nat,z=(na%w1):=⟨_,rfl⟩
   rw [← hxx]
   obtain ⟨yy,hyy⟩:∃z:Nat,z=(nb%vh1):=⟨_,rfl⟩
   rw [← hyy]
   have hxw:xx<w1:=by rw [hxx];exact Nat.mod_lt _ hw1.1
   have hyh:yy<vh1:=by rw [hyy];exact Nat.mod_lt _ hh1.1
   refine zZ (OW:=[]) (O:=[emA,emA,boxA b2 49 [.int .u8 ((na:Nat):Int),.int .u8 ((nb:Nat):Int),.int .u8 ((nc:Nat):Int),.int .u8 ((nd:Nat):Int)],boxA b1 24 [.int .i64 ((w1:Nat):Int),.int .i64 ((vh1:Nat):Int),.int .i64 m1,.slice p1 n1 c1]]) 23 mixed (.then .ret) (by kernel_rfl)<|d_u 0 rfl rfl (by kernel_rfl) (by kernel_rfl) rfl rfl (ze 3 ty24 rfl rfl (.take (.take (.take (.take .nil)))))<|d_pv 1 rfl rfl (by kernel_rfl) (by kernel_rfl) rfl rfl (za rfl)<|d_pv 2 rfl rfl (by kernel_rfl) (by kernel_rfl) rfl rfl (za rfl)<|d_pv 3 rfl rfl (by kernel_rfl) (by kernel_rfl) rfl rfl (zIa (i:=2) Try.underlying49 sz5 rfl rfl (by decide) rfl)<|d_u 4 rfl rfl (by kernel_rfl) (by kernel_rfl) rfl rfl (zi 2 ty5 rfl rfl rfl)<|d_pv 5 rfl rfl (by kernel_rfl) (by kernel_rfl) rfl rfl (zu (z:=((nc:Nat):Int)) rfl (by rw [Try.underlying5];rfl) Try.underlying3 (w64 (by omega)))<|d_pv 6 rfl rfl (by kernel_rfl) (by kernel_rfl) rfl rfl (zf Try.underlying24 rfl sz3 rfl rfl)<|d_u 7 rfl rfl (by kernel_rfl) (by kernel_rfl) rfl rfl (zi 3 ty3 rfl rfl rfl)<|d_pv 8 rfl rfl (by kernel_rfl) (by kernel_rfl) rfl rfl (za rfl)<|d_pv 9 rfl rfl (by kernel_rfl) (by kernel_rfl) rfl rfl (zba (z:=(((w1 - xx):Nat):Int)) rfl rfl (w64 (by omega)))<|d_pv 10 rfl rfl (by kernel_rfl) (by kernel_rfl) rfl rfl (zDa (z:=(((nc%(w1 - xx)):Nat):Int)) rfl rfl (by omega) (remN (by omega) (by omega))) ?_
   obtain ⟨pr,hpr⟩:∃z:Nat,z=(nc%(w1 - xx)):=⟨_,rfl⟩
   rw [← hpr]
   have hpr:pr<w1 - xx:=by rw [hpr];exact Nat.mod_lt _ (by omega)
   refine d_pv 11 rfl rfl (by kernel_rfl) (by kernel_rfl) rfl rfl (zD (z:=(((1+pr):Nat):Int)) rfl rfl (w64 (by omega)))<|d_pv 12 rfl rfl (by kernel_rfl) (by kernel_rfl) rfl rfl (zIa (i:=3) Try.underlying49 sz5 rfl rfl (by decide) rfl)<|d_u 13 rfl rfl (by kernel_rfl) (by kernel_rfl) rfl rfl (zi 2 ty5 rfl rfl rfl)<|d_pv 14 rfl rfl (by kernel_rfl) (by kernel_rfl) rfl rfl (zu (z:=((nd:Nat):Int)) rfl (by rw [Try.underlying5];rfl) Try.underlying3 (w64 (by omega)))<|d_pv 15 rfl rfl (by kernel_rfl) (by kernel_rfl) rfl rfl (zf Try.underlying24 rfl sz3 rfl rfl)<|d_u 16 rfl rfl (by kernel_rfl) (by kernel_rfl) rfl rfl (zi 3 ty3 rfl rfl rfl)<|d_pv 17 rfl rfl (by kernel_rfl) (by kernel_rfl) rfl rfl (za rfl)<|d_pv 18 rfl rfl (by kernel_rfl) (by kernel_rfl) rfl rfl (zba (z:=(((vh1 - yy):Nat):Int)) rfl rfl (w64 (by omega)))<|d_pv 19 rfl rfl (by kernel_rfl) (by kernel_rfl) rfl rfl (zDa (z:=(((nd%(vh1 - yy)):Nat):Int)) rfl rfl (by omega) (remN (by omega) (by omega))) ?_
   obtain ⟨qr,hqr⟩:∃z:Nat,z=(nd%(vh1 - yy)):=⟨_,rfl⟩
   rw [← hqr]
   have hqr:qr<vh1 - yy:=by rw [hqr];exact Nat.mod_lt _ (by omega)
   refine d_pv 20 rfl rfl (by kernel_rfl) (by kernel_rfl) rfl rfl (zD (z:=(((1+qr):Nat):Int)) rfl rfl (w64 (by omega)))<|zKd (m':=[(59,.int .i64 (((1+qr):Nat):Int)),(50,.int .i64 (((1+pr):Nat):Int)),(41,.int .i64 ((yy:Nat):Int)),(40,.int .i64 ((xx:Nat):Int)),(39,.agg #[.int .i64 ((w1:Nat):Int),.int .i64 ((vh1:Nat):Int),.int .i64 m1,.slice p1 n1 c1]),(6,.int .i64 ((yy:Nat):Int)),(5,.int .i64 ((xx:Nat):Int)),(4,.bool false),(2,.pointer (some ⟨b1,0,none⟩))]) (R':=[slF rG (some ⟨b4,0,none⟩) 1 ([(⟨((w1:Nat):Int),((vh1:Nat):Int),m1,p1,n1,c1⟩:Gr)]),slF rG (some ⟨b3,0,none⟩) 1 ([(⟨((w1:Nat):Int),((vh1:Nat):Int),m1,p1,n1,c1⟩:Gr)]),gsF [(⟨((w1:Nat):Int),((vh1:Nat):Int),m1,p1,n1,c1⟩:Gr)] [l1],slF (rI .i64) p1 c1 l1]) ((.of rfl):SubM _ _) (List.Perm.refl _) (List.Perm.refl _) ((.of [0,1,2,3] rfl):SelR _ _ _)<|zAa (X:=Option Addr×Nat×Nat) (k':=0) (L':=(lb 24 16777215)) (fun (u21_1,u21_2,u22_1)=>([(7,.pointer (some ⟨u22_1,0,none⟩)),(6,.int .i64 ((yy:Nat):Int)),(5,.int .i64 ((xx:Nat):Int)),(4,.bool false),(2,.pointer (some ⟨b1,0,none⟩))],[boxA u22_1 24 [.int .i64 (((1+pr):Nat):Int),.int .i64 (((1+qr):Nat):Int),.int .i64 m1,.slice u21_1 ((1+pr)*(1+qr)) u21_2]],[emA,emA,boxA b2 49 [.int .u8 ((na:Nat):Int),.int .u8 ((nb:Nat):Int),.int .u8 ((nc:Nat):Int),.int .u8 ((nd:Nat):Int)],boxA b1 24 [.int .i64 ((w1:Nat):Int),.int .i64 ((vh1:Nat):Int),.int .i64 m1,.slice p1 n1 c1]],[slF (rI .i64) u21_1 u21_2 (Cr.cutL l1 w1 yy xx (1+pr) (1+qr)),slF rG (some ⟨b4,0,none⟩) 1 ([(⟨((w1:Nat):Int),((vh1:Nat):Int),m1,p1,n1,c1⟩:Gr)]),slF rG (some ⟨b3,0,none⟩) 1 ([(⟨((w1:Nat):Int),((vh1:Nat):Int),m1,p1,n1,c1⟩:Gr)]),gsF [(⟨((w1:Nat):Int),((vh1:Nat):Int),m1,p1,n1,c1⟩:Gr)] [l1],slF (rI .i64) p1 c1 l1])) ?_ (fun hD0=> ?_)
   ·
    rintro ⟨u21_1,u21_2,u22_1⟩
    dsimp only
    refine zW (by kernel_rfl)<|zd<|zh ?_
    have hx:xx+(1+pr)≤w1:=by omega
    have hy:yy+(1+qr)≤vh1:=by omega
    have hcl9:=Cr.cutL_len hn1 hwh1 hx hy (Nat.le_refl _)
    have hrk:Cr.rk2 (((1+pr):Nat):Int) (((1+qr):Nat):Int) m1 (Cr.cutL l1 w1 yy xx (1+pr) (1+qr)) ((w1:Nat):Int) ((vh1:Nat):Int) m1 l1:=⟨Cr.rok_cut hok hn1 hwh1 hx hy (by omega) (by omega),hok⟩
    have hps:Cr.pos (((1+pr):Nat):Int) (((1+qr):Nat):Int) ((w1:Nat):Int) ((vh1:Nat):Int) ((xx:Nat):Int) ((yy:Nat):Int):=Cr.pos_own hx hy
    have hn0:0<((1+pr)*(1+qr)):=Nat.mul_pos (by omega) (by omega)
    have hmm:=Cr.va_mm hcl9 hn0
    have hbs:(Cr.best (Cr.cutL l1 w1 yy xx (1+pr) (1+qr)) l1 (((1+pr):Nat):Int) (((1+qr):Nat):Int) ((w1:Nat):Int) ((vh1:Nat):Int)).isSome=true:=Cr.best_some hcl9 hps
    refine zb<|r_u rfl rfl (ze 0 ty24 rfl rfl (.take (.take (.take (.take .nil)))))<|r_u rfl rfl (ze 4 ty24 rfl rfl (.take (.take (.take (.take .nil)))))<|r_pv rfl rfl (za rfl)<|r_pv rfl rfl (za rfl)<|zx rfl rfl (.c rfl (.c rfl (.c rfl (.c rfl .n)))) ce12 (zjd (wi1:=(((1+pr):Nat):Int)) (hi1:=(((1+qr):Nat):Int)) (m1:=m1) (p1:=u21_1) (n1:=((1+pr)*(1+qr))) (c1:=u21_2) (l1:=(Cr.cutL l1 w1 yy xx (1+pr) (1+qr))) (wi2:=((w1:Nat):Int)) (hi2:=((vh1:Nat):Int)) (m2:=m1) (p2:=p1) (n2:=n1) (c2:=c1) (l2:=l1) (ex:=((xx:Nat):Int)) (ey:=((yy:Nat):Int)) (hn1:=by exact hcl9) (hn2:=by assumption)) (.c (j:=0) rfl (.c (j:=4) rfl .n)) ?_
    rintro ⟨w310,w411⟩ hy12
    dsimp only [List.append_eq,List.nil_append,List.cons_append]
    replace hy12:(Cr.sok (((1+pr):Nat):Int) (((1+qr):Nat):Int) m1 (Cr.cutL l1 w1 yy xx (1+pr) (1+qr)) ((w1:Nat):Int) ((vh1:Nat):Int) m1 l1 ((xx:Nat):Int) ((yy:Nat):Int))∨(w310=wz∧w411=wz):=hy12
    have e13:((if (Cr.rk2 (((1+pr):Nat):Int) (((1+qr):Nat):Int) m1 (Cr.cutL l1 w1 yy xx (1+pr) (1+qr)) ((w1:Nat):Int) ((vh1:Nat):Int) m1 l1) then (if (Cr.pos (((1+pr):Nat):Int) (((1+qr):Nat):Int) ((w1:Nat):Int) ((vh1:Nat):Int) ((xx:Nat):Int) ((yy:Nat):Int)) then 0 else 15) else 1):Int)=0:=by simp only [if_pos hrk,if_pos hps]
    rw [e13]
    have e14:((if (Cr.sok (((1+pr):Nat):Int) (((1+qr):Nat):Int) m1 (Cr.cutL l1 w1 yy xx (1+pr) (1+qr)) ((w1:Nat):Int) ((vh1:Nat):Int) m1 l1 ((xx:Nat):Int) ((yy:Nat):Int)) then (Cr.scq (Cr.cutL l1 w1 yy xx (1+pr) (1+qr)) l1 (((1+pr):Nat):Int) (((1+qr):Nat):Int) ((w1:Nat):Int) ((xx:Nat):Int) ((yy:Nat):Int)) else 0):Rat)=(if Cr.va (Cr.cutL l1 w1 yy xx (1+pr) (1+qr)) ((1+pr)*(1+qr))=0 then (0:Rat) else 1):=by exact (if_pos ⟨hrk,hps⟩).trans (Cr.scq_own hn1 hwh1 hx hy (by omega))
    rw [e14]
    have e15:(decide (Cr.sok (((1+pr):Nat):Int) (((1+qr):Nat):Int) m1 (Cr.cutL l1 w1 yy xx (1+pr) (1+qr)) ((w1:Nat):Int) ((vh1:Nat):Int) m1 l1 ((xx:Nat):Int) ((yy:Nat):Int)))=true:=by exact decide_eq_true ⟨hrk,hps⟩
    rw [e15]
    refine r_pv rfl rfl (za rfl)<|r_pv rfl rfl (zq rfl rfl)<|r_pv rfl rfl (zq rfl rfl)<|zK rfl rfl (zB zr40 rfl) (fun b16=> ?_)
    refine zm 0 rfl rfl rfl rfl rfl sz40 rfl (.take (.take (.take (.take .nil)))) .z<|r_pv rfl rfl (zc rfl)<|zj<|zd<|zh<|zb<|r_u rfl rfl (ze 1 ty24 rfl rfl (.take (.take (.take (.take .nil)))))<|r_u rfl rfl (ze 5 ty24 rfl rfl (.take (.take (.take (.take .nil)))))<|zx rfl rfl (.c rfl (.c rfl .n)) ce16 (zZd (wi1:=(((1+pr):Nat):Int)) (hi1:=(((1+qr):Nat):Int)) (m1:=m1) (p1:=u21_1) (n1:=((1+pr)*(1+qr))) (c1:=u21_2) (l1:=(Cr.cutL l1 w1 yy xx (1+pr) (1+qr))) (wi2:=((w1:Nat):Int)) (hi2:=((vh1:Nat):Int)) (m2:=m1) (p2:=p1) (n2:=n1) (c2:=c1) (l2:=l1) (hn1:=by exact hcl9) (hn2:=by assumption)) (.c (j:=1) rfl (.c (j:=5) rfl .n)) ?_
    rintro ⟨w317,w418⟩ hy19
    dsimp only [List.append_eq,List.nil_append,List.cons_append]
    replace hy19:((if (Cr.rk2 (((1+pr):Nat):Int) (((1+qr):Nat):Int) m1 (Cr.cutL l1 w1 yy xx (1+pr) (1+qr)) ((w1:Nat):Int) ((vh1:Nat):Int) m1 l1) then Cr.best (Cr.cutL l1 w1 yy xx (1+pr) (1+qr)) l1 (((1+pr):Nat):Int) (((1+qr):Nat):Int) ((w1:Nat):Int) ((vh1:Nat):Int) else none).isSome=false→w317=wz∧w418=wz)∧Big.hq (Cr.pQ (if (Cr.rk2 (((1+pr):Nat):Int) (((1+qr):Nat):Int) m1 (Cr.cutL l1 w1 yy xx (1+pr) (1+qr)) ((w1:Nat):Int) ((vh1:Nat):Int) m1 l1) then Cr.best (Cr.cutL l1 w1 yy xx (1+pr) (1+qr)) l1 (((1+pr):Nat):Int) (((1+qr):Nat):Int) ((w1:Nat):Int) ((vh1:Nat):Int) else none))≤6:=hy19
    have e20:((if (Cr.rk2 (((1+pr):Nat):Int) (((1+qr):Nat):Int) m1 (Cr.cutL l1 w1 yy xx (1+pr) (1+qr)) ((w1:Nat):Int) ((vh1:Nat):Int) m1 l1) then (if (if (Cr.rk2 (((1+pr):Nat):Int) (((1+qr):Nat):Int) m1 (Cr.cutL l1 w1 yy xx (1+pr) (1+qr)) ((w1:Nat):Int) ((vh1:Nat):Int) m1 l1) then Cr.best (Cr.cutL l1 w1 yy xx (1+pr) (1+qr)) l1 (((1+pr):Nat):Int) (((1+qr):Nat):Int) ((w1:Nat):Int) ((vh1:Nat):Int) else none).isSome then 0 else 6) else 1):Int)=0:=by simp only [if_pos hrk,if_pos hbs]
    rw [e20]
    have e21:((Cr.pQ (if (Cr.rk2 (((1+pr):Nat):Int) (((1+qr):Nat):Int) m1 (Cr.cutL l1 w1 yy xx (1+pr) (1+qr)) ((w1:Nat):Int) ((vh1:Nat):Int) m1 l1) then Cr.best (Cr.cutL l1 w1 yy xx (1+pr) (1+qr)) l1 (((1+pr):Nat):Int) (((1+qr):Nat):Int) ((w1:Nat):Int) ((vh1:Nat):Int) else none)):Rat)=(Cr.pQ (Cr.best (Cr.cutL l1 w1 yy xx (1+pr) (1+qr)) l1 (((1+pr):Nat):Int) (((1+qr):Nat):Int) ((w1:Nat):Int) ((vh1:Nat):Int))):=by rw [if_pos hrk]
    rw [e21]
    have e22:(if (Cr.rk2 (((1+pr):Nat):Int) (((1+qr):Nat):Int) m1 (Cr.cutL l1 w1 yy xx (1+pr) (1+qr)) ((w1:Nat):Int) ((vh1:Nat):Int) m1 l1) then Cr.best (Cr.cutL l1 w1 yy xx (1+pr) (1+qr)) l1 (((1+pr):Nat):Int) (((1+qr):Nat):Int) ((w1:Nat):Int) ((vh1:Nat):Int) else none).isSome=true:=by rw [if_pos hrk];exact hbs
    rw [e22]
    refine r_pv rfl rfl (za rfl)<|r_pv rfl rfl (zq rfl rfl)<|r_pv rfl rfl (zq rfl rfl)<|r_pv rfl rfl (zq rfl rfl)<|r_pv rfl rfl (zq rfl rfl)<|zK rfl rfl (zB zr40 rfl) (fun b23=> ?_)
    refine r_pv rfl rfl (zc rfl)<|r_pv rfl rfl (zc rfl)<|zm 0 rfl rfl rfl rfl rfl sz40 rfl (.take (.take (.take (.take .nil)))) .z<|r_pv rfl rfl (zc rfl)<|zj<|zd<|zh<|zh<|zb<|r_pv rfl rfl (za rfl)<|r_pv rfl rfl (zGa rfl rfl)<|r_pv rfl rfl (za rfl)<|r_pv rfl rfl (za rfl)<|r_pv rfl rfl (zGa rfl rfl)<|r_pv rfl rfl (zw rfl rfl)<|zj<|zd<|zXa rfl rfl<|zC<|zd<|zh<|zb<|zx rfl rfl (.c rfl .n) ce17 (zib (z:=1) (hz:=by first|rfl|assumption|omega|(decide +kernel))) (.n) ?_
    rintro ⟨w324,w425⟩ -
    dsimp only [List.append_eq,List.nil_append,List.cons_append]
    refine zK rfl rfl (zB zr40 rfl) (fun b26=> ?_)
    refine zm 0 rfl rfl rfl rfl rfl sz40 rfl (.take (.take (.take (.take .nil)))) .z<|zj<|zd<|zh<|zh<|zZ (OW:=[]) (O:=[boxA b26 40 [w324.b,w324.l,w425.b,w425.l],boxA b23 40 [w317.b,w317.l,w418.b,w418.l],boxA b16 40 [w310.b,w310.l,w411.b,w411.l],boxA u22_1 24 [.int .i64 (((1+pr):Nat):Int),.int .i64 (((1+qr):Nat):Int),.int .i64 m1,.slice u21_1 ((1+pr)*(1+qr)) u21_2],emA,emA,boxA b2 49 [.int .u8 ((na:Nat):Int),.int .u8 ((nb:Nat):Int),.int .u8 ((nc:Nat):Int),.int .u8 ((nd:Nat):Int)],boxA b1 24 [.int .i64 ((w1:Nat):Int),.int .i64 ((vh1:Nat):Int),.int .i64 m1,.slice p1 n1 c1]]) 100000 mixed (.then (.then .ret)) (by kernel_rfl)<|d_pv 0 rfl rfl (by kernel_rfl) (by kernel_rfl) rfl rfl (zf Try.underlying24 rfl sz22 rfl rfl)<|d_u 1 rfl rfl (by kernel_rfl) (by kernel_rfl) rfl rfl (zi 3 ty22 rfl rfl rfl)<|d_pv 3 rfl rfl (by kernel_rfl) (by kernel_rfl) rfl rfl (zf Try.underlying24 rfl sz22 rfl rfl)<|d_u 4 rfl rfl (by kernel_rfl) (by kernel_rfl) rfl rfl (zi 3 ty22 rfl rfl rfl)<|zI 2 (by kernel_rfl) (zRa rfl rfl rfl rfl (.c rfl .n) ce18 (zgf (p:=u21_1) (n:=((1+pr)*(1+qr))) (cap:=u21_2) (l:=(Cr.cutL l1 w1 yy xx (1+pr) (1+qr))) (hn:=by exact hcl9) (h0:=by exact hn0)) (.c (j:=3) rfl .n) ?_)
    refine zI 5 (by kernel_rfl) (zRa rfl rfl rfl rfl (.c rfl .n) ce19 (zhf (p:=u21_1) (n:=((1+pr)*(1+qr))) (cap:=u21_2) (l:=(Cr.cutL l1 w1 yy xx (1+pr) (1+qr))) (hn:=by exact hcl9) (h0:=by exact hn0)) (.c (j:=3) rfl .n) ?_)
    refine d_pv 6 rfl rfl (by kernel_rfl) (by kernel_rfl) rfl rfl (zxa rfl rfl)<|zW (by kernel_rfl)<|zd<|zG rfl (fun hm=> ?_) (fun hm=> ?_)
    ·
     have e27:((if Cr.va (Cr.cutL l1 w1 yy xx (1+pr) (1+qr)) ((1+pr)*(1+qr))=0 then (0:Rat) else 1):Rat)=((0:Int):Rat):=by exact if_pos (hmm.2 hm)
     rw [e27]
     refine zh<|zZ (OW:=[]) (O:=[boxA b26 40 [w324.b,w324.l,w425.b,w425.l],boxA b23 40 [w317.b,w317.l,w418.b,w418.l],boxA b16 40 [w310.b,w310.l,w411.b,w411.l],boxA u22_1 24 [.int .i64 (((1+pr):Nat):Int),.int .i64 (((1+qr):Nat):Int),.int .i64 m1,.slice u21_1 ((1+pr)*(1+qr)) u21_2],emA,emA,boxA b2 49 [.int .u8 ((na:Nat):Int),.int .u8 ((nb:Nat):Int),.int .u8 ((nc:Nat):Int),.int .u8 ((nd:Nat):Int)],boxA b1 24 [.int .i64 ((w1:Nat):Int),.int .i64 ((vh1:Nat):Int),.int .i64 m1,.slice p1 n1 c1]]) 100000 mixed (.then (.then .ret)) (by kernel_rfl)<|d_u 0 rfl rfl (by kernel_rfl) (by kernel_rfl) rfl rfl (ze 2 ty40 rfl rfl (.take (.take (.take (.take .nil)))))<|zI 1 (by kernel_rfl) (zE rfl rfl rfl rfl (.c rfl .n) ce17 (zib (z:=0) (hz:=by first|rfl|assumption|omega|(decide +kernel))) (.n) ?_)
     rintro ⟨w328,w429⟩ -
     dsimp only [List.append_eq,List.nil_append,List.cons_append]
     refine zI 2 (by kernel_rfl) (zRa rfl rfl rfl rfl (.c rfl (.c rfl .n)) ce14 (zjb (u1:=w310) (v1:=w411) (q1:=((0:Int):Rat)) (u2:=w328) (v2:=w429) (q2:=((0:Int):Rat)) (hl:=by first|rfl|assumption|omega|(decide +kernel))) (.c (j:=3) rfl (.c (j:=0) rfl .n)) ?_)
     rw [Cr.self_eq]
     refine d_pv 3 rfl rfl (by kernel_rfl) (by kernel_rfl) rfl rfl (zc rfl)<|zW (by kernel_rfl)<|zd<|zH<|zn ?_
     exact zy Try.results6 () trivial (zp rfl) rfl (ho:=(.n:PickO _ _ _)) (.n:SelR _ _ _)
    ·
     have hva:¬Cr.va (Cr.cutL l1 w1 yy xx (1+pr) (1+qr)) ((1+pr)*(1+qr))=0:=fun k=>hm (hmm.1 k)
     have hbo:=(Cr.best_own hn1 hwh1 hx hy (show 0<1+pr by omega) hva).2
     have e30:((if Cr.va (Cr.cutL l1 w1 yy xx (1+pr) (1+qr)) ((1+pr)*(1+qr))=0 then (0:Rat) else 1):Rat)=((1:Int):Rat):=by exact if_neg hva
     rw [e30]
     have e31:((Cr.pQ (Cr.best (Cr.cutL l1 w1 yy xx (1+pr) (1+qr)) l1 (((1+pr):Nat):Int) (((1+qr):Nat):Int) ((w1:Nat):Int) ((vh1:Nat):Int))):Rat)=((1:Int):Rat):=by exact hbo
     rw [e31]
     refine zC<|zd<|zZa (X:=Unit) (fun x=>True) (fun x=>[(4,.bool (decide ((((1:Int):Rat)=((1:Int):Rat))∧(((1:Int):Rat)=((1:Int):Rat)))))]) (fun x=>[boxA b26 40 (cw [w324,w425]),boxA b23 40 (cw [w317,w418]),boxA b16 40 (cw [w310,w411]),boxA u22_1 24 [.int .i64 (((1+pr):Nat):Int),.int .i64 (((1+qr):Nat):Int),.int .i64 m1,.slice u21_1 ((1+pr)*(1+qr)) u21_2],boxA b2 49 [.int .u8 ((na:Nat):Int),.int .u8 ((nb:Nat):Int),.int .u8 ((nc:Nat):Int),.int .u8 ((nd:Nat):Int)],boxA b1 24 [.int .i64 ((w1:Nat):Int),.int .i64 ((vh1:Nat):Int),.int .i64 m1,.slice p1 n1 c1]]) (fun x=>[qF true w324 w425 ((1:Int):Rat),qF true w317 w418 ((1:Int):Rat),qF true w310 w411 ((1:Int):Rat),slF (rI .i64) u21_1 u21_2 (Cr.cutL l1 w1 yy xx (1+pr) (1+qr)),slF rG (some ⟨b4,0,none⟩) 1 ([(⟨((w1:Nat):Int),((vh1:Nat):Int),m1,p1,n1,c1⟩:Gr)]),slF rG (some ⟨b3,0,none⟩) 1 ([(⟨((w1:Nat):Int),((vh1:Nat):Int),m1,p1,n1,c1⟩:Gr)]),gsF [(⟨((w1:Nat):Int),((vh1:Nat):Int),m1,p1,n1,c1⟩:Gr)] [l1],slF (rI .i64) p1 c1 l1]) ?_ ?_
     ·
      refine zb<|r_u rfl rfl (ze 2 ty40 rfl rfl (.take (.take (.take (.take .nil)))))<|r_u rfl rfl (ze 0 ty40 rfl rfl (.take (.take (.take (.take .nil)))))<|zP rfl rfl (.c rfl (.c rfl .n)) ce14 (zjb (u1:=w310) (v1:=w411) (q1:=((1:Int):Rat)) (u2:=w324) (v2:=w425) (q2:=((1:Int):Rat)) (hl:=by first|rfl|assumption|omega|(decide +kernel))) (.c (j:=2) rfl (.c (j:=0) rfl .n)) ?_
      rw [Cr.self_eq]
      refine r_pv rfl rfl (za rfl)<|r_u rfl rfl (ze 1 ty40 rfl rfl (.take (.take (.take (.take .nil)))))<|r_u rfl rfl (ze 0 ty40 rfl rfl (.take (.take (.take (.take .nil)))))<|zP rfl rfl (.c rfl (.c rfl .n)) ce14 (zjb (u1:=w317) (v1:=w418) (q1:=((1:Int):Rat)) (u2:=w324) (v2:=w425) (q2:=((1:Int):Rat)) (hl:=by first|rfl|assumption|omega|(decide +kernel))) (.c (j:=1) rfl (.c (j:=0) rfl .n)) ?_
      rw [Cr.self_eq]
      refine r_pv rfl rfl (zw rfl rfl)<|r_pv rfl rfl (zc rfl)<|zj ?_
      exact zna () (show True from by first|trivial|omega|simp_all) ((.e rfl (congrArg Value.bool (by first|(simp_all;done)|(simp_all;omega)|(simp;omega)|omega)) .n):SubM _ _) (ho:=((.of [0,0,0,0,2,2] rfl):PickO _ _ _)) ((.of [0,1,2,3,4,5,6,7] rfl):SelR _ _ _)
     ·
      rintro ⟨⟩ -
      try dsimp only [cw]
      refine zH ?_
      exact zy Try.results6 () trivial (zp rfl) rfl (ho:=(.n:PickO _ _ _)) (.n:SelR _ _ _)
   refine zAa (X:=Option Addr×Nat×Nat) (k':=1) (L':=(lb 24 8388607)) (fun (u21_1,u21_2,u22_1)=>([(7,.pointer (some ⟨u22_1,0,none⟩)),(60,.agg #[.int .i64 (((1+pr):Nat):Int),.int .i64 (((1+qr):Nat):Int),.int .i64 m1,.slice u21_1 ((1+pr)*(1+qr)) u21_2]),(6,.int .i64 ((yy:Nat):Int)),(5,.int .i64 ((xx:Nat):Int)),(4,.bool false),(2,.pointer (some ⟨b1,0,none⟩))],[boxA u22_1 24 [.int .i64 0,.int .i64 0,.int .i64 0,.slice none 0 0]],[emA,emA,boxA b2 49 [.int .u8 ((na:Nat):Int),.int .u8 ((nb:Nat):Int),.int .u8 ((nc:Nat):Int),.int .u8 ((nd:Nat):Int)],boxA b1 24 [.int .i64 ((w1:Nat):Int),.int .i64 ((vh1:Nat):Int),.int .i64 m1,.slice p1 n1 c1]],[slF (rI .i64) u21_1 u21_2 (Cr.cutL l1 w1 yy xx (1+pr) (1+qr)),slF rG (some ⟨b4,0,none⟩) 1 ([(⟨((w1:Nat):Int),((vh1:Nat):Int),m1,p1,n1,c1⟩:Gr)]),slF rG (some ⟨b3,0,none⟩) 1 ([(⟨((w1:Nat):Int),((vh1:Nat):Int),m1,p1,n1,c1⟩:Gr)]),gsF [(⟨((w1:Nat):Int),((vh1:Nat):Int),m1,p1,n1,c1⟩:Gr)] [l1],slF (rI .i64) p1 c1 l1])) ?_ (fun hD1=> ?_)
   ·
    rintro ⟨u21_1,u21_2,u22_1⟩
    dsimp only
    refine zI 23 (by kernel_rfl) ?_
    ·
     refine zz (by kernel_rfl) rfl rfl rfl rfl rfl sz24 rfl (.take (.take (.take (.take .nil)))) ?_
     exact zla (hD0 (u21_1,u21_2,u22_1)) (by kernel_rfl) ((.of rfl):SubM _ _) .rfl .rfl ((.of [0,1,2,3,4] rfl):SelR _ _ _)
   refine zAa (X:=Option Addr×Nat) (k':=2) (L':=(lb 24 4194303)) (fun (u21_1,u21_2)=>([(60,.agg #[.int .i64 (((1+pr):Nat):Int),.int .i64 (((1+qr):Nat):Int),.int .i64 m1,.slice u21_1 ((1+pr)*(1+qr)) u21_2]),(6,.int .i64 ((yy:Nat):Int)),(5,.int .i64 ((xx:Nat):Int)),(4,.bool false),(2,.pointer (some ⟨b1,0,none⟩))],[],[emA,emA,boxA b2 49 [.int .u8 ((na:Nat):Int),.int .u8 ((nb:Nat):Int),.int .u8 ((nc:Nat):Int),.int .u8 ((nd:Nat):Int)],boxA b1 24 [.int .i64 ((w1:Nat):Int),.int .i64 ((vh1:Nat):Int),.int .i64 m1,.slice p1 n1 c1]],[slF (rI .i64) u21_1 u21_2 (Cr.cutL l1 w1 yy xx (1+pr) (1+qr)),slF rG (some ⟨b4,0,none⟩) 1 ([(⟨((w1:Nat):Int),((vh1:Nat):Int),m1,p1,n1,c1⟩:Gr)]),slF rG (some ⟨b3,0,none⟩) 1 ([(⟨((w1:Nat):Int),((vh1:Nat):Int),m1,p1,n1,c1⟩:Gr)]),gsF [(⟨((w1:Nat):Int),((vh1:Nat):Int),m1,p1,n1,c1⟩:Gr)] [l1],slF (rI .i64) p1 c1 l1])) ?_ (fun hD2=> ?_)
   ·
    rintro ⟨u21_1,u21_2⟩
    dsimp only
    refine zI 22 (by kernel_rfl) ?_
    ·
     refine zgb rfl rfl rfl rfl (zB zr24 rfl) (fun u22_1 _=> ?_)
     exact zla (hD1 (u21_1,u21_2,u22_1)) (by kernel_rfl) ((.of rfl):SubM _ _) .rfl .rfl ((.of [0,1,2,3,4] rfl):SelR _ _ _)
   refine zAa (X:=Nat) (k':=2) (L':=(lb 24 6291455)) (fun u22_1=>([(7,.pointer (some ⟨u22_1,0,none⟩)),(59,.int .i64 (((1+qr):Nat):Int)),(50,.int .i64 (((1+pr):Nat):Int)),(41,.int .i64 ((yy:Nat):Int)),(40,.int .i64 ((xx:Nat):Int)),(39,.agg #[.int .i64 ((w1:Nat):Int),.int .i64 ((vh1:Nat):Int),.int .i64 m1,.slice p1 n1 c1]),(6,.int .i64 ((yy:Nat):Int)),(5,.int .i64 ((xx:Nat):Int)),(4,.bool false),(2,.pointer (some ⟨b1,0,none⟩))],[boxA u22_1 24 [.int .i64 0,.int .i64 0,.int .i64 0,.slice none 0 0]],[emA,emA,boxA b2 49 [.int .u8 ((na:Nat):Int),.int .u8 ((nb:Nat):Int),.int .u8 ((nc:Nat):Int),.int .u8 ((nd:Nat):Int)],boxA b1 24 [.int .i64 ((w1:Nat):Int),.int .i64 ((vh1:Nat):Int),.int .i64 m1,.slice p1 n1 c1]],[slF rG (some ⟨b4,0,none⟩) 1 ([(⟨((w1:Nat):Int),((vh1:Nat):Int),m1,p1,n1,c1⟩:Gr)]),slF rG (some ⟨b3,0,none⟩) 1 ([(⟨((w1:Nat):Int),((vh1:Nat):Int),m1,p1,n1,c1⟩:Gr)]),gsF [(⟨((w1:Nat):Int),((vh1:Nat):Int),m1,p1,n1,c1⟩:Gr)] [l1],slF (rI .i64) p1 c1 l1])) ?_ (fun hD3=> ?_)
   ·
    rintro u22_1
    dsimp only
    refine zI 21 (by kernel_rfl) ?_
    ·
     refine zE rfl rfl rfl rfl (.c rfl (.c rfl (.c rfl (.c rfl (.c rfl .n))))) ce15 (zSe (w2:=w1) (vh2:=vh1) (m2:=m1) (p2:=p1) (n2:=n1) (c2:=c1) (l2:=l1) (xx:=xx) (yy:=yy) (pw:=(1+pr)) (ph:=(1+qr)) (hn2:=by assumption) (hw2:=by first|rfl|assumption|omega|(decide +kernel)) (hh2:=by first|rfl|assumption|omega|(decide +kernel)) (hwh2:=by first|rfl|assumption|omega|(decide +kernel)) (hb2:=by first|rfl|assumption|omega|(decide +kernel)) (hg2:=by first|rfl|assumption|omega|(decide +kernel)) (hx:=by first|rfl|assumption|omega|(decide +kernel)) (hy:=by first|rfl|assumption|omega|(decide +kernel))) (.c (j:=3) rfl .n) ?_
     rintro ⟨u21_1,u21_2⟩ -
     dsimp only [List.append_eq,List.nil_append,List.cons_append]
     exact zla (hD1 (u21_1,u21_2,u22_1)) (by kernel_rfl) ((.of rfl):SubM _ _) .rfl .rfl ((.of [0,1,2,3,4] rfl):SelR _ _ _)
   refine zDc 21 22 (by kernel_rfl) ?_ ?_
   ·
    refine zE rfl rfl rfl rfl (.c rfl (.c rfl (.c rfl (.c rfl (.c rfl .n))))) ce15 (zSe (w2:=w1) (vh2:=vh1) (m2:=m1) (p2:=p1) (n2:=n1) (c2:=c1) (l2:=l1) (xx:=xx) (yy:=yy) (pw:=(1+pr)) (ph:=(1+qr)) (hn2:=by assumption) (hw2:=by first|rfl|assumption|omega|(decide +kernel)) (hh2:=by first|rfl|assumption|omega|(decide +kernel)) (hwh2:=by first|rfl|assumption|omega|(decide +kernel)) (hb2:=by first|rfl|assumption|omega|(decide +kernel)) (hg2:=by first|rfl|assumption|omega|(decide +kernel)) (hx:=by first|rfl|assumption|omega|(decide +kernel)) (hy:=by first|rfl|assumption|omega|(decide +kernel))) (.c (j:=3) rfl .n) ?_
    rintro ⟨u21_1,u21_2⟩ -
    dsimp only [List.append_eq,List.nil_append,List.cons_append]
    exact zla (hD2 (u21_1,u21_2)) (by kernel_rfl) ((.of rfl):SubM _ _) .rfl .rfl ((.of [0,1,2,3,4] rfl):SelR _ _ _)
   ·
    refine zgb rfl rfl rfl rfl (zB zr24 rfl) (fun u22_1 _=> ?_)
    exact zla (hD3 u22_1) (by kernel_rfl) ((.of rfl):SubM _ _) .rfl .rfl ((.of [0,1,2,3] rfl):SelR _ _ _)
end Go.Proofs.Ytkamccndgblheaa.Sp
