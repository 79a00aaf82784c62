/- Lemmas on the walk and plain lemmas that the claim of this folder uses; each states its own conditions. Lines were printed by a program of ours. -/
import Derived.Test.YtkamccndgblheaaGreatZ4D
set_option linter.unusedVariables false
set_option linter.unusedSimpArgs false
set_option linter.unusedSectionVars false
namespace Go.Proofs.YtkamccndgblheaaGreat.Cr
def wn (l:List Int) (w y x pw k:Nat):Int:=px l ((y+k / pw)*w+(x+k%pw))
theorem box_wn (l:List Int) (w y x:Nat) {pw:Nat} (hp:0<pw) (ph:Nat):box (px l) w y x ph pw=sumN (wn l w y x pw) (pw*ph):=(sumN_lin (fun j i=>px l ((y+j)*w+(x+i))) hp ph).symm
theorem boxq_wn (l:List Int) (w y x:Nat) {pw:Nat} (hp:0<pw) (ph:Nat):box (sq l) w y x ph pw=sumN (fun k=>wn l w y x pw k*wn l w y x pw k) (pw*ph):=(sumN_lin (fun j i=>sq l ((y+j)*w+(x+i))) hp ph).symm
section
variable {l1 l2 : List Int} {w1 h1 n1 w2 y x : Nat} (h1n : n1 = w1 * h1) (hw : 0 < w1)
include h1n hw
theorem vb_is:vb l2 w1 h1 n1 w2 y x=vr (wn l2 w2 y x w1) n1:=by
  unfold vb vr;rw [box_wn l2 w2 y x hw,boxq_wn l2 w2 y x hw,←h1n]
theorem cc_is:cc l1 l2 w1 h1 n1 w2 y x=cv (px l1) (wn l2 w2 y x w1) n1:=by
  unfold cc cv;rw [box_wn l2 w2 y x hw,←h1n]
  congr 2;unfold crs;exact sumN_congr fun i _=>by unfold wn;rw [Nat.add_assoc]
end
end Go.Proofs.YtkamccndgblheaaGreat.Cr
namespace Go.Proofs.YtkamccndgblheaaGreat.Sp
open Go
set_option linter.unusedVariables false
set_option maxRecDepth 100000
set_option maxHeartbeats 1000000
theorem zDf {p:Option Addr} {n:Nat} {cap:Nat} {l:List Gr} (hn:l.length=n):Con Tryz.prog 8 [.slice p n cap] [] [slF rG p cap l] (Y:=Unit) (fun y=>True) (fun y=> .bool (decide (∀g∈l,g.n≤150))) (fun y=>[]) (fun y=>[]):=by
 refine zp Tryz.func8 rfl rfl rfl (fun c=> ?_)
 show RunC _ _ _ _ _ [(0,.slice p n cap)] [] [slF rG p cap l]
 refine zX 0 rfl (fun hL0=> ?_)
 refine zh<|zb<|r_pv rfl rfl (zc rfl)<|zj<|zd<|zh<|zh<|zb<|r_pv rfl rfl (za rfl)<|r_pv rfl rfl (zO Tryz.underlying77 rfl)<|r_pv rfl rfl (za rfl)<|zj<|zd<|zx<|zka (X:=Nat) (fun x:Nat=>x≤n∧∀j,j<x→(l.getD j gr0).n≤150) (fun x=>[(7,.int .i64 ((x:Nat):Int)),(6,.int .i64 ((n:Nat):Int)),(5,.slice p n cap)]) (fun x=>[]) (fun x=>[slF rG p cap l]) (fun x:Nat=>n - x) 0 (show 0≤n∧∀j,j<0→(l.getD j gr0).n≤150 from by exact ⟨by omega,fun j h=>by omega⟩) ((.e rfl (by first|rfl|(congr 1;omega)|simp_all) (.c rfl (.c rfl .n))):SubM _ _) (ho:=(.n:PickO _ _ _)) ((.c (j:=0) rfl .n):SelR _ _ _) ?_
 rintro i hI
 replace hI:i≤n∧∀j,j<i→(l.getD j gr0).n≤150:=hI
 try dsimp only
 obtain ⟨hi,hall⟩:=hI
 refine zh<|zb<|r_pv rfl rfl (zia rfl rfl)<|zj<|zd<|zh<|zG rfl (fun h1=> ?_) (fun h1=> ?_)
 ·
  refine zA<|zd<|zh<|zx<|zh<|zb<|zV (x0:=(l.getD i gr0)) 0 i rfl Tryz.underlying77 sz24 rfl rfl rfl (by first|rfl|assumption|(simp_all;done)|omega) rfl rfl (gD (d:=gr0) (by omega)) (fun b2 o3 hok4=> ?_)
  obtain ⟨hok40,hok41,hok42⟩:=hok4
  replace hok40:=zW.1 hok40
  replace hok41:=zW.1 hok41
  replace hok42:=zW.1 hok42
  refine r_u rfl rfl (zxa (j:=0) 0 ty24 rfl rfl rfl (.take (.take (.take (.take .nil)))))<|zK rfl rfl (zD zr24 rfl) (fun b5=> ?_)
  refine zm 0 rfl rfl rfl rfl rfl sz24 rfl (.take (.take (.take (.take .nil)))) .z<|zj<|zd<|zh<|zb<|r_pv rfl rfl (zg Tryz.underlying24 rfl sz22 rfl rfl)<|r_u rfl rfl (zi 0 ty22 rfl rfl rfl)<|r_pv rfl rfl (zO Tryz.underlying22 rfl)<|r_pv rfl rfl (zva rfl rfl)<|zj<|zd<|zG rfl (fun hb=> ?_) (fun hb=> ?_)
  ·
   refine zh<|zb<|r_pv rfl rfl (zc rfl)<|zj<|zd<|zI<|zY<|zn<|zn<|zY<|zn ?_
   exact zB Tryz.results8 () trivial (zo rfl) (congrArg Value.bool (decide_eq_false (fun k=>by have h9:=k _ (Cr.getD_memG (l:=l) (i:=i) (d:=gr0) (by omega));omega))) (ho:=(.n:PickO _ _ _)) (.n:SelR _ _ _)
  ·
   refine zA<|zR<|zd<|zb<|r_pv rfl rfl (zC (z:=(((i+1):Nat):Int)) rfl rfl (w64 (by omega)))<|r_pv rfl rfl (za rfl)<|zj<|zfa (i+1) (show (i+1)≤n∧∀j,j<(i+1)→(l.getD j gr0).n≤150 from by refine ⟨by omega,fun j hj=> ?_⟩;by_cases e:j=i;subst e;omega;exact hall j (by omega)) (by show n - (i+1)<n - i;omega) ((.of rfl):SubM _ _) (ho:=(.n:PickO _ _ _)) ((.c (j:=1) rfl .n):SelR _ _ _)
 ·
  refine zha<|zl<|zl<|zv<|zd<|zh<|zb<|r_pv rfl rfl (zc rfl)<|zj<|zd<|zI ?_
  exact zB Tryz.results8 () trivial (zo rfl) (congrArg Value.bool (decide_eq_true (fun g hg=>by obtain ⟨j,hj,e⟩:=Cr.mem_getDG (d:=gr0) hg;have h9:=hall j (by rw [hn] at hj;omega);rw [e] at h9;exact h9))) (ho:=(.n:PickO _ _ _)) (.n:SelR _ _ _)
theorem zud {p:Option Addr} {n:Nat} {cap:Nat} {l:List Gr} {ls:List (List Int)} (hn:l.length=n) (hls:∀i,i<n→(ls.getD i []).length=(l.getD i gr0).n):Con Tryz.prog 10 [.slice p n cap] [] [slF rG p cap l,gsF l ls] (Y:=Unit) (fun y=>True) (fun y=> .int .i64 (if (Cr.allok l ls n) then 0 else 1)) (fun y=>[]) (fun y=>[]):=by
 refine zp Tryz.func10 rfl rfl rfl (fun c=> ?_)
 show RunC _ _ _ _ _ [(0,.slice p n cap)] [] [slF rG p cap l,gsF l ls]
 refine zX 0 rfl (fun hL0=> ?_)
 refine zh<|zb<|r_pv rfl rfl (zc rfl)<|zj<|zd<|zh<|zh<|zb<|r_pv rfl rfl (za rfl)<|r_pv rfl rfl (zO Tryz.underlying77 rfl)<|r_pv rfl rfl (za rfl)<|zj<|zd<|zx<|zka (X:=Nat) (fun x:Nat=>x≤n∧∀j,j<x→Bl.rok (l.getD j gr0).w (l.getD j gr0).h (l.getD j gr0).m (ls.getD j [])) (fun x=>[(8,.int .i64 ((x:Nat):Int)),(7,.int .i64 ((n:Nat):Int)),(6,.slice p n cap)]) (fun x=>[]) (fun x=>[slF rG p cap l,gsF l ls]) (fun x:Nat=>n - x) 0 (show 0≤n∧∀j,j<0→Bl.rok (l.getD j gr0).w (l.getD j gr0).h (l.getD j gr0).m (ls.getD j []) from by exact ⟨by omega,fun j h=>by omega⟩) ((.e rfl (by first|rfl|(congr 1;omega)|simp_all) (.c rfl (.c rfl .n))):SubM _ _) (ho:=(.n:PickO _ _ _)) ((.of [0,1] rfl):SelR _ _ _) ?_
 rintro i hI
 replace hI:i≤n∧∀j,j<i→Bl.rok (l.getD j gr0).w (l.getD j gr0).h (l.getD j gr0).m (ls.getD j []):=hI
 try dsimp only
 obtain ⟨hi,hall⟩:=hI
 refine zh<|zb<|r_pv rfl rfl (zia rfl rfl)<|zj<|zd<|zh<|zG rfl (fun h1=> ?_) (fun h1=> ?_)
 ·
  refine zA<|zd<|zh<|zx<|zh<|zb<|zV (x0:=(l.getD i gr0)) 0 i rfl Tryz.underlying77 sz24 rfl rfl rfl (by first|rfl|assumption|(simp_all;done)|omega) rfl rfl (gD (d:=gr0) (by omega)) (fun b2 o3 hok4=> ?_)
  obtain ⟨hok40,hok41,hok42⟩:=hok4
  replace hok40:=zW.1 hok40
  replace hok41:=zW.1 hok41
  replace hok42:=zW.1 hok42
  refine r_u rfl rfl (zxa (j:=0) 0 ty24 rfl rfl rfl (.take (.take (.take (.take .nil)))))<|zK rfl rfl (zD zr24 rfl) (fun b5=> ?_)
  refine zm 0 rfl rfl rfl rfl rfl sz24 rfl (.take (.take (.take (.take .nil)))) .z<|zj<|zd<|zh<|zYb (slF (rI .i64) ((l.getD i gr0).p) ((l.getD i gr0).c) (ls.getD i [])) (gsF_get 2 rfl i (by omega))<|zb<|r_u rfl rfl (ze 0 ty24 rfl rfl (.take (.take (.take (.take .nil)))))<|zN rfl rfl (.c rfl .n) ce38 (zEd (w:=(l.getD i gr0).w) (h:=(l.getD i gr0).h) (m:=(l.getD i gr0).m) (p:=(l.getD i gr0).p) (n:=(l.getD i gr0).n) (cap:=(l.getD i gr0).c) (l:=(ls.getD i [])) (hn:=by first|rfl|assumption|exact hls i (by omega)|omega)) (.c (j:=0) rfl .n)<|r_pv rfl rfl (zc rfl)<|zj<|zd<|zh<|zb<|r_pv rfl rfl (za rfl)<|r_pv rfl rfl (zDa rfl rfl)<|zj<|zd<|zG rfl (fun hb=> ?_) (fun hb=> ?_)
  ·
   refine zh<|zb<|r_pv rfl rfl (za rfl)<|r_pv rfl rfl (zc rfl)<|zj<|zd<|zI<|zY<|zn<|zn<|zY<|zn ?_
   exact zB Tryz.results10 () trivial (zo rfl) (by rw [if_neg (fun k=>hb (if_pos k)),if_neg (fun k=>hb (if_pos (k i (by omega))))]) (ho:=(.n:PickO _ _ _)) (.n:SelR _ _ _)
  ·
   refine zA<|zR<|zd<|zb<|r_pv rfl rfl (zC (z:=(((i+1):Nat):Int)) rfl rfl (w64 (by omega)))<|r_pv rfl rfl (za rfl)<|zj<|zfa (i+1) (show (i+1)≤n∧∀j,j<(i+1)→Bl.rok (l.getD j gr0).w (l.getD j gr0).h (l.getD j gr0).m (ls.getD j []) from by refine ⟨by omega,fun j hj=> ?_⟩;by_cases e:j=i;subst e;exact Bl.c0.1 (Decidable.not_not.1 hb);exact hall j (by omega)) (by show n - (i+1)<n - i;omega) ((.of rfl):SubM _ _) (ho:=(.n:PickO _ _ _)) ((.of [2,3] rfl):SelR _ _ _)
 ·
  refine zha<|zl<|zl<|zv<|zd<|zh<|zb<|r_pv rfl rfl (zc rfl)<|zj<|zd<|zI ?_
  exact zB Tryz.results10 () trivial (zo rfl) (by rw [if_pos (show (Cr.allok l ls n) from fun j hj=>hall j (by omega))]) (ho:=(.n:PickO _ _ _)) (.n:SelR _ _ _)
theorem zPc {wi1:Int} {hi1:Int} {m1:Int} {p1:Option Addr} {n1:Nat} {c1:Nat} {l1:List Int} {wi2:Int} {hi2:Int} {m2:Int} {p2:Option Addr} {n2:Nat} {c2:Nat} {l2:List Int} {ex:Int} {ey:Int} (hok:(Cr.rk2 wi1 hi1 m1 l1 wi2 hi2 m2 l2)):Con Tryz.prog 11 [.agg #[.int .i64 wi1,.int .i64 hi1,.int .i64 m1,.slice p1 n1 c1],.agg #[.int .i64 wi2,.int .i64 hi2,.int .i64 m2,.slice p2 n2 c2],.int .i64 ex,.int .i64 ey] [] [] (Y:=Unit) (fun y=>True) (fun y=> .bool (decide (Cr.pos wi1 hi1 wi2 hi2 ex ey))) (fun y=>[]) (fun y=>[]):=by
 refine zp Tryz.func11 rfl rfl rfl (fun c=> ?_)
 show RunC _ _ _ _ _ [(0,.agg #[.int .i64 wi1,.int .i64 hi1,.int .i64 m1,.slice p1 n1 c1]),(1,.agg #[.int .i64 wi2,.int .i64 hi2,.int .i64 m2,.slice p2 n2 c2]),(2,.int .i64 ex),(3,.int .i64 ey)] [] []
 obtain ⟨⟨hw1,hh1,_,_,_⟩,hw2,hh2,_,_,_⟩:=hok
 refine zh<|zb<|zK rfl rfl (zQ rfl rfl) (fun b1=> ?_)
 refine zK rfl rfl (zQ rfl rfl) (fun b2=> ?_)
 refine r_pv rfl rfl (zc rfl)<|zj<|zd<|zcb (X:=Unit) (fun x=>True) (fun x=>[(8,.bool (decide ((((0≤ex)∧(0≤ey))∧(ex≤(wi2 - wi1)))∧(ey≤(hi2 - hi1)))))]) (fun x=>[boxA b2 24 [.int .i64 wi2,.int .i64 hi2,.int .i64 m2,.slice p2 n2 c2],boxA b1 24 [.int .i64 wi1,.int .i64 hi1,.int .i64 m1,.slice p1 n1 c1]]) (fun x=>[]) ?_ ?_
 ·
  refine zb<|r_pv rfl rfl (za rfl)<|r_pv rfl rfl (zTa rfl rfl)<|zga rfl rfl (za rfl) (fun h3=> ?_) (fun h3=> ?_)
  ·
   refine r_pv rfl rfl (za rfl)<|r_pv rfl rfl (zTa rfl rfl)<|r_pv rfl rfl (zr rfl rfl)<|zga rfl rfl (za rfl) (fun h4=> ?_) (fun h4=> ?_)
   ·
    refine r_pv rfl rfl (za rfl)<|r_pv rfl rfl (zg Tryz.underlying24 rfl sz3 rfl rfl)<|r_u rfl rfl (zi 0 ty3 rfl rfl rfl)<|r_pv rfl rfl (zg Tryz.underlying24 rfl sz3 rfl rfl)<|r_u rfl rfl (zi 1 ty3 rfl rfl rfl)<|r_pv rfl rfl (zaa (z:=(wi2 - wi1)) rfl rfl (w64 (by omega)))<|r_pv rfl rfl (zpb rfl rfl)<|r_pv rfl rfl (zr rfl rfl)<|zga rfl rfl (za rfl) (fun h5=> ?_) (fun h5=> ?_)
    ·
     refine r_pv rfl rfl (za rfl)<|r_pv rfl rfl (zg Tryz.underlying24 rfl sz3 rfl rfl)<|r_u rfl rfl (zi 0 ty3 rfl rfl rfl)<|r_pv rfl rfl (zg Tryz.underlying24 rfl sz3 rfl rfl)<|r_u rfl rfl (zi 1 ty3 rfl rfl rfl)<|r_pv rfl rfl (zaa (z:=(hi2 - hi1)) rfl rfl (w64 (by omega)))<|r_pv rfl rfl (zpb rfl rfl)<|r_pv rfl rfl (zr rfl rfl)<|r_pv rfl rfl (zc rfl)<|zj ?_
     exact zma () (show True from by first|trivial|omega|simp_all) ((.e rfl (congrArg Value.bool (by first|(simp_all;done)|(simp_all;omega)|(simp;omega)|omega)) .n):SubM _ _) (ho:=((.of [0,0] rfl):PickO _ _ _)) (.n:SelR _ _ _)
    ·
     refine zf rfl rfl<|zf rfl rfl<|zf rfl rfl<|zf rfl rfl<|zf rfl rfl<|zf rfl rfl<|zf rfl rfl<|r_pv rfl rfl (zr rfl rfl)<|r_pv rfl rfl (zc rfl)<|zj ?_
     exact zma () (show True from by first|trivial|omega|simp_all) ((.e rfl (congrArg Value.bool (by first|(simp_all;done)|(simp_all;omega)|(simp;omega)|omega)) .n):SubM _ _) (ho:=((.of [0,0] rfl):PickO _ _ _)) (.n:SelR _ _ _)
   ·
    refine zf rfl rfl<|zf rfl rfl<|zf rfl rfl<|zf rfl rfl<|zf rfl rfl<|zf rfl rfl<|zf rfl rfl<|r_pv rfl rfl (zr rfl rfl)<|r_pv rfl rfl (za rfl)<|zf rfl rfl<|zf rfl rfl<|zf rfl rfl<|zf rfl rfl<|zf rfl rfl<|zf rfl rfl<|zf rfl rfl<|r_pv rfl rfl (zr rfl rfl)<|r_pv rfl rfl (zc rfl)<|zj ?_
    exact zma () (show True from by first|trivial|omega|simp_all) ((.e rfl (congrArg Value.bool (by first|(simp_all;done)|(simp_all;omega)|(simp;omega)|omega)) .n):SubM _ _) (ho:=((.of [0,0] rfl):PickO _ _ _)) (.n:SelR _ _ _)
  ·
   refine zf rfl rfl<|zf rfl rfl<|r_pv rfl rfl (zr rfl rfl)<|r_pv rfl rfl (za rfl)<|zf rfl rfl<|zf rfl rfl<|zf rfl rfl<|zf rfl rfl<|zf rfl rfl<|zf rfl rfl<|zf rfl rfl<|r_pv rfl rfl (zr rfl rfl)<|r_pv rfl rfl (za rfl)<|zf rfl rfl<|zf rfl rfl<|zf rfl rfl<|zf rfl rfl<|zf rfl rfl<|zf rfl rfl<|zf rfl rfl<|r_pv rfl rfl (zr rfl rfl)<|r_pv rfl rfl (zc rfl)<|zj ?_
   exact zma () (show True from by first|trivial|omega|simp_all) ((.e rfl (congrArg Value.bool (by first|(simp_all;done)|(simp_all;omega)|(simp;omega)|omega)) .n):SubM _ _) (ho:=((.of [0,0] rfl):PickO _ _ _)) (.n:SelR _ _ _)
 ·
  rintro ⟨⟩ -
  try dsimp only
  refine zI ?_
  exact zB Tryz.results11 () trivial (zo rfl) (congrArg Value.bool (decide_eq_decide.2 (by unfold Cr.pos;constructor <;> intro k <;> omega))) (ho:=(.n:PickO _ _ _)) (.n:SelR _ _ _)
end Go.Proofs.YtkamccndgblheaaGreat.Sp
namespace Go.Proofs.YtkamccndgblheaaGreat.Sp
open Go
set_option linter.unusedVariables false
set_option maxRecDepth 100000
set_option maxHeartbeats 1000000
theorem zZe:Con Tryz.prog 7 [] [] [] (Y:=Unit) (fun y=>True) (fun y=> .bool true) (fun y=>[]) (fun y=>[]):=by
 refine zp Tryz.func7 rfl rfl rfl (fun c=> ?_)
 show RunC _ _ _ _ _ [] [] []
 refine zh<|zb<|r_pv rfl rfl (zc rfl)<|zj<|zd<|zh<|zb<|zwa rfl rfl (zS (enc:=fun z:Int=>[.int .i64 z]) (ok:=InK .i64) (h1:=fun _=>rfl) (h2:=fun _=>rfl) (k:=2) Tryz.underlying22 inf3 rfl (by decide) (by decide) (by decide) (.c (x:=1) rfl rfl (fun _ _=>by exact zW.2 (by omega)) (.c (x:=3) rfl rfl (fun _ _=>by exact zW.2 (by omega)) .n))) (fun b1 _=> ?_)
 refine r_pv rfl rfl (zM zr24 rfl Tryz.underlying24 (.c sz3 (.c sz3 (.c sz3 (.c sz22 .n)))) (.c rfl (.c rfl (.c rfl (.c rfl .n)))) (.c rfl rfl rfl (.take .nil) (.c rfl rfl rfl (.skip (.take .nil)) (.c rfl rfl rfl (.skip (.skip (.take .nil))) (.c rfl rfl rfl (.skip (.skip (.skip (.take .nil)))) .n)))))<|zwa rfl rfl (zS (enc:=fun z:Int=>[.int .i64 z]) (ok:=InK .i64) (h1:=fun _=>rfl) (h2:=fun _=>rfl) (k:=3) Tryz.underlying22 inf3 rfl (by decide) (by decide) (by decide) (.c (x:=2) rfl rfl (fun _ _=>by exact zW.2 (by omega)) (.c (x:=4) rfl rfl (fun _ _=>by exact zW.2 (by omega)) (.c (x:=3) rfl rfl (fun _ _=>by exact zW.2 (by omega)) .n)))) (fun b2 _=> ?_)
 refine r_pv rfl rfl (zM zr24 rfl Tryz.underlying24 (.c sz3 (.c sz3 (.c sz3 (.c sz22 .n)))) (.c rfl (.c rfl (.c rfl (.c rfl .n)))) (.c rfl rfl rfl (.take .nil) (.c rfl rfl rfl (.skip (.take .nil)) (.c rfl rfl rfl (.skip (.skip (.take .nil))) (.c rfl rfl rfl (.skip (.skip (.skip (.take .nil)))) .n)))))<|zK rfl rfl (zD zr24 rfl) (fun b3=> ?_)
 refine zK rfl rfl (zD zr24 rfl) (fun b4=> ?_)
 refine zm 1 rfl rfl rfl rfl rfl sz24 rfl (.take (.take (.take (.take .nil)))) (.s .z)<|zm 0 rfl rfl rfl rfl rfl sz24 rfl (.take (.take (.take (.take .nil)))) .z<|zj<|zd<|zh<|zb<|r_u rfl rfl (ze 1 ty24 rfl rfl (.take (.take (.take (.take .nil)))))<|r_u rfl rfl (ze 0 ty24 rfl rfl (.take (.take (.take (.take .nil)))))<|zja 3 rfl (.s (.s (.s .z)))<|zja 2 rfl (.s (.s .z))<|zw rfl rfl (.c rfl (.c rfl (.c rfl (.c rfl .n)))) ce9 (zYe (wi1:=2) (hi1:=1) (m1:=9) (p1:=some ⟨b1,0,none⟩) (n1:=2) (c1:=2) (l1:=[1,3]) (wi2:=3) (hi2:=1) (m2:=9) (p2:=some ⟨b2,0,none⟩) (n2:=3) (c2:=3) (l2:=[2,4,3]) (ex:=1) (ey:=0) (hn1:=by first|rfl|assumption|omega|decide|(decide +kernel)) (hn2:=by first|rfl|assumption|omega|decide|(decide +kernel))) (.c (j:=1) rfl (.c (j:=0) rfl .n)) ?_
 rintro ⟨w35,w46⟩ hy7
 dsimp only [List.append_eq,List.nil_append,List.cons_append]
 replace hy7:(Cr.sok 2 1 9 ([1,3]) 3 1 9 ([2,4,3]) 1 0)∨(w35=wz∧w46=wz):=hy7
 have e8:((if (Cr.rk2 2 1 9 ([1,3]) 3 1 9 ([2,4,3])) then (if (Cr.pos 2 1 3 1 1 0) then 0 else 15) else 1):Int)=0:=by decide +kernel
 rw [e8]
 have e9:((if (Cr.sok 2 1 9 ([1,3]) 3 1 9 ([2,4,3]) 1 0) then (Cr.scq ([1,3]) ([2,4,3]) 2 1 3 1 0) else 0):Rat)=((-1:Int):Rat):=by decide +kernel
 rw [e9]
 have e10:(decide (Cr.sok 2 1 9 ([1,3]) 3 1 9 ([2,4,3]) 1 0))=true:=by decide +kernel
 rw [e10]
 refine r_pv rfl rfl (za rfl)<|r_pv rfl rfl (zq rfl rfl)<|r_pv rfl rfl (zq rfl rfl)<|zK rfl rfl (zD zr32 rfl) (fun b11=> ?_)
 refine zm 0 rfl rfl rfl rfl rfl sz32 rfl (.take (.take (.take (.take .nil)))) .z<|r_pv rfl rfl (zc rfl)<|zj<|zd<|zh<|zb<|r_u rfl rfl (ze 2 ty24 rfl rfl (.take (.take (.take (.take .nil)))))<|r_u rfl rfl (ze 1 ty24 rfl rfl (.take (.take (.take (.take .nil)))))<|zw rfl rfl (.c rfl (.c rfl .n)) ce18 (zhe (wi1:=2) (hi1:=1) (m1:=9) (p1:=some ⟨b1,0,none⟩) (n1:=2) (c1:=2) (l1:=[1,3]) (wi2:=3) (hi2:=1) (m2:=9) (p2:=some ⟨b2,0,none⟩) (n2:=3) (c2:=3) (l2:=[2,4,3]) (hn1:=by first|rfl|assumption|omega|decide|(decide +kernel)) (hn2:=by first|rfl|assumption|omega|decide|(decide +kernel))) (.c (j:=2) rfl (.c (j:=1) rfl .n)) ?_
 rintro ⟨w312,w413⟩ hy14
 dsimp only [List.append_eq,List.nil_append,List.cons_append]
 replace hy14:((if (Cr.rk2 2 1 9 ([1,3]) 3 1 9 ([2,4,3])) then Cr.best ([1,3]) ([2,4,3]) 2 1 3 1 else none).isSome=false→w312=wz∧w413=wz)∧Big.hq (Cr.pQ (if (Cr.rk2 2 1 9 ([1,3]) 3 1 9 ([2,4,3])) then Cr.best ([1,3]) ([2,4,3]) 2 1 3 1 else none))≤6:=hy14
 have e15:((if (Cr.rk2 2 1 9 ([1,3]) 3 1 9 ([2,4,3])) then (if (if (Cr.rk2 2 1 9 ([1,3]) 3 1 9 ([2,4,3])) then Cr.best ([1,3]) ([2,4,3]) 2 1 3 1 else none).isSome then 0 else 6) else 1):Int)=0:=by decide +kernel
 rw [e15]
 have e16:((Cr.pX (if (Cr.rk2 2 1 9 ([1,3]) 3 1 9 ([2,4,3])) then Cr.best ([1,3]) ([2,4,3]) 2 1 3 1 else none)):Int)=0:=by decide +kernel
 rw [e16]
 have e17:((Cr.pY (if (Cr.rk2 2 1 9 ([1,3]) 3 1 9 ([2,4,3])) then Cr.best ([1,3]) ([2,4,3]) 2 1 3 1 else none)):Int)=0:=by decide +kernel
 rw [e17]
 have e18:((Cr.pQ (if (Cr.rk2 2 1 9 ([1,3]) 3 1 9 ([2,4,3])) then Cr.best ([1,3]) ([2,4,3]) 2 1 3 1 else none)):Rat)=((1:Int):Rat):=by decide +kernel
 rw [e18]
 have e19:(if (Cr.rk2 2 1 9 ([1,3]) 3 1 9 ([2,4,3])) then Cr.best ([1,3]) ([2,4,3]) 2 1 3 1 else none).isSome=true:=by decide +kernel
 rw [e19]
 refine r_pv rfl rfl (za rfl)<|r_pv rfl rfl (zq rfl rfl)<|r_pv rfl rfl (zq rfl rfl)<|r_pv rfl rfl (zq rfl rfl)<|r_pv rfl rfl (zq rfl rfl)<|zK rfl rfl (zD zr32 rfl) (fun b20=> ?_)
 refine r_pv rfl rfl (zc rfl)<|r_pv rfl rfl (zc rfl)<|zm 0 rfl rfl rfl rfl rfl sz32 rfl (.take (.take (.take (.take .nil)))) .z<|r_pv rfl rfl (zc rfl)<|zj<|zd<|zh<|zb<|r_u rfl rfl (ze 2 ty24 rfl rfl (.take (.take (.take (.take .nil)))))<|zw rfl rfl (.c rfl .n) ce32 (zLd (wi1:=3) (hi1:=1) (m1:=9) (p1:=some ⟨b2,0,none⟩) (n1:=3) (c1:=3) (l1:=[2,4,3]) (hn1:=by first|rfl|assumption|omega|decide|(decide +kernel))) (.c (j:=2) rfl .n) ?_
 rintro ⟨p321,kq,c322,rq⟩ hsq
 dsimp only [List.append_eq,List.nil_append,List.cons_append]
 replace hsq:rq.length=kq∧(rq=if Bl.rok 3 1 9 ([2,4,3]) then Cr.tab (Cr.sq ([2,4,3])) (Int.toNat 3) (Int.toNat 1+1) else []):=hsq
 have e23:((if Bl.rok 3 1 9 ([2,4,3]) then 0 else 1):Int)=0:=by decide +kernel
 rw [e23]
 have e24:Cr.exT=rq:=by rw [hsq.2];decide +kernel
 subst e24
 have e25:2=kq:=by exact hsq.1
 subst e25
 refine r_pv rfl rfl (za rfl)<|r_pv rfl rfl (zq rfl rfl)<|r_pv rfl rfl (zq rfl rfl)<|r_pv rfl rfl (zc rfl)<|r_pv rfl rfl (zc rfl)<|zj<|zd<|zh<|zba (OW:=[]) (O:=[boxA b20 32 [w312.b,w312.l,w413.b,w413.l],boxA b11 32 [w35.b,w35.l,w46.b,w46.l],boxA b4 24 [.int .i64 3,.int .i64 1,.int .i64 9,.slice (some ⟨b2,0,none⟩) 3 3],boxA b3 24 [.int .i64 2,.int .i64 1,.int .i64 9,.slice (some ⟨b1,0,none⟩) 2 2],emA,emA]) 100000 mixed (.then .ret) (by kernel_rfl)<|d_pv 0 rfl rfl (by kernel_rfl) (by kernel_rfl) rfl rfl (za rfl)<|d_pv 1 rfl rfl (by kernel_rfl) (by kernel_rfl) rfl rfl (zna rfl rfl) ?_
 rw [show true=true from by decide]
 refine d_pv 2 rfl rfl (by kernel_rfl) (by kernel_rfl) rfl rfl (za rfl)<|d_pv 3 rfl rfl (by kernel_rfl) (by kernel_rfl) rfl rfl (za rfl)<|d_pv 4 rfl rfl (by kernel_rfl) (by kernel_rfl) rfl rfl (zna rfl rfl)<|d_pv 5 rfl rfl (by kernel_rfl) (by kernel_rfl) rfl rfl (zr rfl rfl) ?_
 rw [show true=true from by decide]
 refine d_pv 6 rfl rfl (by kernel_rfl) (by kernel_rfl) rfl rfl (za rfl)<|d_pv 7 rfl rfl (by kernel_rfl) (by kernel_rfl) rfl rfl (za rfl)<|d_pv 8 rfl rfl (by kernel_rfl) (by kernel_rfl) rfl rfl (zna rfl rfl)<|d_pv 9 rfl rfl (by kernel_rfl) (by kernel_rfl) rfl rfl (zr rfl rfl) ?_
 rw [show true=true from by decide]
 refine d_pv 10 rfl rfl (by kernel_rfl) (by kernel_rfl) rfl rfl (za rfl)<|d_pv 11 rfl rfl (by kernel_rfl) (by kernel_rfl) rfl rfl (za rfl)<|d_pv 12 rfl rfl (by kernel_rfl) (by kernel_rfl) rfl rfl (zna rfl rfl)<|d_pv 13 rfl rfl (by kernel_rfl) (by kernel_rfl) rfl rfl (zr rfl rfl) ?_
 rw [show true=true from by decide]
 refine d_pv 14 rfl rfl (by kernel_rfl) (by kernel_rfl) rfl rfl (za rfl)<|d_pv 15 rfl rfl (by kernel_rfl) (by kernel_rfl) rfl rfl (za rfl)<|d_pv 16 rfl rfl (by kernel_rfl) (by kernel_rfl) rfl rfl (zna rfl rfl)<|d_pv 17 rfl rfl (by kernel_rfl) (by kernel_rfl) rfl rfl (zr rfl rfl) ?_
 rw [show true=true from by decide]
 refine d_pv 18 rfl rfl (by kernel_rfl) (by kernel_rfl) rfl rfl (za rfl)<|d_u 19 rfl rfl (by kernel_rfl) (by kernel_rfl) rfl rfl (ze 1 ty32 rfl rfl (.take (.take (.take (.take .nil)))))<|zJ 20 (by kernel_rfl) (zH rfl rfl rfl rfl (.c rfl .n) ce16 (zAb (z:=(-1)) (hz:=by first|rfl|assumption|omega|decide|(decide +kernel))) (.n) ?_)
 rintro ⟨w326,w427⟩ -
 dsimp only [List.append_eq,List.nil_append,List.cons_append]
 refine zJ 21 (by kernel_rfl) (zYa rfl rfl rfl rfl (.c rfl (.c rfl .n)) ce22 (zBb (u1:=w35) (v1:=w46) (q1:=((-1:Int):Rat)) (u2:=w326) (v2:=w427) (q2:=(((-1):Int):Rat)) (hl:=by first|rfl|assumption|omega|decide|(decide +kernel))) (.c (j:=3) rfl (.c (j:=0) rfl .n)) ?_)
 refine d_pv 22 rfl rfl (by kernel_rfl) (by kernel_rfl) rfl rfl (zr rfl rfl) ?_
 rw [show (decide (((-1:Int):Rat)=(((-1):Int):Rat)))=true from by decide +kernel]
 refine d_pv 23 rfl rfl (by kernel_rfl) (by kernel_rfl) rfl rfl (za rfl)<|d_u 24 rfl rfl (by kernel_rfl) (by kernel_rfl) rfl rfl (ze 0 ty32 rfl rfl (.take (.take (.take (.take .nil)))))<|zJ 25 (by kernel_rfl) (zH rfl rfl rfl rfl (.c rfl .n) ce16 (zAb (z:=1) (hz:=by first|rfl|assumption|omega|decide|(decide +kernel))) (.n) ?_)
 rintro ⟨w328,w429⟩ -
 dsimp only [List.append_eq,List.nil_append,List.cons_append]
 refine zJ 26 (by kernel_rfl) (zYa rfl rfl rfl rfl (.c rfl (.c rfl .n)) ce22 (zBb (u1:=w312) (v1:=w413) (q1:=((1:Int):Rat)) (u2:=w328) (v2:=w429) (q2:=((1:Int):Rat)) (hl:=by first|rfl|assumption|omega|decide|(decide +kernel))) (.c (j:=3) rfl (.c (j:=0) rfl .n)) ?_)
 refine d_pv 27 rfl rfl (by kernel_rfl) (by kernel_rfl) rfl rfl (zr rfl rfl) ?_
 rw [show (decide (((1:Int):Rat)=((1:Int):Rat)))=true from by decide +kernel]
 refine d_pv 28 rfl rfl (by kernel_rfl) (by kernel_rfl) rfl rfl (za rfl)<|d_pv 29 rfl rfl (by kernel_rfl) (by kernel_rfl) rfl rfl (za rfl)<|d_pv 30 rfl rfl (by kernel_rfl) (by kernel_rfl) rfl rfl (zO Tryz.underlying73 rfl)<|d_pv 31 rfl rfl (by kernel_rfl) (by kernel_rfl) rfl rfl (zna rfl rfl)<|d_pv 32 rfl rfl (by kernel_rfl) (by kernel_rfl) rfl rfl (zr rfl rfl) ?_
 rw [show (decide (((2:Nat):Int)=2))=true from by decide]
 refine d_pv 33 rfl rfl (by kernel_rfl) (by kernel_rfl) rfl rfl (za rfl)<|d_pv 34 rfl rfl (by kernel_rfl) (by kernel_rfl) rfl rfl (za rfl)<|d_vl 35 rfl rfl (by kernel_rfl) (by kernel_rfl) rfl rfl (zJa (x0:=(Cr.exT.getD 1 [])) 2 1 rfl Tryz.underlying73 sz22 rfl (by first|rfl|assumption|(simp_all;done)|omega) rfl rfl (gD (d:=[]) (by first|omega|decide))) ?_
 rintro ⟨b30,o31,p32,c33⟩ -
 dsimp only [List.append_eq,List.nil_append,List.cons_append]
 refine d_u 36 rfl rfl (by kernel_rfl) (by kernel_rfl) rfl rfl (zk (j:=0) 0 ty22 rfl rfl rfl rfl)<|zJ 37 (by kernel_rfl) (zsf rfl rfl rfl rfl (zS (enc:=fun z:Int=>[.int .i64 z]) (ok:=InK .i64) (h1:=fun _=>rfl) (h2:=fun _=>rfl) (k:=4) Tryz.underlying22 inf3 rfl (by decide) (by decide) (by decide) (.c (x:=0) rfl rfl (fun _ _=>by exact zW.2 (by omega)) (.c (x:=4) rfl rfl (fun _ _=>by exact zW.2 (by omega)) (.c (x:=20) rfl rfl (fun _ _=>by exact zW.2 (by omega)) (.c (x:=29) rfl rfl (fun _ _=>by exact zW.2 (by omega)) .n))))) (fun b34 _=> ?_))
 refine zSd 0 rfl .z<|zJ 38 (by kernel_rfl) (zYa rfl rfl rfl rfl (.c rfl (.c rfl .n)) ce33 (zGe (p1:=p32) (n1:=(Cr.exT.getD 1 []).length) (c1:=c33) (l1:=(Cr.exT.getD 1 [])) (p2:=some ⟨b34,0,none⟩) (n2:=4) (c2:=4) (l2:=[0,4,20,29]) (hn1:=by first|rfl|assumption|omega|decide|(decide +kernel)) (hn2:=by first|rfl|assumption|omega|decide|(decide +kernel))) (.c (j:=2) rfl (.c (j:=0) rfl .n)) ?_)
 refine d_pv 39 rfl rfl (by kernel_rfl) (by kernel_rfl) rfl rfl (zr rfl rfl) ?_
 rw [show (decide ((Cr.exT.getD 1 [])=([0,4,20,29])))=true from by decide +kernel]
 refine d_pv 40 rfl rfl (by kernel_rfl) (by kernel_rfl) rfl rfl (zc rfl)<|zZ (by kernel_rfl)<|zd<|zI ?_
 exact zB Tryz.results7 () trivial (zo rfl) rfl (ho:=(.n:PickO _ _ _)) (.n:SelR _ _ _)
end Go.Proofs.YtkamccndgblheaaGreat.Sp
namespace Go.Proofs.YtkamccndgblheaaGreat.Cr
theorem wn_at {l:List Int} {w y x pw j i:Nat} (h:i<pw):wn l w y x pw (j*pw+i)=l.getD ((y+j)*w+x+i) 0:=by
  have hp:0<pw:=by omega
  have e1:(j*pw+i) / pw=j:=by rw [Nat.mul_comm,Nat.mul_add_div hp,Nat.div_eq_of_lt h,Nat.add_zero]
  have e2:(j*pw+i)%pw=i:=by rw [Nat.mul_comm,Nat.mul_add_mod,Nat.mod_eq_of_lt h]
  unfold wn px;rw [e1,e2,Nat.add_assoc]
theorem smp {f:Nat→Int} {n k:Nat} (hf:∀i,i<n→0≤f i∧f i≤65535) (hn:n≤4096) (hk:k≤n):0≤sumN f k∧sumN f k≤268431360:=by
  have:=sumN_le (f:=f) (n:=k) (B:=65535) fun j hj=>hf j (by omega)
  omega
theorem smq {f:Nat→Int} {n k:Nat} (hf:∀i,i<n→0≤f i∧f i≤4294836225) (hn:n≤4096) (hk:k≤n):0≤sumN f k∧sumN f k≤17591649177600:=by
  have:=sumN_le (f:=f) (n:=k) (B:=4294836225) fun j hj=>hf j (by omega)
  omega
section
variable {l1 l2 : List Int} {w1 h1 n1 w2 h2 n2 yy xx : Nat} (hg1 : ∀ i, i < n1 → 0 ≤ l1.getD i 0 ∧ l1.getD i 0 ≤ 65535) (hg2 : ∀ i, i < n2 → 0 ≤ l2.getD i 0 ∧ l2.getD i 0 ≤ 65535) (h1n : n1 = w1 * h1) (h2n : n2 = w2 * h2) (hw : 1 ≤ w1) (hx : xx + w1 ≤ w2) (hy : yy + h1 ≤ h2)
theorem win_in (h2n:n2=w2*h2) (hx:xx+w1≤w2) (hy:yy+h1≤h2) {j i:Nat} (hj:j<h1) (hi:i<w1):(yy+j)*w2+xx+i<n2:=by
  rw [Nat.add_assoc,h2n];exact at_lt (by omega) (by omega)
include hg2 h1n h2n hw hx hy in
theorem wn_b:∀k,k<n1→0≤wn l2 w2 yy xx w1 k∧wn l2 w2 yy xx w1 k≤65535:=fun k hk=>by
  have a:=Nat.div_lt_of_lt_mul (show k<w1*h1 by omega)
  have b:=Nat.mod_lt k (show w1>0 by omega)
  exact hg2 _ (by rw [← Nat.add_assoc];exact win_in h2n hx hy a b)
include hg2 h1n h2n hw hx hy in
theorem wn_q:∀k,k<n1→0≤wn l2 w2 yy xx w1 k*wn l2 w2 yy xx w1 k∧wn l2 w2 yy xx w1 k*wn l2 w2 yy xx w1 k≤4294836225:=fun k hk=>
  sq_b (wn_b hg2 h1n h2n hw hx hy k hk)
include hg1 hg2 h1n h2n hw hx hy in
theorem wn_c:∀k,k<n1→0≤px l1 k*wn l2 w2 yy xx w1 k∧px l1 k*wn l2 w2 yy xx w1 k≤4294836225:=fun k hk=>
  mul_g (hg1 k hk) (wn_b hg2 h1n h2n hw hx hy k hk)
end
section
variable {l1 l2 : List Int} {w1 h1 n1 w2 yy xx : Nat}
def lva (l1:List Int) (n1:Nat):Int:=((n1:Nat):Int)*sumN (sq l1) n1 - sumN (px l1) n1*sumN (px l1) n1
def lvb (l2:List Int) (w1 n1 w2 yy xx:Nat):Int:=((n1:Nat):Int)*sumN (fun k=>wn l2 w2 yy xx w1 k*wn l2 w2 yy xx w1 k) n1 - sumN (wn l2 w2 yy xx w1) n1*sumN (wn l2 w2 yy xx w1) n1
def lcc (l1 l2:List Int) (w1 n1 w2 yy xx:Nat):Int:=((n1:Nat):Int)*sumN (fun k=>px l1 k*wn l2 w2 yy xx w1 k) n1 - sumN (px l1) n1*sumN (wn l2 w2 yy xx w1) n1
theorem scr_ref (h1n:n1=w1*h1) (hw:1≤w1):scr l1 l2 w1 h1 n1 w2 yy xx=sc (lcc l1 l2 w1 n1 w2 yy xx) (lva l1 n1) (lvb l2 w1 n1 w2 yy xx):=by
  unfold scr;rw [vb_is h1n hw,cc_is h1n hw];rfl
theorem scr_ref0 (h1n:n1=w1*h1) (hw:1≤w1) (h:lva l1 n1=0∨lvb l2 w1 n1 w2 yy xx=0):(((0:Int)):Rat)=scr l1 l2 w1 h1 n1 w2 yy xx:=by
  rw [scr_ref h1n hw];unfold sc;rw [if_pos h];rfl
theorem scr_ref1 (h1n:n1=w1*h1) (hw:1≤w1) (h:¬(lva l1 n1=0∨lvb l2 w1 n1 w2 yy xx=0)):Rat.divInt (lcc l1 l2 w1 n1 w2 yy xx) (lva l1 n1)*Rat.divInt (max (lcc l1 l2 w1 n1 w2 yy xx) (-(lcc l1 l2 w1 n1 w2 yy xx))) (lvb l2 w1 n1 w2 yy xx)=scr l1 l2 w1 h1 n1 w2 yy xx:=by
  rw [scr_ref h1n hw];exact sc_ref (fun e=>h (.inl e)) (fun e=>h (.inr e))
end
theorem hqd {a b:Int} (ha:I64 a) (hb:I64 b) (h:b≠0):Big.hq (Rat.divInt a b)≤6:=by
  have:=Big.zed ha.1 ha.2;have:=Big.zed hb.1 hb.2
  have:=Big.hq_divInt (n:=a) (d:=b) h
  omega
theorem hqd2 {a b c d:Int} (ha:I64 a) (hb:I64 b) (h:b≠0) (hc:I64 c) (hd:I64 d) (k:d≠0):Big.hq (Rat.divInt a b)+Big.hq (Rat.divInt c d)+1≤1048576:=by
  have:=hqd ha hb h;have:=hqd hc hd k;omega
end Go.Proofs.YtkamccndgblheaaGreat.Cr
namespace Go.Proofs.YtkamccndgblheaaGreat.Sp
open Go
set_option linter.unusedVariables false
def Wd.zz (u v:Wd):Prop:=u.s=false∧v.s=false∧u.n=0∧v.n=0
instance (u v:Wd):Decidable (Wd.zz u v):=inferInstanceAs (Decidable (_∧_))
theorem Wd.zz_wz:Wd.zz wz wz:=⟨rfl,rfl,rfl,rfl⟩
def rQ:Rp Rat:=⟨4,Wd×Wd,fun _ w=>[w.1.b,w.1.l,w.2.b,w.2.l],fun g q w=>(qF true w.1 w.2 q).on g,fun _ _ _ _ h k=>(qF true _ _ _).mono _ _ h k,fun _ _=>rfl,fun _ _=>rfl⟩
theorem open_rQ {A:Fa} {q:Rat} {w1 w2:Wd} {R:List Fa}:∀g,Holds g (A :: okF rQ q (w1,w2) :: R)→Holds g (A :: qF true w1 w2 q :: R):=fun g ⟨h,a,r⟩=>⟨h,a,r⟩
def qo (y:Big.RQ):Option Rat:=if Big.qok y then some (Big.qv y) else none
end Go.Proofs.YtkamccndgblheaaGreat.Sp
theorem Go.Proofs.YtkamccndgblheaaGreat.Big.ext_getR {a b:List Rat} (hl:a.length=b.length) (h:∀j,j<a.length→a.getD j 0=b.getD j 0):a=b:=by
  refine List.ext_getElem hl fun i h1 h2=> ?_
  have:=h i h1
  rw [List.getD_eq_getElem?_getD,List.getD_eq_getElem?_getD,List.getElem?_eq_getElem h1,List.getElem?_eq_getElem h2] at this
  exact this
namespace Go.Proofs.YtkamccndgblheaaGreat.Sp
open Go
set_option linter.unusedVariables false
set_option maxRecDepth 100000
set_option maxHeartbeats 1000000
theorem zHc {u1:Wd} {v1:Wd}:Con Tryz.prog 19 [.agg #[u1.b,u1.l,v1.b,v1.l]] [] [] (Y:=Unit) (fun y=>True) (fun y=> .bool (decide (Wd.zz u1 v1))) (fun y=>[]) (fun y=>[]):=by
 refine zp Tryz.func19 rfl rfl rfl (fun c=> ?_)
 show RunC _ _ _ _ _ [(0,.agg #[u1.b,u1.l,v1.b,v1.l])] [] []
 refine zh<|zb<|zK rfl rfl (zQ rfl rfl) (fun b1=> ?_)
 refine r_pv rfl rfl (zc rfl)<|zj<|zd<|zcb (X:=Unit) (fun x=>True) (fun x=>[(26,.bool (decide (u1.s=false∧v1.s=false∧u1.n=0∧v1.n=0))),(2,.bool (decide (((((!u1.s)=true)∧((!v1.s)=true))∧(((u1.n:Nat):Int)=0))∧(((v1.n:Nat):Int)=0))))]) (fun x=>[boxA b1 32 (cw [u1,v1])]) (fun x=>[]) ?_ ?_
 ·
  refine zb<|r_pv rfl rfl (zg Tryz.underlying32 rfl sz30 rfl rfl)<|r_pv rfl rfl (zg Tryz.underlying30 rfl sz4 rfl rfl)<|r_u rfl rfl (zi 0 ty4 rfl rfl rfl)<|r_pv rfl rfl (zhb rfl)<|zQd rfl rfl (za rfl) (fun h2=> ?_) (fun h2=> ?_)
  ·
   refine r_pv rfl rfl (zg Tryz.underlying32 rfl sz30 rfl rfl)<|r_pv rfl rfl (zg Tryz.underlying30 rfl sz4 rfl rfl)<|r_u rfl rfl (zi 0 ty4 rfl rfl rfl)<|r_pv rfl rfl (zhb rfl)<|r_pv rfl rfl (zr rfl rfl)<|zQd rfl rfl (za rfl) (fun h3=> ?_) (fun h3=> ?_)
   ·
    refine r_pv rfl rfl (zg Tryz.underlying32 rfl sz30 rfl rfl)<|r_pv rfl rfl (zg Tryz.underlying30 rfl sz28 rfl rfl)<|r_u rfl rfl (zi 0 ty28 rfl rfl rfl)<|r_pv rfl rfl (zO Tryz.underlying28 rfl)<|r_pv rfl rfl (zna rfl rfl)<|r_pv rfl rfl (zr rfl rfl)<|zga rfl rfl (za rfl) (fun h4=> ?_) (fun h4=> ?_)
    ·
     refine r_pv rfl rfl (zg Tryz.underlying32 rfl sz30 rfl rfl)<|r_pv rfl rfl (zg Tryz.underlying30 rfl sz28 rfl rfl)<|r_u rfl rfl (zi 0 ty28 rfl rfl rfl)<|r_pv rfl rfl (zO Tryz.underlying28 rfl)<|r_pv rfl rfl (zna rfl rfl)<|r_pv rfl rfl (zr rfl rfl)<|r_pv rfl rfl (zc rfl)<|zj ?_
     exact zma () (show True from by first|trivial|omega|simp_all) ((.e rfl (congrArg Value.bool (by first|(simp_all;done)|(simp_all;omega)|omega)) (.e rfl (congrArg Value.bool (by first|(simp_all;done)|(simp_all;omega)|omega)) .n)):SubM _ _) (ho:=((.c (i:=0) rfl .n):PickO _ _ _)) (.n:SelR _ _ _)
    ·
     refine zf rfl rfl<|zf rfl rfl<|zf rfl rfl<|zf rfl rfl<|zf rfl rfl<|r_pv rfl rfl (zr rfl rfl)<|r_pv rfl rfl (zc rfl)<|zj ?_
     exact zma () (show True from by first|trivial|omega|simp_all) ((.e rfl (congrArg Value.bool (by first|(simp_all;done)|(simp_all;omega)|omega)) (.e rfl (congrArg Value.bool (by first|(simp_all;done)|(simp_all;omega)|omega)) .n)):SubM _ _) (ho:=((.c (i:=0) rfl .n):PickO _ _ _)) (.n:SelR _ _ _)
   ·
    refine zf rfl rfl<|zf rfl rfl<|zf rfl rfl<|zf rfl rfl<|zf rfl rfl<|r_pv rfl rfl (zr rfl rfl)<|r_pv rfl rfl (za rfl)<|zf rfl rfl<|zf rfl rfl<|zf rfl rfl<|zf rfl rfl<|zf rfl rfl<|r_pv rfl rfl (zr rfl rfl)<|r_pv rfl rfl (zc rfl)<|zj ?_
    exact zma () (show True from by first|trivial|omega|simp_all) ((.e rfl (congrArg Value.bool (by first|(simp_all;done)|(simp_all;omega)|omega)) (.e rfl (congrArg Value.bool (by first|(simp_all;done)|(simp_all;omega)|omega)) .n)):SubM _ _) (ho:=((.c (i:=0) rfl .n):PickO _ _ _)) (.n:SelR _ _ _)
  ·
   refine zf rfl rfl<|zf rfl rfl<|zf rfl rfl<|zf rfl rfl<|r_pv rfl rfl (zr rfl rfl)<|r_pv rfl rfl (za rfl)<|zf rfl rfl<|zf rfl rfl<|zf rfl rfl<|zf rfl rfl<|zf rfl rfl<|r_pv rfl rfl (zr rfl rfl)<|r_pv rfl rfl (za rfl)<|zf rfl rfl<|zf rfl rfl<|zf rfl rfl<|zf rfl rfl<|zf rfl rfl<|r_pv rfl rfl (zr rfl rfl)<|r_pv rfl rfl (zc rfl)<|zj ?_
   exact zma () (show True from by first|trivial|omega|simp_all) ((.e rfl (congrArg Value.bool (by first|(simp_all;done)|(simp_all;omega)|omega)) (.e rfl (congrArg Value.bool (by first|(simp_all;done)|(simp_all;omega)|omega)) .n)):SubM _ _) (ho:=((.c (i:=0) rfl .n):PickO _ _ _)) (.n:SelR _ _ _)
 ·
  rintro ⟨⟩ -
  try dsimp only [cw]
  refine zI ?_
  exact zB Tryz.results19 () trivial (zo rfl) (congrArg Value.bool (decide_eq_decide.2 (by unfold Wd.zz;cases u1.s <;> cases v1.s <;> simp))) (ho:=(.n:PickO _ _ _)) (.n:SelR _ _ _)
end Go.Proofs.YtkamccndgblheaaGreat.Sp
namespace Go.Proofs.YtkamccndgblheaaGreat.Sp
open Go
set_option linter.unusedVariables false
set_option maxRecDepth 100000
set_option maxHeartbeats 1000000
theorem zpe {w1:Nat} {vh1:Nat} {m1:Int} {p1:Option Addr} {n1:Nat} {c1:Nat} {l1:List Int} {w2:Nat} {vh2:Nat} {m2:Int} {p2:Option Addr} {n2:Nat} {c2:Nat} {l2:List Int} {xx:Nat} {yy:Nat} (hn1:l1.length=n1) (hw1:1≤w1∧w1≤64) (hh1:1≤vh1∧vh1≤64) (hwh1:n1=w1*vh1) (hb1:n1≤4096) (hg1:∀i,i<n1→0≤l1.getD i 0∧l1.getD i 0≤65535) (hn2:l2.length=n2) (hw2:1≤w2∧w2≤64) (hh2:1≤vh2∧vh2≤64) (hwh2:n2=w2*vh2) (hb2:n2≤4096) (hg2:∀i,i<n2→0≤l2.getD i 0∧l2.getD i 0≤65535) (hx:xx+w1≤w2) (hy:yy+vh1≤vh2):Con Tryz.prog 13 [.agg #[.int .i64 ((w1:Nat):Int),.int .i64 ((vh1:Nat):Int),.int .i64 m1,.slice p1 n1 c1],.agg #[.int .i64 ((w2:Nat):Int),.int .i64 ((vh2:Nat):Int),.int .i64 m2,.slice p2 n2 c2],.int .i64 ((xx:Nat):Int),.int .i64 ((yy:Nat):Int)] [] [slF (rI .i64) p1 c1 l1,slF (rI .i64) p2 c2 l2] (Y:=Wd×Wd) (fun y=>True) (fun y=> .agg #[y.1.b,y.1.l,y.2.b,y.2.l]) (fun y=>[]) (fun y=>[qF true y.1 y.2 (Cr.scr l1 l2 w1 vh1 n1 w2 yy xx)]):=by
 refine zp Tryz.func13 rfl rfl rfl (fun c=> ?_)
 show RunC _ _ _ _ _ [(0,.agg #[.int .i64 ((w1:Nat):Int),.int .i64 ((vh1:Nat):Int),.int .i64 m1,.slice p1 n1 c1]),(1,.agg #[.int .i64 ((w2:Nat):Int),.int .i64 ((vh2:Nat):Int),.int .i64 m2,.slice p2 n2 c2]),(2,.int .i64 ((xx:Nat):Int)),(3,.int .i64 ((yy:Nat):Int))] [] [slF (rI .i64) p1 c1 l1,slF (rI .i64) p2 c2 l2]
 refine zX 0 rfl (fun hL0=> ?_)
 refine zX 1 rfl (fun hL1=> ?_)
 refine zh<|zb<|zK rfl rfl (zQ rfl rfl) (fun b1=> ?_)
 refine zK rfl rfl (zQ rfl rfl) (fun b2=> ?_)
 refine zK rfl rfl (zD zr32 rfl) (fun b3=> ?_)
 refine zj<|zd<|zh<|zb<|r_pv rfl rfl (zc rfl)<|r_pv rfl rfl (zc rfl)<|r_pv rfl rfl (zc rfl)<|r_pv rfl rfl (zc rfl)<|r_pv rfl rfl (zc rfl)<|r_pv rfl rfl (zc rfl)<|zj<|zd<|zh<|zh<|zb<|r_pv rfl rfl (zg Tryz.underlying24 rfl sz3 rfl rfl)<|r_u rfl rfl (zi 2 ty3 rfl rfl rfl)<|r_pv rfl rfl (za rfl)<|zj<|zd<|zx<|zka (X:=Nat) (fun x:Nat=>x≤vh1) (fun x=>[(28,.int .i64 ((x:Nat):Int)),(14,.int .i64 (Cr.sumN (fun k=>Cr.px l1 k*Cr.wn l2 w2 yy xx w1 k) (x*w1))),(13,.int .i64 (Cr.sumN (fun k=>Cr.wn l2 w2 yy xx w1 k*Cr.wn l2 w2 yy xx w1 k) (x*w1))),(12,.int .i64 (Cr.sumN (Cr.sq l1) (x*w1))),(11,.int .i64 (Cr.sumN (Cr.wn l2 w2 yy xx w1) (x*w1))),(10,.int .i64 (Cr.sumN (Cr.px l1) (x*w1))),(9,.int .i64 (((x*w1):Nat):Int)),(27,.int .i64 ((vh1:Nat):Int)),(8,.pointer (some ⟨b3,0,none⟩)),(5,.pointer (some ⟨b2,0,none⟩)),(4,.pointer (some ⟨b1,0,none⟩)),(2,.int .i64 ((xx:Nat):Int)),(3,.int .i64 ((yy:Nat):Int))]) (fun x=>[boxA b3 32 [.bool false,.slice none 0 0,.bool false,.slice none 0 0],boxA b2 24 [.int .i64 ((w2:Nat):Int),.int .i64 ((vh2:Nat):Int),.int .i64 m2,.slice p2 n2 c2],boxA b1 24 [.int .i64 ((w1:Nat):Int),.int .i64 ((vh1:Nat):Int),.int .i64 m1,.slice p1 n1 c1]]) (fun x=>[slF (rI .i64) p1 c1 l1,slF (rI .i64) p2 c2 l2]) (fun x:Nat=>vh1 - x) 0 (show 0≤vh1 from by exact Nat.zero_le _) ((.e rfl (by first|rfl|(congr 1;omega)|simp_all) (.e rfl (congrArg (Value.int .i64) (by rw [Nat.zero_mul];rfl)) (.e rfl (congrArg (Value.int .i64) (by rw [Nat.zero_mul];rfl)) (.e rfl (congrArg (Value.int .i64) (by rw [Nat.zero_mul];rfl)) (.e rfl (congrArg (Value.int .i64) (by rw [Nat.zero_mul];rfl)) (.e rfl (congrArg (Value.int .i64) (by rw [Nat.zero_mul];rfl)) (.e rfl (congrArg (Value.int .i64) (by rw [Nat.zero_mul];rfl)) (.of rfl)))))))):SubM _ _) (ho:=((.of [0,0,0] rfl):PickO _ _ _)) ((.of [0,1] rfl):SelR _ _ _) ?_
 rintro jj hI
 replace hI:jj≤vh1:=hI
 try dsimp only
 refine zh<|zb<|r_pv rfl rfl (zia rfl rfl)<|zj<|zd<|zh<|zG rfl (fun h4=> ?_) (fun h4=> ?_)
 ·
  refine zA<|zd<|zh<|zx<|zh<|zb<|r_pv rfl rfl (za rfl)<|r_pv rfl rfl (zc rfl)<|zj<|zd<|zh<|zb<|r_pv rfl rfl (zg Tryz.underlying24 rfl sz3 rfl rfl)<|r_u rfl rfl (zi 2 ty3 rfl rfl rfl)<|r_pv rfl rfl (za rfl)<|zj<|zd<|zx<|zka (X:=Nat) (fun x:Nat=>x≤w1) (fun x=>[(33,.int .i64 ((x:Nat):Int)),(14,.int .i64 (Cr.sumN (fun k=>Cr.px l1 k*Cr.wn l2 w2 yy xx w1 k) (jj*w1+x))),(13,.int .i64 (Cr.sumN (fun k=>Cr.wn l2 w2 yy xx w1 k*Cr.wn l2 w2 yy xx w1 k) (jj*w1+x))),(12,.int .i64 (Cr.sumN (Cr.sq l1) (jj*w1+x))),(11,.int .i64 (Cr.sumN (Cr.wn l2 w2 yy xx w1) (jj*w1+x))),(10,.int .i64 (Cr.sumN (Cr.px l1) (jj*w1+x))),(9,.int .i64 (((jj*w1+x):Nat):Int)),(32,.int .i64 ((w1:Nat):Int)),(15,.int .i64 ((jj:Nat):Int)),(28,.int .i64 ((jj:Nat):Int)),(27,.int .i64 ((vh1:Nat):Int)),(8,.pointer (some ⟨b3,0,none⟩)),(5,.pointer (some ⟨b2,0,none⟩)),(4,.pointer (some ⟨b1,0,none⟩)),(2,.int .i64 ((xx:Nat):Int)),(3,.int .i64 ((yy:Nat):Int))]) (fun x=>[boxA b3 32 [.bool false,.slice none 0 0,.bool false,.slice none 0 0],boxA b2 24 [.int .i64 ((w2:Nat):Int),.int .i64 ((vh2:Nat):Int),.int .i64 m2,.slice p2 n2 c2],boxA b1 24 [.int .i64 ((w1:Nat):Int),.int .i64 ((vh1:Nat):Int),.int .i64 m1,.slice p1 n1 c1]]) (fun x=>[slF (rI .i64) p1 c1 l1,slF (rI .i64) p2 c2 l2]) (fun x:Nat=>w1 - x) 0 (show 0≤w1 from by exact Nat.zero_le _) ((.e rfl (by first|rfl|(congr 1;omega)|simp_all) (.e rfl (congrArg (Value.int .i64) (by rfl)) (.e rfl (congrArg (Value.int .i64) (by rfl)) (.e rfl (congrArg (Value.int .i64) (by rfl)) (.e rfl (congrArg (Value.int .i64) (by rfl)) (.e rfl (congrArg (Value.int .i64) (by rfl)) (.e rfl (congrArg (Value.int .i64) (by rfl)) (.of rfl)))))))):SubM _ _) (ho:=((.of [0,0,0] rfl):PickO _ _ _)) ((.of [0,1] rfl):SelR _ _ _) ?_
  rintro ii hJ
  replace hJ:ii≤w1:=hJ
  try dsimp only
  refine zh<|zb<|r_pv rfl rfl (zia rfl rfl)<|zj<|zd<|zh<|zG rfl (fun h5=> ?_) (fun h5=> ?_)
  ·
   have hlt:jj*w1+ii<n1:=by rw [hwh1];exact Cr.at_lt (by omega) (by omega)
   have hlt2:(yy+jj)*w2+xx+ii<n2:=Cr.win_in hwh2 hx hy (by omega) (by omega)
   have hwn:=Cr.wn_at (l:=l2) (w:=w2) (y:=yy) (x:=xx) (j:=jj) (show ii<w1 by omega)
   have hp1:=hg1 _ hlt
   have hp2:=hg2 _ hlt2
   have hp3:=Cr.sq_b hp1
   have hp4:=Cr.sq_b hp2
   have hp5:=Cr.mul_g hp1 hp2
   have hs1:=Cr.px_sum (l:=l1) hg1 hb1 (show jj*w1+ii≤n1 by omega)
   have hs2:=Cr.sq_sum (l:=l1) hg1 hb1 (show jj*w1+ii≤n1 by omega)
   have hs3:=Cr.smp (Cr.wn_b hg2 hwh1 hwh2 hw1.1 hx hy) hb1 (show jj*w1+ii≤n1 by omega)
   have hs4:=Cr.smq (Cr.wn_q hg2 hwh1 hwh2 hw1.1 hx hy) hb1 (show jj*w1+ii≤n1 by omega)
   have hs5:=Cr.smq (Cr.wn_c hg1 hg2 hwh1 hwh2 hw1.1 hx hy) hb1 (show jj*w1+ii≤n1 by omega)
   have hyw1:jj*w1≤64*64:=Nat.mul_le_mul (by omega) hw1.2
   have hyw:(yy+jj)*w2≤64*64:=Nat.mul_le_mul (by omega) hw2.2
   refine zA<|zd<|zh<|zx<|zh<|zb<|r_pv rfl rfl (za rfl)<|r_pv rfl rfl (zc rfl)<|zj<|zd<|zh<|zba (OW:=[]) (O:=[boxA b3 32 [.bool false,.slice none 0 0,.bool false,.slice none 0 0],boxA b2 24 [.int .i64 ((w2:Nat):Int),.int .i64 ((vh2:Nat):Int),.int .i64 m2,.slice p2 n2 c2],boxA b1 24 [.int .i64 ((w1:Nat):Int),.int .i64 ((vh1:Nat):Int),.int .i64 m1,.slice p1 n1 c1]]) 100000 mixed (.then (.block (.then (.then (.block (.block (.then (.then (.block (.then .ret)))))))))) (by kernel_rfl)<|d_pv 0 rfl rfl (by kernel_rfl) (by kernel_rfl) rfl rfl (zg Tryz.underlying24 rfl sz22 rfl rfl)<|d_u 1 rfl rfl (by kernel_rfl) (by kernel_rfl) rfl rfl (zi 2 ty22 rfl rfl rfl)<|d_pv 2 rfl rfl (by kernel_rfl) (by kernel_rfl) rfl rfl (za rfl)<|d_pv 3 rfl rfl (by kernel_rfl) (by kernel_rfl) rfl rfl (zg Tryz.underlying24 rfl sz3 rfl rfl)<|d_u 4 rfl rfl (by kernel_rfl) (by kernel_rfl) rfl rfl (zi 2 ty3 rfl rfl rfl)<|d_pv 5 rfl rfl (by kernel_rfl) (by kernel_rfl) rfl rfl (zqa (z:=(((jj*w1):Nat):Int)) rfl rfl (w64 (by omega)))<|d_pv 6 rfl rfl (by kernel_rfl) (by kernel_rfl) rfl rfl (za rfl)<|d_pv 7 rfl rfl (by kernel_rfl) (by kernel_rfl) rfl rfl (zC (z:=((((jj*w1)+ii):Nat):Int)) rfl rfl (w64 (by omega)))<|zea (x0:=(l1.getD ((jj*w1)+ii) 0)) 8 rfl rfl (by kernel_rfl) (by kernel_rfl) 0 ((jj*w1)+ii) rfl Tryz.underlying22 sz3 rfl rfl rfl (by first|rfl|assumption|(simp_all;done)|omega) rfl rfl (gD (d:=0) (by omega)) (fun b6 o7 hok8=> ?_)
   replace hok8:=zW.1 hok8
   refine d_u 9 rfl rfl (by kernel_rfl) (by kernel_rfl) rfl rfl (zk (j:=0) 0 ty3 rfl rfl rfl rfl)<|d_pv 10 rfl rfl (by kernel_rfl) (by kernel_rfl) rfl rfl (zg Tryz.underlying24 rfl sz22 rfl rfl)<|d_u 11 rfl rfl (by kernel_rfl) (by kernel_rfl) rfl rfl (zi 1 ty22 rfl rfl rfl)<|d_pv 12 rfl rfl (by kernel_rfl) (by kernel_rfl) rfl rfl (za rfl)<|d_pv 13 rfl rfl (by kernel_rfl) (by kernel_rfl) rfl rfl (za rfl)<|d_pv 14 rfl rfl (by kernel_rfl) (by kernel_rfl) rfl rfl (zC (z:=(((yy+jj):Nat):Int)) rfl rfl (w64 (by omega)))<|d_pv 15 rfl rfl (by kernel_rfl) (by kernel_rfl) rfl rfl (zg Tryz.underlying24 rfl sz3 rfl rfl)<|d_u 16 rfl rfl (by kernel_rfl) (by kernel_rfl) rfl rfl (zi 1 ty3 rfl rfl rfl)<|d_pv 17 rfl rfl (by kernel_rfl) (by kernel_rfl) rfl rfl (zqa (z:=((((yy+jj)*w2):Nat):Int)) rfl rfl (w64 (by omega)))<|d_pv 18 rfl rfl (by kernel_rfl) (by kernel_rfl) rfl rfl (za rfl)<|d_pv 19 rfl rfl (by kernel_rfl) (by kernel_rfl) rfl rfl (zC (z:=(((((yy+jj)*w2)+xx):Nat):Int)) rfl rfl (w64 (by omega)))<|d_pv 20 rfl rfl (by kernel_rfl) (by kernel_rfl) rfl rfl (za rfl)<|d_pv 21 rfl rfl (by kernel_rfl) (by kernel_rfl) rfl rfl (zC (z:=((((((yy+jj)*w2)+xx)+ii):Nat):Int)) rfl rfl (w64 (by omega)))<|zea (x0:=(l2.getD ((((yy+jj)*w2)+xx)+ii) 0)) 22 rfl rfl (by kernel_rfl) (by kernel_rfl) 2 ((((yy+jj)*w2)+xx)+ii) rfl Tryz.underlying22 sz3 rfl rfl rfl (by first|rfl|assumption|(simp_all;done)|omega) rfl rfl (gD (d:=0) (by omega)) (fun b9 o10 hok11=> ?_)
   replace hok11:=zW.1 hok11
   refine d_u 23 rfl rfl (by kernel_rfl) (by kernel_rfl) rfl rfl (zk (j:=0) 0 ty3 rfl rfl rfl rfl)<|d_pv 24 rfl rfl (by kernel_rfl) (by kernel_rfl) rfl rfl (zc rfl)<|d_pv 25 rfl rfl (by kernel_rfl) (by kernel_rfl) rfl rfl (zc rfl)<|zZ (by kernel_rfl)<|zd<|zh<|zb<|r_pv rfl rfl (za rfl)<|r_pv rfl rfl (zC (z:=((((jj*w1+ii)+1):Nat):Int)) rfl rfl (w64 (by omega)))<|r_pv rfl rfl (zc rfl)<|zj<|zd<|zh<|zb<|r_pv rfl rfl (za rfl)<|r_pv rfl rfl (za rfl)<|r_pv rfl rfl (zC (z:=((Cr.sumN (Cr.px l1) (jj*w1+ii))+(l1.getD ((jj*w1)+ii) 0))) rfl rfl (w64 (by omega)))<|r_pv rfl rfl (zc rfl)<|zj<|zd<|zh<|zb<|r_pv rfl rfl (za rfl)<|r_pv rfl rfl (za rfl)<|r_pv rfl rfl (zC (z:=((Cr.sumN (Cr.wn l2 w2 yy xx w1) (jj*w1+ii))+(l2.getD ((((yy+jj)*w2)+xx)+ii) 0))) rfl rfl (w64 (by omega)))<|r_pv rfl rfl (zc rfl)<|zj<|zd<|zh<|zb<|r_pv rfl rfl (za rfl)<|r_pv rfl rfl (za rfl)<|r_pv rfl rfl (za rfl)<|r_pv rfl rfl (zqa (z:=((l1.getD ((jj*w1)+ii) 0)*(l1.getD ((jj*w1)+ii) 0))) rfl rfl (w64 (by omega)))<|r_pv rfl rfl (zC (z:=((Cr.sumN (Cr.sq l1) (jj*w1+ii))+((l1.getD ((jj*w1)+ii) 0)*(l1.getD ((jj*w1)+ii) 0)))) rfl rfl (w64 (by omega)))<|r_pv rfl rfl (zc rfl)<|zj<|zd<|zh<|zb<|r_pv rfl rfl (za rfl)<|r_pv rfl rfl (za rfl)<|r_pv rfl rfl (za rfl)<|r_pv rfl rfl (zqa (z:=((l2.getD ((((yy+jj)*w2)+xx)+ii) 0)*(l2.getD ((((yy+jj)*w2)+xx)+ii) 0))) rfl rfl (w64 (by omega)))<|r_pv rfl rfl (zC (z:=((Cr.sumN (fun k=>Cr.wn l2 w2 yy xx w1 k*Cr.wn l2 w2 yy xx w1 k) (jj*w1+ii))+((l2.getD ((((yy+jj)*w2)+xx)+ii) 0)*(l2.getD ((((yy+jj)*w2)+xx)+ii) 0)))) rfl rfl (w64 (by omega)))<|r_pv rfl rfl (zc rfl)<|zj<|zd<|zb<|r_pv rfl rfl (za rfl)<|r_pv rfl rfl (za rfl)<|r_pv rfl rfl (za rfl)<|r_pv rfl rfl (zqa (z:=((l1.getD ((jj*w1)+ii) 0)*(l2.getD ((((yy+jj)*w2)+xx)+ii) 0))) rfl rfl (w64 (by omega)))<|r_pv rfl rfl (zC (z:=((Cr.sumN (fun k=>Cr.px l1 k*Cr.wn l2 w2 yy xx w1 k) (jj*w1+ii))+((l1.getD ((jj*w1)+ii) 0)*(l2.getD ((((yy+jj)*w2)+xx)+ii) 0)))) rfl rfl (w64 (by omega)))<|r_pv rfl rfl (zc rfl)<|zj<|zR<|zd<|zb<|r_pv rfl rfl (zC (z:=(((ii+1):Nat):Int)) rfl rfl (w64 (by omega)))<|r_pv rfl rfl (za rfl)<|zj<|zfa (ii+1) (show (ii+1)≤w1 from by omega) (by show w1 - (ii+1)<w1 - ii;omega) ((.c rfl (.e rfl (congrArg (Value.int .i64) (by rw [← hwn];rfl)) (.e rfl (congrArg (Value.int .i64) (by rw [← hwn];rfl)) (.e rfl (congrArg (Value.int .i64) (by rfl)) (.e rfl (congrArg (Value.int .i64) (by rw [← hwn];rfl)) (.e rfl (congrArg (Value.int .i64) (by rfl)) (.e rfl (congrArg (Value.int .i64) (by rfl)) (.of rfl)))))))):SubM _ _) (ho:=((.of [0,0,0] rfl):PickO _ _ _)) ((.of [2,3] rfl):SelR _ _ _)
  ·
   refine zha<|zl<|zl<|zv<|zR<|zd<|zb<|r_pv rfl rfl (zC (z:=(((jj+1):Nat):Int)) rfl rfl (w64 (by omega)))<|r_pv rfl rfl (za rfl)<|zj ?_
   have e9:jj*w1+ii=(jj+1)*w1:=by rw [Nat.succ_mul];omega
   refine zfa (jj+1) (show (jj+1)≤vh1 from by omega) (by show vh1 - (jj+1)<vh1 - jj;omega) ((.c rfl (.e rfl (congrArg (Value.int .i64) (by rw [e9])) (.e rfl (congrArg (Value.int .i64) (by rw [e9])) (.e rfl (congrArg (Value.int .i64) (by rw [e9])) (.e rfl (congrArg (Value.int .i64) (by rw [e9])) (.e rfl (congrArg (Value.int .i64) (by rw [e9])) (.e rfl (congrArg (Value.int .i64) (by rw [e9])) (.of rfl)))))))):SubM _ _) (ho:=((.of [0,0,0] rfl):PickO _ _ _)) ((.of [0,1] rfl):SelR _ _ _)
 ·
  refine zha<|zl<|zl<|zv<|zd<|zh ?_
  have hj9:jj*w1=n1:=by rw [show jj=vh1 by omega,hwh1,Nat.mul_comm]
  have e12:jj*w1=n1:=by exact hj9
  rw [e12]
  have hs1:=Cr.px_sum (l:=l1) hg1 hb1 (Nat.le_refl n1)
  have hs2:=Cr.sq_sum (l:=l1) hg1 hb1 (Nat.le_refl n1)
  have hs3:=Cr.smp (Cr.wn_b hg2 hwh1 hwh2 hw1.1 hx hy) hb1 (Nat.le_refl n1)
  have hs4:=Cr.smq (Cr.wn_q hg2 hwh1 hwh2 hw1.1 hx hy) hb1 (Nat.le_refl n1)
  have hs5:=Cr.smq (Cr.wn_c hg1 hg2 hwh1 hwh2 hw1.1 hx hy) hb1 (Nat.le_refl n1)
  have hq2:=Bl.mul_b (x:=((n1:Nat):Int)) (y:=(Cr.sumN (Cr.sq l1) n1)) (m:=4096) (n:=17591649177600) (by omega) hs2
  have hq4:=Bl.mul_b (x:=((n1:Nat):Int)) (y:=(Cr.sumN (fun k=>Cr.wn l2 w2 yy xx w1 k*Cr.wn l2 w2 yy xx w1 k) n1)) (m:=4096) (n:=17591649177600) (by omega) hs4
  have hq5:=Bl.mul_b (x:=((n1:Nat):Int)) (y:=(Cr.sumN (fun k=>Cr.px l1 k*Cr.wn l2 w2 yy xx w1 k) n1)) (m:=4096) (n:=17591649177600) (by omega) hs5
  have hq1:=Bl.mul_b hs1 hs1
  have hq3:=Bl.mul_b hs3 hs3
  have hq6:=Bl.mul_b hs1 hs3
  refine zb<|r_pv rfl rfl (za rfl)<|r_pv rfl rfl (za rfl)<|r_pv rfl rfl (zqa (z:=(((n1:Nat):Int)*(Cr.sumN (fun k=>Cr.px l1 k*Cr.wn l2 w2 yy xx w1 k) n1))) rfl rfl (w64 (by omega)))<|r_pv rfl rfl (za rfl)<|r_pv rfl rfl (za rfl)<|r_pv rfl rfl (zqa (z:=((Cr.sumN (Cr.px l1) n1)*(Cr.sumN (Cr.wn l2 w2 yy xx w1) n1))) rfl rfl (w64 (by omega)))<|r_pv rfl rfl (zaa (z:=((((n1:Nat):Int)*(Cr.sumN (fun k=>Cr.px l1 k*Cr.wn l2 w2 yy xx w1 k) n1)) - ((Cr.sumN (Cr.px l1) n1)*(Cr.sumN (Cr.wn l2 w2 yy xx w1) n1)))) rfl rfl (w64 (by omega)))<|r_pv rfl rfl (za rfl)<|r_pv rfl rfl (za rfl)<|r_pv rfl rfl (zqa (z:=(((n1:Nat):Int)*(Cr.sumN (Cr.sq l1) n1))) rfl rfl (w64 (by omega)))<|r_pv rfl rfl (za rfl)<|r_pv rfl rfl (za rfl)<|r_pv rfl rfl (zqa (z:=((Cr.sumN (Cr.px l1) n1)*(Cr.sumN (Cr.px l1) n1))) rfl rfl (w64 (by omega)))<|r_pv rfl rfl (zaa (z:=((((n1:Nat):Int)*(Cr.sumN (Cr.sq l1) n1)) - ((Cr.sumN (Cr.px l1) n1)*(Cr.sumN (Cr.px l1) n1)))) rfl rfl (w64 (by omega)))<|r_pv rfl rfl (za rfl)<|r_pv rfl rfl (za rfl)<|r_pv rfl rfl (zqa (z:=(((n1:Nat):Int)*(Cr.sumN (fun k=>Cr.wn l2 w2 yy xx w1 k*Cr.wn l2 w2 yy xx w1 k) n1))) rfl rfl (w64 (by omega)))<|r_pv rfl rfl (za rfl)<|r_pv rfl rfl (za rfl)<|r_pv rfl rfl (zqa (z:=((Cr.sumN (Cr.wn l2 w2 yy xx w1) n1)*(Cr.sumN (Cr.wn l2 w2 yy xx w1) n1))) rfl rfl (w64 (by omega)))<|r_pv rfl rfl (zaa (z:=((((n1:Nat):Int)*(Cr.sumN (fun k=>Cr.wn l2 w2 yy xx w1 k*Cr.wn l2 w2 yy xx w1 k) n1)) - ((Cr.sumN (Cr.wn l2 w2 yy xx w1) n1)*(Cr.sumN (Cr.wn l2 w2 yy xx w1) n1)))) rfl rfl (w64 (by omega)))<|r_pv rfl rfl (zc rfl)<|r_pv rfl rfl (zc rfl)<|r_pv rfl rfl (zc rfl)<|zj<|zd<|zh<|zcb (X:=Unit) (fun x=>True) (fun x=>[(111,.bool (decide ((((((n1:Nat):Int)*(Cr.sumN (Cr.sq l1) n1)) - ((Cr.sumN (Cr.px l1) n1)*(Cr.sumN (Cr.px l1) n1)))=0)∨(((((n1:Nat):Int)*(Cr.sumN (fun k=>Cr.wn l2 w2 yy xx w1 k*Cr.wn l2 w2 yy xx w1 k) n1)) - ((Cr.sumN (Cr.wn l2 w2 yy xx w1) n1)*(Cr.sumN (Cr.wn l2 w2 yy xx w1) n1)))=0)))),(21,.int .i64 ((((n1:Nat):Int)*(Cr.sumN (fun k=>Cr.wn l2 w2 yy xx w1 k*Cr.wn l2 w2 yy xx w1 k) n1)) - ((Cr.sumN (Cr.wn l2 w2 yy xx w1) n1)*(Cr.sumN (Cr.wn l2 w2 yy xx w1) n1)))),(20,.int .i64 ((((n1:Nat):Int)*(Cr.sumN (Cr.sq l1) n1)) - ((Cr.sumN (Cr.px l1) n1)*(Cr.sumN (Cr.px l1) n1)))),(19,.int .i64 ((((n1:Nat):Int)*(Cr.sumN (fun k=>Cr.px l1 k*Cr.wn l2 w2 yy xx w1 k) n1)) - ((Cr.sumN (Cr.px l1) n1)*(Cr.sumN (Cr.wn l2 w2 yy xx w1) n1)))),(8,.pointer (some ⟨b3,0,none⟩))]) (fun x=>[boxA b3 32 [.bool false,.slice none 0 0,.bool false,.slice none 0 0],boxA b2 24 [.int .i64 ((w2:Nat):Int),.int .i64 ((vh2:Nat):Int),.int .i64 m2,.slice p2 n2 c2],boxA b1 24 [.int .i64 ((w1:Nat):Int),.int .i64 ((vh1:Nat):Int),.int .i64 m1,.slice p1 n1 c1]]) (fun x=>[slF (rI .i64) p1 c1 l1,slF (rI .i64) p2 c2 l2]) ?_ ?_
  ·
   refine zb<|r_pv rfl rfl (za rfl)<|r_pv rfl rfl (zna rfl rfl)<|zga rfl rfl (za rfl) (fun h13=> ?_) (fun h13=> ?_)
   ·
    refine zf rfl rfl<|zf rfl rfl<|r_pv rfl rfl (zr rfl rfl)<|zj ?_
    exact zma () (show True from by first|trivial|omega|simp_all) ((.e rfl (congrArg Value.bool (by first|(simp_all;done)|(simp_all;omega)|(simp;omega)|omega)) (.of rfl)):SubM _ _) (ho:=((.of [0,0,0] rfl):PickO _ _ _)) ((.of [0,1] rfl):SelR _ _ _)
   ·
    refine r_pv rfl rfl (za rfl)<|r_pv rfl rfl (zna rfl rfl)<|r_pv rfl rfl (zr rfl rfl)<|zj ?_
    exact zma () (show True from by first|trivial|omega|simp_all) ((.e rfl (congrArg Value.bool (by first|(simp_all;done)|(simp_all;omega)|(simp;omega)|omega)) (.of rfl)):SubM _ _) (ho:=((.of [0,0,0] rfl):PickO _ _ _)) ((.of [0,1] rfl):SelR _ _ _)
  ·
   rintro ⟨⟩ -
   try dsimp only
   refine zG rfl (fun hz0=> ?_) (fun hz0=> ?_)
   ·
    refine zh<|zb<|zw rfl rfl (.c rfl .n) ce16 (zAb (z:=0) (hz:=by first|rfl|assumption|omega)) (.n) ?_
    rintro ⟨w314,w415⟩ -
    dsimp only [List.append_eq,List.nil_append,List.cons_append]
    refine zm 0 rfl rfl rfl rfl rfl sz32 rfl (.take (.take (.take (.take .nil)))) .z<|zj<|zd<|zI<|zn ?_
    exact zB Tryz.results13 (w314,w415) trivial (zt 0 ty32 rfl rfl (.take (.take (.take (.take .nil))))) rfl (ho:=(.n:PickO _ _ _)) ((.e (j:=0) rfl (by rw [Cr.scr_ref0 hwh1 hw1.1 hz0]) .n):SelR _ _ _)
   ·
    refine zA<|zd<|zh<|zb<|r_pv rfl rfl (za rfl)<|r_pv rfl rfl (za rfl)<|zw rfl rfl (.c rfl (.c rfl .n)) ce25 (zGc (z1:=((((n1:Nat):Int)*(Cr.sumN (fun k=>Cr.px l1 k*Cr.wn l2 w2 yy xx w1 k) n1)) - ((Cr.sumN (Cr.px l1) n1)*(Cr.sumN (Cr.wn l2 w2 yy xx w1) n1)))) (z2:=((((n1:Nat):Int)*(Cr.sumN (Cr.sq l1) n1)) - ((Cr.sumN (Cr.px l1) n1)*(Cr.sumN (Cr.px l1) n1)))) (hz1:=by first|rfl|assumption|omega) (hz2:=by first|rfl|assumption|omega) (hy:=by exact fun e=>hz0 (Or.inl e))) (.n) ?_
    rintro ⟨w316,w417⟩ -
    dsimp only [List.append_eq,List.nil_append,List.cons_append]
    refine r_pv rfl rfl (za rfl)<|r_pv rfl rfl (zq rfl rfl)<|r_pv rfl rfl (zq rfl rfl)<|zK rfl rfl (zD zr32 rfl) (fun b18=> ?_)
    refine zm 0 rfl rfl rfl rfl rfl sz32 rfl (.take (.take (.take (.take .nil)))) .z<|r_pv rfl rfl (zc rfl)<|zj<|zd<|zh<|zb<|r_pv rfl rfl (za rfl)<|r_pv rfl rfl (za rfl)<|r_pv rfl rfl (zNd (z:=(-((((n1:Nat):Int)*(Cr.sumN (fun k=>Cr.px l1 k*Cr.wn l2 w2 yy xx w1 k) n1)) - ((Cr.sumN (Cr.px l1) n1)*(Cr.sumN (Cr.wn l2 w2 yy xx w1) n1))))) rfl (w64 (by omega)))<|r_pv rfl rfl (zse rfl rfl)<|r_pv rfl rfl (za rfl)<|zw rfl rfl (.c rfl (.c rfl .n)) ce25 (zGc (z1:=(max ((((n1:Nat):Int)*(Cr.sumN (fun k=>Cr.px l1 k*Cr.wn l2 w2 yy xx w1 k) n1)) - ((Cr.sumN (Cr.px l1) n1)*(Cr.sumN (Cr.wn l2 w2 yy xx w1) n1))) (-((((n1:Nat):Int)*(Cr.sumN (fun k=>Cr.px l1 k*Cr.wn l2 w2 yy xx w1 k) n1)) - ((Cr.sumN (Cr.px l1) n1)*(Cr.sumN (Cr.wn l2 w2 yy xx w1) n1)))))) (z2:=((((n1:Nat):Int)*(Cr.sumN (fun k=>Cr.wn l2 w2 yy xx w1 k*Cr.wn l2 w2 yy xx w1 k) n1)) - ((Cr.sumN (Cr.wn l2 w2 yy xx w1) n1)*(Cr.sumN (Cr.wn l2 w2 yy xx w1) n1)))) (hz1:=by first|rfl|assumption|omega) (hz2:=by first|rfl|assumption|omega) (hy:=by exact fun e=>hz0 (Or.inr e))) (.n) ?_
    rintro ⟨w319,w420⟩ -
    dsimp only [List.append_eq,List.nil_append,List.cons_append]
    refine r_pv rfl rfl (za rfl)<|r_pv rfl rfl (zq rfl rfl)<|r_pv rfl rfl (zq rfl rfl)<|zK rfl rfl (zD zr32 rfl) (fun b21=> ?_)
    refine zm 0 rfl rfl rfl rfl rfl sz32 rfl (.take (.take (.take (.take .nil)))) .z<|r_pv rfl rfl (zc rfl)<|zj<|zd<|zh<|zb<|r_u rfl rfl (ze 1 ty32 rfl rfl (.take (.take (.take (.take .nil)))))<|r_u rfl rfl (ze 0 ty32 rfl rfl (.take (.take (.take (.take .nil)))))<|zw rfl rfl (.c rfl (.c rfl .n)) ce39 (zVe (k1:=true) (u1:=w316) (v1:=w417) (q1:=Rat.divInt ((((n1:Nat):Int)*(Cr.sumN (fun k=>Cr.px l1 k*Cr.wn l2 w2 yy xx w1 k) n1)) - ((Cr.sumN (Cr.px l1) n1)*(Cr.sumN (Cr.wn l2 w2 yy xx w1) n1))) ((((n1:Nat):Int)*(Cr.sumN (Cr.sq l1) n1)) - ((Cr.sumN (Cr.px l1) n1)*(Cr.sumN (Cr.px l1) n1)))) (k2:=true) (u2:=w319) (v2:=w420) (q2:=Rat.divInt (max ((((n1:Nat):Int)*(Cr.sumN (fun k=>Cr.px l1 k*Cr.wn l2 w2 yy xx w1 k) n1)) - ((Cr.sumN (Cr.px l1) n1)*(Cr.sumN (Cr.wn l2 w2 yy xx w1) n1))) (-((((n1:Nat):Int)*(Cr.sumN (fun k=>Cr.px l1 k*Cr.wn l2 w2 yy xx w1 k) n1)) - ((Cr.sumN (Cr.px l1) n1)*(Cr.sumN (Cr.wn l2 w2 yy xx w1) n1))))) ((((n1:Nat):Int)*(Cr.sumN (fun k=>Cr.wn l2 w2 yy xx w1 k*Cr.wn l2 w2 yy xx w1 k) n1)) - ((Cr.sumN (Cr.wn l2 w2 yy xx w1) n1)*(Cr.sumN (Cr.wn l2 w2 yy xx w1) n1)))) (hl:=by exact Cr.hqd2 ⟨by omega,by omega⟩ ⟨by omega,by omega⟩ (fun e=>hz0 (Or.inl e)) ⟨by omega,by omega⟩ ⟨by omega,by omega⟩ (fun e=>hz0 (Or.inr e)))) (.c (j:=1) rfl (.c (j:=0) rfl .n)) ?_
    rintro ⟨w322,w423⟩ -
    dsimp only [List.append_eq,List.nil_append,List.cons_append]
    refine zm 2 rfl rfl rfl rfl rfl sz32 rfl (.take (.take (.take (.take .nil)))) (.s (.s .z))<|zj<|zd<|zI ?_
    exact zB Tryz.results13 (w322,w423) trivial (zt 2 ty32 rfl rfl (.take (.take (.take (.take .nil))))) rfl (ho:=(.n:PickO _ _ _)) ((.e (j:=0) rfl (by rw [← Cr.scr_ref1 hwh1 hw1.1 hz0];rfl) .n):SelR _ _ _)
end Go.Proofs.YtkamccndgblheaaGreat.Sp
namespace Go.Proofs.YtkamccndgblheaaGreat.Sp
open Go
set_option linter.unusedVariables false
set_option maxRecDepth 100000
set_option maxHeartbeats 1000000
theorem zQc {p1:Option Addr} {n1:Nat} {c1:Nat} {l1:List Rat} {p2:Option Addr} {n2:Nat} {c2:Nat} {l2:List Rat} (hn1:l1.length=n1) (hn2:l2.length=n2) (hl:∀i,i<n1→i<n2→Big.hq (l1.getD i 0)+Big.hq (l2.getD i 0)+1≤1048576):Con Tryz.prog 21 [.slice p1 n1 c1,.slice p2 n2 c2] [] [slF rQ p1 c1 l1,slF rQ p2 c2 l2] (Y:=Unit) (fun y=>True) (fun y=> .bool (decide (l1=l2))) (fun y=>[]) (fun y=>[]):=by
 refine zp Tryz.func21 rfl rfl rfl (fun c=> ?_)
 show RunC _ _ _ _ _ [(0,.slice p1 n1 c1),(1,.slice p2 n2 c2)] [] [slF rQ p1 c1 l1,slF rQ p2 c2 l2]
 refine zX 0 rfl (fun hL0=> ?_)
 refine zX 1 rfl (fun hL1=> ?_)
 refine zh<|zb<|r_pv rfl rfl (zc rfl)<|zj<|zd<|zh<|zh<|zb<|r_pv rfl rfl (za rfl)<|r_pv rfl rfl (zO Tryz.underlying44 rfl)<|r_pv rfl rfl (za rfl)<|r_pv rfl rfl (zO Tryz.underlying44 rfl)<|r_pv rfl rfl (zDa rfl rfl)<|zj<|zd<|zG rfl (fun hne=> ?_) (fun hne=> ?_)
 ·
  refine zh<|zb<|r_pv rfl rfl (zc rfl)<|zj<|zd<|zI<|zn ?_
  exact zB Tryz.results21 () trivial (zo rfl) (congrArg Value.bool (decide_eq_false (fun e=>hne (by rw [← hn1,←hn2,e])))) (ho:=(.n:PickO _ _ _)) (.n:SelR _ _ _)
 ·
  refine zA<|zd<|zh<|zh<|zb<|r_pv rfl rfl (zc rfl)<|zj<|zd<|zx<|zka (X:=Nat) (fun x:Nat=>x≤n1∧∀j,j<x→l1.getD j 0=l2.getD j 0) (fun x=>[(5,.int .i64 ((x:Nat):Int)),(0,.slice p1 n1 c1),(1,.slice p2 n2 c2)]) (fun x=>[]) (fun x=>[slF rQ p1 c1 l1,slF rQ p2 c2 l2]) (fun x:Nat=>n1 - x) 0 (show 0≤n1∧∀j,j<0→l1.getD j 0=l2.getD j 0 from by exact ⟨Nat.zero_le _,fun j h=>by omega⟩) ((.e rfl (by first|rfl|(congr 1;omega)|simp_all) (.c rfl (.c rfl .n))):SubM _ _) (ho:=(.n:PickO _ _ _)) ((.of [0,1] rfl):SelR _ _ _) ?_
  rintro i hI
  replace hI:i≤n1∧∀j,j<i→l1.getD j 0=l2.getD j 0:=hI
  try dsimp only
  obtain ⟨hi,hall⟩:=hI
  refine zh<|zh<|zb<|r_pv rfl rfl (za rfl)<|r_pv rfl rfl (za rfl)<|r_pv rfl rfl (zO Tryz.underlying44 rfl)<|r_pv rfl rfl (zia rfl rfl)<|zj<|zd<|zG rfl (fun h1=> ?_) (fun h1=> ?_)
  ·
   refine zA<|zd<|zh<|zx<|zh<|zba (OW:=[]) (O:=[]) 100000 mixed (.then (.block (.then (.then (.block (.then .ret)))))) (by kernel_rfl)<|d_pv 0 rfl rfl (by kernel_rfl) (by kernel_rfl) rfl rfl (za rfl)<|d_pv 1 rfl rfl (by kernel_rfl) (by kernel_rfl) rfl rfl (za rfl)<|d_vl 2 rfl rfl (by kernel_rfl) (by kernel_rfl) rfl rfl (zJa (x0:=(l1.getD i (0:Rat))) 0 i rfl Tryz.underlying44 sz32 rfl (by first|rfl|assumption|(simp_all;done)|omega) rfl rfl (gD (d:=(0:Rat)) (by omega))) ?_
   rintro ⟨b2,o3,w4,w5⟩ -
   dsimp only [List.append_eq,List.nil_append,List.cons_append]
   refine zgd open_rQ<|d_u 3 rfl rfl (by kernel_rfl) (by kernel_rfl) rfl rfl (zxa (j:=0) 0 ty32 rfl rfl rfl (.take (.take (.take (.take .nil)))))<|d_pv 4 rfl rfl (by kernel_rfl) (by kernel_rfl) rfl rfl (za rfl)<|d_pv 5 rfl rfl (by kernel_rfl) (by kernel_rfl) rfl rfl (za rfl)<|d_vl 6 rfl rfl (by kernel_rfl) (by kernel_rfl) rfl rfl (zJa (x0:=(l2.getD i (0:Rat))) 3 i rfl Tryz.underlying44 sz32 rfl (by first|rfl|assumption|(simp_all;done)|omega) rfl rfl (gD (d:=(0:Rat)) (by omega))) ?_
   rintro ⟨b6,o7,w8,w9⟩ -
   dsimp only [List.append_eq,List.nil_append,List.cons_append]
   refine zgd open_rQ<|d_u 7 rfl rfl (by kernel_rfl) (by kernel_rfl) rfl rfl (zxa (j:=0) 0 ty32 rfl rfl rfl (.take (.take (.take (.take .nil)))))<|zJ 8 (by kernel_rfl) (zYa rfl rfl rfl rfl (.c rfl (.c rfl .n)) ce22 (zBb (u1:=w4) (v1:=w5) (q1:=(l1.getD i (0:Rat))) (u2:=w8) (v2:=w9) (q2:=(l2.getD i (0:Rat))) (hl:=by first|rfl|assumption|exact hl i (by omega) (by omega)|omega)) (.c (j:=3) rfl (.c (j:=1) rfl .n)) ?_)
   refine d_pv 9 rfl rfl (by kernel_rfl) (by kernel_rfl) rfl rfl (zXa rfl)<|zZ (by kernel_rfl)<|zd<|zG rfl (fun hd=> ?_) (fun hd=> ?_)
   ·
    refine zh<|zb<|r_pv rfl rfl (zc rfl)<|zj<|zd<|zI<|zY<|zn<|zn<|zY<|zn ?_
    exact zB Tryz.results21 () trivial (zo rfl) (congrArg Value.bool (decide_eq_false (fun e=>hd (by rw [e])))) (ho:=(.n:PickO _ _ _)) (.n:SelR _ _ _)
   ·
    refine zA<|zR<|zd<|zb<|r_pv rfl rfl (za rfl)<|r_pv rfl rfl (zC (z:=(((i+1):Nat):Int)) rfl rfl (w64 (by omega)))<|r_pv rfl rfl (zc rfl)<|zj<|zfa (i+1) (show (i+1)≤n1∧∀j,j<(i+1)→l1.getD j 0=l2.getD j 0 from by refine ⟨by omega,fun j hj=> ?_⟩;by_cases e:j=i;subst e;exact Decidable.not_not.1 hd;exact hall j (by omega)) (by show n1 - (i+1)<n1 - i;omega) ((.of rfl):SubM _ _) (ho:=(.n:PickO _ _ _)) ((.of [4,5] rfl):SelR _ _ _)
  ·
   refine zha<|zl<|zl<|zv<|zd<|zh<|zb<|r_pv rfl rfl (zc rfl)<|zj<|zd<|zI ?_
   exact zB Tryz.results21 () trivial (zo rfl) (congrArg Value.bool (decide_eq_true (Big.ext_getR (by omega) (fun j hj=>hall j (by omega))))) (ho:=(.n:PickO _ _ _)) (.n:SelR _ _ _)
end Go.Proofs.YtkamccndgblheaaGreat.Sp
namespace Go.Proofs.YtkamccndgblheaaGreat.Cr
def gL (f:Nat→Rat):Nat→List Rat
  |0=>[]
  |k+1=>gL f k++[f k]
def mL (f:Nat→Nat→Rat) (W:Nat):Nat→List Rat
  |0=>[]
  |j+1=>mL f W j++gL (f j) W
theorem gL_len (f:Nat→Rat) (k:Nat):(gL f k).length=k:=by
  induction k with
  |zero=>rfl
  |succ k ih=>rw [gL,List.length_append,ih];rfl
theorem mL_len (f:Nat→Nat→Rat) (W j:Nat):(mL f W j).length=j*W:=by
  induction j with
  |zero=>simp [mL]
  |succ j ih=>rw [mL,List.length_append,ih,gL_len,Nat.succ_mul]
theorem gL_at (f:Nat→Rat) {k i:Nat} (h:i<k):(gL f k).getD i 0=f i:=by
  induction k with
  |zero=>omega
  |succ k ih=>
    have hl:=gL_len f k
    by_cases e:i=k
    · subst e;rw [gL,List.getD_eq_getElem?_getD,List.getElem?_append_right (by omega),hl];simp
    · rw [← ih (by omega),gL,List.getD_eq_getElem?_getD,List.getElem?_append_left (by omega),←List.getD_eq_getElem?_getD]
theorem mL_at (f:Nat→Nat→Rat) {W H j i:Nat} (hj:j<H) (hi:i<W):(mL f W H).getD (j*W+i) 0=f j i:=by
  induction H with
  |zero=>omega
  |succ H ih=>
    have hl:=mL_len f W H
    by_cases e:j=H
    · subst e;rw [mL,List.getD_eq_getElem?_getD,List.getElem?_append_right (by omega),hl,Nat.add_sub_cancel_left,←List.getD_eq_getElem?_getD];exact gL_at _ hi
    · have : (j + 1) * W ≤ H * W := Nat.mul_le_mul_right W (by omega)
      rw [Nat.succ_mul] at this
      rw [← ih (by omega),mL,List.getD_eq_getElem?_getD,List.getElem?_append_left (by omega),←List.getD_eq_getElem?_getD]
theorem gL_mem {f:Nat→Rat} {k:Nat} {P:Rat→Prop} (h:∀i,i<k→P (f i)):∀q∈gL f k,P q:=by
  induction k with
  |zero=>intro q hq;cases hq
  |succ k ih=>
    intro q hq
    rw [gL,List.mem_append] at hq
    rcases hq with hq|hq
    · exact ih (fun i hi=>h i (by omega)) q hq
    · rw [List.mem_singleton] at hq;rw [hq];exact h k (by omega)
theorem mL_mem {f:Nat→Nat→Rat} {W H:Nat} {P:Rat→Prop} (h:∀j i,j<H→i<W→P (f j i)):∀q∈mL f W H,P q:=by
  induction H with
  |zero=>intro q hq;cases hq
  |succ H ih=>
    intro q hq
    rw [mL,List.mem_append] at hq
    rcases hq with hq|hq
    · exact ih (fun j i hj hi=>h j i (by omega) hi) q hq
    · exact gL_mem (fun i hi=>h H i (by omega) hi) q hq
def tp (l:List Rat):Nat→Nat
  |0=>0
  |k+1=>if l.getD (tp l k) 0<l.getD k 0 then k else tp l k
theorem tp_lt (l:List Rat) {k:Nat} (h:0<k):tp l k<k:=by
  induction k with
  |zero=>omega
  |succ k ih=>
    rw [tp];split
    · omega
    · by_cases e : k = 0
      · subst e;simp [tp]
      · have:=ih (by omega);omega
theorem tp_le (l:List Rat) (k:Nat):tp l k≤k:=by
  by_cases h:0<k
  · exact Nat.le_of_lt (tp_lt l h)
  · obtain rfl : k = 0 := by omega
    exact Nat.le_refl _
def tpP (l:List Rat) (W k:Nat):Pk:=if k=0 then none else some (((tp l k%W:Nat):Int),((tp l k / W:Nat):Int),l.getD (tp l k) 0)
theorem tpP_step {l:List Rat} {W k j i:Nat} (hk:k=j*W+i) (hi:i<W) {f:Int→Int→Option Rat} (hf:f (i:Nat) (j:Nat)=some (l.getD k 0)):stp f (tpP l W k) (i:Nat) (j:Nat)=tpP l W (k+1):=by
  have e1:k / W=j:=by rw [hk,Nat.mul_comm,Nat.mul_add_div (by omega),Nat.div_eq_of_lt hi,Nat.add_zero]
  have e2:k%W=i:=by rw [hk,Nat.mul_comm,Nat.mul_add_mod,Nat.mod_eq_of_lt hi]
  by_cases h0:k=0
  · have t1:tp l (k+1)=k:=by
      have:=tp_lt l (show 0<k+1 by omega);omega
    rw [stp_new hf (.inl (by unfold tpP;rw [if_pos h0];rfl))]
    unfold tpP;rw [if_neg (by omega),t1,e1,e2]
  · have hp : tpP l W k = some (((tp l k % W : Nat) : Int), ((tp l k / W : Nat) : Int), l.getD (tp l k) 0) := by unfold tpP; rw [if_neg h0]
    by_cases h:l.getD (tp l k) 0<l.getD k 0
    · have t1 : tp l (k + 1) = k := by rw [tp, if_pos h]
      rw [stp_new hf (.inr (by rw [hp];exact h))]
      unfold tpP;rw [if_neg (by omega),t1,e1,e2]
    · have t1 : tp l (k + 1) = tp l k := by rw [tp, if_neg h]
      rw [stp_old hf (fun k=>k.elim (fun e=>by rw [hp] at e;cases e) (fun e=>h (by rw [hp] at e;exact e)))]
      rw [hp];unfold tpP;rw [if_neg (by omega),t1]
theorem rowP_tp {l:List Rat} {W j:Nat} {f:Int→Int→Option Rat} {y:Int} (hy:y=(j:Nat)) (hf:∀i:Nat,i<W→f ((i:Nat):Int) y=some (l.getD (j*W+i) 0)) (hn:∀x:Nat,W≤x→f ((x:Nat):Int) y=none) (n:Nat):
    rowP f 0 y (tpP l W (j*W)) n=tpP l W (j*W+min n W):=by
  subst hy
  induction n with
  |zero=>rfl
  |succ n ih=>
    rw [rowP,ih,Int.zero_add]
    by_cases h:n<W
    · rw [Nat.min_eq_left (by omega), Nat.min_eq_left (by omega)]
      exact tpP_step rfl h (hf n h)
    · rw [Nat.min_eq_right (by omega), Nat.min_eq_right (by omega)]
      exact stp_none (hn n (by omega))
theorem allP_tp {l:List Rat} {W H K:Nat} {f:Int→Int→Option Rat} (hK:W≤K) (hf:∀j i:Nat,j<H→i<W→f ((i:Nat):Int) ((j:Nat):Int)=some (l.getD (j*W+i) 0)) (hn:∀j i:Nat,¬(j<H∧i<W)→f ((i:Nat):Int) ((j:Nat):Int)=none) (n:Nat):
    allP f 0 0 K n=tpP l W (min n H*W):=by
  induction n with
  |zero=>rw [Nat.zero_min,Nat.zero_mul];rfl
  |succ n ih=>
    rw [allP,ih,Int.zero_add]
    by_cases h:n<H
    · rw [Nat.min_eq_left (by omega), Nat.min_eq_left (by omega)]
      rw [rowP_tp rfl (fun i hi=>hf n i h hi) (fun x hx=>hn n x (by omega)) K,Nat.min_eq_right hK,Nat.succ_mul]
    · rw [Nat.min_eq_right (by omega), Nat.min_eq_right (by omega)]
      generalize tpP l W (H*W)=a
      have:∀m,rowP f 0 ((n:Nat):Int) a m=a:=fun m=>by
        induction m with
        |zero=>rfl
        |succ m ih2=>rw [rowP,ih2,Int.zero_add];exact stp_none (hn n m (by omega))
      exact this K
theorem best_tp {l1 l2:List Int} {w1 h1 n1 w2 h2:Nat} (hn:l1.length=n1) (hw:w1≤w2) (hh:h1≤h2):
    best l1 l2 w1 h1 w2 h2=tpP (mL (scr l1 l2 w1 h1 n1 w2) (w2 - w1+1) (h2 - h1+1)) (w2 - w1+1) ((h2 - h1+1)*(w2 - w1+1)):=by
  unfold best
  rw [allP_tp (l:=mL (scr l1 l2 w1 h1 n1 w2) (w2 - w1+1) (h2 - h1+1)) (W:=w2 - w1+1) (H:=h2 - h1+1) (by omega) (fun j i hj hi=> ?_) (fun j i h=>pat_none fun p=>h ?_),Nat.min_eq_right (by omega)]
  · rw [pat_some hn ⟨by omega,by omega,by omega,by omega⟩,mL_at _ hj hi];rfl
  · have:=p.2.2.1;have:=p.2.2.2;omega
theorem rowP_none {f:Int→Int→Option Rat} {le y:Int} {a:Pk} (h:∀i:Nat,f (le+(i:Nat)) y=none) (k:Nat):rowP f le y a k=a:=by
  induction k with
  |zero=>rfl
  |succ k ih=>rw [rowP,ih];exact stp_none (h k)
theorem best_none {l1 l2:List Int} {w1 h1 w2 h2:Int} (h:¬pos w1 h1 w2 h2 0 0):best l1 l2 w1 h1 w2 h2=none:=by
  unfold best
  generalize (w2 - 0+1).toNat=K
  generalize (h2 - 0+1).toNat=n
  induction n with
  |zero=>rfl
  |succ n ih=>
    rw [allP,ih]
    exact rowP_none (fun i=>pat_none fun p=>h ⟨by omega,by omega,by have:=p.2.2.1;omega,by have:=p.2.2.2;omega⟩) K
section
variable (l : List Rat) (W : Nat) {k : Nat} (h : 0 < k)
include h
theorem tpP_s:(tpP l W k).isSome=true:=by unfold tpP;rw [if_neg (by omega)];rfl
theorem tpP_x:pX (tpP l W k)=((tp l k%W:Nat):Int):=by unfold tpP;rw [if_neg (by omega)];rfl
theorem tpP_y:pY (tpP l W k)=((tp l k / W:Nat):Int):=by unfold tpP;rw [if_neg (by omega)];rfl
theorem tpP_q:pQ (tpP l W k)=l.getD (tp l k) 0:=by unfold tpP;rw [if_neg (by omega)];rfl
end
end Go.Proofs.YtkamccndgblheaaGreat.Cr
namespace Go.Proofs.YtkamccndgblheaaGreat.Sp
open Go
set_option linter.unusedVariables false
set_option maxRecDepth 100000
set_option maxHeartbeats 1000000
theorem zEf {wi1:Int} {hi1:Int} {m1:Int} {p1:Option Addr} {n1:Nat} {c1:Nat} {l1:List Int} {wi2:Int} {hi2:Int} {m2:Int} {p2:Option Addr} {n2:Nat} {c2:Nat} {l2:List Int} (hn1:l1.length=n1) (hn2:l2.length=n2):Con Tryz.prog 17 [.agg #[.int .i64 wi1,.int .i64 hi1,.int .i64 m1,.slice p1 n1 c1],.agg #[.int .i64 wi2,.int .i64 hi2,.int .i64 m2,.slice p2 n2 c2]] [] [slF (rI .i64) p1 c1 l1,slF (rI .i64) p2 c2 l2] (Y:=(Option Addr)×Nat×Nat×(List Rat)) (fun y=>y.2.2.2.length=y.2.1∧y.2.2.2=(if ((Cr.rk2 wi1 hi1 m1 l1 wi2 hi2 m2 l2)∧(Cr.pos wi1 hi1 wi2 hi2 0 0)) then (Cr.mL (Cr.scr l1 l2 wi1.toNat hi1.toNat n1 wi2.toNat) ((wi2.toNat - wi1.toNat)+1) ((hi2.toNat - hi1.toNat)+1)) else [])) (fun y=> .tuple #[.slice (y.1) (y.2.1) (y.2.2.1),.int .i64 (if (Cr.rk2 wi1 hi1 m1 l1 wi2 hi2 m2 l2) then (if (Cr.pos wi1 hi1 wi2 hi2 0 0) then 0 else 6) else 1)]) (fun y=>[]) (fun y=>[slF rQ (y.1) (y.2.2.1) (y.2.2.2)]):=by
 refine zp Tryz.func17 rfl rfl rfl (fun c=> ?_)
 show RunC _ _ _ _ _ [(0,.agg #[.int .i64 wi1,.int .i64 hi1,.int .i64 m1,.slice p1 n1 c1]),(1,.agg #[.int .i64 wi2,.int .i64 hi2,.int .i64 m2,.slice p2 n2 c2])] [] [slF (rI .i64) p1 c1 l1,slF (rI .i64) p2 c2 l2]
 refine zX 0 rfl (fun hL0=> ?_)
 refine zX 1 rfl (fun hL1=> ?_)
 refine zh<|zb<|zK rfl rfl (zQ rfl rfl) (fun b1=> ?_)
 refine zK rfl rfl (zQ rfl rfl) (fun b2=> ?_)
 refine r_pv rfl rfl (zc rfl)<|r_pv rfl rfl (zc rfl)<|zj<|zd<|zh<|zh<|zb<|r_u rfl rfl (ze 1 ty24 rfl rfl (.take (.take (.take (.take .nil)))))<|r_u rfl rfl (ze 0 ty24 rfl rfl (.take (.take (.take (.take .nil)))))<|zN rfl rfl (.c rfl (.c rfl .n)) ce34 (zOc (wi1:=wi1) (hi1:=hi1) (m1:=m1) (p1:=p1) (n1:=n1) (c1:=c1) (l1:=l1) (wi2:=wi2) (hi2:=hi2) (m2:=m2) (p2:=p2) (n2:=n2) (c2:=c2) (l2:=l2) (hn1:=by assumption) (hn2:=by assumption)) (.c (j:=0) rfl (.c (j:=1) rfl .n))<|r_pv rfl rfl (zc rfl)<|zj<|zd<|zh<|zb<|r_pv rfl rfl (za rfl)<|r_pv rfl rfl (zDa rfl rfl)<|zj<|zd<|zG rfl (fun hc=> ?_) (fun hc=> ?_)
 ·
  have hno:¬(Cr.rk2 wi1 hi1 m1 l1 wi2 hi2 m2 l2):=fun k=>hc (if_pos k)
  refine zh<|zb<|r_pv rfl rfl (za rfl)<|r_pv rfl rfl (zc rfl)<|r_pv rfl rfl (zc rfl)<|zj<|zd<|zI<|zn<|zKc 31 rQ<|zGa 0 rfl .z ?_
  have hg9:¬((Cr.rk2 wi1 hi1 m1 l1 wi2 hi2 m2 l2)∧(Cr.pos wi1 hi1 wi2 hi2 0 0)):=fun k=>hno k.1
  exact zza Tryz.results17 (none,0,0,[]) (⟨rfl,(if_neg hg9).symm⟩) (zo rfl) (zo rfl) (by simp only [if_neg hno]) (ho:=(.n:PickO _ _ _)) ((.c (j:=0) rfl .n):SelR _ _ _)
 ·
  have hok:(Cr.rk2 wi1 hi1 m1 l1 wi2 hi2 m2 l2):=Bl.c0.1 (Decidable.not_not.1 hc)
  obtain ⟨w1,vh1,rfl,rfl,hw1,hh1,hwh1,hb1,hg1⟩:=Cr.rokN (hok.1) hn1
  obtain ⟨w2,vh2,rfl,rfl,hw2,hh2,hwh2,hb2,hg2⟩:=Cr.rokN (hok.2) hn2
  refine zA<|zd<|zh<|zb<|r_u rfl rfl (ze 1 ty24 rfl rfl (.take (.take (.take (.take .nil)))))<|r_u rfl rfl (ze 0 ty24 rfl rfl (.take (.take (.take (.take .nil)))))<|zw rfl rfl (.c rfl (.c rfl .n)) ce35 (zab (w1:=w1) (vh1:=vh1) (m1:=m1) (p1:=p1) (n1:=n1) (c1:=c1) (l1:=l1) (w2:=w2) (vh2:=vh2) (m2:=m2) (p2:=p2) (n2:=n2) (c2:=c2) (l2:=l2) (hn1:=by assumption) (hw1:=by first|rfl|assumption|omega) (hh1:=by first|rfl|assumption|omega) (hwh1:=by first|rfl|assumption|omega) (hb1:=by first|rfl|assumption|omega) (hg1:=by first|rfl|assumption|omega) (hn2:=by assumption) (hw2:=by first|rfl|assumption|omega) (hh2:=by first|rfl|assumption|omega) (hwh2:=by first|rfl|assumption|omega) (hb2:=by first|rfl|assumption|omega) (hg2:=by first|rfl|assumption|omega) (hok:=by exact hok.2)) (.c (j:=0) rfl (.c (j:=1) rfl .n)) ?_
  rintro ⟨bm3,ps4,cs5,pq6,cq7⟩ -
  dsimp only [List.append_eq,List.nil_append,List.cons_append]
  refine r_pv rfl rfl (zc rfl)<|zj<|zd<|zh<|zh<|zb<|r_pv rfl rfl (za rfl)<|zN rfl rfl (.c rfl (.c rfl (.c rfl .n))) ce36 (zmc (w1:=w1) (vh1:=vh1) (m1:=m1) (p1:=p1) (n1:=n1) (c1:=c1) (w2:=w2) (vh2:=vh2) (m2:=m2) (p2:=p2) (n2:=n2) (c2:=c2) (bm:=bm3) (ps:=ps4) (cs:=cs5) (pq:=pq6) (cq:=cq7) (sm:=(Cr.sumN (Cr.px l1) n1)) (sp:=((((n1:Nat):Int)*(Cr.sumN (Cr.sq l1) n1)) - ((Cr.sumN (Cr.px l1) n1)*(Cr.sumN (Cr.px l1) n1)))) (ex:=0) (ey:=0) (hw1:=by first|rfl|assumption|omega) (hh1:=by first|rfl|assumption|omega) (hw2:=by first|rfl|assumption|omega) (hh2:=by first|rfl|assumption|omega)) (.c (j:=0) rfl .n)<|r_pv rfl rfl (zXa rfl)<|zj<|zd<|zG rfl (fun hp=> ?_) (fun hp=> ?_)
  ·
   have hn9:¬(Cr.pos ((w1:Nat):Int) ((vh1:Nat):Int) ((w2:Nat):Int) ((vh2:Nat):Int) 0 0):=fun k=>hp k
   refine zh<|zb<|r_pv rfl rfl (zc rfl)<|r_pv rfl rfl (zc rfl)<|zj<|zd<|zI<|zn<|zKc 31 rQ<|zGa 0 rfl .z ?_
   have hg9:¬((Cr.rk2 ((w1:Nat):Int) ((vh1:Nat):Int) m1 l1 ((w2:Nat):Int) ((vh2:Nat):Int) m2 l2)∧(Cr.pos ((w1:Nat):Int) ((vh1:Nat):Int) ((w2:Nat):Int) ((vh2:Nat):Int) 0 0)):=fun k=>hn9 k.2
   exact zza Tryz.results17 (none,0,0,[]) (⟨rfl,(if_neg hg9).symm⟩) (zo rfl) (zo rfl) (by rw [if_pos hok,if_neg hn9]) (ho:=(.n:PickO _ _ _)) ((.c (j:=0) rfl .n):SelR _ _ _)
  ·
   have hp9:(Cr.pos ((w1:Nat):Int) ((vh1:Nat):Int) ((w2:Nat):Int) ((vh2:Nat):Int) 0 0):=Decidable.not_not.1 hp
   have hww:w1≤w2:=by have:=hp9.2.2.1;omega
   have hhh:vh1≤vh2:=by have:=hp9.2.2.2;omega
   have hWb:((w2 - w1)+1)≤64:=by omega
   have hHb:((vh2 - vh1)+1)≤64:=by omega
   refine zA<|zd<|zh<|zb<|r_pv rfl rfl (zc rfl)<|zj<|zd<|zh<|zh<|zTd 32 rQ<|zb<|r_pv rfl rfl (zc rfl)<|zj<|zd<|zx<|zka (X:=Nat×(Option Addr)×Nat) (fun x:Nat×(Option Addr)×Nat=>x.1≤((vh2 - vh1)+1)) (fun x=>[(8,.slice (x.2.1) (x.1*((w2 - w1)+1)) (x.2.2)),(9,.int .i64 ((x.1:Nat):Int)),(7,.pointer (some ⟨bm3,0,none⟩)),(5,.int .i64 0),(4,.slice none 0 0)]) (fun x=>[rowA 32 rQ (x.2.1) (x.2.2) (Cr.mL (Cr.scr l1 l2 w1 vh1 n1 w2) ((w2 - w1)+1) x.1),boxA b2 24 [.int .i64 ((w2:Nat):Int),.int .i64 ((vh2:Nat):Int),.int .i64 m2,.slice p2 n2 c2],boxA b1 24 [.int .i64 ((w1:Nat):Int),.int .i64 ((vh1:Nat):Int),.int .i64 m1,.slice p1 n1 c1]]) (fun x=>[atF bm3 0 [.int .i64 ((w1:Nat):Int),.int .i64 ((vh1:Nat):Int),.int .i64 m1,.slice p1 n1 c1,.int .i64 ((w2:Nat):Int),.int .i64 ((vh2:Nat):Int),.int .i64 m2,.slice p2 n2 c2,.slice ps4 (vh2+1) cs5,.slice pq6 (vh2+1) cq7,.int .i64 (Cr.sumN (Cr.px l1) n1),.int .i64 ((((n1:Nat):Int)*(Cr.sumN (Cr.sq l1) n1)) - ((Cr.sumN (Cr.px l1) n1)*(Cr.sumN (Cr.px l1) n1)))],slF (rS (rI .i64)) ps4 cs5 (Cr.tab (Cr.px l2) w2 (vh2+1)),slF (rS (rI .i64)) pq6 cq7 (Cr.tab (Cr.sq l2) w2 (vh2+1)),slF (rI .i64) p1 c1 l1,slF (rI .i64) p2 c2 l2]) (fun x:Nat×(Option Addr)×Nat=>((vh2 - vh1)+1) - x.1) (0,none,0) (show 0≤((vh2 - vh1)+1) from by exact Nat.zero_le _) ((.e rfl (by rw [Nat.zero_mul]) (.e rfl (by first|rfl|(congr 1;omega)|simp_all) (.of rfl))):SubM _ _) (ho:=((.e (i:=0) rfl (by first|rfl|(congr 1;omega)|simp_all) (.of [0,0] rfl)):PickO _ _ _)) ((.of [0,1,2,3,4] rfl):SelR _ _ _) ?_
   rintro ⟨j,pr,cr⟩ hI
   replace hI:j≤((vh2 - vh1)+1):=hI
   try dsimp only
   refine zh<|zh<|zb<|r_pv rfl rfl (za rfl)<|r_pv rfl rfl (za rfl)<|zN rfl rfl (.c rfl (.c rfl (.c rfl .n))) ce36 (zmc (w1:=w1) (vh1:=vh1) (m1:=m1) (p1:=p1) (n1:=n1) (c1:=c1) (w2:=w2) (vh2:=vh2) (m2:=m2) (p2:=p2) (n2:=n2) (c2:=c2) (bm:=bm3) (ps:=ps4) (cs:=cs5) (pq:=pq6) (cq:=cq7) (sm:=(Cr.sumN (Cr.px l1) n1)) (sp:=((((n1:Nat):Int)*(Cr.sumN (Cr.sq l1) n1)) - ((Cr.sumN (Cr.px l1) n1)*(Cr.sumN (Cr.px l1) n1)))) (ex:=0) (ey:=((j:Nat):Int)) (hw1:=by first|rfl|assumption|omega) (hh1:=by first|rfl|assumption|omega) (hw2:=by first|rfl|assumption|omega) (hh2:=by first|rfl|assumption|omega)) (.c (j:=0) rfl .n)<|zj<|zd<|zG rfl (fun hat=> ?_) (fun hat=> ?_)
   ·
    have hjH:j<((vh2 - vh1)+1):=by have:=hat.2.2.2;omega
    refine zA<|zd<|zh<|zx<|zh<|zb<|r_pv rfl rfl (zc rfl)<|zj<|zd<|zx<|zka (X:=Nat×(Option Addr)×Nat) (fun x:Nat×(Option Addr)×Nat=>x.1≤((w2 - w1)+1)) (fun x=>[(8,.slice (x.2.1) (j*((w2 - w1)+1)+x.1) (x.2.2)),(10,.int .i64 ((x.1:Nat):Int)),(9,.int .i64 ((j:Nat):Int)),(7,.pointer (some ⟨bm3,0,none⟩)),(5,.int .i64 0),(4,.slice none 0 0)]) (fun x=>[rowA 32 rQ (x.2.1) (x.2.2) ((Cr.mL (Cr.scr l1 l2 w1 vh1 n1 w2) ((w2 - w1)+1) j)++Cr.gL ((Cr.scr l1 l2 w1 vh1 n1 w2) j) x.1),boxA b2 24 [.int .i64 ((w2:Nat):Int),.int .i64 ((vh2:Nat):Int),.int .i64 m2,.slice p2 n2 c2],boxA b1 24 [.int .i64 ((w1:Nat):Int),.int .i64 ((vh1:Nat):Int),.int .i64 m1,.slice p1 n1 c1]]) (fun x=>[atF bm3 0 [.int .i64 ((w1:Nat):Int),.int .i64 ((vh1:Nat):Int),.int .i64 m1,.slice p1 n1 c1,.int .i64 ((w2:Nat):Int),.int .i64 ((vh2:Nat):Int),.int .i64 m2,.slice p2 n2 c2,.slice ps4 (vh2+1) cs5,.slice pq6 (vh2+1) cq7,.int .i64 (Cr.sumN (Cr.px l1) n1),.int .i64 ((((n1:Nat):Int)*(Cr.sumN (Cr.sq l1) n1)) - ((Cr.sumN (Cr.px l1) n1)*(Cr.sumN (Cr.px l1) n1)))],slF (rS (rI .i64)) ps4 cs5 (Cr.tab (Cr.px l2) w2 (vh2+1)),slF (rS (rI .i64)) pq6 cq7 (Cr.tab (Cr.sq l2) w2 (vh2+1)),slF (rI .i64) p1 c1 l1,slF (rI .i64) p2 c2 l2]) (fun x:Nat×(Option Addr)×Nat=>((w2 - w1)+1) - x.1) (0,pr,cr) (show 0≤((w2 - w1)+1) from by exact Nat.zero_le _) ((.e rfl (by first|rfl|(congr 1;omega)|simp_all) (.e rfl (by first|rfl|(congr 1;omega)|simp_all) (.of rfl))):SubM _ _) (ho:=((.e (i:=0) rfl (by rw [Cr.gL,List.append_nil]) (.of [0,0] rfl)):PickO _ _ _)) ((.of [0,1,2,3,4] rfl):SelR _ _ _) ?_
    rintro ⟨i,pz,cz⟩ hJ
    replace hJ:i≤((w2 - w1)+1):=hJ
    try dsimp only
    refine zh<|zh<|zb<|r_pv rfl rfl (za rfl)<|r_pv rfl rfl (za rfl)<|r_pv rfl rfl (za rfl)<|zN rfl rfl (.c rfl (.c rfl (.c rfl .n))) ce36 (zmc (w1:=w1) (vh1:=vh1) (m1:=m1) (p1:=p1) (n1:=n1) (c1:=c1) (w2:=w2) (vh2:=vh2) (m2:=m2) (p2:=p2) (n2:=n2) (c2:=c2) (bm:=bm3) (ps:=ps4) (cs:=cs5) (pq:=pq6) (cq:=cq7) (sm:=(Cr.sumN (Cr.px l1) n1)) (sp:=((((n1:Nat):Int)*(Cr.sumN (Cr.sq l1) n1)) - ((Cr.sumN (Cr.px l1) n1)*(Cr.sumN (Cr.px l1) n1)))) (ex:=((i:Nat):Int)) (ey:=((j:Nat):Int)) (hw1:=by first|rfl|assumption|omega) (hh1:=by first|rfl|assumption|omega) (hw2:=by first|rfl|assumption|omega) (hh2:=by first|rfl|assumption|omega)) (.c (j:=0) rfl .n)<|zj<|zd<|zG rfl (fun ha2=> ?_) (fun ha2=> ?_)
    ·
     have hiW:i<((w2 - w1)+1):=by have:=ha2.2.2.1;omega
     have hjw:j*((w2 - w1)+1)≤64*64:=Nat.mul_le_mul (by omega) hWb
     have hml:((Cr.mL (Cr.scr l1 l2 w1 vh1 n1 w2) ((w2 - w1)+1) j)++Cr.gL ((Cr.scr l1 l2 w1 vh1 n1 w2) j) i).length=j*((w2 - w1)+1)+i:=by rw [List.length_append,Cr.mL_len,Cr.gL_len]
     refine zA<|zd<|zh<|zx<|zb<|r_pv rfl rfl (za rfl)<|r_pv rfl rfl (za rfl)<|r_pv rfl rfl (za rfl)<|r_pv rfl rfl (za rfl)<|zw rfl rfl (.c rfl (.c rfl (.c rfl .n))) ce37 (zsc (w1:=w1) (vh1:=vh1) (m1:=m1) (p1:=p1) (n1:=n1) (c1:=c1) (l1:=l1) (w2:=w2) (vh2:=vh2) (m2:=m2) (p2:=p2) (n2:=n2) (c2:=c2) (l2:=l2) (bm:=bm3) (ps:=ps4) (cs:=cs5) (pq:=pq6) (cq:=cq7) (xx:=i) (yy:=j) (hn1:=by assumption) (hw1:=by first|rfl|assumption|omega) (hh1:=by first|rfl|assumption|omega) (hwh1:=by first|rfl|assumption|omega) (hb1:=by first|rfl|assumption|omega) (hg1:=by first|rfl|assumption|omega) (hn2:=by assumption) (hw2:=by first|rfl|assumption|omega) (hh2:=by first|rfl|assumption|omega) (hwh2:=by first|rfl|assumption|omega) (hb2:=by first|rfl|assumption|omega) (hg2:=by first|rfl|assumption|omega) (hx:=by first|rfl|assumption|omega) (hy:=by first|rfl|assumption|omega)) (.c (j:=0) rfl (.c (j:=3) rfl (.c (j:=4) rfl (.c (j:=1) rfl (.c (j:=2) rfl .n))))) ?_
     rintro ⟨w38,w49⟩ -
     dsimp only [List.append_eq,List.nil_append,List.cons_append]
     refine zwa rfl rfl (ztb (r:=rQ) (k:=1) Tryz.underlying44 inf32 rfl (by decide) (by decide) (by decide) (.c (x:=(Cr.scr l1 l2 w1 vh1 n1 w2 j i)) (cs:=[w38.b,w38.l,w49.b,w49.l]) (w38,w49) rfl rfl rfl (fun g hr=>Holds.get 0 rfl hr) .n)) (fun b10 _=> ?_)
     refine zja 0 rfl .z<|zBa 1 rfl rfl rfl (zua 0 rfl Tryz.underlying44 inf32 (by decide) rfl rfl (by first|rfl|assumption|exact hml|omega) rfl (by first|rfl|assumption|exact hml|omega) (by omega) (by omega)) (fun _=>(.s .z)) ?_
     rintro ⟨p11,c12⟩ -
     dsimp only [List.append_eq,List.nil_append,List.cons_append]
     refine r_pv rfl rfl (zc rfl)<|zj<|zR<|zd<|zb<|r_pv rfl rfl (za rfl)<|r_pv rfl rfl (zC (z:=(((i+1):Nat):Int)) rfl rfl (w64 (by omega)))<|r_pv rfl rfl (zc rfl)<|zj ?_
     have e13:(((Cr.mL (Cr.scr l1 l2 w1 vh1 n1 w2) ((w2 - w1)+1) j)++Cr.gL ((Cr.scr l1 l2 w1 vh1 n1 w2) j) i)++([(Cr.scr l1 l2 w1 vh1 n1 w2 j i)]))=(Cr.mL (Cr.scr l1 l2 w1 vh1 n1 w2) ((w2 - w1)+1) j)++Cr.gL ((Cr.scr l1 l2 w1 vh1 n1 w2) j) (i+1):=by rw [List.append_assoc];rfl
     rw [e13]
     refine zfa ((i+1),p11,c12) (show (i+1)≤((w2 - w1)+1) from by omega) (by show ((w2 - w1)+1) - (i+1)<((w2 - w1)+1) - i;omega) ((.e rfl (by first|rfl|(congr 1;omega)|simp_all) (.of rfl)):SubM _ _) (ho:=((.of [1,1,1] rfl):PickO _ _ _)) ((.of [2,3,4,5,6] rfl):SelR _ _ _)
    ·
     have hiW:i=((w2 - w1)+1):=Nat.le_antisymm hJ (Nat.not_lt.1 (fun k=>ha2 ⟨by omega,by omega,by omega,by omega⟩))
     refine zha<|zl<|zl<|zv<|zR<|zd<|zb<|r_pv rfl rfl (za rfl)<|r_pv rfl rfl (zC (z:=(((j+1):Nat):Int)) rfl rfl (w64 (by omega)))<|r_pv rfl rfl (zc rfl)<|zj ?_
     have e14:(Cr.mL (Cr.scr l1 l2 w1 vh1 n1 w2) ((w2 - w1)+1) j)++Cr.gL ((Cr.scr l1 l2 w1 vh1 n1 w2) j) i=(Cr.mL (Cr.scr l1 l2 w1 vh1 n1 w2) ((w2 - w1)+1) (j+1)):=by rw [show i=((w2 - w1)+1) by omega];rfl
     rw [e14]
     refine zfa ((j+1),pz,cz) (show (j+1)≤((vh2 - vh1)+1) from by omega) (by show ((vh2 - vh1)+1) - (j+1)<((vh2 - vh1)+1) - j;omega) ((.e rfl (by rw [Nat.succ_mul,show i=((w2 - w1)+1) by omega]) (.of rfl)):SubM _ _) (ho:=((.of [0,0,0] rfl):PickO _ _ _)) ((.of [0,1,2,3,4] rfl):SelR _ _ _)
   ·
    have hjH:j=((vh2 - vh1)+1):=Nat.le_antisymm hI (Nat.not_lt.1 (fun k=>hat ⟨by omega,by omega,by omega,by omega⟩))
    refine zha<|zl<|zl<|zv<|zd<|zh<|zb<|r_pv rfl rfl (za rfl)<|r_pv rfl rfl (zc rfl)<|r_pv rfl rfl (zc rfl)<|zj<|zd<|zI<|zGa 0 rfl .z ?_
    have hg9:((Cr.rk2 ((w1:Nat):Int) ((vh1:Nat):Int) m1 l1 ((w2:Nat):Int) ((vh2:Nat):Int) m2 l2)∧(Cr.pos ((w1:Nat):Int) ((vh1:Nat):Int) ((w2:Nat):Int) ((vh2:Nat):Int) 0 0)):=⟨hok,hp9⟩
    exact zza Tryz.results17 (pr,(j*((w2 - w1)+1)),cr,(Cr.mL (Cr.scr l1 l2 w1 vh1 n1 w2) ((w2 - w1)+1) j)) (⟨Cr.mL_len _ _ _,by rw [if_pos hg9,hjH];rfl⟩) (zo rfl) (zo rfl) (by rw [if_pos hok,if_pos hp9]) (ho:=(.n:PickO _ _ _)) ((.c (j:=0) rfl .n):SelR _ _ _)
theorem zMd {w1:Nat} {vh1:Nat} {m1:Int} {p1:Option Addr} {n1:Nat} {c1:Nat} {l1:List Int} {w2:Nat} {vh2:Nat} {m2:Int} {p2:Option Addr} {n2:Nat} {c2:Nat} {l2:List Int} (hn1:l1.length=n1) (hw1:1≤w1∧w1≤64) (hh1:1≤vh1∧vh1≤64) (hwh1:n1=w1*vh1) (hb1:n1≤4096) (hg1:∀i,i<n1→0≤l1.getD i 0∧l1.getD i 0≤65535) (hn2:l2.length=n2) (hw2:1≤w2∧w2≤64) (hh2:1≤vh2∧vh2≤64) (hwh2:n2=w2*vh2) (hb2:n2≤4096) (hg2:∀i,i<n2→0≤l2.getD i 0∧l2.getD i 0≤65535) (hww:w1≤w2) (hhh:vh1≤vh2):Con Tryz.prog 20 [.agg #[.int .i64 ((w1:Nat):Int),.int .i64 ((vh1:Nat):Int),.int .i64 m1,.slice p1 n1 c1],.agg #[.int .i64 ((w2:Nat):Int),.int .i64 ((vh2:Nat):Int),.int .i64 m2,.slice p2 n2 c2]] [] [slF (rI .i64) p1 c1 l1,slF (rI .i64) p2 c2 l2] (Y:=(Option Addr)×Nat) (fun y=>True) (fun y=> .slice (y.1) (((vh2 - vh1)+1)*((w2 - w1)+1)) (y.2)) (fun y=>[]) (fun y=>[slF rQ (y.1) (y.2) (Cr.mL (Cr.scr l1 l2 w1 vh1 n1 w2) ((w2 - w1)+1) ((vh2 - vh1)+1))]):=by
 refine zp Tryz.func20 rfl rfl rfl (fun c=> ?_)
 show RunC _ _ _ _ _ [(0,.agg #[.int .i64 ((w1:Nat):Int),.int .i64 ((vh1:Nat):Int),.int .i64 m1,.slice p1 n1 c1]),(1,.agg #[.int .i64 ((w2:Nat):Int),.int .i64 ((vh2:Nat):Int),.int .i64 m2,.slice p2 n2 c2])] [] [slF (rI .i64) p1 c1 l1,slF (rI .i64) p2 c2 l2]
 refine zX 0 rfl (fun hL0=> ?_)
 refine zX 1 rfl (fun hL1=> ?_)
 have hWb:((w2 - w1)+1)≤64:=by omega
 have hHb:((vh2 - vh1)+1)≤64:=by omega
 refine zh<|zb<|zK rfl rfl (zQ rfl rfl) (fun b1=> ?_)
 refine zK rfl rfl (zQ rfl rfl) (fun b2=> ?_)
 refine r_pv rfl rfl (zc rfl)<|zj<|zd<|zh<|zb<|zwa rfl rfl (zpa rQ Tryz.underlying44 inf32) (fun b3 _=> ?_)
 refine r_pv rfl rfl (zc rfl)<|zj<|zd<|zh<|zh<|zb<|r_pv rfl rfl (zc rfl)<|zj<|zd<|zx<|zka (X:=Nat×(Option Addr)×Nat) (fun x:Nat×(Option Addr)×Nat=>x.1≤((vh2 - vh1)+1)) (fun x=>[(5,.slice (x.2.1) (x.1*((w2 - w1)+1)) (x.2.2)),(6,.int .i64 ((x.1:Nat):Int)),(4,.slice none 0 0),(3,.pointer (some ⟨b2,0,none⟩)),(2,.pointer (some ⟨b1,0,none⟩))]) (fun x=>[rowA 32 rQ (x.2.1) (x.2.2) (Cr.mL (Cr.scr l1 l2 w1 vh1 n1 w2) ((w2 - w1)+1) x.1),boxA b2 24 [.int .i64 ((w2:Nat):Int),.int .i64 ((vh2:Nat):Int),.int .i64 m2,.slice p2 n2 c2],boxA b1 24 [.int .i64 ((w1:Nat):Int),.int .i64 ((vh1:Nat):Int),.int .i64 m1,.slice p1 n1 c1]]) (fun x=>[slF (rI .i64) p1 c1 l1,slF (rI .i64) p2 c2 l2]) (fun x:Nat×(Option Addr)×Nat=>((vh2 - vh1)+1) - x.1) (0,some ⟨b3,0,none⟩,0) (show 0≤((vh2 - vh1)+1) from by exact Nat.zero_le _) ((.e rfl (by rw [Nat.zero_mul]) (.e rfl (by first|rfl|(congr 1;omega)|simp_all) (.of rfl))):SubM _ _) (ho:=((.e (i:=0) rfl (by first|rfl|(congr 1;omega)|simp_all) (.of [0,0] rfl)):PickO _ _ _)) ((.of [0,1] rfl):SelR _ _ _) ?_
 rintro ⟨j,pr,cr⟩ hI
 replace hI:j≤((vh2 - vh1)+1):=hI
 try dsimp only
 refine zh<|zh<|zb<|r_pv rfl rfl (za rfl)<|r_pv rfl rfl (zg Tryz.underlying24 rfl sz3 rfl rfl)<|r_u rfl rfl (zi 2 ty3 rfl rfl rfl)<|r_pv rfl rfl (zC (z:=(((j+vh1):Nat):Int)) rfl rfl (w64 (by omega)))<|r_pv rfl rfl (zg Tryz.underlying24 rfl sz3 rfl rfl)<|r_u rfl rfl (zi 1 ty3 rfl rfl rfl)<|r_pv rfl rfl (zpb rfl rfl)<|zj<|zd<|zG rfl (fun h4=> ?_) (fun h4=> ?_)
 ·
  refine zA<|zd<|zh<|zx<|zh<|zb<|r_pv rfl rfl (zc rfl)<|zj<|zd<|zx<|zka (X:=Nat×(Option Addr)×Nat) (fun x:Nat×(Option Addr)×Nat=>x.1≤((w2 - w1)+1)) (fun x=>[(5,.slice (x.2.1) (j*((w2 - w1)+1)+x.1) (x.2.2)),(7,.int .i64 ((x.1:Nat):Int)),(6,.int .i64 ((j:Nat):Int)),(4,.slice none 0 0),(3,.pointer (some ⟨b2,0,none⟩)),(2,.pointer (some ⟨b1,0,none⟩))]) (fun x=>[rowA 32 rQ (x.2.1) (x.2.2) ((Cr.mL (Cr.scr l1 l2 w1 vh1 n1 w2) ((w2 - w1)+1) j)++Cr.gL ((Cr.scr l1 l2 w1 vh1 n1 w2) j) x.1),boxA b2 24 [.int .i64 ((w2:Nat):Int),.int .i64 ((vh2:Nat):Int),.int .i64 m2,.slice p2 n2 c2],boxA b1 24 [.int .i64 ((w1:Nat):Int),.int .i64 ((vh1:Nat):Int),.int .i64 m1,.slice p1 n1 c1]]) (fun x=>[slF (rI .i64) p1 c1 l1,slF (rI .i64) p2 c2 l2]) (fun x:Nat×(Option Addr)×Nat=>((w2 - w1)+1) - x.1) (0,pr,cr) (show 0≤((w2 - w1)+1) from by exact Nat.zero_le _) ((.e rfl (by first|rfl|(congr 1;omega)|simp_all) (.e rfl (by first|rfl|(congr 1;omega)|simp_all) (.of rfl))):SubM _ _) (ho:=((.e (i:=0) rfl (by rw [Cr.gL,List.append_nil]) (.of [0,0] rfl)):PickO _ _ _)) ((.of [0,1] rfl):SelR _ _ _) ?_
  rintro ⟨i,pz,cz⟩ hJ
  replace hJ:i≤((w2 - w1)+1):=hJ
  try dsimp only
  refine zh<|zh<|zb<|r_pv rfl rfl (za rfl)<|r_pv rfl rfl (zg Tryz.underlying24 rfl sz3 rfl rfl)<|r_u rfl rfl (zi 2 ty3 rfl rfl rfl)<|r_pv rfl rfl (zC (z:=(((i+w1):Nat):Int)) rfl rfl (w64 (by omega)))<|r_pv rfl rfl (zg Tryz.underlying24 rfl sz3 rfl rfl)<|r_u rfl rfl (zi 1 ty3 rfl rfl rfl)<|r_pv rfl rfl (zpb rfl rfl)<|zj<|zd<|zG rfl (fun h5=> ?_) (fun h5=> ?_)
  ·
   have hjw:j*((w2 - w1)+1)≤64*64:=Nat.mul_le_mul (by omega) hWb
   have hml:((Cr.mL (Cr.scr l1 l2 w1 vh1 n1 w2) ((w2 - w1)+1) j)++Cr.gL ((Cr.scr l1 l2 w1 vh1 n1 w2) j) i).length=j*((w2 - w1)+1)+i:=by rw [List.length_append,Cr.mL_len,Cr.gL_len]
   refine zA<|zd<|zh<|zx<|zb<|r_pv rfl rfl (za rfl)<|r_u rfl rfl (ze 2 ty24 rfl rfl (.take (.take (.take (.take .nil)))))<|r_u rfl rfl (ze 1 ty24 rfl rfl (.take (.take (.take (.take .nil)))))<|r_pv rfl rfl (za rfl)<|r_pv rfl rfl (za rfl)<|zw rfl rfl (.c rfl (.c rfl (.c rfl (.c rfl .n)))) ce13 (zpe (w1:=w1) (vh1:=vh1) (m1:=m1) (p1:=p1) (n1:=n1) (c1:=c1) (l1:=l1) (w2:=w2) (vh2:=vh2) (m2:=m2) (p2:=p2) (n2:=n2) (c2:=c2) (l2:=l2) (xx:=i) (yy:=j) (hn1:=by assumption) (hw1:=by assumption) (hh1:=by assumption) (hwh1:=by assumption) (hb1:=by assumption) (hg1:=by assumption) (hn2:=by assumption) (hw2:=by assumption) (hh2:=by assumption) (hwh2:=by assumption) (hb2:=by assumption) (hg2:=by assumption) (hx:=by first|rfl|assumption|omega) (hy:=by first|rfl|assumption|omega)) (.c (j:=0) rfl (.c (j:=1) rfl .n)) ?_
   rintro ⟨w36,w47⟩ -
   dsimp only [List.append_eq,List.nil_append,List.cons_append]
   refine zwa rfl rfl (ztb (r:=rQ) (k:=1) Tryz.underlying44 inf32 rfl (by decide) (by decide) (by decide) (.c (x:=(Cr.scr l1 l2 w1 vh1 n1 w2 j i)) (cs:=[w36.b,w36.l,w47.b,w47.l]) (w36,w47) rfl rfl rfl (fun g hr=>Holds.get 0 rfl hr) .n)) (fun b8 _=> ?_)
   refine zja 0 rfl .z<|zBa 1 rfl rfl rfl (zua 0 rfl Tryz.underlying44 inf32 (by decide) rfl rfl (by first|rfl|assumption|exact hml|omega) rfl (by first|rfl|assumption|exact hml|omega) (by omega) (by omega)) (fun _=>(.s .z)) ?_
   rintro ⟨p9,c10⟩ -
   dsimp only [List.append_eq,List.nil_append,List.cons_append]
   refine r_pv rfl rfl (zc rfl)<|zj<|zR<|zd<|zb<|r_pv rfl rfl (za rfl)<|r_pv rfl rfl (zC (z:=(((i+1):Nat):Int)) rfl rfl (w64 (by omega)))<|r_pv rfl rfl (zc rfl)<|zj ?_
   have e11:(((Cr.mL (Cr.scr l1 l2 w1 vh1 n1 w2) ((w2 - w1)+1) j)++Cr.gL ((Cr.scr l1 l2 w1 vh1 n1 w2) j) i)++([(Cr.scr l1 l2 w1 vh1 n1 w2 j i)]))=(Cr.mL (Cr.scr l1 l2 w1 vh1 n1 w2) ((w2 - w1)+1) j)++Cr.gL ((Cr.scr l1 l2 w1 vh1 n1 w2) j) (i+1):=by rw [List.append_assoc];rfl
   rw [e11]
   refine zfa ((i+1),p9,c10) (show (i+1)≤((w2 - w1)+1) from by omega) (by show ((w2 - w1)+1) - (i+1)<((w2 - w1)+1) - i;omega) ((.e rfl (by first|rfl|(congr 1;omega)|simp_all) (.of rfl)):SubM _ _) (ho:=((.of [1,1,1] rfl):PickO _ _ _)) ((.of [2,3] rfl):SelR _ _ _)
  ·
   refine zha<|zl<|zl<|zv<|zR<|zd<|zb<|r_pv rfl rfl (za rfl)<|r_pv rfl rfl (zC (z:=(((j+1):Nat):Int)) rfl rfl (w64 (by omega)))<|r_pv rfl rfl (zc rfl)<|zj ?_
   have e12:(Cr.mL (Cr.scr l1 l2 w1 vh1 n1 w2) ((w2 - w1)+1) j)++Cr.gL ((Cr.scr l1 l2 w1 vh1 n1 w2) j) i=(Cr.mL (Cr.scr l1 l2 w1 vh1 n1 w2) ((w2 - w1)+1) (j+1)):=by rw [show i=((w2 - w1)+1) by omega];rfl
   rw [e12]
   refine zfa ((j+1),pz,cz) (show (j+1)≤((vh2 - vh1)+1) from by omega) (by show ((vh2 - vh1)+1) - (j+1)<((vh2 - vh1)+1) - j;omega) ((.e rfl (by rw [Nat.succ_mul,show i=((w2 - w1)+1) by omega]) (.of rfl)):SubM _ _) (ho:=((.of [0,0,0] rfl):PickO _ _ _)) ((.of [0,1] rfl):SelR _ _ _)
 ·
  refine zha<|zl<|zl<|zv<|zd<|zh<|zb<|r_pv rfl rfl (za rfl)<|r_pv rfl rfl (zc rfl)<|zj<|zd<|zI ?_
  have hjH:j=((vh2 - vh1)+1):=by omega
  refine zGa 0 rfl .z ?_
  exact zB Tryz.results20 (pr,cr) trivial (zo rfl) (by rw [hjH]) (ho:=(.n:PickO _ _ _)) ((.e (j:=0) rfl (by rw [hjH]) .n):SelR _ _ _)
end Go.Proofs.YtkamccndgblheaaGreat.Sp
namespace Go.Proofs.YtkamccndgblheaaGreat.Sp
open Go
set_option linter.unusedVariables false
set_option maxRecDepth 100000
set_option maxHeartbeats 1000000
theorem zWb {wi1:Int} {hi1:Int} {m1:Int} {p1:Option Addr} {n1:Nat} {c1:Nat} {l1:List Int} {wi2:Int} {hi2:Int} {m2:Int} {p2:Option Addr} {n2:Nat} {c2:Nat} {l2:List Int} (hn1:l1.length=n1) (hn2:l2.length=n2) (hbw1: -9223372036854775808≤wi1∧wi1≤9223372036854775807) (hbh1: -9223372036854775808≤hi1∧hi1≤9223372036854775807) (hbm1: -9223372036854775808≤m1∧m1≤9223372036854775807) (hbw2: -9223372036854775808≤wi2∧wi2≤9223372036854775807) (hbh2: -9223372036854775808≤hi2∧hi2≤9223372036854775807) (hbm2: -9223372036854775808≤m2∧m2≤9223372036854775807):Con Tryz.prog 4 [.agg #[.int .i64 wi1,.int .i64 hi1,.int .i64 m1,.slice p1 n1 c1],.agg #[.int .i64 wi2,.int .i64 hi2,.int .i64 m2,.slice p2 n2 c2]] [] [slF (rI .i64) p1 c1 l1,slF (rI .i64) p2 c2 l2] (Y:=Unit) (fun y=>True) (fun y=> .bool true) (fun y=>[]) (fun y=>[]):=by
 refine zp Tryz.func4 rfl rfl rfl (fun c=> ?_)
 show RunC _ _ _ _ _ [(0,.agg #[.int .i64 wi1,.int .i64 hi1,.int .i64 m1,.slice p1 n1 c1]),(1,.agg #[.int .i64 wi2,.int .i64 hi2,.int .i64 m2,.slice p2 n2 c2])] [] [slF (rI .i64) p1 c1 l1,slF (rI .i64) p2 c2 l2]
 refine zX 0 rfl (fun hL0=> ?_)
 refine zX 1 rfl (fun hL1=> ?_)
 refine zh<|zb<|zK rfl rfl (zQ rfl rfl) (fun b1=> ?_)
 refine zK rfl rfl (zQ rfl rfl) (fun b2=> ?_)
 refine r_pv rfl rfl (zc rfl)<|zj<|zd<|zh<|zh<|zb<|zN rfl rfl (.n) ce7 (zZe) (.n)<|r_pv rfl rfl (zhb rfl)<|zj<|zd<|zWa rfl rfl<|zA<|zd<|zh<|zh<|zb<|r_u rfl rfl (ze 1 ty24 rfl rfl (.take (.take (.take (.take .nil)))))<|r_u rfl rfl (ze 0 ty24 rfl rfl (.take (.take (.take (.take .nil)))))<|zwa rfl rfl (zS (enc:=fun z:Gr=>[.int .i64 z.w,.int .i64 z.h,.int .i64 z.m,.slice z.p z.n z.c]) (ok:=okG) (h1:=fun _=>rfl) (h2:=fun _=>rfl) (k:=2) Tryz.underlying77 inf24 rfl (by decide) (by decide) (by decide) (.c (x:=(⟨wi1,hi1,m1,p1,n1,c1⟩:Gr)) rfl rfl (fun _ _=>by exact ⟨zW.2 (by first|omega|decide|(dsimp only;omega)),zW.2 (by first|omega|decide|(dsimp only;omega)),zW.2 (by first|omega|decide|(dsimp only;omega))⟩) (.c (x:=(⟨wi2,hi2,m2,p2,n2,c2⟩:Gr)) rfl rfl (fun _ _=>by exact ⟨zW.2 (by first|omega|decide|(dsimp only;omega)),zW.2 (by first|omega|decide|(dsimp only;omega)),zW.2 (by first|omega|decide|(dsimp only;omega))⟩) .n))) (fun b3 _=> ?_)
 refine zja 0 rfl .z<|zN rfl rfl (.c rfl .n) ce8 (zDf (p:=some ⟨b3,0,none⟩) (n:=2) (cap:=2) (l:=[(⟨wi1,hi1,m1,p1,n1,c1⟩:Gr),(⟨wi2,hi2,m2,p2,n2,c2⟩:Gr)]) (hn:=by first|rfl|assumption|omega)) (.c (j:=0) rfl .n)<|r_pv rfl rfl (zXa rfl)<|zj<|zd<|zG rfl (fun hf=> ?_) (fun hf=> ?_)
 ·
  refine zh<|zb<|r_pv rfl rfl (zc rfl)<|zj<|zd<|zI<|zn ?_
  exact zB Tryz.results4 () trivial (zo rfl) rfl (ho:=(.n:PickO _ _ _)) (.n:SelR _ _ _)
 ·
  refine zA<|zd<|zh<|zb<|r_u rfl rfl (ze 2 ty24 rfl rfl (.take (.take (.take (.take .nil)))))<|r_u rfl rfl (ze 1 ty24 rfl rfl (.take (.take (.take (.take .nil)))))<|zw rfl rfl (.c rfl (.c rfl .n)) ce17 (zEf (wi1:=wi1) (hi1:=hi1) (m1:=m1) (p1:=p1) (n1:=n1) (c1:=c1) (l1:=l1) (wi2:=wi2) (hi2:=hi2) (m2:=m2) (p2:=p2) (n2:=n2) (c2:=c2) (l2:=l2) (hn1:=by assumption) (hn2:=by assumption)) (.c (j:=1) rfl (.c (j:=2) rfl .n)) ?_
  rintro ⟨p34,kq,c35,lq⟩ hmp
  dsimp only [List.append_eq,List.nil_append,List.cons_append]
  replace hmp:lq.length=kq∧lq=(if ((Cr.rk2 wi1 hi1 m1 l1 wi2 hi2 m2 l2)∧(Cr.pos wi1 hi1 wi2 hi2 0 0)) then (Cr.mL (Cr.scr l1 l2 wi1.toNat hi1.toNat n1 wi2.toNat) ((wi2.toNat - wi1.toNat)+1) ((hi2.toNat - hi1.toNat)+1)) else []):=hmp
  refine r_pv rfl rfl (za rfl)<|r_pv rfl rfl (zq rfl rfl)<|r_pv rfl rfl (zq rfl rfl)<|r_pv rfl rfl (zc rfl)<|r_pv rfl rfl (zc rfl)<|zj<|zd<|zh<|zb<|r_u rfl rfl (ze 2 ty24 rfl rfl (.take (.take (.take (.take .nil)))))<|r_u rfl rfl (ze 1 ty24 rfl rfl (.take (.take (.take (.take .nil)))))<|zw rfl rfl (.c rfl (.c rfl .n)) ce18 (zhe (wi1:=wi1) (hi1:=hi1) (m1:=m1) (p1:=p1) (n1:=n1) (c1:=c1) (l1:=l1) (wi2:=wi2) (hi2:=hi2) (m2:=m2) (p2:=p2) (n2:=n2) (c2:=c2) (l2:=l2) (hn1:=by assumption) (hn2:=by assumption)) (.c (j:=2) rfl (.c (j:=3) rfl .n)) ?_
  rintro ⟨w36,w47⟩ hbs
  dsimp only [List.append_eq,List.nil_append,List.cons_append]
  replace hbs:((if (Cr.rk2 wi1 hi1 m1 l1 wi2 hi2 m2 l2) then Cr.best l1 l2 wi1 hi1 wi2 hi2 else none).isSome=false→w36=wz∧w47=wz)∧Big.hq (Cr.pQ (if (Cr.rk2 wi1 hi1 m1 l1 wi2 hi2 m2 l2) then Cr.best l1 l2 wi1 hi1 wi2 hi2 else none))≤6:=hbs
  refine r_pv rfl rfl (za rfl)<|r_pv rfl rfl (zq rfl rfl)<|r_pv rfl rfl (zq rfl rfl)<|r_pv rfl rfl (zq rfl rfl)<|r_pv rfl rfl (zq rfl rfl)<|zK rfl rfl (zD zr32 rfl) (fun b8=> ?_)
  refine r_pv rfl rfl (zc rfl)<|r_pv rfl rfl (zc rfl)<|zm 0 rfl rfl rfl rfl rfl sz32 rfl (.take (.take (.take (.take .nil)))) .z<|r_pv rfl rfl (zc rfl)<|zj<|zd<|zh<|zYb (gsF [(⟨wi1,hi1,m1,p1,n1,c1⟩:Gr),(⟨wi2,hi2,m2,p2,n2,c2⟩:Gr)] [l1,l2]) (gsF_2 3 4 rfl rfl)<|zb<|r_u rfl rfl (ze 3 ty24 rfl rfl (.take (.take (.take (.take .nil)))))<|r_u rfl rfl (ze 2 ty24 rfl rfl (.take (.take (.take (.take .nil)))))<|zwa rfl rfl (zS (enc:=fun z:Gr=>[.int .i64 z.w,.int .i64 z.h,.int .i64 z.m,.slice z.p z.n z.c]) (ok:=okG) (h1:=fun _=>rfl) (h2:=fun _=>rfl) (k:=2) Tryz.underlying77 inf24 rfl (by decide) (by decide) (by decide) (.c (x:=(⟨wi1,hi1,m1,p1,n1,c1⟩:Gr)) rfl rfl (fun _ _=>by exact ⟨zW.2 (by first|omega|decide|(dsimp only;omega)),zW.2 (by first|omega|decide|(dsimp only;omega)),zW.2 (by first|omega|decide|(dsimp only;omega))⟩) (.c (x:=(⟨wi2,hi2,m2,p2,n2,c2⟩:Gr)) rfl rfl (fun _ _=>by exact ⟨zW.2 (by first|omega|decide|(dsimp only;omega)),zW.2 (by first|omega|decide|(dsimp only;omega)),zW.2 (by first|omega|decide|(dsimp only;omega))⟩) .n))) (fun b9 _=> ?_)
  refine zja 0 rfl .z<|zN rfl rfl (.c rfl .n) ce10 (zud (p:=some ⟨b9,0,none⟩) (n:=2) (cap:=2) (l:=[(⟨wi1,hi1,m1,p1,n1,c1⟩:Gr),(⟨wi2,hi2,m2,p2,n2,c2⟩:Gr)]) (ls:=[l1,l2]) (hn:=by first|rfl|assumption|omega) (hls:=by intro i hi;rcases (show i=0∨i=1 by omega) with rfl|rfl;exact hn1;exact hn2)) (.c (j:=0) rfl (.c (j:=1) rfl .n)) ?_
  have e10:((if (Cr.allok ([(⟨wi1,hi1,m1,p1,n1,c1⟩:Gr),(⟨wi2,hi2,m2,p2,n2,c2⟩:Gr)]) ([l1,l2]) 2) then 0 else 1):Int)=(if (Cr.rk2 wi1 hi1 m1 l1 wi2 hi2 m2 l2) then 0 else 1):=by exact Cr.chk2
  rw [e10]
  refine r_pv rfl rfl (zc rfl)<|zj<|zd<|zh<|zh<|zb<|r_pv rfl rfl (za rfl)<|r_pv rfl rfl (zna rfl rfl)<|zga rfl rfl (za rfl) (fun hk=> ?_) (fun hk=> ?_)
  ·
   have hok:(Cr.rk2 wi1 hi1 m1 l1 wi2 hi2 m2 l2):=Bl.c0.1 hk
   have e11:((if (Cr.rk2 wi1 hi1 m1 l1 wi2 hi2 m2 l2) then 0 else 1):Int)=0:=by exact if_pos hok
   rw [e11]
   obtain ⟨w1,vh1,rfl,rfl,hw1,hh1,hwh1,hb1,hg1⟩:=Cr.rokN (hok.1) hn1
   obtain ⟨w2,vh2,rfl,rfl,hw2,hh2,hwh2,hb2,hg2⟩:=Cr.rokN (hok.2) hn2
   refine r_u rfl rfl (ze 4 ty24 rfl rfl (.take (.take (.take (.take .nil)))))<|r_u rfl rfl (ze 3 ty24 rfl rfl (.take (.take (.take (.take .nil)))))<|zN rfl rfl (.c rfl (.c rfl (.c rfl (.c rfl .n)))) ce11 (zPc (wi1:=((w1:Nat):Int)) (hi1:=((vh1:Nat):Int)) (m1:=m1) (p1:=p1) (n1:=n1) (c1:=c1) (l1:=l1) (wi2:=((w2:Nat):Int)) (hi2:=((vh2:Nat):Int)) (m2:=m2) (p2:=p2) (n2:=n2) (c2:=c2) (l2:=l2) (ex:=0) (ey:=0) (hok:=by first|rfl|assumption|omega)) (.n)<|r_pv rfl rfl (zXa rfl)<|r_pv rfl rfl (zr rfl rfl)<|zj<|zd<|zG rfl (fun hp=> ?_) (fun hp=> ?_)
   ·
    have hg9:¬((Cr.rk2 ((w1:Nat):Int) ((vh1:Nat):Int) m1 l1 ((w2:Nat):Int) ((vh2:Nat):Int) m2 l2)∧(Cr.pos ((w1:Nat):Int) ((vh1:Nat):Int) ((w2:Nat):Int) ((vh2:Nat):Int) 0 0)):=fun k=>hp k.2
    have hk9:(if (Cr.rk2 ((w1:Nat):Int) ((vh1:Nat):Int) m1 l1 ((w2:Nat):Int) ((vh2:Nat):Int) m2 l2) then Cr.best l1 l2 ((w1:Nat):Int) ((vh1:Nat):Int) ((w2:Nat):Int) ((vh2:Nat):Int) else none)=none:=by rw [if_pos hok];exact Cr.best_none hp
    have hce:((if (Cr.rk2 ((w1:Nat):Int) ((vh1:Nat):Int) m1 l1 ((w2:Nat):Int) ((vh2:Nat):Int) m2 l2) then (if (Cr.pos ((w1:Nat):Int) ((vh1:Nat):Int) ((w2:Nat):Int) ((vh2:Nat):Int) 0 0) then 0 else 6) else 1):Int)=6:=by rw [if_pos hok,if_neg hp]
    have hbe:((if (Cr.rk2 ((w1:Nat):Int) ((vh1:Nat):Int) m1 l1 ((w2:Nat):Int) ((vh2:Nat):Int) m2 l2) then (if (if (Cr.rk2 ((w1:Nat):Int) ((vh1:Nat):Int) m1 l1 ((w2:Nat):Int) ((vh2:Nat):Int) m2 l2) then Cr.best l1 l2 ((w1:Nat):Int) ((vh1:Nat):Int) ((w2:Nat):Int) ((vh2:Nat):Int) else none).isSome then 0 else 6) else 1):Int)=6:=by rw [if_pos hok,hk9];rfl
    have e12:[]=lq:=by rw [hmp.2,if_neg hg9]
    subst e12
    have e13:0=kq:=by rw [← hmp.1,hmp.2,if_neg hg9];rfl
    subst e13
    refine zb<|r_pv rfl rfl (zc rfl)<|zj<|zd<|zh<|zh<|zb<|r_pv rfl rfl (za rfl)<|r_pv rfl rfl (zDa rfl rfl)<|zj<|zd<|zJc rfl rfl<|zh<|zb<|r_pv rfl rfl (za rfl)<|r_pv rfl rfl (za rfl)<|r_pv rfl rfl (zna rfl rfl) ?_
    rw [show (decide (((if (Cr.rk2 ((w1:Nat):Int) ((vh1:Nat):Int) m1 l1 ((w2:Nat):Int) ((vh2:Nat):Int) m2 l2) then (if (Cr.pos ((w1:Nat):Int) ((vh1:Nat):Int) ((w2:Nat):Int) ((vh2:Nat):Int) 0 0) then 0 else 6) else 1):Int)=6))=true from by exact decide_eq_true hce]
    refine r_pv rfl rfl (za rfl)<|r_pv rfl rfl (za rfl)<|r_pv rfl rfl (za rfl)<|r_pv rfl rfl (zna rfl rfl) ?_
    rw [show (decide (((if (Cr.rk2 ((w1:Nat):Int) ((vh1:Nat):Int) m1 l1 ((w2:Nat):Int) ((vh2:Nat):Int) m2 l2) then (if (if (Cr.rk2 ((w1:Nat):Int) ((vh1:Nat):Int) m1 l1 ((w2:Nat):Int) ((vh2:Nat):Int) m2 l2) then Cr.best l1 l2 ((w1:Nat):Int) ((vh1:Nat):Int) ((w2:Nat):Int) ((vh2:Nat):Int) else none).isSome then 0 else 6) else 1):Int)=6))=true from by exact decide_eq_true hbe]
    refine r_pv rfl rfl (zr rfl rfl)<|r_pv rfl rfl (za rfl)<|r_pv rfl rfl (za rfl)<|r_pv rfl rfl (zO Tryz.underlying44 rfl)<|r_pv rfl rfl (zna rfl rfl) ?_
    rw [show (decide (((0:Nat):Int)=0))=true from by decide]
    refine r_pv rfl rfl (zr rfl rfl)<|r_pv rfl rfl (za rfl)<|r_pv rfl rfl (za rfl)<|r_pv rfl rfl (zna rfl rfl) ?_
    rw [show (decide ((Cr.pX (if (Cr.rk2 ((w1:Nat):Int) ((vh1:Nat):Int) m1 l1 ((w2:Nat):Int) ((vh2:Nat):Int) m2 l2) then Cr.best l1 l2 ((w1:Nat):Int) ((vh1:Nat):Int) ((w2:Nat):Int) ((vh2:Nat):Int) else none))=0))=true from by exact decide_eq_true (by rw [hk9];rfl)]
    refine r_pv rfl rfl (zr rfl rfl)<|r_pv rfl rfl (za rfl)<|r_pv rfl rfl (za rfl)<|r_pv rfl rfl (zna rfl rfl) ?_
    rw [show (decide ((Cr.pY (if (Cr.rk2 ((w1:Nat):Int) ((vh1:Nat):Int) m1 l1 ((w2:Nat):Int) ((vh2:Nat):Int) m2 l2) then Cr.best l1 l2 ((w1:Nat):Int) ((vh1:Nat):Int) ((w2:Nat):Int) ((vh2:Nat):Int) else none))=0))=true from by exact decide_eq_true (by rw [hk9];rfl)]
    refine r_pv rfl rfl (zr rfl rfl)<|r_pv rfl rfl (za rfl)<|r_u rfl rfl (ze 1 ty32 rfl rfl (.take (.take (.take (.take .nil)))))<|zN rfl rfl (.c rfl .n) ce19 (zHc (u1:=w36) (v1:=w47)) (.n) ?_
    rw [show (decide (Wd.zz w36 w47))=true from by exact decide_eq_true (by have h9:=hbs.1 (by rw [hk9];rfl);rw [h9.1,h9.2];exact Wd.zz_wz)]
    refine r_pv rfl rfl (zr rfl rfl)<|r_pv rfl rfl (zc rfl)<|zj<|zd<|zI<|zn ?_
    exact zB Tryz.results4 () trivial (zo rfl) rfl (ho:=(.n:PickO _ _ _)) (.n:SelR _ _ _)
   ·
    have hp9:(Cr.pos ((w1:Nat):Int) ((vh1:Nat):Int) ((w2:Nat):Int) ((vh2:Nat):Int) 0 0):=Decidable.not_not.1 hp
    have hww:w1≤w2:=by have:=hp9.2.2.1;omega
    have hhh:vh1≤vh2:=by have:=hp9.2.2.2;omega
    have hWb:((w2 - w1)+1)≤64:=by omega
    have hHb:((vh2 - vh1)+1)≤64:=by omega
    have hg9:((Cr.rk2 ((w1:Nat):Int) ((vh1:Nat):Int) m1 l1 ((w2:Nat):Int) ((vh2:Nat):Int) m2 l2)∧(Cr.pos ((w1:Nat):Int) ((vh1:Nat):Int) ((w2:Nat):Int) ((vh2:Nat):Int) 0 0)):=⟨hok,hp9⟩
    have hN0:0<(((vh2 - vh1)+1)*((w2 - w1)+1)):=Nat.mul_pos (by omega) (by omega)
    have e14:(Cr.mL (Cr.scr l1 l2 w1 vh1 n1 w2) ((w2 - w1)+1) ((vh2 - vh1)+1))=lq:=by rw [hmp.2,if_pos hg9];rfl
    subst e14
    have e15:(((vh2 - vh1)+1)*((w2 - w1)+1))=kq:=by rw [← hmp.1];exact (Cr.mL_len _ _ _).symm
    subst e15
    have e16:(if (Cr.rk2 ((w1:Nat):Int) ((vh1:Nat):Int) m1 l1 ((w2:Nat):Int) ((vh2:Nat):Int) m2 l2) then Cr.best l1 l2 ((w1:Nat):Int) ((vh1:Nat):Int) ((w2:Nat):Int) ((vh2:Nat):Int) else none)=(Cr.tpP (Cr.mL (Cr.scr l1 l2 w1 vh1 n1 w2) ((w2 - w1)+1) ((vh2 - vh1)+1)) ((w2 - w1)+1) (((vh2 - vh1)+1)*((w2 - w1)+1))):=by rw [if_pos hok];exact Cr.best_tp hn1 hww hhh
    rw [e16]
    have e17:((if (Cr.rk2 ((w1:Nat):Int) ((vh1:Nat):Int) m1 l1 ((w2:Nat):Int) ((vh2:Nat):Int) m2 l2) then (if (Cr.pos ((w1:Nat):Int) ((vh1:Nat):Int) ((w2:Nat):Int) ((vh2:Nat):Int) 0 0) then 0 else 6) else 1):Int)=0:=by rw [if_pos hok,if_pos hp9]
    rw [e17]
    have e18:((if (Cr.rk2 ((w1:Nat):Int) ((vh1:Nat):Int) m1 l1 ((w2:Nat):Int) ((vh2:Nat):Int) m2 l2) then (if (Cr.tpP (Cr.mL (Cr.scr l1 l2 w1 vh1 n1 w2) ((w2 - w1)+1) ((vh2 - vh1)+1)) ((w2 - w1)+1) (((vh2 - vh1)+1)*((w2 - w1)+1))).isSome then 0 else 6) else 1):Int)=0:=by rw [if_pos hok,Cr.tpP_s _ _ hN0];rfl
    rw [e18]
    have e19:(Cr.tpP (Cr.mL (Cr.scr l1 l2 w1 vh1 n1 w2) ((w2 - w1)+1) ((vh2 - vh1)+1)) ((w2 - w1)+1) (((vh2 - vh1)+1)*((w2 - w1)+1))).isSome=true:=by exact Cr.tpP_s _ _ hN0
    rw [e19]
    have hall:∀q∈(Cr.mL (Cr.scr l1 l2 w1 vh1 n1 w2) ((w2 - w1)+1) ((vh2 - vh1)+1)),Big.hq q≤6:=Cr.mL_mem (P:=fun q=>Big.hq q≤6) (fun j i hj hi=>Cr.scr_hq hg1 hg2 hw1 hh1 hwh1 hwh2 hb1 (by omega) (by omega))
    refine zA<|zd<|zh<|zh<|zb<|r_pv rfl rfl (za rfl)<|r_pv rfl rfl (zDa rfl rfl)<|zj<|zd<|zWa rfl rfl<|zA<|zd<|zh<|zb<|r_u rfl rfl (ze 4 ty24 rfl rfl (.take (.take (.take (.take .nil)))))<|r_u rfl rfl (ze 3 ty24 rfl rfl (.take (.take (.take (.take .nil)))))<|zw rfl rfl (.c rfl (.c rfl .n)) ce20 (zMd (w1:=w1) (vh1:=vh1) (m1:=m1) (p1:=p1) (n1:=n1) (c1:=c1) (l1:=l1) (w2:=w2) (vh2:=vh2) (m2:=m2) (p2:=p2) (n2:=n2) (c2:=c2) (l2:=l2) (hn1:=by assumption) (hw1:=by first|rfl|assumption|omega) (hh1:=by first|rfl|assumption|omega) (hwh1:=by first|rfl|assumption|omega) (hb1:=by first|rfl|assumption|omega) (hg1:=by first|rfl|assumption|omega) (hn2:=by assumption) (hw2:=by first|rfl|assumption|omega) (hh2:=by first|rfl|assumption|omega) (hwh2:=by first|rfl|assumption|omega) (hb2:=by first|rfl|assumption|omega) (hg2:=by first|rfl|assumption|omega) (hww:=by first|rfl|assumption|omega) (hhh:=by first|rfl|assumption|omega)) (.c (j:=5) rfl (.c (j:=6) rfl .n)) ?_
    rintro ⟨p320,c321⟩ -
    dsimp only [List.append_eq,List.nil_append,List.cons_append]
    refine r_pv rfl rfl (zc rfl)<|zj<|zd<|zh<|zh<|zb<|r_pv rfl rfl (za rfl)<|r_pv rfl rfl (zDa rfl rfl)<|r_pv rfl rfl (za rfl)<|r_pv rfl rfl (za rfl)<|r_pv rfl rfl (zDa rfl rfl)<|r_pv rfl rfl (zr rfl rfl)<|r_pv rfl rfl (za rfl)<|r_pv rfl rfl (za rfl)<|r_pv rfl rfl (za rfl)<|zN rfl rfl (.c rfl (.c rfl .n)) ce21 (zQc (p1:=p34) (n1:=(((vh2 - vh1)+1)*((w2 - w1)+1))) (c1:=c35) (l1:=(Cr.mL (Cr.scr l1 l2 w1 vh1 n1 w2) ((w2 - w1)+1) ((vh2 - vh1)+1))) (p2:=p320) (n2:=(((vh2 - vh1)+1)*((w2 - w1)+1))) (c2:=c321) (l2:=(Cr.mL (Cr.scr l1 l2 w1 vh1 n1 w2) ((w2 - w1)+1) ((vh2 - vh1)+1))) (hn1:=by exact Cr.mL_len _ _ _) (hn2:=by exact Cr.mL_len _ _ _) (hl:=by intro i hi _;have h1:=hall _ (Cr.getD_memG (d:=0) (i:=i) (by rw [Cr.mL_len];omega));omega)) (.c (j:=4) rfl (.c (j:=0) rfl .n)) ?_
    rw [Cr.self_eq]
    refine r_pv rfl rfl (zhb rfl)<|r_pv rfl rfl (zr rfl rfl)<|zj<|zd<|zWa rfl rfl<|zA<|zd<|zh<|zb<|r_pv rfl rfl (zc rfl)<|zj<|zd<|zh<|zh ?_
    have hN0:0<(((vh2 - vh1)+1)*((w2 - w1)+1)):=Nat.mul_pos (by omega) (by omega)
    have hNb:(((vh2 - vh1)+1)*((w2 - w1)+1))≤64*64:=Nat.mul_le_mul hHb hWb
    refine zb<|r_pv rfl rfl (za rfl)<|r_pv rfl rfl (zO Tryz.underlying44 rfl)<|r_pv rfl rfl (za rfl)<|zj<|zd<|zx<|zka (X:=Nat) (fun x:Nat=>x≤(((vh2 - vh1)+1)*((w2 - w1)+1))) (fun x=>[(13,.int .i64 (((Cr.tp (Cr.mL (Cr.scr l1 l2 w1 vh1 n1 w2) ((w2 - w1)+1) ((vh2 - vh1)+1)) x):Nat):Int)),(93,.int .i64 ((x:Nat):Int)),(92,.int .i64 (((((vh2 - vh1)+1)*((w2 - w1)+1)):Nat):Int)),(12,.slice p320 (((vh2 - vh1)+1)*((w2 - w1)+1)) c321),(8,.int .i64 (Cr.pY (Cr.tpP (Cr.mL (Cr.scr l1 l2 w1 vh1 n1 w2) ((w2 - w1)+1) ((vh2 - vh1)+1)) ((w2 - w1)+1) (((vh2 - vh1)+1)*((w2 - w1)+1))))),(7,.int .i64 (Cr.pX (Cr.tpP (Cr.mL (Cr.scr l1 l2 w1 vh1 n1 w2) ((w2 - w1)+1) ((vh2 - vh1)+1)) ((w2 - w1)+1) (((vh2 - vh1)+1)*((w2 - w1)+1))))),(9,.pointer (some ⟨b8,0,none⟩)),(4,.bool false),(3,.pointer (some ⟨b2,0,none⟩)),(2,.pointer (some ⟨b1,0,none⟩))]) (fun x=>[boxA b8 32 (cw [w36,w47]),boxA b2 24 [.int .i64 ((w2:Nat):Int),.int .i64 ((vh2:Nat):Int),.int .i64 m2,.slice p2 n2 c2],boxA b1 24 [.int .i64 ((w1:Nat):Int),.int .i64 ((vh1:Nat):Int),.int .i64 m1,.slice p1 n1 c1]]) (fun x=>[slF rQ p320 c321 (Cr.mL (Cr.scr l1 l2 w1 vh1 n1 w2) ((w2 - w1)+1) ((vh2 - vh1)+1)),slF rG (some ⟨b9,0,none⟩) 2 ([(⟨((w1:Nat):Int),((vh1:Nat):Int),m1,p1,n1,c1⟩:Gr),(⟨((w2:Nat):Int),((vh2:Nat):Int),m2,p2,n2,c2⟩:Gr)]),gsF [(⟨((w1:Nat):Int),((vh1:Nat):Int),m1,p1,n1,c1⟩:Gr),(⟨((w2:Nat):Int),((vh2:Nat):Int),m2,p2,n2,c2⟩:Gr)] [l1,l2],qF true w36 w47 (Cr.pQ (Cr.tpP (Cr.mL (Cr.scr l1 l2 w1 vh1 n1 w2) ((w2 - w1)+1) ((vh2 - vh1)+1)) ((w2 - w1)+1) (((vh2 - vh1)+1)*((w2 - w1)+1)))),slF rQ p34 c35 (Cr.mL (Cr.scr l1 l2 w1 vh1 n1 w2) ((w2 - w1)+1) ((vh2 - vh1)+1)),slF rG (some ⟨b3,0,none⟩) 2 ([(⟨((w1:Nat):Int),((vh1:Nat):Int),m1,p1,n1,c1⟩:Gr),(⟨((w2:Nat):Int),((vh2:Nat):Int),m2,p2,n2,c2⟩:Gr)]),slF (rI .i64) p1 c1 l1,slF (rI .i64) p2 c2 l2]) (fun x:Nat=>(((vh2 - vh1)+1)*((w2 - w1)+1)) - x) 0 (show 0≤(((vh2 - vh1)+1)*((w2 - w1)+1)) from by exact Nat.zero_le _) ((.e rfl (by first|rfl|(congr 1;omega)|simp_all) (.e rfl (by first|rfl|(congr 1;omega)|simp_all) (.of rfl))):SubM _ _) (ho:=((.of [1,2,2] rfl):PickO _ _ _)) ((.of [0,1,2,3,4,5,6,7] rfl):SelR _ _ _) ?_
    rintro i hI
    replace hI:i≤(((vh2 - vh1)+1)*((w2 - w1)+1)):=hI
    try dsimp only [cw]
    refine zh<|zb<|r_pv rfl rfl (zia rfl rfl)<|zj<|zd<|zh<|zG rfl (fun h22=> ?_) (fun h22=> ?_)
    ·
     have htp:=Cr.tp_le (Cr.mL (Cr.scr l1 l2 w1 vh1 n1 w2) ((w2 - w1)+1) ((vh2 - vh1)+1)) i
     refine zA<|zd<|zh<|zx<|zh<|zb<|r_pv rfl rfl (za rfl)<|r_pv rfl rfl (zc rfl)<|zj<|zd<|zh<|zba (OW:=[]) (O:=[boxA b8 32 [w36.b,w36.l,w47.b,w47.l],boxA b2 24 [.int .i64 ((w2:Nat):Int),.int .i64 ((vh2:Nat):Int),.int .i64 m2,.slice p2 n2 c2],boxA b1 24 [.int .i64 ((w1:Nat):Int),.int .i64 ((vh1:Nat):Int),.int .i64 m1,.slice p1 n1 c1]]) 100000 mixed (.then (.block (.then (.then (.block (.then .ret)))))) (by kernel_rfl)<|d_pv 0 rfl rfl (by kernel_rfl) (by kernel_rfl) rfl rfl (za rfl)<|d_pv 1 rfl rfl (by kernel_rfl) (by kernel_rfl) rfl rfl (za rfl)<|d_vl 2 rfl rfl (by kernel_rfl) (by kernel_rfl) rfl rfl (zJa (x0:=((Cr.mL (Cr.scr l1 l2 w1 vh1 n1 w2) ((w2 - w1)+1) ((vh2 - vh1)+1)).getD i (0:Rat))) 0 i rfl Tryz.underlying44 sz32 rfl (by first|rfl|assumption|exact Cr.mL_len _ _ _|omega) rfl rfl (gD (d:=(0:Rat)) (by omega))) ?_
     rintro ⟨b23,o24,w25,w26⟩ -
     dsimp only [List.append_eq,List.nil_append,List.cons_append]
     refine zgd open_rQ<|d_u 3 rfl rfl (by kernel_rfl) (by kernel_rfl) rfl rfl (zxa (j:=0) 0 ty32 rfl rfl rfl (.take (.take (.take (.take .nil)))))<|d_pv 4 rfl rfl (by kernel_rfl) (by kernel_rfl) rfl rfl (za rfl)<|d_pv 5 rfl rfl (by kernel_rfl) (by kernel_rfl) rfl rfl (za rfl)<|d_vl 6 rfl rfl (by kernel_rfl) (by kernel_rfl) rfl rfl (zJa (x0:=((Cr.mL (Cr.scr l1 l2 w1 vh1 n1 w2) ((w2 - w1)+1) ((vh2 - vh1)+1)).getD (Cr.tp (Cr.mL (Cr.scr l1 l2 w1 vh1 n1 w2) ((w2 - w1)+1) ((vh2 - vh1)+1)) i) (0:Rat))) 2 (Cr.tp (Cr.mL (Cr.scr l1 l2 w1 vh1 n1 w2) ((w2 - w1)+1) ((vh2 - vh1)+1)) i) rfl Tryz.underlying44 sz32 rfl (by first|rfl|assumption|exact Cr.mL_len _ _ _|omega) rfl rfl (gD (d:=(0:Rat)) (by omega))) ?_
     rintro ⟨b27,o28,w29,w30⟩ -
     dsimp only [List.append_eq,List.nil_append,List.cons_append]
     refine zgd open_rQ<|d_u 7 rfl rfl (by kernel_rfl) (by kernel_rfl) rfl rfl (zxa (j:=0) 0 ty32 rfl rfl rfl (.take (.take (.take (.take .nil)))))<|zJ 8 (by kernel_rfl) (zYa rfl rfl rfl rfl (.c rfl (.c rfl .n)) ce14 (zQb (k1:=true) (u1:=w25) (v1:=w26) (q1:=((Cr.mL (Cr.scr l1 l2 w1 vh1 n1 w2) ((w2 - w1)+1) ((vh2 - vh1)+1)).getD i (0:Rat))) (k2:=true) (u2:=w29) (v2:=w30) (q2:=((Cr.mL (Cr.scr l1 l2 w1 vh1 n1 w2) ((w2 - w1)+1) ((vh2 - vh1)+1)).getD (Cr.tp (Cr.mL (Cr.scr l1 l2 w1 vh1 n1 w2) ((w2 - w1)+1) ((vh2 - vh1)+1)) i) (0:Rat))) (hl:=by exact (by have h1:=hall _ (Cr.getD_memG (d:=0) (i:=i) (show i<(Cr.mL (Cr.scr l1 l2 w1 vh1 n1 w2) ((w2 - w1)+1) ((vh2 - vh1)+1)).length by rw [Cr.mL_len];omega));have h2:=hall _ (Cr.getD_memG (d:=0) (i:=(Cr.tp (Cr.mL (Cr.scr l1 l2 w1 vh1 n1 w2) ((w2 - w1)+1) ((vh2 - vh1)+1)) i)) (show (Cr.tp (Cr.mL (Cr.scr l1 l2 w1 vh1 n1 w2) ((w2 - w1)+1) ((vh2 - vh1)+1)) i)<(Cr.mL (Cr.scr l1 l2 w1 vh1 n1 w2) ((w2 - w1)+1) ((vh2 - vh1)+1)).length by rw [Cr.mL_len];omega));omega))) (.c (j:=3) rfl (.c (j:=1) rfl .n)) ?_)
     refine d_pv 9 rfl rfl (by kernel_rfl) (by kernel_rfl) rfl rfl (zva rfl rfl)<|zZ (by kernel_rfl)<|zd<|zG rfl (fun hgt=> ?_) (fun hgt=> ?_)
     ·
      refine zb<|r_pv rfl rfl (za rfl)<|r_pv rfl rfl (zc rfl)<|zj<|zR<|zd<|zb<|r_pv rfl rfl (zC (z:=(((i+1):Nat):Int)) rfl rfl (w64 (by omega)))<|r_pv rfl rfl (za rfl)<|zj<|zfa (i+1) (show (i+1)≤(((vh2 - vh1)+1)*((w2 - w1)+1)) from by omega) (by show (((vh2 - vh1)+1)*((w2 - w1)+1)) - (i+1)<(((vh2 - vh1)+1)*((w2 - w1)+1)) - i;omega) ((.e rfl (congrArg (Value.int .i64) (by rw [Cr.tp,if_pos (Cr.sub_pos.1 (Big.sgq_pos.1 hgt))])) (.of rfl)):SubM _ _) (ho:=((.of [0,0,0] rfl):PickO _ _ _)) ((.of [4,5,6,7,8,9,10,11] rfl):SelR _ _ _)
     ·
      refine zA<|zR<|zd<|zb<|r_pv rfl rfl (zC (z:=(((i+1):Nat):Int)) rfl rfl (w64 (by omega)))<|r_pv rfl rfl (za rfl)<|zj<|zfa (i+1) (show (i+1)≤(((vh2 - vh1)+1)*((w2 - w1)+1)) from by omega) (by show (((vh2 - vh1)+1)*((w2 - w1)+1)) - (i+1)<(((vh2 - vh1)+1)*((w2 - w1)+1)) - i;omega) ((.e rfl (congrArg (Value.int .i64) (by rw [Cr.tp,if_neg (fun k=>hgt (Big.sgq_pos.2 (Cr.sub_pos.2 k)))])) (.of rfl)):SubM _ _) (ho:=((.of [0,0,0] rfl):PickO _ _ _)) ((.of [4,5,6,7,8,9,10,11] rfl):SelR _ _ _)
    ·
     refine zha<|zl<|zl<|zv<|zd<|zh ?_
     have hi9:i=(((vh2 - vh1)+1)*((w2 - w1)+1)):=by omega
     have htb:=Cr.tp_le (Cr.mL (Cr.scr l1 l2 w1 vh1 n1 w2) ((w2 - w1)+1) ((vh2 - vh1)+1)) i
     have htl:(Cr.tp (Cr.mL (Cr.scr l1 l2 w1 vh1 n1 w2) ((w2 - w1)+1) ((vh2 - vh1)+1)) i)<(((vh2 - vh1)+1)*((w2 - w1)+1)):=by rw [hi9];exact Cr.tp_lt _ hN0
     have hsx:=Cr.tpP_x (Cr.mL (Cr.scr l1 l2 w1 vh1 n1 w2) ((w2 - w1)+1) ((vh2 - vh1)+1)) ((w2 - w1)+1) hN0
     have hsy:=Cr.tpP_y (Cr.mL (Cr.scr l1 l2 w1 vh1 n1 w2) ((w2 - w1)+1) ((vh2 - vh1)+1)) ((w2 - w1)+1) hN0
     have hsq:=Cr.tpP_q (Cr.mL (Cr.scr l1 l2 w1 vh1 n1 w2) ((w2 - w1)+1) ((vh2 - vh1)+1)) ((w2 - w1)+1) hN0
     refine zb<|r_pv rfl rfl (zg Tryz.underlying24 rfl sz3 rfl rfl)<|r_u rfl rfl (zi 1 ty3 rfl rfl rfl)<|r_pv rfl rfl (zg Tryz.underlying24 rfl sz3 rfl rfl)<|r_u rfl rfl (zi 2 ty3 rfl rfl rfl)<|r_pv rfl rfl (zaa (z:=(((w2 - w1):Nat):Int)) rfl rfl (w64 (by omega)))<|r_pv rfl rfl (zC (z:=((((w2 - w1)+1):Nat):Int)) rfl rfl (w64 (by omega)))<|r_pv rfl rfl (zc rfl)<|zj<|zd<|zh<|zba (OW:=[]) (O:=[boxA b8 32 [w36.b,w36.l,w47.b,w47.l],boxA b2 24 [.int .i64 ((w2:Nat):Int),.int .i64 ((vh2:Nat):Int),.int .i64 m2,.slice p2 n2 c2],boxA b1 24 [.int .i64 ((w1:Nat):Int),.int .i64 ((vh1:Nat):Int),.int .i64 m1,.slice p1 n1 c1]]) 100000 mixed (.then .ret) (by kernel_rfl)<|d_pv 0 rfl rfl (by kernel_rfl) (by kernel_rfl) rfl rfl (za rfl)<|d_pv 1 rfl rfl (by kernel_rfl) (by kernel_rfl) rfl rfl (za rfl)<|d_pv 2 rfl rfl (by kernel_rfl) (by kernel_rfl) rfl rfl (za rfl)<|d_pv 3 rfl rfl (by kernel_rfl) (by kernel_rfl) rfl rfl (zSa (z:=((((Cr.tp (Cr.mL (Cr.scr l1 l2 w1 vh1 n1 w2) ((w2 - w1)+1) ((vh2 - vh1)+1)) i)%((w2 - w1)+1)):Nat):Int)) rfl rfl (by omega) (remN (by omega) (by omega)))<|d_pv 4 rfl rfl (by kernel_rfl) (by kernel_rfl) rfl rfl (zna rfl rfl) ?_
     rw [show (decide ((Cr.pX (Cr.tpP (Cr.mL (Cr.scr l1 l2 w1 vh1 n1 w2) ((w2 - w1)+1) ((vh2 - vh1)+1)) ((w2 - w1)+1) (((vh2 - vh1)+1)*((w2 - w1)+1))))=((((Cr.tp (Cr.mL (Cr.scr l1 l2 w1 vh1 n1 w2) ((w2 - w1)+1) ((vh2 - vh1)+1)) i)%((w2 - w1)+1)):Nat):Int)))=true from by exact decide_eq_true (by rw [hsx,←hi9])]
     refine d_pv 5 rfl rfl (by kernel_rfl) (by kernel_rfl) rfl rfl (za rfl)<|d_pv 6 rfl rfl (by kernel_rfl) (by kernel_rfl) rfl rfl (za rfl)<|d_pv 7 rfl rfl (by kernel_rfl) (by kernel_rfl) rfl rfl (za rfl)<|d_pv 8 rfl rfl (by kernel_rfl) (by kernel_rfl) rfl rfl (za rfl)<|d_pv 9 rfl rfl (by kernel_rfl) (by kernel_rfl) rfl rfl (zRa (z:=((((Cr.tp (Cr.mL (Cr.scr l1 l2 w1 vh1 n1 w2) ((w2 - w1)+1) ((vh2 - vh1)+1)) i) / ((w2 - w1)+1)):Nat):Int)) rfl rfl (by first|omega|exact ⟨rfl,Int.le_trans (show (-9223372036854775808:Int)≤0 by decide) (Int.natCast_nonneg _),Int.le_trans (Int.ofNat_le.2 (Nat.div_le_self (Cr.tp (Cr.mL (Cr.scr l1 l2 w1 vh1 n1 w2) ((w2 - w1)+1) ((vh2 - vh1)+1)) i) ((w2 - w1)+1))) (show (((Cr.tp (Cr.mL (Cr.scr l1 l2 w1 vh1 n1 w2) ((w2 - w1)+1) ((vh2 - vh1)+1)) i):Nat):Int)≤9223372036854775807 by omega)⟩) (by rw [quoN (z:=((((Cr.tp (Cr.mL (Cr.scr l1 l2 w1 vh1 n1 w2) ((w2 - w1)+1) ((vh2 - vh1)+1)) i) / ((w2 - w1)+1)):Nat):Int)) (by first|omega|exact ⟨rfl,Int.le_trans (show (-9223372036854775808:Int)≤0 by decide) (Int.natCast_nonneg _),Int.le_trans (Int.ofNat_le.2 (Nat.div_le_self (Cr.tp (Cr.mL (Cr.scr l1 l2 w1 vh1 n1 w2) ((w2 - w1)+1) ((vh2 - vh1)+1)) i) ((w2 - w1)+1))) (show (((Cr.tp (Cr.mL (Cr.scr l1 l2 w1 vh1 n1 w2) ((w2 - w1)+1) ((vh2 - vh1)+1)) i):Nat):Int)≤9223372036854775807 by omega)⟩) (by first|omega|exact ⟨rfl,Int.le_trans (show (-9223372036854775808:Int)≤0 by decide) (Int.natCast_nonneg _),Int.le_trans (Int.ofNat_le.2 (Nat.div_le_self (Cr.tp (Cr.mL (Cr.scr l1 l2 w1 vh1 n1 w2) ((w2 - w1)+1) ((vh2 - vh1)+1)) i) ((w2 - w1)+1))) (show (((Cr.tp (Cr.mL (Cr.scr l1 l2 w1 vh1 n1 w2) ((w2 - w1)+1) ((vh2 - vh1)+1)) i):Nat):Int)≤9223372036854775807 by omega)⟩)];exact w64 (by first|omega|exact ⟨rfl,Int.le_trans (show (-9223372036854775808:Int)≤0 by decide) (Int.natCast_nonneg _),Int.le_trans (Int.ofNat_le.2 (Nat.div_le_self (Cr.tp (Cr.mL (Cr.scr l1 l2 w1 vh1 n1 w2) ((w2 - w1)+1) ((vh2 - vh1)+1)) i) ((w2 - w1)+1))) (show (((Cr.tp (Cr.mL (Cr.scr l1 l2 w1 vh1 n1 w2) ((w2 - w1)+1) ((vh2 - vh1)+1)) i):Nat):Int)≤9223372036854775807 by omega)⟩)))<|d_pv 10 rfl rfl (by kernel_rfl) (by kernel_rfl) rfl rfl (zna rfl rfl) ?_
     rw [show (decide ((Cr.pY (Cr.tpP (Cr.mL (Cr.scr l1 l2 w1 vh1 n1 w2) ((w2 - w1)+1) ((vh2 - vh1)+1)) ((w2 - w1)+1) (((vh2 - vh1)+1)*((w2 - w1)+1))))=((((Cr.tp (Cr.mL (Cr.scr l1 l2 w1 vh1 n1 w2) ((w2 - w1)+1) ((vh2 - vh1)+1)) i) / ((w2 - w1)+1)):Nat):Int)))=true from by exact decide_eq_true (by rw [hsy,←hi9])]
     refine d_pv 11 rfl rfl (by kernel_rfl) (by kernel_rfl) rfl rfl (zr rfl rfl)<|d_pv 12 rfl rfl (by kernel_rfl) (by kernel_rfl) rfl rfl (za rfl)<|d_u 13 rfl rfl (by kernel_rfl) (by kernel_rfl) rfl rfl (ze 0 ty32 rfl rfl (.take (.take (.take (.take .nil)))))<|d_pv 14 rfl rfl (by kernel_rfl) (by kernel_rfl) rfl rfl (za rfl)<|d_pv 15 rfl rfl (by kernel_rfl) (by kernel_rfl) rfl rfl (za rfl)<|d_vl 16 rfl rfl (by kernel_rfl) (by kernel_rfl) rfl rfl (zJa (x0:=((Cr.mL (Cr.scr l1 l2 w1 vh1 n1 w2) ((w2 - w1)+1) ((vh2 - vh1)+1)).getD (Cr.tp (Cr.mL (Cr.scr l1 l2 w1 vh1 n1 w2) ((w2 - w1)+1) ((vh2 - vh1)+1)) i) (0:Rat))) 0 (Cr.tp (Cr.mL (Cr.scr l1 l2 w1 vh1 n1 w2) ((w2 - w1)+1) ((vh2 - vh1)+1)) i) rfl Tryz.underlying44 sz32 rfl (by first|rfl|assumption|exact Cr.mL_len _ _ _|omega) rfl rfl (gD (d:=(0:Rat)) (by omega))) ?_
     rintro ⟨b31,o32,w33,w34⟩ -
     dsimp only [List.append_eq,List.nil_append,List.cons_append]
     refine zgd open_rQ<|d_u 17 rfl rfl (by kernel_rfl) (by kernel_rfl) rfl rfl (zxa (j:=0) 0 ty32 rfl rfl rfl (.take (.take (.take (.take .nil)))))<|zJ 18 (by kernel_rfl) (zYa rfl rfl rfl rfl (.c rfl (.c rfl .n)) ce22 (zBb (u1:=w36) (v1:=w47) (q1:=(Cr.pQ (Cr.tpP (Cr.mL (Cr.scr l1 l2 w1 vh1 n1 w2) ((w2 - w1)+1) ((vh2 - vh1)+1)) ((w2 - w1)+1) (((vh2 - vh1)+1)*((w2 - w1)+1))))) (u2:=w33) (v2:=w34) (q2:=((Cr.mL (Cr.scr l1 l2 w1 vh1 n1 w2) ((w2 - w1)+1) ((vh2 - vh1)+1)).getD (Cr.tp (Cr.mL (Cr.scr l1 l2 w1 vh1 n1 w2) ((w2 - w1)+1) ((vh2 - vh1)+1)) i) (0:Rat))) (hl:=by rw [hsq,←hi9];exact (by have h1:=hall _ (Cr.getD_memG (d:=0) (i:=(Cr.tp (Cr.mL (Cr.scr l1 l2 w1 vh1 n1 w2) ((w2 - w1)+1) ((vh2 - vh1)+1)) i)) (show (Cr.tp (Cr.mL (Cr.scr l1 l2 w1 vh1 n1 w2) ((w2 - w1)+1) ((vh2 - vh1)+1)) i)<(Cr.mL (Cr.scr l1 l2 w1 vh1 n1 w2) ((w2 - w1)+1) ((vh2 - vh1)+1)).length by rw [Cr.mL_len];omega));omega))) (.c (j:=5) rfl (.c (j:=1) rfl .n)) ?_)
     rw [show (decide ((Cr.pQ (Cr.tpP (Cr.mL (Cr.scr l1 l2 w1 vh1 n1 w2) ((w2 - w1)+1) ((vh2 - vh1)+1)) ((w2 - w1)+1) (((vh2 - vh1)+1)*((w2 - w1)+1))))=((Cr.mL (Cr.scr l1 l2 w1 vh1 n1 w2) ((w2 - w1)+1) ((vh2 - vh1)+1)).getD (Cr.tp (Cr.mL (Cr.scr l1 l2 w1 vh1 n1 w2) ((w2 - w1)+1) ((vh2 - vh1)+1)) i) (0:Rat))))=true from by exact decide_eq_true (by rw [hsq,←hi9])]
     refine d_pv 19 rfl rfl (by kernel_rfl) (by kernel_rfl) rfl rfl (zr rfl rfl)<|d_pv 20 rfl rfl (by kernel_rfl) (by kernel_rfl) rfl rfl (zc rfl)<|zZ (by kernel_rfl)<|zd<|zI ?_
     exact zB Tryz.results4 () trivial (zo rfl) rfl (ho:=(.n:PickO _ _ _)) (.n:SelR _ _ _)
  ·
   have hno:¬(Cr.rk2 wi1 hi1 m1 l1 wi2 hi2 m2 l2):=fun k=>hk (if_pos k)
   have e35:((if (Cr.rk2 wi1 hi1 m1 l1 wi2 hi2 m2 l2) then 0 else 1):Int)=1:=by exact if_neg hno
   rw [e35]
   have hg9:¬((Cr.rk2 wi1 hi1 m1 l1 wi2 hi2 m2 l2)∧(Cr.pos wi1 hi1 wi2 hi2 0 0)):=fun k=>hno k.1
   have hce:((if (Cr.rk2 wi1 hi1 m1 l1 wi2 hi2 m2 l2) then (if (Cr.pos wi1 hi1 wi2 hi2 0 0) then 0 else 6) else 1):Int)=1:=if_neg hno
   have hbe:((if (Cr.rk2 wi1 hi1 m1 l1 wi2 hi2 m2 l2) then (if (if (Cr.rk2 wi1 hi1 m1 l1 wi2 hi2 m2 l2) then Cr.best l1 l2 wi1 hi1 wi2 hi2 else none).isSome then 0 else 6) else 1):Int)=1:=if_neg hno
   have hk9:(if (Cr.rk2 wi1 hi1 m1 l1 wi2 hi2 m2 l2) then Cr.best l1 l2 wi1 hi1 wi2 hi2 else none)=none:=if_neg hno
   have e36:[]=lq:=by rw [hmp.2,if_neg hg9]
   subst e36
   have e37:0=kq:=by rw [← hmp.1,hmp.2,if_neg hg9];rfl
   subst e37
   refine zf rfl rfl<|zf rfl rfl<|zf rfl rfl<|zf rfl rfl<|r_pv rfl rfl (zr rfl rfl)<|zj<|zd<|zWa rfl rfl<|zA<|zd<|zh<|zh<|zb<|r_pv rfl rfl (za rfl)<|r_pv rfl rfl (zDa rfl rfl)<|zj<|zd<|zJc rfl rfl<|zh<|zb<|r_pv rfl rfl (za rfl)<|r_pv rfl rfl (za rfl)<|r_pv rfl rfl (zna rfl rfl) ?_
   rw [show (decide (((if (Cr.rk2 wi1 hi1 m1 l1 wi2 hi2 m2 l2) then (if (Cr.pos wi1 hi1 wi2 hi2 0 0) then 0 else 6) else 1):Int)=1))=true from by exact decide_eq_true hce]
   refine r_pv rfl rfl (za rfl)<|r_pv rfl rfl (za rfl)<|r_pv rfl rfl (za rfl)<|r_pv rfl rfl (zna rfl rfl) ?_
   rw [show (decide (((if (Cr.rk2 wi1 hi1 m1 l1 wi2 hi2 m2 l2) then (if (if (Cr.rk2 wi1 hi1 m1 l1 wi2 hi2 m2 l2) then Cr.best l1 l2 wi1 hi1 wi2 hi2 else none).isSome then 0 else 6) else 1):Int)=1))=true from by exact decide_eq_true hbe]
   refine r_pv rfl rfl (zr rfl rfl)<|r_pv rfl rfl (za rfl)<|r_pv rfl rfl (za rfl)<|r_pv rfl rfl (zO Tryz.underlying44 rfl)<|r_pv rfl rfl (zna rfl rfl) ?_
   rw [show (decide (((0:Nat):Int)=0))=true from by decide]
   refine r_pv rfl rfl (zr rfl rfl)<|r_pv rfl rfl (za rfl)<|r_pv rfl rfl (za rfl)<|r_pv rfl rfl (zna rfl rfl) ?_
   rw [show (decide ((Cr.pX (if (Cr.rk2 wi1 hi1 m1 l1 wi2 hi2 m2 l2) then Cr.best l1 l2 wi1 hi1 wi2 hi2 else none))=0))=true from by exact decide_eq_true (by rw [hk9];rfl)]
   refine r_pv rfl rfl (zr rfl rfl)<|r_pv rfl rfl (za rfl)<|r_pv rfl rfl (za rfl)<|r_pv rfl rfl (zna rfl rfl) ?_
   rw [show (decide ((Cr.pY (if (Cr.rk2 wi1 hi1 m1 l1 wi2 hi2 m2 l2) then Cr.best l1 l2 wi1 hi1 wi2 hi2 else none))=0))=true from by exact decide_eq_true (by rw [hk9];rfl)]
   refine r_pv rfl rfl (zr rfl rfl)<|r_pv rfl rfl (za rfl)<|r_u rfl rfl (ze 1 ty32 rfl rfl (.take (.take (.take (.take .nil)))))<|zN rfl rfl (.c rfl .n) ce19 (zHc (u1:=w36) (v1:=w47)) (.n) ?_
   rw [show (decide (Wd.zz w36 w47))=true from by exact decide_eq_true (by have h9:=hbs.1 (by rw [hk9];rfl);rw [h9.1,h9.2];exact Wd.zz_wz)]
   refine r_pv rfl rfl (zr rfl rfl)<|r_pv rfl rfl (zc rfl)<|zj<|zd<|zI<|zn ?_
   exact zB Tryz.results4 () trivial (zo rfl) rfl (ho:=(.n:PickO _ _ _)) (.n:SelR _ _ _)
end Go.Proofs.YtkamccndgblheaaGreat.Sp
