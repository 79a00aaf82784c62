/- Lemmas on the walk and plain lemmas that the claim of this folder uses; each states its own conditions. Lines were printed by a program of ours. -/
import Derived.Test.YtbiaimgafknkmaaGreatZ6D
set_option linter.unusedVariables false
set_option linter.unusedSimpArgs false
set_option linter.unusedSectionVars false
open Go.Proofs.Tryz renaming underlying23 → ya, prog → yb
open Go.Proofs.YtbiaimgafknkmaaGreat.Big renaming hq → yc
namespace Go.Proofs.YtbiaimgafknkmaaGreat.Sp
open Go
set_option linter.unusedVariables false
set_option maxRecDepth 100000
set_option maxHeartbeats 8000000
theorem zEd {u1:Wd} {v1:Wd} {x1:Option Rat}:Con yb 87 [.agg #[u1.b,u1.l,v1.b,v1.l]] [] [eF u1 v1 (x1)] (Y:=Unit) (fun y=>True) (fun y=> .bool (x1.isSome)) (fun y=>[]) (fun y=>[]):=by
  exact zUf (fun y hy h1 h2=>by subst hy;have h:= @zNb y.1.1 u1.p _ u1.c y.1.2 y.2.1 v1.p _ v1.c y.2.2 rfl rfl h1 h2;rw [qo_s];exact h)
theorem zWd {u1:Wd} {v1:Wd} {x1:Option Rat}:Con yb 64 [.agg #[u1.b,u1.l,v1.b,v1.l]] [] [eF u1 v1 (x1)] (Y:=Unit) (fun y=>True) (fun y=> .bool (x1.isSome)) (fun y=>[]) (fun y=>[]):=by
  exact zUf (fun y hy h1 h2=>by subst hy;have h:= @zSc y.1.1 u1.p _ u1.c y.1.2 y.2.1 v1.p _ v1.c y.2.2 rfl rfl h1 h2;rw [qo_s];exact h)
theorem zXd {u1:Wd} {v1:Wd} {x1:Option Rat} {u2:Wd} {v2:Wd} {q2:Rat} (hl:yc (x1.getD 0)+yc q2+1≤1099511627776):Con yb 54 [.agg #[u1.b,u1.l,v1.b,v1.l],.agg #[u2.b,u2.l,v2.b,v2.l]] [] [eF u1 v1 x1,qF true u2 v2 q2] (Y:=Unit) (fun y=>True) (fun y=> .bool (decide (x1=some q2))) (fun y=>[]) (fun y=>[]):=by
 refine zj Tryz.func54 rfl rfl rfl (fun c=> ?_)
 show RunC _ _ _ _ _ [(0,.agg #[u1.b,u1.l,v1.b,v1.l]),(1,.agg #[u2.b,u2.l,v2.b,v2.l])] [] [eF u1 v1 x1,qF true u2 v2 q2]
 refine zVe (qF x1.isSome u1 v1 (x1.getD 0)) (eF_weak 0 rfl) ?_
 have key:x1=some q2↔x1.isSome=true∧Big.sgq (x1.getD 0 - q2)=0:=by cases x1 <;> simp [Big.sgq_sub_zero]
 refine ze<|za<|zG rfl rfl (zN rfl rfl) (fun b1=> ?_)
 refine zG rfl rfl (zN rfl rfl) (fun b2=> ?_)
 refine e_p (zb rfl)<|zf<|zc<|zVa (X:=Unit) (fun x=>True) (fun x=>[(4,.bool (decide (x1=some q2)))]) (fun x=>[boxA b2 28 (cw [u2,v2]),boxA b1 28 (cw [u1,v1])]) (fun x=>[qF x1.isSome u1 v1 (x1.getD 0),eF u1 v1 x1,qF true u2 v2 q2]) ?_ ?_
 ·
  refine za<|e_ru (zd 1 ty28 rfl rfl (.t4 .nil))<|zJ rfl rfl (.c rfl .n) ce87 (zEd (u1:=u1) (v1:=v1) (x1:=x1)) (.c (j:=1) rfl .n)<|zLe rfl rfl (zma rfl) (fun h3=> ?_) (fun h3=> ?_)
  ·
   refine e_ru (zd 0 ty28 rfl rfl (.t4 .nil))<|zJ rfl rfl (.c rfl .n) ce87 (zzb (u1:=u2) (v1:=v2) (q1:=q2)) (.c (j:=2) rfl .n)<|e_p (zO rfl rfl)<|e_mv rfl<|e_ru (zd 1 ty28 rfl rfl (.t4 .nil))<|e_ru (zd 0 ty28 rfl rfl (.t4 .nil))<|zJ rfl rfl (.c rfl (.c rfl .n)) ce44 (zcc (k1:=x1.isSome) (u1:=u1) (v1:=v1) (q1:=(x1.getD 0)) (k2:=true) (u2:=u2) (v2:=v2) (q2:=q2) (hl:=ass)) (.c (j:=0) rfl (.c (j:=2) rfl .n))<|e_p (zka rfl rfl)<|e_p (zO rfl rfl)<|e_p (zb rfl)<|zf ?_
   exact zta () (show True from by first|trivial|omega|simp_all) ((.e rfl (congrArg Value.bool (by first|(simp [key];done)|(simp_all;done)|(simp [key];simp_all;done))) .n):SubM _ _) (ho:=((.of [0,0] rfl):PickO _ _ _)) ((.of [0,1,2] rfl):SelR _ _ _)
  ·
   refine e_no<|e_no<|e_p (zO rfl rfl)<|e_mv rfl<|e_no<|e_no<|e_no<|e_no<|e_p (zO rfl rfl)<|e_p (zb rfl)<|zf ?_
   exact zta () (show True from by first|trivial|omega|simp_all) ((.e rfl (congrArg Value.bool (by first|(simp [key];done)|(simp_all;done)|(simp [key];simp_all;done))) .n):SubM _ _) (ho:=((.of [0,0] rfl):PickO _ _ _)) ((.of [0,1,2] rfl):SelR _ _ _)
 ·
  rintro ⟨⟩ -
  try dsimp only [cw]
  refine zE ?_
  exact zv Tryz.results54 () trivial (zm rfl) rfl (ho:=(.n:PickO _ _ _)) (.n:SelR _ _ _)
theorem zKc {u1:Wd} {v1:Wd} {x1:Option Rat} {u2:Wd} {v2:Wd} {q2:Rat} (hl:yc (x1.getD 0)+yc q2+1≤1099511627776):Con yb 22 [.agg #[u1.b,u1.l,v1.b,v1.l],.agg #[u2.b,u2.l,v2.b,v2.l]] [] [eF u1 v1 x1,qF true u2 v2 q2] (Y:=Unit) (fun y=>True) (fun y=> .bool (decide (x1=some q2))) (fun y=>[]) (fun y=>[]):=by
 refine zj Tryz.func22 rfl rfl rfl (fun c=> ?_)
 show RunC _ _ _ _ _ [(0,.agg #[u1.b,u1.l,v1.b,v1.l]),(1,.agg #[u2.b,u2.l,v2.b,v2.l])] [] [eF u1 v1 x1,qF true u2 v2 q2]
 refine ze<|za<|zG rfl rfl (zN rfl rfl) (fun b1=> ?_)
 refine zG rfl rfl (zN rfl rfl) (fun b2=> ?_)
 refine e_p (zb rfl)<|zf<|zc<|ze<|za<|e_ru (zd 1 ty28 rfl rfl (.t4 .nil))<|e_ru (zd 0 ty28 rfl rfl (.t4 .nil))<|zJ rfl rfl (.c rfl (.c rfl .n)) ce54 (zXd (u1:=u1) (v1:=v1) (x1:=x1) (u2:=u2) (v2:=v2) (q2:=q2) (hl:=ass)) (.c (j:=0) rfl (.c (j:=1) rfl .n))<|e_p (zb rfl)<|zf<|zc<|zE ?_
 exact zv Tryz.results22 () trivial (zm rfl) rfl (ho:=(.n:PickO _ _ _)) (.n:SelR _ _ _)
theorem zHe {p1:Option Addr} {n1:Nat} {c1:Nat} {l1:List (Option Rat)} {p2:Option Addr} {n2:Nat} {c2:Nat} {l2:List Rat} (hn1:l1.length=n1) (hm1:n1≤1000) (hn2:l2.length=n2) (hm2:n2≤1000) (hb1:∀i,yc ((l1.getD i none).getD 0)≤500000000000) (hb2:∀i,yc (l2.getD i 0)≤500000000000):Con yb 12 [.slice p1 n1 c1,.slice p2 n2 c2] [] [slF rE p1 c1 l1,slF rQ p2 c2 l2] (Y:=Unit) (fun y=>True) (fun y=> .bool (decide (l1=l2.map some))) (fun y=>[]) (fun y=>[]):=by
 refine zj Tryz.func12 rfl rfl rfl (fun c=> ?_)
 show RunC _ _ _ _ _ [(0,.slice p1 n1 c1),(1,.slice p2 n2 c2)] [] [slF rE p1 c1 l1,slF rQ p2 c2 l2]
 refine zQ 0 rfl (fun hL0=> ?_)
 refine zQ 1 rfl (fun hL1=> ?_)
 refine ze<|za<|e_p (zb rfl)<|zf<|zc<|ze<|ze<|za<|e_mv rfl<|e_p (zC ya rfl)<|e_mv rfl<|e_p (zC ya rfl)<|e_p (zvb rfl rfl)<|zf<|zc<|zD rfl (fun hne=> ?_) (fun hne=> ?_)
 ·
  refine ze<|za<|e_p (zb rfl)<|zf<|zc<|zE<|zp ?_
  exact zv Tryz.results12 () trivial (zm rfl) (congrArg Value.bool (decide_eq_false (fun e=>hne (by rw [← hn1,←hn2,e,List.length_map]))).symm.symm) (ho:=(.n:PickO _ _ _)) (.n:SelR _ _ _)
 ·
  refine zB<|zc<|ze<|ze<|za<|e_p (zb rfl)<|zf<|zc<|zx<|zca (X:=Nat) (fun x:Nat=>x≤n1∧∀j,j<x→l1.getD j none=some (l2.getD j 0)) (fun x=>[(5,.int .i64 ((x:Nat):Int)),(0,.slice p1 n1 c1),(1,.slice p2 n2 c2)]) (fun x=>[]) (fun x=>[slF rE p1 c1 l1,slF rQ p2 c2 l2]) (fun x:Nat=>n1 - x) 0 (show 0≤n1∧∀j,j<0→l1.getD j none=some (l2.getD j 0) from by exact ⟨Nat.zero_le _,fun j h=>by omega⟩) ((.e rfl (by first|rfl|(congr 1;omega)|simp_all) (.c rfl (.c rfl .n))):SubM _ _) (ho:=(.n:PickO _ _ _)) ((.of [0,1] rfl):SelR _ _ _) ?_
  rintro i hI
  replace hI:i≤n1∧∀j,j<i→l1.getD j none=some (l2.getD j 0):=hI
  try dsimp only
  obtain ⟨hi,hall⟩:=hI
  refine ze<|ze<|za<|e_mv rfl<|e_mv rfl<|e_p (zC ya rfl)<|e_p (zda rfl rfl)<|zf<|zc<|zD rfl (fun h1=> ?_) (fun h1=> ?_)
  ·
   refine zB<|zc<|ze<|zx<|ze<|zV (OW:=[]) (O:=[]) 100000 mixed (.then (.block (.then (.then (.block (.then .ret)))))) kr<|e_dm 0 rfl rfl rfl<|e_dm 1 rfl rfl rfl<|d_vl 2 rfl rfl kr kr rfl rfl (zea (x0:=(l1.getD i (none:Option Rat))) 0 i rfl ya sz28 rfl (by first|rfl|assumption|(simp;done)|omega) rfl rfl (gD (d:=(none:Option Rat)) om)) ?_
   rintro ⟨b2,o3,w4,w5⟩ -
   dsimp only [aq,nq,cq]
   refine zUa open_rE<|e_u 3 rfl rfl (zL (j:=0) 0 ty28 rfl rfl rfl (.t4 .nil))<|e_dm 4 rfl rfl rfl<|e_dm 5 rfl rfl rfl<|d_vl 6 rfl rfl kr kr rfl rfl (zea (x0:=(l2.getD i (0:Rat))) 4 i rfl ya sz28 rfl (by first|rfl|assumption|(simp;done)|omega) rfl rfl (gD (d:=(0:Rat)) om)) ?_
   rintro ⟨b6,o7,w8,w9⟩ -
   dsimp only [aq,nq,cq]
   refine zUa open_rQ<|e_u 7 rfl rfl (zL (j:=0) 0 ty28 rfl rfl rfl (.t4 .nil))<|e_one 8 (zya rfl rfl rfl rfl (.c rfl (.c rfl .n)) ce22 (zKc (u1:=w4) (v1:=w5) (x1:=(l1.getD i (none:Option Rat))) (u2:=w8) (v2:=w9) (q2:=(l2.getD i (0:Rat))) (hl:=by have h1:=hb1 i;have h2:=hb2 i;omega)) (.c (j:=4) rfl (.c (j:=1) rfl .n)) ?_)
   refine e_pv 9 rfl rfl (zbb rfl)<|zT kr<|zc<|zD rfl (fun hd=> ?_) (fun hd=> ?_)
   ·
    refine ze<|za<|e_p (zb rfl)<|zf<|zc<|zE<|zS<|zp<|zp<|zS<|zp ?_
    exact zv Tryz.results12 () trivial (zm rfl) (congrArg Value.bool (decide_eq_false (fun e=>hd (by rw [e,Po.map_some_get om])))) (ho:=(.n:PickO _ _ _)) (.n:SelR _ _ _)
   ·
    refine zB<|zK<|zc<|za<|e_mv rfl<|e_p (zI (z:=(((i+1):Nat):Int)) rfl rfl (w64 om))<|e_p (zb rfl)<|zf<|zZ (i+1) (show (i+1)≤n1∧∀j,j<(i+1)→l1.getD j none=some (l2.getD j 0) from by refine ⟨by omega,fun j hj=> ?_⟩;by_cases e:j=i;(subst e;exact Decidable.not_not.1 hd);exact hall j om) (by show n1 - (i+1)<n1 - i;omega) ((.of rfl):SubM _ _) (ho:=(.n:PickO _ _ _)) ((.of [5,6] rfl):SelR _ _ _)
  ·
   refine zba<|zi<|zi<|zu<|zc<|ze<|za<|e_p (zb rfl)<|zf<|zc<|zE ?_
   exact zv Tryz.results12 () trivial (zm rfl) (congrArg Value.bool (decide_eq_true (Po.sameE_all hn1 om (fun j hj=>hall j om)))) (ho:=(.n:PickO _ _ _)) (.n:SelR _ _ _)
theorem zYd {p1:Option Addr} {n1:Nat} {c1:Nat} {l1:List (Option Rat)} (hn1:l1.length=n1) (hm1:n1≤1000) (hb1:∀i,yc ((l1.getD i none).getD 0)≤500000000000):Con yb 30 [.slice p1 n1 c1] [] [slF rE p1 c1 l1] (Y:=Unit) (fun y=>True) (fun y=> .bool (decide (l1=(Po.cl (Po.vals l1)).map some))) (fun y=>[]) (fun y=>[]):=by
 refine zj Tryz.func30 rfl rfl rfl (fun c=> ?_)
 show RunC _ _ _ _ _ [(0,.slice p1 n1 c1)] [] [slF rE p1 c1 l1]
 refine zQ 0 rfl (fun hL0=> ?_)
 have hcl:(Po.cl (Po.vals l1)).length≤n1:=by rw [← hn1,←Po.vals_len l1];exact Po.cl_le_len _
 refine ze<|za<|e_p (zb rfl)<|zf<|zc<|ze<|za<|e_mv rfl<|e_mv rfl<|zl rfl rfl (.c rfl .n) ce28 (zEb (p1:=p1) (n1:=n1) (c1:=c1) (l1:=l1) (hn1:=ass) (hm1:=ass) (hb1:=by intro i;rw [Po.vals_get];exact Nat.le_trans (hb1 i) dd)) (.c (j:=0) rfl .n) ?_
 rintro ⟨p91,c92⟩ -
 dsimp only [aq,nq,cq]
 refine zJ rfl rfl (.c rfl (.c rfl .n)) ce12 (zHe (p1:=p1) (n1:=n1) (c1:=c1) (l1:=l1) (p2:=p91) (n2:=(Po.cl (Po.vals l1)).length) (c2:=c92) (l2:=(Po.cl (Po.vals l1))) (hn1:=ass) (hm1:=ass) (hn2:=cbo) (hm2:=cbo) (hb1:=ass) (hb2:=by intro i;rw [Po.cl_get,Po.vals_get];exact hb1 i)) (.c (j:=1) rfl (.c (j:=0) rfl .n))<|e_p (zb rfl)<|zf<|zc<|zE ?_
 exact zv Tryz.results30 () trivial (zm rfl) rfl (ho:=(.n:PickO _ _ _)) (.n:SelR _ _ _)
theorem zZd {p1:Option Addr} {n1:Nat} {c1:Nat} {l1:List (Option Rat)} (hn1:l1.length=n1) (hm1:n1≤1000) (hb1:∀i,yc ((Po.vals l1).getD i 0)≤1000000000000):Con yb 33 [.slice p1 n1 c1] [] [slF rE p1 c1 l1] (Y:=Unit) (fun y=>True) (fun y=> .int .i64 ((((Po.cl (Po.vals l1)).length:Nat):Int) - 1)) (fun y=>[]) (fun y=>[]):=by
 refine zj Tryz.func33 rfl rfl rfl (fun c=> ?_)
 show RunC _ _ _ _ _ [(0,.slice p1 n1 c1)] [] [slF rE p1 c1 l1]
 refine zQ 0 rfl (fun hL0=> ?_)
 have hcl:(Po.cl (Po.vals l1)).length≤n1:=by rw [← hn1,←Po.vals_len l1];exact Po.cl_le_len _
 refine ze<|za<|e_p (zb rfl)<|zf<|zc<|ze<|za<|e_mv rfl<|zl rfl rfl (.c rfl .n) ce28 (zEb (p1:=p1) (n1:=n1) (c1:=c1) (l1:=l1) (hn1:=ass) (hm1:=ass) (hb1:=ass)) (.c (j:=0) rfl .n) ?_
 rintro ⟨p91,c92⟩ -
 dsimp only [aq,nq,cq]
 refine e_p (zC ya rfl)<|e_p (zU (z:=((((Po.cl (Po.vals l1)).length:Nat):Int) - 1)) rfl rfl (w64 om))<|e_p (zb rfl)<|zf<|zc<|zE ?_
 exact zv Tryz.results33 () trivial (zm rfl) rfl (ho:=(.n:PickO _ _ _)) (.n:SelR _ _ _)
theorem zae {p1:Option Addr} {n1:Nat} {c1:Nat} {l1:List (Option Rat)} (hn1:l1.length=n1) (hm1:n1≤1000):Con yb 29 [.slice p1 n1 c1] [] [slF rE p1 c1 l1] (Y:=Unit) (fun y=>True) (fun y=> .bool (decide (l1=(Po.cl (Po.vals l1)).map some))) (fun y=>[]) (fun y=>[]):=by
 refine zj Tryz.func29 rfl rfl rfl (fun c=> ?_)
 show RunC _ _ _ _ _ [(0,.slice p1 n1 c1)] [] [slF rE p1 c1 l1]
 refine zQ 0 rfl (fun hL0=> ?_)
 refine ze<|za<|e_p (zb rfl)<|zf<|zc<|ze<|ze<|za<|e_mv rfl<|e_p (zC ya rfl)<|e_mv rfl<|zf<|zc<|zx<|zca (X:=Nat) (fun x:Nat=>x≤n1∧∀j,j<x→(l1.getD j none).isSome=true) (fun x=>[(7,.int .i64 ((x:Nat):Int)),(6,.int .i64 ((n1:Nat):Int)),(5,.slice p1 n1 c1),(0,.slice p1 n1 c1)]) (fun x=>[]) (fun x=>[slF rE p1 c1 l1]) (fun x:Nat=>n1 - x) 0 (show 0≤n1∧∀j,j<0→(l1.getD j none).isSome=true from by exact ⟨Nat.zero_le _,fun j h=>by omega⟩) ((.e rfl (by first|rfl|(congr 1;omega)|simp_all) (.of rfl)):SubM _ _) (ho:=(.n:PickO _ _ _)) ((.c (j:=0) rfl .n):SelR _ _ _) ?_
 rintro i hI
 replace hI:i≤n1∧∀j,j<i→(l1.getD j none).isSome=true:=hI
 try dsimp only
 obtain ⟨hi,hall⟩:=hI
 refine ze<|za<|e_p (zda rfl rfl)<|zf<|zc<|ze<|zD rfl (fun h8=> ?_) (fun h8=> ?_)
 ·
  refine zB<|zc<|ze<|zx<|ze<|za<|r_vl rfl rfl (zea (x0:=(l1.getD i (none:Option Rat))) 0 i rfl ya sz28 rfl (by first|rfl|assumption|(simp;done)|omega) rfl rfl (gD (d:=(none:Option Rat)) om)) ?_
  rintro ⟨b1,o2,w3,w4⟩ -
  dsimp only [aq,nq,cq]
  refine zoa open_rE<|e_ru (zL (j:=0) 0 ty28 rfl rfl rfl (.t4 .nil))<|zG rfl rfl (zy zr28 rfl) (fun b5=> ?_)
  refine zk 0 rfl rfl rfl rfl rfl sz28 rfl (.t4 .nil) .z<|zf<|zc<|ze<|za<|e_ru (zd 0 ty28 rfl rfl (.t4 .nil))<|zJ rfl rfl (.c rfl .n) ce64 (zWd (u1:=w3) (v1:=w4) (x1:=(l1.getD i (none:Option Rat)))) (.c (j:=2) rfl .n)<|e_p (zHb rfl)<|zf<|zc<|zub rfl (fun h13=> ?_) (fun h13=> ?_)
  ·
   refine ze<|za<|e_p (zb rfl)<|zf<|zc<|zE<|zS<|zp<|zp<|zS<|zp ?_
   exact zv Tryz.results29 () trivial (zm rfl) (congrArg Value.bool (decide_eq_false (Po.valid_no (i:=i) om (by simpa using h13)))) (ho:=(.n:PickO _ _ _)) (.n:SelR _ _ _)
  ·
   refine zB<|zK<|zc<|za<|e_p (zI (z:=(((i+1):Nat):Int)) rfl rfl (w64 om))<|e_mv rfl<|zf<|zZ (i+1) (show (i+1)≤n1∧∀j,j<(i+1)→(l1.getD j none).isSome=true from by refine ⟨by omega,fun j hj=> ?_⟩;by_cases e:j=i;(subst e;simpa using h13);exact hall j om) (by show n1 - (i+1)<n1 - i;omega) ((.of rfl):SubM _ _) (ho:=(.n:PickO _ _ _)) ((.c (j:=3) rfl .n):SelR _ _ _)
 ·
  refine zba<|zi<|zi<|zu<|zc<|zVa (X:=Unit) (fun x=>True) (fun x=>[(2,.bool (decide (l1=(Po.cl (Po.vals l1)).map some)))]) (fun x=>[]) (fun x=>[slF rE p1 c1 l1]) ?_ ?_
  ·
   refine za<|e_mv rfl<|e_p (zC ya rfl)<|e_p (zka rfl rfl)<|zpa rfl rfl (zma rfl) (fun h6=> ?_) (fun h6=> ?_)
   ·
    refine e_no<|e_no<|e_no<|e_no<|e_no<|e_no<|e_no<|e_no<|e_p (zO rfl rfl)<|e_p (zb rfl)<|zf ?_
    exact zta () (show True from by first|trivial|omega|simp_all) ((.e rfl (congrArg Value.bool (by first|exact (decide_eq_true (Po.valid_nil hn1 om)).symm|exact decide_eq_decide.2 (Po.valid_iff hn1 (fun j hj=>hall j om) om))) .n):SubM _ _) (ho:=(.n:PickO _ _ _)) ((.c (j:=0) rfl .n):SelR _ _ _)
   ·
    refine e_mv rfl<|e_mv rfl<|e_p (zC ya rfl)<|e_p (zU (z:=(((n1:Nat):Int) - 1)) rfl rfl (w64 om)) ?_
    have e7:((((n1:Nat):Int) - 1):Int)=(((n1 - 1):Nat):Int):=by omega
    rw [e7]
    refine r_vl rfl rfl (zea (x0:=(l1.getD (n1 - 1) (none:Option Rat))) 0 (n1 - 1) rfl ya sz28 rfl (by first|rfl|assumption|(simp;done)|omega) rfl rfl (gD (d:=(none:Option Rat)) om)) ?_
    rintro ⟨b8,o9,w10,w11⟩ -
    dsimp only [aq,nq,cq]
    refine zoa open_rE<|e_ru (zL (j:=0) 0 ty28 rfl rfl rfl (.t4 .nil))<|zJ rfl rfl (.c rfl .n) ce65 (zDc (k1:=(l1.getD (n1 - 1) (none:Option Rat)).isSome) (u1:=w10) (v1:=w11) (q1:=((l1.getD (n1 - 1) (none:Option Rat)).getD 0))) (.c (j:=1) rfl .n)<|e_p (zvb rfl rfl)<|e_p (zO rfl rfl)<|e_p (zb rfl)<|zf ?_
    exact zta () (show True from by first|trivial|omega|simp_all) ((.e rfl (congrArg Value.bool (by first|exact (decide_eq_true (Po.valid_nil hn1 om)).symm|exact decide_eq_decide.2 (Po.valid_iff hn1 (fun j hj=>hall j om) om))) .n):SubM _ _) (ho:=(.n:PickO _ _ _)) ((.c (j:=3) rfl .n):SelR _ _ _)
  ·
   rintro ⟨⟩ -
   try dsimp only
   refine zE ?_
   exact zv Tryz.results29 () trivial (zm rfl) rfl (ho:=(.n:PickO _ _ _)) (.n:SelR _ _ _)
end Go.Proofs.YtbiaimgafknkmaaGreat.Sp
namespace Go.Proofs.YtbiaimgafknkmaaGreat.Sp
open Go
set_option linter.unusedVariables false
set_option maxRecDepth 100000
set_option maxHeartbeats 8000000
theorem zPb {p1:Option Addr} {n1:Nat} {c1:Nat} {l1:List (Option Rat)} {u1:Wd} {v1:Wd} {x1:Option Rat} (hn1:l1.length=n1):Con yb 6 [.slice p1 n1 c1,.agg #[u1.b,u1.l,v1.b,v1.l]] [] [slF rE p1 c1 l1,eF u1 v1 x1] (Y:=Unit) (fun y=>True) (fun y=> .bool true) (fun y=>[]) (fun y=>[]):=by
 refine zj Tryz.func6 rfl rfl rfl (fun c=> ?_)
 show RunC _ _ _ _ _ [(0,.slice p1 n1 c1),(1,.agg #[u1.b,u1.l,v1.b,v1.l])] [] [slF rE p1 c1 l1,eF u1 v1 x1]
 refine zQ 0 rfl (fun hL0=> ?_)
 refine ze<|za<|zG rfl rfl (zN rfl rfl) (fun b1=> ?_)
 refine e_p (zb rfl)<|zf<|zc<|ze<|ze<|za<|zJ rfl rfl (.n) ce9 (zpf) (.n)<|e_p (zHb rfl)<|zf<|zc<|zgb rfl rfl<|zB<|zc<|ze<|zVa (X:=Bool) (fun x=>(x=false→(((n1:Nat):Int)≤10∧∀i,i<n1→yc ((l1.getD i none).getD 0)≤2)∧(u1.n≤2∧v1.n≤2))) (fun x=>[(14,.bool x),(4,.bool false),(3,.pointer (some ⟨b1,0,none⟩)),(0,.slice p1 n1 c1)]) (fun x=>[boxA b1 28 (cw [u1,v1])]) (fun x=>[slF rE p1 c1 l1,eF u1 v1 x1]) ?_ ?_
 ·
  refine za<|e_mv rfl<|zl rfl rfl (.c rfl (.c rfl .n)) ce10 (zhg (p1:=p1) (n1:=n1) (c1:=c1) (l1:=l1) (m:=10) (hn1:=ass)) (.c (j:=0) rfl .n) ?_
  rintro b92 hfa
  dsimp only [aq,nq,cq]
  replace hfa:(b92=true→((n1:Nat):Int)≤10∧∀i,i<n1→yc ((l1.getD i none).getD 0)≤2):=hfa
  refine e_p (zHb rfl)<|zLe rfl rfl (zma rfl) (fun h12=> ?_) (fun h12=> ?_)
  ·
   refine e_no<|e_no<|e_no<|e_p (zO rfl rfl)<|zf ?_
   exact zta true (show (true=false→(((n1:Nat):Int)≤10∧∀i,i<n1→yc ((l1.getD i none).getD 0)≤2)∧(u1.n≤2∧v1.n≤2)) from by (intro k;cases k)) ((.e rfl (congrArg Value.bool cbu) (.of rfl)):SubM _ _) (ho:=((.c (i:=0) rfl .n):PickO _ _ _)) ((.of [0,1] rfl):SelR _ _ _)
  ·
   have hf1:=hfa (by simpa using h12)
   refine e_ru (zd 0 ty28 rfl rfl (.t4 .nil))<|zJ rfl rfl (.c rfl .n) ce11 (zCd (u1:=u1) (v1:=v1)) (.n)<|e_p (zbb rfl)<|e_p (zO rfl rfl)<|zf ?_
   exact zta (decide (¬(u1.n≤2∧v1.n≤2))) (show ((decide (¬(u1.n≤2∧v1.n≤2)))=false→(((n1:Nat):Int)≤10∧∀i,i<n1→yc ((l1.getD i none).getD 0)≤2)∧(u1.n≤2∧v1.n≤2)) from by (intro k;exact ⟨hf1,Decidable.not_not.1 (of_decide_eq_false k)⟩)) ((.e rfl (congrArg Value.bool cbu) (.of rfl)):SubM _ _) (ho:=((.c (i:=0) rfl .n):PickO _ _ _)) ((.of [0,1] rfl):SelR _ _ _)
 ·
  rintro g9 hC
  replace hC:(g9=false→(((n1:Nat):Int)≤10∧∀i,i<n1→yc ((l1.getD i none).getD 0)≤2)∧(u1.n≤2∧v1.n≤2)):=hC
  try dsimp only [cw]
  refine zub rfl (fun h21=> ?_) (fun h21=> ?_)
  ·
   refine ze<|za<|e_p (zb rfl)<|zf<|zc<|zE<|zp ?_
   exact zv Tryz.results6 () trivial (zm rfl) rfl (ho:=(.n:PickO _ _ _)) (.n:SelR _ _ _)
  ·
   obtain ⟨hf1,hsm⟩:=hC h21
   refine zgd (p:=yc (x1.getD 0)≤2) (fun g hh=>ee_hq (Holds.get 1 rfl hh) hsm.1 hsm.2) (fun hqx=> ?_)
   have hm1:n1≤10:=by omega
   have hb1:=Po.few_all hn1 hf1.2
   have hv1:=Po.few_bd hb1
   have hl1:(Po.vals l1).length=n1:=by rw [Po.vals_len,hn1]
   have hcl1:=Po.cl_le_len (Po.vals l1)
   have hv3:Po.bd 5 (Po.der (Po.vals l1)):=Po.bd_der hv1 om
   have hl3:=Po.der_len (Po.vals l1)
   have he1:yc (Po.ev (x1.getD 0) (Po.vals l1))≤51:=Po.ev_drop_hq (N:=10) hqx hv1 om 0
   refine zB<|zc<|zVa (X:=Unit) (fun x=>True) (fun x=>[(4,.bool true)]) (fun x=>[boxA b1 28 (cw [u1,v1])]) (fun x=>[slF rE p1 c1 l1,eF u1 v1 x1]) ?_ ?_
   ·
    refine zV (OW:=[]) (O:=[boxA b1 28 (cw [u1,v1])]) 100000 mixed (.then .ret) kr<|e_dm 0 rfl rfl rfl<|e_dm 2 rfl rfl rfl<|e_one 1 (zya rfl rfl rfl rfl (.c rfl .n) ce29 (zae (p1:=p1) (n1:=n1) (c1:=c1) (l1:=l1) (hn1:=ass) (hm1:=by first|omega|rfl|assumption|decide)) (.c (j:=0) rfl .n) ?_)
    refine e_one 3 (zya rfl rfl rfl rfl (.c rfl .n) ce30 (zYd (p1:=p1) (n1:=n1) (c1:=c1) (l1:=l1) (hn1:=ass) (hm1:=by first|omega|rfl|assumption|decide) (hb1:=by exact fun i=>Nat.le_trans (hb1 i) dd)) (.c (j:=0) rfl .n) ?_)
    refine e_pv 4 rfl rfl (zKb Tryz.underlying4 rfl rfl) ?_
    rw [show (decide (decide (l1=(Po.cl (Po.vals l1)).map some)=decide (l1=(Po.cl (Po.vals l1)).map some)))=true from by exact decide_eq_true rfl]
    refine e_dm 5 rfl rfl rfl<|e_dm 6 rfl rfl rfl<|e_dm 8 rfl rfl rfl<|e_one 7 (zq rfl rfl rfl rfl (.c rfl .n) ce31 (zxa (p1:=p1) (n1:=n1) (c1:=c1) (l1:=l1) (hn1:=ass) (hm1:=by first|omega|rfl|assumption|decide)) (.c (j:=0) rfl .n) ?_)
    rintro ⟨p93,c94⟩ -
    dsimp only [aq,nq,cq]
    refine e_one 9 (zq rfl rfl rfl rfl (.c rfl .n) ce28 (zEb (p1:=p1) (n1:=n1) (c1:=c1) (l1:=l1) (hn1:=ass) (hm1:=by first|omega|rfl|assumption|decide) (hb1:=by exact Po.bd_mono hv1 dd)) (.c (j:=1) rfl .n) ?_)
    rintro ⟨p95,c96⟩ -
    dsimp only [aq,nq,cq]
    refine e_one 10 (zya rfl rfl rfl rfl (.c rfl (.c rfl .n)) ce12 (zdc (p1:=p93) (n1:=(Po.cl (Po.vals l1)).length) (c1:=c94) (l1:=(Po.cl (Po.vals l1))) (p2:=p95) (n2:=(Po.cl (Po.vals l1)).length) (c2:=c96) (l2:=(Po.cl (Po.vals l1))) (hn1:=by rfl) (hm1:=om) (hn2:=by rfl) (hm2:=om) (hb1:=by exact Po.bd_mono (Po.bd_cl hv1) dd) (hb2:=by exact Po.bd_mono (Po.bd_cl hv1) dd)) (.c (j:=1) rfl (.c (j:=0) rfl .n)) ?_)
    rw [show (decide ((Po.cl (Po.vals l1))=(Po.cl (Po.vals l1))))=true from by exact decide_eq_true rfl]
    refine e_pv 11 rfl rfl (zO rfl rfl)<|e_dm 12 rfl rfl rfl<|e_dm 13 rfl rfl rfl<|e_dm 15 rfl rfl rfl<|e_one 14 (zya rfl rfl rfl rfl (.c rfl .n) ce32 (zTd (p1:=p1) (n1:=n1) (c1:=c1) (l1:=l1) (hn1:=ass) (hm1:=by first|omega|rfl|assumption|decide)) (.c (j:=2) rfl .n) ?_)
    refine e_one 16 (zya rfl rfl rfl rfl (.c rfl .n) ce33 (zZd (p1:=p1) (n1:=n1) (c1:=c1) (l1:=l1) (hn1:=ass) (hm1:=by first|omega|rfl|assumption|decide) (hb1:=by exact Po.bd_mono hv1 dd)) (.c (j:=2) rfl .n) ?_)
    refine e_pv 17 rfl rfl (zka rfl rfl) ?_
    rw [show (decide (((((Po.cl (Po.vals l1)).length:Nat):Int) - 1)=((((Po.cl (Po.vals l1)).length:Nat):Int) - 1)))=true from by exact decide_eq_true rfl]
    refine e_pv 18 rfl rfl (zO rfl rfl)<|e_dm 19 rfl rfl rfl<|e_dm 20 rfl rfl rfl<|e_dm 22 rfl rfl rfl<|e_one 21 (zq rfl rfl rfl rfl (.c rfl .n) ce25 (zOb (p1:=p1) (n1:=n1) (c1:=c1) (l1:=l1) (hn1:=ass) (hm1:=by first|omega|rfl|assumption|decide) (hb1:=by exact fun i=>Nat.le_trans (hb1 i) dd)) (.c (j:=2) rfl .n) ?_)
    rintro ⟨p97,c98⟩ -
    dsimp only [aq,nq,cq]
    refine e_one 23 (zq rfl rfl rfl rfl (.c rfl .n) ce34 (zUd (p1:=p1) (n1:=n1) (c1:=c1) (l1:=l1) (hn1:=ass) (hm1:=by first|omega|rfl|assumption|decide) (hb1:=by exact fun i=>Nat.le_trans (hb1 i) dd)) (.c (j:=3) rfl .n) ?_)
    rintro ⟨p99,c910⟩ -
    dsimp only [aq,nq,cq]
    refine e_one 24 (zya rfl rfl rfl rfl (.c rfl (.c rfl .n)) ce12 (zdc (p1:=p97) (n1:=(Po.der (Po.vals l1)).length) (c1:=c98) (l1:=(Po.der (Po.vals l1))) (p2:=p99) (n2:=(Po.der (Po.vals l1)).length) (c2:=c910) (l2:=(Po.der (Po.vals l1))) (hn1:=by rfl) (hm1:=om) (hn2:=by rfl) (hm2:=om) (hb1:=by exact Po.bd_mono hv3 dd) (hb2:=by exact Po.bd_mono hv3 dd)) (.c (j:=1) rfl (.c (j:=0) rfl .n)) ?_)
    rw [show (decide ((Po.der (Po.vals l1))=(Po.der (Po.vals l1))))=true from by exact decide_eq_true rfl]
    refine e_pv 25 rfl rfl (zO rfl rfl)<|e_dm 26 rfl rfl rfl<|e_dm 27 rfl rfl rfl<|e_u 28 rfl rfl (zd 0 ty28 rfl rfl (.t4 .nil))<|e_dm 30 rfl rfl rfl<|e_u 31 rfl rfl (zd 0 ty28 rfl rfl (.t4 .nil))<|e_one 29 (zq rfl rfl rfl rfl (.c rfl (.c rfl .n)) ce21 (zBd (p1:=p1) (n1:=n1) (c1:=c1) (l1:=l1) (u1:=u1) (v1:=v1) (x1:=x1) (hn1:=ass) (hm1:=by first|omega|rfl|assumption|decide) (hx:=by exact Nat.le_trans hqx dd) (hb1:=by exact fun i=>Nat.le_trans (hb1 i) dd) (hs:=by exact fun i=>Nat.le_trans (Po.ev_drop_hq (N:=10) hqx hv1 om i) dd)) (.c (j:=4) rfl (.c (j:=5) rfl .n)) ?_)
    rintro ⟨w311,w412⟩ -
    dsimp only [aq,nq,cq]
    refine e_one 32 (zq rfl rfl rfl rfl (.c rfl (.c rfl .n)) ce35 (zof (p1:=p1) (n1:=n1) (c1:=c1) (l1:=l1) (u1:=u1) (v1:=v1) (x1:=x1) (hn1:=ass) (hm1:=by first|omega|rfl|assumption|decide) (hx:=by exact Nat.le_trans hqx dd) (hb1:=by exact fun i=>Nat.le_trans (hb1 i) dd) (hs:=by exact fun i=>Nat.le_trans (Po.ev_drop_hq (N:=10) hqx hv1 om i) dd)) (.c (j:=5) rfl (.c (j:=6) rfl .n)) ?_)
    rintro ⟨w313,w414⟩ -
    dsimp only [aq,nq,cq]
    refine e_one 33 (zya rfl rfl rfl rfl (.c rfl (.c rfl .n)) ce22 (zZa (u1:=w311) (v1:=w412) (q1:=(Po.ev (x1.getD 0) (Po.vals l1))) (u2:=w313) (v2:=w414) (q2:=(Po.ev (x1.getD 0) (Po.vals l1))) (hl:=om)) (.c (j:=1) rfl (.c (j:=0) rfl .n)) ?_)
    rw [show (decide ((Po.ev (x1.getD 0) (Po.vals l1))=(Po.ev (x1.getD 0) (Po.vals l1))))=true from by exact decide_eq_true rfl]
    refine e_pv 34 rfl rfl (zO rfl rfl)<|e_pv 35 rfl rfl (zb rfl)<|zT kr ?_
    exact zta () (show True from by first|trivial|omega|simp_all) ((.c rfl .n):SubM _ _) (ho:=((.c (i:=0) rfl .n):PickO _ _ _)) ((.of [6,7] rfl):SelR _ _ _)
   ·
    rintro ⟨⟩ -
    try dsimp only [cw]
    refine zE ?_
    exact zv Tryz.results6 () trivial (zm rfl) rfl (ho:=(.n:PickO _ _ _)) (.n:SelR _ _ _)
end Go.Proofs.YtbiaimgafknkmaaGreat.Sp
namespace Go.Proofs.YtbiaimgafknkmaaGreat.Sp
open Go
set_option linter.unusedVariables false
def rRaw:Rp ((Bool×List Int)×(Bool×List Int)):=rP (rP rB (rS (rI .u32))) (rP rB (rS (rI .u32)))
theorem eF_of {g:Hp} {s t:Bool} {p1 p2:Option Addr} {c1 c2:Nat} {la lb:List Int} (ha:Sl (rI .u32) g p1 c1 la) (hb:Sl (rI .u32) g p2 c2 lb) (k1:la.length≤1099511627776) (k2:lb.length≤1099511627776):
    (eF ⟨s,p1,la.length,c1⟩ ⟨t,p2,lb.length,c2⟩ (qo ((s,la),(t,lb)))).on g:=⟨((s,la),(t,lb)),⟨rfl,rfl,k1,ha⟩,⟨rfl,rfl,k2,hb⟩,rfl⟩
theorem sl_raw {g:Hp} {p:Option Addr} {c:Nat} {l:List ((Bool×List Int)×(Bool×List Int))} (k:Sl rRaw g p c l) (hb:∀x,x∈l→x.1.2.length≤1099511627776∧x.2.2.length≤1099511627776):Sl rE g p c (l.map qo):=by
  refine ⟨by rw [List.length_map];exact k.1,k.2.1,k.2.2.1,fun i x e=> ?_⟩
  rw [List.getElem?_map] at e
  obtain ⟨x0,e0,rfl⟩:=Option.map_eq_some_iff.1 e
  obtain ⟨b,off,⟨⟨γ1,p1,c1⟩,⟨γ2,p2,c2⟩⟩,e1,e2,e3⟩:=k.2.2.2 i x0 e0
  obtain ⟨h1,h2⟩:=hb x0 (List.mem_of_getElem? e0)
  exact ⟨b,off,(⟨x0.1.1,p1,x0.1.2.length,c1⟩,⟨x0.2.1,p2,x0.2.2.length,c2⟩),e1,e2,eF_of e3.1.2 e3.2.2 h1 h2⟩
theorem mz_raw1 {x:(Bool×List Int)×(Bool×List Int)} {n:Nat} (h:(fun z:(Bool×List Int)×(Bool×List Int)=>(fun z:Bool×List Int=>(fun _:Bool=>1) z.1+mzL (fun _:Int=>1) z.2) z.1+(fun z:Bool×List Int=>(fun _:Bool=>1) z.1+mzL (fun _:Int=>1) z.2) z.2) x≤n):x.1.2.length≤n∧x.2.2.length≤n:=by
  have q1:=mzL_len (mz:=fun _:Int=>1) (l:=x.1.2) (fun _=>Nat.le_refl 1)
  have q2:=mzL_len (mz:=fun _:Int=>1) (l:=x.2.2) (fun _=>Nat.le_refl 1)
  simp only at h
  omega
theorem mz_raw {l:List ((Bool×List Int)×(Bool×List Int))} {n:Nat} (h:mzL (fun z:(Bool×List Int)×(Bool×List Int)=>(fun z:Bool×List Int=>(fun _:Bool=>1) z.1+mzL (fun _:Int=>1) z.2) z.1+(fun z:Bool×List Int=>(fun _:Bool=>1) z.1+mzL (fun _:Int=>1) z.2) z.2) l≤n) (hn:n≤1099511627776):∀x,x∈l→x.1.2.length≤1099511627776∧x.2.2.length≤1099511627776:=fun x hx=>by
  have:=mzL_mem (mz:=fun z:(Bool×List Int)×(Bool×List Int)=>(fun z:Bool×List Int=>(fun _:Bool=>1) z.1+mzL (fun _:Int=>1) z.2) z.1+(fun z:Bool×List Int=>(fun _:Bool=>1) z.1+mzL (fun _:Int=>1) z.2) z.2) hx
  exact mz_raw1 (Nat.le_trans (Nat.le_of_succ_le (Nat.le_trans this h)) hn)
end Go.Proofs.YtbiaimgafknkmaaGreat.Sp
