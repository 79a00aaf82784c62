/- Lemmas on the walk and plain lemmas that the claim of this folder uses; each states its own conditions. Lines were printed by a program of ours. -/
import Derived.Test.YtkamccndgblheaaZ4D
set_option linter.unusedVariables false
set_option linter.unusedSimpArgs false
set_option linter.unusedSectionVars false
namespace Go.Proofs.Ytkamccndgblheaa.Sp
open Go
set_option linter.unusedVariables false
set_option maxRecDepth 100000
set_option maxHeartbeats 1000000
theorem zwf {p:Option Addr} {n:Nat} {cap:Nat} {l:List Gr} (hn:l.length=n):Con Try.prog 8 [.slice p n cap] [] [slF rG p cap l] (Y:=Unit) (fun y=>True) (fun y=> .bool (decide (∀g∈l,g.n≤150))) (fun y=>[]) (fun y=>[]):=by
 refine zp Try.func8 rfl rfl rfl (fun c=> ?_)
 show RunC _ _ _ _ _ [(0,.slice p n cap)] [] [slF rG p cap l]
 refine zX 0 rfl (fun hL0=> ?_)
 refine zh<|zb<|r_pv rfl rfl (zc rfl)<|zj<|zd<|zh<|zh<|zb<|r_pv rfl rfl (za rfl)<|r_pv rfl rfl (zN Try.underlying56 rfl)<|r_pv rfl rfl (za rfl)<|zj<|zd<|zA<|zja (X:=Nat) (fun x:Nat=>x≤n∧∀j,j<x→(l.getD j gr0).n≤150) (fun x=>[(7,.int .i64 ((x:Nat):Int)),(6,.int .i64 ((n:Nat):Int)),(5,.slice p n cap)]) (fun x=>[]) (fun x=>[slF rG p cap l]) (fun x:Nat=>n - x) 0 (show 0≤n∧∀j,j<0→(l.getD j gr0).n≤150 from by exact ⟨by omega,fun j h=>by omega⟩) ((.e rfl (by first|rfl|(congr 1;omega)|simp_all) (.c rfl (.c rfl .n))):SubM _ _) (ho:=(.n:PickO _ _ _)) ((.c (j:=0) rfl .n):SelR _ _ _) ?_
 rintro i hI
 replace hI:i≤n∧∀j,j<i→(l.getD j gr0).n≤150:=hI
 try dsimp only
 obtain ⟨hi,hall⟩:=hI
 refine zh<|zb<|r_pv rfl rfl (zfa rfl rfl)<|zj<|zd<|zh<|zG rfl (fun h1=> ?_) (fun h1=> ?_)
 ·
  refine zB<|zd<|zh<|zA<|zh<|zb<|zQ (x0:=(l.getD i gr0)) 0 i rfl Try.underlying56 sz24 rfl rfl rfl (by first|rfl|assumption|(simp_all;done)|omega) rfl rfl (gD (d:=gr0) (by omega)) (fun b2 o3 hok4=> ?_)
  obtain ⟨hok40,hok41,hok42⟩:=hok4
  replace hok40:=zV.1 hok40
  replace hok41:=zV.1 hok41
  replace hok42:=zV.1 hok42
  refine r_u rfl rfl (zxb (j:=0) 0 ty24 rfl rfl rfl (.take (.take (.take (.take .nil)))))<|zJ rfl rfl (zC zr24 rfl) (fun b5=> ?_)
  refine zm 0 rfl rfl rfl rfl rfl sz24 rfl (.take (.take (.take (.take .nil)))) .z<|zj<|zd<|zh<|zb<|r_pv rfl rfl (zg Try.underlying24 rfl sz22 rfl rfl)<|r_u rfl rfl (zi 0 ty22 rfl rfl rfl)<|r_pv rfl rfl (zN Try.underlying22 rfl)<|r_pv rfl rfl (zta rfl rfl)<|zj<|zd<|zG rfl (fun hb=> ?_) (fun hb=> ?_)
  ·
   refine zh<|zb<|r_pv rfl rfl (zc rfl)<|zj<|zd<|zH<|zW<|zn<|zn<|zW<|zn ?_
   exact zy Try.results8 () trivial (zo rfl) (congrArg Value.bool (decide_eq_false (fun k=>by have h9:=k _ (Cr.getD_memG (l:=l) (i:=i) (d:=gr0) (by omega));omega))) (ho:=(.n:PickO _ _ _)) (.n:SelR _ _ _)
  ·
   refine zB<|zU<|zd<|zb<|r_pv rfl rfl (zE (z:=(((i+1):Nat):Int)) rfl rfl (w64 (by omega)))<|r_pv rfl rfl (za rfl)<|zj<|zha (i+1) (show (i+1)≤n∧∀j,j<(i+1)→(l.getD j gr0).n≤150 from by refine ⟨by omega,fun j hj=> ?_⟩;by_cases e:j=i;subst e;omega;exact hall j (by omega)) (by show n - (i+1)<n - i;omega) ((.of rfl):SubM _ _) (ho:=(.n:PickO _ _ _)) ((.c (j:=1) rfl .n):SelR _ _ _)
 ·
  refine zia<|zl<|zl<|zw<|zd<|zh<|zb<|r_pv rfl rfl (zc rfl)<|zj<|zd<|zH ?_
  exact zy Try.results8 () trivial (zo rfl) (congrArg Value.bool (decide_eq_true (fun g hg=>by obtain ⟨j,hj,e⟩:=Cr.mem_getDG (d:=gr0) hg;have h9:=hall j (by rw [hn] at hj;omega);rw [e] at h9;exact h9))) (ho:=(.n:PickO _ _ _)) (.n:SelR _ _ _)
theorem zod {p:Option Addr} {n:Nat} {cap:Nat} {l:List Gr} {ls:List (List Int)} (hn:l.length=n) (hls:∀i,i<n→(ls.getD i []).length=(l.getD i gr0).n):Con Try.prog 10 [.slice p n cap] [] [slF rG p cap l,gsF l ls] (Y:=Unit) (fun y=>True) (fun y=> .int .i64 (if (Cr.allok l ls n) then 0 else 1)) (fun y=>[]) (fun y=>[]):=by
 refine zp Try.func10 rfl rfl rfl (fun c=> ?_)
 show RunC _ _ _ _ _ [(0,.slice p n cap)] [] [slF rG p cap l,gsF l ls]
 refine zX 0 rfl (fun hL0=> ?_)
 refine zh<|zb<|r_pv rfl rfl (zc rfl)<|zj<|zd<|zh<|zh<|zb<|r_pv rfl rfl (za rfl)<|r_pv rfl rfl (zN Try.underlying56 rfl)<|r_pv rfl rfl (za rfl)<|zj<|zd<|zA<|zja (X:=Nat) (fun x:Nat=>x≤n∧∀j,j<x→Bl.rok (l.getD j gr0).w (l.getD j gr0).h (l.getD j gr0).m (ls.getD j [])) (fun x=>[(8,.int .i64 ((x:Nat):Int)),(7,.int .i64 ((n:Nat):Int)),(6,.slice p n cap)]) (fun x=>[]) (fun x=>[slF rG p cap l,gsF l ls]) (fun x:Nat=>n - x) 0 (show 0≤n∧∀j,j<0→Bl.rok (l.getD j gr0).w (l.getD j gr0).h (l.getD j gr0).m (ls.getD j []) from by exact ⟨by omega,fun j h=>by omega⟩) ((.e rfl (by first|rfl|(congr 1;omega)|simp_all) (.c rfl (.c rfl .n))):SubM _ _) (ho:=(.n:PickO _ _ _)) ((.of [0,1] rfl):SelR _ _ _) ?_
 rintro i hI
 replace hI:i≤n∧∀j,j<i→Bl.rok (l.getD j gr0).w (l.getD j gr0).h (l.getD j gr0).m (ls.getD j []):=hI
 try dsimp only
 obtain ⟨hi,hall⟩:=hI
 refine zh<|zb<|r_pv rfl rfl (zfa rfl rfl)<|zj<|zd<|zh<|zG rfl (fun h1=> ?_) (fun h1=> ?_)
 ·
  refine zB<|zd<|zh<|zA<|zh<|zb<|zQ (x0:=(l.getD i gr0)) 0 i rfl Try.underlying56 sz24 rfl rfl rfl (by first|rfl|assumption|(simp_all;done)|omega) rfl rfl (gD (d:=gr0) (by omega)) (fun b2 o3 hok4=> ?_)
  obtain ⟨hok40,hok41,hok42⟩:=hok4
  replace hok40:=zV.1 hok40
  replace hok41:=zV.1 hok41
  replace hok42:=zV.1 hok42
  refine r_u rfl rfl (zxb (j:=0) 0 ty24 rfl rfl rfl (.take (.take (.take (.take .nil)))))<|zJ rfl rfl (zC zr24 rfl) (fun b5=> ?_)
  refine zm 0 rfl rfl rfl rfl rfl sz24 rfl (.take (.take (.take (.take .nil)))) .z<|zj<|zd<|zh<|zRb (slF (rI .i64) ((l.getD i gr0).p) ((l.getD i gr0).c) (ls.getD i [])) (gsF_get 2 rfl i (by omega))<|zb<|r_u rfl rfl (ze 0 ty24 rfl rfl (.take (.take (.take (.take .nil)))))<|zP rfl rfl (.c rfl .n) ce23 (zzd (w:=(l.getD i gr0).w) (h:=(l.getD i gr0).h) (m:=(l.getD i gr0).m) (p:=(l.getD i gr0).p) (n:=(l.getD i gr0).n) (cap:=(l.getD i gr0).c) (l:=(ls.getD i [])) (hn:=by first|rfl|assumption|exact hls i (by omega)|omega)) (.c (j:=0) rfl .n)<|r_pv rfl rfl (zc rfl)<|zj<|zd<|zh<|zb<|r_pv rfl rfl (za rfl)<|r_pv rfl rfl (zEa rfl rfl)<|zj<|zd<|zG rfl (fun hb=> ?_) (fun hb=> ?_)
  ·
   refine zh<|zb<|r_pv rfl rfl (za rfl)<|r_pv rfl rfl (zc rfl)<|zj<|zd<|zH<|zW<|zn<|zn<|zW<|zn ?_
   exact zy Try.results10 () trivial (zo rfl) (by rw [if_neg (fun k=>hb (if_pos k)),if_neg (fun k=>hb (if_pos (k i (by omega))))]) (ho:=(.n:PickO _ _ _)) (.n:SelR _ _ _)
  ·
   refine zB<|zU<|zd<|zb<|r_pv rfl rfl (zE (z:=(((i+1):Nat):Int)) rfl rfl (w64 (by omega)))<|r_pv rfl rfl (za rfl)<|zj<|zha (i+1) (show (i+1)≤n∧∀j,j<(i+1)→Bl.rok (l.getD j gr0).w (l.getD j gr0).h (l.getD j gr0).m (ls.getD j []) from by refine ⟨by omega,fun j hj=> ?_⟩;by_cases e:j=i;subst e;exact Bl.c0.1 (Decidable.not_not.1 hb);exact hall j (by omega)) (by show n - (i+1)<n - i;omega) ((.of rfl):SubM _ _) (ho:=(.n:PickO _ _ _)) ((.of [2,3] rfl):SelR _ _ _)
 ·
  refine zia<|zl<|zl<|zw<|zd<|zh<|zb<|r_pv rfl rfl (zc rfl)<|zj<|zd<|zH ?_
  exact zy Try.results10 () trivial (zo rfl) (by rw [if_pos (show (Cr.allok l ls n) from fun j hj=>hall j (by omega))]) (ho:=(.n:PickO _ _ _)) (.n:SelR _ _ _)
theorem zJc {wi1:Int} {hi1:Int} {m1:Int} {p1:Option Addr} {n1:Nat} {c1:Nat} {l1:List Int} {wi2:Int} {hi2:Int} {m2:Int} {p2:Option Addr} {n2:Nat} {c2:Nat} {l2:List Int} {ex:Int} {ey:Int} (hok:(Cr.rk2 wi1 hi1 m1 l1 wi2 hi2 m2 l2)):Con Try.prog 11 [.agg #[.int .i64 wi1,.int .i64 hi1,.int .i64 m1,.slice p1 n1 c1],.agg #[.int .i64 wi2,.int .i64 hi2,.int .i64 m2,.slice p2 n2 c2],.int .i64 ex,.int .i64 ey] [] [] (Y:=Unit) (fun y=>True) (fun y=> .bool (decide (Cr.pos wi1 hi1 wi2 hi2 ex ey))) (fun y=>[]) (fun y=>[]):=by
 refine zp Try.func11 rfl rfl rfl (fun c=> ?_)
 show RunC _ _ _ _ _ [(0,.agg #[.int .i64 wi1,.int .i64 hi1,.int .i64 m1,.slice p1 n1 c1]),(1,.agg #[.int .i64 wi2,.int .i64 hi2,.int .i64 m2,.slice p2 n2 c2]),(2,.int .i64 ex),(3,.int .i64 ey)] [] []
 obtain ⟨⟨hw1,hh1,_,_,_⟩,hw2,hh2,_,_,_⟩:=hok
 refine zh<|zb<|zJ rfl rfl (zT rfl rfl) (fun b1=> ?_)
 refine zJ rfl rfl (zT rfl rfl) (fun b2=> ?_)
 refine r_pv rfl rfl (zc rfl)<|zj<|zd<|zVa (X:=Unit) (fun x=>True) (fun x=>[(8,.bool (decide ((((0≤ex)∧(0≤ey))∧(ex≤(wi2 - wi1)))∧(ey≤(hi2 - hi1)))))]) (fun x=>[boxA b2 24 [.int .i64 wi2,.int .i64 hi2,.int .i64 m2,.slice p2 n2 c2],boxA b1 24 [.int .i64 wi1,.int .i64 hi1,.int .i64 m1,.slice p1 n1 c1]]) (fun x=>[]) ?_ ?_
 ·
  refine zb<|r_pv rfl rfl (za rfl)<|r_pv rfl rfl (zOa rfl rfl)<|zda rfl rfl (za rfl) (fun h3=> ?_) (fun h3=> ?_)
  ·
   refine r_pv rfl rfl (za rfl)<|r_pv rfl rfl (zOa rfl rfl)<|r_pv rfl rfl (zv rfl rfl)<|zda rfl rfl (za rfl) (fun h4=> ?_) (fun h4=> ?_)
   ·
    refine r_pv rfl rfl (za rfl)<|r_pv rfl rfl (zg Try.underlying24 rfl sz3 rfl rfl)<|r_u rfl rfl (zi 0 ty3 rfl rfl rfl)<|r_pv rfl rfl (zg Try.underlying24 rfl sz3 rfl rfl)<|r_u rfl rfl (zi 1 ty3 rfl rfl rfl)<|r_pv rfl rfl (zaa (z:=(wi2 - wi1)) rfl rfl (w64 (by omega)))<|r_pv rfl rfl (zub rfl rfl)<|r_pv rfl rfl (zv rfl rfl)<|zda rfl rfl (za rfl) (fun h5=> ?_) (fun h5=> ?_)
    ·
     refine r_pv rfl rfl (za rfl)<|r_pv rfl rfl (zg Try.underlying24 rfl sz3 rfl rfl)<|r_u rfl rfl (zi 0 ty3 rfl rfl rfl)<|r_pv rfl rfl (zg Try.underlying24 rfl sz3 rfl rfl)<|r_u rfl rfl (zi 1 ty3 rfl rfl rfl)<|r_pv rfl rfl (zaa (z:=(hi2 - hi1)) rfl rfl (w64 (by omega)))<|r_pv rfl rfl (zub rfl rfl)<|r_pv rfl rfl (zv rfl rfl)<|r_pv rfl rfl (zc rfl)<|zj ?_
     exact zma () (show True from by first|trivial|omega|simp_all) ((.e rfl (congrArg Value.bool (by first|(simp_all;done)|(simp_all;omega)|(simp;omega)|omega)) .n):SubM _ _) (ho:=((.of [0,0] rfl):PickO _ _ _)) (.n:SelR _ _ _)
    ·
     refine zf rfl rfl<|zf rfl rfl<|zf rfl rfl<|zf rfl rfl<|zf rfl rfl<|zf rfl rfl<|zf rfl rfl<|r_pv rfl rfl (zv rfl rfl)<|r_pv rfl rfl (zc rfl)<|zj ?_
     exact zma () (show True from by first|trivial|omega|simp_all) ((.e rfl (congrArg Value.bool (by first|(simp_all;done)|(simp_all;omega)|(simp;omega)|omega)) .n):SubM _ _) (ho:=((.of [0,0] rfl):PickO _ _ _)) (.n:SelR _ _ _)
   ·
    refine zf rfl rfl<|zf rfl rfl<|zf rfl rfl<|zf rfl rfl<|zf rfl rfl<|zf rfl rfl<|zf rfl rfl<|r_pv rfl rfl (zv rfl rfl)<|r_pv rfl rfl (za rfl)<|zf rfl rfl<|zf rfl rfl<|zf rfl rfl<|zf rfl rfl<|zf rfl rfl<|zf rfl rfl<|zf rfl rfl<|r_pv rfl rfl (zv rfl rfl)<|r_pv rfl rfl (zc rfl)<|zj ?_
    exact zma () (show True from by first|trivial|omega|simp_all) ((.e rfl (congrArg Value.bool (by first|(simp_all;done)|(simp_all;omega)|(simp;omega)|omega)) .n):SubM _ _) (ho:=((.of [0,0] rfl):PickO _ _ _)) (.n:SelR _ _ _)
  ·
   refine zf rfl rfl<|zf rfl rfl<|r_pv rfl rfl (zv rfl rfl)<|r_pv rfl rfl (za rfl)<|zf rfl rfl<|zf rfl rfl<|zf rfl rfl<|zf rfl rfl<|zf rfl rfl<|zf rfl rfl<|zf rfl rfl<|r_pv rfl rfl (zv rfl rfl)<|r_pv rfl rfl (za rfl)<|zf rfl rfl<|zf rfl rfl<|zf rfl rfl<|zf rfl rfl<|zf rfl rfl<|zf rfl rfl<|zf rfl rfl<|r_pv rfl rfl (zv rfl rfl)<|r_pv rfl rfl (zc rfl)<|zj ?_
   exact zma () (show True from by first|trivial|omega|simp_all) ((.e rfl (congrArg Value.bool (by first|(simp_all;done)|(simp_all;omega)|(simp;omega)|omega)) .n):SubM _ _) (ho:=((.of [0,0] rfl):PickO _ _ _)) (.n:SelR _ _ _)
 ·
  rintro ⟨⟩ -
  try dsimp only
  refine zH ?_
  exact zy Try.results11 () trivial (zo rfl) (congrArg Value.bool (decide_eq_decide.2 (by unfold Cr.pos;constructor <;> intro k <;> omega))) (ho:=(.n:PickO _ _ _)) (.n:SelR _ _ _)
end Go.Proofs.Ytkamccndgblheaa.Sp
namespace Go.Proofs.Ytkamccndgblheaa.Sp
open Go
set_option linter.unusedVariables false
set_option maxRecDepth 100000
set_option maxHeartbeats 1000000
theorem zPe:Con Try.prog 7 [] [] [] (Y:=Unit) (fun y=>True) (fun y=> .bool true) (fun y=>[]) (fun y=>[]):=by
 refine zp Try.func7 rfl rfl rfl (fun c=> ?_)
 show RunC _ _ _ _ _ [] [] []
 refine zh<|zb<|r_pv rfl rfl (zc rfl)<|zj<|zd<|zh<|zb<|zwa rfl rfl (zO (enc:=fun z:Int=>[.int .i64 z]) (ok:=InK .i64) (h1:=fun _=>rfl) (h2:=fun _=>rfl) (k:=2) Try.underlying22 inf3 rfl (by decide) (by decide) (by decide) (.c (x:=1) rfl rfl (fun _ _=>by exact zV.2 (by omega)) (.c (x:=3) rfl rfl (fun _ _=>by exact zV.2 (by omega)) .n))) (fun b1 _=> ?_)
 refine r_pv rfl rfl (zK zr24 rfl Try.underlying24 (.c sz3 (.c sz3 (.c sz3 (.c sz22 .n)))) (.c rfl (.c rfl (.c rfl (.c rfl .n)))) (.c rfl rfl rfl (.take .nil) (.c rfl rfl rfl (.skip (.take .nil)) (.c rfl rfl rfl (.skip (.skip (.take .nil))) (.c rfl rfl rfl (.skip (.skip (.skip (.take .nil)))) .n)))))<|zwa rfl rfl (zO (enc:=fun z:Int=>[.int .i64 z]) (ok:=InK .i64) (h1:=fun _=>rfl) (h2:=fun _=>rfl) (k:=3) Try.underlying22 inf3 rfl (by decide) (by decide) (by decide) (.c (x:=2) rfl rfl (fun _ _=>by exact zV.2 (by omega)) (.c (x:=4) rfl rfl (fun _ _=>by exact zV.2 (by omega)) (.c (x:=3) rfl rfl (fun _ _=>by exact zV.2 (by omega)) .n)))) (fun b2 _=> ?_)
 refine r_pv rfl rfl (zK zr24 rfl Try.underlying24 (.c sz3 (.c sz3 (.c sz3 (.c sz22 .n)))) (.c rfl (.c rfl (.c rfl (.c rfl .n)))) (.c rfl rfl rfl (.take .nil) (.c rfl rfl rfl (.skip (.take .nil)) (.c rfl rfl rfl (.skip (.skip (.take .nil))) (.c rfl rfl rfl (.skip (.skip (.skip (.take .nil)))) .n)))))<|zJ rfl rfl (zC zr24 rfl) (fun b3=> ?_)
 refine zJ rfl rfl (zC zr24 rfl) (fun b4=> ?_)
 refine zm 1 rfl rfl rfl rfl rfl sz24 rfl (.take (.take (.take (.take .nil)))) (.s .z)<|zm 0 rfl rfl rfl rfl rfl sz24 rfl (.take (.take (.take (.take .nil)))) .z<|zj<|zd<|zh<|zb<|r_u rfl rfl (ze 1 ty24 rfl rfl (.take (.take (.take (.take .nil)))))<|r_u rfl rfl (ze 0 ty24 rfl rfl (.take (.take (.take (.take .nil)))))<|zga 3 rfl (.s (.s (.s .z)))<|zga 2 rfl (.s (.s .z))<|zx rfl rfl (.c rfl (.c rfl (.c rfl (.c rfl .n)))) ce12 (zpc (wi1:=2) (hi1:=1) (m1:=9) (p1:=some ⟨b1,0,none⟩) (n1:=2) (c1:=2) (l1:=[1,3]) (wi2:=3) (hi2:=1) (m2:=9) (p2:=some ⟨b2,0,none⟩) (n2:=3) (c2:=3) (l2:=[2,4,3]) (ex:=1) (ey:=0) (hn1:=by first|rfl|assumption|omega|decide|(decide +kernel)) (hn2:=by first|rfl|assumption|omega|decide|(decide +kernel))) (.c (j:=1) rfl (.c (j:=0) rfl .n)) ?_
 rintro ⟨w35,w46⟩ hy7
 dsimp only [List.append_eq,List.nil_append,List.cons_append]
 replace hy7:(Cr.sok 2 1 9 ([1,3]) 3 1 9 ([2,4,3]) 1 0)∨(w35=wz∧w46=wz):=hy7
 have e8:((if (Cr.rk2 2 1 9 ([1,3]) 3 1 9 ([2,4,3])) then (if (Cr.pos 2 1 3 1 1 0) then 0 else 15) else 1):Int)=0:=by decide +kernel
 rw [e8]
 have e9:((if (Cr.sok 2 1 9 ([1,3]) 3 1 9 ([2,4,3]) 1 0) then (Cr.scq ([1,3]) ([2,4,3]) 2 1 3 1 0) else 0):Rat)=((-1:Int):Rat):=by decide +kernel
 rw [e9]
 have e10:(decide (Cr.sok 2 1 9 ([1,3]) 3 1 9 ([2,4,3]) 1 0))=true:=by decide +kernel
 rw [e10]
 refine r_pv rfl rfl (za rfl)<|r_pv rfl rfl (zq rfl rfl)<|r_pv rfl rfl (zq rfl rfl)<|zJ rfl rfl (zC zr40 rfl) (fun b11=> ?_)
 refine zm 0 rfl rfl rfl rfl rfl sz40 rfl (.take (.take (.take (.take .nil)))) .z<|r_pv rfl rfl (zc rfl)<|zj<|zd<|zh<|zb<|r_u rfl rfl (ze 2 ty24 rfl rfl (.take (.take (.take (.take .nil)))))<|r_u rfl rfl (ze 1 ty24 rfl rfl (.take (.take (.take (.take .nil)))))<|zx rfl rfl (.c rfl (.c rfl .n)) ce16 (zef (wi1:=2) (hi1:=1) (m1:=9) (p1:=some ⟨b1,0,none⟩) (n1:=2) (c1:=2) (l1:=[1,3]) (wi2:=3) (hi2:=1) (m2:=9) (p2:=some ⟨b2,0,none⟩) (n2:=3) (c2:=3) (l2:=[2,4,3]) (hn1:=by first|rfl|assumption|omega|decide|(decide +kernel)) (hn2:=by first|rfl|assumption|omega|decide|(decide +kernel))) (.c (j:=2) rfl (.c (j:=1) rfl .n)) ?_
 rintro ⟨w312,w413⟩ hy14
 dsimp only [List.append_eq,List.nil_append,List.cons_append]
 replace hy14:((if (Cr.rk2 2 1 9 ([1,3]) 3 1 9 ([2,4,3])) then Cr.best ([1,3]) ([2,4,3]) 2 1 3 1 else none).isSome=false→w312=wz∧w413=wz)∧Big.hq (Cr.pQ (if (Cr.rk2 2 1 9 ([1,3]) 3 1 9 ([2,4,3])) then Cr.best ([1,3]) ([2,4,3]) 2 1 3 1 else none))≤6:=hy14
 have e15:((if (Cr.rk2 2 1 9 ([1,3]) 3 1 9 ([2,4,3])) then (if (if (Cr.rk2 2 1 9 ([1,3]) 3 1 9 ([2,4,3])) then Cr.best ([1,3]) ([2,4,3]) 2 1 3 1 else none).isSome then 0 else 6) else 1):Int)=0:=by decide +kernel
 rw [e15]
 have e16:((Cr.pX (if (Cr.rk2 2 1 9 ([1,3]) 3 1 9 ([2,4,3])) then Cr.best ([1,3]) ([2,4,3]) 2 1 3 1 else none)):Int)=0:=by decide +kernel
 rw [e16]
 have e17:((Cr.pY (if (Cr.rk2 2 1 9 ([1,3]) 3 1 9 ([2,4,3])) then Cr.best ([1,3]) ([2,4,3]) 2 1 3 1 else none)):Int)=0:=by decide +kernel
 rw [e17]
 have e18:((Cr.pQ (if (Cr.rk2 2 1 9 ([1,3]) 3 1 9 ([2,4,3])) then Cr.best ([1,3]) ([2,4,3]) 2 1 3 1 else none)):Rat)=((1:Int):Rat):=by decide +kernel
 rw [e18]
 have e19:(if (Cr.rk2 2 1 9 ([1,3]) 3 1 9 ([2,4,3])) then Cr.best ([1,3]) ([2,4,3]) 2 1 3 1 else none).isSome=true:=by decide +kernel
 rw [e19]
 refine r_pv rfl rfl (za rfl)<|r_pv rfl rfl (zq rfl rfl)<|r_pv rfl rfl (zq rfl rfl)<|r_pv rfl rfl (zq rfl rfl)<|r_pv rfl rfl (zq rfl rfl)<|zJ rfl rfl (zC zr40 rfl) (fun b20=> ?_)
 refine r_pv rfl rfl (zc rfl)<|r_pv rfl rfl (zc rfl)<|zm 0 rfl rfl rfl rfl rfl sz40 rfl (.take (.take (.take (.take .nil)))) .z<|r_pv rfl rfl (zc rfl)<|zj<|zd<|zh<|zb<|r_u rfl rfl (ze 2 ty24 rfl rfl (.take (.take (.take (.take .nil)))))<|zx rfl rfl (.c rfl .n) ce9 (zGd (wi1:=3) (hi1:=1) (m1:=9) (p1:=some ⟨b2,0,none⟩) (n1:=3) (c1:=3) (l1:=[2,4,3]) (hn1:=by first|rfl|assumption|omega|decide|(decide +kernel))) (.c (j:=2) rfl .n) ?_
 rintro ⟨p321,kq,c322,rq⟩ hsq
 dsimp only [List.append_eq,List.nil_append,List.cons_append]
 replace hsq:rq.length=kq∧(rq=if Bl.rok 3 1 9 ([2,4,3]) then Cr.tab (Cr.sq ([2,4,3])) (Int.toNat 3) (Int.toNat 1+1) else []):=hsq
 have e23:((if Bl.rok 3 1 9 ([2,4,3]) then 0 else 1):Int)=0:=by decide +kernel
 rw [e23]
 have e24:Cr.exT=rq:=by rw [hsq.2];decide +kernel
 subst e24
 have e25:2=kq:=by exact hsq.1
 subst e25
 refine r_pv rfl rfl (za rfl)<|r_pv rfl rfl (zq rfl rfl)<|r_pv rfl rfl (zq rfl rfl)<|r_pv rfl rfl (zc rfl)<|r_pv rfl rfl (zc rfl)<|zj<|zd<|zh<|zba (OW:=[]) (O:=[boxA b20 40 [w312.b,w312.l,w413.b,w413.l],boxA b11 40 [w35.b,w35.l,w46.b,w46.l],boxA b4 24 [.int .i64 3,.int .i64 1,.int .i64 9,.slice (some ⟨b2,0,none⟩) 3 3],boxA b3 24 [.int .i64 2,.int .i64 1,.int .i64 9,.slice (some ⟨b1,0,none⟩) 2 2],emA,emA]) 100000 mixed (.then .ret) (by kernel_rfl)<|d_pv 0 rfl rfl (by kernel_rfl) (by kernel_rfl) rfl rfl (za rfl)<|d_pv 1 rfl rfl (by kernel_rfl) (by kernel_rfl) rfl rfl (zya rfl rfl) ?_
 rw [show true=true from by decide]
 refine d_pv 2 rfl rfl (by kernel_rfl) (by kernel_rfl) rfl rfl (za rfl)<|d_pv 3 rfl rfl (by kernel_rfl) (by kernel_rfl) rfl rfl (za rfl)<|d_pv 4 rfl rfl (by kernel_rfl) (by kernel_rfl) rfl rfl (zya rfl rfl)<|d_pv 5 rfl rfl (by kernel_rfl) (by kernel_rfl) rfl rfl (zv rfl rfl) ?_
 rw [show true=true from by decide]
 refine d_pv 6 rfl rfl (by kernel_rfl) (by kernel_rfl) rfl rfl (za rfl)<|d_pv 7 rfl rfl (by kernel_rfl) (by kernel_rfl) rfl rfl (za rfl)<|d_pv 8 rfl rfl (by kernel_rfl) (by kernel_rfl) rfl rfl (zya rfl rfl)<|d_pv 9 rfl rfl (by kernel_rfl) (by kernel_rfl) rfl rfl (zv rfl rfl) ?_
 rw [show true=true from by decide]
 refine d_pv 10 rfl rfl (by kernel_rfl) (by kernel_rfl) rfl rfl (za rfl)<|d_pv 11 rfl rfl (by kernel_rfl) (by kernel_rfl) rfl rfl (za rfl)<|d_pv 12 rfl rfl (by kernel_rfl) (by kernel_rfl) rfl rfl (zya rfl rfl)<|d_pv 13 rfl rfl (by kernel_rfl) (by kernel_rfl) rfl rfl (zv rfl rfl) ?_
 rw [show true=true from by decide]
 refine d_pv 14 rfl rfl (by kernel_rfl) (by kernel_rfl) rfl rfl (za rfl)<|d_pv 15 rfl rfl (by kernel_rfl) (by kernel_rfl) rfl rfl (za rfl)<|d_pv 16 rfl rfl (by kernel_rfl) (by kernel_rfl) rfl rfl (zya rfl rfl)<|d_pv 17 rfl rfl (by kernel_rfl) (by kernel_rfl) rfl rfl (zv rfl rfl) ?_
 rw [show true=true from by decide]
 refine d_pv 18 rfl rfl (by kernel_rfl) (by kernel_rfl) rfl rfl (za rfl)<|d_u 19 rfl rfl (by kernel_rfl) (by kernel_rfl) rfl rfl (ze 1 ty40 rfl rfl (.take (.take (.take (.take .nil)))))<|zI 20 (by kernel_rfl) (zD rfl rfl rfl rfl (.c rfl .n) ce17 (zPb (z:=(-1)) (hz:=by first|rfl|assumption|omega|decide|(decide +kernel))) (.n) ?_)
 rintro ⟨w326,w427⟩ -
 dsimp only [List.append_eq,List.nil_append,List.cons_append]
 refine zI 21 (by kernel_rfl) (zeb rfl rfl rfl rfl (.c rfl (.c rfl .n)) ce14 (ztb (u1:=w35) (v1:=w46) (q1:=((-1:Int):Rat)) (u2:=w326) (v2:=w427) (q2:=(((-1):Int):Rat)) (hl:=by first|rfl|assumption|omega|decide|(decide +kernel))) (.c (j:=3) rfl (.c (j:=0) rfl .n)) ?_)
 refine d_pv 22 rfl rfl (by kernel_rfl) (by kernel_rfl) rfl rfl (zv rfl rfl) ?_
 rw [show (decide (((-1:Int):Rat)=(((-1):Int):Rat)))=true from by decide +kernel]
 refine d_pv 23 rfl rfl (by kernel_rfl) (by kernel_rfl) rfl rfl (za rfl)<|d_u 24 rfl rfl (by kernel_rfl) (by kernel_rfl) rfl rfl (ze 0 ty40 rfl rfl (.take (.take (.take (.take .nil)))))<|zI 25 (by kernel_rfl) (zD rfl rfl rfl rfl (.c rfl .n) ce17 (zPb (z:=1) (hz:=by first|rfl|assumption|omega|decide|(decide +kernel))) (.n) ?_)
 rintro ⟨w328,w429⟩ -
 dsimp only [List.append_eq,List.nil_append,List.cons_append]
 refine zI 26 (by kernel_rfl) (zeb rfl rfl rfl rfl (.c rfl (.c rfl .n)) ce14 (ztb (u1:=w312) (v1:=w413) (q1:=((1:Int):Rat)) (u2:=w328) (v2:=w429) (q2:=((1:Int):Rat)) (hl:=by first|rfl|assumption|omega|decide|(decide +kernel))) (.c (j:=3) rfl (.c (j:=0) rfl .n)) ?_)
 refine d_pv 27 rfl rfl (by kernel_rfl) (by kernel_rfl) rfl rfl (zv rfl rfl) ?_
 rw [show (decide (((1:Int):Rat)=((1:Int):Rat)))=true from by decide +kernel]
 refine d_pv 28 rfl rfl (by kernel_rfl) (by kernel_rfl) rfl rfl (za rfl)<|d_pv 29 rfl rfl (by kernel_rfl) (by kernel_rfl) rfl rfl (za rfl)<|d_pv 30 rfl rfl (by kernel_rfl) (by kernel_rfl) rfl rfl (zN Try.underlying27 rfl)<|d_pv 31 rfl rfl (by kernel_rfl) (by kernel_rfl) rfl rfl (zya rfl rfl)<|d_pv 32 rfl rfl (by kernel_rfl) (by kernel_rfl) rfl rfl (zv rfl rfl) ?_
 rw [show (decide (((2:Nat):Int)=2))=true from by decide]
 refine d_pv 33 rfl rfl (by kernel_rfl) (by kernel_rfl) rfl rfl (za rfl)<|d_pv 34 rfl rfl (by kernel_rfl) (by kernel_rfl) rfl rfl (za rfl)<|d_vl 35 rfl rfl (by kernel_rfl) (by kernel_rfl) rfl rfl (zib (x0:=(Cr.exT.getD 1 [])) 2 1 rfl Try.underlying27 sz22 rfl (by first|rfl|assumption|(simp_all;done)|omega) rfl rfl (gD (d:=[]) (by first|omega|decide))) ?_
 rintro ⟨b30,o31,p32,c33⟩ -
 dsimp only [List.append_eq,List.nil_append,List.cons_append]
 refine d_u 36 rfl rfl (by kernel_rfl) (by kernel_rfl) rfl rfl (zk (j:=0) 0 ty22 rfl rfl rfl rfl)<|zI 37 (by kernel_rfl) (zlf rfl rfl rfl rfl (zO (enc:=fun z:Int=>[.int .i64 z]) (ok:=InK .i64) (h1:=fun _=>rfl) (h2:=fun _=>rfl) (k:=4) Try.underlying22 inf3 rfl (by decide) (by decide) (by decide) (.c (x:=0) rfl rfl (fun _ _=>by exact zV.2 (by omega)) (.c (x:=4) rfl rfl (fun _ _=>by exact zV.2 (by omega)) (.c (x:=20) rfl rfl (fun _ _=>by exact zV.2 (by omega)) (.c (x:=29) rfl rfl (fun _ _=>by exact zV.2 (by omega)) .n))))) (fun b34 _=> ?_))
 refine zKd 0 rfl .z<|zI 38 (by kernel_rfl) (zeb rfl rfl rfl rfl (.c rfl (.c rfl .n)) ce20 (zye (p1:=p32) (n1:=(Cr.exT.getD 1 []).length) (c1:=c33) (l1:=(Cr.exT.getD 1 [])) (p2:=some ⟨b34,0,none⟩) (n2:=4) (c2:=4) (l2:=[0,4,20,29]) (hn1:=by first|rfl|assumption|omega|decide|(decide +kernel)) (hn2:=by first|rfl|assumption|omega|decide|(decide +kernel))) (.c (j:=2) rfl (.c (j:=0) rfl .n)) ?_)
 refine d_pv 39 rfl rfl (by kernel_rfl) (by kernel_rfl) rfl rfl (zv rfl rfl) ?_
 rw [show (decide ((Cr.exT.getD 1 [])=([0,4,20,29])))=true from by decide +kernel]
 refine d_pv 40 rfl rfl (by kernel_rfl) (by kernel_rfl) rfl rfl (zc rfl)<|zY (by kernel_rfl)<|zd<|zH ?_
 exact zy Try.results7 () trivial (zo rfl) rfl (ho:=(.n:PickO _ _ _)) (.n:SelR _ _ _)
end Go.Proofs.Ytkamccndgblheaa.Sp
namespace Go.Proofs.Ytkamccndgblheaa.Sp
open Go
set_option linter.unusedVariables false
set_option maxRecDepth 100000
set_option maxHeartbeats 1000000
theorem zBb {wi1:Int} {hi1:Int} {m1:Int} {p1:Option Addr} {n1:Nat} {c1:Nat} {l1:List Int} {wi2:Int} {hi2:Int} {m2:Int} {p2:Option Addr} {n2:Nat} {c2:Nat} {l2:List Int} {xa:Int} {xb:Int} {xc:Int} {xd:Int} (hn1:l1.length=n1) (hn2:l2.length=n2) (hbw1: -9223372036854775808≤wi1∧wi1≤9223372036854775807) (hbh1: -9223372036854775808≤hi1∧hi1≤9223372036854775807) (hbm1: -9223372036854775808≤m1∧m1≤9223372036854775807) (hbw2: -9223372036854775808≤wi2∧wi2≤9223372036854775807) (hbh2: -9223372036854775808≤hi2∧hi2≤9223372036854775807) (hbm2: -9223372036854775808≤m2∧m2≤9223372036854775807) (hxa: -32768≤xa∧xa≤32767) (hxb: -32768≤xb∧xb≤32767) (hxc: -32768≤xc∧xc≤32767) (hxd: -32768≤xd∧xd≤32767):Con Try.prog 4 [.agg #[.int .i64 wi1,.int .i64 hi1,.int .i64 m1,.slice p1 n1 c1],.agg #[.int .i64 wi2,.int .i64 hi2,.int .i64 m2,.slice p2 n2 c2],.agg #[.int .i16 xa,.int .i16 xb,.int .i16 xc,.int .i16 xd]] [] [slF (rI .i64) p1 c1 l1,slF (rI .i64) p2 c2 l2] (Y:=Unit) (fun y=>True) (fun y=> .bool true) (fun y=>[]) (fun y=>[]):=by
 refine zp Try.func4 rfl rfl rfl (fun c=> ?_)
 show RunC _ _ _ _ _ [(0,.agg #[.int .i64 wi1,.int .i64 hi1,.int .i64 m1,.slice p1 n1 c1]),(1,.agg #[.int .i64 wi2,.int .i64 hi2,.int .i64 m2,.slice p2 n2 c2]),(2,.agg #[.int .i16 xa,.int .i16 xb,.int .i16 xc,.int .i16 xd])] [] [slF (rI .i64) p1 c1 l1,slF (rI .i64) p2 c2 l2]
 refine zX 0 rfl (fun hL0=> ?_)
 refine zX 1 rfl (fun hL1=> ?_)
 refine zh<|zb<|zJ rfl rfl (zT rfl rfl) (fun b1=> ?_)
 refine zJ rfl rfl (zT rfl rfl) (fun b2=> ?_)
 refine zJ rfl rfl (zT rfl rfl) (fun b3=> ?_)
 refine r_pv rfl rfl (zc rfl)<|zj<|zd<|zh<|zh<|zb<|zP rfl rfl (.n) ce7 (zPe) (.n)<|r_pv rfl rfl (zvb rfl)<|zj<|zd<|zXa rfl rfl<|zB<|zd<|zh<|zba (OW:=[]) (O:=[boxA b3 34 [.int .i16 xa,.int .i16 xb,.int .i16 xc,.int .i16 xd],boxA b2 24 [.int .i64 wi2,.int .i64 hi2,.int .i64 m2,.slice p2 n2 c2],boxA b1 24 [.int .i64 wi1,.int .i64 hi1,.int .i64 m1,.slice p1 n1 c1]]) 100000 mixed (.then .ret) (by kernel_rfl)<|d_pv 0 rfl rfl (by kernel_rfl) (by kernel_rfl) rfl rfl (zna (i:=2) Try.underlying34 sz33 rfl rfl (by decide) rfl)<|d_u 1 rfl rfl (by kernel_rfl) (by kernel_rfl) rfl rfl (zi 0 ty33 rfl rfl rfl)<|d_pv 2 rfl rfl (by kernel_rfl) (by kernel_rfl) rfl rfl (zr (z:=xc) rfl (by rw [Try.underlying33];rfl) Try.underlying3 (w64 (by omega)))<|d_pv 3 rfl rfl (by kernel_rfl) (by kernel_rfl) rfl rfl (zNa (z:=(xc).tmod 20) rfl rfl (by omega) rfl)<|d_pv 4 rfl rfl (by kernel_rfl) (by kernel_rfl) rfl rfl (zna (i:=3) Try.underlying34 sz33 rfl rfl (by decide) rfl)<|d_u 5 rfl rfl (by kernel_rfl) (by kernel_rfl) rfl rfl (zi 0 ty33 rfl rfl rfl)<|d_pv 6 rfl rfl (by kernel_rfl) (by kernel_rfl) rfl rfl (zr (z:=xd) rfl (by rw [Try.underlying33];rfl) Try.underlying3 (w64 (by omega)))<|d_pv 7 rfl rfl (by kernel_rfl) (by kernel_rfl) rfl rfl (zc rfl)<|d_pv 8 rfl rfl (by kernel_rfl) (by kernel_rfl) rfl rfl (zc rfl)<|zY (by kernel_rfl)<|zd<|zh<|zh ?_
 obtain ⟨pp,hpp⟩:∃z,z=(xc).tmod 20:=⟨_,rfl⟩
 rw [← hpp]
 have hpb: -19≤pp∧pp≤19:=by rw [hpp];exact Cr.tmod20 xc
 refine zRb (gsF [(⟨wi1,hi1,m1,p1,n1,c1⟩:Gr),(⟨wi2,hi2,m2,p2,n2,c2⟩:Gr)] [l1,l2]) (gsF_2 0 1 rfl rfl)<|zb<|r_u rfl rfl (ze 2 ty24 rfl rfl (.take (.take (.take (.take .nil)))))<|r_u rfl rfl (ze 1 ty24 rfl rfl (.take (.take (.take (.take .nil)))))<|zwa rfl rfl (zO (enc:=fun z:Gr=>[.int .i64 z.w,.int .i64 z.h,.int .i64 z.m,.slice z.p z.n z.c]) (ok:=okG) (h1:=fun _=>rfl) (h2:=fun _=>rfl) (k:=2) Try.underlying56 inf24 rfl (by decide) (by decide) (by decide) (.c (x:=(⟨wi1,hi1,m1,p1,n1,c1⟩:Gr)) rfl rfl (fun _ _=>by exact ⟨zV.2 (by first|omega|decide|(dsimp only;omega)),zV.2 (by first|omega|decide|(dsimp only;omega)),zV.2 (by first|omega|decide|(dsimp only;omega))⟩) (.c (x:=(⟨wi2,hi2,m2,p2,n2,c2⟩:Gr)) rfl rfl (fun _ _=>by exact ⟨zV.2 (by first|omega|decide|(dsimp only;omega)),zV.2 (by first|omega|decide|(dsimp only;omega)),zV.2 (by first|omega|decide|(dsimp only;omega))⟩) .n))) (fun b4 _=> ?_)
 refine zga 0 rfl .z<|zP rfl rfl (.c rfl .n) ce8 (zwf (p:=some ⟨b4,0,none⟩) (n:=2) (cap:=2) (l:=[(⟨wi1,hi1,m1,p1,n1,c1⟩:Gr),(⟨wi2,hi2,m2,p2,n2,c2⟩:Gr)]) (hn:=by first|rfl|assumption|omega)) (.c (j:=0) rfl .n)<|r_pv rfl rfl (zZa rfl)<|zda rfl rfl (za rfl) (fun hf=> ?_) (fun hf=> ?_)
 ·
  refine zf rfl rfl<|zf rfl rfl<|zf rfl rfl<|zf rfl rfl<|zf rfl rfl<|r_pv rfl rfl (zv rfl rfl)<|r_pv rfl rfl (za rfl)<|zf rfl rfl<|zf rfl rfl<|zf rfl rfl<|zf rfl rfl<|zf rfl rfl<|zf rfl rfl<|zf rfl rfl<|zf rfl rfl<|zf rfl rfl<|zf rfl rfl<|r_pv rfl rfl (zv rfl rfl)<|r_pv rfl rfl (za rfl)<|zf rfl rfl<|zf rfl rfl<|r_pv rfl rfl (zv rfl rfl)<|zj<|zd<|zVb rfl rfl<|zh<|zb<|r_pv rfl rfl (zc rfl)<|zj<|zd<|zH<|zn ?_
  exact zy Try.results4 () trivial (zo rfl) rfl (ho:=(.n:PickO _ _ _)) (.n:SelR _ _ _)
 ·
  refine r_u rfl rfl (ze 3 ty24 rfl rfl (.take (.take (.take (.take .nil)))))<|r_u rfl rfl (ze 2 ty24 rfl rfl (.take (.take (.take (.take .nil)))))<|zwa rfl rfl (zO (enc:=fun z:Gr=>[.int .i64 z.w,.int .i64 z.h,.int .i64 z.m,.slice z.p z.n z.c]) (ok:=okG) (h1:=fun _=>rfl) (h2:=fun _=>rfl) (k:=2) Try.underlying56 inf24 rfl (by decide) (by decide) (by decide) (.c (x:=(⟨wi1,hi1,m1,p1,n1,c1⟩:Gr)) rfl rfl (fun _ _=>by exact ⟨zV.2 (by first|omega|decide|(dsimp only;omega)),zV.2 (by first|omega|decide|(dsimp only;omega)),zV.2 (by first|omega|decide|(dsimp only;omega))⟩) (.c (x:=(⟨wi2,hi2,m2,p2,n2,c2⟩:Gr)) rfl rfl (fun _ _=>by exact ⟨zV.2 (by first|omega|decide|(dsimp only;omega)),zV.2 (by first|omega|decide|(dsimp only;omega)),zV.2 (by first|omega|decide|(dsimp only;omega))⟩) .n))) (fun b5 _=> ?_)
  refine zga 0 rfl .z<|zP rfl rfl (.c rfl .n) ce10 (zod (p:=some ⟨b5,0,none⟩) (n:=2) (cap:=2) (l:=[(⟨wi1,hi1,m1,p1,n1,c1⟩:Gr),(⟨wi2,hi2,m2,p2,n2,c2⟩:Gr)]) (ls:=[l1,l2]) (hn:=by first|rfl|assumption|omega) (hls:=by intro i hi;rcases (show i=0∨i=1 by omega) with rfl|rfl;exact hn1;exact hn2)) (.c (j:=0) rfl (.c (j:=2) rfl .n)) ?_
  have e6:((if (Cr.allok ([(⟨wi1,hi1,m1,p1,n1,c1⟩:Gr),(⟨wi2,hi2,m2,p2,n2,c2⟩:Gr)]) ([l1,l2]) 2) then 0 else 1):Int)=(if (Cr.rk2 wi1 hi1 m1 l1 wi2 hi2 m2 l2) then 0 else 1):=by exact Cr.chk2
  rw [e6]
  refine r_pv rfl rfl (zEa rfl rfl)<|r_pv rfl rfl (zv rfl rfl)<|zda rfl rfl (za rfl) (fun hk=> ?_) (fun hk=> ?_)
  ·
   refine zf rfl rfl<|zf rfl rfl<|zf rfl rfl<|zf rfl rfl<|zf rfl rfl<|zf rfl rfl<|zf rfl rfl<|zf rfl rfl<|zf rfl rfl<|zf rfl rfl<|r_pv rfl rfl (zv rfl rfl)<|r_pv rfl rfl (za rfl)<|zf rfl rfl<|zf rfl rfl<|r_pv rfl rfl (zv rfl rfl)<|zj<|zd<|zVb rfl rfl<|zh<|zb<|r_pv rfl rfl (zc rfl)<|zj<|zd<|zH<|zn ?_
   exact zy Try.results4 () trivial (zo rfl) rfl (ho:=(.n:PickO _ _ _)) (.n:SelR _ _ _)
  ·
   have hok:(Cr.rk2 wi1 hi1 m1 l1 wi2 hi2 m2 l2):=Bl.c0.1 (Decidable.not_not.1 hk)
   refine r_u rfl rfl (ze 4 ty24 rfl rfl (.take (.take (.take (.take .nil)))))<|r_u rfl rfl (ze 3 ty24 rfl rfl (.take (.take (.take (.take .nil)))))<|r_pv rfl rfl (zna (i:=0) Try.underlying34 sz33 rfl rfl (by decide) rfl)<|r_u rfl rfl (zi 2 ty33 rfl rfl rfl)<|r_pv rfl rfl (zr (z:=xa) rfl (by rw [Try.underlying33];rfl) Try.underlying3 (w64 (by omega)))<|r_pv rfl rfl (zna (i:=1) Try.underlying34 sz33 rfl rfl (by decide) rfl)<|r_u rfl rfl (zi 2 ty33 rfl rfl rfl)<|r_pv rfl rfl (zr (z:=xb) rfl (by rw [Try.underlying33];rfl) Try.underlying3 (w64 (by omega)))<|zP rfl rfl (.c rfl (.c rfl (.c rfl (.c rfl .n)))) ce11 (zJc (wi1:=wi1) (hi1:=hi1) (m1:=m1) (p1:=p1) (n1:=n1) (c1:=c1) (l1:=l1) (wi2:=wi2) (hi2:=hi2) (m2:=m2) (p2:=p2) (n2:=n2) (c2:=c2) (l2:=l2) (ex:=xa) (ey:=xb) (hok:=by first|rfl|assumption|omega)) (.n)<|r_pv rfl rfl (zZa rfl)<|r_pv rfl rfl (zv rfl rfl)<|zda rfl rfl (za rfl) (fun hp=> ?_) (fun hp=> ?_)
   ·
    refine zf rfl rfl<|zf rfl rfl<|r_pv rfl rfl (zv rfl rfl)<|zj<|zd<|zVb rfl rfl<|zh<|zb<|r_pv rfl rfl (zc rfl)<|zj<|zd<|zH<|zn ?_
    exact zy Try.results4 () trivial (zo rfl) rfl (ho:=(.n:PickO _ _ _)) (.n:SelR _ _ _)
   ·
    refine r_pv rfl rfl (za rfl)<|r_pv rfl rfl (zya rfl rfl)<|r_pv rfl rfl (zv rfl rfl)<|zj<|zd<|zG rfl (fun hz=> ?_) (fun hz=> ?_)
    ·
     refine zh<|zb<|r_pv rfl rfl (zc rfl)<|zj<|zd<|zH<|zn ?_
     exact zy Try.results4 () trivial (zo rfl) rfl (ho:=(.n:PickO _ _ _)) (.n:SelR _ _ _)
    ·
     have hp9:(Cr.pos wi1 hi1 wi2 hi2 xa xb):=Decidable.not_not.1 hp
     obtain ⟨w1,vh1,rfl,rfl,hw1,hh1,hwh1,hb1,hg1⟩:=Cr.rokN (hok.1) hn1
     obtain ⟨w2,vh2,rfl,rfl,hw2,hh2,hwh2,hb2,hg2⟩:=Cr.rokN (hok.2) hn2
     obtain ⟨xx,e7⟩:∃q:Nat,xa=(q:Int):=⟨xa.toNat,by have:=hp9.1;omega⟩
     subst e7
     obtain ⟨yy,e8⟩:∃q:Nat,xb=(q:Int):=⟨xb.toNat,by have:=hp9.2.1;omega⟩
     subst e8
     have hx:xx+w1≤w2:=by have:=hp9.2.2.1;omega
     have hy:yy+vh1≤vh2:=by have:=hp9.2.2.2;omega
     have hg9:(Cr.sok ((w1:Nat):Int) ((vh1:Nat):Int) m1 l1 ((w2:Nat):Int) ((vh2:Nat):Int) m2 l2 ((xx:Nat):Int) ((yy:Nat):Int)):=⟨hok,hp9⟩
     have hq6:Big.hq (Cr.scq l1 l2 ((w1:Nat):Int) ((vh1:Nat):Int) ((w2:Nat):Int) ((xx:Nat):Int) ((yy:Nat):Int))≤6:=by rw [← Cr.scq_nat hn1];exact Cr.scr_hq hg1 hg2 hw1 hh1 hwh1 hwh2 hb1 hx hy
     refine zB<|zd<|zh<|zb<|r_u rfl rfl (ze 3 ty24 rfl rfl (.take (.take (.take (.take .nil)))))<|zJ rfl rfl (zC zr24 rfl) (fun b9=> ?_)
     refine zm 0 rfl rfl rfl rfl rfl sz24 rfl (.take (.take (.take (.take .nil)))) .z<|zj<|zd<|zh<|zb<|r_pv rfl rfl (zg Try.underlying24 rfl sz3 rfl rfl)<|zm 0 rfl rfl rfl rfl rfl sz3 rfl (.skip (.skip (.take .nil))) .z<|zj<|zd<|zh<|zb<|r_pv rfl rfl (zg Try.underlying24 rfl sz22 rfl rfl)<|zm 0 rfl rfl rfl rfl rfl sz22 rfl (.skip (.skip (.skip (.take .nil)))) .z<|zj<|zd<|zh<|zh<|zLd 3 (rI .i64)<|zb<|r_pv rfl rfl (zg Try.underlying24 rfl sz22 rfl rfl)<|r_u rfl rfl (zi 5 ty22 rfl rfl rfl)<|r_pv rfl rfl (zN Try.underlying22 rfl)<|r_pv rfl rfl (za rfl)<|zj<|zd<|zA<|zja (X:=Nat×(Option Addr)×Nat) (fun x:Nat×(Option Addr)×Nat=>x.1≤n2∧∀j,j<x.1→0≤pp*l2.getD j 0+xd∧pp*l2.getD j 0+xd≤65535) (fun x=>[(59,.int .i64 ((x.1:Nat):Int)),(58,.int .i64 ((n2:Nat):Int)),(57,.slice p2 n2 c2),(9,.pointer (some ⟨b9,0,none⟩)),(8,.int .i64 xd),(7,.int .i64 pp),(5,.pointer (some ⟨b3,0,none⟩)),(4,.pointer (some ⟨b2,0,none⟩)),(3,.pointer (some ⟨b1,0,none⟩))]) (fun x=>[rowA 3 (rI .i64) (x.2.1) (x.2.2) (Cr.scL pp xd l2 x.1),boxA b9 24 [.int .i64 ((w2:Nat):Int),.int .i64 ((vh2:Nat):Int),.int .i64 65535,.slice (x.2.1) (x.1) (x.2.2)],boxA b3 34 [.int .i16 ((xx:Nat):Int),.int .i16 ((yy:Nat):Int),.int .i16 xc,.int .i16 xd],boxA b2 24 [.int .i64 ((w2:Nat):Int),.int .i64 ((vh2:Nat):Int),.int .i64 m2,.slice p2 n2 c2],boxA b1 24 [.int .i64 ((w1:Nat):Int),.int .i64 ((vh1:Nat):Int),.int .i64 m1,.slice p1 n1 c1]]) (fun x=>[slF rG (some ⟨b5,0,none⟩) 2 ([(⟨((w1:Nat):Int),((vh1:Nat):Int),m1,p1,n1,c1⟩:Gr),(⟨((w2:Nat):Int),((vh2:Nat):Int),m2,p2,n2,c2⟩:Gr)]),slF rG (some ⟨b4,0,none⟩) 2 ([(⟨((w1:Nat):Int),((vh1:Nat):Int),m1,p1,n1,c1⟩:Gr),(⟨((w2:Nat):Int),((vh2:Nat):Int),m2,p2,n2,c2⟩:Gr)]),gsF [(⟨((w1:Nat):Int),((vh1:Nat):Int),m1,p1,n1,c1⟩:Gr),(⟨((w2:Nat):Int),((vh2:Nat):Int),m2,p2,n2,c2⟩:Gr)] [l1,l2],slF (rI .i64) p1 c1 l1,slF (rI .i64) p2 c2 l2]) (fun x:Nat×(Option Addr)×Nat=>n2 - x.1) (0,none,0) (show 0≤n2∧∀j,j<0→0≤pp*l2.getD j 0+xd∧pp*l2.getD j 0+xd≤65535 from by exact ⟨Nat.zero_le _,fun j h=>by omega⟩) ((.e rfl (by first|rfl|(congr 1;omega)|simp_all) (.of rfl)):SubM _ _) (ho:=((.e (i:=0) rfl (by first|rfl|(congr 1;omega)|simp_all) (.of [0,2,2,2] rfl)):PickO _ _ _)) ((.of [0,1,2,3,4] rfl):SelR _ _ _) ?_
     rintro ⟨i,pr,cr⟩ hI
     replace hI:i≤n2∧∀j,j<i→0≤pp*l2.getD j 0+xd∧pp*l2.getD j 0+xd≤65535:=hI
     try dsimp only
     obtain ⟨hi,hall⟩:=hI
     refine zh<|zb<|r_pv rfl rfl (zfa rfl rfl)<|zj<|zd<|zh<|zG rfl (fun h10=> ?_) (fun h10=> ?_)
     ·
      have hm9:=Cr.mul19 hpb (hg2 i (by omega))
      refine zB<|zd<|zh<|zA<|zh<|zb<|zQ (x0:=(l2.getD i 0)) 4 i rfl Try.underlying22 sz3 rfl rfl rfl (by first|rfl|assumption|exact Cr.scL_len _ _ _ _|(simp_all;done)|omega) rfl rfl (gD (d:=0) (by omega)) (fun b11 o12 hok13=> ?_)
      replace hok13:=zV.1 hok13
      refine r_u rfl rfl (zk (j:=0) 0 ty3 rfl rfl rfl rfl)<|r_pv rfl rfl (zc rfl)<|zj<|zd<|zh<|zVa (X:=Unit) (fun x=>True) (fun x=>[(76,.bool (decide ((pp*(l2.getD i 0))+xd<0∨65535<(pp*(l2.getD i 0))+xd))),(11,.int .i64 (l2.getD i 0)),(59,.int .i64 ((i:Nat):Int)),(58,.int .i64 ((n2:Nat):Int)),(57,.slice p2 n2 c2),(9,.pointer (some ⟨b9,0,none⟩)),(8,.int .i64 xd),(7,.int .i64 pp),(5,.pointer (some ⟨b3,0,none⟩)),(4,.pointer (some ⟨b2,0,none⟩)),(3,.pointer (some ⟨b1,0,none⟩))]) (fun x=>[rowA 3 (rI .i64) pr cr (Cr.scL pp xd l2 i),boxA b9 24 [.int .i64 ((w2:Nat):Int),.int .i64 ((vh2:Nat):Int),.int .i64 65535,.slice pr i cr],boxA b3 34 [.int .i16 ((xx:Nat):Int),.int .i16 ((yy:Nat):Int),.int .i16 xc,.int .i16 xd],boxA b2 24 [.int .i64 ((w2:Nat):Int),.int .i64 ((vh2:Nat):Int),.int .i64 m2,.slice p2 n2 c2],boxA b1 24 [.int .i64 ((w1:Nat):Int),.int .i64 ((vh1:Nat):Int),.int .i64 m1,.slice p1 n1 c1]]) (fun x=>[atF b11 o12 [.int .i64 (l2.getD i 0)],slF rG (some ⟨b5,0,none⟩) 2 ([(⟨((w1:Nat):Int),((vh1:Nat):Int),m1,p1,n1,c1⟩:Gr),(⟨((w2:Nat):Int),((vh2:Nat):Int),m2,p2,n2,c2⟩:Gr)]),slF rG (some ⟨b4,0,none⟩) 2 ([(⟨((w1:Nat):Int),((vh1:Nat):Int),m1,p1,n1,c1⟩:Gr),(⟨((w2:Nat):Int),((vh2:Nat):Int),m2,p2,n2,c2⟩:Gr)]),gsF [(⟨((w1:Nat):Int),((vh1:Nat):Int),m1,p1,n1,c1⟩:Gr),(⟨((w2:Nat):Int),((vh2:Nat):Int),m2,p2,n2,c2⟩:Gr)] [l1,l2],slF (rI .i64) p1 c1 l1,slF (rI .i64) p2 c2 l2]) ?_ ?_
      ·
       refine zb<|r_pv rfl rfl (za rfl)<|r_pv rfl rfl (za rfl)<|r_pv rfl rfl (zsa (z:=(pp*(l2.getD i 0))) rfl rfl (w64 (by omega)))<|r_pv rfl rfl (za rfl)<|r_pv rfl rfl (zE (z:=((pp*(l2.getD i 0))+xd)) rfl rfl (w64 (by omega)))<|r_pv rfl rfl (zfa rfl rfl)<|zda rfl rfl (za rfl) (fun h14=> ?_) (fun h14=> ?_)
       ·
        refine zf rfl rfl<|zf rfl rfl<|zf rfl rfl<|zf rfl rfl<|zf rfl rfl<|zf rfl rfl<|r_pv rfl rfl (zv rfl rfl)<|zj ?_
        exact zma () (show True from by first|trivial|omega|simp_all) ((.e rfl (congrArg Value.bool (by exact Eq.symm (decide_eq_true (by omega)))) (.of rfl)):SubM _ _) (ho:=((.of [0,0,0,0,0] rfl):PickO _ _ _)) ((.of [0,1,2,3,4,5] rfl):SelR _ _ _)
       ·
        refine r_pv rfl rfl (za rfl)<|r_pv rfl rfl (za rfl)<|r_pv rfl rfl (zsa (z:=(pp*(l2.getD i 0))) rfl rfl (w64 (by omega)))<|r_pv rfl rfl (za rfl)<|r_pv rfl rfl (zE (z:=((pp*(l2.getD i 0))+xd)) rfl rfl (w64 (by omega)))<|r_pv rfl rfl (zta rfl rfl)<|r_pv rfl rfl (zv rfl rfl)<|zj ?_
        exact zma () (show True from by first|trivial|omega|simp_all) ((.e rfl (congrArg Value.bool (by exact decide_eq_decide.2 (by constructor <;> intro k <;> omega))) (.of rfl)):SubM _ _) (ho:=((.of [0,0,0,0,0] rfl):PickO _ _ _)) ((.of [0,1,2,3,4,5] rfl):SelR _ _ _)
      ·
       rintro ⟨⟩ -
       try dsimp only
       refine zG rfl (fun hb=> ?_) (fun hb=> ?_)
       ·
        refine zh<|zb<|r_pv rfl rfl (zc rfl)<|zj<|zd<|zH<|zn<|zW<|zn<|zn<|zW<|zn ?_
        exact zy Try.results4 () trivial (zo rfl) rfl (ho:=(.n:PickO _ _ _)) (.n:SelR _ _ _)
       ·
        refine zB<|zd<|zb<|r_pv rfl rfl (zg Try.underlying24 rfl sz22 rfl rfl)<|r_u rfl rfl (zi 1 ty22 rfl rfl rfl)<|r_pv rfl rfl (za rfl)<|r_pv rfl rfl (za rfl)<|r_pv rfl rfl (zsa (z:=(pp*(l2.getD i 0))) rfl rfl (w64 (by omega)))<|r_pv rfl rfl (za rfl)<|r_pv rfl rfl (zE (z:=((pp*(l2.getD i 0))+xd)) rfl rfl (w64 (by omega)))<|zwa rfl rfl (zO (enc:=fun z:Int=>[.int .i64 z]) (ok:=InK .i64) (h1:=fun _=>rfl) (h2:=fun _=>rfl) (k:=1) Try.underlying22 inf3 rfl (by decide) (by decide) (by decide) (.c (x:=((pp*(l2.getD i 0))+xd)) rfl rfl (fun _ _=>by exact zV.2 (by omega)) .n)) (fun b15 _=> ?_)
        refine zga 0 rfl .z<|zza 1 rfl rfl rfl (zva 0 rfl Try.underlying22 inf3 (by decide) rfl rfl (by first|rfl|assumption|exact Cr.scL_len _ _ _ _|(simp_all;done)|omega) rfl (by first|rfl|assumption|exact Cr.scL_len _ _ _ _|(simp_all;done)|omega) (by omega) (by omega)) (fun _=>(.s .z)) ?_
        rintro ⟨p16,c17⟩ -
        dsimp only [List.append_eq,List.nil_append,List.cons_append]
        refine r_pv rfl rfl (zg Try.underlying24 rfl sz22 rfl rfl)<|zm 2 rfl rfl rfl rfl rfl sz22 rfl (.skip (.skip (.skip (.take .nil)))) (.s (.s .z))<|zj<|zU<|zd<|zb<|r_pv rfl rfl (zE (z:=(((i+1):Nat):Int)) rfl rfl (w64 (by omega)))<|r_pv rfl rfl (za rfl)<|zj ?_
        have e18:((Cr.scL pp xd l2 i)++([((pp*(l2.getD i 0))+xd)]))=(Cr.scL pp xd l2 (i+1)):=by rfl
        rw [e18]
        have e19:i+1=(i+1):=by rfl
        rw [e19]
        refine zha ((i+1),p16,c17) (show (i+1)≤n2∧∀j,j<(i+1)→0≤pp*l2.getD j 0+xd∧pp*l2.getD j 0+xd≤65535 from by refine ⟨by omega,fun j hj=> ?_⟩;by_cases e:j=i;subst e;exact Cr.nor9 hb;exact hall j (by omega)) (by show n2 - (i+1)<n2 - i;omega) ((.e rfl (by first|rfl|(congr 1;omega)|simp_all) (.of rfl)):SubM _ _) (ho:=((.e (i:=1) rfl (by first|rfl|(congr 1;omega)|simp_all) (.of [1,1,1,1] rfl)):PickO _ _ _)) ((.of [2,3,4,5,6] rfl):SelR _ _ _)
     ·
      refine zia<|zl<|zl<|zw<|zd<|zh ?_
      have hi9:i=n2:=by omega
      have hr3:Cr.rk2 ((w1:Nat):Int) ((vh1:Nat):Int) m1 l1 ((w2:Nat):Int) ((vh2:Nat):Int) 65535 (Cr.scL pp xd l2 i):=⟨hok.1,Cr.rok_sc hok.2 hwh2 hi9 hall⟩
      refine zb<|r_u rfl rfl (ze 4 ty24 rfl rfl (.take (.take (.take (.take .nil)))))<|r_u rfl rfl (ze 3 ty24 rfl rfl (.take (.take (.take (.take .nil)))))<|r_pv rfl rfl (zna (i:=0) Try.underlying34 sz33 rfl rfl (by decide) rfl)<|r_u rfl rfl (zi 2 ty33 rfl rfl rfl)<|r_pv rfl rfl (zr (z:=((xx:Nat):Int)) rfl (by rw [Try.underlying33];rfl) Try.underlying3 (w64 (by omega)))<|r_pv rfl rfl (zna (i:=1) Try.underlying34 sz33 rfl rfl (by decide) rfl)<|r_u rfl rfl (zi 2 ty33 rfl rfl rfl)<|r_pv rfl rfl (zr (z:=((yy:Nat):Int)) rfl (by rw [Try.underlying33];rfl) Try.underlying3 (w64 (by omega)))<|zx rfl rfl (.c rfl (.c rfl (.c rfl (.c rfl .n)))) ce12 (zpc (wi1:=((w1:Nat):Int)) (hi1:=((vh1:Nat):Int)) (m1:=m1) (p1:=p1) (n1:=n1) (c1:=c1) (l1:=l1) (wi2:=((w2:Nat):Int)) (hi2:=((vh2:Nat):Int)) (m2:=m2) (p2:=p2) (n2:=n2) (c2:=c2) (l2:=l2) (ex:=((xx:Nat):Int)) (ey:=((yy:Nat):Int)) (hn1:=by assumption) (hn2:=by assumption)) (.c (j:=3) rfl (.c (j:=4) rfl .n)) ?_
      rintro ⟨w320,w421⟩ hy22
      dsimp only [List.append_eq,List.nil_append,List.cons_append]
      replace hy22:(Cr.sok ((w1:Nat):Int) ((vh1:Nat):Int) m1 l1 ((w2:Nat):Int) ((vh2:Nat):Int) m2 l2 ((xx:Nat):Int) ((yy:Nat):Int))∨(w320=wz∧w421=wz):=hy22
      have e23:((if (Cr.rk2 ((w1:Nat):Int) ((vh1:Nat):Int) m1 l1 ((w2:Nat):Int) ((vh2:Nat):Int) m2 l2) then (if (Cr.pos ((w1:Nat):Int) ((vh1:Nat):Int) ((w2:Nat):Int) ((vh2:Nat):Int) ((xx:Nat):Int) ((yy:Nat):Int)) then 0 else 15) else 1):Int)=0:=by simp only [if_pos hok,if_pos hp9]
      rw [e23]
      have e24:((if (Cr.sok ((w1:Nat):Int) ((vh1:Nat):Int) m1 l1 ((w2:Nat):Int) ((vh2:Nat):Int) m2 l2 ((xx:Nat):Int) ((yy:Nat):Int)) then (Cr.scq l1 l2 ((w1:Nat):Int) ((vh1:Nat):Int) ((w2:Nat):Int) ((xx:Nat):Int) ((yy:Nat):Int)) else 0):Rat)=(Cr.scq l1 l2 ((w1:Nat):Int) ((vh1:Nat):Int) ((w2:Nat):Int) ((xx:Nat):Int) ((yy:Nat):Int)):=by exact if_pos hg9
      rw [e24]
      have e25:(decide (Cr.sok ((w1:Nat):Int) ((vh1:Nat):Int) m1 l1 ((w2:Nat):Int) ((vh2:Nat):Int) m2 l2 ((xx:Nat):Int) ((yy:Nat):Int)))=true:=by exact decide_eq_true hg9
      rw [e25]
      refine r_pv rfl rfl (za rfl)<|r_pv rfl rfl (zq rfl rfl)<|r_pv rfl rfl (zq rfl rfl)<|zJ rfl rfl (zC zr40 rfl) (fun b26=> ?_)
      refine zm 0 rfl rfl rfl rfl rfl sz40 rfl (.take (.take (.take (.take .nil)))) .z<|r_pv rfl rfl (zc rfl)<|zj<|zd<|zh<|zb<|r_u rfl rfl (ze 5 ty24 rfl rfl (.take (.take (.take (.take .nil)))))<|r_u rfl rfl (ze 2 ty24 rfl rfl (.take (.take (.take (.take .nil)))))<|r_pv rfl rfl (zna (i:=0) Try.underlying34 sz33 rfl rfl (by decide) rfl)<|r_u rfl rfl (zi 3 ty33 rfl rfl rfl)<|r_pv rfl rfl (zr (z:=((xx:Nat):Int)) rfl (by rw [Try.underlying33];rfl) Try.underlying3 (w64 (by omega)))<|r_pv rfl rfl (zna (i:=1) Try.underlying34 sz33 rfl rfl (by decide) rfl)<|r_u rfl rfl (zi 3 ty33 rfl rfl rfl)<|r_pv rfl rfl (zr (z:=((yy:Nat):Int)) rfl (by rw [Try.underlying33];rfl) Try.underlying3 (w64 (by omega)))<|zga 1 rfl (.s .z)<|zx rfl rfl (.c rfl (.c rfl (.c rfl (.c rfl .n)))) ce12 (zpc (wi1:=((w1:Nat):Int)) (hi1:=((vh1:Nat):Int)) (m1:=m1) (p1:=p1) (n1:=n1) (c1:=c1) (l1:=l1) (wi2:=((w2:Nat):Int)) (hi2:=((vh2:Nat):Int)) (m2:=65535) (p2:=pr) (n2:=i) (c2:=cr) (l2:=(Cr.scL pp xd l2 i)) (ex:=((xx:Nat):Int)) (ey:=((yy:Nat):Int)) (hn1:=by assumption) (hn2:=by exact Cr.scL_len _ _ _ _)) (.c (j:=5) rfl (.c (j:=0) rfl .n)) ?_
      rintro ⟨w327,w428⟩ hy29
      dsimp only [List.append_eq,List.nil_append,List.cons_append]
      replace hy29:(Cr.sok ((w1:Nat):Int) ((vh1:Nat):Int) m1 l1 ((w2:Nat):Int) ((vh2:Nat):Int) 65535 (Cr.scL pp xd l2 i) ((xx:Nat):Int) ((yy:Nat):Int))∨(w327=wz∧w428=wz):=hy29
      have e30:((if (Cr.rk2 ((w1:Nat):Int) ((vh1:Nat):Int) m1 l1 ((w2:Nat):Int) ((vh2:Nat):Int) 65535 (Cr.scL pp xd l2 i)) then (if (Cr.pos ((w1:Nat):Int) ((vh1:Nat):Int) ((w2:Nat):Int) ((vh2:Nat):Int) ((xx:Nat):Int) ((yy:Nat):Int)) then 0 else 15) else 1):Int)=0:=by simp only [if_pos hr3,if_pos hp9]
      rw [e30]
      have e31:((if (Cr.sok ((w1:Nat):Int) ((vh1:Nat):Int) m1 l1 ((w2:Nat):Int) ((vh2:Nat):Int) 65535 (Cr.scL pp xd l2 i) ((xx:Nat):Int) ((yy:Nat):Int)) then (Cr.scq l1 (Cr.scL pp xd l2 i) ((w1:Nat):Int) ((vh1:Nat):Int) ((w2:Nat):Int) ((xx:Nat):Int) ((yy:Nat):Int)) else 0):Rat)=(if 0<pp then (Cr.scq l1 l2 ((w1:Nat):Int) ((vh1:Nat):Int) ((w2:Nat):Int) ((xx:Nat):Int) ((yy:Nat):Int)) else - (Cr.scq l1 l2 ((w1:Nat):Int) ((vh1:Nat):Int) ((w2:Nat):Int) ((xx:Nat):Int) ((yy:Nat):Int))):=by exact (if_pos ⟨hr3,hp9⟩).trans (Cr.scq_scale hn1 hwh1 hwh2 hw1.1 hx hy hi9 hz)
      rw [e31]
      have e32:(decide (Cr.sok ((w1:Nat):Int) ((vh1:Nat):Int) m1 l1 ((w2:Nat):Int) ((vh2:Nat):Int) 65535 (Cr.scL pp xd l2 i) ((xx:Nat):Int) ((yy:Nat):Int)))=true:=by exact decide_eq_true ⟨hr3,hp9⟩
      rw [e32]
      refine r_pv rfl rfl (za rfl)<|r_pv rfl rfl (zq rfl rfl)<|r_pv rfl rfl (zq rfl rfl)<|zJ rfl rfl (zC zr40 rfl) (fun b33=> ?_)
      refine zm 0 rfl rfl rfl rfl rfl sz40 rfl (.take (.take (.take (.take .nil)))) .z<|r_pv rfl rfl (zc rfl)<|zj<|zd<|zh<|zh<|zb<|r_pv rfl rfl (za rfl)<|r_pv rfl rfl (zEa rfl rfl) ?_
      rw [Cr.self_ne]
      refine r_pv rfl rfl (za rfl)<|r_pv rfl rfl (za rfl)<|r_pv rfl rfl (zEa rfl rfl) ?_
      rw [Cr.self_ne]
      refine r_pv rfl rfl (zv rfl rfl)<|zj<|zd<|zXa rfl rfl<|zB<|zd<|zh<|zh<|zb<|r_pv rfl rfl (za rfl)<|r_pv rfl rfl (zfa rfl rfl)<|zj<|zd<|zG rfl (fun hneg=> ?_) (fun hneg=> ?_)
      ·
       have e34:((if 0<pp then (Cr.scq l1 l2 ((w1:Nat):Int) ((vh1:Nat):Int) ((w2:Nat):Int) ((xx:Nat):Int) ((yy:Nat):Int)) else - (Cr.scq l1 l2 ((w1:Nat):Int) ((vh1:Nat):Int) ((w2:Nat):Int) ((xx:Nat):Int) ((yy:Nat):Int))):Rat)=(- (Cr.scq l1 l2 ((w1:Nat):Int) ((vh1:Nat):Int) ((w2:Nat):Int) ((xx:Nat):Int) ((yy:Nat):Int))):=by exact if_neg (by omega)
       rw [e34]
       have hq7:Big.hq (- (Cr.scq l1 l2 ((w1:Nat):Int) ((vh1:Nat):Int) ((w2:Nat):Int) ((xx:Nat):Int) ((yy:Nat):Int)))≤6:=by rw [Big.hq_neg];exact hq6
       refine zb<|r_u rfl rfl (ze 0 ty40 rfl rfl (.take (.take (.take (.take .nil)))))<|zx rfl rfl (.c rfl .n) ce13 (znd (k1:=true) (u1:=w327) (v1:=w428) (q1:=(- (Cr.scq l1 l2 ((w1:Nat):Int) ((vh1:Nat):Int) ((w2:Nat):Int) ((xx:Nat):Int) ((yy:Nat):Int)))) (hl:=by first|rfl|assumption|omega|(rw [Big.hq_neg];omega))) (.c (j:=0) rfl .n) ?_
       rintro ⟨w335,w436⟩ -
       dsimp only [List.append_eq,List.nil_append,List.cons_append]
       refine zm 0 rfl rfl rfl rfl rfl sz40 rfl (.take (.take (.take (.take .nil)))) .z<|zj<|zd<|zh ?_
       have e37:(- (- (Cr.scq l1 l2 ((w1:Nat):Int) ((vh1:Nat):Int) ((w2:Nat):Int) ((xx:Nat):Int) ((yy:Nat):Int))):Rat)=(Cr.scq l1 l2 ((w1:Nat):Int) ((vh1:Nat):Int) ((w2:Nat):Int) ((xx:Nat):Int) ((yy:Nat):Int)):=by exact Rat.neg_neg _
       rw [e37]
       refine zb<|r_u rfl rfl (ze 1 ty40 rfl rfl (.take (.take (.take (.take .nil)))))<|r_u rfl rfl (ze 0 ty40 rfl rfl (.take (.take (.take (.take .nil)))))<|zP rfl rfl (.c rfl (.c rfl .n)) ce14 (ztb (u1:=w320) (v1:=w421) (q1:=(Cr.scq l1 l2 ((w1:Nat):Int) ((vh1:Nat):Int) ((w2:Nat):Int) ((xx:Nat):Int) ((yy:Nat):Int))) (u2:=w335) (v2:=w436) (q2:=(Cr.scq l1 l2 ((w1:Nat):Int) ((vh1:Nat):Int) ((w2:Nat):Int) ((xx:Nat):Int) ((yy:Nat):Int))) (hl:=by first|rfl|assumption|omega)) (.c (j:=3) rfl (.c (j:=0) rfl .n)) ?_
       rw [Cr.self_eq]
       refine r_pv rfl rfl (zc rfl)<|zj<|zd<|zH ?_
       exact zy Try.results4 () trivial (zo rfl) rfl (ho:=(.n:PickO _ _ _)) (.n:SelR _ _ _)
      ·
       have e38:((if 0<pp then (Cr.scq l1 l2 ((w1:Nat):Int) ((vh1:Nat):Int) ((w2:Nat):Int) ((xx:Nat):Int) ((yy:Nat):Int)) else - (Cr.scq l1 l2 ((w1:Nat):Int) ((vh1:Nat):Int) ((w2:Nat):Int) ((xx:Nat):Int) ((yy:Nat):Int))):Rat)=(Cr.scq l1 l2 ((w1:Nat):Int) ((vh1:Nat):Int) ((w2:Nat):Int) ((xx:Nat):Int) ((yy:Nat):Int)):=by exact if_pos (by omega)
       rw [e38]
       refine zB<|zd<|zh<|zb<|r_u rfl rfl (ze 1 ty40 rfl rfl (.take (.take (.take (.take .nil)))))<|r_u rfl rfl (ze 0 ty40 rfl rfl (.take (.take (.take (.take .nil)))))<|zP rfl rfl (.c rfl (.c rfl .n)) ce14 (ztb (u1:=w320) (v1:=w421) (q1:=(Cr.scq l1 l2 ((w1:Nat):Int) ((vh1:Nat):Int) ((w2:Nat):Int) ((xx:Nat):Int) ((yy:Nat):Int))) (u2:=w327) (v2:=w428) (q2:=(Cr.scq l1 l2 ((w1:Nat):Int) ((vh1:Nat):Int) ((w2:Nat):Int) ((xx:Nat):Int) ((yy:Nat):Int))) (hl:=by first|rfl|assumption|omega)) (.c (j:=2) rfl (.c (j:=0) rfl .n)) ?_
       rw [Cr.self_eq]
       refine r_pv rfl rfl (zc rfl)<|zj<|zd<|zH ?_
       exact zy Try.results4 () trivial (zo rfl) rfl (ho:=(.n:PickO _ _ _)) (.n:SelR _ _ _)
end Go.Proofs.Ytkamccndgblheaa.Sp
